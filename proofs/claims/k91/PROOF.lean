import PyProof.Rows.All
import HandS.ForMost
import HandS.Exc
import HandS.Walk
import HandS.WideBits
import HandS.TupMul
import HandS.TupAny
import HandS.Conv
import HandS.Zip
import HandS.Strs
import HandS.ReCall
import KE.GoesEnum
import KE.GoesNew
import KE.GoesZip
import KE.KDictKeyed
import HandS.Wide
import HandS.SortOrd
import HandS.SortInts
import HandS.SortRule
import HandS.TupSets
import HandS.RaiseMore
import HandS.Deep
import HandS.Style
import HandS.IsInst
import HandS.SetFor
import HandS.NoneIn
import HandS.ExcOwn
import KE.KTupSum
import Wide.Txt2
import PyProof.ReprRoads
import HandS.WordsExc
import HandS.EndBits
import HandS.ExcInit
import KE.KExcInit
import KE.KExcIs
import KE.KTryMore
import KE.KIndexOf
import KE.DatumOrd
import HandS.Flt
import HandS.Small
import HandS.Iter
import HandS.TupLe
import KE.KSortTupAny
import KE.KDictSum
import KE.KDictCopyH
import HandS.TupLen
import KE.KDictDisplayH
import KE.GoesEnumKw
import KE.GoesMore
import HandS.SortKw
import PyProof.Rows.SeqMore
import PyProof.TupleOfGen
import KE.DataMinMax
import HandS.DictComp
import KE.KDictWalk
import PyProof.Rows.DictUnroll
import KE.KDictPairs
import PyProof.FactsAll.dict_4
import PyProof.MinMaxWalk
import PyProof.WalkInts
import PyProof.SeqI3
import HandS.Text
import PyProof.StrOps2
import KE.IntTextLaws
import HandS.Codes
import PyProof.ListStr
import OpenK.KOps
import HandS.FStr
import PySem.Challenge.RW_tollround_k91_errors_made
set_option Elab.async false
local macro_rules | `(↥$x) => `(some (.fr (.int $x)))
local macro_rules | `(⇑$x) => `(some (.fr $x))
set_option linter.all false
set_option maxRecDepth 100000
set_option maxHeartbeats 4000000
section
set_option maxHeartbeats 2000000
namespace DM
open PySem PySem.Spec PyProof.Rows L2
def Nd (o:Obj):Prop:=o.cls=.type "tuple"∧o.dict=none
def dO (its:List Value):Obj:={ cls:=.type "tuple",data:=.seq its.toArray }
theorem nQ (its:List Value):Nd (dO its):=⟨rfl,rfl⟩
def RW (H:Hp) (a:Addr) (xs:List V):Prop:=∃o,Nd o∧H a=some (.frz o (.tup xs))
theorem RW.Di {K:PySem.W.Frag} {H:Hp} {a:Addr} {xs:List V} (h:RW H a xs):SqT K H a xs:=by
 obtain ⟨o,_,e⟩:=h
 exact .inl (.inr ⟨o,e⟩)
abbrev Ks (H:Hp) (Q:VK) (xs:List V):Prop:=∀(o:Obj) (p:Addr),Nd o→H p=none→Q (.ref p) (upd H p (.frz o (.tup xs)))
section
variable {X:Cx} {pins:List (Addr × Obj)} {σ:L2.St} {H:Hp} {s:Shared} {xs:List V} {its:List Value} {Q:VK}
theorem laidN (I:Inv X pins σ H s) (hz:xs.length≤sizeLine) (rv:Vals xs its) (q:Ks H Q xs) :
  EP X pins σ Q (.ref s.heap.objs.size) { s with heap:=s.heap.push (dO its) }:=by
 have new:(s.heap.push (dO its)).get? s.heap.objs.size=some (dO its):=Heap.get?_push_size _ rfl
 have ok:ObjOk X.prog X.w (upd H s.heap.objs.size (.frz (dO its) (.tup xs))) (s.heap.push (dO its)) s.heap.objs.size (.frz (dO its) (.tup xs)):=⟨new,hz,its,rv,_,new,rfl,_,rfl⟩
 exact ⟨.ref s.heap.objs.size,_,I.laid (t':=s.toks) (fun c u e=>Heap.get?_push_of_some _ e) (Nat.le_refl _) ok,rfl,q _ _ (nQ its) (I.hok.fresh (Nat.le_refl _))⟩
end
/-! the display -/
def Vk (t:TA):TE:=fun σ H Q=>t σ H fun xs H1=>xs.length≤sizeLine∧Ks H1 Q xs
theorem R5 {X:Cx} {es:List Expr} {k:Nat} {pos:Pos} {t:TA} (h:PA X es t):PE X (.Tuple es k pos) (Vk t) :=
 ⟨fun pins s σ H Q I hq=>wpAny_Tuple_spliced (thn (h.run pos pins s σ H _ I hq) fun _ _ ⟨_,_,J,rv,hz,q⟩=>⟨rv.length▸hz,laidN J hz rv q⟩)⟩
/-! together, many times, a part -/
def Vm (K:PySem.W.Frag):R2:=fun x y H Q=>∃a b xs ys,x=.ref a∧y=.ref b∧SqT K H a xs∧SqT K H b ys∧xs.length+ys.length≤sizeLine ∧
 (xs=[]→Q (.ref b) H)∧(xs≠[]→ys=[]→Q (.ref a) H)∧(xs≠[]→ys≠[]→Ks H Q (xs++ys))
theorem R6 {X:Cx}:OpR X (binaryOp .Add) (Vm X.K):=by
 intro pins s σ H x y v u Q I rx ry h
 obtain ⟨a,b,xs,ys,rfl,rfl,ha,hb,hz,q0,q1,q2⟩:=h
 by_cases hx:xs=[]
 ·exact op_catA pins s σ H _ _ v u Q I rx ry ⟨a,b,xs,ys,rfl,rfl,ha,hb,hz,q0,q1,fun z=>absurd hx z⟩
 ·by_cases hy:ys=[]
  ·exact op_catA pins s σ H _ _ v u Q I rx ry ⟨a,b,xs,ys,rfl,rfl,ha,hb,hz,q0,q1,fun _ z=>absurd hy z⟩
  ·cases rx
   cases ry
   obtain ⟨l1,w1,t1,_⟩:=I.tuple ha
   obtain ⟨l2,w2,t2,_⟩:=I.tuple hb
   exact HT.cat_tup t1 t2 (fun z=>hx (w1.nil_iff.mp z)) (fun z=>absurd (w2.nil_iff.mp z) hy) (fun _=>laidN (its:=l1++l2) I (by rw [List.length_append]; exact hz) (w1.append w2) (q2 hx hy)) (by rw [← w1.length,← w2.length]; exact hz)
def Vn (K:PySem.W.Frag):R2:=fun x y H Q=>∃l k xs,x=.ref l∧y=.int k∧SqT K H l xs∧xs≠[]∧2≤k∧k≤1000∧xs.length≤1000∧Ks H Q (List.replicate k.toNat xs).flatten
theorem R7 {X:Cx}:OpR X (binaryOp .Mult) (Vn X.K):=by
 intro pins s σ H x y v u Q I rx ry h
 obtain ⟨a,k,xs,rfl,rfl,hT,hne,k1,k2,k3,q⟩:=h
 cases rx
 obtain ⟨t,rfl⟩:=ry
 obtain ⟨vs,rv,⟨ob,gob,cob,n,dob⟩,_⟩:=I.tuple hT
 obtain ⟨oc,od,odt,osl⟩:=ob
 simp only at cob dob
 subst cob dob
 have el:vs.length=xs.length:=rv.length.symm
 have vne:vs.toArray.isEmpty=false:=by
  cases vs with
  | nil=>exact absurd (List.eq_nil_of_length_eq_zero el.symm) hne
  | cons=>rfl
 have esz:vs.toArray.size=xs.length:=by rw [List.size_toArray,el]
 have mul:k.toNat*xs.length≤1000*1000:=Nat.mul_le_mul (by omega) k3
 have akn:((vs.toArray.size:Nat):Int)*k≤1000000:=by
  rw [esz]
  exact Int.le_trans (Int.mul_le_mul_of_nonneg_right (show ((xs.length:Nat):Int)≤1000 by omega) (by omega)) (by omega)
 have fl:∀{α:Type} (l:List α),l.length=xs.length→(List.replicate k.toNat l).flatten.length≤sizeLine:=fun l e=>by
  rw [lm_len_rep_flat,e,sizeLine_eq]
  omega
 have d0:(decide (k < -(2^63)) || decide (k≥2^63))=false:=by rw [Bool.or_eq_false_iff]; exact ⟨decide_eq_false (by omega),decide_eq_false (by omega)⟩
 have d1:(vs.toArray.isEmpty || k == 1)=false:=by rw [Bool.or_eq_false_iff]; exact ⟨vne,beq_eq_false_iff_ne.mpr (by omega)⟩
 have d2:(decide (k≤0) || vs.toArray.isEmpty)=false:=by rw [Bool.or_eq_false_iff]; exact ⟨decide_eq_false (by omega),vne⟩
 have d4:Builtin.Tuple.tupleTooMany (((vs.toArray.size:Nat):Int)*k)=false:=by
  unfold Builtin.Tuple.tupleTooMany
  rw [sizeLine_eq]
  exact decide_eq_false (show ¬_ by omega)
 refine wpAny_binaryOp_repeat_ref (T := "tuple") (U := "int") (by decide) ⟨_,gob,rfl⟩ (fun s1=>typeIs_int s1 k t) noFill_tuple_mul F.fills_int_mul F.slot_int_rmul repeat_tuple F.slot_int_index.lookup
  (call_meets F.slot_int_rmul (typeIs_int s k t) F.entry_int_rmul (F.args_int_rmul_2 _ _) (int_rmul_tuple k t a vs.toArray n od osl) ⟨gob,rfl,⟨_,gob,rfl⟩,?_⟩)
 refine call_meets F.slot_tuple_mul ⟨_,gob,rfl⟩ F.entry_tuple_mul (F.args_tuple_mul_2 _ _) (tuple_mulW a vs.toArray n od osl k t d0 d1 d2 (by omega) d4 (by rw [size_rep,List.size_toArray]; exact fl vs el)) ⟨gob,?_⟩
 rw [size_rep]
 exact laidN (its:=(List.replicate k.toNat vs).flatten) I (fl xs rfl) (rv.rep k.toNat) q
def abq (K:PySem.W.Frag):V→Option Int→Option Int→Hp→VK→Prop:=fun x lo hi H Q=>∃a xs,x=.ref a∧SqT K H a xs ∧
 (HT.sIx xs.length 0 lo=0∧HT.sIx xs.length xs.length hi=xs.length→Q (.ref a) H)∧(¬(HT.sIx xs.length 0 lo=0∧HT.sIx xs.length xs.length hi=xs.length)→Ks H Q (cutV xs lo hi))
theorem R8 {X:Cx}:SlR X (abq X.K):=by
 intro pins s σ H x v vl vu lo hi sl Q I rx hs pl pu h
 obtain ⟨a,xs,rfl,hx,q1,q2⟩:=h
 by_cases hw:HT.sIx xs.length 0 lo=0∧HT.sIx xs.length xs.length hi=xs.length
 ·exact sl_tupA pins s σ H _ v vl vu lo hi sl Q I rx hs pl pu ⟨a,xs,rfl,hx,q1,fun z=>absurd hw z⟩
 ·cases rx
  obtain ⟨vs,rv,ht,hz⟩:=I.tuple hx
  have el:vs.toArray.size=xs.length:=by rw [List.size_toArray]; exact rv.length.symm
  refine ⟨"tuple",_,PyProof.Rows.slot_tuple_getitem.lookup,ht.typeIs,HT.getItem_tuple_cut ht hs pl pu (by rw [el]; exact hw) ?_ (by rw [el]; exact hz)⟩
  rw [el]
  exact laidN (its:=(vs.drop (HT.sIx xs.length 0 lo)).take (HT.sIx xs.length xs.length hi - HT.sIx xs.length 0 lo)) I (Nat.le_trans (cutV_length xs lo hi) hz) ((rv.drop _).take _) (q2 hw)
/-! tuple(..), divmod -/
end DM
end
section
set_option maxHeartbeats 2000000
namespace DM
open PySem PySem.Spec PyProof.Rows L2
mutual
def R9:NestedKey→Bool
 | .none=>true
 | .num _=>true
 | .text _=>false
 | .tup ks=>nkIs ks
def nkIs:List NestedKey→Bool
 | []=>true
 | k::ks=>R9 k&&nkIs ks
end
mutual
def hsh:NestedKey→Int
 | .none=>reduceHash 0xFCA86420
 | .num i=>hashInt i
 | .text _=>0
 | .tup ks=>reduceHash (Builtin.Tuple.tupleHashOf (Ku ks))
def Ku:List NestedKey→List Int
 | []=>[]
 | k::ks=>hsh k::Ku ks
end
mutual
theorem Xf (w:World):∀k:NestedKey,R9 k=true→k.hash w=hsh k
 | .none,_=>rfl
 | .num _,_=>rfl
 | .text _,h=>by cases h
 | .tup ks,h=>by
  show reduceHash (Builtin.Tuple.tupleHashOf (NestedKey.hashes w ks))=reduceHash (Builtin.Tuple.tupleHashOf (Ku ks))
  rw [Dj w ks h]
theorem Dj (w:World):∀ks:List NestedKey,nkIs ks=true→NestedKey.hashes w ks=Ku ks
 | [],_=>rfl
 | k::ks,h=>by
  have h':(R9 k&&nkIs ks)=true:=h
  rw [Bool.and_eq_true] at h'
  show NestedKey.hash w k::NestedKey.hashes w ks=hsh k::Ku ks
  rw [Xf w k h'.1,Dj w ks h'.2]
end
abbrev NX:=NestedKey × Addr × Value
def aeo (x:NX):DictEntry:=⟨hsh x.1,.ref x.2.1,x.2.2⟩
def ndP (a:Addr) (zs:List NestedKey) (us vs:List V) (h:Heap):Prop:=zs.length≤sizeLine∧(a == sysModules)=false∧∃(xs:List NX) (o:Obj) (es:Array DictEntry) (ep:Nat),
 xs.map (·.1)=zs∧us=xs.map (fun x=>V.ref x.2.1)∧Vals vs (xs.map (·.2.2))∧h.get? a=some o∧o.ExactDict∧o.data=.dict es ep∧es.toList=xs.map aeo∧zs.Nodup
def ndO (a:Addr) (zs:List NestedKey) (us vs:List V):HO:=.ext (ndP a zs us vs)
theorem ndP.stay {a:Addr} {zs:List NestedKey} {us vs:List V} {h1 h2:Heap} (x:ndP a zs us vs h1) (k:∀o,h1.get? a=some o→h2.get? a=some o):ndP a zs us vs h2:=by
 obtain ⟨z,b,xs,o,es,ep,c1,c2,c3,c4,c5⟩:=x
 exact ⟨z,b,xs,o,es,ep,c1,c2,c3,k o c4,c5⟩
theorem ndP.ok {P:Program} {w:World} {H:Hp} {a:Addr} {zs:List NestedKey} {us vs:List V} {h:Heap} (x:ndP a zs us vs h):ObjOk P w H h a (ndO a zs us vs):=by
 obtain ⟨z,b,xs,o,es,ep,c1,c2,c3,c4,c5⟩:=id x
 exact ⟨x,⟨o,c4⟩,fun h1 h2 p k=>p.stay k⟩
theorem ndO.of {P:Program} {w:World} {H:Hp} {a:Addr} {zs:List NestedKey} {us vs:List V} {h:Heap} (x:ObjOk P w H h a (ndO a zs us vs)):ndP a zs us vs h:=x.1
end DM
end
section
namespace DM
open PySem L2
/-! ### data -/
inductive D where
 | non | bl (b:Bool) | int (i:Int) | str (s:Str)
 | lst (xs:List D) | tup (xs:List D)
 | dct (ks:List D) (vs:List D) | xJ (ks:List D) (vs:List D)
/-! keys of dicts that are tuples -/
mutual
def dZ:D→Option NestedKey
 | .non=>some .none
 | .int i=>some (.num i)
 | .tup ds=>(dJ ds).map .tup
 | _=>none
def dJ:List D→Option (List NestedKey)
 | []=>some []
 | d::ds=>match dZ d,dJ ds with
  | some k,some ks=>some (k::ks)
  | _,_=>none
end
def qI:D→Option NestedKey
 | .tup ds=>(dJ ds).bind fun ks=>if (NestedKey.tup ks).depth≤8 then some (.tup ks) else none
 | _=>none
def PN (H:Hp) (a:Addr) (ks:List D) (us vs:List V):Prop:=∃(o:Obj) (zs:List NestedKey),ks.map qI=zs.map some∧zs.length=us.length∧us.length=vs.length∧H a=some (.frz o (ndO a zs us vs))
def UN (H:Hp) (a:Addr) (ks:List D) (us vs:List V):Prop:=∃zs:List NestedKey,ks.map qI=zs.map some∧zs.length=us.length∧us.length=vs.length∧H a=some (ndO a zs us vs)
def PD (H:Hp) (a:Addr) (us vs:List V):Prop:=∃(o:Obj) (ks:List Key),us=ks.map kV∧ks.length=vs.length∧H a=some (.frz o (.dK (ks.zip vs)))
def UD (H:Hp) (a:Addr) (us vs:List V):Prop:=∃ks:List Key,us=ks.map kV∧ks.length=vs.length∧H a=some (.dK (ks.zip vs))
def BJ:List D→Bool
 | [.non]=>true
 | _=>false
mutual
def Dq (K:PySem.W.Frag) (F:Hp):D→V→Prop
 | .non,v=>v=.non
 | .bl b,v=>v=.bl b
 | .int i,v=>v=.int i
 | .str s,v=>v=.str s
 | .lst ds,v=>∃a vs,v=.ref a∧F a=some (.lst vs)∧aN K F ds vs
 | .tup ds,v=>∃a vs,v=.ref a∧RW F a vs∧aN K F ds vs
 | .dct ks ds,v=>∃a us vs,v=.ref a∧(BJ ks=true∨(PD F a us vs∧aN K F ks us∧aN K F ds vs))
 | .xJ ks ds,v=>∃a us vs,v=.ref a∧PN F a ks us vs∧aN K F ks us∧aN K F ds vs
def aN (K:PySem.W.Frag) (F:Hp):List D→List V→Prop
 | [],vs=>vs=[]
 | d::ds,vs=>∃v r,vs=v::r∧Dq K F d v∧aN K F ds r
end
def Ext (F F':Hp):Prop:=∀b u,F b=some u→F' b=some u
theorem Ext.refl (F:Hp):Ext F F:=fun _ _ h=>h
theorem Ext.trans {F G J:Hp} (a:Ext F G) (b:Ext G J):Ext F J:=fun c u h=>b c u (a c u h)
theorem Ext.xP {K:PySem.W.Frag} {F F':Hp} {a:Addr} {xs:List V} (e:Ext F F') (h:SqT K F a xs):SqT K F' a xs:=by
 rcases h with (h | ⟨o,h⟩) | h
 ·exact .inl (.inl (e _ _ h))
 ·exact .inl (.inr ⟨o,e _ _ h⟩)
 ·exact .inr h
theorem UD.mono {H H':Hp} {a:Addr} {us vs:List V} (h:UD H a us vs) (e:∀u,H a=some u→H' a=some u):UD H' a us vs:=by
 obtain ⟨ks,h1,h2,h3⟩:=h
 exact ⟨ks,h1,h2,e _ h3⟩
def RD (H:Hp) (a:Addr) (us vs:List V):Prop:=∃ks:List Key,us=ks.map kV∧ks.length=vs.length∧Rd H a (.dK (ks.zip vs))
theorem PD.rd {H:Hp} {a:Addr} {us vs:List V} (h:PD H a us vs):RD H a us vs:=by
 obtain ⟨o,ks,h1,h2,h3⟩:=h
 exact ⟨ks,h1,h2,.inr ⟨o,h3⟩⟩
theorem UD.rd {H:Hp} {a:Addr} {us vs:List V} (h:UD H a us vs):RD H a us vs:=by
 obtain ⟨ks,h1,h2,h3⟩:=h
 exact ⟨ks,h1,h2,.inl h3⟩
theorem PD.mono {H H':Hp} {a:Addr} {us vs:List V} (h:PD H a us vs) (e:∀u,H a=some u→H' a=some u):PD H' a us vs:=by
 obtain ⟨o,ks,h1,h2,h3⟩:=h
 exact ⟨o,ks,h1,h2,e _ h3⟩
theorem PN.mono {H H':Hp} {a:Addr} {ks:List D} {us vs:List V} (h:PN H a ks us vs) (e:∀u,H a=some u→H' a=some u):PN H' a ks us vs:=by
 obtain ⟨o,zs,h1,h2,h3,h4⟩:=h
 exact ⟨o,zs,h1,h2,h3,e _ h4⟩
theorem UN.mono {H H':Hp} {a:Addr} {ks:List D} {us vs:List V} (h:UN H a ks us vs) (e:∀u,H a=some u→H' a=some u):UN H' a ks us vs:=by
 obtain ⟨zs,h1,h2,h3,h4⟩:=h
 exact ⟨zs,h1,h2,h3,e _ h4⟩
theorem Ext.sqN {F F':Hp} {a:Addr} {xs:List V} (e:Ext F F') (h:RW F a xs):RW F' a xs:=by
 obtain ⟨o,n,h⟩:=h
 exact ⟨o,n,e _ _ h⟩
theorem Ext.Di {K:PySem.W.Frag} {F F':Hp} {a:Addr} {xs:List V} (e:Ext F F') (h:RW F a xs):SqT K F' a xs:=(e.sqN h).Di
theorem Ext.BK {K:PySem.W.Frag} {F F':Hp} {a:Addr} {xs:List V} (e:Ext F F') (h:SqL K F a xs):SqL K F' a xs:=by
 rcases h with (h | ⟨o,h⟩) | h
 ·exact .inl (.inl (e _ _ h))
 ·exact .inl (.inr ⟨o,e _ _ h⟩)
 ·exact .inr h
theorem Ext.new {F:Hp} {p:Addr} {o:HO} (h:F p=none):Ext F (upd F p o):=fun a u e=>by
 rw [upd_ne (ne_of_none e h)]
 exact e
mutual
theorem Dq.mono {K:PySem.W.Frag} {F F':Hp} (e:Ext F F'):∀(d:D) (v:V),Dq K F d v→Dq K F' d v
 | .non,_,h=>h
 | .bl _,_,h=>h
 | .int _,_,h=>h
 | .str _,_,h=>h
 | .lst ds,v,h=>by
  simp only [Dq] at h ⊢
  obtain ⟨a,vs,h1,h2,h3⟩:=h
  exact ⟨a,vs,h1,e _ _ h2,aN.mono e ds vs h3⟩
 | .tup ds,v,h=>by
  simp only [Dq] at h ⊢
  obtain ⟨a,vs,h1,h2,h3⟩:=h
  exact ⟨a,vs,h1,e.sqN h2,aN.mono e ds vs h3⟩
 | .dct ks ds,v,h=>by
  simp only [Dq] at h ⊢
  obtain ⟨a,us,vs,h1,h2⟩:=h
  rcases h2 with h2 | ⟨h2,h4,h3⟩
  ·exact ⟨a,us,vs,h1,.inl h2⟩
  ·exact ⟨a,us,vs,h1,.inr ⟨h2.mono (e a),aN.mono e ks us h4,aN.mono e ds vs h3⟩⟩
 | .xJ ks ds,v,h=>by
  simp only [Dq] at h ⊢
  obtain ⟨a,us,vs,h1,h2,h4,h3⟩:=h
  exact ⟨a,us,vs,h1,h2.mono (e a),aN.mono e ks us h4,aN.mono e ds vs h3⟩
theorem aN.mono {K:PySem.W.Frag} {F F':Hp} (e:Ext F F'):∀(ds:List D) (vs:List V),aN K F ds vs→aN K F' ds vs
 | [],_,h=>h
 | d::ds,vs,h=>by
  simp only [aN] at h ⊢
  obtain ⟨v,r,h1,h2,h3⟩:=h
  exact ⟨v,r,h1,Dq.mono e d v h2,aN.mono e ds r h3⟩
end
section
variable {K:PySem.W.Frag} {F:Hp}
theorem aN.nil:aN K F [] []:=by simp only [aN]
theorem aN.cons {d:D} {ds:List D} {v:V} {vs:List V} (h:Dq K F d v) (t:aN K F ds vs):aN K F (d::ds) (v::vs):=by
 simp only [aN]
 exact ⟨v,vs,rfl,h,t⟩
theorem aN.uncons {d:D} {ds:List D} {vs:List V} (h:aN K F (d::ds) vs):∃v r,vs=v::r∧Dq K F d v∧aN K F ds r:=by
 simpa only [aN] using h
theorem aN.nil_iff {vs:List V} (h:aN K F [] vs):vs=[]:=by simpa only [aN] using h
theorem aN.length:∀{ds:List D} {vs:List V},aN K F ds vs→ds.length=vs.length
 | [],vs,h=>by rw [h.nil_iff]; rfl
 | d::ds,vs,h=>by
  obtain ⟨v,r,rfl,_,h3⟩:=h.uncons
  rw [List.length_cons,List.length_cons,aN.length h3]
theorem aN.get:∀{ds:List D} {vs:List V} {i:Nat} {d:D},aN K F ds vs→ds[i]?=some d→∃v,vs[i]?=some v∧Dq K F d v
 | [],_,_,_,_,e=>by simp at e
 | d::ds,vs,0,d',h,e=>by
  obtain ⟨v,r,rfl,h2,_⟩:=h.uncons
  simp at e
  subst e
  exact ⟨v,rfl,h2⟩
 | d::ds,vs,i+1,d',h,e=>by
  obtain ⟨v,r,rfl,_,h3⟩:=h.uncons
  obtain ⟨w,h4,h5⟩:=aN.get (i:=i) h3 (by simpa using e)
  exact ⟨w,by simpa using h4,h5⟩
theorem aN.Kv {ds:List D} {vs:List V} {i:Nat} {v:V} (h:aN K F ds vs) (e:vs[i]?=some v):∃d,ds[i]?=some d∧Dq K F d v:=by
 have hl:=h.length
 obtain ⟨hi,_⟩:=List.getElem?_eq_some_iff.mp e
 have hi':i<ds.length:=by omega
 obtain ⟨w,h1,h2⟩:=h.get (List.getElem?_eq_getElem hi')
 rw [e] at h1
 cases h1
 exact ⟨_,List.getElem?_eq_getElem hi',h2⟩
theorem aN.append:∀{ds es:List D} {vs ws:List V},aN K F ds vs→aN K F es ws→aN K F (ds++es) (vs++ws)
 | [],_,vs,_,h,t=>by rw [h.nil_iff]; exact t
 | d::ds,es,vs,ws,h,t=>by
  obtain ⟨v,r,rfl,h2,h3⟩:=h.uncons
  exact .cons h2 (aN.append h3 t)
theorem aN.set {d:D} {v:V} (hd:Dq K F d v):∀{ds:List D} {vs:List V} (i:Nat),aN K F ds vs→aN K F (ds.set i d) (vs.set i v)
 | [],vs,i,h=>by rw [h.nil_iff]; exact .nil
 | e::ds,vs,0,h=>by
  obtain ⟨w,r,rfl,_,h3⟩:=h.uncons
  exact .cons hd h3
 | e::ds,vs,i+1,h=>by
  obtain ⟨w,r,rfl,h2,h3⟩:=h.uncons
  exact .cons h2 (aN.set hd i h3)
theorem aN.take:∀{ds:List D} {vs:List V} (n:Nat),aN K F ds vs→aN K F (ds.take n) (vs.take n)
 | _,_,0,_=>.nil
 | [],vs,n+1,h=>by rw [h.nil_iff]; exact .nil
 | d::ds,vs,n+1,h=>by
  obtain ⟨v,r,rfl,h2,h3⟩:=h.uncons
  exact .cons h2 (aN.take n h3)
theorem aN.drop:∀{ds:List D} {vs:List V} (n:Nat),aN K F ds vs→aN K F (ds.drop n) (vs.drop n)
 | _,_,0,h=>h
 | [],vs,n+1,h=>by rw [h.nil_iff]; exact .nil
 | d::ds,vs,n+1,h=>by
  obtain ⟨v,r,rfl,h2,h3⟩:=h.uncons
  exact aN.drop n h3
theorem aN.reverse:∀{ds:List D} {vs:List V},aN K F ds vs→aN K F ds.reverse vs.reverse
 | [],vs,h=>by rw [h.nil_iff]; exact .nil
 | d::ds,vs,h=>by
  obtain ⟨v,r,rfl,h2,h3⟩:=h.uncons
  rw [List.reverse_cons,List.reverse_cons]
  exact aN.append (aN.reverse h3) (.cons h2 .nil)
theorem aN.replicate {d:D} {v:V} (h:Dq K F d v):∀n:Nat,aN K F (List.replicate n d) (List.replicate n v)
 | 0=>.nil
 | n+1=>.cons h (aN.replicate h n)
theorem aN.ints:∀{ns:List Int} {vs:List V},aN K F (ns.map D.int) vs→vs=ns.map V.int
 | [],vs,h=>h.nil_iff
 | n::ns,vs,h=>by
  obtain ⟨v,r,rfl,h2,h3⟩:=h.uncons
  have e:v=.int n:=by simpa only [Dq] using h2
  rw [e,aN.ints h3]
  rfl
theorem aN.of_ints:∀{ns:List Int},aN K F (ns.map D.int) (ns.map V.int)
 | []=>.nil
 | n::ns=>.cons (by simp only [Dq]) aN.of_ints
end
/-! ### what a name may hold: frozen data; a list, a dict of its own; the script -/
structure Ex where
 aJ:Nat
 arg:Option D
inductive Itm where
 | fr (d:D) | ol (xs:List D)
def Itm.fz:Itm→D
 | .fr d=>d
 | .ol xs=>.lst xs
inductive En where
 | fr (d:D) | ol (xs:List D) | od (ks:List D) (vs:List D) | on (ks:List D) (vs:List D) | cJ (xs:List D) | ex (x:Ex) | jW (xs:List Itm) | ob (fs:List (Str × Itm)) | exs (xs:List Ex)
def En.fz:En→En
 | .fr d=>.fr d
 | .ol xs=>.fr (.lst xs)
 | .od _ _=>.fr (.dct [.non] [])
 | .on _ _=>.fr (.dct [.non] [])
 | .cJ xs=>.cJ xs
 | .ex x=>.ex x
 | .jW xs=>.fr (.lst (xs.map Itm.fz))
 | .ob _=>.fr (.dct [.non] [])
 | .exs xs=>.exs xs
def En.items:En→Option (List D)
 | .fr (.lst xs)=>some xs
 | .fr (.tup xs)=>some xs
 | .ol xs=>some xs
 | .cJ xs=>some xs
 | _=>none
abbrev ak:=List (Option En)
inductive Val where
 | en (e:En) | bor (i:Nat)
inductive R (α:Type) where
 | bad | ok (a:α) (ρ:ak) | exc (x:Ex) (ρ:ak)
def R.bind {α β:Type} (r:R α) (g:α→ak→R β):R β:=match r with
 | .bad=>.bad
 | .ok a ρ=>g a ρ
 | .exc x ρ=>.exc x ρ
def o9 {α:Type} (o:Option α) (ρ:ak):R α:=match o with
 | some a=>.ok a ρ
 | none=>.bad
def lE {α:Type} (r:R α) (Q:α→ak→Prop) (E:Ex→ak→Prop):Prop:=match r with
 | .bad=>False
 | .ok a ρ=>Q a ρ
 | .exc x ρ=>E x ρ
theorem aA {α β:Type} {r:R α} {g:α→ak→R β} {Q:β→ak→Prop} {E:Ex→ak→Prop}:lE (r.bind g) Q E↔lE r (fun a ρ=>lE (g a ρ) Q E) E:=by
 cases r <;> exact Iff.rfl
theorem cD {α:Type} {o:Option α} {ρ:ak} {Q:α→ak→Prop} {E:Ex→ak→Prop} (h:lE (o9 o ρ) Q E):∃a,o=some a∧Q a ρ:=by
 cases o with
 | none=>exact h.elim
 | some a=>exact ⟨a,rfl,h⟩
theorem au {α:Type} {r:R α} {Q Q':α→ak→Prop} {E E':Ex→ak→Prop} (h:lE r Q E) (hq:∀a ρ,Q a ρ→Q' a ρ) (he:∀x ρ,E x ρ→E' x ρ):lE r Q' E':=by
 cases r with
 | bad=>exact h
 | ok a ρ=>exact hq _ _ h
 | exc x ρ=>exact he _ _ h
def look (ρ:ak):Val→Option En
 | .en e=>some e
 | .bor i=>(ρ[i]?).join
/-! ### how a value lies -/
def Kw:List (String × String × String):=[("NoPerson", "person", "LookupError"),("NoSeat", "seat", "LookupError"),("NoNumber", "number", "LookupError"),("NoDeed", "many", "LookupError"),("OtherPeople", "many", "ValueError"),("BadDeed", "at", "ValueError"),("BadText", "text", "ValueError"),("BadLine", "at", "ValueError"),
 ("Empty", "person", "RuntimeError"),("Barred", "reason", "RuntimeError"),("Stops", "many", "RuntimeError"),("Few", "", "RuntimeError"),("TooMany", "many", "OverflowError"),("Full", "many", "OverflowError")]
def fL (c:Nat):Str:=Str.ofString (Kw.getD c ("", "", "")).1
def aV (c:Nat):Str:=Str.ofString (Kw.getD c ("", "", "")).2.1
def fH (K:PySem.W.Frag) (c:Nat):Addr:=match PySem.W.nsIn K mainGlobals (fL c) with
 | some (some (.ref a))=>a
 | _=>0
def Ky (K:PySem.W.Frag):Addr:=match PySem.W.nsIn K mainGlobals (Str.ofString "Party") with
 | some (some (.ref a))=>a
 | _=>0
def qP (a C:Addr) (od:Option Addr):HO:=.ext fun h=>∃oe:Obj,h.get? a=some oe∧oe.cls=.ref C∧oe.dict=od∧∃vs,oe.data=.fields vs
def RpI (K:PySem.W.Frag) (F H:Hp):Itm→V→Prop
 | .fr d,y=>Dq K F d y
 | .ol xs,y=>∃a us,y=.ref a∧H a=some (.lst us)∧aN K F xs us
def Hj (its:List Itm) (vs:List V) (a:Addr):Prop:=∃(i:Nat) (xs:List D),its[i]?=some (.ol xs)∧vs[i]?=some (.ref a)
def Xg (K:PySem.W.Frag) (F:Hp) (x:Ex):Option Addr→Prop
 | some dd=>∃u d,F dd=some (.xd [(aV x.aJ,u)])∧x.arg=some d∧Dq K F d u
 | none=>x.arg=none
def Kz (K:PySem.W.Frag) (F:Hp) (x:Ex) (v:V):Prop:=∃a od,v=.ref a∧F a=some (qP a (fH K x.aJ) od)∧Xg K F x od
def UqI (its:List Itm) (vs:List V):Prop:=∀(i j:Nat) (a:Addr) (xs ys:List D),its[i]?=some (.ol xs)→its[j]?=some (.ol ys)→vs[i]?=some (.ref a)→vs[j]?=some (.ref a)→i=j
def Rp (K:PySem.W.Frag) (F H:Hp):En→V→Prop
 | .fr d,v=>Dq K F d v
 | .ol ds,v=>∃a vs,v=.ref a∧H a=some (.lst vs)∧aN K F ds vs
 | .od ks ds,v=>∃a us vs,v=.ref a∧UD H a us vs∧aN K F ks us∧aN K F ds vs
 | .on ks ds,v=>∃a us vs,v=.ref a∧UN H a ks us vs∧aN K F ks us∧aN K F ds vs
 | .cJ ds,v=>∃a vs,v=.ref a∧SqL K F a vs∧aN K F ds vs
 | .ex x,v=>Kz K F x v
 | .jW its,v=>∃(p:Addr) (vs:List V),v=.ref p∧H p=some (.lst vs)∧its.length=vs.length∧(∀(i:Nat) (x:Itm) (y:V),its[i]?=some x→vs[i]?=some y→RpI K F H x y)∧¬Hj its vs p ∧
   ∀(i j:Nat) (a:Addr) (xs ys:List D),its[i]?=some (.ol xs)→its[j]?=some (.ol ys)→vs[i]?=some (.ref a)→vs[j]?=some (.ref a)→i=j
 | .ob fs,v=>∃(a dx:Addr) (gs:List (Str × V)),v=.ref a∧H a=some (.ins (Ky K) dx gs)∧H dx=some (.own a)∧gs.map Prod.fst=fs.map Prod.fst ∧
   (∀(i:Nat) (x:Itm) (y:V),(fs.map Prod.snd)[i]?=some x→(gs.map Prod.snd)[i]?=some y→RpI K F H x y)∧UqI (fs.map Prod.snd) (gs.map Prod.snd)
 | .exs xs,v=>∃(p:Addr) (vs:List V),v=.ref p∧F p=some (.lst vs)∧xs.length=vs.length∧∀(i:Nat) (x:Ex) (y:V),xs[i]?=some x→vs[i]?=some y→Kz K F x y
def Ow (H:Hp):En→V→Addr→Prop
 | .ol _,v,a=>v=.ref a
 | .od _ _,v,a=>v=.ref a
 | .on _ _,v,a=>v=.ref a
 | .jW its,v,a=>∃(p:Addr) (vs:List V),v=.ref p∧H p=some (.lst vs)∧(a=p∨Hj its vs a)
 | .ob fs,v,b=>∃(a C dx:Addr) (gs:List (Str × V)),v=.ref a∧H a=some (.ins C dx gs)∧(b=a∨b=dx∨Hj (fs.map Prod.snd) (gs.map Prod.snd) b)
 | _,_,_=>False
inductive Wh where
 | s (i:Nat) | t (j:Nat)
abbrev Tm:=List (Val × V)
def At (σ:L2.St) (ρ:ak) (T:Tm):Wh→En→V→Prop
 | .s i,e,v=>ρ[i]?=some (some e)∧σ[i]?=some (some v)
 | .t j,e,v=>T[j]?=some (.en e,v)
structure Og where
 F:Hp
 H:Hp
 O:Addr→Prop
 lk:Nat→Option V
structure PtI where
 x:Nat
 a:Addr
 dx:Addr
 p:Addr
 gs:List (Str × V)
 us:List V
 ds:List D
structure Cs where
 K:PySem.W.Frag
 L:List Nat
 cs:List Nat
 pt:Option PtI
def abr (K:PySem.W.Frag) (o:Og) (i:PtI):Prop:=o.lk i.x=some (.ref i.a)∧¬o.O i.a∧¬o.O i.p∧o.H i.a=some (.ins (Ky K) i.dx i.gs)∧i.gs.lookup (Str.ofString "own_states")=some (.ref i.p)∧o.H i.p=some (.lst i.us)∧aN K o.F i.ds i.us
structure SM (C:Cs) (o:Og) (F H:Hp) (σ:L2.St) (ρ:ak) (T:Tm):Prop where
 sub:Ext F H
 len:ρ.length=σ.length
 has:∀(i:Nat) (e:En),ρ[i]?=some (some e)→∃v,σ[i]?=some (some v)
 rep:∀p e v,At σ ρ T p e v→Rp C.K F H e v
 bor:∀(j i:Nat) (v:V),T[j]?=some (.bor i,v)→σ[i]?=some (some v)∧(∃e,ρ[i]?=some (some e))∧i∉C.cs
 sep:∀p q e e' v v' a,p≠q→At σ ρ T p e v→At σ ρ T q e' v'→Ow H e v a→¬Ow H e' v' a
 own:∀p e v a,At σ ρ T p e v→Ow H e v a→F a=none∧(o.O a∨o.H a=none)
 ext:Ext o.F F
 keep:∀b u,¬o.O b→o.H b=some u→H b=some u
 new:∀b,o.F b=none→F b≠none→(o.O b∨o.H b=none)
 lk:∀(i:Nat) (v:V),o.lk i=some v→σ[i]?=some (some v)
 qJ:∀i,i∉C.L→o.lk i=none
 pt:∀i,C.pt=some i→abr C.K o i
structure Grow (F H F' H':Hp):Prop where
 f:Ext F F'
 h:Ext H H'
 sub:Ext F' H'
 new:∀b,F b=none→F' b≠none→H b=none
theorem Grow.refl {F H:Hp} (s:Ext F H):Grow F H F H:=⟨Ext.refl F,Ext.refl H,s,fun _ a b=>absurd a b⟩
theorem Grow.trans {F H F1 H1 F2 H2:Hp} (a:Grow F H F1 H1) (b:Grow F1 H1 F2 H2):Grow F H F2 H2 :=
 ⟨a.f.trans b.f,a.h.trans b.h,b.sub,fun x h1 h2=>by
  cases e:F1 x with
  | none =>
   have h3:=b.new x e h2
   cases e2:H x with
   | none=>rfl
   | some u=>rw [a.h x u e2] at h3; cases h3
  | some u=>exact a.new x h1 (by rw [e]; simp)⟩
theorem Grow.obj {F H:Hp} (s:Ext F H) {p:Addr} {o:HO} (hp:H p=none):Grow F H (upd F p o) (upd H p o):=by
 have fp:F p=none:=by
  cases e:F p with
  | none=>rfl
  | some u=>rw [s p u e] at hp; cases hp
 refine ⟨Ext.new fp,Ext.new hp,fun b u e=>?_,fun b h1 h2=>?_⟩
 ·by_cases hb:b=p
  ·subst hb; rw [upd_same] at e ⊢; exact e
  ·rw [upd_ne hb] at e ⊢; exact s b u e
 ·by_cases hb:b=p
  ·subst hb; exact hp
  ·rw [upd_ne hb] at h2; exact absurd h1 h2
theorem Grow.junk {F H:Hp} (s:Ext F H) {p:Addr} {o:HO} (hp:H p=none):Grow F H F (upd H p o) :=
 ⟨Ext.refl F,Ext.new hp,s.trans (Ext.new hp),fun _ h1 h2=>absurd h1 h2⟩
section
variable {C:Cs} {o:Og} {F H F' H':Hp} {σ:L2.St} {ρ:ak} {T:Tm}
theorem RpI.mono {K:PySem.W.Frag} {x:Itm} {y:V} (f:Ext F F') (h:∀b u,(∃xs,x=.ol xs)∧y=.ref b→H b=some u→H' b=some u) (r:RpI K F H x y):RpI K F' H' x y:=by
 cases x with
 | fr d=>exact Dq.mono f d y r
 | ol xs=>obtain ⟨a,us,h1,h2,h3⟩:=r; exact ⟨a,us,h1,h a _ ⟨⟨xs,rfl⟩,h1⟩ h2,aN.mono f _ _ h3⟩
theorem Xg.mono {K:PySem.W.Frag} {x:Ex} {od:Option Addr} (f:Ext F F') (r:Xg K F x od):Xg K F' x od:=by
 cases od with
 | none=>exact r
 | some dd=>obtain ⟨u,d,h3,h4,h5⟩:=r; exact ⟨u,d,f _ _ h3,h4,Dq.mono f _ _ h5⟩
theorem Kz.mono {K:PySem.W.Frag} {x:Ex} {v:V} (f:Ext F F') (r:Kz K F x v):Kz K F' x v:=by
 obtain ⟨a,od,h1,h2,h3⟩:=r; exact ⟨a,od,h1,f _ _ h2,h3.mono f⟩
theorem Rp.mono {K:PySem.W.Frag} {e:En} {v:V} (f:Ext F F') (h:Ext H H') (r:Rp K F H e v):Rp K F' H' e v:=by
 cases e with
 | fr d=>exact Dq.mono f d v r
 | ol ds=>obtain ⟨a,vs,h1,h2,h3⟩:=r; exact ⟨a,vs,h1,h _ _ h2,aN.mono f _ _ h3⟩
 | od ks ds=>obtain ⟨a,us,vs,h1,h2,h4,h3⟩:=r; exact ⟨a,us,vs,h1,h2.mono (h a),aN.mono f _ _ h4,aN.mono f _ _ h3⟩
 | on ks ds=>obtain ⟨a,us,vs,h1,h2,h4,h3⟩:=r; exact ⟨a,us,vs,h1,h2.mono (h a),aN.mono f _ _ h4,aN.mono f _ _ h3⟩
 | cJ ds=>obtain ⟨a,vs,h1,h2,h3⟩:=r; exact ⟨a,vs,h1,f.BK h2,aN.mono f _ _ h3⟩
 | ex x=>exact Kz.mono f r
 | jW its=>obtain ⟨p,vs,h1,h2,h3,h4,h5,h6⟩:=r; exact ⟨p,vs,h1,h _ _ h2,h3,fun i x y e1 e2=>(h4 i x y e1 e2).mono f fun b u _ q=>h b u q,h5,h6⟩
 | ob fs=>obtain ⟨a,dx,gs,h1,h2,h3,h4,h5,h6⟩:=r; exact ⟨a,dx,gs,h1,h _ _ h2,h _ _ h3,h4,fun i x y e1 e2=>(h5 i x y e1 e2).mono f fun b u _ q=>h b u q,h6⟩
 | exs xs=>obtain ⟨p,vs,h1,h2,h3,h4⟩:=r; exact ⟨p,vs,h1,f _ _ h2,h3,fun i x y e1 e2=>(h4 i x y e1 e2).mono f⟩
theorem Rp.at {K:PySem.W.Frag} {e:En} {v:V} {a:Addr} (r:Rp K F H e v) (w:Ow H e v a):∃u,H a=some u:=by
 cases e with
 | fr d=>exact w.elim
 | ol ds=>obtain ⟨b,vs,h1,h2,_⟩:=r; have w':v=.ref a:=w; rw [h1] at w'; cases w'; exact ⟨_,h2⟩
 | od ks ds=>obtain ⟨b,us,vs,h1,⟨_,_,_,h2⟩,_⟩:=r; have w':v=.ref a:=w; rw [h1] at w'; cases w'; exact ⟨_,h2⟩
 | on ks ds=>obtain ⟨b,us,vs,h1,⟨_,_,_,_,h2⟩,_⟩:=r; have w':v=.ref a:=w; rw [h1] at w'; cases w'; exact ⟨_,h2⟩
 | cJ ds=>exact w.elim
 | ex x=>exact w.elim
 | jW its =>
  obtain ⟨p,vs,h1,h2,h3,h4,_⟩:=r
  obtain ⟨q,ws,w1,w2,w3⟩:=w
  rw [h1] at w1
  cases w1
  rw [h2] at w2
  cases w2
  rcases w3 with rfl | ⟨i,xs,e1,e2⟩
  ·exact ⟨_,h2⟩
  ·obtain ⟨b,us,k1,k2,_⟩:=h4 i _ _ e1 e2
   cases k1
   exact ⟨_,k2⟩
 | ob fs =>
  obtain ⟨p,dx,gs,h1,h2,h3,h4,h5,_⟩:=r
  obtain ⟨q,C,dx',gs',w1,w2,w3⟩:=w
  rw [h1] at w1
  cases w1
  rw [h2] at w2
  cases w2
  rcases w3 with rfl | rfl | ⟨i,xs,e1,e2⟩
  ·exact ⟨_,h2⟩
  ·exact ⟨_,h3⟩
  ·obtain ⟨b,us,k1,k2,_⟩:=h5 i _ _ e1 e2
   cases k1
   exact ⟨_,k2⟩
 | exs xs=>exact w.elim
theorem Ow.stay {K:PySem.W.Frag} {e:En} {v:V} {a:Addr} (r:Rp K F H e v) (k:∀b u,Ow H e v b→H b=some u→H' b=some u):Ow H' e v a↔Ow H e v a:=by
 cases e with
 | jW its =>
  obtain ⟨p,vs,h1,h2,_⟩:=r
  have h2':H' p=some (.lst vs):=k p _ ⟨p,_,h1,h2,.inl rfl⟩ h2
  constructor
  ·rintro ⟨q,ws,w1,w2,w3⟩
   rw [h1] at w1
   cases w1
   rw [h2'] at w2
   cases w2
   exact ⟨p,_,h1,h2,w3⟩
  ·rintro ⟨q,ws,w1,w2,w3⟩
   rw [h1] at w1
   cases w1
   rw [h2] at w2
   cases w2
   exact ⟨p,_,h1,h2',w3⟩
 | ob fs =>
  obtain ⟨p,dx,gs,h1,h2,_⟩:=r
  have h2':H' p=some (.ins (Ky K) dx gs):=k p _ ⟨p,_,_,_,h1,h2,.inl rfl⟩ h2
  constructor
  ·rintro ⟨q,C,dx',gs',w1,w2,w3⟩
   rw [h1] at w1
   cases w1
   rw [h2'] at w2
   cases w2
   exact ⟨p,_,_,_,h1,h2,w3⟩
  ·rintro ⟨q,C,dx',gs',w1,w2,w3⟩
   rw [h1] at w1
   cases w1
   rw [h2] at w2
   cases w2
   exact ⟨p,_,_,_,h1,h2',w3⟩
 | _=>exact Iff.rfl
theorem Ow.back {K:PySem.W.Frag} {e:En} {v:V} {a:Addr} (r:Rp K F H e v) (h:Ext H H') (w:Ow H' e v a):Ow H e v a:=(Ow.stay r fun b u _ q=>h b u q).mp w
theorem SM.grow (S:SM C o F H σ ρ T) (g:Grow F H F' H'):SM C o F' H' σ ρ T where
 sub:=g.sub
 len:=S.len
 has:=S.has
 rep:=fun p e v a=>(S.rep p e v a).mono g.f g.h
 bor:=S.bor
 sep:=fun p q e e' v v' a ne h1 h2 w1 w2=>S.sep p q e e' v v' a ne h1 h2 (w1.back (S.rep p e v h1) g.h) (w2.back (S.rep q e' v' h2) g.h)
 own:=fun p e v a h w=>by
  have w:=w.back (S.rep p e v h) g.h
  obtain ⟨h1,h2⟩:=S.own p e v a h w
  refine ⟨?_,h2⟩
  cases q:F' a with
  | none=>rfl
  | some u =>
   have h3:=g.new a h1 (by rw [q]; simp)
   obtain ⟨u',h4⟩:=(S.rep p e v h).at w
   rw [h3] at h4; cases h4
 ext:=S.ext.trans g.f
 keep:=fun b u h1 h2=>g.h b u (S.keep b u h1 h2)
 new:=fun b h1 h2=>by
  cases q:F b with
  | none =>
   have h3:=g.new b q h2
   by_cases z:o.O b
   ·exact .inl z
   ·right
    cases q2:o.H b with
    | none=>rfl
    | some u=>rw [S.keep b u z q2] at h3; cases h3
  | some u=>exact S.new b h1 (by rw [q]; simp)
 lk:=S.lk
 qJ:=S.qJ
 pt:=S.pt
theorem At.succ {σ:L2.St} {ρ:ak} {T:Tm} {x:Val × V}:∀{p:Wh} {e:En} {v:V},At σ ρ (x::T) p e v→(p=.t 0∧x=(.en e,v))∨∃q,At σ ρ T q e v∧((∃i,p=.s i∧q=.s i)∨∃j,p=.t (j+1)∧q=.t j)
 | .s i,_,_,h=>.inr ⟨.s i,h,.inl ⟨i,rfl,rfl⟩⟩
 | .t 0,_,_,h=>.inl ⟨rfl,by simpa [At] using h⟩
 | .t (j+1),_,_,h=>.inr ⟨.t j,by simpa [At] using h,.inr ⟨j,rfl,rfl⟩⟩
theorem At.up {σ:L2.St} {ρ:ak} {T:Tm} {x:Val × V}:∀{p:Wh} {e:En} {v:V},At σ ρ T p e v→∃q,At σ ρ (x::T) q e v∧((∃i,p=.s i∧q=.s i)∨∃j,p=.t j∧q=.t (j+1))
 | .s i,_,_,h=>⟨.s i,h,.inl ⟨i,rfl,rfl⟩⟩
 | .t j,_,_,h=>⟨.t (j+1),by simpa [At] using h,.inr ⟨j,rfl,rfl⟩⟩
theorem SM.drop {x:Val × V} (S:SM C o F H σ ρ (x::T)):SM C o F H σ ρ T where
 sub:=S.sub
 len:=S.len
 has:=S.has
 rep:=fun p e v a=>by obtain ⟨q,h,_⟩:=a.up (x:=x); exact S.rep q e v h
 bor:=fun j i v h=>S.bor (j+1) i v (by simpa using h)
 sep:=fun p q e e' v v' a ne h1 h2=>by
  obtain ⟨p',k1,c1⟩:=h1.up (x:=x)
  obtain ⟨q',k2,c2⟩:=h2.up (x:=x)
  refine S.sep p' q' e e' v v' a (fun z=>ne ?_) k1 k2
  rcases c1 with ⟨i,rfl,rfl⟩ | ⟨i,rfl,rfl⟩ <;> rcases c2 with ⟨j,rfl,rfl⟩ | ⟨j,rfl,rfl⟩ <;> first | (cases z; rfl) | cases z
 own:=fun p e v a h w=>by obtain ⟨q,h',_⟩:=h.up (x:=x); exact S.own q e v a h' w
 ext:=S.ext
 keep:=S.keep
 new:=S.new
 lk:=S.lk
 qJ:=S.qJ
 pt:=S.pt
theorem SM.push {e:En} {v:V} (S:SM C o F H σ ρ T) (r:Rp C.K F H e v) (w:∀a,Ow H e v a→F a=none∧(o.O a∨o.H a=none)∧∀p e' v',At σ ρ T p e' v'→¬Ow H e' v' a):SM C o F H σ ρ ((.en e,v)::T) where
 sub:=S.sub
 len:=S.len
 has:=S.has
 rep:=fun p e' v' a=>by
  rcases a.succ with ⟨_,z⟩ | ⟨q,h,_⟩
  ·cases z; exact r
  ·exact S.rep q e' v' h
 bor:=fun j i v' h=>by
  cases j with
  | zero=>simp at h
  | succ j=>exact S.bor j i v' (by simpa using h)
 sep:=fun p q e1 e2 v1 v2 a ne h1 h2 w1 w2=>by
  rcases h1.succ with ⟨rfl,z⟩ | ⟨p',k1,c1⟩
  ·cases z
   rcases h2.succ with ⟨rfl,_⟩ | ⟨q',k2,_⟩
   ·exact ne rfl
   ·exact (w a w1).2.2 q' e2 v2 k2 w2
  ·rcases h2.succ with ⟨rfl,z⟩ | ⟨q',k2,c2⟩
   ·cases z
    exact (w a w2).2.2 p' e1 v1 k1 w1
   ·refine S.sep p' q' e1 e2 v1 v2 a (fun z=>ne ?_) k1 k2 w1 w2
    rcases c1 with ⟨i,rfl,rfl⟩ | ⟨i,rfl,rfl⟩ <;> rcases c2 with ⟨j,rfl,rfl⟩ | ⟨j,rfl,rfl⟩ <;> first | (cases z; rfl) | cases z
 own:=fun p e' v' a h w'=>by
  rcases h.succ with ⟨_,z⟩ | ⟨q,h',_⟩
  ·cases z; exact ⟨(w a w').1,(w a w').2.1⟩
  ·exact S.own q e' v' a h' w'
 ext:=S.ext
 keep:=S.keep
 new:=S.new
 lk:=S.lk
 qJ:=S.qJ
 pt:=S.pt
theorem SM.bf {d:D} {v:V} (S:SM C o F H σ ρ T) (r:Dq C.K F d v):SM C o F H σ ρ ((.en (.fr d),v)::T):=S.push r fun _ w=>w.elim
theorem SM.eO {i:Nat} {v:V} {e:En} (S:SM C o F H σ ρ T) (h1:σ[i]?=some (some v)) (h2:ρ[i]?=some (some e)) (h3:i∉C.cs):SM C o F H σ ρ ((.bor i,v)::T) where
 sub:=S.sub
 len:=S.len
 has:=S.has
 rep:=fun p e' v' a=>by
  rcases a.succ with ⟨_,z⟩ | ⟨q,h,_⟩
  ·cases z
  ·exact S.rep q e' v' h
 bor:=fun j k v' h=>by
  cases j with
  | zero=>simp at h; obtain ⟨rfl,rfl⟩:=h; exact ⟨h1,⟨e,h2⟩,h3⟩
  | succ j=>exact S.bor j k v' (by simpa using h)
 sep:=fun p q e1 e2 v1 v2 a ne h1 h2 w1 w2=>by
  rcases h1.succ with ⟨_,z⟩ | ⟨p',k1,c1⟩
  ·cases z
  ·rcases h2.succ with ⟨_,z⟩ | ⟨q',k2,c2⟩
   ·cases z
   ·refine S.sep p' q' e1 e2 v1 v2 a (fun z=>ne ?_) k1 k2 w1 w2
    rcases c1 with ⟨i,rfl,rfl⟩ | ⟨i,rfl,rfl⟩ <;> rcases c2 with ⟨j,rfl,rfl⟩ | ⟨j,rfl,rfl⟩ <;> first | (cases z; rfl) | cases z
 own:=fun p e' v' a h w'=>by
  rcases h.succ with ⟨_,z⟩ | ⟨q,h',_⟩
  ·cases z
  ·exact S.own q e' v' a h' w'
 ext:=S.ext
 keep:=S.keep
 new:=S.new
 lk:=S.lk
 qJ:=S.qJ
 pt:=S.pt
inductive eV (K:PySem.W.Frag) (F H:Hp):Hp→Hp→En→V→Prop
 | old {F' H':Hp} {d:D} {v:V}:Grow F H F' H'→Dq K F' d v→eV K F H F' H' (.fr d) v
 | lst {F' H':Hp} {p:Addr} {ds:List D} {vs:List V}:Grow F H F' H'→H' p=none→aN K F' ds vs→eV K F H F' (upd H' p (.lst vs)) (.ol ds) (.ref p)
 | dct {F' H':Hp} {p:Addr} {kz:List Key} {ks ds:List D} {vs:List V}:Grow F H F' H'→H' p=none→kz.length=vs.length→aN K F' ks (kz.map kV)→aN K F' ds vs→eV K F H F' (upd H' p (.dK (kz.zip vs))) (.od ks ds) (.ref p)
 | xJ {F' H':Hp} {p:Addr} {zs:List NestedKey} {ks ds:List D} {us vs:List V}:Grow F H F' H'→H' p=none→ks.map qI=zs.map some→zs.length=us.length→us.length=vs.length→aN K F' ks us→aN K F' ds vs→eV K F H F' (upd H' p (ndO p zs us vs)) (.on ks ds) (.ref p)
 | cJ {F' H':Hp} {v:V} {ds:List D}:Grow F H F' H'→Rp K F' H' (.cJ ds) v→eV K F H F' H' (.cJ ds) v
theorem eV.tup {K:PySem.W.Frag} (s:Ext F H) {o:Obj} {p:Addr} {ds:List D} {vs:List V} (nd:Nd o) (hp:H p=none) (h:aN K F ds vs):eV K F H (upd F p (.frz o (.tup vs))) (upd H p (.frz o (.tup vs))) (.fr (.tup ds)) (.ref p):=by
 have g:=Grow.obj s (o:=.frz o (.tup vs)) hp
 refine .old g ?_
 simp only [Dq]
 exact ⟨p,vs,rfl,⟨o,nd,upd_same⟩,aN.mono g.f _ _ h⟩
theorem SM.alloc {e:En} {v:V} (S:SM C o F H σ ρ T) (a:eV C.K F H F' H' e v):SM C o F' H' σ ρ ((.en e,v)::T):=by
 have key:∀{F1 H1:Hp} {p:Addr} {u:HO} {e:En},Grow F H F1 H1→H1 p=none→Rp C.K F1 (upd H1 p u) e (.ref p)→(∀a,Ow (upd H1 p u) e (.ref p) a→a=p)→SM C o F1 (upd H1 p u) σ ρ ((.en e,.ref p)::T):=by
  intro F1 H1 p u e g hp r hw
  have S1:=S.grow g
  have S2:=S1.grow (Grow.junk (o:=u) S1.sub hp)
  refine S2.push r fun a w=>?_
  have e1:a=p:=hw a w
  subst e1
  refine ⟨?_,?_,fun q e' v' h w'=>?_⟩
  ·cases q:F1 a with
   | none=>rfl
   | some x=>rw [S1.sub a x q] at hp; cases hp
  ·by_cases z:o.O a
   ·exact .inl z
   ·right
    cases q:o.H a with
    | none=>rfl
    | some x=>rw [S1.keep a x z q] at hp; cases hp
  ·obtain ⟨x,hx⟩:=(S1.rep q e' v' h).at (w'.back (S1.rep q e' v' h) (Grow.junk S1.sub hp).h)
   rw [hp] at hx; cases hx
 cases a with
 | old g h=>exact (S.grow g).bf h
 | lst g hp h=>exact key g hp ⟨_,_,rfl,upd_same,h⟩ fun a w=>by cases w; rfl
 | dct g hp hl hk h=>exact key g hp ⟨_,_,_,rfl,⟨_,rfl,hl,upd_same⟩,hk,h⟩ fun a w=>by cases w; rfl
 | xJ g hp e hl hm hk h=>exact key g hp ⟨_,_,_,rfl,⟨_,e,hl,hm,upd_same⟩,hk,h⟩ fun a w=>by cases w; rfl
 | cJ g h=>exact (S.grow g).push h fun _ w=>w.elim
theorem SM.look {j:Nat} {val:Val} {v:V} {e:En} (S:SM C o F H σ ρ T) (h:T[j]?=some (val,v)) (l:look ρ val=some e):Rp C.K F H e v:=by
 cases val with
 | en e' =>
  have z:e'=e:=Option.some.inj l
  subst z
  exact S.rep (.t j) e' v h
 | bor i =>
  obtain ⟨h1,⟨e',h2⟩,_⟩:=S.bor j i v h
  have z:(ρ[i]?).join=some e:=l
  rw [h2] at z
  have z':e'=e:=Option.some.inj z
  subst z'
  exact S.rep (.s i) e' v ⟨h2,h1⟩
end
end DM
end
section
namespace DM
open PySem L2
/-! ### the state, its Vo moved -/
theorem SM.Vp {C:Cs} {o:Og} {F H:Hp} {σ:L2.St} {ρ:ak} {T T':Tm} (S:SM C o F H σ ρ T) (f:Nat→Nat) (hf:∀(j:Nat) (x:Val × V),T'[j]?=some x→T[f j]?=some x) (inj:∀i j,f i=f j→i=j):SM C o F H σ ρ T':=by
 have up:∀{p:Wh} {e:En} {v:V},At σ ρ T' p e v→∃q,At σ ρ T q e v∧((∃i,p=.s i∧q=.s i)∨∃j,p=.t j∧q=.t (f j)):=fun {p e v} h=>by
  cases p with
  | s i=>exact ⟨.s i,h,.inl ⟨i,rfl,rfl⟩⟩
  | t j=>exact ⟨.t (f j),hf j _ h,.inr ⟨j,rfl,rfl⟩⟩
 exact {
  sub:=S.sub
  len:=S.len
  has:=S.has
  rep:=fun p e v a=>by obtain ⟨q,h,_⟩:=up a; exact S.rep q e v h
  bor:=fun j i v h=>S.bor (f j) i v (hf j _ h)
  sep:=fun p q e e' v v' a ne h1 h2=>by
   obtain ⟨p',k1,c1⟩:=up h1
   obtain ⟨q',k2,c2⟩:=up h2
   refine S.sep p' q' e e' v v' a (fun z=>ne ?_) k1 k2
   rcases c1 with ⟨i,rfl,rfl⟩ | ⟨i,rfl,rfl⟩ <;> rcases c2 with ⟨j,rfl,rfl⟩ | ⟨j,rfl,rfl⟩
   ·cases z; rfl
   ·cases z
   ·cases z
   ·rw [inj i j (Wh.t.inj z)]
  own:=fun p e v a h w=>by obtain ⟨q,h',_⟩:=up h; exact S.own q e v a h' w
  ext:=S.ext
  keep:=S.keep
  new:=S.new
  lk:=S.lk
  qJ:=S.qJ
  pt:=S.pt }
theorem SM.under {C:Cs} {o:Og} {F H:Hp} {σ:L2.St} {ρ:ak} {T:Tm} {x:Val × V} (Y:Tm) (S:SM C o F H σ ρ (x::(Y++T))):SM C o F H σ ρ (x::T) :=
 S.Vp (fun j=>if j=0 then 0 else j+Y.length) (fun j x h=>by
  cases j with
  | zero=>simpa using h
  | succ j =>
   rw [if_neg (by omega),show j+1+Y.length=(Y.length+j)+1 by omega,List.getElem?_cons_succ,List.getElem?_append_right (by omega)]
   simpa using h) (fun i j h=>by
  by_cases hi:i=0 <;> by_cases hj:j=0 <;> simp only [hi,hj,if_true,if_false] at h <;> omega)
theorem SM.xQ {C:Cs} {o:Og} {F H:Hp} {σ:L2.St} {ρ:ak} {T:Tm} {val:Val} {v:V} {e:En} (S:SM C o F H σ ρ T) (h:(val,v)∈T) (l:DM.look ρ val=some e):Rp C.K F H e v:=by
 obtain ⟨j,hj⟩:=List.getElem?_of_mem h
 exact S.look hj l
/-! ### another beginning -/
def now (F H:Hp) (σ:L2.St) (ρ:ak) (T:Tm) (lk:Nat→Option V):Og:=⟨F,H,fun a=>∃p e v,At σ ρ T p e v∧Ow H e v a,lk⟩
theorem SM.abt {C:Cs} {o:Og} {F H:Hp} {σ:L2.St} {ρ:ak} {T:Tm} (S:SM C o F H σ ρ T):∀i,C.pt=some i→abr C.K (now F H σ ρ T o.lk) i:=fun i h=>by
 obtain ⟨p1,p2,p3,p4,p5,p6,p7⟩:=S.pt i h
 have nO:∀b u,¬o.O b→o.H b=some u→¬(now F H σ ρ T o.lk).O b:=fun b u n q z=>by
  obtain ⟨p,e,v,a,w⟩:=z
  rcases (S.own p e v b a w).2 with z | z
  ·exact n z
  ·rw [q] at z; cases z
 exact ⟨p1,nO _ _ p2 p4,nO _ _ p3 p6,S.keep _ _ p2 p4,p5,S.keep _ _ p3 p6,aN.mono S.ext _ _ p7⟩
theorem SM.base {C:Cs} {o:Og} {F H:Hp} {σ:L2.St} {ρ:ak} {T:Tm} (S:SM C o F H σ ρ T):SM C (now F H σ ρ T o.lk) F H σ ρ T :=
 ⟨S.sub,S.len,S.has,S.rep,S.bor,S.sep,fun p e v a h w=>⟨(S.own p e v a h w).1,.inl ⟨p,e,v,h,w⟩⟩,Ext.refl F,fun _ _ _ h=>h,fun _ h1 h2=>absurd h1 h2,S.lk,S.qJ,S.abt⟩
theorem SM.old {C:Cs} {o:Og} {F H:Hp} {σ:L2.St} {ρ:ak} {T:Tm} (S:SM C o F H σ ρ T) {b:Addr} (h:(now F H σ ρ T o.lk).O b∨H b=none):o.O b∨o.H b=none:=by
 rcases h with ⟨p,e,v,h,w⟩ | h
 ·exact (S.own p e v b h w).2
 ·by_cases z:o.O b
  ·exact .inl z
  ·right
   cases q:o.H b with
   | none=>rfl
   | some u=>rw [S.keep b u z q] at h; cases h
theorem SM.jy {C:Cs} {o:Og} {F H F' H':Hp} {σ σ':L2.St} {ρ ρ':ak} {T T':Tm} (S:SM C o F H σ ρ T) (N:SM C (now F H σ ρ T o.lk) F' H' σ' ρ' T'):SM C o F' H' σ' ρ' T' :=
 ⟨N.sub,N.len,N.has,N.rep,N.bor,N.sep,fun p e v a h w=>⟨(N.own p e v a h w).1,S.old (N.own p e v a h w).2⟩,S.ext.trans N.ext,fun b u h1 h2=>N.keep b u (fun z=>by
   rcases S.old (.inl z) with q | q
   ·exact h1 q
   ·rw [q] at h2; cases h2) (S.keep b u h1 h2),fun b h1 h2=>by
   cases q:F b with
   | none=>exact S.old (N.new b q h2)
   | some u=>exact S.new b h1 (by rw [q]; simp),N.lk,N.qJ,S.pt⟩
/-! ### what a reading does -/
abbrev ZX:=Ex→Hp→Hp→L2.St→ak→Prop
def Impl (C:Cs) (Z:ZX) (te:TE) (f:ak→R Val):Prop :=
 ∀(o:Og) (F H:Hp) (σ:L2.St) (ρ:ak) (T:Tm) (Q:VK),SM C o F H σ ρ T →
  lE (f ρ) (fun val ρ'=>∀F' H' v,SM C o F' H' σ ρ' ((val,v)::T)→Q v H') (fun x ρ'=>∀F' H',SM C o F' H' σ ρ' T→Z x F' H' σ ρ')→te σ H Q
def dB (C:Cs) (Z:ZX) (tt:TT) (f:ak→R Bool):Prop :=
 ∀(o:Og) (F H:Hp) (σ:L2.St) (ρ:ak) (T:Tm) (Q:Bool→Hp→Prop),SM C o F H σ ρ T →
  lE (f ρ) (fun b ρ'=>∀F' H',SM C o F' H' σ ρ' T→Q b H') (fun x ρ'=>∀F' H',SM C o F' H' σ ρ' T→Z x F' H' σ ρ')→tt σ H Q
def stack (vals:List Val) (vs:List V):Tm:=(vals.zip vs).reverse
def eX (C:Cs) (Z:ZX) (ta:TA) (f:ak→R (List Val)):Prop :=
 ∀(o:Og) (F H:Hp) (σ:L2.St) (ρ:ak) (T:Tm) (Q:List V→Hp→Prop),SM C o F H σ ρ T →
  lE (f ρ) (fun vals ρ'=>∀F' H' vs,vals.length=vs.length→SM C o F' H' σ ρ' (stack vals vs++T)→Q vs H') (fun x ρ'=>∀F' H',SM C o F' H' σ ρ' T→Z x F' H' σ ρ')→ta σ H Q
def xR (C:Cs) (Z:ZX) (to:TO) (f:ak→R (Option Int)):Prop :=
 ∀(o:Og) (F H:Hp) (σ:L2.St) (ρ:ak) (T:Tm) (Q:Option Int→Hp→Prop),SM C o F H σ ρ T →
  lE (f ρ) (fun b ρ'=>∀F' H',SM C o F' H' σ ρ' T→Q b H') (fun x ρ'=>∀F' H',SM C o F' H' σ ρ' T→Z x F' H' σ ρ')→to σ H Q
theorem Impl.ext {C:Cs} {Z:ZX} {te:TE} {f:ak→R Val} (h:Impl C Z te f) {o:Og} {F H:Hp} {σ:L2.St} {ρ:ak} {T:Tm} {Q:VK} (S:SM C o F H σ ρ T)
  (q:lE (f ρ) (fun val ρ'=>∀F' H' v,Ext F F'→SM C o F' H' σ ρ' ((val,v)::T)→Q v H') (fun x ρ'=>∀F' H',SM C o F' H' σ ρ' T→Z x F' H' σ ρ')):te σ H Q :=
 h _ F H σ ρ T Q S.base (au q (fun _ _ k F' H' v N=>k F' H' v N.ext (S.jy N)) fun _ _ k F' H' N=>k F' H' (S.jy N))
theorem dB.ext {C:Cs} {Z:ZX} {tt:TT} {f:ak→R Bool} (h:dB C Z tt f) {o:Og} {F H:Hp} {σ:L2.St} {ρ:ak} {T:Tm} {Q:Bool→Hp→Prop} (S:SM C o F H σ ρ T)
  (q:lE (f ρ) (fun b ρ'=>∀F' H',Ext F F'→SM C o F' H' σ ρ' T→Q b H') (fun x ρ'=>∀F' H',SM C o F' H' σ ρ' T→Z x F' H' σ ρ')):tt σ H Q :=
 h _ F H σ ρ T Q S.base (au q (fun _ _ k F' H' N=>k F' H' N.ext (S.jy N)) fun _ _ k F' H' N=>k F' H' (S.jy N))
def aq (i:Nat) (ρ:ak):R Val:=match (ρ[i]?).join with
 | ⇑d=>.ok (.en (.fr d)) ρ
 | some (.cJ xs)=>.ok (.en (.cJ xs)) ρ
 | some _=>.ok (.bor i) ρ
 | none=>.bad
def bZ (i:Nat) (ρ:ak):R Val:=match (ρ[i]?).join with
 | ⇑d=>.ok (.en (.fr d)) ρ
 | some (.cJ xs)=>.ok (.en (.cJ xs)) ρ
 | _=>.bad
section
variable {C:Cs} {Z:ZX}
theorem join_some {α:Type} {o:Option (Option α)} {a:α} (h:o.join=some a):o=some (some a):=by
 cases o with
 | none=>cases h
 | some x=>cases x with
  | none=>cases h
  | some y=>cases h; rfl
theorem KC {i:Nat} (hc:i∉C.cs):Impl C Z (tVar i) (aq i):=by
 intro o F H σ ρ T Q S h
 unfold aq at h
 cases q:(ρ[i]?).join with
 | none=>rw [q] at h; exact h.elim
 | some e =>
  have q':=join_some q
  obtain ⟨v,hv⟩:=S.has i e q'
  rw [q] at h
  have r:Rp C.K F H e v:=S.rep (.s i) e v ⟨q',hv⟩
  refine ⟨v,hv,?_⟩
  cases e with
  | fr d=>exact h F H v (S.bf r)
  | cJ xs=>exact h F H v (S.push r fun _ w=>w.elim)
  | ol xs=>exact h F H v (S.eO hv q' hc)
  | ex x=>exact h F H v (S.eO hv q' hc)
  | jW x=>exact h F H v (S.eO hv q' hc)
  | ob _=>exact h F H v (S.eO hv q' hc)
  | exs _=>exact h F H v (S.eO hv q' hc)
  | od ks vs=>exact h F H v (S.eO hv q' hc)
  | on ks vs=>exact h F H v (S.eO hv q' hc)
theorem Hl {i:Nat}:Impl C Z (tVar i) (bZ i):=by
 intro o F H σ ρ T Q S h
 unfold bZ at h
 cases q:(ρ[i]?).join with
 | none=>rw [q] at h; exact h.elim
 | some e =>
  have q':=join_some q
  obtain ⟨v,hv⟩:=S.has i e q'
  rw [q] at h
  have r:Rp C.K F H e v:=S.rep (.s i) e v ⟨q',hv⟩
  refine ⟨v,hv,?_⟩
  cases e with
  | fr d=>exact h F H v (S.bf r)
  | cJ xs=>exact h F H v (S.push r fun _ w=>w.elim)
  | ol xs=>exact h.elim
  | ex x=>exact h.elim
  | jW x=>exact h.elim
  | ob _=>exact h.elim
  | exs _=>exact h.elim
  | od ks vs=>exact h.elim
  | on ks vs=>exact h.elim
def KD:V→Option D
 | .non=>some .non
 | .bl b=>some (.bl b)
 | .int i=>some (.int i)
 | .str s=>some (.str s)
 | _=>none
theorem KH {K:PySem.W.Frag} {F:Hp} {v:V} {d:D} (h:KD v=some d):Dq K F d v:=by
 cases v <;> simp only [KD,Option.some.injEq,reduceCtorEq] at h <;> subst h <;> simp only [Dq]
theorem vG {v:V} {d:D} (h:KD v=some d):Impl C Z (tC v) (fun ρ=>.ok (.en (.fr d)) ρ):=fun o F H σ ρ T Q S q=>q F H v (S.bf (KH h))
/-! ### operations by values -/
def qK (K:PySem.W.Frag) (r:R2) (g:En→En→Option En):Prop:=∀(F H:Hp) (e1 e2:En) (x y:V) (e:En) (Q:VK),Ext F H→Rp K F H e1 x→Rp K F H e2 y→g e1 e2=some e →
 (∀F' H' v,eV K F H F' H' e v→Q v H')→r x y H Q
def UnS (K:PySem.W.Frag) (r:V→Hp→VK→Prop) (g:En→Option En):Prop:=∀(F H:Hp) (e1:En) (x:V) (e:En) (Q:VK),Ext F H→Rp K F H e1 x→g e1=some e →
 (∀F' H' v,eV K F H F' H' e v→Q v H')→r x H Q
def j7 (K:PySem.W.Frag) (r:List V→Hp→VK→Prop) (g:List En→Option En):Prop:=∀(F H:Hp) (es:List En) (vs:List V) (e:En) (Q:VK),Ext F H→Paired (Rp K F H) es vs→g es=some e →
 (∀F' H' v,eV K F H F' H' e v→Q v H')→r vs H Q
theorem qK.or {K:PySem.W.Frag} {r r':R2} {g g':En→En→Option En} (h:qK K r g) (h':qK K r' g'):qK K (fun x y H Q=>r x y H Q∨r' x y H Q) (fun a b=>(g a b).or (g' a b)):=by
 intro F H e1 e2 x y e Q s r1 r2 hg q
 replace hg:(g e1 e2).or (g' e1 e2)=some e:=hg
 cases z:g e1 e2 with
 | some e' =>
  rw [z,Option.some_or] at hg
  cases hg
  exact .inl (h F H e1 e2 x y e Q s r1 r2 z q)
 | none =>
  rw [z,Option.none_or] at hg
  exact .inr (h' F H e1 e2 x y e Q s r1 r2 hg q)
theorem j7.or {K:PySem.W.Frag} {r r':List V→Hp→VK→Prop} {g g':List En→Option En} (h:j7 K r g) (h':j7 K r' g'):j7 K (fun x H Q=>r x H Q∨r' x H Q) (fun a=>(g a).or (g' a)):=by
 intro F H es vs e Q s r1 hg q
 replace hg:(g es).or (g' es)=some e:=hg
 cases z:g es with
 | some e' =>
  rw [z,Option.some_or] at hg
  cases hg
  exact .inl (h F H es vs e Q s r1 z q)
 | none =>
  rw [z,Option.none_or] at hg
  exact .inr (h' F H es vs e Q s r1 hg q)
def aY (g:En→En→Option En) (fa fb:ak→R Val) (ρ:ak):R Val:=(fa ρ).bind fun a ρ1=>(fb ρ1).bind fun b ρ2=>match look ρ2 a,look ρ2 b with
 | some x,some y=>o9 ((g x y).map .en) ρ2
 | _,_=>.bad
theorem nU {r:R2} {g:En→En→Option En} {ta tb:TE} {fa fb:ak→R Val} (hr:qK C.K r g) (ha:Impl C Z ta fa) (hb:Impl C Z tb fb):Impl C Z (tOp r ta tb) (aY g fa fb):=by
 intro o F H σ ρ T Q S h
 unfold aY at h
 rw [aA] at h
 refine ha o F H σ ρ T _ S (au h (fun a ρ1 h1 F1 H1 x S1=>?_) fun _ _ h=>h)
 rw [aA] at h1
 refine hb o F1 H1 σ ρ1 _ _ S1 (au h1 (fun b ρ2 h2 F2 H2 y S2=>?_) fun _ _ h F' H' s=>h F' H' s.drop)
 cases la:look ρ2 a with
 | none=>rw [la] at h2; exact h2.elim
 | some e1 =>
  cases lb:look ρ2 b with
  | none=>rw [la,lb] at h2; exact h2.elim
  | some e2 =>
   rw [la,lb] at h2
   obtain ⟨val,hv,q⟩:=cD h2
   cases hg:g e1 e2 with
   | none=>rw [hg] at hv; cases hv
   | some e =>
    rw [hg] at hv
    cases hv
    refine hr F2 H2 e1 e2 x y e Q S2.sub (S2.look (j:=1) rfl la) (S2.look (j:=0) rfl lb) hg fun F' H' v al=>q F' H' v ?_
    exact SM.under [(b,y),(a,x)] (S2.alloc al)
def BL (g:En→Option En) (fa:ak→R Val) (ρ:ak):R Val:=(fa ρ).bind fun a ρ1=>match look ρ1 a with
 | some x=>o9 ((g x).map .en) ρ1
 | _=>.bad
theorem Sd {r:V→Hp→VK→Prop} {g:En→Option En} {ta:TE} {fa:ak→R Val} (hr:UnS C.K r g) (ha:Impl C Z ta fa):Impl C Z (tUn r ta) (BL g fa):=by
 intro o F H σ ρ T Q S h
 unfold BL at h
 rw [aA] at h
 refine ha o F H σ ρ T _ S (au h (fun a ρ1 h1 F1 H1 x S1=>?_) fun _ _ h=>h)
 cases la:look ρ1 a with
 | none=>rw [la] at h1; exact h1.elim
 | some e1 =>
  rw [la] at h1
  obtain ⟨val,hv,q⟩:=cD h1
  cases hg:g e1 with
  | none=>rw [hg] at hv; cases hv
  | some e =>
   rw [hg] at hv
   cases hv
   exact hr F1 H1 e1 x e Q S1.sub (S1.look (j:=0) rfl la) hg fun F' H' v al=>q F' H' v (SM.under [(a,x)] (S1.alloc al))
/-! ### arguments -/
def ao (ρ:ak):R (List Val):=.ok [] ρ
def aj (fa:ak→R Val) (fs:ak→R (List Val)) (ρ:ak):R (List Val):=(fa ρ).bind fun a ρ1=>(fs ρ1).bind fun as ρ2=>.ok (a::as) ρ2
theorem j8:eX C Z tNil ao:=fun o F H σ ρ T Q S q=>q F H [] rfl S
theorem mU {a:Val} {x:V} {as:List Val} {xs:List V}:stack (a::as) (x::xs)=stack as xs++[(a,x)]:=by
 unfold stack
 rw [List.zip_cons_cons,List.reverse_cons]
theorem pq {ta:TE} {tr:TA} {fa:ak→R Val} {fs:ak→R (List Val)} (ha:Impl C Z ta fa) (hs:eX C Z tr fs):eX C Z (tCons ta tr) (aj fa fs):=by
 intro o F H σ ρ T Q S h
 unfold aj at h
 rw [aA] at h
 refine ha o F H σ ρ T _ S (au h (fun a ρ1 h1 F1 H1 x S1=>?_) fun _ _ h=>h)
 rw [aA] at h1
 refine hs o F1 H1 σ ρ1 _ _ S1 (au h1 (fun as ρ2 h2 F2 H2 xs hl S2=>?_) fun _ _ h F' H' s=>h F' H' s.drop)
 refine h2 F2 H2 (x::xs) (by rw [List.length_cons,List.length_cons,hl]) ?_
 rw [mU,List.append_assoc]
 exact S2
def looks (ρ:ak):List Val→Option (List En)
 | []=>some []
 | a::as=>match look ρ a,looks ρ as with
  | some e,some es=>some (e::es)
  | _,_=>none
theorem nW {o:Og} {F H:Hp} {σ:L2.St} {ρ:ak} {T:Tm} (S:SM C o F H σ ρ T):∀{vals:List Val} {vs:List V} {es:List En},vals.length=vs.length→(∀x∈vals.zip vs,x∈T)→looks ρ vals=some es→Paired (Rp C.K F H) es vs
 | [],[],es,_,_,h=>by
  have h':some []=some es:=h
  cases h'
  exact .nil
 | a::as,v::vs,es,hl,hm,h=>by
  unfold looks at h
  cases la:look ρ a with
  | none=>rw [la] at h; cases h
  | some e =>
   cases ls:looks ρ as with
   | none=>rw [la,ls] at h; cases h
   | some es' =>
    rw [la,ls] at h
    cases h
    exact .cons (S.xQ (hm (a,v) (by simp)) la) (nW S (by simpa using hl) (fun x hx=>hm x (by rw [List.zip_cons_cons]; exact List.mem_cons_of_mem _ hx)) ls)
 | [],_::_,_,hl,_,_=>by simp at hl
 | _::_,[],_,hl,_,_=>by simp at hl
def fJ (g:List En→Option En) (fs:ak→R (List Val)) (ρ:ak):R Val:=(fs ρ).bind fun as ρ1=>match looks ρ1 as with
 | some es=>o9 ((g es).map .en) ρ1
 | none=>.bad
theorem Dk {r:List V→Hp→VK→Prop} {g:List En→Option En} {ta:TA} {fs:ak→R (List Val)} (hr:j7 C.K r g) (ha:eX C Z ta fs):Impl C Z (tCB r ta) (fJ g fs):=by
 intro o F H σ ρ T Q S h
 unfold fJ at h
 rw [aA] at h
 refine ha o F H σ ρ T _ S (au h (fun as ρ1 h1 F1 H1 vs hl S1=>?_) fun _ _ h=>h)
 cases la:looks ρ1 as with
 | none=>rw [la] at h1; exact h1.elim
 | some es =>
  rw [la] at h1
  obtain ⟨val,hv,q⟩:=cD h1
  cases hg:g es with
  | none=>rw [hg] at hv; cases hv
  | some e =>
   rw [hg] at hv
   cases hv
   refine hr F1 H1 es vs e Q S1.sub (nW S1 hl (fun x hx=>?_) la) hg fun F' H' v al=>q F' H' v (SM.under (stack as vs) (S1.alloc al))
   exact List.mem_append_left _ (by unfold stack; exact List.mem_reverse.mpr hx)
/-! ### KJ -/
def frz (a:Val) (ρ:ak):Option (En × ak):=match a with
 | .en e=>some (e.fz,ρ)
 | .bor i=>match (ρ[i]?).join with
  | some e=>some (e.fz,ρ.set i (some e.fz))
  | none=>none
theorem Rp.fz {K:PySem.W.Frag} {F H:Hp} {e:En} {v:V} (s:Ext F H) (r:Rp K F H e v) (hn:∀a,Ow H e v a→F a=none) :
  ∃F',Ext F F'∧Ext F' H∧(∀b,F b=none→F' b≠none→Ow H e v b)∧Rp K F' H e.fz v:=by
 cases e with
 | fr d=>exact ⟨F,Ext.refl F,s,fun _ a b=>absurd a b,r⟩
 | cJ d=>exact ⟨F,Ext.refl F,s,fun _ a b=>absurd a b,r⟩
 | ex d=>exact ⟨F,Ext.refl F,s,fun _ a b=>absurd a b,r⟩
 | ol ds =>
  obtain ⟨a,vs,rfl,h2,h3⟩:=r
  have fa:=hn a rfl
  refine ⟨upd F a (.lst vs),Ext.new fa,fun b u q=>?_,fun b h1 h4=>?_,?_⟩
  ·by_cases hb:b=a
   ·subst hb; rw [upd_same] at q; cases q; exact h2
   ·rw [upd_ne hb] at q; exact s b u q
  ·by_cases hb:b=a
   ·subst hb; rfl
   ·rw [upd_ne hb] at h4; exact absurd h1 h4
  ·show Dq K _ (.lst ds) (.ref a)
   simp only [Dq]
   exact ⟨a,vs,rfl,upd_same,aN.mono (Ext.new fa) _ _ h3⟩
 | od ks ds =>
  obtain ⟨a,us,vs,rfl,_⟩:=r
  refine ⟨F,Ext.refl F,s,fun _ a b=>absurd a b,?_⟩
  show Dq K _ (.dct [.non] []) (.ref a)
  simp only [Dq]
  exact ⟨a,[],[],rfl,.inl rfl⟩
 | on ks ds =>
  obtain ⟨a,us,vs,rfl,_⟩:=r
  refine ⟨F,Ext.refl F,s,fun _ a b=>absurd a b,?_⟩
  show Dq K _ (.dct [.non] []) (.ref a)
  simp only [Dq]
  exact ⟨a,[],[],rfl,.inl rfl⟩
 | jW its =>
  obtain ⟨p,vs,rfl,h2,h3,h4,h5,h6⟩:=r
  have ow:∀b,b=p∨Hj its vs b→Ow H (.jW its) (.ref p) b:=fun b hb=>⟨p,_,rfl,h2,hb⟩
  have fn:∀b,b=p∨Hj its vs b→F b=none:=fun b hb=>hn b (ow b hb)
  have ex:∀b u,F b=some u→¬(b=p∨Hj its vs b):=fun b u q hb=>by rw [fn b hb] at q; cases q
  classical
  let F':Hp:=fun b=>if b=p∨Hj its vs b then H b else F b
  have f1:Ext F F':=fun b u q=>by
   show (if b=p∨Hj its vs b then H b else F b)=_
   rw [if_neg (ex b u q)]; exact q
  have at':∀b,b=p∨Hj its vs b→F' b=H b:=fun b hb=>if_pos hb
  refine ⟨F',f1,fun b u q=>?_,fun b h1 h4=>?_,?_⟩
  ·by_cases hb:b=p∨Hj its vs b
   ·rw [at' b hb] at q; exact q
   ·have q':(if b=p∨Hj its vs b then H b else F b)=some u:=q
    rw [if_neg hb] at q'; exact s b u q'
  ·by_cases hb:b=p∨Hj its vs b
   ·exact ow b hb
   ·have h4':(if b=p∨Hj its vs b then H b else F b)≠none:=h4
    rw [if_neg hb] at h4'; exact absurd h1 h4'
  ·show Dq K F' (.lst (its.map Itm.fz)) (.ref p)
   simp only [Dq]
   refine ⟨p,_,rfl,(at' p (.inl rfl)).trans h2,?_⟩
   have go:∀(its:List Itm) (vs:List V),its.length=vs.length→(∀(i:Nat) (x:Itm) (y:V),its[i]?=some x→vs[i]?=some y→Dq K F' x.fz y)→aN K F' (its.map Itm.fz) vs:=by
    intro its
    induction its with
    | nil=>intro vs hl _; cases vs with
     | nil=>exact .nil
     | cons _ _=>simp at hl
    | cons x its ih=>intro vs hl h; cases vs with
     | nil=>simp at hl
     | cons y vs=>exact aN.cons (h 0 x y rfl rfl) (ih vs (by simpa using hl) fun i x y e1 e2=>h (i+1) x y (by simpa using e1) (by simpa using e2))
   refine go its vs h3 fun i x y e1 e2=>?_
   have r:=h4 i x y e1 e2
   cases x with
   | fr d=>exact Dq.mono f1 _ _ r
   | ol xs =>
    obtain ⟨a,us,rfl,k1,k2⟩:=r
    show Dq K F' (.lst xs) (.ref a)
    simp only [Dq]
    exact ⟨a,us,rfl,(at' a (.inr ⟨i,xs,e1,e2⟩)).trans k1,aN.mono f1 _ _ k2⟩
 | ob fs =>
  obtain ⟨a,dx,gs,rfl,_⟩:=r
  refine ⟨F,Ext.refl F,s,fun _ a b=>absurd a b,?_⟩
  show Dq K _ (.dct [.non] []) (.ref a)
  simp only [Dq]
  exact ⟨a,[],[],rfl,.inl rfl⟩
 | exs xs=>exact ⟨F,Ext.refl F,s,fun _ a b=>absurd a b,r⟩
theorem Dm {H:Hp} {e:En} {v:V} {a:Addr}:¬Ow H e.fz v a:=by
 cases e <;> exact fun w=>w
theorem SM.abu {o:Og} {F H:Hp} {σ:L2.St} {ρ ρ':ak} {T T':Tm} (S:SM C o F H σ ρ T) {w:Wh} {e:En} {v:V} (h:At σ ρ T w e v) (hl:ρ'.length=ρ.length)
  (hat:∀p e' v',At σ ρ' T' p e' v'→(p=w∧e'=e.fz∧v'=v)∨(p≠w∧At σ ρ T p e' v')) (hs:∀(i:Nat) (e':En),ρ'[i]?=some (some e')→∃e'',ρ[i]?=some (some e''))
  (hb:∀(j i:Nat) (v':V),T'[j]?=some (.bor i,v')→T[j]?=some (.bor i,v')∧((∃e',ρ[i]?=some (some e'))→∃e',ρ'[i]?=some (some e'))):∃F',SM C o F' H σ ρ' T':=by
 obtain ⟨F',f1,f2,f3,f4⟩:=(S.rep w e v h).fz S.sub fun a q=>(S.own w e v a h q).1
 refine ⟨F',?_⟩
 exact {
  sub:=f2
  len:=hl.trans S.len
  has:=fun i e' q=>by obtain ⟨e'',q'⟩:=hs i e' q; exact S.has i e'' q'
  rep:=fun p e' v' a=>by
   rcases hat p e' v' a with ⟨rfl,rfl,rfl⟩ | ⟨_,a'⟩
   ·exact f4
   ·exact (S.rep p e' v' a').mono f1 (Ext.refl H)
  bor:=fun j i v' q=>by
   obtain ⟨q1,q2⟩:=hb j i v' q
   obtain ⟨b1,b2,b3⟩:=S.bor j i v' q1
   exact ⟨b1,q2 b2,b3⟩
  sep:=fun p q e1 e2 v1 v2 a ne a1 a2 w1 w2=>by
   rcases hat p e1 v1 a1 with ⟨_,rfl,_⟩ | ⟨_,a1'⟩
   ·exact Dm w1
   ·rcases hat q e2 v2 a2 with ⟨_,rfl,_⟩ | ⟨_,a2'⟩
    ·exact Dm w2
    ·exact S.sep p q e1 e2 v1 v2 a ne a1' a2' w1 w2
  own:=fun p e1 v1 a a1 w1=>by
   rcases hat p e1 v1 a1 with ⟨_,rfl,_⟩ | ⟨ne,a1'⟩
   ·exact absurd w1 Dm
   ·obtain ⟨o1,o2⟩:=S.own p e1 v1 a a1' w1
    refine ⟨?_,o2⟩
    cases q:F' a with
    | none=>rfl
    | some u=>exact absurd w1 (S.sep w p e e1 v v1 a (Ne.symm ne) h a1' (f3 a o1 (by rw [q]; simp)))
  ext:=S.ext.trans f1
  keep:=S.keep
  new:=fun b h1 h2=>by
   cases q:F b with
   | none=>exact (S.own w e v b h (f3 b q h2)).2
   | some u=>exact S.new b h1 (by rw [q]; simp)
  lk:=S.lk
  qJ:=S.qJ
  pt:=S.pt }
theorem SM.frz {o:Og} {F H:Hp} {σ:L2.St} {ρ ρ':ak} {T:Tm} {a:Val} {v:V} {e:En} (S:SM C o F H σ ρ ((a,v)::T)) (h:frz a ρ=some (e,ρ')):∃F',SM C o F' H σ ρ' ((.en e,v)::T):=by
 cases a with
 | en e0 =>
  have h':some (e0.fz,ρ)=some (e,ρ'):=h
  cases h'
  refine S.abu (w:=.t 0) (e:=e0) (v:=v) rfl rfl (fun p e' v' a=>?_) (fun i e' q=>⟨e',q⟩) fun j i v' q=>?_
  ·cases p with
   | s i=>exact .inr ⟨(fun z=>by cases z),a⟩
   | t j =>
    cases j with
    | zero =>
     have a':some (Val.en e0.fz,v)=some (Val.en e',v'):=a
     cases a'
     exact .inl ⟨rfl,rfl,rfl⟩
    | succ j=>exact .inr ⟨(fun z=>by cases z),a⟩
  ·cases j with
   | zero=>simp at q
   | succ j=>exact ⟨q,fun z=>z⟩
 | bor i =>
  unfold DM.frz at h
  simp only at h
  cases q:(ρ[i]?).join with
  | none=>rw [q] at h; cases h
  | some e0 =>
   rw [q] at h
   cases h
   have q':=join_some q
   obtain ⟨b1,_,b3⟩:=S.bor 0 i v rfl
   have hi:i<ρ.length:=(List.getElem?_eq_some_iff.mp q').1
   have S1:∃F',SM C o F' H σ (ρ.set i (some e0.fz)) ((.bor i,v)::T):=by
    refine S.abu (w:=.s i) (e:=e0) (v:=v) ⟨q',b1⟩ (List.length_set ..) (fun p e' v' a=>?_) (fun k e' z=>?_) fun j k v' z=>⟨z,fun ⟨e',y⟩=>?_⟩
    ·cases p with
     | s k =>
      obtain ⟨a1,a2⟩:=a
      by_cases hk:k=i
      ·subst hk
       rw [List.getElem?_set_self hi] at a1
       rw [b1] at a2
       cases a1; cases a2
       exact .inl ⟨rfl,rfl,rfl⟩
      ·rw [List.getElem?_set_ne (Ne.symm hk)] at a1
       exact .inr ⟨fun z=>hk (Wh.s.inj z),a1,a2⟩
     | t j=>exact .inr ⟨(fun z=>by cases z),a⟩
    ·by_cases hk:k=i
     ·subst hk; exact ⟨_,q'⟩
     ·rw [List.getElem?_set_ne (Ne.symm hk)] at z; exact ⟨_,z⟩
    ·by_cases hk:k=i
     ·subst hk; exact ⟨_,List.getElem?_set_self hi⟩
     ·exact ⟨e',by rw [List.getElem?_set_ne (Ne.symm hk)]; exact y⟩
   obtain ⟨F',S2⟩:=S1
   refine ⟨F',?_⟩
   have r:Rp C.K F' H e0.fz v:=S2.rep (.s i) e0.fz v ⟨List.getElem?_set_self hi,b1⟩
   exact S2.drop.push r fun a w=>absurd w Dm
def bL (f:ak→R Val) (ρ:ak):R Val:=(f ρ).bind fun a ρ1=>match frz a ρ1 with
 | some (e,ρ2)=>.ok (.en e) ρ2
 | none=>.bad
theorem BP {te:TE} {f:ak→R Val} (h:Impl C Z te f):Impl C Z te (bL f):=by
 intro o F H σ ρ T Q S q
 unfold bL at q
 rw [aA] at q
 refine h o F H σ ρ T Q S (au q (fun a ρ1 h1 F1 H1 v S1=>?_) fun _ _ h=>h)
 cases z:frz a ρ1 with
 | none=>rw [z] at h1; exact h1.elim
 | some p =>
  obtain ⟨e,ρ2⟩:=p
  rw [z] at h1
  obtain ⟨F2,S2⟩:=S1.frz z
  exact h1 F2 H1 v S2
/-! ### displays -/
def datas (ρ:ak):List Val→Option (List D)
 | []=>some []
 | .en (.fr d)::as=>match datas ρ as with
  | some ds=>some (d::ds)
  | none=>none
 | _=>none
theorem qY {o:Og} {F H:Hp} {σ:L2.St} {ρ:ak} {T:Tm} (S:SM C o F H σ ρ T):∀{vals:List Val} {vs:List V} {ds:List D},vals.length=vs.length→(∀x∈vals.zip vs,x∈T)→datas ρ vals=some ds→aN C.K F ds vs
 | [],[],ds,_,_,h=>by
  have h':some []=some ds:=h
  cases h'
  exact .nil
 | a::as,v::vs,ds,hl,hm,h=>by
  cases a with
  | bor i=>cases h
  | en e =>
   cases e with
   | fr d =>
    have h':(match datas ρ as with | some ds=>some (d::ds) | none=>none)=some ds:=h
    cases q:datas ρ as with
    | none=>rw [q] at h'; cases h'
    | some ds' =>
     rw [q] at h'
     cases h'
     exact .cons (S.xQ (hm (.en (.fr d),v) (by simp)) rfl) (qY S (by simpa using hl) (fun x hx=>hm x (by rw [List.zip_cons_cons]; exact List.mem_cons_of_mem _ hx)) q)
   | ol _=>cases h
   | od _ _=>cases h
   | on _ _=>cases h
   | cJ _=>cases h
   | ex _=>cases h
   | jW _=>cases h
   | ob _=>cases h
   | exs _=>cases h
 | [],_::_,_,hl,_,_=>by simp at hl
 | _::_,[],_,hl,_,_=>by simp at hl
def aP (fs:ak→R (List Val)) (ρ:ak):R Val:=(fs ρ).bind fun as ρ1=>match datas ρ1 as with
 | some ds=>if ds.length≤sizeLine then .ok (.en (.fr (.tup ds))) ρ1 else .bad
 | none=>.bad
def aU (fs:ak→R (List Val)) (ρ:ak):R Val:=(fs ρ).bind fun as ρ1=>match datas ρ1 as with
 | some ds=>if ds.length≤sizeLine then .ok (.en (.ol ds)) ρ1 else .bad
 | none=>.bad
theorem jc {as:List Val} {vs:List V} {T:Tm}:∀x∈as.zip vs,x∈stack as vs++T:=fun x hx=>List.mem_append_left _ (by unfold stack; exact List.mem_reverse.mpr hx)
theorem KN {ta:TA} {fs:ak→R (List Val)} (ha:eX C Z ta fs):Impl C Z (Vk ta) (aP fs):=by
 intro o F H σ ρ T Q S h
 unfold aP at h
 rw [aA] at h
 refine ha o F H σ ρ T _ S (au h (fun as ρ1 h1 F1 H1 vs hl S1=>?_) fun _ _ h=>h)
 cases la:datas ρ1 as with
 | none=>rw [la] at h1; exact h1.elim
 | some ds =>
  rw [la] at h1
  have hd:=qY S1 hl jc la
  by_cases hz:ds.length≤sizeLine
  ·simp only [hz,if_true] at h1
   refine ⟨by rw [← hd.length]; exact hz,fun ob p nd hp=>h1 _ _ _ (SM.under (stack as vs) (S1.alloc (eV.tup S1.sub nd hp hd)))⟩
  ·simp only [hz,if_false] at h1
   exact h1.elim
theorem KQ {ta:TA} {fs:ak→R (List Val)} (ha:eX C Z ta fs):Impl C Z (tLst ta) (aU fs):=by
 intro o F H σ ρ T Q S h
 unfold aU at h
 rw [aA] at h
 refine ha o F H σ ρ T _ S (au h (fun as ρ1 h1 F1 H1 vs hl S1=>?_) fun _ _ h=>h)
 cases la:datas ρ1 as with
 | none=>rw [la] at h1; exact h1.elim
 | some ds =>
  rw [la] at h1
  have hd:=qY S1 hl jc la
  by_cases hz:ds.length≤sizeLine
  ·simp only [hz,if_true] at h1
   refine ⟨by rw [← hd.length]; exact hz,fun p hp=>h1 _ _ _ (SM.under (stack as vs) (S1.alloc (.lst (Grow.refl S1.sub) hp hd)))⟩
  ·simp only [hz,if_false] at h1
   exact h1.elim
/-! ### truth, and, or, if -/
def Ho:En→Option Bool
 | .fr .non=>some false
 | .fr (.bl b)=>some b
 | .fr (.int i)=>some (i != 0)
 | .fr (.str s)=>if s.length≤sizeLine then some ((s.length:Int) != 0) else none
 | .fr (.lst xs)=>some (!xs.isEmpty)
 | .fr (.tup xs)=>some (!xs.isEmpty)
 | .ol xs=>some (!xs.isEmpty)
 | .cJ xs=>some (!xs.isEmpty)
 | _=>none
theorem aN.isEmpty {K:PySem.W.Frag} {F:Hp} {ds:List D} {vs:List V} (h:aN K F ds vs):ds.isEmpty=vs.isEmpty:=by
 have:=h.length
 cases ds <;> cases vs <;> first | rfl | simp at this
theorem Ss {K:PySem.W.Frag} {F H:Hp} {e:En} {x:V} {b:Bool} (s:Ext F H) (r:Rp K F H e x) (h:Ho e=some b):TruV K x H b:=by
 cases e with
 | fr d =>
  cases d with
  | non=>have r':x=.non:=by simpa only [Rp,Dq] using r
         subst r'; cases h; rfl
  | bl k=>have r':x=.bl k:=by simpa only [Rp,Dq] using r
          subst r'; cases h; rfl
  | int k=>have r':x=.int k:=by simpa only [Rp,Dq] using r
           subst r'; cases h; rfl
  | str k =>
   have r':x=.str k:=by simpa only [Rp,Dq] using r
   subst r'
   unfold Ho at h
   by_cases hz:k.length≤sizeLine
   ·simp only [hz,if_true] at h; cases h; exact ⟨hz,rfl⟩
   ·simp only [hz,if_false] at h; cases h
  | lst xs =>
   have r':∃a vs,x=.ref a∧F a=some (.lst vs)∧aN K F xs vs:=by simpa only [Rp,Dq] using r
   obtain ⟨a,vs,rfl,h1,h2⟩:=r'
   cases h
   exact .inl ⟨vs,.inl (.inl (s _ _ h1)),by rw [h2.isEmpty]⟩
  | tup xs =>
   have r':∃a vs,x=.ref a∧RW F a vs∧aN K F xs vs:=by simpa only [Rp,Dq] using r
   obtain ⟨a,vs,rfl,h1,h2⟩:=r'
   cases h
   exact .inr (.inl ⟨vs,s.Di h1,by rw [h2.isEmpty]⟩)
  | dct _ _=>cases h
  | xJ _ _=>cases h
 | ol xs =>
  obtain ⟨a,vs,rfl,h1,h2⟩:=r
  cases h
  exact .inl ⟨vs,.inl (.inl h1),by rw [h2.isEmpty]⟩
 | cJ xs =>
  obtain ⟨a,vs,rfl,h1,h2⟩:=r
  cases h
  exact .inl ⟨vs,s.BK h1,by rw [h2.isEmpty]⟩
 | ex _=>cases h
 | jW _=>cases h
 | ob _=>cases h
 | exs _=>cases h
 | od _ _=>cases h
 | on _ _=>cases h
def qZ (f:ak→R Val) (ρ:ak):R Bool:=(f ρ).bind fun a ρ1=>match look ρ1 a with
 | some e=>o9 (Ho e) ρ1
 | none=>.bad
def tTru (K:PySem.W.Frag) (te:TE):TT:=fun σ H Q=>te σ H fun x H'=>∃k,TruV K x H' k∧Q k H'
theorem Hq {te:TE} {f:ak→R Val} (h:Impl C Z te f):dB C Z (tTru C.K te) (qZ f):=by
 intro o F H σ ρ T Q S q
 unfold qZ at q
 rw [aA] at q
 refine h o F H σ ρ T _ S (au q (fun a ρ1 h1 F1 H1 x S1=>?_) fun _ _ h=>h)
 cases la:look ρ1 a with
 | none=>rw [la] at h1; exact h1.elim
 | some e =>
  rw [la] at h1
  obtain ⟨b,hb,q⟩:=cD h1
  exact ⟨b,Ss S1.sub (S1.look (j:=0) rfl la) hb,q F1 H1 S1.drop⟩
def vH:En→Option Bool
 | .fr (.bl b)=>some b
 | _=>none
theorem rA {K:PySem.W.Frag} {F H:Hp} {e:En} {x:V} {b:Bool} (r:Rp K F H e x) (h:vH e=some b):x=.bl b:=by
 cases e with
 | fr d =>
  cases d with
  | bl k=>have r':x=.bl k:=by simpa only [Rp,Dq] using r
          subst r'; cases h; rfl
  | _=>cases h
 | _=>cases h
def j9 (f:ak→R Val) (ρ:ak):R Bool:=(f ρ).bind fun a ρ1=>match look ρ1 a with
 | some e=>o9 (vH e) ρ1
 | none=>.bad
theorem Sv {te:TE} {f:ak→R Val} (h:Impl C Z te f):dB C Z (tTest te) (j9 f):=by
 intro o F H σ ρ T Q S q
 unfold j9 at q
 rw [aA] at q
 refine h o F H σ ρ T _ S (au q (fun a ρ1 h1 F1 H1 x S1=>?_) fun _ _ h=>h)
 cases la:look ρ1 a with
 | none=>rw [la] at h1; exact h1.elim
 | some e =>
  rw [la] at h1
  obtain ⟨b,hb,q⟩:=cD h1
  exact ⟨b,rA (S1.look (j:=0) rfl la) hb,q F1 H1 S1.drop⟩
def nY (fa fb:ak→R Bool) (ρ:ak):R Bool:=(fa ρ).bind fun a ρ1=>match a with | true=>fb ρ1 | false=>.ok false ρ1
def kh (fa fb:ak→R Bool) (ρ:ak):R Bool:=(fa ρ).bind fun a ρ1=>match a with | true=>.ok true ρ1 | false=>fb ρ1
def lF (fa:ak→R Bool) (ρ:ak):R Bool:=(fa ρ).bind fun a ρ1=>.ok (!a) ρ1
theorem Hr {ta tb:TT} {fa fb:ak→R Bool} (ha:dB C Z ta fa) (hb:dB C Z tb fb):dB C Z (tAnd ta tb) (nY fa fb):=by
 intro o F H σ ρ T Q S h
 unfold nY at h
 rw [aA] at h
 refine ha o F H σ ρ T _ S (au h (fun a ρ1 h1 F1 H1 S1=>?_) fun _ _ h=>h)
 cases a with
 | true=>exact hb o F1 H1 σ ρ1 T Q S1 h1
 | false=>exact h1 F1 H1 S1
theorem KR {ta tb:TT} {fa fb:ak→R Bool} (ha:dB C Z ta fa) (hb:dB C Z tb fb):dB C Z (tOr ta tb) (kh fa fb):=by
 intro o F H σ ρ T Q S h
 unfold kh at h
 rw [aA] at h
 refine ha o F H σ ρ T _ S (au h (fun a ρ1 h1 F1 H1 S1=>?_) fun _ _ h=>h)
 cases a with
 | true=>exact h1 F1 H1 S1
 | false=>exact hb o F1 H1 σ ρ1 T Q S1 h1
theorem Ht {ta:TT} {fa:ak→R Bool} (ha:dB C Z ta fa):dB C Z (tNot ta) (lF fa):=by
 intro o F H σ ρ T Q S h
 unfold lF at h
 rw [aA] at h
 exact ha o F H σ ρ T _ S (au h (fun a ρ1 h1 F1 H1 S1=>h1 F1 H1 S1) fun _ _ h=>h)
def kJ {α:Type} (ft:ak→R Bool) (fa fb:ak→R α) (ρ:ak):R α:=(ft ρ).bind fun a ρ1=>match a with | true=>fa ρ1 | false=>fb ρ1
def fM (fa fb:ak→R Val) (ρ:ak):R Val:=(fa ρ).bind fun a ρ1=>match (look ρ1 a).bind vH with
 | some true=>fb ρ1
 | some false=>.ok (.en (.fr (.bl false))) ρ1
 | none=>.bad
def vI (fa fb:ak→R Val) (ρ:ak):R Val:=(fa ρ).bind fun a ρ1=>match (look ρ1 a).bind vH with
 | some true=>.ok (.en (.fr (.bl true))) ρ1
 | some false=>fb ρ1
 | none=>.bad
def nZ (fa:ak→R Val) (ρ:ak):R Val:=(fa ρ).bind fun a ρ1=>match (look ρ1 a).bind vH with
 | some b=>.ok (.en (.fr (.bl (!b)))) ρ1
 | none=>.bad
theorem fZ {K:PySem.W.Frag} {F:Hp} (b:Bool):Dq K F (.bl b) (.bl b):=by simp only [Dq]
theorem mV {K:PySem.W.Frag} {F:Hp} (b:Int):Dq K F (.int b) (.int b):=by simp only [Dq]
theorem rB {K:PySem.W.Frag} {F:Hp} (b:Str):Dq K F (.str b) (.str b):=by simp only [Dq]
theorem BR {K:PySem.W.Frag} {F:Hp}:Dq K F .non .non:=by simp only [Dq]
theorem vJ {o:Og} {F H:Hp} {σ:L2.St} {ρ:ak} {T:Tm} {a:Val} {x:V} {b:Bool} (S:SM C o F H σ ρ ((a,x)::T)) (h:(look ρ a).bind vH=some b):x=.bl b:=by
 cases la:look ρ a with
 | none=>rw [la] at h; cases h
 | some e=>rw [la] at h; exact rA (S.look (j:=0) rfl la) h
theorem Hu {ta tb:TE} {fa fb:ak→R Val} (ha:Impl C Z ta fa) (hb:Impl C Z tb fb):Impl C Z (tAndV ta tb) (fM fa fb):=by
 intro o F H σ ρ T Q S h
 unfold fM at h
 rw [aA] at h
 refine ha o F H σ ρ T _ S (au h (fun a ρ1 h1 F1 H1 x S1=>?_) fun _ _ h=>h)
 cases la:(look ρ1 a).bind vH with
 | none=>rw [la] at h1; exact h1.elim
 | some b =>
  rw [la] at h1
  have e:=vJ S1 la
  subst e
  refine ⟨b,rfl,?_⟩
  cases b with
  | true=>exact hb o F1 H1 σ ρ1 T Q S1.drop h1
  | false=>exact h1 F1 H1 _ (S1.drop.bf (fZ false))
theorem KY {ta tb:TE} {fa fb:ak→R Val} (ha:Impl C Z ta fa) (hb:Impl C Z tb fb):Impl C Z (tOrV ta tb) (vI fa fb):=by
 intro o F H σ ρ T Q S h
 unfold vI at h
 rw [aA] at h
 refine ha o F H σ ρ T _ S (au h (fun a ρ1 h1 F1 H1 x S1=>?_) fun _ _ h=>h)
 cases la:(look ρ1 a).bind vH with
 | none=>rw [la] at h1; exact h1.elim
 | some b =>
  rw [la] at h1
  have e:=vJ S1 la
  subst e
  refine ⟨b,rfl,?_⟩
  cases b with
  | true=>exact h1 F1 H1 _ (S1.drop.bf (fZ true))
  | false=>exact hb o F1 H1 σ ρ1 T Q S1.drop h1
theorem Hv {ta:TE} {fa:ak→R Val} (ha:Impl C Z ta fa):Impl C Z (tNotV ta) (nZ fa):=by
 intro o F H σ ρ T Q S h
 unfold nZ at h
 rw [aA] at h
 refine ha o F H σ ρ T _ S (au h (fun a ρ1 h1 F1 H1 x S1=>?_) fun _ _ h=>h)
 cases la:(look ρ1 a).bind vH with
 | none=>rw [la] at h1; exact h1.elim
 | some b =>
  rw [la] at h1
  have e:=vJ S1 la
  subst e
  exact ⟨b,rfl,h1 F1 H1 _ (S1.drop.bf (fZ _))⟩
end
end DM
end
section
namespace DM
open PySem PySem.Spec PyProof.Rows L2
/-! a tuple taken once: the tuple itself -/
theorem BW (l:Addr) (items:Array Value) (n:Nat) (dd:Option Addr) (sl:Array (Option Value)) (u:Tok) :
  Meets (Builtin.«tuple.__mul__» ⟨[.ref l,.int 1 u],[]⟩) (fun _ R s=>s.heap.get? l=some { cls:=.type "tuple",dict:=dd,data:=.seq items n,slots:=sl }∧R (.ok (.ret (.ref l))) s) :=
 .of_wp fun prog w A R s h=>by
  obtain ⟨hp,g,d,tk,os⟩:=s
  obtain ⟨hl,h⟩:=h
  have f1:=AutoSeq1.idx_int
  wp_walk using wpAny_loadPart' hl
  exact ⟨_,rfl,h⟩
def Vq (K:PySem.W.Frag):R2:=fun x y H Q=>∃l xs,x=.ref l∧y=.int 1∧SqT K H l xs∧Q (.ref l) H
theorem Sw {X:Cx}:OpR X (binaryOp .Mult) (Vq X.K):=by
 intro pins s σ H x y v u Q I rx ry h
 obtain ⟨l,xs,rfl,rfl,hT,q⟩:=h
 cases rx
 obtain ⟨t,rfl⟩:=ry
 obtain ⟨its,r,⟨⟨cls,dd,data,sl⟩,ho,hc,n,hd⟩,hs⟩:=I.tuple hT
 simp only at hc hd
 subst hc hd
 exact wpAny_binaryOp_repeat_ref (T := "tuple") (U := "int") (by decide) ⟨_,ho,rfl⟩ (fun s'=>typeIs_int s' 1 t) noFill_tuple_mul F.fills_int_mul F.slot_int_rmul repeat_tuple F.slot_int_index.lookup
  (call_meets F.slot_int_rmul (typeIs_int s 1 t) F.entry_int_rmul (F.args_int_rmul_2 _ _) (int_rmul_tuple 1 t l its.toArray n dd sl)
   ⟨ho,rfl,⟨_,ho,rfl⟩,call_meets F.slot_tuple_mul ⟨_,ho,rfl⟩ F.entry_tuple_mul (F.args_tuple_mul_2 _ _) (BW l its.toArray n dd sl t) ⟨ho,⟨.ref l,H,I,rfl,q⟩⟩⟩)
end DM
end
section
namespace DM
open PySem PySem.Spec PyProof.Rows L2
/-! sorted: a list of tuples of ints that ad5 already -/
section
variable {prog:Program} {w:World} {A:Around} {E:Value→Shared→Prop} {s:Shared}
end
theorem xT {α:Type} {lt:α→α→Bool} (O:SrtO.Swo lt):∀{vs out:List α},vs.Pairwise (fun x y=>lt x y=true)→out.Perm vs→SrtO.Srtd lt out→out=vs
 | [],out,_,p,_=>List.Perm.eq_nil p
 | v::vs,out,h,p,s=>by
  cases out with
  | nil=>exact absurd p.symm (by intro hh; have:=hh.length_eq; simp at this)
  | cons u out =>
   have hv:=List.pairwise_cons.mp h
   have hu:=List.pairwise_cons.mp s
   have e:u=v:=by
    apply Classical.byContradiction
    intro hne
    have m1:u∈vs:=by
     rcases List.mem_cons.mp (p.mem_iff.mp List.mem_cons_self) with z | z
     ·exact absurd z hne
     ·exact z
    have m2:v∈out:=by
     rcases List.mem_cons.mp (p.mem_iff.mpr (List.mem_cons_self (a:=v) (l:=vs))) with z | z
     ·exact absurd z.symm hne
     ·exact z
    have q1:=hv.1 u m1
    have q2:=hu.1 v m2
    rw [q1] at q2
    cases q2
   subst e
   rw [xT O hv.2 (List.Perm.cons_inv p) hu.2]
section
variable {X:Cx}
end
end DM
end
section
namespace DM
open PySem PySem.Spec PyProof.Rows L2
/-! repr of a single value -/
def abv:PyData→Bool
 | .none=>true
 | .bool _=>true
 | .int i=>decide (i.natAbs.log2<1920)
 | .str x=>decide ((reprText x).length≤sizeLine)
 | _=>false
end DM
end
section
namespace DM
open PySem L2
/-! ### readers of a value -/
def iw:En→Option Int
 | .fr (.int i)=>some i
 | _=>none
def stE:En→Option Str
 | .fr (.str s)=>some s
 | _=>none
def Vr:En→Option (List D)
 | .fr (.lst xs)=>some xs
 | .ol xs=>some xs
 | _=>none
def Hw:En→Option (List D)
 | .fr (.tup xs)=>some xs
 | _=>none
def Bv:En→Option (List D)
 | .fr (.lst xs)=>some xs
 | .ol xs=>some xs
 | .cJ xs=>some xs
 | _=>none
def dcE:En→Option (List D × List D)
 | .fr (.dct ks vs)=>if BJ ks=true then none else some (ks,vs)
 | .od ks vs=>some (ks,vs)
 | _=>none
section
variable {K:PySem.W.Frag} {F H:Hp} {e:En} {x:V}
theorem dG {i:Int} (r:Rp K F H e x) (h:iw e=some i):x=.int i:=by
 cases e with
 | fr d=>cases d with
  | int k=>have r':x=.int k:=by simpa only [Rp,Dq] using r
           cases h; exact r'
  | _=>cases h
 | _=>cases h
theorem jA {i:Str} (r:Rp K F H e x) (h:stE e=some i):x=.str i:=by
 cases e with
 | fr d=>cases d with
  | str k=>have r':x=.str k:=by simpa only [Rp,Dq] using r
           cases h; exact r'
  | _=>cases h
 | _=>cases h
theorem kW {xs:List D} (s:Ext F H) (r:Rp K F H e x) (h:Vr e=some xs):∃a vs,x=.ref a∧H a=some (.lst vs)∧aN K F xs vs:=by
 cases e with
 | fr d=>cases d with
  | lst k =>
   have r':∃a vs,x=.ref a∧F a=some (.lst vs)∧aN K F k vs:=by simpa only [Rp,Dq] using r
   obtain ⟨a,vs,h1,h2,h3⟩:=r'
   cases h
   exact ⟨a,vs,h1,s _ _ h2,h3⟩
  | _=>cases h
 | ol k=>cases h; exact r
 | _=>cases h
theorem mW {xs:List D} (r:Rp K F H e x) (h:Hw e=some xs):∃a vs,x=.ref a∧RW F a vs∧aN K F xs vs:=by
 cases e with
 | fr d=>cases d with
  | tup k=>cases h; simpa only [Rp,Dq] using r
  | _=>cases h
 | _=>cases h
theorem rC {xs:List D} (s:Ext F H) (r:Rp K F H e x) (h:Bv e=some xs):∃a vs,x=.ref a∧SqL K H a vs∧aN K F xs vs:=by
 cases e with
 | cJ k=>cases h; obtain ⟨a,vs,h1,h2,h3⟩:=r; exact ⟨a,vs,h1,s.BK h2,h3⟩
 | fr d =>
  have h':Vr (.fr d)=some xs:=by cases d <;> exact h
  obtain ⟨a,vs,h1,h2,h3⟩:=kW s r h'
  exact ⟨a,vs,h1,.inl (.inl h2),h3⟩
 | ol k =>
  obtain ⟨a,vs,h1,h2,h3⟩:=kW (xs:=xs) s r h
  exact ⟨a,vs,h1,.inl (.inl h2),h3⟩
 | _=>cases h
theorem Xh {p:List D × List D} (s:Ext F H) (r:Rp K F H e x) (h:dcE e=some p):∃a us vs,x=.ref a∧RD H a us vs∧aN K F p.1 us∧aN K F p.2 vs:=by
 cases e with
 | fr d=>cases d with
  | dct ks k =>
   have r':∃a us vs,x=.ref a∧(BJ ks=true∨(PD F a us vs∧aN K F ks us∧aN K F k vs)):=by simpa only [Rp,Dq] using r
   obtain ⟨a,us,vs,h1,h2⟩:=r'
   by_cases hn:BJ ks=true
   ·simp only [dcE,if_pos hn] at h
    cases h
   ·simp only [dcE,if_neg hn] at h
    cases h
    obtain ⟨h2,h4,h3⟩:=h2.resolve_left hn
    exact ⟨a,us,vs,h1,(h2.mono (s a)).rd,h4,h3⟩
  | _=>cases h
 | od ks k =>
  cases h
  obtain ⟨a,us,vs,h1,h2,h4,h3⟩:=r
  exact ⟨a,us,vs,h1,h2.rd,h4,h3⟩
 | _=>cases h
end
/-! ### ints, texts -/
def KZ (c:Int→Int→Bool) (f:Int→Int→Int):En→En→Option En:=fun a b=>match iw a,iw b with
 | some i,some j=>if c i j=true then ↥(f i j) else none
 | _,_=>none
def g2B (f:Int→Int→Bool):En→En→Option En:=fun a b=>match iw a,iw b with
 | some i,some j=>⇑(.bl (f i j))
 | _,_=>none
def g1I (f:Int→Int):En→Option En:=fun a=>match iw a with
 | some i=>↥(f i)
 | none=>none
def K6:En→En→Option En:=fun a b=>match stE a,stE b with
 | some i,some j=>if i.length+j.length≤sizeLine then ⇑(.str (i++j)) else none
 | _,_=>none
section
variable {K:PySem.W.Frag}
theorem eV.flat {F H:Hp} {d:D} {v:V} (s:Ext F H) (h:Dq K F d v):eV K F H F H (.fr d) v:=.old (Grow.refl s) h
theorem abx {P:Int→Int→Prop} {c:Int→Int→Bool} {f:Int→Int→Int} (hc:∀i j,c i j=true→P i j):qK K (rI P fun i j=>.int (f i j)) (KZ c f):=by
 intro F H e1 e2 x y e Q s r1 r2 h q
 unfold KZ at h
 cases h1:iw e1 with
 | none=>rw [h1] at h; cases h
 | some i =>
  cases h2:iw e2 with
  | none=>rw [h1,h2] at h; cases h
  | some j =>
   rw [h1,h2] at h
   by_cases z:c i j=true
   ·simp only [z,if_true] at h
    cases h
    exact ⟨i,j,dG r1 h1,dG r2 h2,hc i j z,q _ _ _ (.flat s (mV _))⟩
   ·simp only [z,if_false] at h; cases h
theorem aby {f:Int→Int→Int}:qK K (rI0 fun i j=>.int (f i j)) (KZ (fun _ _=>true) f):=by
 intro F H e1 e2 x y e Q s r1 r2 h q
 unfold KZ at h
 cases h1:iw e1 with
 | none=>rw [h1] at h; cases h
 | some i =>
  cases h2:iw e2 with
  | none=>rw [h1,h2] at h; cases h
  | some j =>
   rw [h1,h2] at h
   cases h
   exact ⟨i,j,dG r1 h1,dG r2 h2,q _ _ _ (.flat s (mV _))⟩
theorem Xi:qK K (fun x y H Q=>∃i j,x=.str i∧y=.str j∧i.length+j.length≤sizeLine∧Q (.str (i++j)) H) K6:=by
 intro F H e1 e2 x y e Q s r1 r2 h q
 unfold K6 at h
 cases h1:stE e1 with
 | none=>rw [h1] at h; cases h
 | some i =>
  cases h2:stE e2 with
  | none=>rw [h1,h2] at h; cases h
  | some j =>
   rw [h1,h2] at h
   by_cases z:i.length+j.length≤sizeLine
   ·simp only [z,if_true] at h
    cases h
    exact ⟨i,j,jA r1 h1,jA r2 h2,z,q _ _ _ (.flat s (rB _))⟩
   ·simp only [z,if_false] at h; cases h
end
def K7 (i j:Int):Bool:=decide (i.natAbs.log2+j.natAbs.log2<100000000)
def Vs (_ j:Int):Bool:=decide (0<j)
def abz (i j:Int):Bool:=decide (0≤j)&&decide (j≤1000000)&&decide (i.natAbs<2^64)
theorem K8 {i j:Int} (h:K7 i j=true):IntMulOk i j:=by
 have h:=of_decide_eq_true h
 have b:∀x:Int,Builtin.Int.intBits x≤x.natAbs.log2+1:=fun x=>by
  unfold Builtin.Int.intBits
  split <;> omega
 have h1:=b i
 have h2:=b j
 have e:bitsLine=134217728:=by decide
 unfold IntMulOk
 intro z
 rw [Bool.and_eq_true] at z
 have z2:=z.2
 unfold Builtin.Int.intTooBig at z2
 have z3:=of_decide_eq_true z2
 rw [e] at z3
 omega
theorem op_mulX {X:Cx}:OpR X (binaryOp .Mult) (rI (fun i j=>K7 i j=true) fun i j=>.int (i*j)):=opI fun _ _ _ _ _ _ _ hc q=>PyProof.Rows.mul_int q (K8 hc)
def Xj:En→En→Option En:=fun a b=>match Vr a,Vr b with
 | some xs,some ys=>if xs.length+ys.length≤sizeLine then some (.ol (xs++ys)) else none
 | _,_=>none
def K9:En→En→Option En:=fun a b=>match Hw a,Hw b with
 | some xs,some ys=>if xs.length+ys.length≤sizeLine then ⇑(.tup (xs++ys)) else none
 | _,_=>none
def Xk:En→En→Option En:=fun a b=>match Vr a,iw b with
 | some xs,some k=>if -(2^63)≤k∧k<2^63∧xs.length*k.toNat≤sizeLine then some (.ol (List.replicate k.toNat xs).flatten) else none
 | _,_=>none
def La:En→En→Option En:=fun a b=>match Hw a,iw b with
 | some xs,some k=>if k=1 then ⇑(.tup xs) else if xs≠[]∧2≤k∧k≤1000∧xs.length≤1000 then ⇑(.tup (List.replicate k.toNat xs).flatten) else none
 | _,_=>none
theorem aN.flatten {K:PySem.W.Frag} {F:Hp} {ds:List D} {vs:List V} (h:aN K F ds vs):∀n:Nat,aN K F (List.replicate n ds).flatten (List.replicate n vs).flatten
 | 0=>by simpa using aN.nil
 | n+1=>by
  rw [List.replicate_succ,List.replicate_succ,List.flatten_cons,List.flatten_cons]
  exact h.append (aN.flatten h n)
section
variable {K:PySem.W.Frag}
theorem abA:qK K rCat Xj:=by
 intro F H e1 e2 x y e Q s r1 r2 h q
 unfold Xj at h
 cases h1:Vr e1 with
 | none=>rw [h1] at h; cases h
 | some xs =>
  cases h2:Vr e2 with
  | none=>rw [h1,h2] at h; cases h
  | some ys =>
   rw [h1,h2] at h
   by_cases z:xs.length+ys.length≤sizeLine
   ·simp only [z,if_true] at h
    cases h
    obtain ⟨a,vs,rfl,ha,da⟩:=kW s r1 h1
    obtain ⟨b,ws,rfl,hb,db⟩:=kW s r2 h2
    exact ⟨a,b,vs,ws,rfl,rfl,ha,hb,by rw [← da.length,← db.length]; exact z,fun p hp=>q _ _ _ (.lst (Grow.refl s) hp (da.append db))⟩
   ·simp only [z,if_false] at h; cases h
theorem Xl:qK K (Vm K) K9:=by
 intro F H e1 e2 x y e Q s r1 r2 h q
 unfold K9 at h
 cases h1:Hw e1 with
 | none=>rw [h1] at h; cases h
 | some xs =>
  cases h2:Hw e2 with
  | none=>rw [h1,h2] at h; cases h
  | some ys =>
   rw [h1,h2] at h
   by_cases z:xs.length+ys.length≤sizeLine
   ·simp only [z,if_true] at h
    cases h
    obtain ⟨a,vs,rfl,ha,da⟩:=mW r1 h1
    obtain ⟨b,ws,rfl,hb,db⟩:=mW r2 h2
    have l1:=da.length
    have l2:=db.length
    refine ⟨a,b,vs,ws,rfl,rfl,s.Di ha,s.Di hb,by rw [← l1,← l2]; exact z,fun e=>q _ _ _ (.flat s ?_),fun _ e=>q _ _ _ (.flat s ?_),fun _ _ ob p nd hp=>q _ _ _ (eV.tup s nd hp (da.append db))⟩
    ·have e':xs=[]:=List.length_eq_zero_iff.mp (by rw [l1,e]; rfl)
     simp only [Dq]
     exact ⟨b,ws,rfl,hb,by rw [e']; exact db⟩
    ·have e':ys=[]:=List.length_eq_zero_iff.mp (by rw [l2,e]; rfl)
     simp only [Dq]
     exact ⟨a,vs,rfl,ha,by rw [e',List.append_nil]; exact da⟩
   ·simp only [z,if_false] at h; cases h
theorem abB:qK K rRep Xk:=by
 intro F H e1 e2 x y e Q s r1 r2 h q
 unfold Xk at h
 cases h1:Vr e1 with
 | none=>rw [h1] at h; cases h
 | some xs =>
  cases h2:iw e2 with
  | none=>rw [h1,h2] at h; cases h
  | some k =>
   rw [h1,h2] at h
   by_cases z : -(2^63)≤k∧k<2^63∧xs.length*k.toNat≤sizeLine
   ·simp only [z,if_true] at h
    obtain ⟨z1,z2,z3⟩:=z
    cases h
    obtain ⟨a,vs,rfl,ha,da⟩:=kW s r1 h1
    exact ⟨a,k,vs,rfl,dG r2 h2,ha,z1,z2,by rw [← da.length]; exact z3,fun p hp=>q _ _ _ (.lst (Grow.refl s) hp (da.flatten _))⟩
   ·simp only [z,if_false] at h; cases h
theorem Xm:qK K (fun x y H Q=>Vn K x y H Q∨Vq K x y H Q) La:=by
 intro F H e1 e2 x y e Q s r1 r2 h q
 unfold La at h
 cases h1:Hw e1 with
 | none=>rw [h1] at h; cases h
 | some xs =>
  cases h2:iw e2 with
  | none=>rw [h1,h2] at h; cases h
  | some k =>
   rw [h1,h2] at h
   replace h:(if k=1 then some (En.fr (.tup xs)) else if xs≠[]∧2≤k∧k≤1000∧xs.length≤1000 then some (En.fr (.tup (List.replicate k.toNat xs).flatten)) else none)=some e:=h
   obtain ⟨a,vs,rfl,ha,da⟩:=mW r1 h1
   by_cases z0:k=1
   ·subst z0
    rw [if_pos rfl] at h
    cases h
    refine .inr ⟨a,vs,rfl,dG r2 h2,s.Di ha,q _ _ _ (.flat s ?_)⟩
    simp only [Dq]
    exact ⟨a,vs,rfl,ha,da⟩
   rw [if_neg z0] at h
   by_cases z:xs≠[]∧2≤k∧k≤1000∧xs.length≤1000
   ·rw [if_pos z] at h
    obtain ⟨z1,z2,z3,z4⟩:=z
    cases h
    have l1:=da.length
    exact .inl ⟨a,k,vs,rfl,dG r2 h2,s.Di ha,fun e=>z1 (List.length_eq_zero_iff.mp (by rw [l1,e]; rfl)),z2,z3,by rw [← l1]; exact z4,fun ob p nd hp=>q _ _ _ (eV.tup s nd hp (da.flatten _))⟩
   ·rw [if_neg z] at h; cases h
end
/-! ### ==, !=, in, not in -/
mutual
def toP:D→PyData
 | .non=>.none
 | .bl b=>.bool b
 | .int i=>.int i
 | .str s=>.str s
 | .lst xs=>.list (iU xs)
 | .tup xs=>.tuple (iU xs)
 | .dct _ _=>.dict []
 | .xJ _ _=>.dict []
def iU:List D→List PyData
 | []=>[]
 | x::xs=>toP x::iU xs
end
mutual
theorem Vt {K:PySem.W.Frag} {F:Hp}:∀(d:D) (v:V),Dq K F d v→(toP d).canLay0=true→Dp K F v (toP d)
 | .non,v,h,_=>by have h':v=.non:=by simpa only [Dq] using h
                  subst h'; exact .non
 | .bl b,v,h,_=>by have h':v=.bl b:=by simpa only [Dq] using h
                   subst h'; exact .bl b
 | .int b,v,h,_=>by have h':v=.int b:=by simpa only [Dq] using h
                    subst h'; exact .int b
 | .str b,v,h,_=>by have h':v=.str b:=by simpa only [Dq] using h
                    subst h'; exact .str b
 | .lst ds,v,h,c=>by
  simp only [Dq] at h
  obtain ⟨a,vs,rfl,h1,h2⟩:=h
  exact .lst (.inl (.inl h1)) (rD ds vs h2 c)
 | .tup ds,v,h,c=>by
  simp only [Dq] at h
  obtain ⟨a,vs,rfl,h1,h2⟩:=h
  exact .tup h1.Di (rD ds vs h2 c)
 | .dct _ _,_,_,c=>by simp [toP,PyData.canLay0] at c
 | .xJ _ _,_,_,c=>by simp [toP,PyData.canLay0] at c
theorem rD {K:PySem.W.Frag} {F:Hp}:∀(ds:List D) (vs:List V),aN K F ds vs→PyData.canLayAll0 (iU ds)=true→DpAll K F vs (iU ds)
 | [],vs,h,_=>by rw [h.nil_iff]; exact .nil
 | d::ds,vs,h,c=>by
  obtain ⟨v,r,rfl,h1,h2⟩:=h.uncons
  have c':((toP d).canLay0&&PyData.canLayAll0 (iU ds))=true:=c
  rw [Bool.and_eq_true] at c'
  exact .cons (Vt d v h1 c'.1) (rD ds r h2 c'.2)
end
def asD:En→Option D
 | .fr d=>some d
 | .ol xs=>some (.lst xs)
 | .cJ xs=>some (.lst xs)
 | .ex _=>none
 | .jW _=>none
 | .ob _=>none
 | .exs _=>none
 | .od _ _=>none
 | .on _ _=>none
theorem jB {d:PyData} (h:SeqAt.shaped d=true):d.canLay0=true:=SeqAt.canLay_of_shaped h
theorem vK {K:PySem.W.Frag} {F H:Hp} {e:En} {x:V} {d:D} (s:Ext F H) (r:Rp K F H e x) (h:asD e=some d) (c:(toP d).canLay0=true):Dp K H x (toP d):=by
 cases e with
 | fr d'=>cases h; exact Vt _ _ (Dq.mono s _ _ r) c
 | ol xs =>
  cases h
  obtain ⟨a,vs,rfl,h1,h2⟩:=r
  exact .lst (.inl (.inl h1)) (rD _ _ (aN.mono s _ _ h2) c)
 | cJ xs =>
  cases h
  obtain ⟨a,vs,rfl,h1,h2⟩:=r
  exact .lst (s.BK h1) (rD _ _ (aN.mono s _ _ h2) c)
 | ex _=>cases h
 | jW xss=>cases h
 | ob _=>cases h
 | exs _=>cases h
 | od _ _=>cases h
 | on _ _=>cases h
def Vu (d:D):Bool:=SeqAt.shaped (toP d)
def eqD (a b:D):Bool:=PyData.eqv (toP a) (toP b)
def xU (neg:Bool):En→En→Option En:=fun a b=>match asD a,asD b with
 | some d,some e=>if Vu d=true∧Vu e=true then ⇑(.bl (if neg then !eqD d e else eqD d e)) else none
 | _,_=>none
section
variable {K:PySem.W.Frag}
theorem aep:qK K (rEqD K) (xU false):=by
 intro F H e1 e2 x y e Q s r1 r2 h q
 unfold xU at h
 cases h1:asD e1 with
 | none=>rw [h1] at h; cases h
 | some d =>
  cases h2:asD e2 with
  | none=>rw [h1,h2] at h; cases h
  | some d2 =>
   rw [h1,h2] at h
   by_cases z:Vu d=true∧Vu d2=true
   ·simp only [z,and_self,if_true,Bool.false_eq_true,if_false] at h
    cases h
    exact ⟨_,_,vK s r1 h1 (jB z.1),vK s r2 h2 (jB z.2),z.1,z.2,q _ _ _ (.flat s (fZ _))⟩
   ·simp only [z,if_false] at h; cases h
theorem aer:qK K (rNeD K) (xU true):=by
 intro F H e1 e2 x y e Q s r1 r2 h q
 unfold xU at h
 cases h1:asD e1 with
 | none=>rw [h1] at h; cases h
 | some d =>
  cases h2:asD e2 with
  | none=>rw [h1,h2] at h; cases h
  | some d2 =>
   rw [h1,h2] at h
   by_cases z:Vu d=true∧Vu d2=true
   ·simp only [z,and_self,if_true] at h
    cases h
    exact ⟨_,_,vK s r1 h1 (jB z.1),vK s r2 h2 (jB z.2),z.1,z.2,q _ _ _ (.flat s (fZ _))⟩
   ·simp only [z,if_false] at h; cases h
def rE:En→Bool
 | .fr .non=>true
 | _=>false
def xV (neg:Bool):En→En→Option En:=fun a b=>match b with
 | .fr .non=>⇑(.bl (if neg then !rE a else rE a))
 | _=>none
theorem Hz {F H:Hp} {e:En} {x:V} (r:Rp K F H e x):decide (x=.non)=rE e:=by
 cases e with
 | fr d =>
  cases d <;> simp only [Rp,Dq] at r
  ·subst r; rfl
  ·subst r; rfl
  ·subst r; rfl
  ·subst r; rfl
  ·obtain ⟨a,vs,rfl,_⟩:=r; rfl
  ·obtain ⟨a,vs,rfl,_⟩:=r; rfl
  ·obtain ⟨a,us,vs,rfl,_⟩:=r; rfl
  ·obtain ⟨a,us,vs,rfl,_⟩:=r; rfl
 | ol xs=>obtain ⟨a,vs,rfl,_⟩:=r; rfl
 | od ks xs=>obtain ⟨a,us,vs,rfl,_⟩:=r; rfl
 | on ks xs=>obtain ⟨a,us,vs,rfl,_⟩:=r; rfl
 | cJ xs=>obtain ⟨a,vs,rfl,_⟩:=r; rfl
 | ex xs=>obtain ⟨a,_,rfl,_⟩:=r; rfl
 | jW xs=>obtain ⟨a,_,rfl,_⟩:=r; rfl
 | ob xs=>obtain ⟨a,_,_,rfl,_⟩:=r; rfl
 | exs xs=>obtain ⟨a,_,rfl,_⟩:=r; rfl
theorem Xn {neg:Bool} {a b e:En} (h:xV neg a b=some e):b=.fr .non∧e=.fr (.bl (if neg then !rE a else rE a)):=by
 cases b with
 | fr d=>cases d <;> simp [xV] at h <;> exact ⟨rfl,h.symm⟩
 | _=>simp [xV] at h
theorem abC:qK K (fun x y H Q=>y=.non∧Q (.bl (decide (x=.non))) H) (xV false):=by
 intro F H e1 e2 x y e Q s r1 r2 h q
 obtain ⟨rfl,rfl⟩:=Xn h
 refine ⟨by simpa only [Rp,Dq] using r2,?_⟩
 rw [Hz r1]
 exact q _ _ _ (.flat s (fZ _))
def Sy (neg:Bool):En→En→Option En:=fun a b=>match vH a,vH b with
 | some x,some y=>⇑(.bl (if neg then !decide (x=y) else decide (x=y)))
 | _,_=>none
theorem Xo:qK K rNotB (Sy true):=by
 intro F H e1 e2 x y e Q s r1 r2 h q
 unfold Sy at h
 cases h1:vH e1 with
 | none=>rw [h1] at h; cases h
 | some i =>
  cases h2:vH e2 with
  | none=>rw [h1,h2] at h; cases h
  | some j =>
   rw [h1,h2] at h
   cases h
   exact ⟨i,j,rA r1 h1,rA r2 h2,q _ _ _ (.flat s (fZ _))⟩
/-! ### subscripts -/
def HD:En→En→Option En:=fun a b=>match a.items,iw b with
 | some xs,some i=>(atI xs i).map .fr
 | _,_=>match stE a,iw b with
  | some z,some i=>if z.length≤sizeLine then (atI z.cps.toList i).map fun c=>.fr (.str ⟨#[c]⟩) else none
  | _,_=>none
theorem Xp {F:Hp} {xs:List D} {vs:List V} {i:Int} {d:D} (r:aN K F xs vs) (h:atI xs i=some d):∃v,atI vs i=some v∧Dq K F d v:=by
 unfold atI at h ⊢
 rw [← r.length]
 cases q:ixN xs.length i with
 | none=>rw [q] at h; cases h
 | some j =>
  rw [q] at h
  obtain ⟨v,h1,h2⟩:=r.get (i:=j) h
  exact ⟨v,h1,h2⟩
theorem xW {F H:Hp} {e:En} {x:V} {xs:List D} (s:Ext F H) (r:Rp K F H e x) (h:e.items=some xs):∃a vs,x=.ref a∧(SqL K H a vs∨SqT K H a vs)∧aN K F xs vs:=by
 cases e with
 | fr d =>
  cases d with
  | lst k =>
   obtain ⟨a,vs,h1,h2,h3⟩:=kW (xs:=xs) s r h
   exact ⟨a,vs,h1,.inl (.inl (.inl h2)),h3⟩
  | tup k =>
   obtain ⟨a,vs,h1,h2,h3⟩:=mW (xs:=xs) r h
   exact ⟨a,vs,h1,.inr (s.Di h2),h3⟩
  | _=>cases h
 | ol k =>
  obtain ⟨a,vs,h1,h2,h3⟩:=kW (xs:=xs) s r h
  exact ⟨a,vs,h1,.inl (.inl (.inl h2)),h3⟩
 | cJ k =>
  cases h
  obtain ⟨a,vs,h1,h2,h3⟩:=r
  exact ⟨a,vs,h1,.inl (s.BK h2),h3⟩
 | ex _=>cases h
 | jW _=>cases h
 | ob _=>cases h
 | exs _=>cases h
 | od _ _=>cases h
 | on _ _=>cases h
theorem aes:qK K (rIx K) HD:=by
 intro F H e1 e2 x y e Q s r1 r2 h q
 unfold HD at h
 cases h1:e1.items with
 | some xs =>
  cases h2:iw e2 with
  | none =>
   rw [h1,h2] at h
   cases h3:stE e1 <;> rw [h3] at h <;> cases h
  | some i =>
   rw [h1,h2] at h
   replace h:Option.map En.fr (atI xs i)=some e:=h
   cases h3:atI xs i with
   | none=>rw [h3] at h; cases h
   | some d =>
    rw [h3] at h
    cases h
    obtain ⟨a,vs,rfl,h4,h5⟩:=xW s r1 h1
    obtain ⟨v,h6,h7⟩:=Xp h5 h3
    rcases h4 with h4 | h4
    ·exact .inl ⟨a,vs,i,v,rfl,dG r2 h2,h4,h6,q _ _ _ (.flat s h7)⟩
    ·exact .inr (.inl ⟨a,vs,i,v,rfl,dG r2 h2,h4,h6,q _ _ _ (.flat s h7)⟩)
 | none =>
  rw [h1] at h
  cases h2:stE e1 with
  | none=>rw [h2] at h; cases h
  | some z =>
   cases h3:iw e2 with
   | none=>rw [h2,h3] at h; cases h
   | some i =>
    rw [h2,h3] at h
    by_cases hz:z.length≤sizeLine
    ·simp only [hz,if_true] at h
     cases h4:atI z.cps.toList i with
     | none=>rw [h4] at h; cases h
     | some c =>
      rw [h4] at h
      cases h
      exact .inr (.inr ⟨z,i,c,jA r1 h2,dG r2 h3,hz,h4,q _ _ _ (.flat s (rB _))⟩)
    ·simp only [hz,if_false] at h; cases h
end
end DM
end
section
set_option maxHeartbeats 2000000
namespace PySem
open Sem (wp)
theorem xX {v:Value} {o:Obj} {H:Heap→Prop} (B:Begins v o H) :
  Meets (Builtin.«enumerate.__new__» ⟨[.type "enumerate",v],[]⟩) (fun _ R s=>H s.heap ∧
   R (.ok (.ret (.ref (s.heap.push o).objs.size)))
    { s with heap:=(s.heap.push o).push { cls:=.type "enumerate",data:=.fields #[.none,.bool false,.ref s.heap.objs.size,rawInt 0,.none,.none] } }) :=
 .of_wp fun prog w A R s h=>by
  obtain ⟨hp,g,d,tk,os⟩:=s; obtain ⟨h1,h⟩:=h
  have hsub:=sub_enumerate
  have q1:∀{A':Around} {E:Value→Shared→Prop} {Q:Value→Shared→Prop},Q (.ref hp.objs.size) ⟨(hp.push o),g,d,tk,os⟩→wpAny (model prog w) A' (pyIter v) Q E ⟨hp,g,d,tk,os⟩ :=
   fun q=>B.iter prog w _ _ ⟨hp,g,d,tk,os⟩ _ h1 q
  wp_walk
  refine wpAny_stack_any fun st=>wpAny_pure ?_
  split
  ·rename_i c _ _ _ _ _
   cases (c == Value.type "enumerate")
   ·wp_walk using q1
    exact ⟨_,rfl,h⟩
   ·wp_walk using q1
    exact ⟨_,rfl,h⟩
  ·wp_walk using q1
   exact ⟨_,rfl,h⟩
section
variable {prog:Program} {w:World} {A:Around} {E:Value→Shared→Prop} {s:Shared}
theorem SJ {v:Value} {o:Obj} {H:Heap→Prop} {Q:Value→Shared→Prop} (B:Begins v o H) (h1:H s.heap)
  (h:∀h',IsEnum h' (s.heap.objs.size+1) s.heap.objs.size 0 .none→h'.get? s.heap.objs.size=some o→h'.objs.size=s.heap.objs.size+2 →
   (∀b o,s.heap.get? b=some o→h'.get? b=some o)→Q (.ref (s.heap.objs.size+1)) { s with heap:=h' }) :
  wpAny (model prog w) A (call (.type "enumerate") [v]) Q E s:=by
 refine callType_new F.called_enumerate (by decide) (F.typeCall_enumerate_1 _) (F.newCall_enumerate_1 _) (fun obj=>F.args_object_init_2 obj _) F.entry_enumerate_new
  (xX B) ⟨h1,?_⟩
 have hz:(s.heap.push o).objs.size=s.heap.objs.size+1:=Heap.size_push ..
 show _∧_
 rw [hz]
 have he:IsEnum ((s.heap.push o).push { cls:=.type "enumerate",data:=.fields #[.none,.bool false,.ref s.heap.objs.size,rawInt 0,.none,.none] }) (s.heap.objs.size+1) s.heap.objs.size 0 .none:=by
  have:=Heap.get?_push_size (s.heap.push o) (o:={ cls:=.type "enumerate",data:=.fields #[.none,.bool false,.ref s.heap.objs.size,rawInt 0,.none,.none] }) rfl
  rw [hz] at this; exact this
 refine ⟨⟨_,he,rfl⟩,h _ he (Heap.get?_push_of_some _ (Heap.get?_push_size _ B.free)) (by rw [Heap.size_push,hz]) fun b o x=>Heap.get?_push_of_some _ (Heap.get?_push_of_some _ x)⟩
end
/-! a source: a list (true) or a tuple (false) -/
def Dr (b:Bool) (h:Heap) (a:Addr) (items:Array Value):Prop:=match b with
 | true=>h.IsList a items
 | false=>h.IsTuple a items
def mj (b:Bool) (h:Heap) (it a:Addr) (i:Nat):Prop:=match b with
 | true=>h.IsListIter it a i
 | false=>h.IsTupleIter it a i
def Ld (b:Bool) (a:Addr):Obj:=match b with
 | true=>{ cls:=.type "list_iterator",data:=.fields #[.ref a,.int 0 0] }
 | false=>{ cls:=.type "tuple_iterator",data:=.fields #[.ref a,.int 0 0] }
theorem mX (b:Bool) (a:Addr) (items:Array Value):Begins (.ref a) (Ld b a) fun h=>Dr b h a items:=by
 cases b
 ·exact begins_tuple a items
 ·exact begins_list a items
theorem fY {prog:Program} {w:World} {A:Around} (hh:A.handled=none) (b:Bool) (it a:Addr) (hne:a≠it) (items:Array Value) :
  Draws prog w A it [it,a] items.size (fun i v=>items[i]?=some v) (fun i h=>mj b h it a i∧Dr b h a items):=by
 cases b
 ·exact Draws.tuple hh it a hne items
 ·exact Draws.list hh it a hne items
theorem eY {b:Bool} {h:Heap} {it a:Addr} {i:Nat} (x:mj b h it a i):∃o,h.get? it=some o∧∀v,o.data≠.cell v:=by
 cases b
 ·obtain ⟨o,e,_,d⟩:=x; exact ⟨o,e,fun v q=>by rw [d] at q; cases q⟩
 ·obtain ⟨o,e,_,d⟩:=x; exact ⟨o,e,fun v q=>by rw [d] at q; cases q⟩
theorem kY {b:Bool} {h h':Heap} {it a:Addr} {i:Nat} (x:mj b h it a i) (k:∀o,h.get? it=some o→h'.get? it=some o):mj b h' it a i:=by
 cases b
 ·exact x.at k
 ·exact x.at k
theorem pA {b:Bool} {h:Heap} {it a:Addr} (e:h.get? it=some (Ld b a)):mj b h it a 0:=by
 cases b
 ·exact ⟨_,e,rfl,rfl⟩
 ·exact ⟨_,e,rfl,rfl⟩
end PySem
namespace DM
open PySem L2
def tQ (b:Bool) (K:PySem.W.Frag) (H:Hp) (a:Addr) (xs:List V):Prop:=match b with
 | true=>SqL K H a xs
 | false=>SqT K H a xs
section
variable {X:Cx} {pins:List (Addr × Obj)} {σ:L2.St} {H:Hp} {s:Shared} {a:Addr} {xs ys:List V}
theorem jC {b:Bool} (I:Inv X pins σ H s) (h:tQ b X.K H a xs):∃its:List Value,Vals xs its∧Dr b s.heap a its.toArray:=by
 cases b
 ·obtain ⟨its,r,p,_⟩:=I.tuple h
  exact ⟨its,r,p⟩
 ·obtain ⟨its,r,p,_⟩:=I.list h
  exact ⟨its,r,p.isList⟩
theorem vL {b:Bool} (I:Inv X pins σ H s) (h:tQ b X.K H a xs) (h':tQ b X.K H a ys):xs=ys:=by
 cases b
 ·exact I.tuple_inj h h'
 ·exact I.list_inj h h'
theorem rF {b:Bool} {h:Heap} {a:Addr} {items:Array Value} (x:Dr b h a items):a<h.objs.size:=by
 cases b
 ·obtain ⟨o,e,_⟩:=x; exact Heap.lt_size e
 ·obtain ⟨o,e,_⟩:=x; exact Heap.lt_size e
end
/-! one item, its tuple known -/
section
variable {prog:Program} {w:World} {A:Around} {E:Value→Shared→Prop} {s:Shared} {elts:List Expr} {k i:Nat} {pos:Pos} {Q:Value→Shared→Prop}
theorem HF {z TI TO i1 i2:Addr} {fp1 fp2:List Addr} {n1 n2:Nat} {P1 P2:Nat→Value→Prop} {St1 St2:Nat→Heap→Prop} {a1 a2:Value} (S:ZipSep2 z TI TO i1 i2 fp1 fp2) (D1:Draws prog w A.in1 i1 fp1 n1 P1 St1) (D2:Draws prog w A.in1 i2 fp2 n2 P2 St2)
  (hz:IsZip s.heap z TI TO .none) (hTI:IsTupOf2 s.heap TI (.ref i1) (.ref i2)) (hTO:IsTupOf2 s.heap TO a1 a2) (st1:St1 i s.heap) (st2:St2 i s.heap) (l1:i<n1) (l2:i<n2)
  (hQ:∀T x y h' tk,s.heap.objs.size≤T→P1 i x→P2 i y→h'.get? T=some (dO [x,y])→(IsZip h' z TI TO .none∧IsTupOf2 h' TI (.ref i1) (.ref i2)∧(∃b1 b2,IsTupOf2 h' TO b1 b2)∧St1 (i+1) h'∧St2 (i+1) h') →
   (∀b o,b∉[z,TO,i1,i2]→s.heap.get? b=some o→h'.get? b=some o)→Q (.ref T) { s with heap:=h',toks:=tk }) :
  wpAny (model prog w) A (pyNext (.ref z)) (fun r s₁=>∃v,r=some v∧wpAny (model prog w) A (letOwnedTupleGo (.Tuple elts k pos) (.ref z) v) (fun _ s₂=>Q v s₂) E s₁) E s:=by
 refine wpAny_pyNext_zipD2_item S D1 D2 hz hTI hTO st1 st2 l1 l2 fun x y h1 tk p1 p2 b1 b2 d1 d2 b5 b6 k1=>⟨_,rfl,?_⟩
 exact wpAny_letOwnedTupleGo_zip (s:={ s with heap:=h1,toks:=tk }) b1 fun h2 z2 sb=>hQ s.heap.objs.size x y h2 tk (Nat.le_refl _) p1 p2 (sb.extBut _ _ (Nat.ne_of_gt (Heap.lt_size hz)) b5)
  ⟨z2,sb.extBut _ _ S.TIz (k1 _ _ S.TIz S.TITO S.TIi1 S.TIi2 hTI),⟨_,_,sb.extBut _ _ S.TOz b2⟩,D1.over d1 sb S.zf1,D2.over d2 sb S.zf2⟩
  fun c o hc e=>sb.extBut _ _ (fun q=>hc (by simp [q])) (k1 c o (fun q=>hc (by simp [q])) (fun q=>hc (by simp [q])) (fun q=>hc (by simp [q])) (fun q=>hc (by simp [q])) e)
theorem HJ {e it:Addr} {fp:List Addr} {n:Nat} {c:Int} {P:Nat→Value→Prop} {St:Nat→Heap→Prop} {old:Value} (D:Draws prog w A.in1 it fp n P St) (he:IsEnum s.heap e it c old) (hs:St i s.heap) (hi:i<n) (hei:e≠it) (hef:e∉fp)
  (hQ:∀T t x h' tk,s.heap.objs.size≤T→P i x→h'.get? T=some (dO [.int c t,x])→(∃old,IsEnum h' e it (c+1) old)∧St (i+1) h'→(∀b o,b∉[e,it]→s.heap.get? b=some o→h'.get? b=some o)→Q (.ref T) { s with heap:=h',toks:=tk }) :
  wpAny (model prog w) A (pyNext (.ref e)) (fun r s₁=>∃v,r=some v∧wpAny (model prog w) A (letOwnedTupleGo (.Tuple elts k pos) (.ref e) v) (fun _ s₂=>Q v s₂) E s₁) E s:=by
 refine wpAny_pyNext_enum_itemC D he hs hi hei hef fun x h1 tk hP ho hs1 hT hsz k1=>⟨_,rfl,?_⟩
 exact wpAny_letOwnedTupleGo_enum (s:={ s with heap:=h1,toks:=tk+1 }) ho fun h2 e2 sb=>hQ s.heap.objs.size tk x h2 (tk+1) (Nat.le_refl _) hP (sb.extBut _ _ (Nat.ne_of_gt (Heap.lt_size he)) hT)
  ⟨⟨_,e2⟩,D.frame _ _ _ hs1 fun b hb o y=>sb.extBut _ _ (fun q=>hef (q▸hb)) y⟩ fun b o hb y=>sb.extBut _ _ (fun q=>hb (by simp [q])) (k1 b o (fun q=>hb (by simp [q])) (fun q=>hb (by simp [q])) y)
end
def ItE (b:Bool) (K:PySem.W.Frag) (a:Addr):It :=
 ⟨fun i H=>∃(xs:List V) (x:V),tQ b K H a xs∧xs[i]?=some x,fun i H v H'=>∃T o x,Nd o∧v=.ref T∧H T=none∧H'=upd H T (.frz o (.tup [.int (i:Nat),x]))∧∀xs,tQ b K H a xs→xs[i]?=some x,fun i H=>∃xs:List V,tQ b K H a xs∧xs.length=i⟩
theorem BX {P:Program} {w:World} {K:PySem.W.Frag} {elts:List Expr} {kk:Nat} {tpos:Pos} (b:Bool) (a e it:Addr) (hea:a≠e) (hia:a≠it) :
  Turn P w K (.Tuple elts kk tpos) (ItE b K a) [e,it] e (fun i h=>(∃old,IsEnum h e it (0+((i:Nat):Int)) old)∧mj b h it a i∧e≠it) where
 mem:=by simp
 obj:=fun i h st c hc=>by
  obtain ⟨⟨old,he⟩,hi,_⟩:=st
  have e':c=e∨c=it:=by simpa using hc
  rcases e' with z | z
  ·rw [z]; exact ⟨_,he,fun v q=>nomatch q⟩
  ·rw [z]; exact eY hi
 keep:=fun i h h' st k=>let ⟨⟨old,he⟩,hi,hne⟩:=st; ⟨⟨old,k e (by simp) _ he⟩,kY hi fun o q=>k it (by simp) o q,hne⟩
 item:=by
  intro X hP hw hK hc i pins s σ H E I hf st hg
  subst hP hw hK
  obtain ⟨hen,hit,hne⟩:=st
  obtain ⟨xs,x,hq,hx⟩:=hg
  obtain ⟨its,rv,hs⟩:=jC I hq
  obtain ⟨u,hu,ru⟩:=rv.get hx
  have hlt:i<its.toArray.size:=by
   have:=(List.getElem?_eq_some_iff.mp hu).1
   simpa using this
  have hef:e∉[it,a]:=by simp only [List.mem_cons,List.not_mem_nil,or_false,not_or]; exact ⟨hne,Ne.symm hea⟩
  obtain ⟨old,hen'⟩:=hen
  refine HJ (fY (prog:=X.prog) (w:=X.w) (A:=X.A.in1) (I.ok.hd hc) b it a hia its.toArray) hen' ⟨hit,hs⟩ hlt hne hef fun T t y h' tk hT hy hIT hst hk=>?_
  have ey:y=u:=by
   rw [List.getElem?_toArray,hu] at hy
   exact (Option.some.inj hy).symm
  subst ey
  have new:ObjOk X.prog X.w (upd H T (.frz (dO [.int (0+(i:Int)) t,y]) (.tup [.int (i:Nat),x]))) h' T (.frz (dO [.int (0+(i:Int)) t,y]) (.tup [.int (i:Nat),x])) :=
   ⟨hIT,by show 2≤sizeLine; decide,[.int (0+(i:Int)) t,y],.cons ⟨t,by rw [Int.zero_add]⟩ (.cons ru .nil),_,hIT,rfl,_,rfl⟩
  have I1:Inv X pins σ (upd H T (.frz (dO [.int (0+(i:Int)) t,y]) (.tup [.int (i:Nat),x]))) { s with heap:=h',toks:=tk }:=I.turnedNew (ch:=[e,it]) (fun b ob hb q=>hk b ob hb q) hf hT new
  refine ⟨.ref T,_,I1,rfl,⟨T,_,x,nQ _,rfl,I.hok.fresh hT,rfl,fun ys hy=>by rw [vL I hy hq]; exact hx⟩,⟨?_,hst.2.1,hne⟩,fun c hcm=>?_⟩
  ·obtain ⟨o2,h2⟩:=hst.1
   exact ⟨o2,by rw [show (0:Int)+((i+1:Nat):Int)=0+(i:Int)+1 by omega]; exact h2⟩
  have hcT:c≠T:=by
   have he:=hen'
   have e':c=e∨c=it:=by simpa using hcm
   rcases e' with z | z
   ·rw [z]; exact Nat.ne_of_lt (Nat.lt_of_lt_of_le (Heap.lt_size he) hT)
   ·obtain ⟨o,ho,_⟩:=eY hit
    rw [z]; exact Nat.ne_of_lt (Nat.lt_of_lt_of_le (Heap.lt_size ho) hT)
  rw [upd_ne hcT]
  exact (hf c hcm).1
 done:=by
  intro X hP hw hK hc i pins s σ H E I hf st hg
  subst hP hw hK
  obtain ⟨hen,hit,hne⟩:=st
  obtain ⟨xs,hq,hx⟩:=hg
  obtain ⟨its,rv,hs⟩:=jC I hq
  have hl:=rv.length
  have hn:its.toArray.size=i:=by simp; omega
  have hef:e∉[it,a]:=by simp only [List.mem_cons,List.not_mem_nil,or_false,not_or]; exact ⟨hne,Ne.symm hea⟩
  have W:=GoesN.enumFrom (elts:=elts) (x1:=kk) (pos:=tpos) 0 (fY (prog:=X.prog) (w:=X.w) (A:=X.A.in1) (I.ok.hd hc) b it a hia its.toArray) e hne hef (by simp)
  exact W.stops s _ E (by rw [hn]; exact ⟨hen,hit,hs⟩) fun h' tk hk _=>I.turnedL (ch:=[e,it]) hk hf
 self:=fun A i s Q E st h=>let ⟨⟨_,he⟩,_⟩:=st; wpAny_pyIter_enum he h
def Le (K:PySem.W.Frag) (ta:TA):TI:=fun σ H R=>ta σ H fun vs H1=>∃b a xs,vs=[.ref a]∧tQ b K H1 a xs∧R (ItE b K a) H1
theorem Lf {X:Cx} {e:Expr} {ta:TA} {p pos tpos:Pos} {elts:List Expr} {kk:Nat} (hg:Gl X "enumerate") (hm:X.mg "enumerate"=none) (ha:PA X [e] ta) (hs:starEach [e] X.env=[(false,eval e X.env)]) :
  PI X (.Tuple elts kk tpos) (.Call (.Name "enumerate" p) [e] [] pos) (Le X.K ta):=by
 refine ⟨fun pins s σ H R I h=>?_⟩
 refine PyProof.Rows.Call_ (ld_blt I hg hm PyProof.Rows.boot_enumerate (PyProof.Rows.callWith_type1 (thn (ha.run pos pins s σ H _ I h) fun us s1 ⟨vs,H1,I1,r1,q1⟩=>?_) hs rfl))
 obtain ⟨b,a,xs,ex,hq,q⟩:=q1
 subst ex
 cases r1 with
 | cons r rr =>
  cases rr
  cases r
  obtain ⟨its,rv,p'⟩:=jC I1 hq
  have la:=rF p'
  refine SJ (mX b a its.toArray) p' fun h' he hit hsz hk=>wpAny_pyIter_enum he ?_
  have I2:Inv X pins σ H1 { s1 with heap:=h' }:=I1.kept (t':=s1.toks) hk
  refine ⟨s1.heap.objs.size+1,[s1.heap.objs.size+1,s1.heap.objs.size],_,_,H1,rfl,I2,BX b a (s1.heap.objs.size+1) s1.heap.objs.size (Nat.ne_of_lt (Nat.lt_succ_of_lt la)) (Nat.ne_of_lt la),⟨⟨.none,by simpa using he⟩,pA hit,Nat.succ_ne_self _⟩,fun b hb=>?_,q⟩
  have e':b=s1.heap.objs.size+1∨b=s1.heap.objs.size:=by simpa using hb
  have hle:s1.heap.objs.size≤b:=by
   rcases e' with z | z
   ·rw [z]; exact Nat.le_add_right _ _
   ·rw [z]; exact Nat.le_refl _
  exact I1.fpOk hle (I1.hok.fresh hle)
def ItZ (b1 b2:Bool) (K:PySem.W.Frag) (a b:Addr):It :=
 ⟨fun i H=>∃(xs ys:List V) (x y:V),tQ b1 K H a xs∧tQ b2 K H b ys∧xs[i]?=some x∧ys[i]?=some y,
  fun i H v H'=>∃T o x y,Nd o∧v=.ref T∧H T=none∧H'=upd H T (.frz o (.tup [x,y]))∧(∀xs,tQ b1 K H a xs→xs[i]?=some x)∧∀ys,tQ b2 K H b ys→ys[i]?=some y,
  fun i H=>∃xs ys:List V,tQ b1 K H a xs∧tQ b2 K H b ys∧min xs.length ys.length=i⟩
theorem HS {P:Program} {w:World} {K:PySem.W.Frag} {elts:List Expr} {kk:Nat} {tpos:Pos} (b1 b2:Bool) (a b z TI TO i1 i2:Addr) (S:ZipSep2 z TI TO i1 i2 [i1,a] [i2,b]) (h1:a≠i1) (h2:b≠i2) :
  Turn P w K (.Tuple elts kk tpos) (ItZ b1 b2 K a b) [z,TI,TO,i1,i2] z (fun i h=>IsZip h z TI TO .none∧IsTupOf2 h TI (.ref i1) (.ref i2)∧(∃x y,IsTupOf2 h TO x y)∧mj b1 h i1 a i∧mj b2 h i2 b i) where
 mem:=by simp
 obj:=fun i h st c hc=>by
  obtain ⟨hz,hTI,⟨x,y,hTO⟩,s1,s2⟩:=st
  have e':c=z∨c=TI∨c=TO∨c=i1∨c=i2:=by simpa using hc
  rcases e' with q | q | q | q | q
  ·rw [q]; exact ⟨_,hz,fun v q=>nomatch q⟩
  ·rw [q]; exact ⟨_,hTI,fun v q=>nomatch q⟩
  ·rw [q]; exact ⟨_,hTO,fun v q=>nomatch q⟩
  ·rw [q]; exact eY s1
  ·rw [q]; exact eY s2
 keep:=fun i h h' st k=>by
  obtain ⟨hz,hTI,⟨x,y,hTO⟩,s1,s2⟩:=st
  exact ⟨k z (by simp) _ hz,k TI (by simp) _ hTI,⟨x,y,k TO (by simp) _ hTO⟩,kY s1 fun o q=>k i1 (by simp) o q,kY s2 fun o q=>k i2 (by simp) o q⟩
 item:=by
  intro X hP hw hK hc i pins s σ H E I hf st hg
  subst hP hw hK
  obtain ⟨hz,hTI,hTO,s1,s2⟩:=st
  obtain ⟨xs,ys,x,y,hqx,hqy,hx,hy⟩:=hg
  obtain ⟨its,rv,p1⟩:=jC I hqx
  obtain ⟨its2,rv2,p2⟩:=jC I hqy
  obtain ⟨u,hu,ru⟩:=rv.get hx
  obtain ⟨u2,hu2,ru2⟩:=rv2.get hy
  have hlt:i<min its.toArray.size its2.toArray.size:=by
   have q1:=(List.getElem?_eq_some_iff.mp hu).1
   have q2:=(List.getElem?_eq_some_iff.mp hu2).1
   simp only [List.size_toArray]
   omega
  have Xq:=hTO
  obtain ⟨a1,a2,Xq⟩:=Xq
  have q1:=(List.getElem?_eq_some_iff.mp hu).1
  have q2:=(List.getElem?_eq_some_iff.mp hu2).1
  refine HF S (fY (prog:=X.prog) (w:=X.w) (A:=X.A.in1) (I.ok.hd hc) b1 i1 a h1 its.toArray) (fY (prog:=X.prog) (w:=X.w) (A:=X.A.in1) (I.ok.hd hc) b2 i2 b h2 its2.toArray) hz hTI Xq ⟨s1,p1⟩ ⟨s2,p2⟩ (by simpa using q1) (by simpa using q2) fun T y1 y2 h' tk hT hy1 hy2 hIT hst hk=>?_
  have e1:y1=u:=by
   rw [List.getElem?_toArray,hu] at hy1
   exact (Option.some.inj hy1).symm
  have e2:y2=u2:=by
   rw [List.getElem?_toArray,hu2] at hy2
   exact (Option.some.inj hy2).symm
  subst e1 e2
  have new:ObjOk X.prog X.w (upd H T (.frz (dO [y1,y2]) (.tup [x,y]))) h' T (.frz (dO [y1,y2]) (.tup [x,y])) :=
   ⟨hIT,by show 2≤sizeLine; decide,[y1,y2],.cons ru (.cons ru2 .nil),_,hIT,rfl,_,rfl⟩
  have I1:Inv X pins σ (upd H T (.frz (dO [y1,y2]) (.tup [x,y]))) { s with heap:=h',toks:=tk }:=I.turnedNew (ch:=[z,TO,i1,i2]) (fun b ob hb q=>hk b ob hb q) (fun c hc=>hf c (by
   have e':c=z∨c=TO∨c=i1∨c=i2:=by simpa using hc
   rcases e' with q | q | q | q <;> simp [q])) hT new
  refine ⟨.ref T,_,I1,rfl,⟨T,_,x,y,nQ _,rfl,I.hok.fresh hT,rfl,fun l hl=>by rw [vL I hl hqx]; exact hx,fun l hl=>by rw [vL I hl hqy]; exact hy⟩,⟨hst.1,hst.2.1,hst.2.2.1,hst.2.2.2.1.1,hst.2.2.2.2.1⟩,fun c hcm=>?_⟩
  have hcT:c≠T:=by
   have hlt:c<s.heap.objs.size:=by
    have e':c=z∨c=TI∨c=TO∨c=i1∨c=i2:=by simpa using hcm
    obtain ⟨q3,q4,hTO⟩:=hTO
    rcases e' with q | q | q | q | q
    ·rw [q]; exact Heap.lt_size hz
    ·rw [q]; exact Heap.lt_size hTI
    ·rw [q]; exact Heap.lt_size hTO
    ·rw [q]; obtain ⟨_,e,_⟩:=eY s1; exact Heap.lt_size e
    ·rw [q]; obtain ⟨_,e,_⟩:=eY s2; exact Heap.lt_size e
   exact Nat.ne_of_lt (Nat.lt_of_lt_of_le hlt hT)
  rw [upd_ne hcT]
  exact (hf c hcm).1
 done:=by
  intro X hP hw hK hc i pins s σ H E I hf st hg
  subst hP hw hK
  obtain ⟨hz,hTI,hTO,s1,s2⟩:=st
  obtain ⟨xs,ys,hqx,hqy,hend⟩:=hg
  obtain ⟨its,rv,p1⟩:=jC I hqx
  obtain ⟨its2,rv2,p2⟩:=jC I hqy
  have l1:=rv.length
  have l2:=rv2.length
  have hn:min its.toArray.size its2.toArray.size=i:=by simp only [List.size_toArray]; omega
  have W:=GoesN.zip2 (elts:=elts) (x1:=kk) (pos:=tpos) S (fY (prog:=X.prog) (w:=X.w) (A:=X.A.in1) (I.ok.hd hc) b1 i1 a h1 its.toArray) (fY (prog:=X.prog) (w:=X.w) (A:=X.A.in1) (I.ok.hd hc) b2 i2 b h2 its2.toArray)
  exact W.stops s _ E (by rw [hn]; exact ⟨hz,hTI,hTO,⟨s1,p1⟩,s2,p2⟩) fun h' tk hk _=>I.turnedL (ch:=[z,TO,i1,i2]) hk (fun c hc=>hf c (by
   have e':c=z∨c=TO∨c=i1∨c=i2:=by simpa using hc
   rcases e' with q | q | q | q <;> simp [q]))
 self:=fun A i s Q E st h=>wpAny_pyIter_zip st.1 h
def Vv (K:PySem.W.Frag) (ta:TA):TI:=fun σ H R=>ta σ H fun vs H1=>∃b1 b2 a b xs ys,vs=[.ref a,.ref b]∧tQ b1 K H1 a xs∧tQ b2 K H1 b ys∧R (ItZ b1 b2 K a b) H1
theorem SN {X:Cx} {e e2:Expr} {ta:TA} {p pos tpos:Pos} {elts:List Expr} {kk:Nat} (hg:Gl X "zip") (hm:X.mg "zip"=none) (ha:PA X [e,e2] ta)
  (hs:starEach [e,e2] X.env=(false,eval e X.env)::starEach [e2] X.env) (hpl:(backTo pos (starEach [e2] X.env)).any (·.1)=false) :
  PI X (.Tuple elts kk tpos) (.Call (.Name "zip" p) [e,e2] [] pos) (Vv X.K ta):=by
 refine ⟨fun pins s σ H R I h=>?_⟩
 refine PyProof.Rows.Call_ (ld_blt I hg hm PyProof.Rows.boot_zip (PyProof.Rows.callWith_type1 (thn (ha.run pos pins s σ H _ I h) fun us s1 ⟨vs,H1,I1,r1,q1⟩=>?_) hs hpl))
 obtain ⟨b1,b2,a,b,xs,ys,ex,hqx,hqy,q⟩:=q1
 subst ex
 cases r1 with
 | cons r rr =>
  cases rr with
  | cons r' rr =>
   cases rr
   cases r
   cases r'
   obtain ⟨its,rv,p1⟩:=jC I1 hqx
   obtain ⟨its2,rv2,p2⟩:=jC I1 hqy
   have la:=rF p1
   have lb:=rF p2
   refine zip_begins2 (mX b1 a its.toArray) (mX b2 b its2.toArray) p1 p2 fun h' hz hTI hTO g1 g2 hsz hk=>wpAny_pyIter_zip hz ?_
   have I2:Inv X pins σ H1 { s1 with heap:=h' }:=I1.kept (t':=s1.toks) hk
   refine ⟨s1.heap.objs.size+4,[s1.heap.objs.size+4,s1.heap.objs.size+2,s1.heap.objs.size+3,s1.heap.objs.size,s1.heap.objs.size+1],_,_,H1,rfl,I2,HS b1 b2 a b _ _ _ _ _ (zip_sep2 (N:=s1.heap.objs.size) (fp1:=[a]) (fp2:=[b]) (fun c hc=>by rw [List.mem_singleton.mp hc]; exact la) (fun c hc=>by rw [List.mem_singleton.mp hc]; exact lb)) (Nat.ne_of_lt la) (Nat.ne_of_lt (Nat.lt_succ_of_lt lb)),⟨hz,hTI,⟨_,_,hTO⟩,pA g1,pA g2⟩,fun c hcm=>?_,q⟩
   have e':c=s1.heap.objs.size+4∨c=s1.heap.objs.size+2∨c=s1.heap.objs.size+3∨c=s1.heap.objs.size∨c=s1.heap.objs.size+1:=by simpa using hcm
   have hle:s1.heap.objs.size≤c:=by
    rcases e' with z | z | z | z | z
    ·rw [z]; exact Nat.le_add_right _ _
    ·rw [z]; exact Nat.le_add_right _ _
    ·rw [z]; exact Nat.le_add_right _ _
    ·rw [z]; exact Nat.le_refl _
    ·rw [z]; exact Nat.le_add_right _ _
   exact I1.fpOk hle (I1.hok.fresh hle)
def abE (K:PySem.W.Frag) (tl:TE):TI:=fun σ H R=>tl σ H fun x H1=>∃a,x=.ref a∧((∃xs,SqL K H1 a xs∧R (Itl K a) H1)∨∃xs,SqT K H1 a xs∧R (Itt K a) H1)
theorem Xr {X:Cx} {tg l:Expr} {tl:TE} (hl:PE X l tl):PI X tg l (abE X.K tl):=by
 refine ⟨fun pins s σ H R I h=>?_⟩
 refine thn (hl.run pins s σ H _ I h) fun v s1 ⟨x,H1,I1,r1,q1⟩=>?_
 obtain ⟨a,e,q | q⟩:=q1
 ·obtain ⟨xs,hq,q⟩:=q
  subst e
  cases r1
  obtain ⟨its,rv,p,hz⟩:=I1.list hq
  refine wpAny_pyIter_list p.isList ?_
  refine ⟨s1.heap.objs.size,[s1.heap.objs.size],_,_,H1,rfl,I1.kept (t':=s1.toks) fun b o e=>Heap.get?_push_of_some _ e,turn_list a _,⟨_,Heap.get?_push_size _ rfl,rfl,rfl⟩,fun b hb=>?_,q⟩
  have e:b=s1.heap.objs.size:=by simpa using hb
  subst e
  exact I1.fpOk (Nat.le_refl _) (I1.hok.fresh (Nat.le_refl _))
 ·obtain ⟨xs,hq,q⟩:=q
  subst e
  cases r1
  obtain ⟨its,rv,p,hz⟩:=I1.tuple hq
  refine wpAny_pyIter_tuple (show s1.heap.IsTuple a its.toArray from p) ?_
  refine ⟨s1.heap.objs.size,[s1.heap.objs.size],_,_,H1,rfl,I1.kept (t':=s1.toks) fun b o e=>Heap.get?_push_of_some _ e,turn_tuple a _,⟨_,Heap.get?_push_size _ rfl,rfl,rfl⟩,fun b hb=>?_,q⟩
  have e:b=s1.heap.objs.size:=by simpa using hb
  subst e
  exact I1.fpOk (Nat.le_refl _) (I1.hok.fresh (Nat.le_refl _))
end DM
end
section
namespace DM
open PySem L2
theorem SM.Lg {C:Cs} {o:Og} {F H:Hp} {σ σ':L2.St} {ρ ρ':ak} {T T':Tm} (S:SM C o F H σ ρ T) (φ:Wh→Wh) (hat:∀p e v,At σ' ρ' T' p e v→At σ ρ T (φ p) e v) (inj:∀p q e v e' v',At σ' ρ' T' p e v→At σ' ρ' T' q e' v'→φ p=φ q→p=q)
  (hlen:ρ'.length=σ'.length) (has:∀(i:Nat) (e:En),ρ'[i]?=some (some e)→∃v,σ'[i]?=some (some v))
  (bor:∀(j i:Nat) (v:V),T'[j]?=some (.bor i,v)→σ'[i]?=some (some v)∧(∃e,ρ'[i]?=some (some e))∧i∉C.cs) (lk:∀(i:Nat) (v:V),o.lk i=some v→σ'[i]?=some (some v)):SM C o F H σ' ρ' T' where
 sub:=S.sub
 len:=hlen
 has:=has
 rep:=fun p e v a=>S.rep (φ p) e v (hat p e v a)
 bor:=bor
 sep:=fun p q e e' v v' a ne h1 h2=>S.sep (φ p) (φ q) e e' v v' a (fun z=>ne (inj p q _ _ _ _ h1 h2 z)) (hat _ _ _ h1) (hat _ _ _ h2)
 own:=fun p e v a h w=>S.own (φ p) e v a (hat p e v h) w
 ext:=S.ext
 keep:=S.keep
 new:=S.new
 lk:=lk
 qJ:=S.qJ
 pt:=S.pt
def gj (T:Tm) (i:Nat):Prop:=∀(j:Nat) (v:V),T[j]?≠some (.bor i,v)
theorem SM.store {C:Cs} {o:Og} {F H:Hp} {σ:L2.St} {ρ:ak} {T:Tm} {e:En} {v:V} {i:Nat} (S:SM C o F H σ ρ ((.en e,v)::T)) (hi:i<σ.length) (hL:i∉C.L) (hT:gj T i) :
  SM C o F H (σ.set i (some v)) (ρ.set i (some e)) T:=by
 have hi':i<ρ.length:=by rw [S.len]; exact hi
 refine S.Lg (fun p=>match p with | .s k=>if k=i then .t 0 else .s k | .t j=>.t (j+1)) (fun p e' v' a=>?_) (fun p q e1 v1 e2 v2 a1 a2 z=>?_) (by rw [List.length_set,List.length_set]; exact S.len) (fun k e' h=>?_) (fun j k v' h=>?_) (fun k v' h=>?_)
 ·cases p with
  | s k =>
   obtain ⟨a1,a2⟩:=a
   by_cases hk:k=i
   ·subst hk
    rw [List.getElem?_set_self hi'] at a1
    rw [List.getElem?_set_self hi] at a2
    cases a1; cases a2
    simp only [if_true]
    rfl
   ·rw [List.getElem?_set_ne (Ne.symm hk)] at a1 a2
    simp only [hk,if_false]
    exact ⟨a1,a2⟩
  | t j=>exact a
 ·cases p with
  | s k =>
   cases q with
   | s l =>
    by_cases hk:k=i <;> by_cases hl:l=i <;> simp only [hk,hl,if_true,if_false] at z ⊢
    ·cases z
    ·cases z
    ·exact z
   | t j=>by_cases hk:k=i <;> simp only [hk,if_true,if_false] at z <;> cases z
  | t j =>
   cases q with
   | s l=>by_cases hl:l=i <;> simp only [hl,if_true,if_false] at z <;> cases z
   | t l=>cases z; rfl
 ·by_cases hk:k=i
  ·subst hk; exact ⟨v,List.getElem?_set_self hi⟩
  ·rw [List.getElem?_set_ne (Ne.symm hk)] at h ⊢; exact S.has k e' h
 ·have hk:k≠i:=fun z=>hT j v' (by rw [← z]; exact h)
  obtain ⟨b1,b2,b3⟩:=S.bor (j+1) k v' h
  rw [List.getElem?_set_ne (Ne.symm hk),List.getElem?_set_ne (Ne.symm hk)]
  exact ⟨b1,b2,b3⟩
 ·have hk:k≠i:=fun z=>by
   have:=S.qJ i hL
   rw [z,this] at h; cases h
  rw [List.getElem?_set_ne (Ne.symm hk)]
  exact S.lk k v' h
theorem SM.move {C:Cs} {o:Og} {F H:Hp} {σ:L2.St} {ρ:ak} {T:Tm} {v:V} {i:Nat} {e:En} (S:SM C o F H σ ρ ((.bor i,v)::T)) (h:ρ[i]?=some (some e)) (hT:gj T i) :
  SM C o F H σ (ρ.set i none) ((.en e,v)::T):=by
 have hi:i<ρ.length:=(List.getElem?_eq_some_iff.mp h).1
 obtain ⟨b1,_,_⟩:=S.bor 0 i v rfl
 refine S.Lg (fun p=>match p with | .t 0=>.s i | p=>p) (fun p e' v' a=>?_) (fun p q e1 v1 e2 v2 a1 a2 z=>?_) (by rw [List.length_set]; exact S.len) (fun k e' h=>?_) (fun j k v' h=>?_) (fun k v' h=>S.lk k v' h)
 ·cases p with
  | s k =>
   obtain ⟨a1,a2⟩:=a
   by_cases hk:k=i
   ·subst hk; rw [List.getElem?_set_self hi] at a1; cases a1
   ·rw [List.getElem?_set_ne (Ne.symm hk)] at a1; exact ⟨a1,a2⟩
  | t j =>
   cases j with
   | zero =>
    have a':some (Val.en e,v)=some (Val.en e',v'):=a
    cases a'
    exact ⟨h,b1⟩
   | succ j=>exact a
 ·have key:∀k:Nat,(ρ.set i none)[k]?=some (some e1)∨(ρ.set i none)[k]?=some (some e2)→k≠i:=fun k hk z=>by
   subst z
   rw [List.getElem?_set_self hi] at hk
   rcases hk with hk | hk <;> cases hk
  cases p with
  | s k =>
   cases q with
   | s l=>exact z
   | t j=>cases j with
    | zero=>cases z; exact absurd rfl (key _ (.inl a1.1))
    | succ j=>cases z
  | t j =>
   cases j with
   | zero =>
    cases q with
    | s l=>cases z; exact absurd rfl (key _ (.inr a2.1))
    | t l=>cases l with
     | zero=>rfl
     | succ l=>cases z
   | succ j =>
    cases q with
    | s l=>cases z
    | t l=>cases l with
     | zero=>cases z
     | succ l=>exact z
 ·by_cases hk:k=i
  ·subst hk; rw [List.getElem?_set_self hi] at h; cases h
  ·rw [List.getElem?_set_ne (Ne.symm hk)] at h; exact S.has k e' h
 ·cases j with
  | zero=>simp at h
  | succ j =>
   have hk:k≠i:=fun z=>hT j v' (by rw [← z]; exact h)
   obtain ⟨b1,b2,b3⟩:=S.bor (j+1) k v' h
   rw [List.getElem?_set_ne (Ne.symm hk)]
   exact ⟨b1,b2,b3⟩
theorem ug (i:Nat):gj [] i:=fun j v h=>by simp at h
section
variable {C:Cs} {Z:ZX}
/-! ### what is walked -/
structure WkD (K:PySem.W.Frag) (F0:Hp) (J:It) (ds:List D):Prop where
 go:∀(i:Nat) (F H:Hp),Ext F0 F→Ext F H→i<ds.length→J.go i H
 stop:∀(F H:Hp),Ext F0 F→Ext F H→J.stop ds.length H
 yld:∀(i:Nat) (F H:Hp) (x:V) (H':Hp),Ext F0 F→Ext F H→i<ds.length→J.yld i H x H'→∃F' d,ds[i]?=some d∧Grow F H F' H'∧Dq K F' d x
def ql (C:Cs) (Z:ZX) (wi:TI) (f:ak→R (List D)):Prop :=
 ∀(o:Og) (F H:Hp) (σ:L2.St) (ρ:ak) (T:Tm) (Q:It→Hp→Prop),SM C o F H σ ρ T →
  lE (f ρ) (fun ds ρ'=>∀F' H' J,SM C o F' H' σ ρ' T→WkD C.K F' J ds→Q J H') (fun x ρ'=>∀F' H',SM C o F' H' σ ρ' T→Z x F' H' σ ρ')→wi σ H Q
theorem xY {K:PySem.W.Frag} {F H:Hp} {e:En} {x:V} {xs:List D} (r:Rp K F H e.fz x) (h:e.fz.items=some xs):∃a vs,x=.ref a∧((SqL K F a vs)∨(SqT K F a vs))∧aN K F xs vs:=by
 have key:∀e':En,Rp K F H e' x→(∀ys,e'≠.ol ys)→e'.items=some xs→∃a vs,x=.ref a∧((SqL K F a vs)∨(SqT K F a vs))∧aN K F xs vs:=fun e' r' hn h'=>by
  cases e' with
  | fr d =>
   cases d with
   | lst k =>
    have r':∃a vs,x=.ref a∧F a=some (.lst vs)∧aN K F k vs:=by simpa only [Rp,Dq] using r'
    obtain ⟨a,vs,h1,h2,h3⟩:=r'
    cases h'
    exact ⟨a,vs,h1,.inl (.inl (.inl h2)),h3⟩
   | tup k =>
    obtain ⟨a,vs,h1,h2,h3⟩:=mW (xs:=xs) r' h'
    exact ⟨a,vs,h1,.inr h2.Di,h3⟩
   | _=>cases h'
  | ol ys=>exact absurd rfl (hn ys)
  | od _ _=>cases h'
  | on _ _=>cases h'
  | ex _=>cases h'
  | jW _=>cases h'
  | ob _=>cases h'
  | exs _=>cases h'
  | cJ k=>cases h'; obtain ⟨a,vs,h1,h2,h3⟩:=r'; exact ⟨a,vs,h1,.inl h2,h3⟩
 refine key e.fz r (fun ys z=>?_) h
 cases e <;> cases z
def cW (f:ak→R Val) (ρ:ak):R (List D):=(f ρ).bind fun a ρ1=>match frz a ρ1 with
 | some (e,ρ2)=>o9 e.items ρ2
 | none=>.bad
theorem Lh {a:Val} {ρ ρ':ak} {e:En} (h:frz a ρ=some (e,ρ')):∃e0:En,e=e0.fz:=by
 unfold frz at h
 cases a with
 | en e0=>simp only [Option.some.injEq,Prod.mk.injEq] at h; exact ⟨e0,h.1.symm⟩
 | bor i =>
  simp only at h
  cases q:(ρ[i]?).join with
  | none=>rw [q] at h; cases h
  | some e0=>rw [q] at h; simp only [Option.some.injEq,Prod.mk.injEq] at h; exact ⟨e0,h.1.symm⟩
theorem SQ {K:PySem.W.Frag} {F0:Hp} {a:Addr} {vs:List V} {ds:List D} (h:SqL K F0 a vs) (d:aN K F0 ds vs):WkD K F0 (Itl K a) ds where
 go:=fun i F H e1 e2 hi=>⟨vs,vs[i]'(by rw [← d.length]; exact hi),e2.BK (e1.BK h),by simp⟩
 stop:=fun F H e1 e2=>⟨vs,e2.BK (e1.BK h),by rw [d.length]; exact Nat.le_refl _⟩
 yld:=fun i F H x H' e1 e2 hi y=>by
  obtain ⟨rfl,y⟩:=y
  obtain ⟨d',h1,h2⟩:=d.Kv (y vs (e2.BK (e1.BK h)))
  exact ⟨F,d',h1,Grow.refl e2,Dq.mono e1 _ _ h2⟩
theorem Xu {K:PySem.W.Frag} {F0:Hp} {a:Addr} {vs:List V} {ds:List D} (h:SqT K F0 a vs) (d:aN K F0 ds vs):WkD K F0 (Itt K a) ds where
 go:=fun i F H e1 e2 hi=>⟨vs,vs[i]'(by rw [← d.length]; exact hi),e2.xP (e1.xP h),by simp⟩
 stop:=fun F H e1 e2=>⟨vs,e2.xP (e1.xP h),by rw [d.length]; exact Nat.le_refl _⟩
 yld:=fun i F H x H' e1 e2 hi y=>by
  obtain ⟨rfl,y⟩:=y
  obtain ⟨d',h1,h2⟩:=d.Kv (y vs (e2.xP (e1.xP h)))
  exact ⟨F,d',h1,Grow.refl e2,Dq.mono e1 _ _ h2⟩
theorem HW {te:TE} {f:ak→R Val} (h:Impl C Z te f):ql C Z (abE C.K te) (cW f):=by
 intro o F H σ ρ T Q S q
 unfold cW at q
 rw [aA] at q
 refine h o F H σ ρ T _ S (au q (fun a ρ1 h1 F1 H1 v S1=>?_) fun _ _ h=>h)
 cases z:frz a ρ1 with
 | none=>rw [z] at h1; exact h1.elim
 | some p =>
  obtain ⟨e,ρ2⟩:=p
  rw [z] at h1
  obtain ⟨ds,hd,q⟩:=cD h1
  obtain ⟨F2,S2⟩:=S1.frz z
  obtain ⟨e0,rfl⟩:=Lh z
  obtain ⟨a',vs,rfl,h3,h4⟩:=xY (S2.look (j:=0) (v:=v) rfl rfl) hd
  refine ⟨a',rfl,?_⟩
  rcases h3 with h3 | h3
  ·exact .inl ⟨vs,S2.sub.BK h3,q F2 H1 _ S2.drop (SQ h3 h4)⟩
  ·exact .inr ⟨vs,S2.sub.xP h3,q F2 H1 _ S2.drop (Xu h3 h4)⟩
def jD (lo:Int) (n:Nat):List D:=(List.range n).map fun (i:Nat)=>.int (lo+i)
theorem iV {lo:Int} {n:Nat}:(jD lo n).length=n:=by unfold jD; rw [List.length_map,List.length_range]
theorem BZ {lo:Int} {n i:Nat} (h:i<n):(jD lo n)[i]?=some (.int (lo+i)):=by
 unfold jD
 rw [List.getElem?_map,List.getElem?_range h]
 rfl
theorem Lj {K:PySem.W.Frag} {F0:Hp} {lo:Int} {n:Nat}:WkD K F0 (Itr lo n) (jD lo n) where
 go:=fun i F H _ _ hi=>by rw [iV] at hi; exact hi
 stop:=fun F H _ _=>by rw [iV]; exact Nat.le_refl _
 yld:=fun i F H x H' e1 e2 hi y=>by
  obtain ⟨rfl,rfl⟩:=y
  rw [iV] at hi
  exact ⟨F,_,BZ hi,Grow.refl e2,mV _⟩
def pB (i:Int):Bool:=decide (-(2^62)≤i)&&decide (i<2^62)
theorem S9 {i:Int} (h:pB i=true) : -(2^62)≤i∧i<2^62:=by
 unfold pB at h
 rw [Bool.and_eq_true] at h
 exact ⟨of_decide_eq_true h.1,of_decide_eq_true h.2⟩
def xZ (fs:ak→R (List Val)) (ρ:ak):R (List D):=(fs ρ).bind fun as ρ1=>match looks ρ1 as with
 | some [a]=>match iw a with
  | some j=>if pB j=true then .ok (jD 0 j.toNat) ρ1 else .bad
  | none=>.bad
 | some [a,b]=>match iw a,iw b with
  | some i,some j=>if pB i=true∧pB j=true then .ok (jD i (j - i).toNat) ρ1 else .bad
  | _,_=>.bad
 | some [a,b,c]=>match iw a,iw b,iw c with
  | some i,some j,some k=>if pB i=true∧pB j=true∧k = -1 then .ok ((List.range (i - j).toNat).map fun (m:Nat)=>.int (i+(m:Int)*(-1))) ρ1 else .bad
  | _,_,_=>.bad
 | _=>.bad
theorem HX {ta:TA} {fs:ak→R (List Val)} (ha:eX C Z ta fs) (h1:∀ρ ρ' as,fs ρ=.ok as ρ'→as.length=1):ql C Z (iRng1 ta) (xZ fs):=by
 intro o F H σ ρ T Q S h
 unfold xZ at h
 cases q:fs ρ with
 | bad=>rw [q] at h; exact h.elim
 | exc x ρ'=>rw [q] at h; exact ha o F H σ ρ T _ S (by rw [q]; exact h)
 | ok as ρ1 =>
  have hl:=h1 ρ ρ1 as q
  rw [q] at h
  refine ha o F H σ ρ T _ S ?_
  rw [q]
  intro F1 H1 vs hlen S1
  replace h:lE (match looks ρ1 as with
   | some [a]=>match iw a with
    | some j=>if pB j=true then R.ok (jD 0 j.toNat) ρ1 else .bad
    | none=>.bad
   | some [a,b]=>match iw a,iw b with
    | some i,some j=>if pB i=true∧pB j=true then .ok (jD i (j - i).toNat) ρ1 else .bad
    | _,_=>.bad
   | some [a,b,c]=>match iw a,iw b,iw c with
    | some i,some j,some k=>if pB i=true∧pB j=true∧k = -1 then .ok ((List.range (i - j).toNat).map fun (m:Nat)=>.int (i+(m:Int)*(-1))) ρ1 else .bad
    | _,_,_=>.bad
   | _=>.bad) _ _:=h
  cases l:looks ρ1 as with
  | none=>rw [l] at h; exact h.elim
  | some es =>
   have r:=nW S1 hlen jc l
   have le:es.length=1:=by rw [r.length,← hlen,hl]
   obtain ⟨a,rfl⟩:=List.length_eq_one_iff.mp le
   rw [l] at h
   cases r with
   | cons r1 r2 =>
    cases r2
    rename_i x
    simp only at h
    cases z:iw a with
    | none=>rw [z] at h; exact h.elim
    | some j =>
     rw [z] at h
     simp only at h
     by_cases k:pB j=true
     ·simp only [k,if_true] at h
      obtain ⟨k1,k2⟩:=S9 k
      refine ⟨j,by rw [dG r1 z],k1,k2,h F1 H1 _ (S1.Vp (fun i=>i+(stack as [x]).length) (fun i y hy=>?_) (fun i j e=>by omega)) Lj⟩
      rw [List.getElem?_append_right (by omega)]
      simpa using hy
     ·simp only [k,if_false] at h; exact h.elim
def pairs (xs ys:List D):List D:=(xs.zip ys).map fun p=>.tup [p.1,p.2]
theorem fO {xs ys:List D}:(pairs xs ys).length=min xs.length ys.length:=by unfold pairs; rw [List.length_map,List.length_zip]
theorem uh {xs ys:List D} {i:Nat} {x y:D} (h1:xs[i]?=some x) (h2:ys[i]?=some y):(pairs xs ys)[i]?=some (.tup [x,y]):=by
 unfold pairs
 have e:(xs.zip ys)[i]?=some (x,y):=List.getElem?_zip_eq_some.mpr ⟨h1,h2⟩
 rw [List.getElem?_map,e]
 rfl
theorem iy {b:Bool} {K:PySem.W.Frag} {F F':Hp} {a:Addr} {xs:List V} (e:Ext F F') (h:tQ b K F a xs):tQ b K F' a xs:=by
 cases b
 ·exact e.xP h
 ·exact e.BK h
theorem yc {K:PySem.W.Frag} {F H:Hp} {T:Addr} {ob:Obj} {d1 d2:D} {x y:V} (s:Ext F H) (nd:Nd ob) (hT:H T=none) (h1:Dq K F d1 x) (h2:Dq K F d2 y) :
  Grow F H (upd F T (.frz ob (.tup [x,y]))) (upd H T (.frz ob (.tup [x,y])))∧Dq K (upd F T (.frz ob (.tup [x,y]))) (.tup [d1,d2]) (.ref T):=by
 have g:=Grow.obj s (o:=.frz ob (.tup [x,y])) hT
 refine ⟨g,?_⟩
 simp only [Dq]
 exact ⟨T,_,rfl,⟨ob,nd,upd_same⟩,.cons (Dq.mono g.f _ _ h1) (.cons (Dq.mono g.f _ _ h2) .nil)⟩
theorem Xv {K:PySem.W.Frag} {F0:Hp} {b1 b2:Bool} {a b:Addr} {vs ws:List V} {ds es:List D} (h:tQ b1 K F0 a vs) (d:aN K F0 ds vs) (h2:tQ b2 K F0 b ws) (d2:aN K F0 es ws):WkD K F0 (ItZ b1 b2 K a b) (pairs ds es) where
 go:=fun i F H e1 e2 hi=>by
  rw [fO,d.length,d2.length] at hi
  have i1:i<vs.length:=by omega
  have i2:i<ws.length:=by omega
  exact ⟨vs,ws,vs[i],ws[i],iy (e1.trans e2) h,iy (e1.trans e2) h2,by simp [i1],by simp [i2]⟩
 stop:=fun F H e1 e2=>⟨vs,ws,iy (e1.trans e2) h,iy (e1.trans e2) h2,by rw [fO,d.length,d2.length]⟩
 yld:=fun i F H x H' e1 e2 hi y=>by
  obtain ⟨T,ob,u,u2,nd,rfl,hT,rfl,y1,y2⟩:=y
  obtain ⟨d',k1,k2⟩:=d.Kv (y1 vs (iy (e1.trans e2) h))
  obtain ⟨d'',k3,k4⟩:=d2.Kv (y2 ws (iy (e1.trans e2) h2))
  obtain ⟨g,q⟩:=yc e2 nd hT (Dq.mono e1 _ _ k2) (Dq.mono e1 _ _ k4)
  exact ⟨_,_,uh k1 k3,g,q⟩
theorem abF {K:PySem.W.Frag} {F:Hp} {a:Addr} {vs:List V} (h:SqL K F a vs∨SqT K F a vs):∃b,tQ b K F a vs:=by
 rcases h with h | h
 ·exact ⟨true,h⟩
 ·exact ⟨false,h⟩
theorem SM.itemsOf {o:Og} {F H:Hp} {σ:L2.St} {ρ:ak} {T:Tm} {e0:En} {v:V} {ds:List D} (S:SM C o F H σ ρ T) (h:(Val.en e0.fz,v)∈T) (hd:e0.fz.items=some ds) :
  ∃a vs b,v=.ref a∧tQ b C.K F a vs∧aN C.K F ds vs:=by
 obtain ⟨a,vs,rfl,h3,h4⟩:=xY (S.xQ h rfl) hd
 obtain ⟨b,h3⟩:=abF h3
 exact ⟨a,vs,b,rfl,h3,h4⟩
theorem uo {te:TE} {f:ak→R Val} (h:Impl C Z te f) {o:Og} {F H:Hp} {σ:L2.St} {ρ:ak} {T:Tm} {Q:VK} (S:SM C o F H σ ρ T)
  (q:lE (cW f ρ) (fun ds ρ'=>∀F' H' v e0,SM C o F' H' σ ρ' ((.en (En.fz e0),v)::T)→e0.fz.items=some ds→Q v H') (fun x ρ'=>∀F' H',SM C o F' H' σ ρ' T→Z x F' H' σ ρ')):te σ H Q:=by
 unfold cW at q
 rw [aA] at q
 refine h o F H σ ρ T _ S (au q (fun a ρ1 h1 F1 H1 v S1=>?_) fun _ _ h=>h)
 cases z:frz a ρ1 with
 | none=>rw [z] at h1; exact h1.elim
 | some p =>
  obtain ⟨e,ρ2⟩:=p
  rw [z] at h1
  obtain ⟨ds,hd,q⟩:=cD h1
  obtain ⟨F2,S2⟩:=S1.frz z
  obtain ⟨e0,rfl⟩:=Lh z
  exact q F2 H1 v e0 S2 hd
def vM (f g:ak→R Val) (ρ:ak):R (List D):=(cW f ρ).bind fun ds ρ1=>(cW g ρ1).bind fun es ρ2=>.ok (pairs ds es) ρ2
theorem HY {te ue:TE} {f g:ak→R Val} (h:Impl C Z te f) (h':Impl C Z ue g):ql C Z (Vv C.K (tCons te (tCons ue tNil))) (vM f g):=by
 intro o F H σ ρ T Q S q
 unfold vM at q
 rw [aA] at q
 refine uo h S (au q (fun ds ρ1 h1 F1 H1 v e0 S1 hd=>?_) fun _ _ h=>h)
 rw [aA] at h1
 refine uo h' S1 (au h1 (fun es ρ2 h2 F2 H2 v2 e1 S2 hd2=>?_) fun _ _ h F' H' s=>h F' H' s.drop)
 obtain ⟨a,vs,b,rfl,h3,h4⟩:=S2.itemsOf (v:=v) (by simp) hd
 obtain ⟨a2,ws,b2,rfl,h5,h6⟩:=S2.itemsOf (v:=v2) (by simp) hd2
 exact ⟨b,b2,a,a2,vs,ws,rfl,iy S2.sub h3,iy S2.sub h5,h2 F2 H2 _ S2.drop.drop (Xv h3 h4 h5 h6)⟩
/-! ### targets -/
inductive Tg where
 | n (i:Nat) | t (l:List Tg)
mutual
def cZ:Tg→D→ak→Option ak
 | .n i,d,ρ=>if i<ρ.length then some (ρ.set i (⇑d)) else none
 | .t l,.tup ds,ρ=>fK l ds ρ
 | .t l,.lst ds,ρ=>fK l ds ρ
 | .t _,_,_=>none
def fK:List Tg→List D→ak→Option ak
 | [],[],ρ=>some ρ
 | t::ts,d::ds,ρ=>match cZ t d ρ with
  | some ρ1=>fK ts ds ρ1
  | none=>none
 | _,_,_=>none
end
mutual
def Tg.slots:Tg→List Nat
 | .n i=>[i]
 | .t l=>rG l
def rG:List Tg→List Nat
 | []=>[]
 | t::ts=>t.slots++rG ts
end
def oh (C:Cs) (g:TG) (sl:List Nat) (f:D→ak→Option ak):Prop :=
 ∀(o:Og) (F H:Hp) (σ:L2.St) (ρ ρ':ak) (T:Tm) (d:D) (v:V) (Q:L2.St→Hp→Prop),SM C o F H σ ρ T→Dq C.K F d v→(∀i∈sl,gj T i)→f d ρ=some ρ'→(∀σ',SM C o F H σ' ρ' T→(∀i,i∉sl→σ'[i]?=σ[i]?)→σ'.length=σ.length→Q σ' H)→g v σ H Q
def rH (C:Cs) (g:TGs) (sl:List Nat) (f:List D→ak→Option ak):Prop :=
 ∀(o:Og) (F H:Hp) (σ:L2.St) (ρ ρ':ak) (T:Tm) (ds:List D) (vs:List V) (Q:L2.St→Hp→Prop),SM C o F H σ ρ T→aN C.K F ds vs→(∀i∈sl,gj T i)→f ds ρ=some ρ'→(∀σ',SM C o F H σ' ρ' T→(∀i,i∉sl→σ'[i]?=σ[i]?)→σ'.length=σ.length→Q σ' H)→g vs σ H Q
theorem Tc {i:Nat} (hL:i∉C.L):oh C (gName i) [i] (cZ (.n i)):=by
 intro o F H σ ρ ρ' T d v Q S r hb h q
 unfold cZ at h
 by_cases hi:i<ρ.length
 ·simp only [hi,if_true] at h
  cases h
  exact q _ ((S.bf r).store (by rw [← S.len]; exact hi) hL (hb i (by simp))) (fun j hj=>List.getElem?_set_ne (by simpa [eq_comm] using hj)) (List.length_set ..)
 ·simp only [hi,if_false] at h; cases h
theorem Ca:rH C gNil [] (fK []):=by
 intro o F H σ ρ ρ' T ds vs Q S r hb h q
 cases ds with
 | nil =>
  unfold fK at h
  cases h
  exact ⟨r.nil_iff,q σ S (fun _ _=>rfl) rfl⟩
 | cons d ds=>unfold fK at h; cases h
theorem yd {g:TG} {gs:TGs} {t:Tg} {ts:List Tg} {sl sls:List Nat} (h1:oh C g sl (cZ t)) (h2:rH C gs sls (fK ts)):rH C (gCons g gs) (sl++sls) (fK (t::ts)):=by
 intro o F H σ ρ ρ' T ds vs Q S r hb h q
 cases ds with
 | nil=>unfold fK at h; cases h
 | cons d ds =>
  obtain ⟨v,vs',rfl,r1,r2⟩:=r.uncons
  unfold fK at h
  cases z:cZ t d ρ with
  | none=>rw [z] at h; cases h
  | some ρ1 =>
   rw [z] at h
   refine ⟨v,vs',rfl,h1 o F H σ ρ ρ1 T d v _ S r1 (fun i hi=>hb i (List.mem_append_left _ hi)) z fun σ1 S1 k1 l1=>?_⟩
   refine h2 o F H σ1 ρ1 ρ' T ds vs' _ S1 r2 (fun i hi=>hb i (List.mem_append_right _ hi)) h fun σ2 S2 k2 l2=>?_
   exact q σ2 S2 (fun i hi=>by
    rw [List.mem_append,not_or] at hi
    rw [k2 i hi.2,k1 i hi.1]) (l2.trans l1)
def gTB (K:PySem.W.Frag) (n:Nat) (t:TGs):TG:=fun v σ H Q=>gTup K n t v σ H Q∨gUnl K n t v σ H Q
theorem Vw {X:Cx} {pos:Pos} {es:List Expr} {k:Nat} {t:TGs} {n:Nat} (hc:X.calm=true) (h:PGs X es t)
  (hn:(assignEach es X.env).length=n:=by rfl) (hst:(assignEach es X.env).findIdx? (·.1)=none:=by rfl):PG X (.Tuple es k pos) (gTB X.K n t):=by
 refine ⟨fun pins s σ H v u Q I r hw=>?_⟩
 rcases hw with hw | hw
 ·exact (pg_tup hc h hn hst).run pins s σ H v u Q I r hw
 ·exact (pg_unl hc h hn hst).run pins s σ H v u Q I r hw
theorem uw:∀(ts:List Tg) (ds:List D) (ρ ρ':ak),fK ts ds ρ=some ρ'→ds.length=ts.length:=by
 intro ts
 induction ts with
 | nil=>intro ds ρ ρ' h; cases ds with
  | nil=>rfl
  | cons d ds=>unfold fK at h; cases h
 | cons t ts ih=>intro ds ρ ρ' h; cases ds with
  | nil=>unfold fK at h; cases h
  | cons d ds =>
   unfold fK at h
   cases z:cZ t d ρ with
   | none=>rw [z] at h; cases h
   | some ρ1=>rw [z] at h; rw [List.length_cons,List.length_cons,ih ds ρ1 ρ' h]
theorem Td {gs:TGs} {ts:List Tg} {sl:List Nat} {n:Nat} (hn:ts.length=n) (h:rH C gs sl (fK ts)):oh C (gTB C.K n gs) sl (cZ (.t ts)):=by
 intro o F H σ ρ ρ' T d v Q S r hb e q
 cases d with
 | tup ds =>
  unfold cZ at e
  have r':∃a vs,v=.ref a∧RW F a vs∧aN C.K F ds vs:=by simpa only [Dq] using r
  obtain ⟨a,vs,rfl,h1,h2⟩:=r'
  exact .inl ⟨a,vs,rfl,S.sub.Di h1,by rw [← h2.length,← hn]; exact uw ts ds ρ ρ' e,h o F H σ ρ ρ' T ds vs Q S h2 hb e q⟩
 | lst ds =>
  unfold cZ at e
  have r':∃a vs,v=.ref a∧F a=some (.lst vs)∧aN C.K F ds vs:=by simpa only [Dq] using r
  obtain ⟨a,vs,rfl,h1,h2⟩:=r'
  exact .inr ⟨a,vs,rfl,.inl (.inl (S.sub _ _ h1)),by rw [← h2.length,← hn]; exact uw ts ds ρ ρ' e,h o F H σ ρ ρ' T ds vs Q S h2 hb e q⟩
 | _=>unfold cZ at e; cases e
/-! ### comprehensions -/
def cX (ρ:ak):List Nat→ak
 | []=>ρ
 | i::is=>(cX ρ is).set i none
def yg (own:List Nat) (fg:D→ak→Option ak) (ft:ak→R Bool) (fe:ak→R Val):List D→ak→List D→R (List D)
 | [],ρ,acc=>.ok acc ρ
 | d::ds,ρ,acc=>match fg d ρ with
  | none=>.bad
  | some ρ1=>(ft ρ1).bind fun b ρ2=>match b with
   | false=>yg own fg ft fe ds (cX ρ2 own) acc
   | true=>(bL fe ρ2).bind fun v ρ3=>match v with
    | .en (.fr d')=>if acc.length<sizeLine then yg own fg ft fe ds (cX ρ3 own) (acc++[d']) else .bad
    | _=>.bad
def iz (ρ:ak):List Nat→Bool
 | []=>true
 | i::is=>(match (ρ[i]?).join with | some (.ol _)=>false | some (.od _ _)=>false | some (.on _ _)=>false | some (.jW _)=>false | some (.ob _)=>false | some (.exs _)=>false | _=>true)&&iz ρ is
def putBack (ρ ρ':ak):List Nat→ak
 | []=>ρ'
 | i::is=>(putBack ρ ρ' is).set i ((ρ[i]?).join)
def gq (own:List Nat) (fi:ak→R (List D)) (fg:D→ak→Option ak) (ft:ak→R Bool) (fe:ak→R Val) (ρ:ak):R Val :=
 (fi ρ).bind fun ds ρ1=>if iz ρ1 own=true then match yg own fg ft fe ds (cX ρ1 own) [] with
  | .ok acc ρ2=>.ok (.en (.ol acc)) (putBack ρ1 ρ2 own)
  | _=>.bad
 else .bad
theorem ou (ρ:ak):∀own:List Nat,(cX ρ own).length=ρ.length
 | []=>rfl
 | i::is=>by unfold cX; rw [List.length_set,ou ρ is]
theorem lG {ρ:ak} {i:Nat}:∀{own:List Nat},i∉own→(cX ρ own)[i]?=ρ[i]?
 | [],_=>rfl
 | j::is,h=>by
  rw [List.mem_cons,not_or] at h
  unfold cX
  rw [List.getElem?_set_ne (fun e=>h.1 e.symm),lG h.2]
theorem yh {ρ:ak} {i:Nat} {e:En}:∀{own:List Nat},i∈own→(cX ρ own)[i]?≠some (some e)
 | j::is,h=>fun q=>by
  unfold cX at q
  by_cases hj:j=i
  ·subst hj
   by_cases hl:j<(cX ρ is).length
   ·rw [List.getElem?_set_self hl] at q; cases q
   ·rw [List.getElem?_eq_none (by simpa using hl)] at q; cases q
  ·rw [List.getElem?_set_ne hj] at q
   rcases List.mem_cons.mp h with z | z
   ·exact hj z.symm
   ·exact yh z q
theorem kZ (ρ ρ':ak):∀own:List Nat,(putBack ρ ρ' own).length=ρ'.length
 | []=>rfl
 | i::is=>by unfold putBack; rw [List.length_set,kZ ρ ρ' is]
theorem mY {ρ ρ':ak} {i:Nat} {e:En}:∀{own:List Nat},(putBack ρ ρ' own)[i]?=some (some e)→(i∈own∧ρ[i]?=some (some e))∨(i∉own∧ρ'[i]?=some (some e))
 | [],h=>.inr ⟨by simp,h⟩
 | j::is,h=>by
  unfold putBack at h
  by_cases hj:j=i
  ·subst hj
   by_cases hl:j<(putBack ρ ρ' is).length
   ·rw [List.getElem?_set_self hl] at h
    exact .inl ⟨by simp,join_some (Option.some.inj h)⟩
   ·rw [List.getElem?_eq_none (by simpa using hl)] at h; cases h
  ·rw [List.getElem?_set_ne hj] at h
   rcases mY h with ⟨a,b⟩ | ⟨a,b⟩
   ·exact .inl ⟨List.mem_cons_of_mem _ a,b⟩
   ·exact .inr ⟨by rw [List.mem_cons,not_or]; exact ⟨fun e=>hj e.symm,a⟩,b⟩
theorem qu {ρ ρ':ak} {i:Nat}:∀{own:List Nat},i∉own→(putBack ρ ρ' own)[i]?=ρ'[i]?
 | [],_=>rfl
 | j::is,h=>by
  rw [List.mem_cons,not_or] at h
  unfold putBack
  rw [List.getElem?_set_ne (fun e=>h.1 e.symm),qu h.2]
theorem rJ {ρ:ak} {i:Nat} {e:En}:∀{own:List Nat},iz ρ own=true→i∈own→ρ[i]?=some (some e)→∀H v a,¬Ow H e v a
 | j::is,h,hm,hi=>by
  unfold iz at h
  rw [Bool.and_eq_true] at h
  rcases List.mem_cons.mp hm with z | z
  ·subst z
   rw [hi] at h
   intro H v a w
   cases e with
   | fr d=>exact w
   | cJ d=>exact w
   | ex d=>exact w
   | jW d=>exact absurd h.1 (by simp)
   | ob _=>exact absurd h.1 (by simp)
   | exs _=>exact absurd h.1 (by simp)
   | ol d=>exact absurd h.1 (by simp)
   | od k d=>exact absurd h.1 (by simp)
   | on k d=>exact absurd h.1 (by simp)
  ·exact rJ h.2 z hi
theorem dM {σ:L2.St} {i:Nat} {own:List Nat} (h:i∉own):(wipe σ own)[i]?=σ[i]?:=wipe_out h
theorem SM.wipe {o:Og} {F H:Hp} {σ:L2.St} {ρ:ak} {T:Tm} {own:List Nat} (S:SM C o F H σ ρ T) (hc:∀i∈own,i∈C.cs) (hL:∀i∈own,i∉C.L):SM C o F H (L2.wipe σ own) (cX ρ own) T:=by
 have key:∀(k:Nat) (e:En),(cX ρ own)[k]?=some (some e)→k∉own:=fun k e h hk=>yh hk h
 refine S.Lg id (fun p e v a=>?_) (fun _ _ _ _ _ _ _ _ z=>z) (by rw [ou,wipe_length]; exact S.len) (fun k e h=>?_) (fun j k v h=>?_) fun k v h=>?_
 ·cases p with
  | s k =>
   obtain ⟨a1,a2⟩:=a
   have hk:=key k e a1
   rw [lG hk] at a1
   rw [dM hk] at a2
   exact ⟨a1,a2⟩
  | t j=>exact a
 ·have hk:=key k e h
  rw [lG hk] at h
  rw [dM hk]
  exact S.has k e h
 ·obtain ⟨b1,b2,b3⟩:=S.bor j k v h
  have hk:k∉own:=fun z=>b3 (hc k z)
  rw [dM hk,lG hk]
  exact ⟨b1,b2,b3⟩
 ·have hk:k∉own:=fun z=>by rw [S.qJ k (hL k z)] at h; cases h
  rw [dM hk]
  exact S.lk k v h
theorem SM.putBack {o:Og} {F0 H0 F H:Hp} {σ:L2.St} {ρ0 ρ:ak} {T0 T:Tm} {own:List Nat} (S0:SM C o F0 H0 σ ρ0 T0) (S:SM C o F H (L2.wipe σ own) ρ T) (hf:iz ρ0 own=true) (e:Ext F0 F) (hc:∀i∈own,i∈C.cs) (hL:∀i∈own,i∉C.L) :
  SM C o F H σ (DM.putBack ρ0 ρ own) T:=by
 have hat:∀p e v,At σ (DM.putBack ρ0 ρ own) T p e v→(At (L2.wipe σ own) ρ T p e v)∨((∀H a,¬Ow H e v a)∧∃k,p=.s k∧At σ ρ0 T0 (.s k) e v):=fun p e v a=>by
  cases p with
  | s k =>
   obtain ⟨a1,a2⟩:=a
   rcases mY a1 with ⟨h1,h2⟩ | ⟨h1,h2⟩
   ·exact .inr ⟨fun H=>rJ hf h1 h2 H v,k,rfl,h2,a2⟩
   ·exact .inl ⟨h2,by rw [dM h1]; exact a2⟩
  | t j=>exact .inl a
 exact {
  sub:=S.sub
  len:=by rw [kZ,S.len,wipe_length]
  has:=fun k e h=>by
   rcases mY h with ⟨h1,h2⟩ | ⟨h1,h2⟩
   ·exact S0.has k e h2
   ·obtain ⟨v,hv⟩:=S.has k e h2
    rw [dM h1] at hv
    exact ⟨v,hv⟩
  rep:=fun p e' v a=>by
   rcases hat p e' v a with h | ⟨hn,k,rfl,h⟩
   ·exact S.rep p e' v h
   ·have r:=S0.rep _ e' v h
    cases e' with
    | fr d=>exact Dq.mono e _ _ r
    | cJ d=>obtain ⟨a,vs,h1,h2,h3⟩:=r; exact ⟨a,vs,h1,e.BK h2,aN.mono e _ _ h3⟩
    | ex x=>exact Kz.mono e r
    | ol d=>obtain ⟨a,vs,h1,h2,h3⟩:=r; exact absurd h1 (hn H0 a)
    | od k d=>obtain ⟨a,us,vs,h1,h2,h3⟩:=r; exact absurd h1 (hn H0 a)
    | on k d=>obtain ⟨a,us,vs,h1,h2,h3⟩:=r; exact absurd h1 (hn H0 a)
    | jW d=>obtain ⟨p,as,h1,h2,_⟩:=r; exact absurd ⟨p,_,h1,h2,.inl rfl⟩ (hn H0 p)
    | ob d=>obtain ⟨a,dx,gs,h1,h2,_⟩:=r; exact absurd ⟨a,_,_,_,h1,h2,.inl rfl⟩ (hn H0 a)
    | exs d=>obtain ⟨a,vs,h1,h2,h3,h4⟩:=r; exact ⟨a,vs,h1,e _ _ h2,h3,fun i x y e1 e2=>(h4 i x y e1 e2).mono e⟩
  bor:=fun j k v h=>by
   obtain ⟨b1,b2,b3⟩:=S.bor j k v h
   have hk:k∉own:=fun z=>b3 (hc k z)
   rw [dM hk] at b1
   rw [qu hk]
   exact ⟨b1,b2,b3⟩
  sep:=fun p q e1 e2 v1 v2 a ne h1 h2 w1 w2=>by
   rcases hat p e1 v1 h1 with h1 | ⟨hn,_⟩
   ·rcases hat q e2 v2 h2 with h2 | ⟨hn,_⟩
    ·exact S.sep p q e1 e2 v1 v2 a ne h1 h2 w1 w2
    ·exact hn H a w2
   ·exact hn H a w1
  own:=fun p e' v a h w=>by
   rcases hat p e' v h with h | ⟨hn,_⟩
   ·exact S.own p e' v a h w
   ·exact absurd w (hn H a)
  ext:=S.ext
  keep:=S.keep
  new:=S.new
  lk:=fun k v h=>by
   have hk:k∉own:=fun z=>by rw [S.qJ k (hL k z)] at h; cases h
   have:=S.lk k v h
   rw [dM hk] at this
   exact this
  qJ:=S.qJ
  pt:=S.pt }
theorem SM.aew {o:Og} {F H:Hp} {σ:L2.St} {ρ ρ':ak} {T T':Tm} (S:SM C o F H σ ρ T) {w:Wh} {e e':En} {v:V} {a:Addr} {u:HO} (h:At σ ρ T w e v) (ho:Ow H e v a) (hl:ρ'.length=ρ.length)
  (hat:∀p e1 v1,At σ ρ' T' p e1 v1→(p=w∧e1=e'∧v1=v)∨(p≠w∧At σ ρ T p e1 v1)) (hs:∀(i:Nat) (e1:En),ρ'[i]?=some (some e1)→∃e2,ρ[i]?=some (some e2))
  (hb:∀(j i:Nat) (v':V),T'[j]?=some (.bor i,v')→T[j]?=some (.bor i,v')∧((∃e1,ρ[i]?=some (some e1))→∃e1,ρ'[i]?=some (some e1)))
  (r:Rp C.K F (upd H a u) e' v) (hw:∀b,Ow (upd H a u) e' v b→Ow H e v b):SM C o F (upd H a u) σ ρ' T':=by
 obtain ⟨o1,o2⟩:=S.own w e _ a h ho
 have keep:∀b x,F b=some x→upd H a u b=some x:=fun b x q=>by
  have hb:b≠a:=fun z=>by rw [z,o1] at q; cases q
  rw [upd_ne hb]
  exact S.sub b x q
 have oth:∀{p:Wh} {e1:En} {v1:V},p≠w→At σ ρ T p e1 v1→∀b x,Ow H e1 v1 b→H b=some x→upd H a u b=some x:=fun {p e1 v1} np q b x w1 hx=>by
  have hb:b≠a:=fun z=>by rw [z] at w1; exact S.sep w p e e1 v v1 a (Ne.symm np) h q ho w1
  rw [upd_ne hb]; exact hx
 exact {
  sub:=keep
  len:=hl.trans S.len
  has:=fun i e1 q=>by obtain ⟨e2,q'⟩:=hs i e1 q; exact S.has i e2 q'
  rep:=fun p e1 v1 q=>by
   rcases hat p e1 v1 q with ⟨rfl,rfl,rfl⟩ | ⟨ne,q'⟩
   ·exact r
   ·have r1:=S.rep p e1 v1 q'
    have k:=oth ne q'
    cases e1 with
    | fr d=>exact r1
    | cJ d=>exact r1
    | ex d=>exact r1
    | ol d =>
     obtain ⟨b,vs,h1,h2,h3⟩:=r1
     exact ⟨b,vs,h1,k b _ h1 h2,h3⟩
    | od k' d =>
     obtain ⟨b,us,vs,h1,h2,h3⟩:=r1
     exact ⟨b,us,vs,h1,h2.mono fun u q=>k b u h1 q,h3⟩
    | on k' d =>
     obtain ⟨b,us,vs,h1,h2,h3⟩:=r1
     exact ⟨b,us,vs,h1,h2.mono fun u q=>k b u h1 q,h3⟩
    | jW its =>
     obtain ⟨p',vs,h1,h2,h3,h4,h5,h6⟩:=r1
     refine ⟨p',vs,h1,k p' _ ⟨p',_,h1,h2,.inl rfl⟩ h2,h3,fun i x y e1 e2=>(h4 i x y e1 e2).mono (Ext.refl F) ?_,h5,h6⟩
     rintro b z ⟨⟨xs,rfl⟩,rfl⟩ hz
     exact k b _ ⟨p',_,h1,h2,.inr ⟨i,xs,e1,e2⟩⟩ hz
    | ob fs =>
     obtain ⟨p',dx,gs,h1,h2,h3,h4,h5,h6⟩:=r1
     refine ⟨p',dx,gs,h1,k p' _ ⟨p',_,_,_,h1,h2,.inl rfl⟩ h2,k dx _ ⟨p',_,_,_,h1,h2,.inr (.inl rfl)⟩ h3,h4,fun i x y e1 e2=>(h5 i x y e1 e2).mono (Ext.refl F) ?_,h6⟩
     rintro b z ⟨⟨xs,rfl⟩,rfl⟩ hz
     exact k b _ ⟨p',_,_,_,h1,h2,.inr (.inr ⟨i,xs,e1,e2⟩)⟩ hz
    | exs xs=>exact r1
  bor:=fun j i v' q=>by
   obtain ⟨q1,q2⟩:=hb j i v' q
   obtain ⟨b1,b2,b3⟩:=S.bor j i v' q1
   exact ⟨b1,q2 b2,b3⟩
  sep:=fun p q e1 e2 v1 v2 b ne a1 a2 w1 w2=>by
   rcases hat p e1 v1 a1 with ⟨rfl,rfl,rfl⟩ | ⟨np,a1'⟩
   ·rcases hat q e2 v2 a2 with ⟨rfl,_,_⟩ | ⟨nq,a2'⟩
    ·exact ne rfl
    ·exact S.sep p q e e2 _ v2 b ne h a2' (hw b w1) ((Ow.stay (S.rep q e2 v2 a2') (oth nq a2')).mp w2)
   ·rcases hat q e2 v2 a2 with ⟨rfl,rfl,rfl⟩ | ⟨nq,a2'⟩
    ·exact S.sep q p e e1 _ v1 b (Ne.symm ne) h a1' (hw b w2) ((Ow.stay (S.rep p e1 v1 a1') (oth np a1')).mp w1)
    ·exact S.sep p q e1 e2 v1 v2 b ne a1' a2' ((Ow.stay (S.rep p e1 v1 a1') (oth np a1')).mp w1) ((Ow.stay (S.rep q e2 v2 a2') (oth nq a2')).mp w2)
  own:=fun p e1 v1 b a1 w1=>by
   rcases hat p e1 v1 a1 with ⟨rfl,rfl,rfl⟩ | ⟨np,a1'⟩
   ·exact S.own p e _ b h (hw b w1)
   ·exact S.own p e1 v1 b a1' ((Ow.stay (S.rep p e1 v1 a1') (oth np a1')).mp w1)
  ext:=S.ext
  keep:=fun b x q1 q2=>by
   have hb:b≠a:=fun z=>by
    rw [z] at q1 q2
    rcases o2 with o2 | o2
    ·exact q1 o2
    ·rw [o2] at q2; cases q2
   rw [upd_ne hb]
   exact S.keep b x q1 q2
  new:=S.new
  lk:=S.lk
  qJ:=S.qJ
  pt:=S.pt }
theorem SM.Vx {o:Og} {F H:Hp} {σ:L2.St} {ρ ρ':ak} {T T':Tm} (S:SM C o F H σ ρ T) {w:Wh} {e e':En} {a:Addr} {u:HO} (h:At σ ρ T w e (.ref a)) (ho:Ow H e (.ref a) a) (hl:ρ'.length=ρ.length)
  (hat:∀p e1 v1,At σ ρ' T' p e1 v1→(p=w∧e1=e'∧v1=.ref a)∨(p≠w∧At σ ρ T p e1 v1)) (hs:∀(i:Nat) (e1:En),ρ'[i]?=some (some e1)→∃e2,ρ[i]?=some (some e2))
  (hb:∀(j i:Nat) (v':V),T'[j]?=some (.bor i,v')→T[j]?=some (.bor i,v')∧((∃e1,ρ[i]?=some (some e1))→∃e1,ρ'[i]?=some (some e1)))
  (r:Rp C.K F (upd H a u) e' (.ref a)) (hw:∀b,Ow (upd H a u) e' (.ref a) b→b=a):SM C o F (upd H a u) σ ρ' T' :=
 S.aew h ho hl hat hs hb r fun b w=>by rw [hw b w]; exact ho
theorem SM.Xw {o:Og} {F H:Hp} {σ:L2.St} {ρ:ak} {T:Tm} {acc:List D} {d:D} {y:V} {p:Addr} (S:SM C o F H σ ρ ((.en (.fr d),y)::(.en (.ol acc),.ref p)::T)) :
  ∃vs,H p=some (.lst vs)∧acc.length=vs.length∧SM C o F (upd H p (.lst (vs++[y]))) σ ρ ((.en (.ol (acc++[d])),.ref p)::T):=by
 have rd:Dq C.K F d y:=S.look (j:=0) rfl rfl
 obtain ⟨a,vs,ha,h2,h3⟩:Rp C.K F H (.ol acc) (.ref p):=S.look (j:=1) (v:=.ref p) rfl rfl
 cases ha
 refine ⟨vs,h2,h3.length,S.drop.Vx (w:=.t 0) (e:=.ol acc) (e':=.ol (acc++[d])) (a:=p) rfl rfl rfl (fun q e1 v1 a=>?_) (fun i e1 q=>⟨e1,q⟩) (fun j i v' q=>?_) ⟨p,_,rfl,upd_same,h3.append (.cons rd .nil)⟩ fun b w=>by cases w; rfl⟩
 ·cases q with
  | s k=>exact .inr ⟨(fun z=>by cases z),a⟩
  | t j =>
   cases j with
   | zero =>
    have a':some (Val.en (.ol (acc++[d])),V.ref p)=some (Val.en e1,v1):=a
    cases a'
    exact .inl ⟨rfl,rfl,rfl⟩
   | succ j=>exact .inr ⟨(fun z=>by cases z),a⟩
 ·cases j with
  | zero=>simp at q
  | succ j=>exact ⟨q,fun z=>z⟩
theorem Lk {own:List Nat} {fg:D→ak→Option ak} {ft:ak→R Bool} {fe:ak→R Val} {d:D} {ds:List D} {ρ:ak} {acc yj:List D} {ρF:ak} (h:yg own fg ft fe (d::ds) ρ acc=.ok yj ρF) :
  ∃ρ1 b ρ2,fg d ρ=some ρ1∧ft ρ1=.ok b ρ2∧((b=false∧yg own fg ft fe ds (cX ρ2 own) acc=.ok yj ρF) ∨
   (b=true∧∃d' ρ3,bL fe ρ2=.ok (.en (.fr d')) ρ3∧acc.length<sizeLine∧yg own fg ft fe ds (cX ρ3 own) (acc++[d'])=.ok yj ρF)):=by
 unfold yg at h
 cases h1:fg d ρ with
 | none=>rw [h1] at h; cases h
 | some ρ1 =>
  rw [h1] at h
  simp only at h
  cases h2:ft ρ1 with
  | bad=>rw [h2] at h; cases h
  | exc x ρ=>rw [h2] at h; cases h
  | ok b ρ2 =>
   rw [h2] at h
   cases b with
   | false=>exact ⟨ρ1,false,ρ2,rfl,h2,.inl ⟨rfl,h⟩⟩
   | true =>
    replace h:(bL fe ρ2).bind (fun v ρ3=>match v with
     | .en (.fr d')=>if acc.length<sizeLine then yg own fg ft fe ds (cX ρ3 own) (acc++[d']) else .bad
     | _=>.bad)=.ok yj ρF:=h
    cases h3:bL fe ρ2 with
    | bad=>rw [h3] at h; cases h
    | exc x ρ=>rw [h3] at h; cases h
    | ok v ρ3 =>
     rw [h3] at h
     cases v with
     | bor i=>cases h
     | en e =>
      cases e with
      | fr d' =>
       replace h:(if acc.length<sizeLine then yg own fg ft fe ds (cX ρ3 own) (acc++[d']) else .bad)=.ok yj ρF:=h
       by_cases hz:acc.length<sizeLine
       ·rw [if_pos hz] at h
        exact ⟨ρ1,true,ρ2,rfl,h2,.inr ⟨rfl,d',ρ3,h3,hz,h⟩⟩
       ·rw [if_neg hz] at h; cases h
      | ol _=>cases h
      | od _ _=>cases h
      | on _ _=>cases h
      | cJ _=>cases h
      | ex _=>cases h
      | jW _=>cases h
      | ob _=>cases h
      | exs _=>cases h
theorem jE {σ σ':L2.St} {own:List Nat} (hl:σ'.length=σ.length) (h:∀i,i∉own→σ'[i]?=σ[i]?):L2.wipe σ' own=L2.wipe σ own:=by
 apply List.ext_getElem?
 intro i
 by_cases hi:i∈own
 ·have key:∀{τ:L2.St} {is:List Nat},i∈is→i<τ.length→(L2.wipe τ is)[i]?=some none:=by
   intro τ is
   induction is with
   | nil=>intro h; simp at h
   | cons j is ih =>
    intro hm hlt
    unfold L2.wipe
    by_cases hj:j=i
    ·subst hj; exact List.getElem?_set_self (by rw [wipe_length]; exact hlt)
    ·rw [List.getElem?_set_ne hj]
     rcases List.mem_cons.mp hm with z | z
     ·exact absurd z.symm hj
     ·exact ih z hlt
  by_cases hlt:i<σ.length
  ·rw [key hi hlt,key hi (by rw [hl]; exact hlt)]
  ·rw [List.getElem?_eq_none (by rw [wipe_length]; omega),List.getElem?_eq_none (by rw [wipe_length]; omega)]
 ·rw [wipe_out hi,wipe_out hi,h i hi]
abbrev ZF:ZX:=fun _ _ _ _ _=>False
theorem Tf {own sl:List Nat} {wi:TI} {g:TG} {tt:TT} {te:TE} {fi:ak→R (List D)} {fg:D→ak→Option ak} {ft:ak→R Bool} {fe:ak→R Val} (hi:ql C Z wi fi) (hg:oh C g sl fg) (ht:dB C ZF tt ft) (he:Impl C ZF te fe)
  (hc:∀i∈own,i∈C.cs) (hL:∀i∈own,i∉C.L) (hs:∀i∈sl,i∈own):Impl C Z (tLc wi g tt te own) (gq own fi fg ft fe):=by
 intro o F H σ ρ T Q S h
 unfold gq at h
 rw [aA] at h
 refine hi o F H σ ρ T _ S (au h (fun ds ρ1 h1 F1 H1 J S1 W=>?_) fun _ _ h=>h)
 by_cases hf:iz ρ1 own=true
 ·rw [if_pos hf] at h1
  cases hr:yg own fg ft fe ds (cX ρ1 own) [] with
  | bad=>rw [hr] at h1; exact h1.elim
  | exc x ρ'=>rw [hr] at h1; exact h1.elim
  | ok yj ρF =>
   rw [hr] at h1
   intro D hD
   refine ⟨fun i m H=>m=ds.length - i∧i≤ds.length∧∃F ρ acc,Ext F1 F∧SM C o F H (L2.wipe σ own) ρ ((.en (.ol acc),.ref D)::T)∧yg own fg ft fe (ds.drop i) ρ acc=.ok yj ρF,
    ⟨ds.length,by simp,Nat.zero_le _,F1,cX ρ1 own,[],Ext.refl F1,(S1.alloc (.lst (Grow.refl S1.sub) hD .nil)).wipe hc hL,hr⟩,?_⟩
   rintro i m H ⟨rfl,hle,F,ρ',acc,ex,S2,hq⟩
   by_cases hlt:i<ds.length
   ·refine .inr ⟨W.go i F H ex S2.sub hlt,fun H'=>∃F ρ acc,Ext F1 F∧SM C o F H' (L2.wipe σ own) ρ ((.en (.ol acc),.ref D)::T)∧yg own fg ft fe (ds.drop (i+1)) ρ acc=.ok yj ρF,
     fun H' q=>⟨ds.length - (i+1),by omega,rfl,hlt,q⟩,fun x H' y=>?_⟩
    obtain ⟨F',d,hd,gr,dq⟩:=W.yld i F H x H' ex S2.sub hlt y
    have S3:=S2.grow gr
    have ed:ds.drop i=d::ds.drop (i+1):=by
     rw [List.drop_eq_getElem_cons hlt]
     congr 1
     rw [List.getElem?_eq_getElem hlt] at hd
     exact Option.some.inj hd
    rw [ed] at hq
    obtain ⟨ρa,b,ρb,hga,hta,hstep⟩:=Lk hq
    have nb:∀i∈sl,gj ((Val.en (.ol acc),V.ref D)::T) i:=fun k hk j v z=>by
     obtain ⟨_,_,b3⟩:=S3.bor j k v z
     exact b3 (hc k (hs k hk))
    refine hg o F' H' _ ρ' ρa _ d x _ S3 dq nb hga fun σ2 S4 k4 l4=>⟨?_,?_⟩
    ·rw [jE (l4.trans rfl) (fun i hi=>k4 i fun z=>hi (hs i z))]
     exact jE (wipe_length _ _) fun i hi=>wipe_out hi
    ·have wσ:L2.wipe σ2 own=L2.wipe σ own:=by
      rw [jE (l4.trans rfl) (fun i hi=>k4 i fun z=>hi (hs i z))]
      exact jE (wipe_length _ _) fun i hi=>wipe_out hi
     refine ht.ext S4 ?_
     rw [hta]
     intro F5 H5 Ds S5
     rcases hstep with ⟨rfl,hn⟩ | ⟨rfl,d',ρc,hfe,hz,hn⟩
     ·have S6:=S5.wipe hc hL
      rw [wσ] at S6
      exact ⟨F5,_,acc,(ex.trans gr.f).trans Ds,S6,hn⟩
     ·refine (BP he).ext S5 ?_
      rw [hfe]
      intro F6 H6 v ex6 S6
      obtain ⟨vs,hv,hl,S7⟩:=S6.Xw
      refine ⟨vs,hv,by rw [← hl]; exact hz,?_⟩
      have S8:=S7.wipe hc hL
      rw [wσ] at S8
      exact ⟨F6,_,acc++[d'],((ex.trans gr.f).trans Ds).trans ex6,S8,hn⟩
   ·have e:i=ds.length:=by omega
    subst e
    rw [List.drop_length] at hq
    unfold yg at hq
    cases hq
    exact .inl ⟨W.stop F H ex S2.sub,h1 F H _ (SM.putBack S1 S2 hf ex hc hL)⟩
 ·rw [if_neg hf] at h1; exact h1.elim
end
end DM
end
section
namespace DM
open PySem L2
inductive Fl where
 | nx | bk | ct | rt (e:En)
def postS (C:Cs) (o:Og) (D:Ends):Fl→ak→Prop
 | .nx,ρ=>∀F H σ,SM C o F H σ ρ []→D.nx σ H
 | .bk,ρ=>∀F H σ,SM C o F H σ ρ []→D.bk σ H
 | .ct,ρ=>∀F H σ,SM C o F H σ ρ []→D.ct σ H
 | .rt e,ρ=>∀F H σ v,SM C o F H σ ρ [(.en e,v)]→D.rt v H
def yq (C:Cs) (Z:ZX) (o:Og) (x:Ex) (ρ:ak):Prop:=∀F H σ,SM C o F H σ ρ []→Z x F H σ ρ
def cU (C:Cs) (Z:ZX) (ts:TS) (f:ak→R Fl):Prop :=
 ∀(o:Og) (F H:Hp) (σ:L2.St) (ρ:ak) (D:Ends),SM C o F H σ ρ []→lE (f ρ) (postS C o D) (yq C Z o)→ts D σ H
def take (keep:Bool) (a:Val) (ρ:ak):Option (En × ak):=match keep with
 | true=>match a with
  | .en e=>some (e,ρ)
  | .bor i=>match (ρ[i]?).join with
   | some e=>some (e,ρ.set i none)
   | none=>none
 | false=>frz a ρ
def runK (keep:Bool) (f:ak→R Val) (ρ:ak):R En:=(f ρ).bind fun a ρ1=>abG (take keep a ρ1)
where abG:Option (En × ak)→R En
 | some (e,ρ)=>.ok e ρ
 | none=>.bad
section
variable {C:Cs} {Z:ZX}
theorem SM.take {o:Og} {F H:Hp} {σ:L2.St} {ρ ρ':ak} {T:Tm} {a:Val} {v:V} {e:En} {keep:Bool} (S:SM C o F H σ ρ ((a,v)::T)) (hT:∀i,gj T i) (h:DM.take keep a ρ=some (e,ρ')):∃F',SM C o F' H σ ρ' ((.en e,v)::T):=by
 cases keep with
 | false=>exact S.frz h
 | true =>
  cases a with
  | en e0 =>
   have h':some (e0,ρ)=some (e,ρ'):=h
   cases h'
   exact ⟨F,S⟩
  | bor i =>
   replace h:(match (ρ[i]?).join with | some e=>some (e,ρ.set i none) | none=>none)=some (e,ρ'):=h
   cases q:(ρ[i]?).join with
   | none=>rw [q] at h; cases h
   | some e0 =>
    rw [q] at h
    cases h
    exact ⟨F,S.move (join_some q) (hT i)⟩
theorem rK {keep:Bool} {te:TE} {f:ak→R Val} (h:Impl C Z te f) {o:Og} {F H:Hp} {σ:L2.St} {ρ:ak} {T:Tm} {Q:VK} (S:SM C o F H σ ρ T) (hT:∀i,gj T i)
  (q:lE (runK keep f ρ) (fun e ρ'=>∀F' H' v,SM C o F' H' σ ρ' ((.en e,v)::T)→Q v H') (fun x ρ'=>∀F' H',SM C o F' H' σ ρ' T→Z x F' H' σ ρ')):te σ H Q:=by
 unfold runK at q
 rw [aA] at q
 refine h o F H σ ρ T Q S (au q (fun a ρ1 h1 F1 H1 v S1=>?_) fun _ _ h=>h)
 cases z:take keep a ρ1 with
 | none=>rw [z] at h1; exact h1.elim
 | some p =>
  obtain ⟨e,ρ2⟩:=p
  rw [z] at h1
  obtain ⟨F2,S2⟩:=S1.take hT z
  exact h1 F2 H1 v S2
theorem rM {T:Tm} {e:En} {v:V} (h:∀i,gj T i):∀i,gj ((.en e,v)::T) i:=fun i j w z=>by
 cases j with
 | zero=>simp at z
 | succ j=>exact h i j w (by simpa using z)
theorem gD:∀i,gj [] i:=ug
def bV (keep:Bool) (i:Nat) (f:ak→R Val) (ρ:ak):R Fl:=(runK keep f ρ).bind fun e ρ1=>if i<ρ1.length then .ok .nx (ρ1.set i (some e)) else .bad
theorem Ib {keep:Bool} {i:Nat} {te:TE} {f:ak→R Val} (h:Impl C Z te f) (hL:i∉C.L):cU C Z (tAsg te (gName i)) (bV keep i f):=by
 intro o F H σ ρ D S q
 unfold bV at q
 rw [aA] at q
 refine rK h S gD (au q (fun e ρ1 h1 F1 H1 v S1=>?_) fun x ρ' h F' H' s=>h F' H' σ s)
 by_cases hi:i<ρ1.length
 ·rw [if_pos hi] at h1
  exact h1 F1 H1 _ (S1.store (by rw [← S1.len]; exact hi) hL (gD i))
 ·rw [if_neg hi] at h1; exact h1.elim
def vN (t:Tg) (f:ak→R Val) (ρ:ak):R Fl:=(runK false f ρ).bind fun e ρ1=>match e with
 | .fr d=>match cZ t d ρ1 with
  | some ρ2=>.ok .nx ρ2
  | none=>.bad
 | _=>.bad
theorem Cd {t:Tg} {g:TG} {sl:List Nat} {te:TE} {f:ak→R Val} (h:Impl C Z te f) (hg:oh C g sl (cZ t)):cU C Z (tAsg te g) (vN t f):=by
 intro o F H σ ρ D S q
 unfold vN at q
 rw [aA] at q
 refine rK h S gD (au q (fun e ρ1 h1 F1 H1 v S1=>?_) fun x ρ' h F' H' s=>h F' H' σ s)
 cases e with
 | fr d =>
  replace h1:lE (match cZ t d ρ1 with | some ρ2=>R.ok Fl.nx ρ2 | none=>.bad) (postS C o D) (yq C Z o):=h1
  cases z:cZ t d ρ1 with
  | none=>rw [z] at h1; exact h1.elim
  | some ρ2 =>
   rw [z] at h1
   exact hg o F1 H1 σ ρ1 ρ2 [] d v _ S1.drop (S1.look (j:=0) (v:=v) (e:=.fr d) rfl rfl) (fun i _=>gD i) z fun σ' S' _ _=>h1 F1 H1 σ' S'
 | ol _=>exact h1.elim
 | od _ _=>exact h1.elim
 | on _ _=>exact h1.elim
 | cJ _=>exact h1.elim
 | ex _=>exact h1.elim
 | jW _=>exact h1.elim
 | ob _=>exact h1.elim
 | exs _=>exact h1.elim
def rN (k1 k2:Bool) (i j:Nat) (f g:ak→R Val) (ρ:ak):R Fl:=(runK k1 f ρ).bind fun e ρ1=>(runK k2 g ρ1).bind fun e' ρ2=>if i<ρ2.length∧j<ρ2.length then .ok .nx ((ρ2.set i (some e)).set j (some e')) else .bad
theorem SM.swap {o:Og} {F H:Hp} {σ:L2.St} {ρ:ak} {T:Tm} {x y:Val × V} (S:SM C o F H σ ρ (x::y::T)):SM C o F H σ ρ (y::x::T) :=
 S.Vp (fun j=>match j with | 0=>1 | 1=>0 | j=>j) (fun j z h=>by
  match j with
  | 0=>simpa using h
  | 1=>simpa using h
  | j+2=>simpa using h) (fun i j h=>by
  match i,j with
  | 0,0=>rfl
  | 0,1=>simp at h
  | 1,0=>simp at h
  | 1,1=>rfl
  | 0,j+2=>simp at h
  | 1,j+2=>simp at h
  | i+2,0=>simp at h
  | i+2,1=>simp at h
  | i+2,j+2=>exact h)
theorem SM.Ln {o:Og} {F H:Hp} {σ:L2.St} {ρ:ak} {e e':En} {v w:V} {i j:Nat} (S:SM C o F H σ ρ [(.en e',w),(.en e,v)]) (hi:i<ρ.length) (hj:j<ρ.length) (h1:i∉C.L) (h2:j∉C.L) :
  SM C o F H ((σ.set i (some v)).set j (some w)) ((ρ.set i (some e)).set j (some e')) []:=by
 have l:=S.len
 have S1:=S.swap.store (i:=i) (by rw [← l]; exact hi) h1 (rM gD i)
 exact S1.store (by rw [List.length_set,← l]; exact hj) h2 (gD j)
theorem Ie {k1 k2:Bool} {i j:Nat} {ta tb:TE} {f g:ak→R Val} (ha:Impl C Z ta f) (hb:Impl C Z tb g) (hi:i∉C.L) (hj:j∉C.L):cU C Z (tPar i j (tCons ta (tCons tb tNil))) (rN k1 k2 i j f g):=by
 intro o F H σ ρ D S q
 unfold rN at q
 rw [aA] at q
 refine rK ha S gD (au q (fun e ρ1 h1 F1 H1 v S1=>?_) fun x ρ' h F' H' s=>h F' H' σ s)
 rw [aA] at h1
 refine rK hb S1 (rM gD) (au h1 (fun e' ρ2 h2 F2 H2 w S2=>?_) fun x ρ' h F' H' s=>h F' H' σ s.drop)
 by_cases hl:i<ρ2.length∧j<ρ2.length
 ·rw [if_pos hl] at h2
  exact ⟨v,w,rfl,h2 F2 H2 _ (S2.Ln hl.1 hl.2 hi hj)⟩
 ·rw [if_neg hl] at h2; exact h2.elim
def aR (f g:ak→R Fl) (ρ:ak):R Fl:=(f ρ).bind fun fl ρ1=>match fl with
 | .nx=>g ρ1
 | fl=>.ok fl ρ1
theorem Ce {t u:TS} {f g:ak→R Fl} (h1:cU C Z t f) (h2:cU C Z u g):cU C Z (tSeq t u) (aR f g):=by
 intro o F H σ ρ D S q
 unfold aR at q
 rw [aA] at q
 refine h1 o F H σ ρ { D with nx:=u D } S (au q (fun fl ρ1 k=>?_) fun _ _ h=>h)
 cases fl with
 | nx=>exact fun F1 H1 σ1 S1=>h2 o F1 H1 σ1 ρ1 D S1 k
 | bk=>exact k
 | ct=>exact k
 | rt e=>exact k
theorem ux:cU C Z tNext (fun ρ=>.ok .nx ρ):=fun o F H σ ρ D S q=>q F H σ S
theorem Ig:cU C Z tBreak (fun ρ=>.ok .bk ρ):=fun o F H σ ρ D S q=>q F H σ S
theorem Lp {c:TT} {t u:TS} {fc:ak→R Bool} {f g:ak→R Fl} (hc:dB C Z c fc) (h1:cU C Z t f) (h2:cU C Z u g):cU C Z (tIfS c t u) (kJ fc f g):=by
 intro o F H σ ρ D S q
 unfold kJ at q
 rw [aA] at q
 refine hc o F H σ ρ [] _ S (au q (fun b ρ1 k F1 H1 S1=>?_) fun x ρ' h F' H' s=>h F' H' σ s)
 cases b with
 | true=>exact h1 o F1 H1 σ ρ1 D S1 k
 | false=>exact h2 o F1 H1 σ ρ1 D S1 k
def Xx (L:List Nat):Val→Bool
 | .bor i=>!L.contains i
 | _=>true
def cR (L:List Nat) (f:ak→R Val) (ρ:ak):R Fl:=(f ρ).bind fun a ρ1=>match take (Xx L a) a ρ1 with
 | some (e,ρ2)=>.ok (.rt e) ρ2
 | none=>.bad
theorem Ih {te:TE} {f:ak→R Val} (h:Impl C Z te f):cU C Z (tRet te) (cR C.L f):=by
 intro o F H σ ρ D S q
 unfold cR at q
 rw [aA] at q
 refine h o F H σ ρ [] _ S (au q (fun a ρ1 k F1 H1 v S1=>?_) fun x ρ' h F' H' s=>h F' H' σ s)
 cases z:take (Xx C.L a) a ρ1 with
 | none=>rw [z] at k; exact k.elim
 | some p =>
  obtain ⟨e,ρ2⟩:=p
  rw [z] at k
  obtain ⟨F2,S2⟩:=S1.take gD z
  exact k F2 H1 σ v S2
def Dt (f:ak→R Val) (ρ:ak):R Fl:=(f ρ).bind fun _ ρ1=>.ok .nx ρ1
theorem Lq {te:TE} {f:ak→R Val} (h:Impl C Z te f):cU C Z (tDrop te) (Dt f):=by
 intro o F H σ ρ D S q
 unfold Dt at q
 rw [aA] at q
 exact h o F H σ ρ [] _ S (au q (fun a ρ1 k F1 H1 v S1=>k F1 H1 σ S1.drop) fun x ρ' h F' H' s=>h F' H' σ s)
/-! ### loops -/
def yr (fg:D→ak→Option ak) (fb:ak→R Fl):List D→ak→R Fl
 | [],ρ=>.ok .nx ρ
 | d::ds,ρ=>match fg d ρ with
  | none=>.bad
  | some ρ1=>(fb ρ1).bind fun fl ρ2=>match fl with
   | .nx=>yr fg fb ds ρ2
   | .ct=>yr fg fb ds ρ2
   | .bk=>.ok .nx ρ2
   | .rt e=>.ok (.rt e) ρ2
def runFor (fi:ak→R (List D)) (fg:D→ak→Option ak) (fb:ak→R Fl) (ρ:ak):R Fl:=(fi ρ).bind fun ds ρ1=>yr fg fb ds ρ1
theorem cU.ext {t:TS} {f:ak→R Fl} (h:cU C Z t f) {o:Og} {F H:Hp} {σ:L2.St} {ρ:ak} {D:Ends} (S:SM C o F H σ ρ [])
  (q:lE (f ρ) (fun fl ρ'=>match fl with
   | .nx=>∀F' H' σ',Ext F F'→SM C o F' H' σ' ρ' []→D.nx σ' H'
   | .bk=>∀F' H' σ',Ext F F'→SM C o F' H' σ' ρ' []→D.bk σ' H'
   | .ct=>∀F' H' σ',Ext F F'→SM C o F' H' σ' ρ' []→D.ct σ' H'
   | .rt e=>∀F' H' σ' v,Ext F F'→SM C o F' H' σ' ρ' [(.en e,v)]→D.rt v H') (yq C Z o)):t D σ H :=
 h _ F H σ ρ D S.base (au q (fun fl _ k=>by
  cases fl with
  | nx=>exact fun F' H' σ' N=>k F' H' σ' N.ext (S.jy N)
  | bk=>exact fun F' H' σ' N=>k F' H' σ' N.ext (S.jy N)
  | ct=>exact fun F' H' σ' N=>k F' H' σ' N.ext (S.jy N)
  | rt e=>exact fun F' H' σ' v N=>k F' H' σ' v N.ext (S.jy N)) fun _ _ k F' H' σ' N=>k F' H' σ' (S.jy N))
theorem Ii {sl:List Nat} {wi:TI} {g:TG} {tb:TS} {fi:ak→R (List D)} {fg:D→ak→Option ak} {fb:ak→R Fl} (hi:ql C Z wi fi) (hg:oh C g sl fg) (hb:cU C Z tb fb):cU C Z (tFor wi g tb) (runFor fi fg fb):=by
 intro o F H σ ρ D S q
 unfold runFor at q
 rw [aA] at q
 refine hi o F H σ ρ [] _ S (au q (fun ds ρ1 k F1 H1 J S1 W=>?_) fun x ρ' h F' H' s=>h F' H' σ s)
 refine ⟨fun i m σ H=>m=ds.length - i∧i≤ds.length∧∃F ρ,Ext F1 F∧SM C o F H σ ρ []∧lE (yr fg fb (ds.drop i) ρ) (postS C o D) (yq C Z o),⟨ds.length,by simp,Nat.zero_le _,F1,ρ1,Ext.refl F1,S1,k⟩,?_⟩
 rintro i m σ H ⟨rfl,hle,F,ρ',ex,S2,hq⟩
 by_cases hlt:i<ds.length
 ·refine .inr ⟨W.go i F H ex S2.sub hlt,fun σ H=>∃F ρ,Ext F1 F∧SM C o F H σ ρ []∧lE (yr fg fb (ds.drop (i+1)) ρ) (postS C o D) (yq C Z o),fun σ' H' q=>⟨ds.length - (i+1),by omega,rfl,hlt,q⟩,fun x H' y=>?_⟩
  obtain ⟨F',d,hd,gr,dq⟩:=W.yld i F H x H' ex S2.sub hlt y
  have S3:=S2.grow gr
  have ed:ds.drop i=d::ds.drop (i+1):=by
   rw [List.drop_eq_getElem_cons hlt]
   congr 1
   rw [List.getElem?_eq_getElem hlt] at hd
   exact Option.some.inj hd
  rw [ed] at hq
  unfold yr at hq
  cases hga:fg d ρ' with
  | none=>rw [hga] at hq; exact hq.elim
  | some ρa =>
   rw [hga] at hq
   replace hq:lE ((fb ρa).bind fun fl ρ2=>match fl with
    | .nx=>yr fg fb (ds.drop (i+1)) ρ2
    | .ct=>yr fg fb (ds.drop (i+1)) ρ2
    | .bk=>.ok .nx ρ2
    | .rt e=>.ok (.rt e) ρ2) (postS C o D) (yq C Z o):=hq
   rw [aA] at hq
   refine hg o F' H' σ ρ' ρa [] d x _ S3 dq (fun i _=>gD i) hga fun σ4 S4 _ _=>?_
   refine hb.ext S4 (au hq (fun fl ρ5 k5=>?_) fun _ _ h=>h)
   cases fl with
   | nx=>exact fun F5 H5 σ5 Ds S5=>⟨F5,ρ5,(ex.trans gr.f).trans Ds,S5,k5⟩
   | ct=>exact fun F5 H5 σ5 Ds S5=>⟨F5,ρ5,(ex.trans gr.f).trans Ds,S5,k5⟩
   | bk=>exact fun F5 H5 σ5 Ds S5=>k5 F5 H5 σ5 S5
   | rt e=>exact fun F5 H5 σ5 v Ds S5=>k5 F5 H5 σ5 v S5
 ·have e:i=ds.length:=by omega
  subst e
  rw [List.drop_length] at hq
  exact .inl ⟨W.stop F H ex S2.sub,hq F H σ S2⟩
def mD (ρ:ak) (i:Nat):Option (List D):=match (ρ[i]?).join with
 | some (.ol xs)=>some xs
 | _=>none
theorem Ls {ρ:ak} {i:Nat} {xs:List D} (h:mD ρ i=some xs):ρ[i]?=some (some (.ol xs)):=by
 unfold mD at h
 cases q:(ρ[i]?).join with
 | none=>rw [q] at h; cases h
 | some e =>
  rw [q] at h
  cases e with
  | ol ys=>cases h; exact join_some q
  | _=>cases h
theorem SM.aex {o:Og} {F H:Hp} {σ:L2.St} {ρ:ak} {T:Tm} {i:Nat} {e e':En} {a:Addr} {u:HO} (S:SM C o F H σ ρ T) (h1:ρ[i]?=some (some e)) (h2:σ[i]?=some (some (.ref a))) (ho:Ow H e (.ref a) a) (r:Rp C.K F (upd H a u) e' (.ref a)) (hw:∀b,Ow (upd H a u) e' (.ref a) b→b=a) :
  SM C o F (upd H a u) σ (ρ.set i (some e')) T:=by
 have hi:i<ρ.length:=(List.getElem?_eq_some_iff.mp h1).1
 refine S.Vx (w:=.s i) (e:=e) (e':=e') ⟨h1,h2⟩ ho (List.length_set ..) (fun p e1 v1 a1=>?_) (fun k e1 q=>?_) (fun j k v' q=>⟨q,fun ⟨e1,y⟩=>?_⟩) r hw
 ·cases p with
  | s k =>
   obtain ⟨a1,a2⟩:=a1
   by_cases hk:k=i
   ·subst hk
    rw [List.getElem?_set_self hi] at a1
    rw [h2] at a2
    cases a1; cases a2
    exact .inl ⟨rfl,rfl,rfl⟩
   ·rw [List.getElem?_set_ne (Ne.symm hk)] at a1
    exact .inr ⟨fun z=>hk (Wh.s.inj z),a1,a2⟩
  | t j=>exact .inr ⟨(fun z=>by cases z),a1⟩
 ·by_cases hk:k=i
  ·subst hk; exact ⟨_,h1⟩
  ·rw [List.getElem?_set_ne (Ne.symm hk)] at q; exact ⟨_,q⟩
 ·by_cases hk:k=i
  ·subst hk; exact ⟨_,List.getElem?_set_self hi⟩
  ·exact ⟨e1,by rw [List.getElem?_set_ne (Ne.symm hk)]; exact y⟩
theorem SM.abH {o:Og} {F H:Hp} {σ:L2.St} {ρ:ak} {T:Tm} {i:Nat} {xs:List D} (S:SM C o F H σ ρ T) (h:ρ[i]?=some (some (.ol xs))):∃a vs,σ[i]?=some (some (.ref a))∧H a=some (.lst vs)∧aN C.K F xs vs:=by
 obtain ⟨v,hv⟩:=S.has i _ h
 obtain ⟨a,vs,rfl,h2,h3⟩:Rp C.K F H (.ol xs) v:=S.rep (.s i) (.ol xs) v ⟨h,hv⟩
 exact ⟨a,vs,hv,h2,h3⟩
def Lw (x:Nat) (fe fi:ak→R Val) (ρ:ak):R Fl:=(bL fe ρ).bind fun v ρ1=>match (ρ1[x]?).join with
 | none=>.bad
 | some _=>(fi ρ1).bind fun k ρ2=>match v,(look ρ2 k).bind iw,mD ρ2 x with
  | .en (.fr d),some i,some xs=>match ixN xs.length i with
   | some j=>.ok .nx (ρ2.set x (some (.ol (xs.set j d))))
   | none=>.bad
  | _,_,_=>.bad
theorem Du {o:Og} {F H:Hp} {σ:L2.St} {ρ:ak} {T:Tm} {a:Val} {x:V} {i:Int} (S:SM C o F H σ ρ ((a,x)::T)) (h:(look ρ a).bind iw=some i):x=.int i:=by
 cases la:look ρ a with
 | none=>rw [la] at h; cases h
 | some e=>rw [la] at h; exact dG (S.look (j:=0) rfl la) h
end
end DM
end
section
namespace DM
open PySem L2
/-! ### arguments told -/
theorem oA {α β:Type} {P:α→β→Prop} {a:α} {vs:List β} (h:Paired P [a] vs):∃v,vs=[v]∧P a v:=by
 cases h with
 | cons r t=>cases t; exact ⟨_,rfl,r⟩
def Ly {α:Type} (g:En→Option α):List En→Option α
 | [e]=>g e
 | _=>none
theorem oE {α:Type} {g:En→Option α} {es:List En} {x:α} (h:Ly g es=some x):∃e,es=[e]∧g e=some x:=by
 match es,h with
 | [e],h=>exact ⟨e,rfl,h⟩
section
variable {K:PySem.W.Frag}
/-! ### len, abs, int -/
def Xy (e:En):Option Nat:=match e.items with
 | some xs=>some xs.length
 | none=>match stE e with
  | some z=>if z.length≤sizeLine then some z.length else none
  | none=>none
def Ij:List En→Option En:=Ly fun e=>(Xy e).map fun (n:Nat)=>.fr (.int (n:Int))
theorem abI:j7 K (fun xs H Q=>∃x n,xs=[x]∧LenV K x H n∧Q (.int n) H) Ij:=by
 intro F H es vs e Q s r hh q
 obtain ⟨e0,rfl,h⟩:=oE hh
 obtain ⟨x,rfl,rx⟩:=oA r
 cases hn:Xy e0 with
 | none=>rw [hn] at h; cases h
 | some n =>
  rw [hn] at h
  cases h
  refine ⟨x,n,rfl,?_,q _ _ _ (.flat s (mV _))⟩
  unfold Xy at hn
  cases hi:e0.items with
  | some xs =>
   rw [hi] at hn
   cases hn
   obtain ⟨a,us,rfl,h3,h4⟩:=xW s rx hi
   rcases h3 with h3 | h3
   ·exact .inl ⟨us,h3,h4.length⟩
   ·exact .inr ⟨us,h3,h4.length⟩
  | none =>
   rw [hi] at hn
   cases hs:stE e0 with
   | none=>rw [hs] at hn; cases hn
   | some z =>
    rw [hs] at hn
    have e1:=jA rx hs
    subst e1
    by_cases hz:z.length≤sizeLine
    ·simp only [hz,if_true] at hn
     cases hn
     exact ⟨hz,rfl⟩
    ·simp only [hz,if_false] at hn; cases hn
def tR (i:Int):Int:=if i<0 then -i else i
def Cg:List En→Option En:=Ly fun e=>(iw e).map fun i=>.fr (.int (tR i))
theorem abJ:j7 K (fun xs H Q=>∃i,xs=[.int i]∧Q (.int (if i<0 then -i else i)) H) Cg:=by
 intro F H es vs e Q s r hh q
 obtain ⟨e0,rfl,h⟩:=oE hh
 obtain ⟨x,rfl,rx⟩:=oA r
 cases hn:iw e0 with
 | none=>rw [hn] at h; cases h
 | some i =>
  rw [hn] at h
  cases h
  exact ⟨i,by rw [dG rx hn],q _ _ _ (.flat s (mV _))⟩
def abK:List En→Option En:=Ly fun e=>e.items.map .ol
def Xz:List En→Option En:=Ly fun e=>match Hw e with
 | some xs=>⇑(.tup xs)
 | none=>(Bv e).map fun xs=>.fr (.tup xs)
def rO:List D→Option (List Int)
 | []=>some []
 | .int i::ds=>(rO ds).map (i::·)
 | _=>none
@[simp] theorem Ik:∀ns:List Int,rO (ns.map .int)=some ns
 | []=>rfl
 | n::ns=>by
  rw [List.map_cons]
  show (rO (ns.map .int)).map (n::·)=_
  rw [Ik ns]
  rfl
def yt:List D→Option (List Bool)
 | []=>some []
 | .bl i::ds=>(yt ds).map (i::·)
 | _=>none
theorem Dy {F:Hp}:∀{ds:List D} {ns:List Bool} {vs:List V},yt ds=some ns→aN K F ds vs→vs=ns.map V.bl
 | [],ns,vs,h,r=>by cases h; exact r.nil_iff
 | d::ds,ns,vs,h,r=>by
  obtain ⟨v,t,rfl,h1,h2⟩:=r.uncons
  cases d with
  | bl i =>
   have h':(yt ds).map (i::·)=some ns:=h
   cases q:yt ds with
   | none=>rw [q] at h'; cases h'
   | some ms =>
    rw [q] at h'
    cases h'
    have e:v=.bl i:=by simpa only [Dq] using h1
    rw [e,Dy q h2]
    rfl
  | _=>cases h
@[simp] theorem Lz:∀ns:List Bool,yt (ns.map .bl)=some ns
 | []=>rfl
 | n::ns=>by
  rw [List.map_cons]
  show (yt (ns.map .bl)).map (n::·)=_
  rw [Lz ns]
  rfl
def aey:List En→Option En:=Ly fun e=>match Bv e with
 | some xs=>(rO xs).map fun ns=>.fr (.int ns.sum)
 | none=>match Hw e with
  | some xs=>(rO xs).map fun ns=>.fr (.int ns.sum)
  | none=>none
def vO:List En→Option En:=Ly fun e=>match Bv e with
 | some xs=>(yt xs).map fun bs=>.fr (.bl (bs.all id))
 | none=>none
theorem abL:j7 K (rAll K) vO:=by
 intro F H es vs e Q s r hh q
 obtain ⟨e0,rfl,h⟩:=oE hh
 obtain ⟨x,rfl,rx⟩:=oA r
 cases hl:Bv e0 with
 | none=>rw [hl] at h; cases h
 | some xs =>
  rw [hl] at h
  cases hn:yt xs with
  | none=>simp only [hn,Option.map_none,reduceCtorEq] at h
  | some bs =>
   simp only [hn,Option.map_some,Option.some.injEq] at h
   subst h
   obtain ⟨a,us,rfl,h3,h4⟩:=rC s rx hl
   rw [Dy hn h4] at h3
   exact ⟨a,bs,rfl,h3,q _ _ _ (.flat s (fZ _))⟩
def LC:List En→Option En:=Ly fun e=>match iw e with
 | some i=>if i.natAbs.log2<1920 then ⇑(.str (toString i)) else none
 | none=>none
theorem XC:j7 K (fun xs H Q=>∃i,xs=[.int i]∧i.natAbs.log2<1920∧Q (.str (toString i)) H) LC:=by
 intro F H es vs e Q s r hh q
 obtain ⟨e0,rfl,h⟩:=oE hh
 obtain ⟨x,rfl,rx⟩:=oA r
 cases hn:iw e0 with
 | none=>rw [hn] at h; cases h
 | some i =>
  rw [hn] at h
  simp only at h
  by_cases hz:i.natAbs.log2<1920
  ·rw [if_pos hz] at h
   cases h
   exact ⟨i,by rw [dG rx hn],hz,q _ _ _ (.flat s (rB _))⟩
  ·rw [if_neg hz] at h; cases h
/-! ### isinstance -/
def tyE:En→Option String
 | .fr .non=>some "NoneType"
 | .fr (.bl _)=>some "bool"
 | .fr (.int _)=>some "int"
 | .fr (.str _)=>some "str"
 | .fr (.lst _)=>some "list"
 | .fr (.tup _)=>some "tuple"
 | .ol _=>some "list"
 | _=>none
theorem LK {F H:Hp} {e:En} {x:V} {t:String} (s:Ext F H) (r:Rp K F H e x) (h:tyE e=some t):TyX K H x (.type t):=by
 cases e with
 | fr d =>
  cases d with
  | non=>cases h; have r':x=.non:=by simpa only [Rp,Dq] using r
         subst r'; exact .base .non
  | bl b=>cases h; have r':x=.bl b:=by simpa only [Rp,Dq] using r
          subst r'; exact .base (.bl b)
  | int b=>cases h; have r':x=.int b:=by simpa only [Rp,Dq] using r
           subst r'; exact .base (.int b)
  | str b=>cases h; have r':x=.str b:=by simpa only [Rp,Dq] using r
           subst r'; exact .base (.str b)
  | lst k =>
   cases h
   obtain ⟨a,vs,rfl,h1,_⟩:=kW (xs:=k) s r rfl
   exact .base (.lst h1)
  | tup k =>
   cases h
   obtain ⟨a,vs,rfl,h1,_⟩:=mW (xs:=k) r rfl
   rcases s.Di h1 with (h1 | ⟨o,h1⟩) | ⟨o,its,n,h1,h2,_⟩
   ·exact .base (.tup h1)
   ·exact .fTuple h1
   ·exact .kTuple h1 h2
  | dct _ _=>cases h
  | xJ _ _=>cases h
 | ol k =>
  cases h
  obtain ⟨a,vs,rfl,h1,_⟩:=r
  exact .base (.lst h1)
 | od _ _=>cases h
 | on _ _=>cases h
 | cJ _=>cases h
 | ex _=>cases h
 | jW _=>cases h
 | ob _=>cases h
 | exs _=>cases h
def yu (t T:String):Option Bool :=
 if T = "int" then (if t = "int"∨t = "bool" then some true else if t = "NoneType"∨t = "str"∨t = "list"∨t = "tuple" then some false else none)
 else if T = "bool"∨T = "str"∨T = "list"∨T = "tuple" then (if t=T then some true else if t = "int"∨t = "bool"∨t = "NoneType"∨t = "str"∨t = "list"∨t = "tuple" then some false else none)
 else none
theorem XD:∀t∈["NoneType", "bool", "int", "str", "list", "tuple"],∀T∈["int", "bool", "str", "list", "tuple"],kitB t T=yu t T:=by decide +kernel
theorem LQ {t T:String} {b:Bool} (h:yu t T=some b):t∈["NoneType", "bool", "int", "str", "list", "tuple"]∧T∈["int", "bool", "str", "list", "tuple"]:=by
 unfold yu at h
 simp only [List.mem_cons,List.not_mem_nil,or_false]
 split at h
 ·split at h
  ·rename_i h1 h2; exact ⟨by rcases h2 with h2 | h2 <;> simp [h2],.inl h1⟩
  ·split at h
   ·rename_i h1 h2 h3; exact ⟨by rcases h3 with h3 | h3 | h3 | h3 <;> simp [h3],.inl h1⟩
   ·cases h
 ·split at h
  ·split at h
   ·rename_i h1 h2 h3; subst h3; exact ⟨by rcases h2 with h2 | h2 | h2 | h2 <;> simp [h2],.inr h2⟩
   ·split at h
    ·rename_i h1 h2 h3 h4; exact ⟨by rcases h4 with h4 | h4 | h4 | h4 | h4 | h4 <;> simp [h4],.inr h2⟩
    ·cases h
  ·cases h
theorem Vy {t T:String} {b:Bool} (h:yu t T=some b):PySem.W.kitOne K (.type t) (.type T)=some b:=by
 obtain ⟨h1,h2⟩:=LQ h
 exact kit_ty (by rw [XD t h1 T h2,h])
def isAny (t:String):List String→Option Bool
 | []=>some false
 | T::Ts=>match yu t T,isAny t Ts with
  | some a,some b=>some (a || b)
  | _,_=>none
theorem LR {t:String}:∀{Ts:List String} {b:Bool},isAny t Ts=some b→PySem.W.kitAny K (.type t) (Ts.map Value.type)=some b
 | [],b,h=>by cases h; exact kitAny_nil
 | T::Ts,b,h=>by
  unfold isAny at h
  cases h1:yu t T with
  | none=>rw [h1] at h; cases h
  | some a =>
   cases h2:isAny t Ts with
   | none=>rw [h1,h2] at h; cases h
   | some c =>
    rw [h1,h2] at h
    cases h
    refine kitAny_cons (Vy h1) (fun ha=>?_) fun ha=>?_
    ·subst ha; rw [Bool.false_or]; exact LR h2
    ·subst ha; rfl
end
def lg (T:String) (f:ak→R Val) (ρ:ak):R Val:=(f ρ).bind fun a ρ1=>match (look ρ1 a).bind tyE with
 | some t=>o9 ((yu t T).map fun b=>.en (.fr (.bl b))) ρ1
 | none=>.bad
def rP (Ts:List String) (f:ak→R Val) (ρ:ak):R Val:=(f ρ).bind fun a ρ1=>match (look ρ1 a).bind tyE with
 | some t=>o9 ((isAny t Ts).map fun b=>.en (.fr (.bl b))) ρ1
 | none=>.bad
def Tj:List String→TA
 | []=>tNil
 | T::Ts=>tCons (tC (.ty T)) (Tj Ts)
section
variable {C:Cs} {Z:ZX}
theorem dH {α β:Type} {o:Option α} {f:α→Option β} {b:β} (h:o.bind f=some b):∃a,o=some a∧f a=some b:=by
 cases o with
 | none=>cases h
 | some a=>exact ⟨a,rfl,h⟩
theorem Tn {T:String} {te:TE} {f:ak→R Val} (h:Impl C Z te f):Impl C Z (tCB (rIsi C.K) (tCons te (tCons (tC (.ty T)) tNil))) (lg T f):=by
 intro o F H σ ρ TT Q S q
 unfold lg at q
 rw [aA] at q
 refine h o F H σ ρ TT _ S (au q (fun a ρ1 h1 F1 H1 x S1=>?_) fun _ _ h=>h)
 cases z:(look ρ1 a).bind tyE with
 | none=>rw [z] at h1; exact h1.elim
 | some t =>
  rw [z] at h1
  obtain ⟨val,hv,q⟩:=cD h1
  cases hb:yu t T with
  | none=>rw [hb] at hv; cases hv
  | some b =>
   rw [hb] at hv
   cases hv
   obtain ⟨e,he,ht⟩:=dH z
   exact ⟨x,.ty T,.type t,.type T,b,rfl,.ty T,LK S1.sub (S1.look (j:=0) rfl he) ht,Vy hb,q _ _ _ (S1.drop.bf (fZ b))⟩
theorem Dz:∀{Ts:List String} {σ:L2.St} {H:Hp} {Q:List V→Hp→Prop},Q (Ts.map V.ty) H→Tj Ts σ H Q
 | [],_,_,_,h=>h
 | T::Ts,σ,H,Q,h=>Dz (Ts:=Ts) (Q:=fun xs H2=>Q (V.ty T::xs) H2) h
theorem Vz:∀Ts:List String,Paired ClsV (Ts.map V.ty) (Ts.map Value.type)
 | []=>.nil
 | T::Ts=>.cons (.ty T) (Vz Ts)
theorem Ma {Ts:List String} {te:TE} {f:ak→R Val} (h:Impl C Z te f) (hz:Ts.length≤sizeLine):Impl C Z (tCB (rIsiT C.K) (tCons te (tCons (tTup (Tj Ts)) tNil))) (rP Ts f):=by
 intro o F H σ ρ TT Q S q
 unfold rP at q
 rw [aA] at q
 refine h o F H σ ρ TT _ S (au q (fun a ρ1 h1 F1 H1 x S1=>?_) fun _ _ h=>h)
 cases z:(look ρ1 a).bind tyE with
 | none=>rw [z] at h1; exact h1.elim
 | some t =>
  rw [z] at h1
  obtain ⟨val,hv,q⟩:=cD h1
  cases hb:isAny t Ts with
  | none=>rw [hb] at hv; cases hv
  | some b =>
   rw [hb] at hv
   cases hv
   obtain ⟨e,he,ht⟩:=dH z
   refine Dz ⟨by rw [List.length_map]; exact hz,fun p hp=>?_⟩
   have S2:=S1.grow (Grow.junk (o:=.tup (Ts.map V.ty)) S1.sub hp)
   exact ⟨x,p,Ts.map V.ty,.type t,Ts.map Value.type,b,rfl,upd_same,Vz Ts,LK S2.sub (S2.look (j:=0) rfl he) ht,LR hb,q _ _ _ (S2.drop.bf (fZ b))⟩
/-! ### repr -/
def XF:D→Bool
 | .lst _=>true
 | .tup _=>true
 | _=>false
def Mf:List En→Option En:=Ly fun e=>match asD e with
 | some d=>if XF d=true∧(toP d).showable=true∧(toP d).hasDict=false∧(toP d).depth≤100∧(toP d).shown.length≤sizeLine∧(toP d).canLay0=true then ⇑(.str (toP d).shown) else if abv (toP d)=true then ⇑(.str (toP d).shown) else none
 | none=>none
def rQ (ρ:ak):R (Option Int):=.ok none ρ
def lH (f:ak→R Val) (ρ:ak):R (Option Int):=(f ρ).bind fun a ρ1=>match (look ρ1 a).bind iw with
 | some i=>.ok (some i) ρ1
 | none=>.bad
theorem Mg:xR C Z tNoPart rQ:=fun o F H σ ρ T Q S q=>q F H S
theorem Ci {te:TE} {f:ak→R Val} (h:Impl C Z te f):xR C Z (tPart te) (lH f):=by
 intro o F H σ ρ T Q S q
 unfold lH at q
 rw [aA] at q
 refine h o F H σ ρ T _ S (au q (fun a ρ1 h1 F1 H1 x S1=>?_) fun _ _ h=>h)
 cases z:(look ρ1 a).bind iw with
 | none=>rw [z] at h1; exact h1.elim
 | some i=>rw [z] at h1; exact ⟨i,Du S1 z,h1 F1 H1 S1.drop⟩
def cutD {α:Type} (xs:List α) (lo hi:Option Int):List α:=(xs.drop (HT.sIx xs.length 0 lo)).take (HT.sIx xs.length xs.length hi - HT.sIx xs.length 0 lo)
theorem Mh {K:PySem.W.Frag} {F:Hp} {ds:List D} {vs:List V} (h:aN K F ds vs) (lo hi:Option Int):aN K F (cutD ds lo hi) (cutV vs lo hi):=by
 unfold cutD cutV
 rw [h.length]
 exact (h.drop _).take _
def gSl (e:En) (lo hi:Option Int):Option En:=match Hw e with
 | some xs=>⇑(.tup (cutD xs lo hi))
 | none=>(Bv e).map fun xs=>.ol (cutD xs lo hi)
def rSlB (K:PySem.W.Frag):V→Option Int→Option Int→Hp→VK→Prop:=fun x lo hi H Q=>rSlL K x lo hi H Q∨abq K x lo hi H Q
theorem aez {X:Cx}:SlR X (rSlB X.K):=sl_list.or R8
def qC (f:ak→R Val) (fl fh:ak→R (Option Int)) (ρ:ak):R Val:=(f ρ).bind fun a ρ1=>(fl ρ1).bind fun lo ρ2=>(fh ρ2).bind fun hi ρ3=>match look ρ3 a with
 | some e=>o9 ((gSl e lo hi).map .en) ρ3
 | none=>.bad
theorem Tp {te:TE} {tl th:TO} {f:ak→R Val} {fl fh:ak→R (Option Int)} (h:Impl C Z te f) (hl:xR C Z tl fl) (hh:xR C Z th fh):Impl C Z (tSl (rSlB C.K) te tl th) (qC f fl fh):=by
 intro o F H σ ρ T Q S q
 unfold qC at q
 rw [aA] at q
 refine h o F H σ ρ T _ S (au q (fun a ρ1 h1 F1 H1 x S1=>?_) fun _ _ h=>h)
 rw [aA] at h1
 refine hl o F1 H1 σ ρ1 _ _ S1 (au h1 (fun lo ρ2 h2 F2 H2 S2=>?_) fun _ _ h F' H' s=>h F' H' s.drop)
 rw [aA] at h2
 refine hh o F2 H2 σ ρ2 _ _ S2 (au h2 (fun hi ρ3 h3 F3 H3 S3=>?_) fun _ _ h F' H' s=>h F' H' s.drop)
 cases z:look ρ3 a with
 | none=>rw [z] at h3; exact h3.elim
 | some e =>
  rw [z] at h3
  obtain ⟨val,hv,q⟩:=cD h3
  have r:Rp C.K F3 H3 e x:=S3.look (j:=0) rfl z
  unfold gSl at hv
  cases ht:Hw e with
  | some xs =>
   rw [ht] at hv
   cases hv
   obtain ⟨a',us,rfl,k3,k4⟩:=mW r ht
   have kl:=k4.length
   refine .inr ⟨a',us,rfl,S3.sub.Di k3,fun hw=>?_,fun hw ob p nd hp=>?_⟩
   ·have e1:cutD xs lo hi=xs:=by
     unfold cutD
     rw [kl,hw.1,hw.2,List.drop_zero,Nat.sub_zero,← kl,List.take_length]
    rw [e1] at q
    exact q _ _ _ (S3.drop.bf (by simp only [Dq]; exact ⟨a',us,rfl,k3,k4⟩))
   ·exact q _ _ _ (S3.drop.alloc (eV.tup S3.sub nd hp (Mh k4 lo hi)))
  | none =>
   rw [ht] at hv
   cases hr:Bv e with
   | none=>rw [hr] at hv; cases hv
   | some xs =>
    rw [hr] at hv
    cases hv
    obtain ⟨a',us,rfl,k3,k4⟩:=rC S3.sub r hr
    exact .inl ⟨a',us,rfl,k3,fun p hp=>q _ _ _ (S3.drop.alloc (.lst (Grow.refl S3.sub) hp (Mh k4 lo hi)))⟩
def RdS (K:PySem.W.Frag) (r:V→List V→Hp→VK→Prop) (g:List D→List En→Option D):Prop:=∀(F H:Hp) (a:Addr) (vs:List V) (xs:List D) (es:List En) (us:List V) (d:D) (Q:VK),
 Ext F H→SqL K H a vs→aN K F xs vs→Paired (Rp K F H) es us→g xs es=some d→(∀v,Dq K F d v→Q v H)→r (.ref a) us H Q
def Cj (g:List D→List En→Option D) (f:ak→R Val) (fs:ak→R (List Val)) (ρ:ak):R Val:=(f ρ).bind fun a ρ1=>match (look ρ1 a).bind Bv with
 | none=>.bad
 | some _=>(fs ρ1).bind fun as ρ2=>match looks ρ2 as,(look ρ2 a).bind Bv with
  | some es,some xs=>o9 ((g xs es).map fun d=>.en (.fr d)) ρ2
  | _,_=>.bad
theorem Mi {r:V→List V→Hp→VK→Prop} {g:List D→List En→Option D} {te:TE} {f:ak→R Val} {ta:TA} {fs:ak→R (List Val)} (hr:RdS C.K r g) (h:Impl C Z te f) (ha:eX C Z ta fs):Impl C Z (tBM C.K "list" r te ta) (Cj g f fs):=by
 intro o F H σ ρ T Q S q
 unfold Cj at q
 rw [aA] at q
 refine h o F H σ ρ T _ S (au q (fun a ρ1 h1 F1 H1 x S1=>?_) fun _ _ h=>h)
 cases z:(look ρ1 a).bind Bv with
 | none=>rw [z] at h1; exact h1.elim
 | some xs0 =>
  rw [z] at h1
  simp only at h1
  obtain ⟨e0,he0,hr0⟩:=dH z
  obtain ⟨p,us0,rfl,k1,k2⟩:=rC S1.sub (S1.look (j:=0) rfl he0) hr0
  refine ⟨.inl ⟨rfl,us0,k1⟩,?_⟩
  rw [aA] at h1
  refine ha o F1 H1 σ ρ1 _ _ S1 (au h1 (fun as ρ2 k F2 H2 us hl S2=>?_) fun _ _ h F' H' s=>h F' H' s.drop)
  cases h2:looks ρ2 as with
  | none=>rw [h2] at k; exact k.elim
  | some es =>
   cases h3:(look ρ2 a).bind Bv with
   | none=>rw [h2,h3] at k; exact k.elim
   | some xs =>
    rw [h2,h3] at k
    simp only at k
    obtain ⟨val,hv,q⟩:=cD k
    cases hg:g xs es with
    | none=>rw [hg] at hv; cases hv
    | some d =>
     rw [hg] at hv
     cases hv
     obtain ⟨e1,he1,hr1⟩:=dH h3
     have hm:(a,V.ref p)∈stack as us++(a,V.ref p)::T:=List.mem_append_right _ List.mem_cons_self
     obtain ⟨p',us1,ep,k3,k4⟩:=rC S2.sub (S2.xQ hm he1) hr1
     cases ep
     refine hr F2 H2 p us1 xs es us d Q S2.sub k3 k4 (nW S2 hl jc h2) hg fun v rv=>q F2 H2 v ?_
     have S3:SM C o F2 H2 σ ρ2 ((.en (.fr d),v)::(a,V.ref p)::T):=SM.under (stack as us) (S2.bf rv)
     exact SM.under [(a,V.ref p)] S3
end
end DM
end
section
namespace DM
open PySem L2
/-! ### behind a call -/
def entry (F H:Hp) (es:List En) (vs:List V) (L:List Nat):Og:=⟨F,H,fun a=>∃(i:Nat) (e:En) (v:V),es[i]?=some e∧vs[i]?=some v∧Ow H e v a,fun k=>if k∈L then vs[k]? else none⟩
section
variable {C C':Cs} {o:Og} {F H F' H':Hp} {σ σ':L2.St} {ρ ρ' ρ2:ak} {TT A T:Tm} {es:List En} {vs:List V} {L:List Nat} {e:En} {v:V} {wh:Nat→Wh}
open Classical in
noncomputable def rR (wh:Nat→Wh) (n k:Nat):Wh ⊕ Wh:=if h:∃j,j<n∧wh j=.s k then .inl (.s h.choose) else .inr (.s k)
noncomputable def jd (wh:Nat→Wh) (n a:Nat):Wh→Wh ⊕ Wh
 | .t 0=>.inl (.t 0)
 | .t (j+1)=>.inr (.t (a+j))
 | .s k=>rR wh n k
theorem uz {n k:Nat} (h:∃j,j<n∧wh j=.s k):∃j,j<n∧wh j=.s k∧rR wh n k=.inl (.s j) :=
 ⟨h.choose,h.choose_spec.1,h.choose_spec.2,dif_pos h⟩
theorem yw {n k:Nat} (h:¬∃j,j<n∧wh j=.s k):rR wh n k=.inr (.s k):=dif_neg h
theorem oF (wh:Nat→Wh) (n k:Nat):(∃j,j<n∧wh j=.s k∧rR wh n k=.inl (.s j))∨rR wh n k=.inr (.s k):=by
 by_cases h:∃j,j<n∧wh j=.s k
 ·exact .inl (uz h)
 ·exact .inr (yw h)
theorem uD {n a:Nat} {p q:Wh} (h:jd wh n a p=jd wh n a q):p=q:=by
 rcases p with k | i <;> rcases q with l | j
 ·have h':rR wh n k=rR wh n l:=h
  rcases oF wh n k with ⟨i,_,i2,i3⟩ | i3 <;> rcases oF wh n l with ⟨j,_,j2,j3⟩ | j3 <;> rw [i3,j3] at h'
  ·simp only [Sum.inl.injEq,Wh.s.injEq] at h'
   rw [← i2,← j2,h']
  ·simp at h'
  ·simp at h'
  ·simpa using h'
 ·exfalso
  rcases oF wh n k with ⟨i,_,i2,i3⟩ | i3
  ·have h':Sum.inl (.s i)=jd wh n a (.t j):=i3.symm.trans h
   cases j <;> simp [jd] at h'
  ·have h':Sum.inr (.s k)=jd wh n a (.t j):=i3.symm.trans h
   cases j <;> simp [jd] at h'
 ·exfalso
  rcases oF wh n l with ⟨k,_,i2,i3⟩ | i3
  ·have h':jd wh n a (.t i)=Sum.inl (.s k):=h.trans i3
   cases i <;> simp [jd] at h'
  ·have h':jd wh n a (.t i)=Sum.inr (.s l):=h.trans i3
   cases i <;> simp [jd] at h'
 ·cases i <;> cases j <;> simp [jd] at h ⊢
  omega
theorem Rp.away {K:PySem.W.Frag} {e:En} {v:V} (f:Ext F F') (h:∀a u,Ow H e v a→H a=some u→H' a=some u) (r:Rp K F H e v):Rp K F' H' e v:=by
 cases e with
 | fr d=>exact Dq.mono f d v r
 | ol ds=>obtain ⟨a,us,h1,h2,h3⟩:=r; exact ⟨a,us,h1,h a _ h1 h2,aN.mono f _ _ h3⟩
 | od ks ds=>obtain ⟨a,us,vs,h1,h2,h4,h3⟩:=r; exact ⟨a,us,vs,h1,h2.mono fun u q=>h a u h1 q,aN.mono f _ _ h4,aN.mono f _ _ h3⟩
 | on ks ds=>obtain ⟨a,us,vs,h1,h2,h4,h3⟩:=r; exact ⟨a,us,vs,h1,h2.mono fun u q=>h a u h1 q,aN.mono f _ _ h4,aN.mono f _ _ h3⟩
 | cJ ds=>obtain ⟨a,us,h1,h2,h3⟩:=r; exact ⟨a,us,h1,f.BK h2,aN.mono f _ _ h3⟩
 | ex x=>exact Kz.mono f r
 | jW its =>
  obtain ⟨p,vs,h1,h2,h3,h4,h5,h6⟩:=r
  refine ⟨p,vs,h1,h p _ ⟨p,_,h1,h2,.inl rfl⟩ h2,h3,fun i x y e1 e2=>(h4 i x y e1 e2).mono f ?_,h5,h6⟩
  rintro b z ⟨⟨xs,rfl⟩,rfl⟩ hz
  exact h b _ ⟨p,_,h1,h2,.inr ⟨i,xs,e1,e2⟩⟩ hz
 | ob fs =>
  obtain ⟨p,dx,gs,h1,h2,h3,h4,h5,h6⟩:=r
  refine ⟨p,dx,gs,h1,h p _ ⟨p,_,_,_,h1,h2,.inl rfl⟩ h2,h dx _ ⟨p,_,_,_,h1,h2,.inr (.inl rfl)⟩ h3,h4,fun i x y e1 e2=>(h5 i x y e1 e2).mono f ?_,h6⟩
  rintro b z ⟨⟨xs,rfl⟩,rfl⟩ hz
  exact h b _ ⟨p,_,_,_,h1,h2,.inr (.inr ⟨i,xs,e1,e2⟩)⟩ hz
 | exs xs=>obtain ⟨a,us,h1,h2,h3,h4⟩:=r; exact ⟨a,us,h1,f _ _ h2,h3,fun i x y e1 e2=>(h4 i x y e1 e2).mono f⟩
theorem SM.call (S:SM C o F H σ ρ (A++T)) (hat:∀(j:Nat) (e:En) (v:V),es[j]?=some e→vs[j]?=some v→At σ ρ (A++T) (wh j) e v) (hn:es.length=vs.length) (inj:∀i j,i<es.length→j<es.length→wh i=wh j→i=j)
  (low:∀(j q:Nat),j<es.length→wh j=.t q→q<A.length) (hK:C'.K=C.K) (N:SM C' (entry F H es vs L) F' H' σ' ρ' [(.en e,v)]) (hlen:ρ2.length=ρ.length)
  (hs:∀(k:Nat) (u:En),ρ2[k]?=some (some u)→(∃(j:Nat),j<es.length∧wh j=.s k∧j∈L∧ρ'[j]?=some (some u))∨((∀j,j<es.length→wh j≠.s k)∧ρ[k]?=some (some u)))
  (hb:∀(j i:Nat) (v:V),T[j]?=some (.bor i,v)→∃u,ρ2[i]?=some (some u)):SM C o F' H' σ ρ2 ((.en e,v)::T):=by
 have atS:∀{k:Nat} {u:En},ρ[k]?=some (some u)→∃x,σ[k]?=some (some x):=fun h=>S.has _ _ h
 have key:∀(p:Wh) (u:En) (x:V),At σ ρ2 ((.en e,v)::T) p u x→(∃q,At σ' ρ' [(.en e,v)] q u x∧jd wh es.length A.length p=.inl q) ∨
   (∃q,At σ ρ (A++T) q u x∧(∀j,j<es.length→wh j≠q)∧jd wh es.length A.length p=.inr q):=fun p u x a=>by
  cases p with
  | t j =>
   cases j with
   | zero=>exact .inl ⟨.t 0,a,rfl⟩
   | succ j =>
    refine .inr ⟨.t (A.length+j),?_,fun i hi z=>?_,rfl⟩
    ·show (A++T)[A.length+j]?=_
     rw [List.getElem?_append_right (by omega),Nat.add_sub_cancel_left]
     exact a
    ·have:=low i _ hi z
     omega
  | s k =>
   obtain ⟨a1,a2⟩:=a
   by_cases h:∃j,j<es.length∧wh j=.s k
   ·left
    obtain ⟨jj,hj1,hj2,hj3⟩:=uz h
    refine ⟨.s jj,?_,hj3⟩
    rcases hs k u a1 with ⟨j,j1,j2,j3,j4⟩ | ⟨j1,_⟩
    ·have ej:jj=j:=inj _ _ hj1 j1 (hj2.trans j2.symm)
     rw [ej]
     obtain ⟨w,hw⟩:∃w,vs[j]?=some w:=⟨vs[j]'(by omega),List.getElem?_eq_getElem (by omega)⟩
     obtain ⟨f,hf⟩:∃f,es[j]?=some f:=⟨es[j]'(by omega),List.getElem?_eq_getElem (by omega)⟩
     have t:=hat j f w hf hw
     rw [j2] at t
     have ew:w=x:=by
      have z:=t.2
      rw [a2] at z
      cases z; rfl
     have l:=N.lk j w (by show (if j∈L then vs[j]? else none)=some w; rw [if_pos j3]; exact hw)
     rw [ew] at l
     exact ⟨j4,l⟩
    ·exact absurd hj2 (j1 _ hj1)
   ·right
    refine ⟨.s k,?_,fun j hj z=>h ⟨j,hj,z⟩,yw h⟩
    rcases hs k u a1 with ⟨j,j1,j2,_⟩ | ⟨_,j2⟩
    ·exact absurd ⟨j,j1,j2⟩ h
    ·exact ⟨j2,a2⟩
 have abN:∀{a:Addr},(entry F H es vs L).O a→∃(j:Nat) (f:En) (w:V),j<es.length∧At σ ρ (A++T) (wh j) f w∧Ow H f w a:=fun ⟨j,f,w,h1,h2,h3⟩=>⟨j,f,w,(List.getElem?_eq_some_iff.mp h1).1,hat j f w h1 h2,h3⟩
 have Mj:∀{q:Wh} {u:En} {x:V} {a:Addr},At σ ρ (A++T) q u x→(∀j,j<es.length→wh j≠q)→Ow H u x a→¬(entry F H es vs L).O a:=fun {q u x a} h1 h2 w z=>by
  obtain ⟨j,f,y,j1,j2,j3⟩:=abN z
  exact S.sep (wh j) q f u y x a (h2 j j1) j2 h1 j3 w
 have st:∀{q:Wh} {u:En} {x:V},At σ ρ (A++T) q u x→(∀j,j<es.length→wh j≠q)→∀a,Ow H' u x a↔Ow H u x a:=fun {q u x} h1 h2 a=>Ow.stay (S.rep q u x h1) fun b y w hy=>N.keep b y (Mj h1 h2 w) hy
 have hbase:∀{a:Addr},(entry F H es vs L).O a∨H a=none→o.O a∨o.H a=none:=fun {a} h=>by
  rcases h with h | h
  ·obtain ⟨j,f,y,_,j2,j3⟩:=abN h
   exact (S.own _ _ _ _ j2 j3).2
  ·by_cases z:o.O a
   ·exact .inl z
   ·right
    cases q:o.H a with
    | none=>rfl
    | some u=>rw [S.keep a u z q] at h; cases h
 refine ⟨N.sub,by rw [hlen]; exact S.len,fun i u h=>?_,fun p u x a=>?_,fun j i x h=>?_,fun p q u u' x x' a ne h1 h2 w1 w2=>?_,fun p u x a h w=>?_,S.ext.trans N.ext,fun b u h1 h2=>?_,fun b h1 h2=>?_,S.lk,S.qJ,S.pt⟩
 ·rcases hs i u h with ⟨j,j1,j2,_⟩ | ⟨_,h'⟩
  ·obtain ⟨w,hw⟩:∃w,vs[j]?=some w:=⟨vs[j]'(by omega),List.getElem?_eq_getElem (by omega)⟩
   obtain ⟨f,hf⟩:∃f,es[j]?=some f:=⟨es[j]'(by omega),List.getElem?_eq_getElem (by omega)⟩
   have t:=hat j f w hf hw
   rw [j2] at t
   exact ⟨w,t.2⟩
  ·exact S.has i u h'
 ·rcases key p u x a with ⟨q,h,_⟩ | ⟨q,h,nq,_⟩
  ·rw [← hK]; exact N.rep q u x h
  ·refine (S.rep q u x h).away N.ext fun b y w hy=>N.keep b y (Mj h nq w) hy
 ·cases j with
  | zero=>simp at h
  | succ j =>
   have h':T[j]?=some (.bor i,x):=by simpa using h
   have h2:(A++T)[A.length+j]?=some (.bor i,x):=by rw [List.getElem?_append_right (by omega),Nat.add_sub_cancel_left]; exact h'
   obtain ⟨b1,_,b3⟩:=S.bor _ i x h2
   exact ⟨b1,hb j i x h',b3⟩
 ·rcases key p u x h1 with ⟨q1,k1,c1⟩ | ⟨q1,k1,n1,c1⟩ <;> rcases key q u' x' h2 with ⟨q2,k2,c2⟩ | ⟨q2,k2,n2,c2⟩
  ·exact N.sep q1 q2 u u' x x' a (fun z=>ne (uD (wh:=wh) (n:=es.length) (a:=A.length) (by rw [c1,c2,z]))) k1 k2 w1 w2
  ·have w2:=(st k2 n2 a).mp w2
   obtain ⟨y,hy⟩:=(S.rep q2 u' x' k2).at w2
   rcases (N.own q1 u x a k1 w1).2 with z | z
   ·exact Mj k2 n2 w2 z
   ·have z':H a=none:=z
    rw [z'] at hy; cases hy
  ·have w1:=(st k1 n1 a).mp w1
   obtain ⟨y,hy⟩:=(S.rep q1 u x k1).at w1
   rcases (N.own q2 u' x' a k2 w2).2 with z | z
   ·exact Mj k1 n1 w1 z
   ·have z':H a=none:=z
    rw [z'] at hy; cases hy
  ·exact S.sep q1 q2 u u' x x' a (fun z=>ne (uD (wh:=wh) (n:=es.length) (a:=A.length) (by rw [c1,c2,z]))) k1 k2 ((st k1 n1 a).mp w1) ((st k2 n2 a).mp w2)
 ·rcases key p u x h with ⟨q,k,_⟩ | ⟨q,k,nq,_⟩
  ·obtain ⟨o1,o2⟩:=N.own q u x a k w
   exact ⟨o1,hbase o2⟩
  ·have w:=(st k nq a).mp w
   obtain ⟨o1,o2⟩:=S.own q u x a k w
   refine ⟨?_,o2⟩
   cases z:F' a with
   | none=>rfl
   | some y =>
    rcases N.new a o1 (by rw [z]; simp) with z2 | z2
    ·exact absurd z2 (Mj k nq w)
    ·obtain ⟨y',hy⟩:=(S.rep q u x k).at w
     have z':H a=none:=z2
     rw [z'] at hy; cases hy
 ·refine N.keep b u (fun z=>?_) (S.keep b u h1 h2)
  rcases hbase (.inl z) with z | z
  ·exact h1 z
  ·rw [z] at h2; cases h2
 ·cases z:F b with
  | none=>exact hbase (N.new b z h2)
  | some y=>exact S.new b h1 (by rw [z]; simp)
end
end DM
end
section
namespace DM
open PySem PySem.Spec PyProof.Rows L2
/-! ### a def -/
def vP (N:Nat) (es:List En):ak:=es.map some++List.replicate (N - es.length) none
def gG (N:Nat) (body:ak→R Fl) (es:List En):R En:=(body (vP N es)).bind fun fl ρ=>match fl with
 | .nx=>.ok (.fr .non) ρ
 | .rt e=>.ok e ρ
 | _=>.bad
abbrev cG:=Ex→Value→Option Addr→Hp→Hp→Prop
def ZW (XR:cG) (W:WX):ZX:=fun x F H σ _=>∀cls d,XR x cls d F H→W cls d σ H
def abO (H:Hp) (es:List En) (vs:List V):Prop:=∀(i j:Nat) (e e':En) (v v':V) (a:Addr),i≠j→es[i]?=some e→vs[i]?=some v→es[j]?=some e'→vs[j]?=some v'→Ow H e v a→¬Ow H e' v' a
def nM (K:PySem.W.Frag) (np:Nat) (L cs:List Nat) (XR:cG) (run:List En→R En):Sp:=fun vs H Q E =>
 vs.length=np∧∃(F:Hp) (es:List En),Ext F H∧Paired (Rp K F H) es vs∧abO H es vs∧(∀(i:Nat) (e:En) (v:V) (a:Addr),es[i]?=some e→vs[i]?=some v→Ow H e v a→F a=none) ∧
  lE (run es) (fun e ρ'=>∀F' H' σ' v,SM ⟨K,L,cs,none⟩ (entry F H es vs L) F' H' σ' ρ' [(.en e,v)]→Q v H')
   (fun x ρ'=>∀F' H' σ' cls d,SM ⟨K,L,cs,none⟩ (entry F H es vs L) F' H' σ' ρ' []→XR x cls d F' H'→E cls d H')
section
variable {K:PySem.W.Frag} {L cs:List Nat}
theorem paired_get {α β:Type} {P:α→β→Prop}:∀{as:List α} {bs:List β},Paired P as bs→∀{i:Nat} {a:α} {b:β},as[i]?=some a→bs[i]?=some b→P a b
 | _,_,.nil,i,a,b,h,_=>by simp at h
 | _,_,.cons r t,0,a,b,h1,h2=>by
  simp at h1 h2
  subst h1 h2
  exact r
 | _,_,.cons r t,i+1,a,b,h1,h2=>paired_get t (i:=i) (by simpa using h1) (by simpa using h2)
theorem je {N:Nat} {es:List En} {i:Nat} {e:En} (h:(vP N es)[i]?=some (some e)):es[i]?=some e:=by
 unfold vP at h
 by_cases hi:i<es.length
 ·rw [List.getElem?_append_left (by simpa using hi),List.getElem?_map] at h
  cases q:es[i]? with
  | none=>rw [q] at h; cases h
  | some x=>rw [q] at h; cases h; rfl
 ·rw [List.getElem?_append_right (by simpa using hi),List.getElem?_replicate] at h
  split at h <;> cases h
theorem d7 {N:List Str} {vs:List V} {i:Nat} {v:V}:(start N vs)[i]?=some (some v)↔vs[i]?=some v:=by
 unfold L2.start
 by_cases hi:i<vs.length
 ·rw [List.getElem?_append_left (by simpa using hi),List.getElem?_map]
  cases q:vs[i]? with
  | none=>simp
  | some x=>simp
 ·rw [List.getElem?_append_right (by simpa using hi),List.getElem?_replicate]
  have:vs[i]?=none:=List.getElem?_eq_none (by omega)
  rw [this]
  constructor
  ·intro h; split at h <;> cases h
  ·intro h; cases h
theorem SM.start {N:List Str} {F H:Hp} {es:List En} {vs:List V} (s:Ext F H) (hp:Paired (Rp K F H) es vs) (hs:abO H es vs) (hf:∀(i:Nat) (e:En) (v:V) (a:Addr),es[i]?=some e→vs[i]?=some v→Ow H e v a→F a=none) :
  SM ⟨K,L,cs,none⟩ (entry F H es vs L) F H (L2.start N vs) (vP N.length es) [] where
 sub:=s
 len:=by
  unfold vP L2.start
  rw [List.length_append,List.length_append,List.length_map,List.length_map,List.length_replicate,List.length_replicate,hp.length]
 has:=fun i e h=>by
  have h1:=je h
  obtain ⟨hi,_⟩:=List.getElem?_eq_some_iff.mp h1
  have hi':i<vs.length:=by rw [← hp.length]; exact hi
  exact ⟨vs[i],d7.mpr (List.getElem?_eq_getElem hi')⟩
 rep:=fun p e v a=>by
  cases p with
  | s i=>exact paired_get hp (je a.1) (d7.mp a.2)
  | t j=>have a':([]:Tm)[j]?=some (.en e,v):=a; simp at a'
 bor:=fun j i v h=>by simp at h
 sep:=fun p q e e' v v' a ne h1 h2=>by
  cases p with
  | t j=>have a':([]:Tm)[j]?=some (.en e,v):=h1; simp at a'
  | s i =>
   cases q with
   | t j=>have a':([]:Tm)[j]?=some (.en e',v'):=h2; simp at a'
   | s j=>exact hs i j e e' v v' a (fun z=>ne (by rw [z])) (je h1.1) (d7.mp h1.2) (je h2.1) (d7.mp h2.2)
 own:=fun p e v a h w=>by
  cases p with
  | t j=>have a':([]:Tm)[j]?=some (.en e,v):=h; simp at a'
  | s i=>exact ⟨hf i e v a (je h.1) (d7.mp h.2) w,.inl ⟨i,e,v,je h.1,d7.mp h.2,w⟩⟩
 ext:=Ext.refl F
 keep:=fun _ _ _ h=>h
 new:=fun _ h1 h2=>absurd h1 h2
 lk:=fun i v h=>by
  have h':(if i∈L then vs[i]? else none)=some v:=h
  split at h'
  ·exact d7.mpr h'
  ·cases h'
 qJ:=fun i h=>if_neg h
 pt:=fun i h=>by cases h
structure mH (P:Program) (w:World) (K:PySem.W.Frag) (mg:Str→Option Value) (base:Heap) (k:Nat) (f:Addr) (fd:FuncData) (ps:List Str) (sp:Sp):Prop where
 len:∀vs H Q E,sp vs H Q E→vs.length=ps.length
 run:∀(A:Around) (outer:List Env) (s:Shared) (H:Hp) (args:Args) (us:List Value) (vs:List V) (Q:VK) (E:XK),Room k A→A.guards=some []→Env0 P w K mg base A outer s H→BindsTo s fd args (ps.zip us)→Vals vs us→sp vs H Q E →
  codeAny (model P w) A (.call (.ref f) args) (CR (L2.CX P w) outer P w H s Q E) s
variable {P:Program} {w:World} {mg:Str→Option Value} {base:Heap}
theorem Tq {k:Nat} {f:Addr} {name qual:Str} {params:Arguments} {body:List Stmt} {scope:Scope} {dV kV doc pm cdv ct oc:Value} {an od:Option Addr} {osl:Array (Option Value)} {N ps:List Str} {sp:Sp}
  (lk:K.lookup f=some ⟨oc,od,.func (PySem.W.fnOf name qual params body scope dV kV doc pm an cdv ct),osl⟩) (hcode:PySem.W.codeIn K cdv qual=true) (sc:FnScope N ps scope) (hlen:∀vs H Q E,sp vs H Q E→vs.length=ps.length)
  (hbody:∀(A:Around) (outer:List Env) (s:Shared) (H:Hp) (vs:List V) (Q:VK) (E:XK),Room k (A.deeper (envOfC qual scope s.heap.objs.size f cdv))→A.guards=some []→sp vs H Q E →
   ∃t,PSs (cxOf (L2.CX P w) P w K mg base N qual scope f cdv A outer s H E) body t∧t { nx:=fun _ H'=>Q .non H',rt:=Q } (L2.start N vs) H):mH P w K mg base (k+1) f (PySem.W.fnOf name qual params body scope dV kV doc pm an cdv ct) ps sp:=by
 refine ⟨hlen,fun A outer s H args us vs Q E room hgd env0 bd rel hsp=>?_⟩
 have hln:=hlen _ _ _ _ hsp
 have kin:K.In s.heap:=env0.mod.kin.keeps fun b u e=>(env0.bs b u e).1
 have abP:s.heap.NoLimit:=env0.mod.nolimit.keeps fun b u e=>(env0.bs b u e).1
 have kinds:∀y∈ps.zip us,scope.names.lookup y.1=some .local∨(scope.names.lookup y.1=some .cell∧((cellsFrom (s.heap.objs.size+1) scope.names []).lookup y.1).isSome=true):=by
  rintro ⟨n,u⟩ hy
  rcases sc.par n (List.of_mem_zip hy).1 with h | h
  ·exact .inl h
  ·exact .inr ⟨h,PySem.W.cellsFrom_some _ _ _ (.inl h)⟩
 refine codeAny_call_function room.depth (kin _ _ lk) rfl sc.co sc.gen rfl (PySem.W.codeRec_of kin hcode) (bd _ _ _ _ ?_)
 refine wpAny_newFunctionEnv_cells sc.kind kinds fun env henv s1 inn=>?_
 subst henv
 refine ⟨abP.keeps inn.toInCall.keep,codeAny_func ?_⟩
 obtain ⟨t,ht,hq⟩:=hbody A outer s H vs Q E (room.deeper _) hgd hsp
 have begun:Inv (cxOf (L2.CX P w) P w K mg base N qual scope f cdv A outer s H E) [] (L2.start N vs) H s1:=inv_start sc room.hd env0 hln rel inn
 refine wpAny_mono (ht.run [] s1 (L2.start N vs) H _ begun hq) (fun flow s' hs=>?_) fun er s' hx=>hx
 have done:∀{σ':L2.St} {H':Hp} {v:V} {u:Value},Inv (cxOf (L2.CX P w) P w K mg base N qual scope f cdv A outer s H E) [] σ' H' s'→L2.RelV v u→Q v H'→CE outer P w H s Q u s' :=
  fun {σ' H' v u} J rv q=>⟨v,H',J.os,J.bare,J.base,J.hok,rv,q⟩
 cases flow with
 | next =>
  obtain ⟨σ',H',J,q⟩:=hs
  exact done (v:=V.non) (u:=Value.none) J rfl q
 | brk =>
  obtain ⟨_,_,_,q⟩:=hs
  exact q.elim
 | cont =>
  obtain ⟨_,_,_,q⟩:=hs
  exact q.elim
 | ret u =>
  obtain ⟨v,σ',H',J,rv,q⟩:=hs
  exact done J rv q
theorem XH {x qual:Str} {st:Stmt} {f:Addr} {fd:FuncData} {N ps:List Str} {k:Nat} {sp:Sp} (fn:Fun K x qual st f fd) (sc:FnScope N ps (defScope st)) (hlen:∀vs H Q E,sp vs H Q E→vs.length=ps.length)
  (hbody:∀(cdv:Value) (A:Around) (outer:List Env) (s:Shared) (H:Hp) (vs:List V) (Q:VK) (E:XK),Room k (A.deeper (envOfC qual (defScope st) s.heap.objs.size f cdv))→A.guards=some []→sp vs H Q E →
   ∃t,PSs (cxOf (L2.CX P w) P w K mg base N qual (defScope st) f cdv A outer s H E) (defBody st) t∧t { nx:=fun _ H'=>Q .non H',rt:=Q } (L2.start N vs) H):mH P w K mg base (k+1) f fd ps sp:=by
 obtain ⟨oc,od,kV,doc,pm,an,cdv,ct,osl,rfl,lk,hcode⟩:=fn.ex
 exact Tq lk hcode sc hlen fun A outer s H vs Q E=>hbody cdv A outer s H vs Q E
theorem XJ {x qual:Str} {st:Stmt} {f:Addr} {fd:FuncData} {N ps:List Str} {k:Nat} {XR:cG} {body:ak→R Fl} (fn:Fun K x qual st f fd) (sc:FnScope N ps (defScope st))
  (hbody:∀(cdv:Value) (A:Around) (outer:List Env) (s:Shared) (H:Hp) (E:XK),Room k (A.deeper (envOfC qual (defScope st) s.heap.objs.size f cdv))→A.guards=some [] →
   ∃t,PSs (cxOf (L2.CX P w) P w K mg base N qual (defScope st) f cdv A outer s H E) (defBody st) t∧cU ⟨K,L,cs,none⟩ (ZW XR fun cls d _ H=>E cls d H) t body) :
  mH P w K mg base (k+1) f fd ps (nM K ps.length L cs XR (gG N.length body)):=by
 refine XH fn sc (fun vs H Q E h=>h.1) fun cdv A outer s H vs Q E hr hg hsp=>?_
 obtain ⟨t,ht,hi⟩:=hbody cdv A outer s H E hr hg
 obtain ⟨hl,F,es,s1,hp,hs,hf,hw⟩:=hsp
 refine ⟨t,ht,hi _ F H _ _ _ (SM.start s1 hp hs hf) ?_⟩
 unfold gG at hw
 rw [aA] at hw
 refine au hw (fun fl ρ h=>?_) fun x ρ h F' H' σ' S cls d xr=>h F' H' σ' cls d S xr
 cases fl with
 | nx=>exact fun F' H' σ' S=>h F' H' σ' _ (S.bf BR)
 | bk=>exact h.elim
 | ct=>exact h.elim
 | rt e=>exact fun F' H' σ' v S=>h F' H' σ' v S
/-! ### a call -/
def cV {α:Type} (d:α) (perm:List Nat) (xs:List α):List α:=perm.map fun i=>xs.getD i d
structure aW (fd:FuncData) (ps ks:List Str) (n:Nat) (perm:List Nat):Prop where
 to:∀us ws:List Value,us.length=n→ws.length=ks.length→bindArgs fd ⟨us,ks.zip ws⟩=pure (ps.zip (cV .none perm (us++ws)))
def Ck (n m:Nat) (sp:Sp) (perm:List Nat) (E:L2.St→XK) (t tk:TA):TE:=fun σ H Q=>t σ H fun vs H1=>tk σ H1 fun zs H2=>vs.length=n∧zs.length=m∧sp (cV .non perm (vs++zs)) H2 Q (E σ)
theorem lJ {vs:List V} {us:List Value} (r:Vals vs us):∀perm:List Nat,Vals (cV .non perm vs) (cV .none perm us)
 | []=>.nil
 | i::perm=>by
  refine .cons ?_ (lJ r perm)
  cases q:vs[i]? with
  | none =>
   have q2:us[i]?=none:=by
    rw [List.getElem?_eq_none_iff] at q ⊢
    rw [← r.length]; exact q
   show L2.RelV (vs.getD i .non) (us.getD i .none)
   rw [List.getD_eq_getElem?_getD,List.getD_eq_getElem?_getD,q,q2]
   exact rfl
  | some v =>
   obtain ⟨u,hu,ru⟩:=r.get q
   show L2.RelV (vs.getD i .non) (us.getD i .none)
   rw [List.getD_eq_getElem?_getD,List.getD_eq_getElem?_getD,q,hu]
   exact ru
variable {X:Cx} {k:Nat} {f:Addr} {fd:FuncData} {ps ks:List Str} {sp:Sp} {E:L2.St→XK} {x:Str} {p pos:Pos} {e:Expr} {es:List Expr} {kws:List Keyword} {t tk:TA} {n:Nat} {perm:List Nat}
theorem aeA {pins:List (Addr × Obj)} {σ:L2.St} {H:Hp} {s:Shared} {Q:VK} {us ws:List Value} {vs zs:List V} (fn:mH X.prog X.w X.K X.mg X.base k f fd ps sp) (hr:Room k X.A) (hg:X.A.guards=some []) (hb:aW fd ps ks n perm) (hx:∀σ,PassesAt (L2.CX X.prog X.w) X σ (E σ))
  (I:Inv X pins σ H s) (r:Vals vs us) (rz:Vals zs ws) (h:vs.length=n∧zs.length=ks.length∧sp (cV .non perm (vs++zs)) H Q (E σ)):wpAny (model X.prog X.w) X.A (call (.ref f) us (ks.zip ws)) (EP X pins σ Q) X.xe s:=by
 obtain ⟨h1,h2,h3⟩:=h
 refine wpAny_call (codeAny_mono (fn.run X.A X.stack s H ⟨us,ks.zip ws⟩ _ _ Q (E σ) hr hg I.env0 (.of_eq (hb.to us ws (by rw [← r.length]; exact h1) (by rw [← rz.length]; exact h2))) (lJ (r.append rz) perm) h3) fun res s' hq=>?_)
 match res,hq with
 | .error ex,hq=>exact hx σ pins H s ex s' I hq
 | .ok (.ret u),hq=>exact I.after hq
theorem yx (fn:mH X.prog X.w X.K X.mg X.base k f fd ps sp) (hr:Room k X.A) (hgd:X.A.guards=some []) (hg:Gl X x) (hm:X.mg x=some (.ref f)) (hk:PySem.W.keepIn X.K (.ref f)=true) (hb:aW fd ps [] n perm) (hx:∀σ,PassesAt (L2.CX X.prog X.w) X σ (E σ))
  (ha:PA X (e::es) t) (hdb:(x == ("__debug__":Str))=false:=by decide) (he:starEach (e::es) X.env=(false,eval e X.env)::starEach es X.env:=by rfl) (hpl:(backTo pos (starEach es X.env)).any (·.1)=false:=by rfl) :
  PE X (.Call (.Name x p) (e::es) [] pos) (Ck n 0 sp perm E t tNil):=by
 refine ⟨fun pins s σ H Q I h=>wpAny_Call_Name_kw (ld_glob I hg hm ?_ hdb)⟩
 refine PySem.W.callWith_K (h₀:=X.base) I.ok.mod.kin hk (thn (ha.run pos pins s σ H _ I h) fun us s1 hh=>?_) he hpl
 obtain ⟨vs,H1,I1,r,q⟩:=hh
 exact ⟨I1.kIn,aeA (ks:=[]) (ws:=[]) (zs:=[]) fn hr hgd hb hx I1 r .nil q⟩
end
/-! ### a call, by data -/
def gH:List Val→List Nat
 | []=>[]
 | .bor k::as=>k::gH as
 | .en _::as=>gH as
def VB (L:List Nat) (i:Nat):Val→Bool
 | .bor _=>L.contains i
 | .en _=>true
def lu (L:List Nat):Nat→List Val→Bool
 | _,[]=>true
 | i,a::as=>VB L i a&&lu L (i+1) as
def gJ:List Val→ak→ak→Option ak
 | [],_,ρ=>some ρ
 | .bor k::as,some u::fs,ρ=>gJ as fs (ρ.set k (some u))
 | .en _::as,fs,ρ=>gJ as fs.tail ρ
 | .bor _::_,_,_=>none
def uE (vals:List Val) (ρ:ak):R En→R Val
 | .bad=>.bad
 | .ok e ρ'=>match gJ vals ρ' ρ with
  | some ρ2=>.ok (.en e) ρ2
  | none=>.bad
 | .exc x ρ'=>match gJ vals ρ' ρ with
  | some ρ2=>.exc x ρ2
  | none=>.bad
def cO (n m:Nat) (L perm:List Nat) (run:List En→R En) (fs fk:ak→R (List Val)) (ρ:ak):R Val:=(fs ρ).bind fun as ρ1=>(fk ρ1).bind fun bs ρ2 =>
 if as.length=n∧bs.length=m then
  match looks ρ2 (cV (.en (.fr .non)) perm (as++bs)) with
  | some es=>if lu L 0 (cV (.en (.fr .non)) perm (as++bs))=true∧(gH (cV (.en (.fr .non)) perm (as++bs))).Nodup then uE (cV (.en (.fr .non)) perm (as++bs)) ρ2 (run es) else .bad
  | none=>.bad
 else .bad
theorem gK {k:Nat}:∀{as:List Val},k∈gH as↔∃j:Nat,as[j]?=some (.bor k)
 | []=>by simp [gH]
 | .bor l::as=>by
  unfold gH
  rw [List.mem_cons,gK (as:=as)]
  constructor
  ·rintro (rfl | ⟨j,h⟩)
   ·exact ⟨0,rfl⟩
   ·exact ⟨j+1,by simpa using h⟩
  ·rintro ⟨j,h⟩
   cases j with
   | zero=>left; simp at h; exact h.symm
   | succ j=>exact .inr ⟨j,by simpa using h⟩
 | .en e::as=>by
  unfold gH
  rw [gK (as:=as)]
  constructor
  ·rintro ⟨j,h⟩; exact ⟨j+1,by simpa using h⟩
  ·rintro ⟨j,h⟩
   cases j with
   | zero=>simp at h
   | succ j=>exact ⟨j,by simpa using h⟩
theorem pC {k:Nat}:∀{as:List Val} {i j:Nat},(gH as).Nodup→as[i]?=some (.bor k)→as[j]?=some (.bor k)→i=j
 | [],i,j,_,h,_=>by simp at h
 | .bor l::as,0,0,_,_,_=>rfl
 | .bor l::as,0,j+1,hn,h1,h2=>by
  unfold gH at hn
  simp at h1
  subst h1
  exact absurd (gK.mpr ⟨j,by simpa using h2⟩) (List.nodup_cons.mp hn).1
 | .bor l::as,i+1,0,hn,h1,h2=>by
  unfold gH at hn
  simp at h2
  subst h2
  exact absurd (gK.mpr ⟨i,by simpa using h1⟩) (List.nodup_cons.mp hn).1
 | .bor l::as,i+1,j+1,hn,h1,h2=>by
  unfold gH at hn
  rw [pC (as:=as) (i:=i) (j:=j) (List.nodup_cons.mp hn).2 (by simpa using h1) (by simpa using h2)]
 | .en e::as,0,_,_,h1,_=>by simp at h1
 | .en e::as,_,0,_,_,h2=>by simp at h2
 | .en e::as,i+1,j+1,hn,h1,h2=>by
  unfold gH at hn
  rw [pC (as:=as) (i:=i) (j:=j) hn (by simpa using h1) (by simpa using h2)]
theorem jG:∀{as:List Val} {fs ρ ρ2:ak},gJ as fs ρ=some ρ2→ρ2.length=ρ.length
 | [],_,ρ,ρ2,h=>by
  have h':some ρ=some ρ2:=h
  cases h'; rfl
 | .bor k::as,some u::fs,ρ,ρ2,h=>by
  rw [jG (as:=as) (fs:=fs) (ρ:=ρ.set k (some u)) h,List.length_set]
 | .bor k::as,none::fs,ρ,ρ2,h=>by cases h
 | .bor k::as,[],ρ,ρ2,h=>by cases h
 | .en e::as,fs,ρ,ρ2,h=>jG (as:=as) (fs:=fs.tail) (ρ:=ρ) h
theorem gM {k:Nat}:∀{as:List Val} {fs ρ ρ2:ak},gJ as fs ρ=some ρ2→k∉gH as→ρ2[k]?=ρ[k]?
 | [],_,ρ,ρ2,h,_=>by
  have h':some ρ=some ρ2:=h
  cases h'; rfl
 | .bor l::as,some u::fs,ρ,ρ2,h,hk=>by
  unfold gH at hk
  rw [List.mem_cons,not_or] at hk
  rw [gM (as:=as) (fs:=fs) (ρ:=ρ.set l (some u)) h hk.2,List.getElem?_set_ne (Ne.symm hk.1)]
 | .bor k::as,none::fs,ρ,ρ2,h,_=>by cases h
 | .bor k::as,[],ρ,ρ2,h,_=>by cases h
 | .en e::as,fs,ρ,ρ2,h,hk=>gM (as:=as) (fs:=fs.tail) (ρ:=ρ) h hk
theorem lK {k:Nat}:∀{as:List Val} {fs ρ ρ2:ak} {j:Nat},gJ as fs ρ=some ρ2→(gH as).Nodup→as[j]?=some (.bor k)→∃u,fs[j]?=some (some u)∧(k<ρ.length→ρ2[k]?=some (some u))
 | [],_,ρ,ρ2,j,h,_,hj=>by simp at hj
 | .bor l::as,some u::fs,ρ,ρ2,0,h,hn,hj=>by
  unfold gH at hn
  simp at hj
  subst hj
  refine ⟨u,rfl,fun hl=>?_⟩
  rw [gM (as:=as) (fs:=fs) (ρ:=ρ.set l (some u)) h (List.nodup_cons.mp hn).1,List.getElem?_set_self hl]
 | .bor l::as,some u::fs,ρ,ρ2,j+1,h,hn,hj=>by
  unfold gH at hn
  obtain ⟨u',h1,h2⟩:=lK (as:=as) (fs:=fs) (ρ:=ρ.set l (some u)) (j:=j) h (List.nodup_cons.mp hn).2 (by simpa using hj)
  exact ⟨u',by simpa using h1,fun hl=>h2 (by rw [List.length_set]; exact hl)⟩
 | .bor k::as,none::fs,ρ,ρ2,_,h,_,_=>by cases h
 | .bor k::as,[],ρ,ρ2,_,h,_,_=>by cases h
 | .en e::as,fs,ρ,ρ2,0,h,hn,hj=>by simp at hj
 | .en e::as,fs,ρ,ρ2,j+1,h,hn,hj=>by
  unfold gH at hn
  obtain ⟨u',h1,h2⟩:=lK (as:=as) (fs:=fs.tail) (ρ:=ρ) (j:=j) h hn (by simpa using hj)
  exact ⟨u',by rw [← List.getElem?_tail]; exact h1,h2⟩
theorem uF {L:List Nat} {k:Nat}:∀{as:List Val} {i j:Nat},lu L i as=true→as[j]?=some (.bor k)→i+j∈L
 | [],i,j,_,h=>by simp at h
 | a::as,i,0,h,hj=>by
  unfold lu at h
  rw [Bool.and_eq_true] at h
  simp at hj
  subst hj
  have h1:L.contains i=true:=h.1
  simpa using h1
 | a::as,i,j+1,h,hj=>by
  unfold lu at h
  rw [Bool.and_eq_true] at h
  have:=uF (as:=as) (i:=i+1) (j:=j) h.2 (by simpa using hj)
  rw [show i+(j+1)=i+1+j by omega]
  exact this
theorem pD {ρ:ak}:∀{as:List Val} {es:List En} {j:Nat} {e:En},looks ρ as=some es→es[j]?=some e→∃a,as[j]?=some a∧look ρ a=some e
 | [],es,j,e,h,hj=>by
  have h':some []=some es:=h
  cases h'
  simp at hj
 | a::as,es,j,e,h,hj=>by
  unfold looks at h
  cases la:look ρ a with
  | none=>rw [la] at h; cases h
  | some u =>
   cases ls:looks ρ as with
   | none=>rw [la,ls] at h; cases h
   | some us =>
    rw [la,ls] at h
    cases h
    cases j with
    | zero=>simp at hj; subst hj; exact ⟨a,rfl,la⟩
    | succ j =>
     obtain ⟨a',h1,h2⟩:=pD (as:=as) (j:=j) ls (by simpa using hj)
     exact ⟨a',by simpa using h1,h2⟩
theorem lM {ρ:ak}:∀{as:List Val} {es:List En},looks ρ as=some es→es.length=as.length
 | [],es,h=>by
  have h':some []=some es:=h
  cases h'; rfl
 | a::as,es,h=>by
  unfold looks at h
  cases la:look ρ a with
  | none=>rw [la] at h; cases h
  | some u =>
   cases ls:looks ρ as with
   | none=>rw [la,ls] at h; cases h
   | some us =>
    rw [la,ls] at h
    cases h
    rw [List.length_cons,List.length_cons,lM ls]
theorem lN {α:Type} {d:α} {perm:List Nat} {xs:List α} {j:Nat} {x:α} (h:(cV d perm xs)[j]?=some x) (hp:∀i∈perm,i<xs.length):∃i,perm[j]?=some i∧xs[i]?=some x:=by
 unfold cV at h
 rw [List.getElem?_map] at h
 cases q:perm[j]? with
 | none=>rw [q] at h; cases h
 | some i =>
  rw [q] at h
  have hi:=hp i (List.mem_of_getElem? q)
  refine ⟨i,rfl,?_⟩
  rw [List.getElem?_eq_getElem hi]
  have h':some (xs.getD i d)=some x:=h
  rw [List.getD_eq_getElem?_getD,List.getElem?_eq_getElem hi] at h'
  exact h'
theorem uG {as:List Val} {vs:List V} {i:Nat} {a:Val} {v:V} (hl:as.length=vs.length) (h1:as[i]?=some a) (h2:vs[i]?=some v):(stack as vs)[as.length - 1 - i]?=some (a,v):=by
 unfold stack
 have hi:i<as.length:=(List.getElem?_eq_some_iff.mp h1).1
 have hz:(as.zip vs).length=as.length:=by rw [List.length_zip,← hl,Nat.min_self]
 rw [List.getElem?_reverse (by rw [hz]; omega),hz,show as.length - 1 - (as.length - 1 - i)=i by omega]
 exact List.getElem?_zip_eq_some.mpr ⟨h1,h2⟩
theorem uH {as bs:List Val} {vs zs:List V} (hl:as.length=vs.length):stack (as++bs) (vs++zs)=stack bs zs++stack as vs:=by
 unfold stack
 rw [List.zip_append hl,List.reverse_append]
theorem Il {as:List Val} {vs:List V} (hl:as.length=vs.length):(stack as vs).length=as.length:=by
 unfold stack
 rw [List.length_reverse,List.length_zip,← hl,Nat.min_self]
section
variable {C:Cs} {XR:cG} {W:WX}
theorem Im {n m np:Nat} {L cs perm:List Nat} {run:List En→R En} {t tk:TA} {fs fk:ak→R (List Val)} (ha:eX C (ZW XR W) t fs) (hk:eX C (ZW XR W) tk fk) (hnp:perm.length=np) (hnd:perm.Nodup) (hlt:∀i∈perm,i<n+m) :
  Impl C (ZW XR W) (Ck n m (nM C.K np L cs XR run) perm (WE W) t tk) (cO n m L perm run fs fk):=by
 intro o F H σ ρ T Q S q
 unfold cO at q
 rw [aA] at q
 refine ha o F H σ ρ T _ S (au q (fun as ρ1 h1 F1 H1 vs hl1 S1=>?_) fun _ _ h=>h)
 rw [aA] at h1
 have DG:∀{F' H':Hp} {σ':L2.St} {ρ':ak},SM C o F' H' σ' ρ' (stack as vs++T)→SM C o F' H' σ' ρ' T:=fun S'=>S'.Vp (fun j=>(stack as vs).length+j) (fun j x hx=>by rw [List.getElem?_append_right (by omega),Nat.add_sub_cancel_left]; exact hx) fun i j e=>by omega
 refine hk o F1 H1 σ ρ1 _ _ S1 (au h1 (fun bs ρ2 h2 F2 H2 zs hl2 S2=>?_) fun x ρ' h F' H' s=>h F' H' (DG s))
 by_cases hnm:as.length=n∧bs.length=m
 ·rw [if_pos hnm] at h2
  have hl:(as++bs).length=(vs++zs).length:=by rw [List.length_append,List.length_append,hl1,hl2]
  have hA:(as++bs).length=n+m:=by rw [List.length_append,hnm.1,hnm.2]
  rw [← List.append_assoc,← uH hl1] at S2
  generalize hcs:cV (.en (.fr .non)) perm (as++bs)=vals at h2
  cases hlk:looks ρ2 vals with
  | none=>rw [hlk] at h2; exact h2.elim
  | some es =>
   rw [hlk] at h2
   simp only at h2
   by_cases hok:lu L 0 vals=true∧(gH vals).Nodup
   ·rw [if_pos hok] at h2
    have lt1:∀i∈perm,i<(as++bs).length:=fun i hi=>by rw [hA]; exact hlt i hi
    have lt2:∀i∈perm,i<(vs++zs).length:=fun i hi=>by rw [← hl]; exact lt1 i hi
    have lv:vals.length=perm.length:=by rw [← hcs]; exact List.length_map ..
    have lp:(cV V.non perm (vs++zs)).length=perm.length:=List.length_map ..
    have le:es.length=perm.length:=by rw [lM hlk,lv]
    let wh:Nat→Wh:=fun j=>match vals[j]? with
     | some (.bor s)=>.s s
     | _=>.t ((as++bs).length - 1 - perm.getD j 0)
    have hat:∀(j:Nat) (e:En) (v:V),es[j]?=some e→(cV V.non perm (vs++zs))[j]?=some v→At σ ρ2 (stack (as++bs) (vs++zs)++T) (wh j) e v:=fun j e v h3 h4=>by
     obtain ⟨a,h5,h6⟩:=pD hlk h3
     have h5':=h5
     rw [← hcs] at h5'
     obtain ⟨i,h7,h8⟩:=lN h5' lt1
     obtain ⟨i',h7',h9⟩:=lN h4 lt2
     rw [h7] at h7'
     cases h7'
     have hst:=uG hl h8 h9
     have hst':(stack (as++bs) (vs++zs)++T)[(as++bs).length - 1 - i]?=some (a,v):=by
      rw [List.getElem?_append_left (List.getElem?_eq_some_iff.mp hst).1]
      exact hst
     cases a with
     | en u =>
      have hw:wh j=.t ((as++bs).length - 1 - i):=by
       show (match vals[j]? with | some (.bor s)=>Wh.s s | _=>.t ((as++bs).length - 1 - perm.getD j 0))=_
       rw [h5,List.getD_eq_getElem?_getD,h7]
       rfl
      rw [hw]
      cases h6
      exact hst'
     | bor s =>
      have hw:wh j=.s s:=by
       show (match vals[j]? with | some (.bor s)=>Wh.s s | _=>.t ((as++bs).length - 1 - perm.getD j 0))=_
       rw [h5]
      rw [hw]
      obtain ⟨b1,_,_⟩:=S2.bor _ s v hst'
      exact ⟨join_some h6,b1⟩
    have whB:∀{j s:Nat},vals[j]?=some (.bor s)→wh j=.s s:=fun {j s} h=>by
     show (match vals[j]? with | some (.bor s)=>Wh.s s | _=>.t ((as++bs).length - 1 - perm.getD j 0))=_
     rw [h]
    have whC:∀{j:Nat},j<es.length→(∃s,vals[j]?=some (.bor s)∧wh j=.s s)∨∃i,perm[j]?=some i∧i<n+m∧wh j=.t ((as++bs).length - 1 - i):=fun {j} hj=>by
     have hj':j<vals.length:=by omega
     have hp':j<perm.length:=by omega
     cases hv:vals[j]? with
     | none=>rw [List.getElem?_eq_none_iff] at hv; omega
     | some a =>
      cases a with
      | bor s=>exact .inl ⟨s,rfl,whB hv⟩
      | en u =>
       refine .inr ⟨perm[j],List.getElem?_eq_getElem hp',hlt _ (List.getElem_mem hp'),?_⟩
       show (match vals[j]? with | some (.bor s)=>Wh.s s | _=>.t ((as++bs).length - 1 - perm.getD j 0))=_
       rw [hv,List.getD_eq_getElem?_getD,List.getElem?_eq_getElem hp']
       rfl
    have inj:∀i j,i<es.length→j<es.length→wh i=wh j→i=j:=fun i j hi hj h=>by
     rcases whC hi with ⟨s1,a1,a2⟩ | ⟨i1,a1,a2,a3⟩ <;> rcases whC hj with ⟨s2,c1,c2⟩ | ⟨i2,c1,c2,c3⟩
     ·rw [a2,c2] at h
      cases h
      exact pC hok.2 a1 c1
     ·rw [a2,c3] at h; cases h
     ·rw [a3,c2] at h; cases h
     ·rw [a3,c3] at h
      simp only [Wh.t.injEq] at h
      have e12:i1=i2:=by omega
      subst e12
      exact (List.getElem?_inj (by omega) hnd).mp (a1.trans c1.symm)
    have low:∀(j q:Nat),j<es.length→wh j=.t q→q<(stack (as++bs) (vs++zs)).length:=fun j q hj h=>by
     rw [Il hl]
     rcases whC hj with ⟨s1,_,a2⟩ | ⟨i1,_,a2,a3⟩
     ·rw [a2] at h; cases h
     ·rw [a3] at h
      cases h
      omega
    have hll:es.length=(cV V.non perm (vs++zs)).length:=by rw [le,lp]
    have abR:Paired (Rp C.K F2 H2) es (cV V.non perm (vs++zs)):=by
     have go:∀(es:List En) (us:List V),es.length=us.length→(∀(j:Nat) (e:En) (v:V),es[j]?=some e→us[j]?=some v→Rp C.K F2 H2 e v)→Paired (Rp C.K F2 H2) es us:=by
      intro es
      induction es with
      | nil=>intro us hl _; cases us with
       | nil=>exact .nil
       | cons _ _=>simp at hl
      | cons e es ih=>intro us hl h; cases us with
       | nil=>simp at hl
       | cons u us=>exact .cons (h 0 e u rfl rfl) (ih us (by simpa using hl) fun j e v h1 h2=>h (j+1) e v (by simpa using h1) (by simpa using h2))
     exact go es _ hll fun j e v h3 h4=>S2.rep _ e v (hat j e v h3 h4)
    refine ⟨by rw [← hl1]; exact hnm.1,by rw [← hl2]; exact hnm.2,by rw [lp,hnp],F2,es,S2.sub,abR,fun i j e e' v v' a ne g1 g2 g3 g4 w1=>?_,fun i e v a g1 g2 w1=>(S2.own _ e v a (hat i e v g1 g2) w1).1,?_⟩
    ·exact S2.sep _ _ e e' v v' a (fun z=>ne (inj i j (List.getElem?_eq_some_iff.mp g1).1 (List.getElem?_eq_some_iff.mp g3).1 z)) (hat i e v g1 g2) (hat j e' v' g3 g4) w1
    ·have fin:∀{e:En} {v:V} {ρ' ρ3:ak} {F' H':Hp} {σ':L2.St},SM ⟨C.K,L,cs,none⟩ (entry F2 H2 es (cV V.non perm (vs++zs)) L) F' H' σ' ρ' [(.en e,v)]→gJ vals ρ' ρ2=some ρ3→SM C o F' H' σ ρ3 ((.en e,v)::T):=fun {e v ρ' ρ3 F' H' σ'} N hpf=>by
      refine S2.call (C':=⟨C.K,L,cs,none⟩) (wh:=wh) hat hll inj low rfl N (jG hpf) (fun k u hu=>?_) fun j i v hj=>?_
      ·by_cases hb:k∈gH vals
       ·obtain ⟨j,hj⟩:=gK.mp hb
        obtain ⟨u',g1,g2⟩:=lK hpf hok.2 hj
        have hk:k<ρ2.length:=by
         have:=(List.getElem?_eq_some_iff.mp hu).1
         rw [jG hpf] at this
         exact this
        rw [g2 hk] at hu
        cases hu
        have hj':j<es.length:=by
         have:=(List.getElem?_eq_some_iff.mp hj).1
         omega
        have:=uF hok.1 hj
        rw [Nat.zero_add] at this
        exact .inl ⟨j,hj',whB hj,this,g1⟩
       ·rw [gM hpf hb] at hu
        refine .inr ⟨fun j hj z=>?_,hu⟩
        rcases whC hj with ⟨s1,a1,a2⟩ | ⟨i1,_,_,a3⟩
        ·rw [a2] at z
         cases z
         exact hb (gK.mpr ⟨j,a1⟩)
        ·rw [a3] at z; cases z
      ·have hT:(stack (as++bs) (vs++zs)++T)[(stack (as++bs) (vs++zs)).length+j]?=some (.bor i,v):=by rw [List.getElem?_append_right (by omega),Nat.add_sub_cancel_left]; exact hj
       obtain ⟨_,⟨u,hu⟩,_⟩:=S2.bor _ i v hT
       by_cases hb:i∈gH vals
       ·obtain ⟨j',hj'⟩:=gK.mp hb
        obtain ⟨u',_,g2⟩:=lK hpf hok.2 hj'
        exact ⟨u',g2 (List.getElem?_eq_some_iff.mp hu).1⟩
       ·rw [gM hpf hb]; exact ⟨u,hu⟩
     cases hrun:run es with
     | bad=>rw [hrun] at h2; exact h2.elim
     | ok e ρ' =>
      rw [hrun] at h2
      unfold uE at h2
      intro F' H' σ' v N
      cases hpf:gJ vals ρ' ρ2 with
      | none=>simp only [hpf] at h2; exact h2.elim
      | some ρ3 =>
       simp only [hpf] at h2
       exact h2 F' H' v (fin N hpf)
     | exc x ρ' =>
      rw [hrun] at h2
      unfold uE at h2
      intro F' H' σ' cls d N hx
      cases hpf:gJ vals ρ' ρ2 with
      | none=>simp only [hpf] at h2; exact h2.elim
      | some ρ3 =>
       simp only [hpf] at h2
       have N2:=N.bf (d:=.non) (v:=.non) BR
       exact h2 F' H' (fin N2 hpf).drop cls d hx
   ·rw [if_neg hok] at h2; exact h2.elim
 ·rw [if_neg hnm] at h2; exact h2.elim
end
end DM
end
section
namespace DM
open PySem PySem.Spec PyProof.Rows L2
structure Wd where
 P:Program
 w:World
 K:PySem.W.Frag
 mg:Str→Option Value
 base:Heap
structure Ctx (M:Wd) (X:Cx) (C:Cs) (W:WX) (k:Nat) (N:List Str) (nm:List (Str × NameKind)) (fb:Str→Bool):Prop where
 hP:X.prog=M.P
 hw:X.w=M.w
 lX:X.K=M.K
 hmg:X.mg=M.mg
 hbase:X.base=M.base
 hK:X.K=C.K
 calm:X.calm=true
 gd:X.A.guards=some []
 room:Room k X.A
 tk:Takes X W
 hN:X.N=N
 nd:N.Nodup
 hnm:X.env.scope.names=nm
 hkd:X.env.scope.kind=.function
 hfn:∀x,fb x=true→X.fn x=true
def XM (sn nm:List (Str × NameKind)):List (Str × NameKind):=sn.map fun (n,k)=>if (k == .free&&nm.lookup n == some .cell) then (n,.cell) else (n,k)
def dbg (x:Str):Bool:=(x == ("__debug__":Str)) || (x == ("__classdict__":Str)) || decide (x = "__name__")
def vQ (nm:List (Str × NameKind)) (x:Str):Bool:=(nm.lookup x == some .local || nm.lookup x == some .cell || nm.lookup x == some .free)&&!dbg x
def Cm (nm:List (Str × NameKind)) (fb:Str→Bool) (x:Str):Bool:=(nm.lookup x == some .local || (nm.lookup x == some .cell&&fb x))&&!dbg x
def qL (nm:List (Str × NameKind)) (x:Str):Bool:=(nm.lookup x == some .globalImplicit)&&!dbg x
section
variable {XR:cG} {M:Wd} {X:Cx} {C:Cs} {W:WX} {k:Nat} {N:List Str} {nm:List (Str × NameKind)} {fb:Str→Bool}
theorem Mp {x:Str} (h:dbg x=false):(x == ("__debug__":Str))=false∧(x == ("__classdict__":Str))=false∧x ≠ "__name__":=by
 unfold dbg at h
 rw [Bool.or_eq_false_iff,Bool.or_eq_false_iff] at h
 exact ⟨h.1.1,h.1.2,of_decide_eq_false h.2⟩
theorem jH (G:Ctx M X C W k N nm fb) {x:Str} (h:vQ nm x=true):Vis X.env.scope x∧(x == ("__debug__":Str))=false∧(x == ("__classdict__":Str))=false:=by
 unfold vQ at h
 rw [Bool.and_eq_true,Bool.not_eq_true'] at h
 obtain ⟨h1,h2⟩:=h
 obtain ⟨d1,d2,_⟩:=Mp h2
 refine ⟨?_,d1,d2⟩
 unfold Vis
 rw [G.hnm]
 rw [Bool.or_eq_true,Bool.or_eq_true,beq_iff_eq,beq_iff_eq,beq_iff_eq] at h1
 rcases h1 with (h1 | h1) | h1
 ·exact .inl h1
 ·exact .inr (.inl h1)
 ·exact .inr (.inr h1)
theorem oG (G:Ctx M X C W k N nm fb) {x:Str} (h:Cm nm fb x=true):L2.Loc X.env.scope x∧(X.fn x=true∨X.env.scope.names.lookup x=some .local):=by
 unfold Cm at h
 rw [Bool.and_eq_true] at h
 obtain ⟨h1,_⟩:=h
 unfold L2.Loc
 rw [G.hnm]
 rw [Bool.or_eq_true,Bool.and_eq_true,beq_iff_eq,beq_iff_eq] at h1
 rcases h1 with h1 | ⟨h1,h3⟩
 ·exact ⟨.inl h1,.inr h1⟩
 ·exact ⟨.inr h1,.inl (G.hfn x h3)⟩
theorem cI (G:Ctx M X C W k N nm fb) {x:Str} (h:qL nm x=true):Gl X x∧(x == ("__debug__":Str))=false∧x ≠ "__name__":=by
 unfold qL at h
 rw [Bool.and_eq_true,Bool.not_eq_true',beq_iff_eq] at h
 obtain ⟨d1,_,d3⟩:=Mp h.2
 refine ⟨?_,d1,d3⟩
 show X.env.scope.names.lookup x=some .globalImplicit
 rw [G.hnm]
 exact h.1
theorem Ctx.un (G:Ctx M X C W k N nm fb):X.A.units+199<cLine:=by have:=G.room.un; omega
/-! ### aa3 -/
def JE (XR:cG) (X:Cx) (C:Cs) (W:WX) (e:Expr) (f:ak→R Val):Prop:=∃te,PE X e te∧Impl C (ZW XR W) te f
def JT (XR:cG) (X:Cx) (C:Cs) (W:WX) (e:Expr) (f:ak→R Bool):Prop:=∃tt,PT X e tt∧dB C (ZW XR W) tt f
def JW (XR:cG) (X:Cx) (C:Cs) (W:WX) (e:Expr) (f:ak→R Bool):Prop:=∃tt,PW X e tt∧dB C (ZW XR W) tt f
def JA (XR:cG) (X:Cx) (C:Cs) (W:WX) (es:List Expr) (f:ak→R (List Val)):Prop:=∃ta,PA X es ta∧eX C (ZW XR W) ta f
def JK (XR:cG) (X:Cx) (C:Cs) (W:WX) (es:List Keyword) (f:ak→R (List Val)):Prop:=∃ta,PK X es ta∧eX C (ZW XR W) ta f
def JO (XR:cG) (X:Cx) (C:Cs) (W:WX) (e:Option Expr) (f:ak→R (Option Int)):Prop:=∃t,PO X e t∧xR C (ZW XR W) t f
def JI (XR:cG) (X:Cx) (C:Cs) (W:WX) (tg e:Expr) (f:ak→R (List D)):Prop:=∃wi,PI X tg e wi∧ql C (ZW XR W) wi f
def JG (X:Cx) (C:Cs) (tg:Expr) (t:Tg):Prop:=∃g,PG X tg g∧oh C g t.slots (cZ t)
def Tr (X:Cx) (C:Cs) (tgs:List Expr) (ts:List Tg):Prop:=∃g,PGs X tgs g∧rH C g (rG ts) (fK ts)
def JS (XR:cG) (X:Cx) (C:Cs) (W:WX) (s:Stmt) (f:ak→R Fl):Prop:=∃t,PS X s t∧cU C (ZW XR W) t f
def JB (XR:cG) (X:Cx) (C:Cs) (W:WX) (s:List Stmt) (f:ak→R Fl):Prop:=∃t,PSs X s t∧cU C (ZW XR W) t f
def runC (d:D) (ρ:ak):R Val:=.ok (.en (.fr d)) ρ
variable {e a b c:Expr} {es:List Expr} {f fa fc:ak→R Val} {fs fk:ak→R (List Val)} {pos p pos':Pos} {x:Str} {i:Nat}
theorem JE.var (G:Ctx M X C W k N nm fb) (i:Nat) (hi:(N[i]? == some x)=true) (hv:vQ nm x=true) (hc:C.cs.contains i=false):JE XR X C W (.Name x pos) (aq i):=by
 obtain ⟨h1,h2,h3⟩:=jH G hv
 exact ⟨_,pe_var (by rw [G.hN]; exact beq_iff_eq.mp hi) h1 h2 h3,KC (fun h=>by rw [List.contains_iff_mem.mpr h] at hc; cases hc)⟩
theorem JE.yC (G:Ctx M X C W k N nm fb) (i:Nat) (hi:(N[i]? == some x)=true) (hv:vQ nm x=true):JE XR X C W (.Name x pos) (bZ i):=by
 obtain ⟨h1,h2,h3⟩:=jH G hv
 exact ⟨_,pe_var (by rw [G.hN]; exact beq_iff_eq.mp hi) h1 h2 h3,Hl⟩
theorem JE.int {n:Int} {j:Nat}:JE XR X C W (.Constant (.int n) j pos) (runC (.int n)):=⟨_,pe_int,vG rfl⟩
theorem JE.str {n:Str} {j:Nat}:JE XR X C W (.Constant (.str n) j pos) (runC (.str n)):=⟨_,pe_str,vG rfl⟩
theorem JE.bl {n:Bool} {j:Nat}:JE XR X C W (.Constant (.bool n) j pos) (runC (.bl n)):=⟨_,pe_bl,vG rfl⟩
theorem JE.non {j:Nat}:JE XR X C W (.Constant .none j pos) (runC .non):=⟨_,pe_non,vG rfl⟩
theorem JE.F (h:JE XR X C W e f):JE XR X C W e (bL f):=by
 obtain ⟨te,h1,h2⟩:=h
 exact ⟨te,h1,BP h2⟩
/-! operators -/
def Tv (op:Operator) (g:En→En→Option En):Prop:=∀X:Cx,X.A.units+199<cLine→∃r,OpR X (binaryOp op) r∧qK X.K r g
def yD (op:CmpOp) (g:En→En→Option En):Prop:=∀X:Cx,X.A.units+199<cLine→∃r,OpR X (compareOp op) r∧qK X.K r g
def UnJ (op:UnaryOp) (g:En→Option En):Prop:=∀X:Cx,∃r,UnR X (unaryOp op) r∧UnS X.K r g
theorem JE.op {op:Operator} {g:En→En→Option En} (G:Ctx M X C W k N nm fb) (h:Tv op g) (ha:JE XR X C W a fa) (hb:JE XR X C W b f):JE XR X C W (.BinOp a op b pos) (aY g fa f):=by
 obtain ⟨ta,a1,a2⟩:=ha
 obtain ⟨tb,b1,b2⟩:=hb
 obtain ⟨r,r1,r2⟩:=h X G.un
 exact ⟨_,pe_op r1 a1 b1,nU (by rw [← G.hK]; exact r2) a2 b2⟩
theorem JE.un {op:UnaryOp} {g:En→Option En} (G:Ctx M X C W k N nm fb) (h:UnJ op g) (ha:JE XR X C W a fa):JE XR X C W (.UnaryOp op a pos) (BL g fa):=by
 obtain ⟨ta,a1,a2⟩:=ha
 obtain ⟨r,r1,r2⟩:=h X
 exact ⟨_,pe_un r1 a1,Sd (by rw [← G.hK]; exact r2) a2⟩
theorem JE.cmp {op:CmpOp} {g:En→En→Option En} (G:Ctx M X C W k N nm fb) (h:yD op g) (ha:JE XR X C W a fa) (hb:JE XR X C W b f) (hm:behindInMarks op b=false:=by first | exact nomark _ | rfl):JE XR X C W (.Compare a [op] [b] pos) (aY g fa f):=by
 obtain ⟨ta,a1,a2⟩:=ha
 obtain ⟨tb,b1,b2⟩:=hb
 obtain ⟨r,r1,r2⟩:=h X G.un
 exact ⟨_,pe_cmpR r1 a1 b1 hm,nU (by rw [← G.hK]; exact r2) a2 b2⟩
theorem JT.cmp {op:CmpOp} {g:En→En→Option En} (G:Ctx M X C W k N nm fb) (h:yD op g) (ha:JE XR X C W a fa) (hb:JE XR X C W b f) (hm:behindInMarks op b=false:=by first | exact nomark _ | rfl):JT XR X C W (.Compare a [op] [b] pos) (j9 (aY g fa f)):=by
 obtain ⟨ta,a1,a2⟩:=ha
 obtain ⟨tb,b1,b2⟩:=hb
 obtain ⟨r,r1,r2⟩:=h X G.un
 exact ⟨_,pt_cmpR r1 a1 b1 hm,Sv (nU (by rw [← G.hK]; exact r2) a2 b2)⟩
def dN:En→En→Option En:=fun a b=>(KZ (fun _ _=>true) (fun i j=>i+j) a b).or ((Xj a b).or ((K9 a b).or (K6 a b)))
def gSub:En→En→Option En:=KZ (fun _ _=>true) fun i j=>i - j
def abT:En→En→Option En:=fun a b=>(KZ K7 (fun i j=>i*j) a b).or ((Xk a b).or (La a b))
def vR:En→En→Option En:=KZ Vs fun i j=>i%j
def aeB:En→En→Option En:=KZ abz fun i j=>i^j.toNat
theorem cQ:Tv .Add dN:=fun X _=>⟨_,op_add.or (op_cat.or (R6.or op_add_str)),aby.or (abA.or (Xl.or Xi))⟩
theorem XQ:Tv .Mult abT:=fun X _=>⟨_,DM.op_mulX.or (op_rep.or (R7.or Sw)),(abx fun _ _ h=>h).or (abB.or Xm)⟩
theorem Mq:Tv .Mod vR:=fun X _=>⟨_,op_mod,abx fun _ _ h=>of_decide_eq_true h⟩
def gLt:En→En→Option En:=g2B fun i j=>decide (i<j)
def gLe:En→En→Option En:=g2B fun i j=>decide (i≤j)
def gGt:En→En→Option En:=g2B fun i j=>decide (j<i)
def gGe:En→En→Option En:=g2B fun i j=>decide (j≤i)
theorem uI:yD .Eq (xU false):=fun X h=>⟨_,op_eqD (by omega),aep⟩
theorem yE:yD .NotEq (xU true):=fun X h=>⟨_,op_neD (by omega),aer⟩
theorem Cp:yD .Is (xV false):=fun X _=>⟨_,op_isN,abC⟩
theorem Tw:yD .IsNot (Sy true):=fun X _=>⟨_,op_notBl,Xo⟩
theorem JE.and (ha:JE XR X C W a fa) (hb:JE XR X C W (.BoolOp .And (b::es) pos) f):JE XR X C W (.BoolOp .And (a::b::es) pos) (fM fa f):=by
 obtain ⟨ta,a1,a2⟩:=ha
 obtain ⟨tb,b1,b2⟩:=hb
 exact ⟨_,pe_and a1 b1,Hu a2 b2⟩
theorem JE.or (ha:JE XR X C W a fa) (hb:JE XR X C W (.BoolOp .Or (b::es) pos) f):JE XR X C W (.BoolOp .Or (a::b::es) pos) (vI fa f):=by
 obtain ⟨ta,a1,a2⟩:=ha
 obtain ⟨tb,b1,b2⟩:=hb
 exact ⟨_,pe_or a1 b1,KY a2 b2⟩
theorem JE.not (ha:JE XR X C W a fa):JE XR X C W (.UnaryOp .Not a pos) (nZ fa):=by
 obtain ⟨ta,a1,a2⟩:=ha
 exact ⟨_,pe_not a1,Hv a2⟩
theorem JT.not {ft:ak→R Bool} (ha:JT XR X C W a ft):JT XR X C W (.UnaryOp .Not a pos) (lF ft):=by
 obtain ⟨ta,a1,a2⟩:=ha
 exact ⟨_,pt_not a1,Ht a2⟩
theorem JW.pt {ft:ak→R Bool} (ha:JW XR X C W a ft):JT XR X C W a ft:=by
 obtain ⟨ta,a1,a2⟩:=ha
 exact ⟨_,a1.pt,a2⟩
theorem JW.Mr {ft:ak→R Bool} (ha:JT XR X C W a ft):JW XR X C W (.BoolOp .And [a] pos) ft:=by
 obtain ⟨ta,a1,a2⟩:=ha
 exact ⟨_,pw_and1 a1,a2⟩
theorem JW.or1 {ft:ak→R Bool} (ha:JT XR X C W a ft):JW XR X C W (.BoolOp .Or [a] pos) ft:=by
 obtain ⟨ta,a1,a2⟩:=ha
 exact ⟨_,pw_or1 a1,a2⟩
theorem JW.and {ft gt:ak→R Bool} (ha:JT XR X C W a ft) (hb:JW XR X C W (.BoolOp .And (b::es) pos) gt):JW XR X C W (.BoolOp .And (a::b::es) pos) (nY ft gt):=by
 obtain ⟨ta,a1,a2⟩:=ha
 obtain ⟨tb,b1,b2⟩:=hb
 exact ⟨_,pw_and a1 b1,Hr a2 b2⟩
theorem JW.or {ft gt:ak→R Bool} (ha:JT XR X C W a ft) (hb:JW XR X C W (.BoolOp .Or (b::es) pos) gt):JW XR X C W (.BoolOp .Or (a::b::es) pos) (kh ft gt):=by
 obtain ⟨ta,a1,a2⟩:=ha
 obtain ⟨tb,b1,b2⟩:=hb
 exact ⟨_,pw_or a1 b1,KR a2 b2⟩
theorem JT.tru (G:Ctx M X C W k N nm fb) (ha:JE XR X C W a fa) (he:∀whole,isTrue a X.env whole=(do let v ← whole; standAt a.pos; holding [v] (truthy v)):=by intro _; rfl):JT XR X C W a (qZ fa):=by
 obtain ⟨ta,a1,a2⟩:=ha
 refine ⟨_,pt_truth a1 he,?_⟩
 rw [G.hK]
 exact Hq a2
/-! displays, subscripts -/
theorem JA.nil:JA XR X C W [] ao:=⟨_,pa_nil,j8⟩
theorem JA.cons (ha:JE XR X C W e fa) (hs:JA XR X C W es fs) (h:starEach (e::es) X.env=(false,eval e X.env)::starEach es X.env:=by rfl):JA XR X C W (e::es) (aj fa fs):=by
 obtain ⟨ta,a1,a2⟩:=ha
 obtain ⟨tb,b1,b2⟩:=hs
 exact ⟨_,pa_cons a1 b1 h,pq a2 b2⟩
theorem JK.nil:JK XR X C W [] ao:=⟨_,pk_nil,j8⟩
theorem JK.cons {n:Option Str} {kws:List Keyword} (ha:JE XR X C W e fa) (hs:JK XR X C W kws fs):JK XR X C W (⟨n,e,pos⟩::kws) (aj fa fs):=by
 obtain ⟨ta,a1,a2⟩:=ha
 obtain ⟨tb,b1,b2⟩:=hs
 exact ⟨_,pk_cons a1 b1,pq a2 b2⟩
theorem JE.tup {j:Nat} (h:JA XR X C W es fs):JE XR X C W (.Tuple es j pos) (aP fs):=by
 obtain ⟨t,h1,h2⟩:=h
 exact ⟨_,R5 h1,KN h2⟩
theorem JE.lst (h:JA XR X C W es fs):JE XR X C W (.List es pos) (aU fs):=by
 obtain ⟨t,h1,h2⟩:=h
 exact ⟨_,pe_lst h1,KQ h2⟩
theorem JE.ix (G:Ctx M X C W k N nm fb) (ha:JE XR X C W a fa) (hb:JE XR X C W b f) (hs:PlainIx b:=by intro _ _; rfl):JE XR X C W (.Subscript a b pos) (aY HD fa f):=by
 obtain ⟨ta,a1,a2⟩:=ha
 obtain ⟨tb,b1,b2⟩:=hb
 exact ⟨_,pe_ix (ix_seq (X:=X)) a1 b1 hs,nU (by rw [G.hK]; exact aes) a2 b2⟩
theorem JO.no:JO XR X C W none rQ:=⟨_,po_none,Mg⟩
theorem JO.some (h:JE XR X C W e f):JO XR X C W (some e) (lH f):=by
 obtain ⟨t,h1,h2⟩:=h
 exact ⟨_,po_some h1,Ci h2⟩
theorem JE.sl {lo hi:Option Expr} {fl fh:ak→R (Option Int)} (G:Ctx M X C W k N nm fb) (h:JE XR X C W e f) (hl:JO XR X C W lo fl) (hh:JO XR X C W hi fh):JE XR X C W (.Subscript e (.Slice lo hi none p) pos) (qC f fl fh):=by
 obtain ⟨t,h1,h2⟩:=h
 obtain ⟨tl,l1,l2⟩:=hl
 obtain ⟨th,k1,k2⟩:=hh
 refine ⟨_,pe_slice (aez (X:=X)) h1 l1 k1,?_⟩
 rw [G.hK]
 exact Tp h2 l2 k2
def FnJ (x:Str) (id:String) (g:List En→Option En):Prop:=bootBuiltins x=some (.builtin id)∧∀X:Cx,X.calm=true→X.A.guards=some []→X.A.units+199<cLine→∃r,CallR X (.builtin id) r∧j7 X.K r g
def TyJ (x:Str) (id:String) (g:List En→Option En):Prop:=bootBuiltins x=some (.type id)∧∀X:Cx,X.calm=true→∃r,CallR X (.type id) r∧j7 X.K r g
theorem JE.fn {id:String} {g:List En→Option En} (G:Ctx M X C W k N nm fb) (h:FnJ x id g) (hm:M.mg x=none) (hg:qL nm x=true) (ha:JA XR X C W (e::es) fs)
  (he:starEach (e::es) X.env=(false,eval e X.env)::starEach es X.env:=by rfl) (hpl:(backTo pos (starEach es X.env)).any (·.1)=false:=by rfl):JE XR X C W (.Call (.Name x p) (e::es) [] pos) (fJ g fs):=by
 obtain ⟨g1,g2,g3⟩:=cI G hg
 obtain ⟨t,a1,a2⟩:=ha
 obtain ⟨r,r1,r2⟩:=h.2 X G.calm G.gd G.un
 exact ⟨_,pe_callB r1 g1 (by rw [G.hmg]; exact hm) h.1 a1 g3 g2 he hpl,Dk (by rw [← G.hK]; exact r2) a2⟩
theorem JE.ty {id:String} {g:List En→Option En} (G:Ctx M X C W k N nm fb) (h:TyJ x id g) (hm:M.mg x=none) (hg:qL nm x=true) (ha:JA XR X C W (e::es) fs)
  (he:starEach (e::es) X.env=(false,eval e X.env)::starEach es X.env:=by rfl) (hpl:(backTo pos (starEach es X.env)).any (·.1)=false:=by rfl):JE XR X C W (.Call (.Name x p) (e::es) [] pos) (fJ g fs):=by
 obtain ⟨g1,g2,g3⟩:=cI G hg
 obtain ⟨t,a1,a2⟩:=ha
 obtain ⟨r,r1,r2⟩:=h.2 X G.calm
 exact ⟨_,pe_callTy r1 g1 (by rw [G.hmg]; exact hm) h.1 a1 g3 g2 he hpl,Dk (by rw [← G.hK]; exact r2) a2⟩
theorem VD:FnJ "len" "len" Ij:=⟨by decide +kernel,fun X _ _ _=>⟨_,call_len,abI⟩⟩
theorem abV:FnJ "abs" "abs" Cg:=⟨boot_abs,fun X _ _ _=>⟨_,call_abs,abJ⟩⟩
theorem VF:FnJ "all" "all" vO:=⟨by decide +kernel,fun X h _ _=>⟨_,cr_all h,abL⟩⟩
theorem XS:TyJ "str" "str" LC:=⟨boot_str,fun X _=>⟨_,call_str_int,XC⟩⟩
theorem pF {T:String} (G:Ctx M X C W k N nm fb) (hb:bootBuiltins x=some (.type T)) (hm:M.mg x=none) (hg:qL nm x=true):PE X (.Name x pos) (tC (.ty T)):=by
 obtain ⟨g1,g2,g3⟩:=cI G hg
 exact pe_bltn g1 (by rw [G.hmg]; exact hm) hb rfl g3 g2
theorem JE.is {T:String} {y:Str} {p2:Pos} (G:Ctx M X C W k N nm fb) (hm:M.mg "isinstance"=none) (hg:qL nm "isinstance"=true) (hb:bootBuiltins y=some (.type T)) (hm2:M.mg y=none) (hg2:qL nm y=true) (h:JE XR X C W e f)
  (he:starEach [e,.Name y p2] X.env=(false,eval e X.env)::starEach [.Name y p2] X.env:=by rfl):JE XR X C W (.Call (.Name "isinstance" p) [e,.Name y p2] [] pos) (lg T f):=by
 obtain ⟨g1,g2,g3⟩:=cI G hg
 obtain ⟨t,h1,h2⟩:=h
 refine ⟨_,pe_callB call_isi g1 (by rw [G.hmg]; exact hm) boot_isinstance (pa_cons h1 (pa_cons (pF G hb hm2 hg2) pa_nil) he) g3 g2 he rfl,?_⟩
 rw [G.hK]
 exact Tn h2
theorem JE.isT {Ts:List String} {j:Nat} {p2:Pos} (G:Ctx M X C W k N nm fb) (hm:M.mg "isinstance"=none) (hg:qL nm "isinstance"=true) (ht:PA X es (Tj Ts)) (hz:decide (Ts.length≤100)=true) (h:JE XR X C W e f)
  (he:starEach [e,.Tuple es j p2] X.env=(false,eval e X.env)::starEach [.Tuple es j p2] X.env:=by rfl):JE XR X C W (.Call (.Name "isinstance" p) [e,.Tuple es j p2] [] pos) (rP Ts f):=by
 obtain ⟨g1,g2,g3⟩:=cI G hg
 obtain ⟨t,h1,h2⟩:=h
 refine ⟨_,pe_callB call_isiT g1 (by rw [G.hmg]; exact hm) boot_isinstance (pa_cons h1 (pa_cons (pe_tup ht) pa_nil) he) g3 g2 he rfl,?_⟩
 rw [G.hK]
 exact Ma h2 (Nat.le_trans (of_decide_eq_true hz) (by decide))
variable {fd:FuncData} {ps ks:List Str} {fA:Addr} {np n:Nat} {perm L cs:List Nat} {run:List En→R En} {kws:List Keyword}
def DK (perm:List Nat) (np n:Nat):Bool:=decide (perm.length=np)&&decide perm.Nodup&&perm.all fun i=>decide (i<n)
theorem yF {perm:List Nat} {np n:Nat} (h:DK perm np n=true):perm.length=np∧perm.Nodup∧∀i∈perm,i<n:=by
 unfold DK at h
 rw [Bool.and_eq_true,Bool.and_eq_true,List.all_eq_true] at h
 exact ⟨of_decide_eq_true h.1.1,of_decide_eq_true h.1.2,fun i hi=>of_decide_eq_true (h.2 i hi)⟩
theorem JE.call (G:Ctx M X C W k N nm fb) (fn:mH M.P M.w M.K M.mg M.base k fA fd ps (nM M.K np L cs XR run)) (hm:M.mg x=some (.ref fA)) (hk:PySem.W.keepIn M.K (.ref fA)=true) (hb:aW fd ps [] n perm) (hg:qL nm x=true) (hp:DK perm np (n+0)=true)
  (ha:JA XR X C W (e::es) fs) (he:starEach (e::es) X.env=(false,eval e X.env)::starEach es X.env:=by rfl) (hpl:(backTo pos (starEach es X.env)).any (·.1)=false:=by rfl) :
  JE XR X C W (.Call (.Name x p) (e::es) [] pos) (cO n 0 L perm run fs ao):=by
 obtain ⟨g1,g2,_⟩:=cI G hg
 obtain ⟨t,a1,a2⟩:=ha
 obtain ⟨p1,p2,p3⟩:=yF hp
 refine ⟨_,yx (E:=WE W) (sp:=nM M.K np L cs XR run) (by rw [G.hP,G.hw,G.lX,G.hmg,G.hbase]; exact fn) G.room G.gd g1 (by rw [G.hmg]; exact hm) (by rw [G.lX]; exact hk) hb (passAt G.tk) a1 g2 he hpl,?_⟩
 rw [← G.lX,G.hK]
 exact Im a2 j8 p1 p2 p3
end
end DM
end
section
namespace DM
open PySem PySem.Spec PyProof.Rows L2
/-! ### the weakest readings -/
def X3 (C:Cs) (Z:ZX) (f:ak→R Val):TE:=fun σ H Q=>∃(o:Og) (F:Hp) (ρ:ak) (T:Tm),SM C o F H σ ρ T∧lE (f ρ) (fun val ρ'=>∀F' H' v,SM C o F' H' σ ρ' ((val,v)::T)→Q v H') (fun x ρ'=>∀F' H',SM C o F' H' σ ρ' T→Z x F' H' σ ρ')
def abW (C:Cs) (Z:ZX) (f:ak→R Bool):TT:=fun σ H Q=>∃(o:Og) (F:Hp) (ρ:ak) (T:Tm),SM C o F H σ ρ T∧lE (f ρ) (fun b ρ'=>∀F' H',SM C o F' H' σ ρ' T→Q b H') (fun x ρ'=>∀F' H',SM C o F' H' σ ρ' T→Z x F' H' σ ρ')
def X4 (C:Cs) (sl:List Nat) (f:D→ak→Option ak):TG:=fun v σ H Q=>∃(o:Og) (F:Hp) (ρ ρ':ak) (T:Tm) (d:D),SM C o F H σ ρ T∧Dq C.K F d v∧(∀i∈sl,gj T i)∧f d ρ=some ρ'∧(∀σ',SM C o F H σ' ρ' T→(∀i,i∉sl→σ'[i]?=σ[i]?)→σ'.length=σ.length→Q σ' H)
theorem Io {C:Cs} {Z:ZX} {f:ak→R Val}:Impl C Z (X3 C Z f) f:=fun o F H σ ρ T Q S q=>⟨o,F,ρ,T,S,q⟩
theorem Ip {C:Cs} {Z:ZX} {f:ak→R Bool}:dB C Z (abW C Z f) f:=fun o F H σ ρ T Q S q=>⟨o,F,ρ,T,S,q⟩
theorem Ir {C:Cs} {sl:List Nat} {f:D→ak→Option ak}:oh C (X4 C sl f) sl f:=fun o F H σ ρ ρ' T d v Q S r n h q=>⟨o,F,ρ,ρ',T,d,S,r,n,h,q⟩
theorem Impl.imp {C:Cs} {Z Z':ZX} {te:TE} {f:ak→R Val} (h:Impl C Z te f) (hz:∀x F H σ ρ,Z' x F H σ ρ→Z x F H σ ρ):Impl C Z' te f:=fun o F H σ ρ T Q S q=>h o F H σ ρ T Q S (au q (fun _ _ h=>h) fun x ρ' h F' H' s=>hz _ _ _ _ _ (h F' H' s))
theorem dB.imp {C:Cs} {Z Z':ZX} {te:TT} {f:ak→R Bool} (h:dB C Z te f) (hz:∀x F H σ ρ,Z' x F H σ ρ→Z x F H σ ρ):dB C Z' te f:=fun o F H σ ρ T Q S q=>h o F H σ ρ T Q S (au q (fun _ _ h=>h) fun x ρ' h F' H' s=>hz _ _ _ _ _ (h F' H' s))
abbrev W0:WX:=fun _ _ _ _=>False
section
variable {XR:cG} {M:Wd} {X:Cx} {C:Cs} {W:WX} {k:Nat} {N:List Str} {nm:List (Str × NameKind)} {fb:Str→Bool}
variable {e e2 a b c tg:Expr} {es:List Expr} {f fa fc:ak→R Val} {fs fk:ak→R (List Val)} {pos p pos' tpos:Pos} {x y:Str} {i j kk:Nat}
theorem JE.can (h:JE XR X C W e f):PE X e (X3 C (ZW XR W) f):=by
 obtain ⟨te,h1,h2⟩:=h
 refine ⟨fun pins s σ H Q I ⟨o,F,ρ,T,S,q⟩=>h1.run pins s σ H Q I (h2 o F H σ ρ T Q S q)⟩
theorem JT.can {f:ak→R Bool} (h:JT XR X C W e f):PT X e (abW C (ZW XR W) f):=by
 obtain ⟨te,h1,h2⟩:=h
 refine ⟨fun pins s σ H Q I ⟨o,F,ρ,T,S,q⟩=>h1.run pins s σ H Q I (h2 o F H σ ρ T Q S q)⟩
theorem JG.can {t:Tg} (h:JG X C e t):PG X e (X4 C t.slots (cZ t)):=by
 obtain ⟨g,h1,h2⟩:=h
 refine ⟨fun pins s σ H v u Q I r ⟨o,F,ρ,ρ',T,d,S,rd,n,hd,q⟩=>h1.run pins s σ H v u Q I r (h2 o F H σ ρ ρ' T d v Q S rd n hd q)⟩
/-! ### targets -/
theorem JG.n (G:Ctx M X C W k N nm fb) (i:Nat) (hi:(N[i]? == some x)=true) (hl:Cm nm fb x=true) (hL:C.L.contains i=false):JG X C (.Name x pos) (.n i):=by
 obtain ⟨h1,h2⟩:=oG G hl
 exact ⟨_,pg_name (by rw [G.hN]; exact G.nd) (by rw [G.hN]; exact beq_iff_eq.mp hi) h1 h2,Tc fun h=>by rw [List.contains_iff_mem.mpr h] at hL; cases hL⟩
theorem Tr.nil:Tr X C [] []:=⟨_,pgs_nil,Ca⟩
theorem Tr.cons {t:Tg} {ts:List Tg} (h:JG X C e t) (hs:Tr X C es ts) (ha:(assignEach (e::es) X.env).map (·.2)=assign e X.env::(assignEach es X.env).map (·.2):=by rfl):Tr X C (e::es) (t::ts):=by
 obtain ⟨g,h1,h2⟩:=h
 obtain ⟨gs,k1,k2⟩:=hs
 exact ⟨_,pgs_cons h1 k1 ha,yd h2 k2⟩
theorem JG.t {ts:List Tg} {n:Nat} (G:Ctx M X C W k N nm fb) (h:Tr X C es ts) (hl:(ts.length == n)=true) (hn:(assignEach es X.env).length=n:=by rfl) (hst:(assignEach es X.env).findIdx? (·.1)=none:=by rfl):JG X C (.Tuple es kk pos) (.t ts):=by
 obtain ⟨g,h1,h2⟩:=h
 refine ⟨_,Vw (n:=n) G.calm h1 hn hst,?_⟩
 rw [G.hK]
 exact Td (beq_iff_eq.mp hl) h2
/-! ### what is walked -/
theorem JI.seq (G:Ctx M X C W k N nm fb) (h:JE XR X C W e f):JI XR X C W tg e (cW f):=by
 obtain ⟨t,h1,h2⟩:=h
 refine ⟨_,Xr h1,?_⟩
 rw [G.hK]
 exact HW h2
theorem yG {n:Nat} {fs:ak→R (List Val)} (h:∀ρ ρ' as,fs ρ=.ok as ρ'→as.length=n):∀ρ ρ' as,aj f fs ρ=.ok as ρ'→as.length=n+1:=by
 intro ρ ρ' as q
 unfold aj at q
 cases z:f ρ with
 | bad=>rw [z] at q; cases q
 | exc x r=>rw [z] at q; cases q
 | ok a r =>
  rw [z] at q
  replace q:(fs r).bind (fun as ρ2=>R.ok (a::as) ρ2)=R.ok as ρ':=q
  cases z2:fs r with
  | bad=>rw [z2] at q; cases q
  | exc x r=>rw [z2] at q; cases q
  | ok bs r2 =>
   rw [z2] at q
   cases q
   rw [List.length_cons,h _ _ _ z2]
theorem Cq:∀ρ ρ' as,ao ρ=.ok as ρ'→as.length=0:=by
 intro ρ ρ' as q
 cases q
 rfl
theorem JI.rg1 (G:Ctx M X C W k N nm fb) (hm:M.mg "range"=none) (hg:qL nm "range"=true) (h:JE XR X C W e f) (hs:starEach [e] X.env=[(false,eval e X.env)]:=by rfl):JI XR X C W tg (.Call (.Name "range" p) [e] [] pos) (xZ (aj f ao)):=by
 obtain ⟨g1,_,_⟩:=cI G hg
 obtain ⟨t,h1,h2⟩:=h
 exact ⟨_,pi_range1 g1 (by rw [G.hmg]; exact hm) (pa_cons h1 pa_nil hs) hs,HX (pq h2 j8) (yG Cq)⟩
theorem JI.zip (G:Ctx M X C W k N nm fb) (hm:M.mg "zip"=none) (hg:qL nm "zip"=true) (h:JE XR X C W e f) (h':JE XR X C W e2 fa) (hs:starEach [e,e2] X.env=(false,eval e X.env)::starEach [e2] X.env:=by rfl) (hs2:starEach [e2] X.env=[(false,eval e2 X.env)]:=by rfl)
  (hpl:(backTo pos (starEach [e2] X.env)).any (·.1)=false:=by rfl):JI XR X C W (.Tuple es kk tpos) (.Call (.Name "zip" p) [e,e2] [] pos) (vM f fa):=by
 obtain ⟨g1,_,_⟩:=cI G hg
 obtain ⟨t,h1,h2⟩:=h
 obtain ⟨t',k1,k2⟩:=h'
 refine ⟨_,SN g1 (by rw [G.hmg]; exact hm) (pa_cons h1 (pa_cons k1 pa_nil hs2) hs) hs hpl,?_⟩
 rw [G.hK]
 exact HY h2 k2
/-! ### comprehensions -/
def Ms (N:List Str) (nm:List (Str × NameKind)) (scope:Scope) (own:List (Str × Nat)):Bool :=
 (scope.kind == .function)&&(scope.names.all fun y=>scope.names.lookup y.1 == some y.2)&&(own.all fun p=>N[p.2]? == some p.1) &&
 (scope.names.all fun y=>!(y.2 == .free) || (nm.lookup y.1 == some .cell || nm.lookup y.1 == some .free)) &&
 (scope.names.all fun y=>!(y.2 == .local || y.2 == .cell) || ((own.map (·.1)).contains y.1 || !N.contains y.1))
theorem DN (G:Ctx M X C W k N nm fb) {scope:Scope} {own:List (Str × Nat)} (h:Ms N nm scope own=true):BlkOk X.N X.env.scope scope own:=by
 unfold Ms at h
 simp only [Bool.and_eq_true,List.all_eq_true,beq_iff_eq,Bool.or_eq_true,Bool.not_eq_true',beq_eq_false_iff_ne,List.contains_iff_mem] at h
 obtain ⟨⟨⟨⟨h1,h2⟩,h3⟩,h4⟩,h5⟩:=h
 refine ⟨h1,h2,fun p hp=>by rw [G.hN]; exact h3 p hp,fun y hy hf=>?_,fun y hy hf=>?_⟩
 ·rw [G.hnm]
  rcases h4 y hy with h | h
  ·exact absurd hf h
  ·exact h
 ·rw [G.hN]
  rcases h5 y hy with h | h
  ·simp only [Bool.or_eq_false_iff,beq_eq_false_iff_ne] at h
   rcases hf with hf | hf
   ·exact absurd hf h.1
   ·exact absurd hf h.2
  ·rcases h with h | h
   ·exact .inl h
   ·right
    intro z
    rw [List.contains_iff_mem.mpr z] at h
    cases h
theorem Ctx.blk (G:Ctx M X C W k N nm fb) {scope:Scope} (hk:scope.kind=.function) (s:Shared) (H:Hp) (A:Addr) (cl:List (Str × Addr)) (fp:List Addr) :
  Ctx M (X.blk s H scope (compEnvC scope cl A X.env) fp) C W0 k N (XM scope.names nm) (fun x=>scope.names.lookup x == some .cell) where
 hP:=G.hP
 hw:=G.hw
 lX:=G.lX
 hmg:=G.hmg
 hbase:=G.hbase
 hK:=G.hK
 calm:=G.calm
 gd:=G.gd
 room:=G.room
 tk:=takes0
 hN:=G.hN
 nd:=G.nd
 hnm:=by
  show (relS scope X.env.scope).names=_
  unfold relS XM
  rw [G.hnm,G.hkd]
  simp only [beq_self_eq_true,Bool.and_true]
 hkd:=hk
 hfn:=fun x h=>h
def Mu (C:Cs) (own:List (Str × Nat)) (sl:List Nat):Bool:=(own.all fun p=>C.cs.contains p.2&&!C.L.contains p.2)&&sl.all fun i=>(own.map (·.2)).contains i
theorem Tz {own:List (Str × Nat)} {sl:List Nat} (h:Mu C own sl=true):(∀i∈own.map (·.2),i∈C.cs)∧(∀i∈own.map (·.2),i∉C.L)∧∀i∈sl,i∈own.map (·.2):=by
 unfold Mu at h
 simp only [Bool.and_eq_true,List.all_eq_true,Bool.not_eq_true',List.contains_iff_mem] at h
 refine ⟨fun i hi=>?_,fun i hi z=>?_,h.2⟩
 ·obtain ⟨p,hp,rfl⟩:=List.mem_map.mp hi
  exact (h.1 p hp).1
 ·obtain ⟨p,hp,rfl⟩:=List.mem_map.mp hi
  have:=(h.1 p hp).2
  rw [List.contains_iff_mem.mpr z] at this
  cases this
abbrev Blks (M:Wd) (X:Cx) (C:Cs) (k:Nat) (N:List Str) (nm:List (Str × NameKind)) (scope:Scope) (P:Cx→Prop):Prop :=
 ∀Y:Cx,Ctx M Y C W0 k N (XM scope.names nm) (fun x=>scope.names.lookup x == some .cell)→P Y
theorem yH {own:List (Str × Nat)} {t:Tg} {scope:Scope} {fi:ak→R (List D)} {ft:ak→R Bool} {fe:ak→R Val} {tt:TT} {wi:TI} (G:Ctx M X C W k N nm fb) (ok:Ms N nm scope own=true) (ho:Mu C own t.slots=true) (hi:ql C (ZW XR W) wi fi) (ht:dB C ZF tt ft) :
  Impl C (ZW XR W) (tLc wi (X4 C t.slots (cZ t)) tt (X3 C (ZW XR W0) fe) (own.map (·.2))) (gq (own.map (·.2)) fi (cZ t) ft fe):=by
 obtain ⟨o1,o2,o3⟩:=Tz ho
 exact Tf hi Ir ht (Io.imp fun x F H σ ρ h=>h.elim) o1 o2 o3
def gQ (ρ:ak):R Bool:=.ok true ρ
theorem Mv {Z:ZX}:dB C Z tYes gQ:=fun o F H σ ρ T Q S q=>q F H S
theorem JE.lc {elt iter:Expr} {scope:Scope} {t:Tg} {fi:ak→R (List D)} {fe:ak→R Val} (G:Ctx M X C W k N nm fb) (own:List (Str × Nat)) (ok:Ms N nm scope own=true) (ho:Mu C own t.slots=true) (hi:JI XR X C W tg iter fi)
  (hg:Blks M X C k N nm scope fun Y=>JG Y C tg t) (he:Blks M X C k N nm scope fun Y=>JE XR Y C W0 elt fe) (hs:∀x,foldedSetIterable iter X.env x=pure x:=by intro _; rfl) :
  JE XR X C W (.ListComp elt [⟨tg,iter,[],0⟩] scope pos) (gq (own.map (·.2)) fi (cZ t) gQ fe):=by
 obtain ⟨wi,i1,i2⟩:=hi
 have bk:=DN G ok
 exact ⟨_,pe_lc G.calm (by rw [G.hN]; exact G.nd) i1 bk (fun s H A cl fp=>(hg _ (G.blk bk.kind s H A cl fp)).can) (fun s H A cl fp=>pts_nil) (fun s H A cl fp=>(he _ (G.blk bk.kind s H A cl fp)).can) hs,yH G ok ho i2 Mv⟩
theorem JE.aeC {elt iter cond:Expr} {scope:Scope} {t:Tg} {fi:ak→R (List D)} {ft:ak→R Bool} {fe:ak→R Val} (G:Ctx M X C W k N nm fb) (own:List (Str × Nat)) (ok:Ms N nm scope own=true) (ho:Mu C own t.slots=true) (hi:JI XR X C W tg iter fi)
  (hg:Blks M X C k N nm scope fun Y=>JG Y C tg t) (ht:Blks M X C k N nm scope fun Y=>JT XR Y C W0 cond ft) (he:Blks M X C k N nm scope fun Y=>JE XR Y C W0 elt fe) (hs:∀x,foldedSetIterable iter X.env x=pure x:=by intro _; rfl) :
  JE XR X C W (.ListComp elt [⟨tg,iter,[cond],0⟩] scope pos) (gq (own.map (·.2)) fi (cZ t) ft fe):=by
 obtain ⟨wi,i1,i2⟩:=hi
 have bk:=DN G ok
 exact ⟨_,pe_lc G.calm (by rw [G.hN]; exact G.nd) i1 bk (fun s H A cl fp=>(hg _ (G.blk bk.kind s H A cl fp)).can) (fun s H A cl fp=>pts_one (ht _ (G.blk bk.kind s H A cl fp)).can) (fun s H A cl fp=>(he _ (G.blk bk.kind s H A cl fp)).can) hs,
  yH G ok ho i2 (Ip.imp fun x F H σ ρ h=>h.elim)⟩
/-! ### statements -/
theorem JB.nil:JB XR X C W [] (fun ρ=>.ok .nx ρ):=⟨_,pss_nil,ux⟩
theorem JB.cons {s:Stmt} {ss:List Stmt} {f g:ak→R Fl} (h:JS XR X C W s f) (h':JB XR X C W ss g):JB XR X C W (s::ss) (aR f g):=by
 obtain ⟨t,h1,h2⟩:=h
 obtain ⟨u,k1,k2⟩:=h'
 exact ⟨_,pss_cons h1 k1,Ce h2 k2⟩
theorem JB.one {s:Stmt} {f:ak→R Fl} (h:JS XR X C W s f):JB XR X C W [s] f:=by
 obtain ⟨t,h1,h2⟩:=h
 refine ⟨_,pss_cons h1 pss_nil,fun o F H σ ρ D S q=>h2 o F H σ ρ D S q⟩
theorem TF {L:List Nat} {i:Nat} (h:L.contains i=false):i∉L:=fun z=>by rw [List.contains_iff_mem.mpr z] at h; cases h
theorem JS.asg {keep:Bool} (G:Ctx M X C W k N nm fb) (i:Nat) (hi:(N[i]? == some x)=true) (hl:Cm nm fb x=true) (hL:C.L.contains i=false) (h:JE XR X C W e f) (hs:swapsWith e (some (.Name x pos')) pos.line X.env=pure false:=by rfl) :
  JS XR X C W (.Assign [.Name x pos'] e pos) (bV keep i f):=by
 obtain ⟨h1,h2⟩:=oG G hl
 obtain ⟨t,t1,t2⟩:=h
 exact ⟨_,ps_set (by rw [G.hN]; exact G.nd) (by rw [G.hN]; exact beq_iff_eq.mp hi) h1 t1 hs h2,Ib t2 (TF hL)⟩
theorem JS.cZ {t:Tg} (h:JE XR X C W e f) (hg:JG X C tg t) (hs:swapsWithSole [tg] e pos.line X.env=pure false:=by rfl) (hw:swappedStores [tg] e X.env=pure none:=by rfl) (h1:(assignEach [tg] X.env).map (·.2)=[assign tg X.env]:=by rfl) :
  JS XR X C W (.Assign [tg] e pos) (vN t f):=by
 obtain ⟨t',t1,t2⟩:=h
 obtain ⟨g,g1,g2⟩:=hg
 exact ⟨_,ps_asg t1 g1 hs hw h1,Cd t2 g2⟩
def uJ:Expr→Bool
 | .Starred ..=>true
 | _=>false
theorem X5 {px py pt pt2:Pos} {kt k2:Nat} (G:Ctx M X C W k N nm fb) (hx:(nm.lookup x == some .local)=true) (hy:(nm.lookup y == some .local)=true) (hne:(x == y)=false) (hln:(py.line == px.line)=true) (hst:(uJ a || uJ b)=false)
  (hf:[a,b].all (foldedForSure 8)=false) (hc:[a,b].all (constantsAlone 8)=false):swappedStores [.Tuple [.Name x px,.Name y py] kt pt] (.Tuple [a,b] k2 pt2) X.env=pure (some [x,y]):=by
 have kx:X.env.kindOf x=some .local:=by
  show X.env.scope.names.lookup x=some .local
  rw [G.hnm]; exact beq_iff_eq.mp hx
 have ky:X.env.kindOf y=some .local:=by
  show X.env.scope.names.lookup y=some .local
  rw [G.hnm]; exact beq_iff_eq.mp hy
 have kb:X.env.blockKind=.function:=by unfold Env.blockKind; rw [G.hkd]; rfl
 have ne':(y == x)=false:=by rw [BEq.comm]; exact hne
 unfold swappedStores
 simp only [kb,hf,hc,kx,ky,hln,List.filterMap_cons,List.filterMap_nil,List.head?_cons,Option.map_some,Option.getD_some,Expr.pos,beq_self_eq_true,Bool.and_true,if_true,List.length_cons,List.length_nil]
 have ed:[x,y].eraseDups=[x,y]:=by
  simp [List.eraseDups_cons,ne',hne,List.filter_cons,List.filter_nil]
 simp [ed]
 rw [Bool.or_eq_false_iff] at hst
 rintro (h | h)
 ·cases a <;> simp_all [uJ]
 ·cases b <;> simp_all [uJ]
theorem JS.par {k1 k2:Bool} {px py pt pt2:Pos} {kt kv:Nat} {fb':ak→R Val} (G:Ctx M X C W k N nm fb) (i j:Nat) (hi:(N[i]? == some x)=true) (hj:(N[j]? == some y)=true) (hij:(i == j)=false) (hx:(nm.lookup x == some .local)=true) (hy:(nm.lookup y == some .local)=true) (hne:(x == y)=false)
  (hL:C.L.contains i=false) (hL2:C.L.contains j=false) (ha:JE XR X C W a fa) (hb:JE XR X C W b fb')
  (hln:(py.line == px.line)=true:=by rfl) (hst:(uJ a || uJ b)=false:=by rfl) (hf:[a,b].all (foldedForSure 8)=false:=by rfl) (hc:[a,b].all (constantsAlone 8)=false:=by rfl)
  (hs:swapsWithSole [.Tuple [.Name x px,.Name y py] kt pt] (.Tuple [a,b] kv pt2) pos.line X.env=pure false:=by rfl) (hst2:starEach [a,b] X.env=(false,eval a X.env)::starEach [b] X.env:=by rfl) (hst3:starEach [b] X.env=(false,eval b X.env)::starEach [] X.env:=by rfl) :
  JS XR X C W (.Assign [.Tuple [.Name x px,.Name y py] kt pt] (.Tuple [a,b] kv pt2) pos) (rN k1 k2 i j fa fb'):=by
 obtain ⟨ta,a1,a2⟩:=ha
 obtain ⟨tb,b1,b2⟩:=hb
 exact ⟨_,ps_par G.calm (by rw [G.hN]; exact G.nd) (by rw [G.hN]; exact beq_iff_eq.mp hi) (by rw [G.hN]; exact beq_iff_eq.mp hj) (beq_eq_false_iff_ne.mp hij) (by rw [G.hnm]; exact beq_iff_eq.mp hx) (by rw [G.hnm]; exact beq_iff_eq.mp hy)
  (pa_cons a1 (pa_cons b1 pa_nil hst3) hst2) (X5 G hx hy hne hln hst hf hc) hs,Ie a2 b2 (TF hL) (TF hL2)⟩
theorem JS.ret (h:JE XR X C W e f):JS XR X C W (.Return (some e) pos) (cR C.L f):=by
 obtain ⟨t,h1,h2⟩:=h
 exact ⟨_,ps_ret h1,Ih h2⟩
theorem JS.ex (h:JE XR X C W e f) (hs:swapsWith e none pos.line X.env=pure false:=by rfl):JS XR X C W (.Expr e pos) (Dt f):=by
 obtain ⟨t,h1,h2⟩:=h
 exact ⟨_,ps_expr h1 hs,Lq h2⟩
theorem JS.brk:JS XR X C W (.Break pos) (fun ρ=>.ok .bk ρ):=⟨_,ps_break,Ig⟩
theorem JS.pass:JS XR X C W (.Pass pos) (fun ρ=>.ok .nx ρ):=⟨_,ps_pass,ux⟩
theorem JS.if {s1 s2:List Stmt} {ft:ak→R Bool} {g1 g2:ak→R Fl} (hc:JT XR X C W c ft) (h1:JB XR X C W s1 g1) (h2:JB XR X C W s2 g2):JS XR X C W (.If c s1 s2 pos) (kJ ft g1 g2):=by
 obtain ⟨t,c1,c2⟩:=hc
 obtain ⟨u,u1,u2⟩:=h1
 obtain ⟨v,v1,v2⟩:=h2
 exact ⟨_,ps_if c1 u1 v1,Lp c2 u2 v2⟩
theorem JS.for {iter:Expr} {body:List Stmt} {t:Tg} {fi:ak→R (List D)} {g:ak→R Fl} (G:Ctx M X C W k N nm fb) (po:PassesOwn (model X.prog X.w) X.A X.env X.xe) (hi:JI XR X C W tg iter fi) (hg:JG X C tg t) (hb:JB XR X C W body g) (hs:∀x,foldedSetIterable iter X.env x=pure x:=by intro _; rfl) :
  JS XR X C W (.For tg iter body [] pos) (runFor fi (DM.cZ t) g):=by
 obtain ⟨wi,i1,i2⟩:=hi
 obtain ⟨gg,g1,g2⟩:=hg
 obtain ⟨u,u1,u2⟩:=hb
 exact ⟨_,ps_for po G.calm i1 g1 u1 hs,Ii i2 g2 u2⟩
end
/-! ### a def -/
section
variable {XR:cG} {M:Wd} {X:Cx} {C:Cs} {W:WX} {k:Nat} {N:List Str} {nm:List (Str × NameKind)} {fb:Str→Bool} {e a:Expr} {f:ak→R Val} {pos:Pos} {x:Str}
theorem JE.Mr (h:JE XR X C W a f):JE XR X C W (.BoolOp .And [a] pos) f:=by
 obtain ⟨t,h1,h2⟩:=h
 exact ⟨t,⟨fun pins s σ H Q I q=>h1.run pins s σ H Q I q⟩,h2⟩
theorem JE.or1 (h:JE XR X C W a f):JE XR X C W (.BoolOp .Or [a] pos) f:=by
 obtain ⟨t,h1,h2⟩:=h
 exact ⟨t,⟨fun pins s σ H Q I q=>h1.run pins s σ H Q I q⟩,h2⟩
end
end DM
end
section
namespace DM
open PySem PySem.Spec PyProof.Rows L2
theorem TJ {P:Program} {w:World} {K:PySem.W.Frag} {mg mb:Str→Option Value} {k:Nat} {fa a:Addr} {fd:FuncData} {x:Str} {sp:Sp} {s₁:Shared} {vs:List Value} {ns:List Int}
  (kin:K.In s₁.heap) (hmg:s₁.heap.Ns mainGlobals mg) (hmb:s₁.heap.Ns builtinsNs mb) (hbb:∀x:Str,x ≠ "__name__"→mb x=bootBuiltins x) (hlim:s₁.heap.NoLimit) (hgen:s₁.gens=#[])
  (obj:s₁.heap.get? a=some { cls:=.type "list",data:=.seq vs.toArray }) (TQ:IntsAre vs ns) (hz:ns.length≤sizeLine) (room:Room k callerA)
  (fn:∀base:Heap,K.In base→base.Ns mainGlobals mg→mH P w K mg base k fa fd [x] sp) (bnd:∀(s:Shared) (u:Value),BindsTo s fd ⟨[u],[]⟩ [(x,u)])
  (hsp:∀H:Hp,Only H→SqL K H a (ns.map V.int)→sp [.ref a] H (fun v _=>v=.bl true) fun _ _ _=>False) :
  codeAny (model P w) callerA (.call (.ref fa) ⟨[.ref a],[]⟩) (fun r s'=>r=.ok (.ret (.bool true))∧OldK s₁.heap s'.heap∧s'.os=s₁.os∧AllBare s'.gens) s₁:=by
 have rel:=vals_ints TQ
 have nlen:=TQ.length
 have main:∀H:Hp,Only H→SqL K H a (ns.map V.int)→HOk P w H s₁.heap→(∀b,H b≠none→b=a)→(H a≠none→K.lookup a=none) →
   codeAny (model P w) callerA (.call (.ref fa) ⟨[.ref a],[]⟩) (fun r s'=>r=.ok (.ret (.bool true))∧OldK s₁.heap s'.heap∧s'.os=s₁.os∧AllBare s'.gens) s₁:=by
  intro H only seq ok just nokey
  have TV:∀{b:Addr} {o:Obj} {es:Array DictEntry} {ep:Nat},s₁.heap.get? b=some o→o.data=.dict es ep→H b=none:=by
   intro b o es ep e d
   cases q:H b with
   | none=>rfl
   | some u =>
    obtain rfl:b=a:=just b (by rw [q]; exact Option.some_ne_none u)
    rw [obj] at e
    cases e
    cases d
  have spaces:∀{b:Addr} {m:Str→Option Value},s₁.heap.Ns b m→(hidT s₁.heap H).Ns b m:=by
   rintro b m ⟨o,es,ep,e,d,rest⟩
   exact ⟨o,es,ep,hidT_get e (TV e d),d,rest⟩
  have kept:K.In (hidT s₁.heap H):=by
   intro b o e
   refine hidT_get (kin b o e) ?_
   cases q:H b with
   | none=>rfl
   | some u =>
    obtain rfl:b=a:=just b (by rw [q]; exact Option.some_ne_none u)
    rw [nokey (by rw [q]; exact Option.some_ne_none u)] at e
    cases e
  obtain ⟨mc,lim1,lim2⟩:=hlim
  have env:Env0 P w K mg (hidT s₁.heap H) callerA [] s₁ H :=
   ⟨rfl,⟨kept,spaces hmg,⟨mb,spaces hmb,hbb⟩,⟨mc,spaces lim1,lim2⟩⟩,fun b o e=>of_hidT e,Nat.le_of_eq (hidT_size _ _),trivial,(fun b hb=>by cases hb),ok,.of_eq hgen⟩
  refine codeAny_mono ((fn _ kept (spaces hmg)).run callerA [] s₁ H ⟨[.ref a],[]⟩ [.ref a] [.ref a] _ _ room rfl env (bnd s₁ (.ref a)) (.cons rfl .nil) (hsp H only seq)) fun res s' out=>?_
  cases res with
  | error er =>
   obtain ⟨_,_,_,_,_,_,_,_,_,_,_,_,z⟩:=out
   exact z.elim
  | ok fl =>
   cases fl with
   | next=>exact out.elim
   | brk=>exact out.elim
   | cont=>exact out.elim
   | ret u =>
    obtain ⟨v,H',os,bare,un,ok',ru,hv⟩:=out
    have hv':v=.bl true:=hv
    subst hv'
    obtain rfl:u=Value.bool true:=ru
    refine ⟨rfl,OldK.of_keep fun b o e=>?_,os,bare⟩
    rcases only b with z | ⟨ob,xs,z⟩
    ·exact un.keep b o e z (by intro z; cases z) (by intro z; cases z)
    ·obtain ⟨e1,_⟩:=ok b _ z
     obtain ⟨e2,_⟩:=ok' b _ (un.frzs b ob _ z)
     rw [e] at e1
     cases e1
     exact e2
 cases hk:K.lookup a with
 | some o =>
  have e:=kin a o hk
  rw [obj] at e
  cases e
  exact main (fun _=>none) (fun _=>.inl rfl) (.inr ⟨_,vs.toArray,_,hk,rfl,rfl,rfl,by rw [List.size_toArray,nlen]; exact hz,by simpa using rel⟩) (by intro b u z; cases z) (by intro b z; exact absurd rfl z) (by intro z; exact absurd rfl z)
 | none =>
  have abX:∀{b:Addr} {u:HO},(if b=a then some (HO.frz { cls:=.type "list",data:=.seq vs.toArray } (.lst (ns.map V.int))) else none)=some u→b=a∧u=.frz { cls:=.type "list",data:=.seq vs.toArray } (.lst (ns.map V.int)):=by
   intro b u z
   by_cases hb:b=a
   ·rw [if_pos hb] at z
    cases z
    exact ⟨hb,rfl⟩
   ·rw [if_neg hb] at z
    cases z
  refine main (fun b=>if b=a then some (.frz { cls:=.type "list",data:=.seq vs.toArray } (.lst (ns.map V.int))) else none) (fun b=>?_) (.inl (.inr ⟨{ cls:=.type "list",data:=.seq vs.toArray },if_pos rfl⟩)) (fun b u z=>?_) (fun b z=>?_) fun _=>hk
  ·by_cases hb:b=a
   ·exact .inr ⟨_,_,if_pos hb⟩
   ·exact .inl (if_neg hb)
  ·obtain ⟨rfl,rfl⟩:=abX z
   exact ⟨obj,by rw [List.length_map]; exact hz,vs,_,rel,obj⟩
  ·cases q:(if b=a then some (HO.frz { cls:=.type "list",data:=.seq vs.toArray } (.lst (ns.map V.int))) else none) with
   | none=>exact absurd q z
   | some u=>exact (abX q).1
open Att PySem.W in
theorem TX {l:PySem.W.OpenLaw} {n k:Nat} {q:Program} {loose:List Str} {XP:(Str→Option Value)→Heap→Prop} {YP:World→Heap→Prop} {d:DefRec} {K:Params→PySem.W.Frag} {x:Str} {L cs:List Nat} {XR:PySem.W.Frag→cG} {run:List En→R En}
  (hn:l.most=some n) (hn2:n≤sizeLine) (hdf:d.params.defaults=[]) (room:Room k callerA) (hY:∀(w:World) (h:Heap),YP w h→(K w.params).In h)
  (fn:∀(w:World) (mg:Str→Option Value) (fa:Addr) (h:Heap),(K w.params).In h→h.Ns mainGlobals mg→mg d.name=some (.ref fa) →
   ∃fd:FuncData,(∀(s:Shared) (u:Value),BindsTo s fd ⟨[u],[]⟩ [(x,u)]) ∧
    ∀base:Heap,(K w.params).In base→base.Ns mainGlobals mg→mH l.prog w (K w.params) mg base k fa fd [x] (nM (K w.params) 1 L cs (XR (K w.params)) run))
  (law:∀ns:List Int,ns.length≤n→(∀z∈ns,Builtin.Int.intBits z≤1048576)→∃ρ,run [.cJ (ns.map .int)]=.ok (.fr (.bl true)) ρ) :
  PySem.W.WalkO q loose XP YP l.row.toRowW d [] (fun f vs=>PySem.call f vs):=by
 refine Att.attach_callB hn hdf fun w s₀ s₁ mg mb fa o pm cd doc a vs ns grd Y ho hd hcd hmg obj TQ hlen bits hgen=>?_
 obtain ⟨fd,hb,hF⟩:=fn w mg fa _ (hY w _ Y) grd.T.g hmg
 refine TJ (hY w _ Y) grd.T.g grd.T.b grd.T.builtins grd.T.nolimit hgen obj TQ (Nat.le_trans hlen hn2) room hF hb fun H only seq=>?_
 obtain ⟨ρ,hr⟩:=law ns hlen bits
 refine ⟨rfl,H,[.cJ (ns.map .int)],Ext.refl H,.cons ⟨a,_,rfl,seq,aN.of_ints⟩ .nil,fun i j e e' v v' b ne h1 _ h3 _ w1=>?_,fun i e v b h1 _ w1=>?_,?_⟩
 ·cases i with
  | zero=>simp at h1; subst h1; exact w1.elim
  | succ i=>simp at h1
 ·cases i with
  | zero=>simp at h1; subst h1; exact w1.elim
  | succ i=>simp at h1
 ·rw [hr]
  intro F' H' σ' v S
  have r:Rp (K w.params) F' H' (.fr (.bl true)) v:=S.rep (.t 0) _ v rfl
  simpa only [Rp,Dq] using r
end DM
end
section
namespace DM
open PySem L2
theorem dF {α β:Type} (a:α) (ρ:ak) (g:α→ak→R β):(R.ok a ρ).bind g=g a ρ:=rfl
theorem DP {α:Type} (a:α) (ρ:ak):o9 (some a) ρ=.ok a ρ:=rfl
theorem DQ (ρ:ak) (e:En):look ρ (.en e)=some e:=rfl
theorem yI (ρ:ak) (i:Nat):look ρ (.bor i)=(ρ[i]?).join:=rfl
/-! names -/
def Mw (i:Nat) (ρ:ak):Option En→R Val
 | ⇑d=>.ok (.en (.fr d)) ρ
 | some (.cJ xs)=>.ok (.en (.cJ xs)) ρ
 | some _=>.ok (.bor i) ρ
 | none=>.bad
theorem yJ (i:Nat) (ρ:ak):aq i ρ=Mw i ρ (ρ[i]?).join:=by
 unfold aq Mw
 rcases (ρ[i]?).join with _ | e <;> rfl
theorem DR (i:Nat) (ρ:ak) (d:D):Mw i ρ (⇑d)=.ok (.en (.fr d)) ρ:=rfl
theorem yK (i:Nat) (ρ:ak) (xs:List D):Mw i ρ (some (.cJ xs))=.ok (.en (.cJ xs)) ρ:=rfl
theorem DW (i:Nat) (ρ:ak) (xs:List D):Mw i ρ (some (.ol xs))=.ok (.bor i) ρ:=rfl
def VG (ρ:ak):Option En→R Val
 | ⇑d=>.ok (.en (.fr d)) ρ
 | some (.cJ xs)=>.ok (.en (.cJ xs)) ρ
 | _=>.bad
theorem uK (i:Nat) (ρ:ak):bZ i ρ=VG ρ (ρ[i]?).join:=rfl
theorem yL (ρ:ak) (d:D):VG ρ (⇑d)=.ok (.en (.fr d)) ρ:=rfl
theorem Mx (d:D) (ρ:ak):runC d ρ=.ok (.en (.fr d)) ρ:=rfl
/-! operators -/
def k2c (g:En→En→Option En) (ρ:ak):Option En→Option En→R Val
 | some x,some y=>o9 ((g x y).map .en) ρ
 | _,_=>.bad
def k2b (g:En→En→Option En) (a b:Val) (ρ:ak):R Val:=k2c g ρ (look ρ a) (look ρ b)
def k2a (g:En→En→Option En) (fb:ak→R Val) (a:Val) (ρ:ak):R Val:=(fb ρ).bind (k2b g a)
theorem Mz (g:En→En→Option En) (fa fb:ak→R Val) (ρ:ak):aY g fa fb ρ=(fa ρ).bind (k2a g fb):=rfl
theorem VH (g:En→En→Option En) (fb:ak→R Val) (a:Val) (ρ:ak):k2a g fb a ρ=(fb ρ).bind (k2b g a):=rfl
theorem VJ (g:En→En→Option En) (a b:Val) (ρ:ak):k2b g a b ρ=k2c g ρ (look ρ a) (look ρ b):=rfl
theorem VL (g:En→En→Option En) (ρ:ak) (x y:En):k2c g ρ (some x) (some y)=o9 ((g x y).map .en) ρ:=rfl
def k1b (g:En→Option En) (ρ:ak):Option En→R Val
 | some x=>o9 ((g x).map .en) ρ
 | none=>.bad
def k1a (g:En→Option En) (a:Val) (ρ:ak):R Val:=k1b g ρ (look ρ a)
theorem MF (g:En→Option En) (fa:ak→R Val) (ρ:ak):BL g fa ρ=(fa ρ).bind (k1a g):=by
 unfold BL
 congr 1
 funext a ρ1
 unfold k1a k1b
 rcases look ρ1 a with _ | e <;> rfl
theorem VN (g:En→Option En) (a:Val) (ρ:ak):k1a g a ρ=k1b g ρ (look ρ a):=rfl
theorem VP (g:En→Option En) (ρ:ak) (x:En):k1b g ρ (some x)=o9 ((g x).map .en) ρ:=rfl
/-! tests -/
def kTB (a:Val) (ρ:ak):R Bool:=match look ρ a with
 | some e=>o9 (vH e) ρ
 | none=>.bad
theorem DY (f:ak→R Val) (ρ:ak):j9 f ρ=(f ρ).bind kTB:=rfl
theorem VR (b:Bool) (ρ:ak):kTB (.en (.fr (.bl b))) ρ=.ok b ρ:=rfl
def kTb (ρ:ak):Option En→R Bool
 | some e=>o9 (Ho e) ρ
 | none=>.bad
def kT (a:Val) (ρ:ak):R Bool:=kTb ρ (look ρ a)
theorem MJ (f:ak→R Val) (ρ:ak):qZ f ρ=(f ρ).bind kT:=by
 unfold qZ kT kTb
 rfl
theorem abY (a:Val) (ρ:ak):kT a ρ=kTb ρ (look ρ a):=rfl
theorem V1 (ρ:ak) (e:En):kTb ρ (some e)=o9 (Ho e) ρ:=rfl
theorem Ea (b:Bool):Ho (.fr (.bl b))=some b:=rfl
def V2 (a:Bool) (ρ:ak):R Bool:=.ok (!a) ρ
theorem uL (f:ak→R Bool) (ρ:ak):lF f ρ=(f ρ).bind V2:=rfl
theorem Eb (a:Bool) (ρ:ak):V2 a ρ=.ok (!a) ρ:=rfl
def MK (g:ak→R Bool) (a:Bool) (ρ:ak):R Bool:=match a with | true=>g ρ | false=>.ok false ρ
def X6 (g:ak→R Bool) (a:Bool) (ρ:ak):R Bool:=match a with | true=>.ok true ρ | false=>g ρ
theorem uM (f g:ak→R Bool) (ρ:ak):nY f g ρ=(f ρ).bind (MK g):=rfl
theorem yM (f g:ak→R Bool) (ρ:ak):kh f g ρ=(f ρ).bind (X6 g):=rfl
theorem Ec (g:ak→R Bool) (ρ:ak):MK g true ρ=g ρ:=rfl
theorem Ed (g:ak→R Bool) (ρ:ak):MK g false ρ=.ok false ρ:=rfl
theorem MN (g:ak→R Bool) (ρ:ak):X6 g true ρ=.ok true ρ:=rfl
theorem MP (g:ak→R Bool) (ρ:ak):X6 g false ρ=g ρ:=rfl
def kIf {α:Type} (fa fb:ak→R α) (a:Bool) (ρ:ak):R α:=match a with | true=>fa ρ | false=>fb ρ
theorem Ef {α:Type} (ft:ak→R Bool) (fa fb:ak→R α) (ρ:ak):kJ ft fa fb ρ=(ft ρ).bind (kIf fa fb):=rfl
theorem V3 {α:Type} (fa fb:ak→R α) (ρ:ak):kIf fa fb true ρ=fa ρ:=rfl
theorem V4 {α:Type} (fa fb:ak→R α) (ρ:ak):kIf fa fb false ρ=fb ρ:=rfl
def M4 (fb:ak→R Val) (a:Val) (ρ:ak):R Val:=match (look ρ a).bind vH with
 | some true=>fb ρ
 | some false=>.ok (.en (.fr (.bl false))) ρ
 | none=>.bad
def X7 (fb:ak→R Val) (a:Val) (ρ:ak):R Val:=match (look ρ a).bind vH with
 | some true=>.ok (.en (.fr (.bl true))) ρ
 | some false=>fb ρ
 | none=>.bad
def V5 (a:Val) (ρ:ak):R Val:=match (look ρ a).bind vH with
 | some b=>.ok (.en (.fr (.bl (!b)))) ρ
 | none=>.bad
theorem uN (fa fb:ak→R Val) (ρ:ak):fM fa fb ρ=(fa ρ).bind (M4 fb):=rfl
theorem yN (fa fb:ak→R Val) (ρ:ak):vI fa fb ρ=(fa ρ).bind (X7 fb):=rfl
theorem uO (fa:ak→R Val) (ρ:ak):nZ fa ρ=(fa ρ).bind V5:=rfl
theorem Eh (fb:ak→R Val) (ρ:ak):M4 fb (.en (.fr (.bl true))) ρ=fb ρ:=rfl
theorem Ei (fb:ak→R Val) (ρ:ak):M4 fb (.en (.fr (.bl false))) ρ=.ok (.en (.fr (.bl false))) ρ:=rfl
theorem M5 (fb:ak→R Val) (ρ:ak):X7 fb (.en (.fr (.bl true))) ρ=.ok (.en (.fr (.bl true))) ρ:=rfl
theorem M6 (fb:ak→R Val) (ρ:ak):X7 fb (.en (.fr (.bl false))) ρ=fb ρ:=rfl
theorem Ek (b:Bool) (ρ:ak):V5 (.en (.fr (.bl b))) ρ=.ok (.en (.fr (.bl (!b)))) ρ:=rfl
/-! argument lists -/
def Cr (a:Val) (as:List Val) (ρ:ak):R (List Val):=.ok (a::as) ρ
def V6 (fs:ak→R (List Val)) (a:Val) (ρ:ak):R (List Val):=(fs ρ).bind (Cr a)
theorem uP (fa:ak→R Val) (fs:ak→R (List Val)) (ρ:ak):aj fa fs ρ=(fa ρ).bind (V6 fs):=rfl
theorem El (fs:ak→R (List Val)) (a:Val) (ρ:ak):V6 fs a ρ=(fs ρ).bind (Cr a):=rfl
theorem yO (a:Val) (as:List Val) (ρ:ak):Cr a as ρ=.ok (a::as) ρ:=rfl
theorem yP (ρ:ak):ao ρ=.ok [] ρ:=rfl
def M7:Option En→Option (List En)→Option (List En)
 | some e,some es=>some (e::es)
 | _,_=>none
theorem uQ (ρ:ak):looks ρ []=some []:=rfl
theorem rW (ρ:ak) (a:Val) (as:List Val):looks ρ (a::as)=M7 (look ρ a) (looks ρ as):=by
 rw [looks]
 rcases look ρ a with _ | e <;> rcases looks ρ as with _ | es <;> rfl
theorem yQ (e:En) (es:List En):M7 (some e) (some es)=some (e::es):=rfl
def TY (g:List En→Option En) (ρ:ak):Option (List En)→R Val
 | some es=>o9 ((g es).map .en) ρ
 | none=>.bad
def kCB (g:List En→Option En) (as:List Val) (ρ:ak):R Val:=TY g ρ (looks ρ as)
theorem Em (g:List En→Option En) (fs:ak→R (List Val)) (ρ:ak):fJ g fs ρ=(fs ρ).bind (kCB g):=by
 unfold fJ kCB TY
 rfl
theorem V7 (g:List En→Option En) (as:List Val) (ρ:ak):kCB g as ρ=TY g ρ (looks ρ as):=rfl
theorem M8 (g:List En→Option En) (ρ:ak) (es:List En):TY g ρ (some es)=o9 ((g es).map .en) ρ:=rfl
def kTup (as:List Val) (ρ:ak):R Val:=match datas ρ as with
 | some ds=>if ds.length≤sizeLine then .ok (.en (.fr (.tup ds))) ρ else .bad
 | none=>.bad
def yR (as:List Val) (ρ:ak):R Val:=match datas ρ as with
 | some ds=>if ds.length≤sizeLine then .ok (.en (.ol ds)) ρ else .bad
 | none=>.bad
theorem yS (fs:ak→R (List Val)) (ρ:ak):aP fs ρ=(fs ρ).bind kTup:=rfl
theorem yU (fs:ak→R (List Val)) (ρ:ak):aU fs ρ=(fs ρ).bind yR:=rfl
def unD:List Val→Option (List D)
 | []=>some []
 | .en (.fr d)::as=>(unD as).map (d::·)
 | _=>none
theorem pG (ρ:ak):∀as:List Val,datas ρ as=unD as
 | []=>rfl
 | .en (.fr d)::as=>by
  show (match datas ρ as with | some ds=>some (d::ds) | none=>none)=(unD as).map (d::·)
  rw [pG ρ as]
  cases unD as <;> rfl
 | .en (.ol _)::as=>rfl
 | .en (.od _ _)::as=>rfl
 | .en (.on _ _)::as=>rfl
 | .en (.cJ _)::as=>rfl
 | .en (.ex _)::as=>rfl
 | .en (.jW _)::as=>rfl
 | .en (.ob _)::as=>rfl
 | .en (.exs _)::as=>rfl
 | .bor _::as=>rfl
theorem M9 {as:List Val} {ds:List D} (ρ:ak) (h:unD as=some ds) (hz:ds.length≤100):kTup as ρ=.ok (.en (.fr (.tup ds))) ρ:=by
 unfold kTup
 rw [pG,h]
 simp only
 rw [if_pos (Nat.le_trans hz (by decide))]
theorem rY {as:List Val} {ds:List D} (ρ:ak) (h:unD as=some ds) (hz:ds.length≤100):yR as ρ=.ok (.en (.ol ds)) ρ:=by
 unfold yR
 rw [pG,h]
 simp only
 rw [if_pos (Nat.le_trans hz (by decide))]
theorem V8 (a b:D) (ρ:ak):kTup [.en (.fr a),.en (.fr b)] ρ=.ok (.en (.fr (.tup [a,b]))) ρ:=M9 ρ rfl (by simp)
theorem V9 (a b c:D) (ρ:ak):kTup [.en (.fr a),.en (.fr b),.en (.fr c)] ρ=.ok (.en (.fr (.tup [a,b,c]))) ρ:=M9 ρ rfl (by simp)
theorem Wb (ρ:ak):yR [] ρ=.ok (.en (.ol [])) ρ:=rY ρ rfl (by simp)
theorem Wc (a:D) (ρ:ak):yR [.en (.fr a)] ρ=.ok (.en (.ol [a])) ρ:=rY ρ rfl (by simp)
theorem Wi (a b:D) (ρ:ak):yR [.en (.fr a),.en (.fr b)] ρ=.ok (.en (.ol [a,b])) ρ:=rY ρ rfl (by simp)
theorem Wj (a b c:D) (ρ:ak):yR [.en (.fr a),.en (.fr b),.en (.fr c)] ρ=.ok (.en (.ol [a,b,c])) ρ:=rY ρ rfl (by simp)
theorem Wk (a b c d:D) (ρ:ak):yR [.en (.fr a),.en (.fr b),.en (.fr c),.en (.fr d)] ρ=.ok (.en (.ol [a,b,c,d])) ρ:=rY ρ rfl (by simp)
/-! KJ, keeping -/
def kFr (a:Val) (ρ:ak):R Val:=match frz a ρ with
 | some (e,ρ2)=>.ok (.en e) ρ2
 | none=>.bad
theorem Cu (f:ak→R Val) (ρ:ak):bL f ρ=(f ρ).bind kFr:=rfl
theorem Nb (d:D) (ρ:ak):kFr (.en (.fr d)) ρ=.ok (.en (.fr d)) ρ:=rfl
theorem Nf (xs:List D) (ρ:ak):kFr (.en (.ol xs)) ρ=.ok (.en (.fr (.lst xs))) ρ:=rfl
theorem Eo (xs:List D) (ρ:ak):kFr (.en (.cJ xs)) ρ=.ok (.en (.cJ xs)) ρ:=rfl
def X8 (i:Nat) (ρ:ak):Option En→R Val
 | some e=>.ok (.en e.fz) (ρ.set i (some e.fz))
 | none=>.bad
theorem Ep (i:Nat) (ρ:ak):kFr (.bor i) ρ=X8 i ρ (ρ[i]?).join:=by
 unfold kFr frz X8
 simp only
 rcases (ρ[i]?).join with _ | e <;> rfl
theorem Es (i:Nat) (ρ:ak) (xs:List D):X8 i ρ (some (.ol xs))=.ok (.en (.fr (.lst xs))) (ρ.set i (⇑(.lst xs))):=rfl
def kK (keep:Bool) (a:Val) (ρ:ak):R En:=runK.abG (take keep a ρ)
theorem Nh (keep:Bool) (f:ak→R Val) (ρ:ak):runK keep f ρ=(f ρ).bind (kK keep):=rfl
theorem Et (d:D) (ρ:ak):kK false (.en (.fr d)) ρ=.ok (.fr d) ρ:=rfl
theorem Eu (xs:List D) (ρ:ak):kK false (.en (.ol xs)) ρ=.ok (.fr (.lst xs)) ρ:=rfl
theorem yV (xs:List D) (ρ:ak):kK false (.en (.cJ xs)) ρ=.ok (.cJ xs) ρ:=rfl
theorem abZ (e:En) (ρ:ak):kK true (.en e) ρ=.ok e ρ:=rfl
def kKB (i:Nat) (ρ:ak):Option En→R En
 | some e=>.ok e (ρ.set i none)
 | none=>.bad
theorem yW (i:Nat) (ρ:ak):kK true (.bor i) ρ=kKB i ρ (ρ[i]?).join:=by
 unfold kK take kKB
 simp only
 rcases (ρ[i]?).join with _ | e <;> rfl
theorem Wm (i:Nat) (ρ:ak) (e:En):kKB i ρ (some e)=.ok e (ρ.set i none):=rfl
def kKF (i:Nat) (ρ:ak):Option En→R En
 | some e=>.ok e.fz (ρ.set i (some e.fz))
 | none=>.bad
theorem yX (i:Nat) (ρ:ak):kK false (.bor i) ρ=kKF i ρ (ρ[i]?).join:=by
 unfold kK take frz kKF
 simp only
 rcases (ρ[i]?).join with _ | e <;> rfl
theorem Nk (i:Nat) (ρ:ak) (xs:List D):kKF i ρ (some (.ol xs))=.ok (.fr (.lst xs)) (ρ.set i (⇑(.lst xs))):=rfl
/-! statements -/
def Nm (g:ak→R Fl) (fl:Fl) (ρ:ak):R Fl:=match fl with
 | .nx=>g ρ
 | fl=>.ok fl ρ
theorem pH (f g:ak→R Fl) (ρ:ak):aR f g ρ=(f ρ).bind (Nm g):=rfl
theorem rZ (g:ak→R Fl) (ρ:ak):Nm g .nx ρ=g ρ:=rfl
theorem yZ (g:ak→R Fl) (e:En) (ρ:ak):Nm g (.rt e) ρ=.ok (.rt e) ρ:=rfl
def Yb (i:Nat) (e:En) (ρ:ak):R Fl:=if i<ρ.length then .ok .nx (ρ.set i (some e)) else .bad
theorem za (keep:Bool) (i:Nat) (f:ak→R Val) (ρ:ak):bV keep i f ρ=(runK keep f ρ).bind (Yb i):=rfl
def Ew (i j:Nat) (e e':En) (ρ:ak):R Fl:=if i<ρ.length∧j<ρ.length then .ok .nx ((ρ.set i (some e)).set j (some e')) else .bad
def acd (k2:Bool) (i j:Nat) (g:ak→R Val) (e:En) (ρ:ak):R Fl:=(runK k2 g ρ).bind (Ew i j e)
theorem zf (k1 k2:Bool) (i j:Nat) (f g:ak→R Val) (ρ:ak):rN k1 k2 i j f g ρ=(runK k1 f ρ).bind (acd k2 i j g):=rfl
theorem Np (k2:Bool) (i j:Nat) (g:ak→R Val) (e:En) (ρ:ak):acd k2 i j g e ρ=(runK k2 g ρ).bind (Ew i j e):=rfl
def ace (L:List Nat) (a:Val) (ρ:ak):R Fl:=match take (Xx L a) a ρ with
 | some (e,ρ2)=>.ok (.rt e) ρ2
 | none=>.bad
theorem zj (L:List Nat) (f:ak→R Val) (ρ:ak):cR L f ρ=(f ρ).bind (ace L):=rfl
theorem Ey (L:List Nat) (e:En) (ρ:ak):ace L (.en e) ρ=.ok (.rt e) ρ:=rfl
def acf (i:Nat) (ρ:ak):Option En→R Fl
 | some e=>.ok (.rt e) (ρ.set i none)
 | none=>.bad
theorem Ez (i:Nat) (ρ:ak) (e:En):acf i ρ (some e)=.ok (.rt e) (ρ.set i none):=rfl
def kEx (_:Val) (ρ:ak):R Fl:=.ok .nx ρ
theorem EY (f:ak→R Val) (ρ:ak):Dt f ρ=(f ρ).bind kEx:=rfl
theorem Wn (a:Val) (ρ:ak):kEx a ρ=.ok .nx ρ:=rfl
def Yc (fl:Fl) (ρ:ak):R En:=match fl with
 | .nx=>.ok (.fr .non) ρ
 | .rt e=>.ok e ρ
 | _=>.bad
theorem su (N:Nat) (body:ak→R Fl) (es:List En):gG N body es=(body (vP N es)).bind Yc:=rfl
theorem Fb (ρ:ak):Yc .nx ρ=.ok (.fr .non) ρ:=rfl
theorem vU (e:En) (ρ:ak):Yc (.rt e) ρ=.ok e ρ:=rfl
/-! stores -/
def slO:Option En→Option (List D)
 | some (.ol xs)=>some xs
 | _=>none
theorem Fd (ρ:ak) (i:Nat):mD ρ i=slO (ρ[i]?).join:=by
 unfold mD slO
 rcases (ρ[i]?).join with _ | e
 ·rfl
 ·cases e <;> rfl
theorem Nq (xs:List D):slO (some (.ol xs))=some xs:=rfl
def Nr (x:Nat) (ρ:ak) (v:Val):Option Int→Option (List D)→R Fl
 | some i,some xs=>match v with
  | .en (.fr d)=>match ixN xs.length i with
   | some j=>.ok .nx (ρ.set x (some (.ol (xs.set j d))))
   | none=>.bad
  | _=>.bad
 | _,_=>.bad
def Nt (x:Nat) (v k:Val) (ρ:ak):R Fl:=Nr x ρ v ((look ρ k).bind iw) (mD ρ x)
def Fe (x:Nat) (fi:ak→R Val) (v:Val) (ρ:ak):R Fl:=match (ρ[x]?).join with
 | none=>.bad
 | some _=>(fi ρ).bind (Nt x v)
theorem zm (x:Nat) (fe fi:ak→R Val) (ρ:ak):Lw x fe fi ρ=(bL fe ρ).bind (Fe x fi):=by
 unfold Lw
 congr 1
 funext v ρ1
 unfold Fe
 rcases (ρ1[x]?).join with _ | e
 ·rfl
 ·simp only
  congr 1
  funext k ρ2
  unfold Nt Nr
  rcases (look ρ2 k).bind iw with _ | i <;> rcases mD ρ2 x with _ | xs
  ·rcases v with e | b <;> try rfl
   cases e <;> rfl
  ·rcases v with e | b <;> try rfl
   cases e <;> rfl
  ·rcases v with e | b <;> try rfl
   cases e <;> rfl
  ·rcases v with e | b <;> try rfl
   cases e <;> rfl
theorem Fg (x:Nat) (v k:Val) (ρ:ak):Nt x v k ρ=Nr x ρ v ((look ρ k).bind iw) (mD ρ x):=rfl
def T5 (L:List Nat) (run:List En→R En) (vals:List Val) (ρ:ak):R Val:=match looks ρ vals with
 | some es=>if lu L 0 vals=true∧(gH vals).Nodup then uE vals ρ (run es) else .bad
 | none=>.bad
def Wo (n m:Nat) (L perm:List Nat) (run:List En→R En) (as bs:List Val) (ρ:ak):R Val:=if as.length=n∧bs.length=m then T5 L run (cV (.en (.fr .non)) perm (as++bs)) ρ else .bad
def kC1 (n m:Nat) (L perm:List Nat) (run:List En→R En) (fk:ak→R (List Val)) (as:List Val) (ρ:ak):R Val:=(fk ρ).bind (Wo n m L perm run as)
theorem uR (n m:Nat) (L perm:List Nat) (run:List En→R En) (fs fk:ak→R (List Val)) (ρ:ak):cO n m L perm run fs fk ρ=(fs ρ).bind (kC1 n m L perm run fk):=rfl
theorem Wq (n m:Nat) (L perm:List Nat) (run:List En→R En) (fk:ak→R (List Val)) (as:List Val) (ρ:ak):kC1 n m L perm run fk as ρ=(fk ρ).bind (Wo n m L perm run as):=rfl
section
variable {L:List Nat} {run:List En→R En} {a b c:Val} {ρ:ak}
theorem Wr:Wo 1 0 L [0] run [a] [] ρ=T5 L run [a] ρ:=rfl
theorem Ws:Wo 2 0 L [0,1] run [a,b] [] ρ=T5 L run [a,b] ρ:=rfl
theorem Wt:Wo 3 0 L [0,1,2] run [a,b,c] [] ρ=T5 L run [a,b,c] ρ:=rfl
theorem Nu:Wo 0 1 L [0] run [] [a] ρ=T5 L run [a] ρ:=rfl
theorem Nv:Wo 0 2 L [0,1] run [] [a,b] ρ=T5 L run [a,b] ρ:=rfl
theorem Fj:Wo 0 2 L [1,0] run [] [a,b] ρ=T5 L run [b,a] ρ:=rfl
theorem Yd {e:En} {r:En} {ρ':ak} (h:run [e]=.ok r ρ'):T5 L run [.en e] ρ=.ok (.en r) ρ:=by
 unfold T5
 simp only [looks,look,lu,VB,gH,h,uE,gJ,Bool.and_self,List.nodup_nil,and_self,if_true]
end
/-! operators on ints -/
section
variable {i j:Int}
theorem Ny:dN (.fr (.int i)) (.fr (.int j))=↥(i+j):=rfl
theorem Nz:gSub (.fr (.int i)) (.fr (.int j))=↥(i - j):=rfl
theorem Ye (h:0<j):vR (.fr (.int i)) (.fr (.int j))=↥(i%j):=by
 unfold vR KZ
 have e:Vs i j=true:=decide_eq_true h
 simp only [iw,e,if_true]
theorem Wu:gLt (.fr (.int i)) (.fr (.int j))=⇑(.bl (decide (i<j))):=rfl
theorem Wv:gLe (.fr (.int i)) (.fr (.int j))=⇑(.bl (decide (i≤j))):=rfl
theorem Ww:gGt (.fr (.int i)) (.fr (.int j))=⇑(.bl (decide (j<i))):=rfl
theorem Wx:gGe (.fr (.int i)) (.fr (.int j))=⇑(.bl (decide (j≤i))):=rfl
theorem NK (xs:List D):HD (.ol xs) (.fr (.int i))=(atI xs i).map .fr:=rfl
theorem Fo (xs:List D):HD (.fr (.lst xs)) (.fr (.int i))=(atI xs i).map .fr:=rfl
theorem Fp (xs:List D):HD (.fr (.tup xs)) (.fr (.int i))=(atI xs i).map .fr:=rfl
theorem Fq (xs:List D):HD (.cJ xs) (.fr (.int i))=(atI xs i).map .fr:=rfl
theorem Wy:iw (.fr (.int i))=some i:=rfl
end
end DM
end
section
namespace DM
open PySem L2
abbrev acg (a b c:Int):En:=.ol [.int a,.int b,.int c]
theorem Yg {n k:Nat} (h:n<2^k) (hk:0<k):n.log2<k:=by
 by_cases h0:n=0
 ·subst h0; simpa using hk
 ·exact (Nat.log2_lt h0).mpr h
def zp (m:Int) (e:En):Prop:=∃a b c,e=acg a b c∧0≤a∧0≤b∧b<2^62∧0≤c∧c+m<2^40
theorem zp.mono {m m':Int} {e:En} (h:zp m e) (hm:m'≤m):zp m' e:=by
 obtain ⟨a,b,c,h1,h2,h3,h4,h5,h6⟩:=h
 exact ⟨a,b,c,h1,h2,h3,h4,h5,by omega⟩
end DM
end
section
set_option exponentiation.threshold 10000
namespace DM
open PySem L2
/-! loops by an invariant -/
theorem NP {own:List Nat} {fi:ak→R (List D)} {fg:D→ak→Option ak} {ft:ak→R Bool} {fe:ak→R Val} {ρ ρ1 ρF:ak} {ds acc:List D} (h:fi ρ=.ok ds ρ1) (hf:iz ρ1 own=true) (hl:yg own fg ft fe ds (cX ρ1 own) []=.ok acc ρF) :
  gq own fi fg ft fe ρ=.ok (.en (.ol acc)) (putBack ρ1 ρF own):=by
 unfold gq
 rw [h,dF,if_pos hf,hl]
theorem p7:(10:Int)^(7*(0+1))=10000000:=by decide
theorem zp.en {m:Int} {e:En} (h:zp m e):∃a b c,e=acg a b c:=by obtain ⟨a,b,c,h,_⟩:=h; exact ⟨a,b,c,h⟩
def Fine (n:Nat) (d:D):Prop:=(toP d).canLay0=true∧(toP d).depth≤n
theorem NQ {n:Nat} (i:Int):Fine n (.int i):=⟨by simp [toP,PyData.canLay0],by simp [toP,PyData.depth]⟩
theorem Ft {n:Nat} (i:Bool):Fine n (.bl i):=⟨by simp [toP,PyData.canLay0],by simp [toP,PyData.depth]⟩
theorem zq {n:Nat}:Fine n .non:=⟨by simp [toP,PyData.canLay0],by simp [toP,PyData.depth]⟩
theorem NT {n:Nat}:∀{xs:List D},(∀x∈xs,Fine n x)→PyData.canLayAll0 (iU xs)=true∧PyData.depthAll (iU xs)≤n
 | [],_=>⟨by simp [iU,PyData.canLayAll0],by simp [iU,PyData.depthAll]⟩
 | x::xs,h=>by
  obtain ⟨h1,h2⟩:=h x List.mem_cons_self
  obtain ⟨h3,h4⟩:=NT fun y hy=>h y (List.mem_cons_of_mem _ hy)
  unfold iU PyData.canLayAll0 PyData.depthAll
  exact ⟨by rw [h1,h3]; rfl,by omega⟩
theorem NZ {n:Nat} {xs:List D} (h:∀x∈xs,Fine n x):Fine (n+1) (.lst xs):=by
 obtain ⟨h1,h2⟩:=NT h
 exact ⟨by unfold toP PyData.canLay0; exact h1,by unfold toP PyData.depth; omega⟩
theorem Oa {n:Nat} {xs:List D} (h:∀x∈xs,Fine n x):Fine (n+1) (.tup xs):=by
 obtain ⟨h1,h2⟩:=NT h
 exact ⟨by unfold toP PyData.canLay0; exact h1,by unfold toP PyData.depth; omega⟩
theorem Fine.sh {n:Nat} {d:D} (h:Fine n d) (hn:n≤64):Vu d=true:=by
 unfold Vu SeqAt.shaped
 rw [h.1,decide_eq_true (Nat.le_trans h.2 hn)]
 rfl
end DM
end
section
set_option exponentiation.threshold 10000
namespace DM
open PySem L2
end DM
end
section
set_option exponentiation.threshold 10000
namespace DM
open PySem L2
theorem Oc {f:ak→R Val} {ρ ρ1:ak} {d:D} (h:f ρ=.ok (.en (.fr d)) ρ1):bL f ρ=.ok (.en (.fr d)) ρ1:=by
 rw [Cu,h]
 rfl
end DM
end
section
set_option exponentiation.threshold 10000
namespace DM
open PySem L2
end DM
end
section
set_option exponentiation.threshold 10000
set_option maxHeartbeats 100000
namespace DM
open PySem L2
end DM
end
section
set_option exponentiation.threshold 10000
namespace DM
open PySem L2
end DM
end
section
set_option exponentiation.threshold 10000
namespace DM
open PySem L2
theorem jf {f:ak→R Val} {ρ ρ1 ρ2:ak} {a:Val} {e:En} {xs:List D} (h:f ρ=.ok a ρ1) (hf:frz a ρ1=some (e,ρ2)) (hi:e.items=some xs):cW f ρ=.ok xs ρ2:=by
 unfold cW
 rw [h,dF]
 simp only [hf,hi,DP]
theorem Od {f:ak→R Val} {fl fh:ak→R (Option Int)} {ρ ρ1 ρ2 ρ3:ak} {a:Val} {lo hi:Option Int} {e e':En} (h:f ρ=.ok a ρ1) (h1:fl ρ1=.ok lo ρ2) (h2:fh ρ2=.ok hi ρ3) (he:look ρ3 a=some e) (hg:gSl e lo hi=some e'):qC f fl fh ρ=.ok (.en e') ρ3:=by
 unfold qC
 rw [h,dF,h1,dF,h2,dF]
 simp only [he,hg,Option.map_some,DP]
theorem Yh {α:Type} (xs:List α) (k:Nat):cutD xs none (some (k:Nat))=xs.take k:=by
 unfold cutD
 rw [HT.sIx_none,HT.sIx_nat,List.drop_zero,Nat.sub_zero]
 by_cases h:k≤xs.length
 ·rw [Nat.min_eq_left h]
 ·rw [Nat.min_eq_right (by omega),List.take_length,List.take_of_length_le (by omega)]
end DM
end
section
set_option exponentiation.threshold 10000
namespace DM
open PySem L2
end DM
end
section
namespace DM
open PySem L2
mutual
theorem Yi:∀d:PyData,d.canLay0=true→PyData.eqv d d=true
 | .none,_=>by simp [PyData.eqv]
 | .bool b,_=>by simp [PyData.eqv]
 | .int b,_=>by simp [PyData.eqv]
 | .str b,_=>by simp [PyData.eqv]
 | .list xs,h=>by
  unfold PyData.eqv
  exact pJ xs (by simpa only [PyData.canLay0] using h)
 | .tuple xs,h=>by
  unfold PyData.eqv
  exact pJ xs (by simpa only [PyData.canLay0] using h)
 | .dict _,h=>by simp [PyData.canLay0] at h
theorem pJ:∀ds:List PyData,PyData.canLayAll0 ds=true→PyData.eqvAll ds ds=true
 | [],_=>by simp [PyData.eqvAll]
 | d::ds,h=>by
  unfold PyData.canLayAll0 at h
  rw [Bool.and_eq_true] at h
  unfold PyData.eqvAll
  rw [Yi d h.1,pJ ds h.2]
  rfl
end
end DM
end
section
namespace DM
open PySem L2
end DM
end
section
namespace DM
open PySem L2
theorem T6 (bs:List Bool):vO [.ol (bs.map .bl)]=⇑(.bl (bs.all id)):=by
 unfold vO Ly
 simp [Bv]
end DM
end
section
namespace DM
open PySem L2
def aX (n:Nat) (q:List Nat):Prop:=q.length=n∧q.Nodup∧∀k∈q,k<n
theorem oH:∀(n:Nat) (q:List Nat),q.Nodup→(∀k∈q,k<n)→q.length≤n
 | 0,q,_,hb=>by
  cases q with
  | nil=>simp
  | cons k q=>exact absurd (hb k List.mem_cons_self) (by omega)
 | n+1,q,hn,hb=>by
  have h:=oH n (q.erase n) (hn.erase n) fun k hk=>by
   have h1:=hb k (List.mem_of_mem_erase hk)
   have h2:=(hn.mem_erase_iff.mp hk).1
   omega
  have h2:=List.length_erase (a:=n) (l:=q)
  split at h2 <;> omega
theorem vW:∀(n:Nat) (q:List Nat),q.Nodup→(∀k∈q,k<n)→n≤q.length→∀s,s<n→s∈q:=by
 intro n q hn hb hl s hs
 apply Classical.byContradiction
 intro hx
 have h1:(s::q).Nodup:=List.nodup_cons.mpr ⟨hx,hn⟩
 have h3:=oH n (s::q) h1 fun k hk=>by
  rcases List.mem_cons.mp hk with rfl | hk
  ·exact hs
  ·exact hb k hk
 rw [List.length_cons] at h3
 omega
theorem aX.has {n:Nat} {q:List Nat} (h:aX n q) {s:Nat} (hs:s<n):∃(j:Nat) (hj:j<q.length),q[j]=s:=by
 have:=vW n q h.2.1 h.2.2 (Nat.le_of_eq h.1.symm) s hs
 obtain ⟨j,hj,e⟩:=List.getElem_of_mem this
 exact ⟨j,hj,e⟩
def nD (p:List Nat):List D:=p.map fun i=>.int (i:Nat)
theorem Yj (p:List Nat):(nD p).length=p.length:=by unfold nD; rw [List.length_map]
end DM
end
section
namespace DM
open PySem L2
mutual
def lsD:D→D
 | .lst xs=>.lst (Yk xs)
 | .tup xs=>.lst (Yk xs)
 | .non=>.non
 | .bl b=>.bl b
 | .int i=>.int i
 | .str s=>.str s
 | .dct k v=>.dct k v
 | .xJ k v=>.xJ k v
def Yk:List D→List D
 | []=>[]
 | x::xs=>lsD x::Yk xs
end
def xK (m:Nat) (d:D):Prop:=(toP d).showable=true∧(toP d).leavesShort 200=true∧(toP d).bulk≤m
theorem xK.mono {m m':Nat} {d:D} (h:xK m d) (hm:m≤m'):xK m' d:=⟨h.1,h.2.1,Nat.le_trans h.2.2 hm⟩
theorem vX {m:Nat} {i:Int} (h:i.natAbs<10^100):xK m (.int i):=by
 refine ⟨?_,?_,?_⟩
 ·simp only [toP,PyData.showable,decide_eq_true_eq]
  exact Nat.lt_trans (Yg (k:=400) (Nat.lt_of_lt_of_le h (by decide)) (by decide)) (by decide)
 ·have e:=int_text_length_le10 (k:=100) (by decide) h
  simp only [toP,PyData.leavesShort,decide_eq_true_eq]
  show (Str.ofString (toString i)).length≤200
  rw [ofString_length]
  omega
 ·simp only [toP,PyData.bulk]
  omega
theorem ach {m:Nat}:∀{xs:List D},(∀x∈xs,xK m x)→PyData.showableAll (iU xs)=true∧PyData.leavesShortAll 200 (iU xs)=true∧PyData.bulkAll (iU xs)≤(m+1)*xs.length
 | [],_=>by simp [iU,PyData.showableAll,PyData.leavesShortAll,PyData.bulkAll]
 | x::xs,h=>by
  obtain ⟨h1,h2,h3⟩:=h x List.mem_cons_self
  obtain ⟨k1,k2,k3⟩:=ach fun y hy=>h y (List.mem_cons_of_mem _ hy)
  unfold iU PyData.showableAll PyData.leavesShortAll PyData.bulkAll
  refine ⟨by rw [h1,k1]; rfl,by rw [h2,k2]; rfl,?_⟩
  rw [List.length_cons,Nat.mul_add,Nat.mul_one]
  omega
theorem vY {m:Nat} {xs:List D} (h:∀x∈xs,xK m x):xK ((m+1)*xs.length) (.tup xs):=by
 obtain ⟨h1,h2,h3⟩:=ach h
 exact ⟨by unfold toP PyData.showable; exact h1,by unfold toP PyData.leavesShort; exact h2,by unfold toP PyData.bulk; exact h3⟩
def txD (d:D):D:=.str (toP d).shown
theorem Oe {n m:Nat} {e:En} {d:D} (he:asD e=some d) (hr:XF d=true) (hf:Fine n d) (hn:n≤60) (hs:xK m d) (hm:m≤50000):Mf [e]=⇑(txD d):=by
 unfold Mf Ly
 simp only [he]
 have h1:=PyData.hasDict_of_canLay _ hf.1
 have h2:=PyData.shown_le_bulk 200 (by decide) _ hs.2.1
 have h3:(toP d).shown.length≤sizeLine:=by
  have:=hs.2.2
  have:(200+2)*(toP d).bulk≤202*50000:=Nat.mul_le_mul (by omega) (by omega)
  exact Nat.le_trans h2 (Nat.le_trans (by omega:_≤202*50000+200) (by decide))
 simp only [hr,hs.1,h1,hf.1,h3,(show (toP d).depth≤100 from Nat.le_trans hf.2 (by omega)),and_self,if_true]
 rfl
end DM
end
section
namespace DM
open PySem L2
def Ret (run:List En→R En) (es:List En) (e:En):Prop:=∃rest,run es=.ok e rest
theorem T7 {f g:ak→R Fl} {ρ ρ1:ak} {r:R Fl} (h:f ρ=.ok .nx ρ1) (h2:g ρ1=r):aR f g ρ=r:=by
 rw [pH,h,dF,rZ,h2]
theorem Ym {N:Nat} {body:ak→R Fl} {es:List En} {e:En} {ρ0 ρ:ak} (h0:vP N es=ρ0) (h:body ρ0=.ok (.rt e) ρ):gG N body es=.ok e ρ:=by
 rw [su,h0,h,dF,vU]
theorem Yn (d:D) (ρ:ak):frz (.en (.fr d)) ρ=some (.fr d,ρ):=rfl
def Sq (d:D) (xs:List D):Prop:=d=.tup xs∨d=.lst xs
section
variable {d a b:D} {xs ys:List D}
theorem Sq.items (h:Sq d xs):(En.fr d).items=some xs:=by rcases h with rfl | rfl <;> rfl
theorem Sq.len (h:Sq d xs):Ij [.fr d]=↥(xs.length:Nat):=by rcases h with rfl | rfl <;> rfl
theorem Sq.tup (h:Sq d xs):Xz [.fr d]=⇑(.tup xs):=by rcases h with rfl | rfl <;> rfl
theorem Sq.list (h:Sq d xs):abK [.fr d]=some (.ol xs):=by rcases h with rfl | rfl <;> rfl
theorem Sq.ix (h:Sq d xs) (i:Int):HD (.fr d) (.fr (.int i))=(atI xs i).map .fr:=by rcases h with rfl | rfl <;> rfl
theorem Sq.sum {ns:List Int} (h:Sq d (ns.map .int)):aey [.fr d]=↥ns.sum:=by
 rcases h with rfl | rfl
 ·show (match Hw (.fr (.tup (ns.map D.int))) with | some xs=>(rO xs).map fun (ns:List Int)=>En.fr (.int ns.sum) | none=>(none:Option En))=_
  simp [Hw]
 ·show (match Bv (.fr (.lst (ns.map D.int))) with | some xs=>(rO xs).map fun (ns:List Int)=>En.fr (.int ns.sum) | none=>(none:Option En))=_
  simp [Bv]
theorem Sq.seq (h:Sq d xs) {f:ak→R Val} {ρ ρ1:ak} (hf:f ρ=.ok (.en (.fr d)) ρ1):cW f ρ=.ok xs ρ1:=jf hf (Yn d ρ1) h.items
def St (d:D) (xs ys:List D):Prop:=∃a b,Sq d [a,b]∧Sq a xs∧Sq b ys
theorem St.mk (h:Sq d [a,b]) (ha:Sq a xs) (hb:Sq b ys):St d xs ys:=⟨a,b,h,ha,hb⟩
end
section
variable {cl:Nat→List En→R En} {d:D} {xs ys:List D}
def aK (n:Nat) (q:List Nat) (ns:List Int):List Int:=List.zipWith (fun (a:Nat) (b:Int)=>((a:Int)+b)%(n:Int)) q ns
end
end DM
end
section
namespace DM
open PySem L2
theorem Oh {n:Nat} {s:Str} (h:PyData.strOk s=true):Fine n (.str s):=⟨by simpa [toP,PyData.canLay0] using h,by simp [toP,PyData.depth]⟩
def Yo:Nat→D→Prop
 | 0,d=>(∃i,d=.int i)∨(∃b,d=.bl b)∨d=.non∨∃s,d=.str s∧PyData.strOk s=true
 | n+1,d=>((∃i,d=.int i)∨(∃b,d=.bl b)∨d=.non∨∃s,d=.str s∧PyData.strOk s=true)∨∃xs,Sq d xs∧xs.length≤10000∧∀x∈xs,Yo n x
end DM
end
section
set_option exponentiation.threshold 10000
namespace DM
open PySem L2
end DM
end
section
set_option maxHeartbeats 2000000
namespace PySem
open Sem (wp)
abbrev aeL (h:Heap) (z TI TO:Addr) (f0:Value) (f1:Bool):Prop:=h.get? z=some { cls:=.type "zip",dict:=none,data:=.fields #[f0,.bool f1,.bool false,.ref TI,.ref TO],slots:=#[] }
def ZSt (h:Heap) (z TI TO:Addr):Prop:=∃(f0:Value) (f1:Bool),(f0=.none∨∃T:Addr,f0=rawInt T)∧aeL h z TI TO f0 f1
section
variable {prog:Program} {w:World} {A:Around} {E:Value→Shared→Prop} {s:Shared} {z TI TO i1 i2:Addr} {fp1 fp2:List Addr} {n1 n2 i:Nat} {P1 P2:Nat→Value→Prop} {St1 St2:Nat→Heap→Prop} {a1 a2:Value}
end
end PySem
end
section
set_option maxHeartbeats 2000000
namespace PySem
open Sem (wp)
end PySem
namespace DM
open PySem L2
section
variable {X:Cx} {pins:List (Addr × Obj)} {σ:L2.St} {H:Hp} {s:Shared}
end
structure Yp (b1 b2:Bool) (a b z TI TO i1 i2:Addr) (i:Nat) (h:Heap):Prop where
 z:ZSt h z TI TO
 ti:IsTupOf2 h TI (.ref i1) (.ref i2)
 to:∃x y,IsTupOf2 h TO x y
 s1:mj b1 h i1 a i
 s2:mj b2 h i2 b i
theorem Yp.obj {b1 b2:Bool} {a b z TI TO i1 i2:Addr} {i:Nat} {h:Heap} (st:Yp b1 b2 a b z TI TO i1 i2 i h):∀c∈[z,TI,TO,i1,i2],∃o,h.get? c=some o∧∀v,o.data≠.cell v:=by
 intro c hc
 obtain ⟨⟨f0,f1,_,hz⟩,hTI,⟨x,y,hTO⟩,s1,s2⟩:=st
 have e':c=z∨c=TI∨c=TO∨c=i1∨c=i2:=by simpa using hc
 rcases e' with q | q | q | q | q
 ·rw [q]; exact ⟨_,hz,fun v q=>nomatch q⟩
 ·rw [q]; exact ⟨_,hTI,fun v q=>nomatch q⟩
 ·rw [q]; exact ⟨_,hTO,fun v q=>nomatch q⟩
 ·rw [q]; exact eY s1
 ·rw [q]; exact eY s2
theorem Yp.keep {b1 b2:Bool} {a b z TI TO i1 i2:Addr} {i:Nat} {h h':Heap} (st:Yp b1 b2 a b z TI TO i1 i2 i h) (k:∀c∈[z,TI,TO,i1,i2],∀o,h.get? c=some o→h'.get? c=some o):Yp b1 b2 a b z TI TO i1 i2 i h':=by
 obtain ⟨⟨f0,f1,hf,hz⟩,hTI,⟨x,y,hTO⟩,s1,s2⟩:=st
 exact ⟨⟨f0,f1,hf,k z (by simp) _ hz⟩,k TI (by simp) _ hTI,⟨x,y,k TO (by simp) _ hTO⟩,kY s1 fun o q=>k i1 (by simp) o q,kY s2 fun o q=>k i2 (by simp) o q⟩
theorem Yp.lt {b1 b2:Bool} {a b z TI TO i1 i2:Addr} {i:Nat} {h:Heap} (st:Yp b1 b2 a b z TI TO i1 i2 i h):∀c∈[z,TI,TO,i1,i2],c<h.objs.size:=fun c hc=>by
 obtain ⟨o,e,_⟩:=st.obj c hc
 exact Heap.lt_size e
end DM
end
section
set_option maxHeartbeats 1000000
namespace DM
open PySem PySem.Spec PyProof.Rows L2
section
variable {C:Cs} {Z:ZX}
end
section
variable {XR:cG} {M:Wd} {X:Cx} {C:Cs} {W:WX} {k:Nat} {N:List Str} {nm:List (Str × NameKind)} {fb:Str→Bool}
variable {e e2 a b c tg:Expr} {es:List Expr} {f fa fc:ak→R Val} {fs fk:ak→R (List Val)} {pos p pos' tpos p2 pos2:Pos} {x y:Str} {i j kk:Nat}
end
/-! ### the first place of an int in a list -/
def RdJ (name:Str) (id:String) (g:List D→List En→Option D):Prop:=Slot "list" name id∧typeOf (.builtin id)=pure (.type "method_descriptor")∧∀X:Cx,X.calm=true→∃r,MtR X id r∧RdS X.K r g
section
variable {XR:cG} {M:Wd} {X:Cx} {C:Cs} {W:WX} {k:Nat} {N:List Str} {nm:List (Str × NameKind)} {fb:Str→Bool}
variable {e o:Expr} {es:List Expr} {f:ak→R Val} {fs:ak→R (List Val)}
theorem JE.rd {id:String} {name:Str} {g:List D→List En→Option D} {ap cp:Pos} (G:Ctx M X C W k N nm fb) (h:RdJ name id g) (ho:JE XR X C W o f) (ha:JA XR X C W (e::es) fs)
  (hbase:attributeBase o name X.env (eval o X.env)=eval o X.env:=by rfl)
  (hfew:((backTo cp (starEach (e::es) X.env)).all (fun x=>!x.1)&&(backToKw cp (keywordEach [] X.env)).all (fun x=>x.1.isSome)
   && decide ((e::es).length+([]:List Keyword).length+(if ([]:List Keyword).isEmpty then 0 else 1)<30))=true:=by rfl)
  (hline:(ap.endLine == cp.line)=true:=by rfl) (hs:starEach (e::es) X.env=(false,eval e X.env)::starEach es X.env:=by rfl) (hpl:(backTo cp (starEach es X.env)).any (·.1)=false:=by rfl) :
  JE XR X C W (.Call (.Attribute o name ap) (e::es) [] cp) (Cj g f fs):=by
 obtain ⟨t,a1,a2⟩:=ha
 obtain ⟨u,b1,b2⟩:=ho
 obtain ⟨r,r1,r2⟩:=h.2.2 X G.calm
 refine ⟨_,pe_bm F.plainAttrs_list h.1 h.2.1 r1 b1 a1 hbase hfew hline hs hpl,?_⟩
 rw [G.hK] at r2 ⊢
 exact Mi r2 b2 a2
end
end DM
end
section
set_option maxHeartbeats 1000000
namespace DM
open PySem PySem.Spec PyProof.Rows L2
section
variable {C:Cs} {Z:ZX}
def Oi (k:Bool) (f:ak→R Val) (fs:ak→R (List En)) (ρ:ak):R (List En):=(runK k f ρ).bind fun e ρ1=>(fs ρ1).bind fun es ρ2=>.ok (e::es) ρ2
def Wz (ρ:ak):R (List En):=.ok [] ρ
def sE (C:Cs) (Z:ZX) (ta:TA) (f:ak→R (List En)):Prop :=
 ∀(o:Og) (F H:Hp) (σ:L2.St) (ρ:ak) (T:Tm) (Q:List V→Hp→Prop),SM C o F H σ ρ T→(∀i,gj T i) →
  lE (f ρ) (fun es ρ'=>∀F' H' vs,es.length=vs.length→SM C o F' H' σ ρ' (stack (es.map .en) vs++T)→Q vs H') (fun x ρ'=>∀F' H',SM C o F' H' σ ρ' T→Z x F' H' σ ρ')→ta σ H Q
theorem Yq:sE C Z tNil Wz:=fun o F H σ ρ T Q S _ q=>q F H [] rfl S
theorem Yr {k:Bool} {te:TE} {ta:TA} {f:ak→R Val} {fs:ak→R (List En)} (h:Impl C Z te f) (hs:sE C Z ta fs):sE C Z (tCons te ta) (Oi k f fs):=by
 intro o F H σ ρ T Q S hT q
 unfold Oi at q
 rw [aA] at q
 refine rK h S hT (au q (fun e ρ1 h1 F1 H1 v S1=>?_) fun _ _ h=>h)
 rw [aA] at h1
 refine hs o F1 H1 σ ρ1 _ _ S1 (rM hT) (au h1 (fun es ρ2 h2 F2 H2 vs hl S2=>?_) fun _ _ h F' H' s=>h F' H' s.drop)
 refine h2 F2 H2 (v::vs) (by rw [List.length_cons,List.length_cons,hl]) ?_
 rw [List.map_cons,mU,List.append_assoc]
 exact S2
/-! targets -/
abbrev Bw:=En→ak→R Unit
def sG (C:Cs) (Z:ZX) (g:TG) (t:Bw):Prop :=
 ∀(o:Og) (F H:Hp) (σ:L2.St) (ρ:ak) (T:Tm) (e:En) (v:V) (Q:L2.St→Hp→Prop),SM C o F H σ ρ ((.en e,v)::T)→(∀i,gj T i) →
  lE (t e ρ) (fun _ ρ'=>∀F' H' σ',SM C o F' H' σ' ρ' T→Q σ' H') (fun x ρ'=>∀F' H' σ',SM C o F' H' σ' ρ' []→Z x F' H' σ' ρ')→g v σ H Q
theorem SM.none {o:Og} {F H:Hp} {σ:L2.St} {ρ:ak} {T:Tm} (S:SM C o F H σ ρ T):SM C o F H σ ρ []:=S.Vp id (fun j x h=>by simp at h) fun i j h=>h
def tgN (i:Nat):Bw:=fun e ρ=>if i<ρ.length then .ok () (ρ.set i (some e)) else .bad
theorem T8 {i:Nat} (hL:i∉C.L):sG C Z (gName i) (tgN i):=by
 intro o F H σ ρ T e v Q S hT q
 unfold tgN at q
 by_cases hi:i<ρ.length
 ·rw [if_pos hi] at q
  exact q F H _ (S.store (by rw [← S.len]; exact hi) hL (hT i))
 ·rw [if_neg hi] at q; exact q.elim
def aci (x:Nat) (d:D) (k:Val) (ρ:ak):R Unit:=match (look ρ k).bind iw,mD ρ x with
 | some i,some xs=>(match ixN xs.length i with
  | some j=>.ok () (ρ.set x (some (.ol (xs.set j d))))
  | none=>.bad)
 | _,_=>.bad
def tgS (x:Nat) (fi:ak→R Val):Bw:=fun e ρ=>match e with
 | .fr d=>(match (ρ[x]?).join with
  | none=>.bad
  | some _=>(fi ρ).bind (aci x d))
 | _=>.bad
theorem T9 {x:Nat} {ti:TE} {fi:ak→R Val} (hi:Impl C Z ti fi):sG C Z (L2.gSub (tVar x) ti rSetL) (tgS x fi):=by
 intro o F H σ ρ T e v Q S hT q
 unfold tgS at q
 cases e with
 | fr d =>
  simp only at q
  cases hx:(ρ[x]?).join with
  | none=>rw [hx] at q; exact q.elim
  | some ex =>
   rw [hx] at q
   simp only at q
   obtain ⟨w,hw⟩:=S.has x ex (join_some hx)
   refine ⟨w,hw,?_⟩
   rw [aA] at q
   refine hi o F H σ ρ _ _ S (au q (fun a ρ2 k2 F2 H2 z S2=>?_) fun x ρ' h F' H' s=>h F' H' σ s.none)
   unfold aci at k2
   cases h1:(look ρ2 a).bind iw with
   | none=>rw [h1] at k2; exact k2.elim
   | some i =>
    cases h2:mD ρ2 x with
    | none=>rw [h1,h2] at k2; exact k2.elim
    | some xs =>
     rw [h1,h2] at k2
     simp only at k2
     cases h3:ixN xs.length i with
     | none=>rw [h3] at k2; exact k2.elim
     | some j =>
      rw [h3] at k2
      have rs:=Ls h2
      obtain ⟨a',vs,g1,g2,g3⟩:=S2.abH rs
      rw [hw] at g1
      cases g1
      have rd:Dq C.K F2 d v:=S2.look (j:=1) (v:=v) (e:=.fr d) rfl rfl
      refine ⟨a',vs,i,j,rfl,Du S2 h1,g2,by rw [← g3.length]; exact h3,?_⟩
      exact k2 F2 _ σ (S2.drop.drop.aex rs hw rfl ⟨a',_,rfl,upd_same,g3.set rd j⟩ fun b w=>by cases w; rfl)
 | ol _=>exact q.elim
 | od _ _=>exact q.elim
 | on _ _=>exact q.elim
 | cJ _=>exact q.elim
 | ex _=>exact q.elim
 | jW _=>exact q.elim
 | ob _=>exact q.elim
 | exs _=>exact q.elim
def mZ:List Bw→List En→ak→R Fl
 | [],[],ρ=>.ok .nx ρ
 | t::ts,e::es,ρ=>(t e ρ).bind fun _ ρ1=>mZ ts es ρ1
 | _,_,_=>.bad
def oJ (C:Cs) (Z:ZX) (gs:TGs) (ts:List Bw):Prop :=
 ∀(o:Og) (F H:Hp) (σ:L2.St) (ρ:ak) (es:List En) (vs:List V) (Q:L2.St→Hp→Prop),es.length=vs.length→SM C o F H σ ρ (stack (es.map .en) vs) →
  lE (mZ ts es ρ) (fun fl ρ'=>match fl with
   | .nx=>∀F' H' σ',SM C o F' H' σ' ρ' []→Q σ' H'
   | _=>False) (fun x ρ'=>∀F' H' σ',SM C o F' H' σ' ρ' []→Z x F' H' σ' ρ')→gs vs σ H Q
theorem zu:∀{es:List En} {vs:List V},∀i,gj (stack (es.map .en) vs) i:=by
 intro es vs i j v h
 have h':=List.mem_of_getElem? h
 unfold stack at h'
 rw [List.mem_reverse] at h'
 have:=(List.of_mem_zip h').1
 obtain ⟨e,_,q⟩:=List.mem_map.mp this
 cases q
theorem zA:oJ C Z gNil []:=by
 intro o F H σ ρ es vs Q hl S q
 cases es with
 | nil =>
  cases vs with
  | nil=>exact ⟨rfl,q F H σ S⟩
  | cons v vs=>simp at hl
 | cons e es=>exact q.elim
theorem vZ {g:TG} {gs:TGs} {t:Bw} {ts:List Bw} (h:sG C Z g t) (hs:oJ C Z gs ts):oJ C Z (gCons g gs) (t::ts):=by
 intro o F H σ ρ es vs Q hl S q
 cases es with
 | nil=>exact q.elim
 | cons e es =>
  cases vs with
  | nil=>simp at hl
  | cons v vs =>
   have hl':es.length=vs.length:=by simpa using hl
   rw [List.map_cons,mU] at S
   have S1:SM C o F H σ ρ ((.en e,v)::stack (es.map .en) vs):=S.Vp (fun j=>if j=0 then (stack (es.map Val.en) vs).length else if j≤(stack (es.map Val.en) vs).length then j - 1 else j) (fun j x hx=>by
    cases j with
    | zero=>simp at hx; subst hx; simp
    | succ j =>
     have hx':(stack (es.map Val.en) vs)[j]?=some x:=by simpa using hx
     have hj:=(List.getElem?_eq_some_iff.mp hx').1
     simp only [Nat.add_one_ne_zero,if_false,Nat.add_sub_cancel,if_pos (Nat.succ_le_of_lt hj)]
     rw [List.getElem?_append_left hj]
     exact hx') (fun i j hij=>by
     by_cases h1:i=0 <;> by_cases h2:j=0 <;> simp only [h1,h2,if_true,if_false] at hij
     ·rw [h1,h2]
     ·split at hij <;> omega
     ·split at hij <;> omega
     ·split at hij <;> split at hij <;> omega)
   unfold mZ at q
   rw [aA] at q
   refine ⟨v,vs,rfl,h o F H σ ρ _ e v _ S1 zu (au q (fun u ρ1 q1 F1 H1 σ1 S2=>?_) fun _ _ h=>h)⟩
   exact hs o F1 H1 σ1 ρ1 es vs Q hl' S2 q1
def Cv (f:ak→R (List En)) (ts:List Bw) (ρ:ak):R Fl:=(f ρ).bind fun es ρ1=>if es.length=ts.length then mZ ts es ρ1 else .bad
theorem uU:∀(ts:List Bw) (es:List En) (ρ ρ':ak) (fl:Fl),mZ ts es ρ=.ok fl ρ'→fl=.nx
 | [],[],_,_,_,h=>by cases h; rfl
 | [],_::_,_,_,_,h=>by cases h
 | _::_,[],_,_,_,h=>by cases h
 | t::ts,e::es,ρ,ρ',fl,h=>by
  unfold mZ at h
  cases z:t e ρ with
  | bad=>rw [z] at h; cases h
  | exc x r=>rw [z] at h; cases h
  | ok a r =>
   rw [z] at h
   exact uU ts es r ρ' fl h
theorem Iu {ta:TA} {gs:TGs} {f:ak→R (List En)} {ts:List Bw} {n:Nat} (hn:ts.length=n) (hz:n≤100) (h:sE C Z ta f) (hs:oJ C Z gs ts):cU C Z (tAsg (tTup ta) (gTup C.K n gs)) (Cv f ts):=by
 intro o F H σ ρ D S q
 unfold Cv at q
 rw [aA] at q
 refine h o F H σ ρ [] _ S gD (au q (fun es ρ1 h1 F1 H1 vs hl S1=>?_) fun x ρ' h F' H' s=>h F' H' σ s)
 by_cases hlen:es.length=ts.length
 ·rw [if_pos hlen] at h1
  rw [List.append_nil] at S1
  refine ⟨by rw [← hl,hlen,hn]; exact Nat.le_trans hz (by decide),fun p hp=>⟨p,vs,rfl,.inl (.inl upd_same),by rw [← hl,hlen,hn],?_⟩⟩
  refine hs o F1 _ σ ρ1 es vs _ hl (S1.grow (Grow.junk S1.sub hp)) ?_
  cases z:mZ ts es ρ1 with
  | bad=>rw [z] at h1; exact h1.elim
  | exc x r=>rw [z] at h1; exact fun F' H' σ' s=>h1 F' H' σ' s
  | ok fl r =>
   rw [z] at h1
   obtain rfl:=uU ts es ρ1 r fl z
   exact fun F' H' σ' s=>h1 F' H' σ' s
 ·rw [if_neg hlen] at h1; exact h1.elim
end
section
variable {XR:cG} {M:Wd} {X:Cx} {C:Cs} {W:WX} {k:Nat} {N:List Str} {nm:List (Str × NameKind)} {fb:Str→Bool}
variable {e e2 a b c d tg:Expr} {es:List Expr} {f fa fc:ak→R Val} {pos p pos' pt pt2:Pos} {x y z:Str} {i j l kt kv:Nat}
def JKs (XR:cG) (X:Cx) (C:Cs) (W:WX) (es:List Expr) (f:ak→R (List En)):Prop:=∃ta,PA X es ta∧sE C (ZW XR W) ta f
theorem JKs.nil:JKs XR X C W [] Wz:=⟨_,pa_nil,Yq⟩
theorem JKs.cons {kp:Bool} {fs:ak→R (List En)} (h:JE XR X C W e f) (hs:JKs XR X C W es fs) (he:starEach (e::es) X.env=(false,eval e X.env)::starEach es X.env:=by rfl):JKs XR X C W (e::es) (Oi kp f fs):=by
 obtain ⟨t,h1,h2⟩:=h
 obtain ⟨ts,k1,k2⟩:=hs
 exact ⟨_,pa_cons h1 k1 he,Yr h2 k2⟩
def Ys (XR:cG) (X:Cx) (C:Cs) (W:WX) (e:Expr) (t:Bw):Prop:=∃g,PG X e g∧sG C (ZW XR W) g t
def Iv (XR:cG) (X:Cx) (C:Cs) (W:WX) (es:List Expr) (ts:List Bw):Prop:=∃g,PGs X es g∧oJ C (ZW XR W) g ts
theorem Ys.n (G:Ctx M X C W k N nm fb) (i:Nat) (hi:(N[i]? == some x)=true) (hl:Cm nm fb x=true) (hL:C.L.contains i=false):Ys XR X C W (.Name x pos) (tgN i):=by
 obtain ⟨h1,h2⟩:=oG G hl
 exact ⟨_,pg_name (by rw [G.hN]; exact G.nd) (by rw [G.hN]; exact beq_iff_eq.mp hi) h1 h2,T8 (TF hL)⟩
theorem Ys.s {ix:Expr} {op:Pos} (G:Ctx M X C W k N nm fb) (i:Nat) (hi:(N[i]? == some x)=true) (hv:vQ nm x=true) (hx:JE XR X C W ix f)
  (ha:∀v,assign (.Subscript (.Name x op) ix p) X.env v=(do
   let ov ← holding [v] (eval (.Name x op) X.env)
   let iv ← holding [v,ov] (eval ix X.env)
   standAt p
   holding [v,ov,iv] (setItem ov iv v)
   release [v,ov,iv] []):=by intro _; rfl):Ys XR X C W (.Subscript (.Name x op) ix p) (tgS i f):=by
 obtain ⟨v1,v2,v3⟩:=jH G hv
 obtain ⟨u,u1,u2⟩:=hx
 exact ⟨_,pg_sub (pe_var (by rw [G.hN]; exact beq_iff_eq.mp hi) v1 v2 v3) u1 set_list ha,T9 u2⟩
theorem Iv.nil:Iv XR X C W [] []:=⟨_,pgs_nil,zA⟩
theorem Iv.cons {t:Bw} {ts:List Bw} (h:Ys XR X C W e t) (hs:Iv XR X C W es ts) (ha:(assignEach (e::es) X.env).map (·.2)=assign e X.env::(assignEach es X.env).map (·.2):=by rfl):Iv XR X C W (e::es) (t::ts):=by
 obtain ⟨g,h1,h2⟩:=h
 obtain ⟨gs,k1,k2⟩:=hs
 exact ⟨_,pgs_cons h1 k1 ha,vZ h2 k2⟩
theorem JS.mul {ts:List Bw} {vs:List Expr} {f:ak→R (List En)} {n:Nat} (G:Ctx M X C W k N nm fb) (hv:JKs XR X C W vs f) (ht:Iv XR X C W es ts) (hn:(ts.length == n)=true) (hz:decide (n≤100)=true)
  (hw:swappedStores [.Tuple es kt pt] (.Tuple vs kv pt2) X.env=pure none)
  (hln:(assignEach es X.env).length=n:=by rfl) (hst:(assignEach es X.env).findIdx? (·.1)=none:=by rfl)
  (hs:swapsWithSole [.Tuple es kt pt] (.Tuple vs kv pt2) pos.line X.env=pure false:=by rfl) (h1:(assignEach [.Tuple es kt pt] X.env).map (·.2)=[assign (.Tuple es kt pt) X.env]:=by rfl) :
  JS XR X C W (.Assign [.Tuple es kt pt] (.Tuple vs kv pt2) pos) (Cv f ts):=by
 obtain ⟨ta,a1,a2⟩:=hv
 obtain ⟨g,b1,b2⟩:=ht
 refine ⟨_,ps_asg (pe_tup a1) (pg_tup (n:=n) G.calm b1 hln hst) hs hw h1,?_⟩
 rw [G.hK]
 exact Iu (beq_iff_eq.mp hn) (of_decide_eq_true hz) a2 b2
end
end DM
end
section
namespace DM
open PySem L2
structure Gd (n:Nat) (q:List Nat) (bs:List Int):Prop where
 seats:aX n q
 len:bs.length=n
 nn:∀b∈bs,0≤b
theorem Gd.dR {n:Nat} {q:List Nat} {bs:List Int} (h:Gd n q bs):q.length=n:=h.seats.1
theorem sum_set:∀(l:List Int) (i:Nat) (v:Int) (h:i<l.length),(l.set i v).sum=l.sum - l[i]+v
 | [],i,v,h=>by simp at h
 | a::l,0,v,h=>by simp; omega
 | a::l,i+1,v,h=>by
  have:=sum_set l i v (by simpa using h)
  simp only [List.set_cons_succ,List.sum_cons,List.getElem_cons_succ,this]
  omega
theorem Oj:∀(l:List Int),(∀b∈l,0≤b)→∀b∈l,b≤l.sum
 | a::l,h,b,hb=>by
  have h0:0≤l.sum:=Ol l fun c hc=>h c (List.mem_cons_of_mem _ hc)
  rw [List.sum_cons]
  rcases List.mem_cons.mp hb with rfl | hb
  ·omega
  ·have:=Oj l (fun c hc=>h c (List.mem_cons_of_mem _ hc)) b hb
   have:=h a List.mem_cons_self
   omega
where Ol:∀(l:List Int),(∀b∈l,0≤b)→0≤l.sum
 | [],_=>by simp
 | a::l,h=>by
  have:=Ol l fun c hc=>h c (List.mem_cons_of_mem _ hc)
  have:=h a List.mem_cons_self
  rw [List.sum_cons]
  omega
abbrev Om (q:List Nat) (bs:List Int):D:=.tup [.tup (nD q),.tup (bs.map .int)]
abbrev ajL (q:List Nat) (bs:List Int):D:=.lst [.lst (nD q),.lst (bs.map .int)]
def Km (n:Nat) (q:List Nat) (bs:List Int) (c:Nat):Option (List Nat × List Int) :=
 if bs.getD (q.idxOf c) 0=0 then none else
  some ((q.set (q.idxOf c) (q.getD (q.idxOf ((c+1)%n)) 0)).set (q.idxOf ((c+1)%n)) (q.getD (q.idxOf c) 0),
   (bs.set (q.idxOf c) (bs.getD (q.idxOf c) 0 - 1)).set (q.idxOf ((c+1)%n)) (bs.getD (q.idxOf ((c+1)%n)) 0+1))
theorem aX.idx {n:Nat} {q:List Nat} (h:aX n q) {c:Nat} (hc:c<n):q.idxOf c<n∧q[q.idxOf c]?=some c:=by
 obtain ⟨j,hj,e⟩:=h.has hc
 have hm:c∈q:=by rw [← e]; exact List.getElem_mem hj
 have hl:=List.idxOf_lt_length_iff.mpr hm
 refine ⟨by rw [h.1] at hl; exact hl,?_⟩
 rw [List.getElem?_eq_getElem hl,List.getElem_idxOf hl]
theorem aX.lA {n:Nat} {q:List Nat} (h:aX n q) {c c':Nat} (hc:c<n) (hc':c'<n) (hne:c≠c'):q.idxOf c≠q.idxOf c':=fun e=>by
 have h1:=(h.idx hc).2
 have h2:=(h.idx hc').2
 rw [e,h2] at h1
 exact hne (Option.some.inj h1).symm
theorem next_ne {n c:Nat} (hn:2≤n) (hc:c<n):c≠(c+1)%n:=fun e=>by
 by_cases h:c+1<n
 ·rw [Nat.mod_eq_of_lt h] at e; omega
 ·have:c+1=n:=by omega
  rw [this,Nat.mod_self] at e; omega
theorem aX.mem {n:Nat} {q:List Nat} (h:aX n q) {c:Nat} (hc:c<n):c∈q:=by
 obtain ⟨j,hj,e⟩:=h.has hc
 rw [← e]
 exact List.getElem_mem hj
end DM
end
section
namespace DM
open PySem L2
theorem eZ {α:Type} (l:List α) (p m:Nat) (x y:α) (i:Nat) (hp:p<l.length) (hm:m<l.length):((l.set p x).set m y)[i]?=if i=m then some y else if i=p then some x else l[i]?:=by
 by_cases h1:i=m
 ·subst h1
  rw [if_pos rfl,List.getElem?_set_self (by rw [List.length_set]; exact hm)]
 ·rw [if_neg h1,List.getElem?_set_ne (fun e=>h1 e.symm)]
  by_cases h2:i=p
  ·subst h2
   rw [if_pos rfl,List.getElem?_set_self hp]
  ·rw [if_neg h2,List.getElem?_set_ne (fun e=>h2 e.symm)]
theorem aX.swap {n:Nat} {q:List Nat} (h:aX n q) {p m a b:Nat} (hp:q[p]?=some a) (hm:q[m]?=some b) (hne:p≠m):aX n ((q.set p b).set m a):=by
 obtain ⟨p1,p2⟩:=List.getElem?_eq_some_iff.mp hp
 obtain ⟨m1,m2⟩:=List.getElem?_eq_some_iff.mp hm
 have key:∀i,((q.set p b).set m a)[i]?=if i=m then some a else if i=p then some b else q[i]?:=fun i=>eZ q p m b a i p1 m1
 have inj:∀i j x,q[i]?=some x→q[j]?=some x→i=j:=fun i j x h1 h2=>by
  obtain ⟨i1,i2⟩:=List.getElem?_eq_some_iff.mp h1
  obtain ⟨j1,j2⟩:=List.getElem?_eq_some_iff.mp h2
  have pw:=List.pairwise_iff_getElem.mp (List.nodup_iff_pairwise_ne.mp h.2.1)
  rcases Nat.lt_trichotomy i j with hlt | hlt | hlt
  ·exact absurd (by rw [i2,j2]) (pw i j i1 j1 hlt)
  ·exact hlt
  ·exact absurd (by rw [i2,j2]) (pw j i j1 i1 hlt)
 refine ⟨by rw [List.length_set,List.length_set]; exact h.1,?_,fun k hk=>?_⟩
 ·rw [List.nodup_iff_pairwise_ne,List.pairwise_iff_getElem]
  intro i j hi hj hij he
  have ei:((q.set p b).set m a)[i]?=some ((q.set p b).set m a)[i]:=List.getElem?_eq_getElem hi
  have ej:((q.set p b).set m a)[j]?=some ((q.set p b).set m a)[j]:=List.getElem?_eq_getElem hj
  rw [← he] at ej
  rw [key] at ei ej
  have ne:i≠j:=by omega
  by_cases i1:i=m <;> by_cases j1:j=m
  ·omega
  ·rw [if_pos i1] at ei
   rw [if_neg j1] at ej
   by_cases j2:j=p
   ·rw [if_pos j2] at ej
    have:some a=some b:=ei.trans ej.symm
    rw [← hp,← hm] at this
    rw [hp] at this
    exact hne (inj p m _ hp (by rw [← this]))
   ·rw [if_neg j2] at ej
    exact j2 (inj j p a (ej.trans ei.symm) hp)
  ·rw [if_neg i1] at ei
   rw [if_pos j1] at ej
   by_cases i2:i=p
   ·rw [if_pos i2] at ei
    have:some a=some b:=ej.trans ei.symm
    rw [← hm] at this
    exact hne (inj p m a hp this.symm)
   ·rw [if_neg i2] at ei
    exact i2 (inj i p a (ei.trans ej.symm) hp)
  ·rw [if_neg i1] at ei
   rw [if_neg j1] at ej
   by_cases i2:i=p <;> by_cases j2:j=p
   ·omega
   ·rw [if_pos i2] at ei
    rw [if_neg j2] at ej
    exact j1 (inj j m b (ej.trans ei.symm) hm)
   ·rw [if_neg i2] at ei
    rw [if_pos j2] at ej
    exact i1 (inj i m b (ei.trans ej.symm) hm)
   ·rw [if_neg i2] at ei
    rw [if_neg j2] at ej
    exact ne (inj i j _ ei ej)
 ·obtain ⟨i,hi⟩:=List.getElem?_of_mem hk
  rw [key] at hi
  by_cases i1:i=m
  ·rw [if_pos i1] at hi
   cases hi
   exact h.2.2 _ (List.mem_of_getElem? hp)
  ·rw [if_neg i1] at hi
   by_cases i2:i=p
   ·rw [if_pos i2] at hi
    cases hi
    exact h.2.2 _ (List.mem_of_getElem? hm)
   ·rw [if_neg i2] at hi
    exact h.2.2 _ (List.mem_of_getElem? hi)
theorem jg {n:Nat} {q q':List Nat} {bs bs':List Int} {c:Nat} (g:Gd n q bs) (h2:2≤n) (hc:c<n) (h:Km n q bs c=some (q',bs')) :
  ∃p m x y,p≠m∧p<n∧m<n∧q[p]?=some c∧q[m]?=some ((c+1)%n)∧bs[p]?=some x∧bs[m]?=some y∧0<x∧q'=(q.set p ((c+1)%n)).set m c∧bs'=(bs.set p (x - 1)).set m (y+1):=by
 obtain ⟨ip,ap⟩:=g.seats.idx hc
 have hc':(c+1)%n<n:=Nat.mod_lt _ (by omega)
 obtain ⟨im,am⟩:=g.seats.idx hc'
 have hne:=g.seats.lA hc hc' (next_ne h2 hc)
 have hl:=g.len
 unfold Km at h
 obtain ⟨x,hx⟩:∃b,bs[q.idxOf c]?=some b:=⟨_,List.getElem?_eq_getElem (by omega)⟩
 obtain ⟨y,hy⟩:∃b,bs[q.idxOf ((c+1)%n)]?=some b:=⟨_,List.getElem?_eq_getElem (by omega)⟩
 have e1:bs.getD (q.idxOf c) 0=x:=by rw [List.getD_eq_getElem?_getD,hx]; rfl
 have e2:bs.getD (q.idxOf ((c+1)%n)) 0=y:=by rw [List.getD_eq_getElem?_getD,hy]; rfl
 have e3:q.getD (q.idxOf c) 0=c:=by rw [List.getD_eq_getElem?_getD,ap]; rfl
 have e4:q.getD (q.idxOf ((c+1)%n)) 0=(c+1)%n:=by rw [List.getD_eq_getElem?_getD,am]; rfl
 rw [e1,e2,e3,e4] at h
 have hx0:=g.nn x (List.mem_of_getElem? hx)
 by_cases hz:x=0
 ·rw [if_pos hz] at h; cases h
 ·rw [if_neg hz] at h
  cases h
  exact ⟨_,_,x,y,hne,ip,im,ap,am,hx,hy,by omega,rfl,rfl⟩
theorem wg {n:Nat} {q q':List Nat} {bs bs':List Int} {c:Nat} (g:Gd n q bs) (h2:2≤n) (hc:c<n) (h:Km n q bs c=some (q',bs')):Gd n q' bs':=by
 obtain ⟨p,m,x,y,hne,hp,hm,ap,am,hx,hy,h0,rfl,rfl⟩:=jg g h2 hc h
 have hl:=g.len
 refine ⟨g.seats.swap ap am hne,by rw [List.length_set,List.length_set]; exact hl,fun b hb=>?_⟩
 obtain ⟨i,hi⟩:=List.getElem?_of_mem hb
 rw [eZ bs p m _ _ i (by omega) (by omega)] at hi
 have hy0:=g.nn y (List.mem_of_getElem? hy)
 split at hi
 ·cases hi; omega
 ·split at hi
  ·cases hi; omega
  ·exact g.nn b (List.mem_of_getElem? hi)
theorem wj {n:Nat} {q q':List Nat} {bs bs':List Int} {c:Nat} (g:Gd n q bs) (h2:2≤n) (hc:c<n) (h:Km n q bs c=some (q',bs')):bs'.sum=bs.sum:=by
 obtain ⟨p,m,x,y,hne,hp,hm,ap,am,hx,hy,h0,rfl,rfl⟩:=jg g h2 hc h
 have hl:=g.len
 have e1:=(List.getElem?_eq_some_iff.mp hx).2
 have e2:=(List.getElem?_eq_some_iff.mp hy).2
 rw [sum_set _ m _ (by rw [List.length_set]; omega),sum_set bs p _ (by omega),List.getElem_set_ne hne,e1,e2]
 omega
theorem d8 {n:Nat} {q:List Nat} {bs:List Int} {i a:Nat} {b:Int} (h1:q[i]?=some a) (h2:bs[i]?=some b):(aK n q bs)[i]?=some (((a:Int)+b)%(n:Int)):=by
 unfold aK
 rw [List.getElem?_zipWith,h1,h2]
theorem d9 {n:Nat} {q:List Nat} {bs:List Int} (h:q.length=bs.length):(aK n q bs).length=q.length:=by
 unfold aK
 rw [List.length_zipWith,h,Nat.min_self]
theorem sH {n:Nat} {q q':List Nat} {bs bs':List Int} {c:Nat} (g:Gd n q bs) (h2:2≤n) (hc:c<n) (h:Km n q bs c=some (q',bs')):aK n q' bs'=aK n q bs:=by
 have g':=wg g h2 hc h
 obtain ⟨p,m,x,y,hne,hp,hm,ap,am,hx,hy,h0,rfl,rfl⟩:=jg g h2 hc h
 have hl:=g.len
 have hql:=g.dR
 apply List.ext_getElem?
 intro i
 by_cases hi:i<n
 ·obtain ⟨a,ha⟩:∃a,q[i]?=some a:=⟨_,List.getElem?_eq_getElem (by omega)⟩
  obtain ⟨b,hb⟩:∃b,bs[i]?=some b:=⟨_,List.getElem?_eq_getElem (by omega)⟩
  have k1:=eZ q p m ((c+1)%n) c i (by omega) (by omega)
  have k2:=eZ bs p m (x - 1) (y+1) i (by omega) (by omega)
  rw [d8 ha hb]
  by_cases i1:i=m
  ·subst i1
   rw [if_pos rfl] at k1 k2
   rw [d8 k1 k2]
   rw [am] at ha
   rw [hy] at hb
   cases ha; cases hb
   congr 1
   have e:((((c+1)%n:Nat):Int))=((c:Int)+1)%(n:Int):=by push_cast; rfl
   rw [e,Int.emod_add_emod]
   congr 1
   omega
  ·rw [if_neg i1] at k1 k2
   by_cases i2:i=p
   ·subst i2
    rw [if_pos rfl] at k1 k2
    rw [d8 k1 k2]
    rw [ap] at ha
    rw [hx] at hb
    cases ha; cases hb
    congr 1
    have e:((((c+1)%n:Nat):Int))=((c:Int)+1)%(n:Int):=by push_cast; rfl
    rw [e,Int.emod_add_emod]
    congr 1
    omega
   ·rw [if_neg i2] at k1 k2
    rw [d8 (k1.trans ha) (k2.trans hb)]
 ·rw [List.getElem?_eq_none (by rw [d9 (by rw [g'.dR,g'.len]),g'.dR]; omega),List.getElem?_eq_none (by rw [d9 (by rw [hql,hl]),hql]; omega)]
def Yt (n:Nat):List Nat→List Nat × List Int→Option (List Nat × List Int)
 | [],s=>some s
 | c::cs,s=>(Km n s.1 s.2 c).bind (Yt n cs)
structure WD (n:Nat) (q:List Nat) (bs:List Int) (q':List Nat) (bs':List Int):Prop where
 gd:Gd n q' bs'
 sum:bs'.sum=bs.sum
 kept:aK n q' bs'=aK n q bs
theorem WD.refl {n:Nat} {q:List Nat} {bs:List Int} (g:Gd n q bs):WD n q bs q bs:=⟨g,rfl,rfl⟩
theorem WD.step {n:Nat} {q q1 q2:List Nat} {bs b1 b2:List Int} {c:Nat} (L:WD n q bs q1 b1) (h2:2≤n) (hc:c<n) (h:Km n q1 b1 c=some (q2,b2)):WD n q bs q2 b2 :=
 ⟨wg L.gd h2 hc h,(wj L.gd h2 hc h).trans L.sum,(sH L.gd h2 hc h).trans L.kept⟩
end DM
end
section
namespace DM
open PySem L2
end DM
end
section
set_option exponentiation.threshold 10000
namespace DM
open PySem L2
/-! plainly -/
theorem aX.perm {n:Nat} {q:List Nat} (h:aX n q):q.Perm (List.range n):=by
 refine (List.perm_ext_iff_of_nodup h.2.1 List.nodup_range).mpr fun a=>⟨fun hm=>List.mem_range.mpr (h.2.2 a hm),fun hm=>h.mem (List.mem_range.mp hm)⟩
def oK (q:List Nat):Int:=(q.map fun i=>((i:Nat):Int)).sum
theorem Oo {p q:List Nat} (h:p.Perm q):oK p=oK q:=by
 unfold oK
 induction h with
 | nil=>rfl
 | cons x _ ih=>simp only [List.map_cons,List.sum_cons,ih]
 | swap x y l=>simp only [List.map_cons,List.sum_cons]; omega
 | trans _ _ ih1 ih2=>rw [ih1,ih2]
theorem Oq (x n:Int):∃t,x%n=x+n*t:=⟨-(x / n),by have:=Int.emod_add_mul_ediv x n; rw [Int.mul_neg]; omega⟩
theorem zB {n:Nat}:∀(q:List Nat) (bs:List Int),q.length=bs.length→∃t,(aK n q bs).sum=oK q+bs.sum+(n:Int)*t
 | [],[],_=>⟨0,by simp [aK,oK]⟩
 | a::q,b::bs,h=>by
  obtain ⟨t,ht⟩:=zB (n:=n) q bs (by simpa using h)
  obtain ⟨u,hu⟩:=Oq ((a:Int)+b) n
  refine ⟨t+u,?_⟩
  unfold aK oK at ht ⊢
  simp only [List.zipWith_cons_cons,List.sum_cons,List.map_cons,ht,hu,Int.mul_add]
  omega
def jh (n:Nat) (kp:List Int) (q:List Nat):List Int:=List.zipWith (fun (k:Int) (c:Nat)=>(k - (c:Int))%(n:Int)) kp q
theorem zE {n:Nat}:∀(kp:List Int) (q:List Nat),kp.length=q.length→∃t,(jh n kp q).sum=kp.sum - oK q+(n:Int)*t
 | [],[],_=>⟨0,by simp [jh,oK]⟩
 | k::kp,a::q,h=>by
  obtain ⟨t,ht⟩:=zE (n:=n) kp q (by simpa using h)
  obtain ⟨u,hu⟩:=Oq (k - (a:Int)) n
  refine ⟨t+u,?_⟩
  unfold jh oK at ht ⊢
  simp only [List.zipWith_cons_cons,List.sum_cons,List.map_cons,ht,hu,Int.mul_add]
  omega
theorem zF {n:Nat} {kp:List Int} {q:List Nat} (h:kp.length=q.length):(jh n kp q).length=q.length:=by
 unfold jh
 rw [List.length_zipWith,h,Nat.min_self]
theorem zG {n:Nat} {kp:List Int} {q:List Nat} {i a:Nat} {k:Int} (h1:kp[i]?=some k) (h2:q[i]?=some a):(jh n kp q)[i]?=some ((k - (a:Int))%(n:Int)):=by
 unfold jh
 rw [List.getElem?_zipWith,h1,h2]
theorem Fv {n:Nat} {kp:List Int} {q:List Nat} (h0:0<n) (hq:aX n q) (h:kp.length=n):Gd n q (jh n kp q):=by
 refine ⟨hq,by rw [zF (h.trans hq.1.symm),hq.1],fun b hb=>?_⟩
 obtain ⟨i,hi⟩:=List.getElem?_of_mem hb
 have hl:=(List.getElem?_eq_some_iff.mp hi).1
 rw [zF (h.trans hq.1.symm)] at hl
 have e:=zG (n:=n) (kp:=kp) (q:=q) (List.getElem?_eq_getElem (by rw [h,← hq.1]; exact hl)) (List.getElem?_eq_getElem hl)
 rw [e] at hi
 cases hi
 exact Int.emod_nonneg _ (by omega)
theorem Iw {n:Nat} {q0 q:List Nat} {b0:List Int} (h0:0<n) (g:Gd n q0 b0) (hq:aX n q):aK n q (jh n (aK n q0 b0) q)=aK n q0 b0:=by
 have hk:(aK n q0 b0).length=n:=by rw [d9 (by rw [g.dR,g.len]),g.dR]
 have gb:=Fv h0 hq hk
 apply List.ext_getElem?
 intro i
 by_cases hi:i<n
 ·have e1:q[i]?=some (q[i]'(by rw [hq.1]; exact hi)):=List.getElem?_eq_getElem _
  have e2:(aK n q0 b0)[i]?=some ((aK n q0 b0)[i]'(by rw [hk]; exact hi)):=List.getElem?_eq_getElem _
  rw [d8 e1 (zG e2 e1),e2]
  congr 1
  have e3:=d8 (n:=n) (q:=q0) (bs:=b0) (i:=i) (List.getElem?_eq_getElem (by rw [g.dR]; exact hi)) (List.getElem?_eq_getElem (by rw [g.len]; exact hi))
  rw [e2] at e3
  have e4:=Option.some.inj e3
  rw [e4,Int.add_emod_emod]
  rw [show ∀a b:Int,a+(b - a)=b by intro a b; omega,Int.emod_emod]
 ·rw [List.getElem?_eq_none (by rw [d9 (by rw [gb.dR,gb.len]),gb.dR]; omega),List.getElem?_eq_none (by rw [hk]; omega)]
theorem Iz {n:Nat} {q:List Nat} {bs:List Int} {i:Nat} {b t:Int} (hb:bs[i]?=some b):aK n q (bs.set i (b+(n:Int)*t))=aK n q bs:=by
 apply List.ext_getElem?
 intro j
 unfold aK
 rw [List.getElem?_zipWith,List.getElem?_zipWith]
 have hl:=(List.getElem?_eq_some_iff.mp hb).1
 by_cases h:i=j
 ·subst h
  rw [List.getElem?_set_self hl,hb]
  cases q[i]? with
  | none=>rfl
  | some a =>
   simp only
   congr 1
   rw [← Int.add_assoc,Int.add_mul_emod_self_left]
 ·rw [List.getElem?_set_ne h]
structure Fill (n:Nat) (kp:List Int) (T:Int) (q:List Nat) (bg:List Int) (r:Int):Prop where
 gd:Gd n q bg
 kept:aK n q bg=kp
 sum:bg.sum+(n:Int)*r=T
 nn:0≤r
theorem Fill.give {n:Nat} {kp:List Int} {T:Int} {q:List Nat} {bg:List Int} {r t b:Int} {i:Nat} (F:Fill n kp T q bg r) (hb:bg[i]?=some b) (h0:0≤t) (h1:t≤r):Fill n kp T q (bg.set i (b+(n:Int)*t)) (r - t):=by
 obtain ⟨hl,he⟩:=List.getElem?_eq_some_iff.mp hb
 have hm:0≤(n:Int)*t:=Int.mul_nonneg (by omega) h0
 refine ⟨⟨F.gd.seats,by rw [List.length_set]; exact F.gd.len,fun x hx=>?_⟩,by rw [Iz hb]; exact F.kept,?_,by omega⟩
 ·rcases List.mem_or_eq_of_mem_set hx with h | h
  ·exact F.gd.nn x h
  ·have:=F.gd.nn b (List.mem_of_getElem? hb)
   omega
 ·rw [sum_set bg i _ hl,he,Int.mul_sub]
  have:=F.sum
  omega
theorem Fill.start {n:Nat} {q0 q:List Nat} {b0:List Int} (h0:0<n) (g:Gd n q0 b0) (hq:aX n q) (hr:0≤(b0.sum - (jh n (aK n q0 b0) q).sum) / (n:Int)):Fill n (aK n q0 b0) b0.sum q (jh n (aK n q0 b0) q) ((b0.sum - (jh n (aK n q0 b0) q).sum) / (n:Int)):=by
 have hk:(aK n q0 b0).length=n:=by rw [d9 (by rw [g.dR,g.len]),g.dR]
 refine ⟨Fv h0 hq hk,Iw h0 g hq,?_,hr⟩
 obtain ⟨t1,e1⟩:=zB (n:=n) q0 b0 (by rw [g.dR,g.len])
 obtain ⟨t2,e2⟩:=zE (n:=n) (aK n q0 b0) q (by rw [hk,hq.1])
 have e3:oK q=oK q0:=Oo (hq.perm.trans g.seats.perm.symm)
 have e4:b0.sum - (jh n (aK n q0 b0) q).sum=(n:Int)*(-(t1+t2)):=by
  rw [e2,e1,e3,Int.mul_neg,Int.mul_add]
  omega
 rw [e4,Int.mul_ediv_cancel_left _ (by omega:(n:Int)≠0),← e4]
 omega
theorem Fill.done {n:Nat} {q0 q:List Nat} {b0 bg:List Int} {r b:Int} {i:Nat} (F:Fill n (aK n q0 b0) b0.sum q bg r) (hb:bg[i]?=some b):WD n q0 b0 q (bg.set i (b+(n:Int)*r)):=by
 have F2:=F.give hb F.nn (Int.le_refl r)
 have:=F2.sum
 rw [Int.sub_self,Int.mul_zero,Int.add_zero] at this
 exact ⟨F2.gd,this,F2.kept⟩
/-! on data -/
end DM
end
section
set_option exponentiation.threshold 10000
namespace DM
open PySem L2
end DM
end
section
set_option exponentiation.threshold 10000
namespace DM
open PySem L2
def unl:Nat→List Int→List Int→List Nat
 | j,a::k1,b::k2=>if a=b then unl (j+1) k1 k2 else j::unl (j+1) k1 k2
 | _,_,_=>[]
def hdD:List Nat→D
 | []=>.non
 | i::_=>.int (i:Nat)
def Fw (k1 k2:List Int) (s1 s2:Int):D:=if s1=s2 then hdD (unl 0 k1 k2) else .str "total"
end DM
end
section
set_option exponentiation.threshold 10000
namespace DM
open PySem L2
theorem Yu {q:List Nat} (hq:∀k∈q,k<100000):∀x∈nD q,xK 0 x:=by
 intro x hx
 unfold nD at hx
 obtain ⟨i,hi,rfl⟩:=List.mem_map.mp hx
 exact vX (Nat.lt_of_lt_of_le (show ((i:Nat):Int).natAbs<100000 by have:=hq i hi; omega) (by decide))
theorem Ua {i:Int} (h0:0≤i) (h:i≤10^60):i.natAbs<10^100:=by
 have e:(10:Int)^60=((10^60:Nat):Int):=by simp
 rw [e] at h
 have:i.natAbs≤10^60:=by
  generalize 10^60=P at h ⊢
  omega
 exact Nat.lt_of_le_of_lt this (by decide)
theorem Ot {q:List Nat} {bs:List Int} (hq:∀k∈q,k<100000) (hb:∀b∈bs,0≤b∧b≤10^60) (h1:q.length≤100) (h2:bs.length≤100):xK 500 (Om q bs):=by
 refine xK.mono (vY (m:=200) fun x hx=>?_) (by simp)
 simp only [List.mem_cons,List.not_mem_nil,or_false] at hx
 rcases hx with rfl | rfl
 ·exact xK.mono (vY (m:=0) (Yu hq)) (by rw [Yj]; omega)
 ·refine xK.mono (vY (m:=0) fun x hx=>?_) (by rw [List.length_map]; omega)
  obtain ⟨i,hi,rfl⟩:=List.mem_map.mp hx
  exact vX (Ua (hb i hi).1 (hb i hi).2)
structure Gs (n:Nat) (q:List Nat) (bs:List Int):Prop where
 gd:Gd n q bs
 top:bs.sum≤10^45
theorem Gs.shw {n:Nat} {q:List Nat} {bs:List Int} (g:Gs n q bs) (hn:n≤100):xK 500 (Om q bs):=by
 refine Ot (fun k hk=>by have:=g.gd.seats.2.2 k hk; omega) (fun b hb=>⟨g.gd.nn b hb,Int.le_trans (Int.le_trans (Oj bs g.gd.nn b hb) g.top) (by decide)⟩) (by rw [g.gd.dR]; exact hn) (by rw [g.gd.len]; exact hn)
end DM
end
section
set_option maxHeartbeats 1000000
namespace DM
open PySem L2
/-! distances of states of one lot, by the Ou of all pairs -/
def kk (n:Nat) (q:List Nat) (bs:List Int) (i:Nat):Int:=(((q.getD i 0:Nat):Int)+bs.getD i 0) / (n:Int)
def ee (n:Nat) (q:List Nat) (i j:Nat):Int:=(((q.getD j 0:Nat):Int) - ((q.getD i 0:Nat):Int)) / (n:Int)
def gg (n:Nat) (q:List Nat) (bs:List Int) (i j:Nat):Int:=kk n q bs j - kk n q bs i - ee n q i j
def prs (n:Nat):List (Nat × Nat):=(List.range n).flatMap fun i=>(List.range (n - (i+1))).map fun j=>(i,i+1+j)
def gap (n:Nat) (q:List Nat) (bs:List Int) (q2:List Nat) (b2:List Int) (p:Nat × Nat):Int:=(((gg n q bs p.1 p.2 - gg n q2 b2 p.1 p.2).natAbs:Nat):Int)
def dist (n:Nat) (q:List Nat) (bs:List Int) (q2:List Nat) (b2:List Int):Int:=((prs n).map (gap n q bs q2 b2)).sum
theorem wu {n:Nat} {p:Nat × Nat}:p∈prs n↔p.1<p.2∧p.2<n:=by
 obtain ⟨i,j⟩:=p
 unfold prs
 simp only [List.mem_flatMap,List.mem_range,List.mem_map,Prod.mk.injEq]
 constructor
 ·rintro ⟨a,h1,b,h2,rfl,rfl⟩
  omega
 ·rintro ⟨h1,h2⟩
  exact ⟨i,by omega,j - i - 1,by omega,rfl,by omega⟩
section
variable {α:Type} {f g h:α→Int}
theorem zH:∀{l:List α},(l.map fun x=>f x+g x).sum=(l.map f).sum+(l.map g).sum
 | []=>by simp
 | a::l=>by
  have:=zH (l:=l)
  simp only [List.map_cons,List.sum_cons]
  omega
theorem Cy {l:List α} (H:∀x∈l,f x=g x):(l.map f).sum=(l.map g).sum:=by
 rw [List.map_congr_left H]
end
section
variable {n:Nat} {q q2 q3:List Nat} {bs b2 b3:List Int}
end
/-! places of a seat order -/
theorem getD_at {α:Type} {l:List α} {i:Nat} {a d:α} (h:l[i]?=some a):l.getD i d=a:=by rw [List.getD_eq_getElem?_getD,h]; rfl
theorem aX.zJ {n:Nat} {q:List Nat} (h:aX n q) {i:Nat} (hi:i<n):q.getD i 0<n:=by
 have hl:i<q.length:=by rw [h.1]; exact hi
 rw [getD_at (List.getElem?_eq_getElem hl)]
 exact h.2.2 _ (List.getElem_mem hl)
theorem aX.at_ne {n:Nat} {q:List Nat} (h:aX n q) {i j:Nat} (hi:i<n) (hj:j<n) (hne:i≠j):q.getD i 0≠q.getD j 0:=fun e=>by
 have hl:i<q.length:=by rw [h.1]; exact hi
 have hl':j<q.length:=by rw [h.1]; exact hj
 rw [getD_at (List.getElem?_eq_getElem hl),getD_at (List.getElem?_eq_getElem hl')] at e
 exact hne ((List.getElem_inj h.2.1).mp e)
theorem Fx {a n:Int} (h1 : -n≤a) (h2:a<n):a / n=if a<0 then -1 else 0:=by
 split
 ·have h:=Int.add_mul_ediv_left a 1 (show n≠0 by omega)
  rw [Int.mul_one,Int.ediv_eq_zero_of_lt (by omega) (by omega)] at h
  omega
 ·exact Int.ediv_eq_zero_of_lt (by omega) h2
theorem wz {n:Nat} {q:List Nat} (h:aX n q) {i j:Nat} (hi:i<n) (hj:j<n):ee n q i j=if q.getD j 0<q.getD i 0 then -1 else 0:=by
 have h1:=h.zJ hi
 have h2:=h.zJ hj
 unfold ee
 rw [Fx (by omega) (by omega)]
 split <;> split <;> omega
theorem list_range {α:Type} (d:α) (l:List α):(List.range l.length).map (fun i=>l.getD i d)=l:=by
 apply List.ext_getElem
 ·rw [List.length_map,List.length_range]
 ·intro i h1 h2
  rw [List.getElem_map,List.getElem_range,getD_at (List.getElem?_eq_getElem h2)]
theorem oM {n:Nat} {q:List Nat} {bs:List Int} (h1:q.length=n) (h2:bs.length=n) {i:Nat} (hi:i<n):(aK n q bs).getD i 0=(((q.getD i 0:Nat):Int)+bs.getD i 0)%(n:Int):=by
 have e1:=List.getElem?_eq_getElem (show i<q.length by omega)
 have e2:=List.getElem?_eq_getElem (show i<bs.length by omega)
 rw [getD_at (d8 e1 e2),getD_at e1,getD_at e2]
section
variable {n:Nat} {q q2:List Nat} {bs b2:List Int}
theorem Fy (g:Gd n q bs) (g2:Gd n q2 b2) (hk:aK n q bs=aK n q2 b2) {i:Nat} (hi:i<n):bs.getD i 0 - b2.getD i 0=(n:Int)*(kk n q bs i - kk n q2 b2 i) - ((q.getD i 0:Nat):Int)+((q2.getD i 0:Nat):Int):=by
 have e:=oM g.dR g.len hi
 rw [hk,oM g2.dR g2.len hi] at e
 have d1:=Int.mul_ediv_add_emod (((q.getD i 0:Nat):Int)+bs.getD i 0) (n:Int)
 have d2:=Int.mul_ediv_add_emod (((q2.getD i 0:Nat):Int)+b2.getD i 0) (n:Int)
 unfold kk
 rw [Int.mul_sub]
 omega
theorem wA (g:Gd n q bs) (g2:Gd n q2 b2) (hk:aK n q bs=aK n q2 b2) {i j:Nat} (hi:i<n) (hj:j<n) :
  (((q.getD j 0:Nat):Int) - ((q.getD i 0:Nat):Int)+(bs.getD j 0 - b2.getD j 0) - (bs.getD i 0 - b2.getD i 0)) / (n:Int) - (((q.getD j 0:Nat):Int) - ((q.getD i 0:Nat):Int)) / (n:Int)=gg n q bs i j - gg n q2 b2 i j:=by
 have e1:=Fy g g2 hk hi
 have e2:=Fy g g2 hk hj
 have e3:((q.getD j 0:Nat):Int) - ((q.getD i 0:Nat):Int)+(bs.getD j 0 - b2.getD j 0) - (bs.getD i 0 - b2.getD i 0)=(((q2.getD j 0:Nat):Int) - ((q2.getD i 0:Nat):Int))+(n:Int)*((kk n q bs j - kk n q2 b2 j) - (kk n q bs i - kk n q2 b2 i)):=by
  rw [Int.mul_sub]
  omega
 rw [e3,Int.add_mul_ediv_left _ _ (by omega)]
 unfold gg ee
 omega
end
end DM
end
section
set_option maxHeartbeats 1000000
namespace DM
open PySem L2
/-! an exchange and the Ou of all pairs -/
section
variable {n:Nat} {q q' q2:List Nat} {bs bs' b2:List Int} {c:Nat}
theorem Ov (g:Gd n q bs) (h2:2≤n) (hc:c<n) (h:Km n q bs c=some (q',bs')) :
  ∃p m,p≠m∧p<n∧m<n∧q[p]?=some c∧q[m]?=some ((c+1)%n)∧(∀i,i<n→bs.getD i 0 - bs'.getD i 0=if i=m then -1 else if i=p then 1 else 0)∧∀i j,i<n→j<n→i≠j→gg n q' bs' i j=gg n q bs i j+if i=p∧j=m then 1 else if i=m∧j=p then -1 else 0:=by
 obtain ⟨p,m,x,y,hne,hp,hm,ap,am,hx,hy,h0,rfl,rfl⟩:=jg g h2 hc h
 have hql:=g.dR
 have hbl:=g.len
 have S':=g.seats.swap ap am hne
 have Q:∀i,((q.set p ((c+1)%n)).set m c).getD i 0=if i=m then c else if i=p then (c+1)%n else q.getD i 0:=fun i=>by
  rw [List.getD_eq_getElem?_getD,eZ q p m _ _ i (by omega) (by omega)]
  split
  ·rfl
  ·split
   ·rfl
   ·rw [List.getD_eq_getElem?_getD]
 have B:∀i,((bs.set p (x - 1)).set m (y+1)).getD i 0=if i=m then y+1 else if i=p then x - 1 else bs.getD i 0:=fun i=>by
  rw [List.getD_eq_getElem?_getD,eZ bs p m _ _ i (by omega) (by omega)]
  split
  ·rfl
  ·split
   ·rfl
   ·rw [List.getD_eq_getElem?_getD]
 have qp:=getD_at (d:=0) ap
 have qm:=getD_at (d:=0) am
 have bp:=getD_at (d:=0) hx
 have bm:=getD_at (d:=0) hy
 have hmod:(c+1)%n=if c+1<n then c+1 else 0:=by
  split
  ·exact Nat.mod_eq_of_lt (by omega)
  ·rw [show c+1=n by omega,Nat.mod_self]
 have hmp:m≠p:=fun e=>hne e.symm
 refine ⟨p,m,hne,hp,hm,ap,am,fun i hi=>?_,?_⟩
 ·rw [B i]
  split
  ·rename_i e; subst e; omega
  ·split
   ·rename_i e; subst e; omega
   ·omega
 have ko:∀i,i≠p→i≠m→kk n ((q.set p ((c+1)%n)).set m c) ((bs.set p (x - 1)).set m (y+1)) i=kk n q bs i:=fun i e1 e2=>by
  unfold kk
  rw [Q i,B i,if_neg e2,if_neg e1,if_neg e2,if_neg e1]
 have kp:kk n ((q.set p ((c+1)%n)).set m c) ((bs.set p (x - 1)).set m (y+1)) p=kk n q bs p - if c+1<n then 0 else 1:=by
  unfold kk
  rw [Q p,B p,if_neg hne,if_pos rfl,if_neg hne,if_pos rfl,qp,bp,hmod]
  by_cases hw:c+1<n
  ·rw [if_pos hw,if_pos hw]
   rw [show (((c+1:Nat):Int)+(x - 1))=(c:Int)+x by omega]
   omega
  ·rw [if_neg hw,if_neg hw]
   have e:=Int.add_mul_ediv_left (x - 1) 1 (show (n:Int)≠0 by omega)
   rw [show (c:Int)+x=x - 1+(n:Int)*1 by omega,e]
   rw [show (((0:Nat):Int)+(x - 1))=x - 1 by omega]
   omega
 have km:kk n ((q.set p ((c+1)%n)).set m c) ((bs.set p (x - 1)).set m (y+1)) m=kk n q bs m+if c+1<n then 0 else 1:=by
  unfold kk
  rw [Q m,B m,if_pos rfl,if_pos rfl,qm,bm,hmod]
  by_cases hw:c+1<n
  ·rw [if_pos hw,if_pos hw]
   rw [show ((c:Int)+(y+1))=((c+1:Nat):Int)+y by omega]
   omega
  ·rw [if_neg hw,if_neg hw]
   have e:=Int.add_mul_ediv_left y 1 (show (n:Int)≠0 by omega)
   rw [show (c:Int)+(y+1)=y+(n:Int)*1 by omega,e]
   rw [show (((0:Nat):Int)+y)=y by omega]
 intro i j hi hj hij
 unfold gg
 rw [wz S' hi hj,wz g.seats hi hj,Q i,Q j]
 have ni:∀k,k<n→k≠p→q.getD k 0≠c:=fun k hk hkp=>by
  have:=g.seats.at_ne hk hp hkp
  omega
 have nm:∀k,k<n→k≠m→q.getD k 0≠(c+1)%n:=fun k hk hkp=>by
  have:=g.seats.at_ne hk hm hkp
  omega
 have li:=g.seats.zJ hi
 have lj:=g.seats.zJ hj
 have nii:=ni i hi
 have nij:=ni j hj
 have nmi:=nm i hi
 have nmj:=nm j hj
 generalize kk n ((q.set p ((c+1)%n)).set m c) ((bs.set p (x - 1)).set m (y+1))=K' at *
 generalize kk n q bs=K at *
 generalize (c+1)%n=d at *
 obtain ⟨w,hw⟩:∃w,w=(if c+1<n then (0:Int) else 1):=⟨_,rfl⟩
 rw [← hw] at kp km
 have hD:(c+1<n∧d=c+1∧w=0)∨(n≤c+1∧d=0∧w=1):=by
  by_cases hz:c+1<n
  ·rw [if_pos hz] at hmod hw
   exact .inl ⟨hz,hmod,hw⟩
  ·rw [if_neg hz] at hmod hw
   exact .inr ⟨by omega,hmod,hw⟩
 clear hmod hw
 have hji:j≠i:=fun e=>hij e.symm
 by_cases e1:i=p
 ·subst e1
  by_cases e2:j=m
  ·subst e2
   simp only [hij,kp,km,and_self,reduceIte]
   omega
  ·have:=nij hji
   have:=nmj e2
   simp only [hne,hji,e2,ko j hji e2,kp,and_self,and_false,false_and,reduceIte]
   omega
 ·by_cases e2:i=m
  ·subst e2
   by_cases e3:j=p
   ·subst e3
    simp only [hij,hji,kp,km,and_self,and_false,reduceIte]
    omega
   ·have:=nij e3
    have:=nmj hji
    simp only [hmp,hji,e3,ko j e3 hji,km,and_self,and_false,false_and,reduceIte]
    omega
  ·by_cases e3:j=p
   ·subst e3
    have:=nii e1
    have:=nmi e2
    simp only [hne,e1,e2,ko i e1 e2,kp,and_self,and_false,false_and,reduceIte]
    omega
   ·by_cases e4:j=m
    ·subst e4
     have:=nii e1
     have:=nmi e2
     simp only [e1,e2,ko i e1 e2,km,and_self,and_false,false_and,reduceIte]
     omega
    ·simp only [e1,e2,e3,e4,ko i e1 e2,ko j e3 e4,and_self,and_false,false_and,reduceIte]
     omega
end
end DM
end
section
set_option maxHeartbeats 1000000
namespace DM
open PySem L2
/-! leading, shifts, meetings, on data -/
structure Ml (n:Nat) (q1:List Nat) (b1:List Int) (q2:List Nat) (b2:List Int):Prop where
 g1:Gd n q1 b1
 g2:Gd n q2 b2
 kept:aK n q1 b1=aK n q2 b2
 sum:b1.sum=b2.sum
theorem zK:∀(k:List Int) (j:Nat),unl j k k=[]
 | [],j=>rfl
 | a::k,j=>by
  show (if a=a then unl (j+1) k k else j::unl (j+1) k k)=[]
  rw [if_pos rfl,zK k]
theorem Ml.none {n:Nat} {q1 q2:List Nat} {b1 b2:List Int} (h:Ml n q1 b1 q2 b2):Fw (aK n q1 b1) (aK n q2 b2) b1.sum b2.sum=.non:=by
 unfold Fw
 rw [if_pos h.sum,h.kept,zK]
 rfl
theorem Ml.symm {n:Nat} {q1 q2:List Nat} {b1 b2:List Int} (h:Ml n q1 b1 q2 b2):Ml n q2 b2 q1 b1:=⟨h.g2,h.g1,h.kept.symm,h.sum.symm⟩
theorem Ml.trans {n:Nat} {q1 q2 q3:List Nat} {b1 b2 b3:List Int} (h:Ml n q1 b1 q2 b2) (h':Ml n q2 b2 q3 b3):Ml n q1 b1 q3 b3:=⟨h.g1,h'.g2,h.kept.trans h'.kept,h.sum.trans h'.sum⟩
theorem Ml.refl {n:Nat} {q1:List Nat} {b1:List Int} (h:Gd n q1 b1):Ml n q1 b1 q1 b1:=⟨h,h,rfl,rfl⟩
theorem WD.ml {n:Nat} {q q':List Nat} {bs bs':List Int} (g:Gd n q bs) (h:WD n q bs q' bs'):Ml n q bs q' bs':=⟨g,h.gd,h.kept.symm,h.sum.symm⟩
def dU (b1 b2:List Int):List Int:=List.zipWith (fun a b=>a - b) b1 b2
def uV (n:Nat) (q:List Nat) (ds:List Int) (i j:Nat):Int:=tR ((((q.getD j 0:Nat):Int) - ((q.getD i 0:Nat):Int)+ds.getD j 0 - ds.getD i 0) / (n:Int) - (((q.getD j 0:Nat):Int) - ((q.getD i 0:Nat):Int)) / (n:Int))
end DM
end
section
set_option maxHeartbeats 1000000
namespace DM
open PySem L2
/-! crossings and distance, on data -/
theorem zM {α:Type} {f:α→Int}:∀{l:List α},(∀x∈l,0≤f x)→((l.filter fun x=>decide (0<f x)).map f).sum=(l.map f).sum
 | [],_=>by simp
 | a::l,H=>by
  have ih:=zM (f:=f) (l:=l) fun x hx=>H x (List.mem_cons_of_mem a hx)
  have h0:=H a List.mem_cons_self
  by_cases hp:0<f a
  ·rw [List.filter_cons_of_pos (by rw [decide_eq_true_eq]; exact hp),List.map_cons,List.sum_cons,ih,List.map_cons,List.sum_cons]
  ·rw [List.filter_cons_of_neg (by rw [decide_eq_true_eq]; exact hp),ih,List.map_cons,List.sum_cons]
   omega
theorem ji {n:Nat} {b1 b2:List Int} (h1:b1.length=n) (h2:b2.length=n) {i:Nat} (hi:i<n):(dU b1 b2).getD i 0=b1.getD i 0 - b2.getD i 0:=by
 have e1:=List.getElem?_eq_getElem (show i<b1.length by omega)
 have e2:=List.getElem?_eq_getElem (show i<b2.length by omega)
 rw [getD_at e1,getD_at e2]
 unfold dU
 rw [List.getD_eq_getElem?_getD,List.getElem?_zipWith,e1,e2]
 rfl
theorem Ox {n:Nat} {q1 q2:List Nat} {b1 b2:List Int} (m:Ml n q1 b1 q2 b2) {p:Nat × Nat} (hp:p∈prs n):uV n q1 (dU b1 b2) p.1 p.2=gap n q1 b1 q2 b2 p:=by
 obtain ⟨h1,h2⟩:=wu.mp hp
 unfold uV gap
 rw [ji m.g1.len m.g2.len (show p.1<n by omega),ji m.g1.len m.g2.len h2,wA m.g1 m.g2 m.kept (by omega) h2]
 unfold tR
 split <;> omega
end DM
end
section
set_option maxHeartbeats 1000000
namespace DM
open PySem L2
/-! exchanges that are possible, and the state after one, on data -/
end DM
end
section
set_option maxHeartbeats 1000000
namespace DM
open PySem L2
/-! an exchange that comes nearer: there is one as long as two states of one lot differ -/
section
variable {n:Nat} {q q2 q':List Nat} {bs b2 bs':List Int} {c:Nat}
def sd (q:List Nat) (ds:List Int) (c:Nat):Int:=ds.getD (q.idxOf c) 0
def qD (n:Nat) (q:List Nat) (ds:List Int) (c:Nat):Prop:=sd q ds c > sd q ds ((c+1)%n)+1
theorem jk (h:aX n q) {i:Nat} (hi:i<n):q.idxOf (q.getD i 0)=i:=by
 have h1:=h.zJ hi
 obtain ⟨a,b⟩:=h.idx h1
 apply Classical.byContradiction
 intro hne
 exact h.at_ne a hi hne (getD_at b)
end
end DM
end
section
set_option maxHeartbeats 1000000
namespace DM
open PySem L2
/-! a nearer exchange, a plan, runs of rows, on data -/
def exL (n:Nat) (q:List Nat) (bs:List Int):List Nat:=(List.range n).filter fun c=>decide (0<bs.getD (q.idxOf c) 0)
def WK (n:Nat) (q:List Nat) (ds:List Int) (c:Nat):Bool:=decide (sd q ds c > sd q ds ((c+1)%n)+1)
def uW (n:Nat) (q:List Nat) (bs b2:List Int):List Nat:=(exL n q bs).filter (WK n q (dU bs b2))
theorem pK {n:Nat} {q:List Nat} {bs b2:List Int} {c:Nat}:c∈uW n q bs b2↔c<n∧0<bs.getD (q.idxOf c) 0∧qD n q (dU bs b2) c:=by
 unfold uW exL WK qD
 simp only [List.mem_filter,List.mem_range,decide_eq_true_eq,and_assoc]
end DM
end
section
set_option maxHeartbeats 1000000
namespace DM
open PySem L2
def Ub (n:Nat) (b2:List Int):List Nat→List Nat × List Int→List Nat × List Int→Prop
 | [],s,t=>s=t
 | c::cs,s,t=>∃s',(∃l,uW n s.1 s.2 b2=c::l)∧Km n s.1 s.2 c=some s'∧Ub n b2 cs s' t
theorem Oz {n:Nat} {q l:List Nat} {bs b2:List Int} {c:Nat} (h:uW n q bs b2=c::l):c<n:=(pK.mp (h▸List.mem_cons_self)).1
theorem Ub.lt {n:Nat} {b2:List Int}:∀{cs:List Nat} {s t:List Nat × List Int},Ub n b2 cs s t→∀c∈cs,c<n
 | [],_,_,_,c,hc=>by simp at hc
 | a::cs,s,t,⟨s',⟨l,k1⟩,k2,k3⟩,c,hc=>by
  rcases List.mem_cons.mp hc with rfl | hc
  ·exact Oz k1
  ·exact Ub.lt k3 c hc
theorem Ub.row {n:Nat} {b2:List Int}:∀{cs:List Nat} {s t:List Nat × List Int},Ub n b2 cs s t→Yt n cs s=some t
 | [],s,t,h=>by
  have h:s=t:=h
  subst h
  rfl
 | a::cs,s,t,⟨s',k1,k2,k3⟩=>by
  show (Km n s.1 s.2 a).bind (fun u=>Yt n cs u)=some t
  rw [k2]
  exact Ub.row k3
end DM
end
section
set_option maxHeartbeats 1000000
namespace DM
open PySem L2
/-! one rich person goes past all others -/
theorem IK {n:Nat} {f:Nat→Nat} (h1:∀i,i<n→f i<n) (h2:∀i j,i<n→j<n→f i=f j→i=j):aX n ((List.range n).map f):=by
 refine ⟨by rw [List.length_map,List.length_range],?_,fun k hk=>?_⟩
 ·refine List.pairwise_map.mpr (List.Pairwise.imp_of_mem (fun {a b} ha hb hne e=>hne (h2 a b (List.mem_range.mp ha) (List.mem_range.mp hb) e)) List.nodup_range)
 ·obtain ⟨i,hi,rfl⟩:=List.mem_map.mp hk
  exact h1 i (List.mem_range.mp hi)
def tI (T:Int) (l w:Nat):Int:=T+if w≤l then 1 else 0
def tb (n:Nat) (e T:Int) (l:Nat):List Int:=e::(List.range (n - 1)).map fun w=>tI T l (w+1)
structure acj (n b:Nat) (S e T:Int) (l:Nat):Prop where
 h2:2≤n
 hb:b<n
 hl:l<n - 1
 hT:0≤T
 he:0≤e
 hS:S=((n:Int) - 1)*T+l
section
variable {n b:Nat} {S e T:Int} {l:Nat}
theorem acj.S0 (h:acj n b S e T l):0≤S:=by
 have:=h.h2
 have h1:0≤((n:Int) - 1)*T:=Int.mul_nonneg (by omega) h.hT
 have:=h.hS
 omega
theorem IV {q q2:List Nat} {x y:List Int} (g:Gd n q x) (g2:Gd n q2 y) (h:∀i,i<n→(((q.getD i 0:Nat):Int)+x.getD i 0)%(n:Int)=(((q2.getD i 0:Nat):Int)+y.getD i 0)%(n:Int)):aK n q x=aK n q2 y:=by
 have l1:(aK n q x).length=n:=by rw [d9 (by rw [g.dR,g.len]),g.dR]
 have l2:(aK n q2 y).length=n:=by rw [d9 (by rw [g2.dR,g2.len]),g2.dR]
 rw [← list_range 0 (aK n q x),← list_range 0 (aK n q2 y),l1,l2]
 apply List.map_congr_left
 intro i hi
 have hi:=List.mem_range.mp hi
 rw [oM g.dR g.len hi,oM g2.dR g2.len hi,h i hi]
end
end DM
end
section
set_option maxHeartbeats 1000000
namespace DM
open PySem L2
/-! the way past all others, exchange by exchange -/
section
variable {n:Nat} {q q2 q':List Nat} {bs b2 bs':List Int} {c:Nat}
theorem qQ (hs:aX n q) {i j:Nat} (hi:i<n) (hj:j<n) (hne:i≠j):gg n q bs j i=1 - gg n q bs i j:=by
 have h1:=wz hs hi hj
 have h3:=wz hs hj hi
 have h4:=hs.at_ne hi hj hne
 unfold gg
 rw [h1,h3]
 split <;> split <;> omega
theorem qR (m:Ml n q bs q2 b2) (h2:2≤n) (hc:c<n) (hP:qD n q (dU bs b2) c):gg n q bs (q.idxOf c) (q.idxOf ((c+1)%n))<gg n q2 b2 (q.idxOf c) (q.idxOf ((c+1)%n)):=by
 obtain ⟨hp,ap⟩:=m.g1.seats.idx hc
 obtain ⟨hm,am⟩:=m.g1.seats.idx (show (c+1)%n<n from Nat.mod_lt _ (by omega))
 unfold qD sd at hP
 generalize q.idxOf c=p at *
 generalize q.idxOf ((c+1)%n)=mm at *
 rw [ji m.g1.len m.g2.len hp,ji m.g1.len m.g2.len hm] at hP
 have e:=wA m.g1 m.g2 m.kept hp hm
 rw [getD_at ap,getD_at am] at e
 have key:((((c+1)%n:Nat):Int) - (c:Int)+(bs.getD mm 0 - b2.getD mm 0) - (bs.getD p 0 - b2.getD p 0)) / (n:Int)<((((c+1)%n:Nat):Int) - (c:Int)) / (n:Int):=by
  by_cases hz:c+1<n
  ·rw [Nat.mod_eq_of_lt hz]
   have a1:((((c+1:Nat):Int)) - (c:Int)) / (n:Int)=0:=Int.ediv_eq_zero_of_lt (by omega) (by omega)
   rw [a1]
   exact Int.ediv_neg_of_neg_of_pos (by omega) (by omega)
  ·have hz2:(c+1)%n=0:=by rw [show c+1=n by omega,Nat.mod_self]
   rw [hz2]
   have a1:((((0:Nat):Int)) - (c:Int)) / (n:Int) = -1:=by
    rw [Fx (by omega) (by omega),if_pos (by omega)]
   rw [a1]
   have a2:=Int.add_mul_ediv_left ((((0:Nat):Int)) - (c:Int)+(bs.getD mm 0 - b2.getD mm 0) - (bs.getD p 0 - b2.getD p 0)) 1 (show (n:Int)≠0 by omega)
   have a3:((((0:Nat):Int)) - (c:Int)+(bs.getD mm 0 - b2.getD mm 0) - (bs.getD p 0 - b2.getD p 0)+(n:Int)*1) / (n:Int)<0:=Int.ediv_neg_of_neg_of_pos (by omega) (by omega)
   omega
 omega
structure zN (n:Nat) (q:List Nat) (bs:List Int) (q2:List Nat) (b2:List Int):Prop where
 ml:Ml n q bs q2 b2
 others:∀i j,0<i→0<j→i<n→j<n→i≠j→gg n q bs i j=gg n q2 b2 i j
 zero:∀j,0<j→j<n→gg n q bs 0 j≤gg n q2 b2 0 j
theorem zN.near (h:zN n q bs q2 b2) (h2:2≤n) (hc:c<n) (hP:qD n q (dU bs b2) c):q.idxOf c=0:=by
 have e:=qR h.ml h2 hc hP
 obtain ⟨hp,_⟩:=h.ml.g1.seats.idx hc
 have hc':(c+1)%n<n:=Nat.mod_lt _ (by omega)
 obtain ⟨hm,_⟩:=h.ml.g1.seats.idx hc'
 have hne:=h.ml.g1.seats.lA hc hc' (next_ne h2 hc)
 generalize q.idxOf c=p at *
 generalize q.idxOf ((c+1)%n)=mm at *
 apply Classical.byContradiction
 intro h0
 by_cases hz:mm=0
 ·subst hz
  have a1:=h.zero p (by omega) hp
  have a2:=qQ (bs:=bs) h.ml.g1.seats (show 0<n by omega) hp (by omega)
  have a3:=qQ (bs:=b2) h.ml.g2.seats (show 0<n by omega) hp (by omega)
  omega
 ·have:=h.others p mm (by omega) (by omega) hp hm hne
  omega
theorem zN.step (h:zN n q bs q2 b2) (h2:2≤n) (hc:c<n) (hP:qD n q (dU bs b2) c) (hv:Km n q bs c=some (q',bs')):zN n q' bs' q2 b2∧q'.getD 0 0=(c+1)%n:=by
 have h0:=h.near h2 hc hP
 have e:=qR h.ml h2 hc hP
 obtain ⟨p,mm,hne,hp,hm,ap,am,_,hg⟩:=Ov h.ml.g1 h2 hc hv
 have ip:q.idxOf c=p:=by
  have:=jk h.ml.g1.seats hp
  rw [getD_at ap] at this
  exact this
 have im:q.idxOf ((c+1)%n)=mm:=by
  have:=jk h.ml.g1.seats hm
  rw [getD_at am] at this
  exact this
 rw [ip,im] at e
 rw [ip] at h0
 subst h0
 refine ⟨⟨⟨wg h.ml.g1 h2 hc hv,h.ml.g2,(sH h.ml.g1 h2 hc hv).trans h.ml.kept,(wj h.ml.g1 h2 hc hv).trans h.ml.sum⟩,fun i j hi hj hin hjn hij=>?_,fun j hj hjn=>?_⟩,?_⟩
 ·rw [hg i j hin hjn hij,if_neg (by omega),if_neg (by omega),h.others i j hi hj hin hjn hij]
  omega
 ·rw [hg 0 j (by omega) hjn (by omega)]
  have:=h.zero j hj hjn
  split
  ·rename_i k
   obtain ⟨_,rfl⟩:=k
   omega
  ·rw [if_neg (by omega)]
   omega
 ·obtain ⟨p',m',x,y,hne',hp',hm',ap',am',_,_,_,rfl,rfl⟩:=jg h.ml.g1 h2 hc hv
  have e1:p'=0:=by
   have:=jk h.ml.g1.seats hp'
   rw [getD_at ap',ip] at this
   omega
  subst e1
  have hql:=h.ml.g1.dR
  rw [List.getD_eq_getElem?_getD,eZ q 0 m' _ _ 0 (by omega) (by omega),if_neg hne',if_pos rfl]
  rfl
theorem zN.walk (h2:2≤n):∀(cs:List Nat) (q:List Nat) (bs:List Int) (t:List Nat × List Int),zN n q bs q2 b2→Ub n b2 cs (q,bs) t→cs=(List.range cs.length).map fun k=>(q.getD 0 0+k)%n
 | [],q,bs,t,_,_=>rfl
 | c::cs,q,bs,t,h,⟨⟨q',bs'⟩,⟨l,k1⟩,k2,k3⟩=>by
  have hm:=pK.mp (show c∈uW n q bs b2 by rw [k1]; exact List.mem_cons_self)
  have h0:=h.near h2 hm.1 hm.2.2
  obtain ⟨s1,s2⟩:=h.step h2 hm.1 hm.2.2 k2
  have ih:=zN.walk h2 cs q' bs' t s1 k3
  have hc:q.getD 0 0=c:=by
   have:=(h.ml.g1.seats.idx hm.1).2
   rw [h0] at this
   exact getD_at this
  rw [s2] at ih
  rw [List.length_cons,List.range_succ_eq_map,List.map_cons,List.map_map,Nat.add_zero,hc,Nat.mod_eq_of_lt hm.1]
  refine List.cons_eq_cons.mpr ⟨rfl,ih.trans ?_⟩
  apply List.map_congr_left
  intro k _
  simp only [Function.comp]
  rw [Nat.mod_add_mod]
  congr 1
  omega
end
section
variable {n b:Nat} {S e T:Int} {l:Nat}
end
end DM
end
section
set_option maxHeartbeats 1000000
namespace DM
open PySem L2
/-! somebody goes past all others, whoever it is -/
section
variable {n w:Nat} {q q2 q':List Nat} {bs b2 bs':List Int} {c:Nat}
structure oO (n w:Nat) (q:List Nat) (bs:List Int) (q2:List Nat) (b2:List Int):Prop where
 ml:Ml n q bs q2 b2
 others:∀i j,i≠w→j≠w→i<n→j<n→i≠j→gg n q bs i j=gg n q2 b2 i j
 zero:∀j,j≠w→j<n→gg n q bs w j≤gg n q2 b2 w j
theorem oO.near (h:oO n w q bs q2 b2) (h2:2≤n) (hc:c<n) (hP:qD n q (dU bs b2) c):q.idxOf c=w:=by
 have e:=qR h.ml h2 hc hP
 obtain ⟨hp,_⟩:=h.ml.g1.seats.idx hc
 have hc':(c+1)%n<n:=Nat.mod_lt _ (by omega)
 obtain ⟨hm,_⟩:=h.ml.g1.seats.idx hc'
 have hne:=h.ml.g1.seats.lA hc hc' (next_ne h2 hc)
 generalize q.idxOf c=p at *
 generalize q.idxOf ((c+1)%n)=mm at *
 apply Classical.byContradiction
 intro h0
 by_cases hz:mm=w
 ·subst hz
  have a1:=h.zero p (by omega) hp
  have a2:=qQ (bs:=bs) h.ml.g1.seats hm hp (by omega)
  have a3:=qQ (bs:=b2) h.ml.g2.seats hm hp (by omega)
  omega
 ·have:=h.others p mm (by omega) (by omega) hp hm hne
  omega
theorem oO.step (h:oO n w q bs q2 b2) (h2:2≤n) (hc:c<n) (hP:qD n q (dU bs b2) c) (hv:Km n q bs c=some (q',bs')):oO n w q' bs' q2 b2∧q'.getD w 0=(c+1)%n:=by
 have h0:=h.near h2 hc hP
 have e:=qR h.ml h2 hc hP
 obtain ⟨p,mm,hne,hp,hm,ap,am,_,hg⟩:=Ov h.ml.g1 h2 hc hv
 have ip:q.idxOf c=p:=by
  have:=jk h.ml.g1.seats hp
  rw [getD_at ap] at this
  exact this
 have im:q.idxOf ((c+1)%n)=mm:=by
  have:=jk h.ml.g1.seats hm
  rw [getD_at am] at this
  exact this
 rw [ip,im] at e
 rw [ip] at h0
 subst h0
 refine ⟨⟨⟨wg h.ml.g1 h2 hc hv,h.ml.g2,(sH h.ml.g1 h2 hc hv).trans h.ml.kept,(wj h.ml.g1 h2 hc hv).trans h.ml.sum⟩,fun i j hi hj hin hjn hij=>?_,fun j hj hjn=>?_⟩,?_⟩
 ·rw [hg i j hin hjn hij,if_neg (by omega),if_neg (by omega),h.others i j hi hj hin hjn hij]
  omega
 ·rw [hg p j hp hjn (by omega)]
  have:=h.zero j hj hjn
  split
  ·rename_i k
   obtain ⟨_,rfl⟩:=k
   omega
  ·rw [if_neg (by omega)]
   omega
 ·obtain ⟨p',m',x,y,hne',hp',hm',ap',am',_,_,_,rfl,rfl⟩:=jg h.ml.g1 h2 hc hv
  have e1:p'=p:=by
   have:=jk h.ml.g1.seats hp'
   rw [getD_at ap',ip] at this
   omega
  subst e1
  have hql:=h.ml.g1.dR
  rw [List.getD_eq_getElem?_getD,eZ q _ m' _ _ _ (by omega) (by omega),if_neg hne',if_pos rfl]
  rfl
theorem oO.walk (h2:2≤n):∀(cs:List Nat) (q:List Nat) (bs:List Int) (t:List Nat × List Int),oO n w q bs q2 b2→Ub n b2 cs (q,bs) t→cs=(List.range cs.length).map fun k=>(q.getD w 0+k)%n
 | [],q,bs,t,_,_=>rfl
 | c::cs,q,bs,t,h,⟨⟨q',bs'⟩,⟨l,k1⟩,k2,k3⟩=>by
  have hm:=pK.mp (show c∈uW n q bs b2 by rw [k1]; exact List.mem_cons_self)
  have h0:=h.near h2 hm.1 hm.2.2
  obtain ⟨s1,s2⟩:=h.step h2 hm.1 hm.2.2 k2
  have ih:=oO.walk h2 cs q' bs' t s1 k3
  have hc:q.getD w 0=c:=by
   have:=(h.ml.g1.seats.idx hm.1).2
   rw [h0] at this
   exact getD_at this
  rw [s2] at ih
  rw [List.length_cons,List.range_succ_eq_map,List.map_cons,List.map_map,Nat.add_zero,hc,Nat.mod_eq_of_lt hm.1]
  refine List.cons_eq_cons.mpr ⟨rfl,ih.trans ?_⟩
  apply List.map_congr_left
  intro k _
  simp only [Function.comp]
  rw [Nat.mod_add_mod]
  congr 1
  omega
end
end DM
end
section
set_option maxHeartbeats 1000000
namespace DM
open PySem L2
/-! rounds of one person round the table -/
structure oR (n w:Nat) (q:List Nat) (b:List Int) (R:Int):Prop where
 g:Gd n q b
 h2:2≤n
 hw:w<n
 hR:1≤R
def jm (n:Nat) (R:Int):Int:=(n:Int)*((n:Int) - 1)*R
def oU (b:List Int) (w:Nat) (C:Int):List Int:=b.set w (b.getD w 0+C)
def m7 (n:Nat) (b:List Int) (w:Nat) (R:Int):List Int:=(b.map fun x=>x+(n:Int)*R).set w (b.getD w 0)
theorem zP {l:List Int} {w i:Nat} {v:Int} (hw:w<l.length):(l.set w v).getD i 0=if i=w then v else l.getD i 0:=by
 rw [List.getD_eq_getElem?_getD,List.getD_eq_getElem?_getD,List.getElem?_set]
 by_cases h:i=w
 ·subst h
  rw [if_pos rfl,if_pos rfl,if_pos hw]
  rfl
 ·rw [if_neg (fun e=>h e.symm),if_neg h]
theorem m9 {α:Type} (c:Int):∀l:List α,(l.map fun _=>c).sum=(l.length:Nat)*c
 | []=>by simp
 | a::l=>by
  have:=m9 c l
  rw [List.map_cons,List.sum_cons,this,List.length_cons,show ((l.length+1:Nat):Int)=(l.length:Int)+1 by omega,Int.add_mul,Int.one_mul]
  omega
section
variable {n w:Nat} {q:List Nat} {b:List Int} {R:Int}
theorem oR.C1 (n:Nat) (R:Int):jm n R=(n:Int)*((n:Int)*R - R):=by
 unfold jm
 rw [Int.mul_assoc,Int.sub_mul,Int.one_mul]
theorem oR.nR (h:oR n w q b R):1≤(n:Int)*R:=by
 have h2:=h.h2
 have h1:(n:Int)*1≤(n:Int)*R:=Int.mul_le_mul_of_nonneg_left h.hR (by omega)
 omega
theorem oR.C2 (h:oR n w q b R):jm n R=(n:Int)*((n:Int)*R) - (n:Int)*R:=by rw [oR.C1,Int.mul_sub]
theorem oR.C0 (h:oR n w q b R):1≤jm n R:=by
 have h2:=h.h2
 have h1:=h.nR
 rw [h.C2]
 have:(2:Int)*((n:Int)*R)≤(n:Int)*((n:Int)*R):=Int.mul_le_mul_of_nonneg_right (by omega) (by omega)
 omega
theorem oR.atA (h:oR n w q b R) (i:Nat):(oU b w (jm n R)).getD i 0=if i=w then b.getD w 0+jm n R else b.getD i 0:=zP (by rw [h.g.len]; exact h.hw)
theorem oR.atB (h:oR n w q b R) {i:Nat} (hi:i<n):(m7 n b w R).getD i 0=if i=w then b.getD w 0 else b.getD i 0+(n:Int)*R:=by
 unfold m7
 rw [zP (by rw [List.length_map,h.g.len]; exact h.hw)]
 have hl:=h.g.len
 have e:(b.map fun x=>x+(n:Int)*R).getD i 0=b.getD i 0+(n:Int)*R:=by
  have e1:=List.getElem?_eq_getElem (show i<b.length by omega)
  rw [List.getD_eq_getElem?_getD,List.getElem?_map,e1,getD_at e1]
  rfl
 rw [e]
theorem FJ {l:List Int} (h:∀x∈l,0≤x) (i:Nat):0≤l.getD i 0:=by
 rw [List.getD_eq_getElem?_getD]
 cases e:l[i]? with
 | none=>exact Int.le_refl 0
 | some x=>exact h x (List.mem_of_getElem? e)
theorem oR.gA (h:oR n w q b R):Gd n q (oU b w (jm n R)):=by
 refine ⟨h.g.seats,by unfold oU; rw [List.length_set]; exact h.g.len,fun x hx=>?_⟩
 have:=h.C0
 have:=FJ h.g.nn w
 unfold oU at hx
 rcases List.mem_or_eq_of_mem_set hx with hx | hx
 ·exact h.g.nn x hx
 ·omega
theorem oR.gB (h:oR n w q b R):Gd n q (m7 n b w R):=by
 refine ⟨h.g.seats,by unfold m7; rw [List.length_set,List.length_map]; exact h.g.len,fun x hx=>?_⟩
 have:=h.nR
 have:=FJ h.g.nn w
 unfold m7 at hx
 rcases List.mem_or_eq_of_mem_set hx with hx | hx
 ·obtain ⟨y,hy,rfl⟩:=List.mem_map.mp hx
  have:=h.g.nn y hy
  omega
 ·omega
theorem oR.ml (h:oR n w q b R):Ml n q (oU b w (jm n R)) q (m7 n b w R):=by
 have h2:=h.h2
 have hl:=h.g.len
 have hw:=h.hw
 refine ⟨h.gA,h.gB,IV h.gA h.gB fun i hi=>?_,?_⟩
 ·rw [h.atA,h.atB hi]
  by_cases e:i=w
  ·rw [if_pos e,if_pos e,oR.C1,← Int.add_assoc,Int.add_mul_emod_self_left]
  ·rw [if_neg e,if_neg e,← Int.add_assoc,Int.add_mul_emod_self_left]
 ·have e1:=List.getElem?_eq_getElem (show w<b.length by omega)
  have e2:=List.getElem?_eq_getElem (show w<(b.map fun x=>x+(n:Int)*R).length by rw [List.length_map]; omega)
  unfold oU m7
  rw [sum_set b w _ (by omega),sum_set _ w _ (by rw [List.length_map]; omega),getD_at e1,List.getElem_map,zH (f:=fun x:Int=>x) (g:=fun _=>(n:Int)*R),List.map_id',m9,h.C2]
  have e5:((b.length:Nat):Int)=(n:Int):=by omega
  generalize b[w]=bw at *
  rw [show ((b.length:Nat):Int)*((n:Int)*R)=(n:Int)*((n:Int)*R) by rw [e5]]
  omega
theorem oR.step (h:oR n w q b R) {i:Nat} (hi:i<n):(dU (oU b w (jm n R)) (m7 n b w R)).getD i 0=if i=w then jm n R else -((n:Int)*R):=by
 rw [ji h.gA.len h.gB.len hi,h.atA,h.atB hi]
 split <;> omega
theorem oR.meet (h:oR n w q b R) {i j:Nat} (hi:i<n) (hj:j<n) (hij:i≠j):(((q.getD j 0:Nat):Int) - ((q.getD i 0:Nat):Int)+(dU (oU b w (jm n R)) (m7 n b w R)).getD j 0 - (dU (oU b w (jm n R)) (m7 n b w R)).getD i 0) / (n:Int) - (((q.getD j 0:Nat):Int) - ((q.getD i 0:Nat):Int)) / (n:Int)=if i=w then -((n:Int)*R) else if j=w then (n:Int)*R else 0:=by
 have h2:=h.h2
 have hn:(n:Int)≠0:=by omega
 rw [h.step hi,h.step hj]
 generalize ((q.getD j 0:Nat):Int) - ((q.getD i 0:Nat):Int)=X
 by_cases e:i=w
 ·rw [if_pos e,if_pos e,if_neg (fun z=>hij (e.trans z.symm)),show X + -((n:Int)*R) - jm n R=X+(n:Int)*(-((n:Int)*R)) by rw [h.C2,Int.mul_neg]; omega,Int.add_mul_ediv_left _ _ hn]
  omega
 ·rw [if_neg e,if_neg e]
  by_cases e2:j=w
  ·rw [if_pos e2,if_pos e2,show X+jm n R - -((n:Int)*R)=X+(n:Int)*((n:Int)*R) by rw [h.C2]; omega,Int.add_mul_ediv_left _ _ hn]
   omega
  ·rw [if_neg e2,if_neg e2,show X + -((n:Int)*R) - -((n:Int)*R)=X by omega]
   omega
theorem oR.past (h:oR n w q b R):oO n w q (oU b w (jm n R)) q (m7 n b w R):=by
 have m:=h.ml
 have hst:=fun {i:Nat} (hi:i<n)=>ji m.g1.len m.g2.len hi
 have key:∀i j,i<n→j<n→i≠j→gg n q (oU b w (jm n R)) i j - gg n q (m7 n b w R) i j=if i=w then -((n:Int)*R) else if j=w then (n:Int)*R else 0:=fun i j hi hj hij=>by
  have e1:=wA m.g1 m.g2 m.kept hi hj
  have e2:=h.meet hi hj hij
  rw [hst hi,hst hj] at e2
  omega
 have:=h.nR
 refine ⟨m,fun i j hi hj hin hjn hij=>?_,fun j hj hjn=>?_⟩
 ·have:=key i j hin hjn hij
  rw [if_neg hi,if_neg hj] at this
  omega
 ·have:=key w j h.hw hjn (fun e=>hj e.symm)
  rw [if_pos rfl] at this
  omega
theorem oR.uV (h:oR n w q b R) {p:Nat × Nat} (hp:p∈prs n):uV n q (dU (oU b w (jm n R)) (m7 n b w R)) p.1 p.2=if p.1=w∨p.2=w then (n:Int)*R else 0:=by
 obtain ⟨h1,h3⟩:=wu.mp hp
 have:=h.nR
 unfold DM.uV
 rw [h.meet (show p.1<n by omega) h3 (by omega)]
 by_cases e:p.1=w
 ·rw [if_pos e,if_pos (.inl e)]
  unfold tR
  split <;> omega
 ·rw [if_neg e]
  by_cases e2:p.2=w
  ·rw [if_pos e2,if_pos (.inr e2)]
   unfold tR
   split <;> omega
  ·rw [if_neg e2,if_neg (by omega)]
   rfl
def oV (n w:Nat):List (Nat × Nat):=((List.range n).filter fun m=>!(m == w)).map fun m=>(if m<w then m else w,if w<m then m else w)
def FQ (p q:Nat × Nat):Bool:=decide (p.1<q.1∨(p.1=q.1∧p.2<q.2))
theorem swo2:SrtO.Swo FQ:=by
 refine ⟨fun x y hh=>?_,fun x y z h1 h2=>?_⟩
 ·have a:=of_decide_eq_true (p:=x.1<y.1∨(x.1=y.1∧x.2<y.2)) hh
  exact decide_eq_false (p:=y.1<x.1∨(y.1=x.1∧y.2<x.2)) (by omega)
 ·have a:=of_decide_eq_false (p:=y.1<x.1∨(y.1=x.1∧y.2<x.2)) h1
  have b:=of_decide_eq_false (p:=z.1<y.1∨(z.1=y.1∧z.2<y.2)) h2
  exact decide_eq_false (p:=z.1<x.1∨(z.1=x.1∧z.2<x.2)) (by omega)
theorem pN (n:Nat):(List.range n).Pairwise (fun a b=>a<b):=List.pairwise_lt_range
theorem Uc (n:Nat):(prs n).Pairwise (fun p q=>FQ p q=true):=by
 unfold prs
 rw [List.pairwise_flatMap]
 refine ⟨fun i hi=>?_,?_⟩
 ·refine List.pairwise_map.mpr ((pN _).imp fun {a b} hab=>?_)
  exact decide_eq_true (p:=i<i∨(i=i∧i+1+a<i+1+b)) (by omega)
 ·refine (pN n).imp fun {a b} hab x hx y hy=>?_
  obtain ⟨u,_,rfl⟩:=List.mem_map.mp hx
  obtain ⟨v,_,rfl⟩:=List.mem_map.mp hy
  exact decide_eq_true (p:=a<b∨(a=b∧a+1+u<b+1+v)) (by omega)
theorem IW {n w:Nat}:(oV n w).Pairwise (fun p q=>FQ p q=true):=by
 unfold oV
 refine List.pairwise_map.mpr (List.Pairwise.imp_of_mem (fun {a b} ha hb hab=>?_) ((pN n).filter _))
 have h1:=(List.mem_filter.mp ha).2
 have h2:=(List.mem_filter.mp hb).2
 have h1:a≠w:=by simpa using h1
 have h2:b≠w:=by simpa using h2
 refine decide_eq_true (p:=(if a<w then a else w)<(if b<w then b else w)∨((if a<w then a else w)=(if b<w then b else w)∧(if w<a then a else w)<(if w<b then b else w))) ?_
 split <;> split <;> split <;> split <;> omega
theorem uX {l:List (Nat × Nat)} (h:l.Pairwise (fun p q=>FQ p q=true)):l.Nodup:=h.imp fun {a b} hab e=>by
 subst e
 have:=of_decide_eq_true (p:=a.1<a.1∨(a.1=a.1∧a.2<a.2)) hab
 omega
theorem zQ {n w:Nat} (hw:w<n):(prs n).filter (fun p=>decide (p.1=w∨p.2=w))=oV n w:=by
 have a1:=(Uc n).filter (fun p=>decide (p.1=w∨p.2=w))
 have a2:=IW (n:=n) (w:=w)
 refine xT swo2 a2 ((List.perm_ext_iff_of_nodup (uX a1) (uX a2)).mpr fun p=>?_) (a1.imp fun {x y} hxy=>swo2.asym x y hxy)
 unfold oV
 rw [List.mem_filter,wu,List.mem_map]
 simp only [decide_eq_true_eq]
 obtain ⟨i,j⟩:=p
 constructor
 ·rintro ⟨⟨h1,h3⟩,h4⟩
  rcases h4 with h4 | h4
  ·refine ⟨j,List.mem_filter.mpr ⟨List.mem_range.mpr h3,by simp only at h1 h4; simp; omega⟩,?_⟩
   simp only at h1 h4 ⊢
   rw [if_neg (by omega),if_pos (by omega),h4]
  ·refine ⟨i,List.mem_filter.mpr ⟨List.mem_range.mpr (by simp only at h1 h3; omega),by simp only at h1 h4; simp; omega⟩,?_⟩
   simp only at h1 h4 ⊢
   rw [if_pos (by omega),if_neg (by omega),h4]
 ·rintro ⟨m,hm,e⟩
  obtain ⟨h1,h3⟩:=List.mem_filter.mp hm
  have h1:=List.mem_range.mp h1
  have h3:m≠w:=by simpa using h3
  have e1:=((Prod.mk.injEq ..).mp e).1
  have e2:=((Prod.mk.injEq ..).mp e).2
  simp only at e1 e2 ⊢
  by_cases c:m<w
  ·rw [if_pos c] at e1
   rw [if_neg (by omega)] at e2
   omega
  ·rw [if_neg c] at e1
   rw [if_pos (by omega)] at e2
   omega
theorem Ja {n w:Nat} (hw:w<n):(oV n w).length=n - 1:=by
 unfold oV
 rw [List.length_map]
 have h1:=List.length_eq_countP_add_countP (fun m=>!(m == w)) (l:=List.range n)
 rw [List.length_range] at h1
 rw [← List.countP_eq_length_filter]
 have h3:(List.range n).countP (fun a=>decide ¬(!(a == w))=true)=1:=by
  have:(List.range n).countP (fun a=>decide ¬(!(a == w))=true)=(List.range n).count w:=by
   unfold List.count
   apply List.countP_congr
   intro a _
   simp
  rw [this,List.nodup_range.count,if_pos (List.mem_range.mpr hw)]
 omega
theorem oR.dist (h:oR n w q b R):dist n q (oU b w (jm n R)) q (m7 n b w R)=jm n R:=by
 have m:=h.ml
 have hn:=h.nR
 have h2:=h.h2
 have e0:DM.dist n q (oU b w (jm n R)) q (m7 n b w R)=((prs n).map fun p=>if p.1=w∨p.2=w then (n:Int)*R else 0).sum:=Cy fun p hp=>by
  rw [← Ox m hp,h.uV hp]
 have e1:=zM (f:=fun p:Nat × Nat=>if p.1=w∨p.2=w then (n:Int)*R else 0) (l:=prs n) fun p _=>by
  show 0≤if p.1=w∨p.2=w then (n:Int)*R else 0
  split <;> omega
 rw [e0,← e1]
 have e2:((prs n).filter fun p=>decide (0<if p.1=w∨p.2=w then (n:Int)*R else 0))=oV n w:=by
  rw [← zQ h.hw]
  apply List.filter_congr
  intro p _
  by_cases c:p.1=w∨p.2=w
  ·rw [if_pos c,decide_eq_true c]
   exact decide_eq_true (by omega)
  ·rw [if_neg c,decide_eq_false c]
   rfl
 rw [e2]
 have e3:((oV n w).map fun p=>if p.1=w∨p.2=w then (n:Int)*R else 0)=(oV n w).map fun _=>(n:Int)*R:=by
  apply List.map_congr_left
  intro p hp
  rw [← zQ h.hw] at hp
  rw [if_pos (by simpa using (List.mem_filter.mp hp).2)]
 rw [e3,m9,Ja h.hw,h.C2]
 have:((n - 1:Nat):Int)=(n:Int) - 1:=by omega
 rw [this,Int.sub_mul,Int.one_mul]
end
end DM
end
section
namespace DM
open PySem PySem.Spec PyProof.Rows L2
structure xM (x:Str) (B newId initId:String) (bm:List Value):Prop where
 F:ExcBaseFacts B newId initId bm
 S:StoreFacts B bm "object.__setattr__" "object"
 ty:typeOf (.type B)=pure (.type "type")
 boot:bootBuiltins x=some (.type B)
 nn:x ≠ "__name__"
 nd:(x == ("__debug__":Str))=false
 stub:Manifest.isStub B=false
 hin:PySem.W.handedIn (.builtin initId)=true
theorem acn:typeOf (.type "LookupError")=pure (.type "type"):=by kernel_rfl
theorem aco:typeOf (.type "ValueError")=pure (.type "type"):=by kernel_rfl
theorem acp:typeOf (.type "RuntimeError")=pure (.type "type"):=by kernel_rfl
theorem acq:typeOf (.type "OverflowError")=pure (.type "type"):=by kernel_rfl
theorem FW:xM "LookupError" "LookupError" "LookupError.__new__" "LookupError.__init__" [.type "LookupError",.type "Exception",.type "BaseException",.type "object"] :=
 ⟨F.excBase_LookupError,F.store_LookupError,acn,by decide +kernel,by decide,by decide,by decide +kernel,by decide +kernel⟩
theorem FZ:xM "ValueError" "ValueError" "ValueError.__new__" "ValueError.__init__" [.type "ValueError",.type "Exception",.type "BaseException",.type "object"] :=
 ⟨F.excBase_ValueError,F.store_ValueError,aco,by decide +kernel,by decide,by decide,by decide +kernel,by decide +kernel⟩
theorem Ge:xM "RuntimeError" "RuntimeError" "RuntimeError.__new__" "RuntimeError.__init__" [.type "RuntimeError",.type "Exception",.type "BaseException",.type "object"] :=
 ⟨F.excBase_RuntimeError,F.store_RuntimeError,acp,by decide +kernel,by decide,by decide,by decide +kernel,by decide +kernel⟩
theorem WL:xM "OverflowError" "OverflowError" "OverflowError.__new__" "OverflowError.__init__" [.type "OverflowError",.type "ArithmeticError",.type "Exception",.type "BaseException",.type "object"] :=
 ⟨F.excBase_OverflowError,F.store_OverflowError,acq,by decide +kernel,by decide,by decide,by decide +kernel,by decide +kernel⟩
structure Own (K:PySem.W.Frag) (C fI:Addr) (f cn:Str) (B newId initId:String) (bm:List Value):Prop where
 cls:∃q N bs sn sub ab col dd k0 k1 k2 k3 k5,K.lookup C=some (excClassObj cn q C N bs bm true sn sub ab col dd k0 k1 k2 k3 k5 newId)
 sa:PySem.W.findIn K (.ref C) "__setattr__"=some (some (.builtin "object.__setattr__"))
 ga:PySem.W.findIn K (.ref C) "__getattribute__"=some (some (.builtin "BaseException.__getattribute__"))
 gg:PySem.W.findIn K (.ref C) "__getattr__"=some none
 noF:PySem.W.findIn K (.ref C) f=some none
 iC:PySem.W.findIn K (.ref C) "__init__"=some (some (.ref fI))
 tI:PySem.W.typeIn K (.ref fI)=some (.type "function")
 kC:PySem.W.keepIn K (.ref C)=true
 exC:PySem.W.subIn K (.ref C) (.type "BaseException")=some true
 tyC:PySem.W.typeIn K (.ref C)=some (.type "type")
 hdC:PySem.W.hasDictIn K C=true
 cC:PySem.W.findIn K (.ref C) "__class__"=some (some (.builtin "object.__class__"))
 ini:PySem.W.findCls K (.type B) (.type "type") "__init__"=some (.val (.builtin initId))
section
open PySem.W PySem.Calls PySem.HandSPX Builtin Builtin.ObjectAttr
variable {prog:Program} {w:World} {A:Around} {E:Value→Shared→Prop} {R:Result→Shared→Prop} {hp:Heap} {g:Array GenState} {d:Drawn} {t:Nat} {os:OsState}
theorem Ud {K:W.Frag} {name:Str} {tk:Tok} {v:Value} {x C:Addr} {fv:Array Value} {cd:ClassData} (hm1:cd.mro.isEmpty=false) (hm2:cd.mro.contains (.type "object")=true) (hm3:∀self,refuseLoop self "__setattr__" cd.mro=pure ())
  (Y:K.In hp) (gx:hp.get? x=some { cls:=.ref C,data:=.fields fv }) (hcd:W.clsIn K C=some cd) (hh:cd.hasDict=true) (ha:W.findIn K (.ref C) name=some none)
  (fin:∀h' tk' dx,(∀b o,b≠x→hp.get? b=some o→h'.get? b=some o)→hp.objs.size≤dx→dx≠x→h'.get? x=some { cls:=.ref C,dict:=some dx,data:=.fields fv } →
   h'.Ns1 dx (fun y=>if y=name then some v else none)→R (.ok (.ret .none)) ⟨h',g,d,tk',os⟩):codeAny (model prog w) A (.call (.builtin "object.__setattr__") ⟨[.ref x,.str name tk,v],[]⟩) R ⟨hp,g,d,t,os⟩:=by
 have J:W.InstAt hp x { cls:=.ref C,data:=.fields fv } C none:=⟨gx,rfl,rfl,trivial⟩
 have SO:=F.store_object
 have nx:x≠hp.objs.size:=Nat.ne_of_lt (Heap.lt_size gx)
 have sub:W.Looks (model prog w) hp (isInstance (.ref x) (.type "object")) true:=J.type.andThen (W.looks_mroIn Y (by unfold W.mroIn; rw [hcd,Option.bind_some,hm1,if_neg Bool.false_ne_true,hm2]))
 refine codeAny_call_builtin SO.slot.plain SO.entry (@W.check_slot (model prog w) _ _ ⟨hp,g,d,t,os⟩ "object.__setattr__" "object" "__setattr__" (.ref x) [.str name tk,v] [] _ SO.kind SO.split sub (SO.args (.ref x) (.str name tk) v) ?_)
 have lm:W.Looks (model prog w) hp (mroOf (.ref C)) cd.mro:=(W.looks_clsIn Y hcd).andThen .now
 have l3:W.Looks (model prog w) hp (storeTaker? none) none:=.now
 have lc:W.Looks (model prog w) hp (classData C) cd:=W.looks_clsIn Y hcd
 rw [W.osa_eq,refuse_eq]
 refine wpAny_bind (wpAny_bind (J.type.at (wpAny_bind (lm.at ?_))))
 rw [hm3]
 refine wpAny_pure (wpAny_bind (J.type.at (wpAny_bind ((W.looks_findIn Y ha).at (wpAny_bind (l3.at ?_))))))
 show wpAny _ _ (storeInOwnDict (.ref x) (.ref C) (.str name tk) name v false) _ _ _
 obtain ⟨nm,bs,mro,ns,qn,hd,sn,sb,ab,col,del⟩:=cd
 dsimp only at hh; subst hh
 unfold storeInOwnDict ownDictForStores
 repeat (first | with_reducible refine store_in_new ?_ ?_ | with_reducible refine wpAny_loadPart_at gx ?_ | with_reducible refine lc.at ?_ | wp_step)
 ·exact ⟨_,#[],_,(Heap.get?_update_ne _ _ _ _ nx.symm).trans (Heap.get?_push_at rfl rfl),rfl,fun e he=>absurd he (by simp),fun _=>rfl⟩
 ·intro h' tk' n' hs
  have g1:(hp.push { cls:=.type "dict",data:=.dict #[] }).get? x=some { cls:=.ref C,data:=.fields fv }:=Heap.get?_push_of_some _ gx
  refine fin h' tk' hp.objs.size (fun b o hb ho=>?_) (Nat.le_refl _) nx.symm ?_ n'
  ·exact (hs.2 b (Nat.ne_of_lt (Heap.lt_size ho))).trans ((Heap.get?_update_ne _ _ _ _ hb).trans (Heap.get?_push_of_some _ ho))
  ·exact (hs.2 x nx).trans (Heap.get?_update_self _ g1 rfl)
end
section
variable {X:Cx} {pins:List (Addr × Obj)} {σ:L2.St} {H:Hp} {s:Shared} {a C fI dx:Addr} {f x cn:Str} {y:V} {u:Value} {fs:List (Str × V)} {E:Value→Shared→Prop} {A:Around} {B newId initId:String} {bm:List Value}
theorem Ue {Q:Unit→Shared→Prop} (Bs:xM x B newId initId bm) (T:Own X.K C fI f cn B newId initId bm) (I:Inv X pins σ H s) (e:H a=some (exo a C none)) (ry:RelV y u)
  (h:∀dx s',H dx=none→dx≠a→Inv X pins σ (upd (upd H dx (exd dx [(f,y)])) a (exo a C (some dx))) s'→Q () s'):wpAny (model X.prog X.w) A (setAttr (.ref a) f u) Q E s:=by
 obtain ⟨q,N,bs,sn,sub,ab,col,dd,k0,k1,k2,k3,k5,hC⟩:=T.cls
 have hcl:PySem.W.clsIn X.K C=some { name:=cn,bases:=bs,mro:=.ref C::bm,ns:=N,qualname:=q,hasDict:=true,slotNames:=sn,subclasses:=sub,abstract:=ab,collection:=col,hasDel:=false }:=by unfold PySem.W.clsIn; rw [hC]
 obtain ⟨t1,ho⟩:=exo_at I.hok e
 obtain ⟨hp,g,d,t,os⟩:=s
 refine PySem.W.set_plain I.kIn (ox:={ cls:=.ref C,dict:=none,data:=.fields #[.ref t1,.none,.none,.none,.bool false,.none] }) (od:=none) ⟨ho,rfl,rfl,trivial⟩ T.sa ?_
 refine Ud (cd:={ name:=cn,bases:=bs,mro:=.ref C::bm,ns:=N,qualname:=q,hasDict:=true,slotNames:=sn,subclasses:=sub,abstract:=ab,collection:=col,hasDel:=false }) rfl (by
  show (Value.ref C::bm).contains (.type "object")=true
  rw [List.contains_cons,Bs.S.hasOwner,Bool.or_true]) (fun self=>by rw [refuseLoop_ref]; exact Bs.S.passes self) I.kIn ho hcl rfl T.noF (fun h' tk' dx k dn dne hx hn=>?_)
 have hnd:H dx=none:=I.hok.fresh dn
 have nd:∀{b:Addr} {o:Obj},hp.get? b=some o→b≠dx:=fun {b o} q=>Nat.ne_of_lt (Nat.lt_of_lt_of_le (Heap.lt_size q) dn)
 have na:∀{b:Addr},H b=none→b≠a:=fun {b} n z=>by rw [z,e] at n; cases n
 have un:Un X.fs [] H (upd (upd H dx (exd dx [(f,y)])) a (exo a C (some dx))) hp h' :=
  ⟨fun b o q n _ _=>k b o (na n) q,fun b o q n _ _=>⟨o.slots,k b o (na n) q⟩,fun b o q n _=>by rw [upd_ne (na n),upd_ne (nd q)]; exact n,fun b o q _=>by
   by_cases hb:b=a
   ·exact ⟨_,by rw [hb]; exact hx⟩
   ·exact ⟨o,k b o hb q⟩,
   fun b xs q=>by rw [upd_ne (at_ne e q exo_tup),upd_ne (ne_of_none q hnd)]; exact q,fun b o v q=>by rw [upd_ne (at_ne e q exo_frz),upd_ne (ne_of_none q hnd)]; exact q,
   fun b ps q=>⟨#[],by rw [upd_ne (at_ne e q exo_tbl),upd_ne (ne_of_none q hnd),q]; simp⟩⟩
 refine h dx _ hnd dne (I.un (t':=tk') un fun b o q=>?_)
 by_cases hb:b=a
 ·subst hb; rw [upd_same] at q; cases q; exact exo_ok hx
 ·rw [upd_ne hb] at q
  by_cases hd:b=dx
  ·subst hd; rw [upd_same] at q; cases q; exact exd_ok hn (relO_put (fs:=[]) ry fun g=>True.intro)
  ·rw [upd_ne hd] at q
   exact (I.hok b o q).stay (fun c v hc z=>k c v (by
     rcases hc with hc | hc
     ·rw [hc]; exact hb
     ·exact at_ne e hc exo_own) z)
    (fun c hc=>by rw [upd_ne (at_ne e hc exo_own),upd_ne (ne_of_none hc hnd)]; exact hc) (fun c xs hc=>by rw [upd_ne (at_ne e hc exo_tup),upd_ne (ne_of_none hc hnd)]; exact hc)
theorem Ug {us:List Value} {Q:Value→Shared→Prop} (Bs:xM x B newId initId bm) (T:Own X.K C fI f cn B newId initId bm) (I:Inv X pins σ H s) (e:H a=some (exo a C none)) (hl:us.length≤sizeLine) (h:∀s',Inv X pins σ H s'→Q .none s') :
  wpAny (model X.prog X.w) A (call (.builtin initId) (.ref a::us)) Q E s:=by
 obtain ⟨q,N,bs,sn,sub,ab,col,dd,k0,k1,k2,k3,k5,hC⟩:=T.cls
 obtain ⟨t1,ho⟩:=exo_at I.hok e
 obtain ⟨hp,g,d,t,os⟩:=s
 refine wpAny_call (PySem.HandSPX.init_base Bs.F (fun Y=>rfl) (I.kIn _ _ hC) ho hl fun h' t2 k hx=>?_)
 have J:=I.write (t':=t) (x:=a) (e:=a) (o:=exo a C none) (by rw [e]; exact True.intro) (.inl rfl) k ⟨_,hx⟩ (exo_ok hx)
 have eu:upd H a (exo a C none)=H:=by
  funext b
  by_cases hb:b=a
  ·rw [hb,upd_same,e]
  ·rw [upd_ne hb]
 rw [eu] at J
 exact h _ J
def tBI (C:Addr) (ta:TA):TE:=fun σ H Q=>ta σ H fun vs H1=>∃(a:Addr) (ws:List V),vs=.ref a::ws∧ws.length≤1000∧H1 a=some (exo a C none)∧Q .non H1
def tOs (C:Addr) (f:Str) (to te:TE):TS:=fun D σ H=>te σ H fun y H1=>to σ H1 fun x H2=>∃a:Addr,x=.ref a∧H2 a=some (exo a C none)∧∀dx,H2 dx=none→dx≠a→D.nx σ (upd (upd H2 dx (exd dx [(f,y)])) a (exo a C (some dx)))
variable {o e:Expr} {es:List Expr} {to te:TE} {ta:TA} {p p' p1 p2 pos:Pos}
def OD (x:Str) (e:Expr) (es:List Expr) (p1 p2 pos:Pos):Prop:=∀env:Env,∃pl:Sem Bool,eval (.Call (.Attribute (.Name x p1) "__init__" p2) (e::es) [] pos) env=(do
  let ov ← eval (.Name x p1) env
  standAt p2.atName
  let (f,first) ← holding [ov] (getMethod ov "__init__" pl)
  callWith pos f first (backTo pos (starEach (e::es) env)) (backToKw pos (keywordEach [] env)))
theorem Gf (Bs:xM x B newId initId bm) (T:Own X.K C fI f cn B newId initId bm) (hg:Gl X x) (hm:X.mg x=none) (ha:PA X (e::es) ta) (ev:OD x e es p1 p2 pos)
  (he:starEach (e::es) X.env=(false,eval e X.env)::starEach es X.env) (hpl:(backTo pos (starEach es X.env)).any (·.1)=false) :
  PE X (.Call (.Attribute (.Name x p1) "__init__" p2) (e::es) [] pos) (tBI C ta):=by
 obtain ⟨pl,hc⟩:=ev X.env
 refine ⟨fun pins s σ H Q I h=>PySem.W.methodCall_KW (ld_blt I hg hm Bs.boot ?_ Bs.nn Bs.nd) hc⟩
 obtain ⟨m,fr⟩:=I.fr
 refine PySem.W.method_type fr I.ok.mod.kin Bs.ty Bs.stub T.ini Bs.hin ?_
 show wpAny _ _ (callWith pos (Value.builtin initId) [] (backTo pos (starEach (e::es) X.env)) []) _ _ _
 refine PyProof.Rows.callWith_method1 (thn (ha.run pos pins _ σ H _ (I.tok _) h) fun us s1 hh=>?_) he hpl
 obtain ⟨vs,H1,I1,r1,a,ws,ev,hl,ea,q⟩:=hh
 subst ev
 cases r1 with
 | @cons _ u0 _ ur ra rw' =>
  obtain rfl:u0=Value.ref a:=ra
  exact Ug Bs T I1 ea (by rw [← Paired.length rw',sizeLine_eq]; omega) fun s' J=>⟨.non,H1,J,rfl,q⟩
theorem acs (Bs:xM x B newId initId bm) (T:Own X.K C fI f cn B newId initId bm) (ho:PE X o to) (he:PE X e te) (hs:swapsWith e (some (.Attribute o f p')) pos.line X.env=pure false):PS X (.Assign [.Attribute o f p'] e pos) (tOs C f to te):=by
 refine ⟨fun pins s σ H D I h=>plainObj_wpAny_Assign_Attribute (thn (he.run pins s σ H _ I h) fun v s1 h1=>?_) hs⟩
 obtain ⟨y,H1,I1,r1,q1⟩:=h1
 refine thn (ho.run pins s1 σ H1 _ I1 q1) fun u s2 h2=>?_
 obtain ⟨x,H2,I2,r2,a,ex,ea,q⟩:=h2
 subst ex
 obtain rfl:u=Value.ref a:=r2
 exact Ue Bs T I2 ea r1 fun dx s' n ne J=>⟨σ,_,J,q dx n ne⟩
end
end DM
end
section
namespace DM
open PySem PySem.Spec PyProof.Rows L2
def mJ (C:Addr) (f:Str):Sp:=fun vs H Q _=>∃(a:Addr) (y:V),vs=[.ref a,y]∧H a=some (exo a C none)∧∀dx,H dx=none→dx≠a→Q .non (upd (upd H dx (exd dx [(f,y)])) a (exo a C (some dx)))
def aeO (x f:Str) (p1 p2 p3 p4 p5 p6 p7 p8 p9 p10:Pos):List Stmt :=
 [.Expr (.Call (.Attribute (.Name x p1) "__init__" p2) [.Name "self" p3,.Name f p4] [] p5) p6,.Assign [.Attribute (.Name "self" p7) f p8] (.Name f p9) p10]
structure lY (st:Stmt) (x f:Str):Prop where
 names:(defScope st).names=[(Str.ofString "self",NameKind.local),(f,NameKind.local),(x,NameKind.globalImplicit)]
 body:∃p1 p2 p3 p4 p5 p6 p7 p8 p9 p10:Pos,defBody st=aeO x f p1 p2 p3 p4 p5 p6 p7 p8 p9 p10∧OD x (.Name "self" p3) [.Name f p4] p1 p2 p5
 nf:(f == ("self":Str))=false
 nx:(x == ("self":Str))=false
 nxf:(x == f)=false
 nd:(f == ("__debug__":Str))=false
 nc:(f == ("__classdict__":Str))=false
section
variable {P:Program} {w:World} {K:PySem.W.Frag} {mg:Str→Option Value} {base:Heap} {C fI:Addr} {f x cn qual:Str} {B newId initId:String} {bm:List Value} {st:Stmt} {fd:FuncData}
theorem Cz (Bs:xM x B newId initId bm) (T:Own K C fI f cn B newId initId bm) (Fn:Fun K "__init__" qual st fI fd) (sc:FnScope ["self",f] ["self",f] (defScope st)) (I:lY st x f) (hm:mg x=none) :
  FnOk P w K mg base (L2.CX P w) 1 fI fd ["self",f] (mJ C f):=by
 refine Fn.okX sc (fun vs H Q E h=>?_) fun cdv A outer s H vs Q E hr h=>?_
 ·obtain ⟨a,y,rfl,_⟩:=h
  rfl
 ·obtain ⟨a,y,rfl,ea,q⟩:=h
  obtain ⟨p1,p2,p3,p4,p5,p6,p7,p8,p9,p10,hb,ev⟩:=I.body
  have lk0:(defScope st).names.lookup ("self":Str)=some NameKind.local:=by rw [I.names]; rfl
  have lk1:(defScope st).names.lookup f=some NameKind.local:=by
   rw [I.names]
   simp [List.lookup,I.nf]
  have lk2:(defScope st).names.lookup x=some NameKind.globalImplicit:=by
   rw [I.names]
   simp [List.lookup,I.nx,I.nxf]
  rw [hb]
  refine ⟨tSeq (tDrop (tBI C (tCons (tVar 0) (tCons (tVar 1) tNil)))) (tSeq (tOs C f (tVar 0) (tVar 1)) tNext),?_,?_⟩
  ·have v0:∀p:Pos,PE (cxOf (L2.CX P w) P w K mg base ["self",f] qual (defScope st) fI cdv A outer s H E) (.Name "self" p) (tVar 0):=fun p=>pe_var rfl (.inl lk0) (by decide) (by decide)
   have v1:∀p:Pos,PE (cxOf (L2.CX P w) P w K mg base ["self",f] qual (defScope st) fI cdv A outer s H E) (.Name f p) (tVar 1):=fun p=>pe_var rfl (.inl lk1) I.nd I.nc
   have e1:PE (cxOf (L2.CX P w) P w K mg base ["self",f] qual (defScope st) fI cdv A outer s H E) (.Call (.Attribute (.Name x p1) "__init__" p2) [.Name "self" p3,.Name f p4] [] p5) (tBI C (tCons (tVar 0) (tCons (tVar 1) tNil))) :=
    Gf Bs T lk2 hm (pa_cons (v0 p3) (pa_cons (v1 p4) pa_nil)) ev rfl rfl
   exact pss_cons (ps_expr e1 rfl) (pss_cons (acs Bs T (v0 p7) (v1 p9) rfl) pss_nil)
  ·exact ⟨_,rfl,_,rfl,a,[y],rfl,by simp,ea,_,rfl,_,rfl,a,rfl,ea,q⟩
end
end DM
end
section
namespace DM
open PySem PySem.Spec PyProof.Rows L2
def Yv (C:Addr) (f:Str) (ta:TA):L2.St→Hp→XK→Prop:=fun σ H Q=>ta σ H fun vs H1=>∃v,vs=[v]∧∀d,H1 d=none→Q (.ref C) (some d) (upd H1 d (.xd [(f,v)]))
section
variable {X:Cx} {C fI:Addr} {f x y cn:Str} {B newId initId:String} {bm:List Value} {e:Expr} {ta:TA} {p pos:Pos} {k:Nat} {fd:FuncData}
theorem Yw (Bs:xM x B newId initId bm) (T:Own X.K C fI f cn B newId initId bm) (F1:FnOk X.prog X.w X.K X.mg X.base (L2.CX X.prog X.w) k fI fd ["self",f] (mJ C f)) (hr:Room (k+1) X.A) (hb:Binds X.K fd ["self",f] []) (hg:Gl X y) (hm:X.mg y=some (.ref C)) (ha:PA X [e] ta)
  (hdb:(y == ("__debug__":Str))=false) (he:starEach (e::[]) X.env=(false,eval e X.env)::starEach [] X.env:=by rfl) (hpl:(backTo pos (starEach [] X.env)).any (·.1)=false:=by rfl) :
  PMk X (.Call (.Name y p) [e] [] pos) (Yv C f ta):=by
 intro pins s σ H Q I h
 obtain ⟨q,N,bs,sn,sub,ab,col,dd,k0,k1,k2,k3,k5,hC⟩:=T.cls
 refine wpAny_Call_Name_kw (ld_glob I hg hm ?_ hdb)
 refine PySem.W.callWith_K (h₀:=X.base) I.ok.mod.kin T.kC (thn (ha.run pos pins s σ H _ I h) fun us s1 hh=>?_) he hpl
 obtain ⟨vs,H1,I1,r1,v,ev,q1⟩:=hh
 subst ev
 refine ⟨I1.kIn,?_⟩
 cases r1 with
 | @cons _ u _ ur ra rr =>
 cases rr
 show wpAny _ _ (call (.ref C) [u]) _ _ _
 obtain ⟨hp,g,dr,tk,os⟩:=s1
 have hsz:hp.objs.size≤hp.objs.size+1:=Nat.le_succ _
 have hn:H1 (hp.objs.size+1)=none:=I1.hok.fresh hsz
 have kk:∀b o,hp.get? b=some o→((hp.push (PySem.W.kdv_tup [u])).push (PySem.HandSPX.excO C hp.objs.size)).get? b=some o:=fun b o z=>Heap.get?_push_of_some _ (Heap.get?_push_of_some _ z)
 have hget:((hp.push (PySem.W.kdv_tup [u])).push (PySem.HandSPX.excO C hp.objs.size)).get? (hp.objs.size+1)=some (PySem.HandSPX.excO C hp.objs.size):=by heap_get
 have I2:Inv X pins σ (upd H1 (hp.objs.size+1) (exo (hp.objs.size+1) C none)) ⟨(hp.push (PySem.W.kdv_tup [u])).push (PySem.HandSPX.excO C hp.objs.size),g,dr,tk,os⟩ :=
  I1.laid (t':=tk) (a:=hp.objs.size+1) (o:=exo (hp.objs.size+1) C none) (h':=(hp.push (PySem.W.kdv_tup [u])).push (PySem.HandSPX.excO C hp.objs.size)) kk hsz (exo_ok hget)
 have r2:Vals [V.ref (hp.objs.size+1),v] [Value.ref (hp.objs.size+1),u]:=.cons rfl (.cons ra .nil)
 let a:=hp.objs.size+1
 have hq:mJ C f [V.ref a,v] (upd H1 a (exo a C none)) (fun v' H2=>v'=.non∧∃d,H1 d=none∧d≠a∧H2=upd (upd (upd H1 a (exo a C none)) d (exd d [(f,v)])) a (exo a C (some d))) (fun _ _ _=>False) :=
  ⟨a,v,rfl,upd_same,fun dx n ne=>⟨rfl,dx,by rw [upd_ne ne] at n; exact n,ne,rfl⟩⟩
 refine wpAny_call (PySem.HandSPX.call_own Bs.F (fun Y=>rfl) (I1.kIn _ _ hC) (PySem.W.looks_findIn I1.kIn T.iC) (fun self=>PySem.W.bind_fn I1.kIn self T.tI) (by rw [sizeLine_eq]; simp)
  (codeAny_mono (F1.run _ X.stack _ _ ⟨[Value.ref (hp.objs.size+1),u],[]⟩ [Value.ref (hp.objs.size+1),u] _ _ (fun _ _ _=>False) (hr.make C [u] []) (I2.env0.make C [u] []) (hb _ [Value.ref (hp.objs.size+1),u] I2.kIn rfl) r2 hq) fun r s' hq'=>?_))
 cases r with
 | error er=>exact passL pins σ _ _ er s' I2 hq'
 | ok fl =>
  cases fl with
  | ret u' =>
   obtain ⟨v',H2,os2,bare2,un2,hok2,rv,ev,d,hd1,hda,eH⟩:=hq'
   subst ev
   obtain ⟨h2,g2,d2,t2,os'⟩:=s'
   have ea:H2 a=some (exo a C (some d)):=by rw [eH,upd_same]
   have ed:H2 d=some (exd d [(f,v)]):=by rw [eH,upd_ne hda,upd_same]
   have eU:upd (del H2 a) d (.xd [(f,v)])=upd H1 d (.xd [(f,v)]):=by
    funext b
    by_cases hb:b=d
    ·rw [hb,upd_same,upd_same]
    ·rw [upd_ne hb,upd_ne hb]
     by_cases hba:b=a
     ·rw [hba,del_same]; exact hn.symm
     ·rw [del_ne hba,eH,upd_ne hba,upd_ne hb,upd_ne hba]
   have q2:=q1 d hd1
   rw [← eU] at q2
   exact ⟨rv,mk_end (raises_own T.exC T.tyC) I1 hsz kk un2 hok2 os2 bare2 ea ed hd1 q2⟩
  | next=>exact False.elim hq'
  | brk=>exact False.elim hq'
  | cont=>exact False.elim hq'
end
def j6 (K:PySem.W.Frag):cG:=fun x cls d F _=>cls=.ref (fH K x.aJ)∧Xg K F x d
def sJ (aJ:Nat) (f:ak→R Val) (ρ:ak):R Fl:=(bL f ρ).bind fun a ρ1=>match a with
 | .en (.fr d)=>.exc ⟨aJ,some d⟩ ρ1
 | _=>.bad
def tRaise (C:Addr) (f:Str) (W:WX) (ta:TA):TS:=fun _ σ H=>Yv C f ta σ H fun cls d H'=>W cls d σ H'
theorem zR {C:Cs} {W:WX} {te:TE} {f:ak→R Val} {aJ:Nat} (h:Impl C (ZW (j6 C.K) W) te f):cU C (ZW (j6 C.K) W) (tRaise (fH C.K aJ) (aV aJ) W (tCons te tNil)) (sJ aJ f):=by
 intro o F H σ ρ D S q
 unfold sJ at q
 rw [aA] at q
 refine BP h o F H σ ρ [] _ S (au q (fun a ρ1 h1 F1 H1 v S1=>?_) fun x ρ' h F' H' s=>h F' H' σ s)
 cases a with
 | bor i=>exact h1.elim
 | en e =>
  cases e with
  | fr d =>
   refine ⟨v,rfl,fun dd hdd=>?_⟩
   have rv:Dq C.K F1 d v:=S1.look (j:=0) (v:=v) (e:=.fr d) rfl rfl
   have g:=Grow.obj S1.sub (o:=.xd [(aV aJ,v)]) hdd
   exact h1 (upd F1 dd (.xd [(aV aJ,v)])) (upd H1 dd (.xd [(aV aJ,v)])) σ (S1.drop.grow g) _ _ ⟨rfl,v,d,upd_same,rfl,Dq.mono g.f _ _ rv⟩
  | ol _=>exact h1.elim
  | od _ _=>exact h1.elim
  | on _ _=>exact h1.elim
  | cJ _=>exact h1.elim
  | ex _=>exact h1.elim
  | jW _=>exact h1.elim
  | ob _=>exact h1.elim
  | exs _=>exact h1.elim
structure Cls (M:Wd) (aJ:Nat) (B:String):Prop where
 ex:∃(C fI:Addr) (x:Str) (newId initId qual:String) (bm:List Value) (st:Stmt) (fd:FuncData),M.mg (fL aJ)=some (.ref C)∧C=fH M.K aJ∧xM x B newId initId bm∧Own M.K C fI (aV aJ) (fL aJ) B newId initId bm∧Fun M.K "__init__" (Str.ofString qual) st fI fd ∧
  FnScope ["self",aV aJ] ["self",aV aJ] (defScope st)∧lY st x (aV aJ)∧M.mg x=none∧Binds M.K fd ["self",aV aJ] []
section
variable {M:Wd} {X:Cx} {C:Cs} {W:WX} {k:Nat} {N:List Str} {nm:List (Str × NameKind)} {fb:Str→Bool} {e:Expr} {f:ak→R Val} {pos p pos':Pos} {y:Str} {aJ:Nat} {B:String}
theorem JS.raise (G:Ctx M X C W (k+2) N nm fb) (hc:Cls M aJ B) (hy:y=fL aJ) (hg:qL nm y=true) (h:JE (j6 C.K) X C W e f)
  (he:starEach (e::[]) X.env=(false,eval e X.env)::starEach [] X.env:=by rfl) (hpl:(backTo pos (starEach [] X.env)).any (·.1)=false:=by rfl):JS (j6 C.K) X C W (.Raise (some (.Call (.Name y p) [e] [] pos)) none pos') (sJ aJ f):=by
 subst hy
 obtain ⟨Cc,fI,x,newId,initId,qual,bm,st,fd,gm,eC,Bs,T,Fn,sc,It,mx,bd⟩:=hc.ex
 obtain ⟨g1,g2,_⟩:=cI G hg
 obtain ⟨t,t1,t2⟩:=h
 have hK:M.K=C.K:=by rw [← G.lX,G.hK]
 subst eC
 have F1:FnOk M.P M.w M.K M.mg M.base (L2.CX M.P M.w) 1 fI fd ["self",aV aJ] (mJ (fH M.K aJ) (aV aJ)):=Cz Bs T Fn sc It mx
 have P1:PMk X (.Call (.Name (fL aJ) p) [e] [] pos) (Yv (fH M.K aJ) (aV aJ) (tCons t tNil)) :=
  Yw Bs (by rw [G.lX]; exact T) (by rw [G.hP,G.hw,G.lX,G.hmg,G.hbase]; exact F1) (G.room.mono (by omega)) (by rw [G.lX]; exact bd) g1 (by rw [G.hmg]; exact gm) (pa_cons t1 pa_nil he) g2 he hpl
 have P2:=ps_raise (pos:=pos') G.calm G.tk P1
 rw [hK] at P2
 exact ⟨_,P2,zR t2⟩
end
end DM
end
section
namespace DM
open PySem PySem.Spec PySem.Calls PyProof.Rows PySem.W
section
variable {M:Model} {A:Around} {E:Value→Shared→Prop} {s:Shared} {K:Frag}
end
end DM
end
section
namespace DM
open PySem PySem.Spec PyProof.Rows L2
theorem OJ {P:Program} {w:World} {H:Hp} {h:Heap} {a C:Addr} {d:Option Addr} {oe:Obj} {vs:Array Value} (he:h.get? a=some oe) (hz:Zc (.ref C) d oe) (hd:oe.data=.fields vs):ObjOk P w H h a (qP a C d) :=
 ⟨⟨oe,he,hz.1,hz.2,vs,hd⟩,⟨_,he⟩,fun h1 h2 z k=>by
  obtain ⟨o,z1,z2⟩:=z
  exact ⟨o,k _ z1,z2⟩⟩
theorem O2 {P:Program} {w:World} {H:Hp} {h:Heap} {a C:Addr} {d:Option Addr} (hok:HOk P w H h) (e:H a=some (qP a C d)):∃(oe:Obj) (vs:Array Value),h.get? a=some oe∧Zc (.ref C) d oe∧oe.data=.fields vs:=by
 have x:ObjOk P w H h a (.ext fun h=>∃oe:Obj,h.get? a=some oe∧oe.cls=.ref C∧oe.dict=d∧∃vs,oe.data=.fields vs):=hok a _ e
 obtain ⟨oe,h1,h2,h3,vs,h4⟩:=x.1
 exact ⟨oe,vs,h1,⟨h2,h3⟩,h4⟩
structure Yx (X:Cx):Prop where
 hs:X.stack=X.env::X.outer
 hf:X.env.frame=some X.env.locals
 hex:X.ex=[]
section
variable {X:Cx} {C:Cs} {W:WX} {t:Expr} {n c:Str} {i j:Nat} {body:List Stmt} {pa pc pn2 pos pos':Pos} {f:ak→R Fl} {akH:List Nat}
end
end DM
end
section
namespace DM
open PySem PySem.Spec PyProof.Rows L2
theorem spG (K:PySem.W.Frag):PySem.W.specialIn K (.builtin "object.__class__") "__get__"=some (some (.builtin "getset_descriptor.__get__")):=by kernel_rfl
theorem tkG (K:PySem.W.Frag):PySem.W.takesIn K (.builtin "object.__class__")=some true:=by kernel_rfl
section
variable {K:PySem.W.Frag} {C fI:Addr} {f cn x:Str} {B newId initId:String} {bm:List Value}
theorem Own.cd (T:Own K C fI f cn B newId initId bm):∃cd:ClassData,PySem.W.clsIn K C=some cd∧cd.mro=.ref C::bm∧cd.name=cn:=by
 obtain ⟨q,N,bs,sn,sub,ab,col,dd,k0,k1,k2,k3,k5,hC⟩:=T.cls
 unfold PySem.W.clsIn
 rw [hC]
 exact ⟨_,rfl,rfl,rfl⟩
theorem Own.sub (T:Own K C fI f cn B newId initId bm) (v:Value):PySem.W.subIn K (.ref C) v=some ((Value.ref C::bm).contains v):=by
 obtain ⟨cd,h1,h2,_⟩:=T.cd
 show PySem.W.mroIn K C v=_
 unfold PySem.W.mroIn
 rw [h1,Option.bind_some,h2]
 rfl
theorem Own.some (T:Own K C fI f cn B newId initId bm):(PySem.W.clsIn K C).isSome=true:=by
 obtain ⟨cd,h1,_⟩:=T.cd
 rw [h1]; rfl
theorem Own.kit (T:Own K C fI f cn B newId initId bm) {t:Value} {b:Bool} (h:PySem.W.subIn K t (.ref C)=.some b):PySem.W.kitCls K t (.ref C)=.some b:=by
 have e2:((PySem.W.clsIn K C).isSome&&PySem.W.typeIn K (.ref C) == .some (.type "type"))=true:=by rw [T.some,T.tyC]; rfl
 show (if ((PySem.W.clsIn K C).isSome&&PySem.W.typeIn K (.ref C) == .some (.type "type"))=true then PySem.W.subIn K t (.ref C) else none)=.some b
 rw [if_pos e2,h]
theorem Own.ne {C' fI':Addr} {f' cn':Str} {B' newId' Gg:String} {bm':List Value} (T:Own K C fI f cn B newId initId bm) (T':Own K C' fI' f' cn' B' newId' Gg bm') (h:cn≠cn'):C≠C':=fun z=>by
 obtain ⟨cd,h1,_,h2⟩:=T.cd
 obtain ⟨cd',h1',_,h2'⟩:=T'.cd
 rw [z,h1'] at h1
 cases h1
 exact h (h2.symm.trans h2')
end
def uY (c:Nat):List String:=match (Kw.getD c ("", "", "")).2.2 with
 | "LookupError"=>["LookupError", "Exception", "BaseException", "object"]
 | "ValueError"=>["ValueError", "Exception", "BaseException", "object"]
 | "RuntimeError"=>["RuntimeError", "Exception", "BaseException", "object"]
 | "OverflowError"=>["OverflowError", "ArithmeticError", "Exception", "BaseException", "object"]
 | _=>[]
structure cY (M:Wd) (aJ:Nat):Prop where
 ex:∃(C fI:Addr) (B newId initId:String) (bm:List Value),M.mg (fL aJ)=some (.ref C)∧C=fH M.K aJ∧Own M.K C fI (aV aJ) (fL aJ) B newId initId bm∧bm=(uY aJ).map Value.type∧bm.contains (.type "object")=true
theorem cY.mg {M:Wd} {aJ:Nat} (h:cY M aJ):M.mg (fL aJ)=some (.ref (fH M.K aJ)):=by
 obtain ⟨C,fI,B,newId,initId,bm,h1,h2,_⟩:=h.ex
 rw [h1,h2]
theorem cY.ty {M:Wd} {aJ:Nat} (h:cY M aJ) (T:String):PySem.W.subIn M.K (.ref (fH M.K aJ)) (.type T)=some ((uY aJ).contains T):=by
 obtain ⟨C,fI,B,newId,initId,bm,h1,h2,h4,h10,_⟩:=h.ex
 subst h2
 rw [h4.sub,h10]
 congr 1
 rw [List.contains_cons]
 have e1:(Value.type T == Value.ref (fH M.K aJ))=false:=by simp
 rw [e1,Bool.false_or]
 generalize uY aJ=l
 induction l with
 | nil=>rfl
 | cons a l ih =>
  rw [List.map_cons,List.contains_cons,List.contains_cons,ih]
  congr 1
  by_cases z:T=a
  ·subst z; simp
  ·have:(T == a)=false:=beq_eq_false_iff_ne.mpr z
   rw [this]
   exact beq_eq_false_iff_ne.mpr fun y=>z (Value.type.inj y)
theorem cY.sub {M:Wd} {c c':Nat} (h:cY M c) (h':cY M c') (hn:c≠c'→fL c≠fL c'):PySem.W.subIn M.K (.ref (fH M.K c)) (.ref (fH M.K c'))=some (c == c'):=by
 obtain ⟨C,fI,B,newId,initId,bm,h1,h2,h4,h10,_⟩:=h.ex
 obtain ⟨C',fI',B',newId',Gg,bm',h1',h2',h4',_⟩:=h'.ex
 subst h2 h2'
 rw [h4.sub,h10]
 congr 1
 rw [List.contains_cons]
 have e2:((uY c).map Value.type).contains (.ref (fH M.K c'))=false:=by
  rw [List.contains_eq_any_beq,List.any_eq_false]
  intro y hy
  obtain ⟨T,_,rfl⟩:=List.mem_map.mp hy
  simp
 rw [e2,Bool.or_false]
 by_cases z:c=c'
 ·subst z; simp
 ·have:(c == c')=false:=beq_eq_false_iff_ne.mpr z
  rw [this]
  exact beq_eq_false_iff_ne.mpr fun y=>(h4.ne h4' (hn z)) (Value.ref.inj y).symm
/-! ### isinstance -/
inductive jX where
 | own (c:Nat) | blt (T:String)
def jX.val (K:PySem.W.Frag):jX→Value
 | .own c=>.ref (fH K c)
 | .blt T=>.type T
def jX.vv (K:PySem.W.Frag):jX→V
 | .own c=>.ref (fH K c)
 | .blt T=>.ty T
theorem jX.cv (K:PySem.W.Frag):∀t:jX,ClsV (t.vv K) (t.val K)
 | .own c=>.own _
 | .blt T=>.ty _
theorem jX.cvs (K:PySem.W.Frag):∀ts:List jX,Paired ClsV (ts.map (jX.vv K)) (ts.map (jX.val K))
 | []=>.nil
 | t::ts=>.cons (t.cv K) (jX.cvs K ts)
def zU (known:List Nat):jX→Bool
 | .own c=>known.contains c
 | .blt T=>PySem.W.kitMeta T&&PySem.W.kitMeta "NoneType"&&((fastBuiltinMro "NoneType").any fun l=>!l.contains (.type T))
def CG (x:Nat):jX→Bool
 | .own c=>x == c
 | .blt T=>(uY x).contains T
def O4 (H:Hp):Option Addr→Prop
 | some dd=>∃fs,H dd=some (.xd fs)
 | none=>True
def acu (K:PySem.W.Frag) (known:List Nat):List V→Hp→VK→Prop:=fun xs H Q=>∃(a:Addr) (od:Option Addr) (c:V) (cv:Value) (b:Bool) (x:Nat),xs=[.ref a,c]∧ClsV c cv∧H a=some (qP a (fH K x) od)∧O4 H od∧x∈known∧PySem.W.kitOne K (.ref (fH K x)) cv=some b∧Q (.bl b) H
def WM (K:PySem.W.Frag) (known:List Nat):List V→Hp→VK→Prop:=fun xs H Q=>∃(a p:Addr) (od:Option Addr) (cs:List V) (us:List Value) (b:Bool) (x:Nat),xs=[.ref a,.ref p]∧H p=some (.tup cs)∧Paired ClsV cs us∧H a=some (qP a (fH K x) od)∧O4 H od∧x∈known∧PySem.W.kitAny K (.ref (fH K x)) us=some b∧Q (.bl b) H
section
variable {M:Wd} {X:Cx} {known:List Nat}
theorem zV {pins:List (Addr × Obj)} {σ:L2.St} {H:Hp} {s:Shared} {a dd C:Addr} {fs:List (Str × V)} (I:Inv X pins σ H s) (h1:H a=some (qP a C (some dd))) (h2:H dd=some (.xd fs)) :
  ∃oe od mA,PySem.W.InstAt s.heap a oe C (some od)∧s.heap.Ns1 dd mA∧(∀f,RelO (fs.lookup f) (mA f))∧∀n,PySem.W.lookIn n od=some (mA n):=by
 obtain ⟨oe,vs,hg,hz,hd⟩:=O2 I.hok h1
 have hx:ObjOk X.prog X.w H s.heap dd (.xd fs):=I.hok dd _ h2
 obtain ⟨mA,hns,hr⟩:=hx
 obtain ⟨od,ho,hl⟩:=lookIn_ns hns
 exact ⟨oe,od,mA,⟨hg,hz.1,by unfold PySem.W.notCls; rw [hd],by rw [hz.2]; exact ho⟩,hns,hr,hl⟩
theorem uZ {pins:List (Addr × Obj)} {σ:L2.St} {H:Hp} {s:Shared} {a C:Addr} {od:Option Addr} (I:Inv X pins σ H s) (h1:H a=some (qP a C od)) (h2:O4 H od):∃oe ob,PySem.W.InstAt s.heap a oe C ob:=by
 cases od with
 | some dd =>
  obtain ⟨fs,h2⟩:=h2
  obtain ⟨oe,ob,_,J,_⟩:=zV I h1 h2
  exact ⟨oe,some ob,J⟩
 | none =>
  obtain ⟨oe,vs,hg,hz,hd⟩:=O2 I.hok h1
  exact ⟨oe,none,hg,hz.1,by unfold PySem.W.notCls; rw [hd],by rw [hz.2]; trivial⟩
theorem Gh (hk:∀c∈known,cY M c) (hM:X.K=M.K) {x:Nat} (hx:x∈known) {a:Addr} {oe:Obj} {od:Option Obj}:PySem.W.KitX X.K (.ref a) (.ref (fH X.K x)) (fun h=>PySem.W.InstAt h a oe (fH X.K x) od):=by
 obtain ⟨C,fI,B,newId,initId,bm,h1,h2,h4,h10,h11⟩:=(hk x hx).ex
 subst h2
 rw [hM]
 have hm:PySem.W.mroIn M.K (fH M.K x) (.type "object")=some true:=by
  have:=h4.sub (.type "object")
  rw [List.contains_cons,h11,Bool.or_true] at this
  exact this
 exact PySem.W.kitx_exc h4.some h4.ga h4.gg h4.exC h4.cC (spG _) (tkG _) hm
theorem O5 (hk:∀c∈known,cY M c) (hM:X.K=M.K):CallR X (.builtin "isinstance") (acu X.K known):=by
 intro pins s σ H xs us Q I r h
 obtain ⟨a,od',c,cv,b,x,rfl,k,h1,h2,hx,e,q⟩:=h
 obtain ⟨u1,u2,rfl,r1,r2⟩:=vals2 r
 have e2:=k.eq r2
 subst e2
 cases (show u1=Value.ref a from r1)
 obtain ⟨oe,od,J⟩:=uZ I h1 h2
 exact PySem.W.kia_one (Gh hk hM hx) I.kIn J e (fun z=>nomatch z) fun tk=>⟨.bl b,H,I.tok tk,rfl,q⟩
theorem Jb (hk:∀c∈known,cY M c) (hM:X.K=M.K):CallR X (.builtin "isinstance") (WM X.K known):=by
 intro pins s σ H xs us Q I r h
 obtain ⟨a,p,od',cs,ws,b,x,rfl,hT,k,h1,h2,hx,e,q⟩:=h
 obtain ⟨u1,u2,rfl,r1,r2⟩:=vals2 r
 cases (show u2=Value.ref p from r2)
 cases (show u1=Value.ref a from r1)
 obtain ⟨oe,od,J⟩:=uZ I h1 h2
 obtain ⟨_,its,rv,o,g1,g2,n,g3⟩:=(show ObjOk X.prog X.w H s.heap p (.tup cs) from I.hok p _ hT)
 have e3:=ClsV.all k rv
 subst e3
 obtain ⟨oc,ode,dt,sl⟩:=o
 simp only at g2 g3
 subst g2 g3
 exact PySem.W.kia_tup (Gh hk hM hx) I.kIn J g1 e (fun z=>nomatch z) fun tk=>⟨.bl b,H,I.tok tk,rfl,q⟩
theorem WQ (hk:∀c∈known,cY M c) (hn:∀c∈known,∀c'∈known,c≠c'→fL c≠fL c') {x:Nat} (hx:x∈known):∀t:jX,zU known t=true→PySem.W.kitOne M.K (.ref (fH M.K x)) (t.val M.K)=some (CG x t)
 | .own c,h=>by
  have hc:c∈known:=List.contains_iff_mem.mp h
  have e:=(hk x hx).sub (hk c hc) (hn x hx c hc)
  obtain ⟨C,fI,B,newId,initId,bm,h1,h2,h4,_⟩:=(hk c hc).ex
  subst h2
  have e2:=h4.kit e
  show PySem.W.kitOne M.K (.ref (fH M.K x)) (.ref (fH M.K c))=some (x == c)
  unfold PySem.W.kitOne
  by_cases z:((Value.ref (fH M.K x)) == Value.ref (fH M.K c))=true
  ·rw [if_pos z]
   have e3:=(hk x hx).sub (hk x hx) (fun y=>absurd rfl y)
   rw [← beq_iff_eq.mp z,e3] at e
   rw [← Option.some.inj e]
   simp
  ·rw [if_neg z]
   exact e2
 | .blt T,h=>by
  have h1:PySem.W.kitMeta T=true:=by
   unfold zU at h
   simp only [Bool.and_eq_true] at h
   exact h.1.1
  have e:=(hk x hx).ty T
  show PySem.W.kitOne M.K (.ref (fH M.K x)) (.type T)=some ((uY x).contains T)
  unfold PySem.W.kitOne
  rw [if_neg (by simp)]
  show (if PySem.W.kitMeta T=true then PySem.W.subIn M.K (.ref (fH M.K x)) (.type T) else none)=_
  rw [if_pos h1]
  exact e
theorem O6 (hk:∀c∈known,cY M c):∀t:jX,zU known t=true→PySem.W.kitOne M.K (.type "NoneType") (t.val M.K)=some false
 | .own c,h=>by
  have hc:c∈known:=List.contains_iff_mem.mp h
  obtain ⟨C,fI,B,newId,initId,bm,h1,h2,h4,_⟩:=(hk c hc).ex
  subst h2
  show PySem.W.kitOne M.K (.type "NoneType") (.ref (fH M.K c))=some false
  unfold PySem.W.kitOne
  rw [if_neg (by simp)]
  exact h4.kit (by kernel_rfl)
 | .blt T,h=>by
  unfold zU at h
  simp only [Bool.and_eq_true] at h
  obtain ⟨⟨h1,h2⟩,h3⟩:=h
  show PySem.W.kitOne M.K (.type "NoneType") (.type T)=some false
  unfold PySem.W.kitOne
  cases hm:fastBuiltinMro "NoneType" with
  | none=>rw [hm] at h3; cases h3
  | some l =>
   rw [hm] at h3
   have h3:(!l.contains (.type T))=true:=h3
   rw [Bool.not_eq_true'] at h3
   have hself:l.contains (.type "NoneType")=true:=by
    have:(fastBuiltinMro "NoneType").map (·.contains (Value.type "NoneType"))=some true:=by decide +kernel
    rw [hm] at this
    exact Option.some.inj this
   have hne:¬(Value.type "NoneType" == Value.type T)=true:=fun z=>by
    rw [← beq_iff_eq.mp z,hself] at h3; cases h3
   rw [if_neg hne]
   show (if PySem.W.kitMeta T=true then (fastBuiltinMro "NoneType").map (·.contains (Value.type T)) else none)=_
   rw [if_pos h1,hm,Option.map_some,h3]
def isE (known:List Nat) (t:jX):Option En→Option Bool
 | some (.ex x)=>if known.contains x.aJ=true then some (CG x.aJ t) else none
 | ⇑.non=>some false
 | _=>none
def cH (known:List Nat) (t:jX) (f:ak→R Val) (ρ:ak):R Val:=(f ρ).bind fun a ρ1=>o9 ((isE known t (look ρ1 a)).map fun b=>.en (.fr (.bl b))) ρ1
def aeS (known:List Nat) (ts:List jX):Option En→Option Bool
 | some (.ex x)=>if known.contains x.aJ=true then some (ts.any (CG x.aJ)) else none
 | ⇑.non=>some false
 | _=>none
def qT (known:List Nat) (ts:List jX) (f:ak→R Val) (ρ:ak):R Val:=(f ρ).bind fun a ρ1=>o9 ((aeS known ts (look ρ1 a)).map fun b=>.en (.fr (.bl b))) ρ1
theorem pO {K:PySem.W.Frag} {v:Value} {g:jX→Bool}:∀{ts:List jX},(∀t∈ts,PySem.W.kitOne K v (t.val K)=some (g t))→PySem.W.kitAny K v (ts.map (jX.val K))=some (ts.any g)
 | [],_=>rfl
 | t::ts,h=>by
  have i:=pO fun t ht=>h t (List.mem_cons_of_mem _ ht)
  refine kitAny_cons (h t List.mem_cons_self) (fun hb=>?_) fun hb=>?_
  ·rw [i,List.any_cons,hb,Bool.false_or]
  ·rw [List.any_cons,hb,Bool.true_or]
theorem Xg.xd {K:PySem.W.Frag} {F H:Hp} {x:Ex} {od:Option Addr} (e:Ext F H) (h:Xg K F x od):O4 H od:=by
 cases od with
 | none=>trivial
 | some dd=>obtain ⟨u,d,h,_⟩:=h; exact ⟨_,e _ _ h⟩
theorem Gi {C:Cs} {o:Og} {F H:Hp} {σ:L2.St} {ρ:ak} {T:Tm} {a:Val} {v:V} {x:Ex} (S:SM C o F H σ ρ ((a,v)::T)) (l:look ρ a=some (.ex x)):∃ad od,v=.ref ad∧H ad=some (qP ad (fH C.K x.aJ) od)∧O4 H od:=by
 have r:Rp C.K F H (.ex x) v:=S.look (j:=0) rfl l
 obtain ⟨ad,od,h1,h2,h3⟩:=r
 exact ⟨ad,od,h1,S.sub _ _ h2,h3.xd S.sub⟩
theorem O7 {C:Cs} {Z:ZX} {te:TE} {f:ak→R Val} {t:jX} (hC:M.K=C.K) (hk:∀c∈known,cY M c) (hn:∀c∈known,∀c'∈known,c≠c'→fL c≠fL c') (ht:zU known t=true) (h:Impl C Z te f) :
  Impl C Z (tCB (fun xs H Q=>rIsi C.K xs H Q∨acu C.K known xs H Q) (tCons te (tCons (tC (t.vv C.K)) tNil))) (cH known t f):=by
 intro o F H σ ρ TT Q S q
 unfold cH at q
 rw [aA] at q
 refine h o F H σ ρ TT _ S (au q (fun a ρ1 h1 F1 H1 x S1=>?_) fun _ _ h=>h)
 obtain ⟨val,hv,q⟩:=cD h1
 cases hl:look ρ1 a with
 | none=>rw [hl] at hv; cases hv
 | some e =>
  rw [hl] at hv
  have hcv:=t.cv C.K
  cases e with
  | fr d =>
   cases d with
   | non =>
    cases hv
    have rx:Dq C.K F1 .non x:=S1.look (j:=0) rfl hl
    have rx:x=.non:=by simpa only [Dq] using rx
    subst rx
    have e:=O6 hk t ht
    rw [hC] at e
    exact .inl ⟨.non,t.vv C.K,.type "NoneType",t.val C.K,false,rfl,hcv,.base .non,e,q _ _ _ (S1.drop.bf (fZ false))⟩
   | _=>cases hv
  | ex y =>
   obtain ⟨ad,od,rfl,g1,g2⟩:=Gi S1 hl
   by_cases hy:known.contains y.aJ=true
   ·have hv:(((if known.contains y.aJ=true then some (CG y.aJ t) else none):Option Bool).map fun b=>Val.en (.fr (.bl b)))=some val:=hv
    rw [if_pos hy] at hv
    cases hv
    have hm:=List.contains_iff_mem.mp hy
    have e:=WQ hk hn hm t ht
    rw [hC] at e
    exact .inr ⟨ad,od,t.vv C.K,t.val C.K,_,y.aJ,rfl,hcv,g1,g2,hm,e,q _ _ _ (S1.drop.bf (fZ _))⟩
   ·have hv:(((if known.contains y.aJ=true then some (CG y.aJ t) else none):Option Bool).map fun b=>Val.en (.fr (.bl b)))=some val:=hv
    rw [if_neg hy] at hv
    cases hv
  | ol _=>cases hv
  | od _ _=>cases hv
  | on _ _=>cases hv
  | cJ _=>cases hv
  | jW _=>cases hv
  | ob _=>cases hv
  | exs _=>cases hv
def Uh (K:PySem.W.Frag):List jX→TA
 | []=>tNil
 | t::ts=>tCons (tC (t.vv K)) (Uh K ts)
theorem Gj {K:PySem.W.Frag}:∀{ts:List jX} {σ:L2.St} {H:Hp} {Q:List V→Hp→Prop},Q (ts.map (jX.vv K)) H→Uh K ts σ H Q
 | [],_,_,_,h=>h
 | t::ts,σ,H,Q,h=>Gj (ts:=ts) (Q:=fun xs H2=>Q (t.vv K::xs) H2) h
theorem Jc {C:Cs} {Z:ZX} {te:TE} {f:ak→R Val} {ts:List jX} (hC:M.K=C.K) (hk:∀c∈known,cY M c) (hn:∀c∈known,∀c'∈known,c≠c'→fL c≠fL c') (ht:ts.all (zU known)=true) (hz:ts.length≤sizeLine) (h:Impl C Z te f) :
  Impl C Z (tCB (fun xs H Q=>rIsiT C.K xs H Q∨WM C.K known xs H Q) (tCons te (tCons (tTup (Uh C.K ts)) tNil))) (qT known ts f):=by
 intro o F H σ ρ TT Q S q
 unfold qT at q
 rw [aA] at q
 refine h o F H σ ρ TT _ S (au q (fun a ρ1 h1 F1 H1 x S1=>?_) fun _ _ h=>h)
 obtain ⟨val,hv,q⟩:=cD h1
 refine Gj ⟨by rw [List.length_map]; exact hz,fun p hp=>?_⟩
 have S2:=S1.grow (Grow.junk (o:=.tup (ts.map (jX.vv C.K))) S1.sub hp)
 have hts:=List.all_eq_true.mp ht
 cases hl:look ρ1 a with
 | none=>rw [hl] at hv; cases hv
 | some e =>
  rw [hl] at hv
  cases e with
  | fr d =>
   cases d with
   | non =>
    cases hv
    have rx:Dq C.K F1 .non x:=S1.look (j:=0) rfl hl
    have rx:x=.non:=by simpa only [Dq] using rx
    subst rx
    have e:=pO (K:=M.K) (v:=.type "NoneType") (g:=fun _=>false) (ts:=ts) fun t ht=>O6 hk t (hts t ht)
    rw [hC] at e
    have e0:(ts.any fun _=>false)=false:=List.any_eq_false.mpr fun _ _=>Bool.false_ne_true
    rw [e0] at e
    exact .inl ⟨.non,p,ts.map (jX.vv C.K),.type "NoneType",ts.map (jX.val C.K),false,rfl,upd_same,jX.cvs C.K ts,.base .non,e,q _ _ _ (S2.drop.bf (fZ false))⟩
   | _=>cases hv
  | ex y =>
   obtain ⟨ad,od,rfl,g1,g2⟩:=Gi S2 hl
   by_cases hy:known.contains y.aJ=true
   ·have hv:(((if known.contains y.aJ=true then some (ts.any (CG y.aJ)) else none):Option Bool).map fun b=>Val.en (.fr (.bl b)))=some val:=hv
    rw [if_pos hy] at hv
    cases hv
    have hm:=List.contains_iff_mem.mp hy
    have e:=pO (K:=M.K) (v:=.ref (fH M.K y.aJ)) (ts:=ts) fun t ht=>WQ hk hn hm t (hts t ht)
    rw [hC] at e
    exact .inr ⟨ad,p,od,ts.map (jX.vv C.K),ts.map (jX.val C.K),_,y.aJ,rfl,upd_same,jX.cvs C.K ts,g1,g2,hm,e,q _ _ _ (S2.drop.bf (fZ _))⟩
   ·have hv:(((if known.contains y.aJ=true then some (ts.any (CG y.aJ)) else none):Option Bool).map fun b=>Val.en (.fr (.bl b)))=some val:=hv
    rw [if_neg hy] at hv
    cases hv
  | ol _=>cases hv
  | od _ _=>cases hv
  | on _ _=>cases hv
  | cJ _=>cases hv
  | jW _=>cases hv
  | ob _=>cases hv
  | exs _=>cases hv
end
end DM
end
section
namespace DM
open PySem PySem.Spec PyProof.Rows L2
/-! ### the field -/
def atE (known:List Nat) (n:Str):Option En→Option D
 | some (.ex x)=>if known.contains x.aJ=true∧aV x.aJ=n then x.arg else none
 | _=>none
def runAttr (known:List Nat) (n:Str) (f:ak→R Val) (ρ:ak):R Val:=(f ρ).bind fun a ρ1=>o9 ((atE known n (look ρ1 a)).map fun d=>.en (.fr d)) ρ1
def tAt (K:PySem.W.Frag) (known:List Nat) (n:Str) (te:TE):TE:=fun σ H Q=>te σ H fun x H1=>∃(a dd:Addr) (c:Nat) (v:V),x=.ref a∧H1 a=some (qP a (fH K c) (some dd))∧H1 dd=some (.xd [(n,v)])∧c∈known∧aV c=n∧Q v H1
section
variable {M:Wd} {X:Cx} {known:List Nat}
theorem acv {e:Expr} {te:TE} {n:Str} {pos:Pos} (hk:∀c∈known,cY M c) (hM:X.K=M.K) (he:PE X e te) (hb:attributeBase e n X.env (eval e X.env)=eval e X.env):PE X (.Attribute e n pos) (tAt X.K known n te):=by
 refine ⟨fun pins s σ H Q I h=>attr_of hb (thn (he.run pins s σ H _ I h) fun u s1 hh=>?_)⟩
 obtain ⟨x,H1,I1,rx,a,dd,c,v,ex,h1,h2,hc,hf,q⟩:=hh
 subst ex
 obtain rfl:u=Value.ref a:=rx
 obtain ⟨C,fI,B,newId,initId,bm,g1,g2,T,_⟩:=(hk c hc).ex
 subst g2
 rw [hM] at h1
 obtain ⟨oe,od,mA,J,hns,hr,hl⟩:=zV I1 h1 h2
 have l:List.lookup n [(n,v)]=some v:=by simp [List.lookup]
 obtain ⟨u,hu,ru⟩:=RelO.some_of (v:=v) (o:=mA n) (by rw [← l]; exact hr n)
 have k1:M.K.In s1.heap:=by rw [← hM]; exact I1.kIn
 have no:PySem.W.findIn M.K (.ref (fH M.K c)) n=some none:=by rw [← hf]; exact T.noF
 exact HandSPX.exc_get k1 J T.ga T.gg T.exC (PySem.W.findObj_own T.hdC no rfl (by rw [hl,hu])) (handed_of ru) ⟨v,H1,I1.tok _,ru,q⟩
theorem Ui {C:Cs} {Z:ZX} {te:TE} {f:ak→R Val} {n:Str} (h:Impl C Z te f):Impl C Z (tAt C.K known n te) (runAttr known n f):=by
 intro o F H σ ρ TT Q S q
 unfold runAttr at q
 rw [aA] at q
 refine h o F H σ ρ TT _ S (au q (fun a ρ1 h1 F1 H1 x S1=>?_) fun _ _ h=>h)
 obtain ⟨val,hv,qq⟩:=cD h1
 cases hl:look ρ1 a with
 | none=>rw [hl] at hv; cases hv
 | some e =>
  rw [hl] at hv
  cases e with
  | ex y =>
   have r:Rp C.K F1 H1 (.ex y) x:=S1.look (j:=0) rfl hl
   obtain ⟨ad,od,rfl,g1,g0⟩:=r
   cases od with
   | none =>
    have g0:y.arg=none:=g0
    have hv:(((if known.contains y.aJ=true∧aV y.aJ=n then y.arg else none):Option D).map fun d=>Val.en (.fr d))=some val:=hv
    rw [g0,ite_self] at hv
    cases hv
   | some dd =>
   obtain ⟨u,d,g2,g3,g4⟩:=g0
   by_cases hy:known.contains y.aJ=true∧aV y.aJ=n
   ·have hv:(((if known.contains y.aJ=true∧aV y.aJ=n then y.arg else none):Option D).map fun d=>Val.en (.fr d))=some val:=hv
    rw [if_pos hy,g3] at hv
    cases hv
    obtain ⟨hy1,hy2⟩:=hy
    subst hy2
    exact ⟨ad,dd,y.aJ,u,rfl,S1.sub _ _ g1,S1.sub _ _ g2,List.contains_iff_mem.mp hy1,rfl,qq _ _ _ (S1.drop.bf g4)⟩
   ·have hv:(((if known.contains y.aJ=true∧aV y.aJ=n then y.arg else none):Option D).map fun d=>Val.en (.fr d))=some val:=hv
    rw [if_neg hy] at hv
    cases hv
  | fr _=>cases hv
  | ol _=>cases hv
  | od _ _=>cases hv
  | on _ _=>cases hv
  | cJ _=>cases hv
  | jW _=>cases hv
  | ob _=>cases hv
  | exs _=>cases hv
end
/-! ### on text and data at once -/
section
variable {M:Wd} {X:Cx} {C:Cs} {W:WX} {k:Nat} {N:List Str} {nm:List (Str × NameKind)} {fb:Str→Bool} {XR:cG} {known:List Nat} {e:Expr} {es:List Expr} {f:ak→R Val} {pos p pos':Pos} {x y:Str}
def O8 (known:List Nat):Bool:=known.all fun c=>known.all fun c'=>(c == c') || !(fL c == fL c')
theorem zW (h:O8 known=true):∀c∈known,∀c'∈known,c≠c'→fL c≠fL c':=fun c hc c' hc' ne z=>by
 have:=List.all_eq_true.mp (List.all_eq_true.mp h c hc) c' hc'
 rw [Bool.or_eq_true,beq_iff_eq,Bool.not_eq_true',beq_eq_false_iff_ne] at this
 rcases this with h | h
 ·exact ne h
 ·exact h z
theorem dW (G:Ctx M X C W k N nm fb) {c:Nat} (hc:cY M c) (hg:qL nm (fL c)=true):PE X (.Name (fL c) p) (tC ((jX.own c).vv C.K)):=by
 obtain ⟨g1,g2,_⟩:=cI G hg
 have:=hc.mg
 rw [← G.hmg,← G.lX,G.hK] at this
 exact pe_glob g1 this rfl g2
theorem pP {T:String} (G:Ctx M X C W k N nm fb) (hb:bootBuiltins x=some (.type T)) (hm:M.mg x=none) (hg:qL nm x=true):PE X (.Name x p) (tC ((jX.blt T).vv C.K)):=pF G hb hm hg
theorem JE.attr {n:Str} (G:Ctx M X C W k N nm fb) (hk:∀c∈known,cY M c) (h:JE XR X C W e f) (hb:attributeBase e n X.env (eval e X.env)=eval e X.env:=by rfl):JE XR X C W (.Attribute e n pos) (runAttr known n f):=by
 obtain ⟨t,t1,t2⟩:=h
 refine ⟨_,acv hk G.lX t1 hb,?_⟩
 rw [G.hK]
 exact Ui t2
theorem JE.xO {t:jX} {c:Expr} (G:Ctx M X C W k N nm fb) (hk:∀c∈known,cY M c) (hn:O8 known=true) (ht:zU known t=true) (hm:M.mg "isinstance"=none) (hg:qL nm "isinstance"=true) (hc:PE X c (tC (t.vv C.K))) (h:JE XR X C W e f)
  (he:starEach [e,c] X.env=(false,eval e X.env)::starEach [c] X.env:=by rfl) (he2:starEach [c] X.env=(false,eval c X.env)::starEach [] X.env:=by rfl) (hpl:(backTo pos (starEach [c] X.env)).any (·.1)=false:=by rfl):JE XR X C W (.Call (.Name "isinstance" p) [e,c] [] pos) (cH known t f):=by
 obtain ⟨g1,g2,g3⟩:=cI G hg
 obtain ⟨te,h1,h2⟩:=h
 have e0:M.K=C.K:=by rw [← G.lX,G.hK]
 refine ⟨_,pe_callB (CallR.or call_isi (O5 hk G.lX)) g1 (by rw [G.hmg]; exact hm) boot_isinstance (pa_cons h1 (pa_cons hc pa_nil he2) he) g3 g2 he hpl,?_⟩
 rw [G.hK]
 exact O7 e0 hk (zW hn) ht h2
theorem JE.aeT {ts:List jX} {j:Nat} {p2:Pos} (G:Ctx M X C W k N nm fb) (hk:∀c∈known,cY M c) (hn:O8 known=true) (ht:ts.all (zU known)=true) (hm:M.mg "isinstance"=none) (hg:qL nm "isinstance"=true) (hc:PA X es (Uh C.K ts)) (hz:decide (ts.length≤100)=true) (h:JE XR X C W e f)
  (he:starEach [e,.Tuple es j p2] X.env=(false,eval e X.env)::starEach [.Tuple es j p2] X.env:=by rfl):JE XR X C W (.Call (.Name "isinstance" p) [e,.Tuple es j p2] [] pos) (qT known ts f):=by
 obtain ⟨g1,g2,g3⟩:=cI G hg
 obtain ⟨te,h1,h2⟩:=h
 have e0:M.K=C.K:=by rw [← G.lX,G.hK]
 refine ⟨_,pe_callB (CallR.or call_isiT (Jb hk G.lX)) g1 (by rw [G.hmg]; exact hm) boot_isinstance (pa_cons h1 (pa_cons (pe_tup hc) pa_nil) he) g3 g2 he rfl,?_⟩
 rw [G.hK]
 exact Jc e0 hk (zW hn) ht (Nat.le_trans (of_decide_eq_true hz) (by decide)) h2
inductive Yy (M:Wd) (nm:List (Str × NameKind)):List Expr→List Nat→Prop where
 | nil:Yy M nm [] []
 | cons {c:Nat} {p:Pos} {es:List Expr} {cs:List Nat}:cY M c→qL nm (fL c)=true→Yy M nm es cs→Yy M nm (.Name (fL c) p::es) (c::cs)
theorem Ctx.tr (G:Ctx M X C W k N nm fb) {pn:List (Addr × Obj)} {xe:Value→Shared→Prop} {W':WX} (tk:Takes (X.tr pn xe) W'):Ctx M (X.tr pn xe) C W' k N nm fb :=
 ⟨G.hP,G.hw,G.lX,G.hmg,G.hbase,G.hK,G.calm,G.gd,G.room,tk,G.hN,G.nd,G.hnm,G.hkd,G.hfn⟩
end
def iG (s:Stmt):Stmt:=match s with
 | .ClassDef _ _ _ (b::_) _ _ _ _ _ _ _=>b
 | _=>s
theorem bH {K:PySem.W.Frag} {c:Nat} {a:Addr} (h:PySem.W.nsIn K mainGlobals (fL c)=some (some (.ref a))):a=fH K c:=by
 unfold fH
 rw [h]
theorem wB (K:PySem.W.Frag):PySem.W.findCls K (.type "LookupError") (.type "type") "__init__"=some (.val (.builtin "LookupError.__init__")):=by kernel_rfl
theorem wC (K:PySem.W.Frag):PySem.W.findCls K (.type "ValueError") (.type "type") "__init__"=some (.val (.builtin "ValueError.__init__")):=by kernel_rfl
theorem wD (K:PySem.W.Frag):PySem.W.findCls K (.type "RuntimeError") (.type "type") "__init__"=some (.val (.builtin "RuntimeError.__init__")):=by kernel_rfl
theorem O9 (K:PySem.W.Frag):PySem.W.findCls K (.type "OverflowError") (.type "type") "__init__"=some (.val (.builtin "OverflowError.__init__")):=by kernel_rfl
theorem dX {K:PySem.W.Frag} {C fI:Addr} {f cn:Str} {B newId initId:String} {bm:List Value} {q:Str} {N:Addr} {bs:List Value} {sn:List Str} {sub:List Value} {ab:Bool} {col:Option Bool} {dd:Option Addr} {k0 k1 k2 k3 k5:Option Value}
  (l:K.lookup C=some (excClassObj cn q C N bs bm true sn sub ab col dd k0 k1 k2 k3 k5 newId)) (hB:bm.contains (.type "BaseException")=true) (sa:PySem.W.findIn K (.ref C) "__setattr__"=some (some (.builtin "object.__setattr__")))
  (ga:PySem.W.findIn K (.ref C) "__getattribute__"=some (some (.builtin "BaseException.__getattribute__"))) (gg:PySem.W.findIn K (.ref C) "__getattr__"=some none) (nf:PySem.W.findIn K (.ref C) f=some none) (iC:PySem.W.findIn K (.ref C) "__init__"=some (some (.ref fI)))
  (tI:PySem.W.typeIn K (.ref fI)=some (.type "function")) (kC:PySem.W.keepIn K (.ref C)=true) (cC:PySem.W.findIn K (.ref C) "__class__"=some (some (.builtin "object.__class__"))) (ini:PySem.W.findCls K (.type B) (.type "type") "__init__"=some (.val (.builtin initId))) :
  Own K C fI f cn B newId initId bm where
 cls:=⟨q,N,bs,sn,sub,ab,col,dd,k0,k1,k2,k3,k5,l⟩
 sa:=sa
 ga:=ga
 gg:=gg
 noF:=nf
 iC:=iC
 tI:=tI
 kC:=kC
 exC:=by
  show PySem.W.mroIn K C (.type "BaseException")=some true
  unfold PySem.W.mroIn PySem.W.clsIn
  rw [l]
  show some ((Value.ref C::bm).contains (.type "BaseException"))=some true
  rw [List.contains_cons,hB,Bool.or_true]
 tyC:=by
  show (K.lookup C).map (·.cls)=_
  rw [l]; rfl
 hdC:=by
  unfold PySem.W.hasDictIn PySem.W.clsIn
  rw [l]; rfl
 cC:=cC
 ini:=ini
/-! ### a def that may raise -/
theorem Jd {XR:cG} {M:Wd} {xn qual:Str} {st:Stmt} {f:Addr} {fd:FuncData} {N ps:List Str} {k:Nat} {nm:List (Str × NameKind)} {L cs:List Nat} {body:ak→R Fl} (fn:Fun M.K xn qual st f fd) (sc:FnScope N ps (defScope st)) (hn:(defScope st).names=nm)
  (h:∀(X:Cx) (W:WX),Ctx M X ⟨M.K,L,cs,none⟩ W k N nm (fun _=>true)→PassesOwn (model X.prog X.w) X.A X.env X.xe→Yx X→JB XR X ⟨M.K,L,cs,none⟩ W (defBody st) body) :
  mH M.P M.w M.K M.mg M.base (k+1) f fd ps (nM M.K ps.length L cs XR (gG N.length body)):=by
 refine XJ fn sc fun cdv A outer s H E hr hg=>?_
 have G:Ctx M (cxOf (L2.CX M.P M.w) M.P M.w M.K M.mg M.base N qual (defScope st) f cdv A outer s H E) ⟨M.K,L,cs,none⟩ (fun cls d _ H=>E cls d H) k N nm (fun _=>true) :=
  ⟨rfl,rfl,rfl,rfl,rfl,rfl,rfl,hg,hr,takes_of rfl rfl rfl rfl,rfl,sc.nd,hn,sc.kind,fun _ _=>rfl⟩
 exact h _ _ G PassesOwn.leaving ⟨rfl,rfl,rfl⟩
theorem pQ {M:Wd} {f:Addr} {fd:FuncData} {ps:List Str} {np j:Nat} {L cs:List Nat} {XR:cG} (h:np=ps.length):mH M.P M.w M.K M.mg M.base j f fd ps (nM M.K np L cs XR fun _=>.bad) :=
 ⟨fun vs H Q E z=>z.1.trans h,fun A outer s H args us vs Q E _ _ _ _ _ z=>by
  obtain ⟨_,_,_,_,_,_,_,z⟩:=z
  exact z.elim⟩
end DM
end
section
namespace DM
open PySem PySem.Spec PyProof.Rows L2
/-! ### a slot set aside -/
abbrev aside (F H:Hp) (σ:L2.St) (ρ:ak) (T:Tm) (lk:Nat→Option V):Og:=now F H σ ρ T lk
section
variable {C:Cs} {o:Og} {F H F' H':Hp} {σ:L2.St} {ρ ρ':ak} {T T':Tm} {x:Nat} {e:En} {v:V}
end
/-! ### x[k].m(..) -/
section
variable {C:Cs} {Z:ZX}
end
end DM
end
section
namespace DM
open PySem PySem.Spec PyProof.Rows L2
def Itm.val:Itm→Val
 | .fr d=>.en (.fr d)
 | .ol xs=>.en (.ol xs)
section
variable {C:Cs} {Z:ZX}
end
/-! ### a call that only reads its arguments -/
def dOf:En→Option D
 | .fr d=>some d
 | .ol xs=>some (.lst xs)
 | .jW its=>some (.lst (its.map Itm.fz))
 | _=>none
theorem Gk {K:PySem.W.Frag} {F H:Hp} (s:Ext F H):∀{its:List Itm} {vs:List V},its.length=vs.length→(∀(i:Nat) (x:Itm) (y:V),its[i]?=some x→vs[i]?=some y→RpI K F H x y)→aN K H (its.map Itm.fz) vs
 | [],[],_,_=>.nil
 | [],_::_,h,_=>by simp at h
 | _::_,[],h,_=>by simp at h
 | x::its,y::vs,h,r=>by
  refine aN.cons ?_ (Gk s (by simpa using h) fun i x y e1 e2=>r (i+1) x y (by simpa using e1) (by simpa using e2))
  have h0:=r 0 x y rfl rfl
  cases x with
  | fr d=>exact Dq.mono s _ _ h0
  | ol xs =>
   obtain ⟨a,us,rfl,k1,k2⟩:=h0
   show Dq K H (.lst xs) (.ref a)
   simp only [Dq]
   exact ⟨a,us,rfl,k1,aN.mono s _ _ k2⟩
theorem Yz {K:PySem.W.Frag} {F H:Hp} {e:En} {v:V} {d:D} (s:Ext F H) (r:Rp K F H e v) (h:dOf e=some d):Dq K H d v:=by
 cases e with
 | fr d'=>cases h; exact Dq.mono s _ _ r
 | ol xs =>
  cases h
  obtain ⟨a,vs,rfl,k1,k2⟩:=r
  simp only [Dq]
  exact ⟨a,vs,rfl,k1,aN.mono s _ _ k2⟩
 | jW its =>
  cases h
  obtain ⟨p,vs,rfl,k1,k2,k3,_⟩:=r
  simp only [Dq]
  exact ⟨p,vs,rfl,k1,Gk s k2 k3⟩
 | ob _=>cases h
 | exs _=>cases h
 | od _ _=>cases h
 | on _ _=>cases h
 | cJ _=>cases h
 | ex _=>cases h
def wF:List En→Option (List D)
 | []=>some []
 | e::es=>match dOf e,wF es with
  | some d,some ds=>some (d::ds)
  | _,_=>none
def zX:D→Bool
 | .non=>true
 | .bl _=>true
 | .int _=>true
 | .str _=>true
 | _=>false
def roR (run:List En→R En) (ρ:ak):Option (List D)→R Val
 | some ds=>match run (ds.map .fr) with
  | .ok (.fr d) _=>if zX d=true then .ok (.en (.fr d)) ρ else .bad
  | _=>.bad
 | none=>.bad
def sO (n m:Nat) (perm:List Nat) (run:List En→R En) (fs fk:ak→R (List Val)) (ρ:ak):R Val:=(fs ρ).bind fun as ρ1=>(fk ρ1).bind fun bs ρ2 =>
 if as.length=n∧bs.length=m then roR run ρ2 ((looks ρ2 (cV (.en (.fr .non)) perm (as++bs))).bind wF) else .bad
theorem Uj {K:PySem.W.Frag} {F F':Hp} {d:D} {v:V} (h:zX d=true) (r:Dq K F d v):Dq K F' d v:=by
 cases d with
 | non=>simpa only [Dq] using r
 | bl b=>simpa only [Dq] using r
 | int b=>simpa only [Dq] using r
 | str b=>simpa only [Dq] using r
 | lst _=>cases h
 | tup _=>cases h
 | dct _ _=>cases h
 | xJ _ _=>cases h
theorem zY:∀{es:List En} {ds:List D} {j:Nat} {e:En},wF es=some ds→es[j]?=some e→∃d,ds[j]?=some d∧dOf e=some d
 | [],ds,j,e,h,hj=>by simp at hj
 | x::es,ds,j,e,h,hj=>by
  unfold wF at h
  cases h1:dOf x with
  | none=>rw [h1] at h; cases h
  | some d =>
   cases h2:wF es with
   | none=>rw [h1,h2] at h; cases h
   | some ds' =>
    rw [h1,h2] at h
    cases h
    cases j with
    | zero=>simp at hj; subst hj; exact ⟨d,rfl,h1⟩
    | succ j =>
     obtain ⟨d',k1,k2⟩:=zY (j:=j) h2 (by simpa using hj)
     exact ⟨d',by simpa using k1,k2⟩
theorem z8:∀{es:List En} {ds:List D},wF es=some ds→ds.length=es.length
 | [],ds,h=>by
  have h':some []=some ds:=h
  cases h'; rfl
 | x::es,ds,h=>by
  unfold wF at h
  cases h1:dOf x with
  | none=>rw [h1] at h; cases h
  | some d =>
   cases h2:wF es with
   | none=>rw [h1,h2] at h; cases h
   | some ds' =>
    rw [h1,h2] at h
    cases h
    rw [List.length_cons,List.length_cons,z8 h2]
section
variable {C:Cs} {XR:cG} {W:WX}
theorem CJ {n m np:Nat} {cs perm:List Nat} {run:List En→R En} {t tk:TA} {fs fk:ak→R (List Val)} (ha:eX C (ZW XR W) t fs) (hk:eX C (ZW XR W) tk fk) (hnp:perm.length=np) (hlt:∀i∈perm,i<n+m) :
  Impl C (ZW XR W) (Ck n m (nM C.K np [] cs XR run) perm (WE W) t tk) (sO n m perm run fs fk):=by
 intro o F H σ ρ T Q S q
 unfold sO at q
 rw [aA] at q
 refine ha o F H σ ρ T _ S (au q (fun as ρ1 h1 F1 H1 vs hl1 S1=>?_) fun _ _ h=>h)
 rw [aA] at h1
 have DG:∀{F' H':Hp} {σ':L2.St} {ρ':ak},SM C o F' H' σ' ρ' (stack as vs++T)→SM C o F' H' σ' ρ' T:=fun S'=>S'.Vp (fun j=>(stack as vs).length+j) (fun j x hx=>by rw [List.getElem?_append_right (by omega),Nat.add_sub_cancel_left]; exact hx) fun i j e=>by omega
 refine hk o F1 H1 σ ρ1 _ _ S1 (au h1 (fun bs ρ2 h2 F2 H2 zs hl2 S2=>?_) fun x ρ' h F' H' s=>h F' H' (DG s))
 have S3:SM C o F2 H2 σ ρ2 T:=DG (S2.Vp (fun j=>(stack bs zs).length+j) (fun j x hx=>by rw [List.getElem?_append_right (by omega),Nat.add_sub_cancel_left]; exact hx) fun i j e=>by omega)
 by_cases hnm:as.length=n∧bs.length=m
 ·rw [if_pos hnm] at h2
  have hl:(as++bs).length=(vs++zs).length:=by rw [List.length_append,List.length_append,hl1,hl2]
  have hA:(as++bs).length=n+m:=by rw [List.length_append,hnm.1,hnm.2]
  rw [← List.append_assoc,← uH hl1] at S2
  generalize hcs:cV (.en (.fr .non)) perm (as++bs)=vals at h2
  cases hlk:(looks ρ2 vals).bind wF with
  | none=>rw [hlk] at h2; exact h2.elim
  | some ds =>
   rw [hlk] at h2
   replace h2:lE (match run (ds.map .fr) with
    | .ok (.fr d) _=>if zX d=true then R.ok (Val.en (.fr d)) ρ2 else .bad
    | _=>.bad) (fun val ρ'=>∀F' H' v,SM C o F' H' σ ρ' ((val,v)::T)→Q v H') (fun x ρ'=>∀F' H',SM C o F' H' σ ρ' T→ZW XR W x F' H' σ ρ'):=h2
   obtain ⟨es,l1,l2⟩:=dH hlk
   have lt1:∀i∈perm,i<(as++bs).length:=fun i hi=>by rw [hA]; exact hlt i hi
   have lt2:∀i∈perm,i<(vs++zs).length:=fun i hi=>by rw [← hl]; exact lt1 i hi
   have lv:vals.length=perm.length:=by rw [← hcs]; exact List.length_map ..
   have lp:(cV V.non perm (vs++zs)).length=perm.length:=List.length_map ..
   have ld:ds.length=perm.length:=by rw [z8 l2,lM l1,lv]
   have at1:∀(j:Nat) (d:D) (v:V),ds[j]?=some d→(cV V.non perm (vs++zs))[j]?=some v→Dq C.K H2 d v:=fun j d v h3 h4=>by
    have hj:j<es.length:=by rw [lM l1,lv,← ld]; exact (List.getElem?_eq_some_iff.mp h3).1
    obtain ⟨d',k1,k2⟩:=zY l2 (List.getElem?_eq_getElem hj)
    rw [h3] at k1
    cases k1
    obtain ⟨a,h5,h6⟩:=pD l1 (List.getElem?_eq_getElem hj)
    rw [← hcs] at h5
    obtain ⟨i,h7,h8⟩:=lN h5 lt1
    obtain ⟨i',h7',h9⟩:=lN h4 lt2
    rw [h7] at h7'
    cases h7'
    have hst:=uG hl h8 h9
    have hst':(stack (as++bs) (vs++zs)++T)[(as++bs).length - 1 - i]?=some (a,v):=by
     rw [List.getElem?_append_left (List.getElem?_eq_some_iff.mp hst).1]
     exact hst
    exact Yz S2.sub (S2.look hst' h6) k2
   have pr:Paired (Rp C.K H2 H2) (ds.map En.fr) (cV V.non perm (vs++zs)):=by
    have go:∀(ds:List D) (us:List V),ds.length=us.length→(∀(j:Nat) (d:D) (v:V),ds[j]?=some d→us[j]?=some v→Dq C.K H2 d v)→Paired (Rp C.K H2 H2) (ds.map En.fr) us:=by
     intro ds
     induction ds with
     | nil=>intro us hl _; cases us with
      | nil=>exact .nil
      | cons _ _=>simp at hl
     | cons e es ih=>intro us hl h; cases us with
      | nil=>simp at hl
      | cons u us=>exact .cons (h 0 e u rfl rfl) (ih us (by simpa using hl) fun j e v h1 h2=>h (j+1) e v (by simpa using h1) (by simpa using h2))
    exact go ds _ (by rw [ld,lp]) at1
   have noO:∀{i:Nat} {e:En} {v:V} {a:Addr},(ds.map En.fr)[i]?=some e→¬Ow H2 e v a:=fun {i e v a} h w=>by
    rw [List.getElem?_map] at h
    obtain ⟨d,_,rfl⟩:=Option.map_eq_some_iff.mp h
    exact w
   refine ⟨by rw [← hl1]; exact hnm.1,by rw [← hl2]; exact hnm.2,by rw [lp,hnp],H2,ds.map En.fr,Ext.refl H2,pr,fun i j e e' v v' a ne g1 g2 g3 g4 w1=>absurd w1 (noO g1),fun i e v a g1 g2 w1=>absurd w1 (noO g1),?_⟩
   cases hr:run (ds.map .fr) with
   | bad=>rw [hr] at h2; exact h2.elim
   | exc x ρ'=>rw [hr] at h2; exact h2.elim
   | ok e ρ' =>
    rw [hr] at h2
    cases e with
    | fr d =>
     intro F' H' σ' v N
     replace h2:lE (if zX d=true then R.ok (Val.en (.fr d)) ρ2 else .bad) (fun val ρ'=>∀F' H' v,SM C o F' H' σ ρ' ((val,v)::T)→Q v H') (fun x ρ'=>∀F' H',SM C o F' H' σ ρ' T→ZW XR W x F' H' σ ρ'):=h2
     by_cases hf:zX d=true
     ·rw [if_pos hf] at h2
      have hx:Ext H2 H':=fun b u hb=>N.keep b u (fun ⟨i,e,v,g1,_,g3⟩=>noO g1 g3) hb
      have rd:Dq C.K F' d v:=N.rep (.t 0) _ v rfl
      exact h2 F2 H' v ((S3.grow ⟨Ext.refl F2,hx,S3.sub.trans hx,fun _ a b=>absurd a b⟩).bf (Uj hf rd))
     ·rw [if_neg hf] at h2; exact h2.elim
    | ol _=>exact h2.elim
    | od _ _=>exact h2.elim
    | on _ _=>exact h2.elim
    | cJ _=>exact h2.elim
    | ex _=>exact h2.elim
    | jW _=>exact h2.elim
    | ob _=>exact h2.elim
    | exs _=>exact h2.elim
 ·rw [if_neg hnm] at h2; exact h2.elim
end
/-! ### on text and data at once -/
section
variable {M:Wd} {X:Cx} {C:Cs} {W:WX} {k:Nat} {N:List Str} {nm:List (Str × NameKind)} {fb:Str→Bool} {XR:cG} {e:Expr} {es:List Expr} {f fi:ak→R Val} {fs fk:ak→R (List Val)} {pos p pos':Pos} {x:Str}
variable {fd:FuncData} {ps ks:List Str} {fA:Addr} {np n:Nat} {perm cs:List Nat} {run:List En→R En} {kws:List Keyword}
theorem JE.uE (G:Ctx M X C W k N nm fb) (fn:mH M.P M.w M.K M.mg M.base k fA fd ps (nM M.K np [] cs XR run)) (hm:M.mg x=some (.ref fA)) (hk:PySem.W.keepIn M.K (.ref fA)=true) (hb:aW fd ps [] n perm) (hg:qL nm x=true) (hp:DK perm np (n+0)=true)
  (ha:JA XR X C W (e::es) fs) (he:starEach (e::es) X.env=(false,eval e X.env)::starEach es X.env:=by rfl) (hpl:(backTo pos (starEach es X.env)).any (·.1)=false:=by rfl) :
  JE XR X C W (.Call (.Name x p) (e::es) [] pos) (sO n 0 perm run fs ao):=by
 obtain ⟨g1,g2,_⟩:=cI G hg
 obtain ⟨t,a1,a2⟩:=ha
 obtain ⟨p1,p2,p3⟩:=yF hp
 refine ⟨_,yx (E:=WE W) (sp:=nM M.K np [] cs XR run) (by rw [G.hP,G.hw,G.lX,G.hmg,G.hbase]; exact fn) G.room G.gd g1 (by rw [G.hmg]; exact hm) (by rw [G.lX]; exact hk) hb (passAt G.tk) a1 g2 he hpl,?_⟩
 rw [← G.lX,G.hK]
 exact CJ a2 j8 p1 p3
end
end DM
end
section
namespace DM
open PySem PySem.Spec PyProof.Rows L2
section
variable {C:Cs} {Z:ZX}
end
section
variable {XR:cG} {M:Wd} {X:Cx} {C:Cs} {W:WX} {k:Nat} {N:List Str} {nm:List (Str × NameKind)} {fb:Str→Bool}
variable {e e2 e3:Expr} {es:List Expr} {f fa fc:ak→R Val} {pos p tpos:Pos} {kk:Nat}
end
end DM
end
section
namespace DM
open PySem PySem.Spec PyProof.Rows L2
section
variable {C:Cs} {o:Og} {F H F' H':Hp} {σ σ':L2.St} {ρ ρ':ak} {T T':Tm} {x:Nat} {e:En} {v:V}
end
section
variable {C:Cs} {Z:ZX}
end
section
variable {XR:cG} {M:Wd} {X:Cx} {C:Cs} {W:WX} {k:Nat} {N:List Str} {nm:List (Str × NameKind)} {fb:Str→Bool}
variable {tg:Expr} {pos p:Pos} {y:Str}
end
end DM
end
section
namespace DM
open PySem PySem.Spec PyProof.Rows L2
section
variable {prog:Program} {w:World} {A:Around} {E:Value→Shared→Prop} {s:Shared}
end
end DM
namespace DM
open PySem PySem.Spec PyProof.Rows L2 Srt SrtO
section
variable {prog:Program} {w:World} {A:Around} {E:Value→Shared→Prop} {s:Shared}
end
section
variable {K:PySem.W.Frag}
end
end DM
end
section
namespace DM
open PySem PySem.Spec PyProof.Rows L2 HT
section
variable {prog:Program} {w:World} {A:Around} {E:Value→Shared→Prop} {s:Shared}
end
section
variable {C:Cs} {Z:ZX}
end
section
variable {XR:cG} {M:Wd} {X:Cx} {C:Cs} {W:WX} {k:Nat} {N:List Str} {nm:List (Str × NameKind)} {fb:Str→Bool}
end
end DM
end
section
namespace DM
open PySem PySem.Spec PyProof.Rows L2
section
variable {X:Cx}
end
section
variable {C:Cs} {Z:ZX}
end
section
variable {XR:cG} {M:Wd} {X:Cx} {C:Cs} {W:WX} {k:Nat} {N:List Str} {nm:List (Str × NameKind)} {fb:Str→Bool} {o e:Expr} {es:List Expr} {f:ak→R Val} {fs:ak→R (List Val)}
end
end DM
end
section
namespace DM
open PySem PySem.Spec PyProof.Rows L2
section
variable {X:Cx} {k n:Nat} {perm:List Nat} {E:L2.St→XK} {pos:Pos} {e:Expr} {es:List Expr} {t:TA}
end
def Pa:List Addr→TA
 | []=>tNil
 | f::fs=>tCons (tC (.ref f)) (Pa fs)
section
variable {C:Cs} {XR:cG} {W:WX}
end
section
variable {XR:cG} {M:Wd} {X:Cx} {C:Cs} {W:WX} {k:Nat} {N:List Str} {nm:List (Str × NameKind)} {fb:Str→Bool} {e:Expr} {es:List Expr} {fs:ak→R (List Val)}
inductive mK (XR:cG) (M:Wd) (k:Nat) (nm:List (Str × NameKind)):List Expr→List Addr→List (List En→R En)→Prop
 | nil:mK XR M k nm [] [] []
 | cons {x:Str} {p:Pos} {f:Addr} {fd:FuncData} {ps:List Str} {cs:List Nat} {run:List En→R En} {ns:List Expr} {fas:List Addr} {runs:List (List En→R En)} (fn:mH M.P M.w M.K M.mg M.base k f fd ps (nM M.K 2 [] cs XR run)) (hm:M.mg x=some (.ref f)) (hk:PySem.W.keepIn M.K (.ref f)=true) (hb:aW fd ps [] 2 [0,1]) (hg:qL nm x=true)
  (rest:mK XR M k nm ns fas runs):mK XR M k nm (.Name x p::ns) (f::fas) (run::runs)
def PkS (XR:cG) (M:Wd) (k:Nat) (f:Addr) (sp:Sp):Prop:=∃fd ps,mH M.P M.w M.K M.mg M.base k f fd ps sp∧PySem.W.keepIn M.K (.ref f)=true∧aW fd ps [] 2 [0,1]
theorem mK.pa (G:Ctx M X C W k N nm fb):∀{ns:List Expr} {fas:List Addr} {runs:List (List En→R En)},mK XR M k nm ns fas runs→PA X ns (Pa fas)
 | _,_,_,.nil=>pa_nil
 | _,_,_,.cons fn hm hk hb hg rest=>by
  obtain ⟨g1,g2,_⟩:=cI G hg
  exact pa_cons (pe_glob g1 (by rw [G.hmg]; exact hm) rfl g2) (mK.pa G rest)
theorem mK.get {ns:List Expr} {fas:List Addr} {runs:List (List En→R En)} (h:mK XR M k nm ns fas runs):∀(j:Nat) (run:List En→R En),runs[j]?=some run→∃f cs,fas[j]?=some f∧PkS XR M k f (nM M.K 2 [] cs XR run):=by
 induction h with
 | nil=>intro j run e; simp at e
 | cons fn hm hk hb hg rest ih =>
  intro j run e
  cases j with
  | zero =>
   simp only [List.getElem?_cons_zero,Option.some.injEq] at e
   subst e
   exact ⟨_,_,rfl,_,_,fn,hk,hb⟩
  | succ j =>
   simp only [List.getElem?_cons_succ] at e ⊢
   exact ih j run e
theorem mK.len {ns:List Expr} {fas:List Addr} {runs:List (List En→R En)} (h:mK XR M k nm ns fas runs):fas.length=ns.length:=by
 induction h with
 | nil=>rfl
 | cons _ _ _ _ _ _ ih=>rw [List.length_cons,List.length_cons,ih]
end
end DM
end
section
namespace DM
open PySem PySem.Spec PyProof.Rows L2
section
variable {C:Cs} {o:Og} {F H:Hp} {σ:L2.St} {ρ:ak} {T:Tm}
end
/-! the comprehension -/
section
variable {C:Cs} {Z:ZX}
end
end DM
end
section
namespace DM
open PySem PySem.Spec PyProof.Rows L2
section
variable {X:Cx}
end
section
variable {K:PySem.W.Frag}
end
end DM
end
section
namespace DM
open PySem PySem.Spec PyProof.Rows L2
def tgT (t:Tg):Bw:=fun e ρ=>match e with
 | .fr d=>match cZ t d ρ with
  | some ρ2=>.ok () ρ2
  | none=>.bad
 | _=>.bad
section
variable {C:Cs} {Z:ZX}
theorem Uk {t:Tg} {g:TG} {sl:List Nat} (hg:oh C g sl (cZ t)):sG C Z g (tgT t):=by
 intro o F H σ ρ T e v Q S hT q
 unfold tgT at q
 cases e with
 | fr d =>
  simp only at q
  cases z:cZ t d ρ with
  | none=>rw [z] at q; exact q.elim
  | some ρ2 =>
   rw [z] at q
   exact hg o F H σ ρ ρ2 T d v Q S.drop (S.look (j:=0) (v:=v) (e:=.fr d) rfl rfl) (fun i _=>hT i) z fun σ' S' _ _=>q F H σ' S'
 | ol _=>exact q.elim
 | od _ _=>exact q.elim
 | on _ _=>exact q.elim
 | cJ _=>exact q.elim
 | ex _=>exact q.elim
 | jW _=>exact q.elim
 | ob _=>exact q.elim
 | exs _=>exact q.elim
end
section
variable {XR:cG} {M:Wd} {X:Cx} {C:Cs} {W:WX} {k:Nat} {N:List Str} {nm:List (Str × NameKind)} {fb:Str→Bool}
variable {e tg a b c:Expr} {es vs:List Expr} {pos px pt pt2 pl:Pos} {x:Str} {kt kt2 kv kl:Nat}
theorem Ys.t {t:Tg} (h:JG X C tg t):Ys XR X C W tg (tgT t):=by
 obtain ⟨g,h1,h2⟩:=h
 exact ⟨g,h1,Uk h2⟩
end
end DM
end
section
namespace DM
open PySem PySem.Spec PyProof.Rows L2
section
variable {XR:cG} {M:Wd} {X:Cx} {C:Cs} {W:WX} {k:Nat} {N:List Str} {nm:List (Str × NameKind)} {fb:Str→Bool}
variable {e o:Expr} {es:List Expr} {f:ak→R Val} {fs:ak→R (List Val)}
end
end DM
end
section
namespace DM
open PySem PySem.Spec PyProof.Rows L2
end DM
end
section
namespace DM
open PySem PySem.Spec PyProof.Rows L2
/-! ### x in d.values() -/
section
variable {prog:Program} {w:World} {κ:Type} [DecidableEq κ] {knd:KeyKind prog w κ}
end
/-! ### on texts -/
section
variable {X:Cx}
end
/-! ### on data -/
section
variable {C:Cs} {Z:ZX}
end
/-! ### both at once -/
section
variable {XR:cG} {M:Wd} {X:Cx} {C:Cs} {W:WX} {k:Nat} {N:List Str} {nm:List (Str × NameKind)} {fb:Str→Bool} {a b:Expr} {fa f:ak→R Val} {pos:Pos}
end
end DM
end
section
namespace DM
open PySem PySem.Spec PyProof.Rows L2
/-! ### keys on data -/
def Ul:D→Option Key
 | .int i=>some (.inl i)
 | .str s=>some (.inr s)
 | _=>none
def kD:Key→D
 | .inl i=>.int i
 | .inr s=>.str s
theorem Um (k:Key):Ul (kD k)=some k:=by cases k <;> rfl
theorem acy {K:PySem.W.Frag} {F:Hp} (k:Key):Dq K F (kD k) (kV k):=by
 cases k with
 | inl i=>exact mV i
 | inr s=>exact rB s
theorem acz {K:PySem.W.Frag} {F:Hp} {d:D} {k:Key} (h:Dq K F d (kV k)):d=kD k:=by
 cases k with
 | inl i =>
  cases d <;> simp only [Dq,kV] at h
  ·cases h
  ·cases h
  ·cases h; rfl
  ·cases h
  ·obtain ⟨a,_,e,_⟩:=h; cases e
  ·obtain ⟨a,_,e,_⟩:=h; cases e
  ·obtain ⟨a,_,_,e,_⟩:=h; cases e
  ·obtain ⟨a,_,_,e,_⟩:=h; cases e
 | inr s =>
  cases d <;> simp only [Dq,kV] at h
  ·cases h
  ·cases h
  ·cases h
  ·cases h; rfl
  ·obtain ⟨a,_,e,_⟩:=h; cases e
  ·obtain ⟨a,_,e,_⟩:=h; cases e
  ·obtain ⟨a,_,_,e,_⟩:=h; cases e
  ·obtain ⟨a,_,_,e,_⟩:=h; cases e
theorem wG {K:PySem.W.Frag} {F:Hp}:∀{kz:List Key} {ks:List D},aN K F ks (kz.map kV)→ks=kz.map kD
 | [],[],_=>rfl
 | [],d::ds,h=>by
  obtain ⟨v,r,e,_⟩:=h.uncons
  cases e
 | k::kz,[],h=>by
  have:=h.length
  simp at this
 | k::kz,d::ds,h=>by
  obtain ⟨v,r,e,h1,h2⟩:=h.uncons
  rw [List.map_cons] at e
  injection e with e1 e2
  subst e1
  subst e2
  rw [acz h1,wG h2]
  rfl
def atK:List D→List D→Key→Option D
 | x::ks,d::ds,k=>if Ul x=some k then some d else atK ks ds k
 | _,_,_=>none
theorem Gm {K:PySem.W.Frag} {F:Hp} (k:Key):∀{kz:List Key} {ds:List D} {vs:List V},aN K F ds vs→kz.length=vs.length→(∀d,atK (kz.map kD) ds k=some d→∃y,valV (kz.zip vs) k=some y∧Dq K F d y)∧(atK (kz.map kD) ds k=none→valV (kz.zip vs) k=none)
 | [],ds,vs,_,_=>by
  refine ⟨fun d h=>?_,fun _=>by rw [List.zip_nil_left]; rfl⟩
  have h':(none:Option D)=some d:=by cases ds <;> exact h
  cases h'
 | j::kz,[],vs,h,hl=>by
  have:=h.nil_iff
  subst this
  cases hl
 | j::kz,d::ds,vs,h,hl=>by
  obtain ⟨v,r,rfl,h1,h2⟩:=h.uncons
  rw [List.length_cons,List.length_cons] at hl
  obtain ⟨i1,i2⟩:=Gm (K:=K) (F:=F) k (kz:=kz) (ds:=ds) (vs:=r) h2 (by omega)
  rw [List.zip_cons_cons]
  show (∀d',(if Ul (kD j)=some k then some d else atK (kz.map kD) ds k)=some d'→_)∧((if Ul (kD j)=some k then some d else atK (kz.map kD) ds k)=none→_)
  rw [Um]
  by_cases e:j=k
  ·subst e
   rw [if_pos rfl,valV_pos rfl]
   exact ⟨fun d' e'=>by cases e'; exact ⟨v,rfl,h1⟩,fun z=>by cases z⟩
  ·rw [if_neg (fun z=>e (Option.some.inj z)),valV_neg (p:=(j,v)) e]
   exact ⟨i1,i2⟩
def YB:En→Option Key
 | .fr (.int i)=>some (.inl i)
 | .fr (.str s)=>some (.inr s)
 | _=>none
theorem Uo {K:PySem.W.Frag} {F H:Hp} {e:En} {x:V} {k:Key} (r:Rp K F H e x) (h:YB e=some k):x=kV k:=by
 cases e with
 | fr d =>
  cases d with
  | int i=>cases h; exact dG r rfl
  | str s=>cases h; exact jA r rfl
  | _=>cases h
 | _=>cases h
/-! ### {} -/
section
variable {C:Cs} {Z:ZX}
end
/-! ### dict(d) -/
def acA:R2:=fun x y H Q=>∃a v,x=.ref a∧DGet H a y (some v)∧Q v H
def Pb:En→En→Option En:=fun a b=>match dcE a,YB b with
 | some p,some k=>(atK p.1 p.2 k).map .fr
 | _,_=>none
theorem YC {K:PySem.W.Frag}:qK K acA Pb:=by
 intro F H e1 e2 x y e Q s r1 r2 hg q
 unfold Pb at hg
 cases h1:dcE e1 with
 | none=>rw [h1] at hg; cases hg
 | some p =>
  cases h2:YB e2 with
  | none=>rw [h1,h2] at hg; cases hg
  | some k =>
   rw [h1,h2] at hg
   simp only at hg
   cases h3:atK p.1 p.2 k with
   | none=>rw [h3] at hg; cases hg
   | some d =>
    rw [h3] at hg
    cases hg
    obtain ⟨a,us,vs,rfl,⟨kz,k1,k2,k3⟩,k4,k5⟩:=Xh s r1 h1
    subst k1
    have ek:=wG k4
    rw [ek] at h3
    obtain ⟨v,v1,v2⟩:=(Gm k k5 k2).1 d h3
    exact ⟨a,v,rfl,.inl ⟨_,k,k3,Uo r2 h2,v1.symm⟩,q F H v (.old (Grow.refl s) v2)⟩
section
variable {C:Cs} {Z:ZX}
end
end DM
end
section
namespace DM
open PySem PySem.Spec PyProof.Rows L2
/-! ### made frozen: its object known from then on -/
section
variable {C:Cs} {Z:ZX}
end
/-! ### d.items() -/
def YD (d:Addr) (o:Obj) (kvs:List (Key × V)):It :=
 ⟨fun i H=>H d=some (.frz o (.dK kvs))∧i<kvs.length,fun i H x H'=>∃T ot k v,Nd ot∧kvs[i]?=some (k,v)∧x=.ref T∧H T=none∧H'=upd H T (.frz ot (.tup [kV k,v])),fun i H=>H d=some (.frz o (.dK kvs))∧kvs.length≤i⟩
theorem z9 {P:Program} {w:World} {K:PySem.W.Frag} {d:Addr} {o:Obj} {es:Array DictEntry} {ep:Nat} {kvs:List (Key × V)} {elts:List Expr} {kk:Nat} {tpos:Pos} (it:Addr) (hod:o.data=.dict es ep) :
  Turn P w K (.Tuple elts kk tpos) (YD d o kvs) [it] it (fun i h=>∃ok ov,IsItemIter h it d i kvs.length ep ok ov) where
 mem:=by simp
 obj:=fun i h st b hb=>by
  have e:b=it:=by simpa using hb
  subst e
  obtain ⟨ok,ov,e⟩:=st
  exact ⟨_,e,fun v z=>nomatch z⟩
 keep:=fun i h h' st k=>let ⟨ok,ov,e⟩:=st; ⟨ok,ov,k it (by simp) _ e⟩
 item:=by
  intro X hP hw hK hc i pins s σ H E I hf st hg
  subst hP hw hK
  obtain ⟨hd,hi⟩:=hg
  obtain ⟨hs,hgd,hx,es',ep',vs,hdt,hsz,kv,hm⟩:=I.frzK hd
  obtain ⟨rfl,rfl⟩:=dict_ep hod hdt
  obtain ⟨⟨k,v⟩,hkv⟩:∃p,kvs[i]?=some p:=⟨kvs[i],List.getElem?_eq_getElem hi⟩
  obtain ⟨u,hu,ru⟩:=kv_get kv hkv
  have hl:kvs.length=vs.length:=Paired.length kv
  obtain ⟨ok,ov,he⟩:=st
  rw [hl] at he
  have hlt:it<s.heap.objs.size:=Heap.lt_size he
  refine wpAny_pyNext_items_item he hm hu fun key h' hkey ho hT hz hk=>?_
  refine ⟨_,rfl,wpAny_letOwnedTupleGo_items (s:={ s with heap:=h' }) ho fun h'' he' sb=>?_⟩
  have hT2:h''.get? s.heap.objs.size=some (dO [key,u]):=(sb.2 _ (Nat.ne_of_gt hlt)).trans hT
  have new:ObjOk X.prog X.w (upd H s.heap.objs.size (.frz (dO [key,u]) (.tup [kV k,v]))) h'' s.heap.objs.size (.frz (dO [key,u]) (.tup [kV k,v])) :=
   ⟨hT2,by show 2≤sizeLine; decide,[key,u],.cons (relV_key (show keyIs k key=true from hkey)) (.cons ru .nil),⟨_,hT2,rfl,_,rfl⟩⟩
  have I1:Inv X pins σ (upd H s.heap.objs.size (.frz (dO [key,u]) (.tup [kV k,v]))) { s with heap:=h'' } :=
   I.turnedNew (t':=s.toks) (ch:=[it]) (fun b ob hb e=>(sb.2 b (by simpa using hb)).trans (hk b ob (by simpa using hb) e)) hf (Nat.le_refl _) new
  refine ⟨.ref s.heap.objs.size,_,I1,rfl,⟨_,_,k,v,nQ _,hkv,rfl,I.hok.fresh (Nat.le_refl _),rfl⟩,⟨key,u,?_⟩,fun b hb=>?_⟩
  ·rw [hl]; exact he'
  ·have e:b=it:=by simpa using hb
   rw [e,upd_ne (Nat.ne_of_lt hlt)]
   exact (hf it (by simp)).1
 done:=by
  intro X hP hw hK hc i pins s σ H E I hf st hg
  subst hP hw hK
  obtain ⟨hd,hi⟩:=hg
  obtain ⟨f0,f1,f2,f3,f4,f5⟩:=hf it (by simp)
  obtain ⟨hs,hgd,hx,es',ep',vs,hdt,hsz,kv,hm⟩:=I.frzK hd
  obtain ⟨rfl,rfl⟩:=dict_ep hod hdt
  have hl:kvs.length=vs.length:=Paired.length kv
  obtain ⟨ok,ov,he⟩:=st
  rw [hl] at he
  exact wpAny_pyNext_items_end (I.ok.hd hc) he hm (List.getElem?_eq_none (by omega)) fun h' eb=>⟨rfl,I.turned (t':=s.toks) (fun b ob hb e=>eb b ob hb e) f0 f1 f3 f4 f5⟩
 self:=fun A i s Q E st h=>let ⟨_,_,e⟩:=st; PySem.W.kcp_self e h
def Gn (td:TE):TI:=fun σ H R=>td σ H fun x H1=>∃d o kvs,x=.ref d∧H1 d=some (.frz o (.dK kvs))∧R (YD d o kvs) H1
theorem Je {X:Cx} {e:Expr} {td:TE} {apos cpos:Pos} {elts:List Expr} {kk:Nat} {tpos:Pos} (he:PE X e td) (hbase:attributeBase e "items" X.env (eval e X.env)=eval e X.env:=by rfl) (hline:(apos.endLine == cpos.line)=true:=by rfl) :
  PI X (.Tuple elts kk tpos) (.Call (.Attribute e "items" apos) [] [] cpos) (Gn td):=by
 refine ⟨fun pins s σ H R I h=>?_⟩
 refine wpAny_Call_method (T := "dict") (id := "dict.items") hbase rfl hline F.plainAttrs_dict F.slot_dict_items F.type_dict_items (thn (he.run pins s σ H _ I h) fun u s1 ⟨x,H1,I1,rx,d,o,kvs,ex,hd,q⟩=>?_)
 subst ex
 obtain rfl:u=Value.ref d:=rx
 obtain ⟨hs,hgd,hx,es,ep,vs,hdt,hsz,kv,hm⟩:=I1.frzK hd
 have hl:kvs.length=vs.length:=Paired.length kv
 refine ⟨hm.dictOf.typeIs,hm.dictOf.mapOf.noDict,?_⟩
 have I2:Inv X pins σ H1 { s1 with heap:=s1.heap.push { cls:=.type "dict_items",data:=.fields #[.ref d] } }:=I1.kept (t':=s1.toks) fun b ob q=>Heap.get?_push_of_some _ q
 have fin:wpAny (model X.prog X.w) X.A (pyIter (.ref s1.heap.objs.size)) (PIE X pins σ (.Tuple elts kk tpos) R) X.xe { s1 with heap:=s1.heap.push { cls:=.type "dict_items",data:=.fields #[.ref d] } }:=by
  refine wpAny_pyIter_items (d:=d) (knd:=mixKind X.prog X.w) ⟨_,Heap.get?_push_size _ rfl,rfl,rfl⟩ (hm.push _) (pi_one (tk:=s1.toks) I2 _ (z9 _ hdt) ⟨.none,.none,?_⟩ q)
  rw [hl]
  exact Heap.get?_push_size _ rfl
 show wpAny _ _ (callWith cpos (.builtin "dict.items") [.ref d] [] []) _ X.xe s1
 exact method_meetsIn F.slot_dict_items F.entry_dict_items rfl (PySem.evalArgs_none ⟨rfl,hm.dictOf.typeIs,F.args_dict_items_1 _,_,meets_dict_items (mixKind X.prog X.w) d hs,⟨vs,hm.dictOf⟩,fin⟩)
theorem Pg {K:PySem.W.Frag} {F0:Hp} {a:Addr} {o:Obj} {kz:List Key} {vs:List V} {ds:List D} (h:F0 a=some (.frz o (.dK (kz.zip vs)))) (hl:kz.length=vs.length) (d:aN K F0 ds vs):WkD K F0 (YD a o (kz.zip vs)) (pairs (kz.map kD) ds) where
 go:=fun i F H e1 e2 hi=>by
  rw [fO,List.length_map,d.length,hl,Nat.min_self] at hi
  exact ⟨e2 _ _ (e1 _ _ h),by rw [List.length_zip,hl,Nat.min_self]; exact hi⟩
 stop:=fun F H e1 e2=>⟨e2 _ _ (e1 _ _ h),by rw [fO,List.length_map,d.length,hl,List.length_zip,hl]; exact Nat.le_refl _⟩
 yld:=fun i F H x H' e1 e2 hi y=>by
  obtain ⟨T,ob,k,v,nd,hkv,rfl,hT,rfl⟩:=y
  obtain ⟨g1,g2⟩:=List.getElem?_zip_eq_some.mp hkv
  obtain ⟨d',h1,h2⟩:=d.Kv g2
  obtain ⟨g,q⟩:=yc e2 nd hT (acy k) (Dq.mono e1 _ _ h2)
  exact ⟨_,_,uh (by rw [List.getElem?_map,g1]; rfl) h1,g,q⟩
def prE:En→Option (List D)
 | .fr (.dct ks ds)=>if BJ ks=true then none else some (pairs ks ds)
 | _=>none
def runItems (f:ak→R Val) (ρ:ak):R (List D):=(f ρ).bind fun a ρ1=>o9 ((look ρ1 a).bind prE) ρ1
theorem Aa {C:Cs} {Z:ZX} {te:TE} {f:ak→R Val} (h:Impl C Z te f):ql C Z (Gn te) (runItems f):=by
 intro o F H σ ρ T Q S q
 unfold runItems at q
 rw [aA] at q
 refine h o F H σ ρ T _ S (au q (fun a ρ1 h1 F1 H1 v S1=>?_) fun _ _ h=>h)
 obtain ⟨ps,hp,q1⟩:=cD h1
 obtain ⟨e,l1,l2⟩:=dH hp
 have r:=S1.look (j:=0) (v:=v) rfl l1
 cases e with
 | fr d =>
  cases d with
  | dct ks ds =>
   unfold prE at l2
   by_cases hn:BJ ks=true
   ·simp only [if_pos hn] at l2; cases l2
   ·simp only [if_neg hn] at l2
    cases l2
    have r':∃a us vs,v=.ref a∧(BJ ks=true∨(PD F1 a us vs∧aN C.K F1 ks us∧aN C.K F1 ds vs)):=by simpa only [Rp,Dq] using r
    obtain ⟨a',us,vs,rfl,r2⟩:=r'
    obtain ⟨⟨ob,kz,rfl,k2,k3⟩,k4,k5⟩:=r2.resolve_left hn
    have ek:=wG k4
    refine ⟨a',ob,_,rfl,S1.sub _ _ k3,q1 F1 H1 _ S1.drop ?_⟩
    rw [ek]
    exact Pg k3 k2 k5
  | _=>cases l2
 | _=>cases l2
/-! ### both at once -/
section
variable {XR:cG} {M:Wd} {X:Cx} {C:Cs} {W:WX} {k:Nat} {N:List Str} {nm:List (Str × NameKind)} {fb:Str→Bool} {a b e x':Expr} {es:List Expr} {fa f:ak→R Val} {pos p tpos:Pos} {kk:Nat} {x:Str}
theorem JE.getD (G:Ctx M X C W k N nm fb) (ha:JE XR X C W a fa) (hb:JE XR X C W b f) (hs:NoSl b:=by intro _ _ _ _ z; cases z):JE XR X C W (.Subscript a b pos) (aY Pb fa f):=by
 obtain ⟨ta,a1,a2⟩:=ha
 obtain ⟨tb,b1,b2⟩:=hb
 have hu:X.A.units+1<cLine:=by have:=G.un; omega
 exact ⟨_,pe_dget hu a1 b1 hs,nU YC a2 b2⟩
theorem JI.items (G:Ctx M X C W k N nm fb) {ap cp:Pos} (h:JE XR X C W e f) (hbase:attributeBase e "items" X.env (eval e X.env)=eval e X.env:=by rfl) (hline:(ap.endLine == cp.line)=true:=by rfl) :
  JI XR X C W (.Tuple es kk tpos) (.Call (.Attribute e "items" ap) [] [] cp) (runItems f):=by
 obtain ⟨t,h1,h2⟩:=h
 exact ⟨_,Je h1 hbase hline,Aa h2⟩
end
end DM
end
section
namespace DM
open PySem PySem.Spec PyProof.Rows L2
section
variable {X:Cx}
end
section
variable {XR:cG} {M:Wd} {X:Cx} {C:Cs} {W:WX} {k:Nat} {N:List Str} {nm:List (Str × NameKind)} {fb:Str→Bool} {e:Expr} {f:ak→R Val} {pos p:Pos} {x:Str}
end
end DM
end
section
set_option maxHeartbeats 1000000
namespace DM
open PySem PySem.Spec PyProof.Rows L2
section
variable {X:Cx} {a b:Expr} {rest:List Expr} {pos:Pos} {ta tb:TE}
end
section
variable {C:Cs} {Z:ZX}
end
section
variable {XR:cG} {M:Wd} {X:Cx} {C:Cs} {W:WX} {k:Nat} {N:List Str} {nm:List (Str × NameKind)} {fb':Str→Bool} {a b:Expr} {es:List Expr} {fa f:ak→R Val} {pos:Pos}
end
end DM
end
section
set_option maxHeartbeats 1000000
namespace DM
open PySem PySem.Spec PyProof.Rows L2
section
variable {C:Cs} {Z:ZX}
end
section
variable {XR:cG} {M:Wd} {X:Cx} {C:Cs} {W:WX} {k:Nat} {N:List Str} {nm:List (Str × NameKind)} {fb:Str→Bool} {tg a b c:Expr} {fa fb' fc:ak→R Val} {pos p:Pos}
end
end DM
end
section
namespace DM
open PySem PySem.Spec PyProof.Rows L2
def WR:List Nat→TA
 | []=>tNil
 | i::is=>tCons (tVar i) (WR is)
section
variable {C:Cs} {XR:cG} {W:WX}
end
/-! ### on text and data at once -/
section
variable {M:Wd} {X:Cx} {C:Cs} {W:WX} {k:Nat} {N:List Str} {nm:List (Str × NameKind)} {fb:Str→Bool} {XR:cG} {e:Expr} {es:List Expr} {pos p:Pos} {x:Str}
def JN (X:Cx) (es:List Expr) (is:List Nat):Prop:=PA X es (WR is)
theorem JN.nil:JN X [] []:=pa_nil
theorem JN.cons {is:List Nat} (G:Ctx M X C W k N nm fb) (i:Nat) (hi:(N[i]? == some x)=true) (hv:vQ nm x=true) (hs:JN X es is) (h:starEach ((.Name x pos)::es) X.env=(false,eval (.Name x pos) X.env)::starEach es X.env:=by rfl):JN X (.Name x pos::es) (i::is):=by
 obtain ⟨h1,h2,h3⟩:=jH G hv
 exact pa_cons (pe_var (by rw [G.hN]; exact beq_iff_eq.mp hi) h1 h2 h3) hs h
variable {fd:FuncData} {ps:List Str} {fA:Addr} {np n:Nat} {perm cs is:List Nat} {run:List En→R En}
end
end DM
end
section
namespace DM
open PySem PySem.Spec PyProof.Rows L2
mutual
theorem Uq:∀(d:D) (k:NestedKey),dZ d=some k→R9 k=true
 | .non,k,e=>by cases e; rfl
 | .int i,k,e=>by cases e; rfl
 | .tup ds,k,e=>by
  obtain ⟨ks,h,rfl⟩:=Option.map_eq_some_iff.mp e
  exact Ab ds ks h
 | .bl _,k,e=>by cases e
 | .str _,k,e=>by cases e
 | .lst _,k,e=>by cases e
 | .dct _ _,k,e=>by cases e
 | .xJ _ _,k,e=>by cases e
theorem Ab:∀(ds:List D) (ks:List NestedKey),dJ ds=some ks→nkIs ks=true
 | [],ks,e=>by cases e; rfl
 | d::ds,ks,e=>by
  have e':(match dZ d,dJ ds with | some k,some ks=>some (k::ks) | _,_=>none)=some ks:=e
  cases h1:dZ d with
  | none=>rw [h1] at e'; cases e'
  | some k =>
   cases h2:dJ ds with
   | none=>rw [h1,h2] at e'; cases e'
   | some r =>
    rw [h1,h2] at e'
    cases e'
    show (R9 k&&nkIs r)=true
    rw [Uq d k h1,Ab ds r h2]
    rfl
end
section
variable {P:Program} {w:World} {K:PySem.W.Frag} {F H:Hp} {h:Heap}
mutual
theorem Jf (ok:HOk P w H h) (s:Ext F H):∀(d:D) (k:NestedKey) (v:V) (u:Value),dZ d=some k→Dq K F d v→RelV v u→NestedIs h k u
 | .non,k,v,u,e,r,rv=>by
  cases e
  simp only [Dq] at r
  subst r
  obtain rfl:u=Value.none:=rv
  exact .none
 | .int i,k,v,u,e,r,rv=>by
  cases e
  simp only [Dq] at r
  subst r
  obtain ⟨t,rfl⟩:∃t,u=Value.int i t:=rv
  exact .int i t
 | .tup ds,k,v,u,e,r,rv=>by
  obtain ⟨ks,h1,rfl⟩:=Option.map_eq_some_iff.mp e
  simp only [Dq] at r
  obtain ⟨a,vs,rfl,⟨o,_,ha⟩,hd⟩:=r
  obtain rfl:u=Value.ref a:=rv
  obtain ⟨_,z,its,rv,ob,g1,g2,n,g3⟩:=ok a _ (s _ _ ha)
  exact .tup g1 g2 g3 (sS ok s ds ks vs its h1 hd rv)
 | .bl _,k,_,_,e,_,_=>by cases e
 | .str _,k,_,_,e,_,_=>by cases e
 | .lst _,k,_,_,e,_,_=>by cases e
 | .dct _ _,k,_,_,e,_,_=>by cases e
 | .xJ _ _,k,_,_,e,_,_=>by cases e
theorem sS (ok:HOk P w H h) (s:Ext F H):∀(ds:List D) (ks:List NestedKey) (vs:List V) (us:List Value),dJ ds=some ks→aN K F ds vs→Vals vs us→NestedAll h ks us
 | [],ks,vs,us,e,r,rv=>by
  cases e
  have:=r.nil_iff
  subst this
  cases rv
  exact .nil
 | d::ds,ks,vs,us,e,r,rv=>by
  have e':(match dZ d,dJ ds with | some k,some ks=>some (k::ks) | _,_=>none)=some ks:=e
  cases h1:dZ d with
  | none=>rw [h1] at e'; cases e'
  | some k =>
   cases h2:dJ ds with
   | none=>rw [h1,h2] at e'; cases e'
   | some q =>
    rw [h1,h2] at e'
    cases e'
    obtain ⟨v,vr,rfl,r1,r2⟩:=r.uncons
    cases rv with
    | cons x1 x2=>exact .cons (Jf ok s d k v _ h1 r1 x1) (sS ok s ds q vr _ h2 r2 x2)
end
end
/-! ### look-ups on data -/
section
variable {X:Cx} {pins:List (Addr × Obj)} {σ:L2.St} {H:Hp} {s:Shared} {a:Addr} {zs:List NestedKey} {us vs:List V} {K:PySem.W.Frag}
end
/-! ### d[k], k in d -/
section
variable {X:Cx}
end
/-! on data -/
section
variable {K:PySem.W.Frag} {F H:Hp} {e:En} {x:V}
end
end DM
end
section
namespace DM
open PySem PySem.Spec PyProof.Rows L2
/-! ### d[k] = v -/
def Ur (zs:List NestedKey) (k:NestedKey):Bool:=zs.any fun z=>decide (z=k)
def Jg:List NestedKey→List V→NestedKey→V→List V
 | z::zs,v::vs,k,y=>(if z=k then y else v)::Jg zs vs k y
 | _,_,_,_=>[]
section
variable {X:Cx}
end
/-! on data -/
def YF (ks:List D) (k:NestedKey):Bool:=ks.any fun x=>decide (qI x=some k)
def Ph:List D→List D→NestedKey→D→List D
 | x::ks,d::ds,k,e=>(if qI x=some k then e else d)::Ph ks ds k e
 | _,_,_,_=>[]
def putN (p:List D × List D) (k:NestedKey) (kd e:D):List D × List D:=if YF p.1 k=true then (p.1,Ph p.1 p.2 k e) else (p.1++[kd],p.2++[e])
theorem wH {k:NestedKey}:∀{ks:List D} {zs:List NestedKey},ks.map qI=zs.map some→YF ks k=Ur zs k
 | [],[],_=>rfl
 | [],_::_,e=>by cases e
 | _::_,[],e=>by cases e
 | x::ks,z::zs,e=>by
  rw [List.map_cons,List.map_cons] at e
  injection e with e1 e2
  show (decide (qI x=some k) || YF ks k)=(decide (z=k) || Ur zs k)
  rw [wH e2,e1]
  congr 1
  by_cases c:z=k
  ·rw [decide_eq_true c,decide_eq_true (by rw [c])]
  ·rw [decide_eq_false c,decide_eq_false (fun q=>c (Option.some.inj q))]
theorem Ac {K:PySem.W.Frag} {F:Hp} {k:NestedKey} {e:D} {y:V} (r:Dq K F e y):∀{ks:List D} {zs:List NestedKey} {ds:List D} {vs:List V},ks.map qI=zs.map some→aN K F ds vs→zs.length=vs.length→aN K F (Ph ks ds k e) (Jg zs vs k y)∧(Jg zs vs k y).length=vs.length
 | [],[],ds,vs,_,h,hl=>by
  have:vs=[]:=List.length_eq_zero_iff.mp hl.symm
  subst this
  exact ⟨.nil,rfl⟩
 | [],_::_,_,_,e,_,_=>by cases e
 | _::_,[],_,_,e,_,_=>by cases e
 | x::ks,z::zs,[],vs,_,h,hl=>by
  have:=h.nil_iff
  subst this
  cases hl
 | x::ks,z::zs,d::ds,vs,e,h,hl=>by
  obtain ⟨v,w,rfl,h1,h2⟩:=h.uncons
  rw [List.map_cons,List.map_cons] at e
  injection e with e1 e2
  obtain ⟨ih,il⟩:=Ac (k:=k) r e2 h2 (by simpa using hl)
  constructor
  ·show aN K F ((if qI x=some k then _ else d)::Ph ks ds k _) ((if z=k then y else v)::Jg zs w k y)
   rw [e1]
   by_cases c:z=k
   ·rw [if_pos (by rw [c]),if_pos c]
    exact .cons r ih
   ·rw [if_neg (fun q=>c (Option.some.inj q)),if_neg c]
    exact .cons h1 ih
  ·show (Jg zs w k y).length+1=w.length+1
   rw [il]
section
variable {C:Cs} {Z:ZX}
end
section
variable {XR:cG} {M:Wd} {X:Cx} {C:Cs} {W:WX} {k:Nat} {N:List Str} {nm:List (Str × NameKind)} {fb:Str→Bool} {e:Expr} {f:ak→R Val} {pos p:Pos} {x:Str}
end
end DM
end
section
namespace DM
open PySem PySem.Spec PyProof.Rows L2
/-! akO: sorted(set(xs)), xs a list of ints -/
abbrev acB (w:World):Obj:={ cls:=.type "set",dict:=none,data:=.set #[] 0 (.fresh 0 0 (!w.params.followText "set-order")) }
section
variable {P:Program} {A:Around} {w:World} {s:Shared} {E:Value→Shared→Prop}
end
section
variable {M:Wd} {XR:cG} {X:Cx} {C:Cs} {W:WX} {k:Nat} {N:List Str} {nm:List (Str × NameKind)} {fb:Str→Bool}
end
end DM
end
section
namespace DM
open PySem PySem.Spec PyProof.Rows L2
/-! akP: which of two states comes first: pairs of tuples of ints -/
section
variable {A:Around} {s:Shared} {l b:Addr} {its its2:List Value} {ns ms:List Int}
end
section
variable {A:Around} {s:Shared} {p q a b c d:Addr} {i1 i2 j1 j2:List Value} {n1 n2 m1 m2:List Int}
end
/-! on data -/
section
variable {X:Cx}
end
end DM
end
section
namespace DM
open PySem PySem.Spec PyProof.Rows L2
/-! ### by their ints in a row -/
mutual
def Us:NestedKey→List Int
 | .num i=>[i]
 | .tup ks=>tU ks
 | .none=>[]
 | .text _=>[]
def tU:List NestedKey→List Int
 | []=>[]
 | k::ks=>Us k++tU ks
end
mutual
def sU:NestedKey→NestedKey→Bool
 | .num _,.num _=>true
 | .tup a,.tup b=>lB a b
 | _,_=>false
def lB:List NestedKey→List NestedKey→Bool
 | [],[]=>true
 | a::as,b::bs=>sU a b&&lB as bs
 | _,_=>false
end
mutual
theorem Gp:∀{a b:NestedKey},sU a b=true→(Us a).length=(Us b).length
 | .num _,.num _,_=>rfl
 | .tup a,.tup b,h=>Ad (a:=a) (b:=b) h
 | .num _,.tup _,h=>by cases h
 | .tup _,.num _,h=>by cases h
 | .none,_,h=>by cases h
 | .text _,_,h=>by cases h
 | .num _,.none,h=>by cases h
 | .num _,.text _,h=>by cases h
 | .tup _,.none,h=>by cases h
 | .tup _,.text _,h=>by cases h
theorem Ad:∀{a b:List NestedKey},lB a b=true→(tU a).length=(tU b).length
 | [],[],_=>rfl
 | [],_::_,h=>by cases h
 | _::_,[],h=>by cases h
 | a::as,b::bs,h=>by
  have h:(sU a b&&lB as bs)=true:=h
  rw [Bool.and_eq_true] at h
  show (Us a++tU as).length=(Us b++tU bs).length
  rw [List.length_append,List.length_append,Gp h.1,Ad h.2]
end
mutual
theorem Ut:∀{a b:NestedKey},sU a b=true→Us a=Us b→a=b
 | .num i,.num j,_,e=>by
  have e:[i]=[j]:=e
  rw [(List.cons.inj e).1]
 | .tup a,.tup b,h,e=>by rw [Ae (a:=a) (b:=b) h e]
 | .num _,.tup _,h,_=>by cases h
 | .tup _,.num _,h,_=>by cases h
 | .none,_,h,_=>by cases h
 | .text _,_,h,_=>by cases h
 | .num _,.none,h,_=>by cases h
 | .num _,.text _,h,_=>by cases h
 | .tup _,.none,h,_=>by cases h
 | .tup _,.text _,h,_=>by cases h
theorem Ae:∀{a b:List NestedKey},lB a b=true→tU a=tU b→a=b
 | [],[],_,_=>rfl
 | [],_::_,h,_=>by cases h
 | _::_,[],h,_=>by cases h
 | a::as,b::bs,h,e=>by
  have h:(sU a b&&lB as bs)=true:=h
  rw [Bool.and_eq_true] at h
  have e:Us a++tU as=Us b++tU bs:=e
  have l:=Gp h.1
  obtain ⟨e1,e2⟩:=List.append_inj e l
  rw [Ut h.1 e1,Ae h.2 e2]
end
mutual
inductive qM (h:Heap):NestedKey→Value→Prop
 | int (i t):qM h (.num i) (.int i t)
 | tup {a o vs n ks}:h.get? a=some o→o.cls=.type "tuple"→o.data=.seq vs n→iH h ks vs.toList→qM h (.tup ks) (.ref a)
inductive iH (h:Heap):List NestedKey→List Value→Prop
 | nil:iH h [] []
 | cons {k v ks vs}:qM h k v→iH h ks vs→iH h (k::ks) (v::vs)
end
mutual
theorem qM.nested {h:Heap}:∀{k:NestedKey} {v:Value},qM h k v→NestedIs h k v
 | .num _,_,x=>by cases x; exact .int _ _
 | .tup ks,_,x=>by
  cases x with
  | tup h1 h2 h3 h4=>exact .tup h1 h2 h3 (iH.nested h4)
 | .none,_,x=>by cases x
 | .text _,_,x=>by cases x
theorem iH.nested {h:Heap}:∀{ks:List NestedKey} {vs:List Value},iH h ks vs→NestedAll h ks vs
 | [],_,x=>by cases x; exact .nil
 | k::ks,_,x=>by
  cases x with
  | cons h1 h2=>exact .cons (qM.nested h1) (iH.nested h2)
end
mutual
theorem qM.at {h h':Heap} (hk:∀a o vs n,h.get? a=some o→o.data=.seq vs n→h'.get? a=some o):∀{k:NestedKey} {v:Value},qM h k v→qM h' k v
 | .num _,_,x=>by cases x; exact .int _ _
 | .tup ks,_,x=>by
  cases x with
  | tup h1 h2 h3 h4=>exact .tup (hk _ _ _ _ h1 h3) h2 h3 (iH.at hk h4)
 | .none,_,x=>by cases x
 | .text _,_,x=>by cases x
theorem iH.at {h h':Heap} (hk:∀a o vs n,h.get? a=some o→o.data=.seq vs n→h'.get? a=some o):∀{ks:List NestedKey} {vs:List Value},iH h ks vs→iH h' ks vs
 | [],_,x=>by cases x; exact .nil
 | k::ks,_,x=>by
  cases x with
  | cons h1 h2=>exact .cons (qM.at hk h1) (iH.at hk h2)
end
end DM
end
section
namespace DM
open PySem PySem.Spec PyProof.Rows L2
/-! ### permutations of rows -/
mutual
theorem key_inj:∀(d e:D) (k:NestedKey),dZ d=some k→dZ e=some k→d=e
 | .non,e,k,h1,h2=>by
  cases h1
  cases e with
  | non=>rfl
  | tup ds=>obtain ⟨_,_,z⟩:=Option.map_eq_some_iff.mp h2; cases z
  | _=>cases h2
 | .int i,e,k,h1,h2=>by
  cases h1
  cases e with
  | int j=>cases h2; rfl
  | tup ds=>obtain ⟨_,_,z⟩:=Option.map_eq_some_iff.mp h2; cases z
  | _=>cases h2
 | .tup ds,e,k,h1,h2=>by
  obtain ⟨ks,q1,rfl⟩:=Option.map_eq_some_iff.mp h1
  cases e with
  | tup es =>
   obtain ⟨ks',q2,z⟩:=Option.map_eq_some_iff.mp h2
   cases z
   rw [Af ds es ks q1 q2]
  | _=>cases h2
 | .bl _,_,k,h1,_=>by cases h1
 | .str _,_,k,h1,_=>by cases h1
 | .lst _,_,k,h1,_=>by cases h1
 | .dct _ _,_,k,h1,_=>by cases h1
 | .xJ _ _,_,k,h1,_=>by cases h1
theorem Af:∀(ds es:List D) (ks:List NestedKey),dJ ds=some ks→dJ es=some ks→ds=es
 | [],es,ks,h1,h2=>by
  cases h1
  cases es with
  | nil=>rfl
  | cons e es =>
   have h2:(match dZ e,dJ es with | some k,some ks=>some (k::ks) | _,_=>none)=some []:=h2
   cases a:dZ e with
   | none=>rw [a] at h2; cases h2
   | some _ =>
    cases b:dJ es with
    | none=>rw [a,b] at h2; cases h2
    | some _=>rw [a,b] at h2; cases h2
 | d::ds,es,ks,h1,h2=>by
  have h1:(match dZ d,dJ ds with | some k,some ks=>some (k::ks) | _,_=>none)=some ks:=h1
  cases a:dZ d with
  | none=>rw [a] at h1; cases h1
  | some k =>
   cases b:dJ ds with
   | none=>rw [a,b] at h1; cases h1
   | some r =>
    rw [a,b] at h1
    cases h1
    cases es with
    | nil=>cases h2
    | cons e es =>
     have h2:(match dZ e,dJ es with | some k,some ks=>some (k::ks) | _,_=>none)=some (k::r):=h2
     cases a2:dZ e with
     | none=>rw [a2] at h2; cases h2
     | some k2 =>
      cases b2:dJ es with
      | none=>rw [a2,b2] at h2; cases h2
      | some r2 =>
       rw [a2,b2] at h2
       cases h2
       rw [key_inj d e _ a a2,Af ds es _ b b2]
end
open Classical in
noncomputable def keyV (h:Heap) (v:Value):NestedKey:=if x:∃k,qM h k v then x.choose else .none
section
variable {prog:Program} {w:World} {A:Around} {s:Shared}
end
/-! ### the rule -/
abbrev Row:=NestedKey × D × V
mutual
theorem acC {P:Program} {w:World} {K:PySem.W.Frag} {F H:Hp} {h:Heap} (ok:HOk P w H h) (s:Ext F H):∀(d:D) (k:NestedKey) (v:V) (u:Value),dZ d=some k→sU k k=true→Dq K F d v→L2.RelV v u→qM h k u
 | .non,k,v,u,e,hs,r,rv=>by cases e; cases hs
 | .int i,k,v,u,e,hs,r,rv=>by
  cases e
  simp only [Dq] at r
  subst r
  obtain ⟨t,rfl⟩:∃t,u=Value.int i t:=rv
  exact .int i t
 | .tup ds,k,v,u,e,hs,r,rv=>by
  obtain ⟨ks,h1,rfl⟩:=Option.map_eq_some_iff.mp e
  simp only [Dq] at r
  obtain ⟨a,vs,rfl,⟨o,_,ha⟩,hd⟩:=r
  obtain rfl:u=Value.ref a:=rv
  obtain ⟨_,z,its,rv,ob,g1,g2,n,g3⟩:=ok a _ (s _ _ ha)
  exact .tup g1 g2 g3 (Pj ok s ds ks vs its h1 hs hd rv)
 | .bl _,k,_,_,e,_,_,_=>by cases e
 | .str _,k,_,_,e,_,_,_=>by cases e
 | .lst _,k,_,_,e,_,_,_=>by cases e
 | .dct _ _,k,_,_,e,_,_,_=>by cases e
 | .xJ _ _,k,_,_,e,_,_,_=>by cases e
theorem Pj {P:Program} {w:World} {K:PySem.W.Frag} {F H:Hp} {h:Heap} (ok:HOk P w H h) (s:Ext F H):∀(ds:List D) (ks:List NestedKey) (vs:List V) (us:List Value),dJ ds=some ks→lB ks ks=true→aN K F ds vs→Vals vs us→iH h ks us
 | [],ks,vs,us,e,hs,r,rv=>by
  cases e
  have:=r.nil_iff
  subst this
  cases rv
  exact .nil
 | d::ds,ks,vs,us,e,hs,r,rv=>by
  have e':(match dZ d,dJ ds with | some k,some ks=>some (k::ks) | _,_=>none)=some ks:=e
  cases h1:dZ d with
  | none=>rw [h1] at e'; cases e'
  | some k =>
   cases h2:dJ ds with
   | none=>rw [h1,h2] at e'; cases e'
   | some q =>
    rw [h1,h2] at e'
    cases e'
    have hs:(sU k k&&lB q q)=true:=hs
    rw [Bool.and_eq_true] at hs
    obtain ⟨v,vr,rfl,r1,r2⟩:=r.uncons
    cases rv with
    | cons x1 x2=>exact .cons (acC ok s d k v _ h1 hs.1 r1 x1) (Pj ok s ds q vr _ h2 hs.2 r2 x2)
end
section
variable {X:Cx}
end
/-! on data -/
end DM
end
section
namespace PySem
open PyProof.Rows
section
variable {prog:Program} {w:World} {K:Type} [DecidableEq K] {knd:HeapKind prog w K} {A:Around} {E:Value→Shared→Prop} {s:Shared}
end
end PySem
namespace DM
open PySem PySem.Spec PyProof.Rows L2
/-! ### {k: v} -/
section
variable {C:Cs} {Z:ZX}
end
/-! ### d.get(k, x) -/
section
variable {X:Cx}
end
section
variable {C:Cs} {Z:ZX}
end
/-! ### len(d) -/
section
variable {XR:cG} {M:Wd} {X:Cx} {C:Cs} {W:WX} {k:Nat} {N:List Str} {nm:List (Str × NameKind)} {fb:Str→Bool} {o a b e:Expr} {es:List Expr} {f fa:ak→R Val} {fs:ak→R (List Val)} {pos:Pos}
end
end DM
end
section
namespace DM
open PySem PySem.Spec PyProof.Rows L2
open Sem (wp)
/-! akQ: zip(xs, ys, zs, strict=True) -/
abbrev aeW (h:Heap) (z TI TO:Addr) (f0:Value):Prop:=h.get? z=some { cls:=.type "zip",dict:=none,data:=.fields #[f0,.bool false,.bool true,.ref TI,.ref TO],slots:=#[] }
section
variable {prog:Program} {w:World} {A:Around} {s:Shared} {E:Value→Shared→Prop} {i1:Addr} {fp1:List Addr} {n1 i:Nat} {P1:Nat→Value→Prop} {St1:Nat→Heap→Prop}
end
section
variable {prog:Program} {w:World} {A:Around} {s:Shared} {E:Value→Shared→Prop} {z TI TO i1 i2 i3:Addr} {fp1 fp2 fp3:List Addr} {n1 n2 n3 i:Nat} {P1 P2 P3:Nat→Value→Prop} {St1 St2 St3:Nat→Heap→Prop} {a1 a2 a3:Value}
end
abbrev akR (h:Heap) (o1 o2 o3:Obj):Heap:=(gzO3 h o1 o2 o3).push { cls:=.type "zip",data:=.fields #[.none,.bool false,.bool true,.ref (((h.push o1).push o2).push o3).objs.size,.ref (gzT3 h o1 o2 o3).objs.size] }
section
variable {prog:Program} {w:World} {A :
   Around} {E:Value→Shared→Prop} {s:Shared}
end
end DM
end
section
namespace DM
open PySem PySem.Spec PyProof.Rows L2
open Sem (wp)
/-! akS: the end of zip(xs, ys, zs, strict=True); the walk -/
section
variable {prog:Program} {w:World} {A:Around} {s:Shared} {E:Value→Shared→Prop} {z TI TO i1 i2 i3:Addr} {fp1 fp2 fp3:List Addr} {n1 n2 n3 i:Nat} {P1 P2 P3:Nat→Value→Prop} {St1 St2 St3:Nat→Heap→Prop} {a1 a2 a3:Value}
end
end DM
end
section
set_option maxHeartbeats 800000
namespace DM
open PySem PySem.Spec PyProof.Rows L2
/-! akT: a walk over zip(xs, ys, zs, strict=True) -/
section
variable {prog:Program} {w:World} {A:Around} {s:Shared} {E:Value→Shared→Prop}
section
variable {elts:List Expr} {k i:Nat} {pos:Pos} {z TI TO i1 i2 i3:Addr} {fp1 fp2 fp3:List Addr} {n1 n2 n3:Nat} {P1 P2 P3:Nat→Value→Prop} {St1 St2 St3:Nat→Heap→Prop} {a1 a2 a3:Value}
end
end
end DM
end
section
set_option maxHeartbeats 800000
namespace DM
open PySem PySem.Spec PyProof.Rows L2
/-! akU: zip(xs, ys, zs, strict=True) on data -/
section
variable {C:Cs} {Z:ZX}
end
section
variable {XR:cG} {M:Wd} {X:Cx} {C:Cs} {W:WX} {k:Nat} {N:List Str} {nm:List (Str × NameKind)} {fb:Str→Bool} {e e2 e3:Expr} {f f2 f3:ak→R Val} {es:List Expr} {pos p tpos cp kp:Pos} {kk j:Nat}
end
end DM
end
section
set_option maxHeartbeats 1000000
namespace DM
open PySem L2
def Exc (run:List En→R En) (es:List En) (x:Ex):Prop:=∃ρ,run es=.exc x ρ
theorem lO {n:Nat} {q:List Nat} (h:aX n q) {i j c:Nat} (h1:q[i]?=some c) (h2:q[j]?=some c):i=j:=(List.getElem?_inj (List.getElem?_eq_some_iff.mp h1).1 h.2.1).mp (h1.trans h2.symm)
end DM
end
section
set_option maxHeartbeats 1000000
namespace DM
open PySem L2
/-! how often each two people pass one another, the law's own way -/
end DM
end
section
set_option maxHeartbeats 1000000
namespace DM
open PySem L2
/-! the two aed, whatever they raise -/
end DM
end
section
set_option maxHeartbeats 1000000
namespace DM
open PySem L2
/-! how far apart, the law's own way -/
end DM
end
section
set_option maxHeartbeats 1000000
namespace DM
open PySem L2
/-! other numbers for the people -/
section
variable {n:Nat} {π q q2:List Nat} {bs b2:List Int}
def ps (G:Nat→Nat→Int):List Nat→Int
 | []=>0
 | a::l=>(l.map (G a)).sum+ps G l
end
end DM
end
section
set_option maxHeartbeats 1000000
namespace DM
open PySem L2
/-! the law's loop as a beginning; tuples put together -/
end DM
end
section
set_option maxHeartbeats 1000000
namespace DM
open PySem L2
/-! one rich person goes past all others, who sit aeX: plain law -/
section
variable {n l:Nat} {q:List Nat} {S e T:Int}
theorem Uu (hs:aX n q) {w:Nat} (hw:w<n):q.getD w 0<n:=by
 have e:=List.getElem?_eq_getElem (show w<q.length by rw [hs.1]; exact hw)
 rw [getD_at e]
 exact hs.2.2 _ (List.getElem_mem _)
end
end DM
end
section
set_option maxHeartbeats 1000000
namespace DM
open PySem PySem.Spec PyProof.Rows L2
/-! values of any kind -/
theorem Uv {m:Nat} {s:Str} (h:PyData.strOk s=true) (hl:s.cps.size≤m):xK m (.str s):=by
 refine ⟨?_,?_,?_⟩
 ·simp only [toP,PyData.showable]
 ·exact PyData.leavesShort_of_canLay0 200 _ (by simpa only [toP,PyData.canLay0] using h) (by simp only [toP,PyData.intsShort])
 ·simp only [toP,PyData.bulk]
  exact hl
def Leaf (N:Nat) (d:D):Prop:=(∃i,d=.int i∧i.natAbs<N)∨(∃b,d=.bl b)∨d=.non∨∃s,d=.str s∧PyData.strOk s=true∧s.cps.size≤100
def Vl (N:Nat):Nat→D→Prop
 | 0,d=>Leaf N d
 | n+1,d=>Leaf N d∨∃xs,Sq d xs∧∀x∈xs,Vl N n x
mutual
def wt:D→Nat
 | .lst xs=>wts xs
 | .tup xs=>wts xs
 | _=>100
def wts:List D→Nat
 | []=>0
 | x::xs=>wt x+1+wts xs
end
theorem acD {d:D} {xs:List D} (h:Sq d xs):wt d=wts xs:=by
 rcases h with rfl | rfl
 ·unfold wt; rfl
 ·unfold wt; rfl
section
variable {N n:Nat} {d:D}
theorem Leaf.vl (h:Leaf N d):Vl N n d:=by
 cases n with
 | zero=>exact h
 | succ n=>exact .inl h
theorem Leaf.fine (h:Leaf N d):Fine n d:=by
 rcases h with ⟨i,rfl,_⟩ | ⟨b,rfl⟩ | rfl | ⟨s,rfl,h,_⟩
 ·exact NQ _
 ·exact Ft _
 ·exact zq
 ·exact Oh h
theorem Leaf.wt (h:Leaf N d):DM.wt d=100:=by
 rcases h with ⟨i,rfl,_⟩ | ⟨b,rfl⟩ | rfl | ⟨s,rfl,h,_⟩ <;> (unfold DM.wt; rfl)
theorem Leaf.shw (h:Leaf N d) (hN:N≤10^100):xK 100 d:=by
 rcases h with ⟨i,rfl,hi⟩ | ⟨b,rfl⟩ | rfl | ⟨s,rfl,h,hl⟩
 ·exact vX (Nat.lt_of_lt_of_le hi hN)
 ·exact ⟨by simp only [toP,PyData.showable],PyData.leavesShort_of_canLay0 200 _ (Ft (n:=0) b).1 (by simp only [toP,PyData.intsShort]),by simp only [toP,PyData.bulk]; omega⟩
 ·exact ⟨by simp only [toP,PyData.showable],PyData.leavesShort_of_canLay0 200 _ (zq (n:=0)).1 (by simp only [toP,PyData.intsShort]),by simp only [toP,PyData.bulk]; omega⟩
 ·exact Uv h hl
end
theorem Vl.fine {N:Nat}:∀{n:Nat} {d:D},Vl N n d→Fine n d
 | 0,d,h=>Leaf.fine h
 | n+1,d,h=>by
  rcases h with h | ⟨xs,hs,hx⟩
  ·exact h.fine
  ·rcases hs with rfl | rfl
   ·exact Oa fun x hm=>Vl.fine (hx x hm)
   ·exact NZ fun x hm=>Vl.fine (hx x hm)
theorem Pk:∀{xs:List D},(∀x∈xs,xK (wt x) x)→PyData.showableAll (iU xs)=true∧PyData.leavesShortAll 200 (iU xs)=true∧PyData.bulkAll (iU xs)≤wts xs
 | [],_=>by simp [iU,PyData.showableAll,PyData.leavesShortAll,PyData.bulkAll]
 | x::xs,h=>by
  obtain ⟨h1,h2,h3⟩:=h x List.mem_cons_self
  obtain ⟨k1,k2,k3⟩:=Pk fun y hy=>h y (List.mem_cons_of_mem _ hy)
  unfold iU PyData.showableAll PyData.leavesShortAll PyData.bulkAll wts
  exact ⟨by rw [h1,k1]; rfl,by rw [h2,k2]; rfl,by omega⟩
theorem Vl.shw {N:Nat} (hN:N≤10^100):∀{n:Nat} {d:D},Vl N n d→xK (wt d) d
 | 0,d,h=>by
  have:=Leaf.shw h hN
  rw [Leaf.wt h]
  exact this
 | n+1,d,h=>by
  rcases h with h | ⟨xs,hs,hx⟩
  ·rw [h.wt]
   exact h.shw hN
  ·rw [acD hs]
   obtain ⟨k1,k2,k3⟩:=Pk (xs:=xs) fun x hm=>Vl.shw hN (hx x hm)
   rcases hs with rfl | rfl
   ·exact ⟨by unfold toP PyData.showable; exact k1,by unfold toP PyData.leavesShort; exact k2,by unfold toP PyData.bulk; exact k3⟩
   ·exact ⟨by unfold toP PyData.showable; exact k1,by unfold toP PyData.leavesShort; exact k2,by unfold toP PyData.bulk; exact k3⟩
theorem Vl.repr {N n:Nat} {d:D} {e:En} (h:Vl N n d) (hN:N≤10^100) (hn:n≤60) (hw:wt d≤50000) (he:asD e=some d) (hr:XF d=true):Mf [e]=⇑(txD d):=Oe he hr h.fine hn (h.shw hN) hw
theorem Leaf.up {N M:Nat} (hm:N≤M) {d:D} (h:Leaf N d):Leaf M d:=by
 rcases h with ⟨i,rfl,hi⟩ | h
 ·exact .inl ⟨i,rfl,by omega⟩
 ·exact .inr h
theorem Vl.up {N M:Nat} (hm:N≤M):∀{n k:Nat} {d:D},n≤k→Vl N n d→Vl M k d
 | 0,k,d,_,h=>(Leaf.up hm h).vl
 | n+1,0,d,hk,h=>by omega
 | n+1,k+1,d,hk,h=>by
  rcases h with h | ⟨xs,hs,hx⟩
  ·exact .inl (h.up hm)
  ·exact .inr ⟨xs,hs,fun x hx'=>Vl.up hm (by omega) (hx x hx')⟩
end DM
end
section
set_option maxHeartbeats 1000000
namespace DM
open PySem PySem.Spec PyProof.Rows L2
/-! anything -/
def Ag:List D:=[.non,(.bl true),(.bl false),(.int 0),(.int 1),(.int (-1)),(.int 1000000000000000000000000000000),(.str ""),(.str "0:1 1:0"),(.tup []),(.lst []),(.tup [(.tup []),(.tup [])]),(.tup [(.tup [(.int 0)]),(.tup [(.int 1)])]),(.tup [(.tup [(.int 0),(.int 1)]),(.tup [(.int 1),(.int 0)])])]
def anyB:List D:=[(.tup [(.tup [(.int 0),(.int 1)]),(.lst [(.int 1),(.int 0)])]),(.lst [(.tup [(.int 0),(.int 1)]),(.tup [(.int 1),(.int 0)])]),(.tup [(.tup [(.int 0),(.int 1)]),(.tup [(.int 1)])]),(.tup [(.tup [(.int 0),(.int 0)]),(.tup [(.int 1),(.int 0)])]),(.tup [(.tup [(.int 0),(.int 1)]),(.tup [(.int 1),(.int (-1))])])]
def anyC:List D:=[(.tup [(.int 0),(.int 1)]),(.lst [(.int 0),(.int 1)]),(.tup [(.tup [(.bl false),(.bl true)]),(.tup [(.int 1),(.int 0)])]),(.tup [(.tup [(.int 0),(.int 1)]),(.tup [(.bl true),(.int 0)])]),(.tup [(.tup [(.int 0),(.int 1)]),(.tup [(.int 1),(.int 0)]),(.tup [])])]
def aeY:List D:=[(.lst [(.int 0)]),(.lst [(.lst [(.int 0)])]),(.lst [(.bl true)])]
def aeZ:List D:=Ag++anyB++anyC++aeY
theorem an0 {a b c:Int}:(bV false 1 (aU (aj (runC .non) (aj (runC (.bl true)) (aj (runC (.bl false)) (aj (runC (.int 0)) (aj (runC (.int 1)) (aj (BL (g1I fun i => -i) (runC (.int 1))) (aj (aY aeB (runC (.int 10)) (runC (.int 30))) (aj (runC (.str "")) (aj (runC (.str "0:1 1:0")) (aj (aP ao) (aj (bL (aU ao)) (aj (aP (aj (aP ao) (aj (aP ao) ao))) (aj (aP (aj (aP (aj (runC (.int 0)) ao)) (aj (aP (aj (runC (.int 1)) ao)) ao))) (aj (aP (aj (aP (aj (runC (.int 0)) (aj (runC (.int 1)) ao))) (aj (aP (aj (runC (.int 1)) (aj (runC (.int 0)) ao))) ao))) ao)))))))))))))))) [some (.ol [.int a,.int b,.int c]),none]=.ok .nx [some (.ol [.int a,.int b,.int c]),⇑(.lst Ag)]:=by kernel_rfl
theorem an1 {a b c:Int}:(bV false 1 (aY dN (aq 1) (aU (aj (aP (aj (aP (aj (runC (.int 0)) (aj (runC (.int 1)) ao))) (aj (bL (aU (aj (runC (.int 1)) (aj (runC (.int 0)) ao)))) ao))) (aj (bL (aU (aj (aP (aj (runC (.int 0)) (aj (runC (.int 1)) ao))) (aj (aP (aj (runC (.int 1)) (aj (runC (.int 0)) ao))) ao)))) (aj (aP (aj (aP (aj (runC (.int 0)) (aj (runC (.int 1)) ao))) (aj (aP (aj (runC (.int 1)) ao)) ao))) (aj (aP (aj (aP (aj (runC (.int 0)) (aj (runC (.int 0)) ao))) (aj (aP (aj (runC (.int 1)) (aj (runC (.int 0)) ao))) ao))) (aj (aP (aj (aP (aj (runC (.int 0)) (aj (runC (.int 1)) ao))) (aj (aP (aj (runC (.int 1)) (aj (BL (g1I fun i => -i) (runC (.int 1))) ao))) ao))) ao)))))))) [some (.ol [.int a,.int b,.int c]),⇑(.lst Ag)]=.ok .nx [some (.ol [.int a,.int b,.int c]),⇑(.lst (Ag++anyB))]:=by kernel_rfl
theorem an2 {a b c:Int}:(bV false 1 (aY dN (aq 1) (aU (aj (aP (aj (runC (.int 0)) (aj (runC (.int 1)) ao))) (aj (bL (aU (aj (runC (.int 0)) (aj (runC (.int 1)) ao)))) (aj (aP (aj (aP (aj (runC (.bl false)) (aj (runC (.bl true)) ao))) (aj (aP (aj (runC (.int 1)) (aj (runC (.int 0)) ao))) ao))) (aj (aP (aj (aP (aj (runC (.int 0)) (aj (runC (.int 1)) ao))) (aj (aP (aj (runC (.bl true)) (aj (runC (.int 0)) ao))) ao))) (aj (aP (aj (aP (aj (runC (.int 0)) (aj (runC (.int 1)) ao))) (aj (aP (aj (runC (.int 1)) (aj (runC (.int 0)) ao))) (aj (aP ao) ao)))) ao)))))))) [some (.ol [.int a,.int b,.int c]),⇑(.lst (Ag++anyB))]=.ok .nx [some (.ol [.int a,.int b,.int c]),⇑(.lst (Ag++anyB++anyC))]:=by kernel_rfl
theorem an3 {a b c:Int}:(bL (aY dN (aq 1) (aU (aj (bL (aU (aj (runC (.int 0)) ao))) (aj (bL (aU (aj (bL (aU (aj (runC (.int 0)) ao))) ao))) (aj (bL (aU (aj (runC (.bl true)) ao))) ao)))))) [some (.ol [.int a,.int b,.int c]),⇑(.lst (Ag++anyB++anyC))]=.ok (.en (.fr (.lst aeZ))) [some (.ol [.int a,.int b,.int c]),⇑(.lst (Ag++anyB++anyC))]:=by kernel_rfl
end DM
end
section
set_option maxHeartbeats 1000000
namespace DM
open PySem PySem.Spec PyProof.Rows L2
/-! one thing changed -/
section
variable {cT cA cS:Nat} {cl:Nat→List En→R En}
end
end DM
end
section
set_option maxHeartbeats 1000000
namespace DM
open PySem PySem.Spec PyProof.Rows L2
/-! rows that are ways, or not -/
def Kd:D→Prop
 | .dct _ _=>False
 | .xJ _ _=>False
 | _=>True
theorem Yo.kd {n:Nat} {d:D} (h:Yo n d):Kd d:=by
 cases d with
 | dct a b =>
  exfalso
  cases n with
  | zero =>
   rcases h with ⟨i,h⟩ | ⟨b,h⟩ | h | ⟨s,h,_⟩ <;> cases h
  | succ n =>
   rcases h with (⟨i,h⟩ | ⟨b,h⟩ | h | ⟨s,h,_⟩) | ⟨xs,h,_⟩
   ·cases h
   ·cases h
   ·cases h
   ·cases h
   ·rcases h with h | h <;> cases h
 | xJ a b =>
  exfalso
  cases n with
  | zero =>
   rcases h with ⟨i,h⟩ | ⟨b,h⟩ | h | ⟨s,h,_⟩ <;> cases h
  | succ n =>
   rcases h with (⟨i,h⟩ | ⟨b,h⟩ | h | ⟨s,h,_⟩) | ⟨xs,h,_⟩
   ·cases h
   ·cases h
   ·cases h
   ·cases h
   ·rcases h with h | h <;> cases h
 | _=>trivial
end DM
end
section
set_option maxHeartbeats 1000000
namespace DM
open PySem PySem.Spec PyProof.Rows L2
/-! a value that may be asked -/
end DM
end
section
set_option maxHeartbeats 1000000
namespace DM
open PySem PySem.Spec PyProof.Rows L2
/-! states or not -/
end DM
end
section
set_option maxHeartbeats 1000000
namespace DM
open PySem PySem.Spec PyProof.Rows L2
/-! states or not: the program's answer and the law's -/
end DM
end
section
set_option maxHeartbeats 1000000
namespace DM
open PySem L2
/-! all the states along a row; a row that fails -/
section
variable {ca ce:Nat} {cl:Nat→List En→R En}
end
end DM
end
section
set_option maxHeartbeats 1000000
namespace DM
abbrev dh:=List Nat × List Int
abbrev YG:=Nat × Int
abbrev Ko:=List Nat × List (List YG)
def fmv (n:Nat) (s:dh) (c:Nat):dh :=
 ((s.1.set (s.1.idxOf c) (s.1.getD (s.1.idxOf ((c+1)%n)) 0)).set (s.1.idxOf ((c+1)%n)) (s.1.getD (s.1.idxOf c) 0),
  (s.2.set (s.1.idxOf c) (s.2.getD (s.1.idxOf c) 0 - 1)).set (s.1.idxOf ((c+1)%n)) (s.2.getD (s.1.idxOf ((c+1)%n)) 0+1))
def eE (n:Nat):List Nat→dh→dh
 | [],s=>s
 | c::cs,s=>eE n cs (fmv n s c)
theorem qF {n:Nat}:∀(a b:List Nat) (s:dh),eE n (a++b) s=eE n b (eE n a s)
 | [],_,_=>rfl
 | c::a,b,s=>qF a b (fmv n s c)
structure Fr (n:Nat) (s:dh):Prop where
 seats:aX n s.1
 len:s.2.length=n
theorem aX.get {n:Nat} {q:List Nat} (h:aX n q) {p:Nat} (hp:p<n):q.getD p 0<n∧q[p]?=some (q.getD p 0):=by
 have hl:=h.1
 have e:q[p]?=some (q[p]'(by omega)):=List.getElem?_eq_getElem (by omega)
 have e2:=getD_at (d:=0) e
 rw [e2]
 exact ⟨h.2.2 _ (List.getElem_mem _),e⟩
theorem aX.u5 {n:Nat} {q:List Nat} (h:aX n q) {p:Nat} (hp:p<n):q.idxOf (q.getD p 0)=p:=by
 obtain ⟨h1,h2⟩:=h.get hp
 exact lO h (h.idx h1).2 h2
theorem aX.jo {n:Nat} {q:List Nat} (h:aX n q) {c:Nat} (hc:c<n):q.getD (q.idxOf c) 0=c:=getD_at (h.idx hc).2
theorem lQ {α:Type} {l:List α} {p m:Nat} {u v d:α} (hp:p<l.length) (hm:m<l.length) (i:Nat):((l.set p u).set m v).getD i d=if i=m then v else if i=p then u else l.getD i d:=by
 rw [List.getD_eq_getElem?_getD,List.getD_eq_getElem?_getD]
 by_cases i1:i=m
 ·rw [if_pos i1,i1,List.getElem?_set_self (by rw [List.length_set]; exact hm)]
  rfl
 ·rw [if_neg i1,List.getElem?_set_ne (Ne.symm i1)]
  by_cases i2:i=p
  ·rw [if_pos i2,i2,List.getElem?_set_self hp]
   rfl
  ·rw [if_neg i2,List.getElem?_set_ne (Ne.symm i2)]
theorem sV {n:Nat} {q:List Nat} (h:aX n q) {p m:Nat} (hp:p<n) (hm:m<n) (hne:p≠m):aX n ((q.set p (q.getD m 0)).set m (q.getD p 0)):=by
 have a1:=(h.get hp).2
 have a2:=(h.get hm).2
 exact h.swap a1 a2 hne
section
variable {n:Nat} {s:dh} {c:Nat}
theorem pU (f:Fr n s) (h2:2≤n) (hc:c<n):Fr n (fmv n s c):=by
 have hd:(c+1)%n<n:=Nat.mod_lt _ (by omega)
 refine ⟨sV f.seats (f.seats.idx hc).1 (f.seats.idx hd).1 (f.seats.lA hc hd (next_ne h2 hc)),?_⟩
 show (List.set _ _ _).length=n
 rw [List.length_set,List.length_set]
 exact f.len
theorem wI (f:Fr n s) (h2:2≤n) (hc:c<n) {e:Nat} (he:e<n):(fmv n s c).1.idxOf e=if e=c then s.1.idxOf ((c+1)%n) else if e=(c+1)%n then s.1.idxOf c else s.1.idxOf e:=by
 have hd:(c+1)%n<n:=Nat.mod_lt _ (by omega)
 have f':=pU f h2 hc
 obtain ⟨i1,i2⟩:=f'.seats.idx he
 have hne:=f.seats.lA hc hd (next_ne h2 hc)
 have hl:=f.seats.1
 have key:∀j,j<n→(fmv n s c).1.getD j 0=e→(fmv n s c).1.idxOf e=j:=fun j hj h=>by
  rw [← h]
  exact f'.seats.u5 hj
 have g:=fun j=>lQ (l:=s.1) (p:=s.1.idxOf c) (m:=s.1.idxOf ((c+1)%n)) (u:=s.1.getD (s.1.idxOf ((c+1)%n)) 0) (v:=s.1.getD (s.1.idxOf c) 0) (d:=0) (by rw [hl]; exact (f.seats.idx hc).1) (by rw [hl]; exact (f.seats.idx hd).1) j
 by_cases e1:e=c
 ·rw [if_pos e1]
  refine key _ (f.seats.idx hd).1 ?_
  show (List.set _ _ _).getD _ 0=e
  rw [g,if_pos rfl,f.seats.jo hc,e1]
 ·rw [if_neg e1]
  by_cases e2:e=(c+1)%n
  ·rw [if_pos e2]
   refine key _ (f.seats.idx hc).1 ?_
   show (List.set _ _ _).getD _ 0=e
   rw [g,if_neg hne,if_pos rfl,f.seats.jo hd,e2]
  ·rw [if_neg e2]
   refine key _ (f.seats.idx he).1 ?_
   show (List.set _ _ _).getD _ 0=e
   rw [g,if_neg (f.seats.lA he hd e2),if_neg (f.seats.lA he hc e1),f.seats.jo he]
theorem eG (f:Fr n s) (h2:2≤n) (hc:c<n) (p:Nat):(fmv n s c).2.getD p 0=if p=s.1.idxOf ((c+1)%n) then s.2.getD p 0+1 else if p=s.1.idxOf c then s.2.getD p 0 - 1 else s.2.getD p 0:=by
 have hd:(c+1)%n<n:=Nat.mod_lt _ (by omega)
 have hl:=f.len
 show (List.set _ _ _).getD _ 0=_
 rw [lQ (by rw [hl]; exact (f.seats.idx hc).1) (by rw [hl]; exact (f.seats.idx hd).1)]
 by_cases e1:p=s.1.idxOf ((c+1)%n)
 ·rw [if_pos e1,if_pos e1,e1]
 ·rw [if_neg e1,if_neg e1]
  by_cases e2:p=s.1.idxOf c
  ·rw [if_pos e2,if_pos e2,e2]
  ·rw [if_neg e2,if_neg e2]
end
def tot (l:List YG):Int:=(l.map (·.2)).sum
def wst (n:Nat) (w:Ko) (i c:Nat):Ko :=
 ((w.1.set c (w.1.getD ((c+1)%n) 0)).set ((c+1)%n) (w.1.getD c 0),
  (w.2.set (w.1.getD c 0) (w.2.getD (w.1.getD c 0) []++[(i,-1)])).set (w.1.getD ((c+1)%n) 0) (w.2.getD (w.1.getD ((c+1)%n) 0) []++[(i,1)]))
def wat (n:Nat):Nat→List Nat→Ko→Ko
 | _,[],w=>w
 | i,c::cs,w=>wat n (i+1) cs (wst n w i c)
structure Wf (n:Nat) (w:Ko):Prop where
 seats:aX n w.1
 len:w.2.length=n
section
variable {n:Nat} {w:Ko} {i c:Nat}
theorem YH (f:Wf n w) (h2:2≤n) (hc:c<n):Wf n (wst n w i c):=by
 have hd:(c+1)%n<n:=Nat.mod_lt _ (by omega)
 refine ⟨sV f.seats hc hd (next_ne h2 hc),?_⟩
 show (List.set _ _ _).length=n
 rw [List.length_set,List.length_set]
 exact f.len
theorem YJ (f:Wf n w) (h2:2≤n) (hc:c<n) (e:Nat):(wst n w i c).1.getD e 0=if e=(c+1)%n then w.1.getD c 0 else if e=c then w.1.getD ((c+1)%n) 0 else w.1.getD e 0:=by
 have hd:(c+1)%n<n:=Nat.mod_lt _ (by omega)
 have hl:=f.seats.1
 show (List.set _ _ _).getD _ 0=_
 rw [lQ (by omega) (by omega)]
theorem Pn (f:Wf n w) (h2:2≤n) (hc:c<n):w.1.getD c 0≠w.1.getD ((c+1)%n) 0:=fun e=>by
 have hd:(c+1)%n<n:=Nat.mod_lt _ (by omega)
 have h1:=(f.seats.get hc).2
 rw [e] at h1
 exact next_ne h2 hc (lO f.seats h1 (f.seats.get hd).2)
theorem Uw (f:Wf n w) (h2:2≤n) (hc:c<n) (x:Nat):(wst n w i c).2.getD x []=w.2.getD x []++(if x=w.1.getD c 0 then [(i,-1)] else if x=w.1.getD ((c+1)%n) 0 then [(i,1)] else []):=by
 have hd:(c+1)%n<n:=Nat.mod_lt _ (by omega)
 have hl:=f.len
 have ne:=Pn f h2 hc
 show (List.set _ _ _).getD _ []=_
 rw [lQ (by rw [hl]; exact (f.seats.get hc).1) (by rw [hl]; exact (f.seats.get hd).1)]
 by_cases e1:x=w.1.getD ((c+1)%n) 0
 ·rw [if_pos e1,if_neg (fun z=>ne (z.symm.trans e1)),if_pos e1,e1]
 ·rw [if_neg e1]
  by_cases e2:x=w.1.getD c 0
  ·rw [if_pos e2,if_pos e2,e2]
  ·rw [if_neg e2,if_neg e2,if_neg e1,List.append_nil]
end
theorem Ux (a b:List YG):tot (a++b)=tot a+tot b:=by
 unfold tot
 rw [List.map_append,List.sum_append]
structure Rel (n:Nat) (s u:dh) (w:Ko):Prop where
 fr:Fr n u
 wf:Wf n w
 idx:∀c,c<n→u.1.idxOf c=s.1.idxOf (w.1.getD c 0)
 purse:∀p,p<n→u.2.getD p 0=s.2.getD p 0+tot (w.2.getD (s.1.getD p 0) [])
theorem Rel.step {n:Nat} {s u:dh} {w:Ko} {i c:Nat} (f:Fr n s) (h2:2≤n) (hc:c<n) (r:Rel n s u w):Rel n s (fmv n u c) (wst n w i c):=by
 have hd:(c+1)%n<n:=Nat.mod_lt _ (by omega)
 have hx:=(r.wf.seats.get hc).1
 have hy:=(r.wf.seats.get hd).1
 refine ⟨pU r.fr h2 hc,YH r.wf h2 hc,fun e he=>?_,fun p hp=>?_⟩
 ·rw [wI r.fr h2 hc he,YJ r.wf h2 hc]
  by_cases e1:e=c
  ·rw [if_pos e1,if_neg (fun z=>next_ne h2 hc (e1.symm.trans z)),if_pos e1,r.idx _ hd]
  ·rw [if_neg e1]
   by_cases e2:e=(c+1)%n
   ·rw [if_pos e2,if_pos e2,r.idx _ hc]
   ·rw [if_neg e2,if_neg e2,if_neg e1,r.idx _ he]
 ·rw [eG r.fr h2 hc,Uw r.wf h2 hc,Ux,r.idx _ hd,r.idx _ hc,r.purse p hp]
  have hi:∀x,x<n→(p=s.1.idxOf x↔s.1.getD p 0=x):=fun x hx=>⟨fun e=>by rw [e,f.seats.jo hx],fun e=>by rw [← e,f.seats.u5 hp]⟩
  have ne:=Pn r.wf h2 hc
  by_cases e1:p=s.1.idxOf (w.1.getD ((c+1)%n) 0)
  ·have k1:=(hi _ hy).mp e1
   rw [if_pos e1,if_neg (fun z=>ne (z.symm.trans k1)),if_pos k1]
   show _=_+(_+1)
   omega
  ·have k1:¬s.1.getD p 0=w.1.getD ((c+1)%n) 0:=fun z=>e1 ((hi _ hy).mpr z)
   rw [if_neg e1]
   by_cases e2:p=s.1.idxOf (w.1.getD c 0)
   ·have k2:=(hi _ hx).mp e2
    rw [if_pos e2,if_pos k2]
    show _=_+(_ + -1)
    omega
   ·have k2:¬s.1.getD p 0=w.1.getD c 0:=fun z=>e2 ((hi _ hx).mpr z)
    rw [if_neg e2,if_neg k2,if_neg k1]
    show _=_+(_+0)
    omega
def w0 (n:Nat):Ko:=(List.range n,List.replicate n [])
theorem qG (n:Nat):aX n (List.range n):=⟨List.length_range,List.nodup_range,fun k hk=>List.mem_range.mp hk⟩
theorem acE (n:Nat):Wf n (w0 n):=⟨qG n,List.length_replicate⟩
theorem range_getD {n c:Nat} (h:c<n):(List.range n).getD c 0=c:=getD_at (by rw [List.getElem?_range h])
theorem Pq {α:Type} (n:Nat) (a:α) (i:Nat):(List.replicate n a).getD i a=a:=by
 rw [List.getD_eq_getElem?_getD]
 by_cases h:i<n
 ·rw [List.getElem?_replicate,if_pos h]; rfl
 ·rw [List.getElem?_replicate,if_neg h]; rfl
theorem Rel.start {n:Nat} {s:dh} (f:Fr n s):Rel n s s (w0 n):=by
 refine ⟨f,acE n,fun c hc=>?_,fun p hp=>?_⟩
 ·show _=s.1.idxOf ((List.range n).getD c 0)
  rw [range_getD hc]
 ·show _=_+tot ((List.replicate n []).getD _ [])
  rw [Pq]
  show _=_+(0:Int)
  omega
theorem Rel.along {n:Nat} {s:dh} (f:Fr n s) (h2:2≤n):∀{cs:List Nat} {i:Nat} {u:dh} {w:Ko},(∀c∈cs,c<n)→Rel n s u w→Rel n s (eE n cs u) (wat n i cs w)
 | [],_,_,_,_,r=>r
 | c::cs,i,u,w,hc,r=>Rel.along (cs:=cs) (u:=fmv n u c) (w:=wst n w i c) f h2 (fun k hk=>hc k (List.mem_cons_of_mem _ hk)) (r.step f h2 (hc c List.mem_cons_self))
def wk (n:Nat) (row:List Nat) (k:Nat):Ko:=wat n 0 (row.take k) (w0 n)
theorem Pr {n:Nat} {s:dh} {row:List Nat} (f:Fr n s) (h2:2≤n) (hr:∀c∈row,c<n) (k:Nat):Rel n s (eE n (row.take k) s) (wk n row k):=(Rel.start f).along f h2 fun c hc=>hr c (List.mem_of_mem_take hc)
end DM
end
section
set_option maxHeartbeats 1000000
namespace DM
def Gq (n:Nat) (row:List Nat):Nat→dh→dh
 | 0,s=>s
 | t+1,s=>Gq n row t (eE n row s)
def payer (n:Nat) (row:List Nat) (s:dh) (i:Nat):Nat:=(eE n (row.take i) s).1.idxOf (row.getD i 0)
def CK (n:Nat) (row:List Nat) (s:dh) (i:Nat):Prop:=i<row.length∧(eE n (row.take i) s).2.getD (payer n row s i) 0<1
structure Fst (n:Nat) (row:List Nat) (s:dh) (t i p:Nat):Prop where
 poor:CK n row (Gq n row t s) i
 who:p=payer n row (Gq n row t s) i
 least:∀t' i',CK n row (Gq n row t' s) i'→t<t'∨(t=t'∧i≤i')
theorem acF {n:Nat} {row:List Nat} (h2:2≤n) (hr:∀c∈row,c<n) (k:Nat):Wf n (wk n row k):=(Pr (s:=(List.range n,List.replicate n 0)) ⟨qG n,List.length_replicate⟩ h2 hr k).wf
def Pu (E:List Nat):Nat→Nat→Nat
 | 0,x=>x
 | t+1,x=>Pu E t (E.getD x 0)
theorem wJ {E:List Nat}:∀(a b:Nat) (x:Nat),Pu E (a+b) x=Pu E b (Pu E a x)
 | 0,b,x=>by rw [Nat.zero_add]; rfl
 | a+1,b,x=>by
  rw [Nat.add_right_comm]
  exact wJ a b (E.getD x 0)
def sW (P:List (List YG)) (E:List Nat):Nat→Nat→Int
 | 0,_=>0
 | t+1,x=>tot (P.getD x [])+sW P E t (E.getD x 0)
theorem Ah {P:List (List YG)} {E:List Nat}:∀(a b:Nat) (x:Nat),sW P E (a+b) x=sW P E a x+sW P E b (Pu E a x)
 | 0,b,x=>by
  rw [Nat.zero_add]
  show _=0+sW P E b x
  omega
 | a+1,b,x=>by
  rw [Nat.add_right_comm]
  show _+sW P E (a+b) (E.getD x 0)=(_+sW P E a (E.getD x 0))+sW P E b (Pu E a (E.getD x 0))
  rw [Ah a b]
  omega
section
variable {n:Nat} {row:List Nat} {s:dh}
def lab (n:Nat) (row:List Nat) (i:Nat):Nat:=(wk n row i).1.getD (row.getD i 0) 0
theorem Px (hr:∀c∈row,c<n) {i:Nat} (hi:i<row.length):row.getD i 0<n:=by
 rw [List.getD_eq_getElem?_getD,List.getElem?_eq_getElem hi]
 exact hr _ (List.getElem_mem hi)
theorem YK (h2:2≤n) (hr:∀c∈row,c<n) {i:Nat} (hi:i<row.length):lab n row i<n:=((acF h2 hr i).seats.get (Px hr hi)).1
theorem Py (f:Fr n s) (h2:2≤n) (hr:∀c∈row,c<n) {i:Nat} (hi:i<row.length):payer n row s i=s.1.idxOf (lab n row i):=(Pr f h2 hr i).idx _ (Px hr hi)
theorem PB (f:Fr n s) (h2:2≤n) (hr:∀c∈row,c<n) {i:Nat} (hi:i<row.length):payer n row s i<n:=by
 rw [Py f h2 hr hi]
 exact (f.seats.idx (YK h2 hr hi)).1
end
/-! turns -/
structure Trn (E:List Nat) (x L:Nat):Prop where
 pos:0<L
 back:Pu E L x=x
 first:∀j,0<j→j<L→Pu E j x≠x
section
variable {E:List Nat} {P:List (List YG)} {x L:Nat}
theorem Trn.mul (t:Trn E x L):∀r,Pu E (r*L) x=x
 | 0=>by rw [Nat.zero_mul]; rfl
 | r+1=>by rw [Nat.succ_mul,wJ,t.mul r,t.back]
theorem Trn.at (t:Trn E x L) (r k:Nat):Pu E (r*L+k) x=Pu E k x:=by rw [wJ,t.mul r]
theorem Trn.sum (t:Trn E x L):∀(r k:Nat),sW P E (r*L+k) x=r*sW P E L x+sW P E k x
 | 0,k=>by simp
 | r+1,k=>by
  rw [Nat.succ_mul,Nat.add_assoc,Nat.add_comm L k,← Nat.add_assoc,Nat.add_comm (r*L+k) L,Ah,t.back,t.sum r k]
  rw [show (((r+1:Nat):Int))=(r:Int)+1 by omega,Int.add_mul]
  omega
end
end DM
end
section
set_option maxHeartbeats 1000000
namespace DM
section
variable {n:Nat} {row:List Nat} {s:dh} {p L:Nat}
end
/-! the least of rows of ints -/
end DM
end
section
set_option maxHeartbeats 1000000
namespace DM
open PySem L2
section
variable {w:Ko} {i c:Nat}
end
end DM
end
section
set_option maxHeartbeats 1000000
set_option exponentiation.threshold 10000
namespace DM
open PySem L2
section
variable {P:List (List YG)} {T:List Nat} {b loss C:Int} {acc:List D} {place i:Nat} {c:Int} {x7 x10:Option En}
end
end DM
end
section
set_option maxHeartbeats 1000000
set_option exponentiation.threshold 10000
namespace DM
open PySem L2
section
variable {n:Nat} {row:List Nat} {d dr:D}
end
end DM
end
section
set_option maxHeartbeats 1000000
set_option exponentiation.threshold 10000
namespace DM
open PySem L2
theorem Fst.same {n:Nat} {row:List Nat} {s:dh} {t i p t' i' p':Nat} (a:Fst n row s t i p) (b:Fst n row s t' i' p'):t=t'∧i=i'∧p=p':=by
 have h1:=a.least t' i' b.poor
 have h2:=b.least t i a.poor
 have e1:t=t':=by omega
 have e2:i=i':=by omega
 refine ⟨e1,e2,?_⟩
 rw [a.who,b.who,e1,e2]
section
variable {n many L x:Nat} {row:List Nat} {d dr e3:D} {c:Int} {A C:List D}
end
end DM
end
section
set_option maxHeartbeats 1000000
set_option exponentiation.threshold 10000
namespace DM
open PySem L2
end DM
end
section
set_option maxHeartbeats 1000000
set_option exponentiation.threshold 10000
namespace DM
open PySem L2
/-! the box -/
end DM
end
section
set_option maxHeartbeats 1000000
namespace DM
open PySem L2
theorem Gd.fr {n:Nat} {s:dh} (g:Gd n s.1 s.2):Fr n s:=⟨g.seats,g.len⟩
end DM
namespace DM
open PySem L2
end DM
end
section
set_option maxHeartbeats 1000000
namespace DM
open PySem L2
end DM
end
section
set_option maxHeartbeats 1000000
namespace DM
open PySem L2
structure Sh (n:Nat) (f:Nat→Int) (u v:dh):Prop where
 fu:Fr n u
 fv:Fr n v
 seats:u.1=v.1
 purse:∀p,p<n→u.2.getD p 0=f p+v.2.getD p 0
section
variable {n:Nat} {f:Nat→Int} {u v:dh}
theorem Sh.step (h:Sh n f u v) (h2:2≤n) {c:Nat} (hc:c<n):Sh n f (fmv n u c) (fmv n v c):=by
 refine ⟨pU h.fu h2 hc,pU h.fv h2 hc,?_,fun p hp=>?_⟩
 ·unfold fmv
  rw [h.seats]
 ·rw [eG h.fu h2 hc,eG h.fv h2 hc,h.seats,h.purse p hp]
  by_cases e1:p=v.1.idxOf ((c+1)%n)
  ·rw [if_pos e1,if_pos e1]; omega
  ·rw [if_neg e1,if_neg e1]
   by_cases e2:p=v.1.idxOf c
   ·rw [if_pos e2,if_pos e2]; omega
   ·rw [if_neg e2,if_neg e2]
theorem Sh.eE (h2:2≤n):∀{cs:List Nat} {u v:dh},Sh n f u v→(∀c∈cs,c<n)→Sh n f (eE n cs u) (eE n cs v)
 | [],_,_,h,_=>h
 | c::cs,u,v,h,hc=>Sh.eE h2 (cs:=cs) (h.step h2 (hc c List.mem_cons_self)) fun k hk=>hc k (List.mem_cons_of_mem _ hk)
theorem Sh.Gq {row:List Nat} (h2:2≤n) (hr:∀c∈row,c<n):∀(t:Nat) {u v:dh},Sh n f u v→Sh n f (Gq n row t u) (Gq n row t v)
 | 0,_,_,h=>h
 | t+1,u,v,h=>Sh.Gq h2 hr t (h.eE h2 hr)
theorem Sh.poor {row:List Nat} (h2:2≤n) (hr:∀c∈row,c<n) (h:Sh n f u v) (i:Nat):payer n row u i=payer n row v i∧(CK n row u i↔i<row.length∧f (payer n row v i)+(DM.eE n (row.take i) v).2.getD (payer n row v i) 0<1):=by
 have s:=h.eE h2 (cs:=row.take i) fun c hc=>hr c (List.mem_of_mem_take hc)
 have e:payer n row u i=payer n row v i:=by
  unfold payer
  rw [s.seats]
 refine ⟨e,?_⟩
 unfold CK
 rw [e]
 by_cases hi:i<row.length
 ·rw [s.purse _ (PB h.fv h2 hr hi)]
 ·exact ⟨fun z=>absurd z.1 hi,fun z=>absurd z.1 hi⟩
end
def zero (q:List Nat):dh:=(q,List.replicate q.length 0)
section
variable {n M:Nat} {row:List Nat} {s:dh}
def whole (n:Nat) (row q:List Nat) (M:Nat) (p:Nat):Int:=(Gq n row M (zero q)).2.getD p 0
end
end DM
end
section
set_option maxHeartbeats 1000000
namespace DM
open PySem L2
section
variable {n M:Nat} {row:List Nat} {s:dh}
end
end DM
end
section
set_option maxHeartbeats 1000000
namespace DM
open PySem L2
section
variable {cL:Nat} {cl:Nat→List En→R En} {n:Nat} {row:List Nat}
end
/-! the walk -/
section
variable {n:Nat} {row:List Nat} {s:dh} {m:Nat}
end
section
variable {cP:Nat} {cl:Nat→List En→R En} {n:Nat} {row:List Nat} {s:dh} {m:Nat} {x3 x4:Option En}
end
/-! what is drawn -/
section
variable {cp co cu ct:Nat} {cl:Nat→List En→R En}
end
end DM
end
section
set_option maxHeartbeats 1000000
namespace DM
structure Lay (n:Nat) (l:List Nat) (s:dh):Prop where
 fr:Fr n s
 len:l.length=n
 at':∀c,c<n→s.1.idxOf c=l.getD c 0
section
variable {n:Nat} {l:List Nat} {s:dh}
theorem Lay.seats (h:Lay n l s):aX n l:=by
 have e:l=(List.range n).map fun c=>s.1.idxOf c:=by
  refine List.ext_getElem? fun i=>?_
  by_cases hi:i<n
  ·rw [List.getElem?_map,List.getElem?_range hi,List.getElem?_eq_getElem (by rw [h.len]; exact hi)]
   show some _=some (s.1.idxOf i)
   rw [h.at' i hi,List.getD_eq_getElem?_getD,List.getElem?_eq_getElem (by rw [h.len]; exact hi)]
   rfl
  ·rw [List.getElem?_eq_none (by rw [h.len]; omega),List.getElem?_eq_none (by rw [List.length_map,List.length_range]; omega)]
 rw [e]
 refine IK (fun i hi=>(h.fr.seats.idx hi).1) fun i j hi hj hij=>?_
 by_cases q:i=j
 ·exact q
 ·exact absurd hij (h.fr.seats.lA hi hj q)
theorem Lay.seat (h:Lay n l s) {c:Nat} (hc:c<n):s.1.getD (l.getD c 0) 0=c:=by
 rw [← h.at' c hc]
 exact h.fr.seats.jo hc
structure Rou (n:Nat) (l:List Nat) (s u:dh) (i:Nat):Prop where
 fr:Fr n u
 at':∀c,c<n→u.1.idxOf c=if c<i then l.getD (c+1) 0 else if c=i then l.getD 0 0 else l.getD c 0
 YL:u.2.getD (l.getD 0 0) 0=s.2.getD (l.getD 0 0) 0 - i
 Uy:∀j,0<j→j<n→u.2.getD (l.getD j 0) 0=s.2.getD (l.getD j 0) 0+if j≤i then 1 else 0
theorem Lay.inj (h:Lay n l s) {i j:Nat} (hi:i<n) (hj:j<n) (e:l.getD i 0=l.getD j 0):i=j:=by
 have e1:=h.seat hi
 have e2:=h.seat hj
 rw [e] at e1
 exact e1.symm.trans e2
theorem sX (i:Nat):List.range (i+1)=List.range i++[i]:=List.range_succ
theorem u6 (cs:List Nat) (c:Nat) (s:dh):eE n (cs++[c]) s=fmv n (eE n cs s) c:=by
 rw [qF]
 rfl
theorem rou (h:Lay n l s) (h2:2≤n):∀i,i<n→Rou n l s (eE n (List.range i) s) i
 | 0,_=>⟨h.fr,fun c hc=>by
   rw [if_neg (by omega)]
   show s.1.idxOf c=_
   rw [h.at' c hc]
   by_cases e:c=0
   ·rw [if_pos e,e]
   ·rw [if_neg e],by show s.2.getD _ 0=_; simp,fun j h1 h2=>by rw [if_neg (by omega)]; show s.2.getD _ 0=_; omega⟩
 | i+1,hi=>by
  have r:=rou h h2 i (by omega)
  rw [sX,u6]
  generalize eE n (List.range i) s=u at r ⊢
  have m1:(i+1)%n=i+1:=Nat.mod_eq_of_lt hi
  have p1:u.1.idxOf i=l.getD 0 0:=by rw [r.at' i (by omega),if_neg (by omega),if_pos rfl]
  have p2:u.1.idxOf (i+1)=l.getD (i+1) 0:=by rw [r.at' (i+1) hi,if_neg (by omega),if_neg (by omega)]
  have ne:∀j:Nat,0<j→j<n→l.getD 0 0≠l.getD j 0:=fun j hj hjn e=>by
   have:=h.inj (show 0<n by omega) hjn e
   omega
  refine ⟨pU r.fr h2 (by omega),fun c hc=>?_,?_,fun j j0 jn=>?_⟩
  ·rw [wI r.fr h2 (by omega) hc,m1,p1,p2]
   by_cases c1:c=i
   ·rw [if_pos c1,if_pos (by omega),c1]
   ·rw [if_neg c1]
    by_cases c2:c=i+1
    ·rw [if_pos c2,if_neg (by omega),if_pos c2]
    ·rw [if_neg c2,r.at' c hc]
     by_cases c3:c<i
     ·rw [if_pos c3,if_pos (by omega)]
     ·rw [if_neg c3,if_neg c1,if_neg (by omega),if_neg c2]
  ·rw [eG r.fr h2 (by omega),m1,p1,p2,if_neg (ne (i+1) (by omega) hi),if_pos rfl,r.YL]
   omega
  ·rw [eG r.fr h2 (by omega),m1,p1,p2]
   by_cases c1:j=i+1
   ·rw [if_pos (by rw [c1]),r.Uy j j0 jn,if_neg (by omega),if_pos (by omega)]
    omega
   ·rw [if_neg (fun e=>c1 (h.inj jn hi e)),if_neg (fun e=>ne j j0 jn e.symm),r.Uy j j0 jn]
    by_cases c2:j≤i
    ·rw [if_pos c2,if_pos (by omega)]
    ·rw [if_neg c2,if_neg (by omega)]
def nxt (n c:Nat):Nat:=if c=0 then 0 else if c=n - 1 then 1 else c+1
theorem PL (h:Lay n l s) (h2:2≤n):Fr n (eE n (List.range n) s)∧(∀c,c<n→(eE n (List.range n) s).1.idxOf c=l.getD (nxt n c) 0)∧(eE n (List.range n) s).2.getD (l.getD 0 0) 0=s.2.getD (l.getD 0 0) 0 - n ∧
  ∀j,0<j→j<n→(eE n (List.range n) s).2.getD (l.getD j 0) 0=s.2.getD (l.getD j 0) 0+if j=1 then 2 else 1:=by
 obtain ⟨m,rfl⟩:∃m,n=m+1:=⟨n - 1,by omega⟩
 have r:=rou h h2 m (by omega)
 rw [sX,u6]
 generalize eE (m+1) (List.range m) s=u at r ⊢
 have m1:(m+1)%(m+1)=0:=Nat.mod_self _
 have p1:u.1.idxOf m=l.getD 0 0:=by rw [r.at' m (by omega),if_neg (by omega),if_pos rfl]
 have p2:u.1.idxOf 0=l.getD 1 0:=by rw [r.at' 0 (by omega),if_pos (by omega)]
 have ne:∀j:Nat,0<j→j<m+1→l.getD 0 0≠l.getD j 0:=fun j hj hjn e=>by
  have:=h.inj (show 0<m+1 by omega) hjn e
  omega
 refine ⟨pU r.fr h2 (by omega),fun c hc=>?_,?_,fun j j0 jn=>?_⟩
 ·rw [wI r.fr h2 (by omega) hc,m1,p1,p2]
  unfold nxt
  by_cases c1:c=m
  ·rw [if_pos c1,if_neg (by omega),if_pos (by omega)]
  ·rw [if_neg c1]
   by_cases c2:c=0
   ·rw [if_pos c2,if_pos c2]
   ·rw [if_neg c2,if_neg c2,if_neg (by omega),r.at' c hc,if_pos (by omega)]
 ·rw [eG r.fr h2 (by omega),m1,p1,p2,if_neg (ne 1 (by omega) (by omega)),if_pos rfl,r.YL]
  omega
 ·rw [eG r.fr h2 (by omega),m1,p1,p2]
  by_cases c1:j=1
  ·rw [if_pos (by rw [c1]),r.Uy j j0 jn,if_pos (by omega),if_pos c1]
   omega
  ·rw [if_neg (fun e=>c1 (h.inj jn (by omega) e)),if_neg (fun e=>ne j j0 jn e.symm),r.Uy j j0 jn,if_pos (by omega),if_neg c1]
end
def Ai (l:List Nat):List Nat:=match l with
 | p::o::os=>p::(os++[o])
 | l=>l
theorem P0 (l:List Nat):(Ai l).length=l.length:=by
 unfold Ai
 split <;> simp
theorem Uz {n:Nat} {l:List Nat} (hl:l.length=n) (h2:2≤n) {c:Nat} (hc:c<n):(Ai l).getD c 0=l.getD (nxt n c) 0:=by
 match l,hl with
 | [],e=>simp at e; omega
 | [_],e=>simp at e; omega
 | p::o::os,e =>
  simp only [List.length_cons] at e
  unfold Ai nxt
  match c with
  | 0=>rfl
  | c+1 =>
   rw [if_neg (by omega)]
   show (os++[o]).getD c 0=_
   by_cases c1:c+1=n - 1
   ·rw [if_pos c1,List.getD_eq_getElem?_getD,List.getElem?_append_right (by omega),show c - os.length=0 by omega]
    rfl
   ·rw [if_neg c1,List.getD_eq_getElem?_getD,List.getElem?_append_left (by omega)]
    show os[c]?.getD 0=(p::o::os)[c+2]?.getD 0
    rfl
section
variable {n:Nat} {l:List Nat} {s:dh}
theorem Lay.lap (h:Lay n l s) (h2:2≤n):Lay n (Ai l) (eE n (List.range n) s):=by
 obtain ⟨a,b,_,_⟩:=PL h h2
 exact ⟨a,by rw [P0]; exact h.len,fun c hc=>by rw [b c hc,Uz h.len h2 hc]⟩
def YM:Nat→List Nat→List Nat
 | 0,l=>l
 | t+1,l=>YM t (Ai l)
theorem Lay.YQ (h2:2≤n):∀(t:Nat) {l:List Nat} {s:dh},Lay n l s→Lay n (YM t l) (Gq n (List.range n) t s)
 | 0,_,_,h=>h
 | t+1,l,s,h=>Lay.YQ h2 t (h.lap h2)
theorem Jh {l:List Nat} (d:Nat):(Ai l).getD 0 d=l.getD 0 d:=by
 unfold Ai
 split <;> rfl
theorem Lay.sY (h2:2≤n):∀(t:Nat) {l:List Nat} {s:dh},Lay n l s→(YM t l).getD 0 0=l.getD 0 0∧(Gq n (List.range n) t s).2.getD (l.getD 0 0) 0=s.2.getD (l.getD 0 0) 0 - t*n
 | 0,_,_,h=>⟨rfl,by simp [Gq]⟩
 | t+1,l,s,h=>by
  obtain ⟨a,b⟩:=Lay.sY h2 t (h.lap h2)
  rw [Jh] at a b
  refine ⟨a,?_⟩
  show (Gq n (List.range n) t (eE n (List.range n) s)).2.getD _ 0=_
  rw [b,(PL h h2).2.2.1,show ((t+1:Nat):Int)*(n:Int)=t*n+n by rw [Int.natCast_add,Int.add_mul]; simp]
  omega
theorem Lay.poor (h:Lay n l s) (h2:2≤n) {i:Nat}:CK n (List.range n) s i↔i<n∧s.2.getD (l.getD 0 0) 0 - i<1:=by
 unfold CK payer
 rw [List.length_range]
 refine and_congr_right fun hi=>?_
 have e:(List.range n).take i=List.range i:=by rw [List.take_range,Nat.min_eq_left (Nat.le_of_lt hi)]
 have r:=rou h h2 i hi
 rw [e,range_getD hi,r.at' i hi,if_neg (by omega),if_pos rfl,r.YL]
theorem Lay.payer (h:Lay n l s) (h2:2≤n) {i:Nat} (hi:i<n):DM.payer n (List.range n) s i=l.getD 0 0:=by
 unfold DM.payer
 have e:(List.range n).take i=List.range i:=by rw [List.take_range,Nat.min_eq_left (Nat.le_of_lt hi)]
 have r:=rou h h2 i hi
 rw [e,range_getD hi,r.at' i hi,if_neg (by omega),if_pos rfl]
theorem Lay.fst (h:Lay n l s) (h2:2≤n) {R:Nat} (hR:s.2.getD (l.getD 0 0) 0=(R:Nat)):Fst n (List.range n) s (R / n) (R%n) (l.getD 0 0):=by
 have hm:R%n<n:=Nat.mod_lt _ (by omega)
 have key:∀t i,CK n (List.range n) (Gq n (List.range n) t s) i↔i<n∧R<t*n+i+1:=fun t i=>by
  have a:=h.YQ h2 t
  have b:=h.sY h2 t
  rw [a.poor h2,b.1,b.2,hR]
  refine and_congr_right fun _=>?_
  have:((t:Int)*(n:Int))=((t*n:Nat):Int):=by rw [Int.natCast_mul]
  omega
 have dm:=Nat.div_add_mod R n
 have dm':R / n*n+R%n=R:=by rw [Nat.mul_comm]; exact dm
 refine ⟨(key _ _).mpr ⟨hm,by omega⟩,?_,fun t' i' hp=>?_⟩
 ·rw [(h.YQ h2 _).payer h2 hm]
  exact (h.sY h2 _).1.symm
 ·obtain ⟨h1,h3⟩:=(key _ _).mp hp
  by_cases c:R / n<t'
  ·exact .inl c
  ·right
   have c':t'≤R / n:=by omega
   by_cases c2:t'=R / n
   ·subst c2
    exact ⟨rfl,by omega⟩
   ·exfalso
    have:=Nat.mul_le_mul_right n (show t'+1≤R / n by omega)
    rw [Nat.add_mul,Nat.one_mul] at this
    omega
end
end DM
end
section
set_option maxHeartbeats 1000000
namespace DM
/-! sums -/
def aQ {α:Type} (l:List α) (f:α→Int):Int:=(l.map f).sum
section
variable {α β:Type}
theorem u9 (f:α→Int):aQ [] f=0:=rfl
theorem bW (a:α) (l:List α) (f:α→Int):aQ (a::l) f=f a+aQ l f:=by unfold aQ; rw [List.map_cons,List.sum_cons]
theorem WT (l r:List α) (f:α→Int):aQ (l++r) f=aQ l f+aQ r f:=by unfold aQ; rw [List.map_append,List.sum_append]
theorem aH {l:List α} {f g:α→Int} (h:∀x∈l,f x=g x):aQ l f=aQ l g:=by unfold aQ; rw [List.map_congr_left h]
theorem Aj (l:List α) (f g:α→Int):aQ l (fun x=>f x+g x)=aQ l f+aQ l g:=by
 induction l with
 | nil=>rfl
 | cons a l ih=>rw [bW,bW,bW,ih]; omega
theorem acG (l:List α) (f g:α→Int):aQ l (fun x=>f x - g x)=aQ l f - aQ l g:=by
 induction l with
 | nil=>rfl
 | cons a l ih=>rw [bW,bW,bW,ih]; omega
theorem WW (c:Int) (l:List α) (f:α→Int):aQ l (fun x=>c*f x)=c*aQ l f:=by
 induction l with
 | nil=>rw [u9,u9,Int.mul_zero]
 | cons a l ih=>rw [bW,bW,ih,Int.mul_add]
theorem Gu (c:Int) (l:List α) (f:α→Int):aQ l (fun x=>f x*c)=aQ l f*c:=by
 rw [Int.mul_comm,← WW]
 exact aH fun x _=>Int.mul_comm _ _
theorem lC (l:List α):aQ l (fun _=>0)=0:=by
 induction l with
 | nil=>rfl
 | cons a l ih=>rw [bW,ih]; rfl
theorem wL (c:Int) (l:List α):aQ l (fun _=>c)=l.length*c:=by
 induction l with
 | nil=>rw [u9]; simp
 | cons a l ih=>rw [bW,ih,List.length_cons,Int.natCast_add,Int.add_mul]; omega
theorem wM (l:List α) (r:List β) (f:α→β→Int):aQ l (fun x=>aQ r (f x))=aQ r (fun y=>aQ l (fun x=>f x y)):=by
 induction l with
 | nil=>rw [u9]; exact (lC r).symm
 | cons a l ih =>
  rw [bW,ih,← Aj]
  exact aH fun y _=>(bW a l (fun x=>f x y)).symm
theorem tD {l:List α} {f:α→Int} (h:∀x∈l,0≤f x):0≤aQ l f:=by
 induction l with
 | nil=>exact Int.le_refl _
 | cons a l ih =>
  rw [bW]
  have h1:=h a List.mem_cons_self
  have h2:=ih fun x hx=>h x (List.mem_cons_of_mem _ hx)
  omega
theorem Qa (g:β→α) (l:List β) (f:α→Int):aQ (l.map g) f=aQ l fun x=>f (g x):=by unfold aQ; rw [List.map_map]; rfl
theorem YS (g:β→List α) (l:List β) (f:α→Int):aQ (l.flatMap g) f=aQ l fun x=>aQ (g x) f:=by
 induction l with
 | nil=>rfl
 | cons a l ih=>rw [List.flatMap_cons,WT,bW,ih]
theorem fj (p:α→Bool) (l:List α) (f:α→Int):aQ (l.filter p) f=aQ l fun x=>if p x=true then f x else 0:=by
 induction l with
 | nil=>rfl
 | cons a l ih =>
  rw [bW,List.filter_cons]
  by_cases h:p a=true
  ·rw [if_pos h,if_pos h,bW,ih]
  ·rw [if_neg h,if_neg h,ih]; omega
theorem S_len (l:List α):(l.length:Int)=aQ l fun _=>1:=by rw [wL]; omega
end
theorem UG {F:List Nat} (hn:F.Nodup) {s:Nat} (f:Nat→Int):aQ (F.erase s) f=aQ F fun r=>if r=s then 0 else f r:=by
 induction F with
 | nil=>rfl
 | cons a F ih =>
  obtain ⟨h1,h2⟩:=List.nodup_cons.mp hn
  by_cases e:a=s
  ·subst e
   rw [List.erase_cons_head,bW,if_pos rfl,Int.zero_add]
   exact aH fun r hr=>by rw [if_neg (fun z=>h1 (by rw [← z]; exact hr))]
  ·rw [List.erase_cons_tail (by simpa using e),bW,bW,ih h2,if_neg e]
theorem pW {F:List Nat} (hn:F.Nodup) {s:Nat} (p:Nat→Bool) (f:Nat→Int):aQ ((F.erase s).filter p) f=aQ (F.filter p) fun r=>if r=s then 0 else f r:=by
 rw [fj,UG hn,fj]
 refine aH fun r _=>?_
 by_cases h1:r=s
 ·rw [if_pos h1,if_pos h1]; split <;> rfl
 ·rw [if_neg h1,if_neg h1]
theorem Gv {F:List Nat} (hn:F.Nodup) (p q:Nat→Bool) (f:Nat→Nat→Int):aQ (F.filter p) (fun s=>aQ ((F.erase s).filter q) (f s))=aQ (F.filter q) (fun r=>aQ ((F.erase r).filter p) (fun s=>f s r)):=by
 have e1:aQ (F.filter p) (fun s=>aQ ((F.erase s).filter q) (f s))=aQ (F.filter p) (fun s=>aQ (F.filter q) fun r=>if r=s then 0 else f s r):=aH fun s _=>pW hn q (f s)
 have e2:aQ (F.filter q) (fun r=>aQ ((F.erase r).filter p) (fun s=>f s r))=aQ (F.filter q) (fun r=>aQ (F.filter p) fun s=>if s=r then 0 else f s r):=aH fun r _=>pW hn p (fun s=>f s r)
 rw [e1,e2,wM]
 refine aH fun r _=>aH fun s _=>?_
 by_cases h:r=s
 ·rw [if_pos h,if_pos h.symm]
 ·rw [if_neg h,if_neg (fun z=>h z.symm)]
theorem filter_all {α:Type} (F:List α):F.filter (fun _=>true)=F:=List.filter_eq_self.mpr fun _ _=>rfl
theorem Ak {F:List Nat} (hn:F.Nodup) (f:Nat→Nat→Int):aQ F (fun s=>aQ (F.erase s) (f s))=aQ F (fun r=>aQ (F.erase r) (fun s=>f s r)):=by
 have:=Gv hn (fun _=>true) (fun _=>true) f
 simpa only [filter_all] using this
theorem Am {F:List Nat} (hn:F.Nodup) {r:Nat} (hr:r∈F) (p:Nat→Bool) (hp:p r=true):(((F.erase r).filter p).length:Int)=((F.filter p).length:Int) - 1:=by
 rw [S_len,S_len,pW hn p]
 have e:aQ (F.filter p) (fun x=>if x=r then 0 else (1:Int))=aQ (F.filter p) (fun _=>1) - aQ (F.filter p) (fun x=>if x=r then 1 else 0):=by
  rw [← acG]
  exact aH fun x _=>by split <;> rfl
 rw [e]
 have e2:∀(l:List Nat),l.Nodup→r∈l→aQ l (fun x=>if x=r then (1:Int) else 0)=1:=by
  intro l
  induction l with
  | nil=>intro _ h; cases h
  | cons a l ih =>
   intro hn h
   obtain ⟨n1,n2⟩:=List.nodup_cons.mp hn
   rw [bW]
   by_cases ea:a=r
   ·subst ea
    rw [if_pos rfl]
    have:aQ l (fun x=>if x=a then (1:Int) else 0)=aQ l (fun _=>0):=aH fun x hx=>by rw [if_neg (fun z=>n1 (by rw [← z]; exact hx))]
    rw [this,lC]
    rfl
   ·rw [if_neg ea,ih n2 ((List.mem_cons.mp h).resolve_left (fun z=>ea z.symm))]
    rfl
 rw [e2 _ (hn.filter _) (List.mem_filter.mpr ⟨hr,hp⟩)]
/-! in how many ways few of many things are chosen -/
def chs:Nat→Nat→Nat
 | _,0=>1
 | 0,_+1=>0
 | n+1,k+1=>chs n k+chs n (k+1)
end DM
end
section
set_option maxHeartbeats 1000000
namespace DM
def sh (f:Nat→Int):Nat→Int:=fun i=>f (i+1)
def dl (f:Nat→Int):Nat→Int:=fun i=>f (i+1) - f i
def Kr:Nat→(Nat→Int)→Nat→Int
 | 0,f=>f
 | m+1,f=>Kr m (dl f)
def Bx:Nat→Nat
 | 0=>1
 | n+1=>(n+1)*Bx n
def qU:List Nat→List Nat→(Nat→Int)→Int
 | [],_,f=>f 0
 | t::ts,F,f=>aQ F fun s=>qU ts (F.erase s) (if s≤t then sh f else f)
theorem acH (f:Nat→Int):sh f=fun i=>f i+dl f i:=by
 funext i
 show f (i+1)=f i+(f (i+1) - f i)
 omega
theorem wN:∀(ts F:List Nat) (f g:Nat→Int),qU ts F (fun i=>f i+g i)=qU ts F f+qU ts F g
 | [],_,_,_=>rfl
 | t::ts,F,f,g=>by
  show aQ F _=aQ F _+aQ F _
  rw [← Aj]
  refine aH fun s _=>?_
  show qU ts (F.erase s) (if s≤t then sh (fun i=>f i+g i) else fun i=>f i+g i)=_
  by_cases h:s≤t
  ·rw [if_pos h,if_pos h,if_pos h]
   exact wN ts (F.erase s) (sh f) (sh g)
  ·rw [if_neg h,if_neg h,if_neg h]
   exact wN ts (F.erase s) f g
theorem Ji (t:Nat) (ts F:List Nat) (f:Nat→Int):qU (t::ts) F f=aQ F (fun s=>qU ts (F.erase s) f)+aQ (F.filter fun s=>decide (s≤t)) (fun s=>qU ts (F.erase s) (dl f)):=by
 rw [fj,← Aj]
 show aQ F _=_
 refine aH fun s _=>?_
 by_cases h:s≤t
 ·rw [if_pos h,if_pos (decide_eq_true h),acH,wN]
 ·rw [if_neg h,if_neg (by simpa using h),Int.add_zero]
def fQ:List Nat→List Nat→Nat→Int
 | [],_,0=>1
 | [],_,_+1=>0
 | _::ts,F,0=>fQ ts F 0
 | t::ts,F,m+1=>fQ ts F (m+1)+aQ (F.filter fun s=>decide (s≤t)) fun s=>fQ ts (F.erase s) m
theorem gR:∀(ts F:List Nat) (m:Nat),0≤fQ ts F m
 | [],_,0=>show (0:Int)≤1 by decide
 | [],_,_+1=>Int.le_refl 0
 | _::ts,F,0=>gR ts F 0
 | t::ts,F,m+1=>Int.add_nonneg (gR ts F (m+1)) (tD fun s _=>gR ts (F.erase s) m)
theorem wO:∀(ts F:List Nat) (m:Nat),ts.length<m→fQ ts F m=0
 | [],_,0,h=>by simp at h
 | [],_,_+1,_=>rfl
 | _::_,_,0,h=>by simp at h
 | t::ts,F,m+1,h=>by
  rw [List.length_cons] at h
  show fQ ts F (m+1)+aQ _ _=0
  have e:aQ (F.filter fun s=>decide (s≤t)) (fun s=>fQ ts (F.erase s) m)=aQ (F.filter fun s=>decide (s≤t)) (fun _=>0):=aH fun s _=>wO ts _ m (by omega)
  rw [wO ts F (m+1) (by omega),e,lC]
  rfl
theorem oW:∀(ts F:List Nat) (g:Nat→Bool),F.Nodup→(∀t∈ts,∀s∈F,s≤t→g s=true)→∀m:Nat,aQ (F.filter g) (fun s=>fQ ts (F.erase s) m)=(((F.filter g).length:Int) - m)*fQ ts F m
 | [],F,g,_,_,0=>by
  show aQ (F.filter g) (fun _=>1)=_*1
  rw [wL,Int.mul_one,Int.mul_one]
  omega
 | [],F,g,_,_,m+1=>by
  show aQ (F.filter g) (fun _=>0)=_*0
  rw [lC,Int.mul_zero]
 | t::ts,F,g,hn,hg,0=>oW ts F g hn (fun u hu=>hg u (List.mem_cons_of_mem _ hu)) 0
 | t::ts,F,g,hn,hg,m+1=>by
  have hg':=fun u (hu:u∈ts)=>hg u (List.mem_cons_of_mem _ hu)
  have i1:=oW ts F g hn hg' (m+1)
  have e:aQ (F.filter g) (fun s=>fQ (t::ts) (F.erase s) (m+1))=aQ (F.filter g) (fun s=>fQ ts (F.erase s) (m+1))+aQ (F.filter g) (fun s=>aQ ((F.erase s).filter fun r=>decide (r≤t)) fun r=>fQ ts ((F.erase s).erase r) m):=by
   rw [← Aj]
   rfl
  rw [e,i1,Gv hn g (fun r=>decide (r≤t)) (fun s r=>fQ ts ((F.erase s).erase r) m)]
  have e2:aQ (F.filter fun r=>decide (r≤t)) (fun r=>aQ ((F.erase r).filter g) fun s=>fQ ts ((F.erase s).erase r) m)=aQ (F.filter fun r=>decide (r≤t)) (fun r=>(((F.filter g).length:Int) - (m+1))*fQ ts (F.erase r) m):=by
   refine aH fun r hr=>?_
   obtain ⟨r1,r2⟩:=List.mem_filter.mp hr
   have r3:r≤t:=by simpa using r2
   have i2:=oW ts (F.erase r) g (hn.erase r) (fun u hu s hs=>hg' u hu s (List.mem_of_mem_erase hs)) m
   rw [Am hn r1 g (hg t List.mem_cons_self r r1 r3)] at i2
   have e3:aQ ((F.erase r).filter g) (fun s=>fQ ts ((F.erase s).erase r) m)=aQ ((F.erase r).filter g) (fun s=>fQ ts ((F.erase r).erase s) m):=aH fun s _=>by rw [List.erase_comm]
   rw [e3,i2]
   congr 1
   omega
  rw [e2,WW]
  show _=(((F.filter g).length:Int) - ((m+1:Nat):Int))*(fQ ts F (m+1)+_)
  rw [Int.mul_add]
  rfl
theorem UJ (ts F:List Nat) (hn:F.Nodup) (m:Nat):aQ F (fun s=>fQ ts (F.erase s) m)=((F.length:Int) - m)*fQ ts F m:=by
 have:=oW ts F (fun _=>true) hn (fun _ _ _ _ _=>rfl) m
 rwa [filter_all] at this
theorem dY (n:Nat) (f:Nat→Int):aQ (List.range (n+1)) f=f 0+aQ (List.range n) fun m=>f (m+1):=by
 rw [List.range_succ_eq_map,bW,Qa]
theorem qH (n:Nat) (f:Nat→Int):aQ (List.range (n+1)) f=aQ (List.range n) f+f n:=by
 rw [List.range_succ,WT,bW,u9,Int.add_zero]
theorem CN:∀(ts F:List Nat) (f:Nat→Int),F.Nodup→F.length=ts.length→qU ts F f=aQ (List.range (ts.length+1)) fun m=>fQ ts F m*Bx (ts.length - m)*Kr m f 0
 | [],F,f,_,_=>by
  show f 0=aQ [0] _
  rw [bW,u9]
  show f 0=1*((Bx 0:Nat):Int)*f 0+0
  show f 0=1*1*f 0+0
  omega
 | t::ts,F,f,hn,hl=>by
  rw [List.length_cons] at hl
  have le:∀s∈F,(F.erase s).length=ts.length:=fun s hs=>by rw [List.length_erase_of_mem hs]; omega
  rw [Ji]
  have e1:aQ F (fun s=>qU ts (F.erase s) f)=aQ (List.range (ts.length+1)) fun m=>fQ ts F m*Bx (ts.length+1 - m)*Kr m f 0:=by
   have e:aQ F (fun s=>qU ts (F.erase s) f)=aQ F fun s=>aQ (List.range (ts.length+1)) fun m=>fQ ts (F.erase s) m*(Bx (ts.length - m)*Kr m f 0):=aH fun s hs=>by
    rw [CN ts (F.erase s) f (hn.erase s) (le s hs)]
    exact aH fun m _=>Int.mul_assoc _ _ _
   rw [e,wM]
   refine aH fun m hm=>?_
   have hm:=List.mem_range.mp hm
   rw [Gu,UJ ts F hn m,hl,show ts.length+1 - m=(ts.length - m)+1 by omega]
   have ef:((Bx (ts.length - m+1):Nat):Int)=(((ts.length+1:Nat):Int) - m)*Bx (ts.length - m):=by
    show (((ts.length - m+1)*Bx (ts.length - m):Nat):Int)=_
    rw [Int.natCast_mul]
    congr 1
    omega
   rw [ef,← Int.mul_assoc,Int.mul_comm ((((ts.length+1:Nat):Int) - m)) (fQ ts F m),Int.mul_assoc (fQ ts F m)]
  have e2:aQ (F.filter fun s=>decide (s≤t)) (fun s=>qU ts (F.erase s) (dl f))=aQ (List.range (ts.length+1)) fun m=>aQ (F.filter fun s=>decide (s≤t)) (fun s=>fQ ts (F.erase s) m)*(Bx (ts.length - m)*Kr (m+1) f 0):=by
   have e:aQ (F.filter fun s=>decide (s≤t)) (fun s=>qU ts (F.erase s) (dl f))=aQ (F.filter fun s=>decide (s≤t)) fun s=>aQ (List.range (ts.length+1)) fun m=>fQ ts (F.erase s) m*(Bx (ts.length - m)*Kr (m+1) f 0):=aH fun s hs=>by
    rw [CN ts (F.erase s) (dl f) (hn.erase s) (le s (List.mem_filter.mp hs).1)]
    exact aH fun m _=>Int.mul_assoc _ _ _
   rw [e,wM]
   exact aH fun m _=>Gu _ _ _
  rw [e1,e2]
  show _=aQ (List.range (ts.length+1+1)) fun m=>fQ (t::ts) F m*Bx (ts.length+1 - m)*Kr m f 0
  rw [dY (ts.length+1)]
  have e3:aQ (List.range (ts.length+1)) (fun m=>fQ (t::ts) F (m+1)*Bx (ts.length+1 - (m+1))*Kr (m+1) f 0)=aQ (List.range (ts.length+1)) (fun m=>fQ ts F (m+1)*Bx (ts.length+1 - (m+1))*Kr (m+1) f 0)+aQ (List.range (ts.length+1)) fun m=>aQ (F.filter fun s=>decide (s≤t)) (fun s=>fQ ts (F.erase s) m)*(Bx (ts.length - m)*Kr (m+1) f 0):=by
   rw [← Aj]
   refine aH fun m _=>?_
   show (fQ ts F (m+1)+_)*_*_=_
   rw [Nat.add_sub_add_right,Int.add_mul,Int.add_mul,Int.mul_assoc (aQ _ _)]
  rw [e3,dY ts.length,qH ts.length (fun m=>fQ ts F (m+1)*Bx (ts.length+1 - (m+1))*Kr (m+1) f 0),wO ts F (ts.length+1) (by omega)]
  show _=fQ ts F 0*_*_+_
  rw [Int.zero_mul,Int.zero_mul]
  omega
/-! the placements, step by step -/
def stp (P:List Int) (c:Nat):List Int:=(List.range (P.length+1)).map fun m=>P.getD m 0+(match m with | 0=>0 | k+1=>P.getD k 0*max 0 ((c:Int) - k))
def WY (cs:List Nat):List Int:=cs.foldl stp [1]
def good (F:List Nat) (t:Nat):Nat:=(F.filter fun s=>decide (s≤t)).length
theorem UL (P:List Int) (c m:Nat):(stp P c).getD m 0=P.getD m 0+(match m with | 0=>0 | k+1=>P.getD k 0*max 0 ((c:Int) - k)):=by
 unfold stp
 by_cases h:m<P.length+1
 ·rw [List.getD_eq_getElem?_getD,List.getElem?_map,List.getElem?_range h]
  rfl
 ·have e1:P.getD m 0=0:=by rw [List.getD_eq_getElem?_getD,List.getElem?_eq_none (by omega)]; rfl
  rw [List.getD_eq_getElem?_getD,List.getElem?_eq_none (by rw [List.length_map,List.length_range]; omega),e1]
  cases m with
  | zero=>omega
  | succ k =>
   have e2:P.getD k 0=0:=by rw [List.getD_eq_getElem?_getD,List.getElem?_eq_none (by omega)]; rfl
   show (0:Int)=0+P.getD k 0*_
   rw [e2,Int.zero_mul]
   rfl
theorem Qc (cs:List Nat) (c:Nat):WY (cs++[c])=stp (WY cs) c:=by unfold WY; rw [List.foldl_append]; rfl
theorem Qe:∀(ts F:List Nat),F.Nodup→ts.Pairwise (fun a b=>b≤a)→∀m:Nat,(WY (ts.reverse.map (good F))).getD m 0=fQ ts F m
 | [],F,_,_,m=>by
  show ([1]:List Int).getD m 0=fQ [] F m
  match m with
  | 0=>rfl
  | _+1=>rfl
 | t::ts,F,hn,hp,m=>by
  obtain ⟨p1,p2⟩:=List.pairwise_cons.mp hp
  have ih:=Qe ts F hn p2
  rw [List.reverse_cons,List.map_append,List.map_cons,List.map_nil,Qc,UL]
  match m with
  | 0=>rw [ih 0]; show fQ ts F 0+0=fQ ts F 0; omega
  | m+1 =>
   show (WY _).getD (m+1) 0+(WY _).getD m 0*_=fQ ts F (m+1)+aQ _ _
   have c:=oW ts F (fun s=>decide (s≤t)) hn (fun u hu s _ hs=>decide_eq_true (Nat.le_trans hs (p1 u hu))) m
   rw [ih (m+1),ih m,c]
   have nn:=gR ts F m
   have sn:0≤aQ (F.filter fun s=>decide (s≤t)) (fun s=>fQ ts (F.erase s) m):=tD fun s _=>gR _ _ _
   rw [c] at sn
   show fQ ts F (m+1)+fQ ts F m*max 0 ((good F t:Int) - m)=fQ ts F (m+1)+((good F t:Int) - m)*fQ ts F m
   have sn':0≤((good F t:Int) - m)*fQ ts F m:=sn
   congr 1
   by_cases h:0≤(good F t:Int) - m
   ·rw [Int.max_eq_right h,Int.mul_comm]
   ·rw [Int.max_eq_left (by omega),Int.mul_zero]
    have h0:fQ ts F m=0:=by
     have k:fQ ts F m≤0:=by
      by_cases z:fQ ts F m≤0
      ·exact z
      ·have:=Int.mul_neg_of_neg_of_pos (show (good F t:Int) - m<0 by omega) (show 0<fQ ts F m by omega)
       omega
     omega
    rw [h0,Int.mul_zero]
/-! by numbers of those who sit well -/
def ap:List Int→(Nat→Int)→Int
 | [],_=>0
 | a::l,f=>a*f 0+ap l (sh f)
theorem Qg:∀(l:List Int) (f g:Nat→Int),ap l (fun i=>f i - g i)=ap l f - ap l g
 | [],_,_=>rfl
 | a::l,f,g=>by
  have ih:=Qg l (sh f) (sh g)
  show a*(f 0 - g 0)+ap l (fun i=>sh f i - sh g i)=a*f 0+ap l (sh f) - (a*g 0+ap l (sh g))
  rw [ih,Int.mul_sub]
  omega
def Jj:List Int→List Int→List Int
 | a::l,b::r=>(a - b)::Jj l r
 | _,_=>[]
def xm1 (l:List Int):List Int:=Jj (0::l) (l++[0])
theorem Gx:∀(l:List Int) (a:Int) (f:Nat→Int),ap (Jj (a::l) (l++[0])) f=a*f 0+ap l (sh f) - ap l f
 | [],a,f=>by
  show (a - 0)*f 0+0=a*f 0+0 - 0
  rw [Int.sub_zero,Int.sub_zero]
 | b::l,a,f=>by
  have ih:=Gx l b (sh f)
  show (a - b)*f 0+ap (Jj (b::l) (l++[0])) (sh f)=a*f 0+(b*sh f 0+ap l (sh (sh f))) - (b*f 0+ap l (sh f))
  rw [ih,Int.sub_mul]
  omega
theorem YT (l:List Int) (f:Nat→Int):ap (xm1 l) f=ap l (dl f):=by
 unfold xm1
 rw [Gx,Int.zero_mul,Int.zero_add]
 exact (Qg l (sh f) f).symm
def YW (c:Int):List Int→List Int
 | a::l=>(a+c)::l
 | []=>[]
def hor:List Int→List Int
 | []=>[]
 | q::qs=>YW q (xm1 (hor qs))
theorem Ao:∀(l:List Int) (a:Int),(Jj (a::l) (l++[0])).length=l.length+1
 | [],_=>rfl
 | b::l,a=>by
  show (Jj (b::l) (l++[0])).length+1=_
  rw [Ao l b]
  rfl
theorem UW {l:List Int} (c:Int) (f:Nat→Int) (h:l≠[]):ap (YW c l) f=c*f 0+ap l f:=by
 cases l with
 | nil=>exact absurd rfl h
 | cons a l =>
  show (a+c)*f 0+ap l (sh f)=c*f 0+(a*f 0+ap l (sh f))
  rw [Int.add_mul]
  omega
theorem YX (l:List Int):xm1 l≠[]:=fun z=>by
 have:=Ao l 0
 unfold xm1 at z
 rw [z] at this
 simp at this
theorem Qh:∀(qs:List Int) (f:Nat→Int),ap (hor qs) f=aQ (List.range qs.length) fun m=>qs.getD m 0*Kr m f 0
 | [],f=>rfl
 | q::qs,f=>by
  show ap (YW q (xm1 (hor qs))) f=_
  rw [UW q f (YX _),YT,Qh qs (dl f),List.length_cons,dY]
  rfl
def YZ (cs:List Nat):List Int:=hor ((List.range (cs.length+1)).map fun m=>(WY cs).getD m 0*((Bx (cs.length - m):Nat):Int))
theorem Y0 (ts F:List Nat) (f:Nat→Int) (hn:F.Nodup) (hl:F.length=ts.length) (hp:ts.Pairwise (fun a b=>b≤a)):ap (YZ (ts.reverse.map (good F))) f=qU ts F f:=by
 unfold YZ
 rw [Qh,CN ts F f hn hl,List.length_map,List.length_range,List.length_map,List.length_reverse]
 refine aH fun m hm=>?_
 have hm:=List.mem_range.mp hm
 congr 1
 rw [List.getD_eq_getElem?_getD,List.getElem?_map,List.getElem?_range hm]
 show (WY _).getD m 0*_=_
 rw [Qe ts F hn hp m]
/-! the order of the people does not matter -/
theorem Aq {ts us:List Nat} (h:ts.Perm us):∀(F:List Nat) (f:Nat→Int),F.Nodup→qU ts F f=qU us F f:=by
 induction h with
 | nil=>intro F f _; rfl
 | cons t _ ih =>
  intro F f hn
  exact aH fun s _=>ih (F.erase s) _ (hn.erase s)
 | swap a b l =>
  intro F f hn
  show aQ F (fun s=>aQ (F.erase s) fun r=>qU l ((F.erase s).erase r) (if r≤a then sh (if s≤b then sh f else f) else (if s≤b then sh f else f)))=aQ F (fun s=>aQ (F.erase s) fun r=>qU l ((F.erase s).erase r) (if r≤b then sh (if s≤a then sh f else f) else (if s≤a then sh f else f)))
  rw [Ak hn]
  refine aH fun s _=>aH fun r _=>?_
  rw [List.erase_comm]
  congr 1
  by_cases h1:s≤a
  ·by_cases h2:r≤b
   ·rw [if_pos h1,if_pos h2,if_pos h1,if_pos h2]
   ·rw [if_pos h1,if_neg h2,if_pos h1,if_neg h2]
  ·by_cases h2:r≤b
   ·rw [if_neg h1,if_pos h2,if_neg h1,if_pos h2]
   ·rw [if_neg h1,if_neg h2,if_neg h1,if_neg h2]
 | trans _ _ h1 h2=>intro F f hn; rw [h1 F f hn,h2 F f hn]
end DM
end
section
set_option exponentiation.threshold 10000
namespace DM
open PySem L2 DM
/-! akX: the counting on data: choose, placements, seatings. -/
def chI (m:Int) (f:Nat):Nat:=if m<f then 0 else chs m.toNat f
def Sml (B:Nat) (P:List Int):Prop:=∀x∈P,0≤x∧x≤(B:Nat)
theorem Sml.get {B:Nat} {P:List Int} (h:Sml B P) (i:Nat):0≤P.getD i 0∧P.getD i 0≤(B:Nat):=by
 rw [List.getD_eq_getElem?_getD]
 cases q:P[i]? with
 | none=>exact ⟨Int.le_refl _,Int.natCast_nonneg _⟩
 | some x=>exact h x (List.mem_of_getElem? q)
theorem Sml.stp {B:Nat} {P:List Int} {c:Nat} (h:Sml B P) (hc:c≤20):Sml (B*21) (DM.stp P c):=fun x hx=>by
 obtain ⟨i,_,rfl⟩:=List.mem_map.mp hx
 have a:=h.get i
 have e20:((B*21:Nat):Int)=(B:Int)*21:=Int.natCast_mul _ _
 cases i with
 | zero =>
  show 0≤P.getD 0 0+0∧P.getD 0 0+0≤_
  rw [e20]; omega
 | succ k =>
  have b:=h.get k
  show 0≤P.getD (k+1) 0+P.getD k 0*max 0 ((c:Int) - k)∧P.getD (k+1) 0+P.getD k 0*max 0 ((c:Int) - k)≤_
  have m0:0≤max 0 ((c:Int) - k):=by omega
  have m1:max 0 ((c:Int) - k)≤20:=by omega
  have p0:0≤P.getD k 0*max 0 ((c:Int) - k):=Int.mul_nonneg b.1 m0
  have p1:P.getD k 0*max 0 ((c:Int) - k)≤P.getD k 0*20:=Int.mul_le_mul_of_nonneg_left m1 b.1
  rw [e20]
  omega
section
variable {cs:List Nat} {P:List Int} {c m:Nat} {x2 x3 x4 x5:Option En}
end
section
variable {cs:List Nat} {L:List Int} {t:Nat} {w:Int} {o:Nat} {x3 x4:Option En}
end
end DM
end
section
set_option exponentiation.threshold 10000
namespace DM
open PySem L2 DM
/-! akY: the counting on data: spread, ways_with. -/
def W3 (S:List (Nat × Nat)):D:=.dct (nD (S.map (·.1))) (nD (S.map (·.2)))
def cM (n:Nat) (S:List (Nat × Nat)):List Nat:=(List.range n).filter fun s=>!(S.map (·.2)).contains s
def oX (ks:List Nat) (S:List (Nat × Nat)):Nat:=(S.filter fun p=>decide (ks.getD p.1 0<p.2)).length
def fU (n:Nat) (S:List (Nat × Nat)):List Nat:=(List.range n).filter fun x=>!(S.map (·.1)).contains x
def wQ (ks:List Nat) (S:List (Nat × Nat)):List Nat:=(fU ks.length S).map fun x=>good (cM ks.length S) (ks.getD x 0)
def Gy (q:Int) (ks:List Nat) (S:List (Nat × Nat)) (N:List Int):List (Int × Int):=((List.range N.length).map fun w=>(q - oX ks S - (fU ks.length S).length+(w:Nat),N.getD w 0))
def wR (q:Int) (ks:List Nat) (S:List (Nat × Nat)) (N:List Int):List (Int × Int):=(Gy q ks S N).filter fun p=>decide (0≤p.1)&&decide (0<p.2)
section
variable {d:D} {q:Int} {n:Nat} {ks st:List Nat} {S:List (Nat × Nat)} {fl:List D}
end
section
variable {d:D} {q:Int} {n:Nat} {ks st:List Nat} {S:List (Nat × Nat)} {fl:List D} {i:Nat} {cl:Nat→List En→R En} {N:List Int}
end
end DM
end
section
set_option exponentiation.threshold 10000
namespace DM
open PySem L2 DM
/-! akZ: ways_with on data; and as a sum over all seatings that go on. -/
/-! how great the numbers are -/
def Qi (n:Nat) (L:List (Int × Int)):Int:=(L.map fun p=>p.2*((chI (p.1+n - 1) (n - 1):Nat):Int)).sum
def stN (ks:List Nat) (S:List (Nat × Nat)):List Nat:=(PySem.W.sortI ((wQ ks S).map fun i=>((i:Nat):Int))).map Int.toNat
def Ql (run:List En→R En):Prop:=∀(d:D) (q:Int) (ks:List Nat) (S:List (Nat × Nat)),Sq d (nD ks)→1≤ks.length→ks.length≤18→(∀p∈S,p.1<ks.length)→S.length≤1000→q<2^150→Ret run [.fr d,.fr (.int q),.fr (W3 S)] (.fr (.int (Qi ks.length (wR q ks S (YZ (stN ks S))))))
theorem CP:∀(N:List Int) (f:Nat→Int),ap N f=aQ (List.range N.length) fun w=>N.getD w 0*f w
 | [],f=>rfl
 | a::N,f=>by
  show a*f 0+ap N (sh f)=_
  rw [CP N (sh f),List.length_cons,dY]
  rfl
theorem Y4 (N:List Int) (k:Nat):ap N (fun i=>if i=k then 1 else 0)=N.getD k 0:=by
 rw [CP]
 by_cases hk:k<N.length
 ·have e:aQ (List.range N.length) (fun w=>N.getD w 0*(if w=k then 1 else 0))=aQ (List.range N.length) fun w=>if w=k then N.getD k 0 else 0:=aH fun w _=>by
   by_cases z:w=k
   ·rw [if_pos z,if_pos z,z,Int.mul_one]
   ·rw [if_neg z,if_neg z,Int.mul_zero]
  rw [e]
  have key:∀m,aQ (List.range m) (fun w=>if w=k then N.getD k 0 else 0)=if k<m then N.getD k 0 else 0:=by
   intro m
   induction m with
   | zero=>rfl
   | succ m ih =>
    rw [qH,ih]
    by_cases z:m=k
    ·rw [if_neg (by omega),if_pos z,if_pos (by omega)]; omega
    ·rw [if_neg z]
     by_cases y:k<m
     ·rw [if_pos y,if_pos (by omega)]; omega
     ·rw [if_neg y,if_neg (by omega)]; omega
  rw [key,if_pos hk]
 ·have e:aQ (List.range N.length) (fun w=>N.getD w 0*(if w=k then 1 else 0))=aQ (List.range N.length) fun _=>0:=aH fun w hw=>by
   have hw:=List.mem_range.mp hw
   rw [if_neg (by omega),Int.mul_zero]
  rw [e,lC,List.getD_eq_getElem?_getD,List.getElem?_eq_none (by omega)]
  rfl
theorem tE:∀(ts F:List Nat) (f:Nat→Int),(∀i,0≤f i)→0≤qU ts F f
 | [],_,f,h=>h 0
 | t::ts,F,f,h=>tD fun s _=>tE ts _ _ (by
  intro i
  split
  ·exact h (i+1)
  ·exact h i)
theorem vf:∀(ts F:List Nat) (f g:Nat→Int),(∀i,i≤ts.length→f i=g i)→qU ts F f=qU ts F g
 | [],_,f,g,h=>h 0 (Nat.le_refl _)
 | t::ts,F,f,g,h=>aH fun s _=>vf ts _ _ _ fun i hi=>by
  split
  ·exact h (i+1) (by rw [List.length_cons]; omega)
  ·exact h i (by rw [List.length_cons]; omega)
theorem good_mono (F:List Nat) {a b:Nat} (h:a≤b):good F a≤good F b:=by
 unfold good
 induction F with
 | nil=>exact Nat.le_refl _
 | cons x F ih =>
  rw [List.filter_cons,List.filter_cons]
  by_cases h1:x≤a
  ·rw [if_pos (decide_eq_true h1),if_pos (decide_eq_true (Nat.le_trans h1 h)),List.length_cons,List.length_cons]
   omega
  ·rw [if_neg (by simpa using h1)]
   split
   ·rw [List.length_cons]; omega
   ·exact ih
def fG (ks:List Nat) (S:List (Nat × Nat)):List Nat:=(fU ks.length S).map fun x=>ks.getD x 0
theorem Jk (ks:List Nat) (S:List (Nat × Nat)):wQ ks S=(fG ks S).map (good (cM ks.length S)):=by
 unfold wQ fG
 rw [List.map_map]
 rfl
theorem Gz {ks:List Nat} {S:List (Nat × Nat)} (hl:(cM ks.length S).length=(fU ks.length S).length) (f:Nat→Int):ap (YZ (stN ks S)) f=qU (fG ks S) (cM ks.length S) f:=by
 have hn:(cM ks.length S).Nodup:=List.nodup_range.filter _
 have tl:(fG ks S).length=(fU ks.length S).length:=by unfold fG; rw [List.length_map]
 have p1:((PySem.W.sortI ((fG ks S).map fun i=>((i:Nat):Int))).map Int.toNat).Perm (fG ks S):=by
  have:=(PySem.W.sortI_perm ((fG ks S).map fun i=>((i:Nat):Int))).map Int.toNat
  rw [List.map_map] at this
  have e:(fG ks S).map (Int.toNat∘fun i=>((i:Nat):Int))=fG ks S:=by
   conv=>rhs; rw [← List.map_id (fG ks S)]
   exact List.map_congr_left fun x _=>Int.toNat_natCast x
  rw [e] at this
  exact this
 have p2:((PySem.W.sortI ((fG ks S).map fun i=>((i:Nat):Int))).map Int.toNat).Pairwise (fun a b=>a≤b):=by
  rw [List.pairwise_map]
  exact (PySem.W.sortI_rises _).imp fun {a b} h=>by omega
 generalize hA:(PySem.W.sortI ((fG ks S).map fun i=>((i:Nat):Int))).map Int.toNat=A at p1 p2
 have e1:=Aq (p1.symm.trans (List.reverse_perm A).symm) (cM ks.length S) f hn
 have e2:=Y0 A.reverse (cM ks.length S) f hn (by rw [List.length_reverse,p1.length_eq,tl]; exact hl) (List.pairwise_reverse.mpr p2)
 rw [List.reverse_reverse] at e2
 rw [e1,← e2]
 congr 2
 have e3:(A.map (good (cM ks.length S))).map (fun i=>((i:Nat):Int))=PySem.W.sortI ((wQ ks S).map fun i=>((i:Nat):Int)):=by
  refine PySem.W.eq_sortI ?_ ?_
  ·rw [Jk]
   exact (p1.map _).map _
  ·rw [List.pairwise_map,List.pairwise_map]
   exact p2.imp fun {a b} h=>by have:=good_mono (cM ks.length S) h; omega
 unfold stN
 rw [← e3,List.map_map]
 conv=>rhs; rw [← List.map_id (A.map (good (cM ks.length S)))]
 exact List.map_congr_left fun x _=>Int.toNat_natCast x
def acJ (n:Nat) (c:Int) (w:Nat):Int:=if 0≤c+(w:Nat) then ((chI (c+(w:Nat)+n - 1) (n - 1):Nat):Int) else 0
def GD (q:Int) (ks:List Nat) (S:List (Nat × Nat)):Int:=qU (fG ks S) (cM ks.length S) (acJ ks.length (q - oX ks S - (fU ks.length S).length))
theorem Qm {q:Int} {ks:List Nat} {S:List (Nat × Nat)} (hl:(cM ks.length S).length=(fU ks.length S).length):Qi ks.length (wR q ks S (YZ (stN ks S)))=GD q ks S:=by
 have nn:∀w,0≤(YZ (stN ks S)).getD w 0:=fun w=>by
  rw [← Y4,Gz hl]
  exact tE _ _ _ fun i=>by split <;> omega
 unfold GD
 rw [← Gz hl,CP]
 unfold Qi wR Gy
 generalize YZ (stN ks S)=N at *
 show aQ _ (fun p:Int × Int=>p.2*((chI (p.1+ks.length - 1) (ks.length - 1):Nat):Int))=_
 rw [fj,Qa]
 refine aH fun w _=>?_
 have h0:=nn w
 unfold acJ
 by_cases h1:0≤q - oX ks S - (fU ks.length S).length+(w:Nat)
 ·rw [if_pos h1]
  by_cases h2:0<N.getD w 0
  ·rw [if_pos (by rw [Bool.and_eq_true]; exact ⟨decide_eq_true h1,decide_eq_true h2⟩)]
  ·rw [if_neg (by rw [Bool.and_eq_true]; exact fun z=>h2 (of_decide_eq_true z.2)),show N.getD w 0=0 by omega,Int.zero_mul]
 ·rw [if_neg h1,if_neg (by rw [Bool.and_eq_true]; exact fun z=>h1 (of_decide_eq_true z.1)),Int.mul_zero]
theorem jJ (n:Nat):∀(l:List Nat),l.Nodup→(∀x∈l,x<n)→((List.range n).filter fun s=>!l.contains s).length+l.length=n
 | [],_,_=>by
  have e:((List.range n).filter fun s=>!([]:List Nat).contains s)=List.range n:=List.filter_eq_self.mpr fun _ _=>rfl
  rw [e,List.length_range]
  rfl
 | x::l,hn,hl=>by
  obtain ⟨n1,n2⟩:=List.nodup_cons.mp hn
  have ih:=jJ n l n2 fun y hy=>hl y (List.mem_cons_of_mem _ hy)
  have hx:x∈(List.range n).filter fun s=>!l.contains s:=List.mem_filter.mpr ⟨List.mem_range.mpr (hl x List.mem_cons_self),by simpa using n1⟩
  have e:((List.range n).filter fun s=>!(x::l).contains s)=((List.range n).filter fun s=>!l.contains s).erase x:=by
   rw [List.Nodup.erase_eq_filter (List.nodup_range.filter _),List.filter_filter]
   refine List.filter_congr fun s _=>?_
   rw [List.contains_cons,Bool.not_or]
   rfl
  have p:=List.length_pos_of_mem hx
  rw [e,List.length_erase_of_mem hx,List.length_cons]
  omega
structure mO (n:Nat) (S:List (Nat × Nat)):Prop where
 keys:(S.map (·.1)).Nodup
 vals:(S.map (·.2)).Nodup
 klt:∀p∈S,p.1<n
 vlt:∀p∈S,p.2<n
theorem mO.same {n:Nat} {S:List (Nat × Nat)} (h:mO n S):(cM n S).length=(fU n S).length:=by
 have a:=jJ n (S.map (·.2)) h.vals fun x hx=>by
  obtain ⟨p,hp,rfl⟩:=List.mem_map.mp hx
  exact h.vlt p hp
 have b:=jJ n (S.map (·.1)) h.keys fun x hx=>by
  obtain ⟨p,hp,rfl⟩:=List.mem_map.mp hx
  exact h.klt p hp
 rw [List.length_map] at a b
 unfold cM fU
 omega
theorem mO.len {n:Nat} {S:List (Nat × Nat)} (h:mO n S):S.length≤n:=by
 have b:=jJ n (S.map (·.1)) h.keys fun x hx=>by
  obtain ⟨p,hp,rfl⟩:=List.mem_map.mp hx
  exact h.klt p hp
 rw [List.length_map] at b
 omega
def Y5 (run:List En→R En):Prop:=∀(d:D) (q:Int) (ks:List Nat) (S:List (Nat × Nat)),Sq d (nD ks)→1≤ks.length→ks.length≤18→mO ks.length S→q<2^150→Ret run [.fr d,.fr (.int q),.fr (W3 S)] (.fr (.int (GD q ks S)))
theorem Ql.way {run:List En→R En} (h:Ql run):Y5 run:=fun d q ks S h1 h2 h3 h4 h5=>by
 rw [← Qm h4.same]
 exact h d q ks S h1 h2 h3 h4.klt (by have:=h4.len; omega) h5
end DM
end
section
set_option exponentiation.threshold 10000
namespace DM
open PySem L2 DM
/-! ak0: how many states: quota_of, many_with, lot_many on data. -/
theorem Ar {n:Nat} (h0:0<n):∀(q:List Nat) (ns:List Int),∀x∈aK n q ns,0≤x∧x<(n:Int)
 | [],ns,x,h=>by simp [aK] at h
 | a::q,[],x,h=>by simp [aK] at h
 | a::q,b::ns,x,h=>by
  have e:aK n (a::q) (b::ns)=(((a:Nat):Int)+b)%(n:Int)::aK n q ns:=rfl
  rw [e] at h
  rcases List.mem_cons.mp h with rfl | h
  ·exact ⟨Int.emod_nonneg _ (by omega),Int.emod_lt_of_pos _ (by omega)⟩
  ·exact Ar h0 q ns x h
def bO (n:Nat) (q:List Nat) (ns:List Int):List Nat:=(aK n q ns).map Int.toNat
theorem vg {n:Nat} {q:List Nat} {ns:List Int} (h:q.length=n) (h2:ns.length=n):(bO n q ns).length=n:=by
 unfold bO aK
 rw [List.length_map,List.length_zipWith,h,h2,Nat.min_self]
def Av (ks:List Nat) (K:Int):Int:=K - oK ks+((ks.length:Nat):Int)*(((ks.length:Nat):Int) - 1) / 2
def Y6 (ks:List Nat) (K:Int):Bool:=decide (Av ks K%((ks.length:Nat):Int)=0)&&decide (0≤Av ks K / ((ks.length:Nat):Int))
def acK (ks:List Nat) (K:Int):Int:=if Y6 ks K then GD (Av ks K / ((ks.length:Nat):Int)) ks [] else 0
def Y7 (n:Nat) (q:List Nat) (bs:List Int):Int:=acK (bO n q bs) bs.sum
end DM
end
section
set_option exponentiation.threshold 10000
namespace DM
open PySem L2 DM
/-! ak1: the law's own count: all seatings, gone through one by one. -/
def acL (F b:List Nat):List (List Nat):=(F.filter fun x=>!b.contains x).map fun x=>b++[x]
def RX (F:List Nat):Nat→List (List Nat)
 | 0=>[[]]
 | k+1=>(RX F k).flatMap (acL F)
structure acM (F:List Nat) (k:Nat) (b:List Nat):Prop where
 len:b.length=k
 nodup:b.Nodup
 sub:∀x∈b,x∈F
theorem GJ {F:List Nat}:∀{k:Nat} {b:List Nat},b∈RX F k→acM F k b
 | 0,b,h=>by
  cases List.mem_singleton.mp h
  exact ⟨rfl,List.nodup_nil,fun x hx=>absurd hx List.not_mem_nil⟩
 | k+1,b,h=>by
  obtain ⟨c,hc,h⟩:=List.mem_flatMap.mp h
  obtain ⟨x,hx,rfl⟩:=List.mem_map.mp h
  obtain ⟨h1,h2⟩:=List.mem_filter.mp hx
  have p:=GJ hc
  have h2:x∉c:=by simpa using h2
  refine ⟨by rw [List.length_append,p.len]; rfl,List.nodup_append.mpr ⟨p.nodup,List.nodup_cons.mpr ⟨List.not_mem_nil,List.nodup_nil⟩,fun a ha y hy=>?_⟩,fun y hy=>?_⟩
  ·rw [List.mem_singleton.mp hy]
   exact fun e=>h2 (e▸ha)
  ·rcases List.mem_append.mp hy with hy | hy
   ·exact p.sub y hy
   ·rw [List.mem_singleton.mp hy]; exact h1
def W4:List Nat→List Nat→Nat
 | t::ts,s::b=>(if s≤t then 1 else 0)+W4 ts b
 | _,_=>0
end DM
end
section
namespace DM
open PySem L2
/-! ak2: passes and lots: rows, rows back, rows twice. -/
theorem Ml.lot {n:Nat} {q q2:List Nat} {b b2:List Int} (m:Ml n q b q2 b2):Y7 n q b=Y7 n q2 b2:=by
 unfold Y7 bO
 rw [m.kept,m.sum]
end DM
end
section
namespace DM
open PySem L2 DM
/-! ak3: what goes on from seated people, by any weight of the rounds left; and by the seat of one person more. -/
def jr (q:Int) (ks:List Nat) (S:List (Nat × Nat)):Int:=q - oX ks S - (fU ks.length S).length
def jY (q:Int) (ks:List Nat) (S:List (Nat × Nat)) (g:Int→Int):Int:=qU (fG ks S) (cM ks.length S) (fun w=>if 0≤jr q ks S+(w:Nat) then g (jr q ks S+(w:Nat)) else 0)
section
variable {n:Nat} {ks:List Nat} {S:List (Nat × Nat)} {who s:Nat}
theorem Ax (hw:who<n) (h:who∉S.map (·.1)):(fU n S).Perm (who::fU n (S++[(who,s)])):=by
 have e:fU n (S++[(who,s)])=(fU n S).erase who:=by
  unfold fU
  rw [List.Nodup.erase_eq_filter (List.nodup_range.filter _),List.filter_filter]
  refine List.filter_congr fun x _=>?_
  rw [List.map_append]
  have e:(S.map (·.1)++[(who,s)].map (·.1)).contains x=((S.map (·.1)).contains x || x == who):=by
   rw [Bool.eq_iff_iff]
   simp
  rw [e,Bool.not_or,Bool.and_comm]
  rfl
 rw [e]
 exact List.perm_cons_erase (List.mem_filter.mpr ⟨List.mem_range.mpr hw,by simpa using h⟩)
theorem Jl:cM n (S++[(who,s)])=(cM n S).erase s:=by
 unfold cM
 rw [List.Nodup.erase_eq_filter (List.nodup_range.filter _),List.filter_filter]
 refine List.filter_congr fun x _=>?_
 rw [List.map_append]
 have e:(S.map (·.2)++[(who,s)].map (·.2)).contains x=((S.map (·.2)).contains x || x == s):=by
  rw [Bool.eq_iff_iff]
  simp
 rw [e,Bool.not_or,Bool.and_comm]
 rfl
theorem Qn:oX ks (S++[(who,s)])=oX ks S+(if ks.getD who 0<s then 1 else 0):=by
 unfold oX
 rw [List.filter_append,List.length_append]
 congr 1
 by_cases h:ks.getD who 0<s
 ·rw [if_pos h,List.filter_cons,if_pos (decide_eq_true h)]
  rfl
 ·rw [if_neg h,List.filter_cons,if_neg (by simpa using h)]
  rfl
theorem Ay (q:Int) (g:Int→Int) (hw:who<ks.length) (h:who∉S.map (·.1)):jY q ks S g=aQ (cM ks.length S) fun s=>jY q ks (S++[(who,s)]) g:=by
 have hp:∀s,(fG ks S).Perm (ks.getD who 0::fG ks (S++[(who,s)])):=fun s=>(Ax (s:=s) hw h).map fun x=>ks.getD x 0
 have hn:(cM ks.length S).Nodup:=List.nodup_range.filter _
 have hl:∀s,((fU ks.length (S++[(who,s)])).length:Int)=(fU ks.length S).length - 1:=fun s=>by
  have:=(Ax (s:=s) hw h).length_eq
  rw [List.length_cons] at this
  omega
 have ht:∀s,fG ks (S++[(who,s)])=fG ks (S++[(who,0)]):=fun s=>by
  unfold fG fU
  rw [List.map_append,List.map_append]
  rfl
 unfold jY
 rw [Aq (hp 0) _ _ hn]
 show aQ (cM ks.length S) _=_
 refine aH fun s _=>?_
 rw [ht s,Jl]
 refine vf _ _ _ _ fun i _=>?_
 have hc:jr q ks (S++[(who,s)])=jr q ks S+(if s≤ks.getD who 0 then 1 else 0):=by
  unfold jr
  rw [hl s,Qn]
  by_cases z:s≤ks.getD who 0
  ·rw [if_pos z,if_neg (by omega)]; omega
  ·rw [if_neg z,if_pos (by omega)]; omega
 rw [hc]
 by_cases z:s≤ks.getD who 0
 ·rw [if_pos z,if_pos z]
  show (if 0≤jr q ks S+((i+1:Nat):Int) then g (jr q ks S+((i+1:Nat):Int)) else 0)=_
  rw [show jr q ks S+((i+1:Nat):Int)=jr q ks S+1+(i:Nat) by omega]
 ·rw [if_neg z,if_neg z,Int.add_zero]
end
end DM
end
section
set_option maxHeartbeats 1000000
namespace DM
open PySem L2
/-! ak4: lots, when the people have other numbers, and when Jm moves on by some seats. -/
section
variable {n:Nat} {π q q2:List Nat} {bs b2:List Int}
theorem Qo (h1:q.length=n) (h2:bs.length=n) {i:Nat} (hi:i<n):(((bO n q bs).getD i 0:Nat):Int)=(((q.getD i 0:Nat):Int)+bs.getD i 0)%(n:Int):=by
 rw [← oM h1 h2 hi]
 have hl:(aK n q bs).length=n:=by unfold aK; rw [List.length_zipWith,h1,h2,Nat.min_self]
 have e:=List.getElem?_eq_getElem (show i<(aK n q bs).length by omega)
 unfold bO
 rw [List.getD_eq_getElem?_getD,List.getElem?_map,getD_at e,e]
 have:=Ar (show 0<n by omega) q bs _ (List.getElem_mem (show i<(aK n q bs).length by omega))
 show (((aK n q bs)[i].toNat:Nat):Int)=_
 omega
def psN (n y:Nat) (q:List Nat):List Nat:=q.map fun c=>(c+y)%n
end
end DM
end
section
namespace DM
open PySem L2 DM
/-! ak5: a state's residues have a quota. -/
end DM
end
section
set_option exponentiation.threshold 10000
namespace DM
open PySem L2 DM
/-! ak6: wishes on data: share_ways, held_rounds, open_people. -/
abbrev dI:=List (Option Nat × Option Int)
def oN:Option Nat→D
 | none=>.non
 | some s=>.int (s:Nat)
def oI:Option Int→D
 | none=>.non
 | some s=>.int s
def itD (x:Option Nat × Option Int):D:=.tup [oN x.1,oI x.2]
def wiD (w:dI):List D:=w.map itD
def itH:Bool→Option Nat × Option Int→D
 | true,x=>.tup [oN x.1,oI x.2]
 | false,x=>.lst [oN x.1,oI x.2]
def wiH (hh:Bool) (w:dI):List D:=w.map (itH hh)
theorem U0 (hh:Bool) (w:dI):(wiH hh w).length=w.length:=by unfold wiH; rw [List.length_map]
def SqW (d:D) (w:dI):Prop:=∃hh,Sq d (wiH hh w)
theorem SqW.of {d:D} {w:dI} (h:Sq d (wiD w)):SqW d w:=⟨true,h⟩
theorem SqW.len {d:D} {w:dI} (h:SqW d w):Ij [.fr d]=↥(w.length:Nat):=by
 obtain ⟨hh,h⟩:=h
 rw [h.len,U0]
def shW (r:Int) (m:Nat):Int:=if m=0∨r<0 then (if m=0∧r=0 then 1 else 0) else ((chI (r+m - 1) (m - 1):Nat):Int)
def Az (n:Nat) (w:dI):Int:=(w.map fun x=>match x.2 with | some c=>c / (n:Int) | none=>0).sum
end DM
end
section
set_option exponentiation.threshold 10000
namespace DM
open PySem L2 DM
/-! ala: wishes on data: open_people, ways_to_meet. -/
def Ba (w:dI):Nat:=(w.filter fun x=>x.2.isNone).length
def Y8 (n:Nat) (q:List Nat) (b:List Int) (w:dI) (S:List (Nat × Nat)):Int:=jY (Av (bO n q b) b.sum / (n:Int)) (bO n q b) S fun x=>shW (x - Az n w) (Ba w)
end DM
end
section
namespace DM
open PySem L2 DM
/-! alb: wishes on data: seat_of. -/
def j5 (k:Int) (n:Nat):Option Nat→Option Int→Option Int
 | none,none=>none
 | some s,none=>if s<n then some (s:Nat) else some (-1)
 | none,some c=>some ((k - c)%(n:Int))
 | some s,some c=>if ((s:Nat):Int)=(k - c)%(n:Int) then some ((k - c)%(n:Int)) else some (-1)
end DM
end
section
set_option maxHeartbeats 1000000
namespace DM
open PySem L2
/-! alc: seats moved on: lots, exchanges, the state after one. -/
theorem GX {F:List Nat}:∀{k:Nat} {b:List Nat},acM F k b→b∈RX F k
 | 0,b,h=>by
  have:=List.length_eq_zero_iff.mp h.len
  subst this
  exact List.mem_singleton.mpr rfl
 | k+1,b,h=>by
  have hl:=h.len
  have hne:b≠[]:=fun z=>by subst z; simp at hl
  have e:=List.dropLast_concat_getLast hne
  generalize b.getLast hne=x at e
  generalize hc:b.dropLast=c at e
  subst e
  rw [List.length_append] at hl
  have nd:=List.nodup_append.mp h.nodup
  refine List.mem_flatMap.mpr ⟨c,GX ⟨by simpa using hl,nd.1,fun y hy=>h.sub y (List.mem_append_left _ hy)⟩,?_⟩
  refine List.mem_map.mpr ⟨x,List.mem_filter.mpr ⟨h.sub x (List.mem_append_right _ List.mem_cons_self),?_⟩,rfl⟩
  have:x∉c:=fun hx=>nd.2.2 x hx x List.mem_cons_self rfl
  simpa using this
theorem vh {F:List Nat} (hF:F.Nodup):∀k,(RX F k).Nodup
 | 0=>List.nodup_cons.mpr ⟨List.not_mem_nil,List.nodup_nil⟩
 | k+1=>by
  refine List.pairwise_flatMap.mpr ⟨fun b _=>?_,?_⟩
  ·unfold acL
   refine List.pairwise_map.mpr ((hF.filter _).imp fun {x y} hne z=>hne ?_)
   have:=List.append_cancel_left z
   injection this
  ·refine (vh hF k).imp fun {a b} hne x hx y hy z=>hne ?_
   obtain ⟨u,_,rfl⟩:=List.mem_map.mp hx
   obtain ⟨v,_,rfl⟩:=List.mem_map.mp hy
   exact (List.append_inj' z rfl).1
section
variable {n:Nat} {q q' ks:List Nat} {bs bs':List Int}
theorem pX {b:List Nat}:b∈RX (List.range n) n↔aX n b:=⟨fun h=>⟨(GJ h).len,(GJ h).nodup,fun x hx=>List.mem_range.mp ((GJ h).sub x hx)⟩,fun h=>GX ⟨h.1,h.2.1,fun x hx=>List.mem_range.mpr (h.2.2 x hx)⟩⟩
end
end DM
end
section
namespace DM
open PySem L2
/-! ald: the law's renaming and moving on, on data. -/
theorem GZ {α:Type} (z:α) {l:List α} {i:Nat} (h:i<l.length):l[i]?=some (l.getD i z):=by
 rw [List.getD_eq_getElem?_getD,List.getElem?_eq_getElem h]
 rfl
end DM
end
section
namespace DM
open PySem L2 DM
/-! ale: wishes on data: seats_of. -/
def iY (ks:List Nat):dI→Nat→List (Nat × Nat)→Option (List (Nat × Nat))
 | [],_,S=>some S
 | (s,c)::w,j,S=>match j5 (ks.getD j 0:Nat) ks.length s c with
  | none=>iY ks w (j+1) S
  | some v=>if v<0∨v.toNat∈S.map (·.2) then none else iY ks w (j+1) (S++[(j,v.toNat)])
end DM
end
section
namespace DM
open PySem L2 DM
/-! alf: who a wish seats: each on a seat of his own. -/
end DM
end
section
set_option exponentiation.threshold 10000
namespace DM
open PySem L2 DM
/-! alg: wish_many on data. -/
def Qp (n:Nat) (q:List Nat) (b:List Int) (w:dI):Int:=match iY (bO n q b) w 0 [] with
 | none=>0
 | some S=>Y8 n q b w S
end DM
end
section
namespace DM
open PySem L2 DM
/-! alh: the order in which people are seated does not matter; shares by the first one's share. -/
theorem mQ {l r:List Nat} (h:l.Perm r) (x:Nat):l.contains x=r.contains x:=by
 rw [Bool.eq_iff_iff]
 simp [h.mem_iff]
theorem CQ {S S':List (Nat × Nat)} (h:S.Perm S') (q:Int) (ks:List Nat) (g:Int→Int):jY q ks S g=jY q ks S' g:=by
 have f:cM ks.length S=cM ks.length S':=by
  unfold cM
  exact List.filter_congr fun x _=>by rw [mQ (h.map _)]
 have o:fU ks.length S=fU ks.length S':=by
  unfold fU
  exact List.filter_congr fun x _=>by rw [mQ (h.map _)]
 have b:oX ks S=oX ks S':=by
  unfold oX
  exact (h.filter _).length_eq
 have t:fG ks S=fG ks S':=by
  unfold fG
  rw [o]
 unfold jY jr
 rw [f,o,b,t]
end DM
end
section
namespace DM
open PySem L2 DM
/-! ali: what iY tells, at once. -/
def bJ (ks:List Nat):dI→Nat→List (Nat × Int)
 | [],_=>[]
 | (s,c)::w,j=>match j5 (ks.getD j 0:Nat) ks.length s c with
  | none=>bJ ks w (j+1)
  | some v=>(j,v)::bJ ks w (j+1)
def Jo (p:Nat × Int):Nat × Nat:=(p.1,p.2.toNat)
def Qq (S:List (Nat × Nat)) (D:List (Nat × Int)):Prop:=(∀p∈D,0≤p.2)∧(S.map (·.2)++D.map fun p=>p.2.toNat).Nodup
theorem nj {ks:List Nat}:∀(w:dI) (j:Nat) (S:List (Nat × Nat)),Qq S (bJ ks w j)→iY ks w j S=some (S++(bJ ks w j).map Jo)
 | [],j,S,_=>by
  show some S=some (S++[])
  rw [List.append_nil]
 | (s,c)::w,j,S,h=>by
  have ef:iY ks ((s,c)::w) j S=(match j5 (ks.getD j 0:Nat) ks.length s c with
   | none=>iY ks w (j+1) S
   | some v=>if v<0∨v.toNat∈S.map (·.2) then none else iY ks w (j+1) (S++[(j,v.toNat)])):=rfl
  have ed:bJ ks ((s,c)::w) j=(match j5 (ks.getD j 0:Nat) ks.length s c with
   | none=>bJ ks w (j+1)
   | some v=>(j,v)::bJ ks w (j+1)):=rfl
  cases hd:j5 (ks.getD j 0:Nat) ks.length s c with
  | none =>
   rw [hd] at ef ed
   rw [ef,ed]
   rw [ed] at h
   exact nj w (j+1) S h
  | some v =>
   rw [hd] at ef ed
   have ed:bJ ks ((s,c)::w) j=(j,v)::bJ ks w (j+1):=ed
   rw [ed] at h ⊢
   obtain ⟨h1,h2⟩:=h
   have hv:=h1 (j,v) List.mem_cons_self
   rw [List.map_cons] at h2
   have hn:v.toNat∉S.map (·.2):=fun z=>(List.nodup_append.mp h2).2.2 _ z _ List.mem_cons_self rfl
   have hb:¬(v<0∨v.toNat∈S.map (·.2)):=fun z=>by
    rcases z with z | z
    ·have hv:0≤v:=hv
     omega
    ·exact hn z
   have e:iY ks ((s,c)::w) j S=iY ks w (j+1) (S++[(j,v.toNat)]):=ef.trans (if_neg hb)
   rw [e,nj w (j+1) (S++[(j,v.toNat)]) ⟨fun p hp=>h1 p (List.mem_cons_of_mem _ hp),by
    rw [List.map_append,List.append_assoc]
    exact h2⟩,List.append_assoc]
   rfl
end DM
end
section
namespace DM
open PySem L2 DM
/-! alj: wishes divided by the seats and the purses of one person. -/
end DM
end
section
namespace DM
open PySem L2 DM
/-! alk: a wish with one Qs item put in. -/
section
variable {ks:List Nat}
theorem tG:∀(w:dI) (j:Nat),∀p∈bJ ks w j,j≤p.1∧p.1<j+w.length∧∃x,w[p.1 - j]?=some x∧j5 (ks.getD p.1 0:Nat) ks.length x.1 x.2=some p.2
 | [],j,p,h=>absurd h List.not_mem_nil
 | (s,c)::w,j,p,h=>by
  have ed:bJ ks ((s,c)::w) j=(match j5 (ks.getD j 0:Nat) ks.length s c with
   | none=>bJ ks w (j+1)
   | some v=>(j,v)::bJ ks w (j+1)):=rfl
  have go:p∈bJ ks w (j+1)→j≤p.1∧p.1<j+((s,c)::w).length∧∃x,((s,c)::w)[p.1 - j]?=some x∧j5 (ks.getD p.1 0:Nat) ks.length x.1 x.2=some p.2:=fun h=>by
   obtain ⟨h1,h2,x,h3,h4⟩:=tG w (j+1) p h
   refine ⟨by omega,by rw [List.length_cons]; omega,x,?_,h4⟩
   rw [show p.1 - j=(p.1 - (j+1))+1 by omega]
   exact h3
  cases hd:j5 (ks.getD j 0:Nat) ks.length s c with
  | none =>
   rw [hd] at ed
   have ed:bJ ks ((s,c)::w) j=bJ ks w (j+1):=ed
   exact go (ed▸h)
  | some v =>
   rw [hd] at ed
   have ed:bJ ks ((s,c)::w) j=(j,v)::bJ ks w (j+1):=ed
   have h:p∈(j,v)::bJ ks w (j+1):=ed▸h
   rcases List.mem_cons.mp h with rfl | h
   ·refine ⟨Nat.le_refl _,by rw [List.length_cons]; show j<_; omega,(s,c),?_,hd⟩
    show ((s,c)::w)[j - j]?=_
    rw [Nat.sub_self]
    rfl
   ·exact go h
theorem pY:∀(w:dI) (j:Nat),((bJ ks w j).map (·.1)).Pairwise (·<·)
 | [],j=>List.Pairwise.nil
 | (s,c)::w,j=>by
  have ed:bJ ks ((s,c)::w) j=(match j5 (ks.getD j 0:Nat) ks.length s c with
   | none=>bJ ks w (j+1)
   | some v=>(j,v)::bJ ks w (j+1)):=rfl
  have ih:=pY w (j+1)
  cases hd:j5 (ks.getD j 0:Nat) ks.length s c with
  | none =>
   rw [hd] at ed
   rw [ed]
   exact ih
  | some v =>
   rw [hd] at ed
   rw [ed]
   refine List.pairwise_cons.mpr ⟨fun y hy=>?_,ih⟩
   obtain ⟨p,hp,rfl⟩:=List.mem_map.mp hy
   exact (tG w (j+1) p hp).1
def hx (n:Nat):Option Int→Int
 | some c=>c / (n:Int)
 | none=>0
def ox:Option Int→Nat
 | some _=>0
 | none=>1
end
section
variable {n:Nat} {q:List Nat} {b:List Int} {w1 w2:dI}
def qOf (n:Nat) (q:List Nat) (b:List Int):Int:=Av (bO n q b) b.sum / (n:Int)
end
end DM
end
section
namespace DM
open PySem L2 DM
/-! alm: wishes whose items are those of a state; two people on one seat. -/
def Y9 (q:List Nat) (b:List Int) (i:Nat) (x:Option Nat × Option Int):Prop:=(x.1=none∨x.1=some (q.getD i 0))∧(x.2=none∨x.2=some (b.getD i 0))
def wU (q:List Nat) (b:List Int) (w:dI):Prop:=∀(i:Nat) (x:Option Nat × Option Int),w[i]?=some x→Y9 q b i x
section
variable {n:Nat} {q:List Nat} {b:List Int} {w w1 w2:dI}
theorem nu (g:Gd n q b) {i:Nat} (hi:i<n):q.getD i 0<n:=by
 have hq:=g.dR
 rw [List.getD_eq_getElem?_getD,List.getElem?_eq_getElem (show i<q.length by omega)]
 exact g.seats.2.2 _ (List.getElem_mem _)
theorem Jp (g:Gd n q b) {i:Nat} (hi:i<n):((((bO n q b).getD i 0:Nat):Int) - b.getD i 0)%(n:Int)=(q.getD i 0:Nat):=by
 have hs:=nu g hi
 rw [Qo g.dR g.len hi,Int.sub_emod,Int.emod_emod,← Int.sub_emod,show ((q.getD i 0:Nat):Int)+b.getD i 0 - b.getD i 0=(q.getD i 0:Nat) by omega]
 exact Int.emod_eq_of_lt (by omega) (by omega)
theorem Qt (g:Gd n q b) {i:Nat} (hi:i<n) {x:Option Nat × Option Int} (h:Y9 q b i x) {v:Int} (hv:j5 ((bO n q b).getD i 0:Nat) n x.1 x.2=some v):v=(q.getD i 0:Nat):=by
 obtain ⟨s,c⟩:=x
 have hs:=nu g hi
 have hd:=Jp g hi
 rcases h with ⟨h1 | h1,h2 | h2⟩
 ·have h1:s=none:=h1
  have h2:c=none:=h2
  subst h1 h2
  cases hv
 ·have h1:s=none:=h1
  have h2:c=some (b.getD i 0):=h2
  subst h1 h2
  have hv:some (((((bO n q b).getD i 0:Nat):Int) - b.getD i 0)%(n:Int))=some v:=hv
  injection hv with hv
  omega
 ·have h1:s=some (q.getD i 0):=h1
  have h2:c=none:=h2
  subst h1 h2
  have hv:(if q.getD i 0<n then some ((q.getD i 0:Nat):Int) else some (-1))=some v:=hv
  rw [if_pos hs] at hv
  injection hv with hv
  omega
 ·have h1:s=some (q.getD i 0):=h1
  have h2:c=some (b.getD i 0):=h2
  subst h1 h2
  have hv:(if ((q.getD i 0:Nat):Int)=((((bO n q b).getD i 0:Nat):Int) - b.getD i 0)%(n:Int) then some (((((bO n q b).getD i 0:Nat):Int) - b.getD i 0)%(n:Int)) else some (-1))=some v:=hv
  rw [if_pos hd.symm] at hv
  injection hv with hv
  omega
theorem Bb {α:Type} {f:α→Nat}:∀{l:List α},(l.map f).Nodup→∀a∈l,∀c∈l,f a=f c→a=c
 | [],_,a,ha,_,_,_=>absurd ha List.not_mem_nil
 | x::l,h,a,ha,c,hc,e=>by
  rw [List.map_cons] at h
  obtain ⟨h1,h2⟩:=List.nodup_cons.mp h
  rcases List.mem_cons.mp ha with ea | ha
  ·rcases List.mem_cons.mp hc with ec | hc
   ·rw [ea,ec]
   ·exact absurd (by rw [← ea,e]; exact List.mem_map_of_mem hc) h1
  ·rcases List.mem_cons.mp hc with ec | hc
   ·exact absurd (by rw [← ec,← e]; exact List.mem_map_of_mem ha) h1
   ·exact Bb h2 a ha c hc e
theorem vm {α:Type} (f g:α→Nat):∀{l:List α},(l.map f).Nodup→(∀a∈l,∀c∈l,g a=g c→f a=f c)→(l.map g).Nodup
 | [],_,_=>List.nodup_nil
 | x::l,h,hg=>by
  rw [List.map_cons] at h ⊢
  obtain ⟨h1,h2⟩:=List.nodup_cons.mp h
  refine List.nodup_cons.mpr ⟨fun hx=>?_,vm f g h2 fun a ha c hc=>hg a (List.mem_cons_of_mem _ ha) c (List.mem_cons_of_mem _ hc)⟩
  obtain ⟨y,hy,e⟩:=List.mem_map.mp hx
  have:=hg x List.mem_cons_self y (List.mem_cons_of_mem _ hy) e.symm
  exact h1 (this▸List.mem_map_of_mem hy)
theorem vo {ks:List Nat}:∀(w:dI) (j i:Nat) (x:Option Nat × Option Int) (v:Int),w[i]?=some x→j5 (ks.getD (j+i) 0:Nat) ks.length x.1 x.2=some v→(j+i,v)∈bJ ks w j
 | [],j,i,x,v,h,_=>by simp at h
 | (s,c)::w,j,i,x,v,h,hd=>by
  have ed:bJ ks ((s,c)::w) j=(match j5 (ks.getD j 0:Nat) ks.length s c with
   | none=>bJ ks w (j+1)
   | some v=>(j,v)::bJ ks w (j+1)):=rfl
  cases i with
  | zero =>
   have h:some (s,c)=some x:=h
   injection h with h
   subst h
   have hd:j5 (ks.getD j 0:Nat) ks.length s c=some v:=hd
   rw [ed,hd]
   exact List.mem_cons_self
  | succ i =>
   have ih:=vo w (j+1) i x v h (by rw [show j+1+i=j+(i+1) by omega]; exact hd)
   rw [show j+1+i=j+(i+1) by omega] at ih
   rw [ed]
   cases j5 (ks.getD j 0:Nat) ks.length s c with
   | none=>exact ih
   | some u=>exact List.mem_cons_of_mem _ ih
end
end DM
end
section
set_option exponentiation.threshold 10000
namespace DM
open PySem L2 DM
/-! aln: how large an answer to a wish can be. -/
end DM
end
section
set_option exponentiation.threshold 30000
namespace DM
open PySem L2 DM
/-! alo: the greatest common divisor, fractions in lowest terms, on data. -/
section
variable {x0 x1:Option En}
end
end DM
end
section
set_option exponentiation.threshold 10000
namespace DM
open PySem L2 DM
/-! alp: the seats and the purses of one person over a lot, on data: seat_ways, purse_parts. -/
section
variable {cl:Nat→List En→R En}
end
end DM
end
section
set_option exponentiation.threshold 10000
namespace DM
open PySem L2 DM
/-! alq: the sums over one Qs seats: plain law. -/
section
variable {n who:Nat} {q:List Nat} {b:List Int}
end
/-! the sum of a first share -/
end DM
end
section
set_option exponentiation.threshold 10000
namespace DM
open PySem L2 DM
/-! alr: chances of seats, averages and ranges of purses, on data. -/
section
variable {cl:Nat→List En→R En}
end
end DM
end
section
set_option exponentiation.threshold 10000
namespace DM
open PySem L2 DM
/-! als: wishes that ask for one person alone: plain law. -/
section
variable {n who:Nat} {q:List Nat} {b:List Int}
end
end DM
end
section
set_option maxHeartbeats 1000000
set_option exponentiation.threshold 10000
namespace DM
open PySem L2
end DM
end
section
set_option exponentiation.threshold 10000
namespace DM
open PySem L2
/-! alu: the acO own defs of the third kind: exchanges, rows, random states. -/
end DM
end
section
set_option exponentiation.threshold 10000
namespace DM
open PySem L2
/-! alv: random states and rows of the third kind. -/
end DM
end
section
namespace DM
open PySem L2
/-! alw: rows and distances, one purse greater in both. -/
section
variable {n w:Nat} {q q2:List Nat} {b b2:List Int} {c:Int}
end
end DM
end
section
namespace DM
open PySem L2 DM
/-! alx: steps that the laws about wishes share: an item put into a wish, and the call; loops that append. -/
end DM
end
section
namespace DM
open PySem L2 DM
/-! aly: drawn states with purses of any size (k50 to k59). -/
end DM
end
section
namespace DM
/-! alz: CT by number: plain law. -/
end DM
end
section
set_option exponentiation.threshold 10000
namespace DM
open PySem L2 DM
/-! alA: CT by number, on data: shares_before, share_at, shares_at. -/
section
variable {cl:Nat→List En→R En}
end
end DM
end
section
set_option exponentiation.threshold 10000
namespace DM
open PySem L2 DM
/-! alB: states by seats and number, on data: shares_number, least_purses, rounds_left, state_with. -/
section
variable {cl:Nat→List En→R En}
end
end DM
end
section
set_option exponentiation.threshold 10000
namespace DM
open PySem L2 DM
/-! alC: seated_with, and the steps of state_number and state_at, on data. -/
def frees (m:Nat) (S:List (Nat × Nat)):List Nat:=(List.range m).filter fun s=>!(S.map (·.2)).contains s
end DM
end
section
set_option exponentiation.threshold 10000
namespace DM
open PySem L2 DM
/-! alD: seatings by number: plain law. -/
def pre (q:List Nat) (j:Nat):List (Nat × Nat):=(List.range j).map fun i=>(i,q.getD i 0)
theorem U3 (q:List Nat) (j:Nat):(pre q j).map (·.1)=List.range j:=by
 unfold pre
 rw [List.map_map]
 exact List.map_id _
theorem U4 {q:List Nat} {j:Nat} (h:j≤q.length):(pre q j).map (·.2)=q.take j:=by
 unfold pre
 rw [List.map_map]
 refine List.ext_getElem (by rw [List.length_map,List.length_range,List.length_take]; omega) fun i h1 h2=>?_
 rw [List.getElem_map,List.getElem_range,List.getElem_take]
 rw [List.length_map,List.length_range] at h1
 show q.getD i 0=_
 rw [List.getD_eq_getElem?_getD,List.getElem?_eq_getElem (show i<q.length by omega)]
 rfl
theorem vp {n s:Nat} {S:List (Nat × Nat)}:s∈frees n S↔s<n∧s∉S.map (·.2):=by
 unfold frees
 rw [List.mem_filter,List.mem_range]
 constructor
 ·exact fun h=>⟨h.1,by simpa using h.2⟩
 ·exact fun h=>⟨h.1,by simpa using h.2⟩
theorem Jq {n j s:Nat} {S:List (Nat × Nat)} (P:mO n S) (hj:j<n) (hs:s<n) (h1:j∉S.map (·.1)) (h2:s∉S.map (·.2)):mO n (S++[(j,s)]):=by
 refine ⟨?_,?_,fun p hp=>?_,fun p hp=>?_⟩
 ·rw [List.map_append]
  refine List.nodup_append.mpr ⟨P.keys,List.nodup_cons.mpr ⟨List.not_mem_nil,List.nodup_nil⟩,fun a ha y hy=>?_⟩
  have hy:y=j:=List.mem_singleton.mp hy
  rw [hy]
  exact fun z=>h1 (z▸ha)
 ·rw [List.map_append]
  refine List.nodup_append.mpr ⟨P.vals,List.nodup_cons.mpr ⟨List.not_mem_nil,List.nodup_nil⟩,fun a ha y hy=>?_⟩
  have hy:y=s:=List.mem_singleton.mp hy
  rw [hy]
  exact fun z=>h2 (z▸ha)
 ·rcases List.mem_append.mp hp with hp | hp
  ·exact P.klt p hp
  ·rw [List.mem_singleton.mp hp]; exact hj
 ·rcases List.mem_append.mp hp with hp | hp
  ·exact P.vlt p hp
  ·rw [List.mem_singleton.mp hp]; exact hs
theorem Qu:∀(ks q:List Nat),ks.length=q.length→W4 ks q+((List.range ks.length).filter fun i=>decide (ks.getD i 0<q.getD i 0)).length=ks.length
 | [],[],_=>rfl
 | [],_::_,h=>by cases h
 | _::_,[],h=>by cases h
 | k::ks,s::q,h=>by
  have ih:=Qu ks q (by simpa using h)
  rw [List.length_cons,List.range_succ_eq_map,List.filter_cons,List.filter_map,]
  have e1:W4 (k::ks) (s::q)=(if s≤k then 1 else 0)+W4 ks q:=rfl
  have e2:(decide ((k::ks).getD 0 0<(s::q).getD 0 0))=decide (k<s):=rfl
  have e3:((fun i=>decide ((k::ks).getD i 0<(s::q).getD i 0))∘Nat.succ)=fun i=>decide (ks.getD i 0<q.getD i 0):=rfl
  rw [e1,e2,e3]
  by_cases z:s≤k
  ·rw [if_pos z,if_neg (by simp; omega),List.length_map]
   omega
  ·rw [if_neg z,if_pos (decide_eq_true (by omega)),List.length_cons,List.length_map]
   omega
theorem U5 (ks q:List Nat):oX ks (pre q ks.length)=((List.range ks.length).filter fun i=>decide (ks.getD i 0<q.getD i 0)).length:=by
 unfold oX pre
 rw [List.filter_map,List.length_map]
 rfl
theorem Qv (ks:List Nat) (q:List Nat):fU ks.length (pre q ks.length)=[]:=by
 unfold fU
 rw [U3]
 refine List.filter_eq_nil_iff.mpr fun x hx=>?_
 have:=List.mem_range.mp hx
 simp [this]
end DM
end
section
set_option exponentiation.threshold 10000
namespace DM
open PySem L2 DM
/-! alE: states of a lot by number: plain law, and state_number and state_at on data. -/
section
variable {n:Nat} {q:List Nat} {b:List Int}
end
/-! state_number on data -/
section
variable {cl:Nat→List En→R En} {n:Nat} {q2:List Nat} {b2:List Int}
end
end DM
end
section
set_option exponentiation.threshold 10000
namespace DM
open PySem L2 DM
/-! alF: state_at on data. -/
section
variable {cl:Nat→List En→R En}
end
end DM
end
section
namespace DM
open PySem L2 DM
/-! alG: more coins: the lot is at least as large, numbers go up with the first one's coins; equal tuples of integers. -/
section
variable {n w:Nat} {q:List Nat} {b:List Int} {c:Int}
end
end DM
end
section
set_option exponentiation.threshold 10000
namespace DM
open PySem L2
end DM
end
section
namespace DM
open PySem L2 DM
/-! alH: what goes on from seated people, as a sum over all seatings. -/
theorem Qw {α:Type} [DecidableEq α] {l:List α} (hn:l.Nodup) {a:α} (ha:a∈l) (c:Int):aQ l (fun x=>if x=a then c else 0)=c:=by
 induction l with
 | nil=>exact absurd ha List.not_mem_nil
 | cons x l ih =>
  obtain ⟨n1,n2⟩:=List.nodup_cons.mp hn
  rw [bW]
  rcases List.mem_cons.mp ha with h | ha
  ·rw [if_pos h.symm]
   have e:aQ l (fun x=>if x=a then c else 0)=aQ l (fun _=>0):=aH fun y hy=>if_neg fun z=>n1 (by rw [← h,← z]; exact hy)
   rw [e,lC,Int.add_zero]
  ·rw [if_neg fun z=>n1 (by rw [z]; exact ha),Int.zero_add]
   exact ih n2 ha
def ext (S:List (Nat × Nat)) (b:List Nat):Bool:=S.all fun p=>decide (b.getD p.1 0=p.2)
theorem U6 (S:List (Nat × Nat)) (j s:Nat) (b:List Nat):ext (S++[(j,s)]) b=(ext S b&&decide (b.getD j 0=s)):=by
 unfold ext
 rw [List.all_append]
 simp
def hB (g:Int→Int) (q0:Int) (ks b:List Nat):Int:=if 0≤q0+W4 ks b - ks.length then g (q0+W4 ks b - ks.length) else 0
theorem Qx {n:Nat} {a b:List Nat} (ha:a.length=n) (hb:b.length=n) (h:∀i,i<n→a.getD i 0=b.getD i 0):a=b:=by
 refine List.ext_getElem (by rw [ha,hb]) fun i h1 h2=>?_
 have:=h i (by omega)
 rw [List.getD_eq_getElem?_getD,List.getD_eq_getElem?_getD,List.getElem?_eq_getElem h1,List.getElem?_eq_getElem h2] at this
 exact this
theorem Bc {n:Nat} {S:List (Nat × Nat)} (P:mO n S) (hl:S.length=n):∃b:List Nat,aX n b∧ext S b=true∧S.Perm (pre b n):=by
 have pk:(S.map (·.1)).Perm (List.range n):=by
  refine (List.perm_ext_iff_of_nodup P.keys List.nodup_range).mpr fun x=>⟨fun h=>?_,fun h=>?_⟩
  ·obtain ⟨p,hp,rfl⟩:=List.mem_map.mp h
   exact List.mem_range.mpr (P.klt p hp)
  ·have hx:=List.mem_range.mp h
   by_cases z:x∈S.map (·.1)
   ·exact z
   ·exfalso
    have:=oH n (x::S.map (·.1)) (List.nodup_cons.mpr ⟨z,P.keys⟩) (fun k hk=>by
     rcases List.mem_cons.mp hk with rfl | hk
     ·exact hx
     ·obtain ⟨p,hp,rfl⟩:=List.mem_map.mp hk
      exact P.klt p hp)
    rw [List.length_cons,List.length_map,hl] at this
    omega
 obtain ⟨b,hb⟩:∃b:List Nat,b.length=n∧∀p∈S,b.getD p.1 0=p.2:=by
  refine ⟨(List.range n).map fun i=>((S.find? fun p=>p.1 == i).map (·.2)).getD 0,by rw [List.length_map,List.length_range],fun p hp=>?_⟩
  have h1:=P.klt p hp
  rw [List.getD_eq_getElem?_getD,List.getElem?_map,List.getElem?_range h1]
  show ((S.find? fun r=>r.1 == p.1).map (·.2)).getD 0=p.2
  cases hf:S.find? fun r=>r.1 == p.1 with
  | none =>
   have:=List.find?_eq_none.mp hf p hp
   simp at this
  | some r =>
   have h2:=List.find?_some hf
   have h3:=List.mem_of_find?_eq_some hf
   have h2:r.1=p.1:=by simpa using h2
   have:=Bb P.keys r h3 p hp h2
   rw [this]
   rfl
 obtain ⟨b1,b2⟩:=hb
 have bs:S.map (·.2)=(S.map (·.1)).map fun i=>b.getD i 0:=by
  rw [List.map_map]
  exact List.map_congr_left fun p hp=>(b2 p hp).symm
 have pb:S.Perm (pre b n):=by
  have e:S=(S.map (·.1)).map fun i=>(i,b.getD i 0):=by
   rw [List.map_map]
   conv=>lhs; rw [← List.map_id S]
   refine List.map_congr_left fun p hp=>?_
   show p=(p.1,b.getD p.1 0)
   rw [b2 p hp]
  rw [e]
  exact pk.map _
 have lb:(pre b n).map (·.2)=b:=by rw [U4 (by omega),List.take_of_length_le (by omega)]
 have vb:b.Perm (S.map (·.2)):=by
  have:=(pb.map (·.2)).symm
  rwa [lb] at this
 refine ⟨b,⟨b1,vb.nodup_iff.mpr P.vals,fun k hk=>?_⟩,?_,pb⟩
 ·obtain ⟨p,hp,rfl⟩:=List.mem_map.mp (vb.subset hk)
  exact P.vlt p hp
 ·unfold ext
  exact List.all_eq_true.mpr fun p hp=>decide_eq_true (b2 p hp)
theorem CV {q0:Int} {ks b:List Nat} (g:Int→Int) (hb:b.length=ks.length) (h0:0<ks.length):jY q0 ks (pre b ks.length) g=hB g q0 ks b:=by
 have wb:=Qu ks b hb.symm
 rw [← U5] at wb
 have ho:=Qv ks b
 have ht:fG ks (pre b ks.length)=[]:=by unfold fG; rw [ho]; rfl
 unfold jY hB
 rw [ht]
 show (if 0≤jr q0 ks (pre b ks.length)+((0:Nat):Int) then g (jr q0 ks (pre b ks.length)+((0:Nat):Int)) else 0)=_
 unfold jr
 rw [ho]
 have e:q0 - oX ks (pre b ks.length) - (([]:List Nat).length:Nat)+((0:Nat):Int)=q0+W4 ks b - ks.length:=by
  show q0 - oX ks (pre b ks.length) - ((0:Nat):Int)+((0:Nat):Int)=_
  omega
 rw [e]
theorem vq {q0:Int} {ks:List Nat} (g:Int→Int) (h0:0<ks.length):∀(m:Nat) (S:List (Nat × Nat)),mO ks.length S→S.length+m=ks.length→jY q0 ks S g=aQ ((RX (List.range ks.length) ks.length).filter (ext S)) (hB g q0 ks)
 | 0,S,P,hl=>by
  obtain ⟨b,hb,he,hp⟩:=Bc P hl
  rw [CQ hp,CV g hb.1 h0,fj]
  have e:aQ (RX (List.range ks.length) ks.length) (fun x=>if ext S x=true then hB g q0 ks x else 0)=aQ (RX (List.range ks.length) ks.length) (fun x=>if x=b then hB g q0 ks b else 0):=aH fun x hx=>by
   have hs:=pX.mp hx
   by_cases z:x=b
   ·rw [z,if_pos he,if_pos rfl]
   ·rw [if_neg z,if_neg fun y=>z ?_]
    refine Qx hs.1 hb.1 fun i hi=>?_
    have y:=List.all_eq_true.mp y
    have he:=List.all_eq_true.mp he
    have hm:(i,b.getD i 0)∈S:=hp.symm.subset (by
     unfold pre
     exact List.mem_map.mpr ⟨i,List.mem_range.mpr hi,rfl⟩)
    exact of_decide_eq_true (y _ hm)
  rw [e,Qw (vh List.nodup_range _) (pX.mpr hb)]
 | m+1,S,P,hl=>by
  obtain ⟨j,hj,hjS⟩:∃j,j<ks.length∧j∉S.map (·.1):=by
   by_cases z:∃j,j<ks.length∧j∉S.map (·.1)
   ·exact z
   ·exfalso
    have h:∀j∈List.range ks.length,j∈S.map (·.1):=fun j hj=>by
     by_cases y:j∈S.map (·.1)
     ·exact y
     ·exact absurd ⟨j,List.mem_range.mp hj,y⟩ z
    have:=List.Nodup.length_le_of_subset List.nodup_range h
    rw [List.length_range,List.length_map] at this
    omega
  rw [Ay _ _ hj hjS]
  have e1:aQ (cM ks.length S) (fun s=>jY q0 ks (S++[(j,s)]) g)=aQ (cM ks.length S) (fun s=>aQ (RX (List.range ks.length) ks.length) fun b=>if ext S b=true then (if s=b.getD j 0 then hB g q0 ks b else 0) else 0):=aH fun s hs=>by
   obtain ⟨s1,s2⟩:=vp.mp (show s∈frees ks.length S from hs)
   rw [vq g h0 m (S++[(j,s)]) (Jq P hj s1 hjS s2) (by rw [List.length_append,List.length_singleton]; omega),fj]
   refine aH fun b _=>?_
   rw [U6]
   by_cases z:ext S b=true
   ·rw [if_pos z,z,Bool.true_and]
    by_cases y:b.getD j 0=s
    ·rw [if_pos (decide_eq_true y),if_pos y.symm]
    ·rw [if_neg (by simpa using y),if_neg fun w=>y w.symm]
   ·have z':ext S b=false:=by simpa using z
    rw [if_neg z,z',Bool.false_and,if_neg (by decide)]
  rw [e1,wM,fj]
  refine aH fun b hb=>?_
  have hs:=pX.mp hb
  by_cases z:ext S b=true
  ·simp only [if_pos z]
   refine Qw (List.nodup_range.filter _) (show b.getD j 0∈frees ks.length S from vp.mpr ⟨DM.Uu hs hj,fun w=>?_⟩) _
   obtain ⟨p,hp,e⟩:=List.mem_map.mp w
   have e2:=of_decide_eq_true (List.all_eq_true.mp z p hp)
   have pj:p.1≠j:=fun y=>hjS (by rw [← y]; exact List.mem_map_of_mem hp)
   have hbl:=hs.1
   have g1:b[p.1]?=some (b.getD p.1 0):=GZ 0 (by rw [hbl]; exact P.klt p hp)
   have g2:b[j]?=some (b.getD j 0):=GZ 0 (by omega)
   rw [e2,e] at g1
   exact pj (lO hs g1 g2)
  ·simp only [if_neg z]
   exact lC _
end DM
end
section
namespace DM
open PySem L2 DM
/-! alI: chances, averages and ranges of Jm: plain law. -/
section
variable {n who:Nat} {q:List Nat} {b:List Int}
def xB (n:Nat) (q:List Nat) (b:List Int) (x:List Nat):Int:=qOf n q b+W4 (bO n q b) x - n
section
variable {q2:List Nat} {b2:List Int}
end
end
end DM
end
section
set_option exponentiation.threshold 30000
namespace DM
open PySem L2 DM
/-! alJ: draws below very great numbers; sums of fractions. -/
section
variable {cl:Nat→List En→R En}
end
end DM
end
section
namespace DM
open PySem L2 DM
/-! alK: passes with all seats aei on, and with other numbers for the people. -/
section
variable {n y:Nat} {row:List Nat} {s:dh}
theorem ps_set (q:List Nat) (i v:Nat):psN n y (q.set i v)=(psN n y q).set i ((v+y)%n):=by
 unfold psN
 rw [List.map_set]
variable {π:List Nat}
end
/-! chances, averages, ranges -/
section
variable {n who y:Nat} {q π:List Nat} {b:List Int}
end
end DM
end
section
set_option maxHeartbeats 1000000
namespace DM
open PySem L2
section
variable {n:Nat} {s:dh}
end
end DM
end
section
set_option exponentiation.threshold 10000
namespace DM
open PySem L2 DM
/-! alL: the numbers of the states of a lot ae7 with the states. -/
section
variable {n:Nat} {q0:Int} {ks x z:List Nat}
end
/-! states of a lot -/
section
variable {n:Nat} {q q1 q2:List Nat} {b b1 b2:List Int}
end
end DM
end
section
set_option exponentiation.threshold 30000
namespace DM
open PySem L2 DM
/-! alM: first-kind draws below very great numbers; states compared. -/
end DM
end
section
namespace DM
open PySem L2 DM
/-! alN: wishes whose items are those of a state: as a sum over the seatings; turned round; with other numbers. -/
def Qy (n:Nat) (w:dI) (q x:List Nat):Prop:=∀i,i<n→w.getD i (none,none)≠(none,none)→x.getD i 0=q.getD i 0
section
variable {n y:Nat} {q π:List Nat} {b:List Int} {w:dI}
theorem pZ {i:Nat} (h:i<w.length):w[i]?=some (w.getD i (none,none)):=by
 rw [List.getD_eq_getElem?_getD,List.getElem?_eq_getElem h]
 rfl
theorem Qz (g:Gd n q b) {i:Nat} (hi:i<n) {x:Option Nat × Option Int} (h:Y9 q b i x) (hx:x≠(none,none)):j5 ((bO n q b).getD i 0:Nat) n x.1 x.2=some ((q.getD i 0:Nat):Int):=by
 have e:∃v,j5 ((bO n q b).getD i 0:Nat) n x.1 x.2=some v:=by
  obtain ⟨s,c⟩:=x
  cases s with
  | none =>
   cases c with
   | none=>exact absurd rfl hx
   | some c=>exact ⟨_,rfl⟩
  | some s =>
   cases c with
   | none =>
    show ∃v,(if s<n then some ((s:Nat):Int) else some (-1))=some v
    split <;> exact ⟨_,rfl⟩
   | some c =>
    show ∃v,(if ((s:Nat):Int)=(((bO n q b).getD i 0:Nat) - c)%(n:Int) then some ((((bO n q b).getD i 0:Nat) - c)%(n:Int)) else some (-1))=some v
    split <;> exact ⟨_,rfl⟩
 obtain ⟨v,hv⟩:=e
 rw [hv,Qt g hi h hv]
theorem tH (g:Gd n q b) (hw:wU q b w) (hl:w.length=n):∀p∈bJ (bO n q b) w 0,p.1<n∧p.2=(q.getD p.1 0:Nat)∧w.getD p.1 (none,none)≠(none,none):=fun p hp=>by
 have kl:=vg g.dR g.len
 obtain ⟨_,y2,x,y3,y4⟩:=tG w 0 p hp
 rw [kl] at y4
 rw [Nat.sub_zero] at y3
 have pn:p.1<n:=by omega
 refine ⟨pn,Qt g pn (hw _ x y3) y4,fun z=>?_⟩
 have e:=pZ (w:=w) (i:=p.1) (by omega)
 rw [y3] at e
 have e:=Option.some.inj e
 rw [e,z] at y4
 cases y4
theorem QC (g:Gd n q b) (hw:wU q b w) (hl:w.length=n):Qq [] (bJ (bO n q b) w 0):=by
 have key:=tH g hw hl
 refine ⟨fun p hp=>by rw [(key p hp).2.1]; omega,?_⟩
 show ((bJ (bO n q b) w 0).map fun p=>p.2.toNat).Nodup
 have nd:((bJ (bO n q b) w 0).map (·.1)).Nodup:=(pY w 0).imp fun h=>by omega
 refine vm (·.1) _ nd fun a ha c hc e=>?_
 obtain ⟨a1,a2,_⟩:=key a ha
 obtain ⟨c1,c2,_⟩:=key c hc
 rw [a2,c2,Int.toNat_natCast,Int.toNat_natCast] at e
 have ga:q[a.1]?=some (q.getD a.1 0):=GZ 0 (by rw [g.dR]; exact a1)
 have gc:q[c.1]?=some (q.getD c.1 0):=GZ 0 (by rw [g.dR]; exact c1)
 rw [← e] at gc
 exact lO g.seats ga gc
theorem acP (g:Gd n q b) (hw:wU q b w) (hl:w.length=n):mO n ((bJ (bO n q b) w 0).map Jo):=by
 have key:=tH g hw hl
 obtain ⟨o1,o2⟩:=QC g hw hl
 refine ⟨?_,?_,fun p hp=>?_,fun p hp=>?_⟩
 ·rw [List.map_map]
  show ((bJ (bO n q b) w 0).map (·.1)).Nodup
  exact (pY w 0).imp fun h=>by omega
 ·rw [List.map_map]
  exact o2
 ·obtain ⟨r,hr,rfl⟩:=List.mem_map.mp hp
  exact (key r hr).1
 ·obtain ⟨r,hr,rfl⟩:=List.mem_map.mp hp
  obtain ⟨k1,k2,_⟩:=key r hr
  show r.2.toNat<n
  rw [k2,Int.toNat_natCast]
  exact nu g k1
open Classical in
theorem acQ (h0:0<n) (g:Gd n q b) (hw:wU q b w) (hl:w.length=n):Qp n q b w=aQ (RX (List.range n) n) fun x=>if Qy n w q x then (if 0≤xB n q b x then shW (xB n q b x - Az n w) (Ba w) else 0) else 0:=by
 have kl:=vg g.dR g.len
 have key:=tH g hw hl
 have P:=acP g hw hl
 have e:Qp n q b w=jY (qOf n q b) (bO n q b) ((bJ (bO n q b) w 0).map Jo) fun x=>shW (x - Az n w) (Ba w):=by
  unfold Qp
  rw [nj w 0 [] (QC g hw hl)]
  rfl
 have sl:((bJ (bO n q b) w 0).map Jo).length≤n:=by
  have h1:=oH n _ P.keys fun i hi=>by
   obtain ⟨p,hp,rfl⟩:=List.mem_map.mp hi
   exact P.klt p hp
  rwa [List.length_map] at h1
 rw [e,vq _ (by omega) (n - ((bJ (bO n q b) w 0).map Jo).length) _ (by rw [kl]; exact P) (by rw [kl]; omega),fj,kl]
 refine aH fun x _=>?_
 have eB:hB (fun x=>shW (x - Az n w) (Ba w)) (qOf n q b) (bO n q b) x=if 0≤xB n q b x then shW (xB n q b x - Az n w) (Ba w) else 0:=by
  unfold hB xB
  rw [kl]
 rw [eB]
 have ex:ext ((bJ (bO n q b) w 0).map Jo) x=true↔Qy n w q x:=by
  unfold ext
  rw [List.all_eq_true]
  constructor
  ·intro h i hi hne
   have hit:=hw i _ (pZ (by omega))
   have hd:=Qz g hi hit hne
   have hm:=vo (ks:=bO n q b) w 0 i _ _ (pZ (by omega)) (by rw [Nat.zero_add,kl]; exact hd)
   have:=of_decide_eq_true (h _ (List.mem_map_of_mem hm))
   rw [Nat.zero_add] at this
   have this:x.getD i 0=((q.getD i 0:Nat):Int).toNat:=this
   rwa [Int.toNat_natCast] at this
  ·intro h p hp
   obtain ⟨r,hr,rfl⟩:=List.mem_map.mp hp
   obtain ⟨k1,k2,k3⟩:=key r hr
   refine decide_eq_true ?_
   show x.getD r.1 0=r.2.toNat
   rw [k2,Int.toNat_natCast]
   exact h r.1 k1 k3
 by_cases z:Qy n w q x
 ·rw [if_pos z,if_pos (ex.mpr z)]
 ·rw [if_neg z,if_neg fun c=>z (ex.mp c)]
/-! turned round -/
end
end DM
end
section
namespace DM
open PySem L2
/-! alO: a tuple or a list with other numbers: the law's own renaming. -/
end DM
end
section
namespace DM
open PySem L2
/-! alP: a state meets a wish for its own seats and coins. -/
end DM
end
section
set_option exponentiation.threshold 10000
namespace DM
open PySem L2
end DM
end
section
namespace DM
open PySem L2
/-! alQ: a lot searched layer by layer. -/
section
variable {S:Type} [DecidableEq S] {nb:S→Nat→Option S} {n k:Nat} {P:S→Prop} {d:S→Nat} {s0:S} {L W:List S}
structure Gr (nb:S→Nat→Option S) (n:Nat) (P:S→Prop) (d:S→Nat) (s0:S):Prop where
 start:P s0
 zero:∀s,P s→(d s=0↔s=s0)
 step:∀s c t,P s→c<n→nb s c=some t→P t∧d t≤d s+1
 back:∀t k,P t→d t=k+1→∃s c,P s∧d s=k∧c<n∧nb s c=some t
structure Lyr (P:S→Prop) (d:S→Nat) (k:Nat) (L W:List S):Prop where
 nd:L.Nodup
 sub:∀s∈L,P s∧d s≤k+1
 all:∀s,P s→d s≤k→s∈L
 new:∀s,s∈W↔s∈L∧d s=k+1
structure Full (P:S→Prop) (d:S→Nat) (k:Nat) (L W:List S):Prop where
 nd:L.Nodup
 mem:∀s,s∈L↔P s∧d s≤k
 top:∀s,s∈W↔P s∧d s=k
theorem Full.start (G:Gr nb n P d s0):Full P d 0 [s0] [s0]:=by
 have e:∀s,s∈[s0]↔P s∧d s=0:=fun s=>by
  constructor
  ·intro h
   have:s=s0:=by simpa using h
   subst this
   exact ⟨G.start,(G.zero s G.start).mpr rfl⟩
  ·rintro ⟨h1,h2⟩
   rw [(G.zero s h1).mp h2]
   exact List.mem_cons_self
 exact ⟨List.nodup_cons.mpr ⟨fun z=>(by cases z),List.nodup_nil⟩,fun s=>(e s).trans ⟨fun h=>⟨h.1,by omega⟩,fun h=>⟨h.1,by omega⟩⟩,e⟩
theorem Full.done (G:Gr nb n P d s0) (F:Full P d k L []):∀s,s∈L↔P s:=by
 have no:∀j s,P s→d s=k+j→False:=by
  intro j
  induction j with
  | zero=>exact fun s p h=>absurd ((F.top s).mpr ⟨p,h⟩) (by simp)
  | succ j ih =>
   intro s p h
   obtain ⟨u,c,pu,du,_⟩:=G.back s (k+j) p (by omega)
   exact ih u pu du
 exact fun s=>⟨fun h=>((F.mem s).mp h).1,fun p=>(F.mem s).mpr ⟨p,by
  by_cases z:d s≤k
  ·exact z
  ·exact (no (d s - k) s p (by omega)).elim⟩⟩
end
/-! ### a lot is such a thing -/
section
variable {n:Nat} {q:List Nat} {b:List Int}
def dS (n:Nat) (q:List Nat) (b:List Int) (s:dh):Nat:=(dist n q b s.1 s.2).toNat
end
/-! ### as keys -/
def hS (s:dh):D:=Om s.1 s.2
end DM
end
section
namespace DM
open PySem L2
/-! alR: the running search finds the lot, with the fewest exchanges. -/
section
variable {i j:Nat} {cl:Nat→List En→R En} {s0 h t:dh} {c:Nat} {L Lr W:List dh} {g:dh→D} {x3 x4 x5 x6:Option En} {r1:ak}
end
structure acR (n:Nat) (q:List Nat) (b:List Int):Prop where
 g:Gd n q b
 h2:2≤n
 hn:n≤100
 few:∀L:List dh,L.Nodup→(∀s∈L,Ml n q b s.1 s.2)→L.length<1000000
 near:∀s:dh,Ml n q b s.1 s.2→dS n q b s<99990
section
variable {i j n k:Nat} {cl:Nat→List En→R En} {q:List Nat} {b:List Int} {Lr:List dh}
abbrev PS (n:Nat) (q:List Nat) (b:List Int):dh→Prop:=fun s=>Ml n q b s.1 s.2
theorem Lyr.few (B:acR n q b) {L W:List dh} (I:Lyr (PS n q b) (dS n q b) k L W):L.length<1000000:=B.few L I.nd fun s hs=>(I.sub s hs).1
end
end DM
end
section
namespace DM
open PySem L2
/-! alS: the states of a lot, ascending; how many there are. -/
section
variable {n:Nat} {q:List Nat} {b:List Int}
end
/-! ### the running program's order -/
end DM
end
section
set_option exponentiation.threshold 10000
namespace DM
open PySem L2
/-! alT: state_at with numbers that are not there. -/
section
variable {cl:Nat→List En→R En}
end
/-! a comprehension whose items draw from the box -/
end DM
end
section
namespace DM
open PySem L2
/-! alU: all states of so many people and so many coins, in order. -/
end DM
end
section
set_option exponentiation.threshold 10000
namespace DM
open PySem L2 DM
/-! alV: the law's own list of all states. -/
section
variable {cl:Nat→List En→R En}
def Lis (e:En) (xs:List D):Prop:=e=.fr (.lst xs)∨e=.ol xs
theorem Lis.items {e:En} {xs:List D} (h:Lis e xs):e.items=some xs:=by rcases h with rfl | rfl <;> rfl
theorem Lis.seq {e:En} {xs:List D} {f:ak→R Val} {ρ ρ1:ak} (h:f ρ=.ok (.en e) ρ1) (l:Lis e xs):cW f ρ=.ok xs ρ1:=by
 rcases l with rfl | rfl
 ·exact jf h rfl rfl
 ·exact jf h rfl rfl
end
end DM
end
section
namespace DM
open PySem L2
/-! alW: the running search with the program's own exchanges. -/
section
variable {i x:Nat} {cl:Nat→List En→R En} {s0 h t:dh} {c:Nat} {L Lr W:List dh} {x4 x5 x6 x7:Option En} {r1 r2:ak}
end
section
variable {i x n k:Nat} {cl:Nat→List En→R En} {q:List Nat} {b:List Int} {Lr:List dh}
end
end DM
end
section
namespace DM
open PySem L2
/-! alX: a tally by tuples; how many states have given residues. -/
section
variable {n c:Nat}
end
end DM
end
section
namespace DM
open PySem L2
/-! alY: a lot by seatings; sums and ends of a purse over it. -/
section
variable {n:Nat} {q:List Nat} {b:List Int}
end
end DM
end
section
namespace DM
open PySem PySem.Spec PyProof.Rows L2
end DM
end
section
namespace DM
open PySem L2 DM
/-! alZ: the states of a lot that meet a wish: plain law. -/
def WNN (w:dI):Prop:=∀x∈w,∀c,x.2=some c→0≤c
theorem WNN.tail {x:Option Nat × Option Int} {w:dI} (h:WNN (x::w)):WNN w:=fun y hy=>h y (List.mem_cons_of_mem _ hy)
end DM
end
section
namespace DM
open PySem L2 DM
/-! al0: the states that meet a wish, seat by seat: plain law. -/
section
variable {n:Nat} {q:List Nat} {b:List Int} {w:dI}
def Fits (n:Nat) (q:List Nat) (b:List Int) (w:dI) (x:List Nat):Prop:=∀(i:Nat) (s:Option Nat) (c:Int),w[i]?=some (s,some c)→(((bO n q b).getD i 0:Nat) - c)%(n:Int)=((x.getD i 0:Nat):Int)
theorem ext_mem {T:List (Nat × Nat)} {x:List Nat}:ext T x=true↔∀p∈T,x.getD p.1 0=p.2:=by
 unfold ext
 rw [List.all_eq_true]
 exact ⟨fun h p hp=>of_decide_eq_true (h p hp),fun h p hp=>decide_eq_true (h p hp)⟩
def W6 (n:Nat) (q:List Nat) (b:List Int) (w:dI) (T:List (Nat × Nat)):Prop:=∀(i:Nat) (s:Option Nat) (c:Int),w[i]?=some (s,some c)→∃v:Nat,(i,v)∈T∧(((bO n q b).getD i 0:Nat) - c)%(n:Int)=((v:Nat):Int)
theorem W6.fits {T:List (Nat × Nat)} (h:W6 n q b w T) {x:List Nat} (he:ext T x=true):Fits n q b w x:=fun i s c hi=>by
 obtain ⟨v,h1,h2⟩:=h i s c hi
 have:=ext_mem.mp he _ h1
 rw [h2,this]
end
end DM
end
section
set_option exponentiation.threshold 10000
namespace DM
open PySem L2 DM
/-! al1: open_people, free_seats, seated_with, state_meeting on data. -/
section
variable {cl:Nat→List En→R En}
end
end DM
end
section
set_option exponentiation.threshold 10000
namespace DM
open PySem L2 DM
/-! al2: seatings_meeting, all_meeting on data. -/
theorem tK {α:Type} {own:List Nat} {fi:ak→R (List D)} {fg:D→ak→Option ak} {fe:ak→R Val} {ρ ρ1 ρ2:ak} {xs:List α} (e g:α→D) (hi:fi ρ=.ok (xs.map e) ρ1) (hf:iz ρ1 own=true) (hw:cX ρ1 own=ρ2) (h:∀x∈xs,∃ρa ρb,fg (e x) ρ2=some ρa∧bL fe ρa=.ok (.en (.fr (g x))) ρb∧cX ρb own=ρ2) (hl:xs.length≤100000) (hp:putBack ρ1 ρ2 own=ρ1) :
  gq own fi fg gQ fe ρ=.ok (.en (.ol (xs.map g))) ρ1:=by
 have h0:∀x∈xs,fg (e x) ρ2=fg (e x) ρ2:=fun _ _=>rfl
 have key:∀(l:List α) (acc:List D),(∀x∈l,∃ρa ρb,fg (e x) ρ2=some ρa∧bL fe ρa=.ok (.en (.fr (g x))) ρb∧cX ρb own=ρ2)→acc.length+l.length≤100000→yg own fg gQ fe (l.map e) ρ2 acc=.ok (acc++l.map g) ρ2:=fun l=>by
  induction l with
  | nil=>intro acc _ _; simp [yg]
  | cons x l ih =>
   intro acc hh hl
   obtain ⟨ρa,ρb,h1,h2,h3⟩:=hh x List.mem_cons_self
   have hz:acc.length<sizeLine:=Nat.lt_of_lt_of_le (show acc.length<100001 by simp only [List.length_cons] at hl; omega) (by decide)
   rw [List.map_cons]
   unfold yg
   rw [h1]
   have y:gQ ρa=.ok true ρa:=rfl
   simp only [y,dF,h2,if_pos hz,h3]
   rw [ih (acc++[g x]) (fun y hy=>hh y (List.mem_cons_of_mem _ hy)) (by simp only [List.length_cons,List.length_append,List.length_nil] at hl ⊢; omega),List.map_cons,List.append_assoc]
   rfl
 subst hw
 have:=NP (fe:=fe) hi hf (key xs [] h (by simpa using hl))
 rw [List.nil_append] at this
 rw [this,hp]
section
variable {n:Nat} {q:List Nat} {b:List Int} {w:dI}
end
section
variable {cl:Nat→List En→R En}
end
section
variable {cl:Nat→List En→R En} {iP iS iR iF iW iM:Nat}
end
end DM
end
section
set_option exponentiation.threshold 10000
namespace DM
open PySem L2 DM
/-! al3: wish_at, all_states on data. -/
section
variable {n:Nat} {q:List Nat} {b:List Int} {w:dI}
end
section
variable {cl:Nat→List En→R En}
end
section
variable {cl:Nat→List En→R En} {iC iP iS iR iF iM iW iQ:Nat}
end
end DM
end
section
set_option exponentiation.threshold 10000
namespace DM
open PySem L2 DM
/-! al4: the nearest state that meets a wish; spheres, farthest. -/
section
variable {n:Nat} {q:List Nat} {b:List Int} {w:dI}
end
section
variable {cl:Nat→List En→R En}
end
section
variable {cl:Nat→List En→R En} {iC iM iD iA iS:Nat}
end
end DM
end
section
namespace DM
open PySem L2
/-! al5: meets, for any wish. -/
section
variable {cl:Nat→List En→R En}
end
end DM
end
section
namespace DM
open PySem L2
/-! al6: plan with its refusal; items of wishes drawn. -/
end DM
end
section
namespace DM
open PySem L2
/-! al7: the exchanges of each two people along a row; a tally's keys, ascending. -/
section
variable {n c:Nat} {q q' q2:List Nat} {b b' b2:List Int}
end
end DM
end
section
namespace DM
open PySem L2
/-! al8: people and wishes that do not fit. -/
section
variable {cl:Nat→List En→R En} {iL iP iC:Nat}
end
end DM
end
section
set_option maxHeartbeats 1000000
namespace DM
open PySem PySem.Spec PyProof.Rows L2
section
variable {X:Cx} {pins:List (Addr × Obj)} {σ:L2.St} {H:Hp} {s:Shared} {d:Addr} {o:Obj} {zs:List NestedKey} {us vs:List V}
end
section
variable {XR:cG} {M:Wd} {X:Cx} {C:Cs} {W:WX} {k:Nat} {N:List Str} {nm:List (Str × NameKind)} {fb:Str→Bool} {e:Expr} {es:List Expr} {f:ak→R Val} {tpos:Pos} {kk:Nat}
end
end DM
end
section
namespace DM
open PySem L2
/-! al9: how many shortest rows lead from a state to another one. -/
theorem G3 {α:Type} [DecidableEq α] {f:α→Int} {x:α}:∀{l:List α},l.Nodup→x∈l→(∀y∈l,y≠x→f y=0)→(l.map f).sum=f x
 | [],_,h,_=>by cases h
 | a::l,nd,h,hz=>by
  have n1:=List.nodup_cons.mp nd
  rw [List.map_cons,List.sum_cons]
  by_cases e:a=x
  ·subst e
   have:(l.map f).sum=0:=by
    have h0:∀y∈l,f y=0:=fun y hy=>hz y (List.mem_cons_of_mem _ hy) fun z=>n1.1 (z▸hy)
    clear hz h nd n1
    induction l with
    | nil=>rfl
    | cons b l ih=>rw [List.map_cons,List.sum_cons,h0 b List.mem_cons_self,ih fun y hy=>h0 y (List.mem_cons_of_mem _ hy)]; rfl
   omega
  ·rw [hz a List.mem_cons_self e,G3 n1.2 ((List.mem_cons.mp h).resolve_left fun z=>e z.symm) fun y hy=>hz y (List.mem_cons_of_mem _ hy)]
   omega
section
variable {n:Nat} {q:List Nat} {b:List Int}
variable {LL:List dh}
end
section
variable {n:Nat} {LL:List dh}
end
end DM
end
section
namespace DM
open PySem L2
/-! ama: neighbours, ways_many. -/
section
variable {cl:Nat→List En→R En}
end
section
variable {cl:Nat→List En→R En} {n:Nat} {iB iS iA iD iN iE iX:Nat}
end
section
variable {cl:Nat→List En→R En} {n:Nat} {iB iS iA iD iN:Nat} {LL L:List dh} {s t:dh} {d1 d2:D} {g:dh→Int} {left:Int}
end
end DM
end
section
set_option maxHeartbeats 2000000
namespace PySem
open Sem (wp)
section
variable {prog:Program} {w:World} {A:Around} {E:Value→Shared→Prop} {s:Shared} {O TIo TOo i3 z TI TO i1 i2:Addr} {fp1 fp2 fp3:List Addr} {n1 n2 n3 i:Nat} {P1 P2 P3:Nat→Value→Prop} {St1 St2 St3:Nat→Heap→Prop}
structure ZIn (z TI TO i1 i2:Addr) (St1 St2:Nat→Heap→Prop) (i:Nat) (h:Heap):Prop where
 z:ZSt h z TI TO
 ti:IsTupOf2 h TI (.ref i1) (.ref i2)
 to:∃x y,IsTupOf2 h TO x y
 s1:St1 i h
 s2:St2 i h
theorem ZIn.move (D1:Draws prog w A i1 fp1 n1 P1 St1) (D2:Draws prog w A i2 fp2 n2 P2 St2) {h h':Heap} (x:ZIn z TI TO i1 i2 St1 St2 i h) (k:∀b∈z::TI::TO::(fp1++fp2),∀o,h.get? b=some o→h'.get? b=some o):ZIn z TI TO i1 i2 St1 St2 i h':=by
 obtain ⟨⟨f0,f1,hf,hz⟩,hTI,⟨a,b,hTO⟩,s1,s2⟩:=x
 exact ⟨⟨f0,f1,hf,k z (by simp) _ hz⟩,k TI (by simp) _ hTI,⟨a,b,k TO (by simp) _ hTO⟩,D1.frame _ _ _ s1 fun c hc o e=>k c (by simp [hc]) o e,D2.frame _ _ _ s2 fun c hc o e=>k c (by simp [hc]) o e⟩
abbrev zzT (h:Heap) (z:Addr) (o2:Obj):Heap:=(h.push o2).push { cls:=.type "tuple",data:=.seq #[.ref z,.ref h.objs.size] }
abbrev zzO (h:Heap) (z:Addr) (o2:Obj):Heap:=(zzT h z o2).push { cls:=.type "tuple",data:=.seq #[.none,.none] }
abbrev zzZ (h:Heap) (z:Addr) (o2:Obj):Heap:=(zzO h z o2).push { cls:=.type "zip",data:=.fields #[.none,.bool false,.bool false,.ref (h.push o2).objs.size,.ref (zzT h z o2).objs.size] }
end
end PySem
end
section
set_option maxHeartbeats 2000000
namespace PySem
open Sem (wp)
end PySem
namespace DM
open PySem L2
section
variable {X:Cx} {pins pl:List (Addr × Obj)} {σ:L2.St} {H:Hp} {s:Shared}
end
section
variable {X:Cx} {pins:List (Addr × Obj)} {σ:L2.St} {H H2:Hp} {s:Shared}
end
end DM
end
section
set_option maxHeartbeats 1000000
namespace DM
open PySem PySem.Spec PyProof.Rows L2
section
variable {C:Cs} {Z:ZX}
end
section
variable {XR:cG} {M:Wd} {X:Cx} {C:Cs} {W:WX} {k:Nat} {N:List Str} {nm:List (Str × NameKind)} {fb:Str→Bool}
variable {e e2 e3:Expr} {es:List Expr} {f fa fc:ak→R Val} {pos p tpos p2 pos2:Pos} {kk:Nat}
end
end DM
end
section
set_option maxHeartbeats 2000000
namespace PySem
open Sem (wp)
open AutoSeq1 (wpAny_loadPart')
structure LOk (P1 P2:Nat→Value→Prop) (N0:Nat) (L:List (Addr × Value × Value)) (i:Nat) (h:Heap):Prop where
 len:L.length=i
 at_:∀(j:Nat) (e:Addr × Value × Value),L[j]?=some e→P1 j e.2.1∧P2 j e.2.2∧@LE.le Nat instLENat N0 e.1∧IsTupOf2 h e.1 e.2.1 e.2.2
 asc:L.Pairwise fun e e'=>@LT.lt Nat instLTNat e.1 e'.1
section
variable {prog:Program} {w:World} {A:Around} {R:Result→Shared→Prop} {E:Value→Shared→Prop} {s:Shared} {z TI TO i1 i2:Addr} {fp1 fp2:List Addr} {n1 n2 n:Nat} {P1 P2:Nat→Value→Prop} {St1 St2:Nat→Heap→Prop}
theorem LOk.keep {N0 i:Nat} {L:List (Addr × Value × Value)} {h h':Heap} (x:LOk P1 P2 N0 L i h) {ch:List Addr} (lt:∀b∈ch,@LT.lt Nat instLTNat b N0) (k:∀b o,b∉ch→h.get? b=some o→h'.get? b=some o):LOk P1 P2 N0 L i h' :=
 ⟨x.len,fun j e he=>by
  obtain ⟨a,b,c,d⟩:=x.at_ j e he
  exact ⟨a,b,c,k _ _ (fun m=>absurd (lt _ m) (Nat.not_lt.mpr c)) d⟩,x.asc⟩
end
end PySem
end
section
set_option maxHeartbeats 2000000
namespace DM
open PySem L2
inductive Yl (J:It):Nat→Hp→List V→Hp→Prop
 | nil (i:Nat) (H:Hp):Yl J i H [] H
 | cons {i:Nat} {H H1 H2:Hp} {v:V} {vs:List V}:J.yld i H v H1→Yl J (i+1) H1 vs H2→Yl J i H (v::vs) H2
section
variable {X:Cx} {pins:List (Addr × Obj)} {σ:L2.St} {H:Hp} {s:Shared}
end
section
variable {C:Cs} {Z:ZX}
end
section
open PySem.Spec PyProof.Rows
variable {XR:cG} {M:Wd} {X:Cx} {C:Cs} {W:WX} {k:Nat} {N:List Str} {nm:List (Str × NameKind)} {fb:Str→Bool}
variable {e e2:Expr} {f fa:ak→R Val} {pos p p2 pos2:Pos}
end
end DM
end
section
namespace DM
open PySem L2
/-! amc: the law's own: does a state meet a wish. -/
end DM
end
section
namespace DM
open PySem L2
/-! amd: the acO own: a small state, a hope. -/
def WSm (w:dI):Prop:=∀x∈w,(∀s,x.1=some s→s<100000)∧∀c,x.2=some c→0≤c∧c≤100
theorem WSm.nn {w:dI} (h:WSm w):WNN w:=fun x hx c hc=>((h x hx).2 c hc).1
section
variable {cl:Nat→List En→R En}
end
end DM
end
section
set_option maxHeartbeats 1000000
namespace DM
open PySem L2
section
variable {X:Cx}
end
/-! on data -/
end DM
end
section
set_option maxHeartbeats 1000000
namespace DM
open PySem PySem.Spec PyProof.Rows L2
section
variable {XR:cG} {M:Wd} {X:Cx} {C:Cs} {W:WX} {k:Nat} {N:List Str} {nm:List (Str × NameKind)} {fb:Str→Bool} {e:Expr} {f:ak→R Val} {p2 pos2:Pos}
end
end DM
end
section
namespace DM
open PySem L2
/-! ame: the running search that stops above 300 states. -/
section
variable {i j:Nat} {cl:Nat→List En→R En} {s0 h t:dh} {c:Nat} {L Lr W:List dh} {g:dh→D} {x3 x4 x5 x6:Option En} {r1:ak}
end
structure U7 (n:Nat) (q:List Nat) (b:List Int):Prop where
 base:acR n q b
 lim:∀L:List dh,L.Nodup→(∀s∈L,Ml n q b s.1 s.2)→L.length≤300
theorem U7.g {n:Nat} {q:List Nat} {b:List Int} (B:U7 n q b):Gd n q b:=B.base.g
theorem U7.h2 {n:Nat} {q:List Nat} {b:List Int} (B:U7 n q b):2≤n:=B.base.h2
theorem U7.hn {n:Nat} {q:List Nat} {b:List Int} (B:U7 n q b):n≤100:=B.base.hn
theorem U7.near {n:Nat} {q:List Nat} {b:List Int} (B:U7 n q b):∀s:dh,Ml n q b s.1 s.2→dS n q b s<99990:=B.base.near
section
variable {i j n k:Nat} {cl:Nat→List En→R En} {q:List Nat} {b:List Int} {Lr:List dh}
theorem Full.lim {k:Nat} {L W:List dh} (F:Full (PS n q b) (dS n q b) k L W) (B:U7 n q b):L.length≤300:=B.lim L F.nd fun s hs=>((F.mem s).mp hs).1
end
end DM
end
section
namespace DM
open PySem L2
/-! amf: a law that asks all its cells. -/
end DM
end
section
set_option maxHeartbeats 1000000
namespace DM
open PySem PySem.Spec PyProof.Rows L2
section
variable {X:Cx} {pins:List (Addr × Obj)} {σ:L2.St} {H:Hp} {s:Shared} {E:Value→Shared→Prop}
end
section
variable {X:Cx} {Pt:Hp→Addr→V→V→(Hp→Prop)→Prop} {kx vx tg iter:Expr} {ifs:List Expr} {scope:Scope} {own:List (Str × Nat)} {pos:Pos} {wi:TI} {g:TG} {tt:TT} {tk tv:TE}
end
end DM
end
section
set_option maxHeartbeats 1000000
namespace DM
open PySem PySem.Spec PyProof.Rows L2
section
variable {C:Cs} {Z:ZX} {o:Og} {F H:Hp} {σ:L2.St} {ρ:ak} {T:Tm}
end
section
variable {C:Cs} {Z:ZX}
end
section
variable {XR:cG} {M:Wd} {X:Cx} {C:Cs} {W:WX} {k:Nat} {N:List Str} {nm:List (Str × NameKind)} {fb:Str→Bool} {tg:Expr} {pos:Pos}
end
end DM
end
section
set_option maxHeartbeats 1000000
namespace DM
open PySem PySem.Spec PyProof.Rows L2
section
variable {X:Cx} {d:Addr} {o:Obj} {zs:List NestedKey} {us vs:List V}
end
section
variable {XR:cG} {M:Wd} {X:Cx} {C:Cs} {W:WX} {k:Nat} {N:List Str} {nm:List (Str × NameKind)} {fb:Str→Bool} {e tg:Expr} {f:ak→R Val}
end
end DM
end
section
set_option maxHeartbeats 1000000
namespace DM
open PySem PySem.Spec PyProof.Rows L2
abbrev PV:=NestedKey × V × V
def W7 (q:List NestedKey × List V × List V) (p:PV):List NestedKey × List V × List V:=if Ur q.1 p.1=true then (q.1,q.2.1,Jg q.1 q.2.2 p.1 p.2.2) else (q.1++[p.1],q.2.1++[p.2.1],q.2.2++[p.2.2])
inductive QD:List PV→List NX→Prop
 | nil:QD [] []
 | cons {k:NestedKey} {b:Addr} {u:Value} {v:V} {ps:List PV} {rs:List NX}:L2.RelV v u→R9 k=true→QD ps rs→QD ((k,.ref b,v)::ps) ((k,b,u)::rs)
theorem QD.len {ps:List PV} {rs:List NX} (h:QD ps rs):rs.length=ps.length:=by
 induction h with
 | nil=>rfl
 | cons _ _ _ ih=>rw [List.length_cons,List.length_cons,ih]
section
variable {X:Cx} {pins:List (Addr × Obj)} {σ:L2.St} {H:Hp} {s:Shared}
end
/-! ### on data -/
structure TbD (K:PySem.W.Frag) (F:Hp) (p:List D × List D) (q:List NestedKey × List V × List V):Prop where
 k:p.1.map qI=q.1.map some
 l1:q.1.length=q.2.1.length
 l2:q.2.1.length=q.2.2.length
 u:aN K F p.1 q.2.1
 v:aN K F p.2 q.2.2
theorem TbD.one {K:PySem.W.Frag} {F:Hp} {p:List D × List D} {q:List NestedKey × List V × List V} (h:TbD K F p q) {k:NestedKey} {kd d:D} {i v:V} (hk:qI kd=some k) (rk:Dq K F kd i) (rd:Dq K F d v):TbD K F (putN p k kd d) (W7 q (k,i,v)):=by
 obtain ⟨h1,h2,h3,h4,h5⟩:=h
 unfold W7
 by_cases c:Ur q.1 k=true
 ·rw [if_pos c]
  have ep:putN p k kd d=(p.1,Ph p.1 p.2 k d):=by unfold putN; rw [if_pos (by rw [wH h1]; exact c)]
  rw [ep]
  obtain ⟨m1,m2⟩:=Ac (k:=k) rd h1 h5 (by omega)
  exact ⟨h1,h2,by rw [m2]; exact h3,h4,m1⟩
 ·rw [if_neg c]
  have ep:putN p k kd d=(p.1++[kd],p.2++[d]):=by unfold putN; rw [if_neg (by rw [wH h1]; exact c)]
  rw [ep]
  exact ⟨by rw [List.map_append,List.map_append,h1]; show _++[qI kd]=_++[some k]; rw [hk],by rw [List.length_append,List.length_append,h2]; rfl,by rw [List.length_append,List.length_append,h3]; rfl,h4.append (.cons rk .nil),h5.append (.cons rd .nil)⟩
section
variable {C:Cs} {Z:ZX}
end
section
variable {XR:cG} {M:Wd} {X:Cx} {C:Cs} {W:WX} {k:Nat} {N:List Str} {nm:List (Str × NameKind)} {fb:Str→Bool} {e:Expr} {fs:ak→R (List Val)} {x:Str}
end
end DM
end
section
namespace DM
open PySem L2
/-! amg: how far a lot goes, from a state. -/
section
variable {cl:Nat→List En→R En} {s0 h t:dh} {L Lr W fs:List dh} {nd:D} {z:Int} {x5 x6 x7:Option En} {n k:Nat}
end
section
variable {cl:Nat→List En→R En} {n k:Nat} {q:List Nat} {b:List Int} {L Lr W:List dh} {nd:D} {z:Int} {x5 x6 x7:Option En}
end
end DM
end
section
namespace DM
open PySem L2
/-! amh: the width of a lot. -/
section
variable {iA iN iD:Nat} {cl:Nat→List En→R En} {d nd:D} {t:dh} {as:List D} {r1 r2 r3:ak} {z:Int}
end
end DM
end
section
set_option maxHeartbeats 1000000
namespace DM
open PySem PySem.Spec PyProof.Rows L2
section
variable {XR:cG} {M:Wd} {X:Cx} {C:Cs} {W:WX} {k:Nat} {N:List Str} {nm:List (Str × NameKind)} {fb:Str→Bool} {e:Expr} {f:ak→R Val} {p2 pos2:Pos}
end
end DM
end
section
namespace DM
open PySem PySem.Spec PyProof.Rows L2
section
variable {C:Cs} {XR:cG} {W:WX}
end
section
variable {XR:cG} {M:Wd} {X:Cx} {C:Cs} {W:WX} {k:Nat} {N:List Str} {nm:List (Str × NameKind)} {fb:Str→Bool} {e:Expr} {es:List Expr} {fs:ak→R (List Val)}
inductive iZ (XR:cG) (M:Wd) (k:Nat) (nm:List (Str × NameKind)):List Expr→List Addr→List (List En→R En)→Prop
 | nil:iZ XR M k nm [] [] []
 | cons {x:Str} {p:Pos} {f:Addr} {fd:FuncData} {ps:List Str} {cs:List Nat} {run:List En→R En} {ns:List Expr} {fas:List Addr} {runs:List (List En→R En)} (fn:mH M.P M.w M.K M.mg M.base k f fd ps (nM M.K 1 [] cs XR run)) (hm:M.mg x=some (.ref f)) (hk:PySem.W.keepIn M.K (.ref f)=true) (hb:aW fd ps [] 1 [0]) (hg:qL nm x=true)
  (rest:iZ XR M k nm ns fas runs):iZ XR M k nm (.Name x p::ns) (f::fas) (run::runs)
def afb (XR:cG) (M:Wd) (k:Nat) (f:Addr) (sp:Sp):Prop:=∃fd ps,mH M.P M.w M.K M.mg M.base k f fd ps sp∧PySem.W.keepIn M.K (.ref f)=true∧aW fd ps [] 1 [0]
theorem iZ.pa (G:Ctx M X C W k N nm fb):∀{ns:List Expr} {fas:List Addr} {runs:List (List En→R En)},iZ XR M k nm ns fas runs→PA X ns (Pa fas)
 | _,_,_,.nil=>pa_nil
 | _,_,_,.cons fn hm hk hb hg rest=>by
  obtain ⟨g1,g2,_⟩:=cI G hg
  exact pa_cons (pe_glob g1 (by rw [G.hmg]; exact hm) rfl g2) (iZ.pa G rest)
theorem iZ.get {ns:List Expr} {fas:List Addr} {runs:List (List En→R En)} (h:iZ XR M k nm ns fas runs):∀(j:Nat) (run:List En→R En),runs[j]?=some run→∃f cs,fas[j]?=some f∧afb XR M k f (nM M.K 1 [] cs XR run):=by
 induction h with
 | nil=>intro j run e; simp at e
 | cons fn hm hk hb hg rest ih =>
  intro j run e
  cases j with
  | zero =>
   simp only [List.getElem?_cons_zero,Option.some.injEq] at e
   subst e
   exact ⟨_,_,rfl,_,_,fn,hk,hb⟩
  | succ j =>
   simp only [List.getElem?_cons_succ] at e ⊢
   exact ih j run e
theorem iZ.len {ns:List Expr} {fas:List Addr} {runs:List (List En→R En)} (h:iZ XR M k nm ns fas runs):fas.length=ns.length:=by
 induction h with
 | nil=>rfl
 | cons _ _ _ _ _ _ ih=>rw [List.length_cons,List.length_cons,ih]
end
end DM
end
section
set_option exponentiation.threshold 10000
namespace DM
open PySem L2
/-! ami: great lots are refused. -/
section
variable {cl:Nat→List En→R En}
end
end DM
end
section
namespace DM
open PySem L2
/-! amj: two people: a line of states. -/
section
variable {bg K:Int} {sx:Nat}
end
end DM
end
section
namespace DM
open PySem L2
/-! amk: tuples over 0 .. v - 1, counted value by value. -/
def tup (v:Nat):Nat→List (List Nat)
 | 0=>[[]]
 | N+1=>(tup v N).flatMap fun t=>(List.range v).map fun x=>t++[x]
theorem W8 (v N:Nat) (f:List Nat→Int):aQ (tup v (N+1)) f=aQ (tup v N) fun t=>aQ (List.range v) fun x=>f (t++[x]):=by
 show aQ ((tup v N).flatMap _) f=_
 rw [YS]
 exact aH fun t _=>Qa _ _ _
theorem qW {v:Nat}:∀{N:Nat} {t:List Nat},t∈tup v N↔t.length=N∧∀x∈t,x<v
 | 0,t=>by
  show t∈[[]]↔_
  rw [List.mem_singleton]
  constructor
  ·rintro rfl
   exact ⟨rfl,fun x hx=>by cases hx⟩
  ·intro h
   exact List.length_eq_zero_iff.mp h.1
 | N+1,t=>by
  show t∈(tup v N).flatMap _↔_
  rw [List.mem_flatMap]
  constructor
  ·rintro ⟨u,hu,ht⟩
   obtain ⟨x,hx,rfl⟩:=List.mem_map.mp ht
   obtain ⟨h1,h2⟩:=qW.mp hu
   refine ⟨by rw [List.length_append,h1]; rfl,fun y hy=>?_⟩
   rcases List.mem_append.mp hy with h | h
   ·exact h2 y h
   ·rw [List.mem_singleton.mp h]
    exact List.mem_range.mp hx
  ·rintro ⟨h1,h2⟩
   have ne:t≠[]:=fun e=>by rw [e] at h1; cases h1
   refine ⟨t.dropLast,qW.mpr ⟨by rw [List.length_dropLast,h1]; rfl,fun x hx=>h2 x (List.dropLast_subset t hx)⟩,List.mem_map.mpr ⟨t.getLast ne,List.mem_range.mpr (h2 _ (List.getLast_mem ne)),List.dropLast_concat_getLast ne⟩⟩
theorem G4 (v:Nat):∀N:Nat,(tup v N).length=v^N
 | 0=>rfl
 | N+1=>by
  have h:((tup v (N+1)).length:Int)=((v^(N+1):Nat):Int):=by
   rw [S_len,W8]
   have:aQ (tup v N) (fun t=>aQ (List.range v) fun x=>1)=aQ (tup v N) fun _=>((v:Nat):Int):=aH fun t _=>by
    rw [← S_len,List.length_range]
   rw [this,wL,G4 v N,Nat.pow_succ]
   push_cast
   rfl
  exact_mod_cast h
def Bf (v:Nat) (t:List Nat):List Nat:=t.filter fun x=>decide (x<v)
def okR:Nat→Nat→List Nat→Bool
 | 0,_,_=>true
 | v+1,q,t=>okR v q (Bf v t)&&decide (t.length≤v+1+q)
end DM
end
section
set_option exponentiation.threshold 10000
namespace DM
open PySem L2
/-! aml: how many residues with a sum have a state: residues_many. -/
section
variable {cl:Nat→List En→R En}
end
/-! the tally -/
theorem acS {α:Type} [DecidableEq α] {L:List α} (nd:L.Nodup) (a:α) (c:Int):aQ L (fun x=>if x=a then c else 0)=if a∈L then c else 0:=by
 by_cases h:a∈L
 ·rw [if_pos h]
  have:=G3 (f:=fun x=>if x=a then c else 0) nd h fun y _ hy=>if_neg hy
  unfold aQ
  rw [this,if_pos rfl]
 ·rw [if_neg h]
  have:aQ L (fun x=>if x=a then c else 0)=aQ L fun _=>0:=aH fun y hy=>if_neg fun (e:y=a)=>h (e▸hy)
  rw [this,lC]
section
variable {n v q w:Nat} {L:List (List Nat)}
end
/-! the walk -/
section
variable {cl:Nat→List En→R En} {iC n v q w p s:Nat} {f:Int} {fd:D}
end
end DM
end
section
namespace DM
open PySem L2
/-! amm: how many residues have a state with a total. -/
def U8 (n:Nat) (T:Int) (t:List Nat):Bool:=Y6 t T&&okR n (Av t T / ((n:Nat):Int)).toNat t
def W9 (n:Nat) (T:Int):Int:=aQ (tup n n) fun t=>if U8 n T t=true then 1 else 0
theorem U9 (t:List Nat):oK t=((t.sum:Nat):Int):=by
 unfold oK
 induction t with
 | nil=>rfl
 | cons a t ih =>
  rw [List.map_cons,List.sum_cons,List.sum_cons,ih]
  push_cast
  rfl
/-! those up to a value -/
theorem Za {v:Nat} {t:List Nat}:∀x∈Bf v t,x<v:=fun x hx=>of_decide_eq_true (List.mem_filter.mp hx).2
theorem G5 {a c:Nat} (h:a≤c) (t:List Nat):Bf a (Bf c t)=Bf a t:=by
 unfold Bf
 rw [List.filter_filter]
 refine List.filter_congr fun x _=>?_
 by_cases z:x<a
 ·rw [decide_eq_true z,decide_eq_true (show x<c by omega)]
  rfl
 ·rw [decide_eq_false z]
  rfl
theorem wV {v:Nat} {t:List Nat} (h:∀x∈t,x<v):Bf v t=t:=List.filter_eq_self.mpr fun x hx=>decide_eq_true (h x hx)
theorem G6 {q:Nat}:∀{V:Nat} {t:List Nat},(∀x∈t,x<V)→(okR V q t=true↔∀v,v<V→(Bf (v+1) t).length≤v+1+q)
 | 0,t,h=>⟨fun _ v hv=>absurd hv (Nat.not_lt_zero v),fun _=>rfl⟩
 | V+1,t,h=>by
  show (okR V q (Bf V t)&&decide (t.length≤V+1+q))=true↔_
  rw [Bool.and_eq_true,decide_eq_true_eq,G6 (V:=V) (t:=Bf V t) Za]
  constructor
  ·rintro ⟨h1,h2⟩ v hv
   by_cases c:v=V
   ·subst c
    rw [wV h]
    exact h2
   ·have:=h1 v (by omega)
    rw [G5 (by omega)] at this
    exact this
  ·intro k
   refine ⟨fun v hv=>?_,?_⟩
   ·rw [G5 (by omega)]
    exact k v (by omega)
   ·have:=k V (by omega)
    rw [wV h] at this
    exact this
theorem Zb {n:Nat} {t:List Nat} (hl:t.length=n) (T:Int):Av t T=T+((n:Nat):Int)*(((n:Nat):Int) - 1) / 2 - ((t.sum:Nat):Int):=by
 unfold Av
 rw [hl,U9]
 omega
theorem Va {n:Nat} (h0:0<n) (C:Int):∀N:Nat,aQ (tup n (N+1)) (fun t=>if (C - ((t.sum:Nat):Int))%((n:Nat):Int)=0 then (1:Int) else 0)=((n^N:Nat):Int):=fun N=>by
 rw [W8]
 have e:aQ (tup n N) (fun t=>aQ (List.range n) fun x=>if (C - (((t++[x]).sum:Nat):Int))%((n:Nat):Int)=0 then (1:Int) else 0)=aQ (tup n N) fun _=>1:=aH fun t _=>by
  have e2:aQ (List.range n) (fun x=>if (C - (((t++[x]).sum:Nat):Int))%((n:Nat):Int)=0 then (1:Int) else 0)=aQ (List.range n) fun x=>if x=((C - ((t.sum:Nat):Int))%((n:Nat):Int)).toNat then (1:Int) else 0:=aH fun x hx=>by
   have hx:=List.mem_range.mp hx
   have s:(((t++[x]).sum:Nat):Int)=((t.sum:Nat):Int)+((x:Nat):Int):=by
    rw [List.sum_append,List.sum_singleton]
    push_cast
    rfl
   rw [s]
   have hn:(0:Int)<((n:Nat):Int):=by omega
   have m0:=Int.emod_nonneg (C - ((t.sum:Nat):Int)) (show ((n:Nat):Int)≠0 by omega)
   have m1:=Int.emod_lt_of_pos (C - ((t.sum:Nat):Int)) hn
   have key:(C - (((t.sum:Nat):Int)+((x:Nat):Int)))%((n:Nat):Int)=0↔x=((C - ((t.sum:Nat):Int))%((n:Nat):Int)).toNat:=by
    generalize hD:C - ((t.sum:Nat):Int)=D at *
    have hD2:C - (((t.sum:Nat):Int)+((x:Nat):Int))=D - ((x:Nat):Int):=by omega
    rw [hD2]
    have em:=Int.emod_add_mul_ediv D ((n:Nat):Int)
    constructor
    ·intro h
     have h':(D%((n:Nat):Int) - ((x:Nat):Int))%((n:Nat):Int)=0:=by
      rw [Int.emod_sub_emod]
      exact h
     have dv:=Int.dvd_of_emod_eq_zero h'
     have z:D%((n:Nat):Int) - ((x:Nat):Int)=0:=by
      obtain ⟨k,hk⟩:=dv
      have k0:k=0:=by
       have : -((n:Nat):Int)<((n:Nat):Int)*k:=by omega
       have:((n:Nat):Int)*k<((n:Nat):Int):=by omega
       have a1 : -1<k:=by
        refine Int.lt_of_mul_lt_mul_left (a:=((n:Nat):Int)) ?_ (by omega)
        omega
       have a2:k<1:=by
        refine Int.lt_of_mul_lt_mul_left (a:=((n:Nat):Int)) ?_ (by omega)
        omega
       omega
      rw [k0,Int.mul_zero] at hk
      exact hk
     omega
    ·intro h
     have:D - ((x:Nat):Int)=((n:Nat):Int)*(D / ((n:Nat):Int)):=by omega
     rw [this]
     exact Int.mul_emod_right _ _
   simp only [key]
  rw [e2,acS List.nodup_range,if_pos]
  have m0:=Int.emod_nonneg (C - ((t.sum:Nat):Int)) (show ((n:Nat):Int)≠0 by omega)
  have m1:=Int.emod_lt_of_pos (C - ((t.sum:Nat):Int)) (show (0:Int)<((n:Nat):Int) by omega)
  exact List.mem_range.mpr (by omega)
 rw [e,← S_len,G4]
theorem sum_bound {v n:Nat}:∀{t:List Nat},(∀x∈t,x<n)→((t.sum:Nat):Int)≤(((Bf (v+1) t).length:Nat):Int)*(v:Nat)+((((t.length:Nat):Int)) - (((Bf (v+1) t).length:Nat):Int))*((n:Nat) - 1)
 | [],_=>by simp [Bf]
 | a::t,h=>by
  have ih:=sum_bound (v:=v) (n:=n) (t:=t) fun x hx=>h x (List.mem_cons_of_mem _ hx)
  have ha:=h a List.mem_cons_self
  unfold Bf at ih ⊢
  rw [List.filter_cons,List.sum_cons,List.length_cons]
  by_cases c:a<v+1
  ·rw [decide_eq_true c,if_pos rfl,List.length_cons]
   generalize (t.filter fun x=>decide (x<v+1)).length=l at *
   push_cast
   have:(((t.length:Nat):Int)+1 - (((l:Nat):Int)+1))=((t.length:Nat):Int) - ((l:Nat):Int):=by omega
   rw [this,Int.add_mul,Int.one_mul]
   omega
  ·rw [decide_eq_false c,if_neg (by simp)]
   generalize (t.filter fun x=>decide (x<v+1)).length=l at *
   push_cast
   have:(((t.length:Nat):Int)+1 - ((l:Nat):Int))=(((t.length:Nat):Int) - ((l:Nat):Int))+1:=by omega
   rw [this,Int.add_mul,Int.one_mul]
   omega
theorem QF {n:Nat} (h0:0<n) {T:Int} (hT:((n:Nat):Int)*(((n:Nat):Int) - 1)≤T) {t:List Nat} (h1:t.length=n) (h2:∀x∈t,x<n):U8 n T t=true↔(T+((n:Nat):Int)*(((n:Nat):Int) - 1) / 2 - ((t.sum:Nat):Int))%((n:Nat):Int)=0:=by
 unfold U8 Y6
 rw [Bool.and_eq_true,Bool.and_eq_true,decide_eq_true_eq,decide_eq_true_eq,h1,Zb h1 T]
 constructor
 ·exact fun z=>z.1.1
 ·intro hm
  obtain ⟨k,hk⟩:=Int.dvd_of_emod_eq_zero hm
  have hn:(0:Int)<((n:Nat):Int):=by omega
  have ek:(T+((n:Nat):Int)*(((n:Nat):Int) - 1) / 2 - ((t.sum:Nat):Int)) / ((n:Nat):Int)=k:=by
   rw [hk,Int.mul_ediv_cancel_left k (by omega)]
  have half:0≤((n:Nat):Int)*(((n:Nat):Int) - 1) / 2:=Int.ediv_nonneg (Int.mul_nonneg (by omega) (by omega)) (by decide)
  have up:∀c v:Int,0≤c→c≤(n:Nat)→0≤v→v<(n:Nat)→((t.sum:Nat):Int)≤c*v+(((n:Nat):Int) - c)*(((n:Nat):Int) - 1)→c≤v+1+k:=fun c v c0 cn v0 vn hs=>by
   have a1:c*v+(((n:Nat):Int) - c)*(((n:Nat):Int) - 1)=c*v+((n:Nat):Int)*(((n:Nat):Int) - 1) - c*(((n:Nat):Int) - 1):=by
    rw [Int.sub_mul]
    omega
   have a2:0≤(((n:Nat):Int) - c)*(v+1):=Int.mul_nonneg (by omega) (by omega)
   have a3:(((n:Nat):Int) - c)*(v+1)=((n:Nat):Int)*(v+1) - (c*v+c):=by
    rw [Int.sub_mul,Int.mul_add c v 1,Int.mul_one]
   have a4:c*(((n:Nat):Int) - 1)=c*((n:Nat):Int) - c:=by
    rw [Int.mul_sub,Int.mul_one]
   have a5:((n:Nat):Int)*c<((n:Nat):Int)*(v+1+k+1):=by
    have:((n:Nat):Int)*(v+1+k+1)=((n:Nat):Int)*(v+1)+((n:Nat):Int)*k+((n:Nat):Int):=by
     rw [Int.mul_add,Int.mul_add,Int.mul_one]
    rw [this,Int.mul_comm ((n:Nat):Int) c]
    omega
   have:=Int.lt_of_mul_lt_mul_left a5 (by omega)
   omega
  have k0:0≤k:=by
   have s:=sum_bound (v:=n - 1) (n:=n) h2
   have e1:Bf (n - 1+1) t=t:=wV (by rw [Nat.sub_add_cancel h0]; exact h2)
   rw [e1,h1] at s
   have:=up ((n:Nat):Int) ((n - 1:Nat):Int) (by omega) (by omega) (by omega) (by omega) s
   omega
  rw [ek]
  refine ⟨⟨hm,k0⟩,(G6 h2).mpr fun v hv=>?_⟩
  have s:=sum_bound (v:=v) (n:=n) h2
  rw [h1] at s
  have hl:(Bf (v+1) t).length≤t.length:=List.length_filter_le _ _
  have:=up (((Bf (v+1) t).length:Nat):Int) ((v:Nat):Int) (by omega) (by omega) (by omega) (by omega) s
  omega
theorem lots_many {n:Nat} (h0:0<n) {T:Int} (hT:((n:Nat):Int)*(((n:Nat):Int) - 1)≤T):W9 n T=((n^(n - 1):Nat):Int):=by
 have key:∀t∈tup n n,(U8 n T t=true↔(T+((n:Nat):Int)*(((n:Nat):Int) - 1) / 2 - ((t.sum:Nat):Int))%((n:Nat):Int)=0):=fun t ht=>QF h0 hT (qW.mp ht).1 (qW.mp ht).2
 have e:W9 n T=aQ (tup n (n - 1+1)) fun t=>if (T+((n:Nat):Int)*(((n:Nat):Int) - 1) / 2 - ((t.sum:Nat):Int))%((n:Nat):Int)=0 then (1:Int) else 0:=by
  rw [Nat.sub_add_cancel h0]
  exact aH fun t ht=>by simp only [key t ht]
 rw [e,Va h0]
end DM
end
section
set_option exponentiation.threshold 10000
namespace DM
open PySem L2
/-! amn: factorial, states_many, least_sum, lots_many on data. -/
section
variable {cl:Nat→List En→R En}
end
section
variable {cl:Nat→List En→R En} {iC iF iL iR:Nat}
end
end DM
end
section
namespace DM
open PySem L2
/-! amo: which residues have a state. -/
end DM
end
section
namespace DM
open PySem L2
/-! amq: all states counted; no coins. -/
end DM
end
section
namespace DM
open PySem L2
/-! amr: the lots of all residues together; residues in another order, with more coins. -/
end DM
end
section
namespace DM
open PySem L2
/-! ams: a tuple afc (draws of the first kind). -/
end DM
end
section
namespace DM
open PySem L2
/-! amt: the product formula. -/
end DM
end
section
namespace DM
open PySem L2
/-! amu: a law whose cells are walked as acT, with another end. -/
end DM
end
section
namespace DM
open PySem PySem.Spec PyProof.Rows L2
/-! amv: <= of states (pairs of tuples of ints), and comparisons in a row of any length. -/
section
variable {A:Around} {s:Shared} {l b:Addr} {its its2:List Value} {ns ms:List Int}
end
section
variable {A:Around} {s:Shared} {p q a b c d:Addr} {i1 i2 j1 j2:List Value} {n1 n2 m1 m2:List Int}
end
section
variable {X:Cx}
end
abbrev TL:=L2.St→V→Hp→VK→Prop
def wW (X:Cx) (ops:List CmpOp) (es:List Expr) (tl:TL):Prop:=∀(pos:Pos) (pins:List (Addr × Obj)) (s:Shared) (σ:L2.St) (H:Hp) (Q:VK) (y:V) (a:Value),Inv X pins σ H s→RelV y a→tl σ y H Q→wpAny (model X.prog X.w) X.A (compareChain pos a ops (evalEach es X.env)) (EP X pins σ Q) X.xe s
section
variable {X:Cx} {pos:Pos}
theorem QG {op:CmpOp} {e:Expr} {r:R2} {t:TE} (ho:OpR X (compareOp op) r) (h:PE X e t):wW X [op] [e] fun σ y H Q=>t σ H fun w H4=>r y w H4 Q:=by
 intro pos pins s σ H Q y a I r1 q
 exact chain_last (thn (h.run pins s σ H _ I q) fun w' s4 ⟨z',H4,I4,r4,q4⟩=>ho pins s4 σ H4 y z' a w' Q I4 r1 r4 q4)
theorem Jr {op op':CmpOp} {ops:List CmpOp} {e e':Expr} {es:List Expr} {r:R2} {t:TE} {tl:TL} (ho:OpR X (compareOp op) r) (h:PE X e t) (hl:wW X (op'::ops) (e'::es) tl):wW X (op::op'::ops) (e::e'::es) fun σ y H Q=>t σ H fun w H2=>r y w H2 fun z H3=>∃k,z=.bl k∧(if k=true then tl σ w H3 Q else Q (.bl false) H3):=by
 intro pos pins s σ H Q y a I r1 q
 refine chain_link (thn (h.run pins s σ H _ I q) fun u s2 ⟨w,H2,I2,r2,q2⟩=>thn (ho pins s2 σ H2 y w a u _ I2 r1 r2 q2) fun d s3 ⟨z,H3,I3,r3,k,e,q3⟩=>?_)
 subst e
 cases r3
 refine wpAny_truthy_bool ?_
 cases k with
 | false=>exact ite_ff ⟨.bl false,H3,I3,rfl,q3⟩
 | true=>exact ite_tt (hl pos pins s3 σ H3 Q w u I3 r2 q3)
end
/-! on data -/
def CW (g:En→En→Option En) (f:ak→R Val) (b:Val) (ρ:ak):R Val:=(f ρ).bind fun c ρ3=>match look ρ3 b,look ρ3 c with
 | some y,some z=>o9 ((g y z).map .en) ρ3
 | _,_=>.bad
def CZ (g:En→En→Option En) (f:ak→R Val) (rest:Val→ak→R Val) (a:Val) (ρ:ak):R Val:=(f ρ).bind fun b ρ2=>match look ρ2 a,look ρ2 b with
 | some x,some y=>match (g x y).bind vH with
  | some false=>.ok (.en (.fr (.bl false))) ρ2
  | some true=>rest b ρ2
  | none=>.bad
 | _,_=>.bad
def G7 (C:Cs) (Z:ZX) (tl:TL) (g:Val→ak→R Val):Prop:=∀(o:Og) (F H:Hp) (σ:L2.St) (ρ:ak) (T:Tm) (Q:VK) (b:Val) (y:V),SM C o F H σ ρ ((b,y)::T) →
 lE (g b ρ) (fun val ρ'=>∀F' H' v,SM C o F' H' σ ρ' ((val,v)::T)→Q v H') (fun x ρ'=>∀F' H',SM C o F' H' σ ρ' T→Z x F' H' σ ρ')→tl σ y H Q
section
variable {C:Cs} {Z:ZX}
theorem Jt {r:R2} {g:En→En→Option En} {t:TE} {f:ak→R Val} (hr:qK C.K r g) (h:Impl C Z t f):G7 C Z (fun σ y H Q=>t σ H fun w H4=>r y w H4 Q) (CW g f):=by
 intro o F H σ ρ T Q b y S q
 unfold CW at q
 rw [aA] at q
 refine h o F H σ ρ _ _ S (au q (fun c ρ3 h3 F4 H4 w S4=>?_) fun _ _ h F' H' s=>h F' H' s.drop)
 cases lb3:look ρ3 b with
 | none=>rw [lb3] at h3; exact h3.elim
 | some e2' =>
  cases lc:look ρ3 c with
  | none=>rw [lb3,lc] at h3; exact h3.elim
  | some e3 =>
   rw [lb3,lc] at h3
   obtain ⟨val,hv,q⟩:=cD h3
   cases hg':g e2' e3 with
   | none=>rw [hg'] at hv; cases hv
   | some e' =>
    rw [hg'] at hv
    cases hv
    exact hr F4 H4 e2' e3 y w e' Q S4.sub (S4.look (j:=1) rfl lb3) (S4.look (j:=0) rfl lc) hg' fun F5 H5 v al=>q F5 H5 v (SM.under [(c,w),(b,y)] (S4.alloc al))
theorem Dc {r:R2} {g:En→En→Option En} {t:TE} {f:ak→R Val} {tl:TL} {rest:Val→ak→R Val} (hr:qK C.K r g) (h:Impl C Z t f) (hl:G7 C Z tl rest):G7 C Z (fun σ y H Q=>t σ H fun w H2=>r y w H2 fun z H3=>∃k,z=.bl k∧(if k=true then tl σ w H3 Q else Q (.bl false) H3)) (CZ g f rest):=by
 intro o F H σ ρ T Q a x S q
 unfold CZ at q
 rw [aA] at q
 refine h o F H σ ρ _ _ S (au q (fun b ρ2 h2 F2 H2 y S2=>?_) fun _ _ h F' H' s=>h F' H' s.drop)
 cases la:look ρ2 a with
 | none=>rw [la] at h2; exact h2.elim
 | some e1 =>
  cases lb:look ρ2 b with
  | none=>rw [la,lb] at h2; exact h2.elim
  | some e2 =>
   rw [la,lb] at h2
   simp only at h2
   cases hg:(g e1 e2).bind vH with
   | none=>rw [hg] at h2; exact h2.elim
   | some k =>
    rw [hg] at h2
    obtain ⟨e,he,hk⟩:=dH hg
    refine hr F2 H2 e1 e2 x y e _ S2.sub (S2.look (j:=1) rfl la) (S2.look (j:=0) rfl lb) he fun F3 H3 z al=>?_
    have S3:=S2.alloc al
    have hz:z=.bl k:=rA (S3.look (j:=0) (e:=e) rfl rfl) hk
    refine ⟨k,hz,?_⟩
    cases k with
    | false =>
     simp only [Bool.false_eq_true,if_false]
     exact h2 F3 H3 _ (S3.drop.drop.drop.bf (fZ false))
    | true =>
     simp only [if_true]
     exact hl o F3 H3 σ ρ2 _ Q b y (SM.under [(a,x)] S3.drop) (h2:lE (rest b ρ2) _ _)
end
def JL (XR:cG) (X:Cx) (C:Cs) (W:WX) (ops:List CmpOp) (es:List Expr) (f:Val→ak→R Val):Prop:=∃tl,wW X ops es tl∧G7 C (ZW XR W) tl f
section
variable {XR:cG} {M:Wd} {X:Cx} {C:Cs} {W:WX} {k:Nat} {N:List Str} {nm:List (Str × NameKind)} {fb:Str→Bool} {a e e':Expr} {es:List Expr} {op op':CmpOp} {ops:List CmpOp} {g:En→En→Option En} {fa f:ak→R Val} {rest:Val→ak→R Val} {pos:Pos}
theorem JL.one (G:Ctx M X C W k N nm fb) (h:yD op g) (hb:JE XR X C W e f):JL XR X C W [op] [e] (CW g f):=by
 obtain ⟨tb,b1,b2⟩:=hb
 obtain ⟨r,r1,r2⟩:=h X G.un
 exact ⟨_,QG r1 b1,Jt (by rw [← G.hK]; exact r2) b2⟩
theorem JL.more (G:Ctx M X C W k N nm fb) (h:yD op g) (hb:JE XR X C W e f) (hl:JL XR X C W (op'::ops) (e'::es) rest):JL XR X C W (op::op'::ops) (e::e'::es) (CZ g f rest):=by
 obtain ⟨tb,b1,b2⟩:=hb
 obtain ⟨tl,l1,l2⟩:=hl
 obtain ⟨r,r1,r2⟩:=h X G.un
 exact ⟨_,Jr r1 b1 l1,Dc (by rw [← G.hK]; exact r2) b2 l2⟩
end
end DM
end
section
set_option maxHeartbeats 1000000
namespace DM
open PySem L2
/-! amw: how far apart, by the two ends of each gap. -/
end DM
end
section
namespace DM
open PySem L2
/-! amx: a law that asks one turn of each cell, all in one row. -/
end DM
end
section
set_option maxHeartbeats 2000000
namespace PySem
open Sem (wp)
open AutoSeq1 (wpAny_loadPart')
section
variable {prog:Program} {w:World} {A:Around} {R:Result→Shared→Prop} {E:Value→Shared→Prop} {s:Shared} {z TI TO i1 i2:Addr} {fp1 fp2:List Addr} {n1 n2 n:Nat} {P1 P2:Nat→Value→Prop} {St1 St2:Nat→Heap→Prop}
end
end PySem
namespace DM
open PySem L2
section
variable {X:Cx} {pins:List (Addr × Obj)} {σ:L2.St} {H:Hp} {s:Shared}
end
section
variable {C:Cs} {Z:ZX}
end
section
open PySem.Spec PyProof.Rows
variable {XR:cG} {M:Wd} {X:Cx} {C:Cs} {W:WX} {k:Nat} {N:List Str} {nm:List (Str × NameKind)} {fb:Str→Bool}
variable {e e2:Expr} {f fa:ak→R Val} {pos p p2 pos2:Pos}
end
end DM
end
section
set_option maxHeartbeats 2000000
namespace DM
open PySem PySem.Spec PyProof.Rows L2
/-! methods with one argument -/
def G8 (g:En→En→Option En) (fa fb:ak→R Val) (ρ:ak):R Val:=(fa ρ).bind fun a ρ1=>match (look ρ1 a).bind stE with
 | some s=>(fb ρ1).bind fun b ρ2=>match look ρ2 b with
  | some y=>o9 ((g (.fr (.str s)) y).map .en) ρ2
  | none=>.bad
 | none=>.bad
section
variable {C:Cs} {Z:ZX}
theorem Vb {o:Og} {F H:Hp} {σ:L2.St} {ρ:ak} {T:Tm} {a:Val} {x:V} {z:Str} (S:SM C o F H σ ρ ((a,x)::T)) (h:(look ρ a).bind stE=some z):x=.str z:=by
 cases la:look ρ a with
 | none=>rw [la] at h; cases h
 | some e=>rw [la] at h; exact jA (S.look (j:=0) rfl la) h
theorem G9 {r:V→List V→Hp→VK→Prop} {g:En→En→Option En} {ta tb:TE} {fa fb:ak→R Val} (hr:qK C.K (fun x y H Q=>r x [y] H Q) g) (ha:Impl C Z ta fa) (hb:Impl C Z tb fb):Impl C Z (tM1 r ta tb) (G8 g fa fb):=by
 intro o F H σ ρ T Q S h
 unfold G8 at h
 rw [aA] at h
 refine ha o F H σ ρ T _ S (au h (fun a ρ1 h1 F1 H1 x S1=>?_) fun _ _ h=>h)
 cases la:(look ρ1 a).bind stE with
 | none=>rw [la] at h1; exact h1.elim
 | some z =>
  rw [la] at h1
  simp only at h1
  have ex:=Vb S1 la
  subst ex
  refine ⟨⟨z,rfl⟩,?_⟩
  rw [aA] at h1
  refine hb o F1 H1 σ ρ1 _ _ S1 (au h1 (fun b ρ2 h2 F2 H2 y S2=>?_) fun _ _ h F' H' s=>h F' H' s.drop)
  cases lb:look ρ2 b with
  | none=>rw [lb] at h2; exact h2.elim
  | some e2 =>
   rw [lb] at h2
   obtain ⟨val,hv,q⟩:=cD h2
   cases hg:g (.fr (.str z)) e2 with
   | none=>rw [hg] at hv; cases hv
   | some e =>
    rw [hg] at hv
    cases hv
    refine hr F2 H2 (.fr (.str z)) e2 (.str z) y e Q S2.sub (by simp only [Rp,Dq]) (S2.look (j:=0) rfl lb) hg fun F' H' v al=>q F' H' v ?_
    exact SM.under [(b,y),(a,.str z)] (S2.alloc al)
end
def vA:List D→Option (List Str)
 | []=>some []
 | .str z::l=>(vA l).map (z::·)
 | _=>none
theorem Bg {K:PySem.W.Frag} {F:Hp}:∀{l:List D} {zs:List Str} {vs:List V},vA l=some zs→aN K F l vs→vs=zs.map V.str
 | [],zs,vs,h,r=>by
  cases h
  have:=r.length
  cases vs with
  | nil=>rfl
  | cons _ _=>simp at this
 | d::l,zs,vs,h,r=>by
  cases d with
  | str z =>
   have h:(vA l).map (z::·)=some zs:=h
   cases q:vA l with
   | none=>rw [q] at h; cases h
   | some ws =>
    rw [q] at h
    cases h
    simp only [aN] at r
    obtain ⟨v,r0,rfl,r1,r2⟩:=r
    have e:=Bg q r2
    have e1:v=V.str z:=by simpa only [Dq] using r1
    rw [e,e1]
    rfl
  | _=>cases h
theorem Bh {K:PySem.W.Frag} {F:Hp}:∀zs:List Str,aN K F (zs.map D.str) (zs.map V.str)
 | []=>aN.nil
 | z::zs=>.cons (by simp only [Dq]) (Bh zs)
def Dd:En→En→Option En:=fun a b=>match stE a,stE b with
 | some x,some y=>if (y.length == 0)=false∧x.length+2≤sizeLine then some (.ol ((Txt.split x y).map .str)) else none
 | _,_=>none
def QH:En→En→Option En:=fun a b=>match stE a,(Bv b).bind vA with
 | some x,some ys=>if (ys.map (·.length)).sum+ys.length*x.length≤16777216 then ⇑(.str (Txt.join x ys)) else none
 | _,_=>none
def Hf:V→List V→Hp→VK→Prop:=fun x xs H Q=>∃a b,x=.str a∧xs=[.str b]∧(b.length == 0)=false∧a.length+2≤sizeLine∧rNewStrs (Txt.split a b) H Q
def QJ (K:PySem.W.Frag):V→List V→Hp→VK→Prop:=fun x xs H Q=>∃a p,∃ys:List Str,x=.str a∧xs=[.ref p]∧(SqL K H p (ys.map V.str)∨SqT K H p (ys.map V.str)) ∧
 (ys.map (·.length)).sum+ys.length*a.length≤16777216∧Q (.str (Txt.join a ys)) H
section
variable {K:PySem.W.Frag}
theorem QK:qK K (fun x y H Q=>Hf x [y] H Q) Dd:=by
 intro F H e1 e2 x y e Q s r1 r2 h q
 unfold Dd at h
 cases h1:stE e1 with
 | none=>rw [h1] at h; cases h
 | some i =>
  cases h2:stE e2 with
  | none=>rw [h1,h2] at h; cases h
  | some j =>
   rw [h1,h2] at h
   simp only at h
   by_cases c:(j.length == 0)=false∧i.length+2≤sizeLine
   ·rw [if_pos c] at h
    cases h
    rw [jA r1 h1,jA r2 h2]
    exact ⟨i,j,rfl,rfl,c.1,c.2,fun p hp=>q _ _ _ (.lst (Grow.refl s) hp (Bh _))⟩
   ·rw [if_neg c] at h; cases h
theorem Vc:qK K (fun x y H Q=>QJ K x [y] H Q) QH:=by
 intro F H e1 e2 x y e Q s r1 r2 h q
 unfold QH at h
 cases h1:stE e1 with
 | none=>rw [h1] at h; cases h
 | some i =>
  cases h2:Bv e2 with
  | none=>rw [h1,h2] at h; cases h
  | some xs =>
   cases h3:vA xs with
   | none=>rw [h1,h2,Option.bind_some,h3] at h; cases h
   | some ys =>
    rw [h1,h2,Option.bind_some,h3] at h
    simp only at h
    by_cases c:(ys.map (·.length)).sum+ys.length*i.length≤16777216
    ·rw [if_pos c] at h
     cases h
     obtain ⟨a,us,rfl,k1,k2⟩:=rC s r2 h2
     rw [Bg h3 k2] at k1
     rw [jA r1 h1]
     exact ⟨i,a,ys,rfl,rfl,.inl k1,c,q _ _ _ (.flat s (rB _))⟩
    ·rw [if_neg c] at h; cases h
end
/-! sign by sign -/
section
variable {C:Cs} {Z:ZX}
end
/-! int of a text -/
section
variable {M:Wd} {XR:cG} {X:Cx} {C:Cs} {W:WX} {k:Nat} {N:List Str} {nm:List (Str × NameKind)} {fb:Str→Bool}
variable {e e2 tg:Expr} {f fa:ak→R Val} {ap cp:Pos}
theorem JE.split (G:Ctx M X C W k N nm fb) (h:JE XR X C W e f) (h':JE XR X C W e2 fa) (hs:starEach [e2] X.env=[(false,eval e2 X.env)]:=by rfl) (hbase:attributeBase e "split" X.env (eval e X.env)=eval e X.env:=by rfl) (hline:(ap.endLine == cp.line)=true:=by rfl) :
  JE XR X C W (.Call (.Attribute e "split" ap) [e2] [] cp) (G8 Dd f fa):=by
 obtain ⟨t,h1,h2⟩:=h
 obtain ⟨t',k1,k2⟩:=h'
 exact ⟨_,pe_split h1 k1 hs hbase hline,G9 (r:=Hf) QK h2 k2⟩
theorem JE.join (G:Ctx M X C W k N nm fb) (h:JE XR X C W e f) (h':JE XR X C W e2 fa) (hs:starEach [e2] X.env=[(false,eval e2 X.env)]:=by rfl) (hbase:attributeBase e "join" X.env (eval e X.env)=eval e X.env:=by rfl) (hline:(ap.endLine == cp.line)=true:=by rfl) :
  JE XR X C W (.Call (.Attribute e "join" ap) [e2] [] cp) (G8 QH f fa):=by
 obtain ⟨t,h1,h2⟩:=h
 obtain ⟨t',k1,k2⟩:=h'
 exact ⟨_,pe_join h1 k1 hs hbase hline,G9 (r:=QJ X.K) (by rw [← G.hK]; exact Vc) h2 k2⟩
end
end DM
end
section
set_option maxHeartbeats 1000000
set_option exponentiation.threshold 10000
namespace DM
open PySem L2
/-! amy: texts of states, rows and wishes, on data. -/
section
variable {cl:Nat→List En→R En} {iS iI iP iN iT iW iO iR iC:Nat}
end
/-! ### read back -/
end DM
end
section
set_option maxHeartbeats 1000000
set_option exponentiation.threshold 10000
namespace DM
open PySem L2
/-! amA: bounds of texts; texts that are states; a law's own text. -/
end DM
end
section
set_option maxHeartbeats 2000000
namespace DM
open PySem PySem.Spec PyProof.Rows L2
section
variable {C:Cs} {Z:ZX}
end
/-! list(text) -/
section
variable {M:Wd} {XR:cG} {X:Cx} {C:Cs} {W:WX} {k:Nat} {N:List Str} {nm:List (Str × NameKind)} {fb:Str→Bool}
variable {e:Expr} {f:ak→R Val} {p pos:Pos}
end
end DM
end
section
set_option maxHeartbeats 2000000
namespace DM
open PySem PySem.Spec PyProof.Rows L2
def obL (ρ:ak) (i:Nat):Option (List (Str × Itm)):=match (ρ[i]?).join with
 | some (.ob fs)=>some fs
 | _=>none
theorem QL {ρ:ak} {i:Nat} {fs:List (Str × Itm)} (h:obL ρ i=some fs):ρ[i]?=some (some (.ob fs)):=by
 unfold obL at h
 cases q:(ρ[i]?).join with
 | none=>rw [q] at h; cases h
 | some e =>
  rw [q] at h
  cases e with
  | ob ys=>cases h; exact join_some q
  | _=>cases h
section
variable {C:Cs} {o:Og} {F H:Hp} {σ:L2.St} {ρ:ak} {T:Tm} {Z:ZX} {i:Nat} {f:Str} {xs:List D}
end
section
variable {M:Wd} {XR:cG} {X:Cx} {C:Cs} {W:WX} {k:Nat} {N:List Str} {nm:List (Str × NameKind)} {fb:Str→Bool}
variable {e:Expr} {p p2 p3 pos:Pos} {x y f:Str}
end
end DM
end
section
set_option maxHeartbeats 2000000
namespace DM
open PySem PySem.Spec PyProof.Rows L2
section
variable {C:Cs} {o o':Og} {F H F' H':Hp} {σ σ':L2.St} {ρ ρ':ak} {T T':Tm} {x j:Nat} {f:Str} {fs:List (Str × Itm)} {gs:List (Str × V)} {a dx p:Addr} {us:List V} {xs ys:List D} {v:V}
end
section
variable {C:Cs} {XR:cG} {W:WX} {x:Nat} {f:Str}
end
end DM
end
section
set_option maxHeartbeats 2000000
namespace DM
open PySem PySem.Spec PyProof.Rows L2
section
variable {M:Wd} {XR:cG} {X:Cx} {C:Cs} {W:WX} {k:Nat} {N:List Str} {nm:List (Str × NameKind)} {fb:Str→Bool}
variable {e:Expr} {es:List Expr} {p p2 p3 pos ap cp:Pos} {x y f name m:Str} {fsP:List D→ak→R (List Val)} {fs fk:ak→R (List Val)}
end
section
variable {X:Cx} {k n:Nat} {f C:Addr} {fd:FuncData} {ps ks:List Str} {sp:Sp} {perm:List Nat} {E:L2.St→XK} {m:Str} {pos apos:Pos} {o e:Expr} {es:List Expr} {kws:List Keyword} {ta:TE} {t tk:TA}
end
section
variable {M:Wd} {XR:cG} {X:Cx} {C:Cs} {W:WX} {k:Nat} {N:List Str} {nm:List (Str × NameKind)} {fb:Str→Bool}
variable {e:Expr} {es:List Expr} {kws:List Keyword} {p2 pos ap:Pos} {y mn:Str} {fs fk:ak→R (List Val)} {fd:FuncData} {ps ks:List Str} {fA:Addr} {np n m:Nat} {perm L cs:List Nat} {run:List En→R En}
end
end DM
end
section
set_option maxHeartbeats 2000000
namespace DM
open PySem PySem.Spec PyProof.Rows L2
section
variable {C:Cs} {o:Og} {F H:Hp} {σ:L2.St} {ρ:ak} {T:Tm} {x:Nat} {f:Str} {fs:List (Str × Itm)} {gs:List (Str × V)} {a dx q:Addr} {xs:List D} {e:En} {v:V}
end
section
variable {C:Cs} {Z:ZX} {x:Nat} {f:Str}
end
section
variable {M:Wd} {XR:cG} {X:Cx} {C:Cs} {W:WX} {k:Nat} {N:List Str} {nm:List (Str × NameKind)} {fb:Str→Bool}
variable {e:Expr} {p2 p3 pos:Pos} {y f:Str} {fe:ak→R Val}
end
end DM
end
section
set_option maxHeartbeats 2000000
namespace DM
open PySem PySem.Spec PyProof.Rows L2
section
variable {C:Cs} {Z:ZX} {XR:cG} {W:WX} {i:Nat} {pt:PtI}
end
section
variable {M:Wd} {XR:cG} {X:Cx} {C:Cs} {W:WX} {k:Nat} {N:List Str} {nm:List (Str × NameKind)} {fb:Str→Bool}
variable {e ix:Expr} {p2 p3 p4 pos ap:Pos} {y:Str} {fd:FuncData} {ps:List Str} {fA:Addr} {i:Nat} {pt:PtI}
end
end DM
end
section
set_option maxHeartbeats 2000000
namespace DM
open PySem PySem.Spec PyProof.Rows L2
def QM (C:Addr) (sp:Sp) (E:L2.St→XK) (t:TA):TE:=fun σ H Q=>t σ H fun vs H1=>∃v,vs=[v]∧∀x dx,H1 x=none→H1 dx=none→dx≠x →
 sp [.ref x,v] (upd (upd H1 dx (.own x)) x (.ins C dx [])) (fun w H3=>w=.non∧Q (.ref x) H3) (E σ)
section
variable {X:Cx} {k n:Nat} {f C:Addr} {fd:FuncData} {ps ks:List Str} {sp:Sp} {perm:List Nat} {E:L2.St→XK} {x:Str} {p pos:Pos} {e:Expr} {ta:TE}
theorem Bj {A:Around} {C:Addr} {us:List Value} {kw:List (Str × Value)} (h:A.guards=some []):(A.under (.builtin "type.__call__" ⟨.ref C::us,kw⟩)).guards=some []:=by
 have e:(A.under (.builtin "type.__call__" ⟨.ref C::us,kw⟩)).guards=pushGuards (Code.guards (.builtin "type.__call__" ⟨.ref C::us,kw⟩)) A.guards:=by with_unfolding_all rfl
 rw [e,h]
 with_unfolding_all rfl
theorem Ju {pins:List (Addr × Obj)} {σ:L2.St} {H:Hp} {s:Shared} {Q:VK} {us ws:List Value} {vs zs:List V} {v:V} (M:L2.Mk X.K C f) (fn:mH X.prog X.w X.K X.mg X.base k f fd ps sp) (hr:Room (k+1) X.A) (hg:X.A.guards=some []) (hb:aW fd ps ks n perm)
  (hx:∀σ,PassesAt (L2.CX X.prog X.w) X σ (E σ)) (I:Inv X pins σ H s) (r:Vals vs us) (rz:Vals zs ws) (l1:vs.length+1=n) (l2:zs.length=ks.length) (hp:∀x:Addr,cV .non perm ((V.ref x::vs)++zs)=[.ref x,v])
  (h:∀x dx,H x=none→H dx=none→dx≠x→sp [.ref x,v] (upd (upd H dx (.own x)) x (.ins C dx [])) (fun w H2=>w=.non∧Q (.ref x) H2) (E σ)) :
  wpAny (model X.prog X.w) X.A (call (.ref C) us (ks.zip ws)) (EP X pins σ Q) X.xe s:=by
 have hq:=h (s.heap.objs.size+1) s.heap.objs.size (I.hok.fresh (Nat.le_succ _)) (I.hok.fresh (Nat.le_refl _)) (Nat.ne_of_lt (Nat.lt_succ_self _))
 rw [← hp] at hq
 have I2:=Inv.made (C:=C) I
 have r0:Vals (V.ref (s.heap.objs.size+1)::vs) (Value.ref (s.heap.objs.size+1)::us):=.cons rfl r
 have r2:=r0.append rz
 have e1:(Value.ref (s.heap.objs.size+1)::us).length=n:=by rw [← l1,r.length]; rfl
 have e2:ws.length=ks.length:=rz.length.symm.trans l2
 refine wpAny_call (make_map (f:=f) I.kIn M.makes M.init (beq_iff_eq.mp M.fn) (codeAny_mono (fn.run _ X.stack _ _ ⟨Value.ref (s.heap.objs.size+1)::us,ks.zip ws⟩ _ _ _ (E σ) (hr.make C us (ks.zip ws)) (Bj hg)
  (I2.env0.make C us (ks.zip ws)) (.of_eq (hb.to _ ws e1 e2)) (lJ r2 perm) hq) fun r s' hq'=>?_))
 cases r with
 | error e=>exact hx σ pins _ _ e s' I2 hq'
 | ok fl =>
  cases fl with
  | ret u =>
   obtain ⟨v,H',I3,rv,ev,q3⟩:=I2.after hq'
   subst ev
   exact ⟨rv,⟨V.ref (s.heap.objs.size+1),H',I3,rfl,q3⟩⟩
  | next=>exact False.elim hq'
  | brk=>exact False.elim hq'
  | cont=>exact False.elim hq'
theorem QS {t:TA} (M:L2.Mk X.K C f) (fn:mH X.prog X.w X.K X.mg X.base k f fd ps sp) (hr:Room (k+1) X.A) (hgd:X.A.guards=some []) (hg:Gl X x) (hm:X.mg x=some (.ref C)) (hb:aW fd ps [] 2 [0,1]) (hx:∀σ,PassesAt (L2.CX X.prog X.w) X σ (E σ))
  (ha:PA X (e::[]) t) (hdb:(x == ("__debug__":Str))=false:=by decide) (he:starEach (e::[]) X.env=(false,eval e X.env)::starEach [] X.env:=by rfl) (hpl:(backTo pos (starEach [] X.env)).any (·.1)=false:=by rfl) :
  PE X (.Call (.Name x p) [e] [] pos) (QM C sp E t):=by
 refine ⟨fun pins s σ H Q I h=>wpAny_Call_Name_kw (ld_glob I hg hm ?_ hdb)⟩
 refine PySem.W.callWith_K (h₀:=X.base) I.ok.mod.kin M.kp (thn (ha.run pos pins s σ H _ I h) fun us s1 hh=>?_) he hpl
 obtain ⟨vs,H1,I1,r,v,rfl,q⟩:=hh
 exact ⟨I1.kIn,Ju (ks:=[]) (ws:=[]) (zs:=[]) (v:=v) M fn hr hgd hb hx I1 r .nil rfl rfl (fun x=>rfl) q⟩
end
/-! ### on data -/
def tL (run:List En→R En) (fs:ak→R (List Val)) (ρ:ak):R Val:=(fs ρ).bind fun as ρ1=>match as with
 | [.en (.fr d)]=>match run [.ob [],.fr d] with
  | .ok (.fr .non) ρ'=>match obL ρ' 0 with
   | some fs'=>.ok (.en (.ob fs')) ρ1
   | none=>.bad
  | .exc y _=>.exc y ρ1
  | _=>.bad
 | _=>.bad
section
variable {C:Cs} {XR:cG} {W:WX}
theorem Zd {o:Og} {F H:Hp} {σ:L2.St} {ρ:ak} {T:Tm} {x dx:Addr} (S:SM C o F H σ ρ T) (hx:H x=none) (hd:H dx=none) (hn:dx≠x):SM C o F (upd (upd H dx (.own x)) x (.ins (Ky C.K) dx [])) σ ρ ((.en (.ob []),.ref x)::T):=by
 have g1:=Grow.junk (o:=.own x) S.sub hd
 have hx1:upd H dx (.own x) x=none:=by rw [upd_ne (Ne.symm hn)]; exact hx
 have g2:=Grow.junk (o:=.ins (Ky C.K) dx []) g1.sub hx1
 have g:=g1.trans g2
 have fr:∀{b:Addr},H b=none→F b=none∧(o.O b∨o.H b=none):=fun {b} hb=>by
  refine ⟨?_,?_⟩
  ·cases q:F b with
   | none=>rfl
   | some u=>rw [S.sub b u q] at hb; cases hb
  ·by_cases z:o.O b
   ·exact .inl z
   ·right
    cases q:o.H b with
    | none=>rfl
    | some u=>rw [S.keep b u z q] at hb; cases hb
 refine (S.grow g).push ⟨x,dx,[],rfl,upd_same,by rw [upd_ne hn,upd_same],rfl,fun i x y e1 e2=>by simp at e1,fun i j a xs ys e1 e2 e3 e4=>by simp at e1⟩ fun b w=>?_
 obtain ⟨a',C',dx',gs',w1,w2,w3⟩:=w
 cases w1
 rw [upd_same] at w2
 have w2:some (HO.ins (Ky C.K) dx [])=some (HO.ins C' dx' gs'):=w2
 cases w2
 have nb:H b=none:=by
  rcases w3 with rfl | rfl | ⟨i,xs,e1,e2⟩
  ·exact hx
  ·exact hd
  ·simp at e1
 obtain ⟨f1,f2⟩:=fr nb
 refine ⟨f1,f2,fun q e' v' h w=>?_⟩
 obtain ⟨u,hu⟩:=(S.rep q e' v' h).at (w.back (S.rep q e' v' h) g.h)
 rw [nb] at hu; cases hu
theorem Df {cs:List Nat} {run:List En→R En} {t:TA} {fs:ak→R (List Val)} (h0:0∉cs) (ha:eX C (ZW XR W) t fs):Impl C (ZW XR W) (QM (Ky C.K) (nM C.K 2 [0] cs XR run) (WE W) t) (tL run fs):=by
 intro o F H σ ρ T Q S q
 unfold tL at q
 rw [aA] at q
 refine ha o F H σ ρ T _ S (au q (fun as ρ1 h1 F1 H1 vs hl S1=>?_) fun _ _ h=>h)
 match as,vs,hl with
 | [],_,_=>exact h1.elim
 | _::_::_,_,_ =>
  simp only at h1
  exact h1.elim
 | [a],[v],_ =>
  match a with
  | .bor i=>exact h1.elim
  | .en (.ol _)=>exact h1.elim
  | .en (.od _ _)=>exact h1.elim
  | .en (.on _ _)=>exact h1.elim
  | .en (.cJ _)=>exact h1.elim
  | .en (.ex _)=>exact h1.elim
  | .en (.jW _)=>exact h1.elim
  | .en (.ob _)=>exact h1.elim
  | .en (.exs _)=>exact h1.elim
  | .en (.fr d) =>
   refine ⟨v,rfl,fun x dx hx hd hn=>?_⟩
   have S1':SM C o F1 H1 σ ρ1 ((.en (.fr d),v)::T):=S1
   have S2:=Zd S1' hx hd hn
   generalize hH:upd (upd H1 dx (.own x)) x (.ins (Ky C.K) dx [])=H2 at *
   have hat:∀(j:Nat) (e:En) (w:V),[En.ob [],.fr d][j]?=some e→[V.ref x,v][j]?=some w→At σ ρ1 ([(.en (.ob []),.ref x),(.en (.fr d),v)]++T) (.t j) e w:=fun j e w e1 e2=>by
    match j with
    | 0=>cases e1; cases e2; rfl
    | 1=>cases e1; cases e2; rfl
    | j+2=>simp at e1
   have inj:∀i j,i<[En.ob [],.fr d].length→j<[En.ob [],.fr d].length→Wh.t i=Wh.t j→i=j:=fun i j _ _ z=>Wh.t.inj z
   have low:∀(j q:Nat),j<[En.ob [],.fr d].length→Wh.t j=.t q→q<([(Val.en (.ob []),V.ref x),(.en (.fr d),v)]:Tm).length:=fun j q h z=>by
    cases z
    exact h
   have r0:=hat 0 _ _ rfl rfl
   have r1:=hat 1 _ _ rfl rfl
   have fin:∀{e:En} {w:V} {ρ':ak} {F' H':Hp} {σ':L2.St},SM ⟨C.K,[0],cs,none⟩ (entry F1 H2 [.ob [],.fr d] [.ref x,v] [0]) F' H' σ' ρ' [(.en e,w)]→SM C o F' H' σ ρ1 ((.en e,w)::T):=fun {e w ρ' F' H' σ'} N =>
    SM.call (C':=⟨C.K,[0],cs,none⟩) (wh:=fun j=>.t j) (A:=[(.en (.ob []),.ref x),(.en (.fr d),v)]) S2 hat rfl inj low rfl N rfl (fun k u hu=>.inr ⟨fun j hj z=>(by cases z),hu⟩) fun j i w hj=>by
     obtain ⟨_,⟨u,hu⟩,_⟩:=S2.bor (j+2) i w hj
     exact ⟨u,hu⟩
   refine ⟨rfl,F1,[.ob [],.fr d],S2.sub,.cons (S2.rep _ _ _ r0) (.cons (S2.rep _ _ _ r1) .nil),fun i j e e' w w' a ne g1 g2 g3 g4 w1=>?_,fun i e w a g1 g2 w1=>(S2.own _ e w a (hat i e w g1 g2) w1).1,?_⟩
   ·exact S2.sep _ _ e e' w w' a (fun z=>ne (Wh.t.inj z)) (hat i e w g1 g2) (hat j e' w' g3 g4) w1
   ·simp only at h1
    cases hrun:run [.ob [],.fr d] with
    | bad=>rw [hrun] at h1; exact h1.elim
    | exc y ρ' =>
     rw [hrun] at h1
     intro F' H' σ' cls dd N hx
     exact h1 F' H' (fin (N.bf (d:=.non) (v:=.non) BR)).drop cls dd hx
    | ok e ρ' =>
     rw [hrun] at h1
     intro F' H' σ' w N
     match e with
     | .ol _=>exact h1.elim
     | .od _ _=>exact h1.elim
     | .on _ _=>exact h1.elim
     | .cJ _=>exact h1.elim
     | .ex _=>exact h1.elim
     | .jW _=>exact h1.elim
     | .ob _=>exact h1.elim
     | .exs _=>exact h1.elim
     | .fr (.bl _)=>exact h1.elim
     | .fr (.int _)=>exact h1.elim
     | .fr (.str _)=>exact h1.elim
     | .fr (.lst _)=>exact h1.elim
     | .fr (.tup _)=>exact h1.elim
     | .fr (.dct _ _)=>exact h1.elim
     | .fr (.xJ _ _)=>exact h1.elim
     | .fr .non =>
      have rw':Dq C.K F' .non w:=N.rep (.t 0) (.fr .non) w rfl
      have ew:w=.non:=by simpa only [Dq] using rw'
      simp only at h1
      cases ho:obL ρ' 0 with
      | none=>rw [ho] at h1; exact h1.elim
      | some fs' =>
       rw [ho] at h1
       refine ⟨ew,h1 F' H' (.ref x) ?_⟩
       have hs:σ'[0]?=some (some (.ref x)):=N.lk 0 (.ref x) rfl
       have N1:=(N.drop).eO (i:=0) hs (QL ho) h0
       exact fin (N1.move (QL ho) (ug 0))
end
section
variable {M:Wd} {XR:cG} {X:Cx} {C:Cs} {W:WX} {k:Nat} {N:List Str} {nm:List (Str × NameKind)} {fb:Str→Bool}
variable {e:Expr} {kws:List Keyword} {p pos:Pos} {x kn:Str} {fs:ak→R (List Val)} {fd:FuncData} {ps:List Str} {fA:Addr} {cs:List Nat} {run:List En→R En}
theorem JE.make (G:Ctx M X C W (k+1) N nm fb) (mk:L2.Mk M.K (Ky M.K) fA) (fn:mH M.P M.w M.K M.mg M.base k fA fd ps (nM M.K 2 [0] cs XR run)) (hm:M.mg x=some (.ref (Ky M.K))) (hb:aW fd ps [] 2 [0,1]) (hg:qL nm x=true) (h0:cs.contains 0=false)
  (ha:JA XR X C W (e::[]) fs) (he:starEach (e::[]) X.env=(false,eval e X.env)::starEach [] X.env:=by rfl) (hpl:(backTo pos (starEach [] X.env)).any (·.1)=false:=by rfl) :
  JE XR X C W (.Call (.Name x p) [e] [] pos) (tL run fs):=by
 obtain ⟨g1,g2,_⟩:=cI G hg
 obtain ⟨t,a1,a2⟩:=ha
 have hK:C.K=M.K:=by rw [← G.hK,G.lX]
 refine ⟨_,QS (E:=WE W) (sp:=nM M.K 2 [0] cs XR run) (C:=Ky M.K) (by rw [G.lX]; exact mk) (by rw [G.hP,G.hw,G.lX,G.hmg,G.hbase]; exact fn) G.room G.gd g1 (by rw [G.hmg]; exact hm) hb (passAt G.tk) a1 g2 he hpl,?_⟩
 rw [← hK]
 exact Df (fun z=>by rw [List.contains_iff_mem.mpr z] at h0; cases h0) a2
end
end DM
end
section
set_option maxHeartbeats 2000000
namespace DM
open PySem PySem.Spec PyProof.Rows L2
section
variable {X:Cx} {k:Nat} {f C:Addr} {fd:FuncData} {ps:List Str} {sp:Sp} {E:L2.St→XK} {p pos:Pos} {e:Expr} {t:TA}
theorem call_own {pins:List (Addr × Obj)} {σ:L2.St} {H:Hp} {s:Shared} {Q:VK} {a:Addr} (fn:mH X.prog X.w X.K X.mg X.base k f fd ps sp) (hr:Room (k+1) X.A) (hg:X.A.guards=some []) (hb:aW fd ps [] 1 [0]) (hx:∀σ,PassesAt (L2.CX X.prog X.w) X σ (E σ))
  (I:Inv X pins σ H s) (h:sp [.ref a] H Q (E σ)):wpAny (model X.prog X.w) X.A.in1 (call (.ref f) [.ref a]) (EP X pins σ Q) X.xe s:=by
 have e0:Env0 X.prog X.w X.K X.mg X.base X.A.in1 X.stack s H:=by
  have e:=I.env0
  exact ⟨e.frames,e.mod,e.bs,e.bsz,e.funs,e.frf,e.hok,e.bare⟩
 have r:Vals [V.ref a] [Value.ref a]:=.cons rfl .nil
 refine wpAny_call (codeAny_mono (fn.run X.A.in1 X.stack s H ⟨[.ref a],[]⟩ _ _ Q (E σ) hr.in1 hg e0 (.of_eq (hb.to [.ref a] [] rfl rfl)) (lJ (r.append .nil) [0]) h) fun res s' hq=>?_)
 match res,hq with
 | .error ex,hq=>exact hx σ pins H s ex s' I hq
 | .ok (.ret u),hq=>exact I.after hq
end
section
variable {C:Cs} {XR:cG} {W:WX}
end
section
variable {M:Wd} {XR:cG} {X:Cx} {C:Cs} {W:WX} {k:Nat} {N:List Str} {nm:List (Str × NameKind)} {fb:Str→Bool}
variable {p p2 pos:Pos} {y:Str} {fd:FuncData} {ps:List Str} {fA:Addr} {L cs:List Nat} {run:List En→R En}
end
end DM
end
section
set_option maxHeartbeats 2000000
namespace DM
open PySem PySem.Spec PyProof.Rows L2
section
variable {C:Cs} {Z:ZX} {i j:Nat} {f:Str} {k:Int}
end
section
variable {M:Wd} {XR:cG} {X:Cx} {C:Cs} {W:WX} {k:Nat} {N:List Str} {nm:List (Str × NameKind)} {fb:Str→Bool}
variable {p p2 p3 p4 p5 p6 pos:Pos} {y z f:Str} {kn:Nat}
end
/-! ### x == y -/
section
variable {X:Cx} {k:Nat} {f C:Addr} {fd:FuncData} {ps:List Str} {sp:Sp} {E:L2.St→XK} {pos:Pos} {a b:Expr} {ta tb:TE}
end
section
variable {C:Cs} {XR:cG} {W:WX} {i j:Nat} {L cs:List Nat} {run:List En→R En}
end
section
variable {M:Wd} {XR:cG} {X:Cx} {C:Cs} {W:WX} {k:Nat} {N:List Str} {nm:List (Str × NameKind)} {fb:Str→Bool}
variable {p p2 pos:Pos} {y z:Str} {fd:FuncData} {ps:List Str} {fA:Addr} {L cs:List Nat} {run:List En→R En}
end
end DM
end
section
namespace DM
open PySem PySem.Spec PyProof.Rows L2
def wX (C:Addr):Sp:=fun vs H Q _=>∃a:Addr,vs=[.ref a]∧H a=some (exo a C none)∧Q .non H
structure QT (st:Stmt) (x:Str):Prop where
 names:(defScope st).names=[(Str.ofString "self",NameKind.local),(x,NameKind.globalImplicit)]
 body:∃p1 p2 p3 p5 p6:Pos,defBody st=[.Expr (.Call (.Attribute (.Name x p1) "__init__" p2) [.Name "self" p3] [] p5) p6]∧OD x (.Name "self" p3) [] p1 p2 p5
 nx:(x == ("self":Str))=false
section
variable {P:Program} {w:World} {K:PySem.W.Frag} {mg:Str→Option Value} {base:Heap} {C fI:Addr} {f x cn qual:Str} {B newId initId:String} {bm:List Value} {st:Stmt} {fd:FuncData}
theorem Vd (Bs:xM x B newId initId bm) (T:Own K C fI f cn B newId initId bm) (Fn:Fun K "__init__" qual st fI fd) (sc:FnScope ["self"] ["self"] (defScope st)) (I:QT st x) (hm:mg x=none) :
  FnOk P w K mg base (L2.CX P w) 1 fI fd ["self"] (wX C):=by
 refine Fn.okX sc (fun vs H Q E h=>?_) fun cdv A outer s H vs Q E hr h=>?_
 ·obtain ⟨a,rfl,_⟩:=h
  rfl
 ·obtain ⟨a,rfl,ea,q⟩:=h
  obtain ⟨p1,p2,p3,p5,p6,hb,ev⟩:=I.body
  have lk0:(defScope st).names.lookup ("self":Str)=some NameKind.local:=by rw [I.names]; rfl
  have lk2:(defScope st).names.lookup x=some NameKind.globalImplicit:=by
   rw [I.names]
   simp [List.lookup,I.nx]
  rw [hb]
  refine ⟨tSeq (tDrop (tBI C (tCons (tVar 0) tNil))) tNext,?_,?_⟩
  ·have v0:∀p:Pos,PE (cxOf (L2.CX P w) P w K mg base ["self"] qual (defScope st) fI cdv A outer s H E) (.Name "self" p) (tVar 0):=fun p=>pe_var rfl (.inl lk0) (by decide) (by decide)
   have e1:PE (cxOf (L2.CX P w) P w K mg base ["self"] qual (defScope st) fI cdv A outer s H E) (.Call (.Attribute (.Name x p1) "__init__" p2) [.Name "self" p3] [] p5) (tBI C (tCons (tVar 0) tNil)) :=
    Gf Bs T lk2 hm (pa_cons (v0 p3) pa_nil) ev rfl rfl
   exact pss_cons (ps_expr e1 rfl) pss_nil
  ·exact ⟨_,rfl,a,[],rfl,by simp,ea,q⟩
end
section
variable {X:Cx}
end
section
variable {X:Cx} {C fI:Addr} {f x y cn:Str} {B newId initId:String} {bm:List Value} {p pos:Pos} {k:Nat} {fd:FuncData}
end
structure acU (M:Wd) (aJ:Nat) (B:String):Prop where
 ex:∃(C fI:Addr) (x:Str) (newId initId qual:String) (bm:List Value) (st:Stmt) (fd:FuncData),M.mg (fL aJ)=some (.ref C)∧C=fH M.K aJ∧xM x B newId initId bm∧Own M.K C fI (aV aJ) (fL aJ) B newId initId bm∧Fun M.K "__init__" (Str.ofString qual) st fI fd ∧
  FnScope ["self"] ["self"] (defScope st)∧QT st x∧M.mg x=none∧Binds M.K fd ["self"] []
section
variable {M:Wd} {X:Cx} {C:Cs} {W:WX} {k:Nat} {N:List Str} {nm:List (Str × NameKind)} {fb:Str→Bool} {pos p pos':Pos} {y:Str} {aJ:Nat} {B:String}
end
section
variable {M:Wd} {XR:cG} {X:Cx} {C:Cs} {W:WX} {k:Nat} {N:List Str} {nm:List (Str × NameKind)} {fb:Str→Bool}
variable {p p2 pos:Pos} {y z:Str} {fd:FuncData} {ps:List Str} {fA:Addr} {L cs:List Nat} {run:List En→R En}
end
end DM
end
section
set_option maxHeartbeats 2000000
namespace DM
open PySem PySem.Spec PyProof.Rows L2
section
variable {C:Cs} {Z:ZX}
inductive Hg (C:Cs) (Z:ZX):List TE→List (ak→R Val)→Prop
 | nil:Hg C Z [] []
 | cons {te:TE} {f:ak→R Val} {ts:List TE} {fs:List (ak→R Val)}:Impl C Z te f→Hg C Z ts fs→Hg C Z (te::ts) (f::fs)
end
section
variable {M:Wd} {XR:cG} {X:Cx} {C:Cs} {W:WX} {e v1 v2:Expr} {rest es:List Expr} {f:ak→R Val} {fs:List (ak→R Val)} {pos:Pos}
def JJ (XR:cG) (X:Cx) (C:Cs) (W:WX) (es:List Expr) (fs:List (ak→R Val)):Prop:=∃ts,PJ X es ts∧Hg C (ZW XR W) ts fs
theorem JJ.nil:JJ XR X C W [] []:=⟨[],.nil,.nil⟩
theorem JJ.cons (h:JE XR X C W e f) (h':JJ XR X C W es fs):JJ XR X C W (e::es) (f::fs):=by
 obtain ⟨t,t1,t2⟩:=h
 obtain ⟨ts,u1,u2⟩:=h'
 exact ⟨t::ts,.cons t1 u1,.cons t2 u2⟩
end
def lU (i:Nat) (ρ:ak):R Val:=match (ρ[i]?).join with
 | some (.ex x)=>.ok (.en (.ex x)) ρ
 | _=>.bad
theorem Jv {C:Cs} {Z:ZX} {i:Nat}:Impl C Z (tVar i) (lU i):=by
 intro o F H σ ρ T Q S h
 unfold lU at h
 cases q:(ρ[i]?).join with
 | none=>rw [q] at h; exact h.elim
 | some e =>
  have q':=join_some q
  obtain ⟨v,hv⟩:=S.has i e q'
  rw [q] at h
  have r:Rp C.K F H e v:=S.rep (.s i) e v ⟨q',hv⟩
  cases e with
  | ex x=>exact ⟨v,hv,h F H v (S.push r fun _ w=>w.elim)⟩
  | _=>exact h.elim
section
variable {M:Wd} {XR:cG} {X:Cx} {C:Cs} {W:WX} {k:Nat} {N:List Str} {nm:List (Str × NameKind)} {fb:Str→Bool} {x:Str} {pos:Pos}
theorem JE.Ze (G:Ctx M X C W k N nm fb) (i:Nat) (hi:(N[i]? == some x)=true) (hv:vQ nm x=true):JE XR X C W (.Name x pos) (lU i):=by
 obtain ⟨h1,h2,h3⟩:=jH G hv
 exact ⟨_,pe_var (by rw [G.hN]; exact beq_iff_eq.mp hi) h1 h2 h3,Jv⟩
end
end DM
end
section
set_option maxHeartbeats 2000000
namespace DM
open PySem PySem.Spec PyProof.Rows L2
section
variable {C:Cs} {XR:cG} {W:WX} {Z:ZX}
end
section
variable {M:Wd} {XR:cG} {X:Cx} {C:Cs} {W:WX} {k:Nat} {N:List Str} {nm:List (Str × NameKind)} {fb:Str→Bool}
variable {o e:Expr} {es:List Expr} {kws:List Keyword} {pos ap:Pos} {mn:Str} {f:ak→R Val} {fs fk:ak→R (List Val)} {fd:FuncData} {ps ks:List Str} {fA:Addr} {np n m:Nat} {perm L cs:List Nat} {run:List En→R En}
end
end DM
end
section
set_option maxHeartbeats 1000000
namespace DM
open PySem L2
/-! amB: class Party on data: a party made, told of, and the deeds that it refuses. -/
section
variable {iN iS iX iT iD iL iW:Nat} {cl:Nat→List En→R En}
end
end DM
end
section
set_option maxHeartbeats 1000000
namespace DM
open PySem L2
/-! amC: refusals as they pass from function to function. -/
section
variable {cl:Nat→List En→R En} {d e:D} {x:Ex} {iL iP iR iB iS iM iC iD iA iN iX iK iQ iT iW i0 i1 i2 i6 i7 i8:Nat} {xs ys zs ws:List D}
end
end DM
end
section
namespace DM
open PySem PySem.Spec PyProof.Rows L2
section
variable {P:Program} {w:World}
def Jw (P:Program) (w:World) (n:Nat) (s:Shared) (v:Value):Prop:=∀(A:Around) (E:Value→Shared→Prop) (Q:Bool→Shared→Prop),Q false s→wpAny (model P w) A (ofAClassStatement n v) Q E s
def Jx (P:Program) (w:World) (n:Nat) (s:Shared) (v:Value):Prop:=∀(A:Around) (E:Value→Shared→Prop) (Q:Bool→Shared→Prop),Q true s→wpAny (model P w) A (hashByValue n v) Q E s
theorem Jw.tup {n m:Nat} {s:Shared} {a:Addr} {o:Obj} {us:Array Value} (g:s.heap.get? a=some o) (gc:o.cls=.type "tuple") (gd:o.data=.seq us m) (al:∀v∈us.toList,Jw P w n s v):Jw P w (n+1) s (.ref a):=fun A E Q q=>by
 have ty:s.TypeIs (.ref a) "tuple":=⟨o,g,gc⟩
 unfold ofAClassStatement
 refine wpAny_bind (wpAny_typeOf ty ?_)
 dsimp only
 have e:(("tuple":String) == "tuple")=true:=by decide
 simp only [e,if_true,Bool.not_true,Bool.false_eq_true,if_false]
 try refine wpAny_bind (wpAny_pure ?_)
 try simp only [Bool.not_true,Bool.false_eq_true,if_false]
 show wpAny _ _ (seqItems? (.ref a) >>= _) _ _ s
 refine wpAny_bind (wpAny_seqItems g gd ?_)
 dsimp only
 refine wpAny_bind ?_
 show wpAny _ _ (forIn us _ _) _ _ s
 rw [← Array.forIn_toList]
 refine wpAny_forIn_list _ (fun l r t=>r.1=none∧t=s∧∀v∈l,Jw P w n s v) _ ?_ ?_ _ _ ⟨rfl,rfl,al⟩
 ·rintro v l r t ⟨hr,rfl,b⟩
  refine wpAny_bind (b v List.mem_cons_self _ _ _ ?_)
  simp only [Bool.false_eq_true,if_false]
  exact wpAny_pure ⟨rfl,rfl,fun u hu=>b u (List.mem_cons_of_mem _ hu)⟩
 ·rintro ⟨r,u⟩ t ⟨hr,rfl,_⟩
  simp only at hr
  subst hr
  exact wpAny_pure q
theorem Jx.tup {n m:Nat} {s:Shared} {a:Addr} {o:Obj} {us:Array Value} (g:s.heap.get? a=some o) (gc:o.cls=.type "tuple") (gd:o.data=.seq us m) (al:∀v∈us.toList,Jx P w n s v):Jx P w (n+1) s (.ref a):=fun A E Q q=>by
 have ty:s.TypeIs (.ref a) "tuple":=⟨o,g,gc⟩
 unfold hashByValue
 refine wpAny_bind (wpAny_specialOf ty F.slot_tuple_hash.lookup ?_)
 show wpAny _ _ (seqItems? (.ref a) >>= _) _ _ s
 refine wpAny_bind (wpAny_seqItems g gd ?_)
 refine wpAny_bind ?_
 show wpAny _ _ (forIn us _ _) _ _ s
 rw [← Array.forIn_toList]
 refine wpAny_forIn_list _ (fun l r t=>r.1=none∧t=s∧∀v∈l,Jx P w n s v) _ ?_ ?_ _ _ ⟨rfl,rfl,al⟩
 ·rintro v l r t ⟨hr,rfl,b⟩
  refine wpAny_bind (b v List.mem_cons_self _ _ _ ?_)
  simp only [Bool.not_true,Bool.false_eq_true,if_false]
  exact wpAny_pure ⟨rfl,rfl,fun u hu=>b u (List.mem_cons_of_mem _ hu)⟩
 ·rintro ⟨r,u⟩ t ⟨hr,rfl,_⟩
  simp only at hr
  subst hr
  exact wpAny_pure q
mutual
theorem wY:∀(k:NestedKey) (v:Value) (n:Nat) (s:Shared),NestedIs s.heap k v→k.depth≤n→Jw P w n s v
 | .none,_,n,s,x,_=>by cases x; cases n <;> exact fun A E Q q=>wpAny_pure q
 | .num i,_,n,s,x,_=>by cases x <;> (cases n <;> exact fun A E Q q=>wpAny_pure q)
 | .text y,_,n,s,x,_=>by cases x; cases n <;> exact fun A E Q q=>wpAny_pure q
 | .tup ks,_,n,s,x,hn=>by
  cases x with
  | tup g gc gd al =>
   simp only [NestedKey.depth] at hn
   cases n with
   | zero=>omega
   | succ n=>exact .tup g gc gd (Bl ks _ n s al (by omega))
theorem Bl:∀(ks:List NestedKey) (vs:List Value) (n:Nat) (s:Shared),NestedAll s.heap ks vs→NestedKey.depthAll ks≤n→∀v∈vs,Jw P w n s v
 | [],_,n,s,x,_,v,hv=>by cases x; cases hv
 | k::ks,_,n,s,x,hn,v,hv=>by
  cases x with
  | cons a b =>
   simp only [NestedKey.depthAll] at hn
   rcases List.mem_cons.mp hv with rfl | hv
   ·exact wY k _ n s a (by omega)
   ·exact Bl ks _ n s b (by omega) v hv
end
mutual
theorem Ve:∀(k:NestedKey) (v:Value) (n:Nat) (s:Shared),R9 k=true→NestedIs s.heap k v→k.depth≤n→Jx P w n s v
 | .none,_,n,s,_,x,_=>by cases x; cases n <;> exact fun A E Q q=>wpAny_pure q
 | .num i,_,n,s,_,x,_=>by cases x <;> (cases n <;> exact fun A E Q q=>wpAny_pure q)
 | .text y,_,n,s,z,x,_=>by cases z
 | .tup ks,_,n,s,z,x,hn=>by
  cases x with
  | tup g gc gd al =>
   simp only [NestedKey.depth] at hn
   cases n with
   | zero=>omega
   | succ n=>exact .tup g gc gd (Bm ks _ n s z al (by omega))
theorem Bm:∀(ks:List NestedKey) (vs:List Value) (n:Nat) (s:Shared),nkIs ks=true→NestedAll s.heap ks vs→NestedKey.depthAll ks≤n→∀v∈vs,Jx P w n s v
 | [],_,n,s,_,x,_,v,hv=>by cases x; cases hv
 | k::ks,_,n,s,z,x,hn,v,hv=>by
  have z':(R9 k&&nkIs ks)=true:=z
  rw [Bool.and_eq_true] at z'
  cases x with
  | cons a b =>
   simp only [NestedKey.depthAll] at hn
   rcases List.mem_cons.mp hv with rfl | hv
   ·exact Ve k _ n s z'.1 a (by omega)
   ·exact Bm ks _ n s z'.2 b (by omega) v hv
end
def Jy (h:Heap) (p:Addr × NestedKey):Prop:=NestedIs h p.2 (.ref p.1)∧p.2.depth≤8∧R9 p.2=true
theorem Jy.stay {h h':Heap} {p:Addr × NestedKey} (x:Jy h p) (k:∀b o vs n,h.get? b=some o→o.data=.seq vs n→h'.get? b=some o):Jy h' p:=⟨NestedIs.at k _ _ x.1,x.2⟩
theorem QV {A:Around} {E:Value→Shared→Prop} {s:Shared} {p:Addr × NestedKey} (x:Jy s.heap p) {ys:List Value} (hy:∀y∈ys,∃q:Addr × NestedKey,y=Value.ref q.1∧Jy s.heap q) {Q:Bool→Shared→Prop} (h:Q false s) :
  wpAny (model P w) A (searchCouldBeSeen (.ref p.1) ys) Q E s:=by
 unfold searchCouldBeSeen
 refine wpAny_bind ?_
 refine wpAny_forIn_list _ (fun l r t=>r.1=none∧t=s∧∀y∈l,∃q:Addr × NestedKey,y=Value.ref q.1∧Jy s.heap q) _ ?_ ?_ _ _ ⟨rfl,rfl,hy⟩
 ·rintro v l r t ⟨hr,rfl,al⟩
  obtain ⟨q,rfl,y⟩:=al v List.mem_cons_self
  have al':∀y∈l,∃q:Addr × NestedKey,y=Value.ref q.1∧Jy t.heap q:=fun u hu=>al u (List.mem_cons_of_mem _ hu)
  dsimp only
  by_cases c:(p.1 == q.1 || (carriedByValue (.ref p.1)&&carriedByValue (.ref q.1)))=true
  ·refine wp_if_pos c ?_
   exact wpAny_pure ⟨rfl,rfl,al'⟩
  ·refine wp_if_neg c ?_
   refine wpAny_bind (quiet_key _ _ 8 t x.1 x.2.1 _ _ _ ?_)
   simp only [Bool.not_true,Bool.false_eq_true,if_false]
   refine wpAny_bind (quiet_key _ _ 8 t y.1 y.2.1 _ _ _ ?_)
   simp only [Bool.not_true,Bool.false_eq_true,if_false]
   refine wpAny_bind (wY _ _ 8 t x.1 x.2.1 _ _ _ ?_)
   simp only [Bool.false_eq_true,if_false]
   refine wpAny_bind (wY _ _ 8 t y.1 y.2.1 _ _ _ ?_)
   simp only [Bool.false_eq_true,if_false]
   exact wpAny_pure ⟨rfl,rfl,al'⟩
 ·rintro ⟨r,u⟩ t ⟨hr,rfl,_⟩
  simp only at hr
  subst hr
  exact wpAny_pure h
abbrev tM:=Addr × NestedKey
def hk (w:World) (p:tM):Int:=p.2.hash w
def Vf (w:World) (p:tM):Int × Value:=(hk w p,Value.ref p.1)
structure qb (w:World) (h:Heap) (a:Addr) (L:List tM) (es:Array (Int × Value)) (ep:Nat) (t:SetTable):Prop where
 ob:∃o,h.get? a=some o∧o.ExactSet∧o.data=.set es ep t
 rows:es.toList=L.map (Vf w)
 tab:TabOk t (L.map (hk w))
 key:∀p∈L,Jy h p
 plain:t.plain=true
 led:w.params.followText "set-order"=true∨t.led=true
 seven:t.mask=7
 few:L.length≤4
variable {A:Around} {E:Value→Shared→Prop} {s:Shared} {a:Addr} {L:List tM} {es:Array (Int × Value)} {ep:Nat} {t:SetTable}
theorem qb.size {h:Heap} (R:qb w h a L es ep t):es.size=L.length:=by
 have e:=congrArg List.length R.rows
 rw [Array.length_toList,List.length_map] at e
 exact e
theorem qb.fits {h:Heap} (R:qb w h a L es ep t):t.fits es.size=true:=by
 have h1:=R.tab.sz
 rw [List.length_map] at h1
 have h2:=R.size
 have h3:=R.few
 have h4:=R.seven
 unfold SetTable.fits SetTable.fill
 rw [R.tab.dm,Bool.and_eq_true,beq_iff_eq,decide_eq_true_eq]
 show t.place.size=es.size∧t.place.size+0≤t.mask
 omega
theorem qb.entry {h:Heap} (R:qb w h a L es ep t) {i:Nat} {p:tM} (e:L[i]?=some p):es[i]?=some (Vf w p):=by
 rw [← Array.getElem?_toList,R.rows,List.getElem?_map,e]
 rfl
abbrev Xa (t:SetTable) (h:Int) (c:Nat):SetTable.Probe:=nth t.mask (runAt t.mask (SetTable.bits h%(t.mask+1)) (SetTable.bits h)) c
theorem tO (m:Nat):∀(n:Nat) (p:SetTable.Probe),p.dummy=none→(nth m p n).dummy=none
 | 0,_,h=>h
 | n+1,p,h=>tO m n (adv m p) (by unfold adv; split <;> exact h)
theorem qb.search (R:qb w s.heap a L es ep t) {x:tM} (hx:Jy s.heap x) (hu:A.units+8<cLine) (ne:∀p∈L,p.2≠x.2) {N:Nat} (n1:N<10*SetTable.turns t.mask) (n2:way t.mask (hk w x) N∉t.place.toList)
  (n3:∀c,c<N→way t.mask (hk w x) c∈t.place.toList) {Q:SetFound→Shared→Prop} (q:Q (.free (way t.mask (hk w x) N) false) s) :
  ∀(f c:Nat) (st:Option SetTable.Probe),st.getD (t.probeStart (hk w x))=Xa t (hk w x) c→c≤N→N - c<f→wpAny (model P w) A (setSearchFrom a (.ref x.1) (hk w x) true f st) Q E s
 | 0,c,st,_,_,z=>absurd z (Nat.not_lt_zero _)
 | f+1,c,st,e0,hc,z=>by
  obtain ⟨o,ho,hex,hd⟩:=R.ob
  have gw:¬t.gaveWay=true:=by
   unfold SetTable.gaveWay
   rw [mask_odd R.tab.mok]
   decide
  rw [setSearchFrom_succ]
  refine wpAny_bind (wpAny_setState_of ho hd R.fits ?_)
  dsimp only
  refine wp_if_neg gw ?_
  try refine wpAny_bind (wpAny_pure ?_)
  have dn:(Xa t (hk w x) c).dummy=none:=tO _ _ _ rfl
  have sh:∀r,nth t.mask (Xa t (hk w x) c) r=Xa t (hk w x) (c+r):=fun r=>(nth_add t.mask c _ r).symm
  have sj:∀r,(nth t.mask (Xa t (hk w x) c) r).j=way t.mask (hk w x) (c+r):=fun r=>congrArg SetTable.Probe.j (sh r)
  have spec:=go_spec t R.tab.ris R.tab.dm (fun i=>(es[i]?.map (·.1)).getD 0) (hk w x) (10*SetTable.turns t.mask) (N - c) _ dn (by omega)
   (fun r hr=>by rw [sj]; exact n3 (c+r) (by omega)) (by rw [sj,show c+(N - c)=N by omega]; exact n2)
  rcases spec with ⟨r,i,hr,hi,hh,hno,pr⟩ | ⟨hno,pr⟩
  ·have pr':t.probe (fun i=>(es[i]?.map (·.1)).getD 0) (hk w x) (st.getD (t.probeStart (hk w x)))=some (.candidate (way t.mask (hk w x) (c+r)) i (Xa t (hk w x) (c+(r+1)))):=by
    rw [e0,← sj,← sh]
    exact pr
   rw [pr']
   dsimp only
   rw [sj] at hi
   have il:i<L.length:=by
    have h1:i<t.place.toList.length:=(List.getElem?_eq_some_iff.mp hi).1
    have h2:=R.tab.sz
    rw [List.length_map] at h2
    rw [Array.length_toList] at h1
    omega
   have hp:L[i]?=some L[i]:=List.getElem?_eq_getElem il
   generalize L[i]=p at hp
   have pm:p∈L:=List.mem_of_getElem? hp
   have hy:=R.key p pm
   have np:=ne p pm
   have rest:wpAny (model P w) A (searchRest a (.ref x.1) (hk w x) true f es t (way t.mask (hk w x) (c+r)) i (Xa t (hk w x) (c+(r+1)))) Q E s:=by
    unfold searchRest
    rw [R.entry hp]
    dsimp only [Vf]
    refine wpAny_bind (wpAny_holding ((nestedKind P w).eqBool (by exact hu) ⟨hy.1,hy.2.1⟩ ⟨hx.1,hx.2.1⟩ ?_))
    refine wpAny_bind (wpAny_setState_of ho hd R.fits ?_)
    dsimp only
    refine wp_if_neg (by simp [np]) ?_
    try refine wpAny_bind (wpAny_pure ?_)
    rw [sameMem]
    dsimp only
    have sl:t.slot (way t.mask (hk w x) (c+r))=.live i:=slot_live R.tab.ris hi
    simp only [if_true,sl,R.entry hp,Vf]
    refine wpAny_bind (wpAny_isSame_ref_self (wpAny_bind (wpAny_pure ?_)))
    simp only [if_true]
    refine wp_if_neg (by simp [np]) ?_
    exact R.search hx hu ne n1 n2 n3 q f (c+(r+1)) _ rfl (by omega) (by omega)
   by_cases hl:t.led=true
   ·refine wp_if_neg (by simp [hl]) ?_
    try refine wpAny_bind (wpAny_pure ?_)
    exact rest
   ·refine wp_if_pos (by simp [hl]) ?_
    refine wpAny_bind (QV hx (fun y hy=>?_) ?_)
    ·obtain ⟨e,he,ee⟩:=List.mem_map.mp hy
     have h1:e∈es∧e.1=hk w x:=by simpa using he
     have h2:e∈es.toList:=by simpa using h1.1
     rw [R.rows] at h2
     obtain ⟨p2,p3,p4⟩:=List.mem_map.mp h2
     exact ⟨p2,by rw [← ee,← p4]; rfl,R.key p2 p3⟩
    ·refine wp_if_neg (by decide) ?_
     try refine wpAny_bind (wpAny_pure ?_)
     exact rest
  ·have pr':t.probe (fun i=>(es[i]?.map (·.1)).getD 0) (hk w x) (st.getD (t.probeStart (hk w x)))=some (.empty (way t.mask (hk w x) N) none):=by
    have e2:way t.mask (hk w x) N=(nth t.mask (Xa t (hk w x) c) (N - c)).j:=by
     rw [sj,show c+(N - c)=N by omega]
    rw [e0,e2]
    exact pr
   rw [pr']
   dsimp only
   exact wpAny_pure q
theorem Jy.same {h h':Heap} {p:tM} {o:Obj} (x:Jy h p) (ho:h.get? a=some o) (hd:o.data=.set es ep t) (sb:Heap.SameBut a h h'):Jy h' p :=
 x.stay fun b ob vs n hb hs=>(sb.2 b (fun e=>by
  subst e
  rw [ho] at hb
  cases hb
  rw [hd] at hs
  cases hs)).trans hb
theorem qb.keep {h h':Heap} (R:qb w h a L es ep t) (ha:∀o,h.get? a=some o→h'.get? a=some o) (ky:∀p∈L,Jy h' p):qb w h' a L es ep t:=by
 obtain ⟨o,ho,r⟩:=R.ob
 exact ⟨⟨o,ha o ho,r⟩,R.rows,R.tab,ky,R.plain,R.led,R.seven,R.few⟩
theorem qb.none {h:Heap} (ho:h.get? a=some (acB w)):qb w h a [] #[] 0 (.fresh 0 0 (!w.params.followText "set-order")) where
 ob:=⟨_,ho,⟨rfl,rfl,rfl⟩,rfl⟩
 rows:=rfl
 tab:=⟨List.Pairwise.nil,rfl,rfl,.inl rfl,fun x hx=>(by cases hx),fun i h j hi=>(by simp at hi)⟩
 key:=fun p hp=>(by cases hp)
 plain:=rfl
 led:=by
  show _∨(!w.params.followText "set-order")=true
  cases w.params.followText "set-order"
  ·exact .inr rfl
  ·exact .inl rfl
 seven:=rfl
 few:=Nat.zero_le _
end
section
variable {M:Wd} {XR:cG} {X:Cx} {C:Cs} {W:WX} {k:Nat} {N:List Str} {nm:List (Str × NameKind)} {fb:Str→Bool}
end
end DM
end
section
namespace DM
open PySem PySem.Spec PyProof.Rows L2
section
open PySem.W PySem.Calls PySem.HandSPX Builtin
variable {M:Model} {prog:Program} {w:World} {A:Around} {E:Value→Shared→Prop} {R:Result→Shared→Prop} {h:Heap} {g:Array GenState} {d:Drawn} {t:Nat} {os:OsState}
variable {nm q:Str} {C N:Addr} {bs bm bmB:List Value} {hdct:Bool} {sn:List Str} {sub:List Value} {ab:Bool} {col:Option Bool} {dd:Option Addr} {k0 k1 k2 k3 k5:Option Value} {B newId initId:String} {kn:Str} {kv:Value}
theorem QW (Fa:ExcBaseFacts B newId initId bmB) (hT:∀X:String,bm.contains (.type X)=bmB.contains (.type X)) {Q:Unit→Shared→Prop}
  (hC:h.get? C=some (excClassObj nm q C N bs bm hdct sn sub ab col dd k0 k1 k2 k3 k5 newId)) (hq:Q () ⟨h,g,d,t,os⟩):wpAny M A (checkBuiltinCall newId ⟨[.ref C],[(kn,kv)]⟩) Q E ⟨h,g,d,t,os⟩:=by
 have hcont:(Value.ref C::bm).contains (.type B)=true:=by rw [List.contains_cons,hT,Fa.hasB,Bool.or_true]
 have hstar:=Fa.noStar
 simp only [checkBuiltinCall,Fa.newKind,Fa.newSplit,Fa.newRow]
 repeat (first | refine wpAny_loadPart_at hC ?_ | (refine wpAny_isSubtype_exc hC ?_; rw [hcont]) | refine wpAny_staticBase_exc hC ?_ | refine wpAny_madeBy_exc hC ?_ | simp only [bne_self_eq_false,Bool.false_eq_true,if_false] | wp_step)
 exact hq
theorem Zf (Fa:ExcBaseFacts B newId initId bmB) (hT:∀X:String,bm.contains (.type X)=bmB.contains (.type X))
  (hC:h.get? C=some (excClassObj nm q C N bs bm hdct sn sub ab col dd k0 k1 k2 k3 k5 newId))
  (hq:R (.ok (.ret (.ref (h.objs.size+1)))) ⟨(h.push { cls:=.type "tuple",data:=.seq #[] }).push
   { cls:=.ref C,data:=.fields #[.ref h.objs.size,.none,.none,.none,.bool false,.none] },g,d,t,os⟩) :
  codeAny (model prog w) A (.builtin newId ⟨[.ref C],[(kn,kv)]⟩) R ⟨h,g,d,t,os⟩:=by
 have hends:=Fa.ends
 have hcB:(Value.ref C::bm).contains (.type B)=true:=by rw [List.contains_cons,hT,Fa.hasB,Bool.or_true]
 have hcA:(Value.ref C::bm).contains (.type "AttributeError")=false:=by rw [List.contains_cons,hT,Fa.noAttr]; rfl
 have hcN:(Value.ref C::bm).contains (.type "NameError")=false:=by rw [List.contains_cons,hT,Fa.noName]; rfl
 refine codeAny_builtinAt Fa.entry ?_
 unfold Builtin.«BaseException.__new__»
 refine PySem.wpAt_bind ?_
 show PySem.wpAt _ _ _ (PySem.stack >>= _) _ _ _
 refine PySem.wpAt_bind (PySem.wpAt_stack fun p below=>PySem.wpAt_of_wpAny ?_)
 wp_walk
 refine PySem.wpAt_of_wpAny ?_
 rw [Fa.owner]
 repeat (first | with_reducible refine wpAny_madeHere_exc Fa.canon hC ?_ | with_reducible refine wpAny_loadPart_at hC ?_ | (with_reducible refine wpAny_isSubtype_exc hC ?_; first | rw [hcB] | rw [hcA] | rw [hcN]) | wp_step)
 show R _ _
 rw [Heap.size_push]
 exact hq
theorem Vg (Fa:ExcBaseFacts B newId initId bmB) (hT:∀X:String,bm.contains (.type X)=bmB.contains (.type X)) {fI:Addr} {Q:Fin→Shared→Prop}
  (hC:h.get? C=some (excClassObj nm q C N bs bm hdct sn sub ab col dd k0 k1 k2 k3 k5 newId))
  (hi:W.Looks (model prog w) h (typeLookup (.ref C) "__init__") (some (.ref fI))) (hb:∀self,W.Looks (model prog w) h (bindSpecial (.ref fI) self) (.ref fI,[self]))
  (hq:codeAny (model prog w) A (.call (.ref fI) ⟨[.ref (h.objs.size+1)],[(kn,kv)]⟩)
   (fun r s'=>match r with | .ok (.ret v)=>v=.none∧Q (.done (.ret (.ref (h.objs.size+1)))) s' | .ok _=>False | .error e=>E e s')
   ⟨(h.push (W.kdv_tup [])).push (excO C h.objs.size),g,d,t,os⟩) :
  wpAny (model prog w) A (Builtin.«type.__call__» ⟨[.ref C],[(kn,kv)]⟩) Q E ⟨h,g,d,t,os⟩:=by
 repeat (first | with_reducible refine wpAny_loadPart_at hC ?_ | with_reducible refine wpAny_madeBy_exc hC ?_ | wp_step)
 refine codeAny_call_builtin_code (Code.quiet_builtin _ Fa.quiet) (QW Fa hT hC ?_)
 refine Zf Fa hT hC ?_
 show wpAny _ _ _ _ _ _
 have k:∀b o,h.get? b=some o→((h.push (W.kdv_tup [])).push (excO C h.objs.size)).get? b=some o:=fun b o e=>Heap.get?_push_of_some _ (Heap.get?_push_of_some _ e)
 have hC₁:=k _ _ hC
 have hget:((h.push (W.kdv_tup [])).push (excO C h.objs.size)).get? (h.objs.size+1)=some (excO C h.objs.size):=by heap_get
 have hcC:(Value.ref C::bm).contains (.ref C)=true:=by simp
 have i1:=hi.keeps k
 have b1:=(hb (.ref (h.objs.size+1))).keeps k
 unfold isInstance
 repeat (first | with_reducible refine wpAny_loadPart_at hget ?_ | (with_reducible refine wpAny_isSubtype_exc hC₁ ?_; rw [hcC]) | wp_step)
 show wpAny _ _ (typeLookup (.ref C) _) _ _ _
 refine i1.at ?_
 refine wpAny_holding (wpAny_bind (b1.at ?_))
 refine wpAny_bind (wpAny_call (codeAny_mono hq fun r s' z=>?_))
 rcases r with e | (v | _ | _ | _) <;> first | exact z | exact z.elim | skip
 obtain ⟨rfl,z⟩:=z
 first
  | exact wpAny_pure (wpAny_pure z)
  | (wp_walk; exact z)
theorem Zg (Fa:ExcBaseFacts B newId initId bmB) (hT:∀X:String,bm.contains (.type X)=bmB.contains (.type X)) {fI:Addr}
  (hC:h.get? C=some (excClassObj nm q C N bs bm hdct sn sub ab col dd k0 k1 k2 k3 k5 newId))
  (hi:W.Looks (model prog w) h (typeLookup (.ref C) "__init__") (some (.ref fI))) (hb:∀self,W.Looks (model prog w) h (bindSpecial (.ref fI) self) (.ref fI,[self]))
  (hq:codeAny (model prog w) (A.under (.builtin "type.__call__" ⟨[.ref C],[(kn,kv)]⟩)) (.call (.ref fI) ⟨[.ref (h.objs.size+1)],[(kn,kv)]⟩) (W.InitBack (h.objs.size+1) R)
   ⟨(h.push (W.kdv_tup [])).push (excO C h.objs.size),g,d,t,os⟩) :
  codeAny (model prog w) A (.call (.ref C) ⟨[],[(kn,kv)]⟩) R ⟨h,g,d,t,os⟩:=by
 have f1:=tc_lookup
 have f2:=tc_bind (.ref C)
 have hTy:(⟨h,g,d,t,os⟩:Shared).TypeIs (.ref C) "type":=⟨_,hC,rfl⟩
 refine codeAny_of_tree ?_
 show wpAny _ _ (callAny (.ref C) _) _ _ _
 repeat (any_goals (first | assumption | with_reducible refine wpAny_loadPart_at hC ?_ | wp_step))
 refine ⟨rfl,?_⟩
 refine codeAny_call_builtin_at (Code.quiet_builtin _ (by decide +kernel)) entry_typeCall (wpAny_check_type_call_sub hC (Vg Fa hT hC hi hb ?_))
 refine codeAny_mono hq fun r s' z=>?_
 rcases r with e | (v | _ | _ | _) <;> exact z
end
/-! ### in the invariant -/
def tNew (C:Addr) (f:Str) (ta:TA):TE:=fun σ H Q=>ta σ H fun vs H1=>∃v,vs=[v]∧∀a d,H1 a=none→H1 d=none→d≠a→Q (.ref a) (upd (upd H1 d (.xd [(f,v)])) a (qP a C (some d)))
def QX (C:Addr):TE:=fun _ H Q=>∀a,H a=none→Q (.ref a) (upd H a (qP a C none))
section
variable {X:Cx} {pins:List (Addr × Obj)} {σ:L2.St} {H1 H2:Hp} {s':Shared} {a C d:Addr} {f:Str} {v:V}
theorem acV (J:Inv X pins σ H2 s') (ea:H2 a=some (exo a C (some d))) (ed:H2 d=some (exd d [(f,v)])) (hda:d≠a):Inv X pins σ (upd (upd H2 d (.xd [(f,v)])) a (qP a C (some d))) s':=by
 obtain ⟨t0,hoe⟩:=exo_at J.hok ea
 obtain ⟨mA,hns,rel⟩:=exd_at J.hok ed
 have gd:∃u,s'.heap.get? d=some u:=by
  obtain ⟨o,es,ep,e1,_⟩:=hns
  exact ⟨o,e1⟩
 have J1:=J.write (t':=s'.toks) (h':=s'.heap) (x:=d) (e:=d) (o:=.xd [(f,v)]) (by rw [ed]; exact True.intro) (.inl rfl) (fun b u _ z=>z) gd ⟨mA,hns,rel⟩
 have ea1:upd H2 d (.xd [(f,v)]) a=some (exo a C (some d)):=by rw [upd_ne (Ne.symm hda)]; exact ea
 exact J1.write (t':=s'.toks) (h':=s'.heap) (x:=a) (e:=a) (o:=qP a C (some d)) (by rw [ea1]; exact True.intro) (.inl rfl) (fun b u _ z=>z) ⟨_,hoe⟩ (OJ hoe ⟨rfl,rfl⟩ rfl)
theorem Zh (J:Inv X pins σ H2 s') (ea:H2 a=some (exo a C none)):Inv X pins σ (upd H2 a (qP a C none)) s':=by
 obtain ⟨t0,hoe⟩:=exo_at J.hok ea
 exact J.write (t':=s'.toks) (h':=s'.heap) (x:=a) (e:=a) (o:=qP a C none) (by rw [ea]; exact True.intro) (.inl rfl) (fun b u _ z=>z) ⟨_,hoe⟩ (OJ hoe ⟨rfl,rfl⟩ rfl)
theorem Vh {u:HO} (hd:H1 d=none) (hda:d≠a) (eH:H2=upd (upd (upd H1 a (exo a C none)) d (exd d [(f,v)])) a (exo a C (some d))):upd (upd H2 d (.xd [(f,v)])) a (qP a C (some d))=upd (upd H1 d (.xd [(f,v)])) a (qP a C (some d)):=by
 funext b
 by_cases hb:b=a
 ·rw [hb,upd_same,upd_same]
 ·rw [upd_ne hb,upd_ne hb]
  by_cases hc:b=d
  ·rw [hc,upd_same,upd_same]
  ·rw [upd_ne hc,upd_ne hc,eH,upd_ne hb,upd_ne hc,upd_ne hb]
end
section
variable {X:Cx} {C fI:Addr} {f x y cn:Str} {B newId initId:String} {bm:List Value} {e:Expr} {ta:TA} {p pos:Pos} {k:Nat} {fd:FuncData}
theorem run_new {pins:List (Addr × Obj)} {σ:L2.St} {H1:Hp} {s1:Shared} {Q:VK} {u:Value} {v:V} {ks:List Str} (us ws:List Value) (Bs:xM x B newId initId bm) (T:Own X.K C fI f cn B newId initId bm)
  (F1:FnOk X.prog X.w X.K X.mg X.base (L2.CX X.prog X.w) k fI fd ["self",f] (mJ C f)) (hr:Room (k+1) X.A) (hc:(us=[u]∧ks=[]∧ws=[])∨(us=[]∧ks=[f]∧ws=[u]))
  (hb:∀(s:Shared) (w0:Value),X.K.In s.heap→BindsTo s fd ⟨w0::us,ks.zip ws⟩ [("self",w0),(f,u)]) (I1:Inv X pins σ H1 s1) (ra:RelV v u)
  (q1:∀a d,H1 a=none→H1 d=none→d≠a→Q (.ref a) (upd (upd H1 d (.xd [(f,v)])) a (qP a C (some d)))):wpAny (model X.prog X.w) X.A (call (.ref C) us (ks.zip ws)) (EP X pins σ Q) X.xe s1:=by
 obtain ⟨q,N,bs,sn,sub,ab,col,dd,k0,k1,k2,k3,k5,hC⟩:=T.cls
 obtain ⟨hp,g,dr,tk,os⟩:=s1
 have hsz:hp.objs.size≤hp.objs.size+1:=Nat.le_succ _
 have hn:H1 (hp.objs.size+1)=none:=I1.hok.fresh hsz
 have kk:∀b o,hp.get? b=some o→((hp.push (PySem.W.kdv_tup us)).push (PySem.HandSPX.excO C hp.objs.size)).get? b=some o:=fun b o z=>Heap.get?_push_of_some _ (Heap.get?_push_of_some _ z)
 have hget:((hp.push (PySem.W.kdv_tup us)).push (PySem.HandSPX.excO C hp.objs.size)).get? (hp.objs.size+1)=some (PySem.HandSPX.excO C hp.objs.size):=by heap_get
 have I2:Inv X pins σ (upd H1 (hp.objs.size+1) (exo (hp.objs.size+1) C none)) ⟨(hp.push (PySem.W.kdv_tup us)).push (PySem.HandSPX.excO C hp.objs.size),g,dr,tk,os⟩ :=
  I1.laid (t':=tk) (a:=hp.objs.size+1) (o:=exo (hp.objs.size+1) C none) (h':=(hp.push (PySem.W.kdv_tup us)).push (PySem.HandSPX.excO C hp.objs.size)) kk hsz (exo_ok hget)
 have r2:Vals [V.ref (hp.objs.size+1),v] [Value.ref (hp.objs.size+1),u]:=.cons rfl (.cons ra .nil)
 let a:=hp.objs.size+1
 have hq:mJ C f [V.ref a,v] (upd H1 a (exo a C none)) (fun v' H2=>v'=.non∧∃d,H1 d=none∧d≠a∧H2=upd (upd (upd H1 a (exo a C none)) d (exd d [(f,v)])) a (exo a C (some d))) (fun _ _ _=>False) :=
  ⟨a,v,rfl,upd_same,fun dx n ne=>⟨rfl,dx,by rw [upd_ne ne] at n; exact n,ne,rfl⟩⟩
 have fin:∀(A:Around) (r:Result) (s':Shared),CR (L2.CX X.prog X.w) X.stack X.prog X.w (upd H1 a (exo a C none)) ⟨(hp.push (PySem.W.kdv_tup us)).push (PySem.HandSPX.excO C hp.objs.size),g,dr,tk,os⟩ (fun v' H2=>v'=.non∧∃d,H1 d=none∧d≠a∧H2=upd (upd (upd H1 a (exo a C none)) d (exd d [(f,v)])) a (exo a C (some d))) (fun _ _ _=>False) r s' →
   PySem.W.InitBack a (wants (EP X pins σ Q) X.xe) r s':=fun A r s' hq'=>by
  cases r with
  | error er=>exact passL pins σ _ _ er s' I2 hq'
  | ok fl =>
   cases fl with
   | ret u' =>
    obtain ⟨v',H2,os2,bare2,un2,hok2,rv,ev,d,hd1,hda,eH⟩:=hq'
    subst ev
    have ea:H2 a=some (exo a C (some d)):=by rw [eH,upd_same]
    have ed:H2 d=some (exd d [(f,v)]):=by rw [eH,upd_ne hda,upd_same]
    have J:Inv X pins σ H2 s':=I2.call' (ch:=[]) os2 un2 hok2 bare2 (fun b z=>absurd z (by simp))
    have J2:=acV J ea ed hda
    rw [Vh (u:=.own a) hd1 hda eH] at J2
    exact ⟨rv,.ref a,_,J2,rfl,q1 a d hn hd1 hda⟩
   | next=>exact False.elim hq'
   | brk=>exact False.elim hq'
   | cont=>exact False.elim hq'
 rcases hc with ⟨rfl,rfl,rfl⟩ | ⟨rfl,rfl,rfl⟩
 ·exact wpAny_call (PySem.HandSPX.call_own Bs.F (fun Y=>rfl) (I1.kIn _ _ hC) (PySem.W.looks_findIn I1.kIn T.iC) (fun self=>PySem.W.bind_fn I1.kIn self T.tI) (by rw [sizeLine_eq]; simp)
   (codeAny_mono (F1.run _ X.stack _ _ ⟨[Value.ref (hp.objs.size+1),u],[]⟩ [Value.ref (hp.objs.size+1),u] _ _ (fun _ _ _=>False) (hr.make C [u] []) (I2.env0.make C [u] []) (hb _ _ I2.kIn) r2 hq) fun r s' hq'=>fin X.A r s' hq'))
 ·exact wpAny_call (Zg Bs.F (fun Y=>rfl) (I1.kIn _ _ hC) (PySem.W.looks_findIn I1.kIn T.iC) (fun self=>PySem.W.bind_fn I1.kIn self T.tI)
   (codeAny_mono (F1.run _ X.stack _ _ ⟨[Value.ref (hp.objs.size+1)],[(f,u)]⟩ [Value.ref (hp.objs.size+1),u] _ _ (fun _ _ _=>False) (hr.make C [] [(f,u)]) (I2.env0.make C [] [(f,u)]) (hb _ _ I2.kIn) r2 hq) fun r s' hq'=>fin X.A r s' hq'))
theorem pe_new (Bs:xM x B newId initId bm) (T:Own X.K C fI f cn B newId initId bm) (F1:FnOk X.prog X.w X.K X.mg X.base (L2.CX X.prog X.w) k fI fd ["self",f] (mJ C f)) (hr:Room (k+1) X.A) (hb:Binds X.K fd ["self",f] []) (hg:Gl X y) (hm:X.mg y=some (.ref C)) (ha:PA X [e] ta)
  (hdb:(y == ("__debug__":Str))=false) (he:starEach (e::[]) X.env=(false,eval e X.env)::starEach [] X.env:=by rfl) (hpl:(backTo pos (starEach [] X.env)).any (·.1)=false:=by rfl) :
  PE X (.Call (.Name y p) [e] [] pos) (tNew C f ta):=by
 refine ⟨fun pins s σ H Q I h=>wpAny_Call_Name_kw (ld_glob I hg hm ?_ hdb)⟩
 refine PySem.W.callWith_K (h₀:=X.base) I.ok.mod.kin T.kC (thn (ha.run pos pins s σ H _ I h) fun us s1 hh=>?_) he hpl
 obtain ⟨vs,H1,I1,r1,v,ev,q1⟩:=hh
 subst ev
 refine ⟨I1.kIn,?_⟩
 cases r1 with
 | @cons _ u _ ur ra rr =>
  cases rr
  exact run_new (u:=u) (ks:=[]) [u] [] Bs T F1 hr (.inl ⟨rfl,rfl,rfl⟩) (fun s w0 kin=>hb s [w0,u] kin rfl) I1 ra q1
theorem Vi {kws:List Keyword} {tk:TA} (Bs:xM x B newId initId bm) (T:Own X.K C fI f cn B newId initId bm) (F1:FnOk X.prog X.w X.K X.mg X.base (L2.CX X.prog X.w) k fI fd ["self",f] (mJ C f)) (hr:Room (k+1) X.A) (hb:aW fd ["self",f] [f] 1 [0,1]) (hg:Gl X y) (hm:X.mg y=some (.ref C))
  (hkw:PK X kws tk) (hall:(backToKw pos (keywordEach kws X.env)).all (·.1.isSome)=true) (hks:(backToKw pos (keywordEach kws X.env)).filterMap (·.1)=[f])
  (hdb:(y == ("__debug__":Str))=false) (hpl:((backTo pos (starEach [] X.env)).any (·.1) || (backToKw pos (keywordEach kws X.env)).any (·.1.isNone))=false) :
  PE X (.Call (.Name y p) [] kws pos) (tNew C f tk):=by
 refine ⟨fun pins s σ H Q I h=>wpAny_Call_Name_kw (ld_glob I hg hm ?_ hdb)⟩
 refine PySem.W.callWith_KW0 (h₀:=X.base) I.ok.mod.kin T.kC hall (thn (hkw.run pos pins s σ H _ I h) fun ws s1 hh=>?_) hpl
 obtain ⟨zs,H1,I1,r1,v,ev,q1⟩:=hh
 subst ev
 refine ⟨I1.kIn,?_⟩
 rw [hks]
 cases r1 with
 | @cons _ u _ ur ra rr =>
  cases rr
  exact run_new (u:=u) (ks:=[f]) [] [u] Bs T F1 hr (.inr ⟨rfl,rfl,rfl⟩) (fun s w0 kin=>.of_eq (hb.to [w0] [u] rfl rfl)) I1 ra q1
theorem pe_new0 (Bs:xM x B newId initId bm) (T:Own X.K C fI f cn B newId initId bm) (F1:FnOk X.prog X.w X.K X.mg X.base (L2.CX X.prog X.w) k fI fd ["self"] (wX C)) (hr:Room (k+1) X.A) (hb:Binds X.K fd ["self"] []) (hg:Gl X y) (hm:X.mg y=some (.ref C))
  (hdb:(y == ("__debug__":Str))=false):PE X (.Call (.Name y p) [] [] pos) (QX C):=by
 refine ⟨fun pins s σ H1 Q I1 q1=>wpAny_Call_Name_kw (ld_glob I1 hg hm ?_ hdb)⟩
 obtain ⟨q,N,bs,sn,sub,ab,col,dd,k0,k1,k2,k3,k5,hC⟩:=T.cls
 refine PySem.W.callWith_K0 I1.kIn T.kC ?_
 show wpAny _ _ (call (.ref C) []) _ _ _
 obtain ⟨hp,g,dr,tk,os⟩:=s
 have hsz:hp.objs.size≤hp.objs.size+1:=Nat.le_succ _
 have hn:H1 (hp.objs.size+1)=none:=I1.hok.fresh hsz
 have kk:∀b o,hp.get? b=some o→((hp.push (PySem.W.kdv_tup [])).push (PySem.HandSPX.excO C hp.objs.size)).get? b=some o:=fun b o z=>Heap.get?_push_of_some _ (Heap.get?_push_of_some _ z)
 have hget:((hp.push (PySem.W.kdv_tup [])).push (PySem.HandSPX.excO C hp.objs.size)).get? (hp.objs.size+1)=some (PySem.HandSPX.excO C hp.objs.size):=by heap_get
 have I2:Inv X pins σ (upd H1 (hp.objs.size+1) (exo (hp.objs.size+1) C none)) ⟨(hp.push (PySem.W.kdv_tup [])).push (PySem.HandSPX.excO C hp.objs.size),g,dr,tk,os⟩ :=
  I1.laid (t':=tk) (a:=hp.objs.size+1) (o:=exo (hp.objs.size+1) C none) (h':=(hp.push (PySem.W.kdv_tup [])).push (PySem.HandSPX.excO C hp.objs.size)) kk hsz (exo_ok hget)
 have r2:Vals [V.ref (hp.objs.size+1)] [Value.ref (hp.objs.size+1)]:=.cons rfl .nil
 let a:=hp.objs.size+1
 have hq:wX C [V.ref a] (upd H1 a (exo a C none)) (fun v' H2=>v'=.non∧H2=upd H1 a (exo a C none)) (fun _ _ _=>False):=⟨a,rfl,upd_same,rfl,rfl⟩
 refine wpAny_call (PySem.HandSPX.call_own Bs.F (fun Y=>rfl) (I1.kIn _ _ hC) (PySem.W.looks_findIn I1.kIn T.iC) (fun self=>PySem.W.bind_fn I1.kIn self T.tI) (by rw [sizeLine_eq]; simp)
  (codeAny_mono (F1.run _ X.stack _ _ ⟨[Value.ref (hp.objs.size+1)],[]⟩ [Value.ref (hp.objs.size+1)] _ _ (fun _ _ _=>False) (hr.make C [] []) (I2.env0.make C [] []) (hb _ [Value.ref (hp.objs.size+1)] I2.kIn rfl) r2 hq) fun r s' hq'=>?_))
 cases r with
 | error er=>exact passL pins σ _ _ er s' I2 hq'
 | ok fl =>
  cases fl with
  | ret u' =>
   obtain ⟨v',H2,os2,bare2,un2,hok2,rv,ev,eH⟩:=hq'
   subst ev
   have ea:H2 a=some (exo a C none):=by rw [eH,upd_same]
   have J:Inv X pins σ H2 s':=I2.call' (ch:=[]) os2 un2 hok2 bare2 (fun b z=>absurd z (by simp))
   have J2:=Zh J ea
   have e2:upd H2 a (qP a C none)=upd H1 a (qP a C none):=by
    funext b
    by_cases hb:b=a
    ·rw [hb,upd_same,upd_same]
    ·rw [upd_ne hb,upd_ne hb,eH,upd_ne hb]
   rw [e2] at J2
   exact ⟨rv,.ref a,_,J2,rfl,q1 a hn⟩
  | next=>exact False.elim hq'
  | brk=>exact False.elim hq'
  | cont=>exact False.elim hq'
end
end DM
end
section
namespace DM
open PySem PySem.Spec PyProof.Rows L2
def aZ (aJ:Nat) (fs:ak→R (List Val)) (ρ:ak):R Val:=(fs ρ).bind fun as ρ1=>match as with
 | [.en (.fr d)]=>.ok (.en (.ex ⟨aJ,some d⟩)) ρ1
 | _=>.bad
def wZ (aJ:Nat) (ρ:ak):R Val:=.ok (.en (.ex ⟨aJ,none⟩)) ρ
def QZ:List Val→Option (List Ex)
 | []=>some []
 | .en (.ex x)::as=>(QZ as).map (x::·)
 | _=>none
def lV (fs:ak→R (List Val)) (ρ:ak):R Val:=(fs ρ).bind fun as ρ1=>match QZ as with
 | some xs=>if xs.length≤1000 then .ok (.en (.exs xs)) ρ1 else .bad
 | none=>.bad
def oY (f g:ak→R Val) (ρ:ak):R Val:=(f ρ).bind fun a ρ1=>(g ρ1).bind fun b ρ2=>match look ρ2 a,look ρ2 b with
 | some (.exs xs),some (.exs ys)=>if xs.length+ys.length≤1000 then .ok (.en (.exs (xs++ys))) ρ2 else .bad
 | _,_=>.bad
def dD (f g:ak→R Val) (ρ:ak):R Val:=(f ρ).bind fun a ρ1=>(g ρ1).bind fun b ρ2=>match look ρ2 a,look ρ2 b with
 | some (.exs xs),↥(.ofNat i)=>match xs[i]? with
  | some x=>.ok (.en (.ex x)) ρ2
  | none=>.bad
 | _,_=>.bad
def Bo (i j:Nat) (fb:ak→R Fl):List Ex→Nat→ak→R Fl
 | [],_,ρ=>.ok .nx ρ
 | x::xs,k,ρ=>if i<ρ.length∧j<ρ.length then (fb ((ρ.set i (↥(k:Nat))).set j (some (.ex x)))).bind fun fl ρ2=>match fl with
   | .nx=>Bo i j fb xs (k+1) ρ2
   | .ct=>Bo i j fb xs (k+1) ρ2
   | .bk=>.ok .nx ρ2
   | .rt e=>.ok (.rt e) ρ2
  else .bad
def qX (l i j:Nat) (fb:ak→R Fl) (ρ:ak):R Fl:=match (ρ[l]?).join with
 | some (.exs xs)=>Bo i j fb xs 0 ρ
 | _=>.bad
def oZ (i:Nat) (ρ:ak):R Val:=match (ρ[i]?).join with
 | some (.exs xs)=>.ok (.en (.exs xs)) ρ
 | _=>.bad
theorem Dg {C:Cs} {Z:ZX} {i:Nat}:Impl C Z (tVar i) (oZ i):=by
 intro o F H σ ρ T Q S h
 unfold oZ at h
 cases q:(ρ[i]?).join with
 | none=>rw [q] at h; exact h.elim
 | some e =>
  have q':=join_some q
  obtain ⟨v,hv⟩:=S.has i e q'
  rw [q] at h
  have r:Rp C.K F H e v:=S.rep (.s i) e v ⟨q',hv⟩
  cases e with
  | exs x=>exact ⟨v,hv,h F H v (S.push r fun _ w=>w.elim)⟩
  | _=>exact h.elim
section
variable {C:Cs} {Z:ZX} {o:Og} {F H:Hp} {σ:L2.St} {ρ:ak} {T:Tm}
theorem acW {d:D} {v:V} {a dd:Addr} {aJ:Nat} (S:SM C o F H σ ρ T) (rv:Dq C.K F d v) (ha:H a=none) (hd:H dd=none) (hn:dd≠a) :
  ∃F',SM C o F' (upd (upd H dd (.xd [(aV aJ,v)])) a (qP a (fH C.K aJ) (some dd))) σ ρ ((.en (.ex ⟨aJ,some d⟩),.ref a)::T):=by
 have g1:=Grow.obj S.sub (o:=.xd [(aV aJ,v)]) hd
 have S2:=S.grow g1
 have ha':upd H dd (.xd [(aV aJ,v)]) a=none:=by rw [upd_ne (Ne.symm hn)]; exact ha
 have g2:=Grow.obj S2.sub (o:=qP a (fH C.K aJ) (some dd)) ha'
 have S3:=S2.grow g2
 refine ⟨_,S3.push (e:=.ex ⟨aJ,some d⟩) ⟨a,some dd,rfl,upd_same,v,d,?_,rfl,?_⟩ fun _ w=>w.elim⟩
 ·rw [upd_ne hn]
  exact upd_same
 ·exact Dq.mono (g1.f.trans g2.f) _ _ rv
theorem Zi {a:Addr} {aJ:Nat} (S:SM C o F H σ ρ T) (ha:H a=none):∃F',SM C o F' (upd H a (qP a (fH C.K aJ) none)) σ ρ ((.en (.ex ⟨aJ,none⟩),.ref a)::T):=by
 have g2:=Grow.obj S.sub (o:=qP a (fH C.K aJ) none) ha
 exact ⟨_,(S.grow g2).push (e:=.ex ⟨aJ,none⟩) ⟨a,none,rfl,upd_same,rfl⟩ fun _ w=>w.elim⟩
theorem Q5 {p:Addr} {vs:List V} {xs:List Ex} (S:SM C o F H σ ρ T) (hp:H p=none) (hl:xs.length=vs.length) (hx:∀(i:Nat) (x:Ex) (y:V),xs[i]?=some x→vs[i]?=some y→Kz C.K F x y) :
  ∃F',SM C o F' (upd H p (.lst vs)) σ ρ ((.en (.exs xs),.ref p)::T):=by
 have g:=Grow.obj S.sub (o:=.lst vs) hp
 exact ⟨_,(S.grow g).push (e:=.exs xs) ⟨p,vs,rfl,upd_same,hl,fun i x y e1 e2=>(hx i x y e1 e2).mono g.f⟩ fun _ w=>w.elim⟩
theorem Hh (S:SM C o F H σ ρ T):∀{vals:List Val} {vs:List V} {xs:List Ex},vals.length=vs.length→(∀x∈vals.zip vs,x∈T)→QZ vals=some xs →
  xs.length=vs.length∧∀(i:Nat) (x:Ex) (y:V),xs[i]?=some x→vs[i]?=some y→Kz C.K F x y
 | [],[],xs,_,_,h=>by
  cases h
  exact ⟨rfl,fun i x y e=>by simp at e⟩
 | [],_::_,_,hl,_,_=>by simp at hl
 | _::_,[],_,hl,_,_=>by simp at hl
 | a::as,v::vs,xs,hl,hm,h=>by
  cases a with
  | bor i=>cases h
  | en e =>
   cases e with
   | ex x =>
    have h':(QZ as).map (x::·)=some xs:=h
    obtain ⟨ys,h1,rfl⟩:=Option.map_eq_some_iff.mp h'
    obtain ⟨i1,i2⟩:=Hh S (vals:=as) (vs:=vs) (by simpa using hl) (fun z hz=>hm z (by rw [List.zip_cons_cons]; exact List.mem_cons_of_mem _ hz)) h1
    refine ⟨by rw [List.length_cons,List.length_cons,i1],fun i z y e1 e2=>?_⟩
    cases i with
    | zero =>
     cases e1
     cases e2
     exact S.xQ (hm (.en (.ex x),v) (by simp)) rfl
    | succ i=>exact i2 i z y (by simpa using e1) (by simpa using e2)
   | _=>cases h
theorem Bp {t:TA} {fs:ak→R (List Val)} {aJ:Nat} (ha:eX C Z t fs):Impl C Z (tNew (fH C.K aJ) (aV aJ) t) (aZ aJ fs):=by
 intro o F H σ ρ T Q S q
 unfold aZ at q
 rw [aA] at q
 refine ha o F H σ ρ T _ S (au q (fun as ρ1 h1 F1 H1 vs hl S1=>?_) fun _ _ h=>h)
 match as,vs,hl with
 | [],_,_=>exact h1.elim
 | _::_::_,_,_ =>
  simp only at h1
  exact h1.elim
 | [a],[v],_ =>
  match a with
  | .bor i=>exact h1.elim
  | .en (.ol _)=>exact h1.elim
  | .en (.od _ _)=>exact h1.elim
  | .en (.on _ _)=>exact h1.elim
  | .en (.cJ _)=>exact h1.elim
  | .en (.ex _)=>exact h1.elim
  | .en (.jW _)=>exact h1.elim
  | .en (.ob _)=>exact h1.elim
  | .en (.exs _)=>exact h1.elim
  | .en (.fr d) =>
   refine ⟨v,rfl,fun a dd ha hd hn=>?_⟩
   have S1':SM C o F1 H1 σ ρ1 ((.en (.fr d),v)::T):=S1
   have rv:Dq C.K F1 d v:=S1'.look (j:=0) (v:=v) (e:=.fr d) rfl rfl
   obtain ⟨F',S'⟩:=acW (aJ:=aJ) S1'.drop rv ha hd hn
   exact h1 F' _ _ S'
theorem Jz {aJ:Nat}:Impl C Z (QX (fH C.K aJ)) (wZ aJ):=by
 intro o F H σ ρ T Q S q a ha
 obtain ⟨F',S'⟩:=Zi (aJ:=aJ) S ha
 exact q F' _ _ S'
theorem JC {ta:TA} {fs:ak→R (List Val)} (ha:eX C Z ta fs):Impl C Z (tLst ta) (lV fs):=by
 intro o F H σ ρ T Q S h
 unfold lV at h
 rw [aA] at h
 refine ha o F H σ ρ T _ S (au h (fun as ρ1 h1 F1 H1 vs hl S1=>?_) fun _ _ h=>h)
 cases la:QZ as with
 | none=>rw [la] at h1; exact h1.elim
 | some xs =>
  rw [la] at h1
  obtain ⟨k1,k2⟩:=Hh S1 hl jc la
  by_cases hz:xs.length≤1000
  ·simp only [hz,if_true] at h1
   refine ⟨by rw [← k1,sizeLine_eq]; omega,fun p hp=>?_⟩
   obtain ⟨F',S'⟩:=Q5 S1 hp k1 k2
   exact h1 _ _ _ (SM.under (stack as vs) S')
  ·simp only [hz,if_false] at h1
   exact h1.elim
theorem JD {ta tb:TE} {fa fb:ak→R Val} (ha:Impl C Z ta fa) (hb:Impl C Z tb fb):Impl C Z (tOp rCat ta tb) (oY fa fb):=by
 intro o F H σ ρ T Q S h
 unfold oY at h
 rw [aA] at h
 refine ha o F H σ ρ T _ S (au h (fun a ρ1 h1 F1 H1 x S1=>?_) fun _ _ h=>h)
 rw [aA] at h1
 refine hb o F1 H1 σ ρ1 _ _ S1 (au h1 (fun b ρ2 h2 F2 H2 y S2=>?_) fun _ _ h F' H' s=>h F' H' s.drop)
 cases la:look ρ2 a with
 | none=>rw [la] at h2; exact h2.elim
 | some e1 =>
  cases lb:look ρ2 b with
  | none=>rw [la,lb] at h2; cases e1 <;> exact h2.elim
  | some e2 =>
   rw [la,lb] at h2
   cases e1 with
   | exs xs =>
    cases e2 with
    | exs ys =>
     by_cases hz:xs.length+ys.length≤1000
     ·simp only [hz,if_true] at h2
      have r1:Rp C.K F2 H2 (.exs xs) x:=S2.look (j:=1) rfl la
      have r2:Rp C.K F2 H2 (.exs ys) y:=S2.look (j:=0) rfl lb
      obtain ⟨p1,vs,rfl,a1,a2,a3⟩:=r1
      obtain ⟨p2,ws,rfl,b1,b2,b3⟩:=r2
      refine ⟨p1,p2,vs,ws,rfl,rfl,S2.sub _ _ a1,S2.sub _ _ b1,by rw [← a2,← b2,sizeLine_eq]; omega,fun p hp=>?_⟩
      obtain ⟨F',S'⟩:=Q5 (xs:=xs++ys) S2 hp (by rw [List.length_append,List.length_append,a2,b2]) fun i z v e1 e2=>by
       by_cases hi:i<xs.length
       ·rw [List.getElem?_append_left hi] at e1
        rw [List.getElem?_append_left (by omega)] at e2
        exact a3 i z v e1 e2
       ·rw [List.getElem?_append_right (by omega)] at e1
        rw [List.getElem?_append_right (by omega),← a2] at e2
        exact b3 _ z v e1 e2
      exact h2 _ _ _ (SM.under [(b,V.ref p2),(a,V.ref p1)] S')
     ·simp only [hz,if_false] at h2
      exact h2.elim
    | _=>exact h2.elim
   | _=>exact h2.elim
theorem Q6 {ta tb:TE} {fa fb:ak→R Val} (ha:Impl C Z ta fa) (hb:Impl C Z tb fb):Impl C Z (tOp (rIx C.K) ta tb) (dD fa fb):=by
 intro o F H σ ρ T Q S h
 unfold dD at h
 rw [aA] at h
 refine ha o F H σ ρ T _ S (au h (fun a ρ1 h1 F1 H1 x S1=>?_) fun _ _ h=>h)
 rw [aA] at h1
 refine hb o F1 H1 σ ρ1 _ _ S1 (au h1 (fun b ρ2 h2 F2 H2 y S2=>?_) fun _ _ h F' H' s=>h F' H' s.drop)
 cases la:look ρ2 a with
 | none=>rw [la] at h2; exact h2.elim
 | some e1 =>
  cases lb:look ρ2 b with
  | none=>rw [la,lb] at h2; cases e1 <;> exact h2.elim
  | some e2 =>
   rw [la,lb] at h2
   cases e1 with
   | exs xs =>
    cases e2 with
    | fr d =>
     cases d with
     | int z =>
      cases z with
      | ofNat i =>
       cases hx:xs[i]? with
       | none =>
        simp only [hx] at h2
        exact h2.elim
       | some z =>
        simp only [hx] at h2
        have r1:Rp C.K F2 H2 (.exs xs) x:=S2.look (j:=1) rfl la
        have r2:Rp C.K F2 H2 (.fr (.int (Int.ofNat i))) y:=S2.look (j:=0) rfl lb
        obtain ⟨p1,vs,rfl,a1,a2,a3⟩:=r1
        have ey:y=.int (Int.ofNat i):=by simpa only [Rp,Dq] using r2
        subst ey
        have il:i<vs.length:=by
         have:=(List.getElem?_eq_some_iff.mp hx).1
         omega
        have hv:vs[i]?=some vs[i]:=List.getElem?_eq_getElem il
        have rv:=a3 i z _ hx hv
        refine .inl ⟨p1,vs,Int.ofNat i,vs[i],rfl,rfl,.inl (.inl (S2.sub _ _ a1)),?_,?_⟩
        ·unfold atI
         have e:ixN vs.length (Int.ofNat i)=some i:=by
          unfold ixN
          rw [if_pos (show (0:Int)≤Int.ofNat i from Int.natCast_nonneg i),if_pos (show Int.ofNat i<(vs.length:Nat) from Int.ofNat_lt.mpr il)]
          rfl
         rw [e]
         exact hv
        ·have S3:=S2.push (e:=.ex z) (v:=vs[i]) rv fun _ w=>w.elim
         exact h2 _ _ _ (SM.under [(b,V.int (Int.ofNat i)),(a,V.ref p1)] S3)
      | negSucc i=>exact h2.elim
     | _=>exact h2.elim
    | _=>exact h2.elim
   | _=>exact h2.elim
theorem Dh {l i j:Nat} {tb:TS} {fb:ak→R Fl} (hl:l∉C.cs) (hi:i∉C.L) (hj:j∉C.L) (hb:cU C Z tb fb) :
  cU C Z (tFor (Le C.K (tCons (tVar l) tNil)) (gTB C.K 2 (gCons (gName i) (gCons (gName j) gNil))) tb) (qX l i j fb):=by
 intro o F H σ ρ D S q
 unfold qX at q
 cases hs:(ρ[l]?).join with
 | none=>rw [hs] at q; exact q.elim
 | some e =>
  rw [hs] at q
  cases e with
  | exs xs =>
   have hs':=join_some hs
   obtain ⟨v,hv⟩:=S.has l _ hs'
   have r:Rp C.K F H (.exs xs) v:=S.rep (.s l) _ v ⟨hs',hv⟩
   obtain ⟨p,vs,rfl,a1,a2,a3⟩:=r
   refine ⟨.ref p,hv,true,p,vs,rfl,.inl (.inl (S.sub _ _ a1)),?_⟩
   have sq:∀(F1 H1:Hp),Ext F F1→Ext F1 H1→tQ true C.K H1 p vs:=fun F1 H1 e1 e2=>.inl (.inl (e2 _ _ (e1 _ _ a1)))
   refine ⟨fun n m σ H=>m=xs.length - n∧n≤xs.length∧∃F1 ρ,Ext F F1∧SM C o F1 H σ ρ []∧lE (Bo i j fb (xs.drop n) n ρ) (postS C o D) (yq C Z o),⟨xs.length,by simp,Nat.zero_le _,F,ρ,Ext.refl F,S,q⟩,?_⟩
   rintro n m σ H ⟨rfl,hle,F1,ρ',ex,S2,hq⟩
   by_cases hlt:n<xs.length
   ·have hx:xs[n]?=some xs[n]:=List.getElem?_eq_getElem hlt
    generalize xs[n]=x at hx
    have vl:n<vs.length:=by omega
    have hvn:vs[n]?=some vs[n]:=List.getElem?_eq_getElem vl
    refine .inr ⟨⟨vs,vs[n],sq _ _ ex S2.sub,hvn⟩,fun σ H=>∃F1 ρ,Ext F F1∧SM C o F1 H σ ρ []∧lE (Bo i j fb (xs.drop (n+1)) (n+1) ρ) (postS C o D) (yq C Z o),fun σ' H' q=>⟨xs.length - (n+1),by omega,rfl,hlt,q⟩,fun u H' y=>?_⟩
    obtain ⟨Tt,ob,u',nd,rfl,hT,rfl,y⟩:=y
    have eu:vs[n]?=some u':=y vs (sq _ _ ex S2.sub)
    have rx:Kz C.K F x u':=a3 n x u' hx eu
    have g:=Grow.obj S2.sub (o:=.frz ob (.tup [.int (n:Nat),u'])) hT
    have S3:=S2.grow g
    have ed:xs.drop n=x::xs.drop (n+1):=by
     rw [List.drop_eq_getElem_cons hlt]
     congr 1
     rw [List.getElem?_eq_getElem hlt] at hx
     exact Option.some.inj hx
    rw [ed] at hq
    unfold Bo at hq
    by_cases hb2:i<ρ'.length∧j<ρ'.length
    ·rw [if_pos hb2] at hq
     rw [aA] at hq
     have S4:=((S3.bf (d:=.int (n:Nat)) (mV _)).push (e:=.ex x) (rx.mono (ex.trans g.f)) fun _ w=>w.elim).Ln (i:=i) (j:=j) hb2.1 hb2.2 hi hj
     refine .inl ⟨Tt,[.int (n:Nat),u'],rfl,RW.Di ⟨ob,nd,upd_same⟩,rfl,.int (n:Nat),[u'],rfl,u',[],rfl,rfl,?_⟩
     refine hb.ext S4 (au hq (fun fl ρ5 k5=>?_) fun _ _ h=>h)
     cases fl with
     | nx=>exact fun F5 H5 σ5 Ds S5=>⟨F5,ρ5,(ex.trans g.f).trans Ds,S5,k5⟩
     | ct=>exact fun F5 H5 σ5 Ds S5=>⟨F5,ρ5,(ex.trans g.f).trans Ds,S5,k5⟩
     | bk=>exact fun F5 H5 σ5 Ds S5=>k5 F5 H5 σ5 S5
     | rt e=>exact fun F5 H5 σ5 v Ds S5=>k5 F5 H5 σ5 v S5
    ·rw [if_neg hb2] at hq
     exact hq.elim
   ·have e:n=xs.length:=by omega
    subst e
    rw [List.drop_length] at hq
    exact .inl ⟨⟨vs,sq _ _ ex S2.sub,a2.symm⟩,hq F1 H σ S2⟩
  | _=>exact q.elim
end
structure ClsV (M:Wd) (aJ:Nat):Prop where
 ex:∃(C fI:Addr) (x:Str) (B newId initId qual:String) (bm:List Value) (st:Stmt) (fd:FuncData),M.mg (fL aJ)=some (.ref C)∧C=fH M.K aJ∧xM x B newId initId bm∧Own M.K C fI (aV aJ) (fL aJ) B newId initId bm∧Fun M.K "__init__" (Str.ofString qual) st fI fd ∧
  FnScope ["self",aV aJ] ["self",aV aJ] (defScope st)∧lY st x (aV aJ)∧M.mg x=none∧Binds M.K fd ["self",aV aJ] []∧aW fd ["self",aV aJ] [aV aJ] 1 [0,1]
section
variable {M:Wd} {XR:cG} {X:Cx} {C:Cs} {W:WX} {k:Nat} {N:List Str} {nm:List (Str × NameKind)} {fb:Str→Bool} {e a b:Expr} {es:List Expr} {f fa:ak→R Val} {fs:ak→R (List Val)} {kws:List Keyword} {pos p p2 p3 p4 tpos:Pos} {y y1 y2:Str} {aJ kk:Nat} {B:String} {pos':Pos}
theorem JE.new (G:Ctx M X C W (k+2) N nm fb) (hc:ClsV M aJ) (hy:y=fL aJ) (hg:qL nm y=true) (h:JA XR X C W [e] fs) (he:starEach (e::[]) X.env=(false,eval e X.env)::starEach [] X.env:=by rfl) (hpl:(backTo pos (starEach [] X.env)).any (·.1)=false:=by rfl) :
  JE XR X C W (.Call (.Name y p) [e] [] pos) (aZ aJ fs):=by
 subst hy
 obtain ⟨Cc,fI,x,B,newId,initId,qual,bm,st,fd,gm,eC,Bs,T,Fn,sc,It,mx,bd,bk⟩:=hc.ex
 obtain ⟨g1,g2,_⟩:=cI G hg
 obtain ⟨t,t1,t2⟩:=h
 have hK:M.K=C.K:=by rw [← G.lX,G.hK]
 subst eC
 have F1:FnOk M.P M.w M.K M.mg M.base (L2.CX M.P M.w) 1 fI fd ["self",aV aJ] (mJ (fH M.K aJ) (aV aJ)):=Cz Bs T Fn sc It mx
 have P1:PE X (.Call (.Name (fL aJ) p) [e] [] pos) (tNew (fH M.K aJ) (aV aJ) t) :=
  pe_new Bs (by rw [G.lX]; exact T) (by rw [G.hP,G.hw,G.lX,G.hmg,G.hbase]; exact F1) (G.room.mono (by omega)) (by rw [G.lX]; exact bd) g1 (by rw [G.hmg]; exact gm) t1 g2 he hpl
 rw [hK] at P1
 exact ⟨_,P1,Bp t2⟩
theorem JE.qd (G:Ctx M X C W (k+2) N nm fb) (hc:ClsV M aJ) (hy:y=fL aJ) (hg:qL nm y=true) (h:JK XR X C W kws fs) (hks:(backToKw pos (keywordEach kws X.env)).filterMap (·.1)=[aV aJ]) (hall:(backToKw pos (keywordEach kws X.env)).all (·.1.isSome)=true:=by rfl)
  (hpl:((backTo pos (starEach [] X.env)).any (·.1) || (backToKw pos (keywordEach kws X.env)).any (·.1.isNone))=false:=by rfl) :
  JE XR X C W (.Call (.Name y p) [] kws pos) (aZ aJ fs):=by
 subst hy
 obtain ⟨Cc,fI,x,B,newId,initId,qual,bm,st,fd,gm,eC,Bs,T,Fn,sc,It,mx,bd,bk⟩:=hc.ex
 obtain ⟨g1,g2,_⟩:=cI G hg
 obtain ⟨t,t1,t2⟩:=h
 have hK:M.K=C.K:=by rw [← G.lX,G.hK]
 subst eC
 have F1:FnOk M.P M.w M.K M.mg M.base (L2.CX M.P M.w) 1 fI fd ["self",aV aJ] (mJ (fH M.K aJ) (aV aJ)):=Cz Bs T Fn sc It mx
 have P1:PE X (.Call (.Name (fL aJ) p) [] kws pos) (tNew (fH M.K aJ) (aV aJ) t) :=
  Vi Bs (by rw [G.lX]; exact T) (by rw [G.hP,G.hw,G.lX,G.hmg,G.hbase]; exact F1) (G.room.mono (by omega)) bk g1 (by rw [G.hmg]; exact gm) t1 hall hks g2 hpl
 rw [hK] at P1
 exact ⟨_,P1,Bp t2⟩
theorem JE.afe (G:Ctx M X C W (k+2) N nm fb) (hc:acU M aJ B) (hy:y=fL aJ) (hg:qL nm y=true):JE XR X C W (.Call (.Name y p) [] [] pos) (wZ aJ):=by
 subst hy
 obtain ⟨Cc,fI,x,newId,initId,qual,bm,st,fd,gm,eC,Bs,T,Fn,sc,It,mx,bd⟩:=hc.ex
 obtain ⟨g1,g2,_⟩:=cI G hg
 have hK:M.K=C.K:=by rw [← G.lX,G.hK]
 subst eC
 have F1:FnOk M.P M.w M.K M.mg M.base (L2.CX M.P M.w) 1 fI fd ["self"] (wX (fH M.K aJ)):=Vd Bs T Fn sc It mx
 have P1:PE X (.Call (.Name (fL aJ) p) [] [] pos) (QX (fH M.K aJ)) :=
  pe_new0 Bs (by rw [G.lX]; exact T) (by rw [G.hP,G.hw,G.lX,G.hmg,G.hbase]; exact F1) (G.room.mono (by omega)) (by rw [G.lX]; exact bd) g1 (by rw [G.hmg]; exact gm) g2
 rw [hK] at P1
 exact ⟨_,P1,Jz⟩
theorem JE.acX (G:Ctx M X C W k N nm fb) (i:Nat) (hi:(N[i]? == some y)=true) (hv:vQ nm y=true):JE XR X C W (.Name y pos) (oZ i):=by
 obtain ⟨h1,h2,h3⟩:=jH G hv
 exact ⟨_,pe_var (by rw [G.hN]; exact beq_iff_eq.mp hi) h1 h2 h3,Dg⟩
theorem JE.Zj (h:JA XR X C W es fs):JE XR X C W (.List es pos) (lV fs):=by
 obtain ⟨t,h1,h2⟩:=h
 exact ⟨_,pe_lst h1,JC h2⟩
theorem JE.acY (ha:JE XR X C W a fa) (hb:JE XR X C W b f):JE XR X C W (.BinOp a .Add b pos) (oY fa f):=by
 obtain ⟨ta,a1,a2⟩:=ha
 obtain ⟨tb,b1,b2⟩:=hb
 exact ⟨_,pe_op op_cat a1 b1,JD a2 b2⟩
theorem JE.JF (G:Ctx M X C W k N nm fb) (ha:JE XR X C W a fa) (hb:JE XR X C W b f) (hs:PlainIx b:=by intro _ _; rfl):JE XR X C W (.Subscript a b pos) (dD fa f):=by
 obtain ⟨ta,a1,a2⟩:=ha
 obtain ⟨tb,b1,b2⟩:=hb
 exact ⟨_,pe_ix (ix_seq (X:=X)) a1 b1 hs,by rw [G.hK]; exact Q6 a2 b2⟩
theorem JS.Bo {body:List Stmt} {g:ak→R Fl} (G:Ctx M X C W k N nm fb) (po:PassesOwn (model X.prog X.w) X.A X.env X.xe) (l i j:Nat) (hm:M.mg "enumerate"=none) (hg:qL nm "enumerate"=true)
  (hl:(N[l]? == some y)=true) (hv:vQ nm y=true) (hcl:C.cs.contains l=false) (hi:(N[i]? == some y1)=true) (hi2:Cm nm fb y1=true) (hiL:C.L.contains i=false) (hj:(N[j]? == some y2)=true) (hj2:Cm nm fb y2=true) (hjL:C.L.contains j=false)
  (hb:JB XR X C W body g) (hs1:starEach [.Name y p2] X.env=[(false,eval (.Name y p2) X.env)]:=by rfl) (ha1:(assignEach [.Name y1 p3,.Name y2 p4] X.env).map (·.2)=assign (.Name y1 p3) X.env::(assignEach [.Name y2 p4] X.env).map (·.2):=by rfl)
  (ha2:(assignEach [.Name y2 p4] X.env).map (·.2)=assign (.Name y2 p4) X.env::(assignEach [] X.env).map (·.2):=by rfl) (hn:(assignEach [.Name y1 p3,.Name y2 p4] X.env).length=2:=by rfl) (hst:(assignEach [.Name y1 p3,.Name y2 p4] X.env).findIdx? (·.1)=none:=by rfl)
  (hs:∀x,foldedSetIterable (.Call (.Name "enumerate" p) [.Name y p2] [] pos) X.env x=pure x:=by intro _; rfl) :
  JS XR X C W (.For (.Tuple [.Name y1 p3,.Name y2 p4] kk tpos) (.Call (.Name "enumerate" p) [.Name y p2] [] pos) body [] pos') (qX l i j g):=by
 obtain ⟨u,u1,u2⟩:=hb
 obtain ⟨e1,_,_⟩:=cI G hg
 obtain ⟨v1,v2,v3⟩:=jH G hv
 obtain ⟨i1,i2⟩:=oG G hi2
 obtain ⟨j1,j2⟩:=oG G hj2
 have P1:=Lf (elts:=[.Name y1 p3,.Name y2 p4]) (kk:=kk) (tpos:=tpos) (p:=p) (pos:=pos) e1 (by rw [G.hmg]; exact hm) (pa_cons (pe_var (pos:=p2) (by rw [G.hN]; exact beq_iff_eq.mp hl) v1 v2 v3) pa_nil hs1) hs1
 have P2:=Vw (pos:=tpos) (k:=kk) G.calm (pgs_cons (pg_name (pos:=p3) (by rw [G.hN]; exact G.nd) (by rw [G.hN]; exact beq_iff_eq.mp hi) i1 i2) (pgs_cons (pg_name (pos:=p4) (by rw [G.hN]; exact G.nd) (by rw [G.hN]; exact beq_iff_eq.mp hj) j1 j2) pgs_nil ha2) ha1) hn hst
 refine ⟨_,ps_for po G.calm P1 P2 u1 hs,?_⟩
 rw [G.hK]
 exact Dh (fun h=>by rw [List.contains_iff_mem.mpr h] at hcl; cases hcl) (fun h=>by rw [List.contains_iff_mem.mpr h] at hiL; cases hiL) (fun h=>by rw [List.contains_iff_mem.mpr h] at hjL; cases hjL) u2
end
end DM
end
section
namespace R4
open PySem PySem.Spec PyProof.Rows L2 DM
def iJ (cl:Nat→List En→R En):ak→R Fl :=
 (aR (kJ (qZ (rP ["list", "tuple"] (aq 1))) (aR (kJ (kh (j9 (aY (xU true) (lg "list" (aq 0)) (lg "list" (aq 1)))) (j9 (aY (xU true) (lg "tuple" (aq 0)) (lg "tuple" (aq 1))))) (cR [] (runC (.bl false))) (fun ρ=>.ok .nx ρ))
 (cR [] (fM (aY (xU false) (fJ Ij (aj (aq 0) ao)) (fJ Ij (aj (aq 1) ao))) (fJ vO (aj (gq [2,3] (vM (aq 0) (aq 1)) (cZ (.t [(.n 2),(.n 3)])) gQ (bL (cO 2 0 [] [0,1] (cl 0) (aj (bZ 2) (aj (bZ 3) ao)) ao))) ao))))) (fun ρ=>.ok .nx ρ))
 (aR (kJ (kh (j9 (aY (xV false) (aq 1) (runC .non))) (qZ (rP ["bool", "str"] (aq 1)))) (cR [] (fM (aY (xU false) (aq 0) (aq 1)) (fM (aY (xU false) (lg "bool" (aq 0)) (lg "bool" (aq 1))) (aY (xU false) (aY (xV false) (aq 0) (runC .non)) (aY (xV false) (aq 1) (runC .non)))))) (fun ρ=>.ok .nx ρ))
 (cR [] (fM (lg "int" (aq 0)) (fM (nZ (lg "bool" (aq 0))) (aY (xU false) (aq 0) (aq 1)))))))
def fV (cl:Nat→List En→R En):ak→R Fl :=
 (aR (bV false 1 (aU (aj (cH [0,1,2,3,4,5,6,7,8,9,10,11,12,13] (.blt "LookupError") (aq 0)) (aj (cH [0,1,2,3,4,5,6,7,8,9,10,11,12,13] (.blt "ValueError") (aq 0)) ao))))
 (cR [] (aY dN (aq 1) (aU (aj (cH [0,1,2,3,4,5,6,7,8,9,10,11,12,13] (.blt "RuntimeError") (aq 0)) (aj (cH [0,1,2,3,4,5,6,7,8,9,10,11,12,13] (.blt "OverflowError") (aq 0)) ao))))))
def fW (cl:Nat→List En→R En):ak→R Fl :=
 (aR (bV false 1 (aU (aj (cH [0,1,2,3,4,5,6,7,8,9,10,11,12,13] (.own 0) (aq 0)) (aj (cH [0,1,2,3,4,5,6,7,8,9,10,11,12,13] (.own 1) (aq 0)) (aj (cH [0,1,2,3,4,5,6,7,8,9,10,11,12,13] (.own 2) (aq 0)) (aj (cH [0,1,2,3,4,5,6,7,8,9,10,11,12,13] (.own 3) (aq 0)) ao))))))
 (aR (bV false 1 (aY dN (aq 1) (aU (aj (cH [0,1,2,3,4,5,6,7,8,9,10,11,12,13] (.own 4) (aq 0)) (aj (cH [0,1,2,3,4,5,6,7,8,9,10,11,12,13] (.own 5) (aq 0)) (aj (cH [0,1,2,3,4,5,6,7,8,9,10,11,12,13] (.own 6) (aq 0)) ao))))))
 (aR (bV false 1 (aY dN (aq 1) (aU (aj (cH [0,1,2,3,4,5,6,7,8,9,10,11,12,13] (.own 7) (aq 0)) (aj (cH [0,1,2,3,4,5,6,7,8,9,10,11,12,13] (.own 8) (aq 0)) (aj (cH [0,1,2,3,4,5,6,7,8,9,10,11,12,13] (.own 9) (aq 0)) ao))))))
 (aR (bV false 1 (aY dN (aq 1) (aU (aj (cH [0,1,2,3,4,5,6,7,8,9,10,11,12,13] (.own 10) (aq 0)) (aj (cH [0,1,2,3,4,5,6,7,8,9,10,11,12,13] (.own 11) (aq 0)) ao)))))
 (cR [] (aY dN (aq 1) (aU (aj (cH [0,1,2,3,4,5,6,7,8,9,10,11,12,13] (.own 12) (aq 0)) (aj (cH [0,1,2,3,4,5,6,7,8,9,10,11,12,13] (.own 13) (aq 0)) ao)))))))))
def dw (cl:Nat→List En→R En):ak→R Fl :=
 (aR (qX 0 2 3 (aR (kJ (j9 (aY (xU true) (cO 1 0 [] [0] (cl 2) (aj (lU 3) ao) ao) (gq [4] (xZ (aj (runC (.int 14)) ao)) (cZ (.n 4)) gQ (aY (xU false) (bZ 4) (aq 2))))) (cR [] (runC (.bl false))) (fun ρ=>.ok .nx ρ))
 (aR (kJ (kh (j9 (aY (Sy true) (aY HD (cO 1 0 [] [0] (cl 1) (aj (lU 3) ao) ao) (aY HD (aq 1) (aq 2))) (runC (.bl true)))) (qZ (qT [0,1,2,3,4,5,6,7,8,9,10,11,12,13] [.blt "KeyError",.blt "NotImplementedError"] (aq 3)))) (cR [] (runC (.bl false))) (fun ρ=>.ok .nx ρ))
 (kJ (j9 (aY (xU true) (gq [4] (xZ (aj (runC (.int 4)) ao)) (cZ (.n 4)) (nY (j9 (aY (xU true) (bZ 4) (aY HD (aq 1) (aq 2)))) (qZ (aY HD (cO 1 0 [] [0] (cl 1) (aj (lU 3) ao) ao) (bZ 4)))) (bZ 4)) (aU ao))) (cR [] (runC (.bl false))) (fun ρ=>.ok .nx ρ)))))
 (cR [] (runC (.bl true))))
def fX (cl:Nat→List En→R En):ak→R Fl :=
 (aR (rN false false 1 2 (aY dN (fJ LC (aj (aq 0) ao)) (runC (.str ":"))) (aY HD (aU (aj (runC (.str "total")) (aj (aq 0) ao))) (aY vR (aq 0) (runC (.int 2)))))
 (aR (bV false 3 (lV (aj (aZ 0 (aj (aq 0) ao)) (aj (aZ 1 (aj (aq 0) ao)) (aj (aZ 2 (aj (aq 0) ao)) (aj (aZ 3 (aj (aq 0) ao)) (aj (aZ 4 (aj (aY dN (aq 0) (runC (.int 1))) ao)) (aj (aZ 5 (aj (aq 0) ao)) ao))))))))
 (aR (bV false 3 (oY (aq 3) (lV (aj (aZ 6 (aj (aq 1) ao)) (aj (aZ 7 (aj (aq 0) ao)) (aj (aZ 8 (aj (aq 0) ao)) (aj (aZ 9 (aj (aq 2) ao)) (aj (aZ 10 (aj (aq 0) ao)) (aj (wZ 11) ao)))))))))
 (aR (bV false 3 (oY (aq 3) (lV (aj (aZ 12 (aj (aY dN (aq 0) (runC (.int 1000))) ao)) (aj (aZ 13 (aj (runC (.int 12)) ao)) ao)))))
 (aR (bV false 4 (aU (aj (bL (runAttr [0,1,2,3,4,5,6,7,8,9,10,11,12,13] "person" (dD (aq 3) (runC (.int 0))))) (aj (bL (runAttr [0,1,2,3,4,5,6,7,8,9,10,11,12,13] "seat" (dD (aq 3) (runC (.int 1))))) (aj (bL (runAttr [0,1,2,3,4,5,6,7,8,9,10,11,12,13] "number" (dD (aq 3) (runC (.int 2))))) (aj (bL (runAttr [0,1,2,3,4,5,6,7,8,9,10,11,12,13] "many" (dD (aq 3) (runC (.int 3))))) (aj (bL (runAttr [0,1,2,3,4,5,6,7,8,9,10,11,12,13] "many" (dD (aq 3) (runC (.int 4))))) (aj (bL (runAttr [0,1,2,3,4,5,6,7,8,9,10,11,12,13] "at" (dD (aq 3) (runC (.int 5))))) (aj (bL (runAttr [0,1,2,3,4,5,6,7,8,9,10,11,12,13] "text" (dD (aq 3) (runC (.int 6))))) ao)))))))))
 (aR (bV false 4 (aY dN (aq 4) (aU (aj (bL (runAttr [0,1,2,3,4,5,6,7,8,9,10,11,12,13] "at" (dD (aq 3) (runC (.int 7))))) (aj (bL (runAttr [0,1,2,3,4,5,6,7,8,9,10,11,12,13] "person" (dD (aq 3) (runC (.int 8))))) (aj (bL (runAttr [0,1,2,3,4,5,6,7,8,9,10,11,12,13] "reason" (dD (aq 3) (runC (.int 9))))) (aj (bL (runAttr [0,1,2,3,4,5,6,7,8,9,10,11,12,13] "many" (dD (aq 3) (runC (.int 10))))) (aj (bL (runAttr [0,1,2,3,4,5,6,7,8,9,10,11,12,13] "many" (dD (aq 3) (runC (.int 12))))) (aj (bL (runAttr [0,1,2,3,4,5,6,7,8,9,10,11,12,13] "many" (dD (aq 3) (runC (.int 13))))) ao)))))))))
 (aR (bV false 5 (aY dN (aY abT (aU (aj (aq 0) ao)) (runC (.int 4))) (aU (aj (aY dN (aq 0) (runC (.int 1))) (aj (aq 0) (aj (aq 1) (aj (aq 0) (aj (aq 0) (aj (aq 2) (aj (aq 0) (aj (aY dN (aq 0) (runC (.int 1000))) (aj (runC (.int 12)) ao))))))))))))
 (aR (kJ (kh (lF (qZ (cO 2 0 [] [0,1] (cl 0) (aj (aq 4) (aj (aq 5) ao)) ao))) (lF (qZ (cO 2 0 [] [0,1] (cl 3) (aj (oZ 3) (aj (bL (aU (aj (runC (.int 0)) (aj (runC (.int 0)) (aj (runC (.int 0)) (aj (runC (.int 0)) (aj (runC (.int 1)) (aj (runC (.int 1)) (aj (runC (.int 1)) (aj (runC (.int 1)) (aj (runC (.int 2)) (aj (runC (.int 2)) (aj (runC (.int 2)) (aj (runC (.int 2)) (aj (runC (.int 3)) (aj (runC (.int 3)) ao)))))))))))))))) ao)) ao)))) (cR [] (runC (.bl false))) (fun ρ=>.ok .nx ρ))
 (aR (bV false 4 (aU (aj (bL (runAttr [0,1,2,3,4,5,6,7,8,9,10,11,12,13] "person" (aZ 0 (aj (aq 0) ao)))) (aj (bL (runAttr [0,1,2,3,4,5,6,7,8,9,10,11,12,13] "seat" (aZ 1 (aj (aq 0) ao)))) (aj (bL (runAttr [0,1,2,3,4,5,6,7,8,9,10,11,12,13] "number" (aZ 2 (aj (aq 0) ao)))) (aj (bL (runAttr [0,1,2,3,4,5,6,7,8,9,10,11,12,13] "many" (aZ 3 (aj (aq 0) ao)))) ao))))))
 (aR (bV false 4 (aY dN (aq 4) (aU (aj (bL (runAttr [0,1,2,3,4,5,6,7,8,9,10,11,12,13] "many" (aZ 4 (aj (aY dN (aq 0) (runC (.int 1))) ao)))) (aj (bL (runAttr [0,1,2,3,4,5,6,7,8,9,10,11,12,13] "at" (aZ 5 (aj (aq 0) ao)))) (aj (bL (runAttr [0,1,2,3,4,5,6,7,8,9,10,11,12,13] "text" (aZ 6 (aj (aq 1) ao)))) ao))))))
 (aR (bV false 4 (aY dN (aq 4) (aU (aj (bL (runAttr [0,1,2,3,4,5,6,7,8,9,10,11,12,13] "at" (aZ 7 (aj (aq 0) ao)))) (aj (bL (runAttr [0,1,2,3,4,5,6,7,8,9,10,11,12,13] "person" (aZ 8 (aj (aq 0) ao)))) (aj (bL (runAttr [0,1,2,3,4,5,6,7,8,9,10,11,12,13] "reason" (aZ 9 (aj (aq 2) ao)))) ao))))))
 (aR (bV false 4 (aY dN (aq 4) (aU (aj (bL (runAttr [0,1,2,3,4,5,6,7,8,9,10,11,12,13] "many" (aZ 10 (aj (aq 0) ao)))) (aj (bL (runAttr [0,1,2,3,4,5,6,7,8,9,10,11,12,13] "many" (aZ 12 (aj (aY dN (aq 0) (runC (.int 1000))) ao)))) (aj (bL (runAttr [0,1,2,3,4,5,6,7,8,9,10,11,12,13] "many" (aZ 13 (aj (runC (.int 12)) ao)))) ao))))))
 (cR [] (cO 2 0 [] [0,1] (cl 0) (aj (aq 4) (aj (aq 5) ao)) ao))))))))))))))
def Hi (cl:Nat→List En→R En):ak→R Fl :=
 (aR (bV false 1 (aY dN (gq [2] (cW (qC (aq 0) rQ (lH (runC (.int 8))))) (cZ (.n 2)) gQ (aY dN (aY vR (fJ Cg (aj (bZ 2) ao)) (runC (.int 39))) (runC (.int 1)))) (aU (aj (runC (.int 1)) ao))))
 (cR [] (fJ vO (aj (gq [2] (cW (aq 1)) (cZ (.n 2)) gQ (bL (cO 1 0 [] [0] (cl 4) (aj (bZ 2) ao) ao))) ao))))
def step (cl:Nat→List En→R En):Nat→List En→R En
 | 0=>gG 4 (iJ cl)
 | 1=>gG 2 (fV cl)
 | 2=>gG 2 (fW cl)
 | 3=>gG 5 (dw cl)
 | 4=>gG 6 (fX cl)
 | 5=>gG 3 (Hi cl)
 | _=>fun _=>.bad
def call:Nat→Nat→List En→R En
 | 0=>fun _ _=>.bad
 | k+1=>step (call k)
end R4
end
section
namespace R4
open PySem PySem.Spec PyProof.Rows L2 DM
def topS (i:Nat):Stmt:=PySem.Challenge.pw_tollround_k91_errors_made.main.body.getD i (.Pass ⟨0,0,0,0⟩)
abbrev bQ:Stmt:=topS 16
theorem w6:FnScope ["_law_found", "_law_due", "_law_mine", "_law_its"] ["_law_found", "_law_due"] (defScope bQ):=⟨rfl,rfl,rfl,by decide +kernel,rfl,by decide +kernel,by decide +kernel⟩
abbrev bh:Stmt:=topS 17
theorem tV:FnScope ["_law_made", "_law_found"] ["_law_made"] (defScope bh):=⟨rfl,rfl,rfl,by decide +kernel,rfl,by decide +kernel,by decide +kernel⟩
abbrev bx:Stmt:=topS 18
theorem tW:FnScope ["_law_made", "_law_found"] ["_law_made"] (defScope bx):=⟨rfl,rfl,rfl,by decide +kernel,rfl,by decide +kernel,by decide +kernel⟩
abbrev aM:Stmt:=topS 19
theorem o7:FnScope ["_law_made", "_law_base", "_law_mark_at", "_law_error", "_law_k"] ["_law_made", "_law_base"] (defScope aM):=⟨rfl,rfl,rfl,by decide +kernel,rfl,by decide +kernel,by decide +kernel⟩
abbrev bB:Stmt:=topS 20
theorem tX:FnScope ["_law_cell", "_law_message", "_law_reason_now", "_law_made", "_law_found", "_law_due"] ["_law_cell"] (defScope bB):=⟨rfl,rfl,rfl,by decide +kernel,rfl,by decide +kernel,by decide +kernel⟩
abbrev jt:Stmt:=topS 21
theorem Zk:FnScope ["_law_script", "_law_cells", "_law_cell"] ["_law_script"] (defScope jt):=⟨rfl,rfl,rfl,by decide +kernel,rfl,by decide +kernel,by decide +kernel⟩
abbrev jK:Stmt:=iG (topS 1)
theorem Q7:FnScope ["self",aV 0] ["self",aV 0] (defScope jK):=⟨rfl,rfl,rfl,by decide +kernel,rfl,by decide +kernel,by decide +kernel⟩
theorem Q8:lY jK "LookupError" (aV 0):=⟨rfl,⟨_,_,_,_,_,_,_,_,_,_,rfl,fun _=>⟨_,rfl⟩⟩,by decide +kernel,by decide +kernel,by decide +kernel,by decide +kernel,by decide +kernel⟩
abbrev jL:Stmt:=iG (topS 2)
theorem Q9:FnScope ["self",aV 1] ["self",aV 1] (defScope jL):=⟨rfl,rfl,rfl,by decide +kernel,rfl,by decide +kernel,by decide +kernel⟩
theorem Ra:lY jL "LookupError" (aV 1):=⟨rfl,⟨_,_,_,_,_,_,_,_,_,_,rfl,fun _=>⟨_,rfl⟩⟩,by decide +kernel,by decide +kernel,by decide +kernel,by decide +kernel,by decide +kernel⟩
abbrev jM:Stmt:=iG (topS 3)
theorem Rb:FnScope ["self",aV 2] ["self",aV 2] (defScope jM):=⟨rfl,rfl,rfl,by decide +kernel,rfl,by decide +kernel,by decide +kernel⟩
theorem Rc:lY jM "LookupError" (aV 2):=⟨rfl,⟨_,_,_,_,_,_,_,_,_,_,rfl,fun _=>⟨_,rfl⟩⟩,by decide +kernel,by decide +kernel,by decide +kernel,by decide +kernel,by decide +kernel⟩
abbrev jN:Stmt:=iG (topS 4)
theorem Rf:FnScope ["self",aV 3] ["self",aV 3] (defScope jN):=⟨rfl,rfl,rfl,by decide +kernel,rfl,by decide +kernel,by decide +kernel⟩
theorem Rg:lY jN "LookupError" (aV 3):=⟨rfl,⟨_,_,_,_,_,_,_,_,_,_,rfl,fun _=>⟨_,rfl⟩⟩,by decide +kernel,by decide +kernel,by decide +kernel,by decide +kernel,by decide +kernel⟩
abbrev jO:Stmt:=iG (topS 5)
theorem Rh:FnScope ["self",aV 4] ["self",aV 4] (defScope jO):=⟨rfl,rfl,rfl,by decide +kernel,rfl,by decide +kernel,by decide +kernel⟩
theorem Ri:lY jO "ValueError" (aV 4):=⟨rfl,⟨_,_,_,_,_,_,_,_,_,_,rfl,fun _=>⟨_,rfl⟩⟩,by decide +kernel,by decide +kernel,by decide +kernel,by decide +kernel,by decide +kernel⟩
abbrev jP:Stmt:=iG (topS 6)
theorem Rj:FnScope ["self",aV 5] ["self",aV 5] (defScope jP):=⟨rfl,rfl,rfl,by decide +kernel,rfl,by decide +kernel,by decide +kernel⟩
theorem Rk:lY jP "ValueError" (aV 5):=⟨rfl,⟨_,_,_,_,_,_,_,_,_,_,rfl,fun _=>⟨_,rfl⟩⟩,by decide +kernel,by decide +kernel,by decide +kernel,by decide +kernel,by decide +kernel⟩
abbrev jQ:Stmt:=iG (topS 7)
theorem Rm:FnScope ["self",aV 6] ["self",aV 6] (defScope jQ):=⟨rfl,rfl,rfl,by decide +kernel,rfl,by decide +kernel,by decide +kernel⟩
theorem Ro:lY jQ "ValueError" (aV 6):=⟨rfl,⟨_,_,_,_,_,_,_,_,_,_,rfl,fun _=>⟨_,rfl⟩⟩,by decide +kernel,by decide +kernel,by decide +kernel,by decide +kernel,by decide +kernel⟩
abbrev jR:Stmt:=iG (topS 8)
theorem Rq:FnScope ["self",aV 7] ["self",aV 7] (defScope jR):=⟨rfl,rfl,rfl,by decide +kernel,rfl,by decide +kernel,by decide +kernel⟩
theorem Rr:lY jR "ValueError" (aV 7):=⟨rfl,⟨_,_,_,_,_,_,_,_,_,_,rfl,fun _=>⟨_,rfl⟩⟩,by decide +kernel,by decide +kernel,by decide +kernel,by decide +kernel,by decide +kernel⟩
abbrev jT:Stmt:=iG (topS 9)
theorem Ru:FnScope ["self",aV 8] ["self",aV 8] (defScope jT):=⟨rfl,rfl,rfl,by decide +kernel,rfl,by decide +kernel,by decide +kernel⟩
theorem Rv:lY jT "RuntimeError" (aV 8):=⟨rfl,⟨_,_,_,_,_,_,_,_,_,_,rfl,fun _=>⟨_,rfl⟩⟩,by decide +kernel,by decide +kernel,by decide +kernel,by decide +kernel,by decide +kernel⟩
abbrev jU:Stmt:=iG (topS 10)
theorem Rw:FnScope ["self",aV 9] ["self",aV 9] (defScope jU):=⟨rfl,rfl,rfl,by decide +kernel,rfl,by decide +kernel,by decide +kernel⟩
theorem Rx:lY jU "RuntimeError" (aV 9):=⟨rfl,⟨_,_,_,_,_,_,_,_,_,_,rfl,fun _=>⟨_,rfl⟩⟩,by decide +kernel,by decide +kernel,by decide +kernel,by decide +kernel,by decide +kernel⟩
abbrev gU:Stmt:=iG (topS 11)
theorem JH:FnScope ["self",aV 10] ["self",aV 10] (defScope gU):=⟨rfl,rfl,rfl,by decide +kernel,rfl,by decide +kernel,by decide +kernel⟩
theorem JM:lY gU "RuntimeError" (aV 10):=⟨rfl,⟨_,_,_,_,_,_,_,_,_,_,rfl,fun _=>⟨_,rfl⟩⟩,by decide +kernel,by decide +kernel,by decide +kernel,by decide +kernel,by decide +kernel⟩
abbrev ju:Stmt:=iG (topS 12)
abbrev gW:Stmt:=iG (topS 13)
theorem JQ:FnScope ["self",aV 12] ["self",aV 12] (defScope gW):=⟨rfl,rfl,rfl,by decide +kernel,rfl,by decide +kernel,by decide +kernel⟩
theorem JR:lY gW "OverflowError" (aV 12):=⟨rfl,⟨_,_,_,_,_,_,_,_,_,_,rfl,fun _=>⟨_,rfl⟩⟩,by decide +kernel,by decide +kernel,by decide +kernel,by decide +kernel,by decide +kernel⟩
abbrev gY:Stmt:=iG (topS 14)
theorem JV:FnScope ["self",aV 13] ["self",aV 13] (defScope gY):=⟨rfl,rfl,rfl,by decide +kernel,rfl,by decide +kernel,by decide +kernel⟩
theorem JX:lY gY "OverflowError" (aV 13):=⟨rfl,⟨_,_,_,_,_,_,_,_,_,_,rfl,fun _=>⟨_,rfl⟩⟩,by decide +kernel,by decide +kernel,by decide +kernel,by decide +kernel,by decide +kernel⟩
theorem JZ:FnScope ["self"] ["self"] (defScope ju):=⟨rfl,rfl,rfl,by decide +kernel,rfl,by decide +kernel,by decide +kernel⟩
theorem J8:QT ju "RuntimeError":=⟨rfl,⟨_,_,_,_,_,rfl,fun _=>⟨_,rfl⟩⟩,by decide +kernel⟩
theorem Ry {K:PySem.W.Frag} {f:Addr} {fd:FuncData} (h:Fun K "__init__" "NoPerson.__init__" jK f fd):aW fd ["self",aV 0] [aV 0] 1 [0,1]:=by
 obtain ⟨oc,od,kV,doc,pm,an,cdv,ct,osl,rfl,lk,hcd⟩:=h.ex
 exact ⟨fun us ws h1 h2=>match us,ws,h1,h2 with | [_],[_],_,_=>rfl⟩
theorem Rz {K:PySem.W.Frag} {f:Addr} {fd:FuncData} (h:Fun K "__init__" "NoSeat.__init__" jL f fd):aW fd ["self",aV 1] [aV 1] 1 [0,1]:=by
 obtain ⟨oc,od,kV,doc,pm,an,cdv,ct,osl,rfl,lk,hcd⟩:=h.ex
 exact ⟨fun us ws h1 h2=>match us,ws,h1,h2 with | [_],[_],_,_=>rfl⟩
theorem RB {K:PySem.W.Frag} {f:Addr} {fd:FuncData} (h:Fun K "__init__" "NoNumber.__init__" jM f fd):aW fd ["self",aV 2] [aV 2] 1 [0,1]:=by
 obtain ⟨oc,od,kV,doc,pm,an,cdv,ct,osl,rfl,lk,hcd⟩:=h.ex
 exact ⟨fun us ws h1 h2=>match us,ws,h1,h2 with | [_],[_],_,_=>rfl⟩
theorem RG {K:PySem.W.Frag} {f:Addr} {fd:FuncData} (h:Fun K "__init__" "NoDeed.__init__" jN f fd):aW fd ["self",aV 3] [aV 3] 1 [0,1]:=by
 obtain ⟨oc,od,kV,doc,pm,an,cdv,ct,osl,rfl,lk,hcd⟩:=h.ex
 exact ⟨fun us ws h1 h2=>match us,ws,h1,h2 with | [_],[_],_,_=>rfl⟩
theorem RJ {K:PySem.W.Frag} {f:Addr} {fd:FuncData} (h:Fun K "__init__" "OtherPeople.__init__" jO f fd):aW fd ["self",aV 4] [aV 4] 1 [0,1]:=by
 obtain ⟨oc,od,kV,doc,pm,an,cdv,ct,osl,rfl,lk,hcd⟩:=h.ex
 exact ⟨fun us ws h1 h2=>match us,ws,h1,h2 with | [_],[_],_,_=>rfl⟩
theorem RK {K:PySem.W.Frag} {f:Addr} {fd:FuncData} (h:Fun K "__init__" "BadDeed.__init__" jP f fd):aW fd ["self",aV 5] [aV 5] 1 [0,1]:=by
 obtain ⟨oc,od,kV,doc,pm,an,cdv,ct,osl,rfl,lk,hcd⟩:=h.ex
 exact ⟨fun us ws h1 h2=>match us,ws,h1,h2 with | [_],[_],_,_=>rfl⟩
theorem RL {K:PySem.W.Frag} {f:Addr} {fd:FuncData} (h:Fun K "__init__" "BadText.__init__" jQ f fd):aW fd ["self",aV 6] [aV 6] 1 [0,1]:=by
 obtain ⟨oc,od,kV,doc,pm,an,cdv,ct,osl,rfl,lk,hcd⟩:=h.ex
 exact ⟨fun us ws h1 h2=>match us,ws,h1,h2 with | [_],[_],_,_=>rfl⟩
theorem RM {K:PySem.W.Frag} {f:Addr} {fd:FuncData} (h:Fun K "__init__" "BadLine.__init__" jR f fd):aW fd ["self",aV 7] [aV 7] 1 [0,1]:=by
 obtain ⟨oc,od,kV,doc,pm,an,cdv,ct,osl,rfl,lk,hcd⟩:=h.ex
 exact ⟨fun us ws h1 h2=>match us,ws,h1,h2 with | [_],[_],_,_=>rfl⟩
theorem RN {K:PySem.W.Frag} {f:Addr} {fd:FuncData} (h:Fun K "__init__" "Empty.__init__" jT f fd):aW fd ["self",aV 8] [aV 8] 1 [0,1]:=by
 obtain ⟨oc,od,kV,doc,pm,an,cdv,ct,osl,rfl,lk,hcd⟩:=h.ex
 exact ⟨fun us ws h1 h2=>match us,ws,h1,h2 with | [_],[_],_,_=>rfl⟩
theorem RP {K:PySem.W.Frag} {f:Addr} {fd:FuncData} (h:Fun K "__init__" "Barred.__init__" jU f fd):aW fd ["self",aV 9] [aV 9] 1 [0,1]:=by
 obtain ⟨oc,od,kV,doc,pm,an,cdv,ct,osl,rfl,lk,hcd⟩:=h.ex
 exact ⟨fun us ws h1 h2=>match us,ws,h1,h2 with | [_],[_],_,_=>rfl⟩
theorem J9 {K:PySem.W.Frag} {f:Addr} {fd:FuncData} (h:Fun K "__init__" "Stops.__init__" gU f fd):aW fd ["self",aV 10] [aV 10] 1 [0,1]:=by
 obtain ⟨oc,od,kV,doc,pm,an,cdv,ct,osl,rfl,lk,hcd⟩:=h.ex
 exact ⟨fun us ws h1 h2=>match us,ws,h1,h2 with | [_],[_],_,_=>rfl⟩
theorem Ka {K:PySem.W.Frag} {f:Addr} {fd:FuncData} (h:Fun K "__init__" "TooMany.__init__" gW f fd):aW fd ["self",aV 12] [aV 12] 1 [0,1]:=by
 obtain ⟨oc,od,kV,doc,pm,an,cdv,ct,osl,rfl,lk,hcd⟩:=h.ex
 exact ⟨fun us ws h1 h2=>match us,ws,h1,h2 with | [_],[_],_,_=>rfl⟩
theorem Kc {K:PySem.W.Frag} {f:Addr} {fd:FuncData} (h:Fun K "__init__" "Full.__init__" gY f fd):aW fd ["self",aV 13] [aV 13] 1 [0,1]:=by
 obtain ⟨oc,od,kV,doc,pm,an,cdv,ct,osl,rfl,lk,hcd⟩:=h.ex
 exact ⟨fun us ws h1 h2=>match us,ws,h1,h2 with | [_],[_],_,_=>rfl⟩
structure Facts (M:Wd) (fA:Nat→Addr) (fD:Nat→FuncData):Prop where
 f0:Fun M.K "_law_same" "_law_same" bQ (fA 0) (fD 0)
 m0:M.mg "_law_same"=some (.ref (fA 0))
 k0:PySem.W.keepIn M.K (.ref (fA 0))=true
 f1:Fun M.K "_law_bases" "_law_bases" bh (fA 1) (fD 1)
 m1:M.mg "_law_bases"=some (.ref (fA 1))
 k1:PySem.W.keepIn M.K (.ref (fA 1))=true
 f2:Fun M.K "_law_kinds" "_law_kinds" bx (fA 2) (fD 2)
 m2:M.mg "_law_kinds"=some (.ref (fA 2))
 k2:PySem.W.keepIn M.K (.ref (fA 2))=true
 f3:Fun M.K "_law_all_right" "_law_all_right" aM (fA 3) (fD 3)
 m3:M.mg "_law_all_right"=some (.ref (fA 3))
 k3:PySem.W.keepIn M.K (.ref (fA 3))=true
 f4:Fun M.K "_law_right" "_law_right" bB (fA 4) (fD 4)
 m4:M.mg "_law_right"=some (.ref (fA 4))
 k4:PySem.W.keepIn M.K (.ref (fA 4))=true
 f5:Fun M.K "law" "law" jt (fA 5) (fD 5)
 m5:M.mg "law"=some (.ref (fA 5))
 k5:PySem.W.keepIn M.K (.ref (fA 5))=true
 x0:cY M 0
 x1:cY M 1
 x2:cY M 2
 x3:cY M 3
 x4:cY M 4
 x5:cY M 5
 x6:cY M 6
 x7:cY M 7
 x8:cY M 8
 x9:cY M 9
 x10:cY M 10
 x11:cY M 11
 x12:cY M 12
 x13:cY M 13
 r11:acU M 11 "RuntimeError"
 v0:ClsV M 0
 v1:ClsV M 1
 v2:ClsV M 2
 v3:ClsV M 3
 v4:ClsV M 4
 v5:ClsV M 5
 v6:ClsV M 6
 v7:ClsV M 7
 v8:ClsV M 8
 v9:ClsV M 9
 v10:ClsV M 10
 v12:ClsV M 12
 v13:ClsV M 13
 g8:M.mg "KeyError"=none
 bM:M.mg "LookupError"=none
 bK:M.mg "NotImplementedError"=none
 bU:M.mg "OverflowError"=none
 bD:M.mg "RuntimeError"=none
 bY:M.mg "ValueError"=none
 Bq:M.mg "abs"=none
 vB:M.mg "all"=none
 lD:M.mg "bool"=none
 fB:M.mg "enumerate"=none
 Br:M.mg "int"=none
 aG:M.mg "isinstance"=none
 vC:M.mg "len"=none
 nA:M.mg "list"=none
 lW:M.mg "range"=none
 vD:M.mg "str"=none
 jV:M.mg "tuple"=none
 Bt:M.mg "zip"=none
theorem Facts.hk {M:Wd} {fA:Nat→Addr} {fD:Nat→FuncData} (E:Facts M fA fD):∀c∈([0,1,2,3,4,5,6,7,8,9,10,11,12,13]:List Nat),cY M c:=fun c hc=>by
 simp only [List.mem_cons,List.not_mem_nil,or_false] at hc
 rcases hc with rfl | rfl | rfl | rfl | rfl | rfl | rfl | rfl | rfl | rfl | rfl | rfl | rfl | rfl
 ·exact E.x0
 ·exact E.x1
 ·exact E.x2
 ·exact E.x3
 ·exact E.x4
 ·exact E.x5
 ·exact E.x6
 ·exact E.x7
 ·exact E.x8
 ·exact E.x9
 ·exact E.x10
 ·exact E.x11
 ·exact E.x12
 ·exact E.x13
theorem ig {K:PySem.W.Frag} {f:Addr} {fd:FuncData} (h:Fun K "_law_same" "_law_same" bQ f fd):aW fd ["_law_found", "_law_due"] [] 2 [0,1]:=by
 obtain ⟨oc,od,kV,doc,pm,an,cdv,ct,osl,rfl,lk,hcd⟩:=h.ex
 exact ⟨fun us ws h1 h2=>match us,ws,h1,h2 with | [_,_],[],_,_=>rfl⟩
theorem jZ {K:PySem.W.Frag} {f:Addr} {fd:FuncData} (h:Fun K "_law_bases" "_law_bases" bh f fd):aW fd ["_law_made"] [] 1 [0]:=by
 obtain ⟨oc,od,kV,doc,pm,an,cdv,ct,osl,rfl,lk,hcd⟩:=h.ex
 exact ⟨fun us ws h1 h2=>match us,ws,h1,h2 with | [_],[],_,_=>rfl⟩
theorem qN {K:PySem.W.Frag} {f:Addr} {fd:FuncData} (h:Fun K "_law_kinds" "_law_kinds" bx f fd):aW fd ["_law_made"] [] 1 [0]:=by
 obtain ⟨oc,od,kV,doc,pm,an,cdv,ct,osl,rfl,lk,hcd⟩:=h.ex
 exact ⟨fun us ws h1 h2=>match us,ws,h1,h2 with | [_],[],_,_=>rfl⟩
theorem lZ {K:PySem.W.Frag} {f:Addr} {fd:FuncData} (h:Fun K "_law_all_right" "_law_all_right" aM f fd):aW fd ["_law_made", "_law_base"] [] 2 [0,1]:=by
 obtain ⟨oc,od,kV,doc,pm,an,cdv,ct,osl,rfl,lk,hcd⟩:=h.ex
 exact ⟨fun us ws h1 h2=>match us,ws,h1,h2 with | [_,_],[],_,_=>rfl⟩
theorem qO {K:PySem.W.Frag} {f:Addr} {fd:FuncData} (h:Fun K "_law_right" "_law_right" bB f fd):aW fd ["_law_cell"] [] 1 [0]:=by
 obtain ⟨oc,od,kV,doc,pm,an,cdv,ct,osl,rfl,lk,hcd⟩:=h.ex
 exact ⟨fun us ws h1 h2=>match us,ws,h1,h2 with | [_],[],_,_=>rfl⟩
structure jw (M:Wd) (fA:Nat→Addr) (fD:Nat→FuncData) (k:Nat):Prop where
 o0:mH M.P M.w M.K M.mg M.base (k+2) (fA 0) (fD 0) ["_law_found", "_law_due"] (nM M.K 2 [] [2,3] (j6 M.K) (call k 0))
 o1:mH M.P M.w M.K M.mg M.base (k+2) (fA 1) (fD 1) ["_law_made"] (nM M.K 1 [] [] (j6 M.K) (call k 1))
 o2:mH M.P M.w M.K M.mg M.base (k+2) (fA 2) (fD 2) ["_law_made"] (nM M.K 1 [] [] (j6 M.K) (call k 2))
 o3:mH M.P M.w M.K M.mg M.base (k+2) (fA 3) (fD 3) ["_law_made", "_law_base"] (nM M.K 2 [] [4] (j6 M.K) (call k 3))
 o4:mH M.P M.w M.K M.mg M.base (k+2) (fA 4) (fD 4) ["_law_cell"] (nM M.K 1 [] [] (j6 M.K) (call k 4))
 o5:mH M.P M.w M.K M.mg M.base (k+2) (fA 5) (fD 5) ["_law_script"] (nM M.K 1 [] [2] (j6 M.K) (call k 5))
end R4
end
section
namespace R4
open PySem PySem.Spec PyProof.Rows L2 DM
section
variable {M:Wd} {fA:Nat→Addr} {fD:Nat→FuncData} {k:Nat}
theorem Bu (E:Facts M fA fD) (h:jw M fA fD k) (X:Cx) (W:WX) (G:Ctx M X ⟨M.K,[],[2,3],none⟩ W (k+2) ["_law_found", "_law_due", "_law_mine", "_law_its"] (defScope bQ).names (fun _=>true)) (po:PassesOwn (model X.prog X.w) X.A X.env X.xe) (fr:Yx X):JB (j6 M.K) X ⟨M.K,[],[2,3],none⟩ W (defBody bQ) (iJ (call k)):=by
 unfold iJ
 show JB (j6 M.K) X ⟨M.K,[],[2,3],none⟩ W (_::_) _
 exact (JB.cons (JS.if (JT.tru G (JE.isT (Ts:=["list", "tuple"]) G E.aG (by decide +kernel) (pa_cons (pF G boot_list E.nA (by decide +kernel)) (pa_cons (pF G boot_tuple E.jV (by decide +kernel)) pa_nil)) rfl (JE.var G 1 (by decide +kernel) (by decide +kernel) rfl))) (JB.cons (JS.if (JW.pt (JW.or (JT.cmp G yE (JE.is (T := "list") G E.aG (by decide +kernel) boot_list E.nA (by decide +kernel) (JE.var G 0 (by decide +kernel) (by decide +kernel) rfl)) (JE.is (T := "list") G E.aG (by decide +kernel) boot_list E.nA (by decide +kernel) (JE.var G 1 (by decide +kernel) (by decide +kernel) rfl))) (JW.or1 (JT.cmp G yE (JE.is (T := "tuple") G E.aG (by decide +kernel) boot_tuple E.jV (by decide +kernel) (JE.var G 0 (by decide +kernel) (by decide +kernel) rfl)) (JE.is (T := "tuple") G E.aG (by decide +kernel) boot_tuple E.jV (by decide +kernel) (JE.var G 1 (by decide +kernel) (by decide +kernel) rfl)))))) (JB.one (JS.ret JE.bl)) JB.nil)
 (JB.one (JS.ret (JE.and (JE.cmp G uI (JE.fn G VD E.vC (by decide +kernel) (JA.cons (JE.var G 0 (by decide +kernel) (by decide +kernel) rfl) JA.nil)) (JE.fn G VD E.vC (by decide +kernel) (JA.cons (JE.var G 1 (by decide +kernel) (by decide +kernel) rfl) JA.nil))) (JE.Mr (JE.fn G VF E.vB (by decide +kernel) (JA.cons (JE.lc G [("_law_mine",2),("_law_its",3)] (by decide +kernel) rfl (JI.zip G E.Bt (by decide +kernel) (JE.var G 0 (by decide +kernel) (by decide +kernel) rfl) (JE.var G 1 (by decide +kernel) (by decide +kernel) rfl)) (fun Y G=>(JG.t G (Tr.cons (JG.n G 2 (by decide +kernel) (by decide +kernel) rfl) (Tr.cons (JG.n G 3 (by decide +kernel) (by decide +kernel) rfl) Tr.nil)) rfl)) (fun Y G=>(JE.F (JE.call G h.o0 E.m0 E.k0 (ig E.f0) (by decide +kernel) (by decide +kernel) (JA.cons (JE.yC G 2 (by decide +kernel) (by decide +kernel)) (JA.cons (JE.yC G 3 (by decide +kernel) (by decide +kernel)) JA.nil)))))) JA.nil))))))) JB.nil)
 (JB.cons (JS.if (JW.pt (JW.or (JT.cmp G Cp (JE.var G 1 (by decide +kernel) (by decide +kernel) rfl) JE.non) (JW.or1 (JT.tru G (JE.isT (Ts:=["bool", "str"]) G E.aG (by decide +kernel) (pa_cons (pF G boot_bool E.lD (by decide +kernel)) (pa_cons (pF G boot_str E.vD (by decide +kernel)) pa_nil)) rfl (JE.var G 1 (by decide +kernel) (by decide +kernel) rfl)))))) (JB.one (JS.ret (JE.and (JE.cmp G uI (JE.var G 0 (by decide +kernel) (by decide +kernel) rfl) (JE.var G 1 (by decide +kernel) (by decide +kernel) rfl)) (JE.and (JE.cmp G uI (JE.is (T := "bool") G E.aG (by decide +kernel) boot_bool E.lD (by decide +kernel) (JE.var G 0 (by decide +kernel) (by decide +kernel) rfl)) (JE.is (T := "bool") G E.aG (by decide +kernel) boot_bool E.lD (by decide +kernel) (JE.var G 1 (by decide +kernel) (by decide +kernel) rfl))) (JE.Mr (JE.cmp G uI (JE.cmp G Cp (JE.var G 0 (by decide +kernel) (by decide +kernel) rfl) JE.non) (JE.cmp G Cp (JE.var G 1 (by decide +kernel) (by decide +kernel) rfl) JE.non))))))) JB.nil)
 (JB.one (JS.ret (JE.and (JE.is (T := "int") G E.aG (by decide +kernel) boot_int E.Br (by decide +kernel) (JE.var G 0 (by decide +kernel) (by decide +kernel) rfl)) (JE.and (JE.not (JE.is (T := "bool") G E.aG (by decide +kernel) boot_bool E.lD (by decide +kernel) (JE.var G 0 (by decide +kernel) (by decide +kernel) rfl))) (JE.Mr (JE.cmp G uI (JE.var G 0 (by decide +kernel) (by decide +kernel) rfl) (JE.var G 1 (by decide +kernel) (by decide +kernel) rfl)))))))))
theorem xg (E:Facts M fA fD) (h:jw M fA fD k):mH M.P M.w M.K M.mg M.base (k+3) (fA 0) (fD 0) ["_law_found", "_law_due"] (nM M.K 2 [] [2,3] (j6 M.K) (call (k+1) 0)) :=
 Jd (N:=["_law_found", "_law_due", "_law_mine", "_law_its"]) (ps:=["_law_found", "_law_due"]) (XR:=j6 M.K) (L:=[]) (cs:=[2,3]) (body:=iJ (call k)) E.f0 w6 rfl fun X W G po fr=>Bu E h X W G po fr
theorem xq (E:Facts M fA fD) (h:jw M fA fD k) (X:Cx) (W:WX) (G:Ctx M X ⟨M.K,[],[],none⟩ W (k+2) ["_law_made", "_law_found"] (defScope bh).names (fun _=>true)) (po:PassesOwn (model X.prog X.w) X.A X.env X.xe) (fr:Yx X):JB (j6 M.K) X ⟨M.K,[],[],none⟩ W (defBody bh) (fV (call k)):=by
 unfold fV
 show JB (j6 M.K) X ⟨M.K,[],[],none⟩ W (_::_) _
 exact (JB.cons (JS.asg (keep:=false) G 1 (by decide +kernel) (by decide +kernel) rfl (JE.lst (JA.cons (JE.xO (known:=[0,1,2,3,4,5,6,7,8,9,10,11,12,13]) (t:=.blt "LookupError") G E.hk (by decide +kernel) (by decide +kernel) E.aG (by decide +kernel) (pP (T := "LookupError") G (by decide +kernel) E.bM (by decide +kernel)) (JE.var G 0 (by decide +kernel) (by decide +kernel) rfl)) (JA.cons (JE.xO (known:=[0,1,2,3,4,5,6,7,8,9,10,11,12,13]) (t:=.blt "ValueError") G E.hk (by decide +kernel) (by decide +kernel) E.aG (by decide +kernel) (pP (T := "ValueError") G (by decide +kernel) E.bY (by decide +kernel)) (JE.var G 0 (by decide +kernel) (by decide +kernel) rfl)) JA.nil))))
 (JB.one (JS.ret (JE.op G cQ (JE.var G 1 (by decide +kernel) (by decide +kernel) rfl) (JE.lst (JA.cons (JE.xO (known:=[0,1,2,3,4,5,6,7,8,9,10,11,12,13]) (t:=.blt "RuntimeError") G E.hk (by decide +kernel) (by decide +kernel) E.aG (by decide +kernel) (pP (T := "RuntimeError") G (by decide +kernel) E.bD (by decide +kernel)) (JE.var G 0 (by decide +kernel) (by decide +kernel) rfl)) (JA.cons (JE.xO (known:=[0,1,2,3,4,5,6,7,8,9,10,11,12,13]) (t:=.blt "OverflowError") G E.hk (by decide +kernel) (by decide +kernel) E.aG (by decide +kernel) (pP (T := "OverflowError") G (by decide +kernel) E.bU (by decide +kernel)) (JE.var G 0 (by decide +kernel) (by decide +kernel) rfl)) JA.nil)))))))
theorem tY (E:Facts M fA fD) (h:jw M fA fD k):mH M.P M.w M.K M.mg M.base (k+3) (fA 1) (fD 1) ["_law_made"] (nM M.K 1 [] [] (j6 M.K) (call (k+1) 1)) :=
 Jd (N:=["_law_made", "_law_found"]) (ps:=["_law_made"]) (XR:=j6 M.K) (L:=[]) (cs:=[]) (body:=fV (call k)) E.f1 tV rfl fun X W G po fr=>xq E h X W G po fr
theorem xG (E:Facts M fA fD) (h:jw M fA fD k) (X:Cx) (W:WX) (G:Ctx M X ⟨M.K,[],[],none⟩ W (k+2) ["_law_made", "_law_found"] (defScope bx).names (fun _=>true)) (po:PassesOwn (model X.prog X.w) X.A X.env X.xe) (fr:Yx X):JB (j6 M.K) X ⟨M.K,[],[],none⟩ W (defBody bx) (fW (call k)):=by
 unfold fW
 show JB (j6 M.K) X ⟨M.K,[],[],none⟩ W (_::_) _
 exact (JB.cons (JS.asg (keep:=false) G 1 (by decide +kernel) (by decide +kernel) rfl (JE.lst (JA.cons (JE.xO (known:=[0,1,2,3,4,5,6,7,8,9,10,11,12,13]) (t:=.own 0) G E.hk (by decide +kernel) (by decide +kernel) E.aG (by decide +kernel) (dW G E.x0 (by decide +kernel)) (JE.var G 0 (by decide +kernel) (by decide +kernel) rfl)) (JA.cons (JE.xO (known:=[0,1,2,3,4,5,6,7,8,9,10,11,12,13]) (t:=.own 1) G E.hk (by decide +kernel) (by decide +kernel) E.aG (by decide +kernel) (dW G E.x1 (by decide +kernel)) (JE.var G 0 (by decide +kernel) (by decide +kernel) rfl)) (JA.cons (JE.xO (known:=[0,1,2,3,4,5,6,7,8,9,10,11,12,13]) (t:=.own 2) G E.hk (by decide +kernel) (by decide +kernel) E.aG (by decide +kernel) (dW G E.x2 (by decide +kernel)) (JE.var G 0 (by decide +kernel) (by decide +kernel) rfl)) (JA.cons (JE.xO (known:=[0,1,2,3,4,5,6,7,8,9,10,11,12,13]) (t:=.own 3) G E.hk (by decide +kernel) (by decide +kernel) E.aG (by decide +kernel) (dW G E.x3 (by decide +kernel)) (JE.var G 0 (by decide +kernel) (by decide +kernel) rfl)) JA.nil))))))
 (JB.cons (JS.asg (keep:=false) G 1 (by decide +kernel) (by decide +kernel) rfl (JE.op G cQ (JE.var G 1 (by decide +kernel) (by decide +kernel) rfl) (JE.lst (JA.cons (JE.xO (known:=[0,1,2,3,4,5,6,7,8,9,10,11,12,13]) (t:=.own 4) G E.hk (by decide +kernel) (by decide +kernel) E.aG (by decide +kernel) (dW G E.x4 (by decide +kernel)) (JE.var G 0 (by decide +kernel) (by decide +kernel) rfl)) (JA.cons (JE.xO (known:=[0,1,2,3,4,5,6,7,8,9,10,11,12,13]) (t:=.own 5) G E.hk (by decide +kernel) (by decide +kernel) E.aG (by decide +kernel) (dW G E.x5 (by decide +kernel)) (JE.var G 0 (by decide +kernel) (by decide +kernel) rfl)) (JA.cons (JE.xO (known:=[0,1,2,3,4,5,6,7,8,9,10,11,12,13]) (t:=.own 6) G E.hk (by decide +kernel) (by decide +kernel) E.aG (by decide +kernel) (dW G E.x6 (by decide +kernel)) (JE.var G 0 (by decide +kernel) (by decide +kernel) rfl)) JA.nil))))))
 (JB.cons (JS.asg (keep:=false) G 1 (by decide +kernel) (by decide +kernel) rfl (JE.op G cQ (JE.var G 1 (by decide +kernel) (by decide +kernel) rfl) (JE.lst (JA.cons (JE.xO (known:=[0,1,2,3,4,5,6,7,8,9,10,11,12,13]) (t:=.own 7) G E.hk (by decide +kernel) (by decide +kernel) E.aG (by decide +kernel) (dW G E.x7 (by decide +kernel)) (JE.var G 0 (by decide +kernel) (by decide +kernel) rfl)) (JA.cons (JE.xO (known:=[0,1,2,3,4,5,6,7,8,9,10,11,12,13]) (t:=.own 8) G E.hk (by decide +kernel) (by decide +kernel) E.aG (by decide +kernel) (dW G E.x8 (by decide +kernel)) (JE.var G 0 (by decide +kernel) (by decide +kernel) rfl)) (JA.cons (JE.xO (known:=[0,1,2,3,4,5,6,7,8,9,10,11,12,13]) (t:=.own 9) G E.hk (by decide +kernel) (by decide +kernel) E.aG (by decide +kernel) (dW G E.x9 (by decide +kernel)) (JE.var G 0 (by decide +kernel) (by decide +kernel) rfl)) JA.nil))))))
 (JB.cons (JS.asg (keep:=false) G 1 (by decide +kernel) (by decide +kernel) rfl (JE.op G cQ (JE.var G 1 (by decide +kernel) (by decide +kernel) rfl) (JE.lst (JA.cons (JE.xO (known:=[0,1,2,3,4,5,6,7,8,9,10,11,12,13]) (t:=.own 10) G E.hk (by decide +kernel) (by decide +kernel) E.aG (by decide +kernel) (dW G E.x10 (by decide +kernel)) (JE.var G 0 (by decide +kernel) (by decide +kernel) rfl)) (JA.cons (JE.xO (known:=[0,1,2,3,4,5,6,7,8,9,10,11,12,13]) (t:=.own 11) G E.hk (by decide +kernel) (by decide +kernel) E.aG (by decide +kernel) (dW G E.x11 (by decide +kernel)) (JE.var G 0 (by decide +kernel) (by decide +kernel) rfl)) JA.nil)))))
 (JB.one (JS.ret (JE.op G cQ (JE.var G 1 (by decide +kernel) (by decide +kernel) rfl) (JE.lst (JA.cons (JE.xO (known:=[0,1,2,3,4,5,6,7,8,9,10,11,12,13]) (t:=.own 12) G E.hk (by decide +kernel) (by decide +kernel) E.aG (by decide +kernel) (dW G E.x12 (by decide +kernel)) (JE.var G 0 (by decide +kernel) (by decide +kernel) rfl)) (JA.cons (JE.xO (known:=[0,1,2,3,4,5,6,7,8,9,10,11,12,13]) (t:=.own 13) G E.hk (by decide +kernel) (by decide +kernel) E.aG (by decide +kernel) (dW G E.x13 (by decide +kernel)) (JE.var G 0 (by decide +kernel) (by decide +kernel) rfl)) JA.nil))))))))))
theorem tZ (E:Facts M fA fD) (h:jw M fA fD k):mH M.P M.w M.K M.mg M.base (k+3) (fA 2) (fD 2) ["_law_made"] (nM M.K 1 [] [] (j6 M.K) (call (k+1) 2)) :=
 Jd (N:=["_law_made", "_law_found"]) (ps:=["_law_made"]) (XR:=j6 M.K) (L:=[]) (cs:=[]) (body:=fW (call k)) E.f2 tW rfl fun X W G po fr=>xG E h X W G po fr
theorem qj (E:Facts M fA fD) (h:jw M fA fD k) (X:Cx) (W:WX) (G:Ctx M X ⟨M.K,[],[4],none⟩ W (k+2) ["_law_made", "_law_base", "_law_mark_at", "_law_error", "_law_k"] (defScope aM).names (fun _=>true)) (po:PassesOwn (model X.prog X.w) X.A X.env X.xe) (fr:Yx X):JB (j6 M.K) X ⟨M.K,[],[4],none⟩ W (defBody aM) (dw (call k)):=by
 unfold dw
 show JB (j6 M.K) X ⟨M.K,[],[4],none⟩ W (_::_) _
 exact (JB.cons (JS.Bo G po 0 2 3 E.fB (by decide +kernel) (by decide +kernel) (by decide +kernel) rfl (by decide +kernel) (by decide +kernel) rfl (by decide +kernel) (by decide +kernel) rfl (JB.cons (JS.if (JT.cmp G yE (JE.call G h.o2 E.m2 E.k2 (qN E.f2) (by decide +kernel) (by decide +kernel) (JA.cons (JE.Ze G 3 (by decide +kernel) (by decide +kernel)) JA.nil)) (JE.lc G [("_law_k",4)] (by decide +kernel) rfl (JI.rg1 G E.lW (by decide +kernel) JE.int) (fun Y G=>(JG.n G 4 (by decide +kernel) (by decide +kernel) rfl)) (fun Y G=>(JE.cmp G uI (JE.yC G 4 (by decide +kernel) (by decide +kernel)) (JE.var G 2 (by decide +kernel) (by decide +kernel) rfl))))) (JB.one (JS.ret JE.bl)) JB.nil)
 (JB.cons (JS.if (JW.pt (JW.or (JT.cmp G Tw (JE.ix G (JE.call G h.o1 E.m1 E.k1 (jZ E.f1) (by decide +kernel) (by decide +kernel) (JA.cons (JE.Ze G 3 (by decide +kernel) (by decide +kernel)) JA.nil)) (JE.ix G (JE.var G 1 (by decide +kernel) (by decide +kernel) rfl) (JE.var G 2 (by decide +kernel) (by decide +kernel) rfl))) JE.bl) (JW.or1 (JT.tru G (JE.aeT (known:=[0,1,2,3,4,5,6,7,8,9,10,11,12,13]) (ts:=[.blt "KeyError",.blt "NotImplementedError"]) G E.hk (by decide +kernel) (by decide +kernel) E.aG (by decide +kernel) (pa_cons (pP (T := "KeyError") G (by decide +kernel) E.g8 (by decide +kernel)) (pa_cons (pP (T := "NotImplementedError") G (by decide +kernel) E.bK (by decide +kernel)) pa_nil)) rfl (JE.var G 3 (by decide +kernel) (by decide +kernel) rfl)))))) (JB.one (JS.ret JE.bl)) JB.nil)
 (JB.one (JS.if (JT.cmp G yE (JE.aeC G [("_law_k",4)] (by decide +kernel) rfl (JI.rg1 G E.lW (by decide +kernel) JE.int) (fun Y G=>(JG.n G 4 (by decide +kernel) (by decide +kernel) rfl)) (fun Y G=>(JW.pt (JW.and (JT.cmp G yE (JE.yC G 4 (by decide +kernel) (by decide +kernel)) (JE.ix G (JE.var G 1 (by decide +kernel) (by decide +kernel) rfl) (JE.var G 2 (by decide +kernel) (by decide +kernel) rfl))) (JW.Mr (JT.tru G (JE.ix G (JE.call G h.o1 E.m1 E.k1 (jZ E.f1) (by decide +kernel) (by decide +kernel) (JA.cons (JE.Ze G 3 (by decide +kernel) (by decide +kernel)) JA.nil)) (JE.yC G 4 (by decide +kernel) (by decide +kernel)))))))) (fun Y G=>(JE.yC G 4 (by decide +kernel) (by decide +kernel)))) (JE.lst JA.nil)) (JB.one (JS.ret JE.bl)) JB.nil)))))
 (JB.one (JS.ret JE.bl)))
theorem o8 (E:Facts M fA fD) (h:jw M fA fD k):mH M.P M.w M.K M.mg M.base (k+3) (fA 3) (fD 3) ["_law_made", "_law_base"] (nM M.K 2 [] [4] (j6 M.K) (call (k+1) 3)) :=
 Jd (N:=["_law_made", "_law_base", "_law_mark_at", "_law_error", "_law_k"]) (ps:=["_law_made", "_law_base"]) (XR:=j6 M.K) (L:=[]) (cs:=[4]) (body:=dw (call k)) E.f3 o7 rfl fun X W G po fr=>qj E h X W G po fr
theorem xH (E:Facts M fA fD) (h:jw M fA fD k) (X:Cx) (W:WX) (G:Ctx M X ⟨M.K,[],[],none⟩ W (k+2) ["_law_cell", "_law_message", "_law_reason_now", "_law_made", "_law_found", "_law_due"] (defScope bB).names (fun _=>true)) (po:PassesOwn (model X.prog X.w) X.A X.env X.xe) (fr:Yx X):JB (j6 M.K) X ⟨M.K,[],[],none⟩ W (defBody bB) (fX (call k)):=by
 unfold fX
 show JB (j6 M.K) X ⟨M.K,[],[],none⟩ W (_::_) _
 exact (JB.cons (JS.par (k1:=false) (k2:=false) G 1 2 (by decide +kernel) (by decide +kernel) (by decide +kernel) (by decide +kernel) (by decide +kernel) (by decide +kernel) rfl rfl (JE.op G cQ (JE.ty G XS E.vD (by decide +kernel) (JA.cons (JE.var G 0 (by decide +kernel) (by decide +kernel) rfl) JA.nil)) JE.str) (JE.ix G (JE.lst (JA.cons JE.str (JA.cons (JE.var G 0 (by decide +kernel) (by decide +kernel) rfl) JA.nil))) (JE.op G Mq (JE.var G 0 (by decide +kernel) (by decide +kernel) rfl) JE.int)))
 (JB.cons (JS.asg (keep:=false) G 3 (by decide +kernel) (by decide +kernel) rfl (JE.Zj (JA.cons (JE.new (aJ:=0) G E.v0 rfl (by decide +kernel) (JA.cons (JE.var G 0 (by decide +kernel) (by decide +kernel) rfl) JA.nil)) (JA.cons (JE.new (aJ:=1) G E.v1 rfl (by decide +kernel) (JA.cons (JE.var G 0 (by decide +kernel) (by decide +kernel) rfl) JA.nil)) (JA.cons (JE.new (aJ:=2) G E.v2 rfl (by decide +kernel) (JA.cons (JE.var G 0 (by decide +kernel) (by decide +kernel) rfl) JA.nil)) (JA.cons (JE.new (aJ:=3) G E.v3 rfl (by decide +kernel) (JA.cons (JE.var G 0 (by decide +kernel) (by decide +kernel) rfl) JA.nil)) (JA.cons (JE.new (aJ:=4) G E.v4 rfl (by decide +kernel) (JA.cons (JE.op G cQ (JE.var G 0 (by decide +kernel) (by decide +kernel) rfl) JE.int) JA.nil)) (JA.cons (JE.new (aJ:=5) G E.v5 rfl (by decide +kernel) (JA.cons (JE.var G 0 (by decide +kernel) (by decide +kernel) rfl) JA.nil)) JA.nil))))))))
 (JB.cons (JS.asg (keep:=false) G 3 (by decide +kernel) (by decide +kernel) rfl (JE.acY (JE.var G 3 (by decide +kernel) (by decide +kernel) rfl) (JE.Zj (JA.cons (JE.new (aJ:=6) G E.v6 rfl (by decide +kernel) (JA.cons (JE.var G 1 (by decide +kernel) (by decide +kernel) rfl) JA.nil)) (JA.cons (JE.new (aJ:=7) G E.v7 rfl (by decide +kernel) (JA.cons (JE.var G 0 (by decide +kernel) (by decide +kernel) rfl) JA.nil)) (JA.cons (JE.new (aJ:=8) G E.v8 rfl (by decide +kernel) (JA.cons (JE.var G 0 (by decide +kernel) (by decide +kernel) rfl) JA.nil)) (JA.cons (JE.new (aJ:=9) G E.v9 rfl (by decide +kernel) (JA.cons (JE.var G 2 (by decide +kernel) (by decide +kernel) rfl) JA.nil)) (JA.cons (JE.new (aJ:=10) G E.v10 rfl (by decide +kernel) (JA.cons (JE.var G 0 (by decide +kernel) (by decide +kernel) rfl) JA.nil)) (JA.cons (JE.afe (aJ:=11) G E.r11 rfl (by decide +kernel)) JA.nil)))))))))
 (JB.cons (JS.asg (keep:=false) G 3 (by decide +kernel) (by decide +kernel) rfl (JE.acY (JE.var G 3 (by decide +kernel) (by decide +kernel) rfl) (JE.Zj (JA.cons (JE.new (aJ:=12) G E.v12 rfl (by decide +kernel) (JA.cons (JE.op G cQ (JE.var G 0 (by decide +kernel) (by decide +kernel) rfl) JE.int) JA.nil)) (JA.cons (JE.new (aJ:=13) G E.v13 rfl (by decide +kernel) (JA.cons JE.int JA.nil)) JA.nil)))))
 (JB.cons (JS.asg (keep:=false) G 4 (by decide +kernel) (by decide +kernel) rfl (JE.lst (JA.cons (JE.F (JE.attr (known:=[0,1,2,3,4,5,6,7,8,9,10,11,12,13]) G E.hk (JE.JF G (JE.var G 3 (by decide +kernel) (by decide +kernel) rfl) JE.int))) (JA.cons (JE.F (JE.attr (known:=[0,1,2,3,4,5,6,7,8,9,10,11,12,13]) G E.hk (JE.JF G (JE.var G 3 (by decide +kernel) (by decide +kernel) rfl) JE.int))) (JA.cons (JE.F (JE.attr (known:=[0,1,2,3,4,5,6,7,8,9,10,11,12,13]) G E.hk (JE.JF G (JE.var G 3 (by decide +kernel) (by decide +kernel) rfl) JE.int))) (JA.cons (JE.F (JE.attr (known:=[0,1,2,3,4,5,6,7,8,9,10,11,12,13]) G E.hk (JE.JF G (JE.var G 3 (by decide +kernel) (by decide +kernel) rfl) JE.int))) (JA.cons (JE.F (JE.attr (known:=[0,1,2,3,4,5,6,7,8,9,10,11,12,13]) G E.hk (JE.JF G (JE.var G 3 (by decide +kernel) (by decide +kernel) rfl) JE.int))) (JA.cons (JE.F (JE.attr (known:=[0,1,2,3,4,5,6,7,8,9,10,11,12,13]) G E.hk (JE.JF G (JE.var G 3 (by decide +kernel) (by decide +kernel) rfl) JE.int))) (JA.cons (JE.F (JE.attr (known:=[0,1,2,3,4,5,6,7,8,9,10,11,12,13]) G E.hk (JE.JF G (JE.var G 3 (by decide +kernel) (by decide +kernel) rfl) JE.int))) JA.nil)))))))))
 (JB.cons (JS.asg (keep:=false) G 4 (by decide +kernel) (by decide +kernel) rfl (JE.op G cQ (JE.var G 4 (by decide +kernel) (by decide +kernel) rfl) (JE.lst (JA.cons (JE.F (JE.attr (known:=[0,1,2,3,4,5,6,7,8,9,10,11,12,13]) G E.hk (JE.JF G (JE.var G 3 (by decide +kernel) (by decide +kernel) rfl) JE.int))) (JA.cons (JE.F (JE.attr (known:=[0,1,2,3,4,5,6,7,8,9,10,11,12,13]) G E.hk (JE.JF G (JE.var G 3 (by decide +kernel) (by decide +kernel) rfl) JE.int))) (JA.cons (JE.F (JE.attr (known:=[0,1,2,3,4,5,6,7,8,9,10,11,12,13]) G E.hk (JE.JF G (JE.var G 3 (by decide +kernel) (by decide +kernel) rfl) JE.int))) (JA.cons (JE.F (JE.attr (known:=[0,1,2,3,4,5,6,7,8,9,10,11,12,13]) G E.hk (JE.JF G (JE.var G 3 (by decide +kernel) (by decide +kernel) rfl) JE.int))) (JA.cons (JE.F (JE.attr (known:=[0,1,2,3,4,5,6,7,8,9,10,11,12,13]) G E.hk (JE.JF G (JE.var G 3 (by decide +kernel) (by decide +kernel) rfl) JE.int))) (JA.cons (JE.F (JE.attr (known:=[0,1,2,3,4,5,6,7,8,9,10,11,12,13]) G E.hk (JE.JF G (JE.var G 3 (by decide +kernel) (by decide +kernel) rfl) JE.int))) JA.nil)))))))))
 (JB.cons (JS.asg (keep:=false) G 5 (by decide +kernel) (by decide +kernel) rfl (JE.op G cQ (JE.op G XQ (JE.lst (JA.cons (JE.var G 0 (by decide +kernel) (by decide +kernel) rfl) JA.nil)) JE.int) (JE.lst (JA.cons (JE.op G cQ (JE.var G 0 (by decide +kernel) (by decide +kernel) rfl) JE.int) (JA.cons (JE.var G 0 (by decide +kernel) (by decide +kernel) rfl) (JA.cons (JE.var G 1 (by decide +kernel) (by decide +kernel) rfl) (JA.cons (JE.var G 0 (by decide +kernel) (by decide +kernel) rfl) (JA.cons (JE.var G 0 (by decide +kernel) (by decide +kernel) rfl) (JA.cons (JE.var G 2 (by decide +kernel) (by decide +kernel) rfl) (JA.cons (JE.var G 0 (by decide +kernel) (by decide +kernel) rfl) (JA.cons (JE.op G cQ (JE.var G 0 (by decide +kernel) (by decide +kernel) rfl) JE.int) (JA.cons JE.int JA.nil))))))))))))
 (JB.cons (JS.if (JW.pt (JW.or (JT.not (JT.tru G (JE.call G h.o0 E.m0 E.k0 (ig E.f0) (by decide +kernel) (by decide +kernel) (JA.cons (JE.var G 4 (by decide +kernel) (by decide +kernel) rfl) (JA.cons (JE.var G 5 (by decide +kernel) (by decide +kernel) rfl) JA.nil))))) (JW.or1 (JT.not (JT.tru G (JE.call G h.o3 E.m3 E.k3 (lZ E.f3) (by decide +kernel) (by decide +kernel) (JA.cons (JE.acX G 3 (by decide +kernel) (by decide +kernel)) (JA.cons (JE.F (JE.lst (JA.cons JE.int (JA.cons JE.int (JA.cons JE.int (JA.cons JE.int (JA.cons JE.int (JA.cons JE.int (JA.cons JE.int (JA.cons JE.int (JA.cons JE.int (JA.cons JE.int (JA.cons JE.int (JA.cons JE.int (JA.cons JE.int (JA.cons JE.int JA.nil)))))))))))))))) JA.nil)))))))) (JB.one (JS.ret JE.bl)) JB.nil)
 (JB.cons (JS.asg (keep:=false) G 4 (by decide +kernel) (by decide +kernel) rfl (JE.lst (JA.cons (JE.F (JE.attr (known:=[0,1,2,3,4,5,6,7,8,9,10,11,12,13]) G E.hk (JE.qd (aJ:=0) G E.v0 rfl (by decide +kernel) (JK.cons (JE.var G 0 (by decide +kernel) (by decide +kernel) rfl) JK.nil) rfl))) (JA.cons (JE.F (JE.attr (known:=[0,1,2,3,4,5,6,7,8,9,10,11,12,13]) G E.hk (JE.qd (aJ:=1) G E.v1 rfl (by decide +kernel) (JK.cons (JE.var G 0 (by decide +kernel) (by decide +kernel) rfl) JK.nil) rfl))) (JA.cons (JE.F (JE.attr (known:=[0,1,2,3,4,5,6,7,8,9,10,11,12,13]) G E.hk (JE.qd (aJ:=2) G E.v2 rfl (by decide +kernel) (JK.cons (JE.var G 0 (by decide +kernel) (by decide +kernel) rfl) JK.nil) rfl))) (JA.cons (JE.F (JE.attr (known:=[0,1,2,3,4,5,6,7,8,9,10,11,12,13]) G E.hk (JE.qd (aJ:=3) G E.v3 rfl (by decide +kernel) (JK.cons (JE.var G 0 (by decide +kernel) (by decide +kernel) rfl) JK.nil) rfl))) JA.nil))))))
 (JB.cons (JS.asg (keep:=false) G 4 (by decide +kernel) (by decide +kernel) rfl (JE.op G cQ (JE.var G 4 (by decide +kernel) (by decide +kernel) rfl) (JE.lst (JA.cons (JE.F (JE.attr (known:=[0,1,2,3,4,5,6,7,8,9,10,11,12,13]) G E.hk (JE.qd (aJ:=4) G E.v4 rfl (by decide +kernel) (JK.cons (JE.op G cQ (JE.var G 0 (by decide +kernel) (by decide +kernel) rfl) JE.int) JK.nil) rfl))) (JA.cons (JE.F (JE.attr (known:=[0,1,2,3,4,5,6,7,8,9,10,11,12,13]) G E.hk (JE.qd (aJ:=5) G E.v5 rfl (by decide +kernel) (JK.cons (JE.var G 0 (by decide +kernel) (by decide +kernel) rfl) JK.nil) rfl))) (JA.cons (JE.F (JE.attr (known:=[0,1,2,3,4,5,6,7,8,9,10,11,12,13]) G E.hk (JE.qd (aJ:=6) G E.v6 rfl (by decide +kernel) (JK.cons (JE.var G 1 (by decide +kernel) (by decide +kernel) rfl) JK.nil) rfl))) JA.nil))))))
 (JB.cons (JS.asg (keep:=false) G 4 (by decide +kernel) (by decide +kernel) rfl (JE.op G cQ (JE.var G 4 (by decide +kernel) (by decide +kernel) rfl) (JE.lst (JA.cons (JE.F (JE.attr (known:=[0,1,2,3,4,5,6,7,8,9,10,11,12,13]) G E.hk (JE.qd (aJ:=7) G E.v7 rfl (by decide +kernel) (JK.cons (JE.var G 0 (by decide +kernel) (by decide +kernel) rfl) JK.nil) rfl))) (JA.cons (JE.F (JE.attr (known:=[0,1,2,3,4,5,6,7,8,9,10,11,12,13]) G E.hk (JE.qd (aJ:=8) G E.v8 rfl (by decide +kernel) (JK.cons (JE.var G 0 (by decide +kernel) (by decide +kernel) rfl) JK.nil) rfl))) (JA.cons (JE.F (JE.attr (known:=[0,1,2,3,4,5,6,7,8,9,10,11,12,13]) G E.hk (JE.qd (aJ:=9) G E.v9 rfl (by decide +kernel) (JK.cons (JE.var G 2 (by decide +kernel) (by decide +kernel) rfl) JK.nil) rfl))) JA.nil))))))
 (JB.cons (JS.asg (keep:=false) G 4 (by decide +kernel) (by decide +kernel) rfl (JE.op G cQ (JE.var G 4 (by decide +kernel) (by decide +kernel) rfl) (JE.lst (JA.cons (JE.F (JE.attr (known:=[0,1,2,3,4,5,6,7,8,9,10,11,12,13]) G E.hk (JE.qd (aJ:=10) G E.v10 rfl (by decide +kernel) (JK.cons (JE.var G 0 (by decide +kernel) (by decide +kernel) rfl) JK.nil) rfl))) (JA.cons (JE.F (JE.attr (known:=[0,1,2,3,4,5,6,7,8,9,10,11,12,13]) G E.hk (JE.qd (aJ:=12) G E.v12 rfl (by decide +kernel) (JK.cons (JE.op G cQ (JE.var G 0 (by decide +kernel) (by decide +kernel) rfl) JE.int) JK.nil) rfl))) (JA.cons (JE.F (JE.attr (known:=[0,1,2,3,4,5,6,7,8,9,10,11,12,13]) G E.hk (JE.qd (aJ:=13) G E.v13 rfl (by decide +kernel) (JK.cons JE.int JK.nil) rfl))) JA.nil))))))
 (JB.one (JS.ret (JE.call G h.o0 E.m0 E.k0 (ig E.f0) (by decide +kernel) (by decide +kernel) (JA.cons (JE.var G 4 (by decide +kernel) (by decide +kernel) rfl) (JA.cons (JE.var G 5 (by decide +kernel) (by decide +kernel) rfl) JA.nil)))))))))))))))))
theorem uf (E:Facts M fA fD) (h:jw M fA fD k):mH M.P M.w M.K M.mg M.base (k+3) (fA 4) (fD 4) ["_law_cell"] (nM M.K 1 [] [] (j6 M.K) (call (k+1) 4)) :=
 Jd (N:=["_law_cell", "_law_message", "_law_reason_now", "_law_made", "_law_found", "_law_due"]) (ps:=["_law_cell"]) (XR:=j6 M.K) (L:=[]) (cs:=[]) (body:=fX (call k)) E.f4 tX rfl fun X W G po fr=>xH E h X W G po fr
theorem t_law (E:Facts M fA fD) (h:jw M fA fD k) (X:Cx) (W:WX) (G:Ctx M X ⟨M.K,[],[2],none⟩ W (k+2) ["_law_script", "_law_cells", "_law_cell"] (defScope jt).names (fun _=>true)) (po:PassesOwn (model X.prog X.w) X.A X.env X.xe) (fr:Yx X):JB (j6 M.K) X ⟨M.K,[],[2],none⟩ W (defBody jt) (Hi (call k)):=by
 unfold Hi
 show JB (j6 M.K) X ⟨M.K,[],[2],none⟩ W (_::_) _
 exact (JB.cons (JS.asg (keep:=false) G 1 (by decide +kernel) (by decide +kernel) rfl (JE.op G cQ (JE.lc G [("_law_cell",2)] (by decide +kernel) rfl (JI.seq G (JE.sl G (JE.var G 0 (by decide +kernel) (by decide +kernel) rfl) JO.no (JO.some JE.int))) (fun Y G=>(JG.n G 2 (by decide +kernel) (by decide +kernel) rfl)) (fun Y G=>(JE.op G cQ (JE.op G Mq (JE.fn G abV E.Bq (by decide +kernel) (JA.cons (JE.yC G 2 (by decide +kernel) (by decide +kernel)) JA.nil)) JE.int) JE.int))) (JE.lst (JA.cons JE.int JA.nil))))
 (JB.one (JS.ret (JE.fn G VF E.vB (by decide +kernel) (JA.cons (JE.lc G [("_law_cell",2)] (by decide +kernel) rfl (JI.seq G (JE.var G 1 (by decide +kernel) (by decide +kernel) rfl)) (fun Y G=>(JG.n G 2 (by decide +kernel) (by decide +kernel) rfl)) (fun Y G=>(JE.F (JE.call G h.o4 E.m4 E.k4 (qO E.f4) (by decide +kernel) (by decide +kernel) (JA.cons (JE.yC G 2 (by decide +kernel) (by decide +kernel)) JA.nil))))) JA.nil)))))
theorem ok_law (E:Facts M fA fD) (h:jw M fA fD k):mH M.P M.w M.K M.mg M.base (k+3) (fA 5) (fD 5) ["_law_script"] (nM M.K 1 [] [2] (j6 M.K) (call (k+1) 5)) :=
 Jd (N:=["_law_script", "_law_cells", "_law_cell"]) (ps:=["_law_script"]) (XR:=j6 M.K) (L:=[]) (cs:=[2]) (body:=Hi (call k)) E.f5 Zk rfl fun X W G po fr=>t_law E h X W G po fr
theorem nJ (E:Facts M fA fD):∀k,jw M fA fD k
 | 0=>⟨pQ rfl,pQ rfl,pQ rfl,pQ rfl,pQ rfl,pQ rfl⟩
 | k+1=>⟨xg E (nJ E k),tY E (nJ E k),tZ E (nJ E k),o8 E (nJ E k),uf E (nJ E k),ok_law E (nJ E k)⟩
end
theorem all_mk {P:Program} {w:World} {K:PySem.W.Frag} {hp:Heap} {mg:Str→Option Value} {fa f0 f1 f2 f3 f4 f5:Addr} (X:K.In hp) (G:hp.Ns mainGlobals mg) (hfa:mg "law"=some (.ref fa))
  {od0 an0 od1 an1 od2 an2 od3 an3 od4 an4 od5 an5:Option Addr} {sl0 sl1 sl2 sl3 sl4 sl5:Array (Option Value)} {oc0 kV0 dc0 pm0 cd0 ct0 oc1 kV1 dc1 pm1 cd1 ct1 oc2 kV2 dc2 pm2 cd2 ct2 oc3 kV3 dc3 pm3 cd3 ct3 oc4 kV4 dc4 pm4 cd4 ct4 oc5 kV5 dc5 pm5 cd5 ct5:Value}
  {C0 I0 N0:Addr} {q0:Str} {bs0:List Value} {sn0:List Str} {sb0:List Value} {ab0:Bool} {co0:Option Bool} {de0:Option Addr} {m00 m10 m20 m30 m50:Option Value}
  {afh afi:Option Addr} {afj:Array (Option Value)} {afk afl afm afn acZ afo:Value}
  {C1 I1 N1:Addr} {q1:Str} {bs1:List Value} {sn1:List Str} {sb1:List Value} {ab1:Bool} {co1:Option Bool} {de1:Option Addr} {m01 m11 m21 m31 m51:Option Value}
  {afp afq:Option Addr} {afr:Array (Option Value)} {afs aft afu afv ac0 afw:Value}
  {C2 I2 N2:Addr} {q2:Str} {bs2:List Value} {sn2:List Str} {sb2:List Value} {ab2:Bool} {co2:Option Bool} {de2:Option Addr} {m02 m12 m22 m32 m52:Option Value}
  {afx afy:Option Addr} {afz:Array (Option Value)} {afA afB afC afD ac1 afE:Value}
  {C3 I3 N3:Addr} {q3:Str} {bs3:List Value} {sn3:List Str} {sb3:List Value} {ab3:Bool} {co3:Option Bool} {de3:Option Addr} {m03 m13 m23 m33 m53:Option Value}
  {afF afG:Option Addr} {afH:Array (Option Value)} {afI afJ afK afL ac2 afM:Value}
  {C4 I4 N4:Addr} {q4:Str} {bs4:List Value} {sn4:List Str} {sb4:List Value} {ab4:Bool} {co4:Option Bool} {de4:Option Addr} {m04 m14 m24 m34 m54:Option Value}
  {afN afO:Option Addr} {afP:Array (Option Value)} {afQ afR afS afT ac3 afU:Value}
  {C5 I5 N5:Addr} {q5:Str} {bs5:List Value} {sn5:List Str} {sb5:List Value} {ab5:Bool} {co5:Option Bool} {de5:Option Addr} {m05 m15 m25 m35 m55:Option Value}
  {afV afW:Option Addr} {afX:Array (Option Value)} {afY afZ af0 af2 ac4 af3:Value}
  {C6 I6 N6:Addr} {q6:Str} {bs6:List Value} {sn6:List Str} {sb6:List Value} {ab6:Bool} {co6:Option Bool} {de6:Option Addr} {m06 m16 m26 m36 m56:Option Value}
  {af4 af5:Option Addr} {af6:Array (Option Value)} {af7 af8 af9 aga ac5 agb:Value}
  {C7 I7 N7:Addr} {q7:Str} {bs7:List Value} {sn7:List Str} {sb7:List Value} {ab7:Bool} {co7:Option Bool} {de7:Option Addr} {m07 m17 m27 m37 m57:Option Value}
  {agc agd:Option Addr} {agf:Array (Option Value)} {agg agh agi agj ac6 agk:Value}
  {C8 I8 N8:Addr} {q8:Str} {bs8:List Value} {sn8:List Str} {sb8:List Value} {ab8:Bool} {co8:Option Bool} {de8:Option Addr} {m08 m18 m28 m38 m58:Option Value}
  {agl agm:Option Addr} {agn:Array (Option Value)} {ago agp agq agr ac7 ags:Value}
  {C9 I9 N9:Addr} {q9:Str} {bs9:List Value} {sn9:List Str} {sb9:List Value} {ab9:Bool} {co9:Option Bool} {de9:Option Addr} {m09 m19 m29 m39 m59:Option Value}
  {agt agu:Option Addr} {agv:Array (Option Value)} {agw agx agy agz ac8 agA:Value}
  {C10 I10 N10:Addr} {q10:Str} {agB:List Value} {agC:List Str} {agD:List Value} {agE:Bool} {agF:Option Bool} {agG:Option Addr} {agH agI agJ agK agL:Option Value}
  {ac9 ada:Option Addr} {adb:Array (Option Value)} {ade adf adg adh Xb adi:Value}
  {C11 I11 N11:Addr} {q11:Str} {agM:List Value} {agN:List Str} {agO:List Value} {agP:Bool} {agQ:Option Bool} {agR:Option Addr} {agS agT agU agV agW:Option Value}
  {adk adl:Option Addr} {adn:Array (Option Value)} {ado adp adq adt Xc adu:Value}
  {C12 I12 N12:Addr} {q12:Str} {agX:List Value} {agY:List Str} {agZ:List Value} {ag0:Bool} {ag1:Option Bool} {ag3:Option Addr} {ag4 ag5 ag6 ag7 ag8:Option Value}
  {adw adx:Option Addr} {ady:Array (Option Value)} {adz adA adB adC Xd adD:Value}
  {C13 I13 N13:Addr} {q13:Str} {ag9:List Value} {aha:List Str} {ahb:List Value} {ahc:Bool} {ahd:Option Bool} {ahe:Option Addr} {ahf ahg ahh ahi ahj:Option Value}
  {adE adF:Option Addr} {adG:Array (Option Value)} {adH adI adJ adK Xe adL:Value}
  (a0:PySem.W.nsIn K mainGlobals "_law_same"=some (some (.ref f0))) (l0:K.lookup f0=some ⟨oc0,od0,.func (PySem.W.fnOf "_law_same" "_law_same" (defArgs bQ) (defBody bQ) (defScope bQ) .none kV0 dc0 pm0 an0 cd0 ct0),sl0⟩) (c0:PySem.W.codeIn K cd0 "_law_same"=true) (k0:PySem.W.keepIn K (.ref f0)=true)
  (a1:PySem.W.nsIn K mainGlobals "_law_bases"=some (some (.ref f1))) (l1:K.lookup f1=some ⟨oc1,od1,.func (PySem.W.fnOf "_law_bases" "_law_bases" (defArgs bh) (defBody bh) (defScope bh) .none kV1 dc1 pm1 an1 cd1 ct1),sl1⟩) (c1:PySem.W.codeIn K cd1 "_law_bases"=true) (k1:PySem.W.keepIn K (.ref f1)=true)
  (a2:PySem.W.nsIn K mainGlobals "_law_kinds"=some (some (.ref f2))) (l2:K.lookup f2=some ⟨oc2,od2,.func (PySem.W.fnOf "_law_kinds" "_law_kinds" (defArgs bx) (defBody bx) (defScope bx) .none kV2 dc2 pm2 an2 cd2 ct2),sl2⟩) (c2:PySem.W.codeIn K cd2 "_law_kinds"=true) (k2:PySem.W.keepIn K (.ref f2)=true)
  (a3:PySem.W.nsIn K mainGlobals "_law_all_right"=some (some (.ref f3))) (l3:K.lookup f3=some ⟨oc3,od3,.func (PySem.W.fnOf "_law_all_right" "_law_all_right" (defArgs aM) (defBody aM) (defScope aM) .none kV3 dc3 pm3 an3 cd3 ct3),sl3⟩) (c3:PySem.W.codeIn K cd3 "_law_all_right"=true) (k3:PySem.W.keepIn K (.ref f3)=true)
  (a4:PySem.W.nsIn K mainGlobals "_law_right"=some (some (.ref f4))) (l4:K.lookup f4=some ⟨oc4,od4,.func (PySem.W.fnOf "_law_right" "_law_right" (defArgs bB) (defBody bB) (defScope bB) .none kV4 dc4 pm4 an4 cd4 ct4),sl4⟩) (c4:PySem.W.codeIn K cd4 "_law_right"=true) (k4:PySem.W.keepIn K (.ref f4)=true)
  (a5:PySem.W.nsIn K mainGlobals "law"=some (some (.ref f5))) (l5:K.lookup f5=some ⟨oc5,od5,.func (PySem.W.fnOf "law" "law" (defArgs jt) (defBody jt) (defScope jt) .none kV5 dc5 pm5 an5 cd5 ct5),sl5⟩) (c5:PySem.W.codeIn K cd5 "law"=true) (k5:PySem.W.keepIn K (.ref f5)=true)
  (xa0:PySem.W.nsIn K mainGlobals "NoPerson"=some (some (.ref C0))) (xl0:K.lookup C0=some (excClassObj "NoPerson" q0 C0 N0 bs0 [.type "LookupError",.type "Exception",.type "BaseException",.type "object"] true sn0 sb0 ab0 co0 de0 m00 m10 m20 m30 m50 "LookupError.__new__")) (xs0:PySem.W.findIn K (.ref C0) "__setattr__"=some (some (.builtin "object.__setattr__"))) (xg0:PySem.W.findIn K (.ref C0) "__getattribute__"=some (some (.builtin "BaseException.__getattribute__"))) (xh0:PySem.W.findIn K (.ref C0) "__getattr__"=some none) (xf0:PySem.W.findIn K (.ref C0) "person"=some none) (xi0:PySem.W.findIn K (.ref C0) "__init__"=some (some (.ref I0))) (xt0:PySem.W.typeIn K (.ref I0)=some (.type "function")) (xk0:PySem.W.keepIn K (.ref C0)=true) (xc0:PySem.W.findIn K (.ref C0) "__class__"=some (some (.builtin "object.__class__")))
  (yl0:K.lookup I0=some ⟨afk,afh,.func (PySem.W.fnOf "__init__" "NoPerson.__init__" (defArgs jK) (defBody jK) (defScope jK) .none afl afm afn afi acZ afo),afj⟩) (yc0:PySem.W.codeIn K acZ "NoPerson.__init__"=true) (yk0:PySem.W.keepIn K (.ref I0)=true)
  (xa1:PySem.W.nsIn K mainGlobals "NoSeat"=some (some (.ref C1))) (xl1:K.lookup C1=some (excClassObj "NoSeat" q1 C1 N1 bs1 [.type "LookupError",.type "Exception",.type "BaseException",.type "object"] true sn1 sb1 ab1 co1 de1 m01 m11 m21 m31 m51 "LookupError.__new__")) (xs1:PySem.W.findIn K (.ref C1) "__setattr__"=some (some (.builtin "object.__setattr__"))) (xg1:PySem.W.findIn K (.ref C1) "__getattribute__"=some (some (.builtin "BaseException.__getattribute__"))) (xh1:PySem.W.findIn K (.ref C1) "__getattr__"=some none) (xf1:PySem.W.findIn K (.ref C1) "seat"=some none) (xi1:PySem.W.findIn K (.ref C1) "__init__"=some (some (.ref I1))) (xt1:PySem.W.typeIn K (.ref I1)=some (.type "function")) (xk1:PySem.W.keepIn K (.ref C1)=true) (xc1:PySem.W.findIn K (.ref C1) "__class__"=some (some (.builtin "object.__class__")))
  (yl1:K.lookup I1=some ⟨afs,afp,.func (PySem.W.fnOf "__init__" "NoSeat.__init__" (defArgs jL) (defBody jL) (defScope jL) .none aft afu afv afq ac0 afw),afr⟩) (yc1:PySem.W.codeIn K ac0 "NoSeat.__init__"=true) (yk1:PySem.W.keepIn K (.ref I1)=true)
  (xa2:PySem.W.nsIn K mainGlobals "NoNumber"=some (some (.ref C2))) (xl2:K.lookup C2=some (excClassObj "NoNumber" q2 C2 N2 bs2 [.type "LookupError",.type "Exception",.type "BaseException",.type "object"] true sn2 sb2 ab2 co2 de2 m02 m12 m22 m32 m52 "LookupError.__new__")) (xs2:PySem.W.findIn K (.ref C2) "__setattr__"=some (some (.builtin "object.__setattr__"))) (xg2:PySem.W.findIn K (.ref C2) "__getattribute__"=some (some (.builtin "BaseException.__getattribute__"))) (xh2:PySem.W.findIn K (.ref C2) "__getattr__"=some none) (xf2:PySem.W.findIn K (.ref C2) "number"=some none) (xi2:PySem.W.findIn K (.ref C2) "__init__"=some (some (.ref I2))) (xt2:PySem.W.typeIn K (.ref I2)=some (.type "function")) (xk2:PySem.W.keepIn K (.ref C2)=true) (xc2:PySem.W.findIn K (.ref C2) "__class__"=some (some (.builtin "object.__class__")))
  (yl2:K.lookup I2=some ⟨afA,afx,.func (PySem.W.fnOf "__init__" "NoNumber.__init__" (defArgs jM) (defBody jM) (defScope jM) .none afB afC afD afy ac1 afE),afz⟩) (yc2:PySem.W.codeIn K ac1 "NoNumber.__init__"=true) (yk2:PySem.W.keepIn K (.ref I2)=true)
  (xa3:PySem.W.nsIn K mainGlobals "NoDeed"=some (some (.ref C3))) (xl3:K.lookup C3=some (excClassObj "NoDeed" q3 C3 N3 bs3 [.type "LookupError",.type "Exception",.type "BaseException",.type "object"] true sn3 sb3 ab3 co3 de3 m03 m13 m23 m33 m53 "LookupError.__new__")) (xs3:PySem.W.findIn K (.ref C3) "__setattr__"=some (some (.builtin "object.__setattr__"))) (xg3:PySem.W.findIn K (.ref C3) "__getattribute__"=some (some (.builtin "BaseException.__getattribute__"))) (xh3:PySem.W.findIn K (.ref C3) "__getattr__"=some none) (xf3:PySem.W.findIn K (.ref C3) "many"=some none) (xi3:PySem.W.findIn K (.ref C3) "__init__"=some (some (.ref I3))) (xt3:PySem.W.typeIn K (.ref I3)=some (.type "function")) (xk3:PySem.W.keepIn K (.ref C3)=true) (xc3:PySem.W.findIn K (.ref C3) "__class__"=some (some (.builtin "object.__class__")))
  (yl3:K.lookup I3=some ⟨afI,afF,.func (PySem.W.fnOf "__init__" "NoDeed.__init__" (defArgs jN) (defBody jN) (defScope jN) .none afJ afK afL afG ac2 afM),afH⟩) (yc3:PySem.W.codeIn K ac2 "NoDeed.__init__"=true) (yk3:PySem.W.keepIn K (.ref I3)=true)
  (xa4:PySem.W.nsIn K mainGlobals "OtherPeople"=some (some (.ref C4))) (xl4:K.lookup C4=some (excClassObj "OtherPeople" q4 C4 N4 bs4 [.type "ValueError",.type "Exception",.type "BaseException",.type "object"] true sn4 sb4 ab4 co4 de4 m04 m14 m24 m34 m54 "ValueError.__new__")) (xs4:PySem.W.findIn K (.ref C4) "__setattr__"=some (some (.builtin "object.__setattr__"))) (xg4:PySem.W.findIn K (.ref C4) "__getattribute__"=some (some (.builtin "BaseException.__getattribute__"))) (xh4:PySem.W.findIn K (.ref C4) "__getattr__"=some none) (xf4:PySem.W.findIn K (.ref C4) "many"=some none) (xi4:PySem.W.findIn K (.ref C4) "__init__"=some (some (.ref I4))) (xt4:PySem.W.typeIn K (.ref I4)=some (.type "function")) (xk4:PySem.W.keepIn K (.ref C4)=true) (xc4:PySem.W.findIn K (.ref C4) "__class__"=some (some (.builtin "object.__class__")))
  (yl4:K.lookup I4=some ⟨afQ,afN,.func (PySem.W.fnOf "__init__" "OtherPeople.__init__" (defArgs jO) (defBody jO) (defScope jO) .none afR afS afT afO ac3 afU),afP⟩) (yc4:PySem.W.codeIn K ac3 "OtherPeople.__init__"=true) (yk4:PySem.W.keepIn K (.ref I4)=true)
  (xa5:PySem.W.nsIn K mainGlobals "BadDeed"=some (some (.ref C5))) (xl5:K.lookup C5=some (excClassObj "BadDeed" q5 C5 N5 bs5 [.type "ValueError",.type "Exception",.type "BaseException",.type "object"] true sn5 sb5 ab5 co5 de5 m05 m15 m25 m35 m55 "ValueError.__new__")) (xs5:PySem.W.findIn K (.ref C5) "__setattr__"=some (some (.builtin "object.__setattr__"))) (xg5:PySem.W.findIn K (.ref C5) "__getattribute__"=some (some (.builtin "BaseException.__getattribute__"))) (xh5:PySem.W.findIn K (.ref C5) "__getattr__"=some none) (xf5:PySem.W.findIn K (.ref C5) "at"=some none) (xi5:PySem.W.findIn K (.ref C5) "__init__"=some (some (.ref I5))) (xt5:PySem.W.typeIn K (.ref I5)=some (.type "function")) (xk5:PySem.W.keepIn K (.ref C5)=true) (xc5:PySem.W.findIn K (.ref C5) "__class__"=some (some (.builtin "object.__class__")))
  (yl5:K.lookup I5=some ⟨afY,afV,.func (PySem.W.fnOf "__init__" "BadDeed.__init__" (defArgs jP) (defBody jP) (defScope jP) .none afZ af0 af2 afW ac4 af3),afX⟩) (yc5:PySem.W.codeIn K ac4 "BadDeed.__init__"=true) (yk5:PySem.W.keepIn K (.ref I5)=true)
  (xa6:PySem.W.nsIn K mainGlobals "BadText"=some (some (.ref C6))) (xl6:K.lookup C6=some (excClassObj "BadText" q6 C6 N6 bs6 [.type "ValueError",.type "Exception",.type "BaseException",.type "object"] true sn6 sb6 ab6 co6 de6 m06 m16 m26 m36 m56 "ValueError.__new__")) (xs6:PySem.W.findIn K (.ref C6) "__setattr__"=some (some (.builtin "object.__setattr__"))) (xg6:PySem.W.findIn K (.ref C6) "__getattribute__"=some (some (.builtin "BaseException.__getattribute__"))) (xh6:PySem.W.findIn K (.ref C6) "__getattr__"=some none) (xf6:PySem.W.findIn K (.ref C6) "text"=some none) (xi6:PySem.W.findIn K (.ref C6) "__init__"=some (some (.ref I6))) (xt6:PySem.W.typeIn K (.ref I6)=some (.type "function")) (xk6:PySem.W.keepIn K (.ref C6)=true) (xc6:PySem.W.findIn K (.ref C6) "__class__"=some (some (.builtin "object.__class__")))
  (yl6:K.lookup I6=some ⟨af7,af4,.func (PySem.W.fnOf "__init__" "BadText.__init__" (defArgs jQ) (defBody jQ) (defScope jQ) .none af8 af9 aga af5 ac5 agb),af6⟩) (yc6:PySem.W.codeIn K ac5 "BadText.__init__"=true) (yk6:PySem.W.keepIn K (.ref I6)=true)
  (xa7:PySem.W.nsIn K mainGlobals "BadLine"=some (some (.ref C7))) (xl7:K.lookup C7=some (excClassObj "BadLine" q7 C7 N7 bs7 [.type "ValueError",.type "Exception",.type "BaseException",.type "object"] true sn7 sb7 ab7 co7 de7 m07 m17 m27 m37 m57 "ValueError.__new__")) (xs7:PySem.W.findIn K (.ref C7) "__setattr__"=some (some (.builtin "object.__setattr__"))) (xg7:PySem.W.findIn K (.ref C7) "__getattribute__"=some (some (.builtin "BaseException.__getattribute__"))) (xh7:PySem.W.findIn K (.ref C7) "__getattr__"=some none) (xf7:PySem.W.findIn K (.ref C7) "at"=some none) (xi7:PySem.W.findIn K (.ref C7) "__init__"=some (some (.ref I7))) (xt7:PySem.W.typeIn K (.ref I7)=some (.type "function")) (xk7:PySem.W.keepIn K (.ref C7)=true) (xc7:PySem.W.findIn K (.ref C7) "__class__"=some (some (.builtin "object.__class__")))
  (yl7:K.lookup I7=some ⟨agg,agc,.func (PySem.W.fnOf "__init__" "BadLine.__init__" (defArgs jR) (defBody jR) (defScope jR) .none agh agi agj agd ac6 agk),agf⟩) (yc7:PySem.W.codeIn K ac6 "BadLine.__init__"=true) (yk7:PySem.W.keepIn K (.ref I7)=true)
  (xa8:PySem.W.nsIn K mainGlobals "Empty"=some (some (.ref C8))) (xl8:K.lookup C8=some (excClassObj "Empty" q8 C8 N8 bs8 [.type "RuntimeError",.type "Exception",.type "BaseException",.type "object"] true sn8 sb8 ab8 co8 de8 m08 m18 m28 m38 m58 "RuntimeError.__new__")) (xs8:PySem.W.findIn K (.ref C8) "__setattr__"=some (some (.builtin "object.__setattr__"))) (xg8:PySem.W.findIn K (.ref C8) "__getattribute__"=some (some (.builtin "BaseException.__getattribute__"))) (xh8:PySem.W.findIn K (.ref C8) "__getattr__"=some none) (xf8:PySem.W.findIn K (.ref C8) "person"=some none) (xi8:PySem.W.findIn K (.ref C8) "__init__"=some (some (.ref I8))) (xt8:PySem.W.typeIn K (.ref I8)=some (.type "function")) (xk8:PySem.W.keepIn K (.ref C8)=true) (xc8:PySem.W.findIn K (.ref C8) "__class__"=some (some (.builtin "object.__class__")))
  (yl8:K.lookup I8=some ⟨ago,agl,.func (PySem.W.fnOf "__init__" "Empty.__init__" (defArgs jT) (defBody jT) (defScope jT) .none agp agq agr agm ac7 ags),agn⟩) (yc8:PySem.W.codeIn K ac7 "Empty.__init__"=true) (yk8:PySem.W.keepIn K (.ref I8)=true)
  (xa9:PySem.W.nsIn K mainGlobals "Barred"=some (some (.ref C9))) (xl9:K.lookup C9=some (excClassObj "Barred" q9 C9 N9 bs9 [.type "RuntimeError",.type "Exception",.type "BaseException",.type "object"] true sn9 sb9 ab9 co9 de9 m09 m19 m29 m39 m59 "RuntimeError.__new__")) (xs9:PySem.W.findIn K (.ref C9) "__setattr__"=some (some (.builtin "object.__setattr__"))) (xg9:PySem.W.findIn K (.ref C9) "__getattribute__"=some (some (.builtin "BaseException.__getattribute__"))) (xh9:PySem.W.findIn K (.ref C9) "__getattr__"=some none) (xf9:PySem.W.findIn K (.ref C9) "reason"=some none) (xi9:PySem.W.findIn K (.ref C9) "__init__"=some (some (.ref I9))) (xt9:PySem.W.typeIn K (.ref I9)=some (.type "function")) (xk9:PySem.W.keepIn K (.ref C9)=true) (xc9:PySem.W.findIn K (.ref C9) "__class__"=some (some (.builtin "object.__class__")))
  (yl9:K.lookup I9=some ⟨agw,agt,.func (PySem.W.fnOf "__init__" "Barred.__init__" (defArgs jU) (defBody jU) (defScope jU) .none agx agy agz agu ac8 agA),agv⟩) (yc9:PySem.W.codeIn K ac8 "Barred.__init__"=true) (yk9:PySem.W.keepIn K (.ref I9)=true)
  (Ke:PySem.W.nsIn K mainGlobals "Stops"=some (some (.ref C10))) (Zm:K.lookup C10=some (excClassObj "Stops" q10 C10 N10 agB [.type "RuntimeError",.type "Exception",.type "BaseException",.type "object"] true agC agD agE agF agG agH agI agJ agK agL "RuntimeError.__new__")) (Zo:PySem.W.findIn K (.ref C10) "__setattr__"=some (some (.builtin "object.__setattr__"))) (Zq:PySem.W.findIn K (.ref C10) "__getattribute__"=some (some (.builtin "BaseException.__getattribute__"))) (Zr:PySem.W.findIn K (.ref C10) "__getattr__"=some none) (xf10:PySem.W.findIn K (.ref C10) "many"=some none) (Zt:PySem.W.findIn K (.ref C10) "__init__"=some (some (.ref I10))) (Zu:PySem.W.typeIn K (.ref I10)=some (.type "function")) (Zv:PySem.W.keepIn K (.ref C10)=true) (Zw:PySem.W.findIn K (.ref C10) "__class__"=some (some (.builtin "object.__class__")))
  (Zx:K.lookup I10=some ⟨ade,ac9,.func (PySem.W.fnOf "__init__" "Stops.__init__" (defArgs gU) (defBody gU) (defScope gU) .none adf adg adh ada Xb adi),adb⟩) (Zy:PySem.W.codeIn K Xb "Stops.__init__"=true) (Zz:PySem.W.keepIn K (.ref I10)=true)
  (Kf:PySem.W.nsIn K mainGlobals "Few"=some (some (.ref C11))) (ZC:K.lookup C11=some (excClassObj "Few" q11 C11 N11 agM [.type "RuntimeError",.type "Exception",.type "BaseException",.type "object"] true agN agO agP agQ agR agS agT agU agV agW "RuntimeError.__new__")) (ZD:PySem.W.findIn K (.ref C11) "__setattr__"=some (some (.builtin "object.__setattr__"))) (ZG:PySem.W.findIn K (.ref C11) "__getattribute__"=some (some (.builtin "BaseException.__getattribute__"))) (ZJ:PySem.W.findIn K (.ref C11) "__getattr__"=some none) (ZK:PySem.W.findIn K (.ref C11) ""=some none) (ZL:PySem.W.findIn K (.ref C11) "__init__"=some (some (.ref I11))) (ZM:PySem.W.typeIn K (.ref I11)=some (.type "function")) (ZP:PySem.W.keepIn K (.ref C11)=true) (ZQ:PySem.W.findIn K (.ref C11) "__class__"=some (some (.builtin "object.__class__")))
  (ZR:K.lookup I11=some ⟨ado,adk,.func (PySem.W.fnOf "__init__" "Few.__init__" (defArgs ju) (defBody ju) (defScope ju) .none adp adq adt adl Xc adu),adn⟩) (ZS:PySem.W.codeIn K Xc "Few.__init__"=true) (ZV:PySem.W.keepIn K (.ref I11)=true)
  (Kg:PySem.W.nsIn K mainGlobals "TooMany"=some (some (.ref C12))) (Z0:K.lookup C12=some (excClassObj "TooMany" q12 C12 N12 agX [.type "OverflowError",.type "ArithmeticError",.type "Exception",.type "BaseException",.type "object"] true agY agZ ag0 ag1 ag3 ag4 ag5 ag6 ag7 ag8 "OverflowError.__new__")) (Z4:PySem.W.findIn K (.ref C12) "__setattr__"=some (some (.builtin "object.__setattr__"))) (Z5:PySem.W.findIn K (.ref C12) "__getattribute__"=some (some (.builtin "BaseException.__getattribute__"))) (Z6:PySem.W.findIn K (.ref C12) "__getattr__"=some none) (Z7:PySem.W.findIn K (.ref C12) "many"=some none) (Z8:PySem.W.findIn K (.ref C12) "__init__"=some (some (.ref I12))) (Z9:PySem.W.typeIn K (.ref I12)=some (.type "function")) (aac:PySem.W.keepIn K (.ref C12)=true) (aad:PySem.W.findIn K (.ref C12) "__class__"=some (some (.builtin "object.__class__")))
  (aae:K.lookup I12=some ⟨adz,adw,.func (PySem.W.fnOf "__init__" "TooMany.__init__" (defArgs gW) (defBody gW) (defScope gW) .none adA adB adC adx Xd adD),ady⟩) (aaf:PySem.W.codeIn K Xd "TooMany.__init__"=true) (aag:PySem.W.keepIn K (.ref I12)=true)
  (Kh:PySem.W.nsIn K mainGlobals "Full"=some (some (.ref C13))) (aah:K.lookup C13=some (excClassObj "Full" q13 C13 N13 ag9 [.type "OverflowError",.type "ArithmeticError",.type "Exception",.type "BaseException",.type "object"] true aha ahb ahc ahd ahe ahf ahg ahh ahi ahj "OverflowError.__new__")) (aai:PySem.W.findIn K (.ref C13) "__setattr__"=some (some (.builtin "object.__setattr__"))) (aaj:PySem.W.findIn K (.ref C13) "__getattribute__"=some (some (.builtin "BaseException.__getattribute__"))) (aak:PySem.W.findIn K (.ref C13) "__getattr__"=some none) (aal:PySem.W.findIn K (.ref C13) "many"=some none) (aam:PySem.W.findIn K (.ref C13) "__init__"=some (some (.ref I13))) (aan:PySem.W.typeIn K (.ref I13)=some (.type "function")) (aao:PySem.W.keepIn K (.ref C13)=true) (aap:PySem.W.findIn K (.ref C13) "__class__"=some (some (.builtin "object.__class__")))
  (aaq:K.lookup I13=some ⟨adH,adE,.func (PySem.W.fnOf "__init__" "Full.__init__" (defArgs gY) (defBody gY) (defScope gY) .none adI adJ adK adF Xe adL),adG⟩) (aar:PySem.W.codeIn K Xe "Full.__init__"=true) (aas:PySem.W.keepIn K (.ref I13)=true)
  (g8:PySem.W.nsIn K mainGlobals "KeyError"=some none)
  (bM:PySem.W.nsIn K mainGlobals "LookupError"=some none)
  (bK:PySem.W.nsIn K mainGlobals "NotImplementedError"=some none)
  (bU:PySem.W.nsIn K mainGlobals "OverflowError"=some none)
  (bD:PySem.W.nsIn K mainGlobals "RuntimeError"=some none)
  (bY:PySem.W.nsIn K mainGlobals "ValueError"=some none)
  (Bq:PySem.W.nsIn K mainGlobals "abs"=some none)
  (vB:PySem.W.nsIn K mainGlobals "all"=some none)
  (lD:PySem.W.nsIn K mainGlobals "bool"=some none)
  (fB:PySem.W.nsIn K mainGlobals "enumerate"=some none)
  (Br:PySem.W.nsIn K mainGlobals "int"=some none)
  (aG:PySem.W.nsIn K mainGlobals "isinstance"=some none)
  (vC:PySem.W.nsIn K mainGlobals "len"=some none)
  (nA:PySem.W.nsIn K mainGlobals "list"=some none)
  (lW:PySem.W.nsIn K mainGlobals "range"=some none)
  (vD:PySem.W.nsIn K mainGlobals "str"=some none)
  (jV:PySem.W.nsIn K mainGlobals "tuple"=some none)
  (Bt:PySem.W.nsIn K mainGlobals "zip"=some none)
  (k:Nat):∃fd:FuncData,(∀(s:Shared) (v:Value),BindsTo s fd ⟨[v],[]⟩ [("_law_script",v)])∧∀base:Heap,K.In base→base.Ns mainGlobals mg→mH P w K mg base (k+2) fa fd ["_law_script"] (nM K 1 [] [2] (j6 K) (call k 5)):=by
 have e:=hfa.symm.trans (PySem.W.mg_of X G a5)
 cases e
 let fA:Nat→Addr:=fun i=>match i with | 0=>f0 | 1=>f1 | 2=>f2 | 3=>f3 | 4=>f4 | _=>fa
 let fD:Nat→FuncData:=fun i=>match i with | 0=>(PySem.W.fnOf "_law_same" "_law_same" (defArgs bQ) (defBody bQ) (defScope bQ) .none kV0 dc0 pm0 an0 cd0 ct0) | 1=>(PySem.W.fnOf "_law_bases" "_law_bases" (defArgs bh) (defBody bh) (defScope bh) .none kV1 dc1 pm1 an1 cd1 ct1) | 2=>(PySem.W.fnOf "_law_kinds" "_law_kinds" (defArgs bx) (defBody bx) (defScope bx) .none kV2 dc2 pm2 an2 cd2 ct2) | 3=>(PySem.W.fnOf "_law_all_right" "_law_all_right" (defArgs aM) (defBody aM) (defScope aM) .none kV3 dc3 pm3 an3 cd3 ct3) | 4=>(PySem.W.fnOf "_law_right" "_law_right" (defArgs bB) (defBody bB) (defScope bB) .none kV4 dc4 pm4 an4 cd4 ct4) | _=>(PySem.W.fnOf "law" "law" (defArgs jt) (defBody jt) (defScope jt) .none kV5 dc5 pm5 an5 cd5 ct5)
 refine ⟨(PySem.W.fnOf "law" "law" (defArgs jt) (defBody jt) (defScope jt) .none kV5 dc5 pm5 an5 cd5 ct5),fun s v=>.of_eq rfl,fun base _ _=>?_⟩
 have ow0:Own K C0 I0 (aV 0) (fL 0) "LookupError" "LookupError.__new__" "LookupError.__init__" _:=dX xl0 (by decide +kernel) xs0 xg0 xh0 xf0 xi0 xt0 xk0 xc0 (wB K)
 have ow1:Own K C1 I1 (aV 1) (fL 1) "LookupError" "LookupError.__new__" "LookupError.__init__" _:=dX xl1 (by decide +kernel) xs1 xg1 xh1 xf1 xi1 xt1 xk1 xc1 (wB K)
 have ow2:Own K C2 I2 (aV 2) (fL 2) "LookupError" "LookupError.__new__" "LookupError.__init__" _:=dX xl2 (by decide +kernel) xs2 xg2 xh2 xf2 xi2 xt2 xk2 xc2 (wB K)
 have ow3:Own K C3 I3 (aV 3) (fL 3) "LookupError" "LookupError.__new__" "LookupError.__init__" _:=dX xl3 (by decide +kernel) xs3 xg3 xh3 xf3 xi3 xt3 xk3 xc3 (wB K)
 have ow4:Own K C4 I4 (aV 4) (fL 4) "ValueError" "ValueError.__new__" "ValueError.__init__" _:=dX xl4 (by decide +kernel) xs4 xg4 xh4 xf4 xi4 xt4 xk4 xc4 (wC K)
 have ow5:Own K C5 I5 (aV 5) (fL 5) "ValueError" "ValueError.__new__" "ValueError.__init__" _:=dX xl5 (by decide +kernel) xs5 xg5 xh5 xf5 xi5 xt5 xk5 xc5 (wC K)
 have ow6:Own K C6 I6 (aV 6) (fL 6) "ValueError" "ValueError.__new__" "ValueError.__init__" _:=dX xl6 (by decide +kernel) xs6 xg6 xh6 xf6 xi6 xt6 xk6 xc6 (wC K)
 have ow7:Own K C7 I7 (aV 7) (fL 7) "ValueError" "ValueError.__new__" "ValueError.__init__" _:=dX xl7 (by decide +kernel) xs7 xg7 xh7 xf7 xi7 xt7 xk7 xc7 (wC K)
 have ow8:Own K C8 I8 (aV 8) (fL 8) "RuntimeError" "RuntimeError.__new__" "RuntimeError.__init__" _:=dX xl8 (by decide +kernel) xs8 xg8 xh8 xf8 xi8 xt8 xk8 xc8 (wD K)
 have ow9:Own K C9 I9 (aV 9) (fL 9) "RuntimeError" "RuntimeError.__new__" "RuntimeError.__init__" _:=dX xl9 (by decide +kernel) xs9 xg9 xh9 xf9 xi9 xt9 xk9 xc9 (wD K)
 have adM:Own K C10 I10 (aV 10) (fL 10) "RuntimeError" "RuntimeError.__new__" "RuntimeError.__init__" _:=dX Zm (by decide +kernel) Zo Zq Zr xf10 Zt Zu Zv Zw (wD K)
 have adN:Own K C11 I11 (aV 11) (fL 11) "RuntimeError" "RuntimeError.__new__" "RuntimeError.__init__" _:=dX ZC (by decide +kernel) ZD ZG ZJ ZK ZL ZM ZP ZQ (wD K)
 have adP:Own K C12 I12 (aV 12) (fL 12) "OverflowError" "OverflowError.__new__" "OverflowError.__init__" _:=dX Z0 (by decide +kernel) Z4 Z5 Z6 Z7 Z8 Z9 aac aad (O9 K)
 have adQ:Own K C13 I13 (aV 13) (fL 13) "OverflowError" "OverflowError.__new__" "OverflowError.__init__" _:=dX aah (by decide +kernel) aai aaj aak aal aam aan aao aap (O9 K)
 have adR:Fun K "__init__" "Few.__init__" ju I11 _:=fun_mk ZR ZS ZV
 have aje:=adR.binds (ps:=["self"]) fun _ _ _ _ _ _ us hl=>match us,hl with | [_],_=>rfl
 have fu0:Fun K "__init__" "NoPerson.__init__" jK I0 _:=fun_mk yl0 yc0 yk0
 have bi0:=fu0.binds (ps:=["self",aV 0]) fun _ _ _ _ _ _ us hl=>match us,hl with | [_,_],_=>rfl
 have fu1:Fun K "__init__" "NoSeat.__init__" jL I1 _:=fun_mk yl1 yc1 yk1
 have bi1:=fu1.binds (ps:=["self",aV 1]) fun _ _ _ _ _ _ us hl=>match us,hl with | [_,_],_=>rfl
 have fu2:Fun K "__init__" "NoNumber.__init__" jM I2 _:=fun_mk yl2 yc2 yk2
 have bi2:=fu2.binds (ps:=["self",aV 2]) fun _ _ _ _ _ _ us hl=>match us,hl with | [_,_],_=>rfl
 have fu3:Fun K "__init__" "NoDeed.__init__" jN I3 _:=fun_mk yl3 yc3 yk3
 have bi3:=fu3.binds (ps:=["self",aV 3]) fun _ _ _ _ _ _ us hl=>match us,hl with | [_,_],_=>rfl
 have fu4:Fun K "__init__" "OtherPeople.__init__" jO I4 _:=fun_mk yl4 yc4 yk4
 have bi4:=fu4.binds (ps:=["self",aV 4]) fun _ _ _ _ _ _ us hl=>match us,hl with | [_,_],_=>rfl
 have fu5:Fun K "__init__" "BadDeed.__init__" jP I5 _:=fun_mk yl5 yc5 yk5
 have bi5:=fu5.binds (ps:=["self",aV 5]) fun _ _ _ _ _ _ us hl=>match us,hl with | [_,_],_=>rfl
 have fu6:Fun K "__init__" "BadText.__init__" jQ I6 _:=fun_mk yl6 yc6 yk6
 have bi6:=fu6.binds (ps:=["self",aV 6]) fun _ _ _ _ _ _ us hl=>match us,hl with | [_,_],_=>rfl
 have fu7:Fun K "__init__" "BadLine.__init__" jR I7 _:=fun_mk yl7 yc7 yk7
 have bi7:=fu7.binds (ps:=["self",aV 7]) fun _ _ _ _ _ _ us hl=>match us,hl with | [_,_],_=>rfl
 have fu8:Fun K "__init__" "Empty.__init__" jT I8 _:=fun_mk yl8 yc8 yk8
 have bi8:=fu8.binds (ps:=["self",aV 8]) fun _ _ _ _ _ _ us hl=>match us,hl with | [_,_],_=>rfl
 have fu9:Fun K "__init__" "Barred.__init__" jU I9 _:=fun_mk yl9 yc9 yk9
 have bi9:=fu9.binds (ps:=["self",aV 9]) fun _ _ _ _ _ _ us hl=>match us,hl with | [_,_],_=>rfl
 have aat:Fun K "__init__" "Stops.__init__" gU I10 _:=fun_mk Zx Zy Zz
 have ajp:=aat.binds (ps:=["self",aV 10]) fun _ _ _ _ _ _ us hl=>match us,hl with | [_,_],_=>rfl
 have aau:Fun K "__init__" "TooMany.__init__" gW I12 _:=fun_mk aae aaf aag
 have ajq:=aau.binds (ps:=["self",aV 12]) fun _ _ _ _ _ _ us hl=>match us,hl with | [_,_],_=>rfl
 have aav:Fun K "__init__" "Full.__init__" gY I13 _:=fun_mk aaq aar aas
 have ajr:=aav.binds (ps:=["self",aV 13]) fun _ _ _ _ _ _ us hl=>match us,hl with | [_,_],_=>rfl
 have E:Facts ⟨P,w,K,mg,base⟩ fA fD:=⟨fun_mk l0 c0 k0,PySem.W.mg_of X G a0,k0,fun_mk l1 c1 k1,PySem.W.mg_of X G a1,k1,fun_mk l2 c2 k2,PySem.W.mg_of X G a2,k2,fun_mk l3 c3 k3,PySem.W.mg_of X G a3,k3,fun_mk l4 c4 k4,PySem.W.mg_of X G a4,k4,fun_mk l5 c5 k5,PySem.W.mg_of X G a5,k5,⟨_,_,_,_,_,_,PySem.W.mg_of X G xa0,bH xa0,ow0,by decide +kernel,by decide +kernel⟩,⟨_,_,_,_,_,_,PySem.W.mg_of X G xa1,bH xa1,ow1,by decide +kernel,by decide +kernel⟩,⟨_,_,_,_,_,_,PySem.W.mg_of X G xa2,bH xa2,ow2,by decide +kernel,by decide +kernel⟩,⟨_,_,_,_,_,_,PySem.W.mg_of X G xa3,bH xa3,ow3,by decide +kernel,by decide +kernel⟩,⟨_,_,_,_,_,_,PySem.W.mg_of X G xa4,bH xa4,ow4,by decide +kernel,by decide +kernel⟩,⟨_,_,_,_,_,_,PySem.W.mg_of X G xa5,bH xa5,ow5,by decide +kernel,by decide +kernel⟩,⟨_,_,_,_,_,_,PySem.W.mg_of X G xa6,bH xa6,ow6,by decide +kernel,by decide +kernel⟩,⟨_,_,_,_,_,_,PySem.W.mg_of X G xa7,bH xa7,ow7,by decide +kernel,by decide +kernel⟩,⟨_,_,_,_,_,_,PySem.W.mg_of X G xa8,bH xa8,ow8,by decide +kernel,by decide +kernel⟩,⟨_,_,_,_,_,_,PySem.W.mg_of X G xa9,bH xa9,ow9,by decide +kernel,by decide +kernel⟩,⟨_,_,_,_,_,_,PySem.W.mg_of X G Ke,bH Ke,adM,by decide +kernel,by decide +kernel⟩,⟨_,_,_,_,_,_,PySem.W.mg_of X G Kf,bH Kf,adN,by decide +kernel,by decide +kernel⟩,⟨_,_,_,_,_,_,PySem.W.mg_of X G Kg,bH Kg,adP,by decide +kernel,by decide +kernel⟩,⟨_,_,_,_,_,_,PySem.W.mg_of X G Kh,bH Kh,adQ,by decide +kernel,by decide +kernel⟩,⟨_,_,_,_,_,_,_,_,_,PySem.W.mg_of X G Kf,bH Kf,Ge,adN,adR,JZ,J8,PySem.W.mg_none_of X G bD,aje⟩,⟨_,_,_,_,_,_,_,_,_,_,PySem.W.mg_of X G xa0,bH xa0,FW,ow0,fu0,Q7,Q8,PySem.W.mg_none_of X G bM,bi0,Ry fu0⟩,⟨_,_,_,_,_,_,_,_,_,_,PySem.W.mg_of X G xa1,bH xa1,FW,ow1,fu1,Q9,Ra,PySem.W.mg_none_of X G bM,bi1,Rz fu1⟩,⟨_,_,_,_,_,_,_,_,_,_,PySem.W.mg_of X G xa2,bH xa2,FW,ow2,fu2,Rb,Rc,PySem.W.mg_none_of X G bM,bi2,RB fu2⟩,⟨_,_,_,_,_,_,_,_,_,_,PySem.W.mg_of X G xa3,bH xa3,FW,ow3,fu3,Rf,Rg,PySem.W.mg_none_of X G bM,bi3,RG fu3⟩,⟨_,_,_,_,_,_,_,_,_,_,PySem.W.mg_of X G xa4,bH xa4,FZ,ow4,fu4,Rh,Ri,PySem.W.mg_none_of X G bY,bi4,RJ fu4⟩,⟨_,_,_,_,_,_,_,_,_,_,PySem.W.mg_of X G xa5,bH xa5,FZ,ow5,fu5,Rj,Rk,PySem.W.mg_none_of X G bY,bi5,RK fu5⟩,⟨_,_,_,_,_,_,_,_,_,_,PySem.W.mg_of X G xa6,bH xa6,FZ,ow6,fu6,Rm,Ro,PySem.W.mg_none_of X G bY,bi6,RL fu6⟩,⟨_,_,_,_,_,_,_,_,_,_,PySem.W.mg_of X G xa7,bH xa7,FZ,ow7,fu7,Rq,Rr,PySem.W.mg_none_of X G bY,bi7,RM fu7⟩,⟨_,_,_,_,_,_,_,_,_,_,PySem.W.mg_of X G xa8,bH xa8,Ge,ow8,fu8,Ru,Rv,PySem.W.mg_none_of X G bD,bi8,RN fu8⟩,⟨_,_,_,_,_,_,_,_,_,_,PySem.W.mg_of X G xa9,bH xa9,Ge,ow9,fu9,Rw,Rx,PySem.W.mg_none_of X G bD,bi9,RP fu9⟩,⟨_,_,_,_,_,_,_,_,_,_,PySem.W.mg_of X G Ke,bH Ke,Ge,adM,aat,JH,JM,PySem.W.mg_none_of X G bD,ajp,J9 aat⟩,⟨_,_,_,_,_,_,_,_,_,_,PySem.W.mg_of X G Kg,bH Kg,WL,adP,aau,JQ,JR,PySem.W.mg_none_of X G bU,ajq,Ka aau⟩,⟨_,_,_,_,_,_,_,_,_,_,PySem.W.mg_of X G Kh,bH Kh,WL,adQ,aav,JV,JX,PySem.W.mg_none_of X G bU,ajr,Kc aav⟩,PySem.W.mg_none_of X G g8,PySem.W.mg_none_of X G bM,PySem.W.mg_none_of X G bK,PySem.W.mg_none_of X G bU,PySem.W.mg_none_of X G bD,PySem.W.mg_none_of X G bY,PySem.W.mg_none_of X G Bq,PySem.W.mg_none_of X G vB,PySem.W.mg_none_of X G lD,PySem.W.mg_none_of X G fB,PySem.W.mg_none_of X G Br,PySem.W.mg_none_of X G aG,PySem.W.mg_none_of X G vC,PySem.W.mg_none_of X G nA,PySem.W.mg_none_of X G lW,PySem.W.mg_none_of X G vD,PySem.W.mg_none_of X G jV,PySem.W.mg_none_of X G Bt⟩
 exact (nJ E k).o5
end R4
end
local macro_rules | `(tactic| simp [S_k])=>`(tactic| simp [DM.su,DM.vP,List.map_cons,List.map_nil,List.replicate,List.cons_append,List.nil_append,DM.pH,DM.rZ,DM.yZ,DM.Ef,DM.V3,DM.V4,DM.DY,DM.VR,DM.MJ,DM.abY,DM.V1,DM.Ea,DM.uL,DM.Eb,DM.uM,DM.Ec,DM.Ed,DM.yM,DM.MN,DM.MP,DM.uN,DM.Eh,DM.Ei,DM.yN,DM.M5,DM.M6,DM.uO,DM.Ek,DM.Mz,DM.VH,DM.VJ,DM.VL,DM.MF,DM.VN,DM.VP,DM.yJ,DM.DR,DM.yK,DM.DW,DM.uK,DM.yL,DM.Mx,DM.uP,DM.El,DM.yO,DM.yP,DM.uQ,DM.rW,DM.yQ,DM.Em,DM.V7,DM.M8,DM.yS,DM.yU,DM.V8,DM.V9,DM.Wb,DM.Wc,DM.Wi,DM.Wj,DM.Wk,DM.Cu,DM.Nb,DM.Nf,DM.Eo,DM.Ep,DM.Es,DM.Nh,DM.Et,DM.Eu,DM.yV,DM.abZ,DM.yW,DM.Wm,DM.yX,DM.Nk,DM.za,DM.Yb,DM.zf,DM.Np,DM.Ew,DM.zj,DM.Ey,DM.Ez,DM.EY,DM.Wn,DM.Fb,DM.vU,DM.Fd,DM.Nq,DM.zm,DM.Fe,DM.Fg,DM.uR,DM.Wq,DM.Wr,DM.Ws,DM.Wt,DM.Nu,DM.Nv,DM.Fj,DM.DQ,DM.yI,DM.dF,DM.DP,DM.Ny,DM.Nz,DM.Wu,DM.Wv,DM.Ww,DM.Wx,DM.NK,DM.Fo,DM.Fp,DM.Fq,DM.Wy,Option.map_some,Option.bind_some,Option.join_some,List.getElem?_cons_zero,List.getElem?_cons_succ,List.set_cons_zero,List.set_cons_succ,List.length_cons,List.length_nil])
local macro_rules | `(tactic| simp [S_k,$xs,*])=>`(tactic| simp [DM.su,DM.vP,List.map_cons,List.map_nil,List.replicate,List.cons_append,List.nil_append,DM.pH,DM.rZ,DM.yZ,DM.Ef,DM.V3,DM.V4,DM.DY,DM.VR,DM.MJ,DM.abY,DM.V1,DM.Ea,DM.uL,DM.Eb,DM.uM,DM.Ec,DM.Ed,DM.yM,DM.MN,DM.MP,DM.uN,DM.Eh,DM.Ei,DM.yN,DM.M5,DM.M6,DM.uO,DM.Ek,DM.Mz,DM.VH,DM.VJ,DM.VL,DM.MF,DM.VN,DM.VP,DM.yJ,DM.DR,DM.yK,DM.DW,DM.uK,DM.yL,DM.Mx,DM.uP,DM.El,DM.yO,DM.yP,DM.uQ,DM.rW,DM.yQ,DM.Em,DM.V7,DM.M8,DM.yS,DM.yU,DM.V8,DM.V9,DM.Wb,DM.Wc,DM.Wi,DM.Wj,DM.Wk,DM.Cu,DM.Nb,DM.Nf,DM.Eo,DM.Ep,DM.Es,DM.Nh,DM.Et,DM.Eu,DM.yV,DM.abZ,DM.yW,DM.Wm,DM.yX,DM.Nk,DM.za,DM.Yb,DM.zf,DM.Np,DM.Ew,DM.zj,DM.Ey,DM.Ez,DM.EY,DM.Wn,DM.Fb,DM.vU,DM.Fd,DM.Nq,DM.zm,DM.Fe,DM.Fg,DM.uR,DM.Wq,DM.Wr,DM.Ws,DM.Wt,DM.Nu,DM.Nv,DM.Fj,DM.DQ,DM.yI,DM.dF,DM.DP,DM.Ny,DM.Nz,DM.Wu,DM.Wv,DM.Ww,DM.Wx,DM.NK,DM.Fo,DM.Fp,DM.Fq,DM.Wy,Option.map_some,Option.bind_some,Option.join_some,List.getElem?_cons_zero,List.getElem?_cons_succ,List.set_cons_zero,List.set_cons_succ,List.length_cons,List.length_nil,$xs,*])
section
set_option exponentiation.threshold 10000
namespace R4
open PySem L2 DM
section
variable {cl:Nat→List En→R En}
theorem ajs {z y:Int} {as:List D} (ga:Cg [.fr (.int z)]=↥y) (gm:vR (.fr (.int y)) (.fr (.int 39))=↥(y%39)):(aY dN (aY vR (fJ Cg (aj (bZ 2) ao)) (runC (.int 39))) (runC (.int 1))) [some (.cJ as),none,↥(z)]=.ok (.en (.fr (.int (y%39+1)))) [some (.cJ as),none,↥(z)]:=by
 simp [S_k,ga,gm]
theorem adT {as cs:List D} {X:ak→R Val} (h0:X [some (.cJ as),none,none]=.ok (.en (.ol cs)) [some (.cJ as),none,none]) (gc:dN (.ol cs) (.ol [.int 1])=some (.ol (cs++[.int 1]))):(bV false 1 (aY dN X (aU (aj (runC (.int 1)) ao)))) [some (.cJ as),none,none]=DM.R.ok Fl.nx [some (.cJ as),⇑(.lst (cs++[.int 1])),none]:=by
 simp [S_k,h0,gc]
theorem ajt {z:Int} {as xs:List D} {cl:Nat→List En→R En} {r1:ak} (g1:cl 4 [.fr (.int z)]=.ok (.fr (.bl true)) r1):(bL (cO 1 0 [] [0] (cl 4) (aj (bZ 2) ao) ao)) [some (.cJ as),⇑(.lst xs),↥(z)]=.ok (.en (.fr (.bl true))) [some (.cJ as),⇑(.lst xs),↥(z)]:=by
 have k1:=fun (ρ:ak)=>Yd (L:=[]) (ρ:=ρ) g1
 simp [S_k,k1]
theorem adU {as bs xs:List D} {X:ak→R Val} (h0:X [some (.cJ as),⇑(.lst xs),none]=.ok (.en (.ol bs)) [some (.cJ as),⇑(.lst xs),none]) (al:vO [.ol bs]=⇑(.bl true)):(cR [] (fJ vO (aj X ao))) [some (.cJ as),⇑(.lst xs),none]=.ok (Fl.rt (.fr (.bl true))) [some (.cJ as),⇑(.lst xs),none]:=by
 simp [S_k,h0,al]
end
def jx:R En→Bool
 | .ok (.fr (.bl true)) _=>true
 | _=>false
theorem aO {r:R En} (h:jx r=true):∃ρ,r=.ok (.fr (.bl true)) ρ:=by
 cases r with
 | bad=>cases h
 | exc x ρ=>cases h
 | ok e ρ =>
  cases e with
  | fr d =>
   cases d with
   | bl b =>
    cases b with
    | true=>exact ⟨ρ,rfl⟩
    | false=>cases h
   | _=>cases h
  | _=>cases h
theorem adV:jx (call 59 4 [.fr (.int 1)])=true:=by decide +kernel
theorem adW:jx (call 59 4 [.fr (.int 2)])=true:=by decide +kernel
theorem adX:jx (call 59 4 [.fr (.int 3)])=true:=by decide +kernel
theorem adY:jx (call 59 4 [.fr (.int 4)])=true:=by decide +kernel
theorem adZ:jx (call 59 4 [.fr (.int 5)])=true:=by decide +kernel
theorem ad0:jx (call 59 4 [.fr (.int 6)])=true:=by decide +kernel
theorem ad1:jx (call 59 4 [.fr (.int 7)])=true:=by decide +kernel
theorem ad2:jx (call 59 4 [.fr (.int 8)])=true:=by decide +kernel
theorem ad3:jx (call 59 4 [.fr (.int 9)])=true:=by decide +kernel
theorem aaw:jx (call 59 4 [.fr (.int 10)])=true:=by decide +kernel
theorem aax:jx (call 59 4 [.fr (.int 11)])=true:=by decide +kernel
theorem aay:jx (call 59 4 [.fr (.int 12)])=true:=by decide +kernel
theorem aaz:jx (call 59 4 [.fr (.int 13)])=true:=by decide +kernel
theorem aaA:jx (call 59 4 [.fr (.int 14)])=true:=by decide +kernel
theorem aaB:jx (call 59 4 [.fr (.int 15)])=true:=by decide +kernel
theorem aaC:jx (call 59 4 [.fr (.int 16)])=true:=by decide +kernel
theorem aaD:jx (call 59 4 [.fr (.int 17)])=true:=by decide +kernel
theorem aaE:jx (call 59 4 [.fr (.int 18)])=true:=by decide +kernel
theorem aaF:jx (call 59 4 [.fr (.int 19)])=true:=by decide +kernel
theorem aaG:jx (call 59 4 [.fr (.int 20)])=true:=by decide +kernel
theorem aaH:jx (call 59 4 [.fr (.int 21)])=true:=by decide +kernel
theorem aaI:jx (call 59 4 [.fr (.int 22)])=true:=by decide +kernel
theorem aaJ:jx (call 59 4 [.fr (.int 23)])=true:=by decide +kernel
theorem aaK:jx (call 59 4 [.fr (.int 24)])=true:=by decide +kernel
theorem aaL:jx (call 59 4 [.fr (.int 25)])=true:=by decide +kernel
theorem aaM:jx (call 59 4 [.fr (.int 26)])=true:=by decide +kernel
theorem aaN:jx (call 59 4 [.fr (.int 27)])=true:=by decide +kernel
theorem aaO:jx (call 59 4 [.fr (.int 28)])=true:=by decide +kernel
theorem aaP:jx (call 59 4 [.fr (.int 29)])=true:=by decide +kernel
theorem aaQ:jx (call 59 4 [.fr (.int 30)])=true:=by decide +kernel
theorem aaR:jx (call 59 4 [.fr (.int 31)])=true:=by decide +kernel
theorem aaS:jx (call 59 4 [.fr (.int 32)])=true:=by decide +kernel
theorem aaT:jx (call 59 4 [.fr (.int 33)])=true:=by decide +kernel
theorem aaU:jx (call 59 4 [.fr (.int 34)])=true:=by decide +kernel
theorem aaV:jx (call 59 4 [.fr (.int 35)])=true:=by decide +kernel
theorem aaW:jx (call 59 4 [.fr (.int 36)])=true:=by decide +kernel
theorem aaX:jx (call 59 4 [.fr (.int 37)])=true:=by decide +kernel
theorem aaY:jx (call 59 4 [.fr (.int 38)])=true:=by decide +kernel
theorem aaZ:jx (call 59 4 [.fr (.int 39)])=true:=by decide +kernel
theorem Kl {z:Int} (h1:1≤z) (h2:z≤39):∃ρ,call 59 4 [.fr (.int z)]=.ok (.fr (.bl true)) ρ:=by
 have h:z=1∨z=2∨z=3∨z=4∨z=5∨z=6∨z=7∨z=8∨z=9∨z=10∨z=11∨z=12∨z=13∨z=14∨z=15∨z=16∨z=17∨z=18∨z=19∨z=20∨z=21∨z=22∨z=23∨z=24∨z=25∨z=26∨z=27∨z=28∨z=29∨z=30∨z=31∨z=32∨z=33∨z=34∨z=35∨z=36∨z=37∨z=38∨z=39:=by omega
 rcases h with rfl | rfl | rfl | rfl | rfl | rfl | rfl | rfl | rfl | rfl | rfl | rfl | rfl | rfl | rfl | rfl | rfl | rfl | rfl | rfl | rfl | rfl | rfl | rfl | rfl | rfl | rfl | rfl | rfl | rfl | rfl | rfl | rfl | rfl | rfl | rfl | rfl | rfl | rfl
 ·exact aO adV
 ·exact aO adW
 ·exact aO adX
 ·exact aO adY
 ·exact aO adZ
 ·exact aO ad0
 ·exact aO ad1
 ·exact aO ad2
 ·exact aO ad3
 ·exact aO aaw
 ·exact aO aax
 ·exact aO aay
 ·exact aO aaz
 ·exact aO aaA
 ·exact aO aaB
 ·exact aO aaC
 ·exact aO aaD
 ·exact aO aaE
 ·exact aO aaF
 ·exact aO aaG
 ·exact aO aaH
 ·exact aO aaI
 ·exact aO aaJ
 ·exact aO aaK
 ·exact aO aaL
 ·exact aO aaM
 ·exact aO aaN
 ·exact aO aaO
 ·exact aO aaP
 ·exact aO aaQ
 ·exact aO aaR
 ·exact aO aaS
 ·exact aO aaT
 ·exact aO aaU
 ·exact aO aaV
 ·exact aO aaW
 ·exact aO aaX
 ·exact aO aaY
 ·exact aO aaZ
theorem Vj {cs:List D} (h:cs.length≤1000):dN (.ol cs) (.ol [.int 1])=some (.ol (cs++[.int 1])):=by
 show ((KZ (fun _ _=>true) (fun i j=>i+j) (.ol cs) (.ol [.int 1])).or ((if cs.length+[D.int 1].length≤sizeLine then some (En.ol (cs++[.int 1])) else none).or _))=_
 rw [if_pos (by rw [sizeLine_eq]; simp only [List.length_singleton]; omega)]
 rfl
theorem RQ:∀ns:List Int,ns.length≤63→(∀z∈ns,Builtin.Int.intBits z≤1048576)→∃ρ,call 60 5 [.cJ (ns.map .int)]=.ok (.fr (.bl true)) ρ:=by
 intro ns h1 h2
 have src:(cW (qC (aq 0) rQ (lH (runC (.int 8))))) [some (.cJ (ns.map D.int)),none,none]=.ok ((ns.take 8).map fun z:Int=>D.int z) [some (.cJ (ns.map D.int)),none,none]:=by
  have hg:gSl (.cJ (ns.map D.int)) none (some ((8:Nat):Int))=some (.ol ((ns.take 8).map fun z:Int=>D.int z)):=by
   show some (En.ol (cutD (ns.map D.int) none (some ((8:Nat):Int))))=_
   rw [Yh,List.map_take]
  exact jf (a:=.en (.ol ((ns.take 8).map fun z:Int=>D.int z))) (Od (a:=.en (.cJ (ns.map D.int))) rfl rfl rfl rfl hg) rfl rfl
 have tl:(ns.take 8).length≤8:=by
  rw [List.length_take]
  omega
 have lc1:=tK (own:=[2]) (fg:=cZ (.n 2)) (fe:=(aY dN (aY vR (fJ Cg (aj (bZ 2) ao)) (runC (.int 39))) (runC (.int 1)))) (ρ2:=[some (.cJ (ns.map D.int)),none,none]) (fun z:Int=>D.int z) (fun z:Int=>D.int (tR z%39+1)) (xs:=ns.take 8) src rfl rfl (fun z hz=>⟨_,_,rfl,Oc (ajs rfl (Ye (by decide))),rfl⟩) (by omega) rfl
 have s0:=adT (X:=(gq [2] (cW (qC (aq 0) rQ (lH (runC (.int 8))))) (cZ (.n 2)) gQ (aY dN (aY vR (fJ Cg (aj (bZ 2) ao)) (runC (.int 39))) (runC (.int 1))))) lc1 (Vj (by rw [List.length_map]; omega))
 obtain ⟨zs,hzs⟩:∃zs:List Int,zs=((ns.take 8).map (fun z:Int=>tR z%39+1)++[1]):=⟨_,rfl⟩
 have ez:((ns.take 8).map (fun z:Int=>D.int (tR z%39+1)))++[D.int 1]=zs.map D.int:=by
  rw [hzs,List.map_append,List.map_map]
  rfl
 rw [ez] at s0
 have zr:∀z∈zs,1≤z∧z≤39:=fun z hz=>by
  rw [hzs] at hz
  rcases List.mem_append.mp hz with h | h
  ·obtain ⟨y,_,rfl⟩:=List.mem_map.mp h
   have a:=Int.emod_nonneg (tR y) (show (39:Int)≠0 by decide)
   have b:=Int.emod_lt_of_pos (tR y) (show (0:Int)<39 by decide)
   exact ⟨by omega,by omega⟩
  ·rw [List.mem_singleton.mp h]
   exact ⟨by decide,by decide⟩
 have zl:zs.length≤9:=by
  rw [hzs,List.length_append,List.length_map]
  simp only [List.length_singleton]
  omega
 have lc2:=tK (own:=[2]) (fg:=cZ (.n 2)) (fe:=(bL (cO 1 0 [] [0] (call 59 4) (aj (bZ 2) ao) ao))) (ρ2:=[some (.cJ (ns.map D.int)),⇑(.lst (zs.map D.int)),none]) (fun z:Int=>D.int z) (fun _:Int=>D.bl true) (xs:=zs) (jf (a:=.en (.fr (.lst (zs.map D.int)))) rfl rfl rfl:(cW (aq 1)) [some (.cJ (ns.map D.int)),⇑(.lst (zs.map D.int)),none]=.ok (zs.map fun z:Int=>D.int z) [some (.cJ (ns.map D.int)),⇑(.lst (zs.map D.int)),none]) rfl rfl (fun z hz=>by
  obtain ⟨_,g⟩:=Kl (zr z hz).1 (zr z hz).2
  exact ⟨_,_,rfl,Oc (ajt (cl:=call 59) g),rfl⟩) (by omega) rfl
 have al:vO [.ol (zs.map fun _:Int=>D.bl true)]=⇑(.bl true):=by
  have:=T6 (zs.map fun _=>true)
  rw [List.map_map] at this
  rw [show (zs.map fun _:Int=>D.bl true)=zs.map (D.bl∘fun _=>true) from rfl,this]
  congr 3
  rw [List.all_eq_true]
  intro x hx
  obtain ⟨_,_,rfl⟩:=List.mem_map.mp hx
  rfl
 have s1:=adU (X:=(gq [2] (cW (aq 1)) (cZ (.n 2)) gQ (bL (cO 1 0 [] [0] (call 59 4) (aj (bZ 2) ao) ao)))) lc2 al
 exact ⟨_,Ym (ρ0:=[some (.cJ (ns.map D.int)),none,none]) rfl (T7 s0 s1)⟩
end R4
end
section
open PySem PySem.W PyProof.Rows
set_option maxHeartbeats 0 in
theorem PySem.Challenge.cw_tollround_k91_errors_made_holds : PySem.Challenge.rw_tollround_k91_errors_made.Holds := by
 w_on; o_law; k_head; (case hw=>w_witness2)
 k_fill
 refine DM.TX (l:=PySem.Challenge.rw_tollround_k91_errors_made) (n:=63) (k:=60+2) (x := "_law_script") (L:=[]) (cs:=[2]) (XR:=DM.j6) (run:=R4.call 60 5) rfl (by decide) rfl ⟨rfl,by decide,by decide⟩ (fun w h Y=>PySem.W.kIn_of Y) ?F (fun ns h1 h2=>R4.RQ ns h1 h2)
 case F =>
  intro w mg fa h KX G hmg
  refine' R4.all_mk KX G hmg ?a0 ?l0 ?c0 ?k0 ?a1 ?l1 ?c1 ?k1 ?a2 ?l2 ?c2 ?k2 ?a3 ?l3 ?c3 ?k3 ?a4 ?l4 ?c4 ?k4 ?a5 ?l5 ?c5 ?k5 ?xa0 ?xl0 ?xs0 ?xg0 ?xh0 ?xf0 ?xi0 ?xt0 ?xk0 ?xc0 ?yl0 ?yc0 ?yk0 ?xa1 ?xl1 ?xs1 ?xg1 ?xh1 ?xf1 ?xi1 ?xt1 ?xk1 ?xc1 ?yl1 ?yc1 ?yk1 ?xa2 ?xl2 ?xs2 ?xg2 ?xh2 ?xf2 ?xi2 ?xt2 ?xk2 ?xc2 ?yl2 ?yc2 ?yk2 ?xa3 ?xl3 ?xs3 ?xg3 ?xh3 ?xf3 ?xi3 ?xt3 ?xk3 ?xc3 ?yl3 ?yc3 ?yk3 ?xa4 ?xl4 ?xs4 ?xg4 ?xh4 ?xf4 ?xi4 ?xt4 ?xk4 ?xc4 ?yl4 ?yc4 ?yk4 ?xa5 ?xl5 ?xs5 ?xg5 ?xh5 ?xf5 ?xi5 ?xt5 ?xk5 ?xc5 ?yl5 ?yc5 ?yk5 ?xa6 ?xl6 ?xs6 ?xg6 ?xh6 ?xf6 ?xi6 ?xt6 ?xk6 ?xc6 ?yl6 ?yc6 ?yk6 ?xa7 ?xl7 ?xs7 ?xg7 ?xh7 ?xf7 ?xi7 ?xt7 ?xk7 ?xc7 ?yl7 ?yc7 ?yk7 ?xa8 ?xl8 ?xs8 ?xg8 ?xh8 ?xf8 ?xi8 ?xt8 ?xk8 ?xc8 ?yl8 ?yc8 ?yk8 ?xa9 ?xl9 ?xs9 ?xg9 ?xh9 ?xf9 ?xi9 ?xt9 ?xk9 ?xc9 ?yl9 ?yc9 ?yk9 ?Ke ?Zm ?Zo ?Zq ?Zr ?xf10 ?Zt ?Zu ?Zv ?Zw ?Zx ?Zy ?Zz ?Kf ?ZC ?ZD ?ZG ?ZJ ?ZK ?ZL ?ZM ?ZP ?ZQ ?ZR ?ZS ?ZV ?Kg ?Z0 ?Z4 ?Z5 ?Z6 ?Z7 ?Z8 ?Z9 ?aac ?aad ?aae ?aaf ?aag ?Kh ?aah ?aai ?aaj ?aak ?aal ?aam ?aan ?aao ?aap ?aaq ?aar ?aas ?g8 ?bM ?bK ?bU ?bD ?bY ?Bq ?vB ?lD ?fB ?Br ?aG ?vC ?nA ?lW ?vD ?jV ?Bt 60
  (case a0=>k_is); (case l0=>k_is); (case c0=>k_is); (case k0=>k_is); (case a1=>k_is); (case l1=>k_is); (case c1=>k_is); (case k1=>k_is); (case a2=>k_is); (case l2=>k_is); (case c2=>k_is); (case k2=>k_is); (case a3=>k_is); (case l3=>k_is); (case c3=>k_is); (case k3=>k_is); (case a4=>k_is); (case l4=>k_is); (case c4=>k_is); (case k4=>k_is); (case a5=>k_is); (case l5=>k_is); (case c5=>k_is); (case k5=>k_is); (case xa0=>k_is); (case xl0=>k_is); (case xs0=>k_is); (case xg0=>k_is); (case xh0=>k_is); (case xf0=>k_is); (case xi0=>k_is); (case xt0=>k_is); (case xk0=>k_is); (case xc0=>k_is); (case yl0=>k_is); (case yc0=>k_is); (case yk0=>k_is); (case xa1=>k_is); (case xl1=>k_is); (case xs1=>k_is); (case xg1=>k_is); (case xh1=>k_is); (case xf1=>k_is); (case xi1=>k_is); (case xt1=>k_is); (case xk1=>k_is); (case xc1=>k_is); (case yl1=>k_is); (case yc1=>k_is); (case yk1=>k_is); (case xa2=>k_is); (case xl2=>k_is); (case xs2=>k_is); (case xg2=>k_is); (case xh2=>k_is); (case xf2=>k_is); (case xi2=>k_is); (case xt2=>k_is); (case xk2=>k_is); (case xc2=>k_is); (case yl2=>k_is); (case yc2=>k_is); (case yk2=>k_is); (case xa3=>k_is); (case xl3=>k_is); (case xs3=>k_is); (case xg3=>k_is); (case xh3=>k_is); (case xf3=>k_is); (case xi3=>k_is); (case xt3=>k_is); (case xk3=>k_is); (case xc3=>k_is); (case yl3=>k_is); (case yc3=>k_is); (case yk3=>k_is); (case xa4=>k_is); (case xl4=>k_is); (case xs4=>k_is); (case xg4=>k_is); (case xh4=>k_is); (case xf4=>k_is); (case xi4=>k_is); (case xt4=>k_is); (case xk4=>k_is); (case xc4=>k_is); (case yl4=>k_is); (case yc4=>k_is); (case yk4=>k_is); (case xa5=>k_is); (case xl5=>k_is); (case xs5=>k_is); (case xg5=>k_is); (case xh5=>k_is); (case xf5=>k_is); (case xi5=>k_is); (case xt5=>k_is); (case xk5=>k_is); (case xc5=>k_is); (case yl5=>k_is); (case yc5=>k_is); (case yk5=>k_is); (case xa6=>k_is); (case xl6=>k_is); (case xs6=>k_is); (case xg6=>k_is); (case xh6=>k_is); (case xf6=>k_is); (case xi6=>k_is); (case xt6=>k_is); (case xk6=>k_is); (case xc6=>k_is); (case yl6=>k_is); (case yc6=>k_is); (case yk6=>k_is); (case xa7=>k_is); (case xl7=>k_is); (case xs7=>k_is); (case xg7=>k_is); (case xh7=>k_is); (case xf7=>k_is); (case xi7=>k_is); (case xt7=>k_is); (case xk7=>k_is); (case xc7=>k_is); (case yl7=>k_is); (case yc7=>k_is); (case yk7=>k_is); (case xa8=>k_is); (case xl8=>k_is); (case xs8=>k_is); (case xg8=>k_is); (case xh8=>k_is); (case xf8=>k_is); (case xi8=>k_is); (case xt8=>k_is); (case xk8=>k_is); (case xc8=>k_is); (case yl8=>k_is); (case yc8=>k_is); (case yk8=>k_is); (case xa9=>k_is); (case xl9=>k_is); (case xs9=>k_is); (case xg9=>k_is); (case xh9=>k_is); (case xf9=>k_is); (case xi9=>k_is); (case xt9=>k_is); (case xk9=>k_is); (case xc9=>k_is); (case yl9=>k_is); (case yc9=>k_is); (case yk9=>k_is); (case Ke=>k_is); (case Zm=>k_is); (case Zo=>k_is); (case Zq=>k_is); (case Zr=>k_is); (case xf10=>k_is); (case Zt=>k_is); (case Zu=>k_is); (case Zv=>k_is); (case Zw=>k_is); (case Zx=>k_is); (case Zy=>k_is); (case Zz=>k_is); (case Kf=>k_is); (case ZC=>k_is); (case ZD=>k_is); (case ZG=>k_is); (case ZJ=>k_is); (case ZK=>k_is); (case ZL=>k_is); (case ZM=>k_is); (case ZP=>k_is); (case ZQ=>k_is); (case ZR=>k_is); (case ZS=>k_is); (case ZV=>k_is); (case Kg=>k_is); (case Z0=>k_is); (case Z4=>k_is); (case Z5=>k_is); (case Z6=>k_is); (case Z7=>k_is); (case Z8=>k_is); (case Z9=>k_is); (case aac=>k_is); (case aad=>k_is); (case aae=>k_is); (case aaf=>k_is); (case aag=>k_is); (case Kh=>k_is); (case aah=>k_is); (case aai=>k_is); (case aaj=>k_is); (case aak=>k_is); (case aal=>k_is); (case aam=>k_is); (case aan=>k_is); (case aao=>k_is); (case aap=>k_is); (case aaq=>k_is); (case aar=>k_is); (case aas=>k_is); (case g8=>k_is); (case bM=>k_is); (case bK=>k_is); (case bU=>k_is); (case bD=>k_is); (case bY=>k_is); (case Bq=>k_is); (case vB=>k_is); (case lD=>k_is); (case fB=>k_is); (case Br=>k_is); (case aG=>k_is); (case vC=>k_is); (case nA=>k_is); (case lW=>k_is); (case vD=>k_is); (case jV=>k_is); (case Bt=>k_is)
end
