import PyProof.Rows.All
import HandS.ForMost
import HandS.ForExc
import HandS.TupAny
import HandS.TupMul
import HandS.Slots
import HandS.SlotsOwn
import HandS.Lambda
import HandS.Wide
import KE.KeyNested
import HandS.TupLe
import HandS.Deep
import HandS.IsInst
import HandS.Style
import PyProof.P3In
import HandS.WordsDict
import HandS.Walk
import HandS.Zip
import HandS.CallSlots
import HandS.Defaults
import HandS.Small
import HandS.RaiseMore
import PyProof.ReprRoads
import HandS.ClsMeth
import HandS.ExcInit
import HandS.ExcOwn
import KE.KExcSuper
import KE.KSuper
import HandS.ExcIs
import HandS.ExcField
import HandS.Codes
import PyProof.InstNe
import HandS.Strs
import KE.GoesMore
import KE.GoesEnum
import KE.KLam
import HandS.Words
import HandS.Head0
import HandS.Head1
import HandS.Head2
import HandS.HeadEnd
import HandS.HeadHook1
import HandS.HeadHook2
import HandS.HeadHook3
import HandS.HeadHook4
import HandS.HeadWalk
import KE.KExcInit
import HandS.EndBits
import HandS.EndTab
import HandS.TupSets
import HandS.Star
import PyProof.SeqIndex
import KE.KRevSl
import PyProof.Rows.SeqRoads
import HandS.SortInts
import KE.KDictKeyed
import KE.KDictDisplayH
import KE.SortData
import KE.KDictCopyH
import HandS.SetFor
import PyProof.Rows.SortShellAny
import HandS.Text
import HandS.DictComp
import KE.KDictPairs
import HandS.CallLocal
import HandS.Conv
import HandS.DeepEq
import PyProof.NeData
import HandS.GenList
import HandS.ListEq
import HandS.DictEq
import HandS.HotCalls
import HandS.Finally
import KE.SortKeyed
import KE.KUnpack
import PyProof.Rows.MatchSeqLen
import HandS.TryOnly
import HandS.Property
import HandS.ReplaceLit
import PyProof.SumWalkG
import KE.GoesComp2
import KE.GoesZip
import KE.KIsAll
import KE.Datum
import PyProof.Rows.TupAdd
import KE.DataFind
import KE.KSortTupUse
import PySem.Challenge.RW_pairsettle_k04_whole_all_tables
import PyProof.Rows.RegStrFacts
set_option Elab.async false
set_option linter.all false
set_option maxRecDepth 100000
set_option maxHeartbeats 4000000
def Je:=@List.mem_cons_of_mem
def Jf:=@List.mem_cons_self
def Jg:=@List.mem_singleton
def Jh:=@Option.map_eq_some_iff
def Ji:=@List.mem_append_right
def Jj:=@List.mem_cons
def Jk:=@Nat.lt_of_lt_of_le
def Jl:=@List.getElem?_eq_some_iff
def Jm:=@Nat.ne_of_lt
def Jn:=@Bool.and_eq_true_iff
def Jo:=@List.getElem?_eq_getElem
def Jp:=@List.getElem?_append_left
def Jq:=@Option.some.inj
def Jr:=@decide_eq_false
def Js:=@List.mem_of_getElem?
def Jt:=@List.length_map
def Ju:=@decide_eq_true
def Jv:=@List.mem_append
def Jx:=@Nat.le_trans
def Jy:=@Bool.and_eq_true
def Jz:=@List.all_eq_true
def JA:=@Nat.ne_of_gt
def JB:=@decide_eq_true_eq
def JC:=@List.append_nil
def JD:=@Nat.le_refl
def JE:=@List.getElem?_set_ne
def JF:=@List.length_append
def JG:=@List.map_cons
def JH:=@List.getElem?_set_self
def JI:=@Nat.le_of_lt
def JK:=@List.length_cons
def JL:=@of_decide_eq_true
def JM:=@List.getElem?_append_right
def JN:=@List.mem_append_left
def JO:=@Nat.lt_trans
def JP:=@List.getD_eq_getElem?_getD
def JQ:=@Nat.lt_irrefl
def JR:=@List.getElem?_map
def JS:=@List.getElem?_cons_succ
def JT:=@List.getElem?_cons_zero
def JU:=@List.mem_map
def JV:=@Nat.le_add_right
def JW:=@List.length_singleton
namespace Ev
open PySem PySem.Spec L2 PyProof.Rows
def oO(H:Hp)(Q:VK)(xs:List V):Prop:=∀p ob,ob.dict=none→H p=none→Q (.ref p) (upd H p (.frz ob (.tup xs)))
section
variable {X:Cx}{es:List Expr}{t:TA}{pos:Pos}
theorem lN{pins:List (Addr×Obj)}{σ:L2.St}{H:Hp}{s:Shared}{xs:List V}{us:List Value}(I:Inv X pins σ H s)(r:Vals xs us)(hz:xs.length≤sizeLine){Q:VK}(q:oO H Q xs)(tk:Nat)(htk:s.toks≤tk:=by omega):
  EP X pins σ Q (.ref s.heap.objs.size) { s with heap:=s.heap.push { cls:=.type "tuple",data:=.seq us.toArray},toks:=tk}:=
 ⟨.ref s.heap.objs.size,upd H s.heap.objs.size (.frz { cls:=.type "tuple",data:=.seq us.toArray} (.tup xs)),I.laid (t':=tk) (fun b u e=>Heap.get?_push_of_some _ e) (JD _) ⟨Heap.get?_push_size _ rfl,hz,us,r,IsTup.new _ _⟩,rfl,
  q _ _ rfl (I.hok.fresh (JD _))⟩
def Hi(t:TA):TE:=fun σ H Q=>t σ H fun xs H1=>xs.length≤sizeLine∧oO H1 Q xs
theorem A9{x1}(h:PA X es t):PE X (.Tuple es x1 pos) (Hi t):=by
 refine⟨fun pins s σ H Q I hq=>?_⟩
 exact wpAny_Tuple_spliced (thn (h.run pos pins s σ H _ I hq) fun us s1 ⟨xs,H1,I1,r,z,q⟩=>⟨by rw[← r.length];exact z,lN I1 r z q s1.toks (JD _)⟩)
end
section
variable {X:Cx}
theorem pN:CallR X (.type "tuple") (fun xs H Q=>∃p ys,xs=[.ref p]∧((SqL X.K H p ys∧oO H Q ys)∨(SqT X.K H p ys∧Q (.ref p) H))):=by
 intro pins s σ H xs us Q I r h
 obtain⟨p,ys,rfl,h⟩:=h
 obtain⟨u,rfl,rx⟩:=vals1 r
 cases rx
 rcases h with⟨hq,q⟩| ⟨hq,q⟩
 ·obtain⟨its,r',pl,hz⟩:=I.list hq
  have hlen:=r'.length
  refine call_tuple_list pl.isList (fun h' kp=>?_) (by simp only[List.size_toArray]<;>omega)
  have I1:Inv X pins σ H { s with heap:=h'}:=I.kept (t':=s.toks) kp
  exact lN I1 r' hz q s.toks (JD _)
 ·obtain⟨its,r',pl,hz⟩:=I.tuple hq
  exact call_tuple_same pl ⟨.ref p,H,I,rfl,q⟩
def FP(K:PySem.W.Frag):V→Option Int→Option Int→Hp→VK→Prop:=fun x lo hi H Q=>∃a xs,x= .ref a∧SqT K H a xs∧
 (HT.sIx xs.length 0 lo=0∧HT.sIx xs.length xs.length hi=xs.length→Q (.ref a) H)∧(¬ (HT.sIx xs.length 0 lo=0∧HT.sIx xs.length xs.length hi=xs.length)→oO H Q (cutV xs lo hi))
theorem B9:SlR X (FP X.K):=by
 intro pins s σ H x v vl vu lo hi sl Q I rx hs pl pu h
 obtain⟨a,xs,rfl,hx,q1,q2⟩:=h
 by_cases hw:HT.sIx xs.length 0 lo=0∧HT.sIx xs.length xs.length hi=xs.length
 ·exact sl_tupA pins s σ H _ v vl vu lo hi sl Q I rx hs pl pu ⟨a,xs,rfl,hx,q1,fun n=>absurd hw n⟩
 ·cases rx
  obtain⟨its,r,ht,hz⟩:=I.tuple hx
  have hlen:its.toArray.size=xs.length:=by rw[List.size_toArray];exact r.length.symm
  refine⟨"tuple",_,PyProof.Rows.slot_tuple_getitem.lookup,ht.typeIs,?_⟩
  refine HT.getItem_tuple_cut ht hs pl pu (by rw[hlen];exact hw) ?_ (by rw[hlen];exact hz)
  rw[hlen]
  exact lN I ((r.drop (HT.sIx xs.length 0 lo)).take (HT.sIx xs.length xs.length hi-HT.sIx xs.length 0 lo)) (Jx (cutV_length xs lo hi) hz) (q2 hw) s.toks (JD _)
def Bk(K:PySem.W.Frag):R2:=fun x y H Q=>∃a b xs ys,x= .ref a∧y= .ref b∧SqT K H a xs∧SqT K H b ys∧xs.length+ys.length≤sizeLine∧
 (xs=[]→Q (.ref b) H)∧(xs≠[]→ys=[]→Q (.ref a) H)∧(xs≠[]→ys≠[]→oO H Q (xs++ys))
theorem zm:OpR X (binaryOp .Add) (Bk X.K):=by
 intro pins s σ H x y v u Q I rx ry h
 obtain⟨a,b,xs,ys,rfl,rfl,ha,hb,hz,q0,q1,q2⟩:=h
 by_cases hx:xs=[]
 ·exact op_catA pins s σ H _ _ v u Q I rx ry ⟨a,b,xs,ys,rfl,rfl,ha,hb,hz,q0,q1,fun n=>absurd hx n⟩
 ·by_cases hy:ys=[]
  ·exact op_catA pins s σ H _ _ v u Q I rx ry ⟨a,b,xs,ys,rfl,rfl,ha,hb,hz,q0,q1,fun _ n=>absurd hy n⟩
  ·cases rx
   cases ry
   obtain⟨its,r1,p1,_⟩:=I.tuple ha
   obtain⟨its2,r2,p2,_⟩:=I.tuple hb
   refine HT.cat_tup p1 p2 (fun z=>hx (r1.nil_iff.mp z)) (fun z=>absurd (r2.nil_iff.mp z) hy) (fun z=>?_) (by rw[← r1.length, ← r2.length];exact hz)
   exact lN I (r1.append r2) (by rw[JF];exact hz) (q2 hx hy) s.toks (JD _)
theorem qg(l:Addr)(items:Array Value)(n:Nat)(dd:Option Addr)(sl:Array (Option Value))(x:Int)(u:Tok)(c0:(decide (x< -(2^63))||decide (x≥2^63))=false)(c1:(items.isEmpty||x==1)=false)(c2:(decide (x≤0)||items.isEmpty)=true):
  Meets (Builtin.«tuple.__mul__» ⟨[.ref l,.int x u],[]⟩) (fun _ R s=>s.heap.get? l=some { cls:=.type "tuple",dict:=dd,data:=.seq items n,slots:=sl}∧
   R (.ok (.ret (Value.ref s.heap.objs.size))) { s with heap:=s.heap.push { cls:=Value.type "tuple",data:=Data.seq #[]},toks:=s.toks}):=
 .of_wp fun prog w A R s h=>by
  obtain⟨hp,g,d,tk,os⟩:=s
  obtain⟨hl,h⟩:=h
  have f1:=AutoSeq1.idx_int
  wp_walk using wpAny_loadPart' hl
  repeat (first
   | (refine wpAny_ite_false (Jr (by rw[c0];exact Bool.false_ne_true)) ?_;wp_walk using wpAny_loadPart' hl)
   | (refine wpAny_ite_false (Jr (by rw[c1];exact Bool.false_ne_true)) ?_;wp_walk using wpAny_loadPart' hl)
   | (refine wpAny_ite_true (Ju c2) ?_;wp_walk using wpAny_loadPart' hl))
  exact⟨_,rfl,h⟩
theorem qu(l:Addr)(items:Array Value)(n:Nat)(dd:Option Addr)(sl:Array (Option Value))(x:Int)(u:Tok)(c0:(decide (x< -(2^63))||decide (x≥2^63))=false)(c1:(items.isEmpty||x==1)=true):
  Meets (Builtin.«tuple.__mul__» ⟨[.ref l,.int x u],[]⟩) (fun _ R s=>s.heap.get? l=some { cls:=.type "tuple",dict:=dd,data:=.seq items n,slots:=sl}∧
   R (.ok (.ret (Value.ref l))) s):=
 .of_wp fun prog w A R s h=>by
  obtain⟨hp,g,d,tk,os⟩:=s
  obtain⟨hl,h⟩:=h
  have f1:=AutoSeq1.idx_int
  wp_walk using wpAny_loadPart' hl
  repeat (first
   | (refine wpAny_ite_false (Jr (by rw[c0];exact Bool.false_ne_true)) ?_;wp_walk using wpAny_loadPart' hl)
   | (refine wpAny_ite_true (Ju c1) ?_;wp_walk using wpAny_loadPart' hl))
  exact⟨_,rfl,h⟩
end
section
variable {X:Cx}
def BH(K:PySem.W.Frag):R2:=fun x y H Q=>∃l k xs,x= .ref l∧y= .int k∧SqT K H l xs∧ -1000≤k∧k≤1000∧xs.length≤1000∧(xs=[]∨k=1→Q (.ref l) H)∧(¬ (xs=[]∨k=1)→oO H Q (List.replicate k.toNat xs).flatten)
theorem zS:OpR X (binaryOp .Mult) (BH X.K):=by
 intro pins s σ H x y v u Q I rx ry h
 obtain⟨l,k,xs,rfl,rfl,hT,h1,h2,hz,q1,q2⟩:=h
 cases rx
 obtain⟨t,rfl⟩:=ry
 obtain⟨its,r,⟨⟨cls,dd,data,sl⟩,ho,hc,n,hd⟩,hs⟩:=I.tuple hT
 simp only at hc hd
 subst hc hd
 have hle:its.length=xs.length:=r.length.symm
 have hsz0:its.toArray.size=xs.length:=by rw[List.size_toArray,hle]
 have he:its.toArray.isEmpty=xs.isEmpty:=by
  cases r with
  |nil=>rfl
  |cons _ _=>rfl
 have c0:(decide (k< -(2^63))||decide (k≥2^63))=false:=by
  rw[Jr (by omega),Jr (by omega)]<;>rfl
 refine wpAny_binaryOp_repeat_ref (T:="tuple") (U:="int") (by decide) ⟨_,ho,rfl⟩ (fun s'=>typeIs_int s' k t) noFill_tuple_mul F.fills_int_mul F.slot_int_rmul repeat_tuple F.slot_int_index.lookup
  (call_meets F.slot_int_rmul (typeIs_int s k t) F.entry_int_rmul (F.args_int_rmul_2 _ _) (int_rmul_tuple k t l its.toArray n dd sl) ⟨ho,rfl,⟨_,ho,rfl⟩,?_⟩)
 by_cases hw:xs=[]∨k=1
 ·have c1:(its.toArray.isEmpty||k==1)=true:=by
   rw[he]
   rcases hw with hw|hw
   ·rw[hw];rfl
   ·rw[hw];simp
  exact call_meets F.slot_tuple_mul ⟨_,ho,rfl⟩ F.entry_tuple_mul (F.args_tuple_mul_2 _ _) (qu l its.toArray n dd sl k t c0 c1) ⟨ho,⟨.ref l,H,I,rfl,q1 hw⟩⟩
 ·have hw1:xs≠[]:=fun e=>hw (.inl e)
  have hw2:k≠1:=fun e=>hw (.inr e)
  have he2:xs.isEmpty=false:=by cases xs with
   |nil=>exact absurd rfl hw1
   |cons _ _=>rfl
  have c1:(its.toArray.isEmpty||k==1)=false:=by
   rw[he,he2,Bool.false_or]
   exact beq_eq_false_iff_ne.mpr hw2
  by_cases hk:k≤0
  ·have c2:(decide (k≤0)||its.toArray.isEmpty)=true:=by rw[Ju hk,Bool.true_or]
   refine call_meets F.slot_tuple_mul ⟨_,ho,rfl⟩ F.entry_tuple_mul (F.args_tuple_mul_2 _ _) (qg l its.toArray n dd sl k t c0 c1 c2) ⟨ho,?_⟩
   have q:=q2 hw
   rw[show k.toNat=0 by omega] at q
   exact lN (us:=[]) I .nil (Nat.zero_le _) q s.toks (JD _)
  ·have hm:((its.toArray.size:Nat):Int)*k≤1000000:=by
    rw[hsz0]
    have a1:((xs.length:Nat):Int)*k≤1000*k:=Int.mul_le_mul_of_nonneg_right (by omega) (by omega)
    omega
   have flen:(List.replicate k.toNat its).flatten.length≤sizeLine:=by
    rw[PyProof.Rows.lm_len_rep_flat,hle,sizeLine_eq]
    have a1:k.toNat*xs.length≤1000*1000:=Nat.mul_le_mul (by omega) hz
    omega
   have c2:(decide (k≤0)||its.toArray.isEmpty)=false:=by
    rw[he,he2,Bool.or_false]
    exact Jr hk
   have c4:Builtin.Tuple.tupleTooMany (((its.toArray.size:Nat):Int)*k)=false:=by
    unfold Builtin.Tuple.tupleTooMany
    rw[sizeLine_eq]
    exact Jr (by omega)
   refine call_meets F.slot_tuple_mul ⟨_,ho,rfl⟩ F.entry_tuple_mul (F.args_tuple_mul_2 _ _) (tuple_mulW l its.toArray n dd sl k t c0 c1 c2 (by omega) c4 (by rw[size_rep,List.size_toArray];exact flen)) ⟨ho,?_⟩
   rw[size_rep]
   exact lN I (r.rep k.toNat) (by rw[PyProof.Rows.lm_len_rep_flat,sizeLine_eq];have a1:k.toNat*xs.length≤1000*1000:=Nat.mul_le_mul (by omega) hz;omega) (q2 hw) s.toks (JD _)
end
end Ev
namespace Ev
open PySem L2
inductive D where
 |non|bl (b:Bool)|int (i:Int)|str (x:Str)
 |tup (xs:List D)|lst (xs:List D)|scr (xs:List D)|dct (ks vs:List D)|dcn (ks vs:List D)
 |ins (c:Nat) (fs:List D)
 |exc (c:Nat) (f:D)
 |glb (n:Nat)
 |clo (k:Nat) (env:List (Option D))
 |ref (n:Nat)
instance:Inhabited D:=⟨.non⟩
inductive Ob where
 |lst (xs:List D)|dct (ks vs:List D)|dcn (ks vs:List D)|ins (c:Nat) (fs:List (Str×D))|slo (c:Nat) (fs:List (Option D))
abbrev a0:=List Ob
abbrev aq:=List (Option D)
inductive RV where
 |val (d:D)|new (o:Ob)
inductive R(α:Type) where
 |ok (a:α) (S:a0)|ex (x:D) (S:a0)|bad
def R.sat{α:Type}(r:R α)(Q:α→a0→Prop)(E:D→a0→Prop):Prop:=
 match r with
 | .ok a S=>Q a S
 | .ex x S=>E x S
 | .bad=>False
def R.bind{α β:Type}(r:R α)(f:α→a0→R β):R β:=
 match r with
 | .ok a S=>f a S
 | .ex x S=>.ex x S
 | .bad=>.bad
theorem R.sat_bind{α β:Type}{r:R α}{f:α→a0→R β}{Q:β→a0→Prop}{E:D→a0→Prop}:(r.bind f).sat Q E↔r.sat (fun a S=>(f a S).sat Q E) E:=by
 cases r<;>exact Iff.rfl
theorem R.sat_imp{α:Type}{r:R α}{Q Q':α→a0→Prop}{E E':D→a0→Prop}(h:r.sat Q E)(hq:∀a S,Q a S→Q' a S)(he:∀x S,E x S→E' x S):r.sat Q' E':=by
 cases r with
 |ok a S=>exact hq a S h
 |ex x S=>exact he x S h
 |bad=>exact h
def Ob.toD:Ob→D
 | .lst xs=>.lst xs
 | .dct ks vs=>.dct ks vs
 | .dcn ks vs=>.dcn ks vs
 | .ins c fs=>.ins c (fs.map (·.2))
 | .slo c fs=>.ins c (fs.map (·.getD .non))
def RV.d:RV→D
 | .val d=>d
 | .new o=>o.toD
structure Gm where
 K:PySem.W.Frag
 cls:Nat→Addr
 fn:Nat→Addr
 xf:Nat→Str
 T:List (Addr×Str)
 w:World
 U:List (Addr×Str):=[]
 nq:Str:=""
structure Mu where
 st:List Addr
 hd:List Addr
def Mu.add(μ:Mu)(p:Addr):Mu:=⟨μ.st++[p],μ.hd⟩
def Mu.hide(μ:Mu)(p:Addr):Mu:=⟨μ.st,p::μ.hd⟩
def Mu.no(μ:Mu)(a:Addr):Prop:=a∉μ.st∧a∉μ.hd
def Still(H:Hp)(μ:Mu)(a:Addr)(o:HO):Prop:=H a=some o∧μ.no a
def o9(K:PySem.W.Frag)(a:Addr)(xs:List V):Prop:=
 ∃ (o:Obj) (its:Array Value) (n:Nat),K.lookup a=some o∧o.cls= .type "tuple"∧o.dict=none∧o.data= .seq its n∧its.size≤sizeLine∧Vals xs its.toList
theorem o9.sq{K:PySem.W.Frag}{a:Addr}{xs:List V}{H:Hp}(h:o9 K a xs):SqT K H a xs:=by
 obtain⟨o,its,n,h1,h2,_,h3,h4,h5⟩:=h
 exact .inr ⟨o,its,n,h1,h2,h3,h4,h5⟩
def jj(H:Hp)(μ:Mu)(a:Addr)(xs:List V):Prop:=∃ob:Obj,ob.dict=none∧Still H μ a (.frz ob (.tup xs))
theorem jj.imp{H H':Hp}{μ μ':Mu}{a:Addr}{xs:List V}(st:∀ {u},Still H μ a u→Still H' μ' a u):jj H μ a xs→jj H' μ' a xs:=fun⟨ob,e,h⟩=>⟨ob,e,st h⟩
def keyD:Key→D
 | .inl i=>.int i
 | .inr x=>.str x
mutual
def HX:D→Option NestedKey
 | .int i=>some (.num i)
 | .bl b=>some (.num (if b then 1 else 0))
 | .non=>some .none
 | .str x=>some (.text x)
 | .tup xs=>(xP xs).map .tup
 |_=>none
def xP:List D→Option (List NestedKey)
 | []=>some []
 |d::ds=>match HX d,xP ds with|some k,some l=>some (k::l)|_,_=>none
end
def GB:D→Option NestedKey
 | .tup xs=>match xP xs with
  |some l=>if(NestedKey.tup l).depth≤8 then some (.tup l) else none
  |none=>none
 |_=>none
def yf:List D→Option (List NestedKey)
 | []=>some []
 |d::ds=>match GB d,yf ds with|some k,some l=>some (k::l)|_,_=>none
abbrev rl:Type:=List (NestedKey×Addr×V)×Obj
def yR(w:World)(a:Addr)(z:rl):HO:=.ext fun h=>(a==sysModules)=false∧z.1.length≤sizeLine∧∃ (ys:List (NestedKey×Addr×Value)) (es:Array DictEntry) (ep:Nat),
 Paired (fun(p:NestedKey×Addr×V) (q:NestedKey×Addr×Value)=>p.1=q.1∧p.2.1=q.2.1∧L2.RelV p.2.2 q.2.2) z.1 ys∧h.get? a=some z.2∧z.2.ExactDict∧z.2.data= .dict es ep∧(ys.map (·.1)).Nodup∧
 es.toList=ys.map fun y=>(⟨NestedKey.hash w y.1,.ref y.2.1,y.2.2⟩:DictEntry)
mutual
inductive Rep(Γ:Gm)(H:Hp)(μ:Mu):V→D→Prop
 |non:Rep Γ H μ .non .non
 |bl (b:Bool):Rep Γ H μ (.bl b) (.bl b)
 |int (i:Int):Rep Γ H μ (.int i) (.int i)
 |str (x:Str):Rep Γ H μ (.str x) (.str x)
 |tup {a:Addr} {vs:List V} {ds:List D}:(jj H μ a vs∨o9 Γ.K a vs)→Reps Γ H μ vs ds→Rep Γ H μ (.ref a) (.tup ds)
 |lst {a:Addr} {vs:List V} {ds:List D}:Still H μ a (.lst vs)→Reps Γ H μ vs ds→Rep Γ H μ (.ref a) (.lst ds)
 |scr {a:Addr} {ob:Obj} {vs:List V} {ds:List D}:Still H μ a (.frz ob (.lst vs))→Reps Γ H μ vs ds→Rep Γ H μ (.ref a) (.scr ds)
 |dct {a:Addr} {kvs:List (Key×V)} {ds:List D}:Still H μ a (.dK kvs)→Reps Γ H μ (kvs.map (·.2)) ds→Rep Γ H μ (.ref a) (.dct (kvs.map fun q=>keyD q.1) ds)
 |dcn {a:Addr} {xs:rl} {ks ds:List D}:Still H μ a (yR Γ.w a xs)→yf ks=some (xs.1.map (·.1))→Reps Γ H μ (xs.1.map fun x=>.ref x.2.1) ks→Reps Γ H μ (xs.1.map (·.2.2)) ds→Rep Γ H μ (.ref a) (.dcn ks ds)
 |ins {a dx:Addr} {c:Nat} {vs:List V} {ds:List D}:Still H μ a (SlX.SlO a (Γ.cls c) dx (vs.map some))→Still H μ dx (.xd [])→Reps Γ H μ vs ds→Rep Γ H μ (.ref a) (.ins c ds)
 |exc {a dx:Addr} {c:Nat} {oe:Obj} {u:HO} {v:V} {d:D}:Still H μ a (.frz oe u)→oe.cls= .ref (Γ.cls c)→oe.dict=some dx→(∃vs,oe.data= .fields vs)→Still H μ dx (.xd [(Γ.xf c,v)])→Rep Γ H μ v d→Rep Γ H μ (.ref a) (.exc c d)
 |glb (n:Nat):Rep Γ H μ (.ref (Γ.fn n)) (.glb n)
 |xdd {a:Addr}:Still H μ a (.xd [])→Rep Γ H μ (.ref a) (.clo 0 [])
 |ref {a:Addr} {n:Nat}:μ.st[n]? =some a→Rep Γ H μ (.ref a) (.ref n)
inductive Reps(Γ:Gm)(H:Hp)(μ:Mu):List V→List D→Prop
 |nil:Reps Γ H μ [] []
 |cons {v:V} {vs:List V} {d:D} {ds:List D}:Rep Γ H μ v d→Reps Γ H μ vs ds→Reps Γ H μ (v::vs) (d::ds)
end
def jB(c:Addr)(q:Str)(P:Addr):HO:=.ext fun h=>(∃ (oc:Obj) (vs:Array Value) (t:Tok),h.get? c=some oc∧oc.data= .fields vs∧vs[1]? =some (.str q t))∧(c=P∨PySem.W.CodeHd h c P)
def jf(H:Hp)(p:Addr):Prop:=(∀q,H p≠some (LamX.CodeO p q))∧∀q P,H p≠some (jB p q P)
theorem lX{H:Hp}{p:Addr}{u:HO}(e:H p=some u)(n:∀φ,u≠ .ext φ):jf H p:=
 ⟨fun q z=>n _ (Jq (e.symm.trans z)),fun q P z=>n _ (Jq (e.symm.trans z))⟩
def FR(Γ:Gm)(P:Addr):Prop:=(∃q,(P,q)∈Γ.T)∨∃q,(P,q)∈Γ.U
def J6(Γ:Gm)(T:List (Addr×Str)):Prop:=∀p∈T,p∈Γ.T∨(¬FR Γ p.1∧p.2=Γ.nq)
def uJ(Γ:Gm)(H:Hp):Prop:=∀p∈Γ.U,∃ps:Array Value,H p.1=some (.tbl ps)∧TriplesOk ps.toList∧∀ (pos:Pos) (cv:Value),codeAmong pos ps.toList=some cv→∃c P,cv= .ref c∧H c=some (jB c p.2 P)∧¬FR Γ P∧LamX.TabS H P Γ.nq
def ef(Γ:Gm)(H:Hp):Prop:=LamX.Tabs Γ.T H∧uJ Γ H
structure TabsR(Γ:Gm)(H H':Hp):Prop where
 dyn:∀T,J6 Γ T→LamX.Tabs T H→LamX.Tabs T H'
 dep:uJ Γ H→uJ Γ H'
theorem TabsR.refl{Γ:Gm}{H:Hp}:TabsR Γ H H:=⟨fun _ _ h=>h,fun h=>h⟩
theorem TabsR.trans{Γ:Gm}{H H1 H2:Hp}(a:TabsR Γ H H1)(b:TabsR Γ H1 H2):TabsR Γ H H2:=⟨fun T c h=>b.dyn T c (a.dyn T c h),fun h=>b.dep (a.dep h)⟩
theorem TabsR.all{Γ:Gm}{H H':Hp}(a:TabsR Γ H H')(h:ef Γ H):ef Γ H':=⟨a.dyn Γ.T (fun _ hp=>.inl hp) h.1,a.dep h.2⟩
theorem uJ.ext{Γ:Gm}{H H':Hp}(h:uJ Γ H)(e:∀b o,H b=some o→H' b=some o):uJ Γ H':=fun p hp=>by
 obtain⟨ps,h1,h2,h3⟩:=h p hp
 refine⟨ps,e _ _ h1,h2,fun pos cv hc=>?_⟩
 obtain⟨c,P,e1,e2,e3,e4⟩:=h3 pos cv hc
 exact⟨c,P,e1,e _ _ e2,e3,e4.ext e⟩
theorem TabsR.ext{Γ:Gm}{H H':Hp}(e:∀b o,H b=some o→H' b=some o):TabsR Γ H H':=⟨fun T _ h=>h.ext e,fun h=>h.ext e⟩
structure Ext(Γ:Gm)(μ:Mu)(H:Hp)(μ':Mu)(H':Hp):Prop where
 pre:∃r,μ'.st=μ.st++r
 hid:μ'.hd=μ.hd
 keep:∀b o,H b=some o→b∉μ.st→(∀ps,o≠ .tbl ps)→H' b=some o
 here:∀b o,H b=some o→∃o',H' b=some o'
 new:∀b∈μ'.st,b∉μ.st→H b=none
 tbr:TabsR Γ H H'
theorem Ext.tabs{Γ:Gm}{μ μ':Mu}{H H':Hp}(x:Ext Γ μ H μ' H')(h:ef Γ H):ef Γ H':=x.tbr.all h
section
variable {Γ:Gm}{H H' H1 H2:Hp}{μ μ' μ1 μ2:Mu}
theorem Ext.refl:Ext Γ μ H μ H:=⟨⟨[],by simp⟩,rfl,fun _ _ h _ _=>h,fun _ o h=>⟨o,h⟩,fun b h1 h2=>absurd h1 h2,.refl⟩
theorem Ext.trans(a:Ext Γ μ H μ1 H1)(b:Ext Γ μ1 H1 μ2 H2):Ext Γ μ H μ2 H2 where
 pre:=by
  obtain⟨r,h1⟩:=a.pre
  obtain⟨q,h2⟩:=b.pre
  exact⟨r++q,by rw[h2,h1];simp⟩
 hid:=b.hid.trans a.hid
 keep:=fun c o h hm n=>by
  refine b.keep c o (a.keep c o h hm n) (fun z=>?_) n
  have q:=a.new c z hm
  rw[h] at q;cases q
 here:=fun c o h=>by
  obtain⟨o1,h1⟩:=a.here c o h
  exact b.here c o1 h1
 new:=fun c hc hm=>by
  by_cases h1:c∈μ1.st
  ·exact a.new c h1 hm
  ·have q:=b.new c hc h1
   cases e:H c with
   |none=>rfl
   |some o=>
    obtain⟨o1,h1⟩:=a.here c o e
    rw[q] at h1;cases h1
 tbr:=a.tbr.trans b.tbr
theorem Ext.nmem(a:Ext Γ μ H μ' H'){b:Addr}{o:HO}(h:H b=some o)(hm:μ.no b):μ'.no b:=by
 refine⟨fun z=>?_,by rw[a.hid];exact hm.2⟩
 have q:=a.new b z hm.1
 rw[h] at q;cases q
theorem Ext.still(a:Ext Γ μ H μ' H'){b:Addr}{o:HO}(h:Still H μ b o)(n:∀ps,o≠ .tbl ps):Still H' μ' b o:=⟨a.keep b o h.1 h.2.1 n,a.nmem h.1 h.2⟩
theorem Ext.at(a:Ext Γ μ H μ' H'){n:Nat}{b:Addr}(h:μ.st[n]? =some b):μ'.st[n]? =some b:=by
 obtain⟨r,e⟩:=a.pre
 have hl:n<μ.st.length:=(Jl.mp h).1
 rw[e,Jp hl];exact h
theorem rN{a C dx:Addr}{vs:List (Option V)}(ps:Array Value):SlX.SlO a C dx vs≠ .tbl ps:=fun z=>by
 unfold SlX.SlO at z;cases z
theorem sX{w:World}{a:Addr}{xs:rl}(ps:Array Value):yR w a xs≠ .tbl ps:=fun z=>by
 unfold yR at z;cases z
mutual
theorem Rep.ext(x:Ext Γ μ H μ' H'):∀ {v:V} {d:D},Rep Γ H μ v d→Rep Γ H' μ' v d
 |_,_,.non=>.non
 |_,_,.bl b=>.bl b
 |_,_,.int i=>.int i
 |_,_,.str s=>.str s
 |_,_,.tup h r=>.tup (h.imp (fun⟨ob,e,h⟩=>⟨ob,e,x.still h fun ps z=>by cases z⟩) id) (Reps.ext x r)
 |_,_,.lst h r=>.lst (x.still h fun ps z=>by cases z) (Reps.ext x r)
 |_,_,.scr h r=>.scr (x.still h fun ps z=>by cases z) (Reps.ext x r)
 |_,_,.dct h r=>.dct (x.still h fun ps z=>by cases z) (Reps.ext x r)
 |_,_,.dcn h k r1 r=>.dcn (x.still h sX) k (Reps.ext x r1) (Reps.ext x r)
 |_,_,.ins h h2 r=>.ins (x.still h rN) (x.still h2 fun ps z=>by cases z) (Reps.ext x r)
 |_,_,.exc h h1 h2 h3 h4 r=>.exc (x.still h fun ps z=>by cases z) h1 h2 h3 (x.still h4 fun ps z=>by cases z) (Rep.ext x r)
 |_,_,.glb n=>.glb n
 |_,_,.xdd h=>.xdd (x.still h fun ps z=>by cases z)
 |_,_,.ref h=>.ref (x.at h)
theorem Reps.ext(x:Ext Γ μ H μ' H'):∀ {vs:List V} {ds:List D},Reps Γ H μ vs ds→Reps Γ H' μ' vs ds
 |_,_,.nil=>.nil
 |_,_,.cons r t=>.cons (Rep.ext x r) (Reps.ext x t)
end
theorem Reps.length:∀ {vs:List V} {ds:List D},Reps Γ H μ vs ds→vs.length=ds.length
 |_,_,.nil=>rfl
 |_,_,.cons _ t=>congrArg (· +1) t.length
theorem Reps.get:∀ {vs:List V} {ds:List D} {i:Nat} {d:D},Reps Γ H μ vs ds→ds[i]? =some d→∃v,vs[i]? =some v∧Rep Γ H μ v d
 |_,_,_,_,.nil,e=>by simp at e
 |_,_,0,_,.cons r _,e=>by simp at e;subst e;exact⟨_,rfl,r⟩
 |_,_,i+1,d,.cons _ t,e=>by
  obtain⟨u,h1,h2⟩:=t.get (i:=i) (d:=d) (by simpa using e)
  exact⟨u,by simpa using h1,h2⟩
theorem Reps.getV:∀ {vs:List V} {ds:List D} {i:Nat} {v:V},Reps Γ H μ vs ds→vs[i]? =some v→∃d,ds[i]? =some d∧Rep Γ H μ v d
 |_,_,_,_,.nil,e=>by simp at e
 |_,_,0,_,.cons r _,e=>by simp at e;subst e;exact⟨_,rfl,r⟩
 |_,_,i+1,d,.cons _ t,e=>by
  obtain⟨u,h1,h2⟩:=t.getV (i:=i) (v:=d) (by simpa using e)
  exact⟨u,by simpa using h1,h2⟩
theorem Reps.append:∀ {vs ws:List V} {ds es:List D},Reps Γ H μ vs ds→Reps Γ H μ ws es→Reps Γ H μ (vs++ws) (ds++es)
 |_,_,_,_,.nil,s=>s
 |_,_,_,_,.cons r t,s=>.cons r (t.append s)
theorem Reps.set:∀ {vs:List V} {ds:List D} {v:V} {d:D} (i:Nat),Reps Γ H μ vs ds→Rep Γ H μ v d→Reps Γ H μ (vs.set i v) (ds.set i d)
 |_,_,_,_,_,.nil,_=>.nil
 |_,_,_,_,0,.cons _ t,s=>.cons s t
 |_,_,_,_,i+1,.cons r t,s=>.cons r (t.set i s)
theorem Reps.take:∀ {vs:List V} {ds:List D} (n:Nat),Reps Γ H μ vs ds→Reps Γ H μ (vs.take n) (ds.take n)
 |_,_,0,_=>.nil
 |_,_,_+1,.nil=>.nil
 |_,_,n+1,.cons r t=>.cons r (t.take n)
theorem Reps.drop:∀ {vs:List V} {ds:List D} (n:Nat),Reps Γ H μ vs ds→Reps Γ H μ (vs.drop n) (ds.drop n)
 |_,_,0,r=>r
 |_,_,_+1,.nil=>.nil
 |_,_,n+1,.cons _ t=>t.drop n
end
def mG(Γ:Gm)(H:Hp)(μ:Mu)(vs:List (Option V))(fs:List (Option D)):Prop:=vs.length=fs.length∧∀ (i:Nat) (d:D),fs[i]? =some (some d)→∃v,vs[i]? =some (some v)∧Rep Γ H μ v d
theorem mG.map{Γ:Gm}{H H':Hp}{μ μ':Mu}{vs:List (Option V)}{fs:List (Option D)}(k:∀ {v d},Rep Γ H μ v d→Rep Γ H' μ' v d)(h:mG Γ H μ vs fs):mG Γ H' μ' vs fs:=⟨h.1,fun i d e=>by
 obtain⟨v,h1,h2⟩:=h.2 i d e
 exact⟨v,h1,k h2⟩⟩
theorem wI{a C dx:Addr}{vs:List (Option V)}(q:Str):SlX.SlO a C dx vs≠LamX.CodeO a q:=fun z=>by
 unfold SlX.SlO LamX.CodeO at z
 have e:=HO.ext.inj z
 have hc:=congrFun e (⟨Array.replicate (a+1) { cls:=.none,data:=.fields #[.none,.str q default]},default⟩:Heap)
 have hg:(⟨Array.replicate (a+1) { cls:=.none,data:=.fields #[.none,.str q default]},default⟩:Heap).get? a=some { cls:=.none,data:=.fields #[.none,.str q default]}:=by
  unfold Heap.get?
  rw[show(Array.replicate (a+1) ({ cls:=.none,data:=.fields #[.none,.str q default]}:Obj))[a]? =some { cls:=.none,data:=.fields #[.none,.str q default]} by simp]
 obtain⟨sl,h1,_⟩:=(Eq.mpr hc ⟨_,_,_,hg,rfl,rfl⟩:∃sl:Array (Option Value),_)
 rw[hg] at h1
 have h2:=congrArg Obj.cls (Jq h1)
 cases h2
theorem w8{w:World}{a:Addr}{xs:rl}(q:Str):yR w a xs≠LamX.CodeO a q:=fun z=>by
 unfold yR LamX.CodeO at z
 have e:=HO.ext.inj z
 have hc:=congrFun e (⟨Array.replicate (a+1) { cls:=.none,data:=.fields #[.none,.str q default]},default⟩:Heap)
 have hg:(⟨Array.replicate (a+1) { cls:=.none,data:=.fields #[.none,.str q default]},default⟩:Heap).get? a=some { cls:=.none,data:=.fields #[.none,.str q default]}:=by
  unfold Heap.get?
  rw[show(Array.replicate (a+1) ({ cls:=.none,data:=.fields #[.none,.str q default]}:Obj))[a]? =some { cls:=.none,data:=.fields #[.none,.str q default]} by simp]
 obtain⟨_,_,ys,es,ep,_,h1,_,h3,_⟩:=Eq.mpr hc ⟨_,_,_,hg,rfl,rfl⟩
 rw[hg] at h1
 rw[← Jq h1] at h3
 cases h3
def AS(q:Str)(P:Addr):Obj:={ cls:=.type "code",data:=.fields #[.none,.str q default,.none,.none,.none,.none,.none,.int 0 default,.none,.bool false,.int 0 default,.ref P,.none,.none,.none,.none,.none,.none,.str q default]}
def uh(a:Addr)(q:Str)(P:Addr):Heap:=⟨Array.replicate (a+1) (AS q P),default⟩
theorem hV(a:Addr)(q:Str)(P:Addr):(uh a q P).get? a=some (AS q P):=by
 unfold uh Heap.get?
 rw[show(Array.replicate (a+1) (AS q P))[a]? =some (AS q P) by simp]
 rfl
theorem rP(a:Addr)(q:Str)(P:Addr):(∃ (oc:Obj) (vs:Array Value) (t:Tok),(uh a q P).get? a=some oc∧oc.data= .fields vs∧vs[1]? =some (.str q t))∧(a=P∨PySem.W.CodeHd (uh a q P) a P):=by
 refine⟨⟨_,_,_,hV a q P,rfl,rfl⟩,?_⟩
 by_cases h:a=P
 ·exact .inl h
 ·exact .inr ⟨_,_,_,_,_,_,_,_,_,hV a q P,rfl,rfl,rfl,rfl,rfl,rfl,rfl,rfl,h⟩
theorem um{a C dx:Addr}{vs:List (Option V)}(q:Str)(P:Addr):SlX.SlO a C dx vs≠jB a q P:=fun z=>by
 unfold SlX.SlO jB at z
 have e:=HO.ext.inj z
 have hc:=congrFun e (uh a q P)
 obtain⟨sl,h1,_⟩:=(Eq.mpr hc (rP a q P):∃sl:Array (Option Value),_)
 rw[hV] at h1
 have h2:=congrArg Obj.cls (Jq h1)
 cases h2
theorem uc{w:World}{a:Addr}{xs:rl}(q:Str)(P:Addr):yR w a xs≠jB a q P:=fun z=>by
 unfold yR jB at z
 have e:=HO.ext.inj z
 have hc:=congrFun e (uh a q P)
 obtain⟨_,_,ys,es,ep,_,h1,_,h3,_⟩:=Eq.mpr hc (rP a q P)
 rw[hV] at h1
 rw[← Jq h1] at h3
 cases h3
def cy(Γ:Gm)(H:Hp)(μ:Mu)(a:Addr):Ob→Prop
 | .lst ds=>∃vs,H a=some (.lst vs)∧Reps Γ H μ vs ds
 | .dct ks ds=>∃kvs:List (Key×V),H a=some (.dK kvs)∧ks=kvs.map (fun q=>keyD q.1)∧Reps Γ H μ (kvs.map (·.2)) ds
 | .dcn ks ds=>∃xs:rl,H a=some (yR Γ.w a xs)∧yf ks=some (xs.1.map (·.1))∧Reps Γ H μ (xs.1.map fun x=>.ref x.2.1) ks∧Reps Γ H μ (xs.1.map (·.2.2)) ds
 | .ins c fs=>∃ (dx:Addr) (fvs:List (Str×V)),H a=some (.ins (Γ.cls c) dx fvs)∧fvs.map (·.1)=fs.map (·.1)∧Reps Γ H μ (fvs.map (·.2)) (fs.map (·.2))
 | .slo c fs=>∃ (dx:Addr) (vs:List (Option V)),H a=some (SlX.SlO a (Γ.cls c) dx vs)∧Rep Γ H μ (.ref dx) (.clo 0 [])∧mG Γ H μ vs fs
structure Sim(Γ:Gm)(μ:Mu)(H:Hp)(S:a0):Prop where
 len:μ.st.length=S.length
 nd:μ.st.Nodup
 ats:∀ (n:Nat) (a:Addr) (ob:Ob),μ.st[n]? =some a→S[n]? =some ob→cy Γ H μ a ob
 apart:∀b∈μ.st,b∉μ.hd
 hth:∀b∈μ.hd,∃o,H b=some o
section
variable {Γ:Gm}{H H' H1 H2:Hp}{μ μ' μ1 μ2:Mu}{S:a0}{a p:Addr}{ob:Ob}
theorem cy.some(x:cy Γ H μ a ob):∃o,H a=some o:=by
 cases ob with
 |lst ds=>obtain⟨vs,h,_⟩:=x;exact⟨_,h⟩
 |dct ks ds=>obtain⟨vs,h,_⟩:=x;exact⟨_,h⟩
 |dcn ks ds=>obtain⟨vs,h,_⟩:=x;exact⟨_,h⟩
 |ins c fs=>obtain⟨dx,vs,h,_⟩:=x;exact⟨_,h⟩
 |slo c fs=>obtain⟨dx,vs,h,_⟩:=x;exact⟨_,h⟩
theorem cy.ext(x:Ext Γ μ H μ' H')(e:∀o,H a=Option.some o→H' a=Option.some o)(h:cy Γ H μ a ob):cy Γ H' μ' a ob:=by
 cases ob with
 |lst ds=>obtain⟨vs,h,r⟩:=h;exact⟨vs,e _ h,r.ext x⟩
 |dct ks ds=>obtain⟨vs,h,k,r⟩:=h;exact⟨vs,e _ h,k,r.ext x⟩
 |dcn ks ds=>obtain⟨vs,h,k,r1,r⟩:=h;exact⟨vs,e _ h,k,r1.ext x,r.ext x⟩
 |ins c fs=>obtain⟨dx,vs,h,k,r⟩:=h;exact⟨dx,vs,e _ h,k,r.ext x⟩
 |slo c fs=>obtain⟨dx,vs,h,k,r⟩:=h;exact⟨dx,vs,e _ h,k.ext x,r.map fun r=>r.ext x⟩
theorem Sim.there(x:Sim Γ μ H S):∀b∈μ.st,∃o,H b=Option.some o:=fun b hb=>by
 obtain⟨n,hn,e⟩:=List.getElem_of_mem hb
 have hs:n<S.length:=by rw[← x.len];exact hn
 exact(x.ats n b S[n] (by rw[← e];exact Jo hn) (Jo hs)).some
theorem Sim.nnew(x:Sim Γ μ H S)(hp:H p=none):μ.no p:=by
 refine⟨fun z=>?_,fun z=>?_⟩
 ·obtain⟨o,h⟩:=x.there p z
  rw[hp] at h;cases h
 ·obtain⟨o,h⟩:=x.hth p z
  rw[hp] at h;cases h
theorem ig{Γ:Gm}(hp:H p=none)(o:HO):TabsR Γ H (upd H p o):=.ext fun b u e=>by
 rw[upd_ne (ne_of_none e hp)];exact e
theorem mM(x:Sim Γ μ H S)(p:Addr)(o:HO):∀b∈μ.hd,∃u,upd H p o b=Option.some u:=fun b hb=>by
 by_cases e:b=p
 ·exact⟨o,by rw[e,upd_same]⟩
 ·obtain⟨u,hu⟩:=x.hth b hb
  exact⟨u,by rw[upd_ne e];exact hu⟩
theorem Ext.laid(hp:H p=none)(o:HO):Ext Γ μ H μ (upd H p o):=
 ⟨⟨[],by simp⟩,rfl,fun b u e _ _=>by rw[upd_ne (ne_of_none e hp)];exact e,fun b u e=>⟨u,by rw[upd_ne (ne_of_none e hp)];exact e⟩,fun b h1 h2=>absurd h1 h2,ig hp o⟩
theorem Sim.laid(x:Sim Γ μ H S)(hp:H p=none)(o:HO):Sim Γ μ (upd H p o) S:=
 ⟨x.len,x.nd,fun n a ob h1 h2=>(x.ats n a ob h1 h2).ext (Ext.laid hp o) fun u e=>by rw[upd_ne (ne_of_none e hp)];exact e,x.apart,mM x p o⟩
theorem Ext.alloc(hp:H p=none)(o:HO):Ext Γ μ H (μ.add p) (upd H p o):=
 ⟨⟨[p],rfl⟩,rfl,fun b u e _ _=>by rw[upd_ne (ne_of_none e hp)];exact e,fun b u e=>⟨u,by rw[upd_ne (ne_of_none e hp)];exact e⟩,fun b h1 h2=>by
  rcases Jv.mp h1 with h|h
  ·exact absurd h h2
  ·rw[Jg.mp h];exact hp,ig hp o⟩
theorem Sim.alloc(x:Sim Γ μ H S)(hp:H p=none)(o:HO)(ha:cy Γ (upd H p o) (μ.add p) p ob):Sim Γ (μ.add p) (upd H p o) (S++[ob]):=by
 refine⟨by simp[Mu.add,x.len],?_,fun n a ob' h1 h2=>?_,fun b hb=>?_,mM x p o⟩
 ·refine List.nodup_append.mpr ⟨x.nd,by simp,fun b hb c hc e=>?_⟩
  rw[Jg.mp hc] at e
  exact(x.nnew hp).1 (e▸hb)
 ·have h1:(μ.st++[p])[n]? =Option.some a:=h1
  by_cases hn:n<μ.st.length
  ·rw[Jp hn] at h1
   rw[Jp (by rw[← x.len];exact hn)] at h2
   exact(x.ats n a ob' h1 h2).ext (Ext.alloc hp o) fun u e=>by rw[upd_ne (ne_of_none e hp)];exact e
  ·rw[JM (by omega)] at h1
   rw[JM (by rw[← x.len];omega)] at h2
   have e0:n-μ.st.length=0:=by
    have:=(Jl.mp h1).1
    simp at this;omega
   rw[e0] at h1
   rw[← x.len,e0] at h2
   simp at h1 h2
   subst h1;subst h2
   exact ha
 ·rcases Jv.mp hb with h|h
  ·exact x.apart b h
  ·rw[Jg.mp h];exact(x.nnew hp).2
theorem kf{P:Addr}{q:Str}(ht:∀ps,H p≠Option.some (.tbl ps))(hc:jf H p)(o:HO)(h:LamX.TabS H P q):LamX.TabS (upd H p o) P q:=by
 obtain⟨ps,a1,a2,a3⟩:=h
 refine⟨ps,by rw[upd_ne (fun z=>ht ps (by rw[← z];exact a1))];exact a1,a2,fun pos cv hcv=>?_⟩
 obtain⟨c,e1,e2⟩:=a3 pos cv hcv
 exact⟨c,e1,by rw[upd_ne (fun z=>hc.1 q (by rw[z] at e2;exact e2))];exact e2⟩
theorem gv{Γ:Gm}(ht:∀ps,H p≠Option.some (.tbl ps))(hc:jf H p)(o:HO):TabsR Γ H (upd H p o):=⟨fun T _ h q hq=>kf ht hc o (h q hq),fun h q hq=>by
 obtain⟨ps,a1,a2,a3⟩:=h q hq
 refine⟨ps,by rw[upd_ne (fun z=>ht ps (by rw[← z];exact a1))];exact a1,a2,fun pos cv hcv=>?_⟩
 obtain⟨c,P,e1,e2,e3,e4⟩:=a3 pos cv hcv
 exact⟨c,P,e1,by rw[upd_ne (fun z=>hc.2 q.2 P (by rw[z] at e2;exact e2))];exact e2,e3,kf ht hc o e4⟩⟩
theorem Ext.write(hm:p∈μ.st)(o:HO)(ht:∀ps,H p≠Option.some (.tbl ps))(hc:jf H p):Ext Γ μ H μ (upd H p o):=
 ⟨⟨[],by simp⟩,rfl,fun b u e hb _=>by rw[upd_ne (fun(z:b=p)=>hb (by rw[z];exact hm))];exact e,fun b u e=>by
  by_cases hb:b=p
  ·exact⟨o,by rw[hb,upd_same]⟩
  ·exact⟨u,by rw[upd_ne hb];exact e⟩,fun b h1 h2=>absurd h1 h2,gv ht hc o⟩
theorem i5{H:Hp}{p:Addr}(h:cy Γ H μ p ob):(∃u,H p=Option.some u)∧(∀ps,H p≠Option.some (.tbl ps))∧jf H p:=by
 have aux:∀ {u:HO},(∀ps,u≠ .tbl ps)→(∀φ,u≠ .ext φ)→H p=Option.some u→(∃u,H p=Option.some u)∧(∀ps,H p≠Option.some (.tbl ps))∧jf H p:=fun {u} n1 n2 e=>
  ⟨⟨u,e⟩,fun ps z=>n1 ps (Jq (e.symm.trans z)),lX e n2⟩
 cases ob with
 |lst ds=>obtain⟨vs,h,_⟩:=h;exact aux (fun _ z=>by cases z) (fun _ z=>by cases z) h
 |dct ks ds=>obtain⟨vs,h,_⟩:=h;exact aux (fun _ z=>by cases z) (fun _ z=>by cases z) h
 |dcn ks ds=>
  obtain⟨vs,h,_⟩:=h
  exact⟨⟨_,h⟩,fun ps z=>sX ps (Jq (h.symm.trans z)),fun q z=>w8 q (Jq (h.symm.trans z)),fun q P z=>uc q P (Jq (h.symm.trans z))⟩
 |ins c fs=>obtain⟨dx,vs,h,_⟩:=h;exact aux (fun _ z=>by cases z) (fun _ z=>by cases z) h
 |slo c fs=>
  obtain⟨dx,vs,h,_⟩:=h
  exact⟨⟨_,h⟩,fun ps z=>rN ps (Jq (h.symm.trans z)),fun q z=>wI q (Jq (h.symm.trans z)),fun q P z=>um q P (Jq (h.symm.trans z))⟩
theorem Sim.write(x:Sim Γ μ H S){n:Nat}{ob':Ob}(hn:μ.st[n]? =Option.some p)(hs:S[n]? =Option.some ob)(o:HO)(ha:cy Γ (upd H p o) μ p ob'):Ext Γ μ H μ (upd H p o)∧Sim Γ μ (upd H p o) (S.set n ob'):=by
 obtain⟨m1,m2,m3⟩:=i5 (x.ats n p ob hn hs)
 have xe:Ext Γ μ H μ (upd H p o):=Ext.write (Js hn) o m2 m3
 refine⟨xe,by simp[x.len],x.nd,fun k a ob2 h1 h2=>?_,x.apart,mM x p o⟩
 by_cases hk:k=n
 ·subst hk
  rw[hn] at h1;cases h1
  rw[JH (Jl.mp hs).1] at h2
  cases h2
  exact ha
 ·rw[JE (Ne.symm hk)] at h2
  have ne:a≠p:=fun z=>by
   subst z
   obtain⟨l1,e1⟩:=Jl.mp h1
   obtain⟨l2,e2⟩:=Jl.mp hn
   exact hk ((List.getElem_inj x.nd).mp (e1.trans e2.symm))
  exact(x.ats k a ob2 h1 h2).ext xe fun u e=>by rw[upd_ne ne];exact e
end
def b8(Γ:Gm)(H:Hp)(μ:Mu)(σ:L2.St)(env:aq):Prop:=σ.length=env.length∧∀ (i:Nat) (d:D),env[i]? =some (some d)→∃v,σ[i]? =some (some v)∧Rep Γ H μ v d
section
variable {Γ:Gm}{H H':Hp}{μ μ':Mu}{σ:L2.St}{env:aq}
theorem b8.ext(x:Ext Γ μ H μ' H')(h:b8 Γ H μ σ env):b8 Γ H' μ' σ env:=⟨h.1,fun i d e=>by
 obtain⟨v,h1,h2⟩:=h.2 i d e
 exact⟨v,h1,h2.ext x⟩⟩
theorem b8.set{v:V}{d:D}(h:b8 Γ H μ σ env)(i:Nat)(r:Rep Γ H μ v d):b8 Γ H μ (σ.set i (some v)) (env.set i (some d)):=⟨by simp[h.1],fun j e hj=>by
 by_cases hi:j=i
 ·subst hi
  have hl:j<env.length:=by
   have:=(Jl.mp hj).1
   simpa using this
  rw[JH hl] at hj
  cases hj
  exact⟨v,by rw[JH (by rw[h.1];exact hl)],r⟩
 ·rw[JE (Ne.symm hi)] at hj
  obtain⟨u,h1,h2⟩:=h.2 j e hj
  exact⟨u,by rw[JE (Ne.symm hi)];exact h1,h2⟩⟩
theorem b8.drop(h:b8 Γ H μ σ env)(i:Nat):b8 Γ H μ (σ.set i none) (env.set i none):=⟨by simp[h.1],fun j e hj=>by
 by_cases hi:j=i
 ·subst hi
  have hl:j<env.length:=by
   have:=(Jl.mp hj).1
   simpa using this
  rw[JH hl] at hj
  cases hj
 ·rw[JE (Ne.symm hi)] at hj
  obtain⟨u,h1,h2⟩:=h.2 j e hj
  exact⟨u,by rw[JE (Ne.symm hi)];exact h1,h2⟩⟩
end
def gn(Γ:Gm)(H₀:Hp)(μ':Mu)(H':Hp)(S':a0)(v:V):RV→Prop
 | .val d=>Sim Γ μ' H' S'∧Rep Γ H' μ' v d
 | .new ob=>∃a,v= .ref a∧H₀ a=none∧μ'.no a∧Sim Γ μ' H' S'∧Rep Γ H' μ' (.ref a) ob.toD∧Sim Γ (μ'.add a) H' (S'++[ob])
theorem gn.sim{Γ:Gm}{H₀:Hp}{μ':Mu}{H':Hp}{S':a0}{v:V}{r:RV}(h:gn Γ H₀ μ' H' S' v r):Sim Γ μ' H' S'∧Rep Γ H' μ' v r.d:=by
 cases r with
 |val d=>exact h
 |new ob=>obtain⟨a,rfl,_,_,h1,h2,_⟩:=h;exact⟨h1,h2⟩
def EF(Γ:Gm)(H:Hp)(μ:Mu)(cls:Value)(dx:Option Addr):D→Prop
 | .exc c d=>cls= .ref (Γ.cls c)∧∃a v,dx=some a∧Still H μ a (.xd [(Γ.xf c,v)])∧Rep Γ H μ v d
 |_=>False
def aU(Γ:Gm)(μ:Mu)(H:Hp)(Q:VK)(r:RV)(S':a0):Prop:=∀v H' μ',Ext Γ μ H μ' H'→gn Γ H μ' H' S' v r→Q v H'
def dw(Γ:Gm)(W:WX)(σ:L2.St)(μ:Mu)(H:Hp)(x:D)(S':a0):Prop:=∀cls dx H' μ',Ext Γ μ H μ' H'→Sim Γ μ' H' S'→EF Γ H' μ' cls dx x→W cls dx σ H'
abbrev ME:=aq→a0→R RV
abbrev MT:=aq→a0→R Bool
abbrev MA:=aq→a0→R (List D)
structure At(Γ:Gm)(σ:L2.St)(H:Hp)(env:aq)(S:a0)(μ:Mu):Prop where
 env:b8 Γ H μ σ env
 sim:Sim Γ μ H S
 tabs:ef Γ H
theorem At.next{Γ:Gm}{σ:L2.St}{H H':Hp}{env:aq}{S S':a0}{μ μ':Mu}(a:At Γ σ H env S μ)(x:Ext Γ μ H μ' H')(s:Sim Γ μ' H' S'):At Γ σ H' env S' μ':=⟨a.env.ext x,s,x.tabs a.tabs⟩
def ay(Γ:Gm)(W:WX)(f:ME):TE:=fun σ H Q=>∃env S μ,At Γ σ H env S μ∧(f env S).sat (aU Γ μ H Q) (dw Γ W σ μ H)
def rX(Γ:Gm)(μ:Mu)(H:Hp)(Q:Bool→Hp→Prop)(b:Bool)(S':a0):Prop:=∀H' μ',Ext Γ μ H μ' H'→Sim Γ μ' H' S'→Q b H'
def gG(Γ:Gm)(W:WX)(f:MT):TT:=fun σ H Q=>∃env S μ,At Γ σ H env S μ∧(f env S).sat (rX Γ μ H Q) (dw Γ W σ μ H)
def Gv(Γ:Gm)(μ:Mu)(H:Hp)(Q:List V→Hp→Prop)(ds:List D)(S':a0):Prop:=∀vs H' μ',Ext Γ μ H μ' H'→Sim Γ μ' H' S'→Reps Γ H' μ' vs ds→Q vs H'
def iD(Γ:Gm)(W:WX)(f:MA):TA:=fun σ H Q=>∃env S μ,At Γ σ H env S μ∧(f env S).sat (Gv Γ μ H Q) (dw Γ W σ μ H)
theorem _root_.L2.PE.weak{X:Cx}{e:Expr}{t t':TE}(h:PE X e t)(w:∀σ H Q,t' σ H Q→t σ H Q):PE X e t':=⟨fun pins s σ H Q I q=>h.run pins s σ H Q I (w σ H Q q)⟩
theorem _root_.L2.PT.weak{X:Cx}{e:Expr}{t t':TT}(h:PT X e t)(w:∀σ H Q,t' σ H Q→t σ H Q):PT X e t':=⟨fun pins s σ H Q I q=>h.run pins s σ H Q I (w σ H Q q)⟩
theorem _root_.L2.PW.weak{X:Cx}{e:Expr}{t t':TT}(h:PW X e t)(w:∀σ H Q,t' σ H Q→t σ H Q):PW X e t':=⟨fun wh pins s σ H Q I q=>h.run wh pins s σ H Q I (w σ H Q q)⟩
theorem _root_.L2.PA.weak{X:Cx}{e:List Expr}{t t':TA}(h:PA X e t)(w:∀σ H Q,t' σ H Q→t σ H Q):PA X e t':=⟨fun pos pins s σ H Q I q=>h.run pos pins s σ H Q I (w σ H Q q)⟩
theorem aW{Γ:Gm}{W:WX}{f:ME}{σ:L2.St}{H:Hp}{env:aq}{S:a0}{μ:Mu}{g:RV→a0→Prop}(a:At Γ σ H env S μ)
  (h:(f env S).sat g (dw Γ W σ μ H)) {Q:VK} (q:∀r S' v H' μ',Ext Γ μ H μ' H'→gn Γ H μ' H' S' v r→g r S'→Q v H'):ay Γ W f σ H Q:=
 ⟨env,S,μ,a,R.sat_imp h (fun r S' hg v H' μ' x rv=>q r S' v H' μ' x rv hg) fun _ _ e=>e⟩
theorem dw.ext{Γ:Gm}{W:WX}{σ:L2.St}{H H1:Hp}{μ μ1:Mu}{x:D}{S':a0}(e:Ext Γ μ H μ1 H1)(h:dw Γ W σ μ H x S'):dw Γ W σ μ1 H1 x S':=fun cls dx H' μ' e' s q=>h cls dx H' μ' (e.trans e') s q
theorem gn.ext0{Γ:Gm}{H₀ H₁:Hp}{μ':Mu}{H':Hp}{S':a0}{v:V}{r:RV}(e:∀a,H₁ a=none→H₀ a=none)(h:gn Γ H₁ μ' H' S' v r):gn Γ H₀ μ' H' S' v r:=by
 cases r with
 |val d=>exact h
 |new ob=>obtain⟨a,h0,h1,h2⟩:=h;exact⟨a,h0,e a h1,h2⟩
theorem Ext.back{Γ:Gm}{μ μ':Mu}{H H':Hp}(x:Ext Γ μ H μ' H'):∀a,H' a=none→H a=none:=fun a h=>by
 cases e:H a with
 |none=>rfl
 |some o=>obtain⟨o',h'⟩:=x.here a o e;rw[h] at h';cases h'
theorem aU.ext{Γ:Gm}{Q:VK}{H H1:Hp}{μ μ1:Mu}{r:RV}{S':a0}(e:Ext Γ μ H μ1 H1)(h:aU Γ μ H Q r S'):aU Γ μ1 H1 Q r S':=fun v H' μ' e' rv=>h v H' μ' (e.trans e') (rv.ext0 e.back)
theorem rX.ext{Γ:Gm}{Q:Bool→Hp→Prop}{H H1:Hp}{μ μ1:Mu}{r:Bool}{S':a0}(e:Ext Γ μ H μ1 H1)(h:rX Γ μ H Q r S'):rX Γ μ1 H1 Q r S':=fun H' μ' e' s=>h H' μ' (e.trans e') s
theorem aU.here{Γ:Gm}{Q:VK}{H:Hp}{μ:Mu}{S:a0}{v:V}{d:D}(s:Sim Γ μ H S)(r:Rep Γ H μ v d)(h:aU Γ μ H Q (.val d) S):Q v H:=h v H μ .refl ⟨s,r⟩
theorem aU.laid{Γ:Gm}{Q:VK}{H:Hp}{μ:Mu}{S:a0}{p:Addr}{o:HO}{d:D}(s:Sim Γ μ H S)(hp:H p=none)(r:Rep Γ (upd H p o) μ (.ref p) d)(h:aU Γ μ H Q (.val d) S):Q (.ref p) (upd H p o):=
 h _ _ μ (Ext.laid hp o) ⟨s.laid hp o,r⟩
theorem aU.new{Γ:Gm}{Q:VK}{H:Hp}{μ:Mu}{S:a0}{p:Addr}{o:HO}{ob:Ob}(s:Sim Γ μ H S)(hp:H p=none)(r:Rep Γ (upd H p o) μ (.ref p) ob.toD)(r2:cy Γ (upd H p o) (μ.add p) p ob)(h:aU Γ μ H Q (.new ob) S):Q (.ref p) (upd H p o):=
 h _ _ μ (Ext.laid hp o) ⟨p,rfl,hp,s.nnew hp,s.laid hp o,r,s.alloc hp o r2⟩
theorem lI{H:Hp}{μ:Mu}{p:Addr}{o:HO}(h:μ.no p):Still (upd H p o) μ p o:=⟨upd_same,h⟩
theorem aU.newL{Γ:Gm}{Q:VK}{H:Hp}{μ:Mu}{S:a0}{p:Addr}{vs:List V}{ds:List D}(s:Sim Γ μ H S)(hp:H p=none)(r:Reps Γ H μ vs ds)(h:aU Γ μ H Q (.new (.lst ds)) S):Q (.ref p) (upd H p (.lst vs)):=
 aU.new (ob:=.lst ds) s hp (.lst (lI (s.nnew hp)) (r.ext (Ext.laid hp _))) ⟨vs,upd_same,r.ext (Ext.alloc hp _)⟩ h
theorem aU.newT{Γ:Gm}{Q:VK}{H:Hp}{μ:Mu}{S:a0}{p:Addr}{ob:Obj}{vs:List V}{ds:List D}(s:Sim Γ μ H S)(e:ob.dict=none)(hp:H p=none)(r:Reps Γ H μ vs ds)(h:aU Γ μ H Q (.val (.tup ds)) S):Q (.ref p) (upd H p (.frz ob (.tup vs))):=
 h.laid s hp (.tup (.inl ⟨ob,e,lI (s.nnew hp)⟩) (r.ext (Ext.laid hp _)))
theorem aU.newTN{Γ:Gm}{Q:VK}{H:Hp}{μ:Mu}{S:a0}{vs:List V}{ds:List D}(s:Sim Γ μ H S)(r:Reps Γ H μ vs ds)(h:aU Γ μ H Q (.val (.tup ds)) S):oO H Q vs:=fun p ob e hp=>aU.newT s e hp r h
section
variable {Γ:Gm}{X:Cx}{W:WX}{pos:Pos}
def ae(i:Nat):ME:=fun env S=>match env[i]? with|some (some d)=>.ok (.val d) S|_=>.bad
theorem DY{i:Nat}{x:Str}(hN:X.N[i]? =some x)(hv:Vis X.env.scope x)(hd:(x==("__debug__":Str))=false)(hcd:(x==("__classdict__":Str))=false):PE X (.Name x pos) (ay Γ W (ae i)):=
 (pe_var hN hv hd hcd).weak fun σ H Q h=>by
  obtain⟨env,S,μ,a,h⟩:=h
  unfold ae at h
  split at h
  ·rename_i d e
   obtain⟨v,h1,h2⟩:=a.env.2 i d e
   exact⟨v,h1,h.here a.sim h2⟩
  ·exact False.elim h
def ah(d:D):ME:=fun _ S=>.ok (.val d) S
theorem jC{e:Expr}{v:V}{d:D}(h:PE X e (tC v))(r:∀H μ,Rep Γ H μ v d):PE X e (ay Γ W (ah d)):=h.weak fun σ H Q h=>by
 obtain⟨env,S,μ,a,h⟩:=h
 exact aU.here a.sim (r H μ) h
theorem ax{i:Int}{j:Nat}:PE X (.Constant (.int i) j pos) (ay Γ W (ah (.int i))):=jC pe_int fun _ _=>.int i
theorem jP{b:Bool}{j:Nat}:PE X (.Constant (.bool b) j pos) (ay Γ W (ah (.bl b))):=jC pe_bl fun _ _=>.bl b
theorem Cf{j:Nat}:PE X (.Constant .none j pos) (ay Γ W (ah .non)):=jC pe_non fun _ _=>.non
theorem aO{x:Str}{j:Nat}:PE X (.Constant (.str x) j pos) (ay Γ W (ah (.str x))):=jC pe_str fun _ _=>.str x
def av(op:a0→D→D→Option RV)(f g:ME):ME:=fun env S=>(f env S).bind fun x S1=>(g env S1).bind fun y S2=>match op S2 x.d y.d with|some r=>.ok r S2|none=>.bad
def qV(Γ:Gm)(op:a0→D→D→Option RV)(r:R2):Prop:=∀ (H:Hp) (μ:Mu) (S:a0) (x y:V) (dx dy:D) (z:RV) (Q:VK),Sim Γ μ H S→Rep Γ H μ x dx→Rep Γ H μ y dy→op S dx dy=some z→aU Γ μ H Q z S→r x y H Q
theorem ng{op:a0→D→D→Option RV}{f g:ME}{r:R2}(hr:qV Γ op r){σ:L2.St}{H:Hp}{Q:VK}(h:ay Γ W (av op f g) σ H Q):tOp r (ay Γ W f) (ay Γ W g) σ H Q:=by
 obtain⟨env,S,μ,a,h⟩:=h
 unfold av at h
 rw[R.sat_bind] at h
 refine aW a (R.sat_imp h (fun r S' q=>q) fun x S' q=>q) fun r1 S1 v1 H1 μ1 x1 rv1 q1=>?_
 obtain⟨s1,p1⟩:=rv1.sim
 rw[R.sat_bind] at q1
 refine aW (a.next x1 s1) (R.sat_imp q1 (fun r S' q=>q) fun x S' q=>q.ext x1) fun r2 S2 v2 H2 μ2 x2 rv2 q2=>?_
 obtain⟨s2,p2⟩:=rv2.sim
 split at q2
 ·rename_i z e
  exact hr H2 μ2 S2 v1 v2 _ _ z Q s2 (p1.ext x2) p2 e (aU.ext (x1.trans x2) q2)
 ·exact False.elim q2
theorem FA{op:Operator}{a b:Expr}{f g:ME}{r:R2}{o:a0→D→D→Option RV}(ho:OpR X (binaryOp op) r)(hr:qV Γ o r)(ha:PE X a (ay Γ W f))(hb:PE X b (ay Γ W g)):PE X (.BinOp a op b pos) (ay Γ W (av o f g)):=
 (pe_op ho ha hb).weak fun σ H Q h=>ng hr h
theorem Ee{op:CmpOp}{a b:Expr}{f g:ME}{r:R2}{o:a0→D→D→Option RV}(ho:OpR X (compareOp op) r)(hr:qV Γ o r)(ha:PE X a (ay Γ W f))(hb:PE X b (ay Γ W g))(hm:behindInMarks op b=false):PE X (.Compare a [op] [b] pos) (ay Γ W (av o f g)):=
 (pe_cmpR ho ha hb hm).weak fun σ H Q h=>ng hr h
def ao(f:ME):MT:=fun env S=>(f env S).bind fun x S1=>match x with| .val (.bl b)=>.ok b S1|_=>.bad
theorem ni{f:ME}{t:TE}{σ:L2.St}{H:Hp}{Q:Bool→Hp→Prop}(ht:∀Q',ay Γ W f σ H Q'→t σ H Q')(h:gG Γ W (ao f) σ H Q):t σ H fun x H'=>∃k,x= .bl k∧Q k H':=by
 obtain⟨env,S,μ,a,h⟩:=h
 unfold ao at h
 rw[R.sat_bind] at h
 refine ht _ (aW a h fun r1 S1 v1 H1 μ1 x1 rv1 q1=>?_)
 split at q1
 ·rename_i b
  obtain⟨s1,p1⟩:=rv1.sim
  cases p1
  exact⟨b,rfl,q1 H1 μ1 x1 s1⟩
 ·exact False.elim q1
theorem zz{op:CmpOp}{a b:Expr}{f g:ME}{r:R2}{o:a0→D→D→Option RV}(ho:OpR X (compareOp op) r)(hr:qV Γ o r)(ha:PE X a (ay Γ W f))(hb:PE X b (ay Γ W g))(hm:behindInMarks op b=false):PT X (.Compare a [op] [b] pos) (gG Γ W (ao (av o f g))):=
 (pt_cmpR ho ha hb hm).weak fun σ H Q h=>ni (fun Q' h'=>ng hr h') h
theorem zW{e:Expr}{f:ME}(h:PE X e (ay Γ W f))(he:∀whole,isTrue e X.env whole=(do let v ← whole;standAt e.pos;holding [v] (truthy v))):PT X e (gG Γ W (ao f)):=
 (pt_val h he).weak fun σ H Q h=>ni (fun Q' h'=>h') h
def BV(o1 o2:a0→D→D→Option RV)(f g k:ME):ME:=fun env S=>(f env S).bind fun x S1=>(g env S1).bind fun y S2=>match o1 S2 x.d y.d with
 |some (.val (.bl true))=>(k env S2).bind fun z S3=>match o2 S3 y.d z.d with|some r=>.ok r S3|none=>.bad
 |some (.val (.bl false))=>.ok (.val (.bl false)) S2
 |_=>.bad
end
def dR(S:a0):D→Option (List D)
 | .lst xs=>some xs
 | .ref n=>match S[n]? with|some (.lst xs)=>some xs|_=>none
 |_=>none
def fz(S:a0)(d:D):Option (List D):=
 match d with
 | .tup xs=>some xs
 | .scr xs=>some xs
 | .lst xs=>some xs
 | .ref n=>match S[n]? with|some (.lst xs)=>some xs|_=>none
 |_=>none
section
variable {Γ:Gm}{H:Hp}{μ:Mu}{S:a0}{v:V}{d:D}{xs:List D}
theorem bD(s:Sim Γ μ H S)(r:Rep Γ H μ v d)(h:dR S d=some xs):∃a vs,v= .ref a∧H a=some (.lst vs)∧Reps Γ H μ vs xs:=by
 cases r with
 |lst h1 h2=>cases h;exact⟨_,_,rfl,h1.1,h2⟩
 |ref h1=>
  simp only[dR] at h
  split at h
  ·rename_i e2
   cases h
   obtain⟨vs,h3,h4⟩:=s.ats _ _ _ h1 e2
   exact⟨_,vs,rfl,h3,h4⟩
  ·cases h
 |_=>cases h
theorem Rep.tupA(r:Rep Γ H μ v (.tup xs)):∃a vs,v= .ref a∧SqT Γ.K H a vs∧Reps Γ H μ vs xs:=by
 cases r with
 |tup h1 h2=>
  rcases h1 with h1|h1
  ·obtain⟨ob,_,h1⟩:=h1
   exact⟨_,_,rfl,.inl (.inr ⟨_,h1.1⟩),h2⟩
  ·exact⟨_,_,rfl,h1.sq,h2⟩
theorem Rep.scrA(r:Rep Γ H μ v (.scr xs)):∃a vs,v= .ref a∧SqL Γ.K H a vs∧Reps Γ H μ vs xs:=by
 cases r with
 |scr h1 h2=>exact⟨_,_,rfl,.inl (.inr ⟨_,h1.1⟩),h2⟩
theorem jO(s:Sim Γ μ H S)(r:Rep Γ H μ v d)(h:fz S d=some xs):∃a vs,v= .ref a∧(SqL Γ.K H a vs∨SqT Γ.K H a vs)∧Reps Γ H μ vs xs:=by
 cases d with
 |tup ys=>cases h;obtain⟨a,vs,e,h1,h2⟩:=r.tupA;exact⟨a,vs,e,.inr h1,h2⟩
 |scr ys=>cases h;obtain⟨a,vs,e,h1,h2⟩:=r.scrA;exact⟨a,vs,e,.inl h1,h2⟩
 |lst ys=>obtain⟨a,vs,e,h1,h2⟩:=bD (xs:=xs) s r h;exact⟨a,vs,e,.inl (.of h1),h2⟩
 |ref n=>obtain⟨a,vs,e,h1,h2⟩:=bD (xs:=xs) s r h;exact⟨a,vs,e,.inl (.of h1),h2⟩
 |_=>cases h
mutual
def cO:D→Option PyData
 | .non=>some .none
 | .bl b=>some (.bool b)
 | .int i=>some (.int i)
 | .str x=>some (.str x)
 | .tup xs=>(cJ xs).map .tuple
 | .lst xs=>(cJ xs).map .list
 | .scr xs=>(cJ xs).map .list
 |_=>none
def cJ:List D→Option (List PyData)
 | []=>some []
 |d::ds=>match cO d,cJ ds with|some p,some ps=>some (p::ps)|_,_=>none
end
def ib(S:a0):D→Option PyData
 | .ref n=>match S[n]? with|some (.lst xs)=>(cJ xs).map .list|_=>none
 |d=>cO d
mutual
theorem vv:∀ {d:D} {v:V} {p:PyData},Rep Γ H μ v d→cO d=some p→Dp Γ.K H v p
 | .non,_,_,r,h=>by cases r;unfold cO at h;cases h;exact .non
 | .bl b,_,_,r,h=>by cases r;unfold cO at h;cases h;exact .bl b
 | .int i,_,_,r,h=>by cases r;unfold cO at h;cases h;exact .int i
 | .str x,_,_,r,h=>by cases r;unfold cO at h;cases h;exact .str x
 | .tup xs,_,_,r,h=>by
  obtain⟨a,vs,rfl,h1,h2⟩:=r.tupA
  unfold cO at h
  obtain⟨ps,h3,rfl⟩:=Jh.mp h
  exact .tup h1 (gD h2 h3)
 | .lst xs,_,_,r,h=>by
  cases r with
  |lst h1 h2=>
   unfold cO at h
   obtain⟨ps,h3,rfl⟩:=Jh.mp h
   exact .lst (.of h1.1) (gD h2 h3)
 | .scr xs,_,_,r,h=>by
  obtain⟨a,vs,rfl,h1,h2⟩:=r.scrA
  unfold cO at h
  obtain⟨ps,h3,rfl⟩:=Jh.mp h
  exact .lst h1 (gD h2 h3)
 | .dct _ _,_,_,_,h| .dcn _ _,_,_,_,h=>by unfold cO at h;cases h
 | .ins _ _,_,_,_,h=>by unfold cO at h;cases h
 | .exc _ _,_,_,_,h=>by unfold cO at h;cases h
 | .glb _,_,_,_,h=>by unfold cO at h;cases h
 | .clo _ _,_,_,_,h=>by unfold cO at h;cases h
 | .ref _,_,_,_,h=>by unfold cO at h;cases h
theorem gD:∀ {ds:List D} {vs:List V} {ps:List PyData},Reps Γ H μ vs ds→cJ ds=some ps→DpAll Γ.K H vs ps
 | [],_,_,r,h=>by cases r;unfold cJ at h;cases h;exact .nil
 |d::ds,_,_,r,h=>by
  cases r with
  |cons r1 r2=>
   unfold cJ at h
   split at h
   ·rename_i p ps e1 e2
    cases h
    exact .cons (vv r1 e1) (gD r2 e2)
   ·cases h
end
theorem dX(s:Sim Γ μ H S){p:PyData}(r:Rep Γ H μ v d)(h:ib S d=some p):Dp Γ.K H v p:=by
 cases d with
 |ref n=>
  unfold ib at h
  split at h
  ·rename_i n' e0
   cases e0
   split at h
   ·rename_i xs e
    obtain⟨ps,h3,rfl⟩:=Jh.mp h
    obtain⟨a,vs,rfl,h1,h2⟩:=bD (xs:=xs) s r (by unfold dR;simp only[e])
    exact .lst (.of h1) (gD h2 h3)
   ·cases h
  ·rename_i n1;exact absurd rfl (n1 n)
 |_=>exact vv r h
end
def aP(S:a0)(x y:D):Option RV:=
 match x,y with
 | .int i,.int j=>some (.val (.int (i+j)))
 | .str a,.str b=>if a.length+b.length≤16777216 then some (.val (.str (a++b))) else none
 | .tup xs,.tup ys=>if xs.length+ys.length≤16777216 then some (.val (.tup (xs++ys))) else none
 |x,y=>match dR S x,dR S y with
  |some xs,some ys=>if xs.length+ys.length≤16777216 then some (.new (.lst (xs++ys))) else none
  |_,_=>none
def BM(K:PySem.W.Frag):R2:=fun x y H Q=>(rI0 fun i j=>.int (i+j)) x y H Q∨(∃i j,x= .str i∧y= .str j∧i.length+j.length≤sizeLine∧Q (.str (i++j)) H)∨rCat x y H Q∨Bk K x y H Q
theorem Ag{X:Cx}:OpR X (binaryOp .Add) (BM X.K):=op_add.or (op_add_str.or (op_cat.or zm))
theorem Cv{Γ:Gm}:qV Γ aP (BM Γ.K):=by
 intro H μ S x y dx dy z Q s rx ry h q
 unfold aP at h
 split at h
 ·rename_i i j
  cases h
  cases rx;cases ry
  exact .inl ⟨i,j,rfl,rfl,q.here s (.int _)⟩
 ·rename_i a b
  split at h
  ·rename_i hl
   cases h
   cases rx;cases ry
   exact .inr (.inl ⟨a,b,rfl,rfl,by rw[sizeLine_eq];exact hl,q.here s (.str _)⟩)
  ·cases h
 ·rename_i xs ys
  split at h
  ·rename_i hl
   cases h
   obtain⟨a,vs,rfl,h1,h2⟩:=rx.tupA
   obtain⟨b,ws,rfl,h3,h4⟩:=ry.tupA
   have l1:=h2.length
   have l2:=h4.length
   refine .inr (.inr (.inr ⟨a,b,vs,ws,rfl,rfl,h1,h3,by rw[sizeLine_eq];omega,fun e=>?_,fun _ e=>?_,fun _ _=>?_⟩))
   ·have:xs=[]:=by subst e;exact List.eq_nil_of_length_eq_zero l1.symm
    subst this
    exact q.here s ry
   ·have:ys=[]:=by subst e;exact List.eq_nil_of_length_eq_zero l2.symm
    subst this
    rw[JC] at q
    exact q.here s rx
   ·exact aU.newTN s (h2.append h4) q
  ·cases h
 ·split at h
  ·rename_i xs ys e1 e2
   split at h
   ·rename_i hl
    cases h
    obtain⟨a,vs,rfl,h1,h2⟩:=bD s rx e1
    obtain⟨b,ws,rfl,h3,h4⟩:=bD s ry e2
    have l1:=h2.length
    have l2:=h4.length
    exact .inr (.inr (.inl ⟨a,b,vs,ws,rfl,rfl,h1,h3,by rw[sizeLine_eq];omega,fun p hp=>aU.newL s hp (h2.append h4) q⟩))
   ·cases h
  ·cases h
def Im(_:a0)(x y:D):Option RV:=
 match x,y with
 | .int i,.int j=>some (.val (.int (i-j)))
 |_,_=>none
def bU(i:Int):Bool:=decide (-(18446744073709551616)<i)&&decide (i<18446744073709551616)
theorem lu{i:Int}(h:bU i=true): -(2^64)<i∧i<2^64:=by
 unfold bU at h
 simp only[Jy,JB] at h
 have e:(2:Int)^64=18446744073709551616:=by decide
 rw[e];exact h
def qv(n:Nat)(xs:List D):List D:=(List.replicate n xs).flatten
theorem Reps.rep{Γ:Gm}{H:Hp}{μ:Mu}{vs:List V}{ds:List D}(r:Reps Γ H μ vs ds):∀n:Nat,Reps Γ H μ (List.replicate n vs).flatten (List.replicate n ds).flatten
 |0=>.nil
 |n+1=>by rw[List.replicate_succ,List.replicate_succ,List.flatten_cons,List.flatten_cons];exact r.append (r.rep n)
def bQ(S:a0)(x y:D):Option RV:=
 match x,y with
 | .int i,.int j=>if bU i||bU j||decide (i.natAbs.log2+j.natAbs.log2<1000000) then some (.val (.int (i*j))) else none
 | .tup xs,.int k=>if decide (-1000≤k)&&decide (k≤1000)&&decide (xs.length≤1000) then some (.val (.tup (qv k.toNat xs))) else none
 |x,.int k=>match dR S x with
  |some xs=>if decide (-(9223372036854775808)≤k)&&decide (k<9223372036854775808)&&decide (xs.length*k.toNat≤16777216) then some (.new (.lst (qv k.toNat xs))) else none
  |none=>none
 |_,_=>none
def BE(K:PySem.W.Frag):R2:=fun x y H Q=>(rI CMul fun i j=>.int (i*j)) x y H Q∨(rI CMulW fun i j=>.int (i*j)) x y H Q∨rRep x y H Q∨BH K x y H Q
theorem B6{X:Cx}:OpR X (binaryOp .Mult) (BE X.K):=op_mul.or (op_mulW.or (op_rep.or zS))
theorem Eo{Γ:Gm}:qV Γ bQ (BE Γ.K):=by
 intro H μ S x y dx dy z Q s rx ry h q
 unfold bQ at h
 split at h
 ·rename_i i j
  split at h
  ·rename_i hl
   cases h
   cases rx;cases ry
   rcases Bool.or_eq_true_iff.mp hl with hl|hl
   ·refine .inl ⟨i,j,rfl,rfl,?_,q.here s (.int _)⟩
    rcases Bool.or_eq_true_iff.mp hl with hl|hl
    ·exact .inl (lu hl)
    ·exact .inr (lu hl)
   ·exact .inr (.inl ⟨i,j,rfl,rfl,(show i.natAbs.log2+j.natAbs.log2<1000000 from JL hl),q.here s (.int _)⟩)
  ·cases h
 ·rename_i xs k
  split at h
  ·rename_i hl
   cases h
   simp only[Jy,JB] at hl
   obtain⟨a,vs,rfl,h1,h2⟩:=rx.tupA
   cases ry
   have l1:=h2.length
   refine .inr (.inr (.inr ⟨a,k,vs,rfl,rfl,h1,hl.1.1,hl.1.2,by omega,fun e=>?_,fun _=>aU.newTN s (h2.rep _) q⟩))
   have e2:qv k.toNat xs=xs:=by
    rcases e with e|e
    ·subst e
     have:xs=[]:=List.eq_nil_of_length_eq_zero l1.symm
     subst this
     unfold qv
     simp
    ·subst e
     unfold qv
     simp
   rw[e2] at q
   exact q.here s rx
  ·cases h
 ·rename_i k _ _
  split at h
  ·rename_i xs e
   split at h
   ·rename_i hl
    cases h
    simp only[Jy,JB] at hl
    obtain⟨a,vs,rfl,h1,h2⟩:=bD s rx e
    cases ry
    have l1:=h2.length
    have e63:(2:Int)^63=9223372036854775808:=by decide
    exact .inr (.inr (.inl ⟨a,k,vs,rfl,rfl,h1,by rw[e63];exact hl.1.1,by rw[e63];exact hl.1.2,by rw[sizeLine_eq,l1];exact hl.2,fun p hp=>aU.newL s hp (h2.rep _) q⟩))
   ·cases h
  ·cases h
 ·cases h
def dU(_:a0)(x y:D):Option RV:=
 match x,y with
 | .int i,.int j=>if j=0 then none else some (.val (.int (i.fmod j)))
 |_,_=>none
theorem D3{Γ:Gm}:qV Γ dU (rI (fun _ j=>j≠0) fun i j=>.int (i.fmod j)):=by
 intro H μ S x y dx dy z Q s rx ry h q
 unfold dU at h
 split at h
 ·rename_i i j
  split at h
  ·cases h
  ·rename_i hj
   cases h
   cases rx;cases ry
   exact⟨i,j,rfl,rfl,hj,q.here s (.int _)⟩
 ·cases h
def iy(_:a0)(x y:D):Option RV:=
 match x,y with
 | .int i,.int j=>if j≠0∧j.natAbs<1073741824 then some (.val (.int (i.fdiv j))) else none
 |_,_=>none
theorem AU{Γ:Gm}:qV Γ iy (rI CDivN fun i j=>.int (i.fdiv j)):=by
 intro H μ S x y dx dy z Q s rx ry h q
 unfold iy at h
 split at h
 ·rename_i i j
  split at h
  ·rename_i hj
   cases h
   cases rx;cases ry
   exact⟨i,j,rfl,rfl,hj,q.here s (.int _)⟩
  ·cases h
 ·cases h
def ou(_:a0)(x y:D):Option RV:=
 match x,y with
 | .int i,.int j=>if 0≤j∧j≤1000000∧i.natAbs<18446744073709551616 then some (.val (.int (i^j.toNat))) else none
 |_,_=>none
theorem Cj{Γ:Gm}:qV Γ ou (rI CPow fun i j=>.int (i^j.toNat)):=by
 intro H μ S x y dx dy z Q s rx ry h q
 unfold ou at h
 split at h
 ·rename_i i j
  split at h
  ·rename_i hj
   cases h
   cases rx;cases ry
   refine⟨i,j,rfl,rfl,⟨hj.1,hj.2.1,?_⟩,q.here s (.int _)⟩
   have e:(2:Nat)^64=18446744073709551616:=by decide
   rw[e];exact hj.2.2
  ·cases h
 ·cases h
def eqB(S:a0)(x y:D):Option Bool:=match ib S x,ib S y with
 |some p,some q=>if SeqAt.shaped p&&SeqAt.shaped q then some (PyData.eqv p q) else none
 |_,_=>none
def dH(S:a0)(x y:D):Option RV:=(eqB S x y).map fun b=>.val (.bl b)
def dq(S:a0)(x y:D):Option RV:=(eqB S x y).map fun b=>.val (.bl (!b))
theorem w9{Γ:Gm}{H:Hp}{μ:Mu}{S:a0}{x y:V}{dx dy:D}{b:Bool}(s:Sim Γ μ H S)(rx:Rep Γ H μ x dx)(ry:Rep Γ H μ y dy)(h:eqB S dx dy=some b):
  ∃d e,Dp Γ.K H x d∧Dp Γ.K H y e∧SeqAt.shaped d=true∧SeqAt.shaped e=true∧b=PyData.eqv d e:=by
 unfold eqB at h
 split at h
 ·rename_i p q e1 e2
  split at h
  ·rename_i hs
   cases h
   obtain⟨s1,s2⟩:=Jn.mp hs
   exact⟨p,q,dX s rx e1,dX s ry e2,s1,s2,rfl⟩
  ·cases h
 ·cases h
theorem Hm{Γ:Gm}:qV Γ dH (rEqD Γ.K):=by
 intro H μ S x y dx dy z Q s rx ry h q
 obtain⟨b,hb,rfl⟩:=Jh.mp h
 obtain⟨d,e,h1,h2,h3,h4,rfl⟩:=w9 s rx ry hb
 exact⟨d,e,h1,h2,h3,h4,q.here s (.bl _)⟩
theorem Fd{Γ:Gm}:qV Γ dq (rNeD Γ.K):=by
 intro H μ S x y dx dy z Q s rx ry h q
 obtain⟨b,hb,rfl⟩:=Jh.mp h
 obtain⟨d,e,h1,h2,h3,h4,rfl⟩:=w9 s rx ry hb
 exact⟨d,e,h1,h2,h3,h4,q.here s (.bl _)⟩
def isNon:D→Bool
 | .non=>true
 |_=>false
def FO(_:a0)(x y:D):Option RV:=match y with| .non=>some (.val (.bl (isNon x)))|_=>none
def af:List ME→MA
 | []=>fun _ S=>.ok [] S
 |f::fs=>fun env S=>(f env S).bind fun x S1=>(af fs env S1).bind fun xs S2=>.ok (x.d::xs) S2
def notStar:Expr→Bool
 | .Starred _ _=>false
 |_=>true
theorem aE{e:Expr}{es:List Expr}{env:Env}(h:notStar e=true):starEach (e::es) env=(false,eval e env)::starEach es env:=by
 cases e<;>first|rfl|cases h
theorem star_any:∀ {es:List Expr} {env:Env} {pos:Pos},es.all notStar=true→(backTo pos (starEach es env)).any (·.1)=false
 | [],_,_,_=>rfl
 |e::es,env,pos,h=>by
  obtain⟨h1,h2⟩:=Jn.mp (show(notStar e&&es.all notStar)=true from h)
  rw[aE h1]
  exact star_any (es:=es) (env:=env) (pos:=pos) h2
section
variable {Γ:Gm}{X:Cx}{W:WX}{pos:Pos}
theorem iR:PA X [] (iD Γ W (af [])):=pa_nil.weak fun σ H Q h=>by
 obtain⟨env,S,μ,a,h⟩:=h
 exact h _ H μ .refl a.sim .nil
theorem fT{e:Expr}{es:List Expr}{f:ME}{fs:List ME}(hs:notStar e=true)(he:PE X e (ay Γ W f))(hr:PA X es (iD Γ W (af fs))):PA X (e::es) (iD Γ W (af (f::fs))):=
 (pa_cons he hr (aE hs)).weak fun σ H Q h=>by
  obtain⟨env,S,μ,a,h⟩:=h
  unfold af at h
  rw[R.sat_bind] at h
  refine aW a (R.sat_imp h (fun r S' q=>q) fun x S' q=>q) fun r1 S1 v1 H1 μ1 x1 rv1 q1=>?_
  obtain⟨s1,p1⟩:=rv1.sim
  rw[R.sat_bind] at q1
  refine⟨env,S1,μ1,a.next x1 s1,R.sat_imp q1 (fun ds S2 q2 vs H2 μ2 x2 s2 rs=>?_) fun x S' q=>q.ext x1⟩
  exact q2 _ _ _ (x1.trans x2) s2 (.cons (p1.ext x2) rs)
inductive Sds(Γ:Gm)(X:Cx)(W:WX):List Expr→List ME→Prop
 |nil:Sds Γ X W [] []
 |cons {e:Expr} {es:List Expr} {f:ME} {fs:List ME}:notStar e=true→PE X e (ay Γ W f)→Sds Γ X W es fs→Sds Γ X W (e::es) (f::fs)
theorem Sds.pa{es:List Expr}{fs:List ME}(h:Sds Γ X W es fs):PA X es (iD Γ W (af fs)):=by
 induction h with
 |nil=>exact iR
 |cons hs he _ ih=>exact fT hs he ih
theorem Sds.ns{es:List Expr}{fs:List ME}(h:Sds Γ X W es fs):es.all notStar=true:=by
 induction h with
 |nil=>rfl
 |cons hs he _ ih=>rw[List.all_cons,hs,ih];rfl
def zL(k:List D→RV)(m:MA):ME:=fun env S=>(m env S).bind fun xs S1=>if xs.length≤16777216 then .ok (k xs) S1 else .bad
def fF(m:MA):ME:=zL (fun xs=>.val (.tup xs)) m
def bo(m:MA):ME:=zL (fun xs=>.new (.lst xs)) m
theorem gF{m:MA}{f:List D→a0→R RV}{σ:L2.St}{H:Hp}{Q:VK}{k:List V→Hp→Prop}(h:ay Γ W (fun env S=>(m env S).bind f) σ H Q)
  (hk:∀vs H' μ' ds S' env,At Γ σ H' env S' μ'→Reps Γ H' μ' vs ds→(f ds S').sat (aU Γ μ' H' Q) (dw Γ W σ μ' H')→k vs H'):iD Γ W m σ H k:=by
 obtain⟨env,S,μ,a,h⟩:=h
 rw[R.sat_bind] at h
 refine⟨env,S,μ,a,R.sat_imp h (fun ds S' q vs H' μ' x s rs=>?_) fun x S' q=>q⟩
 exact hk vs H' μ' ds S' env (a.next x s) rs (R.sat_imp q (fun r S2 p=>p.ext x) fun e S2 p=>p.ext x)
theorem CT{es:List Expr}{m:MA}{k:Nat}(h:PA X es (iD Γ W m)):PE X (.Tuple es k pos) (ay Γ W (fF m)):=
 (A9 h).weak fun σ H Q h=>gF h fun vs H' μ' ds S' env a rs q=>by
  split at q
  ·rename_i hl
   exact⟨by rw[sizeLine_eq,rs.length];exact hl,aU.newTN a.sim rs q⟩
  ·exact False.elim q
theorem Ce{es:List Expr}{m:MA}(h:PA X es (iD Γ W m)):PE X (.List es pos) (ay Γ W (bo m)):=
 (pe_lst h).weak fun σ H Q h=>gF h fun vs H' μ' ds S' env a rs q=>by
  split at q
  ·rename_i hl
   exact⟨by rw[sizeLine_eq,rs.length];exact hl,fun p hp=>aU.newL a.sim hp rs q⟩
  ·exact False.elim q
def isKey(k:Key):D→Bool
 | .int i=>match k with| .inl j=>i==j| .inr _=>false
 | .str x=>match k with| .inr y=>decide (x=y)| .inl _=>false
 |_=>false
def keyOf:D→Option Key
 | .int i=>some (.inl i)
 | .str x=>some (.inr x)
 |_=>none
def eN(k:Key):List D→List D→Option D
 |kd::ks,v::vs=>if isKey k kd then some v else eN k ks vs
 |_,_=>none
theorem eX(k j:Key):isKey k (keyD j)=decide (j=k):=by
 cases j with
 |inl i=>
  cases k with
  |inl j=>
   show(i==j)=_
   by_cases h:i=j
   ·subst h;simp
   ·rw[Jr (fun z=>h (Sum.inl.inj z))];exact beq_eq_false_iff_ne.mpr h
  |inr y=>exact(Jr (fun z=>nomatch z)).symm
 |inr x=>
  cases k with
  |inl j=>exact(Jr (fun z=>nomatch z)).symm
  |inr y=>
   show decide (x=y)=_
   by_cases h:x=y
   ·subst h;simp
   ·rw[Jr h,Jr (fun z=>h (Sum.inr.inj z))]
theorem ju{H:Hp}{μ:Mu}{v:V}{d:D}{k:Key}(r:Rep Γ H μ v d)(h:keyOf d=some k):v=kV k:=by
 cases r<;>cases h<;>rfl
theorem mK{H:Hp}{μ:Mu}{k:Key}:∀ {kvs:List (Key×V)} {ds:List D},Reps Γ H μ (kvs.map (·.2)) ds→
  (eN k (kvs.map fun q=>keyD q.1) ds=none∧valV kvs k=none)∨∃d v,eN k (kvs.map fun q=>keyD q.1) ds=some d∧valV kvs k=some v∧Rep Γ H μ v d
 | [],_,r=>by cases r;exact .inl ⟨rfl,rfl⟩
 | (j,w)::kvs,_,r=>by
  cases r with
  |cons r1 r2=>
   rename_i d ds
   by_cases e:j=k
   ·refine .inr ⟨d,w,?_,valV_pos e,r1⟩
    show(if isKey k (keyD j)=true then _ else _)=_
    rw[eX,if_pos (Ju e)]
   ·have e1:eN k (((j,w)::kvs).map fun q=>keyD q.1) (d::ds)=eN k (kvs.map fun q=>keyD q.1) ds:=by
     show(if isKey k (keyD j)=true then _ else _)=_
     rw[eX,if_neg (by rw[Jr e];decide)]
    rw[e1,valV_neg (show ¬ (j,w).1=k from e)]
    exact mK r2
end
def fX(S:a0):D→Option (List D×List D)
 | .dct ks vs=>some (ks,vs)
 | .ref n=>match S[n]? with|some (.dct ks vs)=>some (ks,vs)|_=>none
 |_=>none
theorem kn{Γ:Gm}{H:Hp}{μ:Mu}{S:a0}{v:V}{d:D}{ks vs:List D}(s:Sim Γ μ H S)(r:Rep Γ H μ v d)(h:fX S d=some (ks,vs)):
  ∃a kvs,v= .ref a∧H a=some (.dK kvs)∧ks=kvs.map (fun q=>keyD q.1)∧Reps Γ H μ (kvs.map (·.2)) vs:=by
 cases r with
 |dct h1 h2=>cases h;exact⟨_,_,rfl,h1.1,rfl,h2⟩
 |ref h1=>
  simp only[fX] at h
  split at h
  ·rename_i e2
   cases h
   obtain⟨kvs,h3,h4,h5⟩:=s.ats _ _ _ h1 e2
   exact⟨_,kvs,rfl,h3,h4,h5⟩
  ·cases h
 |_=>cases h
def aN(S:a0)(x y:D):Option RV:=
 match y with
 | .int i=>match x with
  | .str z=>if z.length≤16777216 then(atI z.cps.toList i).map fun c=>.val (.str ⟨#[c]⟩) else none
  |x=>match fz S x with
   |some xs=>(atI xs i).map .val
   |none=>match fX S x with
    |some (ks,vs)=>(eN (.inl i) ks vs).map .val
    |none=>none
 | .str k=>match fX S x with
  |some (ks,vs)=>(eN (.inr k) ks vs).map .val
  |none=>none
 |_=>none
def BZ(K:PySem.W.Frag):R2:=fun x y H Q=>rIx K x y H Q∨∃a v,x= .ref a∧DGet H a y (some v)∧Q v H
theorem zi{X:Cx}(hu:X.A.units+1<cLine):IxR X (fun x y H Q=>∃a v,x= .ref a∧DGet H a y (some v)∧Q v H):=by
 intro value slice pins s σ H x y v u Q I rx ry h hs
 obtain⟨a,w,rfl,g,q⟩:=h
 cases rx
 exact PyProof.Rows.tail_any (dict_typeIs I g) PySem.F.slot_dict_getitem.lookup (d_getItem hu I g ry fun w' s3 I3 rw'=>⟨w,H,I3,rw',q⟩) hs
theorem E7{X:Cx}(hu:X.A.units+1<cLine):IxR X (BZ X.K):=ix_seq.or (zi hu)
theorem yk{Γ:Gm}{H:Hp}{μ:Mu}{vs:List V}{ds:List D}{i:Int}{d:D}(r:Reps Γ H μ vs ds)(h:atI ds i=some d):∃v,atI vs i=some v∧Rep Γ H μ v d:=by
 unfold atI at h ⊢
 rw[r.length]
 cases e:ixN ds.length i with
 |none=>rw[e] at h;cases h
 |some j=>
  rw[e] at h
  exact r.get h
theorem Eb{Γ:Gm}:qV Γ aN (BZ Γ.K):=by
 intro H μ S x y dx dy z Q s rx ry h q
 have dict:∀ {ks vs:List D} {k:Key},fX S dx=some (ks,vs)→y=kV k→(eN k ks vs).map RV.val=some z→BZ Γ.K x y H Q:=fun {ks vs k} e ey hl=>by
  obtain⟨d,hd,rfl⟩:=Jh.mp hl
  obtain⟨a,kvs,rfl,h1,rfl,h3⟩:=kn s rx e
  subst ey
  rcases mK (k:=k) h3 with⟨h4,_⟩| ⟨d',v,h4,h5,h6⟩
  ·rw[h4] at hd;cases hd
  ·rw[h4] at hd;cases hd
   exact .inr ⟨a,v,rfl,by rw[← h5];exact .k h1,q.here s h6⟩
 unfold aN at h
 split at h
 ·rename_i i
  cases ry
  split at h
  ·rename_i z'
   split at h
   ·rename_i hl
    obtain⟨c,hc,rfl⟩:=Jh.mp h
    cases rx
    exact .inl (.inr (.inr ⟨z',i,c,rfl,rfl,by rw[sizeLine_eq];exact hl,hc,q.here s (.str _)⟩))
   ·cases h
  ·split at h
   ·rename_i xs e
    obtain⟨d,hd,rfl⟩:=Jh.mp h
    obtain⟨a,vs,rfl,h1,h2⟩:=jO s rx e
    obtain⟨v,hv,rv⟩:=yk h2 hd
    rcases h1 with h1|h1
    ·exact .inl (.inl ⟨a,vs,i,v,rfl,rfl,h1,hv,q.here s rv⟩)
    ·exact .inl (.inr (.inl ⟨a,vs,i,v,rfl,rfl,h1,hv,q.here s rv⟩))
   ·split at h
    ·rename_i ks vs e
     exact dict (k:=.inl i) e rfl h
    ·cases h
 ·rename_i k
  cases ry
  split at h
  ·rename_i ks vs e
   exact dict (k:=.inr k) e rfl h
  ·cases h
 ·cases h
section
variable {Γ:Gm}{X:Cx}{W:WX}{pos:Pos}
def gR:Expr→Bool
 | .Slice _ _ _ _=>false
 | .Starred _ _=>false
 |_=>true
theorem jQ{b:Expr}(h:gR b=true):PlainIx b:=by
 intro o i
 cases b<;>first|rfl|cases h
theorem DM{a b:Expr}{f g:ME}(hK:X.K=Γ.K)(hu:X.A.units+1<cLine)(ha:PE X a (ay Γ W f))(hb:PE X b (ay Γ W g))(hs:gR b=true):PE X (.Subscript a b pos) (ay Γ W (av aN f g)):=
 (pe_ix (E7 hu) ha hb (jQ hs)).weak fun σ H Q h=>by
  rw[hK]
  exact ng Eb h
def cutD(xs:List D)(lo hi:Option Int):List D:=(xs.drop (HT.sIx xs.length 0 lo)).take (HT.sIx xs.length xs.length hi-HT.sIx xs.length 0 lo)
theorem jW{H:Hp}{μ:Mu}{vs:List V}{ds:List D}(r:Reps Γ H μ vs ds)(lo hi:Option Int):Reps Γ H μ (cutV vs lo hi) (cutD ds lo hi):=by
 unfold cutV cutD
 rw[r.length]
 exact(r.drop _).take _
def wx(S:a0)(x:D)(lo hi:Option Int):Option RV:=
 match x with
 | .str z=>if z.length≤16777216 then some (.val (.str (cutS z lo hi))) else none
 | .tup xs=>some (.val (.tup (cutD xs lo hi)))
 | .scr xs=>some (.new (.lst (cutD xs lo hi)))
 |x=>match dR S x with
  |some xs=>some (.new (.lst (cutD xs lo hi)))
  |none=>none
def GJ(K:PySem.W.Frag):V→Option Int→Option Int→Hp→VK→Prop:=fun x lo hi H Q=>rSlS x lo hi H Q∨FP K x lo hi H Q∨rSlL K x lo hi H Q
theorem DZ{X:Cx}:SlR X (GJ X.K):=sl_str.or (B9.or sl_list)
theorem DO{H:Hp}{μ:Mu}{S:a0}{x:V}{dx:D}{lo hi:Option Int}{z:RV}{Q:VK}(s:Sim Γ μ H S)(rx:Rep Γ H μ x dx)(h:wx S dx lo hi=some z)(q:aU Γ μ H Q z S):GJ Γ.K x lo hi H Q:=by
 unfold wx at h
 split at h
 ·rename_i y
  split at h
  ·rename_i hl
   cases h
   cases rx
   exact .inl ⟨y,rfl,by rw[sizeLine_eq];exact hl,q.here s (.str _)⟩
  ·cases h
 ·rename_i xs
  cases h
  obtain⟨a,vs,rfl,h1,h2⟩:=rx.tupA
  refine .inr (.inl ⟨a,vs,rfl,h1,fun e=>?_,fun _=>aU.newTN s (jW h2 lo hi) q⟩)
  have e2:cutD xs lo hi=xs:=by
   unfold cutD
   rw[← h2.length,e.1,e.2]
   simp[h2.length]
  rw[e2] at q
  exact q.here s rx
 ·rename_i xs
  cases h
  obtain⟨a,vs,rfl,h1,h2⟩:=rx.scrA
  exact .inr (.inr ⟨a,vs,rfl,h1,fun p hp=>aU.newL s hp (jW h2 lo hi) q⟩)
 ·split at h
  ·rename_i xs e
   cases h
   obtain⟨a,vs,rfl,h1,h2⟩:=bD s rx e
   exact .inr (.inr ⟨a,vs,rfl,.of h1,fun p hp=>aU.newL s hp (jW h2 lo hi) q⟩)
  ·cases h
abbrev MO:=aq→a0→R (Option Int)
def gX:Option ME→MO
 |none=>fun _ S=>.ok none S
 |some f=>fun env S=>(f env S).bind fun x S1=>match x with| .val (.int i)=>.ok (some i) S1|_=>.bad
def jE(f:ME)(lo hi:Option ME):ME:=fun env S=>(f env S).bind fun x S1=>(gX lo env S1).bind fun l S2=>(gX hi env S2).bind fun u S3=>match wx S3 x.d l u with|some r=>.ok r S3|none=>.bad
def GV(Γ:Gm)(μ:Mu)(H:Hp)(Q:Option Int→Hp→Prop)(b:Option Int)(S':a0):Prop:=∀H' μ',Ext Γ μ H μ' H'→Sim Γ μ' H' S'→Q b H'
def Jb(Γ:Gm)(W:WX)(f:MO):TO:=fun σ H Q=>∃env S μ,At Γ σ H env S μ∧(f env S).sat (GV Γ μ H Q) (dw Γ W σ μ H)
theorem _root_.L2.PO.weak{X:Cx}{e:Option Expr}{t t':TO}(h:PO X e t)(w:∀σ H Q,t' σ H Q→t σ H Q):PO X e t':=⟨fun pins s σ H Q I q=>h.run pins s σ H Q I (w σ H Q q)⟩
inductive Sdo(Γ:Gm)(X:Cx)(W:WX):Option Expr→Option ME→Prop
 |none:Sdo Γ X W none none
 |some {e:Expr} {f:ME}:PE X e (ay Γ W f)→Sdo Γ X W (some e) (some f)
theorem Sdo.po{e:Option Expr}{f:Option ME}(h:Sdo Γ X W e f):PO X e (Jb Γ W (gX f)):=by
 cases h with
 |none=>
  refine po_none.weak fun σ H Q h=>?_
  obtain⟨env,S,μ,a,h⟩:=h
  exact h H μ .refl a.sim
 |some he=>
  refine(po_some he).weak fun σ H Q h=>?_
  obtain⟨env,S,μ,a,h⟩:=h
  simp only[gX] at h
  rw[R.sat_bind] at h
  refine aW a h fun r1 S1 v1 H1 μ1 x1 rv1 q1=>?_
  split at q1
  ·rename_i i
   obtain⟨s1,p1⟩:=rv1.sim
   cases p1
   exact⟨i,rfl,q1 H1 μ1 x1 s1⟩
  ·exact False.elim q1
theorem DG{e:Expr}{lo hi:Option Expr}{f:ME}{l u:Option ME}{p2:Pos}(hK:X.K=Γ.K)(he:PE X e (ay Γ W f))(hl:Sdo Γ X W lo l)(hh:Sdo Γ X W hi u):PE X (.Subscript e (.Slice lo hi none p2) pos) (ay Γ W (jE f l u)):=
 (pe_slice DZ he hl.po hh.po).weak fun σ H Q h=>by
  obtain⟨env,S,μ,a,h⟩:=h
  unfold jE at h
  rw[R.sat_bind] at h
  refine aW a (R.sat_imp h (fun r S' q=>q) fun x S' q=>q) fun r1 S1 v1 H1 μ1 x1 rv1 q1=>?_
  obtain⟨s1,p1⟩:=rv1.sim
  rw[R.sat_bind] at q1
  have a1:=a.next x1 s1
  refine⟨env,S1,μ1,a1,R.sat_imp q1 (fun o S2 q2 H2 μ2 x2 s2=>?_) fun x S' q=>q.ext x1⟩
  rw[R.sat_bind] at q2
  have x12:=x1.trans x2
  refine⟨env,S2,μ2,a1.next x2 s2,R.sat_imp q2 (fun o2 S3 q3 H3 μ3 x3 s3=>?_) fun x S' q=>q.ext x12⟩
  split at q3
  ·rename_i z e3
   rw[hK]
   exact DO s3 (p1.ext (x2.trans x3)) e3 (aU.ext (x12.trans x3) q3)
  ·exact False.elim q3
def fG:List MT→MT
 | []=>fun _ _=>.bad
 | [f]=>f
 |f::fs=>fun env S=>(f env S).bind fun b S1=>if b then fG fs env S1 else .ok false S1
def cH:List MT→MT
 | []=>fun _ _=>.bad
 | [f]=>f
 |f::fs=>fun env S=>(f env S).bind fun b S1=>if b then .ok true S1 else cH fs env S1
inductive Sdts(Γ:Gm)(X:Cx)(W:WX):List Expr→List MT→Prop
 |nil:Sdts Γ X W [] []
 |cons {e:Expr} {es:List Expr} {f:MT} {fs:List MT}:PT X e (gG Γ W f)→Sdts Γ X W es fs→Sdts Γ X W (e::es) (f::fs)
theorem ew{f:MT}{σ:L2.St}{H:Hp}{env:aq}{S:a0}{μ:Mu}{g:Bool→a0→Prop}(a:At Γ σ H env S μ)
  (h:(f env S).sat g (dw Γ W σ μ H)) {Q:Bool→Hp→Prop} (q:∀b S' H' μ',Ext Γ μ H μ' H'→Sim Γ μ' H' S'→g b S'→Q b H'):gG Γ W f σ H Q:=
 ⟨env,S,μ,a,R.sat_imp h (fun b S' hg H' μ' x s=>q b S' H' μ' x s hg) fun _ _ e=>e⟩
theorem Sdts.and{es:List Expr}{fs:List MT}(h:Sdts Γ X W es fs)(h0:es≠[]):PW X (.BoolOp .And es pos) (gG Γ W (fG fs)):=by
 induction h with
 |nil=>exact absurd rfl h0
 |cons he hr ih=>
  cases hr with
  |nil=>exact pw_and1 he
  |cons he2 hr2=>
   refine(pw_and he (ih (by simp))).weak fun σ H Q h=>?_
   obtain⟨env,S,μ,a,h⟩:=h
   simp only[fG] at h
   rw[R.sat_bind] at h
   refine ew a h fun b S1 H1 μ1 x1 s1 q1=>?_
   cases b with
   |true=>
    rw[if_pos rfl] at q1 ⊢
    exact⟨env,S1,μ1,a.next x1 s1,R.sat_imp q1 (fun r S' q=>q.ext x1) fun x S' q=>q.ext x1⟩
   |false=>
    rw[if_neg (by decide)] at q1 ⊢
    exact q1 H1 μ1 x1 s1
theorem Sdts.or{es:List Expr}{fs:List MT}(h:Sdts Γ X W es fs)(h0:es≠[]):PW X (.BoolOp .Or es pos) (gG Γ W (cH fs)):=by
 induction h with
 |nil=>exact absurd rfl h0
 |cons he hr ih=>
  cases hr with
  |nil=>exact pw_or1 he
  |cons he2 hr2=>
   refine(pw_or he (ih (by simp))).weak fun σ H Q h=>?_
   obtain⟨env,S,μ,a,h⟩:=h
   simp only[cH] at h
   rw[R.sat_bind] at h
   refine ew a h fun b S1 H1 μ1 x1 s1 q1=>?_
   cases b with
   |true=>
    rw[if_pos rfl] at q1 ⊢
    exact q1 H1 μ1 x1 s1
   |false=>
    rw[if_neg (by decide)] at q1 ⊢
    exact⟨env,S1,μ1,a.next x1 s1,R.sat_imp q1 (fun r S' q=>q.ext x1) fun x S' q=>q.ext x1⟩
def bz(f:MT):MT:=fun env S=>(f env S).bind fun b S1=>.ok (!b) S1
theorem d9{e:Expr}{f:MT}(h:PT X e (gG Γ W f)):PT X (.UnaryOp .Not e pos) (gG Γ W (bz f)):=(pt_not h).weak fun σ H Q h=>by
 obtain⟨env,S,μ,a,h⟩:=h
 unfold bz at h
 rw[R.sat_bind] at h
 exact ew a h fun b S1 H1 μ1 x1 s1 q1=>q1 H1 μ1 x1 s1
def eh:List ME→ME
 | []=>fun _ _=>.bad
 | [f]=>f
 |f::fs=>fun env S=>(f env S).bind fun x S1=>match x with
  | .val (.bl true)=>eh fs env S1
  | .val (.bl false)=>.ok (.val (.bl false)) S1
  |_=>.bad
def zK:List ME→ME
 | []=>fun _ _=>.bad
 | [f]=>f
 |f::fs=>fun env S=>(f env S).bind fun x S1=>match x with
  | .val (.bl true)=>.ok (.val (.bl true)) S1
  | .val (.bl false)=>zK fs env S1
  |_=>.bad
theorem Sds.and{es:List Expr}{fs:List ME}(h:Sds Γ X W es fs)(h0:es≠[]):PE X (.BoolOp .And es pos) (ay Γ W (eh fs)):=by
 induction h with
 |nil=>exact absurd rfl h0
 |cons _ he hr ih=>
  cases hr with
  |nil=>exact pe_one he
  |cons _ he2 hr2=>
   refine(pe_and he (ih (by simp))).weak fun σ H Q h=>?_
   obtain⟨env,S,μ,a,h⟩:=h
   simp only[eh] at h
   rw[R.sat_bind] at h
   refine aW a h fun r1 S1 v1 H1 μ1 x1 rv1 q1=>?_
   obtain⟨s1,p1⟩:=rv1.sim
   split at q1
   ·cases p1
    refine⟨true,rfl,?_⟩
    rw[if_pos rfl]
    exact⟨env,S1,μ1,a.next x1 s1,R.sat_imp q1 (fun r S' q=>q.ext x1) fun x S' q=>q.ext x1⟩
   ·cases p1
    refine⟨false,rfl,?_⟩
    rw[if_neg (by decide)]
    exact q1 _ H1 μ1 x1 ⟨s1,.bl _⟩
   ·exact False.elim q1
def Gu(f:ME):ME:=fun env S=>(f env S).bind fun x S1=>match x with| .val (.bl b)=>.ok (.val (.bl (!b))) S1|_=>.bad
def Ii(f:ME):ME:=fun env S=>(f env S).bind fun x S1=>match x with| .val (.int b)=>.ok (.val (.int (-b))) S1|_=>.bad
def tS(c:MT)(f g:ME):ME:=fun env S=>(c env S).bind fun b S1=>if b then f env S1 else g env S1
theorem xk{c a b:Expr}{t:MT}{f g:ME}(hc:PT X c (gG Γ W t))(ha:PE X a (ay Γ W f))(hb:PE X b (ay Γ W g)):PE X (.IfExp c a b pos) (ay Γ W (tS t f g)):=(pe_ifExp hc ha hb).weak fun σ H Q h=>by
 obtain⟨env,S,μ,a,h⟩:=h
 unfold tS at h
 rw[R.sat_bind] at h
 refine ew a h fun b S1 H1 μ1 x1 s1 q1=>?_
 cases b with
 |true=>
  rw[if_pos rfl] at q1 ⊢
  exact⟨env,S1,μ1,a.next x1 s1,R.sat_imp q1 (fun r S' q=>q.ext x1) fun x S' q=>q.ext x1⟩
 |false=>
  rw[if_neg (by decide)] at q1 ⊢
  exact⟨env,S1,μ1,a.next x1 s1,R.sat_imp q1 (fun r S' q=>q.ext x1) fun x S' q=>q.ext x1⟩
end
end Ev
namespace Ev
open PySem L2 PyProof.Rows
def we(S:a0)(x c:D):Option Bool:=
 match c with
 | .str y=>match x with| .str z=>some (!(Builtin.Str.occurrences y z 0 y.length 1).isEmpty)|_=>none
 |c=>match fX S c with
  |some (ks,vs)=>match keyOf x with|some k=>some (eN k ks vs).isSome|none=>none
  |none=>match ib S c,ib S x with
   |some (.list ps),some p=>if SeqAt.shaped (.list ps)&&SeqAt.shaped p then some (ps.any fun z=>PyData.eqv z p) else none
   |some (.tuple ps),some p=>if SeqAt.shaped (.tuple ps)&&SeqAt.shaped p then some (ps.any fun z=>PyData.eqv z p) else none
   |_,_=>none
def inD(S:a0)(x c:D):Option RV:=(we S x c).map fun b=>.val (.bl b)
def CQ(K:PySem.W.Frag)(g:Bool→Bool):R2:=fun x y H Q=>
 (∃i j,x= .str i∧y= .str j∧Q (.bl (g (!(Builtin.Str.occurrences j i 0 j.length 1).isEmpty))) H)∨
 (∃d ds,Dp K H x d∧Dp K H y (.list ds)∧SeqAt.shaped d=true∧SeqAt.shaped (.list ds)=true∧Q (.bl (g (ds.any fun z=>PyData.eqv z d))) H)∨
 (∃d ds,Dp K H x d∧Dp K H y (.tuple ds)∧SeqAt.shaped d=true∧SeqAt.shaped (.tuple ds)=true∧Q (.bl (g (ds.any fun z=>PyData.eqv z d))) H)∨
 ∃a o,y= .ref a∧DGet H a x o∧Q (.bl (g o.isSome)) H
theorem vK{A:Around}{d:PyData}{ds:List PyData}(h:SeqAt.shaped d=true)(hu:A.units+65<cLine):A.units+1+min (PyData.depthAll ds) d.depth<cLine:=by
 have h1:=SeqAt.depth_of_shaped h
 have h2:min (PyData.depthAll ds) d.depth≤d.depth:=Nat.min_le_right _ _
 omega
theorem Ea{X:Cx}(hu:X.A.units+65<cLine):OpR X (compareOp .In) (CQ X.K id):=by
 refine op_in_str.or ((op_inD hu).or (OpR.or ?_ ?_))
 ·intro pins s σ H x y v u Q I rx ry h
  obtain⟨d,ds,hd,he,sd,se,q⟩:=h
  obtain⟨as,r1⟩:=Dp.reads I d x v hd rx
  obtain⟨bs,r2⟩:=Dp.reads I (.tuple ds) y u he ry
  exact SeqAt.in_tuple_reads r2 r1 (SeqAt.canLay_of_shaped se) (SeqAt.canLay_of_shaped sd) (vK sd hu) ⟨.bl _,H,I,rfl,q⟩
 ·intro pins s σ H x y v u Q I rx ry h
  obtain⟨a,o,rfl,g,q⟩:=h
  cases ry
  exact d_in (by omega) I g rx fun s3 I3=>⟨.bl o.isSome,H,I3,rfl,q⟩
theorem DK{Γ:Gm}{g:Bool→Bool}{H:Hp}{μ:Mu}{S:a0}{x y:V}{dx dy:D}{b:Bool}{Q:VK}(s:Sim Γ μ H S)(rx:Rep Γ H μ x dx)(ry:Rep Γ H μ y dy)(h:we S dx dy=some b)(q:Q (.bl (g b)) H):CQ Γ.K g x y H Q:=by
 unfold we at h
 split at h
 ·split at h
  ·cases h;cases rx;cases ry
   exact .inl ⟨_,_,rfl,rfl,q⟩
  ·cases h
 ·split at h
  ·rename_i ks vs e
   split at h
   ·rename_i k ek
    cases h
    obtain⟨a,kvs,rfl,h1,rfl,h3⟩:=kn s ry e
    have ex:=ju rx ek
    subst ex
    refine .inr (.inr (.inr ⟨a,valV kvs k,rfl,.k h1,?_⟩))
    rcases mK (k:=k) h3 with⟨h4,h5⟩| ⟨d',v,h4,h5,_⟩
    ·rw[h4] at q;rw[h5];exact q
    ·rw[h4] at q;rw[h5];exact q
   ·cases h
  ·split at h
   ·rename_i ps p e1 e2
    split at h
    ·rename_i hs
     cases h
     obtain⟨s1,s2⟩:=Jn.mp hs
     exact .inr (.inl ⟨p,ps,dX s rx e2,dX s ry e1,s2,s1,q⟩)
    ·cases h
   ·rename_i ps p e1 e2
    split at h
    ·rename_i hs
     cases h
     obtain⟨s1,s2⟩:=Jn.mp hs
     exact .inr (.inr (.inl ⟨p,ps,dX s rx e2,dX s ry e1,s2,s1,q⟩))
    ·cases h
   ·cases h
theorem Fy{Γ:Gm}:qV Γ inD (CQ Γ.K id):=by
 intro H μ S x y dx dy z Q s rx ry h q
 obtain⟨b,hb,rfl⟩:=Jh.mp h
 exact DK s rx ry hb (q.here s (.bl _))
def intsOf:List D→Option (List Int)
 | []=>some []
 | .int i::r=>(intsOf r).map (i:: ·)
 |_::_=>none
theorem j3{Γ:Gm}{H:Hp}{μ:Mu}:∀ {ds:List D} {vs:List V} {ns:List Int},Reps Γ H μ vs ds→intsOf ds=some ns→vs=ns.map V.int
 | [],_,_,r,h=>by cases r;cases h;rfl
 | .int i::ds,_,_,r,h=>by
  cases r with
  |cons r1 r2=>
   unfold intsOf at h
   obtain⟨ms,hm,rfl⟩:=Jh.mp h
   cases r1
   rw[j3 r2 hm];rfl
 | .non::_,_,_,_,h| .bl _::_,_,_,_,h| .str _::_,_,_,_,h| .tup _::_,_,_,_,h| .lst _::_,_,_,_,h| .scr _::_,_,_,_,h| .dct _ _::_,_,_,_,h| .dcn _ _::_,_,_,_,h
 | .ins _ _::_,_,_,_,h| .exc _ _::_,_,_,_,h| .glb _::_,_,_,_,h| .clo _ _::_,_,_,_,h| .ref _::_,_,_,_,h=>by cases h
def uw(r:Int→Int→Bool)(z:Bool):List Int→List Int→Bool
 |x::xs,y::ys=>if x=y then uw r z xs ys else r x y
 |_,_=>z
def n8(ri:Int→Int→Bool)(rs:List Nat→List Nat→Bool)(S:a0)(x y:D):Option RV:=
 match x,y with
 | .int i,.int j=>some (.val (.bl (ri i j)))
 | .str a,.str b=>some (.val (.bl (rs a.cps.toList b.cps.toList)))
 | .tup xs,.tup ys=>match intsOf xs,intsOf ys with
  |some ns,some ms=>some (.val (.bl (uw ri (ri ns.length ms.length) ns ms)))
  |_,_=>none
 |_,_=>none
def FZ:=n8 (fun i j=>decide (i<j)) (fun a b=>decide (a<b))
def J3:=n8 (fun i j=>decide (i≤j)) (fun a b=> !decide (b<a))
def AY:=n8 (fun i j=>decide (j<i)) (fun a b=>decide (b<a))
def DJ:=n8 (fun i j=>decide (j≤i)) (fun a b=> !decide (a<b))
theorem pj(r:Int→Int→Bool)(z:Bool):∀ (ns ms pre qre:List Int),pre.length=qre.length→
  Ob.lexAt (fun j=>decide ((pre++ns).getD j 0=(qre++ms).getD j 0)) (fun j=>r ((pre++ns).getD j 0) ((qre++ms).getD j 0)) z pre.length (min ns.length ms.length)=uw r z ns ms
 | [],ms,pre,qre,_=>by simp[uw,Ob.lexAt]
 |x::xs,[],pre,qre,_=>by simp[uw,Ob.lexAt]
 |x::xs,y::ys,pre,qre,h=>by
  have e1:(pre++x::xs).getD pre.length 0=x:=by simp[List.getD]
  have e2:(qre++y::ys).getD pre.length 0=y:=by rw[h];simp[List.getD]
  have e3:min (x::xs).length (y::ys).length=min xs.length ys.length+1:=by simp only[JK];omega
  rw[e3,Ob.lexAt_succ]
  have ih:=pj r z xs ys (pre++[x]) (qre++[y]) (by simp[h])
  rw[List.append_assoc,List.append_assoc] at ih
  have e4:(pre++[x]).length=pre.length+1:=by simp
  rw[e4] at ih
  simp only[List.cons_append,List.nil_append] at ih
  show(if decide ((pre++x::xs).getD pre.length 0=(qre++y::ys).getD pre.length 0)=true then _ else r ((pre++x::xs).getD pre.length 0) ((qre++y::ys).getD pre.length 0))=_
  rw[e1,e2]
  by_cases q:x=y
  ·rw[if_pos (Ju q),ih]
   show _=(if x=y then _ else _)
   rw[if_pos q]
  ·rw[if_neg (by rw[Jr q];decide)]
   show _=(if x=y then _ else _)
   rw[if_neg q]
def Bj(K:PySem.W.Frag)(r:Int→Int→Bool):R2:=fun x y H Q=>∃ (a b:Addr) (ns ms:List Int),x= .ref a∧y= .ref b∧SqT K H a (ns.map V.int)∧SqT K H b (ms.map V.int)∧Q (.bl (uw r (r ns.length ms.length) ns ms)) H
theorem mN{X:Cx}{op:CmpOp}{r:Int→Int→Bool}(hop:∀a b,compareOp op a b=richCompare op a b)
  (hi:∀ {A:Around} {s:Shared} (a b:Int) (t u:Tok),Ob.RcOp op A s (.int a t) (.int b u) (r a b))
  (ht:∀ {A:Around} {s:Shared} {l b:Addr} {items items2:Array Value} {e q:Nat→Bool},s.heap.IsTuple l items→s.heap.IsTuple b items2→A.units<cLine→
   (∀j (h1:j<items.size) (h2:j<items2.size),SeqAt.EqAt A.in1 s items[j] items2[j] (e j))→
   (∀j (h1:j<items.size) (h2:j<items2.size),e j=false→Ob.RcOp op A.in1 s items[j] items2[j] (q j))→
   Ob.RcOp op A s (.ref l) (.ref b) (Ob.lexAt e q (r items.size items2.size) 0 (min items.size items2.size)))
  (hu:X.A.units<cLine):OpR X (compareOp op) (Bj X.K r):=by
 intro pins s σ H x y v u Q I rx ry h
 obtain⟨a,b,ns,ms,rfl,rfl,ha,hb,q⟩:=h
 cases rx
 cases ry
 obtain⟨its,r1,p1,_⟩:=I.tuple ha
 obtain⟨its2,r2,p2,_⟩:=I.tuple hb
 have i1:IntsAre its ns:=Vals.ints r1
 have i2:IntsAre its2 ms:=Vals.ints r2
 have e1:its.toArray.size=ns.length:=by rw[List.size_toArray];exact i1.length
 have e2:its2.toArray.size=ms.length:=by rw[List.size_toArray];exact i2.length
 have zO:∀j (h1:j<its.toArray.size),∃t,its.toArray[j]= .int (ns.getD j 0) t:=fun j h1=>PyProof.Rows.IntsAre.int_at i1 _ _ (by simp at h1;simp[h1])
 have at2:∀j (h1:j<its2.toArray.size),∃t,its2.toArray[j]= .int (ms.getD j 0) t:=fun j h1=>PyProof.Rows.IntsAre.int_at i2 _ _ (by simp at h1;simp[h1])
 have RR:=ht (A:=X.A) (s:=s) (e:=fun j=>decide (ns.getD j 0=ms.getD j 0)) (q:=fun j=>r (ns.getD j 0) (ms.getD j 0)) p1 p2 hu (fun j h1 h2=>by
  obtain⟨t,et⟩:=zO j h1
  obtain⟨t',et'⟩:=at2 j h2
  rw[et,et']
  have z:(ns.getD j 0==ms.getD j 0)=decide (ns.getD j 0=ms.getD j 0):=by
   by_cases q:ns.getD j 0=ms.getD j 0
   ·rw[Ju q];exact beq_iff_eq.mpr q
   ·rw[Jr q];exact beq_eq_false_iff_ne.mpr q
  rw[← z]
  exact SeqAt.EqAt.int_int _ _ _ _) (fun j h1 h2 _=>by
  obtain⟨t,et⟩:=zO j h1
  obtain⟨t',et'⟩:=at2 j h2
  rw[et,et']
  exact hi _ _ _ _)
 rw[e1,e2] at RR
 have eq:=pj r (r ns.length ms.length) ns ms [] [] rfl
 simp only[List.nil_append,List.length_nil] at eq
 rw[eq] at RR
 rw[hop]
 exact RR _ _ _ _ ⟨.bl _,H,I,rfl,q⟩
def AJ(K:PySem.W.Frag)(ri:Int→Int→Bool)(rs:List Nat→List Nat→Bool):R2:=fun x y H Q=>(∃i j,x= .int i∧y= .int j∧Q (.bl (ri i j)) H)∨(∃i j,x= .str i∧y= .str j∧Q (.bl (rs i.cps.toList j.cps.toList)) H)∨Bj K ri x y H Q
theorem qr{Γ:Gm}{ri:Int→Int→Bool}{rs:List Nat→List Nat→Bool}:qV Γ (n8 ri rs) (AJ Γ.K ri rs):=by
 intro H μ S x y dx dy z Q s rx ry h q
 unfold n8 at h
 split at h
 ·cases h;cases rx;cases ry
  exact .inl ⟨_,_,rfl,rfl,q.here s (.bl _)⟩
 ·cases h;cases rx;cases ry
  exact .inr (.inl ⟨_,_,rfl,rfl,q.here s (.bl _)⟩)
 ·split at h
  ·rename_i e1 e2
   cases h
   obtain⟨a,vs,rfl,h1,h2⟩:=rx.tupA
   obtain⟨b,ws,rfl,h3,h4⟩:=ry.tupA
   rw[j3 h2 e1] at h1
   rw[j3 h4 e2] at h3
   exact .inr (.inr ⟨a,b,_,_,rfl,rfl,h1,h3,q.here s (.bl _)⟩)
  ·cases h
 ·cases h
section
variable {X:Cx}
theorem wO(a b:Nat):decide ((a:Int)< (b:Int))=decide (a<b):=by simp
theorem CG(a b:Nat):decide ((a:Int)≤(b:Int))=decide (a≤b):=by simp
theorem Cw(hu:X.A.units<cLine):OpR X (compareOp .Lt) (AJ X.K (fun i j=>decide (i<j)) (fun a b=>decide (a<b))):=
 op_lt.or (op_lt_str.or (mN (fun _ _=>rfl) (fun _ _ _ _=>Ob.RcOp.lt_int _ _ _ _) (fun h1 h2 h3 h4 h5=>by have:=Ob.RcOp.tuples_lt h1 h2 h3 h4 h5;simp only[wO];exact this) hu))
theorem CK(hu:X.A.units<cLine):OpR X (compareOp .Gt) (AJ X.K (fun i j=>decide (j<i)) (fun a b=>decide (b<a))):=
 op_gt.or (op_gt_str.or (mN (fun _ _=>rfl) (fun _ _ _ _=>Ob.RcOp.gt_int _ _ _ _) (fun h1 h2 h3 h4 h5=>by have:=Ob.RcOp.tuples_gt h1 h2 h3 h4 h5;simp only[wO];exact this) hu))
theorem CO(hu:X.A.units<cLine):OpR X (compareOp .GtE) (AJ X.K (fun i j=>decide (j≤i)) (fun a b=> !decide (a<b))):=
 op_ge.or (op_ge_str.or (mN (fun _ _=>rfl) (fun _ _ _ _=>Ob.RcOp.ge_int _ _ _ _) (fun h1 h2 h3 h4 h5=>by have:=Ob.RcOp.tuples_ge h1 h2 h3 h4 h5;simp only[CG];exact this) hu))
end
def eF(Γ:Gm)(o:a0→List D→Option RV)(r:List V→Hp→VK→Prop):Prop:=∀ (H:Hp) (μ:Mu) (S:a0) (vs:List V) (ds:List D) (z:RV) (Q:VK),Sim Γ μ H S→Reps Γ H μ vs ds→o S ds=some z→aU Γ μ H Q z S→r vs H Q
def aJ(o:a0→List D→Option RV)(m:MA):ME:=fun env S=>(m env S).bind fun ds S1=>match o S1 ds with|some z=>.ok z S1|none=>.bad
section
variable {Γ:Gm}{X:Cx}{W:WX}{pos:Pos}
theorem wq{o:a0→List D→Option RV}{r:List V→Hp→VK→Prop}(hr:eF Γ o r){m:MA}{σ:L2.St}{H:Hp}{Q:VK}(h:ay Γ W (aJ o m) σ H Q):tCB r (iD Γ W m) σ H Q:=
 gF h fun vs H' μ' ds S' env a rs q=>by
  split at q
  ·rename_i z e
   exact hr H' μ' S' vs ds z Q a.sim rs e q
  ·exact False.elim q
theorem Cn{o:a0→List D→Option RV}{r:List V→Hp→VK→Prop}{x:Str}{id:String}{p:Pos}{e:Expr}{es:List Expr}{m:MA}(hc:CallR X (.builtin id) r)(hr:eF Γ o r)(hg:Gl X x)(hm:X.mg x=none)(hv:bootBuiltins x=some (.builtin id))
  (ha:PA X (e::es) (iD Γ W m)) (hs:(e::es).all notStar=true) (hn:x≠ "__name__") (hdb:(x==("__debug__":Str))=false):PE X (.Call (.Name x p) (e::es) [] pos) (ay Γ W (aJ o m)):=
 (pe_callB hc hg hm hv ha hn hdb (aE (Jn.mp (show(notStar e&&es.all notStar)=true from hs)).1) (star_any (Jn.mp (show(notStar e&&es.all notStar)=true from hs)).2)).weak fun σ H Q h=>wq hr h
theorem DR{o:a0→List D→Option RV}{r:List V→Hp→VK→Prop}{x:Str}{T:String}{p:Pos}{e:Expr}{es:List Expr}{m:MA}(hc:CallR X (.type T) r)(hr:eF Γ o r)(hg:Gl X x)(hm:X.mg x=none)(hv:bootBuiltins x=some (.type T))
  (ha:PA X (e::es) (iD Γ W m)) (hs:(e::es).all notStar=true) (hn:x≠ "__name__") (hdb:(x==("__debug__":Str))=false):PE X (.Call (.Name x p) (e::es) [] pos) (ay Γ W (aJ o m)):=
 (pe_callTy hc hg hm hv ha hn hdb (aE (Jn.mp (show(notStar e&&es.all notStar)=true from hs)).1) (star_any (Jn.mp (show(notStar e&&es.all notStar)=true from hs)).2)).weak fun σ H Q h=>wq hr h
end
theorem dj{Γ:Gm}{H:Hp}{μ:Mu}{vs:List V}{d:D}(r:Reps Γ H μ vs [d]):∃v,vs=[v]∧Rep Γ H μ v d:=by
 cases r with
 |cons r1 r2=>cases r2;exact⟨_,rfl,r1⟩
theorem tw{Γ:Gm}{H:Hp}{μ:Mu}{vs:List V}{d e:D}(r:Reps Γ H μ vs [d,e]):∃v w,vs=[v,w]∧Rep Γ H μ v d∧Rep Γ H μ w e:=by
 cases r with
 |cons r1 r2=>obtain⟨w,rfl,h⟩:=dj r2;exact⟨_,_,rfl,r1,h⟩
def cN(S:a0)(ds:List D):Option RV:=match ds with
 | [.str z]=>if z.length≤16777216 then some (.val (.int z.length)) else none
 | [d]=>match fz S d with
  |some xs=>some (.val (.int xs.length))
  |none=>match fX S d with
   |some (ks,_)=>some (.val (.int ks.length))
   |none=>none
 |_=>none
def Bi(K:PySem.W.Frag):List V→Hp→VK→Prop:=fun xs H Q=>(∃p ys,xs=[.ref p]∧(SqL K H p ys∨SqT K H p ys)∧Q (.int ys.length) H)∨(∃z,xs=[.str z]∧z.length≤sizeLine∧Q (.int z.length) H)∨∃a kvs,xs=[V.ref a]∧H a=some (.dK kvs)∧Q (.int kvs.length) H
theorem uP{X:Cx}:CallR X (.builtin "len") (Bi X.K):=call_len_seq.or (call_len_str.or call_lenD)
theorem Dd{Γ:Gm}:eF Γ cN (Bi Γ.K):=by
 intro H μ S vs ds z Q s r h q
 unfold cN at h
 split at h
 ·rename_i y
  split at h
  ·rename_i hl
   cases h
   obtain⟨v,rfl,rv⟩:=dj r
   cases rv
   exact .inr (.inl ⟨y,rfl,by rw[sizeLine_eq];exact hl,q.here s (.int _)⟩)
  ·cases h
 ·obtain⟨v,rfl,rv⟩:=dj r
  split at h
  ·rename_i xs e
   cases h
   obtain⟨a,ws,rfl,h1,h2⟩:=jO s rv e
   rw[← h2.length] at q
   exact .inl ⟨a,ws,rfl,h1,q.here s (.int _)⟩
  ·split at h
   ·rename_i ks vs e
    cases h
    obtain⟨a,kvs,rfl,h1,rfl,h3⟩:=kn s rv e
    rw[Jt] at q
    exact .inr (.inr ⟨a,kvs,rfl,h1,q.here s (.int _)⟩)
   ·cases h
 ·cases h
def intD(_:a0)(ds:List D):Option RV:=match ds with
 | [.int i]=>some (.val (.int i))
 | [.bl b]=>some (.val (.int (if b then 1 else 0)))
 | [.str x]=>match PySem.intText? x with
  |some n=>if x.length≤640 then some (.val (.int n)) else none
  |none=>none
 |_=>none
def BP:List V→Hp→VK→Prop:=fun xs H Q=>((∃i,xs=[.int i]∧Q (.int i) H)∨∃k,xs=[.bl k]∧Q (.int (if k then 1 else 0)) H)∨∃a n,xs=[.str a]∧PySem.intText? a=some n∧a.length≤640∧Q (.int n) H
theorem tZ{X:Cx}:CallR X (.type "int") BP:=call_int1.or call_int_str
theorem int_ok{Γ:Gm}:eF Γ intD BP:=by
 intro H μ S vs ds z Q s r h q
 unfold intD at h
 split at h
 ·cases h;obtain⟨v,rfl,rv⟩:=dj r;cases rv
  exact .inl (.inl ⟨_,rfl,q.here s (.int _)⟩)
 ·cases h;obtain⟨v,rfl,rv⟩:=dj r;cases rv
  exact .inl (.inr ⟨_,rfl,q.here s (.int _)⟩)
 ·split at h
  ·rename_i n e
   split at h
   ·rename_i hl
    cases h;obtain⟨v,rfl,rv⟩:=dj r;cases rv
    exact .inr ⟨_,n,rfl,e,hl,q.here s (.int _)⟩
   ·cases h
  ·cases h
 ·cases h
def fm(S:a0)(ds:List D):Option RV:=match ds with
 | [.tup xs]=>some (.val (.tup xs))
 | [d]=>match fz S d with
  |some xs=>some (.val (.tup xs))
  |none=>none
 |_=>none
theorem vq{Γ:Gm}:eF Γ fm (fun xs H Q=>∃p ys,xs=[.ref p]∧((SqL Γ.K H p ys∧oO H Q ys)∨(SqT Γ.K H p ys∧Q (.ref p) H))):=by
 intro H μ S vs ds z Q s r h q
 unfold fm at h
 split at h
 ·cases h;obtain⟨v,rfl,rv⟩:=dj r
  obtain⟨a,ws,rfl,h1,h2⟩:=rv.tupA
  exact⟨a,ws,rfl,.inr ⟨h1,q.here s rv⟩⟩
 ·rename_i d hnt
  split at h
  ·rename_i xs e
   cases h
   obtain⟨v,rfl,rv⟩:=dj r
   have key:∃a ws,v= .ref a∧SqL Γ.K H a ws∧Reps Γ H μ ws xs:=by
    cases d with
    |tup ys=>exact absurd rfl (hnt ys)
    |scr ys=>cases e;exact rv.scrA
    |lst ys=>obtain⟨a,ws,e1,h1,h2⟩:=bD (xs:=xs) s rv e;exact⟨a,ws,e1,.of h1,h2⟩
    |ref n=>obtain⟨a,ws,e1,h1,h2⟩:=bD (xs:=xs) s rv e;exact⟨a,ws,e1,.of h1,h2⟩
    |_=>cases e
   obtain⟨a,ws,rfl,h1,h2⟩:=key
   exact⟨a,ws,rfl,.inl ⟨h1,aU.newTN s h2 q⟩⟩
  ·cases h
 ·cases h
def xV(S:a0)(ds:List D):Option RV:=match ds with
 | [d]=>match fz S d with
  |some xs=>some (.new (.lst xs))
  |none=>none
 |_=>none
theorem Ao{Γ:Gm}:eF Γ xV (fun xs H Q=>∃p ys,xs=[.ref p]∧(SqL Γ.K H p ys∨SqT Γ.K H p ys)∧∀l,H l=none→Q (.ref l) (upd H l (.lst ys))):=by
 intro H μ S vs ds z Q s r h q
 unfold xV at h
 split at h
 ·split at h
  ·rename_i xs e
   cases h
   obtain⟨v,rfl,rv⟩:=dj r
   obtain⟨a,ws,rfl,h1,h2⟩:=jO s rv e
   exact⟨a,ws,rfl,h1,fun l hl=>aU.newL s hl h2 q⟩
  ·cases h
 ·cases h
def fB(_:a0)(ds:List D):Option RV:=match ds with
 | [.int i,.int j]=>some (.val (.int (if j<i then j else i)))
 |_=>none
theorem Ar{Γ:Gm}:eF Γ fB (fun xs H Q=>∃i j,xs=[.int i,.int j]∧Q (.int (if j<i then j else i)) H):=by
 intro H μ S vs ds z Q s r h q
 unfold fB at h
 split at h
 ·cases h;obtain⟨v,w,rfl,r1,r2⟩:=tw r;cases r1;cases r2
  exact⟨_,_,rfl,q.here s (.int _)⟩
 ·cases h
inductive RS where
 |nx (env:aq) (S:a0)|ret (r:RV) (S:a0)|brk (env:aq) (S:a0)|cnt (env:aq) (S:a0)|ex (x:D) (env:aq) (S:a0)|bad
abbrev MS:=aq→a0→RS
structure SPost where
 nx:aq→a0→Prop
 rt:RV→a0→Prop
 bk:aq→a0→Prop
 ct:aq→a0→Prop
 ex:D→aq→a0→Prop
def RS.sat(r:RS)(p:SPost):Prop:=
 match r with
 | .nx e S=>p.nx e S
 | .ret r S=>p.rt r S
 | .brk e S=>p.bk e S
 | .cnt e S=>p.ct e S
 | .ex x e S=>p.ex x e S
 | .bad=>False
theorem RS.sat_imp{r:RS}{p q:SPost}(h:r.sat p)(h1:∀e S,p.nx e S→q.nx e S)(h2:∀r S,p.rt r S→q.rt r S)(h3:∀e S,p.bk e S→q.bk e S)(h4:∀e S,p.ct e S→q.ct e S)(h5:∀x e S,p.ex x e S→q.ex x e S):r.sat q:=by
 cases r with
 |nx e S=>exact h1 _ _ h
 |ret r S=>exact h2 _ _ h
 |brk e S=>exact h3 _ _ h
 |cnt e S=>exact h4 _ _ h
 |ex x e S=>exact h5 _ _ _ h
 |bad=>exact h
def R.then{α:Type}(r:R α)(env:aq)(f:α→a0→RS):RS:=
 match r with
 | .ok a S=>f a S
 | .ex x S=>.ex x env S
 | .bad=>.bad
theorem R.sat_then{α:Type}{r:R α}{env:aq}{f:α→a0→RS}{p:SPost}:(r.then env f).sat p↔r.sat (fun a S=>(f a S).sat p) (fun x S=>p.ex x env S):=by
 cases r<;>exact Iff.rfl
def b0(Γ:Gm)(W:WX)(D:Ends)(μ:Mu)(H:Hp):SPost where
 nx:=fun e S=>∀σ' H' μ',Ext Γ μ H μ' H'→At Γ σ' H' e S μ'→D.nx σ' H'
 rt:=fun r S=>∀v H' μ',Ext Γ μ H μ' H'→gn Γ H μ' H' S v r→D.rt v H'
 bk:=fun e S=>∀σ' H' μ',Ext Γ μ H μ' H'→At Γ σ' H' e S μ'→D.bk σ' H'
 ct:=fun e S=>∀σ' H' μ',Ext Γ μ H μ' H'→At Γ σ' H' e S μ'→D.ct σ' H'
 ex:=fun x e S=>∀cls dx σ' H' μ',Ext Γ μ H μ' H'→At Γ σ' H' e S μ'→EF Γ H' μ' cls dx x→W cls dx σ' H'
def dC(Γ:Gm)(W:WX)(g:MS):TS:=fun D σ H=>∃env S μ,At Γ σ H env S μ∧(g env S).sat (b0 Γ W D μ H)
theorem _root_.L2.PS.weak{X:Cx}{e:Stmt}{t t':TS}(h:PS X e t)(w:∀D σ H,t' D σ H→t D σ H):PS X e t':=⟨fun pins s σ H D I q=>h.run pins s σ H D I (w D σ H q)⟩
theorem _root_.L2.PSs.weak{X:Cx}{e:List Stmt}{t t':TS}(h:PSs X e t)(w:∀D σ H,t' D σ H→t D σ H):PSs X e t':=⟨fun pins s σ H D I q=>h.run pins s σ H D I (w D σ H q)⟩
theorem b0.ext{Γ:Gm}{W:WX}{D:Ends}{μ μ1:Mu}{H H1:Hp}{r:RS}(x:Ext Γ μ H μ1 H1)(h:r.sat (b0 Γ W D μ H)):r.sat (b0 Γ W D μ1 H1):=
 RS.sat_imp h (fun e S q σ' H' μ' e1 a=>q σ' H' μ' (x.trans e1) a) (fun r S q v H' μ' e1 a=>q v H' μ' (x.trans e1) (a.ext0 x.back)) (fun e S q σ' H' μ' e1 a=>q σ' H' μ' (x.trans e1) a) (fun e S q σ' H' μ' e1 a=>q σ' H' μ' (x.trans e1) a)
  (fun y e S q cls dx σ' H' μ' e1 a xa=>q cls dx σ' H' μ' (x.trans e1) a xa)
theorem dh{Γ:Gm}{W:WX}{Z:Ends}{μ:Mu}{H:Hp}{σ:L2.St}{env:aq}{S:a0}{x:D}{S':a0}(a:At Γ σ H env S μ)(h:(b0 Γ W Z μ H).ex x env S'):dw Γ W σ μ H x S':=fun cls dx H' μ' e s xa=>h cls dx σ H' μ' e (a.next e s) xa
section
variable {Γ:Gm}{X:Cx}{W:WX}{pos:Pos}
theorem dN{f:ME}{k:RV→a0→RS}{D:Ends}{σ:L2.St}{H:Hp}{env:aq}{S:a0}{μ:Mu}{Q:VK}(a:At Γ σ H env S μ)(h:((f env S).then env k).sat (b0 Γ W D μ H))
  (q:∀r S' v H' μ',Ext Γ μ H μ' H'→gn Γ H μ' H' S' v r→(k r S').sat (b0 Γ W D μ' H')→Q v H'):ay Γ W f σ H Q:=by
 rw[R.sat_then] at h
 exact aW a (R.sat_imp h (fun r S' q=>q) fun x S' q=>dh a q) fun r S' v H' μ' x rv g=>q r S' v H' μ' x rv (b0.ext x g)
theorem v5{f:MT}{k:Bool→a0→RS}{D:Ends}{σ:L2.St}{H:Hp}{env:aq}{S:a0}{μ:Mu}{Q:Bool→Hp→Prop}(a:At Γ σ H env S μ)(h:((f env S).then env k).sat (b0 Γ W D μ H))
  (q:∀b S' H' μ',Ext Γ μ H μ' H'→Sim Γ μ' H' S'→(k b S').sat (b0 Γ W D μ' H')→Q b H'):gG Γ W f σ H Q:=by
 rw[R.sat_then] at h
 exact ew a (R.sat_imp h (fun r S' q=>q) fun x S' q=>dh a q) fun b S' H' μ' x s g=>q b S' H' μ' x s (b0.ext x g)
def bq:MS:=fun env S=>.nx env S
def aA(f g:MS):MS:=fun env S=>match f env S with| .nx e S1=>g e S1|r=>r
theorem br:PSs X [] (dC Γ W bq):=pss_nil.weak fun D σ H h=>by
 obtain⟨env,S,μ,a,h⟩:=h
 exact h σ H μ .refl a
theorem DT{f g:MS}{D:Ends}{σ:L2.St}{H:Hp}(h:dC Γ W (aA f g) D σ H):tSeq (dC Γ W f) (dC Γ W g) D σ H:=by
 obtain⟨env,S,μ,a,h⟩:=h
 refine⟨env,S,μ,a,?_⟩
 unfold aA at h
 cases e:f env S with
 |nx e1 S1=>
  rw[e] at h
  exact fun σ' H' μ' x a'=>⟨e1,S1,μ',a',b0.ext x h⟩
 |ret r S1=>rw[e] at h;exact h
 |brk e1 S1=>rw[e] at h;exact h
 |cnt e1 S1=>rw[e] at h;exact h
 |ex x e1 S1=>rw[e] at h;exact h
 |bad=>rw[e] at h;exact h
theorem au{st:Stmt}{rest:List Stmt}{f g:MS}(h1:PS X st (dC Γ W f))(h2:PSs X rest (dC Γ W g)):PSs X (st::rest) (dC Γ W (aA f g)):=(pss_cons h1 h2).weak fun D σ H h=>DT h
theorem aw{st:Stmt}{f:MS}(h1:PS X st (dC Γ W f)):PSs X [st] (dC Γ W f):=pss_one h1
def Ds:MS:=fun env S=>.brk env S
theorem vk:PS X (.Break pos) (dC Γ W Ds):=ps_break.weak fun D σ H h=>by
 obtain⟨env,S,μ,a,h⟩:=h
 exact h σ H μ .refl a
def retS(f:ME):MS:=fun env S=>(f env S).then env fun r S1=>.ret r S1
theorem aX{e:Expr}{f:ME}(h:PE X e (ay Γ W f)):PS X (.Return (some e) pos) (dC Γ W (retS f)):=(ps_ret h).weak fun D σ H h=>by
 obtain⟨env,S,μ,a,h⟩:=h
 unfold retS at h
 rw[R.sat_then] at h
 exact aW a (R.sat_imp h (fun r S' q=>q) fun x S' q=>dh a q) fun r S' v H' μ' x rv g=>g v H' μ' x rv
def je(f:ME):MS:=fun env S=>(f env S).then env fun _ S1=>.nx env S1
theorem zN{e:Expr}{f:ME}(h:PE X e (ay Γ W f))(hs:swapsWith e none pos.line X.env=pure false):PS X (.Expr e pos) (dC Γ W (je f)):=(ps_expr h hs).weak fun D σ H h=>by
 obtain⟨env,S,μ,a,h⟩:=h
 exact dN a h fun r S' v H' μ' x rv g=>g σ H' μ' .refl (a.next x rv.sim.1)
def dF(c:MT)(f g:MS):MS:=fun env S=>(c env S).then env fun b S1=>if b then f env S1 else g env S1
theorem bK{c:Expr}{p q:List Stmt}{t:MT}{f g:MS}(hc:PT X c (gG Γ W t))(hp:PSs X p (dC Γ W f))(hq:PSs X q (dC Γ W g)):PS X (.If c p q pos) (dC Γ W (dF t f g)):=(ps_if hc hp hq).weak fun D σ H h=>by
 obtain⟨env,S,μ,a,h⟩:=h
 refine v5 a h fun b S' H' μ' x s g=>?_
 cases b with
 |true=>exact⟨env,S',μ',a.next x s,g⟩
 |false=>exact⟨env,S',μ',a.next x s,g⟩
inductive Tg where
 |nm (i:Nat)|tp (ts:List Tg)
mutual
def aV:Tg→D→aq→Option aq
 | .nm i,d,env=>some (env.set i (some d))
 | .tp ts,d,env=>match d with| .tup ds=>cj ts ds env|_=>none
def cj:List Tg→List D→aq→Option aq
 | [],[],env=>some env
 |t::ts,d::ds,env=>match aV t d env with|some e=>cj ts ds e|none=>none
 |_,_,_=>none
end
mutual
def Tg.slots:Tg→List Nat
 | .nm i=>[i]
 | .tp ts=>mB ts
def mB:List Tg→List Nat
 | []=>[]
 |t::ts=>t.slots++mB ts
end
def jy(is:List Nat)(σ σ':L2.St):Prop:=σ'.length=σ.length∧∀j,j∉is→σ'[j]? =σ[j]?
def iW(Γ:Gm)(t:Tg):TG:=fun v σ H Q=>∃env μ d env1,b8 Γ H μ σ env∧Rep Γ H μ v d∧aV t d env=some env1∧∀σ',b8 Γ H μ σ' env1→jy t.slots σ σ'→Q σ' H
def qF(Γ:Gm)(ts:List Tg):TGs:=fun vs σ H Q=>∃env μ ds env1,b8 Γ H μ σ env∧Reps Γ H μ vs ds∧cj ts ds env=some env1∧∀σ',b8 Γ H μ σ' env1→jy (mB ts) σ σ'→Q σ' H
theorem _root_.L2.PG.weak{X:Cx}{e:Expr}{t t':TG}(h:PG X e t)(w:∀v σ H Q,t' v σ H Q→t v σ H Q):PG X e t':=⟨fun pins s σ H v u Q I r q=>h.run pins s σ H v u Q I r (w v σ H Q q)⟩
theorem _root_.L2.PGs.weak{X:Cx}{e:List Expr}{t t':TGs}(h:PGs X e t)(w:∀v σ H Q,t' v σ H Q→t v σ H Q):PGs X e t':=⟨fun pins s σ H v u Q I r q=>h.run pins s σ H v u Q I r (w v σ H Q q)⟩
theorem AN{i:Nat}{x:Str}(hN:X.N.Nodup)(hi:X.N[i]? =some x)(hx:Loc X.env.scope x)(hf:X.fn x=true∨X.env.scope.names.lookup x=some .local):PG X (.Name x pos) (iW Γ (.nm i)):=
 (pg_name hN hi hx hf).weak fun v σ H Q h=>by
  obtain⟨env,μ,d,env1,he,r,hb,q⟩:=h
  simp only[aV] at hb
  cases hb
  refine q _ (he.set i r) ⟨by simp,fun j hj=>?_⟩
  simp only[Tg.slots,Jg] at hj
  exact JE (Ne.symm hj)
theorem mW:PGs X [] (qF Γ []):=pgs_nil.weak fun vs σ H Q h=>by
 obtain⟨env,μ,ds,env1,he,r,hb,q⟩:=h
 cases ds with
 |nil=>
  cases r
  simp only[cj] at hb
  cases hb
  exact⟨rfl,q σ he ⟨rfl,fun _ _=>rfl⟩⟩
 |cons d ds=>simp[cj] at hb
theorem pb{e:Expr}{es:List Expr}{env:Env}(h:notStar e=true):assignEach (e::es) env=(false,assign e env)::assignEach es env:=by
 cases e<;>first|rfl|cases h
theorem yj{e:Expr}{es:List Expr}{t:Tg}{ts:List Tg}(hs:notStar e=true)(h1:PG X e (iW Γ t))(h2:PGs X es (qF Γ ts)):PGs X (e::es) (qF Γ (t::ts)):=
 (pgs_cons h1 h2 (by rw[pb hs];rfl)).weak fun vs σ H Q h=>by
  obtain⟨env,μ,ds,env1,he,r,hb,q⟩:=h
  cases ds with
  |nil=>simp[cj] at hb
  |cons d ds=>
   cases r with
   |cons r1 r2=>
    simp only[cj] at hb
    split at hb
    ·rename_i e2 h3
     refine⟨_,_,rfl,env,μ,d,e2,he,r1,h3,fun σ' h4 b1=>⟨e2,μ,ds,env1,h4,r2,hb,fun σ2 h5 b2=>q σ2 h5 ⟨b2.1.trans b1.1,fun j hj=>?_⟩⟩⟩
     simp only[mB,Jv,not_or] at hj
     exact(b2.2 j hj.2).trans (b1.2 j hj.1)
    ·cases hb
theorem n9:∀ {es:List Expr} {env:Env},es.all notStar=true→(assignEach es env).length=es.length∧(assignEach es env).findIdx? (·.1)=none
 | [],_,_=>⟨rfl,rfl⟩
 |e::es,env,h=>by
  obtain⟨h1,h2⟩:=Jn.mp (show(notStar e&&es.all notStar)=true from h)
  obtain⟨h3,h4⟩:=n9 (env:=env) h2
  rw[pb h1]
  exact⟨by rw[JK,JK,h3],by rw[List.findIdx?_cons];simp[h4]⟩
theorem jT:∀ {ts:List Tg} {ds:List D} {env env1:aq},cj ts ds env=some env1→ts.length=ds.length
 | [],[],_,_,_=>rfl
 |t::ts,d::ds,env,env1,h=>by
  simp only[cj] at h
  split at h
  ·exact congrArg (· +1) (jT h)
  ·cases h
 | [],_::_,_,_,h=>by simp[cj] at h
 |_::_,[],_,_,h=>by simp[cj] at h
theorem D6{es:List Expr}{k:Nat}{ts:List Tg}(hK:X.K=Γ.K)(hc:X.calm=true)(hs:es.all notStar=true)(hl:es.length=ts.length)(h:PGs X es (qF Γ ts)):PG X (.Tuple es k pos) (iW Γ (.tp ts)):=
 (pg_tup (n:=es.length) hc h (n9 hs).1 (n9 hs).2).weak fun v σ H Q h=>by
  obtain⟨env,μ,d,env1,he,r,hb,q⟩:=h
  simp only[aV] at hb
  split at hb
  ·rename_i ds
   obtain⟨a,vs,rfl,h1,h2⟩:=r.tupA
   rw[hK]
   exact⟨a,vs,rfl,h1,by rw[h2.length,hl,jT hb],env,μ,ds,env1,he,h2,hb,fun σ' h b=>q σ' h (by simp only[Tg.slots];exact b)⟩
  ·cases hb
def cq(mt:Bool)(r:RV)(S:a0):D×a0:=
 match mt,r with
 |true,.new ob=>(.ref S.length,S++[ob])
 |_,r=>(r.d,S)
theorem eY{mt:Bool}{r:RV}{S:a0}{v:V}{H₀ H:Hp}{μ₀ μ:Mu}(x:Ext Γ μ₀ H₀ μ H)(h:gn Γ H₀ μ H S v r):∃μ',Ext Γ μ₀ H₀ μ' H∧Sim Γ μ' H (cq mt r S).2∧Rep Γ H μ' v (cq mt r S).1:=by
 cases r with
 |val d=>
  obtain⟨s,r⟩:=h
  cases mt<;>exact⟨μ,x,s,r⟩
 |new ob=>
  obtain⟨a,rfl,h0,hm,s,r,s2⟩:=h
  cases mt with
  |false=>exact⟨μ,x,s,r⟩
  |true=>
   refine⟨μ.add a,⟨?_,x.hid,x.keep,x.here,fun b hb hn=>?_,x.tbr⟩,s2,.ref ?_⟩
   ·obtain⟨q,hq⟩:=x.pre
    exact⟨q++[a],by show μ.st++[a]=_;rw[hq];simp⟩
   ·rcases Jv.mp hb with hb|hb
    ·exact x.new b hb hn
    ·rw[Jg.mp hb];exact h0
   ·show(μ.st++[a])[S.length]? =_
    rw[← s.len];simp
def aM(mt:Bool)(i:Nat)(f:ME):MS:=fun env S=>(f env S).then env fun r S1=>.nx (env.set i (some (cq mt r S1).1)) (cq mt r S1).2
theorem CU{mt:Bool}{i:Nat}{x:Str}{e:Expr}{f:ME}{pos':Pos}(hN:X.N.Nodup)(hi:X.N[i]? =some x)(hx:Loc X.env.scope x)(he:PE X e (ay Γ W f))(hs:swapsWith e (some (.Name x pos')) pos.line X.env=pure false)
  (hf:X.fn x=true∨X.env.scope.names.lookup x=some .local):PS X (.Assign [.Name x pos'] e pos) (dC Γ W (aM mt i f)):=
 (ps_set hN hi hx he hs hf).weak fun D σ H h=>by
  obtain⟨env,S,μ,a,h⟩:=h
  unfold aM at h
  rw[R.sat_then] at h
  refine aW a (R.sat_imp h (fun r S' q=>q) fun x S' q=>dh a q) fun r S' v H' μ' x rv g=>?_
  obtain⟨μ2,x2,s2,r2⟩:=eY (mt:=mt) x rv
  exact g _ H' μ2 x2 ⟨(a.env.ext x2).set i r2,s2,x2.tabs a.tabs⟩
def HU(t:Tg)(f:ME):MS:=fun env S=>(f env S).then env fun r S1=>match aV t r.d env with|some e=>.nx e S1|none=>.bad
end
theorem Ext.hideL{Γ:Gm}{μ:Mu}{H:Hp}{p:Addr}(hp:H p=none)(o:HO){v:V}{d:D}(r:Rep Γ H μ v d):Rep Γ (upd H p o) (μ.hide p) v d:=by
 have st:∀ {b u},Still H μ b u→Still (upd H p o) (μ.hide p) b u:=fun {b u} h=>by
  have ne:=ne_of_none h.1 hp
  refine⟨by rw[upd_ne ne];exact h.1,h.2.1,fun z=>?_⟩
  rcases Jj.mp z with z|z
  ·exact ne z
  ·exact h.2.2 z
 induction r using Rep.rec (motive_2:=fun vs ds _=>Reps Γ (upd H p o) (μ.hide p) vs ds) with
 |non=>exact .non
 |bl b=>exact .bl b
 |int i=>exact .int i
 |str x=>exact .str x
 |tup h _ ih=>exact .tup (h.imp (jj.imp st) id) ih
 |lst h _ ih=>exact .lst (st h) ih
 |scr h _ ih=>exact .scr (st h) ih
 |dct h _ ih=>exact .dct (st h) ih
 |dcn h k _ _ ih1 ih=>exact .dcn (st h) k ih1 ih
 |ins h h2 _ ih=>exact .ins (st h) (st h2) ih
 |exc h h1 h2 h3 h4 _ ih=>exact .exc (st h) h1 h2 h3 (st h4) ih
 |glb n=>exact .glb n
 |xdd h=>exact .xdd (st h)
 |ref h=>exact .ref h
 |nil=>exact .nil
 |cons _ _ i1 i2=>exact .cons i1 i2
section
variable {Γ:Gm}{μ:Mu}{H:Hp}{p:Addr}
theorem Reps.hideL(hp:H p=none)(o:HO):∀ {vs:List V} {ds:List D},Reps Γ H μ vs ds→Reps Γ (upd H p o) (μ.hide p) vs ds
 |_,_,.nil=>.nil
 |_,_,.cons r t=>.cons (Ext.hideL hp o r) (t.hideL hp o)
def Vw(Γ:Gm)(μ₀:Mu)(H₀:Hp)(μ:Mu)(H:Hp):Prop:=Ext Γ μ₀ H₀ μ H∨∃p o,H₀ p=none∧Ext Γ (μ₀.hide p) (upd H₀ p o) μ H
theorem Vw.rep{μ₀:Mu}{H₀:Hp}(w:Vw Γ μ₀ H₀ μ H){v:V}{d:D}(r:Rep Γ H₀ μ₀ v d):Rep Γ H μ v d:=by
 rcases w with x| ⟨p,o,hp,x⟩
 ·exact r.ext x
 ·exact(Ext.hideL hp o r).ext x
theorem Vw.still{μ₀:Mu}{H₀:Hp}(w:Vw Γ μ₀ H₀ μ H){b:Addr}{u:HO}(h:Still H₀ μ₀ b u)(n:∀ps,u≠ .tbl ps):Still H μ b u:=by
 rcases w with x| ⟨p,o,hp,x⟩
 ·exact x.still h n
 ·have ne:=ne_of_none h.1 hp
  refine x.still ⟨by rw[upd_ne ne];exact h.1,h.2.1,fun z=>?_⟩ n
  rcases Jj.mp z with z|z
  ·exact ne z
  ·exact h.2.2 z
end
inductive Src where
 |st (ds:List D)|rf (n:Nat)
abbrev MI:=aq→a0→R Src
def ko(H H':Hp):Prop:=H'=H∨∃p ob ys,H p=none∧H'=upd H p (.frz ob (.tup ys))
theorem ko.ext{Γ:Gm}{μ:Mu}{H H':Hp}(h:ko H H'):Ext Γ μ H μ H':=by
 rcases h with rfl| ⟨p,ob,ys,hp,rfl⟩
 ·exact .refl
 ·exact .laid hp _
theorem ko.sim{Γ:Gm}{μ:Mu}{H H':Hp}{S:a0}(h:ko H H')(s:Sim Γ μ H S):Sim Γ μ H' S:=by
 rcases h with rfl| ⟨p,ob,ys,hp,rfl⟩
 ·exact s
 ·exact s.laid hp _
def j7(Γ:Gm)(J:It)(μ₀:Mu)(H₀:Hp)(ds:List D):Prop:=∃ (G:Hp→Prop) (Y:Nat→Hp→V→Hp→Prop),Walk J ds.length G Y∧(∀μ H,Vw Γ μ₀ H₀ μ H→G H)∧
 ∀μ H S i x H',Vw Γ μ₀ H₀ μ H→Sim Γ μ H S→i<ds.length→Y i H x H'→∃d,ds[i]? =some d∧ko H H'∧Rep Γ H' μ x d
def rj(Γ:Gm)(J:It)(μ₀:Mu)(H₀:Hp):Src→Prop
 | .st ds=>j7 Γ J μ₀ H₀ ds
 | .rf n=>∃a,μ₀.st[n]? =some a∧J=Itl Γ.K a
def ky(Γ:Gm)(W:WX)(m:MI):TI:=fun σ H Rr=>∃env S μ,At Γ σ H env S μ∧(m env S).sat (fun src S'=>∀J H' μ',Ext Γ μ H μ' H'→Sim Γ μ' H' S'→rj Γ J μ' H' src→Rr J H') (dw Γ W σ μ H)
theorem _root_.L2.PI.weak{X:Cx}{tg e:Expr}{t t':TI}(h:PI X tg e t)(w:∀σ H Q,t' σ H Q→t σ H Q):PI X tg e t':=⟨fun pins s σ H Q I q=>h.run pins s σ H Q I (w σ H Q q)⟩
section
variable {Γ:Gm}{μ:Mu}{H:Hp}
theorem uz{a:Addr}{vs:List V}{ds:List D}(st:Still H μ a (.lst vs))(r:Reps Γ H μ vs ds):j7 Γ (Itl Γ.K a) μ H ds:=by
 refine⟨fun H=>SqL Γ.K H a vs,_,by rw[← r.length];exact walk_list (xs:=vs),fun μ' H' x=>SqL.of (x.still st fun ps z=>by cases z).1,fun μ' H' _ i v H2 x _ hi y=>?_⟩
 obtain⟨rfl,y⟩:=y
 obtain⟨d,h1,h2⟩:=r.getV y
 exact⟨d,h1,.inl rfl,x.rep h2⟩
theorem uI{a:Addr}{ob:Obj}{vs:List V}{ds:List D}(st:Still H μ a (.frz ob (.lst vs)))(r:Reps Γ H μ vs ds):j7 Γ (Itl Γ.K a) μ H ds:=by
 refine⟨fun H=>SqL Γ.K H a vs,_,by rw[← r.length];exact walk_list (xs:=vs),fun μ' H' x=>.inl (.inr ⟨ob,(x.still st fun ps z=>by cases z).1⟩),fun μ' H' _ i v H2 x _ hi y=>?_⟩
 obtain⟨rfl,y⟩:=y
 obtain⟨d,h1,h2⟩:=r.getV y
 exact⟨d,h1,.inl rfl,x.rep h2⟩
theorem ur{a:Addr}{vs:List V}{ds:List D}(st:jj H μ a vs∨o9 Γ.K a vs)(r:Reps Γ H μ vs ds):j7 Γ (Itt Γ.K a) μ H ds:=by
 refine⟨fun H=>SqT Γ.K H a vs,_,by rw[← r.length];exact walk_tup (xs:=vs),fun μ' H' x=>?_,fun μ' H' _ i v H2 x _ hi y=>?_⟩
 ·rcases st with st|st
  ·obtain⟨ob,_,st⟩:=st
   exact .inl (.inr ⟨ob,(x.still st fun ps z=>by cases z).1⟩)
  ·exact st.sq
 ·obtain⟨rfl,y⟩:=y
  obtain⟨d,h1,h2⟩:=r.getV y
  exact⟨d,h1,.inl rfl,x.rep h2⟩
def gA(lo:Int)(n:Nat):List D:=(List.range n).map fun(i:Nat)=>.int (lo+(i:Int))
theorem oH{lo:Int}{n:Nat}:j7 Γ (Itr lo n) μ H (gA lo n):=by
 refine⟨fun _=>True,_,by rw[show(gA lo n).length=n by simp[gA]];exact walk_range,fun _ _ _=>trivial,fun μ' H' _ i v H2 x _ hi y=>?_⟩
 obtain⟨rfl,rfl⟩:=y
 have hi':i<n:=by simpa [gA] using hi
 exact⟨.int (lo+i),by simp[gA,hi'],.inl rfl,.int _⟩
def jS(z:Str):List D:=z.cps.toList.map fun c=>.str ⟨#[c]⟩
theorem tY{z:Str}:j7 Γ (Its z) μ H (jS z):=by
 refine⟨fun _=>True,_,by rw[show(jS z).length=z.cps.size by simp[jS]];exact walk_str,fun _ _ _=>trivial,fun μ' H' _ i v H2 x _ hi y=>?_⟩
 obtain⟨rfl,c,hc,rfl⟩:=y
 have e:z.cps.toList[i]? =some c:=by rw[Array.getElem?_toList];exact hc
 exact⟨.str ⟨#[c]⟩,by simp[jS,e],.inl rfl,.str _⟩
theorem oW{p:Addr}{ob:Obj}{ys:List V}(hp:H p=none):ko H (upd H p (.frz ob (.tup ys))):=.inr ⟨p,ob,ys,hp,rfl⟩
theorem wQ{p:Addr}{ob:Obj}{x y:V}{d e:D}{S:a0}(ho:ob.dict=none)(hm:μ.no p)(hp:H p=none)(rx:Rep Γ H μ x d)(ry:Rep Γ H μ y e):Rep Γ (upd H p (.frz ob (.tup [x,y]))) μ (.ref p) (.tup [d,e]):=
 .tup (.inl ⟨ob,ho,upd_same,hm⟩) (.cons (rx.ext (Ext.laid hp _)) (.cons (ry.ext (Ext.laid hp _)) .nil))
end
def forL(t:Tg)(body:MS):List D→MS
 | []=>fun env S=>.nx env S
 |d::ds=>fun env S=>match aV t d env with
  |none=>.bad
  |some e1=>match body e1 S with
   | .nx e2 S2=>forL t body ds e2 S2
   | .cnt e2 S2=>forL t body ds e2 S2
   | .brk e2 S2=>.nx e2 S2
   |r=>r
def forR(n:Nat)(t:Tg)(body:MS):Nat→Nat→MS
 |0,_=>fun _ _=>.bad
 |k+1,i=>fun env S=>match S[n]? with
  |some (.lst xs)=>match xs[i]? with
   |none=>.nx env S
   |some d=>match aV t d env with
    |none=>.bad
    |some e1=>match body e1 S with
     | .nx e2 S2=>forR n t body k (i+1) e2 S2
     | .cnt e2 S2=>forR n t body k (i+1) e2 S2
     | .brk e2 S2=>.nx e2 S2
     |r=>r
  |_=>.bad
def Bw(fuel:Nat)(t:Tg)(body:MS):Src→MS
 | .st ds=>forL t body ds
 | .rf n=>forR n t body fuel 0
def bV(fuel:Nat)(t:Tg)(it:MI)(body:MS):MS:=fun env S=>(it env S).then env fun src S1=>Bw fuel t body src env S1
section
variable {Γ:Gm}{X:Cx}{W:WX}{pos:Pos}
theorem gH{Z:Ends}{μ:Mu}{H:Hp}{r:RS}{k:MS}{N:L2.St→Hp→Prop}
  (h:(match r with| .nx e2 S2=>k e2 S2| .cnt e2 S2=>k e2 S2| .brk e2 S2=>.nx e2 S2|r=>r:RS).sat (b0 Γ W Z μ H))
  (hN:∀e2 S2 σ' H' μ',Ext Γ μ H μ' H'→At Γ σ' H' e2 S2 μ'→(k e2 S2).sat (b0 Γ W Z μ' H')→N σ' H'):
  r.sat (b0 Γ W { nx:=N,rt:=Z.rt,bk:=Z.nx,ct:=N} μ H):=by
 cases r with
 |nx e2 S2=>exact fun σ' H' μ' x a=>hN e2 S2 σ' H' μ' x a (b0.ext x h)
 |cnt e2 S2=>exact fun σ' H' μ' x a=>hN e2 S2 σ' H' μ' x a (b0.ext x h)
 |brk e2 S2=>exact h
 |ret r S2=>exact h
 |ex y e2 S2=>exact h
 |bad=>exact h
theorem Cm{fuel:Nat}{t:Tg}{it:MI}{body:MS}{Z:Ends}{σ:L2.St}{H:Hp}(hK:X.K=Γ.K)(h:dC Γ W (bV fuel t it body) Z σ H):tFor (ky Γ W it) (iW Γ t) (dC Γ W body) Z σ H:=by
 obtain⟨env,S,μ,a,h⟩:=h
 unfold bV at h
 rw[R.sat_then] at h
 refine⟨env,S,μ,a,R.sat_imp h (fun src S1 q=>?_) fun x S' q=>dh a q⟩
 intro J H1 μ1 x1 s1 fd
 have a1:=a.next x1 s1
 have q1:=b0.ext x1 q
 cases src with
 |st ds=>
  obtain⟨G,Y,w,hG,hY⟩:=fd
  refine for_it w (fun i σ' H'=>∃env' S' μ',Ext Γ μ1 H1 μ' H'∧At Γ σ' H' env' S' μ'∧(forL t body (ds.drop i) env' S').sat (b0 Γ W Z μ' H')) ⟨env,S1,μ1,.refl,a1,q1⟩ (fun i σ' H' _ ⟨_,_,μ',x',_,_⟩=>hG μ' H' (.inl x')) ?_ ?_
  ·rintro i x σ' H' H2 hi ⟨env',S',μ',x',a',q'⟩ y
   obtain⟨d,hd,hst,hr⟩:=hY μ' H' S' i x H2 (.inl x') a'.sim hi y
   have ed:ds.drop i=d::ds.drop (i+1):=by
    obtain⟨h1,h2⟩:=Jl.mp hd
    rw[List.drop_eq_getElem_cons h1,h2]
   rw[ed] at q'
   simp only[forL] at q'
   split at q'
   ·exact False.elim q'
   ·rename_i e1 he1
    have x2:=hst.ext (Γ:=Γ) (μ:=μ')
    have a2:At Γ σ' H2 env' S' μ':=a'.next x2 (hst.sim a'.sim)
    refine⟨env',μ',d,e1,a2.env,hr,he1,fun σ2 h2 _=>?_⟩
    refine⟨e1,S',μ',⟨h2,a2.sim,a2.tabs⟩,?_⟩
    refine gH (Z:=Z) (k:=forL t body (ds.drop (i+1))) (b0.ext x2 q') fun e2 S2 σ3 H3 μ3 x3 a3 q3=>⟨e2,S2,μ3,x'.trans (x2.trans x3),a3,q3⟩
  ·rintro σ' H' ⟨env',S',μ',x',a',q'⟩
   rw[List.drop_length] at q'
   exact q' σ' H' μ' .refl a'
 |rf n=>
  obtain⟨l,hl,rfl⟩:=fd
  refine⟨fun i m σ' H'=>∃env' S' μ',Ext Γ μ1 H1 μ' H'∧At Γ σ' H' env' S' μ'∧(forR n t body m i env' S').sat (b0 Γ W Z μ' H'),⟨fuel,env,S1,μ1,.refl,a1,q1⟩,?_⟩
  rintro i m σ' H' ⟨env',S',μ',x',a',q'⟩
  cases m with
  |zero=>exact False.elim q'
  |succ k=>
   simp only[forR] at q'
   split at q'
   ·rename_i xs hS
    have hl':=x'.at hl
    obtain⟨vs,hv,rv⟩:=a'.sim.ats n l _ hl' hS
    split at q'
    ·rename_i hn
     refine .inl ⟨⟨vs,.of hv,?_⟩,q' σ' H' μ' .refl a'⟩
     rw[rv.length]
     exact List.getElem?_eq_none_iff.mp hn
    ·rename_i d hd
     obtain⟨v,hv1,rv1⟩:=rv.get hd
     split at q'
     ·exact False.elim q'
     ·rename_i e1 he1
      refine .inr ⟨⟨vs,v,.of hv,hv1⟩,fun σ2 H2=>∃m',m'<k+1∧∃env' S' μ',Ext Γ μ1 H1 μ' H2∧At Γ σ2 H2 env' S' μ'∧(forR n t body m' (i+1) env' S').sat (b0 Γ W Z μ' H2),fun σ2 H2 z=>z,fun x H2 y=>?_⟩
      obtain⟨rfl,y⟩:=y
      have e2:=y vs (.of hv)
      rw[hv1] at e2
      cases e2
      refine⟨env',μ',d,e1,a'.env,rv1,he1,fun σ2 h2 _=>?_⟩
      refine⟨e1,S',μ',⟨h2,a'.sim,a'.tabs⟩,?_⟩
      exact gH (Z:=Z) (k:=forR n t body k (i+1)) q' fun e2 S2 σ3 H3 μ3 x3 a3 q3=>⟨k,Nat.lt_succ_self k,e2,S2,μ3,x'.trans x3,a3,q3⟩
   ·exact False.elim q'
theorem CM{fuel:Nat}{t:Tg}{tg iter:Expr}{body:List Stmt}{it:MI}{b:MS}(hK:X.K=Γ.K)(hp:PassesOwn (model X.prog X.w) X.A X.env X.xe)(hc:X.calm=true)(hi:PI X tg iter (ky Γ W it))(hg:PG X tg (iW Γ t))(hb:PSs X body (dC Γ W b))
  (hs:∀x,foldedSetIterable iter X.env x=pure x):PS X (.For tg iter body [] pos) (dC Γ W (bV fuel t it b)):=(ps_for hp hc hi hg hb hs).weak fun D σ H h=>Cm hK h
end
def yP(t:Tg)(c:MT)(f:ME):List D→aq→a0→R (List D)
 | [],_,S=>.ok [] S
 |d::ds,env,S=>match aV t d env with
  |none=>.bad
  |some e1=>(c e1 S).bind fun b S1=>if b then(f e1 S1).bind fun y S2=>(yP t c f ds env S2).bind fun ys S3=>.ok (y.d::ys) S3
    else yP t c f ds env S1
def DL(n:Nat)(t:Tg)(c:MT)(f:ME):Nat→Nat→aq→a0→R (List D)
 |0,_,_,_=>.bad
 |k+1,i,env,S=>match S[n]? with
  |some (.lst xs)=>match xs[i]? with
   |none=>.ok [] S
   |some d=>match aV t d env with
    |none=>.bad
    |some e1=>(c e1 S).bind fun b S1=>if b then(f e1 S1).bind fun y S2=>(DL n t c f k (i+1) env S2).bind fun ys S3=>.ok (y.d::ys) S3
      else DL n t c f k (i+1) env S1
  |_=>.bad
def fW{α:Type}(r:R α):R α:=match r with| .ex _ _=>.bad|r=>r
def rW(fuel:Nat)(t:Tg)(c:MT)(f:ME):Src→aq→a0→R (List D)
 | .st ds=>yP t c f ds
 | .rf n=>DL n t c f fuel 0
def aF(vs:List Nat)(env:aq):aq:=match vs with
 | []=>env
 |i::vs=>(aF vs env).set i none
def jY(fuel:Nat)(vs:List Nat)(t:Tg)(it:MI)(c:MT)(f:ME):ME:=fun env S=>(it env S).bind fun src S1=>
 (fW (rW fuel t c f src (aF vs env) S1)).bind fun ys S2=>if ys.length≤16777216 then .ok (.new (.lst ys)) S2 else .bad
theorem nR(σ:L2.St)(vs:List Nat)(j:Nat):(wipe σ vs)[j]? =if j∈vs then(if j<σ.length then some none else none) else σ[j]? :=by
 induction vs with
 |nil=>simp[wipe]
 |cons v vs ih=>
  unfold wipe
  by_cases e:v=j
  ·subst e
   rw[if_pos Jf,List.getElem?_set,if_pos rfl,wipe_length]
  ·rw[JE e,ih]
   have h:(j∈v::vs)↔j∈vs:=⟨fun h=>(Jj.mp h).resolve_left (Ne.symm e),Je _⟩
   simp only[h]
theorem fQ{σ σ2:L2.St}{vs ss:List Nat}(hs:∀j∈ss,j∈vs)(b:jy ss (wipe σ vs) σ2):wipe σ2 vs=wipe σ vs:=by
 refine List.ext_getElem? fun j=>?_
 rw[nR]
 have hl:σ2.length=σ.length:=by rw[b.1,wipe_length]
 by_cases h:j∈vs
 ·rw[if_pos h,nR,if_pos h,hl]
 ·rw[if_neg h]
  exact b.2 j fun z=>h (hs j z)
theorem b8.wipe{Γ:Gm}{H:Hp}{μ:Mu}{σ:L2.St}{env:aq}(h:b8 Γ H μ σ env):∀vs:List Nat,b8 Γ H μ (L2.wipe σ vs) (aF vs env)
 | []=>h
 |v::vs=>(h.wipe vs).drop v
theorem Rep.unhide{Γ:Gm}{μ:Mu}{H:Hp}{p:Addr}{v:V}{d:D}(r:Rep Γ H (μ.hide p) v d):Rep Γ H μ v d:=by
 have st:∀ {b u},Still H (μ.hide p) b u→Still H μ b u:=fun {b u} h=>⟨h.1,h.2.1,fun z=>h.2.2 (Je _ z)⟩
 induction r using Rep.rec (motive_2:=fun vs ds _=>Reps Γ H μ vs ds) with
 |non=>exact .non
 |bl b=>exact .bl b
 |int i=>exact .int i
 |str x=>exact .str x
 |tup h _ ih=>exact .tup (h.imp (jj.imp st) id) ih
 |lst h _ ih=>exact .lst (st h) ih
 |scr h _ ih=>exact .scr (st h) ih
 |dct h _ ih=>exact .dct (st h) ih
 |dcn h k _ _ ih1 ih=>exact .dcn (st h) k ih1 ih
 |ins h h2 _ ih=>exact .ins (st h) (st h2) ih
 |exc h h1 h2 h3 h4 _ ih=>exact .exc (st h) h1 h2 h3 (st h4) ih
 |glb n=>exact .glb n
 |xdd h=>exact .xdd (st h)
 |ref h=>exact .ref h
 |nil=>exact .nil
 |cons _ _ i1 i2=>exact .cons i1 i2
section
variable {Γ:Gm}{μ:Mu}{H:Hp}{p:Addr}
theorem Reps.unhide:∀ {vs:List V} {ds:List D},Reps Γ H (μ.hide p) vs ds→Reps Γ H μ vs ds
 |_,_,.nil=>.nil
 |_,_,.cons r t=>.cons r.unhide t.unhide
theorem Rep.wrhid{v:V}{d:D}(hm:p∈μ.hd)(o:HO)(r:Rep Γ H μ v d):Rep Γ (upd H p o) μ v d:=by
 have st:∀ {b u},Still H μ b u→Still (upd H p o) μ b u:=fun {b u} h=>⟨by rw[upd_ne (fun(z:b=p)=>h.2.2 (by rw[z];exact hm))];exact h.1,h.2⟩
 induction r using Rep.rec (motive_2:=fun vs ds _=>Reps Γ (upd H p o) μ vs ds) with
 |non=>exact .non
 |bl b=>exact .bl b
 |int i=>exact .int i
 |str x=>exact .str x
 |tup h _ ih=>exact .tup (h.imp (jj.imp st) id) ih
 |lst h _ ih=>exact .lst (st h) ih
 |scr h _ ih=>exact .scr (st h) ih
 |dct h _ ih=>exact .dct (st h) ih
 |dcn h k _ _ ih1 ih=>exact .dcn (st h) k ih1 ih
 |ins h h2 _ ih=>exact .ins (st h) (st h2) ih
 |exc h h1 h2 h3 h4 _ ih=>exact .exc (st h) h1 h2 h3 (st h4) ih
 |glb n=>exact .glb n
 |xdd h=>exact .xdd (st h)
 |ref h=>exact .ref h
 |nil=>exact .nil
 |cons _ _ i1 i2=>exact .cons i1 i2
theorem Reps.wrhid(hm:p∈μ.hd)(o:HO):∀ {vs:List V} {ds:List D},Reps Γ H μ vs ds→Reps Γ (upd H p o) μ vs ds
 |_,_,.nil=>.nil
 |_,_,.cons r t=>.cons (r.wrhid hm o) (t.wrhid hm o)
theorem cy.map{H':Hp}{μ':Mu}{a:Addr}{ob:Ob}(e:∀o,H a=Option.some o→H' a=Option.some o)(k:∀ {vs ds},Reps Γ H μ vs ds→Reps Γ H' μ' vs ds)(h:cy Γ H μ a ob):cy Γ H' μ' a ob:=by
 cases ob with
 |lst ds=>obtain⟨vs,h,r⟩:=h;exact⟨vs,e _ h,k r⟩
 |dct ks ds=>obtain⟨vs,h,q,r⟩:=h;exact⟨vs,e _ h,q,k r⟩
 |dcn ks ds=>obtain⟨vs,h,q,r1,r⟩:=h;exact⟨vs,e _ h,q,k r1,k r⟩
 |ins c fs=>obtain⟨dx,vs,h,q,r⟩:=h;exact⟨dx,vs,e _ h,q,k r⟩
 |slo c fs=>
  have k1:∀ {v d},Rep Γ H μ v d→Rep Γ H' μ' v d:=fun {v d} r=>by
   cases k (.cons r .nil) with
   |cons r _=>exact r
  obtain⟨dx,vs,h,q,r⟩:=h;exact⟨dx,vs,e _ h,k1 q,r.map k1⟩
theorem At.hide{σ:L2.St}{env:aq}{S:a0}(a:At Γ σ H env S μ)(hp:H p=none)(o:HO):At Γ σ (upd H p o) env S (μ.hide p):=by
 refine⟨⟨a.env.1,fun i d e=>?_⟩,⟨a.sim.len,a.sim.nd,fun n b ob h1 h2=>?_,fun b hb z=>?_,fun b hb=>?_⟩,(ig hp o).all a.tabs⟩
 ·obtain⟨v,h1,h2⟩:=a.env.2 i d e
  exact⟨v,h1,Ext.hideL hp o h2⟩
 ·have h:=a.sim.ats n b ob h1 h2
  exact h.map (fun u e=>by rw[upd_ne (ne_of_none e hp)];exact e) fun r=>r.hideL hp o
 ·rcases Jj.mp z with z|z
  ·obtain⟨u,hu⟩:=a.sim.there b hb
   rw[z,hp] at hu;cases hu
  ·exact a.sim.apart b hb z
 ·rcases Jj.mp hb with z|z
  ·exact⟨o,by rw[z,upd_same]⟩
  ·obtain⟨u,hu⟩:=a.sim.hth b z
   exact⟨u,by rw[upd_ne (ne_of_none hu hp)];exact hu⟩
theorem Sim.unhide{S:a0}(s:Sim Γ (μ.hide p) H S):Sim Γ μ H S:=
 ⟨s.len,s.nd,fun n b ob h1 h2=>(s.ats n b ob h1 h2).map (fun _ e=>e) fun r=>r.unhide,fun b hb z=>s.apart b hb (Je _ z),fun b hb=>s.hth b (Je _ hb)⟩
theorem At.wrhid{σ:L2.St}{env:aq}{S:a0}(a:At Γ σ H env S μ)(hm:p∈μ.hd)(o:HO)(ht:∀ps,H p≠Option.some (.tbl ps))(hc:jf H p):At Γ σ (upd H p o) env S μ:=by
 refine⟨⟨a.env.1,fun i d e=>?_⟩,⟨a.sim.len,a.sim.nd,fun n b ob h1 h2=>?_,a.sim.apart,fun b hb=>?_⟩,(gv ht hc o).all a.tabs⟩
 ·obtain⟨v,h1,h2⟩:=a.env.2 i d e
  exact⟨v,h1,h2.wrhid hm o⟩
 ·have h:=a.sim.ats n b ob h1 h2
  have nb:b≠p:=fun z=>a.sim.apart b (Js h1) (z▸hm)
  exact h.map (fun u e=>by rw[upd_ne nb];exact e) fun r=>r.wrhid hm o
 ·by_cases e:b=p
  ·exact⟨o,by rw[e,upd_same]⟩
  ·obtain⟨u,hu⟩:=a.sim.hth b hb
   exact⟨u,by rw[upd_ne e];exact hu⟩
end
theorem kz{H:Hp}{p:Addr}{vs:List V}(h:H p=some (.lst vs)):(∀ps,H p≠some (.tbl ps))∧jf H p:=
 ⟨fun ps z=>(by rw[h] at z;cases z),lX h fun φ z=>by cases z⟩
theorem zp{Γ:Gm}{H:Hp}{p:Addr}{o:HO}(hp:H p=none)(ht:∀ps,upd H p o p≠some (.tbl ps))(hc:jf (upd H p o) p):TabsR Γ (upd H p o) H:=by
 have ne:∀b u,(∀e:b=p,u≠upd H p o p)→upd H p o b=some u→True:=fun _ _ _ _=>trivial
 have back:∀ {b:Addr} {u:HO},b≠p→upd H p o b=some u→H b=some u:=fun hb e=>by rw[upd_ne hb] at e;exact e
 have one:∀ {P:Addr} {q:Str},LamX.TabS (upd H p o) P q→LamX.TabS H P q:=fun {P q} ⟨ps,a1,a2,a3⟩=>by
  refine⟨ps,back (fun z=>ht ps (by rw[z] at a1;exact a1)) a1,a2,fun pos cv hcv=>?_⟩
  obtain⟨c,e1,e2⟩:=a3 pos cv hcv
  exact⟨c,e1,back (fun z=>hc.1 q (by rw[z] at e2;exact e2)) e2⟩
 refine⟨fun T _ h q hq=>one (h q hq),fun h q hq=>?_⟩
 obtain⟨ps,a1,a2,a3⟩:=h q hq
 refine⟨ps,back (fun z=>ht ps (by rw[z] at a1;exact a1)) a1,a2,fun pos cv hcv=>?_⟩
 obtain⟨c,P,e1,e2,e3,e4⟩:=a3 pos cv hcv
 exact⟨c,P,e1,back (fun z=>hc.2 q.2 P (by rw[z] at e2;exact e2)) e2,e3,one e4⟩
structure Mk1(Γ:Gm)(μ₀:Mu)(H₀:Hp)(p:Addr)(μ:Mu)(H:Hp):Prop where
 pre:∃r,μ.st=μ₀.st++r
 hid:μ.hd=p::μ₀.hd
 keep:∀b o,H₀ b=some o→b∉μ₀.st→(∀ps,o≠ .tbl ps)→H b=some o
 here:∀b o,H₀ b=some o→∃o',H b=some o'
 new:∀b∈μ.st,b∉μ₀.st→H₀ b=none
 tbr:TabsR Γ H₀ H
section
variable {Γ:Gm}{μ₀ μ μ':Mu}{H₀ H H':Hp}{p:Addr}
theorem Mk1.begin(hp:H₀ p=none)(o:HO):Mk1 Γ μ₀ H₀ p (μ₀.hide p) (upd H₀ p o):=
 ⟨⟨[],by simp[Mu.hide]⟩,rfl,fun b u e _ _=>by rw[upd_ne (ne_of_none e hp)];exact e,fun b u e=>⟨u,by rw[upd_ne (ne_of_none e hp)];exact e⟩,fun b h1 h2=>absurd h1 h2,ig hp o⟩
theorem Mk1.ext(m:Mk1 Γ μ₀ H₀ p μ H)(x:Ext Γ μ H μ' H'):Mk1 Γ μ₀ H₀ p μ' H' where
 pre:=by
  obtain⟨r,h1⟩:=m.pre
  obtain⟨q,h2⟩:=x.pre
  exact⟨r++q,by rw[h2,h1];simp⟩
 hid:=x.hid.trans m.hid
 keep:=fun c o h hm n=>by
  refine x.keep c o (m.keep c o h hm n) (fun z=>?_) n
  have q:=m.new c z hm
  rw[h] at q;cases q
 here:=fun c o h=>by
  obtain⟨o1,h1⟩:=m.here c o h
  exact x.here c o1 h1
 new:=fun c hc hm=>by
  by_cases h1:c∈μ.st
  ·exact m.new c h1 hm
  ·have q:=x.new c hc h1
   cases e:H₀ c with
   |none=>rfl
   |some o=>
    obtain⟨o1,h1⟩:=m.here c o e
    rw[q] at h1;cases h1
 tbr:=m.tbr.trans x.tbr
theorem Mk1.at(m:Mk1 Γ μ₀ H₀ p μ H)(hns:p∉μ.st)(hp0:H₀ p=none)(hnc:(∀ps,H p≠some (.tbl ps))∧jf H p){o:HO}(h:H p=some o):Ext Γ (μ₀.hide p) (upd H₀ p o) μ H where
 pre:=m.pre
 hid:=m.hid
 keep:=fun b u e hm n=>by
  by_cases hb:b=p
  ·rw[hb,upd_same] at e;rw[hb,h, ← e]
  ·rw[upd_ne hb] at e;exact m.keep b u e hm n
 here:=fun b u e=>by
  by_cases hb:b=p
  ·exact⟨o,by rw[hb];exact h⟩
  ·rw[upd_ne hb] at e;exact m.here b u e
 new:=fun b hb hm=>by
  by_cases e:b=p
  ·exact absurd (e▸hb) hns
  ·rw[upd_ne e];exact m.new b hb hm
 tbr:=(zp hp0 (fun ps z=>hnc.1 ps (h.trans (upd_same.symm.trans z))) ⟨fun q z=>hnc.2.1 q (h.trans (upd_same.symm.trans z)),fun q P z=>hnc.2.2 q P (h.trans (upd_same.symm.trans z))⟩).trans m.tbr
theorem Mk1.write(m:Mk1 Γ μ₀ H₀ p μ H)(hp:H₀ p=none)(o:HO)(ht:∀ps,H p≠some (.tbl ps))(hc:jf H p):Mk1 Γ μ₀ H₀ p μ (upd H p o):=
 ⟨m.pre,m.hid,fun b u e hm n=>by rw[upd_ne (ne_of_none e hp)];exact m.keep b u e hm n,fun b u e=>by
  obtain⟨u',e'⟩:=m.here b u e
  exact⟨u',by rw[upd_ne (ne_of_none e hp)];exact e'⟩,m.new,m.tbr.trans (gv ht hc o)⟩
theorem Mk1.done(m:Mk1 Γ μ₀ H₀ p μ H):Ext Γ μ₀ H₀ ⟨μ.st,μ₀.hd⟩ H:=⟨m.pre,rfl,m.keep,m.here,m.new,m.tbr⟩
theorem Mk1.eta(m:Mk1 Γ μ₀ H₀ p μ H):μ=Mu.hide ⟨μ.st,μ₀.hd⟩ p:=by
 obtain⟨a,b⟩:=μ
 have e:b=p::μ₀.hd:=m.hid
 rw[e];rfl
end
theorem R.sat_noEx{α:Type}{r:R α}{Q:α→a0→Prop}{E E':D→a0→Prop}(h:(fW r).sat Q E):r.sat Q E':=by
 cases r with
 |ok a S=>exact h
 |ex x S=>exact False.elim h
 |bad=>exact h
section
variable {Γ:Gm}{X:Cx}{W:WX}{pos:Pos}
abbrev WF:WX:=fun _ _ _ _=>False
theorem eB{σ:L2.St}{μ:Mu}{H:Hp}{α:Type}{r:R α}{Q:α→a0→Prop}(h:r.sat Q fun _ _=>False):r.sat Q (dw Γ WF σ μ H):=R.sat_imp h (fun _ _ q=>q) fun _ _ q=>False.elim q
theorem rR{t:Tg}{c:MT}{f:ME}{vs:List Nat}{σ:L2.St}{μ₀ μ:Mu}{H₀ H H2:Hp}{p:Addr}{env e1:aq}{S:a0}{x:V}{d:D}{accv:List V}{acc:List D}{Nx:Hp→Prop}{k:a0→R (List D)}
  (hp:H₀ p=none) (hs:∀j∈t.slots,j∈vs) (m:Mk1 Γ μ₀ H₀ p μ H) (a:At Γ (wipe σ vs) H env S μ) (hD:H p=some (.lst accv)) (ra:Reps Γ H μ accv acc) (st:ko H H2) (rx:Rep Γ H2 μ x d) (hb:aV t d env=some e1) {Qe:List D→a0→Prop}
  (q:((c e1 S).bind fun b S1=>if b then(f e1 S1).bind fun y S2=>(k S2).bind fun ys S3=>.ok (y.d::ys) S3 else k S1).sat (fun ys S3=>acc.length+ys.length≤16777216∧Qe (acc++ys) S3) fun _ _=>False)
  (hN:∀μ' H' S' accv' acc',Mk1 Γ μ₀ H₀ p μ' H'→At Γ (wipe σ vs) H' env S' μ'→H' p=some (.lst accv')→Reps Γ H' μ' accv' acc'→(k S').sat (fun ys S3=>acc'.length+ys.length≤16777216∧Qe (acc'++ys) S3) (fun _ _=>False)→Nx H'):
  iW Γ t x (wipe σ vs) H2 fun σ2 H2=>wipe σ2 vs=wipe σ vs∧gG Γ WF c σ2 H2 fun b H3=>if b=true then ay Γ WF f σ2 H3 fun y H4=>∃acc,H4 p=some (.lst acc)∧acc.length<sizeLine∧Nx (upd H4 p (.lst (acc++[y]))) else Nx H3:=by
 have x2:=st.ext (Γ:=Γ) (μ:=μ)
 have a2:=a.next x2 (st.sim a.sim)
 have pm:∀ {μ':Mu} {H':Hp},Mk1 Γ μ₀ H₀ p μ' H'→p∈μ'.hd:=fun m'=>by rw[m'.hid];exact Jf
 have nst:∀ {μ':Mu} {H':Hp} {S'},Mk1 Γ μ₀ H₀ p μ' H'→Sim Γ μ' H' S'→p∉μ'.st:=fun m' s' z=>s'.apart p z (pm m')
 have m2:=m.ext x2
 have hD2:H2 p=some (.lst accv):=x2.keep p _ hD (nst m a.sim) fun ps z=>by cases z
 refine⟨env,μ,d,e1,a2.env,rx,hb,fun σ2 h2 b2=>⟨fQ hs b2,?_⟩⟩
 rw[R.sat_bind] at q
 have b1:At Γ σ2 H2 e1 S μ:=⟨h2,a2.sim,a2.tabs⟩
 refine ew b1 (eB q) fun b S1 H3 μ3 x3 s3 q3=>?_
 have m3:=m2.ext x3
 have hD3:H3 p=some (.lst accv):=x3.keep p _ hD2 (nst m2 a2.sim) fun ps z=>by cases z
 have a3:=(a2.next x3 s3)
 have ra3:=(ra.ext x2).ext x3
 cases b with
 |false=>
  rw[if_neg (by decide)] at q3 ⊢
  exact hN μ3 H3 S1 accv acc m3 a3 hD3 ra3 q3
 |true=>
  rw[if_pos rfl] at q3 ⊢
  rw[R.sat_bind] at q3
  refine aW (b1.next x3 s3) (eB q3) fun r S2 y H4 μ4 x4 rv q4=>?_
  obtain⟨s4,ry⟩:=rv.sim
  have m4:=m3.ext x4
  have hD4:H4 p=some (.lst accv):=x4.keep p _ hD3 (nst m3 s3) fun ps z=>by cases z
  have a4:=a3.next x4 s4
  obtain⟨n1,n2⟩:=kz hD4
  rw[R.sat_bind] at q4
  have lacc:accv.length=acc.length:=ra.length
  have q5:(k S2).sat (fun ys S3=>(acc++[r.d]).length+ys.length≤16777216∧Qe ((acc++[r.d])++ys) S3) (fun _ _=>False):=R.sat_imp q4 (fun ys S3 h=>by
   obtain⟨h1,h2⟩:acc.length+(r.d::ys).length≤16777216∧Qe (acc++(r.d::ys)) S3:=h
   refine⟨by simp at h1 ⊢;omega,by rw[List.append_assoc];exact h2⟩) fun _ _ z=>z
  have hlen:acc.length<16777216:=by
   cases hk:k S2 with
   |ok ys S3=>
    rw[hk] at q4
    have h1:acc.length+(r.d::ys).length≤16777216:=q4.1
    simp at h1;omega
   |ex x S3=>rw[hk] at q4;exact False.elim q4
   |bad=>rw[hk] at q4;exact False.elim q4
  refine⟨accv,hD4,by rw[sizeLine_eq,lacc];exact hlen,?_⟩
  exact hN μ4 _ S2 (accv++[y]) (acc++[r.d]) (m4.write hp _ n1 n2) (a4.wrhid (pm m4) _ n1 n2) upd_same ((((ra3.ext x4).wrhid (pm m4) _)).append (.cons (ry.wrhid (pm m4) _) .nil)) q5
theorem BI{fuel:Nat}{vs:List Nat}{t:Tg}{it:MI}{c:MT}{f:ME}{σ:L2.St}{H:Hp}{Q:VK}(hs:∀j∈t.slots,j∈vs)(h:ay Γ W (jY fuel vs t it c f) σ H Q):
  tLc (ky Γ W it) (iW Γ t) (gG Γ WF c) (ay Γ WF f) vs σ H Q:=by
 obtain⟨env,S,μ,a,h⟩:=h
 unfold jY at h
 rw[R.sat_bind] at h
 refine⟨env,S,μ,a,R.sat_imp h (fun src S1 q=>?_) fun x S' q=>q⟩
 intro J H1 μ1 x1 s1 fd p hp
 have a1:=a.next x1 s1
 have a1w:At Γ (wipe σ vs) H1 (aF vs env) S1 μ1:=⟨a1.env.wipe vs,a1.sim,a1.tabs⟩
 have a2:=a1w.hide hp (.lst [])
 have m2:Mk1 Γ μ1 H1 p (μ1.hide p) (upd H1 p (.lst [])):=Mk1.begin hp _
 rw[R.sat_bind] at q
 have q:=R.sat_noEx (E':=fun _ _=>False) q
 let Qe:List D→a0→Prop:=fun ys S3=>aU Γ μ1 H1 Q (.new (.lst ys)) S3
 have q2:(rW fuel t c f src (aF vs env) S1).sat (fun ys S3=>([]:List D).length+ys.length≤16777216∧Qe ([]++ys) S3) (fun _ _=>False):=R.sat_imp q (fun ys S3 h=>by
  split at h
  ·rename_i hl
   exact⟨by simpa using hl,fun v H' μ' e rv=>h v H' μ' (x1.trans e) (rv.ext0 x1.back)⟩
  ·exact False.elim h) fun _ _ z=>z
 have fin:∀ {μ' H' S' accv acc},Mk1 Γ μ1 H1 p μ' H'→Sim Γ μ' H' S'→H' p=some (.lst accv)→Reps Γ H' μ' accv acc→Qe acc S'→Q (.ref p) H':=fun {μ' H' S' accv acc} m s hD ra q=>by
  have e:=m.eta
  have x:=m.done
  rw[e] at s ra
  have s':=s.unhide
  have no:Mu.no ⟨μ'.st,μ1.hd⟩ p:=⟨fun z=>s.apart p z Jf,fun z=>by
   obtain⟨o,ho⟩:=a1.sim.hth p z
   rw[hp] at ho;cases ho⟩
  refine q (.ref p) H' ⟨μ'.st,μ1.hd⟩ x ⟨p,rfl,hp,no,s',.lst ⟨hD,no⟩ ra.unhide,?_⟩
  refine⟨by show(μ'.st++[p]).length=_;simp[s'.len],?_,fun n b ob h1 h2=>?_,fun b hb=>?_,s'.hth⟩
  ·refine List.nodup_append.mpr ⟨s'.nd,by simp,fun b hb c hc z=>?_⟩
   rw[Jg.mp hc] at z
   exact no.1 (z▸hb)
  ·
   have up:∀ {vs ds},Reps Γ H' (Mu.hide ⟨μ'.st,μ1.hd⟩ p) vs ds→Reps Γ H' (Mu.add ⟨μ'.st,μ1.hd⟩ p) vs ds:=by
    have st:∀ {b u},Still H' (Mu.hide ⟨μ'.st,μ1.hd⟩ p) b u→Still H' (Mu.add ⟨μ'.st,μ1.hd⟩ p) b u:=fun {b u} h=>⟨h.1,fun z=>by
     rcases Jv.mp z with z|z
     ·exact h.2.1 z
     ·exact h.2.2 (by rw[Jg.mp z];exact Jf),fun z=>h.2.2 (Je _ z)⟩
    intro vs ds r
    induction r using Reps.rec (motive_1:=fun v d _=>Rep Γ H' (Mu.add ⟨μ'.st,μ1.hd⟩ p) v d) with
    |non=>exact .non
    |bl b=>exact .bl b
    |int i=>exact .int i
    |str x=>exact .str x
    |tup h _ ih=>exact .tup (h.imp (jj.imp st) id) ih
    |lst h _ ih=>exact .lst (st h) ih
    |scr h _ ih=>exact .scr (st h) ih
    |dct h _ ih=>exact .dct (st h) ih
    |dcn h k _ _ ih1 ih=>exact .dcn (st h) k ih1 ih
    |ins h h2 _ ih=>exact .ins (st h) (st h2) ih
    |exc h h1 h2 h3 h4 _ ih=>exact .exc (st h) h1 h2 h3 (st h4) ih
    |glb n=>exact .glb n
    |xdd h=>exact .xdd (st h)
    |ref h=>
     refine .ref ?_
     have hl:=(Jl.mp h).1
     exact(Jp hl).trans h
    |nil=>exact .nil
    |cons _ _ i1 i2=>exact .cons i1 i2
   have h1:(μ'.st++[p])[n]? =some b:=h1
   by_cases hn:n<μ'.st.length
   ·rw[Jp hn] at h1
    rw[Jp (by rw[← s.len];exact hn)] at h2
    exact(s.ats n b ob h1 h2).map (fun _ e=>e) up
   ·rw[JM (by omega)] at h1
    have sl:μ'.st.length=S'.length:=s.len
    rw[JM (by rw[← sl];omega)] at h2
    have e0:n-μ'.st.length=0:=by
     have:=(Jl.mp h1).1
     simp at this;omega
    rw[e0] at h1
    rw[← sl,e0] at h2
    simp at h1 h2
    subst h1;subst h2
    exact⟨accv,hD,up ra⟩
  ·rcases Jv.mp hb with h|h
   ·exact s'.apart b h
   ·rw[Jg.mp h];exact no.2
 have vw:∀ {μ' H' accv S'},Mk1 Γ μ1 H1 p μ' H'→At Γ (wipe σ vs) H' (aF vs env) S' μ'→H' p=some (.lst accv)→Vw Γ μ1 H1 μ' H':=fun {μ' H' accv S'} m a' hD=>
  .inr ⟨p,.lst accv,hp,m.at (fun z=>a'.sim.apart p z (by rw[m.hid];exact Jf)) hp (kz hD) hD⟩
 cases src with
 |st ds=>
  obtain⟨G,Y,w,hG,hY⟩:=fd
  refine lc_it w (fun i H'=>∃μ' S' accv acc,Mk1 Γ μ1 H1 p μ' H'∧At Γ (wipe σ vs) H' (aF vs env) S' μ'∧H' p=some (.lst accv)∧Reps Γ H' μ' accv acc∧
   (yP t c f (ds.drop i) (aF vs env) S').sat (fun ys S3=>acc.length+ys.length≤16777216∧Qe (acc++ys) S3) (fun _ _=>False)) ⟨μ1.hide p,S1,[],[],m2,a2,upd_same,.nil,q2⟩ (fun i H' _ ⟨μ',_,accv,_,m,a',hD,_⟩=>hG μ' H' (vw m a' hD)) ?_ ?_
  ·rintro i x H' H2 hi ⟨μ',S',accv,acc,m,a',hD,ra,q'⟩ y
   obtain⟨d,hd,hst,hr⟩:=hY μ' H' S' i x H2 (vw m a' hD) a'.sim hi y
   have ed:ds.drop i=d::ds.drop (i+1):=by
    obtain⟨h1,h2⟩:=Jl.mp hd
    rw[List.drop_eq_getElem_cons h1,h2]
   rw[ed] at q'
   simp only[yP] at q'
   split at q'
   ·exact False.elim q'
   ·rename_i e1 he1
    exact rR (k:=yP t c f (ds.drop (i+1)) (aF vs env)) hp hs m a' hD ra hst hr he1 q' fun μ2 H3 S2 accv2 acc2 m2 a2 hD2 ra2 q2=>⟨μ2,S2,accv2,acc2,m2,a2,hD2,ra2,q2⟩
  ·rintro H' ⟨μ',S',accv,acc,m,a',hD,ra,q'⟩
   rw[List.drop_length] at q'
   have q':acc.length+([]:List D).length≤16777216∧Qe (acc++[]) S':=q'
   rw[JC] at q'
   exact fin m a'.sim hD ra q'.2
 |rf n=>
  obtain⟨l,hl,rfl⟩:=fd
  refine⟨fun i k H'=>∃μ' S' accv acc,Mk1 Γ μ1 H1 p μ' H'∧At Γ (wipe σ vs) H' (aF vs env) S' μ'∧H' p=some (.lst accv)∧Reps Γ H' μ' accv acc∧
   (DL n t c f k i (aF vs env) S').sat (fun ys S3=>acc.length+ys.length≤16777216∧Qe (acc++ys) S3) (fun _ _=>False),⟨fuel,μ1.hide p,S1,[],[],m2,a2,upd_same,.nil,q2⟩,?_⟩
  rintro i k H' ⟨μ',S',accv,acc,m,a',hD,ra,q'⟩
  cases k with
  |zero=>exact False.elim q'
  |succ k=>
   simp only[DL] at q'
   split at q'
   ·rename_i xs hS
    have hl':μ'.st[n]? =some l:=by
     obtain⟨r,e⟩:=m.pre
     have hlt:=(Jl.mp hl).1
     rw[e,Jp hlt];exact hl
    obtain⟨ws,hv,rv⟩:=a'.sim.ats n l _ hl' hS
    split at q'
    ·rename_i hn
     refine .inl ⟨⟨ws,.of hv,?_⟩,?_⟩
     ·rw[rv.length]
      exact List.getElem?_eq_none_iff.mp hn
     ·have q':acc.length+([]:List D).length≤16777216∧Qe (acc++[]) S':=q'
      rw[JC] at q'
      exact fin m a'.sim hD ra q'.2
    ·rename_i d hd
     obtain⟨v,hv1,rv1⟩:=rv.get hd
     split at q'
     ·exact False.elim q'
     ·rename_i e1 he1
      refine .inr ⟨⟨ws,v,.of hv,hv1⟩,fun H2=>∃m',m'<k+1∧∃μ' S' accv acc,Mk1 Γ μ1 H1 p μ' H2∧At Γ (wipe σ vs) H2 (aF vs env) S' μ'∧H2 p=some (.lst accv)∧Reps Γ H2 μ' accv acc∧
       (DL n t c f m' (i+1) (aF vs env) S').sat (fun ys S3=>acc.length+ys.length≤16777216∧Qe (acc++ys) S3) (fun _ _=>False),fun H2 z=>z,fun x H2 y=>?_⟩
      obtain⟨rfl,y⟩:=y
      have e2:=y ws (.of hv)
      rw[hv1] at e2
      cases e2
      exact rR (k:=DL n t c f k (i+1) (aF vs env)) hp hs m a' hD ra (.inl rfl) rv1 he1 q' fun μ2 H3 S2 accv2 acc2 m2 a2 hD2 ra2 q2=>⟨k,Nat.lt_succ_self k,μ2,S2,accv2,acc2,m2,a2,hD2,ra2,q2⟩
   ·exact False.elim q'
end
mutual
def free:D→Bool
 | .ref _=>false
 | .tup xs=>frees xs
 | .lst xs=>frees xs
 | .scr xs=>frees xs
 | .dct ks vs=>frees vs
 | .dcn ks vs=>frees ks&&frees vs
 | .ins _ fs=>frees fs
 | .exc _ d=>free d
 |_=>true
def frees:List D→Bool
 | []=>true
 |d::ds=>free d&&frees ds
end
def Ob.free:Ob→Bool
 | .lst xs=>frees xs
 | .dct _ vs=>frees vs
 | .dcn ks vs=>frees ks&&frees vs
 | .ins _ _=>false
 | .slo _ fs=>fs.all fun o=>match o with|some d=>Ev.free d|none=>true
mutual
def bP(g:Nat→Option D):D→Option D
 | .ref n=>g n
 | .tup xs=>(bj g xs).map .tup
 | .lst xs=>(bj g xs).map .lst
 | .scr xs=>(bj g xs).map .scr
 | .dct ks vs=>(bj g vs).map (.dct ks)
 | .dcn ks vs=>if frees ks then(bj g vs).map (.dcn ks) else none
 | .ins c fs=>(bj g fs).map (.ins c)
 | .exc c d=>(bP g d).map (.exc c)
 |d=>some d
def bj(g:Nat→Option D):List D→Option (List D)
 | []=>some []
 |d::ds=>match bP g d,bj g ds with|some x,some xs=>some (x::xs)|_,_=>none
end
def jF(g:Nat→Option D):Ob→Option Ob
 | .lst xs=>(bj g xs).map .lst
 | .dct ks vs=>(bj g vs).map (.dct ks)
 | .dcn ks vs=>if frees ks then(bj g vs).map (.dcn ks) else none
 | .ins _ _=>none
 | .slo _ _=>none
def iS(S:a0)(lo ban:Nat):Nat→Nat→Option D
 |0,_=>none
 |k+1,n=>if n<lo∨n=ban then none else match S[n]? with
  |some ob=>(jF (iS S lo ban k) ob).map Ob.toD
  |none=>none
def e8:Nat:=12
def fV(S:a0)(lo:Nat):RV→Option RV
 | .val (.ref n)=>if n<lo then none else match S[n]? with
  |some ob=>(jF (iS S lo n e8) ob).map .new
  |none=>none
 | .val d=>(bP (iS S lo S.length e8) d).map .val
 | .new ob=>(jF (iS (S++[ob]) lo S.length e8) ob).map .new
section
variable {Γ:Gm}{H:Hp}{μ μ2:Mu}
theorem Rep.view(ok:∀b,(∃o,H b=some o)→μ.no b→μ2.no b):∀ {v:V} {d:D},free d=true→Rep Γ H μ v d→Rep Γ H μ2 v d:=by
 have st:∀ {b u},Still H μ b u→Still H μ2 b u:=fun {b u} h=>⟨h.1,ok b ⟨u,h.1⟩ h.2⟩
 intro v d hf r
 induction r using Rep.rec (motive_2:=fun vs ds _=>frees ds=true→Reps Γ H μ2 vs ds) with
 |non=>exact .non
 |bl b=>exact .bl b
 |int i=>exact .int i
 |str x=>exact .str x
 |tup h _ ih=>exact .tup (h.imp (jj.imp st) id) (ih (by simpa [free] using hf))
 |lst h _ ih=>exact .lst (st h) (ih (by simpa [free] using hf))
 |scr h _ ih=>exact .scr (st h) (ih (by simpa [free] using hf))
 |dct h _ ih=>exact .dct (st h) (ih (by simpa [free] using hf))
 |dcn h k _ _ ih1 ih=>
  simp only[free,Jy] at hf
  exact .dcn (st h) k (ih1 hf.1) (ih hf.2)
 |ins h h2 _ ih=>exact .ins (st h) (st h2) (ih (by simpa [free] using hf))
 |exc h h1 h2 h3 h4 _ ih=>exact .exc (st h) h1 h2 h3 (st h4) (ih (by simpa [free] using hf))
 |glb n=>exact .glb n
 |xdd h=>exact .xdd (st h)
 |ref h=>simp[free] at hf
 |nil=>exact .nil
 |cons _ _ i1 i2=>
  rename_i hf
  simp only[frees,Jy] at hf
  exact .cons (i1 hf.1) (i2 hf.2)
theorem Reps.view(ok:∀b,(∃o,H b=some o)→μ.no b→μ2.no b):∀ {vs:List V} {ds:List D},frees ds=true→Reps Γ H μ vs ds→Reps Γ H μ2 vs ds
 |_,_,_,.nil=>.nil
 |_,_,hf,.cons r t=>by
  simp only[frees,Jy] at hf
  exact .cons (r.view ok hf.1) (t.view ok hf.2)
theorem cy.view(ok:∀b,(∃o,H b=Option.some o)→μ.no b→μ2.no b){a:Addr}{ob:Ob}(hf:ob.free=true)(h:cy Γ H μ a ob):cy Γ H μ2 a ob:=by
 cases ob with
 |lst ds=>obtain⟨vs,h,r⟩:=h;exact⟨vs,h,r.view ok hf⟩
 |dct ks ds=>obtain⟨vs,h,q,r⟩:=h;exact⟨vs,h,q,r.view ok hf⟩
 |dcn ks ds=>
  obtain⟨vs,h,q,r1,r⟩:=h
  obtain⟨h1,h2⟩:=Jn.mp (show(frees ks&&frees ds)=true from hf)
  exact⟨vs,h,q,r1.view ok h1,r.view ok h2⟩
 |ins c fs=>cases hf
 |slo c fs=>
  obtain⟨dx,vs,h,q,r⟩:=h
  refine⟨dx,vs,h,q.view ok rfl,r.1,fun i d e=>?_⟩
  obtain⟨v,h1,h2⟩:=r.2 i d e
  exact⟨v,h1,h2.view ok (Jz.mp hf (Option.some d) (Js e))⟩
theorem Rep.put{g:Nat→Option D}(ok:∀b,(∃o,H b=some o)→μ.no b→μ2.no b)(hg:∀n a d,g n=some d→μ.st[n]? =some a→Rep Γ H μ2 (.ref a) d):∀ {v:V} {d d':D},bP g d=some d'→Rep Γ H μ v d→Rep Γ H μ2 v d':=by
 have st:∀ {b u},Still H μ b u→Still H μ2 b u:=fun {b u} h=>⟨h.1,ok b ⟨u,h.1⟩ h.2⟩
 intro v d d' hf r
 induction r using Rep.rec (motive_2:=fun vs ds _=>∀ds',bj g ds=some ds'→Reps Γ H μ2 vs ds') generalizing d' with
 |non=>simp only[bP] at hf;cases hf;exact .non
 |bl b=>simp only[bP] at hf;cases hf;exact .bl b
 |int i=>simp only[bP] at hf;cases hf;exact .int i
 |str x=>simp only[bP] at hf;cases hf;exact .str x
 |tup h _ ih=>
  simp only[bP] at hf
  obtain⟨xs,hx,rfl⟩:=Jh.mp hf
  exact .tup (h.imp (jj.imp st) id) (ih _ hx)
 |lst h _ ih=>
  simp only[bP] at hf
  obtain⟨xs,hx,rfl⟩:=Jh.mp hf
  exact .lst (st h) (ih _ hx)
 |scr h _ ih=>
  simp only[bP] at hf
  obtain⟨xs,hx,rfl⟩:=Jh.mp hf
  exact .scr (st h) (ih _ hx)
 |dct h _ ih=>
  simp only[bP] at hf
  obtain⟨xs,hx,rfl⟩:=Jh.mp hf
  exact .dct (st h) (ih _ hx)
 |dcn h k r1 _ _ ih=>
  simp only[bP] at hf
  split at hf
  ·rename_i hk
   obtain⟨xs,hx,rfl⟩:=Jh.mp hf
   exact .dcn (st h) k (r1.view ok hk) (ih _ hx)
  ·cases hf
 |ins h h2 _ ih=>
  simp only[bP] at hf
  obtain⟨xs,hx,rfl⟩:=Jh.mp hf
  exact .ins (st h) (st h2) (ih _ hx)
 |exc h h1 h2 h3 h4 _ ih=>
  simp only[bP] at hf
  obtain⟨x,hx,rfl⟩:=Jh.mp hf
  exact .exc (st h) h1 h2 h3 (st h4) (ih hx)
 |glb n=>simp only[bP] at hf;cases hf;exact .glb n
 |xdd h=>simp only[bP] at hf;cases hf;exact .xdd (st h)
 |ref h=>simp only[bP] at hf;exact hg _ _ _ hf h
 |nil=>rename_i ds' h;simp only[bj] at h;cases h;exact .nil
 |cons _ _ i1 i2=>
  rename_i ds' h
  simp only[bj] at h
  split at h
  ·rename_i x xs e1 e2
   cases h
   exact .cons (i1 e1) (i2 _ e2)
  ·cases h
mutual
def qD(n:Nat):D→Bool
 | .ref m=>decide (m<n)
 | .tup xs=>bT n xs
 | .lst xs=>bT n xs
 | .scr xs=>bT n xs
 | .dct ks vs=>bT n vs
 | .dcn ks vs=>frees ks&&bT n vs
 | .ins _ fs=>bT n fs
 | .exc _ d=>qD n d
 |_=>true
def bT(n:Nat):List D→Bool
 | []=>true
 |d::ds=>qD n d&&bT n ds
end
def Ob.low(n:Nat):Ob→Bool
 | .lst xs=>bT n xs
 | .dct _ vs=>bT n vs
 | .dcn ks vs=>frees ks&&bT n vs
 | .ins _ fs=>bT n (fs.map (·.2))
 | .slo _ fs=>fs.all fun o=>match o with|some d=>qD n d|none=>true
def gL(n m:Nat):Option D:=if m<n then some (.ref m) else none
mutual
theorem kh{n:Nat}:∀ (d:D),qD n d=true→bP (gL n) d=some d
 | .ref m,h=>by
  have h:m<n:=JL h
  show gL n m=_
  unfold gL
  rw[if_pos h]
 | .tup xs,h=>by show(bj (gL n) xs).map D.tup=_;rw[bx xs h];rfl
 | .lst xs,h=>by show(bj (gL n) xs).map D.lst=_;rw[bx xs h];rfl
 | .scr xs,h=>by show(bj (gL n) xs).map D.scr=_;rw[bx xs h];rfl
 | .dct ks vs,h=>by show(bj (gL n) vs).map (D.dct ks)=_;rw[bx vs h];rfl
 | .dcn ks vs,h=>by
  obtain⟨h1,h2⟩:=Jn.mp (show(frees ks&&bT n vs)=true from h)
  show(if frees ks then(bj (gL n) vs).map (D.dcn ks) else none)=_
  rw[if_pos h1,bx vs h2];rfl
 | .ins c fs,h=>by show(bj (gL n) fs).map (D.ins c)=_;rw[bx fs h];rfl
 | .exc c d,h=>by show(bP (gL n) d).map (D.exc c)=_;rw[kh d h];rfl
 | .non,_=>rfl
 | .bl _,_=>rfl
 | .int _,_=>rfl
 | .str _,_=>rfl
 | .glb _,_=>rfl
 | .clo _ _,_=>rfl
theorem bx{n:Nat}:∀ (ds:List D),bT n ds=true→bj (gL n) ds=some ds
 | [],_=>rfl
 |d::ds,h=>by
  obtain⟨h1,h2⟩:=Jn.mp (show(qD n d&&bT n ds)=true from h)
  show(match bP (gL n) d,bj (gL n) ds with|some x,some xs=>some (x::xs)|_,_=>none)=_
  rw[kh d h1,bx ds h2]
end
theorem Reps.put{g:Nat→Option D}(ok:∀b,(∃o,H b=some o)→μ.no b→μ2.no b)(hg:∀n a d,g n=some d→μ.st[n]? =some a→Rep Γ H μ2 (.ref a) d):∀ {vs:List V} {ds ds':List D},bj g ds=some ds'→Reps Γ H μ vs ds→Reps Γ H μ2 vs ds'
 |_,_,_,h,.nil=>by simp only[bj] at h;cases h;exact .nil
 |_,_,_,h,.cons r t=>by
  simp only[bj] at h
  split at h
  ·rename_i x xs e1 e2
   cases h
   exact .cons (r.put ok hg e1) (t.put ok hg e2)
  ·cases h
theorem cy.put{g:Nat→Option D}(ok:∀b,(∃o,H b=Option.some o)→μ.no b→μ2.no b)(hg:∀n a d,g n=Option.some d→μ.st[n]? =Option.some a→Rep Γ H μ2 (.ref a) d){a:Addr}{ob ob':Ob}(h:jF g ob=Option.some ob')(x:cy Γ H μ a ob):cy Γ H μ2 a ob':=by
 cases ob with
 |lst ds=>
  obtain⟨xs,hx,rfl⟩:=Jh.mp h
  obtain⟨vs,h,r⟩:=x;exact⟨vs,h,r.put ok hg hx⟩
 |dct ks ds=>
  obtain⟨xs,hx,rfl⟩:=Jh.mp h
  obtain⟨vs,h,q,r⟩:=x;exact⟨vs,h,q,r.put ok hg hx⟩
 |dcn ks ds=>
  have h':(if frees ks then(bj g ds).map (Ob.dcn ks) else none)=Option.some ob':=h
  split at h'
  ·rename_i hk
   obtain⟨xs,hx,rfl⟩:=Jh.mp h'
   obtain⟨vs,h,q,r1,r⟩:=x;exact⟨vs,h,q,r1.view ok hk,r.put ok hg hx⟩
  ·cases h'
 |ins c fs=>cases h
 |slo c fs=>cases h
theorem cy.lows{n:Nat}(ok:∀b,(∃o,H b=Option.some o)→μ.no b→μ2.no b)(hg:∀m a,m<n→μ.st[m]? =Option.some a→μ2.st[m]? =Option.some a){a:Addr}{ob:Ob}(hf:ob.low n=true)(x:cy Γ H μ a ob):cy Γ H μ2 a ob:=by
 have hg':∀m a d,gL n m=Option.some d→μ.st[m]? =Option.some a→Rep Γ H μ2 (.ref a) d:=fun m a d h1 h2=>by
  unfold gL at h1
  split at h1
  ·rename_i hm
   cases h1
   exact .ref (hg m a hm h2)
  ·cases h1
 cases ob with
 |lst ds=>obtain⟨vs,h,r⟩:=x;exact⟨vs,h,r.put ok hg' (bx ds hf)⟩
 |dct ks ds=>obtain⟨vs,h,q,r⟩:=x;exact⟨vs,h,q,r.put ok hg' (bx ds hf)⟩
 |dcn ks ds=>
  obtain⟨h1,h2⟩:=Jn.mp (show(frees ks&&bT n ds)=true from hf)
  obtain⟨vs,h,q,r1,r⟩:=x;exact⟨vs,h,q,r1.view ok h1,r.put ok hg' (bx ds h2)⟩
 |ins c fs=>obtain⟨dx,vs,h,q,r⟩:=x;exact⟨dx,vs,h,q,r.put ok hg' (bx _ hf)⟩
 |slo c fs=>
  obtain⟨dx,vs,h,q,r⟩:=x
  refine⟨dx,vs,h,q.view ok rfl,r.1,fun i d e=>?_⟩
  obtain⟨v,h1,h2⟩:=r.2 i d e
  exact⟨v,h1,h2.put ok hg' (kh d (Jz.mp hf (Option.some d) (Js e)))⟩
theorem cy.rep{a:Addr}{ob:Ob}(hn:μ.no a)(x:cy Γ H μ a ob)(hi:(∀c fs,ob≠ .ins c fs)∧∀c fs,ob≠ .slo c fs):Rep Γ H μ (.ref a) ob.toD:=by
 cases ob with
 |lst ds=>obtain⟨vs,h,r⟩:=x;exact .lst ⟨h,hn⟩ r
 |dct ks ds=>obtain⟨kvs,h,q,r⟩:=x;subst q;exact .dct ⟨h,hn⟩ r
 |dcn ks ds=>obtain⟨kvs,h,q,r1,r⟩:=x;exact .dcn ⟨h,hn⟩ q r1 r
 |ins c fs=>exact absurd rfl (hi.1 c fs)
 |slo c fs=>exact absurd rfl (hi.2 c fs)
theorem lB{g:Nat→Option D}{ob ob':Ob}(h:jF g ob=some ob'):(∀c fs,ob'≠ .ins c fs)∧∀c fs,ob'≠ .slo c fs:=by
 cases ob with
 |lst ds=>obtain⟨xs,hx,rfl⟩:=Jh.mp h;exact⟨fun _ _ z=>(by cases z),fun _ _ z=>(by cases z)⟩
 |dct ks ds=>obtain⟨xs,hx,rfl⟩:=Jh.mp h;exact⟨fun _ _ z=>(by cases z),fun _ _ z=>(by cases z)⟩
 |dcn ks ds=>
  have h':(if frees ks then(bj g ds).map (Ob.dcn ks) else none)=some ob':=h
  split at h'
  ·obtain⟨xs,hx,rfl⟩:=Jh.mp h';exact⟨fun _ _ z=>(by cases z),fun _ _ z=>(by cases z)⟩
  ·cases h'
 |ins c fs=>cases h
 |slo c fs=>cases h
theorem gK{S:a0}{lo ban:Nat}(s:Sim Γ μ H S)(ok:∀b,(∃o,H b=some o)→μ.no b→μ2.no b)(ok2:∀n a,lo≤n→n≠ban→μ.st[n]? =some a→μ2.no a):
  ∀ (k n:Nat) (a:Addr) (d:D),iS S lo ban k n=some d→μ.st[n]? =some a→Rep Γ H μ2 (.ref a) d
 |0,_,_,_,h,_=>by simp[iS] at h
 |k+1,n,a,d,h,ha=>by
  simp only[iS] at h
  split at h
  ·cases h
  ·rename_i hn
   have hn1:lo≤n:=by omega
   have hn2:n≠ban:=fun z=>hn (.inr z)
   split at h
   ·rename_i ob e
    obtain⟨ob',hx,rfl⟩:=Jh.mp h
    have x:=s.ats n a ob ha e
    exact(x.put ok (fun m b d h1 h2=>gK s ok ok2 k m b d h1 h2) hx).rep (ok2 n a hn1 hn2 ha) (lB hx)
   ·cases h
end
def bb:List D→List Nat
 | []=>[]
 | .ref n::ds=>if n∈bb ds then bb ds else n::bb ds
 |_::ds=>bb ds
def lg(fs:List Nat):D→Option D
 | .ref n=>(fs.idxOf? n).map .ref
 |d=>if free d then some d else none
def eQ(fs:List Nat):List D→Option (List D)
 | []=>some []
 |d::ds=>match lg fs d,eQ fs ds with|some x,some xs=>some (x::xs)|_,_=>none
def pick(S:a0):List Nat→Option a0
 | []=>some []
 |n::ns=>match S[n]?,pick S ns with|some ob,some obs=>if ob.free then some (ob::obs) else none|_,_=>none
def putBack(S S':a0):List Nat→Nat→Option a0
 | [],_=>some S
 |n::ns,i=>match S'[i]? with
  |some ob=>if ob.free then(putBack S S' ns (i+1)).map fun T=>T.set n ob else none
  |none=>none
def x9(np nn:Nat)(body:MS)(args:List D)(S:a0):R RV:=
 if args.length=np then
  match body (args.map some++List.replicate (nn-np) none) S with
  | .nx _ S'=>.ok (.val .non) S'
  | .ret r S'=>.ok r S'
  | .ex x _ S'=>.ex x S'
  |_=>.bad
 else .bad
def jh(np nn:Nat)(body:MS)(args:List D)(S:a0):R RV:=
 let fs:=bb args
 match eQ fs args,pick S fs with
 |some as,some S0=>if args.length=np then
   match body (as.map some++List.replicate (nn-np) none) S0 with
   | .nx _ S'=>match putBack S S' fs 0 with|some S2=>.ok (.val .non) S2|none=>.bad
   | .ret r S'=>match fV S' fs.length r,putBack S S' fs 0 with|some z,some S2=>.ok z S2|_,_=>.bad
   | .ex x _ S'=>match bP (iS S' fs.length S'.length e8) x,putBack S S' fs 0 with|some y,some S2=>.ex y S2|_,_=>.bad
   |_=>.bad
  else .bad
 |_,_=>x9 np nn body args S
section
variable {Γ:Gm}{H H':Hp}{μ μ' μe:Mu}{S S0 S' Se S2:a0}{fs:List Nat}
def addrs(μ:Mu)(fs:List Nat):List Addr:=fs.map fun n=>μ.st.getD n 0
def sF(μ:Mu)(fs:List Nat):Mu:=⟨addrs μ fs,(μ.st.filter fun b=> !(addrs μ fs).contains b)++μ.hd⟩
theorem fK(hf:∀n∈fs,n<μ.st.length){b:Addr}(h:b∈addrs μ fs):∃n∈fs,μ.st[n]? =some b:=by
 obtain⟨n,hn,e⟩:=JU.mp h
 have hl:=hf n hn
 refine⟨n,hn,?_⟩
 rw[JP,Jo hl] at e
 rw[Jo hl]
 simpa using e
theorem r9(hf:∀n∈fs,n<μ.st.length){b:Addr}:(sF μ fs).no b↔μ.no b:=by
 constructor
 ·rintro⟨h1,h2⟩
  have h2:¬ (b∈(μ.st.filter fun b=> !(addrs μ fs).contains b)++μ.hd):=h2
  rw[Jv,not_or] at h2
  refine⟨fun z=>h2.1 (List.mem_filter.mpr ⟨z,?_⟩),h2.2⟩
  have:¬b∈addrs μ fs:=h1
  simp[this]
 ·rintro⟨h1,h2⟩
  refine⟨fun z=>?_,fun z=>?_⟩
  ·obtain⟨n,_,e⟩:=fK hf z
   exact h1 (Js e)
  ·rcases Jv.mp (show b∈(μ.st.filter fun b=> !(addrs μ fs).contains b)++μ.hd from z) with z|z
   ·exact h1 (List.mem_filter.mp z).1
   ·exact h2 z
theorem jL:∀ {fs:List Nat} {S0:a0},pick S fs=some S0→S0.length=fs.length∧∀n∈fs,n<S.length
 | [],_,h=>by simp only[pick] at h;cases h;exact⟨rfl,fun n hn=>absurd hn (by simp)⟩
 |n::ns,_,h=>by
  simp only[pick] at h
  split at h
  ·rename_i ob obs e1 e2
   split at h
   ·cases h
    obtain⟨h1,h2⟩:=jL e2
    refine⟨by simp[h1],fun m hm=>?_⟩
    rcases Jj.mp hm with rfl|hm
    ·exact(Jl.mp e1).1
    ·exact h2 m hm
   ·cases h
  ·cases h
theorem ph:∀ {fs:List Nat} {S0:a0},pick S fs=some S0→∀ (i:Nat) (ob:Ob),S0[i]? =some ob→∃n,fs[i]? =some n∧S[n]? =some ob∧ob.free=true
 | [],_,h,i,ob,e=>by simp only[pick] at h;cases h;simp at e
 |n::ns,_,h,i,ob,e=>by
  simp only[pick] at h
  split at h
  ·rename_i ob' obs e1 e2
   split at h
   ·rename_i hfree
    cases h
    cases i with
    |zero=>simp at e;subst e;exact⟨n,rfl,e1,hfree⟩
    |succ i=>simpa using ph e2 i ob (by simpa using e)
   ·cases h
  ·cases h
theorem cX:∀ds:List D,(bb ds).Nodup
 | []=>List.nodup_nil
 |d::ds=>by
  cases d<;>simp only[bb]<;>try exact cX ds
  split
  ·exact cX ds
  ·rename_i n h
   exact List.nodup_cons.mpr ⟨h,cX ds⟩
theorem A3(s:Sim Γ μ H S)(hn:fs.Nodup)(hp:pick S fs=some S0):Sim Γ (sF μ fs) H S0:=by
 obtain⟨hl,hb⟩:=jL hp
 have hf:∀n∈fs,n<μ.st.length:=fun n h=>by rw[s.len];exact hb n h
 have at_:∀ {i:Nat} {a:Addr},(addrs μ fs)[i]? =some a→∃n,fs[i]? =some n∧μ.st[n]? =some a:=fun {i a} h=>by
  unfold addrs at h
  rw[JR] at h
  obtain⟨n,h1,h2⟩:=Jh.mp h
  have hlt:=hf n (Js h1)
  refine⟨n,h1,?_⟩
  rw[JP,Jo hlt] at h2
  rw[Jo hlt]
  simpa using h2
 refine⟨by show(addrs μ fs).length=_;simp[addrs,hl],?_,fun i a ob h1 h2=>?_,fun b hb z=>?_,fun b hb=>?_⟩
 ·show(addrs μ fs).Nodup
  refine List.pairwise_iff_getElem.mpr fun i j hil hjl hij e=>?_
  obtain⟨n,n1,n2⟩:=at_ (Jo hil)
  obtain⟨m,m1,m2⟩:=at_ (Jo hjl)
  rw[e] at n2
  obtain⟨l1,e1⟩:=Jl.mp n2
  obtain⟨l2,e2⟩:=Jl.mp m2
  have enm:n=m:=(List.getElem_inj s.nd).mp (e1.trans e2.symm)
  subst enm
  obtain⟨l3,e3⟩:=Jl.mp n1
  obtain⟨l4,e4⟩:=Jl.mp m1
  have:=(List.getElem_inj hn).mp (e3.trans e4.symm)
  omega
 ·obtain⟨n,n1,n2⟩:=at_ (show(addrs μ fs)[i]? =some a from h1)
  obtain⟨m,m1,m2,m3⟩:=ph hp i ob h2
  rw[n1] at m1;cases m1
  exact(s.ats n a ob n2 m2).view (fun b _ h=>(r9 hf).mpr h) m3
 ·have hb:b∈addrs μ fs:=hb
  rcases Jv.mp (show b∈(μ.st.filter fun b=> !(addrs μ fs).contains b)++μ.hd from z) with z|z
  ·have:=(List.mem_filter.mp z).2
   simp[hb] at this
  ·obtain⟨n,_,e⟩:=fK hf hb
   exact s.apart b (Js e) z
 ·rcases Jv.mp (show b∈(μ.st.filter fun b=> !(addrs μ fs).contains b)++μ.hd from hb) with z|z
  ·exact s.there b (List.mem_filter.mp z).1
  ·exact s.hth b z
theorem kJ(s:Sim Γ μ H S)(hf:∀n∈fs,n<μ.st.length):∀ {ds as:List D} {vs:List V},Reps Γ H μ vs ds→eQ fs ds=some as→Reps Γ H (sF μ fs) vs as
 | [],_,_,r,h=>by simp only[eQ] at h;cases h;cases r;exact .nil
 |d::ds,_,_,r,h=>by
  simp only[eQ] at h
  split at h
  ·rename_i x xs e1 e2
   cases h
   cases r with
   |cons r1 r2=>
    refine .cons ?_ (kJ s hf r2 e2)
    have fr:∀ {d x:D} {v:V},Rep Γ H μ v d→(if free d then some d else none)=some x→Rep Γ H (sF μ fs) v x:=fun {d x v} r1 e1=>by
     split at e1
     ·rename_i hfree
      cases e1
      exact r1.view (fun b _ h=>(r9 hf).mpr h) hfree
     ·cases e1
    cases d with
    |ref n=>
     simp only[lg] at e1
     obtain⟨i,hi,rfl⟩:=Jh.mp e1
     cases r1 with
     |ref ha=>
      refine .ref ?_
      obtain⟨hil,hix,_⟩:=List.idxOf?_eq_some_iff.mp hi
      show(addrs μ fs)[i]? =_
      unfold addrs
      rw[JR,Jo hil]
      have hix:fs[i]=n:=by simpa using hix
      rw[hix]
      simp[JP,ha]
    |_=>exact fr r1 e1
  ·cases h
theorem ja:∀ {fs:List Nat} {i:Nat} {S2:a0},putBack S S' fs i=some S2→S2.length=S.length
 | [],_,_,h=>by simp only[putBack] at h;cases h;rfl
 |n::ns,i,_,h=>by
  simp only[putBack] at h
  split at h
  ·split at h
   ·obtain⟨T,hT,rfl⟩:=Jh.mp h
    rw[List.length_set];exact ja hT
   ·cases h
  ·cases h
theorem j8:∀ {fs:List Nat} {k:Nat} {S2:a0},fs.Nodup→putBack S S' fs k=some S2→∀ (n:Nat) (ob:Ob),S2[n]? =some ob→
  (∃i,fs[i]? =some n∧S'[k+i]? =some ob∧ob.free=true)∨(n∉fs∧S[n]? =some ob)
 | [],_,_,_,h,n,ob,e=>by simp only[putBack] at h;cases h;exact .inr ⟨by simp,e⟩
 |m::ms,k,_,hn,h,n,ob,e=>by
  simp only[putBack] at h
  obtain⟨hm1,hm2⟩:=List.nodup_cons.mp hn
  split at h
  ·rename_i ob' e1
   split at h
   ·rename_i hfree
    obtain⟨T,hT,rfl⟩:=Jh.mp h
    by_cases hnm:n=m
    ·subst hnm
     have hl:n<T.length:=by
      have:=(Jl.mp e).1
      simpa using this
     rw[JH hl] at e
     cases e
     exact .inl ⟨0,rfl,e1,hfree⟩
    ·rw[JE (Ne.symm hnm)] at e
     rcases j8 hm2 hT n ob e with⟨i,h1,h2,h3⟩| ⟨h1,h2⟩
     ·refine .inl ⟨i+1,by simpa using h1,?_,h3⟩
      rw[show k+(i+1)=k+1+i by omega];exact h2
     ·exact .inr ⟨by simp only[Jj,not_or];exact⟨hnm,h1⟩,h2⟩
   ·cases h
  ·cases h
theorem ff(hf:∀n∈fs,n<μ.st.length)(x:Ext Γ (sF μ fs) H μe H'):Ext Γ μ H μ H':=
 ⟨⟨[],by simp⟩,rfl,fun b o h hb n=>x.keep b o h (fun z=>by
  obtain⟨m,_,e⟩:=fK hf z
  exact hb (Js e)) n,x.here,fun b h1 h2=>absurd h1 h2,x.tbr⟩
theorem fH(hf:∀n∈fs,n<μ.st.length)(x:Ext Γ (sF μ fs) H μe H'){b:Addr}(h:μe.no b):μ.no b:=by
 refine(r9 hf).mp ⟨fun z=>h.1 ?_,fun z=>h.2 (by rw[x.hid];exact z)⟩
 obtain⟨r,e⟩:=x.pre
 rw[e]
 exact JN _ z
theorem fD(s:Sim Γ μ H S)(hf:∀n∈fs,n<μ.st.length)(x:Ext Γ (sF μ fs) H μe H')(se:Sim Γ μe H' Se){n:Nat}{a:Addr}(hn:fs.length≤n)(ha:μe.st[n]? =some a):H a=none:=by
 refine x.new a (Js ha) fun z=>?_
 obtain⟨r,e⟩:=x.pre
 obtain⟨i,hi,ei⟩:=List.getElem_of_mem (show a∈addrs μ fs from z)
 have hil:i<fs.length:=by simpa [addrs] using hi
 have h1:μe.st[i]? =some a:=by
  rw[e]
  show(addrs μ fs++r)[i]? =_
  rw[Jp hi,Jo hi,ei]
 obtain⟨l1,e1⟩:=Jl.mp h1
 obtain⟨l2,e2⟩:=Jl.mp ha
 have:=(List.getElem_inj se.nd).mp (e1.trans e2.symm)
 omega
theorem oR{μt:Mu}(s:Sim Γ μ H S)(hn:fs.Nodup)(hf:∀n∈fs,n<μ.st.length)(x:Ext Γ (sF μ fs) H μe H')(se:Sim Γ μe H' Se)(hS:∀i,i<fs.length→Se[i]? =S'[i]?)(hb:putBack S S' fs 0=some S2)
  (xt:Ext Γ μ H μt H') (ok:∀b,(∃o,H' b=some o)→μe.no b→μt.no b):∀ (n:Nat) (a:Addr) (ob:Ob),μ.st[n]? =some a→S2[n]? =some ob→cy Γ H' μt a ob:=by
 intro n a ob h1 h2
 rcases j8 hn hb n ob h2 with⟨i,i1,i2,i3⟩| ⟨h3,h4⟩
 ·rw[Nat.zero_add] at i2
  have hil:=(Jl.mp i1).1
  have ha:μe.st[i]? =some a:=by
   obtain⟨r,e⟩:=x.pre
   rw[e]
   show(addrs μ fs++r)[i]? =_
   rw[Jp (by simpa [addrs] using hil)]
   unfold addrs
   rw[JR,i1]
   simp[JP,h1]
  exact(se.ats i a ob ha (by rw[hS i hil];exact i2)).view ok i3
 ·have hx:=s.ats n a ob h1 h4
  refine hx.ext xt fun o e=>?_
  obtain⟨_,m2,m3⟩:=i5 hx
  refine x.keep a o e (fun z=>?_) (fun ps z=>m2 ps (by rw[e,z]))
  obtain⟨m,hm,em⟩:=fK hf z
  obtain⟨l1,e1⟩:=Jl.mp h1
  obtain⟨l2,e2⟩:=Jl.mp em
  have:=(List.getElem_inj s.nd).mp (e1.trans e2.symm)
  subst this
  exact h3 hm
theorem i8(s:Sim Γ μ H S)(hn:fs.Nodup)(hf:∀n∈fs,n<μ.st.length)(x:Ext Γ (sF μ fs) H μe H')(se:Sim Γ μe H' Se)(hS:∀i,i<fs.length→Se[i]? =S'[i]?)(hb:putBack S S' fs 0=some S2):Sim Γ μ H' S2:=
 ⟨by rw[s.len,ja hb],s.nd,oR s hn hf x se hS hb (ff hf x) fun b _ h=>fH hf x h,s.apart,fun b hb=>by
  obtain⟨o,ho⟩:=s.hth b hb
  exact x.here b o ho⟩
theorem oK(s:Sim Γ μ H S)(hn:fs.Nodup)(hf:∀n∈fs,n<μ.st.length)(x:Ext Γ (sF μ fs) H μe H')(se:Sim Γ μe H' Se)(hS:∀i,i<fs.length→Se[i]? =S'[i]?)(hb:putBack S S' fs 0=some S2)
  {n:Nat} {a:Addr} {ob ob':Ob} (hl:fs.length≤n) (ha:μe.st[n]? =some a) (ho:Se[n]? =some ob) (hr:jF (iS Se fs.length n e8) ob=some ob'):gn Γ H μ H' S2 (.ref a) (.new ob'):=by
 have h0:=fD s hf x se hl ha
 have na:=s.nnew h0
 have s2:=i8 s hn hf x se hS hb
 have xe:=ff hf x
 have xa:Ext Γ μ H (μ.add a) H':=⟨⟨[a],rfl⟩,rfl,xe.keep,xe.here,fun b hb hm=>by
  rcases Jv.mp hb with h|h
  ·exact absurd h hm
  ·rw[Jg.mp h];exact h0,xe.tbr⟩
 have ame:a∈μe.st:=Js ha
 have okA:∀b,(∃o,H' b=some o)→μe.no b→(μ.add a).no b:=fun b _ h=>by
  have:=fH hf x h
  refine⟨fun z=>?_,this.2⟩
  rcases Jv.mp z with z|z
  ·exact this.1 z
  ·rw[Jg.mp z] at h;exact h.1 ame
 have okA2:∀m b,fs.length≤m→m≠n→μe.st[m]? =some b→(μ.add a).no b:=fun m b h1 h2 h3=>by
  have:=s.nnew (fD s hf x se h1 h3)
  refine⟨fun z=>?_,this.2⟩
  rcases Jv.mp z with z|z
  ·exact this.1 z
  ·rw[Jg.mp z] at h3
   obtain⟨l1,e1⟩:=Jl.mp h3
   obtain⟨l2,e2⟩:=Jl.mp ha
   exact h2 ((List.getElem_inj se.nd).mp (e1.trans e2.symm))
 have x0:=se.ats n a ob ha ho
 have xo:cy Γ H' (μ.add a) a ob':=x0.put okA (fun m b d h1 h2=>gK se okA okA2 _ m b d h1 h2) hr
 have xm:cy Γ H' μ a ob':=x0.put (fun b _ h=>fH hf x h) (fun m b d h1 h2=>gK se (fun b _ h=>fH hf x h) (fun m b h1 _ h3=>s.nnew (fD s hf x se h1 h3)) _ m b d h1 h2) hr
 refine⟨a,rfl,h0,na,s2,xm.rep na (lB hr),?_⟩
 refine⟨by show(μ.st++[a]).length=_;simp[s2.len],?_,fun m b ob2 h1 h2=>?_,fun b hb=>?_,s2.hth⟩
 ·refine List.nodup_append.mpr ⟨s.nd,by simp,fun b hb c hc e=>?_⟩
  rw[Jg.mp hc] at e
  exact na.1 (e▸hb)
 ·have h1:(μ.st++[a])[m]? =some b:=h1
  by_cases hm:m<μ.st.length
  ·rw[Jp hm] at h1
   rw[Jp (by rw[← s2.len];exact hm)] at h2
   exact oR s hn hf x se hS hb xa okA m b ob2 h1 h2
  ·rw[JM (by omega)] at h1
   rw[JM (by rw[← s2.len];omega)] at h2
   have e0:m-μ.st.length=0:=by
    have:=(Jl.mp h1).1
    simp at this;omega
   rw[e0] at h1
   rw[← s2.len,e0] at h2
   simp at h1 h2
   subst h1;subst h2
   exact xo
 ·rcases Jv.mp hb with h|h
  ·exact s.apart b h
  ·rw[Jg.mp h];exact na.2
end
structure RoomG(k:Nat)(A:Around):Prop where
 room:Room k A
 gd:A.guards=some []
theorem RoomG.mono{j k:Nat}{A:Around}(r:RoomG k A)(h:j≤k):RoomG j A:=⟨r.room.mono h,r.gd⟩
structure FnG(P:Program)(w:World)(K:PySem.W.Frag)(mg:Str→Option Value)(base:Heap)(CX:CXT)(k:Nat)(f:Addr)(fd:FuncData)(ps:List Str)(sp:Sp):Prop where
 len:∀vs H Q E,sp vs H Q E→vs.length=ps.length
 run:∀ (A:Around) (outer:List Env) (s:Shared) (H:Hp) (args:Args) (us:List Value) (vs:List V) (Q:VK) (E:XK),RoomG k A→Env0 P w K mg base A outer s H→BindsTo s fd args (ps.zip us)→Vals vs us→sp vs H Q E→
  codeAny (model P w) A (.call (.ref f) args) (CR CX outer P w H s Q E) s
def qU(K:PySem.W.Frag)(f:Addr)(cd:Value):Prop:=∃oc od fd osl,K.lookup f=some ⟨oc,od,.func fd,osl⟩∧fd.code=cd∧∃q,PySem.W.codeIn K cd q=true
section
variable {CX:CXT}{P:Program}{w:World}{K:PySem.W.Frag}{mg:Str→Option Value}{base:Heap}{x qual:Str}{params:Arguments}{body:List Stmt}{scope:Scope}{dvs:List V}{kws:List (Str×V)}{f:Addr}{fd:FuncData}
theorem J4{N ps:List Str}{k:Nat}{sp:Sp}(F:FunD K x qual params body scope dvs kws f fd)(S:FnScope N ps scope)(len:∀vs H Q E,sp vs H Q E→vs.length=ps.length)
  (hbody:∀ (cdv:Value) (A:Around) (outer:List Env) (s:Shared) (H:Hp) (vs:List V) (Q:VK) (E:XK),qU K f cdv→RoomG k (A.deeper (envOfC qual scope s.heap.objs.size f cdv))→sp vs H Q E→
   ∃t,PSs (cxOf CX P w K mg base N qual scope f cdv A outer s H E) body t∧t { nx:=fun _ H'=>Q .non H',rt:=Q} (L2.start N vs) H):FnG P w K mg base CX (k+1) f fd ps sp:=by
 obtain⟨oc,od,dV,kV,doc,pm,an,cdv,ct,osl,rfl,lk,hcd,_,_⟩:=F.ex
 refine⟨len,fun A outer s H args us vs Q E hrg e0 hb r hsp=>?_⟩
 have hr:=hrg.room
 have hl:=len _ _ _ _ hsp
 have KX:K.In s.heap:=e0.mod.kin.keeps fun b o e=>(e0.bs b o e).1
 have lim:s.heap.NoLimit:=e0.mod.nolimit.keeps fun b o e=>(e0.bs b o e).1
 have hkind:∀y∈ps.zip us,scope.names.lookup y.1=some .local∨(scope.names.lookup y.1=some .cell∧((cellsFrom (s.heap.objs.size+1) scope.names []).lookup y.1).isSome=true):=fun⟨n,v⟩ hy=>by
  rcases S.par n (List.of_mem_zip hy).1 with q|q
  ·exact .inl q
  ·exact .inr ⟨q,PySem.W.cellsFrom_some _ _ _ (.inl q)⟩
 refine codeAny_call_function hr.depth (KX _ _ lk) rfl S.co S.gen rfl (PySem.W.codeRec_of KX hcd) (hb _ _ _ _ ?_)
 refine wpAny_newFunctionEnv_cells S.kind hkind fun env he s1 x=>?_
 subst he
 refine⟨lim.keeps x.toInCall.keep,codeAny_func ?_⟩
 obtain⟨t,ht,hq⟩:=hbody cdv A outer s H vs Q E ⟨oc,od,_,osl,lk,rfl,_,hcd⟩ ⟨hr.deeper _,hrg.gd⟩ hsp
 have I:Inv (cxOf CX P w K mg base N qual scope f cdv A outer s H E) [] (L2.start N vs) H s1:=inv_start S hr.hd e0 hl r x
 refine wpAny_mono (ht.run [] s1 (L2.start N vs) H _ I hq) (fun fl s' hs=>?_) fun e s' hs=>hs
 have fin:∀ {σ':L2.St} {H':Hp} {v:V} {u:Value},Inv (cxOf CX P w K mg base N qual scope f cdv A outer s H E) [] σ' H' s'→RelV v u→Q v H'→CE outer P w H s Q u s':=
  fun {σ' H' v u} J rv q=>⟨v,H',J.os,J.bare,J.base,J.hok,rv,q⟩
 cases fl with
 |ret u=>
  obtain⟨v,σ',H',J,rv,q⟩:=hs
  exact fin J rv q
 |next=>
  obtain⟨σ',H',J,q⟩:=hs
  exact fin (v:=V.non) (u:=Value.none) J rfl q
 |brk=>
  obtain⟨_,_,_,q⟩:=hs
  exact False.elim q
 |cont=>
  obtain⟨_,_,_,q⟩:=hs
  exact False.elim q
end
section
variable {X:Cx}{CX:CXT}{k:Nat}{f:Addr}{fd:FuncData}{ps:List Str}{sp:Sp}{dvs:List V}{ds:List Value}{E:L2.St→XK}{x:Str}{p pos:Pos}{e:Expr}{es:List Expr}{t:TA}{σ:L2.St}
theorem EK{pins:List (Addr×Obj)}{H:Hp}{s:Shared}{Q:VK}{args:Args}{us:List Value}{vs:List V}(F:FnG X.prog X.w X.K X.mg X.base CX k f fd ps sp)(hr:RoomG k X.A)(hx:PassesAt CX X σ (E σ))
  (I:Inv X pins σ H s) (hb:BindsTo s fd args (ps.zip us)) (r:Vals vs us) (h:sp vs H Q (E σ)):codeAny (model X.prog X.w) X.A (.call (.ref f) args) (fun r s'=>match r with| .ok (.ret v)=>EP X pins σ Q v s'| .ok _=>False| .error e=>X.xe e s') s:=by
 refine codeAny_mono (F.run X.A X.stack s H args us vs Q (E σ) hr I.env0 hb r h) fun r s' hq=>?_
 cases r with
 |error e=>exact hx pins H s e s' I hq
 |ok fl=>
  cases fl with
  |ret u=>exact I.after hq
  |next=>exact False.elim hq
  |brk=>exact False.elim hq
  |cont=>exact False.elim hq
theorem gO{pins:List (Addr×Obj)}{H:Hp}{s:Shared}{Q:VK}{us:List Value}{vs:List V}(F:FnG X.prog X.w X.K X.mg X.base CX k f fd ps sp)(hr:RoomG k X.A)(hb:Binds X.K fd ps ds)(hd:Vals dvs ds)(hx:PassesAt CX X σ (E σ))
  (I:Inv X pins σ H s) (r:Vals vs us) (h:sp (vs++dvs) H Q (E σ)):codeAny (model X.prog X.w) X.A (.call (.ref f) ⟨us,[]⟩) (fun r s'=>match r with| .ok (.ret v)=>EP X pins σ Q v s'| .ok _=>False| .error e=>X.xe e s') s:=by
 have r2:Vals (vs++dvs) (us++ds):=r.append hd
 have hl:(us++ds).length=ps.length:=by rw[← r2.length];exact F.len _ _ _ _ h
 exact EK F hr hx I (hb s us I.kIn hl) r2 h
theorem pe_callG(F:FnG X.prog X.w X.K X.mg X.base CX k f fd ps sp)(hr:RoomG k X.A)(hg:Gl X x)(hm:X.mg x=some (.ref f))(hk:PySem.W.keepIn X.K (.ref f)=true)(hb:Binds X.K fd ps ds)(hd:Vals dvs ds)(hx:∀σ,PassesAt CX X σ (E σ))
  (ha:PA X (e::es) t) (hdb:(x==("__debug__":Str))=false:=by decide) (he:starEach (e::es) X.env=(false,eval e X.env)::starEach es X.env:=by rfl) (hpl:(backTo pos (starEach es X.env)).any (·.1)=false:=by rfl):
  PE X (.Call (.Name x p) (e::es) [] pos) (tCallSD sp dvs E t):=by
 refine⟨fun pins s σ H Q I h=>?_⟩
 refine wpAny_Call_Name_kw (ld_glob I hg hm ?_ hdb)
 refine PySem.W.callWith_K (h₀:=X.base) I.ok.mod.kin hk (thn (ha.run pos pins s σ H _ I h) fun us s1 ⟨vs,H1,I1,r,q⟩=>⟨I1.kIn,?_⟩) he hpl
 exact wpAny_call (gO F hr hb hd (hx σ) I1 r q)
theorem vb(F:FnG X.prog X.w X.K X.mg X.base CX k f fd ps sp)(hr:RoomG k X.A)(hg:Gl X x)(hm:X.mg x=some (.ref f))(hk:PySem.W.keepIn X.K (.ref f)=true)(hb:Binds X.K fd ps ds)(hd:Vals dvs ds)(hx:∀σ,PassesAt CX X σ (E σ))
  (hdb:(x==("__debug__":Str))=false:=by decide):PE X (.Call (.Name x p) [] [] pos) (tCallSD sp dvs E tNil):=by
 refine⟨fun pins s σ H Q I h=>?_⟩
 refine wpAny_Call_Name_kw (ld_glob I hg hm ?_ hdb)
 exact PySem.W.callWith_K0 I.kIn hk (wpAny_call (gO (us:=[]) F hr hb hd (hx σ) I .nil h))
end
structure Cfg where
 call:Nat→List D→a0→R RV
 fuel:Nat
structure Dfn where
 np:Nat
 nn:Nat
 body:Cfg→MS
def runC(np nn:Nat)(body:MS)(args:List D)(S:a0):R RV:=if nn<1000 then jh np nn body args S else x9 np (nn-1000) body args S
theorem sW{np nn:Nat}{body:MS}{args:List D}{S:a0}(h:nn<1000):runC np nn body args S=jh np nn body args S:=if_pos h
def ak(P:Nat→Option Dfn)(fuel:Nat):Nat→Nat→List D→a0→R RV
 |0,_,_,_=>.bad
 |k+1,i,args,S=>match P i with
  |some d=>runC d.np d.nn (d.body ⟨ak P fuel k,fuel⟩) args S
  |none=>.bad
def jd(Γ:Gm)(f:List D→a0→R RV)(n:Nat):Sp:=fun vs H Q E=>vs.length=n∧∃ds S μ,Sim Γ μ H S∧ef Γ H∧Reps Γ H μ vs ds∧
 (f ds S).sat (aU Γ μ H Q) (fun x S'=>∀cls dx H' μ',Ext Γ μ H μ' H'→Sim Γ μ' H' S'→EF Γ H' μ' cls dx x→E cls dx H')
theorem EF.put{Γ:Gm}{H:Hp}{μ μ2:Mu}{g:Nat→Option D}(ok:∀b,(∃o,H b=some o)→μ.no b→μ2.no b)(hg:∀n a d,g n=some d→μ.st[n]? =some a→Rep Γ H μ2 (.ref a) d){cls:Value}{dx:Option Addr}{x y:D}
  (h:bP g x=some y) (xa:EF Γ H μ cls dx x):EF Γ H μ2 cls dx y:=by
 cases x with
 |exc c d=>
  simp only[bP] at h
  obtain⟨d',hd,rfl⟩:=Jh.mp h
  obtain⟨h1,a,v,h2,h3,h4⟩:=xa
  exact⟨h1,a,v,h2,⟨h3.1,ok a ⟨_,h3.1⟩ h3.2⟩,h4.put ok hg hd⟩
 |_=>exact False.elim xa
theorem lA{N:List Str}{vs:List V}{Γ:Gm}{H:Hp}{μ:Mu}{as:List D}(r:Reps Γ H μ vs as)(h:vs.length≤N.length):b8 Γ H μ (L2.start N vs) (as.map some++List.replicate (N.length-as.length) none):=by
 have hl:=r.length
 refine⟨by unfold L2.start;simp;omega,fun i d e=>?_⟩
 by_cases hi:i<as.length
 ·rw[Jp (by simpa using hi),JR] at e
  obtain⟨d',h1,h2⟩:=Jh.mp e
  cases h2
  obtain⟨v,h3,h4⟩:=r.get h1
  refine⟨v,?_,h4⟩
  unfold L2.start
  rw[Jp (by simp;omega),JR,h3]
  rfl
 ·rw[JM (by simpa using hi),List.getElem?_replicate] at e
  split at e<;>cases e
section
variable {Γ:Gm}{P:Program}{w:World}{K:PySem.W.Frag}{mg:Str→Option Value}{base:Heap}{x qual:Str}{params:Arguments}{body:List Stmt}{scope:Scope}{dvs:List V}{kws:List (Str×V)}{f:Addr}{fd:FuncData}
theorem zB{N ps:List Str}{k:Nat}{m:MS}(F:FunD K x qual params body scope dvs kws f fd)(S:FnScope N ps scope)
  (hb:∀ (cdv:Value) (A:Around) (outer:List Env) (s:Shared) (H:Hp) (E:XK),qU K f cdv→RoomG k (A.deeper (envOfC qual scope s.heap.objs.size f cdv))→
   PSs (cxOf (L2.CX P w) P w K mg base N qual scope f cdv A outer s H E) body (dC Γ (fun cls d _ H'=>E cls d H') m)):
  FnG P w K mg base (L2.CX P w) (k+1) f fd ps (jd Γ (jh ps.length N.length m) ps.length):=by
 refine J4 F S (fun vs H Q E h=>h.1) fun cdv A outer s H vs Q E hcd hr h=>?_
 obtain⟨hl,ds,St,μ,sm,tb,rp,h⟩:=h
 refine⟨_,hb cdv A outer s H E hcd hr,?_⟩
 have hpl:ps.length≤N.length:=by have:=congrArg List.length S.pre;rw[List.length_take] at this;omega
 simp only[jh] at h
 split at h
 ·rename_i as S0 e1 e2
  have hn:=cX ds
  have hf:∀n∈bb ds,n<μ.st.length:=fun n hn=>by rw[sm.len];exact(jL e2).2 n hn
  have s0:=A3 sm hn e2
  have r0:=kJ sm hf rp e1
  have la:as.length=ps.length:=by rw[← r0.length];exact hl
  split at h
  ·rename_i hnp
   refine⟨_,S0,sF μ (bb ds),⟨lA r0 (by rw[hl];exact hpl),s0,tb⟩,?_⟩
   rw[la]
   cases eb:m (as.map some++List.replicate (N.length-ps.length) none) S0 with
   |nx e S'=>
    rw[eb] at h
    simp only at h
    split at h
    ·rename_i S2 hb2
     intro σ' H' μ' xe a
     exact h _ _ _ (ff hf xe) ⟨i8 sm hn hf xe a.sim (fun _ _=>rfl) hb2,.non⟩
    ·exact False.elim h
   |ret r S'=>
    rw[eb] at h
    simp only at h
    split at h
    ·rename_i z S2 ho hb2
     intro v H' μ' xe rv
     refine h _ _ _ (ff hf xe) ?_
     cases r with
     |new ob=>
      obtain⟨a,rfl,h0,hno,s',_,s''⟩:=rv
      simp only[fV] at ho
      obtain⟨ob',hr',rfl⟩:=Jh.mp ho
      have xa:Ext Γ (sF μ (bb ds)) H (μ'.add a) H':=by
       refine⟨?_,xe.hid,xe.keep,xe.here,fun b hb hm=>?_,xe.tbr⟩
       ·obtain⟨q,hq⟩:=xe.pre
        exact⟨q++[a],by show μ'.st++[a]=_;rw[hq];simp⟩
       ·rcases Jv.mp hb with z|z
        ·exact xe.new b z hm
        ·rw[Jg.mp z];exact h0
      have hS:(bb ds).length≤S'.length:=by
       obtain⟨q,hq⟩:=xe.pre
       have:=s'.len
       rw[hq] at this
       have e3:(sF μ (bb ds)).st.length=(bb ds).length:=by simp[sF,addrs]
       rw[JF] at this
       omega
      refine oK sm hn hf xa s'' (fun i hi=>?_) hb2 (n:=S'.length) hS ?_ ?_ hr'
      ·exact Jp (by omega)
      ·show(μ'.st++[a])[S'.length]? =_
       rw[← s'.len];simp
      ·simp
     |val d=>
      obtain⟨s',rv⟩:=rv
      have okm:∀b,(∃o,H' b=some o)→μ'.no b→μ.no b:=fun b _ q=>fH hf xe q
      have ok2:∀n a,(bb ds).length≤n→n≠S'.length→μ'.st[n]? =some a→μ.no a:=fun n a h1 _ h3=>sm.nnew (fD sm hf xe s' h1 h3)
      have plain:(bP (iS S' (bb ds).length S'.length e8) d).map RV.val=some z→gn Γ H μ H' S2 v z:=fun ho=>by
       obtain⟨d',hd,rfl⟩:=Jh.mp ho
       exact⟨i8 sm hn hf xe s' (fun _ _=>rfl) hb2,rv.put okm (fun n a d h1 h2=>gK s' okm ok2 _ n a d h1 h2) hd⟩
      cases d with
      |ref n=>
       simp only[fV] at ho
       split at ho
       ·cases ho
       ·rename_i hlt
        split at ho
        ·rename_i ob eo
         obtain⟨ob',hr',rfl⟩:=Jh.mp ho
         cases rv with
         |ref ha=>exact oK sm hn hf xe s' (fun _ _=>rfl) hb2 (by omega) ha eo hr'
        ·cases ho
      |_=>exact plain ho
    ·exact False.elim h
   |brk e S'=>rw[eb] at h;exact False.elim h
   |cnt e S'=>rw[eb] at h;exact False.elim h
   |ex y e S'=>
    rw[eb] at h
    simp only at h
    split at h
    ·rename_i z S2 ho hb2
     intro cls dx σ' H' μ' xe a xa
     have okm:∀b,(∃o,H' b=some o)→μ'.no b→μ.no b:=fun b _ q=>fH hf xe q
     have ok2:∀n a,(bb ds).length≤n→n≠S'.length→μ'.st[n]? =some a→μ.no a:=fun n b h1 _ h3=>sm.nnew (fD sm hf xe a.sim h1 h3)
     exact h cls dx H' μ (ff hf xe) (i8 sm hn hf xe a.sim (fun _ _=>rfl) hb2) (xa.put okm (fun n b d h1 h2=>gK a.sim okm ok2 _ n b d h1 h2) ho)
    ·exact False.elim h
   |bad=>rw[eb] at h;exact False.elim h
  ·exact False.elim h
 ·unfold x9 at h
  have la:ds.length=ps.length:=by rw[← rp.length];exact hl
  rw[if_pos la] at h
  ·refine⟨_,St,μ,⟨lA rp (by rw[hl];exact hpl),sm,tb⟩,?_⟩
   rw[la]
   cases eb:m (ds.map some++List.replicate (N.length-ps.length) none) St with
   |nx e S'=>
    rw[eb] at h
    intro σ' H' μ' xe a
    exact h _ _ _ xe ⟨a.sim,.non⟩
   |ret r S'=>
    rw[eb] at h
    intro v H' μ' xe rv
    exact h _ _ _ xe rv
   |brk e S'=>rw[eb] at h;exact False.elim h
   |cnt e S'=>rw[eb] at h;exact False.elim h
   |ex y e S'=>
    rw[eb] at h
    intro cls dx σ' H' μ' xe a xa
    exact h cls dx H' μ' xe a.sim xa
   |bad=>rw[eb] at h;exact False.elim h
end
def aC(i:Nat)(g:Cfg)(dfl:List D)(m:MA):ME:=fun env S=>(m env S).bind fun ds S1=>g.call i (ds++dfl) S1
section
variable {Γ:Gm}{X:Cx}{W:WX}{pos:Pos}
theorem DN{i:Nat}{g:Cfg}{dfl:List D}{dvs:List V}{n:Nat}{m:MA}{σ:L2.St}{H:Hp}{Q:VK}(hd:∀H μ,Reps Γ H μ dvs dfl)(hlen:∀ (_:List V) ds S,(g.call i ds S).sat (fun _ _=>True) (fun _ _=>True)→ds.length=n)(h:ay Γ W (aC i g dfl m) σ H Q):
  tCallSD (jd Γ (g.call i) n) dvs (fun σ=>WE W σ) (iD Γ W m) σ H Q:=
 gF h fun vs H' μ' ds S' env a rs q=>by
  have rr:=rs.append (hd H' μ')
  refine⟨by rw[rr.length];exact hlen vs _ S' (R.sat_imp q (fun _ _ _=>trivial) fun _ _ _=>trivial),ds++dfl,S',μ',a.sim,a.tabs,rr,R.sat_imp q (fun r S2 p=>p) fun e S2 p=>?_⟩
  exact fun cls dx H2 μ2 x s xa=>p cls dx H2 μ2 x s xa
theorem Cb{i:Nat}{g:Cfg}{dfl:List D}{dvs:List V}{dus:List Value}{m:MA}{k:Nat}{f:Addr}{fd:FuncData}{ps:List Str}{x:Str}{p:Pos}{e:Expr}{es:List Expr}(tk:Takes X W)
  (F:FnG X.prog X.w X.K X.mg X.base (L2.CX X.prog X.w) k f fd ps (jd Γ (g.call i) ps.length)) (hr:RoomG k X.A) (hg:Gl X x) (hm:X.mg x=some (.ref f)) (hk:PySem.W.keepIn X.K (.ref f)=true) (hb:Binds X.K fd ps dus) (hv:Vals dvs dus)
  (hd:∀H μ,Reps Γ H μ dvs dfl) (hlen:∀ds S,(g.call i ds S).sat (fun _ _=>True) (fun _ _=>True)→ds.length=ps.length) (ha:PA X (e::es) (iD Γ W m)) (hs:(e::es).all notStar=true) (hdb:(x==("__debug__":Str))=false):
  PE X (.Call (.Name x p) (e::es) [] pos) (ay Γ W (aC i g dfl m)):=
 (pe_callG F hr hg hm hk hb hv (fun σ=>passAt tk σ) ha hdb (aE (Jn.mp (show(notStar e&&es.all notStar)=true from hs)).1) (star_any (Jn.mp (show(notStar e&&es.all notStar)=true from hs)).2)).weak
  fun σ H Q h=>DN hd (fun _ ds S q=>hlen ds S q) h
theorem B3{i:Nat}{g:Cfg}{dfl:List D}{dvs:List V}{dus:List Value}{k:Nat}{f:Addr}{fd:FuncData}{ps:List Str}{x:Str}{p:Pos}(tk:Takes X W)
  (F:FnG X.prog X.w X.K X.mg X.base (L2.CX X.prog X.w) k f fd ps (jd Γ (g.call i) ps.length)) (hr:RoomG k X.A) (hg:Gl X x) (hm:X.mg x=some (.ref f)) (hk:PySem.W.keepIn X.K (.ref f)=true) (hb:Binds X.K fd ps dus) (hv:Vals dvs dus)
  (hd:∀H μ,Reps Γ H μ dvs dfl) (hlen:∀ds S,(g.call i ds S).sat (fun _ _=>True) (fun _ _=>True)→ds.length=ps.length) (hdb:(x==("__debug__":Str))=false):
  PE X (.Call (.Name x p) [] [] pos) (ay Γ W (aC i g dfl (af []))):=
 (vb F hr hg hm hk hb hv (fun σ=>passAt tk σ) hdb).weak
  fun σ H Q h=>by
   obtain⟨env,S,μ,a,h⟩:=h
   unfold aC af R.bind at h
   have rr:Reps Γ H μ dvs dfl:=hd H μ
   refine⟨?_,dfl,S,μ,a.sim,a.tabs,rr,R.sat_imp h (fun r S2 p=>p) fun e S2 p=>?_⟩
   ·show([]++dvs).length=_
    rw[List.nil_append,rr.length]
    exact hlen dfl S (R.sat_imp h (fun _ _ _=>trivial) fun _ _ _=>trivial)
   ·exact fun cls dx H2 μ2 x s xa=>p cls dx H2 μ2 x s xa
end
def jb(S:a0)(d:D):Option Src:=
 match d with
 | .tup xs=>some (.st xs)
 | .lst xs=>some (.st xs)
 | .scr xs=>some (.st xs)
 | .str z=>some (.st (jS z))
 | .ref n=>match S[n]? with|some (.lst _)=>some (.rf n)|_=>none
 |_=>none
def aI(f:ME):MI:=fun env S=>(f env S).bind fun r S1=>match jb S1 r.d with|some src=>.ok src S1|none=>.bad
def HK(K:PySem.W.Frag)(te:TE):TI:=fun σ H Rr=>te σ H fun x H1=>(∃a,x= .ref a∧(∃xs,SqL K H1 a xs)∧Rr (Itl K a) H1)∨(∃a,x= .ref a∧(∃xs,SqT K H1 a xs)∧Rr (Itt K a) H1)∨∃z,x= .str z∧Rr (Its z) H1
section
variable {Γ:Gm}{X:Cx}{W:WX}{pos:Pos}{tg:Expr}
theorem D1{e:Expr}{te:TE}(he:PE X e te):PI X tg e (HK X.K te):=by
 refine⟨fun pins s σ H R I h=>?_⟩
 refine thn (he.run pins s σ H _ I h) fun v s1 ⟨x,H1,I1,r1,q1⟩=>?_
 rcases q1 with⟨a,e,⟨xs,hq⟩,q⟩| ⟨a,e,⟨xs,hq⟩,q⟩| ⟨z,e,q⟩
 ·subst e
  cases r1
  obtain⟨its,rv,p,hz⟩:=I1.list hq
  refine wpAny_pyIter_list p.isList ?_
  refine⟨s1.heap.objs.size,[s1.heap.objs.size],_,_,H1,rfl,I1.kept (t':=s1.toks) fun b o e=>Heap.get?_push_of_some _ e,turn_list a _,⟨_,Heap.get?_push_size _ rfl,rfl,rfl⟩,fun b hb=>?_,q⟩
  have e:b=s1.heap.objs.size:=by simpa using hb
  subst e
  exact I1.fpOk (JD _) (I1.hok.fresh (JD _))
 ·subst e
  cases r1
  obtain⟨its,rv,p,hz⟩:=I1.tuple hq
  refine wpAny_pyIter_tuple (show s1.heap.IsTuple a its.toArray from p) ?_
  refine⟨s1.heap.objs.size,[s1.heap.objs.size],_,_,H1,rfl,I1.kept (t':=s1.toks) fun b o e=>Heap.get?_push_of_some _ e,turn_tuple a _,⟨_,Heap.get?_push_size _ rfl,rfl,rfl⟩,fun b hb=>?_,q⟩
  have e:b=s1.heap.objs.size:=by simpa using hb
  subst e
  exact I1.fpOk (JD _) (I1.hok.fresh (JD _))
 ·subst e
  obtain⟨t,rfl⟩:=r1
  cases ha:z.cps.all (· <128)
  ·exact wpAny_pyIter_wide ha (pi_one (tk:=s1.toks) I1 _ (turn_str _ z t "str_iterator" (.inr rfl)) ⟨_,Heap.get?_push_size _ rfl,rfl,rfl⟩ q)
  ·exact wpAny_pyIter_ascii ha (pi_one (tk:=s1.toks) I1 _ (turn_str _ z t "str_ascii_iterator" (.inl rfl)) ⟨_,Heap.get?_push_size _ rfl,rfl,rfl⟩ q)
theorem B4{f:ME}{k:RV→a0→R Src}{σ:L2.St}{H:Hp}{Rr:It→Hp→Prop}(h:ky Γ W (fun env S=>(f env S).bind k) σ H Rr){Q:VK}
  (q:∀r S' v H' μ' env,At Γ σ H' env S' μ'→gn Γ H μ' H' S' v r→(k r S').sat (fun src S2=>∀J H2 μ2,Ext Γ μ' H' μ2 H2→Sim Γ μ2 H2 S2→rj Γ J μ2 H2 src→Rr J H2) (dw Γ W σ μ' H')→Q v H'):ay Γ W f σ H Q:=by
 obtain⟨env,S,μ,a,h⟩:=h
 rw[R.sat_bind] at h
 refine aW a (R.sat_imp h (fun r S' q=>q) fun x S' q=>q) fun r S' v H' μ' x rv g=>?_
 exact q r S' v H' μ' env (a.next x rv.sim.1) rv (R.sat_imp g (fun src S2 g J H2 μ2 x2=>g J H2 μ2 (x.trans x2)) fun y S2 g=>g.ext x)
theorem Am{e:Expr}{f:ME}(hK:X.K=Γ.K)(he:PE X e (ay Γ W f)):PI X tg e (ky Γ W (aI f)):=(D1 he).weak fun σ H Rr h=>by
 refine B4 h fun r S' v H' μ' env a rv q=>?_
 obtain⟨s,rep⟩:=rv.sim
 split at q
 ·rename_i src hi
  rw[hK]
  revert hi rep
  generalize r.d=d
  intro rep hi
  cases d with
  |tup xs=>
   cases hi
   cases rep with
   |tup h1 h2=>
    rename_i aa vs
    refine .inr (.inl ⟨aa,rfl,⟨vs,?_⟩,q _ H' μ' .refl s (ur h1 h2)⟩)
    rcases h1 with h1|h1
    ·obtain⟨ob,_,h1⟩:=h1
     exact .inl (.inr ⟨_,h1.1⟩)
    ·exact h1.sq
  |lst xs=>
   cases hi
   cases rep with
   |lst h1 h2=>exact .inl ⟨_,rfl,⟨_,.of h1.1⟩,q _ H' μ' .refl s (uz h1 h2)⟩
  |scr xs=>
   cases hi
   cases rep with
   |scr h1 h2=>exact .inl ⟨_,rfl,⟨_,.inl (.inr ⟨_,h1.1⟩)⟩,q _ H' μ' .refl s (uI h1 h2)⟩
  |str z=>
   cases hi
   cases rep
   exact .inr (.inr ⟨z,rfl,q _ H' μ' .refl s tY⟩)
  |ref n=>
   simp only[jb] at hi
   split at hi
   ·rename_i xs e
    cases hi
    cases rep with
    |ref ha=>
     obtain⟨vs,hv,_⟩:=s.ats n _ _ ha e
     exact .inl ⟨_,rfl,⟨vs,.of hv⟩,q _ H' μ' .refl s ⟨_,ha,rfl⟩⟩
   ·cases hi
  |_=>cases hi
 ·exact False.elim q
def kx(i:Int):Bool:=decide (-(4611686018427387904)≤i)&&decide (i<4611686018427387904)
theorem J2:(2:Int)^62=4611686018427387904:=by decide
theorem uS{i:Int}(h:kx i=true): -(2^62)≤i∧i<2^62:=by
 unfold kx at h
 rw[Jy,JB,JB] at h
 rw[J2];exact h
def cu(ds:List D):Option (List D):=match ds with
 | [.int j]=>if kx j then some (gA 0 j.toNat) else none
 |_=>none
def fk(o:List D→Option (List D))(m:MA):MI:=fun env S=>(m env S).bind fun ds S1=>match o ds with|some xs=>.ok (.st xs) S1|none=>.bad
theorem kj{m:MA}{k:List D→a0→R Src}{σ:L2.St}{H:Hp}{Rr:It→Hp→Prop}(h:ky Γ W (fun env S=>(m env S).bind k) σ H Rr){Q:List V→Hp→Prop}
  (q:∀vs H' μ' ds S' env,At Γ σ H' env S' μ'→Reps Γ H' μ' vs ds→(k ds S').sat (fun src S2=>∀J H2 μ2,Ext Γ μ' H' μ2 H2→Sim Γ μ2 H2 S2→rj Γ J μ2 H2 src→Rr J H2) (dw Γ W σ μ' H')→Q vs H'):iD Γ W m σ H Q:=by
 obtain⟨env,S,μ,a,h⟩:=h
 rw[R.sat_bind] at h
 refine⟨env,S,μ,a,R.sat_imp h (fun ds S' g vs H' μ' x s rs=>?_) fun x S' q=>q⟩
 exact q vs H' μ' ds S' env (a.next x s) rs (R.sat_imp g (fun src S2 g J H2 μ2 x2=>g J H2 μ2 (x.trans x2)) fun y S2 g=>g.ext x)
theorem uo{a:Expr}{m:MA}{p:Pos}(hg:Gl X "range")(hm:X.mg "range"=none)(ha:PA X [a] (iD Γ W m))(hs:notStar a=true):PI X tg (.Call (.Name "range" p) [a] [] pos) (ky Γ W (fk cu m)):=
 (pi_range1 hg hm ha (by rw[aE hs];rfl)).weak fun σ H Rr h=>kj h fun vs H' μ' ds S' env at_ rs q=>by
  split at q
  ·rename_i xs e
   unfold cu at e
   split at e
   ·rename_i j
    split at e
    ·rename_i hj
     cases e
     obtain⟨v,rfl,rv⟩:=dj rs
     cases rv
     obtain⟨h1,h2⟩:=uS hj
     exact⟨j,rfl,h1,h2,q _ H' μ' .refl at_.sim oH⟩
    ·cases e
   ·cases e
  ·exact False.elim q
theorem EJ{fuel:Nat}{elt tgt iter:Expr}{ifs:List Expr}{scope:Scope}{own:List (Str×Nat)}{t:Tg}{it:MI}{c:MT}{f:ME}(hc:X.calm=true)(hN:X.N.Nodup)(hi:PI X tgt iter (ky Γ W it))(ok:blkC X.N X.env.scope scope own=true)
  (hsl:t.slots.all (fun j=>decide (j∈own.map (·.2)))=true)
  (hg:∀ (s:Shared) (H:Hp) (C:Addr) (cl:List (Str×Addr)) (fp:List Addr),PG (X.blk s H scope (compEnvC scope cl C X.env) fp) tgt (iW Γ t)) (ht:∀ (s:Shared) (H:Hp) (C:Addr) (cl:List (Str×Addr)) (fp:List Addr),PTs (X.blk s H scope (compEnvC scope cl C X.env) fp) ifs (gG Γ WF c))
  (he:∀ (s:Shared) (H:Hp) (C:Addr) (cl:List (Str×Addr)) (fp:List Addr),PE (X.blk s H scope (compEnvC scope cl C X.env) fp) elt (ay Γ WF f)) (hs:∀x,foldedSetIterable iter X.env x=pure x):
  PE X (.ListComp elt [⟨tgt,iter,ifs,0⟩] scope pos) (ay Γ W (jY fuel (own.map (·.2)) t it c f)):=
 (pe_lc hc hN hi (blkOk_by ok) hg ht he hs).weak fun σ H Q h=>BI (fun j hj=>JL (Jz.mp hsl j hj)) h
theorem vz{mt:Bool}{i:Nat}{y:Str}{py:Pos}{fuel:Nat}{elt tgt iter:Expr}{ifs:List Expr}{scope:Scope}{own:List (Str×Nat)}{spos:Pos}{t:Tg}{it:MI}{c:MT}{f:ME}(hc:X.calm=true)(hN:X.N.Nodup)(hy:X.N[i]? =some y)(hyl:X.env.scope.names.lookup y=some .local)
  (hsw:swapsWith (.ListComp elt [⟨tgt,iter,ifs,0⟩] scope pos) (some (.Name y py)) spos.line X.env=pure true) (hi:PI X tgt iter (ky Γ W it)) (ok:blkC X.N X.env.scope scope own=true)
  (hsl:t.slots.all (fun j=>decide (j∈own.map (·.2)))=true)
  (hg:∀ (s:Shared) (H:Hp) (C:Addr) (cl:List (Str×Addr)) (fp:List Addr),PG (X.blk s H scope (compEnvC scope cl C X.env) fp) tgt (iW Γ t)) (ht:∀ (s:Shared) (H:Hp) (C:Addr) (cl:List (Str×Addr)) (fp:List Addr),PTs (X.blk s H scope (compEnvC scope cl C X.env) fp) ifs (gG Γ WF c))
  (he:∀ (s:Shared) (H:Hp) (C:Addr) (cl:List (Str×Addr)) (fp:List Addr),PE (X.blk s H scope (compEnvC scope cl C X.env) fp) elt (ay Γ WF f)) (hs:∀x,foldedSetIterable iter X.env x=pure x):
  PS X (.Assign [.Name y py] (.ListComp elt [⟨tgt,iter,ifs,0⟩] scope pos) spos) (dC Γ W (aM mt i (jY fuel (own.map (·.2)) t it c f))):=
 (ps_setLc hc hN hy hyl hsw hi (blkOk_by ok) hg ht he hs).weak fun D σ H h=>by
  refine BI (W:=W) (fuel:=fuel) (fun j hj=>JL (Jz.mp hsl j hj)) ?_
  obtain⟨env,S,μ,a,h⟩:=h
  unfold aM at h
  rw[R.sat_then] at h
  refine aW a (R.sat_imp h (fun r S' q=>q) fun x S' q=>dh a q) fun r S' v H' μ' x rv g=>?_
  obtain⟨μ2,x2,s2,r2⟩:=eY (mt:=mt) x rv
  exact g _ H' μ2 x2 ⟨(a.env.ext x2).set i r2,s2,x2.tabs a.tabs⟩
theorem oZ{m:MA}{k:List D→a0→RS}{Z:Ends}{σ:L2.St}{H:Hp}{env:aq}{S:a0}{μ:Mu}{Q:List V→Hp→Prop}(a:At Γ σ H env S μ)(h:((m env S).then env k).sat (b0 Γ W Z μ H))
  (q:∀ds S' vs H' μ',Ext Γ μ H μ' H'→Sim Γ μ' H' S'→Reps Γ H' μ' vs ds→(k ds S').sat (b0 Γ W Z μ' H')→Q vs H'):iD Γ W m σ H Q:=by
 rw[R.sat_then] at h
 exact⟨env,S,μ,a,R.sat_imp h (fun ds S' g vs H' μ' x s r=>q ds S' vs H' μ' x s r (b0.ext x g)) fun x S' q=>dh a q⟩
def gU(i j:Nat)(m:MA):MS:=fun env S=>(m env S).then env fun ds S1=>match ds with| [d,e]=>.nx ((env.set i (some d)).set j (some e)) S1|_=>.bad
def lE(i j l:Nat)(m:MA):MS:=fun env S=>(m env S).then env fun ds S1=>match ds with| [d,e,f]=>.nx (((env.set i (some d)).set j (some e)).set l (some f)) S1|_=>.bad
theorem Bq{H:Hp}{μ:Mu}{vs:List V}{d e f:D}(r:Reps Γ H μ vs [d,e,f]):∃u v w,vs=[u,v,w]∧Rep Γ H μ u d∧Rep Γ H μ v e∧Rep Γ H μ w f:=by
 cases r with
 |cons r t=>
  obtain⟨v,w,rfl,h1,h2⟩:=tw t
  exact⟨_,v,w,rfl,r,h1,h2⟩
theorem Cd{i j:Nat}{x y:Str}{a b:Expr}{m:MA}{px py pt:Pos}{kt k2 pt2}(hc:X.calm=true)(hN:X.N.Nodup)(hi:X.N[i]? =some x)(hj:X.N[j]? =some y)(hij:i≠j)
  (hx:X.env.scope.names.lookup x=some .local) (hy:X.env.scope.names.lookup y=some .local) (ha:PA X [a,b] (iD Γ W m))
  (hw:swappedStores [.Tuple [.Name x px,.Name y py] kt pt] (.Tuple [a,b] k2 pt2) X.env=pure (some [x,y]))
  (hs:swapsWithSole [.Tuple [.Name x px,.Name y py] kt pt] (.Tuple [a,b] k2 pt2) pos.line X.env=pure false):
  PS X (.Assign [.Tuple [.Name x px,.Name y py] kt pt] (.Tuple [a,b] k2 pt2) pos) (dC Γ W (gU i j m)):=
 (ps_par hc hN hi hj hij hx hy ha hw hs).weak fun D σ H h=>by
  obtain⟨env,S,μ,a,h⟩:=h
  refine oZ a h fun ds S' vs H' μ' x s r g=>?_
  split at g
  ·rename_i d e
   obtain⟨v,w,rfl,h1,h2⟩:=tw r
   exact⟨v,w,rfl,g _ H' μ' .refl ⟨((a.env.ext x).set i h1).set j h2,s,x.tabs a.tabs⟩⟩
  ·exact False.elim g
theorem B5{i j l:Nat}{x y z:Str}{a b c:Expr}{m:MA}{px py pz pt:Pos}{kt k2 pt2}(hc:X.calm=true)(hN:X.N.Nodup)(hi:X.N[i]? =some x)(hj:X.N[j]? =some y)(hl:X.N[l]? =some z)(hij:i≠j)(hil:i≠l)(hjl:j≠l)
  (hx:X.env.scope.names.lookup x=some .local) (hy:X.env.scope.names.lookup y=some .local) (hz:X.env.scope.names.lookup z=some .local) (ha:PA X [a,b,c] (iD Γ W m))
  (hw:swappedStores [.Tuple [.Name x px,.Name y py,.Name z pz] kt pt] (.Tuple [a,b,c] k2 pt2) X.env=pure (some [x,y,z]))
  (hs:swapsWithSole [.Tuple [.Name x px,.Name y py,.Name z pz] kt pt] (.Tuple [a,b,c] k2 pt2) pos.line X.env=pure false):
  PS X (.Assign [.Tuple [.Name x px,.Name y py,.Name z pz] kt pt] (.Tuple [a,b,c] k2 pt2) pos) (dC Γ W (lE i j l m)):=
 (ps_par3 hc hN hi hj hl hij hil hjl hx hy hz ha hw hs).weak fun D σ H h=>by
  obtain⟨env,S,μ,a,h⟩:=h
  refine oZ a h fun ds S' vs H' μ' x s r g=>?_
  split at g
  ·rename_i d e f
   obtain⟨u,v,w,rfl,h1,h2,h3⟩:=Bq r
   exact⟨u,v,w,rfl,g _ H' μ' .refl ⟨(((a.env.ext x).set i h1).set j h2).set l h3,s,x.tabs a.tabs⟩⟩
  ·exact False.elim g
end
def En(k:Key)(y:D):List D→List D→List D
 |kd::ks,v::vs=>(if isKey k kd then y else v)::En k y ks vs
 |_,_=>[]
def kI(k:Key)(y:D)(ks vs:List D):List D×List D:=
 if ks.any (isKey k) then(ks,En k y ks vs) else(ks++[keyD k],vs++[y])
section
variable {Γ:Gm}{H:Hp}{μ:Mu}
theorem nY(k:Key):∀kvs:List (Key×V),(kvs.map fun q=>keyD q.1).any (isKey k)=kvs.any fun kv=>decide (kv.1=k)
 | []=>rfl
 |p::r=>by
  rw[JG,List.any_cons,List.any_cons,eX,nY k r]
theorem sV{k:Key}{v:V}{d:D}(rv:Rep Γ H μ v d):∀ {kvs:List (Key×V)} {ds:List D},Reps Γ H μ (kvs.map (·.2)) ds→
  Reps Γ H μ ((kvs.map fun kv=>if kv.1=k then(kv.1,v) else kv).map (·.2)) (En k d (kvs.map fun q=>keyD q.1) ds)
 | [],_,r=>by cases r;exact .nil
 |p::kvs,_,r=>by
  cases r with
  |cons r1 r2=>
   refine .cons ?_ (sV rv r2)
   rw[eX]
   show Rep Γ H μ (if p.1=k then(p.1,v) else p).2 _
   by_cases e:p.1=k
   ·rw[if_pos e,if_pos (Ju e)];exact rv
   ·rw[if_neg e,if_neg (by rw[Jr e];decide)];exact r1
theorem sZ{k:Key}{v:V}{d:D}{kvs:List (Key×V)}{ds:List D}(r:Reps Γ H μ (kvs.map (·.2)) ds)(rv:Rep Γ H μ v d):
  (kI k d (kvs.map fun q=>keyD q.1) ds).1=(putK kvs k v).map (fun q=>keyD q.1)∧Reps Γ H μ ((putK kvs k v).map (·.2)) (kI k d (kvs.map fun q=>keyD q.1) ds).2:=by
 unfold kI putK
 rw[nY]
 by_cases a:(kvs.any fun kv=>decide (kv.1=k))=true
 ·rw[if_pos a,if_pos a]
  refine⟨?_,sV rv r⟩
  rw[List.map_map]
  refine List.map_congr_left fun q _=>?_
  show keyD q.1=keyD (if q.1=k then(q.1,v) else q).1
  split<;>rfl
 ·rw[if_neg a,if_neg a,List.map_append,List.map_append]
  exact⟨rfl,r.append (.cons rv .nil)⟩
end
def jH(S:a0)(o i v:D):Option a0:=
 match o with
 | .ref n=>match S[n]? with
  |some (.lst xs)=>match i with
   | .int k=>(ixN xs.length k).map fun j=>S.set n (.lst (xs.set j v))
   |_=>none
  |some (.dct ks vs)=>match keyOf i with
   |some k=>if ks.length<16777216 then some (S.set n (.dct (kI k v ks vs).1 (kI k v ks vs).2)) else none
   |none=>none
  |_=>none
 |_=>none
def rSub:TSet:=fun o i v H Q=>rSetL o i v H Q∨rSetD o i v H Q
theorem AX{X:Cx}(hu:X.A.units+1<cLine):PSet X rSub:=by
 intro pins s σ H o i v ov iv u Q I ro ri rv h
 rcases h with h|h
 ·exact set_list pins s σ H o i v ov iv u Q I ro ri rv h
 ·exact set_dict hu pins s σ H o i v ov iv u Q I ro ri rv h
section
variable {Γ:Gm}{X:Cx}{W:WX}{pos:Pos}
theorem eK{H:Hp}{μ:Mu}{S:a0}{n:Nat}{a:Addr}{xs ys:List D}{vs:List V}(s:Sim Γ μ H S)(hn:μ.st[n]? =some a)(hS:S[n]? =some (.lst xs))(r:Reps Γ H μ vs ys):Ext Γ μ H μ (upd H a (.lst vs))∧Sim Γ μ (upd H a (.lst vs)) (S.set n (.lst ys)):=by
 have xe:Ext Γ μ H μ (upd H a (.lst vs)):=by
  obtain⟨m1,m2,m3⟩:=i5 (s.ats n _ _ hn hS)
  exact Ext.write (Js hn) _ m2 m3
 exact s.write (ob':=.lst ys) hn hS (.lst vs) ⟨_,upd_same,r.ext xe⟩
theorem tR{H:Hp}{μ:Mu}{S:a0}{n:Nat}{a:Addr}{ks0 vs0 vs:List D}{kvs:List (Key×V)}(s:Sim Γ μ H S)(hn:μ.st[n]? =some a)(hS:S[n]? =some (.dct ks0 vs0))(r:Reps Γ H μ (kvs.map (·.2)) vs):Ext Γ μ H μ (upd H a (.dK kvs))∧Sim Γ μ (upd H a (.dK kvs)) (S.set n (.dct (kvs.map fun q=>keyD q.1) vs)):=by
 have xe:Ext Γ μ H μ (upd H a (.dK kvs)):=by
  obtain⟨m1,m2,m3⟩:=i5 (s.ats n _ _ hn hS)
  exact Ext.write (Js hn) _ m2 m3
 exact s.write (ob':=.dct (kvs.map fun q=>keyD q.1) vs) hn hS (.dK kvs) ⟨_,upd_same,rfl,r.ext xe⟩
theorem zM{H:Hp}{μ:Mu}{S S':a0}{o i v:V}{dO di dv:D}(s:Sim Γ μ H S)(ro:Rep Γ H μ o dO)(ri:Rep Γ H μ i di)(rv:Rep Γ H μ v dv)(h:jH S dO di dv=some S'){Q:Hp→Prop}
  (q:∀H',Ext Γ μ H μ H'→Sim Γ μ H' S'→Q H'):rSub o i v H Q:=by
 cases dO with
 |ref n=>
  simp only[jH] at h
  cases ro with
  |ref hn=>
   split at h
   ·rename_i xs hS
    split at h
    ·rename_i k
     obtain⟨j,hj,rfl⟩:=Jh.mp h
     cases ri
     obtain⟨vs,hv,rs⟩:=s.ats n _ _ hn hS
     refine .inl ⟨_,vs,k,j,rfl,rfl,hv,by rw[rs.length];exact hj,?_⟩
     obtain⟨x,s'⟩:=eK s hn hS (rs.set j rv)
     exact q _ x s'
    ·cases h
   ·rename_i ks vs hS
    split at h
    ·rename_i k hk
     split at h
     ·rename_i hl
      cases h
      have ei:=ju ri hk
      subst ei
      obtain⟨kvs,hv,rfl,rs⟩:=s.ats n _ _ hn hS
      refine .inr ⟨_,_,rfl,.k hv (by rw[sizeLine_eq];simpa using hl),?_⟩
      obtain⟨p1,p2⟩:=sZ (k:=k) rs rv
      obtain⟨x,s'⟩:=tR s hn hS p2
      rw[← p1] at s'
      exact q _ x s'
     ·cases h
    ·cases h
   ·cases h
 |_=>cases h
def dQ(fo fi fv:ME):MS:=fun env S=>(fv env S).then env fun v S1=>(fo env S1).then env fun o S2=>(fi env S2).then env fun i S3=>match jH S3 o.d i.d v.d with
 |some S4=>.nx env S4
 |none=>.bad
theorem Ci{o i e:Expr}{fo fi fv:ME}{tpos:Pos}(hu:X.A.units+1<cLine)(ho:PE X o (ay Γ W fo))(hi:PE X i (ay Γ W fi))(he:PE X e (ay Γ W fv))
  (ha:∀v,assign (.Subscript o i tpos) X.env v=(do
   let ov ← holding [v] (eval o X.env)
   let iv ← holding [v,ov] (eval i X.env)
   standAt tpos
   holding [v,ov,iv] (setItem ov iv v)
   release [v,ov,iv] []))
  (hs:swapsWithSole [.Subscript o i tpos] e pos.line X.env=pure false) (hw:swappedStores [.Subscript o i tpos] e X.env=pure none)
  (h1:(assignEach [.Subscript o i tpos] X.env).map (·.2)=[assign (.Subscript o i tpos) X.env]):PS X (.Assign [.Subscript o i tpos] e pos) (dC Γ W (dQ fo fi fv)):=
 (ps_asg he (pg_sub ho hi (AX hu) ha) hs hw h1).weak fun Z σ H h=>by
  obtain⟨env,S,μ,a,h⟩:=h
  refine dN a h fun rv S1 v H1 μ1 x1 pv g1=>?_
  have a1:=a.next x1 pv.sim.1
  refine dN a1 g1 fun ro S2 ov H2 μ2 x2 po g2=>?_
  have a2:=a1.next x2 po.sim.1
  refine dN a2 g2 fun ri S3 iv H3 μ3 x3 pi g3=>?_
  have a3:=a2.next x3 pi.sim.1
  split at g3
  ·rename_i S4 e4
   refine zM a3.sim (po.sim.2.ext x3) pi.sim.2 (pv.sim.2.ext (x2.trans x3)) e4 fun H4 x4 s4=>?_
   exact g3 σ H4 μ3 x4 (a3.next x4 s4)
  ·exact False.elim g3
def Iy(i:Nat)(o:a0→D→D→Option (D×a0))(f:ME):MS:=fun env S=>match env[i]? with
 |some (some d)=>(f env S).then env fun r S1=>match o S1 d r.d with|some (z,S2)=>.nx (env.set i (some z)) S2|none=>.bad
 |_=>.bad
def HC(K:PySem.W.Frag)(T:String)(x:V)(H:Hp):Prop:=tyV K T x H∨(T="tuple"∧∃a vs,x= .ref a∧((∃ob:Obj,ob.dict=none∧H a=some (.frz ob (.tup vs)))∨o9 K a vs))
theorem HC.is_{X:Cx}{pins:List (Addr×Obj)}{σ:L2.St}{H:Hp}{s:Shared}{T:String}{x:V}{v:Value}(I:Inv X pins σ H s)(r:RelV x v)(ty:HC X.K T x H):
  s.TypeIs v T∧∀a,v= .ref a→∃ob,s.heap.get? a=some ob∧ob.dict=none:=by
 rcases ty with ty| ⟨rfl,a,vs,rfl,h⟩
 ·exact tyV_is I r ty
 ·cases r
  rcases h with⟨ob,e,h⟩| ⟨o,its,n,h1,h2,h3,_⟩
  ·obtain⟨g,_,_,_,ob',g2,g3,_⟩:=I.hok a _ h
   rw[g] at g2
   cases g2
   exact⟨⟨ob,g,g3⟩,fun b eb=>by cases eb;exact⟨ob,g,e⟩⟩
  ·exact⟨⟨o,I.kIn a o h1,h2⟩,fun b eb=>by cases eb;exact⟨o,I.kIn _ o h1,h3⟩⟩
def F6(K:PySem.W.Frag)(T:String)(r:V→List V→Hp→VK→Prop)(to:TE)(t:TA):TE:=fun σ H Q=>to σ H fun x H1=>HC K T x H1∧t σ H1 fun xs H2=>r x xs H2 Q
section
variable {X:Cx}{o e:Expr}{es:List Expr}{to:TE}{t:TA}{name:Str}{apos cpos:Pos}{T id:String}{r:V→List V→Hp→VK→Prop}
theorem Co(pa:PlainAttrs T)(slot:Slot T name id)(hty:typeOf (.builtin id)=pure (.type "method_descriptor"))(hm:MtR X id r)(ho:PE X o to)(ha:PA X (e::es) t)
  (hbase:attributeBase o name X.env (eval o X.env)=eval o X.env)
  (hfew:((backTo cpos (starEach (e::es) X.env)).all (fun x=> !x.1)&&(backToKw cpos (keywordEach [] X.env)).all (fun x=>x.1.isSome)
   &&decide ((e::es).length+([]:List Keyword).length+(if([]:List Keyword).isEmpty then 0 else 1)<30))=true)
  (hline:(apos.endLine==cpos.line)=true) (hs:starEach (e::es) X.env=(false,eval e X.env)::starEach es X.env) (hplain:(backTo cpos (starEach es X.env)).any (·.1)=false):
  PE X (.Call (.Attribute o name apos) (e::es) [] cpos) (F6 X.K T r to t):=by
 refine⟨fun pins s σ H Q I h=>?_⟩
 refine wpAny_Call_method_late hbase hfew hline rfl (thn (ho.run pins s σ H _ I h) fun v s1 ⟨x,H1,I1,r1,ty,q1⟩=>?_)
 obtain⟨h1,h2⟩:=ty.is_ I1 r1
 refine⟨T,id,pa,slot,hty,h1,h2,?_⟩
 have hA:=ha.run cpos pins s1 σ H1 _ I1 q1
 rw[hs] at hA ⊢
 refine Calls.callWith_builtin (by show(false||(backTo cpos (starEach es X.env)).any (·.1))=false;rw[hplain]<;>rfl) (Calls.evalArgs_plain ?_)
 exact thn hA fun us s2 ⟨vs,H2,I2,r2,q2⟩=>hm pins s2 σ H2 x vs v us Q I2 r1 r2 q2
end
def yV(T:String)(S:a0)(d:D):Bool:=
 match d with
 | .str _=>T== "str"
 | .lst _=>T== "list"
 | .scr _=>T== "list"
 | .dct _ _=>T== "dict"
 | .tup _=>T== "tuple"
 | .ref n=>match S[n]? with|some (.lst _)=>T== "list" |some (.dct _ _)=>T== "dict" |_=>false
 |_=>false
theorem Ek{T:String}{H:Hp}{μ:Mu}{S:a0}{v:V}{d:D}(s:Sim Γ μ H S)(r:Rep Γ H μ v d)(h:yV T S d=true):HC Γ.K T v H:=by
 cases r with
 |tup h1 h2=>
  refine .inr ⟨beq_iff_eq.mp h,_,_,rfl,h1.imp (fun⟨ob,e,h1⟩=>⟨ob,e,h1.1⟩) id⟩
 |str x=>exact .inl (beq_iff_eq.mp h:T="str")
 |lst h1 h2=>exact .inl (.inl ⟨beq_iff_eq.mp h,_,.of h1.1⟩)
 |scr h1 h2=>exact .inl (.inl ⟨beq_iff_eq.mp h,_,.inl (.inr ⟨_,h1.1⟩)⟩)
 |dct h1 h2=>exact .inl (.inr (.inr (.inl ⟨beq_iff_eq.mp h,.inl ⟨_,h1.1⟩⟩)))
 |ref hn=>
  simp only[yV] at h
  split at h
  ·rename_i xs hS
   obtain⟨vs,hv,_⟩:=s.ats _ _ _ hn hS
   exact .inl (.inl ⟨beq_iff_eq.mp h,_,.of hv⟩)
  ·rename_i ks vs hS
   obtain⟨kvs,hv,_⟩:=s.ats _ _ _ hn hS
   exact .inl (.inr (.inr (.inl ⟨beq_iff_eq.mp h,.inl ⟨_,hv⟩⟩)))
  ·cases h
 |_=>cases h
def fg(T:String)(o:a0→D→List D→Option (RV×a0))(f:ME)(m:MA):ME:=fun env S=>(f env S).bind fun x S1=>if yV T S1 x.d then(m env S1).bind fun ds S2=>match o S2 x.d ds with|some (z,S3)=>.ok z S3|none=>.bad else .bad
def xv(Γ:Gm)(o:a0→D→List D→Option (RV×a0))(r:V→List V→Hp→VK→Prop):Prop:=∀ (H:Hp) (μ:Mu) (S S':a0) (x:V) (vs:List V) (dx:D) (ds:List D) (z:RV) (Q:VK),Sim Γ μ H S→Rep Γ H μ x dx→Reps Γ H μ vs ds→o S dx ds=some (z,S')→
 aU Γ μ H Q z S'→r x vs H Q
theorem C7{T:String}{o:a0→D→List D→Option (RV×a0)}{r:V→List V→Hp→VK→Prop}{f:ME}{m:MA}{σ:L2.St}{H:Hp}{Q:VK}(hr:xv Γ o r)(h:ay Γ W (fg T o f m) σ H Q):F6 Γ.K T r (ay Γ W f) (iD Γ W m) σ H Q:=by
 obtain⟨env,S,μ,a,h⟩:=h
 unfold fg at h
 rw[R.sat_bind] at h
 refine aW a (R.sat_imp h (fun r S' q=>q) fun x S' q=>q) fun r1 S1 v1 H1 μ1 x1 rv1 q1=>?_
 obtain⟨s1,p1⟩:=rv1.sim
 split at q1
 ·rename_i hty
  refine⟨Ek s1 p1 hty,?_⟩
  rw[R.sat_bind] at q1
  refine⟨env,S1,μ1,a.next x1 s1,R.sat_imp q1 (fun ds S2 g vs H2 μ2 x2 s2 rs=>?_) fun x S2 g=>g.ext x1⟩
  split at g
  ·rename_i z S3 e
   refine hr H2 μ2 S2 S3 v1 vs _ _ z Q s2 (p1.ext x2) rs e ?_
   exact aU.ext (x1.trans x2) g
  ·exact False.elim g
 ·exact False.elim q1
theorem qm{T id:String}{name:Str}{apos:Pos}{o e:Expr}{es:List Expr}{f:ME}{m:MA}{r:V→List V→Hp→VK→Prop}{g:a0→D→List D→Option (RV×a0)}(hK:X.K=Γ.K)
  (pa:PlainAttrs T) (slot:Slot T name id) (hty:typeOf (.builtin id)=pure (.type "method_descriptor")) (hm:MtR X id r) (hr:xv Γ g r) (ho:PE X o (ay Γ W f)) (ha:PA X (e::es) (iD Γ W m))
  (hbase:attributeBase o name X.env (eval o X.env)=eval o X.env)
  (hfew:((backTo pos (starEach (e::es) X.env)).all (fun x=> !x.1)&&(backToKw pos (keywordEach [] X.env)).all (fun x=>x.1.isSome)
   &&decide ((e::es).length+([]:List Keyword).length+(if([]:List Keyword).isEmpty then 0 else 1)<30))=true)
  (hline:(apos.endLine==pos.line)=true) (hs:(e::es).all notStar=true):PE X (.Call (.Attribute o name apos) (e::es) [] pos) (ay Γ W (fg T g f m)):=
 (Co pa slot hty hm ho ha hbase hfew hline (aE (Jn.mp (show(notStar e&&es.all notStar)=true from hs)).1) (star_any (Jn.mp (show(notStar e&&es.all notStar)=true from hs)).2)).weak fun σ H Q h=>by
  rw[hK]
  exact C7 hr h
def fM(S:a0)(x:D)(ds:List D):Option (RV×a0):=
 match x,ds with
 | .ref n,[d]=>match S[n]? with
  |some (.lst xs)=>if xs.length<16777216 then some (.val .non,S.set n (.lst (xs++[d]))) else none
  |_=>none
 |_,_=>none
theorem tM:xv Γ fM rAppend:=by
 intro H μ S S' x vs dx ds z Q s rx rs h q
 unfold fM at h
 split at h
 ·rename_i n d
  split at h
  ·rename_i xs hS
   split at h
   ·rename_i hl
    cases h
    cases rx with
    |ref hn=>
     obtain⟨v,rfl,rv⟩:=dj rs
     obtain⟨ws,hw,rw'⟩:=s.ats n _ _ hn hS
     obtain⟨x,s'⟩:=eK s hn hS (rw'.append (.cons rv .nil))
     exact⟨_,ws,v,rfl,rfl,hw,by rw[sizeLine_eq,rw'.length];exact hl,q _ _ μ x ⟨s',.non⟩⟩
   ·cases h
  ·cases h
 ·cases h
def eR(S:a0)(x:D)(ds:List D):Option (RV×a0):=
 match x,ds with
 | .ref n,[d]=>match S[n]? with
  |some (.lst xs)=>match dR S d with
   |some ys=>if xs.length+ys.length≤16777216 then some (.val .non,S.set n (.lst (xs++ys))) else none
   |none=>none
  |_=>none
 |_,_=>none
theorem uj:xv Γ eR rExtend:=by
 intro H μ S S' x vs dx ds z Q s rx rs h q
 unfold eR at h
 split at h
 ·rename_i n d
  split at h
  ·rename_i xs hS
   split at h
   ·rename_i ys hy
    split at h
    ·rename_i hl
     cases h
     cases rx with
     |ref hn=>
      obtain⟨v,rfl,rv⟩:=dj rs
      obtain⟨ws,hw,rw'⟩:=s.ats n _ _ hn hS
      obtain⟨b,us,rfl,hb,ru⟩:=bD s rv hy
      obtain⟨x,s'⟩:=eK s hn hS (rw'.append ru)
      exact⟨_,b,ws,us,rfl,rfl,hw,hb,by rw[sizeLine_eq,rw'.length,ru.length];exact hl,q _ _ μ x ⟨s',.non⟩⟩
    ·cases h
   ·cases h
  ·cases h
 ·cases h
end
def iI(g:D→Option PyData):List D→Option (List PyData)
 | []=>some []
 |d::ds=>match g d,iI g ds with|some p,some ps=>some (p::ps)|_,_=>none
def t6:D→Option PyData
 | .int i=>some (.int i)
 | .str x=>some (.str x)
 |_=>none
def ow(S:a0):Nat→D→Option PyData
 |0,_=>none
 |k+1,d=>match d with
  | .non=>some .none
  | .bl b=>some (.bool b)
  | .int i=>some (.int i)
  | .str x=>some (.str x)
  | .tup xs=>(iI (ow S k) xs).map .tuple
  | .lst xs=>(iI (ow S k) xs).map .list
  | .scr xs=>(iI (ow S k) xs).map .list
  | .dct ks vs=>match iI t6 ks,iI (ow S k) vs with|some a,some b=>some (.dict (a.zip b))|_,_=>none
  | .dcn ks vs=>match iI (ow S k) ks,iI (ow S k) vs with|some a,some b=>some (.dict (a.zip b))|_,_=>none
  | .ref n=>match S[n]? with
   |some (.lst xs)=>(iI (ow S k) xs).map .list
   |some (.dct ks vs)=>match iI t6 ks,iI (ow S k) vs with|some a,some b=>some (.dict (a.zip b))|_,_=>none
   |_=>none
  |_=>none
def AO:Nat:=12
def bh(S:a0)(ds:List D):Option RV:=match ds with
 | [d]=>match ow S AO d with
  |some p=>if p.showable&&(decide (p.depth≤60)&&decide (p.shown.length≤16777216)) then some (.val (.str p.shown)) else none
  |none=>none
 |_=>none
section
variable {Γ:Gm}{X:Cx}{pins:List (Addr×Obj)}{σ:L2.St}{H:Hp}{s:Shared}{μ:Mu}{S:a0}
def vN(H:Hp)(h:Heap)(u:Value)(p:PyData):Prop:=∃as,Reads h u p as∧∀a∈as,∃o,H a=some o
def IF(H:Hp)(h:Heap)(us:List Value)(ps:List PyData):Prop:=∃as,ReadsAll h us ps as∧∀a∈as,∃o,H a=some o
theorem fS{g:D→Option PyData}(hg:∀d p v u,Rep Γ H μ v d→g d=some p→RelV v u→vN H s.heap u p):∀ {ds:List D} {ps:List PyData} {vs:List V} {us:List Value},Reps Γ H μ vs ds→iI g ds=some ps→Vals vs us→IF H s.heap us ps
 | [],ps,_,_,r,h,q=>by
  cases r
  cases q
  cases h
  exact⟨[],.nil,fun a h=>absurd h (by simp)⟩
 |d::ds,ps,_,_,r,h,q=>by
  cases r with
  |cons r1 r2=>
   cases q with
   |cons q1 q2=>
    simp only[iI] at h
    split at h
    ·rename_i p ps' e1 e2
     cases h
     obtain⟨as,a1,a2⟩:=hg _ _ _ _ r1 e1 q1
     obtain⟨bs,b1,b2⟩:=fS hg r2 e2 q2
     exact⟨as++bs,.cons a1 b1,fun a h=>(Jv.mp h).elim (a2 a) (b2 a)⟩
    ·cases h
theorem z9{P:Program}{w:World}{k:Key}{v:Value}(h:(mixKind P w).is k v=true):(∃i t,k= .inl i∧v= .int i t)∨∃x t,k= .inr x∧v= .str x t:=by
 have e:=(mixKind P w).inj v
 cases v with
 |int i t=>exact .inl ⟨i,t,e k (.inl i) h (mixKind_int P w i t),rfl⟩
 |str x t=>exact .inr ⟨x,t,e k (.inr x) h (mixKind_str P w x t),rfl⟩
 |_=>exact absurd h (by cases k<;>exact Bool.false_ne_true)
theorem jv{P:Program}{w:World}{h:Heap}:∀ {es:List DictEntry} {vs:List (Key×Value)} {kvs:List (Key×V)} {ps:List PyData},Pairs (mixKind P w) es vs→KV kvs vs→iI t6 (kvs.map fun q=>keyD q.1)=some ps→ReadsAll h (es.map (·.key)) ps []∧Vals (kvs.map (·.2)) (es.map (·.val))
 |_,_,kvs,ps,.nil,r,hp=>by
  cases r
  cases hp
  exact⟨.nil,.nil⟩
 |_,_,kvs,ps,.cons (e:=e) (kv:=kv) hk hv t,r,hp=>by
  cases r with
  |cons r1 r2=>
   rename_i p kvs'
   simp only[JG,iI] at hp
   split at hp
   ·rename_i a as e1 e2
    cases hp
    obtain⟨g1,g2⟩:=jv (h:=h) t r2 e2
    refine⟨?_,.cons (show L2.RelV p.2 e.val by rw[hv];exact r1.2) g2⟩
    have ek:kv.1=p.1:=r1.1.symm
    rw[ek] at hk
    rcases z9 hk with⟨i,tk,h1,h2⟩| ⟨i,tk,h1,h2⟩
    ·rw[h1] at e1
     cases e1
     show ReadsAll h (e.key::_) _ _
     rw[h2]
     exact .cons (as:=[]) (bs:=[]) (.int i tk) g1
    ·rw[h1] at e1
     cases e1
     show ReadsAll h (e.key::_) _ _
     rw[h2]
     exact .cons (as:=[]) (bs:=[]) (.str i tk) g1
   ·cases hp
theorem gW{g:D→Option PyData}:∀ {ds:List D} {ps:List PyData},iI g ds=some ps→ps.length=ds.length
 | [],_,h=>by cases h;rfl
 |d::ds,_,h=>by
  simp only[iI] at h
  split at h
  ·rename_i e2
   cases h
   exact congrArg (· +1) (gW e2)
  ·cases h
theorem sf{g:D→Option PyData}(I:Inv X pins σ H s)(hg:∀d p v u,Rep Γ H μ v d→g d=some p→RelV v u→vN H s.heap u p){a:Addr}{kvs:List (Key×V)}{ds:List D}(hk:H a=some (.dK kvs))(r:Reps Γ H μ (kvs.map (·.2)) ds){p:PyData}
  (h:(match iI t6 (kvs.map fun q=>keyD q.1),iI g ds with|some a,some b=>some (.dict (a.zip b))|_,_=>none)=some p):vN H s.heap (.ref a) p:=by
 split at h
 ·rename_i ks vs e1 e2
  cases h
  obtain⟨_,_,rvs,rk,o,es,ep,h1,h2,h3,h4,h5,h6⟩:=dk_of I.hok hk
  obtain⟨g1,g2⟩:=jv (h:=s.heap) h5 rk e1
  obtain⟨as,g3,g4⟩:=fS hg r e2 g2
  have l1:=gW e1
  have l2:=gW e2
  have l3:=r.length
  have hl:ks.length=vs.length:=by rw[l1,l2, ← l3];simp
  refine⟨a::([]++as),.dict (as:=[]) (bs:=as) h1 h2.1 h3 ?_ ?_,fun b hb=>?_⟩
  ·rw[List.map_fst_zip (by omega)];exact g1
  ·rw[List.map_snd_zip (by omega)];exact g3
  ·rcases Jj.mp hb with z|z
   ·exact⟨_,z▸hk⟩
   ·exact g4 b z
 ·cases h
theorem sS:∀ {xs:List (NestedKey×Addr×V)} {ys:List (NestedKey×Addr×Value)},Paired (fun(p:NestedKey×Addr×V) (q:NestedKey×Addr×Value)=>p.1=q.1∧p.2.1=q.2.1∧L2.RelV p.2.2 q.2.2) xs ys→
  Vals (xs.map fun x=>.ref x.2.1) (ys.map fun y=>.ref y.2.1)∧Vals (xs.map (·.2.2)) (ys.map (·.2.2))
 |_,_,.nil=>⟨.nil,.nil⟩
 |_,_,.cons h t=>by
  obtain⟨h1,h2⟩:=sS t
  refine⟨.cons ?_ h1,.cons h.2.2 h2⟩
  show L2.RelV (V.ref _) (Value.ref _)
  rw[h.2.1];exact rfl
theorem xS{g:D→Option PyData}(I:Inv X pins σ H s)(hg:∀d p v u,Rep Γ H μ v d→g d=some p→RelV v u→vN H s.heap u p){a:Addr}{xs:rl}{ks ds:List D}{w0:World}(hk:H a=some (yR w0 a xs))(rk:Reps Γ H μ (xs.1.map fun x=>.ref x.2.1) ks)(r:Reps Γ H μ (xs.1.map (·.2.2)) ds){p:PyData}
  (h:(match iI g ks,iI g ds with|some a,some b=>some (.dict (a.zip b))|_,_=>none)=some p):vN H s.heap (.ref a) p:=by
 split at h
 ·rename_i as bs e1 e2
  cases h
  obtain⟨⟨h0,hz,ys,es,ep,pr,h1,h2,h3,nd,hw⟩,_⟩:=I.hok a _ hk
  obtain⟨q1,q2⟩:=sS pr
  obtain⟨us,g1,g2⟩:=fS hg rk e1 q1
  obtain⟨ws,g3,g4⟩:=fS hg r e2 q2
  have l1:=gW e1
  have l2:=gW e2
  have l3:=rk.length
  have l4:=r.length
  have hl:as.length=bs.length:=by rw[l1,l2, ← l3, ← l4];simp
  refine⟨a::(us++ws),.dict (as:=us) (bs:=ws) h1 h2.1 h3 ?_ ?_,fun b hb=>?_⟩
  ·rw[List.map_fst_zip (by omega),hw,List.map_map];exact g1
  ·rw[List.map_snd_zip (by omega),hw,List.map_map];exact g3
  ·rcases Jj.mp hb with z|z
   ·exact⟨_,z▸hk⟩
   ·exact(Jv.mp z).elim (g2 b) (g4 b)
 ·cases h
theorem mx(I:Inv X pins σ H s){a:Addr}{vs:List V}(hq:SqL X.K H a vs)(ht:∃o,H a=some o){g:D→Option PyData}(hg:∀d p v u,Rep Γ H μ v d→g d=some p→RelV v u→vN H s.heap u p){ds:List D}{p:PyData}(r:Reps Γ H μ vs ds)
  (h:(iI g ds).map PyData.list=some p):vN H s.heap (.ref a) p:=by
 obtain⟨ps,e,rfl⟩:=Jh.mp h
 obtain⟨its,rv,⟨o,n,ho,hc,hdn,hdt⟩,hlen⟩:=I.list hq
 obtain⟨as,g1,g2⟩:=fS hg r e rv
 exact⟨a::as,.list ho hc hdt g1,fun b hb=>(Jj.mp hb).elim (fun z=>z▸ht) (g2 b)⟩
theorem C9(I:Inv X pins σ H s){a:Addr}{vs:List V}(hq:SqT X.K H a vs){g:D→Option PyData}(hg:∀d p v u,Rep Γ H μ v d→g d=some p→RelV v u→vN H s.heap u p){ds:List D}{p:PyData}(r:Reps Γ H μ vs ds)
  (h:(iI g ds).map PyData.tuple=some p):vN H s.heap (.ref a) p:=by
 obtain⟨ps,e,rfl⟩:=Jh.mp h
 obtain⟨its,rv,⟨o,ho,hc,n,hdt⟩,hlen⟩:=I.tuple hq
 obtain⟨as,g1,g2⟩:=fS hg r e rv
 exact⟨as,.tuple ho hc hdt g1,g2⟩
theorem Bz(hK:X.K=Γ.K)(I:Inv X pins σ H s)(sm:Sim Γ μ H S):∀ (k:Nat) (d:D) (p:PyData) (v:V) (u:Value),Rep Γ H μ v d→ow S k d=some p→RelV v u→vN H s.heap u p
 |0,_,_,_,_,_,h,_=>by cases h
 |k+1,d,p,v,u,r,h,q=>by
  have ih:=Bz hK I sm k
  have none:∀ {u:Value} {p:PyData},Reads s.heap u p []→vN H s.heap u p:=fun h=>⟨[],h,fun a h=>absurd h (by simp)⟩
  cases r with
  |non=>cases h;cases q;exact none .none
  |bl b=>cases h;cases q;exact none (.bool b)
  |int i=>cases h;obtain⟨t,rfl⟩:=q;exact none (.int i t)
  |str x=>cases h;obtain⟨t,rfl⟩:=q;exact none (.str x t)
  |tup h1 h2=>
   cases q
   refine C9 I ?_ ih h2 h
   rw[hK]
   rcases h1 with h1|h1
   ·obtain⟨ob,_,h1⟩:=h1
    exact .inl (.inr ⟨_,h1.1⟩)
   ·exact h1.sq
  |lst h1 h2=>
   cases q
   exact mx I (by rw[hK];exact .of h1.1) ⟨_,h1.1⟩ ih h2 h
  |scr h1 h2=>
   cases q
   exact mx I (by rw[hK];exact .inl (.inr ⟨_,h1.1⟩)) ⟨_,h1.1⟩ ih h2 h
  |dct h1 h2=>
   cases q
   exact sf I ih h1.1 h2 h
  |dcn h1 _ h3 h4=>
   cases q
   exact xS I ih h1.1 h3 h4 h
  |ref hn=>
   cases q
   simp only[ow] at h
   split at h
   ·rename_i xs hS
    obtain⟨vs,hv,rs⟩:=sm.ats _ _ _ hn hS
    exact mx I (by rw[hK];exact .of hv) ⟨_,hv⟩ ih rs h
   ·rename_i ks vs hS
    obtain⟨kvs,hv,rfl,rs⟩:=sm.ats _ _ _ hn hS
    exact sf I ih hv rs h
   ·cases h
  |_=>cases h
theorem Ej(I:Inv X pins σ H s)(hs:(X.K.lookup sysModules).isSome=true):H sysModules=none:=by
 obtain⟨o,e⟩:=Option.isSome_iff_exists.mp hs
 exact(I.bs _ _ (I.ok.mod.kin _ _ e)).2
end
def BR(Γ:Gm):List V→Hp→VK→Prop:=fun xs H Q=>∃v d S μ k p,xs=[v]∧Rep Γ H μ v d∧Sim Γ μ H S∧ow S k d=some p∧p.showable=true∧p.depth≤60∧p.shown.length≤sizeLine∧Q (.str p.shown) H
section
variable {Γ:Gm}{X:Cx}{W:WX}{pos:Pos}
theorem uL{k:Nat}(hK:X.K=Γ.K)(hs:(X.K.lookup sysModules).isSome=true)(hr:RoomG k X.A):CallR X (.builtin "repr") (BR Γ):=by
 intro pins s σ H xs us Q I r h
 obtain⟨v,d,S,μ,k,p,rfl,rv,sm,hp,h1,h2,h3,q⟩:=h
 obtain⟨u,rfl,ru⟩:=vals1 r
 obtain⟨as,g1,g2⟩:=Bz hK I sm k d p v u rv hp ru
 have hu:=hr.room.un
 have hsm:sysModules∉as:=fun z=>by
  obtain⟨o,ho⟩:=g2 _ z
  rw[Ej I hs] at ho
  cases ho
 cases g1 with
 |none=>exact PySem.P.repr_of_none ⟨.str _,H,I.tok _,⟨_,rfl⟩,by simpa only[PyData.shown] using q⟩
 |bool b=>exact PySem.P.repr_of_bool ⟨.str _,H,I.tok _,⟨_,rfl⟩,by simpa only[PyData.shown] using q⟩
 |int i t=>exact PySem.P.repr_of_int (by simpa [PyData.showable] using h1) ⟨.str _,H,I.tok _,⟨_,rfl⟩,by simpa only[PyData.shown] using q⟩
 |str x t=>exact PySem.P.repr_of_str ⟨.str _,H,I.tok _,⟨_,rfl⟩,by simpa only[PyData.shown] using q⟩ (by simpa only[PyData.shown] using h3)
 |list a1 a2 a3 a4=>exact repr_of_reads' (.list a1 a2 a3 a4) h1 (fun _=>hsm) hr.gd (by omega) (fun _ _ e=>e) (fun h' u tk hk=>⟨.str _,H,I.kept hk,⟨_,rfl⟩,q⟩) h3
 |tuple a1 a2 a3 a4=>exact repr_of_reads' (.tuple a1 a2 a3 a4) h1 (fun _=>hsm) hr.gd (by omega) (fun _ _ e=>e) (fun h' u tk hk=>⟨.str _,H,I.kept hk,⟨_,rfl⟩,q⟩) h3
 |dict a1 a2 a3 a4 a5=>exact repr_of_reads' (.dict a1 a2 a3 a4 a5) h1 (fun _=>hsm) hr.gd (by omega) (fun _ _ e=>e) (fun h' u tk hk=>⟨.str _,H,I.kept hk,⟨_,rfl⟩,q⟩) h3
theorem za:eF Γ bh (BR Γ):=by
 intro H μ S vs ds z Q s rs h q
 unfold bh at h
 split at h
 ·rename_i d
  split at h
  ·rename_i p hp
   split at h
   ·rename_i hc
    cases h
    rw[Jy,Jy,JB,JB] at hc
    obtain⟨v,rfl,rv⟩:=dj rs
    exact⟨v,d,S,μ,_,p,rfl,rv,s,hp,hc.1,hc.2.1,by rw[sizeLine_eq];exact hc.2.2,q.here s (.str _)⟩
   ·cases h
  ·cases h
 ·cases h
def G8(K:PySem.W.Frag)(H:Hp)(x:V)(t:Value):Prop:=TyX K H x t∨(t= .type "dict"∧∃a xs w0,x= .ref a∧H a=some (yR w0 a xs))
theorem mq{X:Cx}{pins:List (Addr×Obj)}{σ:L2.St}{H:Hp}{s:Shared}{x:V}{u t:Value}(I:Inv X pins σ H s)(rx:L2.RelV x u)(ty:G8 X.K H x t):∃P:Heap→Prop,PySem.W.KitX X.K u t P∧P s.heap∧u≠ .builtin "__main__.__loader__#opaque":=by
 rcases ty with ty| ⟨rfl,a,xs,w0,rfl,e⟩
 ·exact kit_of I rx ty
 ·cases(show u=Value.ref a from rx)
  obtain⟨⟨_,_,ys,es,ep,_,h1,h2,_⟩,_⟩:=I.hok a _ e
  exact⟨_,PySem.W.kitx_dict,⟨xs.2,h1,h2.1⟩,fun z=>nomatch z⟩
def Fl(K:PySem.W.Frag):List V→Hp→VK→Prop:=fun xs H Q=>∃ (x c:V) (t u:Value) (b:Bool),xs=[x,c]∧ClsV c u∧G8 K H x t∧PySem.W.kitOne K t u=some b∧Q (.bl b) H
def D4(K:PySem.W.Frag):List V→Hp→VK→Prop:=fun xs H Q=>∃ (x:V) (tp:Addr) (cs:List V) (t:Value) (us:List Value) (b:Bool),xs=[x,.ref tp]∧H tp=some (.tup cs)∧Paired ClsV cs us∧G8 K H x t∧PySem.W.kitAny K t us=some b∧Q (.bl b) H
section
variable {X:Cx}
theorem lQ:CallR X (.builtin "isinstance") (Fl X.K):=by
 intro pins s σ H xs us Q I r h
 obtain⟨x,c,t,u,b,rfl,k,ty,e,q⟩:=h
 obtain⟨u1,u2,rfl,r1,r2⟩:=vals2 r
 have e2:=k.eq r2
 subst e2
 obtain⟨P,Z,p,hx⟩:=mq I r1 ty
 exact PySem.W.kia_one Z I.kIn p e hx fun tk=>⟨.bl b,H,I.tok tk,rfl,q⟩
theorem rE:CallR X (.builtin "isinstance") (D4 X.K):=by
 intro pins s σ H xs us Q I r h
 obtain⟨x,tp,cs,t,ws,b,rfl,hT,k,ty,e,q⟩:=h
 obtain⟨u1,u2,rfl,r1,r2⟩:=vals2 r
 cases(show u2=Value.ref tp from r2)
 obtain⟨P,Z,p,hx⟩:=mq I r1 ty
 obtain⟨_,its,rv,o,h1,h2,n,h3⟩:=(show ObjOk X.prog X.w H s.heap tp (.tup cs) from I.hok tp _ hT)
 have e3:=ClsV.all k rv
 subst e3
 obtain⟨oc,od,dt,sl⟩:=o
 simp only at h2 h3
 subst h2 h3
 exact PySem.W.kia_tup Z I.kIn p h1 e hx fun tk=>⟨.bl b,H,I.tok tk,rfl,q⟩
end
def tyOf(S:a0):D→Option String
 | .non=>some "NoneType"
 | .bl _=>some "bool"
 | .int _=>some "int"
 | .str _=>some "str"
 | .tup _=>some "tuple"
 | .lst _=>some "list"
 | .scr _=>some "list"
 | .dct _ _=>some "dict"
 | .dcn _ _=>some "dict"
 | .ref n=>match S[n]? with|some (.lst _)=>some "list" |some (.dct _ _)=>some "dict" |some (.dcn _ _)=>some "dict" |_=>none
 |_=>none
theorem iq{H:Hp}{μ:Mu}{S:a0}{v:V}{d:D}{t:String}(sm:Sim Γ μ H S)(r:Rep Γ H μ v d)(h:tyOf S d=some t):G8 Γ.K H v (.type t):=by
 cases r with
 |non=>cases h;exact .inl<| .base .non
 |bl b=>cases h;exact .inl<| .base (.bl b)
 |int i=>cases h;exact .inl<| .base (.int i)
 |str x=>cases h;exact .inl<| .base (.str x)
 |tup h1 h2=>
  cases h
  rcases h1 with⟨ob,_,h1⟩| ⟨o,its,n,k1,k2,k3,k4⟩
  ·exact .inl (.fTuple h1.1)
  ·exact .inl (.kTuple k1 k2)
 |lst h1 h2=>cases h;exact .inl (.base (.lst h1.1))
 |scr h1 h2=>cases h;exact .inl (.base (.frz h1.1))
 |dct h1 h2=>cases h;exact .inl (.base (.dK h1.1))
 |dcn h1 h2 h3 h4=>cases h;exact .inr ⟨rfl,_,_,_,rfl,h1.1⟩
 |ref hn=>
  simp only[tyOf] at h
  split at h
  ·rename_i xs hS
   cases h
   obtain⟨vs,hv,rs⟩:=sm.ats _ _ _ hn hS
   exact .inl (.base (.lst hv))
  ·rename_i ks vs hS
   cases h
   obtain⟨kvs,hv,_,rs⟩:=sm.ats _ _ _ hn hS
   exact .inl (.base (.dK hv))
  ·rename_i ks vs hS
   cases h
   obtain⟨kvs,hv,_⟩:=sm.ats _ _ _ hn hS
   exact .inr ⟨rfl,_,_,_,rfl,hv⟩
  ·cases h
 |_=>cases h
def dk(T:String)(S:a0)(d:D):Option Bool:=(tyOf S d).bind fun t=>kitB t T
def dA(o:a0→D→Option Bool)(f:ME):ME:=fun env S=>(f env S).bind fun r S1=>match o S1 r.d with|some b=>.ok (.val (.bl b)) S1|none=>.bad
theorem qi{x:Str}{T:String}(hg:Gl X x)(hm:X.mg x=none)(hv:bootBuiltins x=some (.type T))(hn:x≠ "__name__")(hdb:(x==("__debug__":Str))=false):PE X (.Name x pos) (tC (.ty T)):=
 ⟨fun pins s σ H Q I h=>ld_blt I hg hm hv ⟨.ty T,H,I,rfl,h⟩ hn hdb⟩
theorem Ef{x:Str}{T:String}{p p2:Pos}{e:Expr}{f:ME}(hK:X.K=Γ.K)(hg:Gl X "isinstance")(hm:X.mg "isinstance"=none)(he:PE X e (ay Γ W f))(hs:notStar e=true)(hgT:Gl X x)(hmT:X.mg x=none)(hv:bootBuiltins x=some (.type T))(hn:x≠ "__name__")
  (hdb:(x==("__debug__":Str))=false):PE X (.Call (.Name "isinstance" p) [e,.Name x p2] [] pos) (ay Γ W (dA (dk T) f)):=
 (pe_callB lQ hg hm (by rfl) (pa_cons he (pa_cons (qi hgT hmT hv hn hdb) pa_nil rfl) (aE hs)) (by decide) (by decide) (aE hs) (by rfl)).weak fun σ H Q h=>by
  obtain⟨env,S,μ,a,h⟩:=h
  unfold dA at h
  rw[R.sat_bind] at h
  refine aW a h fun r1 S1 v1 H1 μ1 x1 rv1 q1=>?_
  obtain⟨s1,p1⟩:=rv1.sim
  split at q1
  ·rename_i b hb
   unfold dk at hb
   obtain⟨t,ht,hk⟩:=Option.bind_eq_some_iff.mp hb
   rw[hK]
   exact⟨v1,.ty T,.type t,.type T,b,rfl,.ty T,iq s1 p1 ht,kit_ty hk,q1 _ H1 μ1 x1 ⟨s1,.bl b⟩⟩
  ·exact False.elim q1
def mu(T U:String)(S:a0)(d:D):Option Bool:=match dk T S d with|some true=>some true|some false=>dk U S d|none=>none
theorem zU{x y:Str}{T U:String}{p p2 p3 p4:Pos}{k:Nat}{e:Expr}{f:ME}(hK:X.K=Γ.K)(hg:Gl X "isinstance")(hm:X.mg "isinstance"=none)(he:PE X e (ay Γ W f))(hs:notStar e=true)
  (hgT:Gl X x) (hmT:X.mg x=none) (hv:bootBuiltins x=some (.type T)) (hn:x≠ "__name__") (hdb:(x==("__debug__":Str))=false)
  (hgU:Gl X y) (hmU:X.mg y=none) (hvU:bootBuiltins y=some (.type U)) (hnU:y≠ "__name__") (hdbU:(y==("__debug__":Str))=false):
  PE X (.Call (.Name "isinstance" p) [e,.Tuple [.Name x p2,.Name y p3] k p4] [] pos) (ay Γ W (dA (mu T U) f)):=
 (pe_callB rE hg hm (by rfl) (pa_cons he (pa_cons (pe_tup (pa_cons (qi hgT hmT hv hn hdb) (pa_cons (qi hgU hmU hvU hnU hdbU) pa_nil rfl) rfl)) pa_nil rfl) (aE hs)) (by decide) (by decide) (aE hs) (by rfl)).weak fun σ H Q h=>by
  obtain⟨env,S,μ,a,h⟩:=h
  unfold dA at h
  rw[R.sat_bind] at h
  refine aW a h fun r1 S1 v1 H1 μ1 x1 rv1 q1=>?_
  obtain⟨s1,p1⟩:=rv1.sim
  split at q1
  ·rename_i b hb
   rw[hK]
   refine⟨by rw[sizeLine_eq];show 2≤_;decide,fun tp htp=>?_⟩
   have s2:=s1.laid htp (.tup [V.ty T,V.ty U])
   have p2:=p1.ext (Ext.laid htp (.tup [V.ty T,V.ty U]))
   have fin:Q (.bl b) (upd H1 tp (.tup [V.ty T,V.ty U])):=q1 _ _ μ1 (x1.trans (Ext.laid htp _)) ⟨s2,.bl b⟩
   unfold mu at hb
   split at hb
   ·rename_i h1
    cases hb
    obtain⟨t,ht,hk⟩:=Option.bind_eq_some_iff.mp h1
    refine⟨v1,tp,[.ty T,.ty U],.type t,[.type T,.type U],true,rfl,upd_same,.cons (.ty T) (.cons (.ty U) .nil),iq s2 p2 ht,?_,fin⟩
    unfold PySem.W.kitAny
    rw[kit_ty hk]
   ·rename_i h1
    obtain⟨t,ht,hk⟩:=Option.bind_eq_some_iff.mp h1
    obtain⟨t',ht',hk'⟩:=Option.bind_eq_some_iff.mp hb
    rw[ht] at ht'
    cases ht'
    refine⟨v1,tp,[.ty T,.ty U],.type t,[.type T,.type U],b,rfl,upd_same,.cons (.ty T) (.cons (.ty U) .nil),iq s2 p2 ht,?_,fin⟩
    refine kitAny_cons (kit_ty hk) (fun _=>?_) fun z=>by cases z
    unfold PySem.W.kitAny
    rw[kit_ty hk']
    cases b<;>rfl
   ·cases hb
  ·exact False.elim q1
end
def oQ(S:a0):D→Option Nat
 | .ins c _=>some c
 | .ref n=>match S[n]? with|some (.slo c _)=>some c|_=>none
 |_=>none
section
variable {Γ:Gm}{X:Cx}{W:WX}{pos:Pos}
theorem iO{H:Hp}{μ:Mu}{S:a0}{v:V}{d:D}{c:Nat}(sm:Sim Γ μ H S)(r:Rep Γ H μ v d)(h:oQ S d=some c):∃a dx vs,v= .ref a∧SlX.Slt H a (Γ.cls c) dx vs:=by
 cases r with
 |ins h1 h2 h3=>cases h;exact⟨_,_,_,rfl,.inr ⟨h1.1,h2.1⟩⟩
 |ref hn=>
  simp only[oQ] at h
  split at h
  ·rename_i c' fs hS
   cases h
   obtain⟨dx,vs,h1,h2,h3⟩:=sm.ats _ _ _ hn hS
   cases h2 with
   |xdd h2=>exact⟨_,dx,vs,rfl,.inr ⟨h1,h2.1⟩⟩
  ·cases h
 |_=>cases h
def qX(sx:Nat→Option Nat)(S:a0):D→Option D
 | .ins c fs=>(sx c).bind fun i=>fs[i]?
 | .ref n=>match S[n]? with|some (.slo c fs)=>(sx c).bind fun i=>(fs[i]?).join|_=>none
 |_=>none
def cG(sx:Nat→Option Nat)(f:ME):ME:=fun env S=>(f env S).bind fun r S1=>match qX sx S1 r.d with|some d=>.ok (.val d) S1|none=>.bad
def vp(Γ:Gm)(f:Str)(sx:Nat→Option Nat):Prop:=∀c i,sx c=some i→SlX.SCls Γ.K (Γ.cls c)∧∃p,SlX.Slot1 Γ.K (Γ.cls c) f p i
theorem C3{e:Expr}{f:Str}{fe:ME}{sx:Nat→Option Nat}(hK:X.K=Γ.K)(hsx:vp Γ f sx)(he:PE X e (ay Γ W fe))(hb:attributeBase e f X.env (eval e X.env)=eval e X.env):PE X (.Attribute e f pos) (ay Γ W (cG sx fe)):=
 (SlX.pe_sl he hb).weak fun σ H Q h=>by
  obtain⟨env,S,μ,a,h⟩:=h
  unfold cG at h
  rw[R.sat_bind] at h
  refine aW a h fun r1 S1 v1 H1 μ1 x1 rv1 q1=>?_
  obtain⟨s1,p1⟩:=rv1.sim
  split at q1
  ·rename_i d hd
   generalize r1.d=dr at p1 hd
   rw[hK]
   cases p1 with
   |ins h1 h2 h3=>
    obtain⟨i,hi,hf⟩:=Option.bind_eq_some_iff.mp hd
    obtain⟨k1,p,k2⟩:=hsx _ i hi
    obtain⟨v,hv,rv⟩:=h3.get hf
    refine⟨_,_,_,p,_,i,v,rfl,.inr ⟨h1.1,h2.1⟩,k1,k2,?_,q1 _ H1 μ1 x1 ⟨s1,rv⟩⟩
    rw[JR,hv];rfl
   |ref hn=>
    simp only[qX] at hd
    split at hd
    ·rename_i c fs hS
     obtain⟨i,hi,hf⟩:=Option.bind_eq_some_iff.mp hd
     obtain⟨k1,p,k2⟩:=hsx _ i hi
     obtain⟨dx,vs,h1,h2,h3⟩:=s1.ats _ _ _ hn hS
     have hf':fs[i]? =some (some d):=by
      cases e:fs[i]? with
      |none=>rw[e] at hf;cases hf
      |some o=>rw[e] at hf;exact congrArg some hf
     obtain⟨v,hv,rv⟩:=h3.2 i d hf'
     cases h2 with
     |xdd h2=>exact⟨_,_,dx,p,vs,i,v,rfl,.inr ⟨h1,h2.1⟩,k1,k2,hv,q1 _ H1 μ1 x1 ⟨s1,rv⟩⟩
    ·cases hd
   |_=>cases hd
  ·exact False.elim q1
def ue{α:Type}(i:Nat)(y:α)(vs:List (Option α)):List (Option α):=(vs++List.replicate (i+1-vs.length) none).set i (some y)
def xi(sx:Nat→Option Nat)(S:a0)(o v:D):Option a0:=match o with
 | .ref n=>match S[n]? with
  |some (.slo c fs)=>(sx c).map fun i=>S.set n (.slo c (ue i v fs))
  |_=>none
 |_=>none
def sG(sx:Nat→Option Nat)(fo fv:ME):MS:=fun env S=>(fv env S).then env fun v S1=>(fo env S1).then env fun o S2=>match xi sx S2 o.d v.d with
 |some S3=>.nx env S3
 |none=>.bad
theorem mG.put{H:Hp}{μ:Mu}{vs:List (Option V)}{fs:List (Option D)}{v:V}{d:D}(h:mG Γ H μ vs fs)(r:Rep Γ H μ v d)(i:Nat):mG Γ H μ (ue i v vs) (ue i d fs):=by
 obtain⟨hl,h⟩:=h
 refine⟨by unfold ue;simp[hl],fun j e hj=>?_⟩
 unfold ue at hj ⊢
 by_cases e1:j=i
 ·subst e1
  have hlt:j< (fs++List.replicate (j+1-fs.length) (none:Option D)).length:=by simp;omega
  have hlt2:j< (vs++List.replicate (j+1-vs.length) (none:Option V)).length:=by simp;omega
  rw[JH hlt] at hj
  cases hj
  exact⟨v,by rw[JH hlt2],r⟩
 ·rw[JE (Ne.symm e1)] at hj
  by_cases e2:j<fs.length
  ·rw[Jp e2] at hj
   obtain⟨w,h1,h2⟩:=h j e hj
   exact⟨w,by rw[JE (Ne.symm e1),Jp (by omega)];exact h1,h2⟩
  ·rw[JM (by omega),List.getElem?_replicate] at hj
   split at hj<;>cases hj
theorem CZ{H:Hp}{a C dx:Addr}{vs:List (Option V)}(h:H dx=some (.xd [])):SlX.slH H a C dx vs=upd H a (SlX.SlO a C dx vs):=by
 unfold SlX.slH
 have e:upd H dx (.xd [])=H:=by
  funext b
  by_cases hb:b=dx
  ·rw[hb,upd_same,h]
  ·rw[upd_ne hb]
 rw[e]
theorem Aj{o e:Expr}{f:Str}{fo fv:ME}{pos':Pos}{sx:Nat→Option Nat}(hK:X.K=Γ.K)(hsx:vp Γ f sx)(ho:PE X o (ay Γ W fo))(hv:PE X e (ay Γ W fv))(hs:swapsWith e (some (.Attribute o f pos')) pos.line X.env=pure false):
  PS X (.Assign [.Attribute o f pos'] e pos) (dC Γ W (sG sx fo fv)):=
 (SlX.ps_sl ho hv hs).weak fun Z σ H h=>by
  obtain⟨env,S,μ,a,h⟩:=h
  refine dN a h fun rv S1 v H1 μ1 x1 pv g1=>?_
  have a1:=a.next x1 pv.sim.1
  refine dN a1 g1 fun ro S2 ov H2 μ2 x2 po g2=>?_
  have a2:=a1.next x2 po.sim.1
  split at g2
  ·rename_i S3 e3
   have pr:=po.sim.2
   generalize ro.d=dr at pr e3
   cases pr with
   | @ref b n hn=>
    simp only[xi] at e3
    split at e3
    ·rename_i c fs hS
     obtain⟨i,hi,rfl⟩:=Jh.mp e3
     obtain⟨k1,p,k2⟩:=hsx _ i hi
     obtain⟨dx,vs,h1,h2,h3⟩:=a2.sim.ats _ _ _ hn hS
     have h2':H2 dx=some (.xd []):=by cases h2 with|xdd h2=>exact h2.1
     rw[hK]
     refine⟨_,_,dx,p,vs,i,rfl,.inr ⟨h1,h2'⟩,k1,k2,?_⟩
     rw[CZ h2']
     have xe:Ext Γ μ2 H2 μ2 (upd H2 b (SlX.SlO b (Γ.cls c) dx (SlX.putS i v vs))):=by
      obtain⟨m1,m2,m3⟩:=i5 (a2.sim.ats _ _ _ hn hS)
      exact Ext.write (Js hn) _ m2 m3
     obtain⟨x4,s4⟩:=a2.sim.write (ob':=.slo c (ue i rv.d fs)) hn hS (SlX.SlO b (Γ.cls c) dx (SlX.putS i v vs)) ⟨dx,SlX.putS i v vs,upd_same,h2.ext xe,(h3.put (pv.sim.2.ext x2) i).map fun r=>r.ext xe⟩
     exact g2 σ _ μ2 x4 (a2.next x4 s4)
    ·cases e3
   |_=>cases e3
  ·exact False.elim g2
def tMethG(C:Addr)(sp:Sp)(dvs:List V)(E:L2.St→XK)(ta:TE)(t:TA):TE:=fun σ H Q=>ta σ H fun x H1=>∃a dx vs,x= .ref a∧SlX.Slt H1 a C dx vs∧t σ H1 fun ws H2=>sp ((x::ws)++dvs) H2 Q (E σ)
theorem xW{CX:CXT}{k:Nat}{C g:Addr}{fd:FuncData}{ps:List Str}{sp:Sp}{dvs:List V}{ds:List Value}{E:L2.St→XK}{pl:Sem Bool}{o e:Expr}{es:List Expr}{m:Str}{apos:Pos}{ta:TE}{t:TA}(he:PE X o ta)(c:SlX.SCls X.K C)(hm:Meth X.K C m g)
  (F:FnG X.prog X.w X.K X.mg X.base CX k g fd ps sp) (hr:RoomG k X.A) (hb:Binds X.K fd ps ds) (hd:Vals dvs ds) (hx:∀σ,PassesAt CX X σ (E σ)) (ha:PA X (e::es) t)
  (hst:starEach (e::es) X.env=(false,eval e X.env)::starEach es X.env) (hpl:(backTo pos (starEach es X.env)).any (·.1)=false)
  (ht:eval (.Call (.Attribute o m apos) (e::es) [] pos) X.env=(do
   let ov ← eval o X.env
   standAt apos.atName
   let(f,first) ← holding [ov] (getMethod ov m pl)
   callWith pos f first (backTo pos (starEach (e::es) X.env)) (backToKw pos (keywordEach [] X.env)))):
  PE X (.Call (.Attribute o m apos) (e::es) [] pos) (tMethG C sp dvs E ta t):=by
 refine⟨fun pins s σ H Q I h=>?_⟩
 refine PySem.W.methodCall_KW (pl:=pl) (thn (he.run pins s σ H _ I h) fun u s1 ⟨x,H1,I1,rx,a,dx,vs,ex,hsl,q⟩=>?_) ht
 subst ex
 obtain rfl:u=Value.ref a:=rx
 refine SlX.getmethsl_ok I1 hsl c hm ?_
 refine PySem.W.callWith_K (first:=[.ref a]) (h₀:=X.base) I.ok.mod.kin hm.kp (thn (ha.run pos pins s1 σ H1 _ I1 q) fun us s2 ⟨ws,H2,I2,r,q2⟩=>⟨I2.kIn,?_⟩) hst hpl
 exact wpAny_call (gO (us:=.ref a::us) (vs:=.ref a::ws) F hr hb hd (hx σ) I2 (.cons rfl r) q2)
def yU(c:Nat)(S:a0)(d:D):Bool:=oQ S d==some c
def fE(c i:Nat)(g:Cfg)(dfl:List D)(f:ME)(m:MA):ME:=fun env S=>(f env S).bind fun r S1=>if yU c S1 r.d then(m env S1).bind fun ds S2=>g.call i ((r.d::ds)++dfl) S2 else .bad
theorem yr{c i:Nat}{g:Cfg}{dfl:List D}{dvs:List V}{n:Nat}{f:ME}{m:MA}{σ:L2.St}{H:Hp}{Q:VK}(hd:∀H μ,Reps Γ H μ dvs dfl)(hlen:∀ds S,(g.call i ds S).sat (fun _ _=>True) (fun _ _=>True)→ds.length=n)(h:ay Γ W (fE c i g dfl f m) σ H Q):
  tMethG (Γ.cls c) (jd Γ (g.call i) n) dvs (fun σ=>WE W σ) (ay Γ W f) (iD Γ W m) σ H Q:=by
 obtain⟨env,S,μ,a,h⟩:=h
 unfold fE at h
 rw[R.sat_bind] at h
 refine aW a (R.sat_imp h (fun r S' q=>q) fun x S' q=>q) fun r1 S1 v1 H1 μ1 x1 rv1 q1=>?_
 obtain⟨s1,p1⟩:=rv1.sim
 split at q1
 ·rename_i hc
  obtain⟨b,dx,vs,rfl,hsl⟩:=iO s1 p1 (beq_iff_eq.mp hc)
  refine⟨b,dx,vs,rfl,hsl,?_⟩
  rw[R.sat_bind] at q1
  refine⟨env,S1,μ1,a.next x1 s1,R.sat_imp q1 (fun ds S2 q2 ws H2 μ2 x2 s2 rs=>?_) fun x S' q=>q.ext x1⟩
  have rr:Reps Γ H2 μ2 ((.ref b::ws)++dvs) ((r1.d::ds)++dfl):=(Reps.cons (p1.ext x2) rs).append (hd H2 μ2)
  refine⟨by rw[rr.length];exact hlen _ S2 (R.sat_imp q2 (fun _ _ _=>trivial) fun _ _ _=>trivial),_,S2,μ2,s2,(x1.trans x2).tabs a.tabs,rr,R.sat_imp q2 (fun r S3 p=>aU.ext (x1.trans x2) p) fun y S3 p=>?_⟩
  exact fun cls dx' H3 μ3 x3 s3 xa=>p cls dx' H3 μ3 ((x1.trans x2).trans x3) s3 xa
 ·exact False.elim q1
end
theorem nG{A:Around}{C:Addr}{us:List Value}{kw:List (Str×Value)}:(A.under (.builtin "type.__call__" ⟨.ref C::us,kw⟩)).guards=A.guards:=by
 have hg:(Code.builtin "type.__call__" ⟨.ref C::us,kw⟩).guards=[]:=by
  unfold Code.guards
  rw[if_neg]
  show ¬guardIds.contains "type.__call__"=true
  decide
 show pushGuards (Code.builtin "type.__call__" ⟨.ref C::us,kw⟩).guards A.guards=A.guards
 rw[hg]
 rfl
theorem RoomG.make{k:Nat}{A:Around}(r:RoomG (k+1) A)(C:Addr)(us:List Value)(kw:List (Str×Value)):RoomG k (A.under (.builtin "type.__call__" ⟨.ref C::us,kw⟩)):=⟨r.room.make C us kw,by rw[nG];exact r.gd⟩
section
variable {X:Cx}{CX:CXT}{k:Nat}{C f:Addr}{fd:FuncData}{ps:List Str}{sp:Sp}{dvs:List V}{ds:List Value}{E:L2.St→XK}{x:Str}{p pos:Pos}{e:Expr}{es:List Expr}{t:TA}{σ:L2.St}
theorem rD{H:Hp}{a dx C:Addr}(h:dx≠a):SlX.slH (upd (upd H dx (.own a)) a (.ins C dx [])) a C dx []=upd (upd H dx (.xd [])) a (SlX.SlO a C dx []):=by
 unfold SlX.slH
 funext b
 by_cases hb:b=a
 ·rw[hb,upd_same,upd_same]
 ·rw[upd_ne hb,upd_ne hb]
  by_cases hd:b=dx
  ·rw[hd,upd_same,upd_same]
  ·rw[upd_ne hd,upd_ne hd,upd_ne hb,upd_ne hd]
theorem ui{pins:List (Addr×Obj)}{H:Hp}{s:Shared}{Q:VK}{us:List Value}{vs:List V}(M:Mk X.K C f)(F:FnG X.prog X.w X.K X.mg X.base CX k f fd ps sp)(hr:RoomG (k+1) X.A)(hb:Binds X.K fd ps ds)(hd:Vals dvs ds)
  (hx:PassesAt CX X σ (E σ)) (I:Inv X pins σ H s) (r:Vals vs us)
  (h:∀x dx,H x=none→H dx=none→dx≠x→sp (.ref x::(vs++dvs)) (upd (upd H dx (.xd [])) x (SlX.SlO x C dx [])) (fun v H2=>v= .non∧Q (.ref x) H2) (E σ)):
  wpAny (model X.prog X.w) X.A (call (.ref C) us) (EP X pins σ Q) X.xe s:=by
 have hq:=h (s.heap.objs.size+1) s.heap.objs.size (I.hok.fresh (Nat.le_succ _)) (I.hok.fresh (JD _)) (Jm (Nat.lt_succ_self _))
 have I1:=Inv.made (C:=C) I
 have hs:SlX.Slt (upd (upd H s.heap.objs.size (.own (s.heap.objs.size+1))) (s.heap.objs.size+1) (.ins C s.heap.objs.size [])) (s.heap.objs.size+1) C s.heap.objs.size []:=.inl ⟨upd_same,rfl⟩
 obtain⟨sl,mA,o1,o2,o3,o4⟩:=(SlX.slt_at I1 hs).2
 have I2:=SlX.inv_slot (vs':=[]) (sl':=sl) (t':=s.toks) I1 hs (fun b o _ _ e=>e) (fun m e=>e) o1 (SlX.SlR.nil sl)
 rw[rD (Jm (Nat.lt_succ_self _))] at I2
 have r2:Vals (V.ref (s.heap.objs.size+1)::(vs++dvs)) (Value.ref (s.heap.objs.size+1)::(us++ds)):=.cons rfl (r.append hd)
 have hl:(Value.ref (s.heap.objs.size+1)::us++ds).length=ps.length:=by
  have e:=r2.length
  rw[F.len _ _ _ _ hq] at e
  exact e.symm
 refine wpAny_call (make_map (f:=f) I.kIn M.makes M.init (beq_iff_eq.mp M.fn) (codeAny_mono (F.run _ X.stack _ _ ⟨Value.ref (s.heap.objs.size+1)::us,[]⟩ (Value.ref (s.heap.objs.size+1)::(us++ds)) _ _ (E σ) (hr.make C us [])
  (I2.env0.make C us []) (hb _ (Value.ref (s.heap.objs.size+1)::us) I2.kIn hl) r2 hq) fun r s' hq'=>?_))
 cases r with
 |error e=>exact hx pins _ _ e s' I2 hq'
 |ok fl=>
  cases fl with
  |ret u=>
   obtain⟨v,H',I3,rv,ev,q3⟩:=I2.after hq'
   subst ev
   exact⟨rv,⟨V.ref (s.heap.objs.size+1),H',I3,rfl,q3⟩⟩
  |next=>exact False.elim hq'
  |brk=>exact False.elim hq'
  |cont=>exact False.elim hq'
def w6(C:Addr)(sp:Sp)(dvs:List V)(E:L2.St→XK)(t:TA):TE:=fun σ H Q=>t σ H fun vs H1=>∀x dx,H1 x=none→H1 dx=none→dx≠x→sp (.ref x::(vs++dvs)) (upd (upd H1 dx (.xd [])) x (SlX.SlO x C dx [])) (fun v H2=>v= .non∧Q (.ref x) H2) (E σ)
theorem yM(M:Mk X.K C f)(F:FnG X.prog X.w X.K X.mg X.base CX k f fd ps sp)(hr:RoomG (k+1) X.A)(hg:Gl X x)(hm:X.mg x=some (.ref C))(hb:Binds X.K fd ps ds)(hd:Vals dvs ds)(hx:∀σ,PassesAt CX X σ (E σ))
  (ha:PA X (e::es) t) (hdb:(x==("__debug__":Str))=false) (he:starEach (e::es) X.env=(false,eval e X.env)::starEach es X.env) (hpl:(backTo pos (starEach es X.env)).any (·.1)=false):
  PE X (.Call (.Name x p) (e::es) [] pos) (w6 C sp dvs E t):=by
 refine⟨fun pins s σ H Q I h=>?_⟩
 refine wpAny_Call_Name_kw (ld_glob I hg hm ?_ hdb)
 refine PySem.W.callWith_K (h₀:=X.base) I.ok.mod.kin M.kp (thn (ha.run pos pins s σ H _ I h) fun us s1 ⟨vs,H1,I1,r,q⟩=>⟨I1.kIn,?_⟩) he hpl
 exact ui M F hr hb hd (hx σ) I1 r q
end
def yI:List (Option D)→Option (List D)
 | []=>some []
 |some d::r=>(yI r).map (d:: ·)
 |none::_=>none
theorem sA:∀ {fs:List (Option D)} {ds:List D},yI fs=some ds→fs=ds.map some
 | [],_,h=>by cases h;rfl
 |some d::r,_,h=>by
  obtain⟨ds,h1,rfl⟩:=Jh.mp h
  rw[sA h1];rfl
 |none::_,_,h=>by cases h
def lO(n:Nat)(S:a0):Option a0:=if S.length=n+1∧((S.take n).all fun o=>o.free||o.low n)=true then some (S.take n) else none
def yQ(c i:Nat)(g:Cfg)(ds:List D)(S1:a0):R RV:=match g.call i (.ref S1.length::ds) (S1++[.slo c []]) with
 | .ok (.val .non) S2=>match S2[S1.length]? with
  |some (.slo c' fs)=>match yI fs,lO S1.length S2 with
   |some ds,some S3=>if c'=c∧frees ds=true then .ok (.val (.ins c ds)) S3 else .bad
   |_,_=>.bad
  |_=>.bad
 | .ex x S2=>match lO S1.length S2 with
  |some S3=>if free x then .ex x S3 else .bad
  |none=>.bad
 |_=>.bad
def qK(c i:Nat)(g:Cfg)(dfl:List D)(m:MA):ME:=fun env S=>(m env S).bind fun ds S1=>yQ c i g (ds++dfl) S1
section
variable {Γ:Gm}{X:Cx}{W:WX}{pos:Pos}
theorem nP{H:Hp}{μ:Mu}:∀ {ds:List D} {vs:List (Option V)},mG Γ H μ vs (ds.map some)→∃ws:List V,vs=ws.map some∧Reps Γ H μ ws ds
 | [],vs,h=>by
  cases vs with
  |nil=>exact⟨[],rfl,.nil⟩
  |cons v vs=>exact absurd h.1 (by simp)
 |d::ds,vs,h=>by
  cases vs with
  |nil=>exact absurd h.1 (by simp)
  |cons v vs=>
   obtain⟨w,h1,h2⟩:=h.2 0 d rfl
   have h1:some v=some (some w):=h1
   cases h1
   have ht:mG Γ H μ vs (ds.map some):=⟨by have:=h.1;simpa using this,fun i e he=>by
    obtain⟨u,h3,h4⟩:=h.2 (i+1) e (by simpa using he)
    exact⟨u,by simpa using h3,h4⟩⟩
   obtain⟨ws,rfl,r⟩:=nP ht
   exact⟨w::ws,rfl,.cons h2 r⟩
theorem pO{H1 H H3:Hp}{μ μ2:Mu}{S1 S2 S3:a0}{p:Addr}(s1:Sim Γ μ H1 S1)(hp:H1 p=none)(hH:∀b o,H1 b=some o→H b=some o)(x:Ext Γ (μ.add p) H μ2 H3)(s2:Sim Γ μ2 H3 S2)(h:lO S1.length S2=some S3)(ht:ef Γ H1→ef Γ H):
  μ2=μ.add p∧Ext Γ μ H1 μ H3∧Sim Γ μ H3 S3∧(∀b,μ2.no b→μ.no b)∧μ.no p:=by
 unfold lO at h
 split at h
 ·rename_i hc
  cases h
  obtain⟨hl,hf⟩:=hc
  obtain⟨r,er⟩:=x.pre
  have l1:μ2.st.length=μ.st.length+1:=by rw[s2.len,hl,s1.len]
  have er:μ2.st=(μ.st++[p])++r:=er
  have r0:r=[]:=by
   have:=congrArg List.length er
   rw[l1] at this
   simp at this
   exact this
  rw[r0,JC] at er
  have hd:μ2.hd=μ.hd:=x.hid
  have eμ:μ2=μ.add p:=by
   cases μ2
   cases μ
   unfold Mu.add
   simp only at er hd
   rw[er,hd]
  subst eμ
  have nop:μ.no p:=s1.nnew hp
  have nn:∀b,(μ.add p).no b→μ.no b:=fun b hb=>⟨fun z=>hb.1 (JN _ z),hb.2⟩
  refine⟨rfl,⟨⟨[],by simp⟩,rfl,fun b o e hb n=>?_,fun b o e=>x.here b o (hH b o e),fun b h1 h2=>absurd h1 h2,(TabsR.ext hH).trans x.tbr⟩,⟨?_,s1.nd,fun n a ob h1 h2=>?_,fun b hb=>s1.apart b hb,s2.hth⟩,nn,nop⟩
  ·refine x.keep b o (hH b o e) (fun z=>?_) n
   rcases Jv.mp z with z|z
   ·exact hb z
   ·rw[Jg.mp z,hp] at e;cases e
  ·rw[List.length_take,hl,s1.len];omega
  ·have hn:n<μ.st.length:=(Jl.mp h1).1
   have h1':(μ.add p).st[n]? =some a:=by
    show(μ.st++[p])[n]? =some a
    rw[Jp hn];exact h1
   have h2':S2[n]? =some ob:=by
    rw[List.getElem?_take_of_lt (by rw[← s1.len];exact hn)] at h2
    exact h2
   rcases Bool.or_eq_true_iff.mp (Jz.mp hf ob (Js h2)) with hfr|hlw
   ·exact(s2.ats n a ob h1' h2').view (fun b _ hb=>nn b hb) hfr
   ·refine(s2.ats n a ob h1' h2').lows (n:=S1.length) (fun b _ hb=>nn b hb) (fun m c hm hc=>?_) hlw
    have hc:(μ.st++[p])[m]? =some c:=hc
    rw[Jp (by rw[s1.len];exact hm)] at hc
    exact hc
 ·cases h
theorem AH{c i:Nat}{g:Cfg}{dfl ds:List D}{vs dvs:List V}{n:Nat}{σ:L2.St}{H1:Hp}{μ1:Mu}{S1:a0}{Q:VK}(hd:∀H μ,Reps Γ H μ dvs dfl)(hlen:∀ds S,(g.call i ds S).sat (fun _ _=>True) (fun _ _=>True)→ds.length=n)
  (asim:Sim Γ μ1 H1 S1) (atabs:ef Γ H1) (rs:Reps Γ H1 μ1 vs ds) (q:(yQ c i g (ds++dfl) S1).sat (aU Γ μ1 H1 Q) (dw Γ W σ μ1 H1)):
  ∀x dx,H1 x=none→H1 dx=none→dx≠x→jd Γ (g.call i) n (.ref x::(vs++dvs)) (upd (upd H1 dx (.xd [])) x (SlX.SlO x (Γ.cls c) dx [])) (fun v H2=>v= .non∧Q (.ref x) H2) (WE W σ):=by
 unfold yQ at q
 intro p dx hp hdx hne
 have hdxp:H1 dx=none:=hdx
 let Ha:=upd H1 dx (.xd [])
 let Hb:=upd Ha p (SlX.SlO p (Γ.cls c) dx [])
 have hpa:Ha p=none:=by show upd H1 dx (.xd []) p=none;rw[upd_ne (Ne.symm hne)];exact hp
 have sa:Sim Γ μ1 Ha S1:=asim.laid hdx _
 have xa:Ext Γ μ1 H1 μ1 Ha:=Ext.laid hdx _
 have nodx:μ1.no dx:=asim.nnew hdx
 have nop:μ1.no p:=asim.nnew hp
 have nodx':(μ1.add p).no dx:=⟨fun z=>by
  rcases Jv.mp z with z|z
  ·exact nodx.1 z
  ·exact hne (Jg.mp z),nodx.2⟩
 have hdx2:Hb dx=some (.xd []):=by show upd Ha p _ dx=_;rw[upd_ne hne];exact upd_same
 have sb:Sim Γ (μ1.add p) Hb (S1++[.slo c []]):=sa.alloc hpa _ ⟨dx,[],upd_same,.xdd ⟨hdx2,nodx'⟩,rfl,fun i d e=>absurd e (by simp)⟩
 have xb:Ext Γ μ1 Ha (μ1.add p) Hb:=Ext.alloc hpa _
 have hH:∀b o,H1 b=some o→Hb b=some o:=fun b o e=>by
  show upd Ha p _ b=_
  rw[upd_ne (ne_of_none e hp)]
  show upd H1 dx _ b=_
  rw[upd_ne (ne_of_none e hdx)];exact e
 have rr:Reps Γ Hb (μ1.add p) (.ref p::(vs++dvs)) (.ref S1.length::(ds++dfl)):=by
  refine .cons (.ref ?_) (((rs.ext xa).ext xb).append (hd _ _))
  show(μ1.st++[p])[S1.length]? =_
  rw[← asim.len];simp
 have tb:ef Γ H1→ef Γ Hb:=fun t=>xb.tabs (xa.tabs t)
 have len0:(g.call i (.ref S1.length::(ds++dfl)) (S1++[.slo c []])).sat (fun _ _=>True) (fun _ _=>True):=by
  revert q
  cases g.call i (.ref S1.length::(ds++dfl)) (S1++[.slo c []]) with
  |ok r S2=>intro _;exact trivial
  |ex x S2=>intro _;exact trivial
  |bad=>intro q;exact False.elim q
 refine⟨by show(V.ref p::(vs++dvs)).length=n;rw[rr.length];exact hlen _ _ len0,_,_,μ1.add p,sb,tb atabs,rr,?_⟩
 cases hcall:g.call i (.ref S1.length::(ds++dfl)) (S1++[.slo c []]) with
 |bad=>rw[hcall] at q;exact False.elim q
 |ex x S2=>
  rw[hcall] at q
  simp only at q
  intro cls dxx H3 μ3 x3 s3 xat
  split at q
  ·rename_i S3 hdrop
   obtain⟨rfl,x4,s4,nn,np⟩:=pO asim hp hH x3 s3 hdrop tb
   split at q
   ·rename_i hfree
    refine q cls dxx H3 μ1 x4 s4 ?_
    cases x with
    |exc c d=>
     obtain⟨k1,aa,v,k2,k3,k4⟩:=xat
     exact⟨k1,aa,v,k2,⟨k3.1,nn _ k3.2⟩,k4.view (fun b _ hb=>nn b hb) (by simpa [free] using hfree)⟩
    |_=>exact False.elim xat
   ·exact False.elim q
  ·exact False.elim q
 |ok r S2=>
  rw[hcall] at q
  intro v H3 μ3 x3 rv
  cases r with
  |new ob=>exact False.elim q
  |val d=>
   cases d with
   |non=>
    obtain⟨s3,rv⟩:=rv
    cases rv
    refine⟨rfl,?_⟩
    simp only at q
    split at q
    ·rename_i c' fs hS2
     split at q
     ·rename_i es S3 hall hdrop
      split at q
      ·rename_i hcc
       obtain⟨rfl,hfr⟩:=hcc
       obtain⟨rfl,x4,s4,nn,np⟩:=pO asim hp hH x3 s3 hdrop tb
       have hat:(μ1.add p).st[S1.length]? =some p:=by
        show(μ1.st++[p])[S1.length]? =_
        rw[← asim.len];simp
       obtain⟨dx',ws,h1,h2,h3⟩:=s3.ats _ _ _ hat hS2
       rw[sA hall] at h3
       obtain⟨us,rfl,ru⟩:=nP h3
       cases h2 with
       |xdd h2=>exact q _ H3 μ1 x4 ⟨s4,.ins ⟨h1,np⟩ ⟨h2.1,nn _ h2.2⟩ (ru.view (fun b _ hb=>nn b hb) hfr)⟩
      ·exact False.elim q
     ·exact False.elim q
    ·exact False.elim q
   |_=>exact False.elim q
theorem EU{c i:Nat}{g:Cfg}{dfl:List D}{dvs:List V}{n:Nat}{m:MA}{σ:L2.St}{H:Hp}{Q:VK}(hd:∀H μ,Reps Γ H μ dvs dfl)(hlen:∀ds S,(g.call i ds S).sat (fun _ _=>True) (fun _ _=>True)→ds.length=n)(h:ay Γ W (qK c i g dfl m) σ H Q):
  w6 (Γ.cls c) (jd Γ (g.call i) n) dvs (fun σ=>WE W σ) (iD Γ W m) σ H Q:=
 gF h fun vs H1 μ1 ds S1 env a rs q=>AH hd hlen a.sim a.tabs rs q
theorem Fb{c i:Nat}{g:Cfg}{dfl:List D}{dvs:List V}{dus:List Value}{m:MA}{k:Nat}{f:Addr}{fd:FuncData}{ps:List Str}{x:Str}{p:Pos}{e:Expr}{es:List Expr}(tk:Takes X W)(M:Mk X.K (Γ.cls c) f)
  (F:FnG X.prog X.w X.K X.mg X.base (L2.CX X.prog X.w) k f fd ps (jd Γ (g.call i) ps.length)) (hr:RoomG (k+1) X.A) (hg:Gl X x) (hm:X.mg x=some (.ref (Γ.cls c))) (hb:Binds X.K fd ps dus) (hv:Vals dvs dus)
  (hd:∀H μ,Reps Γ H μ dvs dfl) (hlen:∀ds S,(g.call i ds S).sat (fun _ _=>True) (fun _ _=>True)→ds.length=ps.length) (ha:PA X (e::es) (iD Γ W m)) (hs:(e::es).all notStar=true) (hdb:(x==("__debug__":Str))=false):
  PE X (.Call (.Name x p) (e::es) [] pos) (ay Γ W (qK c i g dfl m)):=
 (yM M F hr hg hm hb hv (fun σ=>passAt tk σ) ha hdb (aE (Jn.mp (show(notStar e&&es.all notStar)=true from hs)).1) (star_any (Jn.mp (show(notStar e&&es.all notStar)=true from hs)).2)).weak
  fun σ H Q h=>EU hd hlen h
def wG:List String:=["NoneType","bool","int","str","tuple","list","dict"]
structure OwnIs(Γ:Gm)(cs:List Nat)(c:Nat):Prop where
 ty:∀T∈wG,PySem.W.kitOne Γ.K (.type T) (.ref (Γ.cls c))=some false
 own:∀d∈cs,SlX.SCls Γ.K (Γ.cls d)∧SlX.SIsi Γ.K (Γ.cls d)∧PySem.W.kitOne Γ.K (.ref (Γ.cls d)) (.ref (Γ.cls c))=some (d==c)
def dB(cs:List Nat)(c:Nat)(S:a0)(d:D):Option Bool:=match oQ S d with
 |some c'=>if c'∈cs then some (c'==c) else none
 |none=>match tyOf S d with
  |some _=>some false
  |none=>none
theorem oS{S:a0}{d:D}{t:String}(h:tyOf S d=some t):t∈wG:=by
 cases d with
 |ref n=>
  simp only[tyOf] at h
  split at h<;>cases h<;>decide
 |_=>cases h<;>decide
theorem Ak{x:Str}{c:Nat}{cs:List Nat}{p p2:Pos}{e:Expr}{f:ME}(hK:X.K=Γ.K)(ho:OwnIs Γ cs c)(hg:Gl X "isinstance")(hm:X.mg "isinstance"=none)(he:PE X e (ay Γ W f))(hs:notStar e=true)(hgC:Gl X x)(hmC:X.mg x=some (.ref (Γ.cls c)))
  (hdb:(x==("__debug__":Str))=false):PE X (.Call (.Name "isinstance" p) [e,.Name x p2] [] pos) (ay Γ W (dA (dB cs c) f)):=
 (pe_callB (lQ.or (SlX.call_isiSl (.ref (Γ.cls c)))) hg hm (by rfl) (pa_cons he (pa_cons (pe_glob (v:=.ref (Γ.cls c)) hgC hmC rfl hdb) pa_nil rfl) (aE hs)) (by decide) (by decide) (aE hs) (by rfl)).weak fun σ H Q h=>by
  obtain⟨env,S,μ,a,h⟩:=h
  unfold dA at h
  rw[R.sat_bind] at h
  refine aW a h fun r1 S1 v1 H1 μ1 x1 rv1 q1=>?_
  obtain⟨s1,p1⟩:=rv1.sim
  split at q1
  ·rename_i b hb
   have fin:Q (.bl b) H1:=q1 _ H1 μ1 x1 ⟨s1,.bl b⟩
   rw[hK]
   unfold dB at hb
   split at hb
   ·rename_i c' hc
    split at hb
    ·rename_i hmem
     cases hb
     obtain⟨aa,dx,vs,rfl,hsl⟩:=iO s1 p1 hc
     obtain⟨k1,k2,k3⟩:=ho.own c' hmem
     exact .inr ⟨aa,_,dx,vs,.ref (Γ.cls c),_,rfl,rfl,fun w hw=>hw,hsl,k1,k2,k3,fin⟩
    ·cases hb
   ·split at hb
    ·rename_i t ht
     cases hb
     exact .inl ⟨v1,.ref (Γ.cls c),.type t,.ref (Γ.cls c),false,rfl,.own _,iq s1 p1 ht,ho.ty t (oS ht),fin⟩
    ·cases hb
  ·exact False.elim q1
end
end Ev
namespace Ev
open PySem L2 PyProof.Rows PySem.W
abbrev dW(p0 p1 p2 p3 p4 p5 p6 p7 p8 p9:Pos)(j:Nat)(txt f ar:Str):List Stmt:=
 [.Expr (.Call (.Attribute (.Call (.Name "super" p0) [] [] p1) "__init__" p2) [.Constant (.str txt) j p3] [] p4) p5,.Assign [.Attribute (.Name "self" p6) f p7] (.Name ar p8) p9]
abbrev bN(ar:Str):Scope:={ kind:=.function,names:=[("self",.local),(ar,.local),("__class__",.free),("super",.globalImplicit)],isGenerator:=false,isCoroutine:=false,more:=[]}
structure SupC(prog:Program)(K:Frag)(C fI:Addr)(f ar:Str)(B i newId:String)(bmB:List Value):Prop where
 FB:ExcBaseFacts B newId i bmB
 SF:StoreFacts B bmB "object.__setattr__" "object"
 KF:KxsFacts B i
 fn:∃ (oc:Value) (od:Option Addr) (name qual:Str) (params:Arguments) (p0 p1 p2 p3 p4 p5 p6 p7 p8 p9:Pos) (j:Nat) (txt:Str) (dV kV doc pm ct:Value) (an:Option Addr) (cda cc:Addr) (osl:Array (Option Value)) (ccl cl:Value) (cdd cld:Option Addr) (ccs csl:Array (Option Value)) (vs:Array Value) (file:Str) (tf:Tok) (ag:Arg),
  K.lookup fI=some ⟨oc,od,.func (ksFn name qual params (dW p0 p1 p2 p3 p4 p5 p6 p7 p8 p9 j txt f ar) (bN ar) dV kV doc pm an (.ref cda) ct cc),osl⟩∧codeIn K (.ref cda) qual=true∧
  K.lookup cda=some ⟨ccl,cdd,.fields vs,ccs⟩∧vs[2]? =some (.str file tf)∧((prog.main.file:Str)==file)=true∧K.lookup cc=some ⟨cl,cld,.cell (some (.ref C)),csl⟩∧
  (params.posonlyargs++params.args).head?=some ag∧ag.arg="self"∧(∀ (s:Shared) (x u:Value) (as:Args),as=⟨[x,u],[]⟩∨as=⟨[x],[(ar,u)]⟩→BindsTo s (ksFn name qual params (dW p0 p1 p2 p3 p4 p5 p6 p7 p8 p9 j txt f ar) (bN ar) dV kV doc pm an (.ref cda) ct cc) as [("self",x),(ar,u)])∧
  ∀env:Env,∃pl:Sem Bool,eval (.Call (.Attribute (.Call (.Name "super" p0) [] [] p1) "__init__" p2) [.Constant (.str txt) j p3] [] p4) env=(do
   let ov ← attributeBase (.Call (.Name "super" p0) [] [] p1) "__init__" env (eval (.Call (.Name "super" p0) [] [] p1) env)
   standAt p2.atName
   let(f,first) ← holding [ov] (getMethod ov "__init__" pl)
   callWith p4 f first (backTo p4 (starEach [.Constant (.str txt) j p3] env)) [])
 hasD:∃cd,clsIn K C=some cd
 sub:mroIn K C (.ref C)=some true
 subB:subIn K (.ref C) (.type B)=some true
 sup:nsIn K mainGlobals "super"=some none
 tp:nsIn K cStatics "thirdparty.any"=some none
 meth:ks_superIn K C C "__init__"=some (some (.builtin i))
 init:excInitIn K C bmB newId=true
 sa:findIn K (.ref C) "__setattr__"=some (some (.builtin "object.__setattr__"))
 over:excOver K C bmB=true
 tk:takerIn K C f=some none
 hd:hasDictIn K C=true
 top:(prog.main.scope.names.lookup ("super":Str)).isSome=false
 ne:(ar==("self":Str))=false
 nk:(ar==("__class__":Str))=false
 ns:(ar==("super":Str))=false
 nd:(ar==("__debug__":Str))=false
theorem zP{h:Heap}{dx:Addr}{f:Str}{hsh:Int}{t:Tok}{u:Value}{n:Nat}(e:h.get? dx=some (dictOf [⟨hsh,.str f t,u⟩] n)):h.Ns1 dx (fun y=>if y=f then some u else none):=by
 refine⟨_,_,_,e,rfl,fun x hx=>?_,?_,fun y=>?_⟩
 ·have hx:x∈[(⟨hsh,.str f t,u⟩:DictEntry)]:=by simpa using hx
  rw[Jg.mp hx]
  exact⟨f,t,rfl⟩
 ·exact List.pairwise_singleton _ _
 ·unfold nsFind findBy
  by_cases hy:y=f
  ·subst hy
   simp[Value.isStr]
  ·have:(f==y)=false:=by
    rw[Bool.eq_false_iff]
    exact fun z=>hy (beq_iff_eq.mp z).symm
   simp[Value.isStr,this,hy]
theorem rY{a b:Str}(h:(a==b)=false):(b==a)=false:=by
 rw[Bool.eq_false_iff] at h ⊢
 exact fun z=>h (by rw[beq_iff_eq.mp z];simp)
theorem rq{ar:Str}(h:(ar==("super":Str))=false):(bN ar).names.lookup ("super":Str)=some .globalImplicit:=by
 show List.lookup ("super":Str) [(("self":Str),NameKind.local),(ar,.local),("__class__",.free),("super",.globalImplicit)]=_
 rw[List.lookup_cons,show(("super":Str)==("self":Str))=false by decide,List.lookup_cons,rY h]
 rfl
theorem qQ{ar:Str}(h:(ar==("__class__":Str))=false):(bN ar).names.lookup ("__class__":Str)=some .free:=by
 show List.lookup ("__class__":Str) [(("self":Str),NameKind.local),(ar,.local),("__class__",.free),("super",.globalImplicit)]=_
 rw[List.lookup_cons,show(("__class__":Str)==("self":Str))=false by decide,List.lookup_cons,rY h]
 rfl
theorem th{ar:Str}(h:(ar==("self":Str))=false):(bN ar).names.lookup ar=some .local:=by
 show List.lookup ar [(("self":Str),NameKind.local),(ar,.local),("__class__",.free),("super",.globalImplicit)]=_
 rw[List.lookup_cons,h,List.lookup_cons]
 simp
theorem lD{ar:Str}:(bN ar).names.lookup ("self":Str)=some .local:=by
 show List.lookup ("self":Str) [(("self":Str),NameKind.local),(ar,.local),("__class__",.free),("super",.globalImplicit)]=_
 rw[List.lookup_cons]
 rfl
section
variable {prog:Program}{w:World}{A:Around}{E:Value→Shared→Prop}{s:Shared}{h₀:Heap}{L:Addr}{m mg mb:Str→Option Value}{news:List (Addr×Obj)}{K:Frag}{x C D f f2 cc cda so:Addr}{ox:Obj}{odx:Option Obj}
theorem vh{body:List Stmt}{q:Str}{scope:Scope}{p0 p1:Pos}{attr:Str}{whole:Sem Value}{fd:FuncData}{ar:Arg}{vs:Array Value}{file:Str}{tf:Tok}{oc ccl cl:Value}{od cdd cld:Option Addr}{osl ccs csl:Array (Option Value)}{cdD:ClassData}{Q:Value→Shared→Prop}
  (F:Fr h₀ L s.heap m) (X₀:K.In h₀) (N:News h₀ L s.heap news) (Tg:s.heap.Ns mainGlobals mg) (Tb:s.heap.Ns builtinsNs mb) (Tm:∀x:Str,x≠ "__name__"→mb x=bootBuiltins x) (hmg:mg "super"=none)
  (hf:K.lookup f=some ⟨oc,od,.func fd,osl⟩) (hp:(fd.params.posonlyargs++fd.params.args).head?=some ar) (hv:m ar.arg=some (.ref x)) (I:InstAt s.heap x ox C odx)
  (hcode:K.lookup cda=some ⟨ccl,cdd,.fields vs,ccs⟩) (hvs:vs[2]? =some (.str file tf)) (hfile:((prog.main.file:Str)==file)=true)
  (hcell:K.lookup cc=some ⟨cl,cld,.cell (some (.ref D)),csl⟩) (hD:clsIn K D=some cdD) (hsub:mroIn K C (.ref D)=some true)
  (hat:(attr==("__class__":Str))=false) (hks:scope.names.lookup ("super":Str)=some .globalImplicit) (hkc:scope.names.lookup ("__class__":Str)=some .free) (hka:scope.names.lookup ar.arg=some .local) (hk:scope.kind= .function)
  (htop:(prog.main.scope.names.lookup ("super":Str)).isSome=false)
  (h:∀so h',Fr h₀ L h' m→News h₀ L h' ((so,ks_superObj D x C)::news)→(∀p∈news,p.1<so)→Q (.ref so) { s with heap:=h'}):
  _root_.PySem.wpAt (model prog w) A (.func body (ksEnv q scope L f (.ref cda) cc)) (attributeBase (.Call (.Name "super" p0) [] [] p1) attr (ksEnv q scope L f (.ref cda) cc) whole) Q E s:=by
 have X:K.In s.heap:=X₀.keeps F.keep
 obtain⟨hh,g,d,t,os⟩:=s
 obtain⟨oD,hD1,hD2⟩:∃oD,hh.get? D=some oD∧oD.data= .cls cdD:=by
  unfold clsIn at hD
  split at hD
  ·rename_i c d cd' sl ho
   cases hD
   exact⟨_,X _ _ ho,rfl⟩
  ·cases hD
 refine ks_wpAt_super_base (env:=ksEnv q scope L f (.ref cda) cc) hks hkc hat rfl (X _ _ hf) rfl hp rfl (X _ _ hcode) rfl hvs hfile htop ?_
 refine ks_loadName_global hk hks (PySem.Calls.loadGlobal_builtin (env:=ksEnv q scope L f (.ref cda) cc) Tg hmg Tb ((Tm _ (by decide+kernel)).trans (by rfl)) ⟨rfl,?_⟩)
 refine wpAny_loadName_free hk hkc rfl ⟨_,X _ _ hcell,rfl⟩ ?_
 refine wpAny_loadName_local hk hka F.ns hv ?_
 refine ks_wpAny_isType_cls hD1 hD2 ⟨rfl,?_⟩
 refine ks_wpAny_call_super hD1 hD2 I.at_ I.cls (fun c e=>?_) (looks_mroIn X hsub) (fun h' e k=>?_)
 ·have:=I.no
  unfold notCls at this
  rw[e] at this
  exact Bool.noConfusion this
 ·obtain⟨F',N',l'⟩:=ks_newsPush (s:=⟨hh,g,d,t,os⟩) F N rfl e k
  exact h _ _ F' N' l'
end
section
variable {prog:Program}{w:World}{A:Around}{s:Shared}{K:Frag}{e C fI:Addr}{f ar:Str}{B i newId:String}{bmB:List Value}{t0:Addr}{u:Value}{R:Result→Shared→Prop}{mg mb:Str→Option Value}
theorem uT{as:Args}(has:as=⟨[.ref e,u],[]⟩∨as=⟨[.ref e],[(ar,u)]⟩)(S:SupC prog K C fI f ar B i newId bmB)(X:K.In s.heap)(hKe:K.lookup e=none)(Tg:s.heap.Ns mainGlobals mg)(Tb:s.heap.Ns builtinsNs mb)(Tm:∀x:Str,x≠ "__name__"→mb x=bootBuiltins x)(Tl:s.heap.NoLimit)
  (he:s.heap.get? e=some (HandSPX.excO C t0)) (hroom:A.depth<recursionLimit)
  (q:∀h' tk dx t1,(∀b o,b≠e→s.heap.get? b=some o→h'.get? b=some o)→s.heap.get? dx=none→dx≠e→h'.get? e=some ({ cls:=.ref C,dict:=some dx,data:=.fields #[.ref t1,.none,.none,.none,.bool false,.none]}:Obj)→
   h'.Ns1 dx (fun y=>if y=f then some u else none)→R (.ok (.ret .none)) ⟨h',s.gens,s.drawn,tk,s.os⟩):
  codeAny (model prog w) A (.call (.ref fI) as) R s:=by
 obtain⟨oc,od,name,qual,params,p0,p1,p2,p3,p4,p5,p6,p7,p8,p9,j,txt,dV,kV,doc,pm,ct,an,cda,cc,osl,ccl,cl,cdd,cld,ccs,csl,vs,file,tf,ag,ho,hcd,hcode,hvs,hfile,hcell,hag,hself,hbind,hev⟩:=S.fn
 have hmg:mg "super"=none:=mg_none_of X Tg S.sup
 refine ks_codeAny_call_defAt (fd:=ksFn name qual params (dW p0 p1 p2 p3 p4 p5 p6 p7 p8 p9 j txt f ar) (bN ar) dV kV doc pm an (.ref cda) ct cc) (body:=dW p0 p1 p2 p3 p4 p5 p6 p7 p8 p9 j txt f ar) (binds:=[("self",.ref e),(ar,u)]) hroom (X _ _ ho) rfl Tl
  (codeRec_of X hcd) rfl (hbind s (.ref e) u as has) (by intro y hy;simp at hy;rcases hy with rfl|rfl|rfl|rfl<;>simp) ?_ (fun h₁ hns hk₁=>?_) rfl rfl rfl
 ·intro y hy
  have hy:y∈[(("self":Str),Value.ref e),(ar,u)]:=hy
  rcases Jj.mp hy with rfl|hy
  ·rfl
  ·rcases Jj.mp hy with rfl|hy
   ·exact th S.ne
   ·cases hy
 ·
  have hG:(s.heap.hide e).objs.size=s.heap.objs.size:=Heap.hide_size _ _
  have hlt:e<s.heap.objs.size:=Heap.lt_size he
  have XG:K.In (s.heap.hide e):=fun b o hb=>by
   have ne:b≠e:=fun z=>by rw[z,hKe] at hb;cases hb
   exact(Heap.hide_ne _ ne).trans (X b o hb)
  have F1:Fr (s.heap.hide e) s.heap.objs.size h₁ (fun x=>[(("self":Str),Value.ref e),(ar,u)].reverse.lookup x):=⟨hns,fun b o hb=>hk₁ b o (Heap.of_hide hb),by rw[hG];exact JD _⟩
  have N1:News (s.heap.hide e) s.heap.objs.size h₁ [(e,HandSPX.excO C t0)]:=fun p hp=>by
   rw[Jg.mp hp]
   exact⟨hk₁ _ _ he,Jm hlt,Heap.hide_self _ _⟩
  obtain⟨cd,hcdC⟩:=S.hasD
  have mself:(fun x=>[(("self":Str),Value.ref e),(ar,u)].reverse.lookup x) "self"=some (.ref e):=by
   show List.lookup ("self":Str) [(ar,u),(("self":Str),Value.ref e)]=_
   rw[List.lookup_cons]
   have h1:(("self":Str)==ar)=false:=by rw[Bool.eq_false_iff];intro z;have:=S.ne;rw[beq_iff_eq.mp z] at this;simp at this
   rw[h1]
   rfl
  have mar:(fun x=>[(("self":Str),Value.ref e),(ar,u)].reverse.lookup x) ar=some u:=by
   show List.lookup ar [(ar,u),(("self":Str),Value.ref e)]=_
   rw[List.lookup_cons]
   simp
  obtain⟨pl,hev⟩:=hev (callEnv (ksFn name qual params (dW p0 p1 p2 p3 p4 p5 p6 p7 p8 p9 j txt f ar) (bN ar) dV kV doc pm an (.ref cda) ct cc) s.heap.objs.size fI)
  refine ks_wpAt_execs_cons (ks_wpAt_Expr_any (ks_wpAt_MethodCall (pl:=pl) (vh (m:=fun x=>[(("self":Str),Value.ref e),(ar,u)].reverse.lookup x) (mg:=mg) (mb:=mb) F1 XG N1 (Tg.keeps hk₁) (Tb.keeps hk₁) Tm hmg ho hag (by rw[hself];exact mself) (InstAt.of_exc0 N1 (Jg.mpr rfl)) hcode hvs hfile hcell hcdC S.sub rfl (rq S.ns) (qQ S.nk) (by rw[hself];exact lD) rfl S.top
   (fun so h2 F2 N2 l2=>?_)) hev) rfl rfl)
  have me:(e,HandSPX.excO C t0)∈(so,ks_superObj C e C)::[(e,HandSPX.excO C t0)]:=Je _ (Jg.mpr rfl)
  refine kxs_method S.KF F2 XG N2 (Jf ..) (InstAt.of_exc0 N2 me) S.tp S.meth S.subB rfl (fun q1 h3 F3 N3 l3=>?_)
  refine kxs_callWith1 N3 (Jf ..) (Calls.spliced_cons (wpAny_Constant_str (x:=txt) (k:=j) (pos:=p3) (Calls.spliced_nil ?_))) rfl rfl
  refine⟨kxs_at N3 (Jf ..),?_⟩
  have lso:e≠so:=fun z=>by have:=l2 (e,HandSPX.excO C t0) (Jg.mpr rfl);rw[← z] at this;exact absurd this (JQ _)
  have lq1:e≠q1:=fun z=>by have:=l3 (e,HandSPX.excO C t0) me;rw[← z] at this;exact absurd this (JQ _)
  refine kxs_call (C:=C) (t:=t0) (dv:=none) (c2:=.none) F3 XG N3 S.FB S.init (Jf ..) (.tail (Ne.symm lq1) (.tail (Ne.symm lso) (.head fun p hp=>absurd hp (by simp)))) (by rw[sizeLine_eq];show 1≤_;decide) (fun t1 h4 F4 N4 l4=>?_)
  refine ks_wpAt_execs_cons (wpAt_of_wpAny (plainObj_wpAny_Assign_Attribute (wpAny_Name (wpAny_loadName_local rfl (th S.ne) F4.ns mar (wpAny_Name (wpAny_loadName_local rfl lD F4.ns mself ?_) (by decide))) S.nd) rfl))
  have lt1:e≠t1:=fun z=>by have:=l4 (e,HandSPX.excO C t0) (Je _ me);rw[← z] at this;exact absurd this (JQ _)
  refine set_exc0 S.SF F4 XG N4 (t:=t1) (c2:=.none) (Je _ (Je _ (Je _ (Jf ..)))) S.sa S.over S.tk S.hd rfl
   (.tail (Ne.symm lt1) (.tail (Ne.symm lq1) (.tail (Ne.symm lso) (.head fun p hp=>absurd hp (by simp))))) (by show(1:Nat)≤1000;decide) (fun dx h5 F5 N5 l5=>?_)
  refine wpAt_of_wpAny (wpAny_execs_nil ?_)
  have ldx:e≠dx:=fun z=>by
   have:=l5 (e,HandSPX.excO C t1) (Je _ (Je _ (Je _ (Jf ..))))
   rw[← z] at this;exact absurd this (JQ _)
  have hdx:=N5 _ (Jf ..)
  have hex:=N5 (e,excObj C t1 (some dx) .none) (Je _ (Je _ (Je _ (Je _ (Jf ..)))))
  refine q h5 _ dx t1 (fun b o hb ho=>F5.keep b o ((Heap.hide_ne _ hb).trans ho)) ((Heap.hide_ne _ (Ne.symm ldx)).symm.trans hdx.2.2) (Ne.symm ldx) hex.1 (zP hdx.1)
theorem vB(S:SupC prog K C fI f ar B i newId bmB)(X:K.In s.heap)(hKe:K.lookup e=none)(Tg:s.heap.Ns mainGlobals mg)(Tb:s.heap.Ns builtinsNs mb)(Tm:∀x:Str,x≠ "__name__"→mb x=bootBuiltins x)(Tl:s.heap.NoLimit)
  (he:s.heap.get? e=some (HandSPX.excO C t0)) (hroom:A.depth<recursionLimit)
  (q:∀h' tk dx t1,(∀b o,b≠e→s.heap.get? b=some o→h'.get? b=some o)→s.heap.get? dx=none→dx≠e→h'.get? e=some ({ cls:=.ref C,dict:=some dx,data:=.fields #[.ref t1,.none,.none,.none,.bool false,.none]}:Obj)→
   h'.Ns1 dx (fun y=>if y=f then some u else none)→R (.ok (.ret .none)) ⟨h',s.gens,s.drawn,tk,s.os⟩):
  codeAny (model prog w) A (.call (.ref fI) ⟨[.ref e,u],[]⟩) R s:=uT (.inl rfl) S X hKe Tg Tb Tm Tl he hroom q
end
structure SupR(prog:Program)(K:Frag)(C fI:Addr)(f ar:Str)(B i newId:String)(bmB:List Value):Prop extends SupC prog K C fI f ar B i newId bmB where
 iC:findIn K (.ref C) "__init__"=some (some (.ref fI))
 tI:typeIn K (.ref fI)=some (.type "function")
 exC:subIn K (.ref C) (.type "BaseException")=some true
 tyC:typeIn K (.ref C)=some (.type "type")
 kC:keepIn K (.ref C)=true
section
variable {X:Cx}{C fI:Addr}{f ar:Str}{B i newId:String}{bmB:List Value}{x:Str}{p pos:Pos}{e:Expr}{te:TE}{k:Nat}
def Ih(C:Addr)(f:Str)(te:TE):L2.St→Hp→XK→Prop:=fun σ H Q=>te σ H fun v H1=>∀d,H1 d=none→Q (.ref C) (some d) (upd H1 d (.xd [(f,v)]))
theorem AA(S:SupR X.prog X.K C fI f ar B i newId bmB)(hr:RoomG (k+1) X.A)(hg:Gl X x)(hm:X.mg x=some (.ref C))(he:PE X e te)(hdb:(x==("__debug__":Str))=false)(hs:notStar e=true):
  PMk X (.Call (.Name x p) [e] [] pos) (Ih C f te):=by
 intro pins s σ H Q I h
 refine wpAny_Call_Name_kw (ld_glob I hg hm ?_ hdb)
 refine PySem.W.callWith_K (h₀:=X.base) I.ok.mod.kin S.kC ?_ (aE hs) (by rfl)
 rw[aE hs]
 show wpAny _ _ (spliced ((false,eval e X.env)::backTo pos (starEach [] X.env))) _ _ s
 refine Calls.spliced_cons (thn (he.run pins s σ H _ I h) fun u s1 ⟨v,H1,I1,rv,q1⟩=>Calls.spliced_nil ⟨I1.kIn,?_⟩)
 show wpAny _ _ (call (.ref C) [u]) _ _ _
 obtain⟨hp,g,dr,tk,os⟩:=s1
 obtain⟨nm,N,qn,bs,bm,hdct,sn,sub,ab,col,dd,k0,k1,k2,k3,k5,hC,hT⟩:=excInit_of I1.kIn S.init
 have hsz:hp.objs.size≤hp.objs.size+1:=Nat.le_succ _
 have hn:H1 (hp.objs.size+1)=none:=I1.hok.fresh hsz
 have kk:∀b o,hp.get? b=some o→((hp.push (PySem.W.kdv_tup [u])).push (PySem.HandSPX.excO C hp.objs.size)).get? b=some o:=fun b o e=>Heap.get?_push_of_some _ (Heap.get?_push_of_some _ e)
 have hget:((hp.push (PySem.W.kdv_tup [u])).push (PySem.HandSPX.excO C hp.objs.size)).get? (hp.objs.size+1)=some (PySem.HandSPX.excO C hp.objs.size):=by heap_get
 have I2:Inv X pins σ (upd H1 (hp.objs.size+1) (exo (hp.objs.size+1) C none)) ⟨(hp.push (PySem.W.kdv_tup [u])).push (PySem.HandSPX.excO C hp.objs.size),g,dr,tk,os⟩:=
  I1.laid (t':=tk) (a:=hp.objs.size+1) (o:=exo (hp.objs.size+1) C none) (h':=(hp.push (PySem.W.kdv_tup [u])).push (PySem.HandSPX.excO C hp.objs.size)) kk hsz (exo_ok hget)
 have hKe:X.K.lookup (hp.objs.size+1)=none:=by
  cases e:X.K.lookup (hp.objs.size+1) with
  |none=>rfl
  |some o=>
   have:=(I2.bs _ _ (I2.ok.mod.kin _ _ e)).2
   rw[upd_same] at this
   cases this
 obtain⟨mb,Tb,Tm⟩:=I2.mod.blt
 refine wpAny_call (PySem.HandSPX.call_own S.FB hT hC (PySem.W.looks_findIn I1.kIn S.iC) (fun self=>PySem.W.bind_fn I1.kIn self S.tI) (by rw[sizeLine_eq];show 1≤_;decide)
  (vB S.toSupC (s:=⟨(hp.push (PySem.W.kdv_tup [u])).push (PySem.HandSPX.excO C hp.objs.size),g,dr,tk,os⟩) I2.kIn hKe (I2.mod.glob.keeps I2.bk) (Tb.keeps I2.bk) Tm I2.nolimit hget (hr.make C [u] []).room.depth fun h' tk' dx t1 k dn dne hx hns=>⟨rfl,?_⟩))
 have e:(upd H1 (hp.objs.size+1) (exo (hp.objs.size+1) C none)) (hp.objs.size+1)=some (exo (hp.objs.size+1) C none):=upd_same
 have hnd:(upd H1 (hp.objs.size+1) (exo (hp.objs.size+1) C none)) dx=none:=I2.hok.gone dn
 have nd:∀ {b:Addr} {o:Obj},((hp.push (PySem.W.kdv_tup [u])).push (PySem.HandSPX.excO C hp.objs.size)).get? b=some o→b≠dx:=fun {b o} q z=>by rw[z,dn] at q;cases q
 have na:∀ {b:Addr},(upd H1 (hp.objs.size+1) (exo (hp.objs.size+1) C none)) b=none→b≠hp.objs.size+1:=fun {b} n z=>by
  rw[z,e] at n
  cases n
 let a:=hp.objs.size+1
 let Ha:=upd H1 a (exo a C none)
 have Un1:∀fs,Un fs [] Ha (upd (upd Ha dx (exd dx [(f,v)])) a (exo a C (some dx))) ((hp.push (PySem.W.kdv_tup [u])).push (PySem.HandSPX.excO C hp.objs.size)) h':=fun fs=>{
  keep:=fun b o q n _ _=>k b o (na n) q
  slot:=fun b o q n _ _=>⟨o.slots,k b o (na n) q⟩
  free:=fun b o q n _=>by rw[upd_ne (na n),upd_ne (nd q)];exact n
  there:=fun b o q _=>by
   by_cases hb:b=a
   ·exact⟨_,by rw[hb];exact hx⟩
   ·exact⟨o,k b o hb q⟩
  tups:=fun b xs q=>by rw[upd_ne (at_ne e q exo_tup),upd_ne (ne_of_none q hnd)];exact q
  frzs:=fun b o v q=>by rw[upd_ne (at_ne e q exo_frz),upd_ne (ne_of_none q hnd)];exact q
  tbls:=fun b ps q=>⟨#[],by rw[upd_ne (at_ne e q exo_tbl),upd_ne (ne_of_none q hnd),q];simp⟩}
 have I3:Inv X pins σ (upd (upd Ha dx (exd dx [(f,v)])) a (exo a C (some dx))) ⟨h',g,dr,tk',os⟩:=I2.un (t':=tk') (Un1 _) fun b o q=>by
  by_cases hb:b=a
  ·subst hb
   rw[upd_same] at q
   cases q
   exact exo_ok hx
  ·rw[upd_ne hb] at q
   by_cases hd:b=dx
   ·subst hd
    rw[upd_same] at q
    cases q
    exact exd_ok hns (relO_put (fs:=[]) rv fun g=>True.intro)
   ·rw[upd_ne hd] at q
    exact(I2.hok b o q).stay (fun c v hc z=>k c v (by
      rcases hc with hc|hc
      ·rw[hc]
       exact hb
      ·exact at_ne e hc exo_own) z)
     (fun c hc=>by rw[upd_ne (at_ne e hc exo_own),upd_ne (ne_of_none hc hnd)];exact hc) (fun c xs hc=>by rw[upd_ne (at_ne e hc exo_tup),upd_ne (ne_of_none hc hnd)];exact hc)
 have hd1:H1 dx=none:=by
  have:=hnd
  rwa [upd_ne dne] at this
 refine mk_end (fs:=[(f,v)]) (raises_own S.exC S.tyC) I1 hsz kk (Un1 _) I3.hok rfl I3.bare upd_same ?_ hd1 ?_
 ·rw[upd_ne dne,upd_same]
 ·have eH:upd (del (upd (upd Ha dx (exd dx [(f,v)])) a (exo a C (some dx))) a) dx (.xd [(f,v)])=upd H1 dx (.xd [(f,v)]):=by
   funext b
   by_cases hb:b=dx
   ·rw[hb,upd_same,upd_same]
   ·rw[upd_ne hb,upd_ne hb]
    by_cases ha:b=a
    ·rw[ha,del_same];exact hn.symm
    ·rw[del_ne ha,upd_ne ha,upd_ne hb]
     show upd H1 a _ b=_
     rw[upd_ne ha]
  rw[eH]
  exact q1 dx hd1
end
end Ev
namespace Ev
open PySem L2 PyProof.Rows
def pU(c:Nat)(f:ME):MS:=fun env S=>(f env S).then env fun r S1=>.ex (.exc c r.d) env S1
section
variable {Γ:Gm}{X:Cx}{W:WX}{pos:Pos}
theorem vS{c:Nat}{fI:Addr}{ar:Str}{B i newId:String}{bmB:List Value}{x:Str}{p pos':Pos}{e:Expr}{f:ME}{k:Nat}(hc:X.calm=true)(tk:Takes X W)(S:SupR X.prog X.K (Γ.cls c) fI (Γ.xf c) ar B i newId bmB)(hr:RoomG (k+1) X.A)(hg:Gl X x)(hm:X.mg x=some (.ref (Γ.cls c)))
  (he:PE X e (ay Γ W f)) (hdb:(x==("__debug__":Str))=false) (hs:notStar e=true):PS X (.Raise (some (.Call (.Name x p) [e] [] pos')) none pos) (dC Γ W (pU c f)):=
 (ps_raise hc tk (AA S hr hg hm he hdb hs)).weak fun Z σ H h=>by
  obtain⟨env,S,μ,a,h⟩:=h
  refine dN a h fun r S1 v H1 μ1 x1 rv g d hd=>?_
  have a1:=a.next x1 rv.sim.1
  have x2:Ext Γ μ1 H1 μ1 (upd H1 d (.xd [(Γ.xf c,v)])):=Ext.laid hd _
  exact g (.ref (Γ.cls c)) (some d) σ _ μ1 x2 (a1.next x2 (a1.sim.laid hd _)) ⟨rfl,d,v,rfl,⟨upd_same,a1.sim.nnew hd⟩,rv.sim.2.ext x2⟩
end
end Ev
namespace Ev
open PySem L2 PyProof.Rows LamX PySem.Spec
def Gn(H:Hp)(c:Addr)(q:Str):Prop:=H c=some (CodeO c q)∨∃P,H c=some (jB c q P)
theorem Gn.ne{H:Hp}{c p:Addr}{q:Str}(x:Gn H c q)(hp:H p=none):c≠p:=by
 rcases x with e| ⟨P,e⟩
 ·exact ne_of_none e hp
 ·exact ne_of_none e hp
end Ev
namespace Ev
open PySem L2 PyProof.Rows LamX
abbrev W0:WX:=fun _ _ _ _=>False
end Ev
namespace Ev
open PySem L2 PyProof.Rows
def HJ(K:PySem.W.Frag)(C:Addr)(H:Hp)(y:V):Prop:=(∃T,G8 K H y (.type T)∧PySem.W.notFirst K C (.type T)=true)∨∃b C' dx vs,y= .ref b∧SlX.Slt H b C' dx vs∧PySem.W.notFirst K C (.ref C')=true
section
variable {X:Cx}{pins:List (Addr×Obj)}{σ:L2.St}{H:Hp}{s:Shared}{C:Addr}{y:V}{u:Value}
theorem tF(I:Inv X pins σ H s)(r:RelV y u)(h:HJ X.K C H y):∃tb,PySem.W.Looks (model X.prog X.w) s.heap (typeOf u) tb∧PySem.W.notFirst X.K C tb=true:=by
 rcases h with⟨T,ty,hn⟩| ⟨b,C',dx,vs,rfl,hs,hn⟩
 ·obtain⟨P,Z,p,_⟩:=mq I r ty
  exact⟨_,Z.ty _ _ I.kIn p,hn⟩
 ·cases r
  obtain⟨sl,od,_,J,_⟩:=SlX.slt_inst I hs
  exact⟨_,J.type,hn⟩
end
abbrev BK:XK:=fun _ _ _=>False
section
variable {X:Cx}{CX:CXT}{k:Nat}{C g:Addr}{fd:FuncData}{ps:List Str}{sp:Sp}
theorem vR{σ:L2.St}(h:∀ (outer:List Env) (H:Hp) (s:Shared) (e:Value) (s':Shared),CX outer H s BK e s'→False):PassesAt CX X σ BK:=fun _ _ _ e s' _ c=>(h _ _ _ e s' c).elim
theorem sQ{P:Program}{w:World}(outer:List Env)(H:Hp)(s:Shared)(e:Value)(s':Shared)(h:L2.CX P w outer H s BK e s'):False:=by
 obtain⟨_,_,_,_,_,_,_,_,_,_,_,_,z⟩:=h
 exact z
def BC(K:PySem.W.Frag)(C:Addr)(sp:Sp):R2:=fun x y H Q=>∃a dx vs,x= .ref a∧SlX.Slt H a C dx vs∧HJ K C H y∧sp [x,y] H Q BK
theorem rL{op:CmpOp}(hop:∀a b,compareOp op a b=richCompare op a b)(hs:PySem.W.findIn X.K (.ref C) (cmpInfo op).2.1=some (some (.ref g)))(hf:PySem.W.isFn X.K (.ref g)=true)(F:FnG X.prog X.w X.K X.mg X.base (L2.CX X.prog X.w) k g fd ps sp)
  (hr:RoomG k X.A) (hb:Binds X.K fd ps []):OpR X (compareOp op) (BC X.K C sp):=by
 intro pins s σ H x y v u Q I rx ry h
 obtain⟨a,dx,vs,rfl,ha,ty,q⟩:=h
 cases(show v=Value.ref a from rx)
 obtain⟨sl,od,_,J,_⟩:=SlX.slt_inst I ha
 obtain⟨tb,hl,hn⟩:=tF I ry ty
 obtain⟨m,hF⟩:=I.fr
 rw[hop]
 refine PySem.W.cmp_K (op:=op) (tb:=tb) hr.room.units0 hF I.ok.mod.kin J hl hn hs hf ?_
 refine wpAny_mono (wpAny_call (gO (E:=fun _=>BK) (us:=[.ref a,u]) (vs:=[.ref a,y]) F hr hb .nil (vR sQ) I (.cons rfl (.cons ry .nil)) q)) (fun w s' z=>?_) fun _ _ x=>x
 obtain⟨z',H',I',rz,qz⟩:=z
 exact SlX.cmpback rz ⟨z',H',I',rz,qz⟩
theorem RoomG.in1{k:Nat}{A:Around}(r:RoomG (k+1) A):RoomG k A.in1:=⟨r.room.in1,r.gd⟩
def Bp(C:Addr)(sp:Sp):R2:=fun x y H Q=>∃a dx vs b dy ws,x= .ref a∧SlX.Slt H a C dx vs∧y= .ref b∧SlX.Slt H b C dy ws∧sp [x,y] H Q BK
theorem Ap{op:Operator}(hc:PySem.W.selfFirst X.K C=true)(hs:PySem.W.findIn X.K (.ref C) (PySem.dunder op.info.2)=some (some (.ref g)))(hf:PySem.W.isFn X.K (.ref g)=true)
  (F:FnG X.prog X.w X.K X.mg X.base (L2.CX X.prog X.w) k g fd ps sp) (hr:RoomG k X.A) (hb:Binds X.K fd ps []):OpR X (binaryOp op) (Bp C sp):=by
 intro pins s σ H x y v u Q I rx ry h
 obtain⟨a,dx,vs,b,dy,ws,rfl,ha,rfl,hb2,q⟩:=h
 cases(show v=Value.ref a from rx)
 cases(show u=Value.ref b from ry)
 obtain⟨sl,od,_,J,_⟩:=SlX.slt_inst I ha
 obtain⟨sl',od',_,J',_⟩:=SlX.slt_inst I hb2
 obtain⟨m,hF⟩:=I.fr
 refine PySem.W.binop_K hF I.ok.mod.kin J J'.type hc hs hf ?_
 refine wpAny_mono (wpAny_call (gO (E:=fun _=>BK) (us:=[.ref a,.ref b]) (vs:=[.ref a,.ref b]) F hr hb .nil (vR sQ) I (.cons rfl (.cons rfl .nil)) q)) (fun w s' z=>?_) fun _ _ x=>x
 obtain⟨z',H',I',rz,qz⟩:=z
 exact SlX.cmpback rz ⟨z',H',I',rz,qz⟩
end
section
variable {Γ:Gm}{X:Cx}{W:WX}{pos:Pos}
def CY:MS:=fun _ _=>.bad
theorem Ay{st:Stmt}:PS X st (dC Γ W CY):=⟨fun pins s σ H D I h=>by
 obtain⟨env,S,μ,a,h⟩:=h
 exact False.elim h⟩
def eI(op:a0→D→D→R RV)(f g:ME):ME:=fun env S=>(f env S).bind fun x S1=>(g env S1).bind fun y S2=>fW (op S2 x.d y.d)
def uH(Γ:Gm)(op:a0→D→D→R RV)(r:R2):Prop:=∀ (H:Hp) (μ:Mu) (S:a0) (x y:V) (dx dy:D) (Q:VK),Sim Γ μ H S→ef Γ H→Rep Γ H μ x dx→Rep Γ H μ y dy→(op S dx dy).sat (aU Γ μ H Q) (fun _ _=>False)→r x y H Q
theorem mU{op:a0→D→D→R RV}{f g:ME}{r:R2}(hr:uH Γ op r){σ:L2.St}{H:Hp}{Q:VK}(h:ay Γ W (eI op f g) σ H Q):tOp r (ay Γ W f) (ay Γ W g) σ H Q:=by
 obtain⟨env,S,μ,a,h⟩:=h
 unfold eI at h
 rw[R.sat_bind] at h
 refine aW a (R.sat_imp h (fun r S' q=>q) fun x S' q=>q) fun r1 S1 v1 H1 μ1 x1 rv1 q1=>?_
 obtain⟨s1,p1⟩:=rv1.sim
 rw[R.sat_bind] at q1
 refine aW (a.next x1 s1) (R.sat_imp q1 (fun r S' q=>q) fun x S' q=>q.ext x1) fun r2 S2 v2 H2 μ2 x2 rv2 q2=>?_
 obtain⟨s2,p2⟩:=rv2.sim
 exact hr H2 μ2 S2 v1 v2 _ _ Q s2 ((x1.trans x2).tabs a.tabs) (p1.ext x2) p2 (R.sat_imp (R.sat_noEx q2) (fun z S3 q=>aU.ext (x1.trans x2) q) fun _ _ z=>z)
theorem CL{op:Operator}{a b:Expr}{f g:ME}{r:R2}{o:a0→D→D→R RV}(ho:OpR X (binaryOp op) r)(hr:uH Γ o r)(ha:PE X a (ay Γ W f))(hb:PE X b (ay Γ W g)):PE X (.BinOp a op b pos) (ay Γ W (eI o f g)):=
 (pe_op ho ha hb).weak fun σ H Q h=>mU hr h
theorem As{op:CmpOp}{a b:Expr}{f g:ME}{r:R2}{o:a0→D→D→R RV}(ho:OpR X (compareOp op) r)(hr:uH Γ o r)(ha:PE X a (ay Γ W f))(hb:PE X b (ay Γ W g))(hm:behindInMarks op b=false):PE X (.Compare a [op] [b] pos) (ay Γ W (eI o f g)):=
 (pe_cmpR ho ha hb hm).weak fun σ H Q h=>mU hr h
theorem vr{op:CmpOp}{a b:Expr}{f g:ME}{r:R2}{o:a0→D→D→R RV}(ho:OpR X (compareOp op) r)(hr:uH Γ o r)(ha:PE X a (ay Γ W f))(hb:PE X b (ay Γ W g))(hm:behindInMarks op b=false):PT X (.Compare a [op] [b] pos) (gG Γ W (ao (eI o f g))):=
 (pt_cmpR ho ha hb hm).weak fun σ H Q h=>ni (fun Q' h'=>mU hr h') h
def HB(cs:List Nat)(S:a0)(d:D):Bool:=match oQ S d with|some c=>decide (c∈cs)|none=>(tyOf S d).isSome
structure OwnY(Γ:Gm)(cs:List Nat)(c:Nat):Prop where
 ty:∀T∈wG,PySem.W.notFirst Γ.K (Γ.cls c) (.type T)=true
 own:∀d∈cs,PySem.W.notFirst Γ.K (Γ.cls c) (.ref (Γ.cls d))=true
theorem CN{cs:List Nat}{c:Nat}{H:Hp}{μ:Mu}{S:a0}{v:V}{d:D}(o:OwnY Γ cs c)(s:Sim Γ μ H S)(r:Rep Γ H μ v d)(h:HB cs S d=true):HJ Γ.K (Γ.cls c) H v:=by
 unfold HB at h
 split at h
 ·rename_i c' hc
  obtain⟨b,dx,vs,rfl,hs⟩:=iO s r hc
  exact .inr ⟨b,_,dx,vs,rfl,hs,o.own c' (JL h)⟩
 ·obtain⟨t,ht⟩:=Option.isSome_iff_exists.mp h
  exact .inl ⟨t,iq s r ht,o.ty t (oS ht)⟩
def gm(g:Cfg)(c i:Nat)(cs:List Nat)(S:a0)(x y:D):R RV:=if yU c S x&&HB cs S y then fW (g.call i [x,y] S) else .bad
def fq(g:Cfg)(c i:Nat)(S:a0)(x y:D):R RV:=if yU c S x&&yU c S y then fW (g.call i [x,y] S) else .bad
theorem rZ{f:List D→a0→R RV}{H:Hp}{μ:Mu}{S:a0}{x y:V}{dx dy:D}{Q:VK}(s:Sim Γ μ H S)(t:ef Γ H)(rx:Rep Γ H μ x dx)(ry:Rep Γ H μ y dy)(h:(f [dx,dy] S).sat (aU Γ μ H Q) (fun _ _=>False)):jd Γ f 2 [x,y] H Q BK:=
 ⟨rfl,_,S,μ,s,t,.cons rx (.cons ry .nil),R.sat_imp h (fun _ _ q=>q) fun _ _ z=>z.elim⟩
theorem sH{g:Cfg}{c i:Nat}{cs:List Nat}(o:OwnY Γ cs c):uH Γ (gm g c i cs) (BC Γ.K (Γ.cls c) (jd Γ (g.call i) 2)):=by
 intro H μ S x y dx dy Q s t rx ry h
 unfold gm at h
 split at h
 ·rename_i hc
  obtain⟨h1,h2⟩:=Jn.mp hc
  obtain⟨a,dd,vs,rfl,hs⟩:=iO s rx (beq_iff_eq.mp h1)
  exact⟨a,dd,vs,rfl,hs,CN o s ry h2,rZ s t rx ry (R.sat_noEx h)⟩
 ·exact False.elim h
theorem AW{g:Cfg}{c i:Nat}:uH Γ (fq g c i) (Bp (Γ.cls c) (jd Γ (g.call i) 2)):=by
 intro H μ S x y dx dy Q s t rx ry h
 unfold fq at h
 split at h
 ·rename_i hc
  obtain⟨h1,h2⟩:=Jn.mp hc
  obtain⟨a,dd,vs,rfl,hs⟩:=iO s rx (beq_iff_eq.mp h1)
  obtain⟨b,de,ws,rfl,hs2⟩:=iO s ry (beq_iff_eq.mp h2)
  exact⟨a,dd,vs,b,de,ws,rfl,hs,rfl,hs2,rZ s t rx ry (R.sat_noEx h)⟩
 ·exact False.elim h
theorem Dh{x:Str}{u:Addr}{d:D}(hg:Gl X x)(hm:X.mg x=some (.ref u))(hdb:(x==("__debug__":Str))=false)(r:∀H μ,Rep Γ H μ (.ref u) d):PE X (.Name x pos) (ay Γ W (ah d)):=jC (pe_glob (v:=.ref u) hg hm rfl hdb) r
def ve(kd:Str→Option D)(f:ME):ME:=fun env S=>(f env S).bind fun r S1=>match r.d with| .str z=>(match kd z with|some d=>.ok (.val d) S1|none=>.bad)|_=>.bad
def CH(Γ:Gm)(u:Addr)(kd:Str→Option D):Prop:=∀z d,kd z=some d→∃ (v:V) (w:Value),PySem.W.nsIn Γ.K u z=some (some w)∧RelV v w∧∀H μ,Rep Γ H μ v d
theorem EW{d:Addr}{es:Array DictEntry}{n:Nat}(D:KDict X.K X.w d es n):IxR X (fun x y H Q=>∃ (z:Str) (u0:Value) (v0:V),x= .ref d∧y= .str z∧PySem.W.nsIn X.K d z=some (some u0)∧RelV v0 u0∧Q v0 H):=by
 intro value slice pins s σ H x y v u Q I rx ry h hs
 obtain⟨z,u0,v0,rfl,rfl,e,r,q⟩:=h
 cases(show v=Value.ref d from rx)
 exact PyProof.Rows.tail_any (kd_type D I) PySem.F.slot_dict_getitem.lookup (op_item_kd D pins s σ H (.ref d) (.str z) (.ref d) u Q I rfl ry ⟨z,u0,v0,rfl,rfl,e,r,q⟩) hs
theorem Hg{x:Str}{u:Addr}{es:Array DictEntry}{n:Nat}{kd:Str→Option D}{p:Pos}{e:Expr}{f:ME}(hK:X.K=Γ.K)(hg:Gl X x)(hm:X.mg x=some (.ref u))(hdb:(x==("__debug__":Str))=false)(hd:KDict X.K X.w u es n)(hk:CH Γ u kd)(he:PE X e (ay Γ W f))(hs:gR e=true):
  PE X (.Subscript (.Name x p) e pos) (ay Γ W (ve kd f)):=
 (pe_ix (EW hd) (pe_glob (v:=.ref u) hg hm rfl hdb) he (jQ hs)).weak fun σ H Q h=>by
  show ay Γ W f σ H _
  obtain⟨env,S,μ,a,h⟩:=h
  unfold ve at h
  rw[R.sat_bind] at h
  refine aW a h fun r1 S1 v1 H1 μ1 x1 rv1 q1=>?_
  obtain⟨s1,p1⟩:=rv1.sim
  generalize r1.d=dr at p1 q1
  cases dr with
  |str z=>
   cases p1
   simp only at q1
   split at q1
   ·rename_i d hd2
    obtain⟨v,w,k1,k2,k3⟩:=hk z d hd2
    exact⟨z,w,v,rfl,rfl,by rw[hK];exact k1,k2,q1 v H1 μ1 x1 ⟨s1,k3 H1 μ1⟩⟩
   ·exact False.elim q1
  |_=>exact False.elim q1
end
theorem eC:∀ {vs:List V} {us:List Value} {i:Nat} {u:Value},Vals vs us→us[i]? =some u→∃v,vs[i]? =some v∧RelV v u
 |_,_,_,_,.nil,e=>by simp at e
 |_,_,0,_,.cons r _,e=>by simp at e;subst e;exact⟨_,rfl,r⟩
 |_,_,i+1,u,.cons _ t,e=>by
  obtain⟨v,h1,h2⟩:=eC (i:=i) (u:=u) t (by simpa using e)
  exact⟨v,by simpa using h1,h2⟩
def kE(K:PySem.W.Frag)(k:Bool)(H:Hp)(a:Addr)(xs:List V):Prop:=match k with|false=>SqL K H a xs|true=>SqT K H a xs
def SeqAt(k:Bool)(h:Heap)(a:Addr)(its:Array Value):Prop:=match k with|false=>h.IsList a its|true=>h.IsTuple a its
def fZ(k:Bool)(h:Heap)(it a:Addr)(i:Nat):Prop:=match k with|false=>h.IsListIter it a i|true=>h.IsTupleIter it a i
def Fe(k:Bool)(a:Addr):Obj:=match k with|false=>{ cls:=.type "list_iterator",data:=.fields #[.ref a,.int 0 0]}|true=>{ cls:=.type "tuple_iterator",data:=.fields #[.ref a,.int 0 0]}
theorem cW{prog:Program}{w:World}{A:Around}(k:Bool)(hh:A.handled=none)(it a:Addr)(hne:a≠it)(items:Array Value):
  Draws prog w A it [it,a] items.size (fun i v=>items[i]? =some v) (fun i h=>fZ k h it a i∧SeqAt k h a items):=by
 cases k
 ·exact Draws.list hh it a hne items
 ·exact Draws.tuple hh it a hne items
theorem fc(k:Bool)(a:Addr)(items:Array Value):Begins (.ref a) (Fe k a) fun h=>SeqAt k h a items:=by
 cases k
 ·exact begins_list a items
 ·exact begins_tuple a items
theorem ia{k:Bool}{h:Heap}{it a:Addr}(e:h.get? it=some (Fe k a)):fZ k h it a 0:=by
 cases k
 ·exact⟨_,e,rfl,rfl⟩
 ·exact⟨_,e,rfl,rfl⟩
theorem bE{k:Bool}{h:Heap}{it a:Addr}{i:Nat}(e:fZ k h it a i):∃o,h.get? it=some o∧∀v,o.data≠ .cell v:=by
 cases k
 ·obtain⟨o,e1,_,d⟩:=e;exact⟨o,e1,fun v q=>by rw[d] at q;cases q⟩
 ·obtain⟨o,e1,_,d⟩:=e;exact⟨o,e1,fun v q=>by rw[d] at q;cases q⟩
theorem bY{k:Bool}{h h':Heap}{it a:Addr}{i:Nat}(e:fZ k h it a i)(q:∀o,h.get? it=some o→h'.get? it=some o):fZ k h' it a i:=by
 cases k
 ·exact Heap.IsListIter.at e q
 ·exact Heap.IsTupleIter.at e q
theorem dP{X:Cx}{pins:List (Addr×Obj)}{σ:L2.St}{H:Hp}{s:Shared}{k:Bool}{a:Addr}{xs:List V}(I:Inv X pins σ H s)(h:kE X.K k H a xs):∃its:List Value,Vals xs its∧SeqAt k s.heap a its.toArray∧a<s.heap.objs.size:=by
 cases k
 ·obtain⟨its,r,p,_⟩:=I.list h
  exact⟨its,r,p.isList,p.lt⟩
 ·obtain⟨its,r,p,_⟩:=I.tuple h
  obtain⟨o,ho,_⟩:=id p
  exact⟨its,r,p,Heap.lt_size ho⟩
def A2(K:PySem.W.Frag)(k1 k2:Bool)(a1 a2:Addr)(xs1 xs2:List V):It:=
 ⟨fun i H=>(kE K k1 H a1 xs1∧kE K k2 H a2 xs2)∧i<xs1.length∧i<xs2.length,
  fun i H v H'=>∃T ob y1 y2,v= .ref T∧ob.dict=none∧H T=none∧H'=upd H T (.frz ob (.tup [y1,y2]))∧xs1[i]? =some y1∧xs2[i]? =some y2,
  fun i H=>(kE K k1 H a1 xs1∧kE K k2 H a2 xs2)∧i=min xs1.length xs2.length⟩
theorem Af{P:Program}{w:World}{K:PySem.W.Frag}{elts:List Expr}{kk:Nat}{tpos:Pos}{k1 k2:Bool}{a1 a2 z TI TO i1 i2:Addr}{xs1 xs2:List V}(S:ZipSep2 z TI TO i1 i2 [i1,a1] [i2,a2])(n1:a1≠i1)(n2:a2≠i2):
  Turn P w K (.Tuple elts kk tpos) (A2 K k1 k2 a1 a2 xs1 xs2) [z,TI,TO,i1,i2] z (fun i h=>IsZip h z TI TO .none∧IsTupOf2 h TI (.ref i1) (.ref i2)∧(∃b1 b2,IsTupOf2 h TO b1 b2)∧fZ k1 h i1 a1 i∧fZ k2 h i2 a2 i) where
 mem:=by simp
 obj:=fun i h st c hc=>by
  obtain⟨hz,hTI,⟨b1,b2,hTO⟩,h1,h2⟩:=st
  have e':c=z∨c=TI∨c=TO∨c=i1∨c=i2:=by simpa using hc
  rcases e' with q|q|q|q|q
  ·rw[q];exact⟨_,hz,fun v q=>nomatch q⟩
  ·rw[q];exact⟨_,hTI,fun v q=>nomatch q⟩
  ·rw[q];exact⟨_,hTO,fun v q=>nomatch q⟩
  ·rw[q];exact bE h1
  ·rw[q];exact bE h2
 keep:=fun i h h' st k=>by
  obtain⟨hz,hTI,⟨b1,b2,hTO⟩,h1,h2⟩:=st
  exact⟨k z (by simp) _ hz,k TI (by simp) _ hTI,⟨b1,b2,k TO (by simp) _ hTO⟩,bY h1 fun o q=>k i1 (by simp) o q,bY h2 fun o q=>k i2 (by simp) o q⟩
 item:=by
  intro X hP hw hK hc i pins s σ H E I hf st hg
  subst hP hw hK
  obtain⟨hz,hTI,⟨b1,b2,hTO⟩,h1,h2⟩:=st
  obtain⟨⟨g1,g2⟩,l1,l2⟩:=hg
  obtain⟨its1,rv1,p1,_⟩:=dP I g1
  have e1:=rv1.length
  obtain⟨its2,rv2,p2,_⟩:=dP I g2
  have e2:=rv2.length
  have hzl:z<s.heap.objs.size:=Heap.lt_size hz
  have hh:X.A.in1.handled=none:=I.ok.hd hc
  refine wpAny_pyNext_zipD2_item S (cW k1 hh i1 a1 n1 its1.toArray) (cW k2 hh i2 a2 n2 its2.toArray) hz hTI hTO ⟨h1,p1⟩ ⟨h2,p2⟩ (by simp;omega) (by simp;omega) fun u1 u2 h' tk m1 m2 z' TO' h1' h2' hT hsz hk=>?_
  refine⟨_,rfl,wpAny_letOwnedTupleGo_zip (s:={ s with heap:=h',toks:=tk}) z' fun h'' z'' sb=>?_⟩
  have hT2:h''.get? s.heap.objs.size=some { cls:=.type "tuple",data:=.seq #[u1,u2]}:=(sb.2 _ (JA hzl)).trans hT
  have t1:its1[i]? =some u1:=by rw[← Array.getElem?_toList] at m1;exact m1
  obtain⟨y1,hy1,ry1⟩:=eC rv1 t1
  have t2:its2[i]? =some u2:=by rw[← Array.getElem?_toList] at m2;exact m2
  obtain⟨y2,hy2,ry2⟩:=eC rv2 t2
  have new:ObjOk X.prog X.w (upd H s.heap.objs.size (.frz { cls:=.type "tuple",data:=.seq #[u1,u2]} (.tup [y1,y2]))) h'' s.heap.objs.size (.frz { cls:=.type "tuple",data:=.seq #[u1,u2]} (.tup [y1,y2])):=
   ⟨hT2,by show 2≤sizeLine;decide,[u1,u2],.cons ry1 (.cons ry2 .nil),⟨_,hT2,rfl,_,rfl⟩⟩
  have I1:Inv X pins σ (upd H s.heap.objs.size (.frz { cls:=.type "tuple",data:=.seq #[u1,u2]} (.tup [y1,y2]))) { s with heap:=h'',toks:=tk}:=
   I.turnedNew (t':=tk) (ch:=[z,TI,TO,i1,i2]) (fun c o hb q=>(sb.2 c (fun q'=>hb (by simp[q']))).trans (hk c o (fun q'=>hb (by simp[q'])) (fun q'=>hb (by simp[q'])) (fun q'=>hb (by simp[q'])) (fun q'=>hb (by simp[q'])) q)) hf (JD _) new
  refine⟨.ref s.heap.objs.size,_,I1,rfl,⟨_,_,y1,y2,rfl,rfl,I.hok.fresh (JD _),rfl,hy1,hy2⟩,⟨z'',?_,⟨u1,u2,?_⟩,?_,?_⟩,fun c hcm=>?_⟩
  ·exact(sb.2 _ S.TIz).trans (hk _ _ S.TIz S.TITO S.TIi1 S.TIi2 hTI)
  ·exact(sb.2 _ S.TOz).trans TO'
  ·exact bY h1'.1 fun o q=>(sb.2 _ (fun e=>S.zi1 e.symm)).trans q
  ·exact bY h2'.1 fun o q=>(sb.2 _ (fun e=>S.zi2 e.symm)).trans q
  ·have hlt:c<s.heap.objs.size:=by
    have e':c=z∨c=TI∨c=TO∨c=i1∨c=i2:=by simpa using hcm
    rcases e' with q|q|q|q|q
    ·rw[q];exact hzl
    ·rw[q];exact Heap.lt_size hTI
    ·rw[q];exact Heap.lt_size hTO
    ·rw[q];obtain⟨_,e,_⟩:=bE h1;exact Heap.lt_size e
    ·rw[q];obtain⟨_,e,_⟩:=bE h2;exact Heap.lt_size e
   rw[upd_ne (Jm hlt)]
   exact(hf c hcm).1
 done:=by
  intro X hP hw hK hc i pins s σ H E I hf st hg
  subst hP hw hK
  obtain⟨hz,hTI,⟨b1,b2,hTO⟩,h1,h2⟩:=st
  obtain⟨⟨g1,g2⟩,hend⟩:=hg
  obtain⟨its1,rv1,p1,_⟩:=dP I g1
  have e1:=rv1.length
  obtain⟨its2,rv2,p2,_⟩:=dP I g2
  have e2:=rv2.length
  have hh:X.A.in1.handled=none:=I.ok.hd hc
  exact wpAny_pyNext_zipD2_end S (cW k1 hh i1 a1 n1 its1.toArray) (cW k2 hh i2 a2 n2 its2.toArray) hz hTI hTO ⟨h1,p1⟩ ⟨h2,p2⟩ (by simp;omega) (by simp;omega) (by simp;omega) fun h' tk hk=>⟨rfl,I.turnedL (t':=tk) (ch:=[z,TI,TO,i1,i2]) (fun c o hb q=>
   hk c o (fun q'=>hb (by simp[q'])) (fun q'=>hb (by simp[q'])) (fun q'=>hb (by simp[q'])) (fun q'=>hb (by simp[q'])) q) hf⟩
 self:=fun A i s Q E st h=>wpAny_pyIter_zip st.1 h
def J5(K:PySem.W.Frag)(ta:TA):TI:=fun σ H R=>ta σ H fun vs H1=>∃k1 k2 a1 a2 xs1 xs2,vs=[.ref a1,.ref a2]∧(kE K k1 H1 a1 xs1∧kE K k2 H1 a2 xs2)∧R (A2 K k1 k2 a1 a2 xs1 xs2) H1
theorem Hj{X:Cx}{e1 e2:Expr}{ta:TA}{p pos tpos:Pos}{elts:List Expr}{kk:Nat}(hg:Gl X "zip")(hm:X.mg "zip"=none)(ha:PA X [e1,e2] ta)
  (hs:starEach [e1,e2] X.env=(false,eval e1 X.env)::starEach [e2] X.env) (hpl:(backTo pos (starEach [e2] X.env)).any (·.1)=false):
  PI X (.Tuple elts kk tpos) (.Call (.Name "zip" p) [e1,e2] [] pos) (J5 X.K ta):=by
 refine⟨fun pins s σ H R I h=>?_⟩
 refine Call_ (ld_blt I hg hm PyProof.Rows.boot_zip (PyProof.Rows.callWith_type1 (thn (ha.run pos pins s σ H _ I h) fun us s1 ⟨vs,H1,I1,r1,q1⟩=>?_) hs hpl))
 obtain⟨k1,k2,a1,a2,xs1,xs2,ex,⟨g1,g2⟩,q⟩:=q1
 subst ex
 have ev:us=[.ref a1,.ref a2]:=by
  cases r1 with
  |cons v1 r1'=>
   cases r1' with
   |cons v2 r1''=>
    cases r1''
    cases v1
    cases v2
    rfl
 subst ev
 obtain⟨its1,rv1,p1,lt1⟩:=dP I1 g1
 obtain⟨its2,rv2,p2,lt2⟩:=dP I1 g2
 have fresh5:∀c,c∈[s1.heap.objs.size+4,s1.heap.objs.size+2,s1.heap.objs.size+3,s1.heap.objs.size,s1.heap.objs.size+1]→FpOk X pins H1 c:=fun c hcm=>by
  have e':c=s1.heap.objs.size+4∨c=s1.heap.objs.size+2∨c=s1.heap.objs.size+3∨c=s1.heap.objs.size∨c=s1.heap.objs.size+1:=by simpa using hcm
  have hle:s1.heap.objs.size≤c:=by
   rcases e' with z|z|z|z|z
   ·rw[z];exact JV _ _
   ·rw[z];exact JV _ _
   ·rw[z];exact JV _ _
   ·rw[z];exact JD _
   ·rw[z];exact JV _ _
  exact I1.fpOk hle (I1.hok.fresh hle)
 refine zip_begins2 (fc k1 a1 its1.toArray) (fc k2 a2 its2.toArray) p1 p2 fun h' hz hTI hTO h1 h2 hsz hk=>wpAny_pyIter_zip hz ?_
 have I2:Inv X pins σ H1 { s1 with heap:=h'}:=I1.kept (t':=s1.toks) hk
 exact⟨_,[s1.heap.objs.size+4,s1.heap.objs.size+2,s1.heap.objs.size+3,s1.heap.objs.size,s1.heap.objs.size+1],_,_,H1,rfl,I2,Af (zip_sep2 (fp1:=[a1]) (fun b hb=>by rw[Jg.mp hb];exact lt1) (fp2:=[a2]) (fun b hb=>by rw[Jg.mp hb];exact lt2)) (Jm lt1) (Jm (Jk lt2 (JV _ _))),⟨hz,hTI,⟨_,_,hTO⟩,ia h1,ia h2⟩,fresh5,q⟩
def zZ(K:PySem.W.Frag)(k1 k2 k3:Bool)(a1 a2 a3:Addr)(xs1 xs2 xs3:List V):It:=
 ⟨fun i H=>(kE K k1 H a1 xs1∧kE K k2 H a2 xs2∧kE K k3 H a3 xs3)∧i<xs1.length∧i<xs2.length∧i<xs3.length,
  fun i H v H'=>∃T ob y1 y2 y3,v= .ref T∧ob.dict=none∧H T=none∧H'=upd H T (.frz ob (.tup [y1,y2,y3]))∧xs1[i]? =some y1∧xs2[i]? =some y2∧xs3[i]? =some y3,
  fun i H=>(kE K k1 H a1 xs1∧kE K k2 H a2 xs2∧kE K k3 H a3 xs3)∧i=min (min xs1.length xs2.length) xs3.length⟩
theorem zk{P:Program}{w:World}{K:PySem.W.Frag}{elts:List Expr}{kk:Nat}{tpos:Pos}{k1 k2 k3:Bool}{a1 a2 a3 z TI TO i1 i2 i3:Addr}{xs1 xs2 xs3:List V}(S:ZipSep3 z TI TO i1 i2 i3 [i1,a1] [i2,a2] [i3,a3])(n1:a1≠i1)(n2:a2≠i2)(n3:a3≠i3):
  Turn P w K (.Tuple elts kk tpos) (zZ K k1 k2 k3 a1 a2 a3 xs1 xs2 xs3) [z,TI,TO,i1,i2,i3] z (fun i h=>IsZip h z TI TO .none∧IsTupOf3 h TI (.ref i1) (.ref i2) (.ref i3)∧(∃b1 b2 b3,IsTupOf3 h TO b1 b2 b3)∧fZ k1 h i1 a1 i∧fZ k2 h i2 a2 i∧fZ k3 h i3 a3 i) where
 mem:=by simp
 obj:=fun i h st c hc=>by
  obtain⟨hz,hTI,⟨b1,b2,b3,hTO⟩,h1,h2,h3⟩:=st
  have e':c=z∨c=TI∨c=TO∨c=i1∨c=i2∨c=i3:=by simpa using hc
  rcases e' with q|q|q|q|q|q
  ·rw[q];exact⟨_,hz,fun v q=>nomatch q⟩
  ·rw[q];exact⟨_,hTI,fun v q=>nomatch q⟩
  ·rw[q];exact⟨_,hTO,fun v q=>nomatch q⟩
  ·rw[q];exact bE h1
  ·rw[q];exact bE h2
  ·rw[q];exact bE h3
 keep:=fun i h h' st k=>by
  obtain⟨hz,hTI,⟨b1,b2,b3,hTO⟩,h1,h2,h3⟩:=st
  exact⟨k z (by simp) _ hz,k TI (by simp) _ hTI,⟨b1,b2,b3,k TO (by simp) _ hTO⟩,bY h1 fun o q=>k i1 (by simp) o q,bY h2 fun o q=>k i2 (by simp) o q,bY h3 fun o q=>k i3 (by simp) o q⟩
 item:=by
  intro X hP hw hK hc i pins s σ H E I hf st hg
  subst hP hw hK
  obtain⟨hz,hTI,⟨b1,b2,b3,hTO⟩,h1,h2,h3⟩:=st
  obtain⟨⟨g1,g2,g3⟩,l1,l2,l3⟩:=hg
  obtain⟨its1,rv1,p1,_⟩:=dP I g1
  have e1:=rv1.length
  obtain⟨its2,rv2,p2,_⟩:=dP I g2
  have e2:=rv2.length
  obtain⟨its3,rv3,p3,_⟩:=dP I g3
  have e3:=rv3.length
  have hzl:z<s.heap.objs.size:=Heap.lt_size hz
  have hh:X.A.in1.handled=none:=I.ok.hd hc
  refine wpAny_pyNext_zipD3_item S (cW k1 hh i1 a1 n1 its1.toArray) (cW k2 hh i2 a2 n2 its2.toArray) (cW k3 hh i3 a3 n3 its3.toArray) hz hTI hTO ⟨h1,p1⟩ ⟨h2,p2⟩ ⟨h3,p3⟩ (by simp;omega) (by simp;omega) (by simp;omega) fun u1 u2 u3 h' tk m1 m2 m3 z' TO' h1' h2' h3' hT hsz hk=>?_
  refine⟨_,rfl,wpAny_letOwnedTupleGo_zip (s:={ s with heap:=h',toks:=tk}) z' fun h'' z'' sb=>?_⟩
  have hT2:h''.get? s.heap.objs.size=some { cls:=.type "tuple",data:=.seq #[u1,u2,u3]}:=(sb.2 _ (JA hzl)).trans hT
  have t1:its1[i]? =some u1:=by rw[← Array.getElem?_toList] at m1;exact m1
  obtain⟨y1,hy1,ry1⟩:=eC rv1 t1
  have t2:its2[i]? =some u2:=by rw[← Array.getElem?_toList] at m2;exact m2
  obtain⟨y2,hy2,ry2⟩:=eC rv2 t2
  have t3:its3[i]? =some u3:=by rw[← Array.getElem?_toList] at m3;exact m3
  obtain⟨y3,hy3,ry3⟩:=eC rv3 t3
  have new:ObjOk X.prog X.w (upd H s.heap.objs.size (.frz { cls:=.type "tuple",data:=.seq #[u1,u2,u3]} (.tup [y1,y2,y3]))) h'' s.heap.objs.size (.frz { cls:=.type "tuple",data:=.seq #[u1,u2,u3]} (.tup [y1,y2,y3])):=
   ⟨hT2,by show 3≤sizeLine;decide,[u1,u2,u3],.cons ry1 (.cons ry2 (.cons ry3 .nil)),⟨_,hT2,rfl,_,rfl⟩⟩
  have I1:Inv X pins σ (upd H s.heap.objs.size (.frz { cls:=.type "tuple",data:=.seq #[u1,u2,u3]} (.tup [y1,y2,y3]))) { s with heap:=h'',toks:=tk}:=
   I.turnedNew (t':=tk) (ch:=[z,TI,TO,i1,i2,i3]) (fun c o hb q=>(sb.2 c (fun q'=>hb (by simp[q']))).trans (hk c o (fun q'=>hb (by simp[q'])) (fun q'=>hb (by simp[q'])) (fun q'=>hb (by simp[q'])) (fun q'=>hb (by simp[q'])) (fun q'=>hb (by simp[q'])) q)) hf (JD _) new
  refine⟨.ref s.heap.objs.size,_,I1,rfl,⟨_,_,y1,y2,y3,rfl,rfl,I.hok.fresh (JD _),rfl,hy1,hy2,hy3⟩,⟨z'',?_,⟨u1,u2,u3,?_⟩,?_,?_,?_⟩,fun c hcm=>?_⟩
  ·exact(sb.2 _ S.TIz).trans (hk _ _ S.TIz S.TITO S.TIi1 S.TIi2 S.TIi3 hTI)
  ·exact(sb.2 _ S.TOz).trans TO'
  ·exact bY h1'.1 fun o q=>(sb.2 _ (fun e=>S.zi1 e.symm)).trans q
  ·exact bY h2'.1 fun o q=>(sb.2 _ (fun e=>S.zi2 e.symm)).trans q
  ·exact bY h3'.1 fun o q=>(sb.2 _ (fun e=>S.zi3 e.symm)).trans q
  ·have hlt:c<s.heap.objs.size:=by
    have e':c=z∨c=TI∨c=TO∨c=i1∨c=i2∨c=i3:=by simpa using hcm
    rcases e' with q|q|q|q|q|q
    ·rw[q];exact hzl
    ·rw[q];exact Heap.lt_size hTI
    ·rw[q];exact Heap.lt_size hTO
    ·rw[q];obtain⟨_,e,_⟩:=bE h1;exact Heap.lt_size e
    ·rw[q];obtain⟨_,e,_⟩:=bE h2;exact Heap.lt_size e
    ·rw[q];obtain⟨_,e,_⟩:=bE h3;exact Heap.lt_size e
   rw[upd_ne (Jm hlt)]
   exact(hf c hcm).1
 done:=by
  intro X hP hw hK hc i pins s σ H E I hf st hg
  subst hP hw hK
  obtain⟨hz,hTI,⟨b1,b2,b3,hTO⟩,h1,h2,h3⟩:=st
  obtain⟨⟨g1,g2,g3⟩,hend⟩:=hg
  obtain⟨its1,rv1,p1,_⟩:=dP I g1
  have e1:=rv1.length
  obtain⟨its2,rv2,p2,_⟩:=dP I g2
  have e2:=rv2.length
  obtain⟨its3,rv3,p3,_⟩:=dP I g3
  have e3:=rv3.length
  have hh:X.A.in1.handled=none:=I.ok.hd hc
  exact wpAny_pyNext_zipD3_end S (cW k1 hh i1 a1 n1 its1.toArray) (cW k2 hh i2 a2 n2 its2.toArray) (cW k3 hh i3 a3 n3 its3.toArray) hz hTI hTO ⟨h1,p1⟩ ⟨h2,p2⟩ ⟨h3,p3⟩ (by simp;omega) (by simp;omega) (by simp;omega) (by simp;omega) fun h' tk hk=>⟨rfl,I.turnedL (t':=tk) (ch:=[z,TI,TO,i1,i2,i3]) (fun c o hb q=>
   hk c o (fun q'=>hb (by simp[q'])) (fun q'=>hb (by simp[q'])) (fun q'=>hb (by simp[q'])) (fun q'=>hb (by simp[q'])) (fun q'=>hb (by simp[q'])) q) hf⟩
 self:=fun A i s Q E st h=>wpAny_pyIter_zip st.1 h
def Jd(K:PySem.W.Frag)(ta:TA):TI:=fun σ H R=>ta σ H fun vs H1=>∃k1 k2 k3 a1 a2 a3 xs1 xs2 xs3,vs=[.ref a1,.ref a2,.ref a3]∧(kE K k1 H1 a1 xs1∧kE K k2 H1 a2 xs2∧kE K k3 H1 a3 xs3)∧R (zZ K k1 k2 k3 a1 a2 a3 xs1 xs2 xs3) H1
theorem Fn{X:Cx}{e1 e2 e3:Expr}{ta:TA}{p pos tpos:Pos}{elts:List Expr}{kk:Nat}(hg:Gl X "zip")(hm:X.mg "zip"=none)(ha:PA X [e1,e2,e3] ta)
  (hs:starEach [e1,e2,e3] X.env=(false,eval e1 X.env)::starEach [e2,e3] X.env) (hpl:(backTo pos (starEach [e2,e3] X.env)).any (·.1)=false):
  PI X (.Tuple elts kk tpos) (.Call (.Name "zip" p) [e1,e2,e3] [] pos) (Jd X.K ta):=by
 refine⟨fun pins s σ H R I h=>?_⟩
 refine Call_ (ld_blt I hg hm PyProof.Rows.boot_zip (PyProof.Rows.callWith_type1 (thn (ha.run pos pins s σ H _ I h) fun us s1 ⟨vs,H1,I1,r1,q1⟩=>?_) hs hpl))
 obtain⟨k1,k2,k3,a1,a2,a3,xs1,xs2,xs3,ex,⟨g1,g2,g3⟩,q⟩:=q1
 subst ex
 have ev:us=[.ref a1,.ref a2,.ref a3]:=by
  cases r1 with
  |cons v1 r1'=>
   cases r1' with
   |cons v2 r1''=>
    cases r1'' with
    |cons v3 r1'''=>
     cases r1'''
     cases v1
     cases v2
     cases v3
     rfl
 subst ev
 obtain⟨its1,rv1,p1,lt1⟩:=dP I1 g1
 obtain⟨its2,rv2,p2,lt2⟩:=dP I1 g2
 obtain⟨its3,rv3,p3,lt3⟩:=dP I1 g3
 have fresh5:∀c,c∈[s1.heap.objs.size+5,s1.heap.objs.size+3,s1.heap.objs.size+4,s1.heap.objs.size,s1.heap.objs.size+1,s1.heap.objs.size+2]→FpOk X pins H1 c:=fun c hcm=>by
  have e':c=s1.heap.objs.size+5∨c=s1.heap.objs.size+3∨c=s1.heap.objs.size+4∨c=s1.heap.objs.size∨c=s1.heap.objs.size+1∨c=s1.heap.objs.size+2:=by simpa using hcm
  have hle:s1.heap.objs.size≤c:=by
   rcases e' with z|z|z|z|z|z
   ·rw[z];exact JV _ _
   ·rw[z];exact JV _ _
   ·rw[z];exact JV _ _
   ·rw[z];exact JD _
   ·rw[z];exact JV _ _
   ·rw[z];exact JV _ _
  exact I1.fpOk hle (I1.hok.fresh hle)
 refine zip_begins3 (fc k1 a1 its1.toArray) (fc k2 a2 its2.toArray) (fc k3 a3 its3.toArray) p1 p2 p3 fun h' hz hTI hTO h1 h2 h3 hsz hk=>wpAny_pyIter_zip hz ?_
 have I2:Inv X pins σ H1 { s1 with heap:=h'}:=I1.kept (t':=s1.toks) hk
 exact⟨_,[s1.heap.objs.size+5,s1.heap.objs.size+3,s1.heap.objs.size+4,s1.heap.objs.size,s1.heap.objs.size+1,s1.heap.objs.size+2],_,_,H1,rfl,I2,zk (zip_sep3 (fp1:=[a1]) (fun b hb=>by rw[Jg.mp hb];exact lt1) (fp2:=[a2]) (fun b hb=>by rw[Jg.mp hb];exact lt2) (fp3:=[a3]) (fun b hb=>by rw[Jg.mp hb];exact lt3)) (Jm lt1) (Jm (Jk lt2 (JV _ _))) (Jm (Jk lt3 (JV _ _))),⟨hz,hTI,⟨_,_,_,hTO⟩,ia h1,ia h2,ia h3⟩,fresh5,q⟩
def gC:D→Option (List D)
 | .tup xs=>some xs
 | .lst xs=>some xs
 | .scr xs=>some xs
 |_=>none
def pH(a b:List D):List D:=List.zipWith (fun x y=>.tup [x,y]) a b
def f9:List D→List D→List D→List D
 |a::as,b::bs,c::cs=>.tup [a,b,c]::f9 as bs cs
 |_,_,_=>[]
theorem gE:∀a b c:List D,(f9 a b c).length=min (min a.length b.length) c.length
 | [],_,_=>by simp[f9]
 |_::_,[],_=>by simp[f9]
 |_::_,_::_,[]=>by simp[f9]
 |a::as,b::bs,c::cs=>by simp[f9,gE as bs cs]
theorem lP:∀ (a b c:List D) (i:Nat) (x y z:D),a[i]? =some x→b[i]? =some y→c[i]? =some z→(f9 a b c)[i]? =some (.tup [x,y,z])
 | [],_,_,_,_,_,_,h,_,_=>by simp at h
 |_::_,[],_,_,_,_,_,_,h,_=>by simp at h
 |_::_,_::_,[],_,_,_,_,_,_,h=>by simp at h
 |a::as,b::bs,c::cs,0,x,y,z,h1,h2,h3=>by simp at h1 h2 h3;subst h1 h2 h3;simp[f9]
 |a::as,b::bs,c::cs,i+1,x,y,z,h1,h2,h3=>by
  simp only[f9,JS]
  exact lP as bs cs i x y z (by simpa using h1) (by simpa using h2) (by simpa using h3)
def oM(m:MA):MI:=fun env S=>(m env S).bind fun ds S1=>match ds with
 | [a,b]=>match gC a,gC b with
  |some xs,some ys=>.ok (.st (pH xs ys)) S1
  |_,_=>.bad
 |_=>.bad
def l6(m:MA):MI:=fun env S=>(m env S).bind fun ds S1=>match ds with
 | [a,b,c]=>match gC a,gC b,gC c with
  |some xs,some ys,some zs=>.ok (.st (f9 xs ys zs)) S1
  |_,_,_=>.bad
 |_=>.bad
section
variable {Γ:Gm}{μ μ':Mu}{H H':Hp}{X:Cx}{W:WX}{pos:Pos}
def iN(Γ:Gm)(k:Bool)(μ:Mu)(H:Hp)(a:Addr)(vs:List V):Prop:=∀μ' H',Vw Γ μ H μ' H'→kE Γ.K k H' a vs
theorem da{v:V}{d:D}{xs:List D}(r:Rep Γ H μ v d)(h:gC d=some xs):∃k a vs,v= .ref a∧iN Γ k μ H a vs∧Reps Γ H μ vs xs:=by
 cases r with
 | @tup a vs ds h1 h2=>
  cases h
  refine⟨true,a,vs,rfl,fun μ' H' x=>?_,h2⟩
  rcases h1 with h1|h1
  ·obtain⟨ob,_,h1⟩:=h1
   exact .inl (.inr ⟨ob,(x.still h1 fun ps z=>by cases z).1⟩)
  ·exact h1.sq
 | @lst a vs ds h1 h2=>
  cases h
  exact⟨false,a,vs,rfl,fun μ' H' x=>SqL.of (x.still h1 fun ps z=>by cases z).1,h2⟩
 | @scr a ob vs ds h1 h2=>
  cases h
  exact⟨false,a,vs,rfl,fun μ' H' x=>.inl (.inr ⟨ob,(x.still h1 fun ps z=>by cases z).1⟩),h2⟩
 |_=>cases h
theorem Vw.refl:Vw Γ μ H μ H:=.inl .refl
theorem uU{p:Addr}{ob:Obj}{x y z:V}{d e f:D}(ho:ob.dict=none)(hm:μ.no p)(hp:H p=none)(rx:Rep Γ H μ x d)(ry:Rep Γ H μ y e)(rz:Rep Γ H μ z f):Rep Γ (upd H p (.frz ob (.tup [x,y,z]))) μ (.ref p) (.tup [d,e,f]):=
 .tup (.inl ⟨ob,ho,upd_same,hm⟩) (.cons (rx.ext (Ext.laid hp _)) (.cons (ry.ext (Ext.laid hp _)) (.cons (rz.ext (Ext.laid hp _)) .nil)))
theorem qC{k1 k2:Bool}{a1 a2:Addr}{vs1 vs2:List V}{xs ys:List D}(s1:iN Γ k1 μ H a1 vs1)(s2:iN Γ k2 μ H a2 vs2)(r1:Reps Γ H μ vs1 xs)(r2:Reps Γ H μ vs2 ys):j7 Γ (A2 Γ.K k1 k2 a1 a2 vs1 vs2) μ H (pH xs ys):=by
 have e1:=r1.length
 have e2:=r2.length
 have hl:(pH xs ys).length=min vs1.length vs2.length:=by simp[pH,e1,e2]
 refine⟨fun H=>kE Γ.K k1 H a1 vs1∧kE Γ.K k2 H a2 vs2,fun i H v H'=>(A2 Γ.K k1 k2 a1 a2 vs1 vs2).yld i H v H',⟨fun i H' hi g=>⟨g,by rw[hl] at hi;omega,by rw[hl] at hi;omega⟩,fun H' g=>⟨g,hl⟩,fun i H' v H2 hi g y=>y⟩,fun μ' H' x=>⟨s1 μ' H' x,s2 μ' H' x⟩,fun μ' H' S i v H2 x sm hi y=>?_⟩
 obtain⟨T,ob,y1,y2,rfl,ho,hT,rfl,g1,g2⟩:=y
 obtain⟨d1,h1,q1⟩:=r1.getV g1
 obtain⟨d2,h2,q2⟩:=r2.getV g2
 exact⟨.tup [d1,d2],by simp[pH,List.getElem?_zipWith,h1,h2],oW hT,wQ (S:=S) ho (sm.nnew hT) hT (x.rep q1) (x.rep q2)⟩
theorem qh{k1 k2 k3:Bool}{a1 a2 a3:Addr}{vs1 vs2 vs3:List V}{xs ys zs:List D}(s1:iN Γ k1 μ H a1 vs1)(s2:iN Γ k2 μ H a2 vs2)(s3:iN Γ k3 μ H a3 vs3)(r1:Reps Γ H μ vs1 xs)(r2:Reps Γ H μ vs2 ys)(r3:Reps Γ H μ vs3 zs):
  j7 Γ (zZ Γ.K k1 k2 k3 a1 a2 a3 vs1 vs2 vs3) μ H (f9 xs ys zs):=by
 have e1:=r1.length
 have e2:=r2.length
 have e3:=r3.length
 have hl:(f9 xs ys zs).length=min (min vs1.length vs2.length) vs3.length:=by rw[gE,e1,e2,e3]
 refine⟨fun H=>kE Γ.K k1 H a1 vs1∧kE Γ.K k2 H a2 vs2∧kE Γ.K k3 H a3 vs3,fun i H v H'=>(zZ Γ.K k1 k2 k3 a1 a2 a3 vs1 vs2 vs3).yld i H v H',⟨fun i H' hi g=>⟨g,by rw[hl] at hi;omega,by rw[hl] at hi;omega,by rw[hl] at hi;omega⟩,fun H' g=>⟨g,hl⟩,fun i H' v H2 hi g y=>y⟩,fun μ' H' x=>⟨s1 μ' H' x,s2 μ' H' x,s3 μ' H' x⟩,fun μ' H' S i v H2 x sm hi y=>?_⟩
 obtain⟨T,ob,y1,y2,y3,rfl,ho,hT,rfl,g1,g2,g3⟩:=y
 obtain⟨d1,h1,q1⟩:=r1.getV g1
 obtain⟨d2,h2,q2⟩:=r2.getV g2
 obtain⟨d3,h3,q3⟩:=r3.getV g3
 exact⟨.tup [d1,d2,d3],lP xs ys zs i d1 d2 d3 h1 h2 h3,oW hT,uU ho (sm.nnew hT) hT (x.rep q1) (x.rep q2) (x.rep q3)⟩
variable {elts:List Expr}{kk:Nat}{tpos p:Pos}
theorem Ae{a b:Expr}{m:MA}(hK:X.K=Γ.K)(hg:Gl X "zip")(hm:X.mg "zip"=none)(ha:PA X [a,b] (iD Γ W m))(hs:notStar a=true)(hs2:notStar b=true):PI X (.Tuple elts kk tpos) (.Call (.Name "zip" p) [a,b] [] pos) (ky Γ W (oM m)):=
 (Hj hg hm ha (by rw[aE hs]) (by rw[aE hs2];rfl)).weak fun σ H Rr h=>kj h fun vs H' μ' ds S' env at_ rs q=>by
  split at q
  ·rename_i d1 d2
   split at q
   ·rename_i xs ys e1 e2
    obtain⟨v,w,rfl,rv,rw'⟩:=tw rs
    obtain⟨k1,a1,vs1,rfl,s1,r1⟩:=da rv e1
    obtain⟨k2,a2,vs2,rfl,s2,r2⟩:=da rw' e2
    rw[hK]
    exact⟨k1,k2,a1,a2,vs1,vs2,rfl,⟨s1 _ _ Vw.refl,s2 _ _ Vw.refl⟩,q _ H' μ' .refl at_.sim (qC s1 s2 r1 r2)⟩
   ·exact False.elim q
  ·exact False.elim q
theorem Bc{a b c:Expr}{m:MA}(hK:X.K=Γ.K)(hg:Gl X "zip")(hm:X.mg "zip"=none)(ha:PA X [a,b,c] (iD Γ W m))(hs:notStar a=true)(hs2:notStar b=true)(hs3:notStar c=true):PI X (.Tuple elts kk tpos) (.Call (.Name "zip" p) [a,b,c] [] pos) (ky Γ W (l6 m)):=
 (Fn hg hm ha (by rw[aE hs]) (by rw[aE hs2,aE hs3];rfl)).weak fun σ H Rr h=>kj h fun vs H' μ' ds S' env at_ rs q=>by
  split at q
  ·rename_i d1 d2 d3
   split at q
   ·rename_i xs ys zs e1 e2 e3
    obtain⟨v,w,z,rfl,rv,rw',rz⟩:=Bq rs
    obtain⟨k1,a1,vs1,rfl,s1,r1⟩:=da rv e1
    obtain⟨k2,a2,vs2,rfl,s2,r2⟩:=da rw' e2
    obtain⟨k3,a3,vs3,rfl,s3,r3⟩:=da rz e3
    rw[hK]
    exact⟨k1,k2,k3,a1,a2,a3,vs1,vs2,vs3,rfl,⟨s1 _ _ Vw.refl,s2 _ _ Vw.refl,s3 _ _ Vw.refl⟩,q _ H' μ' .refl at_.sim (qh s1 s2 s3 r1 r2 r3)⟩
   ·exact False.elim q
  ·exact False.elim q
end
section
variable {Γ:Gm}{X:Cx}{W:WX}{pos:Pos}
theorem Mk1.fin{μ1 μ':Mu}{H1 H':Hp}{S1 S':a0}{p:Addr}{ob:Ob}(m:Mk1 Γ μ1 H1 p μ' H')(s1:Sim Γ μ1 H1 S1)(hp:H1 p=none)(s:Sim Γ μ' H' S')(ra:cy Γ H' μ' p ob)
  (rd:Mu.no ⟨μ'.st,μ1.hd⟩ p→Rep Γ H' ⟨μ'.st,μ1.hd⟩ (.ref p) ob.toD):gn Γ H1 ⟨μ'.st,μ1.hd⟩ H' S' (.ref p) (.new ob):=by
 have e:=m.eta
 rw[e] at s ra
 have s':=s.unhide
 have no:Mu.no ⟨μ'.st,μ1.hd⟩ p:=⟨fun z=>s.apart p z Jf,fun z=>by
  obtain⟨o,ho⟩:=s1.hth p z
  rw[hp] at ho;cases ho⟩
 refine⟨p,rfl,hp,no,s',rd no,?_⟩
 have up:∀ {vs ds},Reps Γ H' (Mu.hide ⟨μ'.st,μ1.hd⟩ p) vs ds→Reps Γ H' (Mu.add ⟨μ'.st,μ1.hd⟩ p) vs ds:=by
  have st:∀ {b u},Still H' (Mu.hide ⟨μ'.st,μ1.hd⟩ p) b u→Still H' (Mu.add ⟨μ'.st,μ1.hd⟩ p) b u:=fun {b u} h=>⟨h.1,fun z=>by
   rcases Jv.mp z with z|z
   ·exact h.2.1 z
   ·exact h.2.2 (by rw[Jg.mp z];exact Jf),fun z=>h.2.2 (Je _ z)⟩
  intro vs ds r
  induction r using Reps.rec (motive_1:=fun v d _=>Rep Γ H' (Mu.add ⟨μ'.st,μ1.hd⟩ p) v d) with
  |non=>exact .non
  |bl b=>exact .bl b
  |int i=>exact .int i
  |str x=>exact .str x
  |tup h _ ih=>exact .tup (h.imp (jj.imp st) id) ih
  |lst h _ ih=>exact .lst (st h) ih
  |scr h _ ih=>exact .scr (st h) ih
  |dct h _ ih=>exact .dct (st h) ih
  |dcn h k _ _ ih1 ih=>exact .dcn (st h) k ih1 ih
  |ins h h2 _ ih=>exact .ins (st h) (st h2) ih
  |exc h h1 h2 h3 h4 _ ih=>exact .exc (st h) h1 h2 h3 (st h4) ih
  |glb n=>exact .glb n
  |xdd h=>exact .xdd (st h)
  |ref h=>
   refine .ref ?_
   have hl:=(Jl.mp h).1
   exact(Jp hl).trans h
  |nil=>exact .nil
  |cons _ _ i1 i2=>exact .cons i1 i2
 refine⟨by show(μ'.st++[p]).length=_;simp[s'.len],?_,fun n b ob2 h1 h2=>?_,fun b hb=>?_,s'.hth⟩
 ·refine List.nodup_append.mpr ⟨s'.nd,by simp,fun b hb c hc z=>?_⟩
  rw[Jg.mp hc] at z
  exact no.1 (z▸hb)
 ·have h1:(μ'.st++[p])[n]? =some b:=h1
  by_cases hn:n<μ'.st.length
  ·rw[Jp hn] at h1
   rw[Jp (by rw[← s.len];exact hn)] at h2
   exact(s.ats n b ob2 h1 h2).map (fun _ e=>e) up
  ·rw[JM (by omega)] at h1
   have sl:μ'.st.length=S'.length:=s.len
   rw[JM (by rw[← sl];omega)] at h2
   have e0:n-μ'.st.length=0:=by
    have:=(Jl.mp h1).1
    simp at this;omega
   rw[e0] at h1
   rw[← sl,e0] at h2
   simp at h1 h2
   subst h1;subst h2
   exact ra.map (fun _ e=>e) up
 ·rcases Jv.mp hb with h|h
  ·exact s'.apart b h
  ·rw[Jg.mp h];exact no.2
def iG:List (ME×ME)→aq→a0→R (List (D×D))
 | [],_,S=>.ok [] S
 | (f,g)::r,env,S=>(f env S).bind fun x S1=>(g env S1).bind fun y S2=>(iG r env S2).bind fun l S3=>.ok ((x.d,y.d)::l) S3
def rM:List (D×D)→Option (List (Key×D))
 | []=>some []
 | (k,d)::r=>match keyOf k,rM r with
  |some k,some l=>some ((k,d)::l)
  |_,_=>none
def jt(l:List (Key×D)):List D×List D:=l.foldl (fun acc kv=>kI kv.1 kv.2 acc.1 acc.2) ([],[])
def qE(ps:List (ME×ME)):ME:=fun env S=>(fW (iG ps env S)).bind fun l S1=>match rM l with
 |some kds=>if kds.length≤15 then .ok (.new (.dct (jt kds).1 (jt kds).2)) S1 else .bad
 |none=>.bad
theorem oU{σ:L2.St}{env:aq}:∀ {ps:List (ME×ME)} {H:Hp} {S:a0} {μ:Mu} {Q:List (V×V)→Hp→Prop},At Γ σ H env S μ→
  (iG ps env S).sat (fun l S'=>∀vs H' μ',Ext Γ μ H μ' H'→Sim Γ μ' H' S'→Reps Γ H' μ' (vs.map Prod.fst) (l.map Prod.fst)→Reps Γ H' μ' (vs.map Prod.snd) (l.map Prod.snd)→Q vs H') (fun _ _=>False)→
  tPairs (ps.map fun q=>(ay Γ WF q.1,ay Γ WF q.2)) σ H Q
 | [],H,S,μ,Q,a,h=>h [] H μ .refl a.sim .nil .nil
 | (f,g)::r,H,S,μ,Q,a,h=>by
  unfold iG at h
  rw[R.sat_bind] at h
  show ay Γ WF f σ H fun x H1=>ay Γ WF g σ H1 fun y H2=>tPairs (r.map fun q=>(ay Γ WF q.1,ay Γ WF q.2)) σ H2 fun ps H3=>Q ((x,y)::ps) H3
  refine aW a (R.sat_imp h (fun r S' q=>q) fun x S' q=>False.elim q) fun r1 S1 v1 H1 μ1 x1 rv1 q1=>?_
  obtain⟨s1,p1⟩:=rv1.sim
  rw[R.sat_bind] at q1
  refine aW (a.next x1 s1) (R.sat_imp q1 (fun r S' q=>q) fun x S' q=>False.elim q) fun r2 S2 v2 H2 μ2 x2 rv2 q2=>?_
  obtain⟨s2,p2⟩:=rv2.sim
  rw[R.sat_bind] at q2
  refine oU ((a.next x1 s1).next x2 s2) (R.sat_imp q2 (fun l S3 q vs H3 μ3 x3 s3 ra rb=>?_) fun x S' q=>q)
  exact q ((v1,v2)::vs) H3 μ3 ((x1.trans x2).trans x3) s3 (.cons ((p1.ext x2).ext x3) ra) (.cons (p2.ext x3) rb)
theorem oJ{H:Hp}{μ:Mu}:∀ {vs:List (V×V)} {l:List (D×D)} {kds:List (Key×D)},rM l=some kds→Reps Γ H μ (vs.map Prod.fst) (l.map Prod.fst)→Reps Γ H μ (vs.map Prod.snd) (l.map Prod.snd)→
  ∃kvs:List (Key×V),vs=kvs.map (fun kv=>(kV kv.1,kv.2))∧kvs.map (·.1)=kds.map (·.1)∧Reps Γ H μ (kvs.map (·.2)) (kds.map (·.2))
 | [],[],_,e,_,_=>by cases e;exact⟨[],rfl,rfl,.nil⟩
 | (x,y)::vs,(k,d)::l,kds,e,ra,rb=>by
  simp only[rM] at e
  split at e
  ·rename_i k' l' e1 e2
   cases e
   cases ra with
   |cons r1 r2=>
    cases rb with
    |cons q1 q2=>
     obtain⟨kvs,rfl,h1,h2⟩:=oJ e2 r2 q2
     have:=ju r1 e1
     exact⟨(k',y)::kvs,by rw[JG, ← this],by rw[JG,JG,h1],.cons q1 h2⟩
  ·cases e
 | [],_::_,_,_,ra,_=>by cases ra
 |_::_,[],_,_,ra,_=>by cases ra
theorem lh{H:Hp}{μ:Mu}:∀ {more:List (Key×V)} {kds:List (Key×D)} {kvs:List (Key×V)} {ds:List D},more.map (·.1)=kds.map (·.1)→Reps Γ H μ (more.map (·.2)) (kds.map (·.2))→Reps Γ H μ (kvs.map (·.2)) ds→
  (kds.foldl (fun acc kv=>kI kv.1 kv.2 acc.1 acc.2) (kvs.map (fun q=>keyD q.1),ds)).1=(mergeK kvs more).map (fun q=>keyD q.1)∧Reps Γ H μ ((mergeK kvs more).map (·.2)) (kds.foldl (fun acc kv=>kI kv.1 kv.2 acc.1 acc.2) (kvs.map (fun q=>keyD q.1),ds)).2
 | [],[],kvs,ds,_,_,r=>⟨rfl,r⟩
 | (k,v)::more,(k',d)::kds,kvs,ds,e,rm,r=>by
  rw[JG,JG] at e
  obtain⟨e1,e2⟩:=List.cons.inj e
  have e1:k=k':=e1
  subst e1
  cases rm with
  |cons r1 r2=>
   obtain⟨h1,h2⟩:=sZ (k:=k) r r1
   have ih:=lh e2 r2 h2
   rw[← h1] at ih
   exact ih
 | [],_::_,_,_,e,_,_=>by cases e
 |_::_,[],_,_,e,_,_=>by cases e
theorem AK{ps:List (ME×ME)}{σ:L2.St}{H:Hp}{Q:VK}(h:ay Γ W (qE ps) σ H Q):tDisp (ps.map fun q=>(ay Γ WF q.1,ay Γ WF q.2)) σ H Q:=by
 obtain⟨env,S,μ,a,h⟩:=h
 unfold qE at h
 rw[R.sat_bind] at h
 have h:=R.sat_noEx (E':=fun _ _=>False) h
 intro p hp
 have a2:=a.hide hp (.dK [])
 have m2:Mk1 Γ μ H p (μ.hide p) (upd H p (.dK [])):=Mk1.begin hp _
 have nc:∀ {H2:Hp} {kvs:List (Key×V)},H2 p=some (.dK kvs)→(∀ps,H2 p≠some (.tbl ps))∧jf H2 p:=fun h=>
  ⟨fun ps z=>(by rw[h] at z;cases z),lX h fun φ z=>by cases z⟩
 refine oU a2 (R.sat_imp h (fun l S' q vs H' μ' x s ra rb=>?_) fun _ _ z=>z)
 have hD:H' p=some (.dK []):=x.keep p _ upd_same (fun z=>(a.sim.nnew hp).1 z) fun ps z=>by cases z
 refine⟨hD,?_⟩
 split at q
 ·rename_i kds ek
  split at q
  ·rename_i hl
   obtain⟨kvs,rfl,e1,e2⟩:=oJ ek ra rb
   refine⟨kvs,rfl,by rw[← Jt (f:=fun q:Key×V=>q.1),e1,Jt];exact hl,?_⟩
   have m3:Mk1 Γ μ H p μ' H':=m2.ext x
   have hm:p∈μ'.hd:=by rw[m3.hid];exact Jf
   have at3:At Γ σ H' env S' μ':=a2.next x s
   have at4:=at3.wrhid hm (.dK (mergeK [] kvs)) (nc hD).1 (nc hD).2
   have m4:=m3.write hp (.dK (mergeK [] kvs)) (nc hD).1 (nc hD).2
   obtain⟨k1,k2⟩:=lh (kvs:=[]) (ds:=[]) e1 (e2.wrhid hm (.dK (mergeK [] kvs))) .nil
   refine q _ _ _ m4.done (m4.fin a.sim hp at4.sim ⟨mergeK [] kvs,upd_same,k1,k2⟩ fun no=>?_)
   show Rep Γ _ _ (.ref p) (.dct (jt kds).1 (jt kds).2)
   have eD:(jt kds).1=(mergeK [] kvs).map (fun q=>keyD q.1):=k1
   rw[eD]
   have k2':=k2
   rw[m4.eta] at k2'
   exact .dct ⟨upd_same,no⟩ k2'.unhide
  ·exact False.elim q
 ·exact False.elim q
inductive Sps(Γ:Gm)(X:Cx)(pos:Pos):List (Option Expr)→List Expr→List (ME×ME)→Prop
 |nil:Sps Γ X pos [] [] []
 |cons {k v:Expr} {ks:List (Option Expr)} {vs:List Expr} {f g:ME} {ps:List (ME×ME)}:PE X k (ay Γ WF f)→PE X v (ay Γ WF g)→Sps Γ X pos ks vs ps→Sps Γ X pos (some k::ks) (v::vs) ((f,g)::ps)
theorem Sps.pps{ks:List (Option Expr)}{vs:List Expr}{ps:List (ME×ME)}(h:Sps Γ X pos ks vs ps):PPs X pos ks vs (ps.map fun q=>(ay Γ WF q.1,ay Γ WF q.2)):=by
 induction h with
 |nil=>exact pps_nil
 |cons h1 h2 _ ih=>exact pps_cons h1 h2 ih
theorem zw{ks:List (Option Expr)}{vs:List Expr}{ps:List (ME×ME)}(h:Sps Γ X pos ks vs ps)(hall:ks.all (·.isSome)=true)(hl:ks.length=vs.length)(h0:ks≠[])(h15:ks.length≤15):PE X (.Dict ks vs pos) (ay Γ W (qE ps)):=
 (pe_disp h.pps hall hl h0 h15).weak fun σ H Q h=>AK h
theorem B7{c i:Nat}{g:Cfg}{dfl:List D}{dvs:List V}{dus:List Value}{f:ME}{m:MA}{k:Nat}{ga:Addr}{fd:FuncData}{ps:List Str}{o e:Expr}{es:List Expr}{mn:Str}{apos:Pos}{pl:Sem Bool}(tk:Takes X W)
  (ho:PE X o (ay Γ W f)) (cc:SlX.SCls X.K (Γ.cls c)) (hm:Meth X.K (Γ.cls c) mn ga) (F:FnG X.prog X.w X.K X.mg X.base (L2.CX X.prog X.w) k ga fd ps (jd Γ (g.call i) ps.length)) (hr:RoomG k X.A) (hb:Binds X.K fd ps dus) (hv:Vals dvs dus)
  (hd:∀H μ,Reps Γ H μ dvs dfl) (hlen:∀ds S,(g.call i ds S).sat (fun _ _=>True) (fun _ _=>True)→ds.length=ps.length) (ha:PA X (e::es) (iD Γ W m)) (hs:(e::es).all notStar=true)
  (ht:eval (.Call (.Attribute o mn apos) (e::es) [] pos) X.env=(do
   let ov ← eval o X.env
   standAt apos.atName
   let(f,first) ← holding [ov] (getMethod ov mn pl)
   callWith pos f first (backTo pos (starEach (e::es) X.env)) (backToKw pos (keywordEach [] X.env)))):
  PE X (.Call (.Attribute o mn apos) (e::es) [] pos) (ay Γ W (fE c i g dfl f m)):=
 (xW ho cc hm F hr hb hv (fun σ=>passAt tk σ) ha (aE (Jn.mp (show(notStar e&&es.all notStar)=true from hs)).1) (star_any (Jn.mp (show(notStar e&&es.all notStar)=true from hs)).2) ht).weak
  fun σ H Q h=>yr hd hlen h
end
end Ev
namespace Ev
open PySem L2 PyProof.Rows LamX
section
variable {Γ:Gm}{X:Cx}{W:WX}{pos:Pos}
def posOf(z:Str):List Str→Option Nat
 | []=>none
 |y::r=>if y=z then some 0 else(posOf z r).map (· +1)
theorem oy{z:Str}:∀ {ys:List Str} {j:Nat},posOf z ys=some j→ys[j]? =some z∧∀m,m<j→ys[m]? ≠some z
 | [],_,h=>by cases h
 |y::r,j,h=>by
  unfold posOf at h
  split at h
  ·rename_i e
   cases h
   exact⟨by rw[e];rfl,fun m hm=>absurd hm (Nat.not_lt_zero m)⟩
  ·rename_i e
   obtain⟨k,hk,rfl⟩:=Jh.mp h
   obtain⟨h1,h2⟩:=oy hk
   refine⟨by simpa using h1,fun m hm=>?_⟩
   cases m with
   |zero=>simpa using e
   |succ m=>simpa using h2 m (by omega)
def vZ(ys:List Str)(f:ME):ME:=fun env S=>(f env S).bind fun r S1=>match r.d with
 | .str z=>(match posOf z ys with|some j=>.ok (.val (.int (j:Nat))) S1|none=>.bad)
 |_=>.bad
theorem Cu{x:Str}{u:Addr}{ob:Obj}{ys:List Str}{p apos:Pos}{e:Expr}{f:ME}(hK:X.K=Γ.K)(hg:Gl X x)(hm:X.mg x=some (.ref u))(hdb:(x==("__debug__":Str))=false)(hl:X.K.lookup u=some ob)(hc:ob.cls= .type "tuple")(hd:ob.dict=none)
  (hq:o9 X.K u (ys.map V.str)) (he:PE X e (ay Γ W f))
  (hbase:attributeBase (.Name x p) "index" X.env (eval (.Name x p) X.env)=eval (.Name x p) X.env)
  (hfew:((backTo pos (starEach [e] X.env)).all (fun x=> !x.1)&&(backToKw pos (keywordEach [] X.env)).all (fun x=>x.1.isSome)
   &&decide (([e]:List Expr).length+([]:List Keyword).length+(if([]:List Keyword).isEmpty then 0 else 1)<30))=true)
  (hline:(apos.endLine==pos.line)=true) (hs:notStar e=true):
  PE X (.Call (.Attribute (.Name x p) "index" apos) [e] [] pos) (ay Γ W (vZ ys f)):=
 (pe_bm PySem.F.plainAttrs_tuple PySem.F.slot_tuple_index PySem.F.type_tuple_index mt_tup_index (pe_glob (v:=.ref u) hg hm rfl hdb) (fT (fs:=[]) hs he iR) hbase hfew hline (aE hs) rfl).weak fun σ H Q h=>by
  refine⟨.inr (.inl ⟨rfl,ob,hl,hc,hd⟩),?_⟩
  obtain⟨env,S,μ,a,h⟩:=h
  unfold vZ at h
  rw[R.sat_bind] at h
  refine⟨env,S,μ,a,?_⟩
  unfold af
  rw[R.sat_bind]
  refine R.sat_imp h (fun r S1 q vs H1 μ1 x1 s1 rs=>?_) fun y S1 q=>q
  obtain⟨v,rfl,rv⟩:=dj rs
  revert q rv
  generalize r.d=dr
  intro q rv
  cases dr with
  |str z=>
   cases rv
   simp only at q
   split at q
   ·rename_i j hj
    obtain⟨h1,h2⟩:=oy hj
    exact⟨u,ys,z,j,rfl,rfl,hq.sq,h1,h2,q _ H1 μ1 x1 ⟨s1,.int _⟩⟩
   ·exact False.elim q
  |_=>exact False.elim q
end
structure Cq(Γ:Gm)(X:Cx)(W:WX)(k:Nat):Prop where
 hK:X.K=Γ.K
 hw:X.w=Γ.w
 hc:X.calm=true
 nd:X.N.Nodup
 tk:Takes X W
 room:RoomG k X.A
section
variable {Γ:Gm}{X:Cx}{W:WX}{k:Nat}
theorem Cq.hu(q:Cq Γ X W k):X.A.units+1<cLine:=by have:=q.room.room.un;omega
theorem Cq.ofDef{P:Program}{w:World}{K:PySem.W.Frag}{mg:Str→Option Value}{base:Heap}{N:List Str}{qual:Str}{scope:Scope}{f:Addr}{cdv:Value}{A:Around}{outer:List Env}{s:Shared}{H:Hp}{E:XK}(hK:K=Γ.K)(hw:w=Γ.w)(nd:N.Nodup)
  (hr:RoomG k (A.deeper (envOfC qual scope s.heap.objs.size f cdv))):Cq Γ (cxOf (L2.CX P w) P w K mg base N qual scope f cdv A outer s H E) (fun cls d _ H'=>E cls d H') k:=
 ⟨hK,hw,rfl,nd,takes_of rfl rfl rfl rfl,hr⟩
theorem Cq.blk(q:Cq Γ X W k)(s:Shared)(H:Hp)(scope:Scope)(env:Env)(fp:List Addr):Cq Γ (X.blk s H scope env fp) WF k:=
 ⟨q.hK,q.hw,q.hc,q.nd,fun u s' ⟨a,B,sI,pins,σ,H,cls,d,e,I,nb,up,sky,na,os,ag,w⟩=>w,q.room⟩
end
section
variable {Γ:Gm}{X:Cx}{W:WX}{k:Nat}{pos:Pos}
structure Op2(Γ:Gm)(X:Cx)(fn:Value→Value→Sem Value)(o:a0→D→D→Option RV):Prop where
 ex:∃r,OpR X fn r∧qV Γ o r
theorem Cq.add(q:Cq Γ X W k):Op2 Γ X (binaryOp .Add) aP:=⟨_,Ag,by rw[q.hK];exact Cv⟩
theorem Cq.mul(q:Cq Γ X W k):Op2 Γ X (binaryOp .Mult) bQ:=⟨_,B6,by rw[q.hK];exact Eo⟩
theorem Cq.fdiv(q:Cq Γ X W k):Op2 Γ X (binaryOp .FloorDiv) iy:=⟨_,op_fdivN,AU⟩
theorem Cq.pow(q:Cq Γ X W k):Op2 Γ X (binaryOp .Pow) ou:=⟨_,op_pow,Cj⟩
theorem Cq.mod(q:Cq Γ X W k):Op2 Γ X (binaryOp .Mod) dU:=⟨_,op_modN,D3⟩
theorem Cq.eq(q:Cq Γ X W k):Op2 Γ X (compareOp .Eq) dH:=⟨_,op_eqD (by have:=q.room.room.un;omega),by rw[q.hK];exact Hm⟩
theorem Cq.ne(q:Cq Γ X W k):Op2 Γ X (compareOp .NotEq) dq:=⟨_,op_neD (by have:=q.room.room.un;omega),by rw[q.hK];exact Fd⟩
theorem Cq.in_(q:Cq Γ X W k):Op2 Γ X (compareOp .In) inD:=⟨_,Ea (by have:=q.room.room.un;omega),by rw[q.hK];exact Fy⟩
theorem Cq.lt(q:Cq Γ X W k):Op2 Γ X (compareOp .Lt) FZ:=⟨_,Cw (by have:=q.room.room.un;omega),by rw[q.hK];exact qr⟩
theorem Cq.gt(q:Cq Γ X W k):Op2 Γ X (compareOp .Gt) AY:=⟨_,CK (by have:=q.room.room.un;omega),by rw[q.hK];exact qr⟩
theorem Cq.ge(q:Cq Γ X W k):Op2 Γ X (compareOp .GtE) DJ:=⟨_,CO (by have:=q.room.room.un;omega),by rw[q.hK];exact qr⟩
theorem bC{op:Operator}{a b:Expr}{f g:ME}{o:a0→D→D→Option RV}(ho:Op2 Γ X (binaryOp op) o)(ha:PE X a (ay Γ W f))(hb:PE X b (ay Γ W g)):PE X (.BinOp a op b pos) (ay Γ W (av o f g)):=by
 obtain⟨r,h1,h2⟩:=ho.ex
 exact FA h1 h2 ha hb
theorem jV{op:CmpOp}{a b:Expr}{f g:ME}{o:a0→D→D→Option RV}(ho:Op2 Γ X (compareOp op) o)(ha:PE X a (ay Γ W f))(hb:PE X b (ay Γ W g))(hm:behindInMarks op b=false:=by first|exact nobehind _ (by decide) (by decide)|rfl):PE X (.Compare a [op] [b] pos) (ay Γ W (av o f g)):=by
 obtain⟨r,h1,h2⟩:=ho.ex
 exact Ee h1 h2 ha hb hm
theorem bg{op:CmpOp}{a b:Expr}{f g:ME}{o:a0→D→D→Option RV}(ho:Op2 Γ X (compareOp op) o)(ha:PE X a (ay Γ W f))(hb:PE X b (ay Γ W g))(hm:behindInMarks op b=false:=by first|exact nobehind _ (by decide) (by decide)|rfl):PT X (.Compare a [op] [b] pos) (gG Γ W (ao (av o f g))):=by
 obtain⟨r,h1,h2⟩:=ho.ex
 exact zz h1 h2 ha hb hm
theorem aB(i:Nat){x:Str}(hN:X.N[i]? =some x:=by rfl)(hv:Vis X.env.scope x:=by first|exact Or.inl rfl|exact Or.inr (Or.inl rfl)|exact Or.inr (Or.inr rfl))(hd:(x==("__debug__":Str))=false:=by decide)(hcd:(x==("__classdict__":Str))=false:=by decide):
  PE X (.Name x pos) (ay Γ W (ae i)):=DY hN hv hd hcd
theorem mh{e:Expr}{f:ME}(h:PE X e (ay Γ W f))(he:∀whole,isTrue e X.env whole=(do let v ← whole;standAt e.pos;holding [v] (truthy v)):=by intro _;rfl):PT X e (gG Γ W (ao f)):=zW h he
theorem bZ{a b:Expr}{f g:ME}(q:Cq Γ X W k)(ha:PE X a (ay Γ W f))(hb:PE X b (ay Γ W g))(hs:gR b=true:=by rfl):PE X (.Subscript a b pos) (ay Γ W (av aN f g)):=DM q.hK q.hu ha hb hs
theorem aj{e:Expr}{es:List Expr}{f:ME}{fs:List ME}(he:PE X e (ay Γ W f))(h:Sds Γ X W es fs)(hs:notStar e=true:=by rfl):Sds Γ X W (e::es) (f::fs):=.cons hs he h
theorem cQ(q:Cq Γ X W k)(mt:Bool)(i:Nat){x:Str}{e:Expr}{f:ME}{pos':Pos}(he:PE X e (ay Γ W f))(hi:X.N[i]? =some x:=by rfl)(hx:Loc X.env.scope x:=by first|exact Or.inl rfl|exact Or.inr rfl)
  (hs:swapsWith e (some (.Name x pos')) pos.line X.env=pure false:=by rfl) (hf:X.fn x=true∨X.env.scope.names.lookup x=some .local:=by first|exact Or.inl rfl|exact Or.inr rfl):PS X (.Assign [.Name x pos'] e pos) (dC Γ W (aM mt i f)):=CU q.nd hi hx he hs hf
structure BlF(Γ:Gm)(X:Cx)(x:Str)(o:a0→List D→Option RV):Prop where
 ex:(∃id r,CallR X (.builtin id) r∧eF Γ o r∧bootBuiltins x=some (.builtin id))∨∃T r,CallR X (.type T) r∧eF Γ o r∧bootBuiltins x=some (.type T)
 n1:x≠ "__name__"
 n2:(x==("__debug__":Str))=false
theorem aS{x:Str}{o:a0→List D→Option RV}{p:Pos}{e:Expr}{es:List Expr}{fs:List ME}(B:BlF Γ X x o)(hm:X.mg x=none)(h:Sds Γ X W (e::es) fs)(hg:Gl X x:=by rfl):PE X (.Call (.Name x p) (e::es) [] pos) (ay Γ W (aJ o (af fs))):=by
 obtain⟨hex,n1,n2⟩:=B
 rcases hex with⟨id,r,h1,h2,h3⟩| ⟨T,r,h1,h2,h3⟩
 ·exact Cn h1 h2 hg hm h3 h.pa h.ns n1 n2
 ·exact DR h1 h2 hg hm h3 h.pa h.ns n1 n2
theorem Cq.len(q:Cq Γ X W k):BlF Γ X "len" cN:=⟨.inl ⟨_,_,uP,by rw[q.hK];exact Dd,boot_len⟩,by decide,by decide⟩
theorem Cq.int(q:Cq Γ X W k):BlF Γ X "int" intD:=⟨.inr ⟨_,_,tZ,int_ok,boot_int⟩,by decide,by decide⟩
theorem Cq.tuple(q:Cq Γ X W k):BlF Γ X "tuple" fm:=⟨.inr ⟨_,_,pN,by rw[q.hK];exact vq,boot_tuple⟩,by decide,by decide⟩
theorem Cq.list(q:Cq Γ X W k):BlF Γ X "list" xV:=⟨.inr ⟨_,_,call_list_of,by rw[q.hK];exact Ao,boot_list⟩,by decide,by decide⟩
theorem Cq.min2(q:Cq Γ X W k):BlF Γ X "min" fB:=⟨.inl ⟨_,_,call_min2 q.hc,Ar,boot_min⟩,by decide,by decide⟩
theorem Cq.repr(q:Cq Γ X W k)(hs:(X.K.lookup sysModules).isSome=true):BlF Γ X "repr" bh:=⟨.inl ⟨_,_,uL q.hK hs q.room,za,boot_repr⟩,by decide,by decide⟩
end
def bH:List (Bool×ME)→MA
 | []=>fun _ S=>.ok [] S
 | (mt,f)::fs=>fun env S=>(f env S).bind fun x S1=>(bH fs env (cq mt x S1).2).bind fun xs S2=>.ok ((cq mt x S1).1::xs) S2
section
variable {Γ:Gm}{X:Cx}{W:WX}{pos:Pos}{k:Nat}
theorem w3{mt:Bool}{e:Expr}{es:List Expr}{f:ME}{fs:List (Bool×ME)}(hs:notStar e=true)(he:PE X e (ay Γ W f))(hr:PA X es (iD Γ W (bH fs))):PA X (e::es) (iD Γ W (bH ((mt,f)::fs))):=
 (pa_cons he hr (aE hs)).weak fun σ H Q h=>by
  obtain⟨env,S,μ,a,h⟩:=h
  unfold bH at h
  rw[R.sat_bind] at h
  refine aW a (R.sat_imp h (fun r S' q=>q) fun x S' q=>q) fun r1 S1 v1 H1 μ1 x1 rv1 q1=>?_
  obtain⟨μ2,x2,s2,p2⟩:=eY (mt:=mt) x1 rv1
  rw[R.sat_bind] at q1
  refine⟨env,(cq mt r1 S1).2,μ2,a.next x2 s2,R.sat_imp q1 (fun ds S2 q2 vs H2 μ3 x3 s3 rs=>?_) fun x S' q=>q.ext x2⟩
  exact q2 _ _ _ (x2.trans x3) s3 (.cons (p2.ext x3) rs)
inductive Smd(Γ:Gm)(X:Cx)(W:WX):List Expr→List (Bool×ME)→Prop
 |nil:Smd Γ X W [] []
 |cons {mt:Bool} {e:Expr} {es:List Expr} {f:ME} {fs:List (Bool×ME)}:notStar e=true→PE X e (ay Γ W f)→Smd Γ X W es fs→Smd Γ X W (e::es) ((mt,f)::fs)
theorem Smd.pa{es:List Expr}{fs:List (Bool×ME)}(h:Smd Γ X W es fs):PA X es (iD Γ W (bH fs)):=by
 induction h with
 |nil=>
  refine pa_nil.weak fun σ H Q h=>?_
  obtain⟨env,S,μ,a,h⟩:=h
  exact h _ H μ .refl a.sim .nil
 |cons hs he _ ih=>exact w3 hs he ih
theorem cA{mt:Bool}{e:Expr}{es:List Expr}{f:ME}{fs:List (Bool×ME)}(he:PE X e (ay Γ W f))(h:Smd Γ X W es fs)(hs:notStar e=true:=by rfl):Smd Γ X W (e::es) ((mt,f)::fs):=.cons hs he h
theorem rK(q:Cq Γ X W k)(i j:Nat){x y:Str}{a b:Expr}{fs:List (Bool×ME)}{px py pt:Pos}{kt k2 pt2}(h:Smd Γ X W [a,b] fs)(hi:X.N[i]? =some x:=by rfl)(hj:X.N[j]? =some y:=by rfl)(hij:i≠j:=by decide)
  (hx:X.env.scope.names.lookup x=some .local:=by rfl) (hy:X.env.scope.names.lookup y=some .local:=by rfl)
  (hw:swappedStores [.Tuple [.Name x px,.Name y py] kt pt] (.Tuple [a,b] k2 pt2) X.env=pure (some [x,y]):=by rfl)
  (hs:swapsWithSole [.Tuple [.Name x px,.Name y py] kt pt] (.Tuple [a,b] k2 pt2) pos.line X.env=pure false:=by rfl):
  PS X (.Assign [.Tuple [.Name x px,.Name y py] kt pt] (.Tuple [a,b] k2 pt2) pos) (dC Γ W (gU i j (bH fs))):=Cd q.hc q.nd hi hj hij hx hy h.pa hw hs
theorem BX(q:Cq Γ X W k)(i j l:Nat){x y z:Str}{a b c:Expr}{fs:List (Bool×ME)}{px py pz pt:Pos}{kt k2 pt2}(h:Smd Γ X W [a,b,c] fs)(hi:X.N[i]? =some x:=by rfl)(hj:X.N[j]? =some y:=by rfl)(hl:X.N[l]? =some z:=by rfl)(hij:i≠j:=by decide)(hil:i≠l:=by decide)(hjl:j≠l:=by decide)
  (hx:X.env.scope.names.lookup x=some .local:=by rfl) (hy:X.env.scope.names.lookup y=some .local:=by rfl) (hz:X.env.scope.names.lookup z=some .local:=by rfl)
  (hw:swappedStores [.Tuple [.Name x px,.Name y py,.Name z pz] kt pt] (.Tuple [a,b,c] k2 pt2) X.env=pure (some [x,y,z]):=by rfl)
  (hs:swapsWithSole [.Tuple [.Name x px,.Name y py,.Name z pz] kt pt] (.Tuple [a,b,c] k2 pt2) pos.line X.env=pure false:=by rfl):
  PS X (.Assign [.Tuple [.Name x px,.Name y py,.Name z pz] kt pt] (.Tuple [a,b,c] k2 pt2) pos) (dC Γ W (lE i j l (bH fs))):=B5 q.hc q.nd hi hj hl hij hil hjl hx hy hz h.pa hw hs
def GT(Γ:Gm)(mg:Str→Option Value)(x:Str)(d:D):Prop:=∃u,mg x=some (.ref u)∧∀H μ,Rep Γ H μ (.ref u) d
theorem uG{x:Str}{d:D}(h:GT Γ X.mg x d)(hg:Gl X x:=by rfl)(hdb:(x==("__debug__":Str))=false:=by decide):PE X (.Name x pos) (ay Γ W (ah d)):=by
 obtain⟨u,h,r⟩:=h
 exact Dh hg h hdb r
theorem sN{es:List Expr}{fs:List ME}{j:Nat}(h:Sds Γ X W es fs):PE X (.Tuple es j pos) (ay Γ W (fF (af fs))):=CT h.pa
theorem dM{es:List Expr}{fs:List ME}(h:Sds Γ X W es fs):PE X (.List es pos) (ay Γ W (bo (af fs))):=Ce h.pa
theorem rH{es:List Expr}{fs:List ME}(h:Sds Γ X W es fs)(h0:es≠[]:=by simp):PE X (.BoolOp .And es pos) (ay Γ W (eh fs)):=h.and h0
theorem E6{es:List Expr}{fs:List MT}(h:Sdts Γ X W es fs)(h0:es≠[]:=by simp):PT X (.BoolOp .And es pos) (gG Γ W (fG fs)):=(h.and h0).pt
theorem j9{es:List Expr}{fs:List MT}(h:Sdts Γ X W es fs)(h0:es≠[]:=by simp):PT X (.BoolOp .Or es pos) (gG Γ W (cH fs)):=(h.or h0).pt
theorem Ey{ks:List (Option Expr)}{vs:List Expr}{ps:List (ME×ME)}(h:Sps Γ X pos ks vs ps)(hall:ks.all (·.isSome)=true:=by rfl)(hl:ks.length=vs.length:=by rfl)(h0:ks≠[]:=by simp)(h15:ks.length≤15:=by decide):PE X (.Dict ks vs pos) (ay Γ W (qE ps)):=zw h hall hl h0 h15
theorem BG(q:Cq Γ X W k){x:Str}{T:String}{p p2:Pos}{e:Expr}{f:ME}(he:PE X e (ay Γ W f))(hm:X.mg "isinstance"=none)(hmT:X.mg x=none)(hv:bootBuiltins x=some (.type T))(hs:notStar e=true:=by rfl)(hg:Gl X "isinstance":=by rfl)(hgT:Gl X x:=by rfl)(hn:x≠ "__name__":=by decide)
  (hdb:(x==("__debug__":Str))=false:=by decide):PE X (.Call (.Name "isinstance" p) [e,.Name x p2] [] pos) (ay Γ W (dA (dk T) f)):=Ef q.hK hg hm he hs hgT hmT hv hn hdb
theorem De(q:Cq Γ X W k){x y:Str}{T U:String}{p p2 p3 p4:Pos}{j:Nat}{e:Expr}{f:ME}(he:PE X e (ay Γ W f))(hm:X.mg "isinstance"=none)(hmT:X.mg x=none)(hmU:X.mg y=none)(hv:bootBuiltins x=some (.type T))(hvU:bootBuiltins y=some (.type U))(hs:notStar e=true:=by rfl)(hg:Gl X "isinstance":=by rfl)
  (hgT:Gl X x:=by rfl) (hn:x≠ "__name__":=by decide) (hdb:(x==("__debug__":Str))=false:=by decide) (hgU:Gl X y:=by rfl) (hnU:y≠ "__name__":=by decide) (hdbU:(y==("__debug__":Str))=false:=by decide):
  PE X (.Call (.Name "isinstance" p) [e,.Tuple [.Name x p2,.Name y p3] j p4] [] pos) (ay Γ W (dA (mu T U) f)):=zU q.hK hg hm he hs hgT hmT hv hn hdb hgU hmU hvU hnU hdbU
theorem qH(q:Cq Γ X W k){x:Str}{c:Nat}{cs:List Nat}{p p2:Pos}{e:Expr}{f:ME}(ho:OwnIs Γ cs c)(he:PE X e (ay Γ W f))(hm:X.mg "isinstance"=none)(hmC:X.mg x=some (.ref (Γ.cls c)))(hs:notStar e=true:=by rfl)(hg:Gl X "isinstance":=by rfl)(hgC:Gl X x:=by rfl)
  (hdb:(x==("__debug__":Str))=false:=by decide):PE X (.Call (.Name "isinstance" p) [e,.Name x p2] [] pos) (ay Γ W (dA (dB cs c) f)):=Ak q.hK ho hg hm he hs hgC hmC hdb
theorem gj(q:Cq Γ X W k){e:Expr}{f:Str}{fe:ME}{sx:Nat→Option Nat}(hsx:vp Γ f sx)(he:PE X e (ay Γ W fe))(hb:attributeBase e f X.env (eval e X.env)=eval e X.env:=by rfl):PE X (.Attribute e f pos) (ay Γ W (cG sx fe)):=C3 q.hK hsx he hb
theorem C0(q:Cq Γ X W k){o e:Expr}{f:Str}{fo fv:ME}{pos':Pos}{sx:Nat→Option Nat}(hsx:vp Γ f sx)(ho:PE X o (ay Γ W fo))(hv:PE X e (ay Γ W fv))(hs:swapsWith e (some (.Attribute o f pos')) pos.line X.env=pure false:=by rfl):
  PS X (.Assign [.Attribute o f pos'] e pos) (dC Γ W (sG sx fo fv)):=Aj q.hK hsx ho hv hs
theorem BL(q:Cq Γ X W k){e:Expr}{lo hi:Option Expr}{f:ME}{l u:Option ME}{p2:Pos}(he:PE X e (ay Γ W f))(hl:Sdo Γ X W lo l)(hh:Sdo Γ X W hi u):PE X (.Subscript e (.Slice lo hi none p2) pos) (ay Γ W (jE f l u)):=DG q.hK he hl hh
theorem dS(q:Cq Γ X W k){tg e:Expr}{f:ME}(he:PE X e (ay Γ W f)):PI X tg e (ky Γ W (aI f)):=Am q.hK he
theorem ft{tg a:Expr}{f:ME}{p:Pos}(hm:X.mg "range"=none)(ha:PE X a (ay Γ W f))(hg:Gl X "range":=by rfl)(hs:notStar a=true:=by rfl):PI X tg (.Call (.Name "range" p) [a] [] pos) (ky Γ W (fk cu (af [f]))):=uo hg hm (fT hs ha iR) hs
theorem D7(q:Cq Γ X W k){a b:Expr}{fs:List ME}{elts:List Expr}{kk:Nat}{tpos p:Pos}(hm:X.mg "zip"=none)(h:Sds Γ X W [a,b] fs)(hg:Gl X "zip":=by rfl)(hs:notStar a=true:=by rfl)(hs2:notStar b=true:=by rfl):PI X (.Tuple elts kk tpos) (.Call (.Name "zip" p) [a,b] [] pos) (ky Γ W (oM (af fs))):=Ae q.hK hg hm h.pa hs hs2
theorem D5(q:Cq Γ X W k){a b c:Expr}{fs:List ME}{elts:List Expr}{kk:Nat}{tpos p:Pos}(hm:X.mg "zip"=none)(h:Sds Γ X W [a,b,c] fs)(hg:Gl X "zip":=by rfl)(hs:notStar a=true:=by rfl)(hs2:notStar b=true:=by rfl)(hs3:notStar c=true:=by rfl):PI X (.Tuple elts kk tpos) (.Call (.Name "zip" p) [a,b,c] [] pos) (ky Γ W (l6 (af fs))):=Bc q.hK hg hm h.pa hs hs2 hs3
theorem ie(q:Cq Γ X W k)(hp:PassesOwn (model X.prog X.w) X.A X.env X.xe){fuel:Nat}{t:Tg}{tg iter:Expr}{body:List Stmt}{it:MI}{b:MS}(hi:PI X tg iter (ky Γ W it))(hg:PG X tg (iW Γ t))(hb:PSs X body (dC Γ W b))
  (hs:∀x,foldedSetIterable iter X.env x=pure x:=by intro _;rfl):PS X (.For tg iter body [] pos) (dC Γ W (bV fuel t it b)):=CM q.hK hp q.hc hi hg hb hs
theorem dg(q:Cq Γ X W k)(i:Nat){x:Str}(hi:X.N[i]? =some x:=by rfl)(hx:Loc X.env.scope x:=by first|exact Or.inl rfl|exact Or.inr rfl)(hf:X.fn x=true∨X.env.scope.names.lookup x=some .local:=by first|exact Or.inl rfl|exact Or.inr rfl):PG X (.Name x pos) (iW Γ (.nm i)):=AN q.nd hi hx hf
theorem qt{e:Expr}{es:List Expr}{t:Tg}{ts:List Tg}(h1:PG X e (iW Γ t))(h2:PGs X es (qF Γ ts))(hs:notStar e=true:=by rfl):PGs X (e::es) (qF Γ (t::ts)):=yj hs h1 h2
theorem vi(q:Cq Γ X W k){es:List Expr}{j:Nat}{ts:List Tg}(h:PGs X es (qF Γ ts))(hs:es.all notStar=true:=by rfl)(hl:es.length=ts.length:=by rfl):PG X (.Tuple es j pos) (iW Γ (.tp ts)):=D6 q.hK q.hc hs hl h
theorem xC(q:Cq Γ X W k)(own:List (Str×Nat)){fuel:Nat}{elt tgt iter:Expr}{ifs:List Expr}{scope:Scope}{t:Tg}{it:MI}{c:MT}{f:ME}(hi:PI X tgt iter (ky Γ W it))
  (hg:∀ (s:Shared) (H:Hp) (C:Addr) (cl:List (Str×Addr)) (fp:List Addr),PG (X.blk s H scope (compEnvC scope cl C X.env) fp) tgt (iW Γ t)) (ht:∀ (s:Shared) (H:Hp) (C:Addr) (cl:List (Str×Addr)) (fp:List Addr),PTs (X.blk s H scope (compEnvC scope cl C X.env) fp) ifs (gG Γ WF c))
  (he:∀ (s:Shared) (H:Hp) (C:Addr) (cl:List (Str×Addr)) (fp:List Addr),PE (X.blk s H scope (compEnvC scope cl C X.env) fp) elt (ay Γ WF f)) (ok:blkC X.N X.env.scope scope own=true:=by rfl)
  (hsl:t.slots.all (fun j=>decide (j∈own.map (·.2)))=true:=by rfl) (hs:∀x,foldedSetIterable iter X.env x=pure x:=by intro _;rfl):
  PE X (.ListComp elt [⟨tgt,iter,ifs,0⟩] scope pos) (ay Γ W (jY fuel (own.map (·.2)) t it c f)):=EJ q.hc q.nd hi ok hsl hg ht he hs
theorem A7(q:Cq Γ X W k){mt:Bool}(i:Nat)(own:List (Str×Nat)){y:Str}{py:Pos}{fuel:Nat}{elt tgt iter:Expr}{ifs:List Expr}{scope:Scope}{spos:Pos}{t:Tg}{it:MI}{c:MT}{f:ME}(hi:PI X tgt iter (ky Γ W it))
  (hg:∀ (s:Shared) (H:Hp) (C:Addr) (cl:List (Str×Addr)) (fp:List Addr),PG (X.blk s H scope (compEnvC scope cl C X.env) fp) tgt (iW Γ t)) (ht:∀ (s:Shared) (H:Hp) (C:Addr) (cl:List (Str×Addr)) (fp:List Addr),PTs (X.blk s H scope (compEnvC scope cl C X.env) fp) ifs (gG Γ WF c))
  (he:∀ (s:Shared) (H:Hp) (C:Addr) (cl:List (Str×Addr)) (fp:List Addr),PE (X.blk s H scope (compEnvC scope cl C X.env) fp) elt (ay Γ WF f)) (hy:X.N[i]? =some y:=by rfl) (hyl:X.env.scope.names.lookup y=some .local:=by rfl)
  (hsw:swapsWith (.ListComp elt [⟨tgt,iter,ifs,0⟩] scope pos) (some (.Name y py)) spos.line X.env=pure true:=by rfl) (ok:blkC X.N X.env.scope scope own=true:=by rfl)
  (hsl:t.slots.all (fun j=>decide (j∈own.map (·.2)))=true:=by rfl) (hs:∀x,foldedSetIterable iter X.env x=pure x:=by intro _;rfl):
  PS X (.Assign [.Name y py] (.ListComp elt [⟨tgt,iter,ifs,0⟩] scope pos) spos) (dC Γ W (aM mt i (jY fuel (own.map (·.2)) t it c f))):=vz q.hc q.nd hy hyl hsw hi ok hsl hg ht he hs
theorem vG{e:Expr}{f:ME}(h:PE X e (ay Γ W f))(hs:swapsWith e none pos.line X.env=pure false:=by rfl):PS X (.Expr e pos) (dC Γ W (je f)):=zN h hs
theorem pf(q:Cq Γ X W k){o i e:Expr}{fo fi fv:ME}{tpos:Pos}(ho:PE X o (ay Γ W fo))(hi:PE X i (ay Γ W fi))(he:PE X e (ay Γ W fv))
  (ha:∀v,assign (.Subscript o i tpos) X.env v=(do
   let ov ← holding [v] (eval o X.env)
   let iv ← holding [v,ov] (eval i X.env)
   standAt tpos
   holding [v,ov,iv] (setItem ov iv v)
   release [v,ov,iv] []):=by intro _;rfl)
  (hs:swapsWithSole [.Subscript o i tpos] e pos.line X.env=pure false:=by rfl) (hw:swappedStores [.Subscript o i tpos] e X.env=pure none:=by rfl)
  (h1:(assignEach [.Subscript o i tpos] X.env).map (·.2)=[assign (.Subscript o i tpos) X.env]:=by rfl):PS X (.Assign [.Subscript o i tpos] e pos) (dC Γ W (dQ fo fi fv)):=Ci q.hu ho hi he ha hs hw h1
theorem wW(q:Cq Γ X W k){apos:Pos}{o e:Expr}{f g:ME}(ho:PE X o (ay Γ W f))(he:PE X e (ay Γ W g))(hs:notStar e=true:=by rfl)(hbase:attributeBase o "append" X.env (eval o X.env)=eval o X.env:=by rfl)
  (hfew:((backTo pos (starEach [e] X.env)).all (fun x=> !x.1)&&(backToKw pos (keywordEach [] X.env)).all (fun x=>x.1.isSome)
   &&decide ([e].length+([]:List Keyword).length+(if([]:List Keyword).isEmpty then 0 else 1)<30))=true:=by rfl)
  (hline:(apos.endLine==pos.line)=true:=by rfl):PE X (.Call (.Attribute o "append" apos) [e] [] pos) (ay Γ W (fg "list" fM f (af [g]))):=
 qm q.hK PySem.F.plainAttrs_list PySem.F.slot_list_append PySem.F.type_list_append mt_append tM ho (fT hs he iR) hbase hfew hline (by rw[List.all_cons,hs];rfl)
end
section
variable (Γ:Gm)(P:Program)(w:World)(K:PySem.W.Frag)(mg:Str→Option Value)(base:Heap)(g:Cfg)(k:Nat)
abbrev Tot(g:Cfg)(i n:Nat):Prop:=∀ds S,(g.call i ds S).sat (fun _ _=>True) (fun _ _=>True)→ds.length=n
structure Cal(i:Nat)(x:Str)(dfl:List D):Prop where
 ex:∃f fd ps dvs dus,FnG P w K mg base (L2.CX P w) k f fd ps (jd Γ (g.call i) ps.length)∧mg x=some (.ref f)∧PySem.W.keepIn K (.ref f)=true∧Binds K fd ps dus∧Vals dvs dus∧(∀H μ,Reps Γ H μ dvs dfl)∧Tot g i ps.length
structure Mth(c i:Nat)(mn:Str)(dfl:List D):Prop where
 ex:∃f fd ps dvs dus,FnG P w K mg base (L2.CX P w) k f fd ps (jd Γ (g.call i) ps.length)∧SlX.SCls K (Γ.cls c)∧Meth K (Γ.cls c) mn f∧Binds K fd ps dus∧Vals dvs dus∧(∀H μ,Reps Γ H μ dvs dfl)∧Tot g i ps.length
structure Mkc(c i:Nat)(dfl:List D):Prop where
 ex:∃f fd ps dvs dus,FnG P w K mg base (L2.CX P w) k f fd ps (jd Γ (g.call i) ps.length)∧Mk K (Γ.cls c) f∧Binds K fd ps dus∧Vals dvs dus∧(∀H μ,Reps Γ H μ dvs dfl)∧Tot g i ps.length
structure Opm(c i:Nat)(nm:Str):Prop where
 ex:∃f fd ps,FnG P w K mg base (L2.CX P w) k f fd ps (jd Γ (g.call i) 2)∧PySem.W.findIn K (.ref (Γ.cls c)) nm=some (some (.ref f))∧PySem.W.isFn K (.ref f)=true∧PySem.W.fnIn K f=true∧Binds K fd ps []
structure Exr(c:Nat):Prop where
 ex:∃fI ar B i newId bmB,SupR P K (Γ.cls c) fI (Γ.xf c) ar B i newId bmB
structure Kdt(x:Str)(kd:Str→Option D):Prop where
 ex:∃u es n,mg x=some (.ref u)∧KDict K w u es n∧CH Γ u kd
structure Ttx(x:Str)(ys:List Str):Prop where
 ex:∃u ob,mg x=some (.ref u)∧K.lookup u=some ob∧ob.cls= .type "tuple"∧ob.dict=none∧o9 K u (ys.map V.str)
end
section
variable {Γ:Gm}{X:Cx}{W:WX}{pos:Pos}{k m:Nat}{g:Cfg}
theorem Cq.wf(q:Cq Γ X W m):Cq Γ X WF m:=⟨q.hK,q.hw,q.hc,q.nd,fun u s' ⟨a,B,sI,pins,σ,H,cls,d,e,I,nb,up,sky,na,os,ag,w⟩=>w.elim,q.room⟩
theorem bO(q:Cq Γ X W m){i:Nat}{dfl:List D}{x:Str}{p:Pos}{e:Expr}{es:List Expr}{fs:List ME}(C:Cal Γ X.prog X.w X.K X.mg X.base g k i x dfl)(h:Sds Γ X W (e::es) fs)(hk:k≤m:=by omega)(hg:Gl X x:=by rfl)(hdb:(x==("__debug__":Str))=false:=by decide):
  PE X (.Call (.Name x p) (e::es) [] pos) (ay Γ W (aC i g dfl (af fs))):=by
 obtain⟨f,fd,ps,dvs,dus,F,h1,h2,h3,h4,h5,h6⟩:=C.ex
 exact Cb q.tk F (q.room.mono hk) hg h1 h2 h3 h4 h5 h6 h.pa h.ns hdb
theorem Em(q:Cq Γ X W m){i:Nat}{dfl:List D}{x:Str}{p:Pos}(C:Cal Γ X.prog X.w X.K X.mg X.base g k i x dfl)(hk:k≤m:=by omega)(hg:Gl X x:=by rfl)(hdb:(x==("__debug__":Str))=false:=by decide):
  PE X (.Call (.Name x p) [] [] pos) (ay Γ W (aC i g dfl (af []))):=by
 obtain⟨f,fd,ps,dvs,dus,F,h1,h2,h3,h4,h5,h6⟩:=C.ex
 exact B3 q.tk F (q.room.mono hk) hg h1 h2 h3 h4 h5 h6 hdb
theorem wK(q:Cq Γ X W m){c i:Nat}{dfl:List D}{f:ME}{fs:List ME}{o e:Expr}{es:List Expr}{mn:Str}{apos:Pos}{pl:Sem Bool}(C:Mth Γ X.prog X.w X.K X.mg X.base g k c i mn dfl)(ho:PE X o (ay Γ W f))(h:Sds Γ X W (e::es) fs)(hk:k≤m:=by omega)
  (ht:eval (.Call (.Attribute o mn apos) (e::es) [] pos) X.env=(do
   let ov ← eval o X.env
   standAt apos.atName
   let(f,first) ← holding [ov] (getMethod ov mn pl)
   callWith pos f first (backTo pos (starEach (e::es) X.env)) (backToKw pos (keywordEach [] X.env))):=by rfl):
  PE X (.Call (.Attribute o mn apos) (e::es) [] pos) (ay Γ W (fE c i g dfl f (af fs))):=by
 obtain⟨f,fd,ps,dvs,dus,F,h1,h2,h3,h4,h5,h6⟩:=C.ex
 exact B7 q.tk ho h1 h2 F (q.room.mono hk) h3 h4 h5 h6 h.pa h.ns ht
theorem zI(q:Cq Γ X W m){c i:Nat}{dfl:List D}{fs:List ME}{x:Str}{p:Pos}{e:Expr}{es:List Expr}(C:Mkc Γ X.prog X.w X.K X.mg X.base g k c i dfl)(hm:X.mg x=some (.ref (Γ.cls c)))(h:Sds Γ X W (e::es) fs)(hk:k+1≤m:=by omega)(hg:Gl X x:=by rfl)(hdb:(x==("__debug__":Str))=false:=by decide):
  PE X (.Call (.Name x p) (e::es) [] pos) (ay Γ W (qK c i g dfl (af fs))):=by
 obtain⟨f,fd,ps,dvs,dus,F,h1,h3,h4,h5,h6⟩:=C.ex
 exact Fb q.tk h1 F (q.room.mono hk) hg hm h3 h4 h5 h6 h.pa h.ns hdb
theorem mS(q:Cq Γ X W m){c:Nat}{x:Str}{p pos':Pos}{e:Expr}{f:ME}(C:Exr Γ X.prog X.K c)(hm:X.mg x=some (.ref (Γ.cls c)))(he:PE X e (ay Γ W f))(hk:1≤m:=by omega)(hg:Gl X x:=by rfl)(hdb:(x==("__debug__":Str))=false:=by decide)(hs:notStar e=true:=by rfl):
  PS X (.Raise (some (.Call (.Name x p) [e] [] pos')) none pos) (dC Γ W (pU c f)):=by
 obtain⟨fI,ar,B,i,newId,bmB,S⟩:=C.ex
 exact vS (k:=0) q.hc q.tk S (q.room.mono hk) hg hm he hdb hs
theorem Fs(q:Cq Γ X W m){x:Str}{kd:Str→Option D}{p:Pos}{e:Expr}{f:ME}(C:Kdt Γ X.w X.K X.mg x kd)(he:PE X e (ay Γ W f))(hg:Gl X x:=by rfl)(hdb:(x==("__debug__":Str))=false:=by decide)(hs:gR e=true:=by rfl):
  PE X (.Subscript (.Name x p) e pos) (ay Γ W (ve kd f)):=by
 obtain⟨u,es,n,h1,h2,h3⟩:=C.ex
 exact Hg q.hK hg h1 hdb h2 h3 he hs
theorem zo(q:Cq Γ X W m){c i:Nat}{cs:List Nat}{a b:Expr}{f h:ME}(C:Opm Γ X.prog X.w X.K X.mg X.base g k c i "__eq__")(o:OwnY Γ cs c)(ha:PE X a (ay Γ W f))(hb:PE X b (ay Γ W h))(hk:k≤m:=by omega)(hm:behindInMarks .Eq b=false:=by first|exact nobehind _ (by decide) (by decide)|rfl):
  PE X (.Compare a [.Eq] [b] pos) (ay Γ W (eI (gm g c i cs) f h)):=by
 obtain⟨ga,fd,ps,F,h1,h2,h3,h4⟩:=C.ex
 exact As (rL (op:=.Eq) (fun _ _=>rfl) h1 h2 F (q.room.mono hk) h4) (by rw[q.hK];exact sH o) ha hb hm
theorem w4(q:Cq Γ X W m){c i:Nat}{cs:List Nat}{a b:Expr}{f h:ME}(C:Opm Γ X.prog X.w X.K X.mg X.base g k c i "__eq__")(o:OwnY Γ cs c)(ha:PE X a (ay Γ W f))(hb:PE X b (ay Γ W h))(hk:k≤m:=by omega)(hm:behindInMarks .Eq b=false:=by first|exact nobehind _ (by decide) (by decide)|rfl):
  PT X (.Compare a [.Eq] [b] pos) (gG Γ W (ao (eI (gm g c i cs) f h))):=by
 obtain⟨ga,fd,ps,F,h1,h2,h3,h4⟩:=C.ex
 exact vr (rL (op:=.Eq) (fun _ _=>rfl) h1 h2 F (q.room.mono hk) h4) (by rw[q.hK];exact sH o) ha hb hm
theorem jx(q:Cq Γ X W m){c i:Nat}{a b:Expr}{f h:ME}(C:Opm Γ X.prog X.w X.K X.mg X.base g k c i "__sub__")(hc:PySem.W.selfFirst X.K (Γ.cls c)=true)(ha:PE X a (ay Γ W f))(hb:PE X b (ay Γ W h))(hk:k≤m:=by omega):
  PE X (.BinOp a .Sub b pos) (ay Γ W (eI (fq g c i) f h)):=by
 obtain⟨ga,fd,ps,F,h1,h2,h3,h4⟩:=C.ex
 exact CL (Ap (op:=.Sub) hc h1 h2 F (q.room.mono hk) h4) AW ha hb
end
section
variable {Γ:Gm}{X:Cx}{W:WX}{pos:Pos}{k m:Nat}
theorem FQ(q:Cq Γ X W m){x:Str}{ys:List Str}{p apos:Pos}{e:Expr}{f:ME}(C:Ttx X.K X.mg x ys)(he:PE X e (ay Γ W f))(hg:Gl X x:=by rfl)(hdb:(x==("__debug__":Str))=false:=by decide)
  (hbase:attributeBase (.Name x p) "index" X.env (eval (.Name x p) X.env)=eval (.Name x p) X.env:=by rfl)
  (hfew:((backTo pos (starEach [e] X.env)).all (fun x=> !x.1)&&(backToKw pos (keywordEach [] X.env)).all (fun x=>x.1.isSome)
   &&decide (([e]:List Expr).length+([]:List Keyword).length+(if([]:List Keyword).isEmpty then 0 else 1)<30))=true:=by rfl)
  (hline:(apos.endLine==pos.line)=true:=by rfl) (hs:notStar e=true:=by rfl):PE X (.Call (.Attribute (.Name x p) "index" apos) [e] [] pos) (ay Γ W (vZ ys f)):=by
 obtain⟨u,ob,h1,h2,h3,h4,h5⟩:=C.ex
 exact Cu q.hK hg h1 hdb h2 h3 h4 h5 he hbase hfew hline hs
end
end Ev
namespace Ev
open PySem L2 PyProof.Rows LamX He
abbrev Hu:Type:=Option (Str×Str×Arguments×FuncBody×Scope×Addr×List Str×Value×Addr)
def ED(K:PySem.W.Frag)(p:Str×Option Str):Hu:=match K.lookup (fAd K p) with
 |some ⟨_,_,.func fd,_⟩=>some (fd.name,fd.qualname,fd.params,fd.body,fd.scope,fd.globals,fd.closure.map (·.1),fd.defaults,fd.builtins)
 |_=>none
structure ExD where
 cls:Str
 base:String
 init:String
 newId:String
 mro:List Value
 f:Str
 ar:Str
 qual:Str
 stm:Stmt
def ExD.at_(d:ExD):Str×Option Str:=(d.cls,some "__init__")
def ExD.val(d:ExD):Hu:=some ("__init__",d.qual,defArgs d.stm,.stmts (defBody d.stm),defScope d.stm,mainGlobals,["__class__"],.none,builtinsNs)
def I8(prog:Program)(K:PySem.W.Frag)(d:ExD)(C fI:Addr):Bool:=
 (match K.lookup fI with
  |some ⟨_,_,.func fd,_⟩=>(match fd.code,fd.closure with
   | .ref cda,[(_,cc)]=>PySem.W.codeIn K (.ref cda) d.qual&&(match K.lookup cda with
     |some ⟨_,_,.fields vs,_⟩=>(match vs[2]? with|some (Value.str file _)=>((prog.main.file:Str)==file)|_=>false)
     |_=>false)&&(match K.lookup cc with
     |some ⟨_,_,.cell (some (.ref C')),_⟩=>decide (C'=C)
     |_=>false)
   |_,_=>false)
  |_=>false)&&
 ((PySem.W.clsIn K C).isSome&&decide (PySem.W.mroIn K C (.ref C)=some true)&&decide (PySem.W.subIn K (.ref C) (.type d.base)=some true)&&decide (PySem.W.nsIn K mainGlobals "super"=some none)&&decide (PySem.W.nsIn K cStatics "thirdparty.any"=some none)&&
  decide (PySem.W.ks_superIn K C C "__init__"=some (some (.builtin d.init)))&&PySem.W.excInitIn K C d.mro d.newId&&decide (PySem.W.findIn K (.ref C) "__setattr__"=some (some (.builtin "object.__setattr__")))&&PySem.W.excOver K C d.mro&&decide (PySem.W.takerIn K C d.f=some none)&&PySem.W.hasDictIn K C&&
  decide (PySem.W.findIn K (.ref C) "__init__"=some (some (.ref fI)))&&decide (PySem.W.typeIn K (.ref fI)=some (.type "function"))&&decide (PySem.W.subIn K (.ref C) (.type "BaseException")=some true)&&decide (PySem.W.typeIn K (.ref C)=some (.type "type"))&&PySem.W.keepIn K (.ref C))
theorem A5{prog:Program}{K:PySem.W.Frag}{d:ExD}{p0 p1 p2 p3 p4 p5 p6 p7 p8 p9:Pos}{j:Nat}{txt:Str}{ag:Arg}(FB:PySem.ExcBaseFacts d.base d.newId d.init d.mro)(SF:PySem.StoreFacts d.base d.mro "object.__setattr__" "object")(KF:PySem.W.KxsFacts d.base d.init)
  (e:ED K d.at_=d.val) (c:I8 prog K d (ga K d.cls) (fAd K d.at_)=true) (hb:defBody d.stm=dW p0 p1 p2 p3 p4 p5 p6 p7 p8 p9 j txt d.f d.ar) (hs:defScope d.stm=bN d.ar) (hag:((defArgs d.stm).posonlyargs++(defArgs d.stm).args).head?=some ag) (hself:ag.arg="self")
  (hbind:∀ (kV doc pm cdv ct:Value) (an:Option Addr) (cc:Addr) (x u:Value),bindArgs (PySem.W.ksFn "__init__" d.qual (defArgs d.stm) (dW p0 p1 p2 p3 p4 p5 p6 p7 p8 p9 j txt d.f d.ar) (bN d.ar) .none kV doc pm an cdv ct cc) ⟨[x,u],[]⟩=pure [(("self":Str),x),(d.ar,u)])
  (hbind2:∀ (kV doc pm cdv ct:Value) (an:Option Addr) (cc:Addr) (x u:Value),bindArgs (PySem.W.ksFn "__init__" d.qual (defArgs d.stm) (dW p0 p1 p2 p3 p4 p5 p6 p7 p8 p9 j txt d.f d.ar) (bN d.ar) .none kV doc pm an cdv ct cc) ⟨[x],[(d.ar,u)]⟩=pure [(("self":Str),x),(d.ar,u)])
  (hev:∀env:Env,∃pl:Sem Bool,eval (.Call (.Attribute (.Call (.Name "super" p0) [] [] p1) "__init__" p2) [.Constant (.str txt) j p3] [] p4) env=(do
   let ov ← attributeBase (.Call (.Name "super" p0) [] [] p1) "__init__" env (eval (.Call (.Name "super" p0) [] [] p1) env)
   standAt p2.atName
   let(f,first) ← holding [ov] (getMethod ov "__init__" pl)
   callWith p4 f first (backTo p4 (starEach [.Constant (.str txt) j p3] env)) []))
  (htop:(prog.main.scope.names.lookup ("super":Str)).isSome=false) (n1:(d.ar==("self":Str))=false) (n2:(d.ar==("__class__":Str))=false) (n3:(d.ar==("super":Str))=false) (n4:(d.ar==("__debug__":Str))=false):
  SupR prog K (ga K d.cls) (fAd K d.at_) d.f d.ar d.base d.init d.newId d.mro:=by
 unfold I8 at c
 simp only[Jy,JB] at c
 obtain⟨c0,⟨⟨⟨⟨⟨⟨⟨⟨⟨⟨⟨⟨⟨⟨⟨c1,c2⟩,c3⟩,c4⟩,c5⟩,c6⟩,c7⟩,c8⟩,c9⟩,c10⟩,c11⟩,c12⟩,c13⟩,c14⟩,c15⟩,c16⟩⟩:=c
 unfold ED at e
 cases q:K.lookup (fAd K d.at_) with
 |none=>rw[q] at e;cases e
 |some o=>
  obtain⟨oc,od,dt,osl⟩:=o
  rw[q] at e c0
  cases dt with
  |func fd=>
   obtain⟨a1,a2,a3,a4,a5,a6,a7,a8,a9,a10,a11,a12,a13,a14,a15⟩:=fd
   have e2:(some (a1,a2,a3,a4,a5,a6,a7.map (·.1),a8,a15):Hu)=d.val:=e
   unfold ExD.val at e2
   simp only[Option.some.injEq,Prod.mk.injEq] at e2
   obtain⟨h1,h2,h3,h4,h5,h6,h7,h8,h9⟩:=e2
   subst h1 h2 h3 h4 h5 h6 h8 h9
   cases a13 with
   |ref cda=>
    match a7,h7,c0 with
    | [(n,cc)],h7,c0=>
     have hn:n="__class__":=by simpa using h7
     subst hn
     simp only[Jy] at c0
     obtain⟨⟨c01,c02⟩,c03⟩:=c0
     split at c02
     ·rename_i ccl cdd vs ccs qc
      split at c02
      ·rename_i file tf qf
       split at c03
       ·rename_i cl cld C' csl qq
        have hC:=JL c03
        subst hC
        obtain⟨cd,hcd⟩:=Option.isSome_iff_exists.mp c1
        refine⟨⟨FB,SF,KF,⟨oc,od,"__init__",d.qual,defArgs d.stm,p0,p1,p2,p3,p4,p5,p6,p7,p8,p9,j,txt,.none,a9,a10,a11,a14,a12,cda,cc,osl,ccl,cl,cdd,cld,ccs,csl,vs,file,tf,ag,?_,c01,qc,qf,c02,qq,hag,hself,fun s x u as has=>(by
         rcases has with rfl|rfl
         ·exact .of_eq (hbind _ _ _ _ _ _ _ x u)
         ·exact .of_eq (hbind2 _ _ _ _ _ _ _ x u)),hev⟩,⟨cd,hcd⟩,c2,c3,c4,c5,c6,c7,c8,c9,c10,c11,htop,n1,n2,n3,n4⟩,c12,c13,c14,c15,c16⟩
        rw[q, ← hb, ← hs]
       ·cases c03
      ·cases c02
     ·cases c02
   |_=>cases c0
  |_=>cases e
structure GD where
 ad:PySem.W.Frag→Addr
 d:DefD
def Fg(K:PySem.W.Frag)(a:Addr):FnW:=match K.lookup a with
 |some ⟨_,_,.func fd,_⟩=>some (fd.name,fd.qualname,fd.params,fd.body,fd.scope,fd.globals,fd.closure,fd.builtins)
 |_=>none
abbrev C5:Type:=AlX×List Hu×List FnW
def wJ:List Addr→Nat→List Addr→Nat×List Addr
 | [],m,acc=>(m,acc)
 |a::r,m,acc=>match Nat.beq (Nat.land (Nat.shiftRight m a) 1) 1 with
  |true=>wJ r m acc
  |false=>wJ r (Nat.lor m (Nat.shiftLeft 1 a)) (a::acc)
def IX(g:Addr→Option Obj):Nat→Nat×List Addr×List Addr
 |0=>(Nat.shiftLeft 1 mainGlobals,[mainGlobals],[mainGlobals])
 |n+1=>match IX g n with
  | (m,fr,al)=>match wJ (fr.flatMap fun a=>match g a with|some o=>refsD o|none=>[]) m [] with
   | (m',new)=>(m',new,al++new)
def nu(g:Addr→Option Obj)(n:Nat):List Addr:=sysModules::cStatics::(IX g n).2.2
def yY(n:Nat)(fa:List Fa)(fn:List DefD)(ts:List Tab)(tf:List Defn)(xs:List ExD)(gs:List GD)(ex:PySem.W.Frag→Bool)(g:Addr→Option Obj):C5:=
 ((obsT fa fn ts (frT g (nu g n)),ex (frT g (nu g n))&&tabsB g tf (frT g (nu g n))),xs.map fun d=>ED (frT g (nu g n)) d.at_,gs.map fun d=>Fg (frT g (nu g n)) (d.ad (frT g (nu g n))))
def GQ(fn:List DefD)(ts:List Tab)(xs:List ExD)(gs:List GD)(w:World):C5:=(valX fn ts w,xs.map ExD.val,gs.map fun d=>d.d.val)
structure SaysS(fa:List Fa)(fn:List DefD)(ts:List Tab)(tf:List Defn)(xs:List ExD)(gs:List GD)(ex:PySem.W.Frag→Bool)(w:World)(h:Heap)(K:PySem.W.Frag):Prop where
 x:SaysX fa fn ts tf ex w h K
 ks:(xs.map fun d=>ED K d.at_)=xs.map ExD.val
 gs:(gs.map fun d=>Fg K (d.ad K))=gs.map fun d=>d.d.val
theorem yo{n:Nat}{fa:List Fa}{fn:List DefD}{ts:List Tab}{tf:List Defn}{xs:List ExD}{gs:List GD}{ex:PySem.W.Frag→Bool}{w:World}{h:Heap}(e:yY n fa fn ts tf xs gs ex h.get?=GQ fn ts xs gs w):SaysS fa fn ts tf xs gs ex w h (frT h.get? (nu h.get? n)):=by
 have e0:(obsT fa fn ts (frT h.get? (nu h.get? n)),ex (frT h.get? (nu h.get? n))&&tabsB h.get? tf (frT h.get? (nu h.get? n)))=valX fn ts w:=congrArg (fun z:C5=>z.1) e
 have e1:obsT fa fn ts (frT h.get? (nu h.get? n))=valT fn ts w:=congrArg (fun z:AlX=>z.1) e0
 have e2:(ex (frT h.get? (nu h.get? n))&&tabsB h.get? tf (frT h.get? (nu h.get? n)))=true:=congrArg (fun z:AlX=>z.2) e0
 obtain⟨h1,h2⟩:=ba e2
 have key:∀p∈tf,PySem.W.codeHdIn (frT h.get? (nu h.get? n)) (cT (frT h.get? (nu h.get? n)) p).1 (cT (frT h.get? (nu h.get? n)) p).2=true∧∃o,h.get? (cT (frT h.get? (nu h.get? n)) p).2=some o∧emptyTab o=true:=fun p hp=>by
  obtain⟨h3,h4⟩:=ba (Jz.mp h2 p hp)
  refine⟨h3,?_⟩
  cases q:h.get? (cT (frT h.get? (nu h.get? n)) p).2 with
  |none=>
   rw[q] at h4
   cases h4
  |some o=>
   rw[q] at h4
   exact⟨o,rfl,h4⟩
 exact⟨⟨e1,h1,fun p hp=>(key p hp).1,fun p hp=>by
  obtain⟨_,o,q,z⟩:=key p hp
  exact frT_none q z,fun p hp=>by
  obtain⟨_,o,q,z⟩:=key p hp
  rw[q,emptyTab_eq z]⟩,congrArg (fun z:C5=>z.2.1) e,congrArg (fun z:C5=>z.2.2) e⟩
def Bo(n:Nat)(fa:List Fa)(fn:List DefD)(ts:List Tab)(tf:List Defn)(xs:List ExD)(gs:List GD)(ex:PySem.W.Frag→Bool):PySem.W.Hook where
 α:=C5
 obs:=fun s=>yY n fa fn ts tf xs gs ex s.heap.get?
 val:=fun w=>GQ fn ts xs gs w
 says:=fun w h=>∃K:PySem.W.Frag,K.In h∧SaysS fa fn ts tf xs gs ex w h K
 of:=fun _ _ e=>⟨_,frT_in,yo e⟩
 keeps:=fun _ _ _ ⟨K,hK,c⟩ k=>⟨K,PySem.W.Frag.In.keeps hK k,⟨⟨c.x.t,c.x.more,c.x.hd,c.x.out,fun p hp=>k _ _ (c.x.empty p hp)⟩,c.ks,c.gs⟩⟩
theorem zV{n:Nat}{fa:List Fa}{fn:List DefD}{ts:List Tab}{tf:List Defn}{xs:List ExD}{gs:List GD}{ex:PySem.W.Frag→Bool}{g:Addr→Option Obj}{s:Shared}(h:∀a,g a=s.heap.get? a):yY n fa fn ts tf xs gs ex g=(Bo n fa fn ts tf xs gs ex).obs s:=by
 have e:g=s.heap.get?:=funext h
 rw[e]<;>rfl
section
variable {K:PySem.W.Frag}{C:Addr}{m f:Str}{i:Nat}
def jM(K:PySem.W.Frag)(C:Addr):Bool:=PySem.W.plainGet K C Str.empty&&PySem.W.isClsIn K C&&PySem.W.plainOver K C&&decide (PySem.W.findIn K (.ref C) "__setattr__"=some (some (.builtin "object.__setattr__")))
theorem iA(h:jM K C=true):SlX.SCls K C:=by
 unfold jM at h
 simp only[Jy,JB] at h
 exact⟨h.1.1.1,h.1.1.2,h.1.2,h.2⟩
def xn(K:PySem.W.Frag)(C:Addr):Bool:=decide (PySem.W.findIn K (.ref C) "__class__"=some (some (.builtin "object.__class__")))&&decide (PySem.W.specialIn K (.builtin "object.__class__") "__get__"=some (some (.builtin "getset_descriptor.__get__")))&&decide (PySem.W.takesIn K (.builtin "object.__class__")=some true)&&decide (PySem.W.mroIn K C (.type "object")=some true)
theorem xJ(h:xn K C=true):SlX.SIsi K C:=by
 unfold xn at h
 simp only[Jy,JB] at h
 exact⟨h.1.1.1,h.1.1.2,h.1.2,h.2⟩
def oi(K:PySem.W.Frag)(C:Addr)(f:Str)(i:Nat):Bool:=decide (PySem.W.findIn K (.ref C) f=some (some (.ref (ma K C f))))&&decide (PySem.W.specialIn K (.ref (ma K C f)) "__get__"=some (some (.builtin "member_descriptor.__get__")))&&decide (PySem.W.takesIn K (.ref (ma K C f))=some true)&&
 decide (PySem.W.typeIn K (.ref (ma K C f))=some (.type "member_descriptor"))&&decide (PySem.W.slotIn K (ma K C f) C=some i)&&decide (i<1000)
theorem nB(h:oi K C f i=true):SlX.Slot1 K C f (ma K C f) i:=by
 unfold oi at h
 simp only[Jy,JB] at h
 exact⟨h.1.1.1.1.1,h.1.1.1.1.2,h.1.1.1.2,h.1.1.2,h.1.2,h.2⟩
def Fc(K:PySem.W.Frag)(C:Addr):Bool:=PySem.W.makesIn K C&&decide (PySem.W.findIn K (.ref C) "__init__"=some (some (.ref (ma K C "__init__"))))&&PySem.W.isFn K (.ref (ma K C "__init__"))&&PySem.W.keepIn K (.ref C)
theorem xZ(h:Fc K C=true):Mk K C (ma K C "__init__"):=by
 unfold Fc at h
 simp only[Jy,JB] at h
 exact⟨h.1.1.1,h.1.1.2,h.1.2,h.2⟩
def jc(K:PySem.W.Frag)(C:Addr)(m:Str):Bool:=decide (PySem.W.findIn K (.ref C) m=some (some (.ref (ma K C m))))&&PySem.W.isFn K (.ref (ma K C m))&&PySem.W.keepIn K (.ref (ma K C m))&&PySem.W.fnIn K (ma K C m)
theorem hU(h:jc K C m=true):Meth K C m (ma K C m)∧PySem.W.fnIn K (ma K C m)=true:=by
 unfold jc at h
 simp only[Jy,JB] at h
 exact⟨⟨h.1.1.1,h.1.1.2,h.1.2⟩,h.2⟩
def ql(Γ:Gm)(cs:List Nat)(c:Nat):Bool:=(wG.all fun T=>decide (PySem.W.kitOne Γ.K (.type T) (.ref (Γ.cls c))=some false))&&cs.all fun d=>jM Γ.K (Γ.cls d)&&xn Γ.K (Γ.cls d)&&decide (PySem.W.kitOne Γ.K (.ref (Γ.cls d)) (.ref (Γ.cls c))=some (d==c))
theorem iV{Γ:Gm}{cs:List Nat}{c:Nat}(h:ql Γ cs c=true):OwnIs Γ cs c:=by
 unfold ql at h
 simp only[Jy,JB,Jz] at h
 exact⟨h.1,fun d hd=>⟨iA (h.2 d hd).1.1,xJ (h.2 d hd).1.2,(h.2 d hd).2⟩⟩
def xH(Γ:Gm)(cs:List Nat)(c:Nat):Bool:=(wG.all fun T=>PySem.W.notFirst Γ.K (Γ.cls c) (.type T))&&cs.all fun d=>PySem.W.notFirst Γ.K (Γ.cls c) (.ref (Γ.cls d))
theorem nA{Γ:Gm}{cs:List Nat}{c:Nat}(h:xH Γ cs c=true):OwnY Γ cs c:=by
 unfold xH at h
 simp only[Jy,Jz] at h
 exact⟨h.1,h.2⟩
def fO(l:List (Nat×Nat))(c:Nat):Option Nat:=l.lookup c
theorem o7{l:List (Nat×Nat)}{c b:Nat}(h:fO l c=some b):(c,b)∈l:=by
 unfold fO at h
 induction l with
 |nil=>cases h
 |cons p r ih=>
  obtain⟨d,e⟩:=p
  rw[List.lookup_cons] at h
  split at h
  ·rename_i q
   cases h
   rw[beq_iff_eq.mp q]
   exact Jf
  ·exact Je _ (ih h)
def Bs(Γ:Gm)(f:Str)(l:List (Nat×Nat)):Bool:=l.all fun p=>jM Γ.K (Γ.cls p.1)&&oi Γ.K (Γ.cls p.1) f p.2
theorem bJ{Γ:Gm}{f:Str}{l:List (Nat×Nat)}(h:Bs Γ f l=true):vp Γ f (fO l):=fun c i e=>by
 have q:=Jz.mp h _ (o7 e)
 simp only[Jy] at q
 exact⟨iA q.1,_,nB q.2⟩
def EE(K:PySem.W.Frag)(a:Addr)(ys:List Str):Bool:=match K.lookup a with
 |some ⟨.type c,none,.seq its _,_⟩=>decide (c="tuple")&&(decide (its.size≤sizeLine)&&relAll (ys.map V.str) its.toList)
 |_=>false
theorem ki{a:Addr}{ys:List Str}(h:EE K a ys=true):o9 K a (ys.map V.str)∧∃ob,K.lookup a=some ob∧ob.cls= .type "tuple"∧ob.dict=none:=by
 unfold EE at h
 split at h
 ·rename_i c its n sl q
  obtain⟨h1,h2⟩:=ba h
  obtain⟨h3,h4⟩:=ba h2
  have e:=JL h1
  subst e
  exact⟨⟨_,its,n,q,rfl,rfl,rfl,JL h3,relAll_ok h4⟩,_,q,rfl,rfl⟩
 ·cases h
theorem eP{Γ:Gm}{H:Hp}{μ:Mu}:∀ys:List Str,Reps Γ H μ (ys.map V.str) (ys.map D.str)
 | []=>.nil
 |y::ys=>.cons (.str y) (eP ys)
theorem gu{Γ:Gm}{a:Addr}{ys:List Str}(h:EE Γ.K a ys=true)(H:Hp)(μ:Mu):Rep Γ H μ (.ref a) (.tup (ys.map D.str)):=.tup (.inr (ki h).1) (eP ys)
def xQ(l:List (Str×(Str×List Str)))(z:Str):Option D:=(l.find? fun p=>decide (p.1=z)).map fun p=>.tup (p.2.2.map D.str)
def FN(K:PySem.W.Frag)(u:Addr)(l:List (Str×(Str×List Str))):Bool:=l.all fun p=>decide (PySem.W.nsIn K u p.1=some (some (.ref (ga K p.2.1))))&&EE K (ga K p.2.1) p.2.2
theorem xj{Γ:Gm}{u:Addr}{l:List (Str×(Str×List Str))}(h:FN Γ.K u l=true):CH Γ u (xQ l):=fun z d e=>by
 obtain⟨p,hp,rfl⟩:=Jh.mp e
 have hz0:=List.find?_some hp
 have hz:p.1=z:=by simpa using hz0
 have q:=Jz.mp h p (List.mem_of_find?_eq_some hp)
 simp only[Jy,JB] at q
 exact⟨.ref (ga Γ.K p.2.1),.ref (ga Γ.K p.2.1),by rw[← hz];exact q.1,rfl,fun H μ=>gu q.2 H μ⟩
end
section
variable {Γ:Gm}{P:Program}{w:World}{K:PySem.W.Frag}{mg:Str→Option Value}{base:Heap}{x qual:Str}{params:Arguments}{body:List Stmt}{scope:Scope}{dvs:List V}{kws:List (Str×V)}{f:Addr}{fd:FuncData}{Pg:Nat→Option Dfn}{fuel i k n nn:Nat}{b:Cfg→MS}{N ps:List Str}
theorem bB(hK:K=Γ.K)(hw:w=Γ.w)(FD:FunD K x qual params body scope dvs kws f fd)(S:FnScope N ps scope)(hP:Pg i=some ⟨ps.length,N.length,b⟩)
  (hb:∀ (k:Nat) (cdv:Value) (A:Around) (outer:List Env) (s:Shared) (H:Hp) (E:XK),qU K f cdv→Cq Γ (cxOf (L2.CX P w) P w K mg base N qual scope f cdv A outer s H E) (fun cls d _ H'=>E cls d H') (6*k+5)→
   PSs (cxOf (L2.CX P w) P w K mg base N qual scope f cdv A outer s H E) body (dC Γ (fun cls d _ H'=>E cls d H') (b ⟨ak Pg fuel k,fuel⟩))) (hN:N.length<1000:=by decide):∀k:Nat,FnG P w K mg base (L2.CX P w) (6*k) f fd ps (jd Γ (ak Pg fuel k i) ps.length):=by
 intro k
 cases k with
 |zero=>
  refine⟨fun vs H Q E h=>h.1,fun A outer s H args us vs Q E hr e0 hbn r h=>?_⟩
  obtain⟨_,ds,S,μ,_,_,_,z⟩:=h
  exact False.elim z
 |succ k=>
  have e:ak Pg fuel (k+1) i=jh ps.length N.length (b ⟨ak Pg fuel k,fuel⟩):=by
   funext args S
   show(match Pg i with|some d=>runC d.np d.nn (d.body ⟨ak Pg fuel k,fuel⟩) args S|none=>.bad)=_
   rw[hP]
   exact sW hN
  rw[e]
  exact zB (k:=6*k+5) FD S fun cdv A outer s H E hcd hr=>hb k cdv A outer s H E hcd (Cq.ofDef hK hw S.nd hr)
theorem pZ(hP:Pg i=some ⟨n,nn,b⟩):Tot ⟨ak Pg fuel k,fuel⟩ i n:=by
 intro ds S h
 cases k with
 |zero=>exact False.elim h
 |succ k=>
  have h:(match Pg i with|some d=>runC d.np d.nn (d.body ⟨ak Pg fuel k,fuel⟩) ds S|none=>.bad:R RV).sat (fun _ _=>True) (fun _ _=>True):=h
  rw[hP] at h
  have hw:∀nn b,(x9 n nn b ds S).sat (fun _ _=>True) (fun _ _=>True)→ds.length=n:=fun nn b h=>by
   unfold x9 at h
   by_cases hl:ds.length=n
   ·exact hl
   ·rw[if_neg hl] at h
    exact False.elim h
  simp only[runC] at h
  split at h
  ·simp only[jh] at h
   split at h
   ·split at h
    ·assumption
    ·exact False.elim h
   ·exact hw _ _ h
  ·exact hw _ _ h
theorem cU{g:Cfg}(F:FnG P w K mg base (L2.CX P w) k f fd ps (jd Γ (g.call i) ps.length))(hm:mg x=some (.ref f))(FD:FunD K x qual params body scope dvs kws f fd)(hb:Binds K fd ps [])(t:Tot g i ps.length):Cal Γ P w K mg base g k i x []:=
 ⟨f,fd,ps,[],[],F,hm,FD.kp,hb,.nil,fun _ _=>.nil,t⟩
theorem xu{g:Cfg}{c:Nat}{mn:Str}(F:FnG P w K mg base (L2.CX P w) k (ma K (Γ.cls c) mn) fd ps (jd Γ (g.call i) ps.length))(hc:jM K (Γ.cls c)=true)(hm:jc K (Γ.cls c) mn=true)(hb:Binds K fd ps [])(t:Tot g i ps.length):Mth Γ P w K mg base g k c i mn []:=
 ⟨_,fd,ps,[],[],F,iA hc,(hU hm).1,hb,.nil,fun _ _=>.nil,t⟩
theorem Dz{g:Cfg}{c:Nat}(F:FnG P w K mg base (L2.CX P w) k (ma K (Γ.cls c) "__init__") fd ps (jd Γ (g.call i) ps.length))(hm:Fc K (Γ.cls c)=true)(hb:Binds K fd ps [])(t:Tot g i ps.length):Mkc Γ P w K mg base g k c i []:=
 ⟨_,fd,ps,[],[],F,xZ hm,hb,.nil,fun _ _=>.nil,t⟩
theorem vO{g:Cfg}{c:Nat}{nm:Str}(F:FnG P w K mg base (L2.CX P w) k (ma K (Γ.cls c) nm) fd ps (jd Γ (g.call i) 2))(hm:jc K (Γ.cls c) nm=true)(hb:Binds K fd ps []):Opm Γ P w K mg base g k c i nm:=
 ⟨_,fd,ps,F,(hU hm).1.at_,(hU hm).1.fn,(hU hm).2,hb⟩
end
def clsBody:Stmt→List Stmt
 | .ClassDef _ _ _ b _ _ _ _ _ _ _=>b
 |_=>[]
def gM:MT:=fun _ S=>.ok true S
theorem i7{Γ:Gm}{X:Cx}{W:WX}:PTs X [] (gG Γ W gM):=⟨fun pins s σ H Q I h=>pts_nil.run pins s σ H Q I (by
 obtain⟨env,S,μ,a,h⟩:=h
 exact h H μ .refl a.sim)⟩
structure Ft(fa:List Fa)(fn:List DefD)(ts:List Tab)(tf:List Defn)(xs:List ExD)(gs:List GD)(vd:List (PySem.W.Frag→Bool))(w:World)(K:PySem.W.Frag)(mg:Str→Option Value)(base:Heap):Prop where
 hh:∃h:Heap,K.In h∧h.Ns mainGlobals mg∧SaysS fa fn ts tf xs gs (fun K=>vd.all fun c=>c K) w h K
 tb:∀p∈tf,TabB base mg (cT K p).1 (cT K p).2
section
variable {fa:List Fa}{fn:List DefD}{ts:List Tab}{tf:List Defn}{xs:List ExD}{gs:List GD}{vd:List (PySem.W.Frag→Bool)}{w:World}{K:PySem.W.Frag}{mg:Str→Option Value}{base:Heap}
theorem Ft.glo(F:Ft fa fn ts tf xs gs vd w K mg base)(i:Nat){x:Str}(h:fa[i]? =some (.glo x):=by rfl):mg x=some (.ref (ga K x)):=by
 obtain⟨hp,X,G,c⟩:=F.hh
 exact glo_ok X G (c.x.t.d.fact i h)
theorem Ft.free(F:Ft fa fn ts tf xs gs vd w K mg base)(i:Nat){x:Str}(h:fa[i]? =some (.free x):=by rfl):mg x=none:=by
 obtain⟨hp,X,G,c⟩:=F.hh
 exact free_ok X G (c.x.t.d.fact i h)
theorem Ft.chk(F:Ft fa fn ts tf xs gs vd w K mg base)(i:Nat){c:PySem.W.Frag→Bool}(h:vd[i]? =some c:=by rfl):c K=true:=by
 obtain⟨hp,X,G,s⟩:=F.hh
 exact Jz.mp s.x.more c (Js h)
theorem Ft.def_(F:Ft fa fn ts tf xs gs vd w K mg base)(i:Nat){d:DefD}(h:fn[i]? =some d:=by rfl):∃fd,FunD K d.name d.qual d.params d.body d.scope (d.dvs K) (d.kws K) (fAd K d.at_) fd:=by
 obtain⟨hp,X,G,c⟩:=F.hh
 exact c.x.t.d.def_ i h
theorem Ft.tab(F:Ft fa fn ts tf xs gs vd w K mg base)(i:Nat){t:Tab}(h:ts[i]? =some t:=by rfl):∃es n,KDict K w (t.1 K) es n:=by
 obtain⟨hp,X,G,c⟩:=F.hh
 exact c.x.t.tab i h
theorem Ft.ks(F:Ft fa fn ts tf xs gs vd w K mg base)(i:Nat){d:ExD}(h:xs[i]? =some d:=by rfl):ED K d.at_=d.val:=by
 obtain⟨hp,X,G,c⟩:=F.hh
 have e2:(xs.map fun d=>ED K d.at_)[i]? =(xs.map ExD.val)[i]? :=by rw[c.ks]
 rw[JR,JR,h] at e2
 exact Jq e2
end
end Ev
namespace Ev
open PySem PySem.Spec L2 PyProof.Rows LamX He
def H0(a:Addr)(o:Obj)(ts:List Addr)(ns:List Int):Hp:=fun b=>if b=a then some (.frz o (.lst (ns.map V.int))) else if b∈ts then some (.tbl #[]) else none
section
variable {P:Program}{w:World}{K:PySem.W.Frag}{mg mb:Str→Option Value}{k:Nat}{fa a:Addr}{cs:List (Addr×Addr)}{fd:FuncData}{x:Str}{s₁:Shared}{vs:List Value}{ns:List Int}{Γ:Gm}{f:List D→a0→R RV}
theorem uf(KX:K.In s₁.heap)(hns:s₁.heap.Ns mainGlobals mg)(hb:s₁.heap.Ns builtinsNs mb)(hbb:∀x:Str,x≠ "__name__"→mb x=bootBuiltins x)(hlim:s₁.heap.NoLimit)(hg:s₁.gens= #[])
  (hT:∀p∈cs,s₁.heap.get? p.2=some { cls:=.none,data:=.fields #[]}) (nT:∀p∈cs,K.lookup p.2=none) (C:∀p∈cs,PySem.W.CodeHd s₁.heap p.1 p.2)
  (hbm:∃ (bm:Addr) (ob:Obj),mg "__builtins__"=some (.ref bm)∧bm≠builtinsNs∧s₁.heap.get? bm=some ob∧ob.cls= .type "module"∧ob.dict=some builtinsNs∧ob.data= .plain)
  (ha:s₁.heap.get? a=some { cls:=.type "list",data:=.seq vs.toArray}) (hi:IntsAre vs ns) (hl:ns.length≤sizeLine) (hr:RoomG k callerA) (nl:K.lookup a=none)
  (F:∀base:Heap,K.In base→base.Ns mainGlobals mg→(∀p∈cs,TabB base mg p.1 p.2)→FnG P w K mg base (L2.CX P w) k fa fd [x] (jd Γ f 1)) (hbind:∀ (s:Shared) (u:Value),BindsTo s fd ⟨[u],[]⟩ [(x,u)])
  (hΓ:(∀p∈Γ.T,p.1∈cs.map (·.2))∧∀p∈Γ.U,p.1∈cs.map (·.2)) (hsat:(f [.scr (ns.map D.int)] []).sat (fun r _=>r= .val (.bl true)) (fun _ _=>False)):
  codeAny (model P w) callerA (.call (.ref fa) ⟨[.ref a],[]⟩) (fun r s'=>r= .ok (.ret (.bool true))∧OldK s₁.heap s'.heap∧s'.os=s₁.os∧AllBare s'.gens) s₁:=by
 have rv:=vals_ints hi
 let L:List Addr:=cs.map (·.2)
 let o:Obj:={ cls:=.type "list",data:=.seq vs.toArray}
 let H:Hp:=H0 a o L ns
 have tabAt:∀b∈L,s₁.heap.get? b=some { cls:=.none,data:=.fields #[]}:=fun b hb=>by
  obtain⟨p,hp,rfl⟩:=JU.mp hb
  exact hT p hp
 have aT:a∉L:=fun z=>by
  have q:=(tabAt a z).symm.trans ha
  cases congrArg Obj.data (Jq q)
 have Ha:H a=some (.frz o (.lst (ns.map V.int))):=if_pos rfl
 have HT:∀b∈L,H b=some (.tbl #[]):=fun b hb=>(if_neg fun z:b=a=>aT (z▸hb)).trans (if_pos hb)
 have HN:∀b,b≠a→b∉L→H b=none:=fun b h1 h2=>(if_neg h1).trans (if_neg h2)
 have known:∀b u,H b=some u→(b=a∧u= .frz o (.lst (ns.map V.int)))∨(b∈L∧u= .tbl #[]):=fun b u e=>by
  by_cases h1:b=a
  ·subst h1
   exact .inl ⟨rfl,Jq (e.symm.trans Ha)⟩
  ·by_cases h2:b∈L
   ·exact .inr ⟨h2,Jq (e.symm.trans (HT b h2))⟩
   ·rw[HN b h1 h2] at e
    cases e
 have other:∀ {b:Addr} {u:Obj},s₁.heap.get? b=some u→(∀us n,u.data≠ .seq us n)→u.data≠ .fields #[]→H b=none:=fun {b u} e h1 h2=>by
  by_cases e1:b=a
  ·rw[e1,ha] at e
   cases e
   exact(h1 _ _ rfl).elim
  ·by_cases e2:b∈L
   ·rw[tabAt b e2] at e
    cases e
    exact(h2 rfl).elim
   ·exact HN b e1 e2
 have dictN:∀ {b:Addr} {u:Obj} {es:Array DictEntry} {ep:Nat},s₁.heap.get? b=some u→u.data= .dict es ep→H b=none:=fun {b u es ep} e d=>
  other e (fun us n z=>by rw[d] at z;cases z) fun z=>by rw[d] at z;cases z
 have nsB:∀ {b:Addr} {m:Str→Option Value},s₁.heap.Ns b m→(hidT s₁.heap H).Ns b m:=fun {b m} ⟨u,es,ep,e,d,r⟩=>⟨u,es,ep,hidT_get e (dictN e d),d,r⟩
 have KB:K.In (hidT s₁.heap H):=fun b u e=>hidT_get (KX b u e) (by
  cases q:H b with
  |none=>rfl
  |some v=>
   rcases known b v q with⟨rfl,_⟩| ⟨hb2,_⟩
   ·rw[nl] at e;cases e
   ·obtain⟨p,hp,rfl⟩:=JU.mp hb2
    rw[nT p hp] at e;cases e)
 have hM:L2.Mod K mg (hidT s₁.heap H):=⟨KB,nsB hns,⟨mb,nsB hb,hbb⟩,let⟨mc,h1,h2⟩:=hlim;⟨mc,nsB h1,h2⟩⟩
 have TB:∀p∈cs,TabB (hidT s₁.heap H) mg p.1 p.2:=fun p hp=>by
  refine⟨?_,?_,fun z=>?_⟩
  ·obtain⟨u,us,file,tf,flags,tg,inF,text,tt,e1,r1,r2,r3,r⟩:=C p hp
   refine⟨u,us,file,tf,flags,tg,inF,text,tt,hidT_get e1 (other e1 (fun vs n z=>by rw[r2] at z;cases z) fun z=>?_),r1,r2,r3,r⟩
   rw[r2] at z
   cases z
   simp at r3
  ·obtain⟨bm,ob,b1,b2,b3,b4,b5,b6⟩:=hbm
   refine⟨bm,ob,b1,b2,fun q=>?_,fun q=>?_,hidT_get b3 (other b3 (fun vs n z=>by rw[b6] at z;cases z) fun z=>by rw[b6] at z;cases z),b4,b5,b6⟩
   ·obtain⟨u,es,ep,e,hd,_⟩:=hns
    rw[q,e] at b3
    cases b3
    rw[hd] at b6
    cases b6
   ·rw[q,hT p hp] at b3
    cases b3
    cases b6
  ·obtain⟨u,es,ep,e,hd,_⟩:=hns
   rw[z,hT p hp] at e
   cases e
   cases hd
 have hok:HOk P w H s₁.heap:=fun b u z=>by
  rcases known b u z with⟨rfl,rfl⟩| ⟨hb2,rfl⟩
  ·exact⟨ha,by rw[Jt];exact hl,vs,_,rv,ha⟩
  ·exact tabAt b hb2
 have e0:Env0 P w K mg (hidT s₁.heap H) callerA [] s₁ H:=⟨rfl,hM,fun b u e=>of_hidT e,Nat.le_of_eq (hidT_size _ _),trivial,fun b hb=>absurd (show b∈([]:List Addr) from hb) (by simp),hok,.of_eq hg⟩
 have hsp:jd Γ f 1 [.ref a] H (fun v _=>v= .bl true) fun _ _ _=>False:=by
  refine⟨rfl,[.scr (ns.map D.int)],[],⟨[],[]⟩,⟨rfl,List.nodup_nil,fun n b ob h _=>by simp at h,fun b hb=>absurd (show b∈([]:List Addr) from hb) (by simp),fun b hb=>absurd (show b∈([]:List Addr) from hb) (by simp)⟩,⟨fun p hp=>?_,fun p hp=>?_⟩,.cons (.scr (vs:=ns.map V.int) ⟨Ha,by simp,by simp⟩ ?_) .nil,R.sat_imp hsat (fun r S e=>?_) fun _ _ z=>z.elim⟩
  ·exact⟨#[],HT _ (hΓ.1 p hp),trivial,fun pos cv z=>by cases z⟩
  ·exact⟨#[],HT _ (hΓ.2 p hp),trivial,fun pos cv z=>by cases z⟩
  ·clear hsat
   induction ns with
   |nil=>exact .nil
   |cons i r ih=>exact .cons (.int i) (by
     have:∀l:List Int,Reps Γ H ⟨[],[]⟩ (l.map V.int) (l.map D.int):=fun l=>by
      induction l with
      |nil=>exact .nil
      |cons j t ih=>exact .cons (.int j) ih
     exact this r)
  ·subst e
   intro v H' μ' _ hv
   obtain⟨_,r⟩:=hv
   cases r
   rfl
 refine codeAny_mono ((F _ KB (nsB hns) TB).run callerA [] s₁ H ⟨[.ref a],[]⟩ [.ref a] [.ref a] _ _ hr e0 (hbind s₁ (.ref a)) (.cons rfl .nil) hsp) fun r s' h=>?_
 cases r with
 |error e=>
  obtain⟨_,_,_,_,_,_,_,_,_,_,_,_,z⟩:=h
  exact z.elim
 |ok fl=>
  cases fl with
  |next=>exact False.elim h
  |brk=>exact False.elim h
  |cont=>exact False.elim h
  |ret u=>
   obtain⟨v,H',os,bare,un,hok',r',q⟩:=h
   have q':v= .bl true:=q
   subst q'
   obtain rfl:u=Value.bool true:=r'
   have key:∀b u,b∉L→s₁.heap.get? b=some u→s'.heap.get? b=some u:=fun b u nb e=>by
    cases q:H b with
    |none=>exact un.keep b u e q (by intro z;exact absurd (show b∈([]:List Addr) from z) (by simp)) (by simp)
    |some v=>
     rcases known b v q with⟨rfl,rfl⟩| ⟨hb2,_⟩
     ·have z2:=un.frzs b o _ q
      obtain⟨e2,_⟩:=hok' b _ z2
      rw[ha] at e
      cases e
      exact e2
     ·exact absurd hb2 nb
   refine⟨rfl,⟨fun b u e=>?_,fun b u e=>?_⟩,os,bare⟩
   ·by_cases hb2:b∈L
    ·obtain⟨p,hp,rfl⟩:=JU.mp hb2
     obtain⟨more,z⟩:=un.tbls p.2 #[] (HT p.2 hb2)
     have hm:=hok' p.2 _ z
     rw[hT p hp] at e
     cases e
     exact .inr (.inl ⟨((C p hp).tab (hT p hp)).isCodeTable,rfl, #[],_,rfl,by rw[Array.empty_append];exact hm⟩)
    ·exact .inl (key b u hb2 e)
   ·by_cases hb2:b∈L
    ·obtain⟨more,z⟩:=un.tbls b #[] (HT b hb2)
     exact⟨_,hok' b _ z⟩
    ·exact⟨u,key b u hb2 e⟩
end
structure LawG(l:PySem.W.OpenLaw)(w:World)(K:PySem.W.Frag)(Γ:Gm)(f:List D→a0→R RV)(k:Nat)(x:Str)(mg:Str→Option Value)(fa:Addr)(h:Heap):Prop where
 ex:∃ (fd:FuncData) (cs:List (Addr×Addr)),(∀p∈cs,h.get? p.2=some { cls:=.none,data:=.fields #[]})∧(∀p∈cs,K.lookup p.2=none)∧(∀p∈cs,PySem.W.CodeHd h p.1 p.2)∧(∀ (s:Shared) (u:Value),BindsTo s fd ⟨[u],[]⟩ [(x,u)])∧((∀p∈Γ.T,p.1∈cs.map (·.2))∧∀p∈Γ.U,p.1∈cs.map (·.2))∧
  ∀base:Heap,K.In base→base.Ns mainGlobals mg→(∀p∈cs,TabB base mg p.1 p.2)→FnG l.prog w K mg base (L2.CX l.prog w) k fa fd [x] (jd Γ f 1)
 nl:∀ (b:Addr) (o:Obj),K.lookup b=some o→o.cls≠ .type "list"
theorem BW{l:PySem.W.OpenLaw}{n k:Nat}{q:Program}{loose:List Str}{XP:(Str→Option Value)→Heap→Prop}{YP:World→Heap→Prop}{d:DefRec}{x:Str}{Γ:World→PySem.W.Frag→Gm}{f:List D→a0→R RV}
  (hn:l.most=some n) (hn2:n≤sizeLine) (hdf:d.params.defaults=[]) (hr:RoomG k callerA)
  (F:∀ (w:World) (mg:Str→Option Value) (fa:Addr) (h:Heap),YP w h→h.Ns mainGlobals mg→mg d.name=some (.ref fa)→∃K:PySem.W.Frag,K.In h∧LawG l w K (Γ w K) f k x mg fa h)
  (hf:∀ns:List Int,ns.length≤n→(∀z∈ns,Builtin.Int.intBits z≤1048576)→(f [.scr (ns.map D.int)] []).sat (fun r _=>r= .val (.bl true)) (fun _ _=>False)):
  PySem.W.WalkO q loose XP YP l.row.toRowW d [] (fun f vs=>PySem.call f vs):=by
 refine Att.attach_callB hn hdf fun w s₀ s₁ mg mb fa o pm cd doc a vs ns G Y ho hd hcd hmg hobj hints hlen hbits hg=>?_
 obtain⟨K,KX,⟨fd,cs,hT,nT,C,hb,hG,hF⟩,nl⟩:=F w mg fa _ Y G.T.g hmg
 refine uf KX G.T.g G.T.b G.T.builtins G.T.nolimit hg hT nT C G.T.bmain hobj hints (Jx hlen hn2) hr ?_ hF hb hG (hf ns hlen hbits)
 cases e:K.lookup a with
 |none=>rfl
 |some u=>
  have:=(KX a u e).symm.trans hobj
  cases this
  exact(nl a _ e rfl).elim
end Ev
namespace Ev
open PySem L2
mutual
theorem iJ(g:Nat→Option D):∀d:D,free d=true→bP g d=some d
 | .non,_=>rfl
 | .bl _,_=>rfl
 | .int _,_=>rfl
 | .str _,_=>rfl
 | .tup xs,h=>by unfold bP;rw[bu g xs h];rfl
 | .lst xs,h=>by unfold bP;rw[bu g xs h];rfl
 | .scr xs,h=>by unfold bP;rw[bu g xs h];rfl
 | .dct ks vs,h=>by unfold bP;rw[bu g vs h];rfl
 | .dcn ks vs,h=>by
  obtain⟨h1,h2⟩:=Jn.mp (show(frees ks&&frees vs)=true from h)
  unfold bP;rw[if_pos h1,bu g vs h2];rfl
 | .ins c fs,h=>by unfold bP;rw[bu g fs h];rfl
 | .exc c d,h=>by unfold bP;rw[iJ g d h];rfl
 | .glb _,_=>rfl
 | .clo _ _,_=>rfl
 | .ref _,h=>by cases h
theorem bu(g:Nat→Option D):∀ds:List D,frees ds=true→bj g ds=some ds
 | [],_=>rfl
 |d::ds,h=>by
  obtain⟨h1,h2⟩:=Jn.mp (show(free d&&frees ds)=true from h)
  unfold bj
  rw[iJ g d h1,bu g ds h2]
end
theorem iH{S:a0}{lo:Nat}{d:D}(h:free d=true):fV S lo (.val d)=some (.val d):=by
 cases d with
 |ref n=>cases h
 |_=>
  unfold fV
  simp only[iJ _ _ h,Option.map_some]
theorem ye{S:a0}{lo:Nat}{xs:List D}(h:frees xs=true):fV S lo (.new (.lst xs))=some (.new (.lst xs)):=by
 show((bj _ xs).map Ob.lst).map RV.new=_
 rw[bu _ _ h];rfl
theorem wA{S:a0}{lo:Nat}{ks xs:List D}(h:frees xs=true):fV S lo (.new (.dct ks xs))=some (.new (.dct ks xs)):=by
 show((bj _ xs).map (Ob.dct ks)).map RV.new=_
 rw[bu _ _ h];rfl
theorem wg{S:a0}{lo n:Nat}{xs:List D}(h:frees xs=true)(hl:lo≤n)(hs:S[n]? =some (.lst xs)):fV S lo (.val (.ref n))=some (.new (.lst xs)):=by
 show(if n<lo then none else match S[n]? with|some ob=>(jF (iS S lo n e8) ob).map RV.new|none=>none)=_
 rw[if_neg (by omega),hs]
 show((bj _ xs).map Ob.lst).map RV.new=_
 rw[bu _ _ h];rfl
theorem eT:∀ {ds:List D},frees ds=true→bb ds=[]
 | [],_=>rfl
 |d::ds,h=>by
  obtain⟨h1,h2⟩:=Jn.mp (show(free d&&frees ds)=true from h)
  have ih:=eT h2
  cases d with
  |ref n=>cases h1
  |_=>exact ih
theorem qw{fs:List Nat}{d:D}(h:free d=true):lg fs d=some d:=by
 cases d with
 |ref n=>cases h
 |_=>
  unfold lg
  simp only[h,if_true]
theorem fj{fs:List Nat}:∀ {ds:List D},frees ds=true→eQ fs ds=some ds
 | [],_=>rfl
 |d::ds,h=>by
  obtain⟨h1,h2⟩:=Jn.mp (show(free d&&frees ds)=true from h)
  unfold eQ
  rw[qw h1,fj h2]
def jG(lo:Nat)(back:a0→Option a0):RS→R RV
 | .nx _ S'=>match back S' with|some S2=>.ok (.val .non) S2|none=>.bad
 | .ret r S'=>match fV S' lo r,back S' with|some z,some S2=>.ok z S2|_,_=>.bad
 | .ex x _ S'=>match bP (iS S' lo S'.length e8) x,back S' with|some y,some S2=>.ex y S2|_,_=>.bad
 |_=>.bad
theorem j4{np nn:Nat}{body:MS}{args:List D}{S:a0}(hf:frees args=true)(hn:args.length=np):jh np nn body args S=jG 0 (fun _=>some S) (body (args.map some++List.replicate (nn-np) none) []):=by
 unfold jh
 simp only[eT hf,fj hf,pick,if_pos hn,putBack,List.length_nil]
 rfl
theorem gJ{np nn n:Nat}{body:MS}{args:List D}{S:a0}{o:Ob}(hf:frees args=true)(hn:args.length+1=np)(hs:S[n]? =some o)(ho:o.free=true):
  jh np nn body (.ref n::args) S=jG 1 (fun S'=>match S'[0]? with|some ob=>if ob.free then some (S.set n ob) else none|none=>none) (body ((D.ref 0::args).map some++List.replicate (nn-np) none) [o]):=by
 have e1:bb (.ref n::args)=[n]:=by
  simp only[bb,eT hf]
  rfl
 have e2:eQ [n] (.ref n::args)=some (.ref 0::args):=by
  unfold eQ
  rw[fj hf]
  have:lg [n] (.ref n)=some (.ref 0):=by
   unfold lg
   simp[List.idxOf?,List.findIdx?_cons]
  rw[this]
 have e3:pick S [n]=some [o]:=by
  simp only[pick,hs,ho,if_true]
 have e4:∀S':a0,putBack S S' [n] 0=match S'[0]? with|some ob=>if ob.free then some (S.set n ob) else none|none=>none:=fun S'=>by
  simp only[putBack]
  cases S'[0]? with
  |none=>rfl
  |some ob=>cases ob.free<;>rfl
 unfold jh
 simp only[e1,e2,e3,e4,JK,hn,if_true,List.length_nil]
 rfl
theorem zf{S:a0}{x y:Str}(hx:PyData.strOk x=true)(hy:PyData.strOk y=true):eqB S (.str x) (.str y)=some (x==y):=by
 have sx:SeqAt.shaped (.str x)=true:=Jn.mpr ⟨hx,rfl⟩
 have sy:SeqAt.shaped (.str y)=true:=Jn.mpr ⟨hy,rfl⟩
 unfold eqB
 simp only[ib,cO,sx,sy,Bool.and_self,if_true,PyData.eqv]
theorem jo{S:a0}{x:Str}(hx:PyData.strOk x=true):dq S (.str x) (.str x)=some (.val (.bl false)):=by
 unfold dq
 rw[zf hx hx,beq_self_eq_true]
 rfl
def kL:Str:="left"
def kS:Str:="seed"
def kC:Str:="cells"
def kP:Str:="spot"
def xF:List D:=[.str kL,.str kS,.str kC,.str kP]
def mO(l s:Int)(cs:List D)(p:Int):Ob:=.dct xF [.int l,.int s,.lst cs,.int p]
theorem vm{l s p:Int}{cs:List D}:eN (.inr kL) xF [.int l,.int s,.lst cs,.int p]=some (.int l):=rfl
theorem CI{l s p:Int}{cs:List D}:eN (.inr kS) xF [.int l,.int s,.lst cs,.int p]=some (.int s):=rfl
theorem DC{l s p:Int}{cs:List D}:eN (.inr kC) xF [.int l,.int s,.lst cs,.int p]=some (.lst cs):=rfl
theorem Ct{l s p:Int}{cs:List D}:eN (.inr kP) xF [.int l,.int s,.lst cs,.int p]=some (.int p):=rfl
theorem GX{l s p i:Int}{cs:List D}:kI (.inr kL) (.int i) xF [.int l,.int s,.lst cs,.int p]=(xF,[.int i,.int s,.lst cs,.int p]):=rfl
theorem Gg{l s p i:Int}{cs:List D}:kI (.inr kP) (.int i) xF [.int l,.int s,.lst cs,.int p]=(xF,[.int l,.int s,.lst cs,.int i]):=rfl
def km:MS:=aA (dF (ao (av AY (av aN (ae 0) (ah (.str kL))) (ah (.int 0)))) (aA (aM false 2 (av dU (aJ intD (af [av aN (ae 0) (ah (.str kL))])) (ae 1))) (aA (dQ (ae 0) (ah (.str kL)) (av iy (av aN (ae 0) (ah (.str kL))) (ae 1))) (retS (ae 2)))) (bq)) (aA (aM false 3 (av aN (ae 0) (ah (.str kP)))) (aA (dQ (ae 0) (ah (.str kP)) (av aP (ae 3) (ah (.int 1)))) (aA (gU 4 5 (bH [(false,av aN (ae 0) (ah (.str kC))),(false,av aP (av aN (ae 0) (ah (.str kS))) (av bQ (av bQ (ah (.int 40503)) (ae 3)) (ae 3)))])) (aA (aM false 6 (av aN (ae 4) (av dU (aJ intD (af [ae 3])) (aJ cN (af [ae 4]))))) (aA (aM false 7 (av dU (aJ intD (af [av aP (av bQ (ae 6) (av aP (av bQ (ah (.int 2)) (ae 3)) (ah (.int 3)))) (ae 5)])) (ah (.int 2147483647)))) (aA (aM false 7 (av dU (aJ intD (af [av aP (av aP (av bQ (ae 7) (ae 7)) (av bQ (ah (.int 69621)) (ae 3))) (av aN (ae 0) (ah (.str kS)))])) (ah (.int 2147483629)))) (retS (av dU (av iy (av dU (aJ intD (af [av aP (av bQ (ae 7) (ah (.int 48271))) (ae 3)])) (ah (.int 2147483647))) (ah (.int 11))) (ae 1)))))))))
def iY(B:Nat)(o:Ob):Prop:=∃ (l s p:Int) (ns:List Int),o=mO l s (ns.map D.int) p∧0≤p∧p≤B∧ns≠[]
theorem iY.free{B:Nat}{o:Ob}(h:iY B o):o.free=true:=by
 obtain⟨l,s,p,ns,rfl,_⟩:=h
 have:∀l:List Int,frees (l.map D.int)=true:=fun l=>by
  induction l with
  |nil=>rfl
  |cons a r ih=>exact Jn.mpr ⟨rfl,ih⟩
 show(Ev.free (D.int l)&&(Ev.free (D.int s)&&(Ev.free (D.lst (ns.map D.int))&&(Ev.free (D.int p)&&true))))=true
 simp[Ev.free,this]
theorem iY.mono{B C:Nat}{o:Ob}(h:iY B o)(hc:B≤C):iY C o:=by
 obtain⟨l,s,p,ns,e,h1,h2,h3⟩:=h
 exact⟨l,s,p,ns,e,h1,by omega,h3⟩
theorem vM{α:Type}{xs:List α}{i:Int}(h0:0≤i)(h1:i<xs.length):∃x,x∈xs∧xs[i.toNat]? =some x∧atI xs i=some x:=by
 have hl:i.toNat<xs.length:=by omega
 refine⟨xs[i.toNat],List.getElem_mem hl,Jo hl,?_⟩
 unfold atI
 have:ixN xs.length i=some i.toNat:=by
  unfold ixN
  simp only[h0,h1,and_self,if_true]
 rw[this]
 exact Jo hl
theorem vt{α:Type}{x:α}{xs:List α}:atI (x::xs) 0=some x:=by
 have:ixN (x::xs).length 0=some 0:=by
  unfold ixN
  rw[if_pos (by decide),if_pos (by rw[JK];omega)]
  rfl
 unfold atI
 rw[this];rfl
theorem dD{a b:Int}(h:0<b):0≤a.fmod b∧a.fmod b<b:=by
 rw[Int.fmod_eq_emod_of_nonneg a (by omega)]
 exact⟨Int.emod_nonneg a (by omega),Int.emod_lt_of_pos a h⟩
theorem IS:(xF.length<16777216)=True:=by simp[xF]
theorem vE{n:Int}{B:Nat}{o:Ob}(hn:0<n)(hn2:n<1000000)(hB:B<1099511627776)(h:iY B o):
  ∃v o',0≤v∧v<n∧iY (B+1) o'∧km [some (.ref 0),some (.int n),none,none,none,none,none,none] [o]= .ret (.val (.int v)) [o']:=by
 obtain⟨l,s,p,ns,rfl,h1,h2,h3⟩:=h
 have e1:¬n=0:=by omega
 have e2:n≠0∧n.natAbs<1073741824:=by omega
 by_cases hl:0<l
 ·refine⟨l.fmod n,mO (l.fdiv n) s (ns.map D.int) p,(dD hn).1,(dD hn).2,⟨_,_,_,ns,rfl,h1,by omega,h3⟩,?_⟩
  simp only[km,aA,dF,ao,av,R.then,R.bind,ae,ah,JT,JS,RV.d,aN,fX,mO,vm,Option.map_some,AY,n8,Ju hl,if_true,aM,aJ,af,Ev.intD,dU,if_neg e1,cq,List.set_cons_zero,List.set_cons_succ,dQ,iy,if_pos e2,retS,jH,GX,keyOf,IS]
 ·have hl':decide (0<l)=false:=Jr hl
  have hne:((ns.map D.int).length:Int)≠0:=by
   intro z
   exact h3 (by simpa using z)
  have hnz:¬ ((ns.map D.int).length:Int)=0:=hne
  have hpos:0< ((ns.map D.int).length:Int):=by omega
  obtain⟨c,hc,_,hat⟩:=vM (xs:=ns.map D.int) (i:=p.fmod (ns.map D.int).length) (dD hpos).1 (dD hpos).2
  obtain⟨ci,_,rfl⟩:=JU.mp hc
  have s1:bU p=true:=by unfold bU;simp only[Jy,JB];omega
  have s2:bU (2*p+3)=true:=by unfold bU;simp only[Jy,JB];omega
  have s3:∀z:Int,bU (z.fmod 2147483647)=true:=fun z=>by
   have:=dD (a:=z) (b:=2147483647) (by decide)
   unfold bU;simp only[Jy,JB];omega
  have s4:∀z:Int,bU (z.fmod 2147483629)=true:=fun z=>by
   have:=dD (a:=z) (b:=2147483629) (by decide)
   unfold bU;simp only[Jy,JB];omega
  have key:∃x:Int,km [some (.ref 0),some (.int n),none,none,none,none,none,none] [mO l s (ns.map D.int) p]= .ret (.val (.int (x.fmod n))) [mO l s (ns.map D.int) (p+1)]:=by
   simp only[km,aA,dF,ao,av,R.then,R.bind,ae,ah,JT,JS,RV.d,aN,fX,mO,vm,Ct,DC,CI,Option.map_some,AY,n8,hl',if_true,aM,aJ,af,bH,Ev.intD,dU,if_neg e1,cq,List.set_cons_zero,List.set_cons_succ,dQ,iy,if_pos e2,retS,jH,Gg,keyOf,IS,bq,aP,bQ,gU,cN,fz,if_neg hnz,hat,Bool.or_true,Bool.true_or,s1,s2,s3,s4,Bool.false_eq_true,if_false,if_neg (show ¬ (2147483647:Int)=0 by decide),if_neg (show ¬ (2147483629:Int)=0 by decide),if_pos (show(11:Int)≠0∧Int.natAbs 11<1073741824 by decide)]
   exact⟨_,rfl⟩
  obtain⟨x,hx⟩:=key
  exact⟨_,mO l s (ns.map D.int) (p+1),(dD hn).1,(dD hn).2,⟨_,_,_,ns,rfl,by omega,by omega,h3⟩,hx⟩
theorem kU{P:Nat→Option Dfn}{fuel k i r:Nat}{S:a0}{o:Ob}{n:Int}{B:Nat}{b:Cfg→MS}(hP:P i=some ⟨2,8,b⟩)(hb:∀g,b g=km)(hs:S[r]? =some o)(ho:iY B o)(hn:0<n)(hn2:n<1000000)(hB:B<1099511627776):
  ∃v o',0≤v∧v<n∧iY (B+1) o'∧ak P fuel (k+1) i [.ref r,.int n] S= .ok (.val (.int v)) (S.set r o'):=by
 obtain⟨v,o',h1,h2,h3,h4⟩:=vE hn hn2 hB ho
 refine⟨v,o',h1,h2,h3,?_⟩
 show(match P i with|some d=>runC d.np d.nn (d.body ⟨ak P fuel k,fuel⟩) [.ref r,.int n] S|none=>.bad)=_
 rw[hP]
 show jh 2 8 (b ⟨ak P fuel k,fuel⟩) [.ref r,.int n] S=_
 rw[hb,gJ (np:=2) (args:=[.int n]) rfl rfl hs ho.free]
 show jG 1 _ (km [some (.ref 0),some (.int n),none,none,none,none,none,none] [o])=_
 rw[h4]
 show(match fV [o'] 1 (.val (.int v)),(if o'.free=true then some (S.set r o') else none) with|some z,some S2=>R.ok z S2|_,_=>.bad)=_
 rw[if_pos h3.free]
 rfl
def mV(fuel:Nat):MS:=aA (aM false 2 (av aP (jE (ae 0) (some (ae 1)) none) (jE (ae 0) none (some (ae 1))))) (aA (aM false 3 (jY fuel [4] (.nm 4) (aI (ae 2)) (ao (av DJ (ae 4) (av ou (ah (.int 10)) (ah (.int 18))))) (ae 4))) (aA (aM false 5 (av aP (ah (.int 97)) (ae 1))) (aA (bV fuel (.nm 4) (aI (ae 2)) (aM false 5 (av dU (aJ intD (af [av aP (av bQ (ae 5) (ah (.int 48271))) (ae 4)])) (ah (.int 2147483647))))) (retS (qE [(ah (.str kL),tS (ao (av dq (ae 3) (bo (af [])))) (av aN (ae 3) (ah (.int 0))) (ah (.int 0))),(ah (.str kS),ae 5),(ah (.str kC),av aP (ae 2) (bo (af [av aP (av bQ (ah (.int 31)) (ae 1)) (ah (.int 5))]))),(ah (.str kP),ah (.int 0))])))))
theorem lH(c:MT)(f:ME)(t:Int→Bool){env:aq}{S:a0}(hc:∀ (i:Int),c (env.set 4 (some (.int i))) S= .ok (t i) S)(hf:∀ (i:Int),f (env.set 4 (some (.int i))) S= .ok (.val (.int i)) S):
  ∀ns:List Int,yP (.nm 4) c f (ns.map D.int) env S= .ok ((ns.filter t).map D.int) S
 | []=>rfl
 |i::ns=>by
  have ih:=lH c f t hc hf ns
  simp only[JG,yP,aV,hc,hf,R.bind,ih,List.filter_cons,RV.d]
  cases t i<;>rfl
theorem lV:∀ns:List Int,cJ (ns.map D.int)=some (ns.map PyData.int)
 | []=>rfl
 |i::ns=>by
  simp only[JG,cJ,cO,lV ns]
theorem shaped_ints(ns:List Int):SeqAt.shaped (.list (ns.map PyData.int))=true:=by
 have h1:∀ns:List Int,PyData.canLayAll0 (ns.map PyData.int)=true:=fun ns=>by
  induction ns with
  |nil=>rfl
  |cons i r ih=>exact Jn.mpr ⟨rfl,ih⟩
 have h2:∀ns:List Int,PyData.depthAll (ns.map PyData.int)=0:=fun ns=>by
  induction ns with
  |nil=>rfl
  |cons i r ih=>
   simp only[JG,PyData.depthAll,ih,PyData.depth]
   rfl
 refine Jn.mpr ⟨h1 ns,Ju ?_⟩
 show PyData.depthAll _+1≤64
 rw[h2];decide
theorem oj(ns:List Int)(lo hi:Option Int):∃ms:List Int,cutD (ns.map D.int) lo hi=ms.map D.int∧ms.length≤ns.length:=by
 unfold cutD
 rw[← List.map_drop, ← List.map_take]
 exact⟨_,rfl,by rw[List.length_take,List.length_drop];omega⟩
theorem nU{fuel:Nat}:∀ (ns:List Int) (env:aq) (S:a0) (z:Int),env.length=6→env[5]? =some (some (.int z))→bU z=true→∃ (e2:aq) (z2:Int),
  forL (.nm 4) (aM false 5 (av dU (aJ intD (af [av aP (av bQ (ae 5) (ah (.int 48271))) (ae 4)])) (ah (.int 2147483647)))) (ns.map D.int) env S= .nx e2 S∧e2.length=6∧e2[5]? =some (some (.int z2))∧(∀j,j<4→e2[j]? =env[j]?)
 | [],env,S,z,h1,h2,_=>⟨env,z,rfl,h1,h2,fun _ _=>rfl⟩
 |i::ns,env,S,z,h1,h2,h3=>by
  have h4:(env.set 4 (some (.int i)))[5]? =some (some (.int z)):=by
   rw[JE (by decide)];exact h2
  have h5:(env.set 4 (some (.int i)))[4]? =some (some (.int i)):=by
   rw[JH (by omega)]
  have hz:=dD (a:=z*48271+i) (b:=2147483647) (by decide)
  obtain⟨e2,z2,k1,k2,k3,k4⟩:=nU (fuel:=fuel) ns ((env.set 4 (some (.int i))).set 5 (some (.int ((z*48271+i).fmod 2147483647)))) S _ (by simp[h1]) (by rw[JH (by simp[h1])]) (by unfold bU;simp only[Jy,JB];omega)
  refine⟨e2,z2,?_,k2,k3,fun j hj=>?_⟩
  ·simp only[JG,forL,aV,aM,av,aJ,af,ae,h4,h5,ah,R.bind,R.then,RV.d,bQ,aP,h3,Bool.true_or,if_true,Ev.intD,dU,if_neg (show ¬ (2147483647:Int)=0 by decide),cq]
   exact k1
  ·rw[k4 j hj,JE (by omega),JE (by omega)]
theorem uD{fuel:Nat}{ns:List Int}{k:Int}(hl:ns.length≤1000)(hk:0≤k)(hk2:k≤1000):∃o,iY 0 o∧mV fuel [some (.scr (ns.map D.int)),some (.int k),none,none,none,none] []= .ret (.new o) []:=by
 obtain⟨c1,e1,l1⟩:=oj ns (some k) none
 obtain⟨c2,e2,l2⟩:=oj ns none (some k)
 have hlen:(c1.map D.int).length+(c2.map D.int).length≤16777216:=by simp only[Jt];omega
 let cs:List Int:=c1++c2
 have ecs:c1.map D.int++c2.map D.int=cs.map D.int:=(List.map_append ..).symm
 let E1:aq:=[some (.scr (ns.map D.int)),some (.int k),some (.lst (cs.map D.int)),none,none,none]
 let gs:List Int:=cs.filter fun i=>decide ((10:Int)^18≤i)
 let E2:aq:=[some (.scr (ns.map D.int)),some (.int k),some (.lst (cs.map D.int)),some (.lst (gs.map D.int)),none,none]
 have f1:(aM false 2 (av aP (jE (ae 0) (some (ae 1)) none) (jE (ae 0) none (some (ae 1))))) [some (.scr (ns.map D.int)),some (.int k),none,none,none,none] []= .nx E1 []:=by
  simp only[aM,av,jE,gX,ae,JT,JS,R.bind,R.then,RV.d,wx,e1,e2,Ob.toD,aP,dR,if_pos hlen,cq,List.set_cons_zero,List.set_cons_succ,ecs]
  rfl
 have hg:gs.length≤cs.length:=List.length_filter_le _ _
 have hcs:cs.length≤2000:=by show(c1++c2).length≤2000;rw[JF];omega
 have f2:(aM false 3 (jY fuel [4] (.nm 4) (aI (ae 2)) (ao (av DJ (ae 4) (av ou (ah (.int 10)) (ah (.int 18))))) (ae 4))) E1 []= .nx E2 []:=by
  have hf:=lH (ao (av DJ (ae 4) (av ou (ah (.int 10)) (ah (.int 18))))) (ae 4) (fun i=>decide ((10:Int)^18≤i)) (env:=[some (.scr (ns.map D.int)),some (.int k),some (.lst (cs.map D.int)),none,none,none]) (S:=[]) (fun i=>by
   simp only[ao,av,ae,ah,List.set_cons_zero,List.set_cons_succ,JT,JS,R.bind,RV.d,ou,DJ,n8,if_pos (show(0:Int)≤18∧(18:Int)≤1000000∧Int.natAbs 10<18446744073709551616 by decide)]
   rfl) (fun i=>by simp only[ae,List.set_cons_zero,List.set_cons_succ,JT,JS]) cs
  simp only[aM,jY,aI,ae,E1,JT,JS,R.bind,R.then,RV.d,jb,rW,aF,List.set_cons_zero,List.set_cons_succ,hf,fW,if_pos (show(gs.map D.int).length≤16777216 by rw[Jt];omega),cq,Ob.toD,E2,gs]
 let E3:aq:=[some (.scr (ns.map D.int)),some (.int k),some (.lst (cs.map D.int)),some (.lst (gs.map D.int)),none,some (.int (97+k))]
 have f3:(aM false 5 (av aP (ah (.int 97)) (ae 1))) E2 []= .nx E3 []:=by
  simp only[aM,av,ah,ae,E2,E3,JT,JS,R.bind,R.then,RV.d,aP,cq,List.set_cons_zero,List.set_cons_succ]
 obtain⟨E4,z,f4,n4,g5,g4⟩:=nU (fuel:=fuel) cs E3 [] (97+k) rfl rfl (by unfold bU;simp only[Jy,JB];omega)
 have f4':(bV fuel (.nm 4) (aI (ae 2)) (aM false 5 (av dU (aJ intD (af [av aP (av bQ (ae 5) (ah (.int 48271))) (ae 4)])) (ah (.int 2147483647))))) E3 []= .nx E4 []:=by
  simp only[bV,aI,ae,E3,JT,JS,R.bind,R.then,RV.d,jb,Bw]
  exact f4
 have g1:E4[1]? =some (some (.int k)):=g4 1 (by decide)
 have g2:E4[2]? =some (some (.lst (cs.map D.int))):=g4 2 (by decide)
 have g3:E4[3]? =some (some (.lst (gs.map D.int))):=g4 3 (by decide)
 have hne:dq [] (.lst (gs.map D.int)) (.lst [])=some (.val (.bl (!gs.isEmpty))):=by
  unfold dq eqB
  simp only[ib,cO,lV,cJ,Option.map_some,shaped_ints,show SeqAt.shaped (.list [])=true from rfl,Bool.and_self,if_true]
  cases gs<;>rfl
 have hleft:∃l:Int,(tS (ao (av dq (ae 3) (bo (af [])))) (av aN (ae 3) (ah (.int 0))) (ah (.int 0))) E4 []= .ok (.val (.int l)) []:=by
  simp only[tS,ao,av,ae,g3,bo,zL,af,R.bind,List.length_nil,Nat.zero_le,if_true,RV.d,Ob.toD,hne,ah,aN,fz]
  cases gs with
  |nil=>exact⟨0,rfl⟩
  |cons a r=>exact⟨a,by rw[JG,vt];rfl⟩
 obtain⟨l,hl2⟩:=hleft
 refine⟨mO l z ((cs++[31*k+5]).map D.int) 0,⟨l,z,0,_,rfl,by decide,by decide,by simp⟩,?_⟩
 have hsm:bU 31=true:=rfl
 have hcell:(av aP (ae 2) (bo (af [av aP (av bQ (ah (.int 31)) (ae 1)) (ah (.int 5))]))) E4 []= .ok (.new (.lst ((cs++[31*k+5]).map D.int))) []:=by
  simp only[av,ae,g2,g1,bo,zL,af,ah,R.bind,RV.d,bQ,aP,hsm,Bool.true_or,if_true,Ob.toD,dR,JK,List.length_nil,if_pos (show 0+1≤16777216 by decide),if_pos (show(cs.map D.int).length+(0+1)≤16777216 by rw[Jt];omega),List.map_append,JG,List.map_nil]
 simp only[mV,aA,f1,f2,f3,f4']
 have hp:iG [(ah (.str kL),tS (ao (av dq (ae 3) (bo (af [])))) (av aN (ae 3) (ah (.int 0))) (ah (.int 0))),(ah (.str kS),ae 5),(ah (.str kC),av aP (ae 2) (bo (af [av aP (av bQ (ah (.int 31)) (ae 1)) (ah (.int 5))]))),(ah (.str kP),ah (.int 0))] E4 []=
   .ok [(.str kL,.int l),(.str kS,.int z),(.str kC,.lst ((cs++[31*k+5]).map D.int)),(.str kP,.int 0)] []:=by
  generalize he1:(tS (ao (av dq (ae 3) (bo (af [])))) (av aN (ae 3) (ah (.int 0))) (ah (.int 0)))=t1 at hl2 ⊢
  generalize he2:(av aP (ae 2) (bo (af [av aP (av bQ (ah (.int 31)) (ae 1)) (ah (.int 5))])))=t2 at hcell ⊢
  simp only[iG,ah,ae,g5,R.bind,RV.d,Ob.toD,hl2,hcell]
 simp only[retS,qE,hp,fW,R.bind,R.then]
 rfl
theorem uQ{xs:List D}{x:D}(h:frees xs=true)(hx:x∈xs):free x=true:=by
 induction xs with
 |nil=>cases hx
 |cons a r ih=>
  obtain⟨h1,h2⟩:=Jn.mp (show(free a&&frees r)=true from h)
  rcases Jj.mp hx with rfl|hx
  ·exact h1
  ·exact ih h2 hx
theorem cR{P:Nat→Option Dfn}{fuel k i np nn:Nat}{b:Cfg→MS}{args:List D}{S:a0}(hP:P i=some ⟨np,nn,b⟩)(hw:nn<1000:=by decide):ak P fuel (k+1) i args S=jh np nn (b ⟨ak P fuel k,fuel⟩) args S:=by
 show(match P i with|some d=>runC d.np d.nn (d.body ⟨ak P fuel k,fuel⟩) args S|none=>.bad)=_
 rw[hP]
 exact sW hw
theorem qk{P:Nat→Option Dfn}{fuel k i:Nat}{S:a0}{ns:List Int}{t:Int}{b:Cfg→MS}(hP:P i=some ⟨2,6,b⟩)(hb:∀g,b g=mV fuel)(hl:ns.length≤1000)(hk:0≤t)(hk2:t≤1000):
  ∃o,iY 0 o∧ak P fuel (k+1) i [.scr (ns.map D.int),.int t] S= .ok (.new o) S:=by
 obtain⟨o,h1,h2⟩:=uD (fuel:=fuel) hl hk hk2
 refine⟨o,h1,?_⟩
 have hf:frees (ns.map D.int)=true:=by
  induction ns with
  |nil=>rfl
  |cons a r ih=>
   have:∀l:List Int,frees (l.map D.int)=true:=fun l=>by
    induction l with
    |nil=>rfl
    |cons a r ih=>exact Jn.mpr ⟨rfl,ih⟩
   exact this _
 rw[cR hP,hb,j4 (np:=2) (args:=[.scr (ns.map D.int),.int t]) (Jn.mpr ⟨hf,rfl⟩) rfl]
 show jG 0 _ (mV fuel [some (.scr (ns.map D.int)),some (.int t),none,none,none,none] [])=_
 rw[h2]
 have hfr:=h1.free
 obtain⟨l,s,p,ms,rfl,_⟩:=h1
 show(match fV [] 0 (.new (mO l s (ms.map D.int) p)),some S with|some z,some S2=>R.ok z S2|_,_=>.bad)=_
 unfold mO
 rw[wA hfr]
def Hs(j:Nat)(g:Cfg):MS:=retS (av aN (ae 1) (aC j g [] (af [ae 0,aJ cN (af [ae 1])])))
theorem of_call{P:Nat→Option Dfn}{fuel k i j r B:Nat}{S:a0}{o:Ob}{xs:List D}{b bd:Cfg→MS}(hP:P i=some ⟨2,2,b⟩)(hb:∀g,b g=Hs j g)(hD:P j=some ⟨2,8,bd⟩)(hbd:∀g,bd g=km)(hs:S[r]? =some o)(ho:iY B o)(hB:B<1099511627776)
  (hf:frees xs=true) (h0:xs≠[]) (hl:xs.length<1000000):∃x o',x∈xs∧iY (B+1) o'∧ak P fuel (k+2) i [.ref r,.lst xs] S= .ok (.val x) (S.set r o'):=by
 have hpos:0<xs.length:=by
  cases xs with
  |nil=>exact absurd rfl h0
  |cons a r=>simp
 obtain⟨v,o',h1,h2,h3,h4⟩:=kU (P:=P) (fuel:=fuel) (k:=k) (r:=0) (S:=[o]) (n:=(xs.length:Int)) hD hbd rfl ho (by omega) (by omega) hB
 obtain⟨x,hx,_,hat⟩:=vM (xs:=xs) h1 h2
 refine⟨x,o',hx,h3,?_⟩
 rw[cR hP,hb,gJ (np:=2) (args:=[.lst xs]) (Jn.mpr ⟨hf,rfl⟩) rfl hs ho.free]
 have e:Hs j ⟨ak P fuel (k+1),fuel⟩ [some (.ref 0),some (.lst xs)] [o]= .ret (.val x) [o']:=by
  simp only[Hs,retS,av,ae,JT,JS,aC,af,aJ,cN,fz,R.bind,R.then,RV.d,JC,h4,List.set_cons_zero,aN,hat,Option.map_some]
 show jG 1 _ (Hs j ⟨ak P fuel (k+1),fuel⟩ [some (.ref 0),some (.lst xs)] [o])=_
 rw[e]
 show(match fV [o'] 1 (.val x),(if o'.free=true then some (S.set r o') else none) with|some z,some S2=>R.ok z S2|_,_=>.bad)=_
 rw[if_pos h3.free,iH (uQ hf hx)]
def Sane(L:Nat)(s:Str):Prop:=s.length≤L∧PyData.strOk s=true
theorem Sane.mono{L M:Nat}{s:Str}(h:Sane L s)(hl:L≤M):Sane M s:=⟨Jx h.1 hl,h.2⟩
theorem len_app(x y:Str):(x++y).length=x.length+y.length:=by
 show(x.cps++y.cps).size=_
 rw[Array.size_append];rfl
theorem Sane.app{a b:Nat}{x y:Str}(h:Sane a x)(k:Sane b y):Sane (a+b) (x++y):=by
 refine⟨by rw[len_app];exact Nat.add_le_add h.1 k.1,?_⟩
 have h2:=h.2
 have k2:=k.2
 unfold PyData.strOk at*
 show(x.cps++y.cps).all _=true
 rw[Array.all_append,h2,k2];rfl
theorem lK{L:Nat}:∀ (ts:List Str) (k:Nat) (acc:Str) (a:Nat),(∀t∈ts,Sane L t)→Sane a acc→Sane (a+ts.length*(L+2)) (textFrom k acc ts)
 | [],k,acc,a,_,h=>h.mono (by simp)
 |t::r,k,acc,a,ht,h=>by
  have hs:Sane 2 (if k>0 then ", " else "":String):=by
   split
   ·exact⟨by decide+kernel,by decide+kernel⟩
   ·exact⟨by decide+kernel,by decide+kernel⟩
  have h1:=(h.app hs).app (ht t (Jf ..))
  have:=lK r (k+1) _ _ (fun u hu=>ht u (Je _ hu)) h1
  refine this.mono ?_
  rw[JK,Nat.succ_mul];omega
theorem v9{L:Nat}{ts:List Str}(h:∀t∈ts,Sane L t):Sane (ts.length*(L+2)+2) (listText ts):=by
 have h1:Sane 1 ("[":Str):=⟨by decide+kernel,by decide+kernel⟩
 have h2:Sane 1 ("]":Str):=⟨by decide+kernel,by decide+kernel⟩
 exact((lK ts 0 _ 1 h h1).app h2).mono (by omega)
theorem lM{L:Nat}:∀ {ts:List Str},(∀t∈ts,Sane L t)→Sane (ts.length*(L+2)) (Str.join ", " ts)
 | [],_=>⟨Nat.zero_le _,by decide+kernel⟩
 | [t],h=>(h t (Jf ..)).mono (by simp)
 |t::u::r,h=>by
  have h1:=h t (Jf ..)
  have h2:Sane 2 (", ":Str):=⟨by decide+kernel,by decide+kernel⟩
  have h3:=lM (ts:=u::r) fun z hz=>h z (Je _ hz)
  have:=(h1.app h2).app h3
  refine Sane.mono (this) ?_
  rw[JK (a:=t),Nat.succ_mul];omega
theorem qy{L:Nat}{ts:List Str}(h:∀t∈ts,Sane L t):Sane (ts.length*(L+2)+3) (tupleText ts):=by
 have h1:Sane 1 ("(":Str):=⟨by decide+kernel,by decide+kernel⟩
 have h2:Sane 2 (if ts.length==1 then ",)" else ")":String):=by
  split
  ·exact⟨by decide+kernel,by decide+kernel⟩
  ·exact⟨by decide+kernel,by decide+kernel⟩
 exact((h1.app (lM h)).app h2).mono (by omega)
def Ri(n L:Nat)(d:D):Prop:=free d=true∧∃p,(∀ (S:a0) (j:Nat),n≤j→ow S (j+1) d=some p)∧p.showable=true∧p.depth≤n∧Sane L p.shown
theorem Ri.mono{n L M:Nat}{d:D}(h:Ri n L d)(hl:L≤M):Ri n M d:=by
 obtain⟨h0,p,h1,h2,h3,h4⟩:=h
 exact⟨h0,p,h1,h2,h3,h4.mono hl⟩
theorem ris{n L:Nat}:∀ {xs:List D},(∀x∈xs,Ri n L x)→frees xs=true∧∃ps,(∀ (S:a0) (j:Nat),n≤j→iI (ow S (j+1)) xs=some ps)∧PyData.showableAll ps=true∧PyData.depthAll ps≤n∧(PyData.shownAll ps).length=xs.length∧∀t∈PyData.shownAll ps,Sane L t
 | [],_=>⟨rfl,[],fun _ _ _=>rfl,rfl,Nat.zero_le _,rfl,fun t ht=>by simp[PyData.shownAll] at ht⟩
 |x::xs,h=>by
  obtain⟨g0,ps,g1,g2,g3,g4,g5⟩:=ris (xs:=xs) fun y hy=>h y (Je _ hy)
  obtain⟨h0,p,h1,h2,h3,h4⟩:=h x (Jf ..)
  refine⟨Jn.mpr ⟨h0,g0⟩,p::ps,fun S j hj=>?_,Jn.mpr ⟨h2,g2⟩,Nat.max_le.mpr ⟨h3,g3⟩,by simp only[PyData.shownAll,JK,g4],fun t ht=>?_⟩
  ·unfold iI
   rw[h1 S j hj,g1 S j hj]
  ·simp only[PyData.shownAll,Jj] at ht
   rcases ht with rfl|ht
   ·exact h4
   ·exact g5 t ht
theorem Ri.lst{n L:Nat}{xs:List D}(h:∀x∈xs,Ri n L x):Ri (n+1) (xs.length*(L+2)+3) (.lst xs):=by
 obtain⟨g0,ps,g1,g2,g3,g4,g5⟩:=ris h
 refine⟨g0,.list ps,fun S j hj=>?_,g2,Nat.succ_le_succ g3,?_⟩
 ·obtain⟨j,rfl⟩:∃i,j=i+1:=⟨j-1,by omega⟩
  show(iI (ow S (j+1)) xs).map PyData.list=_
  rw[g1 S j (by omega)];rfl
 ·have:=v9 g5
  rw[g4] at this
  exact this.mono (by omega)
theorem Ri.tup{n L:Nat}{xs:List D}(h:∀x∈xs,Ri n L x):Ri (n+1) (xs.length*(L+2)+3) (.tup xs):=by
 obtain⟨g0,ps,g1,g2,g3,g4,g5⟩:=ris h
 refine⟨g0,.tuple ps,fun S j hj=>?_,g2,Nat.succ_le_succ g3,?_⟩
 ·obtain⟨j,rfl⟩:∃i,j=i+1:=⟨j-1,by omega⟩
  show(iI (ow S (j+1)) xs).map PyData.tuple=_
  rw[g1 S j (by omega)];rfl
 ·have:=qy g5
  rw[g4] at this
  exact this
theorem Ri.repr{n L:Nat}{d:D}(h:Ri n L d)(hn:n≤11)(hL:L≤16777216):∃s,PyData.strOk s=true∧∀S:a0,bh S [d]=some (.val (.str s)):=by
 obtain⟨h0,p,h1,h2,h3,h4⟩:=h
 refine⟨p.shown,h4.2,fun S=>?_⟩
 unfold bh
 have e:=h1 S 11 hn
 have q:(p.showable&&(decide (p.depth≤60)&&decide (p.shown.length≤16777216)))=true:=by
  rw[h2,Ju (show p.depth≤60 by omega),Ju (Jx h4.1 hL)];rfl
 show(match ow S 12 d with|some p=>if p.showable&&(decide (p.depth≤60)&&decide (p.shown.length≤16777216)) then some (RV.val (.str p.shown)) else none|none=>none)=_
 rw[e]
 simp only[q,if_true]
end Ev
namespace Ev
open PySem L2 PyProof.Rows LamX
section
variable {Γ:Gm}{X:Cx}{W:WX}{pos:Pos}{k m:Nat}
theorem yh(q:Cq Γ X W k){apos:Pos}{o e:Expr}{f g:ME}(ho:PE X o (ay Γ W f))(he:PE X e (ay Γ W g))(hs:notStar e=true:=by rfl)(hbase:attributeBase o "extend" X.env (eval o X.env)=eval o X.env:=by rfl)
  (hfew:((backTo pos (starEach [e] X.env)).all (fun x=> !x.1)&&(backToKw pos (keywordEach [] X.env)).all (fun x=>x.1.isSome)
   &&decide ([e].length+([]:List Keyword).length+(if([]:List Keyword).isEmpty then 0 else 1)<30))=true:=by rfl)
  (hline:(apos.endLine==pos.line)=true:=by rfl):PE X (.Call (.Attribute o "extend" apos) [e] [] pos) (ay Γ W (fg "list" eR f (af [g]))):=
 qm q.hK PySem.F.plainAttrs_list PySem.F.slot_list_extend PySem.F.type_list_extend mt_extend uj ho (fT hs he iR) hbase hfew hline (by rw[List.all_cons,hs];rfl)
end
end Ev
namespace Ev
open PySem L2 PyProof.Rows
def Ig(ns:List Int):D:=.tup (ns.map D.int)
section
variable {Γ:Gm}{μ:Mu}{H:Hp}
theorem lq:∀ {vs:List V} {ns:List Int},Reps Γ H μ vs (ns.map D.int)→vs=ns.map V.int
 |_,[],.nil=>rfl
 |_,i::r,.cons r1 t=>by
  cases r1
  rw[lq t,JG]
theorem sU{x:V}{ns:List Int}(r:Rep Γ H μ x (Ig ns)):TupI Γ.K H x ns:=by
 obtain⟨a,vs,e,h1,h2⟩:=Rep.tupA (show Rep Γ H μ x (.tup (ns.map D.int)) from r)
 rw[lq h2] at h1
 exact⟨a,e,h1⟩
end
end Ev
namespace Ev
open PySem PySem.Spec L2 PyProof.Rows LamX
section
variable {Γ:Gm}{X:Cx}{W:WX}{pos:Pos}{k m:Nat}
def Fu(f:ME)(m:MA):MA:=fun env S=>(f env S).bind fun x S1=>match fz S1 x.d with
 |some xs=>(m env S1).bind fun ys S2=>.ok (xs++ys) S2
 |none=>.bad
def Hh(f:ME)(m:MA):MA:=fun env S=>(f env S).bind fun x S1=>(m env S1).bind fun ys S2=>.ok (x.d::ys) S2
end
end Ev
namespace Ev
open PySem PySem.Spec L2 PyProof.Rows
def nM(a b:Str):Bool:= !ltCps b.cps.toList a.cps.toList
def rg(a:Str):List Str→List Str
 | []=>[a]
 |b::r=>if nM a b then a::b::r else b::rg a r
def oY:List Str→List Str
 | []=>[]
 |a::r=>rg a (oY r)
theorem js{a b:Str}:nM a b=true↔ ¬b.cps.toList<a.cps.toList:=by
 unfold nM;rw[ltCps_eq];simp
theorem ud(a b:Str):nM a b=true∨nM b a=true:=by
 rw[js,js]
 by_cases h:b.cps.toList<a.cps.toList
 ·exact .inr fun k=>List.lt_irrefl _ (List.lt_trans h k)
 ·exact .inl h
theorem kZ{a b c:Str}(h1:nM a b=true)(h2:nM b c=true):nM a c=true:=by
 rw[js] at*
 intro k
 exact h1 (List.lt_of_le_of_lt (List.not_lt.mp h2) k)
theorem xU{a b:Str}(h1:nM a b=true)(h2:nM b a=true):a=b:=by
 rw[js] at*
 have:=List.le_antisymm (List.not_lt.mp h1) (List.not_lt.mp h2)
 exact PySem.W.str_of_cps this
theorem iZ(a:Str):∀l,(rg a l).Perm (a::l)
 | []=>.refl _
 |b::r=>by
  unfold rg;split
  ·exact .refl _
  ·exact((iZ a r).cons b).trans (.swap a b r)
theorem iU:∀l,(oY l).Perm l
 | []=>.refl _
 |a::r=>(iZ a _).trans ((iU r).cons a)
theorem sk(a:Str):∀l,l.Pairwise (fun x y=>nM x y=true)→(rg a l).Pairwise fun x y=>nM x y=true
 | [],_=>by simp[rg]
 |b::r,h=>by
  obtain⟨h1,h2⟩:=List.pairwise_cons.mp h
  unfold rg;split
  ·rename_i hab
   exact .cons (fun c hc=>by
    rcases Jj.mp hc with rfl|hc
    ·exact hab
    ·exact kZ hab (h1 c hc)) h
  ·rename_i hab
   have hba:nM b a=true:=(ud a b).resolve_left hab
   exact .cons (fun c hc=>by
    rcases Jj.mp ((iZ a r).mem_iff.mp hc) with rfl|hc
    ·exact hba
    ·exact h1 c hc) (sk a r h2)
theorem sO:∀l,(oY l).Pairwise fun x y=>nM x y=true
 | []=>.nil
 |a::r=>sk a _ (sO r)
theorem kW:∀ (p:Str) (l:List Str),risingS p l=true→(p::l).Pairwise fun x y=>nM x y=true
 |p,[],_=>by simp
 |p,x::r,h=>by
  unfold risingS at h
  obtain⟨h1,h2⟩:=Jn.mp h
  have ih:=kW x r h2
  refine .cons (fun y hy=>?_) ih
  rcases Jj.mp hy with rfl|hy
  ·exact h1
  ·exact kZ h1 ((List.pairwise_cons.mp ih).1 y hy)
theorem tW{l:List Str}(h:sortedS l=true):l.Pairwise fun x y=>nM x y=true:=by
 cases l with
 |nil=>exact .nil
 |cons x r=>exact kW x r h
theorem zA{xs ys:List Str}(h:sortedS ys=true)(p:ys.Perm xs):ys=oY xs:=
 List.Perm.eq_of_pairwise (le:=fun a b=>nM a b=true) (fun a b _ _ h1 h2=>xU h1 h2) (tW h) (sO xs) (p.trans (iU xs).symm)
def f6:List D→Option (List Str)
 | []=>some []
 | .str x::r=>(f6 r).map (x:: ·)
 |_=>none
def eV(S:a0)(ds:List D):Option RV:=match ds with
 | [x]=>match dR S x with
  |some xs=>match f6 xs with
   |some ss=>if ss.length≤16777216 then some (.new (.lst ((oY ss).map D.str))) else none
   |none=>none
  |none=>none
 |_=>none
def vC(K:PySem.W.Frag):List V→Hp→VK→Prop:=fun vs H Q=>∃ (a:Addr) (ss:List Str),vs=[V.ref a]∧SqL K H a (ss.map V.str)∧ss.length≤sizeLine∧∀p,H p=none→Q (.ref p) (upd H p (.lst ((oY ss).map V.str)))
section
variable {Γ:Gm}{X:Cx}{W:WX}{k:Nat}{pos:Pos}
theorem gx{H:Hp}{μ:Mu}:∀ {ws:List V} {xs:List D} {ss:List Str},Reps Γ H μ ws xs→f6 xs=some ss→ws=ss.map V.str
 |_,_,_,.nil,h=>by simp only[f6] at h;cases h;rfl
 |_,_,_,.cons r t,h=>by
  cases r with
  |str x=>
   simp only[f6] at h
   obtain⟨l,h1,rfl⟩:=Jh.mp h
   rw[JG, ← gx t h1]
  |_=>simp[f6] at h
theorem oq{H:Hp}{μ:Mu}:∀ (ss:List Str),Reps Γ H μ (ss.map V.str) (ss.map D.str)
 | []=>.nil
 |x::ss=>.cons (.str x) (oq ss)
theorem qd:CallR X (.builtin "sorted") (vC X.K):=by
 intro pins s σ H vs us Q I r h
 obtain⟨a,ss,rfl,hs,hl,q⟩:=h
 obtain⟨its,rv,pl,_⟩:=I.list hs
 rw[Vals.ref1 r]
 have hlen:=rv.length
 rw[Jt] at hlen
 refine PyProof.Rows.sorted_strsAny pl.isList rv.strs (by rw[← hlen];exact hl) fun out ys h1 h2 h3=>?_
 obtain⟨ep,he⟩:=PyProof.Rows.sortedAll_at s.heap its out
 rw[zA h3 h2] at h1
 have hlen2:((oY ss).map V.str).length≤sizeLine:=by rw[Jt,(iU ss).length_eq];exact hl
 exact⟨.ref _,upd H (s.heap.objs.size+1) (.lst ((oY ss).map V.str)),I.laid (t':=s.toks) (fun _ _=>PyProof.Rows.sortedAll_old) (Nat.le_succ _) ⟨hlen2,out.toList,ep,vals_of_strs h1,he⟩,rfl,q _ (I.hok.fresh (Nat.le_succ _))⟩
theorem yb:eF Γ eV (vC Γ.K):=by
 intro H μ S vs ds z Q s r h q
 unfold eV at h
 split at h
 ·split at h
  ·rename_i xs e
   split at h
   ·rename_i ss e2
    split at h
    ·rename_i hl
     cases h
     obtain⟨v,rfl,rv⟩:=dj r
     obtain⟨a,ws,rfl,h1,h2⟩:=bD s rv e
     have:=gx h2 e2
     subst this
     exact⟨a,ss,rfl,.of h1,by rw[sizeLine_eq];exact hl,fun p hp=>aU.newL s hp (oq _) q⟩
    ·cases h
   ·cases h
  ·cases h
 ·cases h
theorem Cq.sortS(q:Cq Γ X W k):BlF Γ X "sorted" eV:=
 ⟨.inl ⟨_,_,qd,by rw[q.hK];exact yb,boot_sorted⟩,by decide,by decide⟩
end
end Ev
namespace Ev
open PySem PySem.Spec L2 PyProof.Rows GenW
def IU(X:Cx)(S C:Addr)(oC:Obj)(ip:List (Addr×Obj))(ys:List V)(σ:L2.St)(H:Hp)(s:Shared):Prop:=
 ∃ (acc:Array Value) (c:Nat),Vals ys acc.toList∧Inv X ((S,lstObj acc c)::(C,oC)::ip) σ H s
theorem IU.at{X:Cx}{S C:Addr}{oC:Obj}{ip:List (Addr×Obj)}{ys:List V}{σ:L2.St}{H:Hp}{s:Shared}(h:IU X S C oC ip ys σ H s):
  H S=none∧S≠X.env.locals∧S∉X.fs∧(∃ (acc:Array Value) (c:Nat),Vals ys acc.toList∧s.heap.get? S=some (lstObj acc c))∧s.heap.get? C=some oC∧H C=none∧C≠X.env.locals∧C∉X.fs:=by
 obtain⟨acc,c,r,I⟩:=h
 obtain⟨h1,h2,h3,h4,_⟩:=I.pin (S,lstObj acc c) (Ji _ Jf)
 obtain⟨k1,k2,k3,k4,_⟩:=I.pin (C,oC) (Ji _ (Je _ Jf))
 exact⟨h2,h3,h4,⟨acc,c,r,h1⟩,k1,k2,k3,k4⟩
section
variable {prog:Program}{w:World}{A:Around}{R:GenEnd}{Y:Protocol}{n:Nat}{s₀:Shared}{c:Code}{fs:List Frame}{s:Shared}{env:Env}
theorem fx{target:Expr}{it:Value}{body:List Stmt}
  (h:wpAny (model prog w) (A.over (.forLoop target it body [] env) fs) (pyNext it) (fun r s₁=>match r with
   |none=>Seg (model prog w) A R Y n s₀ (.block [] env) ((model prog w).den (.block [] env)) fs s₁
   |some v=>wpAny (model prog w) (A.over (.forLoop target it body [] env) fs) (letOwnedTupleGo target it v) (fun _ s₂=>wpAny (model prog w) (A.over (.forLoop target it body [] env) fs) (assign target env v) (fun _ s₃=>
     Seg (model prog w) A R Y n s₀ (.forLoop target it body [] env) ((execs body env).wrap (fun f=>match f with
      | .next| .cont=>.pure (.again (.forLoop target it body [] env))
      | .brk=>.pure (.done .next)
      | .ret v=>.pure (.done (.ret v))) (fun e=>(do noteFrame e env;theTreesLotGoes e:Sem Unit).wrap (fun _=>.raise e) .raise id id) id id) fs s₃)
     (fun x s'=>Seg (model prog w) A R Y n s₀ (.forLoop target it body [] env) ((do noteFrame x env;theTreesLotGoes x:Sem Unit).wrap (fun _=>.raise x) .raise id id) fs s') s₂)
     (fun x s'=>Seg (model prog w) A R Y n s₀ (.forLoop target it body [] env) ((do noteFrame x env;theTreesLotGoes x:Sem Unit).wrap (fun _=>.raise x) .raise id id) fs s') s₁)
   (fun x s'=>Seg (model prog w) A R Y n s₀ (.forLoop target it body [] env) ((do noteFrame x env;theTreesLotGoes x:Sem Unit).wrap (fun _=>.raise x) .raise id id) fs s') s):
  Seg (model prog w) A R Y n s₀ (.forLoop target it body [] env) ((model prog w).den (.forLoop target it body [] env)) fs s:=by
 show Seg _ A R Y n s₀ _ ((forTurn target it body [] env).onRaise (fun x=>do noteFrame x env;theTreesLotGoes x)) fs s
 have ex:∀ (x:Value),((fun e=>(do noteFrame e env;theTreesLotGoes e:Sem Unit).bind fun _=>(.raise e:Sem PySem.Fin)) x)=((do noteFrame x env;theTreesLotGoes x:Sem Unit).wrap (fun _=>.raise x) .raise id id):=fun x=>by
  first|exact Sem.bind_eq_wrap _ _| (show(do noteFrame x env;theTreesLotGoes x:Sem Unit).bind (fun _=>.raise x)=_;rw[Sem.bind_eq_wrap])
 have wr:∀ {α:Type} (m:Sem α) (k:α→Sem PySem.Fin),((m>>= k).onRaise (fun x=>do noteFrame x env;theTreesLotGoes x))=m.wrap (fun a=>(k a).onRaise (fun x=>do noteFrame x env;theTreesLotGoes x)) (fun e=>(do noteFrame e env;theTreesLotGoes e:Sem Unit).wrap (fun _=>.raise e) .raise id id) id id:=fun {α} m k=>by
  rw[Sem.onRaise_eq_wrap,Sem.bind_eq_wrap',Sem.wrap_wrap]
  refine Sem.wrap_congr _ _ _ (fun a=>?_) (fun e=>ex e)
  rw[Sem.onRaise_eq_wrap]
 unfold forTurn
 rw[wr]
 refine seg_wrap (wpAny_standAt ?_)
 rw[wr]
 refine seg_wrap (wpAny_onRaise (wpAny_mono h (fun r s₁ h₁=>?_) fun _ _ h'=>wpAny_standAt h'))
 cases r with
 |none=>exact seg_again rfl h₁
 |some v=>
  show Seg _ A R Y n s₀ _ ((letOwnedTupleGo target it v>>= fun _=>assign target env v>>= fun _=>execs body env>>= fun f=>match f with
   | .next| .cont=>again (.forLoop target it body [] env)
   | .brk=>pure (.done .next)
   | .ret v=>pure (.done (.ret v))).onRaise (fun x=>do noteFrame x env;theTreesLotGoes x)) fs s₁
  rw[wr]
  refine seg_wrap (wpAny_mono h₁ (fun _ s₂ h₂=>?_) fun _ _ h'=>h')
  rw[wr]
  refine seg_wrap (wpAny_mono h₂ (fun _ s₃ h₃=>?_) fun _ _ h'=>h')
  rw[wr]
  rw[Sem.wrap_congr (execs body env) _ _ (K':=fun f=>match f with
      | .next| .cont=>.pure (.again (.forLoop target it body [] env))
      | .brk=>.pure (.done .next)
      | .ret v=>.pure (.done (.ret v))) (H':=(fun e=>(do noteFrame e env;theTreesLotGoes e:Sem Unit).wrap (fun _=>.raise e) .raise id id))
    (fun f=>by cases f<;>rfl) (fun e=>rfl)]
  exact h₃
end
theorem _root_.Ev.RoomG.deeperG{k:Nat}{A:Around}(r:RoomG (k+1) A)(env:Env):RoomG k (A.deeper env):=⟨r.room.deeper env,by first|exact r.gd| (show(A.deeper env).guards=some [];rw[← r.gd];rfl)⟩
end Ev
namespace Ev
open PySem GenW
open Sem (wp)
def dead(l:List Value)(c:Code)(p:Pos)(fs:List Frame)(cl:Bool):GenState:=.suspended (fun _=>.unsupported "") l c p fs cl
def nh:GenState→GenState
 | .suspended _ l c p fs cl=>dead l c p fs cl
 |x=>x
def eM(G:Array GenState)(i:Nat)(x:GenState):GenState:=match G[i]? with
 |some (.suspended k l c p fs cl)=>.suspended k l c p fs cl
 |_=>x
def rest(G:Array GenState)(s:Shared):Shared:={ s with gens:=s.gens.mapIdx (eM G)}
def fU(s:Shared):Shared:={ s with gens:=s.gens.map nh}
structure Held(G:Array GenState)(s:Shared):Prop where
 sz:G.size≤s.gens.size
 dead:∀ (i:Nat) k l c p fs cl,G[i]? =some (.suspended k l c p fs cl)→s.gens[i]? =some (dead l c p fs cl)
 flat:∀ (i:Nat) k l c p fs cl,s.gens[i]? =some (.suspended k l c p fs cl)→(∃k' l' c' p' fs' cl',G[i]? =some (.suspended k' l' c' p' fs' cl'))∨splitAtGen fs=none
def nK(G:Array GenState)(g:Nat):Prop:=∀k l c p fs cl,G[g]? ≠some (.suspended k l c p fs cl)
section
variable {M:Model}{G:Array GenState}
theorem wb{Γ:Ctx}{p:Pos}{w:String}{fs:List Frame}{s s':Shared}{e:End}(h:Runs M Γ p (.unsupported w) fs s e s'):False:=by
 cases h with
 |segRet h1 _=>cases h1
 |segGen h1 _=>cases h1
 |segSuspOut _ h1=>cases h1
 |segSuspGen _ h1 _ _=>cases h1
theorem gY{s:Shared}{i:Nat}:(rest G s).gens[i]? =(s.gens[i]?).map (eM G i):=by
 unfold rest
 simp
theorem lp{g:Nat}{x:GenState}(h:nK G g):eM G g x=x:=by
 unfold eM
 split
 ·rename_i e;exact absurd e (h _ _ _ _ _ _)
 ·rfl
theorem bG{s:Shared}{g:Nat}(h:nK G g):(rest G s).gens[g]? =s.gens[g]? :=by
 rw[gY]
 cases e:s.gens[g]? with
 |none=>rfl
 |some x=>rw[Option.map_some,lp h]
theorem bW{s:Shared}{g:Nat}{x:GenState}(h:nK G g):rest G (s.setGen g x)=(rest G s).setGen g x:=by
 unfold rest Shared.setGen
 congr 1
 apply Array.ext_getElem?
 intro i
 simp only[Array.getElem?_mapIdx,Array.getElem?_setIfInBounds,Array.size_mapIdx]
 by_cases e:g=i
 ·subst e
  by_cases hl:g<s.gens.size
  ·simp[hl,lp h]
  ·simp[hl]
 ·simp[e]
theorem lJ{s:Shared}{c:Code}(h:G.size≤s.gens.size):rest G { s with gens:=s.gens.push (.fresh c)}={ rest G s with gens:=(rest G s).gens.push (.fresh c)}:=by
 unfold rest
 congr 1
 apply Array.ext_getElem?
 intro i
 simp only[Array.getElem?_mapIdx,Array.getElem?_push,Array.size_mapIdx]
 by_cases e:i=s.gens.size
 ·subst e
  simp only[if_true,Option.map_some]
  have:G[s.gens.size]? =none:=Array.getElem?_eq_none h
  unfold eM
  rw[this]
 ·simp[e]
theorem Held.lone{s:Shared}(h:Held G s){g:Nat}{x:GenState}(e:s.gens[g]? =some x)(n:∀l c p fs cl,x≠Ev.dead l c p fs cl):nK G g:=fun k l c p fs cl z=>by
 have:=h.dead g k l c p fs cl z
 rw[e] at this
 exact n l c p fs cl (Jq this)
theorem Held.set{s:Shared}(h:Held G s){g:Nat}{x:GenState}(hl:nK G g)(hx:∀k l c p fs cl,x= .suspended k l c p fs cl→splitAtGen fs=none):Held G (s.setGen g x):=by
 refine⟨by rw[setGen_size];exact h.sz,fun i k l c p fs cl e=>?_,fun i k l c p fs cl e=>?_⟩
 ·have ne:g≠i:=fun z=>hl _ _ _ _ _ _ (z▸e)
  have:=h.dead i k l c p fs cl e
  simp only[Shared.setGen,Array.getElem?_setIfInBounds,ne,if_false]
  exact this
 ·by_cases ei:g=i
  ·subst ei
   simp only[Shared.setGen,Array.getElem?_setIfInBounds,if_true] at e
   split at e
   ·exact .inr (hx _ _ _ _ _ _ (Jq e))
   ·cases e
  ·simp only[Shared.setGen,Array.getElem?_setIfInBounds,ei,if_false] at e
   exact h.flat i k l c p fs cl e
theorem Held.push{s:Shared}(h:Held G s){c:Code}:Held G { s with gens:=s.gens.push (.fresh c)}:=by
 refine⟨by show G.size≤(s.gens.push _).size;rw[Array.size_push];have:=h.sz;omega,fun i k l c' p fs cl e=>?_,fun i k l c' p fs cl e=>?_⟩
 ·have h1:=h.dead i k l c' p fs cl e
  have hi:i<s.gens.size:=(Array.getElem?_eq_some_iff.mp h1).1
  show(s.gens.push _)[i]? =_
  rw[Array.getElem?_push,if_neg (by omega)]
  exact h1
 ·have e:(s.gens.push (.fresh c))[i]? =_:=e
  rw[Array.getElem?_push] at e
  split at e
  ·cases e
  ·exact h.flat i k l c' p fs cl e
theorem lx{a b:List Frame}(h1:splitAtGen a=none)(h2:splitAtGen b=none):splitAtGen (a++b)=none:=by
 induction a with
 |nil=>exact h2
 |cons F fs ih=>
  cases F with
  |gen=>simp[splitAtGen] at h1
  |ret=>
   simp only[splitAtGen,Option.map_eq_none_iff,List.cons_append] at h1 ⊢
   exact ih h1
def rG(e:End):Prop:=∀v g l k c p fs,e= .susp v g l k c p fs→splitAtGen fs=none
theorem fJ{Γ:Ctx}{p:Pos}{t:Sem PySem.Fin}{fs:List Frame}{s s':Shared}{e:End}(h:Runs M Γ p t fs s e s'):rG e:=by
 induction h with
 |done=>exact fun _ _ _ _ _ _ _ z=>by cases z
 |raise=>exact fun _ _ _ _ _ _ _ z=>by cases z
 |yield=>exact fun _ _ _ _ _ _ _ z=>by cases z;rfl
 |callSusp _ ih=>
  intro _ _ _ _ _ _ _ z
  cases z
  exact lx (ih _ _ _ _ _ _ _ rfl) rfl
 |segSuspOut hn _ ih=>
  intro _ _ _ _ _ _ _ z
  cases z
  exact lx (ih _ _ _ _ _ _ _ rfl) hn
 |_=>assumption
theorem cY{e:End}(h:rG e):∀k l c p fs cl,e.genState= .suspended k l c p fs cl→splitAtGen fs=none:=fun k l c p fs cl z=>by
 cases e with
 |ret r=>cases z
 |susp v g l' k' c' p' fs'=>
  unfold End.genState at z
  injection z with _ _ _ _ z _
  rw[← z]
  exact h _ _ _ _ _ _ _ rfl
theorem lL{s:Shared}{g:Nat}{st:GenState}(hg:Held G s)(h0:s.gens[g]? =some st):(eM G g st).seen=st.seen:=by
 unfold eM
 split
 ·rename_i k l c p fs cl e
  have:=hg.dead _ _ _ _ _ _ _ e
  rw[h0] at this
  rw[Jq this]
  rfl
 ·rfl
theorem iL{Γ:Ctx}{p:Pos}{t:Sem PySem.Fin}{fs:List Frame}{s s':Shared}{e:End}(h:Runs M Γ p t fs s e s'):
  splitAtGen fs=none→Held G s→Held G s'∧Runs M Γ p t fs (rest G s) e (rest G s'):=by
 induction h with
 |done=>exact fun hf hg=>⟨hg,.done⟩
 |raise=>exact fun hf hg=>⟨hg,.raise⟩
 |again q _ ih=>exact fun hf hg=>⟨(ih hf hg).1,.again q (ih hf hg).2⟩
 |rule _ ih=>exact fun hf hg=>⟨(ih hf hg).1,.rule (ih hf hg).2⟩
 |«at» _ ih=>exact fun hf hg=>⟨(ih hf hg).1,.at (ih hf hg).2⟩
 |load ho _ ih=>exact fun hf hg=>⟨(ih hf hg).1,.load ho (ih hf hg).2⟩
 |update ho _ ih=>exact fun hf hg=>⟨(ih hf ⟨hg.1,hg.2,hg.3⟩).1,.update ho (ih hf ⟨hg.1,hg.2,hg.3⟩).2⟩
 |loadIfAlive _ ih=>exact fun hf hg=>⟨(ih hf hg).1,.loadIfAlive (ih hf hg).2⟩
 |point _ ih=>exact fun hf hg=>⟨(ih hf hg).1,.point (ih hf hg).2⟩
 |alloc _ ih=>exact fun hf hg=>⟨(ih hf ⟨hg.1,hg.2,hg.3⟩).1,.alloc (ih hf ⟨hg.1,hg.2,hg.3⟩).2⟩
 |fresh _ ih=>exact fun hf hg=>⟨(ih hf ⟨hg.1,hg.2,hg.3⟩).1,.fresh (ih hf ⟨hg.1,hg.2,hg.3⟩).2⟩
 |ask _ ih=>exact fun hf hg=>⟨(ih hf hg).1,.ask (ih hf hg).2⟩
 |choose hn _ ih=>exact fun hf hg=>⟨(ih hf ⟨hg.1,hg.2,hg.3⟩).1,.choose hn (ih hf ⟨hg.1,hg.2,hg.3⟩).2⟩
 |os _ ih=>exact fun hf hg=>⟨(ih hf ⟨hg.1,hg.2,hg.3⟩).1,.os (ih hf ⟨hg.1,hg.2,hg.3⟩).2⟩
 |handled _ ih=>exact fun hf hg=>⟨(ih hf hg).1,.handled (ih hf hg).2⟩
 |genState h0 hr ih=>
  intro hf hg
  refine⟨(ih hf hg).1,.genState (by rw[gY,h0];rfl) ?_⟩
  rw[lL hg h0]
  exact(ih hf hg).2
 |stack _ ih=>exact fun hf hg=>⟨(ih hf hg).1,.stack (ih hf hg).2⟩
 |thread _ ih=>exact fun hf hg=>⟨(ih hf hg).1,.thread (ih hf hg).2⟩
 | @newGen Γ p kk s c e s' hr ih=>
  intro hf hg
  have hz:(rest G s).gens.size=s.gens.size:=by unfold rest;simp
  refine⟨(ih hf hg.push).1,.newGen ?_⟩
  rw[hz, ← lJ hg.sz]
  exact(ih hf hg.push).2
 |call _ _ ih1 ih2=>exact fun hf hg=>⟨(ih2 hf (ih1 rfl hg).1).1,.call (ih1 rfl hg).2 (ih2 hf (ih1 rfl hg).1).2⟩
 |callSusp _ ih=>exact fun hf hg=>⟨(ih rfl hg).1,.callSusp (ih rfl hg).2⟩
 |yield=>exact fun hf hg=>⟨hg,.yield⟩
 | @resumeFresh Γ p g0 ll kk s c e₁ s₁ e s' h0 h1 hq h2 ih1 ih2=>
  intro hf hg
  have lo:nK G g0:=hg.lone h0 fun _ _ _ _ _ z=>by cases z
  have a:=ih1 rfl (hg.set lo fun _ _ _ _ _ _ z=>by cases z)
  have b:=ih2 hf (a.1.set lo (cY (fJ h1)))
  refine⟨b.1,.resumeFresh (by rw[bG lo];exact h0) (s₁:=rest G s₁) ?_ hq ?_⟩
  ·rw[← bW lo];exact a.2
  ·rw[← bW lo];exact b.2
 | @resumeSuspended Γ p g0 r ll kk s k₀ l₀ c₀ p₀ fs₀ cl₀ e₁ s₁ e s' h0 h1 hq h2 ih1 ih2=>
  intro hf hg
  have lo:nK G g0:=hg.lone h0 fun _ _ _ _ _ z=>by
   unfold dead at z
   injection z with z _ _ _ _ _
   rw[z] at h1
   exact wb h1
  have fl:splitAtGen fs₀=none:=by
   rcases hg.flat _ _ _ _ _ _ _ h0 with⟨_,_,_,_,_,_,z⟩|z
   ·exact absurd z (lo _ _ _ _ _ _)
   ·exact z
  have a:=ih1 fl (hg.set lo fun _ _ _ _ _ _ z=>by cases z)
  have b:=ih2 hf (a.1.set lo (cY (fJ h1)))
  refine⟨b.1,.resumeSuspended (by rw[bG lo];exact h0) (s₁:=rest G s₁) ?_ hq ?_⟩
  ·rw[← bW lo];exact a.2
  ·rw[← bW lo];exact b.2
 |resumeJustStarted h0 hv hr ih=>
  intro hf hg
  have lo:=hg.lone h0 fun _ _ _ _ _ z=>by cases z
  exact⟨(ih hf hg).1,.resumeJustStarted (by rw[bG lo];exact h0) hv (ih hf hg).2⟩
 |resumeThrowFresh h0 hr ih=>
  intro hf hg
  have lo:=hg.lone h0 fun _ _ _ _ _ z=>by cases z
  have a:=ih hf (hg.set lo fun _ _ _ _ _ _ z=>by cases z)
  exact⟨a.1,.resumeThrowFresh (by rw[bG lo];exact h0) (by rw[← bW lo];exact a.2)⟩
 |resumeRunning h0 hr ih=>
  intro hf hg
  have lo:=hg.lone h0 fun _ _ _ _ _ z=>by cases z
  exact⟨(ih hf hg).1,.resumeRunning (by rw[bG lo];exact h0) (ih hf hg).2⟩
 |resumeFinished h0 hr ih=>
  intro hf hg
  have lo:=hg.lone h0 fun _ _ _ _ _ z=>by cases z
  exact⟨(ih hf hg).1,.resumeFinished (by rw[bG lo];exact h0) (ih hf hg).2⟩
 |segRet _ _ ih1 ih2=>
  intro hf hg
  simp only[splitAtGen,Option.map_eq_none_iff] at hf
  exact⟨(ih2 hf (ih1 rfl hg).1).1,.segRet (ih1 rfl hg).2 (ih2 hf (ih1 rfl hg).1).2⟩
 |segGen _ _ ih1 ih2=>
  intro hf hg
  simp[splitAtGen] at hf
 |segSuspOut hn _ ih=>exact fun hf hg=>⟨(ih rfl hg).1,.segSuspOut hn (ih rfl hg).2⟩
 |segSuspGen hn _ _ _ ih1 ih2=>
  intro hf hg
  rw[hf] at hn
  cases hn
theorem qP{Γ:Ctx}{p:Pos}{g:Nat}{r:Resume}{s s':Shared}{res:GenResult}(h:Wakes M Γ p g r s res s')(hg:Held G s):Held G s'∧Wakes M Γ p g r (rest G s) res (rest G s'):=by
 unfold Wakes at h
 split at h
 ·exact h.elim
 ·rename_i c h0
  have lo:=hg.lone h0 fun _ _ _ _ _ z=>by cases z
  have h1:(rest G s).gens[g]? =some (.fresh c):=by rw[bG lo];exact h0
  split at h
  ·obtain⟨e₁,s₁,hr,hq,hres,rfl⟩:=h
   have a:=iL hr rfl (hg.set lo fun _ _ _ _ _ _ z=>by cases z)
   refine⟨a.1.set lo (cY (fJ hr)),?_⟩
   unfold Wakes
   rw[h1]
   exact⟨e₁,rest G s₁,by rw[← bW lo];exact a.2,hq,hres,bW lo⟩
  ·rename_i v hv
   obtain⟨h2,rfl⟩:=h
   refine⟨hg,?_⟩
   unfold Wakes
   rw[h1]
   cases v with
   |none=>exact absurd rfl (fun z=>hv z)
   |_=>exact⟨h2,rfl⟩
  ·obtain⟨h2,rfl⟩:=h
   refine⟨hg.set lo (fun _ _ _ _ _ _ z=>by cases z),?_⟩
   unfold Wakes
   rw[h1]
   exact⟨h2,bW lo⟩
 ·rename_i k₀ l₀ c₀ p₀ fs cl h0
  obtain⟨e₁,s₁,hr,hq,hres,rfl⟩:=h
  have lo:nK G g:=hg.lone h0 fun _ _ _ _ _ z=>by
   unfold dead at z
   injection z with z _ _ _ _ _
   rw[z] at hr
   exact wb hr
  have fl:splitAtGen fs=none:=by
   rcases hg.flat _ _ _ _ _ _ _ h0 with⟨_,_,_,_,_,_,z⟩|z
   ·exact absurd z (lo _ _ _ _ _ _)
   ·exact z
  have a:=iL hr fl (hg.set lo fun _ _ _ _ _ _ z=>by cases z)
  refine⟨a.1.set lo (cY (fJ hr)),?_⟩
  unfold Wakes
  rw[bG lo,h0]
  exact⟨e₁,rest G s₁,by rw[← bW lo];exact a.2,hq,hres,bW lo⟩
 ·rename_i h0
  have lo:=hg.lone h0 fun _ _ _ _ _ z=>by cases z
  obtain⟨h2,rfl⟩:=h
  refine⟨hg,?_⟩
  unfold Wakes
  rw[bG lo,h0]
  exact⟨h2,rfl⟩
 ·rename_i h0
  have lo:=hg.lone h0 fun _ _ _ _ _ z=>by cases z
  obtain⟨h2,rfl⟩:=h
  refine⟨hg,?_⟩
  unfold Wakes
  rw[bG lo,h0]
  exact⟨h2,rfl⟩
theorem zD{α:Type}(M:Model)(Γ:Ctx)(t:Sem α):∀ (Q:α→Pos→Shared→Prop) (E:Value→Pos→Shared→Prop) (p:Pos) (s:Shared),Held G s→wp M Γ t Q E p s→
  wp M Γ t (fun a p' s'=>∃s1,Held G s1∧s'=rest G s1∧Q a p' s1) (fun e p' s'=>∃s1,Held G s1∧s'=rest G s1∧E e p' s1) p (rest G s):=by
 induction t with
 |pure a=>intro Q E p s hn h;exact⟨s,hn,rfl,h⟩
 |raise e=>intro Q E p s hn h;exact⟨s,hn,rfl,h⟩
 |unsupported _=>intro Q E p s _ h;exact h
 |finish _=>intro Q E p s _ h;exact h
 |rule _ k ih=>intro Q E p s hn h;exact ih () Q E p s hn h
 |«at» p' k ih=>intro Q E p s hn h;exact ih () Q E p' s hn h
 |load a _ k ih=>intro Q E p s hn h;obtain⟨o,ho,h⟩:=h;exact⟨o,ho,ih o Q E p s hn h⟩
 |update a _ f k ih=>intro Q E p s hn h;exact⟨h.1,ih () Q E p { s with heap:=s.heap.update a f} ⟨hn.1,hn.2,hn.3⟩ h.2⟩
 |loadIfAlive a k ih=>intro Q E p s hn h;exact ih _ Q E p s hn h
 |point _ k ih=>intro Q E p s hn h;exact ih () Q E p s hn h
 |register _ _=>intro Q E p s _ h;exact h
 |alloc o k ih=>intro Q E p s hn h;exact ih _ Q E p { s with heap:=s.heap.push o} ⟨hn.1,hn.2,hn.3⟩ h
 |fresh k ih=>intro Q E p s hn h;exact ih _ Q E p { s with toks:=s.toks+1} ⟨hn.1,hn.2,hn.3⟩ h
 |ask k ih=>intro Q E p s hn h;exact ih _ Q E p s hn h
 |choose src m k ih=>intro Q E p s hn h;exact⟨h.1,ih _ Q E p { s with drawn:=s.drawn.bump src} ⟨hn.1,hn.2,hn.3⟩ h.2⟩
 |os q _ k ih=>intro Q E p s hn h;exact ih _ Q E p { s with os:=(Os.step s.os q).1} ⟨hn.1,hn.2,hn.3⟩ h
 |call c hd _ _ k ih=>intro Q E p s hn h;obtain⟨r,s',hr,h⟩:=h;have a:=iL hr rfl hn;exact⟨r,rest G s',a.2,ih r Q E p s' a.1 h⟩
 |handled own k ih=>intro Q E p s hn h;exact ih _ Q E p s hn h
 |genState g k ih=>
  intro Q E p s hn h
  obtain⟨st,hs,h⟩:=h
  refine⟨eM G g st,by rw[gY,hs];rfl,?_⟩
  rw[lL hn hs]
  exact ih _ Q E p s hn h
 |newGen c k ih=>
  intro Q E p s hn h
  have hz:(rest G s).gens.size=s.gens.size:=by unfold rest;simp
  have a:=ih _ Q E p _ hn.push h
  rw[lJ hn.sz] at a
  rw[← hz] at a
  exact a
 |resume g r _ k ih=>intro Q E p s hn h;obtain⟨res,s',hw,h⟩:=h;have a:=qP hw hn;exact⟨res,rest G s',a.2,ih res Q E p s' a.1 h⟩
 |yield _ _ _ _=>intro Q E p s _ h;exact h
 |stack k ih=>intro Q E p s hn h;exact ih _ Q E p s hn h
 |fork _ _=>intro Q E p s _ h;exact h
 |thread k ih=>intro Q E p s hn h;exact ih _ Q E p s hn h
 |await _ _ _ _ _=>intro Q E p s _ h;exact h
theorem uY{s:Shared}:Held s.gens (fU s):=by
 refine⟨by unfold fU;simp,fun i k l c p fs cl e=>?_,fun i k l c p fs cl e=>?_⟩
 ·unfold fU
  simp[e,nh]
 ·unfold fU at e
  simp only[Array.getElem?_map,Jh] at e
  obtain⟨x,h1,h2⟩:=e
  cases x with
  |suspended k' l' c' p' fs' cl'=>exact .inl ⟨_,_,_,_,_,_,h1⟩
  |_=>cases h2
theorem va{s:Shared}:rest s.gens (fU s)=s:=by
 unfold rest fU
 have:(s.gens.map nh).mapIdx (eM s.gens)=s.gens:=by
  apply Array.ext_getElem?
  intro i
  simp only[Array.getElem?_mapIdx,Array.getElem?_map,Option.map_map]
  cases e:s.gens[i]? with
  |none=>rfl
  |some x=>
   simp only[Option.map_some,Function.comp]
   unfold eM
   rw[e]
   cases x<;>rfl
 show({ s with gens:=(s.gens.map nh).mapIdx (eM s.gens)}:Shared)=s
 rw[this]
theorem ck{α:Type}{A:Around}{t:Sem α}{Q:α→Shared→Prop}{E:Value→Shared→Prop}{s:Shared}
  (h:wpAny M A t Q E (fU s)):wpAny M A t (fun a s'=>∃s1,Held s.gens s1∧s'=rest s.gens s1∧Q a s1) (fun e s'=>∃s1,Held s.gens s1∧s'=rest s.gens s1∧E e s1) s:=fun Γ p hΓ=>by
 have:=zD (G:=s.gens) M Γ t _ _ p (fU s) uY (h Γ p hΓ)
 rw[va] at this
 exact this
theorem cV{s s1:Shared}{g:Nat}{k:Resume→Sem PySem.Fin}{l:List Value}{c:Code}{p:Pos}{fs:List Frame}{cl:Bool}(h:Held s.gens s1)(e:s.gens[g]? =some (.suspended k l c p fs cl)):(rest s.gens s1).gens[g]? =some (.suspended k l c p fs cl):=by
 rw[gY,h.dead _ _ _ _ _ _ _ e,Option.map_some]
 unfold eM
 rw[e]
end
end Ev
namespace Ev
open PySem PySem.Spec L2 PyProof.Rows GenW
def cF(n:Nat)(h:Heap):Heap:={ h with objs:=h.objs.extract 0 n}
theorem cE{n:Nat}{h:Heap}{b:Addr}(hb:b<n):(cF n h).get? b=h.get? b:=by
 unfold cF Heap.get?
 have:(h.objs.extract 0 n)[b]? =h.objs[b]? :=by
  simp only[Array.getElem?_extract,Nat.sub_zero,Nat.zero_add]
  by_cases hl:b<h.objs.size
  ·rw[if_pos (Nat.lt_min.mpr ⟨hb,hl⟩)]
  ·rw[if_neg (fun z=>hl (Nat.lt_min.mp z).2),Array.getElem?_eq_none (Nat.le_of_not_lt hl)]
 simp only[this]
theorem cw{n:Nat}{h:Heap}(hn:n≤h.objs.size):(cF n h).objs.size=n:=by
 show(h.objs.extract 0 n).size=n
 rw[Array.size_extract,Nat.sub_zero,Nat.min_eq_left hn]
theorem eZ{n:Nat}{h:Heap}{b:Addr}{o:Obj}(e:(cF n h).get? b=some o):b<n∧h.get? b=some o:=by
 have hl:b< (cF n h).objs.size:=Heap.lt_size e
 have hb:b<n:=by
  have hl:b< (h.objs.extract 0 n).size:=hl
  rw[Array.size_extract,Nat.sub_zero] at hl
  exact(Nat.lt_min.mp hl).1
 exact⟨hb,by rw[← cE hb];exact e⟩
structure Gp where
 X:Cx
 A:Around
 N:List Str
 qual:Str
 scope:Scope
 f:Addr
 cd:Value
 n:Nat
 pn:List (Addr×Obj)
abbrev Gp.env(G:Gp):Env:=envOfC G.qual G.scope G.n G.f G.cd
def Gp.kc(G:Gp):List Addr:=if G.X.env.locals∈frs G.X.stack then[] else[G.X.env.locals]
theorem Gp.mem_kc{G:Gp}{b:Addr}(h:b∈G.kc):b=G.X.env.locals∧b∉frs G.X.stack:=by
 unfold Gp.kc at h
 split at h
 ·cases h
 ·rename_i e
  rw[Jg.mp h]
  exact⟨rfl,e⟩
theorem Gp.kc_mem{G:Gp}(h:G.X.env.locals∉frs G.X.stack):G.X.env.locals∈G.kc:=by
 unfold Gp.kc
 rw[if_neg h]
 exact Jg.mpr rfl
def Gp.cx(G:Gp)(H:Hp)(s:Shared):Cx where
 prog:=G.X.prog
 w:=G.X.w
 K:=G.X.K
 mg:=G.X.mg
 base:=G.X.base
 A:=G.A.deeper G.env
 N:=G.N
 s_0:={ s with heap:=cF G.n s.heap}
 H_0:=H
 env:=G.env
 outer:=G.X.stack
 stack:=G.env::G.X.stack
 ex:=[]
 calm:=true
 fn:=fun _=>true
 pn:=G.pn++pinsAt G.kc s.heap
 xe:=fun _ _=>False
structure Gp.Ok(G:Gp)(pins:List (Addr×Obj)):Prop where
 fsn:∀b∈frs G.X.stack,b<G.n
 sub:∀b∈G.X.fs,b∈frs G.X.stack
 loc:G.X.env.locals≠G.n
 kcp:∀p∈G.pn,p.1∉G.kc
 fr:G.A.frames=some G.X.stack
 hd:G.A.handled=none
 kind:G.scope.kind= .function
 nof:∀y∈G.scope.names,y.2≠ .free∧y.2≠ .cell
 cell:∀x c,G.X.env.cells.lookup x=some c→c<G.n
 pin:∀p∈G.X.pn++pins,p.1<G.n
 sz:G.X.s_0.heap.objs.size≤G.n
section
variable {G:Gp}{pins gp ip:List (Addr×Obj)}{σ σc:L2.St}{H Hw:Hp}{s sw:Shared}
theorem gS{n:Nat}{h base:Heap}:∀ {l:List Env},(∀b∈frs l,b<n)→h.FunFrames base l→(cF n h).FunFrames base l
 | [],_,_=>trivial
 |env::r,hb,⟨h1,⟨L,o,h2,h3,h4,h5⟩,h6⟩=>by
  have hL:L∈frs (env::r):=List.mem_filterMap.mpr ⟨env,Jf,h2⟩
  refine⟨h1,⟨L,o,h2,h3,by rw[cE (hb L hL)];exact h4,h5⟩,gS (fun b hm=>hb b ?_) h6⟩
  obtain⟨e,he,q⟩:=List.mem_filterMap.mp hm
  exact List.mem_filterMap.mpr ⟨e,Je _ he,q⟩
theorem Gp.kc_there(I:L2.Inv G.X pins σc H s){b:Addr}(hb:b∈G.kc):∃o,s.heap.get? b=some o:=by
 obtain⟨m,⟨o,es,ep,y1,_⟩,_⟩:=I.loc
 rw[(G.mem_kc hb).1]
 exact⟨o,y1⟩
end
abbrev qa:=V→L2.St→Hp→(L2.St→Hp→Prop)→Prop
structure GEndsF where
 nx:Nat→L2.St→L2.St→Hp→Prop
 rt:Nat→L2.St→V→Hp→Prop
 bk:Nat→L2.St→L2.St→Hp→Prop:=fun _ _ _ _=>False
 ct:Nat→L2.St→L2.St→Hp→Prop:=fun _ _ _ _=>False
abbrev oA:=GEndsF→Nat→L2.St→L2.St→Hp→Prop
def GEndsF.at(D:GEndsF)(j:Nat)(σc:L2.St):Ends:={ nx:=D.nx j σc,rt:=D.rt j σc,bk:=D.bk j σc,ct:=D.ct j σc}
section
variable {X:Cx}{pins:List (Addr×Obj)}{σ:L2.St}{H:Hp}{s:Shared}
theorem b9(I:L2.Inv X pins σ H s){g':Array GenState}(hb:AllBare g'):L2.Inv X pins σ H { s with gens:=g'}:=
 I.call' (s':={ s with gens:=g'}) (ch:=[]) rfl (Un.kept fun _ _ e=>e) I.hok hb fun b z=>by simp at z
theorem uO(h:AllBare s.gens):AllBare (fU s).gens:=fun y hy=>by
 obtain⟨x,hx,rfl⟩:=Array.mem_map.mp hy
 have:=h x hx
 cases x<;>exact this
theorem dI(I:L2.Inv X pins σ H s):L2.Inv X pins σ H (fU s):=b9 I (uO I.bare)
theorem bw{G:Array GenState}(hG:AllBare G)(I:L2.Inv X pins σ H s):L2.Inv X pins σ H (rest G s):=b9 I fun y hy=>by
 obtain⟨i,hi,rfl⟩:=Array.mem_mapIdx.mp hy
 unfold eM
 split
 ·rename_i k l c p fs cl e
  exact hG _ (Array.mem_of_getElem? e)
 ·exact I.bare _ (Array.getElem_mem _)
theorem wX{tg:Expr}{body:List Stmt}{gt:TG}{tb:TS}{D:Ends}{x:V}{v:Value}{g:Nat}(hg:PG X.nox tg gt)(hb:PSs X.nox body tb)(I:L2.Inv X pins σ H s)(r:L2.RelV x v)(h:gt x σ H fun σ2 H2=>tb D σ2 H2){E1 E2:Value→Shared→Prop}:
  wpAny (model X.prog X.w) X.A (assign tg X.env v) (fun _ s2=>wpAny (model X.prog X.w) X.A (execs body X.env) (fun f s3=>SP X pins D f s3∧∀k l c p fs cl,s.gens[g]? =some (.suspended k l c p fs cl)→s3.gens[g]? =some (.suspended k l c p fs cl)) E2 s2) E1 s:=by
 refine wpAny_mono (ck (hg.run pins (fU s) σ H x v _ (dI (I.wish _)) r h)) (fun _ s2 h2=>?_) fun e s2 h2=>?_
 ·obtain⟨s1,hd,rfl,σ2,H2,I2,q2⟩:=h2
  have I2':=bw I.bare I2
  refine wpAny_mono (ck (hb.run pins (fU (rest s.gens s1)) σ2 H2 D (dI I2') q2)) (fun f s3 h3=>?_) fun e s3 h3=>?_
  ·obtain⟨s4,hd4,rfl,q⟩:=h3
   refine⟨?_,fun k l c p fs cl e=>cV hd4 (cV hd e)⟩
   have q:=q.unwish
   cases f with
   |next=>obtain⟨σ',H',J,z⟩:=q;exact⟨σ',H',bw I2'.bare J,z⟩
   |brk=>obtain⟨σ',H',J,z⟩:=q;exact⟨σ',H',bw I2'.bare J,z⟩
   |cont=>obtain⟨σ',H',J,z⟩:=q;exact⟨σ',H',bw I2'.bare J,z⟩
   |ret u=>obtain⟨w,σ',H',J,rr,z⟩:=q;exact⟨w,σ',H',bw I2'.bare J,rr,z⟩
  ·obtain⟨_,_,_,z⟩:=h3
   exact False.elim z
 ·obtain⟨_,_,_,z⟩:=h2
  exact False.elim z
end
end Ev
namespace Ev
open PySem L2 PyProof.Rows LamX He
inductive GR where
 |nx (j:Nat) (ec e:aq) (S:a0)|brk (j:Nat) (ec e:aq) (S:a0)|cnt (j:Nat) (ec e:aq) (S:a0)|out (r:RS)|bad
abbrev EG:=D→aq→a0→RS
abbrev MGF:=EG→Nat→aq→aq→a0→GR
def hX(Γ:Gm)(Zc:Ends)(Z:GEndsF)(μ:Mu)(H:Hp):GR→Prop
 | .nx j ec e S=>∀σc' σ' H' μ',Ext Γ μ H μ' H'→b8 Γ H' μ' σc' ec→At Γ σ' H' e S μ'→Z.nx j σc' σ' H'
 | .brk j ec e S=>∀σc' σ' H' μ',Ext Γ μ H μ' H'→b8 Γ H' μ' σc' ec→At Γ σ' H' e S μ'→Z.bk j σc' σ' H'
 | .cnt j ec e S=>∀σc' σ' H' μ',Ext Γ μ H μ' H'→b8 Γ H' μ' σc' ec→At Γ σ' H' e S μ'→Z.ct j σc' σ' H'
 | .out r=>r.sat (b0 Γ W0 Zc μ H)
 | .bad=>False
theorem hX.ext{Γ:Gm}{Zc:Ends}{Z:GEndsF}{μ μ1:Mu}{H H1:Hp}{r:GR}(x:Ext Γ μ H μ1 H1)(h:hX Γ Zc Z μ H r):hX Γ Zc Z μ1 H1 r:=by
 cases r with
 |nx j ec e S=>exact fun σc' σ' H' μ' x'=>h σc' σ' H' μ' (x.trans x')
 |brk j ec e S=>exact fun σc' σ' H' μ' x'=>h σc' σ' H' μ' (x.trans x')
 |cnt j ec e S=>exact fun σc' σ' H' μ' x'=>h σc' σ' H' μ' (x.trans x')
 |out r=>exact b0.ext x h
 |bad=>exact h
def Impl(Γ:Gm)(μ0:Mu)(H0:Hp)(Zc:Ends)(Yl:qa)(cb:EG):Prop:=∀ (x:V) (d:D) (σc:L2.St) (ec:aq) (S:a0) (μ:Mu) (H:Hp) (N:L2.St→Hp→Prop),Ext Γ μ0 H0 μ H→b8 Γ H μ σc ec→Sim Γ μ H S→ef Γ H→Rep Γ H μ x d→
 (cb d ec S).sat (b0 Γ W0 { Zc with nx:=N,ct:=N,bk:=Zc.nx} μ H)→Yl x σc H N
theorem Impl.ext{Γ:Gm}{μ0 μ1:Mu}{H0 H1:Hp}{Zc:Ends}{Yl:qa}{cb:EG}(im:Impl Γ μ0 H0 Zc Yl cb)(x:Ext Γ μ0 H0 μ1 H1):Impl Γ μ1 H1 Zc Yl cb:=fun v d σc ec S μ H N y=>im v d σc ec S μ H N (x.trans y)
def gT(Γ:Gm)(m:MGF)(Yl:qa):oA:=fun Z j σc σ H=>∃Zc cb ec env S μ,Impl Γ μ H Zc Yl cb∧b8 Γ H μ σc ec∧At Γ σ H env S μ∧hX Γ Zc Z μ H (m cb j ec env S)
def oF(m:MS):MGF:=fun _ j ec env S=>match m env S with
 | .nx e S'=>.nx j ec e S'
 | .brk e S'=>.brk j ec e S'
 | .cnt e S'=>.cnt j ec e S'
 |_=>.bad
def pW:MGF:=fun _ j ec env S=>.nx j ec env S
def eE(a b:MGF):MGF:=fun cb j ec env S=>match a cb j ec env S with
 | .nx j1 ec1 e1 S1=>b cb j1 ec1 e1 S1
 |r=>r
def vF(f:ME):MGF:=fun cb j ec env S=>match f env S with
 | .ok r S1=>if j<16777216 then(match cb r.d ec S1 with
  | .nx e2 S2=>.nx (j+1) e2 env S2
  | .cnt e2 S2=>.nx (j+1) e2 env S2
  | .brk e2 S2=>.out (.nx e2 S2)
  | .ret v S2=>.out (.ret v S2)
  |_=>.bad) else .bad
 |_=>.bad
def fu(t:Tg)(b:MGF):List D→MGF
 | []=>fun _ j ec env S=>.nx j ec env S
 |d::ds=>fun cb j ec env S=>match aV t d env with
  |none=>.bad
  |some e1=>match b cb j ec e1 S with
   | .nx j2 ec2 e2 S2=>fu t b ds cb j2 ec2 e2 S2
   | .cnt j2 ec2 e2 S2=>fu t b ds cb j2 ec2 e2 S2
   | .brk j2 ec2 e2 S2=>.nx j2 ec2 e2 S2
   |r=>r
def l7(t:Tg)(it:MI)(b:MGF):MGF:=fun cb j ec env S=>match it env S with
 | .ok (.st ds) S1=>fu t b ds cb j ec env S1
 |_=>.bad
section
variable {Γ:Gm}{X:Cx}{W:WX}{pos:Pos}{k m:Nat}
theorem Cq.nox(q:Cq Γ X W k):Cq Γ X.nox W0 k:=⟨q.hK,q.hw,q.hc,q.nd,L2.takes0,q.room⟩
end
abbrev AQ(P:Program)(w:World)(K:PySem.W.Frag)(mg:Str→Option Value)(base:Heap)(X:Cx):Cx:={ X with prog:=P,w:=w,K:=K,mg:=mg,base:=base}
theorem Ac{P:Program}{w:World}{K:PySem.W.Frag}{mg:Str→Option Value}{base:Heap}{X:Cx}(h1:X.prog=P)(h2:X.w=w)(h3:X.K=K)(h4:X.mg=mg)(h5:X.base=base):AQ P w K mg base X=X:=by
 cases X
 simp only at h1 h2 h3 h4 h5
 subst h1 h2 h3 h4 h5
 rfl
end Ev
namespace Ev
open PySem PySem.Spec L2 PyProof.Rows GenW
section
variable {X:Cx}{pins:List (Addr×Obj)}{σ:L2.St}{H:Hp}{s:Shared}
theorem CF(I:L2.Inv X pins σ H s):∀b∈frs X.stack,b<s.heap.objs.size:=fun b hb=>by
 rcases Jj.mp (I.stkSub b hb) with z|z
 ·rw[z];exact I.lt
 ·obtain⟨_,o,ho,_⟩:=I.ok.funs.mem z
  exact Jk (Heap.lt_size ho) I.sz
def cutS(n:Nat)(s:Shared):Shared:={ s with heap:=cF n s.heap}
theorem Ba{n:Nat}(I:L2.Inv X pins σ H s)(hex:X.ex=[])(h1:n≤X.s_0.heap.objs.size)(h2:X.base.objs.size≤n)(h3:∀b∈X.fs,b<n):L2.Inv { X with s_0:=cutS n X.s_0} pins σ H s:=by
 have sz:(cF n X.s_0.heap).objs.size=n:=cw h1
 refine⟨⟨I.ok.mod,I.ok.kind,I.ok.glob,I.ok.blt,?_,I.ok.inj,I.ok.has,fun x c a b=>?_,I.ok.hd,I.ok.frames,I.ok.stk,I.ok.exf,fun b o e=>?_,?_,I.ok.noex,I.ok.exfs,?_,I.ok.frf⟩,I.os,I.bare,?_,I.loc,I.cell,I.free,I.freeC,I.pin,I.hok,I.len⟩
 ·show(cF n X.s_0.heap).objs.size≤_
  rw[sz];exact Jx h1 I.ok.above
 ·show(cF n X.s_0.heap).objs.size≤_
  rw[sz];exact Jx h1 (I.ok.cab x c a b)
 ·have hb:b<n:=Jk (Heap.lt_size e) h2
  exact⟨(cE hb).trans (I.ok.bs b o e).1,(I.ok.bs b o e).2⟩
 ·show X.base.objs.size≤(cF n X.s_0.heap).objs.size
  rw[sz];exact h2
 ·exact gS h3 I.ok.funs
 ·have u:=I.base
  exact⟨fun b o e=>u.keep b o (eZ e).2,fun b o e=>u.slot b o (eZ e).2,fun b o e=>u.free b o (eZ e).2,fun b o e=>u.there b o (eZ e).2,u.tups,u.frzs,u.tbls⟩
theorem qY{names:List (Str×NameKind)}(h:∀y∈names,y.2≠ .cell):∀n acc,cellsFrom n names acc=acc:=by
 induction names with
 |nil=>intro n acc;rfl
 |cons y ys ih=>
  intro n acc
  have h1:=h y Jf
  obtain⟨a,b⟩:=y
  cases b with
  |cell=>exact absurd rfl h1
  |_=>exact ih (fun z hz=>h z (Je _ hz)) n acc
end
def zF(D:Addr)(gt:TG)(te:TE)(vs:List Nat):qa:=fun x σ H N=>gt x (wipe σ vs) H fun σ2 H2=>wipe σ2 vs=wipe σ vs∧te σ2 H2 fun y H4=>∃acc,H4 D=some (.lst acc)∧acc.length<sizeLine∧N (wipe σ vs) (upd H4 D (.lst (acc++[y])))
def DI(Ng:List Str)(t:qa→oA)(gt:TG)(te:TE)(vs:List Nat):TE:=fun σ H Q=>∀D,H D=none→t (zF D gt te vs) { nx:=fun _ _ _ H'=>Q (.ref D) H',rt:=fun _ _ v H'=>v= .non∧Q (.ref D) H'} 0 (wipe σ vs) (start Ng []) (upd H D (.lst []))
theorem ub(σ:L2.St):∀vs:List Nat,wipe (wipe σ vs) vs=wipe σ vs:=by
 intro vs
 apply List.ext_getElem?
 intro i
 have hl:(wipe (wipe σ vs) vs).length=(wipe σ vs).length:=by rw[wipe_length,wipe_length]
 have key:∀ (τ:L2.St) (ws:List Nat) (i:Nat),i∉ws→(wipe τ ws)[i]? =τ[i]? :=fun τ ws i h=>wipe_out h
 by_cases h:i∈vs
 ·have e:∀ (τ:L2.St) (ws:List Nat),i∈ws→i<τ.length→(wipe τ ws)[i]? =some none:=by
   intro τ ws
   induction ws with
   |nil=>intro h;cases h
   |cons v ws ih=>
    intro h hi
    unfold wipe
    by_cases z:v=i
    ·subst z
     rw[JH (by rw[wipe_length];exact hi)]
    ·rw[JE z]
     exact ih ((Jj.mp h).resolve_left fun q=>z q.symm) hi
  by_cases hi:i<σ.length
  ·rw[e σ vs h hi,e (wipe σ vs) vs h (by rw[wipe_length];exact hi)]
  ·rw[List.getElem?_eq_none (by rw[wipe_length,wipe_length];omega),List.getElem?_eq_none (by rw[wipe_length];omega)]
 ·rw[key _ _ _ h]
end Ev
namespace Ev
open PySem L2 PyProof.Rows LamX He
def tQ(n0:Nat)(vs:List Nat)(t:Tg)(f:ME):EG:=fun d ec S=>match aV t d (aF vs ec) with
 |none=>.bad
 |some e1=>match f e1 S with
  | .ok y S1=>match S1[n0]? with
   |some (.lst acc)=>if acc.length<16777216 then .nx (aF vs ec) (S1.set n0 (.lst (acc++[y.d]))) else .bad
   |_=>.bad
  |_=>.bad
def rQ(nn:Nat)(bF:MGF)(vs:List Nat)(t:Tg)(f:ME):ME:=fun env S=>match bF (tQ S.length vs t f) 0 (aF vs env) (List.replicate nn none) (S++[.lst []]) with
 | .nx _ _ _ S2=>.ok (.val (.ref S.length)) S2
 |_=>.bad
section
variable {Γ:Gm}{X:Cx}{W:WX}{pos:Pos}{k m:Nat}
theorem FT{nn:Nat}{Ng:List Str}{bF:MGF}{vs:List Nat}{t:Tg}{f:ME}{σ:L2.St}{H:Hp}{Q:VK}(hN:Ng.length=nn)(hs:∀j∈t.slots,j∈vs)(h:ay Γ W (rQ nn bF vs t f) σ H Q):DI Ng (gT Γ bF) (iW Γ t) (ay Γ WF f) vs σ H Q:=by
 obtain⟨env,S,μ,a,h⟩:=h
 intro P hP
 unfold rQ at h
 have x1:Ext Γ μ H (μ.add P) (upd H P (.lst [])):=Ext.alloc hP _
 have s1:Sim Γ (μ.add P) (upd H P (.lst [])) (S++[.lst []]):=a.sim.alloc hP _ (ob:=.lst []) ⟨[],upd_same,.nil⟩
 have hPn:(μ.add P).st[S.length]? =some P:=by
  show(μ.st++[P])[S.length]? =_
  rw[← a.sim.len];simp
 refine⟨⟨fun _ _=>False,fun _ _=>False,fun _ _=>False,fun _ _=>False⟩,tQ S.length vs t f,aF vs env,List.replicate nn none,S++[.lst []],μ.add P,?_,(a.env.ext x1).wipe vs,⟨⟨?_,fun i d e=>?_⟩,s1,x1.tabs a.tabs⟩,?_⟩
 ·
  intro x d σc ec S' μ' H' N xe rc s tb rx g
  have hPn':μ'.st[S.length]? =some P:=xe.at hPn
  unfold tQ at g
  split at g
  ·exact False.elim g
  ·rename_i e1 he1
   refine⟨aF vs ec,μ',d,e1,rc.wipe vs,rx,he1,fun σ2 h2 b2=>⟨fQ hs b2,?_⟩⟩
   refine⟨e1,S',μ',⟨h2,s,tb⟩,?_⟩
   revert g
   cases hf:f e1 S' with
   |ok y S1=>
    intro g y' H2 μ2 x2 rv
    obtain⟨s2,ry⟩:=rv.sim
    have g:(match S1[S.length]? with|some (.lst acc)=>if acc.length<16777216 then RS.nx (aF vs ec) (S1.set S.length (.lst (acc++[y.d]))) else .bad|_=>.bad:RS).sat (b0 Γ W0 _ μ' H'):=g
    split at g
    ·rename_i acc hS
     split at g
     ·rename_i hl
      have hP2:μ2.st[S.length]? =some P:=x2.at hPn'
      obtain⟨accv,hv,ra⟩:=s2.ats _ P _ hP2 hS
      obtain⟨xw,sw⟩:=eK s2 hP2 hS (ra.append (.cons ry .nil))
      refine⟨accv,hv,by rw[sizeLine_eq,ra.length];exact hl,?_⟩
      exact g (wipe σc vs) _ μ2 (x2.trans xw) ⟨((rc.ext x2).ext xw).wipe vs,sw,(x2.trans xw).tabs tb⟩
     ·exact False.elim g
    ·exact False.elim g
   |ex x S1=>intro g;exact False.elim g
   |bad=>intro g;exact False.elim g
 ·unfold L2.start
  simp[hN]
 ·rw[List.getElem?_replicate] at e
  split at e<;>cases e
 ·revert h
  generalize bF (tQ S.length vs t f) 0 (aF vs env) (List.replicate nn none) (S++[.lst []])=p
  intro h
  cases p with
  |nx j ec e S2=>exact fun σc' σ' H' μ' x rc a'=>h _ H' μ' (x1.trans x) ⟨a'.sim,.ref (x.at hPn)⟩
  |brk j ec e S2=>exact False.elim h
  |cnt j ec e S2=>exact False.elim h
  |out r=>exact False.elim h
  |bad=>exact False.elim h
end
def fb(f:ME):ME:=fun env S=>match f env S with
 | .ok (.val (.ref n)) S'=>match S'[n]? with
  |some (.lst ys)=>if decide (S.length≤n)&&bT S.length ys&&((S'.take S.length).all fun o=>o.free||o.low S.length) then .ok (.new (.lst ys)) (S'.take S.length) else .bad
  |_=>.bad
 | .ok _ _=>.bad
 |r=>r
theorem Fp{l:List Addr}(h:l.Nodup):∀ {i j:Nat} {a:Addr},l[i]? =some a→l[j]? =some a→i=j:=by
 induction l with
 |nil=>intro i j a h1 _;simp at h1
 |cons b l ih=>
  intro i j a h1 h2
  obtain⟨hb,hl⟩:=List.nodup_cons.mp h
  cases i with
  |zero=>
   cases j with
   |zero=>rfl
   |succ j=>
    rw[JT] at h1
    rw[JS] at h2
    rw[Jq h1] at hb
    exact absurd (Js h2) hb
  |succ i=>
   cases j with
   |zero=>
    rw[JT] at h2
    rw[JS] at h1
    rw[Jq h2] at hb
    exact absurd (Js h1) hb
   |succ j=>
    rw[JS] at h1 h2
    rw[ih hl h1 h2]
section
variable {Γ:Gm}{X:Cx}{W:WX}
theorem Dg{H H':Hp}{S S':a0}{μ μ':Mu}{n:Nat}{v:V}{ys:List D}(s0:Sim Γ μ H S)(x:Ext Γ μ H μ' H')(s':Sim Γ μ' H' S')(rv:Rep Γ H' μ' v (.ref n))(hS:S'[n]? =some (.lst ys))(hn:S.length≤n)(hy:bT S.length ys=true)(hl:((S'.take S.length).all fun o=>o.free||o.low S.length)=true):
  Ext Γ μ H μ H'∧gn Γ H μ H' (S'.take S.length) v (.new (.lst ys)):=by
 obtain⟨q,hq⟩:=x.pre
 have e0:μ'.st.take S.length=μ.st:=by rw[hq, ← s0.len,List.take_left]
 have xe:Ext Γ μ H μ H':=⟨⟨[],by simp⟩,rfl,x.keep,x.here,fun b h1 h2=>absurd h1 h2,x.tbr⟩
 have hg:∀m a,m<S.length→μ'.st[m]? =some a→μ.st[m]? =some a:=fun m a hm h=>by
  rw[← e0,List.getElem?_take,if_pos hm];exact h
 have hlen:S.length≤S'.length:=by
  have h1:=s'.len
  rw[hq,JF,s0.len] at h1
  omega
 have ok:∀b,(∃o,H' b=some o)→μ'.no b→μ.no b:=fun b _ h=>⟨fun z=>h.1 (by rw[hq];exact JN _ z),by rw[← x.hid];exact h.2⟩
 cases rv with
 |ref ha=>
  rename_i a
  have ham:a∈μ'.st:=Js ha
  have nos:a∉μ.st:=fun z=>by
   obtain⟨j,hj,e⟩:=List.getElem_of_mem z
   have h1:μ'.st[j]? =some a:=by rw[hq,Jp hj,Jo hj,e]
   have:=Fp s'.nd h1 ha
   rw[s0.len] at hj
   omega
  have no:μ.no a:=⟨nos,fun z=>s'.apart a ham (by rw[x.hid];exact z)⟩
  have ok2:∀b,(∃o,H' b=some o)→μ'.no b→(μ.add a).no b:=fun b _ h=>⟨fun z=>by
   rcases Jv.mp z with z|z
   ·exact h.1 (by rw[hq];exact JN _ z)
   ·exact h.1 (by rw[Jg.mp z];exact ham),by
   show b∉μ.hd
   rw[← x.hid];exact h.2⟩
  have hg2:∀m c,m<S.length→μ'.st[m]? =some c→(μ.add a).st[m]? =some c:=fun m c hm h=>by
   show(μ.st++[a])[m]? =_
   rw[Jp (by rw[s0.len];exact hm)]
   exact hg m c hm h
  have Ho:=s'.ats n a _ ha hS
  have hyl:(Ob.lst ys).low S.length=true:=hy
  have below:∀ {j b ob},μ.st[j]? =some b→(S'.take S.length)[j]? =some ob→j<S.length∧cy Γ H' μ' b ob∧(ob.free||ob.low S.length)=true:=fun {j b ob} h1 h2=>by
   have hj:j<S.length:=by
    have:=(Jl.mp h1).1
    rw[s0.len] at this;exact this
   have hob:=Jz.mp hl ob (Js h2)
   rw[List.getElem?_take,if_pos hj] at h2
   have h1':μ'.st[j]? =some b:=by rw[hq,Jp (by rw[s0.len];exact hj)];exact h1
   exact⟨hj,s'.ats j b ob h1' h2,hob⟩
  refine⟨xe,a,rfl,x.new a ham nos,no,⟨by rw[List.length_take,s0.len];omega,s0.nd,fun j b ob h1 h2=>?_,s0.apart,fun b hb=>(s0.hth b hb).elim fun o h=>x.here b o h⟩,?_,⟨?_,?_,fun j b ob h1 h2=>?_,fun b hb=>?_,fun b hb=>(s0.hth b hb).elim fun o h=>x.here b o h⟩⟩
  ·obtain⟨_,k,f⟩:=below h1 h2
   rcases Bool.or_eq_true_iff.mp f with f|f
   ·exact k.view ok f
   ·exact k.lows ok hg f
  ·obtain⟨vs,h1,h2⟩:=Ho.lows ok hg hyl
   exact .lst ⟨h1,no⟩ h2
  ·show(μ.st++[a]).length=_
   rw[JF,JF,List.length_take,s0.len]
   simp only[JK,List.length_nil]
   omega
  ·refine List.nodup_append.mpr ⟨s0.nd,by simp,fun b hb c hc e=>?_⟩
   rw[Jg.mp hc] at e
   exact nos (e▸hb)
  ·have h1:(μ.st++[a])[j]? =some b:=h1
   by_cases hj:j<μ.st.length
   ·rw[Jp hj] at h1
    rw[Jp (by rw[List.length_take];rw[s0.len] at hj;omega)] at h2
    obtain⟨_,k,f⟩:=below h1 h2
    rcases Bool.or_eq_true_iff.mp f with f|f
    ·exact k.view ok2 f
    ·exact k.lows ok2 hg2 f
   ·have hj1:=(Jl.mp h1).1
    rw[JF] at hj1
    have ej:j=μ.st.length:=by simp only[JK,List.length_nil] at hj1;omega
    subst ej
    rw[JM (JD _),Nat.sub_self] at h1
    rw[JM (by rw[List.length_take,s0.len];omega)] at h2
    have ez:μ.st.length- (S'.take S.length).length=0:=by rw[List.length_take,s0.len];omega
    rw[ez] at h2
    simp only[JT,Option.some.injEq] at h1 h2
    subst h1;subst h2
    exact Ho.lows ok2 hg2 hyl
  ·rcases Jv.mp hb with z|z
   ·exact s0.apart b z
   ·rw[Jg.mp z];exact no.2
theorem wu{f:ME}{σ:L2.St}{H:Hp}{Q:VK}(h:ay Γ W (fb f) σ H Q):ay Γ W f σ H Q:=by
 obtain⟨env,S,μ,a,h⟩:=h
 refine⟨env,S,μ,a,?_⟩
 unfold fb at h
 revert h
 cases hf:f env S with
 |ok r S'=>
  intro h
  cases r with
  |new o=>exact False.elim h
  |val d=>
   cases d with
   |ref n=>
    simp only at h
    split at h
    ·rename_i ys hS
     split at h
     ·rename_i hb
      simp only[Jy,JB] at hb
      obtain⟨⟨hn,hy⟩,hl⟩:=hb
      intro v H' μ' x rv
      obtain⟨s',rv⟩:=rv
      obtain⟨xe,rn⟩:=Dg a.sim x s' rv hS hn hy hl
      exact h v H' μ xe rn
     ·exact False.elim h
    ·exact False.elim h
   |_=>exact False.elim h
 |ex x S'=>intro h;exact h
 |bad=>intro h;exact False.elim h
theorem H9{e:Expr}{f:ME}(h:PE X e (ay Γ W f)):PE X e (ay Γ W (fb f)):=h.weak fun _ _ _ q=>wu q
end
def vg(n0:Nat)(t:Tg)(c:MT)(f:ME):List D→aq→a0→R Unit
 | [],_,S=>.ok () S
 |d::ds,env,S=>match aV t d env with
  |none=>.bad
  |some e1=>(c e1 S).bind fun b S1=>if b then(f e1 S1).bind fun y S2=>match S2[n0]? with
    |some (.lst acc)=>if acc.length<16777216 then vg n0 t c f ds env (S2.set n0 (.lst (acc++[y.d]))) else .bad
    |_=>.bad
   else vg n0 t c f ds env S1
def gy(n0:Nat)(vs1:List Nat)(t:Tg)(c:MT)(it1:MI)(t1:Tg)(c1:MT)(f:ME):List D→aq→a0→R Unit
 | [],_,S=>.ok () S
 |d::ds,env,S=>match aV t d env with
  |none=>.bad
  |some e1=>(c e1 S).bind fun b S1=>if b then(it1 e1 S1).bind fun src S2=>match src with
    | .st ds1=>(vg n0 t1 c1 f ds1 (aF vs1 e1) S2).bind fun _ S3=>gy n0 vs1 t c it1 t1 c1 f ds env S3
    | .rf _=>.bad
   else gy n0 vs1 t c it1 t1 c1 f ds env S1
def nN(vs vs1:List Nat)(t:Tg)(it:MI)(c:MT)(it1:MI)(t1:Tg)(c1:MT)(f:ME):ME:=fun env S=>(it env S).bind fun src S1=>match src with
 | .st ds=>(fW (gy S1.length vs1 t c it1 t1 c1 f ds (aF vs env) (S1++[.lst []]))).bind fun _ S2=>.ok (.val (.ref S1.length)) S2
 | .rf _=>.bad
section
variable {Γ:Gm}{X:Cx}{W:WX}{pos:Pos}
theorem Dr{vs vs1:List Nat}{t t1:Tg}{it it1:MI}{c c1:MT}{f:ME}{σ:L2.St}{H:Hp}{Q:VK}(hs:∀j∈t.slots,j∈vs)(hs1:∀j∈t1.slots,j∈vs1)(h:ay Γ W (nN vs vs1 t it c it1 t1 c1 f) σ H Q):
  tLc2 (ky Γ W it) (iW Γ t) (gG Γ WF c) (ky Γ WF it1) (iW Γ t1) (gG Γ WF c1) (ay Γ WF f) vs vs1 σ H Q:=by
 obtain⟨env,S,μ,a,h⟩:=h
 unfold nN at h
 rw[R.sat_bind] at h
 refine⟨env,S,μ,a,R.sat_imp h (fun src S1 q=>?_) fun x S' q=>q⟩
 intro J H1 μ1 x1 s1 fd P hP
 cases src with
 |rf n=>exact False.elim q
 |st ds=>
  have a1:=a.next x1 s1
  have x2:Ext Γ μ1 H1 (μ1.add P) (upd H1 P (.lst [])):=Ext.alloc hP _
  have s2:Sim Γ (μ1.add P) (upd H1 P (.lst [])) (S1++[.lst []]):=s1.alloc hP _ (ob:=.lst []) ⟨[],upd_same,.nil⟩
  have hPn:(μ1.add P).st[S1.length]? =some P:=by
   show(μ1.st++[P])[S1.length]? =_
   rw[← s1.len];simp
  have a2:At Γ (wipe σ vs) (upd H1 P (.lst [])) (aF vs env) (S1++[.lst []]) (μ1.add P):=⟨(a1.env.ext x2).wipe vs,s2,x2.tabs a1.tabs⟩
  have q:((fW (gy S1.length vs1 t c it1 t1 c1 f ds (aF vs env) (S1++[.lst []]))).bind fun _ S2=>R.ok (.val (.ref S1.length)) S2).sat (aU Γ μ H Q) (dw Γ W σ μ H):=q
  rw[R.sat_bind] at q
  have q:=R.sat_noEx (E':=fun _ _=>False) q
  generalize hn0:S1.length=n0 at q hPn
  obtain⟨GG,Y,w,hG,hY⟩:=fd
  have fin:∀ {μ' H' S'},Ext Γ μ1 H1 μ' H'→Sim Γ μ' H' S'→μ'.st[n0]? =some P→aU Γ μ H Q (.val (.ref n0)) S'→Q (.ref P) H':=fun {μ' H' S'} x s hp g=>g _ H' μ' (x1.trans x) ⟨s,.ref hp⟩
  refine⟨fun i m H'=>m=ds.length-i∧i≤ds.length∧∃μ' S',Ext Γ (μ1.add P) (upd H1 P (.lst [])) μ' H'∧At Γ (wipe σ vs) H' (aF vs env) S' μ'∧(gy n0 vs1 t c it1 t1 c1 f (ds.drop i) (aF vs env) S').sat (fun _ S2=>aU Γ μ H Q (.val (.ref n0)) S2) (fun _ _=>False),
   ⟨ds.length,by simp,Nat.zero_le _,μ1.add P,_,.refl,a2,q⟩,?_⟩
  rintro i m H' ⟨rfl,hi,μ',S',x',a',q'⟩
  have x1':=x2.trans x'
  have gh:=hG μ' H' (.inl x1')
  by_cases hlt:i<ds.length
  ·refine .inr ⟨w.goes i H' hlt gh,fun H2=>∃μ' S',Ext Γ (μ1.add P) (upd H1 P (.lst [])) μ' H2∧At Γ (wipe σ vs) H2 (aF vs env) S' μ'∧(gy n0 vs1 t c it1 t1 c1 f (ds.drop (i+1)) (aF vs env) S').sat (fun _ S2=>aU Γ μ H Q (.val (.ref n0)) S2) (fun _ _=>False),
    fun H2 z=>⟨ds.length- (i+1),by omega,rfl,hlt,z⟩,fun x H2 y=>?_⟩
   obtain⟨d,hd,hst,hr⟩:=hY μ' H' S' i x H2 (.inl x1') a'.sim hlt (w.yields i H' x H2 hlt gh y)
   have ed:ds.drop i=d::ds.drop (i+1):=by
    obtain⟨h1,h2⟩:=Jl.mp hd
    rw[List.drop_eq_getElem_cons h1,h2]
   rw[ed] at q'
   simp only[gy] at q'
   split at q'
   ·exact False.elim q'
   ·rename_i e1 he1
    have y2:=hst.ext (Γ:=Γ) (μ:=μ')
    have b2:=a'.next y2 (hst.sim a'.sim)
    refine⟨aF vs env,μ',d,e1,b2.env,hr,he1,fun σ2 h2 sb=>⟨fQ hs sb,?_⟩⟩
    have c2:At Γ σ2 H2 e1 S' μ':=⟨h2,b2.sim,b2.tabs⟩
    rw[R.sat_bind] at q'
    refine ew c2 (eB q') fun b S3 H3 μ3 x3 s3 q3=>?_
    have z3:=(x'.trans y2).trans x3
    cases b with
    |false=>
     rw[if_neg (by decide)] at q3 ⊢
     exact⟨μ3,S3,z3,b2.next x3 s3,q3⟩
    |true=>
     rw[if_pos rfl] at q3 ⊢
     rw[R.sat_bind] at q3
     refine⟨e1,S3,μ3,c2.next x3 s3,R.sat_imp (eB (σ:=σ2) (μ:=μ3) (H:=H3) q3) (fun src S4 q4=>?_) fun x S' q=>q⟩
     intro J1 H4 μ4 x4 s4 fd4
     cases src with
     |rf n=>exact False.elim q4
     |st ds1=>
      have q4:((vg n0 t1 c1 f ds1 (aF vs1 e1) S4).bind fun _ S5=>gy n0 vs1 t c it1 t1 c1 f (ds.drop (i+1)) (aF vs env) S5).sat (fun _ S2=>aU Γ μ H Q (.val (.ref n0)) S2) (fun _ _=>False):=q4
      rw[R.sat_bind] at q4
      have z4:=z3.trans x4
      have o4:=(b2.next x3 s3).next x4 s4
      have i4:At Γ (wipe σ2 vs1) H4 (aF vs1 e1) S4 μ4:=⟨((h2.ext x3).ext x4).wipe vs1,s4,o4.tabs⟩
      obtain⟨G1,Y1,w1,hG1,hY1⟩:=fd4
      refine⟨fun j k H'=>k=ds1.length-j∧j≤ds1.length∧∃μ' S',Ext Γ μ4 H4 μ' H'∧At Γ (wipe σ2 vs1) H' (aF vs1 e1) S' μ'∧(vg n0 t1 c1 f (ds1.drop j) (aF vs1 e1) S').sat (fun _ S5=>(gy n0 vs1 t c it1 t1 c1 f (ds.drop (i+1)) (aF vs env) S5).sat (fun _ S2=>aU Γ μ H Q (.val (.ref n0)) S2) (fun _ _=>False)) (fun _ _=>False),
       ⟨ds1.length,by simp,Nat.zero_le _,μ4,S4,.refl,i4,q4⟩,?_⟩
      rintro j k H5 ⟨rfl,hj,μ5,S5,x5,a5,q5⟩
      have gh5:=hG1 μ5 H5 (.inl x5)
      by_cases hlt5:j<ds1.length
      ·refine .inr ⟨w1.goes j H5 hlt5 gh5,fun H2=>∃μ' S',Ext Γ μ4 H4 μ' H2∧At Γ (wipe σ2 vs1) H2 (aF vs1 e1) S' μ'∧(vg n0 t1 c1 f (ds1.drop (j+1)) (aF vs1 e1) S').sat (fun _ S5=>(gy n0 vs1 t c it1 t1 c1 f (ds.drop (i+1)) (aF vs env) S5).sat (fun _ S2=>aU Γ μ H Q (.val (.ref n0)) S2) (fun _ _=>False)) (fun _ _=>False),
        fun H2 z=>⟨ds1.length- (j+1),by omega,rfl,hlt5,z⟩,fun x H6 y=>?_⟩
       obtain⟨d6,hd6,hst6,hr6⟩:=hY1 μ5 H5 S5 j x H6 (.inl x5) a5.sim hlt5 (w1.yields j H5 x H6 hlt5 gh5 y)
       have ed6:ds1.drop j=d6::ds1.drop (j+1):=by
        obtain⟨h1,h2⟩:=Jl.mp hd6
        rw[List.drop_eq_getElem_cons h1,h2]
       rw[ed6] at q5
       simp only[vg] at q5
       split at q5
       ·exact False.elim q5
       ·rename_i e6 he6
        have y6:=hst6.ext (Γ:=Γ) (μ:=μ5)
        have b6:=a5.next y6 (hst6.sim a5.sim)
        refine⟨aF vs1 e1,μ5,d6,e6,b6.env,hr6,he6,fun σ6 h6 sb6=>⟨fQ hs1 sb6,?_⟩⟩
        have c6:At Γ σ6 H6 e6 S5 μ5:=⟨h6,b6.sim,b6.tabs⟩
        rw[R.sat_bind] at q5
        refine ew c6 (eB q5) fun b S7 H7 μ7 x7 s7 q7=>?_
        have z7:=(x5.trans y6).trans x7
        cases b with
        |false=>
         rw[if_neg (by decide)] at q7 ⊢
         exact⟨μ7,S7,z7,b6.next x7 s7,q7⟩
        |true=>
         rw[if_pos rfl] at q7 ⊢
         rw[R.sat_bind] at q7
         refine aW (c6.next x7 s7) (eB q7) fun r S8 v H8 μ8 x8 rv q8=>?_
         obtain⟨s8,r8⟩:=rv.sim
         have z8:=z7.trans x8
         have hP8:μ8.st[n0]? =some P:=(z4.trans z8).at hPn
         split at q8
         ·rename_i acc hS8
          split at q8
          ·rename_i hl
           obtain⟨accv,hv,ra⟩:=s8.ats _ P _ hP8 hS8
           obtain⟨xw,sw⟩:=eK s8 hP8 hS8 (ra.append (.cons r8 .nil))
           exact⟨accv,hv,by rw[sizeLine_eq,ra.length];exact hl,μ8,_,z8.trans xw,((b6.next x7 s7).next x8 s8).next xw sw,q8⟩
          ·exact False.elim q8
         ·exact False.elim q8
      ·have e:j=ds1.length:=by omega
       subst e
       rw[List.drop_length] at q5
       exact .inl ⟨w1.stops H5 gh5,μ5,S5,z4.trans x5,o4.next x5 a5.sim,q5⟩
  ·have e:i=ds.length:=by omega
   subst e
   rw[List.drop_length] at q'
   exact .inl ⟨w.stops H' gh,fin x1' a'.sim (x'.at hPn) q'⟩
end
section
variable {Γ:Gm}{X:Cx}{W:WX}{pos:Pos}{m:Nat}
theorem xE(q:Cq Γ X W m)(own:List (Str×Nat))(vs1:List Nat){mt:Bool}{i:Nat}{y:Str}{py:Pos}{elt tg iter tg1 iter1:Expr}{ifs ifs1:List Expr}{scope:Scope}{spos:Pos}{t t1:Tg}{it it1:MI}{c c1:MT}{f:ME}
  (hi:PI X tg iter (ky Γ W it)) (hg:∀ (s:Shared) (H:Hp) (C:Addr) (cl:List (Str×Addr)) (fp:List Addr),PG (X.blk s H scope (compEnvC scope cl C X.env) fp) tg (iW Γ t))
  (ht:∀ (s:Shared) (H:Hp) (C:Addr) (cl:List (Str×Addr)) (fp:List Addr),Cq Γ (X.blk s H scope (compEnvC scope cl C X.env) fp) WF m→PTs (X.blk s H scope (compEnvC scope cl C X.env) fp) ifs (gG Γ WF c))
  (hi1:∀ (s:Shared) (H:Hp) (C:Addr) (cl:List (Str×Addr)) (fp:List Addr),Cq Γ (X.blk s H scope (compEnvC scope cl C X.env) fp) WF m→PI (X.blk s H scope (compEnvC scope cl C X.env) fp) tg1 iter1 (ky Γ WF it1))
  (hg1:∀ (s:Shared) (H:Hp) (C:Addr) (cl:List (Str×Addr)) (fp:List Addr),PG (X.blk s H scope (compEnvC scope cl C X.env) fp) tg1 (iW Γ t1))
  (ht1:∀ (s:Shared) (H:Hp) (C:Addr) (cl:List (Str×Addr)) (fp:List Addr),Cq Γ (X.blk s H scope (compEnvC scope cl C X.env) fp) WF m→PTs (X.blk s H scope (compEnvC scope cl C X.env) fp) ifs1 (gG Γ WF c1))
  (he:∀ (s:Shared) (H:Hp) (C:Addr) (cl:List (Str×Addr)) (fp:List Addr),Cq Γ (X.blk s H scope (compEnvC scope cl C X.env) fp) WF m→PE (X.blk s H scope (compEnvC scope cl C X.env) fp) elt (ay Γ WF f))
  (hy:X.N[i]? =some y:=by rfl) (hyl:X.env.scope.names.lookup y=some .local:=by rfl)
  (hsw:swapsWith (.ListComp elt [⟨tg,iter,ifs,0⟩,⟨tg1,iter1,ifs1,0⟩] scope pos) (some (.Name y py)) spos.line X.env=pure true:=by rfl)
  (ok:blkC X.N X.env.scope scope own=true:=by rfl) (hv:(vs1.all fun i=>(own.map (·.2)).contains i)=true:=by rfl) (hs:(t.slots.all fun j=>(own.map (·.2)).contains j)=true:=by rfl) (hs1:(t1.slots.all fun j=>vs1.contains j)=true:=by rfl)
  (hf:∀x,foldedSetIterable iter X.env x=pure x:=by intro _;rfl) (hf1:∀env x,foldedSetIterable iter1 env x=pure x:=by intro _ _;rfl):
  PS X (.Assign [.Name y py] (.ListComp elt [⟨tg,iter,ifs,0⟩,⟨tg1,iter1,ifs1,0⟩] scope pos) spos) (dC Γ W (aM mt i (fb (nN (own.map (·.2)) vs1 t it c it1 t1 c1 f)))):=by
 have con:∀ {l l':List Nat},(l.all fun j=>l'.contains j)=true→∀j∈l,j∈l':=fun h j hj=>by simpa using Jz.mp h j hj
 refine(ps_setLc2 q.hc q.nd hy hyl hsw hi (blkOk_by ok) (con hv) hg (fun s H C cl fp=>ht s H C cl fp (q.blk s H scope _ fp)) (fun s H C cl fp=>hi1 s H C cl fp (q.blk s H scope _ fp)) hg1 (fun s H C cl fp=>ht1 s H C cl fp (q.blk s H scope _ fp)) (fun s H C cl fp=>he s H C cl fp (q.blk s H scope _ fp)) hf hf1).weak fun D σ H h=>?_
 refine Dr (W:=W) (con hs) (con hs1) (wu ?_)
 obtain⟨env,S,μ,a,h⟩:=h
 unfold aM at h
 rw[R.sat_then] at h
 refine aW a (R.sat_imp h (fun r S' q=>q) fun x S' q=>dh a q) fun r S' v H' μ' x rv g=>?_
 obtain⟨μ2,x2,s2,r2⟩:=eY (mt:=mt) x rv
 exact g _ H' μ2 x2 ⟨(a.env.ext x2).set i r2,s2,x2.tabs a.tabs⟩
end
end Ev
namespace Ev
open PySem PySem.Spec L2 PyProof.Rows LamX He
def EC(r:RS):RS:=match r with
 | .ex _ _ _=>.bad
 |r=>r
end Ev
namespace Ev.Gc
open PySem PySem.Spec L2 PyProof.Rows GenW
def xr(G:Gp)(H:Hp)(s:Shared):Cx:={ G.X with s_0:=cutS G.X.env.locals s,H_0:=H}
structure Ok(G:Gp)(pins:List (Addr×Obj)):Prop where
 fsn:∀b∈frs G.X.stack,b<G.n
 sub:∀b∈G.X.fs,b∈frs G.X.stack
 loc:G.n<G.X.env.locals
 kcp:∀p∈G.pn,p.1∉G.kc
 fr:G.A.frames=some G.X.stack
 hd:G.A.handled=none
 kind:G.scope.kind= .function
 nof:∀y∈G.scope.names,y.2≠ .free
 apart:∀x y c,G.env.cells.lookup x=some c→G.env.cells.lookup y=some c→x=y
 low:∀x c,G.env.cells.lookup x=some c→G.n<c∧c<G.X.env.locals
 ex0:G.X.ex=[]
 nofn:∀x,G.X.fn x=true→False
 cell:∀x c,G.X.env.cells.lookup x=some c→c<G.n
 pin:∀p∈G.X.pn++pins,p.1<G.n
 sz:G.X.s_0.heap.objs.size≤G.n
section
variable {G:Gp}{pins gp ip pp pp':List (Addr×Obj)}{σ σc σc':L2.St}{H H' Hw:Hp}{s s' sw:Shared}
theorem Ok.ok(O:Ok G pins)(I:L2.Inv G.X gp σc H s)(hn:G.n≤s.heap.objs.size):(G.cx H s).Ok:=by
 have bl:G.X.base.objs.size≤G.n:=Jx I.ok.bsz O.sz
 refine⟨I.ok.mod,O.kind,rfl,rfl,?_,fun x y c h1 h2=>O.apart x y c h1 h2,fun x hx=>?_,fun x c _ h=>?_,fun _=>O.hd,Around.frames_deeper O.fr,.inr ⟨rfl,rfl⟩,fun b hb=>absurd (show b∈([]:List Addr) from hb) (by simp),fun b o e=>?_,?_,fun b o _ hb=>absurd (show b∈([]:List Addr) from hb) (by simp),fun b hb=>absurd (show b∈([]:List Addr) from hb) (by simp),?_,I.stkFree⟩
 ·show(cF G.n s.heap).objs.size≤G.n
  rw[cw hn];exact JD _
 ·rcases hx with z|z
  ·exact cell_has z
  ·exact absurd rfl (O.nof _ (PySem.mem_of_lookup z))
 ·show(cF G.n s.heap).objs.size≤c
  rw[cw hn];exact JI (O.low x c h).1
 ·have hb:b<G.n:=Jk (Heap.lt_size e) bl
  exact⟨(cE hb).trans (I.bs b o e).1,(I.bs b o e).2⟩
 ·show G.X.base.objs.size≤(cF G.n s.heap).objs.size
  rw[cw hn];exact bl
 ·exact gS O.fsn I.stack
theorem xN{n:Nat}{fs ex:List Addr}{h:Heap}:Un fs ex H H (cF n h) h:=
 ⟨fun b o e _ _ _=>(eZ e).2,fun b o e _ _ _=>⟨o.slots,(eZ e).2⟩,fun b o _ h _=>h,fun b o e _=>⟨o,(eZ e).2⟩,fun _ _ h=>h,fun _ _ _ h=>h,fun b ps h=>⟨#[],by rw[show H b=some (HO.tbl ps) from h];simp⟩⟩
theorem Ok.anew(O:Ok G pins)(I:L2.Inv G.X pp σc H s):L2.Inv (xr G H s) pp σc H s:=by
 have hC:G.X.env.locals≤s.heap.objs.size:=JI I.lt
 have sz:(cF G.X.env.locals s.heap).objs.size=G.X.env.locals:=cw hC
 have bl:G.X.base.objs.size≤G.X.env.locals:=Jx I.ok.bsz I.ok.above
 refine⟨⟨I.ok.mod,I.ok.kind,I.ok.glob,I.ok.blt,?_,I.ok.inj,I.ok.has,fun x c a _=>(O.nofn x a).elim,I.ok.hd,I.ok.frames,I.ok.stk,I.ok.exf,fun b o e=>?_,?_,I.ok.noex,I.ok.exfs,?_,fun b hb=>?_⟩,rfl,I.bare,xN,I.loc,I.cell,I.free,I.freeC,I.pin,I.hok,I.len⟩
 ·show(cF G.X.env.locals s.heap).objs.size≤G.X.env.locals
  exact Nat.le_of_eq sz
 ·have hb:b<G.X.env.locals:=Jk (Heap.lt_size e) bl
  exact⟨(cE hb).trans (I.bs b o e).1,(I.bs b o e).2⟩
 ·show G.X.base.objs.size≤(cF G.X.env.locals s.heap).objs.size
  rw[sz];exact bl
 ·exact gS (fun b hb=>JO (O.fsn b (O.sub b hb)) O.loc) I.funs
 ·exact I.stkFree b (O.sub b hb)
theorem Ok.back0(O:Ok G pins)(J:L2.Inv G.X pp σc H s)(I:L2.Inv (xr G H s) pp' σc' H' s'):L2.Inv G.X pp' σc' H' s':=by
 have u:=J.base
 have v:Un G.X.fs G.X.ex H H' (cF G.X.env.locals s.heap) s'.heap:=I.base
 have szn:=O.sz
 have sm:∀ {b o},G.X.s_0.heap.get? b=some o→b<G.X.env.locals:=fun {b o} e=>Jk (Heap.lt_size e) J.ok.above
 have up:∀ {b o},b<G.X.env.locals→s.heap.get? b=some o→(cF G.X.env.locals s.heap).get? b=some o:=fun {b o} hb e=>by rw[cE hb];exact e
 refine⟨J.ok,I.os.trans J.os,I.bare,⟨fun b o e h1 h2 h3=>?_,fun b o e h1 h2 h3=>?_,fun b o e h1 h3=>?_,fun b o e h3=>?_,fun b xs e=>v.tups b xs (u.tups b xs e),fun b o w e=>v.frzs b o w (u.frzs b o w e),fun b ps e=>?_⟩,I.loc,I.cell,I.free,I.freeC,I.pin,I.hok,I.len⟩
 ·exact v.keep b o (up (sm e) (u.keep b o e h1 h2 h3)) (u.free b o e h1 h3) h2 h3
 ·obtain⟨sl,e1⟩:=u.slot b o e h1 h2 h3
  obtain⟨sl2,e2⟩:=v.slot b _ (up (sm e) e1) (u.free b o e h1 h3) h2 h3
  exact⟨sl2,e2⟩
 ·obtain⟨o',e1⟩:=u.there b o e h3
  exact v.free b o' (up (sm e) e1) (u.free b o e h1 h3) h3
 ·obtain⟨o',e1⟩:=u.there b o e h3
  exact v.there b o' (up (sm e) e1) h3
 ·obtain⟨m1,e1⟩:=u.tbls b ps e
  obtain⟨m2,e2⟩:=v.tbls b _ e1
  exact⟨m1++m2,by rw[e2,Array.append_assoc]⟩
structure Asleep(G:Gp)(ip gp:List (Addr×Obj))(H:Hp)(s:Shared)(σ:L2.St):Prop where
 loc:∃ (oL:Obj) (es:Array DictEntry) (ep:Nat) (m:Str→Option Value),(G.n,oL)∈gp∧oL.data= .dict es ep∧StrKeys es∧(∀name,nsFind es name=m name)∧
  ∀ (i:Nat) (x:Str) (v:V),G.N[i]? =some x→σ[i]? =some (some v)→Vis G.scope x→∃u,L2.RelV v u∧Look G.env s.heap m x u
 cells:∀x c,G.env.cells.lookup x=some c→(∃v,s.heap.IsCell c v)∧H c=none
 pins:∀p∈G.pn++ip,p∈gp∧p.1≠G.n∧p.1∉frs G.X.stack∧∀v,p.2.data≠ .cell v
 len:σ.length=G.N.length
theorem Asleep.there(a:Asleep G ip gp Hw sw σ)(I:L2.Inv G.X (pins++gp) σc H s):G.n≤s.heap.objs.size:=by
 obtain⟨oL,_,_,_,h,_⟩:=a.loc
 exact JI (Heap.lt_size (I.pin (G.n,oL) (Ji _ (Ji _ h))).1)
theorem Ok.wake(O:Ok G pins)(J:L2.Inv G.X pp σc H s)(a:Asleep G ip gp H s σ)(I:L2.Inv (xr G H s) (pins++gp) σc' H' s'):L2.Inv (G.cx H' s') ip σ H' s':=by
 have I0:=O.back0 J I
 have hn:=a.there I0
 have v:Un G.X.fs G.X.ex H H' (cF G.X.env.locals s.heap) s'.heap:=I.base
 have stay:∀x c,G.env.cells.lookup x=some c→(∀w,s.heap.IsCell c w→s'.heap.IsCell c w)∧H' c=none:=fun x c h=>by
  obtain⟨l1,l2⟩:=O.low x c h
  obtain⟨⟨w0,o0,e0,d0⟩,hc⟩:=a.cells x c h
  have nx:c∉G.X.ex:=by rw[O.ex0];exact List.not_mem_nil
  have nf:c∉G.X.fs:=fun z=>JQ _ (JO (O.fsn c (O.sub c z)) l1)
  have up:∀ {o},s.heap.get? c=some o→(cF G.X.env.locals s.heap).get? c=some o:=fun {o} e=>by rw[cE l2];exact e
  exact⟨fun w ⟨o,e,d⟩=>⟨o,v.keep c o (up e) hc nf nx,d⟩,v.free c o0 (up e0) hc nx⟩
 obtain⟨oL,es,ep,m,h1,h2,h3,h4,h5⟩:=a.loc
 have pL:=I0.pin (G.n,oL) (Ji _ (Ji _ h1))
 refine⟨O.ok I0 hn,rfl,I.bare,xN,⟨m,⟨oL,es,ep,pL.1,h2,h3,h4⟩,fun i x v e1 e2 e3=>?_⟩,fun x c h=>?_,pL.2.1,fun x c h=>(stay x c h).2,fun p hp=>?_,I.hok,a.len⟩
 ·obtain⟨u,k1,k2⟩:=h5 i x v e1 e2 e3
  refine⟨u,k1,?_⟩
  rcases k2 with k2| ⟨k2,c,k3,k4⟩
  ·exact .inl k2
  ·exact .inr ⟨k2,c,k3,(stay x c k3).1 _ k4⟩
 ·obtain⟨⟨w,hw⟩,_⟩:=a.cells x c h
  exact⟨w,(stay x c h).1 w hw⟩
 ·have hp:p∈(G.pn++pinsAt G.kc s'.heap)++ip:=hp
  have old:p∈G.pn++ip→_:=fun hp=>by
   obtain⟨k1,k2,k3,k4⟩:=a.pins p hp
   have q:=I0.pin p (Ji _ (Ji _ k1))
   exact(⟨q.1,q.2.1,k2,k3,k4⟩:s'.heap.get? p.1=some p.2∧H' p.1=none∧p.1≠G.n∧p.1∉frs G.X.stack∧∀v,p.2.data≠ .cell v)
  rcases Jv.mp hp with z|z
  ·rcases Jv.mp z with z|z
   ·exact old (JN _ z)
   ·obtain⟨z1,z2⟩:=of_pinsAt z
    obtain⟨e1,e2⟩:=G.mem_kc z1
    obtain⟨m,⟨o,es,ep,y1,y2,_⟩,_⟩:=I0.loc
    refine⟨z2,by rw[e1];exact I0.free,by rw[e1];exact JA O.loc,e2,fun v w=>?_⟩
    rw[e1,y1] at z2
    rw[← Jq z2,y2] at w
    cases w
  ·exact old (Ji _ z)
theorem Ok.back(O:Ok G pins)(hn:G.n≤sw.heap.objs.size)(Iw:L2.Inv G.X pins σc Hw sw)(I:L2.Inv (G.cx Hw sw) ip σ H s):L2.Inv G.X pins σc H s:=by
 have mem:∀b o,b∉(List.range' G.n (sw.heap.objs.size-G.n)).filter (fun b=>decide (b∉G.kc))→sw.heap.get? b=some o→b<G.n∨b∈G.kc:=fun b o hb e=>by
  have hl:=Heap.lt_size e
  by_cases z:b<G.n
  ·exact .inl z
  ·by_cases k:b∈G.kc
   ·exact .inr k
   ·exact absurd (List.mem_filter.mpr ⟨List.mem_range'_1.mpr ⟨Nat.le_of_not_lt z,by rw[Nat.add_sub_cancel' hn];exact hl⟩,Ju k⟩) hb
 have kp:∀b o,b∈G.kc→sw.heap.get? b=some o→s.heap.get? b=some o∧H b=none:=fun b o hb e=>by
  have q:=I.pin (b,o) (JN _ (Ji _ (mem_pinsAt hb e)))
  exact⟨q.1,q.2.1⟩
 refine Iw.call' (ch:=(List.range' G.n (sw.heap.objs.size-G.n)).filter (fun b=>decide (b∉G.kc))) I.os ?_ I.hok I.bare fun b hb=>?_
 ·have u:=I.base
  have nx:∀c:Addr,c∉(G.cx Hw sw).ex:=fun c z=>nomatch (show c∈([]:List Addr) from z)
  have low:∀ {b o},b<G.n→sw.heap.get? b=some o→(cF G.n sw.heap).get? b=some o:=fun {b o} hl e=>by rw[cE hl];exact e
  refine⟨fun b o e h1 h2 h3=>?_,fun b o e h1 h2 h3=>?_,fun b o e h1 h3=>?_,fun b o e h3=>?_,u.tups,u.frzs,u.tbls⟩
  ·rcases mem b o h3 e with z|z
   ·exact u.keep b o (low z e) h1 h2 (nx b)
   ·exact(kp b o z e).1
  ·rcases mem b o h3 e with z|z
   ·exact u.slot b o (low z e) h1 h2 (nx b)
   ·exact⟨o.slots,(kp b o z e).1⟩
  ·rcases mem b o h3 e with z|z
   ·exact u.free b o (low z e) h1 (nx b)
   ·exact(kp b o z e).2
  ·rcases mem b o h3 e with z|z
   ·exact u.there b o (low z e) (nx b)
   ·exact⟨o,(kp b o z e).1⟩
 ·obtain⟨hb,nk⟩:=List.mem_filter.mp hb
  have nk:b∉G.kc:=JL nk
  have hb:=(List.mem_range'_1.mp hb).1
  refine⟨.inr (Jx O.sz hb),fun z=>?_,fun x c e z=>?_,fun p hp z=>?_⟩
  ·by_cases k:G.X.env.locals∈frs G.X.stack
   ·have:=O.fsn _ k;rw[← z] at this;exact JQ _ (Jk this hb)
   ·exact nk (by rw[z];exact G.kc_mem k)
  ·have:=O.cell x c e;rw[z] at this;exact JQ _ (Jk this hb)
  ·have:=O.pin p hp;rw[z] at this;exact JQ _ (Jk this hb)
theorem Ok.sleep(O:Ok G pins)(hn:G.n≤sw.heap.objs.size)(Iw:L2.Inv G.X pins σc Hw sw)(hip:∀p∈ip,p.1∉G.kc)(I:L2.Inv (G.cx Hw sw) ip σ H s):
  ∃gp,L2.Inv G.X (pins++gp) σc H s∧Asleep G ip gp H s σ∧∀p∈G.pn,p∈gp:=by
 have J:=O.back hn Iw I
 obtain⟨m,⟨oL,es,ep,h1,h2,h3,h4⟩,h5⟩:=I.loc
 have nofs:G.n∉frs G.X.stack:=fun z=>JQ _ (O.fsn G.n z)
 have nL:∀p∈G.pn++ip,p.1∉frs G.X.stack→p.1≠G.X.env.locals:=fun p hp h4 e=>by
  by_cases k:G.X.env.locals∈frs G.X.stack
  ·exact h4 (e▸k)
  ·have kk:p.1∈G.kc:=by rw[e];exact G.kc_mem k
   rcases Jv.mp hp with z|z
   ·exact O.kcp p z kk
   ·exact hip p z kk
 have inn:∀p∈G.pn++ip,p∈(G.cx Hw sw).pn++ip:=fun p hp=>by
  rcases Jv.mp hp with z|z
  ·exact JN _ (JN _ z)
  ·exact Ji _ z
 refine⟨(G.n,oL)::(G.pn++ip),J.pins_of fun p hp=>?_,⟨⟨oL,es,ep,m,Jf,h2,h3,h4,h5⟩,fun x c h=>⟨I.cell x c h,I.freeC x c h⟩,fun p hp=>?_,I.len⟩,fun p hp=>Je _ (JN _ hp)⟩
 ·rcases Jv.mp hp with z|z
  ·exact J.pin p (Ji _ z)
  ·rcases Jj.mp z with z|z
   ·rw[z]
    refine⟨h1,I.free,Jm O.loc,fun z=>nofs (O.sub _ z),fun v z=>?_⟩
    have z:oL.data= .cell v:=z
    rw[h2] at z;cases z
   ·obtain⟨k1,k2,k3,k4,k5⟩:=I.pin p (inn p z)
    exact⟨k1,k2,nL p z k4,fun e=>k4 (O.sub _ e),k5⟩
 ·obtain⟨k1,k2,k3,k4,k5⟩:=I.pin p (inn p hp)
  exact⟨Je _ hp,k3,k4,k5⟩
end
def yW(G:Gp)(pins ip:List (Addr×Obj))(σc σ:L2.St)(H:Hp)(s:Shared):Prop:=
 ∃Hw sw,L2.Inv G.X pins σc Hw sw∧(G.n≤sw.heap.objs.size∧∀p∈ip,p.1∉G.kc)∧L2.Inv (G.cx Hw sw) ip σ H s
def DX(G:Gp)(pins:List (Addr×Obj))(Yl:qa):Protocol:=fun n s₀ v s kap=>
 ∃x σc H gp N,L2.RelV x v∧L2.Inv G.X (pins++gp) σc H s∧(∀p∈G.pn,p∈gp)∧Yl x σc H N∧∀σc' H' s',L2.Inv (xr G H s) (pins++gp) σc' H' s'→N σc' H'→kap (.send .none) s'∧kap (.send (.bool true)) s'
def FG(G:Gp)(pins ip:List (Addr×Obj))(D:GEndsF)(j:Nat)(f:Flow)(s:Shared):Prop:=
 match f with
 | .next=>∃σc σ H,yW G pins ip σc σ H s∧D.nx j σc σ H
 | .brk=>∃σc σ H,yW G pins ip σc σ H s∧D.bk j σc σ H
 | .cont=>∃σc σ H,yW G pins ip σc σ H s∧D.ct j σc σ H
 | .ret u=>∃v σc σ H,yW G pins ip σc σ H s∧L2.RelV v u∧D.rt j σc v H
structure GCF(G:Gp)(A:Around)(c:Code)(fs:List Frame)(gd:Bool→Bool):Prop where
 over:A.over c fs=G.A.deeper G.env
 split:splitAtGen fs=none
 guard:fs.any Frame.guarded=false
 gd:gd false=false
structure GKF(G:Gp)(pins:List (Addr×Obj))(Yl:qa)(ip:List (Addr×Obj))(A:Around)(R:GenEnd)(c:Code)(fs:List Frame)(K:Flow→Sem PySem.Fin)(D:GEndsF):Prop where
 ok:∀ (n j:Nat) (s₀ s:Shared) (f:Flow),n+j=sizeLine→FG G pins ip D j f s→Seg (model G.X.prog G.X.w) A R (DX G pins Yl) n s₀ c (K f) fs s
structure GSF(G:Gp)(pins:List (Addr×Obj))(Yl:qa)(st:Stmt)(t:oA):Prop where
 run:∀ (A:Around) (ip:List (Addr×Obj)) (R:GenEnd) (n j:Nat) (s₀:Shared) (c:Code) (fs:List Frame) (K:Flow→Sem PySem.Fin) (J:Value→Sem PySem.Fin) (gd:Bool→Bool) (lv:List Value→List Value) (s:Shared) (σc σ:L2.St) (H:Hp) (D:GEndsF),
  GCF G A c fs gd→n+j=sizeLine→GKF G pins Yl ip A R c fs K D→yW G pins ip σc σ H s→t D j σc σ H→
  Seg (model G.X.prog G.X.w) A R (DX G pins Yl) n s₀ c ((exec st G.env).wrap K J gd lv) fs s
structure GSsF(G:Gp)(pins:List (Addr×Obj))(Yl:qa)(st:List Stmt)(t:oA):Prop where
 run:∀ (A:Around) (ip:List (Addr×Obj)) (R:GenEnd) (n j:Nat) (s₀:Shared) (c:Code) (fs:List Frame) (K:Flow→Sem PySem.Fin) (J:Value→Sem PySem.Fin) (gd:Bool→Bool) (lv:List Value→List Value) (s:Shared) (σc σ:L2.St) (H:Hp) (D:GEndsF),
  GCF G A c fs gd→n+j=sizeLine→GKF G pins Yl ip A R c fs K D→yW G pins ip σc σ H s→t D j σc σ H→
  Seg (model G.X.prog G.X.w) A R (DX G pins Yl) n s₀ c ((execs st G.env).wrap K J gd lv) fs s
section
variable {G:Gp}{pins:List (Addr×Obj)}{Yl:qa}{st:Stmt}{rest:List Stmt}
theorem AG{ip:List (Addr×Obj)}{σc:L2.St}{Hw:Hp}{sw s:Shared}{D:GEndsF}{j:Nat}{f:Flow}(Iw:L2.Inv G.X pins σc Hw sw)(hn:G.n≤sw.heap.objs.size∧∀p∈ip,p.1∉G.kc)(h:SP (G.cx Hw sw) ip (D.at j σc) f s):FG G pins ip D j f s:=by
 cases f with
 |next=>obtain⟨σ,H,I,q⟩:=h;exact⟨σc,σ,H,⟨Hw,sw,Iw,hn,I⟩,q⟩
 |brk=>obtain⟨σ,H,I,q⟩:=h;exact⟨σc,σ,H,⟨Hw,sw,Iw,hn,I⟩,q⟩
 |cont=>obtain⟨σ,H,I,q⟩:=h;exact⟨σc,σ,H,⟨Hw,sw,Iw,hn,I⟩,q⟩
 |ret u=>obtain⟨v,σ,H,I,r1,q⟩:=h;exact⟨v,σc,σ,H,⟨Hw,sw,Iw,hn,I⟩,r1,q⟩
def AB(t:TS):oA:=fun D j σc σ H=>t (D.at j σc) σ H
theorem BU{t:TS}(h:∀H s,PS (G.cx H s) st t):GSF G pins Yl st (AB t):=by
 refine⟨fun A ip R n j s₀ c fs K J gd lv s σc σ H D g hn k hI ht=>?_⟩
 obtain⟨Hw,sw,Iw,hs,I⟩:=hI
 refine seg_wrap ?_
 rw[g.over]
 exact wpAny_mono ((h Hw sw).run ip s σ H (D.at j σc) I ht) (fun f s' hs'=>k.ok n j s₀ s' f hn (AG Iw hs hs')) fun x s' hx=>False.elim hx
def II:oA:=fun D j σc σ H=>D.nx j σc σ H
theorem yn:GSsF G pins Yl [] II:=by
 refine⟨fun A ip R n j s₀ c fs K J gd lv s σc σ H D g hn k hI ht=>?_⟩
 exact seg_execs_nil (k.ok n j s₀ s .next hn ⟨σc,σ,H,hI,ht⟩)
def zh(t u:oA):oA:=fun D j σc σ H=>t { D with nx:=fun j' σc' σ' H'=>u D j' σc' σ' H'} j σc σ H
theorem tG{t u:oA}(a:GSF G pins Yl st t)(b:GSsF G pins Yl rest u):GSsF G pins Yl (st::rest) (zh t u):=by
 refine⟨fun A ip R n j s₀ c fs K J gd lv s σc σ H D g hn k hI ht=>?_⟩
 refine seg_execs_cons ?_
 refine a.run A ip R n j s₀ c fs _ J gd lv s σc σ H { D with nx:=fun j' σc' σ' H'=>u D j' σc' σ' H'} g hn ⟨fun n' j' s₀' s' f hn' hs=>?_⟩ hI ht
 cases f with
 |next=>
  obtain⟨σc',σ',H',I',q⟩:=hs
  exact b.run A ip R n' j' s₀' c fs K J gd lv s' σc' σ' H' D g hn' k I' q
 |brk=>exact k.ok n' j' s₀' s' .brk hn' hs
 |cont=>exact k.ok n' j' s₀' s' .cont hn' hs
 |ret u=>exact k.ok n' j' s₀' s' (.ret u) hn' hs
theorem wN{A:Around}{c c':Code}{fs:List Frame}{gd:Bool→Bool}{k:Result→Sem PySem.Fin}{l kp:List Value}{p:Pos}(g:GCF G A c fs gd)(hw:c'.weight=0)(hu:c'.cUnits=0):
  GCF G A c' (.ret k none (gd false) l c p kp::fs) id where
 over:=(over_loop hw hu).trans g.over
 split:=by
  show(splitAtGen fs).map _=none
  rw[g.split];rfl
 guard:=by
  show(gd false||fs.any Frame.guarded)=false
  rw[g.gd,g.guard];rfl
 gd:=rfl
def wz(Yl:qa)(te:TE):oA:=fun D j σc σ H=>j<sizeLine∧te σ H fun x H1=>Yl x σc H1 fun σc' H'=>D.nx (j+1) σc' σ H'
theorem v8{e:Expr}{yp pos:Pos}{te:TE}(O:Ok G pins)(he:∀H s,PE (G.cx H s) e te)(hco:G.env.scope.isCoroutine=false:=by rfl)(hi:interactive G.env=false:=by rfl):GSF G pins Yl (.Expr (.Yield (some e) yp) pos) (wz Yl te):=by
 refine⟨fun A ip R n j s₀ c fs K J gd lv s σc σ H D g hn k hI ht=>?_⟩
 obtain⟨hlt,ht⟩:=ht
 obtain⟨n,rfl⟩:∃m,n=m+1:=⟨n-1,by omega⟩
 obtain⟨Hw,sw,Iw,hs,I⟩:=hI
 refine seg_Expr_Yield g.split g.gd g.guard ?_ hco hi
 rw[g.over]
 refine wpAny_mono ((he Hw sw).run _ s σ H _ I ht) (fun v s' hv=>?_) fun x s' hx=>False.elim hx
 obtain⟨x,H1,I1,rv,q⟩:=hv
 obtain⟨gp,Ix,as,pg⟩:=O.sleep hs.1 Iw hs.2 I1
 intro kap hk
 refine⟨x,σc,H1,gp,_,rv,Ix,pg,q,fun σc' H' s'' I'' q''=>?_⟩
 have sg:Seg (model G.X.prog G.X.w) A R (DX G pins Yl) n s'' c (K .next) fs s'':=
  k.ok n (j+1) s'' s'' .next (by omega) ⟨σc',σ,H',⟨H',s'',(O.back0 Ix I'').unpinned,⟨as.there (O.back0 Ix I''),hs.2⟩,O.wake Ix as I''⟩,q''⟩
 exact⟨hk .none s'' sg,hk (.bool true) s'' sg⟩
theorem Ad{ip:List (Addr×Obj)}{σc:L2.St}{H Hw Hw':Hp}{sw sw':Shared}{b:Addr}(Iw:L2.Inv G.X pins σc Hw sw)(hs:G.n≤sw.heap.objs.size)(hs':G.n≤sw'.heap.objs.size)(h:FpOk (G.cx Hw sw) ip H b):FpOk (G.cx Hw' sw') ip H b:=by
 obtain⟨f0,f1,f2,f3,f4,f5⟩:=h
 refine⟨f0,f1,f2,?_,f4,fun p hp=>?_⟩
 ·rcases f3 with z|z
  ·exact absurd (show b∈([]:List Addr) from z) (by simp)
  ·refine .inr ?_
   have z:(cF G.n sw.heap).objs.size≤b:=z
   show(cF G.n sw'.heap).objs.size≤b
   rw[cw hs']
   rw[cw hs] at z
   exact z
 ·have hp:p∈(G.pn++pinsAt G.kc sw'.heap)++ip:=hp
  rcases Jv.mp hp with z|z
  ·rcases Jv.mp z with z|z
   ·exact f5 p (JN _ (JN _ z))
   ·obtain⟨z1,_⟩:=of_pinsAt z
    obtain⟨o,ho⟩:=Gp.kc_there Iw z1
    exact f5 (p.1,o) (JN _ (Ji _ (mem_pinsAt z1 ho)))
  ·exact f5 p (Ji _ z)
theorem AF{ip:List (Addr×Obj)}{σc:L2.St}{H Hw:Hp}{sw:Shared}{b:Addr}(Iw:L2.Inv G.X pins σc Hw sw)(h:FpOk (G.cx Hw sw) ip H b):b∉G.kc:=fun hb=>by
 obtain⟨o,ho⟩:=Gp.kc_there Iw hb
 exact h.2.2.2.2.2 (b,o) (JN _ (Ji _ (mem_pinsAt hb ho))) rfl
def Ec(wi:TI)(gg:TG)(tb:oA):oA:=fun D j σc σ H=>wi σ H fun J H1=>∃W:Nat→Nat→Nat→L2.St→L2.St→Hp→Prop,(∃m,W 0 m j σc σ H1)∧∀i m j σc σ H,W i m j σc σ H→
 (J.stop i H∧D.nx j σc σ H)∨(J.go i H∧∃N:Nat→L2.St→L2.St→Hp→Prop,(∀j' σc' σ' H',N j' σc' σ' H'→∃m',m'<m∧W (i+1) m' j' σc' σ' H')∧∀x H',J.yld i H x H'→gg x σ H' fun σ2 H2=>tb { D with nx:=N,ct:=N,bk:=D.nx} j σc σ2 H2)
theorem Ax{tg iter:Expr}{body:List Stmt}{pos:Pos}{wi:TI}{gg:TG}{tb:oA}(hi:∀H s,PI (G.cx H s) tg iter wi)(hg:∀H s,PG (G.cx H s) tg gg)(hb:GSsF G pins Yl body tb)
  (hs:∀x,foldedSetIterable iter G.env x=pure x:=by intro _;rfl):GSF G pins Yl (.For tg iter body [] pos) (Ec wi gg tb):=by
 refine⟨fun A ip R n j s₀ c fs K J gd lv s σc σ H D g hn k hI ht=>?_⟩
 rw[arm_exec_For,Sem.bind_eq_wrap',Sem.wrap_wrap]
 refine seg_wrap (wpAny_standAt ?_)
 obtain⟨Hw,sw,Iw,hsw,I⟩:=hI
 show Seg _ A R _ n s₀ c ((eval iter G.env>>= fun x0=>foldedSetIterable iter G.env x0>>= fun x=>standAt iter.pos>>= fun _=>holding [x] (pyIter x)>>= fun itv=>runOwn (.forLoop tg itv body [] G.env) G.env).wrap K J gd lv) fs s
 rw[Sem.bind_eq_wrap',Sem.wrap_wrap]
 refine seg_wrap ?_
 rw[g.over]
 refine wpAny_mono ((hi Hw sw).run _ s σ H _ I ht) (fun x0 s1 h1=>?_) fun x s' hx=>False.elim hx
 rw[hs x0]
 show Seg _ A R _ n s₀ c ((standAt iter.pos>>= fun _=>holding [x0] (pyIter x0)>>= fun itv=>runOwn (.forLoop tg itv body [] G.env) G.env).wrap K J gd lv) fs s1
 rw[Sem.bind_eq_wrap',Sem.wrap_wrap]
 refine seg_wrap (wpAny_standAt ?_)
 rw[Sem.bind_eq_wrap',Sem.wrap_wrap]
 refine seg_wrap (wpAny_holding ?_)
 rw[g.over]
 refine wpAny_mono h1 (fun itv s2 h2=>?_) fun x s' hx=>False.elim hx
 obtain⟨it,fp,tn,J1,H2,e,I2,T,st2,f2,W,⟨m0,w0⟩,turn⟩:=h2
 subst e
 have stat:∀ {H':Hp} {Hw':Hp} {sw':Shared},G.n≤sw'.heap.objs.size→(∀b∈fp,H' b=none)→∀b∈fp,FpOk (G.cx Hw' sw') ip H' b:=fun hs' hn b hb=>
  Ad Iw hsw.1 hs' ⟨hn b hb,(f2 b hb).2⟩
 have nkc:∀h:Heap,∀p∈ip++pinsAt fp h,p.1∉G.kc:=fun h p hp=>by
  rcases Jv.mp hp with z|z
  ·exact hsw.2 p z
  ·exact AF Iw (f2 _ (of_pinsAt z).1)
 refine seg_call fun p=>?_
 have gl:=fun(kk:Result→Sem PySem.Fin)=>wN (k:=kk) (c':=.forLoop tg (.ref it) body [] G.env) (l:=lv []) (kp:=[]) (p:=p) g rfl rfl
 have loop:∀ (m n j:Nat) (s₀ s:Shared) (i:Nat) (σc σ:L2.St) (H:Hp),n+j=sizeLine→W i m j σc σ H→yW G pins ip σc σ H s→tn i s.heap→(∀b∈fp,H b=none)→
   Seg (model G.X.prog G.X.w) A R (DX G pins Yl) n s₀ (.forLoop tg (.ref it) body [] G.env) ((model G.X.prog G.X.w).den (.forLoop tg (.ref it) body [] G.env))
    (.ret (fun r=>((match r with| .ok f=>(.pure f:Sem Flow)| .error e=>.raise e).onRaise (cameBack G.env)).wrap K J gd lv) none (gd false) (lv []) c p []::fs) s:=by
  intro m
  induction m using Nat.strongRecOn with
  |ind m ih=>
   intro n j s₀ s i σc σ H hn w hI st fr
   refine fx ?_
   rw[(gl _).over]
   obtain⟨Hw,sw,Iw,hsw,I⟩:=hI
   rcases turn i m j σc σ H w with⟨stop,qn⟩| ⟨go,N,hN,step⟩
   ·refine wpAny_mono (T.done (G.cx Hw sw) rfl rfl rfl rfl i _ s σ H (G.cx Hw sw).xe I (stat hsw.1 fr) st stop) (fun r s4 ⟨hr,I4⟩=>?_) fun x s' hx=>False.elim hx
    subst hr
    exact seg_leaf (.ok .next) (k.ok n j s₀ s4 .next hn ⟨σc,σ,H,⟨Hw,sw,Iw,hsw,I4⟩,qn⟩)
   ·refine wpAny_mono (T.item (G.cx Hw sw) rfl rfl rfl rfl i _ s σ H (G.cx Hw sw).xe I (stat hsw.1 fr) st go) (fun r s4 ⟨u,hr,h4⟩=>?_) fun x s' hx=>False.elim hx
    subst hr
    refine wpAny_mono h4 (fun _ s5 ⟨x,H5,I5,r5,y5,st5,fr5⟩=>?_) fun x s' hx=>False.elim hx
    have I5':=I5.pinned (stat hsw.1 fr5) (T.obj _ _ st5)
    refine wpAny_mono ((hg Hw sw).run _ s5 σ H5 x u _ I5' r5 (step x H5 y5)) (fun _ s6 ⟨σ6,H6,I6,q6⟩=>?_) fun x s' hx=>False.elim hx
    have again:∀ {n' j':Nat} {s₀' s7:Shared} {σc7 σ7:L2.St} {H7:Hp},n'+j'=sizeLine→yW G pins (ip++pinsAt fp s5.heap) σc7 σ7 H7 s7→N j' σc7 σ7 H7→
      Seg (model G.X.prog G.X.w) A R (DX G pins Yl) n' s₀' (.forLoop tg (.ref it) body [] G.env) (.pure (.again (.forLoop tg (.ref it) body [] G.env)))
       (.ret (fun r=>((match r with| .ok f=>(.pure f:Sem Flow)| .error e=>.raise e).onRaise (cameBack G.env)).wrap K J gd lv) none (gd false) (lv []) c p []::fs) s7:=fun {n' j' s₀' s7 σc7 σ7 H7} hn' I7 n7=>by
     obtain⟨m',hm,w7⟩:=hN j' σc7 σ7 H7 n7
     obtain⟨Hw7,sw7,Iw7,hsw7,I7⟩:=I7
     refine seg_again rfl (ih m' hm n' j' s₀' s7 (i+1) σc7 σ7 H7 hn' w7 ⟨Hw7,sw7,Iw7,⟨hsw7.1,hsw.2⟩,I7.unpinned⟩ (T.keep _ _ _ st5 fun b hb o e=>(I7.pin (b,o) (Ji _ (Ji _ (mem_pinsAt hb e)))).1) fun b hb=>?_)
     obtain⟨o,e,d⟩:=T.obj _ _ st5 b hb
     exact(I7.pin (b,o) (Ji _ (Ji _ (mem_pinsAt hb e)))).2.1
    have down:∀ {s7:Shared} {σc7 σ7:L2.St} {H7:Hp},yW G pins (ip++pinsAt fp s5.heap) σc7 σ7 H7 s7→yW G pins ip σc7 σ7 H7 s7:=fun {s7 σc7 σ7 H7} I7=>by
     obtain⟨Hw7,sw7,Iw7,hsw7,I7⟩:=I7
     exact⟨Hw7,sw7,Iw7,⟨hsw7.1,hsw.2⟩,I7.unpinned⟩
    refine hb.run A (ip++pinsAt fp s5.heap) R n j s₀ _ _ _ _ id id s6 σc σ6 H6 { D with nx:=N,ct:=N,bk:=D.nx} (gl _) hn ⟨fun n' j' s₀' s7 f hn' hs'=>?_⟩ ⟨Hw,sw,Iw,⟨hsw.1,nkc _⟩,I6⟩ q6
    cases f with
    |next=>
     obtain⟨σc7,σ7,H7,I7,n7⟩:=hs'
     exact again hn' I7 n7
    |cont=>
     obtain⟨σc7,σ7,H7,I7,n7⟩:=hs'
     exact again hn' I7 n7
    |brk=>
     obtain⟨σc7,σ7,H7,I7,q7⟩:=hs'
     exact seg_leaf (.ok .next) (k.ok n' j' s₀' s7 .next hn' ⟨σc7,σ7,H7,down I7,q7⟩)
    |ret v=>
     obtain⟨x7,σc7,σ7,H7,I7,r7,q7⟩:=hs'
     exact seg_leaf (.ok (.ret v)) (k.ok n' j' s₀' s7 (.ret v) hn' ⟨x7,σc7,σ7,H7,down I7,r7,q7⟩)
 exact loop m0 n j s₀ s2 0 σc σ H2 hn w0 ⟨Hw,sw,Iw,hsw,I2⟩ st2 fun b hb=>(f2 b hb).1
end
open LamX He
section
variable {Γ:Gm}{G:Gp}{pins:List (Addr×Obj)}{Yl:qa}{pos:Pos}
theorem GSF.weak{st:Stmt}{t t':oA}(h:GSF G pins Yl st t)(w:∀Z j σc σ H,t' Z j σc σ H→t Z j σc σ H):GSF G pins Yl st t':=
 ⟨fun A ip R n j s₀ c fs K J gd lv s σc σ H D g hn k hI ht=>h.run A ip R n j s₀ c fs K J gd lv s σc σ H D g hn k hI (w D j σc σ H ht)⟩
theorem GSsF.weak{st:List Stmt}{t t':oA}(h:GSsF G pins Yl st t)(w:∀Z j σc σ H,t' Z j σc σ H→t Z j σc σ H):GSsF G pins Yl st t':=
 ⟨fun A ip R n j s₀ c fs K J gd lv s σc σ H D g hn k hI ht=>h.run A ip R n j s₀ c fs K J gd lv s σc σ H D g hn k hI (w D j σc σ H ht)⟩
theorem BN{st:Stmt}{m:MS}(h:∀H s,PS (G.cx H s) st (dC Γ W0 m)):GSF G pins Yl st (gT Γ (oF m) Yl):=(BU h).weak fun Z j σc σ H q=>by
 obtain⟨Zc,cb,ec,env,S,μ,im,rc,a,q⟩:=q
 refine⟨env,S,μ,a,?_⟩
 unfold oF at q
 cases hm:m env S with
 |nx e S'=>rw[hm] at q;exact fun σ' H' μ' x a'=>q σc σ' H' μ' x (rc.ext x) a'
 |brk e S'=>rw[hm] at q;exact fun σ' H' μ' x a'=>q σc σ' H' μ' x (rc.ext x) a'
 |cnt e S'=>rw[hm] at q;exact fun σ' H' μ' x a'=>q σc σ' H' μ' x (rc.ext x) a'
 |ret r S'=>rw[hm] at q;exact False.elim q
 |ex x e S'=>rw[hm] at q;exact False.elim q
 |bad=>rw[hm] at q;exact False.elim q
theorem y0:GSsF G pins Yl [] (gT Γ pW Yl):=yn.weak fun Z j σc σ H q=>by
 obtain⟨Zc,cb,ec,env,S,μ,im,rc,a,q⟩:=q
 exact q σc σ H μ .refl rc a
theorem jk{st:Stmt}{rest:List Stmt}{m1 m2:MGF}(h1:GSF G pins Yl st (gT Γ m1 Yl))(h2:GSsF G pins Yl rest (gT Γ m2 Yl)):GSsF G pins Yl (st::rest) (gT Γ (eE m1 m2) Yl):=(tG h1 h2).weak fun Z j σc σ H q=>by
 obtain⟨Zc,cb,ec,env,S,μ,im,rc,a,q⟩:=q
 refine⟨Zc,cb,ec,env,S,μ,im,rc,a,?_⟩
 unfold eE at q
 revert q
 generalize m1 cb j ec env S=p
 intro q
 cases p with
 |nx j1 ec1 e S1=>exact fun σc' σ' H' μ' x rc' a'=>⟨Zc,cb,ec1,e,S1,μ',im.ext x,rc',a',hX.ext x q⟩
 |brk j1 ec1 e S1=>exact q
 |cnt j1 ec1 e S1=>exact q
 |out r=>exact q
 |bad=>exact q
theorem yw{e:Expr}{yp:Pos}{f:ME}(O:Ok G pins)(he:∀H s,PE (G.cx H s) e (ay Γ W0 f))(hco:G.env.scope.isCoroutine=false:=by rfl)(hi:interactive G.env=false:=by rfl):GSF G pins Yl (.Expr (.Yield (some e) yp) pos) (gT Γ (vF f) Yl):=(v8 O he hco hi).weak fun Z j σc σ H q=>by
 obtain⟨Zc,cb,ec,env,S,μ,im,rc,a,q⟩:=q
 unfold vF at q
 cases hf:f env S with
 |ok rv S1=>
  rw[hf] at q
  simp only at q
  split at q
  ·rename_i hl
   refine⟨by rw[sizeLine_eq];exact hl,env,S,μ,a,?_⟩
   rw[hf]
   intro v H1 μ1 x rvat
   obtain⟨s1,p1⟩:=rvat.sim
   have q1:=hX.ext x q
   refine im v rv.d σc ec S1 μ1 H1 _ x (rc.ext x) s1 (x.tabs a.tabs) p1 ?_
   have a1:=a.next x s1
   cases hc:cb rv.d ec S1 with
   |nx e2 S2=>
    rw[hc] at q1
    exact fun σ' H' μ' x' a'=>q1 σ' σ H' μ' x' a'.env ⟨a1.env.ext x',a'.sim,a'.tabs⟩
   |cnt e2 S2=>
    rw[hc] at q1
    exact fun σ' H' μ' x' a'=>q1 σ' σ H' μ' x' a'.env ⟨a1.env.ext x',a'.sim,a'.tabs⟩
   |brk e2 S2=>rw[hc] at q1;exact q1
   |ret w S2=>rw[hc] at q1;exact q1
   |ex y e2 S2=>rw[hc] at q1;exact False.elim q1
   |bad=>rw[hc] at q1;exact False.elim q1
  ·exact False.elim q
 |ex x S1=>rw[hf] at q;exact False.elim q
 |bad=>rw[hf] at q;exact False.elim q
theorem Gk{Zc:Ends}{Z:GEndsF}{μ:Mu}{H:Hp}{p:GR}{k:Nat→aq→aq→a0→GR}{N:Nat→L2.St→L2.St→Hp→Prop}
  (h:hX Γ Zc Z μ H (match p with| .nx j2 ec2 e2 S2=>k j2 ec2 e2 S2| .cnt j2 ec2 e2 S2=>k j2 ec2 e2 S2| .brk j2 ec2 e2 S2=>.nx j2 ec2 e2 S2|r=>r))
  (hN:∀j2 ec2 e2 S2 σc' σ' H' μ',Ext Γ μ H μ' H'→b8 Γ H' μ' σc' ec2→At Γ σ' H' e2 S2 μ'→hX Γ Zc Z μ' H' (k j2 ec2 e2 S2)→N j2 σc' σ' H'):
  hX Γ Zc { Z with nx:=N,ct:=N,bk:=Z.nx} μ H p:=by
 cases p with
 |nx j2 ec2 e2 S2=>exact fun σc' σ' H' μ' x rc a=>hN j2 ec2 e2 S2 σc' σ' H' μ' x rc a (hX.ext x h)
 |cnt j2 ec2 e2 S2=>exact fun σc' σ' H' μ' x rc a=>hN j2 ec2 e2 S2 σc' σ' H' μ' x rc a (hX.ext x h)
 |brk j2 ec2 e2 S2=>exact h
 |out r=>exact h
 |bad=>exact h
theorem C4{t:Tg}{tg iter:Expr}{body:List Stmt}{it:MI}{b:MGF}(hi:∀H s,PI (G.cx H s) tg iter (ky Γ W0 it))(hg:∀H s,PG (G.cx H s) tg (iW Γ t))(hb:GSsF G pins Yl body (gT Γ b Yl))(hs:∀x,foldedSetIterable iter G.env x=pure x:=by intro _;rfl):
  GSF G pins Yl (.For tg iter body [] pos) (gT Γ (l7 t it b) Yl):=(Ax hi hg hb hs).weak fun Z j σc σ H q=>by
 obtain⟨Zc,cb,ec,env,S,μ,im,rc,a,q⟩:=q
 unfold l7 at q
 cases hit:it env S with
 |ex x S1=>rw[hit] at q;exact False.elim q
 |bad=>rw[hit] at q;exact False.elim q
 |ok src S1=>
  rw[hit] at q
  cases src with
  |rf n=>exact False.elim q
  |st ds=>
   refine⟨env,S,μ,a,?_⟩
   rw[hit]
   intro J H1 μ1 x1 s1 fd
   have a1:=a.next x1 s1
   have q1:=hX.ext x1 q
   obtain⟨GG,Y,w,hG,hY⟩:=fd
   let Pv:Nat→Nat→L2.St→L2.St→Hp→Prop:=fun i j' σc' σ' H'=>∃ec' env' S' μ',Ext Γ μ1 H1 μ' H'∧b8 Γ H' μ' σc' ec'∧At Γ σ' H' env' S' μ'∧hX Γ Zc Z μ' H' (fu t b (ds.drop i) cb j' ec' env' S')
   refine⟨fun i m j' σc' σ' H'=>i+m=ds.length∧Pv i j' σc' σ' H',⟨ds.length,by omega,ec,env,S1,μ1,.refl,rc.ext x1,a1,q1⟩,?_⟩
   rintro i m j' σc' σ' H' ⟨e,ec',env',S',μ',x',rc',a',q'⟩
   have gh:=hG μ' H' (.inl x')
   cases m with
   |zero=>
    have e:i=ds.length:=by omega
    subst e
    rw[List.drop_length] at q'
    exact .inl ⟨w.stops H' gh,q' σc' σ' H' μ' .refl rc' a'⟩
   |succ m=>
    refine .inr ⟨w.goes i H' (by omega) gh,fun j2 σc2 σ2 H2=>∃m',m'<m+1∧(i+1+m'=ds.length∧Pv (i+1) j2 σc2 σ2 H2),fun _ _ _ _ z=>z,fun x H2 y=>?_⟩
    obtain⟨d,hd,hst,hr⟩:=hY μ' H' S' i x H2 (.inl x') a'.sim (by omega) (w.yields i H' x H2 (by omega) gh y)
    have ed:ds.drop i=d::ds.drop (i+1):=by
     obtain⟨h1,h2⟩:=Jl.mp hd
     rw[List.drop_eq_getElem_cons h1,h2]
    rw[ed] at q'
    simp only[fu] at q'
    split at q'
    ·exact False.elim q'
    ·rename_i e1 he1
     have x2:=hst.ext (Γ:=Γ) (μ:=μ')
     have a2:At Γ σ' H2 env' S' μ':=a'.next x2 (hst.sim a'.sim)
     refine⟨env',μ',d,e1,a2.env,hr,he1,fun σ2 h2 _=>?_⟩
     refine⟨Zc,cb,ec',e1,S',μ',im.ext (x1.trans (x'.trans x2)),rc'.ext x2,⟨h2,a2.sim,a2.tabs⟩,?_⟩
     exact Gk (Z:=Z) (k:=fu t b (ds.drop (i+1)) cb) (hX.ext x2 q') fun j2 ec2 e2 S2 σc3 σ3 H3 μ3 x3 rc3 a3 q3=>⟨m,Nat.lt_succ_self m,by omega,ec2,e2,S2,μ3,x'.trans (x2.trans x3),rc3,a3,q3⟩
end
end Ev.Gc
namespace Ev.Gc
open PySem PySem.Spec L2 PyProof.Rows GenW
structure GFt(P:Program)(w:World)(K:PySem.W.Frag)(mg:Str→Option Value)(base:Heap)(k:Nat)(x:Str)(Ng:List Str)(t:qa→oA):Prop where
 ex:∃ (f:Addr) (qual:Str) (body:List Stmt) (scope:Scope) (cdv:Value) (fd:FuncData) (oc:Value) (od:Option Addr) (osl:Array (Option Value)) (name:Str) (params:Arguments) (dV kV doc pm ct:Value) (an:Option Addr),
  fd=PySem.W.fnOf name qual params body scope dV kV doc pm an cdv ct∧K.lookup f=some ⟨oc,od,.func fd,osl⟩∧PySem.W.codeIn K cdv qual=true∧GScope Ng [] scope∧(∀y∈scope.names,y.2≠ .free)∧L2.Binds K fd [] []∧
  mg x=some (.ref f)∧PySem.W.keepIn K (.ref f)=true∧∀ (X:Cx) (A:Around) (n:Nat) (pn pins:List (Addr×Obj)) (Yl:qa),X.prog=P→X.w=w→X.K=K→X.mg=mg→X.base=base→Ok (Gp.mk X A Ng qual scope f cdv n pn) pins→RoomG k (A.deeper (envOfC qual scope n f cdv))→
   GSsF ⟨X,A,Ng,qual,scope,f,cdv,n,pn⟩ pins Yl body (t Yl)
structure Born(s:Shared)(Ng:List Str)(qual:Str)(gb:List Stmt)(scope:Scope)(f:Addr)(cdv:Value)(ga gi:Nat)(go:Obj)(s3:Shared):Prop where
 obj:∃nm qn,go.cls= .type "generator"∧go.data= .fields #[.int gi 0,nm,qn]∧go.slots= #[]
 at_:s3.heap.get? ga=some go
 lt:s.heap.objs.size<ga
 gens:s3.gens[gi]? =some (.fresh (.func gb (envOfC qual scope s.heap.objs.size f cdv)))
 keep:∀b o,s.heap.get? b=some o→s3.heap.get? b=some o
 os:s3.os=s.os
 bare:AllBare s3.gens
 loc:∃ (oL:Obj) (es:Array DictEntry) (ep:Nat) (m:Str→Option Value),s3.heap.get? s.heap.objs.size=some oL∧oL.data= .dict es ep∧StrKeys es∧∀name,nsFind es name=m name
 cells:∀x c,(envOfC qual scope s.heap.objs.size f cdv).cells.lookup x=some c→s.heap.objs.size<c∧c<ga∧∃v,s3.heap.IsCell c v
 apart:∀x y c,(envOfC qual scope s.heap.objs.size f cdv).cells.lookup x=some c→(envOfC qual scope s.heap.objs.size f cdv).cells.lookup y=some c→x=y
theorem Born.isGen{s:Shared}{Ng:List Str}{qual:Str}{gb:List Stmt}{scope:Scope}{f:Addr}{cdv:Value}{ga gi:Nat}{go:Obj}{s3:Shared}(B:Born s Ng qual gb scope f cdv ga gi go s3){h:Heap}(e:h.get? ga=some go):h.IsGen ga gi:=by
 obtain⟨nm,qn,h1,h2,h3⟩:=B.obj
 exact⟨go,nm,qn,e,h1,h2,h3⟩
section
variable {X:Cx}{pins:List (Addr×Obj)}{σ:L2.St}{H:Hp}{s:Shared}
theorem vI{k:Nat}{x:Str}{p pos:Pos}{Ng:List Str}{f:Addr}{qual:Str}{body:List Stmt}{scope:Scope}{cdv oc:Value}{od:Option Addr}{osl:Array (Option Value)}{name:Str}{params:Arguments}{dV kV doc pm ct:Value}{an:Option Addr}{Q:Value→Shared→Prop}
  (hc:X.calm=true) (hr:RoomG (k+2) X.A) (lk:X.K.lookup f=some ⟨oc,od,.func (PySem.W.fnOf name qual params body scope dV kV doc pm an cdv ct),osl⟩) (hcd:PySem.W.codeIn X.K cdv qual=true) (S:GScope Ng [] scope) (nof:∀y∈scope.names,y.2≠ .free)
  (hbn:L2.Binds X.K (PySem.W.fnOf name qual params body scope dV kV doc pm an cdv ct) [] []) (hm:X.mg x=some (.ref f)) (hk:PySem.W.keepIn X.K (.ref f)=true) (hg:Gl X x) (hdb:(x==("__debug__":Str))=false) (I:L2.Inv X pins σ H s)
  (h:∀ga gi go s3,Born s Ng qual body scope f cdv ga gi go s3→L2.Inv X pins σ H s3→Q (.ref ga) s3):wpAny (model X.prog X.w) X.A (eval (.Call (.Name x p) [] [] pos) X.env) Q X.xe s:=by
 refine wpAny_Call_Name_kw (ld_glob I hg hm ?_ hdb)
 refine PySem.W.callWith_K0 I.kIn hk ?_
 have KX:=I.kIn
 have b:=hbn s [] KX rfl
 have lim:s.heap.NoLimit:=I.nolimit
 have hkind:∀y∈([]:List Str).zip ([]:List Value),scope.names.lookup y.1=some .local∨(scope.names.lookup y.1=some .cell∧((cellsFrom (s.heap.objs.size+1) scope.names []).lookup y.1).isSome=true):=fun y hy=>nomatch hy
 refine wpAny_call (codeAny_call_generator hr.room.depth (KX _ _ lk) rfl S.co S.gen rfl (PySem.W.codeRec_of KX hcd) (b _ _ _ _ ?_))
 refine wpAny_newFunctionEnv_cells S.kind hkind fun env he s2 xx=>?_
 subst he
 have lim1:s2.heap.NoLimit:=lim.keeps xx.toInCall.keep
 refine⟨lim1,?_⟩
 have I2:L2.Inv (gcxOf X.prog X.w X.K X.mg X.base Ng qual scope f cdv X.A X.stack s H (fun _ _ _=>False) []) [] (start Ng []) H s2:=inv_startG S (I.ok.hd hc) I.env0 rfl .nil xx
 obtain⟨h1,tk,es1,hk1⟩:=xx.done
 have os1:s2.os=s.os:=by rw[es1]
 have gen1:s2.gens=s.gens:=by rw[es1]
 have lt1:s.heap.objs.size<s2.heap.objs.size:=xx.toInCall.ns.lt
 have kp1:∀b o,s.heap.get? b=some o→s2.heap.get? b=some o:=xx.toInCall.keep
 have main:∀ (go:Obj) (nm qn:Value) (tk2:Nat),go.cls= .type "generator"→go.data= .fields #[.int s2.gens.size 0,nm,qn]→go.slots= #[]→(∀h:Heap,(h.push go).get? h.objs.size=some go)→
   Q (.ref s2.heap.objs.size) { s2 with gens:=s2.gens.push (.fresh (.func body (envOfC qual scope s.heap.objs.size f cdv))),toks:=tk2,heap:=s2.heap.push go}:=by
  intro go nm qn tk2 hgc hgd hgs hgp
  have kp3:∀b o,s2.heap.get? b=some o→(s2.heap.push go).get? b=some o:=fun b o e=>Heap.get?_push_of_some _ e
  have bare3:AllBare (s2.gens.push (.fresh (.func body (envOfC qual scope s.heap.objs.size f cdv)))):=AllBare.push (by rw[gen1];exact I.bare) rfl
  refine h _ s2.gens.size go _ ⟨⟨nm,qn,hgc,hgd,hgs⟩,hgp _,lt1,Array.getElem?_push_size ..,fun b o e=>kp3 b o (kp1 b o e),os1,bare3,?_,?_,?_⟩ ?_
  ·obtain⟨m,⟨oL,es,ep,l1,l2,l3,l4⟩,l5⟩:=I2.loc
   exact⟨oL,es,ep,m,kp3 _ _ l1,l2,l3,l4⟩
  ·intro x c e
   obtain⟨v,o,ho,hd⟩:=I2.cell x c e
   exact⟨xx.above x c (PySem.mem_of_lookup e),Heap.lt_size ho,v,o,kp3 _ _ ho,hd⟩
  ·exact fun x y c e1 e2=>I2.ok.inj x y c e1 e2
  ·exact I.call' (ch:=[]) os1 (Un.kept fun b o e=>kp3 b o (kp1 b o e)) (I.hok.kept fun b o e=>kp3 b o (kp1 b o e)) bare3 fun b z=>by simp at z
 exact main _ _ _ _ rfl rfl rfl fun h=>Heap.get?_push_size _ rfl
end
section
variable {X:Cx}
theorem nX{pins:List (Addr×Obj)}{s:Shared}{σ:L2.St}{H:Hp}{Q:VK}{k:Nat}{x:Str}{elt tg:Expr}{p pp:Pos}{scope:Scope}{own:List (Str×Nat)}{pos pos':Pos}{Ng:List Str}{t:qa→oA}{gt:TG}{te:TE}{use:Option (Value→Sem Unit)}{Qf:Value→Shared→Prop}
  (hc:X.calm=true) (hN:X.N.Nodup) (hr:RoomG (k+2) X.A) (I:L2.Inv X pins σ H s) (M:GFt X.prog X.w X.K X.mg X.base k x Ng t) (hgx:Gl X x) (hdb:(x==("__debug__":Str))=false) (ok:BlkOk X.N X.env.scope scope own) (noc:∀y∈scope.names,y.2≠ .cell)
  (hg:∀ (s:Shared) (H:Hp) (C:Addr) (cl:List (Str×Addr)) (fp:List Addr),PG (X.blk s H scope (compEnvC scope cl C X.env) fp) tg gt)
  (he:∀ (s:Shared) (H:Hp) (C:Addr) (cl:List (Str×Addr)) (fp:List Addr),PE (X.blk s H scope (compEnvC scope cl C X.env) fp) elt te) (hsf:∀y,foldedSetIterable (.Call (.Name x p) [] [] pp) X.env y=pure y) (hlo:∀it v,letOwnedTupleGo tg it v=pure ())
  (h:DI Ng t gt te (own.map (·.2)) σ H Q)
  (hRR:∀D C s' m H',L2.Inv X pins σ H' s'→Q (.ref D) H'→s'.heap.Ns C m→FpOk X pins H' C→compPost (model X.prog X.w) X.A X.xe use Qf (.ref D) C (.ok .next) s'):
  wpAny (model X.prog X.w) X.A (comprehension (.ListComp elt [⟨tg,.Call (.Name x p) [] [] pp,[],0⟩] scope pos) scope X.env pos' (newList []) false (eval (.Call (.Name x p) [] [] pp) X.env) use) Qf X.xe s:=by
 obtain⟨f,qual,gb,gsc,cdv,fd,oc,od,osl,name,params,dV,kV,doc,pm,ct,an,efd,lk,hcd,S,nof,hbn,hm,hkp,hwalk⟩:=M.ex
 subst efd
 have hfree:∀y∈scope.names,y.2= .free→∃c,X.env.cells.lookup y.1=some c:=fun y hy e=>by
  rcases ok.free y hy e with k|k
  ·exact I.ok.has _ (.inl k)
  ·exact I.ok.has _ (.inr k)
 refine wpAny_comprehension_free (use:=use) rfl hsf (closure_ok hfree) ok.kind (fun y hy e=>by rw[ok.uniq y hy,e]) (vI hc hr lk hcd S nof hbn hm hkp hgx hdb I fun ga gi go s1 B I1=>?_)
 refine wpAny_pyIter_gen (B.isGen B.at_) ?_
 refine wpAny_newObj_type (newEnv_comp ?_) (by show 0≤sizeLine;decide)
 generalize hn:s.heap.objs.size=n0 at B
 have Bl:n0<ga:=hn▸B.lt
 have gal:ga<s1.heap.objs.size:=Heap.lt_size B.at_
 generalize hD:s1.heap.objs.size=D
 have hDn:H D=none:=I1.hok.fresh (Nat.le_of_eq hD)
 generalize hs3:({ s1 with heap:=s1.heap.push { cls:=.type "list",data:=.seq ([]:List Value).toArray}}:Shared)=s3
 have h3:s3.heap=s1.heap.push { cls:=.type "list",data:=.seq ([]:List Value).toArray}:=by rw[← hs3]
 have k13:∀b o,s1.heap.get? b=some o→s3.heap.get? b=some o:=fun b o e=>by rw[h3];exact Heap.get?_push_of_some _ e
 have hC3:s3.heap.objs.size=D+1:=by rw[h3,Heap.size_push,hD]
 have I3:L2.Inv X pins σ (upd H D (.lst [])) s3:=by
  rw[← hs3]
  refine I1.laid (t':=s1.toks) (fun b o e=>Heap.get?_push_of_some _ e) (Nat.le_of_eq hD) ⟨Nat.zero_le _,[],0,.nil,?_⟩
  rw[← hD]
  exact Heap.get?_push_size _ rfl
 have I4:=block_start (fp:=[]) I3 ok hN fun b hb=>nomatch hb
 have pg:=fun s H'=>hg s H' s3.heap.objs.size (cellsFrom (s3.heap.objs.size+1) scope.names (cloFrom X.env.cells scope.names [])) []
 have pe:=fun s H'=>he s H' s3.heap.objs.size (cellsFrom (s3.heap.objs.size+1) scope.names (cloFrom X.env.cells scope.names [])) []
 show codeAny _ _ (.compStart (.ListComp elt [⟨tg,.Call (.Name x p) [] [] pp,[],0⟩] scope pos) 0 (.ref ga) (.ref D) (compEnvC scope (cellsFrom (s3.heap.objs.size+1) scope.names (cloFrom X.env.cells scope.names [])) s3.heap.objs.size X.env)) (compPost (model X.prog X.w) X.A X.xe use Qf (.ref D) s3.heap.objs.size) { s3 with heap:=pushCells (s3.heap.push { cls:=.type "dict",data:=.dict #[]}) scope.names}
 have hcells:∀y c,(compEnvC scope (cellsFrom (s3.heap.objs.size+1) scope.names (cloFrom X.env.cells scope.names [])) s3.heap.objs.size X.env).cells.lookup y=some c→c<n0:=fun y c e=>by
  have e:(cellsFrom (s3.heap.objs.size+1) scope.names (cloFrom X.env.cells scope.names [])).lookup y=some c:=e
  rw[qY noc] at e
  rcases cloFrom_mem (PySem.mem_of_lookup e) with z| ⟨z1,z2⟩
  ·cases z
  ·obtain⟨c',hc'⟩:=hfree _ z1 rfl
   rw[z2,hc']
   obtain⟨w,z⟩:=I.cell _ _ hc'
   rw[← hn]
   exact z.lt
 generalize hce:compEnvC scope (cellsFrom (s3.heap.objs.size+1) scope.names (cloFrom X.env.cells scope.names [])) s3.heap.objs.size X.env=ce at I4 pg pe hcells ⊢
 have cL:ce.locals=s3.heap.objs.size:=by subst hce;rfl
 generalize hs4:({ s3 with heap:=pushCells (s3.heap.push { cls:=.type "dict",data:=.dict #[]}) scope.names}:Shared)=s4 at I4 ⊢
 have k34:∀b o,s3.heap.get? b=some o→s4.heap.get? b=some o:=fun b o e=>by rw[← hs4];exact pushCells_keeps _ _ _ _ (Heap.get?_push_of_some _ e)
 have k14:∀b o,s1.heap.get? b=some o→s4.heap.get? b=some o:=fun b o e=>k34 b o (k13 b o e)
 have gens4:s4.gens=s1.gens:=by rw[← hs4, ← hs3]
 have fsn:∀b∈frs X.stack,b<n0:=fun b hb=>hn▸CF I b hb
 have bsn:X.base.objs.size≤n0:=hn▸Jx I.ok.bsz I.sz
 have n3:n0≤s3.heap.objs.size:=by
  rw[hC3, ← hD]
  exact Nat.le_succ_of_le (JI (JO Bl gal))
 let XB:Cx:=X.blk (cutS n0 s3) (upd H D (.lst [])) scope ce []
 have IB:L2.Inv XB [] (wipe σ (own.map (·.2))) (upd H D (.lst [])) s4:=Ba I4 rfl n3 bsn fsn
 have q:t (zF D gt te (own.map (·.2))) { nx:=fun _ _ _ H'=>Q (.ref D) H',rt:=fun _ _ v H'=>v= .non∧Q (.ref D) H'} 0 (wipe σ (own.map (·.2))) (start Ng []) (upd H D (.lst [])):=h D hDn
 generalize hw:wipe σ (own.map (·.2))=σB at IB q
 have hwB:wipe σB (own.map (·.2))=σB:=by rw[← hw];exact ub _ _
 let G:Gp:=⟨XB,X.A.in1,Ng,qual,gsc,f,cdv,n0,[(ga,go)]⟩
 have hCn:n0<s3.heap.objs.size:=by rw[hC3, ← hD];exact Nat.lt_succ_of_lt (JO Bl gal)
 have hgC:ga<s3.heap.objs.size:=by rw[hC3, ← hD];exact Nat.lt_succ_of_lt gal
 have hCne:ce.locals≠n0:=by rw[cL];exact JA hCn
 have gaC:ga≠ce.locals:=by rw[cL];exact Jm hgC
 have low0:=B.cells
 rw[hn] at low0
 have O:Ok G []:=⟨fsn,fun b hb=>hb,by show n0<ce.locals;rw[cL];exact hCn,fun p hp hk=>by
   rw[Jg.mp hp] at hk
   exact gaC (Gp.mem_kc hk).1,I.ok.frames,I.ok.hd hc,S.kind,nof,by have:=B.apart;rw[hn] at this;exact this,fun x c e=>by
   obtain⟨k1,k2,_⟩:=low0 x c e
   refine⟨k1,?_⟩
   show c<ce.locals
   rw[cL];exact JO k2 hgC,rfl,fun x e=>by
   have e:(scope.names.lookup x==some NameKind.cell)=true:=e
   have e:=JL (show decide (scope.names.lookup x=some NameKind.cell)=true by simpa using e)
   exact absurd rfl (noc _ (PySem.mem_of_lookup e)),hcells,fun p hp=>(nomatch hp),by
   show(cF n0 s3.heap).objs.size≤n0
   rw[cw n3];exact JD _⟩
 obtain⟨oL,es,ep,m,l1,l2,l3,l4⟩:=B.loc
 rw[hn] at l1
 have as:Asleep G [] [(n0,oL),(ga,go)] (upd H D (.lst [])) (s4.setGen gi .running) (start Ng []):=by
  refine⟨⟨oL,es,ep,m,Jf,l2,l3,l4,fun i x v e1 e2 e3=>?_⟩,fun x c e=>?_,fun p hp=>?_,?_⟩
  ·unfold L2.start at e2
   rw[List.map_nil,List.nil_append,List.getElem?_replicate] at e2
   split at e2<;>cases e2
  ·obtain⟨k1,k2,v,o,ho,hd⟩:=low0 x c e
   refine⟨⟨v,o,k14 _ _ ho,hd⟩,?_⟩
   rw[upd_ne (by rw[← hD];exact Jm (Heap.lt_size ho))]
   exact I.hok.fresh (by rw[hn];exact JI k1)
  ·have hp:p∈[(ga,go)]++([]:List (Addr×Obj)):=hp
   rw[JC] at hp
   rw[Jg.mp hp]
   refine⟨Je _ Jf,JA Bl,fun z=>?_,fun v z=>?_⟩
   ·exact absurd (O.fsn _ z) (Nat.not_lt_of_lt Bl)
   ·obtain⟨nm,qn,_,d,_⟩:=B.obj
    have z:go.data= .cell v:=z
    rw[d] at z;cases z
  ·show(L2.start Ng []).length=Ng.length
   unfold L2.start
   simp
 have Ip:L2.Inv XB ([]++[(n0,oL),(ga,go)]) σB (upd H D (.lst [])) s4:=IB.pins_of fun p hp=>by
  have hp:p∈[(n0,oL),(ga,go)]:=hp
  have young:∀b,n0≤b→b<s1.heap.objs.size→s.heap.objs.size≤b→(upd H D (.lst [])) b=none∧b≠ce.locals∧b∉frs X.stack:=fun b hb hb1 hb2=>by
   refine⟨?_,?_,fun z=>absurd (fsn b z) (Nat.not_lt_of_le hb)⟩
   ·rw[upd_ne (by rw[← hD];exact Jm hb1)]
    exact I.hok.fresh hb2
   ·rw[cL,hC3, ← hD];exact Jm (Nat.lt_succ_of_lt hb1)
  rcases Jj.mp hp with z|z
  ·rw[z]
   obtain⟨y1,y2,y3⟩:=young n0 (JD _) (by omega) (by omega)
   exact⟨k14 _ _ l1,y1,y2,y3,fun v z=>by
    have z:oL.data= .cell v:=z
    rw[l2] at z;cases z⟩
  ·rw[Jg.mp z]
   obtain⟨y1,y2,y3⟩:=young ga (JI Bl) gal (by omega)
   exact⟨k14 _ _ B.at_,y1,y2,y3,fun v z=>by
    obtain⟨nm,qn,_,d,_⟩:=B.obj
    have z:go.data= .cell v:=z
    rw[d] at z;cases z⟩
 have hgs:s4.gens[gi]? =some (.fresh (.func gb (envOfC qual gsc n0 f cdv))):=by rw[gens4, ← hn];exact B.gens
 have W:=hwalk XB X.A.in1 n0 [(ga,go)] [] (zF D gt te (own.map (·.2))) rfl rfl rfl rfl rfl O (hr.in1.deeperG _)
 have loop:codeAny (model X.prog X.w) X.A (.compLoop (.ListComp elt [⟨tg,.Call (.Name x p) [] [] pp,[],0⟩] scope pos) 0 (.ref ga) (.ref D) ce) (compPost (model X.prog X.w) X.A X.xe use Qf (.ref D) s3.heap.objs.size) s4:=by
  refine compLoop_any (fun n s'=>∃σ' H' gp gs,L2.Inv XB ([]++gp) σ' H' s'∧(ga,go)∈gp∧s'.gens[gi]? =some gs∧
   gs.Goes (model X.prog X.w) X.A.in1 (fun n s₀ r s₁=>((r= .ok (.ret .none)∨r= .ok .next)∧∃σc H,L2.Inv XB [] σc H s₁∧Q (.ref D) H)∨∃e,r= .error e∧False) (DX G [] (zF D gt te (own.map (·.2)))) n (.send .none) (s'.setGen gi .running)) ?_ sizeLine
   ⟨_,_,_,_,Ip,Je _ Jf,hgs,rfl,?_⟩
  ·rintro n s4 ⟨σ4,H4,gp,gs,I4,hgo,hgs4,hgoes⟩
   have gl:gi<s4.gens.size:=(Array.getElem?_eq_some_iff.mp hgs4).1
   have hg4:s4.heap.IsGen ga gi:=B.isGen (I4.pin (ga,go) (Ji _ (Ji _ hgo))).1
   refine wpAny_gsz (n:=gi+1) gl (next_genG (A:=X.A) (I.ok.hd hc) I4.nolimit hr.room.depth hg4 hgs4 (F:=fun _ _ s₁=>∃σc H,L2.Inv XB [] σc H s₁∧Q (.ref D) H) (Er:=fun _ _=>False) hgoes (fun v s₁ gs' hbare hv=>?_) (fun s₁ hp h' hk=>?_) fun e s₁ he=>he.elim)
   ·intro hsz
    obtain⟨x5,σ5,H5,gp5,N,r5,I5,hpg,hyl,hk5⟩:=hv
    have gl1:gi<s₁.gens.size:=by
     have z:(s₁.setGen gi gs').gens.size=s₁.gens.size:=setGen_size _ _ _
     have hsz':gi+1≤(s₁.setGen gi gs').gens.size:=hsz
     omega
    let XR:Cx:=X.blk (cutS ce.locals s₁) H5 scope ce []
    have I5x:L2.Inv XR ([]++gp5) σ5 H5 s₁:=O.anew I5
    have I5':L2.Inv XR ([]++gp5) (wipe σ5 (own.map (·.2))) H5 (s₁.setGen gi gs'):=(b9 I5x (allBare_setGen I5.bare hbare)).weak (wipe_length _ _) fun j v e=>(wipe_some e).1
    refine wpAny_of_eq (hlo _ _) ?_
    refine wpAny_mono (ck ((pg (cutS ce.locals s₁) H5).run _ (fU (s₁.setGen gi gs')) _ H5 x5 v _ (dI I5') r5 hyl)) (fun _ s6 h6=>?_) fun e s6 h6=>?_
    ·obtain⟨s6',hd6,rfl,σ6,H6,I6,hw6,q6⟩:=h6
     have I6':=bw I5'.bare I6
     refine wpAny_tests_nil ?_
     rw[if_pos rfl]
     refine wpAny_mono (ck ((pe (cutS ce.locals s₁) H5).run _ (fU (rest (s₁.setGen gi gs').gens s6')) _ H6 _ (dI I6') q6)) (fun u s7 h7=>?_) fun e s7 h7=>?_
     ·obtain⟨s7',hd7,rfl,y7,H7,I7,r7,acc,hD7,hz7,n7⟩:=h7
      have I7':=bw I6'.bare I7
      refine wpAny_mono (ck (app_ok (X:=XR) (E:=fun _ _=>False) (Q:=fun _ s'=>L2.Inv XR ([]++gp5) σ6 (upd H7 D (.lst (acc++[y7]))) s') (dI I7') hD7 hz7 r7 fun s' J=>J)) (fun _ s8 h8=>?_) fun e s8 h8=>?_
      ·obtain⟨s8',hd8,rfl,J8⟩:=h8
       have J8':=bw I7'.bare J8
       have keep:∀k l c p fs cl,(s₁.setGen gi gs').gens[gi]? =some (.suspended k l c p fs cl)→(rest (rest (rest (s₁.setGen gi gs').gens s6').gens s7').gens s8').gens[gi]? =some (.suspended k l c p fs cl):=fun k l c p fs cl e=>cV hd8 (cV hd7 (cV hd6 e))
       have J9:L2.Inv XR ([]++gp5) (wipe σ5 (own.map (·.2))) (upd H7 D (.lst (acc++[y7]))) (rest (rest (rest (s₁.setGen gi gs').gens s6').gens s7').gens s8'):=J8'.weak (by rw[← wipe_length σ6 (own.map (·.2)),hw6]) fun j v e=>by
        rw[← hw6] at e
        exact(wipe_some e).1
       obtain⟨k1,k2⟩:=hk5 _ _ (Shared.setGen _ gi .running) (b9 J9 (allBare_setGen J9.bare rfl)) n7
       cases n with
       |zero=>exact False.elim k1
       |succ n=>
        refine⟨n,Nat.lt_succ_self n,_,_,gp5,gs',O.back0 I5 J9,hpg _ (Jg.mpr rfl),?_,k1⟩
        have gset:(s₁.setGen gi gs').gens[gi]? =some gs':=setGen_at gl1
        cases gs' with
        |suspended k l c p fs cl=>exact keep k l c p fs cl gset
        |fresh c=>
         have e:Resume.send (Value.bool true)=Resume.send Value.none:=k2.1
         cases e
        |running=>exact False.elim k1
        |finished=>exact False.elim k1
      ·obtain⟨_,_,_,z⟩:=h8
       exact False.elim z
     ·obtain⟨_,_,_,z⟩:=h7
      exact False.elim z
    ·obtain⟨_,_,_,z⟩:=h6
     exact False.elim z
   ·intro _
    obtain⟨σc,Hc,Ic,qc⟩:=hp
    have If:L2.Inv XB [] σc Hc { s₁.setGen gi .finished with heap:=h'}:=Ic.call' (ch:=[]) rfl (Un.kept hk) (Ic.hok.kept hk) (allBare_setGen Ic.bare rfl) fun b z=>by simp at z
    have lo:∀ {b o},s.heap.get? b=some o→(cF n0 s3.heap).get? b=some o∧(H b=none→(upd H D (.lst [])) b=none):=fun {b o} e=>by
     have hb:b<n0:=by rw[← hn];exact Heap.lt_size e
     refine⟨by rw[cE hb];exact k13 _ _ (B.keep b o e),fun z=>?_⟩
     rw[upd_ne (by rw[← hD];exact Jm (JO hb (JO Bl gal)))]
     exact z
    have up:∀ {b u},H b=some u→(upd H D (.lst [])) b=some u:=fun {b u} e=>by
     rw[upd_ne (ne_of_none e hDn)];exact e
    have u:Un (frs X.stack) [] (upd H D (.lst [])) Hc (cF n0 s3.heap) h':=If.base
    have I7:L2.Inv X pins σ Hc { s₁.setGen gi .finished with heap:=h'}:=I.call' (ch:=[]) (If.os.trans (by
      show s3.os=s.os
      rw[← hs3];exact B.os)) ⟨fun b o e h1=>u.keep b o (lo e).1 ((lo e).2 h1),fun b o e h1=>u.slot b o (lo e).1 ((lo e).2 h1),fun b o e h1=>u.free b o (lo e).1 ((lo e).2 h1),fun b o e=>u.there b o (lo e).1,fun b xs e=>u.tups b xs (up e),fun b o v e=>u.frzs b o v (up e),fun b ps e=>u.tbls b ps (up e)⟩ If.hok If.bare fun b z=>by simp at z
    have nC:Hc s3.heap.objs.size=none:=by
     have z:Hc ce.locals=none:=If.free
     rw[cL] at z
     exact z
    obtain⟨m,hNs,_⟩:=If.loc
    have hNs:h'.Ns ce.locals m:=hNs
    rw[cL] at hNs
    exact hRR D s3.heap.objs.size _ m Hc I7 qc hNs (I3.fpOk (JD _) nC)
  ·
   have Iw:L2.Inv XB ([]++[(n0,oL),(ga,go)]) σB (upd H D (.lst [])) (s4.setGen gi .running):=b9 Ip (allBare_setGen Ip.bare rfl)
   refine seg_func ?_
   refine W.run X.A.in1 [] _ sizeLine 0 _ _ [] _ _ id id _ σB (start Ng []) _ { nx:=fun _ _ _ H'=>Q (.ref D) H',rt:=fun _ _ v H'=>v= .non∧Q (.ref D) H'} ⟨over_func,rfl,rfl,rfl⟩ (Nat.add_zero _) ⟨fun n j s₀ s' fl hn hs'=>?_⟩
    ⟨_,_,Iw.unpinned,⟨as.there Iw,fun p hp=>nomatch hp⟩,O.wake Iw as (O.anew Iw)⟩ q
   cases fl with
   |next=>
    obtain⟨σc,σg,Hc,⟨Hw,sw,Jw,hsw,J⟩,qn⟩:=hs'
    exact seg_end (.ok (.ret .none)) (.inl ⟨.inl rfl,σc,Hc,O.back hsw.1 Jw J,qn⟩)
   |brk=>obtain⟨_,_,_,_,z⟩:=hs';exact False.elim z
   |cont=>obtain⟨_,_,_,_,z⟩:=hs';exact False.elim z
   |ret u=>
    obtain⟨v,σc,σg,Hc,⟨Hw,sw,Jw,hsw,J⟩,rv,ev,qn⟩:=hs'
    subst ev
    obtain rfl:u=Value.none:=rv
    exact seg_end (.ok (.ret .none)) (.inl ⟨.inl rfl,σc,Hc,O.back hsw.1 Jw J,qn⟩)
 exact codeAny_compStart_list loop (wpAny_pyIter_gen (B.isGen (k14 _ _ B.at_)) loop)
end
open LamX He
section
variable {Γ:Gm}{X:Cx}{W:WX}{pos:Pos}{k m:Nat}
theorem G5(q:Cq Γ X W m)(own:List (Str×Nat)){x:Str}{nn:Nat}{Ng:List Str}{bF:MGF}{tg elt:Expr}{t:Tg}{f:ME}{p pp:Pos}{scope:Scope}(M:GFt X.prog X.w X.K X.mg X.base k x Ng (gT Γ bF))
  (hg:∀ (s:Shared) (H:Hp) (C:Addr) (cl:List (Str×Addr)) (fp:List Addr),PG (X.blk s H scope (compEnvC scope cl C X.env) fp) tg (iW Γ t)) (he:∀ (s:Shared) (H:Hp) (C:Addr) (cl:List (Str×Addr)) (fp:List Addr),Cq Γ (X.blk s H scope (compEnvC scope cl C X.env) fp) WF m→PE (X.blk s H scope (compEnvC scope cl C X.env) fp) elt (ay Γ WF f))
  (hN:Ng.length=nn:=by rfl) (hk:k+2≤m:=by omega) (hgl:Gl X x:=by rfl) (hs:(t.slots.all fun j=>(own.map (·.2)).contains j)=true:=by rfl) (ok:blkC X.N X.env.scope scope own=true:=by rfl) (noc:(scope.names.all fun y=>decide (y.2≠ .cell))=true:=by rfl)
  (hsf:∀y,foldedSetIterable (.Call (.Name x p) [] [] pp) X.env y=pure y:=by intro _;rfl) (hlo:∀it v,letOwnedTupleGo tg it v=pure ():=by intro _ _;rfl) (hdb:(x==("__debug__":Str))=false:=by decide):
  PE X (.ListComp elt [⟨tg,.Call (.Name x p) [] [] pp,[],0⟩] scope pos) (ay Γ W (rQ nn bF (own.map (·.2)) t f)):=by
 have T:PE X (.ListComp elt [⟨tg,.Call (.Name x p) [] [] pp,[],0⟩] scope pos) (DI Ng (gT Γ bF) (iW Γ t) (ay Γ WF f) (own.map (·.2))):=by
  refine⟨fun pins s σ H Q I h=>?_⟩
  rw[eval_ListComp]
  refine nX q.hc q.nd (q.room.mono hk) I M hgl hdb (blkOk_by ok) (fun y hy=>by
   have:=Jz.mp noc y hy
   exact JL this) hg (fun s H C cl fp=>he s H C cl fp (q.blk s H scope _ fp)) hsf hlo h fun D C s' m' H' I' q' hn f'=>⟨m',hn,fun h'' sb=>?_⟩
  obtain⟨f0,f1,f2,f3,f4,f5⟩:=f'
  exact⟨.ref D,H',I'.turned (t':=s'.toks) (fun b o hb e=>(sb.2 b hb).trans e) f0 f1 f3 f4 f5,rfl,q'⟩
 refine T.weak fun σ H Q h=>FT hN (fun j hj=>?_) h
 have:=Jz.mp hs j hj
 simpa using this
end
section
variable {Γ:Gm}{P:Program}{w:World}{K:PySem.W.Frag}{mg:Str→Option Value}{base:Heap}{x qual:Str}{params:Arguments}{body:List Stmt}{scope:Scope}{fd:FuncData}{f:Addr}{k:Nat}
theorem Dx{Ng:List Str}{bF:MGF}(hK:K=Γ.K)(hw:w=Γ.w)(FD:FunD K x qual params body scope [] [] f fd)(S:GScope Ng [] scope)(hm:mg x=some (.ref f))(hbn:Binds K fd [] [])
  (nof:(scope.names.all fun y=>decide (y.2≠ .free))=true)
  (hb:∀ (X:Cx) (A:Around) (n:Nat) (pn pins:List (Addr×Obj)) (Yl:qa) (cdv:Value),Ok (Gp.mk (AQ P w K mg base X) A Ng qual scope f cdv n pn) pins→(∀H s,Cq Γ ((Gp.mk (AQ P w K mg base X) A Ng qual scope f cdv n pn).cx H s) W0 k)→
   GSsF ⟨AQ P w K mg base X,A,Ng,qual,scope,f,cdv,n,pn⟩ pins Yl body (gT Γ bF Yl)):GFt P w K mg base k x Ng (gT Γ bF):=by
 have kp:=FD.kp
 obtain⟨oc,od,dV,kV,doc,pm,an,cdv,ct,osl,rfl,lk,hcd,_,_⟩:=FD.ex
 refine⟨_,qual,body,scope,cdv,_,oc,od,osl,_,params,dV,kV,doc,pm,ct,an,rfl,lk,hcd,S,fun y hy=>?_,hbn,hm,kp,fun X A n pn pins Yl e1 e2 e3 e4 e5 O hr=>?_⟩
 ·have:=Jz.mp nof y hy
  exact JL this
 ·rw[← Ac e1 e2 e3 e4 e5] at O ⊢
  exact hb X A n pn pins Yl cdv O fun H s=>⟨hK,hw,rfl,S.nd,L2.takes0,hr⟩
end
end Ev.Gc
namespace Ev.Ex
open PySem PySem.Spec L2 PyProof.Rows
def Kept(h h':Heap):Prop:=∀b o,h.get? b=some o→h'.get? b=some o
theorem Kept.refl{h:Heap}:Kept h h:=fun _ _ e=>e
theorem Kept.trans{a b c:Heap}(x:Kept a b)(y:Kept b c):Kept a c:=fun i o e=>y i o (x i o e)
theorem Kept.push{h:Heap}{o:Obj}:Kept h (h.push o):=fun _ _ e=>Heap.get?_push_of_some _ e
def bc(s s':Shared):Prop:=∃h tk,s'={ s with heap:=h,toks:=tk}∧Kept s.heap h
section
variable {s s' s'':Shared}
theorem bc.trans(x:bc s s')(y:bc s' s''):bc s s'':=by
 obtain⟨h,tk,rfl,k⟩:=x
 obtain⟨h2,tk2,rfl,k2⟩:=y
 exact⟨h2,tk2,rfl,k.trans k2⟩
theorem bc.kept(x:bc s s'):Kept s.heap s'.heap:=by
 obtain⟨h,tk,rfl,k⟩:=x
 exact k
theorem bc.tok{t:Nat}(x:bc s s'):bc s { s' with toks:=t}:=by
 obtain⟨h,tk,rfl,k⟩:=x
 exact⟨h,t,rfl,k⟩
theorem bc.push{o:Obj}(x:bc s s'):bc s { s' with heap:=s'.heap.push o}:=by
 obtain⟨h,tk,rfl,k⟩:=x
 exact⟨_,tk,rfl,k.trans .push⟩
theorem oz{L:Addr}{m:Str→Option Value}(x:InCall s L m s'):bc s s':=x.done
end
structure Fx(K:PySem.W.Frag)(mg:Str→Option Value)(h:Heap):Prop where
 kin:K.In h
 glob:h.Ns mainGlobals mg
 blt:∃mb,h.Ns builtinsNs mb∧∀x:Str,x≠ "__name__"→mb x=bootBuiltins x
 lim:h.NoLimit
theorem Fx.kept{K:PySem.W.Frag}{mg:Str→Option Value}{h h':Heap}(x:Fx K mg h)(k:Kept h h'):Fx K mg h':=
 ⟨x.kin.keeps k,x.glob.keeps k,let⟨mb,h1,h2⟩:=x.blt;⟨mb,h1.keeps k,h2⟩,x.lim.keeps k⟩
section
variable {P:Program}{w:World}{A:Around}{K:PySem.W.Frag}{mg:Str→Option Value}{env:Env}{s:Shared}{E:Value→Shared→Prop}{pos:Pos}
theorem eU{x:Str}{u:Value}{Q:Value→Shared→Prop}(X:Fx K mg s.heap)(hk:env.scope.kind= .function)(hg:env.kindOf x=some .globalImplicit)(eg:env.globals=mainGlobals)(hm:mg x=some u)(h:Q u s)(hd:(x==("__debug__":Str))=false):
  wpAny (model P w) A (eval (.Name x pos) env) Q E s:=
 Calls.Name_function_global hk hg (Calls.loadGlobal_global (eg▸X.glob) hm h) hd
theorem ir{x:Str}{u:Value}{Q:Value→Shared→Prop}(X:Fx K mg s.heap)(hk:env.scope.kind= .function)(hg:env.kindOf x=some .globalImplicit)(eg:env.globals=mainGlobals)(eb:env.builtins=builtinsNs)(hm:mg x=none)(hv:bootBuiltins x=some u)(h:Q u s)
  (hn:x≠ "__name__") (hd:(x==("__debug__":Str))=false):wpAny (model P w) A (eval (.Name x pos) env) Q E s:=by
 obtain⟨mb,h1,h2⟩:=X.blt
 exact Calls.Name_function_global hk hg (Calls.loadGlobal_builtin (eg▸X.glob) hm (eb▸h1) ((h2 x hn).trans hv) h) hd
theorem x_call{N ps:List Str}{x qual:Str}{params:Arguments}{body:List Stmt}{scope:Scope}{f:Addr}{fd:FuncData}{us:List Value}{R:Value→Shared→Prop}(FD:FunD K x qual params body scope [] [] f fd)(S:FnScope N ps scope)
  (hb:L2.Binds K fd ps []) (hl:us.length=ps.length) (X:Fx K mg s.heap) (hroom:A.depth<recursionLimit)
  (h:∀cdv s1,InCallC s s.heap.objs.size (bindL (envOfC qual scope s.heap.objs.size f cdv).kindOf (ps.zip us) fun _=>none) (envOfC qual scope s.heap.objs.size f cdv).cells (bindC (envOfC qual scope s.heap.objs.size f cdv).kindOf (ps.zip us) fun _=>none) s1→
   wpAny (model P w) (A.deeper (envOfC qual scope s.heap.objs.size f cdv)) (execs body (envOfC qual scope s.heap.objs.size f cdv)) (fun fl s'=>R (match fl with| .ret v=>v|_=>.none) s') (fun _ _=>False) s1):
  codeAny (model P w) A (.call (.ref f) ⟨us,[]⟩) (fun r s'=>∃v,r= .ok (.ret v)∧R v s') s:=by
 obtain⟨oc,od,dV,kV,doc,pm,an,cdv,ct,osl,rfl,lk,hcd,_,_⟩:=FD.ex
 have b:=hb s us X.kin (by rw[JC];exact hl)
 rw[JC] at b
 have hkind:∀y∈ps.zip us,scope.names.lookup y.1=some .local∨(scope.names.lookup y.1=some .cell∧((cellsFrom (s.heap.objs.size+1) scope.names []).lookup y.1).isSome=true):=fun⟨n,v⟩ hy=>by
  rcases S.par n (List.of_mem_zip hy).1 with z|z
  ·exact .inl z
  ·exact .inr ⟨z,PySem.W.cellsFrom_some _ _ _ (.inl z)⟩
 refine codeAny_call_function hroom (X.kin _ _ lk) rfl S.co S.gen rfl (PySem.W.codeRec_of X.kin hcd) (b _ _ _ _ ?_)
 refine wpAny_newFunctionEnv_cells S.kind hkind fun env he s1 xx=>?_
 subst he
 refine⟨X.lim.keeps xx.toInCall.keep,codeAny_func (wpAny_mono (h cdv s1 xx) (fun fl s' hs=>⟨_,rfl,hs⟩) fun e s' z=>z.elim)⟩
end
def IsL(sc:Scope)(x:Str):Prop:=sc.names.lookup x=some .local
def gV(sc:Scope)(x:Str):Prop:=sc.names.lookup x=some .globalImplicit
section
variable {P:Program}{w:World}{A:Around}{K:PySem.W.Frag}{mg:Str→Option Value}{s:Shared}{E:Value→Shared→Prop}
theorem f7{s0 s1:Shared}{L:Addr}{m:Str→Option Value}(x:InCall s0 L m s1):Fr s0.heap L s1.heap m:=⟨x.ns,x.keep,x.fresh⟩
theorem bind1{kindOf:Str→Option NameKind}{x:Str}{v:Value}(h:kindOf x=some .local):bindL kindOf [(x,v)] (fun _=>none) x=some v:=by
 simp only[bindL]
 rw[if_pos h,if_pos rfl]
theorem BA{kindOf:Str→Option NameKind}{x y:Str}{v u:Value}(h:kindOf x=some .local)(h2:kindOf y=some .local)(n:x≠y):
  bindL kindOf [(x,v),(y,u)] (fun _=>none) x=some v∧bindL kindOf [(x,v),(y,u)] (fun _=>none) y=some u:=by
 simp only[bindL]
 rw[if_pos h,if_pos h2]
 exact⟨by rw[if_neg n,if_pos rfl],if_pos rfl⟩
theorem tU{x qual:Str}{params:Arguments}{scope:Scope}{f t:Addr}{fd:FuncData}{N:List Str}{p1 p2 p3 p4 p5 p6 p7:Pos}{i:Nat}
  (FD:FunD K x qual params [.Return (some (.Call (.Name "isinstance" p1) [.Name "value" p2,.Tuple [.Name "list" p3,.Name "tuple" p4] i p5] [] p6)) p7] scope [] [] f fd) (S:FnScope N ["value"] scope) (hb:L2.Binds K fd ["value"] [])
  (k0:IsL scope "value") (k1:gV scope "isinstance") (k2:gV scope "list") (k3:gV scope "tuple")
  (m1:mg "isinstance"=none) (m2:mg "list"=none) (m3:mg "tuple"=none) (hk:PySem.W.kitAny K (.type "tuple") [.type "list",.type "tuple"]=some true) (X:Fx K mg s.heap) (hroom:A.depth<recursionLimit) (ht:PySem.W.KitAt t "tuple" s.heap):
  codeAny (model P w) A (.call (.ref f) ⟨[.ref t],[]⟩) (fun r s'=>∃v,r= .ok (.ret v)∧v= .bool true∧bc s s') s:=by
 refine x_call FD S hb rfl X hroom fun cdv s1 xx=>?_
 have F:=f7 xx.toInCall
 have X1:=X.kept xx.toInCall.keep
 refine wpAny_execs_cons (wpAny_Return_some (wpAny_Call_Name_kw (ir X1 S.kind k1 rfl rfl m1 (by rfl) ?_ (by decide) (by decide))))
 refine PyProof.Rows.callWith_builtin1 ?_ rfl rfl
 refine Calls.spliced_cons (ldLoc F (bind1 k0) ?_ S.kind k0)
 refine Calls.spliced_cons (wpAny_Tuple_spliced (x1:=i) (Calls.spliced_cons (ir X1 S.kind k2 rfl rfl m2 (by rfl) (Calls.spliced_cons (ir X1 S.kind k3 rfl rfl m3 (by rfl) (Calls.spliced_nil ⟨by decide,Calls.spliced_nil ?_⟩) (by decide) (by decide))) (by decide) (by decide))))
 obtain⟨o,ho,hc⟩:=ht
 exact PySem.W.kia_tup PySem.W.kitx_tuple (X1.kept Kept.push).kin ⟨o,Kept.push _ _ (xx.toInCall.keep _ _ ho),hc⟩ (Heap.get?_push_size _ rfl) hk (fun z=>nomatch z) fun tk=>⟨rfl,(oz xx.toInCall).push.tok⟩
theorem jD{h:Heap}:∀ {xs:List Str} {us:List Value},Vals (xs.map V.str) us→PySem.W.HoldAll h us xs
 | [],us,r=>by
  cases r
  exact⟨_,.nil⟩
 |x::xs,us,r=>by
  cases r with
  |cons r1 r=>
   obtain⟨t,rfl⟩:=r1
   obtain⟨as,z⟩:=jD (h:=h) r
   exact⟨_,.cons (.str x t) z⟩
theorem uE{x qual:Str}{params:Arguments}{scope:Scope}{f d tp:Addr}{fd:FuncData}{N:List Str}{p1 p2 p3 p4 p5 p6 p7 p8 p9 p10 p11:Pos}{es:Array DictEntry}{n:Nat}{c r:Str}{tc tr:Tok}{rs:List Str}{its:Array Value}
  (FD:FunD K x qual params [.Return (some (.BoolOp .And [.Call (.Name "isinstance" p1) [.Name "value" p2,.Name "str" p3] [] p4,.Compare (.Name "value" p5) [.In] [.Subscript (.Name "RULES" p6) (.Name "case" p7) p8] p9] p10)) p11] scope [] [] f fd) (S:FnScope N ["case","value"] scope) (hb:L2.Binds K fd ["case","value"] [])
  (k0:IsL scope "value") (k1:IsL scope "case") (k2:gV scope "isinstance") (k3:gV scope "str") (k4:gV scope "RULES") (m1:mg "isinstance"=none) (m2:mg "str"=none) (m3:mg "RULES"=some (.ref d)) (hk:PySem.W.kitOne K (.type "str") (.type "str")=some true)
  (D:L2.KDict K w d es n) (he:PySem.W.nsIn K d c=some (some (.ref tp))) (X:Fx K mg s.heap) (hroom:A.depth<recursionLimit) (hu:A.units+100<cLine) (ht:s.heap.IsTuple tp its) (hr:Vals (rs.map V.str) its.toList) (hin:r∈rs):
  codeAny (model P w) A (.call (.ref f) ⟨[.str c tc,.str r tr],[]⟩) (fun r s'=>∃v,r= .ok (.ret v)∧v= .bool true∧bc s s') s:=by
 refine x_call FD S hb rfl X hroom fun cdv s1 xx=>?_
 have F:=f7 xx.toInCall
 have X1:=X.kept xx.toInCall.keep
 obtain⟨b1,b2⟩:=BA (kindOf:=(envOfC qual scope s.heap.objs.size f cdv).kindOf) (x:="case") (y:="value") (v:=Value.str c tc) (u:=Value.str r tr) k1 k0 (by decide)
 refine wpAny_execs_cons (wpAny_Return_some (BoolOp_and (wpAny_Call_Name_kw (ir X1 S.kind k2 rfl rfl m1 (by rfl) ?_ (by decide) (by decide)))))
 refine PyProof.Rows.callWith_builtin1 ?_ rfl rfl
 refine Calls.spliced_cons (ldLoc F b2 ?_ S.kind k0)
 refine Calls.spliced_cons (ir X1 S.kind k3 rfl rfl m2 (by rfl) (Calls.spliced_nil ?_) (by decide) (by decide))
 refine PySem.W.kia_one PySem.W.kitx_str X1.kin True.intro hk (fun z=>nomatch z) fun tk=>?_
 refine wpAny_truthy_bool ?_
 rw[if_pos rfl]
 refine BoolOp_one (wpAny_Compare1 ?_)
 refine ldLoc F b2 ?_ S.kind k0
 refine wpAny_Subscript_Name (T:="dict") PySem.F.slot_dict_getitem.lookup ?_
 refine eU X1 S.kind k4 rfl m3 ?_ (by decide)
 refine ldLoc F b1 ⟨(PySem.W.mapOf_K (prog:=P) (w:=w) X1.kin D.at_ D.lit).typeIs,?_⟩ S.kind k1
 refine wpAny_getItem_of (PySem.strKind_is P w c tc) (PySem.W.mapOf_K (prog:=P) X1.kin D.at_ D.lit) (PySem.W.find_K D.at_ he) ?_
 obtain⟨o,ho,hc⟩:=ht
 refine PySem.W.in_tuple_datum (xs:=rs) (x:=r) ⟨o,xx.toInCall.keep _ _ ho,hc⟩ (jD hr) ⟨_,.str r tr⟩ ?_ ?_
 ·show(A.deeper _).units+1+0<cLine
  rw[Around.deeper_units]
  omega
 ·rw[Ju hin]
  exact⟨rfl,(oz xx.toInCall).tok.tok⟩
end
def mY(K:PySem.W.Frag)(d:Addr)(c r:Str):Prop:=∃ (tp:Addr) (o:Obj) (its:Array Value) (n:Nat) (rs:List Str),PySem.W.nsIn K d c=some (some (.ref tp))∧K.lookup tp=some o∧o.cls= .type "tuple"∧o.data= .seq its n∧Vals (rs.map V.str) its.toList∧r∈rs
def og(P:Program)(w:World)(K:PySem.W.Frag)(mg:Str→Option Value)(d fr:Addr):Prop:=∀ (A:Around) (s:Shared) (c r:Str) (tc tr:Tok),Fx K mg s.heap→A.depth<recursionLimit→A.units+100<cLine→mY K d c r→
 codeAny (model P w) A (.call (.ref fr) ⟨[.str c tc,.str r tr],[]⟩) (fun z s'=>∃v,z= .ok (.ret v)∧v= .bool true∧bc s s') s
def xT(P:Program)(w:World)(K:PySem.W.Frag)(mg:Str→Option Value)(fl:Addr):Prop:=∀ (A:Around) (s:Shared) (t:Addr),Fx K mg s.heap→A.depth<recursionLimit→PySem.W.KitAt t "tuple" s.heap→
 codeAny (model P w) A (.call (.ref fl) ⟨[.ref t],[]⟩) (fun z s'=>∃v,z= .ok (.ret v)∧v= .bool true∧bc s s') s
section
variable {P:Program}{w:World}{A:Around}{K:PySem.W.Frag}{mg:Str→Option Value}{s s1:Shared}{env:Env}{L:Addr}{m:Str→Option Value}
theorem InCall.grown{s2:Shared}(x:InCall s L m s1)(g:bc s1 s2):InCall s L m s2:=by
 obtain⟨h,tk,e⟩:=x.same
 obtain⟨h2,tk2,rfl,k⟩:=g
 refine⟨⟨h2,tk2,by rw[e]⟩,x.ns.keeps k,fun b o q=>k b o (x.keep b o q),x.fresh⟩
theorem Bu{qual x:Str}{scope:Scope}{f:Addr}{cd v:Value}{Q:Unit→Shared→Prop}{E:Value→Shared→Prop}(x0:InCall s L m s1)(hk:scope.kind= .function)(hl:IsL scope x)
  (h:∀s2,InCall s L (fun y=>if y=x then some v else m y) s2→(∀b o,b≠L→s1.heap.get? b=some o→s2.heap.get? b=some o)→Q () s2):
  wpAny (model P w) A (assign (.Name x pos) (envOfC qual scope L f cd) v) Q E s1:=by
 have hp:((envOfC qual scope L f cd).scope.kind== .class||((envOfC qual scope L f cd).scope.kind== .module&&(envOfC qual scope L f cd).locals != (envOfC qual scope L f cd).globals))=false:=by
  show(scope.kind== .class||(scope.kind== .module&&_))=false
  rw[hk];rfl
 obtain⟨h0,tk,e0⟩:=x0.same
 refine wpAny_assign_Name (wpAny_storeName_local (env:=envOfC qual scope L f cd) hl x0.ns (fun h' hn' hs'=>h _ ⟨⟨h',_,by rw[e0]⟩,hn',fun b o e=>?_,x0.fresh⟩ fun b o hb e=>hs'.extBut b o hb e) hp)
 exact hs'.extBut b o (Jm (Jk (Heap.lt_size e) x0.fresh)) (x0.keep b o e)
end
theorem m9{xs:List Str}{us:List Value}(r:Vals (xs.map V.str) us){i:Nat}{u:Value}(e:us[i]? =some u):∃x t,xs[i]? =some x∧u= .str x t:=by
 induction xs generalizing us i with
 |nil=>cases r;simp at e
 |cons x xs ih=>
  cases r with
  |cons r1 r=>
   cases i with
   |zero=>
    obtain⟨t,rfl⟩:=r1
    cases e
    exact⟨x,t,rfl,rfl⟩
   |succ i=>exact ih r (by simpa using e)
theorem HG{b N:Nat}(hb:b<N):¬ (b=N+4∨b=N+3∨b=N∨b=N+1):=by omega
section
variable {P:Program}{w:World}{A:Around}{K:PySem.W.Frag}{mg:Str→Option Value}{s s1:Shared}{L:Addr}{m:Str→Option Value}
theorem CA{qual:Str}{scope:Scope}{f cT t d fr:Addr}{cd:Value}{cs rv:Array Value}{cases row:List Str}{bad:List Stmt}{q1 q2 q3 q4 q5 q6 q7 q8 q9 q10 q11 q12 q13 q14:Pos}{i1:Nat}{Q:Flow→Shared→Prop}
  (hk:scope.kind= .function) (k0:IsL scope "case") (k1:IsL scope "rule") (k2:IsL scope "rules") (k3:gV scope "zip") (k4:gV scope "CASES") (k5:gV scope "is_rule") (m1:mg "zip"=none) (m2:mg "CASES"=some (.ref cT)) (m3:mg "is_rule"=some (.ref fr)) (hkp:PySem.W.keepIn K (.ref fr)=true)
  (hh:A.handled=none) (hroom:A.depth<recursionLimit) (hu:A.units+100<cLine) (X:Fx K mg s.heap) (x0:InCall s L m s1) (hm:m "rules"=some (.ref t)) (hc:s.heap.IsTuple cT cs) (ht:s.heap.IsTuple t rv) (rc:Vals (cases.map V.str) cs.toList) (rr:Vals (row.map V.str) rv.toList)
  (says:og P w K mg d fr) (ok:∀ (i:Nat) (c r:Str),cases[i]? =some c→row[i]? =some r→mY K d c r)
  (h:∀s2 m2,InCall s L m2 s2→(∀y:Str,y≠ "case"→y≠ "rule"→m2 y=m y)→Q .next s2):
  wpAny (model P w) A (exec (.For (.Tuple [.Name "case" q1,.Name "rule" q2] i1 q3) (.Call (.Name "zip" q4) [.Name "CASES" q5,.Name "rules" q6] [] q7) [.If (.UnaryOp .Not (.Call (.Name "is_rule" q8) [.Name "case" q9,.Name "rule" q10] [] q11) q12) bad [] q13] [] q14) (envOfC qual scope L f cd)) Q (fun _ _=>False) s1:=by
 have X1:=X.kept x0.keep
 have hc1:s1.heap.IsTuple cT cs:=hc.at fun o e=>x0.keep _ o e
 have ht1:s1.heap.IsTuple t rv:=ht.at fun o e=>x0.keep _ o e
 have hltc:cT<s1.heap.objs.size:=by obtain⟨o,e,_⟩:=hc1;exact Heap.lt_size e
 have hltt:t<s1.heap.objs.size:=by obtain⟨o,e,_⟩:=ht1;exact Heap.lt_size e
 have hL:L<s1.heap.objs.size:=by obtain⟨o,_,_,e,_⟩:=x0.ns;exact Heap.lt_size e
 have low:∀ {b o},s.heap.get? b=some o→b<s1.heap.objs.size:=fun {b o} e=>Heap.lt_size (x0.keep b o e)
 refine exec_For_goes ?_
 refine wpAny_Call_Name_kw (ir X1 hk k3 rfl rfl m1 (by rfl) ?_ (by decide) (by decide))
 refine PyProof.Rows.callWith_type1 ?_ rfl rfl
 refine Calls.spliced_cons (eU X1 hk k4 rfl m2 ?_ (by decide))
 refine Calls.spliced_cons (ldLoc (f7 x0) hm (Calls.spliced_nil ?_) hk k2)
 refine zip_begins2 (begins_tuple cT cs) (begins_tuple t rv) hc1 ht1 fun h₁ hZ hTI hTO hi1 hi2 hz5 hk₁=>?_
 refine wpAny_pyIter_zip hZ ?_
 refine⟨_,_,_,_,_,_,fun i s2=>∃m2,InCall s L m2 s2∧(∀y:Str,y≠ "case"→y≠ "rule"→m2 y=m y),rfl,Goes.zip2 (zip_sep2 (N:=s1.heap.objs.size) (fp1:=[cT]) (fp2:=[t]) (fun b hb=>by rw[Jg.mp hb];exact hltc) (fun b hb=>by rw[Jg.mp hb];exact hltt))
   (.tuple (A:=A.in1) hh _ cT (Jm hltc) cs) (.tuple (A:=A.in1) hh _ t (Jm (Nat.lt_succ_of_lt hltt)) rv),
  ⟨hZ,hTI,⟨_,_,hTO⟩,⟨⟨_,hi1,rfl,rfl⟩,hc1.at fun o e=>hk₁ _ o e⟩,⟨⟨_,hi2,rfl,rfl⟩,ht1.at fun o e=>hk₁ _ o e⟩⟩,⟨m,?_,fun _ _ _=>rfl⟩,?_,?_,?_⟩
 ·exact InCall.grown x0 ⟨h₁,_,rfl,hk₁⟩
 ·rintro i s2 h' tk ⟨m2,x2,e2⟩ hk' _
  have off:∀b:Addr,b<s1.heap.objs.size→b∉[s1.heap.objs.size+4,s1.heap.objs.size+3,s1.heap.objs.size,s1.heap.objs.size+1]:=fun b hb z=>HG hb (by simpa using z)
  obtain⟨h2,tk2,es⟩:=x2.same
  exact⟨m2,⟨⟨h',tk,by rw[es]⟩,x2.ns.at' fun o e=>hk' _ o (off _ hL) e,fun b o e=>hk' b o (off _ (low e)) (x2.keep b o e),x2.fresh⟩,e2⟩
 ·rintro i v s2 hi ⟨T,x,y,rfl,hx,hy,hT⟩ st ⟨m2,x2,e2⟩
  have hx:cs[i]? =some x:=hx
  have hy:rv[i]? =some y:=hy
  obtain⟨c,tc,hc',rfl⟩:=m9 rc (i:=i) (u:=x) (by simpa using hx)
  obtain⟨r,tr,hr',rfl⟩:=m9 rr (i:=i) (u:=y) (by simpa using hy)
  refine wpAny_assign_Tuple hh hT rfl rfl fun h₅ hs₅=>?_
  have up₅:∀b o,s2.heap.get? b=some o→h₅.get? b=some o:=fun b o e=>hs₅ b o (Jm (Heap.lt_size e)) e
  show wpAny _ _ (assignInOrder [assign (.Name "case" q1) _,assign (.Name "rule" q2) _] [.str c tc,.str r tr]) _ _ _
  have x5:=InCall.grown x2 (s2:={ s2 with heap:=h₅}) ⟨h₅,_,rfl,up₅⟩
  refine wpAny_assignInOrder_more (Bu x5 hk k0 fun s6 x6 u6=>?_)
  refine wpAny_assignInOrder_more (Bu x6 hk k1 fun s7 x7 u7=>wpAny_assignInOrder_none ?_)
  have X7:=X.kept x7.keep
  refine wpAny_execs_cons (wpAny_If (isTrue_not (isTrue_plain (wpAny_Call_Name_kw (eU X7 hk k5 rfl m3 ?_ (by decide))))))
  refine PySem.W.callWith_K X7.kin hkp ?_ rfl rfl
  refine Calls.spliced_cons (ldLoc (f7 x7) (v:=.str c tc) rfl ?_ hk k0)
  refine Calls.spliced_cons (ldLoc (f7 x7) (v:=.str r tr) rfl (Calls.spliced_nil ⟨X7.kin,?_⟩) hk k1)
  refine wpAny_call (codeAny_mono (says A s7 c r tc tr X7 hroom hu (ok i c r hc' hr')) fun z s8 ⟨v,e,ev,g⟩=>?_)
  subst e
  subst ev
  refine wpAny_truthy_bool ?_
  show wpAny _ _ (execs [] _) _ _ _
  refine wpAny_execs_nil (wpAny_execs_nil ?_)
  refine⟨⟨_,InCall.grown x7 g,fun z h1 h2=>?_⟩,?_⟩
  ·show(if z=("rule":Str) then _ else if z=("case":Str) then _ else m2 z)=m z
   rw[if_neg h2,if_neg h1]
   exact e2 z h1 h2
  ·have up:∀b o,b≠L→s2.heap.get? b=some o→s8.heap.get? b=some o:=fun b o hb e=>g.kept b o (u7 b o hb (u6 b o hb (up₅ b o e)))
   have offL:∀b:Addr,s1.heap.objs.size≤b→b≠L:=fun b hb e=>JQ _ (Jk hL (e▸hb))
   have offc:cT≠L:=fun e=>JQ _ (Jk (by obtain⟨o,q,_⟩:=hc;exact Heap.lt_size q:cT<s.heap.objs.size) (e▸x0.fresh))
   have offt:t≠L:=fun e=>JQ _ (Jk (by obtain⟨o,q,_⟩:=ht;exact Heap.lt_size q:t<s.heap.objs.size) (e▸x0.fresh))
   obtain⟨z1,z2,⟨a1,a2,z3⟩,⟨z4,z5⟩,⟨z6,z7⟩⟩:=st
   exact⟨up _ _ (offL _ (JV _ _)) z1,up _ _ (offL _ (JV _ _)) z2,⟨a1,a2,up _ _ (offL _ (JV _ _)) z3⟩,⟨z4.at fun o e=>up _ o (offL _ (JD _)) e,z5.at fun o e=>up _ o offc e⟩,⟨z6.at fun o e=>up _ o (offL _ (Nat.le_succ _)) e,z7.at fun o e=>up _ o offt e⟩⟩
 ·rintro s2 ⟨m2,x2,e2⟩
  exact wpAny_execs_nil (h s2 m2 x2 e2)
end
structure Inst(h₀ h:Heap)(C a dx:Addr):Prop where
 keep:Kept h₀ h
 obj:h.get? a=some (PySem.W.instObj C dx)
 dict:h.get? dx=some PySem.W.emptyDict
 na:h₀.get? a=none
 nd:h₀.get? dx=none
 ne:dx≠a
theorem Inst.kept{h₀ h h':Heap}{C a dx:Addr}(x:Inst h₀ h C a dx)(k:Kept h h'):Inst h₀ h' C a dx:=⟨x.keep.trans k,k _ _ x.obj,k _ _ x.dict,x.na,x.nd,x.ne⟩
section
variable {P:Program}{w:World}{A:Around}{K:PySem.W.Frag}{mg:Str→Option Value}{s:Shared}{E:Value→Shared→Prop}
theorem D2{h₀:Heap}{L a C dx p:Addr}{f:Str}{m:Str→Option Value}{u:Value}{Q:Unit→Shared→Prop}(KX:K.In h₀)(F:Fr h₀ L s.heap m)(h:Inst h₀ s.heap C a dx)(aL:a≠L)(dL:dx≠L)(c:SlX.SCls K C)(t:SlX.Slot1 K C f p 0)
  (q:∀h',Kept h₀ h'→h'.get? a=some { PySem.W.instObj C dx with slots:= #[some u]}→h'.get? dx=some PySem.W.emptyDict→Q () { s with heap:=h',toks:=s.toks+1}):wpAny (model P w) A (setAttr (.ref a) f u) Q E s:=by
 have N:News h₀ L s.heap [(a,PySem.W.instObj C dx),(dx,PySem.W.emptyDict)]:=fun p hp=>by
  rcases Jj.mp hp with rfl|hp
  ·exact⟨h.obj,aL,h.na⟩
  ·rw[Jg.mp hp]
   exact⟨h.dict,dL,h.nd⟩
 refine PySem.W.set_slot (od:=PySem.W.emptyDict) (i:=0) F KX N ⟨h.obj,rfl,rfl,h.dict⟩ c.sa c.po t.taker t.ty t.ix t.lt rfl rfl (PySem.W.Upd.head fun p hp=>by rw[Jg.mp hp];exact h.ne) fun h' F' N'=>?_
 exact q h' F'.keep (N' _ Jf).1 (N' _ (Je _ Jf)).1
end
structure TabW(P:Program)(w:World)(K:PySem.W.Frag)(mg:Str→Option Value)(C cT:Addr)(cs:Array Value)(cases:List Str)(d:Addr):Prop where
 cls:SlX.SCls K C
 slot:∃p,SlX.Slot1 K C "rules" p 0
 lst:∃fl,xT P w K mg fl∧mg "is_list"=some (.ref fl)∧PySem.W.keepIn K (.ref fl)=true
 rul:∃fr,og P w K mg d fr∧mg "is_rule"=some (.ref fr)∧PySem.W.keepIn K (.ref fr)=true
 glb:mg "CASES"=some (.ref cT)
 zip:mg "zip"=none
 len:mg "len"=none
 tup:mg "tuple"=none
 obj:∃o n,K.lookup cT=some o∧o.cls= .type "tuple"∧o.data= .seq cs n
 txt:Vals (cases.map V.str) cs.toList
section
variable {P:Program}{w:World}{K:PySem.W.Frag}{mg:Str→Option Value}{s:Shared}{A:Around}
theorem Ei{x qual:Str}{params:Arguments}{scope:Scope}{f a C dx cT t d:Addr}{fd:FuncData}{N:List Str}{cs rv:Array Value}{cases row:List Str}{bad bad2:List Stmt}{g1 g2 g3 g4 g5 g6 g7 g8 g9 g10 g11 g12 g13 q1 q2 q3 q4 q5 q6 q7 q8 q9 q10 q11 q12 q13 q14 r1 r2 r3 r4 r5 r6:Pos}{i1:Nat}
  (FD:FunD K x qual params [.If (.BoolOp .Or [.UnaryOp .Not (.Call (.Name "is_list" g1) [.Name "rules" g2] [] g3) g4,.Compare (.Call (.Name "len" g5) [.Name "rules" g6] [] g7) [.NotEq] [.Call (.Name "len" g8) [.Name "CASES" g9] [] g10] g11] g12) bad2 [] g13,
   .For (.Tuple [.Name "case" q1,.Name "rule" q2] i1 q3) (.Call (.Name "zip" q4) [.Name "CASES" q5,.Name "rules" q6] [] q7) [.If (.UnaryOp .Not (.Call (.Name "is_rule" q8) [.Name "case" q9,.Name "rule" q10] [] q11) q12) bad [] q13] [] q14,
   .Assign [.Attribute (.Name "self" r1) "rules" r2] (.Call (.Name "tuple" r3) [.Name "rules" r4] [] r5) r6] scope [] [] f fd) (S:FnScope N ["self","rules"] scope) (hb:L2.Binds K fd ["self","rules"] [])
  (k0:IsL scope "case") (k1:IsL scope "rule") (k2:IsL scope "rules") (k6:IsL scope "self") (k3:gV scope "zip") (k4:gV scope "CASES") (k5:gV scope "is_rule") (k7:gV scope "is_list") (k8:gV scope "len") (k9:gV scope "tuple")
  (T:TabW P w K mg C cT cs cases d) {h₀:Heap} (hh:A.handled=none) (hroom:A.depth+1<recursionLimit) (hu:A.units+200<cLine) (XX:Fx K mg h₀) (hs:Inst h₀ s.heap C a dx) (hsz:h₀.objs.size≤s.heap.objs.size) (ht:s.heap.IsTuple t rv) (rr:Vals (row.map V.str) rv.toList) (hlen:row.length=cases.length) (hsm:cases.length<1000)
  (ok:∀ (i:Nat) (c r:Str),cases[i]? =some c→row[i]? =some r→mY K d c r):
  codeAny (model P w) A (.call (.ref f) ⟨[.ref a,.ref t],[]⟩) (fun z s'=>∃v,z= .ok (.ret v)∧v= .none∧∃h' tk,s'={ s with heap:=h',toks:=tk}∧Kept h₀ h'∧h'.get? a=some { PySem.W.instObj C dx with slots:= #[some (.ref t)]}∧h'.get? dx=some PySem.W.emptyDict) s:=by
 obtain⟨fl,sl,ml,kl⟩:=T.lst
 obtain⟨fr,sr,mr,kr⟩:=T.rul
 obtain⟨p,sp⟩:=T.slot
 obtain⟨oT,nT,lkT,cT1,dT⟩:=T.obj
 have X0:Fx K mg s.heap:=XX.kept hs.keep
 have hcT:s.heap.IsTuple cT cs:=⟨oT,X0.kin _ _ lkT,cT1,nT,dT⟩
 have zc:cs.size=cases.length:=by
  have:=T.txt.length
  simpa using this.symm
 have zr:rv.size=row.length:=by
  have:=rr.length
  simpa using this.symm
 have hd1:A.depth<recursionLimit:=Nat.lt_of_succ_lt hroom
 refine x_call FD S hb rfl X0 hd1 fun cdv s1 xx=>?_
 obtain⟨b1,b2⟩:=BA (kindOf:=(envOfC qual scope s.heap.objs.size f cdv).kindOf) (x:="self") (y:="rules") (v:=Value.ref a) (u:=Value.ref t) k6 k2 (by decide)
 obtain⟨m,x1,b1,b2⟩:∃m:Str→Option Value,InCall s s.heap.objs.size m s1∧m "self"=some (.ref a)∧m "rules"=some (.ref t):=⟨_,xx.toInCall,b1,b2⟩
 have X1:=X0.kept x1.keep
 have dd:(A.deeper (envOfC qual scope s.heap.objs.size f cdv)).depth<recursionLimit:=hroom
 have du:(A.deeper (envOfC qual scope s.heap.objs.size f cdv)).units+100<cLine:=by rw[Around.deeper_units];omega
 have n63:=line63
 refine wpAny_execs_cons (wpAny_If (isTrue_or (isTrue_not (isTrue_plain (wpAny_Call_Name_kw (eU X1 S.kind k7 rfl ml ?_ (by decide)))))))
 refine PySem.W.callWith_K X1.kin kl ?_ rfl rfl
 refine Calls.spliced_cons (ldLoc (f7 x1) b2 (Calls.spliced_nil ⟨X1.kin,?_⟩) S.kind k2)
 obtain⟨ot,eot,cot,dot⟩:=ht
 refine wpAny_call (codeAny_mono (sl _ s1 t X1 dd ⟨ot,x1.keep _ _ eot,cot⟩) fun z s2 ⟨v,e,ev,g2⟩=>?_)
 subst e
 subst ev
 refine wpAny_truthy_bool ?_
 have x2:=InCall.grown x1 g2
 have X2:=X0.kept x2.keep
 show wpAny _ _ (isTrue (.BoolOp .Or _ _) _ _) _ _ _
 refine isTrue_or (wpAny_isTrue_Compare1 (wpAny_Call_Name_kw (ir X2 S.kind k8 rfl rfl T.len (by rfl) ?_ (by decide) (by decide))))
 refine PyProof.Rows.callWith_builtin1 ?_ rfl rfl
 refine Calls.spliced_cons (ldLoc (f7 x2) b2 (Calls.spliced_nil ?_) S.kind k2)
 refine len_tuple (t:=t) (items:=rv) ⟨ot,x2.keep _ _ eot,cot,dot⟩ (by omega) ?_
 have x3:=InCall.grown x2 (s2:={ s2 with toks:=s2.toks+1+1}) ⟨s2.heap,_,rfl,.refl⟩
 have X3:=X0.kept x3.keep
 refine wpAny_Call_Name_kw (ir X3 S.kind k8 rfl rfl T.len (by rfl) ?_ (by decide) (by decide))
 refine PyProof.Rows.callWith_builtin1 ?_ rfl rfl
 refine Calls.spliced_cons (eU X3 S.kind k4 rfl T.glb (Calls.spliced_nil ?_) (by decide))
 refine len_tuple (t:=cT) (items:=cs) ⟨oT,X3.kin _ _ lkT,cT1,nT,dT⟩ (by omega) ?_
 have x4:=InCall.grown x3 (s2:={ s2 with toks:=s2.toks+1+1+1+1}) ⟨s2.heap,_,rfl,.refl⟩
 refine ne_int ?_
 rw[show((rv.size:Int) != (cs.size:Int))=false by rw[zr,zc,hlen];simp]
 refine wpAny_truthy_bool ?_
 show wpAny _ _ (isTrue (.BoolOp .Or [] _) _ _) _ _ _
 refine isTrue_or_nil ?_
 show wpAny _ _ (execs [] _) _ _ _
 refine wpAny_execs_nil ?_
 refine wpAny_execs_cons (CA S.kind k0 k1 k2 k3 k4 k5 T.zip T.glb mr kr hh dd du X0 x4 b2 hcT ⟨ot,eot,cot,dot⟩ T.txt rr sr ok fun s5 m5 x5 e5=>?_)
 have c5:m5 "rules"=some (.ref t):=(e5 _ (by decide) (by decide)).trans b2
 have d5:m5 "self"=some (.ref a):=(e5 _ (by decide) (by decide)).trans b1
 have X5:=X0.kept x5.keep
 refine wpAny_execs_cons (plainObj_wpAny_Assign_Attribute ?_)
 refine wpAny_Call_Name_kw (ir X5 S.kind k9 rfl rfl T.tup (by rfl) ?_ (by decide) (by decide))
 refine PyProof.Rows.callWith_type1 ?_ rfl rfl
 refine Calls.spliced_cons (ldLoc (f7 x5) c5 (Calls.spliced_nil ?_) S.kind k2)
 refine call_tuple_same (items:=rv) ⟨ot,x5.keep _ _ eot,cot,dot⟩ ?_
 refine ldLoc (f7 x5) d5 ?_ S.kind k6
 obtain⟨h5,tk5,e5⟩:=x5.same
 have la:∀ {b o},s.heap.get? b=some o→b≠s.heap.objs.size:=fun {b o} e=>Jm (Heap.lt_size e)
 have F5:Fr h₀ s.heap.objs.size s5.heap m5:=⟨x5.ns,hs.keep.trans x5.keep,hsz⟩
 refine D2 XX.kin F5 (hs.kept x5.keep) (la hs.obj) (la hs.dict) T.cls sp fun h6 k6 o6 d6=>wpAny_execs_nil ?_
 exact⟨rfl,h6,_,by rw[e5],k6,o6,d6⟩
end
def lS(P:Program)(w:World)(K:PySem.W.Frag)(mg:Str→Option Value)(C f:Addr)(ok:List Str→Prop):Prop:=∀ (h₀:Heap) (s:Shared) (A:Around) (a dx t:Addr) (rv:Array Value) (row:List Str),Room 0 A→Fx K mg h₀→Inst h₀ s.heap C a dx→h₀.objs.size≤s.heap.objs.size→s.heap.IsTuple t rv→Vals (row.map V.str) rv.toList→ok row→
 codeAny (model P w) A (.call (.ref f) ⟨[.ref a,.ref t],[]⟩) (fun z s'=>∃v,z= .ok (.ret v)∧v= .none∧∃h' tk,s'={ s with heap:=h',toks:=tk}∧Kept h₀ h'∧h'.get? a=some { PySem.W.instObj C dx with slots:= #[some (.ref t)]}∧h'.get? dx=some PySem.W.emptyDict) s
structure TabAt(h:Heap)(C a dx t:Addr):Prop where
 obj:h.get? a=some { PySem.W.instObj C dx with slots:= #[some (.ref t)]}
 dict:h.get? dx=some PySem.W.emptyDict
 ne:dx≠a
section
variable {P:Program}{w:World}{K:PySem.W.Frag}{mg:Str→Option Value}{s:Shared}{A:Around}{C f:Addr}{ok:List Str→Prop}
theorem rS{t:Addr}{rv:Array Value}{row:List Str}(M:Mk K C f)(hi:lS P w K mg C f ok)(hr:Room 1 A)(X:Fx K mg s.heap)(ht:s.heap.IsTuple t rv)(rr:Vals (row.map V.str) rv.toList)(hok:ok row){Q:Value→Shared→Prop}{E:Value→Shared→Prop}
  (q:∀a dx h' tk,s.heap.objs.size≤a→s.heap.objs.size≤dx→Kept s.heap h'→TabAt h' C a dx t→Q (.ref a) { s with heap:=h',toks:=tk}):wpAny (model P w) A (call (.ref C) [.ref t]) Q E s:=by
 have k1:Kept s.heap ((s.heap.push PySem.W.emptyDict).push (PySem.W.instObj C s.heap.objs.size)):=Kept.push.trans .push
 have ne:s.heap.objs.size≠s.heap.objs.size+1:=Jm (Nat.lt_succ_self _)
 have e1:(s.heap.push PySem.W.emptyDict).get? s.heap.objs.size=some PySem.W.emptyDict:=Heap.get?_push_size s.heap rfl
 have e2:((s.heap.push PySem.W.emptyDict).push (PySem.W.instObj C s.heap.objs.size)).get? (s.heap.objs.size+1)=some (PySem.W.instObj C s.heap.objs.size):=by
  have:=Heap.get?_push_size (s.heap.push PySem.W.emptyDict) (o:=PySem.W.instObj C s.heap.objs.size) rfl
  rwa [Heap.size_push] at this
 have no:∀b,s.heap.objs.size≤b→s.heap.get? b=none:=fun b hb=>by
  cases e:s.heap.get? b with
  |none=>rfl
  |some o=>exact absurd (Heap.lt_size e) (Nat.not_lt.mpr hb)
 have I:Inst s.heap ((s.heap.push PySem.W.emptyDict).push (PySem.W.instObj C s.heap.objs.size)) C (s.heap.objs.size+1) s.heap.objs.size:=⟨k1,e2,Kept.push _ _ e1,no _ (Nat.le_succ _),no _ (JD _),ne⟩
 refine wpAny_call (make_map (f:=f) X.kin M.makes M.init (beq_iff_eq.mp M.fn) (codeAny_mono (hi s.heap _ _ _ _ t rv row (hr.make C [.ref t] []) X I (by rw[Heap.size_push,Heap.size_push];exact JV _ 2) (ht.at fun o e=>k1 _ o e) rr hok) fun z s' ⟨v,e,ev,h',tk,es,kp,o1,o2⟩=>?_))
 subst e
 subst ev
 subst es
 exact⟨rfl,q _ _ h' tk (Nat.le_succ _) (JD _) kp ⟨o1,o2,ne⟩⟩
end
def rA(h:Heap)(a:Addr):Prop:=∃o,h.get? a=some o∧o.dict=none
theorem rA.at{h h':Heap}{a:Addr}(x:rA h a)(k:∀o,h.get? a=some o→h'.get? a=some o):rA h' a:=let⟨o,e,d⟩:=x;⟨o,k o e,d⟩
def Cp(h:Heap)(v:Value)(row:List Str):Prop:=∃a its,v= .ref a∧h.IsTuple a its∧Vals (row.map V.str) its.toList∧rA h a
inductive TupRs(h:Heap):List Value→List (List Str)→Prop
 |nil:TupRs h [] []
 |cons {v:Value} {row:List Str} {vs:List Value} {rows:List (List Str)}:Cp h v row→TupRs h vs rows→TupRs h (v::vs) (row::rows)
def bM(P:Addr→Prop)(vs:List Value):Prop:=∀a,Value.ref a∈vs→P a
section
variable {h h':Heap}{P:Addr→Prop}
theorem TupRs.move:∀ {vs:List Value} {rows:List (List Str)},TupRs h vs rows→bM P vs→(∀b o,P b→h.get? b=some o→h'.get? b=some o)→TupRs h' vs rows
 |_,_,.nil,_,_=>.nil
 |_,_,.cons ⟨a,its,e,ht,r,nd⟩ t,al,k=>.cons ⟨a,its,e,ht.at fun o q=>k _ o (al a (by rw[e];exact Jf)) q,r,nd.at fun o q=>k _ o (al a (by rw[e];exact Jf)) q⟩ (t.move (fun b hb=>al b (Je _ hb)) k)
theorem TupRs.kept{vs:List Value}{rows:List (List Str)}(t:TupRs h vs rows)(k:Kept h h'):TupRs h' vs rows:=t.move (P:=fun _=>True) (fun _ _=>trivial) fun b o _ e=>k b o e
theorem TupRs.snoc:∀ {vs:List Value} {rows:List (List Str)} {v:Value} {row:List Str},TupRs h vs rows→Cp h v row→TupRs h (vs++[v]) (rows++[row])
 |_,_,_,_,.nil,r=>.cons r .nil
 |_,_,_,_,.cons q t,r=>.cons q (t.snoc r)
theorem TupRs.length:∀ {vs:List Value} {rows:List (List Str)},TupRs h vs rows→vs.length=rows.length
 |_,_,.nil=>rfl
 |_,_,.cons _ t=>congrArg (· +1) t.length
theorem TupRs.at_:∀ {vs:List Value} {rows:List (List Str)} {i:Nat} {v:Value},TupRs h vs rows→vs[i]? =some v→∃row,rows[i]? =some row∧Cp h v row
 |_,_,i,v,.nil,e=>by simp at e
 |_,_,0,v,.cons q t,e=>by
  cases e
  exact⟨_,rfl,q⟩
 |_,_,i+1,v,.cons q t,e=>t.at_ (i:=i) (by simpa using e)
theorem TupRs.low:∀ {vs:List Value} {rows:List (List Str)},TupRs h vs rows→bM (fun b=>b<h.objs.size) vs
 |_,_,.nil=>fun b hb=>nomatch hb
 |_,_,.cons ⟨a,its,e,⟨o,ho,_⟩,r⟩ t=>fun b hb=>by
  rcases Jj.mp hb with z|z
  ·rw[e] at z
   cases z
   exact Heap.lt_size ho
  ·exact t.low b z
theorem bM.snoc{vs:List Value}{a:Addr}(x:bM P vs)(y:P a):bM P (vs++[.ref a]):=fun b hb=>by
 rcases Jv.mp hb with z|z
 ·exact x b z
 ·cases Jg.mp z
  exact y
theorem bM.imp{Q:Addr→Prop}{vs:List Value}(x:bM P vs)(k:∀b,P b→Q b):bM Q vs:=fun b hb=>k b (x b hb)
theorem bM.and{Q:Addr→Prop}{vs:List Value}(x:bM P vs)(y:bM Q vs):bM (fun b=>P b∧Q b) vs:=fun b hb=>⟨x b hb,y b hb⟩
end
def bp(refs:List Value):List Addr:=refs.filterMap fun v=>match v with| .ref a=>some a|_=>none
theorem aY{refs:List Value}{a:Addr}:a∈bp refs↔Value.ref a∈refs:=by
 unfold bp
 rw[List.mem_filterMap]
 constructor
 ·rintro⟨v,h1,h2⟩
  split at h2
  ·cases h2;exact h1
  ·cases h2
 ·exact fun h=>⟨_,h,rfl⟩
theorem qG{refs:List Value}{a:Addr}:bp (refs++[.ref a])=bp refs++[a]:=by
 unfold bp
 rw[List.filterMap_append]
 rfl
theorem rB{refs:List Value}{a:Addr}(h:(bp refs).Nodup)(n:Value.ref a∉refs):(bp (refs++[.ref a])).Nodup:=by
 rw[qG]
 refine List.nodup_append.mpr ⟨h,List.nodup_cons.mpr ⟨List.not_mem_nil,List.nodup_nil⟩,fun x hx y hy e=>n (aY.mp ?_)⟩
 rw[Jg.mp hy] at e
 rw[← e];exact hx
section
variable {P:Program}{w:World}{A:Around}{s:Shared}{E:Value→Shared→Prop}
theorem DW{t b:Addr}{its:Array Value}{row:List Str}{x:Str}{tk:Tok}{Q:Value→Shared→Prop}(ht:s.heap.IsTuple t its)(hb:s.heap.IsTuple b #[.str x tk])(hbd:rA s.heap b)(r:Vals (row.map V.str) its.toList)(hz:row.length<1000)
  (h:∀a its' s',bc s s'→s'.heap.IsTuple a its'→Vals ((row++[x]).map V.str) its'.toList∧rA s'.heap a→(a=b∨s.heap.objs.size≤a)→Q (.ref a) s'):wpAny (model P w) A (binaryOp .Add (.ref t) (.ref b)) Q E s:=by
 obtain⟨⟨cls,dd,data,sl⟩,ho,hc,n,hd⟩:=id ht
 obtain⟨⟨cls2,dd2,data2,sl2⟩,ho2,hc2,n2,hd2⟩:=id hb
 simp only at hc hd hc2 hd2
 subst hc hd hc2 hd2
 have el:its.size=row.length:=by
  have:=r.length
  simpa using this.symm
 by_cases hv:its.isEmpty=true
 ·refine concat_meets ⟨_,ho,rfl⟩ ⟨_,ho2,rfl⟩ noFill_tuple_add seq_tuple_add PySem.F.slot_tuple_add PySem.F.entry_tuple_add (PySem.F.args_tuple_add_2 _ _) (tuple_addW0 t b its #[.str x tk] n n2 dd dd2 sl sl2 hv) ⟨ho,ho2,?_⟩
  have e0:row=[]:=by
   have:its.size=0:=by simpa using hv
   exact List.length_eq_zero_iff.mp (el▸this)
  subst e0
  exact h b _ _ ⟨_,_,rfl,.refl⟩ hb ⟨.cons ⟨tk,rfl⟩ .nil,hbd⟩ (.inl rfl)
 ·refine concat_meets ⟨_,ho,rfl⟩ ⟨_,ho2,rfl⟩ noFill_tuple_add seq_tuple_add PySem.F.slot_tuple_add PySem.F.entry_tuple_add (PySem.F.args_tuple_add_2 _ _) (tuple_addW2 t b its #[.str x tk] n n2 dd dd2 sl sl2 hv (by simp) (by
   rw[el]
   show row.length+1≤sizeLine
   have:1000≤sizeLine:=by decide
   omega)) ⟨ho,ho2,?_⟩
  refine h s.heap.objs.size _ _ ⟨_,_,rfl,.push⟩ ⟨_,Heap.get?_push_size _ rfl,rfl,_,rfl⟩ ⟨?_,_,Heap.get?_push_size _ rfl,rfl⟩ (.inr (JD _))
  rw[List.map_append]
  simp only[Array.toList_append]
  exact r.append (.cons ⟨tk,rfl⟩ .nil)
end
def dz(rs:List Str)(rows:List (List Str)):List (List Str):=rows.flatMap fun row=>rs.map fun r=>row++[r]
theorem pX{rs:List Str}{rows:List (List Str)}{i:Nat}{row:List Str}(e:rows[i]? =some row):dz rs (rows.take (i+1))=dz rs (rows.take i)++rs.map fun r=>row++[r]:=by
 unfold dz
 rw[List.take_add_one,e]
 simp
def gZ(K:PySem.W.Frag)(d:Addr)(c:Str)(rs:List Str):Prop:=∃ (tp:Addr) (o:Obj) (its:Array Value) (n:Nat),PySem.W.nsIn K d c=some (some (.ref tp))∧K.lookup tp=some o∧o.cls= .type "tuple"∧o.data= .seq its n∧Vals (rs.map V.str) its.toList
structure GenW0(scope csc:Scope):Prop where
 kind:scope.kind= .function
 ckind:csc.kind= .function
 cnoc:∀y∈csc.names,y.2≠ .cell
 cnames:∀y∈csc.names,y.2= .local→csc.names.lookup y.1=some .local
 rows:IsL scope "rows"
 row:IsL scope "row"
 case_:scope.names.lookup ("case":Str)=some .cell
 cases:gV scope "CASES"
 table:gV scope "Table"
 kr:∀ (qual:Str) (L f:Addr) (cd:Value) (cl:List (Str×Addr)) (C:Addr),(compEnvC csc cl C (envOfC qual scope L f cd)).kindOf "row"=some .local
 ku:∀ (qual:Str) (L f:Addr) (cd:Value) (cl:List (Str×Addr)) (C:Addr),(compEnvC csc cl C (envOfC qual scope L f cd)).kindOf "rule"=some .local
 kc:∀ (qual:Str) (L f:Addr) (cd:Value) (cl:List (Str×Addr)) (C:Addr),(compEnvC csc cl C (envOfC qual scope L f cd)).kindOf "case"=some .cell
 kg:∀ (qual:Str) (L f:Addr) (cd:Value) (cl:List (Str×Addr)) (C:Addr),(compEnvC csc cl C (envOfC qual scope L f cd)).kindOf "RULES"=some .globalImplicit
 clo:∀ (qual:Str) (L f:Addr) (cd:Value) (c:Addr),(cellsFrom (L+1) scope.names []).lookup ("case":Str)=some c→∃cl,closureFor csc (envOfC qual scope L f cd)=pure cl∧cl.lookup ("case":Str)=some c
theorem jN{rs:List Str}:∀rows:List (List Str),(dz rs rows).length=rows.length*rs.length
 | []=>by simp[dz]
 |r::t=>by
  have:=jN (rs:=rs) t
  unfold dz at this ⊢
  simp only[List.flatMap_cons,JF,Jt,JK,this]
  rw[Nat.add_mul,Nat.one_mul,Nat.add_comm]
section
variable {P:Program}{w:World}{A:Around}{K:PySem.W.Frag}{mg:Str→Option Value}{s0 s:Shared}{L:Addr}{m cm:Str→Option Value}
theorem InCallC.grown{s2:Shared}{cells:List (Str×Addr)}(x:InCallC s0 L m cells cm s)(g:bc s s2):InCallC s0 L m cells cm s2:=
 ⟨InCall.grown x.toInCall g,fun n c e=>(x.cell n c e).keeps g.kept,x.apart,x.above⟩
theorem DH{qual:Str}{scope csc:Scope}{f d R:Addr}{cd:Value}{refs:List Value}{rows:List (List Str)}{c:Str}{tc:Tok}{rs:List Str}{es:Array DictEntry}{n:Nat}{c1 c2 c3 c4 c5 c6 c7 c8 c9 c10 c11 c12 c13:Pos}{i0:Nat}{Q:Flow→Shared→Prop}
  (S:GenW0 scope csc) (hh:A.handled=none) (X:Fx K mg s0.heap) (D:L2.KDict K w d es n) (mR:mg "RULES"=some (.ref d)) (hr:gZ K d c rs) (hsw:swapsWith (.ListComp (.BinOp (.Name "row" c2) .Add (.Tuple [.Name "rule" c3] i0 c4) c5) [⟨.Name "row" c6,.Name "rows" c7,[],0⟩,⟨.Name "rule" c8,.Subscript (.Name "RULES" c9) (.Name "case" c10) c11,[],0⟩] csc c12) (some (.Name "rows" c1)) c13.line (envOfC qual scope L f cd)=pure true)
  (x0:InCallC s0 L m (envOfC qual scope L f cd).cells cm s) (hm:m "rows"=some (.ref R)) (hc:cm "case"=some (.str c tc)) (hcell:∃a,(cellsFrom (L+1) scope.names []).lookup ("case":Str)=some a) (hR:s.heap.IsList R refs.toArray) (tr:TupRs s.heap refs rows)
  (hz:∀row∈rows,row.length<1000) (hn:rows.length*rs.length<100000)
  (h:∀R' refs' s',InCallC s0 L (fun y=>if y=("rows":Str) then some (.ref R') else m y) (envOfC qual scope L f cd).cells cm s'→s'.heap.IsList R' refs'.toArray→TupRs s'.heap refs' (dz rs rows)→(∀b o,b≠L→s.heap.get? b=some o→s'.heap.get? b=some o)→(s.heap.objs.size≤R'∧bM (fun b=>s.heap.objs.size≤b) refs'∧(bp refs').Nodup)→Q .next s'):
  wpAny (model P w) A (exec (.Assign [.Name "rows" c1] (.ListComp (.BinOp (.Name "row" c2) .Add (.Tuple [.Name "rule" c3] i0 c4) c5) [⟨.Name "row" c6,.Name "rows" c7,[],0⟩,⟨.Name "rule" c8,.Subscript (.Name "RULES" c9) (.Name "case" c10) c11,[],0⟩] csc c12) c13) (envOfC qual scope L f cd)) Q (fun _ _=>False) s:=by
 obtain⟨ca,eca⟩:=hcell
 obtain⟨cl,hcl,ecl⟩:=S.clo qual L f cd ca eca
 obtain⟨tp,oT,its,nT,hns,lkT,cT1,dT,rT⟩:=hr
 have hltR:R<s.heap.objs.size:=by obtain⟨o,e,_⟩:=hR;exact Heap.lt_size e
 have hL:L<s.heap.objs.size:=by obtain⟨o,_,_,e,_⟩:=x0.toInCall.ns;exact Heap.lt_size e
 have hca:s.heap.IsCell ca (some (.str c tc)):=hc▸x0.cell _ _ eca
 have zT:its.size=rs.length:=by
  have:=rT.length
  simpa using this.symm
 refine Assign_ListComp2_goes hsw hcl S.cnoc S.ckind S.cnames ?_
 refine ldLoc (f7 x0.toInCall) hm ?_ S.kind S.rows
 refine wpAny_pyIter_list hR ?_
 generalize hs2:({ s with heap:=s.heap.push { cls:=.type "list_iterator",data:=.fields #[.ref R,.int 0 0]}}:Shared)=s2
 have h2:s2.heap=s.heap.push { cls:=.type "list_iterator",data:=.fields #[.ref R,.int 0 0]}:=by rw[← hs2]
 have g2:bc s s2:=⟨_,s.toks,by rw[← hs2],.push⟩
 have z2:s2.heap.objs.size=s.heap.objs.size+1:=by rw[h2,Heap.size_push]
 have it2:s2.heap.IsListIter s.heap.objs.size R 0:=⟨_,by rw[h2];exact Heap.get?_push_size _ rfl,rfl,rfl⟩
 refine⟨_,_,_,_,_,_,rfl,Goes.list hh s.heap.objs.size R (Jm hltR) refs.toArray,⟨it2,hR.at fun o e=>g2.kept _ o e⟩,fun b hb=>?_,fun DD C s3 B=>?_⟩
 ·rw[Jg.mp hb,z2]
  exact Nat.lt_succ_self _
 obtain⟨⟨h3,tk3,rfl⟩,old3,nD,nC,neDC,nm3⟩:=B
 have g3:bc s { s2 with heap:=h3,toks:=tk3}:=g2.trans ⟨h3,tk3,rfl,old3⟩
 have nD':s.heap.objs.size<DD:=by rw[z2] at nD;exact nD
 have nC':s.heap.objs.size<C:=by rw[z2] at nC;exact nC
 have ckind:(compEnvC csc cl C (envOfC qual scope L f cd)).scope.kind= .function:=S.ckind
 have hp:((compEnvC csc cl C (envOfC qual scope L f cd)).scope.kind== .class||((compEnvC csc cl C (envOfC qual scope L f cd)).scope.kind== .module&&(compEnvC csc cl C (envOfC qual scope L f cd)).locals != (compEnvC csc cl C (envOfC qual scope L f cd)).globals))=false:=by
  rw[ckind];rfl
 let Pt:Addr→Prop:=fun b=>s.heap.objs.size<b∧b≠DD∧b≠C
 refine⟨fun i ys s1=>bc s s1∧(∃m1,s1.heap.Ns C m1)∧TupRs s1.heap ys (dz rs (rows.take i))∧bM Pt ys∧(bp ys).Nodup,fun _ _=>False,⟨g3,⟨_,nm3⟩,by rw[List.take_zero];exact .nil,fun b hb=>(nomatch hb),List.nodup_nil⟩,fun _ _ z=>z.elim,?_,fun x=>rfl,?_,?_⟩
 ·rintro i ys s1 h' tk ⟨g,⟨m1,n1⟩,t1,al,nd⟩ hk _
  have off:∀b:Addr,s.heap.objs.size≠b→b∉[s.heap.objs.size]:=fun b hb z=>hb (Jg.mp z).symm
  obtain⟨h1,tk1,rfl,k1⟩:=g
  exact⟨⟨h',tk,rfl,fun b o e=>hk b o (off b (JA (Heap.lt_size e))) (k1 b o e)⟩,⟨m1,n1.at' fun o e=>hk _ o (off _ (Jm nC')) e⟩,t1.move al fun b o hb e=>hk b o (off b (Jm hb.1)) e,al,nd⟩
 ·rintro i v ys s1 hi hv st ⟨g,⟨m1,n1⟩,t1,al,nd⟩ hpl
  have hi':i<refs.length:=by simpa using hi
  have hv':refs[i]? =some v:=by simpa using hv
  obtain⟨row,erow,ta,tits,rfl,htup0,rtup⟩:=tr.at_ hv'
  have hta:ta<s.heap.objs.size:=by obtain⟨o,e,_⟩:=htup0;exact Heap.lt_size e
  have hrow:row.length<1000:=hz row (Js erow)
  refine wpAny_assign_Name (wpAny_storeName_local (S.kr qual L f cd cl C) n1 (fun h4 n4 sb4=>?_) hp)
  have up4:∀b o,b≠C→s1.heap.get? b=some o→h4.get? b=some o:=fun b o hb e=>sb4.extBut b o hb e
  obtain⟨hg,tkg,eg,kg⟩:=id g
  have g4:bc s { s1 with heap:=h4,toks:=s1.toks+1}:=⟨h4,_,by rw[eg],fun b o e=>up4 b o (Jm (JO (Heap.lt_size e) nC')) (by rw[eg];exact kg b o e)⟩
  generalize hs4:({ s1 with heap:=h4,toks:=s1.toks+1}:Shared)=s4 at g4
  have e4:s4.heap=h4:=by rw[← hs4]
  rw[← e4] at n4 up4
  clear sb4
  have st4:s4.heap.IsListIter s.heap.objs.size R (i+1)∧s4.heap.IsList R refs.toArray:=⟨st.1.at fun o e=>up4 _ o (Jm nC') e,st.2.at fun o e=>up4 _ o (Jm (JO hltR nC')) e⟩
  have pl4:s4.heap.PlainList DD ys.toArray:=hpl.at fun o e=>up4 _ o neDC e
  have t4:TupRs s4.heap ys (dz rs (rows.take i)):=t1.move al fun b o hb e=>up4 b o hb.2.2 e
  have tup4:s4.heap.IsTuple ta tits:=htup0.at fun o e=>g4.kept _ o e
  refine wpAny_tests_nil ?_
  rw[if_pos rfl]
  have X4:=X.kept (Kept.trans x0.toInCall.keep g4.kept)
  have hca4:s4.heap.IsCell ca (some (.str c tc)):=hca.keeps g4.kept
  refine wpAny_Subscript_Name (T:="dict") PySem.F.slot_dict_getitem.lookup ?_
  refine eU X4 ckind (S.kg qual L f cd cl C) rfl mR ?_ (by decide)
  refine wpAny_Name (wpAny_loadName_cell ckind (S.kc qual L f cd cl C) ecl hca4 ⟨(PySem.W.mapOf_K (prog:=P) (w:=w) X4.kin D.at_ D.lit).typeIs,?_⟩) (by decide)
  refine wpAny_getItem_of (PySem.strKind_is P w c tc) (PySem.W.mapOf_K (prog:=P) X4.kin D.at_ D.lit) (PySem.W.find_K D.at_ hns) ?_
  have hT4:s4.heap.IsTuple tp its:=⟨oT,X4.kin _ _ lkT,cT1,nT,dT⟩
  have htp:tp<s4.heap.objs.size:=by obtain⟨o,e,_⟩:=hT4;exact Heap.lt_size e
  refine wpAny_pyIter_tuple (s:={ s4 with toks:=s4.toks+1}) hT4 ?_
  have X0:=X.kept x0.toInCall.keep
  have htp0:tp<s.heap.objs.size:=Heap.lt_size (X0.kin _ _ lkT)
  have hDD:DD<s4.heap.objs.size:=by obtain⟨n,e⟩:=pl4;exact Heap.lt_size e
  have hC4:C<s4.heap.objs.size:=by obtain⟨o,_,_,e,_⟩:=n4;exact Heap.lt_size e
  generalize hs5:({{ s4 with toks:=s4.toks+1} with heap:=s4.heap.push { cls:=.type "tuple_iterator",data:=.fields #[.ref tp,.int 0 0]}}:Shared)=s5
  have h5:s5.heap=s4.heap.push { cls:=.type "tuple_iterator",data:=.fields #[.ref tp,.int 0 0]}:=by rw[← hs5]
  have g45:bc s4 s5:=⟨_,s4.toks+1,by rw[← hs5],.push⟩
  have it5:s5.heap.IsTupleIter s4.heap.objs.size tp 0:=⟨_,by rw[h5];exact Heap.get?_push_size _ rfl,rfl,rfl⟩
  let I2:Addr:=s4.heap.objs.size
  refine⟨I2,_,_,_,_,_,fun j ys' s1=>bc s s1∧(∃m1,s1.heap.Ns C m1∧m1 "row"=some (.ref ta))∧TupRs s1.heap ys' (dz rs (rows.take i)++(rs.take j).map fun r=>row++[r])∧bM (fun b=>Pt b∧b≠I2) ys'∧s1.heap.IsListIter s.heap.objs.size R (i+1)∧(bp ys').Nodup,rfl,Goes.tuple hh I2 tp (Jm htp) its,fun z=>?_,⟨it5,hT4.at fun o e=>g45.kept _ o e⟩,pl4.at fun o e=>g45.kept _ o e,
   ⟨g4.trans g45,⟨_,n4.at' fun o e=>g45.kept _ o e,if_pos rfl⟩,by rw[List.take_zero,List.map_nil,JC];exact t4.kept g45.kept,al.and (t4.low.imp fun b hb=>Jm hb),st4.1.at fun o e=>g45.kept _ o e,nd⟩,?_,?_,?_⟩
  ·rcases Jj.mp z with z|z
   ·exact Jm hDD z
   ·exact JA (JO htp0 nD') (Jg.mp z)
  ·rintro j ys' s1 h' tk ⟨g,⟨m2,n2,r2⟩,t2,al2,it2,nd2⟩ hk _
   have hI:s.heap.objs.size<I2:=JO nD' hDD
   have off:∀b:Addr,b≠DD→b≠I2→b∉[DD,I2]:=fun b h1 h2 z=>by
    rcases Jj.mp z with z|z
    ·exact h1 z
    ·exact h2 (Jg.mp z)
   obtain⟨h1,tk1,rfl,k1⟩:=g
   refine⟨⟨h',tk,rfl,fun b o e=>?_⟩,⟨m2,n2.at' fun o e=>hk _ o (off _ (Ne.symm neDC) (Jm hC4)) e,r2⟩,t2.move al2 fun b o hb e=>hk b o (off b hb.1.2.1 hb.2) e,al2,it2.at fun o e=>hk _ o (off _ (Jm nD') (Jm hI)) e,nd2⟩
   have hb:=Heap.lt_size e
   exact hk b o (off b (Jm (JO hb nD')) (Jm (JO hb hI))) (k1 b o e)
  ·rintro j v ys' s1 hj hv2 st2 ⟨g,⟨m2,n2,r2⟩,t2,al2,it2,nd2⟩ hpl2
   have hv2':its.toList[j]? =some v:=by simpa using hv2
   obtain⟨x,tx,ex,rfl⟩:=m9 rT hv2'
   have hI:s.heap.objs.size<I2:=JO nD' hDD
   refine wpAny_assign_Name (wpAny_storeName_local (S.ku qual L f cd cl C) n2 (fun h6 n6 sb6=>?_) hp)
   have up6:∀b o,b≠C→s1.heap.get? b=some o→h6.get? b=some o:=fun b o hb e=>sb6.extBut b o hb e
   obtain⟨hg,tkg,eg,kg⟩:=id g
   have g6:bc s { s1 with heap:=h6,toks:=s1.toks+1}:=⟨h6,_,by rw[eg],fun b o e=>up6 b o (Jm (JO (Heap.lt_size e) nC')) (by rw[eg];exact kg b o e)⟩
   generalize hs6:({ s1 with heap:=h6,toks:=s1.toks+1}:Shared)=s6 at g6
   have e6:s6.heap=h6:=by rw[← hs6]
   rw[← e6] at n6 up6
   clear sb6
   refine wpAny_tests_nil ?_
   rw[if_pos rfl]
   refine wpAny_BinOp (wpAny_Name (wpAny_loadName_local ckind (S.kr qual L f cd cl C) n6 (v:=.ref ta) ((if_neg (by decide)).trans r2) ?_) (by decide))
   refine wpAny_Tuple_spliced (x1:=i0) (Calls.spliced_cons (wpAny_Name (wpAny_loadName_local ckind (S.ku qual L f cd cl C) n6 (v:=.str x tx) (if_pos rfl) (Calls.spliced_nil ⟨(by show 1≤sizeLine;decide),?_⟩)) (by decide)))
   generalize hs7:({ s6 with heap:=s6.heap.push { cls:=.type "tuple",data:=.seq [Value.str x tx].toArray}}:Shared)=s7
   have h7:s7.heap=s6.heap.push { cls:=.type "tuple",data:=.seq [Value.str x tx].toArray}:=by rw[← hs7]
   have g67:bc s6 s7:=⟨_,s6.toks,by rw[← hs7],.push⟩
   refine DW (t:=ta) (its:=tits) (htup0.at fun o e=>(g6.trans g67).kept _ o e) ⟨_,by rw[h7];exact Heap.get?_push_size _ rfl,rfl,_,rfl⟩ ⟨_,by rw[h7];exact Heap.get?_push_size _ rfl,rfl⟩ rtup.1 hrow fun a its' s8 g78 ht8 r8 ha=>?_
   have k8:∀b o,b≠C→s1.heap.get? b=some o→s8.heap.get? b=some o:=fun b o hb e=>(g67.trans g78).kept b o (up6 b o hb e)
   have up:s6.heap.objs.size≤a:=by
    rcases ha with z|z
    ·rw[z];exact JD _
    ·rw[h7,Heap.size_push] at z
     exact Nat.le_of_succ_le z
   have a1:DD<s6.heap.objs.size:=by obtain⟨n,e⟩:=hpl2;exact Heap.lt_size (up6 _ _ neDC e)
   have a2:C<s6.heap.objs.size:=by obtain⟨o,_,_,e,_⟩:=n6;exact Heap.lt_size e
   have a3:I2<s6.heap.objs.size:=by obtain⟨⟨o,e,_⟩,_⟩:=st2;exact Heap.lt_size (up6 _ _ (JA hC4) e)
   have b1:a≠C:=JA (Jk a2 up)
   refine⟨?_,⟨g6.trans (g67.trans g78),⟨_,n6.at' fun o e=>(g67.trans g78).kept _ o e,(if_neg (by decide)).trans r2⟩,?_,al2.snoc ⟨⟨Jk (JO nD' a1) up,JA (Jk a1 up),b1⟩,JA (Jk a3 up)⟩,it2.at fun o e=>k8 _ o (Jm nC') e,rB nd2 fun z=>JQ _ (Jk ((t2.move al2 fun b o hb e=>up6 b o hb.1.2.2 e).low a z) up)⟩,⟨st2.1.at fun o e=>k8 _ o (JA hC4) e,st2.2.at fun o e=>k8 _ o (Jm (JO htp0 nC')) e⟩,hpl2.at fun o e=>k8 _ o neDC e⟩
   ·have l1:=t2.length
    have l2:i*rs.length+j≤rows.length*rs.length:=by
     have hj':j<rs.length:=zT▸hj
     have hr':rows.length=refs.length:=tr.length.symm
     have:(i+1)*rs.length≤rows.length*rs.length:=Nat.mul_le_mul_right _ (by omega)
     rw[Nat.add_mul,Nat.one_mul] at this
     omega
    have l3:100000≤sizeLine:=by decide
    rw[JF,jN,List.length_take,Jt,List.length_take] at l1
    have hr':rows.length=refs.length:=tr.length.symm
    rw[Nat.min_eq_left (by omega:i≤rows.length)] at l1
    omega
   ·have q:=(t2.move al2 fun b o hb e=>k8 b o hb.1.2.2 e).snoc ⟨a,its',rfl,ht8,r8⟩
    rw[List.append_assoc] at q
    rw[List.take_add_one,ex,Option.toList_some,List.map_append]
    exact q
  ·rintro ys' s1 ⟨g,⟨m2,n2,r2⟩,t2,al2,it2,nd2⟩ hpl2
   rw[zT,List.take_length, ← pX erow] at t2
   exact⟨⟨g,⟨m2,n2⟩,t2,al2.imp fun b hb=>hb.1,nd2⟩,⟨it2,hR.at fun o e=>g.kept _ o e⟩,hpl2⟩
 ·rintro ys s1 ⟨g,⟨m1,n1⟩,t1,al,nd⟩ hpl
  have el:refs.toArray.size=rows.length:=by
   have:=tr.length
   simpa using this
  rw[el,List.take_length] at t1
  have hp0:((envOfC qual scope L f cd).scope.kind== .class||((envOfC qual scope L f cd).scope.kind== .module&&(envOfC qual scope L f cd).locals != (envOfC qual scope L f cd).globals))=false:=by
   show(scope.kind== .class||(scope.kind== .module&&_))=false
   rw[S.kind];rfl
  have hLC:L≠C:=Jm (JO hL nC')
  refine compEnds_store S.rows hp0 (x0.toInCall.ns.keeps g.kept) n1 hLC fun h' tk hn' hk=>?_
  have k':∀b o,b≠L→s.heap.get? b=some o→h'.get? b=some o:=fun b o hb e=>hk b o hb (Jm (JO (Heap.lt_size e) nC')) (g.kept b o e)
  obtain⟨h1,tk1,rfl,k1⟩:=g
  obtain⟨h00,tk0,e00⟩:=x0.toInCall.same
  refine h DD ys _ ⟨⟨⟨h',tk,by rw[e00]⟩,hn',fun b o e=>k' b o (Jm (Jk (Heap.lt_size e) x0.toInCall.fresh)) (x0.toInCall.keep b o e),x0.toInCall.fresh⟩,fun nm c' e=>?_,x0.apart,x0.above⟩ ?_ ?_ k' ⟨JI nD',fun b hb=>JI (al b hb).1,nd⟩
  ·obtain⟨o,eo,d⟩:=x0.cell nm c' e
   exact⟨o,k' c' o (JA (x0.above nm c' (PySem.mem_of_lookup e))) eo,d⟩
  ·exact hpl.isList.at fun o e=>hk _ o (JA (JO hL nD')) neDC e
  ·exact t1.move al fun b o hb e=>hk b o (JA (JO hL hb.1)) hb.2.2 e
end
def az(rss:List (List Str)):List (List Str):=rss.foldl (fun rows rs=>dz rs rows) [[]]
theorem mP{rss:List (List Str)}{i:Nat}{rs:List Str}(e:rss[i]? =some rs):az (rss.take (i+1))=dz rs (az (rss.take i)):=by
 unfold az
 rw[List.take_add_one,e,Option.toList_some,List.foldl_append]
 rfl
section
variable {P:Program}{w:World}{A:Around}{K:PySem.W.Frag}{mg:Str→Option Value}{s0 s:Shared}{L:Addr}{m cm:Str→Option Value}
theorem Ed{qual x:Str}{scope:Scope}{f ca:Addr}{cd v:Value}{pos:Pos}{Q:Unit→Shared→Prop}{E:Value→Shared→Prop}(x0:InCallC s0 L m (envOfC qual scope L f cd).cells cm s)(hk:scope.kind= .function)(hl:scope.names.lookup x=some .cell)
  (hc:(cellsFrom (L+1) scope.names []).lookup x=some ca)
  (h:∀s2,InCallC s0 L m (envOfC qual scope L f cd).cells (fun y=>if y=x then some v else cm y) s2→(∀b o,b≠ca→s.heap.get? b=some o→s2.heap.get? b=some o)→Q () s2):
  wpAny (model P w) A (assign (.Name x pos) (envOfC qual scope L f cd) v) Q E s:=by
 have hL:=x0.above x ca (PySem.mem_of_lookup hc)
 obtain⟨h0,tk,e0⟩:=x0.toInCall.same
 refine wpAny_assign_Name (wpAny_storeName_cell (env:=envOfC qual scope L f cd) hk hl hc (x0.cell x ca hc) fun h' hv hs=>h _ ⟨⟨⟨h',_,by rw[e0]⟩,x0.toInCall.ns.sameBut hs (Jm hL),fun b o e=>?_,x0.toInCall.fresh⟩,fun n c e=>?_,x0.apart,x0.above⟩ fun b o hb e=>hs.extBut b o hb e)
 ·exact hs.extBut b o (Jm (JO (Jk (Heap.lt_size e) x0.toInCall.fresh) hL)) (x0.toInCall.keep b o e)
 ·by_cases hn:n=x
  ·subst hn
   have e:(cellsFrom (L+1) scope.names []).lookup n=some c:=e
   rw[hc] at e
   cases e
   simpa using hv
  ·have ne:c≠ca:=fun q=>hn (name_of_addr x0.apart (PySem.mem_of_lookup e) (q▸PySem.mem_of_lookup hc))
   simpa [hn] using (x0.cell n c e).sameBut hs ne
theorem zj{qual x:Str}{scope:Scope}{f:Addr}{cd v:Value}{Q:Unit→Shared→Prop}{E:Value→Shared→Prop}(x0:InCallC s0 L m (envOfC qual scope L f cd).cells cm s)(hk:scope.kind= .function)(hl:IsL scope x)
  (h:∀s2,InCallC s0 L (fun y=>if y=x then some v else m y) (envOfC qual scope L f cd).cells cm s2→(∀b o,b≠L→s.heap.get? b=some o→s2.heap.get? b=some o)→Q () s2):wpAny (model P w) A (storeName (envOfC qual scope L f cd) x v) Q E s:=by
 have hp:((envOfC qual scope L f cd).scope.kind== .class||((envOfC qual scope L f cd).scope.kind== .module&&(envOfC qual scope L f cd).locals != (envOfC qual scope L f cd).globals))=false:=by
  show(scope.kind== .class||(scope.kind== .module&&_))=false
  rw[hk];rfl
 obtain⟨h0,tk,e0⟩:=x0.toInCall.same
 refine wpAny_storeName_local (env:=envOfC qual scope L f cd) hl x0.toInCall.ns (fun h' hn' hs'=>h _ ⟨⟨⟨h',_,by rw[e0]⟩,hn',fun b o e=>?_,x0.toInCall.fresh⟩,fun n c e=>?_,x0.apart,x0.above⟩ fun b o hb e=>hs'.extBut b o hb e) hp
 ·exact hs'.extBut b o (Jm (Jk (Heap.lt_size e) x0.toInCall.fresh)) (x0.toInCall.keep b o e)
 ·exact(x0.cell n c e).sameBut hs' (JA (x0.above n c (PySem.mem_of_lookup e)))
theorem InCallC.moved{h':Heap}{tk:Nat}{cells:List (Str×Addr)}{I:Addr}(x:InCallC s0 L m cells cm s)(h1:s0.heap.objs.size≤I)(h2:I≠L)(h3:∀n c,cells.lookup n=some c→c≠I)(k:∀b o,b≠I→s.heap.get? b=some o→h'.get? b=some o):
  InCallC s0 L m cells cm { s with heap:=h',toks:=tk}:=by
 obtain⟨h0,tk0,e0⟩:=x.toInCall.same
 refine⟨⟨⟨h',tk,by rw[e0]⟩,x.toInCall.ns.at' fun o e=>k _ o (Ne.symm h2) e,fun b o e=>k b o (Jm (Jk (Heap.lt_size e) h1)) (x.toInCall.keep b o e),x.toInCall.fresh⟩,fun n c e=>?_,x.apart,x.above⟩
 obtain⟨o,eo,d⟩:=x.cell n c e
 exact⟨o,k c o (h3 n c e) eo,d⟩
theorem wM{qual:Str}{scope csc:Scope}{f:Addr}{cd:Value}{a1 a2 a3 a4:Pos}{i1:Nat}{Q:Flow→Shared→Prop}
  (S:GenW0 scope csc) (hsw1:swapsWith (.List [.Tuple [] i1 a2] a3) (some (.Name "rows" a1)) a4.line (envOfC qual scope L f cd)=pure false) (x0:InCallC s0 L m (envOfC qual scope L f cd).cells cm s)
  (h:∀R refs s',InCallC s0 L (fun y=>if y=("rows":Str) then some (.ref R) else m y) (envOfC qual scope L f cd).cells cm s'→s'.heap.IsList R refs.toArray→TupRs s'.heap refs [[]]→s.heap.objs.size≤R→bM (fun b=>s.heap.objs.size≤b) refs→(bp refs).Nodup→(∀b o,b≠L→s.heap.get? b=some o→s'.heap.get? b=some o)→Q .next s'):
  wpAny (model P w) A (exec (.Assign [.Name "rows" a1] (.List [.Tuple [] i1 a2] a3) a4) (envOfC qual scope L f cd)) Q (fun _ _=>False) s:=by
 refine wpAny_Assign_Name (wpAny_List_spliced (Calls.spliced_cons (wpAny_Tuple_spliced (x1:=i1) (Calls.spliced_nil ⟨Nat.zero_le _,Calls.spliced_nil ⟨(by show 1≤sizeLine;decide),?_⟩⟩)))) hsw1
 have hL:L<s.heap.objs.size:=by obtain⟨o,_,_,e,_⟩:=x0.toInCall.ns;exact Heap.lt_size e
 generalize hsB:({{ s with heap:=s.heap.push { cls:=.type "tuple",data:=.seq ([]:List Value).toArray}} with heap:=(s.heap.push { cls:=.type "tuple",data:=.seq ([]:List Value).toArray}).push { cls:=.type "list",data:=.seq [Value.ref s.heap.objs.size].toArray}}:Shared)=sB
 have hB:sB.heap=(s.heap.push { cls:=.type "tuple",data:=.seq ([]:List Value).toArray}).push { cls:=.type "list",data:=.seq [Value.ref s.heap.objs.size].toArray}:=by rw[← hsB]
 have gB:bc s sB:=⟨_,s.toks,by rw[← hsB],Kept.push.trans .push⟩
 have sz1:(s.heap.push { cls:=.type "tuple",data:=.seq ([]:List Value).toArray}).objs.size=s.heap.objs.size+1:=Heap.size_push _ _
 show wpAny _ _ (storeName _ _ (.ref (s.heap.push { cls:=.type "tuple",data:=.seq ([]:List Value).toArray}).objs.size)) _ _ _
 rw[sz1]
 have oB:sB.heap.get? (s.heap.objs.size+1)=some { cls:=.type "list",data:=.seq [Value.ref s.heap.objs.size].toArray}:=by
  rw[hB, ← sz1]
  exact Heap.get?_push_size _ rfl
 have tB:sB.heap.get? s.heap.objs.size=some { cls:=.type "tuple",data:=.seq ([]:List Value).toArray}:=by
  rw[hB]
  exact Kept.push _ _ (Heap.get?_push_size _ rfl)
 refine zj (InCallC.grown x0 gB) S.kind S.rows fun s1 x1 k1=>?_
 have r1:s1.heap.IsList (s.heap.objs.size+1) [Value.ref s.heap.objs.size].toArray:=⟨_,k1 _ _ (JA (Nat.lt_succ_of_lt hL)) oB,rfl,_,rfl⟩
 have t1:TupRs s1.heap [Value.ref s.heap.objs.size] [[]]:=by
  exact .cons ⟨_, #[],rfl,⟨_,k1 _ _ (JA hL) tB,rfl,_,rfl⟩,.nil,⟨_,k1 _ _ (JA hL) tB,rfl⟩⟩ .nil
 exact h _ _ s1 x1 r1 t1 (Nat.le_succ _) (fun b hb=>by
  cases Jg.mp hb
  exact JD _) (List.nodup_cons.mpr ⟨List.not_mem_nil,List.nodup_nil⟩) fun b o hb e=>k1 b o hb (gB.kept b o e)
theorem xh{qual:Str}{scope csc:Scope}{f d cT R0:Addr}{cd:Value}{cs:Array Value}{cases:List Str}{rss:List (List Str)}{es:Array DictEntry}{n n0:Nat}{refs0:List Value}{b1 b2 b3 c1 c2 c3 c4 c5 c6 c7 c8 c9 c10 c11 c12 c13:Pos}{i0:Nat}{Q:Flow→Shared→Prop}
  (S:GenW0 scope csc) (hh:A.handled=none) (X:Fx K mg s0.heap) (D:L2.KDict K w d es n) (mR:mg "RULES"=some (.ref d)) (mC:mg "CASES"=some (.ref cT)) (oC:∃o n,K.lookup cT=some o∧o.cls= .type "tuple"∧o.data= .seq cs n) (rC:Vals (cases.map V.str) cs.toList)
  (hr:∀ (i:Nat) (c:Str),cases[i]? =some c→∃rs,rss[i]? =some rs∧gZ K d c rs) (hlen:rss.length=cases.length) (hz:∀ (i:Nat),∀row∈az (rss.take i),row.length<1000) (hn:∀ (i:Nat) (rs:List Str),rss[i]? =some rs→(az (rss.take i)).length*rs.length<100000)
  (hsw:swapsWith (.ListComp (.BinOp (.Name "row" c2) .Add (.Tuple [.Name "rule" c3] i0 c4) c5) [⟨.Name "row" c6,.Name "rows" c7,[],0⟩,⟨.Name "rule" c8,.Subscript (.Name "RULES" c9) (.Name "case" c10) c11,[],0⟩] csc c12) (some (.Name "rows" c1)) c13.line (envOfC qual scope L f cd)=pure true)
  {s1:Shared} (x1:InCallC s0 L m (envOfC qual scope L f cd).cells cm s1) {ca:Addr} (eca:(cellsFrom (L+1) scope.names []).lookup ("case":Str)=some ca) (hm0:m "rows"=some (.ref R0)) (r1:s1.heap.IsList R0 refs0.toArray) (t1:TupRs s1.heap refs0 [[]]) (l1:n0≤R0) (l2:bM (fun b=>n0≤b) refs0) (l3:(bp refs0).Nodup) (hn0:L<n0)
  (h:∀m' cm' R refs s',InCallC s0 L m' (envOfC qual scope L f cd).cells cm' s'→m' "rows"=some (.ref R)→s'.heap.IsList R refs.toArray→TupRs s'.heap refs (az rss)→n0≤R→bM (fun b=>n0≤b) refs→(bp refs).Nodup→(∀b o,b≠L→b≠ca→s1.heap.get? b=some o→s'.heap.get? b=some o)→Q .next s'):
  wpAny (model P w) A (exec (.For (.Name "case" b1) (.Name "CASES" b2) [.Assign [.Name "rows" c1] (.ListComp (.BinOp (.Name "row" c2) .Add (.Tuple [.Name "rule" c3] i0 c4) c5) [⟨.Name "row" c6,.Name "rows" c7,[],0⟩,⟨.Name "rule" c8,.Subscript (.Name "RULES" c9) (.Name "case" c10) c11,[],0⟩] csc c12) c13] [] b3) (envOfC qual scope L f cd)) Q (fun _ _=>False) s1:=by
 obtain⟨oT,nT,lkT,cT1,dT⟩:=oC
 have zC:cs.size=cases.length:=by
  have:=rC.length
  simpa using this.symm
 refine exec_For_goes ?_
 have X1:=X.kept x1.toInCall.keep
 refine eU X1 S.kind S.cases rfl mC ?_ (by decide)
 have hT1:s1.heap.IsTuple cT cs:=⟨oT,X1.kin _ _ lkT,cT1,nT,dT⟩
 have hcT0:cT<s0.heap.objs.size:=Heap.lt_size (X.kin _ _ lkT)
 have hs0:s0.heap.objs.size≤L:=x1.toInCall.fresh
 have hcT:cT<s1.heap.objs.size:=by obtain⟨o,e,_⟩:=hT1;exact Heap.lt_size e
 have hL1:L<s1.heap.objs.size:=by obtain⟨o,_,_,e,_⟩:=x1.toInCall.ns;exact Heap.lt_size e
 have hcT2:cT≠L:=Jm (Jk hcT0 hs0)
 refine wpAny_pyIter_tuple hT1 ?_
 generalize hs2:({ s1 with heap:=s1.heap.push { cls:=.type "tuple_iterator",data:=.fields #[.ref cT,.int 0 0]}}:Shared)=s2
 have h2:s2.heap=s1.heap.push { cls:=.type "tuple_iterator",data:=.fields #[.ref cT,.int 0 0]}:=by rw[← hs2]
 have g2:bc s1 s2:=⟨_,s1.toks,by rw[← hs2],.push⟩
 have cellLow:∀n c,(envOfC qual scope L f cd).cells.lookup n=some c→c<s1.heap.objs.size:=fun n c e=>by
  obtain⟨o,eo,_⟩:=x1.cell n c e
  exact Heap.lt_size eo
 let I:Addr:=s1.heap.objs.size
 have nI:n0≤I:=by obtain⟨o,e,_⟩:=r1;exact Jx l1 (JI (Heap.lt_size e))
 refine⟨I,_,_,_,_,_,fun i s3=>∃m' cm' R refs,InCallC s0 L m' (envOfC qual scope L f cd).cells cm' s3∧m' "rows"=some (.ref R)∧s3.heap.IsList R refs.toArray∧TupRs s3.heap refs (az (rss.take i))∧(n0≤R∧R≠I)∧bM (fun b=>n0≤b∧b≠I) refs∧(∀b o,b≠L→b≠ca→s1.heap.get? b=some o→s3.heap.get? b=some o)∧(bp refs).Nodup,rfl,Goes.tuple hh I cT (Jm hcT) cs,⟨⟨_,by rw[h2];exact Heap.get?_push_size _ rfl,rfl,rfl⟩,hT1.at fun o e=>g2.kept _ o e⟩,?_,?_,?_,?_⟩
 ·have lR:R0<s1.heap.objs.size:=by obtain⟨o,e,_⟩:=r1;exact Heap.lt_size e
  refine⟨m,cm,R0,refs0,InCallC.grown x1 g2,hm0,r1.at fun o e=>g2.kept _ o e,t1.kept g2.kept,⟨l1,Jm lR⟩,fun b hb=>⟨l2 b hb,Jm (t1.low b hb)⟩,fun b o _ _ e=>g2.kept b o e,l3⟩
 ·rintro i s3 h' tk ⟨m',cm',R,refs,x3,e3,r3,t3,⟨n3,n4⟩,al,kp,nd⟩ hk _
  have off:∀b:Addr,b≠I→b∉[I]:=fun b hb z=>hb (Jg.mp z)
  exact⟨m',cm',R,refs,InCallC.moved x3 (Jx hs0 (JI hL1)) (JA hL1) (fun n c e=>Jm (cellLow n c e)) fun b o hb e=>hk b o (off b hb) e,e3,r3.at fun o e=>hk _ o (off _ n4) e,t3.move al fun b o hb e=>hk b o (off b hb.2) e,⟨n3,n4⟩,al,fun b o h1 h2 e=>hk b o (off b (Jm (Heap.lt_size e))) (kp b o h1 h2 e),nd⟩
 ·rintro i v s3 hi hv st ⟨m',cm',R,refs,x3,e3,r3,t3,⟨n3,n4⟩,al,kp,nd⟩
  have hv':cs.toList[i]? =some v:=by simpa using hv
  obtain⟨c,tc,ec,rfl⟩:=m9 rC hv'
  obtain⟨rs,ers,hrs⟩:=hr i c ec
  refine Ed x3 S.kind S.case_ eca fun s4 x4 k4=>?_
  have hLca:L<ca:=x3.above _ _ (PySem.mem_of_lookup eca)
  have hca1:ca<s1.heap.objs.size:=cellLow _ _ eca
  have ne_ca:∀ {b:Addr} {o:Obj},s3.heap.get? b=some o→(∀v,o.data≠ .cell v)→b≠ca:=fun {b o} e nd z=>by
   obtain⟨o2,e2,d2⟩:=x3.cell _ _ eca
   rw[← z,e] at e2
   exact nd _ ((congrArg Obj.data (Jq e2)).trans d2)
  have r4:s4.heap.IsList R refs.toArray:=by
   obtain⟨o,e,c1,n,d1⟩:=r3
   exact⟨o,k4 _ _ (ne_ca e fun v z=>by rw[d1] at z;cases z) e,c1,n,d1⟩
  have t4:TupRs s4.heap refs (az (rss.take i)):=by
   clear r4 e3
   have mv:∀ {vs:List Value} {rows:List (List Str)},TupRs s3.heap vs rows→TupRs s4.heap vs rows:=by
    intro vs rows t
    induction t with
    |nil=>exact .nil
    |cons q _ ih=>
     obtain⟨a,its,e,⟨o,eo,c1,n,d1⟩,r,o',eo',dd⟩:=q
     exact .cons ⟨a,its,e,⟨o,k4 _ _ (ne_ca eo fun v z=>by rw[d1] at z;cases z) eo,c1,n,d1⟩,r,o',k4 _ _ (ne_ca eo fun v z=>by rw[d1] at z;cases z) eo',dd⟩ ih
   exact mv t3
  have st4:s4.heap.IsTupleIter I cT (i+1)∧s4.heap.IsTuple cT cs:=⟨st.1.at fun o e=>k4 _ o (JA hca1) e,st.2.at fun o e=>k4 _ o (Jm (JO (Jk hcT0 hs0) hLca)) e⟩
  refine wpAny_execs_cons (DH S hh X D mR hrs hsw x4 e3 (if_pos rfl) ⟨ca,eca⟩ r4 t4 (hz i) (hn i rs ers) fun R' refs' s5 x5 r5 t5 k5 ⟨f1,f2,f3⟩=>wpAny_execs_nil ?_)
  have hI4:I<s4.heap.objs.size:=by obtain⟨⟨o,e,_⟩,_⟩:=st4;exact Heap.lt_size e
  have hL4:L<s4.heap.objs.size:=JO hL1 hI4
  refine⟨⟨_,_,R',refs',x5,if_pos rfl,r5,by rw[mP ers];exact t5,⟨Jx nI (JI (Jk hI4 f1)),JA (Jk hI4 f1)⟩,f2.imp fun b hb=>⟨Jx nI (JI (Jk hI4 hb)),JA (Jk hI4 hb)⟩,fun b o h1 h2 e=>k5 b o h1 (k4 b o h2 (kp b o h1 h2 e)),f3⟩,st4.1.at fun o e=>k5 _ o (JA hL1) e,st4.2.at fun o e=>k5 _ o hcT2 e⟩
 ·rintro s3 ⟨m',cm',R,refs,x3,e3,r3,t3,⟨n3,n4⟩,al,kp,nd⟩
  refine wpAny_execs_nil ?_
  rw[zC, ← hlen,List.take_length] at t3
  exact h m' cm' R refs s3 x3 e3 r3 t3 n3 (al.imp fun b hb=>hb.1) nd kp
end
end Ev.Ex
namespace Ev.Ex
open PySem
open Sem (wp)
section
variable {M:Model}
theorem jA{Γ:Ctx}{p:Pos}{t:Sem PySem.Fin}{fs:List Frame}{s s':Shared}{e:End}(h:Runs M Γ p t fs s e s'):s.heap.objs.size≤s'.heap.objs.size:=by
 induction h with
 |done|raise|yield=>exact JD _
 |update _ _ z=>exact Jx (Nat.le_of_eq (Heap.size_update _ _ _).symm) z
 |alloc _ z=>exact Jx (by show _≤(Heap.push _ _).objs.size;rw[Heap.size_push];exact Nat.le_succ _) z
 |call _ _ y z=>exact Jx y z
 |resumeFresh _ _ _ _ y z=>exact Jx y z
 |resumeSuspended _ _ _ _ y z=>exact Jx y z
 |segRet _ _ y z=>exact Jx y z
 |segGen _ _ y z=>exact Jx y z
 |segSuspGen _ _ _ _ y z=>exact Jx y z
 |_=>assumption
theorem ux{Γ:Ctx}{p:Pos}{g:Nat}{r:Resume}{s s':Shared}{res:GenResult}(h:Wakes M Γ p g r s res s'):s.heap.objs.size≤s'.heap.objs.size:=by
 unfold Wakes at h
 split at h
 ·exact h.elim
 ·split at h
  ·obtain⟨_,_,y,_,_,rfl⟩:=h
   have y:=jA y
   exact y
  ·exact Nat.le_of_eq (by rw[h.2])
  ·exact Nat.le_of_eq (by rw[h.2];rfl)
 ·obtain⟨_,_,y,_,_,rfl⟩:=h
  have y:=jA y
  exact y
 ·exact Nat.le_of_eq (by rw[h.2])
 ·exact Nat.le_of_eq (by rw[h.2])
theorem CC{α:Type}(Γ:Ctx)(n:Nat)(t:Sem α):∀ (S:α→Pos→Shared→Prop) (F:Value→Pos→Shared→Prop) (q:Pos) (u:Shared),n≤u.heap.objs.size→wp M Γ t S F q u→
  wp M Γ t (fun a q' u'=>n≤u'.heap.objs.size∧S a q' u') (fun e q' u'=>n≤u'.heap.objs.size∧F e q' u') q u:=by
 induction t with
 |pure _|raise _=>exact fun S F q u l z=>⟨l,z⟩
 |unsupported _|finish _|register _ _|yield _ _ _ _|fork _ _|await _ _ _ _ _=>exact fun S F q u l z=>z
 |rule _ k ih|point _ k ih=>exact fun S F q u l z=>ih () S F q u l z
 |«at» p' k ih=>exact fun S F q u l z=>ih () S F p' u l z
 |load a _ k ih=>exact fun S F q u l ⟨o,y,z⟩=>⟨o,y,ih o S F q u l z⟩
 |update a _ f k ih=>exact fun S F q u l ⟨y,z⟩=>⟨y,ih () S F q _ (Jx l (Nat.le_of_eq (Heap.size_update _ _ _).symm)) z⟩
 |alloc o k ih=>exact fun S F q u l z=>ih _ S F q _ (Jx l (by show _≤(Heap.push _ _).objs.size;rw[Heap.size_push];exact Nat.le_succ _)) z
 |choose _ _ k ih=>exact fun S F q u l ⟨y,z⟩=>⟨y,ih _ S F q _ l z⟩
 |call _ _ _ _ k ih=>exact fun S F q u l ⟨r,u',y,z⟩=>⟨r,u',y,ih r S F q u' (Jx l (jA y)) z⟩
 |genState _ k ih=>exact fun S F q u l ⟨o,y,z⟩=>⟨o,y,ih _ S F q u l z⟩
 |resume _ _ _ k ih=>exact fun S F q u l ⟨r,u',y,z⟩=>⟨r,u',y,ih r S F q u' (Jx l (ux y)) z⟩
 |loadIfAlive _ k ih|fresh k ih|ask k ih|os _ _ k ih|handled _ k ih|newGen _ k ih|stack k ih|thread k ih=>exact fun S F q u l z=>ih _ S F q _ l z
theorem dE{α:Type}{A:Around}{u:Shared}{t:Sem α}{S:α→Shared→Prop}{F:Value→Shared→Prop}(z:wpAny M A t (fun a u'=>u.heap.objs.size≤u'.heap.objs.size→S a u') (fun e u'=>u.heap.objs.size≤u'.heap.objs.size→F e u') u):wpAny M A t S F u:=
 wpAny_mono (fun Γ p hΓ=>CC Γ _ t _ _ p u (JD _) (z Γ p hΓ):wpAny M A t (fun a u'=>u.heap.objs.size≤u'.heap.objs.size∧(u.heap.objs.size≤u'.heap.objs.size→S a u')) (fun e u'=>u.heap.objs.size≤u'.heap.objs.size∧(u.heap.objs.size≤u'.heap.objs.size→F e u')) u) (fun _ _ y=>y.2 y.1) fun _ _ y=>y.2 y.1
end
end Ev.Ex
namespace Ev.Ex
open PySem PySem.Spec L2 PyProof.Rows GenW
theorem TupRs.drop_{h:Heap}:∀ {vs:List Value} {rows:List (List Str)} (k:Nat),TupRs h vs rows→TupRs h (vs.drop k) (rows.drop k)
 |_,_,0,t=>t
 |_,_,_+1,.nil=>.nil
 |_,_,k+1,.cons _ t=>t.drop_ k
theorem bM.drop_{P:Addr→Prop}{vs:List Value}{k:Nat}(x:bM P vs):bM P (vs.drop k):=fun b hb=>x b (List.mem_of_mem_drop hb)
def aR(L J R:Addr)(refs:List Value):List Addr:=L::J::R::bp refs
structure Sleeps(h:Heap)(L J R:Addr)(refs:List Value)(rows:List (List Str))(i:Nat):Prop where
 ns:∃m,h.Ns L m
 it:h.IsListIter J R i
 lst:h.IsList R refs.toArray
 tup:TupRs h (refs.drop i) (rows.drop i)
 len:refs.length=rows.length
 nd:(bp refs).Nodup
 lj:L<J
 lr:L<R
 jr:R≠J
 at_:bM (fun b=>L<b∧b≠J) refs
theorem Sleeps.move{h h':Heap}{L J R:Addr}{refs:List Value}{rows:List (List Str)}{i:Nat}(x:Sleeps h L J R refs rows i)(k:∀b∈aR L J R (refs.drop i),∀o,h.get? b=some o→h'.get? b=some o):Sleeps h' L J R refs rows i:=by
 obtain⟨m,hn⟩:=x.ns
 have q:∀b,Value.ref b∈refs.drop i→b∈aR L J R (refs.drop i):=fun b hb=>Je _ (Je _ (Je _ (aY.mpr hb)))
 exact⟨⟨m,hn.at' fun o e=>k L Jf o e⟩,x.it.at fun o e=>k J (Je _ Jf) o e,x.lst.at fun o e=>k R (Je _ (Je _ Jf)) o e,
  x.tup.move (P:=fun b=>b∈aR L J R (refs.drop i)) q fun b o hb e=>k b hb o e,x.len,x.nd,x.lj,x.lr,x.jr,x.at_⟩
structure Woke(rows:List (List Str))(C L:Addr)(cell:Addr→Prop)(i:Nat)(s₀:Shared)(v:Value)(s:Shared)(J R:Addr)(refs:List Value)(T dx t:Addr):Prop where
 val:v= .ref T
 only:∃h' tk,s={ s₀ with heap:=h',toks:=tk}
 keep:∀b o,b≠L→b≠J→(i=0→¬cell b)→s₀.heap.get? b=some o→s.heap.get? b=some o
 ref:refs[i]? =some (.ref t)
 row:∃row its,rows[i]? =some row∧s.heap.IsTuple t its∧Vals (row.map V.str) its.toList∧rA s.heap t
 tab:TabAt s.heap C T dx t
 newT:s₀.heap.objs.size≤T
 newD:s₀.heap.objs.size≤dx
 newO:∀b∈aR L J R (refs.drop i),b<T∧b<dx
 sl:Sleeps s.heap L J R refs rows (i+1)
def EY(B:Heap)(rows:List (List Str))(C L:Addr)(cell:Addr→Prop)(gi:Nat)(Fi:Nat→List Addr→Shared→Prop):Protocol:=fun n s₀ v s kap=>
 ∃J R refs T dx t i,i+n+1=rows.length∧Woke rows C L cell i s₀ v s J R refs T dx t∧
  ((i=0∧∀b∈J::R::bp refs,s₀.heap.objs.size≤b)∨∃s1,Fi i (aR L J R (refs.drop i)) s1∧s₀=s1.setGen gi .running)∧
  ∀s'',Fi (i+1) (aR L J R (refs.drop (i+1))) s''→Kept B s''.heap→(∀b∈aR L J R (refs.drop (i+1)),∀o,s.heap.get? b=some o→s''.heap.get? b=some o)→kap (.send .none) (s''.setGen gi .running)∧kap (.send (.bool true)) (s''.setGen gi .running)
def ER(rows:List (List Str))(L:Addr)(gi:Nat)(Fi:Nat→List Addr→Shared→Prop):GenEnd:=fun _ s₀ r s=>
 ((r= .ok (.ret .none)∨r= .ok .next)∧∃ (J R:Addr) (refs:List Value),(∃h' tk,s={ s₀ with heap:=h',toks:=tk})∧(∀b o,b≠L→b≠J→s₀.heap.get? b=some o→s.heap.get? b=some o)∧∃s1,Fi rows.length (aR L J R (refs.drop rows.length)) s1∧s₀=s1.setGen gi .running)∨∃e,r= .error e∧False
structure GC(A:Around)(env:Env)(c:Code)(fs:List Frame)(gd:Bool→Bool):Prop where
 over:A.over c fs=A.deeper env
 split:splitAtGen fs=none
 guard:fs.any Frame.guarded=false
 gd:gd false=false
theorem GC.loop{A:Around}{env:Env}{c c':Code}{fs:List Frame}{gd:Bool→Bool}{k:Result→Sem PySem.Fin}{l kp:List Value}{p:Pos}(g:GC A env c fs gd)(hw:c'.weight=0)(hu:c'.cUnits=0):GC A env c' (.ret k none (gd false) l c p kp::fs) id where
 over:=(over_loop hw hu).trans g.over
 split:=by
  show(splitAtGen fs).map _=none
  rw[g.split];rfl
 guard:=by
  show(gd false||fs.any Frame.guarded)=false
  rw[g.gd,g.guard];rfl
 gd:=rfl
section
variable {P:Program}{w:World}{A:Around}{B:Heap}{K:PySem.W.Frag}{mg:Str→Option Value}{C fI L gi:Nat}{ok:List Str→Prop}{rows:List (List Str)}{cell:Addr→Prop}{Fi:Nat→List Addr→Shared→Prop}
theorem yO{qual:Str}{scope csc:Scope}{f:Addr}{cd:Value}{d1 d3 d4 d5 d6 d7:Pos}{c:Code}{fs:List Frame}{gd:Bool→Bool}{lv kp:List Value}{p:Pos}{kk:Result→Sem PySem.Fin}(S:GenW0 scope csc)(M:Mk K C fI)(hi:lS P w K mg C fI ok)(mT:mg "Table"=some (.ref C))(kT:PySem.W.keepIn K (.ref C)=true)
  (hok:∀row∈rows,ok row) (g:GC A (envOfC qual scope L f cd) c fs gd) (hr:Room 2 A) (hco:scope.isCoroutine=false) (XB:Fx K mg B) (hB:B.objs.size≤L) {J R:Addr} {refs:List Value}
  (h0:0<rows.length) (hend:∀s₀ s,(∃h' tk,s={ s₀ with heap:=h',toks:=tk})→(∀b o,b≠L→b≠J→s₀.heap.get? b=some o→s.heap.get? b=some o)→(∃s1,Fi rows.length (aR L J R (refs.drop rows.length)) s1∧s₀=s1.setGen gi .running)→
   Seg (model P w) A (ER rows L gi Fi) (EY B rows C L cell gi Fi) 0 s₀ c (kk (.ok .next)) fs s):
  ∀ (k i:Nat) (s₀ s:Shared),i+k=rows.length→Sleeps s.heap L J R refs rows i→Kept B s.heap→(∃h' tk,s={ s₀ with heap:=h',toks:=tk})→(∀b o,b≠L→b≠J→(i=0→¬cell b)→s₀.heap.get? b=some o→s.heap.get? b=some o)→s₀.heap.objs.size≤s.heap.objs.size→
   ((i=0∧0<k∧∀b∈J::R::bp refs,s₀.heap.objs.size≤b)∨∃s1,Fi i (aR L J R (refs.drop i)) s1∧s₀=s1.setGen gi .running)→
   Seg (model P w) A (ER rows L gi Fi) (EY B rows C L cell gi Fi) k s₀ (.forLoop (.Name "row" d1) (.ref J) [.Expr (.Yield (some (.Call (.Name "Table" d3) [.Name "row" d4] [] d5)) d6) d7] [] (envOfC qual scope L f cd)) ((model P w).den (.forLoop (.Name "row" d1) (.ref J) [.Expr (.Yield (some (.Call (.Name "Table" d3) [.Name "row" d4] [] d5)) d6) d7] [] (envOfC qual scope L f cd)))
    (.ret kk none (gd false) lv c p kp::fs) s:=by
 have gl:=g.loop (c':=.forLoop (.Name "row" d1) (.ref J) [.Expr (.Yield (some (.Call (.Name "Table" d3) [.Name "row" d4] [] d5)) d6) d7] [] (envOfC qual scope L f cd)) (k:=kk) (l:=lv) (kp:=kp) (p:=p) rfl rfl
 have hkind:(envOfC qual scope L f cd).scope.kind= .function:=S.kind
 have hh:(A.deeper (envOfC qual scope L f cd)).handled=none:=hr.hd
 have hr1:Room 1 (A.deeper (envOfC qual scope L f cd)):=hr.deeper _
 have hp:((envOfC qual scope L f cd).scope.kind== .class||((envOfC qual scope L f cd).scope.kind== .module&&(envOfC qual scope L f cd).locals != (envOfC qual scope L f cd).globals))=false:=by
  rw[hkind];rfl
 intro k
 induction k with
 |zero=>
  intro i s₀ s hik sl X only kp0 sz0 link
  have hi0:i=rows.length:=hik
  subst hi0
  have lk:∃s1,Fi rows.length (aR L J R (refs.drop rows.length)) s1∧s₀=s1.setGen gi .running:=by
   rcases link with⟨_,z,_⟩|z
   ·exact absurd z (JQ _)
   ·exact z
  refine fx ?_
  rw[gl.over]
  have W:=Goes.list (prog:=P) (w:=w) (target:=.Name "row" d1) hh J R sl.jr refs.toArray
  have el:refs.toArray.size=rows.length:=by
   have:=sl.len
   simpa using this
  refine wpAny_mono (W.stops s (fun s1=>∃h' tk,s1={ s with heap:=h',toks:=tk}∧∀b o,b≠J→s.heap.get? b=some o→h'.get? b=some o) (fun _ _=>False) (by rw[el];exact⟨sl.it,sl.lst⟩) fun h' tk hk _=>⟨h',tk,rfl,fun b o hb e=>hk b o (fun z=>hb (Jg.mp z)) e⟩) (fun r s1 ⟨e,h',tk,es,k1⟩=>?_) fun _ _ z=>z.elim
  subst e
  subst es
  obtain⟨hw,tk0,e0⟩:=only
  exact seg_leaf (.ok .next) (hend s₀ _ ⟨h',tk,by rw[e0]⟩ (fun b o h1 h2 e=>k1 b o h2 (kp0 b o h1 h2 (fun z=>absurd z (JA h0)) e)) lk)
 |succ m ih=>
  intro i s₀ s hik sl X only kp0 sz0 link
  have el:refs.length=rows.length:=sl.len
  have hin:i<rows.length:=by omega
  refine fx ?_
  rw[gl.over]
  have W:=Goes.list (prog:=P) (w:=w) (target:=.Name "row" d1) hh J R sl.jr refs.toArray
  have hz:i<refs.toArray.size:=by rw[List.size_toArray];omega
  obtain⟨vrow,hvrow⟩:∃v,refs[i]? =some v:=⟨_,Jo (by omega)⟩
  obtain⟨row,erow,t,its,rfl,htup,rtup⟩:=sl.tup.at_ (i:=0) (by rw[List.getElem?_drop];exact hvrow)
  rw[List.getElem?_drop] at erow
  have erow:rows[i]? =some row:=erow
  have hmem:Value.ref t∈refs:=Js hvrow
  have hrow:row∈rows:=Js erow
  refine dE (wpAny_mono (W.goes i s (fun v s1=>s.heap.objs.size≤s1.heap.objs.size→wpAny (model P w) (A.deeper (envOfC qual scope L f cd)) (assign (.Name "row" d1) (envOfC qual scope L f cd) v) (fun _ s₃=>
     Seg (model P w) A (ER rows L gi Fi) (EY B rows C L cell gi Fi) (m+1) s₀ (.forLoop (.Name "row" d1) (.ref J) [.Expr (.Yield (some (.Call (.Name "Table" d3) [.Name "row" d4] [] d5)) d6) d7] [] (envOfC qual scope L f cd)) ((execs [.Expr (.Yield (some (.Call (.Name "Table" d3) [.Name "row" d4] [] d5)) d6) d7] (envOfC qual scope L f cd)).wrap (fun fw=>match fw with
      | .next| .cont=>.pure (.again (.forLoop (.Name "row" d1) (.ref J) [.Expr (.Yield (some (.Call (.Name "Table" d3) [.Name "row" d4] [] d5)) d6) d7] [] (envOfC qual scope L f cd)))
      | .brk=>.pure (.done .next)
      | .ret v=>.pure (.done (.ret v))) (fun e=>(do noteFrame e (envOfC qual scope L f cd);theTreesLotGoes e:Sem Unit).wrap (fun _=>.raise e) .raise id id) id id) (.ret kk none (gd false) lv c p kp::fs) s₃) (fun _ _=>False) s1) (fun _ _=>False) hz ⟨sl.it,sl.lst⟩ fun v h1 tk1 hv st1 k1 _=>?_) (fun r s1 ⟨v,er,q⟩ hsz=>?_) fun _ _ z=>z.elim)
  ·intro hsz1
   have ev:v= .ref t:=by
    have hv:refs.toArray[i]? =some v:=hv
    have:refs[i]? =some v:=by simpa using hv
    rw[hvrow] at this
    exact(Jq this).symm
   subst ev
   have k1':∀b o,b≠J→s.heap.get? b=some o→h1.get? b=some o:=fun b o hb e=>k1 b o (fun z=>hb (Jg.mp z)) e
   obtain⟨mL,nL⟩:=sl.ns
   have nL1:h1.Ns L mL:=nL.at' fun o e=>k1' L o (Jm sl.lj) e
   refine dE (wpAny_assign_Name (wpAny_storeName_local (env:=envOfC qual scope L f cd) (s:={ s with heap:=h1,toks:=tk1}) S.row nL1 (fun h2 n2 sb2 hsz2=>?_) hp))
   have hsz3:s₀.heap.objs.size≤h2.objs.size:=Jx sz0 (Jx hsz1 hsz2)
   have k2:∀b o,b≠J→b≠L→s.heap.get? b=some o→h2.get? b=some o:=fun b o h1 h2 e=>sb2.extBut b o h2 (k1' b o h1 e)
   have low:∀ {b o},B.get? b=some o→b≠J∧b≠L:=fun {b o} e=>by
    have h1:=Jk (Heap.lt_size e) hB
    exact⟨Jm (JO h1 sl.lj),Jm h1⟩
   have kb2:Kept B h2:=fun b o e=>k2 b o (low e).1 (low e).2 (X b o e)
   have X2:Fx K mg h2:=XB.kept kb2
   refine seg_execs_cons (seg_Expr_Yield gl.split gl.gd gl.guard ?_ hco (by show interactive _=false;simp[interactive,hkind]))
   rw[gl.over]
   refine wpAny_Call_Name_kw (eU X2 hkind S.table rfl mT ?_ (by decide))
   refine PySem.W.callWith_K X2.kin kT ?_ rfl rfl
   refine Calls.spliced_cons (wpAny_Name (wpAny_loadName_local hkind S.row n2 (v:=.ref t) (if_pos rfl) (Calls.spliced_nil ⟨X2.kin,?_⟩)) (by decide))
   have tL:t≠L∧t≠J:=⟨JA (sl.at_ t hmem).1,(sl.at_ t hmem).2⟩
   have ht2:h2.IsTuple t its:=htup.at fun o e=>k2 _ o tL.2 tL.1 e
   refine rS M hi hr1 X2 ht2 rtup.1 (hok row hrow) fun T dx h3 tk3 nT nD k3 TA=>?_
   have no2:∀b o,h2.get? b=some o→b<T∧b<dx:=fun b o e=>⟨Jk (Heap.lt_size e) nT,Jk (Heap.lt_size e) nD⟩
   have k23:∀b o,b≠J→b≠L→s.heap.get? b=some o→h3.get? b=some o:=fun b o q1 q2 e=>k3 b o (k2 b o q1 q2 e)
   have itJ:h3.IsListIter J R (i+1):=by
    have:h1.IsListIter J R (i+1):=st1.1
    exact this.at fun o e=>k3 _ o (sb2.extBut J o (JA sl.lj) e)
   have tup1:TupRs s.heap (refs.drop (i+1)) (rows.drop (i+1)):=by
    have:=sl.tup.drop_ 1
    rw[List.drop_drop,List.drop_drop] at this
    exact this
   have sl3:Sleeps h3 L J R refs rows (i+1):=⟨⟨_,n2.at' fun o e=>k3 _ o e⟩,itJ,sl.lst.at fun o e=>k23 _ o sl.jr (JA sl.lr) e,tup1.move sl.at_.drop_ fun b o hb e=>k23 b o hb.2 (JA hb.1) e,sl.len,sl.nd,sl.lj,sl.lr,sl.jr,sl.at_⟩
   have own2:∀b∈aR L J R (refs.drop i),∃o,h2.get? b=some o:=fun b hb=>by
    rcases Jj.mp hb with z|hb
    ·obtain⟨o,_,_,e,_⟩:=n2
     exact⟨o,z▸e⟩
    rcases Jj.mp hb with z|hb
    ·obtain⟨o,e,_⟩:=st1.1
     exact⟨o,z▸sb2.extBut J o (JA sl.lj) e⟩
    rcases Jj.mp hb with z|hb
    ·obtain⟨o,e,_⟩:=sl.lst
     exact⟨o,z▸k2 R o sl.jr (JA sl.lr) e⟩
    ·have hb:=aY.mp hb
     have hl:=sl.tup.low b hb
     obtain⟨j,hj⟩:=List.getElem?_of_mem hb
     obtain⟨_,_,a,_,ea,⟨o,e,_⟩,_⟩:=sl.tup.at_ hj
     cases ea
     have hb':=List.mem_of_mem_drop hb
     exact⟨o,k2 b o (sl.at_ b hb').2 (JA (sl.at_ b hb').1) e⟩
   intro kap hk
   obtain⟨h0,tk0,e0⟩:=only
   refine⟨J,R,refs,T,dx,t,i,by omega,⟨rfl,⟨h3,tk3,by rw[e0]⟩,fun b o q1 q2 q3 e=>k23 b o q2 q1 (kp0 b o q1 q2 q3 e),hvrow,⟨row,its,erow,ht2.at fun o e=>k3 _ o e,rtup.1,(rtup.2.at fun o e=>k2 _ o tL.2 tL.1 e).at fun o e=>k3 _ o e⟩,TA,Jx hsz3 nT,Jx hsz3 nD,fun b hb=>?_,sl3⟩,?_,fun s4 hF kB ks=>?_⟩
   ·obtain⟨o,e⟩:=own2 b hb
    exact no2 b o e
   ·rcases link with⟨z1,_,z2⟩|z
    ·exact .inl ⟨z1,z2⟩
    ·exact .inr z
   ·have sg:∀x,(match x with|Value.ref _=>False|_=>True)→Seg (model P w) A (ER rows L gi Fi) (EY B rows C L cell gi Fi) m (s4.setGen gi .running) (.forLoop (.Name "row" d1) (.ref J) [.Expr (.Yield (some (.Call (.Name "Table" d3) [.Name "row" d4] [] d5)) d6) d7] [] (envOfC qual scope L f cd)) (.pure (.again (.forLoop (.Name "row" d1) (.ref J) [.Expr (.Yield (some (.Call (.Name "Table" d3) [.Name "row" d4] [] d5)) d6) d7] [] (envOfC qual scope L f cd)))) (.ret kk none (gd false) lv c p kp::fs) (s4.setGen gi .running):=fun x _=>
     seg_again rfl (ih (i+1) (s4.setGen gi .running) (s4.setGen gi .running) (by omega) (sl3.move ks) kB ⟨_,_,rfl⟩ (fun b o _ _ _ e=>e) (JD _) (.inr ⟨s4,hF,rfl⟩))
    exact⟨hk .none _ (sg .none trivial),hk (.bool true) _ (sg (.bool true) trivial)⟩
  ·subst er
   refine dE (wpAny_mono q (fun _ s2 q2 hsz2=>wpAny_mono (q2 (Jx hsz hsz2)) (fun _ _ z=>z) fun _ _ z=>z.elim) fun _ _ z=>z.elim)
end
section
variable {P:Program}{w:World}{A:Around}{R:GenEnd}{Y:Protocol}{n:Nat}{s₀ s:Shared}{c:Code}{fs:List Frame}
theorem wY{tg iter:Expr}{body:List Stmt}{pos:Pos}{env:Env}{KK:Flow→Sem PySem.Fin}{JJ:Value→Sem PySem.Fin}{gd:Bool→Bool}{lv:List Value→List Value}(hs:∀x,foldedSetIterable iter env x=pure x)
  (h:wpAny (model P w) (A.over c fs) (eval iter env) (fun x0 s1=>wpAny (model P w) (A.over c fs) (pyIter x0) (fun itv s2=>∀p,Seg (model P w) A R Y n s₀ (.forLoop tg itv body [] env) ((model P w).den (.forLoop tg itv body [] env))
   (.ret (fun r=>((match r with| .ok f=>(.pure f:Sem Flow)| .error e=>.raise e).onRaise (cameBack env)).wrap KK JJ gd lv) none (gd false) (lv []) c p []::fs) s2) (fun _ _=>False) s1) (fun _ _=>False) s):
  Seg (model P w) A R Y n s₀ c ((exec (.For tg iter body [] pos) env).wrap KK JJ gd lv) fs s:=by
 rw[arm_exec_For,Sem.bind_eq_wrap',Sem.wrap_wrap]
 refine seg_wrap (wpAny_standAt ?_)
 show Seg _ A R _ n s₀ c ((eval iter env>>= fun x0=>foldedSetIterable iter env x0>>= fun x=>standAt iter.pos>>= fun _=>holding [x] (pyIter x)>>= fun itv=>runOwn (.forLoop tg itv body [] env) env).wrap KK JJ gd lv) fs s
 rw[Sem.bind_eq_wrap',Sem.wrap_wrap]
 refine seg_wrap (wpAny_mono h (fun x0 s1 h1=>?_) fun _ _ z=>z.elim)
 rw[hs x0]
 show Seg _ A R _ n s₀ c ((standAt iter.pos>>= fun _=>holding [x0] (pyIter x0)>>= fun itv=>runOwn (.forLoop tg itv body [] env) env).wrap KK JJ gd lv) fs s1
 rw[Sem.bind_eq_wrap',Sem.wrap_wrap]
 refine seg_wrap (wpAny_standAt ?_)
 rw[Sem.bind_eq_wrap',Sem.wrap_wrap]
 refine seg_wrap (wpAny_holding (wpAny_mono h1 (fun itv s2 h2=>seg_call fun p=>h2 p) fun _ _ z=>z.elim))
end
def cellOf(L:Addr)(scope:Scope):Addr→Prop:=fun b=>∃x,(cellsFrom (L+1) scope.names []).lookup x=some b
section
variable {P:Program}{w:World}{A:Around}{B:Heap}{K:PySem.W.Frag}{mg:Str→Option Value}{C fI L gi:Nat}{ok:List Str→Prop}{Fi:Nat→List Addr→Shared→Prop}{s:Shared}
theorem uX{qual:Str}{scope csc:Scope}{f d cT:Addr}{cd:Value}{cs:Array Value}{cases:List Str}{rss:List (List Str)}{es:Array DictEntry}{n:Nat}{a1 a2 a3 a4 b1 b2 b3 c1 c2 c3 c4 c5 c6 c7 c8 c9 c10 c11 c12 c13 d1 d2 d3 d4 d5 d6 d7 d8:Pos}{i0 i1:Nat}
  (S:GenW0 scope csc) (M:Mk K C fI) (hi:lS P w K mg C fI ok) (mT:mg "Table"=some (.ref C)) (kT:PySem.W.keepIn K (.ref C)=true) (hok:∀row∈az rss,ok row) (hr:Room 2 A) (hco:scope.isCoroutine=false) (XB:Fx K mg B) (hB:B.objs.size≤L) (kB:Kept B s.heap)
  (D:L2.KDict K w d es n) (mR:mg "RULES"=some (.ref d)) (mC:mg "CASES"=some (.ref cT)) (oC:∃o n,K.lookup cT=some o∧o.cls= .type "tuple"∧o.data= .seq cs n) (rC:Vals (cases.map V.str) cs.toList)
  (hrs:∀ (i:Nat) (c:Str),cases[i]? =some c→∃rs,rss[i]? =some rs∧gZ K d c rs) (hlen:rss.length=cases.length) (hz:∀ (i:Nat),∀row∈az (rss.take i),row.length<1000) (hn:∀ (i:Nat) (rs:List Str),rss[i]? =some rs→(az (rss.take i)).length*rs.length<100000) (h0:0< (az rss).length)
  (hsw1:swapsWith (.List [.Tuple [] i1 a2] a3) (some (.Name "rows" a1)) a4.line (envOfC qual scope L f cd)=pure false)
  (hsw:swapsWith (.ListComp (.BinOp (.Name "row" c2) .Add (.Tuple [.Name "rule" c3] i0 c4) c5) [⟨.Name "row" c6,.Name "rows" c7,[],0⟩,⟨.Name "rule" c8,.Subscript (.Name "RULES" c9) (.Name "case" c10) c11,[],0⟩] csc c12) (some (.Name "rows" c1)) c13.line (envOfC qual scope L f cd)=pure true)
  {m cm:Str→Option Value} (hns:s.heap.Ns L m) (hcells:∀x c,(cellsFrom (L+1) scope.names []).lookup x=some c→s.heap.IsCell c (cm x)) (hap:(cellsFrom (L+1) scope.names []).Pairwise fun x y=>x.2≠y.2) (hab:∀x c,(x,c)∈cellsFrom (L+1) scope.names []→L<c) {ca:Addr} (eca:(cellsFrom (L+1) scope.names []).lookup ("case":Str)=some ca):
  (GenState.fresh (.func [.Assign [.Name "rows" a1] (.List [.Tuple [] i1 a2] a3) a4,.For (.Name "case" b1) (.Name "CASES" b2) [.Assign [.Name "rows" c1] (.ListComp (.BinOp (.Name "row" c2) .Add (.Tuple [.Name "rule" c3] i0 c4) c5) [⟨.Name "row" c6,.Name "rows" c7,[],0⟩,⟨.Name "rule" c8,.Subscript (.Name "RULES" c9) (.Name "case" c10) c11,[],0⟩] csc c12) c13] [] b3,
   .For (.Name "row" d1) (.Name "rows" d2) [.Expr (.Yield (some (.Call (.Name "Table" d3) [.Name "row" d4] [] d5)) d6) d7] [] d8] (envOfC qual scope L f cd))).Goes (model P w) A (ER (az rss) L gi Fi) (EY B (az rss) C L (cellOf L scope) gi Fi) (az rss).length (.send .none) s:=by
 refine⟨rfl,seg_func ?_⟩
 have g:GC A (envOfC qual scope L f cd) (.func [.Assign [.Name "rows" a1] (.List [.Tuple [] i1 a2] a3) a4,.For (.Name "case" b1) (.Name "CASES" b2) [.Assign [.Name "rows" c1] (.ListComp (.BinOp (.Name "row" c2) .Add (.Tuple [.Name "rule" c3] i0 c4) c5) [⟨.Name "row" c6,.Name "rows" c7,[],0⟩,⟨.Name "rule" c8,.Subscript (.Name "RULES" c9) (.Name "case" c10) c11,[],0⟩] csc c12) c13] [] b3,
   .For (.Name "row" d1) (.Name "rows" d2) [.Expr (.Yield (some (.Call (.Name "Table" d3) [.Name "row" d4] [] d5)) d6) d7] [] d8] (envOfC qual scope L f cd)) [] id:=⟨over_func,rfl,rfl,rfl⟩
 have x0:InCallC { s with heap:=B} L m (envOfC qual scope L f cd).cells cm s:=⟨⟨⟨s.heap,s.toks,rfl⟩,hns,kB,hB⟩,hcells,hap,hab⟩
 have hL:L<s.heap.objs.size:=by obtain⟨o,_,_,e,_⟩:=hns;exact Heap.lt_size e
 have hh:(A.deeper (envOfC qual scope L f cd)).handled=none:=hr.hd
 refine seg_execs_cons (seg_wrap ?_)
 rw[g.over]
 refine wpAny_mono (wM S hsw1 x0 fun R0 refs0 s1 x1 l1 t1 n1 al1 nd1 k1=>?_) (fun _ _ z=>z) fun _ _ z=>z.elim
 show Seg _ _ _ _ _ _ _ _ _ _
 refine seg_execs_cons (seg_wrap ?_)
 rw[g.over]
 refine wpAny_mono (xh (n0:=s.heap.objs.size) S hh XB D mR mC oC rC hrs hlen hz hn hsw x1 eca (if_pos rfl) l1 t1 n1 al1 nd1 hL fun m2 cm2 R refs s2 x2 e2 l2 t2 n2 al2 nd2 k2=>?_) (fun _ _ z=>z) fun _ _ z=>z.elim
 show Seg _ _ _ _ _ _ _ _ _ _
 refine seg_execs_cons ?_
 refine wY (fun x=>rfl) ?_
 rw[g.over]
 refine ldLoc (f7 x2.toInCall) e2 ?_ S.kind S.rows
 refine wpAny_pyIter_list l2 fun p=>?_
 have nL:∀ {b:Addr},s.heap.objs.size≤b→L<b:=fun {b} hb=>Jk hL hb
 have hR2:R<s2.heap.objs.size:=by obtain⟨o,e,_⟩:=l2;exact Heap.lt_size e
 have kp:∀b o,b≠L→¬cellOf L scope b→s.heap.get? b=some o→s2.heap.get? b=some o:=fun b o q1 q2 e=>k2 b o q1 (fun z=>q2 ⟨_,z▸eca⟩) (k1 b o q1 e)
 generalize hs3:({ s2 with heap:=s2.heap.push { cls:=.type "list_iterator",data:=.fields #[.ref R,.int 0 0]}}:Shared)=s3
 have h3:s3.heap=s2.heap.push { cls:=.type "list_iterator",data:=.fields #[.ref R,.int 0 0]}:=by rw[← hs3]
 have g3:bc s2 s3:=⟨_,s2.toks,by rw[← hs3],.push⟩
 have it3:s3.heap.IsListIter s2.heap.objs.size R 0:=⟨_,by rw[h3];exact Heap.get?_push_size _ rfl,rfl,rfl⟩
 have only:∃h' tk,s3={ s with heap:=h',toks:=tk}:=by
  obtain⟨hb,tkb,eb⟩:=x2.toInCall.same
  exact⟨s3.heap,s3.toks,by rw[← hs3,eb]⟩
 refine yO (J:=s2.heap.objs.size) (R:=R) (refs:=refs) S M hi mT kT hok g hr hco XB hB h0 (fun s₀ s4 q1 q2 q3=>?_) (az rss).length 0 s s3 (Nat.zero_add _) ?_ (fun b o e=>g3.kept b o (x2.toInCall.keep b o e)) only (fun b o q1 q2 q3 e=>g3.kept b o (kp b o q1 (q3 rfl) e)) ?_ (.inl ⟨rfl,h0,fun b hb=>?_⟩)
 ·exact seg_end (.ok (.ret .none)) (.inl ⟨.inl rfl,_,R,refs,q1,q2,q3⟩)
 ·exact⟨⟨m2,x2.toInCall.ns.at' fun o e=>g3.kept _ o e⟩,it3,l2.at fun o e=>g3.kept _ o e,t2.kept g3.kept,t2.length,nd2,nL (Jx n2 (JI hR2)),nL n2,Jm hR2,fun b hb=>⟨nL (al2 b hb),Jm (t2.low b hb)⟩⟩
 ·rw[h3,Heap.size_push]
  exact Jx (Jx n2 (JI hR2)) (Nat.le_succ _)
 ·rcases Jj.mp hb with z|hb
  ·rw[z]
   exact Jx n2 (JI hR2)
  rcases Jj.mp hb with z|hb
  ·rw[z];exact n2
  ·exact al2 b (aY.mp hb)
end
structure Young(X:Cx)(pins:List (Addr×Obj))(H:Hp)(b:Addr):Prop where
 s0:X.s_0.heap.objs.size≤b
 loc:b≠X.env.locals
 cel:∀x c,X.env.cells.lookup x=some c→c≠b
 pin:∀p∈X.pn++pins,p.1≠b
 fs:b∉X.fs
 no:H b=none
def aG(H:Hp)(C T dx t:Addr)(o:Obj)(row:List Str):Hp:=upd (upd (upd H t (.frz o (.tup (row.map V.str)))) dx (.xd [])) T (SlX.SlO T C dx [some (.ref t)])
section
variable {X:Cx}{pins:List (Addr×Obj)}{σ:L2.St}{H:Hp}{s₀ s:Shared}{rows:List (List Str)}{C L J R T dx t:Addr}{refs:List Value}{cell:Addr→Prop}{i:Nat}{v:Value}
theorem Young.of_new(I:L2.Inv X pins σ H s₀){b:Addr}(h:s₀.heap.objs.size≤b):Young X pins H b:=
 ⟨Jx I.sz h,JA (Jk I.lt h),fun x c e z=>by
  obtain⟨w,hw⟩:=I.cell x c e
  exact JQ _ (Jk hw.lt (z▸h)),fun p hp z=>JQ _ (Jk (Heap.lt_size (I.pin p hp).1) (z▸h)),I.nofs h,I.hok.fresh h⟩
theorem ka(I:L2.Inv X pins σ H s₀)(wk:Woke rows C L cell i s₀ v s J R refs T dx t)(cl:List Addr)(hcl:i=0→∀b,cell b→b∈cl)(hz:∀row∈rows,row.length<1000)(yL:Young X pins H L)(yJ:Young X pins H J)(yc:∀b∈cl,Young X pins H b)(yt:Young X pins H t)(nt:t<T∧t<dx)(hb:AllBare s.gens):
  ∃o row,rows[i]? =some row∧o.dict=none∧L2.Inv X pins σ (aG H C T dx t o row) s:=by
 obtain⟨row,its,erow,⟨ot,eot,cot,nn,dot⟩,rt,ot',eot',ddt⟩:=wk.row
 rw[eot] at eot'
 rw[← Jq eot'] at ddt
 obtain⟨h',tk,es⟩:=wk.only
 have yT:Young X pins H T:=.of_new I wk.newT
 have yD:Young X pins H dx:=.of_new I wk.newD
 have tT:t≠T:=Jm nt.1
 have tD:t≠dx:=Jm nt.2
 have dT:=wk.tab.ne
 have HT:aG H C T dx t ot row T=some (SlX.SlO T C dx [some (.ref t)]):=upd_same
 have HD:aG H C T dx t ot row dx=some (.xd []):=by unfold aG;rw[upd_ne dT,upd_same]
 have Ht:aG H C T dx t ot row t=some (.frz ot (.tup (row.map V.str))):=by unfold aG;rw[upd_ne tT,upd_ne tD,upd_same]
 have Hn:∀b,b≠T→b≠dx→b≠t→aG H C T dx t ot row b=H b:=fun b h1 h2 h3=>by unfold aG;rw[upd_ne h1,upd_ne h2,upd_ne h3]
 have Hk:∀b u,H b=some u→aG H C T dx t ot row b=some u:=fun b u e=>by
  rw[Hn b (fun z=>by rw[z,yT.no] at e;cases e) (fun z=>by rw[z,yD.no] at e;cases e) (fun z=>by rw[z,yt.no] at e;cases e)]
  exact e
 have kp:∀b o,b∉L::J::cl→s₀.heap.get? b=some o→s.heap.get? b=some o:=fun b o hb e=>wk.keep b o (fun z=>hb (z▸Jf)) (fun z=>hb (z▸Je _ Jf)) (fun z0 z=>hb (Je _ (Je _ (hcl z0 b z)))) e
 have sub:∀b,b∉T::dx::t::L::J::cl→b∉L::J::cl:=fun b h z=>h (Je _ (Je _ (Je _ z)))
 have yall:∀b∈T::dx::t::L::J::cl,Young X pins H b:=fun b hb=>by
  rcases Jj.mp hb with z|hb
  ·exact z▸yT
  rcases Jj.mp hb with z|hb
  ·exact z▸yD
  rcases Jj.mp hb with z|hb
  ·exact z▸yt
  rcases Jj.mp hb with z|hb
  ·exact z▸yL
  rcases Jj.mp hb with z|hb
  ·exact z▸yJ
  ·exact yc b hb
 refine⟨ot,row,erow,ddt,I.call' (s':=s) (ch:=T::dx::t::L::J::cl) (by rw[es]) ⟨fun b o e _ _ hx=>kp b o (sub b hx) e,fun b o e _ _ hx=>⟨o.slots,kp b o (sub b hx) e⟩,fun b o e n hx=>?_,fun b o e hx=>⟨o,kp b o (sub b hx) e⟩,fun b xs e=>Hk b _ e,fun b o u e=>Hk b _ e,fun b ps e=>⟨#[],by rw[Hk b _ e];simp⟩⟩ (fun b u e=>?_) hb fun b hb=>⟨.inr (yall b hb).s0,(yall b hb).loc,(yall b hb).cel,(yall b hb).pin⟩⟩
 ·rw[Hn b (fun z=>hx (z▸Jf)) (fun z=>hx (z▸Je _ Jf)) (fun z=>hx (z▸Je _ (Je _ Jf)))]
  exact n
 ·by_cases h1:b=T
  ·rw[h1,HT] at e
   rw[← Jq e,h1]
   refine⟨⟨_,wk.tab.obj,fun j v hj=>?_⟩,⟨_,wk.tab.obj⟩,fun h1 h2 ⟨sl,z1,z2⟩ st=>⟨sl,st _ z1,z2⟩⟩
   cases j with
   |zero=>
    cases hj
    exact⟨.ref t,rfl,rfl⟩
   |succ j=>simp at hj
  by_cases h2:b=dx
  ·rw[h2,HD] at e
   rw[← Jq e,h2]
   have e0:s.heap.Ns dx (fun _=>none):=⟨PySem.W.emptyDict, #[],_,wk.tab.dict,rfl,(fun e he=>absurd he (by simp)),fun _=>rfl⟩
   exact⟨fun _=>none,Heap.Ns1.of_empty e0,fun _=>True.intro⟩
  by_cases h3:b=t
  ·rw[h3,Ht] at e
   rw[← Jq e,h3]
   refine⟨eot,?_,its.toList,rt,ot,eot,cot,nn,by simpa using dot⟩
   have h1:=hz row (Js erow)
   have h2:1000≤sizeLine:=by decide
   rw[Jt]
   omega
  ·rw[Hn b h1 h2 h3] at e
   have known:∀c u,H c=some u→c∉L::J::cl:=fun c u e z=>by
    have:=(yall c (Je _ (Je _ (Je _ z)))).no
    rw[e] at this
    cases this
   refine(I.hok b u e).stay (fun c w hc q=>kp c w ?_ q) (fun c q=>Hk c _ q) fun c xs q=>Hk c _ q
   rcases hc with z|z
   ·rw[z];exact known b u e
   ·exact known c _ z
end
structure YoungS(X:Cx)(pins:List (Addr×Obj))(b:Addr):Prop where
 s0:X.s_0.heap.objs.size≤b
 loc:b≠X.env.locals
 cel:∀x c,X.env.cells.lookup x=some c→c≠b
 pin:∀p∈X.pn++pins,p.1≠b
 fs:b∉X.fs
theorem Young.s{X:Cx}{pins:List (Addr×Obj)}{H:Hp}{b:Addr}(y:Young X pins H b):YoungS X pins b:=⟨y.s0,y.loc,y.cel,y.pin,y.fs⟩
theorem YoungS.y{X:Cx}{pins:List (Addr×Obj)}{H:Hp}{b:Addr}(y:YoungS X pins b)(n:H b=none):Young X pins H b:=⟨y.s0,y.loc,y.cel,y.pin,y.fs,n⟩
def HA(X:Cx)(pins:List (Addr×Obj))(W:Nat→L2.St→Hp→Prop)(ga:Addr)(go:Obj):Nat→List Addr→Shared→Prop:=fun i own s=>
 0<i∧∃σ H gp,W i σ H∧L2.Inv X (pins++gp) σ H s∧(∀b∈ga::own,∃o,(b,o)∈gp)∧(ga,go)∈gp∧(∀b∈ga::own,YoungS X pins b)∧∀b∈own,b≠ga
section
variable {X:Cx}{pins:List (Addr×Obj)}{σ:L2.St}{H:Hp}{s₀ s:Shared}{rows:List (List Str)}{C L ga:Addr}{go:Obj}{gi:Nat}{cell:Addr→Prop}{W:Nat→L2.St→Hp→Prop}
theorem mw(I:L2.Inv X pins σ H s₀){J:Addr}(only:∃h' tk,s={ s₀ with heap:=h',toks:=tk})(keep:∀b o,b≠L→b≠J→s₀.heap.get? b=some o→s.heap.get? b=some o)(yL:Young X pins H L)(yJ:Young X pins H J):L2.Inv X pins σ H s:=by
 obtain⟨h',tk,es⟩:=only
 have kp:∀b o,b∉[L,J]→s₀.heap.get? b=some o→s.heap.get? b=some o:=fun b o hb e=>keep b o (fun z=>hb (z▸Jf)) (fun z=>hb (z▸Je _ Jf)) e
 have yall:∀b∈[L,J],Young X pins H b:=fun b hb=>by
  rcases Jj.mp hb with z|hb
  ·exact z▸yL
  ·exact(Jg.mp hb)▸yJ
 refine I.call' (s':=s) (ch:=[L,J]) (by rw[es]) ⟨fun b o e _ _ hx=>kp b o hx e,fun b o e _ _ hx=>⟨o.slots,kp b o hx e⟩,fun b o e n hx=>n,fun b o e hx=>⟨o,kp b o hx e⟩,fun b xs e=>e,fun b o u e=>e,fun b ps e=>⟨#[],by rw[e];simp⟩⟩ (fun b u e=>?_) (by rw[es];exact I.bare) fun b hb=>⟨.inr (yall b hb).s0,(yall b hb).loc,(yall b hb).cel,(yall b hb).pin⟩
 have known:∀c u,H c=some u→c∉[L,J]:=fun c u e z=>by
  have:=(yall c z).no
  rw[e] at this
  cases this
 refine(I.hok b u e).stay (fun c w hc q=>kp c w ?_ q) (fun c q=>q) fun c xs q=>q
 rcases hc with z|z
 ·rw[z];exact known b u e
 ·exact known c _ z
theorem ij{refs:List Value}{i:Nat}{t:Addr}(e:refs[i]? =some (.ref t))(nd:(bp refs).Nodup):t∈bp (refs.drop i)∧∀b∈bp (refs.drop (i+1)),b≠t:=by
 have hi:i<refs.length:=(Jl.mp e).1
 have es:refs.drop i= .ref t::refs.drop (i+1):=by
  rw[List.drop_eq_getElem_cons hi]
  rw[Jo hi] at e
  rw[Jq e]
 have e2:bp (refs.drop i)=t::bp (refs.drop (i+1)):=by
  rw[es]
  rfl
 have e3:bp refs=bp (refs.take i)++bp (refs.drop i):=by
  unfold bp
  rw[← List.filterMap_append,List.take_append_drop]
 rw[e3,e2] at nd
 have nd2:=(List.nodup_append.mp nd).2.1
 refine⟨by rw[e2];exact Jf,fun b hb z=>?_⟩
 rw[z] at hb
 exact(List.nodup_cons.mp nd2).1 hb
theorem woken{n:Nat}{v:Value}{gs':GenState}{kap:Resume→Shared→Prop}(hb:gs'.bare=true)(hz:∀row∈rows,row.length<1000)(cl:List Addr)(hcl:∀b,cell b→b∈cl)
  (hgo:s.heap.get? ga=some go) (hgg:go.cls= .type "generator"∧∀v,go.data≠ .cell v) (hLg:L≠ga) (hcg:∀b,cell b→b≠ga) {i0:Nat} (hi0:i0+n+1=rows.length)
  (h0:i0=0→∃σ H,W 0 σ H∧L2.Inv X pins σ H s∧Young X pins H L∧Young X pins H ga∧∀b∈cl,Young X pins H b)
  (hv:EY X.base rows C L cell gi (HA X pins W ga go) n (s.setGen gi .running) v s₀ kap):
  ∃σ H gp own T dx t o row,rows[i0]? =some row∧o.dict=none∧W i0 σ H∧v= .ref T∧H T=none∧H dx=none∧H t=none∧dx≠T∧t≠T∧t≠dx∧L2.Inv X (pins++gp) σ (aG H C T dx t o row) (s₀.setGen gi gs')∧(ga,go)∈gp∧
   (∃h' tk,s₀={ s.setGen gi .running with heap:=h',toks:=tk})∧
   ∀σ' H' s',L2.Inv X (pins++gp) σ' H' s'→W (i0+1) σ' H'→HA X pins W ga go (i0+1) own s'∧kap (.send .none) (s'.setGen gi .running)∧kap (.send (.bool true)) (s'.setGen gi .running):=by
 obtain⟨J,R,refs,T,dx,t,i,hi,wk,link,cont⟩:=hv
 obtain rfl:i=i0:=by omega
 have gal:ga<s.heap.objs.size:=Heap.lt_size hgo
 obtain⟨tm,tnd⟩:=ij wk.ref wk.sl.nd
 obtain⟨σ,H,hW,I,yall,yc,own_ga⟩:∃σ H,W i σ H∧L2.Inv X pins σ H (s.setGen gi .running)∧(∀b∈ga::aR L J R (refs.drop i),Young X pins H b)∧(i=0→∀b∈cl,Young X pins H b)∧∀b∈aR L J R (refs.drop i),b≠ga:=by
  rcases link with⟨z,new⟩| ⟨s1,F,es⟩
  ·subst z
   obtain⟨σ,H,hW,I,yL,yg,yc⟩:=h0 rfl
   refine⟨σ,H,hW,b9 I (allBare_setGen I.bare rfl),fun b hb=>?_,fun _=>yc,fun b hb=>?_⟩
   ·rcases Jj.mp hb with z|hb
    ·exact z▸yg
    rcases Jj.mp hb with z|hb
    ·exact z▸yL
    ·exact .of_new I (new b hb)
   ·rcases Jj.mp hb with z|hb
    ·exact z▸hLg
    ·exact JA (Jk gal (new b hb))
  ·obtain⟨hi1,σ,H,gp,hW,I,hpin,hgp,yS,ne⟩:=F
   refine⟨σ,H,hW,?_,fun b hb=>?_,fun z=>absurd z (JA hi1),ne⟩
   ·rw[es]
    exact b9 I.unpinned (allBare_setGen I.bare rfl)
   ·obtain⟨o,ho⟩:=hpin b hb
    exact(yS b hb).y (I.pin (b,o) (Ji _ (Ji _ ho))).2.1
 have yL:Young X pins H L:=yall L (Je _ Jf)
 have yJ:Young X pins H J:=yall J (Je _ (Je _ Jf))
 have yt:Young X pins H t:=yall t (Je _ (Je _ (Je _ (Je _ tm))))
 have town:t∈aR L J R (refs.drop i):=Je _ (Je _ (Je _ tm))
 have nt:=wk.newO t town
 have bare0:AllBare s₀.gens:=by
  obtain⟨h',tk,es⟩:=wk.only
  rw[es]
  exact I.bare
 obtain⟨o,row,erow,dno,I2⟩:=ka I wk (if i=0 then cl else[]) (fun z b hb=>by rw[if_pos z];exact hcl b hb) hz yL yJ (fun b hb=>by
  split at hb
  ·next z=>exact yc z b hb
  ·cases hb) yt nt bare0
 have yT:Young X pins H T:=.of_new I wk.newT
 have yD:Young X pins H dx:=.of_new I wk.newD
 have I3:L2.Inv X pins σ (aG H C T dx t o row) (s₀.setGen gi gs'):=b9 I2 (allBare_setGen I2.bare hb)
 have sub:∀b∈aR L J R (refs.drop (i+1)),b∈aR L J R (refs.drop i):=fun b hb=>by
  rcases Jj.mp hb with z|hb
  ·exact z▸Jf
  rcases Jj.mp hb with z|hb
  ·exact z▸Je _ Jf
  rcases Jj.mp hb with z|hb
  ·exact z▸Je _ (Je _ Jf)
  ·refine Je _ (Je _ (Je _ (aY.mpr ?_)))
   have:=aY.mp hb
   rw[← List.drop_drop] at this
   exact List.mem_of_mem_drop this
 have tref:Value.ref t∈refs:=Js wk.ref
 obtain⟨row',its,_,⟨ot,eot,cot,_,dot⟩,_⟩:=wk.row
 have hga:s₀.heap.get? ga=some go:=wk.keep ga go (Ne.symm hLg) (fun z=>own_ga J (Je _ Jf) z.symm) (fun _ z=>hcg ga z rfl) hgo
 have there:∀b∈ga::aR L J R (refs.drop (i+1)),b≠t∧b<T∧b<dx∧∃o,s₀.heap.get? b=some o∧∀v,o.data≠ .cell v:=fun b hb=>by
  rcases Jj.mp hb with z|hb
  ·rw[z]
   refine⟨fun z=>?_,Jk gal wk.newT,Jk gal wk.newD,go,hga,hgg.2⟩
   rw[z,eot] at hga
   rw[Jq hga,hgg.1] at cot
   exact absurd cot (by decide)
  have lt:=wk.newO b (sub b hb)
  rcases Jj.mp hb with z|hb
  ·subst z
   obtain⟨m,o,es,ep,eo,eod,_⟩:=wk.sl.ns
   exact⟨Jm (wk.sl.at_ t tref).1,lt.1,lt.2,o,eo,fun v z=>by rw[eod] at z;cases z⟩
  rcases Jj.mp hb with z|hb
  ·subst z
   obtain⟨o,eo,ho⟩:=wk.sl.it
   exact⟨Ne.symm (wk.sl.at_ t tref).2,lt.1,lt.2,o,eo,fun v z=>by
    rw[z] at ho
    simp at ho⟩
  rcases Jj.mp hb with z|hb
  ·subst z
   obtain⟨o,eo,co,n,ho⟩:=wk.sl.lst
   refine⟨fun z=>?_,lt.1,lt.2,o,eo,fun v z=>by rw[ho] at z;cases z⟩
   rw[z,eot] at eo
   rw[Jq eo,co] at cot
   exact absurd cot (by decide)
  ·obtain⟨j,hj⟩:=List.getElem?_of_mem (aY.mp hb)
   obtain⟨_,_,a,_,ea,⟨o,eo,co,n,ho⟩,_⟩:=wk.sl.tup.at_ hj
   cases ea
   exact⟨tnd b hb,lt.1,lt.2,o,eo,fun v z=>by rw[ho] at z;cases z⟩
 have hpins:∀b∈ga::aR L J R (refs.drop (i+1)),∃o,(b,o)∈pinsAt (ga::aR L J R (refs.drop (i+1))) s₀.heap∧s₀.heap.get? b=some o:=fun b hb=>by
  obtain⟨_,_,_,o,eo,_⟩:=there b hb
  exact⟨o,mem_pinsAt hb eo,eo⟩
 have hgp:(ga,go)∈pinsAt (ga::aR L J R (refs.drop (i+1))) s₀.heap:=mem_pinsAt Jf hga
 have ysub:∀b∈ga::aR L J R (refs.drop (i+1)),Young X pins H b:=fun b hb=>by
  rcases Jj.mp hb with z|hb
  ·exact z▸yall ga Jf
  ·exact yall b (Je _ (sub b hb))
 have I4:L2.Inv X (pins++pinsAt (ga::aR L J R (refs.drop (i+1))) s₀.heap) σ (aG H C T dx t o row) (s₀.setGen gi gs'):=I3.pins_of fun p hp=>by
  rcases Jv.mp hp with z|z
  ·exact I3.pin p (Ji _ z)
  ·obtain⟨hb,eo⟩:=of_pinsAt z
   obtain⟨n1,n2,n3,o',eo',nc⟩:=there p.1 hb
   have y:=ysub p.1 hb
   refine⟨eo,?_,y.loc,y.fs,?_⟩
   ·unfold aG
    rw[upd_ne (Jm n2),upd_ne (Jm n3),upd_ne n1]
    exact y.no
   ·rw[eo] at eo'
    rw[Jq eo']
    exact nc
 refine⟨σ,H,_,aR L J R (refs.drop (i+1)),T,dx,t,o,row,erow,dno,hW,wk.val,yT.no,yD.no,yt.no,wk.tab.ne,Jm nt.1,Jm nt.2,I4,hgp,wk.only,fun σ' H' s' I' hW'=>?_⟩
 have F:HA X pins W ga go (i+1) (aR L J R (refs.drop (i+1))) s':=⟨Nat.succ_pos _,σ',H',_,hW',I',fun b hb=>let⟨o,h1,_⟩:=hpins b hb;⟨o,h1⟩,hgp,fun b hb=>(ysub b hb).s,fun b hb=>own_ga b (sub b hb)⟩
 refine⟨F,cont s' F I'.bk fun b hb o eo=>?_⟩
 obtain⟨o',h1,eo'⟩:=hpins b (Je _ hb)
 rw[eo'] at eo
 rw[← Jq eo]
 exact(I'.pin (b,o') (Ji _ (Ji _ h1))).1
end
structure Bor(s:Shared)(qual:Str)(gb:List Stmt)(scope:Scope)(f:Addr)(cdv:Value)(ga gi:Nat)(go:Obj)(s3:Shared):Prop where
 obj:∃nm qn,go.cls= .type "generator"∧go.data= .fields #[.int gi 0,nm,qn]∧go.slots= #[]
 gi_:gi=s.gens.size
 only:∃h tk,s3={ s with heap:=h,toks:=tk,gens:=s.gens.push (.fresh (.func gb (envOfC qual scope s.heap.objs.size f cdv)))}
 keep:Kept s.heap s3.heap
 lt:s.heap.objs.size<ga
 pw:(cellsFrom (s.heap.objs.size+1) scope.names []).Pairwise fun x y=>x.2≠y.2
 ab:∀x c,(x,c)∈cellsFrom (s.heap.objs.size+1) scope.names []→s.heap.objs.size<c
 bl:∀x c,(cellsFrom (s.heap.objs.size+1) scope.names []).lookup x=some c→c<ga
structure Nov(L:Addr)(scope:Scope)(ga:Addr)(go:Obj)(h:Heap):Prop where
 at_:h.get? ga=some go
 ns:∃m,h.Ns L m
 cells:∃cm:Str→Option Value,∀x c,(cellsFrom (L+1) scope.names []).lookup x=some c→h.IsCell c (cm x)
theorem Nov.kept{L:Addr}{scope:Scope}{ga:Addr}{go:Obj}{h h':Heap}(x:Nov L scope ga go h)(k:∀b o,L≤b→b≤ga→h.get? b=some o→h'.get? b=some o)(lt:L≤ga)(ab:∀x c,(cellsFrom (L+1) scope.names []).lookup x=some c→L<c∧c<ga):Nov L scope ga go h':=by
 obtain⟨m,n⟩:=x.ns
 obtain⟨cm,c⟩:=x.cells
 refine⟨k _ _ lt (JD _) x.at_,⟨m,n.at' fun o e=>k _ o (JD _) lt e⟩,cm,fun y d e=>?_⟩
 obtain⟨o,ho,hd⟩:=c y d e
 obtain⟨z1,z2⟩:=ab y d e
 exact⟨o,k _ o (JI z1) (JI z2) ho,hd⟩
theorem Bor.isGen{s:Shared}{qual:Str}{gb:List Stmt}{scope:Scope}{f:Addr}{cdv:Value}{ga gi:Nat}{go:Obj}{s3:Shared}(B:Bor s qual gb scope f cdv ga gi go s3){h:Heap}(e:h.get? ga=some go):h.IsGen ga gi:=by
 obtain⟨nm,qn,h1,h2,h3⟩:=B.obj
 exact⟨go,nm,qn,e,h1,h2,h3⟩
theorem Bor.gg{s:Shared}{qual:Str}{gb:List Stmt}{scope:Scope}{f:Addr}{cdv:Value}{ga gi:Nat}{go:Obj}{s3:Shared}(B:Bor s qual gb scope f cdv ga gi go s3):go.cls= .type "generator"∧∀v,go.data≠ .cell v:=by
 obtain⟨nm,qn,h1,h2,h3⟩:=B.obj
 exact⟨h1,fun v z=>by rw[h2] at z;cases z⟩
section
variable {X:Cx}{pins:List (Addr×Obj)}{σ:L2.St}{H:Hp}{s:Shared}
theorem il{x:Str}{p pos:Pos}{Ng:List Str}{f:Addr}{qual:Str}{body:List Stmt}{scope:Scope}{cdv oc:Value}{od:Option Addr}{osl:Array (Option Value)}{name:Str}{params:Arguments}{dV kV doc pm ct:Value}{an:Option Addr}{Q:Value→Shared→Prop}
  (hr:Room 0 X.A) (lk:X.K.lookup f=some ⟨oc,od,.func (PySem.W.fnOf name qual params body scope dV kV doc pm an cdv ct),osl⟩) (hcd:PySem.W.codeIn X.K cdv qual=true) (S:GScope Ng [] scope)
  (hbn:L2.Binds X.K (PySem.W.fnOf name qual params body scope dV kV doc pm an cdv ct) [] []) (hm:X.mg x=some (.ref f)) (hk:PySem.W.keepIn X.K (.ref f)=true) (hg:Gl X x) (hdb:(x==("__debug__":Str))=false) (I:L2.Inv X pins σ H s)
  (h:∀ga gi go s3,Bor s qual body scope f cdv ga gi go s3→Nov s.heap.objs.size scope ga go s3.heap→L2.Inv X pins σ H s3→Q (.ref ga) s3):wpAny (model X.prog X.w) X.A (eval (.Call (.Name x p) [] [] pos) X.env) Q X.xe s:=by
 refine wpAny_Call_Name_kw (ld_glob I hg hm ?_ hdb)
 refine PySem.W.callWith_K0 I.kIn hk ?_
 have KX:=I.kIn
 have b:=hbn s [] KX rfl
 have lim:s.heap.NoLimit:=I.nolimit
 have hkind:∀y∈([]:List Str).zip ([]:List Value),scope.names.lookup y.1=some .local∨(scope.names.lookup y.1=some .cell∧((cellsFrom (s.heap.objs.size+1) scope.names []).lookup y.1).isSome=true):=fun y hy=>nomatch hy
 refine wpAny_call (codeAny_call_generator hr.depth (KX _ _ lk) rfl S.co S.gen rfl (PySem.W.codeRec_of KX hcd) (b _ _ _ _ ?_))
 refine wpAny_newFunctionEnv_cells S.kind hkind fun env he s2 xx=>?_
 subst he
 have lim1:s2.heap.NoLimit:=lim.keeps xx.toInCall.keep
 refine⟨lim1,?_⟩
 obtain⟨h1,tk,es1,hk1⟩:=xx.done
 have os1:s2.os=s.os:=by rw[es1]
 have gen1:s2.gens=s.gens:=by rw[es1]
 have lt1:s.heap.objs.size<s2.heap.objs.size:=xx.toInCall.ns.lt
 have kp1:∀b o,s.heap.get? b=some o→s2.heap.get? b=some o:=xx.toInCall.keep
 have main:∀ (go:Obj) (nm qn:Value) (tk2:Nat),go.cls= .type "generator"→go.data= .fields #[.int s2.gens.size 0,nm,qn]→go.slots= #[]→(∀h:Heap,(h.push go).get? h.objs.size=some go)→
   Q (.ref s2.heap.objs.size) { s2 with gens:=s2.gens.push (.fresh (.func body (envOfC qual scope s.heap.objs.size f cdv))),toks:=tk2,heap:=s2.heap.push go}:=by
  intro go nm qn tk2 hgc hgd hgs hgp
  have kp3:∀b o,s2.heap.get? b=some o→(s2.heap.push go).get? b=some o:=fun b o e=>Heap.get?_push_of_some _ e
  have bare3:AllBare (s2.gens.push (.fresh (.func body (envOfC qual scope s.heap.objs.size f cdv)))):=AllBare.push (by rw[gen1];exact I.bare) rfl
  have cells:∃cm:Str→Option Value,∀x c,(cellsFrom (s.heap.objs.size+1) scope.names []).lookup x=some c→s2.heap.IsCell c (cm x):=⟨_,fun x c e=>xx.cell x c e⟩
  obtain⟨cm,hcm⟩:=cells
  refine h _ s2.gens.size go _ ⟨⟨nm,qn,hgc,hgd,hgs⟩,by rw[gen1],⟨s2.heap.push go,tk2,by rw[es1]⟩,fun b o e=>kp3 b o (kp1 b o e),lt1,xx.apart,fun x c e=>xx.above x c e,fun x c e=>?_⟩ ⟨hgp _,⟨_,xx.toInCall.ns.at' fun o e=>kp3 _ o e⟩,cm,fun x c e=>?_⟩ ?_
  ·obtain⟨o,ho,_⟩:=hcm x c e
   exact Heap.lt_size ho
  ·obtain⟨o,ho,hd⟩:=hcm x c e
   exact⟨o,kp3 _ _ ho,hd⟩
  ·exact I.call' (ch:=[]) os1 (Un.kept fun b o e=>kp3 b o (kp1 b o e)) (I.hok.kept fun b o e=>kp3 b o (kp1 b o e)) bare3 fun b z=>by simp at z
 exact main _ _ _ _ rfl rfl rfl fun h=>Heap.get?_push_size _ rfl
end
structure AllT(P:Program)(w:World)(K:PySem.W.Frag)(mg:Str→Option Value)(base:Heap)(C:Addr)(x:Str)(rows:List (List Str)):Prop where
 ex:∃ (Ng:List Str) (f:Addr) (qual:Str) (body:List Stmt) (scope:Scope) (cdv:Value) (fd:FuncData) (oc:Value) (od:Option Addr) (osl:Array (Option Value)) (name:Str) (params:Arguments) (dV kV doc pm ct:Value) (an:Option Addr),
  fd=PySem.W.fnOf name qual params body scope dV kV doc pm an cdv ct∧K.lookup f=some ⟨oc,od,.func fd,osl⟩∧PySem.W.codeIn K cdv qual=true∧GScope Ng [] scope∧L2.Binds K fd [] []∧mg x=some (.ref f)∧PySem.W.keepIn K (.ref f)=true∧
  ∀ (A:Around) (L ga:Addr) (go:Obj) (gi:Nat) (Fi:Nat→List Addr→Shared→Prop) (s:Shared),Room 2 A→Fx K mg base→base.objs.size≤L→Kept base s.heap→Nov L scope ga go s.heap→(cellsFrom (L+1) scope.names []).Pairwise (fun x y=>x.2≠y.2)→(∀x c,(x,c)∈cellsFrom (L+1) scope.names []→L<c)→
   (GenState.fresh (.func body (envOfC qual scope L f cdv))).Goes (model P w) A (ER rows L gi Fi) (EY base rows C L (cellOf L scope) gi Fi) rows.length (.send .none) s
 many:1<rows.length
 few:rows.length<sizeLine
 small:∀row∈rows,row.length<1000
def Bm(C:Addr)(rows:List (List Str))(gt:TG)(tb:TS):TS:=fun D σ H=>∃W:Nat→L2.St→Hp→Prop,W 0 σ H∧
 (∀i row σ H T dx t o,rows[i]? =some row→o.dict=none→W i σ H→H T=none→H dx=none→H t=none→dx≠T→t≠T→t≠dx→gt (.ref T) σ (aG H C T dx t o row) fun σ2 H2=>tb { D with nx:=W (i+1),ct:=W (i+1),bk:=D.nx} σ2 H2)∧
 ∀σ H,W rows.length σ H→D.nx σ H
section
variable {X:Cx}{C:Addr}{x:Str}{rows:List (List Str)}{tg:Expr}{body:List Stmt}{gt:TG}{tb:TS}{p pp pos:Pos}
theorem AM(hc:X.calm=true)(hr:RoomG 4 X.A)(M:AllT X.prog X.w X.K X.mg X.base C x rows)(hgx:Gl X x)(hdb:(x==("__debug__":Str))=false)(hg:PG X.nox tg gt)(hb:PSs X.nox body tb)(hlo:∀it v,letOwnedTupleGo tg it v=pure ())
  (hsf:∀y,foldedSetIterable (.Call (.Name x p) [] [] pp) X.env y=pure y):PS X (.For tg (.Call (.Name x p) [] [] pp) body [] pos) (Bm C rows gt tb):=by
 obtain⟨Ng,f,qual,gb,scope,cdv,fd,oc,od,osl,name,params,dV,kV,doc,pm,ct,an,efd,lk,hcd,S,hbn,hm,hkp,walk⟩:=M.ex
 subst efd
 refine⟨fun pins s σ H D I ⟨W,w0,wstep,wend⟩=>?_⟩
 refine wpAny_For ?_ hsf
 refine il (hr.room.mono (by omega)) lk hcd S hbn hm hkp hgx hdb I fun ga gi go s3 B N I3=>?_
 refine wpAny_pyIter_gen (B.isGen N.at_) ?_
 generalize hL:s.heap.objs.size=L at N B
 have yL:Young X pins H L:=.of_new I (Nat.le_of_eq hL)
 have Blt:L<ga:=hL▸B.lt
 have yG:Young X pins H ga:=.of_new I (hL▸JI Blt)
 have ab:∀x c,(x,c)∈cellsFrom (L+1) scope.names []→L<c:=by rw[← hL];exact B.ab
 have bl:∀x c,(cellsFrom (L+1) scope.names []).lookup x=some c→c<ga:=by rw[← hL];exact B.bl
 have pw:(cellsFrom (L+1) scope.names []).Pairwise fun x y=>x.2≠y.2:=by rw[← hL];exact B.pw
 have gs3:s3.gens[gi]? =some (.fresh (.func gb (envOfC qual scope L f cdv))):=by
  obtain⟨h',tk,es⟩:=B.only
  rw[es,B.gi_, ← hL]
  exact Array.getElem?_push_size ..
 let cl:List Addr:=(cellsFrom (L+1) scope.names []).map (·.2)
 have hcl:∀b,cellOf L scope b→b∈cl:=fun b ⟨y,hy⟩=>JU.mpr ⟨(y,b),PySem.mem_of_lookup hy,rfl⟩
 have hclL:∀b∈cl,L<b:=fun b hb=>by
  obtain⟨⟨y,c⟩,h1,rfl⟩:=JU.mp hb
  exact ab y c h1
 have yC:∀b∈cl,Young X pins H b:=fun b hb=>.of_new I (hL▸JI (hclL b hb))
 have Ip:L2.Inv X (pins++[(ga,go)]) σ H s3:=I3.pins_of fun q hq=>by
  rcases Jv.mp hq with z|z
  ·exact I3.pin q (Ji _ z)
  ·rw[Jg.mp z]
   exact⟨N.at_,yG.no,yG.loc,yG.fs,B.gg.2⟩
 let Fi:=HA X pins W ga go
 refine codeAny_forLoop_any (fun n s'=>∃σ' H' gp gs,L2.Inv X (pins++gp) σ' H' s'∧(ga,go)∈gp∧s'.gens[gi]? =some gs∧(n=rows.length→W 0 σ' H'∧Young X pins H' L∧Young X pins H' ga∧∀b∈cl,Young X pins H' b)∧
  gs.Goes (model X.prog X.w) X.A.in1 (ER rows L gi Fi) (EY X.base rows C L (cellOf L scope) gi Fi) n (.send .none) (s'.setGen gi .running)) ?_ rows.length
  ⟨σ,H,_,_,Ip,Jg.mpr rfl,gs3,fun _=>⟨w0,yL,yG,yC⟩,walk _ L ga go gi Fi _ (hr.room.in1.mono (by omega)) ⟨I.ok.mod.kin,I.ok.mod.glob,I.ok.mod.blt,I.ok.mod.nolimit⟩ (hL▸Jx I.ok.bsz I.sz) (fun b o e=>I3.bk b o e) N pw ab⟩
 rintro n s4 ⟨σ4,H4,gp,gs,I4,hgo,hgs4,first,hgoes⟩
 have gl:gi<s4.gens.size:=(Array.getElem?_eq_some_iff.mp hgs4).1
 have ego:s4.heap.get? ga=some go:=(I4.pin (ga,go) (Ji _ (Ji _ hgo))).1
 refine wpAny_gsz (n:=gi+1) gl (next_genG (A:=X.A) (I.ok.hd hc) I4.nolimit hr.room.depth (B.isGen ego) hgs4 (F:=fun _ s₀ s=>∃ (J R:Addr) (refs:List Value),(∃h' tk,s={ s₀ with heap:=h',toks:=tk})∧(∀b o,b≠L→b≠J→s₀.heap.get? b=some o→s.heap.get? b=some o)∧∃s1,Fi rows.length (aR L J R (refs.drop rows.length)) s1∧s₀=s1.setGen gi .running) (Er:=fun _ _=>False) hgoes (fun v s₁ gs' hbare hv=>?_) (fun s₁ hp h' hk=>?_) fun e s₁ he=>he.elim)
 ·intro hsz
  obtain⟨i0,hi0⟩:∃i0,i0+(n-1)+1=rows.length:=by
   obtain⟨_,_,_,_,_,_,i,hi,_⟩:=id hv
   exact⟨i,hi⟩
  have gl1:gi<s₁.gens.size:=by
   have z:(s₁.setGen gi gs').gens.size=s₁.gens.size:=setGen_size _ _ _
   have hsz':gi+1≤(s₁.setGen gi gs').gens.size:=hsz
   omega
  obtain⟨σ5,H5,gp5,own,T,dx,t,o,row,erow,dno,w5,ev,n1,n2,n3,d1,d2,d3,I5,hgo5,_,cont⟩:=woken (gs':=gs') (rows:=rows) hbare M.small cl hcl ego B.gg (Jm Blt) (fun b ⟨y,hy⟩=>Jm (bl y b hy)) hi0 (fun z=>by
   have:=M.many
   obtain⟨f1,f2,f3,f4⟩:=first (by omega)
   exact⟨σ4,H4,f1,I4.unpinned,f2,f3,f4⟩) hv
  refine wpAny_of_eq (hlo _ _) ?_
  refine wpAny_mono (wX (g:=gi) (D:={ D with nx:=W (i0+1),ct:=W (i0+1),bk:=D.nx}) hg hb I5 (x:=.ref T) ev (wstep i0 row σ5 H5 T dx t o erow dno w5 n1 n2 n3 d1 d2 d3)) (fun _ s6 h6=>wpAny_mono h6 (fun fl s7 h7=>?_) fun _ _ z=>z) fun _ _ z=>z
  obtain⟨h7,keep⟩:=h7
  have again:∀ {σ7:L2.St} {H7:Hp},L2.Inv X (pins++gp5) σ7 H7 s7→W (i0+1) σ7 H7→∃m,m<n∧∃σ' H' gp gs,L2.Inv X (pins++gp) σ' H' s7∧(ga,go)∈gp∧s7.gens[gi]? =some gs∧(m=rows.length→W 0 σ' H'∧Young X pins H' L∧Young X pins H' ga∧∀b∈cl,Young X pins H' b)∧
    gs.Goes (model X.prog X.w) X.A.in1 (ER rows L gi Fi) (EY X.base rows C L (cellOf L scope) gi Fi) m (.send .none) (s7.setGen gi .running):=fun {σ7 H7} I7 w7=>by
   obtain⟨_,k1,k2⟩:=cont σ7 H7 s7 I7 w7
   cases n with
   |zero=>exact False.elim k1
   |succ n=>
    refine⟨n,Nat.lt_succ_self n,σ7,H7,gp5,gs',I7,hgo5,?_,fun z=>by omega,k1⟩
    have gset:(s₁.setGen gi gs').gens[gi]? =some gs':=setGen_at gl1
    cases gs' with
    |suspended k l c p fs cl=>exact keep k l c p fs cl gset
    |fresh c=>
     have e:Resume.send (Value.bool true)=Resume.send Value.none:=k2.1
     cases e
    |running=>exact False.elim k1
    |finished=>exact False.elim k1
  cases fl with
  |next=>obtain⟨σ7,H7,I7,q7⟩:=h7;exact again I7 q7
  |cont=>obtain⟨σ7,H7,I7,q7⟩:=h7;exact again I7 q7
  |brk=>obtain⟨σ7,H7,I7,q7⟩:=h7;exact⟨σ7,H7,I7.unpinned,q7⟩
  |ret u=>obtain⟨v7,σ7,H7,I7,r7,q7⟩:=h7;exact⟨v7,σ7,H7,I7.unpinned,r7,q7⟩
 ·intro _
  obtain⟨J,R,refs,only,kp,s1,⟨_,σc,Hc,gpc,wc,Ic,pc,gc,yc,nc⟩,es⟩:=hp
  have yy:∀b∈ga::aR L J R (refs.drop rows.length),Young X pins Hc b:=fun b hb=>by
   obtain⟨o,ho⟩:=pc b hb
   exact(yc b hb).y (Ic.pin (b,o) (Ji _ (Ji _ ho))).2.1
  have Is:L2.Inv X pins σc Hc (s4.setGen gi .running):=by
   rw[es]
   exact b9 Ic.unpinned (allBare_setGen Ic.bare rfl)
  have If:=mw Is only kp (yy L (Je _ Jf)) (yy J (Je _ (Je _ Jf)))
  refine wpAny_execs_nil ⟨σc,Hc,?_,wend σc Hc wc⟩
  exact If.call' (ch:=[]) rfl (Un.kept hk) (If.hok.kept hk) (allBare_setGen If.bare rfl) fun b z=>by simp at z
end
end Ev.Ex
namespace Ev.Ex
open PySem PySem.Spec L2 PyProof.Rows LamX He
def tabD(c:Nat)(row:List Str):D:=.ins c [.tup (row.map .str)]
def forTS(c:Nat)(rows:List (List Str))(t:Tg)(m:MS):MS:=fun env S=>EC (forL t m (rows.map (tabD c)) env S)
section
variable {Γ:Gm}{H:Hp}{μ:Mu}{S:a0}{T dx t:Addr}{o:Obj}{row:List Str}{c:Nat}
theorem iu(ht:H t=none)(hd:H dx=none)(hT:H T=none)(n1:dx≠T)(n2:t≠T)(n3:t≠dx):Ext Γ μ H μ (aG H (Γ.cls c) T dx t o row):=by
 have e1:(upd H t (.frz o (.tup (row.map V.str)))) dx=none:=by rw[upd_ne n3.symm];exact hd
 have e2:(upd (upd H t (.frz o (.tup (row.map V.str)))) dx (.xd [])) T=none:=by rw[upd_ne n1.symm,upd_ne n2.symm];exact hT
 exact((Ext.laid ht _).trans (Ext.laid e1 _)).trans (Ext.laid e2 _)
theorem iw(s:Sim Γ μ H S)(ht:H t=none)(hd:H dx=none)(hT:H T=none)(n1:dx≠T)(n2:t≠T)(n3:t≠dx):Sim Γ μ (aG H (Γ.cls c) T dx t o row) S:=by
 have e1:(upd H t (.frz o (.tup (row.map V.str)))) dx=none:=by rw[upd_ne n3.symm];exact hd
 have e2:(upd (upd H t (.frz o (.tup (row.map V.str)))) dx (.xd [])) T=none:=by rw[upd_ne n1.symm,upd_ne n2.symm];exact hT
 exact((s.laid ht _).laid e1 _).laid e2 _
theorem eP{Γ:Gm}{H:Hp}{μ:Mu}:∀row:List Str,Reps Γ H μ (row.map V.str) (row.map D.str)
 | []=>.nil
 |x::row=>.cons (.str x) (eP row)
theorem gI(s:Sim Γ μ H S)(ho:o.dict=none)(ht:H t=none)(hd:H dx=none)(hT:H T=none)(n1:dx≠T)(n2:t≠T)(n3:t≠dx):Rep Γ (aG H (Γ.cls c) T dx t o row) μ (.ref T) (tabD c row):=by
 refine .ins (dx:=dx) (vs:=[.ref t]) ⟨upd_same,s.nnew hT⟩ ⟨?_,s.nnew hd⟩ (.cons (.tup (.inl ⟨o,ho,?_,s.nnew ht⟩) (eP row)) .nil)
 ·unfold aG;rw[upd_ne n1,upd_same]
 ·unfold aG;rw[upd_ne n2,upd_ne n3,upd_same]
end
section
variable {Γ:Gm}{X:Cx}{W:WX}{c:Nat}{rows:List (List Str)}{t:Tg}{m:MS}
theorem sY{r:RS}{Z:Ends}{μ:Mu}{H:Hp}(h:(EC r).sat (b0 Γ W Z μ H)):r.sat (b0 Γ W0 Z μ H):=by
 cases r with
 |nx e S=>exact h
 |brk e S=>exact h
 |cnt e S=>exact h
 |ret v S=>exact h
 |ex x e S=>exact False.elim h
 |bad=>exact h
theorem A8{Z:Ends}{σ:L2.St}{H:Hp}(h:dC Γ W (forTS c rows t m) Z σ H):Bm (Γ.cls c) rows (iW Γ t) (dC Γ W0 m) Z σ H:=by
 obtain⟨env,S,μ,a,h⟩:=h
 have h:=sY h
 refine⟨fun i σ' H'=>∃env' S' μ',Ext Γ μ H μ' H'∧At Γ σ' H' env' S' μ'∧(forL t m ((rows.map (tabD c)).drop i) env' S').sat (b0 Γ W0 Z μ' H'),⟨env,S,μ,.refl,a,h⟩,?_,?_⟩
 ·rintro i row σ' H' T dx tt o er ho ⟨env',S',μ',x',a',q'⟩ hT hd ht n1 n2 n3
  have hi:(rows.map (tabD c))[i]? =some (tabD c row):=by rw[JR,er];rfl
  have ed:(rows.map (tabD c)).drop i=tabD c row::(rows.map (tabD c)).drop (i+1):=by
   obtain⟨h1,h2⟩:=Jl.mp hi
   rw[List.drop_eq_getElem_cons h1,h2]
  rw[ed] at q'
  simp only[forL] at q'
  split at q'
  ·exact False.elim q'
  ·rename_i e1 he1
   have x2:Ext Γ μ' H' μ' (aG H' (Γ.cls c) T dx tt o row):=iu ht hd hT n1 n2 n3
   have a2:At Γ σ' (aG H' (Γ.cls c) T dx tt o row) env' S' μ':=a'.next x2 (iw a'.sim ht hd hT n1 n2 n3)
   refine⟨env',μ',tabD c row,e1,a2.env,gI a'.sim ho ht hd hT n1 n2 n3,he1,fun σ2 h2 _=>?_⟩
   refine⟨e1,S',μ',⟨h2,a2.sim,a2.tabs⟩,?_⟩
   exact gH (Z:=Z) (k:=forL t m ((rows.map (tabD c)).drop (i+1))) (b0.ext x2 q') fun e2 S2 σ3 H3 μ3 x3 a3 q3=>⟨e2,S2,μ3,x'.trans (x2.trans x3),a3,q3⟩
 ·rintro σ' H' ⟨env',S',μ',x',a',q'⟩
  rw[← Jt (tabD c),List.drop_length] at q'
  exact q' σ' H' μ' .refl a'
theorem k_forT{k:Nat}(q:Cq Γ X W k){x:Str}{tg:Expr}{body:List Stmt}{p pp pos:Pos}(M:AllT X.prog X.w X.K X.mg X.base (Γ.cls c) x rows)(hg:PG X.nox tg (iW Γ t))(hb:PSs X.nox body (dC Γ W0 m))
  (hk:4≤k:=by omega) (hgl:Gl X x:=by rfl) (hdb:(x==("__debug__":Str))=false:=by decide) (hlo:∀it v,letOwnedTupleGo tg it v=pure ():=by intro _ _;rfl) (hsf:∀y,foldedSetIterable (.Call (.Name x p) [] [] pp) X.env y=pure y:=by intro _;rfl):
  PS X (.For tg (.Call (.Name x p) [] [] pp) body [] pos) (dC Γ W (forTS c rows t m)):=
 (AM q.hc (q.room.mono hk) M hgl hdb hg hb hlo hsf).weak fun _ _ _ h=>A8 h
end
end Ev.Ex
namespace Ev.Ex
open PySem PySem.Spec L2 PyProof.Rows GenW
def Cz(X:Cx)(pins:List (Addr×Obj))(W:Nat→List Addr→L2.St→Hp→List (Addr×Obj)→Prop)(ga:Addr)(go:Obj):Nat→List Addr→Shared→Prop:=fun i own s=>
 0<i∧∃σ H gp,W i own σ H gp∧L2.Inv X (pins++gp) σ H s∧(∀b∈ga::own,∃o,(b,o)∈gp)∧(ga,go)∈gp∧(∀b∈ga::own,YoungS X pins b)∧∀b∈own,b≠ga
section
variable {X:Cx}{pins:List (Addr×Obj)}{σ:L2.St}{H:Hp}{s₀ s:Shared}{rows:List (List Str)}{C L ga:Addr}{go:Obj}{gi:Nat}{cell:Addr→Prop}{W:Nat→List Addr→L2.St→Hp→List (Addr×Obj)→Prop}
theorem Df{n:Nat}{v:Value}{gs':GenState}{kap:Resume→Shared→Prop}(hb:gs'.bare=true)(hz:∀row∈rows,row.length<1000)(cl:List Addr)(hcl:∀b,cell b→b∈cl)
  (hgo:s.heap.get? ga=some go) (hgg:go.cls= .type "generator"∧∀v,go.data≠ .cell v) (hLg:L≠ga) (hcg:∀b,cell b→b≠ga) {i0:Nat} (hi0:i0+n+1=rows.length)
  (h0:i0=0→∃σ H gp,(∀own,(∀b∈own,b=L∨s.heap.objs.size≤b)→W 0 own σ H gp)∧L2.Inv X (pins++gp) σ H s∧Young X pins H L∧Young X pins H ga∧∀b∈cl,Young X pins H b)
  (hv:EY X.base rows C L cell gi (Cz X pins W ga go) n (s.setGen gi .running) v s₀ kap):
  ∃σ H gp0 own0 gp own T dx t o row,rows[i0]? =some row∧o.dict=none∧W i0 own0 σ H gp0∧v= .ref T∧H T=none∧H dx=none∧H t=none∧dx≠T∧t≠T∧t≠dx∧s.heap.objs.size≤T∧s.heap.objs.size≤dx∧t∈own0∧(∀b∈own,b∈own0)∧(∀b∈own0,b=L∨0<i0∨s.heap.objs.size≤b)∧(∀b∈ga::own0,Young X pins H b)∧
   (∀b∈ga::own,b≠t∧b<T∧b<dx∧∃o,(b,o)∈gp)∧(∀p∈gp,p.1∈ga::own)∧(ga,go)∈gp∧(∃h' tk,s₀={ s.setGen gi .running with heap:=h',toks:=tk})∧
   (∀gq:List (Addr×Obj),(∀p∈gq,p∈gp0∧p.1∉own0∧p.1∉cl)→L2.Inv X (pins++(gq++gp)) σ (aG H C T dx t o row) (s₀.setGen gi gs'))∧
   ∀σ' H' s' gp',L2.Inv X (pins++gp') σ' H' s'→(∀p∈gp,p∈gp')→W (i0+1) own σ' H' gp'→Cz X pins W ga go (i0+1) own s'∧kap (.send .none) (s'.setGen gi .running)∧kap (.send (.bool true)) (s'.setGen gi .running):=by
 obtain⟨J,R,refs,T,dx,t,i,hi,wk,link,cont⟩:=hv
 obtain rfl:i=i0:=by omega
 have gal:ga<s.heap.objs.size:=Heap.lt_size hgo
 obtain⟨tm,tnd⟩:=ij wk.ref wk.sl.nd
 obtain⟨σ,H,gp0,hW,Ip,yall,yc,own_ga,hnew⟩:∃σ H gp0,W i (aR L J R (refs.drop i)) σ H gp0∧L2.Inv X (pins++gp0) σ H (s.setGen gi .running)∧(∀b∈ga::aR L J R (refs.drop i),Young X pins H b)∧(i=0→∀b∈cl,Young X pins H b)∧(∀b∈aR L J R (refs.drop i),b≠ga)∧∀b∈aR L J R (refs.drop i),b=L∨0<i∨s.heap.objs.size≤b:=by
  rcases link with⟨z,new⟩| ⟨s1,F,es⟩
  ·subst z
   obtain⟨σ,H,gp,hW,I,yL,yg,yc⟩:=h0 rfl
   have hn:∀b∈aR L J R (refs.drop 0),b=L∨s.heap.objs.size≤b:=fun b hb=>by
    rcases Jj.mp hb with z|hb
    ·exact .inl z
    ·exact .inr (new b hb)
   refine⟨σ,H,gp,hW _ hn,b9 I (allBare_setGen I.bare rfl),fun b hb=>?_,fun _=>yc,fun b hb=>?_,fun b hb=>(hn b hb).imp id .inr⟩
   ·rcases Jj.mp hb with z|hb
    ·exact z▸yg
    rcases Jj.mp hb with z|hb
    ·exact z▸yL
    ·exact .of_new I.unpinned (new b hb)
   ·rcases Jj.mp hb with z|hb
    ·exact z▸hLg
    ·exact JA (Jk gal (new b hb))
  ·obtain⟨hi1,σ,H,gp,hW,I,hpin,hgp,yS,ne⟩:=F
   refine⟨σ,H,gp,hW,?_,fun b hb=>?_,fun z=>absurd z (JA hi1),ne,fun b hb=>.inr (.inl hi1)⟩
   ·rw[es]
    exact b9 I (allBare_setGen I.bare rfl)
   ·obtain⟨o,ho⟩:=hpin b hb
    exact(yS b hb).y (I.pin (b,o) (Ji _ (Ji _ ho))).2.1
 have I:L2.Inv X pins σ H (s.setGen gi .running):=Ip.unpinned
 have yL:Young X pins H L:=yall L (Je _ Jf)
 have yJ:Young X pins H J:=yall J (Je _ (Je _ Jf))
 have yt:Young X pins H t:=yall t (Je _ (Je _ (Je _ (Je _ tm))))
 have town:t∈aR L J R (refs.drop i):=Je _ (Je _ (Je _ tm))
 have nt:=wk.newO t town
 have bare0:AllBare s₀.gens:=by
  obtain⟨h',tk,es⟩:=wk.only
  rw[es]
  exact I.bare
 obtain⟨o,row,erow,dno,I2⟩:=ka I wk (if i=0 then cl else[]) (fun z b hb=>by rw[if_pos z];exact hcl b hb) hz yL yJ (fun b hb=>by
  split at hb
  ·next z=>exact yc z b hb
  ·cases hb) yt nt bare0
 have yT:Young X pins H T:=.of_new I wk.newT
 have yD:Young X pins H dx:=.of_new I wk.newD
 have I3:L2.Inv X pins σ (aG H C T dx t o row) (s₀.setGen gi gs'):=b9 I2 (allBare_setGen I2.bare hb)
 have sub:∀b∈aR L J R (refs.drop (i+1)),b∈aR L J R (refs.drop i):=fun b hb=>by
  rcases Jj.mp hb with z|hb
  ·exact z▸Jf
  rcases Jj.mp hb with z|hb
  ·exact z▸Je _ Jf
  rcases Jj.mp hb with z|hb
  ·exact z▸Je _ (Je _ Jf)
  ·refine Je _ (Je _ (Je _ (aY.mpr ?_)))
   have:=aY.mp hb
   rw[← List.drop_drop] at this
   exact List.mem_of_mem_drop this
 have tref:Value.ref t∈refs:=Js wk.ref
 obtain⟨row',its,_,⟨ot,eot,cot,_,dot⟩,_⟩:=wk.row
 have hga:s₀.heap.get? ga=some go:=wk.keep ga go (Ne.symm hLg) (fun z=>own_ga J (Je _ Jf) z.symm) (fun _ z=>hcg ga z rfl) hgo
 have there:∀b∈ga::aR L J R (refs.drop (i+1)),b≠t∧b<T∧b<dx∧∃o,s₀.heap.get? b=some o∧∀v,o.data≠ .cell v:=fun b hb=>by
  rcases Jj.mp hb with z|hb
  ·rw[z]
   refine⟨fun z=>?_,Jk gal wk.newT,Jk gal wk.newD,go,hga,hgg.2⟩
   rw[z,eot] at hga
   rw[Jq hga,hgg.1] at cot
   exact absurd cot (by decide)
  have lt:=wk.newO b (sub b hb)
  rcases Jj.mp hb with z|hb
  ·subst z
   obtain⟨m,o,es,ep,eo,eod,_⟩:=wk.sl.ns
   exact⟨Jm (wk.sl.at_ t tref).1,lt.1,lt.2,o,eo,fun v z=>by rw[eod] at z;cases z⟩
  rcases Jj.mp hb with z|hb
  ·subst z
   obtain⟨o,eo,ho⟩:=wk.sl.it
   exact⟨Ne.symm (wk.sl.at_ t tref).2,lt.1,lt.2,o,eo,fun v z=>by
    rw[z] at ho
    simp at ho⟩
  rcases Jj.mp hb with z|hb
  ·subst z
   obtain⟨o,eo,co,n,ho⟩:=wk.sl.lst
   refine⟨fun z=>?_,lt.1,lt.2,o,eo,fun v z=>by rw[ho] at z;cases z⟩
   rw[z,eot] at eo
   rw[Jq eo,co] at cot
   exact absurd cot (by decide)
  ·obtain⟨j,hj⟩:=List.getElem?_of_mem (aY.mp hb)
   obtain⟨_,_,a,_,ea,⟨o,eo,co,n,ho⟩,_⟩:=wk.sl.tup.at_ hj
   cases ea
   exact⟨tnd b hb,lt.1,lt.2,o,eo,fun v z=>by rw[ho] at z;cases z⟩
 have hpins:∀b∈ga::aR L J R (refs.drop (i+1)),∃o,(b,o)∈pinsAt (ga::aR L J R (refs.drop (i+1))) s₀.heap∧s₀.heap.get? b=some o:=fun b hb=>by
  obtain⟨_,_,_,o,eo,_⟩:=there b hb
  exact⟨o,mem_pinsAt hb eo,eo⟩
 have hgp:(ga,go)∈pinsAt (ga::aR L J R (refs.drop (i+1))) s₀.heap:=mem_pinsAt Jf hga
 have ysub:∀b∈ga::aR L J R (refs.drop (i+1)),Young X pins H b:=fun b hb=>by
  rcases Jj.mp hb with z|hb
  ·exact z▸yall ga Jf
  ·exact yall b (Je _ (sub b hb))
 refine⟨σ,H,gp0,aR L J R (refs.drop i),pinsAt (ga::aR L J R (refs.drop (i+1))) s₀.heap,aR L J R (refs.drop (i+1)),T,dx,t,o,row,erow,dno,hW,wk.val,yT.no,yD.no,yt.no,wk.tab.ne,Jm nt.1,Jm nt.2,wk.newT,wk.newD,town,sub,hnew,yall,fun b hb=>?_,fun p hp=>(of_pinsAt hp).1,hgp,wk.only,fun gq hq=>?_,fun σ' H' s' gp' I' hs hW'=>?_⟩
 ·obtain⟨n1,n2,n3,_⟩:=there b hb
  obtain⟨o,h1,_⟩:=hpins b hb
  exact⟨n1,n2,n3,o,h1⟩
 ·refine I3.pins_of fun p hp=>?_
  rcases Jv.mp hp with z|z
  ·exact I3.pin p (Ji _ z)
  rcases Jv.mp z with z|z
  ·obtain⟨h1,h2,h3⟩:=hq p z
   obtain⟨e,no,loc,fs,nc⟩:=Ip.pin p (Ji _ (Ji _ h1))
   have lt:p.1<s.heap.objs.size:=Heap.lt_size e
   refine⟨wk.keep p.1 p.2 (fun z=>h2 (by rw[z];exact Jf)) (fun z=>h2 (by rw[z];exact Je _ Jf)) (fun _ z=>h3 (hcl _ z)) e,?_,loc,fs,nc⟩
   unfold aG
   rw[upd_ne (Jm (Jk lt wk.newT)),upd_ne (Jm (Jk lt wk.newD)),upd_ne fun z=>h2 (by rw[z];exact town)]
   exact no
  ·obtain⟨hb,eo⟩:=of_pinsAt z
   obtain⟨n1,n2,n3,o',eo',nc⟩:=there p.1 hb
   have y:=ysub p.1 hb
   refine⟨eo,?_,y.loc,y.fs,?_⟩
   ·unfold aG
    rw[upd_ne (Jm n2),upd_ne (Jm n3),upd_ne n1]
    exact y.no
   ·rw[eo] at eo'
    rw[Jq eo']
    exact nc
 have F:Cz X pins W ga go (i+1) (aR L J R (refs.drop (i+1))) s':=⟨Nat.succ_pos _,σ',H',gp',hW',I',fun b hb=>let⟨o,h1,_⟩:=hpins b hb;⟨o,hs _ h1⟩,hs _ hgp,fun b hb=>(ysub b hb).s,fun b hb=>own_ga b (sub b hb)⟩
 refine⟨F,cont s' F I'.bk fun b hb o eo=>?_⟩
 obtain⟨o',h1,eo'⟩:=hpins b (Je _ hb)
 rw[eo'] at eo
 rw[← Jq eo]
 exact(I'.pin (b,o') (Ji _ (Ji _ (hs _ h1)))).1
theorem yN(hp:∃ (J R:Addr) (refs:List Value),(∃h' tk,s={ s₀ with heap:=h',toks:=tk})∧(∀b o,b≠L→b≠J→s₀.heap.get? b=some o→s.heap.get? b=some o)∧∃s1,Cz X pins W ga go rows.length (aR L J R (refs.drop rows.length)) s1∧s₀=s1.setGen gi .running):
  ∃σ H gp0 own0,W rows.length own0 σ H gp0∧(∃h' tk,s={ s₀ with heap:=h',toks:=tk})∧∀gq:List (Addr×Obj),(∀p∈gq,p∈gp0∧p.1∉own0)→L2.Inv X (pins++gq) σ H s:=by
 obtain⟨J,R,refs,only,kp,s1,⟨_,σ,H,gp,w,Ic,pc,gc,yc,nc⟩,es⟩:=hp
 have yy:∀b∈ga::aR L J R (refs.drop rows.length),Young X pins H b:=fun b hb=>by
  obtain⟨o,ho⟩:=pc b hb
  exact(yc b hb).y (Ic.pin (b,o) (Ji _ (Ji _ ho))).2.1
 have Is0:L2.Inv X (pins++gp) σ H s₀:=by
  rw[es]
  exact b9 Ic (allBare_setGen Ic.bare rfl)
 have If:=mw Is0.unpinned only kp (yy L (Je _ Jf)) (yy J (Je _ (Je _ Jf)))
 refine⟨σ,H,gp,_,w,only,fun gq hq=>If.pins_of fun p hp=>?_⟩
 rcases Jv.mp hp with z|z
 ·exact If.pin p (Ji _ z)
 ·obtain⟨h1,h2⟩:=hq p z
  obtain⟨e,r⟩:=Is0.pin p (Ji _ (Ji _ h1))
  exact⟨kp p.1 p.2 (fun z=>h2 (by rw[z];exact Jf)) (fun z=>h2 (by rw[z];exact Je _ Jf)) e,r⟩
end
section
variable {X:Cx}{pins:List (Addr×Obj)}{σ:L2.St}{H:Hp}{s s':Shared}
theorem nJ{ch:List Addr}{gp gp':List (Addr×Obj)}(I:L2.Inv X (pins++gp) σ H s)(yc:∀b∈ch,Young X pins H b)(os:s'.os=s.os)(hb:AllBare s'.gens)(keep:∀b o,b∉ch→s.heap.get? b=some o→s'.heap.get? b=some o)
  (hp:∀p∈gp',(p∈gp∧p.1∉ch)∨(p.1∈ch∧s'.heap.get? p.1=some p.2∧∀v,p.2.data≠ .cell v)):L2.Inv X (pins++gp') σ H s':=by
 have known:∀c u,H c=some u→c∉ch:=fun c u e z=>by
  have:=(yc c z).no
  rw[e] at this
  cases this
 have I0:L2.Inv X pins σ H s:=I.unpinned
 have I1:L2.Inv X pins σ H s':=I0.call' (s':=s') (ch:=ch) os ⟨fun b o e _ _ hx=>keep b o hx e,fun b o e _ _ hx=>⟨o.slots,keep b o hx e⟩,fun b o e n hx=>n,fun b o e hx=>⟨o,keep b o hx e⟩,fun b xs e=>e,fun b o u e=>e,fun b ps e=>⟨#[],by rw[e];simp⟩⟩ (fun b u e=>by
  refine(I.hok b u e).stay (fun c w hc q=>keep c w ?_ q) (fun c q=>q) fun c xs q=>q
  rcases hc with z|z
  ·rw[z];exact known b u e
  ·exact known c _ z) hb fun b hb=>⟨.inr (yc b hb).s0,(yc b hb).loc,(yc b hb).cel,(yc b hb).pin⟩
 refine I1.pins_of fun p hq=>?_
 rcases Jv.mp hq with z|z
 ·exact I1.pin p (Ji _ z)
 rcases hp p z with⟨h1,h2⟩| ⟨h1,h2,h3⟩
 ·obtain⟨e,r⟩:=I.pin p (Ji _ (Ji _ h1))
  exact⟨keep _ _ h2 e,r⟩
 ·have y:=yc p.1 h1
  exact⟨h2,y.no,y.loc,y.fs,h3⟩
theorem zb{gp:List (Addr×Obj)}{S:Addr}{acc:Array Value}{c:Nat}{vs:List V}(I:L2.Inv X (pins++gp) σ H s)(hS:(S,lstObj acc c)∈gp)(y:Young X pins H S)(r:Vals vs acc.toList)(hz:vs.length≤sizeLine):L2.Inv X pins σ (upd H S (.lst vs)) s:=by
 have I0:L2.Inv X pins σ H s:=I.unpinned
 have eS:s.heap.get? S=some (lstObj acc c):=(I.pin _ (Ji _ (Ji _ hS))).1
 have Hk:∀b u,H b=some u→(upd H S (.lst vs)) b=some u:=fun b u e=>by
  rw[upd_ne (ne_of_none e y.no)];exact e
 refine I0.call' (s':=s) (ch:=[S]) rfl ⟨fun b o e _ _ hx=>e,fun b o e _ _ hx=>⟨o.slots,e⟩,fun b o e n hx=>?_,fun b o e hx=>⟨o,e⟩,fun b xs e=>Hk b _ e,fun b o u e=>Hk b _ e,fun b ps e=>⟨#[],by rw[Hk b _ e];simp⟩⟩ (fun b u e=>?_) I.bare fun b hb=>by
  rw[Jg.mp hb]
  exact⟨.inr y.s0,y.loc,y.cel,y.pin⟩
 ·rw[upd_ne fun z=>hx (by rw[z];exact Jg.mpr rfl)];exact n
 ·by_cases hb:b=S
  ·subst hb
   rw[upd_same] at e
   cases e
   exact⟨hz,acc.toList,c,r,by rw[eS]⟩
  ·rw[upd_ne hb] at e
   exact(I.hok b u e).stay (fun _ _ _ z=>z) (fun d z=>Hk d _ z) fun d xs z=>Hk d _ z
end
def xA(C:Addr)(rows:List (List Str)):TE:=fun σ H Q=>∃W:Nat→Hp→List V→Prop,W 0 H []∧
 (∀i row H vs T dx t o,rows[i]? =some row→o.dict=none→W i H vs→H T=none→H dx=none→H t=none→dx≠T→t≠T→t≠dx→W (i+1) (aG H C T dx t o row) (vs++[.ref T]))∧
 ∀H vs,W rows.length H vs→∀p,H p=none→Q (.ref p) (upd H p (.lst vs))
section
variable {X:Cx}{pins:List (Addr×Obj)}{σ:L2.St}{rows:List (List Str)}{C L ga S:Addr}{go:Obj}{gi:Nat}{cell:Addr→Prop}{W:Nat→Hp→List V→Prop}
def Hv(X:Cx)(pins:List (Addr×Obj))(σ:L2.St)(S:Addr)(W:Nat→Hp→List V→Prop):Nat→List Addr→L2.St→Hp→List (Addr×Obj)→Prop:=fun i own σ' H gp=>
 σ'=σ∧∃vs acc c,(S,lstObj acc c)∈gp∧Young X pins H S∧Vals vs acc.toList∧vs.length=i∧W i H vs∧S∉own
theorem Dk{B:Around}{R:Result→Shared→Prop}{res:Value}(hh:B.handled=none)(hd:B.depth<recursionLimit)(hgen:∀h:Heap,h.get? ga=some go→h.IsGen ga gi)(hgg:go.cls= .type "generator"∧∀v,go.data≠ .cell v)(hLg:L≠ga)(cl:List Addr)(hcl:∀b,cell b→b∈cl)(hcg:∀b,cell b→b≠ga)(hSg:S≠ga)(hScl:S∉cl)
  (many:1<rows.length) (few:rows.length<sizeLine) (small:∀row∈rows,row.length<1000)
  (wstep:∀i row H vs T dx t o,rows[i]? =some row→o.dict=none→W i H vs→H T=none→H dx=none→H t=none→dx≠T→t≠T→t≠dx→W (i+1) (aG H C T dx t o row) (vs++[.ref T]))
  (hend:∀s' H vs acc c gp,L2.Inv X (pins++gp) σ H s'→(S,lstObj acc c)∈gp→Young X pins H S→Vals vs acc.toList→vs.length≤sizeLine→W rows.length H vs→R (.ok (.ret res)) s'):
  ∀ (n:Nat) (s:Shared),(∃H gp gs,L2.Inv X (pins++gp) σ H s∧(ga,go)∈gp∧s.gens[gi]? =some gs∧(n=rows.length→(∀own,(∀b∈own,b=L∨s.heap.objs.size≤b)→Hv X pins σ S W 0 own σ H gp)∧Young X pins H L∧Young X pins H ga∧∀b∈cl,Young X pins H b)∧
   gs.Goes (model X.prog X.w) B.in1.in1 (ER rows L gi (Cz X pins (Hv X pins σ S W) ga go)) (EY X.base rows C L cell gi (Cz X pins (Hv X pins σ S W) ga go)) n (.send .none) (s.setGen gi .running))→
   codeAny (model X.prog X.w) B (.builtin "list.extend.loop" ⟨[.ref S,.ref ga,res],[]⟩) R s:=by
 intro n
 induction n using Nat.strongRecOn with
 |_ n ih=>
  intro s ⟨H4,gp,gs,I4,hgo,hgs4,first,hgoes⟩
  have gl:gi<s.gens.size:=(Array.getElem?_eq_some_iff.mp hgs4).1
  have ego:s.heap.get? ga=some go:=(I4.pin (ga,go) (Ji _ (Ji _ hgo))).1
  refine codeAny_builtin F.entry_extend_loop ?_
  rw[Around.under_plainId F.plain_extend_loop _]
  show wpAny _ B.in1 (pyNext (.ref ga)>>= _) _ _ s
  refine wpAny_bind (wpAny_gsz (n:=gi+1) gl (next_genG (A:=B.in1) hh I4.nolimit hd (hgen _ ego) hgs4 (F:=fun _ s₀ s=>∃ (J R:Addr) (refs:List Value),(∃h' tk,s={ s₀ with heap:=h',toks:=tk})∧(∀b o,b≠L→b≠J→s₀.heap.get? b=some o→s.heap.get? b=some o)∧∃s1,Cz X pins (Hv X pins σ S W) ga go rows.length (aR L J R (refs.drop rows.length)) s1∧s₀=s1.setGen gi .running) (Er:=fun _ _=>False) hgoes (fun v s₁ gs' hbare hv=>?_) (fun s₁ hp h' hk=>?_) fun e s₁ he=>he.elim))
  ·intro hsz
   obtain⟨i0,hi0⟩:∃i0,i0+(n-1)+1=rows.length:=by
    obtain⟨_,_,_,_,_,_,i,hi,_⟩:=id hv
    exact⟨i,hi⟩
   have gl1:gi<s₁.gens.size:=by
    have z:(s₁.setGen gi gs').gens.size=s₁.gens.size:=setGen_size _ _ _
    have hsz':gi+1≤(s₁.setGen gi gs').gens.size:=hsz
    omega
   obtain⟨σ5,H5,gp0,own0,gp5,own,T,dx,t,o,row,erow,dno,w5,ev,n1,n2,n3,d1,d2,d3,nT,nD,town,osub,_,yall,hpin,hin,hgo5,_,inv,cont⟩:=Df (gs':=gs') (rows:=rows) hbare small cl hcl ego hgg hLg hcg hi0 (fun z=>by
    obtain⟨f1,f2,f3,f4⟩:=first (by omega)
    exact⟨σ,H4,gp,f1,I4,f2,f3,f4⟩) hv
   obtain⟨es,vs,acc,c,hS,yS,rv,lv,w5,nS⟩:=w5
   subst es
   subst ev
   have I5:=inv [(S,lstObj acc c)] fun p hp=>by
    rw[Jg.mp hp]
    exact⟨hS,nS,hScl⟩
   obtain⟨eS,noS,_⟩:=I5.pin (S,lstObj acc c) (Ji _ (Ji _ (JN _ (Jg.mpr rfl))))
   have eS:(s₁.setGen gi gs').heap.get? S=some (lstObj acc c):=eS
   have yS5:Young X pins (aG H5 C T dx t o row) S:=⟨yS.s0,yS.loc,yS.cel,yS.pin,yS.fs,noS⟩
   have la:acc.size=i0:=by
    have:=rv.length
    rw[lv] at this
    simpa using this.symm
   have hasz:acc.size<sizeLine:=by omega
   show wpAny _ B.in1 (updateSeq S (·.push (.ref T))>>= _) _ _ _
   refine wpAny_bind ?_
   refine wpAny_updateSeq eS rfl (wpAny_pure ⟨plainId_quiet F.plain_extend_loop _,?_⟩) (JI hasz) (by show(acc.push (.ref T)).size≤sizeLine+1;rw[Array.size_push];omega)
   have keep3:∀b o,b∉[S]→(s₁.setGen gi gs').heap.get? b=some o→(s₁.heap.update S (Obj.mapSeq (·.push (.ref T)))).get? b=some o:=fun b o hb e=>(Heap.get?_update_other _ _ (fun z=>hb (by rw[z];exact Jg.mpr rfl))).trans e
   obtain⟨c',eS'⟩:∃c',(s₁.heap.update S (Obj.mapSeq (·.push (.ref T)))).get? S=some (lstObj (acc.push (.ref T)) c'):=⟨_,Heap.get?_update_self _ eS rfl⟩
   have I6:L2.Inv X (pins++((S,lstObj (acc.push (.ref T)) c')::gp5)) σ5 (aG H5 C T dx t o row) { s₁.setGen gi gs' with heap:=s₁.heap.update S (Obj.mapSeq (·.push (.ref T)))}:=by
    refine nJ (ch:=[S]) I5 (fun b hb=>(Jg.mp hb)▸yS5) rfl I5.bare keep3 fun p hp=>?_
    rcases Jj.mp hp with z|z
    ·rw[z]
     exact .inr ⟨Jg.mpr rfl,eS',fun v z=>by cases z⟩
    ·refine .inl ⟨Ji _ z,fun q=>?_⟩
     have q:=Jg.mp q
     rcases Jj.mp (hin p z) with y|y
     ·exact hSg (q.symm.trans y)
     ·exact nS (osub _ (q▸y))
   obtain⟨_,k1,_⟩:=cont σ5 _ _ _ I6 (fun p hp=>Je _ hp) ⟨rfl,vs++[.ref T],acc.push (.ref T),c',Jf,yS5,by
    rw[Array.toList_push]
    exact rv.append (.cons rfl .nil),by rw[JF,lv];rfl,wstep i0 row H5 vs T dx t o erow dno w5 n1 n2 n3 d1 d2 d3,fun z=>nS (osub _ z)⟩
   cases n with
   |zero=>exact False.elim k1
   |succ m=>exact ih m (Nat.lt_succ_self m) _ ⟨_,_,gs',I6,Je _ hgo5,setGen_at gl1,fun z=>by omega,k1⟩
  ·intro _
   obtain⟨σc,Hc,gp0,own0,w0,only,inv⟩:=yN hp
   obtain⟨es,vs,acc,c,hS,yS,rv,lv,w0,nS⟩:=w0
   subst es
   have I5:=inv [(S,lstObj acc c)] fun p hp=>by
    rw[Jg.mp hp]
    exact⟨hS,nS⟩
   have I6:L2.Inv X (pins++[(S,lstObj acc c)]) σc Hc { s₁.setGen gi .finished with heap:=h'}:=I5.call' (ch:=[]) rfl (Un.kept hk) (I5.hok.kept hk) (allBare_setGen I5.bare rfl) fun b z=>by simp at z
   exact wpAny_pure (hend _ Hc vs acc c _ I6 (Jg.mpr rfl) yS rv (by omega) w0)
end
end Ev.Ex
namespace Ev.Ex
open PySem PySem.Spec L2 PyProof.Rows GenW LamX He
section
variable {X:Cx}{C:Addr}{x nm:Str}{rows:List (List Str)}{p p2 pp pos:Pos}
theorem xK(hc:X.calm=true)(hr:RoomG 5 X.A)(M:AllT X.prog X.w X.K X.mg X.base C x rows)(hgx:Gl X x)(hdb:(x==("__debug__":Str))=false)(hg:Gl X nm)(hmg:X.mg nm=none)(hv:bootBuiltins nm=some (.type "list"))(hnm:nm≠ "__name__":=by decide)(hdb2:(nm==("__debug__":Str))=false:=by decide)
  (he:starEach [(.Call (.Name x p2) [] [] pp:Expr)] X.env=(false,eval (.Call (.Name x p2) [] [] pp) X.env)::starEach [] X.env:=by rfl):PE X (.Call (.Name nm p) [.Call (.Name x p2) [] [] pp] [] pos) (xA C rows):=by
 obtain⟨Ng,f,qual,gb,scope,cdv,fd,oc,od,osl,name,params,dV,kV,doc,pm,ct,an,efd,lk,hcd,S,hbn,hm,hkp,walk⟩:=M.ex
 subst efd
 refine⟨fun pins s σ H Q I ⟨W,w0,wstep,wend⟩=>?_⟩
 refine wpAny_Call_Name_kw (ld_blt I hg hmg hv ?_ hnm hdb2)
 refine PyProof.Rows.callWith_type1 ?_ he rfl
 rw[he]
 show wpAny _ _ (spliced ((false,eval (.Call (.Name x p2) [] [] pp) X.env)::backTo pos (starEach [] X.env))) _ _ s
 refine Calls.spliced_cons (il (hr.room.mono (by omega)) lk hcd S hbn hm hkp hgx hdb I fun ga gi go s3 B N I3=>?_)
 refine Calls.spliced_nil ?_
 generalize hL:s.heap.objs.size=L at N B
 have Blt:L<ga:=hL▸B.lt
 have ab:∀x c,(x,c)∈cellsFrom (L+1) scope.names []→L<c:=by rw[← hL];exact B.ab
 have bl:∀x c,(cellsFrom (L+1) scope.names []).lookup x=some c→c<ga:=by rw[← hL];exact B.bl
 have pw:(cellsFrom (L+1) scope.names []).Pairwise fun x y=>x.2≠y.2:=by rw[← hL];exact B.pw
 have gs3:s3.gens[gi]? =some (.fresh (.func gb (envOfC qual scope L f cdv))):=by
  obtain⟨h',tk,es⟩:=B.only
  rw[es,B.gi_, ← hL]
  exact Array.getElem?_push_size ..
 have gaS:ga<s3.heap.objs.size:=Heap.lt_size N.at_
 have hl:s3.heap.NoLimit:=I3.nolimit
 have hg3:s3.heap.IsGen ga gi:=B.isGen N.at_
 have hSa:s3.heap.objs.size≠ga:=JA gaS
 have hcl0:cStatics<s3.heap.objs.size:=let⟨_,hn,_⟩:=hl;hn.lt
 generalize hSS:s3.heap.objs.size=SS at gaS hSa
 refine callType_codes (Q₁:=fun obj s₁=>obj= .ref SS∧s₁={ s3 with heap:=s3.heap.push { cls:=.type "list",data:=.seq #[]}}) F.called_list (F.typeCall_list_1 _) F.entry_list_init
  (by rw[← hSS];exact code_list_new _ ⟨rfl,rfl⟩) fun obj s₁ h₁=>?_
 obtain⟨rfl,rfl⟩:=h₁
 have hS:(s3.heap.push { cls:=.type "list",data:=.seq #[]}).get? SS=some { cls:=.type "list",data:=.seq #[]}:=by rw[← hSS];exact Heap.get?_push_size _ rfl
 refine⟨⟨_,hS,rfl⟩,F.args_list_init_2 _ _,?_⟩
 show wpAny _ X.A.in1.in1 (do let old ← Builtin.List.listItems (.ref SS);Builtin.List.listUpdate (.ref SS) (fun _=> #[]);letGo old.toList.reverse;Builtin.List.listExtendWith (.ref SS) (.ref ga) .none) _ _ _
 refine wpAny_bind ?_
 unfold Builtin.List.listItems
 refine wpAny_bind (wpAny_seqItems hS rfl (wpAny_pure ?_))
 show wpAny _ X.A.in1.in1 (updateSeq SS (fun _=> #[])>>= fun _=>letGo (#[]:Array Value).toList.reverse>>= fun _=>Builtin.List.listExtendWith (.ref SS) (.ref ga) .none) _ _ _
 refine wpAny_bind (wpAny_updateSeq hS rfl ?_)
 have hS2:=Heap.get?_update_self (Obj.mapSeq (fun _=>(#[]:Array Value))) hS rfl
 refine wpAny_bind (wpAny_letGo ?_)
 unfold Builtin.List.listExtendWith
 have up:∀ (h:Heap) (f:Obj→Obj),(∀b o,s3.heap.get? b=some o→h.get? b=some o)→∀b o,s3.heap.get? b=some o→(h.update SS f).get? b=some o:=fun h f q b o e=>
  (Heap.get?_update_other _ _ (Ne.symm (Jm (hSS▸Heap.lt_size e)))).trans (q b o e)
 have k1:∀b o,s3.heap.get? b=some o→(s3.heap.push { cls:=.type "list",data:=.seq #[]}).get? b=some o:=fun b o e=>Heap.get?_push_of_some _ e
 have k2:=up _ (Obj.mapSeq (fun _=>(#[]:Array Value))) k1
 have gty:∀ {h:Heap},(∀b o,s3.heap.get? b=some o→h.get? b=some o)→h.IsGen ga gi:=fun {h} q=>hg3.keeps q
 refine wpAny_bind (wpAny_typeOf (Heap.IsGen.typeIs (s:={ s3 with heap:=_}) (gty k2)) ?_)
 have h1:Builtin.List.listSameRef (.ref SS) (.ref ga)=false:=by simp[Builtin.List.listSameRef,hSa]
 have h2:(Value.type "generator" ==Value.type "list")=false:=by decide
 have h3:(Value.type "generator" ==Value.type "tuple")=false:=by decide
 simp only[h1,h2,h3,Bool.or_false,Bool.false_eq_true,if_false]
 refine wpAny_bind (wpAny_pyIter_gen (s:={ s3 with heap:=_}) (gty k2) ?_)
 refine wpAny_bind (wpAny_holding ?_)
 unfold Builtin.List.listLengthHint
 refine wpAny_bind (wpAny_specialOf (Heap.IsGen.typeIs (s:={ s3 with heap:=_}) (gty k2)) F.gen_no_len ?_)
 show wpAny _ X.A.in1.in1 (specialOf (Value.ref ga) (Str.ofString "__length_hint__")>>= _) _ _ _
 refine wpAny_bind (wpAny_specialOf (Heap.IsGen.typeIs (s:={ s3 with heap:=_}) (gty k2)) F.gen_no_hint ?_)
 refine wpAny_pure ?_
 show wpAny _ X.A.in1.in1 (rule "list.extend.makes-room" >>= fun _=>Builtin.List.listTouch (.ref SS)>>= fun _=>
  again (.builtin "list.extend.loop" ⟨[.ref SS,.ref ga,.none],[]⟩)) _ _ _
 refine wpAny_bind (wpAny_rule ?_)
 refine wpAny_bind ?_
 show wpAny _ X.A.in1.in1 (updateSeq SS (·.push .none)>>= fun _=>updateSeq SS (·.pop)) _ _ _
 refine wpAny_bind (wpAny_updateSeq hS2 rfl ?_)
 have hS3:=Heap.get?_update_self (Obj.mapSeq (·.push Value.none)) hS2 rfl
 refine wpAny_updateSeq (hz:=by seq_fits) hS3 rfl ?_
 have hS4:=Heap.get?_update_self (Obj.mapSeq (·.pop)) hS3 rfl
 have k4:=up _ (Obj.mapSeq (·.pop)) (up _ (Obj.mapSeq (·.push Value.none)) k2)
 refine wpAny_pure ⟨plainId_quiet F.plain_extend_loop _,?_⟩
 generalize hs5:({ s3 with heap:=_}:Shared)=s5
 have e5:s5.heap=(((s3.heap.push { cls:=.type "list",data:=.seq #[]}).update SS (Obj.mapSeq (fun _=>(#[]:Array Value)))).update SS (Obj.mapSeq (·.push Value.none))).update SS (Obj.mapSeq (·.pop)):=by rw[← hs5]
 have g5:s5.gens=s3.gens:=by rw[← hs5]
 have o5:s5.os=s3.os:=by rw[← hs5]
 rw[← e5] at k4
 obtain⟨c4,eS4⟩:∃c,s5.heap.get? SS=some (lstObj #[] c):=by rw[e5];exact⟨_,hS4⟩
 have yL:Young X pins H L:=.of_new I (Nat.le_of_eq hL)
 have yG:Young X pins H ga:=.of_new I (hL▸JI Blt)
 have yS:Young X pins H SS:=.of_new I (hL▸JI (JO Blt gaS))
 let cl:List Addr:=(cellsFrom (L+1) scope.names []).filterMap fun q=>(cellsFrom (L+1) scope.names []).lookup q.1
 have hcl:∀b,cellOf L scope b→b∈cl:=fun b ⟨y,hy⟩=>List.mem_filterMap.mpr ⟨(y,b),PySem.mem_of_lookup hy,hy⟩
 have hclL:∀b∈cl,L<b∧b<ga:=fun b hb=>by
  obtain⟨⟨y,c⟩,_,h1⟩:=List.mem_filterMap.mp hb
  exact⟨ab y b (PySem.mem_of_lookup h1),bl y b h1⟩
 have yC:∀b∈cl,Young X pins H b:=fun b hb=>.of_new I (hL▸JI (hclL b hb).1)
 have I5:L2.Inv X (pins++[(ga,go),(SS,lstObj #[] c4)]) σ H s5:=by
  have Ik:L2.Inv X pins σ H s5:=I3.call' (s':=s5) (ch:=[]) o5 (Un.kept k4) (I3.hok.kept k4) (by rw[g5];exact I3.bare) fun b z=>by simp at z
  refine Ik.pins_of fun q hq=>?_
  rcases Jv.mp hq with z|z
  ·exact Ik.pin q (Ji _ z)
  rcases Jj.mp z with z|z
  ·rw[z]
   exact⟨k4 _ _ N.at_,yG.no,yG.loc,yG.fs,B.gg.2⟩
  ·rw[Jg.mp z]
   exact⟨eS4,yS.no,yS.loc,yS.fs,fun v z=>by cases z⟩
 have nScl:SS∉cl:=fun hb=>JQ _ (JO (hclL SS hb).2 gaS)
 refine Dk (B:=X.A.in1) (S:=SS) (C:=C) (L:=L) (ga:=ga) (go:=go) (gi:=gi) (cell:=cellOf L scope) (rows:=rows) (σ:=σ) (pins:=pins) (W:=W) (X:=X) hr.room.hd (by have:=hr.room.dp;show X.A.depth<_;omega) (fun h e=>B.isGen e) B.gg (Jm Blt) cl hcl (fun b ⟨y,hy⟩=>Jm (bl y b hy)) hSa nScl M.many M.few M.small wstep
  ?_ rows.length s5 ⟨H,_,_,I5,Jf,by rw[g5];exact gs3,fun _=>⟨fun own ho=>⟨rfl,[], #[],c4,Je _ (Jg.mpr rfl),yS,.nil,rfl,w0,fun z=>?_⟩,yL,yG,yC⟩,?_⟩
 ·exact fun s' H' vs acc c gp J hS y r hz w=>⟨rfl,.ref SS,upd H' SS (.lst vs),zb J hS y r hz,rfl,wend H' vs w SS y.no⟩
 ·rcases ho SS z with e|e
  ·exact absurd (e▸JO Blt gaS) (JQ _)
  ·exact absurd (Heap.lt_size eS4) (Nat.not_lt.mpr e)
 ·exact walk _ L ga go gi _ _ ((((hr.in1).in1).in1).room.mono (by omega)) ⟨I.ok.mod.kin,I.ok.mod.glob,I.ok.mod.blt,I.ok.mod.nolimit⟩ (hL▸Jx I.ok.bsz I.sz) (fun b o e=>I5.bk b o e) (N.kept (fun b o _ _ e=>k4 b o e) (JI Blt) fun x c e=>⟨ab x c (PySem.mem_of_lookup e),bl x c e⟩) pw ab
end
def listTF(c:Nat)(rows:List (List Str)):ME:=fun _ S=>.ok (.new (.lst (rows.map (tabD c)))) S
section
variable {Γ:Gm}{X:Cx}{W:WX}{c:Nat}{rows:List (List Str)}
theorem vW{Q:VK}{σ:L2.St}{H:Hp}(h:ay Γ W (listTF c rows) σ H Q):xA (Γ.cls c) rows σ H Q:=by
 obtain⟨env,S,μ,a,h⟩:=h
 have h:aU Γ μ H Q (.new (.lst (rows.map (tabD c)))) S:=h
 refine⟨fun i H' vs=>Ext Γ μ H μ H'∧Sim Γ μ H' S∧Reps Γ H' μ vs ((rows.map (tabD c)).take i),⟨.refl,a.sim,.nil⟩,?_,?_⟩
 ·rintro i row H' vs T dx t o er ho ⟨x,s,r⟩ hT hd ht n1 n2 n3
  have x2:Ext Γ μ H' μ (aG H' (Γ.cls c) T dx t o row):=iu ht hd hT n1 n2 n3
  refine⟨x.trans x2,iw s ht hd hT n1 n2 n3,?_⟩
  rw[List.take_add_one,JR,er]
  exact(r.ext x2).append (.cons (gI s ho ht hd hT n1 n2 n3) .nil)
 ·rintro H' vs ⟨x,s,r⟩ p hp
  rw[← Jt (tabD c),List.take_length] at r
  exact aU.newL s hp r (h.ext x)
theorem k_listT{k:Nat}(q:Cq Γ X W k){x nm:Str}{p p2 pp pos:Pos}(M:AllT X.prog X.w X.K X.mg X.base (Γ.cls c) x rows)(hmg:X.mg nm=none)(hv:bootBuiltins nm=some (.type "list"):=by decide)(hk:5≤k:=by omega)(hgx:Gl X x:=by rfl)(hg:Gl X nm:=by rfl)(hdb:(x==("__debug__":Str))=false:=by decide)(hnm:nm≠ "__name__":=by decide)(hdb2:(nm==("__debug__":Str))=false:=by decide)
  (he:starEach [(.Call (.Name x p2) [] [] pp:Expr)] X.env=(false,eval (.Call (.Name x p2) [] [] pp) X.env)::starEach [] X.env:=by rfl):PE X (.Call (.Name nm p) [.Call (.Name x p2) [] [] pp] [] pos) (ay Γ W (listTF c rows)):=
 (xK q.hc (q.room.mono hk) M hgx hdb hg hmg hv hnm hdb2 he).weak fun _ _ _ h=>vW h
end
end Ev.Ex
namespace Ev.Ex
open PySem PySem.Spec L2 PyProof.Rows GenW
section
variable {P:Program}{w:World}{A:Around}{E:Value→Shared→Prop}{s:Shared}
abbrev AZ(h:Heap)(a b:Addr):Heap:=h.push { cls:=.type "tuple",data:=.seq #[.ref a,.ref b]}
abbrev AE(h:Heap)(a b:Addr):Heap:=(AZ h a b).push { cls:=.type "tuple",data:=.seq #[.none,.none]}
abbrev zH(h:Heap)(a b:Addr):Heap:=(AE h a b).push { cls:=.type "zip",data:=.fields #[.none,.bool false,.bool false,.ref h.objs.size,.ref (AZ h a b).objs.size]}
theorem jI(a b:Addr)(ga gb:Nat):
  Meets (Builtin.«zip.__new__» ⟨[.type "zip",.ref a,.ref b],[]⟩) (fun _ R s=>s.heap.IsGen a ga∧s.heap.IsGen b gb∧
   R (.ok (.ret (.ref (AE s.heap a b).objs.size))) { s with heap:=zH s.heap a b}):=
 .of_wp fun prog w A R s h=>by
  obtain⟨hp,g,d,tk,os⟩:=s;obtain⟨hl1,hl2,h⟩:=h
  have hsub:=PySem.sub_zip
  have hL1:Heap.IsGen (Shared.heap ⟨hp,g,d,tk,os⟩) a ga:=hl1
  have hL2:Heap.IsGen (Shared.heap ⟨hp,g,d,tk,os⟩) b gb:=hl2
  wp_walk using wpAny_pyIter_gen hL1,wpAny_pyIter_gen hL2
  exact⟨_,rfl,h⟩
theorem tV{a b:Addr}{ga gb:Nat}{Q:Value→Shared→Prop}(hl1:s.heap.IsGen a ga)(hl2:s.heap.IsGen b gb)
  (h:∀h',IsZip h' (s.heap.objs.size+2) s.heap.objs.size (s.heap.objs.size+1) .none→IsTupOf2 h' s.heap.objs.size (.ref a) (.ref b)→IsTupOf2 h' (s.heap.objs.size+1) .none .none→
   (∀c o,s.heap.get? c=some o→h'.get? c=some o)→Q (.ref (s.heap.objs.size+2)) { s with heap:=h'}):
  wpAny (model P w) A (call (.type "zip") [.ref a,.ref b]) Q E s:=by
 refine callType_new F.called_zip (by decide) (F.typeCall_zip_2 _ _) (F.newCall_zip_2 _ _) (fun obj=>F.args_object_init_3 obj _ _) F.entry_zip_new
  (jI a b ga gb) ⟨hl1,hl2,?_⟩
 have z1:(AZ s.heap a b).objs.size=s.heap.objs.size+1:=Heap.size_push ..
 have z2:(AE s.heap a b).objs.size=s.heap.objs.size+2:=by rw[Heap.size_push,z1]
 have g3:(zH s.heap a b).get? (AE s.heap a b).objs.size=some _:=Heap.get?_push_size _ rfl
 have g2:(zH s.heap a b).get? (AZ s.heap a b).objs.size=some _:=Heap.get?_push_of_some _ (Heap.get?_push_size _ rfl)
 have g1:(zH s.heap a b).get? s.heap.objs.size=some _:=Heap.get?_push_of_some _ (Heap.get?_push_of_some _ (Heap.get?_push_size _ rfl))
 show _∧_
 rw[z1,z2] at g3
 rw[z1] at g2
 rw[z2]
 exact⟨⟨_,g3,rfl⟩,h _ g3 g1 g2 fun c o x=>Heap.get?_push_of_some _ (Heap.get?_push_of_some _ (Heap.get?_push_of_some _ x))⟩
end
section
variable {P:Program}{w:World}{A:Around}{E:Value→Shared→Prop}{s:Shared}{z TI TO i1 i2:Addr}{a1 a2:Value}
def y9(z TI TO:Addr)(E:Value→Shared→Prop):Value→Shared→Prop:=fun e s1=>∃e',e= .ref e'∧IsZip s1.heap z TI TO .ellipsis∧∀q',Heap.SameBut z s1.heap q'→E (.ref e') { s1 with heap:=q'}
theorem uA{Q:Value→Shared→Prop}(hz:IsZip s.heap z TI TO .none)(hTI:IsTupOf2 s.heap TI (.ref i1) (.ref i2))
  (h1:∀g0,IsZip g0 z TI TO .ellipsis→Heap.SameBut z s.heap g0→wpAny (model P w) A (Builtin.SmallTypes.nextOf (.ref i1)) (fun x1 s1=>IsTupOf2 s1.heap TO a1 a2∧∀g1,IsTupOf2 g1 TO x1 a2→Heap.SameBut TO s1.heap g1→
   wpAny (model P w) A (Builtin.SmallTypes.nextOf (.ref i2)) (fun x2 s2=>IsTupOf2 s2.heap TO x1 a2∧IsZip s2.heap z TI TO .ellipsis∧TO≠z∧∀h',IsZip h' z TI TO (rawInt s2.heap.objs.size)→IsTupOf2 h' TO x1 x2→IsTupOf2 h' s2.heap.objs.size x1 x2→
    (∀c o,c≠z→c≠TO→s2.heap.get? c=some o→h'.get? c=some o)→Q (.ref s2.heap.objs.size) { s2 with heap:=h'}) (y9 z TI TO E) { s1 with heap:=g1}) (y9 z TI TO E) { s with heap:=g0}):
  wpAny (model P w) A (Builtin.«zip.__next__» ⟨[.ref z],[]⟩) (fun fin s'=>∃v,fin= .done (.ret v)∧Q v s') E s:=by
 have rest:∀ {e:Value} {s1:Shared},y9 z TI TO E e s1→wpAny (model P w) A (setField (.ref z) 0 .none) (fun _ s''=>E e s'') E s1:=fun {e s1} ⟨e',ee,hzq,k⟩=>by
  subst ee
  exact wpAny_setField_rec hzq (by simp) fun q' _ hq'=>k q' hq'
 show wpAny _ _ (field (.ref z) 2>>= _) _ _ _
 refine wpAny_bind (wpAny_field hz rfl (x:=.bool false) rfl ?_)
 show wpAny _ _ (field (.ref z) 3>>= _) _ _ _
 refine wpAny_bind (wpAny_field hz rfl (x:=.ref TI) rfl ?_)
 refine wpAny_bind (wpAny_seqItems hTI rfl ?_)
 show wpAny _ _ (Builtin.SmallTypes.ownedTupleIsFree (.ref z)>>= _) _ _ _
 refine wpAny_bind ?_
 unfold Builtin.SmallTypes.ownedTupleIsFree
 refine wpAny_bind (wpAny_field hz rfl (x:=.none) rfl (wpAny_pure ?_))
 simp only[if_true]
 refine wpAny_bind (wpAny_rule ?_)
 refine wpAny_bind (wpAny_field hz rfl (x:=.ref TO) rfl ?_)
 refine wpAny_bind (wpAny_setField_rec hz (by simp) fun g0 hz0 hs0=>?_)
 replace hz0:IsZip g0 z TI TO .ellipsis:=hz0
 replace hs0:Heap.SameBut z s.heap g0:=hs0
 refine wpAny_bind ?_
 simp only[List.zipIdx_cons,List.zipIdx_nil,List.forIn_cons,List.forIn_nil]
 refine wpAny_bind (wpAny_bind (wpAny_onRaise ?_))
 show wpAny _ _ (Builtin.SmallTypes.nextOf (.ref i1)>>= _) _ _ { s with heap:=g0}
 refine wpAny_bind (wpAny_mono (h1 g0 hz0 hs0) (fun x1 s1 ⟨hU1,k1⟩=>wpAny_pure ?_) fun e s1 hE=>rest hE)
 refine wpAny_bind (wpAny_seqItems hU1 rfl ?_)
 refine wpAny_bind (updateSeq_IsTupOf2 hU1 fun g1 hT1 hs1=>?_)
 replace hT1:IsTupOf2 g1 TO x1 a2:=hT1
 refine wpAny_bind (wpAny_letGo (wpAny_pure ?_))
 refine wpAny_bind (wpAny_bind (wpAny_onRaise ?_))
 show wpAny _ _ (Builtin.SmallTypes.nextOf (.ref i2)>>= _) _ _ { s1 with heap:=g1}
 refine wpAny_bind (wpAny_mono (k1 g1 hT1 hs1) (fun x2 s2 ⟨hU2,hzz,TOz,k2⟩=>wpAny_pure ?_) fun e s1 hE=>rest hE)
 refine wpAny_bind (wpAny_seqItems hU2 rfl ?_)
 refine wpAny_bind (updateSeq_IsTupOf2 hU2 fun g2 hT2 hs2=>?_)
 replace hT2:IsTupOf2 g2 TO x1 x2:=hT2
 refine wpAny_bind (wpAny_letGo (wpAny_pure (wpAny_pure ?_)))
 refine wpAny_bind (wpAny_seqItems (s:={ s2 with heap:=g2}) hT2 rfl ?_)
 refine wpAny_bind (wpAny_newTuple ?_)
 have hzz2:IsZip g2 z TI TO .ellipsis:=hs2.extBut _ _ TOz.symm hzz
 have hzlt:z<g2.objs.size:=Heap.lt_size hzz2
 show wpAny _ _ (Builtin.SmallTypes.ownedTupleHandOut (.ref z) (.ref g2.objs.size)>>= _) _ _ { s2 with heap:=g2.push { cls:=.type "tuple",data:=.seq #[x1,x2]}}
 refine wpAny_bind ?_
 unfold Builtin.SmallTypes.ownedTupleHandOut
 have hz₆:IsZip (g2.push { cls:=.type "tuple",data:=.seq #[x1,x2]}) z TI TO .ellipsis:=Heap.get?_push_of_some _ hzz2
 refine wpAny_bind (wpAny_setField_rec (s:={ s2 with heap:=g2.push { cls:=.type "tuple",data:=.seq #[x1,x2]}}) hz₆ (by simp) fun h₇ hz₇ hs₇=>?_)
 replace hz₇:IsZip h₇ z TI TO (rawInt g2.objs.size):=hz₇
 refine wpAny_setField_rec (s:={ s2 with heap:=h₇}) hz₇ (by simp) fun h₈ hz₈ hs₈=>?_
 replace hz₈:IsZip h₈ z TI TO (rawInt g2.objs.size):=hz₈
 replace hs₇:Heap.SameBut z (g2.push { cls:=.type "tuple",data:=.seq #[x1,x2]}) h₇:=hs₇
 replace hs₈:Heap.SameBut z h₇ h₈:=hs₈
 have up:∀c o,c≠z→g2.get? c=some o→h₈.get? c=some o:=fun c o c1 e=>hs₈.extBut _ _ c1 (hs₇.extBut _ _ c1 (Heap.get?_push_of_some _ e))
 have hT₈:IsTupOf2 h₈ g2.objs.size x1 x2:=hs₈.extBut _ _ (JA hzlt) (hs₇.extBut _ _ (JA hzlt) (Heap.get?_push_size _ rfl))
 have hsz:g2.objs.size=s2.heap.objs.size:=hs2.1
 rw[hsz] at hz₈ hT₈
 refine wpAny_pure ⟨_,rfl,?_⟩
 show Q (.ref g2.objs.size) { s2 with heap:=h₈}
 rw[hsz]
 exact k2 h₈ hz₈ (up _ _ TOz hT2) hT₈ fun c o cz cT e=>up c o cz (hs2.extBut _ _ cT e)
theorem pB{Q:Option Value→Shared→Prop}(hz:IsZip s.heap z TI TO .none)(hTI:IsTupOf2 s.heap TI (.ref i1) (.ref i2))
  (h1:∀g0,IsZip g0 z TI TO .ellipsis→Heap.SameBut z s.heap g0→wpAny (model P w) A.in1 (Builtin.SmallTypes.nextOf (.ref i1)) (fun x1 s1=>IsTupOf2 s1.heap TO a1 a2∧∀g1,IsTupOf2 g1 TO x1 a2→Heap.SameBut TO s1.heap g1→
   wpAny (model P w) A.in1 (Builtin.SmallTypes.nextOf (.ref i2)) (fun x2 s2=>IsTupOf2 s2.heap TO x1 a2∧IsZip s2.heap z TI TO .ellipsis∧TO≠z∧∀h',IsZip h' z TI TO (rawInt s2.heap.objs.size)→IsTupOf2 h' TO x1 x2→IsTupOf2 h' s2.heap.objs.size x1 x2→
    (∀c o,c≠z→c≠TO→s2.heap.get? c=some o→h'.get? c=some o)→Q (some (.ref s2.heap.objs.size)) { s2 with heap:=h'})
    (y9 z TI TO fun e s'=>(∃e' o,e= .ref e'∧s'.heap.get? e'=some o∧o.cls= .type "StopIteration")∧Q none s') { s1 with heap:=g1})
   (y9 z TI TO fun e s'=>(∃e' o,e= .ref e'∧s'.heap.get? e'=some o∧o.cls= .type "StopIteration")∧Q none s') { s with heap:=g0}):
  wpAny (model P w) A (pyNext (.ref z)) Q E s:=by
 have hT:s.TypeIs (.ref z) "zip":=⟨_,hz,rfl⟩
 unfold pyNext
 refine wpAny_bind (wpAny_attempt (wpAny_callSpecial?_slot (name:=Str.ofString "__next__") hT F.slot_zip_next
  (wpAny_call_entry F.slot_zip_next hT F.entry_zip_next (wpAny_mono (uA (Q:=fun v s'=>Q (some v) s') hz hTI h1) (fun fin s' ⟨v,e,q⟩=>⟨v,e,wpAny_pure q⟩) fun e s' ⟨⟨e',o,ee,ho,hc⟩,q⟩=>?_) (F.args_zip_next_1 _))))
 subst ee
 refine wpAny_bind (wpAny_isInstance (T:="StopIteration") (b:=true) ⟨o,ho,hc⟩ isSubtype_stop ?_)
 exact wpAny_pure q
end
end Ev.Ex
namespace Ev.S1
open PySem PySem.Spec L2 PyProof.Rows GenW
abbrev mX:=Result→Shared→Prop
abbrev my:=Value→GenState→Shared→Prop
def qe(R:mX)(Y:my)(e:End)(s:Shared):Prop:=match e with
 | .ret r=>R r s
 | .susp v g l k c p fs=>(End.susp v g l k c p fs).quiet=true∧Y v (End.susp v g l k c p fs).genState s
def One(M:Model)(A:Around)(R:mX)(Y:my)(c:Code)(t:Sem PySem.Fin)(fs:List Frame)(s:Shared):Prop:=∀Γ p,Γ.code=c→Γ.Woken A→∃e s',Runs M Γ p t fs s e s'∧qe R Y e s'
def D9(gs:GenState):Prop:=∃k l c p fs cl,gs= .suspended k l c p fs cl
def iz(M:Model)(A:Around)(R:mX)(Y:my)(gs:GenState)(s:Shared):Prop:=match gs with
 | .fresh c=>One M A R Y c (M.den c) [] s
 | .suspended k _ c _ fs _=>One M A R Y c (k (.send .none)) fs s
 |_=>False
section
variable {M:Model}{A:Around}{R:mX}{Y:my}{c:Code}{fs:List Frame}{s:Shared}
theorem eG{α:Type}{m:Sem α}{K:α→Sem PySem.Fin}{H:Value→Sem PySem.Fin}{gd:Bool→Bool}{lv:List Value→List Value}
  (h:wpAny M (A.over c fs) m (fun a s'=>One M A R Y c (K a) fs s') (fun x s'=>One M A R Y c (H x) fs s') s):One M A R Y c (m.wrap K H gd lv) fs s:=by
 rintro Γ p rfl hΓ
 exact runs_wrap_of_wp K H gd lv m (h (Γ.over fs) p (hΓ.over fs)) (fun a p' s' h'=>h' Γ p' rfl hΓ) (fun x p' s' h'=>h' Γ p' rfl hΓ)
theorem zO{p':Pos}{k:Unit→Sem PySem.Fin}(h:One M A R Y c (k ()) fs s):One M A R Y c (.at p' k) fs s:=
 eG (m:=standAt p') (K:=k) (H:=.raise) (gd:=id) (lv:=id) (wpAny_standAt h)
theorem Eg{l:List Value}{k:Unit→Sem PySem.Fin}(h:One M A R Y c (k ()) fs s):One M A R Y c (.point l k) fs s:=
 eG (m:=point) (K:=k) (H:=.raise) (gd:=id) (lv:=fun _=>l) (wpAny_point h)
theorem GH{c':Code}{h g l}{k:Result→Sem PySem.Fin}(hc:∀p,One M A R Y c' (M.den c') (.ret k h g l c p []::fs) s):One M A R Y c (.call c' h g l k) fs s:=by
 rintro Γ p rfl hΓ
 obtain⟨e,s',hr,he⟩:=hc p (Γ.goto c') p rfl (hΓ.goto c')
 exact⟨e,s',runs_call_seg hr,he⟩
theorem EO{k h g l c₁ p₁ kp}(r:Result)(hk:One M A R Y c₁ (k r) fs s):One M A R Y c (leafOf r) (.ret k h g l c₁ p₁ kp::fs) s:=by
 rintro Γ p rfl hΓ
 obtain⟨e,s',hr,he⟩:=hk (Γ.goto c₁) p₁ rfl (hΓ.goto c₁)
 exact⟨e,s',Runs.pop r hr,he⟩
theorem wj{c':Code}(hq:c'.quiet=true)(hc:One M A R Y c' (M.den c') fs s):One M A R Y c (.pure (.again c')) fs s:=by
 rintro Γ p rfl hΓ
 obtain⟨e,s',hr,he⟩:=hc (Γ.goto c') p rfl (hΓ.goto c')
 exact⟨e,s',Runs.head (c₁:=c') (fun _ _ x=>.again hq x) hr,he⟩
theorem HZ(r:Result)(h:R r s):One M A R Y c (leafOf r) [] s:=by
 rintro Γ p rfl _
 exact⟨.ret r,s,Runs.leaf r,h⟩
theorem DF{v g l}{k:Resume→Sem PySem.Fin}(hfs:splitAtGen fs=none)(hg:g=false)(hfg:fs.any Frame.guarded=false)(h:∀p cl,Y v (.suspended k l c p fs cl) s):One M A R Y c (.yield v g l k) fs s:=by
 rintro Γ p rfl _
 exact⟨_,s,Runs.yield' fs hfs,And.intro (by simp[End.quiet,hg,hfg]) (h _ _)⟩
variable {env:Env}{K:Flow→Sem PySem.Fin}{H:Value→Sem PySem.Fin}{gd:Bool→Bool}{lv:List Value→List Value}
theorem eu{st:Stmt}{rest:List Stmt}(h:One M A R Y c ((exec st env).wrap (fun f=>match f with| .next=>(execs rest env).wrap K H gd lv|f=>K f) H gd lv) fs s):One M A R Y c ((execs (st::rest) env).wrap K H gd lv) fs s:=by
 rw[execs_cons_wrap];exact h
theorem yX{e:Expr}{ypos pos:Pos}(hfs:splitAtGen fs=none)(hgd:gd false=false)(hfg:fs.any Frame.guarded=false)
  (h:wpAny M (A.over c fs) (eval e env) (fun v s'=>∀gs:GenState,D9 gs→(∀A' R' Y' s'',One M A' R' Y' c (K .next) fs s''→iz M A' R' Y' gs s'')→Y v gs s')
   (fun x s'=>One M A R Y c (H x) fs s') s) (hco:env.scope.isCoroutine=false:=by rfl) (hi:interactive env=false:=by rfl):
  One M A R Y c ((exec (.Expr (.Yield (some e) ypos) pos) env).wrap K H gd lv) fs s:=by
 rw[exec_Expr env _ pos hi rfl]
 show One M A R Y c (.at pos fun _=>((eval e env>>= fun v=>(standAt ypos>>= fun _=>yieldOut env v))>>= fun x=>dropValue (.Yield (some e) ypos) pos x).wrap K H gd lv) fs s
 have hy:∀v,yieldOut env v=yieldValue v:=fun v=>by simp only[yieldOut,hco,Bool.false_eq_true,if_false]
 simp only[hy]
 refine zO ?_
 rw[Sem.bind_eq_wrap',Sem.bind_eq_wrap',Sem.wrap_wrap,Sem.wrap_wrap]
 refine eG (wpAny_mono h (fun v s' h'=>?_) fun _ _ x=>x)
 refine zO (DF hfs hgd hfg fun p cl=>?_)
 exact h' _ ⟨_,_,_,_,_,_,rfl⟩ fun A' R' Y' s'' hx=>hx
theorem zE{E:Value→Shared→Prop}{g:Nat}{gs:GenState}{l:List Value}{α:Type}{k:GenResult→Sem α}{Q:α→Shared→Prop}(hg:s.gens[g]? =some gs)(hgo:iz M A R Y gs (s.setGen g .running))
  (hR:∀x s₁,R x s₁→wpAny M A (k (End.ret x).result) Q E (s₁.setGen g .finished)) (hY:∀v s₁ gs',gs'.bare=true→Y v gs' s₁→wpAny M A (k (.yielded v)) Q E (s₁.setGen g gs')):
  wpAny M A (.resume g (.send .none) l k) Q E s:=by
 intro Γ p hΓ
 rw[Sem.wp_resume]
 have fin:∀e₁ s₁,qe R Y e₁ s₁→Sem.wp M Γ (k e₁.result) (fun a _ s'=>Q a s') (fun e _ s'=>E e s') p (s₁.setGen g e₁.genState):=fun e₁ s₁ he=>by
  cases e₁ with
  |ret x=>exact hR x s₁ he Γ p hΓ
  |susp v g₀ l₀ k₀ c₀ p₀ fs₀=>exact hY v s₁ _ (End.bare_of_quiet he.1) he.2 Γ p hΓ
 have hqt:∀e₁ s₁,qe R Y e₁ s₁→e₁.quiet=true:=fun e₁ s₁ he=>by
  cases e₁ with
  |ret x=>rfl
  |susp v g₀ l₀ k₀ c₀ p₀ fs₀=>exact he.1
 cases gs with
 |fresh c=>
  obtain⟨e₁,s₁,hr,he⟩:=hgo (Γ.wake c p) p rfl (hΓ.wake c p)
  exact⟨_,_,by unfold Wakes;rw[hg];exact⟨e₁,s₁,hr,hqt e₁ s₁ he,rfl,rfl⟩,fin e₁ s₁ he⟩
 |suspended k₀ l₀ c₀ p₀ fs₀ cl=>
  obtain⟨e₁,s₁,hr,he⟩:=hgo (Γ.wake c₀ p) p₀ rfl (hΓ.wake c₀ p)
  exact⟨_,_,by unfold Wakes;rw[hg];exact⟨e₁,s₁,hr,hqt e₁ s₁ he,rfl,rfl⟩,fin e₁ s₁ he⟩
 |running=>exact hgo.elim
 |finished=>exact hgo.elim
end
section
variable {P:Program}{w:World}{A:Around}{R:mX}{Y:my}{c:Code}{fs:List Frame}{s:Shared}{env:Env}
theorem Gf{body:List Stmt}(h:One (model P w) A R Y (.func body env) ((execs body env).wrap (fun f=>.pure (.done (.ret (match f with| .ret v=>v|_=>.none)))) (fun e=>(leaving env e).wrap (fun _=>.raise e) .raise id id) id id) fs s):
  One (model P w) A R Y (.func body env) ((model P w).den (.func body env)) fs s:=by
 show One _ A R Y _ (.point [] fun _=>((execs body env).onRaise (leaving env))>>= _) fs s
 refine Eg ?_
 rw[Sem.onRaise_eq_wrap,Sem.bind_eq_wrap',Sem.wrap_wrap]
 rw[Sem.wrap_congr (execs body env) _ _ (K':=fun f=>.pure (.done (.ret (match f with| .ret v=>v|_=>.none))))
  (H':=fun e=>(leaving env e).wrap (fun _=>.raise e) .raise id id) (fun f=>by cases f<;>rfl) (fun e=>by rw[Sem.bind_eq_wrap,Sem.wrap_wrap];rfl)]
 exact h
theorem pD{target:Expr}{it:Value}{body:List Stmt}
  (h:wpAny (model P w) (A.over (.forLoop target it body [] env) fs) (pyNext it) (fun r s₁=>match r with
   |none=>One (model P w) A R Y (.block [] env) ((model P w).den (.block [] env)) fs s₁
   |some v=>wpAny (model P w) (A.over (.forLoop target it body [] env) fs) (letOwnedTupleGo target it v) (fun _ s₂=>wpAny (model P w) (A.over (.forLoop target it body [] env) fs) (assign target env v) (fun _ s₃=>
     One (model P w) A R Y (.forLoop target it body [] env) ((execs body env).wrap (fun f=>match f with
      | .next| .cont=>.pure (.again (.forLoop target it body [] env))
      | .brk=>.pure (.done .next)
      | .ret v=>.pure (.done (.ret v))) (fun e=>(do noteFrame e env;theTreesLotGoes e:Sem Unit).wrap (fun _=>.raise e) .raise id id) id id) fs s₃) (fun _ _=>False) s₂) (fun _ _=>False) s₁) (fun _ _=>False) s):
  One (model P w) A R Y (.forLoop target it body [] env) ((model P w).den (.forLoop target it body [] env)) fs s:=by
 show One _ A R Y _ ((forTurn target it body [] env).onRaise (fun x=>do noteFrame x env;theTreesLotGoes x)) fs s
 have ex:∀ (x:Value),((fun e=>(do noteFrame e env;theTreesLotGoes e:Sem Unit).bind fun _=>(.raise e:Sem PySem.Fin)) x)=((do noteFrame x env;theTreesLotGoes x:Sem Unit).wrap (fun _=>.raise x) .raise id id):=fun x=>by
  first|exact Sem.bind_eq_wrap _ _| (show(do noteFrame x env;theTreesLotGoes x:Sem Unit).bind (fun _=>.raise x)=_;rw[Sem.bind_eq_wrap])
 have wr:∀ {α:Type} (m:Sem α) (k:α→Sem PySem.Fin),((m>>= k).onRaise (fun x=>do noteFrame x env;theTreesLotGoes x))=m.wrap (fun a=>(k a).onRaise (fun x=>do noteFrame x env;theTreesLotGoes x)) (fun e=>(do noteFrame e env;theTreesLotGoes e:Sem Unit).wrap (fun _=>.raise e) .raise id id) id id:=fun {α} m k=>by
  rw[Sem.onRaise_eq_wrap,Sem.bind_eq_wrap',Sem.wrap_wrap]
  refine Sem.wrap_congr _ _ _ (fun a=>?_) (fun e=>ex e)
  rw[Sem.onRaise_eq_wrap]
 unfold forTurn
 rw[wr]
 refine eG (wpAny_standAt ?_)
 rw[wr]
 refine eG (wpAny_onRaise (wpAny_mono h (fun r s₁ h₁=>?_) fun _ _ z=>z.elim))
 cases r with
 |none=>exact wj rfl h₁
 |some v=>
  show One _ A R Y _ ((letOwnedTupleGo target it v>>= fun _=>assign target env v>>= fun _=>execs body env>>= fun f=>match f with
   | .next| .cont=>again (.forLoop target it body [] env)
   | .brk=>pure (.done .next)
   | .ret v=>pure (.done (.ret v))).onRaise (fun x=>do noteFrame x env;theTreesLotGoes x)) fs s₁
  rw[wr]
  refine eG (wpAny_mono h₁ (fun _ s₂ h₂=>?_) fun _ _ z=>z.elim)
  rw[wr]
  refine eG (wpAny_mono h₂ (fun _ s₃ h₃=>?_) fun _ _ z=>z.elim)
  rw[wr]
  rw[Sem.wrap_congr (execs body env) _ _ (K':=fun f=>match f with
      | .next| .cont=>.pure (.again (.forLoop target it body [] env))
      | .brk=>.pure (.done .next)
      | .ret v=>.pure (.done (.ret v))) (H':=(fun e=>(do noteFrame e env;theTreesLotGoes e:Sem Unit).wrap (fun _=>.raise e) .raise id id))
    (fun f=>by cases f<;>rfl) (fun e=>rfl)]
  exact h₃
theorem HV{tg iter:Expr}{body:List Stmt}{pos:Pos}{KK:Flow→Sem PySem.Fin}{JJ:Value→Sem PySem.Fin}{gd:Bool→Bool}{lv:List Value→List Value}(hs:∀x,foldedSetIterable iter env x=pure x)
  (h:wpAny (model P w) (A.over c fs) (eval iter env) (fun x0 s1=>wpAny (model P w) (A.over c fs) (pyIter x0) (fun itv s2=>∀p,One (model P w) A R Y (.forLoop tg itv body [] env) ((model P w).den (.forLoop tg itv body [] env))
   (.ret (fun r=>((match r with| .ok f=>(.pure f:Sem Flow)| .error e=>.raise e).onRaise (cameBack env)).wrap KK JJ gd lv) none (gd false) (lv []) c p []::fs) s2) (fun _ _=>False) s1) (fun _ _=>False) s):
  One (model P w) A R Y c ((exec (.For tg iter body [] pos) env).wrap KK JJ gd lv) fs s:=by
 rw[arm_exec_For,Sem.bind_eq_wrap',Sem.wrap_wrap]
 refine eG (wpAny_standAt ?_)
 show One _ A R Y c ((eval iter env>>= fun x0=>foldedSetIterable iter env x0>>= fun x=>standAt iter.pos>>= fun _=>holding [x] (pyIter x)>>= fun itv=>runOwn (.forLoop tg itv body [] env) env).wrap KK JJ gd lv) fs s
 rw[Sem.bind_eq_wrap',Sem.wrap_wrap]
 refine eG (wpAny_mono h (fun x0 s1 h1=>?_) fun _ _ z=>z.elim)
 rw[hs x0]
 show One _ A R Y c ((standAt iter.pos>>= fun _=>holding [x0] (pyIter x0)>>= fun itv=>runOwn (.forLoop tg itv body [] env) env).wrap KK JJ gd lv) fs s1
 rw[Sem.bind_eq_wrap',Sem.wrap_wrap]
 refine eG (wpAny_standAt ?_)
 rw[Sem.bind_eq_wrap',Sem.wrap_wrap]
 refine eG (wpAny_holding (wpAny_mono h1 (fun itv s2 h2=>GH fun p=>h2 p) fun _ _ z=>z.elim))
end
end Ev.S1
namespace Ev.S1
open PySem PySem.Spec L2 PyProof.Rows GenW Ev.Ex
def Au(P:Program)(w:World)(B:Heap)(rows:List (List Str))(C L:Addr)(cell:Addr→Prop)(J R:Addr)(refs:List Value):Nat→GenState→Prop
 |0,gs=>D9 gs∧∀A s₀,Room 2 A→Sleeps s₀.heap L J R refs rows rows.length→Kept B s₀.heap→iz (model P w) A (fun r s=>r= .ok (.ret .none)∧(∃h' tk,s={ s₀ with heap:=h',toks:=tk})∧∀b o,b≠L→b≠J→s₀.heap.get? b=some o→s.heap.get? b=some o) (fun _ _ _=>False) gs s₀
 |n+1,gs=>D9 gs∧∀A s₀,Room 2 A→Sleeps s₀.heap L J R refs rows (rows.length- (n+1))→Kept B s₀.heap→iz (model P w) A (fun _ _=>False) (fun v gs' s=>(∃T dx t,Woke rows C L cell (rows.length- (n+1)) s₀ v s J R refs T dx t)∧Au P w B rows C L cell J R refs n gs') gs s₀
theorem Au.sus{P:Program}{w:World}{B:Heap}{rows:List (List Str)}{C L:Addr}{cell:Addr→Prop}{J R:Addr}{refs:List Value}:∀ {n:Nat} {gs:GenState},Au P w B rows C L cell J R refs n gs→D9 gs
 |0,_,h=>h.1
 |_+1,_,h=>h.1
def Rk(L J:Addr)(s₀:Shared):Nat→mX
 |0=>fun r s=>r= .ok (.ret .none)∧(∃h' tk,s={ s₀ with heap:=h',toks:=tk})∧∀b o,b≠L→b≠J→s₀.heap.get? b=some o→s.heap.get? b=some o
 |_+1=>fun _ _=>False
def Yk(P:Program)(w:World)(B:Heap)(rows:List (List Str))(C L:Addr)(cell:Addr→Prop)(J R:Addr)(refs:List Value)(s₀:Shared):Nat→my
 |0=>fun _ _ _=>False
 |n+1=>fun v gs' s=>(∃T dx t,Woke rows C L cell (rows.length- (n+1)) s₀ v s J R refs T dx t)∧Au P w B rows C L cell J R refs n gs'
section
variable {P:Program}{w:World}{B:Heap}{K:PySem.W.Frag}{mg:Str→Option Value}{C fI L:Nat}{ok:List Str→Prop}{rows:List (List Str)}{cell:Addr→Prop}
theorem FF{qual:Str}{scope csc:Scope}{f:Addr}{cd:Value}{d1 d3 d4 d5 d6 d7:Pos}{c:Code}{fs:List Frame}{gd:Bool→Bool}{lv kp:List Value}{p:Pos}{kk:Result→Sem PySem.Fin}(S:GenW0 scope csc)(M:Mk K C fI)(hi:lS P w K mg C fI ok)(mT:mg "Table"=some (.ref C))(kT:PySem.W.keepIn K (.ref C)=true)
  (hok:∀row∈rows,ok row) (g:∀A,GC A (envOfC qual scope L f cd) c fs gd) (hco:scope.isCoroutine=false) (XB:Fx K mg B) (hB:B.objs.size≤L) {J R:Addr} {refs:List Value}
  (h0:0<rows.length) (hend:∀A (R:mX) (Y:my) s,R (.ok (.ret .none)) s→One (model P w) A R Y c (kk (.ok .next)) fs s):
  ∀ (k i:Nat) (A:Around) (s₀ s:Shared),i+k=rows.length→Room 2 A→Sleeps s.heap L J R refs rows i→Kept B s.heap→(∃h' tk,s={ s₀ with heap:=h',toks:=tk})→(∀b o,b≠L→b≠J→(i=0→¬cell b)→s₀.heap.get? b=some o→s.heap.get? b=some o)→s₀.heap.objs.size≤s.heap.objs.size→
   One (model P w) A (Rk L J s₀ k) (Yk P w B rows C L cell J R refs s₀ k) (.forLoop (.Name "row" d1) (.ref J) [.Expr (.Yield (some (.Call (.Name "Table" d3) [.Name "row" d4] [] d5)) d6) d7] [] (envOfC qual scope L f cd)) ((model P w).den (.forLoop (.Name "row" d1) (.ref J) [.Expr (.Yield (some (.Call (.Name "Table" d3) [.Name "row" d4] [] d5)) d6) d7] [] (envOfC qual scope L f cd)))
    (.ret kk none (gd false) lv c p kp::fs) s:=by
 have gl:=fun A=>(g A).loop (c':=.forLoop (.Name "row" d1) (.ref J) [.Expr (.Yield (some (.Call (.Name "Table" d3) [.Name "row" d4] [] d5)) d6) d7] [] (envOfC qual scope L f cd)) (k:=kk) (l:=lv) (kp:=kp) (p:=p) rfl rfl
 have hkind:(envOfC qual scope L f cd).scope.kind= .function:=S.kind
 have hp:((envOfC qual scope L f cd).scope.kind== .class||((envOfC qual scope L f cd).scope.kind== .module&&(envOfC qual scope L f cd).locals != (envOfC qual scope L f cd).globals))=false:=by
  rw[hkind];rfl
 intro k
 induction k with
 |zero=>
  intro i A s₀ s hik hr sl X only kp0 sz0
  have hi0:i=rows.length:=hik
  subst hi0
  have hh:(A.deeper (envOfC qual scope L f cd)).handled=none:=hr.hd
  refine pD ?_
  rw[(gl A).over]
  have W:=Goes.list (prog:=P) (w:=w) (target:=.Name "row" d1) hh J R sl.jr refs.toArray
  have el:refs.toArray.size=rows.length:=by
   have:=sl.len
   simpa using this
  refine wpAny_mono (W.stops s (fun s1=>∃h' tk,s1={ s with heap:=h',toks:=tk}∧∀b o,b≠J→s.heap.get? b=some o→h'.get? b=some o) (fun _ _=>False) (by rw[el];exact⟨sl.it,sl.lst⟩) fun h' tk hk _=>⟨h',tk,rfl,fun b o hb e=>hk b o (fun z=>hb (Jg.mp z)) e⟩) (fun r s1 ⟨e,h',tk,es,k1⟩=>?_) fun _ _ z=>z.elim
  subst e
  subst es
  obtain⟨hw,tk0,e0⟩:=only
  exact EO (.ok .next) (hend A _ _ _ ⟨rfl,⟨h',tk,by rw[e0]⟩,fun b o h1 h2 e=>k1 b o h2 (kp0 b o h1 h2 (fun z=>absurd z (JA h0)) e)⟩)
 |succ m ih=>
  intro i A s₀ s hik hr sl X only kp0 sz0
  have hh:(A.deeper (envOfC qual scope L f cd)).handled=none:=hr.hd
  have hr1:Room 1 (A.deeper (envOfC qual scope L f cd)):=hr.deeper _
  have hin':rows.length- (m+1)=i:=by omega
  have el:refs.length=rows.length:=sl.len
  have hin:i<rows.length:=by omega
  refine pD ?_
  rw[(gl A).over]
  have W:=Goes.list (prog:=P) (w:=w) (target:=.Name "row" d1) hh J R sl.jr refs.toArray
  have hz:i<refs.toArray.size:=by rw[List.size_toArray];omega
  obtain⟨vrow,hvrow⟩:∃v,refs[i]? =some v:=⟨_,Jo (by omega)⟩
  obtain⟨row,erow,t,its,rfl,htup,rtup⟩:=sl.tup.at_ (i:=0) (by rw[List.getElem?_drop];exact hvrow)
  rw[List.getElem?_drop] at erow
  have erow:rows[i]? =some row:=erow
  have hmem:Value.ref t∈refs:=Js hvrow
  have hrow:row∈rows:=Js erow
  refine dE (wpAny_mono (W.goes i s (fun v s1=>s.heap.objs.size≤s1.heap.objs.size→wpAny (model P w) (A.deeper (envOfC qual scope L f cd)) (assign (.Name "row" d1) (envOfC qual scope L f cd) v) (fun _ s₃=>
     One (model P w) A (Rk L J s₀ (m+1)) (Yk P w B rows C L cell J R refs s₀ (m+1)) (.forLoop (.Name "row" d1) (.ref J) [.Expr (.Yield (some (.Call (.Name "Table" d3) [.Name "row" d4] [] d5)) d6) d7] [] (envOfC qual scope L f cd)) ((execs [.Expr (.Yield (some (.Call (.Name "Table" d3) [.Name "row" d4] [] d5)) d6) d7] (envOfC qual scope L f cd)).wrap (fun fw=>match fw with
      | .next| .cont=>.pure (.again (.forLoop (.Name "row" d1) (.ref J) [.Expr (.Yield (some (.Call (.Name "Table" d3) [.Name "row" d4] [] d5)) d6) d7] [] (envOfC qual scope L f cd)))
      | .brk=>.pure (.done .next)
      | .ret v=>.pure (.done (.ret v))) (fun e=>(do noteFrame e (envOfC qual scope L f cd);theTreesLotGoes e:Sem Unit).wrap (fun _=>.raise e) .raise id id) id id) (.ret kk none (gd false) lv c p kp::fs) s₃) (fun _ _=>False) s1) (fun _ _=>False) hz ⟨sl.it,sl.lst⟩ fun v h1 tk1 hv st1 k1 _=>?_) (fun r s1 ⟨v,er,q⟩ hsz=>?_) fun _ _ z=>z.elim)
  ·intro hsz1
   have ev:v= .ref t:=by
    have hv:refs.toArray[i]? =some v:=hv
    have:refs[i]? =some v:=by simpa using hv
    rw[hvrow] at this
    exact(Jq this).symm
   subst ev
   have k1':∀b o,b≠J→s.heap.get? b=some o→h1.get? b=some o:=fun b o hb e=>k1 b o (fun z=>hb (Jg.mp z)) e
   obtain⟨mL,nL⟩:=sl.ns
   have nL1:h1.Ns L mL:=nL.at' fun o e=>k1' L o (Jm sl.lj) e
   refine dE (wpAny_assign_Name (wpAny_storeName_local (env:=envOfC qual scope L f cd) (s:={ s with heap:=h1,toks:=tk1}) S.row nL1 (fun h2 n2 sb2 hsz2=>?_) hp))
   have hsz3:s₀.heap.objs.size≤h2.objs.size:=Jx sz0 (Jx hsz1 hsz2)
   have k2:∀b o,b≠J→b≠L→s.heap.get? b=some o→h2.get? b=some o:=fun b o h1 h2 e=>sb2.extBut b o h2 (k1' b o h1 e)
   have low:∀ {b o},B.get? b=some o→b≠J∧b≠L:=fun {b o} e=>by
    have h1:=Jk (Heap.lt_size e) hB
    exact⟨Jm (JO h1 sl.lj),Jm h1⟩
   have kb2:Kept B h2:=fun b o e=>k2 b o (low e).1 (low e).2 (X b o e)
   have X2:Fx K mg h2:=XB.kept kb2
   refine eu (yX (gl A).split (gl A).gd (gl A).guard ?_ hco (by show interactive _=false;simp[interactive,hkind]))
   rw[(gl A).over]
   refine wpAny_Call_Name_kw (eU X2 hkind S.table rfl mT ?_ (by decide))
   refine PySem.W.callWith_K X2.kin kT ?_ rfl rfl
   refine Calls.spliced_cons (wpAny_Name (wpAny_loadName_local hkind S.row n2 (v:=.ref t) (if_pos rfl) (Calls.spliced_nil ⟨X2.kin,?_⟩)) (by decide))
   have tL:t≠L∧t≠J:=⟨JA (sl.at_ t hmem).1,(sl.at_ t hmem).2⟩
   have ht2:h2.IsTuple t its:=htup.at fun o e=>k2 _ o tL.2 tL.1 e
   refine rS M hi hr1 X2 ht2 rtup.1 (hok row hrow) fun T dx h3 tk3 nT nD k3 TA=>?_
   have no2:∀b o,h2.get? b=some o→b<T∧b<dx:=fun b o e=>⟨Jk (Heap.lt_size e) nT,Jk (Heap.lt_size e) nD⟩
   have k23:∀b o,b≠J→b≠L→s.heap.get? b=some o→h3.get? b=some o:=fun b o q1 q2 e=>k3 b o (k2 b o q1 q2 e)
   have itJ:h3.IsListIter J R (i+1):=by
    have:h1.IsListIter J R (i+1):=st1.1
    exact this.at fun o e=>k3 _ o (sb2.extBut J o (JA sl.lj) e)
   have tup1:TupRs s.heap (refs.drop (i+1)) (rows.drop (i+1)):=by
    have:=sl.tup.drop_ 1
    rw[List.drop_drop,List.drop_drop] at this
    exact this
   have sl3:Sleeps h3 L J R refs rows (i+1):=⟨⟨_,n2.at' fun o e=>k3 _ o e⟩,itJ,sl.lst.at fun o e=>k23 _ o sl.jr (JA sl.lr) e,tup1.move sl.at_.drop_ fun b o hb e=>k23 b o hb.2 (JA hb.1) e,sl.len,sl.nd,sl.lj,sl.lr,sl.jr,sl.at_⟩
   have own2:∀b∈aR L J R (refs.drop i),∃o,h2.get? b=some o:=fun b hb=>by
    rcases Jj.mp hb with z|hb
    ·obtain⟨o,_,_,e,_⟩:=n2
     exact⟨o,z▸e⟩
    rcases Jj.mp hb with z|hb
    ·obtain⟨o,e,_⟩:=st1.1
     exact⟨o,z▸sb2.extBut J o (JA sl.lj) e⟩
    rcases Jj.mp hb with z|hb
    ·obtain⟨o,e,_⟩:=sl.lst
     exact⟨o,z▸k2 R o sl.jr (JA sl.lr) e⟩
    ·have hb:=aY.mp hb
     have hl:=sl.tup.low b hb
     obtain⟨j,hj⟩:=List.getElem?_of_mem hb
     obtain⟨_,_,a,_,ea,⟨o,e,_⟩,_⟩:=sl.tup.at_ hj
     cases ea
     have hb':=List.mem_of_mem_drop hb
     exact⟨o,k2 b o (sl.at_ b hb').2 (JA (sl.at_ b hb').1) e⟩
   intro gs sus hgs
   obtain⟨h0,tk0,e0⟩:=only
   refine⟨⟨T,dx,t,rfl,⟨h3,tk3,by rw[e0]⟩,fun b o q1 q2 q3 e=>k23 b o q2 q1 (kp0 b o q1 q2 (fun z=>q3 (hin'.trans z)) e),by rw[hin'];exact hvrow,⟨row,its,by rw[hin'];exact erow,ht2.at fun o e=>k3 _ o e,rtup.1,(rtup.2.at fun o e=>k2 _ o tL.2 tL.1 e).at fun o e=>k3 _ o e⟩,TA,Jx hsz3 nT,Jx hsz3 nD,fun b hb=>?_,by rw[hin'];exact sl3⟩,?_⟩
   ·rw[hin'] at hb
    obtain⟨o,e⟩:=own2 b hb
    exact no2 b o e
   ·have step:∀ (A':Around) (s4:Shared),Room 2 A'→Sleeps s4.heap L J R refs rows (i+1)→Kept B s4.heap→iz (model P w) A' (Rk L J s4 m) (Yk P w B rows C L cell J R refs s4 m) gs s4:=fun A' s4 hr' sl4 kB=>
     hgs A' _ _ s4 (wj rfl (ih (i+1) A' s4 s4 (by omega) hr' sl4 kB ⟨_,_,rfl⟩ (fun b o _ _ _ e=>e) (JD _)))
    have hi1:rows.length-m=i+1:=by omega
    cases m with
    |zero=>
     have hi2:rows.length=i+1:=by omega
     exact⟨sus,fun A' s4 hr' sl4 kB=>step A' s4 hr' (hi2▸sl4) kB⟩
    |succ m'=>exact⟨sus,fun A' s4 hr' sl4 kB=>step A' s4 hr' (hi1▸sl4) kB⟩
  ·subst er
   refine dE (wpAny_mono q (fun _ s2 q2 hsz2=>wpAny_mono (q2 (Jx hsz hsz2)) (fun _ _ z=>z) fun _ _ z=>z.elim) fun _ _ z=>z.elim)
end
theorem ya{M:Model}{A:Around}{R R':mX}{Y Y':my}{c:Code}{t:Sem PySem.Fin}{fs:List Frame}{s:Shared}(hR:∀r s,R r s→R' r s)(hY:∀v gs s,Y v gs s→Y' v gs s)(h:One M A R Y c t fs s):One M A R' Y' c t fs s:=by
 intro Γ p hc hΓ
 obtain⟨e,s',hr,he⟩:=h Γ p hc hΓ
 refine⟨e,s',hr,?_⟩
 cases e with
 |ret r=>exact hR r s' he
 |susp v g l k c p fs=>exact⟨he.1,hY _ _ _ he.2⟩
section
variable {P:Program}{w:World}{A:Around}{B:Heap}{K:PySem.W.Frag}{mg:Str→Option Value}{C fI L:Nat}{ok:List Str→Prop}{s:Shared}
theorem fresh1{qual:Str}{scope csc:Scope}{f d cT:Addr}{cd:Value}{cs:Array Value}{cases:List Str}{rss:List (List Str)}{es:Array DictEntry}{n:Nat}{a1 a2 a3 a4 b1 b2 b3 c1 c2 c3 c4 c5 c6 c7 c8 c9 c10 c11 c12 c13 d1 d2 d3 d4 d5 d6 d7 d8:Pos}{i0 i1:Nat}
  (S:GenW0 scope csc) (M:Mk K C fI) (hi:lS P w K mg C fI ok) (mT:mg "Table"=some (.ref C)) (kT:PySem.W.keepIn K (.ref C)=true) (hok:∀row∈az rss,ok row) (hr:Room 2 A) (hco:scope.isCoroutine=false) (XB:Fx K mg B) (hB:B.objs.size≤L) (kB:Kept B s.heap)
  (D:L2.KDict K w d es n) (mR:mg "RULES"=some (.ref d)) (mC:mg "CASES"=some (.ref cT)) (oC:∃o n,K.lookup cT=some o∧o.cls= .type "tuple"∧o.data= .seq cs n) (rC:Vals (cases.map V.str) cs.toList)
  (hrs:∀ (i:Nat) (c:Str),cases[i]? =some c→∃rs,rss[i]? =some rs∧gZ K d c rs) (hlen:rss.length=cases.length) (hz:∀ (i:Nat),∀row∈az (rss.take i),row.length<1000) (hn:∀ (i:Nat) (rs:List Str),rss[i]? =some rs→(az (rss.take i)).length*rs.length<100000) (h0:0< (az rss).length)
  (hsw1:swapsWith (.List [.Tuple [] i1 a2] a3) (some (.Name "rows" a1)) a4.line (envOfC qual scope L f cd)=pure false)
  (hsw:swapsWith (.ListComp (.BinOp (.Name "row" c2) .Add (.Tuple [.Name "rule" c3] i0 c4) c5) [⟨.Name "row" c6,.Name "rows" c7,[],0⟩,⟨.Name "rule" c8,.Subscript (.Name "RULES" c9) (.Name "case" c10) c11,[],0⟩] csc c12) (some (.Name "rows" c1)) c13.line (envOfC qual scope L f cd)=pure true)
  {m cm:Str→Option Value} (hns:s.heap.Ns L m) (hcells:∀x c,(cellsFrom (L+1) scope.names []).lookup x=some c→s.heap.IsCell c (cm x)) (hap:(cellsFrom (L+1) scope.names []).Pairwise fun x y=>x.2≠y.2) (hab:∀x c,(x,c)∈cellsFrom (L+1) scope.names []→L<c) {ca:Addr} (eca:(cellsFrom (L+1) scope.names []).lookup ("case":Str)=some ca):
  iz (model P w) A (fun _ _=>False) (fun v gs' s'=>∃J R refs,(∃T dx t,Woke (az rss) C L (cellOf L scope) 0 s v s' J R refs T dx t)∧(∀b∈J::R::bp refs,s.heap.objs.size≤b)∧Au P w B (az rss) C L (cellOf L scope) J R refs ((az rss).length-1) gs') (GenState.fresh (.func [.Assign [.Name "rows" a1] (.List [.Tuple [] i1 a2] a3) a4,.For (.Name "case" b1) (.Name "CASES" b2) [.Assign [.Name "rows" c1] (.ListComp (.BinOp (.Name "row" c2) .Add (.Tuple [.Name "rule" c3] i0 c4) c5) [⟨.Name "row" c6,.Name "rows" c7,[],0⟩,⟨.Name "rule" c8,.Subscript (.Name "RULES" c9) (.Name "case" c10) c11,[],0⟩] csc c12) c13] [] b3,
   .For (.Name "row" d1) (.Name "rows" d2) [.Expr (.Yield (some (.Call (.Name "Table" d3) [.Name "row" d4] [] d5)) d6) d7] [] d8] (envOfC qual scope L f cd))) s:=by
 refine Gf ?_
 have g:∀A,GC A (envOfC qual scope L f cd) (.func [.Assign [.Name "rows" a1] (.List [.Tuple [] i1 a2] a3) a4,.For (.Name "case" b1) (.Name "CASES" b2) [.Assign [.Name "rows" c1] (.ListComp (.BinOp (.Name "row" c2) .Add (.Tuple [.Name "rule" c3] i0 c4) c5) [⟨.Name "row" c6,.Name "rows" c7,[],0⟩,⟨.Name "rule" c8,.Subscript (.Name "RULES" c9) (.Name "case" c10) c11,[],0⟩] csc c12) c13] [] b3,
   .For (.Name "row" d1) (.Name "rows" d2) [.Expr (.Yield (some (.Call (.Name "Table" d3) [.Name "row" d4] [] d5)) d6) d7] [] d8] (envOfC qual scope L f cd)) [] id:=fun A=>⟨over_func,rfl,rfl,rfl⟩
 have x0:InCallC { s with heap:=B} L m (envOfC qual scope L f cd).cells cm s:=⟨⟨⟨s.heap,s.toks,rfl⟩,hns,kB,hB⟩,hcells,hap,hab⟩
 have hL:L<s.heap.objs.size:=by obtain⟨o,_,_,e,_⟩:=hns;exact Heap.lt_size e
 have hh:(A.deeper (envOfC qual scope L f cd)).handled=none:=hr.hd
 refine eu (eG ?_)
 rw[(g A).over]
 refine wpAny_mono (wM S hsw1 x0 fun R0 refs0 s1 x1 l1 t1 n1 al1 nd1 k1=>?_) (fun _ _ z=>z) fun _ _ z=>z.elim
 show One _ _ _ _ _ _ _ _
 refine eu (eG ?_)
 rw[(g A).over]
 refine wpAny_mono (xh (n0:=s.heap.objs.size) S hh XB D mR mC oC rC hrs hlen hz hn hsw x1 eca (if_pos rfl) l1 t1 n1 al1 nd1 hL fun m2 cm2 R refs s2 x2 e2 l2 t2 n2 al2 nd2 k2=>?_) (fun _ _ z=>z) fun _ _ z=>z.elim
 show One _ _ _ _ _ _ _ _
 refine eu ?_
 refine HV (fun x=>rfl) ?_
 rw[(g A).over]
 refine ldLoc (f7 x2.toInCall) e2 ?_ S.kind S.rows
 refine wpAny_pyIter_list l2 fun p=>?_
 have nL:∀ {b:Addr},s.heap.objs.size≤b→L<b:=fun {b} hb=>Jk hL hb
 have hR2:R<s2.heap.objs.size:=by obtain⟨o,e,_⟩:=l2;exact Heap.lt_size e
 have kp:∀b o,b≠L→¬cellOf L scope b→s.heap.get? b=some o→s2.heap.get? b=some o:=fun b o q1 q2 e=>k2 b o q1 (fun z=>q2 ⟨_,z▸eca⟩) (k1 b o q1 e)
 generalize hs3:({ s2 with heap:=s2.heap.push { cls:=.type "list_iterator",data:=.fields #[.ref R,.int 0 0]}}:Shared)=s3
 have h3:s3.heap=s2.heap.push { cls:=.type "list_iterator",data:=.fields #[.ref R,.int 0 0]}:=by rw[← hs3]
 have g3:bc s2 s3:=⟨_,s2.toks,by rw[← hs3],.push⟩
 have it3:s3.heap.IsListIter s2.heap.objs.size R 0:=⟨_,by rw[h3];exact Heap.get?_push_size _ rfl,rfl,rfl⟩
 have only:∃h' tk,s3={ s with heap:=h',toks:=tk}:=by
  obtain⟨hb,tkb,eb⟩:=x2.toInCall.same
  exact⟨s3.heap,s3.toks,by rw[← hs3,eb]⟩
 obtain⟨m,hm⟩:∃m,(az rss).length=m+1:=⟨(az rss).length-1,by omega⟩
 have sl3:Sleeps s3.heap L s2.heap.objs.size R refs (az rss) 0:=⟨⟨m2,x2.toInCall.ns.at' fun o e=>g3.kept _ o e⟩,it3,l2.at fun o e=>g3.kept _ o e,t2.kept g3.kept,t2.length,nd2,nL (Jx n2 (JI hR2)),nL n2,Jm hR2,fun b hb=>⟨nL (al2 b hb),Jm (t2.low b hb)⟩⟩
 refine ya (fun r s' (z:False)=>z.elim) (fun v gs' s' (hy:Yk P w B (az rss) C L (cellOf L scope) s2.heap.objs.size R refs s (m+1) v gs' s')=>?_) (FF (J:=s2.heap.objs.size) (R:=R) (refs:=refs) (cell:=cellOf L scope) S M hi mT kT hok g hco XB hB h0 (fun A' R' Y' s4 hR'=>HZ (.ok (.ret .none)) hR') (m+1) 0 A s s3 (by omega) hr sl3 (fun b o e=>g3.kept b o (x2.toInCall.keep b o e)) only (fun b o q1 q2 q3 e=>g3.kept b o (kp b o q1 (q3 rfl) e)) ?_)
 ·obtain⟨wk,as⟩:=hy
  have e0:(az rss).length- (m+1)=0:=by omega
  have e1:(az rss).length-1=m:=by omega
  refine⟨s2.heap.objs.size,R,refs,e0▸wk,fun b hb=>?_,by rw[e1];exact as⟩
  rcases Jj.mp hb with z|hb
  ·rw[z]
   exact Jx n2 (JI hR2)
  rcases Jj.mp hb with z|hb
  ·rw[z];exact n2
  ·exact al2 b (aY.mp hb)
 ·rw[h3,Heap.size_push]
  exact Jx (Jx n2 (JI hR2)) (Nat.le_succ _)
end
section
variable {P:Program}{w:World}{A:Around}{E:Value→Shared→Prop}{s:Shared}
theorem mH{a:Addr}{g:Nat}{gs:GenState}{R:mX}{Y:my}{Q:Value→Shared→Prop}(hh:A.handled=none)(hl:s.heap.NoLimit)(hroom:A.depth<recursionLimit)(hg:s.heap.IsGen a g)(hgs:s.gens[g]? =some gs)
  (hgo:iz (model P w) A.in1 R Y gs (s.setGen g .running)) (hR:∀r s₁,R r s₁→r= .ok (.ret .none)) (hY:∀v s₁ gs',gs'.bare=true→Y v gs' s₁→Q v (s₁.setGen g gs'))
  (hP:∀r s₁,R r s₁→∀h' e o,(∀b o,s₁.heap.get? b=some o→h'.get? b=some o)→h'.get? e=some o→o.cls= .type "StopIteration"→E (.ref e) { s₁.setGen g .finished with heap:=h'}):
  wpAny (model P w) A (Builtin.SmallTypes.nextOf (.ref a)) Q E s:=by
 unfold Builtin.SmallTypes.nextOf
 refine wpAny_bind (wpAny_callSpecial?_slot (name:=Str.ofString "__next__") hg.typeIs slot_gen_next
  (wpAny_call_entry slot_gen_next hg.typeIs entry_gen_next ?_ (args_gen_next _)))
 show wpAny _ A.in1 (Builtin.Generator.genWake (.ref a) (.send .none)) _ _ s
 unfold Builtin.Generator.genWake
 refine wpAny_bind (wpAny_holding (wpAny_genNumber hg (wpAny_bind (wpAny_genState hgs ?_))))
 cases gs with
 |running=>exact hgo.elim
 |finished=>exact hgo.elim
 |_=>
  refine wpAny_bind (wpAny_roomToWake hl hroom ?_)
  show wpAny _ A.in1 (.resume g (.send .none) [] _) _ _ s
  refine zE hgs hgo (fun x s₁ hx=>?_) (fun v s₁ gs' hb hv=>?_)
  ·have hres:End.result (.ret x)= .returned .none:=by
    rw[hR x s₁ hx];rfl
   first|rw[hres]|simp only[hres]
   show wpAny _ A.in1 (newExc (.type "StopIteration") []>>= _) _ _ _
   refine wpAny_bind ?_
   simp only[newExc,newTuple]
   refine wpAny_bind (wpAny_newObj_type ?_ (by size_fits))
   refine wpAny_bind (m:=firstArgMember _ _) (wpAny_of_eq (a:=Value.none) (by first|rfl| (simp only[firstArgMember];rfl)) ?_)
   refine wpAny_newObj_type ?_ (by size_fits)
   simp only[raiseNew]
   refine wpAny_bind (wpAny_bind (wpAny_handled ?_))
   first|rw[show A.in1.handled=none from hh]|rw[hh]
   refine wpAny_throw ?_
   exact hP x s₁ hx _ _ _ (fun b o hb=>Heap.get?_push_of_some _ (Heap.get?_push_of_some _ hb)) (Heap.get?_push_size _ rfl) rfl
  ·exact wpAny_pure ⟨v,rfl,wpAny_pure (hY v s₁ gs' hb hv)⟩
end
def dJ(L:Addr)(scope:Scope):List Addr:=(cellsFrom (L+1) scope.names []).filterMap fun q=>(cellsFrom (L+1) scope.names []).lookup q.1
theorem fP{L b:Addr}{scope:Scope}(h:cellOf L scope b):b∈dJ L scope:=by
 obtain⟨y,hy⟩:=h
 exact List.mem_filterMap.mpr ⟨(y,b),PySem.mem_of_lookup hy,hy⟩
theorem iX{L b:Addr}{scope:Scope}(h:b∈dJ L scope):cellOf L scope b:=by
 obtain⟨⟨y,c⟩,_,h1⟩:=List.mem_filterMap.mp h
 exact⟨y,h1⟩
structure Rdy(X:Cx)(pins:List (Addr×Obj))(rows:List (List Str))(C L:Addr)(scope:Scope)(fr:GenState)(ga:Addr)(go:Obj)(gi n:Nat)(own:List Addr)(H:Hp)(s:Shared):Prop where
 gen:∃gs,s.gens[gi]? =some gs∧((n=rows.length∧gs=fr∧own=L::dJ L scope∧Nov L scope ga go s.heap)∨(n<rows.length∧∃J R refs,own=aR L J R (refs.drop (rows.length-n))∧Au X.prog X.w X.base rows C L (cellOf L scope) J R refs n gs∧Sleeps s.heap L J R refs rows (rows.length-n)))
 obj:s.heap.get? ga=some go
 young:∀b∈ga::own,Young X pins H b
 ne:∀b∈own,b≠ga
section
variable {X:Cx}{pins:List (Addr×Obj)}{σ:L2.St}{H H':Hp}{s s':Shared}{rows:List (List Str)}{C L ga:Addr}{scope:Scope}{fr:GenState}{go:Obj}{gi n:Nat}{own:List Addr}
theorem Rdy.move(r:Rdy X pins rows C L scope fr ga go gi n own H s)(kp:∀b∈ga::own,∀o,s.heap.get? b=some o→s'.heap.get? b=some o)(hg:∀gs,s.gens[gi]? =some gs→s'.gens[gi]? =some gs)(hn:∀b∈ga::own,H' b=none):Rdy X pins rows C L scope fr ga go gi n own H' s':=by
 obtain⟨gs,h1,h2⟩:=r.gen
 refine⟨⟨gs,hg gs h1,?_⟩,kp ga Jf _ r.obj,fun b hb=>let y:=r.young b hb;⟨y.s0,y.loc,y.cel,y.pin,y.fs,hn b hb⟩,r.ne⟩
 rcases h2 with⟨e1,e2,e3,nv⟩| ⟨e1,J,R,refs,e2,as,sl⟩
 ·refine .inl ⟨e1,e2,e3,kp ga Jf _ nv.at_,?_,?_⟩
  ·obtain⟨m,h⟩:=nv.ns
   exact⟨m,h.at' fun o e=>kp L (Je _ (by rw[e3];exact Jf)) o e⟩
  ·obtain⟨cm,h⟩:=nv.cells
   refine⟨cm,fun x c e=>?_⟩
   obtain⟨o,ho,hd⟩:=h x c e
   exact⟨o,kp c (Je _ (by rw[e3];exact Je _ (fP ⟨x,e⟩))) o ho,hd⟩
 ·exact .inr ⟨e1,J,R,refs,e2,as,sl.move fun b hb o e=>kp b (Je _ (by rw[e2];exact hb)) o e⟩
theorem iB{J R:Addr}{refs:List Value}{i:Nat}{h:Heap}(sl:Sleeps h L J R refs rows i):∀b∈aR L J R (refs.drop i),∃o,h.get? b=some o∧∀v,o.data≠ .cell v:=fun b hb=>by
 rcases Jj.mp hb with z|hb
 ·subst z
  obtain⟨m,o,es,ep,eo,eod,_⟩:=sl.ns
  exact⟨o,eo,fun v z=>by rw[eod] at z;cases z⟩
 rcases Jj.mp hb with z|hb
 ·subst z
  obtain⟨o,eo,ho⟩:=sl.it
  exact⟨o,eo,fun v z=>by
   rw[z] at ho
   simp at ho⟩
 rcases Jj.mp hb with z|hb
 ·subst z
  obtain⟨o,eo,co,n,ho⟩:=sl.lst
  exact⟨o,eo,fun v z=>by rw[ho] at z;cases z⟩
 ·obtain⟨j,hj⟩:=List.getElem?_of_mem (aY.mp hb)
  obtain⟨_,_,a,_,ea,⟨o,eo,co,n,ho⟩,_⟩:=sl.tup.at_ hj
  cases ea
  exact⟨o,eo,fun v z=>by rw[ho] at z;cases z⟩
theorem Rdy.there(r:Rdy X pins rows C L scope fr ga go gi n own H s)(hn:n<rows.length)(hgg:∀v,go.data≠ .cell v):∀b∈ga::own,∃o,s.heap.get? b=some o∧∀v,o.data≠ .cell v:=by
 obtain⟨gs,h1,h2⟩:=r.gen
 rcases h2 with⟨e1,_⟩| ⟨e1,J,R,refs,e2,as,sl⟩
 ·exact absurd e1 (Jm hn)
 ·intro b hb
  rcases Jj.mp hb with z|hb
  ·rw[z]
   exact⟨go,r.obj,hgg⟩
  ·rw[e2] at hb
   exact iB sl b hb
end
section
variable {rows:List (List Str)}{C L:Addr}{cell:Addr→Prop}{i:Nat}{s₀ s:Shared}{v:Value}{J R T dx t:Addr}{refs:List Value}
theorem ik:∀b∈aR L J R (refs.drop (i+1)),b∈aR L J R (refs.drop i):=fun b hb=>by
 rcases Jj.mp hb with z|hb
 ·exact z▸Jf
 rcases Jj.mp hb with z|hb
 ·exact z▸Je _ Jf
 rcases Jj.mp hb with z|hb
 ·exact z▸Je _ (Je _ Jf)
 ·refine Je _ (Je _ (Je _ (aY.mpr ?_)))
  have:=aY.mp hb
  rw[← List.drop_drop] at this
  exact List.mem_of_mem_drop this
theorem qW(wk:Woke rows C L cell i s₀ v s J R refs T dx t):∀b∈aR L J R (refs.drop (i+1)),b≠t∧b<T∧b<dx:=fun b hb=>by
 have lt:=wk.newO b (ik b hb)
 have tref:Value.ref t∈refs:=Js wk.ref
 obtain⟨row',its,_,⟨ot,eot,cot,_,dot⟩,_⟩:=wk.row
 rcases Jj.mp hb with z|hb
 ·subst z
  exact⟨Jm (wk.sl.at_ t tref).1,lt.1,lt.2⟩
 rcases Jj.mp hb with z|hb
 ·subst z
  exact⟨Ne.symm (wk.sl.at_ t tref).2,lt.1,lt.2⟩
 rcases Jj.mp hb with z|hb
 ·subst z
  obtain⟨o,eo,co,n,ho⟩:=wk.sl.lst
  refine⟨fun z=>?_,lt.1,lt.2⟩
  rw[z,eot] at eo
  rw[Jq eo,co] at cot
  exact absurd cot (by decide)
 ·exact⟨(ij wk.ref wk.sl.nd).2 b hb,lt.1,lt.2⟩
end
section
variable {X:Cx}{pins:List (Addr×Obj)}{σ:L2.St}{H:Hp}{s:Shared}{rows:List (List Str)}{C L ga:Addr}{scope:Scope}{fr:GenState}{go:Obj}{gi n:Nat}{own:List Addr}{B:Around}{Q E:Value→Shared→Prop}
def HH(X:Cx)(rows:List (List Str))(C L:Addr)(scope:Scope)(fr:GenState)(ga:Addr)(go:Obj):Prop:=∀A s,Room 2 A→Kept X.base s.heap→Nov L scope ga go s.heap→
 iz (model X.prog X.w) A (fun _ _=>False) (fun v gs' s'=>∃J R refs,(∃T dx t,Woke rows C L (cellOf L scope) 0 s v s' J R refs T dx t)∧(∀b∈J::R::bp refs,s.heap.objs.size≤b)∧Au X.prog X.w X.base rows C L (cellOf L scope) J R refs (rows.length-1) gs') fr s
theorem oa(hh:B.handled=none)(hroom:B.depth<recursionLimit)(hr:Room 2 B.in1)(hgen:∀h:Heap,h.get? ga=some go→h.IsGen ga gi)(hgc:go.cls= .type "generator")(small:∀row∈rows,row.length<1000)(FW:HH X rows C L scope fr ga go)
  (I:L2.Inv X pins σ H s) (r:Rdy X pins rows C L scope fr ga go gi (n+1) own H s)
  (hQ:∀T dx t o row own' s1,rows[rows.length- (n+1)]? =some row→o.dict=none→H T=none→H dx=none→H t=none→dx≠T→t≠T→t≠dx→s.heap.objs.size≤T→s.heap.objs.size≤dx→(t∈own∨s.heap.objs.size≤t)→(∀b o,b∉own→s.heap.get? b=some o→s1.heap.get? b=some o)→
   (∀b∈own',b∈own∨s.heap.objs.size≤b)→(∀j gs,j≠gi→s.gens[j]? =some gs→s1.gens[j]? =some gs)→L2.Inv X pins σ (aG H C T dx t o row) s1→Rdy X pins rows C L scope fr ga go gi n own' (aG H C T dx t o row) s1→Q (.ref T) s1):
  wpAny (model X.prog X.w) B (Builtin.SmallTypes.nextOf (.ref ga)) Q E s:=by
 have I0:L2.Inv X pins σ H (s.setGen gi .running):=b9 I (allBare_setGen I.bare rfl)
 have gal:ga<s.heap.objs.size:=Heap.lt_size r.obj
 obtain⟨gs,hgs,hc⟩:=r.gen
 have gl:gi<s.gens.size:=(Array.getElem?_eq_some_iff.mp hgs).1
 have hn1:n+1≤rows.length:=by
  rcases hc with⟨e,_⟩| ⟨e,_⟩<;>omega
 have hi1:rows.length-n=rows.length- (n+1)+1:=by omega
 have fin:∀ (J R:Addr) (refs:List Value) (T dx t:Addr) (v:Value) (s₁:Shared) (gs':GenState),gs'.bare=true→Woke rows C L (cellOf L scope) (rows.length- (n+1)) (s.setGen gi .running) v s₁ J R refs T dx t→
   (∀b∈aR L J R (refs.drop (rows.length- (n+1))),b∈own∨s.heap.objs.size≤b)→L∈own→(rows.length- (n+1)=0→∀b∈dJ L scope,b∈own)→Au X.prog X.w X.base rows C L (cellOf L scope) J R refs n gs'→Q v (s₁.setGen gi gs'):=by
  intro J R refs T dx t v s₁ gs' hb wk ho hL hcl as
  obtain⟨tm,tnd⟩:=ij wk.ref wk.sl.nd
  have yall:∀b∈aR L J R (refs.drop (rows.length- (n+1))),Young X pins H b:=fun b hb=>by
   rcases ho b hb with z|z
   ·exact r.young b (Je _ z)
   ·exact .of_new I z
  have nega:∀b∈aR L J R (refs.drop (rows.length- (n+1))),b≠ga:=fun b hb=>by
   rcases ho b hb with z|z
   ·exact r.ne b z
   ·exact JA (Jk gal z)
  have mJ:J∈aR L J R (refs.drop (rows.length- (n+1))):=Je _ Jf
  have town:t∈aR L J R (refs.drop (rows.length- (n+1))):=Je _ (Je _ (Je _ tm))
  have nt:=wk.newO t town
  have bare0:AllBare s₁.gens:=by
   obtain⟨h',tk,es⟩:=wk.only
   rw[es]
   exact I0.bare
  obtain⟨o,row,erow,dno,I2⟩:=ka I0 wk (if rows.length- (n+1)=0 then dJ L scope else[]) (fun z b hb=>by rw[if_pos z];exact fP hb) small (yall L Jf) (yall J mJ) (fun b hb=>by
   split at hb
   ·next z=>exact r.young b (Je _ (hcl z b hb))
   ·cases hb) (yall t town) nt bare0
  have yT:Young X pins H T:=.of_new I wk.newT
  have yD:Young X pins H dx:=.of_new I wk.newD
  have ap:=qW wk
  have kp:∀b o,b∉own→s.heap.get? b=some o→s₁.heap.get? b=some o:=fun b o nb e=>by
   have lt:=Heap.lt_size e
   refine wk.keep b o (fun z=>nb (z▸hL)) (fun z=>?_) (fun z0 z=>nb (hcl z0 b (fP z))) e
   rcases ho J mJ with y|y
   ·exact nb (z▸y)
   ·rw[z] at lt
    exact absurd lt (Nat.not_lt.mpr y)
  have I3:L2.Inv X pins σ (aG H C T dx t o row) (s₁.setGen gi gs'):=b9 I2 (allBare_setGen I2.bare hb)
  have gsz:s₁.gens=(s.setGen gi .running).gens:=by
   obtain⟨h',tk,es⟩:=wk.only
   rw[es]
  have no:∀b,b≠T→b≠dx→b≠t→H b=none→aG H C T dx t o row b=none:=fun b h1 h2 h3 e=>by
   unfold aG
   rw[upd_ne h1,upd_ne h2,upd_ne h3]
   exact e
  have ev:=wk.val
  rw[ev]
  refine hQ T dx t o row (aR L J R (refs.drop (rows.length- (n+1)+1))) _ erow dno yT.no yD.no (yall t town).no wk.tab.ne (Jm nt.1) (Jm nt.2) wk.newT wk.newD (ho t town) kp (fun b hb=>ho b (ik b hb)) (fun j gs hj e=>?_) I3 ⟨⟨gs',setGen_at (by rw[gsz];rw[setGen_size];exact gl),.inr ⟨by omega,J,R,refs,by rw[hi1],as,by rw[hi1];exact wk.sl⟩⟩,?_,fun b hb=>?_,fun b hb=>nega b (ik b hb)⟩
  ·show(s₁.gens.setIfInBounds gi gs')[j]? =some gs
   rw[gsz,Array.getElem?_setIfInBounds_ne (Ne.symm hj)]
   show(s.gens.setIfInBounds gi .running)[j]? =some gs
   rw[Array.getElem?_setIfInBounds_ne (Ne.symm hj)]
   exact e
  ·exact wk.keep ga go (Ne.symm (nega L Jf)) (Ne.symm (nega J mJ)) (fun z0 z=>r.ne ga (hcl z0 ga (fP z)) rfl) r.obj
  ·rcases Jj.mp hb with z|hb
   ·rw[z]
    have y:=r.young ga Jf
    refine⟨y.s0,y.loc,y.cel,y.pin,y.fs,no ga (Jm (Jk gal wk.newT)) (Jm (Jk gal wk.newD)) (Ne.symm (nega t town)) y.no⟩
   ·have y:=yall b (ik b hb)
    obtain⟨h1,h2,h3⟩:=ap b hb
    exact⟨y.s0,y.loc,y.cel,y.pin,y.fs,no b (Jm h2) (Jm h3) h1 y.no⟩
 rcases hc with⟨e1,e2,e3,nv⟩| ⟨e1,J,R,refs,e2,as,sl⟩
 ·subst e2
  have ez:rows.length- (n+1)=0:=by omega
  have en:rows.length-1=n:=by omega
  refine mH hh I.nolimit hroom (hgen _ r.obj) hgs (FW B.in1 (s.setGen gi .running) hr (fun b o e=>I0.bk b o e) nv) (fun _ _ z=>z.elim) (fun v s₁ gs' hb hy=>?_) fun _ _ z=>z.elim
  obtain⟨J,R,refs,⟨T,dx,t,wk⟩,new,as⟩:=hy
  rw[en] at as
  refine fin J R refs T dx t v s₁ gs' hb (by rw[ez];exact wk) (fun b hb=>?_) (by rw[e3];exact Jf) (fun _ b hb=>by rw[e3];exact Je _ hb) as
  rw[ez] at hb
  rcases Jj.mp hb with z|hb
  ·exact .inl (by rw[e3,z];exact Jf)
  ·exact .inr (new b hb)
 ·refine mH hh I.nolimit hroom (hgen _ r.obj) hgs (as.2 B.in1 (s.setGen gi .running) hr sl (fun b o e=>I0.bk b o e)) (fun _ _ z=>z.elim) (fun v s₁ gs' hb hy=>?_) fun _ _ z=>z.elim
  obtain⟨⟨T,dx,t,wk⟩,as'⟩:=hy
  exact fin J R refs T dx t v s₁ gs' hb wk (fun b hb=>.inl (by rw[e2];exact hb)) (by rw[e2];exact Jf) (fun z=>absurd z (by omega)) as'
theorem vD(hh:B.handled=none)(hroom:B.depth<recursionLimit)(hr:Room 2 B.in1)(hgen:∀h:Heap,h.get? ga=some go→h.IsGen ga gi)(many:0<rows.length)
  (I:L2.Inv X pins σ H s) (r:Rdy X pins rows C L scope fr ga go gi 0 own H s)
  (hE:∀e o s1,s1.heap.get? e=some o→o.cls= .type "StopIteration"→(∀b o,b∉own→s.heap.get? b=some o→s1.heap.get? b=some o)→L2.Inv X pins σ H s1→E (.ref e) s1):
  wpAny (model X.prog X.w) B (Builtin.SmallTypes.nextOf (.ref ga)) Q E s:=by
 have I0:L2.Inv X pins σ H (s.setGen gi .running):=b9 I (allBare_setGen I.bare rfl)
 obtain⟨gs,hgs,hc⟩:=r.gen
 rcases hc with⟨e1,_⟩| ⟨e1,J,R,refs,e2,as,sl⟩
 ·omega
 ·refine mH hh I.nolimit hroom (hgen _ r.obj) hgs (as.2 B.in1 (s.setGen gi .running) hr sl (fun b o e=>I0.bk b o e)) (fun _ _ z=>z.1) (fun _ _ _ _ z=>z.elim) fun x s₁ hp h' e o hk eo co=>?_
  obtain⟨_,only,kp⟩:=hp
  have mL:L∈own:=by rw[e2];exact Jf
  have mJ:J∈own:=by rw[e2];exact Je _ Jf
  have If:=mw I0 only kp (r.young L (Je _ mL)) (r.young J (Je _ mJ))
  refine hE e o _ eo co (fun b o nb e=>hk b o (kp b o (fun z=>nb (z▸mL)) (fun z=>nb (z▸mJ)) e)) ?_
  exact If.call' (ch:=[]) rfl (Un.kept hk) (If.hok.kept hk) (allBare_setGen If.bare rfl) fun b z=>by simp at z
end
section
variable {X:Cx}{pins:List (Addr×Obj)}{σ:L2.St}{H:Hp}{s s':Shared}
theorem eJ{ch:List Addr}(I:L2.Inv X pins σ H s)(yc:∀b∈ch,Young X pins H b)(os:s'.os=s.os)(hb:AllBare s'.gens)(keep:∀b o,b∉ch→s.heap.get? b=some o→s'.heap.get? b=some o):L2.Inv X pins σ H s':=by
 have I0:L2.Inv X (pins++[]) σ H s:=by rw[JC];exact I
 have:=nJ (gp':=[]) I0 yc os hb keep fun p hp=>nomatch hp
 rw[JC] at this
 exact this
theorem A6{p:Addr}{o:Obj}{its:Array Value}{vs:List V}{n:Nat}(I:L2.Inv X pins σ H s)(y:Young X pins H p)(e:s.heap.get? p=some o)(hc:o.cls= .type "tuple")(hd:o.data= .seq its n)(r:Vals vs its.toList)(hz:vs.length≤sizeLine):L2.Inv X pins σ (upd H p (.frz o (.tup vs))) s:=by
 have Hk:∀b u,H b=some u→(upd H p (.frz o (.tup vs))) b=some u:=fun b u e=>by
  rw[upd_ne (ne_of_none e y.no)];exact e
 refine I.call' (s':=s) (ch:=[p]) rfl ⟨fun b o e _ _ hx=>e,fun b o e _ _ hx=>⟨o.slots,e⟩,fun b o e n hx=>?_,fun b o e hx=>⟨o,e⟩,fun b xs e=>Hk b _ e,fun b o u e=>Hk b _ e,fun b ps e=>⟨#[],by rw[Hk b _ e];simp⟩⟩ (fun b u q=>?_) I.bare fun b hb=>by
  rw[Jg.mp hb]
  exact⟨.inr y.s0,y.loc,y.cel,y.pin⟩
 ·rw[upd_ne fun z=>hx (by rw[z];exact Jg.mpr rfl)];exact n
 ·by_cases hb:b=p
  ·subst hb
   rw[upd_same] at q
   cases q
   exact⟨e,hz,its.toList,r,o,e,hc,n,by simpa using hd⟩
  ·rw[upd_ne hb] at q
   exact(I.hok b u q).stay (fun _ _ _ z=>z) (fun d z=>Hk d _ z) fun d xs z=>Hk d _ z
theorem tK{tg:Expr}{body:List Stmt}{gt:TG}{tb:TS}{D:Ends}{x:V}{v:Value}(hg:PG X.nox tg gt)(hb:PSs X.nox body tb)(I:L2.Inv X pins σ H s)(r:L2.RelV x v)(h:gt x σ H fun σ2 H2=>tb D σ2 H2){E1 E2:Value→Shared→Prop}:
  wpAny (model X.prog X.w) X.A (assign tg X.env v) (fun _ s2=>wpAny (model X.prog X.w) X.A (execs body X.env) (fun f s3=>SP X pins D f s3∧∀ (g:Nat) (gs:GenState),D9 gs→s.gens[g]? =some gs→s3.gens[g]? =some gs) E2 s2) E1 s:=by
 refine wpAny_mono (ck (hg.run pins (fU s) σ H x v _ (dI (I.wish _)) r h)) (fun _ s2 h2=>?_) fun e s2 h2=>?_
 ·obtain⟨s1,hd,rfl,σ2,H2,I2,q2⟩:=h2
  have I2':=bw I.bare I2
  refine wpAny_mono (ck (hb.run pins (fU (rest s.gens s1)) σ2 H2 D (dI I2') q2)) (fun f s3 h3=>?_) fun e s3 h3=>?_
  ·obtain⟨s4,hd4,rfl,q⟩:=h3
   refine⟨?_,fun g gs ⟨k,l,c,p,fs,cl,eg⟩ e=>by rw[eg] at e ⊢;exact cV hd4 (cV hd e)⟩
   have q:=q.unwish
   cases f with
   |next=>obtain⟨σ',H',J,z⟩:=q;exact⟨σ',H',bw I2'.bare J,z⟩
   |brk=>obtain⟨σ',H',J,z⟩:=q;exact⟨σ',H',bw I2'.bare J,z⟩
   |cont=>obtain⟨σ',H',J,z⟩:=q;exact⟨σ',H',bw I2'.bare J,z⟩
   |ret u=>obtain⟨w,σ',H',J,rr,z⟩:=q;exact⟨w,σ',H',bw I2'.bare J,rr,z⟩
  ·obtain⟨_,_,_,z⟩:=h3
   exact False.elim z
 ·obtain⟨_,_,_,z⟩:=h2
  exact False.elim z
variable {rows:List (List Str)}{C L ga:Addr}{scope:Scope}{fr:GenState}{go:Obj}{gi n:Nat}{own:List Addr}
theorem Rdy.low(r:Rdy X pins rows C L scope fr ga go gi n own H s):∀b∈ga::own,b<s.heap.objs.size:=by
 obtain⟨gs,h1,h2⟩:=r.gen
 intro b hb
 rcases Jj.mp hb with z|hb
 ·rw[z];exact Heap.lt_size r.obj
 rcases h2 with⟨e1,e2,e3,nv⟩| ⟨e1,J,R,refs,e2,as,sl⟩
 ·rw[e3] at hb
  rcases Jj.mp hb with z|hb
  ·obtain⟨m,o,_,_,e,_⟩:=nv.ns
   rw[z];exact Heap.lt_size e
  ·obtain⟨y,hy⟩:=iX hb
   obtain⟨cm,hc⟩:=nv.cells
   obtain⟨o,e,_⟩:=hc y b hy
   exact Heap.lt_size e
 ·rw[e2] at hb
  obtain⟨o,e,_⟩:=iB sl b hb
  exact Heap.lt_size e
theorem Rdy.sus(r:Rdy X pins rows C L scope fr ga go gi n own H s)(hn:n<rows.length):∃gs,D9 gs∧s.gens[gi]? =some gs:=by
 obtain⟨gs,h1,h2⟩:=r.gen
 rcases h2 with⟨e1,_⟩| ⟨e1,J,R,refs,e2,as,sl⟩
 ·exact absurd e1 (Jm hn)
 ·exact⟨gs,as.sus,h1⟩
end
def fh(H:Hp)(C T1 dx1 t1:Addr)(o1:Obj)(T2 dx2 t2:Addr)(o2:Obj)(Tp:Addr)(op:Obj)(row:List Str):Hp:=upd (aG (aG H C T1 dx1 t1 o1 row) C T2 dx2 t2 o2 row) Tp (.frz op (.tup [.ref T1,.ref T2]))
def BD(C:Addr)(rows:List (List Str))(gt:TG)(tb:TS):TS:=fun D σ H=>∃W:Nat→L2.St→Hp→Prop,W 0 σ H∧
 (∀i row σ H T1 dx1 t1 o1 T2 dx2 t2 o2 Tp op,rows[i]? =some row→o1.dict=none→o2.dict=none→op.dict=none→W i σ H→H T1=none→H dx1=none→H t1=none→dx1≠T1→t1≠T1→t1≠dx1→
  aG H C T1 dx1 t1 o1 row T2=none→aG H C T1 dx1 t1 o1 row dx2=none→aG H C T1 dx1 t1 o1 row t2=none→dx2≠T2→t2≠T2→t2≠dx2→aG (aG H C T1 dx1 t1 o1 row) C T2 dx2 t2 o2 row Tp=none→
  gt (.ref Tp) σ (fh H C T1 dx1 t1 o1 T2 dx2 t2 o2 Tp op row) fun σ2 H2=>tb { D with nx:=W (i+1),ct:=W (i+1),bk:=D.nx} σ2 H2)∧
 ∀σ H,W rows.length σ H→D.nx σ H
section
variable {X:Cx}{pins:List (Addr×Obj)}{rows:List (List Str)}{C L1 L2' ga1 ga2 z TI TO:Addr}{scope:Scope}{fr1 fr2:GenState}{go1 go2:Obj}{gi1 gi2:Nat}{W:Nat→L2.St→Hp→Prop}
def Hq(X:Cx)(pins:List (Addr×Obj))(rows:List (List Str))(C L1 L2' ga1 ga2 z TI TO:Addr)(scope:Scope)(fr1 fr2:GenState)(go1 go2:Obj)(gi1 gi2:Nat)(W:Nat→L2.St→Hp→Prop)(n:Nat)(s:Shared):Prop:=∃σ H own1 own2 a1 a2,n≤rows.length∧W (rows.length-n) σ H∧L2.Inv X pins σ H s∧
 Rdy X pins rows C L1 scope fr1 ga1 go1 gi1 n own1 H s∧Rdy X pins rows C L2' scope fr2 ga2 go2 gi2 n own2 H s∧IsZip s.heap z TI TO .none∧IsTupOf2 s.heap TI (.ref ga1) (.ref ga2)∧IsTupOf2 s.heap TO a1 a2∧(∀b∈[z,TI,TO],Young X pins H b)∧
 (∀b∈own1,b∉[z,TI,TO,ga2]∧b∉own2)∧∀b∈own2,b∉[z,TI,TO,ga1]
theorem wF{tg:Expr}{elts:List Expr}{x1:Nat}{tpos:Pos}{body:List Stmt}{gt:TG}{tb:TS}{D:Ends}(etg:tg= .Tuple elts x1 tpos)(hc:X.A.handled=none)(hr:RoomG 5 X.A)(hg:PG X.nox tg gt)(hb:PSs X.nox body tb)(many:0<rows.length)(small:∀row∈rows,row.length<1000)
  (hgen1:∀h:Heap,h.get? ga1=some go1→h.IsGen ga1 gi1) (hgen2:∀h:Heap,h.get? ga2=some go2→h.IsGen ga2 gi2) (hgg1:go1.cls= .type "generator"∧∀v,go1.data≠ .cell v) (hgg2:go2.cls= .type "generator"∧∀v,go2.data≠ .cell v) (FW1:HH X rows C L1 scope fr1 ga1 go1) (FW2:HH X rows C L2' scope fr2 ga2 go2)
  (gne:gi1≠gi2) (ane:ga1∉[z,TI,TO,ga2]) (ane2:ga2∉[z,TI,TO]) (zne:z≠TI∧z≠TO∧TI≠TO)
  (wstep:∀i row σ H T1 dx1 t1 o1 T2 dx2 t2 o2 Tp op,rows[i]? =some row→o1.dict=none→o2.dict=none→op.dict=none→W i σ H→H T1=none→H dx1=none→H t1=none→dx1≠T1→t1≠T1→t1≠dx1→
   aG H C T1 dx1 t1 o1 row T2=none→aG H C T1 dx1 t1 o1 row dx2=none→aG H C T1 dx1 t1 o1 row t2=none→dx2≠T2→t2≠T2→t2≠dx2→aG (aG H C T1 dx1 t1 o1 row) C T2 dx2 t2 o2 row Tp=none→
   gt (.ref Tp) σ (fh H C T1 dx1 t1 o1 T2 dx2 t2 o2 Tp op row) fun σ2 H2=>tb { D with nx:=W (i+1),ct:=W (i+1),bk:=D.nx} σ2 H2)
  (wend:∀σ H,W rows.length σ H→D.nx σ H) (n:Nat) (s:Shared) (hJ:Hq X pins rows C L1 L2' ga1 ga2 z TI TO scope fr1 fr2 go1 go2 gi1 gi2 W n s) {E1 E2 E3 E4 E5:Value→Shared→Prop}:
  wpAny (model X.prog X.w) X.A (pyNext (.ref z)) (fun r s₁=>match r with
   |none=>wpAny (model X.prog X.w) X.A (execs [] X.env) (fun f s₃=>SP X pins D f s₃) E1 s₁
   |some v=>wpAny (model X.prog X.w) X.A (letOwnedTupleGo tg (.ref z) v) (fun _ s₁'=>wpAny (model X.prog X.w) X.A (assign tg X.env v) (fun _ s₂=>wpAny (model X.prog X.w) X.A (execs body X.env) (fun f s₃=>match f with
      | .next| .cont=>∃m,m<n∧Hq X pins rows C L1 L2' ga1 ga2 z TI TO scope fr1 fr2 go1 go2 gi1 gi2 W m s₃
      | .brk=>SP X pins D .next s₃
      | .ret v=>SP X pins D (.ret v) s₃) E2 s₂) E3 s₁') E4 s₁) E5 s:=by
 obtain⟨σ,H,own1,own2,a1,a2,hn,w0,I,r1,r2,hz,hTI,hTO,yz,ap1,ap2⟩:=hJ
 have yZ:Young X pins H z:=yz z (by simp)
 have yTI:Young X pins H TI:=yz TI (by simp)
 have yTO:Young X pins H TO:=yz TO (by simp)
 have hh:X.A.in1.handled=none:=hc
 have hroom:X.A.in1.depth<recursionLimit:=hr.room.in1.depth
 have hr2:Room 2 X.A.in1.in1:=(hr.in1.in1.room).mono (by omega)
 refine pB (a1:=a1) (a2:=a2) hz hTI fun g0 hz0 hs0=>?_
 have kA:∀b o,b≠z→s.heap.get? b=some o→g0.get? b=some o:=fun b o hb e=>hs0.extBut b o hb e
 have IA:L2.Inv X pins σ H { s with heap:=g0}:=eJ (ch:=[z]) I (fun b hb=>(Jg.mp hb)▸yZ) rfl I.bare fun b o hb e=>kA b o (fun q=>hb (by rw[q];exact Jg.mpr rfl)) e
 have z1:∀b∈ga1::own1,b≠z∧b≠TI∧b≠TO:=fun b hb=>by
  rcases Jj.mp hb with q|hb
  ·rw[q]
   exact⟨fun q=>ane (by rw[q];simp),fun q=>ane (by rw[q];simp),fun q=>ane (by rw[q];simp)⟩
  ·have:=(ap1 b hb).1
   exact⟨fun q=>this (by rw[q];simp),fun q=>this (by rw[q];simp),fun q=>this (by rw[q];simp)⟩
 have z2:∀b∈ga2::own2,b≠z∧b≠TI∧b≠TO:=fun b hb=>by
  rcases Jj.mp hb with q|hb
  ·rw[q]
   exact⟨fun q=>ane2 (by rw[q];simp),fun q=>ane2 (by rw[q];simp),fun q=>ane2 (by rw[q];simp)⟩
  ·have:=ap2 b hb
   exact⟨fun q=>this (by rw[q];simp),fun q=>this (by rw[q];simp),fun q=>this (by rw[q];simp)⟩
 have rA1:Rdy X pins rows C L1 scope fr1 ga1 go1 gi1 n own1 H { s with heap:=g0}:=r1.move (fun b hb o e=>kA b o (z1 b hb).1 e) (fun gs e=>e) fun b hb=>(r1.young b hb).no
 have rA2:Rdy X pins rows C L2' scope fr2 ga2 go2 gi2 n own2 H { s with heap:=g0}:=r2.move (fun b hb o e=>kA b o (z2 b hb).1 e) (fun gs e=>e) fun b hb=>(r2.young b hb).no
 have hTO0:IsTupOf2 g0 TO a1 a2:=kA _ _ zne.2.1.symm hTO
 have hTI0:IsTupOf2 g0 TI (.ref ga1) (.ref ga2):=kA _ _ zne.1.symm hTI
 cases n with
 |zero=>
  refine vD hh hroom hr2 hgen1 many IA rA1 fun e o s1 eo co kp I1=>?_
  have nz1:z∉own1:=fun q=>(z1 z (Je _ q)).1 rfl
  have hzq:IsZip s1.heap z TI TO .ellipsis:=kp _ _ nz1 hz0
  refine⟨e,rfl,hzq,fun q' hq=>⟨⟨e,o,rfl,hq.extBut _ _ (fun q=>?_) eo,co⟩,wpAny_execs_nil ⟨σ,H,?_,wend σ H w0⟩⟩⟩
  ·rw[q,hzq] at eo
   cases eo
   simp at co
  ·exact eJ (ch:=[z]) I1 (fun b hb=>(Jg.mp hb)▸yZ) rfl I1.bare fun b o hb e=>hq.extBut _ _ (fun q=>hb (by rw[q];exact Jg.mpr rfl)) e
 |succ n=>
  have nz1:∀b∈[z,TI,TO],b∉ga1::own1:=fun b hb q=>by
   obtain⟨q1,q2,q3⟩:=z1 b q
   rcases Jj.mp hb with e|hb
   ·exact q1 e
   rcases Jj.mp hb with e|hb
   ·exact q2 e
   ·exact q3 (Jg.mp hb)
  have nz2:∀b∈[z,TI,TO],b∉ga2::own2:=fun b hb q=>by
   obtain⟨q1,q2,q3⟩:=z2 b q
   rcases Jj.mp hb with e|hb
   ·exact q1 e
   rcases Jj.mp hb with e|hb
   ·exact q2 e
   ·exact q3 (Jg.mp hb)
  have mz:z∈[z,TI,TO]:=by simp
  have mTI:TI∈[z,TI,TO]:=by simp
  have mTO:TO∈[z,TI,TO]:=by simp
  have lz:∀b∈[z,TI,TO],b<g0.objs.size:=fun b hb=>by
   rcases Jj.mp hb with e|hb
   ·rw[e];exact Heap.lt_size hz0
   rcases Jj.mp hb with e|hb
   ·rw[e];exact Heap.lt_size hTI0
   ·rw[Jg.mp hb];exact Heap.lt_size hTO0
  have lA1:∀b∈ga1::own1,b<g0.objs.size:=rA1.low
  have lA2:∀b∈ga2::own2,b<g0.objs.size:=rA2.low
  have n12:∀b∈ga2::own2,b∉own1:=fun b hb q=>by
   obtain⟨q1,q2⟩:=ap1 b q
   rcases Jj.mp hb with e|hb
   ·exact q1 (by rw[e];simp)
   ·exact q2 hb
  have n21:ga1∉own2:=fun q=>ap2 ga1 q (by simp)
  refine oa hh hroom hr2 hgen1 hgg1.1 small FW1 IA rA1 fun T1 dx1 t1 o1 row own1' s1 er ho1 n1 n2 n3 d1 d2 d3 sT sD tO kp1 ow1 gk1 I1 r1'=>?_
  have kp1:∀b o,b∉own1→g0.get? b=some o→s1.heap.get? b=some o:=kp1
  have sT:g0.objs.size≤T1:=sT
  have sD:g0.objs.size≤dx1:=sD
  have tO:t1∈own1∨g0.objs.size≤t1:=tO
  have ow1:∀b∈own1',b∈own1∨g0.objs.size≤b:=ow1
  refine⟨kp1 _ _ (fun q=>nz1 TO mTO (Je _ q)) hTO0,fun g1 hT1 hs1=>?_⟩
  have no1:∀b,b<g0.objs.size→b∉own1→H b=none→aG H C T1 dx1 t1 o1 row b=none:=fun b hb hn e=>by
   unfold aG
   rw[upd_ne (Jm (Jk hb sT)),upd_ne (Jm (Jk hb sD)),upd_ne fun q=>by
    rcases tO with y|y
    ·exact hn (q▸y)
    ·exact absurd hb (Nat.not_lt.mpr (q▸y))]
   exact e
  have yz1:∀b∈[z,TI,TO],Young X pins (aG H C T1 dx1 t1 o1 row) b:=fun b hb=>by
   have y:=yz b hb
   exact⟨y.s0,y.loc,y.cel,y.pin,y.fs,no1 b (lz b hb) (fun q=>nz1 b hb (Je _ q)) y.no⟩
  have kB:∀b o,b≠TO→s1.heap.get? b=some o→g1.get? b=some o:=fun b o hb e=>hs1.extBut b o hb e
  have IB:L2.Inv X pins σ (aG H C T1 dx1 t1 o1 row) { s1 with heap:=g1}:=eJ (ch:=[TO]) I1 (fun b hb=>(Jg.mp hb)▸yz1 TO mTO) rfl I1.bare fun b o hb e=>kB b o (fun q=>hb (by rw[q];exact Jg.mpr rfl)) e
  have z1':∀b∈ga1::own1',b≠z∧b≠TI∧b≠TO:=fun b hb=>by
   rcases Jj.mp hb with q|hb
   ·exact z1 b (q▸Jf)
   rcases ow1 b hb with q|q
   ·exact z1 b (Je _ q)
   ·exact⟨fun e=>JQ _ (Jk (lz z mz) (e▸q)),fun e=>JQ _ (Jk (lz TI mTI) (e▸q)),fun e=>JQ _ (Jk (lz TO mTO) (e▸q))⟩
  have rB1:Rdy X pins rows C L1 scope fr1 ga1 go1 gi1 n own1' (aG H C T1 dx1 t1 o1 row) { s1 with heap:=g1}:=r1'.move (fun b hb o e=>kB b o (z1' b hb).2.2 e) (fun gs e=>e) fun b hb=>(r1'.young b hb).no
  have rB2:Rdy X pins rows C L2' scope fr2 ga2 go2 gi2 (n+1) own2 (aG H C T1 dx1 t1 o1 row) { s1 with heap:=g1}:=rA2.move (fun b hb o e=>kB b o (z2 b hb).2.2 (kp1 b o (n12 b hb) e)) (fun gs e=>gk1 gi2 gs gne.symm e) fun b hb=>no1 b (lA2 b hb) (n12 b hb) (rA2.young b hb).no
  have hzB:IsZip g1 z TI TO .ellipsis:=kB _ _ zne.2.1 (kp1 _ _ (fun q=>nz1 z mz (Je _ q)) hz0)
  have hTIB:IsTupOf2 g1 TI (.ref ga1) (.ref ga2):=kB _ _ zne.2.2 (kp1 _ _ (fun q=>nz1 TI mTI (Je _ q)) hTI0)
  have lzB:∀b∈[z,TI,TO],b<g1.objs.size:=fun b hb=>by
   rcases Jj.mp hb with e|hb
   ·rw[e];exact Heap.lt_size hzB
   rcases Jj.mp hb with e|hb
   ·rw[e];exact Heap.lt_size hTIB
   ·rw[Jg.mp hb];exact Heap.lt_size hT1
  have lB1:∀b∈ga1::own1',b<g1.objs.size:=rB1.low
  have lB2:∀b∈ga2::own2,b<g1.objs.size:=rB2.low
  have n1'2:∀b∈ga1::own1',b∉own2:=fun b hb q=>by
   rcases Jj.mp hb with e|hb
   ·exact n21 (e▸q)
   rcases ow1 b hb with e|e
   ·exact(ap1 b e).2 q
   ·exact JQ _ (Jk (lA2 b (Je _ q)) e)
  refine oa hh hroom hr2 hgen2 hgg2.1 small FW2 IB rB2 fun T2 dx2 t2 o2 row2 own2' s2 er2 ho2 m1 m2 m3 c1 c2 c3 sT2 sD2 tO2 kp2 ow2 gk2 I2 r2'=>?_
  have kp2:∀b o,b∉own2→g1.get? b=some o→s2.heap.get? b=some o:=kp2
  have sT2:g1.objs.size≤T2:=sT2
  have sD2:g1.objs.size≤dx2:=sD2
  have tO2:t2∈own2∨g1.objs.size≤t2:=tO2
  have ow2:∀b∈own2',b∈own2∨g1.objs.size≤b:=ow2
  obtain rfl:row2=row:=by
   rw[er] at er2
   exact(Jq er2).symm
  have hz2:IsZip s2.heap z TI TO .ellipsis:=kp2 _ _ (fun q=>nz2 z mz (Je _ q)) hzB
  refine⟨kp2 _ _ (fun q=>nz2 TO mTO (Je _ q)) hT1,hz2,zne.2.1.symm,fun h' hz' hTO' hTp' kp3=>?_⟩
  subst etg
  refine wpAny_letOwnedTupleGo_zip hz' fun h'' hz'' hs''=>?_
  have hs'':Heap.SameBut z h' h'':=hs''
  have no2:∀b,b<g1.objs.size→b∉own2→aG H C T1 dx1 t1 o1 row2 b=none→aG (aG H C T1 dx1 t1 o1 row2) C T2 dx2 t2 o2 row2 b=none:=fun b hb hn e=>by
   unfold aG at e ⊢
   rw[upd_ne (Jm (Jk hb sT2)),upd_ne (Jm (Jk hb sD2)),upd_ne fun q=>by
    rcases tO2 with y|y
    ·exact hn (q▸y)
    ·exact absurd hb (Nat.not_lt.mpr (q▸y))]
   exact e
  have yz2:∀b∈[z,TI,TO],Young X pins (aG (aG H C T1 dx1 t1 o1 row2) C T2 dx2 t2 o2 row2) b:=fun b hb=>by
   have y:=yz1 b hb
   exact⟨y.s0,y.loc,y.cel,y.pin,y.fs,no2 b (lzB b hb) (fun q=>nz2 b hb (Je _ q)) y.no⟩
  have k3:∀b o,b≠z→b≠TO→s2.heap.get? b=some o→h''.get? b=some o:=fun b o h1 h2 e=>hs''.extBut b o h1 (kp3 b o h1 h2 e)
  have IC:L2.Inv X pins σ (aG (aG H C T1 dx1 t1 o1 row2) C T2 dx2 t2 o2 row2) { s2 with heap:=h''}:=eJ (ch:=[z,TO]) I2 (fun b hb=>by
   rcases Jj.mp hb with e|hb
   ·rw[e];exact yz2 z mz
   ·rw[Jg.mp hb];exact yz2 TO mTO) rfl I2.bare fun b o hb e=>k3 b o (fun q=>hb (by rw[q];simp)) (fun q=>hb (by rw[q];simp)) e
  have yTp:Young X pins (aG (aG H C T1 dx1 t1 o1 row2) C T2 dx2 t2 o2 row2) s2.heap.objs.size:=.of_new I2 (JD _)
  have hTp'':IsTupOf2 h'' s2.heap.objs.size (.ref T1) (.ref T2):=hs''.extBut _ _ (JA (Heap.lt_size hz2)) hTp'
  generalize hTp:s2.heap.objs.size=Tp at yTp hTp''
  have IP:L2.Inv X pins σ (fh H C T1 dx1 t1 o1 T2 dx2 t2 o2 Tp { cls:=.type "tuple",data:=.seq #[.ref T1,.ref T2]} row2) { s2 with heap:=h''}:=A6 IC yTp hTp'' rfl rfl (.cons rfl (.cons rfl .nil)) (by show 2≤sizeLine;decide)
  have hTI2:IsTupOf2 h'' TI (.ref ga1) (.ref ga2):=k3 _ _ zne.1.symm zne.2.2 (kp2 _ _ (fun q=>nz2 TI mTI (Je _ q)) hTIB)
  have hTO2:IsTupOf2 h'' TO (.ref T1) (.ref T2):=hs''.extBut _ _ zne.2.1.symm hTO'
  have rC1:Rdy X pins rows C L1 scope fr1 ga1 go1 gi1 n own1' (aG (aG H C T1 dx1 t1 o1 row2) C T2 dx2 t2 o2 row2) { s2 with heap:=h''}:=rB1.move (fun b hb o e=>k3 b o (z1' b hb).1 (z1' b hb).2.2 (kp2 b o (n1'2 b hb) e)) (fun gs e=>gk2 gi1 gs gne e) fun b hb=>no2 b (lB1 b hb) (n1'2 b hb) (rB1.young b hb).no
  have z2':∀b∈ga2::own2',b≠z∧b≠TI∧b≠TO:=fun b hb=>by
   rcases Jj.mp hb with q|hb
   ·exact z2 b (q▸Jf)
   rcases ow2 b hb with q|q
   ·exact z2 b (Je _ q)
   ·exact⟨fun e=>JQ _ (Jk (lzB z mz) (e▸q)),fun e=>JQ _ (Jk (lzB TI mTI) (e▸q)),fun e=>JQ _ (Jk (lzB TO mTO) (e▸q))⟩
  have rC2:Rdy X pins rows C L2' scope fr2 ga2 go2 gi2 n own2' (aG (aG H C T1 dx1 t1 o1 row2) C T2 dx2 t2 o2 row2) { s2 with heap:=h''}:=r2'.move (fun b hb o e=>k3 b o (z2' b hb).1 (z2' b hb).2.2 e) (fun gs e=>e) fun b hb=>(r2'.young b hb).no
  have hnl:n<rows.length:=hn
  let OA:List Addr:=(ga1::own1')++(ga2::own2')++[z,TI,TO]
  have yOA:∀b∈OA,Young X pins (fh H C T1 dx1 t1 o1 T2 dx2 t2 o2 Tp { cls:=.type "tuple",data:=.seq #[.ref T1,.ref T2]} row2) b∧∃o,h''.get? b=some o∧∀v,o.data≠ .cell v:=fun b hb=>by
   have np:∀ {b:Addr},b<s2.heap.objs.size→Young X pins (aG (aG H C T1 dx1 t1 o1 row2) C T2 dx2 t2 o2 row2) b→Young X pins (fh H C T1 dx1 t1 o1 T2 dx2 t2 o2 Tp { cls:=.type "tuple",data:=.seq #[.ref T1,.ref T2]} row2) b:=fun {b} lb y=>⟨y.s0,y.loc,y.cel,y.pin,y.fs,by
    unfold fh
    rw[upd_ne (Jm (hTp▸lb))]
    exact y.no⟩
   rcases Jv.mp hb with hb|hb
   ·rcases Jv.mp hb with hb|hb
    ·obtain⟨o,e,nc⟩:=rC1.there hnl hgg1.2 b hb
     obtain⟨ob,eb,_⟩:=rB1.there hnl hgg1.2 b hb
     exact⟨np (Heap.lt_size (kp2 b ob (n1'2 b hb) eb)) (rC1.young b hb),o,e,nc⟩
    ·obtain⟨o,e,nc⟩:=rC2.there hnl hgg2.2 b hb
     exact⟨np (r2'.low b hb) (rC2.young b hb),o,e,nc⟩
   ·rcases Jj.mp hb with e|hb
    ·rw[e]
     exact⟨np (Heap.lt_size hz2) (yz2 z mz),_,hz'',fun v q=>by cases q⟩
    rcases Jj.mp hb with e|hb
    ·rw[e]
     exact⟨np (Heap.lt_size (kp2 _ _ (fun q=>nz2 TI mTI (Je _ q)) hTIB)) (yz2 TI mTI),_,hTI2,fun v q=>by cases q⟩
    ·rw[Jg.mp hb]
     exact⟨np (Heap.lt_size (kp2 _ _ (fun q=>nz2 TO mTO (Je _ q)) hT1)) (yz2 TO mTO),_,hTO2,fun v q=>by cases q⟩
  have IQ:L2.Inv X (pins++pinsAt OA h'') σ (fh H C T1 dx1 t1 o1 T2 dx2 t2 o2 Tp { cls:=.type "tuple",data:=.seq #[.ref T1,.ref T2]} row2) { s2 with heap:=h''}:=IP.pins_of fun p hp=>by
   rcases Jv.mp hp with q|q
   ·exact IP.pin p (Ji _ q)
   ·obtain⟨hb,eo⟩:=of_pinsAt q
    obtain⟨y,o,e,nc⟩:=yOA p.1 hb
    rw[eo] at e
    exact⟨eo,y.no,y.loc,y.fs,Jq e▸nc⟩
  have hi1:rows.length- (n+1)+1=rows.length-n:=by omega
  have ws:=wstep (rows.length- (n+1)) row2 σ H T1 dx1 t1 o1 T2 dx2 t2 o2 Tp { cls:=.type "tuple",data:=.seq #[.ref T1,.ref T2]} er ho1 ho2 rfl w0 n1 n2 n3 d1 d2 d3 m1 m2 m3 c1 c2 c3 yTp.no
  rw[hi1] at ws
  refine wpAny_mono (tK (D:={ D with nx:=W (rows.length-n),ct:=W (rows.length-n),bk:=D.nx}) hg hb IQ (x:=.ref Tp) (by rw[← hTp];rfl) ws) (fun _ s6 h6=>wpAny_mono h6 (fun fl s7 h7=>?_) fun _ _ q=>q) fun _ _ q=>q
  obtain⟨h7,keepG⟩:=h7
  have again:∀ {σ7:L2.St} {H7:Hp},L2.Inv X (pins++pinsAt OA h'') σ7 H7 s7→W (rows.length-n) σ7 H7→∃m,m<n+1∧Hq X pins rows C L1 L2' ga1 ga2 z TI TO scope fr1 fr2 go1 go2 gi1 gi2 W m s7:=fun {σ7 H7} I7 w7=>by
   have pk:∀b∈OA,∀o,h''.get? b=some o→s7.heap.get? b=some o∧H7 b=none:=fun b hb o e=>by
    obtain⟨q1,q2,_⟩:=I7.pin (b,o) (Ji _ (Ji _ (mem_pinsAt hb e)))
    exact⟨q1,q2⟩
   have mo1:∀b∈ga1::own1',b∈OA:=fun b hb=>JN _ (JN _ hb)
   have mo2:∀b∈ga2::own2',b∈OA:=fun b hb=>JN _ (Ji _ hb)
   have mo3:∀b∈[z,TI,TO],b∈OA:=fun b hb=>Ji _ hb
   have hno:∀b∈OA,H7 b=none:=fun b hb=>by
    obtain⟨_,o,e,_⟩:=yOA b hb
    exact(pk b hb o e).2
   have gk:∀ {gi:Nat},(∃gs,D9 gs∧s2.gens[gi]? =some gs)→∀gs,s2.gens[gi]? =some gs→s7.gens[gi]? =some gs:=fun {gi} ⟨gs0,su,e0⟩ gs e=>by
    rw[e0] at e
    rw[← Jq e]
    exact keepG gi gs0 su e0
   refine⟨n,Nat.lt_succ_self n,σ7,H7,own1',own2',.ref T1,.ref T2,JI hnl,w7,I7.unpinned,rC1.move (fun b hb o e=>(pk b (mo1 b hb) o e).1) (gk (rC1.sus hnl)) (fun b hb=>hno b (mo1 b hb)),rC2.move (fun b hb o e=>(pk b (mo2 b hb) o e).1) (gk (rC2.sus hnl)) (fun b hb=>hno b (mo2 b hb)),
    (pk z (mo3 z mz) _ hz'').1,(pk TI (mo3 TI mTI) _ hTI2).1,(pk TO (mo3 TO mTO) _ hTO2).1,fun b hb=>?_,fun b hb=>⟨fun q=>?_,fun q=>?_⟩,fun b hb q=>?_⟩
   ·have y:=yz b hb
    exact⟨y.s0,y.loc,y.cel,y.pin,y.fs,hno b (mo3 b hb)⟩
   ·have z1b:=z1' b (Je _ hb)
    have q:b=z∨b=TI∨b=TO∨b=ga2:=by simpa using q
    rcases q with q|q|q|q
    ·exact z1b.1 q
    ·exact z1b.2.1 q
    ·exact z1b.2.2 q
    ·rcases ow1 b hb with y|y
     ·exact(ap1 b y).1 (by rw[q];simp)
     ·exact JQ _ (Jk (lA2 b (q▸Jf)) y)
   ·rcases ow2 b q with y|y
    ·exact n1'2 b (Je _ hb) y
    ·exact JQ _ (Jk (lB1 b (Je _ hb)) y)
   ·have z2b:=z2' b (Je _ hb)
    have q:b=z∨b=TI∨b=TO∨b=ga1:=by simpa using q
    rcases q with q|q|q|q
    ·exact z2b.1 q
    ·exact z2b.2.1 q
    ·exact z2b.2.2 q
    ·rcases ow2 b hb with y|y
     ·exact n21 (q▸y)
     ·exact JQ _ (Jk (lB1 b (q▸Jf)) y)
  cases fl with
  |next=>obtain⟨σ7,H7,I7,q7⟩:=h7;exact again I7 q7
  |cont=>obtain⟨σ7,H7,I7,q7⟩:=h7;exact again I7 q7
  |brk=>obtain⟨σ7,H7,I7,q7⟩:=h7;exact⟨σ7,H7,I7.unpinned,q7⟩
  |ret u=>obtain⟨v7,σ7,H7,I7,r7,q7⟩:=h7;exact⟨v7,σ7,H7,I7.unpinned,r7,q7⟩
end
end Ev.S1
namespace Ev.S1
open PySem PySem.Spec L2 PyProof.Rows GenW Ev.Ex LamX He
structure AllT1(P:Program)(w:World)(K:PySem.W.Frag)(mg:Str→Option Value)(base:Heap)(C:Addr)(x:Str)(rows:List (List Str)):Prop where
 ex:∃ (Ng:List Str) (f:Addr) (qual:Str) (body:List Stmt) (scope:Scope) (cdv:Value) (fd:FuncData) (oc:Value) (od:Option Addr) (osl:Array (Option Value)) (name:Str) (params:Arguments) (dV kV doc pm ct:Value) (an:Option Addr),
  fd=PySem.W.fnOf name qual params body scope dV kV doc pm an cdv ct∧K.lookup f=some ⟨oc,od,.func fd,osl⟩∧PySem.W.codeIn K cdv qual=true∧GScope Ng [] scope∧L2.Binds K fd [] []∧mg x=some (.ref f)∧PySem.W.keepIn K (.ref f)=true∧
  ∀ (A:Around) (L ga:Addr) (go:Obj) (s:Shared),Room 2 A→Fx K mg base→base.objs.size≤L→Kept base s.heap→Nov L scope ga go s.heap→(cellsFrom (L+1) scope.names []).Pairwise (fun x y=>x.2≠y.2)→(∀x c,(x,c)∈cellsFrom (L+1) scope.names []→L<c)→
   iz (model P w) A (fun _ _=>False) (fun v gs' s'=>∃J R refs,(∃T dx t,Woke rows C L (cellOf L scope) 0 s v s' J R refs T dx t)∧(∀b∈J::R::bp refs,s.heap.objs.size≤b)∧Au P w base rows C L (cellOf L scope) J R refs (rows.length-1) gs') (.fresh (.func body (envOfC qual scope L f cdv))) s
 many:1<rows.length
 small:∀row∈rows,row.length<1000
section
variable {X:Cx}{C:Addr}{x zn:Str}{rows:List (List Str)}{elts:List Expr}{x1:Nat}{tpos p p1 p2 pp1 pp2 pz pos:Pos}{body:List Stmt}{gt:TG}{tb:TS}
theorem Az(hc:X.calm=true)(hr:RoomG 5 X.A)(M:AllT1 X.prog X.w X.K X.mg X.base C x rows)(hgx:Gl X x)(hdb:(x==("__debug__":Str))=false)(hgz:Gl X zn)(hmz:X.mg zn=none)(hv:bootBuiltins zn=some (.type "zip"))(hnz:zn≠ "__name__")(hdz:(zn==("__debug__":Str))=false)
  (hg:PG X.nox (.Tuple elts x1 tpos) gt) (hb:PSs X.nox body tb) (hsf:∀y,foldedSetIterable (.Call (.Name zn p) [.Call (.Name x p1) [] [] pp1,.Call (.Name x p2) [] [] pp2] [] pz) X.env y=pure y)
  (he:starEach [(.Call (.Name x p1) [] [] pp1:Expr),.Call (.Name x p2) [] [] pp2] X.env=(false,eval (.Call (.Name x p1) [] [] pp1) X.env)::starEach [.Call (.Name x p2) [] [] pp2] X.env) (he2:starEach [(.Call (.Name x p2) [] [] pp2:Expr)] X.env=(false,eval (.Call (.Name x p2) [] [] pp2) X.env)::starEach [] X.env):
  PS X (.For (.Tuple elts x1 tpos) (.Call (.Name zn p) [.Call (.Name x p1) [] [] pp1,.Call (.Name x p2) [] [] pp2] [] pz) body [] pos) (BD C rows gt tb):=by
 obtain⟨Ng,f,qual,gb,scope,cdv,fd,oc,od,osl,name,params,dV,kV,doc,pm,ct,an,efd,lk,hcd,S,hbn,hm,hkp,walk⟩:=M.ex
 subst efd
 refine⟨fun pins s σ H D I ⟨W,w0,wstep,wend⟩=>?_⟩
 refine wpAny_For ?_ hsf
 refine wpAny_Call_Name_kw (ld_blt I hgz hmz hv ?_ hnz hdz)
 refine PyProof.Rows.callWith_type1 ?_ he (by rw[he2];rfl)
 rw[he,he2]
 show wpAny _ _ (spliced ((false,eval (.Call (.Name x p1) [] [] pp1) X.env)::(false,eval (.Call (.Name x p2) [] [] pp2) X.env)::backTo pz (starEach [] X.env))) _ _ s
 refine Calls.spliced_cons (il (hr.room.mono (by omega)) lk hcd S hbn hm hkp hgx hdb I fun ga1 gi1 go1 s1 B1 N1 I1=>?_)
 refine Calls.spliced_cons (il (hr.room.mono (by omega)) lk hcd S hbn hm hkp hgx hdb I1 fun ga2 gi2 go2 s2 B2 N2 I2=>?_)
 refine Calls.spliced_nil ?_
 have lga1:ga1<s1.heap.objs.size:=Heap.lt_size N1.at_
 have lga2:ga2<s2.heap.objs.size:=Heap.lt_size N2.at_
 have k12:Kept s1.heap s2.heap:=B2.keep
 refine tV (B1.isGen (k12 _ _ N1.at_)) (B2.isGen N2.at_) fun h' hz hTI hTO hk=>?_
 refine wpAny_pyIter_zip (s:={ s2 with heap:=h'}) hz ?_
 generalize hTIe:s2.heap.objs.size=TI at hz hTI hTO lga2
 have S1:s.heap.objs.size<s1.heap.objs.size:=JO B1.lt lga1
 have S2:s1.heap.objs.size<TI:=JO B2.lt lga2
 have gens1:s1.gens=s.gens.push (.fresh (.func gb (envOfC qual scope s.heap.objs.size f cdv))):=by
  obtain⟨_,_,es⟩:=B1.only
  rw[es]
 have gens2:s2.gens=s1.gens.push (.fresh (.func gb (envOfC qual scope s1.heap.objs.size f cdv))):=by
  obtain⟨_,_,es⟩:=B2.only
  rw[es]
 have I3:L2.Inv X pins σ H { s2 with heap:=h'}:=eJ (ch:=[]) I2 (fun b hb=>nomatch hb) rfl I2.bare fun b o _ e=>hk b o e
 have young:∀b,s.heap.objs.size≤b→Young X pins H b:=fun b hb=>.of_new I hb
 have c1:∀b∈dJ s.heap.objs.size scope,s.heap.objs.size<b∧b<ga1:=fun b hb=>by
  obtain⟨y,hy⟩:=iX hb
  exact⟨B1.ab y b (PySem.mem_of_lookup hy),B1.bl y b hy⟩
 have c2:∀b∈dJ s1.heap.objs.size scope,s1.heap.objs.size<b∧b<ga2:=fun b hb=>by
  obtain⟨y,hy⟩:=iX hb
  exact⟨B2.ab y b (PySem.mem_of_lookup hy),B2.bl y b hy⟩
 have o1:∀b∈s.heap.objs.size::dJ s.heap.objs.size scope,s.heap.objs.size≤b∧b<ga1:=fun b hb=>by
  rcases Jj.mp hb with e|hb
  ·exact⟨Nat.le_of_eq e.symm,e▸B1.lt⟩
  ·exact⟨JI (c1 b hb).1,(c1 b hb).2⟩
 have o2:∀b∈s1.heap.objs.size::dJ s1.heap.objs.size scope,s1.heap.objs.size≤b∧b<ga2:=fun b hb=>by
  rcases Jj.mp hb with e|hb
  ·exact⟨Nat.le_of_eq e.symm,e▸B2.lt⟩
  ·exact⟨JI (c2 b hb).1,(c2 b hb).2⟩
 have F0:Fx X.K X.mg X.base:=⟨I.ok.mod.kin,I.ok.mod.glob,I.ok.mod.blt,I.ok.mod.nolimit⟩
 have bs:X.base.objs.size≤s.heap.objs.size:=Jx I.ok.bsz I.sz
 have r1:Rdy X pins rows C s.heap.objs.size scope (.fresh (.func gb (envOfC qual scope s.heap.objs.size f cdv))) ga1 go1 gi1 rows.length (s.heap.objs.size::dJ s.heap.objs.size scope) H { s2 with heap:=h'}:=
  ⟨⟨_,by
   show s2.gens[gi1]? =_
   rw[gens2,gens1,B1.gi_,Array.getElem?_push_lt (by rw[Array.size_push];exact Nat.lt_succ_self _)]
   rw[Array.getElem_push_eq],.inl ⟨rfl,rfl,rfl,(N1.kept (fun b o _ _ e=>hk b o (k12 b o e)) (JI B1.lt) fun y c e=>⟨B1.ab y c (PySem.mem_of_lookup e),B1.bl y c e⟩)⟩⟩,hk _ _ (k12 _ _ N1.at_),fun b hb=>by
   rcases Jj.mp hb with e|hb
   ·exact young b (e▸JI B1.lt)
   ·exact young b (o1 b hb).1,fun b hb=>Jm (o1 b hb).2⟩
 have r2:Rdy X pins rows C s1.heap.objs.size scope (.fresh (.func gb (envOfC qual scope s1.heap.objs.size f cdv))) ga2 go2 gi2 rows.length (s1.heap.objs.size::dJ s1.heap.objs.size scope) H { s2 with heap:=h'}:=
  ⟨⟨_,by
   show s2.gens[gi2]? =_
   rw[gens2,B2.gi_]
   exact Array.getElem?_push_size ..,.inl ⟨rfl,rfl,rfl,(N2.kept (fun b o _ _ e=>hk b o e) (JI B2.lt) fun y c e=>⟨B2.ab y c (PySem.mem_of_lookup e),B2.bl y c e⟩)⟩⟩,hk _ _ N2.at_,fun b hb=>by
   rcases Jj.mp hb with e|hb
   ·exact young b (e▸JI (JO S1 B2.lt))
   ·exact young b (Jx (JI S1) (o2 b hb).1),fun b hb=>Jm (o2 b hb).2⟩
 have mz:∀b∈[TI+2,TI,TI+1],TI≤b:=fun b hb=>by
  have:b=TI+2∨b=TI∨b=TI+1:=by simpa using hb
  omega
 have gne:gi1≠gi2:=by
  rw[B1.gi_,B2.gi_,gens1,Array.size_push]
  omega
 have q1:(TI+2:Nat)≠TI:=by omega
 have q2:(TI+2:Nat)≠TI+1:=by omega
 have q3:(TI:Nat)≠TI+1:=by omega
 refine codeAny_forLoop_any (fun n s'=>Hq X pins rows C s.heap.objs.size s1.heap.objs.size ga1 ga2 (TI+2) TI (TI+1) scope (.fresh (.func gb (envOfC qual scope s.heap.objs.size f cdv))) (.fresh (.func gb (envOfC qual scope s1.heap.objs.size f cdv))) go1 go2 gi1 gi2 W n s') (fun n s' hJ=>?_) rows.length
  ⟨σ,H,_,_,.none,.none,JD _,by rw[Nat.sub_self];exact w0,I3,r1,r2,hz,hTI,hTO,fun b hb=>young b (JI (Jk (JO S1 S2) (mz b hb))),fun b hb=>⟨fun q=>?_,fun q=>?_⟩,fun b hb q=>?_⟩
 ·refine wF (tg:=.Tuple elts x1 tpos) rfl (I.ok.hd hc) hr hg hb (JO Nat.zero_lt_one M.many) M.small (fun h e=>B1.isGen e) (fun h e=>B2.isGen e) B1.gg B2.gg (fun A s' hr' kb nv=>walk A _ _ _ s' hr' F0 bs kb nv B1.pw B1.ab) (fun A s' hr' kb nv=>walk A _ _ _ s' hr' F0 (Jx bs (JI S1)) kb nv B2.pw B2.ab) gne (fun q=>?_) (fun q=>?_) ⟨q1,q2,q3⟩ wstep wend n s' hJ
  ·have:ga1=TI+2∨ga1=TI∨ga1=TI+1∨ga1=ga2:=by simpa using q
   have:=B2.lt
   omega
  ·have:=mz ga2 q
   omega
 ·have h1:=o1 b hb
  have: @Eq Nat b (TI+2)∨ @Eq Nat b TI∨ @Eq Nat b (TI+1)∨ @Eq Nat b ga2:=by simpa using q
  have:=B2.lt
  omega
 ·have h1:=o1 b hb
  have h2:=o2 b q
  omega
 ·have h2:=o2 b hb
  have: @Eq Nat b (TI+2)∨ @Eq Nat b TI∨ @Eq Nat b (TI+1)∨ @Eq Nat b ga1:=by simpa using q
  omega
end
end Ev.S1
namespace Ev.S1
open PySem PySem.Spec L2 PyProof.Rows LamX He Ev.Ex
def pairD(c:Nat)(row:List Str):D:=.tup [tabD c row,tabD c row]
def forZS(c:Nat)(rows:List (List Str))(t:Tg)(m:MS):MS:=fun env S=>EC (forL t m (rows.map (pairD c)) env S)
section
variable {Γ:Gm}{X:Cx}{W:WX}{c:Nat}{rows:List (List Str)}{t:Tg}{m:MS}
theorem Be{Z:Ends}{σ:L2.St}{H:Hp}(h:dC Γ W (forZS c rows t m) Z σ H):BD (Γ.cls c) rows (iW Γ t) (dC Γ W0 m) Z σ H:=by
 obtain⟨env,S,μ,a,h⟩:=h
 have h:=sY h
 refine⟨fun i σ' H'=>∃env' S' μ',Ext Γ μ H μ' H'∧At Γ σ' H' env' S' μ'∧(forL t m ((rows.map (pairD c)).drop i) env' S').sat (b0 Γ W0 Z μ' H'),⟨env,S,μ,.refl,a,h⟩,?_,?_⟩
 ·rintro i row σ' H' T1 dx1 t1 o1 T2 dx2 t2 o2 Tp op er ho1 ho2 hop ⟨env',S',μ',x',a',q'⟩ hT hd ht n1 n2 n3 hT' hd' ht' n1' n2' n3' hp
  have hi:(rows.map (pairD c))[i]? =some (pairD c row):=by rw[JR,er];rfl
  have ed:(rows.map (pairD c)).drop i=pairD c row::(rows.map (pairD c)).drop (i+1):=by
   obtain⟨h1,h2⟩:=Jl.mp hi
   rw[List.drop_eq_getElem_cons h1,h2]
  rw[ed] at q'
  simp only[forL] at q'
  split at q'
  ·exact False.elim q'
  ·rename_i e1 he1
   have x2:Ext Γ μ' H' μ' (aG H' (Γ.cls c) T1 dx1 t1 o1 row):=iu ht hd hT n1 n2 n3
   have s2:=iw (c:=c) (T:=T1) (dx:=dx1) (t:=t1) (o:=o1) (row:=row) a'.sim ht hd hT n1 n2 n3
   have r2:Rep Γ (aG H' (Γ.cls c) T1 dx1 t1 o1 row) μ' (.ref T1) (tabD c row):=gI a'.sim ho1 ht hd hT n1 n2 n3
   have x3:Ext Γ μ' (aG H' (Γ.cls c) T1 dx1 t1 o1 row) μ' (aG (aG H' (Γ.cls c) T1 dx1 t1 o1 row) (Γ.cls c) T2 dx2 t2 o2 row):=iu ht' hd' hT' n1' n2' n3'
   have s3:=iw (c:=c) (T:=T2) (dx:=dx2) (t:=t2) (o:=o2) (row:=row) s2 ht' hd' hT' n1' n2' n3'
   have r3:Rep Γ (aG (aG H' (Γ.cls c) T1 dx1 t1 o1 row) (Γ.cls c) T2 dx2 t2 o2 row) μ' (.ref T2) (tabD c row):=gI s2 ho2 ht' hd' hT' n1' n2' n3'
   have x4:Ext Γ μ' (aG (aG H' (Γ.cls c) T1 dx1 t1 o1 row) (Γ.cls c) T2 dx2 t2 o2 row) μ' (fh H' (Γ.cls c) T1 dx1 t1 o1 T2 dx2 t2 o2 Tp op row):=Ext.laid hp _
   have s4:Sim Γ μ' (fh H' (Γ.cls c) T1 dx1 t1 o1 T2 dx2 t2 o2 Tp op row) S':=s3.laid hp _
   have r4:Rep Γ (fh H' (Γ.cls c) T1 dx1 t1 o1 T2 dx2 t2 o2 Tp op row) μ' (.ref Tp) (pairD c row):=.tup (.inl ⟨op,hop,upd_same,s3.nnew hp⟩) (.cons ((r2.ext x3).ext x4) (.cons (r3.ext x4) .nil))
   have x5:=x2.trans (x3.trans x4)
   have a2:At Γ σ' (fh H' (Γ.cls c) T1 dx1 t1 o1 T2 dx2 t2 o2 Tp op row) env' S' μ':=a'.next x5 s4
   refine⟨env',μ',pairD c row,e1,a2.env,r4,he1,fun σ2 h2 _=>?_⟩
   refine⟨e1,S',μ',⟨h2,a2.sim,a2.tabs⟩,?_⟩
   exact gH (Z:=Z) (k:=forL t m ((rows.map (pairD c)).drop (i+1))) (b0.ext x5 q') fun e2 S2 σ3 H3 μ3 x3 a3 q3=>⟨e2,S2,μ3,x'.trans (x5.trans x3),a3,q3⟩
 ·rintro σ' H' ⟨env',S',μ',x',a',q'⟩
  rw[← Jt (pairD c),List.drop_length] at q'
  exact q' σ' H' μ' .refl a'
theorem k_forZ{k:Nat}(q:Cq Γ X W k){x zn:Str}{elts:List Expr}{x1:Nat}{tpos p p1 p2 pp1 pp2 pz pos:Pos}{body:List Stmt}(M:AllT1 X.prog X.w X.K X.mg X.base (Γ.cls c) x rows)(hmz:X.mg zn=none)(hg:PG X.nox (.Tuple elts x1 tpos) (iW Γ t))(hb:PSs X.nox body (dC Γ W0 m))
  (hv:bootBuiltins zn=some (.type "zip"):=by rfl) (hk:5≤k:=by omega) (hgx:Gl X x:=by rfl) (hgz:Gl X zn:=by rfl) (hdb:(x==("__debug__":Str))=false:=by decide) (hnz:zn≠ "__name__":=by decide) (hdz:(zn==("__debug__":Str))=false:=by decide)
  (hsf:∀y,foldedSetIterable (.Call (.Name zn p) [.Call (.Name x p1) [] [] pp1,.Call (.Name x p2) [] [] pp2] [] pz) X.env y=pure y:=by intro _;rfl)
  (he:starEach [(.Call (.Name x p1) [] [] pp1:Expr),.Call (.Name x p2) [] [] pp2] X.env=(false,eval (.Call (.Name x p1) [] [] pp1) X.env)::starEach [.Call (.Name x p2) [] [] pp2] X.env:=by rfl) (he2:starEach [(.Call (.Name x p2) [] [] pp2:Expr)] X.env=(false,eval (.Call (.Name x p2) [] [] pp2) X.env)::starEach [] X.env:=by rfl):
  PS X (.For (.Tuple elts x1 tpos) (.Call (.Name zn p) [.Call (.Name x p1) [] [] pp1,.Call (.Name x p2) [] [] pp2] [] pz) body [] pos) (dC Γ W (forZS c rows t m)):=
 (Az q.hc (q.room.mono hk) M hgx hdb hgz hmz hv hnz hdz hg hb hsf he he2).weak fun _ _ _ h=>Be h
end
end Ev.S1
namespace Ev
open PySem PySem.Spec L2 PyProof.Rows LamX
def rF(K:PySem.W.Frag):V→List V→Hp→VK→Prop:=fun x xs H Q=>∃ (a:Addr) (y:V) (d:PyData) (ds:List PyData),x=V.ref a∧xs=[y]∧Dp K H (V.ref a) (.list ds)∧Dp K H y d∧PyData.plainAll ds=true∧d.plain=true∧d.depth≤60∧Q (.int ((ds.countP fun z=>PyData.eqv z d:Nat):Int)) H
theorem kG{X:Cx}(hu:X.A.units+65<cLine):MtR X "list.count" (rF X.K):=by
 intro pins s σ H x xs v us Q I rx rxs h
 obtain⟨a,y,d,ds,rfl,rfl,hl,hy,pl,pd,hd,q⟩:=h
 cases rx
 cases rxs with
 |cons ry rt=>
  rename_i uy ut
  cases rt
  obtain⟨bs,r1⟩:=Dp.reads I d y uy hy ry
  cases hl with
  |lst hs ha=>
   obtain⟨its,rv,⟨o,n,ho,hc,hx,hdt⟩,hlen⟩:=I.list hs
   obtain⟨as,h4⟩:=Dp.readsAll I ds _ its ha rv
   refine SeqAt.count_list_data (xs:=ds) ⟨o,ho,hc,n,hdt⟩ (show ReadsAll s.heap its.toArray.toList ds as from h4) r1 pl pd ?_ ⟨.int ((ds.countP fun z=>PyData.eqv z d:Nat):Int),H,I.tok _,⟨_,rfl⟩,q⟩
   have:min (PyData.depthAll ds) d.depth≤60:=Jx (Nat.min_le_right _ _) hd
   omega
def fC(S:a0)(x:D)(ds:List D):Option (RV×a0):=match ds with
 | [y]=>match ib S x,ib S y with
  |some (.list ps),some p=>if PyData.plainAll ps&&(p.plain&&decide (p.depth≤60)) then some (.val (.int ((ps.countP fun z=>PyData.eqv z p:Nat):Int)),S) else none
  |_,_=>none
 |_=>none
theorem wd{Γ:Gm}:xv Γ fC (rF Γ.K):=by
 intro H μ S S' x vs dx ds z Q s rx rs h q
 unfold fC at h
 split at h
 ·rename_i y
  split at h
  ·rename_i ps p e1 e2
   split at h
   ·rename_i hs
    simp only[Jy,JB] at hs
    cases h
    obtain⟨vy,rfl,ry⟩:=dj rs
    have dp:=dX s rx e1
    cases dp with
    |lst hq ha=>exact⟨_,vy,p,ps,rfl,rfl,.lst hq ha,dX s ry e2,hs.1,hs.2.1,hs.2.2,q.here s (.int _)⟩
   ·cases h
  ·cases h
 ·cases h
section
variable {Γ:Gm}{X:Cx}{W:WX}{pos:Pos}{k m:Nat}
theorem zX(q:Cq Γ X W k){apos:Pos}{o e:Expr}{f g:ME}(ho:PE X o (ay Γ W f))(he:PE X e (ay Γ W g))(hs:notStar e=true:=by rfl)(hbase:attributeBase o "count" X.env (eval o X.env)=eval o X.env:=by rfl)
  (hfew:((backTo pos (starEach [e] X.env)).all (fun x=> !x.1)&&(backToKw pos (keywordEach [] X.env)).all (fun x=>x.1.isSome)
   &&decide ([e].length+([]:List Keyword).length+(if([]:List Keyword).isEmpty then 0 else 1)<30))=true:=by rfl)
  (hline:(apos.endLine==pos.line)=true:=by rfl):PE X (.Call (.Attribute o "count" apos) [e] [] pos) (ay Γ W (fg "list" fC f (af [g]))):=
 qm q.hK PySem.F.plainAttrs_list PySem.F.slot_list_count PySem.F.type_list_count (kG (by have:=q.room.room.un;omega)) (by rw[q.hK];exact wd) ho (fT hs he iR) hbase hfew hline (by rw[List.all_cons,hs];rfl)
end
end Ev
namespace Ev.Ex
open PySem PySem.Spec L2 PyProof.Rows GenW LamX He
def nF:List Str:=["new","changed","gone","two new","two changed","torn"]
def cf:List (List Str):=[["back","leave","spread"],["back","leave","spread"],["back","leave","spread"],["greater","leave","lesser"],["greater","leave","lesser"],["content","gone","leave"]]
def nH:List (Str×(Str×List Str)):=[("new",("ONE_SIDED",["back","leave","spread"])),("changed",("ONE_SIDED",["back","leave","spread"])),("gone",("ONE_SIDED",["back","leave","spread"])),("two new",("BOTH_SIDED",["greater","leave","lesser"])),("two changed",("BOTH_SIDED",["greater","leave","lesser"])),("torn",("TORN_APART",["content","gone","leave"]))]
def tabR:List (List Str):=az cf
def ji(row:List Str):Bool:=decide (row.length=6)&&(List.range 6).all fun i=>match row[i]?,cf[i]? with|some r,some rs=>decide (r∈rs)|_,_=>false
theorem gQ:tabR.length=729:=by decide+kernel
theorem vL:(tabR.all ji)=true:=by decide+kernel
theorem n5{row:List Str}(h:row∈tabR):row.length=6∧∀ (i:Nat) (r:Str),row[i]? =some r→∃rs,cf[i]? =some rs∧r∈rs:=by
 have h1:=Jz.mp vL row h
 unfold ji at h1
 simp only[Jy,JB] at h1
 refine⟨h1.1,fun i r e=>?_⟩
 have hi:i<6:=h1.1▸(Jl.mp e).1
 have h2:=Jz.mp h1.2 i (List.mem_range.mpr hi)
 rw[e] at h2
 split at h2
 ·rename_i r' rs e1 e2
  cases e1
  exact⟨rs,e2,JL h2⟩
 ·cases h2
theorem tN:((List.range 7).all fun i=>decide ((az (cf.take i)).length<30000)&&(az (cf.take i)).all fun row=>decide (row.length<1000))=true:=by decide+kernel
theorem eY(i:Nat):(az (cf.take i)).length<30000∧∀row∈az (cf.take i),row.length<1000:=by
 have key:∀i<7,(az (cf.take i)).length<30000∧∀row∈az (cf.take i),row.length<1000:=fun i hi=>by
  have h:=Jz.mp tN i (List.mem_range.mpr hi)
  simp only[Jy,JB] at h
  exact⟨h.1,fun row hr=>JL (Jz.mp h.2 row hr)⟩
 by_cases hi:i<7
 ·exact key i hi
 ·have e:cf.take i=cf.take 6:=by
   rw[List.take_of_length_le (show cf.length≤i by show 6≤i;omega),List.take_of_length_le (show cf.length≤6 by decide)]
  rw[e]
  exact key 6 (by decide)
theorem D8{i:Nat}{rs:List Str}(h:cf[i]? =some rs):rs.length=3:=by
 have:∀rs∈cf,rs.length=3:=by decide
 exact this rs (Js h)
section
variable {K:PySem.W.Frag}{d cT:Addr}
theorem ke{i:Nat}{c:Str}(h:FN K d nH=true)(e:nF[i]? =some c):∃rs,cf[i]? =some rs∧gZ K d c rs:=by
 have hi:i<6:=(Jl.mp e).1
 obtain⟨p,hp,h1,h2⟩:∃p,nH[i]? =some p∧p.1=c∧cf[i]? =some p.2.2:=by
  have:∀j<6,∃p,nH[j]? =some p∧nF[j]? =some p.1∧cf[j]? =some p.2.2:=by
   intro j hj
   match j,hj with
   |0,_=>exact⟨_,rfl,rfl,rfl⟩
   |1,_=>exact⟨_,rfl,rfl,rfl⟩
   |2,_=>exact⟨_,rfl,rfl,rfl⟩
   |3,_=>exact⟨_,rfl,rfl,rfl⟩
   |4,_=>exact⟨_,rfl,rfl,rfl⟩
   |5,_=>exact⟨_,rfl,rfl,rfl⟩
  obtain⟨p,q1,q2,q3⟩:=this i hi
  rw[e] at q2
  exact⟨p,q1,(Jq q2).symm,q3⟩
 have q:=Jz.mp h p (Js hp)
 simp only[Jy,JB] at q
 obtain⟨⟨o,its,n,k1,k2,k3,k4,k5,k6⟩,_⟩:=ki q.2
 exact⟨_,h2,_,o,its,n,h1▸q.1,k1,k2,k4,k6⟩
theorem zJ{i:Nat}{c r:Str}{row:List Str}(h:FN K d nH=true)(hr:row∈tabR)(ec:nF[i]? =some c)(er:row[i]? =some r):mY K d c r:=by
 obtain⟨rs,e1,tp,o,its,n,k1,k2,k3,k4,k5⟩:=ke h ec
 obtain⟨rs',e2,hm⟩:=(n5 hr).2 i r er
 rw[e1] at e2
 cases e2
 exact⟨tp,o,its,n,rs,k1,k2,k3,k4,k5,hm⟩
end
section
variable {P:Program}{w:World}{K:PySem.W.Frag}{mg:Str→Option Value}{base:Heap}
theorem allTs_of{C d cT fl fr fA:Addr}{es:Array DictEntry}{n:Nat}{qL qR qI qA xL xR xI:Str}{pL pR pI pA:Arguments}{scL scR scI scope csc:Scope}{fdL fdR fdI fdA:FuncData}{NL NR NI Ng:List Str}{bad bad2:List Stmt}
  {e1 e2 e3 e4 e5 e6 e7:Pos} {j:Nat} {u1 u2 u3 u4 u5 u6 u7 u8 u9 u10 u11:Pos} {g1 g2 g3 g4 g5 g6 g7 g8 g9 g10 g11 g12 g13 q1 q2 q3 q4 q5 q6 q7 q8 q9 q10 q11 q12 q13 q14 r1 r2 r3 r4 r5 r6:Pos} {j1:Nat}
  {a1 a2 a3 a4 b1 b2 b3 c1 c2 c3 c4 c5 c6 c7 c8 c9 c10 c11 c12 c13 d1 d2 d3 d4 d5 d6 d7 d8:Pos} {i0 i1:Nat}
  (FDL:FunD K xL qL pL [.Return (some (.Call (.Name "isinstance" e1) [.Name "value" e2,.Tuple [.Name "list" e3,.Name "tuple" e4] j e5] [] e6)) e7] scL [] [] fl fdL) (SL:FnScope NL ["value"] scL) (bL:L2.Binds K fdL ["value"] []) (l0:IsL scL "value") (l1:gV scL "isinstance") (l2:gV scL "list") (l3:gV scL "tuple")
  (FDR:FunD K xR qR pR [.Return (some (.BoolOp .And [.Call (.Name "isinstance" u1) [.Name "value" u2,.Name "str" u3] [] u4,.Compare (.Name "value" u5) [.In] [.Subscript (.Name "RULES" u6) (.Name "case" u7) u8] u9] u10)) u11] scR [] [] fr fdR) (SR:FnScope NR ["case","value"] scR) (bR:L2.Binds K fdR ["case","value"] []) (t0:IsL scR "value") (t1:IsL scR "case") (t2:gV scR "isinstance") (t3:gV scR "str") (t4:gV scR "RULES")
  (FDI:FunD K xI qI pI [.If (.BoolOp .Or [.UnaryOp .Not (.Call (.Name "is_list" g1) [.Name "rules" g2] [] g3) g4,.Compare (.Call (.Name "len" g5) [.Name "rules" g6] [] g7) [.NotEq] [.Call (.Name "len" g8) [.Name "CASES" g9] [] g10] g11] g12) bad2 [] g13,
   .For (.Tuple [.Name "case" q1,.Name "rule" q2] j1 q3) (.Call (.Name "zip" q4) [.Name "CASES" q5,.Name "rules" q6] [] q7) [.If (.UnaryOp .Not (.Call (.Name "is_rule" q8) [.Name "case" q9,.Name "rule" q10] [] q11) q12) bad [] q13] [] q14,
   .Assign [.Attribute (.Name "self" r1) "rules" r2] (.Call (.Name "tuple" r3) [.Name "rules" r4] [] r5) r6] scI [] [] (ma K C "__init__") fdI) (SI:FnScope NI ["self","rules"] scI) (bI:L2.Binds K fdI ["self","rules"] [])
  (k0:IsL scI "case") (k1:IsL scI "rule") (k2:IsL scI "rules") (k6:IsL scI "self") (k3:gV scI "zip") (k4:gV scI "CASES") (k5:gV scI "is_rule") (k7:gV scI "is_list") (k8:gV scI "len") (k9:gV scI "tuple")
  (FDA:FunD K "all_tables" qA pA [.Assign [.Name "rows" a1] (.List [.Tuple [] i1 a2] a3) a4,.For (.Name "case" b1) (.Name "CASES" b2) [.Assign [.Name "rows" c1] (.ListComp (.BinOp (.Name "row" c2) .Add (.Tuple [.Name "rule" c3] i0 c4) c5) [⟨.Name "row" c6,.Name "rows" c7,[],0⟩,⟨.Name "rule" c8,.Subscript (.Name "RULES" c9) (.Name "case" c10) c11,[],0⟩] csc c12) c13] [] b3,
   .For (.Name "row" d1) (.Name "rows" d2) [.Expr (.Yield (some (.Call (.Name "Table" d3) [.Name "row" d4] [] d5)) d6) d7] [] d8] scope [] [] fA fdA) (SA:GScope Ng [] scope) (bA:L2.Binds K fdA [] []) (SW:GenW0 scope csc)
  (hsw1:∀L f cd,swapsWith (.List [.Tuple [] i1 a2] a3) (some (.Name "rows" a1)) a4.line (envOfC qA scope L f cd)=pure false)
  (hsw:∀L f cd,swapsWith (.ListComp (.BinOp (.Name "row" c2) .Add (.Tuple [.Name "rule" c3] i0 c4) c5) [⟨.Name "row" c6,.Name "rows" c7,[],0⟩,⟨.Name "rule" c8,.Subscript (.Name "RULES" c9) (.Name "case" c10) c11,[],0⟩] csc c12) (some (.Name "rows" c1)) c13.line (envOfC qA scope L f cd)=pure true)
  (mL:mg "is_list"=some (.ref fl)) (mR:mg "is_rule"=some (.ref fr)) (mA:mg "all_tables"=some (.ref fA)) (mT:mg "Table"=some (.ref C)) (mC:mg "CASES"=some (.ref cT)) (mD:mg "RULES"=some (.ref d)) (mz:mg "zip"=none) (ml:mg "len"=none) (mt:mg "tuple"=none) (mi:mg "isinstance"=none) (mli:mg "list"=none) (ms:mg "str"=none)
  (cS:jM K C=true) (cI:oi K C "rules" 0=true) (cM:Fc K C=true) (cC:EE K cT nF=true) (cD:FN K d nH=true) (D:KDict K w d es n):AllT P w K mg base C "all_tables" tabR∧S1.AllT1 P w K mg base C "all_tables" tabR:=by
 obtain⟨⟨oT,cs,nT,s1,s2,s3,s4,s5,s6⟩,_⟩:=ki cC
 have M:Mk K C (ma K C "__init__"):=xZ cM
 have TW:TabW P w K mg C cT cs nF d:=⟨iA cS,⟨_,nB cI⟩,⟨fl,fun A s t X hroom ht=>tU FDL SL bL l0 l1 l2 l3 mi mli mt (by
   unfold PySem.W.kitAny
   rw[kit_ty (show kitB "tuple" "list"=some false by decide)]
   unfold PySem.W.kitAny
   rw[kit_ty (show kitB "tuple" "tuple"=some true by decide)]) X hroom ht,mL,FDL.kp⟩,⟨fr,fun A s c r tc tr X hroom hu hr=>by
   obtain⟨tp,o,its,n,rs,k1,k2,k3,k4,k5,hm⟩:=hr
   exact uE FDR SR bR t0 t1 t2 t3 t4 mi ms mD (kit_ty (show kitB "str" "str"=some true by decide)) D k1 X hroom hu ⟨o,X.kin _ _ k2,k3,n,k4⟩ k5 hm,mR,FDR.kp⟩,mC,mz,ml,mt,⟨oT,nT,s1,s2,s4⟩,s6⟩
 have hi:lS P w K mg C (ma K C "__init__") (fun row=>row∈tabR):=fun h₀ s A a dx t rv row hr X hs hsz ht rr hrow=>Ei FDI SI bI k0 k1 k2 k6 k3 k4 k5 k7 k8 k9 TW hr.hd (by have:=hr.dp;omega) (by have:=hr.un;omega) X hs hsz ht rr ((n5 hrow).1) (by decide) fun i c r ec er=>zJ cD hrow ec er
 have kpA:=FDA.kp
 obtain⟨oc,od,dV,kV,doc,pm,an,cdv,ct,osl,rfl,lk,hcd,_,_⟩:=FDA.ex
 have hz:∀ (i:Nat),∀row∈az (cf.take i),row.length<1000:=fun i=>(eY i).2
 have hn:∀ (i:Nat) (rs:List Str),cf[i]? =some rs→(az (cf.take i)).length*rs.length<100000:=fun i rs e=>by
  have h1:=(eY i).1
  rw[D8 e]
  omega
 have h0:0<tabR.length:=by rw[gQ];decide
 have eca:∀L:Addr,∃ca,(cellsFrom (L+1) scope.names []).lookup ("case":Str)=some ca:=fun L=>by
  have:((cellsFrom (L+1) scope.names []).lookup ("case":Str)).isSome=true:=PySem.W.cellsFrom_some _ _ _ (.inl SW.case_)
  exact Option.isSome_iff_exists.mp this
 have small:∀row∈tabR,row.length<1000:=fun row h=>by rw[(n5 h).1];decide
 have kT:PySem.W.keepIn K (.ref C)=true:=M.kp
 refine⟨⟨⟨Ng,fA,qA,_,scope,cdv,_,oc,od,osl,_,pA,dV,kV,doc,pm,ct,an,rfl,lk,hcd,SA,bA,mA,kpA,fun A L ga go gi Fi s hr X hB kB nv pw ab=>?_⟩,by rw[gQ];decide,by rw[gQ];decide,small⟩,⟨⟨Ng,fA,qA,_,scope,cdv,_,oc,od,osl,_,pA,dV,kV,doc,pm,ct,an,rfl,lk,hcd,SA,bA,mA,kpA,fun A L ga go s hr X hB kB nv pw ab=>?_⟩,by rw[gQ];decide,small⟩⟩
 ·obtain⟨m,hns⟩:=nv.ns
  obtain⟨cm,hcl⟩:=nv.cells
  obtain⟨ca,eca⟩:=eca L
  exact uX SW M hi mT kT (fun row h=>h) hr SA.co X hB kB D mD mC ⟨oT,nT,s1,s2,s4⟩ s6 (fun i c e=>ke cD e) rfl hz hn h0 (hsw1 L fA cdv) (hsw L fA cdv) hns hcl pw ab eca
 ·obtain⟨m,hns⟩:=nv.ns
  obtain⟨cm,hcl⟩:=nv.cells
  obtain⟨ca,eca⟩:=eca L
  exact S1.fresh1 SW M hi mT kT (fun row h=>h) hr SA.co X hB kB D mD mC ⟨oT,nT,s1,s2,s4⟩ s6 (fun i c e=>ke cD e) rfl hz hn h0 (hsw1 L fA cdv) (hsw L fA cdv) hns hcl pw ab eca
end
end Ev.Ex
namespace Ev.Sr
open PySem PySem.Spec L2 PyProof.Rows PyProof.Rows.G
def jz(row:List Str):List (Int ⊕ List Nat):=row.map fun x=>.inr x.cps.toList
def ltR(a b:List Str):Bool:=lexLt itemOrd (jz a) (jz b)
theorem oI:∀ {a b:List Str},jz a=jz b→a=b
 | [],[],_=>rfl
 | [],_::_,h=>by cases h
 |_::_,[],h=>by cases h
 |x::a,y::b,h=>by
  obtain⟨h1,h2⟩:=List.cons.inj h
  rw[PySem.W.str_of_cps (Sum.inr.inj h1),oI h2]
theorem tP{a b:List Str}(h1:ltR a b=false)(h2:ltR b a=false):a=b:=oI (lex_total _ _ h1 h2)
theorem tJ{a b c:List Str}(h1:ltR b a=false)(h2:ltR c b=false):ltR c a=false:=by
 cases h:ltR c a with
 |false=>rfl
 |true=>
  rcases lex_negTrans (O:=itemOrd) (jz c) (jz b) (jz a) h with z|z
  ·exact absurd (h2.symm.trans z) (by decide)
  ·exact absurd (h1.symm.trans z) (by decide)
def qo(a:List Str):List (List Str)→List (List Str)
 | []=>[a]
 |b::r=>if ltR b a then b::qo a r else a::b::r
def srtT:List (List Str)→List (List Str)
 | []=>[]
 |a::r=>qo a (srtT r)
theorem iE(a:List Str):∀l,(qo a l).Perm (a::l)
 | []=>.refl _
 |b::r=>by
  unfold qo;split
  ·exact((iE a r).cons b).trans (.swap a b r)
  ·exact .refl _
theorem kO:∀l,(srtT l).Perm l
 | []=>.refl _
 |a::r=>(iE a _).trans ((kO r).cons a)
theorem td(a:List Str):∀l,l.Pairwise (fun x y=>ltR y x=false)→(qo a l).Pairwise fun x y=>ltR y x=false
 | [],_=>by simp[qo]
 |b::r,h=>by
  obtain⟨h1,h2⟩:=List.pairwise_cons.mp h
  unfold qo;split
  ·rename_i hba
   refine List.pairwise_cons.mpr ⟨fun c hc=>?_,td a r h2⟩
   rcases Jj.mp ((iE a r).mem_iff.mp hc) with e|e
   ·rw[e]
    cases z:ltR a b with
    |false=>rfl
    |true=>exact absurd (lex_trans _ _ _ hba z) (by rw[lex_irrefl];decide)
   ·exact h1 c e
  ·rename_i hba
   have hba:ltR b a=false:=by simpa using hba
   refine List.pairwise_cons.mpr ⟨fun c hc=>?_,h⟩
   rcases Jj.mp hc with e|e
   ·rw[e];exact hba
   ·exact tJ hba (h1 c e)
theorem ti:∀l,(srtT l).Pairwise fun x y=>ltR y x=false
 | []=>.nil
 |a::r=>td a _ (ti r)
theorem srtT_is{xs ys:List (List Str)}(h:ys.Pairwise fun x y=>ltR y x=false)(p:ys.Perm xs):ys=srtT xs:=
 List.Perm.eq_of_pairwise (fun x y _ _ h1 h2=>tP h2 h1) h (ti xs) (p.trans (kO xs).symm)
theorem xM{α β:Type}(f:α→β){l m:List β}(h:l.Perm m):∀bs:List α,m=bs.map f→∃cs:List α,cs.Perm bs∧l=cs.map f:=by
 induction h with
 |nil=>exact fun bs e=>⟨bs,.refl _,e⟩
 |cons x _ ih=>
  intro bs e
  cases bs with
  |nil=>cases e
  |cons b bs=>
   obtain⟨e1,e2⟩:=List.cons.inj e
   obtain⟨cs,h1,h2⟩:=ih bs e2
   exact⟨b::cs,h1.cons b,by rw[JG,e1,h2]⟩
 |swap x y l=>
  intro bs e
  match bs,e with
  |b::c::bs,e=>
   obtain⟨e1,e2⟩:=List.cons.inj e
   obtain⟨e3,e4⟩:=List.cons.inj e2
   exact⟨c::b::bs,.swap _ _ _,by rw[e1,e3,e4];rfl⟩
 |trans _ _ ih1 ih2=>
  intro bs e
  obtain⟨cs,h1,h2⟩:=ih2 bs e
  obtain⟨ds,h3,h4⟩:=ih1 cs h2
  exact⟨ds,h3.trans h1,h4⟩
def rSortT(K:PySem.W.Frag):List V→Hp→VK→Prop:=fun vs H Q=>∃ (a:Addr) (ps:List (Addr×List Str)),vs=[V.ref a]∧SqL K H a (ps.map fun q=>V.ref q.1)∧ps.length≤sizeLine∧(∀q∈ps,q.2≠[]∧SqT K H q.1 (q.2.map V.str))∧
 ∀ (cs:List (Addr×List Str)) (p:Addr),cs.Perm ps→cs.Pairwise (fun x y=>ltR y.2 x.2=false)→H p=none→Q (.ref p) (upd H p (.lst (cs.map fun q=>V.ref q.1)))
theorem items_str:∀ {row:List Str} {us:List Value} (i:Nat),Vals (row.map V.str) us→tupItems (fun _=>true) i us=some (jz row)
 | [],us,i,r=>by
  cases r
  rfl
 |x::row,us,i,r=>by
  cases r with
  |cons r1 r=>
   obtain⟨t,rfl⟩:=r1
   have:=items_str (i+1) r
   simp only[tupItems,if_true,this,Option.map_some]
   rfl
section
variable {X:Cx}
theorem call_sortT:CallR X (.builtin "sorted") (rSortT X.K):=by
 intro pins s σ H vs us Q I r h
 obtain⟨a,ps,rfl,hs,hl,hrow,q⟩:=h
 obtain⟨its,rv,pl,_⟩:=I.list hs
 rw[Vals.ref1 r]
 have refs:∀ (l:List (Addr×List Str)) (us:List Value),Vals (l.map fun q=>V.ref q.1) us→us=l.map fun q=>Value.ref q.1:=fun l=>by
  induction l with
  |nil=>intro us r;cases r;rfl
  |cons b l ih=>
   intro us r
   cases r with
   |cons r1 r2=>
    cases r1
    rw[ih _ r2]
    rfl
 have eits:=refs ps its rv
 subst eits
 have at_:∀b∈ps,∃ (o:Obj) (xs:Array Value) (n:Nat),s.heap.get? b.1=some o∧o.cls= .type "tuple"∧o.data= .seq xs n∧tupItems (fun _=>true) 0 xs.toList=some (jz b.2)∧∃f,xs[0]? =some f∧∃x t,f= .str x t:=fun b hb=>by
  obtain⟨h1,h2⟩:=hrow b hb
  obtain⟨tis,tv,⟨o,ho,hc,n,hd⟩,_⟩:=I.tuple h2
  refine⟨o,tis.toArray,n,ho,hc,hd,items_str 0 tv,?_⟩
  cases e:b.2 with
  |nil=>exact absurd e h1
  |cons x t=>
   rw[e] at tv
   cases tv with
   |cons r1 r2=>
    obtain⟨tk,rfl⟩:=r1
    exact⟨_,rfl,x,tk,rfl⟩
 have key:∀b∈ps,tupKeyC s.heap (fun _=>true) (.ref b.1)=some (jz b.2):=fun b hb=>by
  obtain⟨o,xs,n,h1,h2,h3,h4,_⟩:=at_ b hb
  exact tupKeyC_of h1 h2 h3 h4
 have tups:∀l:List (Addr×List Str),(∀b∈l,b∈ps)→∃fs,TupsOf s.heap (fun _=>true) (l.map fun q=>Value.ref q.1) fs:=fun l=>by
  induction l with
  |nil=>exact fun _=>⟨[],.nil⟩
  |cons b l ih=>
   intro hb
   obtain⟨fs,hfs⟩:=ih fun x hx=>hb x (Je _ hx)
   obtain⟨o,xs,n,h1,h2,h3,h4,f,h5,h6⟩:=at_ b (hb b Jf)
   exact⟨f::fs,.cons ⟨b.1,o,xs,n,rfl,h1,h2,h3,h5,(fun z=>absurd z (by decide)),fun _=>h6⟩ hfs⟩
 obtain⟨fs,hfs⟩:=tups ps fun _ h=>h
 refine sorted_tups (shape:=fun _=>true) (vs:=ps.map fun q=>Value.ref q.1) pl.isList hfs (fun v hv=>?_) (by rw[Jt];exact hl) fun st' hp hsrt _=>?_
 ·obtain⟨b,hb,rfl⟩:=JU.mp hv
  exact⟨_,key b hb⟩
 have hl2:(arrOf st').toList.Perm ((ps.map fun q=>Value.ref q.1).zip (ps.map fun q=>Value.ref q.1)):=by rw[← pairsOf_toList];exact Array.perm_iff_toList_perm.mp hp
 have ez:∀l:List (Addr×List Str),(l.map fun q=>Value.ref q.1).zip (l.map fun q=>Value.ref q.1)=l.map fun q=>(Value.ref q.1,Value.ref q.1):=fun l=>by
  induction l with
  |nil=>rfl
  |cons b l ih=>rw[JG,List.zip_cons_cons,ih];rfl
 obtain⟨cs,pc,ec⟩:=xM (fun q:Addr×List Str=>(Value.ref q.1,Value.ref q.1)) hl2 ps (ez ps)
 have eo:((arrOf st').map (·.2)).toList=cs.map fun q=>Value.ref q.1:=by
  rw[Array.toList_map,ec,List.map_map]
  rfl
 have vals:∀l:List (Addr×List Str),Vals (l.map fun q=>V.ref q.1) (l.map fun q=>Value.ref q.1):=fun l=>by
  induction l with
  |nil=>exact .nil
  |cons b l ih=>exact .cons rfl ih
 have pw:cs.Pairwise fun x y=>ltR y.2 x.2=false:=by
  rw[List.pairwise_iff_getElem]
  intro i j hi hj hij
  have sz:(arrOf st').size=cs.length:=by
   rw[← Array.length_toList,ec,Jt]
  have kk:∀ (i:Nat) (hi:i<cs.length),KK (tupKindC s.heap fun _=>true) (arrOf st') i=jz (cs[i]).2:=fun i hi=>by
   have e:(arrOf st')[i]? =some (Value.ref (cs[i]).1,Value.ref (cs[i]).1):=by
    rw[← Array.getElem?_toList,ec,JR,Jo hi]
    rfl
   unfold KK
   rw[e]
   show(tupKeyC s.heap (fun _=>true) (.ref (cs[i]).1)).getD _=_
   rw[key _ (pc.mem_iff.mp (List.getElem_mem hi))]
   rfl
  have h1:=hsrt i j (JI hij) (by rw[← hp.size_eq,sz];exact hj)
  rw[kk i hi,kk j hj] at h1
  exact h1
 obtain⟨ep,he⟩:=PyProof.Rows.sortedAll_at s.heap (ps.map fun q=>Value.ref q.1) ((arrOf st').map (·.2))
 have hlen2:(cs.map fun q=>V.ref q.1).length≤sizeLine:=by rw[Jt,pc.length_eq];exact hl
 exact⟨.ref _,upd H (s.heap.objs.size+1) (.lst (cs.map fun q=>V.ref q.1)),I.laid (t':=s.toks) (fun _ _=>PyProof.Rows.sortedAll_old) (Nat.le_succ _) ⟨hlen2,_,ep,eo▸vals cs,he⟩,rfl,q cs _ pc pw (I.hok.fresh (Nat.le_succ _))⟩
end
open LamX
def rowT(row:List Str):D:=.tup (row.map .str)
def rowTx:D→Option (List Str)
 | .tup ds=>f6 ds
 |_=>none
def rowsTx:List D→Option (List (List Str))
 | []=>some []
 |d::r=>match rowTx d,rowsTx r with
  |some a,some b=>some (a::b)
  |_,_=>none
theorem pK:∀ {xs:List D} {ss:List Str},f6 xs=some ss→xs=ss.map D.str
 | [],_,h=>by cases h;rfl
 |d::r,ss,h=>by
  cases d with
  |str x=>
   simp only[f6] at h
   obtain⟨m,h1,rfl⟩:=Jh.mp h
   rw[JG, ← pK h1]
  |_=>cases h
theorem yE{d:D}{row:List Str}(h:rowTx d=some row):d=rowT row:=by
 cases d with
 |tup ds=>exact congrArg D.tup (pK h)
 |_=>cases h
theorem kM:∀ {ds:List D} {rs:List (List Str)},rowsTx ds=some rs→ds=rs.map rowT
 | [],_,h=>by cases h;rfl
 |d::r,rs,h=>by
  simp only[rowsTx] at h
  split at h
  ·rename_i a b e1 e2
   cases h
   rw[JG, ← yE e1, ← kM e2]
  ·cases h
def sortTD(S:a0)(ds:List D):Option RV:=match ds with
 | [x]=>match dR S x with
  |some xs=>match rowsTx xs with
   |some rs=>if decide (rs.length≤16777216)&&rs.all (fun r=> !r.isEmpty) then some (.new (.lst ((srtT rs).map rowT))) else none
   |none=>none
  |none=>none
 |_=>none
section
variable {Γ:Gm}{X:Cx}{W:WX}{k:Nat}{H:Hp}{μ:Mu}
theorem l8:∀ {rs:List (List Str)} {ws:List V},Reps Γ H μ ws (rs.map rowT)→∃ps:List (Addr×List Str),ps.map (fun q=>V.ref q.1)=ws∧ps.map (·.2)=rs∧∀q∈ps,SqT Γ.K H q.1 (q.2.map V.str)∧Rep Γ H μ (.ref q.1) (rowT q.2)
 | [],_,r=>by
  cases r
  exact⟨[],rfl,rfl,fun q hq=>nomatch hq⟩
 |row::rs,_,r=>by
  cases r with
  |cons r1 r2=>
   obtain⟨ps,h1,h2,h3⟩:=l8 r2
   obtain⟨a,vs,e,q1,q2⟩:=Rep.tupA (show Rep Γ H μ _ (.tup (row.map D.str)) from r1)
   subst e
   have:=gx q2 (ss:=row) (by clear q2 r1 r2 h3;induction row with|nil=>rfl|cons x row ih=>simp only[JG,f6,ih,Option.map_some])
   subst this
   refine⟨(a,row)::ps,by rw[JG,h1],by rw[JG,h2],fun q hq=>?_⟩
   rcases Jj.mp hq with z|z
   ·rw[z];exact⟨q1,r1⟩
   ·exact h3 q z
theorem tu:∀ {ps:List (Addr×List Str)},(∀q∈ps,Rep Γ H μ (.ref q.1) (rowT q.2))→Reps Γ H μ (ps.map fun q=>V.ref q.1) ((ps.map (·.2)).map rowT)
 | [],_=>.nil
 |q::ps,h=>.cons (h q Jf) (tu fun p hp=>h p (Je _ hp))
theorem sortT_ok:eF Γ sortTD (rSortT Γ.K):=by
 intro H μ S vs ds z Q s r h q
 unfold sortTD at h
 split at h
 ·split at h
  ·rename_i xs e
   split at h
   ·rename_i rs e2
    split at h
    ·rename_i hok
     simp only[Jy,JB,Jz] at hok
     cases h
     obtain⟨v,rfl,rv⟩:=dj r
     obtain⟨a,ws,rfl,h1,h2⟩:=bD s rv e
     have hx:=kM e2
     subst hx
     obtain⟨ps,p1,p2,p3⟩:=l8 h2
     refine⟨a,ps,rfl,by rw[p1];exact .of h1,?_,fun b hb=>⟨fun e=>?_,(p3 b hb).1⟩,fun cs p pc pw hp=>?_⟩
     ·have:ps.length=rs.length:=by rw[← p2,Jt]
      rw[this,sizeLine_eq];exact hok.1
     ·have:=hok.2 b.2 (by rw[← p2];exact List.mem_map_of_mem hb)
      rw[e] at this
      cases this
     ·have e3:cs.map (·.2)=srtT rs:=srtT_is (List.pairwise_map.mpr pw) (p2▸pc.map (·.2))
      rw[← e3] at q
      exact aU.newL s hp (tu fun b hb=>(p3 b (pc.mem_iff.mp hb)).2) q
    ·cases h
   ·cases h
  ·cases h
 ·cases h
end
end Ev.Sr
namespace Ev
open PySem PySem.Spec L2 PyProof.Rows LamX
theorem Cq.sortT{Γ:Gm}{X:Cx}{W:WX}{k:Nat}(q:Cq Γ X W k):BlF Γ X "sorted" Sr.sortTD:=
 ⟨.inl ⟨_,_,Sr.call_sortT,by rw[q.hK];exact Sr.sortT_ok,boot_sorted⟩,by decide,by decide⟩
end Ev
namespace Bd
open PySem L2 PyProof.Rows LamX He Ev
def fuel:Nat:=2000000
def IW(g:Cfg):MS:=retS (dA (mu "list" "tuple") (ae 0))
class F_2(P:Nat→Option Dfn):Prop where
 at_:P 2=some ⟨1,1,IW⟩
def Ai(g:Cfg):MS:=retS (eh [dA (dk "str") (ae 1),av inD (ae 1) (ve (xQ [("new",("ONE_SIDED",["back","leave","spread"])),("changed",("ONE_SIDED",["back","leave","spread"])),("gone",("ONE_SIDED",["back","leave","spread"])),("two new",("BOTH_SIDED",["greater","leave","lesser"])),("two changed",("BOTH_SIDED",["greater","leave","lesser"])),("torn",("TORN_APART",["content","gone","leave"]))]) (ae 0))])
class F_11(P:Nat→Option Dfn):Prop where
 at_:P 11=some ⟨2,2,Ai⟩
def Ca(g:Cfg):MS:=retS (eh [dA (dk "str") (ae 0),av inD (ae 0) (ah (.tup [.str "new",.str "changed",.str "gone",.str "two new",.str "two changed",.str "torn"]))])
def Dl(g:Cfg):MS:=aA (dF (cH [bz (ao (aC 2 g [] (af [ae 1]))),ao (av dq (aJ cN (af [ae 1])) (aJ cN (af [ah (.tup [.str "new",.str "changed",.str "gone",.str "two new",.str "two changed",.str "torn"])])))]) (pU 2 (ah .non)) (bq)) (aA (bV fuel (.tp [.nm 2,.nm 3]) (oM (af [ah (.tup [.str "new",.str "changed",.str "gone",.str "two new",.str "two changed",.str "torn"]),ae 1])) (dF (bz (ao (aC 11 g [] (af [ae 2,ae 3])))) (pU 2 (ae 2)) (bq))) (sG (fO [(11,0)]) (ae 0) (aJ fm (af [ae 1]))))
class F_13(P:Nat→Option Dfn):Prop where
 at_:P 13=some ⟨2,4,Dl⟩
def A0(g:Cfg):MS:=retS (eh [dA (dB [10,11] 11) (ae 1),av dH (cG (fO [(11,0)]) (ae 0)) (cG (fO [(11,0)]) (ae 1))])
def zR(g:Cfg):MS:=aA (dF (bz (ao (dA (dB [10,11] 11) (ae 1)))) (CY) (bq)) (retS (aJ cN (af [jY fuel [2,3,4] (.tp [.nm 2,.nm 3,.nm 4]) (l6 (af [ah (.tup [.str "new",.str "changed",.str "gone",.str "two new",.str "two changed",.str "torn"]),cG (fO [(11,0)]) (ae 0),cG (fO [(11,0)]) (ae 1)])) (ao (av dq (ae 3) (ae 4))) (ae 2)])))
def Dq(g:Cfg):MS:=retS (av aN (cG (fO [(11,0)]) (ae 0)) (vZ ["new","changed","gone","two new","two changed","torn"] (ae 1)))
class F_19(P:Nat→Option Dfn):Prop where
 at_:P 19=some ⟨2,2,Dq⟩
def Et(g:Cfg):MS:=aA (dF (cH [bz (ao (aC 12 g [] (af [ae 1]))),bz (ao (aC 11 g [] (af [ae 1,ae 2])))]) (pU 2 (ae 1)) (bq)) (retS (qK 11 13 g [] (af [jY fuel [3] (.nm 3) (aI (ah (.tup [.str "new",.str "changed",.str "gone",.str "two new",.str "two changed",.str "torn"]))) (gM) (tS (ao (av dH (ae 3) (ae 1))) (ae 2) (fE 11 19 g [] (ae 0) (af [ae 3])))])))
def BB(g:Cfg):MS:=aA (aM false 2 (av aP (jE (ae 0) (some (ae 1)) none) (jE (ae 0) none (some (ae 1))))) (aA (aM false 3 (jY fuel [4] (.nm 4) (aI (ae 2)) (ao (av DJ (ae 4) (av ou (ah (.int 10)) (ah (.int 18))))) (ae 4))) (aA (aM false 5 (av aP (ah (.int 97)) (ae 1))) (aA (bV fuel (.nm 4) (aI (ae 2)) (aM false 5 (av dU (aJ intD (af [av aP (av bQ (ae 5) (ah (.int 48271))) (ae 4)])) (ah (.int 2147483647))))) (retS (qE [(ah (.str "left"),tS (ao (av dq (ae 3) (bo (af [])))) (av aN (ae 3) (ah (.int 0))) (ah (.int 0))),(ah (.str "seed"),ae 5),(ah (.str "cells"),av aP (ae 2) (bo (af [av aP (av bQ (ah (.int 31)) (ae 1)) (ah (.int 5))]))),(ah (.str "spot"),ah (.int 0))])))))
class F_200(P:Nat→Option Dfn):Prop where
 at_:P 200=some ⟨2,6,BB⟩
def Bv(g:Cfg):MS:=aA (dF (ao (av AY (av aN (ae 0) (ah (.str "left"))) (ah (.int 0)))) (aA (aM false 2 (av dU (aJ intD (af [av aN (ae 0) (ah (.str "left"))])) (ae 1))) (aA (dQ (ae 0) (ah (.str "left")) (av iy (av aN (ae 0) (ah (.str "left"))) (ae 1))) (retS (ae 2)))) (bq)) (aA (aM false 3 (av aN (ae 0) (ah (.str "spot")))) (aA (dQ (ae 0) (ah (.str "spot")) (av aP (ae 3) (ah (.int 1)))) (aA (gU 4 5 (bH [(false,av aN (ae 0) (ah (.str "cells"))),(false,av aP (av aN (ae 0) (ah (.str "seed"))) (av bQ (av bQ (ah (.int 40503)) (ae 3)) (ae 3)))])) (aA (aM false 6 (av aN (ae 4) (av dU (aJ intD (af [ae 3])) (aJ cN (af [ae 4]))))) (aA (aM false 7 (av dU (aJ intD (af [av aP (av bQ (ae 6) (av aP (av bQ (ah (.int 2)) (ae 3)) (ah (.int 3)))) (ae 5)])) (ah (.int 2147483647)))) (aA (aM false 7 (av dU (aJ intD (af [av aP (av aP (av bQ (ae 7) (ae 7)) (av bQ (ah (.int 69621)) (ae 3))) (av aN (ae 0) (ah (.str "seed")))])) (ah (.int 2147483629)))) (retS (av dU (av iy (av dU (aJ intD (af [av aP (av bQ (ae 7) (ah (.int 48271))) (ae 3)])) (ah (.int 2147483647))) (ah (.int 11))) (ae 1)))))))))
class F_201(P:Nat→Option Dfn):Prop where
 at_:P 201=some ⟨2,8,Bv⟩
def Bf(g:Cfg):MS:=retS (av aN (ae 1) (aC 201 g [] (af [ae 0,aJ cN (af [ae 1])])))
class F_202(P:Nat→Option Dfn):Prop where
 at_:P 202=some ⟨2,2,Bf⟩
def yA(g:Cfg):MS:=aA (dF (ao (av FZ (ae 0) (ah (.int 3)))) (retS (bo (af [ah (.str "spread"),ah (.str "back"),ah (.str "leave")]))) (bq)) (retS (tS (ao (av FZ (ae 0) (ah (.int 5)))) (bo (af [ah (.str "lesser"),ah (.str "greater"),ah (.str "leave")])) (bo (af [ah (.str "content"),ah (.str "gone"),ah (.str "leave")]))))
class F_225(P:Nat→Option Dfn):Prop where
 at_:P 225=some ⟨1,1,yA⟩
def wC(g:Cfg):MS:=aA (gU 1 2 (bH [(false,aC 201 g [] (af [ae 0,ah (.int 4)])),(true,bo (af [ah (.str "spread"),ah (.str "spread"),ah (.str "spread"),ah (.str "leave"),ah (.str "leave"),ah (.str "leave")]))])) (aA (bV fuel (.nm 3) (fk cu (af [ah (.int 6)])) (aA (dF (cH [ao (av dH (ae 1) (ah (.int 0))),ao (av dH (aC 201 g [] (af [ae 0,ah (.int 4)])) (ah (.int 0)))]) (dQ (ae 2) (ae 3) (aC 202 g [] (af [ae 0,aC 225 g [] (af [ae 3])]))) (bq)) (dF (fG [ao (av dH (ae 1) (ah (.int 1))),ao (av dH (av aN (ae 2) (ae 3)) (ah (.str "leave")))]) (dQ (ae 2) (ae 3) (av aN (aC 225 g [] (af [ae 3])) (aC 201 g [] (af [ae 0,ah (.int 2)])))) (bq)))) (retS (aJ fm (af [ae 2]))))
class F_226(P:Nat→Option Dfn):Prop where
 at_:P 226=some ⟨1,4,wC⟩
end Bd
namespace Lw_k04
open PySem L2 PyProof.Rows LamX He Ev Bd
abbrev Pr:Program:=PySem.Challenge.pw_pairsettle_k04_whole_all_tables
def top(i:Nat):Stmt:=Pr.main.body.getD i (.Pass ⟨0,0,0,0⟩)
def j5(i j:Nat):Stmt:=(clsBody (top i)).getD j (.Pass ⟨0,0,0,0⟩)
def eO(g:Cfg):MGF:=eE (oF (aM false 0 (bo (af [fF (af [])])))) (eE (oF (bV fuel (.nm 1) (aI (ah (.tup [.str "new",.str "changed",.str "gone",.str "two new",.str "two changed",.str "torn"]))) (aM false 0 (fb (nN [2,3] [3] (.nm 2) (aI (ae 0)) (gM) (aI (ve (xQ [("new",("ONE_SIDED",["back","leave","spread"])),("changed",("ONE_SIDED",["back","leave","spread"])),("gone",("ONE_SIDED",["back","leave","spread"])),("two new",("BOTH_SIDED",["greater","leave","lesser"])),("two changed",("BOTH_SIDED",["greater","leave","lesser"])),("torn",("TORN_APART",["content","gone","leave"]))]) (ae 1))) (.nm 3) (gM) (av aP (ae 2) (fF (af [ae 3])))))))) (eE (l7 (.nm 2) (aI (ae 0)) (eE (vF (qK 11 13 g [] (af [ae 2]))) (pW))) (pW)))
def A0(g:Cfg):MS:=retS (eh [dA (dB [11] 11) (ae 1),av dH (cG (fO [(11,0)]) (ae 0)) (cG (fO [(11,0)]) (ae 1))])
def zR(g:Cfg):MS:=aA (dF (bz (ao (dA (dB [11] 11) (ae 1)))) (CY) (bq)) (retS (aJ cN (af [jY fuel [2,3,4] (.tp [.nm 2,.nm 3,.nm 4]) (l6 (af [ah (.tup [.str "new",.str "changed",.str "gone",.str "two new",.str "two changed",.str "torn"]),cG (fO [(11,0)]) (ae 0),cG (fO [(11,0)]) (ae 1)])) (ao (av dq (ae 3) (ae 4))) (ae 2)])))
def vY(g:Cfg):MS:=aA (aM false 0 (bo (af [fF (af [])]))) (aA (bV fuel (.nm 1) (fk cu (af [ah (.int 6)])) (aA (aM true 2 (bo (af []))) (aA (bV fuel (.nm 3) (aI (ae 0)) (je (fg "list" eR (ae 2) (af [jY fuel [4] (.nm 4) (aI (aJ eV (af [aC 225 g [] (af [ae 1])]))) (gM) (av aP (ae 3) (fF (af [ae 4])))])))) (aM false 0 (ae 2))))) (retS (ae 0)))
def yv(g:Cfg):MS:=retS (aJ cN (af [jY fuel [2] (.nm 2) (fk cu (af [ah (.int 6)])) (ao (av dq (av aN (ae 0) (ae 2)) (av aN (ae 1) (ae 2)))) (ae 2)]))
def yu(g:Cfg):MS:=aA (aM false 2 (ah (.int 0))) (aA (Ex.forTS 11 Ex.tabR (.nm 3) (aA (dF (cH [bz (ao (dA (dB [11] 11) (ae 3))),ao (av dq (aJ bh (af [cG (fO [(11,0)]) (ae 3)])) (aJ bh (af [av aN (ae 0) (ae 2)])))]) (retS (ah (.bl false))) (bq)) (aA (aM false 2 (av aP (ae 2) (ah (.int 1)))) (dF (ao (av AY (ae 2) (ae 1))) (Ds) (bq))))) (retS (av dH (ae 2) (aJ fB (af [ah (.int 729),av aP (ae 1) (ah (.int 1))])))))
def vT(g:Cfg):MS:=aA (gU 2 3 (bH [(false,qK 11 13 g [] (af [ae 1])),(true,av bQ (bo (af [ah (.int 0)])) (ah (.int 7)))])) (aA (Ex.forTS 11 Ex.tabR (.nm 4) (aA (aM false 5 (aC 240 g [] (af [ae 1,cG (fO [(11,0)]) (ae 4)]))) (aA (dQ (ae 3) (ae 5) (av aP (av aN (ae 3) (ae 5)) (ah (.int 1)))) (dF (ao (av dq (aJ bh (af [bo (af [eI (fq g 11 18) (ae 2) (ae 4),eI (fq g 11 18) (ae 4) (ae 2),eI (gm g 11 15 [11]) (ae 2) (ae 4)])])) (aJ bh (af [bo (af [ae 5,ae 5,av dH (ae 5) (ah (.int 0))])])))) (retS (ah (.bl false))) (bq))))) (retS (av dH (ae 3) (bo (af [ah (.int 1),ah (.int 12),ah (.int 60),ah (.int 160),ah (.int 240),ah (.int 192),ah (.int 64)])))))
def xg(g:Cfg):MS:=aA (lE 2 3 4 (bH [(false,qK 11 13 g [] (af [ae 1])),(false,bo (af [ah (.str "new"),ah (.str "changed"),ah (.str "gone"),ah (.str "two new"),ah (.str "two changed"),ah (.str "torn")])),(true,bo (af []))])) (aA (bV fuel (.nm 5) (fk cu (af [ah (.int 6)])) (bV fuel (.nm 6) (aI (aC 225 g [] (af [ae 5]))) (aA (aM false 7 (cG (fO [(11,0)]) (fE 11 20 g [] (ae 2) (af [av aN (ae 3) (ae 5),ae 6])))) (dF (ao (av dq (ae 7) (ae 1))) (je (fg "list" fM (ae 4) (af [ae 7]))) (bq))))) (retS (av dH (aJ Sr.sortTD (af [ae 4])) (jY fuel [8] (.nm 8) (aI (ae 0)) (ao (av dH (aC 240 g [] (af [ae 8,ae 1])) (ah (.int 1)))) (ae 8)))))
def o8(g:Cfg):MS:=aA (aM false 1 (aC 239 g [] (af []))) (aA (dF (cH [ao (av dq (aJ cN (af [ae 1])) (ah (.int 729))),ao (av dq (aJ bh (af [fb (rQ 4 (eO g) [2] (.nm 2) (cG (fO [(11,0)]) (ae 2)))])) (aJ bh (af [ae 1])))]) (retS (ah (.bl false))) (bq)) (aA (bV fuel (.nm 3) (fk cu (af [av aP (ah (.int 1)) (aJ fB (af [aJ cN (af [ae 0]),ah (.int 3)]))])) (aA (aM true 4 (aC 200 g [] (af [ae 0,ae 3]))) (aA (gU 5 6 (bH [(false,aC 201 g [] (af [ae 4,ah (.int 729)])),(false,aC 226 g [] (af [ae 4]))])) (aA (dF (cH [bz (ao (aC 241 g [] (af [ae 1,ae 5]))),bz (ao (aC 242 g [] (af [ae 1,ae 6])))]) (retS (ah (.bl false))) (bq)) (aA (dF (cH [ao (av dq (cG (fO [(11,0)]) (av aN (Ex.listTF 11 Ex.tabR) (ae 5))) (av aN (ae 1) (ae 5))),bz (ao (aC 243 g [] (af [ae 1,av aN (ae 1) (ae 5)])))]) (retS (ah (.bl false))) (bq)) (dF (ao (av dq (fg "list" fC (ae 1) (af [ae 6])) (ah (.int 1)))) (retS (ah (.bl false))) (bq))))))) (aA (S1.forZS 11 Ex.tabR (.tp [.nm 7,.nm 8]) (dF (cH [bz (ao (eI (gm g 11 15 [11]) (ae 7) (ae 8))),ao (av dq (aJ bh (af [eI (fq g 11 18) (ae 7) (ae 8)])) (aJ bh (af [ah (.int 0)])))]) (retS (ah (.bl false))) (bq))) (retS (eh [aC 241 g [] (af [ae 1,ah (.int 728)]),aC 241 g [] (af [ae 1,ah (.int 0)])])))))
def Pg:Nat→Option Dfn:=fun i=>match i with
 |2=>some ⟨1,1,IW⟩
 |11=>some ⟨2,2,Ai⟩
 |12=>some ⟨1,1,Ca⟩
 |13=>some ⟨2,4,Dl⟩
 |15=>some ⟨2,2,A0⟩
 |18=>some ⟨2,5,zR⟩
 |19=>some ⟨2,2,Dq⟩
 |20=>some ⟨3,4,Et⟩
 |200=>some ⟨2,6,BB⟩
 |201=>some ⟨2,8,Bv⟩
 |202=>some ⟨2,2,Bf⟩
 |225=>some ⟨1,1,yA⟩
 |226=>some ⟨1,4,wC⟩
 |239=>some ⟨0,5,vY⟩
 |240=>some ⟨2,3,yv⟩
 |241=>some ⟨2,4,yu⟩
 |242=>some ⟨2,6,vT⟩
 |243=>some ⟨2,9,xg⟩
 |244=>some ⟨1,9,o8⟩
 |_=>none
instance:Bd.F_2 Pg:=⟨rfl⟩
instance:Bd.F_11 Pg:=⟨rfl⟩
instance:Bd.F_13 Pg:=⟨rfl⟩
instance:Bd.F_19 Pg:=⟨rfl⟩
instance:Bd.F_200 Pg:=⟨rfl⟩
instance:Bd.F_201 Pg:=⟨rfl⟩
instance:Bd.F_202 Pg:=⟨rfl⟩
instance:Bd.F_225 Pg:=⟨rfl⟩
instance:Bd.F_226 Pg:=⟨rfl⟩
def HL:DefD:=⟨("is_list",none),"is_list","is_list",defArgs (top 5),defBody (top 5),defScope (top 5),[],[]⟩
def FV:DefD:=⟨("is_rule",none),"is_rule","is_rule",defArgs (top 24),defBody (top 24),defScope (top 24),[],[]⟩
def Gq:DefD:=⟨("is_case",none),"is_case","is_case",defArgs (top 25),defBody (top 25),defScope (top 25),[],[]⟩
def G7:DefD:=⟨("Table",some "__init__"),"__init__","Table.__init__",defArgs (j5 26 1),defBody (j5 26 1),defScope (j5 26 1),[],[]⟩
def Fq:DefD:=⟨("Table",some "__eq__"),"__eq__","Table.__eq__",defArgs (j5 26 3),defBody (j5 26 3),defScope (j5 26 3),[],[]⟩
def FE:DefD:=⟨("Table",some "__sub__"),"__sub__","Table.__sub__",defArgs (j5 26 6),defBody (j5 26 6),defScope (j5 26 6),[],[]⟩
def FU:DefD:=⟨("Table",some "rule_of"),"rule_of","Table.rule_of",defArgs (j5 26 7),defBody (j5 26 7),defScope (j5 26 7),[],[]⟩
def G9:DefD:=⟨("Table",some "with_rule"),"with_rule","Table.with_rule",defArgs (j5 26 8),defBody (j5 26 8),defScope (j5 26 8),[],[]⟩
def Ff:DefD:=⟨("all_tables",none),"all_tables","all_tables",defArgs (top 27),defBody (top 27),defScope (top 27),[],[]⟩
def CD:DefD:=⟨("_law_begun",none),"_law_begun","_law_begun",defArgs (top 29),defBody (top 29),defScope (top 29),[],[]⟩
def CB:DefD:=⟨("_law_draw",none),"_law_draw","_law_draw",defArgs (top 30),defBody (top 30),defScope (top 30),[],[]⟩
def DV:DefD:=⟨("_law_of",none),"_law_of","_law_of",defArgs (top 31),defBody (top 31),defScope (top 31),[],[]⟩
def CW:DefD:=⟨("_law_words",none),"_law_words","_law_words",defArgs (top 32),defBody (top 32),defScope (top 32),[],[]⟩
def Dc:DefD:=⟨("_law_rules",none),"_law_rules","_law_rules",defArgs (top 33),defBody (top 33),defScope (top 33),[],[]⟩
def CV:DefD:=⟨("_law_every",none),"_law_every","_law_every",defArgs (top 34),defBody (top 34),defScope (top 34),[],[]⟩
def CS:DefD:=⟨("_law_gap",none),"_law_gap","_law_gap",defArgs (top 35),defBody (top 35),defScope (top 35),[],[]⟩
def E8:DefD:=⟨("_law_left_right",none),"_law_left_right","_law_left_right",defArgs (top 36),defBody (top 36),defScope (top 36),[],[]⟩
def CP:DefD:=⟨("_law_from_right",none),"_law_from_right","_law_from_right",defArgs (top 37),defBody (top 37),defScope (top 37),[],[]⟩
def Ez:DefD:=⟨("_law_near_right",none),"_law_near_right","_law_near_right",defArgs (top 38),defBody (top 38),defScope (top 38),[],[]⟩
def yB:DefD:=⟨("law",none),"law","law",defArgs (top 39),defBody (top 39),defScope (top 39),[],[]⟩
def yi:ExD:=⟨"BadTable","ValueError","ValueError.__init__","ValueError.__new__",[.type "ValueError",.type "Exception",.type "BaseException",.type "object"],"place","place","BadTable.__init__",j5 3 0⟩
def Hl(c:Nat):Str:=["PairError","BadWeb","BadTable","BadStanding","BadDeed","BadPromise","BadName","BadText","TooGreat","Missing","Web","Table","Trial","Fleet","Desk","kept_behind","gone_behind"].getD c ""
def IG(c:Nat):Str:=["","","place","","","","","","","","","","","",""].getD c ""
def tf:List Defn:=[]
def Hx:List (Defn×Str):=[]
def Hr:List (Defn×Str):=[]
def w0:World:=⟨fun _ _=>0,{ strHash:=fun _=>0,shareClass:=fun a=>a,mergeTok:=fun t=>t,idOf:=fun _=>0,idOfShared:=fun _ _=>0,followText:=fun _=>false,idOfImm:=fun _=>0}⟩
def cg(w:World)(K:PySem.W.Frag):Gm:={ K:=K,cls:=fun c=>ga K (Hl c),fn:=fun n=>ga K (Hl n),xf:=IG,T:=Hx.map fun p=>((cT K p.1).2,p.2),w:=w,U:=Hr.map fun p=>((cT K p.1).2,p.2),nq:=""}
def fa:List Fa:=[.free "len",
 .free "repr",
 .free "range",
 .free "min",
 .free "list",
 .free "zip",
 .free "isinstance",
 .glo "Table",
 .glo "CASES",
 .free "sorted",
 .glo "BadTable",
 .free "str",
 .glo "RULES",
 .free "tuple",
 .free "int",
 .glo "is_list",
 .glo "is_rule",
 .glo "is_case",
 .glo "all_tables",
 .glo "_law_begun",
 .glo "_law_draw",
 .glo "_law_of",
 .glo "_law_words",
 .glo "_law_rules",
 .glo "_law_every",
 .glo "_law_gap",
 .glo "_law_left_right",
 .glo "_law_from_right",
 .glo "_law_near_right",
 .glo "law"]
def fn:List DefD:=[HL,FV,Gq,G7,Fq,FE,FU,G9,Ff,CD,CB,DV,CW,Dc,CV,CS,E8,CP,Ez,yB]
def sP:Tab:=(fun K=>ga K "RULES",["new","changed","gone","two new","two changed","torn"])
def ts:List Tab:=[sP]
def gs:List GD:=[]
def xs:List ExD:=[yi]
def jg:PySem.W.Frag→Bool:=fun K=>Bs (cg w0 K) "rules" [(11,0)]
def Di:PySem.W.Frag→Bool:=fun K=>xH (cg w0 K) [11] 11
def ze:PySem.W.Frag→Bool:=fun K=>PySem.W.selfFirst K (ga K "Table")
def AD:PySem.W.Frag→Bool:=fun K=>ql (cg w0 K) [11] 11
def kH:PySem.W.Frag→Bool:=fun K=>EE K (ga K "CASES") ["new","changed","gone","two new","two changed","torn"]
def AR:PySem.W.Frag→Bool:=fun K=>FN K (ga K "RULES") [("new",("ONE_SIDED",["back","leave","spread"])),("changed",("ONE_SIDED",["back","leave","spread"])),("gone",("ONE_SIDED",["back","leave","spread"])),("two new",("BOTH_SIDED",["greater","leave","lesser"])),("two changed",("BOTH_SIDED",["greater","leave","lesser"])),("torn",("TORN_APART",["content","gone","leave"]))]
def Cy:PySem.W.Frag→Bool:=fun K=>Fc K (ga K "Table")
def FH:PySem.W.Frag→Bool:=fun K=>jc K (ga K "Table") "__eq__"
def F9:PySem.W.Frag→Bool:=fun K=>jc K (ga K "Table") "__sub__"
def zY:PySem.W.Frag→Bool:=fun K=>jM K (ga K "Table")
def Br:PySem.W.Frag→Bool:=fun K=>jc K (ga K "Table") "rule_of"
def Bx:PySem.W.Frag→Bool:=fun K=>jc K (ga K "Table") "with_rule"
def Bh:PySem.W.Frag→Bool:=fun K=>oi K (ga K "Table") "rules" 0
def Bt:PySem.W.Frag→Bool:=fun K=>I8 Pr K yi (ga K yi.cls) (fAd K yi.at_)
def FY:PySem.W.Frag→Bool:=fun K=>(K.lookup sysModules).isSome
def Bn:PySem.W.Frag→Bool:=fun K=>K.all fun q=> !decide (q.2.cls= .type "list")
def vd:List (PySem.W.Frag→Bool):=[jg,Di,ze,AD,kH,AR,Cy,FH,F9,zY,Br,Bx,Bh,Bt,FY,Bn]
abbrev Fw(w:World)(K:PySem.W.Frag)(mg:Str→Option Value)(base:Heap):Prop:=Ft fa fn ts tf xs gs vd w K mg base
def Eu:List Str:=["_wall","PairError","BadTable","is_list","CASES","NEW","CHANGED","GONE","TWO_NEW","TWO_CHANGED","TORN","SPREAD"]
def DS:List Str:=["BACK","LEAVE","LESSER","GREATER","CONTENT","ONE_SIDED","BOTH_SIDED","TORN_APART","RULES","is_rule","is_case","Table"]
def Ck:List Str:=["all_tables","_law_begun","_law_draw","_law_of","_law_words","_law_rules","_law_every","_law_gap","_law_left_right","_law_from_right","_law_near_right"]
def loose:List Str:=Eu++DS++Ck
abbrev R:PySem.W.OpenRow:=PySem.W.OpenLaw.row PySem.Challenge.rw_pairsettle_k04_whole_all_tables
def IL:PySem.W.Frag→Bool:=fun K=>vd.all fun c=>c K
abbrev hk:PySem.W.Hook:=Bo 5 fa fn ts tf xs gs IL
def ob(s:PySem.W.SharedT):C5:=yY 5 fa fn ts tf xs gs IL (HandSHeadRun.getT s)
theorem GO(s:PySem.W.SharedT):ob s=hk.obs s.abs:=zV (HandSHeadRun.getT_eq s)
theorem Av{α β γ:Type}{x:Option α}{f:α→β}{h:α→γ}{b:β}{c:γ}(h1:x.map f=some b)(h2:x.map h=some c):x.map (fun s=>(f s,h s))=some (b,c):=by
 cases x with
 |none=>cases h1
 |some s=>
  have h1:some (f s)=some b:=h1
  have h2:some (h s)=some c:=h2
  show some (f s,h s)=some (b,c)
  rw[Jq h1,Jq h2]
open HandSHeadRun PySem PySem.W PySem.Calls PyProof.Rows in
theorem G2(w:World)(os:OsState):(endF (stepQ (denQ tabQ) R.prog (w.withFollow "special-get-raises" false)) 9000 R.prog (w.withFollow "special-get-raises" false) os).map (fun s=>looksF R.prog (boot_heap (w.withFollow "special-get-raises" false).params) s.abs)=some (true):=by
 kernel_rfl
open HandSHeadRun PySem PySem.W PySem.Calls PyProof.Rows in
theorem GU(w:World)(os:OsState):(endF (stepQ (denQ tabQ) R.prog (w.withFollow "special-get-raises" false)) 9000 R.prog (w.withFollow "special-get-raises" false) os).map (fun s=>seenQ (PySem.W.view R.prog [39]) loose (importedModules R.prog.main.body) (fun s=>xlAt (PySem.W.view R.prog [39]) [] s&&recOk R.toRowW.records s) s.abs)=some (openGood (PySem.W.view R.prog [39]) loose):=by
 kernel_rfl
open HandSHeadRun PySem PySem.W PySem.Calls PyProof.Rows in
theorem GN(w:World)(os:OsState):(endF (stepQ (denQ tabQ) R.prog (w.withFollow "special-get-raises" false)) 9000 R.prog (w.withFollow "special-get-raises" false) os).map (fun s=>ob s)=some (hk.val (w.withFollow "special-get-raises" false)):=by
 kernel_rfl
theorem ID(w:World):HandSHeadRun.RunEq R (PySem.W.view R.prog [39]) hk ob 9000 loose (w.withFollow "special-get-raises" false):=fun os=>Av (G2 w os) (Av (GU w os) (GN w os))
open HandSHeadRun PySem PySem.W PySem.Calls PyProof.Rows in
theorem EZ(w:World)(os:OsState):(endF (stepQ (denQ tabQ) R.prog (w.withFollow "special-get-raises" true)) 9000 R.prog (w.withFollow "special-get-raises" true) os).map (fun s=>looksF R.prog (boot_heap (w.withFollow "special-get-raises" true).params) s.abs)=some (true):=by
 kernel_rfl
open HandSHeadRun PySem PySem.W PySem.Calls PyProof.Rows in
theorem FL(w:World)(os:OsState):(endF (stepQ (denQ tabQ) R.prog (w.withFollow "special-get-raises" true)) 9000 R.prog (w.withFollow "special-get-raises" true) os).map (fun s=>seenQ (PySem.W.view R.prog [39]) loose (importedModules R.prog.main.body) (fun s=>xlAt (PySem.W.view R.prog [39]) [] s&&recOk R.toRowW.records s) s.abs)=some (openGood (PySem.W.view R.prog [39]) loose):=by
 kernel_rfl
open HandSHeadRun PySem PySem.W PySem.Calls PyProof.Rows in
theorem EX(w:World)(os:OsState):(endF (stepQ (denQ tabQ) R.prog (w.withFollow "special-get-raises" true)) 9000 R.prog (w.withFollow "special-get-raises" true) os).map (fun s=>ob s)=some (hk.val (w.withFollow "special-get-raises" true)):=by
 kernel_rfl
theorem Ie(w:World):HandSHeadRun.RunEq R (PySem.W.view R.prog [39]) hk ob 9000 loose (w.withFollow "special-get-raises" true):=fun os=>Av (EZ w os) (Av (FL w os) (EX w os))
theorem run(w:World):HandSHeadRun.RunEq R (PySem.W.view R.prog [39]) hk ob 9000 loose w:=PySem.W.byRow2 "special-get-raises" (P:=fun w=>HandSHeadRun.RunEq R (PySem.W.view R.prog [39]) hk ob 9000 loose w) ID Ie w
end Lw_k04
namespace Bd
open PySem L2 Ev
mutual
def eA:Nat→D→Bool
 |_,.non=>true
 |_,.bl _=>true
 |_,.int _=>true
 |_,.str x=>PyData.strOk x
 |n+1,.tup xs=>iM n xs
 |n+1,.lst xs=>iM n xs
 |n+1,.scr xs=>iM n xs
 |_,_=>false
def iM:Nat→List D→Bool
 |_,[]=>true
 |n,d::ds=>eA n d&&iM n ds
end
mutual
def cB:D→D→Bool
 | .non,.non=>true
 | .bl a,.bl b=>a==b
 | .bl a,.int j=>(if a then 1 else 0)==j
 | .int i,.bl b=>i==(if b then 1 else 0)
 | .int i,.int j=>i==j
 | .str x,.str y=>x==y
 | .lst xs,.lst ys=>cP xs ys
 | .lst xs,.scr ys=>cP xs ys
 | .scr xs,.lst ys=>cP xs ys
 | .scr xs,.scr ys=>cP xs ys
 | .tup xs,.tup ys=>cP xs ys
 |_,_=>false
def cP:List D→List D→Bool
 | [],[]=>true
 |x::xs,y::ys=>cB x y&&cP xs ys
 |_,_=>false
end
mutual
theorem wD:∀ (n:Nat) (d:D),eA n d=true→∃p,cO d=some p∧p.canLay0=true∧p.depth≤n
 |n,.non,_=>⟨.none,by unfold cO;rfl,by unfold PyData.canLay0;rfl,by unfold PyData.depth;exact Nat.zero_le _⟩
 |n,.bl b,_=>⟨.bool b,by unfold cO;rfl,by unfold PyData.canLay0;rfl,by unfold PyData.depth;exact Nat.zero_le _⟩
 |n,.int i,_=>⟨.int i,by unfold cO;rfl,by unfold PyData.canLay0;rfl,by unfold PyData.depth;exact Nat.zero_le _⟩
 |n,.str x,h=>⟨.str x,by unfold cO;rfl,by unfold PyData.canLay0;simpa [eA] using h,by unfold PyData.depth;exact Nat.zero_le _⟩
 |0,.tup xs,h=>by simp[eA] at h
 |0,.lst xs,h=>by simp[eA] at h
 |0,.scr xs,h=>by simp[eA] at h
 |n+1,.tup xs,h=>by
  obtain⟨ps,h1,h2,h3⟩:=jl n xs (by simpa [eA] using h)
  exact⟨.tuple ps,by unfold cO;rw[h1];rfl,by unfold PyData.canLay0;exact h2,by unfold PyData.depth;omega⟩
 |n+1,.lst xs,h=>by
  obtain⟨ps,h1,h2,h3⟩:=jl n xs (by simpa [eA] using h)
  exact⟨.list ps,by unfold cO;rw[h1];rfl,by unfold PyData.canLay0;exact h2,by unfold PyData.depth;omega⟩
 |n+1,.scr xs,h=>by
  obtain⟨ps,h1,h2,h3⟩:=jl n xs (by simpa [eA] using h)
  exact⟨.list ps,by unfold cO;rw[h1];rfl,by unfold PyData.canLay0;exact h2,by unfold PyData.depth;omega⟩
 |n,.dct _ _,h=>by cases n<;>simp[eA] at h
 |n,.dcn _ _,h=>by cases n<;>simp[eA] at h
 |n,.ins _ _,h=>by cases n<;>simp[eA] at h
 |n,.exc _ _,h=>by cases n<;>simp[eA] at h
 |n,.glb _,h=>by cases n<;>simp[eA] at h
 |n,.clo _ _,h=>by cases n<;>simp[eA] at h
 |n,.ref _,h=>by cases n<;>simp[eA] at h
theorem jl:∀ (n:Nat) (ds:List D),iM n ds=true→∃ps,cJ ds=some ps∧PyData.canLayAll0 ps=true∧PyData.depthAll ps≤n
 |n,[],_=>⟨[],by unfold cJ;rfl,by unfold PyData.canLayAll0;rfl,by unfold PyData.depthAll;exact Nat.zero_le _⟩
 |n,d::ds,h=>by
  unfold iM at h
  obtain⟨h1,h2⟩:=Jn.mp h
  obtain⟨p,a1,a2,a3⟩:=wD n d h1
  obtain⟨ps,b1,b2,b3⟩:=jl n ds h2
  exact⟨p::ps,by unfold cJ;rw[a1,b1],by unfold PyData.canLayAll0;rw[a2,b2];rfl,by unfold PyData.depthAll;exact Nat.max_le.mpr ⟨a3,b3⟩⟩
end
mutual
theorem mf:∀ (a b:D) (p q:PyData),cO a=some p→cO b=some q→PyData.eqv p q=cB a b:=by
 intro a b p q h1 h2
 cases a with
 |non=>unfold cO at h1;cases h1;cases b<;>(unfold cO at h2;first| (cases h2<;>(unfold cB PyData.eqv;rfl))| (obtain⟨_,_,rfl⟩:=Jh.mp h2;unfold cB PyData.eqv;rfl))
 |bl x=>unfold cO at h1;cases h1;cases b<;>(unfold cO at h2;first| (cases h2<;>(unfold cB PyData.eqv;rfl))| (obtain⟨_,_,rfl⟩:=Jh.mp h2;unfold cB PyData.eqv;rfl))
 |int x=>unfold cO at h1;cases h1;cases b<;>(unfold cO at h2;first| (cases h2<;>(unfold cB PyData.eqv;rfl))| (obtain⟨_,_,rfl⟩:=Jh.mp h2;unfold cB PyData.eqv;rfl))
 |str x=>unfold cO at h1;cases h1;cases b<;>(unfold cO at h2;first| (cases h2<;>(unfold cB PyData.eqv;rfl))| (obtain⟨_,_,rfl⟩:=Jh.mp h2;unfold cB PyData.eqv;rfl))
 |tup xs=>
  unfold cO at h1
  obtain⟨ps,e1,rfl⟩:=Jh.mp h1
  cases b with
  |tup ys=>
   unfold cO at h2
   obtain⟨qs,e2,rfl⟩:=Jh.mp h2
   unfold cB PyData.eqv
   exact fR xs ys ps qs e1 e2
  |_=>unfold cO at h2;first| (cases h2<;>(unfold cB PyData.eqv;rfl))| (obtain⟨_,_,rfl⟩:=Jh.mp h2;unfold cB PyData.eqv;rfl)
 |lst xs=>
  unfold cO at h1
  obtain⟨ps,e1,rfl⟩:=Jh.mp h1
  cases b with
  |lst ys=>
   unfold cO at h2
   obtain⟨qs,e2,rfl⟩:=Jh.mp h2
   unfold cB PyData.eqv
   exact fR xs ys ps qs e1 e2
  |scr ys=>
   unfold cO at h2
   obtain⟨qs,e2,rfl⟩:=Jh.mp h2
   unfold cB PyData.eqv
   exact fR xs ys ps qs e1 e2
  |_=>unfold cO at h2;first| (cases h2<;>(unfold cB PyData.eqv;rfl))| (obtain⟨_,_,rfl⟩:=Jh.mp h2;unfold cB PyData.eqv;rfl)
 |scr xs=>
  unfold cO at h1
  obtain⟨ps,e1,rfl⟩:=Jh.mp h1
  cases b with
  |lst ys=>
   unfold cO at h2
   obtain⟨qs,e2,rfl⟩:=Jh.mp h2
   unfold cB PyData.eqv
   exact fR xs ys ps qs e1 e2
  |scr ys=>
   unfold cO at h2
   obtain⟨qs,e2,rfl⟩:=Jh.mp h2
   unfold cB PyData.eqv
   exact fR xs ys ps qs e1 e2
  |_=>unfold cO at h2;first| (cases h2<;>(unfold cB PyData.eqv;rfl))| (obtain⟨_,_,rfl⟩:=Jh.mp h2;unfold cB PyData.eqv;rfl)
 |_=>unfold cO at h1;cases h1
theorem fR:∀ (as bs:List D) (ps qs:List PyData),cJ as=some ps→cJ bs=some qs→PyData.eqvAll ps qs=cP as bs
 | [],[],_,_,h1,h2=>by unfold cJ at h1 h2;cases h1;cases h2;unfold cP PyData.eqvAll;rfl
 | [],b::bs,_,_,h1,h2=>by
  unfold cJ at h1 h2;cases h1
  split at h2
  ·cases h2;unfold cP PyData.eqvAll;rfl
  ·cases h2
 |a::as,[],_,_,h1,h2=>by
  unfold cJ at h1 h2;cases h2
  split at h1
  ·cases h1;unfold cP PyData.eqvAll;rfl
  ·cases h1
 |a::as,b::bs,_,_,h1,h2=>by
  unfold cJ at h1 h2
  split at h1
  ·rename_i p ps e1 e2
   cases h1
   split at h2
   ·rename_i q qs e3 e4
    cases h2
    unfold cP PyData.eqvAll
    rw[mf a b p q e1 e3,fR as bs ps qs e2 e4]
   ·cases h2
  ·cases h1
end
theorem GP{n:Nat}{d:D}(h:eA n d=true)(S:a0):ib S d=cO d:=by
 cases d with
 |ref m=>cases n<;>simp[eA] at h
 |_=>rfl
theorem eW{d:D}(h:eA 64 d=true)(S:a0):∃p,ib S d=some p∧cO d=some p∧SeqAt.shaped p=true:=by
 obtain⟨p,h1,h2,h3⟩:=wD 64 d h
 exact⟨p,by rw[GP h,h1],h1,by unfold SeqAt.shaped;rw[h2,Ju h3];rfl⟩
theorem GW{S:a0}{a b:D}(ha:eA 64 a=true)(hb:eA 64 b=true):eqB S a b=some (cB a b):=by
 obtain⟨p,h1,h2,h3⟩:=eW ha S
 obtain⟨q,g1,g2,g3⟩:=eW hb S
 unfold eqB
 simp only[h1,g1,h3,g3,Bool.and_self,if_true,mf a b p q h2 g2]
theorem Ep{S:a0}{a b:D}(ha:eA 64 a=true)(hb:eA 64 b=true):dH S a b=some (.val (.bl (cB a b))):=by unfold dH;rw[GW ha hb];rfl
theorem Ib{S:a0}{a b:D}(ha:eA 64 a=true)(hb:eA 64 b=true):dq S a b=some (.val (.bl (!cB a b))):=by unfold dq;rw[GW ha hb];rfl
theorem sC{x:D}{p:PyData}(hp:cO x=some p):∀ (ds:List D) (ps:List PyData),cJ ds=some ps→(ps.any fun z=>PyData.eqv z p)=ds.any fun d=>cB d x
 | [],_,h=>by unfold cJ at h;cases h;rfl
 |d::ds,_,h=>by
  unfold cJ at h
  split at h
  ·rename_i q qs e1 e2
   cases h
   rw[List.any_cons,List.any_cons,mf d x q p e1 hp,sC hp ds qs e2]
  ·cases h
theorem Bb{S:a0}{x:D}{ds:List D}(hx:eA 64 x=true)(hd:eA 64 (.tup ds)=true):we S x (.tup ds)=some (ds.any fun d=>cB d x):=by
 obtain⟨p,h1,h2,h3⟩:=eW hx S
 obtain⟨q,g1,g2,g3⟩:=eW hd S
 unfold cO at g2
 obtain⟨ps,e,rfl⟩:=Jh.mp g2
 unfold we
 simp only[fX,g1,h1,g3,h3,Bool.and_self,if_true,sC h2 ds ps e]
theorem xY{S:a0}{x:D}{ds:List D}(hx:eA 64 x=true)(hd:eA 64 (.tup ds)=true):inD S x (.tup ds)=some (.val (.bl (ds.any fun d=>cB d x))):=by unfold inD;rw[Bb hx hd];rfl
theorem pJ{α:Type}{n:Nat}{g:α→D}:∀ {xs:List α},(∀x∈xs,eA n (g x)=true)→iM n (xs.map g)=true
 | [],_=>rfl
 |x::xs,h=>by
  rw[JG];unfold iM
  rw[h x (Jf ..),pJ fun y hy=>h y (Je _ hy)];rfl
theorem bf{α:Type}{g:α→D}:∀ {xs:List α},(∀x∈xs,free (g x)=true)→frees (xs.map g)=true
 | [],_=>rfl
 |x::xs,h=>by
  rw[JG];unfold frees
  rw[h x (Jf ..),bf fun y hy=>h y (Je _ hy)];rfl
theorem sR{α:Type}{t:Tg}{c:MT}{f:ME}{env:aq}{S:a0}(g:α→D)(p:α→Bool)(h:α→D):∀ (xs:List α),(∀x∈xs,∃e1,aV t (g x) env=some e1∧c e1 S= .ok (p x) S∧(p x=true→∃r,f e1 S= .ok r S∧r.d=h x))→
  yP t c f (xs.map g) env S= .ok ((xs.filter p).map h) S
 | [],_=>rfl
 |x::xs,hx=>by
  obtain⟨e1,h1,h2,h3⟩:=hx x (Jf ..)
  have ih:=sR g p h xs fun y hy=>hx y (Je _ hy)
  rw[JG]
  unfold yP
  rw[h1]
  simp only[h2,R.bind]
  cases hp:p x with
  |true=>
   obtain⟨r,h4,h5⟩:=h3 hp
   simp only[if_true,h4,R.bind,ih,h5,List.filter_cons,hp,JG]
  |false=>
   simp only[Bool.false_eq_true,if_false,ih,List.filter_cons,hp]
theorem mF{α:Type}{fl:Nat}{vs:List Nat}{t:Tg}{it:MI}{c:MT}{f:ME}{env:aq}{S:a0}(xs:List α)(g:α→D)(p:α→Bool)(h:α→D)(hi:it env S= .ok (.st (xs.map g)) S)
  (hx:∀x∈xs,∃e1,aV t (g x) (aF vs env)=some e1∧c e1 S= .ok (p x) S∧(p x=true→∃r,f e1 S= .ok r S∧r.d=h x)) (hl:xs.length≤16777216):
  jY fl vs t it c f env S= .ok (.new (.lst ((xs.filter p).map h))) S:=by
 have hlen:((xs.filter p).map h).length≤16777216:=by rw[Jt];exact Jx (List.length_filter_le _ _) hl
 unfold jY
 rw[hi]
 simp only[R.bind,rW,sR g p h xs hx,fW,if_pos hlen]
theorem xG{α:Type}{fl:Nat}{vs:List Nat}{t:Tg}{it:MI}{f:ME}{env:aq}{S:a0}(xs:List α)(g:α→D)(h:α→D)(hi:it env S= .ok (.st (xs.map g)) S)
  (hx:∀x∈xs,∃e1,aV t (g x) (aF vs env)=some e1∧∃r,f e1 S= .ok r S∧r.d=h x) (hl:xs.length≤16777216):
  jY fl vs t it gM f env S= .ok (.new (.lst (xs.map h))) S:=by
 have:=mF (fl:=fl) (vs:=vs) (t:=t) (c:=gM) (f:=f) xs g (fun _=>true) h hi (fun x hxx=>by
  obtain⟨e1,h1,h2⟩:=hx x hxx
  exact⟨e1,h1,rfl,fun _=>h2⟩) hl
 rwa [List.filter_eq_self.mpr fun _ _=>rfl] at this
theorem eL{α:Type}{t:Tg}{body:MS}(g:α→D)(I:List α→aq→a0→Prop):∀ (done xs:List α) (env:aq) (S:a0),(∀a b x env S,done++xs=a++x::b→I a env S→∃e1,aV t (g x) env=some e1∧∃e2 S2,(body e1 S= .nx e2 S2∨body e1 S= .cnt e2 S2)∧I (a++[x]) e2 S2)→
  I done env S→∃e2 S2,forL t body (xs.map g) env S= .nx e2 S2∧I (done++xs) e2 S2
 |done,[],env,S,_,h=>⟨env,S,rfl,by simpa using h⟩
 |done,x::xs,env,S,hs,h=>by
  obtain⟨e1,h1,e2,S2,h2,h3⟩:=hs done xs x env S rfl h
  obtain⟨e3,S3,h4,h5⟩:=eL g I (done++[x]) xs e2 S2 (fun a b y env S e=>hs a b y env S (by rw[← e];simp)) h3
  refine⟨e3,S3,?_,by simpa using h5⟩
  rw[JG]
  unfold forL
  rw[h1]
  rcases h2 with h2|h2<;>(simp only[h2];exact h4)
theorem dZ{fl:Nat}{t:Tg}{it:MI}{body:MS}{env:aq}{S S1:a0}{ds:List D}(hi:it env S= .ok (.st ds) S1):bV fl t it body env S=forL t body ds env S1:=by
 unfold bV
 rw[hi];rfl
theorem eq_int{S:a0}{i j:Int}:dH S (.int i) (.int j)=some (.val (.bl (i==j))):=rfl
theorem gt_int{S:a0}{i j:Int}:AY S (.int i) (.int j)=some (.val (.bl (decide (j<i)))):=rfl
theorem add_int{S:a0}{i j:Int}:aP S (.int i) (.int j)=some (.val (.int (i+j))):=rfl
theorem Ho{α:Type}{x:α}{xs:List α}:atI (x::xs) 0=some x:=by
 unfold atI ixN
 simp
theorem zO{α:Type}{x y:α}{xs:List α}:atI (x::y::xs) 1=some y:=by
 unfold atI ixN
 simp[show(1:Int)< (xs.length:Int)+1+1 by omega]
theorem at2{α:Type}{x y z:α}{xs:List α}:atI (x::y::z::xs) 2=some z:=by
 unfold atI ixN
 simp[show(2:Int)< (xs.length:Int)+1+1+1 by omega]
theorem EV:
  (∀ (f g:MS) (env:aq) (S:a0),aA f g env S=match f env S with| .nx e S1=>g e S1|r=>r)∧
  (∀ (c:MT) (f g:MS) (env:aq) (S:a0),dF c f g env S=(c env S).then env fun b S1=>if b then f env S1 else g env S1)∧
  (∀ (f:ME) (env:aq) (S:a0),retS f env S=(f env S).then env fun r S1=>.ret r S1)∧
  (∀ (f:ME) (env:aq) (S:a0),je f env S=(f env S).then env fun _ S1=>.nx env S1)∧
  (∀ (mt:Bool) (i:Nat) (f:ME) (env:aq) (S:a0),aM mt i f env S=(f env S).then env fun r S1=>.nx (env.set i (some (cq mt r S1).1)) (cq mt r S1).2)∧
  (∀ (i j:Nat) (m:MA) (env:aq) (S:a0),gU i j m env S=(m env S).then env fun ds S1=>match ds with| [d,e]=>.nx ((env.set i (some d)).set j (some e)) S1|_=>.bad)∧
  (∀ (i j l:Nat) (m:MA) (env:aq) (S:a0),lE i j l m env S=(m env S).then env fun ds S1=>match ds with| [d,e,f]=>.nx (((env.set i (some d)).set j (some e)).set l (some f)) S1|_=>.bad)∧
  (∀ (env:aq) (S:a0),bq env S= .nx env S)∧
  (∀ (t:Tg) (f:ME) (env:aq) (S:a0),HU t f env S=(f env S).then env fun r S1=>match aV t r.d env with|some e=>.nx e S1|none=>.bad)∧
  (∀ (c:Nat) (f:ME) (env:aq) (S:a0),pU c f env S=(f env S).then env fun r S1=>.ex (.exc c r.d) env S1)∧
  (∀ (f:MT),fG [f]=f)∧(∀ (f g:MT) (fs:List MT) (env:aq) (S:a0),fG (f::g::fs) env S=(f env S).bind fun b S1=>if b then fG (g::fs) env S1 else .ok false S1)∧
  (∀ (f:MT),cH [f]=f)∧(∀ (f g:MT) (fs:List MT) (env:aq) (S:a0),cH (f::g::fs) env S=(f env S).bind fun b S1=>if b then .ok true S1 else cH (g::fs) env S1)∧
  (∀ (f:MT) (env:aq) (S:a0),bz f env S=(f env S).bind fun b S1=>.ok (!b) S1)∧
  (∀ (f:ME) (env:aq) (S:a0),ao f env S=(f env S).bind fun x S1=>match x with| .val (.bl b)=>.ok b S1|_=>.bad)∧
  (∀ (f:ME),eh [f]=f)∧(∀ (f g:ME) (fs:List ME) (env:aq) (S:a0),eh (f::g::fs) env S=(f env S).bind fun x S1=>match x with| .val (.bl true)=>eh (g::fs) env S1| .val (.bl false)=>.ok (.val (.bl false)) S1|_=>.bad)∧
  (∀ (f:ME),zK [f]=f)∧(∀ (f g:ME) (fs:List ME) (env:aq) (S:a0),zK (f::g::fs) env S=(f env S).bind fun x S1=>match x with| .val (.bl true)=>.ok (.val (.bl true)) S1| .val (.bl false)=>zK (g::fs) env S1|_=>.bad)∧
  (∀ (f:ME) (env:aq) (S:a0),Gu f env S=(f env S).bind fun x S1=>match x with| .val (.bl b)=>.ok (.val (.bl (!b))) S1|_=>.bad)∧
  (∀ (f:ME) (env:aq) (S:a0),Ii f env S=(f env S).bind fun x S1=>match x with| .val (.int b)=>.ok (.val (.int (-b))) S1|_=>.bad)∧
  (∀ (c:MT) (f g:ME) (env:aq) (S:a0),tS c f g env S=(c env S).bind fun b S1=>if b then f env S1 else g env S1)∧
  (∀ (i:Nat) (env:aq) (S:a0),ae i env S=match env[i]? with|some (some d)=>.ok (.val d) S|_=>.bad)∧
  (∀ (d:D) (env:aq) (S:a0),ah d env S= .ok (.val d) S)∧
  (∀ (op:a0→D→D→Option RV) (f g:ME) (env:aq) (S:a0),av op f g env S=(f env S).bind fun x S1=>(g env S1).bind fun y S2=>match op S2 x.d y.d with|some r=>.ok r S2|none=>.bad)∧
  (∀ (o1 o2:a0→D→D→Option RV) (f g k:ME) (env:aq) (S:a0),BV o1 o2 f g k env S=(f env S).bind fun x S1=>(g env S1).bind fun y S2=>match o1 S2 x.d y.d with|some (.val (.bl true))=>(k env S2).bind fun z S3=>(match o2 S3 y.d z.d with|some r=>.ok r S3|none=>.bad)|some (.val (.bl false))=>.ok (.val (.bl false)) S2|_=>.bad)∧
  (∀ (o:a0→List D→Option RV) (m:MA) (env:aq) (S:a0),aJ o m env S=(m env S).bind fun ds S1=>match o S1 ds with|some z=>.ok z S1|none=>.bad)∧
  (∀ (i:Nat) (g:Cfg) (dfl:List D) (m:MA) (env:aq) (S:a0),aC i g dfl m env S=(m env S).bind fun ds S1=>g.call i (ds++dfl) S1)∧
  (∀ (c i:Nat) (g:Cfg) (dfl:List D) (f:ME) (m:MA) (env:aq) (S:a0),fE c i g dfl f m env S=(f env S).bind fun r S1=>if yU c S1 r.d then(m env S1).bind fun ds S2=>g.call i ((r.d::ds)++dfl) S2 else .bad)∧
  (∀ (c i:Nat) (g:Cfg) (dfl:List D) (m:MA) (env:aq) (S:a0),qK c i g dfl m env S=(m env S).bind fun ds S1=>yQ c i g (ds++dfl) S1)∧
  (∀ (env:aq) (S:a0),af [] env S= .ok [] S)∧(∀ (f:ME) (fs:List ME) (env:aq) (S:a0),af (f::fs) env S=(f env S).bind fun x S1=>(af fs env S1).bind fun xs S2=>.ok (x.d::xs) S2)∧
  (∀ (env:aq) (S:a0),bH [] env S= .ok [] S)∧(∀ (mt:Bool) (f:ME) (fs:List (Bool×ME)) (env:aq) (S:a0),bH ((mt,f)::fs) env S=(f env S).bind fun x S1=>(bH fs env (cq mt x S1).2).bind fun xs S2=>.ok ((cq mt x S1).1::xs) S2)∧
  (∀ (m:MA) (env:aq) (S:a0),fF m env S=(m env S).bind fun xs S1=>if xs.length≤16777216 then .ok (.val (.tup xs)) S1 else .bad)∧
  (∀ (m:MA) (env:aq) (S:a0),bo m env S=(m env S).bind fun xs S1=>if xs.length≤16777216 then .ok (.new (.lst xs)) S1 else .bad)∧
  (∀ (o:a0→D→Option Bool) (f:ME) (env:aq) (S:a0),dA o f env S=(f env S).bind fun r S1=>match o S1 r.d with|some b=>.ok (.val (.bl b)) S1|none=>.bad)∧
  (∀ (sx:Nat→Option Nat) (f:ME) (env:aq) (S:a0),cG sx f env S=(f env S).bind fun r S1=>match qX sx S1 r.d with|some d=>.ok (.val d) S1|none=>.bad)∧
  (∀ (T:String) (o:a0→D→List D→Option (RV×a0)) (f:ME) (m:MA) (env:aq) (S:a0),fg T o f m env S=(f env S).bind fun x S1=>if yV T S1 x.d then(m env S1).bind fun ds S2=>(match o S2 x.d ds with|some (z,S3)=>.ok z S3|none=>.bad) else .bad)∧
  (∀ (f:ME) (lo hi:Option ME) (env:aq) (S:a0),jE f lo hi env S=(f env S).bind fun x S1=>(gX lo env S1).bind fun l S2=>(gX hi env S2).bind fun u S3=>match wx S3 x.d l u with|some r=>.ok r S3|none=>.bad)∧
  (∀ (env:aq) (S:a0),gX none env S= .ok none S)∧(∀ (f:ME) (env:aq) (S:a0),gX (some f) env S=(f env S).bind fun x S1=>match x with| .val (.int i)=>.ok (some i) S1|_=>.bad)∧
  (∀ (f:ME) (env:aq) (S:a0),aI f env S=(f env S).bind fun r S1=>match jb S1 r.d with|some src=>.ok src S1|none=>.bad)∧
  (∀ (o:List D→Option (List D)) (m:MA) (env:aq) (S:a0),fk o m env S=(m env S).bind fun ds S1=>match o ds with|some xs=>.ok (.st xs) S1|none=>.bad)∧
  (∀ (f:ME) (m:MA) (env:aq) (S:a0),Fu f m env S=(f env S).bind fun x S1=>match fz S1 x.d with|some xs=>(m env S1).bind fun ys S2=>.ok (xs++ys) S2|none=>.bad)∧
  (∀ (f:ME) (m:MA) (env:aq) (S:a0),Hh f m env S=(f env S).bind fun x S1=>(m env S1).bind fun ys S2=>.ok (x.d::ys) S2)∧
  (∀ (i:Nat) (o:a0→D→D→Option (D×a0)) (f:ME) (env:aq) (S:a0),Iy i o f env S=match env[i]? with|some (some d)=>(f env S).then env fun r S1=>(match o S1 d r.d with|some (z,S2)=>.nx (env.set i (some z)) S2|none=>.bad)|_=>.bad)∧
  (∀ (i:Nat) (d:D) (env:aq),aV (.nm i) d env=some (env.set i (some d)))∧(∀ (ts:List Tg) (ds:List D) (env:aq),aV (.tp ts) (.tup ds) env=cj ts ds env)∧
  (∀ (env:aq),cj [] [] env=some env)∧(∀ (t:Tg) (ts:List Tg) (d:D) (ds:List D) (env:aq),cj (t::ts) (d::ds) env=match aV t d env with|some e=>cj ts ds e|none=>none)∧
  (∀ (a:Option D) (l:aq),(a::l)[0]? =some a)∧(∀ (a:Option D) (l:aq) (n:Nat),(a::l)[n+1]? =l[n]?)∧
  (∀ (a b:Option D) (l:aq),(a::l).set 0 b=b::l)∧(∀ (a b:Option D) (l:aq) (n:Nat),(a::l).set (n+1) b=a::l.set n b)∧
  (∀ (ds:List D),ds++[]=ds)∧(∀ (ds:List D),[]++ds=ds)∧(∀ (d:D) (ds es:List D),(d::ds)++es=d::(ds++es))∧
  (∀ (d:D),(RV.val d).d=d)∧(∀ (o:Ob),(RV.new o).d=o.toD)∧(∀ (xs:List D),(Ob.lst xs).toD= .lst xs)∧(∀ (ks vs:List D),(Ob.dct ks vs).toD= .dct ks vs)∧
  (∀ (d:D) (S:a0),cq true (.val d) S=(d,S))∧(∀ (r:RV) (S:a0),cq false r S=(r.d,S))∧(∀ (o:Ob) (S:a0),cq true (.new o) S=(.ref S.length,S++[o]))∧
  (∀ (α:Type) (a:α) (S:a0) (env:aq) (f:α→a0→RS),(R.ok a S).then env f=f a S)∧(∀ (α:Type) (x:D) (S:a0) (env:aq) (f:α→a0→RS),(R.ex x S).then env f= .ex x env S)∧
  (∀ (α β:Type) (a:α) (S:a0) (f:α→a0→R β),(R.ok a S).bind f=f a S)∧(∀ (α β:Type) (x:D) (S:a0) (f:α→a0→R β),(R.ex x S).bind f= .ex x S):=by
 refine⟨?_,?_,?_,?_,?_,?_,?_,?_,?_,?_,?_,?_,?_,?_,?_,?_,?_,?_,?_,?_,?_,?_,?_,?_,?_,?_,?_,?_,?_,?_,?_,?_,?_,?_,?_,?_,?_,?_,?_,?_,?_,?_,?_,?_,?_,?_,?_,?_,?_,?_,?_,?_,?_,?_,?_,?_,?_,?_,?_,?_,?_,?_,?_,?_,?_,?_,?_,?_,?_,?_⟩<;>intros<;>first|rfl|exact JC _| (rename_i mt r S;cases mt<;>cases r<;>rfl)| (rename_i r S;cases r<;>rfl)
theorem EN:
  (∀ (S:a0) (i:Int),dk "int" S (.int i)=some true)∧(∀ (S:a0) (i:Int),dk "bool" S (.int i)=some false)∧(∀ (S:a0) (i:Int),dk "tuple" S (.int i)=some false)∧
  (∀ (S:a0) (xs:List D),dk "tuple" S (.tup xs)=some true)∧(∀ (S:a0) (xs:List D),dk "int" S (.tup xs)=some false)∧(∀ (S:a0) (x:Str),dk "str" S (.str x)=some true)∧
  (∀ (S:a0) (i j:Int),dH S (.int i) (.int j)=some (.val (.bl (i==j))))∧(∀ (S:a0) (i j:Int),dq S (.int i) (.int j)=some (.val (.bl (!(i==j)))))∧
  (∀ (S:a0) (i j:Int),J3 S (.int i) (.int j)=some (.val (.bl (decide (i≤j)))))∧(∀ (S:a0) (i j:Int),FZ S (.int i) (.int j)=some (.val (.bl (decide (i<j)))))∧
  (∀ (S:a0) (i j:Int),AY S (.int i) (.int j)=some (.val (.bl (decide (j<i)))))∧(∀ (S:a0) (i j:Int),DJ S (.int i) (.int j)=some (.val (.bl (decide (j≤i)))))∧
  (∀ (S:a0) (i j:Int),aP S (.int i) (.int j)=some (.val (.int (i+j))))∧(∀ (S:a0) (i j:Int),Im S (.int i) (.int j)=some (.val (.int (i-j))))∧
  (∀ (S:a0) (xs:List D),cN S [.tup xs]=some (.val (.int xs.length)))∧(∀ (S:a0) (xs:List D),cN S [.lst xs]=some (.val (.int xs.length)))∧
  (∀ (S:a0) (i:Int),FO S (.int i) .non=some (.val (.bl false)))∧(∀ (S:a0),FO S .non .non=some (.val (.bl true)))∧
  (∀ (S:a0) (xs:List D) (i:Int),aN S (.tup xs) (.int i)=(atI xs i).map .val)∧(∀ (S:a0) (xs:List D) (i:Int),aN S (.lst xs) (.int i)=(atI xs i).map .val)∧
  (∀ (x:D) (xs:List D),atI (x::xs) 0=some x)∧(∀ (x y:D) (xs:List D),atI (x::y::xs) 1=some y)∧(∀ (x y z:D) (xs:List D),atI (x::y::z::xs) 2=some z)∧
  (∀ (α:Type) (a b:α),(if false=true then a else b)=b)∧(∀ (α:Type) (a b:α),(if true=true then a else b)=a)∧((!true)=false)∧((!false)=true)∧
  (∀ (α β:Type) (f:α→β) (a:α),Option.map f (some a)=some (f a))∧(∀ (S:a0) (xs:List D),jb S (.tup xs)=some (.st xs))∧(∀ (S:a0) (xs:List D),jb S (.lst xs)=some (.st xs))∧
  (∀ (S:a0) (xs:List D),yV "tuple" S (.tup xs)=true)∧(∀ (S:a0) (xs:List D),fz S (.tup xs)=some xs)∧
  (([]:List D).length≤16777216)∧(∀ (a:D),[a].length≤16777216)∧(∀ (a b:D),[a,b].length≤16777216)∧(∀ (a b c:D),[a,b,c].length≤16777216)∧(∀ (α:Type) (h:Decidable True) (a b:α), @ite α True h a b=a)∧(∀ (α:Type) (h:Decidable False) (a b:α), @ite α False h a b=b):=by
 refine⟨fun _ _=>rfl,fun _ _=>rfl,fun _ _=>rfl,fun _ _=>rfl,fun _ _=>rfl,fun _ _=>rfl,fun _ _ _=>rfl,fun _ _ _=>rfl,fun _ _ _=>rfl,fun _ _ _=>rfl,fun _ _ _=>rfl,fun _ _ _=>rfl,fun _ _ _=>rfl,fun _ _ _=>rfl,fun _ _=>rfl,fun _ _=>rfl,fun _ _=>rfl,fun _=>rfl,fun _ _ _=>rfl,fun _ _ _=>rfl,fun _ _=>Ho,fun _ _ _=>zO,fun _ _ _ _=>at2,fun _ _ _=>rfl,fun _ _ _=>rfl,rfl,rfl,fun _ _ _ _=>rfl,fun _ _=>rfl,fun _ _=>rfl,fun _ _=>rfl,fun _ _=>rfl,?_,fun _=>?_,fun _ _=>?_,fun _ _ _=>?_,fun _ _ _ _=>if_pos trivial,fun _ _ _ _=>if_neg id⟩<;>simp
theorem e9{P:Nat→Option Dfn}{fl k i np nn:Nat}{b:Cfg→MS}{args:List D}{S:a0}{z:R RV}(env:aq)(hP:P i=some ⟨np,nn,b⟩)(hf:frees args=true)
  (h:jG 0 (fun _=>some S) (b ⟨ak P fl k,fl⟩ env [])=z) (he:args.map some++List.replicate (nn-np) none=env:=by rfl) (hn:args.length=np:=by rfl) (hw:nn<1000:=by decide):ak P fl (k+1) i args S=z:=by
 rw[cR hP hw,j4 hf hn,he];exact h
theorem cZ{S:a0}{d:D}{S':a0}(h:free d=true):jG 0 (fun _=>some S) (.ret (.val d) S')= .ok (.val d) S:=by
 show(match fV S' 0 (.val d),some S with|some z,some S2=>R.ok z S2|_,_=>.bad)=_
 rw[iH h]
theorem mj{S:a0}{ds:List D}{S':a0}(h:frees ds=true):jG 0 (fun _=>some S) (.ret (.new (.lst ds)) S')= .ok (.new (.lst ds)) S:=by
 show(match fV S' 0 (.new (.lst ds)),some S with|some z,some S2=>R.ok z S2|_,_=>.bad)=_
 rw[ye h]
def kind:D→Bool
 | .ref _=>false
 | .ins _ _=>false
 | .exc _ _=>false
 | .glb _=>false
 | .clo _ _=>false
 |_=>true
section
variable {P:Nat→Option Dfn}{k:Nat}{S:a0}
theorem uM[F_2 P]{v:D}(hk:kind v=true)(hf:free v=true):ak P fuel (k+1) 2 [v] S= .ok (.val (.bl (match v with| .lst _=>true| .scr _=>true| .tup _=>true|_=>false))) S:=by
 refine e9 [some v] F_2.at_ (by simp[frees,hf]) ?_
 cases v with
 |ref _=>cases hk
 |ins _ _=>cases hk
 |exc _ _=>cases hk
 |glb _=>cases hk
 |clo _ _=>cases hk
 |_=>rfl
end
inductive Rl where
 |spread|back|leave|lesser|greater|content|gone
deriving DecidableEq
def Rl.s:Rl→Str
 | .spread=>"spread" | .back=>"back" | .leave=>"leave" | .lesser=>"lesser" | .greater=>"greater" | .content=>"content" | .gone=>"gone"
inductive Cs where
 |new|changed|gone|twoNew|twoChanged|torn|alike
deriving DecidableEq
def Cs.s:Cs→Str
 | .new=>"new" | .changed=>"changed" | .gone=>"gone" | .twoNew=>"two new" | .twoChanged=>"two changed" | .torn=>"torn" | .alike=>"alike"
def Cs.i:Cs→Nat
 | .new=>0| .changed=>1| .gone=>2| .twoNew=>3| .twoChanged=>4| .torn=>5| .alike=>6
def Cs.may:Nat→Rl→Bool
 |0,r|1,r|2,r=>r== .spread||r== .back||r== .leave
 |3,r|4,r=>r== .lesser||r== .greater||r== .leave
 |5,r=>r== .content||r== .gone||r== .leave
 |_,_=>false
structure Rules(rs:List Rl):Prop where
 len:rs.length=6
 may:∀j r,rs[j]? =some r→Cs.may j r=true
def aH(r:Rl):D:=.str r.s
def tabD(rs:List Rl):D:=.ins 11 [.tup (rs.map aH)]
def dc(m a b:Int):Cs:=
 if a==b then .alike
 else if a==m||b==m then(if m==0 then .new else if a==0||b==0 then .gone else .changed)
 else if a==0||b==0 then .torn else if m==0 then .twoNew else .twoChanged
theorem nV{S:a0}{r:Rl}:dH S (aH r) (.str "leave")=some (.val (.bl (r== .leave))):=by cases r<;>kernel_rfl
theorem Cg{c:Cs}(h:c≠ .alike):posOf c.s ["new","changed","gone","two new","two changed","torn"]=some c.i:=by
 cases c<;>first|exact absurd rfl h|rfl
theorem fy{rs:List Rl}:free (tabD rs)=true:=by
 show(free (.tup (rs.map aH))&&true)=true
 rw[Bool.and_true]
 exact bf fun _ _=>rfl
theorem jZ{α:Type}{xs:List α}{j:Nat}:atI xs (j:Int)=xs[j]? :=by
 unfold atI ixN
 rw[if_pos (by omega)]
 by_cases h:j<xs.length
 ·rw[if_pos (by omega)]
  show xs[(j:Int).toNat]? =_
  simp
 ·rw[if_neg (by omega)]
  show none=_
  exact(List.getElem?_eq_none (by omega)).symm
section
variable {P:Nat→Option Dfn}{k:Nat}{S:a0}
theorem uF[F_19 P]{rs:List Rl}{c:Cs}{r:Rl}(hc:c≠ .alike)(hr:rs[c.i]? =some r):ak P fuel (k+1) 19 [tabD rs,.str c.s] S= .ok (.val (aH r)) S:=by
 refine e9 [some (tabD rs),some (.str c.s)] F_19.at_ (by simp[frees,fy,free]) ?_
 have e:∀S,qX (fO [(11,0)]) S (tabD rs)=some (.tup (rs.map aH)):=fun _=>rfl
 have e2:(rs.map aH)[c.i]? =some (aH r):=by rw[JR,hr];rfl
 unfold Dq
 simp only[EV,EN,e,vZ,Cg hc,jZ,e2]
 exact cZ rfl
def vJ(r:Rl)(m a b:Int):Option Int:=match r with
 | .leave=>none
 | .spread=>some (if a==m then b else a)
 | .content=>some (if decide (a<b) then b else a)
 | .back=>some m
 | .lesser=>some a
 | .greater=>some b
 | .gone=>some 0
def uR(rs:List Rl)(m a b:Int):Option Int:=if dc m a b== .alike then some a else vJ (rs.getD (dc m a b).i .leave) m a b
theorem rO{S:a0}{xs ys:List D}(h:xs.length+ys.length≤16777216):aP S (.tup xs) (.tup ys)=some (.val (.tup (xs++ys))):=by
 unfold aP
 simp only[if_pos h]
abbrev Lk:=Nat×Nat
theorem uk{ns:List Int}:frees (ns.map D.int)=true:=bf fun _ _=>rfl
def jw(ls:List Lk)(rs:List Rl)(vs ms:List Int)(p:Lk):List Int×List Int:=match uR rs (ms.getD (ls.idxOf p) 0) (vs.getD p.1 0) (vs.getD p.2 0) with
 |none=>(vs,ms)
 |some v=>((vs.set p.1 v).set p.2 v,ms.set (ls.idxOf p) v)
end
def ji:MS:=dF (cH [bz (ao (dA (dk "int") (ae 5))),ao (dA (dk "bool") (ae 5)),ao (av FZ (ae 5) (ah (.int 0)))]) (pU 3 (fF (af [ae 3,ae 4]))) (bq)
section
variable {P:Nat→Option Dfn}{k:Nat}{S:a0}
def iS(f:Option D)(S:a0):R RV:=match f with
 |none=>.ok (.val .non) S
 |some x=>.ex (.exc 3 x) S
end
theorem jq{S:a0}{o:Ob}:(S++[o])[S.length]? =some o:=by simp
theorem jX{S:a0}{o o':Ob}:(S++[o]).set S.length o'=S++[o']:=by simp
theorem AL{S:a0}{o:Ob}(h:S.all Ob.free=true):lO S.length (S++[o])=some S:=by
 unfold lO
 rw[List.take_left,if_pos ⟨by simp,Jz.mpr fun o ho=>Bool.or_eq_true_iff.mpr (.inl (Jz.mp h o ho))⟩]
theorem pQ:∀ds:List D,yI (ds.map some)=some ds
 | []=>rfl
 |d::ds=>by rw[JG];unfold yI;rw[pQ ds];rfl
theorem wy{c:Nat}{ds:List D}(h:frees ds=true):Ob.free (.slo c (ds.map some))=true:=by
 show((ds.map some).all fun o=>match o with|some d=>free d|none=>true)=true
 rw[List.all_map]
 induction ds with
 |nil=>rfl
 |cons a r ih=>
  obtain⟨h1,h2⟩:=Jn.mp (show(free a&&frees r)=true from h)
  rw[List.all_cons,ih h2,Bool.and_true];exact h1
section
variable {P:Nat→Option Dfn}{fl k c i np nn:Nat}{b:Cfg→MS}{args:List D}{S:a0}
theorem FI{E env:aq}{ds:List D}(hP:P i=some ⟨np,nn,b⟩)(hS:S.all Ob.free=true)(ha:frees args=true)(hd:frees ds=true)(h:b ⟨ak P fl k,fl⟩ env [.slo c []]= .nx E [.slo c (ds.map some)])
  (he:(D.ref 0::args).map some++List.replicate (nn-np) none=env:=by rfl) (hn:args.length+1=np:=by rfl) (hw:nn<1000:=by decide):yQ c i ⟨ak P fl (k+1),fl⟩ args S= .ok (.val (.ins c ds)) S:=by
 have e:ak P fl (k+1) i (.ref S.length::args) (S++[.slo c []])= .ok (.val .non) (S++[.slo c (ds.map some)]):=by
  rw[cR hP hw,gJ ha hn jq rfl,he,h]
  simp only[jG,JT,wy hd,if_true,jX]
 unfold yQ
 simp only[e,jq,pQ,AL hS,hd,and_self,if_true]
end
inductive Row where
 |t (xs:List D)|l (xs:List D)
def Row.d:Row→D
 | .t xs=>.tup xs
 | .l xs=>.lst xs
def Row.xs:Row→List D
 | .t xs=>xs
 | .l xs=>xs
theorem uW(r:Row):gC r.d=some r.xs:=by cases r<;>rfl
theorem hO{S:a0}(r:Row):cN S [r.d]=some (.val (.int r.xs.length)):=by cases r<;>rfl
theorem sU{S:a0}(r:Row):fm S [r.d]=some (.val (.tup r.xs)):=by cases r<;>rfl
theorem nZ{r:Row}(h:frees r.xs=true):free r.d=true:=by cases r<;>exact h
theorem aQ{f g:MS}{env e:aq}{S S1:a0}(h:f env S= .nx e S1):aA f g env S=g e S1:=by
 unfold aA
 rw[h]
abbrev DP:Nat:=1000000000
section
variable {P:Nat→Option Dfn}{k:Nat}
theorem sE[F_201 P]{S:a0}{r:Nat}{o:Ob}{n:Int}{B:Nat}(hs:S[r]? =some o)(ho:iY B o)(hn:0<n)(hn2:n<1000000)(hB:B<DP):
  ∃ (v:Nat) (o':Ob),(v:Int)<n∧iY (B+1) o'∧ak P fuel (k+1) 201 [.ref r,.int n] S= .ok (.val (.int (v:Int))) (S.set r o'):=by
 obtain⟨v,o',h1,h2,h3,h4⟩:=kU (P:=P) (fuel:=fuel) (k:=k) (i:=201) (r:=r) (S:=S) F_201.at_ (fun _=>rfl) hs ho hn hn2 (by unfold DP at hB;omega)
 obtain⟨w,rfl⟩:∃w:Nat,v=(w:Int):=⟨v.toNat,by omega⟩
 exact⟨w,o',h2,h3,h4⟩
theorem of0[F_201 P][F_202 P]{S:a0}{r:Nat}{o:Ob}{xs:List D}{B:Nat}(hs:S[r]? =some o)(ho:iY B o)(hB:B<DP)(hf:frees xs=true)(h0:xs≠[])(hl:xs.length<1000000):
  ∃x o',x∈xs∧iY (B+1) o'∧ak P fuel (k+2) 202 [.ref r,.lst xs] S= .ok (.val x) (S.set r o'):=
 of_call (P:=P) (fuel:=fuel) (k:=k) F_202.at_ (fun _=>rfl) F_201.at_ (fun _=>rfl) hs ho (by unfold DP at hB;omega) hf h0 hl
theorem EL{fl i np nn r:Nat}{b:Cfg→MS}{args:List D}{S T:a0}{o o':Ob}{d:D}(env:aq)(hP:P i=some ⟨np,nn,b⟩)(hf:frees args=true)(hs:S[r]? =some o)(ho:o.free=true)(ho':o'.free=true)(hd:free d=true)
  (h:b ⟨ak P fl k,fl⟩ env [o]= .ret (.val d) (o'::T)) (he:(D.ref 0::args).map some++List.replicate (nn-np) none=env:=by rfl) (hn:args.length+1=np:=by rfl) (hw:nn<1000:=by decide):
  ak P fl (k+1) i (.ref r::args) S= .ok (.val d) (S.set r o'):=by
 rw[cR hP hw,gJ hf hn hs ho,he,h]
 show(match fV (o'::T) 1 (.val d),(if o'.free=true then some (S.set r o') else none) with|some z,some S2=>R.ok z S2|_,_=>.bad)=_
 rw[if_pos ho',iH hd]
def aD(j:Nat):List Rl:=if j<3 then[.spread,.back,.leave] else if j<5 then[.lesser,.greater,.leave] else[.content,.gone,.leave]
theorem jm[F_225 P]{S:a0}{j:Nat}:ak P fuel (k+1) 225 [.int (j:Int)] S= .ok (.new (.lst ((aD j).map aH))) S:=by
 refine e9 [some (.int (j:Int))] F_225.at_ rfl ?_
 unfold yA aD
 have e1:decide ((j:Int)<3)=decide (j<3):=by
  by_cases h:j<3
  ·rw[Ju h,Ju (by omega)]
  ·rw[Jr h,Jr (by omega)]
 have e2:decide ((j:Int)<5)=decide (j<5):=by
  by_cases h:j<5
  ·rw[Ju h,Ju (by omega)]
  ·rw[Jr h,Jr (by omega)]
 by_cases h1:j<3
 ·rw[if_pos h1]
  rw[Ju h1] at e1
  simp only[EV,EN,e1];exact mj rfl
 ·rw[if_neg h1]
  rw[Jr h1] at e1
  by_cases h2:j<5
  ·rw[if_pos h2]
   rw[Ju h2] at e2
   simp only[EV,EN,e1,e2];exact mj rfl
  ·rw[if_neg h2]
   rw[Jr h2] at e2
   simp only[EV,EN,e1,e2];exact mj rfl
theorem fL{j:Nat}(hj:j<6){r:Rl}(h:r∈aD j):Cs.may j r=true:=by
 have:j=0∨j=1∨j=2∨j=3∨j=4∨j=5:=by omega
 rcases this with rfl|rfl|rfl|rfl|rfl|rfl<;>(simp[aD] at h;rcases h with rfl|rfl|rfl<;>rfl)
def iT:List Rl:=[.spread,.spread,.spread,.leave,.leave,.leave]
theorem oE:Rules iT:=⟨rfl,fun j r h=>by
 match j with
 |0=>cases h;rfl
 |1=>cases h;rfl
 |2=>cases h;rfl
 |3=>cases h;rfl
 |4=>cases h;rfl
 |5=>cases h;rfl
 |j+6=>simp[iT] at h⟩
theorem Rules.set{rs:List Rl}{j:Nat}{r:Rl}(h:Rules rs)(hr:Cs.may j r=true):Rules (rs.set j r):=⟨by rw[List.length_set];exact h.len,fun i q hq=>by
 by_cases e:j=i
 ·subst e
  by_cases hl:j<rs.length
  ·rw[JH hl] at hq
   cases hq;exact hr
  ·rw[List.set_eq_of_length_le (by omega)] at hq
   exact h.may _ _ hq
 ·rw[JE e] at hq
  exact h.may _ _ hq⟩
theorem Aq[F_201 P][F_202 P][F_225 P][F_226 P]{S:a0}{r:Nat}{o:Ob}{B:Nat}(hs:S[r]? =some o)(ho:iY B o)(hB:B+20<DP):
  ∃rs o',Rules rs∧iY (B+20) o'∧ak P fuel (k+3) 226 [.ref r] S= .ok (.val (.tup (rs.map aH))) (S.set r o'):=by
 have turn:∀ (j:Nat) (way:Nat) (o:Ob) (rs:List Rl) (B:Nat) (e3:Option D),j<6→Rules rs→iY B o→B+3<DP→∃o' rs',Rules rs'∧iY (B+3) o'∧
   (aA (dF (cH [ao (av dH (ae 1) (ah (.int 0))),ao (av dH (aC 201 ⟨ak P fuel (k+2),fuel⟩ [] (af [ae 0,ah (.int 4)])) (ah (.int 0)))]) (dQ (ae 2) (ae 3) (aC 202 ⟨ak P fuel (k+2),fuel⟩ [] (af [ae 0,aC 225 ⟨ak P fuel (k+2),fuel⟩ [] (af [ae 3])]))) (bq))
    (dF (fG [ao (av dH (ae 1) (ah (.int 1))),ao (av dH (av aN (ae 2) (ae 3)) (ah (.str "leave")))]) (dQ (ae 2) (ae 3) (av aN (aC 225 ⟨ak P fuel (k+2),fuel⟩ [] (af [ae 3])) (aC 201 ⟨ak P fuel (k+2),fuel⟩ [] (af [ae 0,ah (.int 2)])))) (bq)))
    [some (.ref 0),some (.int (way:Int)),some (.ref 1),some (.int (j:Int))] [o,.lst (rs.map aH)]= .nx [some (.ref 0),some (.int (way:Int)),some (.ref 1),some (.int (j:Int))] [o',.lst (rs'.map aH)]:=by
  intro j way o rs B e3 hj hr ho hB
  have hsub:∀ (o:Ob) (rs:List Rl) (q:Rl),Rules rs→jH [o,.lst (rs.map aH)] (.ref 1) (.int (j:Int)) (aH q)=some [o,.lst ((rs.set j q).map aH)]:=fun o rs q hr=>by
   show(ixN (rs.map aH).length (j:Int)).map _=_
   have:ixN (rs.map aH).length (j:Int)=some j:=by
    unfold ixN
    have:=hr.len
    rw[if_pos (by omega),if_pos (by rw[Jt];omega)]
    simp
   rw[this,List.map_set];rfl
  have hw:∀S,ak P fuel (k+2) 225 [.int (j:Int)] S= .ok (.new (.lst ((aD j).map aH))) S:=fun S=>jm
  have hwl:(aD j).length=3:=by unfold aD;split<;>(try split)<;>rfl
  have first:∃o' rs',Rules rs'∧iY (B+2) o'∧(dF (cH [ao (av dH (ae 1) (ah (.int 0))),ao (av dH (aC 201 ⟨ak P fuel (k+2),fuel⟩ [] (af [ae 0,ah (.int 4)])) (ah (.int 0)))]) (dQ (ae 2) (ae 3) (aC 202 ⟨ak P fuel (k+2),fuel⟩ [] (af [ae 0,aC 225 ⟨ak P fuel (k+2),fuel⟩ [] (af [ae 3])]))) (bq))
    [some (.ref 0),some (.int (way:Int)),some (.ref 1),some (.int (j:Int))] [o,.lst (rs.map aH)]= .nx [some (.ref 0),some (.int (way:Int)),some (.ref 1),some (.int (j:Int))] [o',.lst (rs'.map aH)]:=by
   have put:∀ (o:Ob) (C:Nat),iY C o→C<DP→∃o' q,iY (C+1) o'∧Cs.may j q=true∧(dQ (ae 2) (ae 3) (aC 202 ⟨ak P fuel (k+2),fuel⟩ [] (af [ae 0,aC 225 ⟨ak P fuel (k+2),fuel⟩ [] (af [ae 3])])))
     [some (.ref 0),some (.int (way:Int)),some (.ref 1),some (.int (j:Int))] [o,.lst (rs.map aH)]= .nx [some (.ref 0),some (.int (way:Int)),some (.ref 1),some (.int (j:Int))] [o',.lst ((rs.set j q).map aH)]:=fun o C hC hlt=>by
    obtain⟨x,o',hx,h1,h2⟩:=of0 (P:=P) (k:=k) (S:=[o,.lst (rs.map aH)]) (r:=0) (xs:=(aD j).map aH) rfl hC hlt (bf fun _ _=>rfl) (by intro e;have:=congrArg List.length e;simp[hwl] at this) (by simp[hwl])
    obtain⟨q,hq,rfl⟩:=JU.mp hx
    refine⟨o',q,h1,fL hj hq,?_⟩
    have h2':ak P fuel (k+2) 202 [.ref 0,.lst ((aD j).map aH)] [o,.lst (rs.map aH)]= .ok (.val (aH q)) [o',.lst (rs.map aH)]:=h2
    unfold dQ
    simp only[EV,EN,hw,h2',hsub o' rs q hr]
   cases hz:((way:Int)==0) with
   |true=>
    obtain⟨o',q,h1,h2,h3⟩:=put o B ho (by omega)
    refine⟨o',_,hr.set h2,h1.mono (by omega),?_⟩
    simp only[EV,EN,hz]
    exact h3
   |false=>
    obtain⟨v,o1,_,h1,h2⟩:=sE (P:=P) (k:=k+1) (S:=[o,.lst (rs.map aH)]) (r:=0) (n:=4) rfl ho (by decide) (by decide) (by omega)
    have h2':ak P fuel (k+2) 201 [.ref 0,.int 4] [o,.lst (rs.map aH)]= .ok (.val (.int (v:Int))) [o1,.lst (rs.map aH)]:=h2
    cases hv:((v:Int)==0) with
    |true=>
     obtain⟨o',q,h3,h4,h5⟩:=put o1 (B+1) h1 (by omega)
     refine⟨o',_,hr.set h4,h3,?_⟩
     simp only[EV,EN,hz,h2',hv]
     exact h5
    |false=>
     refine⟨o1,rs,hr,h1.mono (by omega),?_⟩
     simp only[EV,EN,hz,h2',hv]
  obtain⟨o1,rs1,hr1,ho1,e1⟩:=first
  have hat:∃q,rs1[j]? =some q:=⟨_,Jo (by rw[hr1.len];exact hj)⟩
  obtain⟨q,hq⟩:=hat
  have hix:∀o,aN [o,.lst (rs1.map aH)] (.ref 1) (.int (j:Int))=some (.val (aH q)):=fun o=>by
   show(atI (rs1.map aH) (j:Int)).map RV.val=_
   rw[jZ,JR,hq];rfl
  have second:∃o' rs',Rules rs'∧iY (B+3) o'∧(dF (fG [ao (av dH (ae 1) (ah (.int 1))),ao (av dH (av aN (ae 2) (ae 3)) (ah (.str "leave")))]) (dQ (ae 2) (ae 3) (av aN (aC 225 ⟨ak P fuel (k+2),fuel⟩ [] (af [ae 3])) (aC 201 ⟨ak P fuel (k+2),fuel⟩ [] (af [ae 0,ah (.int 2)])))) (bq))
    [some (.ref 0),some (.int (way:Int)),some (.ref 1),some (.int (j:Int))] [o1,.lst (rs1.map aH)]= .nx [some (.ref 0),some (.int (way:Int)),some (.ref 1),some (.int (j:Int))] [o',.lst (rs'.map aH)]:=by
   cases hz:((way:Int)==1) with
   |false=>
    refine⟨o1,rs1,hr1,ho1.mono (by omega),?_⟩
    simp only[EV,EN,hz]
   |true=>
    cases hl:(q==Rl.leave) with
    |false=>
     refine⟨o1,rs1,hr1,ho1.mono (by omega),?_⟩
     simp only[EV,EN,hz,hix,nV,hl]
    |true=>
     obtain⟨v,o2,hv,h1,h2⟩:=sE (P:=P) (k:=k+1) (S:=[o1,.lst (rs1.map aH)]) (r:=0) (n:=2) rfl ho1 (by decide) (by decide) (by omega)
     have h2':ak P fuel (k+2) 201 [.ref 0,.int 2] [o1,.lst (rs1.map aH)]= .ok (.val (.int (v:Int))) [o2,.lst (rs1.map aH)]:=h2
     have hvl:v< (aD j).length:=by rw[hwl];omega
     have hwx:∀S,aN S (.lst ((aD j).map aH)) (.int (v:Int))=some (.val (aH (aD j)[v])):=fun S=>by
      show(atI ((aD j).map aH) (v:Int)).map RV.val=_
      rw[jZ,JR,Jo hvl];rfl
     refine⟨o2,_,hr1.set (fL hj (List.getElem_mem hvl)),h1,?_⟩
     have hsb:=hsub o2 rs1 (aD j)[v] hr1
     simp only[EV,EN,hz,hix,nV,hl]
     unfold dQ
     simp only[EV,EN,hw,h2',hwx,hsb]
  obtain⟨o2,rs2,hr2,ho2,e2⟩:=second
  refine⟨o2,rs2,hr2,ho2,?_⟩
  show(match(dF _ _ _) _ _ with| .nx e S1=>_|r=>r)=_
  rw[e1]
  exact e2
 obtain⟨way,o1,_,ho1,h1⟩:=sE (P:=P) (k:=k+1) (S:=[o]) (r:=0) (n:=4) rfl ho (by decide) (by decide) (by omega)
 have h1':ak P fuel (k+2) 201 [.ref 0,.int 4] [o]= .ok (.val (.int (way:Int))) [o1]:=h1
 have hloop:=eL (t:=.nm 3) (body:=aA (dF (cH [ao (av dH (ae 1) (ah (.int 0))),ao (av dH (aC 201 ⟨ak P fuel (k+2),fuel⟩ [] (af [ae 0,ah (.int 4)])) (ah (.int 0)))]) (dQ (ae 2) (ae 3) (aC 202 ⟨ak P fuel (k+2),fuel⟩ [] (af [ae 0,aC 225 ⟨ak P fuel (k+2),fuel⟩ [] (af [ae 3])]))) (bq))
    (dF (fG [ao (av dH (ae 1) (ah (.int 1))),ao (av dH (av aN (ae 2) (ae 3)) (ah (.str "leave")))]) (dQ (ae 2) (ae 3) (av aN (aC 225 ⟨ak P fuel (k+2),fuel⟩ [] (af [ae 3])) (aC 201 ⟨ak P fuel (k+2),fuel⟩ [] (af [ae 0,ah (.int 2)])))) (bq)))
  (fun j:Nat=>.int (j:Int)) (fun done env S=>∃e3 o rs,env=[some (.ref 0),some (.int (way:Int)),some (.ref 1),e3]∧S=[o,.lst (rs.map aH)]∧Rules rs∧iY (B+1+3*done.length) o) [] [0,1,2,3,4,5]
  [some (.ref 0),some (.int (way:Int)),some (.ref 1),none] [o1,.lst (iT.map aH)] (fun a b j env S e ⟨e3,o,rs,he,hS,hr,hm⟩=>by
   subst he hS
   have hj:j<6:=by
    have:j∈([0,1,2,3,4,5]:List Nat):=by
     have:=Ji a (Jf (a:=j) (l:=b))
     rw[← e] at this
     simpa using this
    simp at this;omega
   have hal:a.length<6:=by
    have:=congrArg List.length e
    simp at this;omega
   obtain⟨o',rs',h1,h2,h3⟩:=turn j way o rs _ e3 hj hr hm (by omega)
   refine⟨_,rfl,_,_,.inl h3,some (.int (j:Int)),o',rs',rfl,rfl,h1,h2.mono (by simp<;>omega)⟩) ⟨none,o1,iT,rfl,rfl,oE,by simpa using ho1⟩
 obtain⟨e2,S2,hfor,e3,o2,rs,rfl,rfl,hr,hm⟩:=hloop
 refine⟨rs,o2,hr,hm.mono (by simp<;>omega),?_⟩
 refine EL (o:=o) (T:=[.lst (rs.map aH)]) [some (.ref 0),none,none,none] F_226.at_ rfl hs ho.free hm.free (bf fun _ _=>rfl) ?_
 have hr6:cu [.int 6]=some (([0,1,2,3,4,5]:List Nat).map fun j:Nat=>D.int (j:Int)):=by kernel_rfl
 have hinit:(gU 1 2 (bH [(false,aC 201 ⟨ak P fuel (k+2),fuel⟩ [] (af [ae 0,ah (.int 4)])),(true,bo (af [ah (.str "spread"),ah (.str "spread"),ah (.str "spread"),ah (.str "leave"),ah (.str "leave"),ah (.str "leave")]))])) [some (.ref 0),none,none,none] [o]=
   .nx [some (.ref 0),some (.int (way:Int)),some (.ref 1),none] [o1,.lst (iT.map aH)]:=by
  simp only[EV,EN,h1']
  rfl
 unfold wC
 rw[aQ hinit,aQ ((dZ (ds:=([0,1,2,3,4,5]:List Nat).map fun j:Nat=>D.int (j:Int)) (S1:=[o1,.lst (iT.map aH)]) (by simp only[EV,hr6])).trans hfor)]
 have ht:fm [o2,.lst (rs.map aH)] [.ref 1]=some (.val (.tup (rs.map aH))):=rfl
 simp only[EV,EN,ht]
end
theorem wU{n:Nat}(h:n<4611686018427387904):cu [.int (n:Int)]=some ((List.range n).map fun i:Nat=>D.int (i:Int)):=by
 unfold cu
 have hs:kx (n:Int)=true:=by
  unfold kx
  simp only[Jy,JB];omega
 simp only[hs,if_true]
 unfold gA
 simp
def HS:Nat→Cs
 |0=>.new|1=>.changed|2=>.gone|3=>.twoNew|4=>.twoChanged|5=>.torn|_=>.alike
section
variable {P:Nat→Option Dfn}{k:Nat}{S:a0}
theorem dG[F_11 P]{c:Cs}{r:Rl}(h:c≠ .alike):ak P fuel (k+1) 11 [.str c.s,aH r] S= .ok (.val (.bl (Cs.may c.i r))) S:=by
 refine e9 [some (.str c.s),some (aH r)] F_11.at_ rfl ?_
 cases c<;>first|exact absurd rfl h| (cases r<;>kernel_rfl)
theorem nz[F_2 P][F_11 P][F_13 P]{rs:List Rl}{r:Row}(hr:Rules rs)(hS:S.all Ob.free=true)(er:r.xs=rs.map aH):yQ 11 13 ⟨ak P fuel (k+2),fuel⟩ [r.d] S= .ok (.val (tabD rs)) S:=by
 have hfr:frees r.xs=true:=by rw[er];exact bf fun _ _=>rfl
 obtain⟨a,b,c,d,e,f,rfl⟩:∃a b c d e f,rs=[a,b,c,d,e,f]:=by
  have hl:=hr.len
  match rs,hl with
  | [a,b,c,d,e,f],_=>exact⟨a,b,c,d,e,f,rfl⟩
 have m0:=hr.may 0 a rfl
 have m1:=hr.may 1 b rfl
 have m2:=hr.may 2 c rfl
 have m3:=hr.may 3 d rfl
 have m4:=hr.may 4 e rfl
 have m5:=hr.may 5 f rfl
 have q0:∀S,ak P fuel (k+1) 11 [.str "new",aH a] S= .ok (.val (.bl true)) S:=fun S=>by rw[← m0];exact dG (c:=.new) (by decide)
 have q1:∀S,ak P fuel (k+1) 11 [.str "changed",aH b] S= .ok (.val (.bl true)) S:=fun S=>by rw[← m1];exact dG (c:=.changed) (by decide)
 have q2:∀S,ak P fuel (k+1) 11 [.str "gone",aH c] S= .ok (.val (.bl true)) S:=fun S=>by rw[← m2];exact dG (c:=.gone) (by decide)
 have q3:∀S,ak P fuel (k+1) 11 [.str "two new",aH d] S= .ok (.val (.bl true)) S:=fun S=>by rw[← m3];exact dG (c:=.twoNew) (by decide)
 have q4:∀S,ak P fuel (k+1) 11 [.str "two changed",aH e] S= .ok (.val (.bl true)) S:=fun S=>by rw[← m4];exact dG (c:=.twoChanged) (by decide)
 have q5:∀S,ak P fuel (k+1) 11 [.str "torn",aH f] S= .ok (.val (.bl true)) S:=fun S=>by rw[← m5];exact dG (c:=.torn) (by decide)
 have g2:∀S,ak P fuel (k+1) 2 [r.d] S= .ok (.val (.bl true)) S:=fun S=>by
  rw[uM (by cases r<;>rfl) (nZ hfr)]
  cases r<;>rfl
 have hlen:∀S,cN S [r.d]=some (.val (.int 6)):=fun S=>by rw[hO,er];rfl
 have hl2:∀S,cN S [.tup [.str "new",.str "changed",.str "gone",.str "two new",.str "two changed",.str "torn"]]=some (.val (.int 6)):=fun S=>rfl
 have hn:∀S,dq S (.int 6) (.int 6)=some (.val (.bl false)):=fun S=>rfl
 have hz:∀ (env:aq) (S:a0),env[1]? =some (some r.d)→oM (af [ah (.tup [.str "new",.str "changed",.str "gone",.str "two new",.str "two changed",.str "torn"]),ae 1]) env S=
   .ok (.st [.tup [.str "new",aH a],.tup [.str "changed",aH b],.tup [.str "gone",aH c],.tup [.str "two new",aH d],.tup [.str "two changed",aH e],.tup [.str "torn",aH f]]) S:=fun env S h=>by
  unfold oM
  simp only[EV,h,uW,er]
  rfl
 have ht:∀S,fm S [r.d]=some (.val (.tup ([a,b,c,d,e,f].map aH))):=fun S=>by rw[sU,er]
 have q6:∀v,xi (fO [(11,0)]) [.slo 11 []] (.ref 0) v=some [.slo 11 [some v]]:=fun _=>rfl
 refine FI (E:=[some (.ref 0),some r.d,some (.str "torn"),some (aH f)]) (env:=[some (.ref 0),some r.d,none,none]) (ds:=[.tup ([a,b,c,d,e,f].map aH)]) F_13.at_ hS (by simp[frees,nZ hfr]) rfl ?_
 unfold Dl
 rw[aQ (e:=[some (.ref 0),some r.d,none,none]) (S1:=[.slo 11 []]) (by simp only[EV,EN,g2,hlen,hl2,hn])]
 rw[aQ (e:=[some (.ref 0),some r.d,some (.str "torn"),some (aH f)]) (S1:=[.slo 11 []]) (by
  rw[dZ (hz _ _ rfl)]
  simp only[forL,EV,EN,q0,q1,q2,q3,q4,q5])]
 unfold sG
 simp only[EV,ht,q6]
 rfl
def C2(i:Int):Prop:=i.natAbs<2^1000
end
theorem xc(s:String):PyData.strOk (Str.ofString s)=true:=by
 rw[Str.ofString_eq_toList]
 unfold PyData.strOk
 rw[Array.all_eq_true]
 intro i hi
 simp only[List.getElem_toArray,List.getElem_map,JB]
 have h:=(s.toList[i]'(by simpa using hi)).valid
 have:(s.toList[i]'(by simpa using hi)).toNat<1114112:=by
  rcases h with h| ⟨_,h⟩
  ·have h:(s.toList[i]'(by simpa using hi)).toNat<55296:=h
   omega
  ·exact h
 exact this
theorem qT{i:Int}(h:C2 i):Ri 0 1921 (.int i):=by
 have hl:i.natAbs.log2<1920:=by
  by_cases h0:i.natAbs=0
  ·rw[h0];decide
  ·have:=(Nat.log2_lt h0).mpr h
   omega
 exact⟨rfl,.int i,fun _ _ _=>rfl,Ju hl,by unfold PyData.depth;exact Nat.zero_le _,PyProof.Rows.int_text_len_1921 hl,xc _⟩
theorem md{n:Nat}(h:n<1000000):C2 (n:Int):=by
 unfold C2
 have:(1000000:Nat)<2^1000:=by decide+kernel
 simp only[Int.natAbs_natCast]
 omega
theorem Ah{x:Str}(h:(decide ((reprText x).length≤60)&&PyData.strOk (reprText x))=true):Ri 0 60 (.str x):=by
 simp only[Jy,JB] at h
 exact⟨rfl,.str x,fun S j hj=>rfl,rfl,by unfold PyData.depth;exact Nat.zero_le _,h.1,h.2⟩
theorem zv{n L:Nat}{d:D}(h:Ri n L d)(hn:n≤11)(hL:L≤16777216):∃s,(∀S:a0,bh S [d]=some (.val (.str s)))∧(∀S:a0,dq S (.str s) (.str s)=some (.val (.bl false)))∧PyData.strOk s=true:=by
 obtain⟨s,h1,h2⟩:=h.repr hn hL
 exact⟨s,h2,fun S=>jo h1,h1⟩
def RT(d:D):Str:=match bh [] [d] with
 |some (.val (.str s))=>s
 |_=>""
theorem vQ{n L:Nat}{d:D}(h:Ri n L d)(hn:n≤11)(hL:L≤16777216):(∀S:a0,bh S [d]=some (.val (.str (RT d))))∧PyData.strOk (RT d)=true:=by
 obtain⟨s,h1,h2⟩:=h.repr hn hL
 have:RT d=s:=by unfold RT;rw[h2]
 rw[this]
 exact⟨h2,h1⟩
theorem F8{b:Bool}:Ri 0 10 (.bl b):=by
 cases b<;>exact⟨rfl,.bool _,fun _ _ _=>rfl,rfl,by unfold PyData.depth;exact Nat.zero_le _,by decide+kernel,by decide+kernel⟩
theorem zx{op:a0→List D→Option RV}{f:ME}{env:aq}{S S1:a0}{r z:RV}(h:f env S= .ok r S1)(h2:op S1 [r.d]=some z):aJ op (af [f]) env S= .ok z S1:=by
 simp only[EV,h,h2]
theorem IM{op:a0→D→D→Option RV}{f g:ME}{env:aq}{S S1 S2:a0}{x y z:RV}(h1:f env S= .ok x S1)(h2:g env S1= .ok y S2)(h:op S2 x.d y.d=some z):av op f g env S= .ok z S2:=by
 simp only[EV,h1,h2,h]
theorem xD{f:ME}{env:aq}{S S1:a0}{r:RV}(h:f env S= .ok r S1):retS f env S= .ret r S1:=by
 simp only[EV,h]
theorem Ir{i:Nat}{f:ME}{env:aq}{S S1:a0}{r:RV}(h:f env S= .ok r S1):aM false i f env S= .nx (env.set i (some r.d)) S1:=by
 simp only[EV,h]
section
variable {P:Nat→Option Dfn}{k:Nat}
theorem begun[F_200 P]{S:a0}{ns:List Int}{t:Int}(hl:ns.length≤1000)(h0:0≤t)(h1:t≤1000):∃o,iY 0 o∧ak P fuel (k+1) 200 [.scr (ns.map D.int),.int t] S= .ok (.new o) S:=
 qk (P:=P) (fuel:=fuel) (k:=k) (i:=200) F_200.at_ (fun _=>rfl) hl h0 h1
theorem uZ{ns:List Int}{c:Nat}{cc:Int}{S:a0}{env:aq}(hcc:cc=(c:Int))(hc:c≤100)(h0:env[0]? =some (some (.scr (ns.map D.int)))):
  ∃m:Nat,m≤c+1∧(fk cu (af [av aP (ah (.int 1)) (aJ fB (af [aJ cN (af [ae 0]),ah (.int cc)]))])) env S= .ok (.st ((List.range m).map fun i:Nat=>D.int (i:Int))) S:=by
 subst hcc
 refine⟨1+min ns.length c,by omega,?_⟩
 have hlen:∀S,cN S [.scr (ns.map D.int)]=some (.val (.int (ns.length:Int))):=fun S=>by
  show some (RV.val (D.int ((ns.map D.int).length:Int)))=_
  rw[Jt]
 have hmin:∀S (i j:Int),fB S [.int i,.int j]=some (.val (.int (min i j))):=fun S i j=>by
  have e:min i j=if j<i then j else i:=by
   split<;>omega
  rw[e]
  rfl
 have e:(1+min (ns.length:Int) (c:Int))=((1+min ns.length c:Nat):Int):=by omega
 have hadd:∀S (i j:Int),aP S (.int i) (.int j)=some (.val (.int (i+j))):=fun S i j=>rfl
 simp only[EV,h0,hlen,hmin,hadd,e,wU (show 1+min ns.length c<4611686018427387904 by omega)]
end
theorem l9:∀n:Nat,qv n [D.int 0]=(List.replicate n (0:Int)).map D.int
 |0=>rfl
 |n+1=>by
  have ih:=l9 n
  rw[List.replicate_succ,JG, ← ih]
  rfl
theorem ug{S:a0}{n:Nat}(h:n≤1000):bQ S (.lst [.int 0]) (.int (n:Int))=some (.new (.lst ((List.replicate n (0:Int)).map D.int))):=by
 show(if decide (-(9223372036854775808)≤(n:Int))&&decide ((n:Int)<9223372036854775808)&&decide (([D.int 0]).length*(n:Int).toNat≤16777216) then some (RV.new (.lst (qv (n:Int).toNat [D.int 0]))) else none)=_
 rw[Ju (show-(9223372036854775808)≤(n:Int) by omega),Ju (show(n:Int)<9223372036854775808 by omega),Int.toNat_natCast,Ju (show([D.int 0]).length*n≤16777216 by simp;omega),l9]
 rfl
def nO(R:Int→Int→Prop)(xs ys:List Int):Prop:=xs.length=ys.length∧∀j:Nat,R (xs.getD j 0) (ys.getD j 0)
theorem nO.set{R:Int→Int→Prop}{xs ys:List Int}(h:nO R xs ys){a b:Int}(hr:R a b)(i:Nat):nO R (xs.set i a) (ys.set i b):=by
 refine⟨by rw[List.length_set,List.length_set];exact h.1,fun j=>?_⟩
 have h2:=h.2 j
 simp only[JP,List.getElem?_set] at h2 ⊢
 rw[← h.1]
 by_cases e:i=j
 ·subst e
  by_cases hl:i<xs.length
  ·simpa [hl] using hr
  ·have l1:xs.length≤i:=by omega
   have l2:ys.length≤i:=by have:=h.1;omega
   rw[List.getElem?_eq_none l1,List.getElem?_eq_none l2] at h2
   simpa [hl] using h2
 ·simpa [e] using h2
theorem fN{R:Int→Int→Prop}(bij:∀a a' b b',R a a'→R b b'→(a=b↔a'=b')){a a' b b':Int}(h1:R a a')(h2:R b b'):(a==b)=(a'==b'):=by
 have:=bij a a' b b' h1 h2
 cases h:(a'==b') with
 |true=>exact beq_iff_eq.mpr (this.mpr (beq_iff_eq.mp h))
 |false=>exact beq_eq_false_iff_ne.mpr fun e=>beq_eq_false_iff_ne.mp h (this.mp e)
theorem tX{m a b:Int}(h:dc m a b= .torn):(a==0||b==0)=true∧(a==b)=false:=by
 unfold dc at h
 split at h
 ·cases h
 ·split at h
  ·split at h
   ·cases h
   ·split at h<;>cases h
  ·split at h
   ·rename_i h1 h2 h3
    exact⟨h3,by simpa using h1⟩
   ·split at h<;>cases h
theorem A1{R:Int→Int→Prop}{rs:List Rl}(hr:Rules rs)(z:R 0 0)(bij:∀a a' b b',R a a'→R b b'→(a=b↔a'=b'))(pos:∀a a',R a a'→0≤a∧0≤a'){m a b m' a' b':Int}(hm:R m m')(ha:R a a')(hb:R b b'):
  (uR rs m a b=none∧uR rs m' a' b'=none)∨∃v v',uR rs m a b=some v∧uR rs m' a' b'=some v'∧R v v':=by
 have e1:=fN bij ha hb
 have e2:=fN bij ha hm
 have e3:=fN bij hb hm
 have e4:=fN bij hm z
 have e5:=fN bij ha z
 have e6:=fN bij hb z
 have hc:dc m a b=dc m' a' b':=by unfold dc;rw[e1,e2,e3,e4,e5,e6]
 unfold uR
 rw[← hc]
 cases hal:(dc m a b==Cs.alike) with
 |true=>exact .inr ⟨a,a',rfl,rfl,ha⟩
 |false=>
  have hmay:∀r,rs[(dc m a b).i]? =some r→Cs.may (dc m a b).i r=true:=fun r h=>hr.may _ _ h
  have hi:(dc m a b).i<6:=by
   revert hal
   cases dc m a b<;>intro h<;>first| (exact absurd h (by decide))|decide
  have hg:rs[(dc m a b).i]? =some (rs.getD (dc m a b).i .leave):=by
   rw[JP,Jo (by rw[hr.len];exact hi)];rfl
  have hmy:=hmay _ hg
  generalize hrl:rs.getD (dc m a b).i .leave=r at hmy
  show(vJ r m a b=none∧vJ r m' a' b'=none)∨∃v v',vJ r m a b=some v∧vJ r m' a' b'=some v'∧R v v'
  cases r with
  |leave=>exact .inl ⟨rfl,rfl⟩
  |spread=>exact .inr ⟨_,_,rfl,rfl,by rw[e2];split<;>assumption⟩
  |back=>exact .inr ⟨_,_,rfl,rfl,hm⟩
  |lesser=>exact .inr ⟨_,_,rfl,rfl,ha⟩
  |greater=>exact .inr ⟨_,_,rfl,rfl,hb⟩
  |gone=>exact .inr ⟨_,_,rfl,rfl,z⟩
  |content=>
   have ht:dc m a b= .torn:=by
    revert hmy
    cases dc m a b<;>intro h<;>first|rfl| (exact absurd h (by decide))
   obtain⟨t1,t2⟩:=tX ht
   have t3:=t1
   rw[e5,e6] at t3
   have t4:=t2
   rw[e1] at t4
   have n1:=pos a a' ha
   have n2:=pos b b' hb
   simp only[Bool.or_eq_true,beq_iff_eq,beq_eq_false_iff_ne] at t1 t2 t3 t4 e5 e6
   have q1:=bij a a' 0 0 ha z
   have q2:=bij b b' 0 0 hb z
   have hlt:decide (a<b)=decide (a'<b'):=by
    rcases t1 with h|h
    ·have:=q1.mp h
     rw[Ju (by omega),Ju (by omega)]
    ·have:=q2.mp h
     rw[Jr (by omega),Jr (by omega)]
   exact .inr ⟨_,_,rfl,rfl,by rw[hlt];split<;>assumption⟩
theorem qj{xs:List D}{d:D}(h:frees xs=true)(hd:free d=true):frees (xs++[d])=true:=by
 induction xs with
 |nil=>exact Jn.mpr ⟨hd,rfl⟩
 |cons a r ih=>
  obtain⟨h1,h2⟩:=Jn.mp (show(free a&&frees r)=true from h)
  exact Jn.mpr ⟨h1,ih h2⟩
def Io(ks:List Int)(x:Int):List Int:=if x∈ks then ks else ks++[x]
def El(xs:List Int):List Int:=xs.foldl Io [0]
def IZ(ks:List Int)(x:Int):Int:=(ks.idxOf x:Nat)
theorem Iu{c:MT}{f g:MS}{env:aq}{S S1:a0}(h:c env S= .ok false S1):dF c f g env S=g env S1:=by
 simp only[EV,EN,h]
theorem qM{i:Nat}{g:Cfg}{m:MA}{env:aq}{S S1:a0}{ds:List D}{z:Ev.R RV}(hm:m env S= .ok ds S1)(h:g.call i ds S1=z):aC i g [] m env S=z:=by
 simp only[EV,hm,h]
end Bd
set_option maxHeartbeats 1000000
set_option maxHeartbeats 1000000
namespace Bd
section
variable {N E:Type}[DecidableEq N]
inductive Hist(es:List (N×Option (N×E))):N→List E→Prop
 |root {b:N}:es.lookup b=some none→Hist es b []
 |step {a b:N} {e:E} {l:List E}:es.lookup b=some (some (a,e))→Hist es a l→Hist es b (l++[e])
structure Adds(f:N→E→Option N)(ds:N→List E)(A:N→Prop)(es es':List (N×Option (N×E)))(more:List (N×Option (N×E))):Prop where
 eq:es'=es++more
 nd:(es.map (·.1)).Nodup→(es'.map (·.1)).Nodup
 by_:∀x∈more,∃a e,A a∧e∈ds a∧f a e=some x.1∧x.2=some (a,e)
 new:∀x∈more,x.1∉es.map (·.1)
theorem Adds.none{f:N→E→Option N}{ds:N→List E}{A:N→Prop}{es:List (N×Option (N×E))}:Adds f ds A es es []:=⟨by simp,id,by simp,by simp⟩
end
end Bd
namespace Bd
open PySem L2 Ev
structure Nds(N:Type) where
 g:N→D
 kk:N→NestedKey
 nk:∀a,GB (g a)=some (kk a)
 inj:∀a b,kk a=kk b→a=b
section
variable {N E:Type}[DecidableEq N]{lim:Nat}{f:N→E→Option N}
abbrev Es(N E:Type):=List (N×Option (N×E))
theorem Aa{n:Nat}{t:Tg}{body:MS}{d:D}{xs:List D}{k i:Nat}{env e1 e2:aq}{S S2:a0}(hs:S[n]? =some (.lst xs))(hi:xs[i]? =some d)(hb:aV t d env=some e1)(h:body e1 S= .nx e2 S2):forR n t body (k+1) i env S=forR n t body k (i+1) e2 S2:=by
 conv=>lhs;unfold forR
 rw[hs]
 simp only[hi,hb,h]
theorem yq{n:Nat}{t:Tg}{body:MS}{xs:List D}{k i:Nat}{env:aq}{S:a0}(hs:S[n]? =some (.lst xs))(hi:xs[i]? =none):forR n t body (k+1) i env S= .nx env S:=by
 unfold forR
 rw[hs]
 simp only[hi]
end
def Jc(rows:List (List Int)):List (List Int):=rows.map fun r=>r.map (IZ (El rows.flatten))
theorem fY{c:MT}{f:MS}{env:aq}{S S1:a0}(h:c env S= .ok false S1):dF c f bq env S= .nx env S1:=(Iu h).trans rfl
section
variable {N:Type}[DecidableEq N]
def IV(G:Nds N)(S:a0)(j:Nat)(wv:D)(wa:List N):Prop:=wv= .lst (wa.map G.g)∨∃i,i≠0∧i≠j∧wv= .ref i∧S[i]? =some (.lst (wa.map G.g))
structure Core(G:Nds N)(Ok:N→Prop)(val:N×Option (N×D)→D)(lim k j:Nat)(wa:List N)(wv:D)(S:a0)(es:Es N D)(la:List N):Prop where
 fd:S[0]? =some (.dcn (es.map fun x=>G.g x.1) (es.map val))
 lt:S[j]? =some (.lst (la.map G.g))
 wt:IV G S j wv wa
 ok:∀b∈es.map (·.1),Ok b
 fr:frees (es.map val)=true
 zs:es.length≤lim
 zl:la.length≤es.length
 hs:∀a∈wa,∃l,Hist es a l∧l.length=k∧frees l=true
 j0:j≠0
structure Lay(G:Nds N)(Ok:N→Prop)(val:N×Option (N×D)→D)(lim k:Nat)(wa:List N)(wv:D)(S:a0)(es:Es N D):Prop where
 fd:S[0]? =some (.dcn (es.map fun x=>G.g x.1) (es.map val))
 wt:IV G S S.length wv wa
 ok:∀b∈es.map (·.1),Ok b
 fr:frees (es.map val)=true
 zs:es.length≤lim
 zl:wa.length≤es.length
 kl:wa=[]∨k<es.length
section
variable {G:Nds N}{Ok:N→Prop}{val:N×Option (N×D)→D}{lim k j:Nat}{wa:List N}{wv:D}{S:a0}{es:Es N D}{la:List N}
theorem Core.done(h:Core G Ok val lim k j wa wv S es la)(hk:la=[]∨k+1<es.length:=by first|exact .inl rfl|assumption):Lay G Ok val lim (k+1) la (.ref j) S es:=by
 have hj:j<S.length:=(Jl.mp h.lt).1
 exact⟨h.fd,.inr ⟨j,h.j0,by omega,rfl,h.lt⟩,h.ok,h.fr,h.zs,h.zl,hk⟩
theorem Lay.lt(h:Lay G Ok val lim k wa wv S es)(hw:wa≠[]):k<es.length:=by
 rcases h.kl with h|h
 ·exact absurd h hw
 ·exact h
end
end
end Bd
namespace Bd
open PySem L2 PyProof.Rows Ev
abbrev Nd:=List (List Int)
def z1(n m:Nat):Nd:=[List.replicate n 0,List.replicate m 0]
def ai(rs:List Rl):D:=.tup (rs.map aH)
theorem bX{rs:List Rl}:free (ai rs)=true:=bf fun _ _=>rfl
theorem IH{P:Nat→Option Dfn}[F_2 P][F_11 P][F_13 P]{k:Nat}{rs:List Rl}(hr:Rules rs):∀S:a0,S.all Ob.free=true→yQ 11 13 ⟨ak P fuel (k+2),fuel⟩ [ai rs] S= .ok (.val (tabD rs)) S:=fun S hS=>nz (r:=.t (rs.map aH)) hr hS rfl
def sy(ls:List Lk)(rs:List Rl)(x:Nd)(p:Lk):Nd:=match x with
 | [vs,ms]=>[(jw ls rs vs ms p).1,(jw ls rs vs ms p).2]
 |x=>x
def J0(ls:List Lk)(rs:List Rl)(x:Nd)(p:Lk):Nd:=Jc (sy ls rs x p)
structure AlR(R:Int→Int→Prop)(x y:Nd):Prop where
 z:R 0 0
 bij:∀a a' b b',R a a'→R b b'→(a=b↔a'=b')
 pos:∀a a',R a a'→0≤a∧0≤a'
 s:Paired (nO R) x y
section
variable {n:Nat}{ls:List Lk}{rs:List Rl}{R:Int→Int→Prop}
theorem AlR.sy(hr:Rules rs){vs ms us ns:List Int}{p:Lk}(h:AlR R [vs,ms] [us,ns]):AlR R (sy ls rs [vs,ms] p) (sy ls rs [us,ns] p):=by
 obtain⟨v,m⟩:nO R vs us∧nO R ms ns:=by
  cases h.s with
  |cons a b=>cases b with
   |cons b _=>exact⟨a,b⟩
 refine⟨h.z,h.bij,h.pos,?_⟩
 have key:nO R (jw ls rs vs ms p).1 (jw ls rs us ns p).1∧nO R (jw ls rs vs ms p).2 (jw ls rs us ns p).2:=by
  unfold jw
  rcases A1 hr h.z h.bij h.pos (m.2 (ls.idxOf p)) (v.2 p.1) (v.2 p.2) with⟨e1,e2⟩| ⟨x,x',e1,e2,e3⟩
  ·rw[e1,e2];exact⟨v,m⟩
  ·rw[e1,e2];exact⟨(v.set e3 _).set e3 _,m.set e3 _⟩
 exact .cons key.1 (.cons key.2 .nil)
end
abbrev E2:=Nat×Lk
def nj(ls:List Lk)(rs:List Rl)(x:Nd):List Nd:=ls.map (J0 ls rs x)
end Bd
namespace Bd
open PySem L2 PyProof.Rows Ev TL
theorem ne_str{S:a0}{a b:Str}(ha:PyData.strOk a=true)(hb:PyData.strOk b=true):dq S (.str a) (.str b)=some (.val (.bl (!(a==b)))):=by
 rw[Ib (show eA 64 (.str a)=true from ha) (show eA 64 (.str b)=true from hb)];rfl
def EA:List Str:=["new","changed","gone","two new","two changed","torn"]
def dY(i:Nat):Str:=EA.getD i ""
def Dy(i:Nat)(x:Str):Bool:=((aD i).map Rl.s).any fun w=>w==x
section
variable {P:Nat→Option Dfn}{k:Nat}{S:a0}
theorem qZ[F_11 P]{i:Nat}(hi:i<6){x:Str}(hx:PyData.strOk x=true):ak P fuel (k+1) 11 [.str (dY i),.str x] S= .ok (.val (.bl (Dy i x))) S:=by
 refine e9 [some (.str (dY i)),some (.str x)] F_11.at_ (by simp[frees,free]) ?_
 have hT:∀S,dk "str" S (.str x)=some true:=fun S=>rfl
 have key:∀ws:List Str,ws.all PyData.strOk=true→∀S,inD S (.str x) (.tup (ws.map D.str))=some (.val (.bl (ws.any fun w=>w==x))):=fun ws hw S=>by
  rw[xY (by exact hx) (by exact pJ (n:=63) fun w h=>Jz.mp hw w h),List.any_map];rfl
 have fin:∀ws:List Str,ws.all PyData.strOk=true→(∀z,(ws.any fun w=>w==z)=Dy i z)→(∀env S,(ve (xQ [("new",("ONE_SIDED",["back","leave","spread"])),("changed",("ONE_SIDED",["back","leave","spread"])),("gone",("ONE_SIDED",["back","leave","spread"])),("two new",("BOTH_SIDED",["greater","leave","lesser"])),("two changed",("BOTH_SIDED",["greater","leave","lesser"])),("torn",("TORN_APART",["content","gone","leave"]))]) (ah (.str (dY i)))) env S= .ok (.val (.tup (ws.map D.str))) S)→
   jG 0 (fun _=>some S) (Ai ⟨ak P fuel k,fuel⟩ [some (.str (dY i)),some (.str x)] [])= .ok (.val (.bl (Dy i x))) S:=fun ws h1 h2 h3=>by
  have kk:=key ws h1
  have h4:(ve (xQ [("new",("ONE_SIDED",["back","leave","spread"])),("changed",("ONE_SIDED",["back","leave","spread"])),("gone",("ONE_SIDED",["back","leave","spread"])),("two new",("BOTH_SIDED",["greater","leave","lesser"])),("two changed",("BOTH_SIDED",["greater","leave","lesser"])),("torn",("TORN_APART",["content","gone","leave"]))]) (ae 0)) [some (.str (dY i)),some (.str x)] []= .ok (.val (.tup (ws.map D.str))) []:=h3 [] []
  unfold Ai
  generalize(ve (xQ [("new",("ONE_SIDED",["back","leave","spread"])),("changed",("ONE_SIDED",["back","leave","spread"])),("gone",("ONE_SIDED",["back","leave","spread"])),("two new",("BOTH_SIDED",["greater","leave","lesser"])),("two changed",("BOTH_SIDED",["greater","leave","lesser"])),("torn",("TORN_APART",["content","gone","leave"]))]) (ae 0))=A at h4 ⊢
  simp only[EV,EN,hT,h4,kk,h2]
  exact cZ rfl
 rcases(by omega:i<3∨(3≤i∧i<5)∨i=5) with h|h|h
 ·have hw:aD i=[.spread,.back,.leave]:=by unfold aD;rw[if_pos h]
  refine fin ["back","leave","spread"] (by decide+kernel) (fun z=>?_) ?_
  ·unfold Dy
   rw[hw]
   show(("back":Str)==z||(("leave":Str)==z||(("spread":Str)==z||false)))=(("spread":Str)==z||(("back":Str)==z||(("leave":Str)==z||false)))
   cases(("back":Str)==z)<;>cases(("leave":Str)==z)<;>cases(("spread":Str)==z)<;>rfl
  ·rcases(by omega:i=0∨i=1∨i=2) with rfl|rfl|rfl<;>exact fun env S=>by kernel_rfl
 ·have hw:aD i=[.lesser,.greater,.leave]:=by unfold aD;rw[if_neg (by omega),if_pos h.2]
  refine fin ["greater","leave","lesser"] (by decide+kernel) (fun z=>?_) ?_
  ·unfold Dy
   rw[hw]
   show(("greater":Str)==z||(("leave":Str)==z||(("lesser":Str)==z||false)))=(("lesser":Str)==z||(("greater":Str)==z||(("leave":Str)==z||false)))
   cases(("greater":Str)==z)<;>cases(("leave":Str)==z)<;>cases(("lesser":Str)==z)<;>rfl
  ·rcases(by omega:i=3∨i=4) with rfl|rfl<;>exact fun env S=>by kernel_rfl
 ·subst h
  refine fin ["content","gone","leave"] (by decide+kernel) (fun z=>rfl) fun env S=>by kernel_rfl
end
end Bd
namespace Bd
open PySem L2 PyProof.Rows Ev
abbrev E3:=D×Nat
theorem oh{S:a0}{o:Ob}:(S++[o])[S.length]? =some o:=by simp
theorem wV{S:a0}{o p:Ob}:(S++[o]).set S.length p=S++[p]:=by simp
theorem m8{S:a0}{t:Tg}{c:MT}{f:ME}{env:aq}{h:D→Option D}:∀ (ds:List D) (acc:List D),(∀d∈ds,∃e1,aV t d env=some e1∧∀T,(h d=none→c e1 T= .ok false T)∧∀v,h d=some v→c e1 T= .ok true T∧∃r,f e1 T= .ok r T∧r.d=v)→acc.length+ds.length<16777216→
  vg S.length t c f ds env (S++[Ob.lst acc])= .ok () (S++[Ob.lst (acc++ds.filterMap h)])
 | [],acc,_,_=>by
  unfold vg
  rw[List.filterMap_nil,JC]
 |d::ds,acc,hx,hl=>by
  obtain⟨e1,hb,hc⟩:=hx d (Jf ..)
  obtain⟨h1,h2⟩:=hc (S++[Ob.lst acc])
  rw[JK] at hl
  unfold vg
  simp only[hb]
  cases hd:h d with
  |none=>
   rw[h1 hd]
   show vg S.length t c f ds env (S++[Ob.lst acc])=_
   rw[m8 ds acc (fun x m=>hx x (Je _ m)) (by omega),List.filterMap_cons_none hd]
  |some v=>
   obtain⟨g1,r,g2,rfl⟩:=h2 v hd
   simp only[g1,R.bind,g2,if_true]
   rw[oh]
   show(if acc.length<16777216 then vg S.length t c f ds env ((S++[Ob.lst acc]).set S.length (.lst (acc++[r.d]))) else .bad)=_
   rw[if_pos (by omega),wV,m8 ds (acc++[r.d]) (fun x m=>hx x (Je _ m)) (by rw[JF,JW];omega),List.filterMap_cons_some hd,List.append_assoc]
   rfl
theorem pT{S:a0}{vs1:List Nat}{t t1:Tg}{c c1:MT}{it1:MI}{f:ME}{env:aq}{src:D→List D}{h:D→D→Option D}{N:Nat}:∀ (ds:List D) (acc:List D),
  (∀d∈ds,∃e1,aV t d env=some e1∧(∀T,c e1 T= .ok true T)∧(∀T,it1 e1 T= .ok (.st (src d)) T)∧(src d).length≤N∧∀x∈src d,∃e2,aV t1 x (aF vs1 e1)=some e2∧∀T,(h d x=none→c1 e2 T= .ok false T)∧∀v,h d x=some v→c1 e2 T= .ok true T∧∃r,f e2 T= .ok r T∧r.d=v)→
  acc.length+ds.length*N<16777216→gy S.length vs1 t c it1 t1 c1 f ds env (S++[Ob.lst acc])= .ok () (S++[Ob.lst (acc++ds.flatMap fun d=>(src d).filterMap (h d))])
 | [],acc,_,_=>by
  unfold gy
  rw[List.flatMap_nil,JC]
 |d::ds,acc,hx,hl=>by
  obtain⟨e1,hb,hc,hi,hN,hh⟩:=hx d (Jf ..)
  rw[JK,Nat.succ_mul] at hl
  unfold gy
  simp only[hb,hc,hi,R.bind,if_true]
  have e1:=m8 (S:=S) (t:=t1) (c:=c1) (f:=f) (env:=aF vs1 e1) (h:=h d) (src d) acc hh (by omega)
  rw[e1]
  have hle:((src d).filterMap (h d)).length≤(src d).length:=List.length_filterMap_le ..
  have ih:=pT (S:=S) ds (acc++(src d).filterMap (h d)) (fun x m=>hx x (Je _ m)) (by rw[JF];omega)
  show gy S.length vs1 t c it1 t1 c1 f ds env _=_
  rw[ih,List.flatMap_cons,List.append_assoc]
mutual
theorem oN{n:Nat}:∀ (d:D),free d=true→qD n d=true
 | .ref m,h=>by cases h
 | .tup xs,h=>bS xs h
 | .lst xs,h=>bS xs h
 | .scr xs,h=>bS xs h
 | .dct ks vs,h=>bS vs h
 | .dcn ks vs,h=>by
  have h:(frees ks&&frees vs)=true:=h
  obtain⟨h1,h2⟩:=Jn.mp h
  show(frees ks&&bT n vs)=true
  rw[h1,bS vs h2];rfl
 | .ins _ fs,h=>bS fs h
 | .exc _ d,h=>oN d h
 | .non,_=>rfl
 | .bl _,_=>rfl
 | .int _,_=>rfl
 | .str _,_=>rfl
 | .glb _,_=>rfl
 | .clo _ _,_=>rfl
theorem bS{n:Nat}:∀ (ds:List D),frees ds=true→bT n ds=true
 | [],_=>rfl
 |d::ds,h=>by
  have h:(free d&&frees ds)=true:=h
  obtain⟨h1,h2⟩:=Jn.mp h
  show(qD n d&&bT n ds)=true
  rw[oN d h1,bS ds h2];rfl
end
theorem zq{S:a0}{vs vs1:List Nat}{t t1:Tg}{it:MI}{c c1:MT}{it1:MI}{f:ME}{env:aq}{src:D→List D}{h:D→D→Option D}{N:Nat}(ds:List D)(hit:it env S= .ok (.st ds) S)
  (hx:∀d∈ds,∃e1,aV t d (aF vs env)=some e1∧(∀T,c e1 T= .ok true T)∧(∀T,it1 e1 T= .ok (.st (src d)) T)∧(src d).length≤N∧∀x∈src d,∃e2,aV t1 x (aF vs1 e1)=some e2∧∀T,(h d x=none→c1 e2 T= .ok false T)∧∀v,h d x=some v→c1 e2 T= .ok true T∧∃r,f e2 T= .ok r T∧r.d=v)
  (hl:ds.length*N<16777216) (hf:frees (ds.flatMap fun d=>(src d).filterMap (h d))=true) (hS:(S.all fun o=>o.free||o.low S.length)=true):
  fb (nN vs vs1 t it c it1 t1 c1 f) env S= .ok (.new (.lst (ds.flatMap fun d=>(src d).filterMap (h d)))) S:=by
 have e:=pT (S:=S) (vs1:=vs1) (t:=t) (t1:=t1) (c:=c) (c1:=c1) (it1:=it1) (f:=f) (env:=aF vs env) (src:=src) (h:=h) (N:=N) ds [] hx (by simpa using hl)
 have e2:nN vs vs1 t it c it1 t1 c1 f env S= .ok (.val (.ref S.length)) (S++[Ob.lst (ds.flatMap fun d=>(src d).filterMap (h d))]):=by
  unfold nN
  rw[hit]
  show(fW (gy S.length vs1 t c it1 t1 c1 f ds (aF vs env) (S++[Ob.lst []]))).bind _=_
  rw[e];rfl
 unfold fb
 rw[e2]
 show(match(S++[Ob.lst _])[S.length]? with|some (.lst ys)=>if decide (S.length≤S.length)&&bT S.length ys&&(((S++[Ob.lst _]).take S.length).all fun o=>o.free||o.low S.length) then Ev.R.ok (RV.new (.lst ys)) ((S++[Ob.lst _]).take S.length) else .bad|_=>.bad)=_
 rw[oh]
 have ht:(S++[Ob.lst (ds.flatMap fun d=>(src d).filterMap (h d))]).take S.length=S:=List.take_left
 have hlow:=bS (n:=S.length) _ hf
 simp only[ht,hlow,hS,JD,decide_true,Bool.and_true,if_true]
end Bd
namespace Lw_k04
open PySem L2 PyProof.Rows LamX He Ev Bd
section
variable {w:World}{K:PySem.W.Frag}{mg:Str→Option Value}{base:Heap}
abbrev nr(w:World)(K:PySem.W.Frag)(mg:Str→Option Value)(base:Heap)(x qn:Str)(d:Stmt)(a:Addr)(ps:List Str)(i np:Nat):Prop:=∃fd,FunD K x qn (defArgs d) (defBody d) (defScope d) [] [] a fd∧∀k,FnG Pr w K mg base (L2.CX Pr w) (6*k) a fd ps (jd (cg w K) (ak Pg fuel k i) np)
abbrev iK(w:World)(K:PySem.W.Frag)(mg:Str→Option Value)(base:Heap)(k i:Nat)(x:Str):Prop:=Cal (cg w K) Pr w K mg base ⟨ak Pg fuel k,fuel⟩ (6*k) i x []
section
variable {x qual:Str}{params:Arguments}{body:List Stmt}{scope:Scope}{kws:List (Str×V)}{f:Addr}{fd:FuncData}{p1 p2 p3 p4 p5:Str}
theorem IT(FD:FunD K x qual params body scope [] kws f fd)(h:∀ (kV doc pm:Value) (an:Option Addr) (cdv ct:Value),bindArgs (PySem.W.fnOf x qual params body scope .none kV doc pm an cdv ct) ⟨[],[]⟩=pure []:=by intros;rfl):L2.Binds K fd [] []:=
 FD.bindsN fun _ _ _ _ _ _ us hl=>match us,hl with| [],_=>h ..
theorem Hy(FD:FunD K x qual params body scope [] kws f fd)(h:∀ (kV doc pm:Value) (an:Option Addr) (cdv ct:Value) (a:Value),bindArgs (PySem.W.fnOf x qual params body scope .none kV doc pm an cdv ct) ⟨[a],[]⟩=pure [(p1,a)]:=by intros;rfl):L2.Binds K fd [p1] []:=
 FD.bindsN fun _ _ _ _ _ _ us hl=>match us,hl with| [_],_=>h ..
theorem vf(FD:FunD K x qual params body scope [] kws f fd)(h:∀ (kV doc pm:Value) (an:Option Addr) (cdv ct:Value) (a b:Value),bindArgs (PySem.W.fnOf x qual params body scope .none kV doc pm an cdv ct) ⟨[a,b],[]⟩=pure [(p1,a),(p2,b)]:=by intros;rfl):L2.Binds K fd [p1,p2] []:=
 FD.bindsN fun _ _ _ _ _ _ us hl=>match us,hl with| [_,_],_=>h ..
theorem J7(FD:FunD K x qual params body scope [] kws f fd)(h:∀ (kV doc pm:Value) (an:Option Addr) (cdv ct:Value) (a b c:Value),bindArgs (PySem.W.fnOf x qual params body scope .none kV doc pm an cdv ct) ⟨[a,b,c],[]⟩=pure [(p1,a),(p2,b),(p3,c)]:=by intros;rfl):L2.Binds K fd [p1,p2,p3] []:=
 FD.bindsN fun _ _ _ _ _ _ us hl=>match us,hl with| [_,_,_],_=>h ..
end
theorem mm{N P:List Str}{sc:Scope}(a:sc.kind= .function:=by rfl)(b:sc.isCoroutine=false:=by rfl)(c:sc.isGenerator=false:=by rfl)(d:N.Nodup:=by decide+kernel)(e:N.take P.length=P:=by rfl)(f:∀x∈P,sc.names.lookup x=some .local∨sc.names.lookup x=some .cell:=by decide+kernel)(g:∀y∈sc.names,y.2≠ .free:=by decide+kernel):FnScope N P sc:=⟨a,b,c,d,e,f,g⟩
theorem j6(F:Fw w K mg base):(K.lookup sysModules).isSome=true:=F.chk 14
theorem HM(F:Fw w K mg base):Exr (cg w K) Pr K 2:=
 ⟨_,_,_,_,_,_,A5 (d:=yi) PySem.F.excBase_ValueError PySem.F.store_ValueError PySem.W.kxs_ValueError (F.ks 0) (F.chk 13 (c:=Bt)) rfl rfl rfl rfl (fun _ _ _ _ _ _ _ _ _=>rfl) (fun _ _ _ _ _ _ _ _ _=>rfl) (fun _=>⟨_,rfl⟩) (by decide+kernel) (by decide+kernel) (by decide+kernel) (by decide+kernel) (by decide+kernel)⟩
theorem G4:FnScope ["value"] ["value"] (defScope (top 5)):=mm
theorem IY(F:Fw w K mg base):nr w K mg base "is_list" "is_list" (top 5) (fAd K ("is_list",none)) ["value"] 2 1:=by
 obtain⟨fd,FD⟩:=F.def_ 0
 refine⟨fd,FD,bB (Γ:=cg w K) rfl rfl FD G4 rfl fun k cdv A outer s H E hcd q=>?_⟩
 exact aw (aX (De q (aB 0) (F.free 6 (x:="isinstance")) (F.free 4 (x:="list")) (F.free 13 (x:="tuple")) boot_list boot_tuple))
theorem Ja(F:Fw w K mg base)(k:Nat):iK w K mg base k 2 "is_list":=by
 obtain⟨fd,FD,G⟩:=IY F
 exact cU (G k) (F.glo 15 (x:="is_list")) FD (Hy FD) (pZ rfl)
theorem BJ:FnScope ["case","value"] ["case","value"] (defScope (top 24)):=mm
theorem HP(F:Fw w K mg base):nr w K mg base "is_rule" "is_rule" (top 24) (fAd K ("is_rule",none)) ["case","value"] 11 2:=by
 obtain⟨fd,FD⟩:=F.def_ 1
 refine⟨fd,FD,bB (Γ:=cg w K) rfl rfl FD BJ rfl fun k cdv A outer s H E hcd q=>?_⟩
 exact aw (aX (rH (aj (BG q (aB 1) (F.free 6 (x:="isinstance")) (F.free 11 (x:="str")) boot_str) (aj (jV q.in_ (aB 1) (Fs q (let⟨es,n,hd⟩:=F.tab 0 (t:=sP);⟨_,es,n,(F.glo 12 (x:="RULES")),hd,xj (Γ:=cg w K) (F.chk 5 (c:=AR))⟩) (aB 0))) .nil))))
theorem F7(F:Fw w K mg base)(k:Nat):iK w K mg base k 11 "is_rule":=by
 obtain⟨fd,FD,G⟩:=HP F
 exact cU (G k) (F.glo 16 (x:="is_rule")) FD (vf FD) (pZ rfl)
theorem Ge:FnScope ["value"] ["value"] (defScope (top 25)):=mm
theorem Ia(F:Fw w K mg base):nr w K mg base "is_case" "is_case" (top 25) (fAd K ("is_case",none)) ["value"] 12 1:=by
 obtain⟨fd,FD⟩:=F.def_ 2
 refine⟨fd,FD,bB (Γ:=cg w K) rfl rfl FD Ge rfl fun k cdv A outer s H E hcd q=>?_⟩
 exact aw (aX (rH (aj (BG q (aB 0) (F.free 6 (x:="isinstance")) (F.free 11 (x:="str")) boot_str) (aj (jV q.in_ (aB 0) (uG (⟨_,(F.glo 8 (x:="CASES")),gu (Γ:=cg w K) (F.chk 4 (c:=kH))⟩))) .nil))))
theorem Iq(F:Fw w K mg base)(k:Nat):iK w K mg base k 12 "is_case":=by
 obtain⟨fd,FD,G⟩:=Ia F
 exact cU (G k) (F.glo 17 (x:="is_case")) FD (Hy FD) (pZ rfl)
theorem BQ:FnScope ["self","rules","case","rule"] ["self","rules"] (defScope (j5 26 1)):=mm
theorem Ij(F:Fw w K mg base):nr w K mg base "__init__" "Table.__init__" (j5 26 1) (fAd K ("Table",some "__init__")) ["self","rules"] 13 2:=by
 obtain⟨fd,FD⟩:=F.def_ 3
 refine⟨fd,FD,bB (Γ:=cg w K) rfl rfl FD BQ rfl fun k cdv A outer s H E hcd q=>?_⟩
 exact au (bK (j9 (.cons (d9 (mh (bO q (Ja F k) (aj (aB 1) .nil)))) (.cons (bg q.ne (aS q.len (F.free 0 (x:="len")) (aj (aB 1) .nil)) (aS q.len (F.free 0 (x:="len")) (aj (uG (⟨_,(F.glo 8 (x:="CASES")),gu (Γ:=cg w K) (F.chk 4 (c:=kH))⟩)) .nil))) .nil))) (aw (mS q (c:=2) (HM F) (F.glo 10 (x:="BadTable")) (Cf))) (br)) (au (ie q (passes_of rfl) (D7 q (F.free 5 (x:="zip")) (aj (uG (⟨_,(F.glo 8 (x:="CASES")),gu (Γ:=cg w K) (F.chk 4 (c:=kH))⟩)) (aj (aB 1) .nil))) (vi q (qt (dg q 2) (qt (dg q 3) mW))) (aw (bK (d9 (mh (bO q (F7 F k) (aj (aB 2) (aj (aB 3) .nil))))) (aw (mS q (c:=2) (HM F) (F.glo 10 (x:="BadTable")) (aB 2))) (br)))) (aw (C0 q (bJ (Γ:=cg w K) (F.chk 0 (c:=jg))) (aB 0) (aS q.tuple (F.free 13 (x:="tuple")) (aj (aB 1) .nil)))))
theorem sh(F:Fw w K mg base)(k:Nat):Mkc (cg w K) Pr w K mg base ⟨ak Pg fuel k,fuel⟩ (6*k) 11 13 []:=by
 obtain⟨fd,FD,G⟩:=Ij F
 exact Dz (G k) (F.chk 6 (c:=Cy)) (vf FD) (pZ rfl)
theorem G6:FnScope ["self","other"] ["self","other"] (defScope (j5 26 3)):=mm
theorem HR(F:Fw w K mg base):nr w K mg base "__eq__" "Table.__eq__" (j5 26 3) (fAd K ("Table",some "__eq__")) ["self","other"] 15 2:=by
 obtain⟨fd,FD⟩:=F.def_ 4
 refine⟨fd,FD,bB (Γ:=cg w K) rfl rfl FD G6 rfl fun k cdv A outer s H E hcd q=>?_⟩
 exact aw (aX (rH (aj (qH q (c:=11) (iV (Γ:=cg w K) (F.chk 3 (c:=AD))) (aB 1) (F.free 6 (x:="isinstance")) (F.glo 7 (x:="Table"))) (aj (jV q.eq (gj q (bJ (Γ:=cg w K) (F.chk 0 (c:=jg))) (aB 0)) (gj q (bJ (Γ:=cg w K) (F.chk 0 (c:=jg))) (aB 1))) .nil))))
theorem ET(F:Fw w K mg base)(k:Nat):Opm (cg w K) Pr w K mg base ⟨ak Pg fuel k,fuel⟩ (6*k) 11 15 "__eq__":=by
 obtain⟨fd,FD,G⟩:=HR F
 exact vO (G k) (F.chk 7 (c:=FH)) (vf FD)
theorem Fj:FnScope ["self","other","case","one","two"] ["self","other"] (defScope (j5 26 6)):=mm
theorem HI(F:Fw w K mg base):nr w K mg base "__sub__" "Table.__sub__" (j5 26 6) (fAd K ("Table",some "__sub__")) ["self","other"] 18 2:=by
 obtain⟨fd,FD⟩:=F.def_ 5
 refine⟨fd,FD,bB (Γ:=cg w K) rfl rfl FD Fj rfl fun k cdv A outer s H E hcd q=>?_⟩
 exact au (bK (d9 (mh (qH q (c:=11) (iV (Γ:=cg w K) (F.chk 3 (c:=AD))) (aB 1) (F.free 6 (x:="isinstance")) (F.glo 7 (x:="Table"))))) (aw (Ay)) (br)) (aw (aX (aS q.len (F.free 0 (x:="len")) (aj (xC q [("case",2),("one",3),("two",4)] (D5 q (F.free 5 (x:="zip")) (aj (uG (⟨_,(F.glo 8 (x:="CASES")),gu (Γ:=cg w K) (F.chk 4 (c:=kH))⟩)) (aj (gj q (bJ (Γ:=cg w K) (F.chk 0 (c:=jg))) (aB 0)) (aj (gj q (bJ (Γ:=cg w K) (F.chk 0 (c:=jg))) (aB 1)) .nil)))) (fun s1 H1 C1 cl1 fp1=>vi (q.blk s1 H1 _ _ fp1) (qt (dg (q.blk s1 H1 _ _ fp1) 2) (qt (dg (q.blk s1 H1 _ _ fp1) 3) (qt (dg (q.blk s1 H1 _ _ fp1) 4) mW)))) (fun s1 H1 C1 cl1 fp1=>pts_one (bg (q.blk s1 H1 _ _ fp1).ne (aB 3) (aB 4))) (fun s1 H1 C1 cl1 fp1=>aB 2)) .nil))))
theorem Cc(F:Fw w K mg base)(k:Nat):Opm (cg w K) Pr w K mg base ⟨ak Pg fuel k,fuel⟩ (6*k) 11 18 "__sub__":=by
 obtain⟨fd,FD,G⟩:=HI F
 exact vO (G k) (F.chk 8 (c:=F9)) (vf FD)
theorem FC:FnScope ["self","case"] ["self","case"] (defScope (j5 26 7)):=mm
theorem HW(F:Fw w K mg base):nr w K mg base "rule_of" "Table.rule_of" (j5 26 7) (fAd K ("Table",some "rule_of")) ["self","case"] 19 2:=by
 obtain⟨fd,FD⟩:=F.def_ 6
 refine⟨fd,FD,bB (Γ:=cg w K) rfl rfl FD FC rfl fun k cdv A outer s H E hcd q=>?_⟩
 exact aw (aX (bZ q (gj q (bJ (Γ:=cg w K) (F.chk 0 (c:=jg))) (aB 0)) (FQ q (let⟨ob,h1,h2,h3⟩:=(ki (F.chk 4 (c:=kH))).2;⟨_,ob,(F.glo 8 (x:="CASES")),h1,h2,h3,(ki (F.chk 4 (c:=kH))).1⟩) (aB 1))))
theorem IE(F:Fw w K mg base)(k:Nat):Mth (cg w K) Pr w K mg base ⟨ak Pg fuel k,fuel⟩ (6*k) 11 19 "rule_of" []:=by
 obtain⟨fd,FD,G⟩:=HW F
 exact xu (G k) (F.chk 9 (c:=zY)) (F.chk 10 (c:=Br)) (vf FD) (pZ rfl)
theorem Fh:FnScope ["self","case","rule","own"] ["self","case","rule"] (defScope (j5 26 8)):=mm
theorem Iv(F:Fw w K mg base):nr w K mg base "with_rule" "Table.with_rule" (j5 26 8) (fAd K ("Table",some "with_rule")) ["self","case","rule"] 20 3:=by
 obtain⟨fd,FD⟩:=F.def_ 7
 refine⟨fd,FD,bB (Γ:=cg w K) rfl rfl FD Fh rfl fun k cdv A outer s H E hcd q=>?_⟩
 exact au (bK (j9 (.cons (d9 (mh (bO q (Iq F k) (aj (aB 1) .nil)))) (.cons (d9 (mh (bO q (F7 F k) (aj (aB 1) (aj (aB 2) .nil))))) .nil))) (aw (mS q (c:=2) (HM F) (F.glo 10 (x:="BadTable")) (aB 1))) (br)) (aw (aX (zI q (c:=11) (sh F k) (F.glo 7 (x:="Table")) (aj (xC q [("own",3)] (dS q (uG (⟨_,(F.glo 8 (x:="CASES")),gu (Γ:=cg w K) (F.chk 4 (c:=kH))⟩))) (fun s1 H1 C1 cl1 fp1=>dg (q.blk s1 H1 _ _ fp1) 3) (fun s1 H1 C1 cl1 fp1=>i7) (fun s1 H1 C1 cl1 fp1=>xk (bg (q.blk s1 H1 _ _ fp1).eq (aB 3) (aB 1)) (aB 2) (wK (q.blk s1 H1 _ _ fp1) (IE F k) (aB 0) (aj (aB 3) .nil)))) .nil))))
theorem I9(F:Fw w K mg base)(k:Nat):Mth (cg w K) Pr w K mg base ⟨ak Pg fuel k,fuel⟩ (6*k) 11 20 "with_rule" []:=by
 obtain⟨fd,FD,G⟩:=Iv F
 exact xu (G k) (F.chk 9 (c:=zY)) (F.chk 11 (c:=Bx)) (J7 FD) (pZ rfl)
theorem Bg:GScope ["rows","case","row","rule"] [] (defScope (top 27)):=⟨rfl,rfl,rfl,by decide+kernel,rfl,by decide+kernel,by decide+kernel⟩
theorem GA(F:Fw w K mg base)(k:Nat):Gc.GFt Pr w K mg base (6*k+1) "all_tables" ["rows","case","row","rule"] (gT (cg w K) (eO ⟨ak Pg fuel k,fuel⟩)):=by
 obtain⟨fd,FD⟩:=F.def_ 8
 refine Gc.Dx (Γ:=cg w K) rfl rfl FD Bg (F.glo 18 (x:="all_tables")) (IT FD) (by decide+kernel) fun X A n pn pins Yl cdv O qq=>?_
 exact Gc.jk (Gc.BN (fun Hz sz=>cQ (qq Hz sz) false 0 (dM (aj (sN .nil) .nil)))) (Gc.jk (Gc.BN (fun Hz sz=>ie (qq Hz sz) (PassesOwn.never) (dS (qq Hz sz) (uG (⟨_,(F.glo 8 (x:="CASES")),gu (Γ:=cg w K) (F.chk 4 (c:=kH))⟩))) (dg (qq Hz sz) 1) (aw (xE (qq Hz sz) (mt:=false) (i:=0) [("row",2),("rule",3)] [3] (dS (qq Hz sz) (aB 0)) (fun s1 H1 C1 cl1 fp1=>dg ((qq Hz sz).blk s1 H1 _ _ fp1) 2) (fun s1 H1 C1 cl1 fp1 q1=>i7) (fun s1 H1 C1 cl1 fp1 q1=>dS q1 (Fs q1 (let⟨es,n,hd⟩:=F.tab 0 (t:=sP);⟨_,es,n,(F.glo 12 (x:="RULES")),hd,xj (Γ:=cg w K) (F.chk 5 (c:=AR))⟩) (aB 1))) (fun s1 H1 C1 cl1 fp1=>dg ((qq Hz sz).blk s1 H1 _ _ fp1) 3) (fun s1 H1 C1 cl1 fp1 q1=>i7) (fun s1 H1 C1 cl1 fp1 q1=>bC q1.add (aB 2) (sN (aj (aB 3) .nil))))))) (Gc.jk (Gc.C4 (fun Hz sz=>dS (qq Hz sz) (aB 0)) (fun Hz sz=>dg (qq Hz sz) 2) (Gc.jk (Gc.yw O (fun Hz sz=>zI (qq Hz sz) (c:=11) (sh F k) (F.glo 7 (x:="Table")) (aj (aB 2) .nil))) (Gc.y0))) (Gc.y0)))
theorem IK(F:Fw w K mg base):Ex.AllT Pr w K mg base ((cg w K).cls 11) "all_tables" Ex.tabR∧S1.AllT1 Pr w K mg base ((cg w K).cls 11) "all_tables" Ex.tabR:=by
 obtain⟨fdL,FDL⟩:=F.def_ 0
 obtain⟨fdR,FDR⟩:=F.def_ 1
 obtain⟨fdI,FDI⟩:=F.def_ 3
 obtain⟨fdA,FDA⟩:=F.def_ 8
 obtain⟨es,n,hd⟩:=F.tab 0 (t:=sP)
 exact Ex.allTs_of FDL G4 (FDL.bindsN fun _ _ _ _ _ _ us hl=>match us,hl with| [_],_=>rfl) rfl rfl rfl rfl
  FDR BJ (FDR.bindsN fun _ _ _ _ _ _ us hl=>match us,hl with| [_,_],_=>rfl) rfl rfl rfl rfl rfl
  FDI BQ (FDI.bindsN fun _ _ _ _ _ _ us hl=>match us,hl with| [_,_],_=>rfl) rfl rfl rfl rfl rfl rfl rfl rfl rfl rfl
  FDA Bg (FDA.bindsN fun _ _ _ _ _ _ us hl=>match us,hl with| [],_=>rfl)
  ⟨rfl,rfl,by decide+kernel,by decide+kernel,rfl,rfl,rfl,rfl,rfl,fun _ _ _ _ _ _=>rfl,fun _ _ _ _ _ _=>rfl,fun _ _ _ _ _ _=>rfl,fun _ _ _ _ _ _=>rfl,fun _ _ _ _ _ h=>⟨_,rfl,h⟩⟩ (fun _ _ _=>rfl) (fun _ _ _=>rfl)
  (F.glo 15 (x:="is_list")) (F.glo 16 (x:="is_rule")) (F.glo 18 (x:="all_tables")) (F.glo 7 (x:="Table")) (F.glo 8 (x:="CASES")) (F.glo 12 (x:="RULES")) (F.free 5 (x:="zip")) (F.free 0 (x:="len")) (F.free 13 (x:="tuple")) (F.free 6 (x:="isinstance")) (F.free 4 (x:="list")) (F.free 11 (x:="str"))
  (F.chk 9 (c:=zY)) (F.chk 12 (c:=Bh)) (F.chk 6 (c:=Cy)) (F.chk 4 (c:=kH)) (F.chk 5 (c:=AR)) hd
theorem aT(F:Fw w K mg base):Ex.AllT Pr w K mg base ((cg w K).cls 11) "all_tables" Ex.tabR:=(IK F).1
theorem aZ(F:Fw w K mg base):S1.AllT1 Pr w K mg base ((cg w K).cls 11) "all_tables" Ex.tabR:=(IK F).2
theorem Dj:FnScope ["_law_script","_law_k","_law_cells","_law_great","_law_cell","_law_seed"] ["_law_script","_law_k"] (defScope (top 29)):=mm
theorem Fm(F:Fw w K mg base):nr w K mg base "_law_begun" "_law_begun" (top 29) (fAd K ("_law_begun",none)) ["_law_script","_law_k"] 200 2:=by
 obtain⟨fd,FD⟩:=F.def_ 9
 refine⟨fd,FD,bB (Γ:=cg w K) rfl rfl FD Dj rfl fun k cdv A outer s H E hcd q=>?_⟩
 exact au (cQ q false 2 (bC q.add (BL q (aB 0) (.some (aB 1)) .none) (BL q (aB 0) .none (.some (aB 1))))) (au (A7 q (mt:=false) 3 [("_law_cell",4)] (dS q (aB 2)) (fun s1 H1 C1 cl1 fp1=>dg (q.blk s1 H1 _ _ fp1) 4) (fun s1 H1 C1 cl1 fp1=>pts_one (bg (q.blk s1 H1 _ _ fp1).ge (aB 4) (bC (q.blk s1 H1 _ _ fp1).pow (ax) (ax)))) (fun s1 H1 C1 cl1 fp1=>aB 4)) (au (cQ q false 5 (bC q.add (ax) (aB 1))) (au (ie q (passes_of rfl) (dS q (aB 2)) (dg q 4) (aw (cQ q false 5 (bC q.mod (aS q.int (F.free 14 (x:="int")) (aj (bC q.add (bC q.mul (aB 5) (ax)) (aB 4)) .nil)) (ax))))) (aw (aX (Ey (.cons (aO) (xk (bg (q.wf).ne (aB 3) (dM .nil)) (bZ (q.wf) (aB 3) (ax)) (ax)) (.cons (aO) (aB 5) (.cons (aO) (bC (q.wf).add (aB 2) (dM (aj (bC (q.wf).add (bC (q.wf).mul (ax) (aB 1)) (ax)) .nil))) (.cons (aO) (ax) .nil))))))))))
theorem GL(F:Fw w K mg base)(k:Nat):iK w K mg base k 200 "_law_begun":=by
 obtain⟨fd,FD,G⟩:=Fm F
 exact cU (G k) (F.glo 19 (x:="_law_begun")) FD (vf FD) (pZ rfl)
theorem Eh:FnScope ["_law_m","_law_many","_law_found","_law_spot","_law_cells","_law_added","_law_cell","_law_blend"] ["_law_m","_law_many"] (defScope (top 30)):=mm
theorem Gr(F:Fw w K mg base):nr w K mg base "_law_draw" "_law_draw" (top 30) (fAd K ("_law_draw",none)) ["_law_m","_law_many"] 201 2:=by
 obtain⟨fd,FD⟩:=F.def_ 10
 refine⟨fd,FD,bB (Γ:=cg w K) rfl rfl FD Eh rfl fun k cdv A outer s H E hcd q=>?_⟩
 exact au (bK (bg q.gt (bZ q (aB 0) (aO)) (ax)) (au (cQ q false 2 (bC q.mod (aS q.int (F.free 14 (x:="int")) (aj (bZ q (aB 0) (aO)) .nil)) (aB 1))) (au (pf q (aB 0) (aO) (bC q.fdiv (bZ q (aB 0) (aO)) (aB 1))) (aw (aX (aB 2))))) (br)) (au (cQ q false 3 (bZ q (aB 0) (aO))) (au (pf q (aB 0) (aO) (bC q.add (aB 3) (ax))) (au (rK q 4 5 (cA (bZ q (aB 0) (aO)) (cA (bC q.add (bZ q (aB 0) (aO)) (bC q.mul (bC q.mul (ax) (aB 3)) (aB 3))) .nil))) (au (cQ q false 6 (bZ q (aB 4) (bC q.mod (aS q.int (F.free 14 (x:="int")) (aj (aB 3) .nil)) (aS q.len (F.free 0 (x:="len")) (aj (aB 4) .nil))))) (au (cQ q false 7 (bC q.mod (aS q.int (F.free 14 (x:="int")) (aj (bC q.add (bC q.mul (aB 6) (bC q.add (bC q.mul (ax) (aB 3)) (ax))) (aB 5)) .nil)) (ax))) (au (cQ q false 7 (bC q.mod (aS q.int (F.free 14 (x:="int")) (aj (bC q.add (bC q.add (bC q.mul (aB 7) (aB 7)) (bC q.mul (ax) (aB 3))) (bZ q (aB 0) (aO))) .nil)) (ax))) (aw (aX (bC q.mod (bC q.fdiv (bC q.mod (aS q.int (F.free 14 (x:="int")) (aj (bC q.add (bC q.mul (aB 7) (ax)) (aB 3)) .nil)) (ax)) (ax)) (aB 1))))))))))
theorem pC(F:Fw w K mg base)(k:Nat):iK w K mg base k 201 "_law_draw":=by
 obtain⟨fd,FD,G⟩:=Gr F
 exact cU (G k) (F.glo 20 (x:="_law_draw")) FD (vf FD) (pZ rfl)
theorem DU:FnScope ["_law_m","_law_some"] ["_law_m","_law_some"] (defScope (top 31)):=mm
theorem Gy(F:Fw w K mg base):nr w K mg base "_law_of" "_law_of" (top 31) (fAd K ("_law_of",none)) ["_law_m","_law_some"] 202 2:=by
 obtain⟨fd,FD⟩:=F.def_ 11
 refine⟨fd,FD,bB (Γ:=cg w K) rfl rfl FD DU rfl fun k cdv A outer s H E hcd q=>?_⟩
 exact aw (aX (bZ q (aB 1) (bO q (pC F k) (aj (aB 0) (aj (aS q.len (F.free 0 (x:="len")) (aj (aB 1) .nil)) .nil)))))
theorem GZ(F:Fw w K mg base)(k:Nat):iK w K mg base k 202 "_law_of":=by
 obtain⟨fd,FD,G⟩:=Gy F
 exact cU (G k) (F.glo 21 (x:="_law_of")) FD (vf FD) (pZ rfl)
theorem CJ:FnScope ["_law_k"] ["_law_k"] (defScope (top 32)):=mm
theorem FJ(F:Fw w K mg base):nr w K mg base "_law_words" "_law_words" (top 32) (fAd K ("_law_words",none)) ["_law_k"] 225 1:=by
 obtain⟨fd,FD⟩:=F.def_ 12
 refine⟨fd,FD,bB (Γ:=cg w K) rfl rfl FD CJ rfl fun k cdv A outer s H E hcd q=>?_⟩
 exact au (bK (bg q.lt (aB 0) (ax)) (aw (aX (dM (aj (aO) (aj (aO) (aj (aO) .nil)))))) (br)) (aw (aX (xk (bg q.lt (aB 0) (ax)) (dM (aj (aO) (aj (aO) (aj (aO) .nil)))) (dM (aj (aO) (aj (aO) (aj (aO) .nil)))))))
theorem t7(F:Fw w K mg base)(k:Nat):iK w K mg base k 225 "_law_words":=by
 obtain⟨fd,FD,G⟩:=FJ F
 exact cU (G k) (F.glo 22 (x:="_law_words")) FD (Hy FD) (pZ rfl)
theorem E9:FnScope ["_law_m","_law_way","_law_found","_law_k"] ["_law_m"] (defScope (top 33)):=mm
theorem GF(F:Fw w K mg base):nr w K mg base "_law_rules" "_law_rules" (top 33) (fAd K ("_law_rules",none)) ["_law_m"] 226 1:=by
 obtain⟨fd,FD⟩:=F.def_ 13
 refine⟨fd,FD,bB (Γ:=cg w K) rfl rfl FD E9 rfl fun k cdv A outer s H E hcd q=>?_⟩
 exact au (rK q 1 2 (cA (bO q (pC F k) (aj (aB 0) (aj (ax) .nil))) (cA (dM (aj (aO) (aj (aO) (aj (aO) (aj (aO) (aj (aO) (aj (aO) .nil))))))) .nil))) (au (ie q (passes_of rfl) (ft (F.free 2 (x:="range")) (ax)) (dg q 3) (au (bK (j9 (.cons (bg q.eq (aB 1) (ax)) (.cons (bg q.eq (bO q (pC F k) (aj (aB 0) (aj (ax) .nil))) (ax)) .nil))) (aw (pf q (aB 2) (aB 3) (bO q (GZ F k) (aj (aB 0) (aj (bO q (t7 F k) (aj (aB 3) .nil)) .nil))))) (br)) (aw (bK (E6 (.cons (bg q.eq (aB 1) (ax)) (.cons (bg q.eq (bZ q (aB 2) (aB 3)) (aO)) .nil))) (aw (pf q (aB 2) (aB 3) (bZ q (bO q (t7 F k) (aj (aB 3) .nil)) (bO q (pC F k) (aj (aB 0) (aj (ax) .nil)))))) (br))))) (aw (aX (aS q.tuple (F.free 13 (x:="tuple")) (aj (aB 2) .nil)))))
theorem EI(F:Fw w K mg base)(k:Nat):iK w K mg base k 226 "_law_rules":=by
 obtain⟨fd,FD,G⟩:=GF F
 exact cU (G k) (F.glo 23 (x:="_law_rules")) FD (Hy FD) (pZ rfl)
theorem D0:FnScope ["_law_found","_law_k","_law_longer","_law_row","_law_word"] [] (defScope (top 34)):=mm
theorem Fz(F:Fw w K mg base):nr w K mg base "_law_every" "_law_every" (top 34) (fAd K ("_law_every",none)) [] 239 0:=by
 obtain⟨fd,FD⟩:=F.def_ 14
 refine⟨fd,FD,bB (Γ:=cg w K) rfl rfl FD D0 rfl fun k cdv A outer s H E hcd q=>?_⟩
 exact au (cQ q false 0 (dM (aj (sN .nil) .nil))) (au (ie q (passes_of rfl) (ft (F.free 2 (x:="range")) (ax)) (dg q 1) (au (cQ q true 2 (dM .nil)) (au (ie q (passes_of rfl) (dS q (aB 0)) (dg q 3) (aw (vG (yh q (aB 2) (xC q [("_law_word",4)] (dS q (aS q.sortS (F.free 9 (x:="sorted")) (aj (bO q (t7 F k) (aj (aB 1) .nil)) .nil))) (fun s1 H1 C1 cl1 fp1=>dg (q.blk s1 H1 _ _ fp1) 4) (fun s1 H1 C1 cl1 fp1=>i7) (fun s1 H1 C1 cl1 fp1=>bC (q.blk s1 H1 _ _ fp1).add (aB 3) (sN (aj (aB 4) .nil)))))))) (aw (cQ q false 0 (aB 2)))))) (aw (aX (aB 0))))
theorem Gi(F:Fw w K mg base)(k:Nat):iK w K mg base k 239 "_law_every":=by
 obtain⟨fd,FD,G⟩:=Fz F
 exact cU (G k) (F.glo 24 (x:="_law_every")) FD (IT FD) (pZ rfl)
theorem Ew:FnScope ["_law_one","_law_other","_law_k"] ["_law_one","_law_other"] (defScope (top 35)):=mm
theorem G3(F:Fw w K mg base):nr w K mg base "_law_gap" "_law_gap" (top 35) (fAd K ("_law_gap",none)) ["_law_one","_law_other"] 240 2:=by
 obtain⟨fd,FD⟩:=F.def_ 15
 refine⟨fd,FD,bB (Γ:=cg w K) rfl rfl FD Ew rfl fun k cdv A outer s H E hcd q=>?_⟩
 exact aw (aX (aS q.len (F.free 0 (x:="len")) (aj (xC q [("_law_k",2)] (ft (F.free 2 (x:="range")) (ax)) (fun s1 H1 C1 cl1 fp1=>dg (q.blk s1 H1 _ _ fp1) 2) (fun s1 H1 C1 cl1 fp1=>pts_one (bg (q.blk s1 H1 _ _ fp1).ne (bZ (q.blk s1 H1 _ _ fp1) (aB 0) (aB 2)) (bZ (q.blk s1 H1 _ _ fp1) (aB 1) (aB 2)))) (fun s1 H1 C1 cl1 fp1=>aB 2)) .nil)))
theorem BF(F:Fw w K mg base)(k:Nat):iK w K mg base k 240 "_law_gap":=by
 obtain⟨fd,FD,G⟩:=G3 F
 exact cU (G k) (F.glo 25 (x:="_law_gap")) FD (vf FD) (pZ rfl)
theorem Dt:FnScope ["_law_every_here","_law_most","_law_at","_law_table"] ["_law_every_here","_law_most"] (defScope (top 36)):=mm
theorem Ga(F:Fw w K mg base):nr w K mg base "_law_left_right" "_law_left_right" (top 36) (fAd K ("_law_left_right",none)) ["_law_every_here","_law_most"] 241 2:=by
 obtain⟨fd,FD⟩:=F.def_ 16
 refine⟨fd,FD,bB (Γ:=cg w K) rfl rfl FD Dt rfl fun k cdv A outer s H E hcd q=>?_⟩
 exact au (cQ q false 2 (ax)) (au (Ex.k_forT q (aT F) (have q:=Cq.nox q;dg q 3) (have q:=Cq.nox q;au (bK (j9 (.cons (d9 (mh (qH q (c:=11) (iV (Γ:=cg w K) (F.chk 3 (c:=AD))) (aB 3) (F.free 6 (x:="isinstance")) (F.glo 7 (x:="Table"))))) (.cons (bg q.ne (aS (q.repr (j6 F)) (F.free 1 (x:="repr")) (aj (gj q (bJ (Γ:=cg w K) (F.chk 0 (c:=jg))) (aB 3)) .nil)) (aS (q.repr (j6 F)) (F.free 1 (x:="repr")) (aj (bZ q (aB 0) (aB 2)) .nil))) .nil))) (aw (aX (jP))) (br)) (au (cQ q false 2 (bC q.add (aB 2) (ax))) (aw (bK (bg q.gt (aB 2) (aB 1)) (aw (vk)) (br)))))) (aw (aX (jV q.eq (aB 2) (aS q.min2 (F.free 3 (x:="min")) (aj (ax) (aj (bC q.add (aB 1) (ax)) .nil)))))))
theorem vV(F:Fw w K mg base)(k:Nat):iK w K mg base k 241 "_law_left_right":=by
 obtain⟨fd,FD,G⟩:=Ga F
 exact cU (G k) (F.glo 26 (x:="_law_left_right")) FD (vf FD) (pZ rfl)
theorem C6:FnScope ["_law_every_here","_law_own","_law_table","_law_counts","_law_one","_law_gap_here"] ["_law_every_here","_law_own"] (defScope (top 37)):=mm
theorem ES(F:Fw w K mg base):nr w K mg base "_law_from_right" "_law_from_right" (top 37) (fAd K ("_law_from_right",none)) ["_law_every_here","_law_own"] 242 2:=by
 obtain⟨fd,FD⟩:=F.def_ 17
 refine⟨fd,FD,bB (Γ:=cg w K) rfl rfl FD C6 rfl fun k cdv A outer s H E hcd q=>?_⟩
 exact au (rK q 2 3 (cA (zI q (c:=11) (sh F k) (F.glo 7 (x:="Table")) (aj (aB 1) .nil)) (cA (bC q.mul (dM (aj (ax) .nil)) (ax)) .nil))) (au (Ex.k_forT q (aT F) (have q:=Cq.nox q;dg q 4) (have q:=Cq.nox q;au (cQ q false 5 (bO q (BF F k) (aj (aB 1) (aj (gj q (bJ (Γ:=cg w K) (F.chk 0 (c:=jg))) (aB 4)) .nil)))) (au (pf q (aB 3) (aB 5) (bC q.add (bZ q (aB 3) (aB 5)) (ax))) (aw (bK (bg q.ne (aS (q.repr (j6 F)) (F.free 1 (x:="repr")) (aj (dM (aj (jx q (Cc F k) (F.chk 2 (c:=ze)) (aB 2) (aB 4)) (aj (jx q (Cc F k) (F.chk 2 (c:=ze)) (aB 4) (aB 2)) (aj (zo q (ET F k) (nA (Γ:=cg w K) (F.chk 1 (c:=Di))) (aB 2) (aB 4)) .nil)))) .nil)) (aS (q.repr (j6 F)) (F.free 1 (x:="repr")) (aj (dM (aj (aB 5) (aj (aB 5) (aj (jV q.eq (aB 5) (ax)) .nil)))) .nil))) (aw (aX (jP))) (br)))))) (aw (aX (jV q.eq (aB 3) (dM (aj (ax) (aj (ax) (aj (ax) (aj (ax) (aj (ax) (aj (ax) (aj (ax) .nil))))))))))))
theorem EM(F:Fw w K mg base)(k:Nat):iK w K mg base k 242 "_law_from_right":=by
 obtain⟨fd,FD,G⟩:=ES F
 exact cU (G k) (F.glo 27 (x:="_law_from_right")) FD (vf FD) (pZ rfl)
theorem Dw:FnScope ["_law_every_here","_law_own","_law_table","_law_cases","_law_found","_law_k","_law_word","_law_fresh","_law_row"] ["_law_every_here","_law_own"] (defScope (top 38)):=mm
theorem Gj(F:Fw w K mg base):nr w K mg base "_law_near_right" "_law_near_right" (top 38) (fAd K ("_law_near_right",none)) ["_law_every_here","_law_own"] 243 2:=by
 obtain⟨fd,FD⟩:=F.def_ 18
 refine⟨fd,FD,bB (Γ:=cg w K) rfl rfl FD Dw rfl fun k cdv A outer s H E hcd q=>?_⟩
 exact au (BX q 2 3 4 (cA (zI q (c:=11) (sh F k) (F.glo 7 (x:="Table")) (aj (aB 1) .nil)) (cA (dM (aj (aO) (aj (aO) (aj (aO) (aj (aO) (aj (aO) (aj (aO) .nil))))))) (cA (dM .nil) .nil)))) (au (ie q (passes_of rfl) (ft (F.free 2 (x:="range")) (ax)) (dg q 5) (aw (ie q (passes_of rfl) (dS q (bO q (t7 F k) (aj (aB 5) .nil))) (dg q 6) (au (cQ q false 7 (gj q (bJ (Γ:=cg w K) (F.chk 0 (c:=jg))) (wK q (I9 F k) (aB 2) (aj (bZ q (aB 3) (aB 5)) (aj (aB 6) .nil))))) (aw (bK (bg q.ne (aB 7) (aB 1)) (aw (vG (wW q (aB 4) (aB 7)))) (br))))))) (aw (aX (jV q.eq (aS q.sortT (F.free 9 (x:="sorted")) (aj (aB 4) .nil)) (xC q [("_law_row",8)] (dS q (aB 0)) (fun s1 H1 C1 cl1 fp1=>dg (q.blk s1 H1 _ _ fp1) 8) (fun s1 H1 C1 cl1 fp1=>pts_one (bg (q.blk s1 H1 _ _ fp1).eq (bO (q.blk s1 H1 _ _ fp1) (BF F k) (aj (aB 8) (aj (aB 1) .nil))) (ax))) (fun s1 H1 C1 cl1 fp1=>aB 8))))))
theorem Gx(F:Fw w K mg base)(k:Nat):iK w K mg base k 243 "_law_near_right":=by
 obtain⟨fd,FD,G⟩:=Gj F
 exact cU (G k) (F.glo 28 (x:="_law_near_right")) FD (vf FD) (pZ rfl)
theorem DE:FnScope ["_law_script","_law_every_here","_law_table","_law_k","_law_m","_law_number","_law_own","_law_one","_law_other"] ["_law_script"] (defScope (top 39)):=mm
theorem BS(F:Fw w K mg base){fd:FuncData}(FD:FunD K "law" "law" (defArgs (top 39)) (defBody (top 39)) (defScope (top 39)) [] [] (fAd K ("law",none)) fd):∀k,FnG Pr w K mg base (L2.CX Pr w) (6*k) (fAd K ("law",none)) fd ["_law_script"] (jd (cg w K) (ak Pg fuel k 244) 1):=by
 refine bB (Γ:=cg w K) rfl rfl FD DE rfl fun k cdv A outer s H E hcd q=>?_
 exact au (cQ q false 1 (Em q (Gi F k))) (au (bK (j9 (.cons (bg q.ne (aS q.len (F.free 0 (x:="len")) (aj (aB 1) .nil)) (ax)) (.cons (bg q.ne (aS (q.repr (j6 F)) (F.free 1 (x:="repr")) (aj (H9 (Gc.G5 q [("_law_table",2)] (GA F k) (fun s1 H1 C1 cl1 fp1=>dg (q.blk s1 H1 _ _ fp1) 2) (fun s1 H1 C1 cl1 fp1 q1=>gj q1 (bJ (Γ:=cg w K) (F.chk 0 (c:=jg))) (aB 2)))) .nil)) (aS (q.repr (j6 F)) (F.free 1 (x:="repr")) (aj (aB 1) .nil))) .nil))) (aw (aX (jP))) (br)) (au (ie q (passes_of rfl) (ft (F.free 2 (x:="range")) (bC q.add (ax) (aS q.min2 (F.free 3 (x:="min")) (aj (aS q.len (F.free 0 (x:="len")) (aj (aB 0) .nil)) (aj (ax) .nil))))) (dg q 3) (au (cQ q true 4 (bO q (GL F k) (aj (aB 0) (aj (aB 3) .nil)))) (au (rK q 5 6 (cA (bO q (pC F k) (aj (aB 4) (aj (ax) .nil))) (cA (bO q (EI F k) (aj (aB 4) .nil)) .nil))) (au (bK (j9 (.cons (d9 (mh (bO q (vV F k) (aj (aB 1) (aj (aB 5) .nil))))) (.cons (d9 (mh (bO q (EM F k) (aj (aB 1) (aj (aB 6) .nil))))) .nil))) (aw (aX (jP))) (br)) (au (bK (j9 (.cons (bg q.ne (gj q (bJ (Γ:=cg w K) (F.chk 0 (c:=jg))) (bZ q (Ex.k_listT q (aT F) (F.free 4 (x:="list")) boot_list) (aB 5))) (bZ q (aB 1) (aB 5))) (.cons (d9 (mh (bO q (Gx F k) (aj (aB 1) (aj (bZ q (aB 1) (aB 5)) .nil))))) .nil))) (aw (aX (jP))) (br)) (aw (bK (bg q.ne (zX q (aB 1) (aB 6)) (ax)) (aw (aX (jP))) (br)))))))) (au (S1.k_forZ q (aZ F) (F.free 5 (x:="zip")) (have q:=Cq.nox q;vi q (qt (dg q 7) (qt (dg q 8) mW))) (have q:=Cq.nox q;aw (bK (j9 (.cons (d9 (w4 q (ET F k) (nA (Γ:=cg w K) (F.chk 1 (c:=Di))) (aB 7) (aB 8))) (.cons (bg q.ne (aS (q.repr (j6 F)) (F.free 1 (x:="repr")) (aj (jx q (Cc F k) (F.chk 2 (c:=ze)) (aB 7) (aB 8)) .nil)) (aS (q.repr (j6 F)) (F.free 1 (x:="repr")) (aj (ax) .nil))) .nil))) (aw (aX (jP))) (br)))) (aw (aX (rH (aj (bO q (vV F k) (aj (aB 1) (aj (ax) .nil))) (aj (bO q (vV F k) (aj (aB 1) (aj (ax) .nil))) .nil))))))))
end
end Lw_k04
namespace Lw_k04
open PySem L2 PyProof.Rows Ev Bd
def m7(i:Nat):List Rl:=if i<3 then[.back,.leave,.spread] else if i<5 then[.greater,.leave,.lesser] else[.content,.gone,.leave]
def aK:Nat→List (List Rl)
 |0=>[[]]
 |i+1=>(aK i).flatMap fun row=>(m7 i).map fun r=>row++[r]
abbrev allR:List (List Rl):=aK 6
def IJ(rs:List Rl):Bool:=match rs with
 | [a,b,c,d,e,f]=>Cs.may 0 a&&Cs.may 1 b&&Cs.may 2 c&&Cs.may 3 d&&Cs.may 4 e&&Cs.may 5 f
 |_=>false
theorem yl{rs:List Rl}(h:IJ rs=true):Rules rs:=by
 unfold IJ at h
 split at h
 ·simp only[Jy] at h
  obtain⟨⟨⟨⟨⟨h0,h1⟩,h2⟩,h3⟩,h4⟩,h5⟩:=h
  refine⟨rfl,fun j r hj=>?_⟩
  match j,hj with
  |0,hj=>cases hj;exact h0
  |1,hj=>cases hj;exact h1
  |2,hj=>cases hj;exact h2
  |3,hj=>cases hj;exact h3
  |4,hj=>cases hj;exact h4
  |5,hj=>cases hj;exact h5
  |j+6,hj=>simp at hj
 ·cases h
theorem Aw:(allR.all IJ)=true:=by decide+kernel
theorem bt:∀rs∈allR,Rules rs:=fun rs h=>yl (Jz.mp Aw rs h)
theorem oP:∀i<7,(aK i).length≤729:=by decide+kernel
def lG(rs ro:List Rl):Nat:=((List.zip EA (rs.zip ro)).filter fun t:Str×Rl×Rl=> !(t.2.1.s==t.2.2.s)).length
theorem six{rs:List Rl}(hr:Rules rs):∃a b c d e f,rs=[a,b,c,d,e,f]:=by
 have hl:=hr.len
 match rs,hl with
 | [a,b,c,d,e,f],_=>exact⟨a,b,c,d,e,f,rfl⟩
section
variable {k:Nat}{S:a0}
theorem oG(r:Rl):PyData.strOk r.s=true:=by cases r<;>decide+kernel
theorem BO{S:a0}{a b:Rl}:dq S (aH a) (aH b)=some (.val (.bl (!(a.s==b.s)))):=Bd.ne_str (oG a) (oG b)
theorem EH{rs ro:List Rl}(hr:Rules rs)(ho:Rules ro):ak Pg fuel (k+1) 18 [tabD rs,tabD ro] S= .ok (.val (.int (lG rs ro:Int))) S:=by
 obtain⟨a,b,c,d,e,f,rfl⟩:=six hr
 obtain⟨a',b',c',d',e',f',rfl⟩:=six ho
 refine e9 [some (tabD [a,b,c,d,e,f]),some (tabD [a',b',c',d',e',f']),none,none,none] (b:=zR) rfl (by simp[frees,fy]) ?_
 have hi:∀S,dB [11] 11 S (tabD [a',b',c',d',e',f'])=some true:=fun S=>rfl
 have f1:∀S rs,qX (fO [(11,0)]) S (tabD rs)=some (.tup (rs.map aH)):=fun S rs=>rfl
 have hz:(l6 (af [ah (.tup [.str "new",.str "changed",.str "gone",.str "two new",.str "two changed",.str "torn"]),cG (fO [(11,0)]) (ae 0),cG (fO [(11,0)]) (ae 1)])) [some (tabD [a,b,c,d,e,f]),some (tabD [a',b',c',d',e',f']),none,none,none] []=
   .ok (.st ((List.zip EA ([a,b,c,d,e,f].zip [a',b',c',d',e',f'])).map fun t:Str×Rl×Rl=>D.tup [.str t.1,aH t.2.1,aH t.2.2])) []:=by
  unfold l6
  simp only[EV,f1]
  rfl
 have hlc:=mF (fl:=fuel) (vs:=[2,3,4]) (t:=.tp [.nm 2,.nm 3,.nm 4]) (c:=ao (av dq (ae 3) (ae 4))) (f:=ae 2) (List.zip EA ([a,b,c,d,e,f].zip [a',b',c',d',e',f'])) (fun t:Str×Rl×Rl=>D.tup [.str t.1,aH t.2.1,aH t.2.2]) (fun t=> !(t.2.1.s==t.2.2.s)) (fun t=>D.str t.1) hz
  (fun t _=>⟨[some (tabD [a,b,c,d,e,f]),some (tabD [a',b',c',d',e',f']),some (.str t.1),some (aH t.2.1),some (aH t.2.2)],rfl,by simp only[EV,EN,BO],fun _=>⟨.val (.str t.1),by simp only[EV,EN],rfl⟩⟩) (by show 6≤16777216;decide)
 have hle:cN [] [.lst (((List.zip EA ([a,b,c,d,e,f].zip [a',b',c',d',e',f'])).filter fun t:Str×Rl×Rl=> !(t.2.1.s==t.2.2.s)).map fun t=>D.str t.1)]=some (.val (.int (lG [a,b,c,d,e,f] [a',b',c',d',e',f']:Int))):=by
  show some (RV.val (D.int (((((List.zip _ _).filter _).map _).length:Nat):Int)))=_
  rw[Jt];rfl
 unfold zR
 rw[aQ (e:=[some (tabD [a,b,c,d,e,f]),some (tabD [a',b',c',d',e',f']),none,none,none]) (S1:=[]) (fY (by simp only[EV,EN,dA,hi,Bool.not_true]))]
 rw[xD (zx hlc hle)]
 exact cZ rfl
theorem op_sub{rs ro:List Rl}(hr:Rules rs)(ho:Rules ro):fq ⟨ak Pg fuel (k+1),fuel⟩ 11 18 S (tabD rs) (tabD ro)= .ok (.val (.int (lG rs ro:Int))) S:=by
 unfold fq
 have h1:yU 11 S (tabD rs)=true:=rfl
 have h2:yU 11 S (tabD ro)=true:=rfl
 rw[h1,h2]
 show fW (ak Pg fuel (k+1) 18 [tabD rs,tabD ro] S)=_
 rw[EH hr ho];rfl
end
def ji(g:Cfg):MS:=aM false 0 (fb (nN [2,3] [3] (.nm 2) (aI (ae 0)) (gM) (aI (ve (xQ [("new",("ONE_SIDED",["back","leave","spread"])),("changed",("ONE_SIDED",["back","leave","spread"])),("gone",("ONE_SIDED",["back","leave","spread"])),("two new",("BOTH_SIDED",["greater","leave","lesser"])),("two changed",("BOTH_SIDED",["greater","leave","lesser"])),("torn",("TORN_APART",["content","gone","leave"]))]) (ae 1))) (.nm 3) (gM) (av aP (ae 2) (fF (af [ae 3])))))
def Cr:D→D→D
 | .tup xs,x=>.tup (xs++[x])
 |d,_=>d
def iP(rows:List (List Rl))(y1 y2 y3:Option D):aq:=[some (.lst (rows.map ai)),y1,y2,y3]
theorem zt:∀i<6,xQ [("new",("ONE_SIDED",["back","leave","spread"])),("changed",("ONE_SIDED",["back","leave","spread"])),("gone",("ONE_SIDED",["back","leave","spread"])),("two new",("BOTH_SIDED",["greater","leave","lesser"])),("two changed",("BOTH_SIDED",["greater","leave","lesser"])),("torn",("TORN_APART",["content","gone","leave"]))] (dY i)=some (ai (m7 i)):=by
 intro i hi
 match i,hi with
 |0,_=>rfl
 |1,_=>rfl
 |2,_=>rfl
 |3,_=>rfl
 |4,_=>rfl
 |5,_=>rfl
theorem hO:∀i<7,∀row∈aK i,row.length≤6:=by
 have h:((List.range 7).all fun i=>(aK i).all fun row=>decide (row.length≤6))=true:=by decide+kernel
 intro i hi row hr
 exact JL (Jz.mp (Jz.mp h i (List.mem_range.mpr hi)) row hr)
theorem lZ(i:Nat):(m7 i).length≤3:=by
 unfold m7
 split
 ·decide
 ·split<;>decide
theorem lW(i:Nat):((aK i).map ai).flatMap (fun d=>((m7 i).map aH).filterMap fun x=>some (Cr d x))=(aK (i+1)).map ai:=by
 show _=((aK i).flatMap fun row=>(m7 i).map fun r=>row++[r]).map ai
 rw[List.map_flatMap,List.flatMap_map]
 congr 1
 funext row
 rw[List.map_map]
 show((m7 i).map aH).filterMap (fun x=>some (Cr (ai row) x))=_
 rw[show(fun x=>some (Cr (ai row) x))=some ∘(Cr (ai row)) from rfl,List.filterMap_eq_map,List.map_map]
 refine List.map_congr_left fun r _=>?_
 show D.tup (row.map aH++[aH r])=D.tup ((row++[r]).map aH)
 rw[List.map_append];rfl
section
variable {S:a0}
theorem wR{g:Cfg}{i:Nat}(hi:i<6)(hS:S.all Ob.free=true)(y2 y3:Option D):ji g (iP (aK i) (some (.str (dY i))) y2 y3) S= .nx (iP (aK (i+1)) (some (.str (dY i))) y2 y3) S:=by
 have hit:(aI (ae 0)) (iP (aK i) (some (.str (dY i))) y2 y3) S= .ok (.st ((aK i).map ai)) S:=by
  simp only[EV,EN,iP]
 have hk:=zt i hi
 have h:=zq (S:=S) (vs:=[2,3]) (vs1:=[3]) (t:=.nm 2) (t1:=.nm 3) (c:=gM) (it1:=aI (ve (xQ [("new",("ONE_SIDED",["back","leave","spread"])),("changed",("ONE_SIDED",["back","leave","spread"])),("gone",("ONE_SIDED",["back","leave","spread"])),("two new",("BOTH_SIDED",["greater","leave","lesser"])),("two changed",("BOTH_SIDED",["greater","leave","lesser"])),("torn",("TORN_APART",["content","gone","leave"]))]) (ae 1))) (c1:=gM) (f:=av aP (ae 2) (fF (af [ae 3])))
  (src:=fun _=>(m7 i).map aH) (h:=fun d x=>some (Cr d x)) (N:=3) ((aK i).map ai) hit (fun d hd=>by
   obtain⟨row,hrow,rfl⟩:=JU.mp hd
   have hl:=hO i (by omega) row hrow
   refine⟨iP (aK i) (some (.str (dY i))) (some (ai row)) none,rfl,fun T=>rfl,fun T=>?_,by rw[Jt];exact lZ i,fun x hx=>?_⟩
   ·have e:(ve (xQ [("new",("ONE_SIDED",["back","leave","spread"])),("changed",("ONE_SIDED",["back","leave","spread"])),("gone",("ONE_SIDED",["back","leave","spread"])),("two new",("BOTH_SIDED",["greater","leave","lesser"])),("two changed",("BOTH_SIDED",["greater","leave","lesser"])),("torn",("TORN_APART",["content","gone","leave"]))]) (ae 1)) (iP (aK i) (some (.str (dY i))) (some (ai row)) none) T= .ok (.val (ai (m7 i))) T:=by
     unfold ve
     have e1:(ae 1) (iP (aK i) (some (.str (dY i))) (some (ai row)) none) T= .ok (.val (.str (dY i))) T:=by simp only[EV,EN,iP]
     rw[e1]
     show(match xQ _ (dY i) with|some d=>R.ok (RV.val d) T|none=>.bad)=_
     rw[hk]
    unfold aI
    rw[e]
    rfl
   ·obtain⟨r,hr,rfl⟩:=JU.mp hx
    refine⟨iP (aK i) (some (.str (dY i))) (some (ai row)) (some (aH r)),rfl,fun T=>⟨fun hn=>(by cases hn),fun v hv=>⟨rfl,.val (Cr (ai row) (aH r)),?_,?_⟩⟩⟩
    ·have ad:aP T (ai row) (.tup [aH r])=some (.val (Cr (ai row) (aH r))):=rO (by rw[Jt,JW];omega)
     simp only[EV,EN,iP,ad]
    ·cases hv;rfl) (by
    rw[Jt]
    have:=oP i (by omega)
    omega) (by
    rw[lW]
    exact bf fun _ _=>bX) (Jz.mpr fun o ho=>by rw[Jz.mp hS o ho];rfl)
 rw[lW] at h
 unfold ji
 rw[Ir h]
 rfl
end
theorem rows0:aK 0=[[]]:=rfl
theorem jR{n:Nat}{a b:List Nat}{x:Nat}(h:List.range n=a++x::b):x=a.length∧x<n:=by
 have h1:(List.range n)[a.length]? =some x:=by rw[h];simp
 have hl:a.length< (List.range n).length:=(Jl.mp h1).1
 rw[List.length_range] at hl
 rw[List.getElem?_range hl] at h1
 cases h1
 exact⟨rfl,hl⟩
def qb:ME:=cG (fO [(11,0)]) (ae 2)
def EB(g:Cfg):MGF:=eE (vF (qK 11 13 g [] (af [ae 2]))) pW
def lY(sc ev:D)(y:Option D)(r:List (Option D)):aq:=some sc::some ev::y::r
section
variable {k:Nat}{sc ev:D}{r:List (Option D)}
theorem uq{g:Cfg}{S:a0}(hS:S.all Ob.free=true):∃y1 y2 y3,(bV fuel (.nm 1) (aI (ah (.tup [.str "new",.str "changed",.str "gone",.str "two new",.str "two changed",.str "torn"]))) (ji g)) (iP (aK 0) none none none) S= .nx (iP (aK 6) y1 y2 y3) S:=by
 have hit:(aI (ah (.tup [.str "new",.str "changed",.str "gone",.str "two new",.str "two changed",.str "torn"]))) (iP (aK 0) none none none) S= .ok (.st ((List.range 6).map fun i=>D.str (dY i))) S:=by
  simp only[EV,EN,iP]
  rfl
 rw[dZ hit]
 obtain⟨e2,S2,h1,h2,y1,y2,y3,h3⟩:=eL (t:=.nm 1) (body:=ji g) (fun i:Nat=>D.str (dY i)) (fun done env T=>T=S∧∃y1 y2 y3,env=iP (aK done.length) y1 y2 y3) [] (List.range 6) (iP (aK 0) none none none) S
  (fun a b x env T e ⟨hT,y1,y2,y3,he⟩=>by
   subst hT;subst he
   obtain⟨rfl,hx⟩:=jR (show List.range 6=a++x::b from e)
   refine⟨iP (aK a.length) (some (.str (dY a.length))) y2 y3,rfl,_,_,.inl (wR hx hS y2 y3),rfl,some (.str (dY a.length)),y2,y3,?_⟩
   rw[JF,JW]) ⟨rfl,none,none,none,rfl⟩
 have e:(([]:List Nat)++List.range 6).length=6:=by decide
 rw[e] at h3
 rw[h1,h2,h3]
 exact⟨y1,y2,y3,Eq.refl _⟩
theorem t8:∀ (q:List (List Rl)) (acc:List D) (j:Nat) (env:aq),(∀row∈q,Rules row)→j+q.length<16777216→acc.length+q.length<16777216→frees acc=true→env.length=4→
  ∃j' env',fu (.nm 2) (EB ⟨ak Pg fuel (k+2),fuel⟩) (q.map ai) (tQ 0 [2] (.nm 2) qb) j (lY sc ev none r) env [.lst acc]= .nx j' (lY sc ev none r) env' [.lst (acc++q.map ai)]
 | [],acc,j,env,_,_,_,_,_=>⟨j,env,by rw[List.map_nil,JC];rfl⟩
 |row::q,acc,j,env,hrow,hj,hl,hf,he=>by
  have ho:=hrow row (.head _)
  rw[JK] at hj hl
  obtain⟨e0,e1,e2,e3,rfl⟩:∃a b c d,env=[a,b,c,d]:=by
   match env,he with
   | [a,b,c,d],_=>exact⟨a,b,c,d,rfl⟩
  have hb:aV (.nm 2) (ai row) [e0,e1,e2,e3]=some [e0,e1,some (ai row),e3]:=rfl
  have hall:([.lst acc]:a0).all Ob.free=true:=by
   show((Ob.lst acc).free&&true)=true
   rw[Bool.and_true];exact hf
  have hmk:(qK 11 13 ⟨ak Pg fuel (k+2),fuel⟩ [] (af [ae 2])) [e0,e1,some (ai row),e3] [.lst acc]= .ok (.val (tabD row)) [.lst acc]:=by
   have:=IH (P:=Pg) (k:=k) ho [.lst acc] hall
   simp only[EV,EN,JC,this]
  have hit:qb (lY sc ev (some (tabD row)) r) [.lst acc]= .ok (.val (ai row)) [.lst acc]:=by
   have f1:∀S,qX (fO [(11,0)]) S (tabD row)=some (ai row):=fun S=>rfl
   unfold qb
   simp only[EV,EN,lY,f1]
  have hcb:tQ 0 [2] (.nm 2) qb (tabD row) (lY sc ev none r) [.lst acc]= .nx (lY sc ev none r) [.lst (acc++[ai row])]:=by
   unfold tQ
   show(match qb (lY sc ev (some (tabD row)) r) [.lst acc] with
    | .ok y S1=>match S1[0]? with
     |some (Ob.lst acc)=>if acc.length<16777216 then RS.nx (aF [2] (lY sc ev none r)) (S1.set 0 (Ob.lst (acc++[y.d]))) else RS.bad
     |_=>RS.bad
    |_=>RS.bad)=_
   rw[hit]
   show(if acc.length<16777216 then _ else _)=_
   rw[if_pos (by omega)]
   rfl
  obtain⟨j',env',ih⟩:=t8 q (acc++[ai row]) (j+1) [e0,e1,some (ai row),e3] (fun x hx=>hrow x (.tail _ hx)) (by omega) (by rw[JF,JW];omega) (qj hf bX) rfl
  refine⟨j',env',?_⟩
  rw[JG]
  have hy:EB ⟨ak Pg fuel (k+2),fuel⟩ (tQ 0 [2] (.nm 2) qb) j (lY sc ev none r) [e0,e1,some (ai row),e3] [.lst acc]= .nx (j+1) (lY sc ev none r) [e0,e1,some (ai row),e3] [.lst (acc++[ai row])]:=by
   unfold EB eE vF
   rw[hmk]
   simp only[show j<16777216 by omega,if_true]
   rw[show(RV.val (tabD row)).d=tabD row from rfl,hcb]
   rfl
  unfold fu
  rw[hb]
  simp only[hy]
  rw[ih,List.append_assoc]
  rfl
theorem mI{a b:MGF}{cb:EG}{j j1:Nat}{ec e ec1 e1:aq}{S S1:a0}(h:a cb j ec e S= .nx j1 ec1 e1 S1):eE a b cb j ec e S=b cb j1 ec1 e1 S1:=by
 unfold eE
 rw[h]
theorem xO{m:MS}{cb:EG}{j:Nat}{ec e e1:aq}{S S1:a0}(h:m e S= .nx e1 S1):oF m cb j ec e S= .nx j ec e1 S1:=by
 unfold oF
 rw[h]
theorem Gz(g:Cfg):eO g=eE (oF (aM false 0 (bo (af [fF (af [])])))) (eE (oF (bV fuel (.nm 1) (aI (ah (.tup [.str "new",.str "changed",.str "gone",.str "two new",.str "two changed",.str "torn"]))) (ji g))) (eE (l7 (.nm 2) (aI (ae 0)) (EB g)) pW)):=by
 unfold eO EB ji
 rfl
theorem qx{A:List (List Rl)}(hlen:A.length≤729)(hA:∀row∈A,Rules row)(hc:∃y1 y2 y3,(bV fuel (.nm 1) (aI (ah (.tup [.str "new",.str "changed",.str "gone",.str "two new",.str "two changed",.str "torn"]))) (ji ⟨ak Pg fuel (k+2),fuel⟩)) (iP (aK 0) none none none) [.lst []]= .nx (iP A y1 y2 y3) [.lst []]):∃j' env',eO ⟨ak Pg fuel (k+2),fuel⟩ (tQ 0 [2] (.nm 2) qb) 0 (lY sc ev none r) [none,none,none,none] [.lst []]= .nx j' (lY sc ev none r) env' [.lst (A.map ai)]:=by
 obtain⟨y1,y2,y3,hc⟩:=hc
 obtain⟨j',env',hl⟩:=t8 (k:=k) (sc:=sc) (ev:=ev) (r:=r) A [] 0 (iP A y1 y2 y3) hA (by omega) (by show 0+A.length<16777216;omega) rfl rfl
 have hg:eO ⟨ak Pg fuel (k+2),fuel⟩ (tQ 0 [2] (.nm 2) qb) 0 (lY sc ev none r) [none,none,none,none] [.lst []]= .nx j' (lY sc ev none r) env' [.lst (A.map ai)]:=by
  have s0:(aM false 0 (bo (af [fF (af [])]))) [none,none,none,none] [.lst []]= .nx (iP (aK 0) none none none) [.lst []]:=by
   rw[rows0]
   simp only[EV,EN,iP]
   rfl
  have hit:(aI (ae 0)) (iP A y1 y2 y3) [.lst []]= .ok (.st (A.map ai)) [.lst []]:=by
   simp only[EV,EN,iP]
  have hfor:l7 (.nm 2) (aI (ae 0)) (EB ⟨ak Pg fuel (k+2),fuel⟩) (tQ 0 [2] (.nm 2) qb) 0 (lY sc ev none r) (iP A y1 y2 y3) [.lst []]= .nx j' (lY sc ev none r) env' [.lst (A.map ai)]:=by
   unfold l7
   rw[hit]
   exact hl
  rw[Gz]
  rw[mI (xO s0),mI (xO hc),mI hfor]
  rfl
 exact⟨_,_,hg⟩
theorem Fo{nn:Nat}{m:MGF}{vs:List Nat}{t:Tg}{f:ME}{env:aq}{xs:List D}{j':Nat}{ec' env':aq}(hf:frees xs=true)(h:m (tQ 0 vs t f) 0 (aF vs env) (List.replicate nn none) [.lst []]= .nx j' ec' env' [.lst xs]):fb (rQ nn m vs t f) env []= .ok (.new (.lst xs)) []:=by
 have hg':m (tQ ([]:a0).length vs t f) 0 (aF vs env) (List.replicate nn none) (([]:a0)++[.lst []])= .nx j' ec' env' [.lst xs]:=h
 have hgc:rQ nn m vs t f env []= .ok (.val (.ref 0)) [.lst xs]:=by
  unfold rQ
  rw[hg']
  rfl
 unfold fb
 rw[hgc]
 show(if(decide (0≤0)&&bT 0 xs&&true)=true then Ev.R.ok (RV.new (.lst xs)) [] else .bad)=_
 rw[bS _ hf]
 rfl
theorem rh{A:List (List Rl)}(hlen:A.length≤729)(hA:∀row∈A,Rules row)(hc:∃y1 y2 y3,(bV fuel (.nm 1) (aI (ah (.tup [.str "new",.str "changed",.str "gone",.str "two new",.str "two changed",.str "torn"]))) (ji ⟨ak Pg fuel (k+2),fuel⟩)) (iP (aK 0) none none none) [.lst []]= .nx (iP A y1 y2 y3) [.lst []]):fb (rQ 4 (eO ⟨ak Pg fuel (k+2),fuel⟩) [2] (.nm 2) qb) (lY sc ev none r) []= .ok (.new (.lst (A.map ai))) []:=by
 obtain⟨j',env',hg⟩:=qx (k:=k) (sc:=sc) (ev:=ev) (r:=r) hlen hA hc
 exact Fo (bf fun _ _=>bX) hg
theorem uu:fb (rQ 4 (eO ⟨ak Pg fuel (k+2),fuel⟩) [2] (.nm 2) qb) (lY sc ev none r) []= .ok (.new (.lst ((aK 6).map ai))) []:=by
 have h1:(aK 6).length≤729:=oP 6 (by decide)
 have h2:∀row∈aK 6,Rules row:=bt
 have h3:=uq (g:=⟨ak Pg fuel (k+2),fuel⟩) (S:=[.lst []]) rfl
 revert h1 h2 h3
 generalize aK 6=A
 intro h1 h2 h3
 exact rh h1 h2 h3
end
theorem qJ{S:a0}{i:Nat}(hi:i<6):eV S [.lst ((aD i).map aH)]=some (.new (.lst ((m7 i).map aH))):=by
 match i,hi with
 |0,_=>rfl
 |1,_=>rfl
 |2,_=>rfl
 |3,_=>rfl
 |4,_=>rfl
 |5,_=>rfl
def jK(g:Cfg):MS:=je (fg "list" eR (ae 2) (af [jY fuel [4] (.nm 4) (aI (aJ eV (af [aC 225 g [] (af [ae 1])]))) (gM) (av aP (ae 3) (fF (af [ae 4])))]))
section
variable {k i n:Nat}{S:a0}{v0:Option D}{y4:Option D}{row:List Rl}{acc:List D}
def cK(i:Nat)(row:List Rl):List D:=(m7 i).map fun r=>ai (row++[r])
theorem oV(hi:i<6)(hl:row.length≤6)(hn:S[n]? =some (.lst acc))(ha:acc.length≤2000):jK ⟨ak Pg fuel (k+1),fuel⟩ [v0,some (.int (i:Int)),some (.ref n),some (ai row),y4] S= .nx [v0,some (.int (i:Int)),some (.ref n),some (ai row),y4] (S.set n (.lst (acc++cK i row))):=by
 have hw:(aC 225 ⟨ak Pg fuel (k+1),fuel⟩ [] (af [ae 1])) [v0,some (.int (i:Int)),some (.ref n),some (ai row),none] S= .ok (.new (.lst ((aD i).map aH))) S:=by
  have:=jm (P:=Pg) (k:=k) (S:=S) (j:=i)
  simp only[EV,EN,JC,this]
 have hit:(aI (aJ eV (af [aC 225 ⟨ak Pg fuel (k+1),fuel⟩ [] (af [ae 1])]))) [v0,some (.int (i:Int)),some (.ref n),some (ai row),y4] S= .ok (.st ((m7 i).map aH)) S:=by
  have hw:(aC 225 ⟨ak Pg fuel (k+1),fuel⟩ [] (af [ae 1])) [v0,some (.int (i:Int)),some (.ref n),some (ai row),y4] S= .ok (.new (.lst ((aD i).map aH))) S:=by
   have:=jm (P:=Pg) (k:=k) (S:=S) (j:=i)
   simp only[EV,EN,JC,this]
  have hb:=zx (op:=eV) hw (qJ hi)
  unfold aI
  rw[hb]
  rfl
 have hlc:=xG (fl:=fuel) (vs:=[4]) (t:=.nm 4) (f:=av aP (ae 3) (fF (af [ae 4]))) (m7 i) aH (fun r=>ai (row++[r])) hit (fun r hr=>by
  refine⟨[v0,some (.int (i:Int)),some (.ref n),some (ai row),some (aH r)],rfl,.val (ai (row++[r])),?_,rfl⟩
  have ad:aP S (ai row) (.tup [aH r])=some (.val (ai (row++[r]))):=by
   have e:ai (row++[r])= .tup (row.map aH++[aH r]):=by
    unfold ai
    rw[List.map_append];rfl
   rw[e]
   exact rO (by rw[Jt,JW];omega)
  simp only[EV,EN,ad]) (by have:=lZ i;omega)
 have hty:yV "list" S (.ref n)=true:=by
  show(match S[n]? with|some (.lst _)=>("list":String)== "list" |some (.dct _ _)=>("list":String)== "dict" |_=>false)=true
  rw[hn];rfl
 have hex:eR S (.ref n) [.lst (cK i row)]=some (.val .non,S.set n (.lst (acc++cK i row))):=by
  show(match S[n]? with|some (.lst xs)=>(match dR S (.lst (cK i row)) with|some ys=>if xs.length+ys.length≤16777216 then some (RV.val D.non,S.set n (.lst (xs++ys))) else none|none=>none)|_=>none)=_
  rw[hn]
  have h3:(cK i row).length≤3:=by unfold cK;rw[Jt];exact lZ i
  show(if acc.length+(cK i row).length≤16777216 then _ else _)=_
  rw[if_pos (by omega)]
 unfold jK je fg
 have v2:(ae 2) [v0,some (.int (i:Int)),some (.ref n),some (ai row),y4] S= .ok (.val (.ref n)) S:=by simp only[EV,EN]
 have ha2:(af [jY fuel [4] (.nm 4) (aI (aJ eV (af [aC 225 ⟨ak Pg fuel (k+1),fuel⟩ [] (af [ae 1])]))) (gM) (av aP (ae 3) (fF (af [ae 4])))]) [v0,some (.int (i:Int)),some (.ref n),some (ai row),y4] S= .ok [.lst (cK i row)] S:=by
  unfold af
  rw[hlc]
  rfl
 rw[v2]
 show R.then (R.bind (R.ok (RV.val (D.ref n)) S) fun x S1=>if yV "list" S1 x.d then _ else _) _ _=_
 show R.then (if yV "list" S (.ref n) then _ else _) _ _=_
 rw[if_pos hty,ha2]
 show R.then (match eR S (.ref n) [.lst (cK i row)] with|some (z,S3)=>.ok z S3|none=>.bad) _ _=_
 rw[hex]
 rfl
end
theorem B0(i:Nat):(aK i).flatMap (cK i)=(aK (i+1)).map ai:=by
 show _=((aK i).flatMap fun row=>(m7 i).map fun r=>row++[r]).map ai
 rw[List.map_flatMap]
 congr 1
 funext row
 rw[List.map_map]
 rfl
theorem ny(i:Nat):∀l:List (List Rl),(l.flatMap (cK i)).length≤3*l.length
 | []=>JD _
 |row::l=>by
  rw[List.flatMap_cons,JF,JK]
  have:=ny i l
  have h3:(cK i row).length≤3:=by unfold cK;rw[Jt];exact lZ i
  omega
section
variable {k i n m:Nat}{v0:Option D}{y4:Option D}
theorem sM(hi:i<6)(hmn:m≠n):∀ (r done:List (List Rl)) (kk:Nat) (y3:Option D) (S:a0),S[m]? =some (.lst ((done++r).map ai))→S[n]? =some (.lst (done.flatMap (cK i)))→r.length<kk→(∀row∈r,row.length≤6)→(done++r).length≤600→
  ∃y3',forR m (.nm 3) (jK ⟨ak Pg fuel (k+1),fuel⟩) kk done.length [v0,some (.int (i:Int)),some (.ref n),y3,y4] S= .nx [v0,some (.int (i:Int)),some (.ref n),y3',y4] (S.set n (.lst ((done++r).flatMap (cK i))))
 | [],done,kk,y3,S,hm,hn,hk,_,_=>by
  obtain⟨kk,rfl⟩:∃q,kk=q+1:=⟨kk-1,by simp at hk;omega⟩
  refine⟨y3,?_⟩
  rw[yq hm (by rw[JC];simp)]
  rw[JC]
  congr 1
  refine List.ext_getElem? fun j=>?_
  by_cases e:n=j
  ·subst e
   rw[JH (Jl.mp hn).1,hn]
  ·rw[JE e]
 |row::r,done,kk,y3,S,hm,hn,hk,hl,hd=>by
  obtain⟨kk,rfl⟩:∃q,kk=q+1:=⟨kk-1,by simp at hk;omega⟩
  have h6:=hl row (.head _)
  have nl:=ny i done
  rw[JF,JK] at hd
  have h1:=oV (k:=k) (v0:=v0) (y4:=y4) (row:=row) hi h6 hn (by omega)
  have hat:((done++row::r).map ai)[done.length]? =some (ai row):=by
   rw[JR,JM (JD _),Nat.sub_self];rfl
  have hb:aV (.nm 3) (ai row) [v0,some (.int (i:Int)),some (.ref n),y3,y4]=some [v0,some (.int (i:Int)),some (.ref n),some (ai row),y4]:=rfl
  have hln:n<S.length:=(Jl.mp hn).1
  obtain⟨y3',ih⟩:=sM hi hmn r (done++[row]) kk (some (ai row)) (S.set n (.lst (done.flatMap (cK i)++cK i row))) (by
   rw[JE (Ne.symm hmn),List.append_assoc];exact hm) (by
   rw[JH hln,List.flatMap_append]
   simp) (by simp at hk ⊢;omega) (fun x hx=>hl x (.tail _ hx)) (by rw[List.append_assoc,JF];simp;omega)
  refine⟨y3',?_⟩
  rw[Aa hm hat hb h1]
  rw[JF,JW,List.append_assoc] at ih
  rw[show([row]++r:List (List Rl))=row::r from rfl,List.set_set] at ih
  exact ih
def HY(i:Nat)(v0:Option D)(S:a0):Prop:=(i=0∧v0=some (.lst [ai []])∧S=[])∨(0<i∧v0=some (.ref (i-1))∧S.length=i∧S[i-1]? =some (.lst ((aK i).map ai)))
def nQ(g:Cfg):MS:=aA (aM true 2 (bo (af []))) (aA (bV fuel (.nm 3) (aI (ae 0)) (jK g)) (aM false 0 (ae 2)))
theorem pM:∀i<6,(aK i).length≤600:=by decide+kernel
theorem BY(hi:i<6){y2 y3:Option D}{S:a0}(h:HY i v0 S):∃v0' y2' y3' S',nQ ⟨ak Pg fuel (k+1),fuel⟩ [v0,some (.int (i:Int)),y2,y3,y4] S= .nx [v0',some (.int (i:Int)),y2',y3',y4] S'∧HY (i+1) v0' S':=by
 have hl:S.length=i:=by
  rcases h with⟨e,_,rfl⟩| ⟨_,_,e,_⟩
  ·exact e.symm
  ·exact e
 have s1:(aM true 2 (bo (af []))) [v0,some (.int (i:Int)),y2,y3,y4] S= .nx [v0,some (.int (i:Int)),some (.ref i),y3,y4] (S++[Ob.lst []]):=by
  rw[← hl];rfl
 have hat:(S++[Ob.lst []])[i]? =some (.lst []):=by rw[← hl];simp
 obtain⟨y3',h2⟩:∃y3',(bV fuel (.nm 3) (aI (ae 0)) (jK ⟨ak Pg fuel (k+1),fuel⟩)) [v0,some (.int (i:Int)),some (.ref i),y3,y4] (S++[Ob.lst []])= .nx [v0,some (.int (i:Int)),some (.ref i),y3',y4] ((S++[Ob.lst []]).set i (.lst ((aK (i+1)).map ai))):=by
  rw[← B0]
  rcases h with⟨e,rfl,rfl⟩| ⟨hp,rfl,_,hS⟩
  ·subst e
   have hm:=oV (k:=k) (i:=0) (n:=0) (S:=[.lst []]) (v0:=some (.lst [ai []])) (y4:=y4) (row:=[]) (acc:=[]) hi (Nat.zero_le _) rfl (Nat.zero_le _)
   have hit:(aI (ae 0)) [some (.lst [ai []]),some (.int ((0:Nat):Int)),some (.ref 0),y3,y4] [.lst []]= .ok (.st [ai []]) [.lst []]:=rfl
   refine⟨some (ai []),?_⟩
   show bV fuel _ _ _ _ [.lst []]=_
   rw[dZ hit]
   unfold forL
   rw[show aV (.nm 3) (ai []) [some (.lst [ai []]),some (.int ((0:Nat):Int)),some (.ref 0),y3,y4]=some [some (.lst [ai []]),some (.int ((0:Nat):Int)),some (.ref 0),some (ai []),y4] from rfl]
   simp only[hm]
   unfold forL
   rw[show(aK 0).flatMap (cK 0)=[]++cK 0 [] by rw[rows0];simp]
   rfl
  ·have hit:(aI (ae 0)) [some (.ref (i-1)),some (.int (i:Int)),some (.ref i),y3,y4] (S++[Ob.lst []])= .ok (.rf (i-1)) (S++[Ob.lst []]):=by
    have:jb (S++[Ob.lst []]) (.ref (i-1))=some (.rf (i-1)):=by
     show(match(S++[Ob.lst []])[i-1]? with|some (.lst _)=>some (Src.rf (i-1))|_=>_)=_
     rw[Jp (by omega),hS]
    simp only[EV,EN,this]
   obtain⟨y3',ih⟩:=sM (k:=k) (v0:=some (.ref (i-1))) (y4:=y4) hi (show i-1≠i by omega) (aK i) [] fuel y3 (S++[Ob.lst []]) (by
    rw[Jp (by omega)];exact hS) hat (by have:=pM i hi;show _<2000000;omega) (hO i (by omega)) (pM i hi)
   refine⟨y3',?_⟩
   have:bV fuel (.nm 3) (aI (ae 0)) (jK ⟨ak Pg fuel (k+1),fuel⟩) [some (.ref (i-1)),some (.int (i:Int)),some (.ref i),y3,y4] (S++[Ob.lst []])=forR (i-1) (.nm 3) (jK ⟨ak Pg fuel (k+1),fuel⟩) fuel 0 [some (.ref (i-1)),some (.int (i:Int)),some (.ref i),y3,y4] (S++[Ob.lst []]):=by
    unfold bV
    rw[hit];rfl
   rw[this]
   exact ih
 refine⟨some (.ref i),some (.ref i),y3',(S++[Ob.lst []]).set i (Ob.lst ((aK (i+1)).map ai)),?_,.inr ⟨Nat.succ_pos _,rfl,by rw[List.length_set,JF,hl];rfl,?_⟩⟩
 ·unfold nQ
  rw[aQ s1,aQ h2]
  rfl
 ·show((S++[Ob.lst []]).set i _)[i]? =_
  rw[JH (by rw[JF,hl];exact Nat.lt_succ_self _)]
theorem qp{y2 y3:Option D}:∃y1 y2 y3 S',(bV fuel (.nm 1) (fk cu (af [ah (.int 6)])) (nQ ⟨ak Pg fuel (k+1),fuel⟩)) [some (.lst [ai []]),none,none,none,none] []= .nx [some (.ref 5),y1,y2,y3,none] S'∧S'[5]? =some (.lst ((aK 6).map ai)):=by
 have hit:(fk cu (af [ah (.int 6)])) [some (.lst [ai []]),none,none,none,none] []= .ok (.st ((List.range 6).map fun j:Nat=>D.int (j:Int))) []:=rfl
 obtain⟨e2,S2,h1,v0',y1,y2,y3,h2,h3⟩:=eL (t:=.nm 1) (body:=nQ ⟨ak Pg fuel (k+1),fuel⟩) (fun j:Nat=>D.int (j:Int)) (fun done env T=>∃v0 y1 y2 y3,env=[v0,y1,y2,y3,none]∧HY done.length v0 T) [] (List.range 6) [some (.lst [ai []]),none,none,none,none] []
  (fun a b x env T e ⟨v0,y1,y2,y3,he,hI⟩=>by
   subst he
   obtain⟨rfl,hx⟩:=jR (show List.range 6=a++x::b from e)
   obtain⟨v0',y2',y3',S',h1,h2⟩:=BY (k:=k) (y4:=none) (y2:=y2) (y3:=y3) hx hI
   exact⟨_,rfl,_,S',.inl h1,v0',_,y2',y3',rfl,by rw[JF,JW];exact h2⟩) ⟨_,_,_,_,rfl,.inl ⟨rfl,rfl,rfl⟩⟩
 rw[dZ hit,h1]
 have e:(([]:List Nat)++List.range 6).length=6:=by decide
 rw[e] at h3
 rcases h3 with⟨z,_⟩| ⟨_,rfl,_,h4⟩
 ·cases z
 ·exact⟨y1,y2,y3,S2,by rw[h2],h4⟩
theorem zd{S:a0}:ak Pg fuel (k+2) 239 [] S= .ok (.new (.lst ((aK 6).map ai))) S:=by
 refine e9 [none,none,none,none,none] (b:=vY) rfl rfl ?_
 obtain⟨y1,y2,y3,S',h1,h2⟩:=qp (k:=k) (y2:=none) (y3:=none)
 have e:vY ⟨ak Pg fuel (k+1),fuel⟩=aA (aM false 0 (bo (af [fF (af [])]))) (aA (bV fuel (.nm 1) (fk cu (af [ah (.int 6)])) (nQ ⟨ak Pg fuel (k+1),fuel⟩)) (retS (ae 0))):=rfl
 rw[e]
 have s0:(aM false 0 (bo (af [fF (af [])]))) [none,none,none,none,none] []= .nx [some (.lst [ai []]),none,none,none,none] []:=rfl
 rw[aQ s0,aQ h1]
 have h3:(retS (ae 0)) [some (.ref 5),y1,y2,y3,none] S'= .ret (.val (.ref 5)) S':=by simp only[EV,EN]
 rw[h3]
 show(match fV S' 0 (.val (.ref 5)),some S with|some z,some S2=>R.ok z S2|_,_=>.bad)=_
 rw[wg (bf fun _ _=>bX) (Nat.zero_le _) h2]
end
theorem Hf{r:Rl}:Ri 0 60 (aH r):=by cases r<;>exact Ah (by decide+kernel)
theorem vX{rs:List Rl}(h:rs.length≤6):Ri 1 1000 (ai rs):=by
 have:=Ri.tup (n:=0) (L:=60) (xs:=rs.map aH) fun x hx=>by
  obtain⟨r,_,rfl⟩:=JU.mp hx
  exact Hf
 refine this.mono ?_
 rw[Jt]
 omega
theorem Dm{rs:List Rl}(h:rs.length≤6):(∀S:a0,bh S [ai rs]=some (.val (.str (RT (ai rs)))))∧PyData.strOk (RT (ai rs))=true:=vQ (vX h) (by decide) (by decide)
theorem DQ{A:List (List Rl)}(hl:A.length≤729)(h:∀rs∈A,rs.length≤6):(∀S:a0,bh S [.lst (A.map ai)]=some (.val (.str (RT (.lst (A.map ai))))))∧PyData.strOk (RT (.lst (A.map ai)))=true:=by
 have:=Ri.lst (n:=1) (L:=1000) (xs:=A.map ai) fun x hx=>by
  obtain⟨r,hr,rfl⟩:=JU.mp hx
  exact vX (h r hr)
 refine vQ this (by decide) ?_
 rw[Jt]
 omega
def b7(rs ro:List Rl):Nat:=((List.range 6).filter fun j=> !((rs.getD j .leave).s==(ro.getD j .leave).s)).length
theorem gN{rs ro:List Rl}(hr:Rules rs)(ho:Rules ro):lG rs ro=b7 rs ro:=by
 obtain⟨a,b,c,d,e,f,rfl⟩:=six hr
 obtain⟨a',b',c',d',e',f',rfl⟩:=six ho
 unfold lG b7
 show((List.zip EA _).filter _).length=(([0,1,2,3,4,5]:List Nat).filter _).length
 show(([(("new":Str),a,a'),("changed",b,b'),("gone",c,c'),("two new",d,d'),("two changed",e,e'),("torn",f,f')]:List (Str×Rl×Rl)).filter fun t:Str×Rl×Rl=> !(t.2.1.s==t.2.2.s)).length=_
 simp only[List.filter_cons,List.filter_nil,List.getD_cons_zero,List.getD_cons_succ]
 cases(a.s==a'.s)<;>cases(b.s==b'.s)<;>cases(c.s==c'.s)<;>cases(d.s==d'.s)<;>cases(e.s==e'.s)<;>cases(f.s==f'.s)<;>rfl
theorem zG(rs ro:List Rl):b7 ro rs=b7 rs ro:=by
 unfold b7
 congr 2
 funext j
 rw[Bool.beq_comm]
theorem xy(rs ro:List Rl):b7 rs ro≤6:=by
 unfold b7
 refine Jx (List.length_filter_le _ _) ?_
 decide
section
variable {k:Nat}{S:a0}{rs ro:List Rl}
theorem wL{rs:List Rl}{j:Nat}(hj:j<rs.length):aN S (ai rs) (.int (j:Int))=some (.val (aH (rs.getD j .leave))):=by
 show(atI (rs.map aH) (j:Int)).map RV.val=_
 have e:atI (rs.map aH) (j:Int)=(rs.map aH)[j]? :=by
  unfold atI ixN
  rw[if_pos (Int.natCast_nonneg j),if_pos (by rw[Jt];omega)]
  rw[Int.toNat_natCast]
  rfl
 rw[e,JR,Jo hj,JP,Jo hj]
 rfl
theorem By(hr:rs.length=6)(ho:ro.length=6):ak Pg fuel (k+1) 240 [ai rs,ai ro] S= .ok (.val (.int (b7 rs ro:Int))) S:=by
 refine e9 [some (ai rs),some (ai ro),none] (b:=yv) rfl (by simp[frees,bX]) ?_
 have hit:(fk cu (af [ah (.int 6)])) [some (ai rs),some (ai ro),none] []= .ok (.st ((List.range 6).map fun j:Nat=>D.int (j:Int))) []:=rfl
 have hlc:=mF (fl:=fuel) (vs:=[2]) (t:=.nm 2) (c:=ao (av dq (av aN (ae 0) (ae 2)) (av aN (ae 1) (ae 2)))) (f:=ae 2) (List.range 6) (fun j:Nat=>D.int (j:Int)) (fun j=> !((rs.getD j .leave).s==(ro.getD j .leave).s)) (fun j=>D.int (j:Int)) hit
  (fun j hj=>by
   have hj:=List.mem_range.mp hj
   have i1:=fun S=>wL (S:=S) (rs:=rs) (j:=j) (by omega)
   have i2:=fun S=>wL (S:=S) (rs:=ro) (j:=j) (by omega)
   exact⟨[some (ai rs),some (ai ro),some (.int (j:Int))],rfl,by simp only[EV,EN,i1,i2,BO],fun _=>⟨.val (.int (j:Int)),by simp only[EV,EN],rfl⟩⟩) (by decide)
 unfold yv
 rw[xD (zx hlc (z:=.val (.int (b7 rs ro:Int))) (by
  show some (RV.val (D.int (((((List.range 6).filter _).map _).length:Nat):Int)))=_
  rw[Jt];rfl))]
 exact cZ rfl
end
theorem vo:Ex.tabR=allR.map fun rs=>rs.map Rl.s:=by decide+kernel
theorem m6:Ex.tabR.map (Ex.tabD 11)=allR.map tabD:=by
 rw[vo,List.map_map]
 refine List.map_congr_left fun rs _=>?_
 show D.ins 11 [.tup ((rs.map Rl.s).map D.str)]=_
 rw[List.map_map]
 rfl
theorem qB{α:Type}{f:α→D}{A:List α}{j:Nat}{x:α}(h:A[j]? =some x):atI (A.map f) (j:Int)=some (f x):=by
 have hj:=(Jl.mp h).1
 unfold atI ixN
 rw[if_pos (Int.natCast_nonneg j),if_pos (by rw[Jt];omega),Int.toNat_natCast]
 show(A.map f)[j]? =_
 rw[JR,h];rfl
theorem sJ{S:a0}{A:List (List Rl)}{j:Nat}{row:List Rl}(h:A[j]? =some row):aN S (.lst (A.map ai)) (.int (j:Int))=some (.val (ai row)):=by
 show(atI (A.map ai) (j:Int)).map RV.val=_
 rw[qB h];rfl
theorem rJ{S:a0}{rs:List Rl}:dB [11] 11 S (tabD rs)=some true:=rfl
theorem i9{S:a0}{rs:List Rl}:qX (fO [(11,0)]) S (tabD rs)=some (ai rs):=rfl
def lU:MS:=aA (dF (cH [bz (ao (dA (dB [11] 11) (ae 3))),ao (av dq (aJ bh (af [cG (fO [(11,0)]) (ae 3)])) (aJ bh (af [av aN (ae 0) (ae 2)])))]) (retS (ah (.bl false))) (bq)) (aA (aM false 2 (av aP (ae 2) (ah (.int 1)))) (dF (ao (av AY (ae 2) (ae 1))) (Ds) (bq)))
section
variable {k m:Nat}{S:a0}{A:List (List Rl)}
theorem ym{j:Nat}{row:List Rl}(h:A[j]? =some row)(h6:row.length≤6):lU [some (.lst (A.map ai)),some (.int (m:Int)),some (.int (j:Int)),some (tabD row)] []=
  if m<j+1 then .brk [some (.lst (A.map ai)),some (.int (m:Int)),some (.int ((j+1:Nat):Int)),some (tabD row)] [] else .nx [some (.lst (A.map ai)),some (.int (m:Int)),some (.int ((j+1:Nat):Int)),some (tabD row)] []:=by
 obtain⟨r1,r2⟩:=Dm h6
 have hne:∀S,dq S (.str (RT (ai row))) (.str (RT (ai row)))=some (.val (.bl false)):=fun S=>jo r2
 have i1:=fun S=>sJ (S:=S) h
 have s1:(dF (cH [bz (ao (dA (dB [11] 11) (ae 3))),ao (av dq (aJ bh (af [cG (fO [(11,0)]) (ae 3)])) (aJ bh (af [av aN (ae 0) (ae 2)])))]) (retS (ah (.bl false))) (bq)) [some (.lst (A.map ai)),some (.int (m:Int)),some (.int (j:Int)),some (tabD row)] []= .nx [some (.lst (A.map ai)),some (.int (m:Int)),some (.int (j:Int)),some (tabD row)] []:=
  fY (by simp only[EV,EN,dA,rJ,i9,i1,r1,hne,Bool.not_true])
 have s2:(aM false 2 (av aP (ae 2) (ah (.int 1)))) [some (.lst (A.map ai)),some (.int (m:Int)),some (.int (j:Int)),some (tabD row)] []= .nx [some (.lst (A.map ai)),some (.int (m:Int)),some (.int ((j+1:Nat):Int)),some (tabD row)] []:=by
  simp only[EV,EN,Bd.add_int]
  rfl
 unfold lU
 rw[aQ s1,aQ s2]
 have e:decide ((m:Int)< ((j+1:Nat):Int))=decide (m<j+1):=by
  by_cases q:m<j+1
  ·rw[Ju q,Ju (by omega)]
  ·rw[Jr q,Jr (by omega)]
 simp only[EV,EN,Bd.gt_int,e]
 by_cases q:m<j+1
 ·rw[if_pos q,Ju q]
  rfl
 ·rw[if_neg q,Jr q]
  rfl
theorem kY(hA:∀row∈A,row.length≤6):∀ (r done:List (List Rl)) (y:Option D),A=done++r→done.length≤m→∃y',forL (.nm 3) lU (r.map tabD) [some (.lst (A.map ai)),some (.int (m:Int)),some (.int (done.length:Int)),y] []= .nx [some (.lst (A.map ai)),some (.int (m:Int)),some (.int ((min A.length (m+1):Nat):Int)),y'] []
 | [],done,y,e,hd=>by
  refine⟨y,?_⟩
  have:min A.length (m+1)=done.length:=by
   rw[e,JC]
   omega
  rw[this]
  rfl
 |row::r,done,y,e,hd=>by
  have hat:A[done.length]? =some row:=by
   rw[e,JM (JD _),Nat.sub_self];rfl
  have h1:=ym (m:=m) hat (hA row (Js hat))
  have hl:A.length=done.length+1+r.length:=by rw[e,JF,JK];omega
  rw[JG]
  unfold forL
  rw[show aV (.nm 3) (tabD row) [some (.lst (A.map ai)),some (.int (m:Int)),some (.int (done.length:Int)),y]=some [some (.lst (A.map ai)),some (.int (m:Int)),some (.int (done.length:Int)),some (tabD row)] from rfl]
  by_cases q:m<done.length+1
  ·rw[if_pos q] at h1
   refine⟨some (tabD row),?_⟩
   simp only[h1]
   have:min A.length (m+1)=done.length+1:=by omega
   rw[this]
  ·rw[if_neg q] at h1
   obtain⟨y',ih⟩:=kY hA r (done++[row]) (some (tabD row)) (by rw[e];simp) (by rw[JF,JW];omega)
   refine⟨y',?_⟩
   simp only[h1]
   rw[JF,JW] at ih
   exact ih
theorem A4(hA:∀row∈A,row.length≤6)(hl:A.length=729)(ht:Ex.tabR.map (Ex.tabD 11)=A.map tabD):ak Pg fuel (k+1) 241 [.lst (A.map ai),.int (m:Int)] S= .ok (.val (.bl true)) S:=by
 have hf:frees (A.map ai)=true:=bf fun _ _=>bX
 refine e9 [some (.lst (A.map ai)),some (.int (m:Int)),none,none] (b:=yu) rfl (by simp[frees,free,hf]) ?_
 obtain⟨y',h1⟩:=kY (m:=m) hA A [] none rfl (Nat.zero_le _)
 have e:yu ⟨ak Pg fuel k,fuel⟩=aA (aM false 2 (ah (.int 0))) (aA (Ex.forTS 11 Ex.tabR (.nm 3) lU) (retS (av dH (ae 2) (aJ fB (af [ah (.int 729),av aP (ae 1) (ah (.int 1))]))))):=rfl
 rw[e]
 have s0:(aM false 2 (ah (.int 0))) [some (.lst (A.map ai)),some (.int (m:Int)),none,none] []= .nx [some (.lst (A.map ai)),some (.int (m:Int)),some (.int 0),none] []:=rfl
 have s1:(Ex.forTS 11 Ex.tabR (.nm 3) lU) [some (.lst (A.map ai)),some (.int (m:Int)),some (.int 0),none] []= .nx [some (.lst (A.map ai)),some (.int (m:Int)),some (.int ((min A.length (m+1):Nat):Int)),y'] []:=by
  unfold Ex.forTS
  rw[ht]
  show EC (forL (.nm 3) lU (A.map tabD) _ _)=_
  rw[show(some (D.int 0):Option D)=some (.int (([]:List (List Rl)).length:Int)) from rfl,h1]
  rfl
 rw[aQ s0,aQ s1]
 have hm:fB [] [.int 729,.int ((m:Int)+1)]=some (.val (.int ((min A.length (m+1):Nat):Int))):=by
  show some (RV.val (.int (if(m:Int)+1<729 then(m:Int)+1 else 729)))=_
  rw[hl]
  congr 3
  split<;>omega
 have h3:(retS (av dH (ae 2) (aJ fB (af [ah (.int 729),av aP (ae 1) (ah (.int 1))])))) [some (.lst (A.map ai)),some (.int (m:Int)),some (.int ((min A.length (m+1):Nat):Int)),y'] []= .ret (.val (.bl true)) []:=by
  simp only[EV,EN,Bd.add_int,hm,Bd.eq_int,beq_self_eq_true]
 rw[h3]
 exact cZ rfl
end
theorem jJ:allR.length=729:=by decide+kernel
theorem wB:∀row∈allR,row.length≤6:=hO 6 (by decide)
theorem DB{k m:Nat}{S:a0}:ak Pg fuel (k+1) 241 [.lst (allR.map ai),.int (m:Int)] S= .ok (.val (.bl true)) S:=A4 wB jJ m6
theorem xp(a b:Rl):(a.s==b.s)=decide (a=b):=by cases a<;>cases b<;>decide+kernel
theorem jn:∀rs ro:List Rl,cP (rs.map aH) (ro.map aH)=decide (rs=ro)
 | [],[]=>rfl
 | [],_::_=>rfl
 |_::_,[]=>rfl
 |a::rs,b::ro=>by
  show((a.s==b.s)&&cP (rs.map aH) (ro.map aH))=_
  rw[jn rs ro,xp]
  by_cases h1:a=b
  ·subst h1
   by_cases h2:rs=ro
   ·subst h2;simp
   ·rw[Ju rfl,Jr h2,Jr fun z=>h2 (List.cons.inj z).2];rfl
  ·rw[Jr h1,Jr fun z=>h1 (List.cons.inj z).1];rfl
theorem mZ(n:Nat):∀rs:List Rl,iM n (rs.map aH)=true
 | []=>by unfold iM;rfl
 |a::rs=>by
  show(eA n (aH a)&&iM n (rs.map aH))=true
  rw[mZ n rs,Bool.and_true]
  unfold aH eA
  exact oG a
section
variable {k:Nat}{S:a0}{rs ro:List Rl}
theorem wH:dH S (ai rs) (ai ro)=some (.val (.bl (decide (rs=ro)))):=by
 rw[Ep (show eA 64 (ai rs)=true by unfold ai eA;exact mZ _ rs) (show eA 64 (ai ro)=true by unfold ai eA;exact mZ _ ro)]
 show some (RV.val (D.bl (cP (rs.map aH) (ro.map aH))))=_
 rw[jn]
theorem HF:ak Pg fuel (k+1) 15 [tabD rs,tabD ro] S= .ok (.val (.bl (decide (rs=ro)))) S:=by
 refine e9 [some (tabD rs),some (tabD ro)] (b:=A0) rfl (by simp[frees,fy]) ?_
 unfold A0
 simp only[EV,EN,dA,rJ,i9,wH]
 exact cZ rfl
theorem op_eq:gm ⟨ak Pg fuel (k+1),fuel⟩ 11 15 [11] S (tabD rs) (tabD ro)= .ok (.val (.bl (decide (rs=ro)))) S:=by
 unfold gm
 have h1:yU 11 S (tabD rs)=true:=rfl
 have h2:HB [11] S (tabD ro)=true:=rfl
 rw[h1,h2]
 show fW (ak Pg fuel (k+1) 15 [tabD rs,tabD ro] S)=_
 rw[HF];rfl
theorem kX(hr:Rules rs):lG rs rs=0:=by
 rw[gN hr hr]
 unfold b7
 rw[List.filter_eq_nil_iff.mpr fun j _=>by simp]
 rfl
def vn(g:Cfg):MS:=dF (cH [bz (ao (eI (gm g 11 15 [11]) (ae 7) (ae 8))),ao (av dq (aJ bh (af [eI (fq g 11 18) (ae 7) (ae 8)])) (aJ bh (af [ah (.int 0)])))]) (retS (ah (.bl false))) (bq)
theorem zg{g1 g2 g3 g4 g5 g6 g7:Option D}(hr:Rules rs):vn ⟨ak Pg fuel (k+1),fuel⟩ [g1,g2,g3,g4,g5,g6,g7,some (tabD rs),some (tabD rs)] S= .nx [g1,g2,g3,g4,g5,g6,g7,some (tabD rs),some (tabD rs)] S:=by
 have q1:=fun S=>op_eq (k:=k) (S:=S) (rs:=rs) (ro:=rs)
 have q2:=fun S=>op_sub (k:=k) (S:=S) hr hr
 rw[kX hr] at q2
 obtain⟨r1,r2⟩:=vQ (qT (i:=0) (md (n:=0) (by decide))) (by decide) (by decide)
 have hne:∀S,dq S (.str (RT (.int 0))) (.str (RT (.int 0)))=some (.val (.bl false)):=fun S=>jo r2
 refine fY ?_
 simp only[EV,EN,eI,q1,q2,decide_true,Bool.not_true,R.bind,r1,hne,Int.natCast_zero,fW]
theorem om{g1 g2 g3 g4 g5 g6 g7:Option D}:∀ (A:List (List Rl)) (y z:Option D),(∀row∈A,Rules row)→∃y' z',forL (.tp [.nm 7,.nm 8]) (vn ⟨ak Pg fuel (k+1),fuel⟩) (A.map fun row=>.tup [tabD row,tabD row]) [g1,g2,g3,g4,g5,g6,g7,y,z] S= .nx [g1,g2,g3,g4,g5,g6,g7,y',z'] S
 | [],y,z,_=>⟨y,z,rfl⟩
 |row::A,y,z,h=>by
  obtain⟨y',z',ih⟩:=om A (some (tabD row)) (some (tabD row)) fun r hr=>h r (.tail _ hr)
  refine⟨y',z',?_⟩
  rw[JG]
  unfold forL
  rw[show aV (.tp [.nm 7,.nm 8]) (.tup [tabD row,tabD row]) [g1,g2,g3,g4,g5,g6,g7,y,z]=some [g1,g2,g3,g4,g5,g6,g7,some (tabD row),some (tabD row)] from rfl]
  simp only[zg (h row (.head _))]
  exact ih
end
theorem wm:Ex.tabR.map (S1.pairD 11)=allR.map fun row=>.tup [tabD row,tabD row]:=by
 rw[vo,List.map_map]
 refine List.map_congr_left fun rs _=>?_
 show D.tup [Ex.tabD 11 (rs.map Rl.s),Ex.tabD 11 (rs.map Rl.s)]=_
 have e:Ex.tabD 11 (rs.map Rl.s)=tabD rs:=by
  show D.ins 11 [.tup ((rs.map Rl.s).map D.str)]=_
  rw[List.map_map]
  rfl
 rw[e]
theorem zQ{k:Nat}{S:a0}{g1 g2 g3 g4 g5 g6 g7 y z:Option D}:∃y' z',(S1.forZS 11 Ex.tabR (.tp [.nm 7,.nm 8]) (vn ⟨ak Pg fuel (k+1),fuel⟩)) [g1,g2,g3,g4,g5,g6,g7,y,z] S= .nx [g1,g2,g3,g4,g5,g6,g7,y',z'] S:=by
 have hp:=wm
 have hr:=bt
 revert hp hr
 generalize allR=A
 intro hp hr
 obtain⟨y',z',h⟩:=om (k:=k) (S:=S) (g1:=g1) (g2:=g2) (g3:=g3) (g4:=g4) (g5:=g5) (g6:=g6) (g7:=g7) A y z hr
 refine⟨y',z',?_⟩
 unfold S1.forZS
 rw[hp]
 show EC (forL _ _ _ _ _)=_
 rw[h]
 rfl
def qO:List Rl→List Rl→Nat
 |a::x,b::y=>(if a.s==b.s then 0 else 1)+qO x y
 |_,_=>0
theorem nE(a r:Rl):∀o row:List Rl,o.length=row.length→qO (o++[a]) (row++[r])=qO o row+(if a.s==r.s then 0 else 1)
 | [],[],_=>by
  show(if a.s==r.s then 0 else 1)+0=0+_
  omega
 | [],_::_,h=>by simp at h
 |_::_,[],h=>by simp at h
 |x::o,y::row,h=>by
  show(if x.s==y.s then 0 else 1)+qO (o++[a]) (row++[r])=(if x.s==y.s then 0 else 1)+qO o row+_
  rw[nE a r o row (by simpa using h)]
  omega
def pS:Nat→Nat→Nat
 |0,j=>if j=0 then 1 else 0
 |i+1,j=>pS i j+2*(if j=0 then 0 else pS i (j-1))
theorem yH:∀i<6,∀a:Rl,Cs.may i a=true→((m7 i).filter fun r=>a.s==r.s).length=1∧(m7 i).length=3:=by
 intro i hi a h
 match i,hi with
 |0,_=>cases a<;>first|exact absurd h (by decide)|decide+kernel
 |1,_=>cases a<;>first|exact absurd h (by decide)|decide+kernel
 |2,_=>cases a<;>first|exact absurd h (by decide)|decide+kernel
 |3,_=>cases a<;>first|exact absurd h (by decide)|decide+kernel
 |4,_=>cases a<;>first|exact absurd h (by decide)|decide+kernel
 |5,_=>cases a<;>first|exact absurd h (by decide)|decide+kernel
theorem three(a:Rl)(u j:Nat):∀l:List Rl,l.countP (fun r=>decide (u+(if a.s==r.s then 0 else 1)=j))=(if u=j then(l.filter fun r=>a.s==r.s).length else 0)+(if u+1=j then l.length- (l.filter fun r=>a.s==r.s).length else 0)
 | []=>by simp
 |r::l=>by
  rw[List.countP_cons,three a u j l,List.filter_cons,JK]
  have:=List.length_filter_le (fun r:Rl=>a.s==r.s) l
  cases h:(a.s==r.s) with
  |true=>
   simp only[if_true,Nat.add_zero,JK]
   by_cases h1:u=j
   ·rw[if_pos h1,if_pos h1,Ju h1,if_pos rfl,if_neg (by omega),if_neg (by omega)]
   ·rw[if_neg h1,if_neg h1,Jr h1]
    simp only[Bool.false_eq_true,if_false]
    by_cases h2:u+1=j
    ·rw[if_pos h2,if_pos h2];omega
    ·rw[if_neg h2,if_neg h2]
  |false=>
   simp only[Bool.false_eq_true,if_false]
   by_cases h1:u=j
   ·rw[if_pos h1,if_neg (show ¬u+1=j by omega),if_neg (show ¬u+1=j by omega),Jr (show ¬u+1=j by omega)]
    simp
   ·rw[if_neg h1]
    by_cases h2:u+1=j
    ·rw[if_pos h2,if_pos h2,Ju h2,if_pos rfl];omega
    ·rw[if_neg h2,if_neg h2,Jr h2];simp
theorem lT(u:List Rl→Nat)(j:Nat):∀l:List (List Rl),(l.map fun row=>(if u row=j then 1 else 0)+(if u row+1=j then 2 else 0)).sum=l.countP (fun row=>decide (u row=j))+2*l.countP (fun row=>decide (u row+1=j))
 | []=>rfl
 |row::l=>by
  rw[JG,List.sum_cons,lT u j l,List.countP_cons,List.countP_cons]
  by_cases h1:u row=j
  ·rw[if_pos h1,Ju h1,if_neg (by omega),Jr (by omega)];simp;omega
  ·rw[if_neg h1,Jr h1]
   by_cases h2:u row+1=j
   ·rw[if_pos h2,Ju h2];simp;omega
   ·rw[if_neg h2,Jr h2];simp
theorem vP:∀i<7,∀row∈aK i,row.length=i:=by
 have h:((List.range 7).all fun i=>(aK i).all fun row=>decide (row.length=i))=true:=by decide+kernel
 intro i hi row hr
 exact JL (Jz.mp (Jz.mp h i (List.mem_range.mpr hi)) row hr)
theorem qN{own:List Rl}(hr:Rules own):∀i≤6,∀j,(aK i).countP (fun row=>decide (qO (own.take i) row=j))=pS i j
 |0,_,j=>by
  show([[]]:List (List Rl)).countP (fun row=>decide (qO (own.take 0) row=j))=_
  rw[List.take_zero,List.countP_cons,List.countP_nil]
  show 0+(if decide ((0:Nat)=j)=true then 1 else 0)=if j=0 then 1 else 0
  by_cases h:j=0
  ·subst h;rfl
  ·rw[if_neg h,Jr (by omega)];rfl
 |i+1,hi,j=>by
  have hl:i<own.length:=by rw[hr.len];omega
  have ha:=hr.may i own[i] (Jo hl)
  obtain⟨w1,w2⟩:=yH i (by omega) own[i] ha
  have et:own.take (i+1)=own.take i++[own[i]]:=by rw[List.take_add_one,Jo hl];rfl
  show((aK i).flatMap fun row=>(m7 i).map fun r=>row++[r]).countP _=_
  rw[List.countP_flatMap]
  have e:(aK i).map ((List.countP fun row=>decide (qO (own.take (i+1)) row=j)) ∘ fun row=>(m7 i).map fun r=>row++[r])=(aK i).map fun row=>(if qO (own.take i) row=j then 1 else 0)+(if qO (own.take i) row+1=j then 2 else 0):=by
   refine List.map_congr_left fun row hrow=>?_
   show((m7 i).map fun r=>row++[r]).countP (fun row=>decide (qO (own.take (i+1)) row=j))=_
   rw[List.countP_map]
   have hlen:(own.take i).length=row.length:=by rw[List.length_take,vP i (by omega) row hrow,hr.len];omega
   have e2:((fun row=>decide (qO (own.take (i+1)) row=j)) ∘ fun r=>row++[r])=fun r=>decide (qO (own.take i) row+(if own[i].s==r.s then 0 else 1)=j):=by
    funext r
    show decide (qO (own.take (i+1)) (row++[r])=j)=_
    rw[et,nE _ _ _ _ hlen]
   rw[e2,three,w1,w2]
  rw[e,lT,qN hr i (by omega) j]
  show _=pS i j+2*(if j=0 then 0 else pS i (j-1))
  congr 2
  by_cases h:j=0
  ·subst h
   rw[if_pos rfl]
   exact List.countP_eq_zero.mpr fun row _=>by simp
  ·rw[if_neg h, ← qN hr i (by omega) (j-1)]
   congr 1
   funext row
   exact decide_eq_decide.mpr ⟨fun z=>by omega,fun z=>by omega⟩
theorem tj{rs ro:List Rl}(hr:Rules rs)(ho:Rules ro):qO rs ro=b7 rs ro:=by
 obtain⟨a,b,c,d,e,f,rfl⟩:=six hr
 obtain⟨a',b',c',d',e',f',rfl⟩:=six ho
 unfold b7
 show(if a.s==a'.s then 0 else 1)+((if b.s==b'.s then 0 else 1)+((if c.s==c'.s then 0 else 1)+((if d.s==d'.s then 0 else 1)+((if e.s==e'.s then 0 else 1)+((if f.s==f'.s then 0 else 1)+0)))))=(([0,1,2,3,4,5]:List Nat).filter _).length
 simp only[List.filter_cons,List.filter_nil,List.getD_cons_zero,List.getD_cons_succ]
 cases(a.s==a'.s)<;>cases(b.s==b'.s)<;>cases(c.s==c'.s)<;>cases(d.s==d'.s)<;>cases(e.s==e'.s)<;>cases(f.s==f'.s)<;>rfl
theorem iQ{own:List Rl}(hr:Rules own)(j:Nat):allR.countP (fun row=>decide (b7 own row=j))=pS 6 j:=by
 rw[← qN hr 6 (JD _) j]
 refine List.countP_congr fun row hrow=>?_
 have e:own.take 6=own:=List.take_of_length_le (by rw[hr.len];exact JD _)
 rw[e,tj hr (bt row hrow)]
def df(own:List Rl)(done:List (List Rl)):List Int:=(List.range 7).map fun j=>((done.countP fun row=>decide (b7 own row=j):Nat):Int)
theorem mQ(own:List Rl)(done:List (List Rl)){g:Nat}(h:g<7):(df own done)[g]? =some ((done.countP fun row=>decide (b7 own row=g):Nat):Int):=by
 unfold df
 rw[JR,List.getElem?_range h];rfl
theorem vc(own row:List Rl)(done:List (List Rl)):(df own done).set (b7 own row) (((done.countP fun r=>decide (b7 own r=b7 own row):Nat):Int)+1)=df own (done++[row]):=by
 have hg:=xy own row
 refine List.ext_getElem? fun j=>?_
 by_cases hj:j<7
 ·rw[mQ own (done++[row]) hj,List.countP_append]
  by_cases e:b7 own row=j
  ·subst e
   rw[JH (by unfold df;rw[Jt,List.length_range];exact hj)]
   simp
  ·rw[JE e,mQ own done hj,List.countP_cons,List.countP_nil,Jr e]
   simp
 ·rw[List.getElem?_eq_none (by rw[List.length_set];unfold df;rw[Jt,List.length_range];omega),List.getElem?_eq_none (by unfold df;rw[Jt,List.length_range];omega)]
theorem yK(own:List Rl):df own []=List.replicate 7 0:=rfl
theorem xl{own:List Rl}(hr:Rules own):df own allR=[1,12,60,160,240,192,64]:=by
 have e:df own allR=(List.range 7).map fun j=>((pS 6 j:Nat):Int):=by
  unfold df
  exact List.map_congr_left fun j _=>by rw[iQ hr]
 rw[e]
 decide
theorem HE{bs:List Int}{j:Nat}{v:Int}(h:j<bs.length):jH [Ob.lst (bs.map D.int)] (.ref 0) (.int (j:Int)) (.int v)=some [.lst ((bs.set j v).map D.int)]:=by
 show(ixN (bs.map D.int).length (j:Int)).map (fun i=>[Ob.lst ((bs.map D.int).set i (.int v))])=_
 have:ixN (bs.map D.int).length (j:Int)=some j:=by
  rw[Jt]
  unfold ixN
  simp;omega
 rw[this,List.map_set];rfl
theorem vU(g:Nat)(hg:g≤6)(b:Bool):∃s,(∀S:a0,bh S [.lst [.int (g:Int),.int (g:Int),.bl b]]=some (.val (.str s)))∧(∀S:a0,dq S (.str s) (.str s)=some (.val (.bl false)))∧PyData.strOk s=true:=by
 have:=Ri.lst (n:=0) (L:=1921) (xs:=[.int (g:Int),.int (g:Int),.bl b]) fun x hx=>by
  simp only[Jj,List.not_mem_nil,or_false] at hx
  rcases hx with rfl|rfl|rfl
  ·exact qT (md (by omega))
  ·exact qT (md (by omega))
  ·exact F8.mono (by decide)
 exact zv this (by decide) (by simp)
def yx(g:Cfg):MS:=aA (aM false 5 (aC 240 g [] (af [ae 1,cG (fO [(11,0)]) (ae 4)]))) (aA (dQ (ae 3) (ae 5) (av aP (av aN (ae 3) (ae 5)) (ah (.int 1)))) (dF (ao (av dq (aJ bh (af [bo (af [eI (fq g 11 18) (ae 2) (ae 4),eI (fq g 11 18) (ae 4) (ae 2),eI (gm g 11 15 [11]) (ae 2) (ae 4)])])) (aJ bh (af [bo (af [ae 5,ae 5,av dH (ae 5) (ah (.int 0))])])))) (retS (ah (.bl false))) (bq)))
theorem kD{rs ro:List Rl}(hr:Rules rs)(ho:Rules ro):(((b7 rs ro:Nat):Int)==0)=decide (rs=ro):=by
 by_cases h:rs=ro
 ·subst h
  have:=kX hr
  rw[gN hr hr] at this
  rw[this,Ju rfl];rfl
 ·rw[Jr h]
  have:b7 rs ro≠0:=fun z=>h (by
   rw[← tj hr ho] at z
   obtain⟨a,b,c,d,e,f,rfl⟩:=six hr
   obtain⟨a',b',c',d',e',f',rfl⟩:=six ho
   have z:(if a.s==a'.s then 0 else 1)+((if b.s==b'.s then 0 else 1)+((if c.s==c'.s then 0 else 1)+((if d.s==d'.s then 0 else 1)+((if e.s==e'.s then 0 else 1)+((if f.s==f'.s then 0 else 1)+0)))))=0:=z
   have key:∀x y:Rl,(if x.s==y.s then 0 else 1)=0→x=y:=fun x y q=>by
    rw[xp] at q
    by_cases e:x=y
    ·exact e
    ·rw[Jr e] at q;simp at q
   rw[key a a' (by omega),key b b' (by omega),key c c' (by omega),key d d' (by omega),key e e' (by omega),key f f' (by omega)])
  cases hb:(((b7 rs ro:Nat):Int)==0) with
  |false=>rfl
  |true=>exact absurd (by simpa using hb) this
section
variable {k:Nat}{ev:D}{own row:List Rl}{done:List (List Rl)}{y5:Option D}
theorem zu(hr:Rules own)(ho:Rules row):yx ⟨ak Pg fuel (k+1),fuel⟩ [some ev,some (ai own),some (tabD own),some (.ref 0),some (tabD row),y5] [.lst ((df own done).map D.int)]=
  .nx [some ev,some (ai own),some (tabD own),some (.ref 0),some (tabD row),some (.int (b7 own row:Int))] [.lst ((df own (done++[row])).map D.int)]:=by
 have hg:=xy own row
 have g1:=fun S=>By (k:=k) (S:=S) hr.len ho.len
 have s1:(aM false 5 (aC 240 ⟨ak Pg fuel (k+1),fuel⟩ [] (af [ae 1,cG (fO [(11,0)]) (ae 4)]))) [some ev,some (ai own),some (tabD own),some (.ref 0),some (tabD row),y5] [.lst ((df own done).map D.int)]= .nx [some ev,some (ai own),some (tabD own),some (.ref 0),some (tabD row),some (.int (b7 own row:Int))] [.lst ((df own done).map D.int)]:=by
  simp only[EV,EN,i9,JC,g1]
 have hi:aN [.lst ((df own done).map D.int)] (.ref 0) (.int (b7 own row:Int))=some (.val (.int ((done.countP fun r=>decide (b7 own r=b7 own row):Nat):Int))):=by
  show(atI ((df own done).map D.int) (b7 own row:Int)).map RV.val=_
  rw[qB (mQ own done (by omega))];rfl
 have hs:=HE (bs:=df own done) (j:=b7 own row) (v:=((done.countP fun r=>decide (b7 own r=b7 own row):Nat):Int)+1) (by unfold df;rw[Jt,List.length_range];omega)
 rw[vc] at hs
 have s2:(dQ (ae 3) (ae 5) (av aP (av aN (ae 3) (ae 5)) (ah (.int 1)))) [some ev,some (ai own),some (tabD own),some (.ref 0),some (tabD row),some (.int (b7 own row:Int))] [.lst ((df own done).map D.int)]= .nx [some ev,some (ai own),some (tabD own),some (.ref 0),some (tabD row),some (.int (b7 own row:Int))] [.lst ((df own (done++[row])).map D.int)]:=by
  unfold dQ
  simp only[EV,EN,hi,Bd.add_int,hs]
 obtain⟨z,z1,z2,_⟩:=vU (b7 own row) hg (decide (own=row))
 have q1:=fun S=>op_sub (k:=k) (S:=S) hr ho
 have q2:=fun S=>op_sub (k:=k) (S:=S) ho hr
 have q3:=fun S=>op_eq (k:=k) (S:=S) (rs:=own) (ro:=row)
 rw[gN hr ho] at q1
 rw[gN ho hr,zG own row] at q2
 have gz:=kD hr ho
 unfold yx
 rw[aQ s1,aQ s2]
 refine fY ?_
 have h3:(0+1+1+1≤16777216)=True:=by simp
 simp only[EV,EN,eI,R.bind,q1,q2,q3,fW,Bd.eq_int,gz,JK,List.length_nil,h3,if_true,RV.d,Ob.toD,z1,z2]
end
section
variable {k:Nat}{ev:D}{own:List Rl}{S:a0}
theorem pG(hr:Rules own):∀ (r done:List (List Rl)) (y4 y5:Option D),(∀row∈r,Rules row)→∃y4' y5',forL (.nm 4) (yx ⟨ak Pg fuel (k+1),fuel⟩) (r.map tabD) [some ev,some (ai own),some (tabD own),some (.ref 0),y4,y5] [.lst ((df own done).map D.int)]= .nx [some ev,some (ai own),some (tabD own),some (.ref 0),y4',y5'] [.lst ((df own (done++r)).map D.int)]
 | [],done,y4,y5,_=>⟨y4,y5,by rw[JC];rfl⟩
 |row::r,done,y4,y5,h=>by
  have h1:=zu (k:=k) (ev:=ev) (done:=done) (y5:=y5) hr (h row (.head _))
  obtain⟨y4',y5',ih⟩:=pG hr r (done++[row]) (some (tabD row)) (some (.int (b7 own row:Int))) fun x hx=>h x (.tail _ hx)
  refine⟨y4',y5',?_⟩
  rw[JG]
  unfold forL
  rw[show aV (.nm 4) (tabD row) [some ev,some (ai own),some (tabD own),some (.ref 0),y4,y5]=some [some ev,some (ai own),some (tabD own),some (.ref 0),some (tabD row),y5] from rfl]
  simp only[h1]
  rw[ih,List.append_assoc]
  rfl
theorem AV{A:List (List Rl)}(hr:Rules own)(hA:∀row∈A,Rules row)(hc:df own A=[1,12,60,160,240,192,64])(ht:Ex.tabR.map (Ex.tabD 11)=A.map tabD)(hf:free ev=true):ak Pg fuel (k+3) 242 [ev,ai own] S= .ok (.val (.bl true)) S:=by
 refine e9 [some ev,some (ai own),none,none,none,none] (b:=vT) rfl (by simp[frees,bX,hf]) ?_
 obtain⟨y4',y5',h1⟩:=pG (k:=k+1) (ev:=ev) hr A [] none none hA
 have e:vT ⟨ak Pg fuel (k+2),fuel⟩=aA (gU 2 3 (bH [(false,qK 11 13 ⟨ak Pg fuel (k+2),fuel⟩ [] (af [ae 1])),(true,av bQ (bo (af [ah (.int 0)])) (ah (.int 7)))])) (aA (Ex.forTS 11 Ex.tabR (.nm 4) (yx ⟨ak Pg fuel (k+2),fuel⟩)) (retS (av dH (ae 3) (bo (af [ah (.int 1),ah (.int 12),ah (.int 60),ah (.int 160),ah (.int 240),ah (.int 192),ah (.int 64)]))))):=rfl
 rw[e]
 have hm:=IH (P:=Pg) (k:=k) hr [] rfl
 have hz:bQ ([]:a0) (.lst [.int 0]) (.int 7)=some (.new (.lst ((List.replicate 7 (0:Int)).map D.int))):=ug (n:=7) (by decide)
 have s0:(gU 2 3 (bH [(false,qK 11 13 ⟨ak Pg fuel (k+2),fuel⟩ [] (af [ae 1])),(true,av bQ (bo (af [ah (.int 0)])) (ah (.int 7)))])) [some ev,some (ai own),none,none,none,none] []= .nx [some ev,some (ai own),some (tabD own),some (.ref 0),none,none] [.lst ((df own []).map D.int)]:=by
  rw[yK]
  have h3:(0+1≤16777216)=True:=by simp
  simp only[EV,EN,JC,hm,JK,List.length_nil,h3,if_true,RV.d,Ob.toD,hz]
  rfl
 have s1:(Ex.forTS 11 Ex.tabR (.nm 4) (yx ⟨ak Pg fuel (k+2),fuel⟩)) [some ev,some (ai own),some (tabD own),some (.ref 0),none,none] [.lst ((df own []).map D.int)]= .nx [some ev,some (ai own),some (tabD own),some (.ref 0),y4',y5'] [.lst (([1,12,60,160,240,192,64]:List Int).map D.int)]:=by
  unfold Ex.forTS
  rw[ht]
  show EC (forL _ _ _ _ _)=_
  rw[h1,List.nil_append,hc]
  rfl
 rw[aQ s0,aQ s1]
 have h4:(retS (av dH (ae 3) (bo (af [ah (.int 1),ah (.int 12),ah (.int 60),ah (.int 160),ah (.int 240),ah (.int 192),ah (.int 64)])))) [some ev,some (ai own),some (tabD own),some (.ref 0),y4',y5'] [.lst (([1,12,60,160,240,192,64]:List Int).map D.int)]= .ret (.val (.bl true)) [.lst (([1,12,60,160,240,192,64]:List Int).map D.int)]:=by
  have he:dH [Ob.lst (([1,12,60,160,240,192,64]:List Int).map D.int)] (.ref 0) (.lst (([1,12,60,160,240,192,64]:List Int).map D.int))=some (.val (.bl true)):=by kernel_rfl
  have hl:(bo (af [ah (.int 1),ah (.int 12),ah (.int 60),ah (.int 160),ah (.int 240),ah (.int 192),ah (.int 64)])) [some ev,some (ai own),some (tabD own),some (.ref 0),y4',y5'] [.lst (([1,12,60,160,240,192,64]:List Int).map D.int)]= .ok (.new (.lst (([1,12,60,160,240,192,64]:List Int).map D.int))) [.lst (([1,12,60,160,240,192,64]:List Int).map D.int)]:=rfl
  have hv:(ae 3) [some ev,some (ai own),some (tabD own),some (.ref 0),y4',y5'] [.lst (([1,12,60,160,240,192,64]:List Int).map D.int)]= .ok (.val (.ref 0)) [.lst (([1,12,60,160,240,192,64]:List Int).map D.int)]:=by simp only[EV,EN]
  exact xD (IM (op:=dH) hv hl he)
 rw[h4]
 exact cZ rfl
theorem DA(hr:Rules own)(hf:free ev=true):ak Pg fuel (k+3) 242 [ev,ai own] S= .ok (.val (.bl true)) S:=AV hr bt (xl hr) m6 hf
end
theorem t9:∀i<6,∀j<6,eA 64 (.str (dY j))=true∧cB (.str (dY j)) (.str (dY i))=decide (j=i):=by decide+kernel
theorem G0{S:a0}{i j:Nat}(hi:i<6)(hj:j<6):dH S (.str (dY j)) (.str (dY i))=some (.val (.bl (decide (j=i)))):=by
 rw[Ep (t9 i hi j hj).1 (t9 i hi i hi).1,(t9 i hi j hj).2]
theorem Fv:∀i<6,(([.str "new",.str "changed",.str "gone",.str "two new",.str "two changed",.str "torn"]:List D).any fun d=>cB d (.str (dY i)))=true:=by decide+kernel
theorem An:eA 64 (.tup [.str "new",.str "changed",.str "gone",.str "two new",.str "two changed",.str "torn"])=true:=by decide+kernel
theorem FX:∀j<6,(HS j).s=dY j∧HS j≠ .alike∧(HS j).i=j:=by decide+kernel
theorem fL{i:Nat}(hi:i<6){r:Rl}(h:r∈aD i):Cs.may i r=true:=by
 rcases(by omega:i=0∨i=1∨i=2∨i=3∨i=4∨i=5) with rfl|rfl|rfl|rfl|rfl|rfl<;>(cases r<;>first|rfl| (exact absurd h (by decide)))
theorem kR{rs:List Rl}{i:Nat}{r:Rl}(hr:Rules rs)(hi:i<6)(h:r∈aD i):Rules (rs.set i r):=by
 refine⟨by rw[List.length_set];exact hr.len,fun j x hj=>?_⟩
 by_cases e:i=j
 ·subst e
  rw[JH (by rw[hr.len];exact hi)] at hj
  cases hj
  exact fL hi h
 ·rw[JE e] at hj
  exact hr.may j x hj
section
variable {k r n:Nat}{S:a0}{ls fs:List Lk}{rs:List Rl}{ds:List D}
theorem uN{i:Nat}(hi:i<6):ak Pg fuel (k+1) 12 [.str (dY i)] S= .ok (.val (.bl true)) S:=by
 refine e9 [some (.str (dY i))] (b:=Ca) rfl rfl ?_
 have hT:∀S,dk "str" S (.str (dY i))=some true:=fun S=>rfl
 have hi2:∀S,inD S (.str (dY i)) (.tup [.str "new",.str "changed",.str "gone",.str "two new",.str "two changed",.str "torn"])=some (.val (.bl true)):=fun S=>by
  rw[xY (t9 i hi i hi).1 An,Fv i hi]
 unfold Ca
 simp only[EV,EN,hT,hi2]
 exact cZ rfl
theorem in_words{i:Nat}{x:Rl}(h:x∈aD i):Dy i x.s=true:=by
 unfold Dy
 rw[List.any_map]
 exact List.any_eq_true.mpr ⟨x,h,by simp⟩
theorem oo{i:Nat}{x:Rl}(hr:Rules rs)(hi:i<6)(hx:x∈aD i):ak Pg fuel (k+4) 20 [tabD rs,.str (dY i),aH x] S= .ok (.val (tabD (rs.set i x))) S:=by
 refine e9 [some (tabD rs),some (.str (dY i)),some (aH x),none] (b:=Et) rfl (by simp[frees,fy,free,aH]) ?_
 have g1:∀S,ak Pg fuel (k+3) 12 [.str (dY i)] S= .ok (.val (.bl true)) S:=fun S=>uN hi
 have g2:∀S,ak Pg fuel (k+3) 11 [.str (dY i),aH x] S= .ok (.val (.bl true)) S:=fun S=>by
  have:=qZ (P:=Pg) (k:=k+2) (S:=S) hi (oG x)
  rw[in_words hx] at this
  exact this
 have s1:(dF (cH [bz (ao (aC 12 ⟨ak Pg fuel (k+3),fuel⟩ [] (af [ae 1]))),bz (ao (aC 11 ⟨ak Pg fuel (k+3),fuel⟩ [] (af [ae 1,ae 2])))]) (pU 2 (ae 1)) bq) [some (tabD rs),some (.str (dY i)),some (aH x),none] []= .nx [some (tabD rs),some (.str (dY i)),some (aH x),none] []:=fY (by simp only[EV,EN,g1,g2,JC,Bool.not_true])
 have hit:(aI (ah (.tup [.str "new",.str "changed",.str "gone",.str "two new",.str "two changed",.str "torn"]))) [some (tabD rs),some (.str (dY i)),some (aH x),none] []= .ok (.st ((List.range 6).map fun j=>D.str (dY j))) []:=by
  simp only[EV,EN]
  rfl
 have ic:∀S,yU 11 S (tabD rs)=true:=fun S=>rfl
 have hlc:=xG (fl:=fuel) (vs:=[3]) (t:=.nm 3) (f:=tS (ao (av dH (ae 3) (ae 1))) (ae 2) (fE 11 19 ⟨ak Pg fuel (k+3),fuel⟩ [] (ae 0) (af [ae 3]))) (List.range 6) (fun j=>D.str (dY j)) (fun j=>aH ((rs.set i x).getD j .leave)) hit (fun j hj=>by
  have hj:=List.mem_range.mp hj
  refine⟨[some (tabD rs),some (.str (dY i)),some (aH x),some (.str (dY j))],rfl,?_⟩
  have he:=fun S=>G0 (S:=S) hi hj
  have hl:=hr.len
  by_cases e:j=i
  ·subst e
   refine⟨.val (aH x),?_,?_⟩
   ·rw[Ju rfl] at he
    simp only[EV,EN,he]
   ·show aH x=_
    rw[JP,JH (by omega)]
    rfl
  ·refine⟨.val (aH (rs.getD j .leave)),?_,?_⟩
   ·rw[Jr e] at he
    obtain⟨n1,n2,n3⟩:=FX j hj
    have gr:∀S,ak Pg fuel (k+3) 19 [tabD rs,.str (dY j)] S= .ok (.val (aH (rs.getD j .leave))) S:=fun S=>by
     rw[← n1]
     refine uF n2 ?_
     rw[n3,JP,Jo (by omega)]
     rfl
    simp only[EV,EN,he,ic,gr,JC,List.cons_append]
   ·show aH _=_
    rw[JP,JP,JE (fun q=>e q.symm)]) (by decide)
 have hrow:((List.range 6).map fun j=>aH ((rs.set i x).getD j .leave))=(rs.set i x).map aH:=by
  have hl:(rs.set i x).length=6:=by rw[List.length_set];exact hr.len
  refine List.ext_getElem (by rw[Jt,Jt,List.length_range,hl]) fun j h1 h2=>?_
  simp only[List.getElem_map,List.getElem_range]
  rw[JP,Jo (by rw[Jt] at h2;exact h2)]
  rfl
 rw[hrow] at hlc
 have hmk:=nz (P:=Pg) (k:=k+1) (S:=[]) (r:=.l ((rs.set i x).map aH)) (kR hr hi hx) rfl rfl
 have hmk:yQ 11 13 ⟨ak Pg fuel (k+3),fuel⟩ [.lst ((rs.set i x).map aH)] []= .ok (.val (tabD (rs.set i x))) []:=hmk
 unfold Et
 rw[aQ s1,xD (r:=.val (tabD (rs.set i x))) (S1:=[]) (by
  unfold qK
  rw[show(af [jY fuel [3] (.nm 3) (aI (ah (.tup [.str "new",.str "changed",.str "gone",.str "two new",.str "two changed",.str "torn"]))) gM (tS (ao (av dH (ae 3) (ae 1))) (ae 2) (fE 11 19 ⟨ak Pg fuel (k+3),fuel⟩ [] (ae 0) (af [ae 3])))]) [some (tabD rs),some (.str (dY i)),some (aH x),none] []= .ok [.lst ((rs.set i x).map aH)] [] by
   unfold af
   rw[hlc]
   rfl]
  show yQ 11 13 _ ([.lst ((rs.set i x).map aH)]++[]) []=_
  rw[JC,hmk])]
 exact cZ fy
end
theorem yF{S:a0}{rs ro:List Rl}:dq S (ai rs) (ai ro)=some (.val (.bl (!decide (rs=ro)))):=by
 have h:=wH (S:=S) (rs:=rs) (ro:=ro)
 unfold dH at h
 unfold dq
 obtain⟨b,h1,h2⟩:=Jh.mp h
 rw[h1]
 cases h2
 rfl
def kF:D:=.lst [.str "new",.str "changed",.str "gone",.str "two new",.str "two changed",.str "torn"]
theorem Gh{S:a0}:∀i<6,aN S kF (.int ((i:Nat):Int))=some (.val (.str (dY i))):=by
 intro i hi
 match i,hi with
 |0,_=>rfl
 |1,_=>rfl
 |2,_=>rfl
 |3,_=>rfl
 |4,_=>rfl
 |5,_=>rfl
def nj(own:List Rl)(i:Nat)(acc:List (List Rl))(x:Rl):List (List Rl):=if own.set i x=own then acc else acc++[own.set i x]
def sv(g:Cfg):MS:=aA (aM false 7 (cG (fO [(11,0)]) (fE 11 20 g [] (ae 2) (af [av aN (ae 3) (ae 5),ae 6])))) (dF (ao (av dq (ae 7) (ae 1))) (je (fg "list" fM (ae 4) (af [ae 7]))) (bq))
section
variable {k i:Nat}{ev:D}{own:List Rl}{acc:List (List Rl)}{x:Rl}{y7 y8:Option D}
theorem xX(hr:Rules own)(hi:i<6)(hx:x∈aD i)(ha:acc.length≤1000):sv ⟨ak Pg fuel (k+4),fuel⟩ [some ev,some (ai own),some (tabD own),some kF,some (.ref 0),some (.int (i:Int)),some (aH x),y7,y8] [.lst (acc.map ai)]=
  .nx [some ev,some (ai own),some (tabD own),some kF,some (.ref 0),some (.int (i:Int)),some (aH x),some (ai (own.set i x)),y8] [.lst ((nj own i acc x).map ai)]:=by
 have c1:=fun S=>Gh (S:=S) i hi
 have w1:=fun S=>oo (k:=k) (S:=S) hr hi hx
 have ic:∀S,yU 11 S (tabD own)=true:=fun S=>rfl
 have s1:(aM false 7 (cG (fO [(11,0)]) (fE 11 20 ⟨ak Pg fuel (k+4),fuel⟩ [] (ae 2) (af [av aN (ae 3) (ae 5),ae 6])))) [some ev,some (ai own),some (tabD own),some kF,some (.ref 0),some (.int (i:Int)),some (aH x),y7,y8] [.lst (acc.map ai)]=
   .nx [some ev,some (ai own),some (tabD own),some kF,some (.ref 0),some (.int (i:Int)),some (aH x),some (ai (own.set i x)),y8] [.lst (acc.map ai)]:=by
  simp only[EV,EN,c1,ic,if_true,JC,w1,i9]
 unfold sv
 rw[aQ s1]
 have n1:=fun S=>yF (S:=S) (rs:=own.set i x) (ro:=own)
 unfold nj
 by_cases h:own.set i x=own
 ·rw[if_pos h]
  rw[Ju h] at n1
  exact fY (by simp only[EV,EN,n1,Bool.not_true])
 ·rw[if_neg h]
  rw[Jr h] at n1
  have hap:fM [Ob.lst (acc.map ai)] (.ref 0) [ai (own.set i x)]=some (.val .non,[Ob.lst ((acc++[own.set i x]).map ai)]):=by
   rw[List.map_append]
   show(if(acc.map ai).length<16777216 then _ else _)=_
   rw[if_pos (by rw[Jt];omega)]
   rfl
  have ty:yV "list" [Ob.lst (acc.map ai)] (.ref 0)=true:=rfl
  simp only[EV,EN,n1,Bool.not_false,if_true,fg,R.bind,ty,hap]
theorem jU(hr:Rules own)(hi:i<6):∀ (ws:List Rl) (acc:List (List Rl)) (y6 y7:Option D),(∀x∈ws,x∈aD i)→acc.length+ws.length≤1000→∃y6' y7',forL (.nm 6) (sv ⟨ak Pg fuel (k+4),fuel⟩) (ws.map aH) [some ev,some (ai own),some (tabD own),some kF,some (.ref 0),some (.int (i:Int)),y6,y7,y8] [.lst (acc.map ai)]=
  .nx [some ev,some (ai own),some (tabD own),some kF,some (.ref 0),some (.int (i:Int)),y6',y7',y8] [.lst ((ws.foldl (nj own i) acc).map ai)]
 | [],acc,y6,y7,_,_=>⟨y6,y7,rfl⟩
 |x::ws,acc,y6,y7,h,hl=>by
  rw[JK] at hl
  have h1:=xX (k:=k) (ev:=ev) (acc:=acc) (y7:=y7) (y8:=y8) hr hi (h x (.head _)) (by omega)
  have hs:(nj own i acc x).length≤acc.length+1:=by
   unfold nj
   split
   ·omega
   ·rw[JF,JW];exact JD _
  obtain⟨y6',y7',ih⟩:=jU hr hi ws (nj own i acc x) (some (aH x)) (some (ai (own.set i x))) (fun z hz=>h z (.tail _ hz)) (by omega)
  refine⟨y6',y7',?_⟩
  rw[JG]
  unfold forL
  rw[show aV (.nm 6) (aH x) [some ev,some (ai own),some (tabD own),some kF,some (.ref 0),some (.int (i:Int)),y6,y7,y8]=some [some ev,some (ai own),some (tabD own),some kF,some (.ref 0),some (.int (i:Int)),some (aH x),y7,y8] from rfl]
  simp only[h1]
  exact ih
end
def nearF(own:List Rl)(is:List Nat):List (List Rl):=is.foldl (fun acc i=>(aD i).foldl (nj own i) acc) []
theorem rV(own:List Rl)(i:Nat):∀ (ws:List Rl) (acc:List (List Rl)),(ws.foldl (nj own i) acc).length≤acc.length+ws.length
 | [],acc=>JD _
 |x::ws,acc=>by
  have h:=rV own i ws (nj own i acc x)
  have hs:(nj own i acc x).length≤acc.length+1:=by
   unfold nj
   split
   ·omega
   ·rw[JF,JW];exact JD _
  rw[List.foldl_cons,JK]
  omega
theorem kN(i:Nat):(aD i).length=3:=by
 unfold aD
 split
 ·rfl
 ·split<;>rfl
theorem kQ(own:List Rl)(is:List Nat):(nearF own is).length≤3*is.length:=by
 have:∀ (is:List Nat) (acc:List (List Rl)),(is.foldl (fun acc i=>(aD i).foldl (nj own i) acc) acc).length≤acc.length+3*is.length:=fun is=>by
  induction is with
  |nil=>intro acc;exact JD _
  |cons i is ih=>
   intro acc
   have h1:=ih ((aD i).foldl (nj own i) acc)
   have h2:=rV own i (aD i) acc
   rw[kN] at h2
   rw[List.foldl_cons,JK]
   omega
 have h:=this is []
 rw[List.length_nil,Nat.zero_add] at h
 exact h
def oX(g:Cfg):MS:=bV fuel (.nm 6) (aI (aC 225 g [] (af [ae 5]))) (sv g)
section
variable {k:Nat}{ev:D}{own:List Rl}{y8:Option D}
theorem uK{i:Nat}(hr:Rules own)(hi:i<6){acc:List (List Rl)}(ha:acc.length≤900)(y6 y7:Option D):∃y6' y7',oX ⟨ak Pg fuel (k+4),fuel⟩ [some ev,some (ai own),some (tabD own),some kF,some (.ref 0),some (.int (i:Int)),y6,y7,y8] [.lst (acc.map ai)]=
  .nx [some ev,some (ai own),some (tabD own),some kF,some (.ref 0),some (.int (i:Int)),y6',y7',y8] [.lst (((aD i).foldl (nj own i) acc).map ai)]:=by
 have hit:(aI (aC 225 ⟨ak Pg fuel (k+4),fuel⟩ [] (af [ae 5]))) [some ev,some (ai own),some (tabD own),some kF,some (.ref 0),some (.int (i:Int)),y6,y7,y8] [.lst (acc.map ai)]= .ok (.st ((aD i).map aH)) [.lst (acc.map ai)]:=by
  have hw:=fun S=>jm (P:=Pg) (k:=k+3) (S:=S) (j:=i)
  have hu:(aC 225 ⟨ak Pg fuel (k+4),fuel⟩ [] (af [ae 5])) [some ev,some (ai own),some (tabD own),some kF,some (.ref 0),some (.int (i:Int)),y6,y7,y8] [.lst (acc.map ai)]= .ok (.new (.lst ((aD i).map aH))) [.lst (acc.map ai)]:=by
   simp only[EV,EN,JC,hw]
  unfold aI
  rw[hu]
  rfl
 obtain⟨y6',y7',h⟩:=jU (k:=k) (ev:=ev) (y8:=y8) hr hi (aD i) acc y6 y7 (fun x hx=>hx) (by rw[kN];omega)
 refine⟨y6',y7',?_⟩
 unfold oX
 rw[dZ hit]
 exact h
theorem uV(hr:Rules own):∃y5 y6 y7,(bV fuel (.nm 5) (fk cu (af [ah (.int 6)])) (oX ⟨ak Pg fuel (k+4),fuel⟩)) [some ev,some (ai own),some (tabD own),some kF,some (.ref 0),none,none,none,y8] [.lst []]=
  .nx [some ev,some (ai own),some (tabD own),some kF,some (.ref 0),y5,y6,y7,y8] [.lst ((nearF own (List.range 6)).map ai)]:=by
 have hit:(fk cu (af [ah (.int 6)])) [some ev,some (ai own),some (tabD own),some kF,some (.ref 0),none,none,none,y8] [.lst []]= .ok (.st ((List.range 6).map fun j:Nat=>D.int (j:Int))) [.lst []]:=rfl
 obtain⟨e2,S2,h1,y5,y6,y7,h2,h3⟩:=eL (t:=.nm 5) (body:=oX ⟨ak Pg fuel (k+4),fuel⟩) (fun j:Nat=>D.int (j:Int)) (fun done env T=>∃y5 y6 y7,env=[some ev,some (ai own),some (tabD own),some kF,some (.ref 0),y5,y6,y7,y8]∧T=[Ob.lst ((nearF own done).map ai)]) [] (List.range 6) [some ev,some (ai own),some (tabD own),some kF,some (.ref 0),none,none,none,y8] [.lst []]
  (fun a b x env T e ⟨y5,y6,y7,he,hT⟩=>by
   subst he
   subst hT
   obtain⟨rfl,hx⟩:=jR (show List.range 6=a++x::b from e)
   have hl:=kQ own a
   obtain⟨y6',y7',h1⟩:=uK (k:=k) (ev:=ev) (y8:=y8) hr hx (acc:=nearF own a) (by omega) y6 y7
   refine⟨_,rfl,_,_,.inl h1,_,y6',y7',rfl,?_⟩
   unfold nearF
   rw[List.foldl_append]
   rfl) ⟨_,_,_,rfl,rfl⟩
 rw[dZ hit,h1,h2,h3]
 exact⟨y5,y6,y7,rfl⟩
end
abbrev sx(row:List Rl):List Str:=row.map Rl.s
def AI:List (List Rl)→Bool
 |a::b::r=>Sr.ltR (sx a) (sx b)&&AI (b::r)
 |_=>true
theorem wo:AI allR=true:=by decide+kernel
theorem kK{a b c:List Str}(h1:Sr.ltR a b=true)(h2:Sr.ltR b c=true):Sr.ltR a c=true:=PyProof.Rows.lex_trans _ _ _ h1 h2
theorem vH(a:List Str):Sr.ltR a a=false:=PyProof.Rows.lex_irrefl _
theorem wZ:∀l:List (List Rl),AI l=true→l.Pairwise fun x y=>Sr.ltR (sx x) (sx y)=true
 | [],_=>.nil
 | [a],_=>by simp
 |a::b::r,h=>by
  have h:(Sr.ltR (sx a) (sx b)&&AI (b::r))=true:=h
  obtain⟨h1,h2⟩:=Jn.mp h
  have ih:=wZ (b::r) h2
  refine List.pairwise_cons.mpr ⟨fun c hc=>?_,ih⟩
  rcases Jj.mp hc with e|e
  ·rw[e];exact h1
  ·exact kK h1 ((List.pairwise_cons.mp ih).1 c e)
theorem sL:allR.Pairwise fun x y=>Sr.ltR (sx x) (sx y)=true:=wZ _ wo
theorem pV(p:List Rl→Bool):((allR.filter p).map sx).Pairwise fun x y=>Sr.ltR y x=false:=by
 rw[List.pairwise_map]
 refine(sL.filter p).imp fun {x y} h=>?_
 cases z:Sr.ltR (sx y) (sx x) with
 |false=>rfl
 |true=>
  have:=kK h z
  rw[vH] at this
  cases this
theorem qS(p:List Rl→Bool):(allR.filter p).Nodup:=by
 refine(sL.filter p).imp fun {x y} h e=>?_
 subst e
 rw[vH] at h
 cases h
theorem xq{rs ro:List Rl}(hr:Rules rs)(ho:Rules ro)(h:b7 rs ro=0):rs=ro:=by
 have:=kD hr ho
 rw[h] at this
 exact JL this.symm
theorem vA{rs:List Rl}(hr:Rules rs):rs∈allR:=by
 have h:=iQ hr 0
 have h0:0<allR.countP fun row=>decide (b7 rs row=0):=by rw[h];decide
 obtain⟨row,h1,h2⟩:=List.countP_pos_iff.mp h0
 have:=xq hr (bt row h1) (JL h2)
 rw[this];exact h1
def s9(own:List Rl)(i:Nat):List (List Rl):=((aD i).filter fun x=>decide (own.set i x≠own)).map fun x=>own.set i x
theorem nW(own:List Rl)(i:Nat):∀ (ws:List Rl) (acc:List (List Rl)),ws.foldl (nj own i) acc=acc++(ws.filter fun x=>decide (own.set i x≠own)).map fun x=>own.set i x
 | [],acc=>by simp
 |x::ws,acc=>by
  rw[List.foldl_cons,nW own i ws]
  unfold nj
  by_cases h:own.set i x=own
  ·rw[if_pos h,List.filter_cons,Jr (fun z:own.set i x≠own=>z h)]
   simp
  ·rw[if_neg h,List.filter_cons,Ju h]
   simp
theorem pE(own:List Rl)(is:List Nat):nearF own is=is.flatMap (s9 own):=by
 have:∀ (is:List Nat) (acc:List (List Rl)),is.foldl (fun acc i=>(aD i).foldl (nj own i) acc) acc=acc++is.flatMap (s9 own):=fun is=>by
  induction is with
  |nil=>intro acc;simp
  |cons i is ih=>
   intro acc
   rw[List.foldl_cons,ih,nW,List.flatMap_cons,List.append_assoc]
   rfl
 exact(this is []).trans (List.nil_append _)
theorem pP:∀i<6,(aD i).Nodup:=by decide+kernel
theorem iF{own:List Rl}{i:Nat}{x:Rl}(h:i<own.length):(own.set i x)[i]? =some x:=JH h
theorem pF{own:List Rl}(hl:own.length=6):(nearF own (List.range 6)).Nodup:=by
 rw[pE]
 refine List.pairwise_flatMap.mpr ⟨fun i hi=>?_,?_⟩
 ·have hi:=List.mem_range.mp hi
  unfold s9
  rw[List.pairwise_map]
  refine((pP i hi).filter _).imp fun {x y} h e=>h ?_
  have h1:=iF (own:=own) (i:=i) (x:=x) (by omega)
  rw[e,iF (by omega)] at h1
  exact(Jq h1).symm
 ·refine(List.nodup_range (n:=6)).imp_of_mem fun {i j} hi hj hij x hx y hy e=>?_
  have hi:=List.mem_range.mp hi
  have hj:=List.mem_range.mp hj
  unfold s9 at hx hy
  obtain⟨a,ha,rfl⟩:=JU.mp hx
  obtain⟨b,hb,rfl⟩:=JU.mp hy
  have hne:=JL (List.mem_filter.mp ha).2
  refine hne ?_
  have h1:=congrArg (fun l:List Rl=>l[i]?) e
  have h1:(own.set i a)[i]? =(own.set j b)[i]? :=h1
  rw[iF (by omega),JE (fun z=>hij z.symm)] at h1
  refine List.ext_getElem? fun m=>?_
  by_cases q:i=m
  ·subst q
   rw[iF (by omega)];exact h1
  ·rw[JE q]
theorem tH{i:Nat}(hi:i<6){r:Rl}(h:Cs.may i r=true):r∈aD i:=by
 rcases(by omega:i=0∨i=1∨i=2∨i=3∨i=4∨i=5) with rfl|rfl|rfl|rfl|rfl|rfl<;>(cases r<;>first|exact absurd h (by decide)|decide)
theorem si{own row:List Rl}(hr:Rules own)(ho:Rules row):b7 row own=1↔ ∃i<6,∃x∈aD i,own.set i x≠own∧row=own.set i x:=by
 have lo:=hr.len
 have lr:=ho.len
 have at_:∀ (l:List Rl) (j:Nat) (h:j<l.length),l.getD j .leave=l[j]:=fun l j h=>by rw[JP,Jo h];rfl
 constructor
 ·intro h
  unfold b7 at h
  obtain⟨i,hi⟩:=List.length_eq_one_iff.mp h
  have mi:i∈(List.range 6).filter fun j=> !((row.getD j .leave).s==(own.getD j .leave).s):=by rw[hi];exact Jg.mpr rfl
  have i6:=List.mem_range.mp (List.mem_filter.mp mi).1
  have ne:=(List.mem_filter.mp mi).2
  have oth:∀j<6,j≠i→row.getD j .leave=own.getD j .leave:=fun j hj hji=>by
   cases z:((row.getD j .leave).s==(own.getD j .leave).s) with
   |true=>
    rw[xp] at z
    exact JL z
   |false=>
    have:j∈(List.range 6).filter fun j=> !((row.getD j .leave).s==(own.getD j .leave).s):=List.mem_filter.mpr ⟨List.mem_range.mpr hj,by rw[z];rfl⟩
    rw[hi] at this
    exact absurd (Jg.mp this) hji
  rw[xp] at ne
  have hne:row.getD i .leave≠own.getD i .leave:=by
   intro z
   rw[Ju z] at ne
   cases ne
  rw[at_ _ _ (by omega),at_ _ _ (by omega)] at hne
  refine⟨i,i6,row[i],tH i6 (ho.may i row[i] (Jo (by omega))),fun z=>?_,?_⟩
  ·have:=iF (own:=own) (i:=i) (x:=row[i]) (by omega)
   rw[z,Jo (by omega)] at this
   exact hne (Jq this).symm
  ·refine List.ext_getElem? fun m=>?_
   by_cases q:i=m
   ·subst q
    rw[iF (by omega),Jo (by omega)]
   ·rw[JE q]
    by_cases hm:m<6
    ·have:=oth m hm (Ne.symm q)
     rw[at_ _ _ (by omega),at_ _ _ (by omega)] at this
     rw[Jo (by omega),Jo (by omega),this]
    ·rw[List.getElem?_eq_none (by omega),List.getElem?_eq_none (by omega)]
 ·rintro⟨i,hi,x,hx,hne,rfl⟩
  unfold b7
  have e:(List.range 6).filter (fun j=> !(((own.set i x).getD j .leave).s==(own.getD j .leave).s))=(List.range 6).filter fun j=>decide (j=i):=by
   refine List.filter_congr fun j hj=>?_
   have hj:=List.mem_range.mp hj
   rw[xp,at_ _ _ (by rw[List.length_set];omega),at_ _ _ (by omega)]
   by_cases q:j=i
   ·subst q
    rw[Ju rfl,List.getElem_set_self,Jr]
    ·rfl
    ·intro z
     exact hne (by rw[z];exact List.set_getElem_self _)
   ·rw[Jr q,List.getElem_set_ne (Ne.symm q),Ju rfl]
    rfl
  rw[e]
  rcases(by omega:i=0∨i=1∨i=2∨i=3∨i=4∨i=5) with rfl|rfl|rfl|rfl|rfl|rfl<;>rfl
theorem uC{own:List Rl}(hr:Rules own):(allR.filter fun row=>decide (b7 row own=1)).Perm (nearF own (List.range 6)):=by
 refine(List.perm_ext_iff_of_nodup (qS _) (pF hr.len)).mpr fun row=>?_
 rw[List.mem_filter,pE,List.mem_flatMap]
 constructor
 ·rintro⟨h1,h2⟩
  obtain⟨i,hi,x,hx,hne,e⟩:=(si hr (bt row h1)).mp (JL h2)
  exact⟨i,List.mem_range.mpr hi,JU.mpr ⟨x,List.mem_filter.mpr ⟨hx,Ju hne⟩,e.symm⟩⟩
 ·rintro⟨i,hi,h⟩
  have hi:=List.mem_range.mp hi
  obtain⟨x,hx,rfl⟩:=JU.mp h
  obtain⟨hx,hne⟩:=List.mem_filter.mp hx
  have rs:=kR hr hi hx
  exact⟨vA rs,Ju ((si hr rs).mpr ⟨i,hi,x,hx,JL hne,rfl⟩)⟩
theorem pY:∀row:List Rl,f6 (row.map aH)=some (sx row)
 | []=>rfl
 |r::row=>by
  have:=pY row
  show(f6 (row.map aH)).map (r.s:: ·)=_
  rw[this];rfl
theorem pq:∀F:List (List Rl),Sr.rowsTx (F.map ai)=some (F.map sx)
 | []=>rfl
 |row::F=>by
  have h1:Sr.rowTx (ai row)=some (sx row):=pY row
  have h2:=pq F
  show(match Sr.rowTx (ai row),Sr.rowsTx (F.map ai) with|some a,some b=>some (a::b)|_,_=>none)=_
  rw[h1,h2];rfl
theorem Ab(row:List Rl):Sr.rowT (sx row)=ai row:=by
 show D.tup ((row.map Rl.s).map D.str)=D.tup (row.map aH)
 rw[List.map_map];rfl
theorem tA{S:a0}{F G:List (List Rl)}(hs:S[0]? =some (.lst (F.map ai)))(hl:F.length≤1000)(h6:∀row∈F,row≠[])(hg:(G.map sx).Pairwise fun x y=>Sr.ltR y x=false)(p:G.Perm F):Sr.sortTD S [.ref 0]=some (.new (.lst (G.map ai))):=by
 show(match dR S (.ref 0) with|some xs=>(match Sr.rowsTx xs with|some rs=>if decide (rs.length≤16777216)&&rs.all (fun r=> !r.isEmpty) then some (RV.new (.lst ((Sr.srtT rs).map Sr.rowT))) else none|none=>none)|none=>none)=_
 have e:dR S (.ref 0)=some (F.map ai):=by
  show(match S[0]? with|some (.lst xs)=>some xs|_=>none)=_
  rw[hs]
 rw[e]
 simp only[pq]
 rw[if_pos, ← Sr.srtT_is hg (p.map sx),List.map_map]
 ·congr 3
  exact List.map_congr_left fun row _=>Ab row
 ·simp only[Jy,JB,Jz]
  refine⟨by rw[Jt];omega,fun r hr=>?_⟩
  obtain⟨row,h,rfl⟩:=JU.mp hr
  cases row with
  |nil=>exact absurd rfl (h6 _ h)
  |cons a t=>rfl
theorem ua{S:a0}(G:List (List Rl)):dH S (.lst (G.map ai)) (.lst (G.map ai))=some (.val (.bl true)):=by
 have h1:∀G:List (List Rl),iM 63 (G.map ai)=true:=fun G=>by
  induction G with
  |nil=>rfl
  |cons row G ih=>
   show(eA 63 (ai row)&&iM 63 (G.map ai))=true
   rw[ih,Bool.and_true]
   unfold ai eA
   exact mZ _ row
 have h2:∀G:List (List Rl),cP (G.map ai) (G.map ai)=true:=fun G=>by
  induction G with
  |nil=>rfl
  |cons row G ih=>
   show(cP (row.map aH) (row.map aH)&&cP (G.map ai) (G.map ai))=true
   rw[ih,jn]
   simp
 have h3:eA 64 (.lst (G.map ai))=true:=by unfold eA;exact h1 G
 rw[Ep h3 h3]
 show some (RV.val (D.bl (cP (G.map ai) (G.map ai))))=_
 rw[h2]
section
variable {k:Nat}{own:List Rl}{S:a0}
theorem zy{A:List (List Rl)}(hr:Rules own)(hA:∀row∈A,Rules row)(hl:A.length=729)(hg:((A.filter fun row=>decide (b7 row own=1)).map sx).Pairwise fun x y=>Sr.ltR y x=false)(hp:(A.filter fun row=>decide (b7 row own=1)).Perm (nearF own (List.range 6))):
  ak Pg fuel (k+5) 243 [.lst (A.map ai),ai own] S= .ok (.val (.bl true)) S:=by
 have hf:frees (A.map ai)=true:=bf fun _ _=>bX
 refine e9 [some (.lst (A.map ai)),some (ai own),none,none,none,none,none,none,none] (b:=xg) rfl (by simp[frees,free,bX,hf]) ?_
 obtain⟨y5,y6,y7,h1⟩:=uV (k:=k) (ev:=.lst (A.map ai)) (y8:=none) hr
 have e:xg ⟨ak Pg fuel (k+4),fuel⟩=aA (lE 2 3 4 (bH [(false,qK 11 13 ⟨ak Pg fuel (k+4),fuel⟩ [] (af [ae 1])),(false,bo (af [ah (.str "new"),ah (.str "changed"),ah (.str "gone"),ah (.str "two new"),ah (.str "two changed"),ah (.str "torn")])),(true,bo (af []))])) (aA (bV fuel (.nm 5) (fk cu (af [ah (.int 6)])) (oX ⟨ak Pg fuel (k+4),fuel⟩)) (retS (av dH (aJ Sr.sortTD (af [ae 4])) (jY fuel [8] (.nm 8) (aI (ae 0)) (ao (av dH (aC 240 ⟨ak Pg fuel (k+4),fuel⟩ [] (af [ae 8,ae 1])) (ah (.int 1)))) (ae 8))))):=rfl
 rw[e]
 have hm:=IH (P:=Pg) (k:=k+2) hr [] rfl
 have s0:(lE 2 3 4 (bH [(false,qK 11 13 ⟨ak Pg fuel (k+4),fuel⟩ [] (af [ae 1])),(false,bo (af [ah (.str "new"),ah (.str "changed"),ah (.str "gone"),ah (.str "two new"),ah (.str "two changed"),ah (.str "torn")])),(true,bo (af []))])) [some (.lst (A.map ai)),some (ai own),none,none,none,none,none,none,none] []=
   .nx [some (.lst (A.map ai)),some (ai own),some (tabD own),some kF,some (.ref 0),none,none,none,none] [.lst []]:=by
  have h6:(0+1+1+1+1+1+1≤16777216)=True:=by simp
  have h0:(0≤16777216)=True:=by simp
  simp only[EV,EN,JC,hm,JK,List.length_nil,h6,h0,if_true,RV.d,Ob.toD]
  rfl
 rw[aQ s0,aQ h1]
 have hso:Sr.sortTD [Ob.lst ((nearF own (List.range 6)).map ai)] [.ref 0]=some (.new (.lst ((A.filter fun row=>decide (b7 row own=1)).map ai))):=tA rfl (by have:=kQ own (List.range 6);rw[List.length_range] at this;omega) (fun row hrow=>by
  have:=hA row (List.mem_filter.mp (hp.mem_iff.mpr hrow)).1
  intro z
  have hl:=this.len
  rw[z] at hl
  cases hl) hg hp
 have hv:(ae 4) [some (.lst (A.map ai)),some (ai own),some (tabD own),some kF,some (.ref 0),y5,y6,y7,none] [Ob.lst ((nearF own (List.range 6)).map ai)]= .ok (.val (.ref 0)) [Ob.lst ((nearF own (List.range 6)).map ai)]:=by simp only[EV,EN]
 have hit:(aI (ae 0)) [some (.lst (A.map ai)),some (ai own),some (tabD own),some kF,some (.ref 0),y5,y6,y7,none] [Ob.lst ((nearF own (List.range 6)).map ai)]= .ok (.st (A.map ai)) [Ob.lst ((nearF own (List.range 6)).map ai)]:=by
  simp only[EV,EN]
 have hlc:=mF (fl:=fuel) (vs:=[8]) (t:=.nm 8) (c:=ao (av dH (aC 240 ⟨ak Pg fuel (k+4),fuel⟩ [] (af [ae 8,ae 1])) (ah (.int 1)))) (f:=ae 8) A ai (fun row=>decide (b7 row own=1)) ai hit (fun row hrow=>by
  have g1:=fun S=>By (k:=k+3) (S:=S) (hA row hrow).len hr.len
  have ei:(((b7 row own:Nat):Int)==1)=decide (b7 row own=1):=by
   by_cases q:b7 row own=1
   ·rw[q];rfl
   ·rw[Jr q]
    cases z:(((b7 row own:Nat):Int)==1) with
    |false=>rfl
    |true=>exact absurd (by have:((b7 row own:Nat):Int)=1:=(by simpa using z);omega) q
  exact⟨[some (.lst (A.map ai)),some (ai own),some (tabD own),some kF,some (.ref 0),y5,y6,y7,some (ai row)],rfl,by simp only[EV,EN,JC,g1,Bd.eq_int,ei],fun _=>⟨.val (ai row),by simp only[EV,EN],rfl⟩⟩) (by omega)
 rw[xD (IM (op:=dH) (zx hv hso) hlc (ua _))]
 exact cZ rfl
theorem Du(hr:Rules own):ak Pg fuel (k+5) 243 [.lst (allR.map ai),ai own] S= .ok (.val (.bl true)) S:=zy hr bt jJ (pV _) (uC hr)
end
def uB(row:List Rl):PyData:=.tuple (row.map fun r=>.str r.s)
theorem vj:∀row:List Rl,cJ (row.map aH)=some (row.map fun r=>PyData.str r.s)
 | []=>rfl
 |r::row=>by
  have:=vj row
  show(match cO (aH r),cJ (row.map aH) with|some p,some ps=>some (p::ps)|_,_=>none)=_
  rw[this];rfl
theorem mE(row:List Rl):cO (ai row)=some (uB row):=by
 show(cJ (row.map aH)).map PyData.tuple=_
 rw[vj];rfl
theorem tq:∀A:List (List Rl),cJ (A.map ai)=some (A.map uB)
 | []=>rfl
 |row::A=>by
  have:=tq A
  show(match cO (ai row),cJ (A.map ai) with|some p,some ps=>some (p::ps)|_,_=>none)=_
  rw[this,mE];rfl
theorem ly:∀row:List Rl,PyData.plainAll (row.map fun r=>PyData.str r.s)=true
 | []=>rfl
 |r::row=>by
  have:=ly row
  have h:PyData.strOk r.s=true:=oG r
  simp[PyData.plainAll,PyData.plain,this,h]
theorem lC(row:List Rl):(uB row).plain=true:=by
 have:=ly row
 simp[uB,PyData.plain,this]
theorem kq:∀A:List (List Rl),PyData.plainAll (A.map uB)=true
 | []=>rfl
 |row::A=>by
  have:=kq A
  simp[PyData.plainAll,lC,this]
theorem yd(a b:List Rl):PyData.eqv (uB a) (uB b)=decide (a=b):=by
 rw[mf (ai a) (ai b) _ _ (mE a) (mE b)]
 exact jn a b
theorem lF:∀row:List Rl,PyData.depthAll (row.map fun r=>PyData.str r.s)=0
 | []=>by simp[PyData.depthAll]
 |r::row=>by
  have:=lF row
  simp[PyData.depthAll,PyData.depth,this]
theorem tE(row:List Rl):(uB row).depth≤60:=by
 have:=lF row
 simp[uB,PyData.depth,this]
theorem uv{S:a0}{A:List (List Rl)}{own:List Rl}(h:A.countP (fun row=>decide (row=own))=1):fC S (.lst (A.map ai)) [ai own]=some (.val (.int 1),S):=by
 have h1:ib S (.lst (A.map ai))=some (.list (A.map uB)):=by
  show(cJ (A.map ai)).map PyData.list=_
  rw[tq];rfl
 have h2:ib S (ai own)=some (uB own):=mE own
 unfold fC
 simp only[h1,h2]
 rw[if_pos (by rw[kq,lC,Ju (tE own)];rfl),List.countP_map]
 have e:((fun z=>PyData.eqv z (uB own)) ∘ uB)=fun row=>decide (row=own):=by
  funext row
  exact yd row own
 rw[e,h]
 rfl
theorem vx{own:List Rl}(hr:Rules own):allR.countP (fun row=>decide (row=own))=1:=by
 have h:=iQ hr 0
 rw[show pS 6 0=1 by decide] at h
 rw[← h]
 refine List.countP_congr fun row hrow=>?_
 have hg:=kD hr (bt row hrow)
 constructor
 ·intro z
  have z:row=own:=JL z
  subst z
  rw[Ju rfl] at hg
  exact Ju (by have:((b7 row row:Nat):Int)=0:=by simpa using hg
               omega)
 ·intro z
  exact Ju (xq hr (bt row hrow) (JL z)).symm
def g4:Cfg:=⟨ak Pg fuel 11,fuel⟩
def sj:MS:=aA (aM true 4 (aC 200 g4 [] (af [ae 0,ae 3]))) (aA (gU 5 6 (bH [(false,aC 201 g4 [] (af [ae 4,ah (.int 729)])),(false,aC 226 g4 [] (af [ae 4]))])) (aA (dF (cH [bz (ao (aC 241 g4 [] (af [ae 1,ae 5]))),bz (ao (aC 242 g4 [] (af [ae 1,ae 6])))]) (retS (ah (.bl false))) (bq)) (aA (dF (cH [ao (av dq (cG (fO [(11,0)]) (av aN (Ex.listTF 11 Ex.tabR) (ae 5))) (av aN (ae 1) (ae 5))),bz (ao (aC 243 g4 [] (af [ae 1,av aN (ae 1) (ae 5)])))]) (retS (ah (.bl false))) (bq)) (dF (ao (av dq (fg "list" fC (ae 1) (af [ae 6])) (ah (.int 1)))) (retS (ah (.bl false))) (bq)))))
structure AllF(A:List (List Rl)):Prop where
 come:∀ (m:Nat) (S:a0),ak Pg fuel 11 241 [.lst (A.map ai),.int (m:Int)] S= .ok (.val (.bl true)) S
 from_:∀ (own:List Rl) (S:a0),Rules own→ak Pg fuel 11 242 [.lst (A.map ai),ai own] S= .ok (.val (.bl true)) S
 near:∀ (own:List Rl) (S:a0),Rules own→ak Pg fuel 11 243 [.lst (A.map ai),ai own] S= .ok (.val (.bl true)) S
 once:∀own:List Rl,Rules own→A.countP (fun row=>decide (row=own))=1
 tabs:Ex.tabR.map (Ex.tabD 11)=A.map tabD
 len:A.length=729
 rules:∀row∈A,Rules row
theorem Iz:AllF allR:=⟨fun m S=>DB (k:=10),fun own S hr=>DA (k:=8) hr (bf fun _ _=>bX),fun own S hr=>Du (k:=6) hr,fun own hr=>vx hr,m6,jJ,bt⟩
theorem xB{A:List (List Rl)}(F:AllF A){S:a0}{i:Nat}{ns:List Int}{y2 y4 y5 y6 y7 y8:Option D}(hl:ns.length≤63)(hi:i≤8):
  ∃y4' y5' y6' S2,sj [some (.scr (ns.map D.int)),some (.lst (A.map ai)),y2,some (.int (i:Int)),y4,y5,y6,y7,y8] S= .nx [some (.scr (ns.map D.int)),some (.lst (A.map ai)),y2,some (.int (i:Int)),y4',y5',y6',y7,y8] S2:=by
 obtain⟨o1,ho1,hc1⟩:=begun (P:=Pg) (k:=10) (S:=S) (ns:=ns) (t:=(i:Int)) (by omega) (by omega) (by omega)
 have hc1:ak Pg fuel 11 200 [.scr (ns.map D.int),.int (i:Int)] S= .ok (.new o1) S:=hc1
 obtain⟨v,o2,hv,ho2,hc2⟩:=sE (P:=Pg) (k:=10) (S:=S++[o1]) (r:=S.length) (n:=729) jq ho1 (by decide) (by decide) (by decide)
 rw[jX] at hc2
 have hc2:ak Pg fuel 11 201 [.ref S.length,.int 729] (S++[o1])= .ok (.val (.int (v:Int))) (S++[o2]):=hc2
 obtain⟨rs,o3,hr,ho3,hc3⟩:=Aq (P:=Pg) (k:=8) (S:=S++[o2]) (r:=S.length) jq ho2 (by decide)
 rw[jX] at hc3
 have hc3:ak Pg fuel 11 226 [.ref S.length] (S++[o2])= .ok (.val (ai rs)) (S++[o3]):=hc3
 have hv7:v<A.length:=by rw[F.len];omega
 obtain⟨row,hrow⟩:∃row,A[v]? =some row:=⟨_,Jo hv7⟩
 have hrr:=F.rules row (Js hrow)
 have s1:(aM true 4 (aC 200 g4 [] (af [ae 0,ae 3]))) [some (.scr (ns.map D.int)),some (.lst (A.map ai)),y2,some (.int (i:Int)),y4,y5,y6,y7,y8] S= .nx [some (.scr (ns.map D.int)),some (.lst (A.map ai)),y2,some (.int (i:Int)),some (.ref S.length),y5,y6,y7,y8] (S++[o1]):=by
  have u200:(aC 200 g4 [] (af [ae 0,ae 3])) [some (.scr (ns.map D.int)),some (.lst (A.map ai)),y2,some (.int (i:Int)),y4,y5,y6,y7,y8] S= .ok (.new o1) S:=qM (S1:=S) (by simp only[EV,EN]) hc1
  unfold aM
  rw[u200]
  rfl
 have s2:(gU 5 6 (bH [(false,aC 201 g4 [] (af [ae 4,ah (.int 729)])),(false,aC 226 g4 [] (af [ae 4]))])) [some (.scr (ns.map D.int)),some (.lst (A.map ai)),y2,some (.int (i:Int)),some (.ref S.length),y5,y6,y7,y8] (S++[o1])= .nx [some (.scr (ns.map D.int)),some (.lst (A.map ai)),y2,some (.int (i:Int)),some (.ref S.length),some (.int (v:Int)),some (ai rs),y7,y8] (S++[o3]):=by
  have u201:(aC 201 g4 [] (af [ae 4,ah (.int 729)])) [some (.scr (ns.map D.int)),some (.lst (A.map ai)),y2,some (.int (i:Int)),some (.ref S.length),y5,y6,y7,y8] (S++[o1])= .ok (.val (.int (v:Int))) (S++[o2]):=qM (S1:=S++[o1]) (by simp only[EV,EN]) hc2
  have u226:(aC 226 g4 [] (af [ae 4])) [some (.scr (ns.map D.int)),some (.lst (A.map ai)),y2,some (.int (i:Int)),some (.ref S.length),y5,y6,y7,y8] (S++[o2])= .ok (.val (ai rs)) (S++[o3]):=qM (S1:=S++[o2]) (by simp only[EV,EN]) hc3
  generalize(aC 201 g4 [] (af [ae 4,ah (.int 729)]))=X at u201 ⊢
  generalize(aC 226 g4 [] (af [ae 4]))=Y at u226 ⊢
  simp only[EV,u201,u226,RV.d]
 have c241:=F.come v
 have c242:=fun T=>F.from_ rs T hr
 have c243:=fun T=>F.near row T hrr
 have zO:=fun T:a0=>sJ (S:=T) hrow
 have s3:(dF (cH [bz (ao (aC 241 g4 [] (af [ae 1,ae 5]))),bz (ao (aC 242 g4 [] (af [ae 1,ae 6])))]) (retS (ah (.bl false))) (bq)) [some (.scr (ns.map D.int)),some (.lst (A.map ai)),y2,some (.int (i:Int)),some (.ref S.length),some (.int (v:Int)),some (ai rs),y7,y8] (S++[o3])= .nx [some (.scr (ns.map D.int)),some (.lst (A.map ai)),y2,some (.int (i:Int)),some (.ref S.length),some (.int (v:Int)),some (ai rs),y7,y8] (S++[o3]):=
  fY (by simp only[EV,EN,g4,JC,c241,c242,Bool.not_true])
 have s4:(dF (cH [ao (av dq (cG (fO [(11,0)]) (av aN (Ex.listTF 11 Ex.tabR) (ae 5))) (av aN (ae 1) (ae 5))),bz (ao (aC 243 g4 [] (af [ae 1,av aN (ae 1) (ae 5)])))]) (retS (ah (.bl false))) (bq)) [some (.scr (ns.map D.int)),some (.lst (A.map ai)),y2,some (.int (i:Int)),some (.ref S.length),some (.int (v:Int)),some (ai rs),y7,y8] (S++[o3])= .nx [some (.scr (ns.map D.int)),some (.lst (A.map ai)),y2,some (.int (i:Int)),some (.ref S.length),some (.int (v:Int)),some (ai rs),y7,y8] (S++[o3]):=by
  have li:∀ (E:aq) (T:a0),(Ex.listTF 11 Ex.tabR) E T= .ok (.new (.lst (A.map tabD))) T:=fun E T=>by
   unfold Ex.listTF
   rw[F.tabs]
  have at2:∀T:a0,aN T (.lst (A.map tabD)) (.int (v:Int))=some (.val (tabD row)):=fun T=>by
   show(atI (A.map tabD) (v:Int)).map RV.val=_
   rw[qB hrow];rfl
  have nn:=fun T:a0=>yF (S:=T) (rs:=row) (ro:=row)
  rw[Ju (rfl:row=row)] at nn
  exact fY (by simp only[EV,EN,g4,li,RV.d,Ob.toD,at2,i9,zO,nn,Bool.not_true,JC,c243])
 have s5:(dF (ao (av dq (fg "list" fC (ae 1) (af [ae 6])) (ah (.int 1)))) (retS (ah (.bl false))) (bq)) [some (.scr (ns.map D.int)),some (.lst (A.map ai)),y2,some (.int (i:Int)),some (.ref S.length),some (.int (v:Int)),some (ai rs),y7,y8] (S++[o3])= .nx [some (.scr (ns.map D.int)),some (.lst (A.map ai)),y2,some (.int (i:Int)),some (.ref S.length),some (.int (v:Int)),some (ai rs),y7,y8] (S++[o3]):=by
  have ct:=uv (S:=S++[o3]) (F.once rs hr)
  have ty:∀T:a0,yV "list" T (.lst (A.map ai))=true:=fun T=>rfl
  have n1:∀T:a0,dq T (.int 1) (.int 1)=some (.val (.bl false)):=fun T=>rfl
  exact fY (by simp only[EV,EN,fg,R.bind,RV.d,ty,if_true,ct,n1])
 refine⟨some (.ref S.length),some (.int (v:Int)),some (ai rs),S++[o3],?_⟩
 unfold sj
 rw[aQ s1,aQ s2,aQ s3,aQ s4]
 exact s5
structure AllG(A:List (List Rl)):Prop where
 f:AllF A
 every:∀S:a0,ak Pg fuel 11 239 [] S= .ok (.new (.lst (A.map ai))) S
 items:∀ (sc ev:D) (r:List (Option D)),fb (rQ 4 (eO g4) [2] (.nm 2) qb) (lY sc ev none r) []= .ok (.new (.lst (A.map ai))) []
 zip:∀ (S:a0) (g1 g2 g3 g4 g5 g6 g7 y z:Option D),∃y' z',(S1.forZS 11 Ex.tabR (.tp [.nm 7,.nm 8]) (vn ⟨ak Pg fuel 11,fuel⟩)) [g1,g2,g3,g4,g5,g6,g7,y,z] S= .nx [g1,g2,g3,g4,g5,g6,g7,y',z'] S
theorem HQ:AllG allR:=⟨Iz,fun S=>zd (k:=9),fun sc ev r=>uu (k:=9),fun S g1 g2 g3 g4 g5 g6 g7 y z=>zQ (k:=10)⟩
theorem plain0{A:List (List Rl)}(G:AllG A)(ns:List Int)(hl:ns.length≤63):(ak Pg fuel 12 244 [.scr (ns.map D.int)] []).sat (fun r _=>r= .val (.bl true)) (fun _ _=>False):=by
 let sc:D:=.scr (ns.map D.int)
 have F:=G.f
 have hfr:frees [.scr (ns.map D.int)]=true:=by
  show(frees (ns.map D.int)&&true)=true
  rw[uk];rfl
 have h6:∀row∈A,row.length≤6:=fun row h=>by rw[(F.rules row h).len];exact JD _
 have s1:(aM false 1 (aC 239 g4 [] (af []))) [some sc,none,none,none,none,none,none,none,none] []= .nx [some sc,some (.lst (A.map ai)),none,none,none,none,none,none,none] []:=by
  have:=G.every []
  simp only[EV,EN,g4,JC,this,RV.d,Ob.toD]
 obtain⟨r1,r2⟩:=DQ (A:=A) (by rw[F.len];exact JD _) h6
 have ne1:∀T:a0,dq T (.str (RT (.lst (A.map ai)))) (.str (RT (.lst (A.map ai))))=some (.val (.bl false)):=fun T=>jo r2
 have hlen:∀T:a0,cN T [.lst (A.map ai)]=some (.val (.int 729)):=fun T=>by
  show some (RV.val (D.int (((A.map ai).length:Nat):Int)))=_
  rw[Jt,F.len];rfl
 have n729:∀T:a0,dq T (.int 729) (.int 729)=some (.val (.bl false)):=fun T=>rfl
 have s2:(dF (cH [ao (av dq (aJ cN (af [ae 1])) (ah (.int 729))),ao (av dq (aJ bh (af [fb (rQ 4 (eO g4) [2] (.nm 2) qb)])) (aJ bh (af [ae 1])))]) (retS (ah (.bl false))) (bq)) [some sc,some (.lst (A.map ai)),none,none,none,none,none,none,none] []= .nx [some sc,some (.lst (A.map ai)),none,none,none,none,none,none,none] []:=by
  have it:(fb (rQ 4 (eO g4) [2] (.nm 2) qb)) [some sc,some (.lst (A.map ai)),none,none,none,none,none,none,none] []= .ok (.new (.lst (A.map ai))) []:=G.items sc (.lst (A.map ai)) [none,none,none,none,none,none]
  generalize(fb (rQ 4 (eO g4) [2] (.nm 2) qb))=X at it ⊢
  exact fY (by simp only[EV,EN,hlen,n729,it,RV.d,Ob.toD,r1,ne1])
 obtain⟨m,hm,hrg⟩:=uZ (ns:=ns) (c:=3) (cc:=3) (S:=[]) (env:=[some sc,some (.lst (A.map ai)),none,none,none,none,none,none,none]) rfl (by decide) rfl
 obtain⟨e2,S2,hfor,y3,y4,y5,y6,rfl⟩:=eL (t:=.nm 3) (body:=sj) (fun i:Nat=>D.int (i:Int)) (fun _ e S=>∃y3 y4 y5 y6,e=[some sc,some (.lst (A.map ai)),none,y3,y4,y5,y6,none,none]) [] (List.range m) [some sc,some (.lst (A.map ai)),none,none,none,none,none,none,none] [] (fun a b i e S hd ⟨y3,y4,y5,y6,he⟩=>by
  have hi:i≤8:=by
   have:i∈List.range m:=by rw[← List.nil_append (List.range m),hd];simp
   have:=List.mem_range.mp this
   omega
  subst he
  obtain⟨y4',y5',y6',S2,h⟩:=xB F (S:=S) (i:=i) (y2:=none) (y4:=y4) (y5:=y5) (y6:=y6) (y7:=none) (y8:=none) hl hi
  exact⟨_,rfl,_,S2,.inl h,_,y4',y5',y6',rfl⟩) ⟨none,none,none,none,rfl⟩
 obtain⟨y7',y8',hz⟩:=G.zip S2 (some sc) (some (.lst (A.map ai))) none y3 y4 y5 y6 none none
 have hend:(retS (eh [aC 241 g4 [] (af [ae 1,ah (.int 728)]),aC 241 g4 [] (af [ae 1,ah (.int 0)])])) [some sc,some (.lst (A.map ai)),none,y3,y4,y5,y6,y7',y8'] S2= .ret (.val (.bl true)) S2:=by
  have c1:∀T:a0,ak Pg fuel 11 241 [.lst (A.map ai),.int 728] T= .ok (.val (.bl true)) T:=fun T=>F.come 728 T
  have c2:∀T:a0,ak Pg fuel 11 241 [.lst (A.map ai),.int 0] T= .ok (.val (.bl true)) T:=fun T=>F.come 0 T
  simp only[EV,EN,g4,JC,c1,c2]
 rw[cR (np:=1) (nn:=9) (b:=o8) rfl,j4 (np:=1) hfr rfl]
 show(jG 0 _ (o8 g4 [some sc,none,none,none,none,none,none,none,none] [])).sat _ _
 have hall:o8 g4 [some sc,none,none,none,none,none,none,none,none] []= .ret (.val (.bl true)) S2:=by
  have e:o8 g4=aA (aM false 1 (aC 239 g4 [] (af []))) (aA (dF (cH [ao (av dq (aJ cN (af [ae 1])) (ah (.int 729))),ao (av dq (aJ bh (af [fb (rQ 4 (eO g4) [2] (.nm 2) qb)])) (aJ bh (af [ae 1])))]) (retS (ah (.bl false))) (bq)) (aA (bV fuel (.nm 3) (fk cu (af [av aP (ah (.int 1)) (aJ fB (af [aJ cN (af [ae 0]),ah (.int 3)]))])) sj) (aA (S1.forZS 11 Ex.tabR (.tp [.nm 7,.nm 8]) (vn ⟨ak Pg fuel 11,fuel⟩)) (retS (eh [aC 241 g4 [] (af [ae 1,ah (.int 728)]),aC 241 g4 [] (af [ae 1,ah (.int 0)])]))))):=rfl
  rw[e,aQ s1,aQ s2,aQ ((dZ hrg).trans hfor),aQ hz]
  exact hend
 rw[hall]
 rfl
theorem plain(ns:List Int)(hl:ns.length≤63)(_:∀z∈ns,Builtin.Int.intBits z≤1048576):(ak Pg fuel 12 244 [.scr (ns.map D.int)] []).sat (fun r _=>r= .val (.bl true)) (fun _ _=>False):=plain0 HQ ns hl
end Lw_k04
namespace Lw_k04
open PySem L2 PyProof.Rows LamX He Ev Bd
theorem Il{w:World}{K:PySem.W.Frag}{mg:Str→Option Value}{fa0:Addr}{h:Heap}(X:K.In h)(c:SaysS fa fn ts tf xs gs (fun K=>vd.all fun c=>c K) w h K)(G:h.Ns mainGlobals mg)(hfa:mg ("law":Str)=some (.ref fa0)):LawG PySem.Challenge.rw_pairsettle_k04_whole_all_tables w K (cg w K) (ak Pg fuel 12 244) 72 "_law_script" mg fa0 h:=by
 obtain⟨fd,FD⟩:=c.x.t.d.def_ 19 (d:=yB)
 have e:=hfa.symm.trans (He.glo_ok X G (c.x.t.d.fact 29 (f:=.glo "law")))
 cases e
 refine⟨⟨fd,tf.map (cT K),fun p hp=>?_,fun p hp=>?_,fun p hp=>?_,fun s u=>FD.bindsA (ps:=["_law_script"]) (fun _ _ _ _ _ _ us hl=>match us,hl with| [_],_=>rfl) s [u] rfl,⟨fun p hp=>?_,fun p hp=>?_⟩,fun base Kb Gb TB=>?_⟩,fun b o hb he=>?_⟩
 ·obtain⟨z,hz,rfl⟩:=JU.mp hp
  exact c.x.empty z hz
 ·obtain⟨z,hz,rfl⟩:=JU.mp hp
  exact c.x.out z hz
 ·obtain⟨z,hz,rfl⟩:=JU.mp hp
  exact PySem.W.codeHd_of_K X (c.x.hd z hz)
 ·obtain⟨z,hz,rfl⟩:=JU.mp (show p∈Hx.map fun p=>((cT K p.1).2,p.2) from hp)
  exact JU.mpr ⟨cT K z.1,JU.mpr ⟨z.1,(show(Hx++Hr).map Prod.fst=tf from rfl)▸List.mem_map_of_mem (JN _ hz),rfl⟩,rfl⟩
 ·obtain⟨z,hz,rfl⟩:=JU.mp (show p∈Hr.map fun p=>((cT K p.1).2,p.2) from hp)
  exact JU.mpr ⟨cT K z.1,JU.mpr ⟨z.1,(show(Hx++Hr).map Prod.fst=tf from rfl)▸List.mem_map_of_mem (Ji _ hz),rfl⟩,rfl⟩
 ·exact BS (base:=base) ⟨⟨h,X,G,c⟩,fun p hp=>TB _ (List.mem_map_of_mem hp)⟩ FD 12
 ·have q:=Jz.mp (Jz.mp c.x.more Bn (Js (i:=15) rfl)) _ (He.lookup_mem hb)
  simp only[he,decide_true,Bool.not_true] at q
  cases q
end Lw_k04
open PySem PySem.W PySem.Calls PyProof.Rows
set_option maxRecDepth 100000 in
set_option maxHeartbeats 8000000 in
theorem PySem.Challenge.cw_pairsettle_k04_whole_all_tables_holds : PySem.Challenge.rw_pairsettle_k04_whole_all_tables.Holds := by
 w_on;o_law
 refine HandSHeadRun.head_any (r:=OpenLaw.row PySem.Challenge.rw_pairsettle_k04_whole_all_tables) (q:=view (OpenLaw.row PySem.Challenge.rw_pairsettle_k04_whole_all_tables).prog [39]) (H:=Lw_k04.hk) (ob:=Lw_k04.ob) (M:=9000) (loose:=Lw_k04.loose) (d:=HandSHeadRun.topDef (OpenLaw.row PySem.Challenge.rw_pairsettle_k04_whole_all_tables).prog 39) (kwd:=[]) Lw_k04.GO
  (by kernel_rfl) (fun s=>by kernel_rfl) Lw_k04.run (by kernel_rfl) (by kernel_rfl) (by kernel_rfl) (by rfl) (by first|assumption|decide+kernel) (by decide+kernel) ⟨rfl,rfl,rfl,rfl,rfl,by decide+kernel⟩ ?hw ?hc
 case hw=>w_witness2
 case hc=>
  refine Ev.BW (l:=PySem.Challenge.rw_pairsettle_k04_whole_all_tables) (n:=63) (k:=72) (x:="_law_script") (Γ:=Lw_k04.cg) (f:=Ev.ak Lw_k04.Pg Bd.fuel 12 244) rfl (by decide) (by kernel_rfl) ⟨⟨rfl,by decide,by decide⟩,rfl⟩ ?F Lw_k04.plain
  intro w mg fa h Y G hmg0
  obtain⟨K,KX,c⟩:=Y
  have hmg:mg ("law":PySem.Str)=some (.ref fa):=by
   have e:(HandSHeadRun.topDef (OpenLaw.row PySem.Challenge.rw_pairsettle_k04_whole_all_tables).prog 39).name=("law":PySem.Str):=by kernel_rfl
   rw[← e]
   exact hmg0
  exact⟨K,KX,Lw_k04.Il KX c G hmg⟩
