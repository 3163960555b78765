import PyProof.Rows.All
import KE.KIsAll
import KE.KNestStore
import KE.LcTurns
import OpenK.XOpen
import Wide.Line
import PySem.Challenge.RW_og0097_01
set_option Elab.async false
set_option bootstrap.genMatcherCode false
set_option genSizeOf false
set_option backward.match.sparseCases false
set_option tactic.hygienic false
set_option genInjectivity false
set_option genCtorIdx false
set_option linter.all false
set_option maxRecDepth 100000
namespace Og.Internal
noncomputable def Kc:=@PySem.wpAny_bind
noncomputable def Ke:=@PySem.wpAny_pure
noncomputable def Kf:=@List.length_map
noncomputable def Kg:=@if_neg
noncomputable def Kh:=@if_pos
noncomputable def Ki:=@eq_of_beq
noncomputable def Kj:=@List.getElem?_eq_getElem
noncomputable def Kk:=@List.getElem?_eq_some_iff
noncomputable def Kl:=@List.length_append
noncomputable def Km:=@beq_eq_false_iff_ne
noncomputable def Kn:=@of_decide_eq_true
noncomputable def Ko:=@List.getElem?_map
noncomputable def Kp:=@List.lookup_cons
noncomputable def Kq:=@beq_self_eq_true
noncomputable def Kr:=@List.not_mem_nil
noncomputable def Ks:=@Option.isSome_iff_exists
noncomputable def Kt:=@Option.map_eq_some_iff
noncomputable def Ku:=@PySem.Heap.get?_push_of_some
noncomputable def Kv:=@List.getElem?_set_ne
noncomputable def Kw:=@Nat.lt_of_lt_of_le
noncomputable def Kx:=@Nat.zero_le
noncomputable def Ky:=@PySem.Heap.get?_push_size
noncomputable def Kz:=@List.length_mapIdx
noncomputable def KA:=@List.mem_append_left
noncomputable def KB:=@Nat.le_add_right
noncomputable def KC:=@PySem.wpAny_mono
noncomputable def KD:=@List.mem_append
noncomputable def KF:=@List.reverse_cons
noncomputable def KG:=@List.mem_append_right
noncomputable def KI:=@List.forall_mem_cons
noncomputable def KJ:=@List.length_set
noncomputable def KL:=@Int.natCast_nonneg
noncomputable def KM:=@List.length_reverse
noncomputable def KN:=@Nat.le_of_lt
noncomputable def KO:=@Nat.le_succ_of_le
noncomputable def KP:=@List.length_eq_zero_iff
noncomputable def KQ:=@Nat.mul_le_mul_left
noncomputable def KR:=@List.getElem?_mapIdx
noncomputable def KS:=@List.length_cons
noncomputable def KT:=@List.length_range
noncomputable def KU:=@List.contains_iff_mem
noncomputable def KV:=@Option.bind_eq_some_iff
noncomputable def KX:=@List.getElem?_append_right
noncomputable def KY:=@List.getElem_mem
noncomputable def KZ:=@List.mem_range
noncomputable def K0:=@List.mem_map
noncomputable def K6:=@List.take_length
noncomputable def K8:=@List.length_drop
noncomputable def K9:=@Nat.sub_le
noncomputable def La:=@Nat.lt_succ_self
noncomputable def Lb:=@Nat.ne_of_lt
noncomputable def Ld:=@Nat.ne_of_gt
noncomputable def Le:=@Nat.lt_irrefl
noncomputable def Lf:=@Nat.add_assoc
noncomputable def Lg:=@Nat.add_comm
noncomputable def Li:=@List.map_append
noncomputable def Lj:=@List.map_cons
noncomputable def Lk:=@List.map_map
noncomputable def Ll:=@List.append_assoc
noncomputable def Lm:=@List.append_nil
noncomputable def Lv:=@Bool.and_eq_true
noncomputable def Lz:=@List.getElem?_eq_none
noncomputable def LA:=@Nat.not_lt
section
open PySem PySem.W PySem.Calls PyProof.Rows PySem.SeqAt
theorem oInj.{u}{α:Type u}{a b:α}(h:some a=some b):a=b:=Option.some.inj h
theorem aD{a b:Nat}(h:Nat.ble a b=true):a≤b:=Nat.le_of_ble_eq_true h
theorem mSng.{u}{α:Type u}{a b:α}(h:a∈[b]):a=b:=List.mem_singleton.mp h
theorem am{n m k:Nat}(h:n≤m)(i:m≤k):n≤k:=Nat.le_trans h i
theorem bD{n m k:Nat}(h:n≤m)(i:m<k):n<k:=Nat.lt_of_le_of_lt h i
theorem mGe.{u}{α:Type u}{l:List α}{i:Nat}{a:α}(h:l[i]?=some a):a∈l:=List.mem_of_getElem? h
theorem aR(n:Nat):n≤n:=Nat.le_refl n
theorem cS{n m:Nat}(h:n≤m)(k:Nat):k+n≤k+m:=Nat.add_le_add_left h k
theorem dc{n m:Nat}(h:n≤m):Nat.succ n≤Nat.succ m:=Nat.succ_le_succ h
theorem bU{n m:Nat}(h:n=m):n≤m:=Nat.le_of_eq h
theorem cz{a b c:Int}(h:a≤b)(k:b≤c):a≤c:=Int.le_trans h k
theorem lf{a b:Bool}(h:a=true∧b=true):(a&&b)=true:=Bool.and_eq_true_iff.mpr h
theorem fj{a b:Bool}(h:(a&&b)=true):a=true∧b=true:=Bool.and_eq_true_iff.mp h
theorem mCo.{u}{α:Type u}{a b:α}{l:List α}(h:a∈b::l):a=b∨a∈l:=List.mem_cons.mp h
theorem lAt.{u}{α:Type u}{p:α→Bool}{l:List α}(h:l.all p=true):∀x,x∈l→p x=true:=List.all_eq_true.mp h
section
@[elab_as_elim] theorem ab{α:Sort u}{P:α→Prop}{a b:α}(h:a=b)(p:P b):P a:=h▸p
@[elab_as_elim] theorem bT{α:Sort u}{P:α→Prop}{a b:α}(h:b=a)(p:P b):P a:=h▸p
end
section
theorem HZ{α:Type}{a:α}(h:(none:Option α)=some a):False:=by injection h
noncomputable def Fo(d:Data):Option ClassData:=match d with
 |.cls c=>some c
 |_=>none
theorem C6{d:Data}{c:ClassData}(e:Fo d=some c):d=.cls c:=by
 cases d with
 |cls c'=>exact congrArg _ (oInj e)
 |_=>exact(HZ e).elim
theorem Ar(K:Frag)(C:Addr):clsIn K C=(K.lookup C).bind fun o=>Fo o.data:=by
 delta clsIn
 cases K.lookup C with
 |none=>rfl
 |some o =>
  obtain⟨a,b,d,s⟩:=o
  cases d<;>rfl
theorem Di{K:Frag}{C:Addr}{cd:ClassData}(e:clsIn K C=some cd):∃o,K.lookup C=some o∧o.data=.cls cd :=
 let ⟨o,h,d⟩:=KV.mp ((Ar K C).symm.trans e)
 ⟨o,h,C6 d⟩
noncomputable def Hd(K:Frag)(C:Addr)(cd:ClassData):Bool:=!cd.abstract&&!cd.hasDel&&cd.hasDict&&!cd.mro.isEmpty&&cd.mro.contains (.ref C)&&cd.mro.contains (.type "Exception")&&cd.mro.contains (.type "object") &&
   !cd.mro.contains (.type "AttributeError")&&!cd.mro.contains (.type "NameError") &&
   specialIn K (.ref C) "__call__" == some (some (.builtin "type.__call__"))&&instIn K (.ref C) (.type "type")==some true&&typeIn K (.ref C)==some (.type "type")
noncomputable def iS(K:Frag)(C:Addr):Bool:=(clsIn K C).any (Hd K C)&&(K.lookup C).any fun o=>(o.slots.toList[4]?).join==some (.builtin "Exception.__new__")
structure MakesX(M:Model)(h:Heap)(C:Addr):Prop where
 obj:∃oc od cd sl,h.get? C=some ⟨oc,od,.cls cd,sl⟩∧cd.abstract=false∧cd.hasDel=false∧cd.mro.isEmpty=false∧cd.hasDict=true
 made:Looks M h (Bind.madeBy (.ref C)) (some "Exception.__new__")
 base:Looks M h (Bind.staticBase (.ref C)) (.ref C)
 self:Looks M h (isSubtype (.ref C) (.ref C)) true
 top:Looks M h (isSubtype (.ref C) (.type "object")) true
 exc:Looks M h (isSubtype (.ref C) (.type "Exception")) true
 natt:Looks M h (isSubtype (.ref C) (.type "AttributeError")) false
 nnam:Looks M h (isSubtype (.ref C) (.type "NameError")) false
 call:Looks M h (specialOf (.ref C) "__call__") (some (.builtin "type.__call__"))
 typ:Looks M h (isInstance (.ref C) (.type "type")) true
 tt:Looks M h (typeOf (.ref C)) (.type "type")
theorem nb{b:Bool}(h:(!b)=true):b=false:=by cases b;rfl;injection h
theorem It{b:Bool}(h:b=false):¬ (b=true):=fun z=>by rw[h]at z;injection z
theorem gQ{K:Frag}{M:Model}{h:Heap}(X:K.In h){C:Addr}(e:iS K C=true):MakesX M h C:=by
 obtain⟨cd,hc,ec⟩:=any_some (fj e).1
 obtain⟨o,ho,e4⟩:=any_some (fj e).2
 obtain⟨o',ho',od⟩:=Di hc
 cases ho.symm.trans ho'
 obtain⟨ec,e13⟩:=fj ec
 obtain⟨ec,e12⟩:=fj ec
 obtain⟨ec,e11⟩:=fj ec
 obtain⟨ec,e10⟩:=fj ec
 obtain⟨ec,e9⟩:=fj ec
 obtain⟨ec,e8⟩:=fj ec
 obtain⟨ec,e7⟩:=fj ec
 obtain⟨ec,e6⟩:=fj ec
 obtain⟨ec,e5⟩:=fj ec
 obtain⟨ec,e3⟩:=fj ec
 obtain⟨e1,e2⟩:=fj ec
 obtain⟨a,b,_,sl⟩:=o
 subst od
 have e5:=nb e5
 have hm:Looks M h (mroOf (.ref C)) cd.mro:=(looks_clsIn X hc).andThen .now
 obtain⟨c,l,hl⟩:∃c l,cd.mro=c::l:=by cases q:cd.mro with|nil=>rw[q]at e5;injection e5|cons c l=>exact⟨c,l,rfl⟩
 have made:Looks M h (Bind.madeBy (.ref C)) (some "Exception.__new__"):=by
  intro A Q E s k q
  unfold Bind.madeBy
  refine Kc (hm A _ E s k ?_)
  refine ab hl ?_;rw[List.forIn_cons]
  refine Kc (Kc (Kc (Kc (wpAny_loadPart (k _ _ (X _ _ ho)) (Ke ?_)))))
  dsimp only
  refine bT (Array.getElem?_toList) ?_;refine ab (beq_iff_eq.mp e4) ?_
  exact Ke (Ke (Ke q))
 have mr:∀{b:Value} {r:Bool},cd.mro.contains b=r→Looks M h (isSubtype (.ref C) b) r:=fun z=>looks_mroIn X (by unfold mroIn;refine ab hc ?_;rewrite[Option.bind_some];refine ab (Kg (It e5)) ?_;refine ab z ?_;rfl)
 refine⟨⟨a,b,cd,sl,X _ _ ho,nb e1,nb e2,e5,e3⟩,made,?_,mr e6,mr e8,mr e7,mr (nb e9),mr (nb e10),looks_specialIn X (beq_iff_eq.mp e11),looks_instIn X (beq_iff_eq.mp e12),looks_typeIn X (beq_iff_eq.mp e13)⟩
 intro A Q E s k q
 unfold Bind.staticBase
 refine Kc (hm A _ E s k ?_)
 refine ab hl ?_;rw[List.forIn_cons]
 exact Kc (Kc (Kc (made A _ E s k (Ke (Ke (Ke q))))))
noncomputable abbrev d0(rest:List Value):Obj:={ cls:=.type "tuple",data:=.seq rest.toArray }
noncomputable abbrev fP(C t:Addr):Obj:={ cls:=.ref C,data:=.fields #[.ref t,.none,.none,.none,.bool false,.none] }
section
variable {prog:Program} {w:World} {A:Around} {C:Addr} {R:Result→Shared→Prop} {h:Heap} {g:Array GenState} {d:Drawn} {t:Nat} {os:OsState}
theorem DA{α:Type}{M:Model}{E:Value→Shared→Prop}{s:Shared}{Q:α→Shared→Prop}{c:Prop}[Decidable c]{t e:Sem α}(hc:¬ c)(h:wpAny M A e Q E s):wpAny M A (ite c t e) Q E s:=(Kg hc).symm▸h
theorem Ec{rest:List Value}(Y:MakesX (model prog w) h C)(hrest:rest.length≤sizeLine)
  (hq:R (.ok (.ret (.ref (h.objs.size+1)))) ⟨(h.push (d0 rest)).push (fP C h.objs.size),g,d,t,os⟩) :
  codeAny (model prog w) A (.call (.builtin "Exception.__new__") ⟨.ref C::rest,[]⟩) R ⟨h,g,d,t,os⟩:=by
 obtain⟨⟨oc,od,cd,sl,hC,e1,e2,e4,e5⟩,made,base,self,top,exc,natt,nnam,call,typ,tt⟩:=Y
 have F:=PySem.F.excBase_Exception
 have hstar:=F.noStar
 have isty:Looks (model prog w) h (isType (.ref C)) true:=by
  unfold isType loadHead
  exact(Looks.ld hC).andThen .now
 have here:Looks (model prog w) h (Bind.madeHere "BaseException.__new__" (.ref C)) ():=base.andThen (made.andThen (Looks.of_pure (by simp only[Option.map_some,F.canon,bne_self_eq_false,Bool.false_eq_true,if_false])))
 refine codeAny_call_builtin_code (Code.quiet_builtin _ F.quiet) ?_
 unfold checkBuiltinCall
 refine ab F.newKind ?_;refine ab F.newSplit ?_
 dsimp only
 repeat (first|refine DA (fun z=>Bool.noConfusion z) ?_|lk)
 refine codeAny_builtinAt F.entry ?_
 unfold Builtin.«BaseException.__new__»
 refine PySem.wpAt_bind ?_
 refine(?_:PySem.wpAt _ _ _ (stack >>= _) _ _ _)
 refine PySem.wpAt_bind (PySem.wpAt_stack fun p below=>PySem.wpAt_of_wpAny ?_)
 dsimp only
 refine ab (Kh F.ends) ?_
 refine Ke (PySem.wpAt_of_wpAny ?_)
 refine ab F.owner ?_
 repeat (first|refine DA (fun z=>Bool.noConfusion z) ?_|lk)
 refine ab (Kg (by simpa using hrest)) ?_
 unfold newObjAsIs classHasDel
 refine Kc (wpAny_alloc (Ke (Kc ?_)))
 refine(?_:wpAny _ _ (newObjAsIs _ _ _) _ _ _)
 unfold newObjAsIs classHasDel
 refine Kc (wpAny_alloc (Kc (Kc (wpAny_load (Ku _ (Ku _ hC)) (Ke ?_)))))
 refine ab e2 ?_
 refine Ke (Ke ?_)
 refine(?_:R _ _)
 rw[Heap.size_push]
 exact hq
end
end
section
section
variable {prog:Program} {w:World} {A:Around} {C:Addr} {R:Result→Shared→Prop} {h:Heap} {g:Array GenState} {d:Drawn} {t:Nat} {os:OsState}
theorem vp{rest:List Value}{init:Value}(Y:MakesX (model prog w) h C)(hi:Looks (model prog w) h (typeLookup (.ref C) "__init__") (some init))
  (hb:∀self,Looks (model prog w) h (bindSpecial init self) (init,[self])) (hrest:rest.length≤sizeLine)
  (hq:codeAny (model prog w) (A.under (.builtin "type.__call__" ⟨.ref C::rest,[]⟩)) (.call init ⟨.ref (h.objs.size+1)::rest,[]⟩) (InitBack (h.objs.size+1) R) ⟨(h.push (d0 rest)).push (fP C h.objs.size),g,d,t,os⟩) :
  codeAny (model prog w) A (.call (.ref C) ⟨rest,[]⟩) R ⟨h,g,d,t,os⟩:=by
 have Y':=Y
 obtain⟨⟨oc,od,cd,sl,hC,e1,e2,e4,e5⟩,made,base,self,top,exc,natt,nnam,call,typ,tt⟩:=Y
 refine codeAny_of_tree ?_
 refine(?_:wpAny _ _ (callAny (.ref C) _) _ _ _)
 refine nd_load hC ?_
 refine(?_:wpAny _ _ (callAny.viaDunder (.ref C) _) _ _ _)
 unfold callAny.viaDunder
 refine Kc (call.at ?_)
 dsimp only
 rw[tc_bind]
 refine Kc (Ke (Kc (Ke ?_)))
 refine Ke (a:=Fin.again (.call (.builtin "type.__call__") ⟨.ref C::rest,[]⟩)) (And.intro rfl ?_)
 refine codeAny_call_builtin_at (Code.quiet_builtin _ (by decide +kernel)) entry_typeCall (check_slot tc_kind tc_split typ (tc_args _ _ _) ?_)
 unfold Builtin.«type.__call__»
 have hm:Looks (model prog w) h (mroOf (.ref C)) cd.mro:=((Looks.ld (part:=none) hC).andThen .now).andThen .now
 repeat (first|simp only[e4,Bool.false_eq_true,if_false]|with_reducible refine wpAny_call ?_|lk)
 refine Ec Y' hrest ?_
 have k:∀b o,h.get? b=some o→((h.push (d0 rest)).push (fP C h.objs.size)).get? b=some o:=fun b o e=>Ku _ (Ku _ e)
 have hx:((h.push (d0 rest)).push (fP C h.objs.size)).get? (h.objs.size+1)=some (fP C h.objs.size):=by heap_get
 have t1:Looks (model prog w) ((h.push (d0 rest)).push (fP C h.objs.size)) (typeOf (.ref (h.objs.size+1))) (.ref C):=(Looks.ld hx).andThen .now
 have s1:=self.keeps k
 have i1:=hi.keeps k
 have b1:=(hb (.ref (h.objs.size+1))).keeps k
 unfold isInstance callSpecial? specialOf
 repeat (first|with_reducible refine wpAny_call ?_|lk)
 refine codeAny_mono hq fun r s' z=>?_
 rcases r with e|(v|_|_|_)<;>first|exact z|exact z.elim|skip
 obtain⟨rfl,z⟩:=z
 exact Ke (Ke z)
end
end
section
theorem Bw:findCls [] (.type "Exception") (.type "type") "__init__" = some (.val (.builtin "Exception.__init__")):=by kernel_rfl
section
variable {prog:Program} {w:World} {A:Around} {E:Value→Shared→Prop} {s:Shared}
theorem z6{h:Heap}:Frag.In [] h:=fun zz zz e=>by injection e
theorem CW{pl:Sem Bool}{Q:Value×List Value→Shared→Prop}(h:Q (.builtin "Exception.__init__",[]) { s with toks:=s.toks+1 }) :
  wpAny (model prog w) A (getMethod (.type "Exception") "__init__" pl) Q E s:=by
 have X:Frag.In [] s.heap:=z6
 have hstub:opaqueClassAbove (.type "Exception")=pure none:=by unfold opaqueClassAbove;dsimp only;refine ab (show Manifest.isStub "Exception" = false by decide +kernel) ?_;rfl
 have ht:typeOf (.type "Exception")=pure (.type "type"):=kitMeta_of (by decide +kernel)
 have L0:Looks (model prog w) s.heap (typeOf (.type "Exception")) (.type "type"):=Looks.of_pure ht
 have hg:findIn [] (.type "type") "__getattribute__" = some (some (.builtin "type.__getattribute__")):=type_tga
 unfold getMethod specialOf
 refine Kc (Kc (L0.here ((looks_findIn X hg).here ?_)))
 dsimp only
 refine ab (Kh (by decide +kernel)) ?_
 refine Kc (KC (Q:=fun v=>Q (v,[])) (E:=E) ?_ (fun zz zz z=>Ke z) fun zz zz z=>z)
 have LO:Looks (model prog w) s.heap (opaqueClassAbove (.type "Exception")) none:=Looks.of_pure hstub
 refine cls_open X LO L0 hg (looks_hook X (r:=none) (by rfl)) (by show subIn [] _ _=_;rfl) Bw ?_
 exact Ke (handed_on rfl h)
theorem Bx{C x t:Addr}{rest:List Value}{oe:Obj}{vs:Array Value}(Y:MakesX (model prog w) s.heap C)(hx:s.heap.get? x=some oe)(hxc:oe.cls=.ref C)(hxd:oe.data=.fields vs)(hx0:vs[0]?=some (.ref t))(hrest:rest.length≤sizeLine){Q:Value→Shared→Prop}
  (hq:Q .none { s with heap:=(s.heap.push (d0 rest)).update x (Obj.mapFields fun a=>a.setIfInBounds 0 (.ref s.heap.objs.size)) }) :
  wpAny (model prog w) A (call (.builtin "Exception.__init__") (.ref x::rest)) Q E s:=by
 obtain⟨h,g,d,tk,os⟩:=s
 have F:=PySem.F.excBase_Exception
 obtain⟨⟨oc,od,cd,sl,hC,e1,e2,e4,e5⟩,made,base,self,top,exc,natt,nnam,_,typ,tt⟩:=Y
 dsimp only at hC hx exc hq tt
 have hT:Looks (model prog w) h (typeOf (.ref x)) (.ref C):=by refine bT hxc ?_;exact(Looks.ld hx).andThen .now
 refine wpAny_call (codeAny_call_builtin F.init.plain F.initEntry ?_)
 have hshort:=F.noStar
 unfold checkBuiltinCall
 refine ab F.initKind ?_;refine ab F.initSplit ?_
 dsimp only
 unfold isInstance
 have chk:∀(a b:String) (n:Nat),Bind.check ⟨.positional, "*", "Exception",.self,[⟨"args",.varPos,false⟩]⟩ a b n []=pure ():=fun a b n=>check_star_args _ _ _ _ _ _
 repeat (first|(with_reducible refine wpAny_onRaise ?_;simp only[List.map_nil,chk];with_reducible refine Ke ?_)|refine DA (fun z=>Bool.noConfusion z) ?_|lk)
 refine ab (Kg (by simpa using hrest)) ?_
 unfold newObjAsIs classHasDel
 refine Kc (wpAny_alloc (Ke ?_))
 have hx':=Ku (d0 rest) hx
 unfold Builtin.BaseException.bexcPut
 refine Kc (Kc (wpAny_field hx' hxd hx0 (Kc ?_)))
 have h0:0<vs.size:=by
  have:=Array.getElem?_eq_some_iff.mp hx0
  exact this.1
 refine wpAny_setField hx' hxd h0 ?_
 wp_walk
 exact hq
end
end
section
section
variable {α β γ δ:Type}
noncomputable def b1(x:Option α)(f:α→β):Option β:=match x with|some a=>some (f a)|none=>none
noncomputable def b2(x:Option α)(y:Option β)(f:α→β→γ):Option γ:=match x with|some a=>b1 y (f a)|none=>none
noncomputable def b3(x:Option α)(y:Option β)(z:Option γ)(f:α→β→γ→δ):Option δ:=match x with|some a=>b2 y z (f a)|none=>none
noncomputable def bo(x:Option α)(f:α→Option β):Option β:=match x with|some a=>f a|none=>none
noncomputable def bu(c:Bool)(x:Option α):Option α:=match c with|true=>x|false=>none
noncomputable def gW(c:Bool)(x y:Option α):Option α:=match c with|true=>x|false=>y
noncomputable def bZ(f:α→Option β):List α→Option (List β)
 |[]=>some []
 |a::l=>b2 (f a) (bZ f l) List.cons
noncomputable def one:List α→Option α
 |a::l=>match l with|[]=>some a|_=>none
 |[]=>none
noncomputable def two:List α→Option (α×α)
 |a::l=>b1 (one l) fun b=>(a,b)
 |[]=>none
inductive B1(x:Option α)(f:α→β)(c:β):Prop|mk (a:α):x=some a→c=f a→B1 x f c
inductive B2(x:Option α)(y:Option β)(f:α→β→γ)(c:γ):Prop|mk (a:α) (b:β):x=some a→y=some b→c=f a b→B2 x y f c
inductive B3(x:Option α)(y:Option β)(z:Option γ)(f:α→β→γ→δ)(d:δ):Prop|mk (a:α) (b:β) (c:γ):x=some a→y=some b→z=some c→d=f a b c→B3 x y z f d
inductive Bo(x:Option α)(f:α→Option β)(b:β):Prop|mk (a:α):x=some a→f a=some b→Bo x f b
inductive Sel(c:Bool)(x y:Option α)(a:α):Prop|t:c=true→x=some a→Sel c x y a|f:c=false→y=some a→Sel c x y a
theorem nS{a:α}{P:Prop}(h:none=some a):P:=by contradiction
theorem tF{P:Prop}(h:true=false):P:=by contradiction
theorem fT{P:Prop}(h:false=true):P:=by contradiction
theorem bX{x:Option α}{f:α→β}{c:β}(h:b1 x f=some c):B1 x f c:=match x,h with|some a,h=>⟨a,rfl,(oInj h).symm⟩
theorem dt{x:Option α}{y:Option β}{f:α→β→γ}{c:γ}(h:b2 x y f=some c):B2 x y f c:=match x,h with|some a,h=>let ⟨b,p,q⟩:=bX h;⟨a,b,rfl,p,q⟩
theorem fV{x:Option α}{y:Option β}{z:Option γ}{f:α→β→γ→δ}{d:δ}(h:b3 x y z f=some d):B3 x y z f d:=match x,h with|some a,h=>let ⟨b,c,p,q,r⟩:=dt h;⟨a,b,c,rfl,p,q,r⟩
theorem aw{x:Option α}{f:α→Option β}{b:β}(h:bo x f=some b):Bo x f b:=match x,h with|some a,h=>⟨a,rfl,h⟩
theorem aX{c:Bool}{x:Option α}{a:α}(h:bu c x=some a):c=true:=match c,h with|true,_=>rfl
theorem aO{c:Bool}{x:Option α}{a:α}(h:bu c x=some a):x=some a:=match c,h with|true,h=>h
theorem eu{c:Bool}{x y:Option α}{a:α}(h:gW c x y=some a):Sel c x y a:=match c,h with|true,h=>.t rfl h|false,h=>.f rfl h
theorem dG{l:List α}{a:α}(h:one l=some a):l=[a]:=match l,h with|[_],h=>congrArg (fun x=>[x]) (oInj h)
theorem jb{l:List α}{p:α×α}(h:two l=some p):l=[p.1,p.2]:=match l,h with
 |a::l,h=>by obtain⟨b,h1,rfl⟩:=bX h;exact congrArg (a::·) (dG h1)
theorem ak{a b:Bool}(h:(a&&b)=true):a=true:=match a,h with|true,_=>rfl
theorem aK{a b:Bool}(h:(a&&b)=true):b=true:=match a,h with|true,h=>h
theorem gH{a:Bool}(h:(!a)=true):a=false:=match a,h with|false,_=>rfl
theorem eL{l:List α}(h:l.isEmpty=true):l=[]:=match l,h with|[],_=>rfl
theorem jT{x:Option α}(h:x.isNone=true):x=none:=match x,h with|none,_=>rfl
theorem bF{f:α→Option β}{a:α}{l:List α}{r:List β}(h:bZ f (a::l)=some r):B2 (f a) (bZ f l) List.cons r:=dt h
theorem cu{f:α→Option β}{r:List β}(h:bZ f []=some r):r=[]:=(oInj h).symm
theorem gF{f:α→Option β}:∀{l:List α} {r:List β},bZ f l=some r→r.length=l.length
 |[],_,h=>congrArg List.length (cu h)
 |_::_,_,h=>by obtain⟨_,_,_,h2,rfl⟩:=bF h;exact congrArg Nat.succ (gF h2)
end
inductive V where
 |none
 |bool (b:Bool)
 |int (i:Int)
 |str (s:Nat)
 |tup (vs:List V)
 |obj (a:Nat)
 |clo (f:Nat) (C:List (Nat×Nat))
 deriving Inhabited
@[reducible] noncomputable def V.ctorIdx(x:V):Nat:=x.casesOn 0 (fun zz=>1) (fun zz=>2) (fun zz=>3) (fun zz=>4) (fun zz=>5) (fun zz zz=>6)
theorem V.obj.inj{a b:Nat}(h:V.obj a=.obj b):a=b:=by cases h;rfl
inductive AO where
 |list (vs:List V)
 |inst (c:Nat) (fs:List (Nat×V))
 |dictI (es:List (Int×V))
 |dictS (es:List (Nat×V))
 |cell (v:Option V)
 deriving Inhabited
@[reducible] noncomputable def AO.ctorIdx(x:AO):Nat:=x.casesOn (fun zz=>0) (fun zz zz=>1) (fun zz=>2) (fun zz=>3) (fun zz=>4)
noncomputable abbrev Hp:=Nat→Option AO
noncomputable abbrev Lc:=Nat→Option V
structure St where
 L:Lc
 H:Hp
noncomputable def upd{α:Type}(f:Nat→Option α)(k:Nat)(v:α):Nat→Option α:=fun j=>if j=k then some v else f j
set_option genCtorIdx true in
inductive BO where|add|sub|mul|fdiv|mod|pow
 deriving DecidableEq
set_option genCtorIdx true in
inductive CO where|eq|ne|lt|le|gt|ge|isin|notin|is|isnot
 deriving DecidableEq
structure Node where
 name:Str
 args:Arguments
 body:FuncBody
 scope:Scope
 pos:Pos
inductive PE where
 |loc (x:Nat)|cel (x:Nat)|glob (g:Nat)|fref (f:Nat)
 |int (i:Int)|str (s:Nat)|bool (b:Bool)|none
 |tup (es:List PE)|lst (es:List PE)
 |attr (e:PE) (a:Nat)
 |sub (e i:PE)
 |slc (e:PE) (lo hi:Option PE)
 |len (e:PE)|abs (e:PE)|max (a b:PE)|tupOf (e:PE)|lstOf (e:PE)
 |callg (f:Nat) (as:List PE)|new (c:Nat) (as:List PE)|callv (f:PE) (as:List PE)|mcall (o:PE) (m:Nat) (as:List PE)
 |bin (op:BO) (l r:PE)|neg (e:PE)|not (e:PE)
 |cmp (op:CO) (l r:PE)
 |cmp2 (o1 o2:CO) (a b c:PE)
 |and (es:List PE)|or (es:List PE)|ite (t a b:PE)
 |comp (elt:PE) (x:Nat) (rng:Bool) (it:PE) (cond:Option PE)
 |comp2 (elt:PE) (x:Nat) (it:PE) (y:Nat) (it2:PE)
 |lam (f:Nat) (free:List Nat) (nd:Node)
 |dict (ks:List Nat) (vs:List PE)
inductive PS where
 |asg (x:Nat) (e:PE)|asgc (x:Nat) (e:PE)
 |asgt (xs:List (Nat×Bool)) (e:PE)
 |seta (o:PE) (a:Nat) (e:PE)
 |seti (o i e:PE)
 |expr (e:PE)
 |ite (t:PE) (b o:List PS)
 |for_ (x:Nat) (cel:Bool) (rng:Bool) (it:PE) (body:List PS)
 |while_ (t:PE) (body:List PS)
 |ret (e:PE)
 |raise (c:Nat)
 |reraise
 |try_ (body:List PS) (hs:List (Nat×List PS))
 |def_ (x:Nat) (cel:Bool) (f:Nat) (free:List Nat) (nd:Node)
 |cont
inductive PBody where|st (b:List PS)|ex (e:PE)
inductive Fl where|next|cont|ret (v:V)
noncomputable def aG{α:Type}(o:Option α)(k:α→Prop):Prop:=match o with|some a=>k a|Option.none=>False
@[irreducible] noncomputable def br(b:Bool)(p q:Prop):Prop:=(b=true→p)∧(b=false→q)
theorem kf{p q:Prop}(h:br true p q):p:=by unfold br at h;exact h.1 rfl
theorem kX{p q:Prop}(h:br false p q):q:=by unfold br at h;exact h.2 rfl
mutual
noncomputable def V.eqb:V→V→Bool
 |.none,.none=>true
 |.bool a,.bool b=>a==b
 |.int a,.int b=>a==b
 |.str a,.str b=>a==b
 |.tup a,.tup b=>V.eqbs a b
 |.bool a,.int b=>(if a then 1 else 0)==b
 |.int a,.bool b=>a==(if b then 1 else 0)
 |_,_=>false
noncomputable def V.eqbs:List V→List V→Bool
 |[],[]=>true
 |x::xs,y::ys=>V.eqb x y&&V.eqbs xs ys
 |_,_=>false
end
mutual
noncomputable def V.flat:V→Nat→Bool
 |.none,_|.bool _,_|.int _,_|.str _,_=>true
 |.tup vs,n=>match n with|0=>false|n+1=>V.flats vs n
 |.obj _,_|.clo ..,_=>false
noncomputable def V.flats:List V→Nat→Bool
 |[],_=>true
 |v::vs,n=>V.flat v n&&V.flats vs n
end
noncomputable def V.int?:V→Option Int|.int i=>some i|_=>Option.none
noncomputable def V.bool?:V→Option Bool|.bool i=>some i|_=>Option.none
noncomputable def V.str?:V→Option Nat|.str i=>some i|_=>Option.none
noncomputable def V.tup?:V→Option (List V)|.tup i=>some i|_=>Option.none
noncomputable def V.obj?:V→Option Nat|.obj i=>some i|_=>Option.none
noncomputable def V.clo?:V→Option (Nat×List (Nat×Nat))|.clo f C=>some (f,C)|_=>Option.none
noncomputable def AO.list?:AO→Option (List V)|.list vs=>some vs|_=>Option.none
noncomputable def AO.inst?:AO→Option (Nat×List (Nat×V))|.inst c fs=>some (c,fs)|_=>Option.none
noncomputable def AO.dictI?:AO→Option (List (Int×V))|.dictI es=>some es|_=>Option.none
noncomputable def AO.dictS?:AO→Option (List (Nat×V))|.dictS es=>some es|_=>Option.none
noncomputable def AO.cell?:AO→Option (Option V)|.cell v=>some v|_=>Option.none
theorem xW{v:V}{p}(h:v.clo?=some p):v=.clo p.1 p.2:=by cases v<;>first|exact nS h|(obtain rfl:=oInj h;rfl)
theorem Cr{v:AO}{i}(h:v.list?=some i):v=.list i:=by cases v<;>first|exact nS h|exact congrArg _ (oInj h)
theorem um{v:AO}{p}(h:v.inst?=some p):v=.inst p.1 p.2:=by cases v<;>first|exact nS h|(obtain rfl:=oInj h;rfl)
theorem Aj{v:AO}{i}(h:v.dictI?=some i):v=.dictI i:=by cases v<;>first|exact nS h|exact congrArg _ (oInj h)
theorem Dj{v:AO}{i}(h:v.cell?=some i):v=.cell i:=by cases v<;>first|exact nS h|exact congrArg _ (oInj h)
inductive Need{α:Type}(o:Option α)(k:α→Prop):Prop|mk (a:α):o=some a→k a→Need o k
theorem nd{α:Type}{o:Option α}{k:α→Prop}(h:aG o k):Need o k:=match o,h with|some a,h=>⟨a,rfl,h⟩
noncomputable def cH(H:Hp)(v:V):Option (List V):=bo v.obj? fun a=>bo (H a) AO.list?
noncomputable def Fg(a b:V):Option Bool:=bu (V.flat a 20&&V.flat b 20) (some (V.eqb a b))
noncomputable def dI(H:Hp)(a b:V):Option Bool:=match cH H a with
 |some xs=>bo (cH H b) fun ys=>bu (V.flats xs 20&&V.flats ys 20) (some (V.eqbs xs ys))
 |Option.none=>Fg a b
noncomputable def jZ(H:Hp)(a b:V):Option Bool:=match dI H a b with
 |some t=>some t
 |Option.none=>bo (bo a.tup? two) fun p=>bo (bo b.tup? two) fun q=>b2 (dI H p.1 q.1) (dI H p.2 q.2) and
noncomputable def isNone:V→Option Bool
 |.none=>some true
 |.tup _|.int _|.str _|.obj _=>some false
 |_=>Option.none
noncomputable def nw(a b:V):Option Bool:=match b with
 |.none=>isNone a
 |_=>Option.none
noncomputable def bP(H:Hp)(v:V):Option (List V):=match v.tup? with
 |some vs=>some vs
 |Option.none=>cH H v
noncomputable def vB(H:Hp)(x c:V):Option Bool:=bo (bP H c) fun vs=>bu (V.flat x 20&&V.flats vs 20) (some (vs.any fun v=>V.eqb v x))
noncomputable def sO(f:Int→Int→Bool)(a b:V):Option Bool:=b2 a.int? b.int? f
noncomputable def di(H:Hp)(op:CO)(a b:V):Option Bool:=match op with
 |.eq=>jZ H a b
 |.ne=>b1 (jZ H a b) not
 |.lt=>sO (fun a b=>decide (a<b)) a b
 |.le=>sO (fun a b=>decide (a≤b)) a b
 |.gt=>sO (fun a b=>decide (b<a)) a b
 |.ge=>sO (fun a b=>decide (b≤a)) a b
 |.isin=>vB H a b
 |.notin=>b1 (vB H a b) not
 |.is=>nw a b
 |.isnot=>b1 (nw a b) not
noncomputable def gE:Nat:=2^24
@[irreducible] noncomputable def bJ:Nat:=2^9000
noncomputable def vk(a b:Int):Prop:=b.natAbs<2^60∨(a.natAbs<bJ∧b.natAbs<bJ)
inductive R where|val (v:V)|newl (vs:List V)
noncomputable def iP(a b:V)(k:Int→Int→Prop):Prop:=aG a.int? fun i=>aG b.int? fun j=>k i j
noncomputable def mE(H:Hp)(op:BO)(a b:V)(k:R→Prop):Prop:=match op with
 |.add=>match a.int? with
  |some _=>iP a b fun i j=>k (.val (.int (i+j)))
  |Option.none=>aG (cH H a) fun xs=>aG (cH H b) fun ys=>xs.length+ys.length≤gE∧k (.newl (xs++ys))
 |.sub=>iP a b fun i j=>k (.val (.int (i-j)))
 |.mul=>match a.int? with
  |some _=>iP a b fun i j=>vk i j∧k (.val (.int (i*j)))
  |Option.none=>aG (cH H a) fun xs=>aG (one xs) fun x=>aG b.int? fun n=>0≤n∧n<2^20∧k (.newl (List.replicate n.toNat x))
 |.fdiv=>iP a b fun i j=>j≠0∧j.natAbs<bJ∧k (.val (.int (i.fdiv j)))
 |.mod=>iP a b fun i j=>j≠0∧k (.val (.int (i.fmod j)))
 |.pow=>iP a b fun i j=>i.natAbs<2^64∧0≤j∧j≤1000000∧k (.val (.int (i^j.toNat)))
noncomputable def Bg(n:Nat):Int→Option Nat
 |.ofNat i=>bu (decide (i<n)) (some i)
 |.negSucc i=>bu (decide (i<n)) (some (n-1-i))
noncomputable def eC{K:Type}[DecidableEq K](es:List (K×V))(k:K):Option V:=(es.find? fun p=>p.1=k).map (·.2)
noncomputable def atL(vs:List V)(k:V):Option V:=bo k.int? fun i=>bo (Bg vs.length i) fun j=>vs[j]?
noncomputable def HQ(k:V):AO→Option V
 |.list vs=>atL vs k
 |.dictS es=>bo k.str? (eC es)
 |.dictI es=>bo k.int? (eC es)
 |_=>Option.none
noncomputable def bA(H:Hp)(c k:V):Option V:=match c with
 |.tup vs=>atL vs k
 |.obj a=>bo (H a) (HQ k)
 |_=>Option.none
noncomputable def jH{K:Type}[DecidableEq K](es:List (K×V))(k:K)(v:V):List (K×V):=match es with
 |[]=>[(k,v)]
 |p::r=>if p.1=k then (p.1,v)::r else p::jH r k v
noncomputable def Hw(i:Int)(v:V):AO→Option AO
 |.list vs=>bu (decide (0≤i)&&decide (i<vs.length)) (some (.list (vs.set i.toNat v)))
 |.dictI es=>bu (decide (es.length≤1000)) (some (.dictI (jH es i v)))
 |_=>Option.none
noncomputable def qT(H:Hp)(c k v:V):Option Hp:=bo c.obj? fun a=>bo k.int? fun i=>bo (H a) fun o=>b1 (Hw i v o) (upd H a)
noncomputable def sQ(n:Nat)(d:Nat):Option V→Option Nat
 |Option.none=>some d
 |some v=>b1 v.int? (clipAt n)
noncomputable def jD(vs:List V)(lo hi:Option V):Option (List V):=b2 (sQ vs.length 0 lo) (sQ vs.length vs.length hi) fun a b=>(vs.take b).drop a
noncomputable def cN(fs:List (Nat×V))(a:Nat):Option V:=(fs.find? fun p=>p.1==a).map (·.2)
noncomputable def kz(fs:List (Nat×V))(a:Nat)(v:V):List (Nat×V):=match fs with
 |[]=>[(a,v)]
 |p::r=>if p.1==a then (p.1,v)::r else p::kz r a v
noncomputable def se(H:Hp)(o:V)(a:Nat):Option V:=bo o.obj? fun x=>bo (H x) fun o=>bo o.inst? fun p=>cN p.2 a
noncomputable def rN(H:Hp)(v:V):Option Int:=b1 (bP H v) fun vs=>vs.length
noncomputable def gG(H:Hp)(v:V):Option Bool:=match v.bool? with
 |some b=>some b
 |Option.none=>b1 (cH H v) fun vs=>!vs.isEmpty
end
section
noncomputable abbrev du:=V→List V→Hp→(V→Hp→Prop)→(Nat→Hp→Prop)→Prop
structure ClsInfo where
 init:Nat
 meths:List (Nat×Nat)
structure Cx where
 C:List (Nat×Nat)
 K:du
 KH:du
 hc:Option Nat
 GC:Nat→Option V
 CI:Nat→Option ClsInfo
 mth:Nat×Nat×Nat×Nat
 attrs:List Nat
 LN:Nat→Option (List Nat×Node)
noncomputable def Cx.call(c:Cx):du:=match c.hc with|Option.none=>c.K|some _=>c.KH
noncomputable def Cx.cellOf(c:Cx)(x:Nat):Option Nat:=c.C.lookup x
noncomputable def Cx.free(c:Cx):List Nat→Option (List (Nat×Nat))
 |[]=>some []
 |x::xs=>b2 (c.cellOf x) (c.free xs) fun a r=>(x,a)::r
inductive Callee where
 |app (a:Nat)|pop (a:Nat)|ext (a:Nat)|get (a:Nat)
 |fn (f:Nat) (C:List (Nat×Nat)) (first:List V)
noncomputable def vb(c:Cx)(a m:Nat):AO→Option Callee
 |.list _=>gW (m==c.mth.1) (some (.app a)) (gW (m==c.mth.2.1) (some (.pop a)) (bu (m==c.mth.2.2.1) (some (.ext a))))
 |.dictI _=>bu (m==c.mth.2.2.2) (some (.get a))
 |.inst k fs=>match cN fs m with
  |some v=>b1 v.clo? fun p=>.fn p.1 p.2 []
  |Option.none=>bo (c.CI k) fun ci=>b1 (ci.meths.lookup m) fun f=>.fn f [] [.obj a]
 |_=>Option.none
noncomputable def gj(c:Cx)(H:Hp)(o:V)(m:Nat):Option Callee:=bo o.obj? fun a=>bo (H a) (vb c a m)
noncomputable def lw(L:Lc)(Q:V→St→Prop):V→Hp→Prop:=fun v H=>Q v ⟨L,H⟩
noncomputable def lq(L:Lc)(X:Nat→St→Prop):Nat→Hp→Prop:=fun c H=>X c ⟨L,H⟩
noncomputable def fresh(σ:St)(o:AO)(Q:V→St→Prop):Prop:=∀a,σ.H a=Option.none→Q (.obj a) ⟨σ.L,upd σ.H a o⟩
noncomputable def jw(c:Cx)(cal:Callee)(vs:List V)(σ:St)(Q:V→St→Prop)(X:Nat→St→Prop):Prop:=match cal with
 |.app a=>aG (one vs) fun v=>aG (cH σ.H (.obj a)) fun xs=>xs.length<gE∧Q .none ⟨σ.L,upd σ.H a (.list (xs++[v]))⟩
 |.pop a=>vs=[]∧aG (cH σ.H (.obj a)) fun xs=>aG xs.getLast? fun v=>Q v ⟨σ.L,upd σ.H a (.list xs.dropLast)⟩
 |.ext a=>aG (one vs) fun w=>aG (cH σ.H (.obj a)) fun xs=>aG (cH σ.H w) fun ys=>xs.length+ys.length≤gE∧(∀b,w=.obj b→b≠a)∧Q .none ⟨σ.L,upd σ.H a (.list (xs++ys))⟩
 |.get a=>aG (two vs) fun p=>aG p.1.int? fun k=>aG (bo (σ.H a) AO.dictI?) fun es=>Q ((eC es k).getD p.2) σ
 |.fn f C first=>c.call (.clo f C) (first++vs) σ.H (lw σ.L Q) (lq σ.L X)
noncomputable def mF(σ:St)(Q:V→St→Prop):R→Prop
 |.val v=>Q v σ
 |.newl vs=>fresh σ (.list vs) Q
noncomputable def cV(src:V)(items:List V)(H:Hp):Prop:=match src with
 |.obj a=>H a=some (.list items)
 |_=>True
noncomputable def iB(rng:Bool)(H:Hp)(v:V):Option (List V):=match rng with
 |true=>b1 v.int? fun n=>(List.range n.toNat).map fun i:Nat=>V.int (i:Int)
 |false=>bP H v
noncomputable def iA(rng:Bool)(v:V):Prop:=match rng with
 |true=>aG v.int? fun n=>0≤n∧n≤2^20
 |false=>True
noncomputable def dB(src:V)(all:List V)(E:V→St→(Option V→St→Prop)→Prop):List V→List V→St→(List V→St→Prop)→Prop
 |[],acc,σ,K=>K acc σ
 |v::vs,acc,σ,K=>E v σ fun o σ'=>acc.length<gE∧cV src all σ'.H∧dB src all E vs (acc++o.toList) σ' K
noncomputable def dg(src:V)(all:List V)(E:V→List V→St→(List V→St→Prop)→Prop):List V→List V→St→(List V→St→Prop)→Prop
 |[],acc,σ,K=>K acc σ
 |v::vs,acc,σ,K=>E v acc σ fun acc' σ'=>cV src all σ'.H∧dg src all E vs acc' σ' K
noncomputable def jW(src:V)(all:List V)(B:V→St→(Fl→St→Prop)→Prop):List V→St→(Fl→St→Prop)→Prop
 |[],σ,Q=>Q .next σ
 |v::vs,σ,Q=>B v σ fun fl σ'=>match fl with
  |.ret u=>Q (.ret u) σ'
  |_=>cV src all σ'.H∧jW src all B vs σ' Q
noncomputable def qC(T:St→(Bool→St→Prop)→Prop)(B:St→(Fl→St→Prop)→Prop)(σ:St)(Q:Fl→St→Prop):Prop :=
 ∃(I:Nat→St→Prop) (n:Nat),I n σ∧∀n σ,I n σ→T σ fun b σ1=>br b
  (B σ1 fun fl σ2=>match fl with|.ret u=>Q (.ret u) σ2|_=>∃m,m<n∧I m σ2) (Q .next σ1)
noncomputable def noL:Lc:=fun zz=>Option.none
noncomputable def fX:Nat→St→Prop:=fun zz zz=>False
noncomputable abbrev WP(β:Type):=St→(β→St→Prop)→(Nat→St→Prop)→Prop
section
variable (Q:V→St→Prop) (X:Nat→St→Prop) (σ:St) (v:V) (c:Cx)
noncomputable abbrev kV:V→Prop:=fun u=>Q u σ
noncomputable abbrev kI:Int→Prop:=fun n=>Q (.int n) σ
noncomputable abbrev kB:Bool→Prop:=fun t=>Q (.bool t) σ
noncomputable abbrev kT(Q:Bool→St→Prop):Bool→Prop:=fun t=>Q t σ
noncomputable abbrev HN:Option V→Prop:=fun w=>aG w (kV Q σ)
noncomputable abbrev GG:Nat→Prop:=fun a=>aG (bo (σ.H a) AO.cell?) (HN Q σ)
noncomputable abbrev Et:List V→St→Prop:=fun vs σ=>Q (.tup vs) σ
noncomputable abbrev EF:List V→St→Prop:=fun vs σ=>fresh σ (.list vs) Q
noncomputable abbrev Bc(a:Nat):V→St→Prop:=fun v σ=>aG (se σ.H v a) (kV Q σ)
noncomputable abbrev Gz:V→St→Prop:=fun k σ=>aG (bA σ.H v k) (kV Q σ)
noncomputable abbrev Eu(f:WP V):V→St→Prop:=fun v σ=>f σ (Gz Q v) X
noncomputable abbrev GA(l:Option V):Option V→St→Prop:=fun h σ=>aG (bP σ.H v) fun vs=>aG (jD vs l h) fun ws=>match v.tup? with
 |some _=>l.isNone=true∧Q (.tup ws) σ
 |Option.none=>fresh σ (.list ws) Q
noncomputable abbrev GB(g:WP (Option V)):Option V→St→Prop:=fun l σ=>g σ (GA Q v l) X
noncomputable abbrev Ev(f g:WP (Option V)):V→St→Prop:=fun v σ=>f σ (GB Q X v g) X
noncomputable abbrev EG:V→St→Prop:=fun v σ=>aG (rN σ.H v) (kI Q σ)
noncomputable abbrev HP:V→St→Prop:=fun v σ=>aG v.int? fun i=>Q (.int i.natAbs) σ
noncomputable abbrev GE:V→St→Prop:=fun w σ=>iP v w fun i j=>Q (.int (if i<j then j else i)) σ
noncomputable abbrev HK(f:WP V):V→St→Prop:=fun v σ=>f σ (GE Q v) X
noncomputable abbrev xn:V→St→Prop:=fun v σ=>aG (bP σ.H v) fun vs=>Q (.tup vs) σ
noncomputable abbrev xo:V→St→Prop:=fun v σ=>aG (bP σ.H v) fun vs=>fresh σ (.list vs) Q
noncomputable abbrev vx(f:V):List V→St→Prop:=fun vs σ=>c.call f vs σ.H (lw σ.L Q) (lq σ.L X)
noncomputable abbrev EE(k:Nat):List V→St→Prop:=fun vs σ=>aG (c.CI k) fun ci=>∀a,σ.H a=Option.none →
   c.call (.clo ci.init []) (.obj a::vs) (upd σ.H a (.inst k [])) (fun v H=>v=.none∧Q (.obj a) ⟨σ.L,H⟩) (lq σ.L X)
noncomputable abbrev EJ(f:WP (List V)):V→St→Prop:=fun fv σ=>aG fv.clo? fun p=>f σ (vx Q X c (.clo p.1 p.2)) X
noncomputable abbrev HI(cal:Callee):List V→St→Prop:=fun vs σ=>jw c cal vs σ Q X
noncomputable abbrev HJ(f:WP (List V)):Callee→Prop:=fun cal=>f σ (HI Q X c cal) X
noncomputable abbrev Ho(m:Nat)(f:WP (List V)):V→St→Prop:=fun ov σ=>aG (gj c σ.H ov m) (HJ Q X σ c f)
noncomputable abbrev GH(op:BO):V→St→Prop:=fun b σ=>mE σ.H op v b (mF σ Q)
noncomputable abbrev EK(op:BO)(f:WP V):V→St→Prop:=fun a σ=>f σ (GH Q a op) X
noncomputable abbrev HH:V→St→Prop:=fun v σ=>aG v.int? fun i=>Q (.int (-i)) σ
noncomputable abbrev HG:V→St→Prop:=fun v σ=>aG (gG σ.H v) fun b=>Q (.bool (!b)) σ
noncomputable abbrev Bb(op:CO):V→St→Prop:=fun b σ=>aG (di σ.H op v b) (kB Q σ)
noncomputable abbrev EI(op:CO)(f:WP V):V→St→Prop:=fun a σ=>f σ (Bb Q a op) X
noncomputable abbrev HL(o2:CO)(f:WP V):Bool→Prop:=fun t=>br t (f σ (Bb Q v o2) X) (Q (.bool false) σ)
noncomputable abbrev HM(o1 o2:CO)(f:WP V):V→St→Prop:=fun b σ=>aG (di σ.H o1 v b) (HL Q X σ b o2 f)
noncomputable abbrev Hr(o1 o2:CO)(g f:WP V):V→St→Prop:=fun a σ=>g σ (HM Q X a o1 o2 f) X
noncomputable abbrev vw{β:Type}(Q:β→St→Prop)(f g:WP β):Bool→St→Prop:=fun v σ=>br v (f σ Q X) (g σ Q X)
noncomputable abbrev GF(Q:List V→St→Prop):List V→St→Prop:=fun vs σ=>Q (v::vs) σ
noncomputable abbrev Hq(Q:List V→St→Prop)(f:WP (List V)):V→St→Prop:=fun v σ=>f σ (GF v Q) X
noncomputable abbrev A8(Q:Option V→St→Prop):V→St→Prop:=fun v σ=>Q (some v) σ
noncomputable abbrev HO(a:Bool)(f:WP V):Bool→Prop:=fun t=>br (t==a) (f σ Q X) (Q v σ)
noncomputable abbrev Ih(a:Bool)(f:WP V):V→St→Prop:=fun v σ=>aG (gG σ.H v) (HO Q X σ v a f)
noncomputable abbrev Hn(Q:Bool→St→Prop):Bool→St→Prop:=fun b σ=>Q (!b) σ
noncomputable abbrev A7(Q:Bool→St→Prop):V→St→Prop:=fun v σ=>aG (gG σ.H v) (kT σ Q)
noncomputable abbrev Hs(Q:Bool→St→Prop)(a:Bool)(f:WP Bool):Bool→St→Prop:=fun t σ=>br (t==a) (f σ Q X) (Q t σ)
noncomputable abbrev kW(f:WP V):(V→St→Prop)→Prop:=fun Q=>f σ Q X
end
mutual
noncomputable def wE:PE→Cx→St→(V→St→Prop)→(Nat→St→Prop)→Prop
 |.loc x,_,σ,Q,_=>aG (σ.L x) (kV Q σ)
 |.cel x,c,σ,Q,_=>aG (c.cellOf x) (GG Q σ)
 |.glob g,c,σ,Q,_=>aG (c.GC g) (kV Q σ)
 |.fref f,_,σ,Q,_=>Q (.clo f []) σ
 |.int i,_,σ,Q,_=>Q (.int i) σ
 |.str s,_,σ,Q,_=>Q (.str s) σ
 |.bool b,_,σ,Q,_=>Q (.bool b) σ
 |.none,_,σ,Q,_=>Q .none σ
 |.tup es,c,σ,Q,X=>wEs es c σ (Et Q) X
 |.lst es,c,σ,Q,X=>wEs es c σ (EF Q) X
 |.attr e a,c,σ,Q,X=>wE e c σ (Bc Q a) X
 |.sub e i,c,σ,Q,X=>wE e c σ (Eu Q X (wE i c)) X
 |.slc e lo hi,c,σ,Q,X=>wE e c σ (Ev Q X (wO lo c) (wO hi c)) X
 |.len e,c,σ,Q,X=>wE e c σ (EG Q) X
 |.abs e,c,σ,Q,X=>wE e c σ (HP Q) X
 |.max a b,c,σ,Q,X=>c.hc=Option.none∧wE a c σ (HK Q X (wE b c)) X
 |.tupOf e,c,σ,Q,X=>wE e c σ (xn Q) X
 |.lstOf e,c,σ,Q,X=>wE e c σ (xo Q) X
 |.callg f as,c,σ,Q,X=>wEs as c σ (vx Q X c (.clo f [])) X
 |.new k as,c,σ,Q,X=>wEs as c σ (EE Q X c k) X
 |.callv f as,c,σ,Q,X=>wE f c σ (EJ Q X c (wEs as c)) X
 |.mcall o m as,c,σ,Q,X=>wE o c σ (Ho Q X c m (wEs as c)) X
 |.bin op l r,c,σ,Q,X=>wE l c σ (EK Q X op (wE r c)) X
 |.neg e,c,σ,Q,X=>wE e c σ (HH Q) X
 |.not e,c,σ,Q,X=>wE e c σ (HG Q) X
 |.cmp op l r,c,σ,Q,X=>wE l c σ (EI Q X op (wE r c)) X
 |.cmp2 o1 o2 x y z,c,σ,Q,X=>wE x c σ (Hr Q X o1 o2 (wE y c) (wE z c)) X
 |.and es,c,σ,Q,X=>wB true es c σ Q X
 |.or es,c,σ,Q,X=>wB false es c σ Q X
 |.ite t a b,c,σ,Q,X=>wT t (kW X σ (wE t c)) c σ (vw X Q (wE a c) (wE b c)) X
 |.comp elt x rng it cond,c,σ,Q,X=>wE it c σ (fun v σ=>c.hc=Option.none∧iA rng v∧aG (iB rng σ.H v) fun vs =>
   dB v vs (fun u τ K=>wC cond c ⟨upd noL x u,τ.H⟩ (fun b τ1=>br b (wE elt c τ1 (fun w τ2=>K (some w) ⟨τ.L,τ2.H⟩) fX) (K Option.none ⟨τ.L,τ1.H⟩)) fX)
    vs [] σ fun ws τ=>fresh τ (.list ws) Q) X
 |.comp2 elt x it y it2,c,σ,Q,X=>wE it c σ (fun v σ=>c.hc=Option.none∧aG (bP σ.H v) fun vs =>
   dg v vs (fun u acc τ K=>wE it2 c ⟨upd noL x u,τ.H⟩ (fun v2 τ1=>aG (bP τ1.H v2) fun vs2 =>
     dB v2 vs2 (fun u2 τ2 K2=>wE elt c ⟨upd τ2.L y u2,τ2.H⟩ (fun w τ3=>K2 (some w) ⟨τ3.L,τ3.H⟩) fX) vs2 acc τ1 fun acc' τ4=>K acc' ⟨τ.L,τ4.H⟩) fX)
    vs [] σ fun ws τ=>fresh τ (.list ws) Q) X
 |.lam f fr nd,c,σ,Q,_=>c.LN f=some (fr,nd)∧aG (c.free fr) fun C=>Q (.clo f C) σ
 |.dict ks vs,c,σ,Q,X=>match ks with
  |[]=>fresh σ (.dictI []) Q
  |_=>wEs vs c σ (fun ws σ=>ks.length=ws.length∧ks.Nodup∧ks.length≤15∧fresh σ (.dictS (ks.zip ws)) Q) X
noncomputable def wEs:List PE→Cx→St→(List V→St→Prop)→(Nat→St→Prop)→Prop
 |[],_,σ,Q,_=>Q [] σ
 |e::es,c,σ,Q,X=>wE e c σ (Hq X Q (wEs es c)) X
noncomputable def wO:Option PE→Cx→St→(Option V→St→Prop)→(Nat→St→Prop)→Prop
 |Option.none,_,σ,Q,_=>Q Option.none σ
 |some e,c,σ,Q,X=>wE e c σ (A8 Q) X
noncomputable def wC:Option PE→Cx→St→(Bool→St→Prop)→(Nat→St→Prop)→Prop
 |Option.none,_,σ,Q,_=>Q true σ
 |some e,c,σ,Q,X=>wT e (kW X σ (wE e c)) c σ Q X
noncomputable def wB:Bool→List PE→Cx→St→(V→St→Prop)→(Nat→St→Prop)→Prop
 |_,[],_,_,_,_=>False
 |a,e::es,c,σ,Q,X=>match es with
  |[]=>wE e c σ Q X
  |_=>wE e c σ (Ih Q X a (wB a es c)) X
noncomputable def wT:PE→((V→St→Prop)→Prop)→Cx→St→(Bool→St→Prop)→(Nat→St→Prop)→Prop
 |.not e,_,c,σ,Q,X=>wT e (kW X σ (wE e c)) c σ (Hn Q) X
 |.and es,_,c,σ,Q,X=>wA true es c σ Q X
 |.or es,_,c,σ,Q,X=>wA false es c σ Q X
 |.ite t a b,_,c,σ,Q,X=>wT t (kW X σ (wE t c)) c σ (fun v σ=>br v (wT a (kW X σ (wE a c)) c σ Q X) (wT b (kW X σ (wE b c)) c σ Q X)) X
 |_,W,_,_,Q,_=>W (A7 Q)
noncomputable def wA:Bool→List PE→Cx→St→(Bool→St→Prop)→(Nat→St→Prop)→Prop
 |a,[],_,σ,Q,_=>Q a σ
 |a,e::es,c,σ,Q,X=>wT e (kW X σ (wE e c)) c σ (Hs X Q a (wA a es c)) X
end
noncomputable def dm(c:Cx)(x:Nat)(cel:Bool)(v:V)(σ:St)(Q:St→Prop):Prop:=match cel with
 |false=>Q ⟨upd σ.L x v,σ.H⟩
 |true=>aG (c.cellOf x) fun a=>aG (bo (σ.H a) AO.cell?) fun zz=>Q ⟨σ.L,upd σ.H a (.cell (some v))⟩
noncomputable def ig(c:Cx):List (Nat×Bool)→List V→St→(St→Prop)→Prop
 |[],[],σ,Q=>Q σ
 |p::ps,v::vs,σ,Q=>dm c p.1 p.2 v σ fun σ=>ig c ps vs σ Q
 |_,_,_,_=>False
noncomputable def hE(k:Nat):Bool:=k==2||k==3||k==4
section
variable (Q:Fl→St→Prop) (X:Nat→St→Prop) (σ:St) (v:V) (c:Cx)
noncomputable abbrev EL(x:Nat):V→St→Prop:=fun v σ=>Q .next ⟨upd σ.L x v,σ.H⟩
noncomputable abbrev Be(x:Nat):V→St→Prop:=fun v σ=>dm c x true v σ (Q .next)
noncomputable abbrev Bd(xs:List (Nat×Bool)):V→St→Prop:=fun v σ=>aG v.tup? fun vs=>ig c xs vs σ (Q .next)
noncomputable abbrev EA(a x:Nat):Nat×List (Nat×V)→Prop:=fun p=>p.2.length≤100∧a∈c.attrs∧Q .next ⟨σ.L,upd σ.H x (.inst p.1 (kz p.2 a v))⟩
noncomputable abbrev EB(a:Nat):V→St→Prop:=fun ov σ=>aG ov.obj? fun x=>aG (bo (σ.H x) AO.inst?) (EA Q σ v c a x)
noncomputable abbrev GD(a:Nat)(f:WP V):V→St→Prop:=fun v σ=>f σ (EB Q v c a) X
noncomputable abbrev Ew:Hp→Prop:=fun H=>Q .next ⟨σ.L,H⟩
noncomputable abbrev Ey(ov:V):V→St→Prop:=fun k σ=>aG (qT σ.H ov k v) (Ew Q σ)
noncomputable abbrev Ez(g:WP V):V→St→Prop:=fun ov σ=>g σ (Ey Q v ov) X
noncomputable abbrev A9(f g:WP V):V→St→Prop:=fun v σ=>f σ (Ez Q X v g) X
noncomputable abbrev Ba:V→St→Prop:=fun zz σ=>Q .next σ
noncomputable abbrev ED:V→St→Prop:=fun v σ=>Q (.ret v) σ
noncomputable abbrev EC(f:WP Fl):Fl→St→Prop:=fun fl σ=>match fl with|.next=>f σ Q X|fl=>Q fl σ
noncomputable abbrev Gy(x:Nat)(cel:Bool)(f:WP Fl):V→St→(Fl→St→Prop)→Prop:=fun u τ K=>dm c x cel u τ fun τ=>f τ K X
noncomputable abbrev EH(x:Nat)(cel rng:Bool)(f:WP Fl):V→St→Prop:=fun v σ=>c.hc=Option.none∧iA rng v∧aG (iB rng σ.H v) fun vs=>jW v vs (Gy X c x cel f) vs σ Q
end
mutual
noncomputable def wS:PS→Cx→St→(Fl→St→Prop)→(Nat→St→Prop)→Prop
 |.asg x e,c,σ,Q,X=>wE e c σ (EL Q x) X
 |.asgc x e,c,σ,Q,X=>wE e c σ (Be Q c x) X
 |.asgt xs e,c,σ,Q,X=>c.hc=Option.none∧wE e c σ (Bd Q c xs) X
 |.seta o a e,c,σ,Q,X=>wE e c σ (GD Q X c a (wE o c)) X
 |.seti o i e,c,σ,Q,X=>wE e c σ (A9 Q X (wE o c) (wE i c)) X
 |.expr e,c,σ,Q,X=>wE e c σ (Ba Q) X
 |.ite t b o,c,σ,Q,X=>wT t (kW X σ (wE t c)) c σ (vw X Q (wSs b c) (wSs o c)) X
 |.for_ x cel rng it body,c,σ,Q,X=>wE it c σ (EH Q X c x cel rng (wSs body c)) X
 |.while_ t body,c,σ,Q,X=>c.hc=Option.none∧qC (fun τ K=>wT t (kW X τ (wE t c)) c τ K X) (fun τ K=>wSs body c τ K X) σ Q
 |.ret e,c,σ,Q,X=>wE e c σ (ED Q) X
 |.raise k,c,σ,_,X=>c.hc=Option.none∧hE k=true∧X k σ
 |.reraise,c,σ,_,X=>aG c.hc fun k=>k<1000∧X k σ
 |.try_ body hs,c,σ,Q,X=>c.hc=Option.none∧wSs body c σ Q fun k τ=>hE k=true∧wHs hs c k τ Q X
 |.def_ x cel f fr nd,c,σ,Q,_=>c.hc=Option.none∧c.LN f=some (fr,nd)∧aG (c.free fr) fun C=>dm c x cel (.clo f C) σ (Q .next)
 |.cont,_,σ,Q,_=>Q .cont σ
noncomputable def wSs:List PS→Cx→St→(Fl→St→Prop)→(Nat→St→Prop)→Prop
 |[],_,σ,Q,_=>Q .next σ
 |s::ss,c,σ,Q,X=>wS s c σ (EC Q X (wSs ss c)) X
noncomputable def wHs:List (Nat×List PS)→Cx→Nat→St→(Fl→St→Prop)→(Nat→St→Prop)→Prop
 |[],_,k,σ,_,X=>X k σ
 |h::hs,c,k,σ,Q,X=>wH h hs c k σ Q X (wHs hs c k σ Q X)
noncomputable def wH:Nat×List PS→List (Nat×List PS)→Cx→Nat→St→(Fl→St→Prop)→(Nat→St→Prop)→Prop→Prop
 |⟨j,body⟩,_,c,k,σ,Q,X,other=>hE j=true∧(j=k→wSs body { c with hc:=some k } σ Q X)∧(j≠k→other)
end
end
section
structure FA where
 params:List Nat
 dflts:List V
 body:PBody
 cells:List Nat
 LN:Nat→Option (List Nat×Node)
structure Tab where
 fn:Nat→Option FA
 GC:Nat→Option V
 CI:Nat→Option ClsInfo
 mth:Nat×Nat×Nat×Nat
 attrs:List Nat
noncomputable def im(b:Nat→Option V):List (Nat×Nat)→Hp→Hp
 |[],H=>H
 |p::r,H=>im b r (upd H p.2 (.cell (b p.1)))
noncomputable def dh(fa:FA)(vs:List V):List V:=vs++fa.dflts.drop (vs.length+fa.dflts.length-fa.params.length)
noncomputable def sx(fa:FA)(vs:List V):Prop:=vs.length≤fa.params.length∧fa.params.length≤vs.length+fa.dflts.length
noncomputable def eD(fa:FA)(vs:List V):Lc:=fun x=>if x∈fa.cells then none else (fa.params.zip (dh fa vs)).lookup x
noncomputable def qG(fa:FA)(C:List (Nat×Nat))(vs:List V)(H:Hp)(P:List (Nat×Nat)→St→Prop):Prop:=sx fa vs∧match fa.cells with
 |[]=>P C ⟨eD fa vs,H⟩
 |cs=>∀as:List Nat,as.length=cs.length→as.Nodup→(∀a∈as,H a=none)→P (cs.zip as) ⟨eD fa vs,im (fun x=>(fa.params.zip (dh fa vs)).lookup x) (cs.zip as) H⟩
noncomputable def uL(b:PBody)(c:Cx)(σ:St)(Q:V→Hp→Prop)(E:Nat→Hp→Prop):Prop:=match b with
 |.st b=>wSs b c σ (fun fl σ'=>match fl with|.ret v=>Q v σ'.H|.next=>Q .none σ'.H|.cont=>False) fun k σ'=>E k σ'.H
 |.ex e=>wE e c σ (fun v σ'=>Q v σ'.H) fun k σ'=>E k σ'.H
noncomputable def bv(T:Tab)(K KH:du)(hd:Bool)(C:List (Nat×Nat))(LN:Nat→Option (List Nat×Node)):Cx :=
 {C:=C,K:=K,KH:=KH,hc:=if hd then some 1000 else none,GC:=T.GC,CI:=T.CI,mth:=T.mth,attrs:=T.attrs,LN:=LN }
noncomputable def AC(T:Tab):Nat→Bool→du
 |0,_=>fun zz zz zz zz zz=>False
 |n+1,hd=>fun f vs H Q E=>match f with
  |.clo g C=>aG (T.fn g) fun fa=>qG fa C vs H fun C' σ=>uL fa.body (bv T (AC T n false) (AC T n true) hd C' fa.LN) σ Q E
  |_=>False
end
section
inductive GK where|const (g:Nat)|fn (f:Nat)|cls (k:Nat)
set_option genInjectivity false in
structure FnInfo where
 args:Arguments
 body:FuncBody
 scope:Scope
 qual:Str
 params:List Nat
 dflts:List V
 pbody:PBody
 cells:List Nat
 free:List Nat
 tab:Option Addr
set_option genInjectivity false in
structure Wd where
 prog:Program
 w:World
 nm:Nat→Str
 inj:∀i j,nm i=nm j→i=j
 nmOk:∀i,PyData.strOk (nm i)=true
 K:Frag
 mg:Str→Option Value
 mb:Str→Option Value
 clsA:Nat→Option Addr
 glob:Str→Option GK
 FI:Nat→Option FnInfo
 GC:Nat→Option V
 CI:Nat→Option ClsInfo
 mth:Nat×Nat×Nat×Nat
 attrs:List Nat
 tabs:List (Addr×Addr)
 pq:Pos→Str
 os0:OsState
noncomputable def dO(o:Obj):Prop:=(o.cls=.type "tuple" ∧ ∃its n,o.data=.seq its n)∨(∃fd,o.data=.func fd)∨(o.cls=.type "code" ∧ ∃vs,o.data=.fields vs)
theorem df{o:Obj}{es n}(e:o.data=.dict es n):¬ dO o:=by
 rintro (⟨_,_,_,q⟩|⟨_,q⟩|⟨_,_,q⟩)<;>injection e.symm.trans q
theorem rZ{o:Obj}{v}(e:o.data=.cell v):¬ dO o:=by
 rintro (⟨_,_,_,q⟩|⟨_,q⟩|⟨_,_,q⟩)<;>injection e.symm.trans q
theorem xy{o:Obj}(e:o.data=.plain):¬ dO o:=by
 rintro (⟨_,_,_,q⟩|⟨_,q⟩|⟨_,_,q⟩)<;>injection e.symm.trans q
theorem gy{o:Obj}{its n}(c:o.cls=.type "list")(e:o.data=.seq its n):¬ dO o:=by
 rintro (⟨q,_⟩|⟨_,q⟩|⟨_,_,q⟩)
 ·exact absurd (Value.type.inj (c.symm.trans q)) (by decide)
 ·injection e.symm.trans q
 ·injection e.symm.trans q
theorem cF{o:Obj}{vs}(c:o.cls≠.type "code")(e:o.data=.fields vs):¬ dO o:=by
 rintro (⟨_,_,_,q⟩|⟨_,q⟩|⟨q,_⟩)
 ·injection e.symm.trans q
 ·injection e.symm.trans q
 ·exact c q
noncomputable def Keep(h h':Heap):Prop:=∀b o,h.get? b=some o→dO o→h'.get? b=some o
theorem Keep.refl(h:Heap):Keep h h:=fun zz zz e zz=>e
theorem Keep.trans{a b c:Heap}(x:Keep a b)(y:Keep b c):Keep a c:=fun p o e i=>y p o (x p o e i) i
noncomputable def Sub(h h':Heap):Prop:=∀b o,h.get? b=some o→h'.get? b=some o
theorem Sub.refl(h:Heap):Sub h h:=fun zz zz e=>e
theorem Sub.trans{a b c:Heap}(x:Sub a b)(y:Sub b c):Sub a c:=fun p o e=>y p o (x p o e)
theorem Sub.push(h:Heap)(o:Obj):Sub h (h.push o):=fun zz zz e=>Ku o e
theorem Sub.keep{h h':Heap}(x:Sub h h'):Keep h h':=fun p o e zz=>x p o e
theorem fF{h h':Heap}(k:Keep h h'){a:Addr}{its:Array Value}(x:IsTup h a its):IsTup h' a its:=by
 obtain⟨o,e,c,n,r⟩:=x
 exact⟨o,k _ _ e (.inl ⟨c,_,n,r⟩),c,n,r⟩
inductive CodeIs(h:Heap)(q:Str)(cv:Value):Prop|mk (c:Addr) (o:Obj) (vs:Array Value) (t:Tok):cv=.ref c→h.get? c=some o→o.cls=.type "code" → o.data=.fields vs→vs[1]?=some (.str q t)→CodeIs h q cv
theorem CodeIs.keeps{h h':Heap}{q:Str}{cv:Value}(k:Keep h h')(x:CodeIs h q cv):CodeIs h' q cv:=by
 obtain⟨c,o,vs,t,a,b,d,e,f⟩:=x
 exact⟨c,o,vs,t,a,k _ _ b (.inr (.inr ⟨d,_,e⟩)),d,e,f⟩
theorem CodeIs.rec_{h:Heap}{q:Str}{cv:Value}(x:CodeIs h q cv):h.CodeRec cv q:=by
 obtain⟨c,o,vs,t,a,b,_,d,r⟩:=x
 exact⟨c,o,vs,t,a,b,d,r⟩
variable (wd:Wd)
structure FnAt(h:Heap)(f:Nat)(C:List (Nat×Nat))(fi:FnInfo)(fd:FuncData)(dv:List Value):Prop where
 hfi:wd.FI f=some fi
 params:fd.params=fi.args
 body:fd.body=fi.body
 scope:fd.scope=fi.scope
 globals:fd.globals=mainGlobals
 builtins:fd.builtins=builtinsNs
 qual:fd.qualname=fi.qual
 closure:∀x∈fi.free,∃a,C.lookup x=some a∧fd.closure.lookup (wd.nm x)=some a
 noclos:fi.cells≠[]→fd.closure=[]
 dflts:(fi.dflts=[]∧fd.defaults=.none∧dv=[])∨∃t,fd.defaults=.ref t∧IsTup h t dv.toArray
 kwd:fd.kwdefaults=.none
 code:CodeIs h fi.qual fd.code
 tab:∀P,fi.tab=some P→∃c,fd.code=.ref c∧(c,P)∈wd.tabs
mutual
inductive VR(h:Heap):V→Value→Prop
 |none:VR h .none .none
 |bool (b:Bool):VR h (.bool b) (.bool b)
 |int (i:Int) (t:Tok):VR h (.int i) (.int i t)
 |str (s:Nat) (t:Tok):VR h (.str s) (.str (wd.nm s) t)
 |tup {a:Addr} {vs:List V} {items:List Value}:IsTup h a items.toArray→items.length≤sizeLine→VRs h vs items→VR h (.tup vs) (.ref a)
 |obj (a:Addr):VR h (.obj a) (.ref a)
 |clo {a:Addr} {f:Nat} {C:List (Nat×Nat)} {fi:FnInfo} {fd:FuncData} {o:Obj} {dv:List Value}:h.get? a=some o→o.data=.func fd→FnAt wd h f C fi fd dv→VRs h fi.dflts dv→VR h (.clo f C) (.ref a)
inductive VRs(h:Heap):List V→List Value→Prop
 |nil:VRs h [] []
 |cons {v:V} {x:Value} {vs:List V} {xs:List Value}:VR h v x→VRs h vs xs→VRs h (v::vs) (x::xs)
end
variable {wd}
theorem FnAt.keeps{h h':Heap}{f C fi fd dv}(x:FnAt wd h f C fi fd dv)(k:Keep h h'):FnAt wd h' f C fi fd dv :=
 {x with
  dflts:=x.dflts.imp id fun⟨t,e,r⟩=>⟨t,e,fF k r⟩
  code:=x.code.keeps k }
theorem FnAt.codeRec{h:Heap}{f C fi fd dv}(x:FnAt wd h f C fi fd dv):h.CodeRec fd.code fi.qual:=x.code.rec_
theorem VR.keeps{h h':Heap}(k:Keep h h'){v:V}{x:Value}(r:VR wd h v x):VR wd h' v x :=
 VR.rec (motive_1:=fun v x zz=>VR wd h' v x) (motive_2:=fun vs xs zz=>VRs wd h' vs xs) .none .bool .int .str (fun a l zz ih=>.tup (fF k a) l ih) .obj
  (fun a d f zz ih=>.clo (k _ _ a (.inr (.inl ⟨_,d⟩))) d (f.keeps k) ih) .nil (fun zz zz a b=>.cons a b) r
theorem VRs.ind{h:Heap}{P:List V→List Value→Prop}(n:P [] [])(c:∀{v x vs xs},VR wd h v x→VRs wd h vs xs→P vs xs→P (v::vs) (x::xs)){vs:List V}{xs:List Value}(r:VRs wd h vs xs):P vs xs :=
 VRs.rec (motive_1:=fun zz zz zz=>True) (motive_2:=fun vs xs zz=>P vs xs) trivial (fun zz=>trivial) (fun zz zz=>trivial) (fun zz zz=>trivial) (fun zz zz zz zz=>trivial) (fun zz=>trivial) (fun zz zz zz zz zz=>trivial) n (fun a b zz ih=>c a b ih) r
theorem VRs.keeps{h h':Heap}(k:Keep h h'){vs:List V}{xs:List Value}(r:VRs wd h vs xs):VRs wd h' vs xs:=r.ind .nil fun a zz ih=>.cons (a.keeps k) ih
theorem VRs.length{h:Heap}{vs:List V}{xs:List Value}(r:VRs wd h vs xs):vs.length=xs.length:=r.ind (P:=fun vs xs=>vs.length=xs.length) rfl fun zz zz ih=>congrArg Nat.succ ih
inductive GetR(h:Heap)(xs:List Value)(i:Nat)(v:V):Prop|mk (x:Value):xs[i]?=some x→VR wd h v x→GetR h xs i v
theorem VRs.get{h:Heap}{vs:List V}{xs:List Value}(r:VRs wd h vs xs){i:Nat}{v:V}(e:vs[i]?=some v):GetR (wd:=wd) h xs i v :=
 r.ind (P:=fun vs xs=>∀(i:Nat) (v:V),vs[i]?=some v→GetR (wd:=wd) h xs i v) (fun zz zz e=>nS e) (fun a zz ih i v e=>match i,e with
  |0,e=>⟨_,rfl,oInj e▸a⟩
  |_+1,e=>let ⟨x,p,q⟩:=ih _ _ e;⟨x,p,q⟩) i v e
inductive OneR(h:Heap)(u:V)(xs:List Value):Prop|mk (z:Value):xs=[z]→VR wd h u z→OneR h u xs
inductive TwoR(h:Heap)(u v:V)(xs:List Value):Prop|mk (y z:Value):xs=[y,z]→VR wd h u y→VR wd h v z→TwoR h u v xs
theorem len1{α:Type}{xs:List α}(h:1=xs.length):∃z,xs=[z]:=by
 cases xs with
 |nil=>exact nomatch h
 |cons z t=>exact⟨z,congrArg _ (KP.mp (Nat.succ.inj h).symm)⟩
theorem VRs.one_{h:Heap}{u:V}{xs:List Value}(r:VRs wd h [u] xs):OneR (wd:=wd) h u xs:=by
 obtain⟨z,rfl⟩:=len1 r.length
 obtain⟨_,e,q⟩:=r.get (i:=0) rfl
 exact⟨z,rfl,oInj e▸q⟩
theorem VRs.two_{h:Heap}{u v:V}{xs:List Value}(r:VRs wd h [u,v] xs):TwoR (wd:=wd) h u v xs:=by
 obtain⟨y,e,q⟩:=r.get (i:=0) rfl
 have l:=r.length
 cases xs with
 |nil=>exact nS e
 |cons y' t =>
  obtain⟨z,rfl⟩:=len1 (Nat.succ.inj l)
  obtain⟨_,e',q'⟩:=r.get (i:=1) rfl
  exact⟨y',z,rfl,oInj e▸q,oInj e'▸q'⟩
inductive ConsR(h:Heap)(v:V)(vs:List V)(xs:List Value):Prop|mk (y:Value) (ys:List Value):xs=y::ys→VR wd h v y→VRs wd h vs ys→ConsR h v vs xs
theorem VRs.uncons{h:Heap}{v:V}{vs:List V}{xs:List Value}(r:VRs wd h (v::vs) xs):ConsR (wd:=wd) h v vs xs:=by
 cases r with
 |cons a b=>exact⟨_,_,rfl,a,b⟩
theorem VRs.append{h:Heap}{vs ws:List V}{xs ys:List Value}(q:VRs wd h vs xs)(r:VRs wd h ws ys):VRs wd h (vs++ws) (xs++ys):=q.ind (P:=fun vs xs=>VRs wd h (vs++ws) (xs++ys)) r fun a zz ih=>.cons a ih
theorem VRs.take{h:Heap}{vs:List V}{xs:List Value}(q:VRs wd h vs xs):∀n,VRs wd h (vs.take n) (xs.take n) :=
 q.ind (P:=fun vs xs=>∀n,VRs wd h (vs.take n) (xs.take n)) (fun n=>match n with|0=>.nil|_+1=>.nil) fun a zz ih n=>match n with|0=>.nil|n+1=>.cons a (ih n)
theorem VRs.drop{h:Heap}{vs:List V}{xs:List Value}(q:VRs wd h vs xs):∀n,VRs wd h (vs.drop n) (xs.drop n) :=
 q.ind (P:=fun vs xs=>∀n,VRs wd h (vs.drop n) (xs.drop n)) (fun n=>match n with|0=>.nil|_+1=>.nil) fun a b ih n=>match n with|0=>.cons a b|n+1=>ih n
theorem VRs.set{h:Heap}{vs:List V}{xs:List Value}(q:VRs wd h vs xs){v:V}{x:Value}(r:VR wd h v x):∀n,VRs wd h (vs.set n v) (xs.set n x) :=
 q.ind (P:=fun vs xs=>∀n,VRs wd h (vs.set n v) (xs.set n x)) (fun zz=>.nil) fun a b ih n=>match n with|0=>.cons r b|n+1=>.cons a (ih n)
theorem VRs.replicate{h:Heap}{v:V}{x:Value}(r:VR wd h v x):∀n,VRs wd h (List.replicate n v) (List.replicate n x)
 |0=>.nil
 |n+1=>.cons r (VRs.replicate r n)
variable (wd)
inductive FsR(h:Heap):List (Nat×V)→List DictEntry→Prop
 |nil:FsR h [] []
 |cons {a:Nat} {v:V} {hs:Int} {t:Tok} {x:Value} {fs:List (Nat×V)} {es:List DictEntry}:VR wd h v x→FsR h fs es→FsR h ((a,v)::fs) (⟨hs,.str (wd.nm a) t,x⟩::es)
variable {wd}
theorem FsR.keeps{h h':Heap}(k:Keep h h'){fs es}(r:FsR wd h fs es):FsR wd h' fs es:=r.rec .nil fun a zz ih=>.cons (a.keeps k) ih
variable (wd)
inductive Kd where|free|own|part (a:Addr)|ns|tab|exc
@[reducible] noncomputable def Kd.ctorIdx(x:Kd):Nat:=x.casesOn 0 1 (fun zz=>2) 3 4 5
theorem Kd.part.inj{a b:Addr}(h:Kd.part a=.part b):a=b:=by cases h;rfl
theorem eB:Kd.own≠.free:=nofun
theorem gV:Kd.ns≠.free:=nofun
theorem uP:Kd.tab≠.free:=nofun
theorem lH:Kd.exc≠.free:=nofun
theorem mX{a:Addr}:Kd.part a≠.free:=nofun
theorem AR:Kd.own≠.exc:=nofun
theorem zf:Kd.ns≠.exc:=nofun
theorem AL:Kd.tab≠.exc:=nofun
theorem rp{a:Addr}:Kd.part a≠.exc:=nofun
theorem fz{kd:Addr→Kd}{a b:Addr}{c k k0:Kd}(hf:kd a=k0)(hk:k≠k0)(h:kd b=k):(if b=a then c else kd b)=k:=(Kg fun w=>hk (h.symm.trans ((congrArg kd w).trans hf))).trans h
theorem dA{kd:Addr→Kd}{a b:Addr}{k k0:Kd}(h:kd b=k)(hf:kd a=k0)(hk:k≠k0):b≠a:=fun w=>hk (h.symm.trans ((congrArg kd w).trans hf))
noncomputable def PairsR{K:Type}(h:Heap)(es:List (K×V))(kvs:List (K×Value)):Prop:=es.map (·.1)=kvs.map (·.1)∧VRs wd h (es.map (·.2)) (kvs.map (·.2))
inductive ORl(h:Heap)(a:Addr)(vs:List V):Prop|mk (items:List Value) (n:Nat):h.get? a=some (listOf items.toArray n)→items.length≤sizeLine→VRs wd h vs items→ORl h a vs
inductive ORi(h:Heap)(D:Addr→Addr)(a:Addr)(k:Nat)(fs:List (Nat×V)):Prop|mk (C:Addr) (es:List DictEntry) (n:Nat):wd.clsA k=some C→h.get? a=some (instObj C (D a))→h.get? (D a)=some (dictOf es n)→FsR wd h fs es→fs.length≤500→((wd.CI k).isSome=true∧∀p∈fs,p.1∈wd.attrs)→ORi h D a k fs
inductive ORd{K:Type}[DecidableEq K](h:Heap)(knd:KeyKind wd.prog wd.w K)(a:Addr)(es:List (K×V)):Prop|mk (kvs:List (K×Value)):h.DictOf knd a kvs→es.length≤2000→PairsR wd h es kvs→ORd h knd a es
noncomputable def CellV(h:Heap)(w:Option V)(x:Option Value):Prop:=match w with|none=>x=none|some v=>∃y,x=some y∧VR wd h v y
inductive ORc(h:Heap)(a:Addr)(w:Option V):Prop|mk (o:Obj) (x:Option Value):h.get? a=some o→o.data=.cell x→CellV wd h w x→ORc h a w
noncomputable def OR(h:Heap)(D:Addr→Addr)(a:Addr)(ao:AO):Prop:=match ao with
 |.list vs=>ORl wd h a vs
 |.inst k fs=>ORi wd h D a k fs
 |.dictI es=>ORd wd h (intKind wd.prog wd.w) a es
 |.dictS es=>ORd wd h (strKind wd.prog wd.w) a (es.map fun p=>(wd.nm p.1,p.2))
 |.cell w=>ORc wd h a w
structure Gd(h:Heap):Prop where
 K:wd.K.In h
 g:h.Ns mainGlobals wd.mg
 b:h.Ns builtinsNs wd.mb
 nolimit:h.NoLimit
 bmain:∃bm o,wd.mg "__builtins__" = some (.ref bm)∧bm≠builtinsNs∧h.get? bm=some o∧o.cls=.type "module" ∧ o.dict=some builtinsNs∧o.data=.plain
 codes:∀q∈wd.tabs,CodeHd h q.1 q.2
inductive TabOk(h:Heap)(P:Addr):Prop|mk (ps:Array Value):h.get? P=some (tabObj ps)→TriplesOk ps.toList→(∀pos cv,codeAmong pos ps.toList=some cv→CodeIs h (wd.pq pos) cv)→TabOk h P
structure GL(kd:Addr→Kd)(D:Addr→Addr)(B:Heap)(outs:List (Addr×(Str→Option Value)))(H:Hp)(h:Heap):Prop where
 base:Sub B h
 gd:Gd wd B
 own:∀a o,H a=some o→kd a=.own∧OR wd h D a o
 part:∀a k fs,H a=some (.inst k fs)→kd (D a)=.part a
 outs:∀p∈outs,kd p.1=.ns∧h.Ns p.1 p.2
 tabs:∀q∈wd.tabs,kd q.2=.tab∧TabOk wd h q.2
 hid:∀a,kd a≠.free→B.get? a=none
 there:∀a,kd a≠.free→∃o,h.get? a=some o
 nimm:∀a o,kd a≠.free→h.get? a=some o→¬ dO o
 low:∀a,kd a=.own→mainGlobals<a
variable {wd}
theorem OR.list{h:Heap}{D:Addr→Addr}{a:Addr}{vs:List V}{items:List Value}{n:Nat}(p:h.get? a=some (listOf items.toArray n))(l:items.length≤sizeLine)(r:VRs wd h vs items):OR wd h D a (.list vs):=ORl.mk _ _ p l r
theorem OR.inst{h:Heap}{D:Addr→Addr}{a:Addr}{k:Nat}{C:Addr}{fs:List (Nat×V)}{es:List DictEntry}{n:Nat}(p:wd.clsA k=some C)(q:h.get? a=some (instObj C (D a)))(r:h.get? (D a)=some (dictOf es n))(f:FsR wd h fs es)(l:fs.length≤500)(z:(wd.CI k).isSome=true∧∀p∈fs,p.1∈wd.attrs):OR wd h D a (.inst k fs):=ORi.mk _ _ _ p q r f l z
theorem OR.dictI{h:Heap}{D:Addr→Addr}{a:Addr}{es:List (Int×V)}{kvs:List (Int×Value)}(p:h.DictOf (intKind wd.prog wd.w) a kvs)(l:es.length≤2000)(r:PairsR wd h es kvs):OR wd h D a (.dictI es):=ORd.mk _ p l r
theorem OR.dictS{h:Heap}{D:Addr→Addr}{a:Addr}{es:List (Nat×V)}{kvs:List (Str×Value)}(p:h.DictOf (strKind wd.prog wd.w) a kvs)(l:(es.map fun p=>(wd.nm p.1,p.2)).length≤2000)(r:PairsR wd h (es.map fun p=>(wd.nm p.1,p.2)) kvs):OR wd h D a (.dictS es):=ORd.mk _ p l r
theorem OR.cell0{h:Heap}{D:Addr→Addr}{a:Addr}{o:Obj}(p:h.get? a=some o)(q:o.data=.cell none):OR wd h D a (.cell none):=ORc.mk _ _ p q rfl
theorem OR.cell{h:Heap}{D:Addr→Addr}{a:Addr}{o:Obj}{v:V}{x:Value}(p:h.get? a=some o)(q:o.data=.cell (some x))(r:VR wd h v x):OR wd h D a (.cell (some v)):=ORc.mk _ _ p q ⟨_,rfl,r⟩
theorem CellV.keeps{h h':Heap}(k:Keep h h'):∀{w:Option V} {x:Option Value},CellV wd h w x→CellV wd h' w x
 |none,_,e=>e
 |some _,_,⟨y,e,r⟩=>⟨y,e,r.keeps k⟩
theorem Gd.sub{h h':Heap}(x:Gd wd h)(k:Sub h h'):Gd wd h' where
 K:=x.K.keeps k
 g:=x.g.keeps k
 b:=x.b.keeps k
 nolimit:=x.nolimit.keeps k
 bmain:=by
  obtain⟨bm,o,a,b,c,r⟩:=x.bmain
  exact⟨bm,o,a,b,k _ _ c,r⟩
 codes:=fun q hq=>(x.codes q hq).keeps k
theorem PairsR.keeps{K:Type}{h h':Heap}(k:Keep h h'){es:List (K×V)}{kvs:List (K×Value)}(x:PairsR wd h es kvs):PairsR wd h' es kvs:=⟨x.1,x.2.keeps k⟩
theorem TabOk.sub{h h':Heap}{P:Addr}(x:TabOk wd h P)(k:Keep h h')(e:∀o,h.get? P=some o→h'.get? P=some o):TabOk wd h' P:=by
 obtain⟨ps,a,b,c⟩:=x
 exact⟨ps,e _ a,b,fun pos cv q=>(c pos cv q).keeps k⟩
theorem tD{K:Type}[DecidableEq K]{knd:KeyKind wd.prog wd.w K}{h h':Heap}{a:Addr}{kvs:List (K×Value)}(x:h.DictOf knd a kvs)(e:∀o,h.get? a=some o→h'.get? a=some o):h'.DictOf knd a kvs:=by
 obtain⟨o,es,ep,q,r⟩:=x
 exact⟨o,es,ep,e _ q,r⟩
theorem ORd.move{K:Type}[DecidableEq K]{h h':Heap}{knd:KeyKind wd.prog wd.w K}{a:Addr}{es:List (K×V)}(x:ORd wd h knd a es)(k:Keep h h')(e:∀o,h.get? a=some o→h'.get? a=some o):ORd wd h' knd a es:=by
 obtain⟨kvs,p,l,r⟩:=x
 exact⟨kvs,tD p e,l,r.keeps k⟩
theorem OR.move{h h':Heap}{D:Addr→Addr}{a:Addr}{ao:AO}(x:OR wd h D a ao)(k:Keep h h')(e:∀o,h.get? a=some o→h'.get? a=some o)
  (d:∀j fs,ao=.inst j fs→∀o,h.get? (D a)=some o→h'.get? (D a)=some o):OR wd h' D a ao:=by
 cases ao with
 |list vs=>obtain⟨i,n,p,l,r⟩:=x;exact ORl.mk i n (e _ p) l (r.keeps k)
 |inst j fs=>obtain⟨C,es,n,p,q,r,s,l,z⟩:=x;exact ORi.mk C es n p (e _ q) (d _ _ rfl _ r) (s.keeps k) l z
 |dictI es=>exact ORd.move x k e
 |dictS es=>exact ORd.move x k e
 |cell w=>obtain⟨o,y,p,q,r⟩:=x;exact ORc.mk o y (e _ p) q (r.keeps k)
theorem OR.sub{h h':Heap}{D:Addr→Addr}{a:Addr}{ao:AO}(x:OR wd h D a ao)(k:Sub h h'):OR wd h' D a ao:=x.move k.keep (fun o=>k a o) fun zz zz zz o=>k _ o
theorem OR.D{h:Heap}{D D':Addr→Addr}{a:Addr}{ao:AO}(x:OR wd h D a ao)(e:D' a=D a):OR wd h D' a ao:=by
 cases ao with
 |inst j fs=>obtain⟨C,es,n,p,q,r,s,l,z⟩:=x;exact ORi.mk C es n p (e▸q) (e▸r) s l z
 |_=>exact x
section
variable {kd:Addr→Kd} {D:Addr→Addr} {B h h':Heap} {outs:List (Addr×(Str→Option Value))} {H:Hp}
theorem GL.old(x:GL wd kd D B outs H h){a:Addr}(q:kd a≠.free):a<h.objs.size:=let ⟨_,e⟩:=x.there a q;Heap.lt_size e
theorem GL.fresh(x:GL wd kd D B outs H h){a:Addr}(ha:h.objs.size≤a):kd a=.free:=Classical.byContradiction fun q=>Le _ (Kw (x.old q) ha)
theorem GL.gone(x:GL wd kd D B outs H h){a:Addr}(e:h.get? a=Option.none):kd a=.free:=Classical.byContradiction fun q=>let ⟨_,z⟩:=x.there a q;nS (e.symm.trans z)
theorem GL.goneB(x:GL wd kd D B outs H h){a:Addr}(e:h.get? a=Option.none):B.get? a=Option.none:=by
 cases q:B.get? a with
 |none=>rfl
 |some o=>exact nS (e.symm.trans (x.base a o q))
theorem GL.none(x:GL wd kd D B outs H h){a:Addr}(ha:kd a≠.own):H a=Option.none:=by
 cases q:H a with
 |none=>rfl
 |some o=>exact absurd (x.own a o q).1 ha
theorem AV{h:Heap}{a:Addr}(ha:h.objs.size≤a):h.get? a=Option.none:=by
 cases e:h.get? a with
 |none=>rfl
 |some o=>exact absurd (Heap.lt_size e) (LA.mpr ha)
theorem GL.Bnone(x:GL wd kd D B outs H h){a:Addr}(ha:h.objs.size≤a):B.get? a=Option.none:=x.goneB (AV ha)
theorem GL.nimm'(x:GL wd kd D B outs H h){a:Addr}(q:kd a≠.free){o:Obj}(e:h.get? a=some o):¬ dO o:=x.nimm a o q e
theorem GL.high(x:GL wd kd D B outs H h){a:Addr}(ha:h.objs.size≤a):mainGlobals<a:=Kw (Heap.Ns.lt (x.gd.g.keeps x.base)) ha
theorem ox{P:Obj→Prop}{h h':Heap}{a:Addr}{o:Obj}(t:∃o,h.get? a=some o)(n:∀o,h.get? a=some o→¬ P o)(k:∀o,h.get? a=some o→h'.get? a=some o)(e:h'.get? a=some o):¬ P o:=by
 obtain⟨o',e'⟩:=t
 obtain rfl:=oInj (e.symm.trans (k _ e'))
 exact n _ e'
theorem GL.grow(x:GL wd kd D B outs H h)(k:Sub h h'):GL wd kd D B outs H h' where
 base:=x.base.trans k
 gd:=x.gd
 own:=fun a o e=>⟨(x.own a o e).1,(x.own a o e).2.sub k⟩
 part:=x.part
 outs:=fun p hp=>⟨(x.outs p hp).1,(x.outs p hp).2.keeps k⟩
 tabs:=fun q hq=>⟨(x.tabs q hq).1,(x.tabs q hq).2.sub k.keep fun o=>k _ o⟩
 hid:=x.hid
 there:=fun a q=>let ⟨o,e⟩:=x.there a q;⟨o,k _ _ e⟩
 nimm:=fun a zz q e=>ox (x.there a q) (fun o=>x.nimm a o q) (fun o=>k a o) e
 low:=x.low
theorem iz{p:Addr}(hs:Heap.ExtBut p h h')(hn:∀o,h.get? p=some o→¬ dO o):Keep h h':=fun b o e i=>hs b o (fun q=>hn o (q▸e) i) e
theorem GL.keepBut(x:GL wd kd D B outs H h){p:Addr}(hp:kd p≠.free)(hs:Heap.ExtBut p h h'):Keep h h':=iz hs fun zz e=>x.nimm' hp e
theorem GL.at(x:GL wd kd D B outs H h){p:Addr}(hp:kd p≠.free)(hs:Heap.ExtBut p h h')(hn:∃o,h'.get? p=some o∧¬ dO o){H':Hp}{outs':List (Addr×(Str→Option Value))}
  (own:∀a o,H' a=some o→(H a=some o∧a≠p∧kd p≠.part a)∨(kd a=.own∧OR wd h' D a o∧∀k fs,o=.inst k fs→kd (D a)=.part a))
  (ho:∀q∈outs',(q∈outs∧q.1≠p)∨(kd q.1=.ns∧h'.Ns q.1 q.2)) (ht:kd p=.tab→TabOk wd h' p):GL wd kd D B outs' H' h' where
 base:=fun b o e=>hs b o (fun q=>nS ((x.hid p hp).symm.trans (q▸e))) (x.base b o e)
 gd:=x.gd
 own:=fun a o e=>(own a o e).elim
  (fun q=>⟨(x.own a o q.1).1,(x.own a o q.1).2.move (x.keepBut hp hs) (fun o'=>hs a o' q.2.1) fun j fs ej o'=>hs _ o' fun z=>q.2.2 (z▸x.part a j fs (q.1.trans (congrArg some ej)))⟩)
  fun q=>⟨q.1,q.2.1⟩
 part:=fun a k fs e=>(own a _ e).elim (fun q=>x.part a k fs q.1) fun q=>q.2.2 k fs rfl
 outs:=fun q hq=>(ho q hq).elim (fun z=>⟨(x.outs q z.1).1,(x.outs q z.1).2.extBut hs z.2⟩) id
 tabs:=fun q hq=>⟨(x.tabs q hq).1,by
  by_cases z:q.2=p
  ·exact z▸ht (z▸(x.tabs q hq).1)
  ·exact(x.tabs q hq).2.sub (x.keepBut hp hs) fun o=>hs _ o z⟩
 hid:=x.hid
 there:=fun a q=>by
  by_cases z:a=p
  ·obtain⟨o,e,_⟩:=hn;exact⟨o,z▸e⟩
  ·obtain⟨o,e⟩:=x.there a q;exact⟨o,hs a o z e⟩
 nimm:=fun a o q e=>by
  by_cases z:a=p
  ·obtain⟨o',e',n⟩:=hn
   obtain rfl:=oInj (e'.symm.trans (z▸e));exact n
  ·exact ox (x.there a q) (fun o=>x.nimm a o q) (fun o=>hs a o z) e
 low:=x.low
theorem GL.freeUpd{I:Addr}(x:GL wd kd D B outs H h)(hf:kd I=.free)(hb:B.get? I=Option.none)(hs:Heap.ExtBut I h h')(k:Keep h h'):GL wd kd D B outs H h' where
 base:=fun b o e=>hs b o (fun z=>nS (hb.symm.trans (z▸e))) (x.base b o e)
 gd:=x.gd
 own:=fun a o e=>⟨(x.own a o e).1,(x.own a o e).2.move k (fun o'=>hs a o' (dA (x.own a o e).1 hf eB)) fun j fs ej o'=>hs _ o' (dA (x.part a j fs (e.trans (congrArg some ej))) hf mX)⟩
 part:=x.part
 outs:=fun q hq=>⟨(x.outs q hq).1,(x.outs q hq).2.extBut hs (dA (x.outs q hq).1 hf gV)⟩
 tabs:=fun q hq=>⟨(x.tabs q hq).1,(x.tabs q hq).2.sub k fun o=>hs _ o (dA (x.tabs q hq).1 hf uP)⟩
 hid:=x.hid
 there:=fun a q=>let ⟨o,e⟩:=x.there a q;⟨o,hs a o (fun z=>q (z▸hf)) e⟩
 nimm:=fun a zz q e=>ox (x.there a q) (fun o=>x.nimm a o q) (fun o=>hs a o fun z=>q (z▸hf)) e
 low:=x.low
theorem hY{α:Type}{f:Nat→Option α}{k:Nat}{v:α}{j:Nat}{o:α}(e:upd f k v j=some o):(j=k∧o=v)∨(j≠k∧f j=some o):=by
 by_cases q:j=k
 ·exact .inl ⟨q,(oInj ((Kh q).symm.trans e)).symm⟩
 ·exact .inr ⟨q,(Kg q).symm.trans e⟩
theorem GL.setOwn(x:GL wd kd D B outs H h){p:Addr}{o o':AO}(e:H p=some o)(hs:Heap.ExtBut p h h')(hn:∃o,h'.get? p=some o∧¬ dO o)(r:OR wd h' D p o')(hi:∀k fs,o'=.inst k fs→∃k fs,o=.inst k fs) :
  GL wd kd D B outs (upd H p o') h' :=
 have hk:=(x.own p o e).1
 x.at (fun z=>eB (hk.symm.trans z)) hs hn (fun a q z=>by
  rcases hY z with ⟨rfl,rfl⟩|⟨n,z⟩
  ·exact .inr ⟨hk,r,fun k fs y=>by obtain⟨k',fs',w⟩:=hi k fs y;exact x.part _ k' fs' (e.trans (congrArg some w))⟩
  ·exact .inl ⟨z,n,fun z=>nomatch hk.symm.trans z⟩)
  (fun q hq=>.inl ⟨hq,dA (x.outs q hq).1 hk nofun⟩) (fun z=>nomatch hk.symm.trans z)
theorem GL.setPart(x:GL wd kd D B outs H h){p:Addr}{k:Nat}{fs fs':List (Nat×V)}(e:H p=some (.inst k fs))(hs:Heap.ExtBut (D p) h h')(hn:∃o,h'.get? (D p)=some o∧¬ dO o)(r:OR wd h' D p (.inst k fs')) :
  GL wd kd D B outs (upd H p (.inst k fs')) h' :=
 have hk:=x.part p k fs e
 x.at (fun z=>mX (hk.symm.trans z)) hs hn (fun a q z=>by
  rcases hY z with ⟨rfl,rfl⟩|⟨n,z⟩
  ·exact .inr ⟨(x.own _ _ e).1,r,fun zz zz zz=>hk⟩
  ·exact .inl ⟨z,dA (x.own a q z).1 hk nofun,fun w=>n (Kd.part.inj (hk.symm.trans w)).symm⟩)
  (fun q hq=>.inl ⟨hq,dA (x.outs q hq).1 hk nofun⟩) (fun z=>nomatch hk.symm.trans z)
theorem GL.setNs{L:Addr}{m m':Str→Option Value}(x:GL wd kd D B ((L,m)::outs) H h)(hs:Heap.ExtBut L h h')(r:h'.Ns L m')(ho:∀q∈outs,q.1≠L):GL wd kd D B ((L,m')::outs) H h' :=
 have hk:kd L=.ns:=(x.outs (L,m) (.head _)).1
 x.at (fun z=>gV (hk.symm.trans z)) hs (by
   obtain⟨o,es,ep,a,b,_⟩:=r
   exact⟨o,a,df b⟩) (fun a q z=>.inl ⟨z,dA (x.own a q z).1 hk nofun,fun w=>nomatch hk.symm.trans w⟩)
  (fun q hq=>by
   rcases mCo hq with rfl|hq
   ·exact .inr ⟨hk,r⟩
   ·exact .inl ⟨.tail _ hq,ho q hq⟩) (fun z=>nomatch hk.symm.trans z)
theorem GL.newKd(x:GL wd kd D B outs H h)(k:Sub h h'){a:Addr}{c:Kd}(hc:c≠.own)(hf:kd a=.free)(hb:B.get? a=Option.none)(hn:∃o,h'.get? a=some o∧¬ dO o) :
  GL wd (fun b=>if b=a then c else kd b) D B outs H h' :=
 have y:=x.grow k
 {base:=y.base,gd:=y.gd
  own:=fun b o e=>⟨fz hf eB (y.own b o e).1,(y.own b o e).2⟩
  part:=fun b j fs e=>fz hf mX (y.part b j fs e)
  outs:=fun q hq=>⟨fz hf gV (y.outs q hq).1,(y.outs q hq).2⟩
  tabs:=fun q hq=>⟨fz hf uP (y.tabs q hq).1,(y.tabs q hq).2⟩
  hid:=fun b q=>by
   by_cases z:b=a
   ·exact z▸hb
   ·exact y.hid b fun w=>q ((Kg z).trans w)
  there:=fun b q=>by
   by_cases z:b=a
   ·obtain⟨o,e,_⟩:=hn;exact⟨o,z▸e⟩
   ·exact y.there b fun w=>q ((Kg z).trans w)
  nimm:=fun b o q e=>by
   by_cases z:b=a
   ·obtain⟨o',e',n⟩:=hn
    obtain rfl:=oInj (e'.symm.trans (z▸e));exact n
   ·exact y.nimm b o (fun w=>q ((Kg z).trans w)) e
  low:=fun b q=>by
   by_cases z:b=a
   ·exact absurd ((Kh z).symm.trans q) hc
   ·exact y.low b ((Kg z).symm.trans q) }
theorem GL.claim(x:GL wd kd D B outs H h){D':Addr→Addr}{a:Addr}{ao:AO}(hlow:mainGlobals<a)(hf:kd a=.exc)(hD:∀b,b≠a→D' b=D b)(r:OR wd h D' a ao)(hi:∀k fs,ao=.inst k fs→kd (D' a)=.part a) :
  GL wd (fun b=>if b=a then .own else kd b) D' B outs (upd H a ao) h :=
 {base:=x.base,gd:=x.gd
  own:=fun b o e=>by
   rcases hY e with ⟨rfl,rfl⟩|⟨n,z⟩
   ·exact⟨Kh rfl,r⟩
   ·exact⟨(Kg n).trans (x.own b o z).1,(x.own b o z).2.D (hD _ n)⟩
  part:=fun b j fs e=>by
   rcases hY e with ⟨rfl,z⟩|⟨n,z⟩
   ·exact fz hf rp (hi j fs z.symm)
   ·exact fz hf rp ((congrArg kd (hD _ n)).trans (x.part b j fs z))
  outs:=fun q hq=>⟨fz hf zf (x.outs q hq).1,(x.outs q hq).2⟩
  tabs:=fun q hq=>⟨fz hf AL (x.tabs q hq).1,(x.tabs q hq).2⟩
  hid:=fun b q=>by
   by_cases z:b=a
   ·exact z▸x.hid a fun w=>lH (hf.symm.trans w)
   ·exact x.hid b fun w=>q ((Kg z).trans w)
  there:=fun b q=>by
   by_cases z:b=a
   ·exact z▸x.there a fun w=>lH (hf.symm.trans w)
   ·exact x.there b fun w=>q ((Kg z).trans w)
  nimm:=fun b o q e=>by
   by_cases z:b=a
   ·exact x.nimm a o (fun w=>lH (hf.symm.trans w)) (z▸e)
   ·exact x.nimm b o (fun w=>q ((Kg z).trans w)) e
  low:=fun b q=>by
   by_cases z:b=a
   ·exact z▸hlow
   ·exact x.low b ((Kg z).symm.trans q) }
theorem GL.newOwn(x:GL wd kd D B outs H h)(k:Sub h h'){a:Addr}{ao:AO}(hlow:mainGlobals<a)(hf:kd a=.free)(hb:B.get? a=Option.none)(r:OR wd h' D a ao)(hi:∀k fs,ao≠.inst k fs)(hn:∃o,h'.get? a=some o∧¬ dO o) :
  GL wd (fun b=>if b=a then .own else if b=a then .exc else kd b) D B outs (upd H a ao) h' :=
 (x.newKd k (c:=.exc) nofun hf hb hn).claim hlow (Kh rfl) (fun zz zz=>rfl) r fun k fs z=>absurd z (hi k fs)
theorem GL.newNs(x:GL wd kd D B outs H h)(k:Sub h h'){L:Addr}{m:Str→Option Value}(hf:kd L=.free)(hb:B.get? L=Option.none)(r:h'.Ns L m):GL wd (fun b=>if b=L then .ns else kd b) D B ((L,m)::outs) H h' :=
 have y:=x.newKd k (c:=.ns) nofun hf hb (by obtain⟨o,es,ep,a,b,_⟩:=r;exact⟨o,a,df b⟩)
 have z:∀q∈(L,m)::outs,(if q.1=L then Kd.ns else kd q.1)=.ns∧h'.Ns q.1 q.2:=fun q hq=>by
   rcases mCo hq with rfl|hq
   ·exact⟨Kh rfl,r⟩
   ·exact y.outs q hq
 {y with outs:=z }
theorem GL.dropNs{p:Addr×(Str→Option Value)}(x:GL wd kd D B (p::outs) H h):GL wd kd D B outs H h:={ x with outs:=fun q hq=>x.outs q (.tail _ hq) }
theorem GL.newInst(x:GL wd kd D B outs H h)(k:Sub h h'){a d:Addr}{j:Nat}{fs:List (Nat×V)}(hlow:mainGlobals<a)(hf:kd a=.free)(hb:B.get? a=Option.none)(hd:kd d=.free)(hbd:B.get? d=Option.none)(had:a≠d)
  (r:OR wd h' (fun b=>if b=a then d else D b) a (.inst j fs)) (hn:∃o,h'.get? a=some o∧¬ dO o) (hn':∃o,h'.get? d=some o∧¬ dO o) :
  ∃kd',GL wd kd' (fun b=>if b=a then d else D b) B outs (upd H a (.inst j fs)) h' :=
 ⟨_,((x.newKd k (c:=.part a) nofun hd hbd hn').newKd (Sub.refl _) (a:=a) (c:=.exc) nofun ((Kg had).trans hf) hb hn).claim hlow (Kh rfl) (fun zz z=>Kg z) r fun zz zz zz=>by
  show(if (if a=a then d else D a)=a then Kd.exc else if (if a=a then d else D a)=d then Kd.part a else _)=_
  refine ab (Kh rfl) ?_;refine ab (Kg had.symm) ?_;refine ab (Kh rfl) ?_;rfl⟩
noncomputable def jV(h:Heap)(p:Addr→Prop):Heap:=⟨h.objs.mapIdx fun i o=>@ite _ (p i) (Classical.propDecidable _) { o with data:=.freed } o,h.life⟩
theorem dM(h:Heap)(p:Addr→Prop){b:Addr}(hb:¬ p b):(jV h p).get? b=h.get? b:=by
 unfold Heap.get? jV
 simp only[Array.getElem?_mapIdx]
 cases h.objs[b]? with
 |none=>rfl
 |some o=>simp only[Option.map_some,Kg hb]
theorem fK(h:Heap)(p:Addr→Prop){b:Addr}(hb:p b):(jV h p).get? b=none:=by
 unfold Heap.get? jV
 simp only[Array.getElem?_mapIdx]
 cases h.objs[b]? with
 |none=>rfl
 |some o=>simp only[Option.map_some,Kh hb]
theorem pI(h:Heap)(p:Addr→Prop):Sub (jV h p) h:=fun b o e=>by
 by_cases q:p b
 ·replace e:=(fK h p q)▸e;cases e
 ·rwa [dM h p q]at e
noncomputable def big(kd:Addr→Kd)(h:Heap):Heap:=jV h fun a=>kd a≠.free
theorem GL.big(x:GL wd kd D B outs H h):Sub B (big kd h):=fun b o e=>by
 have:¬ kd b≠.free:=fun q=>by replace e:=(x.hid b q)▸e;cases e
 exact(dM h _ this).trans (x.base b o e)
theorem GL.rebase(x:GL wd kd D B outs H h):GL wd kd D (Internal.big kd h) outs H h :=
 {x with base:=pI _ _,gd:=x.gd.sub x.big,hid:=fun zz q=>fK h _ q }
theorem GL.weaken(x:GL wd kd D B outs H h){B':Heap}(k:Sub B' B)(g:Gd wd B'):GL wd kd D B' outs H h :=
 have z:∀a,kd a≠.free→B'.get? a=Option.none:=fun a q=>by
   cases e:B'.get? a with
   |none=>rfl
   |some o=>have:=k a o e;replace this:=(x.hid a q)▸this;cases this
 {x with base:=k.trans x.base,gd:=g,hid:=z }
theorem GL.keepBig{kd':Addr→Kd}{D':Addr→Addr}{H':Hp}{outs':List (Addr×(Str→Option Value))}(x:GL wd kd D B outs H h)(y:GL wd kd' D' (Internal.big kd h) outs' H' h'):Keep h h':=fun b o e i=>by
 have:¬ kd b≠.free:=fun q=>x.nimm b o q e i
 exact y.base b o ((dM h _ this).trans e)
end
end
section
structure SC where
 sc:Scope
 nid:Str→Option Nat
 gk:Str→Option GK
 lam:Pos→Option (Nat×List Nat)
noncomputable def Fv:Operator→Option BO
 |.Add=>some .add|.Sub=>some .sub|.Mult=>some .mul|.FloorDiv=>some .fdiv|.Mod=>some .mod|.Pow=>some .pow
 |_=>none
noncomputable def lU:CmpOp→Option CO
 |.Eq=>some .eq|.NotEq=>some .ne|.Lt=>some .lt|.LtE=>some .le|.Gt=>some .gt|.GtE=>some .ge
 |.In=>some .isin|.NotIn=>some .notin|.Is=>some .is|.IsNot=>some .isnot
noncomputable def iK(k:Option NameKind):Prop:=k=some .cell∨k=some .free
noncomputable def SC.kind(z:SC)(x:Str):Option NameKind:=z.sc.names.lookup x
noncomputable def SC.isL(z:SC)(x:Str):Bool:=z.kind x==some .local
noncomputable def SC.isC(z:SC)(x:Str):Bool:=z.kind x==some .cell||z.kind x==some .free
noncomputable def SC.isG(z:SC)(x:Str):Bool:=z.kind x==some .globalImplicit
theorem xu{z:SC}{x:Str}(h:z.isL x=true):z.kind x=some .local:=Ki h
theorem ny{z:SC}{x:Str}(h:z.isG x=true):z.kind x=some .globalImplicit:=Ki h
theorem xv{z:SC}{x:Str}(h:z.isC x=true):iK (z.kind x):=((Bool.or_eq_true _ _).mp h).imp Ki Ki
noncomputable def SC.sees(z:SC)(s:Scope):Bool:=s.names.all fun x=>x.2 != .free||z.isC x.1
noncomputable def SC.compOk(z:SC)(s:Scope):Bool:=decide (s.kind=.function)&&z.sees s&&s.names.all fun x=>x.2 != .cell&&(x.2 != .local||s.names.lookup x.1==some .local)
noncomputable def dY:Expr→Bool
 |.ListComp ..=>true
 |_=>false
noncomputable def kA(a:Arguments):Bool:=a.posonlyargs.isEmpty&&a.vararg.isNone&&a.kwonlyargs.isEmpty&&a.kwarg.isNone&&a.args.all fun x=>x.annotation.isNone
noncomputable def qi:Expr→Bool
 |.Tuple vs _ _=>vs.all (foldedForSure 8)||!vs.all (constantsAlone 8)
 |_=>true
noncomputable def eE:Expr→Bool
 |.Call (.Name ..) [] [] _=>true
 |_=>false
noncomputable def cG:Expr→Bool
 |.BoolOp ..|.BinOp ..|.UnaryOp ..|.Lambda ..|.IfExp ..|.Dict ..|.ListComp ..|.Compare ..|.Call ..|.Constant ..|.Attribute ..|.Subscript ..|.Name ..|.List ..|.Tuple ..=>true
 |_=>false
noncomputable def jh:Expr→Option Str
 |.Name id _=>some id
 |_=>none
noncomputable def mP:Expr→Option Str
 |.Constant c _ _=>match c with|.str s=>some s|_=>none
 |_=>none
noncomputable def mR:Expr→Option (Option Expr×Option Expr×Option Expr)
 |.Slice a b c _=>some (a,b,c)
 |_=>none
noncomputable def nL:Expr→Option (Expr×List Expr×List Keyword)
 |.Call f as ks _=>some (f,as,ks)
 |_=>none
inductive IsName(e:Expr)(id:Str):Prop|mk (p:Pos):e=.Name id p→IsName e id
inductive IsStr(e:Expr)(s:Str):Prop|mk (n:Nat) (p:Pos):e=.Constant (.str s) n p→IsStr e s
inductive IsSlc(e:Expr)(t:Option Expr×Option Expr×Option Expr):Prop|mk (p:Pos):e=.Slice t.1 t.2.1 t.2.2 p→IsSlc e t
inductive IsCall(e:Expr)(t:Expr×List Expr×List Keyword):Prop|mk (p:Pos):e=.Call t.1 t.2.1 t.2.2 p→IsCall e t
theorem iQ{e:Expr}{id:Str}:jh e=some id→IsName e id:=by
 apply @Expr.casesOn (fun e=>jh e=some id→IsName e id) e
 case Name=>intro _ _ h;obtain rfl:=oInj h;exact⟨_,rfl⟩
 all_goals (intros;exact nS ‹_›)
theorem qN{e:Expr}{s:Str}:mP e=some s→IsStr e s:=by
 apply @Expr.casesOn (fun e=>mP e=some s→IsStr e s) e
 case Constant =>
  intro c n p
  apply @Const.casesOn (fun c=>mP (.Constant c n p)=some s→IsStr (.Constant c n p) s) c
  case str=>intro _ h;obtain rfl:=oInj h;exact⟨_,_,rfl⟩
  all_goals (intros;exact nS ‹_›)
 all_goals (intros;exact nS ‹_›)
theorem yO{e:Expr}{t}:mR e=some t→IsSlc e t:=by
 apply @Expr.casesOn (fun e=>mR e=some t→IsSlc e t) e
 case Slice=>intro _ _ _ _ h;obtain rfl:=oInj h;exact⟨_,rfl⟩
 all_goals (intros;exact nS ‹_›)
theorem pU{e:Expr}{t}:nL e=some t→IsCall e t:=by
 apply @Expr.casesOn (fun e=>nL e=some t→IsCall e t) e
 case Call=>intro _ _ _ _ h;obtain rfl:=oInj h;exact⟨_,rfl⟩
 all_goals (intros;exact nS ‹_›)
noncomputable def bL(z:SC)(t:Expr):Option (Nat×Bool):=bo (jh t) fun id=>bo (z.nid id) fun x=>gW (z.isL id) (some (x,false)) (bu (z.kind id==some .cell) (some (x,true)))
noncomputable def qo(z:SC)(t:Expr):Option Nat:=bo (bL z t) fun x=>bu (!x.2) (some x.1)
noncomputable abbrev cA:=Expr→SC→Option PE
noncomputable abbrev cD(r:cA)(es:List Expr)(z:SC):Option (List PE):=bZ (fun e=>r e z) es
noncomputable def ux(n:Nat)(f:List PE→PE)(o:Option (List PE)):Option PE:=bo o fun l=>bu (decide (l.length≤n)) (some (f l))
inductive Few(n:Nat)(f:List PE→PE)(o:Option (List PE))(pe:PE):Prop|mk (l:List PE):o=some l→l.length≤n→pe=f l→Few n f o pe
theorem kM{n:Nat}{f:List PE→PE}{o:Option (List PE)}{pe:PE}(h:ux n f o=some pe):Few n f o pe:=by
 obtain⟨l,h1,h2⟩:=aw h
 exact⟨l,h1,Kn (aX h2),(oInj (aO h2)).symm⟩
noncomputable def qO(r:cA)(e:Option Expr)(z:SC):Option (Option PE):=match e with
 |none=>some none
 |some e=>b1 (r e z) some
section
variable (r:cA) (z:SC)
noncomputable def Al:Const→Option PE
 |.none=>some .none
 |.bool b=>some (.bool b)
 |.int i=>some (.int i)
 |.str s=>b1 (z.nid s) .str
 |_=>none
noncomputable def Iq:GK→Option PE
 |.const g=>some (.glob g)
 |.fn f=>some (.fref f)
 |.cls _=>none
noncomputable def AW(id:Str):Option PE:=gW (z.isL id) (b1 (z.nid id) .loc) (gW (z.isC id) (b1 (z.nid id) .cel) (bu (z.isG id) (bo (z.gk id) Iq)))
noncomputable def yI(e i:Expr):Option PE:=match mR i with
 |some t=>bu t.2.2.isNone (b3 (r e z) (qO r t.1 z) (qO r t.2.1 z) .slc)
 |none=>b2 (r e z) (r i z) .sub
noncomputable def HY(op:UnaryOp)(e:Option PE):Option PE:=match op with
 |.USub=>b1 e .neg
 |.Not=>b1 e .not
 |_=>none
noncomputable def Ap(l:Expr)(ops:List CmpOp)(cs:List Expr):Option PE:=match one ops with
 |some o=>bo (one cs) fun c=>b3 (lU o) (r l z) (r c z) .cmp
 |none=>bo (two ops) fun o=>bo (two cs) fun c=>bo (lU o.1) fun o1=>bo (lU o.2) fun o2=>b3 (r l z) (r c.1 z) (r c.2 z) (.cmp2 o1 o2)
noncomputable def Hf:BoolOp→List PE→PE|.And=>.and|.Or=>.or
noncomputable def Bk(op:BoolOp)(l:Option (List PE)):Option PE:=bo l fun l=>bu (decide (2≤l.length)) (some (Hf op l))
noncomputable def FB(id:Str)(p:PE):Option PE:=gW (id == "len") (some (.len p)) (gW (id == "abs") (some (.abs p)) (gW (id == "tuple") (some (.tupOf p)) (bu (id == "list") (some (.lstOf p)))))
noncomputable def Fz(id:Str)(as:List Expr):Option PE:=gW (id == "max") (bo (two as) fun p=>b2 (r p.1 z) (r p.2 z) .max) (bo (one as) fun a=>bo (r a z) (FB id))
noncomputable def Ip(as:Option (List PE)):GK→Option PE
 |.fn f=>ux 9 (.callg f) as
 |.cls k=>ux 9 (.new k) as
 |.const _=>none
noncomputable def yx(f:Expr)(as:List Expr):Option PE:=bo (r f z) fun pf=>ux 9 (.callv pf) (cD r as z)
noncomputable def zZ(id:Str)(as:List Expr):Option PE:=match z.gk id with
 |some k=>Ip (cD r as z) k
 |none=>Fz r z id as
noncomputable def qy(f:Expr)(as:List Expr)(pos:Pos):Option PE:=match f with
 |.Name id _=>gW (z.isG id) (zZ r z id as) (yx r z f as)
 |.Subscript ..=>yx r z f as
 |.Attribute o a apos=>bu (!eE o&&apos.endLine==pos.line) (bo (cD r as z) fun l=>bu (decide (l.length<10)) (b2 (r o z) (z.nid a) fun o a=>.mcall o a l))
 |_=>none
noncomputable def u9(it:Expr):Option Expr:=bo (nL it) fun t=>bu t.2.2.isEmpty (bo (jh t.1) fun id=>bu (id == "range" && z.isG id&&(z.gk id).isNone) (one t.2.1))
noncomputable def qp(it:Expr):Option (Bool×PE):=match u9 z it with
 |some e=>b1 (r e z) (Prod.mk true)
 |none=>b1 (r it z) (Prod.mk false)
noncomputable def vS(ifs:List Expr):Option (Option PE):=match ifs with
 |[]=>some none
 |_=>bo (one ifs) fun c=>b1 (r c z) some
noncomputable def Fs(elt:Expr)(sc:Scope)(g:Comprehension):Option PE:=bu (decide (g.is_async=0)) (bo (vS r { z with sc:=sc } g.ifs) fun c=>bo (qp r z g.iter) fun it=>b2 (qo { z with sc:=sc } g.target) (r elt { z with sc:=sc }) fun x e=>.comp e x it.1 it.2 c)
noncomputable def Fq(elt:Expr)(sc:Scope)(g:Comprehension×Comprehension):Option PE:=bu (decide (g.1.is_async=0)&&decide (g.2.is_async=0)&&g.1.ifs.isEmpty&&g.2.ifs.isEmpty) (bo (qo { z with sc:=sc } g.1.target) fun x=>bo (qo { z with sc:=sc } g.2.target) fun y=>b3 (r g.1.iter z) (r g.2.iter { z with sc:=sc }) (r elt { z with sc:=sc }) fun a b e=>.comp2 e x a y b)
noncomputable def qw(elt:Expr)(gs:List Comprehension)(sc:Scope):Option PE:=bu (z.compOk sc) (match one gs with
 |some g=>Fs r z elt sc g
 |none=>bo (two gs) (Fq r z elt sc))
noncomputable def zK(k:Option Expr):Option Nat:=bo k fun e=>bo (mP e) z.nid
noncomputable def dictS(ks:List (Option Expr))(vs:List Expr):Option PE:=bo (bZ (zK z) ks) fun k=>bo (cD r vs z) fun v=>bu (decide (k.length=v.length)&&decide (k.length≤15)) (some (.dict k v))
noncomputable def qu(e:Expr):Option PE:=match e with
 |.BoolOp op es _=>Bk op (cD r es z)
 |.BinOp a op b _=>b3 (Fv op) (r a z) (r b z) .bin
 |.UnaryOp op e _=>HY op (r e z)
 |.Lambda args body scope pos=>bu (z.sees scope) (b1 (z.lam pos) fun p=>.lam p.1 p.2 ⟨"<lambda>",args,.expr body,scope,pos⟩)
 |.IfExp t a b _=>b3 (r t z) (r a z) (r b z) .ite
 |.Dict ks vs _=>dictS r z ks vs
 |.ListComp elt gs sc _=>qw r z elt gs sc
 |.Compare l ops cs _=>Ap r z l ops cs
 |.Call f as ks pos=>bu ks.isEmpty (qy r z f as pos)
 |.Constant c _ _=>Al z c
 |.Attribute e a _=>bu (!eE e) (b2 (r e z) (z.nid a) .attr)
 |.Subscript e i _=>yI r z e i
 |.Name id _=>AW z id
 |.List es _=>ux 100 .lst (cD r es z)
 |.Tuple es _ _=>ux 100 .tup (cD r es z)
 |_=>none
end
noncomputable def eN:Nat→cA
 |0=>fun zz zz=>none
 |n+1=>fun e z=>bu (cG e) (qu (eN n) z e)
noncomputable def dR:cA:=eN 40
section
variable (r:cA) (z:SC) (rs:Stmt→Option PS)
noncomputable def Aq(z:SC)(id:Str):Option Nat:=bu (z.isG id) (bo (z.gk id) fun k=>match k with|.cls k=>some k|_=>none)
noncomputable def HW(x:Nat×Bool)(e:PE):PS:=match x.2 with|false=>.asg x.1 e|true=>.asgc x.1 e
noncomputable def AD(v t:Expr):Option PS:=match t with
 |.Name ..=>b2 (bL z t) (r v z) HW
 |.Tuple ts _ _=>bu (!dY v&&qi v) (bo (bZ (bL z) ts) fun xs=>bu (decide (xs.map (·.1)).Nodup&&decide (2≤xs.length)) (b1 (r v z) (.asgt xs)))
 |.Attribute o a _=>bu (!dY v) (b3 (r o z) (z.nid a) (r v z) .seta)
 |.Subscript o i _=>bu (!dY v) (b3 (r o z) (r i z) (r v z) .seti)
 |_=>none
noncomputable def wJ(e:Expr):Option PS:=bo (nL e) fun t=>bu t.2.2.isEmpty (bo (jh t.1) fun id=>bo (one t.2.1) fun a=>bu (mP a).isSome (b1 (Aq z id) .raise))
noncomputable def qt(h:ExceptHandler):Option (Nat×List PS):=match h with
 |.ExceptHandler t n b _=>bu (n.isNone&&!b.isEmpty) (bo t fun t=>bo (jh t) fun id=>b2 (Aq z id) (bZ rs b) Prod.mk)
noncomputable def u7(s:Stmt):Option PS:=match s with
 |.FunctionDef name args body ds ret tp scope ts bind pos=>bu (ds.isEmpty&&ret.isNone&&tp.isEmpty&&ts.isNone&&z.sees scope&&name==bind&&kA args)
   (b2 (z.lam pos) (bL z (.Name name pos)) fun p x=>.def_ x.1 x.2 p.1 p.2 ⟨name,args,.stmts body,scope,pos⟩)
 |.Return e _=>bo e fun e=>b1 (r e z) .ret
 |.Assign ts v _=>bo (one ts) (AD r z v)
 |.For t it b o _=>bu o.isEmpty (b3 (bL z t) (qp r z it) (bZ rs b) fun x p b=>.for_ x.1 x.2 p.1 p.2 b)
 |.While t b o _=>bu o.isEmpty (b2 (r t z) (bZ rs b) .while_)
 |.If t b o _=>b3 (r t z) (bZ rs b) (bZ rs o) .ite
 |.Raise e c _=>bu c.isNone (match e with|some e=>wJ z e|none=>some .reraise)
 |.Try b hs o f _=>bu (o.isEmpty&&f.isEmpty&&!hs.isEmpty) (b2 (bZ rs b) (bZ (qt z rs) hs) .try_)
 |.Expr v _=>bu (!dY v) (b1 (r v z) .expr)
 |.Continue _=>some .cont
 |_=>none
end
noncomputable def sN:Nat→SC→Stmt→Option PS
 |0,_=>fun zz=>none
 |n+1,z=>u7 dR z (sN n z)
noncomputable def qk(z:SC)(b:List Stmt):Option (List PS):=bZ (sN 40 z) b
end
section
set_option genInjectivity false in
structure Ctx where
 A:Around
 env:Env
 c:Cx
 outs:List (Addr×(Str→Option Value))
 envs:List Env
 z:SC
 d:Nat
inductive LamFi(wd:Wd)(q:Str)(cv:Value)(f:Nat)(fr:List Nat)(nd:Node):Prop
 |mk (fi:FnInfo) (c P:Addr):wd.FI f=some fi→fi.args=nd.args→fi.body=nd.body→fi.scope=nd.scope→fi.qual=q++nd.name→cv=.ref c→(c,P)∈wd.tabs→wd.pq nd.pos=fi.qual→fi.dflts=[]→fi.tab=none→fi.free=fr→(fi.cells≠[]→fr=[])→LamFi wd q cv f fr nd
structure LamOK(wd:Wd)(env:Env)(f:Nat)(fr:List Nat)(nd:Node):Prop where
 fi:LamFi wd env.qual env.code f fr nd
 plain:nd.args.defaults=[]∧nd.args.kwonlyargs=[]∧nd.args.kw_defaults=[]
 out:∀i∈fr,(wd.nm i,.free)∈nd.scope.names
 back:∀x∈nd.scope.names,x.2=.free→∃i∈fr,wd.nm i=x.1
structure Ctx.OK(wd:Wd)(X:Ctx):Prop where
 frames:X.A.frames=some X.envs
 fr:∀e∈X.envs,e.scope.kind≠.module∧∃L,e.frame=some L∧L∈X.env.locals::X.outs.map (·.1)
 ne:∀q∈X.outs,q.1≠X.env.locals
 kind:X.env.scope.kind=.function
 globals:X.env.globals=mainGlobals
 builtins:X.env.builtins=builtinsNs
 loc:∀x,X.z.kind x=some .local→X.env.kindOf x=some .local
 cel:∀x,iK (X.z.kind x)→iK (X.env.kindOf x)
 glo:∀x,X.z.kind x=some .globalImplicit→X.env.kindOf x=some .globalImplicit
 nid:∀s i,X.z.nid s=some i→wd.nm i=s
 gk:∀s,X.z.gk s=wd.glob s
 cells:∀x a,X.c.C.lookup x=some a→iK (X.z.kind (wd.nm x))→X.env.cells.lookup (wd.nm x)=some a
 hasC:∀x,iK (X.z.kind x)→∃i a,wd.nm i=x∧X.c.C.lookup i=some a
 lam:∀f fr nd,X.c.LN f=some (fr,nd)→LamOK wd X.env f fr nd
 GC:X.c.GC=wd.GC
 CI:X.c.CI=wd.CI
 mth:X.c.mth=wd.mth
 attrs:X.c.attrs=wd.attrs
 handled:X.c.hc=none→X.A.handled=none
 depth:X.A.depth+10*X.d+20<recursionLimit
 units:X.A.units+20*X.d+230<cLine
structure ClsOK(wd:Wd)(C:Addr)(ci:ClsInfo):Prop where
 get:plainGet wd.K C Str.empty=true
 hasD:hasDictIn wd.K C=true
 set:findIn wd.K (.ref C) "__setattr__" = some (some (.builtin "object.__setattr__"))
 over:plainOver wd.K C=true
 makes:makesIn wd.K C=true
 keep:keepIn wd.K (.ref C)=true
 init:∃f,findIn wd.K (.ref C) "__init__" = some (some (.ref f))∧typeIn wd.K (.ref f)=some (.type "function")∧∀h,Gd wd h→VR wd h (.clo ci.init []) (.ref f)
 attr:∀a∈wd.attrs,findIn wd.K (.ref C) (wd.nm a)=some none
 meth:∀m f,ci.meths.lookup m=some f→m∉wd.attrs∧∃a,findIn wd.K (.ref C) (wd.nm m)=some (some (.ref a))∧typeIn wd.K (.ref a)=some (.type "function")∧∀h,Gd wd h→VR wd h (.clo f []) (.ref a)
structure Wd.OK(wd:Wd):Prop where
 pql:∀p p':Pos,p.line=p'.line→p.col=p'.col→wd.pq p=wd.pq p'
 mthn:wd.nm wd.mth.1 = "append" ∧ wd.nm wd.mth.2.1 = "pop" ∧ wd.nm wd.mth.2.2.1 = "extend" ∧ wd.nm wd.mth.2.2.2 = "get"
 gdbg:wd.glob "__debug__" = none
 dbg:∀i,wd.nm i ≠ "__debug__" ∧ wd.nm i ≠ "__classdict__" ∧ wd.nm i ≠ "super"
 cst:∀s g v,wd.glob s=some (.const g)→wd.GC g=some v→∃x,wd.mg s=some x∧∀h,Gd wd h→VR wd h v x
 fns:∀s f,wd.glob s=some (.fn f)→∃x,wd.mg s=some x∧∀h,Gd wd h→VR wd h (.clo f []) x
 cls:∀s k,wd.glob s=some (.cls k)→∃C,wd.clsA k=some C∧wd.mg s=some (.ref C)
 inst:∀k C ci,wd.clsA k=some C→wd.CI k=some ci→ClsOK wd C ci
 blt:∀s v,(s,v)∈[(("len" : Str),Value.builtin "len"),("abs",.builtin "abs"),("tuple",.type "tuple"),("list",.type "list"),("max",.builtin "max"),("range",.type "range")]→wd.glob s=none→wd.mg s=none∧wd.mb s=some v
noncomputable def LR(wd:Wd)(h:Heap)(L:Lc)(m:Str→Option Value):Prop:=∀x v,L x=some v→∃y,m (wd.nm x)=some y∧VR wd h v y
theorem LR.keeps{wd:Wd}{h h':Heap}{L m}(x:LR wd h L m)(k:Keep h h'):LR wd h' L m:=fun i v e=>let ⟨y,a,b⟩:=x i v e;⟨y,a,b.keeps k⟩
theorem LR.set{wd:Wd}{h:Heap}{L m}(x:LR wd h L m){i:Nat}{v:V}{y:Value}(r:VR wd h v y):LR wd h (upd L i v) (fun n=>if n=wd.nm i then some y else m n):=fun j w e=>by
 rcases hY e with ⟨rfl,rfl⟩|⟨n,z⟩
 ·exact⟨y,Kh rfl,r⟩
 ·obtain⟨y',a,b⟩:=x j w z
  exact⟨y',(Kg fun q=>n (wd.inj _ _ q)).trans a,b⟩
inductive GlS(wd:Wd)(B:Heap)(outs:List (Addr×(Str→Option Value)))(H:Hp)(h:Heap):Prop|mk (kd:Addr→Kd) (D:Addr→Addr):GL wd kd D B outs H h→GlS wd B outs H h
structure SS(wd:Wd)(X:Ctx)(B:Heap)(m:Str→Option Value)(σ:St)(s:Shared):Prop where
 gl:GlS wd B ((X.env.locals,m)::X.outs) σ.H s.heap
 lr:LR wd s.heap σ.L m
 gens:s.gens=#[]
 os:s.os=wd.os0
inductive FlAt(fL:Option Addr)(x:Option Value):Prop
 |none:x=some .none→FlAt fL x
 |some (f:Addr):fL=some f→x=some (rawInt f)→FlAt fL x
inductive TbAt(kd:Addr→Kd)(h:Heap)(fL:Option Addr)(a:Addr)(vs:Array Value):Prop
 |none:vs[1]?=some .none→TbAt kd h fL a vs
 |some (T:Addr) (oT:Obj) (ts:Array Value):vs[1]?=some (.ref T)→T≠a→kd T=.exc→h.get? T=some oT→oT.cls≠.type "code" → oT.data=.fields ts→FlAt fL ts[3]?→TbAt kd h fL a vs
inductive ExcAt(wd:Wd)(kd:Addr→Kd)(h:Heap)(fL:Option Addr)(k:Nat)(e:Value):Prop
 |mk (a:Addr) (oe:Obj) (C:Addr) (vs:Array Value):e=.ref a→kd a=.exc→h.get? a=some oe→wd.clsA k=some C→oe.cls=.ref C→oe.data=.fields vs→TbAt kd h fL a vs→ExcAt wd kd h fL k e
inductive GlX(wd:Wd)(X:Ctx)(B:Heap)(outs:List (Addr×(Str→Option Value)))(H:Hp)(k:Nat)(e:Value)(h:Heap):Prop|mk (kd:Addr→Kd) (D:Addr→Addr):GL wd kd D B outs H h→ExcAt wd kd h X.env.frame k e→GlX wd X B outs H k e h
structure XS(wd:Wd)(X:Ctx)(B:Heap)(m:Str→Option Value)(σ:St)(k:Nat)(e:Value)(s:Shared):Prop where
 gl:GlX wd X B ((X.env.locals,m)::X.outs) σ.H k e s.heap
 lr:LR wd s.heap σ.L m
 gens:s.gens=#[]
 os:s.os=wd.os0
inductive PV(wd:Wd)(X:Ctx)(B:Heap)(s:Shared){α β:Type}(R:Heap→β→α→Prop)(Q:β→St→Prop)(a:α)(s':Shared):Prop|mk (b:β) (σ':St) (m':Str→Option Value):SS wd X B m' σ' s'→R s'.heap b a→Keep s.heap s'.heap→Q b σ'→PV wd X B s R Q a s'
inductive PX(wd:Wd)(X:Ctx)(B:Heap)(s:Shared)(E:Nat→St→Prop)(e:Value)(s':Shared):Prop|mk (k:Nat) (σ':St) (m':Str→Option Value):XS wd X B m' σ' k e s'→Keep s.heap s'.heap→E k σ'→PX wd X B s E e s'
noncomputable def J{α β:Type}(wd:Wd)(X:Ctx)(R:Heap→β→α→Prop)(t:Sem α)(P:St→(β→St→Prop)→(Nat→St→Prop)→Prop):Prop :=
 ∀B m σ s Q E,SS wd X B m σ s→P σ Q E→wpAny (model wd.prog wd.w) X.A t (PV wd X B s R Q) (PX wd X B s E) s
section
variable {wd:Wd} {X:Ctx} {B:Heap} {s:Shared} {α β γ δ:Type} {m:Str→Option Value} {σ:St}
theorem PX.trans{s s':Shared}{E:Nat→St→Prop}(k:Keep s.heap s'.heap){e:Value}{s'':Shared}:PX wd X B s' E e s''→PX wd X B s E e s'':=by
 rintro ⟨j,σ',m',x,k',q⟩;exact⟨j,σ',m',x,k.trans k',q⟩
theorem PV.trans{R:Heap→β→α→Prop}{s s':Shared}{Q:β→St→Prop}(k:Keep s.heap s'.heap){a:α}{s'':Shared}:PV wd X B s' R Q a s''→PV wd X B s R Q a s'':=by
 rintro ⟨b,σ',m',x,r,k',q⟩;exact⟨b,σ',m',x,r,k.trans k',q⟩
theorem bY{R:Heap→β→α→Prop}{s s':Shared}{Q:β→St→Prop}{E:Nat→St→Prop}{t:Sem α}(k:Keep s.heap s'.heap)
  (h:wpAny (model wd.prog wd.w) X.A t (PV wd X B s' R Q) (PX wd X B s' E) s'):wpAny (model wd.prog wd.w) X.A t (PV wd X B s R Q) (PX wd X B s E) s' :=
 KC h (fun zz zz=>PV.trans k) fun zz zz=>PX.trans k
theorem step{R:Heap→β→α→Prop}{t:Sem α}{Q:β→St→Prop}{E:Nat→St→Prop}{F:α→Shared→Prop}{s':Shared}(k0:Keep s.heap s'.heap)
  (h:wpAny (model wd.prog wd.w) X.A t (PV wd X B s' R Q) (PX wd X B s' E) s')
  (k:∀a b σ' m' s'',SS wd X B m' σ' s''→R s''.heap b a→Keep s'.heap s''.heap→Q b σ'→F a s'') :
  wpAny (model wd.prog wd.w) X.A t F (PX wd X B s E) s' :=
 KC h (fun a s'' h=>by obtain⟨b,σ',m',x,r,kp,q⟩:=h;exact k a b σ' m' s'' x r kp q) fun zz zz=>PX.trans k0
theorem SS.toks(x:SS wd X B m σ s){n:Nat}:SS wd X B m σ { s with toks:=n }:=⟨x.gl,x.lr,x.gens,x.os⟩
theorem SS.grow(x:SS wd X B m σ s){h':Heap}{n:Nat}(k:Sub s.heap h'):SS wd X B m σ { s with heap:=h',toks:=n } :=
 ⟨let ⟨kd,D,g⟩:=x.gl;⟨kd,D,g.grow k⟩,x.lr.keeps k.keep,x.gens,x.os⟩
theorem SS.push(x:SS wd X B m σ s)(o:Obj){n:Nat}:SS wd X B m σ { s with heap:=s.heap.push o,toks:=n }:=x.grow (Sub.push _ _)
theorem cY{R:Heap→β→α→Prop}{Q:β→St→Prop}{b:β}{a:α}(x:SS wd X B m σ s)(r:R s.heap b a)(q:Q b σ):PV wd X B s R Q a s:=⟨b,σ,m,x,r,Keep.refl _,q⟩
theorem bh{R:Heap→β→α→Prop}{Q:β→St→Prop}{b:β}{a:α}{s':Shared}(x:SS wd X B m σ s')(r:R s'.heap b a)(k:Keep s.heap s'.heap)(q:Q b σ):PV wd X B s R Q a s':=⟨b,σ,m,x,r,k,q⟩
end
end
section
noncomputable def nmS:List String:=["__name__", "ledgerspeak.codes", "LET", "Code", "__init__", "self", "ops", "begins", "told", "tuple", "labels_of", "op", "choose", "jump", "push", "calc", "put", "key", "test", "less", "relabelled", "change", "label", "goes_on", "stop", "ledgerspeak.errors", "LedgerError", "Exception", "what", "at", "RunFault", "SizeFault", "StepFault", "ledgerspeak.decimals", "MOST_PLACES", "MOST_POWER", "MOST_FIGURES", "cut_quotient", "top", "bottom", "abs", "decimal", "units", "scale", "kept", "fits", "more figures than are kept", "units_beside", "a", "b", "max", "plus", "first", "second", "minus", "times", "negated", "quotient", "many", "a division by 0", "power", "a power out of bounds", "found", "turn", "range", "units_at", "is_rounded", "size", "half", "is_whole", "whole_of", "digits", "ledgerspeak.machine", "MOST_FRAMES", "NO_LABEL", "Frame", "last", "behind", "slots", "Machine", "code", "deeds", "place", "stack", "frames", "", "word", "give_up", "calculated", "sign", "+", "-", "*", "/", "worth_by", "machine", "number", "pop", "neg", "do_reckon", "append", "do_put", "do_deed", "do", "do_key", "do_test", "do_jump", "do_choose", "worth", "len", "begin_frame", "PERFORM lies too deep", "leave_frame", "do_count", "do_less", "get", "do_stop", "op_table", "perform", "leave", "count", "run_code", "limit", "table", "steps", "nothing stands behind the last op", "more steps than are let", "ledgerspeak.peephole", "entered_places", "passes_over", "there", "way_on", "asked", "led", "without_idle", "lasts", "is_idle", "is_number_push", "worth_ahead", "worths", "numbers_folded", "is_entry", "line", "asked_once", "holding", "places_behind", "list", "come_to", "extend", "pressed", "ahead", "left", "without_unreached", "is_met", "met", "begin", "one_round", "shortened", "shorter", "moved_begins", "ledgerspeak.runner", "Deeds", "law_og0097_01", "_law_draw", "tape", "cells", "spot", "cell", "_law_conds", "ZERO", "ref", "A", "class", "NUMERIC", "B", "_law_keys", "end", "_law_signs", "**", "_law_operands", "X", "Y", "_law_unit", "kind", "other", "display", "row", "exit", "_law_settled", "starts", "_law_code", "heads", "paragraph", "unit", "head", "_law_run", "trace", "reply", "do_one", "statement", "put_one", "rows", "is_over", "number_for", "operand", "cond", "fault", "_law_labels", "_law_end", "_law_is_neat", "entry", "ways", "law", "script", "other_end"]
noncomputable def nmL:List Str:=nmS.map Str.ofString
noncomputable def nid0(x:Str):Option Nat:=nmL.findIdx? (·==x)
noncomputable def gkL:List (Nat×GK):=[(2,.const 0),(34,.const 1),(35,.const 2),(36,.const 3),(73,.const 4),(74,.const 5),(168,.const 6),(175,.const 7),(177,.const 8),(179,.const 9),(10,.fn 0),(20,.fn 1),(23,.fn 2),(37,.fn 3),(41,.fn 4),(44,.fn 5),(47,.fn 6),(51,.fn 7),(54,.fn 8),(55,.fn 9),(56,.fn 10),(57,.fn 11),(60,.fn 12),(65,.fn 13),(69,.fn 14),(70,.fn 15),(45,.fn 16),(88,.fn 17),(94,.fn 18),(99,.fn 19),(101,.fn 20),(102,.fn 21),(104,.fn 22),(105,.fn 23),(106,.fn 24),(107,.fn 25),(110,.fn 26),(112,.fn 27),(113,.fn 28),(114,.fn 29),(116,.fn 30),(117,.fn 31),(121,.fn 32),(128,.fn 33),(129,.fn 34),(131,.fn 35),(133,.fn 36),(134,.fn 37),(137,.fn 38),(138,.fn 39),(140,.fn 40),(143,.fn 41),(145,.fn 42),(147,.fn 43),(149,.fn 44),(152,.fn 45),(156,.fn 46),(157,.fn 47),(163,.fn 48),(182,.fn 49),(188,.fn 50),(190,.fn 51),(195,.fn 52),(207,.fn 53),(208,.fn 54),(209,.fn 55),(212,.fn 56),(3,.cls 0),(26,.cls 1),(30,.cls 2),(31,.cls 3),(32,.cls 4),(75,.cls 5),(79,.cls 6),(161,.cls 7)]
noncomputable def gk0(x:Str):Option GK:=(nid0 x).bind fun i=>gkL.lookup i
noncomputable def lamL:List ((Nat×Nat)×(Nat×List Nat)):=[((230,31),(65,[11,6])),((326,27),(66,[150])),((415,4),(67,[196,165])),((419,4),(68,[197,196])),((424,4),(69,[197,196])),((429,4),(70,[197])),((435,26),(71,[197]))]
noncomputable def lam0(p:Pos):Option (Nat×List Nat):=lamL.lookup (p.line,p.col)
noncomputable def tX(s:Scope):SC:=⟨s,nid0,gk0,lam0⟩
noncomputable def ar(n:Str):List Stmt→Option (Arguments×List Stmt×Scope)
 |[]=>none
 |.FunctionDef m args body _ _ _ sc _ _ _::r=>if m==n then some (args,body,sc)else ar n r
 |_::r=>ar n r
noncomputable def d9(n:Str):List Stmt→List Stmt
 |[]=>[]
 |.ClassDef m _ _ b _ _ _ _ _ _ _::r=>if m==n then b else d9 n r
 |_::r=>d9 n r
noncomputable def aL:List Stmt:=PySem.Challenge.pw_og0097_01.main.body
noncomputable def Ir:List (Option (Arguments×List Stmt×Scope)):=[ar "labels_of" aL,ar "relabelled" aL,ar "goes_on" aL,ar "cut_quotient" aL,ar "decimal" aL,ar "kept" aL,ar "units_beside" aL,ar "plus" aL,ar "minus" aL,ar "times" aL,ar "negated" aL,ar "quotient" aL,ar "power" aL,ar "units_at" aL,ar "is_whole" aL,ar "whole_of" aL,ar "fits" aL,ar "calculated" aL,ar "worth_by" aL,ar "do_reckon" aL,ar "do_put" aL,ar "do_deed" aL,ar "do_key" aL,ar "do_test" aL,ar "do_jump" aL,ar "do_choose" aL,ar "begin_frame" aL,ar "leave_frame" aL,ar "do_count" aL,ar "do_less" aL,ar "do_stop" aL,ar "op_table" aL,ar "run_code" aL,ar "entered_places" aL,ar "passes_over" aL,ar "way_on" aL,ar "led" aL,ar "without_idle" aL,ar "is_number_push" aL,ar "worth_ahead" aL,ar "numbers_folded" aL,ar "asked_once" aL,ar "places_behind" aL,ar "come_to" aL,ar "pressed" aL,ar "without_unreached" aL,ar "one_round" aL,ar "shortened" aL,ar "_law_draw" aL,ar "_law_unit" aL,ar "_law_settled" aL,ar "_law_code" aL,ar "_law_run" aL,ar "_law_labels" aL,ar "_law_end" aL,ar "_law_is_neat" aL,ar "law" aL,ar "__init__" (d9 "Code" aL),ar "told" (d9 "Code" aL),ar "__init__" (d9 "LedgerError" aL),ar "told" (d9 "LedgerError" aL),ar "__init__" (d9 "Frame" aL),ar "__init__" (d9 "Machine" aL),ar "give_up" (d9 "Machine" aL),ar "__init__" (d9 "Deeds" aL),none,none,(bo (ar "_law_run" aL) fun x=>ar "reply" x.2.1),(bo (ar "_law_run" aL) fun x=>ar "do_one" x.2.1),(bo (ar "_law_run" aL) fun x=>ar "put_one" x.2.1),(bo (ar "_law_run" aL) fun x=>ar "number_for" x.2.1)]
noncomputable def nE(f:Nat):Option (Arguments×List Stmt×Scope):=bo Ir[f]? id
end
section
noncomputable abbrev JV(wd:Wd)(X:Ctx)(t:Sem Value)(P:St→(V→St→Prop)→(Nat→St→Prop)→Prop):Prop:=J wd X (VR wd) t P
noncomputable abbrev JE(wd:Wd)(X:Ctx)(e:Expr)(pe:PE):Prop:=JV wd X (eval e X.env) (wE pe X.c)
noncomputable abbrev BR:Heap→Bool→Bool→Prop:=fun zz b a=>b=a
noncomputable abbrev JT(wd:Wd)(X:Ctx)(e:Expr)(pe:PE):Prop:=J wd X BR (isTrue e X.env (eval e X.env)) (fun σ Q E=>wT pe (fun Q=>wE pe X.c σ Q E) X.c σ Q E)
structure EOK(wd:Wd)(X:Ctx)(e:Expr)(pe:PE):Prop where
 good:cG e=true
 je:JE wd X e pe
 jt:JT wd X e pe
noncomputable abbrev RX(wd:Wd)(X:Ctx)(r:cA):Prop:=∀e pe,r e X.z=some pe→EOK wd X e pe
inductive IntR(v:V)(x:Value)(i:Int):Prop|mk (t:Tok):v=.int i→x=.int i t→IntR v x i
inductive StrR(wd:Wd)(v:V)(x:Value)(i:Nat):Prop|mk (t:Tok):v=.str i→x=.str (wd.nm i) t→StrR wd v x i
inductive TupR(wd:Wd)(h:Heap)(v:V)(x:Value)(vs:List V):Prop|mk (a:Addr) (items:List Value):v=.tup vs→x=.ref a→IsTup h a items.toArray→items.length≤sizeLine→VRs wd h vs items→TupR wd h v x vs
inductive ObjR(v:V)(x:Value)(a:Nat):Prop|mk:v=.obj a→x=.ref a→ObjR v x a
section
variable {wd:Wd} {X:Ctx}
theorem VR.int_{h:Heap}{v:V}{x:Value}{i:Int}(r:VR wd h v x):v.int?=some i→IntR v x i:=by
 apply @VR.casesOn wd h (fun v x zz=>v.int?=some i→IntR v x i) _ _ r
 case int=>intro j t e;obtain rfl:=oInj e;exact⟨_,rfl,rfl⟩
 all_goals (intros;exact nS ‹_›)
theorem VR.str_{h:Heap}{v:V}{x:Value}{i:Nat}(r:VR wd h v x):v.str?=some i→StrR wd v x i:=by
 apply @VR.casesOn wd h (fun v x zz=>v.str?=some i→StrR wd v x i) _ _ r
 case str=>intro j t e;obtain rfl:=oInj e;exact⟨_,rfl,rfl⟩
 all_goals (intros;exact nS ‹_›)
theorem VR.tup_{h:Heap}{v:V}{x:Value}{vs:List V}(r:VR wd h v x):v.tup?=some vs→TupR wd h v x vs:=by
 apply @VR.casesOn wd h (fun v x zz=>v.tup?=some vs→TupR wd h v x vs) _ _ r
 case tup=>intro _ _ _ t l q e;obtain rfl:=oInj e;exact⟨_,_,rfl,rfl,t,l,q⟩
 all_goals (intros;exact nS ‹_›)
theorem VR.obj_{h:Heap}{v:V}{x:Value}{a:Nat}(r:VR wd h v x):v.obj?=some a→ObjR v x a:=by
 apply @VR.casesOn wd h (fun v x zz=>v.obj?=some a→ObjR v x a) _ _ r
 case obj=>intro j e;obtain rfl:=oInj e;exact⟨rfl,rfl⟩
 all_goals (intros;exact nS ‹_›)
theorem SS.frNs{B m σ s}(S:SS wd X B m σ s):s.heap.Ns X.env.locals m:=let ⟨_,_,g⟩:=S.gl;(g.outs _ (.head _)).2
theorem SS.gd{B m σ s}(S:SS wd X B m σ s):Gd wd s.heap:=let ⟨_,_,g⟩:=S.gl;g.gd.sub g.base
theorem SS.obj{B m σ s}(S:SS wd X B m σ s){a:Addr}{o:AO}(e:σ.H a=some o):∃D,OR wd s.heap D a o:=let ⟨_,D,g⟩:=S.gl;⟨D,(g.own a o e).2⟩
theorem SS.cell{B m σ s}(S:SS wd X B m σ s){a:Addr}{w:Option V}(e:bo (σ.H a) AO.cell?=some w):σ.H a=some (.cell w)∧ORc wd s.heap a w:=by
 obtain⟨o,e1,e2⟩:=aw e
 obtain rfl:=Dj e2
 obtain⟨D,r⟩:=S.obj e1
 exact⟨e1,r⟩
theorem xN(W:wd.OK)(ok:X.OK wd){id:Str}{x:Nat}(hx:X.z.nid id=some x):(id==("__debug__" : Str))=false:=Km.mpr (ok.nid _ _ hx▸(W.dbg x).1)
theorem Av(W:wd.OK)(ok:X.OK wd){id:Str}{x:Nat}(hx:X.z.nid id=some x):(id==("__classdict__" : Str))=false:=Km.mpr (ok.nid _ _ hx▸(W.dbg x).2.1)
theorem jo(W:wd.OK)(ok:X.OK wd){id:Str}{k:GK}(h:X.z.gk id=some k):(id==("__debug__" : Str))=false:=Km.mpr fun z=>nS ((W.gdbg.symm.trans ((ok.gk _).symm.trans (congrArg X.z.gk z).symm)).trans h)
theorem GT(W:wd.OK)(ok:X.OK wd){id:Str}{p:Pos}{x:Nat}(hk:X.z.kind id=some .local)(hx:X.z.nid id=some x):JE wd X (.Name id p) (.loc x):=by
 intro B m σ s Q E S h
 obtain⟨v,hv,q⟩:=nd h
 obtain⟨y,hy,r⟩:=S.lr x v hv
 exact wpAny_Name (wpAny_loadName_local ok.kind (ok.loc _ hk) S.frNs (ok.nid _ _ hx▸hy) (cY S r q)) (xN W ok hx)
theorem GZ(W:wd.OK)(ok:X.OK wd){id:Str}{p:Pos}{x:Nat}(hk:iK (X.z.kind id))(hx:X.z.nid id=some x):JE wd X (.Name id p) (.cel x):=by
 intro B m σ s Q E S h
 obtain⟨a,ha,h⟩:=nd h
 obtain⟨w,hw,h⟩:=nd h
 obtain⟨v,hv,q⟩:=nd h
 have en:=ok.nid _ _ hx
 have hc:=en▸ok.cells x a ha (en.symm▸hk)
 subst hv
 obtain⟨o,y,p,q',y,rfl,rv⟩:=(S.cell hw).2
 refine wpAny_Name ?_ (xN W ok hx)
 rcases ok.cel _ hk with k|k
 ·exact wpAny_loadName_cell ok.kind k hc ⟨_,p,q'⟩ (cY S rv q)
 ·exact wpAny_loadName_free ok.kind k hc ⟨_,p,q'⟩ (cY S rv q) (Av W ok hx)
theorem eW(W:wd.OK)(ok:X.OK wd){B m σ s}(S:SS wd X B m σ s){id:Str}{p:Pos}{v:Value}{Q:Value→Shared→Prop}{E:Value→Shared→Prop}(hk:X.z.kind id=some .globalImplicit)(hm:wd.mg id=some v)
  (hd:(id==("__debug__" : Str))=false) (q:Q v s):wpAny (model wd.prog wd.w) X.A (eval (.Name id p) X.env) Q E s :=
 Name_function_global ok.kind (ok.glo _ hk) (loadGlobal_global (by refine ab ok.globals ?_;exact S.gd.g) hm q) hd
theorem uJ(W:wd.OK)(ok:X.OK wd){B m σ s}(S:SS wd X B m σ s){id:Str}{p:Pos}{v:Value}{Q:Value→Shared→Prop}{E:Value→Shared→Prop}(hk:X.z.kind id=some .globalImplicit)(hm:wd.mg id=none)(hb:wd.mb id=some v)
  (hd:(id==("__debug__" : Str))=false) (q:Q v s):wpAny (model wd.prog wd.w) X.A (eval (.Name id p) X.env) Q E s :=
 Name_function_global ok.kind (ok.glo _ hk) (loadGlobal_builtin (by refine ab ok.globals ?_;exact S.gd.g) hm (by refine ab ok.builtins ?_;exact S.gd.b) hb q) hd
theorem EX(W:wd.OK)(ok:X.OK wd){id:Str}{p:Pos}{g:Nat}(hk:X.z.kind id=some .globalImplicit)(hg:X.z.gk id=some (.const g)):JE wd X (.Name id p) (.glob g):=by
 intro B m σ s Q E S h
 obtain⟨v,hv,q⟩:=nd h
 obtain⟨x,hx,r⟩:=W.cst id g v ((ok.gk _).symm.trans hg) (ok.GC▸hv)
 exact eW W ok S hk hx (jo W ok hg) (cY S (r _ S.gd) q)
theorem EY(W:wd.OK)(ok:X.OK wd){id:Str}{p:Pos}{f:Nat}(hk:X.z.kind id=some .globalImplicit)(hg:X.z.gk id=some (.fn f)):JE wd X (.Name id p) (.fref f):=by
 intro B m σ s Q E S h
 obtain⟨x,hx,r⟩:=W.fns id f ((ok.gk _).symm.trans hg)
 exact eW W ok S hk hx (jo W ok hg) (cY S (r _ S.gd) h)
theorem GX{i:Int}{k:Nat}{p:Pos}:JE wd X (.Constant (.int i) k p) (.int i):=fun zz zz zz zz zz zz S h=>wpAny_Constant_int (bh S.toks (.int _ _) (Keep.refl _) h)
theorem E3{b:Bool}{k:Nat}{p:Pos}:JE wd X (.Constant (.bool b) k p) (.bool b):=fun zz zz zz zz zz zz S h=>wpAny_Constant_bool (cY S (.bool _) h)
theorem EW{k:Nat}{p:Pos}:JE wd X (.Constant .none k p) .none:=fun zz zz zz zz zz zz S h=>wpAny_Constant_none (cY S .none h)
theorem GM(ok:X.OK wd){x:Str}{i:Nat}{k:Nat}{p:Pos}(hx:X.z.nid x=some i):JE wd X (.Constant (.str x) k p) (.str i):=fun zz zz zz zz zz zz S h =>
 wpAny_Constant_str (bh S.toks (ok.nid _ _ hx▸VR.str _ _) (Keep.refl _) h)
theorem bw{e:Expr}{rest:List Expr}{env:Env}:cG e=true→starEach (e::rest) env=(false,eval e env)::starEach rest env:=by
 apply @Expr.casesOn (fun e=>cG e=true→starEach (e::rest) env=(false,eval e env)::starEach rest env) e<;>intros<;>first|rfl|exact fT ‹_›
theorem hW{r:cA}(R:RX wd X r):∀{es:List Expr} {pes:List PE} {pos:Pos},cD r es X.z=some pes →
  J wd X (fun h vs xs=>VRs wd h vs xs∧vs.length=es.length) (spliced (backTo pos (starEach es X.env))) (wEs pes X.c):=by
 intro es
 induction es with
 |nil =>
  intro pes pos hs
  obtain rfl:=cu hs
  exact fun B m σ s Q E S h=>spliced_none (cY S ⟨.nil,rfl⟩ h)
 |cons e es ih =>
  intro pes pos hs
  obtain⟨a,p,h1,h2,rfl⟩:=bF hs
  have k:=R _ _ h1
  intro B m σ s Q E S h
  refine spliced_more ?_ (bw k.good)
  refine step (Keep.refl _) (k.je B m σ s _ E S h) fun v b σ1 m1 s1 S1 r1 k1 q1=>?_
  refine step k1 (ih h2 B m1 σ1 s1 _ E S1 q1) fun vs ws σ2 m2 s2 S2 r2 k2 q2=>?_
  exact bh S2 ⟨.cons (r1.keeps k2) r2.1,congrArg Nat.succ r2.2⟩ (k1.trans k2) q2
end
end
section
theorem ub:gE=sizeLine:=rfl
inductive ListR(wd:Wd)(H:Hp)(h:Heap)(v:V)(x:Value)(vs:List V):Prop|mk (a:Addr) (items:List Value) (n:Nat):v=.obj a→x=.ref a→H a=some (.list vs)→h.get? a=some (listOf items.toArray n)→items.length≤sizeLine→VRs wd h vs items→ListR wd H h v x vs
inductive ItsIn(H:Hp)(o:Obj)(a:Addr)(v:V)(vs:List V):Prop
 |tup:o.cls=.type "tuple" → v=.tup vs→ItsIn H o a v vs
 |list:o.cls=.type "list" → v=.obj a→H a=some (.list vs)→ItsIn H o a v vs
inductive ItsR(wd:Wd)(H:Hp)(h:Heap)(v:V)(x:Value)(vs:List V):Prop|mk (a:Addr) (o:Obj) (items:List Value) (n:Nat):x=.ref a→h.get? a=some o→ItsIn H o a v vs→o.data=.seq items.toArray n→items.length≤sizeLine→VRs wd h vs items→ItsR wd H h v x vs
inductive GetF(wd:Wd)(h:Heap)(es:List DictEntry)(a:Nat)(v:V):Prop|mk (x:Value):getL (wd.nm a) es=some (some x)→VR wd h v x→GetF wd h es a v
section
variable {wd:Wd} {X:Ctx} {B:Heap} {m:Str→Option Value} {σ:St} {s:Shared}
theorem SS.newOwn(S:SS wd X B m σ s){a:Addr}{h':Heap}{n:Nat}{ao:AO}(k:Sub s.heap h')(ha:s.heap.objs.size≤a)(r:∀D,OR wd h' D a ao)(hi:∀k fs,ao≠.inst k fs)(hn:∃o,h'.get? a=some o∧¬ dO o) :
  σ.H a=none∧SS wd X B m ⟨σ.L,upd σ.H a ao⟩ { s with heap:=h',toks:=n }:=by
 obtain⟨⟨kd,D,g⟩,l,c,d⟩:=S
 have hf:=g.fresh ha
 exact⟨g.none fun z=>eB (z.symm.trans hf),⟨⟨_,D,g.newOwn k (g.high ha) hf (g.Bnone ha) (r D) hi hn⟩,l.keeps k.keep,c,d⟩⟩
theorem SS.newList(S:SS wd X B m σ s){h':Heap}{n c:Nat}{vs:List V}{items:List Value}{a:Addr}(k:Sub s.heap h')(ha:s.heap.objs.size≤a)(e:h'.get? a=some (listOf items.toArray c))(hl:items.length≤sizeLine)(r:VRs wd h' vs items) :
  σ.H a=none∧SS wd X B m ⟨σ.L,upd σ.H a (.list vs)⟩ { s with heap:=h',toks:=n } :=
 S.newOwn k ha (fun zz=>.list e hl r) nofun ⟨_,e,gy rfl rfl⟩
theorem rj{Q:V→St→Prop}{ao:AO}{a:Addr}{s':Shared}(k:Keep s.heap s'.heap)(x:σ.H a=none∧SS wd X B m ⟨σ.L,upd σ.H a ao⟩ s')(q:fresh σ ao Q):PV wd X B s (VR wd) Q (.ref a) s' :=
 ⟨.obj a,_,m,x.2,.obj a,k,q a x.1⟩
theorem kh{h:Heap}{vs:List V}{items:List Value}(hl:items.length≤sizeLine)(r:VRs wd h vs items):VR wd (h.push { cls:=.type "tuple",data:=.seq items.toArray }) (.tup vs) (.ref h.objs.size) :=
 .tup ⟨_,Ky _ rfl,rfl,_,rfl⟩ hl (r.keeps (Sub.push _ _).keep)
theorem SS.list(S:SS wd X B m σ s){v:V}{x:Value}{vs:List V}(r:VR wd s.heap v x)(e:cH σ.H v=some vs):ListR wd σ.H s.heap v x vs:=by
 obtain⟨a,e1,e⟩:=aw e
 obtain⟨o,e2,e⟩:=aw e
 obtain rfl:=Cr e
 obtain⟨D,items,n,p,l,q⟩:=S.obj e2
 obtain⟨rfl,rfl⟩:=r.obj_ e1
 exact⟨a,items,n,rfl,rfl,e2,p,l,q⟩
theorem SS.items(S:SS wd X B m σ s){v:V}{x:Value}{vs:List V}(r:VR wd s.heap v x)(e:bP σ.H v=some vs):ItsR wd σ.H s.heap v x vs:=by
 unfold bP at e
 cases et:v.tup? with
 |some ws =>
  rw[et]at e
  obtain rfl:=oInj e
  obtain⟨a,items,rfl,rfl,⟨o,p,b,n,d⟩,l,q⟩:=r.tup_ et
  exact⟨_,o,_,n,rfl,p,.tup b rfl,d,l,q⟩
 |none =>
  rw[et]at e
  obtain⟨a,items,n,rfl,rfl,h1,p,l,q⟩:=S.list r e
  exact⟨_,_,items,n,rfl,p,.list rfl rfl h1,rfl,l,q⟩
theorem uc{n:Nat}(h:n≤100):n≤sizeLine:=am h (by decide)
theorem GI{r:cA}(R:RX wd X r){es:List Expr}{k:Nat}{pos:Pos}{l:List PE}(h1:cD r es X.z=some l)(h2:l.length≤100):JE wd X (.Tuple es k pos) (.tup l):=by
 intro B m σ s Q E S h
 refine Tuple_ (step (Keep.refl _) (hW R h1 B m σ s _ E S h) fun xs vs σ1 m1 s1 S1 r1 k1 q1=>?_)
 have hl:xs.length≤sizeLine:=uc (r1.1.length.symm.trans (r1.2.trans (gF h1).symm)▸h2)
 exact wpAny_newTuple (bh (S1.push _) (kh hl r1.1) (k1.trans (Sub.push _ _).keep) q1) hl
theorem GS{r:cA}(R:RX wd X r){es:List Expr}{pos:Pos}{l:List PE}(h1:cD r es X.z=some l)(h2:l.length≤100):JE wd X (.List es pos) (.lst l):=by
 intro B m σ s Q E S h
 refine List_ (step (Keep.refl _) (hW R h1 B m σ s _ E S h) fun xs vs σ1 m1 s1 S1 r1 k1 q1=>?_)
 have hl:xs.length≤sizeLine:=uc (r1.1.length.symm.trans (r1.2.trans (gF h1).symm)▸h2)
 exact bY k1 (wpAny_newList (rj (Sub.push _ _).keep (S1.newList (c:=0) (Sub.push _ _) (aR _) (Ky _ rfl) hl (r1.1.keeps (Sub.push _ _).keep)) q1) hl)
theorem gb{e:Expr}{a:Str}{env:Env}{w:Sem Value}:eE e=false→attributeBase e a env w=w:=by
 apply @Expr.casesOn (fun e=>eE e=false→attributeBase e a env w=w) e
 case Call =>
  intro f as ks pos
  apply @Expr.casesOn (fun f=>eE (.Call f as ks pos)=false→attributeBase (.Call f as ks pos) a env w=w) f
  case Name =>
   intro id p
   cases as<;>first|exact fun zz=>rfl|(cases ks<;>first|exact fun h=>tF h|exact fun zz=>rfl)
  all_goals (intros;rfl)
 all_goals (intros;rfl)
theorem nY{prog:Program}{w:World}{A:Around}{E:Value→Shared→Prop}{env:Env}{value:Expr}{attr:Str}{pos:Pos}{Q:Value→Shared→Prop}(hs:eE value=false)
  (h:wpAny (model prog w) A (eval value env) (fun o s₁=>wpAny (model prog w) A (getAttr o attr true) Q E s₁) E s):wpAny (model prog w) A (eval (.Attribute value attr pos) env) Q E s :=
 Attribute_any_ h (by refine(?_:(do let o←attributeBase value attr env (eval value env);_)=_);refine ab (gb hs) ?_;rfl)
theorem rX{b a:Nat}{t:Tok}(z:¬ b=a):(Value.str (wd.nm b) t).isStr (wd.nm a)=false:=Km.mpr fun q=>z (wd.inj _ _ q)
theorem zS{a:Nat}{t:Tok}:(Value.str (wd.nm a) t).isStr (wd.nm a)=true:=Kq _
theorem FsR.get{h:Heap}{fs:List (Nat×V)}{es:List DictEntry}(r:FsR wd h fs es){a:Nat}{v:V}:cN fs a=some v→GetF wd h es a v:=by
 refine r.rec (motive:=fun fs es zz=>cN fs a=some v→GetF wd h es a v) (fun e=>nS e) fun{b v' hs t y fs es} r q ih e=>?_
 unfold cN at e
 rw[List.find?_cons]at e
 by_cases z:b=a
 ·subst z
  rw[Kq]at e
  exact⟨y,by unfold getL;refine ab (List.find?_cons) ?_;refine ab zS ?_;rfl,oInj e▸r⟩
 ·rw[Km.mpr z]at e
  obtain⟨x,g,r⟩:=ih e
  refine⟨x,?_,r⟩
  unfold getL at g ⊢
  refine ab (List.find?_cons) ?_;refine ab (rX z) ?_
  cases hf:es.find? (·.key.isStr (wd.nm a))with
  |some en=>rw[hf]at g;exact g
  |none=>rw[hf]at g;revert g;show(if _ then _ else _)=_→_;split<;>nofun
theorem xB{h:Heap}{v:V}{x:Value}(r:VR wd h v x):handedIn x=true:=by
 apply @VR.casesOn wd h (fun zz x zz=>handedIn x=true) _ _ r<;>(intros;rfl)
theorem pP{fs:List (Nat×V)}{a:Nat}{u:V}(e:cN fs a=some u):∃p∈fs,p.1=a:=by
 obtain⟨p,hp,_⟩:=Kt.mp e
 exact⟨p,List.mem_of_find?_eq_some hp,Ki (List.find?_some (p:=fun q:Nat×V=>q.1==a) hp)⟩
theorem tN(W:wd.OK)(S:SS wd X B m σ s){b k:Nat}{fs:List (Nat×V)}{u:V}{a:Nat}{Q:Value→Shared→Prop}{E:Value→Shared→Prop}{ex:Bool}(hb:σ.H b=some (.inst k fs))(e:cN fs a=some u)
  (h:∀y,VR wd s.heap u y→Q y { s with toks:=s.toks+1 }):wpAny (model wd.prog wd.w) X.A (getAttr (.ref b) (wd.nm a) ex) Q E s:=by
 obtain⟨D,C,es,n,hC,hI,hD,f,l,z⟩:=S.obj hb
 obtain⟨y,g,ry⟩:=f.get e
 obtain⟨p,hp,rfl⟩:=pP e
 obtain⟨ci,hci⟩:=Ks.mp z.1
 have c:=W.inst k _ ci hC hci
 exact get_value S.gd.K ⟨hI,rfl,rfl,hD⟩ (plainGet_of (name:=Str.empty) c.get).1 (findObj_own c.hasD (c.attr _ (z.2 p hp)) rfl ((lookIn_dict _ _ _).trans g)) (xB ry) (h y ry)
theorem BB(W:wd.OK)(S:SS wd X B m σ s){v u:V}{x:Value}{a:Nat}{Q:Value→Shared→Prop}{E:Value→Shared→Prop}{ex:Bool}(r:VR wd s.heap v x)(e:se σ.H v a=some u)
  (h:∀y,VR wd s.heap u y→Q y { s with toks:=s.toks+1 }):wpAny (model wd.prog wd.w) X.A (getAttr x (wd.nm a) ex) Q E s:=by
 obtain⟨b,e1,e⟩:=aw e
 obtain⟨o,e2,e⟩:=aw e
 obtain⟨⟨k,fs⟩,e3,e⟩:=aw e
 obtain rfl:=um e3
 obtain⟨_,rfl⟩:=r.obj_ e1
 exact tN W S e2 e h
theorem E4(W:wd.OK)(ok:X.OK wd){e:Expr}{a:Str}{pos:Pos}{pe:PE}{x:Nat}(hx:X.z.nid a=some x)(hs:eE e=false)(ih:JE wd X e pe):JE wd X (.Attribute e a pos) (.attr pe x):=by
 intro B m σ s Q E S h
 refine nY hs (step (Keep.refl _) (ih B m σ s _ E S h) fun y v σ1 m1 s1 S1 r1 k1 q1=>?_)
 obtain⟨u,hu,q⟩:=nd q1
 exact ok.nid _ _ hx▸BB W S1 r1 hu fun z rz=>bh S1.toks rz k1 q
end
end
section
inductive IdxR(n:Nat)(k:Int)(j:Nat):Prop
 |pos:0≤k→k<n→k.toNat=j→IdxR n k j
 |neg:k<0→-(n:Int)≤k→(k+n).toNat=j→IdxR n k j
theorem G7{n:Nat}{k:Int}{j:Nat}(h:Bg n k=some j):IdxR n k j:=by
 cases k with
 |ofNat i=>exact .pos (KL i) (Int.ofNat_lt.mpr (Kn (aX h))) (oInj (aO h))
 |negSucc i =>
  have h1:=Kn (aX h)
  have h2:=oInj (aO h)
  exact .neg (Int.negSucc_lt_zero i) (Int.neg_le_neg (Int.ofNat_le.mpr h1)) (((congrArg Int.toNat (Int.add_comm _ _)).trans (Int.toNat_sub n (i+1))).trans ((show n-(i+1)=n-1-i by rw[Nat.sub_sub,Lg]).trans h2))
theorem hV{n:Nat}(h:n≤sizeLine):(n:Int)<2^63:=by
 rw[sizeLine_eq]at h;exact Int.lt_of_le_of_lt (Int.ofNat_le.mpr h) (by decide)
inductive GetV(wd:Wd)(h:Heap)(items:List Value)(y:Value)(u:V):Prop|mk (i:Int) (t:Tok) (j:Nat) (z:Value):y=.int i t→IdxR items.length i j→items[j]?=some z→VR wd h u z→GetV wd h items y u
noncomputable def mV(i:Expr):Bool:=(mR i).isNone
theorem eJ{i:Expr}(o k:Value):mV i=true→subscripted i false o k=operate [o,k] (getItem o k):=by
 apply @Expr.casesOn (fun i=>mV i=true→subscripted i false o k=operate [o,k] (getItem o k)) i<;>intros<;>first|rfl|exact fT ‹_›
section
variable {wd:Wd} {X:Ctx} {B:Heap} {m:Str→Option Value} {σ:St} {s:Shared}
theorem mz{prog:Program}{w:World}{A:Around}{E:Value→Shared→Prop}{l:Addr}{items:List Value}{k:Int}{u:Tok}{j:Nat}{x:Value}{Q:Value→Shared→Prop}(hl:s.heap.IsList l items.toArray)(hz:items.length≤sizeLine)
  (hj:IdxR items.length k j) (hx:items[j]?=some x) (h:Q x s):wpAny (model prog w) A (getItem (.ref l) (.int k u)) Q E s:=by
 have hn:=hV hz
 cases hj with
 |pos h0 h1 e=>exact wpAny_getItem_list hl h0 (Int.lt_trans h1 hn) (e▸List.getElem?_toArray.trans hx) h
 |neg h0 h1 e=>exact wpAny_getItem_list_neg hl h0 h1 (cz (Int.neg_le_neg (Int.le_of_lt hn)) h1) (e▸List.getElem?_toArray.trans hx) h
theorem lN{prog:Program}{w:World}{A:Around}{E:Value→Shared→Prop}{l:Addr}{items:List Value}{k:Int}{u:Tok}{j:Nat}{x:Value}{Q:Value→Shared→Prop}(hl:IsTup s.heap l items.toArray)(hz:items.length≤sizeLine)
  (hj:IdxR items.length k j) (hx:items[j]?=some x) (h:Q x s):wpAny (model prog w) A (getItem (.ref l) (.int k u)) Q E s:=by
 have hn:=hV hz
 have hj:-(2^63)≤k∧k<2^63∧seqIndex? k items.length=some j:=by
  unfold seqIndex?
  cases hj with
  |pos h0 h1 e=>exact⟨cz (by decide) h0,Int.lt_trans h1 hn,by refine ab (Kg (Int.not_lt.mpr h0)) ?_;exact(Kh (lf ⟨decide_eq_true h0,decide_eq_true h1⟩)).trans (congrArg some e)⟩
  |neg h0 h1 e=>exact⟨cz (Int.neg_le_neg (Int.le_of_lt hn)) h1,Int.lt_trans h0 (by decide),by refine ab (Kh h0) ?_;exact(Kh (lf ⟨decide_eq_true (by rw[← Int.sub_neg];exact Int.sub_nonneg.mpr h1),decide_eq_true (Int.lt_of_lt_of_le (Int.add_lt_add_right h0 _) (Int.le_of_eq (Int.zero_add _)))⟩)).trans (congrArg some e)⟩
 exact PyProof.Rows.getItem_tuple hl hj.1 hj.2.1 hj.2.2 (List.getElem?_toArray.trans hx) h
theorem VRs.atL{h:Heap}{vs:List V}{items:List Value}{k u:V}{y:Value}(r:VRs wd h vs items)(rk:VR wd h k y)(e:atL vs k=some u):GetV wd h items y u:=by
 obtain⟨i,e1,e2⟩:=aw e
 obtain⟨j,e3,e4⟩:=aw e2
 obtain⟨t,_,rfl⟩:=rk.int_ e1
 obtain⟨z,hz,rz⟩:=r.get e4
 exact⟨i,t,j,z,rfl,r.length▸G7 e3,hz,rz⟩
noncomputable def Bu(wd:Wd)(h:Heap)(x:Option Value)(o:Option V):Prop:=match o with
 |some v=>∃y,x=some y∧VR wd h v y
 |none=>x=none
theorem mY{K:Type}[DecidableEq K]{h:Heap}{k:K}{es:List (K×V)}:∀{kvs:List (K×Value)},PairsR wd h es kvs→Bu wd h (valueAt kvs k) (eC es k):=by
 induction es with
 |nil=>intro kvs p;cases kvs with
  |nil=>exact rfl
  |cons e kvs=>injection p.1
 |cons e es ih=>intro kvs p;cases kvs with
  |nil=>injection p.1
  |cons f kvs =>
   obtain⟨k',v'⟩:=e
   obtain⟨k2,x2⟩:=f
   obtain⟨a,b⟩:=p
   obtain⟨q,a2⟩:=List.cons.inj a
   obtain rfl:k'=k2:=q
   cases b with
   |cons b1 b2 =>
    unfold eC valueAt
    refine ab (List.find?_cons) ?_;refine ab (List.find?_cons) ?_
    cases decide (k'=k)with
    |true=>exact⟨x2,rfl,b1⟩
    |false=>exact ih ⟨a2,b2⟩
theorem lookD_nm{k:Nat}:∀{es:List (Nat×V)},eC (es.map fun p=>(wd.nm p.1,p.2)) (wd.nm k)=eC es k:=by
 intro es
 induction es with
 |nil =>
  exact rfl
 |cons p es ih =>
  unfold eC
  refine ab Lj ?_;refine ab (List.find?_cons) ?_;refine ab (List.find?_cons) ?_
  by_cases z:p.1=k
  ·refine ab (decide_eq_true z) ?_;refine ab (decide_eq_true (congrArg wd.nm z)) ?_;rfl
  ·refine ab (decide_eq_false z) ?_;refine ab (decide_eq_false fun q=>z (wd.inj _ _ q)) ?_;exact ih
theorem BA(S:SS wd X B m σ s){v k u:V}{x y:Value}{Q:Value→Shared→Prop}{E:Value→Shared→Prop}{value i:Expr}(hi:mV i=true)(r:VR wd s.heap v x)(rk:VR wd s.heap k y)(e:bA σ.H v k=some u)
  (h:∀z n,VR wd s.heap u z→Q z { s with toks:=n }):wpAny (model wd.prog wd.w) X.A (subscriptTail value i x y) Q E s:=by
 cases v with
 |tup vs =>
  obtain⟨a,items,_,rfl,t,l,q⟩:=r.tup_ rfl
  obtain⟨i,u',j,z,rfl,hj,hz,rz⟩:=q.atL rk e
  exact tail_any t.typeIs slot_tuple_getitem.lookup (lN t l hj hz (h z s.toks rz)) (eJ _ _ hi)
 |obj a =>
  obtain⟨_,rfl⟩:=r.obj_ rfl
  obtain⟨o,ha,e⟩:=aw e
  obtain⟨D,ro⟩:=S.obj ha
  have dict:∀{K:Type} [DecidableEq K] {knd:KeyKind wd.prog wd.w K} {es:List (K×V)} {k:K},knd.is k y=true→ORd wd s.heap knd a es→eC es k=some u→wpAny (model wd.prog wd.w) X.A (subscriptTail value i (.ref a) y) Q E s:=fun{K _ knd es k} hk ro e=>by
   obtain⟨kvs,p,l,q⟩:=ro
   obtain⟨z,hz,rz⟩:Bu wd s.heap _ (some u):=e▸mY (k:=k) q
   exact tail_any p.typeIs slot_dict_getitem.lookup (wpAny_getItem_of hk p.mapOf hz (h z _ rz)) (eJ _ _ hi)
  cases o with
  |list vs =>
   obtain⟨items,n,p,l,q⟩:=ro
   obtain⟨i,u',j,z,rfl,hj,hz,rz⟩:=q.atL rk e
   have hl:s.heap.IsList a items.toArray:=⟨_,p,rfl,_,rfl⟩
   exact tail_any hl.typeIs slot_list_getitem.lookup (mz hl l hj hz (h z s.toks rz)) (eJ _ _ hi)
  |dictI es =>
   obtain⟨i,e1,e⟩:=aw e
   obtain⟨t,_,rfl⟩:=rk.int_ e1
   exact dict (intKind_is _ _ _ _) ro e
  |dictS es =>
   obtain⟨i,e1,e⟩:=aw e
   obtain⟨t,_,rfl⟩:=rk.str_ e1
   exact dict (strKind_is _ _ _ _) ro (lookD_nm.trans e)
  |_=>exact nS e
 |_=>exact nS e
end
end
section
section
variable {wd:Wd} {X:Ctx} {B:Heap} {m:Str→Option Value} {σ:St} {s:Shared}
noncomputable def jf(es:List Expr):Prop:=∀e∈es,cG e=true
theorem d5{r:cA}(R:RX wd X r):∀{es:List Expr} {pes:List PE},cD r es X.z=some pes→jf es
 |[],_,_=>nofun
 |a::es,_,h=>by
  obtain⟨_,_,h1,h2,_⟩:=bF h
  exact KI.mpr ⟨(R _ _ h1).good,d5 R h2⟩
theorem noStar{env:Env}{pos:Pos}:∀{es:List Expr},jf es→(backTo pos (starEach es env)).any (·.1)=false
 |[],_=>rfl
 |e::es,h=>by
  refine ab (bw (h e (.head _))) ?_
  exact noStar (es:=es) fun e he=>h e (.tail _ he)
theorem iU{prog:Program}{w:World}{A:Around}{E:Value→Shared→Prop}{env:Env}{f:Value}{first:List Value}{pos:Pos}{es:List Expr}{P:Heap→Prop}{Q:Value→Shared→Prop}(hp:jf es)
  (hk:∀h,P h→∃k,(k=Keeper.frame∨k=Keeper.machine∨k=Keeper.boundFrame)∧Looks (model prog w) h (keeperOf f) k)
  (h:wpAny (model prog w) A (spliced (backTo pos (starEach es env))) (fun vs s₁=>P s₁.heap∧wpAny (model prog w) A (call f (first++vs)) Q E s₁) E s) :
  wpAny (model prog w) A (callWith pos f first (backTo pos (starEach es env)) []) Q E s:=by
 refine callWith_of (by refine ab (noStar hp) ?_;rfl) hk ?_
 cases es with
 |nil =>
  unfold evalArgs
  refine(?_:wpAny _ A (spliced [] >>= _) _ E s)
  refine Kc (KC h (fun vs s' h'=>?_) fun zz zz x=>x)
  refine Kc (Ke ?_)
  refine wpAny_holding ?_
  exact Kc (Ke (Kc (Ke (Ke h'))))
 |cons e r =>
  rw[bw (hp e (.head _))]at h ⊢
  exact evalArgs_plain h
set_option tactic.hygienic true in
theorem gJ{M:Model}{f:Value}(h:Heap)(hf:∀a,f≠.ref a):∃k,(k=Keeper.frame∨k=Keeper.machine∨k=Keeper.boundFrame)∧Looks M h (keeperOf f) k :=
 ⟨.machine,.inr (.inl rfl),Looks.of_pure (by
  revert hf
  apply @Value.casesOn (fun f=>(∀a,f≠.ref a)→keeperOf f=pure Keeper.machine) f<;>intros<;>first|rfl|(rename_i w;exact absurd rfl (w _)))⟩
theorem vq{M:Model}{a:Addr}(h:Heap)(hf:∃o fd,h.get? a=some o∧o.data=.func fd):∃k,(k=Keeper.frame∨k=Keeper.machine∨k=Keeper.boundFrame)∧Looks M h (keeperOf (.ref a)) k:=by
 obtain⟨o,fd,e,d⟩:=hf
 refine⟨.frame,.inl rfl,fun A Q E s k q=>?_⟩
 unfold keeperOf
 refine Kc (wpAny_load (k _ _ e) ?_)
 refine ab d ?_
 exact Ke q
noncomputable def bltL:List (Str×Value):=[(("len" : Str),Value.builtin "len"),("abs",.builtin "abs"),("tuple",.type "tuple"),("list",.type "list"),("max",.builtin "max"),("range",.type "range")]
noncomputable def Gv:Value→Bool
 |.ref _=>false
 |_=>true
theorem Az:bltL.all (fun p=>p.1 != "__debug__" && Gv p.2)=true:=by decide +kernel
theorem wj(W:wd.OK)(ok:X.OK wd){id:Str}{p pos:Pos}{es:List Expr}{f:Value}{F E:Value→Shared→Prop}(S:SS wd X B m σ s)
  (hk:X.z.kind id=some .globalImplicit) (hg:X.z.gk id=none) (hb:(id,f)∈bltL) (he:jf es)
  (h:wpAny (model wd.prog wd.w) X.A (spliced (backTo pos (starEach es X.env))) (fun vs s1=>wpAny (model wd.prog wd.w) X.A (call f vs) F E s1) E s) :
  wpAny (model wd.prog wd.w) X.A (eval (.Call (.Name id p) es [] pos) X.env) F E s:=by
 obtain⟨hm,hv⟩:=W.blt id f hb ((ok.gk _).symm.trans hg)
 have hd:=lAt Az _ hb
 refine wpAny_Call_NameR (uJ W ok S hk hm hv (gH (ak hd)) (iU (P:=fun zz=>True) he (fun h zz=>gJ h fun a z=>?_) (KC h (fun zz zz h=>⟨trivial,h⟩) fun zz zz h=>h)))
 have:=aK hd
 rw[z]at this
 exact fT this
theorem fC(W:wd.OK)(ok:X.OK wd){id:Str}{p pos:Pos}{e:Expr}{pe:PE}{f:Value}{F:Value→Shared→Prop}{E:Nat→St→Prop}
  (hk:X.z.kind id=some .globalImplicit) (hg:X.z.gk id=none) (hb:(id,f)∈bltL) (ih:EOK wd X e pe) (S:SS wd X B m σ s) {Q1:V→St→Prop} (h:wE pe X.c σ Q1 E)
  (k:∀x v σ' m' s',SS wd X B m' σ' s'→VR wd s'.heap v x→Keep s.heap s'.heap→Q1 v σ'→wpAny (model wd.prog wd.w) X.A (call f [x]) F (PX wd X B s E) s') :
  wpAny (model wd.prog wd.w) X.A (eval (.Call (.Name id p) [e] [] pos) X.env) F (PX wd X B s E) s :=
 wj W ok S hk hg hb (fun e' h'=>mSng h'▸ih.good) (spliced_more (step (Keep.refl _) (ih.je B m σ s _ E S h) fun x v σ1 m1 s1 S1 r1 k1 q1=>spliced_none (k x v σ1 m1 s1 S1 r1 k1 q1)) (bw ih.good))
theorem mM{s':Shared}{h':Heap}{n:Nat}{a:Addr}{ao:AO}{Q:V→St→Prop}{m1:Str→Option Value}{σ1:St}(k1:Keep s.heap s'.heap)(hs:Sub s'.heap h')(x:σ1.H a=none∧SS wd X B m1 ⟨σ1.L,upd σ1.H a ao⟩ { s' with heap:=h',toks:=n })(q:fresh σ1 ao Q) :
  PV wd X B s (VR wd) Q (.ref a) { s' with heap:=h',toks:=n }:=⟨.obj a,_,m1,x.2,.obj a,k1.trans hs.keep,q a x.1⟩
noncomputable abbrev Bt(wd:Wd)(X:Ctx)(id:Str)(f:PE→PE):Prop:=∀{p pos:Pos} {e:Expr} {pe:PE},X.z.kind id=some .globalImplicit→X.z.gk id=none→EOK wd X e pe→JE wd X (.Call (.Name id p) [e] [] pos) (f pe)
theorem GU(W:wd.OK)(ok:X.OK wd):Bt wd X "len" .len:=by
 intro p pos e pe hk hg ih B m σ s Q E S h
 refine fC W ok hk hg (.head _) ih S h fun x v σ1 m1 s1 S1 r1 k1 q1=>?_
 obtain⟨n,hn,q⟩:=nd q1
 obtain⟨vs,hv,rfl⟩:=bX hn
 obtain⟨a,o,items,c,rfl,ho,hc,hd,hl,r⟩:=S1.items r1 hv
 have fin:PV wd X B s (VR wd) Q (.int (items.toArray.size:Nat) (s1.toks+1)) { s1 with toks:=s1.toks+1+1 }:=bh S1.toks (r.length.symm▸VR.int _ _) k1 q
 have hfit:((items.toArray.size:Nat):Int)<2^63:=hV hl
 cases hc with
 |tup hc=>exact PyProof.Rows.len_tuple ⟨o,ho,hc,c,hd⟩ hfit fin
 |list hc=>exact PyProof.Rows.len_list ⟨o,ho,hc,c,hd⟩ hfit fin
theorem FH(i:Int):(if i<0 then -i else i)=(i.natAbs:Int):=by
 by_cases z:i<0
 ·refine ab (Kh z) ?_;refine ab (Int.ofNat_natAbs_of_nonpos (Int.le_of_lt z)) ?_;rfl
 ·refine ab (Kg z) ?_;refine ab (Int.natAbs_of_nonneg (Int.not_lt.mp z)) ?_;rfl
theorem G6(W:wd.OK)(ok:X.OK wd):Bt wd X "abs" .abs:=by
 intro p pos e pe hk hg ih B m σ s Q E S h
 refine fC W ok hk hg (.tail _ (.head _)) ih S h fun x v σ1 m1 s1 S1 r1 k1 q1=>?_
 obtain⟨i,hi,q⟩:=nd q1
 obtain⟨t,_,rfl⟩:=r1.int_ hi
 exact call_abs_int fun u tk=>FH i▸bh S1.toks (.int _ _) k1 q
theorem CG(W:wd.OK)(ok:X.OK wd):Bt wd X "tuple" .tupOf:=by
 intro p pos e pe hk hg ih B m σ s Q E S h
 refine fC W ok hk hg (.tail _ (.tail _ (.head _))) ih S h fun x v σ1 m1 s1 S1 r1 k1 q1=>?_
 obtain⟨vs,hv,q⟩:=nd q1
 obtain⟨a,o,items,c,rfl,ho,hc,hd,hl,r⟩:=S1.items r1 hv
 cases hc with
 |tup hc e=>exact call_tuple_same ⟨o,ho,hc,c,hd⟩ (bh S1 (e▸r1) k1 q)
 |list hc =>
  exact call_tuple_list ⟨o,ho,hc,c,hd⟩ (fun h' hs=>bh (s':={ s1 with heap:=h'.push { cls:=.type "tuple",data:=.seq items.toArray } }) (S1.grow (Sub.trans hs (Sub.push _ _)) (n:=s1.toks)) (kh hl (r.keeps (Sub.keep hs))) (k1.trans (Sub.keep (Sub.trans hs (Sub.push _ _)))) q) hl
theorem CK(W:wd.OK)(ok:X.OK wd):Bt wd X "list" .lstOf:=by
 intro p pos e pe hk hg ih B m σ s Q E S h
 refine fC W ok hk hg (.tail _ (.tail _ (.tail _ (.head _)))) ih S h fun x v σ1 m1 s1 S1 r1 k1 q1=>?_
 obtain⟨vs,hv,q⟩:=nd q1
 obtain⟨a,o,items,c,rfl,ho,hc,hd,hl,r⟩:=S1.items r1 hv
 have hT:∃T,(T = "list" ∨ T = "tuple")∧o.cls=.type T:=by
  cases hc with
  |tup z=>exact⟨_,.inr rfl,z⟩
  |list z=>exact⟨_,.inl rfl,z⟩
 obtain⟨T,hT,hcT⟩:=hT
 exact call_list_seq a hT ho hcT hd (fun h' c' hs e'=>mM k1 hs (S1.newList hs (aR _) e' hl (r.keeps (Sub.keep hs))) q) hl
theorem GR(W:wd.OK)(ok:X.OK wd){p pos:Pos}{e e2:Expr}{pe pe2:PE}(hk:X.z.kind "max" = some .globalImplicit)(hg:X.z.gk "max" = none)(ih:EOK wd X e pe)(ih2:EOK wd X e2 pe2) :
  JE wd X (.Call (.Name "max" p) [e,e2] [] pos) (.max pe pe2):=by
 intro B m σ s Q E S h
 obtain⟨hc,h⟩:=h
 refine wj W ok S hk hg (.tail _ (.tail _ (.tail _ (.tail _ (.head _))))) (KI.mpr ⟨ih.good,fun e' h'=>mSng h'▸ih2.good⟩) (spliced_more ?_ (bw ih.good))
 refine step (Keep.refl _) (ih.je B m σ s _ E S h) fun x v σ1 m1 s1 S1 r1 k1 q1=>?_
 refine spliced_more ?_ (bw ih2.good)
 refine step k1 (ih2.je B m1 σ1 s1 _ E S1 q1) fun y u σ2 m2 s2 S2 r2 k2 q2=>spliced_none ?_
 obtain⟨i,hi,q2⟩:=nd q2
 obtain⟨j,hj,q2⟩:=nd q2
 obtain⟨t,_,rfl⟩:=r1.int_ hi
 obtain⟨t2,_,rfl⟩:=r2.int_ hj
 refine max_two_ints (ok.handled hc) fun h' tk hs=>bh (S2.grow hs) ?_ ((k1.trans k2).trans (Sub.keep hs)) q2
 by_cases z:i<j
 ·refine ab (Kh z) ?_;refine ab (Kh z) ?_;exact .int _ _
 ·refine ab (Kg z) ?_;refine ab (Kg z) ?_;exact .int _ _
noncomputable def PartR(wd:Wd)(h:Heap)(v:Option V)(x:Value):Prop:=match v with
 |none=>x=.none
 |some v=>VR wd h v x
theorem PartR.keeps{h h':Heap}(k:Keep h h'):∀{v:Option V} {x:Value},PartR wd h v x→PartR wd h' v x
 |none,_,r=>r
 |some _,_,r=>VR.keeps k r
theorem xq{r:cA}(R:RX wd X r){e:Option Expr}{pe:Option PE}(h:qO r e X.z=some pe):J wd X (PartR wd) (evalPart e X.env) (wO pe X.c):=by
 intro B m σ s Q E S hq
 cases e with
 |none =>
  obtain rfl:=oInj h
  exact Ke (cY (b:=Option.none) S rfl hq)
 |some e =>
  obtain⟨p,hp,rfl⟩:=bX h
  exact step (Keep.refl _) ((R _ _ hp).je B m σ s _ E S hq) fun x v σ1 m1 s1 S1 r1 k1 q1=>bh (b:=some v) S1 r1 k1 q1
inductive ClipR(n d a:Nat)(x:Value):Prop|mk (i:Option Int):IsPart x i→a=i.elim d (clipAt n)→ClipR n d a x
theorem lW{h:Heap}{n d a:Nat}{x:Value}:∀{v:Option V},PartR wd h v x→sQ n d v=some a→ClipR n d a x
 |none,r,e=>⟨none,r▸.none,(oInj e).symm⟩
 |some v,r,e=>by
  obtain⟨i,e1,rfl⟩:=bX e
  obtain⟨t,_,rfl⟩:=VR.int_ r e1
  exact⟨some i,.int i t,rfl⟩
inductive PickR(wd:Wd)(h:Heap)(items:List Value)(x y:Value)(ws:List V):Prop
 |mk (i j:Option Int) (its:List Value):IsPart x i→IsPart y j→slicePick items.toArray i j none=List.toArray its→VRs wd h ws its→its.length≤items.length→PickR wd h items x y ws
theorem uY{h:Heap}{vs ws:List V}{items:List Value}{lo hi:Option V}{x y:Value}(q:VRs wd h vs items)(r1:PartR wd h lo x)(r2:PartR wd h hi y)(e:jD vs lo hi=some ws):PickR wd h items x y ws:=by
 obtain⟨a,b,ha,hb,rfl⟩:=dt e
 obtain⟨i,pi,rfl⟩:=lW r1 ha
 obtain⟨j,pj,rfl⟩:=lW r2 hb
 refine⟨i,j,_,pi,pj,slicePick_plain _ _ _,?_,am (List.length_take_le' ..) (K8▸K9 ..)⟩
 refine ab List.drop_take ?_;refine ab q.length ?_
 exact(q.drop _).take _
theorem vi{prog:Program}{w:World}{A:Around}{E:Value→Shared→Prop}{y:Value}{j:Option Int}{Q:Option Int→Shared→Prop}(p:IsPart y j)(h:Q j s):wpAny (model prog w) A (Builtin.Slice.slicePartIndex y) Q E s:=by
 cases p with
 |none=>exact slicePart_none h
 |int i t=>exact slicePart_int h
theorem tH(n:Nat)(j:Option Int):Builtin.Slice.sliceAdjust none j 1 (n:Int)=(0,((j.elim n (clipAt n):Nat):Int)):=by
 cases j with
 |none=>rfl
 |some k =>
  refine(?_:((0:Int),if k<0 then max (k+n) 0 else min k n)=(0,((clipAt n k:Nat):Int)))
  rw[clipAt_cast]
  by_cases z:k<0
  ·refine ab (Kh z) ?_;refine ab (Kh z) ?_;refine ab (Int.min_eq_left (show k+n≤n from cz (Int.add_le_add_right (Int.le_of_lt z) _) (Int.le_of_eq (Int.zero_add _)))) ?_;rw[Int.max_comm]
  ·refine ab (Kg z) ?_;refine ab (Kg z) ?_;refine ab (Int.max_eq_right (Int.le_min.mpr ⟨Int.not_lt.mp z,KL n⟩)) ?_;rfl
theorem tu:∀n:Nat,Builtin.Slice.slicePlaces 0 (n:Int) 1=n
 |0=>rfl
 |n+1=>by
  refine(?_:(if (0:Int)<((n+1:Nat):Int)then (((n+1:Nat):Int)-0-1) / 1+1 else 0).toNat=n+1)
  refine ab (Kh (Int.natCast_pos.mpr (Nat.succ_pos n))) ?_;rw[Int.ediv_one,Int.sub_zero,Int.sub_add_cancel]
  exact Int.toNat_natCast _
theorem kJ{prog:Program}{w:World}{A:Around}{E:Value→Shared→Prop}{t sl:Addr}{items:Array Value}{y:Value}{j:Option Int}{Q:Value→Shared→Prop}(ht:IsTup s.heap t items)(hs:s.heap.IsSliceOf sl .none y .none)(pj:IsPart y j)
  (h1:(items.toList.take (j.elim items.size (clipAt items.size))).toArray=items→Q (.ref t) s)
  (h2:Q (.ref s.heap.objs.size) { s with heap:=s.heap.push { cls:=.type "tuple",data:=.seq (items.toList.take (j.elim items.size (clipAt items.size))).toArray } })
  (hsz:items.size≤sizeLine):wpAny (model prog w) A (getItem (.ref t) (.ref sl)) Q E s:=by
 obtain⟨os,hos,hcs,hds⟩:=id hs
 have hTs:s.TypeIs (.ref sl) "slice" := ⟨os,hos,hcs⟩
 have htk:sizeOk (.seq (items.toList.take (j.elim items.size (clipAt items.size))).toArray):=by
  refine(?_:(items.toList.take _).toArray.size≤sizeLine)
  refine ab List.size_toArray ?_;refine ab List.length_take ?_;refine ab Array.length_toList ?_
  exact am (Nat.min_le_right _ _) hsz
 have hpick:((List.range (j.elim items.size (clipAt items.size))).filterMap fun(k:Nat)=>items[((0:Int)+(k:Int)*1).toNat]?)=items.toList.take (j.elim items.size (clipAt items.size)):=by
  have e:(fun(k:Nat)=>items[((0:Int)+(k:Int)*1).toNat]?)=fun k=>items[0+k]?:=by
   funext k
   have:((0:Int)+(k:Int)*1).toNat=0+k:=by rw[Int.mul_one,Int.zero_add,Nat.zero_add];exact Int.toNat_natCast k
   refine ab this ?_;rfl
  refine ab e ?_
  have:=pick_run items 0 (j.elim items.size (clipAt items.size))
  rw[List.filterMap_map,List.drop_zero]at this
  exact this
 unfold getItem
 try with_reducible refine wpAny_holding ?_
 first|refine Kc (Ke ?_)|skip
 refine Kc (wpAny_sequenceKey ht.typeIs (by decide) ?_)
 refine Kc (wpAny_callSpecial?_slot (name:=Str.ofString "__getitem__") ht.typeIs slot_tuple_getitem
  (wpAny_call_entry slot_tuple_getitem ht.typeIs entry_tuple_getitem ?_ (args_tuple_getitem _ _)))
 refine(?_:wpAny _ _ (Builtin.Tuple.tupleItemsOf (.ref t) >>= _) _ _ s)
 refine Kc (tupleItemsOf_ ht ?_)
 refine Kc (wpAny_typeOf hTs ?_)
 refine ab (Kh (by decide)) ?_
 have app:∀Q':Int×Int×Nat→Shared→Prop,Q' ((0:Int),1,j.elim items.size (clipAt items.size)) s→∀E',wpAny (model prog w) A.in1 (Builtin.Slice.sliceApplied (.ref sl) (pure (items.size:Int))) Q' E' s:=fun Q' q E'=>by
  unfold Builtin.Slice.sliceApplied Builtin.Slice.sliceFields
  refine Kc (Kc (wpAny_field hos hds (x:=.none) rfl (Kc (wpAny_field hos hds (x:=y) rfl (Kc (wpAny_field hos hds (x:=.none) rfl (Ke ?_)))))))
  refine Kc (slicePart_none ?_)
  refine(?_:wpAny _ _ (if ((1:Int)==0)=true then _ else _) _ _ s)
  refine ab (Kg (by decide)) ?_
  refine Kc (slicePart_none (Kc (vi pj (Kc (Ke ?_)))))
  refine(?_:wpAny _ _ (match Builtin.Slice.sliceAdjust none j 1 (items.size:Int)with|(lo,hi)=>pure (lo,(1:Int),Builtin.Slice.slicePlaces lo hi 1)) _ _ s)
  rw[tH]
  refine(?_:wpAny _ _ (pure ((0:Int),(1:Int),Builtin.Slice.slicePlaces 0 ((j.elim items.size (clipAt items.size):Nat):Int) 1)) _ _ s)
  rw[tu]
  exact Ke q
 refine Kc (app _ ?_ _)
 dsimp only
 by_cases hz:j.elim items.size (clipAt items.size)=items.size
 ·have hc:((0:Int)==0&&(1:Int)==1&&j.elim items.size (clipAt items.size)==items.size)=true:=by simp[hz]
  refine ab (Kh hc) ?_
  refine Kc (Kc (wpAny_typeOf ht.typeIs (Ke ?_)))
  refine ab (Kh (by decide)) ?_
  refine Kc (wpAny_rule ?_)
  refine Ke ⟨_,rfl,Ke (h1 ?_)⟩
  refine ab hz ?_;refine ab (List.take_of_length_le (by simp)) ?_;rfl
 ·have hc:¬ ((0:Int)==0&&(1:Int)==1&&j.elim items.size (clipAt items.size)==items.size)=true:=by simp[hz]
  refine ab (Kg hc) ?_;refine ab hpick ?_
  exact Kc (m:=Builtin.Tuple.tupleExact _) (wpAny_newObj_type (Ke ⟨_,rfl,Ke h2⟩) htk)
theorem GN{r:cA}(R:RX wd X r){value:Expr}{lo hi:Option Expr}{p pos:Pos}{pv:PE}{plo phi:Option PE}(hlo:qO r lo X.z=some plo)(hhi:qO r hi X.z=some phi)(ih:JE wd X value pv) :
  JE wd X (.Subscript value (.Slice lo hi none p) pos) (.slc pv plo phi):=by
 intro B m σ s Q E S h
 refine Subscript_ (step (Keep.refl _) (ih B m σ s _ E S h) fun x v σ1 m1 s1 S1 r1 k1 q1=>?_)
 refine wpAny_Slice (step k1 (xq R hlo B m1 σ1 s1 _ E S1 q1) fun y l σ2 m2 s2 S2 r2 k2 q2=>?_)
 refine step (k1.trans k2) (xq R hhi B m2 σ2 s2 _ E S2 q2) fun y2 l2 σ3 m3 s3 S3 r3 k3 q3=>wpAny_evalPart_none ?_
 obtain⟨vs,hv,q4⟩:=nd q3
 obtain⟨ws,hw,q5⟩:=nd q4
 have k4:=(k1.trans k2).trans k3
 have r1:=r1.keeps (k2.trans k3)
 have r2:=PartR.keeps k3 r2
 clear k1 k2 k3 S1 S2 q1 q2 q3 q4
 obtain⟨a,o,items,c,rfl,ho,hc,hd,hl,r⟩:=S3.items r1 hv
 obtain⟨i,j,its,pi,pj,hp,rw',hle⟩:=uY r r2 r3 hw
 clear hv hw r1 r3
 have ks:Sub s3.heap (s3.heap.push { cls:=.type "slice",data:=.fields #[y,y2,.none] }):=Sub.push _ _
 have kk:=k4.trans ks.keep
 have hsl:(s3.heap.push { cls:=.type "slice",data:=.fields #[y,y2,.none] }).IsSliceOf s3.heap.objs.size y y2 .none:=Heap.IsSliceOf.new ..
 have S4:SS wd X B m3 σ3 { s3 with heap:=s3.heap.push { cls:=.type "slice",data:=.fields #[y,y2,.none] } }:=S3.push (n:=s3.toks) _
 generalize s3.heap.push { cls:=.type "slice",data:=.fields #[y,y2,.none] }=h4 at ks kk hsl S4 ⊢
 have ho:=ks _ _ ho
 have rw':=rw'.keeps ks.keep
 cases hc with
 |tup hct e =>
  subst e
  obtain⟨hn,q6⟩:=q5
  have ht:IsTup h4 a items.toArray:=⟨o,ho,hct,c,hd⟩
  cases l with
  |some _=>exact fT hn
  |none =>
  have hy:y=.none:=r2
  subst hy
  cases pi
  have he:its=items.toArray.toList.take (j.elim items.toArray.size (clipAt items.toArray.size)):=by
   have h1:=hp.symm.trans (slicePick_plain items.toArray none j)
   exact congrArg Array.toList h1
  refine tail_any (T := "tuple") ht.typeIs slot_tuple_getitem.lookup (kJ ht hsl pj (fun e=>?_) ?_ hl) rfl
  ·have:its=items:=he.trans (congrArg Array.toList e)
   exact bh S4 (.tup ht hl (this▸rw')) kk q6
  ·refine bT he ?_
   exact bh (S4.push (n:=s3.toks) _) (kh (am hle hl) rw') (kk.trans (Sub.push _ _).keep) q6
 |list hcl e hH =>
  subst e
  have hL:h4.IsList a items.toArray:=⟨o,ho,hcl,c,hd⟩
  refine tail_any (T := "list") hL.typeIs slot_list_getitem.lookup (wpAny_getItem_list_slice hL hsl pi pj .none nofun ?_ hl) rfl
  refine ab hp ?_
  exact mM (s':={ s3 with heap:=h4 }) kk (Sub.push _ _) (S4.newList (c:=0) (Sub.push _ _) (aR _) (Ky _ rfl) (am hle hl) (rw'.keeps (Sub.push _ _).keep)) q5
theorem GJ{value i:Expr}{pos:Pos}{pv pi:PE}(hi:mV i=true)(ih:JE wd X value pv)(ihi:JE wd X i pi):JE wd X (.Subscript value i pos) (.sub pv pi):=by
 intro B m σ s Q E S h
 refine Subscript_ (step (Keep.refl _) (ih B m σ s _ E S h) fun x v σ1 m1 s1 S1 r1 k1 q1=>?_)
 refine step k1 (ihi B m1 σ1 s1 _ E S1 q1) fun y k σ2 m2 s2 S2 r2 k2 q2=>?_
 obtain⟨u,hu,q⟩:=nd q2
 exact BA S2 hi (r1.keeps k2) r2 hu fun z n rz=>bh S2.toks rz (k1.trans k2) q
end
end
section
theorem kD{n:Nat}(h:n<bJ):n.log2<9000:=by
 unfold bJ at h
 by_cases z:n=0
 ·subst z;decide
 ·exact(Nat.log2_lt z).mpr h
theorem kZ{n:Int}(h:n.natAbs<bJ):Builtin.Int.intBits n≤9000:=by
 have:=kD h
 unfold Builtin.Int.intBits
 (split;exact Kx _;exact this)
theorem zt{a b:Int}(h:vk a b):IntMulOk a b:=by
 rcases h with h|⟨h,h'⟩
 ·refine IntMulOk.of_right ?_
  unfold Builtin.Int.intBits
  split
  ·exact Kx _
  ·rename_i z
   have:b.natAbs≠0:=by intro q;exact z (by simpa using q)
   have:=(Nat.log2_lt this).mpr h
   exact am this (by decide)
 ·have h1:=kZ h
  have h2:=kZ h'
  unfold IntMulOk Builtin.Int.intTooBig
  intro q
  simp only[Lv,decide_eq_true_eq]at q
  have:=q.2
  unfold bitsLine at this
  exact absurd (Int.add_le_add (Int.ofNat_le.mpr h1) (Int.ofNat_le.mpr h2)) (Int.not_le.mpr (Int.lt_trans (by decide) this))
noncomputable def D6:BO→Operator
 |.add=>.Add|.sub=>.Sub|.mul=>.Mult|.fdiv=>.FloorDiv|.mod=>.Mod|.pow=>.Pow
theorem Fu{op:Operator}{o:BO}(h:Fv op=some o):op=D6 o:=by
 cases op<;>first|exact nS h|(obtain rfl:=oInj h;rfl)
section
variable {wd:Wd} {X:Ctx} {B:Heap} {m:Str→Option Value} {σ:St} {s:Shared}
theorem sj{z:Value}:∀(k:Nat) (acc:Array Value),List.foldl (fun(x1 x2:Array Value)=>x1++x2) acc (List.replicate k #[z])=acc++(List.replicate k z).toArray
 |0,acc=>by refine ab List.replicate_zero ?_;refine ab List.foldl_nil ?_;refine ab List.replicate_zero ?_;exact(Array.append_empty ..).symm
 |k+1,acc=>by
  refine ab List.replicate_succ ?_;refine ab List.foldl_cons ?_;rewrite[sj k];refine ab List.replicate_succ ?_;refine ab Array.append_assoc ?_
  exact congrArg (acc++·) (List.append_toArray ..)
theorem wh(S:SS wd X B m σ s){z:Value}{u:V}{n:Int}{t:Tok}{a':Addr}{n1:Nat}{Q:V→St→Prop}{E:Nat→St→Prop}(p1:s.heap.get? a'=some (listOf #[z] n1))(ru:VR wd s.heap u z)(h0:0≤n)(hn:n<2^20)
  (h:fresh σ (.list (List.replicate n.toNat u)) Q):wpAny (model wd.prog wd.w) X.A (binaryOp .Mult (.ref a') (.int n t)) (PV wd X B s (VR wd) Q) (PX wd X B s E) s:=by
 have hl:(List.replicate n.toNat z).length≤sizeLine:=by
  refine ab List.length_replicate ?_;refine ab sizeLine_eq ?_
  exact Int.toNat_le.mpr (cz (Int.le_of_lt hn) (by decide))
 have hsz:(#[z]:Array Value).size*n.toNat≤sizeLine:=by
  rw[List.length_replicate]at hl
  exact(Nat.one_mul _).symm▸hl
 refine wpAny_binaryOp_repeat_ref (T := "list") (U := "int") (by decide) ⟨_,p1,rfl⟩ (fun s'=>typeIs_int s' n t) noFill_list_mul F.fills_int_mul F.slot_int_rmul repeat_list F.slot_int_index.lookup
  (call_meets F.slot_int_rmul (typeIs_int s n t) F.entry_int_rmul (F.args_int_rmul_2 _ _) (int___rmul___int_list n t a' #[z] n1)
   ⟨p1,rfl,⟨_,p1,rfl⟩,call_meets F.slot_list_mul ⟨_,p1,rfl⟩ F.entry_list_mul (F.args_list_mul_2 _ _)
    (AutoListH.list___mul___list_int_3 a' #[z] n1 n t (by simp[Builtin.List.listFitsIndex];exact⟨cz (by decide) h0,Int.lt_trans hn (by decide)⟩) (by have:=hsz;rw[sizeLine_eq]at this;exact LA.mpr (am this (by decide))) (by simpa [Builtin.List.listTooLong] using hsz)) ⟨p1,?_⟩⟩)
 refine(?_:wants _ _ _ _)
 have e:List.foldl (fun(x1 x2:Array Value)=>x1++x2) #[] (List.replicate n.toNat #[z])=(List.replicate n.toNat z).toArray:=(sj _ _).trans (Array.empty_append ..)
 refine ab (show(if (#[z]:Array Value).isEmpty=true then 0 else n.toNat)=n.toNat from rfl) ?_;refine ab e ?_
 exact mM (Keep.refl _) (Sub.push _ _) (S.newList (c:=0) (Sub.push _ _) (aR _) (Ky _ rfl) hl ((VRs.replicate ru _).keeps (Sub.push _ _).keep)) h
theorem Dz{o:BO}(S:SS wd X B m σ s){v w:V}{x y:Value}{Q:V→St→Prop}{E:Nat→St→Prop}(r1:VR wd s.heap v x)(r2:VR wd s.heap w y)(h:mE σ.H o v w (mF σ Q)) :
  wpAny (model wd.prog wd.w) X.A (binaryOp (D6 o) x y) (PV wd X B s (VR wd) Q) (PX wd X B s E) s:=by
 have int:∀{k:Int} {n:Tok} {t:Nat},Q (.int k) σ→PV wd X B s (VR wd) Q (.int k n) { s with toks:=t }:=fun q=>bh S.toks (.int _ _) (Keep.refl _) q
 have ii:∀{o:Operator} {k:Int→Int→Prop},iP v w k→(∀i j t u,k i j→wpAny (model wd.prog wd.w) X.A (binaryOp o (.int i t) (.int j u)) (PV wd X B s (VR wd) Q) (PX wd X B s E) s)→wpAny (model wd.prog wd.w) X.A (binaryOp o x y) (PV wd X B s (VR wd) Q) (PX wd X B s E) s:=fun h k=>by
  obtain⟨i,hi,h⟩:=nd h
  obtain⟨j,hj,h⟩:=nd h
  obtain⟨t,_,rfl⟩:=r1.int_ hi
  obtain⟨u,_,rfl⟩:=r2.int_ hj
  exact k i j t u h
 cases o with
 |add =>
  refine(?_:wpAny _ _ (binaryOp .Add x y) _ _ s)
  change (match v.int? with|some _=>_|none=>_:Prop)at h
  cases hv:v.int? with
  |some i=>rw[hv]at h;exact ii h fun i j t u q=>PyProof.Rows.add_int (int q)
  |none =>
   rw[hv]at h
   obtain⟨xs,hx,h⟩:=nd h
   obtain⟨ys,hy,hz,h⟩:=nd h
   obtain⟨a',i1,n1,_,rfl,_,p1,l1,q1⟩:=S.list r1 hx
   obtain⟨b',i2,n2,_,rfl,_,p2,l2,q2⟩:=S.list r2 hy
   have q3:=q1.append q2
   have hl:(i1++i2).length≤sizeLine:=q3.length▸Kl▸hz
   refine P.add_list p1 p2 ?_ (by rw[Kl]at hl;exact hl)
   rw[List.append_toArray]
   exact mM (Keep.refl _) (Sub.push _ _) (S.newList (c:=0) (Sub.push _ _) (aR _) (Ky _ rfl) hl (q3.keeps (Sub.push _ _).keep)) h
 |sub=>exact ii h fun i j t u q=>PyProof.Rows.sub_int (int q)
 |mul =>
  refine(?_:wpAny _ _ (binaryOp .Mult x y) _ _ s)
  change (match v.int? with|some _=>_|none=>_:Prop)at h
  cases hv:v.int? with
  |some i=>rw[hv]at h;exact ii h fun i j t u q=>PyProof.Rows.mul_int (int q.2) (zt q.1)
  |none =>
   rw[hv]at h
   obtain⟨xs,hx,h2⟩:=nd h
   obtain⟨u,hu,h3⟩:=nd h2
   obtain⟨n,hn,h0,h1,h4⟩:=nd h3
   clear h h2 h3
   obtain rfl:=dG hu
   obtain⟨t,_,rfl⟩:=r2.int_ hn
   obtain⟨a',items,n1,_,rfl,_,p1,l1,q1⟩:=S.list r1 hx
   obtain⟨z,rfl,ru⟩:=q1.one_
   exact wh S p1 ru h0 h1 h4
 |fdiv=>exact ii h fun i j t u q=>floordiv_int q.1 (int q.2.2) (.inl (PyProof.noPylong_of_log2 (kD q.2.1)))
 |mod=>exact ii h fun i j t u q=>mod_int' q.1 (int q.2)
 |pow=>exact ii h fun i j t u q=>pow_int_small q.2.1 q.2.2.1 q.1 (int q.2.2.2)
theorem G5{l r:Expr}{op:Operator}{o:BO}{pos:Pos}{pl pr:PE}(ho:Fv op=some o)(hl:JE wd X l pl)(hr:JE wd X r pr):JE wd X (.BinOp l op r pos) (.bin o pl pr):=by
 intro B m σ s Q E S h
 refine wpAny_BinOp (step (Keep.refl _) (hl B m σ s _ E S h) fun x v σ1 m1 s1 S1 r1 k1 q1=>?_)
 refine step k1 (hr B m1 σ1 s1 _ E S1 q1) fun y w σ2 m2 s2 S2 r2 k2 q2=>?_
 exact bY (k1.trans k2) (Fu ho▸Dz S2 (r1.keeps k2) r2 q2)
end
end
section
section
variable (wd:Wd)
mutual
noncomputable def V.py:V→PyData
 |.none=>.none|.bool b=>.bool b|.int i=>.int i|.str s=>.str (wd.nm s)
 |.tup vs=>.tuple (V.pys vs)
 |.obj _=>.none|.clo ..=>.none
noncomputable def V.pys:List V→List PyData
 |[]=>[]
 |v::vs=>V.py v::V.pys vs
end
inductive DR(h:Heap)(x:Value)(d:PyData)(n:Nat):Prop|mk (as:List Addr):Reads h x d as→d.canLay0=true→d.depth≤n→DR h x d n
inductive DRs(h:Heap)(x:List Value)(d:List PyData)(n:Nat):Prop|mk (as:List Addr):ReadsAll h x d as→PyData.canLayAll0 d=true→PyData.depthAll d≤n→DRs h x d n
end
section
variable {wd:Wd}
theorem jd{h:Heap}{v:V}{x:Value}(r:VR wd h v x):∀n,V.flat v n=true→DR h x (V.py wd v) n:=by
 refine VR.rec (motive_1:=fun v x zz=>∀n,V.flat v n=true→DR h x (V.py wd v) n) (motive_2:=fun vs xs zz=>∀n,V.flats vs n=true→DRs h xs (V.pys wd vs) n)
  (fun n zz=>⟨_,.none,rfl,Kx n⟩) (fun b n zz=>⟨_,.bool b,rfl,Kx n⟩) (fun i t n zz=>⟨_,.int i t,rfl,Kx n⟩) (fun s t n zz=>⟨_,.str _ t,wd.nmOk s,Kx n⟩)
  (fun t l zz ih n f=>?_) (fun zz zz f=>fT f) (fun zz zz zz zz zz zz f=>fT f) (fun n zz=>⟨_,.nil,rfl,Kx n⟩) (fun zz zz ia ib n f=>?_) r
 ·cases n with
  |zero=>exact fT f
  |succ n =>
   obtain⟨o,ho,hc,k,hd⟩:=t
   obtain⟨as,q,l,d⟩:=ih n f
   exact⟨as,.tuple ho hc hd q,l,dc d⟩
 ·obtain⟨as,q,l,d⟩:=ia n (ak f)
  obtain⟨bs,q',l',d'⟩:=ib n (aK f)
  exact⟨_,.cons q q',lf ⟨l,l'⟩,Nat.max_le.mpr ⟨d,d'⟩⟩
theorem yX{h:Heap}{vs:List V}{xs:List Value}(r:VRs wd h vs xs){n:Nat}:V.flats vs n=true→DRs h xs (V.pys wd vs) n :=
 r.ind (P:=fun vs xs=>V.flats vs n=true→DRs h xs (V.pys wd vs) n) (fun zz=>⟨_,.nil,rfl,Kx n⟩) fun a zz ib f=>by
  obtain⟨as,q,l,d⟩:=jd a n (ak f)
  obtain⟨bs,q',l',d'⟩:=ib (aK f)
  exact⟨_,.cons q q',lf ⟨l,l'⟩,Nat.max_le.mpr ⟨d,d'⟩⟩
theorem D8(a b:Nat):(wd.nm a==wd.nm b)=(a==b):=by
 by_cases z:a=b
 ·subst z;rw[Kq,Kq]
 ·refine ab (Km.mpr z) ?_;refine ab (Km.mpr fun q=>z (wd.inj _ _ q)) ?_;rfl
theorem uw{vs:List V}{n:Nat}(f:V.flat (.tup vs) n=true):∃k,V.flats vs k=true:=match n,f with|k+1,f=>⟨k,f⟩
theorem rh(v:V):∀(w:V) (n k:Nat),V.flat v n=true→V.flat w k=true→PyData.eqv (V.py wd v) (V.py wd w)=V.eqb v w:=by
 refine V.rec (motive_1:=fun v=>∀(w:V) (n k:Nat),V.flat v n=true→V.flat w k=true→PyData.eqv (V.py wd v) (V.py wd w)=V.eqb v w)
  (motive_2:=fun vs=>∀(ws:List V) (n k:Nat),V.flats vs n=true→V.flats ws k=true→PyData.eqvAll (V.pys wd vs) (V.pys wd ws)=V.eqbs vs ws) ?_ ?_ ?_ ?_ ?_ (fun zz zz zz zz f=>fT f) (fun zz zz zz zz zz f=>fT f) ?_ ?_ v
 ·intro w _ _ _ g;revert g;apply @V.casesOn (fun w=>V.flat w _=true→PyData.eqv .none (V.py wd w)=V.eqb .none w) w<;>intros<;>first|rfl|exact fT ‹_›
 ·intro b w _ _ _ g;revert g;apply @V.casesOn (fun w=>V.flat w _=true→PyData.eqv (.bool b) (V.py wd w)=V.eqb (.bool b) w) w<;>intros<;>first|rfl|exact fT ‹_›
 ·intro b w _ _ _ g;revert g;apply @V.casesOn (fun w=>V.flat w _=true→PyData.eqv (.int b) (V.py wd w)=V.eqb (.int b) w) w<;>intros<;>first|rfl|exact fT ‹_›
 ·intro b w _ _ _ g;revert g;apply @V.casesOn (fun w=>V.flat w _=true→PyData.eqv (.str (wd.nm b)) (V.py wd w)=V.eqb (.str b) w) w<;>intros<;>first|rfl|exact fT ‹_›|exact D8 _ _
 ·intro vs ih w n k f g
  obtain⟨n,f⟩:=uw f
  revert g
  apply @V.casesOn (fun w=>V.flat w k=true→PyData.eqv (.tuple (V.pys wd vs)) (V.py wd w)=V.eqb (.tup vs) w) w
  case tup=>intro ws g;obtain⟨k,g⟩:=uw g;exact ih ws n k f g
  all_goals (intros;first|rfl|exact fT ‹_›)
 ·intro ws;cases ws<;>(intros;rfl)
 ·intro v vs iv ivs ws n k f g
  cases ws with
  |nil=>rfl
  |cons w ws =>
   refine(?_:(PyData.eqv (V.py wd v) (V.py wd w)&&PyData.eqvAll (V.pys wd vs) (V.pys wd ws))=(V.eqb v w&&V.eqbs vs ws))
   refine ab (iv w n k (ak f) (ak g)) ?_;refine ab (ivs ws n k (aK f) (aK g)) ?_;rfl
theorem t5:∀(vs ws:List V) (n k:Nat),V.flats vs n=true→V.flats ws k=true→PyData.eqvAll (V.pys wd vs) (V.pys wd ws)=V.eqbs vs ws
 |[],[],_,_,_,_=>rfl
 |[],_::_,_,_,_,_=>rfl
 |_::_,[],_,_,_,_=>rfl
 |v::vs,w::ws,n,k,f,g=>by
  refine(?_:(PyData.eqv (V.py wd v) (V.py wd w)&&PyData.eqvAll (V.pys wd vs) (V.pys wd ws))=(V.eqb v w&&V.eqbs vs ws))
  refine ab (rh v w n k (ak f) (ak g)) ?_;refine ab (t5 vs ws n k (aK f) (aK g)) ?_;rfl
inductive EqD(h:Heap)(x y:Value)(n:Nat)(t:Bool):Prop|mk (a b:PyData):DR h x a n→DR h y b n→PyData.eqv a b=t→EqD h x y n t
variable {X:Ctx} {B:Heap} {m:Str→Option Value} {σ:St} {s:Shared}
theorem pE{h:Heap}{vs:List V}{its:List Value}{a:Addr}{n k:Nat}(p:h.get? a=some (listOf its.toArray k))(r:VRs wd h vs its)(f:V.flats vs n=true):DR h (.ref a) (.list (V.pys wd vs)) (n+1):=by
 obtain⟨as,q,l,d⟩:=yX r f
 exact⟨_,.list p rfl rfl q,l,dc d⟩
theorem DR.up{h:Heap}{x:Value}{d:PyData}{n k:Nat}(r:DR h x d n)(l:n≤k):DR h x d k:=by
 obtain⟨as,a,b,c⟩:=r
 exact⟨as,a,b,am c l⟩
theorem oL(S:SS wd X B m σ s){a b:V}{x y:Value}{t:Bool}(r1:VR wd s.heap a x)(r2:VR wd s.heap b y)(e:dI σ.H a b=some t):EqD s.heap x y 21 t:=by
 unfold dI at e
 cases hx:cH σ.H a with
 |some xs =>
  replace e:=hx▸e
  obtain⟨ys,hy,e2⟩:=aw e
  have f:=aX e2
  obtain⟨a',i1,n1,_,rfl,_,p1,l1,q1⟩:=S.list r1 hx
  obtain⟨b',i2,n2,_,rfl,_,p2,l2,q2⟩:=S.list r2 hy
  exact⟨_,_,pE p1 q1 (ak f),pE p2 q2 (aK f),(t5 xs ys 20 20 (ak f) (aK f)).trans (oInj (aO e2))⟩
 |none =>
  replace e:=hx▸e
  have f:=aX (show bu _ _=_ from e)
  exact⟨_,_,(jd r1 20 (ak f)).up (Nat.le_succ _),(jd r2 20 (aK f)).up (Nat.le_succ _),(rh a b 20 20 (ak f) (aK f)).trans (oInj (aO (show bu _ _=_ from e)))⟩
inductive PairR(wd:Wd)(h:Heap)(x:Value)(p:V×V):Prop|mk (l:Addr) (y z:Value):x=.ref l→IsTup h l #[y,z]→VR wd h p.1 y→VR wd h p.2 z→PairR wd h x p
theorem t7{h:Heap}{v:V}{x:Value}{p:V×V}(r:VR wd h v x)(e:bo v.tup? two=some p):PairR wd h x p:=by
 obtain⟨vs,e1,e2⟩:=aw e
 obtain rfl:=jb e2
 obtain⟨l,items,_,rfl,t,_,q⟩:=r.tup_ e1
 obtain⟨y,z,rfl,a,b⟩:=q.two_
 exact⟨l,y,z,rfl,t,a,b⟩
theorem pB{h:Heap}{l:Addr}{y z:Value}{a b:PyData}{n:Nat}(t:IsTup h l #[y,z])(r1:DR h y a n)(r2:DR h z b n):DR h (.ref l) (.tuple [a,b]) (n+1):=by
 obtain⟨o,ho,hc,k,hd⟩:=t
 obtain⟨as,q,l1,d⟩:=r1
 obtain⟨bs,q',l2,d'⟩:=r2
 exact⟨_,.tuple ho hc hd (.cons q (.cons q' .nil)),lf ⟨l1,lf ⟨l2,rfl⟩⟩,dc (Nat.max_le.mpr ⟨d,Nat.max_le.mpr ⟨d',Kx n⟩⟩)⟩
theorem sA(S:SS wd X B m σ s){a b:V}{x y:Value}{t:Bool}(r1:VR wd s.heap a x)(r2:VR wd s.heap b y)(e:jZ σ.H a b=some t):EqD s.heap x y 22 t:=by
 unfold jZ at e
 cases he:dI σ.H a b with
 |some u =>
  replace e:=he▸e
  obtain rfl:=oInj e
  obtain⟨da,db,h1,h2,z⟩:=oL S r1 r2 he
  exact⟨da,db,h1.up (Nat.le_succ _),h2.up (Nat.le_succ _),z⟩
 |none =>
  replace e:=he▸e
  obtain⟨p,hp,e2⟩:=aw e
  obtain⟨q,hq,e3⟩:=aw e2
  obtain⟨u,v,hu,hv,rfl⟩:=dt e3
  obtain⟨l1,y1,z1,rfl,t1,a1,b1⟩:=t7 r1 hp
  obtain⟨l2,y2,z2,rfl,t2,a2,b2⟩:=t7 r2 hq
  obtain⟨d1,d2,g1,g2,w⟩:=oL S a1 a2 hu
  obtain⟨d3,d4,g3,g4,w'⟩:=oL S b1 b2 hv
  refine⟨_,_,pB t1 g1 g3,pB t2 g2 g4,?_⟩
  refine(?_:(PyData.eqv d1 d2&&(PyData.eqv d3 d4&&true))=(u&&v))
  refine ab w ?_;refine ab w' ?_;rw[Bool.and_true]
inductive InR(A:Around)(s:Shared)(x y:Value)(t:Bool):Prop|mk (l:Addr) (o:Obj) (items:List Value) (n:Nat) (f:Value→Bool):y=.ref l→s.heap.get? l=some o→(o.cls=.type "tuple" ∨ o.cls=.type "list")→o.data=.seq items.toArray n→(∀z,z∈items→EqAt A s z x (f z))→items.any f=t→InR A s x y t
theorem pH(S:SS wd X B m σ s){a c:V}{x y:Value}{t:Bool}(hu:X.A.units+100<cLine)(r1:VR wd s.heap a x)(r2:VR wd s.heap c y)(e:vB σ.H a c=some t):InR X.A.in1 s x y t:=by
 obtain⟨vs,hv,e⟩:=aw e
 have hf:=aX e
 obtain rfl:=oInj (aO e)
 obtain⟨l,o,items,n,rfl,ho,hc,hd,hl,r⟩:=S.items r2 hv
 obtain⟨as,ra,la,da⟩:=jd r1 20 (ak hf)
 classical
 have key:∀{v:V} {z:Value},VR wd s.heap v z→V.flat v 20=true→decide (∃d as,Reads s.heap z d as∧PyData.eqv d (V.py wd a)=true)=V.eqb v a∧EqAt X.A.in1 s z x (V.eqb v a):=fun{v z} rv fv=>by
  obtain⟨bs,rb,lb,db⟩:=jd rv 20 fv
  rw[← rh v a 20 20 fv (ak hf)]
  refine⟨?_,eqAt_reads _ _ _ _ _ _ _ _ rb ra lb la (bD (cS (am (Nat.min_le_left _ _) db) (X.A.units+1)) (bD (cS (show 21≤100 by decide) _) hu))⟩
  cases h:PyData.eqv (V.py wd v) (V.py wd a)with
  |true=>exact decide_eq_true ⟨_,_,rb,h⟩
  |false =>
   refine decide_eq_false ?_
   rintro ⟨d,as',rd,q⟩
   obtain rfl:=(Reads.unique rb _ _ rd).1
   exact fT (h.symm.trans q)
 have all:V.flats vs 20=true→(∀z,z∈items→EqAt X.A.in1 s z x (decide (∃d as,Reads s.heap z d as∧PyData.eqv d (V.py wd a)=true)))∧(items.any fun z=>decide (∃d as,Reads s.heap z d as∧PyData.eqv d (V.py wd a)=true))=vs.any fun v=>V.eqb v a :=
  r.ind (P:=fun vs items=>V.flats vs 20=true→(∀z,z∈items→EqAt X.A.in1 s z x (decide (∃d as,Reads s.heap z d as∧PyData.eqv d (V.py wd a)=true)))∧(items.any fun z=>decide (∃d as,Reads s.heap z d as∧PyData.eqv d (V.py wd a)=true))=vs.any fun v=>V.eqb v a)
   (fun zz=>⟨fun zz h=>absurd h Kr,rfl⟩) fun rv zz ih fl=>by
    obtain⟨k1,k2⟩:=key rv (ak fl)
    obtain⟨i1,i2⟩:=ih (aK fl)
    exact⟨KI.mpr ⟨k1▸k2,i1⟩,by refine ab List.any_cons ?_;refine ab List.any_cons ?_;refine ab k1 ?_;refine ab i2 ?_;rfl⟩
 obtain⟨h1,h2⟩:=all (aK hf)
 refine⟨l,o,items,n,_,rfl,ho,?_,hd,h1,h2⟩
 cases hc with
 |tup h=>exact .inl h
 |list h=>exact .inr h
theorem pp{h:Heap}{a b:V}{x y:Value}{t:Bool}(r1:VR wd h a x)(r2:VR wd h b y)(e:nw a b=some t):plainIs x y=true∧(x==y)=t:=by
 have hy:y=.none∧isNone a=some t:=by
  revert e
  apply @VR.casesOn wd h (fun b y zz=>nw a b=some t→y=.none∧isNone a=some t) _ _ r2
  case none=>exact fun e=>⟨rfl,e⟩
  all_goals (intros;exact nS ‹_›)
 obtain⟨rfl,e⟩:=hy
 clear r2
 revert e
 apply @VR.casesOn wd h (fun a x zz=>isNone a=some t→plainIs x .none=true∧(x==.none)=t) _ _ r1<;>intros<;>first|exact⟨rfl,oInj ‹_›⟩|exact nS ‹_›
noncomputable def Fp:CO→CmpOp
 |.eq=>.Eq|.ne=>.NotEq|.lt=>.Lt|.le=>.LtE|.gt=>.Gt|.ge=>.GtE|.isin=>.In|.notin=>.NotIn|.is=>.Is|.isnot=>.IsNot
theorem ju{op:CmpOp}{o:CO}(h:lU op=some o):op=Fp o:=by
 cases op<;>(obtain rfl:=oInj h;rfl)
theorem i7(hu:X.A.units+100<cLine)(S:SS wd X B m σ s){o:CO}{a b:V}{x y:Value}{t:Bool}{Q:Value→Shared→Prop}{E:Value→Shared→Prop}(r1:VR wd s.heap a x)(r2:VR wd s.heap b y)(e:di σ.H o a b=some t)(h:Q (.bool t) s) :
  wpAny (model wd.prog wd.w) X.A (compareOp (Fp o) x y) Q E s:=by
 have lim:∀{d d':PyData},d.depth≤22→X.A.units+min d.depth d'.depth<cLine:=fun{d d'} l=>bD (cS (am (Nat.min_le_left _ _) l) _) (bD (cS (by decide) _) hu)
 have ii:∀{f:Int→Int→Bool},sO f a b=some t→∃i j u v,x=.int i u∧y=.int j v∧f i j=t:=fun e=>by
  obtain⟨i,j,e1,e2,rfl⟩:=dt e
  obtain⟨u,_,rfl⟩:=r1.int_ e1
  obtain⟨v,_,rfl⟩:=r2.int_ e2
  exact⟨i,j,u,v,rfl,rfl,rfl⟩
 cases o with
 |eq =>
  obtain⟨da,db,⟨as,h1,c1,e1⟩,⟨bs,h2,c2,e2⟩,rfl⟩:=sA S r1 r2 e
  exact compareEq_reads h1 h2 c1 c2 (lim e1) h
 |ne =>
  obtain⟨u,e',rfl⟩:=bX e
  obtain⟨da,db,⟨as,h1,c1,e1⟩,⟨bs,h2,c2,e2⟩,rfl⟩:=sA S r1 r2 e'
  exact compareNe_reads h1 h2 c1 c2 (lim e1) h
 |lt=>obtain⟨i,j,u,v,rfl,rfl,rfl⟩:=ii e;exact PyProof.Rows.lt_int h
 |le=>obtain⟨i,j,u,v,rfl,rfl,rfl⟩:=ii e;exact PyProof.Rows.le_int h
 |gt=>obtain⟨i,j,u,v,rfl,rfl,rfl⟩:=ii e;exact PyProof.Rows.gt_int h
 |ge=>obtain⟨i,j,u,v,rfl,rfl,rfl⟩:=ii e;exact PyProof.Rows.ge_int h
 |isin =>
  obtain⟨l,o,items,n,f,rfl,h1,hc,hd,hf,rfl⟩:=pH S hu r1 r2 e
  rcases hc with hc|hc
  ·exact in_tupleAt f ⟨o,h1,hc,n,hd⟩ (fun y hy=>hf y (Array.mem_toList_iff.mpr hy)) (List.any_toArray.symm▸h)
  ·exact in_listAt f ⟨o,h1,hc,n,hd⟩ (fun y hy=>hf y (Array.mem_toList_iff.mpr hy)) (List.any_toArray.symm▸h)
 |notin =>
  obtain⟨u,e',rfl⟩:=bX e
  obtain⟨l,o,items,n,f,rfl,h1,hc,hd,hf,rfl⟩:=pH S hu r1 r2 e'
  rcases hc with hc|hc
  ·exact notIn_tupleAt f ⟨o,h1,hc,n,hd⟩ (fun y hy=>hf y (Array.mem_toList_iff.mpr hy)) (List.any_toArray.symm▸h)
  ·exact notIn_listAt f ⟨o,h1,hc,n,hd⟩ (fun y hy=>hf y (Array.mem_toList_iff.mpr hy)) (List.any_toArray.symm▸h)
 |is =>
  obtain⟨k1,rfl⟩:=pp r1 r2 e
  exact wpAny_is_plain k1 h
 |isnot =>
  obtain⟨u,e',rfl⟩:=bX e
  obtain⟨k1,rfl⟩:=pp r1 r2 e'
  exact wpAny_isNot_plain k1 h
theorem gp(ok:X.OK wd):X.A.units+100<cLine:=bD (cS (am (by decide) (Nat.le_add_left 230 _)) _) ok.units
set_option tactic.hygienic true in
theorem jz(S:SS wd X B m σ s){v:V}{x:Value}{t:Bool}{Q:Bool→Shared→Prop}{E:Value→Shared→Prop}(r:VR wd s.heap v x)(e:gG σ.H v=some t)(h:∀n,Q t { s with toks:=n }) :
  wpAny (model wd.prog wd.w) X.A (truthy x) Q E s:=by
 have hl:v.bool?=none→wpAny (model wd.prog wd.w) X.A (truthy x) Q E s:=fun z=>by
  unfold gG at e
  replace e:=z▸e
  obtain⟨vs,e1,rfl⟩:=bX e
  obtain⟨a,its,n,_,rfl,_,p,l,q⟩:=S.list r e1
  refine wpAny_truthy_list ⟨_,p,rfl,_,rfl⟩ (hV l) ?_
  have:(!its.toArray.isEmpty)=!vs.isEmpty:=q.ind (P:=fun vs its=>(!its.toArray.isEmpty)=!vs.isEmpty) rfl fun zz zz zz=>rfl
  refine ab this ?_
  exact h _
 revert e hl
 apply @VR.casesOn wd s.heap (fun v x zz=>gG σ.H v=some t→(v.bool?=none→wpAny (model wd.prog wd.w) X.A (truthy x) Q E s)→wpAny (model wd.prog wd.w) X.A (truthy x) Q E s) _ _ r
 case bool=>intro b e _;obtain rfl:=oInj e;exact wpAny_truthy_bool (h s.toks)
 all_goals (intros;rename_i hl;exact hl rfl)
theorem iZ{e:Expr}(op:CmpOp):cG e=true→behindInMarks op e=false:=by
 apply @Expr.casesOn (fun e=>cG e=true→behindInMarks op e=false) e<;>intros<;>first|rfl|exact fT ‹_›
theorem GQ{e:Expr}{pos:Pos}{pe:PE}(ih:JE wd X e pe):JE wd X (.UnaryOp .USub e pos) (.neg pe):=by
 intro B m σ s Q E S h
 refine wpAny_UnaryOp (step (Keep.refl _) (ih B m σ s _ E S h) fun x v σ1 m1 s1 S1 r1 k1 q1=>?_)
 obtain⟨i,hi,q⟩:=nd q1
 obtain⟨t,_,rfl⟩:=r1.int_ hi
 exact PyProof.Rows.neg_int (bh S1.toks (.int _ _) k1 q)
theorem GO{e:Expr}{pos:Pos}{pe:PE}(ih:JE wd X e pe):JE wd X (.UnaryOp .Not e pos) (.not pe):=by
 intro B m σ s Q E S h
 refine wpAny_UnaryOp (step (Keep.refl _) (ih B m σ s _ E S h) fun x v σ1 m1 s1 S1 r1 k1 q1=>?_)
 obtain⟨b,hb,q⟩:=nd q1
 exact not_of (jz S1 r1 hb fun n=>bh S1.toks (.bool _) k1 q)
theorem GY(ok:X.OK wd){l r:Expr}{op:CmpOp}{o:CO}{pos:Pos}{pl pr:PE}(ho:lU op=some o)(hp:cG r=true)(hl:JE wd X l pl)(hr:JE wd X r pr):JE wd X (.Compare l [op] [r] pos) (.cmp o pl pr):=by
 intro B m σ s Q E S h
 refine wpAny_Compare1 (step (Keep.refl _) (hl B m σ s _ E S h) fun x v σ1 m1 s1 S1 r1 k1 q1=>?_) (iZ op hp)
 refine step k1 (hr B m1 σ1 s1 _ E S1 q1) fun y w σ2 m2 s2 S2 r2 k2 q2=>?_
 obtain⟨t,ht,q⟩:=nd q2
 exact ju ho▸i7 (gp ok) S2 (r1.keeps k2) r2 ht (bh S2 (.bool _) (k1.trans k2) q)
theorem ua{b c:Expr}{o o':CmpOp}{env:Env}(hc:cG c=true):markedEach [o,o'] [b,c] [eval b env,eval c env]=[eval b env,eval c env]:=by
 refine(?_:eval b env::[markedBehindIn o' c (eval c env)]=_)
 unfold markedBehindIn
 refine ab (iZ o' hc) ?_;rfl
theorem qb{l b c:Expr}{o o':CmpOp}{pos:Pos}{env:Env}(hc:cG c=true) :
  eval (.Compare l [o,o'] [b,c] pos) env=(do compareChain pos (← eval l env) [o,o'] [eval b env,eval c env]):=by
 refine(?_:(do compareChain pos (← eval l env) [o,o'] (markedEach [o,o'] [b,c] [eval b env,eval c env]))=_)
 refine ab (ua hc) ?_;rfl
theorem E0(ok:X.OK wd){a b c:Expr}{op op':CmpOp}{o o':CO}{pos:Pos}{pa pb pc:PE}(ho:lU op=some o)(ho':lU op'=some o')(hc:cG c=true)(ha:JE wd X a pa)(hB:JE wd X b pb)(hC:JE wd X c pc) :
  JE wd X (.Compare a [op,op'] [b,c] pos) (.cmp2 o o' pa pb pc):=by
 intro B m σ s Q E S h
 obtain rfl:=ju ho
 obtain rfl:=ju ho'
 refine ab (qb hc) ?_
 refine Kc (step (Keep.refl _) (ha B m σ s _ E S h) fun x v σ1 m1 s1 S1 r1 k1 q1=>?_)
 refine Kc (wpAny_holding (step k1 (hB B m1 σ1 s1 _ E S1 q1) fun y w σ2 m2 s2 S2 r2 k2 q2=>Kc (wpAny_standAt ?_)))
 obtain⟨t,ht,q⟩:=nd q2
 refine Kc (wpAny_holding (i7 (gp ok) S2 (r1.keeps k2) r2 ht (Kc (wpAny_release' (Kc (wpAny_holding (wpAny_truthy_bool ?_)))))))
 cases t with
 |false=>exact Ke (bh S2 (.bool _) (k1.trans k2) (kX q))
 |true =>
  refine Kc (wpAny_holding (step (k1.trans k2) (hC B m2 σ2 s2 _ E S2 (kf q)) fun z u σ3 m3 s3 S3 r3 k3 q3=>Kc (wpAny_standAt (wpAny_operate' ?_))))
  obtain⟨t,ht,q⟩:=nd q3
  exact i7 (gp ok) S3 (r2.keeps k3) r3 ht (bh S3 (.bool _) ((k1.trans k2).trans k3) q)
end
end
section
section
variable {wd:Wd} {X:Ctx} {B:Heap} {m:Str→Option Value} {σ:St} {s:Shared}
theorem GW{t a b:Expr}{pos:Pos}{pt pa pb:PE}(ht:JT wd X t pt)(ha:JE wd X a pa)(hb:JE wd X b pb):JE wd X (.IfExp t a b pos) (.ite pt pa pb):=by
 intro B m σ s Q E S h
 refine wpAny_IfExp (step (Keep.refl _) (ht B m σ s _ E S h) fun c c' σ1 m1 s1 S1 r1 k1 q1=>?_)
 subst r1
 cases c' with
 |true=>exact bY k1 (ha B m1 σ1 s1 _ E S1 (kf q1))
 |false=>exact bY k1 (hb B m1 σ1 s1 _ E S1 (kX q1))
noncomputable def qr:BoolOp→Bool|.And=>true|.Or=>false
theorem zO{r:cA}(R:RX wd X r){op:BoolOp}{pos:Pos}:∀{es:List Expr} {pes:List PE},cD r es X.z=some pes→JV wd X (eval (.BoolOp op es pos) X.env) (wB (qr op) pes X.c):=by
 intro es
 induction es with
 |nil =>
  intro pes hs
  obtain rfl:=cu hs
  exact fun B m σ s Q E S h=>h.elim
 |cons e es ih =>
  intro pes hs
  cases es with
  |nil =>
   obtain⟨p,t,h1,h2,rfl⟩:=bF hs
   obtain rfl:=cu h2
   exact fun B m σ s Q E S h=>BoolOp_one ((R _ _ h1).je B m σ s _ E S h)
  |cons e2 es =>
   obtain⟨p,t,h1,h2,rfl⟩:=bF hs
   obtain⟨p2,r2,h3,h4,rfl⟩:=bF h2
   intro B m σ s Q E S h
   have hrec:=ih h2
   have h:wE p X.c σ (fun v σ=>aG (gG σ.H v) fun t=>br (t==qr op) (wB (qr op) (p2::r2) X.c σ Q E) (Q v σ)) E:=h
   have st:=(R _ _ h1).je B m σ s _ E S h
   cases op with
   |And =>
    refine BoolOp_and (step (Keep.refl _) st fun x v σ1 m1 s1 S1 r1 k1 q1=>?_)
    obtain⟨t,ht,q⟩:=nd q1
    refine jz S1 r1 ht fun n=>?_
    cases t with
    |true=>exact bY (s':={ s1 with toks:=n }) k1 (hrec B m1 σ1 _ _ E S1.toks (kf q))
    |false=>exact bh S1.toks r1 k1 (kX q)
   |Or =>
    refine BoolOp_or (step (Keep.refl _) st fun x v σ1 m1 s1 S1 r1 k1 q1=>?_)
    obtain⟨t,ht,q⟩:=nd q1
    refine jz S1 r1 ht fun n=>?_
    cases t with
    |true=>exact bh S1.toks r1 k1 (kX q)
    |false=>exact bY (s':={ s1 with toks:=n }) k1 (hrec B m1 σ1 _ _ E S1.toks (kf q))
theorem zL{e:Expr}{pe:PE}(he:isTrue e X.env (eval e X.env)=(do let v←eval e X.env;standAt e.pos;holding [v] (truthy v)))
  (hw:∀W σ (Q:Bool→St→Prop) (E:Nat→St→Prop),wT pe W X.c σ Q E→W (fun v σ=>aG (gG σ.H v) fun b=>Q b σ)) (ih:JE wd X e pe):JT wd X e pe:=by
 intro B m σ s Q E S h
 refine wpAny_isTrue_value (step (Keep.refl _) (ih B m σ s _ E S (hw _ _ _ _ h)) fun x v σ1 m1 s1 S1 r1 k1 q1=>?_) he
 obtain⟨b,hb,q⟩:=nd q1
 exact jz S1 r1 hb fun n=>bh S1.toks rfl k1 q
theorem EM{e:Expr}{pos:Pos}{pe:PE}(ih:JT wd X e pe):JT wd X (.UnaryOp .Not e pos) (.not pe):=by
 intro B m σ s Q E S h
 refine wpAny_isTrue_Not (step (Keep.refl _) (ih B m σ s _ E S h) fun c c' σ1 m1 s1 S1 r1 k1 q1=>?_)
 subst r1
 exact bh S1 rfl k1 q1
theorem EN{t a b:Expr}{pos:Pos}{pt pa pb:PE}(ht:JT wd X t pt)(ha:JT wd X a pa)(hb:JT wd X b pb):JT wd X (.IfExp t a b pos) (.ite pt pa pb):=by
 intro B m σ s Q E S h
 refine isTrue_IfExp (step (Keep.refl _) (ht B m σ s _ E S h) fun c c' σ1 m1 s1 S1 r1 k1 q1=>?_)
 subst r1
 cases c' with
 |true=>exact bY k1 (ha B m1 σ1 s1 _ E S1 (kf q1))
 |false=>exact bY k1 (hb B m1 σ1 s1 _ E S1 (kX q1))
theorem EO(ok:X.OK wd){l r:Expr}{op:CmpOp}{o:CO}{pos:Pos}{pl pr:PE}(ho:lU op=some o)(hp:cG r=true)(hl:JE wd X l pl)(hr:JE wd X r pr):JT wd X (.Compare l [op] [r] pos) (.cmp o pl pr):=by
 intro B m σ s Q E S h
 refine wpAny_isTrue_Compare1 (step (Keep.refl _) (hl B m σ s _ E S h) fun x v σ1 m1 s1 S1 r1 k1 q1=>?_) (iZ op hp)
 refine step k1 (hr B m1 σ1 s1 _ E S1 q1) fun y w σ2 m2 s2 S2 r2 k2 q2=>?_
 obtain⟨t,ht,q⟩:=nd q2
 exact ju ho▸i7 (gp ok) S2 (r1.keeps k2) r2 ht (wpAny_truthy_bool (bh S2 rfl (k1.trans k2) q))
theorem nv{l b c:Expr}{o o':CmpOp}{pos:Pos}{env:Env}{w:Sem Value}(hc:cG c=true) :
  isTrue (.Compare l [o,o'] [b,c] pos) env w=(do testChain pos (← eval l env) [o,o'] [eval b env,eval c env]):=by
 refine(?_:(do testChain pos (← eval l env) [o,o'] (markedEach [o,o'] [b,c] [eval b env,eval c env]))=_)
 refine ab (ua hc) ?_;rfl
theorem Cy(ok:X.OK wd){a b c:Expr}{op op':CmpOp}{o o':CO}{pos:Pos}{pa pb pc:PE}(ho:lU op=some o)(ho':lU op'=some o')(hc:cG c=true)(ha:JE wd X a pa)(hB:JE wd X b pb)(hC:JE wd X c pc) :
  JT wd X (.Compare a [op,op'] [b,c] pos) (.cmp2 o o' pa pb pc):=by
 intro B m σ s Q E S h
 obtain rfl:=ju ho
 obtain rfl:=ju ho'
 refine ab (nv hc) ?_
 refine Kc (step (Keep.refl _) (ha B m σ s _ E S h) fun x v σ1 m1 s1 S1 r1 k1 q1=>?_)
 refine Kc (wpAny_holding (step k1 (hB B m1 σ1 s1 _ E S1 q1) fun y w σ2 m2 s2 S2 r2 k2 q2=>Kc (wpAny_standAt ?_)))
 obtain⟨t,ht,q⟩:=nd q2
 refine Kc (wpAny_holding (i7 (gp ok) S2 (r1.keeps k2) r2 ht (Kc (wpAny_release' (Kc (wpAny_holding (wpAny_truthy_bool ?_)))))))
 cases t with
 |false=>exact Ke (bh S2 rfl (k1.trans k2) (kX q))
 |true =>
  refine Kc (wpAny_holding (step (k1.trans k2) (hC B m2 σ2 s2 _ E S2 (kf q)) fun z u σ3 m3 s3 S3 r3 k3 q3=>Kc (wpAny_standAt (Kc (wpAny_operate' ?_)))))
  obtain⟨t,ht,q⟩:=nd q3
  exact i7 (gp ok) S3 (r2.keeps k3) r3 ht (wpAny_holding (wpAny_truthy_bool (bh S3 rfl ((k1.trans k2).trans k3) q)))
theorem EP{r:cA}(R:RX wd X r){op:BoolOp}:∀{es:List Expr} {pes:List PE},cD r es X.z=some pes→J wd X BR (allTrue op es X.env) (wA (qr op) pes X.c):=by
 intro es
 induction es with
 |nil =>
  intro pes hs
  obtain rfl:=cu hs
  intro B m σ s Q E S h
  cases op with
  |And=>exact wpAny_allTrue_And_nil (cY S rfl h)
  |Or=>exact wpAny_allTrue_Or_nil (cY S rfl h)
 |cons e es ih =>
  intro pes hs
  obtain⟨p,t,h1,h2,rfl⟩:=bF hs
  intro B m σ s Q E S h
  have hrec:=ih h2
  have st:=(R _ _ h1).jt B m σ s _ E S h
  cases op with
  |And =>
   refine wpAny_allTrue_And_cons (step (Keep.refl _) st fun c c' σ1 m1 s1 S1 r1 k1 q1=>?_)
   subst r1
   cases c' with
   |true=>exact bY k1 (hrec B m1 σ1 s1 _ E S1 (kf q1))
   |false=>exact bh S1 rfl k1 (kX q1)
  |Or =>
   refine wpAny_allTrue_Or_cons (step (Keep.refl _) st fun c c' σ1 m1 s1 S1 r1 k1 q1=>?_)
   subst r1
   cases c' with
   |true=>exact bh S1 rfl k1 (kX q1)
   |false=>exact bY k1 (hrec B m1 σ1 s1 _ E S1 (kf q1))
end
end
section
noncomputable def we(envs:List Env)(ls:List Addr):Prop:=∀e∈envs,e.scope.kind≠.module∧∃L,e.frame=some L∧L∈ls
inductive RetEnd(wd:Wd)(B:Heap)(outs:List (Addr×(Str→Option Value)))(Q:V→Hp→Prop)(v:Value)(s':Shared):Prop|mk (av:V) (H':Hp) (kd:Addr→Kd) (D:Addr→Addr):GL wd kd D B outs H' s'.heap→s'.gens=#[]→s'.os=wd.os0→VR wd s'.heap av v→Q av H'→RetEnd wd B outs Q v s'
inductive ErrEnd(wd:Wd)(B:Heap)(outs:List (Addr×(Str→Option Value)))(E:Nat→Hp→Prop)(e:Value)(s':Shared):Prop|mk (k:Nat) (H':Hp) (kd:Addr→Kd) (D:Addr→Addr):GL wd kd D B outs H' s'.heap→s'.gens=#[]→s'.os=wd.os0→ExcAt wd kd s'.heap none k e→E k H'→ErrEnd wd B outs E e s'
noncomputable def jy(wd:Wd)(B:Heap)(outs:List (Addr×(Str→Option Value)))(Q:V→Hp→Prop)(E:Nat→Hp→Prop)(r:Result)(s':Shared):Prop:=match r with
 |.ok fl=>match fl with|.ret v=>RetEnd wd B outs Q v s'|_=>False
 |.error e=>ErrEnd wd B outs E e s'
noncomputable def Calls(wd:Wd)(hd:Bool)(d:Nat):du:=fun f vs H Q E =>
 ∀(A:Around) (envs:List Env) (outs:List (Addr×(Str→Option Value))) (B:Heap) (s:Shared) (fv:Value) (xs:List Value) (kd:Addr→Kd) (D:Addr→Addr),
  A.frames=some envs→we envs (outs.map (·.1))→(hd=false→A.handled=none)→A.depth+10*d+15<recursionLimit→A.units+20*d+215<cLine →
  GL wd kd D B outs H s.heap→s.gens=#[]→s.os=wd.os0→VR wd s.heap f fv→VRs wd s.heap vs xs →
  codeAny (model wd.prog wd.w) A (.call fv ⟨xs,[]⟩) (jy wd B outs Q E) s
structure Ctx.Has(wd:Wd)(X:Ctx):Prop where
 K:∀f vs H Q E,X.c.K f vs H Q E→Calls wd false X.d f vs H Q E
 KH:∀f vs H Q E,X.c.KH f vs H Q E→Calls wd true X.d f vs H Q E
section
variable {wd:Wd} {X:Ctx} {B:Heap} {m:Str→Option Value} {σ:St} {s:Shared}
theorem ExcAt.up{kd:Addr→Kd}{h:Heap}{k:Nat}{e:Value}{f:Option Addr}(x:ExcAt wd kd h none k e):ExcAt wd kd h f k e:=by
 obtain⟨a,oe,C,vs,h1,h2,h3,h4,h5,h6,h7⟩:=x
 refine⟨a,oe,C,vs,h1,h2,h3,h4,h5,h6,?_⟩
 cases h7 with
 |none z=>exact .none z
 |some T oT ts g1 g2 g3 g4 g5 g6 g7 =>
  refine .some T oT ts g1 g2 g3 g4 g5 g6 (.none ?_)
  cases g7 with
  |none z=>exact z
  |some f z=>exact nS z
theorem ou(ok:X.OK wd){m:Str→Option Value}:we X.envs (((X.env.locals,m)::X.outs).map (·.1)):=ok.fr
theorem Ctx.Has.call(hh:X.Has wd)(ok:X.OK wd){f:V}{vs:List V}{H:Hp}{Q:V→Hp→Prop}{E:Nat→Hp→Prop}(h:X.c.call f vs H Q E):∃hd,(hd=false→X.A.handled=none)∧Calls wd hd X.d f vs H Q E:=by
 unfold Cx.call at h
 cases z:X.c.hc with
 |none=>replace h:=z▸h;exact⟨false,fun zz=>ok.handled z,hh.K _ _ _ _ _ h⟩
 |some _=>replace h:=z▸h;exact⟨true,fun z=>tF z,hh.KH _ _ _ _ _ h⟩
noncomputable def Du(Φ E:Value→Shared→Prop)(r:Result)(s':Shared):Prop:=match r with
 |.ok fl=>match fl with|.ret v=>Φ v s'|_=>False
 |.error e=>E e s'
theorem sS{kd:Addr→Kd}{D:Addr→Addr}{H:Hp}{s1:Shared}{L:Lc}(g:GL wd kd D B ((X.env.locals,m)::X.outs) H s1.heap)(l:LR wd s1.heap L m)(k1:Keep s.heap s1.heap){Q1:V→Hp→Prop}{E:Nat→St→Prop}{Φ:Value→Shared→Prop}{r:Result}{s':Shared}
  (he:jy wd (big kd s1.heap) ((X.env.locals,m)::X.outs) Q1 (lq L E) r s') (h:∀av v H',SS wd X B m ⟨L,H'⟩ s'→VR wd s'.heap av v→Keep s.heap s'.heap→Q1 av H'→Φ v s'):Du Φ (PX wd X B s E) r s':=by
 cases r with
 |ok fl =>
  cases fl with
  |ret v =>
   obtain⟨av,H',kd',D',g',c',d',rv',q⟩:=he
   have kp:=g.keepBig g'
   exact h av v H' ⟨⟨kd',D',g'.weaken g.big g.gd⟩,l.keeps kp,c',d'⟩ rv' (k1.trans kp) q
  |_=>exact he.elim
 |error e =>
  obtain⟨k,H',kd',D',g',c',d',ex,q⟩:=he
  have kp:=g.keepBig g'
  exact⟨k,⟨L,H'⟩,m,⟨⟨kd',D',g'.weaken g.big g.gd,ex.up⟩,l.keeps kp,c',d'⟩,k1.trans kp,q⟩
theorem rx(ok:X.OK wd){a:Nat}(h:a≤X.A.depth+5):a+10*X.d+15<recursionLimit:=bD (by have:=Nat.add_le_add_right (Nat.add_le_add_right h (10*X.d)) 15;rw[Nat.add_right_comm X.A.depth]at this;exact this) ok.depth
theorem wW(ok:X.OK wd){a:Nat}(h:a≤X.A.units+15):a+20*X.d+215<cLine:=bD (by have:=Nat.add_le_add_right (Nat.add_le_add_right h (20*X.d)) 215;rw[Nat.add_right_comm X.A.units]at this;exact this) ok.units
theorem yq(ok:X.OK wd)(hh:X.Has wd)(S:SS wd X B m σ s){f:V}{vs:List V}{fv:Value}{xs:List Value}{Q:V→St→Prop}{E:Nat→St→Prop}(rf:VR wd s.heap f fv)(rv:VRs wd s.heap vs xs)
  (h:X.c.call f vs σ.H (lw σ.L Q) (lq σ.L E)):wpAny (model wd.prog wd.w) X.A (call fv xs) (PV wd X B s (VR wd) Q) (PX wd X B s E) s:=by
 obtain⟨⟨kd,D,g⟩,l,c,d⟩:=S
 obtain⟨hd,h1,h2⟩:=hh.call ok h
 exact wpAny_call (codeAny_mono (h2 X.A X.envs _ (big kd s.heap) s fv xs kd D ok.frames (ou ok) h1 (rx ok (KB ..)) (wW ok (KB ..)) g.rebase c d rf rv)
  fun r s' he=>by
   have:=sS g l (Keep.refl _) he (Φ:=PV wd X B s (VR wd) Q) fun av v H' S' rv k q=>⟨av,_,m,S',rv,k,q⟩
   cases r with
   |ok fl=>cases fl<;>exact this
   |error e=>exact this)
inductive FuncR(h:Heap)(x:Value):Prop|mk (a:Addr) (o:Obj) (fd:FuncData):x=.ref a→h.get? a=some o→o.data=.func fd→FuncR h x
theorem BJ{h:Heap}{v:V}{p}{x:Value}(r:VR wd h v x):v.clo?=some p→FuncR h x:=by
 apply @VR.casesOn wd h (fun v x zz=>v.clo?=some p→FuncR h x) _ _ r
 case clo=>intro _ _ _ _ _ _ _ a b _ _ _;exact⟨_,_,_,rfl,a,b⟩
 all_goals (intros;exact nS ‹_›)
theorem nq(ok:X.OK wd)(hh:X.Has wd){r:cA}(R:RX wd X r){f:V}{p}{fv:Value}{first:List Value}{fvs:List V}{pos:Pos}{es:List Expr}{pes:List PE}(hs:cD r es X.z=some pes)
  (S:SS wd X B m σ s) (rf:VR wd s.heap f fv) (hf:f.clo?=some p) (rfirst:VRs wd s.heap fvs first) {Q:V→St→Prop} {E:Nat→St→Prop} (h:wEs pes X.c σ (fun vs σ=>X.c.call f (fvs++vs) σ.H (lw σ.L Q) (lq σ.L E)) E) :
  wpAny (model wd.prog wd.w) X.A (callWith pos fv first (backTo pos (starEach es X.env)) []) (PV wd X B s (VR wd) Q) (PX wd X B s E) s:=by
 obtain⟨a,o,fd,rfl,ho,hd⟩:=BJ rf hf
 refine iU (P:=fun h=>∃o fd,h.get? a=some o∧o.data=.func fd) (d5 R hs) (fun h hp=>vq h hp) ?_
 refine step (Keep.refl _) (hW R hs B m σ s _ E S h) fun xs vs σ1 m1 s1 S1 r1 k1 q1=>⟨⟨o,fd,k1 _ _ ho (.inr (.inl ⟨fd,hd⟩)),hd⟩,?_⟩
 exact bY k1 (yq ok hh S1 (rf.keeps k1) ((rfirst.keeps k1).append r1.1) q1)
theorem CN(W:wd.OK)(ok:X.OK wd)(hh:X.Has wd){r:cA}(R:RX wd X r){id:Str}{p pos:Pos}{es:List Expr}{pes:List PE}{f:Nat}(hk:X.z.kind id=some .globalImplicit)(hg:X.z.gk id=some (.fn f))(hs:cD r es X.z=some pes) :
  JE wd X (.Call (.Name id p) es [] pos) (.callg f pes):=by
 intro B m σ s Q E S h
 obtain⟨x,hx,rf⟩:=W.fns id f ((ok.gk _).symm.trans hg)
 exact wpAny_Call_NameR (eW W ok S hk hx (jo W ok hg) (nq ok hh R hs S (rf _ S.gd) rfl .nil h))
theorem CM(ok:X.OK wd)(hh:X.Has wd){r:cA}(R:RX wd X r){f:Expr}{pos:Pos}{pf:PE}{es:List Expr}{pes:List PE}(hf:JE wd X f pf)(hs:cD r es X.z=some pes)
  (he:∀{M:Model} {A:Around} {Q E:Value→Shared→Prop} {s:Shared},wpAny M A (eval f X.env) (fun fv s1=>wpAny M A (callWith pos fv [] (backTo pos (starEach es X.env)) []) Q E s1) E s→wpAny M A (eval (.Call f es [] pos) X.env) Q E s):JE wd X (.Call f es [] pos) (.callv pf pes):=by
 intro B m σ s Q E S h
 refine he (step (Keep.refl _) (hf B m σ s _ E S h) fun x v σ1 m1 s1 S1 r1 k1 q1=>?_)
 obtain⟨p,hp,q1⟩:=nd q1
 obtain rfl:=xW hp
 exact bY k1 (nq ok hh R hs S1 r1 rfl .nil q1)
theorem xY{e i:Expr}{p pos:Pos}{env:Env}{es:List Expr}{M:Model}{A:Around}{Q E:Value→Shared→Prop}{s:Shared}(h:wpAny M A (eval (.Subscript e i p) env) (fun fv s1=>wpAny M A (callWith pos fv [] (backTo pos (starEach es env)) []) Q E s1) E s):wpAny M A (eval (.Call (.Subscript e i p) es [] pos) env) Q E s:=by
 refine(?_:wpAny _ _ (do callWith pos (← eval (.Subscript e i p) env) [] (backTo pos (starEach es env)) []) _ _ s)
 exact Kc h
noncomputable def vr(h:Heap)(L:Addr):List (Addr×Obj):=(List.range h.objs.size).filterMap fun a=>if a=L then none else (h.get? a).map fun o=>(a,o)
theorem rG{h:Heap}{L a:Addr}{o:Obj}(m:(a,o)∈vr h L):a≠L∧h.get? a=some o:=by
 obtain⟨b,_,e⟩:=List.mem_filterMap.mp m
 by_cases n:b=L
 ·replace e:=(Kh n)▸e;exact nS e
 ·replace e:=(Kg n)▸e
  obtain⟨o',h1,h2⟩:=Kt.mp e
  injection h2 with zi zj;subst zi zj
  exact⟨n,h1⟩
theorem rO{h:Heap}{L a:Addr}{o:Obj}(n:a≠L)(e:h.get? a=some o):(a,o)∈vr h L :=
 List.mem_filterMap.mpr ⟨a,KZ.mpr (Heap.lt_size e),by refine ab (Kg n) ?_;refine ab e ?_;rfl⟩
noncomputable def h00:Heap:=⟨#[],{}⟩
theorem r8(a:Addr):h00.get? a=none:=by unfold h00 Heap.get?;simp
theorem HR{h:Heap}{L:Addr}{m:Str→Option Value}(n:h.Ns L m):Fr h00 L h m:=⟨n,fun b zz e=>nS ((r8 b).symm.trans e),Kx _⟩
theorem Ea{h:Heap}{L:Addr}:News h00 L h (vr h L):=fun p hp=>⟨(rG hp).2,(rG hp).1,r8 _⟩
theorem tB{h h':Heap}{L:Addr}{l:List (Addr×Obj)}(N:News h00 L h' l)(hs:∀p∈vr h L,p∈l):Heap.ExtBut L h h':=fun b o n e=>(N (b,o) (hs _ (rO n e))).1
theorem mO(A:Around)(C:Addr)(xs:List Value)(kw:List (Str×Value)):(A.under (.builtin "type.__call__" ⟨.ref C::xs,kw⟩)).frames=A.frames∧(A.under (.builtin "type.__call__" ⟨.ref C::xs,kw⟩)).handled=A.handled ∧
  (A.under (.builtin "type.__call__" ⟨.ref C::xs,kw⟩)).depth≤A.depth+2∧(A.under (.builtin "type.__call__" ⟨.ref C::xs,kw⟩)).units≤A.units+4:=by
 refine⟨rfl,rfl,?_,?_⟩
 ·refine(?_:A.depth+Code.weight _≤_)
  refine cS ?_ _
  refine(?_:Code.weight (.builtin "type.__call__" ⟨.ref C::xs,kw⟩)≤2)
  unfold Code.weight
  have h1:Code.isGuard (.builtin "type.__call__" ⟨.ref C::xs,kw⟩)=false:=by refine(?_:guardIds.contains "type.__call__" = false);decide +kernel
  refine ab h1 ?_
  exact aD rfl
 ·refine(?_:A.units+Code.cUnits _≤_)
  exact cS (aD rfl) _
theorem GP(W:wd.OK)(ok:X.OK wd)(hh:X.Has wd){r:cA}(R:RX wd X r){id:Str}{p pos:Pos}{es:List Expr}{pes:List PE}{k:Nat}(hk:X.z.kind id=some .globalImplicit)(hg:X.z.gk id=some (.cls k))(hs:cD r es X.z=some pes) :
  JE wd X (.Call (.Name id p) es [] pos) (.new k pes):=by
 intro B m σ s Q E S h
 obtain⟨C,hC,hm⟩:=W.cls id k ((ok.gk _).symm.trans hg)
 refine wpAny_Call_NameR (eW W ok S hk hm (jo W ok hg) ?_)
 cases hck:wd.CI k with
 |none =>
  refine iU (P:=fun zz=>False) (d5 R hs) (fun zz z=>z.elim) ?_
  refine step (Keep.refl _) (hW R hs B m σ s _ E S h) fun xs vs σ1 m1 s1 S1 r1 k1 q1=>?_
  obtain⟨ci,h1,_⟩:=nd q1
  exact nS ((hck.symm.trans (congrFun ok.CI k).symm).trans h1)
 |some ci =>
 have c:=W.inst k C ci hC hck
 refine iU (P:=fun h=>wd.K.In h) (d5 R hs) (fun h hp=>keeps_K c.keep h hp) ?_
 refine step (Keep.refl _) (hW R hs B m σ s _ E S h) fun xs vs σ1 m1 s1 S1 r1 k1 q1=>⟨S1.gd.K,?_⟩
 obtain⟨ci',h1,h2⟩:=nd q1
 obtain rfl:=oInj ((hck.symm.trans (congrFun ok.CI k).symm).trans h1)
 clear S h q1 h1
 obtain⟨fI,hi,hf,rI⟩:=c.init
 obtain⟨⟨kd,D,g⟩,l,hge,hos⟩:=S1
 have gn:=(g.outs _ (.head _)).2
 refine wpAny_call (PySem.W.make_K (HR gn) Ea (g.gd.sub g.base).K c.makes hi hf fun x dx h' F' N' hlt hxd=>?_)
 have hext:Heap.ExtBut X.env.locals s1.heap h':=tB N' fun p hp=>.tail _ (.tail _ hp)
 have old:∀{a:Addr} {o:Obj},s1.heap.get? a=some o→a≠X.env.locals→a<dx:=fun e n=>hlt _ (rO n e)
 have nx:=N' (x,instObj C dx) (.head _)
 have nd':=N' (dx,emptyDict) (.tail _ (.head _))
 have goneA:∀{a:Addr},dx≤a→a≠X.env.locals→s1.heap.get? a=none:=fun{a} hle hne=>by
  cases q:s1.heap.get? a with
  |none=>rfl
  |some o=>exact absurd (old q hne) (LA.mpr hle)
 have ax:=goneA (KN hxd) nx.2.1
 have ad:=goneA (aR _) nd'.2.1
 have gr:=g.rebase
 have hnone:σ1.H x=none:=g.none fun z=>eB (z.symm.trans (g.gone ax))
 have hlow:mainGlobals<x:=by
  obtain⟨o,_,_,e,_⟩:=(g.gd.sub g.base).g
  refine Nat.lt_trans (old e fun z=>?_) hxd
  obtain⟨o',_,_,e',_⟩:=g.gd.g
  exact nS ((g.hid mainGlobals fun w=>gV ((g.outs _ (.head _)).1.symm.trans (z▸w))).symm.trans e')
 have g1:=gr.setNs hext F'.ns ok.ne
 have kp0:Keep s1.heap h':=g.keepBut (p:=X.env.locals) (fun w=>gV ((g.outs _ (.head _)).1.symm.trans w)) hext
 obtain⟨kd2,g2⟩:=g1.newInst (j:=k) (fs:=[]) (Sub.refl _) hlow (g.gone ax) (gr.goneB ax) (g.gone ad) (gr.goneB ad) (Ld hxd)
  (OR.inst hC ((Kh rfl:(if x=x then dx else D x)=dx).symm▸nx.1) ((Kh rfl:(if x=x then dx else D x)=dx).symm▸(nd'.1:h'.get? _=some (dictOf [] 0))) .nil (Kx _) ⟨congrArg Option.isSome hck,fun p hp=>absurd hp Kr⟩) ⟨_,nx.1,xy rfl⟩ ⟨_,nd'.1,df rfl⟩
 obtain⟨u1,u2,u3,u4⟩:=mO X.A C ([]++xs) []
 obtain⟨hdl,h3,h4⟩:=hh.call ok (h2 x hnone)
 refine codeAny_mono (h4 _ X.envs _ (big kd s1.heap) { s1 with heap:=h' } (.ref fI) (.ref x::xs) _ _ (u1.trans ok.frames) (ou ok) (fun z=>u2.trans (h3 z)) (rx ok (am u3 (cS (by decide) _))) (wW ok (am u4 (cS (by decide) _))) g2 hge hos (rI _ (g1.gd.sub g1.base)) (.cons (.obj x) (r1.1.keeps kp0))) fun r s' he=>?_
 have:=sS g l k1 he (Φ:=fun v s'=>v=.none∧PV wd X B s (VR wd) Q (.ref x) s') fun av v H' S' rv k q=>by
  obtain⟨rfl,q⟩:=q
  exact⟨by cases rv;rfl,.obj x,_,_,S',.obj x,k,q⟩
 cases r with
 |ok fl=>cases fl<;>exact this
 |error e=>exact this
end
end
section
section
variable {wd:Wd} {X:Ctx} {B:Heap} {m:Str→Option Value} {σ:St} {s:Shared}
theorem kU{env:Env}{pos:Pos}:∀{es:List Expr},jf es→(backTo pos (starEach es env)).all (fun x=>!x.1)=true
 |[],_=>rfl
 |e::es,h=>by
  refine ab (bw (h e (.head _))) ?_
  exact kU (es:=es) fun e he=>h e (.tail _ he)
theorem pD{M:Model}{A:Around}{E:Value→Shared→Prop}{env:Env}{o:Expr}{name:Str}{apos pos:Pos}{es:List Expr}{Q:Value→Shared→Prop}(hs:eE o=false)(hl:(apos.endLine==pos.line)=true)(hp:jf es)(hn:es.length<10)
  (h:wpAny M A (eval o env) (fun ov s₁=>wpAny M A (getMethod ov name (do return (← importBound o env).getD true)) (fun fx s₂=>wpAny M A (callWith pos fx.1 fx.2 (backTo pos (starEach es env)) []) Q E s₂) E s₁) E s) :
  wpAny M A (eval (.Call (.Attribute o name apos) es [] pos) env) Q E s:=by
 refine(?_:wpAny M A (do
  let ov←attributeBase o name env (eval o env)
  standAt apos.atName
  methodCall o name apos pos env ov (es.length+0) (backTo pos (starEach es env)) (backToKw pos (keywordEach [] env))) Q E s)
 refine ab (gb hs) ?_
 refine Kc (KC h (fun ov s₁ h₁=>Kc (wpAny_standAt ?_)) fun zz zz x=>x)
 unfold methodCall
 have hf:methodCallForm (es.length+0) (backTo pos (starEach es env)) (backToKw pos (keywordEach [] env))=true:=by
  unfold methodCallForm
  refine ab (kU hp) ?_
  refine(?_:(true&&true&&decide (es.length+0+0<30))=true)
  have:es.length+0+0<30:=Nat.lt_trans hn (by decide)
  refine ab (decide_eq_true this) ?_;rfl
 refine ab hf ?_
 refine Kc (wpAny_holding (KC (show wpAny M A (calleeOf true o env ov name) _ _ _ from h₁) (fun fx s₂ h₂=>?_) fun zz zz x=>x))
 obtain⟨f,first⟩:=fx
 have hpos:methodCallPos true o env apos pos=pure pos:=by
  unfold methodCallPos
  refine ab hl ?_;rfl
 refine ab hpos ?_
 exact Kc (Ke h₂)
theorem SS.updList(S:SS wd X B m σ s){a:Addr}{vs ws:List V}{items its:List Value}{n:Nat}{f:Array Value→Array Value}(ha:σ.H a=some (.list vs))(p:s.heap.get? a=some (listOf items.toArray n))(hf:f items.toArray=its.toArray)(hl:its.length≤sizeLine)(r:VRs wd s.heap ws its){t:Nat} :
  SS wd X B m ⟨σ.L,upd σ.H a (.list ws)⟩ { s with heap:=s.heap.update a (Obj.mapSeq f),toks:=t }∧Keep s.heap (s.heap.update a (Obj.mapSeq f)):=by
 obtain⟨⟨kd,D,g⟩,l,c,d⟩:=S
 have hk:=(g.own a _ ha).1
 have hsb:Heap.ExtBut a s.heap (s.heap.update a (Obj.mapSeq f)):=(Heap.SameBut.update _ _ _).extBut
 have kp:=g.keepBut (p:=a) (fun z=>eB (hk.symm.trans z)) hsb
 have hget:(s.heap.update a (Obj.mapSeq f)).get? a=some (listOf its.toArray _):=(Heap.get?_update_self (Obj.mapSeq f) p rfl).trans (congrArg (fun x=>some (listOf x _)) hf)
 exact⟨⟨⟨kd,D,g.setOwn ha hsb ⟨_,hget,gy rfl rfl⟩ (.list hget hl (r.keeps kp)) fun zz zz z=>nomatch z⟩,l.keeps kp,c,d⟩,kp⟩
inductive LastR(wd:Wd)(h:Heap)(xs:List V)(items:List Value)(v:V):Prop|mk (y:Value):items[items.length-1]?=some y→VR wd h v y→VRs wd h xs.dropLast items.dropLast→items.toArray.eraseIdxIfInBounds (items.length-1)=items.dropLast.toArray→LastR wd h xs items v
theorem sd{h:Heap}{xs:List V}{items:List Value}(r:VRs wd h xs items){v:V}(e:xs.getLast?=some v):LastR wd h xs items v:=by
 have hl:=r.length
 rw[List.getLast?_eq_getElem?]at e
 obtain⟨y,hy,ry⟩:=r.get e
 rw[hl]at hy
 refine⟨y,hy,ry,?_,?_⟩
 ·refine ab List.dropLast_eq_take ?_;refine ab List.dropLast_eq_take ?_;refine ab hl ?_
  exact r.take _
 ·apply Array.toList_inj.mp
  refine ab Array.toList_eraseIdxIfInBounds ?_;refine ab List.dropLast_eq_take ?_;rw[List.eraseIdx_eq_take_drop_succ]
  refine(?_:items.take _++items.drop _=items.take _)
  refine ab (List.drop_of_length_le (Nat.le_add_of_sub_le (aR _))) ?_;rw[Lm]
theorem FsR.getNone{h:Heap}{fs:List (Nat×V)}{es:List DictEntry}(r:FsR wd h fs es){a:Nat}:cN fs a=none→getL (wd.nm a) es=some none:=by
 refine r.rec (motive:=fun fs es zz=>cN fs a=none→getL (wd.nm a) es=some none) (fun zz=>rfl) fun{b v' hs t y fs es} r q ih e=>?_
 unfold cN at e
 rw[List.find?_cons]at e
 by_cases z:b=a
 ·rw[beq_iff_eq.mpr z]at e
  exact nS e.symm
 ·rw[Km.mpr z]at e
  have g:=ih e
  unfold getL at g ⊢
  refine ab (List.find?_cons) ?_;refine ab (rX z) ?_
  cases hf:es.find? (·.key.isStr (wd.nm a))with
  |some en=>rw[hf]at g;exact g
  |none=>rw[hf]at g;exact g
inductive LstM(wd:Wd)(mn a:Nat)(cal:Callee):Prop
 |app:wd.nm mn = "append" → cal=.app a→LstM wd mn a cal
 |pop:wd.nm mn = "pop" → cal=.pop a→LstM wd mn a cal
 |ext:wd.nm mn = "extend" → cal=.ext a→LstM wd mn a cal
theorem HA(W:wd.OK)(ok:X.OK wd){mn a:Nat}{vs:List V}{cal:Callee}(h:vb X.c a mn (.list vs)=some cal):LstM wd mn a cal:=by
 have hm:=ok.mth
 cases eu h with
 |t c e=>exact .app ((congrArg wd.nm ((Ki c).trans (congrArg (·.1) hm))).trans W.mthn.1) (oInj e).symm
 |f _ h =>
  cases eu h with
  |t c e=>exact .pop ((congrArg wd.nm ((Ki c).trans (congrArg (·.2.1) hm))).trans W.mthn.2.1) (oInj e).symm
  |f _ h=>exact .ext ((congrArg wd.nm ((Ki (aX h)).trans (congrArg (·.2.2.1) hm))).trans W.mthn.2.2.1) (oInj (aO h)).symm
theorem wc(S:SS wd X B m σ s){a:Addr}{ws:List V}{items its:List Value}{n:Nat}{f:Array Value→Array Value}{ao:List V}{Q:V→St→Prop}{t:Nat}(h4:σ.H a=some (.list ws))(h5:s.heap.get? a=some (listOf items.toArray n))(hf:f items.toArray=its.toArray)(hl:its.length≤sizeLine)(r:VRs wd s.heap ao its){v:V}{y:Value}(rv:∀h',Keep s.heap h'→VR wd h' v y)
  (q:Q v ⟨σ.L,upd σ.H a (.list ao)⟩):PV wd X B s (VR wd) Q y { s with heap:=s.heap.update a (Obj.mapSeq f),toks:=t } :=
 let S3:=S.updList (t:=t) h4 h5 hf hl r;bh S3.1 (rv _ S3.2) S3.2 q
theorem CJ(W:wd.OK)(ok:X.OK wd)(hh:X.Has wd){r:cA}(R:RX wd X r){o:Expr}{name:Str}{apos pos:Pos}{es:List Expr}{po:PE}{mn:Nat}{pes:List PE}(hsup:eE o=false)(hl:(apos.endLine==pos.line)=true)(hn:pes.length<10)(hm:X.z.nid name=some mn)(hs:cD r es X.z=some pes)
  (io:JE wd X o po):JE wd X (.Call (.Attribute o name apos) es [] pos) (.mcall po mn pes):=by
 intro B m σ s Q E S h
 obtain rfl:=ok.nid _ _ hm
 refine pD hsup hl (d5 R hs) (gF hs▸hn) (step (Keep.refl _) (io B m σ s _ E S h) fun x v σ1 m1 s1 S1 r1 k1 q1=>?_)
 obtain⟨cal,hc,q⟩:=nd q1
 obtain⟨a,e1,hc⟩:=aw hc
 obtain⟨ao,ha,hc⟩:=aw hc
 obtain⟨_,rfl⟩:=r1.obj_ e1
 clear S h q1 r1 e1 hsup hl io
 have blt:∀{T:String} {id:String},s1.TypeIs (.ref a) T→PlainAttrs T→Slot T (wd.nm mn) id→typeOf (.builtin id)=pure (.type "method_descriptor")→(∃o,s1.heap.get? a=some o∧o.dict=none) →
   (∀xs vs σ2 m2 s2,SS wd X B m2 σ2 s2→VRs wd s2.heap vs xs→Keep s1.heap s2.heap→jw X.c cal vs σ2 Q E→wpAny (model wd.prog wd.w) X.A (call (.builtin id) (.ref a::xs)) (PV wd X B s2 (VR wd) Q) (PX wd X B s2 E) s2) →
   wpAny (model wd.prog wd.w) X.A (getMethod (.ref a) (wd.nm mn) (do return (← importBound o X.env).getD true)) (fun fx s₂=>wpAny (model wd.prog wd.w) X.A (callWith pos fx.1 fx.2 (backTo pos (starEach es X.env)) []) (PV wd X B s (VR wd) Q) (PX wd X B s E) s₂) (PX wd X B s E) s1:=by
  intro T id hT pa slot hty hd k
  refine getMethod_builtin hT pa slot hty (fun b e=>by injection e with zi;subst zi;exact hd) ?_
  refine iU (P:=fun zz=>True) (d5 R hs) (fun h zz=>gJ h (by intro a z;injection z)) ?_
  exact step k1 (hW R hs B m1 σ1 s1 _ E S1 q) fun xs vs σ2 m2 s2 S2 r2 k2 q2=>⟨trivial,bY (k1.trans k2) (k xs vs σ2 m2 s2 S2 r2.1 k2 q2)⟩
 obtain⟨D,ro⟩:=S1.obj ha
 cases ao with
 |list vs =>
  obtain⟨_,_,p,l,rr⟩:=ro
  have hT:s1.TypeIs (.ref a) "list" := ⟨_,p,rfl⟩
  have hd:∃o,s1.heap.get? a=some o∧o.dict=none:=⟨_,p,rfl⟩
  cases HA W ok hc with
  |app en e =>
   subst e
   refine blt hT F.plainAttrs_list (en▸F.slot_list_append) F.type_list_append hd fun xs vs σ2 m2 s2 S2 r2 k2 q2=>?_
   obtain⟨v,h0,q3⟩:=nd q2
   obtain⟨ws,h1,h2,h3⟩:=nd q3
   obtain rfl:=dG h0
   obtain⟨y,rfl,ry⟩:=r2.one_
   obtain⟨a',items,n',ea,-,h4,h5,h6,h7⟩:=S2.list (.obj _) h1
   obtain rfl:=V.obj.inj ea
   refine call_meets F.slot_list_append ⟨_,h5,rfl⟩ F.entry_list_append (F.args_list_append_2 _ _) (list_append a items.toArray n' _ h6) ⟨h5,?_⟩
   exact wc S2 (its:=items++[y]) h4 h5 (List.push_toArray ..) (by refine ab Kl ?_;refine bT h7.length ?_;exact h2) (h7.append (.cons ry .nil)) (fun zz zz=>.none) h3
  |pop en e =>
   subst e
   refine blt hT F.plainAttrs_list (en▸F.slot_list_pop) F.type_list_pop hd fun xs vs σ2 m2 s2 S2 r2 k2 q2=>?_
   obtain⟨rfl,q3⟩:=q2
   obtain⟨ws,h1,h2⟩:=nd q3
   obtain⟨v,h8,h3⟩:=nd h2
   obtain rfl:=KP.mp r2.length.symm
   obtain⟨a',items,n',ea,-,h4,h5,h6,h7⟩:=S2.list (.obj _) h1
   obtain rfl:=V.obj.inj ea
   obtain⟨y,g1,g2,g3,g4⟩:=sd h7 h8
   refine call_meets F.slot_list_pop ⟨_,h5,rfl⟩ F.entry_list_pop (F.args_list_pop_1 _) (MeetsSeq.list_pop_last a items.toArray n' y (List.getElem?_toArray.trans g1) h6) ⟨h5,?_⟩
   exact wc S2 (ao:=ws.dropLast) (its:=items.dropLast) h4 h5 g4 (am (List.length_dropLast▸K9 ..) h6) g3 (fun zz k=>g2.keeps k) h3
  |ext en e =>
   subst e
   refine blt hT F.plainAttrs_list (en▸F.slot_list_extend) F.type_list_extend hd fun xs vs σ2 m2 s2 S2 r2 k2 q2=>?_
   obtain⟨w,h0,q3⟩:=nd q2
   obtain⟨ws,h1,q4⟩:=nd q3
   obtain⟨us,h8,h9,h10,h3⟩:=nd q4
   obtain rfl:=dG h0
   obtain⟨y,rfl,ry⟩:=r2.one_
   obtain⟨a',items,n',ea,-,h4,h5,h6,h7⟩:=S2.list (.obj _) h1
   obtain rfl:=V.obj.inj ea
   obtain⟨b,items2,n2,rfl,rfl,g4,g5,g6,g7⟩:=S2.list ry h8
   have hsum:items.length+items2.length≤sizeLine:=h7.length▸g7.length▸h9
   have hne:=h10 b rfl
   refine call_meets F.slot_list_extend ⟨_,h5,rfl⟩ F.entry_list_extend (F.args_list_extend_2 _ _) (AutoSeq1.list_extend_list_list_0 a items.toArray n' b items2.toArray n2 ?_ h6 (KO hsum)) ⟨h5,g5,?_⟩
   ·have:Builtin.List.listTooLong (items.toArray.size+items2.toArray.size)=false:=decide_eq_false (LA.mpr hsum)
    refine ab this ?_;simp
   exact wc S2 (ao:=ws++us) (its:=items++items2) (f:=fun a=>a++items2.toArray) h4 h5 (List.append_toArray ..) (Kl▸hsum) (h7.append g7) (fun zz zz=>.none) h3
 |inst kk fs =>
  obtain⟨C,es1,n1,p,q',r,f,l,z⟩:=id ro
  obtain⟨ci,hci⟩:=Ks.mp z.1
  have c:=W.inst kk C ci p hci
  have I:PySem.W.InstAt s1.heap a (instObj C (D a)) C (some (dictOf es1 n1)):=⟨q',rfl,rfl,r⟩
  have pg:=plainGet_of (name:=Str.empty) c.get
  unfold vb at hc
  dsimp only at hc
  cases hf:cN fs mn with
  |some v =>
   rw[hf]at hc
   obtain⟨⟨g,Cl⟩,e2,rfl⟩:=bX hc
   obtain rfl:=xW e2
   obtain⟨p1,hp1,e3⟩:=pP hf
   refine method_usual S1.gd.K I pg.1 pg.2 (c.attr mn (e3▸z.2 p1 hp1)) rfl ?_
   refine tN W S1 ha hf fun y ry=>?_
   exact bY k1 (nq (s:={ s1 with toks:=s1.toks+1 }) ok hh R hs S1.toks ry rfl .nil q)
  |none =>
   rw[hf]at hc
   obtain⟨ci',h1,h2⟩:=aw hc
   obtain rfl:=oInj ((hci.symm.trans (congrFun ok.CI kk).symm).trans h1)
   obtain⟨f',h3,rfl⟩:=bX h2
   obtain⟨hna,fa,g1,g2,g3⟩:=c.meth mn f' h3
   refine method_fn S1.gd.K I pg.1 pg.2 g1 g2 ?_ ?_
   ·refine(?_:(lookIn _ _).map _=_)
    rewrite[lookIn_dict];refine ab (f.getNone hf) ?_;rfl
   exact bY k1 (nq ok hh R hs S1 (g3 _ S1.gd) rfl (.cons (.obj a) .nil) q)
 |dictI es0 =>
  obtain⟨kvs0,p,l,r⟩:=ro
  have en:wd.nm mn = "get" := (congrArg wd.nm ((Ki (aX hc)).trans (congrArg (·.2.2.2) ok.mth))).trans W.mthn.2.2.2
  obtain rfl:=oInj (aO hc)
  have hd:∃o,s1.heap.get? a=some o∧o.dict=none:=by
   obtain⟨o,es,ep,h1,h2,_⟩:=p
   exact⟨o,h1,h2.2.1⟩
  refine blt p.typeIs F.plainAttrs_dict (en▸F.slot_dict_get) F.type_dict_get hd fun xs vs σ2 m2 s2 S2 r2 k2 q2=>?_
  obtain⟨⟨v1,v2⟩,h0,q3⟩:=nd q2
  obtain⟨k,hk,q4⟩:=nd q3
  obtain⟨es2,h1,q5⟩:=nd q4
  obtain⟨ao,ha2,h2⟩:=aw h1
  obtain rfl:=Aj h2
  obtain rfl:=jb h0
  obtain⟨y1,y2,rfl,ra,rc⟩:=r2.two_
  obtain⟨u,_,rfl⟩:=ra.int_ hk
  obtain⟨D2,kvs2,p2,l2,r3⟩:=S2.obj ha2
  have hlow:a≠sysModules:=by
   obtain⟨⟨kd,D,g⟩,_⟩:=S2
   have:=g.low a (g.own a _ ha2).1
   intro z
   rw[z]at this
   exact absurd this (by decide)
  refine call_meetsIn F.slot_dict_get p2.typeIs F.entry_dict_get (F.args_dict_get_3 _ _ _) (meets_dict_get_default (knd:=intKind wd.prog wd.w) (d:=a) (intKind_is _ _ _ _) (by simpa using hlow) _) ⟨_,p2.mapOf,?_⟩
  have pl:=mY (k:=k) r3
  cases hl:eC es2 k with
  |none =>
   rw[hl]at q5 pl
   refine ab (show valueAt kvs2 k=none from pl) ?_
   exact bh S2.toks rc (Keep.refl _) q5
  |some u =>
   rw[hl]at q5 pl
   obtain⟨z,hz,rz⟩:=pl
   refine ab hz ?_
   exact bh S2.toks rz (Keep.refl _) q5
 |_=>exact nS hc
end
end
section
section
variable {wd:Wd} {X:Ctx} {B:Heap} {m:Str→Option Value} {σ:St} {s:Shared}
theorem SS.newDict(S:SS wd X B m σ s){h':Heap}{n:Nat}{a:Addr}{ao:AO}(k:Sub s.heap h')(ha:s.heap.objs.size≤a)(r:∀D,OR wd h' D a ao)(hi:∀k fs,ao≠.inst k fs)(hn:∃o es ep,h'.get? a=some o∧o.data=.dict es ep) :
  σ.H a=none∧SS wd X B m ⟨σ.L,upd σ.H a ao⟩ { s with heap:=h',toks:=n } :=
 S.newOwn k ha r hi (by obtain⟨o,_,_,e,d⟩:=hn;exact⟨o,e,df d⟩)
theorem CL{pos:Pos}:JE wd X (.Dict [] [] pos) (.dict [] []):=by
 intro B m σ s Q E S h
 refine wpAny_Dict_empty ?_
 have hd:(s.heap.push { cls:=.type "dict",data:=.dict #[] }).DictOf (intKind wd.prog wd.w) s.heap.objs.size []:=Heap.DictOf.new _
 exact rj (Sub.push _ _).keep (S.newDict (n:=s.toks) (Sub.push _ _) (aR _) (fun D=>.dictI hd (Kx _) ⟨rfl,.nil⟩) nofun ⟨_,_,_,Ky _ rfl,rfl⟩) h
inductive KVs(wd:Wd)(ks:List Nat)(h:Heap)(vs:List V)(kvs:List (Value×Value)):Prop|mk (kx:List (Str×Value)):Carries (strKind wd.prog wd.w) kvs kx→kx.map (·.1)=ks.map wd.nm→VRs wd h vs (kx.map (·.2))→KVs wd ks h vs kvs
inductive PairsJ(wd:Wd)(X:Ctx)(pos:Pos)(keys:List (Option Expr))(es:List Expr)(ks:List Nat)(pes:List PE):Prop
 |mk (pairs:List (Sem Value×Sem Value)):(evalEachOpt keys X.env).zip ((evalEach es X.env).map fun v=>do let x←v;standAt pos;pure x)=pairs.map (fun p=>(some p.1,p.2))→pairs.length=ks.length→J wd X (KVs wd ks) (evalPairs pairs) (wEs pes X.c)→PairsJ wd X pos keys es ks pes
theorem CH(ok:X.OK wd){r:cA}(R:RX wd X r):∀{keys:List (Option Expr)} {es:List Expr} {ks:List Nat} {pes:List PE},bZ (zK X.z) keys=some ks→cD r es X.z=some pes→ks.length=pes.length→PairsJ wd X pos keys es ks pes:=by
 intro keys
 induction keys with
 |nil =>
  intro es ks pes hk he hl
  cases es with
  |nil =>
   obtain rfl:=cu hk
   obtain rfl:=cu he
   exact⟨[],rfl,rfl,fun B m σ s Q E S h=>evalPairs_nil (cY S ⟨[],trivial,rfl,.nil⟩ h)⟩
  |cons _ _ =>
   obtain rfl:=cu hk
   obtain⟨_,_,_,_,rfl⟩:=bF he
   exact nomatch hl
 |cons key keys ih =>
  intro es ks pes hk he hl
  cases es with
  |nil =>
   obtain rfl:=cu he
   obtain⟨_,_,_,_,rfl⟩:=bF hk
   exact nomatch hl
  |cons e es =>
   obtain⟨k,t,hk1,hk2,rfl⟩:=bF hk
   obtain⟨p,l,h1,h2,rfl⟩:=bF he
   obtain⟨pairs,e1,e2,jp⟩:=ih hk2 h2 (Nat.succ.inj hl)
   obtain⟨ke,rfl,hk3⟩:=aw hk1
   obtain⟨st,hk4,hk5⟩:=aw hk3
   obtain⟨kk,kp,rfl⟩:=qN hk4
   refine⟨(eval (.Constant (.str st) kk kp) X.env,do let x←eval e X.env;standAt pos;pure x)::pairs,congrArg (_::·) e1,congrArg Nat.succ e2,fun B m σ s Q E S h=>?_⟩
   refine evalPairs_cons (wpAny_Constant_str (Kc (step (Keep.refl _) ((R _ _ h1).je B m σ _ _ E S.toks h) fun v b σ1 m1 s1 S1 r1 k1 q1=>Kc (wpAny_standAt (Ke ?_)))))
   refine step k1 (jp B m1 σ1 s1 _ E S1 q1) fun kvs ws σ2 m2 s2 S2 r2 k2 q2=>?_
   obtain⟨kx,c1,c2,c3⟩:=r2
   exact bh S2 ⟨(st,v)::kx,⟨strKind_is _ _ _ _,rfl,c1⟩,ok.nid _ _ hk5▸congrArg (_::·) c2,.cons (r1.keeps k2) c3⟩ (k1.trans k2) q2
inductive ByR(wd:Wd)(X:Ctx)(B:Heap)(m:Str→Option Value)(σ:St)(s0 s:Shared)(o:Obj):Prop
 |mk (B':Heap):SS wd X B' m σ s→(∀m' σ' s',SS wd X B' m' σ' s'→SS wd X B m' σ' s'∧Keep s0.heap s'.heap)→(∀m' σ' k e s',XS wd X B' m' σ' k e s'→XS wd X B m' σ' k e s'∧Keep s0.heap s'.heap)→B'.get? s0.heap.objs.size=some o→Sub B B'→Gd wd B→ByR wd X B m σ s0 s o
theorem SS.byEnd(S:SS wd X B m σ s){o:Obj}(ho:(s.heap.push o).get? s.heap.objs.size=some o):ByR wd X B m σ s { s with heap:=s.heap.push o } o:=by
 obtain⟨⟨kd,D,g⟩,l,a,b⟩:=S
 have gg:=g.grow (Sub.push _ o)
 have hf:=g.fresh (aR _)
 refine⟨big kd (s.heap.push o),⟨⟨kd,D,gg.rebase⟩,l.keeps (Sub.push _ _).keep,a,b⟩,fun m' σ' s' S'=>?_,fun m' σ' k e s' S'=>?_,?_,gg.big,g.gd⟩
 ·obtain⟨⟨kd',D',g'⟩,l',a',b'⟩:=S'
  exact⟨⟨⟨kd',D',g'.weaken gg.big g.gd⟩,l',a',b'⟩,(Sub.push _ _).keep.trans (gg.keepBig g')⟩
 ·obtain⟨⟨kd',D',g',ex⟩,l',a',b'⟩:=S'
  exact⟨⟨⟨kd',D',g'.weaken gg.big g.gd,ex⟩,l',a',b'⟩,(Sub.push _ _).keep.trans (gg.keepBig g')⟩
 ·exact(dM _ _ fun z=>z hf).trans ho
theorem EZ(ok:X.OK wd){r:cA}(R:RX wd X r){keys:List (Option Expr)}{es:List Expr}{ks:List Nat}{pes:List PE}{pos:Pos}(hk:bZ (zK X.z) keys=some ks)(he:cD r es X.z=some pes)(hl:ks.length=pes.length)(h15:ks.length≤15) :
  JE wd X (.Dict keys es pos) (.dict ks pes):=by
 cases keys with
 |nil =>
  obtain rfl:=cu hk
  obtain rfl:=KP.mp hl.symm
  obtain rfl:=KP.mp (gF he).symm
  exact CL
 |cons key keys =>
  obtain⟨pairs,e1,e2,jp⟩:=CH (pos:=pos) ok R hk he hl
  obtain⟨k,t,hk1,hk2,rfl⟩:=bF hk
  intro B m σ s Q E S h
  have hne:pairs≠[]:=fun z=>nomatch (congrArg List.length z).symm.trans e2
  refine wpAny_Dict_pairs (knd:=strKind wd.prog wd.w) e1 hne (e2▸h15) ?_
  have hhigh:mainGlobals<s.heap.objs.size:=let ⟨_,_,g⟩:=S.gl;g.high (aR _)
  have hB:B.get? s.heap.objs.size=none:=let ⟨_,_,g⟩:=S.gl;g.Bnone (aR _)
  obtain⟨B',S',back,backX,hB',hBB,hgd⟩:=S.byEnd (o:={ cls:=.type "dict",data:=.dict #[] }) (Ky _ rfl)
  generalize s.heap.push { cls:=.type "dict",data:=.dict #[] }=h0 at S' ⊢
  generalize s.heap.objs.size=I at hhigh hB hB' ⊢
  clear e1 e2 hk hk1 hk2 he
  refine KC (jp B' m σ _ _ E S' h) (fun kvs s1 q=>?_) fun e s1 q=>by
   obtain⟨k,σ1,m1,x1,k1,q1⟩:=q
   exact⟨k,σ1,m1,(backX _ _ _ _ _ x1).1,(backX _ _ _ _ _ x1).2,q1⟩
  obtain⟨ws,σ1,m1,S1,⟨kx,c1,c2,c3⟩,k1,q2,q3,q4,q5⟩:=q
  have kp:=(back _ _ _ S1).2
  obtain⟨⟨kd1,D1,g1⟩,l1,a1,b1⟩:=S1
  have ho:=g1.base _ _ hB'
  refine⟨kx,c1,⟨_,#[],0,ho,⟨rfl,rfl,rfl⟩,rfl,fun zz he=>absurd he (by simp),Pairs.nil,List.nodup_nil⟩,fun h' hd' hs'=>?_⟩
  rw[merged_nil_of_nodup _ (c2▸List.Pairwise.map _ (fun a b n q=>n (wd.inj _ _ q)) q3)]at hd'
  have hf1:kd1 I=.free:=Classical.byContradiction fun q=>nS ((g1.hid _ q).symm.trans hB')
  have knew:Keep s1.heap h':=iz hs'.extBut fun o e=>by
   obtain rfl:=oInj (ho.symm.trans e)
   exact df rfl
  have g2:=(g1.weaken hBB hgd).freeUpd hf1 hB hs'.extBut knew
  have hH:σ1.H I=none:=g2.none fun z=>eB (z.symm.trans hf1)
  have g5:=g2.newOwn (Sub.refl _) (ao:=.dictS ((k::t).zip ws)) hhigh hf1 hB (.dictS hd' ?_ ⟨?_,?_⟩) nofun (by
   obtain⟨o,es,ep,h1,h2,h3,_⟩:=hd'
   exact⟨o,h1,df h3⟩)
  ·exact⟨.obj I,⟨σ1.L,_⟩,m1,⟨⟨_,_,g5⟩,l1.keeps knew,a1,b1⟩,.obj _,kp.trans knew,q5 _ hH⟩
  ·rewrite[Kf];refine ab List.length_zip ?_
   exact am (Nat.min_le_left _ _) (am h15 (by decide))
  ·refine ab c2 ?_;refine ab Lk ?_
   refine(?_:List.map (wd.nm ∘ Prod.fst) _=_)
   refine bT Lk ?_;refine ab (List.map_fst_zip (bU q2)) ?_;rfl
  ·refine ab Lk ?_
   refine(?_:VRs wd h' (List.map Prod.snd _) _)
   refine ab (List.map_snd_zip (bU q2.symm)) ?_
   exact c3.keeps knew
end
end
section
section
variable {wd:Wd} {X:Ctx} {B:Heap} {m:Str→Option Value} {σ:St} {s:Shared}
theorem qf{pos:Pos}{a b:Int}{c:Value}(l:List Value)(h:TriplesOk l):codeAmong pos (l++[rawInt a,rawInt b,c])=match codeAmong pos l with
  |some v=>some v
  |none=>if (a==pos.line&&b==pos.col)=true then some c else none:=by
 fun_induction TriplesOk l with
 |case1=>show(if _ then _ else _)=_;rfl
 |case2 x t y u z r ih =>
  show(if _ then _ else codeAmong pos (r++_))=match (if _ then _ else codeAmong pos r)with|some v=>some v|none=>_
  split
  ·rfl
  ·exact ih h
 |case3=>exact h.elim
theorem wu(ps:Array Value)(a b c:Value):(ps++#[a,b,c]).toList=ps.toList++[a,b,c]:=Array.toList_append
theorem yn(W:wd.OK){A:Around}{env:Env}{c P:Addr}{pos:Pos}{fl:Nat}{name qual:Str}{p:Arguments}{scope:Scope}{body:FuncBody}{Q:Value→Shared→Prop}{E:Value→Shared→Prop}{M:Model}
  (T:TabOk wd s.heap P) (C:CodeHd s.heap c P) (he:env.code=.ref c) (hq:wd.pq pos=qual)
  (h:∀cv h' tk,Heap.ExtBut P s.heap h'→TabOk wd h' P→CodeIs h' qual cv→Q cv { s with heap:=h',toks:=tk }):wpAny M A (functionCode env pos fl name qual p scope body) Q E s:=by
 subst hq
 obtain⟨ps,e1,e2,e3⟩:=T
 cases hc:codeAmong pos ps.toList with
 |some cv=>exact wpAny_functionCode_hit he (C.code e1 e2) hc (h cv s.heap s.toks (fun b o n e=>e) ⟨ps,e1,e2,e3⟩ (e3 pos cv hc))
 |none =>
  refine wpAny_functionCodeX he (C.code e1 e2) (C.tab e1) hc fun c' h' tk hx hge hlt zz hrec htb hnew=>?_
  have hcode:CodeIs h' (wd.pq pos) (.ref c'):=by
   obtain⟨P',_,_,⟨⟨oc,vc,k1,k2,k3,_⟩,_⟩⟩:=hnew
   obtain⟨c2,o2,vs2,t2,z1,z2,z3,z4⟩:=hrec
   obtain rfl:=Value.ref.inj z1
   obtain rfl:=oInj (k1.symm.trans z2)
   exact⟨c',oc,vs2,t2,rfl,k1,k2,z3,z4⟩
  clear hnew hrec hge hlt
  have hps:=wu ps (rawInt pos.line) (rawInt pos.col) (.ref c')
  refine h _ _ _ hx ⟨_,htb.2,hps.symm▸TriplesOk_snoc _ _ _ _ e2,fun pos' cv hcv=>?_⟩ hcode
  rw[hps,qf _ e2]at hcv
  cases hold:codeAmong pos' ps.toList with
  |some cv' =>
   rw[hold]at hcv
   obtain rfl:=oInj hcv
   obtain⟨c3,o,vs,t,g1,g2,g3,g4,g5⟩:=e3 pos' cv' hold
   refine⟨c3,o,vs,t,g1,hx _ _ (fun z=>?_) g2,g3,g4,g5⟩
   obtain rfl:=oInj (e1.symm.trans (z▸g2))
   exact nomatch g3
  |none =>
   rw[hold]at hcv
   dsimp only at hcv
   by_cases hl:((pos.line:Int)==(pos'.line:Int)&&(pos.col:Int)==(pos'.col:Int))=true
   ·rw[Kh hl]at hcv
    obtain rfl:=oInj hcv
    exact W.pql pos pos' (Int.ofNat.inj (Ki (ak hl))) (Int.ofNat.inj (Ki (aK hl)))▸hcode
   ·rw[Kg hl]at hcv
    exact nS hcv
theorem SS.tab(S:SS wd X B m σ s){c P:Addr}(hq:(c,P)∈wd.tabs){h':Heap}(hs:Heap.ExtBut P s.heap h')(t:TabOk wd h' P){n:Nat}:SS wd X B m σ { s with heap:=h',toks:=n }∧Keep s.heap h':=by
 obtain⟨⟨kd,D,g⟩,l,a,b⟩:=S
 have hk:=(g.tabs _ hq).1
 have hf:kd P≠.free:=fun z=>uP (hk.symm.trans z)
 have kp:=g.keepBut hf hs
 refine⟨⟨⟨kd,D,g.at hf hs ?_ (fun a o e=>.inl ⟨e,dA (g.own a o e).1 hk nofun,fun z=>nomatch hk.symm.trans z⟩) (fun q hq'=>.inl ⟨hq',dA (g.outs q hq').1 hk nofun⟩) (fun zz=>t)⟩,l.keeps kp,a,b⟩,kp⟩
 obtain⟨ps,e,_⟩:=t
 exact⟨_,e,cF nofun rfl⟩
theorem qg{scope:Scope}{env:Env}{f:Str→Addr}(h:∀x∈scope.names,x.2=.free→env.cells.lookup x.1=some (f x.1)) :
  ∃clos,closureFor scope env=pure clos∧(∀n,(n,NameKind.free)∈scope.names→clos.lookup n=some (f n))∧((∀x∈scope.names,x.2≠.free)→clos=[]):=by
 have key:∀(l:List (Str×NameKind)) (acc:List (Str×Addr)),(∀x∈l,x.2=.free→env.cells.lookup x.1=some (f x.1)) →
   ∃clos,(forIn l acc fun(x:Str×NameKind) (r:List (Str×Addr))=>(do
    let cs:=r
    if x.2==.free then do
     let c←cellOf env x.1
     let cs:=(x.1,c)::cs
     pure (ForInStep.yield cs)
    else pure (ForInStep.yield cs):Sem (ForInStep (List (Str×Addr)))))=pure clos∧(∀n,((n,NameKind.free)∈l∨acc.lookup n=some (f n))→clos.lookup n=some (f n))∧((∀x∈l,x.2≠.free)→clos=acc):=by
  intro l
  induction l with
  |nil =>
   intro acc _
   refine⟨acc,rfl,?_,fun zz=>rfl⟩
   rintro n (hn|hn)
   ·cases hn
   ·exact hn
  |cons x r ih =>
   intro acc hx
   obtain⟨n,k⟩:=x
   by_cases hk:k=.free
   ·subst hk
    have e1:=hx (n,.free) (.head _) rfl
    obtain⟨clos,g1,g2,g3⟩:=ih ((n,f n)::acc) fun x hm=>hx x (.tail _ hm)
    refine⟨clos,?_,?_,fun z=>absurd rfl (z _ (.head _))⟩
    ·rw[List.forIn_cons]
     simp only[cellOf,e1,Kq,if_true,pure_bind]
     exact g1
    ·rintro n' (hn|hn)
     ·rcases mCo hn with hn|hn
      ·injection hn with zi;subst zi
       exact g2 _ (.inr (by simp))
      ·exact g2 _ (.inl hn)
     ·by_cases hnn:n'=n
      ·subst hnn
       exact g2 _ (.inr (by simp))
      ·refine g2 _ (.inr ?_)
       have:(n'==n)=false:=Km.mpr hnn
       refine ab Kp ?_;refine ab this ?_
       exact hn
   ·have hb:(k==NameKind.free)=false:=Km.mpr hk
    obtain⟨clos,g1,g2,g3⟩:=ih acc fun x hm=>hx x (.tail _ hm)
    refine⟨clos,?_,?_,fun z=>g3 fun x hm=>z x (.tail _ hm)⟩
    ·rw[List.forIn_cons]
     simp only[hb,Bool.false_eq_true,if_false,pure_bind]
     exact g1
    ·rintro n' (hn|hn)
     ·rcases mCo hn with hn|hn
      ·injection hn with zi zj;subst zi zj;exact absurd rfl hk
      ·exact g2 _ (.inl hn)
     ·exact g2 _ (.inr hn)
 obtain⟨clos,g1,g2,g3⟩:=key scope.names [] h
 refine⟨clos,?_,fun n hn=>g2 n (.inl hn),g3⟩
 exact(congrArg (fun t:Sem (List (Str×Addr))=>t >>= fun r=>pure r) g1).trans (pure_bind _ _)
inductive FreeR(c:Cx)(Cl:List (Nat×Nat))(x:Nat):Prop|mk (a:Nat):Cl.lookup x=some a→c.cellOf x=some a→FreeR c Cl x
theorem xG{c:Cx}{x:Nat}:∀{fr:List Nat} {Cl:List (Nat×Nat)},c.free fr=some Cl→x∈fr→FreeR c Cl x:=by
 intro fr
 induction fr with
 |nil =>
  intro _ _ hx
  exact absurd hx Kr
 |cons y fr ih =>
  intro Cl h hx
  obtain⟨a,r,h1,h2,rfl⟩:=dt h
  by_cases z:x=y
  ·subst z
   exact⟨a,by refine ab Kp ?_;rw[Kq],h1⟩
  ·obtain⟨b,g1,g2⟩:=ih h2 ((mCo hx).resolve_left z)
   exact⟨b,by refine ab Kp ?_;refine ab (Km.mpr z) ?_;exact g1,g2⟩
theorem kq{z:SC}{sc:Scope}(h:z.sees sc=true){x:Str×NameKind}(hx:x∈sc.names)(hf:x.2=.free):iK (z.kind x.1):=by
 have:=lAt h x hx
 rw[hf]at this
 exact xv this
theorem Dk(ok:X.OK wd){x:Str}(h:iK (X.z.kind x)):∃i a,wd.nm i=x∧X.c.C.lookup i=some a∧X.env.cells.lookup x=some a:=by
 obtain⟨i,a,e1,e2⟩:=ok.hasC x h
 exact⟨i,a,e1,e2,e1▸ok.cells i a e2 (e1▸h)⟩
theorem nI(ok:X.OK wd){sc:Scope}(h:X.z.sees sc=true):∃clos,closureFor sc X.env=pure clos∧(∀i a,(wd.nm i,NameKind.free)∈sc.names→X.c.C.lookup i=some a→clos.lookup (wd.nm i)=some a)∧((∀x∈sc.names,x.2≠.free)→clos=[]):=by
 obtain⟨clos,g1,g2,g3⟩:=qg (scope:=sc) (env:=X.env) (f:=fun n=>(X.env.cells.lookup n).getD 0) (fun x hx hf=>by
  obtain⟨i,a,_,_,e⟩:=Dk ok (kq h hx hf)
  refine ab e ?_;rfl)
 refine⟨clos,g1,fun i a hm ha=>?_,g3⟩
 refine ab (g2 _ hm) ?_
 have:=ok.cells i a ha (kq h hm rfl)
 refine ab this ?_;rfl
noncomputable def Ff(nd:Node)(q:Str)(gl:Addr)(clos:List (Str×Addr))(ctv cv:Value)(bl:Addr)(pm doc:Value):FuncData :=
 {name:=nd.name,qualname:=q,params:=nd.args,body:=nd.body,scope:=nd.scope,globals:=gl,closure:=clos,closureTuple:=ctv,code:=cv,builtins:=bl,defaults:=.none,kwdefaults:=.none,annotations:=none,pyModule:=pm,doc:=doc }
noncomputable def Ah(b:FuncBody)(k:Value→Sem Value):Sem Value:=match b with
 |.stmts b=>(match docOf b with|some s=>mkText s|none=>pure .none) >>= k
 |.expr _=>pure .none >>= k
theorem BC{M:Model}{A:Around}{b:FuncBody}{k:Value→Sem Value}{Q E:Value→Shared→Prop}(h:∀doc n,wpAny M A (k doc) Q E { s with toks:=n }):wpAny M A (Ah b k) Q E s:=by
 unfold Ah
 cases b with
 |expr e=>exact Kc (Ke (h _ s.toks))
 |stmts b =>
  refine Kc ?_
  cases docOf b with
  |none=>exact Ke (h _ s.toks)
  |some t=>exact wpAny_mkText (h _ _)
theorem Fc{f:Nat}{fr:List Nat}{nd:Node}{Cl:List (Nat×Nat)}{h:Heap}(lam:LamFi wd X.env.qual X.env.code f fr nd)(lam2:LamOK wd X.env f fr nd)(hCl:X.c.free fr=some Cl){clos:List (Str×Addr)}(c2:∀i a,(wd.nm i,NameKind.free)∈nd.scope.names→X.c.C.lookup i=some a→clos.lookup (wd.nm i)=some a)
  (c3:(∀x∈nd.scope.names,x.2≠.free)→clos=[]) {ctv cv pm doc:Value} (hcv:CodeIs h (X.env.qual++nd.name) cv):VR wd (h.push { cls:=.type "function",data:=.func (Ff nd (X.env.qual++nd.name) mainGlobals clos ctv cv builtinsNs pm doc) }) (.clo f Cl) (.ref h.objs.size):=by
 obtain⟨fi,c,P,hfi,hargs,hbody,hscope,hqual,hcode,htab,hpq,hd,htn,hfr,hce⟩:=lam
 subst hfr
 refine .clo (fi:=fi) (dv:=[]) (Ky _ rfl) rfl { hfi:=hfi,params:=hargs.symm,body:=hbody.symm,scope:=hscope.symm,globals:=rfl,builtins:=rfl,qual:=hqual.symm,closure:=fun x hx=>?_,noclos:=fun hne=>?_,dflts:=.inl ⟨hd,rfl,rfl⟩,kwd:=rfl,code:=Eq.mpr (congrArg (fun q=>CodeIs _ q cv) hqual) (hcv.keeps (Sub.push _ _).keep),tab:=fun P' e=>nS (htn.symm.trans e) } (hd▸.nil)
 ·obtain⟨a,a1,a2⟩:=xG hCl hx
  exact⟨a,a1,c2 x a (lam2.out x hx) a2⟩
 ·refine c3 fun x hx hf=>?_
  obtain⟨i,hi,_⟩:=lam2.back x hx hf
  rw[hce hne]at hi
  exact absurd hi Kr
noncomputable def my(env:Env)(nd:Node)(fl:Nat)(q:Str)(clos:List (Str×Addr))(ctv:Value):Sem Value :=
 functionCode env nd.pos fl nd.name q nd.args nd.scope nd.body >>= fun cv=>builtinsFor env.globals env.builtins >>= fun bl=>nsGet env.globals "__name__" >>= fun pm=>Ah nd.body fun doc=>newObj (.type "function") (.func (Ff nd q env.globals clos ctv cv bl (pm.getD .none) doc))
theorem tL(W:wd.OK)(ok:X.OK wd){f:Nat}{fr:List Nat}{nd:Node}{Cl:List (Nat×Nat)}{fl:Nat}(lam:LamOK wd X.env f fr nd)(hCl:X.c.free fr=some Cl){clos:List (Str×Addr)}(c2:∀i a,(wd.nm i,NameKind.free)∈nd.scope.names→X.c.C.lookup i=some a→clos.lookup (wd.nm i)=some a)
  (c3:(∀x∈nd.scope.names,x.2≠.free)→clos=[]) {ctv:Value} {Q:Value→Shared→Prop} {E:Value→Shared→Prop} {s1:Shared} (S1:SS wd X B m σ s1) (k1:Keep s.heap s1.heap)
  (h:∀a s',SS wd X B m σ s'→VR wd s'.heap (.clo f Cl) (.ref a)→Keep s.heap s'.heap→Q (.ref a) s'):wpAny (model wd.prog wd.w) X.A (my X.env nd fl (X.env.qual++nd.name) clos ctv) Q E s1:=by
 obtain⟨fi,c,P,hfi,hargs,hbody,hscope,hqual,hcode,htab,hpq,_⟩:=id lam.fi
 obtain⟨_,_,g⟩:=S1.gl
 refine Kc (yn W (g.tabs _ htab).2 ((g.gd.codes _ htab).keeps g.base) hcode (hpq.trans hqual) fun cv h' tk hx ht hcv=>?_)
 obtain⟨S2,k2⟩:=S1.tab htab hx ht (n:=tk)
 clear hx ht htab g
 have gd:=S2.gd
 obtain⟨bm,o,b1,b2,b3,b4,b5,b6⟩:=gd.bmain
 refine ab ok.globals ?_
 refine Kc (wpAny_builtinsFor gd.g b1 b2 b3 b4 b5 b6 (Kc (wpAny_nsGet gd.g (BC fun doc n=>wpAny_newObj_type ?_ (by size_fits)))))
 exact h _ _ (S2.push (n:=n) _) (Fc lam.fi lam hCl c2 c3 hcv) ((k1.trans k2).trans (Sub.push _ _).keep)
theorem tM(W:wd.OK)(ok:X.OK wd)(S:SS wd X B m σ s){f:Nat}{fr:List Nat}{nd:Node}{Cl:List (Nat×Nat)}{fl:Nat}(lam:LamOK wd X.env f fr nd)(hsee:X.z.sees nd.scope=true)(hCl:X.c.free fr=some Cl){Q:Value→Shared→Prop}{E:Value→Shared→Prop}
  (h:∀a s',SS wd X B m σ s'→VR wd s'.heap (.clo f Cl) (.ref a)→Keep s.heap s'.heap→Q (.ref a) s') :
  wpAny (model wd.prog wd.w) X.A (makeFunction nd.name (X.env.qual++nd.name) nd.args nd.body nd.scope X.env [] [] [] nd.pos fl) Q E s:=by
 obtain⟨clos,c1,c2,c3⟩:=nI ok hsee
 rewrite[makeFunction_eq];refine ab lam.plain.2.1 ?_
 refine Kc (wpAny_of_eq (a:=Value.none) rfl (Kc (wpAny_of_eq (a:=Value.none) rfl (Kc (wpAny_of_eq (a:=none) rfl ?_)))))
 unfold makeTail
 refine ab c1 ?_
 refine Kc (Ke ?_)
 cases clos with
 |nil =>
  refine(?_:wpAny _ _ (pure Value.none >>= my X.env nd fl (X.env.qual++nd.name) []) Q E s)
  exact Kc (Ke (tL W ok lam hCl c2 c3 S (Keep.refl _) h))
 |cons q r =>
  refine(?_:wpAny _ _ (newTextTuple _ >>= my X.env nd fl (X.env.qual++nd.name) (q::r)) Q E s)
  exact Kc (wpAny_newTextTuple (tL W ok lam hCl c2 c3 (S.push _) (Sub.push _ _).keep h))
theorem GV(W:wd.OK)(ok:X.OK wd){args:Arguments}{body:Expr}{scope:Scope}{pos:Pos}{f:Nat}{fr:List Nat}(hsee:X.z.sees scope=true):JE wd X (.Lambda args body scope pos) (.lam f fr ⟨"<lambda>",args,.expr body,scope,pos⟩):=by
 intro B m σ s Q E S h
 obtain⟨hl,h⟩:=h
 obtain⟨Cl,hCl,q⟩:=nd h
 have lam:=ok.lam _ _ _ hl
 obtain⟨p1,p2,p3⟩:=lam.plain
 obtain⟨po,a,va,ko,kwd,kwa,d⟩:=args
 obtain rfl:d=[]:=p1
 obtain rfl:ko=[]:=p2
 obtain rfl:kwd=[]:=p3
 refine(?_:wpAny _ _ (evalAll [] >>= fun dv=>holding dv (evalAllOpt []) >>= fun kdv=>makeFunction "<lambda>" (X.env.qual ++ "<lambda>") _ (.expr body) scope X.env dv kdv [] pos pos.line) _ _ s)
 refine Kc (Ke (Kc (wpAny_holding (Ke ?_))))
 exact tM W ok S lam hsee hCl fun a s' S' r k=>bh S' r k q
end
end
section
inductive ByF(kd:Addr→Kd)(B h:Heap)(I:Addr):Prop|mk (o:Obj):kd I=.free→B.get? I=none→h.get? I=some o→ByF kd B h I
inductive GlF(wd:Wd)(B:Heap)(outs:List (Addr×(Str→Option Value)))(H:Hp)(h:Heap)(F:List Addr):Prop|mk (kd:Addr→Kd) (D:Addr→Addr):GL wd kd D B outs H h→(∀I∈F,ByF kd B h I)→GlF wd B outs H h F
structure SF(wd:Wd)(X:Ctx)(B:Heap)(m:Str→Option Value)(σ:St)(s:Shared)(F:List Addr):Prop where
 gl:GlF wd B ((X.env.locals,m)::X.outs) σ.H s.heap F
 lr:LR wd s.heap σ.L m
 gens:s.gens=#[]
 os:s.os=wd.os0
section
variable {wd:Wd} {X:Ctx} {B:Heap} {m:Str→Option Value} {σ:St} {s:Shared} {F:List Addr}
theorem SF.ss(x:SF wd X B m σ s F):SS wd X B m σ s:=⟨let ⟨kd,D,g,_⟩:=x.gl;⟨kd,D,g⟩,x.lr,x.gens,x.os⟩
theorem SS.sf(x:SS wd X B m σ s):SF wd X B m σ s []:=⟨let ⟨kd,D,g⟩:=x.gl;⟨kd,D,g,fun zz h=>absurd h Kr⟩,x.lr,x.gens,x.os⟩
theorem SF.sub(x:SF wd X B m σ s F){F':List Addr}(h:∀I∈F',I∈F):SF wd X B m σ s F':=⟨let ⟨kd,D,g,f⟩:=x.gl;⟨kd,D,g,fun I hI=>f I (h I hI)⟩,x.lr,x.gens,x.os⟩
theorem ByF.sub{kd:Addr→Kd}{h h':Heap}{I:Addr}(x:ByF kd B h I)(k:∀o,h.get? I=some o→h'.get? I=some o):ByF kd B h' I:=by
 obtain⟨o,a,b,e⟩:=x
 exact⟨o,a,b,k _ e⟩
theorem SF.cons(x:SF wd X B m σ s F){h':Heap}{n:Nat}{I:Addr}(k:Sub s.heap h')(hI:s.heap.objs.size≤I)(e:∃o,h'.get? I=some o):SF wd X B m σ { s with heap:=h',toks:=n } (I::F):=by
 obtain⟨⟨kd,D,g,f⟩,l,a,b⟩:=x
 obtain⟨o,e⟩:=e
 exact⟨⟨kd,D,g.grow k,KI.mpr ⟨⟨o,g.fresh hI,g.Bnone hI,e⟩,fun J hJ=>(f J hJ).sub fun o=>k _ o⟩⟩,l.keeps k.keep,a,b⟩
theorem SF.upd(x:SF wd X B m σ s F){I:Addr}(hI:I∈F){h':Heap}{n:Nat}(hs:Heap.ExtBut I s.heap h')(hn:∀o,s.heap.get? I=some o→¬ dO o)(he:∃o,h'.get? I=some o):SF wd X B m σ { s with heap:=h',toks:=n } F∧Keep s.heap h':=by
 obtain⟨⟨kd,D,g,f⟩,l,a,b⟩:=x
 have kp:=iz hs hn
 obtain⟨_,f1,f2,_⟩:=f I hI
 obtain⟨o,e⟩:=he
 refine⟨⟨⟨kd,D,g.freeUpd f1 f2 hs kp,fun J hJ=>?_⟩,l.keeps kp,a,b⟩,kp⟩
 by_cases z:J=I
 ·exact z▸⟨o,f1,f2,e⟩
 ·exact(f J hJ).sub fun o=>hs _ _ z
theorem SF.drop(x:SF wd X B m σ s F){I:Addr}(hI:I∈F){h':Heap}{n:Nat}(hs:Heap.ExtBut I s.heap h')(hn:∀o,s.heap.get? I=some o→¬ dO o){F':List Addr}(hF:∀J∈F',J∈F∧J≠I):SF wd X B m σ { s with heap:=h',toks:=n } F'∧Keep s.heap h':=by
 obtain⟨⟨kd,D,g,f⟩,l,a,b⟩:=x
 have kp:=iz hs hn
 obtain⟨_,f1,f2,_⟩:=f I hI
 exact⟨⟨⟨kd,D,g.freeUpd f1 f2 hs kp,fun J hJ=>(f J (hF J hJ).1).sub fun o=>hs _ _ (hF J hJ).2⟩,l.keeps kp,a,b⟩,kp⟩
inductive BackR(wd:Wd)(X:Ctx)(B:Heap)(h:Heap)(F:List Addr)(m:Str→Option Value)(σ:St)(s:Shared):Prop|mk:SF wd X B m σ s F→Keep h s.heap→(∀I∈F,∀o,h.get? I=some o→s.heap.get? I=some o)→BackR wd X B h F m σ s
inductive BodyR(wd:Wd)(X:Ctx)(B:Heap)(F:List Addr)(m:Str→Option Value)(σ:St)(s:Shared):Prop|mk (B':Heap):SS wd X B' m σ s→(∀m' σ' s',SS wd X B' m' σ' s'→BackR wd X B s.heap F m' σ' s')→(∀m' σ' k e s',XS wd X B' m' σ' k e s'→XS wd X B m' σ' k e s'∧Keep s.heap s'.heap)→BodyR wd X B F m σ s
theorem SF.body(x:SF wd X B m σ s F):BodyR wd X B F m σ s:=by
 obtain⟨⟨kd,D,g,f⟩,l,a,b⟩:=x
 have hB:∀I∈F,∀o,s.heap.get? I=some o→(big kd s.heap).get? I=some o:=fun I hI o e=>(dM _ _ (let ⟨_,p,_,_⟩:=f I hI;fun z=>z p)).trans e
 refine⟨big kd s.heap,⟨⟨kd,D,g.rebase⟩,l,a,b⟩,fun m' σ' s' S'=>?_,fun m' σ' k e s' S'=>?_⟩
 ·obtain⟨⟨kd',D',g'⟩,l',a',b'⟩:=S'
  refine⟨⟨⟨kd',D',g'.weaken g.big g.gd,fun I hI=>?_⟩,l',a',b'⟩,g.keepBig g',fun I hI o e=>g'.base I o (hB I hI o e)⟩
  obtain⟨o,p,q,e⟩:=f I hI
  have e':=hB I hI o e
  exact⟨o,Classical.byContradiction fun z=>nS ((g'.hid I z).symm.trans e'),q,g'.base I o e'⟩
 ·obtain⟨⟨kd',D',g',ex⟩,l',a',b'⟩:=S'
  exact⟨⟨⟨kd',D',g'.weaken g.big g.gd,ex⟩,l',a',b'⟩,g.keepBig g'⟩
theorem SF.ownF(x:SF wd X B m σ s F){I:Addr}(hI:I∈F){F':List Addr}(hF:∀J∈F',J∈F∧J≠I){ao:AO}(hlow:mainGlobals<I)(r:∀D,OR wd s.heap D I ao)(hi:∀k fs,ao≠.inst k fs)(hn:∃o,s.heap.get? I=some o∧¬ dO o):σ.H I=none∧SF wd X B m ⟨σ.L,Internal.upd σ.H I ao⟩ s F':=by
 obtain⟨⟨kd,D,g,f⟩,l,a,b⟩:=x
 obtain⟨_,f1,f2,_⟩:=f I hI
 refine⟨g.none fun z=>eB (z.symm.trans f1),⟨⟨_,D,g.newOwn (Sub.refl _) hlow f1 f2 (r D) hi hn,fun J hJ=>?_⟩,l,a,b⟩⟩
 obtain⟨p,z⟩:=hF J hJ
 obtain⟨o,q1,q2,q3⟩:=f J p
 exact⟨o,((Kg z).trans (Kg z)).trans q1,q2,q3⟩
theorem SF.own(x:SF wd X B m σ s F){I:Addr}(hI:I∈F){ao:AO}(hlow:mainGlobals<I)(r:∀D,OR wd s.heap D I ao)(hi:∀k fs,ao≠.inst k fs)(hn:∃o,s.heap.get? I=some o∧¬ dO o):σ.H I=none∧SS wd X B m ⟨σ.L,Internal.upd σ.H I ao⟩ s :=
 (x.ownF hI (F':=[]) (fun zz h=>absurd h Kr) hlow r hi hn).imp_right SF.ss
theorem SF.high(x:SF wd X B m σ s F){I:Addr}(h:s.heap.objs.size≤I):mainGlobals<I:=let ⟨_,_,g,_⟩:=x.gl;g.high h
inductive ItAt(wd:Wd)(h:Heap)(I:Addr):V→List V→Nat→Prop
 |list {ax:Addr} {vs:List V} {i:Nat}:h.IsListIter I ax i→ItAt wd h I (.obj ax) vs i
 |tup {ax:Addr} {vs:List V} {its:List Value} {i:Nat}:h.IsTupleIter I ax i→IsTup h ax its.toArray→VRs wd h vs its→ItAt wd h I (.tup vs) vs i
 |rng {n:Nat} {i:Nat}:IsRangeIter h I (0+(i:Int)*1) ((n:Int)-(i:Int)) 1→ItAt wd h I (.int n) ((List.range n).map fun j:Nat=>V.int (j:Int)) i
theorem ItAt.move{h h':Heap}{I:Addr}{v:V}{vs:List V}{i:Nat}(x:ItAt wd h I v vs i)(k:Keep h h')(e:∀o,h.get? I=some o→h'.get? I=some o):ItAt wd h' I v vs i:=by
 cases x with
 |list a=>obtain⟨o,e1,r⟩:=a;exact .list ⟨o,e _ e1,r⟩
 |tup a b c=>obtain⟨o,e1,r⟩:=a;exact .tup ⟨o,e _ e1,r⟩ (fF k b) (c.keeps k)
 |rng a=>exact .rng (e _ a)
theorem ItAt.obj{h:Heap}{I:Addr}{v:V}{vs:List V}{i:Nat}(x:ItAt wd h I v vs i):∃o,h.get? I=some o∧¬ dO o:=by
 cases x with
 |list a=>obtain⟨o,e1,c,d⟩:=a;exact⟨o,e1,cF (by refine ab c ?_;exact fun z=>absurd (Value.type.inj z) (by decide)) d⟩
 |tup a=>obtain⟨o,e1,c,d⟩:=a;exact⟨o,e1,cF (by refine ab c ?_;exact fun z=>absurd (Value.type.inj z) (by decide)) d⟩
 |rng a=>exact⟨_,a,cF (fun z=>absurd (Value.type.inj z) (by decide)) rfl⟩
theorem nA(h:Heap):h.get? h.objs.size=none:=AV (aR _)
theorem rT(S:SF wd X B m σ s F){v:V}{x:Value}{vs:List V}(r:VR wd s.heap v x)(e:bP σ.H v=some vs){Φ E:Value→Shared→Prop}
  (h:∀I s',SF wd X B m σ s' (I::F)→ItAt wd s'.heap I v vs 0→cV v vs σ.H→Keep s.heap s'.heap→Sub s.heap s'.heap→s.heap.get? I=none→Φ (.ref I) s'):wpAny (model wd.prog wd.w) X.A (pyIter x) Φ E s:=by
 obtain⟨a,o,items,c,rfl,ho,hc,hd,hl,ri⟩:=S.ss.items r e
 cases hc with
 |tup hc e =>
  subst e
  have ht:s.heap.IsTuple a items.toArray:=⟨o,ho,hc,c,hd⟩
  exact wpAny_pyIter_tuple ht (h _ _ (S.cons (n:=s.toks) (Sub.push _ _) (aR _) ⟨_,Ky _ rfl⟩) (.tup ⟨_,Ky _ rfl,rfl,rfl⟩ (fF (Sub.push _ _).keep ht) (ri.keeps (Sub.push _ _).keep)) trivial (Sub.push _ _).keep (Sub.push _ _) (nA _))
 |list hc e hH =>
  subst e
  have ht:s.heap.IsList a items.toArray:=⟨o,ho,hc,c,hd⟩
  exact wpAny_pyIter_list ht (h _ _ (S.cons (n:=s.toks) (Sub.push _ _) (aR _) ⟨_,Ky _ rfl⟩) (.list ⟨_,Ky _ rfl,rfl,rfl⟩) hH (Sub.push _ _).keep (Sub.push _ _) (nA _))
theorem uj{I:Addr}{v:V}{vs:List V}{i:Nat}(x:ItAt wd s.heap I v vs i){A:Around}{Φ E:Value→Shared→Prop}(h:Φ (.ref I) s)(hh:A.handled=none):wpAny (model wd.prog wd.w) A (pyIter (.ref I)) Φ E s:=by
 cases x with
 |list a=>exact wpAny_pyIter_listiter a h
 |tup a=>exact wpAny_pyIter_tupleiter a h
 |rng a=>exact(LCg.range_walks hh 0 _).self _ s Φ E a h
theorem uk(S:SF wd X B m σ s F){I:Addr}(hI:I∈F){v:V}{vs:List V}{i:Nat}(x:ItAt wd s.heap I v vs i)(src:cV v vs σ.H)(hh:X.A.handled=none){Φ:Option Value→Shared→Prop}{E:Value→Shared→Prop}
  (item:∀u y s',vs[i]?=some u→SF wd X B m σ s' F→VR wd s'.heap u y→ItAt wd s'.heap I v vs (i+1)→Keep s.heap s'.heap→(∀J o,J≠I→s.heap.get? J=some o→s'.heap.get? J=some o)→Φ (some y) s')
  (done:∀s',vs.length≤i→(∀F',(∀J∈F',J∈F∧J≠I)→SF wd X B m σ s' F')→Keep s.heap s'.heap→(∀J o,J≠I→s.heap.get? J=some o→s'.heap.get? J=some o)→Φ none s'):wpAny (model wd.prog wd.w) X.A (pyNext (.ref I)) Φ E s:=by
 obtain⟨oI,hoI,hnI⟩:=x.obj
 have hn:∀o,s.heap.get? I=some o→¬ dO o:=fun o e=>oInj (hoI.symm.trans e)▸hnI
 clear hoI hnI
 have fin:vs.length≤i→∀h' n,Heap.ExtBut I s.heap h'→Φ none { s with heap:=h',toks:=n }:=fun hi h' n hs'=>done _ hi (fun F' hF=>(S.drop hI hs' hn hF).1) (iz hs' hn) fun J o n e=>hs' J o n e
 have go:∀{u y h' n},Heap.ExtBut I s.heap h'→vs[i]?=some u→VR wd s.heap u y→(Keep s.heap h'→ItAt wd h' I v vs (i+1))→(∃o,h'.get? I=some o)→Φ (some y) { s with heap:=h',toks:=n }:=fun hs hu ry it he=>by
  obtain⟨S',k'⟩:=S.upd hI hs hn he
  exact item _ _ _ hu S' (ry.keeps k') (it k') k' fun J o n e=>hs J o n e
 clear item done
 cases x with
 |@list ax _ _ a =>
  obtain⟨a',items,n,ea,-,hH,p,l,rr⟩:=S.ss.list (.obj ax) (v:=.obj ax) (vs:=vs) (congrArg (fun o=>bo o AO.list?) (show σ.H ax=some (.list vs)from src))
  obtain rfl:=V.obj.inj ea
  have hl:s.heap.IsList ax items.toArray:=⟨_,p,rfl,_,rfl⟩
  have hlen:=rr.length
  by_cases hi:i<vs.length
  ·obtain⟨y,hy,ry⟩:=rr.get (Kj hi)
   exact wpAny_pyNext_list_item a hl (List.getElem?_toArray.trans hy) fun h' hit' hs'=>go (n:=s.toks) hs'.extBut (Kj hi) ry (fun zz=>.list hit') (let ⟨o,e,_⟩:=hit';⟨o,e⟩)
  ·exact wpAny_pyNext_list_end hh a hl (List.getElem?_toArray.trans (Lz (hlen▸LA.mp hi))) fun h' hs'=>fin (LA.mp hi) _ s.toks hs'
 |@tup ax _ its _ a b c =>
  have hlen:=c.length
  by_cases hi:i<vs.length
  ·obtain⟨y,hy,ry⟩:=c.get (Kj hi)
   exact wpAny_pyNext_tuple_item a b (List.getElem?_toArray.trans hy) fun h' hit' hs'=>go (n:=s.toks) hs'.extBut (Kj hi) ry (fun k'=>.tup hit' (fF k' b) (c.keeps k')) (let ⟨o,e,_⟩:=hit';⟨o,e⟩)
  ·exact wpAny_pyNext_tuple_end hh a b (List.getElem?_toArray.trans (Lz (hlen▸LA.mp hi))) fun h' hs'=>fin (LA.mp hi) _ s.toks hs'
 |@rng n _ a =>
  by_cases hi:i<n
  ·refine wpAny_pyNext_range_item a (Int.sub_pos.mpr (Int.ofNat_lt.mpr hi)) fun h' hit' hs'=>?_
   have e1:(0+(i:Int)*1+1:Int)=0+((i+1:Nat):Int)*1:=by rw[Int.mul_one,Int.mul_one,Int.zero_add,Int.zero_add];rfl
   have e2:((n:Int)-(i:Int)-1:Int)=(n:Int)-((i+1:Nat):Int):=Int.sub_sub _ _ _
   replace hit':=e1▸hit';replace hit':=e2▸hit'
   refine go hs'.extBut (u:=.int i) (by refine ab (Ko) ?_;refine ab (List.getElem?_range hi) ?_;rfl) ?_ (fun zz=>.rng hit') ⟨_,hit'⟩
   rw[Int.mul_one,Int.zero_add]
   exact .int _ _
  ·exact wpAny_pyNext_range_end hh a (Int.sub_nonpos_of_le (Int.ofNat_le.mpr (LA.mp hi))) fun h' hs'=>fin (by rewrite[Kf];refine ab KT ?_;exact LA.mp hi) _ _ hs'
noncomputable def yg(wd:Wd)(X:Ctx)(e:Expr)(rng:Bool)(pe:PE):Prop:=∀B m σ s (Q:V→List V→St→Prop) (E:Nat→St→Prop) (Φ:Value→Shared→Prop) F0,SF wd X B m σ s F0→wE pe X.c σ (fun v σ=>X.c.hc=none∧iA rng v∧aG (iB rng σ.H v) fun vs=>Q v vs σ) E →
 (∀I v vs σ' m' s',X.c.hc=none→SF wd X B m' σ' s' (I::F0)→ItAt wd s'.heap I v vs 0→cV v vs σ'.H→Keep s.heap s'.heap→(∀J∈F0,∀o,s.heap.get? J=some o→s'.heap.get? J=some o)→Q v vs σ'→Φ (.ref I) s') →
 wpAny (model wd.prog wd.w) X.A (eval e X.env) (fun x s1=>wpAny (model wd.prog wd.w) X.A (pyIter x) Φ (PX wd X B s E) s1) (PX wd X B s E) s
theorem pG{e:Expr}{pe:PE}(ih:JE wd X e pe):yg wd X e false pe:=by
 intro B m σ s Q E Φ F0 S h k
 obtain⟨B',S',back,backX⟩:=S.body
 refine KC (ih B' m σ s _ E S' h) (fun x s1 q=>?_) fun x s1 q=>by
  obtain⟨j,σ1,m1,x1,k1,q1⟩:=q
  exact⟨j,σ1,m1,(backX _ _ _ _ _ x1).1,k1,q1⟩
 obtain⟨v,σ1,m1,S1,r1,k1,q1⟩:=q
 obtain⟨S2,k2,f2⟩:=back _ _ _ S1
 obtain⟨vs,hvs,q⟩:=nd q1.2.2
 exact rT S2 r1 hvs fun I s' S3 it src k3 sb zz=>k I v vs σ1 m1 s' q1.1 S3 it src (k1.trans k3) (fun J hJ o e=>sb _ _ (f2 J hJ o e)) q
theorem yU{n:Int}(h0:0≤n):Builtin.Range.rangeSize 0 n 1=n:=by
 rw[rangeSize_one]
 by_cases z:0<n
 ·rw[Kh z,Int.sub_zero]
 ·rw[Kg z];exact Int.le_antisymm h0 (Int.not_lt.mp z)
theorem CF(W:wd.OK)(ok:X.OK wd){p pos:Pos}{e:Expr}{pe:PE}(hk:X.z.kind "range" = some .globalImplicit)(hg:X.z.gk "range" = none)(ih:EOK wd X e pe):yg wd X (.Call (.Name "range" p) [e] [] pos) true pe:=by
 intro B m σ s Q E Φ F0 S h k
 obtain⟨B',S',back,backX⟩:=S.body
 refine KC (fC W ok hk hg (.tail _ (.tail _ (.tail _ (.tail _ (.tail _ (.head _)))))) ih S' h (F:=fun x s1=>wpAny (model wd.prog wd.w) X.A (pyIter x) Φ (PX wd X B s E) s1) fun x v σ1 m1 s1 S1 r1 k1 q1=>?_) (fun zz zz h=>h) fun x s1 q=>by
  obtain⟨j,σ1,m1,x1,k1,q1⟩:=q
  exact⟨j,σ1,m1,(backX _ _ _ _ _ x1).1,k1,q1⟩
 obtain⟨hhc,hok,q⟩:=q1
 obtain⟨S2,k2,f2⟩:=back _ _ _ S1
 obtain⟨n,hn,h0,h20⟩:=nd hok
 obtain⟨t,rfl,rfl⟩:=r1.int_ hn
 clear S h back backX S' S1 r1 hok hn
 refine call_range_1 (wpAny_pyIter_range (IsRange.new _ _ _ _ _ _ _) (small_one (by decide) (by decide) (cz (by decide) h0) (Int.lt_of_le_of_lt h20 (by decide))) ?_)
 have sb:Sub s1.heap ((s1.heap.push { cls:=.type "range",data:=.fields #[.int 0 s1.toks,.int n t,.int 1 (s1.toks+1)] }).push { cls:=.type "range_iterator",data:=.fields #[rawInt 0,rawInt (Builtin.Range.rangeSize 0 n 1),rawInt 1] }):=(Sub.push _ _).trans (Sub.push _ _)
 have hit:((s1.heap.push { cls:=.type "range",data:=.fields #[.int 0 s1.toks,.int n t,.int 1 (s1.toks+1)] }).push { cls:=.type "range_iterator",data:=.fields #[rawInt 0,rawInt (Builtin.Range.rangeSize 0 n 1),rawInt 1] }).get? (s1.heap.push { cls:=.type "range",data:=.fields #[.int 0 s1.toks,.int n t,.int 1 (s1.toks+1)] }).objs.size=_:=Ky _ rfl
 have hz:s1.heap.objs.size≤(s1.heap.push { cls:=.type "range",data:=.fields #[.int 0 s1.toks,.int n t,.int 1 (s1.toks+1)] }).objs.size:=Heap.size_push ..▸Nat.le_succ _
 dsimp only
 generalize (s1.heap.push { cls:=.type "range",data:=.fields #[.int 0 s1.toks,.int n t,.int 1 (s1.toks+1)] }).objs.size=I at hz hit ⊢
 generalize (s1.heap.push { cls:=.type "range",data:=.fields #[.int 0 s1.toks,.int n t,.int 1 (s1.toks+1)] }).push { cls:=.type "range_iterator",data:=.fields #[rawInt 0,rawInt (Builtin.Range.rangeSize 0 n 1),rawInt 1] }=h' at sb hit ⊢
 refine k I (.int n) _ σ1 m1 _ hhc (S2.cons (n:=s1.toks+1+1) sb hz ⟨_,hit⟩) ?_ trivial (k1.trans sb.keep) (fun J hJ o e=>sb _ _ (f2 J hJ o e)) q
 obtain⟨n,rfl⟩:=Int.eq_ofNat_of_zero_le h0
 replace hit:=(yU h0)▸hit
 refine ItAt.rng (i:=0) (n:=n) ?_
 have e:((n:Int)-((0:Nat):Int))=n:=Int.sub_zero _
 refine ab e ?_
 exact hit
end
end
section
section
variable {wd:Wd} {X:Ctx} {B:Heap} {m:Str→Option Value} {σ:St} {s:Shared} {F:List Addr}
theorem SS.setLocal(S:SS wd X B m σ s)(ne:∀q∈X.outs,q.1≠X.env.locals){h':Heap}{n:Nat}{i:Nat}{v:V}{y:Value}(hn:h'.Ns X.env.locals (fun x=>if x=wd.nm i then some y else m x))(hs:Heap.SameBut X.env.locals s.heap h')(r:VR wd s.heap v y) :
  SS wd X B (fun x=>if x=wd.nm i then some y else m x) ⟨upd σ.L i v,σ.H⟩ { s with heap:=h',toks:=n }∧Keep s.heap h':=by
 obtain⟨⟨kd,D,g⟩,l,a,b⟩:=S
 have kp:=g.keepBut (p:=X.env.locals) (fun z=>gV ((g.outs _ (.head _)).1.symm.trans z)) hs.extBut
 exact⟨⟨⟨kd,D,g.setNs hs.extBut hn ne⟩,(l.keeps kp).set (r.keeps kp),a,b⟩,kp⟩
theorem SS.setCell(S:SS wd X B m σ s){a:Addr}{w:Option V}{v:V}{y:Value}{h':Heap}{n:Nat}{o:Obj}(ha:σ.H a=some (.cell w))(e:h'.get? a=some o)(hd:o.data=.cell (some y))(hs:Heap.ExtBut a s.heap h')(r:VR wd s.heap v y) :
  SS wd X B m ⟨σ.L,upd σ.H a (.cell (some v))⟩ { s with heap:=h',toks:=n }∧Keep s.heap h':=by
 obtain⟨⟨kd,D,g⟩,l,c,b⟩:=S
 have hk:=(g.own a _ ha).1
 have kp:=g.keepBut (p:=a) (fun z=>eB (hk.symm.trans z)) hs
 exact⟨⟨⟨kd,D,g.setOwn ha hs ⟨o,e,rZ hd⟩ (.cell e hd (r.keeps kp)) nofun⟩,l.keeps kp,c,b⟩,kp⟩
inductive NameS(z:SC)(id:Str)(x:Nat)(cel:Bool):Prop
 |loc:z.nid id=some x→cel=false→z.kind id=some .local→NameS z id x cel
 |cel:z.nid id=some x→cel=true→z.kind id=some .cell→NameS z id x cel
theorem jM{z:SC}{id:Str}{p:Pos}{x:Nat}{cel:Bool}(h:bL z (.Name id p)=some (x,cel)):NameS z id x cel:=by
 obtain⟨i,e,h⟩:=aw h
 obtain rfl:=oInj e
 obtain⟨y,hy,h⟩:=aw h
 cases eu h with
 |t c e =>
  obtain⟨rfl,rfl⟩:=Prod.mk.inj (oInj e)
  exact .loc hy rfl (xu c)
 |f c e =>
  obtain⟨rfl,rfl⟩:=Prod.mk.inj (oInj (aO e))
  exact .cel hy rfl (Ki (aX e))
theorem dP(ok:X.OK wd)(S:SS wd X B m σ s){id:Str}{p:Pos}{x:Nat}{cel:Bool}(hx:bL X.z (.Name id p)=some (x,cel)){v:V}{y:Value}(r:VR wd s.heap v y){Q:St→Prop}(h:dm X.c x cel v σ Q){Φ:Unit→Shared→Prop}{E:Value→Shared→Prop}
  (k:∀m' σ' s',SS wd X B m' σ' s'→Keep s.heap s'.heap→Q σ'→Φ () s'):wpAny (model wd.prog wd.w) X.A (storeName X.env id y) Φ E s:=by
 cases jM hx with
 |loc h1 e h2 =>
  subst e
  obtain rfl:=ok.nid _ _ h1
  obtain⟨_,_,g⟩:=S.gl
  refine wpAny_storeName_local (ok.loc _ h2) (g.outs _ (.head _)).2 (fun h' hn hs=>?_) (by refine ab ok.kind ?_;rfl)
  obtain⟨S',k'⟩:=S.setLocal ok.ne (n:=s.toks+1) hn hs r
  exact k _ _ _ S' k' h
 |cel h1 e h2 =>
  subst e
  obtain rfl:=ok.nid _ _ h1
  obtain⟨a,ha,h⟩:=nd h
  obtain⟨w,ho,h⟩:=nd h
  have hl:=ok.cells x a ha (.inl h2)
  obtain⟨ho,o,y0,e,d,_⟩:=S.cell ho
  have k0:∀h',h'.IsCell a (some y)→Heap.SameBut a s.heap h'→Φ () { s with heap:=h' }:=fun h' hv' hs=>by
   obtain⟨o',e',d'⟩:=hv'
   obtain⟨S',k'⟩:=S.setCell (n:=s.toks) ho e' d' hs.extBut r
   exact k _ _ _ S' k' h
  rcases ok.cel _ (.inl h2)with h3|h3
  ·exact wpAny_storeName_cell ok.kind h3 hl ⟨_,e,d⟩ k0
  ·exact storeName_free ok.kind h3 hl ⟨_,e,d⟩ k0
end
end
section
section
variable {wd:Wd} {X:Ctx} {B:Heap} {m:Str→Option Value} {σ:St} {s:Shared} {F:List Addr}
theorem kv{env:Env}{k:NameKind}(hk:k≠.free):∀{names:List (Str×NameKind)} {x:Str},names.lookup x=some k →
  (names.map fun(n,k)=>if (k==NameKind.free&&env.scope.kind==.function&&env.kindOf n==some .cell)then (n,NameKind.cell)else (n,k)).lookup x=some k:=by
 intro names
 induction names with
 |nil =>
  intro x h
  simp at h
 |cons p r ih' =>
  intro x h
  obtain⟨n,k'⟩:=p
  refine(?_:List.lookup x ((if (k'==NameKind.free&&env.scope.kind==.function&&env.kindOf n==some .cell)=true then (n,NameKind.cell)else (n,k'))::_)=_)
  cases hx:x==n with
  |true =>
   simp only[Kp,hx]at h
   cases h
   have:(k==NameKind.free)=false:=Km.mpr hk
   simp[Kp,hx,this]
  |false =>
   simp only[Kp,hx]at h
   have ih:=ih' h
   by_cases hc:(k'==NameKind.free&&env.scope.kind==.function&&env.kindOf n==some .cell)=true
   ·refine ab (Kh hc) ?_;simp only[Kp,hx];exact ih
   ·refine ab (Kg hc) ?_;simp only[Kp,hx];exact ih
theorem qY{env:Env}:∀{names:List (Str×NameKind)} {x:Str},names.lookup x=some .free →
  iK ((names.map fun(n,k)=>if (k==NameKind.free&&env.scope.kind==.function&&env.kindOf n==some .cell)then (n,NameKind.cell)else (n,k)).lookup x):=by
 intro names
 induction names with
 |nil =>
  intro x h
  simp at h
 |cons p r ih' =>
  intro x h
  obtain⟨n,k'⟩:=p
  refine(?_:iK (List.lookup x ((if (k'==NameKind.free&&env.scope.kind==.function&&env.kindOf n==some .cell)=true then (n,NameKind.cell)else (n,k'))::_)))
  cases hx:x==n with
  |true =>
   simp only[Kp,hx]at h
   cases h
   by_cases hc:(NameKind.free==NameKind.free&&env.scope.kind==.function&&env.kindOf n==some .cell)=true
   ·refine ab (Kh hc) ?_;simp only[Kp,hx];exact .inl rfl
   ·refine ab (Kg hc) ?_;simp only[Kp,hx];exact .inr rfl
  |false =>
   simp only[Kp,hx]at h
   have ih:=ih' h
   by_cases hc:(k'==NameKind.free&&env.scope.kind==.function&&env.kindOf n==some .cell)=true
   ·refine ab (Kh hc) ?_;simp only[Kp,hx];exact ih
   ·refine ab (Kg hc) ?_;simp only[Kp,hx];exact ih
theorem cE{α β:Type}[BEq α][LawfulBEq α]:∀{l:List (α×β)} {x:α} {y:β},l.lookup x=some y→(x,y)∈l:=by
 intro l
 induction l with
 |nil =>
  intro x y h
  simp at h
 |cons p r ih =>
  intro x y h
  obtain⟨a,b⟩:=p
  rw[Kp]at h
  cases hb:x==a with
  |true=>replace h:=hb▸h;cases h;refine ab (Ki hb) ?_;exact .head _
  |false=>replace h:=hb▸h;exact .tail _ (ih h)
noncomputable def Ctx.comp(X:Ctx)(m:Str→Option Value)(sc:Scope)(cl:List (Str×Addr))(C:Addr):Ctx:={ X with env:=compEnvC sc cl C X.env,outs:=(X.env.locals,m)::X.outs,z:={ X.z with sc:=sc } }
structure CompSc(X:Ctx)(wd:Wd)(sc:Scope)(cl:List (Str×Addr)):Prop where
 kind:sc.kind=.function
 sees:X.z.sees sc=true
 nocell:∀x∈sc.names,x.2≠.cell
 loc:∀x∈sc.names,x.2=.local→sc.names.lookup x.1=some .local
 clos:closureFor sc X.env=pure cl
 at_:∀i a,(wd.nm i,NameKind.free)∈sc.names→X.c.C.lookup i=some a→cl.lookup (wd.nm i)=some a
theorem De(ok:X.OK wd){sc:Scope}(h:X.z.compOk sc=true):∃cl,CompSc X wd sc cl:=by
 unfold SC.compOk at h
 simp only[Lv,decide_eq_true_eq]at h
 obtain⟨⟨h1,h2⟩,h3⟩:=h
 obtain⟨cl,g1,g2,_⟩:=nI ok h2
 have h4:=lAt h3
 refine⟨cl,h1,h2,fun x hx q=>?_,fun x hx q=>?_,g1,g2⟩
 ·have:=h4 x hx
  simp[q]at this
 ·have:=h4 x hx
  simp only[q,bne_self_eq_false,Bool.false_or,Lv,beq_iff_eq]at this
  exact this.2
theorem kR{sc:Scope}{cl:List (Str×Addr)}(c:CompSc X wd sc cl){x:Str}(h:iK (sc.names.lookup x)):sc.names.lookup x=some .free:=by
 rcases h with h|h
 ·exact absurd rfl (c.nocell _ (cE h))
 ·exact h
theorem Df(ok:X.OK wd){sc:Scope}{cl:List (Str×Addr)}(c:CompSc X wd sc cl){C:Addr}(hC:C≠X.env.locals)(hC':∀q∈X.outs,q.1≠C):(X.comp m sc cl C).OK wd where
 frames:=ok.frames
 fr:=fun e he=>by
  obtain⟨h1,L,h2,h3⟩:=ok.fr e he
  exact⟨h1,L,h2,.tail _ h3⟩
 ne:=fun q hq=>by
  rcases mCo hq with rfl|hq
  ·exact Ne.symm hC
  ·exact hC' q hq
 kind:=c.kind
 globals:=ok.globals
 builtins:=ok.builtins
 loc:=fun x hx=>kv (fun z=>by cases z) hx
 cel:=fun x hx=>qY (kR c hx)
 glo:=fun x hx=>kv (fun z=>by cases z) hx
 nid:=ok.nid
 gk:=ok.gk
 cells:=fun i a ha hk=>c.at_ i a (cE (kR c hk)) ha
 hasC:=fun x hx=>ok.hasC x (kq c.sees (cE (kR c hx)) rfl)
 lam:=fun f fr nd h=>let l:=ok.lam f fr nd h;⟨l.fi,l.plain,l.out,l.back⟩
 GC:=ok.GC
 CI:=ok.CI
 mth:=ok.mth
 attrs:=ok.attrs
 handled:=ok.handled
 depth:=ok.depth
 units:=ok.units
theorem sJ(hh:X.Has wd){sc:Scope}{cl:List (Str×Addr)}{C:Addr}:(X.comp m sc cl C).Has wd:=⟨hh.K,hh.KH⟩
inductive EnterR(wd:Wd)(X:Ctx)(B:Heap)(m m0:Str→Option Value)(H:Hp)(sc:Scope)(cl:List (Str×Addr))(C:Addr)(F:List Addr)(s:Shared):Prop
 |mk:SF wd (X.comp m sc cl C) B m0 ⟨noL,H⟩ s F→C≠X.env.locals→(∀q∈X.outs,q.1≠C)→C∉F→EnterR wd X B m m0 H sc cl C F s
theorem SF.enter(x:SF wd X B m σ s F){sc:Scope}{cl:List (Str×Addr)}{C:Addr}{h':Heap}{n:Nat}{m0:Str→Option Value}(k:Sub s.heap h')(hC:s.heap.objs.size≤C)(ns:h'.Ns C m0) :
  EnterR wd X B m m0 σ.H sc cl C F { s with heap:=h',toks:=n }:=by
 obtain⟨⟨kd,D,g,f⟩,l,a,b⟩:=x
 have hf:=g.fresh hC
 have hF:∀I∈F,I≠C:=fun I hI z=>by
  obtain⟨o,_,_,e⟩:=f I hI
  exact absurd (Heap.lt_size e) (LA.mpr (z▸hC))
 refine⟨⟨⟨_,D,g.newNs k hf (g.Bnone hC) ns,fun I hI=>?_⟩,(fun i v e=>nS e),a,b⟩,fun z=>dA (g.outs _ (.head _)).1 hf gV z.symm,fun q hq=>dA (g.outs q (.tail _ hq)).1 hf gV,fun z=>hF C z rfl⟩
 obtain⟨o,p,q,e⟩:=f I hI
 exact⟨o,(Kg (hF I hI)).trans p,q,k _ _ e⟩
theorem SF.leave{sc:Scope}{cl:List (Str×Addr)}{C:Addr}{mC:Str→Option Value}{L:Lc}(x:SF wd (X.comp m sc cl C) B mC σ s F)(hC:C≠X.env.locals)(hC':∀q∈X.outs,q.1≠C)(l:LR wd s.heap L m) :
  SF wd X B m ⟨L,σ.H⟩ s (C::F)∧s.heap.Ns C mC:=by
 obtain⟨⟨kd,D,g,f⟩,_,a,b⟩:=x
 obtain⟨hk,hns⟩:=g.outs (C,mC) (.head _)
 have hk:kd C=.ns:=hk
 have back:∀{b:Addr} {c:Kd},(if b=C then Kd.free else kd b)=c→c≠.free→b≠C∧kd b=c:=fun{b c} q n=>by
  by_cases z:b=C
  ·exact absurd ((Kh z).symm.trans q).symm n
  ·exact⟨z,(Kg z).symm.trans q⟩
 have bf:∀{b:Addr},(if b=C then Kd.free else kd b)≠.free→kd b≠.free:=fun{b} q w=>q (by
  by_cases z:b=C
  ·exact Kh z
  ·exact(Kg z).trans w)
 have g':GL wd (fun b=>if b=C then .free else kd b) D B ((X.env.locals,m)::X.outs) σ.H s.heap :=
  {base:=g.base,gd:=g.gd
   own:=fun a o e=>⟨fz hk nofun (g.own a o e).1,(g.own a o e).2⟩
   part:=fun a k fs e=>fz hk nofun (g.part a k fs e)
   outs:=fun q hq=>⟨(Kg ((KI (p:=fun q:Addr×(Str→Option Value)=>q.1≠C)).mpr ⟨Ne.symm hC,hC'⟩ q hq)).trans (g.outs q (.tail _ hq)).1,(g.outs q (.tail _ hq)).2⟩
   tabs:=fun q hq=>⟨fz hk nofun (g.tabs q hq).1,(g.tabs q hq).2⟩
   hid:=fun b q=>g.hid b (bf q)
   there:=fun b q=>g.there b (bf q)
   nimm:=fun b o q=>g.nimm b o (bf q)
   low:=fun b q=>g.low b (back q eB).2 }
 refine⟨⟨⟨_,D,g',KI.mpr ⟨?_,fun I hI=>?_⟩⟩,l,a,b⟩,hns⟩
 ·obtain⟨o,es,ep,e,_⟩:=hns
  exact⟨o,Kh rfl,g.hid _ fun w=>gV (hk.symm.trans w),e⟩
 ·obtain⟨o,p,q,r⟩:=f I hI
  refine⟨o,?_,q,r⟩
  by_cases z:I=C
  ·exact Kh z
  ·exact(Kg z).trans p
end
end
section
section
variable {wd:Wd} {X:Ctx} {B:Heap} {m:Str→Option Value} {σ:St} {s:Shared} {F:List Addr}
noncomputable def te(wd:Wd)(X:Ctx)(ifs:List Expr)(cond:Option PE):Prop:=match cond with
 |none=>ifs=[]
 |some pc=>∃c,ifs=[c]∧JT wd X c pc
theorem yl{ifs:List Expr}{cond:Option PE}(hc:te wd X ifs cond)(S:SS wd X B m σ s){Q:Bool→St→Prop}{E:Nat→St→Prop}(h:wC cond X.c σ Q E) :
  wpAny (model wd.prog wd.w) X.A (forIn ifs true fun c r=>if r=true then do let ok←isTrue c X.env (eval c X.env);pure (ForInStep.yield ok)else pure (ForInStep.yield r)) (PV wd X B s BR Q) (PX wd X B s E) s:=by
 cases cond with
 |none =>
  obtain rfl:ifs=[]:=hc
  exact wpAny_tests_nil (cY S rfl h)
 |some pc =>
  obtain⟨c,rfl,j⟩:=hc
  exact wpAny_tests_one (j B m σ s _ E S h)
theorem SF.weakL(S:SF wd X B m σ s F):SF wd X B m ⟨noL,σ.H⟩ s F:=⟨S.gl,(fun i v e=>nS e),S.gens,S.os⟩
theorem ng{e:Value}{s' s'':Shared}(h:PX wd X B s' fX e s''):False:=by
 obtain⟨_,_,_,_,_,f⟩:=h
 exact f
inductive AppR(wd:Wd)(X:Ctx)(B:Heap)(m:Str→Option Value)(σ:St)(s:Shared)(F:List Addr)(D:Addr)(items:List Value)(s':Shared):Prop
 |mk (n':Nat):SF wd X B m σ s' F→s'.heap.get? D=some (listOf items.toArray n')→Keep s.heap s'.heap→(∀J o,J≠D→s.heap.get? J=some o→s'.heap.get? J=some o)→AppR wd X B m σ s F D items s'
theorem pn(S:SF wd X B m σ s F){D:Addr}(hD:D∈F){items:List Value}{n:Nat}(e:s.heap.get? D=some (listOf items.toArray n))(hl:items.length<sizeLine){y:Value}{Φ:Value→Shared→Prop}{E:Value→Shared→Prop}
  (k:∀s' v,AppR wd X B m σ s F D (items++[y]) s'→Φ v s') :
  wpAny (model wd.prog wd.w) X.A (call (.builtin "list.append") [.ref D,y]) Φ E s:=by
 refine call_meets PySem.F.slot_list_append ⟨_,e,rfl⟩ PySem.F.entry_list_append (PySem.F.args_list_append_2 _ _) (list_append D items.toArray n _ (KN hl)) ⟨e,?_⟩
 have hsb:Heap.ExtBut D s.heap (s.heap.update D (Obj.mapSeq fun a=>a.push y)):=(Heap.SameBut.update _ _ _).extBut
 have hget:(s.heap.update D (Obj.mapSeq fun a=>a.push y)).get? D=some (listOf (items++[y]).toArray _):=(Heap.get?_update_self (Obj.mapSeq fun a=>a.push y) e rfl).trans (congrArg (fun x=>some (listOf x _)) (List.push_toArray ..))
 obtain⟨S',k'⟩:=S.upd hD (n:=s.toks) hsb (fun o e'=>oInj (e.symm.trans e')▸gy rfl rfl) ⟨_,hget⟩
 exact k _ _ ⟨_,S',hget,k',fun J o n e=>hsb J o n e⟩
noncomputable def FM(F:List Addr)(I D:Addr)(h h':Heap):Prop:=∀J∈F,J≠I→J≠D→∀o,h.get? J=some o→h'.get? J=some o
inductive LpI(wd:Wd)(X:Ctx)(B:Heap)(F:List Addr)(v:V)(vs:List V)(I D:Addr)(h0:Heap)(C:List V→List V→St→Prop)(k:Nat)(s:Shared):Prop
 |mk (i:Nat) (m:Str→Option Value) (σ:St) (acc:List V) (items:List Value) (n:Nat):k=vs.length-i→SF wd X B m σ s F→ItAt wd s.heap I v vs i→i≤vs.length→cV v vs σ.H→s.heap.get? D=some (listOf items.toArray n)→items.length≤sizeLine→VRs wd s.heap acc items →
   Keep h0 s.heap→FM F I D h0 s.heap→C (vs.drop i) acc σ→LpI wd X B F v vs I D h0 C k s
inductive LpEnd(wd:Wd)(X:Ctx)(B:Heap)(F:List Addr)(I D:Addr)(h0:Heap)(K:List V→St→Prop)(s:Shared):Prop
 |mk (m:Str→Option Value) (σ:St) (acc:List V) (items:List Value) (n:Nat):(∀F',(∀J∈F',J∈F∧J≠I)→SF wd X B m σ s F')→s.heap.get? D=some (listOf items.toArray n)→items.length≤sizeLine→VRs wd s.heap acc items→Keep h0 s.heap→FM F I D h0 s.heap→K acc σ→LpEnd wd X B F I D h0 K s
theorem pR{vs:List V}{i:Nat}{u:V}(hu:vs[i]?=some u):i<vs.length∧vs.drop i=u::vs.drop (i+1):=by
 obtain⟨h,rfl⟩:=Kk.mp hu
 exact⟨h,List.drop_eq_getElem_cons h⟩
theorem oA{v:V}{vs:List V}{I D:Addr}{h0:Heap}{C:List V→List V→St→Prop}{k:Nat}(hI:I∈F)(hID:I≠D)(hh:X.A.handled=none)(x:LpI wd X B F v vs I D h0 C k s){Φ:Option Value→Shared→Prop}{E:Value→Shared→Prop}
  (item:∀u us y s' m σ acc items n i,VR wd s'.heap u y→k=vs.length-i→i<vs.length→us=vs.drop (i+1)→SF wd X B m σ s' F→ItAt wd s'.heap I v vs (i+1)→s'.heap.get? D=some (listOf items.toArray n)→items.length≤sizeLine→VRs wd s'.heap acc items→Keep h0 s'.heap→FM F I D h0 s'.heap→C (u::us) acc σ→Φ (some y) s')
  (done:∀s',LpEnd wd X B F I D h0 (C []) s'→Φ none s'):wpAny (model wd.prog wd.w) X.A (pyNext (.ref I)) Φ E s:=by
 obtain⟨i,m,σ,acc,items,n,hk,S,it,hi,src,e,hl,r,kp,oth,h⟩:=x
 refine uk S hI it src hh (fun u y s1 hu S1 ry it1 k1 o1=>?_) fun s1 hle S1 k1 o1=>?_
 ·obtain⟨hlt,hd⟩:=pR hu
  exact item u _ y s1 m σ acc items n i ry hk hlt rfl S1 it1 (o1 D _ (Ne.symm hID) e) hl (r.keeps k1) (kp.trans k1) (fun J hJ n1 n2 o e=>o1 J _ n1 (oth J hJ n1 n2 o e)) (hd▸h)
 ·exact done s1 ⟨m,σ,acc,items,n,S1,o1 D _ (Ne.symm hID) e,hl,r.keeps k1,kp.trans k1,fun J hJ n1 n2 o e=>o1 J _ n1 (oth J hJ n1 n2 o e),List.drop_of_length_le hle▸h⟩
theorem hM{n i:Nat}(h:i<n):n-(i+1)<n-i:=Nat.sub_lt_sub_left h (La i)
noncomputable def vU(cond:Option PE)(elt:PE)(x:Nat)(c:Cx):V→St→(Option V→St→Prop)→Prop:=fun u τ K =>
 wC cond c ⟨upd noL x u,τ.H⟩ (fun b τ1=>br b (wE elt c τ1 (fun w τ2=>K (some w) ⟨τ.L,τ2.H⟩) fX) (K none ⟨τ.L,τ1.H⟩)) fX
theorem xP(ok:X.OK wd)(hh:X.A.handled=none){elt iter:Expr}{id:Str}{px pos:Pos}{ifs:List Expr}{sc:Scope}{x:Nat}{cond:Option PE}{pelt:PE}(hx:bL X.z (.Name id px)=some (x,false))(hc:te wd X ifs cond)(he:JE wd X elt pelt)
  {I D:Addr} (hI:I∈F) (hD:D∈F) (hID:I≠D) {v:V} {vs:List V} {L0:Lc} {K:List V→St→Prop} {R:Result→Shared→Prop} {h0:Heap} {k:Nat}
  (fin:∀s',LpEnd wd X B F I D h0 (fun acc σ=>K acc ⟨L0,σ.H⟩) s'→R (.ok .next) s')
  (S:LpI wd X B F v vs I D h0 (fun us acc σ=>dB v vs (vU cond pelt x X.c) us acc ⟨L0,σ.H⟩ K) k s) :
  codeAny (model wd.prog wd.w) X.A (.compLoop (.ListComp elt [⟨.Name id px,iter,ifs,0⟩] sc pos) 0 (.ref I) (.ref D) X.env) R s:=by
 refine codeAny_compLoop_tests (LpI wd X B F v vs I D h0 fun us acc σ=>dB v vs (vU cond pelt x X.c) us acc ⟨L0,σ.H⟩ K) (fun k s S=>?_) k S
 refine oA hI hID hh S (fun u us y s1 m σ acc items n i ry hk hlt hus S1 it1 e hl r kp oth h=>?_) fin
 obtain⟨B',S2,back,-⟩:=S1.weakL.body
 refine wpAny_assign_Name (dP ok S2 hx ry (Q:=fun τ=>τ=⟨upd noL x u,σ.H⟩) rfl fun m3 σ3 s3 S3 k3 q3=>?_)
 subst q3
 have nof:∀e' s',PX wd X B' s3 fX e' s'→notedBy (model wd.prog wd.w) X.A X.env (fun e s'=>R (.error e) s') e' s':=fun e' s' z=>(ng z).elim
 refine KC (yl hc S3 h) (fun b s4 q=>?_) nof
 obtain⟨b,σ4,m4,S4,rfl,k4,q4⟩:=q
 cases b with
 |false =>
  obtain⟨S5,kb,ob⟩:=back _ _ _ S4
  obtain⟨_,q6,q7⟩:=kX q4
  exact⟨_,hk▸hM hlt,i+1,m4,σ4,acc,items,n,rfl,S5,it1.move kb (ob I hI),hlt,q6,ob D hD _ e,hl,r.keeps kb,kp.trans kb,fun J hJ n1 n2 o e=>ob J hJ _ (oth J hJ n1 n2 o e),hus▸Lm acc▸q7⟩
 |true =>
  refine KC (he B' m4 σ4 s4 _ _ S4 (kf q4)) (fun x5 s5 q=>?_) fun e' s' z=>(ng z).elim
  obtain⟨w,σ5,m5,S5,r5,k5,q6,q7,q8⟩:=q
  obtain⟨S5',kb,ob⟩:=back _ _ _ S5
  have hlt2:items.length<sizeLine:=r.length▸ub▸q6
  refine pn S5' hD (ob D hD _ e) hlt2 fun s6 zz z=>?_
  obtain⟨n6,S6,e6,k6,o6⟩:=z
  exact⟨_,hk▸hM hlt,i+1,m5,σ5,acc++[w],items++[x5],n6,rfl,S6,(it1.move kb (ob I hI)).move k6 fun o e=>o6 I o hID e,hlt,q7,e6,Kl▸hlt2,(r.keeps (kb.trans k6)).append (.cons (r5.keeps k6) .nil),kp.trans (kb.trans k6),fun J hJ n1 n2 o e=>o6 J o n2 (ob J hJ _ (oth J hJ n1 n2 o e)),hus▸q8⟩
end
end
section
section
variable {wd:Wd} {X:Ctx} {B:Heap} {m:Str→Option Value} {σ:St} {s:Shared} {F:List Addr}
inductive TurnEnd(wd:Wd)(X:Ctx)(B:Heap)(D:Addr)(h0:Heap)(K:List V→St→Prop)(s:Shared):Prop
 |mk (m:Str→Option Value) (σ:St) (acc:List V) (items:List Value) (n:Nat):SF wd X B m σ s [D]→s.heap.get? D=some (listOf items.toArray n)→items.length≤sizeLine→VRs wd s.heap acc items→Keep h0 s.heap→K acc σ→TurnEnd wd X B D h0 K s
noncomputable def wb(wd:Wd)(X:Ctx)(B:Heap)(sc:Scope)(cl:List (Str×Addr))(e:Expr)(Loop:V→List V→St→Prop)(K:List V→St→Prop):Prop :=
 ∀C I D v vs σ1 m1 s1 m' (R:Result→Shared→Prop),X.A.handled=none→(X.comp m1 sc cl C).OK wd→SF wd (X.comp m1 sc cl C) B m' ⟨noL,σ1.H⟩ s1 [I,D]→I≠D→ItAt wd s1.heap I v vs 0→cV v vs σ1.H→s1.heap.get? D=some (listOf #[] 0)→Loop v vs σ1 →
  (∀s',TurnEnd wd (X.comp m1 sc cl C) B D s1.heap (fun acc σ=>K acc ⟨σ1.L,σ.H⟩) s'→R (.ok .next) s') →
  codeAny (model wd.prog wd.w) X.A (.compLoop e 0 (.ref I) (.ref D) (compEnvC sc cl C X.env)) R s1
inductive CompR(wd:Wd)(X:Ctx)(B:Heap)(h0:Heap)(C D:Addr)(K:List V→St→Prop)(s:Shared):Prop
 |mk (m1:Str→Option Value) (σ:St) (mC:Str→Option Value) (acc:List V) (items:List Value) (n:Nat):SF wd X B m1 σ s [C,D]→s.heap.Ns C mC→D≠C→mainGlobals<D→s.heap.get? D=some (listOf items.toArray n)→items.length≤sizeLine→VRs wd s.heap acc items→Keep h0 s.heap→K acc σ→CompR wd X B h0 C D K s
theorem sH(ok:X.OK wd){elt target iter:Expr}{ifs:List Expr}{gs:List Comprehension}{sc:Scope}{pos p:Pos}{cl:List (Str×Addr)}(cs:CompSc X wd sc cl)(hset:∀x,foldedSetIterable iter X.env x=pure x){rng:Bool}{pit:PE}(jit:yg wd X iter rng pit)
  {Loop:V→List V→St→Prop} {K:List V→St→Prop} {E:Nat→St→Prop} (S:SS wd X B m σ s) (h:wE pit X.c σ (fun v σ=>X.c.hc=none∧iA rng v∧aG (iB rng σ.H v) fun vs=>Loop v vs σ) E) (turns:wb wd X B sc cl (.ListComp elt (⟨target,iter,ifs,0⟩::gs) sc pos) Loop K)
  {use:Option (Value→Sem Unit)} {Φ:Value→Shared→Prop}
  (fin:∀C D s',CompR wd X B s.heap C D K s'→compPost (model wd.prog wd.w) X.A (PX wd X B s E) use Φ (.ref D) C (.ok .next) s') :
  wpAny (model wd.prog wd.w) X.A (comprehension (.ListComp elt (⟨target,iter,ifs,0⟩::gs) sc pos) sc X.env p (newList []) false (eval iter X.env) use) Φ (PX wd X B s E) s:=by
 refine wpAny_comprehension_free rfl hset cs.clos cs.kind cs.loc ?_
 refine jit B m σ s Loop E _ [] S.sf h fun I v vs σ1 m1 s2 hhc S2 it src k2 zz q2=>?_
 have hh:=ok.handled hhc
 have hlow:=S2.high (aR _)
 refine wpAny_newObj_type (wpAny_newFunctionEnv cs.nocell (by intro y hy;simp at hy) (fun h₁ hns₁ hsb₁=>?_) cs.kind)
 have S3:=S2.cons (n:=s2.toks) (Sub.push s2.heap ({ cls:=.type "list",dict:=none,data:=.seq ([]:List Value).toArray }:Obj)) (aR _) ⟨_,Ky _ rfl⟩
 dsimp only at hns₁ hsb₁ ⊢
 have hD0:(s2.heap.push ({ cls:=.type "list",dict:=none,data:=.seq ([]:List Value).toArray }:Obj)).get? s2.heap.objs.size=some (listOf #[] 0):=Ky _ rfl
 have hID:I≠s2.heap.objs.size:=by
  obtain⟨o,e,_⟩:=it.obj
  exact Lb (Heap.lt_size e)
 have k3:Keep s2.heap (s2.heap.push ({ cls:=.type "list",dict:=none,data:=.seq ([]:List Value).toArray }:Obj)):=(Sub.push _ _).keep
 have it3:ItAt wd (s2.heap.push ({ cls:=.type "list",dict:=none,data:=.seq ([]:List Value).toArray }:Obj)) I v vs 0:=it.move k3 fun o e=>Sub.push _ _ _ _ e
 generalize s2.heap.objs.size=D at hns₁ hsb₁ S3 hD0 hID hlow ⊢
 generalize s2.heap.push ({ cls:=.type "list",dict:=none,data:=.seq ([]:List Value).toArray }:Obj)=H3 at hns₁ hsb₁ S3 hD0 k3 it3 ⊢
 have sb:Sub H3 h₁:=fun b o e=>hsb₁.extBut b o (Lb (Heap.lt_size e)) (Ku _ e)
 obtain⟨S4,hC,hC',hCF⟩:=S3.enter (sc:=sc) (cl:=cl) (n:=s2.toks+([]:List (Str×Value)).length) sb (aR _) hns₁
 generalize H3.objs.size=C at hns₁ hsb₁ S4 hC hC' hCF ⊢
 have hDC:D≠C:=fun z=>hCF (z▸.head _)
 have ok':=Df (m:=m1) ok cs hC hC'
 have it4:=it3.move sb.keep fun o e=>sb _ _ e
 have loop:codeAny (model wd.prog wd.w) X.A (.compLoop (.ListComp elt (⟨target,iter,ifs,0⟩::gs) sc pos) 0 (.ref I) (.ref D) (compEnvC sc cl C X.env)) (compPost (model wd.prog wd.w) X.A (PX wd X B s E) use Φ (.ref D) C) { s2 with heap:=h₁,toks:=s2.toks+([]:List (Str×Value)).length }:=by
  refine turns C I D v vs σ1 m1 _ _ _ hh ok' (S4.sub fun J hJ=>?_) hID it4 src (sb _ _ hD0) q2 fun s' q=>?_
  ·rcases mCo hJ with rfl|hJ
   ·exact .tail _ (.head _)
   ·exact mSng hJ▸.head _
  ·obtain⟨m'',σ5,acc,items,n,S5,e5,hl5,r5,k5,q5⟩:=q
   have kk:Keep s2.heap s'.heap:=(k3.trans sb.keep).trans k5
   obtain⟨S6,hns⟩:=S5.leave (L:=σ1.L) hC hC' (S2.lr.keeps kk)
   exact fin C D s' ⟨m1,_,m'',acc,items,n,S6,hns,hDC,hlow,e5,hl5,r5,k2.trans kk,q5⟩
 exact codeAny_compStart_list loop (uj it4 loop hh)
theorem vT{D C:Addr}{s':Shared}{A:Around}{E:Value→Shared→Prop}{Q:V→St→Prop}(z:CompR wd X B s.heap C D (fun acc σ=>fresh σ (.list acc) Q) s'):compPost (model wd.prog wd.w) A E none (PV wd X B s (VR wd) Q) (.ref D) C (.ok .next) s':=by
 obtain⟨m,σ,mC,acc,items,n,S,hns,hDC,hlow,e,hl,r,k,q⟩:=z
 refine⟨mC,hns,fun h' hs=>?_⟩
 obtain⟨S1,k1⟩:=S.drop (.head _) (n:=s'.toks) hs.extBut (fun o e=>by
  obtain⟨o',es,ep,e',d,_⟩:=hns
  exact oInj (e'.symm.trans e)▸df d) (F':=[D]) fun J hJ=>(mSng hJ).symm▸⟨.tail _ (.head _),hDC⟩
 have e1:=hs.extBut D _ hDC e
 obtain⟨hH,S2⟩:=S1.own (.head _) (ao:=.list acc) hlow (fun D'=>.list e1 hl (r.keeps k1)) nofun ⟨_,e1,gy rfl rfl⟩
 exact⟨.obj D,_,m,S2,.obj D,k.trans k1,q _ hH⟩
theorem xO(ok:X.OK wd){D C:Addr}{s':Shared}{E:Value→Shared→Prop}{Q:St→Prop}{id:Str}{p:Pos}{x:Nat}{cel:Bool}(hx:bL X.z (.Name id p)=some (x,cel))
  (z:CompR wd X B s.heap C D (fun acc σ=>fresh σ (.list acc) fun v τ=>dm X.c x cel v τ Q) s') {Φ:Value→Shared→Prop}
  (fin:∀m3 σ3 s3,SS wd X B m3 σ3 s3→Keep s.heap s3.heap→Q σ3→Φ .none s3):compPost (model wd.prog wd.w) X.A E (some (assign (.Name id p) X.env)) Φ (.ref D) C (.ok .next) s':=by
 obtain⟨m,σ,mC,acc,items,n,S,hns,hDC,hlow,e,hl,r,k,q⟩:=z
 obtain⟨hH,S2⟩:=S.ownF (.tail _ (.head _)) (F':=[C]) (fun J hJ=>(mSng hJ).symm▸⟨.head _,Ne.symm hDC⟩) (ao:=.list acc) hlow (fun D'=>.list e hl r) nofun ⟨_,e,gy rfl rfl⟩
 obtain⟨B',S3,back,-⟩:=S2.body
 refine(?_:wpAny _ _ (assign (.Name id p) X.env (.ref D)) _ _ _)
 refine wpAny_assign_Name (dP ok S3 hx (.obj D) (q D hH) fun m4 σ4 s4 S4 k4 q4=>?_)
 obtain⟨S5,k5,o5⟩:=back _ _ _ S4
 obtain⟨o,es,ep,e6,d6,r6⟩:=hns
 have e7:=o5 C (.head _) o e6
 refine⟨mC,⟨o,es,ep,e7,d6,r6⟩,fun h' hs=>?_⟩
 obtain⟨S8,k8⟩:=S5.drop (.head _) (n:=s4.toks) hs.extBut (fun o' e'=>oInj (e7.symm.trans e')▸df d6) (F':=[]) fun J hJ=>absurd hJ Kr
 exact fin _ _ _ S8.ss (k.trans (k5.trans k8)) q4
end
end
section
section
variable {wd:Wd} {X:Ctx} {B:Heap} {m:Str→Option Value} {σ:St} {s:Shared} {F:List Addr}
theorem BN(elt:Expr)(x1 x2:Str)(p1 p2:Pos)(it1 it2:Expr)(sc:Scope)(pos:Pos)(it acc:Value)(env:Env) :
  compTurn (.ListComp elt [⟨.Name x1 p1,it1,[],0⟩,⟨.Name x2 p2,it2,[],0⟩] sc pos) 1 it acc env=(standAt it2.pos >>= fun zz=>pyNext it >>= fun r=>match r with
   |none=>pure (.done .next)
   |some v=>assign (.Name x2 p2) env v >>= fun zz=>(eval elt env >>= fun x=>call (.builtin "list.append") [acc,x] >>= fun zz=>pure ()) >>= fun zz =>
     again (.compLoop (.ListComp elt [⟨.Name x1 p1,it1,[],0⟩,⟨.Name x2 p2,it2,[],0⟩] sc pos) 1 it acc env)):=by rfl
theorem yF(elt:Expr)(x1 x2:Str)(p1 p2:Pos)(it1 it2:Expr)(sc:Scope)(pos:Pos)(it acc:Value)(env:Env) :
  compTurn (.ListComp elt [⟨.Name x1 p1,it1,[],0⟩,⟨.Name x2 p2,it2,[],0⟩] sc pos) 0 it acc env=(standAt it1.pos >>= fun zz=>pyNext it >>= fun r=>match r with
   |none=>pure (.done .next)
   |some v=>assign (.Name x1 p1) env v >>= fun zz=>eval it2 env >>= fun x=>standAt it2.pos >>= fun zz=>foldedSetIterable it2 env x >>= fun x=>holding [x] (pyIter x) >>= fun i2 =>
     runOwn (.compStart (.ListComp elt [⟨.Name x1 p1,it1,[],0⟩,⟨.Name x2 p2,it2,[],0⟩] sc pos) 1 i2 acc env) env >>= fun zz =>
     again (.compLoop (.ListComp elt [⟨.Name x1 p1,it1,[],0⟩,⟨.Name x2 p2,it2,[],0⟩] sc pos) 0 it acc env)):=by rfl
noncomputable def sK(elt:PE)(y:Nat)(c:Cx):V→St→(Option V→St→Prop)→Prop:=fun u2 τ2 K2=>wE elt c ⟨upd τ2.L y u2,τ2.H⟩ (fun w τ3=>K2 (some w) ⟨τ3.L,τ3.H⟩) fX
theorem j4{elt:Expr}{x1 x2:Str}{p1 p2:Pos}{it1 it2:Expr}{sc:Scope}{pos:Pos}{it acc:Value}{env:Env}{A:Around}{R:Result→Shared→Prop}{prog:Program}{w:World}
  (h0:codeAny (model prog w) A (.compLoop (.ListComp elt [⟨.Name x1 p1,it1,[],0⟩,⟨.Name x2 p2,it2,[],0⟩] sc pos) 1 it acc env) R s)
  (h:wpAny (model prog w) A (pyIter it) (fun it' s'=>codeAny (model prog w) A (.compLoop (.ListComp elt [⟨.Name x1 p1,it1,[],0⟩,⟨.Name x2 p2,it2,[],0⟩] sc pos) 1 it' acc env) R s')
   (notedBy (model prog w) A env fun x s'=>R (.error x) s') s) :
  codeAny (model prog w) A (.compStart (.ListComp elt [⟨.Name x1 p1,it1,[],0⟩,⟨.Name x2 p2,it2,[],0⟩] sc pos) 1 it acc env) R s:=by
 refine codeAny_of_tree ?_
 refine(?_:wpAny _ _ ((compStart (.ListComp elt [⟨.Name x1 p1,it1,[],0⟩,⟨.Name x2 p2,it2,[],0⟩] sc pos) 1 it acc env).onRaise (fun x=>do noteFrame x env;standAt theWindowsPlace)) _ _ s)
 refine wpAny_notedAt ?_
 unfold compStart
 refine(?_:wpAny _ _ (ask >>= _) _ _ s)
 refine Kc (wpAny_askSetting (wpAny_ite ?_))
 split
 ·first
   |exact Kc (Ke (Ke (And.intro rfl h0)))
   |exact Ke (And.intro rfl h0)
 ·first
   |exact Kc (wpAny_rule (Kc (wpAny_standAt (Kc (KC h (fun it' s' h'=>Ke (And.intro rfl h')) fun zz zz x=>x)))))
   |(refine Kc (wpAny_rule ?_);show wpAny _ _ (standAt it2.pos >>= _) _ _ s;exact Kc (wpAny_standAt (Kc (KC h (fun it' s' h'=>Ke (And.intro rfl h')) fun zz zz x=>x))))
theorem sI(ok:X.OK wd)(hh:X.A.handled=none){elt it1 it2:Expr}{x1 x2:Str}{p1 p2 pos:Pos}{sc:Scope}{y:Nat}{pelt:PE}(hx:bL X.z (.Name x2 p2)=some (y,false))(he:JE wd X elt pelt)
  {I D:Addr} (hI:I∈F) (hD:D∈F) (hID:I≠D) {v:V} {vs:List V} {K:List V→St→Prop} {R:Result→Shared→Prop} {h0:Heap} {k:Nat}
  (fin:∀s',LpEnd wd X B F I D h0 K s'→R (.ok .next) s') (S:LpI wd X B F v vs I D h0 (fun us acc σ=>dB v vs (sK pelt y X.c) us acc σ K) k s) :
  codeAny (model wd.prog wd.w) X.A (.compLoop (.ListComp elt [⟨.Name x1 p1,it1,[],0⟩,⟨.Name x2 p2,it2,[],0⟩] sc pos) 1 (.ref I) (.ref D) X.env) R s:=by
 refine codeAny_loop rfl (LpI wd X B F v vs I D h0 fun us acc σ=>dB v vs (sK pelt y X.c) us acc σ K) (fun k s S=>?_) k S
 refine(?_:wpAny _ X.A ((compTurn (.ListComp elt [⟨.Name x1 p1,it1,[],0⟩,⟨.Name x2 p2,it2,[],0⟩] sc pos) 1 (.ref I) (.ref D) X.env).onRaise (fun x=>do noteFrame x X.env;theTreesLotGoes x)) _ _ s)
 refine wpAny_noted ?_
 rw[BN]
 refine Kc (wpAny_standAt (Kc ?_))
 refine oA hI hID hh S (fun u us yv s1 m σ acc items n i ry hk hlt hus S1 it1 e hl r kp oth h=>?_) fun s' z=>Ke (fin s' z)
 obtain⟨B',S2,back,-⟩:=S1.body
 refine Kc (wpAny_assign_Name (dP ok S2 hx ry (Q:=fun τ=>τ=⟨upd σ.L y u,σ.H⟩) rfl fun m3 σ3 s3 S3 k3 q3=>?_))
 subst q3
 refine Kc (Kc (KC (he B' m3 _ s3 _ _ S3 h) (fun x5 s5 q=>?_) fun e' s' z=>(ng z).elim))
 obtain⟨w,σ5,m5,S5,r5,k5,q6,q7,q8⟩:=q
 obtain⟨S5',kb,ob⟩:=back _ _ _ S5
 have hlt2:items.length<sizeLine:=r.length▸ub▸q6
 refine Kc (pn S5' hD (ob D hD _ e) hlt2 fun s6 zz z=>Ke (Ke ⟨rfl,?_⟩))
 obtain⟨n6,S6,e6,k6,o6⟩:=z
 exact⟨_,hk▸hM hlt,i+1,m5,σ5,acc++[w],items++[x5],n6,rfl,S6,(it1.move kb (ob I hI)).move k6 fun o e=>o6 I o hID e,hlt,q7,e6,Kl▸hlt2,(r.keeps (kb.trans k6)).append (.cons (r5.keeps k6) .nil),kp.trans (kb.trans k6),fun J hJ n1 n2 o e=>o6 J o n2 (ob J hJ _ (oth J hJ n1 n2 o e)),hus▸q8⟩
noncomputable def fR(pit2 elt:PE)(x y:Nat)(c:Cx):V→List V→St→(List V→St→Prop)→Prop:=fun u acc τ K=>wE pit2 c ⟨upd noL x u,τ.H⟩ (fun v2 τ1=>aG (bP τ1.H v2) fun vs2 =>
 dB v2 vs2 (sK elt y c) vs2 acc τ1 fun acc' τ4=>K acc' ⟨τ.L,τ4.H⟩) fX
theorem qc(ok:X.OK wd)(hh:X.A.handled=none){elt it1 it2:Expr}{x1 x2:Str}{p1 p2 pos:Pos}{sc:Scope}{x y:Nat}{pelt pit2:PE}(hset:∀x,foldedSetIterable it2 X.env x=pure x)(hx:bL X.z (.Name x1 p1)=some (x,false))(hy:bL X.z (.Name x2 p2)=some (y,false))
  (hi2:JE wd X it2 pit2) (he:JE wd X elt pelt)
  {I D:Addr} (hID:I≠D) {v:V} {vs:List V} {L0:Lc} {K:List V→St→Prop} {R:Result→Shared→Prop} {h0:Heap} {k:Nat}
  (fin:∀s',LpEnd wd X B [I,D] I D h0 (fun acc σ=>K acc ⟨L0,σ.H⟩) s'→R (.ok .next) s')
  (S:LpI wd X B [I,D] v vs I D h0 (fun us acc σ=>dg v vs (fR pit2 pelt x y X.c) us acc ⟨L0,σ.H⟩ K) k s) :
  codeAny (model wd.prog wd.w) X.A (.compLoop (.ListComp elt [⟨.Name x1 p1,it1,[],0⟩,⟨.Name x2 p2,it2,[],0⟩] sc pos) 0 (.ref I) (.ref D) X.env) R s:=by
 refine codeAny_loop rfl (LpI wd X B [I,D] v vs I D h0 fun us acc σ=>dg v vs (fR pit2 pelt x y X.c) us acc ⟨L0,σ.H⟩ K) (fun k s S=>?_) k S
 refine(?_:wpAny _ X.A ((compTurn (.ListComp elt [⟨.Name x1 p1,it1,[],0⟩,⟨.Name x2 p2,it2,[],0⟩] sc pos) 0 (.ref I) (.ref D) X.env).onRaise (fun x=>do noteFrame x X.env;theTreesLotGoes x)) _ _ s)
 refine wpAny_noted ?_
 rw[yF]
 refine Kc (wpAny_standAt (Kc ?_))
 refine oA (.head _) hID hh S (fun u us yv s1 m σ acc items n i ry hk hlt hus S1 itn e hl r kp zz h=>?_) fun s' z=>Ke (fin s' z)
 obtain⟨B',S2,back,-⟩:=S1.weakL.body
 refine Kc (wpAny_assign_Name (dP ok S2 hx ry (Q:=fun τ=>τ=⟨upd noL x u,σ.H⟩) rfl fun m3 σ3 s3 S3 k3 q3=>?_))
 subst q3
 obtain⟨S3',kb3,ob3⟩:=back _ _ _ S3
 obtain⟨B3,S3b,back3,-⟩:=S3'.body
 refine Kc (KC (hi2 B3 m3 _ s3 _ _ S3b h) (fun x5 s5 q=>?_) fun e' s' z=>(ng z).elim)
 obtain⟨v2,σ5,m5,S5,r5,k5,q5⟩:=q
 obtain⟨S5',kb5,ob5⟩:=back3 _ _ _ S5
 obtain⟨vs2,hvs2,q5⟩:=nd q5
 refine Kc (wpAny_standAt (Kc (wpAny_of_eq (hset x5) (Kc (wpAny_holding ?_)))))
 have eD5:s5.heap.get? D=some (listOf items.toArray n):=ob5 D (.tail _ (.head _)) _ (ob3 D (.tail _ (.head _)) _ e)
 have it5:ItAt wd s5.heap I v vs (i+1):=(itn.move kb3 (ob3 I (.head _))).move kb5 (ob5 I (.head _))
 have k15:Keep s1.heap s5.heap:=kb3.trans kb5
 refine rT S5' r5 hvs2 fun I2 s6 S6 it6 src6 k6 sub6 hn6=>?_
 have hI1:I2≠I:=fun z=>by
  obtain⟨o,eo,_⟩:=it5.obj
  exact nS (hn6.symm.trans (z▸eo))
 have hI2:I2≠D:=fun z=>nS (hn6.symm.trans (z▸eD5))
 have turns:∀R':Result→Shared→Prop,(∀s7,LpEnd wd X B [I2,I,D] I2 D s6.heap (fun acc σ=>cV v vs σ.H∧dg v vs (fR pit2 pelt x y X.c) us acc ⟨L0,σ.H⟩ K) s7→R' (.ok .next) s7) →
   codeAny (model wd.prog wd.w) X.A (.compLoop (.ListComp elt [⟨.Name x1 p1,it1,[],0⟩,⟨.Name x2 p2,it2,[],0⟩] sc pos) 1 (.ref I2) (.ref D) X.env) R' s6:=fun R' hR =>
  sI (F:=[I2,I,D]) ok hh hy he (.head _) (.tail _ (.tail _ (.head _))) hI2 hR ⟨0,_,_,acc,items,n,rfl,S6,it6,Kx _,src6,sub6 _ _ eD5,hl,r.keeps (k15.trans k6),Keep.refl _,fun zz zz zz zz o e=>e,q5⟩
 have next:∀s7,LpEnd wd X B [I2,I,D] I2 D s6.heap (fun acc σ=>cV v vs σ.H∧dg v vs (fR pit2 pelt x y X.c) us acc ⟨L0,σ.H⟩ K) s7→∃j,j<k∧LpI wd X B [I,D] v vs I D h0 (fun us acc σ=>dg v vs (fR pit2 pelt x y X.c) us acc ⟨L0,σ.H⟩ K) j s7:=fun s7 z=>by
  obtain⟨m7,σ7,acc7,items7,n7,S7,e7,l7,r7,k7,o7,q8,q9⟩:=z
  refine⟨_,hk▸hM hlt,i+1,m7,σ7,acc7,items7,n7,rfl,S7 [I,D] (KI.mpr ⟨⟨.tail _ (.head _),Ne.symm hI1⟩,fun J hJ=>(mSng hJ).symm▸⟨.tail _ (.tail _ (.head _)),Ne.symm hI2⟩⟩),(it5.move k6 fun o e=>sub6 _ _ e).move k7 fun o e=>o7 I (.tail _ (.head _)) (Ne.symm hI1) hID o e,hlt,q8,e7,l7,r7,kp.trans (k15.trans (k6.trans k7)),?_,hus▸q9⟩
  exact KI.mpr ⟨fun z=>absurd rfl z,fun J hJ zz z=>absurd (mSng hJ) z⟩
 exact Kc (wpAny_runOwn (j4 (turns _ fun s7 z=>Ke ⟨rfl,next s7 z⟩) (uj it6 (turns _ fun s7 z=>Ke ⟨rfl,next s7 z⟩) hh)))
end
end
section
section
variable {wd:Wd} {X:Ctx} {B:Heap} {m:Str→Option Value} {σ:St} {s:Shared} {F:List Addr}
theorem set_plain{it:Expr}(env:Env)(x:Value):cG it=true→foldedSetIterable it env x=pure x:=by
 apply @Expr.casesOn (fun it=>cG it=true→foldedSetIterable it env x=pure x) it<;>intros<;>first|rfl|exact fT ‹_›
noncomputable abbrev mG(wd:Wd)(r:cA):Prop:=∀X:Ctx,X.OK wd→X.Has wd→RX wd X r
theorem Da{r:cA}(R:RX wd X r){ifs:List Expr}{cond:Option PE}(h:vS r X.z ifs=some cond):te wd X ifs cond:=by
 cases ifs with
 |nil=>obtain rfl:=oInj h;exact rfl
 |cons c t =>
  obtain⟨c',h1,h2⟩:=aw (show bo (one (c::t)) _=_ from h)
  obtain⟨pc,h3,rfl⟩:=bX h2
  exact⟨c',dG h1,(R _ _ h3).jt⟩
theorem DM(hh:X.Has wd){r:cA}(R:mG wd r){sc:Scope}{cl:List (Str×Addr)}{elt iter:Expr}{id:Str}{px pos:Pos}{ifs:List Expr}{x:Nat}{cond:Option PE}{pelt:PE}{Q:V→St→Prop}(hx:bL { X.z with sc:=sc } (.Name id px)=some (x,false))
  (hc:vS r { X.z with sc:=sc } ifs=some cond) (hp:r elt { X.z with sc:=sc }=some pelt) :
  wb wd X B sc cl (.ListComp elt [⟨.Name id px,iter,ifs,0⟩] sc pos) (fun v vs σ=>dB v vs (vU cond pelt x X.c) vs [] σ fun ws τ=>fresh τ (.list ws) Q) (fun acc τ=>fresh τ (.list acc) Q):=by
 intro C I D v vs σ1 m1 s1 m' W hhn ok' S hID it src e h fin
 have R':=R _ ok' (sJ hh)
 refine xP (X:=X.comp m1 sc cl C) (F:=[I,D]) (h0:=s1.heap) (K:=fun ws τ=>fresh τ (.list ws) Q) (L0:=σ1.L) (v:=v) (vs:=vs) ok' hhn (iter:=iter) (pos:=pos) (sc:=sc) hx (Da R' hc) (R' _ _ hp).je (.head _) (.tail _ (.head _)) hID (fun s' z=>?_)
  ⟨0,m',⟨noL,σ1.H⟩,[],[],0,rfl,S,it,Kx _,src,e,Kx _,.nil,Keep.refl _,fun zz zz zz zz zz e=>e,h⟩
 obtain⟨m2,σ2,acc,items,n,S',e',l',r',k',_,q'⟩:=z
 exact fin s' ⟨m2,σ2,acc,items,n,S' [D] fun J hJ=>(mSng hJ).symm▸⟨.tail _ (.head _),Ne.symm hID⟩,e',l',r',k',q'⟩
theorem DL(hh:X.Has wd){r:cA}(R:mG wd r){sc:Scope}{cl:List (Str×Addr)}{elt it1 it2:Expr}{x1 x2:Str}{p1 p2 pos:Pos}{x y:Nat}{pit2 pelt:PE}{Q:V→St→Prop}(hx:bL { X.z with sc:=sc } (.Name x1 p1)=some (x,false))(hy:bL { X.z with sc:=sc } (.Name x2 p2)=some (y,false))
  (hpi:r it2 { X.z with sc:=sc }=some pit2) (hp:r elt { X.z with sc:=sc }=some pelt) :
  wb wd X B sc cl (.ListComp elt [⟨.Name x1 p1,it1,[],0⟩,⟨.Name x2 p2,it2,[],0⟩] sc pos) (fun v vs σ=>dg v vs (fR pit2 pelt x y X.c) vs [] σ fun ws τ=>fresh τ (.list ws) Q) (fun acc τ=>fresh τ (.list acc) Q):=by
 intro C I D v vs σ1 m1 s1 m' W hhn ok' S hID it src e h fin
 have R':=R _ ok' (sJ hh)
 refine qc (X:=X.comp m1 sc cl C) (h0:=s1.heap) (K:=fun ws τ=>fresh τ (.list ws) Q) (L0:=σ1.L) (v:=v) (vs:=vs) ok' hhn (set_plain _ · (R' _ _ hpi).good) hx hy (R' _ _ hpi).je (R' _ _ hp).je hID (fun s' z=>?_)
  ⟨0,m',⟨noL,σ1.H⟩,[],[],0,rfl,S,it,Kx _,src,e,Kx _,.nil,Keep.refl _,fun zz zz zz zz zz e=>e,h⟩
 obtain⟨m2,σ2,acc,items,n,S',e',l',r',k',_,q'⟩:=z
 exact fin s' ⟨m2,σ2,acc,items,n,S' [D] fun J hJ=>(mSng hJ).symm▸⟨.tail _ (.head _),Ne.symm hID⟩,e',l',r',k',q'⟩
theorem dS{z:SC}{t:Expr}{r}(h:bL z t=some r):∃id p,t=.Name id p:=by
 obtain⟨id,h1,_⟩:=aw h
 obtain⟨p,e⟩:=iQ h1
 exact⟨id,p,e⟩
theorem mx{z:SC}{t:Expr}{x:Nat}(h:qo z t=some x):bL z t=some (x,false):=by
 obtain⟨⟨y,b⟩,h1,h2⟩:=aw h
 obtain rfl:b=false:=gH (aX h2)
 obtain rfl:y=x:=oInj (aO h2)
 exact h1
inductive RngR(z:SC)(it e:Expr):Prop|mk (p pos:Pos):it=.Call (.Name "range" p) [e] [] pos→z.kind "range" = some .globalImplicit→z.gk "range" = none→RngR z it e
theorem yV{z:SC}{it e:Expr}(h:u9 z it=some e):RngR z it e:=by
 obtain⟨⟨f,as,ks⟩,h1,h2⟩:=aw h
 have hk:=eL (aX h2)
 obtain⟨id,h3,h4⟩:=aw (aO h2)
 have c:=aX h4
 obtain⟨pos,rfl⟩:=pU h1
 obtain⟨p,hf⟩:=iQ h3
 have ha:=dG (aO h4)
 dsimp only at hk hf ha ⊢
 subst hk hf ha
 obtain rfl:=Ki (ak (ak c))
 exact⟨p,pos,rfl,ny (aK (ak c)),jT (aK c)⟩
theorem xp(W:wd.OK)(ok:X.OK wd){r:cA}(R:RX wd X r){it:Expr}{p:Bool×PE}(h:qp r X.z it=some p):yg wd X it p.1 p.2∧∀env x,foldedSetIterable it env x=pure x:=by
 unfold qp at h
 cases hr:u9 X.z it with
 |some e =>
  replace h:=hr▸h
  obtain⟨pe,h1,rfl⟩:=bX h
  obtain⟨p,pos,rfl,hk,hg⟩:=yV hr
  exact⟨CF W ok hk hg (R _ _ h1),fun zz zz=>rfl⟩
 |none =>
  replace h:=hr▸h
  obtain⟨pe,h1,rfl⟩:=bX h
  exact⟨pG (R _ _ h1).je,fun env x=>set_plain env x (R _ _ h1).good⟩
end
end
section
section
variable {wd:Wd} {X:Ctx} {B:Heap} {m:Str→Option Value} {σ:St} {s:Shared} {F:List Addr}
theorem xh(W:wd.OK)(ok:X.OK wd)(hh:X.Has wd){r:cA}(R:mG wd r){elt:Expr}{gens:List Comprehension}{sc:Scope}{pos p:Pos}{pe:PE}(h:qw r X.z elt gens sc=some pe)
  {Q:V→St→Prop} {E:Nat→St→Prop} (S:SS wd X B m σ s) (hw:wE pe X.c σ Q E) {use:Option (Value→Sem Unit)} {Φ:Value→Shared→Prop}
  (fin:∀C D s',CompR wd X B s.heap C D (fun acc σ=>fresh σ (.list acc) Q) s'→compPost (model wd.prog wd.w) X.A (PX wd X B s E) use Φ (.ref D) C (.ok .next) s') :
  wpAny (model wd.prog wd.w) X.A (comprehension (.ListComp elt gens sc pos) sc X.env p (newList []) (firstAsync gens) (firstIter gens X.env) use) Φ (PX wd X B s E) s:=by
 obtain⟨cl,cs⟩:=De ok (aX h)
 replace h:=aO h
 have R':=R X ok hh
 cases ho:one gens with
 |some g =>
  replace h:=ho▸h
  obtain rfl:=dG ho
  obtain⟨t,it,ifs,a⟩:=g
  obtain rfl:a=0:=Kn (aX h)
  obtain⟨cond,hc,h2⟩:=aw (aO h)
  obtain⟨⟨rng,pit⟩,hi,h3⟩:=aw h2
  obtain⟨x,pelt,hx,hp,rfl⟩:=dt h3
  have hx:=mx hx
  obtain⟨id,px,rfl⟩:=dS hx
  have ji:=xp W ok R' hi
  exact sH (target:=.Name id px) (ifs:=ifs) (gs:=[]) ok cs (ji.2 _) ji.1 S hw (DM hh R hx hc hp) fin
 |none =>
  replace h:=ho▸h
  obtain⟨⟨g1,g2⟩,ht,h2⟩:=aw h
  obtain rfl:=jb ht
  obtain⟨t,it,ifs,a⟩:=g1
  obtain⟨t2,it2,ifs2,a2⟩:=g2
  have c:=aX h2
  obtain rfl:a=0:=Kn (ak (ak (ak c)))
  obtain rfl:a2=0:=Kn (aK (ak (ak c)))
  obtain rfl:ifs=[]:=eL (aK (ak c))
  obtain rfl:ifs2=[]:=eL (aK c)
  obtain⟨x,hx,h3⟩:=aw (aO h2)
  obtain⟨y,hy,h4⟩:=aw h3
  obtain⟨pit,pit2,pelt,hi,hi2,hp,rfl⟩:=fV h4
  have hx:=mx hx
  have hy:=mx hy
  obtain⟨id,px,rfl⟩:=dS hx
  obtain⟨id2,px2,rfl⟩:=dS hy
  have hw':wE pit X.c σ (fun v σ=>X.c.hc=none∧iA false v∧aG (iB false σ.H v) fun vs=>dg v vs (fR pit2 pelt x y X.c) vs [] σ fun ws τ=>fresh τ (.list ws) Q) E:=by
   have:(fun(v:V) (σ:St)=>X.c.hc=none∧iA false v∧aG (iB false σ.H v) fun vs=>dg v vs (fR pit2 pelt x y X.c) vs [] σ fun ws τ=>fresh τ (.list ws) Q)=fun v σ=>X.c.hc=none∧aG (bP σ.H v) fun vs=>dg v vs (fR pit2 pelt x y X.c) vs [] σ fun ws τ=>fresh τ (.list ws) Q :=
    funext fun v=>funext fun σ=>congrArg (X.c.hc=none∧·) (propext ⟨And.right,fun h=>⟨trivial,h⟩⟩)
   refine ab this ?_
   exact hw
  exact sH (target:=.Name id px) (ifs:=[]) (gs:=[⟨.Name id2 px2,it2,[],0⟩]) ok cs (fun x=>set_plain _ x (R' _ _ hi).good) (pG (R' _ _ hi).je) S hw' (DL hh R hx hy hi2 hp) fin
theorem vz(W:wd.OK)(ok:X.OK wd)(hh:X.Has wd){r:cA}(R:mG wd r){elt:Expr}{gens:List Comprehension}{sc:Scope}{pos:Pos}{pe:PE}(h:qw r X.z elt gens sc=some pe):JE wd X (.ListComp elt gens sc pos) pe:=by
 intro B m σ s Q E S hw
 rw[eval_ListComp]
 exact xh W ok hh R h S hw fun C D s' z=>vT z
end
end
section
section
variable {wd:Wd} {X:Ctx} {B:Heap} {m:Str→Option Value} {σ:St} {s:Shared} {F:List Addr}
noncomputable def PE.byVal:PE→Bool
 |.not _|.and _|.or _|.ite ..|.cmp ..|.cmp2 ..=>false
 |_=>true
theorem DI{pe:PE}{W:(V→St→Prop)→Prop}{c:Cx}{σ:St}{Q:Bool→St→Prop}{E:Nat→St→Prop}:pe.byVal=true→wT pe W c σ Q E→W (fun v σ=>aG (gG σ.H v) fun b=>Q b σ):=by
 apply @PE.casesOn (fun pe=>pe.byVal=true→wT pe W c σ Q E→W (fun v σ=>aG (gG σ.H v) fun b=>Q b σ)) pe<;>intros<;>first|assumption|exact fT ‹_›
theorem fQ{e:Expr}{pe:PE}(hg:cG e=true)(he:isTrue e X.env (eval e X.env)=(do let v←eval e X.env;standAt e.pos;holding [v] (truthy v)))(hp:pe.byVal=true)(j:JE wd X e pe):EOK wd X e pe :=
 ⟨hg,j,zL he (fun W σ Q E=>DI hp) j⟩
theorem Dn(W:wd.OK)(ok:X.OK wd){id:Str}{p pos:Pos}{e:Expr}{pe pe':PE}(h:FB id pe=some pe')(hk:X.z.kind id=some .globalImplicit)(hg:X.z.gk id=none)(ih:EOK wd X e pe):pe'.byVal=true∧JE wd X (.Call (.Name id p) [e] [] pos) pe':=by
 cases eu h with
 |t c e=>obtain rfl:=Ki c;obtain rfl:=oInj e;exact⟨rfl,GU W ok hk hg ih⟩
 |f _ h =>
  cases eu h with
  |t c e=>obtain rfl:=Ki c;obtain rfl:=oInj e;exact⟨rfl,G6 W ok hk hg ih⟩
  |f _ h =>
   cases eu h with
   |t c e=>obtain rfl:=Ki c;obtain rfl:=oInj e;exact⟨rfl,CG W ok hk hg ih⟩
   |f _ h=>obtain rfl:=Ki (aX h);obtain rfl:=oInj (aO h);exact⟨rfl,CK W ok hk hg ih⟩
noncomputable abbrev nX(wd:Wd)(X:Ctx)(f:Expr)(as:List Expr)(pos:Pos)(pe:PE):Prop:=pe.byVal=true∧JE wd X (.Call f as [] pos) pe
theorem Do(W:wd.OK)(ok:X.OK wd){r:cA}(R:RX wd X r){id:Str}{p pos:Pos}{as:List Expr}{pe:PE}(h:Fz r X.z id as=some pe)(hk:X.z.kind id=some .globalImplicit)(hg:X.z.gk id=none):nX wd X (.Name id p) as pos pe:=by
 cases eu h with
 |t c h =>
  obtain rfl:=Ki c
  obtain⟨q,h1,h2⟩:=aw h
  obtain⟨a,b,ha,hb,rfl⟩:=dt h2
  exact jb h1▸⟨rfl,GR W ok hk hg (R _ _ ha) (R _ _ hb)⟩
 |f _ h =>
  obtain⟨a,h1,h2⟩:=aw h
  obtain⟨pa,ha,h3⟩:=aw h2
  exact dG h1▸Dn W ok h3 hk hg (R _ _ ha)
theorem CV(W:wd.OK)(ok:X.OK wd)(hh:X.Has wd){r:cA}(R:RX wd X r){id:Str}{p pos:Pos}{as:List Expr}{pe:PE}(h:zZ r X.z id as=some pe)(hk:X.z.kind id=some .globalImplicit):nX wd X (.Name id p) as pos pe:=by
 unfold zZ at h
 cases hg:X.z.gk id with
 |none=>replace h:=hg▸h;exact Do W ok R h hk hg
 |some k =>
  replace h:=hg▸h
  cases k with
  |const _=>exact nS h
  |fn f=>obtain⟨l,h1,h2,rfl⟩:=kM h;exact⟨rfl,CN W ok hh R hk hg h1⟩
  |cls k=>obtain⟨l,h1,h2,rfl⟩:=kM h;exact⟨rfl,GP W ok hh R hk hg h1⟩
theorem tP(ok:X.OK wd)(hh:X.Has wd){r:cA}(R:RX wd X r){f:Expr}{pos:Pos}{as:List Expr}{pe:PE}(h:yx r X.z f as=some pe)
  (he:∀{M:Model} {A:Around} {Q E:Value→Shared→Prop} {s:Shared},wpAny M A (eval f X.env) (fun fv s1=>wpAny M A (callWith pos fv [] (backTo pos (starEach as X.env)) []) Q E s1) E s→wpAny M A (eval (.Call f as [] pos) X.env) Q E s):nX wd X f as pos pe:=by
 obtain⟨pf,hf,h1⟩:=aw h
 obtain⟨l,h2,h3,rfl⟩:=kM h1
 exact⟨rfl,CM ok hh R (R _ _ hf).je h2 he⟩
theorem Aw(W:wd.OK)(ok:X.OK wd)(hh:X.Has wd){r:cA}(R:RX wd X r){f:Expr}{as:List Expr}{pos:Pos}{pe:PE}:qy r X.z f as pos=some pe→nX wd X f as pos pe:=by
 apply @Expr.casesOn (fun f=>qy r X.z f as pos=some pe→nX wd X f as pos pe) f
 case Name =>
  intro id p h
  cases eu (show gW _ _ _=_ from h)with
  |t c h=>exact CV W ok hh R h (ny c)
  |f c h=>exact tP ok hh R h fun h=>wpAny_Call_NameR h
 case Subscript=>intro e i p h;exact tP ok hh R h fun h=>xY h
 case Attribute =>
  intro o a apos h
  replace h:bu _ _=some pe:=h
  have c:=aX h
  obtain⟨l,h1,h2⟩:=aw (aO h)
  obtain⟨po,mm,ho,hm,rfl⟩:=dt (aO h2)
  exact⟨rfl,CJ W ok hh R (gH (ak c)) (aK c) (Kn (aX h2)) hm h1 (R _ _ ho).je⟩
 all_goals (intros;exact nS ‹_›)
theorem Dd(ok:X.OK wd){k:Nat}{pos:Pos}{pe:PE}{c:Const}:Al X.z c=some pe→EOK wd X (.Constant c k pos) pe:=by
 apply @Const.casesOn (fun c=>Al X.z c=some pe→EOK wd X (.Constant c k pos) pe) c
 case none=>intro h;obtain rfl:=oInj h;exact fQ rfl rfl rfl EW
 case bool=>intro b h;obtain rfl:=oInj h;exact fQ rfl rfl rfl E3
 case int=>intro b h;obtain rfl:=oInj h;exact fQ rfl rfl rfl GX
 case str=>intro x h;obtain⟨i,hi,rfl⟩:=bX h;exact fQ rfl rfl rfl (GM ok hi)
 all_goals (intros;exact nS ‹_›)
theorem zr(W:wd.OK)(ok:X.OK wd){id:Str}{pos:Pos}{pe:PE}(h:AW X.z id=some pe):EOK wd X (.Name id pos) pe:=by
 cases eu h with
 |t c h=>obtain⟨i,hi,rfl⟩:=bX h;exact fQ rfl rfl rfl (GT W ok (xu c) hi)
 |f _ h =>
  cases eu h with
  |t c h=>obtain⟨i,hi,rfl⟩:=bX h;exact fQ rfl rfl rfl (GZ W ok (xv c) hi)
  |f _ h =>
   have c:=ny (aX h)
   obtain⟨k,hk,h⟩:=aw (aO h)
   cases k with
   |const g=>obtain rfl:=oInj h;exact fQ rfl rfl rfl (EX W ok c hk)
   |fn f=>obtain rfl:=oInj h;exact fQ rfl rfl rfl (EY W ok c hk)
   |cls _=>exact nS h
theorem BU(W:wd.OK)(ok:X.OK wd){r:cA}(R:RX wd X r){e i:Expr}{pos:Pos}{pe:PE}(h:yI r X.z e i=some pe):EOK wd X (.Subscript e i pos) pe:=by
 unfold yI at h
 cases hs:mR i with
 |some t =>
  replace h:=hs▸h
  obtain⟨lo,hi,st⟩:=t
  obtain⟨p,rfl⟩:=yO hs
  have c:=aX h
  obtain⟨a,b,d,ha,hb,hd,rfl⟩:=fV (aO h)
  obtain rfl:st=none:=jT c
  exact fQ rfl rfl rfl (GN R hb hd (R _ _ ha).je)
 |none =>
  replace h:=hs▸h
  obtain⟨a,b,ha,hb,rfl⟩:=dt h
  exact fQ rfl rfl rfl (GJ (congrArg Option.isNone hs) (R _ _ ha).je (R _ _ hb).je)
theorem Dh(ok:X.OK wd){r:cA}(R:RX wd X r){l:Expr}{ops:List CmpOp}{cs:List Expr}{pos:Pos}{pe:PE}(h:Ap r X.z l ops cs=some pe):EOK wd X (.Compare l ops cs pos) pe:=by
 unfold Ap at h
 cases ho:one ops with
 |some o =>
  replace h:=ho▸h
  obtain⟨c,hc,h2⟩:=aw h
  obtain⟨o',a,b,h3,ha,hb,rfl⟩:=fV h2
  obtain rfl:=dG ho
  obtain rfl:=dG hc
  have kb:=R _ _ hb
  exact⟨rfl,GY ok h3 kb.good (R _ _ ha).je kb.je,EO ok h3 kb.good (R _ _ ha).je kb.je⟩
 |none =>
  replace h:=ho▸h
  obtain⟨o,h1,h2⟩:=aw h
  obtain⟨c,h3,h4⟩:=aw h2
  obtain⟨o1,h5,h6⟩:=aw h4
  obtain⟨o2,h7,h8⟩:=aw h6
  obtain⟨a,b,d,ha,hb,hd,rfl⟩:=fV h8
  obtain rfl:=jb h1
  obtain rfl:=jb h3
  have kd:=R _ _ hd
  exact⟨rfl,E0 ok h5 h7 kd.good (R _ _ ha).je (R _ _ hb).je kd.je,Cy ok h5 h7 kd.good (R _ _ ha).je (R _ _ hb).je kd.je⟩
theorem Ay{r:cA}(R:RX wd X r){op:BoolOp}{es:List Expr}{pos:Pos}{pe:PE}(h:Bk op (cD r es X.z)=some pe):EOK wd X (.BoolOp op es pos) pe:=by
 obtain⟨l,h1,h2⟩:=aw h
 obtain rfl:=oInj (aO h2)
 have je:=zO R (op:=op) (pos:=pos) h1
 have jt:=EP R (op:=op) h1
 cases op with
 |And=>exact⟨rfl,je,jt⟩
 |Or=>exact⟨rfl,je,jt⟩
theorem BV(W:wd.OK){r:cA}(R:mG wd r)(ok:X.OK wd)(hh:X.Has wd){e:Expr}{pe:PE}:qu r X.z e=some pe→EOK wd X e pe:=by
 have R':=R X ok hh
 apply @Expr.casesOn (fun e=>qu r X.z e=some pe→EOK wd X e pe) e
 case BoolOp=>exact fun zz zz zz h=>Ay R' h
 case BinOp =>
  intro l op r' pos h
  obtain⟨o,a,b,ho,ha,hb,rfl⟩:=fV h
  exact fQ rfl rfl rfl (G5 ho (R' _ _ ha).je (R' _ _ hb).je)
 case UnaryOp =>
  intro op e pos h
  cases op with
  |USub=>obtain⟨a,ha,rfl⟩:=bX h;exact fQ rfl rfl rfl (GQ (R' _ _ ha).je)
  |Not=>obtain⟨a,ha,rfl⟩:=bX h;exact⟨rfl,GO (R' _ _ ha).je,EM (R' _ _ ha).jt⟩
  |_=>exact nS h
 case Lambda =>
  intro args body scope pos h
  obtain⟨p,hp,rfl⟩:=bX (aO h)
  exact fQ rfl rfl rfl (GV W ok (aX h))
 case IfExp =>
  intro t a b pos h
  obtain⟨pt,pa,pb,ht,ha,hb,rfl⟩:=fV h
  exact⟨rfl,GW (R' _ _ ht).jt (R' _ _ ha).je (R' _ _ hb).je,EN (R' _ _ ht).jt (R' _ _ ha).jt (R' _ _ hb).jt⟩
 case Dict =>
  intro ks vs pos h
  obtain⟨k,hk,h2⟩:=aw h
  obtain⟨v,hv,h3⟩:=aw h2
  have c:=aX h3
  obtain rfl:=oInj (aO h3)
  exact fQ rfl rfl rfl (EZ ok R' hk hv (Kn (ak c)) (Kn (aK c)))
 case ListComp =>
  intro elt gens sc pos h
  have hv:pe.byVal=true:=by
   have h:=aO h
   cases ho:one gens with
   |some g =>
    replace h:=ho▸h
    obtain⟨_,_,h2⟩:=aw (aO h)
    obtain⟨_,_,h3⟩:=aw h2
    obtain⟨_,_,_,_,rfl⟩:=dt h3
    rfl
   |none =>
    replace h:=ho▸h
    obtain⟨_,_,h2⟩:=aw h
    obtain⟨_,_,h3⟩:=aw (aO h2)
    obtain⟨_,_,h4⟩:=aw h3
    obtain⟨_,_,_,_,_,_,rfl⟩:=fV h4
    rfl
  exact fQ rfl rfl hv (vz W ok hh R h)
 case Compare=>exact fun zz zz zz zz h=>Dh ok R' h
 case Call =>
  intro f as ks pos h
  have h2:qy r X.z f as pos=some pe:=aO h
  obtain rfl:=eL (aX h)
  obtain⟨hv,j⟩:=Aw W ok hh R' h2
  exact fQ rfl rfl hv j
 case Constant=>exact fun zz zz zz h=>Dd ok h
 case Attribute =>
  intro e a pos h
  obtain⟨pe,x,h1,h2,rfl⟩:=dt (aO h)
  exact fQ rfl rfl rfl (E4 W ok h2 (gH (aX h)) (R' _ _ h1).je)
 case Subscript=>exact fun zz zz zz h=>BU W ok R' h
 case Name=>exact fun zz zz h=>zr W ok h
 case List=>intro es pos h;obtain⟨l,h1,h2,rfl⟩:=kM h;exact fQ rfl rfl rfl (GS R' h1 h2)
 case Tuple=>intro es k pos h;obtain⟨l,h1,h2,rfl⟩:=kM h;exact fQ rfl rfl rfl (GI R' h1 h2)
 all_goals (intros;exact nS ‹_›)
theorem vN(W:wd.OK):∀n:Nat,mG wd (eN n)
 |0=>fun zz zz zz zz zz h=>nS h
 |n+1=>fun zz ok hh zz zz h=>BV W (vN W n) ok hh (aO h)
theorem C3{n:Nat}{e:Expr}{z:SC}{pe:PE}(h:eN (n+1) e z=some pe):qu (eN n) z e=some pe:=aO h
theorem wq{elt:Expr}{gens:List Comprehension}{sc:Scope}{pos:Pos}{z:SC}{pe:PE}(h:dR (.ListComp elt gens sc pos) z=some pe):qw (eN 39) z elt gens sc=some pe:=C3 (n:=39) (e:=.ListComp elt gens sc pos) h
theorem cM(W:wd.OK):mG wd dR:=vN W 40
end
end
section
inductive ExcW(wd:Wd)(kd:Addr→Kd)(h:Heap)(fl:Value)(k:Nat)(e:Value):Prop
 |mk (a:Addr) (oe:Obj) (C:Addr) (vs:Array Value) (T:Addr) (oT:Obj) (ts:Array Value):e=.ref a→kd a=.exc→h.get? a=some oe→wd.clsA k=some C→oe.cls=.ref C→oe.data=.fields vs →
  vs[1]?=some (.ref T)→T≠a→kd T=.exc→h.get? T=some oT→oT.cls≠.type "code" → oT.data=.fields ts→ts[3]?=some fl→ExcW wd kd h fl k e
inductive GlW(wd:Wd)(B:Heap)(outs:List (Addr×(Str→Option Value)))(H:Hp)(fl:Value)(k:Nat)(e:Value)(h:Heap):Prop|mk (kd:Addr→Kd) (D:Addr→Addr):GL wd kd D B outs H h→ExcW wd kd h fl k e→GlW wd B outs H fl k e h
structure XW(wd:Wd)(X:Ctx)(B:Heap)(m:Str→Option Value)(σ:St)(fl:Value)(k:Nat)(e:Value)(s:Shared):Prop where
 gl:GlW wd B ((X.env.locals,m)::X.outs) σ.H fl k e s.heap
 lr:LR wd s.heap σ.L m
 gens:s.gens=#[]
 os:s.os=wd.os0
structure Ctx.St(X:Ctx):Prop where
 top:∃outer,X.envs=X.env::outer
 frame:X.env.frame=some X.env.locals
section
variable {wd:Wd} {X:Ctx} {B:Heap} {m:Str→Option Value} {σ:St} {s:Shared}
theorem ExcW.at{kd:Addr→Kd}{h:Heap}{k:Nat}{e:Value}{f:Option Addr}{fl:Value}(x:ExcW wd kd h fl k e)(hf:FlAt f (some fl)):ExcAt wd kd h f k e:=by
 obtain⟨a,oe,C,vs,T,oT,ts,h1,h2,h3,h4,h5,h6,h7,h8,h9,h10,h11,h12,h13⟩:=x
 exact⟨a,oe,C,vs,h1,h2,h3,h4,h5,h6,.some T oT ts h7 h8 h9 h10 h11 h12 (h13▸hf)⟩
theorem XW.xs{fl:Value}{k:Nat}{e:Value}(x:XW wd X B m σ fl k e s)(hf:FlAt X.env.frame (some fl)):XS wd X B m σ k e s :=
 ⟨let ⟨kd,D,g,ex⟩:=x.gl;⟨kd,D,g,ex.at hf⟩,x.lr,x.gens,x.os⟩
theorem sv{L:Addr}{f:Option Addr}(h:f=some L):FlAt f (some (rawInt L)):=.some L h rfl
theorem CY{f:Option Addr}:FlAt f (some .none):=.none rfl
theorem GL.setExc{kd:Addr→Kd}{D:Addr→Addr}{h h':Heap}{outs:List (Addr×(Str→Option Value))}{H:Hp}(x:GL wd kd D B outs H h){p:Addr}(hp:kd p=.exc)(hs:Heap.ExtBut p h h')(hn:∃o,h'.get? p=some o∧¬ dO o):GL wd kd D B outs H h' :=
 x.at (fun z=>lH (hp.symm.trans z)) hs hn (fun a o e=>.inl ⟨e,dA (x.own a o e).1 hp AR,fun z=>nomatch hp.symm.trans z⟩)
  (fun q hq=>.inl ⟨hq,dA (x.outs q hq).1 hp zf⟩) (fun z=>nomatch hp.symm.trans z)
theorem GL.slots{kd:Addr→Kd}{D:Addr→Addr}{h h':Heap}{outs:List (Addr×(Str→Option Value))}{H:Hp}(x:GL wd kd D B outs H h){q0}(hL:q0∈outs)(hs:Heap.ExtBut q0.1 h h'){o o':Obj}(e:h.get? q0.1=some o)(e':h'.get? q0.1=some o')(hd:o'.data=o.data):GL wd kd D B outs H h':=by
 have hk:=(x.outs q0 hL).1
 have same:∀{m:Str→Option Value},h.Ns q0.1 m→h'.Ns q0.1 m∧¬ dO o':=fun n=>by
  obtain⟨o1,es,ep,e1,d1,r1⟩:=n
  obtain rfl:=oInj (e.symm.trans e1)
  exact⟨⟨o',es,ep,e',hd.trans d1,r1⟩,df (hd.trans d1)⟩
 refine x.at (fun z=>gV (hk.symm.trans z)) hs ⟨o',e',(same (x.outs q0 hL).2).2⟩ (fun a o e=>.inl ⟨e,dA (x.own a o e).1 hk nofun,fun z=>nomatch hk.symm.trans z⟩) (fun q hq=>?_) (fun z=>nomatch hk.symm.trans z)
 by_cases z:q.1=q0.1
 ·exact .inr ⟨(x.outs q hq).1,z▸(same (z▸(x.outs q hq).2)).1⟩
 ·exact .inl ⟨hq,z⟩
theorem ym{M:Model}{A:Around}{E:Value→Shared→Prop}{kd:Addr→Kd}{D:Addr→Addr}{outs:List (Addr×(Str→Option Value))}{H:Hp}:∀{l:List Env} {s:Shared} {Q:Unit→Shared→Prop},we l (outs.map (·.1))→GL wd kd D B outs H s.heap →
  (∀h',GL wd kd D B outs H h'→Keep s.heap h'→(∀b,kd b≠.ns→h'.get? b=s.heap.get? b)→Q () { s with heap:=h' })→wpAny M A (readyFrames l) Q E s:=by
 intro l
 induction l with
 |nil =>
  intro s Q _ g k
  simp only[readyFrames]
  exact Ke (k _ g (Keep.refl _) fun zz zz=>rfl)
 |cons env outer ih =>
  intro s Q hl g k
  obtain⟨hk,L,hf,hL⟩:=hl env (.head _)
  obtain⟨q0,hq0,rfl⟩:=K0.mp hL
  have hkd:=(g.outs q0 hq0).1
  obtain⟨o,es,ep,ho,hd,_⟩:=(g.outs q0 hq0).2
  simp only[readyFrames,hf]
  refine Kc (wpAny_load ho ?_)
  by_cases hrd:((o.slots.getD 3 none).isSome)=true
  ·refine ab (Kh hrd) ?_
   exact Ke (k _ g (Keep.refl _) fun zz zz=>rfl)
  ·refine ab (Kg hrd) ?_
   refine Kc (wpAny_of_eq (a:=false) (by simp[behindIsImport,hk]) ?_)
   refine Kc (wpAny_keptBack_false fun back=>?_)
   refine Kc (wpAny_update ho ?_)
   have hu:=Heap.SlotsOnly.update ho fun o=>#[some env.code,some (.ref env.globals),o.slots.getD 2 none,some back,o.slots.getD 4 none,env.func.map Value.ref,some (.ref env.builtins)]
    ++ (env.cells.map fun c=>some (.ref c.2)).toArray
   obtain⟨sl,e'⟩:=hu.2.2 _ _ ho
   have hext:Heap.ExtBut q0.1 s.heap _:=fun b o n e=>(hu.2.1 b (by simpa using n)).trans e
   have g':=g.slots hq0 hext ho e' rfl
   have kp:=g.keepBut (p:=q0.1) (fun z=>gV (hkd.symm.trans z)) hext
   exact ih (fun e he=>hl e (.tail _ he)) g' fun h' g'' k'' same=>k h' g'' (kp.trans k'') fun b hb=>(same b hb).trans (hu.2.1 b (by
    simp only[List.mem_singleton]
    exact fun z=>hb (z▸hkd)))
inductive SetF(wd:Wd)(kd:Addr→Kd)(D:Addr→Addr)(B:Heap)(outs:List (Addr×(Str→Option Value)))(H:Hp)(h:Heap)(p:Addr)(o:Obj)(vs:Array Value)(i:Nat)(v:Value)(h':Heap):Prop
 |mk (o':Obj):GL wd kd D B outs H h'→h'.get? p=some o'→o'.cls=o.cls→o'.data=.fields (vs.setIfInBounds i v)→Heap.ExtBut p h h'→Keep h h'→SetF wd kd D B outs H h p o vs i v h'
theorem GL.setF{kd:Addr→Kd}{D:Addr→Addr}{h:Heap}{outs:List (Addr×(Str→Option Value))}{H:Hp}(x:GL wd kd D B outs H h){p:Addr}{o:Obj}{vs:Array Value}(hp:kd p=.exc)(e:h.get? p=some o)(hc:o.cls≠.type "code")(d:o.data=.fields vs)(i:Nat)(v:Value) :
  SetF wd kd D B outs H h p o vs i v (h.update p (Obj.mapFields (·.setIfInBounds i v))):=by
 have d3:=Obj.data_mapFields d (·.setIfInBounds i v)
 have hs:=(Heap.SameBut.update h p (Obj.mapFields (·.setIfInBounds i v))).extBut
 have e3:=Heap.get?_update_self (Obj.mapFields (·.setIfInBounds i v)) e (Obj.isFreed_of_fields d3)
 have c3:=Obj.cls_mapFields (o:=o) (f:=(·.setIfInBounds i v))
 exact⟨_,x.setExc hp hs ⟨_,e3,cF (c3▸hc) d3⟩,e3,c3,d3,hs,x.keepBut (fun z=>lH (hp.symm.trans z)) hs⟩
theorem re{C:Addr}{o:Obj}{T:String}(h:o.cls=.ref C):o.cls≠.type T:=fun z=>nomatch h.symm.trans z
theorem qZ(T:Addr):(Value.ref T != Value.none)=true:=rfl
theorem zg(L:Nat):¬ (Value.none==rawInt L)=true:=fun z=>fT z
theorem B4(L:Nat):(rawInt L==rawInt L)=true:=Kq _
theorem qB(ok:X.OK wd)(st:X.St){E:Value→Shared→Prop}{kd:Addr→Kd}{D:Addr→Addr}{k:Nat}{a C:Addr}{oe:Obj}{vs:Array Value}{head:Value}{hadNext:Bool}{s:Shared}(g:GL wd kd D B ((X.env.locals,m)::X.outs) σ.H s.heap)(lr:LR wd s.heap σ.L m)(hg:s.gens=#[])(hos:s.os=wd.os0)
  (hk:kd a=.exc) (he:s.heap.get? a=some oe) (hC:wd.clsA k=some C) (hcls:oe.cls=.ref C) (hd:oe.data=.fields vs) (hsz:1<vs.size) {Q:Unit→Shared→Prop}
  (h:∀s',XW wd X B m σ (rawInt X.env.locals) k (.ref a) s'→Keep s.heap s'.heap→Q () s') :
  wpAny (model wd.prog wd.w) X.A (do let fr←PySem.frameOf X.env;let pl←entryPlaceOf X.env.locals hadNext;let b←EntryCells.newEntry head fr .none (rawInt X.env.locals) .none pl;setField (.ref a) 1 b) Q E s:=by
 obtain⟨outer,ht⟩:=st.top
 have hfr:we X.envs (((X.env.locals,m)::X.outs).map (·.1)):=ou ok
 have hfs:=ok.frames
 rw[ht]at hfr hfs
 unfold PySem.frameOf
 refine Kc (Kc (wpAny_frameEnvs hfs ?_))
 have hdw:((X.env::outer).dropWhile fun x=>x.frame != X.env.frame)=X.env::outer:=by simp[List.dropWhile]
 refine ab hdw ?_
 unfold frameObject
 refine Kc (Kc (ym hfr g fun h₁ g₁ k₁ same=>Ke ?_))
 refine ab st.frame ?_
 refine Ke (Kc (wpAny_entryPlaceOf fun pl hpl=>?_))
 unfold EntryCells.newEntry newFields
 refine Kc (wpAny_newObj_type ?_ (hpl.sizeOk5 _ _ _ _ _))
 have he₁:h₁.get? a=some oe:=(same a fun z=>nomatch hk.symm.trans z).trans he
 clear ht hfr hfs hdw same he g
 generalize hts:([head,.ref X.env.locals,.none,rawInt X.env.locals,.none]++(if pl.isEmpty then List.replicate 6 Value.none else pl)).toArray=ts
 have h3:ts[3]?=some (rawInt X.env.locals):=by subst hts;rfl
 clear hts
 have hT:(h₁.push { cls:=.type "traceback",dict:=none,data:=.fields ts }).get? h₁.objs.size=some { cls:=.type "traceback",dict:=none,data:=.fields ts }:=Ky _ rfl
 have hTe:h₁.objs.size≠a:=Ld (Heap.lt_size he₁)
 have hcT:({ cls:=.type "traceback",dict:=none,data:=.fields ts }:Obj).cls≠.type "code" := fun z=>absurd (Value.type.inj z) (by decide)
 have g₂:=g₁.newKd (Sub.push h₁ { cls:=.type "traceback",dict:=none,data:=.fields ts }) (a:=h₁.objs.size) (c:=.exc) nofun (g₁.fresh (aR _)) (g₁.Bnone (aR _)) ⟨_,hT,cF hcT rfl⟩
 have he₂:=Ku (h:=h₁) { cls:=.type "traceback",dict:=none,data:=.fields ts } he₁
 have kp:=k₁.trans (Sub.push h₁ { cls:=.type "traceback",dict:=none,data:=.fields ts }).keep
 dsimp only
 generalize h₁.push { cls:=.type "traceback",dict:=none,data:=.fields ts }=h₂ at hT g₂ he₂ kp ⊢
 generalize h₁.objs.size=T at hT hTe g₂ ⊢
 refine wpAny_setField he₂ hd hsz ?_
 have hka:(if a=T then Kd.exc else kd a)=.exc:=(Kg (Ne.symm hTe)).trans hk
 obtain⟨o',g₃,e₃,c₃,d₃,hs₃,k₃⟩:=g₂.setF hka he₂ (re hcls) hd 1 (.ref T)
 have kp:=kp.trans k₃
 exact h _ ⟨⟨_,D,g₃,a,o',C,_,T,_,ts,rfl,hka,e₃,hC,c₃.trans hcls,d₃,Array.getElem?_setIfInBounds_self_of_lt hsz,hTe,Kh rfl,hs₃ _ _ hTe hT,hcT,rfl,h3⟩,lr.keeps kp,hg,hos⟩ kp
theorem n4(ok:X.OK wd)(st:X.St){k:Nat}{e:Value}(S:XS wd X B m σ k e s){E:Value→Shared→Prop}{Q:Unit→Shared→Prop}
  (h:∀s',XW wd X B m σ (rawInt X.env.locals) k e s'→Keep s.heap s'.heap→Q () s'):wpAny (model wd.prog wd.w) X.A (noteFrame e X.env) Q E s:=by
 obtain⟨⟨kd,D,g,a,oe,C,vs,rfl,hk,he,hC,hcls,hd,hT⟩,lr,hg,hos⟩:=S
 unfold noteFrame
 refine ab st.frame ?_
 dsimp only
 cases hT with
 |none h1 =>
  refine Kc (wpAny_field he hd h1 ?_)
  refine ab (Kg (by decide)) ?_
  exact qB ok st g lr hg hos hk he hC hcls hd (Array.getElem?_eq_some_iff.mp h1).1 h
 |some T oT ts h1 hTa hkT hT hcT hdT h3 =>
  refine Kc (wpAny_field he hd h1 ?_)
  refine ab (Kh (qZ T)) ?_
  generalize h3x:ts[3]?=x3 at h3
  cases h3 with
  |none h3 =>
   subst h3
   refine Kc (wpAny_field hT hdT h3x ?_)
   refine ab (Kg (zg _)) ?_
   refine Kc (wpAny_setField hT hdT (Array.getElem?_eq_some_iff.mp h3x).1 ?_)
   obtain⟨o',g3,e3,c3,d3,hs3,k3⟩:=g.setF hkT hT hcT hdT 3 .none
   exact qB (s:={ s with heap:=_ }) ok st g3 (lr.keeps k3) hg hos hk (hs3 _ _ (Ne.symm hTa) he) hC hcls hd (Array.getElem?_eq_some_iff.mp h1).1 fun s' x k'=>h s' x (k3.trans k')
  |some f hf h3 =>
   obtain rfl:=oInj (st.frame.symm.trans hf)
   subst h3
   refine Kc (wpAny_field hT hdT h3x ?_)
   refine ab (Kh (B4 _)) ?_
   exact Ke (h _ ⟨⟨kd,D,g,a,oe,C,vs,T,oT,ts,rfl,hk,he,hC,hcls,hd,h1,hTa,hkT,hT,hcT,hdT,h3x⟩,lr,hg,hos⟩ (Keep.refl _))
theorem eX{fl:Value}{k:Nat}{e:Value}(S:XW wd X B m σ fl k e s){f:Option Addr}{A:Around}{E:Value→Shared→Prop}{Q:Unit→Shared→Prop}
  (h:∀s',XW wd X B m σ (f.elim .none fun f=>rawInt f) k e s'→Keep s.heap s'.heap→Q () s'):wpAny (model wd.prog wd.w) A (setFlight e f) Q E s:=by
 obtain⟨⟨kd,D,g,a,oe,C,vs,T,oT,ts,rfl,hk,he,hC,hcls,hd,h1,hTa,hkT,hT,hcT,hdT,h3⟩,lr,hg,hos⟩:=S
 unfold setFlight
 refine Kc (wpAny_field he hd h1 ?_)
 refine ab (Kh (qZ T)) ?_
 have hsz:=(Array.getElem?_eq_some_iff.mp h3).1
 refine wpAny_setField hT hdT hsz ?_
 generalize f.elim Value.none (fun f=>rawInt f)=v at h ⊢
 obtain⟨o',g3,e3,c3,d3,hs3,k3⟩:=g.setF hkT hT hcT hdT 3 v
 exact h _ ⟨⟨kd,D,g3,a,oe,C,vs,T,o',_,rfl,hk,hs3 _ _ (Ne.symm hTa) he,hC,hcls,hd,h1,hTa,hkT,e3,c3▸hcT,d3,Array.getElem?_setIfInBounds_self_of_lt hsz⟩,lr.keeps k3,hg,hos⟩ k3
theorem oq(ok:X.OK wd)(st:X.St){A:Around}{s':Shared}{E:Nat→St→Prop}{e:Value}(h:PX wd X B s E e s'):notedBy (model wd.prog wd.w) X.A X.env (fun e s''=>cameBackBy (model wd.prog wd.w) A X.env (PX wd X B s E) e s'') e s':=by
 obtain⟨k,σ',m',x,kp,q⟩:=h
 refine n4 ok st x fun s1 x1 k1=>?_
 unfold cameBackBy
 obtain⟨kd,D,g,a,oe,C,vs,T,oT,ts,rfl,hk,he,hC,hcls,hd,h1,r⟩:=id x1.gl
 refine Kc (wpAny_field he hd h1 ?_)
 refine ab (Kg (fun z=>fT z:¬ (Value.ref T==Value.none)=true)) ?_
 refine eX x1 fun s2 x2 k2=>?_
 rw[st.frame]at x2
 exact⟨k,σ',m',x2.xs (sv st.frame),kp.trans (k1.trans k2),q⟩
end
end
section
inductive FR(wd:Wd)(h:Heap):Fl→Flow→Prop
 |next:FR wd h .next .next
 |cont:FR wd h .cont .cont
 |ret {v:V} {x:Value}:VR wd h v x→FR wd h (.ret v) (.ret x)
inductive HandR(wd:Wd)(X:Ctx)(B BX:Heap)(k:Nat):Prop
 |mk (a:Addr) (oe:Obj) (C:Addr) (vs:Array Value) (T:Addr) (oT:Obj) (ts:Array Value):X.A.handled=some (.ref a)→B.get? a=some oe→wd.clsA k=some C→oe.cls=.ref C→oe.data=.fields vs→vs[1]?=some (.ref T)→T≠a →
  B.get? T=some oT→oT.cls≠.type "code" → oT.data=.fields ts→3<ts.size→BX.get? a=none→BX.get? T=none→HandR wd X B BX k
structure HX(wd:Wd)(X:Ctx)(B BX:Heap):Prop where
 sub:Sub BX B
 gd:Gd wd BX
 hc:∀k,k<1000→X.c.hc=some k→HandR wd X B BX k
noncomputable def JS(wd:Wd)(X:Ctx)(t:Sem Flow)(P:St→(Fl→St→Prop)→(Nat→St→Prop)→Prop):Prop :=
 ∀B BX m σ s Q E,SS wd X B m σ s→HX wd X B BX→P σ Q E→wpAny (model wd.prog wd.w) X.A t (PV wd X B s (FR wd) Q) (PX wd X BX s E) s
section
variable {wd:Wd} {X:Ctx} {B BX:Heap} {m:Str→Option Value} {σ:St} {s:Shared}
theorem XS.weak(x:XS wd X B m σ k e s)(h:Sub BX B)(g:Gd wd BX):XS wd X BX m σ k e s:=⟨let ⟨kd,D,gl,ex⟩:=x.gl;⟨kd,D,gl.weaken h g,ex⟩,x.lr,x.gens,x.os⟩
theorem PX.weak{E:Nat→St→Prop}{e:Value}{s':Shared}(x:PX wd X B s E e s')(h:Sub BX B)(g:Gd wd BX):PX wd X BX s E e s':=by
 obtain⟨k,σ',m',x,kp,q⟩:=x
 exact⟨k,σ',m',x.weak h g,kp,q⟩
theorem SS.gdB(S:SS wd X B m σ s):Gd wd B:=let ⟨_,_,g⟩:=S.gl;g.gd
theorem eP{t:Sem Flow}{P:St→(Fl→St→Prop)→(Nat→St→Prop)→Prop}
  (h:∀B m σ s Q E,SS wd X B m σ s→P σ Q E→wpAny (model wd.prog wd.w) X.A t (PV wd X B s (FR wd) Q) (PX wd X B s E) s):JS wd X t P :=
 fun B BX m σ s Q E S hx p=>KC (h B m σ s Q E S p) (fun zz zz x=>x) fun zz zz x=>x.weak hx.sub hx.gd
theorem ic{v:Expr}(hv:dY v=false)(t:Option Expr)(l:Nat)(env:Env):cG v=true→swapsWith v t l env=pure false:=by
 revert hv
 apply @Expr.casesOn (fun v=>dY v=false→cG v=true→swapsWith v t l env=pure false) v<;>intros<;>first|rfl|exact fT ‹_›|exact tF ‹_›
theorem EV(W:wd.OK)(ok:X.OK wd)(hh:X.Has wd){id:Str}{p pos:Pos}{v:Expr}{pe:PE}{x:Nat}{cel:Bool}(hx:bL X.z (.Name id p)=some (x,cel))(hv:dR v X.z=some pe) :
  JS wd X (exec (.Assign [.Name id p] v pos) X.env) (fun σ Q E=>wE pe X.c σ (fun v σ=>dm X.c x cel v σ (Q .next)) E):=by
 refine eP fun B m σ s Q E S h=>?_
 have ej:=cM W X ok hh v pe hv
 have plain:swapsWith v (some (.Name id p)) pos.line X.env=pure false→wpAny (model wd.prog wd.w) X.A (exec (.Assign [.Name id p] v pos) X.env) (PV wd X B s (FR wd) Q) (PX wd X B s E) s:=fun hs =>
  wpAny_Assign_Name (step (Keep.refl _) (ej.je B m σ s _ E S h) fun y u σ1 m1 s1 S1 r1 k1 q1=>dP ok S1 hx r1 q1 fun m2 σ2 s2 S2 k2 q2=>bh S2 .next (k1.trans k2) q2) hs
 cases hc:dY v with
 |false=>exact plain (ic hc _ _ _ ej.good)
 |true =>
  clear ej
  revert hc hv plain
  apply @Expr.casesOn (fun v=>dR v X.z=some pe→(swapsWith v (some (.Name id p)) pos.line X.env=pure false→wpAny (model wd.prog wd.w) X.A (exec (.Assign [.Name id p] v pos) X.env) (PV wd X B s (FR wd) Q) (PX wd X B s E) s)→dY v=true→wpAny (model wd.prog wd.w) X.A (exec (.Assign [.Name id p] v pos) X.env) (PV wd X B s (FR wd) Q) (PX wd X B s E) s) v
  case ListComp =>
   intro elt gens sc cpos hv plain _
   obtain⟨b,hs⟩:∃b,swapsWith (.ListComp elt gens sc cpos) (some (.Name id p)) pos.line X.env=pure b:=⟨_,rfl⟩
   cases b with
   |false=>exact plain hs
   |true =>
    refine(?_:wpAny _ _ (standAt pos >>= fun zz=>swapsWithSole [.Name id p] (.ListComp elt gens sc cpos) pos.line X.env >>= _) _ _ s)
    refine Kc (wpAny_standAt (Kc (wpAny_of_eq (a:=true) hs ?_)))
    refine ab (Kh rfl) ?_
    refine(?_:wpAny _ _ ((comprehension (.ListComp elt gens sc cpos) sc X.env (firstIterPos gens cpos) (newList []) (firstAsync gens) (firstIter gens X.env) (some (assign (.Name id p) X.env)) >>= fun zz=>pure ()) >>= fun zz=>pure Flow.next) _ _ s)
    exact Kc (Kc (xh W ok hh (vN W 39) (wq hv) S h fun C D s' z=>xO ok hx z fun m3 σ3 s3 S3 k3 q3=>Ke (Ke (bh S3 .next k3 q3))))
  all_goals (intros;exact fT ‹_›)
theorem ER(W:wd.OK)(ok:X.OK wd)(hh:X.Has wd){e:Expr}{pos:Pos}{pe:PE}(he:dR e X.z=some pe):JS wd X (exec (.Return (some e) pos) X.env) (wS (.ret pe) X.c) :=
 eP fun B m σ s Q E S h=>wpAny_Return_some (step (Keep.refl _) ((cM W X ok hh e pe he).je B m σ s _ E S h) fun y u σ1 m1 s1 S1 r1 k1 q1=>bh S1 (.ret r1) k1 q1)
theorem CC{pos:Pos}:JS wd X (exec (.Continue pos) X.env) (wS .cont X.c):=eP fun B m σ s Q E S h=>wpAny_Continue (cY S .cont h)
theorem oG(ok:X.OK wd):interactive X.env=false:=by
 unfold interactive
 refine ab ok.kind ?_;rfl
theorem CB(W:wd.OK)(ok:X.OK wd)(hh:X.Has wd){e:Expr}{pos:Pos}{pe:PE}(he:dR e X.z=some pe)(hc:dY e=false):JS wd X (exec (.Expr e pos) X.env) (wS (.expr pe) X.c) :=
 eP fun B m σ s Q E S h=>wpAny_Expr_any (step (Keep.refl _) ((cM W X ok hh e pe he).je B m σ s _ E S h) fun y u σ1 m1 s1 S1 r1 k1 q1=>bh S1 .next k1 q1) (oG ok) (ic hc _ _ _ (cM W X ok hh e pe he).good)
theorem nO(id:Str)(p:Pos)(ts:List Expr)(env:Env):assignEach (.Name id p::ts) env=(false,assign (.Name id p) env)::assignEach ts env:=rfl
theorem wg(ok:X.OK wd){E:Value→Shared→Prop}:∀{ts:List Expr} {xs:List (Nat×Bool)} {vs:List V} {ys:List Value} {m:Str→Option Value} {σ:St} {s:Shared} {Q:St→Prop} {Φ:Unit→Shared→Prop},
  bZ (bL X.z) ts=some xs→SS wd X B m σ s→VRs wd s.heap vs ys→ig X.c xs vs σ Q →
  (∀m' σ' s',SS wd X B m' σ' s'→Keep s.heap s'.heap→Q σ'→Φ () s')→wpAny (model wd.prog wd.w) X.A (assignInOrder ((assignEach ts X.env).map (·.2)) ys) Φ E s:=by
 intro ts
 induction ts with
 |nil =>
  intro xs vs ys m σ s Q Φ hx S r h k
  obtain rfl:=cu hx
  cases vs with
  |nil =>
   obtain rfl:=KP.mp r.length.symm
   exact Ke (k _ _ _ S (Keep.refl _) h)
  |cons _ _=>exact h.elim
 |cons t ts ih =>
  intro xs vs ys m σ s Q Φ hx S r h k
  obtain⟨⟨n,cel⟩,xr,h1,h2,rfl⟩:=bF hx
  obtain⟨id,p,rfl⟩:=dS h1
  cases vs with
  |nil=>exact h.elim
  |cons v vs =>
   obtain⟨y,yr,rfl,r1,rr⟩:=r.uncons
   refine Kc (wpAny_holding (wpAny_assign_Name (dP ok S h1 r1 h fun m1 σ1 s1 S1 k1 q1=>?_)))
   exact ih h2 S1 (rr.keeps k1) q1 fun m' σ' s' S' k' q'=>k m' σ' s' S' (k1.trans k') q'
noncomputable def jc:List Nat→List V→Lc→Lc
 |x::xs,v::vs,L=>jc xs vs (upd L x v)
 |_,_,L=>L
theorem qP{c:Cx}:∀{xs:List (Nat×Bool)} {vs:List V} {σ:St} {Q:St→Prop},(∀x∈xs,x.2=false)→ig c xs vs σ Q→Q ⟨jc (xs.map (·.1)) vs σ.L,σ.H⟩:=by
 intro xs
 induction xs with
 |nil =>
  intro vs σ Q _ h
  cases vs with
  |nil=>exact h
  |cons _ _=>exact h.elim
 |cons p xs ih =>
  intro vs σ Q hx h
  obtain⟨x,b⟩:=p
  cases vs with
  |nil=>exact h.elim
  |cons v vs =>
   obtain rfl:b=false:=hx _ (.head _)
   exact ih (vs:=vs) (fun y hy=>hx y (.tail _ hy)) h
theorem uU{c:Cx}{x:Nat}{cel:Bool}{v:V}{σ:St}{Q:St→Prop}(h:dm c x cel v σ Q):∃σ',Q σ':=by
 cases cel with
 |false=>exact⟨_,h⟩
 |true =>
  obtain⟨_,_,h⟩:=nd h
  obtain⟨_,_,h⟩:=nd h
  exact⟨_,h⟩
theorem kn{c:Cx}:∀{xs:List (Nat×Bool)} {vs:List V} {σ:St} {Q:St→Prop},ig c xs vs σ Q→xs.length=vs.length:=by
 intro xs
 induction xs with
 |nil =>
  intro vs σ Q h
  cases vs with
  |nil=>rfl
  |cons _ _=>exact h.elim
 |cons x xs ih =>
  intro vs σ Q h
  cases vs with
  |nil=>exact h.elim
  |cons v vs =>
   obtain⟨_,h⟩:=uU h
   exact congrArg Nat.succ (ih h)
theorem Bz(ok:X.OK wd){E:Value→Shared→Prop}:∀{ids:List Str} {xs:List Nat} {vs:List V} {ys:List Value} {m:Str→Option Value} {σ:St} {s:Shared} {Φ:Unit→Shared→Prop},
  ids.map (fun id=>bL X.z (.Name id default))=xs.map (fun x=>some (x,false))→SS wd X B m σ s→VRs wd s.heap vs ys→xs.length=vs.length →
  (∀m' s',SS wd X B m' ⟨jc xs vs σ.L,σ.H⟩ s'→Keep s.heap s'.heap→Φ () s')→wpAny (model wd.prog wd.w) X.A (assignInOrder (ids.map fun n=>bindName X.env n) ys) Φ E s:=by
 intro ids
 induction ids with
 |nil =>
  intro xs vs ys m σ s Φ hx S r hl k
  cases xs with
  |nil =>
   obtain rfl:=KP.mp hl.symm
   obtain rfl:=KP.mp r.length.symm
   exact Ke (k _ _ S (Keep.refl _))
  |cons _ _=>injection hx
 |cons id ids ih =>
  intro xs vs ys m σ s Φ hx S r hl k
  cases xs with
  |nil=>injection hx
  |cons x xs =>
   cases vs with
   |nil=>injection hl
   |cons v vs =>
    obtain⟨h1,h2⟩:=List.cons.inj hx
    obtain⟨y,yr,rfl,r1,rr⟩:=r.uncons
    refine Kc (wpAny_holding (wpAny_bindName (dP ok S h1 r1 (Q:=fun τ=>τ=⟨upd σ.L x v,σ.H⟩) rfl fun m1 σ1 s1 S1 k1 q1=>?_)))
    subst q1
    exact ih h2 S1 (rr.keeps k1) (Nat.succ.inj hl) fun m' s' S' k'=>k m' s' S' (k1.trans k')
end
end
section
theorem iY:∀(xs:List Nat) (vs:List V) (L:Lc),jc xs vs L=(List.zipWith Prod.mk xs vs).foldl (fun L p=>upd L p.1 p.2) L
 |[],[],L=>rfl
 |[],_::_,L=>rfl
 |_::_,[],L=>rfl
 |x::xs,v::vs,L=>iY xs vs _
theorem yA{L:Lc}{a b:Nat}{u v:V}(h:a≠b):upd (upd L a u) b v=upd (upd L b v) a u:=by
 funext j
 by_cases h1:j=b
 ·exact(Kh h1).trans (((Kg (h1▸Ne.symm h)).trans (Kh h1)).symm)
 ·refine(Kg h1).trans ?_
  by_cases h2:j=a
  ·exact(Kh h2).trans (Kh h2).symm
  ·exact(Kg h2).trans ((Kg h2).trans (Kg h1)).symm
theorem kg{x:Nat}{v:V}:∀{xs:List Nat} {vs:List V},(x,v)∈List.zipWith Prod.mk xs vs→x∈xs
 |[],_,h=>absurd h Kr
 |_::_,[],h=>absurd h Kr
 |_::_,_::_,h=>(mCo h).elim (fun e=>(Prod.mk.inj e).1▸.head _) fun h=>.tail _ (kg h)
theorem yi{x:Nat}{u v:V}:∀{xs:List Nat} {vs:List V},xs.Nodup→(x,u)∈List.zipWith Prod.mk xs vs→(x,v)∈List.zipWith Prod.mk xs vs→u=v:=by
 intro xs
 induction xs with
 |nil=>intro _ _ h _;exact absurd h Kr
 |cons y xs ih =>
  intro vs hn h1 h2
  cases vs with
  |nil=>exact absurd h1 Kr
  |cons w vs =>
   have hn:=List.nodup_cons.mp hn
   rcases mCo h1 with e1|h1
   ·rcases mCo h2 with e2|h2
    ·exact(Prod.mk.inj e1).2.trans (Prod.mk.inj e2).2.symm
    ·exact absurd ((Prod.mk.inj e1).1▸kg h2) hn.1
   ·rcases mCo h2 with e2|h2
    ·exact absurd ((Prod.mk.inj e2).1▸kg h1) hn.1
    ·exact ih hn.2 h1 h2
theorem u6{xs:List Nat}{vs:List V}{L:Lc}(hn:xs.Nodup)(hl:xs.length=vs.length):jc xs.reverse vs.reverse L=jc xs vs L:=by
 rewrite[iY,iY];refine bT (List.reverse_zipWith hl) ?_
 refine List.Perm.foldl_eq' (List.reverse_perm _) (fun p hp q hq L=>?_) L
 rw[List.mem_reverse]at hp hq
 obtain⟨a,u⟩:=p
 obtain⟨b,v⟩:=q
 by_cases e:a=b
 ·subst e;refine ab (yi hn hp hq) ?_;rfl
 ·exact yA e
section
variable {wd:Wd} {X:Ctx} {B BX:Heap} {m:Str→Option Value} {σ:St} {s:Shared}
theorem w6{z:SC}{id:Str}{p p':Pos}:bL z (.Name id p)=bL z (.Name id p'):=rfl
set_option backward.match.sparseCases true in
noncomputable def uR(env:Env)(line:Nat):Expr→Option Str
 |.Name id pos=>if env.kindOf id==some .local&&pos.line==line then some id else none
 |_=>none
inductive SwapR(ts:List Expr)(env:Env)(m:Sem (Option (List Str))):Prop
 |no:m=pure none→SwapR ts env m
 |yes (ids:List Str) (line:Nat):m=pure (some ids)→ids.length=ts.length→ids=ts.filterMap (uR env line)→SwapR ts env m
theorem jk{α:Type}{P:α→Prop}{c:Prop}[Decidable c]{t e:α}(h1:c→P t)(h2:¬ c→P e):P (ite c t e):=by
 by_cases h:c
 ·refine ab (Kh h) ?_;exact h1 h
 ·refine ab (Kg h) ?_;exact h2 h
theorem pY{ts:List Expr}{k:Nat}{p:Pos}{v:Expr}{env:Env}:qi v=true→SwapR ts env (swappedStores [.Tuple ts k p] v env):=by
 apply @Expr.casesOn (fun v=>qi v=true→SwapR ts env (swappedStores [.Tuple ts k p] v env)) v
 case Tuple =>
  intro vs k' p' hv
  have hv:(vs.all (foldedForSure 8)||!vs.all (constantsAlone 8))=true:=hv
  unfold swappedStores
  refine jk (P:=SwapR ts env) (fun zz=>.no rfl) fun zz=>jk (P:=SwapR ts env) (fun zz=>.no rfl) fun zz=>?_
  refine jk (P:=SwapR ts env) (fun zz=>.no rfl) fun h3=>jk (P:=SwapR ts env) (fun zz=>.no rfl) fun h4=>jk (P:=SwapR ts env) (fun h5=>?_) fun zz=>.yes _ _ rfl ?_ rfl
  ·exact((Bool.or_eq_true _ _).mp hv).elim (fun z=>absurd z h4) fun z=>tF (h5.symm.trans (gH z))
  ·exact Classical.byContradiction fun z=>h3 ((Bool.or_eq_true _ _).mpr (.inl (bne_iff_ne.mpr z)))
 all_goals (intros;exact .no rfl)
theorem oK{α β:Type}{f:α→Option β}:∀{l:List α},(l.filterMap f).length=l.length→∀{r:List β},r=l.filterMap f→l.map f=r.map some:=by
 intro l
 induction l with
 |nil =>
  intro _ r e
  subst e;rfl
 |cons a l ih =>
  intro h r e
  subst e
  cases ha:f a with
  |none =>
   rw[List.filterMap_cons_none ha]at h
   have:=List.length_filterMap_le f l
   exact absurd (h▸this) (Nat.not_succ_le_self _)
  |some b =>
   rw[List.filterMap_cons_some ha]at h ⊢
   simp only[Lj,ha]
   refine ab (ih (by simpa using h) rfl) ?_;rfl
theorem Af{z:SC}{env:Env}:∀{ts:List Expr} {xs:List (Nat×Bool)},bZ (bL z) ts=some xs→(assignEach ts env).length=ts.length∧(assignEach ts env).findIdx? (·.1)=none:=by
 intro ts
 induction ts with
 |nil =>
  intro _ _
  exact⟨rfl,rfl⟩
 |cons t ts ih =>
  intro xs hx
  obtain⟨x,xr,h1,h2,rfl⟩:=bF hx
  obtain⟨id,p,rfl⟩:=dS h1
  obtain⟨e1,e2⟩:=ih h2
  rw[nO]
  exact⟨congrArg Nat.succ e1,by refine ab (List.findIdx?_cons) ?_;refine ab e2 ?_;rfl⟩
theorem ye(ok:X.OK wd){line:Nat}:∀{ts:List Expr} {ids:List Str} {xs:List (Nat×Bool)},bZ (bL X.z) ts=some xs→ts.map (uR X.env line)=ids.map some→(∀x∈xs,x.2=false)∧ids.map (fun id=>bL X.z (.Name id default))=(xs.map (·.1)).map (fun x=>some (x,false)):=by
 intro ts
 induction ts with
 |nil =>
  intro ids xs h1 h2
  cases ids with
  |nil =>
   obtain rfl:=cu h1
   exact⟨fun zz h=>absurd h Kr,rfl⟩
  |cons _ _=>injection h2
 |cons t ts ih =>
  intro ids xs h1 h2
  cases ids with
  |nil=>injection h2
  |cons id' ids =>
   obtain⟨⟨n,cel⟩,xr,g1,g2,rfl⟩:=bF h1
   obtain⟨id,p,rfl⟩:=dS g1
   obtain⟨h2,h3⟩:=List.cons.inj h2
   obtain⟨e1,e2⟩:=ih g2 h3
   unfold uR at h2
   dsimp only at h2
   by_cases hk:(X.env.kindOf id==some .local&&p.line==line)=true
   ·rw[Kh hk]at h2
    obtain rfl:=oInj h2
    have hl:=Ki (ak hk)
    have hcel:cel=false:=by
     cases jM g1 with
     |loc _ h _=>exact h
     |cel _ _ h=>rcases ok.cel _ (.inl h)with z|z<;>exact absurd (hl.symm.trans z) (by decide)
    subst hcel
    exact⟨KI.mpr ⟨rfl,e1⟩,congr (congrArg List.cons ((w6 (p':=p)).trans g1)) e2⟩
   ·rw[Kg hk]at h2
    exact nS h2
theorem VRs.reverse{h:Heap}{vs:List V}{xs:List Value}(r:VRs wd h vs xs):VRs wd h vs.reverse xs.reverse :=
 r.ind (P:=fun vs xs=>VRs wd h vs.reverse xs.reverse) .nil fun a zz ih=>by
  refine ab KF ?_;refine ab KF ?_
  exact ih.append (.cons a .nil)
theorem CE(W:wd.OK)(ok:X.OK wd)(hh:X.Has wd){ts:List Expr}{k:Nat}{tp pos:Pos}{v:Expr}{pe:PE}{xs:List (Nat×Bool)}(hx:bZ (bL X.z) ts=some xs)(hn:(xs.map (·.1)).Nodup)(hc:dY v=false)(ht:qi v=true)(hv:dR v X.z=some pe) :
  JS wd X (exec (.Assign [.Tuple ts k tp] v pos) X.env) (wS (.asgt xs pe) X.c):=by
 refine eP fun B m σ s Q E S h=>?_
 obtain⟨hhc,h⟩:=h
 have hhn:=ok.handled hhc
 have jv:=cM W X ok hh v pe hv
 have hlen:xs.length=ts.length:=gF hx
 have hsw:=ic hc (some (.Tuple ts k tp)) pos.line X.env jv.good
 rcases pY (ts:=ts) (k:=k) (p:=tp) (env:=X.env) ht with hs|⟨ids,line,hs,hl,hids⟩
 ·refine Assign_Tuple (step (Keep.refl _) (jv.je B m σ s _ E S h) fun y u σ1 m1 s1 S1 r1 k1 q1=>?_) hsw hs
  obtain⟨us,hu,q1⟩:=nd q1
  obtain⟨a,items,_,rfl,it,hz,r⟩:=r1.tup_ hu
  obtain⟨e1,e2⟩:=Af (env:=X.env) hx
  refine assign_Tuple_tuple hhn it (e1.trans (hlen.symm.trans ((kn q1).trans r.length))) e2 fun h' he=>?_
  have sb:Sub s1.heap h':=fun b o e=>he b o (Lb (Heap.lt_size e)) e
  exact wg ok hx (S1.grow (n:=s1.toks) sb) (r.keeps sb.keep) q1 fun m2 σ2 s2 S2 k2 q2=>bh S2 .next (k1.trans (sb.keep.trans k2)) q2
 ·refine Assign_Tuple_swapped (step (Keep.refl _) (jv.je B m σ s _ E S h) fun y u σ1 m1 s1 S1 r1 k1 q1=>?_) hsw hs
  obtain⟨us,hu,q1⟩:=nd q1
  obtain⟨a,items,_,rfl,it,hz,r⟩:=r1.tup_ hu
  obtain⟨e1,e2⟩:=ye ok hx (oK (by refine bT hids ?_;exact hl) hids)
  have h1:=kn q1
  have h1':(xs.map (·.1)).length=us.length:=(Kf ..).trans h1
  refine ab (show ids.length=items.toArray.size from hl.trans (hlen.symm.trans (h1.trans r.length))) ?_
  refine unpackItems_tuple hhn it fun h' he=>?_
  have sb:Sub s1.heap h':=fun b o e=>he b o (Lb (Heap.lt_size e)) e
  refine Bz (xs:=(xs.map (·.1)).reverse) (vs:=us.reverse) ok (by refine ab List.map_reverse ?_;refine ab List.map_reverse ?_;refine ab e2 ?_;rfl) (S1.grow (n:=s1.toks) sb) (r.keeps sb.keep).reverse ((KM ..).trans (h1'.trans (KM ..).symm)) fun m2 s2 S2 k2=>?_
  rw[u6 hn h1']at S2
  exact bh S2 .next (k1.trans (sb.keep.trans k2)) (qP e1 q1)
end
end
section
open Builtin Builtin.ObjectAttr
section
variable {wd:Wd} {X:Ctx} {B BX:Heap} {m:Str→Option Value} {σ:St} {s:Shared}
theorem zR{a b:Nat}{t:Tok}(z:a≠b):(Value.str (wd.nm a) t).isStr (wd.nm b)=false:=Km.mpr fun q=>z (wd.inj _ _ q)
theorem FsR.put{h:Heap}{name:Nat}{hs:Int}{t:Tok}{v:V}{x:Value}(rv:VR wd h v x){fs:List (Nat×V)}{es:List DictEntry}(r:FsR wd h fs es):FsR wd h (kz fs name v) (putL (wd.nm name) hs (.str (wd.nm name) t) x es) :=
 r.rec (motive:=fun fs es zz=>FsR wd h (kz fs name v) (putL (wd.nm name) hs (.str (wd.nm name) t) x es)) (.cons rv .nil) fun{b u _ _ _ _ _} a q ih=>by
  show FsR wd h (if _ then _ else _) (if _ then _ else _)
  by_cases z:b=name
  ·refine ab (Kh (beq_iff_eq.mpr z)) ?_;refine ab (Kh (z▸Kq (wd.nm b))) ?_
   exact .cons rv q
  ·refine ab (Kg (fun w=>z (Ki w))) ?_;refine ab (Kg (fun w=>tF (w.symm.trans (zR z)))) ?_
   exact .cons a ih
theorem rl:∀(fs:List (Nat×V)) (a:Nat) (v:V),(kz fs a v).length≤fs.length+1
 |[],_,_=>aR _
 |p::r,a,v=>by
  show List.length (if _ then _ else _)≤_
  by_cases z:(p.1==a)=true
  ·refine ab (Kh z) ?_;exact Nat.le_succ _
  ·refine ab (Kg z) ?_;exact dc (rl r a v)
theorem yZ{P:Nat→Prop}{a:Nat}{v:V}(ha:P a):∀{fs:List (Nat×V)},(∀p∈fs,P p.1)→∀p∈kz fs a v,P p.1:=by
 intro fs
 induction fs with
 |nil =>
  intro _
  exact KI.mpr ⟨ha,fun zz h=>absurd h Kr⟩
 |cons q r ih =>
  intro hr
  obtain⟨h1,h2⟩:=KI.mp hr
  refine(?_:∀p∈(if (q.1==a)=true then (q.1,v)::r else q::kz r a v),P p.1)
  by_cases z:(q.1==a)=true
  ·refine ab (Kh z) ?_;exact KI.mpr ⟨h1,h2⟩
  ·refine ab (Kg z) ?_;exact KI.mpr ⟨h1,ih h2⟩
theorem FsR.look{h:Heap}{fs:List (Nat×V)}{es:List DictEntry}(r:FsR wd h fs es)(a:Nat):(getL (wd.nm a) es).isSome=true:=by
 cases e:cN fs a with
 |none=>refine ab (r.getNone e) ?_;rfl
 |some v=>obtain⟨x,g,_⟩:=r.get e;refine ab g ?_;rfl
set_option tactic.hygienic true in
theorem FsR.len{h:Heap}{fs:List (Nat×V)}{es:List DictEntry}(r:FsR wd h fs es):es.length=fs.length:=r.rec (motive:=fun fs es zz=>es.length=fs.length) rfl fun zz zz ih=>congrArg Nat.succ ih
set_option tactic.hygienic true in
theorem zd{R:Result→Shared→Prop}{K:Frag}{x C dx:Addr}{name:Str}{tk:Tok}{v:Value}{es:List DictEntry}{n:Nat}{A:Around}{prog:Program}{w:World}(X₀:K.In s.heap)
  (hx:s.heap.get? x=some (instObj C dx)) (hdx:s.heap.get? dx=some (dictOf es n)) (hp:plainOver K C=true) (ht:takerIn K C name=some none) (hh:hasDictIn K C=true)
  (hl:(getL name es).isSome=true) (hz:es.length≤1000)
  (h:∀es' n' h',es'=putL name (PyData.keyHash w.params name) (.str name s.toks) v es→h'.get? dx=some (dictOf es' n')→Heap.ExtBut dx s.heap h'→R (.ok (.ret .none)) { s with heap:=h',toks:=s.toks+1 }) :
  codeAny (model prog w) A (.call (.builtin "object.__setattr__") ⟨[.ref x,.str name tk,v],[]⟩) R s:=by
 have I:InstAt s.heap x (instObj C dx) C (some (dictOf es n)):=⟨hx,rfl,rfl,hdx⟩
 refine osa_open X₀ I hp ht fun b=>?_
 obtain⟨cd,hc,hd'⟩:=any_some hh
 have e:Obj.putName name (PyData.keyHash w.params name) (.str name s.toks) v (dictOf es n)=dictOf (putL name (PyData.keyHash w.params name) (.str name s.toks) v es) (putN name es n):=putName_dict ..
 have D':(s.heap.update dx (Obj.putName name (PyData.keyHash w.params name) (.str name s.toks) v)).get? dx=some (dictOf (putL name (PyData.keyHash w.params name) (.str name s.toks) v es) (putN name es n)):=e▸Heap.get?_update_self _ hdx (e▸rfl)
 have hlen:∀es:List DictEntry,(putL name (PyData.keyHash w.params name) (.str name s.toks) v es).length≤es.length+1:=by
  intro es
  induction es with
  |nil=>simp[putL]
  |cons a r ih=>unfold putL;split;exact Nat.le_succ _;exact dc ih
 have hlen':=hlen es
 refine Kc (Ke (Kc (Kc (wpAny_loadPart hx (Kc ((looks_clsIn X₀ hc).here ?_))))))
 refine ab hd' ?_
 refine Ke (a:=some dx) (Kc (Ke (Kc ?_)))
 unfold nsSet
 refine Kc (Kc (wpAny_askSetting (Ke (Kc (wpAny_mkText (Kc (wpAny_loadPart hdx ?_)))))))
 have c:(!es.any (·.key.isStr name)&&es.any (·.refKey))=false:=by
  unfold getL at hl
  split at hl
  ·rename_i en he
   refine ab (List.any_eq_true.mpr ⟨en,List.mem_of_find?_eq_some he,List.find?_some he⟩) ?_;rfl
  ·split at hl
   ·injection hl
   ·rename_i z;rw[Bool.not_eq_true]at z;refine ab z ?_;rw[Bool.and_false]
 have c':(!es.toArray.any (·.key.isStr name)&&es.toArray.any (·.refKey))=false:=by
  refine bT Array.any_toList ?_;refine bT Array.any_toList ?_;exact c
 dsimp only
 rewrite[aRefKeyMayBeTheName_at];refine ab c' ?_
 refine wpAny_updatePart hdx ?_
 refine Kc (wpAny_lookBehind D' (pastItsLine_dict (by refine ab List.size_toArray ?_;refine ab sizeLine_eq ?_;exact am hlen' (am (dc hz) (by decide)))) ?_)
 exact Ke (h _ _ _ rfl D' (Heap.SameBut.update _ _ _).extBut)
theorem CA(W:wd.OK)(ok:X.OK wd)(hh:X.Has wd){o v:Expr}{a:Str}{ap pos:Pos}{po pe:PE}{x:Nat}(hx:X.z.nid a=some x)(ho:dR o X.z=some po)(hv:dR v X.z=some pe)(hc:dY v=false) :
  JS wd X (exec (.Assign [.Attribute o a ap] v pos) X.env) (wS (.seta po x pe) X.c):=by
 refine eP fun B m σ s Q E S h=>?_
 have jv:=cM W X ok hh v pe hv
 refine plainObj_wpAny_Assign_Attribute (step (Keep.refl _) (jv.je B m σ s _ E S h) fun y u σ1 m1 s1 S1 r1 k1 q1=>?_) (ic hc _ _ _ jv.good)
 refine step k1 ((cM W X ok hh o po ho).je B m1 σ1 s1 _ E S1 q1) fun ov w σ2 m2 s2 S2 r2 k2 q2=>?_
 obtain⟨b,hw,q3⟩:=nd q2
 obtain⟨⟨k,fs⟩,hb,hf,ha,q⟩:=nd q3
 obtain⟨rfl,rfl⟩:=r2.obj_ hw
 obtain⟨ao,hb,hi⟩:=aw hb
 obtain rfl:=um hi
 obtain rfl:=ok.nid _ _ hx
 replace ha:=ok.attrs▸ha
 obtain⟨⟨kd,D,g⟩,l,hge,hos⟩:=S2
 obtain⟨hown,C,es,n,hC,hI,hD,fr,fl,z⟩:=g.own b _ hb
 obtain⟨ci,hci⟩:=Ks.mp z.1
 have c:=W.inst k C ci hC hci
 have X₀:=(g.gd.sub g.base).K
 have ht:takerIn wd.K C (wd.nm x)=some none:=by unfold takerIn;refine ab (c.attr x ha) ?_;rfl
 have hk:=g.part b k fs hb
 refine PySem.W.set_plain X₀ (od:=some (dictOf es n)) ⟨hI,rfl,rfl,hD⟩ c.set (zd (s:={ s2 with toks:=s2.toks+1 }) X₀ hI hD c.over ht c.hasD (fr.look x) (fr.len▸am hf (by decide)) fun es' n' h' he hd hext=>?_)
 have kp:=g.keepBut (p:=D b) (fun z=>mX (hk.symm.trans z)) hext
 have hne:b≠D b:=dA hown hk nofun
 exact⟨.next,⟨σ2.L,upd σ2.H b (.inst k (kz fs x u))⟩,m2,⟨⟨kd,D,g.setPart hb hext ⟨_,hd,df rfl⟩ (.inst hC (hext _ _ hne hI) hd (he▸FsR.put (r1.keeps (k2.trans kp)) (fr.keeps kp)) (am (rl fs x u) (am (dc hf) (by decide))) ⟨z.1,yZ ha z.2⟩)⟩,l.keeps kp,hge,hos⟩,.next,k1.trans (k2.trans kp),q⟩
theorem ti{k k1:Int}{x x1:Value}{r:List (Int×Value)}(hn:(((k1,x1)::r).map (·.1)).Nodup):stored ((k1,x1)::r) k x=if k1=k then (k1,x)::r else (k1,x1)::stored r k x:=by
 simp only[Lj,List.nodup_cons]at hn
 unfold stored
 by_cases z:k1=k
 ·subst z
  simp only[List.any_cons,decide_true,Bool.true_or,if_true,Lj]
  refine ab (map_store_of_not_mem r k1 x hn.1) ?_;rfl
 ·simp only[List.any_cons,decide_eq_false z,Bool.false_or,Lj,Kg z]
  split<;>simp
theorem uT{h:Heap}{k:Int}{v:V}{x:Value}(rv:VR wd h v x):∀{es:List (Int×V)} {kvs:List (Int×Value)},(kvs.map (·.1)).Nodup→PairsR wd h es kvs→PairsR wd h (jH es k v) (stored kvs k x):=by
 intro es
 induction es with
 |nil =>
  intro kvs hn p
  cases kvs with
  |nil=>exact⟨rfl,.cons rv .nil⟩
  |cons _ _=>injection p.1
 |cons e es ih' =>
  intro kvs hn p
  cases kvs with
  |nil=>injection p.1
  |cons f kvs =>
   obtain⟨k1,v1⟩:=e
   obtain⟨k2,x2⟩:=f
   obtain⟨a,b⟩:=p
   refine ab (ti hn) ?_
   simp only[Lj,List.nodup_cons]at hn
   simp only[Lj,List.cons.injEq]at a b
   obtain⟨a1,a2⟩:=a
   cases b with
   |cons b1 b2 =>
   subst a1
   have ih:=ih' hn.2 ⟨a2,b2⟩
   by_cases z:k1=k
   ·subst z
    simp only[jH,if_true]
    exact⟨by simp[a2],.cons rv b2⟩
   ·simp only[jH,Kg z]
    exact⟨by simp[ih.1],.cons b1 ih.2⟩
theorem y4{es:List (Int×V)}{k:Int}{v:V}:(jH es k v).length≤es.length+1:=by
 induction es with
 |nil=>simp[jH]
 |cons p r ih=>unfold jH;split;exact Nat.le_succ _;exact dc ih
theorem lM{prog:Program}{w:World}{A:Around}{E:Value→Shared→Prop}{l:Addr}{items:List Value}{n:Nat}{k:Int}{u:Tok}{v:Value}{Q:Unit→Shared→Prop}(hl:s.heap.get? l=some (listOf items.toArray n))(hz:items.length≤sizeLine)
  (h0:0≤k) (hk:k<items.length) (hQ:Q () { s with heap:=s.heap.update l (Obj.mapSeq (·.setIfInBounds k.toNat v)) }):wpAny (model prog w) A (setItem (.ref l) (.int k u) v) Q E s:=by
 have hl':s.heap.IsList l items.toArray:=⟨_,hl,rfl,_,rfl⟩
 have hfit:k<2^63:=Int.lt_trans hk (hV hz)
 unfold setItem
 try with_reducible refine wpAny_holding ?_
 first|refine Kc (Ke ?_)|skip
 refine Kc (wpAny_sequenceKey hl'.typeIs (by decide) ?_)
 refine Kc (wpAny_callSpecial?_slot (name:=Str.ofString "__setitem__") hl'.typeIs slot_list_setitem
  (wpAny_call_entry slot_list_setitem hl'.typeIs entry_list_setitem ?_ (args_list_setitem _ _ _)))
 refine(?_:wpAny _ _ (Builtin.List.listSubscript? (.int k u) >>= _) _ _ s)
 refine Kc (wpAny_listSubscript_int (fitsIndex_of h0 hfit) ?_)
 clear hfit
 obtain⟨j,rfl⟩:=Int.eq_ofNat_of_zero_le h0
 have hj:j<items.toArray.size:=by rw[List.size_toArray];exact Int.ofNat_lt.mp hk
 have hx':items.toArray[j]?=some items.toArray[j]:=Array.getElem?_eq_getElem hj
 refine(?_:wpAny _ _ ((seqItemAt l j >>= fun r=>pure (r.map (j,·))) >>= _) _ _ s)
 refine Kc (Kc (wpAny_seqItemAt hl rfl (Ke ?_)))
 refine ab hx' ?_
 refine(?_:wpAny _ _ (setSeqItemAt l j v >>= _) _ _ s)
 refine Kc (wpAny_setSeqItemAt hl rfl ?_)
 first
  |exact Kc (Ke (Ke ⟨.none,rfl,Ke hQ⟩))
  |exact Ke ⟨.none,rfl,Ke hQ⟩
theorem Cz(W:wd.OK)(ok:X.OK wd)(hh:X.Has wd){o i v:Expr}{ip pos:Pos}{po pi pe:PE}(ho:dR o X.z=some po)(hi:dR i X.z=some pi)(hv:dR v X.z=some pe)(hc:dY v=false) :
  JS wd X (exec (.Assign [.Subscript o i ip] v pos) X.env) (wS (.seti po pi pe) X.c):=by
 refine eP fun B m σ s Q E S h=>?_
 have jv:=cM W X ok hh v pe hv
 refine wpAny_Assign_Subscript (step (Keep.refl _) (jv.je B m σ s _ E S h) fun y u σ1 m1 s1 S1 r1 k1 q1=>?_) (ic hc _ _ _ jv.good)
 refine step k1 ((cM W X ok hh o po ho).je B m1 σ1 s1 _ E S1 q1) fun ov w σ2 m2 s2 S2 r2 k2 q2=>?_
 refine step (k1.trans k2) ((cM W X ok hh i pi hi).je B m2 σ2 s2 _ E S2 q2) fun iv k σ3 m3 s3 S3 r3 k3 q3=>?_
 obtain⟨H',hH,q⟩:=nd q3
 obtain⟨a,hw,h2⟩:=aw hH
 obtain⟨k,hk,h3⟩:=aw h2
 obtain⟨ao,ha,h4⟩:=aw h3
 obtain⟨ao',hs,rfl⟩:=bX h4
 obtain⟨rfl,rfl⟩:=r2.obj_ hw
 obtain⟨t,rfl,rfl⟩:=r3.int_ hk
 have r1':=r1.keeps (k2.trans k3)
 have kk:=k1.trans (k2.trans k3)
 obtain⟨⟨kd,D,g⟩,l,hge,hos⟩:=id S3
 obtain⟨hown,ro⟩:=g.own a _ ha
 cases ao with
 |list vs =>
  obtain⟨items,n,p,hl,r⟩:=ro
  have c:=aX hs
  obtain rfl:=oInj (aO hs)
  refine lM p hl (Kn (ak c)) (r.length▸Kn (aK c)) ?_
  obtain⟨S4,k4⟩:=S3.updList (f:=(·.setIfInBounds k.toNat y)) (its:=items.set k.toNat y) (ws:=vs.set k.toNat u) (t:=s3.toks) ha p (List.setIfInBounds_toArray ..) ((KJ ..).symm▸hl) (r.set r1' _)
  exact bh S4 .next (kk.trans k4) q
 |dictI es =>
  obtain⟨kvs,p,hl,r⟩:=ro
  have hle:=Kn (aX hs)
  obtain rfl:=oInj (aO hs)
  have hnd:(kvs.map (·.1)).Nodup:=by obtain⟨_,_,_,_,_,_,_,_,nd⟩:=p;exact nd
  have hlen:kvs.length=es.length:=(Kf ..).symm.trans ((congrArg List.length r.1).symm.trans (Kf ..))
  refine wpAny_setItem_pairs (intKind_is _ _ _ _) p (fun h' hd hs=>?_) (hlen▸am hle (sizeLine_eq▸by decide))
  have kp:=g.keepBut (p:=a) (fun z=>eB (hown.symm.trans z)) hs.extBut
  obtain⟨o',es',ep',e1,e2,e3,e4⟩:=id hd
  exact⟨.next,⟨σ3.L,upd σ3.H a (.dictI (jH es k u))⟩,m3,⟨⟨kd,D,g.setOwn ha hs.extBut ⟨o',e1,df e3⟩ (.dictI hd (am y4 (am (dc hle) (by decide))) (uT (r1'.keeps kp) hnd (r.keeps kp))) nofun⟩,l.keeps kp,hge,hos⟩,.next,kk.trans kp,q⟩
 |inst=>exact nS hs
 |dictS=>exact nS hs
 |cell=>exact nS hs
end
end
section
noncomputable abbrev RS(wd:Wd)(X:Ctx)(rs:Stmt→Option PS):Prop:=∀st ps,rs st=some ps→JS wd X (exec st X.env) (wS ps X.c)
section
variable {wd:Wd} {X:Ctx} {B BX:Heap} {m:Str→Option Value} {σ:St} {s:Shared}
theorem iM{α β:Type}{R:Heap→β→α→Prop}{s s':Shared}{Q:β→St→Prop}{E:Nat→St→Prop}{t:Sem α}(k:Keep s.heap s'.heap)
   (h:wpAny (model wd.prog wd.w) X.A t (PV wd X B s' R Q) (PX wd X BX s' E) s'):wpAny (model wd.prog wd.w) X.A t (PV wd X B s R Q) (PX wd X BX s E) s' :=
  KC h (fun zz zz=>PV.trans k) fun zz zz=>PX.trans k
theorem ey{rs:Stmt→Option PS}(R:RS wd X rs):∀{ss:List Stmt} {pss:List PS},bZ rs ss=some pss→JS wd X (execs ss X.env) (wSs pss X.c):=by
 intro ss
 induction ss with
 |nil =>
  intro pss h
  obtain rfl:=cu h
  exact fun B BX m σ s Q E S hx p=>wpAny_execs_nil (cY S .next p)
 |cons a r ih =>
  intro pss h
  obtain⟨pa,pr,h1,h2,rfl⟩:=bF h
  intro B BX m σ s Q E S hx p
  refine wpAny_execs_cons (KC (R a pa h1 B BX m σ s _ E S hx p) (fun f s1 q=>?_) fun zz zz x=>x)
  obtain⟨fl,σ1,m1,S1,r1,k1,q1⟩:=q
  cases r1 with
  |next=>exact iM k1 (ih h2 B BX m1 σ1 s1 Q E S1 hx q1)
  |cont=>exact⟨_,σ1,m1,S1,.cont,k1,q1⟩
  |ret r=>exact⟨_,σ1,m1,S1,.ret r,k1,q1⟩
theorem ES{rs:Stmt→Option PS}(R:RS wd X rs){t:Expr}{b o:List Stmt}{pos:Pos}{pt:PE}{pb po:List PS}(jt:JT wd X t pt)(hb:bZ rs b=some pb)(ho:bZ rs o=some po) :
  JS wd X (exec (.If t b o pos) X.env) (wS (.ite pt pb po) X.c):=by
 intro B BX m σ s Q E S hx h
 refine wpAny_If (KC (jt B m σ s _ E S h) (fun c s1 q=>?_) fun zz zz x=>x.weak hx.sub hx.gd)
 obtain⟨c,σ1,m1,S1,rfl,k1,q1⟩:=q
 cases c with
 |true=>exact iM k1 (ey R hb B BX m1 σ1 s1 Q E S1 hx (kf q1))
 |false=>exact iM k1 (ey R ho B BX m1 σ1 s1 Q E S1 hx (kX q1))
theorem HX.self(hc:X.c.hc=none)(g:Gd wd B):HX wd X B B:=⟨Sub.refl _,g,fun k zz z=>nS (hc.symm.trans z)⟩
inductive WhI(wd:Wd)(X:Ctx)(B:Heap)(h0:Heap)(I:Nat→St→Prop)(n:Nat)(s:Shared):Prop|mk (σ:St) (m:Str→Option Value):SS wd X B m σ s→Keep h0 s.heap→I n σ→WhI wd X B h0 I n s
theorem zM(ok:X.OK wd)(st:X.St){rs:Stmt→Option PS}(R:RS wd X rs){t:Expr}{b:List Stmt}{pos:Pos}{pt:PE}{pb:List PS}(jt:JT wd X t pt)(hb:bZ rs b=some pb) :
  JS wd X (exec (.While t b [] pos) X.env) (wS (.while_ pt pb) X.c):=by
 refine eP fun B m σ s Q E S h=>?_
 obtain⟨hhc,I,n,hI,turn⟩:=h
 have nof:∀{s1:Shared},Keep s.heap s1.heap→∀e s2,PX wd X B s1 E e s2→notedBy (model wd.prog wd.w) X.A X.env (fun e s'=>cameBackBy (model wd.prog wd.w) X.A X.env (PX wd X B s E) e s') e s2:=fun k e s2 x=>oq ok st (x.trans k)
 refine wpAny_While (codeAny_whileLoop (WhI wd X B s.heap I) (fun n s' z=>?_) n ⟨σ,m,S,Keep.refl _,hI⟩)
 obtain⟨σ',m',S',k',hI⟩:=z
 refine KC (jt B m' σ' s' _ E S' (turn n σ' hI)) (fun c s1 q=>?_) (nof k')
 obtain⟨c,σ1,m1,S1,rfl,k1,q1⟩:=q
 cases c with
 |true =>
  refine KC (ey R hb B B m1 σ1 s1 _ E S1 (HX.self hhc S1.gdB) (kf q1)) (fun f s2 q=>?_) (nof (k'.trans k1))
  obtain⟨fl,σ2,m2,S2,r2,k2,q2⟩:=q
  have kk:=k'.trans (k1.trans k2)
  cases r2 with
  |next=>obtain⟨j,hj,hI⟩:=q2;exact⟨j,hj,σ2,m2,S2,kk,hI⟩
  |cont=>obtain⟨j,hj,hI⟩:=q2;exact⟨j,hj,σ2,m2,S2,kk,hI⟩
  |ret r=>exact⟨_,σ2,m2,S2,.ret r,kk,q2⟩
 |false=>exact wpAny_execs_nil ⟨_,σ1,m1,S1,.next,k'.trans k1,kX q1⟩
inductive ForI(wd:Wd)(X:Ctx)(B:Heap)(v:V)(vs:List V)(I:Addr)(h0:Heap)(C:List V→St→Prop)(n:Nat)(s:Shared):Prop
 |mk (i:Nat) (m:Str→Option Value) (σ:St):n=vs.length-i→SF wd X B m σ s [I]→ItAt wd s.heap I v vs i→i≤vs.length→cV v vs σ.H→Keep h0 s.heap→C (vs.drop i) σ→ForI wd X B v vs I h0 C n s
theorem ET(ok:X.OK wd)(st:X.St){rs:Stmt→Option PS}(R:RS wd X rs){id:Str}{px pos:Pos}{it:Expr}{b:List Stmt}{x:Nat}{cel rng:Bool}{pit:PE}{pb:List PS}(hx:bL X.z (.Name id px)=some (x,cel))(hset:∀v,foldedSetIterable it X.env v=pure v)
  (hit:yg wd X it rng pit) (hb:bZ rs b=some pb) :
  JS wd X (exec (.For (.Name id px) it b [] pos) X.env) (wS (.for_ x cel rng pit pb) X.c):=by
 refine eP fun B m σ s Q E S h=>?_
 refine wpAny_For (hit B m σ s (fun v vs σ=>jW v vs (fun u τ K=>dm X.c x cel u τ fun τ=>wSs pb X.c τ K E) vs σ Q) E _ [] S.sf h fun I v vs σ1 m1 s1 hhc S1 it1 src k1 zz q1=>?_) hset
 have hhn:=ok.handled hhc
 refine codeAny_forLoop (ForI wd X B v vs I s.heap fun us σ=>jW v vs (fun u τ K=>dm X.c x cel u τ fun τ=>wSs pb X.c τ K E) us σ Q) (fun n s2 z=>?_) _ ⟨0,m1,σ1,rfl,S1,it1,Kx _,src,k1,q1⟩ (fun zz=>rfl)
 obtain⟨i,m2,σ2,rfl,S2,it2,hi,src2,k2,q2⟩:=z
 refine uk S2 (.head _) it2 src2 hhn (fun u y s3 hu S3 ry it3 k3 o3=>?_) fun s3 hle S3 k3 o3=>?_
 ·obtain⟨hlt,hd⟩:=pR hu
  have q2:dm X.c x cel u σ2 fun τ=>wSs pb X.c τ (fun fl σ'=>match fl with|.ret u=>Q (.ret u) σ'|_=>cV v vs σ'.H∧jW v vs (fun u τ K=>dm X.c x cel u τ fun τ=>wSs pb X.c τ K E) (vs.drop (i+1)) σ' Q) E:=(hd▸q2 :)
  obtain⟨B',S4,back,backX⟩:=S3.body
  refine wpAny_assign_Name (dP ok S4 hx ry q2 fun m5 σ5 s5 S5 k5 q5=>?_)
  refine KC (ey R hb B' B' m5 σ5 s5 _ E S5 (HX.self hhc S5.gdB) q5) (fun f s6 q=>?_) fun e s6 q=>?_
  ·obtain⟨fl,σ6,m6,S6,r6,k6,q6⟩:=q
   obtain⟨S7,k7,o7⟩:=back _ _ _ S6
   have kk:Keep s.heap s6.heap:=k2.trans (k3.trans k7)
   cases r6 with
   |ret r=>exact⟨_,σ6,m6,S7.ss,.ret r,kk,q6⟩
   |next=>exact⟨_,hM hlt,i+1,m6,σ6,rfl,S7,it3.move k7 (o7 I (.head _)),hlt,q6.1,kk,q6.2⟩
   |cont=>exact⟨_,hM hlt,i+1,m6,σ6,rfl,S7,it3.move k7 (o7 I (.head _)),hlt,q6.1,kk,q6.2⟩
  ·obtain⟨j,σ6,m6,x6,k6,q6⟩:=q
   obtain⟨x7,k7⟩:=backX _ _ _ _ _ x6
   exact oq ok st ⟨j,σ6,m6,x7,k2.trans (k3.trans k7),q6⟩
 ·exact wpAny_execs_nil ⟨_,σ2,m2,(S3 [] fun J hJ=>absurd hJ Kr).ss,.next,k2.trans k3,(List.drop_of_length_le hle▸q2 :)⟩
theorem AF(env:Env)(l:List Arg)(h:(l.all fun x=>x.annotation.isNone)=true):annotationsOf l env=[]:=by
 induction l with
 |nil=>rfl
 |cons a r ih =>
  obtain⟨n,an,p⟩:=a
  obtain rfl:an=none:=jT (ak h)
  exact ih (aK h)
theorem Dv{args:Arguments}{env:Env}(h:kA args=true):annTrees args none env=[]:=by
 obtain⟨po,a,va,ko,kwd,kwa,d⟩:=args
 obtain rfl:po=[]:=eL (ak (ak (ak (ak h))))
 obtain rfl:va=none:=jT (aK (ak (ak (ak h))))
 obtain rfl:ko=[]:=eL (aK (ak (ak h)))
 obtain rfl:kwa=none:=jT (aK (ak h))
 unfold annTrees
 simp[AF env a (aK h),evalOpt]
theorem EU(W:wd.OK)(ok:X.OK wd){name:Str}{args:Arguments}{body:List Stmt}{scope:Scope}{pos:Pos}{f:Nat}{fr:List Nat}{x:Nat}{cel:Bool}(hsee:X.z.sees scope=true)(hx:bL X.z (.Name name pos)=some (x,cel))(ha:kA args=true) :
  JS wd X (exec (.FunctionDef name args body [] none [] scope none name pos) X.env) (wS (.def_ x cel f fr ⟨name,args,.stmts body,scope,pos⟩) X.c):=by
 refine eP fun B m σ s Q E S h=>?_
 obtain⟨hhc,hl,h⟩:=h
 obtain⟨Cl,hCl,q⟩:=nd h
 have lam:=ok.lam _ _ _ hl
 obtain⟨p1,p2,p3⟩:=lam.plain
 rewrite[exec_def,defaultsOf_eq];refine ab p1 ?_;refine ab p3 ?_
 refine Kc (wpAny_standAt (Kc (wpAny_holding ?_)))
 refine Kc (Ke (Kc (wpAny_holding (Ke (wpAny_holding ?_)))))
 refine ab (Dv ha) ?_
 refine Kc (Ke ?_)
 have hq:qualnameIn X.env name name=X.env.qual++name:=by
  refine Kg fun z=>?_
  have z:=Ki z
  cases jM hx with
  |loc _ _ h=>exact absurd ((ok.loc _ h).symm.trans z) (by decide)
  |cel _ _ h=>rcases ok.cel _ (.inl h)with e|e<;>exact absurd (e.symm.trans z) (by decide)
 refine ab hq ?_
 have p2':args.kwonlyargs=[]:=p2
 refine tM W ok S lam hsee hCl fun a s' S' r k=>?_
 refine Kc (wpAny_standAt (Kc (wpAny_bindName (dP ok S' hx r q fun m2 σ2 s2 S2 k2 q2=>Ke (bh S2 .next (k.trans k2) q2)))))
end
end
section
structure LeafOK(wd:Wd)(k:Nat)(C:Addr):Prop where
 keep:keepIn wd.K (.ref C)=true
 cd:(clsIn wd.K C).isSome=true
 ty:typeIn wd.K (.ref C)=some (.type "type")
 base:subIn wd.K (.ref C) (.type "BaseException")=some true
 sub:∀j C',hE j=true→wd.clsA j=some C'→subIn wd.K (.ref C) (.ref C')=some (decide (j=k))
 make:∀(A:Around) (envs:List Env) (s:Shared) (txt:Str) (t:Tok) (Q:Value→Shared→Prop) (E:Value→Shared→Prop),A.frames=some envs→A.handled=none→A.depth+15<recursionLimit→A.units+215<cLine→Gd wd s.heap→s.gens=#[]→s.os=wd.os0 →
  (∀h' n a oe vs,Sub s.heap h'→s.heap.get? a=none→h'.get? a=some oe→oe.cls=.ref C→oe.data=.fields vs→vs[1]?=some .none→Q (.ref a) { s with heap:=h',toks:=n })→wpAny (model wd.prog wd.w) A (call (.ref C) [.str txt t]) Q E s
structure Wd.Exc(wd:Wd):Prop where
 leaf:∀k C,hE k=true→wd.clsA k=some C→LeafOK wd k C
noncomputable def Ctx.hand(X:Ctx)(e:Value)(k:Nat):Ctx:={ X with A:=X.A.mark (some e),c:={ X.c with hc:=some k } }
section
variable {wd:Wd} {X:Ctx} {B BX:Heap} {m:Str→Option Value} {σ:St} {s:Shared}
theorem rK{K:Frag}{M:Model}{h:Heap}(X₀:K.In h){C:Addr}(hc:(clsIn K C).isSome=true):Looks M h (isType (.ref C)) true:=by
 obtain⟨cd,hc⟩:=Ks.mp hc
 unfold clsIn at hc
 split at hc
 ·rename_i q
  exact(Looks.ld (X₀ _ _ q)).andThen .now
 ·exact nS hc
theorem tz{M:Model}{h:Heap}{k:Nat}{C:Addr}(c:LeafOK wd k C)(X₀:wd.K.In h):Looks M h (isExcClass (.ref C)) true:=by
 unfold isExcClass
 exact(rK X₀ c.cd).andThen (looks_subIn X₀ c.base)
theorem oB{M:Model}{h:Heap}{k:Nat}{C:Addr}(c:LeafOK wd k C)(X₀:wd.K.In h):Looks M h (isInstance (.ref C) (.type "tuple")) false:=by
 unfold isInstance
 exact(looks_typeIn X₀ c.ty).andThen (Looks.of_pure tc_notTuple)
theorem uI{k j:Nat}{C C' a:Addr}(c:LeafOK wd k C)(c':LeafOK wd j C')(hj:hE j=true)(hC':wd.clsA j=some C'){oe:Obj}(X₀:wd.K.In s.heap)(he:s.heap.get? a=some oe)(hcls:oe.cls=.ref C)
  {M:Model} {A:Around} {Q:Bool→Shared→Prop} {E:Value→Shared→Prop} (h:Q (decide (j=k)) s):wpAny M A (excMatches (.ref a) (.ref C')) Q E s:=by
 unfold excMatches
 refine Kc ((oB c' X₀).here ?_)
 simp only[Bool.false_eq_true,if_false]
 refine Kc (Ke ?_)
 simp only[List.forIn_cons,List.forIn_nil]
 refine Kc (Kc (Kc ((tz c' X₀).here ?_)))
 simp only[Bool.not_true,Bool.false_eq_true,if_false]
 refine Ke (Ke (Kc ?_))
 have ht:Looks M s.heap (typeOf (.ref a)) (.ref C):=by refine bT hcls ?_;exact(Looks.ld he).andThen .now
 refine ht.here (Kc (Kc (Kc ((looks_subIn X₀ (c.sub j C' hj hC')).here ?_))))
 cases hd:decide (j=k)with
 |true=>rw[hd]at h;exact Ke (Ke (Ke h))
 |false=>rw[hd]at h;exact Ke (Ke (Ke h))
theorem zN(W:wd.OK)(Ex:wd.Exc)(ok:X.OK wd){id:Str}{p p2 pos cpos:Pos}{txt:Str}{n:Nat}{k:Nat}(hk:X.z.kind id=some .globalImplicit)(hg:X.z.gk id=some (.cls k)) :
  JS wd X (exec (.Raise (some (.Call (.Name id p) [.Constant (.str txt) n p2] [] cpos)) none pos) X.env) (wS (.raise k) X.c):=by
 refine eP fun B m σ s Q E S h=>?_
 obtain⟨hhc,hl,h⟩:=h
 have hhn:=ok.handled hhc
 obtain⟨C,hC,hm⟩:=W.cls id k ((ok.gk _).symm.trans hg)
 have c:=Ex.leaf k C hl hC
 rw[arm_exec_Raise]
 refine Kc (wpAny_standAt ?_)
 refine Kc (Kc (wpAny_Call_NameR (eW W ok S hk hm (jo W ok hg) ?_)))
 refine iU (P:=fun h=>wd.K.In h) (fun e he=>mSng he▸rfl) (fun h hp=>keeps_K c.keep h hp) ?_
 refine spliced_more (wpAny_Constant_str ?_) (bw rfl)
 refine spliced_none ⟨S.gd.K,?_⟩
 refine c.make X.A X.envs _ txt _ _ _ ok.frames hhn (bD (Nat.add_le_add (KB _ _) (by decide)) ok.depth) (bD (Nat.add_le_add (KB _ _) (by decide)) ok.units) S.gd S.gens S.os fun h' n a oe vs hs hn he hcls hd h1=>?_
 refine Kc (wpAny_standAt (Ke ?_))
 refine Kc (Ke ?_)
 have X₀:wd.K.In h':=S.gd.K.keeps hs
 have ht:Looks (model wd.prog wd.w) h' (typeOf (.ref a)) (.ref C):=hcls▸(Looks.ld he).andThen .now
 have hnt:Looks (model wd.prog wd.w) h' (isType (.ref a)) false:=by
  unfold isType loadHead
  refine(Looks.ld he).andThen (Looks.of_pure ?_)
  refine ab hd ?_;rfl
 refine Kc (wpAny_holding ?_)
 unfold excFromValue
 have hne:Looks (model wd.prog wd.w) h' (isExcClass (.ref a)) false:=by
  unfold isExcClass
  exact hnt.andThen .now
 refine Kc (hne.here (s:={ s with heap:=h',toks:=n }) ?_)
 simp only[Bool.false_eq_true,if_false]
 have hin:Looks (model wd.prog wd.w) h' (isInstance (.ref a) (.type "BaseException")) true:=by
  unfold isInstance
  exact ht.andThen (looks_subIn X₀ c.base)
 refine Kc (hin.here (s:={ s with heap:=h',toks:=n }) ?_)
 simp only[if_true]
 refine Ke ?_
 refine Kc (hnt.here (s:={ s with heap:=h',toks:=n }) ?_)
 simp only[Bool.false_eq_true,if_false]
 unfold raisedInstance
 refine Kc (Kc (ht.here (s:={ s with heap:=h',toks:=n }) (Kc ((looks_typeIn X₀ c.ty).here (s:={ s with heap:=h',toks:=n }) ?_))))
 refine ab (Kh (by simp)) ?_
 refine Ke ?_
 have hst:wpAny (model wd.prog wd.w) X.A (setFlight (.ref a) none) (fun zz s'=>wpAny (model wd.prog wd.w) X.A (raiseNew (.ref a)) (PV wd X B s (FR wd) Q) (PX wd X B s E) s') (PX wd X B s E) { s with heap:=h',toks:=n }:=by
  unfold setFlight
  refine Kc (wpAny_field he hd h1 ?_)
  refine ab (Kg (by decide)) ?_
  refine Ke (wpAny_raiseNew_none hhn ?_)
  obtain⟨⟨kd,D,g⟩,l,hge,hos⟩:=S
  exact⟨k,σ,m,⟨⟨_,D,g.newKd hs (a:=a) (c:=.exc) nofun (g.gone hn) (g.goneB hn) ⟨oe,he,cF (re hcls) hd⟩,a,oe,C,vs,rfl,Kh rfl,he,hC,hcls,hd,.none h1⟩,l.keeps hs.keep,hge,hos⟩,hs.keep,h⟩
 exact Kc hst
theorem vy(st:X.St){pos:Pos}:JS wd X (exec (.Raise none none pos) X.env) (wS .reraise X.c):=by
 intro B BX m σ s Q E S hx h
 obtain⟨k,hc,hk,h⟩:=nd h
 obtain⟨a,oe,C,vs,T,oT,ts,hA,he,hC,hcls,hd,h1,hTa,hT,hcT,hdT,hsz,hba,hbT⟩:=hx.hc k hk hc
 rw[arm_exec_Raise]
 refine Kc (wpAny_standAt (Kc (wpAny_handled ?_)))
 refine ab hA ?_
 obtain⟨⟨kd,D,g⟩,l,hge,hos⟩:=S
 have he':=g.base _ _ he
 have hT':=g.base _ _ hT
 refine Kc (wpAny_rule (Kc (wpAny_field he' hd h1 ?_)))
 refine ab (Kg (fun z=>fT z:¬ (Value.ref T==Value.none)=true)) ?_
 have hfree:∀{b:Addr} {o:Obj},B.get? b=some o→kd b=.free:=fun{b o} e=>Classical.byContradiction fun q=>nS ((g.hid b q).symm.trans e)
 have g1:=(g.weaken hx.sub hx.gd).newKd (Sub.refl _) (a:=a) (c:=.exc) nofun (hfree he) hba ⟨oe,he',cF (re hcls) hd⟩
 have g2:=g1.newKd (Sub.refl _) (a:=T) (c:=.exc) nofun ((Kg hTa).trans (hfree hT)) hbT ⟨oT,hT',cF hcT hdT⟩
 refine Kc (eX (fl:=ts[3]) ⟨⟨_,D,g2,a,oe,C,vs,T,oT,ts,rfl,(Kg (Ne.symm hTa)).trans (Kh rfl),he',hC,hcls,hd,h1,hTa,Kh rfl,hT',hcT,hdT,Array.getElem?_eq_getElem hsz⟩,l,hge,hos⟩ fun s' x' k'=>wpAny_throw ?_)
 rw[st.frame]at x'
 exact⟨k,σ,m,x'.xs (sv st.frame),k',h⟩
theorem uv(ok:X.OK wd)(e:Value)(k:Nat):(X.hand e k).OK wd where
 frames:=ok.frames
 fr:=ok.fr
 ne:=ok.ne
 kind:=ok.kind
 globals:=ok.globals
 builtins:=ok.builtins
 loc:=ok.loc
 cel:=ok.cel
 glo:=ok.glo
 nid:=ok.nid
 gk:=ok.gk
 cells:=ok.cells
 hasC:=ok.hasC
 lam:=ok.lam
 GC:=ok.GC
 CI:=ok.CI
 mth:=ok.mth
 attrs:=ok.attrs
 handled:=fun z=>nS z.symm
 depth:=ok.depth
 units:=ok.units
theorem zX(hh:X.Has wd)(e:Value)(k:Nat):(X.hand e k).Has wd:=⟨hh.K,hh.KH⟩
theorem uu(st:X.St)(e:Value)(k:Nat):(X.hand e k).St:=⟨st.top,st.frame⟩
inductive OpensR(wd:Wd)(X:Ctx)(B:Heap)(m:Str→Option Value)(σ:St)(s:Shared)(k:Nat)(a:Addr):Prop
 |mk (B' BX:Heap):SS wd (X.hand (.ref a) k) B' m σ s→HX wd (X.hand (.ref a) k) B' BX→Sub B BX→Sub B B'→Gd wd B→OpensR wd X B m σ s k a
theorem xA{h:Heap}{p:Addr→Prop}{b:Addr}{o:Obj}(e:(jV h p).get? b=some o):¬ p b:=fun q=>nS ((fK _ _ q).symm.trans e)
noncomputable def fB(kd:Addr→Kd)(a T:Addr)(b:Addr):Kd:=if b=a∨b=T then .free else kd b
theorem mZ{kd:Addr→Kd}{a T b:Addr}{c:Kd}(ha:kd a=.exc)(hT:kd T=.exc)(hc:c≠.exc)(h:kd b=c):fB kd a T b=c :=
 (Kg fun z=>z.elim (fun z=>hc (h.symm.trans (z▸ha))) fun z=>hc (h.symm.trans (z▸hT))).trans h
theorem m8{kd:Addr→Kd}{a T b:Addr}(h:fB kd a T b≠.free):kd b≠.free∧fB kd a T b=kd b:=by
 unfold fB at h ⊢
 by_cases z:b=a∨b=T
 ·exact absurd (Kh z) h
 ·rw[Kg z]at h ⊢;exact⟨h,rfl⟩
theorem XW.opens{k:Nat}{a:Addr}(S:XW wd X B m σ .none k (.ref a) s):OpensR wd X B m σ s k a:=by
 obtain⟨⟨kd,D,g,ex⟩,l,hge,hos⟩:=S
 obtain⟨a',oe,C,vs,T,oT,ts,ea,hk,he,hC,hcls,hd,h1,hTa,hkT,hT,hcT,hdT,h3⟩:=ex
 obtain rfl:=Value.ref.inj ea
 have sbx:Sub B (big kd s.heap):=g.big
 have sub':Sub (big kd s.heap) (big (fB kd a T) s.heap):=fun b o e =>
  have hf:=xA (p:=fun a=>kd a≠.free) e
  (dM s.heap (fun b=>fB kd a T b≠.free) fun q=>hf (m8 q).1).trans ((dM s.heap (fun a=>kd a≠.free) hf).symm.trans e)
 have at_:∀{b:Addr} {o:Obj},(b=a∨b=T)→s.heap.get? b=some o→(big (fB kd a T) s.heap).get? b=some o:=fun{b o} z e=>(dM s.heap (fun b=>fB kd a T b≠.free) (fun q=>q (Kh z))).trans e
 have gone:∀{b:Addr},kd b=.exc→(big kd s.heap).get? b=none:=fun{b} h=>fK s.heap (fun a=>kd a≠.free) fun z=>lH (h.symm.trans z)
 have g':GL wd (fB kd a T) D (big (fB kd a T) s.heap) ((X.env.locals,m)::X.outs) σ.H s.heap :=
  {base:=pI _ _
   gd:=g.gd.sub (sbx.trans sub')
   own:=fun b o e=>⟨mZ hk hkT AR (g.own b o e).1,(g.own b o e).2⟩
   part:=fun b k fs e=>mZ hk hkT rp (g.part b k fs e)
   outs:=fun q hq=>⟨mZ hk hkT zf (g.outs q hq).1,(g.outs q hq).2⟩
   tabs:=fun q hq=>⟨mZ hk hkT AL (g.tabs q hq).1,(g.tabs q hq).2⟩
   hid:=fun b q=>fK _ _ q
   there:=fun b q=>g.there b (m8 q).1
   nimm:=fun b o q e=>g.nimm b o (m8 q).1 e
   low:=fun b q=>g.low b ((m8 fun z=>eB (q.symm.trans z)).2.symm.trans q) }
 refine⟨big (fB kd a T) s.heap,big kd s.heap,⟨⟨_,D,g'⟩,l,hge,hos⟩,⟨sub',g.gd.sub sbx,fun j zz hj=>?_⟩,sbx,sbx.trans sub',g.gd⟩
 obtain rfl:=oInj hj
 exact⟨a,oe,C,vs,T,oT,ts,rfl,at_ (.inl rfl) he,hC,hcls,hd,h1,hTa,at_ (.inr rfl) hT,hcT,hdT,(Array.getElem?_eq_some_iff.mp h3).1,gone hk,gone hkT⟩
end
end
section
section
variable {wd:Wd} {X:Ctx} {B BX:Heap} {m:Str→Option Value} {σ:St} {s:Shared}
inductive HandS(z:SC)(rs:Stmt→Option PS)(h:ExceptHandler)(a:Nat×List PS):Prop
 |mk (id:Str) (p:Pos) (b0:Stmt) (body:List Stmt) (pos:Pos) (j:Nat) (pb:List PS):h=.ExceptHandler (some (.Name id p)) none (b0::body) pos→z.kind id=some .globalImplicit→z.gk id=some (.cls j)→bZ rs (b0::body)=some pb→a=(j,pb)→HandS z rs h a
theorem uB{z:SC}{id:Str}{k:Nat}(h:Aq z id=some k):z.kind id=some .globalImplicit∧z.gk id=some (.cls k):=by
 refine⟨ny (aX h),?_⟩
 obtain⟨g,h1,h2⟩:=aw (aO h)
 cases g with
 |cls k'=>exact h1.trans (congrArg (fun k=>some (GK.cls k)) (oInj h2))
 |fn _=>exact nS h2
 |const _=>exact nS h2
theorem zY{z:SC}{rs:Stmt→Option PS}{h:ExceptHandler}{a:Nat×List PS}(e:qt z rs h=some a):HandS z rs h a:=by
 obtain⟨t,n,b,pos⟩:=h
 have c:=aX e
 obtain⟨t,rfl,h2⟩:=aw (aO e)
 obtain⟨id,h3,h4⟩:=aw h2
 obtain⟨j,pb,h5,h6,rfl⟩:=dt h4
 obtain⟨p,rfl⟩:=iQ h3
 obtain rfl:=jT (ak c)
 obtain⟨g1,g2⟩:=uB h5
 cases b with
 |nil=>exact fT (aK c)
 |cons b0 b=>exact⟨id,p,b0,b,pos,j,pb,rfl,g1,g2,h6,rfl⟩
theorem DW{a:Addr}:Value.ref a≠byPass:=nofun
theorem B5{k:Nat}{e:Value}{B':Heap}(hb:Sub B B')(gd:Gd wd B){s1 s2:Shared}(k1:Keep s.heap s1.heap){f:Flow}{Q:Fl→St→Prop}(q:PV wd (X.hand e k) B' s1 (FR wd) Q f s2):PV wd X B s (FR wd) Q f s2:=by
 obtain⟨fl,σ2,m2,⟨⟨kd2,D2,g2⟩,l2,hg2,hos2⟩,r2,k2,q2⟩:=q
 exact⟨fl,σ2,m2,⟨⟨kd2,D2,g2.weaken hb gd⟩,l2,hg2,hos2⟩,r2,k1.trans k2,q2⟩
theorem oo{k:Nat}{a:Value}{B':Heap}(hb:Sub B B')(gd:Gd wd B){s1 s2:Shared}(k1:Keep s.heap s1.heap){e:Value}{E:Nat→St→Prop}(q:PX wd (X.hand a k) B' s1 E e s2):PX wd X B s E e s2:=by
 obtain⟨j,σ2,m2,⟨⟨kd2,D2,g2,ex⟩,l2,hg2,hos2⟩,k2,q2⟩:=q
 exact⟨j,σ2,m2,⟨⟨kd2,D2,g2.weaken hb gd,ex⟩,l2,hg2,hos2⟩,k1.trans k2,q2⟩
theorem yY{k:Nat}{a e:Value}{E:Nat→St→Prop}{s1:Shared}(q:PX wd X B s E e s1):PX wd (X.hand a k) B s E e s1:=by
 obtain⟨j,σ2,m2,⟨⟨kd2,D2,g2,ex⟩,l2,hg2,hos2⟩,k2,q2⟩:=q
 exact⟨j,σ2,m2,⟨⟨kd2,D2,g2,ex⟩,l2,hg2,hos2⟩,k2,q2⟩
theorem wi(W:wd.OK)(Ex:wd.Exc)(ok:X.OK wd)(st:X.St){rs:Stmt→Option PS}(R:∀e k,RS wd (X.hand e k) rs){k:Nat}{a:Addr}(hk:hE k=true){Q:Fl→St→Prop}{E:Nat→St→Prop}:∀{hs:List ExceptHandler} {phs:List (Nat×List PS)} {s:Shared},
  bZ (qt X.z rs) hs=some phs→XW wd X B m σ .none k (.ref a) s→wHs phs X.c k σ Q E →
  wpAny (model wd.prog wd.w) X.A (handleBy (.ref a) X.env hs) (PV wd X B s (FR wd) Q) (PX wd X B s E) s:=by
 intro hs
 induction hs with
 |nil =>
  intro phs s hp S h
  obtain rfl:=cu hp
  refine wpAny_handleBy_nil ?_
  unfold PySem.passOn
  obtain⟨⟨kd,D,g,a',oe,C,vs,T,oT,ts,ea,hka,he,hC,hcls,hd,h1,r⟩,lr,hg,hos⟩:=id S
  obtain rfl:=Value.ref.inj ea
  refine Kc (wpAny_field he hd h1 ?_)
  refine ab (Kg (fun z=>fT z:¬ (Value.ref T==Value.none)=true)) ?_
  refine Kc (eX S fun s2 x2 k2=>wpAny_throw ?_)
  rw[st.frame]at x2
  exact⟨k,σ,m,x2.xs (sv st.frame),k2,h⟩
 |cons hd hs ih =>
  intro phs s hp S h
  obtain⟨pa,pr,e1,e2,rfl⟩:=bF hp
  obtain⟨id,p,b0,body,pos,j,pb,rfl,g1,g2,g3,rfl⟩:=zY e1
  obtain⟨hj,h1,h2⟩:=h
  obtain⟨C',hC',hm⟩:=W.cls id j ((ok.gk _).symm.trans g2)
  have c':=Ex.leaf j C' hj hC'
  obtain⟨B',BX,SX,hx,sb1,sb2,gdB⟩:=S.opens
  have ok':=uv ok (.ref a) k
  obtain⟨⟨kd,D,g,a',oe,C,vs,T,oT,ts,ea,hka,he,hC,hcls,hdd,hv1,r⟩,lr,hg,hos⟩:=_root_.id S
  obtain rfl:=Value.ref.inj ea
  have X₀:=(g.gd.sub g.base).K
  refine wpAny_handleBy_cons (codeAny_handlers_test (eW (X:=X.hand (.ref a) k) W ok' SX g1 hm (jo W ok g2) (uI (Ex.leaf k C hk hC) c' hj hC' X₀ he hcls ?_))) (fun z=>DW z)
  clear g X₀ hx SX
  by_cases hjk:j=k
  ·refine ab (decide_eq_true hjk) ?_;refine ab (Kh rfl) ?_
   refine codeAny_handlers_suite (eX (X:=X) S fun s1 S1 k1=>?_)
   obtain⟨B1,BX1,SX1,hx1,sb3,sb4,_⟩:=S1.opens
   refine KC (ey (R (.ref a) k) g3 B1 BX1 m σ s1 Q E SX1 hx1 (h1 hjk)) (fun f s2 q=>B5 sb4 gdB k1 q) fun e s2 q=>?_
   have conv:∀e s4,cameBackBy (model wd.prog wd.w) X.A X.env (PX wd (X.hand (.ref a) k) B s E) e s4→cameBackBy (model wd.prog wd.w) X.A X.env (PX wd X B s E) e s4:=fun e s4 h4=>KC h4 (fun zz s5 x=>oo (Sub.refl _) gdB (Keep.refl _) x) fun zz zz x=>oo (Sub.refl _) gdB (Keep.refl _) x
   exact KC (oq (A:=X.A) ok' (uu st (.ref a) k) (yY (oo sb3 gdB k1 q))) (fun zz s4 h4=>conv _ _ h4) fun zz s4 h4=>conv _ _ h4
  ·refine ab (decide_eq_false hjk) ?_;refine ab (Kg Bool.false_ne_true) ?_
   exact ih e2 S (h2 hjk)
theorem EQ(W:wd.OK)(Ex:wd.Exc)(ok:X.OK wd)(st:X.St){rs:Stmt→Option PS}(R:RS wd X rs)(RH:∀e k,RS wd (X.hand e k) rs){b:List Stmt}{h0:ExceptHandler}{hs:List ExceptHandler}{pos:Pos}{pb:List PS}{phs:List (Nat×List PS)}(hb:bZ rs b=some pb)(hp:bZ (qt X.z rs) (h0::hs)=some phs):JS wd X (exec (.Try b (h0::hs) [] [] pos) X.env) (wS (.try_ pb phs) X.c):=by
 refine eP fun B m σ s Q E S h=>?_
 obtain⟨hhc,h⟩:=h
 refine wpAny_Try_except (KC (ey R hb B B m σ s _ _ S (HX.self hhc S.gdB) h) (fun f s1 q=>?_) fun e s1 q=>?_)
 ·obtain⟨fl,σ1,m1,S1,r1,k1,q1⟩:=q
  cases r1 with
  |next=>exact wpAny_execs_nil ⟨_,σ1,m1,S1,.next,k1,q1⟩
  |cont=>exact⟨_,σ1,m1,S1,.cont,k1,q1⟩
  |ret r=>exact⟨_,σ1,m1,S1,.ret r,k1,q1⟩
 ·obtain⟨k,σ1,m1,x1,k1,hk,q1⟩:=q
  refine n4 ok st x1 fun s2 x2 k2=>eX x2 fun s3 x3 k3=>?_
  obtain⟨⟨_,_,_,a,_,_,_,_,_,_,rfl,_⟩,_,_,_⟩:=id x3
  exact iM (k1.trans (k2.trans k3)) (wi W Ex ok st RH hk hp x3 q1)
end
end
section
section
variable {wd:Wd} {X:Ctx}
noncomputable abbrev FJ(wd:Wd)(rs:SC→Stmt→Option PS):Prop:=∀X:Ctx,X.OK wd→X.Has wd→X.St→RS wd X (rs X.z)
theorem Ds(W:wd.OK)(ok:X.OK wd)(hh:X.Has wd){v t:Expr}{pos:Pos}{ps:PS}:AD dR X.z v t=some ps→JS wd X (exec (.Assign [t] v pos) X.env) (wS ps X.c):=by
 apply @Expr.casesOn (fun t=>AD dR X.z v t=some ps→JS wd X (exec (.Assign [t] v pos) X.env) (wS ps X.c)) t
 case Name =>
  intro id p h
  obtain⟨⟨x,cel⟩,pe,h1,h2,rfl⟩:=dt h
  have j:=EV W ok hh (pos:=pos) h1 h2
  cases cel with
  |false=>exact j
  |true=>exact j
 case Tuple =>
  intro ts k p h
  have c:=aX h
  obtain⟨xs,h1,h2⟩:=aw (aO h)
  obtain⟨pe,h3,rfl⟩:=bX (aO h2)
  exact CE W ok hh h1 (Kn (ak (aX h2))) (gH (ak c)) (aK c) h3
 case Attribute =>
  intro o a p h
  obtain⟨po,x,pe,h1,h2,h3,rfl⟩:=fV (aO h)
  exact CA W ok hh h2 h1 h3 (gH (aX h))
 case Subscript =>
  intro o i p h
  obtain⟨po,pi,pe,h1,h2,h3,rfl⟩:=fV (aO h)
  exact Cz W ok hh h1 h2 h3 (gH (aX h))
 all_goals (intros;exact nS ‹_›)
theorem wI(W:wd.OK)(Ex:wd.Exc)(ok:X.OK wd){e:Expr}{pos:Pos}{ps:PS}(h:wJ X.z e=some ps):JS wd X (exec (.Raise (some e) none pos) X.env) (wS ps X.c):=by
 obtain⟨⟨f,as,ks⟩,h1,h2⟩:=aw h
 have hk:=eL (aX h2)
 obtain⟨id,h3,h4⟩:=aw (aO h2)
 obtain⟨a,h5,h6⟩:=aw h4
 obtain⟨txt,h7⟩:=Ks.mp (aX h6)
 obtain⟨k,h8,rfl⟩:=bX (aO h6)
 obtain⟨pos',rfl⟩:=pU h1
 obtain⟨p,hf⟩:=iQ h3
 have ha:=dG h5
 dsimp only at hk hf ha ⊢
 subst hk hf ha
 obtain⟨n,p2,rfl⟩:=qN h7
 obtain⟨g1,g2⟩:=uB h8
 exact zN W Ex ok g1 g2
theorem yK(W:wd.OK)(Ex:wd.Exc){n:Nat}(R:FJ wd (sN n))(ok:X.OK wd)(hh:X.Has wd)(st:X.St){s:Stmt}{ps:PS}:u7 dR X.z (sN n X.z) s=some ps→JS wd X (exec s X.env) (wS ps X.c):=by
 have R':=R X ok hh st
 apply @Stmt.casesOn (fun s=>u7 dR X.z (sN n X.z) s=some ps→JS wd X (exec s X.env) (wS ps X.c)) s
 case FunctionDef =>
  intro name args body ds ret tp scope ts bind pos h
  have c:=aX h
  obtain⟨p,x,h1,h2,rfl⟩:=dt (aO h)
  obtain rfl:ds=[]:=eL (ak (ak (ak (ak (ak (ak c))))))
  obtain rfl:ret=none:=jT (aK (ak (ak (ak (ak (ak c))))))
  obtain rfl:tp=[]:=eL (aK (ak (ak (ak (ak c)))))
  obtain rfl:ts=none:=jT (aK (ak (ak (ak c))))
  obtain rfl:name=bind:=Ki (aK (ak c))
  exact EU W ok (aK (ak (ak c))) h2 (aK c)
 case Return =>
  intro e pos h
  obtain⟨e,rfl,h1⟩:=aw h
  obtain⟨pe,h2,rfl⟩:=bX h1
  exact ER W ok hh h2
 case Assign =>
  intro ts v pos h
  obtain⟨t,h1,h2⟩:=aw h
  obtain rfl:=dG h1
  exact Ds W ok hh h2
 case For =>
  intro t it b o pos h
  obtain⟨x,p,pb,h1,h2,h3,rfl⟩:=fV (aO h)
  obtain rfl:=eL (aX h)
  obtain⟨id,px,rfl⟩:=dS h1
  have j:=xp W ok (cM W X ok hh) h2
  exact ET ok st R' h1 (j.2 _) j.1 h3
 case While =>
  intro t b o pos h
  obtain⟨pt,pb,h1,h2,rfl⟩:=dt (aO h)
  obtain rfl:=eL (aX h)
  exact zM ok st R' (cM W X ok hh _ _ h1).jt h2
 case If =>
  intro t b o pos h
  obtain⟨pt,pb,po,h1,h2,h3,rfl⟩:=fV h
  exact ES R' (cM W X ok hh _ _ h1).jt h2 h3
 case Raise =>
  intro e c pos h
  have h2:=aO h
  obtain rfl:c=none:=jT (aX h)
  cases e with
  |none=>obtain rfl:=oInj h2;exact vy st
  |some e=>exact wI W Ex ok h2
 case Try =>
  intro b hs o f pos h
  have c:=aX h
  obtain⟨pb,ph,h1,h2,rfl⟩:=dt (aO h)
  obtain rfl:o=[]:=eL (ak (ak c))
  obtain rfl:f=[]:=eL (aK (ak c))
  cases hs with
  |nil=>exact fT (aK c)
  |cons h0 hs=>exact EQ W Ex ok st R' (fun e k=>R (X.hand e k) (uv ok e k) (zX hh e k) (uu st e k)) h1 h2
 case Expr =>
  intro v pos h
  obtain⟨pe,h1,rfl⟩:=bX (aO h)
  exact CB W ok hh h1 (gH (aX h))
 case Continue=>intro pos h;obtain rfl:=oInj h;exact CC
 all_goals (intros;exact nS ‹_›)
theorem u8(W:wd.OK)(Ex:wd.Exc):∀n:Nat,FJ wd (sN n)
 |0=>fun zz zz zz zz zz zz h=>nS h
 |n+1=>fun zz ok hh st zz zz h=>yK W Ex (u8 W Ex n) ok hh st h
end
end
section
noncomputable def lj:List (Str×Value)→List (Str×Value)→List (Str×Value)
 |[],s=>s
 |x::l,s=>lj l (if (s.lookup x.1).isNone then s++[(x.1,x.2)]else s)
section
variable {M:Model} {A:Around} {E:Value→Shared→Prop} {s:Shared}
theorem qA{α:Type}{Q:α→Shared→Prop}{c:Prop}[Decidable c]{t e:Sem α}(hc:¬ c)(h:wpAny M A e Q E s):wpAny M A (ite c t e) Q E s:=(Kg hc).symm▸h
theorem tI{Q:List (Str×Value)→Shared→Prop}:∀{l s:List (Str×Value)} {st:Shared},Q (lj l s) st →
  wpAny M A (forIn l s fun x s=>if (s.lookup x.1).isNone=true then pure (ForInStep.yield (s++[(x.1,x.2)]))else pure (ForInStep.yield s)) Q E st:=by
 intro l
 induction l with
 |nil =>
  intro s st h
  exact Ke h
 |cons x l ih =>
  intro s st h
  rw[List.forIn_cons]
  refine Kc ?_
  unfold lj at h
  by_cases c:(s.lookup x.1).isNone=true
  ·rw[Kh c]at h ⊢;exact Ke (ih h)
  ·rw[Kg c]at h ⊢;exact Ke (ih h)
end
theorem Ca{α:Type}{a b c:Option α}(h:¬ a.isNone=true):a.or b=a.or c:=by
 cases a with
 |none=>exact absurd rfl h
 |some _=>rfl
theorem lZ{n:Str}:∀{l s:List (Str×Value)},(lj l s).lookup n=(s++l).lookup n
 |[],s=>by rw[Lm];rfl
 |x::l,s=>by
  refine(lZ (l:=l) (s:=if (s.lookup x.1).isNone then s++[(x.1,x.2)]else s)).trans ?_
  by_cases c:(s.lookup x.1).isNone=true
  ·refine ab (Kh c) ?_;rw[Ll];rfl
  ·refine ab (Kg c) ?_;refine ab List.lookup_append ?_;refine ab List.lookup_append ?_;refine ab Kp ?_
   cases z:n==x.1 with
   |false=>rfl
   |true=>refine ab (Ki z) ?_;exact Ca c
theorem jN{n:Str}:∀{names:List Str} {i:Nat},names.Nodup→names[i]?=some n→∀ys:List Value,(names.zip ys).lookup n=ys[i]?:=by
 intro names
 induction names with
 |nil=>intro _ _ h _;exact nS h
 |cons m names ih =>
  intro i hn h ys
  cases ys with
  |nil =>
   refine ab List.zip_nil_right ?_;rfl
  |cons y ys =>
   cases i with
   |zero =>
    obtain rfl:=oInj h
    refine ab List.zip_cons_cons ?_;refine ab Kp ?_;rw[Kq];rfl
   |succ i =>
    have hn:=List.nodup_cons.mp hn
    have h:names[i]?=some n:=h
    refine ab List.zip_cons_cons ?_;refine ab Kp ?_;refine ab (Km.mpr fun e:n=m=>hn.1 (e▸mGe h)) ?_
    exact ih hn.2 h ys
theorem mA{α β:Type}{f g:α→Option β}:∀{l:List α},(∀x∈l,f x=g x)→l.filterMap f=l.filterMap g
 |[],_=>rfl
 |x::l,h=>by refine ab List.filterMap_cons ?_;refine ab List.filterMap_cons ?_;refine ab (h x (.head _)) ?_;refine ab (mA fun y hy=>h y (.tail _ hy)) ?_;rfl
theorem Fd:∀{names:List Str} {ys:List Value},names.Nodup→names.length=ys.length→names.filterMap (fun n=>((names.zip ys).lookup n).map fun v=>(n,v))=names.zip ys:=by
 intro names
 induction names with
 |nil=>intro _ _ _;rfl
 |cons n names ih =>
  intro ys hn h
  cases ys with
  |nil=>injection h
  |cons y ys =>
   have hn:=List.nodup_cons.mp hn
   refine ab List.zip_cons_cons ?_;refine ab List.filterMap_cons ?_;refine ab Kp ?_;rw[Kq]
   refine congrArg (List.cons (n,y)) ((mA fun x hx=>?_).trans (ih hn.2 (Nat.succ.inj h)))
   refine ab Kp ?_;refine ab (Km.mpr fun e:x=n=>hn.1 (e▸hx)) ?_;rfl
theorem Ht{N X D:Nat}(h1:X≤N)(h2:N≤X+D):N=X+(D-(X+D-N)):=by
 obtain⟨p,rfl⟩:=Nat.le.dest h1
 obtain⟨q,rfl⟩:=Nat.le.dest (Nat.le_of_add_le_add_left h2)
 rw[← Lf X p q,Nat.add_sub_cancel_left,Nat.add_sub_cancel]
theorem Iu{N X D i:Nat}(h1:X≤i)(h2:X≤N)(h3:N≤X+D)(h4:D≤N):X+D-N+(i-X)=i-(N-D):=by
 obtain⟨j,rfl⟩:=Nat.le.dest h1
 obtain⟨p,rfl⟩:=Nat.le.dest h2
 obtain⟨q,rfl⟩:=Nat.le.dest (Nat.le_of_add_le_add_left h3)
 obtain⟨r,rfl⟩:=Nat.le.dest (Nat.le_of_add_le_add_right (Lg p q▸h4))
 rw[← Lf (q+r) p q,Nat.add_sub_cancel_left,Nat.add_sub_cancel_left,Nat.add_right_comm q r p,Lg p q,Nat.add_sub_cancel_left,Nat.add_right_comm,Nat.add_sub_cancel]
section
variable {xs dv:List Value} {names:List Str}
theorem Ha(hnd:names.Nodup)(hle:dv.length≤names.length)(h1:xs.length≤names.length)(h2:names.length≤xs.length+dv.length) :
  (names++[]).filterMap (fun n=>((lj ((names.drop (names.length-dv.length)).zip dv) (names.zip xs)).lookup n).map fun v=>(n,v))=names.zip (xs++dv.drop (xs.length+dv.length-names.length)):=by
 rw[Lm]
 refine(mA fun n hn=>congrArg (Option.map fun v=>(n,v)) ?_).trans (Fd hnd (by refine ab Kl ?_;refine ab K8 ?_;exact Ht h1 h2))
 obtain⟨i,hi⟩:=List.mem_iff_getElem?.mp hn
 refine ab lZ ?_;refine ab List.lookup_append ?_;rw[jN hnd hi,jN hnd hi]
 rcases Nat.lt_or_ge i xs.length with z|z
 ·refine ab (List.getElem?_append_left z) ?_;refine ab (Kj z) ?_;rfl
 ·have hf:names.length-dv.length≤i:=am (Nat.sub_le_of_le_add h2) z
  refine ab (KX z) ?_;refine ab (Lz z) ?_;refine ab (List.getElem?_drop) ?_;refine ab (Iu z h1 h2 hle) ?_
  exact jN (hnd.sublist (List.drop_sublist ..)) ((List.getElem?_drop ..).trans ((congrArg (names[·]?) (Nat.add_sub_cancel' hf)).trans hi)) dv
theorem Cj(hnd:names.Nodup)(h2:names.length≤xs.length+dv.length):(names.take (names.length-dv.length)).filter (fun n=>((names.zip xs).lookup n).isNone)=[]:=by
 refine List.filter_eq_nil_iff.mpr fun n hn=>?_
 obtain⟨i,hi⟩:=List.mem_iff_getElem?.mp hn
 have hif:i<names.length-dv.length:=Nat.lt_of_not_le fun z=>nS ((List.getElem?_take_eq_none z).symm.trans hi)
 rewrite[jN hnd ((List.getElem?_take_of_lt hif).symm.trans hi)];refine ab (Kj (Kw hif (Nat.sub_le_of_le_add h2))) ?_
 exact Bool.false_ne_true
end
theorem yp{M:Model}{A:Around}{E:Value→Shared→Prop}{s:Shared}{d:Value}{dv:List Value}(hd:(d=.none∧dv=[])∨∃t,d=.ref t∧IsTup s.heap t dv.toArray){β:Type}{k:Option (Array Value)→Sem β}{R:β→Shared→Prop}
  (h:∀o:Option (Array Value),(o.getD #[]).toList=dv→wpAny M A (k o) R E s):wpAny M A (seqItems? d >>= k) R E s:=by
 rcases hd with ⟨rfl,rfl⟩|⟨t,rfl,o,ho,hc,n,hdd⟩
 ·exact Kc (Ke (h none rfl))
 ·exact Kc (wpAny_seqItems ho hdd (h _ rfl))
theorem i5{s:Shared}{fd:FuncData}{xs dv:List Value}{names:List Str}{kd:List (Option Expr)}{de:List Expr}{as:List Arg}(hp:fd.params=⟨[],as,none,[],kd,none,de⟩)(hn:as.map (·.arg)=names)(hnd:names.Nodup)
  (hd:(fd.defaults=.none∧dv=[])∨∃t,fd.defaults=.ref t∧IsTup s.heap t dv.toArray) (hle:dv.length≤names.length) (h1:xs.length≤names.length) (h2:names.length≤xs.length+dv.length) :
  BindsTo s fd ⟨xs,[]⟩ (names.zip (xs++dv.drop (xs.length+dv.length-names.length))):=by
 intro M A E Q hQ
 rw[← Ha hnd hle h1 h2]at hQ
 have c3:=Cj hnd h2
 cases fd
 dsimp only at hp hd
 subst hp hn
 unfold bindArgs
 refine Kc (Ke (yp hd fun o ho=>?_))
 refine ab ho ?_
 refine qA (fun z=>LA.mpr h1 (Kn (ak z))) ?_
 dsimp only
 refine ab (show(List.map (fun x:Arg=>x.arg) []++as.map (·.arg))=as.map (·.arg)from rfl) ?_;refine ab (Nat.sub_eq_zero_of_le hle) ?_;refine ab List.drop_zero ?_
 refine qA (fun z=>fT ((congrArg (fun l:List Str=>!l.isEmpty) c3).symm.trans z)) ?_
 refine Kc (tI (Kc (Ke (qA Bool.false_ne_true ?_))))
 exact Ke hQ
end
section
noncomputable def dT(x:Str×NameKind):Option Str:=if x.2==.cell then some x.1 else none
noncomputable def Bv(z:SC)(b:FuncBody)(p:PBody):Prop:=match b with
 |.stmts b=>match p with|.st pb=>qk z b=some pb|.ex _=>False
 |.expr e=>match p with|.ex pe=>dR e z=some pe|.st _=>False
structure FnOK(wd:Wd)(f:Nat)(fi:FnInfo)(fa:FA)(z:SC):Prop where
 hfi:wd.FI f=some fi
 fpar:fa.params=fi.params
 fdfl:fa.dflts=fi.dflts
 fbody:fa.body=fi.pbody
 fcell:fa.cells=fi.cells
 ps:fi.args.posonlyargs=[]∧fi.args.vararg=none∧fi.args.kwonlyargs=[]∧fi.args.kwarg=none
 params:fi.args.args.map (·.arg)=fi.params.map wd.nm
 pnd:fi.params.Nodup
 dl:fi.dflts.length≤fi.params.length
 zs:z.sc=fi.scope
 kind:fi.scope.kind=.function
 gen:fi.scope.isGenerator=false
 co:fi.scope.isCoroutine=false
 nid:∀s i,z.nid s=some i→wd.nm i=s
 gk:∀s,z.gk s=wd.glob s
 ploc:∀p∈fi.params,(p∉fi.cells∧fi.scope.names.lookup (wd.nm p)=some .local)∨(p∈fi.cells∧fi.scope.names.lookup (wd.nm p)=some .cell)
 cells:fi.scope.names.filterMap dT=fi.cells.map wd.nm
 cnd:fi.cells.Nodup
 freeK:∀x,fi.scope.names.lookup x=some .free→∃i∈fi.free,wd.nm i=x
 nofree:fi.cells≠[]→∀x,fi.scope.names.lookup x≠some .free
 lam:∀g fr nd,fa.LN g=some (fr,nd)→(∃P,fi.tab=some P)∧∀env:Env,env.qual=fi.qual ++ ".<locals>." → ∀c P,env.code=.ref c→(c,P)∈wd.tabs→LamOK wd env g fr nd
 body:Bv z fi.body fi.pbody
theorem fY{α β:Type}[BEq α][LawfulBEq α]:∀{l:List (α×β)} {x:α} {y:β},(l.map (·.1)).Nodup→(x,y)∈l→l.lookup x=some y:=by
 intro l
 induction l with
 |nil =>
  intro _ _ _ h
  exact absurd h Kr
 |cons p r ih =>
  intro x y hn h
  obtain⟨a,b⟩:=p
  have hn:=List.nodup_cons.mp hn
  refine ab Kp ?_
  rcases mCo h with e|h
  ·obtain⟨rfl,rfl⟩:=Prod.mk.inj e;rw[Kq]
  ·have:(x==a)=false:=Km.mpr fun e=>hn.1 (K0.mpr ⟨(x,y),h,e⟩)
   refine ab this ?_
   exact ih hn.2 h
inductive ZipR(wd:Wd)(h:Heap)(ps:List Nat)(xs:List Value)(p:Nat)(v:V):Prop|mk (y:Value):p∈ps→(wd.nm p,y)∈(ps.map wd.nm).zip xs→VR wd h v y→ZipR wd h ps xs p v
theorem nZ{wd:Wd}{h:Heap}:∀{ps:List Nat} {vs:List V} {xs:List Value},VRs wd h vs xs→ps.length=vs.length→∀p v,(ps.zip vs).lookup p=some v→ZipR wd h ps xs p v:=by
 intro ps
 induction ps with
 |nil=>intro _ _ _ _ p v e;exact nS e
 |cons q ps ih =>
  intro vs xs r hl p v e
  cases vs with
  |nil=>injection hl
  |cons v0 vs =>
   obtain⟨x0,xr,rfl,r1,rr⟩:=r.uncons
   replace e:=List.zip_cons_cons▸e;rw[Kp]at e
   cases hb:p==q with
   |true =>
    replace e:=hb▸e
    obtain rfl:=Ki hb
    exact⟨x0,.head _,.head _,oInj e▸r1⟩
   |false =>
    replace e:=hb▸e
    obtain⟨y,h1,h2,h3⟩:=ih rr (Nat.succ.inj hl) p v e
    exact⟨y,.tail _ h1,.tail _ h2,h3⟩
theorem yj{p:Nat}:∀{ps:List Nat} {vs:List V},ps.length=vs.length→(ps.zip vs).lookup p=none→p∉ps:=by
 intro ps
 induction ps with
 |nil=>intro _ _ _;exact Kr
 |cons q ps ih =>
  intro vs hl e
  cases vs with
  |nil=>injection hl
  |cons v vs =>
   replace e:=List.zip_cons_cons▸e;rw[Kp]at e
   cases hb:p==q with
   |true=>replace e:=hb▸e;exact nS e.symm
   |false =>
    replace e:=hb▸e
    exact fun h=>(mCo h).elim (Km.mp hb) (ih (Nat.succ.inj hl) e)
section
variable {kof:Str→Option NameKind}
theorem pV{n:Str}:∀{bs:List (Str×Value)} {m:Str→Option Value},n∉bs.map (·.1)→bindL kof bs m n=m n
 |[],m,_=>rfl
 |(a,v)::r,m,h=>by
  refine(pV (bs:=r) fun z=>h (.tail _ z)).trans ?_
  by_cases c:kof a=some .local
  ·refine ab (Kh c) ?_;exact Kg fun z:n=a=>h (z▸.head _)
  ·refine ab (Kg c) ?_;rfl
theorem AA{n:Str}{y:Value}(hk:kof n=some .local):∀{bs:List (Str×Value)} {m:Str→Option Value},(bs.map (·.1)).Nodup→(n,y)∈bs→bindL kof bs m n=some y:=by
 intro bs
 induction bs with
 |nil =>
  intro m _ h
  exact absurd h Kr
 |cons p r ih =>
  intro m hn h
  obtain⟨a,v⟩:=p
  have hn:=List.nodup_cons.mp hn
  rcases mCo h with e|h
  ·obtain⟨rfl,rfl⟩:=Prod.mk.inj e
   refine(pV hn.1).trans ?_
   refine ab (Kh hk) ?_;exact Kh rfl
  ·exact ih hn.2 h
theorem lc{n:Str}:∀{bs:List (Str×Value)} {m:Str→Option Value},n∉bs.map (·.1)→bindC kof bs m n=m n
 |[],m,_=>rfl
 |(a,v)::r,m,h=>by
  refine(lc (bs:=r) fun z=>h (.tail _ z)).trans ?_
  by_cases c:kof a=some .local
  ·refine ab (Kh c) ?_;rfl
  ·refine ab (Kg c) ?_;exact Kg fun z:n=a=>h (z▸.head _)
theorem sW{n:Str}{y:Value}(hk:kof n≠some .local):∀{bs:List (Str×Value)} {m:Str→Option Value},(bs.map (·.1)).Nodup→(n,y)∈bs→bindC kof bs m n=some y
 |[],m,_,h=>absurd h Kr
 |(a,v)::r,m,hn,h=>by
  have hn:=List.nodup_cons.mp hn
  rcases mCo h with e|h
  ·obtain⟨rfl,rfl⟩:=Prod.mk.inj e
   refine(lc hn.1).trans ?_
   refine ab (Kg hk) ?_;exact Kh rfl
  ·exact sW (bs:=r) hk hn.2 h
end
theorem xc{α β:Type}[BEq α]{n a:α}{b:β}{acc:List (α×β)}(h:(acc.lookup n).isSome=true):(((a,b)::acc).lookup n).isSome=true:=by
 refine ab Kp ?_
 cases n==a<;>first|rfl|exact h
theorem xd{α β:Type}[BEq α][LawfulBEq α]{a:α}{b:β}{acc:List (α×β)}:(((a,b)::acc).lookup a).isSome=true:=by refine ab Kp ?_;rw[Kq];rfl
theorem oR{n:Str}:∀{names:List (Str×NameKind)} {k:Nat} {acc:List (Str×Addr)},(acc.lookup n).isSome=true→((cellsFrom k names acc).lookup n).isSome=true:=by
 intro names
 induction names with
 |nil =>
  intro _ _ h
  exact h
 |cons p r ih =>
  intro k acc h
  obtain⟨a,kd⟩:=p
  show(List.lookup n (if _ then _ else _)).isSome=true
  by_cases c:(kd==NameKind.cell)=true
  ·refine ab (Kh c) ?_;exact ih (xc h)
  ·refine ab (Kg c) ?_;exact ih h
theorem eG{n:Str}:∀{names:List (Str×NameKind)} {k:Nat} {acc:List (Str×Addr)},n∈names.filterMap dT→((cellsFrom k names acc).lookup n).isSome=true
 |[],_,_,h=>absurd h Kr
 |(a,kd)::r,k,acc,h=>by
  show(List.lookup n (if _ then _ else _)).isSome=true
  by_cases c:(kd==NameKind.cell)=true
  ·refine ab (Kh c) ?_
   replace h:=(List.filterMap_cons_some (f:=dT) (a:=(a,kd)) (b:=a) (Kh c))▸h
   rcases mCo h with rfl|h
   ·exact oR xd
   ·exact eG h
  ·refine ab (Kg c) ?_
   replace h:=(List.filterMap_cons_none (f:=dT) (a:=(a,kd)) (Kg c))▸h
   exact eG h
section
variable {wd:Wd} {B:Heap} {kd:Addr→Kd} {D:Addr→Addr} {outs:List (Addr×(Str→Option Value))} {H:Hp} {h:Heap}
theorem GL.tailOut{q:Addr×(Str→Option Value)}(x:GL wd kd D B (q::outs) H h):GL wd kd D B outs H h:={ x with outs:=fun p hp=>x.outs p (.tail _ hp) }
theorem ORc.imm{a:Addr}{w:Option V}(x:ORc wd h a w):∃o,h.get? a=some o∧¬ dO o:=let ⟨_,_,e,d,_⟩:=x;⟨_,e,rZ d⟩
theorem GL.newCells{b:Nat→Option V}:∀{ps:List (Nat×Nat)} {kd:Addr→Kd} {H:Hp},GL wd kd D B outs H h→(ps.map (·.2)).Nodup→(∀p∈ps,kd p.2=.free∧B.get? p.2=Option.none∧mainGlobals<p.2∧OR wd h D p.2 (.cell (b p.1))) →
  ∃kd',GL wd kd' D B outs (im b ps H) h:=by
 intro ps
 induction ps with
 |nil =>
  intro kd H x _ _
  exact⟨kd,x⟩
 |cons p r ih =>
  intro kd H x hn hp
  have hn:=List.nodup_cons.mp hn
  obtain⟨h1,h2,h3,h4⟩:=hp p (.head _)
  refine ih (x.newOwn (Sub.refl _) h3 h1 h2 h4 nofun (ORc.imm h4)) hn.2 fun q hq=>?_
  obtain⟨g1,g2,g3,g4⟩:=hp q (.tail _ hq)
  have hne:q.2≠p.2:=fun z=>hn.1 (K0.mpr ⟨q,hq,z⟩)
  exact⟨(Kg hne).trans ((Kg hne).trans g1),g2,g3,g4⟩
end
end
section
section
variable {wd:Wd} {B:Heap} {kd:Addr→Kd} {D:Addr→Addr} {outs:List (Addr×(Str→Option Value))} {H:Hp} {s:Shared} {f:Nat} {fi:FnInfo} {fa:FA} {z:SC} {C:List (Nat×Nat)} {fd:FuncData} {dv:List Value} {vs us:List V} {xs ys:List Value}
inductive EntR(wd:Wd)(B:Heap)(outs:List (Addr×(Str→Option Value)))(fi:FnInfo)(fd:FuncData)(s:Shared)(P:List (Nat×Nat)→St→Prop)(env:Env)(s2:Shared):Prop
 |mk (C':List (Nat×Nat)) (σ:St) (m:Str→Option Value) (kd:Addr→Kd) (D:Addr→Addr):env.scope=fi.scope→env.globals=mainGlobals→env.builtins=builtinsNs→env.qual=fi.qual ++ ".<locals>." → env.frame=some env.locals→env.code=fd.code →
   (∀x a,C'.lookup x=some a→iK (fi.scope.names.lookup (wd.nm x))→env.cells.lookup (wd.nm x)=some a)→(∀x,iK (fi.scope.names.lookup x)→∃i a,wd.nm i=x∧C'.lookup i=some a)→(∀q∈outs,q.1≠env.locals) →
   GL wd kd D B ((env.locals,m)::outs) σ.H s2.heap→LR wd s2.heap σ.L m→s2.gens=s.gens→s2.os=s.os→Sub s.heap s2.heap→P C' σ→EntR wd B outs fi fd s P env s2
structure ArgR(wd:Wd)(h:Heap)(fi:FnInfo)(us:List V)(ys:List Value):Prop where
 len:fi.params.length=us.length
 rel:VRs wd h us ys
theorem FnOK.names(F:FnOK wd f fi fa z):(fi.params.map wd.nm).Nodup:=List.Pairwise.map _ (fun a b hab e=>hab (wd.inj _ _ e)) F.pnd
theorem ArgR.names{h:Heap}(R:ArgR wd h fi us ys):((fi.params.map wd.nm).zip ys).map (·.1)=fi.params.map wd.nm:=List.map_fst_zip (bU ((Kf ..).trans (R.len.trans R.rel.length)))
theorem ArgR.nodup{h:Heap}(R:ArgR wd h fi us ys)(F:FnOK wd f fi fa z):(((fi.params.map wd.nm).zip ys).map (·.1)).Nodup:=by refine ab R.names ?_;exact F.names
theorem tJ{nm:Nat→Str}{ps:List Nat}{ys:List Value}{x:Str×Value}(hx:x∈(ps.map nm).zip ys):∃p∈ps,nm p=x.1:=K0.mp (List.of_mem_zip (a:=x.1) (b:=x.2) hx).1
theorem xe{p:Nat}{v:V}(e:eD fa vs p=some v):p∉fa.cells∧(fa.params.zip (dh fa vs)).lookup p=some v:=by
 unfold eD at e
 by_cases c:p∈fa.cells
 ·rw[Kh c]at e;exact nS e
 ·rw[Kg c]at e;exact⟨c,e⟩
theorem GL.new_ne(g:GL wd kd D B outs H s.heap):∀q∈outs,q.1≠s.heap.objs.size:=fun q hq z=>gV ((g.outs q hq).1.symm.trans (z▸g.fresh (aR _)))
theorem Fi(F:FnOK wd f fi fa z)(fA:FnAt wd s.heap f C fi fd dv)(hc:fi.cells=[])(R:ArgR wd s.heap fi (dh fa vs) ys)(g:GL wd kd D B outs H s.heap){P:List (Nat×Nat)→St→Prop}(hw:P C ⟨eD fa vs,H⟩){a:Addr}{M:Model}{A:Around}{E:Value→Shared→Prop}{Φ:Env→Shared→Prop}
  (k:∀env s2,EntR wd B outs fi fd s P env s2→Φ env s2):wpAny M A (newFunctionEnv fi.scope mainGlobals fd.closure ((fi.params.map wd.nm).zip ys) (fi.qual ++ ".<locals>.") (some a) fd.code none builtinsNs) Φ E s:=by
 have hnc:∀x∈fi.scope.names,x.2≠.cell:=fun x hx e=>by
  have h2:x.1∈fi.scope.names.filterMap dT:=List.mem_filterMap.mpr ⟨x,hx,Kh (beq_iff_eq.mpr e)⟩
  rw[F.cells,hc]at h2
  exact absurd h2 Kr
 refine wpAny_newFunctionEnv hnc (fun x hx=>?_) (fun h' hns hsb=>?_) F.kind
 ·obtain⟨p,hp,e⟩:=tJ hx
  refine bT e ?_
  rcases F.ploc p hp with h|⟨h,_⟩
  ·exact h.2
  ·exact absurd (hc▸h) Kr
 ·have sb:Sub s.heap h':=fun b o e=>hsb.extBut b o (Lb (Heap.lt_size e)) (Ku _ e)
  have free:∀{x},iK (fi.scope.names.lookup x)→∃i∈fi.free,wd.nm i=x:=fun{x} h=>F.freeK x (h.resolve_left fun e=>hnc _ (cE e) rfl)
  refine k _ _ ⟨C,⟨eD fa vs,H⟩,_,_,D,rfl,rfl,rfl,rfl,rfl,rfl,fun x b hx hcel=>?_,fun x hcel=>?_,g.new_ne,g.newNs sb (g.fresh (aR _)) (g.Bnone (aR _)) hns,fun p v e=>?_,rfl,rfl,sb,hw⟩
  ·obtain⟨i,hi,e⟩:=free hcel
   obtain rfl:=wd.inj _ _ e
   obtain⟨b',h1,h2⟩:=fA.closure i hi
   obtain rfl:=oInj (hx.symm.trans h1)
   exact h2
  ·obtain⟨i,hi,e⟩:=free hcel
   obtain⟨b',h1,_⟩:=fA.closure i hi
   exact⟨i,b',e,h1⟩
  ·obtain⟨y,hp,hy,r⟩:=nZ R.rel R.len p v (F.fpar▸(xe e).2)
   refine⟨y,fY ?_ (List.mem_reverse.mpr hy),r.keeps sb.keep⟩
   refine ab List.map_reverse ?_
   exact(List.reverse_perm _).nodup_iff.mpr (R.nodup F)
structure CellsAt(wd:Wd)(fi:FnInfo)(L:Addr)(cs:List (Str×Addr))(ad:Nat→Nat):Prop where
 at_:∀i∈fi.cells,cs.lookup (wd.nm i)=some (ad i)
 lt:∀i∈fi.cells,L<ad i
 nd:(fi.cells.map ad).Nodup
theorem Au(F:FnOK wd f fi fa z){n:Nat}{L:Addr}{m cm:Str→Option Value}{s2:Shared}(x:InCallC s L m (cellsFrom n fi.scope.names []) cm s2):∃ad,CellsAt wd fi L (cellsFrom n fi.scope.names []) ad:=by
 have at_:∀i∈fi.cells,(cellsFrom n fi.scope.names []).lookup (wd.nm i)=some (((cellsFrom n fi.scope.names []).lookup (wd.nm i)).getD 0):=fun i hi=>by
  obtain⟨b,e⟩:=Ks.mp (eG (k:=n) (acc:=[]) (F.cells▸List.mem_map_of_mem hi))
  refine ab e ?_;rfl
 refine⟨fun i=>((cellsFrom n fi.scope.names []).lookup (wd.nm i)).getD 0,at_,fun i hi=>x.above _ _ (mem_of_lookup (at_ i hi)),List.pairwise_map.mpr (F.cnd.imp_of_mem fun ha hb hab e=>hab (wd.inj _ _ (name_of_addr x.apart (mem_of_lookup (at_ _ ha)) ?_)))⟩
 exact e▸mem_of_lookup (at_ _ hb)
theorem rJ{l:List Nat}{g:Nat→Nat}{x b:Nat}(h:(l.zip (l.map g)).lookup x=some b):x∈l∧b=g x:=by
 rw[← List.map_prod_left_eq_zip]at h
 obtain⟨i,hi,e⟩:=K0.mp (cE h)
 obtain⟨rfl,rfl⟩:=Prod.mk.inj e
 exact⟨hi,rfl⟩
theorem Fh(F:FnOK wd f fi fa z)(hc:fi.cells≠[])(R:ArgR wd s.heap fi (dh fa vs) ys)(g:GL wd kd D B outs H s.heap){P:List (Nat×Nat)→St→Prop}
  (hw:∀as:List Nat,as.length=fi.cells.length→as.Nodup→(∀a∈as,H a=none)→P (fi.cells.zip as) ⟨eD fa vs,im (fun x=>(fa.params.zip (dh fa vs)).lookup x) (fi.cells.zip as) H⟩) {a:Addr} {M:Model} {A:Around} {E:Value→Shared→Prop} {Φ:Env→Shared→Prop}
  (k:∀env s2,EntR wd B outs fi fd s P env s2→Φ env s2):wpAny M A (newFunctionEnv fi.scope mainGlobals [] ((fi.params.map wd.nm).zip ys) (fi.qual ++ ".<locals>.") (some a) fd.code none builtinsNs) Φ E s:=by
 refine wpAny_newFunctionEnv_cells F.kind (fun x hx=>?_) fun env he s2 x2=>?_
 ·obtain⟨p,hp,e⟩:=tJ hx
  refine bT e ?_
  rcases F.ploc p hp with h|⟨h,h'⟩
  ·exact .inl h.2
  ·exact .inr ⟨h',eG (F.cells▸List.mem_map_of_mem h)⟩
 ·subst he
  obtain⟨ad,hat,hlt,hnd⟩:=Au F x2
  obtain⟨h2,tk,rfl⟩:=x2.toInCall.same
  have sb:Sub s.heap h2:=x2.toInCall.keep
  have hw':=hw (fi.cells.map ad) (Kf ..) hnd fun b hb=>by
   obtain⟨i,hi,rfl⟩:=K0.mp hb
   exact g.none fun z=>eB (z.symm.trans (g.fresh (KN (hlt i hi))))
  have hbind:∀i v,(fi.params.zip (dh fa vs)).lookup i=some v→i∉fi.cells→∃y,bindL (newEnv fi.scope s.heap.objs.size mainGlobals (cellsFrom (s.heap.objs.size+1) fi.scope.names []) (fi.qual ++ ".<locals>.") (some a) fd.code none builtinsNs).kindOf ((fi.params.map wd.nm).zip ys) (fun zz=>none) (wd.nm i)=some y∧VR wd h2 v y:=fun i v e hn=>by
   obtain⟨y,hp,hy,r⟩:=nZ R.rel R.len i v e
   exact⟨y,AA ((F.ploc i hp).resolve_right fun h=>hn h.1).2 (R.nodup F) hy,r.keeps sb.keep⟩
  have g1:=g.newNs sb (g.fresh (aR _)) (g.Bnone (aR _)) x2.toInCall.ns
  obtain⟨kd2,g3⟩:=GL.newCells (b:=fun x=>(fa.params.zip (dh fa vs)).lookup x) (ps:=fi.cells.zip (fi.cells.map ad)) g1 (by refine bT List.map_prod_left_eq_zip ?_;refine ab Lk ?_;exact hnd) fun p hp=>by
   rw[← List.map_prod_left_eq_zip]at hp
   obtain⟨i,hi,rfl⟩:=K0.mp hp
   have hgt:=hlt i hi
   refine⟨(Kg (Ld hgt)).trans (g.fresh (KN hgt)),g.Bnone (KN hgt),Nat.lt_trans (g.high (aR _)) hgt,?_⟩
   obtain⟨o,ho,hd⟩:=x2.cell _ _ (hat i hi)
   refine(?_:OR wd h2 D (ad i) (.cell ((fa.params.zip (dh fa vs)).lookup i)))
   refine ab F.fpar ?_
   cases hl:(fi.params.zip (dh fa vs)).lookup i with
   |none =>
    rw[lc fun hm=>?_]at hd
    ·exact .cell0 ho hd
    ·obtain⟨j,hj,e⟩:=K0.mp (R.names▸hm)
     exact yj R.len hl (wd.inj _ _ e▸hj)
   |some v =>
    obtain⟨y,hp,hy,r⟩:=nZ R.rel R.len i v hl
    have hk:=((F.ploc i hp).resolve_left fun h=>h.1 hi).2
    rw[sW (fun z=>nomatch (oInj (hk.symm.trans z):NameKind.cell=.local)) (R.nodup F) hy]at hd
    exact .cell ho hd (r.keeps sb.keep)
  refine k _ _ ⟨fi.cells.zip (fi.cells.map ad),⟨eD fa vs,im (fun x=>(fa.params.zip (dh fa vs)).lookup x) (fi.cells.zip (fi.cells.map ad)) H⟩,_,kd2,D,rfl,rfl,rfl,rfl,rfl,rfl,fun x b hx hcel=>?_,fun x hcel=>?_,g.new_ne,g3,fun p v e=>?_,rfl,rfl,sb,hw'⟩
  ·obtain⟨hi,rfl⟩:=rJ hx
   exact hat x hi
  ·have e:=hcel.resolve_right (F.nofree hc x)
   have h4:x∈fi.scope.names.filterMap dT:=List.mem_filterMap.mpr ⟨_,cE e,rfl⟩
   rw[F.cells]at h4
   obtain⟨i,hi,e⟩:=K0.mp h4
   refine⟨i,ad i,e,?_⟩
   refine bT List.map_prod_left_eq_zip ?_
   refine fY ?_ (K0.mpr ⟨i,hi,rfl⟩)
   refine ab Lk ?_
   exact(List.map_id fi.cells).symm▸F.cnd
  ·obtain⟨h1,h2⟩:=xe e
   exact hbind p v (F.fpar▸h2) (F.fcell▸h1)
theorem yo(F:FnOK wd f fi fa z){a:Addr}(fA:FnAt wd s.heap f C fi fd dv)(rd:VRs wd s.heap fi.dflts dv)(g:GL wd kd D B outs H s.heap)(rv:VRs wd s.heap vs xs)
  {P:List (Nat×Nat)→St→Prop} (hw:qG fa C vs H P) {M:Model} {A:Around} {E1 E2:Value→Shared→Prop} {Φ:Env→Shared→Prop} (k:∀env s2,EntR wd B outs fi fd s P env s2→Φ env s2) :
  wpAny M A (bindArgs fd ⟨xs,[]⟩) (fun binds s1=>wpAny M A (newFunctionEnv fd.scope fd.globals fd.closure binds (fd.qualname ++ ".<locals>.") (some a) fd.code none fd.builtins) Φ E1 s1) E2 s:=by
 obtain⟨⟨hf1,hf2⟩,hw⟩:=hw
 rw[F.fpar]at hf1 hf2
 rw[F.fdfl]at hf2
 have hlp:(fi.params.map wd.nm).length=fi.params.length:=Kf ..
 have hfdp:fd.params=⟨[],fi.args.args,none,[],fi.args.kw_defaults,none,fi.args.defaults⟩:=by
  refine ab fA.params ?_
  obtain⟨h1,h2,h3,h4⟩:=F.ps
  cases hh:fi.args
  rw[hh]at h1 h2 h3 h4
  dsimp only at h1 h2 h3 h4
  subst h1 h2 h3 h4
  rfl
 have hbt:=i5 (s:=s) (xs:=xs) (dv:=dv) hfdp F.params F.names (fA.dflts.imp And.right id) (hlp▸rd.length▸F.dl) (hlp▸rv.length▸hf1) (hlp▸rv.length▸rd.length▸hf2)
 have R:ArgR wd s.heap fi (dh fa vs) (xs++dv.drop (xs.length+dv.length-(fi.params.map wd.nm).length)):=by
  unfold dh
  refine ab F.fdfl ?_;refine ab F.fpar ?_;refine ab hlp ?_;refine bT rv.length ?_;refine bT rd.length ?_
  refine⟨?_,rv.append (rd.drop _)⟩
  refine ab Kl ?_;refine ab K8 ?_
  exact Ht hf1 hf2
 refine hbt _ _ _ _ ?_
 generalize xs++dv.drop (xs.length+dv.length-(fi.params.map wd.nm).length)=ys at R ⊢
 refine ab fA.scope ?_;refine ab fA.globals ?_;refine ab fA.builtins ?_;refine ab fA.qual ?_
 rw[F.fcell]at hw
 cases hc:fi.cells with
 |nil =>
  rw[hc]at hw
  exact Fi F fA hc R g hw k
 |cons c0 cr =>
  have hcne:fi.cells≠[]:=fun z=>nomatch hc.symm.trans z
  refine ab (fA.noclos hcne) ?_
  rw[hc]at hw
  exact Fh F hcne R g (hc▸hw) k
end
end
section
noncomputable def xU(b:FuncBody)(env:Env):Code:=match b with
 |.stmts b=>.func b env
 |.expr e=>.expr e env
section
variable {prog:Program} {w:World} {A:Around} {R:Result→Shared→Prop} {s:Shared}
theorem qd{e:Expr}{env:Env}
  (h:wpAny (model prog w) (A.deeper env) (eval e env) (fun v s'=>R (.ok (.ret v)) s')
   (fun e s'=>wpAny (model prog w) (A.deeper env) (leaving env e) (fun zz s''=>R (.error e) s'') (fun e' s''=>R (.error e') s'') s') s) :
  codeAny (model prog w) A (.expr e env) R s:=by
 refine codeAny_of_tree ?_
 refine(?_:wpAny _ (A.deeper env) (do point;ret (← (eval e env).onRaise (leaving env))) _ _ s)
 exact Kc (wpAny_point (Kc (wpAny_onRaise (KC h (fun v s' h'=>Ke h') fun zz zz h'=>h'))))
theorem eR{a:Addr}{args:Args}{o:Obj}{fd:FuncData}(hroom:A.depth<recursionLimit)(ho:s.heap.get? a=some o)
  (hd':o.data=.func fd) (hco:fd.scope.isCoroutine=false) (hgen:fd.scope.isGenerator=false) (hcd:s.heap.CodeRec fd.code fd.qualname)
  (h:wpAny (model prog w) A.in1 (bindArgs fd args) (fun binds s₁ =>
   wpAny (model prog w) A.in1 (newFunctionEnv fd.scope fd.globals fd.closure binds (fd.qualname ++ ".<locals>.") (some a) fd.code none fd.builtins)
    (fun env s₂=>s₂.heap.NoLimit∧codeAny (model prog w) A (xU fd.body env) R s₂) (fun e s'=>R (.error e) s') s₁) (fun e s'=>R (.error e) s') s) :
  codeAny (model prog w) A (.call (.ref a) args) R s:=by
 refine codeAny_of_tree ?_
 refine(?_:wpAny _ A.in1 (callAny (.ref a) args) _ _ s)
 simp only[callAny]
 refine Kc (wpAny_load ho ?_)
 obtain⟨c,oc,vs,tq,hc,hoc,hdc,hq⟩:=hcd
 simp only[hd',callFunction,hco,hgen,hc]
 rw[hc]at h
 refine Kc (m:=field (.ref c) 1) (wpAny_field hoc hdc hq (Kc (Ke ?_)))
 refine Kc (KC h (fun binds s₁ h₁=>Kc (KC h₁ (fun env s₂ h₂=>?_) fun zz zz h'=>h')) fun zz zz h'=>h')
 refine Kc (wpAny_enterFrame h₂.1 hroom ?_)
 have h3:=h₂.2
 cases hb:fd.body with
 |stmts b=>rw[hb]at h3;exact Ke (And.intro rfl h3)
 |expr e=>rw[hb]at h3;exact Ke (And.intro rfl h3)
end
structure TabOK(wd:Wd)(T:Tab):Prop where
 fn:∀f fa,T.fn f=some fa→∃fi z,FnOK wd f fi fa z
 GC:T.GC=wd.GC
 CI:T.CI=wd.CI
 mth:T.mth=wd.mth
 attrs:T.attrs=wd.attrs
theorem jr{A:Around}{env:Env}{l:List Env}(h:A.frames=some l):(A.deeper env).frames=some (env::l):=congrArg (Option.map (env::·)) h
theorem HU{a n l:Nat}(h:a+10*(n+1)+15<l):a+1+10*n+20<l :=
 bD (by rw[Nat.mul_succ,Nat.add_right_comm a 1,← Lf,Lf _ 1,Lf _ 10];exact cS (by decide) _) h
theorem HT{a n l:Nat}(h:a+20*(n+1)+215<l):a+3+20*n+230<l :=
 bD (by rw[Nat.mul_succ,Nat.add_right_comm a 3,← Lf,Lf _ 3,Lf _ 20];exact cS (by decide) _) h
theorem HS{a n l:Nat}(h:a+10*(n+1)+15<l):a<l:=bD (am (KB _ _) (KB _ _)) h
noncomputable def lJ(T:Tab)(n:Nat)(hd:Bool)(A:Around)(env:Env)(C:List (Nat×Nat))(fa:FA)(outs:List (Addr×(Str→Option Value)))(envs:List Env)(z:SC):Ctx :=
 {A:=A.deeper env,env:=env,c:=bv T (AC T n false) (AC T n true) hd C fa.LN,outs:=outs,envs:=env::envs,z:=z,d:=n }
section
variable {wd:Wd} {T:Tab}
theorem vY(W:wd.OK)(Ex:wd.Exc){n:Nat}{hd:Bool}{A:Around}{env:Env}{C:List (Nat×Nat)}{fa:FA}{outs:List (Addr×(Str→Option Value))}{envs:List Env}{z:SC}{b:FuncBody}(ok:(lJ T n hd A env C fa outs envs z).OK wd)(hh:(lJ T n hd A env C fa outs envs z).Has wd)(hf:env.frame=some env.locals)(hb:Bv z b fa.body)
  {B:Heap} {m:Str→Option Value} {σ:St} {s:Shared} (S:SS wd (lJ T n hd A env C fa outs envs z) B m σ s) {Q:V→Hp→Prop} {E:Nat→Hp→Prop} (h:uL fa.body (bv T (AC T n false) (AC T n true) hd C fa.LN) σ Q E):codeAny (model wd.prog wd.w) A (xU b env) (jy wd B outs Q E) s:=by
 have st:(lJ T n hd A env C fa outs envs z).St:=⟨⟨envs,rfl⟩,hf⟩
 have leave:∀{e:Value} {s3:Shared},PX wd (lJ T n hd A env C fa outs envs z) B s (fun k σ=>E k σ.H) e s3→wpAny (model wd.prog wd.w) (A.deeper env) (leaving env e) (fun zz s''=>jy wd B outs Q E (.error e) s'') (fun e' s''=>jy wd B outs Q E (.error e') s'') s3:=fun{e s3} q=>by
  obtain⟨k,σ3,m3,x3,k3,q3⟩:=q
  unfold leaving
  refine Kc (n4 ok st x3 fun s4 x4 k4=>eX x4 fun s5 x5 k5=>?_)
  obtain⟨⟨kd5,D5,g5,ex5⟩,l5,hg5,hos5⟩:=x5
  exact⟨k,σ3.H,kd5,D5,g5.tailOut,hg5,hos5,ex5.at CY,q3⟩
 generalize fa.body=p at hb h
 cases b with
 |stmts b =>
  cases p with
  |ex pe=>exact hb.elim
  |st pb =>
   refine codeAny_func (KC (ey (u8 W Ex 40 _ ok hh st) hb B B m σ s _ _ S ⟨Sub.refl _,S.gdB,fun k hk hz=>?_⟩ h) (fun f s3 q=>?_) fun e s3 hx=>leave hx)
   ·cases hd with
    |false=>exact nS hz
    |true=>exact absurd hk (oInj hz▸Le _)
   ·obtain⟨fl,σ3,m3,⟨⟨kd3,D3,g3⟩,l3,hg3,hos3⟩,r3,k3,q3⟩:=q
    cases r3 with
    |next=>exact⟨.none,σ3.H,kd3,D3,g3.tailOut,hg3,hos3,.none,q3⟩
    |cont=>exact q3.elim
    |ret r=>exact⟨_,σ3.H,kd3,D3,g3.tailOut,hg3,hos3,r,q3⟩
 |expr e =>
  cases p with
  |st pb=>exact hb.elim
  |ex pe =>
   refine qd (KC ((cM W _ ok hh e pe hb).je B m σ s _ _ S h) (fun v s3 q=>?_) fun e s3 hx=>leave hx)
   obtain⟨av,σ3,m3,⟨⟨kd3,D3,g3⟩,l3,hg3,hos3⟩,r3,k3,q3⟩:=q
   exact⟨_,σ3.H,kd3,D3,g3.tailOut,hg3,hos3,r3,q3⟩
inductive CloR(wd:Wd)(h:Heap)(f:Nat)(C:List (Nat×Nat))(x:Value):Prop|mk (a:Addr) (fi:FnInfo) (fd:FuncData) (o:Obj) (dv:List Value):x=.ref a→h.get? a=some o→o.data=.func fd→FnAt wd h f C fi fd dv→VRs wd h fi.dflts dv→CloR wd h f C x
theorem VR.clo_{h:Heap}{v:V}{p}{x:Value}(r:VR wd h v x):v.clo?=some p→CloR wd h p.1 p.2 x:=by
 apply @VR.casesOn wd h (fun v x zz=>v.clo?=some p→CloR wd h p.1 p.2 x) _ _ r
 case clo=>intro _ _ _ _ _ _ _ a b c d e;obtain rfl:=oInj e;exact⟨_,_,_,_,_,rfl,a,b,c,d⟩
 all_goals (intros;exact nS ‹_›)
theorem s9(W:wd.OK)(Ex:wd.Exc)(TK:TabOK wd T):∀(n:Nat) (hd:Bool) (f:V) (vs:List V) (H:Hp) (Q:V→Hp→Prop) (E:Nat→Hp→Prop),AC T n hd f vs H Q E→Calls wd hd n f vs H Q E:=by
 intro n
 induction n with
 |zero=>intro _ _ _ _ _ _ h;exact h.elim
 |succ n ih =>
  intro hd f vs H Q E h
  obtain⟨⟨g,C⟩,hc,h⟩:=nd (show aG f.clo? fun p=>aG (T.fn p.1) fun fa=>qG fa p.2 vs H fun C' σ=>uL fa.body (bv T (AC T n false) (AC T n true) hd C' fa.LN) σ Q E from by cases f<;>exact h)
  obtain⟨fa,hfa,h⟩:=nd h
  obtain⟨fi,z,F⟩:=TK.fn g fa hfa
  intro A envs outs B s fv xs kd D hA hfr hhd hdep huni gl gens os rf rv
  obtain⟨a,fi',fd,o,dv,rfl,ha,hda,fA,rd⟩:=rf.clo_ hc
  obtain rfl:fi'=fi:=oInj (fA.hfi.symm.trans F.hfi)
  refine eR (HS hdep) ha hda (fA.scope▸F.co) (fA.scope▸F.gen) (fA.qual▸fA.codeRec) ?_
  refine yo F fA rd gl rv h fun env s2 q=>?_
  obtain⟨C',σ,m,kd',D',e1,e2,e3,e4,e5,e6,e7,e8,e9,g2,lr2,hg2,ho2,sb,hP⟩:=q
  refine⟨(g2.gd.sub g2.base).nolimit,?_⟩
  have hk:∀x,z.kind x=fi'.scope.names.lookup x:=fun x=>congrArg (·.names.lookup x) F.zs
  have hko:∀x,env.kindOf x=fi'.scope.names.lookup x:=fun x=>congrArg (·.names.lookup x) e1
  have hkk:∀x,z.kind x=env.kindOf x:=fun x=>(hk x).trans (hko x).symm
  have ok:(lJ T n hd A env C' fa outs envs z).OK wd :=
   {frames:=jr hA
    fr:=KI.mpr ⟨⟨fun z=>(nomatch (F.kind▸e1▸z:ScopeKind.function=.module)),_,e5,.head _⟩,fun e he=>let ⟨h1,L,h2,h3⟩:=hfr e he;⟨h1,L,h2,.tail _ h3⟩⟩
    ne:=e9
    kind:=(congrArg Scope.kind e1).trans F.kind
    globals:=e2
    builtins:=e3
    loc:=fun x hx=>(hkk x).symm.trans hx
    cel:=fun x hx=>(hkk x)▸hx
    glo:=fun x hx=>(hkk x).symm.trans hx
    nid:=F.nid
    gk:=F.gk
    cells:=fun x a hx hc=>e7 x a hx ((hk _)▸hc)
    hasC:=fun x hx=>e8 x ((hk x)▸hx)
    lam:=fun g' fr nd hl=>by
     obtain⟨⟨P,hP'⟩,hl2⟩:=F.lam g' fr nd hl
     obtain⟨c,hc,ht⟩:=fA.tab P hP'
     exact hl2 env e4 c P (e6.trans hc) ht
    GC:=TK.GC
    CI:=TK.CI
    mth:=TK.mth
    attrs:=TK.attrs
    handled:=fun z=>by
     cases hd with
     |false=>exact hhd rfl
     |true=>exact nS z.symm
    depth:=HU hdep
    units:=HT huni }
  have hbody:=F.body
  rw[← fA.body,← F.fbody]at hbody
  exact vY W Ex ok ⟨ih false,ih true⟩ e5 hbody ⟨⟨kd',D',g2⟩,lr2,hg2.trans gens,ho2.trans os⟩ hP
end
end
section
open Builtin Builtin.ObjectAttr
noncomputable def d8:List Value→Bool
 |.type n::r=>n == "Exception" && r==[.type "BaseException",.type "object"]
 |.ref _::r=>d8 r
 |_=>false
theorem tm(self:Value):refuseLoop self "__setattr__" [.type "Exception",.type "BaseException",.type "object"]=pure ():=by kernel_rfl
theorem vd(self:Value){l:List Value}:d8 l=true→refuseLoop self "__setattr__" l=pure ():=by
 induction l with
 |nil=>exact fun e=>fT e
 |cons x r ih =>
  apply @Value.casesOn (fun x=>d8 (x::r)=true→refuseLoop self "__setattr__" (x::r)=pure ()) x
  case type =>
   intro n e
   refine ab (beq_iff_eq.mp (ak e)) ?_;refine ab (beq_iff_eq.mp (aK e)) ?_
   exact tm self
  case ref=>intro c e;rw[refuseLoop_ref];exact ih e
  all_goals (intros;exact fT ‹_›)
noncomputable abbrev iV(C:Addr)(vs:Array Value)(dd:Option Addr):Obj:={ cls:=.ref C,dict:=dd,data:=.fields vs }
section
variable {prog:Program} {w:World} {s:Shared} {R:Result→Shared→Prop} {K:Frag} {x C dx:Addr} {vs:Array Value} {name:Str} {tk:Tok} {v:Value} {es:List DictEntry} {n:Nat} {A:Around}
theorem rq{dd:Option Addr}(X:K.In s.heap)(hx:s.heap.get? x=some (iV C vs dd))(hm:iS K C=true)(hp:(clsIn K C).any (fun cd=>d8 cd.mro)=true)(ht:findIn K (.ref C) name=some none)
  (h:∀b,wpAny (model prog w) A.in1 (storeInOwnDict (.ref x) (.ref C) (.str name tk) name v b)
   (fun fin s'=>match fin with|.done f=>R (.ok f) s'|.again c'=>c'.quiet=true∧codeAny (model prog w) A c' R s') (fun e s'=>R (.error e) s') s) :
  codeAny (model prog w) A (.call (.builtin "object.__setattr__") ⟨[.ref x,.str name tk,v],[]⟩) R s:=by
 have SF:=PySem.F.store_object
 obtain⟨cd,hc,ho⟩:=any_some hp
 have Y:=gQ (M:=model prog w) X hm
 have hT:Looks (model prog w) s.heap (typeOf (.ref x)) (.ref C):=(Looks.ld hx).andThen .now
 have sub:Looks (model prog w) s.heap (isInstance (.ref x) (.type "object")) true:=hT.andThen Y.top
 refine codeAny_call_builtin SF.slot.plain SF.entry (@check_slot (model prog w) _ _ s "object.__setattr__" "object" "__setattr__" (.ref x) [.str name tk,v] [] _ SF.kind SF.split sub (SF.args (.ref x) (.str name tk) v) ?_)
 have hmr:Looks (model prog w) s.heap (mroOf (.ref C)) cd.mro:=(looks_clsIn X hc).andThen .now
 rw[osa_eq,refuse_eq]
 refine Kc (Kc (hT.here (Kc (hmr.here ?_))))
 refine ab (vd _ ho) ?_
 refine Ke (Kc (hT.here (Kc ((looks_findIn X ht).here (Kc (Ke ?_))))))
 exact h _
theorem t6(name:Str)(hs:Int)(k v:Value):∀es:List DictEntry,(putL name hs k v es).length≤es.length+1
 |[]=>aR _
 |a::r=>by
  show List.length (if _ then _ else _)≤_
  by_cases z:a.key.isStr name=true
  ·refine ab (Kh z) ?_;exact Nat.le_succ _
  ·refine ab (Kg z) ?_;exact dc (t6 name hs k v r)
set_option tactic.hygienic true in
theorem mQ{d:Addr}{Q:Fin→Shared→Prop}{E:Value→Shared→Prop}(hdx:s.heap.get? d=some (dictOf es n))(hl:(getL name es).isSome=true)(hz:es.length≤1000)
  (h:∀n' h',h'.get? d=some (dictOf (putL name (PyData.keyHash w.params name) (.str name s.toks) v es) n')→Heap.ExtBut d s.heap h'→Q (.done (.ret .none)) { s with heap:=h',toks:=s.toks+1 }) :
  wpAny (model prog w) A (storeInDict d (.str name tk) name v) Q E s:=by
 have e:Obj.putName name (PyData.keyHash w.params name) (.str name s.toks) v (dictOf es n)=dictOf (putL name (PyData.keyHash w.params name) (.str name s.toks) v es) (putN name es n):=putName_dict ..
 have D':(s.heap.update d (Obj.putName name (PyData.keyHash w.params name) (.str name s.toks) v)).get? d=some (dictOf (putL name (PyData.keyHash w.params name) (.str name s.toks) v es) (putN name es n)):=e▸Heap.get?_update_self _ hdx (e▸rfl)
 have hlen':=t6 name (PyData.keyHash w.params name) (.str name s.toks) v es
 unfold storeInDict newKeyGuard
 refine Kc (Ke (Kc ?_))
 unfold nsSet
 refine Kc (Kc (wpAny_askSetting (Ke (Kc (wpAny_mkText (Kc (wpAny_loadPart hdx ?_)))))))
 have c:(!es.any (·.key.isStr name)&&es.any (·.refKey))=false:=by
  unfold getL at hl
  split at hl
  ·rename_i en he
   refine ab (List.any_eq_true.mpr ⟨en,List.mem_of_find?_eq_some he,List.find?_some he⟩) ?_;rfl
  ·split at hl
   ·injection hl
   ·rename_i z;rw[Bool.not_eq_true]at z;refine ab z ?_;rw[Bool.and_false]
 have c':(!es.toArray.any (·.key.isStr name)&&es.toArray.any (·.refKey))=false:=by
  refine bT Array.any_toList ?_;refine bT Array.any_toList ?_;exact c
 dsimp only
 rewrite[aRefKeyMayBeTheName_at];refine ab c' ?_
 refine wpAny_updatePart hdx ?_
 refine Kc (wpAny_lookBehind D' (pastItsLine_dict (by refine ab List.size_toArray ?_;refine ab sizeLine_eq ?_;exact am hlen' (am (dc hz) (by decide)))) ?_)
 exact Ke (h _ _ D' (Heap.SameBut.update _ _ _).extBut)
theorem wU(X:K.In s.heap)(hx:s.heap.get? x=some (iV C vs none))(hm:iS K C=true)(hp:(clsIn K C).any (fun cd=>d8 cd.mro)=true)(ht:findIn K (.ref C) name=some none)
  (h:∀dx es n h',s.heap.get? dx=none→h'.get? x=some (iV C vs (some dx))→h'.get? dx=some (dictOf es n)→es.length≤1→(∀nm,(getL nm es).isSome=true)→Heap.ExtBut x s.heap h'→R (.ok (.ret .none)) { s with heap:=h',toks:=s.toks+1 }) :
  codeAny (model prog w) A (.call (.builtin "object.__setattr__") ⟨[.ref x,.str name tk,v],[]⟩) R s:=by
 refine rq X hx hm hp ht fun b=>?_
 obtain⟨⟨oc,od,cd,sl,hC,e1,e2,e4,e5⟩,_⟩:=gQ (M:=model prog w) X hm
 unfold storeInOwnDict
 refine Kc (Ke (Kc ?_))
 unfold ownDictForStores instanceDict
 refine Kc (wpAny_loadPart hx (Kc ?_))
 unfold classData
 refine Kc (wpAny_load hC (Ke ?_))
 refine ab e5 ?_
 have hk:∀b o,b≠x→s.heap.get? b=some o→((s.heap.push emptyDict).update x fun o=>{ o with dict:=some s.heap.objs.size }).get? b=some o:=fun b o hb e=>by
  refine ab (Heap.get?_update_other _ _ (Ne.symm hb)) ?_;exact Ku _ e
 have hx1:(s.heap.push emptyDict).get? x=some (iV C vs none):=Ku _ hx
 have hxd:x≠s.heap.objs.size:=Lb (Heap.lt_size hx)
 have hx2:((s.heap.push emptyDict).update x fun o=>{ o with dict:=some s.heap.objs.size }).get? x=some (iV C vs (some s.heap.objs.size)):=Heap.get?_update_self _ hx1 rfl
 have hd2:((s.heap.push emptyDict).update x fun o=>{ o with dict:=some s.heap.objs.size }).get? s.heap.objs.size=some (dictOf [] 0):=by
  refine ab (Heap.get?_update_other _ _ hxd) ?_;exact Heap.get?_push_at rfl rfl
 refine(?_:wpAny _ _ (do
  let d←alloc { cls:=Value.type "dict",data:=Data.dict #[] }
  update x fun o=>{ cls:=o.cls,dict:=some d,data:=o.data,slots:=o.slots }
  dictMade (.ref C) x d) _ _ _)
 refine Kc (wpAny_alloc (Kc (wpAny_update hx1 (Ke ?_))))
 refine mQ (s:={ s with heap:=(s.heap.push emptyDict).update x fun o=>{ o with dict:=some s.heap.objs.size } }) (n:=0) hd2 rfl (Kx _) fun n' h' hd' hb=>?_
 refine h s.heap.objs.size _ n' h' (Heap.get?_none_of_le (aR _)) (hb _ _ hxd hx2) hd' (aR _) (fun nm=>?_) (fun b o hb' e=>hb _ _ (Lb (Heap.lt_size e)) (hk b o hb' e))
 simp[putL,getL,DictEntry.refKey]
 split<;>rfl
theorem zc(X:K.In s.heap)(hx:s.heap.get? x=some (iV C vs (some dx)))(hdx:s.heap.get? dx=some (dictOf es n))(hm:iS K C=true)(hp:(clsIn K C).any (fun cd=>d8 cd.mro)=true)(ht:findIn K (.ref C) name=some none)
  (hl:(getL name es).isSome=true) (hz:es.length≤1000)
  (h:∀h',Heap.ExtBut dx s.heap h'→R (.ok (.ret .none)) { s with heap:=h',toks:=s.toks+1 }) :
  codeAny (model prog w) A (.call (.builtin "object.__setattr__") ⟨[.ref x,.str name tk,v],[]⟩) R s:=by
 refine rq X hx hm hp ht fun b=>?_
 obtain⟨⟨oc,od,cd,sl,hC,e1,e2,e4,e5⟩,_⟩:=gQ (M:=model prog w) X hm
 unfold storeInOwnDict
 refine Kc (Ke (Kc ?_))
 unfold ownDictForStores instanceDict
 refine Kc (wpAny_loadPart hx (Kc ?_))
 unfold classData
 refine Kc (wpAny_load hC (Ke ?_))
 refine ab e5 ?_
 refine Ke ?_
 exact mQ hdx hl hz fun n' h' zz hb=>h h' hb
end
end
section
open Builtin Builtin.ObjectAttr
noncomputable def uH(h h':Heap)(x C:Addr):Prop:=(∀b o,b≠x→h.get? b=some o→h'.get? b=some o)∧∃vs dd,h'.get? x=some (iV C vs dd)∧vs[1]?=some .none
section
variable {prog:Program} {w:World} {s:Shared} {R:Result→Shared→Prop} {K:Frag} {x C fI t0:Addr} {vs:Array Value} {A:Around} {mg mb:Str→Option Value}
theorem vD{env:Env}{m:Str→Option Value}{what atv:Value}{t:Addr}{p1 p2 p3 p4 p5 p6 q1 q2 q3 q4 r1 r2 r3 r4:Pos}{Q:Flow→Shared→Prop}{E:Value→Shared→Prop}
  (X:K.In s.heap) (hm:iS K C=true) (hp:(clsIn K C).any (fun cd=>d8 cd.mro)=true) (hw:findIn K (.ref C) "what" = some none) (ha:findIn K (.ref C) "at" = some none) (hset:findIn K (.ref C) "__setattr__" = some (some (.builtin "object.__setattr__")))
  (hxK:K.lookup x=none)
  (hk:env.scope.kind=.function) (k1:env.kindOf "self" = some .local) (k2:env.kindOf "what" = some .local) (k3:env.kindOf "at" = some .local) (k4:env.kindOf "Exception" = some .globalImplicit)
  (hg:s.heap.Ns env.globals mg) (hb:s.heap.Ns env.builtins mb) (e1:mg "Exception" = none) (e2:mb "Exception" = some (.type "Exception"))
  (hn:s.heap.Ns env.locals m) (m1:m "self" = some (.ref x)) (m2:m "what" = some what) (m3:m "at" = some atv) (hline:(p2.endLine==p5.line)=true)
  (hL:env.locals≠x)
  (hx:s.heap.get? x=some (iV C vs none)) (hx0:vs[0]?=some (.ref t)) (hx1:vs[1]?=some .none)
  (h:∀h' n,uH s.heap h' x C→Q .next { s with heap:=h',toks:=n }) :
  wpAny (model prog w) A (execs [.Expr (.Call (.Attribute (.Name "Exception" p1) "__init__" p2) [.Name "self" p3,.Name "what" p4] [] p5) p6,
   .Assign [.Attribute (.Name "self" q1) "what" q2] (.Name "what" q3) q4,.Assign [.Attribute (.Name "self" r1) "at" r2] (.Name "at" r3) r4] env) Q E s:=by
 obtain⟨h0,g,d,tk,os⟩:=s
 dsimp only at X hg hb hn hx
 have pl:∀e∈[Expr.Name "self" p3,Expr.Name "what" p4],cG e=true:=by
  intro e he
  rcases mCo he with rfl|he
  ·rfl
  ·obtain rfl:=mSng he;rfl
 refine wpAny_execs_cons (wpAny_Expr_any ?_ (by unfold interactive;refine ab hk ?_;rfl) (by rfl))
 refine pD rfl hline pl (by refine(?_:2<10);decide) ?_
 refine Name_function_global hk k4 (loadGlobal_builtin hg e1 hb e2 ?_) (by decide)
 refine CW ?_
 refine iU (P:=fun zz=>True) pl (fun h zz=>gJ h (by intro a z;injection z)) ?_
 refine spliced_more (wpAny_Name (wpAny_loadName_local hk k1 hn m1 ?_) (by decide)) (bw rfl)
 refine spliced_more (wpAny_Name (wpAny_loadName_local hk k2 hn m2 ?_) (by decide)) (bw rfl)
 refine spliced_none ⟨trivial,?_⟩
 refine Bx (rest:=[what]) (gQ X hm) hx rfl rfl hx0 (by size_fits) ?_
 have keepK:∀{h1 h2:Heap} {y:Addr},K.In h1→(∀b o,K.lookup b=some o→b≠y)→(∀b o,b≠y→h1.get? b=some o→h2.get? b=some o)→K.In h2:=fun a n k b o e=>k b o (n b o e) (a b o e)
 have keepN:∀{h1 h2:Heap} {y L:Addr} {mm:Str→Option Value},h1.Ns L mm→L≠y→(∀b o,b≠y→h1.get? b=some o→h2.get? b=some o)→h2.Ns L mm:=fun⟨o,es,ep,e,r⟩ n k=>⟨o,es,ep,k _ _ n e,r⟩
 have hKx:∀b o,K.lookup b=some o→b≠x:=fun b o e z=>by rw[z,hxK]at e;injection e
 have hx':((h0.push (d0 [what])).update x (Obj.mapFields fun a=>a.setIfInBounds 0 (.ref h0.objs.size))).get? x=some (iV C (vs.setIfInBounds 0 (.ref h0.objs.size)) none) :=
  Heap.get?_update_self _ (Ku _ hx) rfl
 have k1':∀b o,b≠x→h0.get? b=some o→((h0.push (d0 [what])).update x (Obj.mapFields fun a=>a.setIfInBounds 0 (.ref h0.objs.size))).get? b=some o:=fun b o n e=>by
  refine ab (Heap.get?_update_other _ _ (Ne.symm n)) ?_;exact Ku _ e
 have v1:(vs.setIfInBounds 0 (.ref h0.objs.size))[1]?=some .none:=by refine ab (Array.getElem?_setIfInBounds_ne (by decide)) ?_;exact hx1
 generalize (h0.push (d0 [what])).update x (Obj.mapFields fun a=>a.setIfInBounds 0 (.ref h0.objs.size))=h1 at hx' k1'
 generalize vs.setIfInBounds 0 (.ref h0.objs.size)=vs1 at hx' v1
 have X1:=keepK X hKx k1'
 have n1:=keepN hn hL k1'
 refine wpAny_execs_cons (plainObj_wpAny_Assign_Attribute (wpAny_Name (wpAny_loadName_local hk k2 n1 m2 (wpAny_Name (wpAny_loadName_local hk k1 n1 m1 ?_) (by decide))) (by decide)))
 refine PySem.W.set_plain X1 (od:=none) ⟨hx',rfl,rfl,trivial⟩ hset (wU X1 hx' hm hp hw fun dx es n h2 hdx0 hx2 hd2 hes hgl hb2=>?_)
 have X2:=keepK X1 hKx hb2
 have n2:=keepN n1 hL hb2
 refine wpAny_execs_cons (plainObj_wpAny_Assign_Attribute (wpAny_Name (wpAny_loadName_local hk k3 n2 m3 (wpAny_Name (wpAny_loadName_local hk k1 n2 m1 ?_) (by decide))) (by decide)))
 refine PySem.W.set_plain X2 (od:=some (dictOf es n)) ⟨hx2,rfl,rfl,hd2⟩ hset (zc X2 hx2 hd2 hm hp ha (hgl _) (am hes (by decide)) fun h3 hb3=>?_)
 refine wpAny_execs_nil (h h3 _ ⟨fun b o n e=>hb3 _ _ (fun z=>?_) (hb2 _ _ n (k1' _ _ n e)),vs1,some dx,hb3 _ _ (fun z=>?_) hx2,v1⟩)
 ·have:=k1' _ _ n e
  rw[z,hdx0]at this;injection this
 ·rw[← z,hx']at hdx0;injection hdx0
end
end
section
open Builtin Builtin.ObjectAttr
structure InitFn(K:Frag)(fI:Addr):Prop where
 fn:∃(o:Obj) (fd:FuncData) (as:List Arg) (kd:List (Option Expr)) (de:List Expr) (sc:Scope) (t0:Addr) (dv:Value) (p1 p2 p3 p4 p5 p6 q1 q2 q3 q4 r1 r2 r3 r4:Pos),K.lookup fI=some o∧o.data=.func fd∧fd.params=⟨[],as,none,[],kd,none,de⟩∧as.map (·.arg)=(["self", "what", "at"]:List Str) ∧
  fd.scope=sc∧sc.kind=.function∧sc.isCoroutine=false∧sc.isGenerator=false∧(∀x∈sc.names,x.2≠.cell)∧sc.names.lookup ("self" : Str)=some .local∧sc.names.lookup ("what" : Str)=some .local∧sc.names.lookup ("at" : Str)=some .local∧sc.names.lookup ("Exception" : Str)=some .globalImplicit ∧
  fd.globals=mainGlobals∧fd.builtins=builtinsNs∧fd.defaults=.ref t0∧(∀h,K.In h→IsTup h t0 [dv].toArray)∧(∀h,K.In h→h.CodeRec fd.code fd.qualname)∧(p2.endLine==p5.line)=true ∧
  fd.body=.stmts [.Expr (.Call (.Attribute (.Name "Exception" p1) "__init__" p2) [.Name "self" p3,.Name "what" p4] [] p5) p6,
   .Assign [.Attribute (.Name "self" q1) "what" q2] (.Name "what" q3) q4,.Assign [.Attribute (.Name "self" r1) "at" r2] (.Name "at" r3) r4]
section
variable {prog:Program} {w:World} {s:Shared} {R:Result→Shared→Prop} {K:Frag} {x C fI:Addr} {vs:Array Value} {A:Around} {mg mb:Str→Option Value}
theorem vC{what:Value}{t:Addr}
  (F:InitFn K fI) (X:K.In s.heap) (hm:iS K C=true) (hp:(clsIn K C).any (fun cd=>d8 cd.mro)=true) (hw:findIn K (.ref C) "what" = some none) (ha:findIn K (.ref C) "at" = some none) (hset:findIn K (.ref C) "__setattr__" = some (some (.builtin "object.__setattr__")))
  (hxK:K.lookup x=none) (hroom:A.depth<recursionLimit) (nl:s.heap.NoLimit)
  (hg:s.heap.Ns mainGlobals mg) (hb:s.heap.Ns builtinsNs mb) (e1:mg "Exception" = none) (e2:mb "Exception" = some (.type "Exception"))
  (hx:s.heap.get? x=some (iV C vs none)) (hx0:vs[0]?=some (.ref t)) (hx1:vs[1]?=some .none)
  (h:∀h' n,uH s.heap h' x C→R (.ok (.ret .none)) { s with heap:=h',toks:=n }) :
  codeAny (model prog w) A (.call (.ref fI) ⟨[.ref x,what],[]⟩) R s:=by
 obtain⟨o,fd,as,kd,de,sc,t0,dv,p1,p2,p3,p4,p5,p6,q1,q2,q3,q4,r1,r2,r3,r4,f1,f2,f3,f4,f5,f6,f7,f8,f9,f10,f11,f12,f13,f14,f15,f16,f17,f18,f19,f20⟩:=F.fn
 subst f5
 refine eR hroom (X _ _ f1) f2 f7 f8 (f18 _ X) ?_
 refine i5 (s:=s) (xs:=[.ref x,what]) (dv:=[dv]) f3 f4 (by decide +kernel) (.inr ⟨t0,f16,f17 _ X⟩) (by refine(?_:1≤3);decide) (by refine(?_:2≤3);decide) (by refine(?_:3≤2+1);decide) _ _ _ _ ?_
 refine wpAny_newFunctionEnv f9 (fun y hy=>?_) (fun h' hns hsb=>?_) f6
 ·have:y.1 = "self" ∨ y.1 = "what" ∨ y.1 = "at" := by
   have:=(List.of_mem_zip (a:=y.1) (b:=y.2) hy).1
   simpa using this
  rcases this with e|e|e<;>refine ab e ?_<;>assumption
 ·have sb:Sub s.heap h':=fun b o e=>hsb.extBut b o (Lb (Heap.lt_size e)) (Ku _ e)
  refine⟨nl.keeps sb,?_⟩
  refine ab f20 ?_
  have hxl:=Heap.lt_size hx
  refine codeAny_func (vD (mg:=mg) (mb:=mb) (s:={ s with heap:=h',toks:=_ }) (X.keeps sb) hm hp hw ha hset hxK f6 f10 f11 f12 f13 (by refine(?_:h'.Ns _ _);refine ab f14 ?_;exact hg.keeps sb) (by refine(?_:h'.Ns _ _);refine ab f15 ?_;exact hb.keeps sb) e1 e2 hns (what:=what) (atv:=dv) ?_ ?_ ?_ f19 (Ld hxl) (sb _ _ hx) hx0 hx1 fun h2 n ⟨i1,i2⟩=>?_)
  ·rfl
  ·rfl
  ·rfl
  ·exact h h2 n ⟨fun b o nb e=>i1 b o nb (sb _ _ e),i2⟩
end
theorem w9{prog:Program}{w:World}{s:Shared}{K:Frag}{C fI:Addr}{A:Around}{mg mb:Str→Option Value}{what:Value}{Q:Value→Shared→Prop}{E:Value→Shared→Prop}
  (F:InitFn K fI) (X:K.In s.heap) (hm:iS K C=true) (hp:(clsIn K C).any (fun cd=>d8 cd.mro)=true) (hi:findIn K (.ref C) "__init__" = some (some (.ref fI))) (hf:typeIn K (.ref fI)=some (.type "function")) (hw:findIn K (.ref C) "what" = some none) (ha:findIn K (.ref C) "at" = some none) (hset:findIn K (.ref C) "__setattr__" = some (some (.builtin "object.__setattr__")))
  (hroom:A.depth+15<recursionLimit) (nl:s.heap.NoLimit)
  (hg:s.heap.Ns mainGlobals mg) (hb:s.heap.Ns builtinsNs mb) (e1:mg "Exception" = none) (e2:mb "Exception" = some (.type "Exception"))
  (h:∀h' n a oe vs,Sub s.heap h'→s.heap.get? a=none→h'.get? a=some oe→oe.cls=.ref C→oe.data=.fields vs→vs[1]?=some .none→Q (.ref a) { s with heap:=h',toks:=n }) :
  wpAny (model prog w) A (call (.ref C) [what]) Q E s:=by
 obtain⟨h0,g,d,tk,os⟩:=s
 refine wpAny_call (vp (gQ X hm) (looks_findIn X hi) (fun self=>bind_fn X self hf) (by size_fits) ?_)
 have sb:Sub h0 ((h0.push (d0 [what])).push (fP C h0.objs.size)):=fun b o e=>Ku _ (Ku _ e)
 have hx:((h0.push (d0 [what])).push (fP C h0.objs.size)).get? (h0.objs.size+1)=some (fP C h0.objs.size):=by heap_get
 have hxn:h0.get? (h0.objs.size+1)=none:=Heap.get?_none_of_le (Nat.le_succ _)
 refine vC F (X.keeps sb) hm hp hw ha hset (K:=K) (mg:=mg) (mb:=mb) ?_ ?_ (nl.keeps sb) (hg.keeps sb) (hb.keeps sb) e1 e2 hx rfl rfl fun h' n ⟨i1,vs,dd,i2,i3⟩=>?_
 ·cases e:K.lookup (h0.objs.size+1)with
  |none=>rfl
  |some o=>have:=X _ _ e;rw[hxn]at this;injection this
 ·have:=(mO A C [what] []).2.2.1
  exact bD this (bD (cS (show 2≤15 by decide) A.depth) hroom)
 ·refine⟨rfl,?_⟩
  exact h h' n _ _ vs (fun b o e=>i1 b o (fun z=>by rw[z,hxn]at e;injection e) (sb _ _ e)) hxn i2 rfl rfl i3
end
section
set_option compiler.extract_closed false
noncomputable def Hl:Node:=⟨default,default,.stmts [],default,default⟩
noncomputable def PS.e?:PS→PE|.asg _ e=>e|_=>.none
noncomputable def PS.b?:PS→List PS|.for_ _ _ _ _ b=>b|_=>[]
noncomputable def PE.args?:PE→List PE|.callg _ as=>as|.new _ as=>as|_=>[]
noncomputable def PE.elt?:PE→PE|.comp e _ _ _ _=>e|_=>.none
noncomputable def PE.nd?:PE→Node|.lam _ _ nd=>nd|_=>Hl
noncomputable def PS.nd?:PS→Node|.def_ _ _ _ _ nd=>nd|_=>Hl
noncomputable def at?(l:List PS)(i:Nat):PS:=l[i]?.getD .cont
noncomputable def ae?(l:List PE)(i:Nat):PE:=l[i]?.getD .none
noncomputable def ie(i:Nat):List PS:=match nE i with|some (_,b,s)=>(qk (tX s) b).getD []|none=>[]
noncomputable def nd65:Node:=(ae? (at? (at? (ie 36) 1).b? 0).e?.args? 1).nd?
noncomputable def nd66:Node:=(ae? (at? (ie 44) 5).e?.elt?.args? 1).nd?
noncomputable def nd71:Node:=(ae? (at? (ie 52) 5).e?.args? 1).nd?
noncomputable def zp:Node:=(at? (ie 52) 1).nd?
noncomputable def zo:Node:=(at? (ie 52) 2).nd?
noncomputable def zn:Node:=(at? (ie 52) 3).nd?
noncomputable def zm:Node:=(at? (ie 52) 4).nd?
noncomputable def P0:List PS:=[
 .ite (.cmp .eq (.sub (.loc 11) (.int 0)) (.str 12)) [
  .ret (.tupOf (.sub (.loc 11) (.int 1)))] [],
 .ite (.cmp .eq (.sub (.loc 11) (.int 0)) (.str 13)) [
  .ret (.tup [.sub (.loc 11) (.int 1)])] [],
 .ite (.and [.cmp .isin (.sub (.loc 11) (.int 0)) (.tup [.str 14,.str 15,.str 16,.str 17,.str 18,.str 19]),.cmp .ne (.sub (.loc 11) (.int 2)) (.glob 0)]) [
  .ret (.tup [.sub (.loc 11) (.int 2)])] [],
 .ret (.tup [])]
noncomputable def P1:List PS:=[
 .ite (.cmp .eq (.sub (.loc 11) (.int 0)) (.str 12)) [
  .ret (.tup [.str 12,.tupOf (.comp (.callv (.cel 21) [.loc 22]) 22 false (.sub (.loc 11) (.int 1)) none)])] [],
 .ite (.cmp .eq (.sub (.loc 11) (.int 0)) (.str 13)) [
  .ret (.tup [.str 13,.callv (.cel 21) [.sub (.loc 11) (.int 1)]])] [],
 .ite (.cmp .eq (.callg 0 [.loc 11]) (.tup [])) [
  .ret (.loc 11)] [],
 .ret (.tup [.sub (.loc 11) (.int 0),.sub (.loc 11) (.int 1),.callv (.cel 21) [.sub (.loc 11) (.int 2)]])]
noncomputable def P2:List PS:=[
 .ret (.cmp .notin (.sub (.loc 11) (.int 0)) (.tup [.str 13,.str 24]))]
noncomputable def P3:List PS:=[
 .ite (.cmp .ne (.cmp .lt (.loc 38) (.int 0)) (.cmp .lt (.loc 39) (.int 0))) [
  .ret (.neg (.bin .fdiv (.abs (.loc 38)) (.abs (.loc 39))))] [],
 .ret (.bin .fdiv (.abs (.loc 38)) (.abs (.loc 39)))]
noncomputable def P4:List PS:=[
 .ite (.cmp .lt (.loc 43) (.int 0)) [
  .ret (.tup [.bin .mul (.loc 42) (.bin .pow (.int 10) (.neg (.loc 43))),.int 0])] [],
 .while_ (.and [.cmp .gt (.loc 43) (.int 0),.cmp .eq (.bin .mod (.loc 42) (.int 10)) (.int 0)]) [
  .asg 42 (.bin .fdiv (.loc 42) (.int 10)),
  .asg 43 (.bin .sub (.loc 43) (.int 1))],
 .ret (.tup [.loc 42,.loc 43])]
noncomputable def P5:List PS:=[
 .ite (.cmp .gt (.loc 43) (.glob 1)) [
  .asg 42 (.callg 3 [.loc 42,.bin .pow (.int 10) (.bin .sub (.loc 43) (.glob 1))]),
  .asg 43 (.glob 1)] [],
 .ite (.not (.callg 16 [.loc 42,.glob 3])) [
  .raise 3] [],
 .ret (.callg 4 [.loc 42,.loc 43])]
noncomputable def P6:List PS:=[
 .asg 43 (.max (.sub (.loc 48) (.int 1)) (.sub (.loc 49) (.int 1))),
 .ret (.tup [.bin .mul (.sub (.loc 48) (.int 0)) (.bin .pow (.int 10) (.bin .sub (.loc 43) (.sub (.loc 48) (.int 1)))),.bin .mul (.sub (.loc 49) (.int 0)) (.bin .pow (.int 10) (.bin .sub (.loc 43) (.sub (.loc 49) (.int 1)))),.loc 43])]
noncomputable def P7:List PS:=[
 .asgt [(52,false),(53,false),(43,false)] (.callg 6 [.loc 48,.loc 49]),
 .ret (.callg 4 [.bin .add (.loc 52) (.loc 53),.loc 43])]
noncomputable def P8:List PS:=[
 .asgt [(52,false),(53,false),(43,false)] (.callg 6 [.loc 48,.loc 49]),
 .ret (.callg 4 [.bin .sub (.loc 52) (.loc 53),.loc 43])]
noncomputable def P9:List PS:=[
 .ret (.callg 5 [.bin .mul (.sub (.loc 48) (.int 0)) (.sub (.loc 49) (.int 0)),.bin .add (.sub (.loc 48) (.int 1)) (.sub (.loc 49) (.int 1))])]
noncomputable def Jk:List PS:=[
 .ret (.tup [.neg (.sub (.loc 48) (.int 0)),.sub (.loc 48) (.int 1)])]
noncomputable def Jj:List PS:=[
 .ite (.cmp .eq (.sub (.loc 49) (.int 0)) (.int 0)) [
  .raise 3] [],
 .ret (.callg 4 [.callg 3 [.bin .mul (.sub (.loc 48) (.int 0)) (.bin .pow (.int 10) (.bin .add (.loc 58) (.sub (.loc 49) (.int 1)))),.bin .mul (.sub (.loc 49) (.int 0)) (.bin .pow (.int 10) (.sub (.loc 48) (.int 1)))],.loc 58])]
noncomputable def Ji:List PS:=[
 .ite (.or [.cmp .ne (.sub (.loc 49) (.int 1)) (.int 0),.cmp .gt (.abs (.sub (.loc 49) (.int 0))) (.glob 2),.and [.cmp .eq (.sub (.loc 48) (.int 0)) (.int 0),.cmp .lt (.sub (.loc 49) (.int 0)) (.int 1)]]) [
  .raise 3] [],
 .asg 62 (.tup [.int 1,.int 0]),
 .for_ 63 false true (.abs (.sub (.loc 49) (.int 0))) [
  .asg 62 (.callg 9 [.loc 62,.loc 48])],
 .ite (.cmp .lt (.sub (.loc 49) (.int 0)) (.int 0)) [
  .ret (.callg 11 [.tup [.int 1,.int 0],.loc 62])] [],
 .ret (.loc 62)]
noncomputable def Jh:List PS:=[
 .ite (.cmp .ge (.loc 43) (.sub (.loc 48) (.int 1))) [
  .ret (.bin .mul (.sub (.loc 48) (.int 0)) (.bin .pow (.int 10) (.bin .sub (.loc 43) (.sub (.loc 48) (.int 1)))))] [],
 .asg 67 (.bin .pow (.int 10) (.bin .sub (.sub (.loc 48) (.int 1)) (.loc 43))),
 .ite (.not (.loc 66)) [
  .ret (.callg 3 [.sub (.loc 48) (.int 0),.loc 67])] [],
 .asg 68 (.bin .fdiv (.bin .add (.bin .mul (.int 2) (.abs (.sub (.loc 48) (.int 0)))) (.loc 67)) (.bin .mul (.int 2) (.loc 67))),
 .ret (.ite (.cmp .lt (.sub (.loc 48) (.int 0)) (.int 0)) (.neg (.loc 68)) (.loc 68))]
noncomputable def Jg:List PS:=[
 .ret (.cmp .eq (.sub (.loc 48) (.int 1)) (.int 0))]
noncomputable def Jf:List PS:=[
 .ret (.callg 13 [.loc 48,.int 0,.bool false])]
noncomputable def Je:List PS:=[
 .ret (.cmp .lt (.abs (.loc 42)) (.bin .pow (.int 10) (.loc 71)))]
noncomputable def Jd:List PS:=[
 .ite (.cmp .eq (.loc 89) (.str 90)) [
  .ret (.callg 7 [.loc 48,.loc 49])] [],
 .ite (.cmp .eq (.loc 89) (.str 91)) [
  .ret (.callg 8 [.loc 48,.loc 49])] [],
 .ite (.cmp .eq (.loc 89) (.str 92)) [
  .ret (.callg 9 [.loc 48,.loc 49])] [],
 .ret (.ite (.cmp .eq (.loc 89) (.str 93)) (.callg 11 [.loc 48,.loc 49]) (.callg 12 [.loc 48,.loc 49]))]
noncomputable def Jc:List PS:=[
 .ite (.cmp .eq (.sub (.loc 11) (.int 0)) (.str 14)) [
  .ret (.mcall (.attr (.loc 95) 81) 96 [.sub (.loc 11) (.int 1)])] [],
 .asg 76 (.mcall (.attr (.loc 95) 83) 97 []),
 .ret (.ite (.cmp .eq (.sub (.loc 11) (.int 1)) (.str 98)) (.callg 10 [.loc 76]) (.callg 17 [.sub (.loc 11) (.int 1),.mcall (.attr (.loc 95) 83) 97 [],.loc 76]))]
noncomputable def Jb:List PS:=[
 .try_ [
  .expr (.mcall (.attr (.loc 95) 83) 100 [.callg 18 [.loc 95,.loc 11]])] [(3,[
  .ite (.cmp .eq (.sub (.loc 11) (.int 2)) (.glob 5)) [
   .reraise] [],
  .expr (.mcall (.loc 95) 87 [.sub (.loc 11) (.int 2)])])]]
noncomputable def Ja:List PS:=[
 .ite (.mcall (.attr (.loc 95) 81) 16 [.sub (.loc 11) (.int 1),.mcall (.attr (.loc 95) 83) 97 []]) [
  .seta (.loc 95) 82 (.sub (.loc 11) (.int 2))] []]
noncomputable def I9:List PS:=[
 .seta (.loc 95) 17 (.mcall (.attr (.loc 95) 81) 103 [.sub (.loc 11) (.int 1)])]
noncomputable def I8:List PS:=[
 .ite (.cmp .ne (.attr (.loc 95) 17) (.sub (.loc 11) (.int 1))) [
  .seta (.loc 95) 82 (.sub (.loc 11) (.int 2))] []]
noncomputable def I7:List PS:=[
 .ite (.not (.mcall (.attr (.loc 95) 81) 18 [.sub (.loc 11) (.int 1)])) [
  .seta (.loc 95) 82 (.sub (.loc 11) (.int 2))] []]
noncomputable def I6:List PS:=[
 .seta (.loc 95) 82 (.sub (.loc 11) (.int 1))]
noncomputable def I5:List PS:=[
 .asg 108 (.mcall (.attr (.loc 95) 83) 97 []),
 .ite (.and [.callg 14 [.loc 108],.cmp2 .le .le (.int 1) (.callg 15 [.loc 108]) (.len (.sub (.loc 11) (.int 1)))]) [
  .seta (.loc 95) 82 (.sub (.sub (.loc 11) (.int 1)) (.bin .sub (.callg 15 [.loc 108]) (.int 1)))] []]
noncomputable def I4:List PS:=[
 .ite (.cmp .gt (.len (.attr (.loc 95) 84)) (.glob 4)) [
  .raise 2] [],
 .expr (.mcall (.attr (.loc 95) 84) 100 [.new 5 [.sub (.loc 11) (.int 2),.attr (.loc 95) 82]]),
 .seta (.loc 95) 82 (.sub (.attr (.attr (.loc 95) 80) 7) (.sub (.loc 11) (.int 1)))]
noncomputable def I3:List PS:=[
 .ite (.cmp .eq (.attr (.sub (.attr (.loc 95) 84) (.neg (.int 1))) 76) (.sub (.loc 11) (.int 1))) [
  .seta (.loc 95) 82 (.attr (.mcall (.attr (.loc 95) 84) 97 []) 77)] []]
noncomputable def I1:List PS:=[
 .seti (.attr (.sub (.attr (.loc 95) 84) (.neg (.int 1))) 78) (.sub (.loc 11) (.int 1)) (.callg 15 [.mcall (.attr (.loc 95) 83) 97 []])]
noncomputable def I0:List PS:=[
 .asg 78 (.attr (.sub (.attr (.loc 95) 84) (.neg (.int 1))) 78),
 .ite (.cmp .gt (.mcall (.loc 78) 115 [.sub (.loc 11) (.int 1),.int 0]) (.int 0)) [
  .seti (.loc 78) (.sub (.loc 11) (.int 1)) (.bin .sub (.sub (.loc 78) (.sub (.loc 11) (.int 1))) (.int 1))] [
  .seta (.loc 95) 82 (.sub (.loc 11) (.int 2))]]
noncomputable def IZ:List PS:=[
 .seta (.loc 95) 86 (.sub (.loc 11) (.int 1))]
noncomputable def IY:List PS:=[
 .ret (.dict [14,15,16,103,17,18,13,12,118,119,120,19,24] [.fref 19,.fref 19,.fref 20,.fref 21,.fref 22,.fref 23,.fref 24,.fref 25,.fref 26,.fref 27,.fref 28,.fref 29,.fref 30])]
noncomputable def IX:List PS:=[
 .asg 95 (.new 6 [.loc 80,.loc 81]),
 .asg 123 (.callg 31 []),
 .asg 124 (.int 0),
 .while_ (.cmp .eq (.attr (.loc 95) 86) (.str 85)) [
  .ite (.cmp .ge (.attr (.loc 95) 82) (.len (.attr (.loc 80) 6))) [
   .raise 2] [],
  .ite (.cmp .ge (.loc 124) (.loc 122)) [
   .raise 4] [],
  .asg 124 (.bin .add (.loc 124) (.int 1)),
  .asg 11 (.sub (.attr (.loc 80) 6) (.attr (.loc 95) 82)),
  .seta (.loc 95) 82 (.bin .add (.attr (.loc 95) 82) (.int 1)),
  .expr (.callv (.sub (.loc 123) (.sub (.loc 11) (.int 0))) [.loc 95,.loc 11])],
 .ret (.attr (.loc 95) 86)]
noncomputable def IW:List PS:=[
 .asg 62 (.bin .mul (.lst [.bool false]) (.bin .add (.len (.loc 6)) (.int 1))),
 .seti (.loc 62) (.int 0) (.bool true),
 .for_ 82 false true (.len (.loc 6)) [
  .for_ 22 false false (.callg 0 [.sub (.loc 6) (.loc 82)]) [
   .seti (.loc 62) (.loc 22) (.bool true)],
  .ite (.cmp .eq (.sub (.sub (.loc 6) (.loc 82)) (.int 0)) (.str 118)) [
   .seti (.loc 62) (.sub (.loc 7) (.sub (.sub (.loc 6) (.loc 82)) (.int 1))) (.bool true),
   .seti (.loc 62) (.bin .add (.loc 82) (.int 1)) (.bool true)] []],
 .ret (.loc 62)]
noncomputable def IV:List PS:=[
 .ite (.cmp .ge (.loc 22) (.len (.loc 6))) [
  .ret (.bool false)] [],
 .asg 130 (.sub (.loc 6) (.loc 22)),
 .ite (.cmp .eq (.sub (.loc 130) (.int 0)) (.str 13)) [
  .ret (.bool true)] [],
 .ret (.and [.cmp .isnot (.loc 11) (.none),.cmp .eq (.sub (.loc 130) (.int 0)) (.sub (.loc 11) (.int 0)),.cmp .eq (.sub (.loc 130) (.int 1)) (.sub (.loc 11) (.int 1))])]
noncomputable def Bs:List PS:=[
 .for_ 132 false false (.tup [.ite (.cmp .isin (.sub (.loc 11) (.int 0)) (.tup [.str 18,.str 17])) (.loc 11) (.none),.none]) [
  .asg 62 (.loc 22),
  .for_ 63 false true (.bin .add (.len (.loc 6)) (.int 1)) [
   .ite (.not (.callg 34 [.loc 132,.loc 6,.loc 62])) [
    .ret (.loc 62)] [],
   .asg 62 (.sub (.sub (.loc 6) (.loc 62)) (.neg (.int 1)))]],
 .ret (.loc 22)]
noncomputable def IU:List PS:=[
 .asg 62 (.lst []),
 .for_ 11 true false (.cel 6) [
  .asg 130 (.callg 1 [.cel 11,.lam 65 [11,6] nd65]),
  .ite (.and [.cmp .eq (.sub (.loc 130) (.int 0)) (.str 13),.cmp .lt (.sub (.loc 130) (.int 1)) (.len (.cel 6)),.cmp .eq (.sub (.sub (.cel 6) (.sub (.loc 130) (.int 1))) (.int 0)) (.str 24)]) [
   .asg 130 (.sub (.cel 6) (.sub (.loc 130) (.int 1)))] [],
  .expr (.mcall (.loc 62) 100 [.loc 130])],
 .ret (.loc 62)]
noncomputable def IT:List PS:=[
 .asg 135 (.comp (.sub (.loc 11) (.int 2)) 11 false (.loc 6) (some (.cmp .eq (.sub (.loc 11) (.int 0)) (.str 118)))),
 .asg 62 (.lst []),
 .for_ 82 false true (.len (.loc 6)) [
  .asg 11 (.sub (.loc 6) (.loc 82)),
  .asg 136 (.or [.and [.cmp .isin (.sub (.loc 11) (.int 0)) (.tup [.str 13,.str 17]),.cmp .eq (.sub (.loc 11) (.neg (.int 1))) (.bin .add (.loc 82) (.int 1))],.and [.cmp .eq (.sub (.loc 11) (.int 0)) (.str 119),.cmp .notin (.sub (.loc 11) (.int 1)) (.loc 135)]]),
  .expr (.mcall (.loc 62) 100 [.ite (.loc 136) (.none) (.loc 11)])],
 .ret (.loc 62)]
noncomputable def IS:List PS:=[
 .ret (.and [.cmp .eq (.sub (.loc 11) (.int 0)) (.str 14),.cmp .eq (.sub (.sub (.loc 11) (.int 1)) (.int 0)) (.str 96)])]
noncomputable def IR:List PS:=[
 .ite (.cmp .eq (.loc 89) (.str 98)) [
  .ret (.callg 10 [.sub (.loc 139) (.int 0)])] [],
 .try_ [
  .ret (.callg 17 [.loc 89,.sub (.loc 139) (.int 0),.sub (.loc 139) (.int 1)])] [(3,[
  .ret (.none)])]]
noncomputable def Hv:List PS:=[
 .asgc 62 (.comp (.ite (.callg 38 [.loc 11]) (.tup [.str 14,.sub (.loc 11) (.int 1),.glob 0]) (.loc 11)) 11 false (.loc 6) none),
 .asg 142 (.lst []),
 .for_ 82 false true (.len (.loc 6)) [
  .asg 11 (.sub (.loc 6) (.loc 82)),
  .asg 58 (.ite (.cmp .eq (.slc (.loc 11) none (some (.int 2))) (.tup [.str 15,.str 98])) (.int 1) (.int 2)),
  .ite (.sub (.loc 141) (.loc 82)) [
   .asg 142 (.lst [])] [],
  .asg 108 (.none),
  .asg 76 (.ite (.cmp .ne (.loc 142) (.lst [])) (.sub (.loc 142) (.neg (.int 1))) (.loc 82)),
  .ite (.and [.cmp .eq (.sub (.loc 11) (.int 0)) (.str 15),.cmp .ge (.len (.loc 142)) (.loc 58)]) [
   .asg 108 (.callg 39 [.sub (.loc 11) (.int 1),.comp (.sub (.sub (.sub (.cel 62) (.loc 29)) (.int 1)) (.int 1)) 29 false (.slc (.loc 142) (some (.bin .sub (.len (.loc 142)) (.loc 58))) none) none])] [],
  .ite (.cmp .isnot (.loc 108) (.none)) [
   .asg 142 (.slc (.loc 142) none (some (.bin .add (.bin .sub (.len (.loc 142)) (.loc 58)) (.int 1)))),
   .seti (.cel 62) (.sub (.loc 142) (.neg (.int 1))) (.tup [.str 14,.tup [.str 96,.loc 108],.glob 0]),
   .ite (.cmp .eq (.loc 58) (.int 2)) [
    .seti (.cel 62) (.loc 76) (.none)] [],
   .seti (.cel 62) (.loc 82) (.none)] [
   .ite (.callg 38 [.loc 11]) [
    .expr (.mcall (.loc 142) 100 [.loc 82])] [
    .asg 142 (.lst [])]]],
 .ret (.cel 62)]
noncomputable def FK:List PS:=[
 .asg 62 (.lst []),
 .asgt [(144,false),(17,false)] (.tup [.lst [],.none]),
 .for_ 82 false true (.len (.loc 6)) [
  .asg 11 (.sub (.loc 6) (.loc 82)),
  .ite (.sub (.loc 141) (.loc 82)) [
   .asgt [(144,false),(17,false)] (.tup [.lst [],.none])] [],
  .asg 130 (.loc 11),
  .ite (.cmp .eq (.sub (.loc 11) (.int 0)) (.str 18)) [
   .ite (.cmp .isin (.sub (.loc 11) (.int 1)) (.loc 144)) [
    .asg 130 (.none)] [
    .asg 144 (.bin .add (.loc 144) (.lst [.sub (.loc 11) (.int 1)]))]] [
   .ite (.cmp .eq (.sub (.loc 11) (.int 0)) (.str 17)) [
    .ite (.cmp .isnot (.loc 17) (.none)) [
     .asg 130 (.ite (.cmp .eq (.loc 17) (.sub (.loc 11) (.int 1))) (.none) (.tup [.str 13,.sub (.loc 11) (.int 2)]))] [
     .asg 17 (.sub (.loc 11) (.int 1))]] [
    .ite (.cmp .eq (.sub (.loc 11) (.int 0)) (.str 103)) [
     .asgt [(144,false),(17,false)] (.tup [.lst [],.none])] [
     .ite (.cmp .eq (.sub (.loc 11) (.int 0)) (.str 16)) [
      .asg 144 (.lst [])] []]]],
  .expr (.mcall (.loc 62) 100 [.loc 130])],
 .ret (.loc 62)]
noncomputable def IQ:List PS:=[
 .asg 11 (.sub (.loc 6) (.loc 82)),
 .asg 62 (.lstOf (.callg 0 [.loc 11])),
 .ite (.callg 2 [.loc 11]) [
  .expr (.mcall (.loc 62) 100 [.bin .add (.loc 82) (.int 1)])] [],
 .ite (.cmp .eq (.sub (.loc 11) (.int 0)) (.str 118)) [
  .expr (.mcall (.loc 62) 100 [.sub (.loc 7) (.sub (.loc 11) (.int 1))])] [],
 .ret (.loc 62)]
noncomputable def IP:List PS:=[
 .asg 62 (.bin .mul (.lst [.bool false]) (.bin .add (.len (.loc 6)) (.int 1))),
 .asg 142 (.lst [.int 0]),
 .while_ (.cmp .ne (.loc 142) (.lst [])) [
  .asg 82 (.mcall (.loc 142) 97 []),
  .ite (.and [.cmp .lt (.loc 82) (.len (.loc 6)),.not (.sub (.loc 62) (.loc 82))]) [
   .seti (.loc 62) (.loc 82) (.bool true),
   .expr (.mcall (.loc 142) 148 [.callg 42 [.loc 6,.loc 7,.loc 82]])] []],
 .ret (.loc 62)]
noncomputable def P44:List PS:=[
 .ite (.cmp .notin (.none) (.loc 6)) [
  .ret (.tup [.loc 6,.loc 7])] [],
 .asgc 150 (.lst []),
 .asg 58 (.int 0),
 .for_ 11 false false (.loc 6) [
  .expr (.mcall (.cel 150) 100 [.loc 58]),
  .ite (.cmp .isnot (.loc 11) (.none)) [
   .asg 58 (.bin .add (.loc 58) (.int 1))] []],
 .expr (.mcall (.cel 150) 100 [.loc 58]),
 .asg 151 (.comp (.callg 1 [.loc 11,.lam 66 [150] nd66]) 11 false (.loc 6) (some (.cmp .isnot (.loc 11) (.none)))),
 .ret (.tup [.loc 151,.comp (.sub (.cel 150) (.loc 82)) 82 false (.loc 7) none])]
noncomputable def IN:List PS:=[
 .asgc 153 (.callg 43 [.cel 6,.loc 7]),
 .asg 154 (.comp (.ite (.sub (.cel 153) (.loc 82)) (.sub (.cel 6) (.loc 82)) (.none)) 82 true (.len (.cel 6)) none),
 .ret (.callg 44 [.loc 154,.comp (.ite (.sub (.cel 153) (.loc 155)) (.loc 155) (.int 0)) 155 false (.loc 7) none])]
noncomputable def IM:List PS:=[
 .asgt [(6,false),(7,false)] (.callg 45 [.callg 36 [.loc 6],.loc 7]),
 .asgt [(6,false),(7,false)] (.callg 44 [.callg 37 [.loc 6],.loc 7]),
 .asgt [(6,false),(7,false)] (.callg 44 [.callg 40 [.loc 6,.callg 33 [.loc 6,.loc 7]],.loc 7]),
 .ret (.callg 44 [.callg 41 [.loc 6,.callg 33 [.loc 6,.loc 7]],.loc 7])]
noncomputable def IL:List PS:=[
 .asgt [(6,false),(7,false)] (.tup [.lstOf (.attr (.loc 80) 6),.lstOf (.attr (.loc 80) 7)]),
 .while_ (.bool true) [
  .asgt [(158,false),(159,false)] (.callg 46 [.loc 6,.loc 7]),
  .ite (.and [.cmp .eq (.loc 158) (.loc 6),.cmp .eq (.loc 159) (.loc 7)]) [
   .ret (.new 0 [.tupOf (.loc 6),.tupOf (.loc 7)])] [],
  .asgt [(6,false),(7,false)] (.tup [.loc 158,.loc 159])]]
noncomputable def IK:List PS:=[
 .asg 165 (.sub (.loc 164) (.int 0)),
 .asg 166 (.bin .mod (.sub (.loc 164) (.int 1)) (.len (.loc 165))),
 .seti (.loc 164) (.int 1) (.bin .add (.sub (.loc 164) (.int 1)) (.int 1)),
 .asg 167 (.sub (.loc 165) (.loc 166)),
 .seti (.loc 165) (.loc 166) (.ite (.cmp .gt (.abs (.loc 167)) (.loc 122)) (.bin .fdiv (.loc 167) (.loc 122)) (.bin .add (.bin .mul (.loc 167) (.int 31)) (.bin .mul (.int 7) (.sub (.loc 164) (.int 1))))),
 .ret (.bin .mod (.loc 167) (.loc 122))]
noncomputable def IJ:List PS:=[
 .asgt [(52,false),(184,false)] (.tup [.sub (.glob 9) (.bin .mod (.loc 49) (.int 5)),.sub (.glob 9) (.bin .mod (.bin .fdiv (.loc 49) (.int 5)) (.int 5))]),
 .ite (.cmp .eq (.loc 183) (.int 0)) [
  .ret (.lst [.tup [.str 18,.sub (.glob 6) (.bin .mod (.loc 49) (.int 2)),.loc 48],.tup [.str 103,.tup [.str 185,.bin .mod (.loc 49) (.int 3)]],.tup [.str 18,.sub (.glob 6) (.bin .mod (.bin .fdiv (.loc 49) (.int 3)) (.int 2)),.bin .add (.loc 48) (.loc 49)]])] [],
 .ite (.cmp .eq (.loc 183) (.int 1)) [
  .ret (.lst [.tup [.str 103,.tup [.str 185,.bin .mod (.loc 49) (.int 3)]],.tup [.str 17,.sub (.glob 7) (.bin .mod (.bin .fdiv (.loc 49) (.int 3)) (.int 3)),.loc 48],.tup [.str 17,.sub (.glob 7) (.bin .mod (.bin .fdiv (.loc 49) (.int 9)) (.int 3)),.loc 49]])] [],
 .ite (.cmp .eq (.loc 183) (.int 2)) [
  .ret (.lst [.tup [.str 13,.loc 48]])] [],
 .ite (.cmp .eq (.loc 183) (.int 3)) [
  .ret (.lst [.tup [.str 14,.loc 52,.loc 48],.tup [.str 14,.loc 184,.loc 48],.tup [.str 15,.sub (.glob 8) (.bin .mod (.bin .fdiv (.loc 49) (.int 25)) (.int 5)),.loc 48],.tup [.str 16,.tup [.str 186,.bin .mod (.loc 49) (.int 7)],.loc 48]])] [],
 .ite (.cmp .eq (.loc 183) (.int 4)) [
  .ret (.lst [.tup [.str 118,.bin .mod (.loc 48) (.loc 58),.bin .mod (.loc 49) (.loc 58)]])] [],
 .ite (.cmp .eq (.loc 183) (.int 5)) [
  .ret (.lst [.tup [.str 14,.loc 52,.neg (.int 1)],.tup [.str 12,.tup [.loc 48,.loc 49]]])] [],
 .ite (.cmp .eq (.loc 183) (.int 6)) [
  .ret (.lst [.tup [.str 14,.loc 52,.neg (.int 1)],.tup [.str 15,.str 98,.neg (.int 1)],.tup [.str 120,.int 0],.tup [.str 19,.int 0,.loc 48]])] [],
 .ite (.cmp .eq (.loc 183) (.int 7)) [
  .ret (.lst [.tup [.str 18,.sub (.glob 6) (.bin .mod (.loc 49) (.int 2)),.loc 48],.tup [.str 18,.sub (.glob 6) (.bin .mod (.loc 49) (.int 2)),.loc 49]])] [],
 .ite (.cmp .eq (.loc 183) (.int 8)) [
  .ret (.lst [.tup [.str 14,.sub (.glob 9) (.bin .mod (.loc 49) (.int 3)),.loc 48],.tup [.str 14,.sub (.glob 9) (.bin .mod (.bin .fdiv (.loc 49) (.int 3)) (.int 3)),.loc 48],.tup [.str 15,.str 90,.loc 48],.tup [.str 14,.loc 184,.loc 48],.tup [.str 15,.str 92,.loc 48],.tup [.str 16,.tup [.str 186,.bin .mod (.loc 49) (.int 7)],.loc 49]])] [],
 .ret (.lst [.tup [.str 24,.sub (.tup [.str 176,.str 24,.str 187]) (.bin .mod (.loc 49) (.int 3))]])]
noncomputable def Hu:List PS:=[
 .ite (.cmp .eq (.sub (.loc 11) (.int 0)) (.str 12)) [
  .ret (.tup [.str 12,.tupOf (.comp (.sub (.cel 189) (.bin .mod (.loc 22) (.len (.cel 189)))) 22 false (.sub (.loc 11) (.int 1)) none)])] [],
 .ite (.cmp .eq (.sub (.loc 11) (.int 0)) (.str 13)) [
  .ret (.tup [.str 13,.sub (.cel 189) (.bin .mod (.sub (.loc 11) (.int 1)) (.len (.cel 189)))])] [],
 .ite (.and [.cmp .isin (.sub (.loc 11) (.int 0)) (.tup [.str 14,.str 15,.str 16,.str 17,.str 18,.str 19]),.cmp .ne (.sub (.loc 11) (.int 2)) (.neg (.int 1))]) [
  .ret (.tup [.sub (.loc 11) (.int 0),.sub (.loc 11) (.int 1),.sub (.cel 189) (.bin .mod (.sub (.loc 11) (.int 2)) (.len (.cel 189)))])] [],
 .ret (.loc 11)]
noncomputable def P51:List PS:=[
 .asg 58 (.bin .add (.int 1) (.callg 48 [.loc 164,.int 3])),
 .asg 42 (.lst []),
 .asg 191 (.lst []),
 .for_ 192 false true (.loc 58) [
  .expr (.mcall (.loc 191) 100 [.len (.loc 42)]),
  .for_ 63 false true (.callg 48 [.loc 164,.int 3]) [
   .asg 183 (.callg 48 [.loc 164,.int 10]),
   .asg 48 (.callg 48 [.loc 164,.int 1000]),
   .expr (.mcall (.loc 42) 100 [.callg 49 [.loc 183,.loc 48,.callg 48 [.loc 164,.int 1000],.loc 58]])],
  .expr (.mcall (.loc 42) 100 [.lst [.tup [.str 119,.loc 192]]])],
 .expr (.mcall (.loc 42) 100 [.lst [.tup [.str 24,.str 176]]]),
 .asgc 189 (.lst []),
 .asg 67 (.int 0),
 .for_ 193 false false (.loc 42) [
  .expr (.mcall (.cel 189) 100 [.loc 67]),
  .asg 67 (.bin .add (.loc 67) (.len (.loc 193)))],
 .asg 6 (.comp2 (.callg 50 [.loc 11,.cel 189]) 193 (.loc 42) 11 (.loc 193)),
 .ret (.new 0 [.tupOf (.loc 6),.tupOf (.comp (.sub (.cel 189) (.loc 194)) 194 false (.loc 191) none)])]
noncomputable def P52:List PS:=[
 .asgc 196 (.lst []),
 .def_ 197 true 67 [196,165] zp,
 .def_ 198 false 68 [197,196] zo,
 .def_ 200 false 69 [197,196] zn,
 .def_ 203 false 70 [197] zm,
 .asg 81 (.new 7 [.loc 198,.lam 71 [197] nd71,.loc 203,.loc 200]),
 .try_ [
  .ret (.tup [.cel 196,.callg 32 [.loc 80,.loc 81,.int 50]])] [(4,[
  .ret (.tup [.cel 196,.str 124])]),(2,[
  .ret (.tup [.cel 196,.str 206])]),(3,[
  .ret (.tup [.cel 196,.str 67])])]]
noncomputable def II:List PS:=[
 .ite (.cmp .eq (.sub (.loc 11) (.int 0)) (.str 12)) [
  .ret (.lstOf (.sub (.loc 11) (.int 1)))] [],
 .ite (.and [.cmp .isin (.sub (.loc 11) (.int 0)) (.tup [.str 14,.str 15,.str 16,.str 17,.str 18,.str 19,.str 13]),.cmp .ne (.sub (.loc 11) (.neg (.int 1))) (.neg (.int 1))]) [
  .ret (.lst [.sub (.loc 11) (.neg (.int 1))])] [],
 .ret (.lst [])]
noncomputable def IH:List PS:=[
 .for_ 63 false true (.bin .add (.len (.loc 6)) (.int 1)) [
  .ite (.cmp .ne (.sub (.sub (.loc 6) (.loc 22)) (.int 0)) (.str 13)) [
   .ret (.loc 22)] [],
  .asg 22 (.sub (.sub (.loc 6) (.loc 22)) (.int 1))],
 .ret (.neg (.int 1))]
noncomputable def Bq:List PS:=[
 .asg 6 (.lstOf (.attr (.loc 80) 6)),
 .asgt [(154,false),(142,false),(210,false)] (.tup [.lst [],.lst [.int 0],.lst []]),
 .while_ (.cmp .ne (.loc 142) (.lst [])) [
  .asg 82 (.mcall (.loc 142) 97 []),
  .ite (.cmp .isin (.loc 82) (.loc 154)) [
   .cont] [],
  .expr (.mcall (.loc 154) 100 [.loc 82]),
  .asg 211 (.callg 53 [.sub (.loc 6) (.loc 82)]),
  .ite (.cmp .eq (.sub (.sub (.loc 6) (.loc 82)) (.int 0)) (.str 118)) [
   .asg 211 (.bin .add (.loc 211) (.lst [.sub (.attr (.loc 80) 7) (.sub (.sub (.loc 6) (.loc 82)) (.int 1)),.bin .add (.loc 82) (.int 1)]))] [],
  .asg 210 (.bin .add (.loc 210) (.loc 211)),
  .for_ 22 false false (.loc 211) [
   .ite (.and [.cmp .ne (.sub (.sub (.loc 6) (.loc 82)) (.int 0)) (.str 118),.cmp .notin (.callg 54 [.loc 6,.loc 22]) (.tup [.loc 22,.neg (.int 1)])]) [
    .ret (.bool false)] []],
  .expr (.mcall (.loc 142) 148 [.loc 211]),
  .ite (.cmp .notin (.sub (.sub (.loc 6) (.loc 82)) (.int 0)) (.tup [.str 13,.str 24])) [
   .expr (.mcall (.loc 142) 100 [.bin .add (.loc 82) (.int 1)])] []],
 .ite (.cmp .ne (.len (.loc 154)) (.len (.loc 6))) [
  .ret (.bool false)] [],
 .for_ 82 false true (.len (.loc 6)) [
  .ite (.and [.cmp .isin (.sub (.sub (.loc 6) (.loc 82)) (.int 0)) (.tup [.str 13,.str 17]),.cmp .eq (.sub (.sub (.loc 6) (.loc 82)) (.neg (.int 1))) (.bin .add (.loc 82) (.int 1))]) [
   .ret (.bool false)] [],
  .asg 186 (.slc (.loc 6) (some (.loc 82)) (some (.bin .add (.loc 82) (.int 3)))),
  .ite (.and [.cmp .gt (.len (.loc 186)) (.int 1),.cmp .notin (.bin .add (.loc 82) (.int 1)) (.loc 210),.cmp .eq (.sub (.sub (.loc 186) (.int 0)) (.int 0)) (.str 18),.cmp .eq (.slc (.sub (.loc 186) (.int 1)) none (some (.int 2))) (.slc (.sub (.loc 186) (.int 0)) none (some (.int 2)))]) [
   .ret (.bool false)] [],
  .ite (.and [.cmp .eq (.comp (.sub (.loc 11) (.int 0)) 11 false (.loc 186) none) (.lst [.str 14,.str 14,.str 15]),.cmp2 .eq .eq (.sub (.sub (.sub (.loc 186) (.int 0)) (.int 1)) (.int 0)) (.str 96) (.sub (.sub (.sub (.loc 186) (.int 1)) (.int 1)) (.int 0)),.cmp .eq (.sub (.sub (.loc 186) (.int 2)) (.int 1)) (.str 90)]) [
   .ret (.bool false)] []],
 .ret (.bool true)]
noncomputable def P56:List PS:=[
 .asg 165 (.or [.lstOf (.slc (.loc 213) none (some (.int 60))),.lst [.int 0]]),
 .asg 80 (.callg 51 [.lst [.lstOf (.loc 165),.int 0]]),
 .asg 158 (.callg 47 [.loc 80]),
 .asgt [(196,false),(176,false)] (.callg 52 [.loc 80,.loc 165]),
 .asgt [(184,false),(214,false)] (.callg 52 [.loc 158,.loc 165]),
 .ite (.cmp .eq (.loc 176) (.str 124)) [
  .ite (.cmp .ne (.slc (.loc 184) none (some (.len (.loc 196)))) (.loc 196)) [
   .ret (.bool false)] []] [
  .ite (.cmp .ne (.tup [.loc 184,.loc 214]) (.tup [.loc 196,.loc 176])) [
   .ret (.bool false)] []],
 .ite (.or [.cmp .gt (.len (.attr (.loc 158) 6)) (.len (.attr (.loc 80) 6)),.not (.callg 55 [.loc 158])]) [
  .ret (.bool false)] [],
 .ret (.cmp .eq (.mcall (.callg 47 [.loc 158]) 8 []) (.mcall (.loc 158) 8 []))]
noncomputable def IG:List PS:=[
 .seta (.loc 5) 6 (.loc 6),
 .seta (.loc 5) 7 (.loc 7)]
noncomputable def IF:List PS:=[
 .ret (.tup [.tupOf (.attr (.loc 5) 6),.tupOf (.attr (.loc 5) 7)])]
noncomputable def IE:List PS:=[
 .ret (.tup [.attr (.loc 5) 28,.attr (.loc 5) 29])]
noncomputable def ID:List PS:=[
 .seta (.loc 5) 76 (.loc 76),
 .seta (.loc 5) 77 (.loc 77),
 .seta (.loc 5) 78 (.dict [] [])]
noncomputable def P62:List PS:=[
 .seta (.loc 5) 80 (.loc 80),
 .seta (.loc 5) 81 (.loc 81),
 .seta (.loc 5) 82 (.int 0),
 .seta (.loc 5) 83 (.lst []),
 .seta (.loc 5) 84 (.lst [.new 5 [.glob 5,.glob 5]]),
 .seta (.loc 5) 17 (.str 85),
 .seta (.loc 5) 86 (.str 85)]
noncomputable def IC:List PS:=[
 .seta (.loc 5) 83 (.lst []),
 .seta (.loc 5) 82 (.loc 22)]
noncomputable def IB:List PS:=[
 .seta (.loc 5) 103 (.loc 103),
 .seta (.loc 5) 18 (.loc 18),
 .seta (.loc 5) 96 (.loc 96),
 .seta (.loc 5) 16 (.loc 16)]
noncomputable def Iy:List PS:=[
 .asg 120 (.len (.cel 196)),
 .ret (.bin .mod (.bin .add (.sub (.cel 165) (.bin .mod (.bin .add (.bin .mul (.int 5) (.loc 120)) (.loc 28)) (.len (.cel 165)))) (.bin .mul (.loc 120) (.loc 28))) (.loc 122))]
noncomputable def Ix:List PS:=[
 .asg 17 (.sub (.glob 7) (.callv (.cel 197) [.int 1,.int 3])),
 .expr (.mcall (.cel 196) 100 [.loc 199]),
 .ret (.loc 17)]
noncomputable def Iw:List PS:=[
 .asg 202 (.cmp .eq (.callv (.cel 197) [.int 2,.int 3]) (.int 0)),
 .expr (.mcall (.cel 196) 100 [.tup [.loc 201,.loc 108]]),
 .ret (.loc 202)]
noncomputable def P70:List PS:=[
 .ite (.cmp .eq (.sub (.loc 204) (.int 0)) (.str 96)) [
  .ret (.sub (.loc 204) (.int 1))] [],
 .ite (.and [.cmp .eq (.sub (.loc 204) (.int 1)) (.str 181),.cmp .eq (.callv (.cel 197) [.int 3,.int 2]) (.int 1)]) [
  .raise 3] [],
 .ret (.tup [.callv (.cel 197) [.int 4,.int 4],.int 0])]
noncomputable def IA:PE:=.callg 35 [.cel 11,.cel 6,.loc 22]
noncomputable def Iz:PE:=.sub (.cel 150) (.loc 22)
noncomputable def Iv:PE:=.cmp .eq (.callv (.cel 197) [.ite (.cmp .eq (.sub (.loc 205) (.int 0)) (.str 89)) (.int 6) (.int 7),.int 2]) (.int 0)
noncomputable def F0:FA:=⟨[11],[],.st P0,[],fun zz=>none⟩
noncomputable def F1:FA:=⟨[11,21],[],.st P1,[21],fun zz=>none⟩
noncomputable def F2:FA:=⟨[11],[],.st P2,[],fun zz=>none⟩
noncomputable def F3:FA:=⟨[38,39],[],.st P3,[],fun zz=>none⟩
noncomputable def F4:FA:=⟨[42,43],[.int 0],.st P4,[],fun zz=>none⟩
noncomputable def F5:FA:=⟨[42,43],[],.st P5,[],fun zz=>none⟩
noncomputable def F6:FA:=⟨[48,49],[],.st P6,[],fun zz=>none⟩
noncomputable def F7:FA:=⟨[48,49],[],.st P7,[],fun zz=>none⟩
noncomputable def F8:FA:=⟨[48,49],[],.st P8,[],fun zz=>none⟩
noncomputable def F9:FA:=⟨[48,49],[],.st P9,[],fun zz=>none⟩
noncomputable def Ka:FA:=⟨[48],[],.st Jk,[],fun zz=>none⟩
noncomputable def J9:FA:=⟨[48,49,58],[.int 30],.st Jj,[],fun zz=>none⟩
noncomputable def J8:FA:=⟨[48,49],[],.st Ji,[],fun zz=>none⟩
noncomputable def J7:FA:=⟨[48,43,66],[],.st Jh,[],fun zz=>none⟩
noncomputable def J6:FA:=⟨[48],[],.st Jg,[],fun zz=>none⟩
noncomputable def J5:FA:=⟨[48],[],.st Jf,[],fun zz=>none⟩
noncomputable def J4:FA:=⟨[42,71],[],.st Je,[],fun zz=>none⟩
noncomputable def J3:FA:=⟨[89,48,49],[],.st Jd,[],fun zz=>none⟩
noncomputable def J2:FA:=⟨[95,11],[],.st Jc,[],fun zz=>none⟩
noncomputable def J1:FA:=⟨[95,11],[],.st Jb,[],fun zz=>none⟩
noncomputable def J0:FA:=⟨[95,11],[],.st Ja,[],fun zz=>none⟩
noncomputable def JZ:FA:=⟨[95,11],[],.st I9,[],fun zz=>none⟩
noncomputable def JY:FA:=⟨[95,11],[],.st I8,[],fun zz=>none⟩
noncomputable def JX:FA:=⟨[95,11],[],.st I7,[],fun zz=>none⟩
noncomputable def JW:FA:=⟨[95,11],[],.st I6,[],fun zz=>none⟩
noncomputable def JU:FA:=⟨[95,11],[],.st I5,[],fun zz=>none⟩
noncomputable def JR:FA:=⟨[95,11],[],.st I4,[],fun zz=>none⟩
noncomputable def JQ:FA:=⟨[95,11],[],.st I3,[],fun zz=>none⟩
noncomputable def JP:FA:=⟨[95,11],[],.st I1,[],fun zz=>none⟩
noncomputable def JO:FA:=⟨[95,11],[],.st I0,[],fun zz=>none⟩
noncomputable def JN:FA:=⟨[95,11],[],.st IZ,[],fun zz=>none⟩
noncomputable def JM:FA:=⟨[],[],.st IY,[],fun zz=>none⟩
noncomputable def JL:FA:=⟨[80,81,122],[],.st IX,[],fun zz=>none⟩
noncomputable def JK:FA:=⟨[6,7],[],.st IW,[],fun zz=>none⟩
noncomputable def JJ:FA:=⟨[11,6,22],[],.st IV,[],fun zz=>none⟩
noncomputable def F35:FA:=⟨[11,6,22],[],.st Bs,[],fun zz=>none⟩
noncomputable def F36:FA:=⟨[6],[],.st IU,[6,11],fun i=>if i=65 then some ([11,6],nd65)else none⟩
noncomputable def F37:FA:=⟨[6],[],.st IT,[],fun zz=>none⟩
noncomputable def JI:FA:=⟨[11],[],.st IS,[],fun zz=>none⟩
noncomputable def JH:FA:=⟨[89,139],[],.st IR,[],fun zz=>none⟩
noncomputable def F40:FA:=⟨[6,141],[],.st Hv,[62],fun zz=>none⟩
noncomputable def F41:FA:=⟨[6,141],[],.st FK,[],fun zz=>none⟩
noncomputable def F42:FA:=⟨[6,7,82],[],.st IQ,[],fun zz=>none⟩
noncomputable def JG:FA:=⟨[6,7],[],.st IP,[],fun zz=>none⟩
noncomputable def F44:FA:=⟨[6,7],[],.st P44,[150],fun i=>if i=66 then some ([150],nd66)else none⟩
noncomputable def JF:FA:=⟨[6,7],[],.st IN,[6,153],fun zz=>none⟩
noncomputable def JD:FA:=⟨[6,7],[],.st IM,[],fun zz=>none⟩
noncomputable def F47:FA:=⟨[80],[],.st IL,[],fun zz=>none⟩
noncomputable def JC:FA:=⟨[164,122],[],.st IK,[],fun zz=>none⟩
noncomputable def JB:FA:=⟨[183,48,49,58],[],.st IJ,[],fun zz=>none⟩
noncomputable def F50:FA:=⟨[11,189],[],.st Hu,[189],fun zz=>none⟩
noncomputable def F51:FA:=⟨[164],[],.st P51,[189],fun zz=>none⟩
noncomputable def F52:FA:=⟨[80,165],[],.st P52,[165,197,196],fun i=>if i=67 then some ([196,165],zp)else if i=68 then some ([197,196],zo)else if i=69 then some ([197,196],zn)else if i=70 then some ([197],zm)else if i=71 then some ([197],nd71)else none⟩
noncomputable def JA:FA:=⟨[11],[],.st II,[],fun zz=>none⟩
noncomputable def Jz:FA:=⟨[6,22],[],.st IH,[],fun zz=>none⟩
noncomputable def F55:FA:=⟨[80],[],.st Bq,[],fun zz=>none⟩
noncomputable def F56:FA:=⟨[213],[],.st P56,[],fun zz=>none⟩
noncomputable def Jy:FA:=⟨[5,6,7],[],.st IG,[],fun zz=>none⟩
noncomputable def Jx:FA:=⟨[5],[],.st IF,[],fun zz=>none⟩
noncomputable def Jw:FA:=⟨[5],[],.st IE,[],fun zz=>none⟩
noncomputable def Jv:FA:=⟨[5,76,77],[],.st ID,[],fun zz=>none⟩
noncomputable def F62:FA:=⟨[5,80,81],[],.st P62,[],fun zz=>none⟩
noncomputable def Ju:FA:=⟨[5,22],[],.st IC,[],fun zz=>none⟩
noncomputable def Jt:FA:=⟨[5,103,18,96,16],[],.st IB,[],fun zz=>none⟩
noncomputable def Js:FA:=⟨[22],[],.ex IA,[],fun zz=>none⟩
noncomputable def Jr:FA:=⟨[22],[],.ex Iz,[],fun zz=>none⟩
noncomputable def Jq:FA:=⟨[28,122],[],.st Iy,[],fun zz=>none⟩
noncomputable def Jp:FA:=⟨[199],[],.st Ix,[],fun zz=>none⟩
noncomputable def Jo:FA:=⟨[201,108],[],.st Iw,[],fun zz=>none⟩
noncomputable def F70:FA:=⟨[204],[],.st P70,[],fun zz=>none⟩
noncomputable def Jn:FA:=⟨[205],[],.ex Iv,[],fun zz=>none⟩
noncomputable def FL:List (Option FA):=[some F0,some F1,some F2,some F3,some F4,some F5,some F6,some F7,some F8,some F9,some Ka,some J9,some J8,some J7,some J6,some J5,some J4,some J3,some J2,some J1,some J0,some JZ,some JY,some JX,some JW,some JU,some JR,some JQ,some JP,some JO,some JN,some JM,some JL,some JK,some JJ,some F35,some F36,some F37,some JI,some JH,some F40,some F41,some F42,some JG,some F44,some JF,some JD,some F47,some JC,some JB,some F50,some F51,some F52,some JA,some Jz,some F55,some F56,some Jy,some Jx,none,some Jw,some Jv,some F62,some Ju,some Jt,some Js,some Jr,some Jq,some Jp,some Jo,some F70,some Jn]
noncomputable def FQ:List V:=[.int (-1),.int 30,.int 99,.int 120,.int 20,.int (-1),.tup [V.tup [.str 89,.str 169,.tup [.str 170,.str 171,.tup [],.tup [],.none]],V.tup [.str 172,.str 173,.tup [.str 170,.str 174,.tup [],.tup [],.none]]],.tup [.str 85,.str 176,.str 67],.tup [.str 90,.str 91,.str 92,.str 93,.str 178],.tup [V.tup [.str 96,.tup [.int 2,.int 0]],V.tup [.str 96,.tup [.int 0,.int 0]],V.tup [.str 96,.tup [.int (-15),.int 1]],V.tup [.str 170,.str 180,.tup [],.tup [],.none],V.tup [.str 170,.str 181,.tup [],.tup [],.none]]]
noncomputable def Kb:List (Option ClsInfo):=[some ⟨57,[(8,58)]⟩,none,none,none,none,some ⟨61,[]⟩,some ⟨62,[(87,63)]⟩,some ⟨64,[]⟩]
noncomputable def T0:Tab:=⟨fun i=>(FL[i]?).join,fun g=>FQ[g]?,fun k=>(Kb[k]?).join,(100,97,148,115),[6,7,76,77,78,80,81,82,83,84,17,86,103,18,96,16]⟩
end
section
noncomputable def sy(i:Nat):Str:=⟨Array.replicate (i+100) 7⟩
noncomputable def cZ(i:Nat):Str:=(nmL[i]?).getD (sy i)
theorem zh:nmL.all (fun s=>decide (s.cps.size<100)&&PyData.strOk s)=true:=by decide +kernel
noncomputable def vn(s:Str):Nat:=s.cps.toList.foldl (fun a c=>a*256+(c+1)) 0
theorem Cm:(nmL.map vn).Nodup:=by decide +kernel
theorem zk:nmL.Nodup:=List.Pairwise.of_map vn (fun zz zz h e=>h (congrArg vn e)) Cm
theorem nm_lt{i:Nat}{s:Str}(h:nmL[i]?=some s):s.cps.size<100∧PyData.strOk s=true:=by
 have:=lAt zh s (mGe h)
 simpa using this
theorem gL(i:Nat):(sy i).cps.size=i+100:=by simp[sy]
theorem Cn(i j:Nat)(h:cZ i=cZ j):i=j:=by
 unfold cZ at h
 cases hi:nmL[i]? with
 |none =>
  cases hj:nmL[j]? with
  |none =>
   rw[hi,hj]at h
   have:=congrArg (fun s:Str=>s.cps.size) h
   simp only[Option.getD_none,gL]at this
   exact Nat.add_right_cancel this
  |some t =>
   rw[hi,hj]at h
   have:=congrArg (fun s:Str=>s.cps.size) h
   simp only[Option.getD_none,Option.getD_some,gL]at this
   have:=(nm_lt hj).1
   exact absurd (am (Nat.le_add_left 100 i) (bU (by assumption))) (Nat.not_le.mpr this)
 |some s =>
  cases hj:nmL[j]? with
  |none =>
   rw[hi,hj]at h
   have:=congrArg (fun s:Str=>s.cps.size) h
   simp only[Option.getD_none,Option.getD_some,gL]at this
   have:=(nm_lt hi).1
   exact absurd (am (Nat.le_add_left 100 j) (bU (Eq.symm (by assumption)))) (Nat.not_le.mpr this)
  |some t =>
   rw[hi,hj]at h
   obtain⟨h1,e1⟩:=Kk.mp hi
   obtain⟨h2,e2⟩:=Kk.mp hj
   exact(List.getElem_inj zk).mp (e1.trans (h.trans e2.symm))
theorem D9(i:Nat):PyData.strOk (cZ i)=true:=by
 unfold cZ
 cases hi:nmL[i]? with
 |none =>
  show(Array.replicate (i+100) 7).all _=true
  rw[← Array.all_toList,Array.toList_replicate,List.all_eq_true]
  intro x hx
  rw[(List.mem_replicate.mp hx).2];rfl
 |some s=>exact(nm_lt hi).2
theorem oy{s:Str}{i:Nat}(h:nid0 s=some i):cZ i=s:=by
 unfold nid0 at h
 obtain⟨h1,h2,_⟩:=List.findIdx?_eq_some_iff_getElem.mp h
 unfold cZ
 rw[Kj h1]
 exact Ki h2
noncomputable def eh(f:Nat):Str:=(["labels_of", "relabelled", "goes_on", "cut_quotient", "decimal", "kept", "units_beside", "plus", "minus", "times", "negated", "quotient", "power", "units_at", "is_whole", "whole_of", "fits", "calculated", "worth_by", "do_reckon", "do_put", "do_deed", "do_key", "do_test", "do_jump", "do_choose", "begin_frame", "leave_frame", "do_count", "do_less", "do_stop", "op_table", "run_code", "entered_places", "passes_over", "way_on", "led", "without_idle", "is_number_push", "worth_ahead", "numbers_folded", "asked_once", "places_behind", "come_to", "pressed", "without_unreached", "one_round", "shortened", "_law_draw", "_law_unit", "_law_settled", "_law_code", "_law_run", "_law_labels", "_law_end", "_law_is_neat", "law", "Code.__init__", "Code.told", "LedgerError.__init__", "LedgerError.told", "Frame.__init__", "Machine.__init__", "Machine.give_up", "Deeds.__init__", "led.<locals>.<lambda>", "pressed.<locals>.<lambda>", "_law_run.<locals>.reply", "_law_run.<locals>.do_one", "_law_run.<locals>.put_one", "_law_run.<locals>.number_for", "_law_run.<locals>.<lambda>"][f]?).getD ""
noncomputable def gK:Nat→List Nat
 |65=>[11,6]|66=>[150]|67=>[196,165]|68=>[197,196]|69=>[197,196]|70=>[197]|71=>[197]|_=>[]
noncomputable def ik(f:Nat):Option (Arguments×FuncBody×Scope):=match f with
 |65=>some (nd65.args,nd65.body,nd65.scope)
 |66=>some (nd66.args,nd66.body,nd66.scope)
 |71=>some (nd71.args,nd71.body,nd71.scope)
 |f=>(nE f).map fun x=>(x.1,.stmts x.2.1,x.2.2)
noncomputable def qM(f:Nat):Option PBody:=(ik f).bind fun x=>match x.2.1 with
 |.stmts b=>(qk (tX x.2.2) b).map .st
 |.expr e=>(dR e (tX x.2.2)).map .ex
noncomputable def uQ(f:Nat):Option PBody:=((FL[f]?).join).map (·.body)
theorem DQ:(List.range 72).map (fun f=>if f=59 then none else qM f)=(List.range 72).map uQ:=by kernel_rfl
end
section
noncomputable def bp(h:Heap)(l:List Addr):Frag:=l.filterMap fun a=>(h.get? a).map fun o=>(a,o)
theorem gR{h:Heap}:∀{l:List Addr},(bp h l).In h
 |[],_,_,e=>by injection e
 |b::l,a,o,e=>by
  unfold bp at e
  rw[List.filterMap_cons]at e
  cases hb:h.get? b with
  |none=>rw[hb]at e;exact gR (l:=l) a o e
  |some ob =>
   rw[hb]at e
   simp only[Option.map_some,Kp]at e
   cases hz:a==b with
   |true=>rw[hz]at e;replace e:=oInj e;subst e;refine ab (Ki hz) ?_;exact hb
   |false=>rw[hz]at e;exact gR (l:=l) a o e
noncomputable def Kad:List Addr:=[38,37,87,86,100,99,112,111,124,123,243,242,271,270,501,500,49,54,61,133,141,148,155,162,169,176,183,191,198,205,212,219,226,282,289,296,303,310,317,324,331,338,345,352,359,366,373,380,387,394,401,408,415,420,427,434,439,446,453,460,465,470,477,484,512,543,548,553,560,567,574,579,586,28,35,77,84,240,261,268,498,27,34,36,39,40,48,53,60,69,70,76,83,85,88,98,110,122,132,134,140,147,154,161,168,175,182,184,190,197,204,211,218,225,239,241,244,245,260,267,269,272,273,281,288,295,302,309,316,323,330,337,344,351,358,365,372,379,386,393,400,407,414,419,426,433,438,445,452,459,464,469,476,483,497,499,502,503,511,513,514,515,516,517,518,519,520,521,522,523,524,525,526,527,528,529,530,531,532,533,534,535,536,542,547,552,559,566,573,578,585]
noncomputable def tabs0:List (Addr×Addr):=[(414,410),(464,462),(559,555)]
noncomputable def fS(k:Nat):Option Addr:=[38,87,100,112,124,243,271,501][k]?
noncomputable def fZ(f:Nat):Addr:=([49,54,61,133,141,148,155,162,169,176,183,191,198,205,212,219,226,282,289,296,303,310,317,324,331,338,345,352,359,366,373,380,387,394,401,408,415,420,427,434,439,446,453,460,465,470,477,484,512,543,548,553,560,567,574,579,586,28,35,77,84,240,261,268,498][f]?).getD 0
noncomputable def iW:Nat→Option Addr|36=>some 410|44=>some 462|52=>some 555|_=>none
noncomputable def wN(p:Pos):Str:=match lam0 p with|some x=>eh x.1|none => ""
noncomputable def nW(f:Nat):Option FnInfo:=(T0.fn f).bind fun fa=>(ik f).map fun x=>⟨x.1,x.2.1,x.2.2,eh f,fa.params,fa.dflts,fa.body,fa.cells,gK f,iW f⟩
noncomputable def eM(w:World)(h:Heap)(os:OsState):Wd where
 prog:=PySem.Challenge.pw_og0097_01
 w:=w
 nm:=cZ
 inj:=Cn
 nmOk:=D9
 K:=bp h Kad
 mg:=h.nsMap mainGlobals
 mb:=h.nsMap builtinsNs
 clsA:=fS
 glob:=gk0
 FI:=nW
 GC:=T0.GC
 CI:=T0.CI
 mth:=T0.mth
 attrs:=T0.attrs
 tabs:=tabs0
 pq:=wN
 os0:=os
noncomputable def qI:Value→Option Addr|.ref a=>some a|_=>none
noncomputable def qJ:Value→Option Int|.int i _=>some i|_=>none
noncomputable def qH:Value→Option Str|.str s _=>some s|_=>none
noncomputable def uN:Value→Option Bool|.bool s=>some s|_=>none
noncomputable def uM:Value→Bool|.none=>true|_=>false
noncomputable def Ak:Data→Option (Array Value)|.seq it _=>some it|_=>none
noncomputable def vP:Data→Option (Array Value)|.fields vs=>some vs|_=>none
noncomputable def sD:Data→Option FuncData|.func fd=>some fd|_=>none
noncomputable def jB(K:Frag)(x:Value):Option (List Value):=bo (qI x) fun a=>bo (K.lookup a) fun o=>bu (o.cls==.type "tuple") (bo (Ak o.data) fun it=>bu (Nat.ble it.size 1000) (some it.toList))
mutual
noncomputable def AJ(K:Frag):V→Value→Bool
 |.none,x=>uM x
 |.int i,x=>qJ x==some i
 |.str s,x=>qH x==some (cZ s)
 |.tup vs,x=>match jB K x with|some xs=>vsOk K vs xs|none=>false
 |_,_=>false
noncomputable def vsOk(K:Frag):List V→List Value→Bool
 |[],xs=>xs.isEmpty
 |v::vs,xs=>match xs with|x::xs=>AJ K v x&&vsOk K vs xs|[]=>false
end
noncomputable def gB(K:Frag)(a:Addr):Option (Arguments×FuncBody×Scope):=bo (K.lookup a) fun o=>b1 (sD o.data) fun fd=>(fd.params,fd.body,fd.scope)
noncomputable def sM(K:Frag)(c:Value)(q:Str):Bool:=(qI c).any fun a=>(K.lookup a).any fun o=>o.cls==.type "code" && (vP o.data).any fun vs=>bo (vs[1]?:Option Value) qH==some q
noncomputable def vF(K:Frag)(c P:Addr):Bool:=(K.lookup c).any fun o=>o.cls==.type "code" && !(c==P)&&(vP o.data).any fun vs=>(vs[11]?:Option Value)==some (.ref P)&&(bo (vs[18]?:Option Value) qH).isSome&&(bo (vs[7]?:Option Value) qJ).isSome&&(bo (vs[9]?:Option Value) uN).isSome&&(bo (vs[10]?:Option Value) qJ).isSome
noncomputable def Ab(K:Frag)(a:Addr):Option FuncData:=bo (K.lookup a) fun o=>bu (o.cls==.type "function") (sD o.data)
noncomputable def Bi(K:Frag)(dfl:List V)(x:Value):Bool:=match dfl with|[]=>x==.none|_=>AJ K (.tup dfl) x
noncomputable def DP(K:Frag)(f:Nat)(c:Value):Bool:=match iW f with|some P=>(qI c).any fun c=>tabs0.contains (c,P)&&vF K c P|none=>true
noncomputable def Aa(K:Frag)(f:Nat)(dfl:List V):Bool:=(Ab K (fZ f)).any fun fd=>fd.globals==mainGlobals&&fd.builtins==builtinsNs&&fd.qualname==eh f&&fd.closure.isEmpty&&fd.kwdefaults==.none&&sM K fd.code (eh f)&&Bi K dfl fd.defaults&&DP K f fd.code
noncomputable def qx(K:Frag)(C:Addr)(ci:ClsInfo)(attrs:List Nat):Bool :=
 plainGet K C Str.empty&&hasDictIn K C&&findIn K (.ref C) "__setattr__" == some (some (.builtin "object.__setattr__"))&&plainOver K C&&makesIn K C&&keepIn K (.ref C) &&
 findIn K (.ref C) "__init__" == some (some (.ref (fZ ci.init)))&&attrs.all (fun a=>findIn K (.ref C) (cZ a)==some none) &&
 ci.meths.all fun m=>!attrs.contains m.1&&findIn K (.ref C) (cZ m.1)==some (some (.ref (fZ m.2)))
noncomputable def rP(K:Frag)(k:Nat)(C:Addr):Bool :=
 keepIn K (.ref C)&&(clsIn K C).isSome&&typeIn K (.ref C)==some (.type "type")&&subIn K (.ref C) (.type "BaseException")==some true &&
 [2,3,4].all (fun j=>match fS j with|some C'=>subIn K (.ref C) (.ref C')==some (decide (j=k))|none=>true) &&
 iS K C&&(clsIn K C).any (fun cd=>d8 cd.mro)&&findIn K (.ref C) "__init__" == some (some (.ref (fZ 59)))&&findIn K (.ref C) "what" == some none&&findIn K (.ref C) "at" == some none&&findIn K (.ref C) "__setattr__" == some (some (.builtin "object.__setattr__"))
noncomputable def fids:List Nat:=(List.range 65).filter fun f=>!(f==59||f==60)
noncomputable def sC(f:Nat):List V:=match FL[f]? with|some (some fa)=>fa.dflts|_=>[]
noncomputable def jg(K:Frag)(mg:Str→Option Value)(p:Nat×GK):Bool:=let s:=cZ p.1;match p.2 with
 |.const g=>(match FQ[g]? with|some v=>(match mg s with|some x=>AJ K v x|none=>false)|none=>true)
 |.fn f=>mg s==some (.ref (fZ f))&&fids.contains f
 |.cls k=>(match fS k with|some C=>mg s==some (.ref C)|none=>false)
noncomputable def xw(K:Frag):Bool:=(Ab K 77).any fun fd=>fd.globals==mainGlobals&&fd.builtins==builtinsNs&&sM K fd.code fd.qualname&&(jB K fd.defaults).any fun xs=>(one xs).isSome
noncomputable def As(K:Frag)(mg mb:Str→Option Value)(n m:Bool):List Bool :=
 [n,m,gkL.all (jg K mg),
 ([(("len" : Str),Value.builtin "len"),("abs",.builtin "abs"),("tuple",.type "tuple"),("list",.type "list"),("max",.builtin "max"),("range",.type "range"),("Exception",.type "Exception")]).all (fun x=>mg x.1==none&&mb x.1==some x.2)]
noncomputable def vW(K:Frag):List Bool :=
 [fids.all (fun f=>Aa K f (sC f)),
 (List.range 8).all (fun k=>match fS k,T0.CI k with|some C,some ci=>qx K C ci T0.attrs&&fids.contains ci.init&&ci.meths.all (fun m=>fids.contains m.2)|_,_=>true),
 [2,3,4].all (fun k=>match fS k with|some C=>rP K k C|none=>true),xw K,
 tabs0.all fun x=>vF K x.1 x.2]
noncomputable def vV(h:Heap):List Bool:=As (bp h Kad) (h.nsMap mainGlobals) (h.nsMap builtinsNs) (h.isNs mainGlobals) (h.isNs builtinsNs)
end
section
section
theorem ff{p:Prop}{b:Bool}(h:b=true)(e:b=false):p:=by rw[h]at e;injection e
theorem hG{α:Type}{o:Option α}{p:α→Bool}(h:o.any p=true):Need o fun a=>p a=true:=match o,h with|some a,h=>⟨a,rfl,h⟩
theorem tQ{x:Value}{a:Addr}:qI x=some a→x=.ref a:=by
 apply @Value.casesOn (fun x=>qI x=some a→x=.ref a) x
 case ref=>intro _ h;exact congrArg _ (oInj h)
 all_goals (intros;exact nS ‹_›)
theorem oh{x:Value}{i:Int}:qJ x=some i→∃t,x=.int i t:=by
 apply @Value.casesOn (fun x=>qJ x=some i→∃t,x=.int i t) x
 case int=>intro _ t h;exact⟨t,congrArg (Value.int · t) (oInj h)⟩
 all_goals (intros;exact nS ‹_›)
theorem og{x:Value}{i:Str}:qH x=some i→∃t,x=.str i t:=by
 apply @Value.casesOn (fun x=>qH x=some i→∃t,x=.str i t) x
 case str=>intro _ t h;exact⟨t,congrArg (Value.str · t) (oInj h)⟩
 all_goals (intros;exact nS ‹_›)
theorem yz{x:Value}{i:Bool}:uN x=some i→x=.bool i:=by
 apply @Value.casesOn (fun x=>uN x=some i→x=.bool i) x
 case bool=>intro _ h;exact congrArg _ (oInj h)
 all_goals (intros;exact nS ‹_›)
theorem yy{x:Value}:uM x=true→x=.none:=by
 apply @Value.casesOn (fun x=>uM x=true→x=.none) x
 case none=>intro _;rfl
 all_goals (intros;exact fT ‹_›)
theorem C7{x:Data}{i:Array Value}:Ak x=some i→∃n,x=.seq i n:=by
 apply @Data.casesOn (fun x=>Ak x=some i→∃n,x=.seq i n) x
 case seq=>intro _ t h;exact⟨t,congrArg (Data.seq · t) (oInj h)⟩
 all_goals (intros;exact nS ‹_›)
theorem uz{x:Data}{i:Array Value}:vP x=some i→x=.fields i:=by
 apply @Data.casesOn (fun x=>vP x=some i→x=.fields i) x
 case fields=>intro _ h;exact congrArg _ (oInj h)
 all_goals (intros;exact nS ‹_›)
theorem C8{x:Data}{i:FuncData}:sD x=some i→x=.func i:=by
 apply @Data.casesOn (fun x=>sD x=some i→x=.func i) x
 case func=>intro _ h;exact congrArg _ (oInj h)
 all_goals (intros;exact nS ‹_›)
end
section
variable {wd:Wd} {K:Frag} {h:Heap}
inductive TupIn(K:Frag)(x:Value)(xs:List Value):Prop|mk (a:Addr):x=.ref a→(∀h,K.In h→IsTup h a xs.toArray)→xs.length≤1000→TupIn K x xs
theorem ma{x:Value}{xs:List Value}(e:jB K x=some xs):TupIn K x xs:=by
 obtain⟨a,h1,e⟩:=aw e
 obtain⟨o,h2,e⟩:=aw e
 have c:=aX e
 obtain⟨it,h3,e⟩:=aw (aO e)
 have l:=aD (aX e)
 obtain rfl:=oInj (aO e)
 obtain⟨n,h3⟩:=C7 h3
 exact⟨a,tQ h1,fun h X=>⟨o,X _ _ h2,Ki c,n,h3⟩,l⟩
mutual
theorem tR(hn:wd.nm=cZ)(X:K.In h):∀{v:V} {x:Value},AJ K v x=true→VR wd h v x
 |.none,x,e=>yy e▸.none
 |.bool b,x,e=>fT e
 |.obj a,x,e=>fT e
 |.clo f C,x,e=>fT e
 |.int i,x,e=>by obtain⟨t,rfl⟩:=oh (Ki e);exact .int i t
 |.str s,x,e=>by obtain⟨t,rfl⟩:=og (Ki e);refine bT hn ?_;exact .str s t
 |.tup vs,x,e=>by
  have e2:(match jB K x with|some xs=>vsOk K vs xs|none=>false)=true:=e
  clear e
  cases ht:jB K x with
  |none=>rw[ht]at e2;exact fT e2
  |some xs =>
   rw[ht]at e2
   obtain⟨a,rfl,t,l⟩:=ma ht
   exact .tup (t _ X) (am l (sizeLine_eq▸by decide)) (vsOk_rel hn X e2)
theorem vsOk_rel(hn:wd.nm=cZ)(X:K.In h):∀{vs:List V} {xs:List Value},vsOk K vs xs=true→VRs wd h vs xs
 |[],xs,e=>eL e▸.nil
 |_::_,[],e=>fT e
 |v::vs,x::xs,e=>.cons (tR hn X (ak e)) (vsOk_rel hn X (aK e))
end
end
theorem CZ:fids.all (fun f=>(T0.fn f).isSome)=true:=by decide +kernel
theorem pS{K:Frag}{c:Value}{q:Str}(e:sM K c q=true):∃a o vs t,c=.ref a∧K.lookup a=some o∧o.cls=.type "code" ∧ o.data=.fields vs∧vs[1]?=some (.str q t):=by
 obtain⟨a,h1,e⟩:=hG e
 obtain⟨o,h2,e⟩:=hG e
 obtain⟨vs,h3,e3⟩:=hG (aK e)
 obtain⟨y,h4,h5⟩:=aw (Ki e3)
 obtain⟨t,rfl⟩:=og h5
 exact⟨a,o,vs,t,tQ h1,h2,Ki (ak e),uz h3,h4⟩
theorem jq{vs:Array Value}{i:Nat}{y:Value}(e:(vs[i]?:Option Value)=some y):vs.getD i .none=y:=by refine ab (Array.getD_eq_getD_getElem?) ?_;refine ab e ?_;rfl
theorem ut{K:Frag}{h:Heap}(X:K.In h){c P:Addr}(e:vF K c P=true):CodeHd h c P:=by
 obtain⟨o,hl,e⟩:=hG e
 obtain⟨vs,hd,e2⟩:=hG (aK e)
 have g1:=Ki (ak (ak (ak (ak e2))))
 obtain⟨f,h2⟩:=Ks.mp (aK (ak (ak (ak e2))))
 obtain⟨y,h2,q⟩:=aw h2
 obtain⟨tf,rfl⟩:=og q
 obtain⟨fl,h3⟩:=Ks.mp (aK (ak (ak e2)))
 obtain⟨y,h3,q⟩:=aw h3
 obtain⟨tg,rfl⟩:=oh q
 obtain⟨b,h4⟩:=Ks.mp (aK (ak e2))
 obtain⟨y,h4,q⟩:=aw h4
 obtain rfl:=yz q
 obtain⟨tx,h5⟩:=Ks.mp (aK e2)
 obtain⟨y,h5,q⟩:=aw h5
 obtain⟨tt,rfl⟩:=oh q
 exact⟨o,vs,f,tf,fl,tg,b,tx,tt,X _ _ hl,Ki (ak (ak e)),uz hd,g1,jq g1,jq h2,jq h3,jq h4,jq h5,ne_of_beq_false (gH (aK (ak e)))⟩
inductive FnIn(K:Frag)(a:Addr)(fd:FuncData):Prop|mk (o:Obj):K.lookup a=some o→o.cls=.type "function" → o.data=.func fd→FnIn K a fd
theorem oJ{K:Frag}{a:Addr}{fd:FuncData}(e:Ab K a=some fd):FnIn K a fd:=by
 obtain⟨o,h1,e⟩:=aw e
 exact⟨o,h1,Ki (aX e),C8 (aO e)⟩
theorem FnIn.ty{K:Frag}{a:Addr}{fd:FuncData}(x:FnIn K a fd):typeIn K (.ref a)=some (.type "function"):=by
 obtain⟨o,h1,h2,_⟩:=x
 refine(?_:(K.lookup a).map (fun o=>o.cls)=_)
 refine ab h1 ?_;refine bT h2 ?_;rfl
theorem FnIn.parts{K:Frag}{a:Addr}{fd:FuncData}(x:FnIn K a fd):gB K a=some (fd.params,fd.body,fd.scope):=by
 obtain⟨o,h1,_,h3⟩:=x
 unfold gB
 refine ab h1 ?_
 refine(?_:b1 (sD o.data) _=_)
 refine ab h3 ?_;rfl
theorem xH:fids.all (fun f=>(gK f).isEmpty)=true:=by decide +kernel
theorem C4{f:Nat}{fa:FA}(h:T0.fn f=some fa):sC f=fa.dflts:=by
 have h:(FL[f]?).join=some fa:=h
 unfold sC
 cases hq:FL[f]? with
 |none=>rw[hq]at h;exact nS h
 |some x =>
  rw[hq]at h
  obtain rfl:x=some fa:=h
  rfl
inductive DflR(wd:Wd)(h:Heap)(l:List V)(x:Value):Prop|mk (dv:List Value):((l=[]∧x=.none∧dv=[])∨∃t,x=.ref t∧IsTup h t dv.toArray)→VRs wd h l dv→DflR wd h l x
theorem C5{wd:Wd}{K:Frag}{h:Heap}(hn:wd.nm=cZ)(X:K.In h){l:List V}{x:Value}(e:Bi K l x=true):DflR wd h l x:=by
 cases l with
 |nil=>exact⟨[],.inl ⟨rfl,Ki e,rfl⟩,.nil⟩
 |cons v r =>
  have e2:(match jB K x with|some xs=>vsOk K (v::r) xs|none=>false)=true:=e
  clear e
  cases ht:jB K x with
  |none=>rw[ht]at e2;exact fT e2
  |some xs =>
   rw[ht]at e2
   obtain⟨a,rfl,t,_⟩:=ma ht
   exact⟨xs,.inr ⟨a,rfl,t _ X⟩,vsOk_rel hn X e2⟩
theorem Fb{w:World}{h0:Heap}{os:OsState}{f:Nat}(hf:f∈fids)(e:Aa (bp h0 Kad) f (sC f)=true)(hp:gB (bp h0 Kad) (fZ f)=ik f) :
  typeIn (bp h0 Kad) (.ref (fZ f))=some (.type "function")∧∀h,(bp h0 Kad).In h→VR (eM w h0 os) h (.clo f []) (.ref (fZ f)):=by
 obtain⟨fa,hfa⟩:=Ks.mp (lAt CZ f hf)
 obtain⟨fd,hd,e⟩:=hG e
 have I:=oJ hd
 refine⟨I.ty,fun h X=>?_⟩
 have hfi:nW f=some ⟨fd.params,fd.body,fd.scope,eh f,fa.params,fa.dflts,fa.body,fa.cells,gK f,iW f⟩:=by
  unfold nW
  refine ab hfa ?_;refine bT hp ?_;refine ab I.parts ?_;rfl
 have hfr:gK f=[]:=eL (lAt xH f hf)
 obtain⟨o,hl,_,hdd⟩:=I
 obtain⟨c,oc,vs,t,c1,c2,c3,c4,c5⟩:=pS (aK (ak (ak e)))
 have e7:=aK (ak e)
 rw[C4 hfa]at e7
 obtain⟨dv,D1,D2⟩:=C5 (wd:=eM w h0 os) rfl X e7
 refine .clo (X _ _ hl) hdd (fi:=⟨fd.params,fd.body,fd.scope,eh f,fa.params,fa.dflts,fa.body,fa.cells,gK f,iW f⟩) (dv:=dv) ⟨hfi,rfl,rfl,rfl,Ki (ak (ak (ak (ak (ak (ak (ak e))))))),Ki (aK (ak (ak (ak (ak (ak (ak e))))))),Ki (aK (ak (ak (ak (ak (ak e)))))),fun x hx=>?_,fun zz=>eL (aK (ak (ak (ak (ak e))))),D1,Ki (aK (ak (ak (ak e)))),⟨c,oc,vs,t,c1,X _ _ c2,c3,c4,c5⟩,fun P hP=>?_⟩ D2
 ·exact absurd ((hfr▸hx:x∈[])) Kr
 ·have e8:=aK e
  have hP:iW f=some P:=hP
  unfold DP at e8
  rw[hP,c1]at e8
  exact⟨c,c1,KU.mp (ak e8)⟩
end
section
structure Seen(h:Heap):Prop where
 ns:h.isNs mainGlobals=true
 nb:h.isNs builtinsNs=true
 names:gkL.all (jg (bp h Kad) (h.nsMap mainGlobals))=true
 fns:fids.all (fun f=>Aa (bp h Kad) f (sC f))=true
 cls:(List.range 8).all (fun k=>match fS k,T0.CI k with|some C,some ci=>qx (bp h Kad) C ci T0.attrs&&fids.contains ci.init&&ci.meths.all (fun m=>fids.contains m.2)|_,_=>true)=true
 leaf:[2,3,4].all (fun k=>match fS k with|some C=>rP (bp h Kad) k C|none=>true)=true
 init:xw (bp h Kad)=true
 blt:([(("len" : Str),Value.builtin "len"),("abs",.builtin "abs"),("tuple",.type "tuple"),("list",.type "list"),("max",.builtin "max"),("range",.type "range"),("Exception",.type "Exception")]).all (fun x=>h.nsMap mainGlobals x.1==none&&h.nsMap builtinsNs x.1==some x.2)=true
 tabs:tabs0.all (fun x=>vF (bp h Kad) x.1 x.2)=true
 parts:∀f∈59::fids,gB (bp h Kad) (fZ f)=ik f
theorem BY{h:Heap}(e:vV h=[true,true,true,true])(e':vW (bp h Kad)=[true,true,true,true,true])(p:(59::fids).map (fun f=>gB (bp h Kad) (fZ f))=(59::fids).map ik):Seen h:=by
 unfold vV As at e
 unfold vW at e'
 simp only[List.cons.injEq]at e e'
 obtain⟨e1,e2,e3,e8,_⟩:=e
 obtain⟨e4,e5,e6,e7,e9,_⟩:=e'
 exact⟨e1,e2,e3,e4,e5,e6,e7,e8,e9,List.map_inj_left.mp p⟩
theorem gI{β:Type}:∀{l:List (Nat×β)} {i:Nat} {y:β},l.lookup i=some y→(i,y)∈l
 |(a,b)::l,i,y,e=>by
  rw[Kp]at e
  cases hz:i==a with
  |true=>replace e:=hz▸e;replace e:=oInj e;subst e;refine ab (Ki hz) ?_;exact .head _
  |false=>replace e:=hz▸e;exact .tail _ (gI e)
theorem r9{s:Str}{y:GK}(e:gk0 s=some y):∃i,cZ i=s∧(i,y)∈gkL:=by
 obtain⟨i,h1,h2⟩:=KV.mp e
 exact⟨i,oy h1,gI h2⟩
theorem vm{t:Str}(ht:t.cps.size<100)(h:nmL.all (fun s=>!(s==t))=true)(i:Nat):cZ i≠t:=by
 unfold cZ
 cases hi:nmL[i]? with
 |none =>
  intro e
  have:=congrArg (fun s:Str=>s.cps.size) e
  simp only[Option.getD_none,gL]at this
  exact absurd (am (Nat.le_add_left 100 i) (bU this)) (Nat.not_le.mpr ht)
 |some s =>
  intro e
  have:=lAt h s (mGe hi)
  simp only[Option.getD_some]at e
  replace this:=e▸this;rw[Kq]at this
  injection this
section
variable {w:World} {h:Heap} {os:OsState}
theorem lG(S:Seen h){f:Nat}(hf:f∈fids):typeIn (bp h Kad) (.ref (fZ f))=some (.type "function")∧∀h',(bp h Kad).In h'→VR (eM w h os) h' (.clo f []) (.ref (fZ f)) :=
 Fb hf (lAt S.fns f hf) (S.parts f (.tail _ hf))
theorem Ft(S:Seen h){k:Nat}{C:Addr}{ci:ClsInfo}(h1:fS k=some C)(h2:T0.CI k=some ci):qx (bp h Kad) C ci T0.attrs=true∧ci.init∈fids∧∀m∈ci.meths,m.2∈fids:=by
 have hk:k<8:=(Kk.mp h1).1
 have:=lAt S.cls k (KZ.mpr hk)
 replace this:=h1▸this;replace this:=h2▸this
 simp only[Lv,List.all_eq_true,KU]at this
 exact⟨this.1.1,this.1.2,this.2⟩
theorem uK(S:Seen h):(eM w h os).OK where
 pql p p' h1 h2:=by
  refine(?_:wN p=wN p')
  unfold wN lam0
  refine ab h1 ?_;refine ab h2 ?_;rfl
 mthn:=by
  refine(?_:cZ 100 = "append" ∧ cZ 97 = "pop" ∧ cZ 148 = "extend" ∧ cZ 115 = "get")
  decide +kernel
 gdbg:=by refine(?_:gk0 "__debug__" = none);kernel_rfl
 dbg i:=⟨vm (by decide +kernel) (by decide +kernel) i,vm (by decide +kernel) (by decide +kernel) i,vm (by decide +kernel) (by decide +kernel) i⟩
 cst s g v h1 h2:=by
  obtain⟨i,e,hm⟩:=r9 h1
  have:=lAt S.names _ hm
  unfold jg at this
  simp only[e]at this
  have h2:FQ[g]?=some v:=h2
  replace this:=h2▸this
  cases hx:h.nsMap mainGlobals s with
  |none=>replace this:=hx▸this;injection this
  |some x =>
   replace this:=hx▸this
   exact⟨x,hx,fun h' G=>tR (wd:=eM w h os) rfl G.K this⟩
 fns s f h1:=by
  obtain⟨i,e,hm⟩:=r9 h1
  have:=lAt S.names _ hm
  unfold jg at this
  simp only[e,Lv,KU]at this
  exact⟨_,Ki this.1,fun h' G=>(lG S this.2).2 h' G.K⟩
 cls s k h1:=by
  obtain⟨i,e,hm⟩:=r9 h1
  have:=lAt S.names _ hm
  unfold jg at this
  simp only[e]at this
  cases hc:fS k with
  |none=>replace this:=hc▸this;injection this
  |some C=>replace this:=hc▸this;exact⟨C,hc,Ki this⟩
 inst k C ci h1 h2:=by
  obtain⟨c,ci1,cm⟩:=Ft S h1 h2
  unfold qx at c
  simp only[Lv,List.all_eq_true,Bool.not_eq_true']at c
  obtain⟨⟨⟨⟨⟨⟨⟨⟨c1,c2⟩,c3⟩,c4⟩,c5⟩,c6⟩,c7⟩,c8⟩,c9⟩:=c
  refine⟨c1,c2,Ki c3,c4,c5,c6,⟨_,Ki c7,(lG (w:=w) (os:=os) S ci1).1,fun h' G=>(lG S ci1).2 h' G.K⟩,fun a ha=>Ki (c8 a ha),fun m f hl=>?_⟩
  have hm:=gI hl
  obtain⟨d1,d2⟩:=c9 _ hm
  have hf:=cm _ hm
  refine⟨fun z=>?_,_,Ki d2,(lG (w:=w) (os:=os) S hf).1,fun h' G=>(lG S hf).2 h' G.K⟩
  exact ff (KU.mpr (show m∈T0.attrs from z)) d1
 blt s v hm _:=by
  have:=lAt S.blt (s,v) (by
   simp only[List.mem_cons,Kr,or_false]at hm ⊢
   rcases hm with e|e|e|e|e|e<;>simp[e])
  simp only[Lv]at this
  exact⟨Ki this.1,Ki this.2⟩
end
end
section
noncomputable def iL:Arguments×List Stmt×Scope:=(nE 59).getD (⟨[],[],none,[],[],none,[]⟩,[],PySem.Challenge.pw_og0097_01.main.scope)
noncomputable def sE:Stmt→Expr|.Expr e _=>e|.Assign _ v _=>v|_=>.Name "" default
noncomputable def sT:Stmt→Expr|.Assign (t::_) _ _=>t|_=>.Name "" default
noncomputable def sP:Stmt→Pos|.Expr _ p=>p|.Assign _ _ p=>p|_=>default
noncomputable def eF:Expr→Expr|.Call f _ _ _=>f|.Attribute o _ _=>o|e=>e
noncomputable def eA(i:Nat):Expr→Expr|.Call _ as _ _=>as[i]?.getD (.Name "" default)|e=>e
noncomputable def lR(i:Nat):Stmt:=iL.2.1[i]?.getD (.Pass default)
noncomputable def c59:Expr:=sE (lR 0)
theorem Ic:ik 59=some (⟨[],iL.1.args,none,[],iL.1.kw_defaults,none,iL.1.defaults⟩,.stmts [.Expr (.Call (.Attribute (.Name "Exception" (eF (eF c59)).pos) "__init__" (eF c59).pos) [.Name "self" (eA 0 c59).pos,.Name "what" (eA 1 c59).pos] [] c59.pos) (sP (lR 0)),
   .Assign [.Attribute (.Name "self" (eF (sT (lR 1))).pos) "what" (sT (lR 1)).pos] (.Name "what" (sE (lR 1)).pos) (sP (lR 1)),.Assign [.Attribute (.Name "self" (eF (sT (lR 2))).pos) "at" (sT (lR 2)).pos] (.Name "at" (sE (lR 2)).pos) (sP (lR 2))],iL.2.2):=by kernel_rfl
theorem l59a:iL.1.args.map (·.arg)=(["self", "what", "at"]:List Str):=by kernel_rfl
theorem HD:(iL.2.2.kind,iL.2.2.isCoroutine,iL.2.2.isGenerator,iL.2.2.names.all (fun x=>!(x.2==.cell)),iL.2.2.names.lookup ("self" : Str),iL.2.2.names.lookup ("what" : Str),iL.2.2.names.lookup ("at" : Str),iL.2.2.names.lookup ("Exception" : Str),(eF c59).pos.endLine==c59.pos.line) =
 (.function,false,false,true,some .local,some .local,some .local,some .globalImplicit,true):=by kernel_rfl
section
variable {w:World} {h:Heap} {os:OsState}
theorem CR(S:Seen h):InitFn (bp h Kad) 77:=by
 obtain⟨fd,hd,e⟩:=hG S.init
 have I:=oJ hd
 have hp:=S.parts 59 (.head _)
 rw[show fZ 59=77 from rfl,I.parts,Ic]at hp
 obtain⟨p1,hp⟩:=Prod.mk.inj (oInj hp)
 obtain⟨p2,p3⟩:=Prod.mk.inj hp
 obtain⟨b1,hb⟩:=Prod.mk.inj HD
 obtain⟨b2,hb⟩:=Prod.mk.inj hb
 obtain⟨b3,hb⟩:=Prod.mk.inj hb
 obtain⟨b4,hb⟩:=Prod.mk.inj hb
 obtain⟨b5,hb⟩:=Prod.mk.inj hb
 obtain⟨b6,hb⟩:=Prod.mk.inj hb
 obtain⟨b7,hb⟩:=Prod.mk.inj hb
 obtain⟨b8,b9⟩:=Prod.mk.inj hb
 obtain⟨c,oc,vs,t,c1,c2,c3,c4,c5⟩:=pS (aK (ak e))
 obtain⟨xs,hx,h1⟩:=hG (aK e)
 obtain⟨dv,hdv⟩:=Ks.mp h1
 obtain rfl:=dG hdv
 obtain⟨t0,ht,hT,_⟩:=ma hx
 obtain⟨o,hl,_,hdd⟩:=I
 exact⟨⟨o,fd,_,_,_,_,t0,dv,_,_,_,_,_,_,_,_,_,_,_,_,_,_,hl,hdd,p1,l59a,p3,b1,b2,b3,(fun x hx z=>tF ((congrArg (fun k=>!(k==NameKind.cell)) z▸lAt b4 x hx:(!(NameKind.cell==NameKind.cell))=true).symm.trans rfl)),b5,b6,b7,b8,Ki (ak (ak (ak e))),Ki (aK (ak (ak e))),ht,hT,(fun h' X=>⟨c,oc,vs,t,c1,X _ _ c2,c4,c5⟩),b9,p2⟩⟩
theorem uy(S:Seen h):h.nsMap mainGlobals "Exception" = none∧h.nsMap builtinsNs "Exception" = some (.type "Exception"):=by
 have:=lAt S.blt (("Exception" : Str),.type "Exception") (by simp)
 simp only[Lv]at this
 exact⟨Ki this.1,Ki this.2⟩
theorem qD(S:Seen h):(eM w h os).Exc where
 leaf k C hk hC:=by
  have hC:fS k=some C:=hC
  have hk':k∈[2,3,4]:=by
   unfold hE at hk
   simpa [or_assoc] using hk
  have:=lAt S.leaf k hk'
  rw[hC]at this
  unfold rP at this
  simp only[Lv]at this
  obtain⟨⟨⟨⟨⟨⟨⟨⟨⟨⟨c1,c2⟩,c3⟩,c4⟩,c5⟩,c6⟩,c7⟩,c8⟩,c9⟩,c10⟩,c11⟩:=this
  refine⟨c1,c2,Ki c3,Ki c4,fun j C' hj hC'=>?_,fun A envs s txt t Q E hA hh hdp hun G hg hos k=>?_⟩
  ·have hj':j∈[2,3,4]:=by
    unfold hE at hj
    simpa [or_assoc] using hj
   have:=lAt c5 j hj'
   rw[show fS j=some C' from hC']at this
   exact Ki this
  ·exact w9 (CR S) G.K c6 c7 (Ki c8) (by
    obtain⟨fd,hd,_⟩:=hG S.init
    exact(oJ hd).ty) (Ki c9) (Ki c10) (Ki c11) hdp G.nolimit G.g G.b (uy S).1 (uy S).2 k
end
end
section
noncomputable def Hk(fa:FA)(x:Arguments×FuncBody×Scope)(fr:List Nat):Bool :=
 x.1.posonlyargs.isEmpty&&x.1.vararg.isNone&&x.1.kwonlyargs.isEmpty&&x.1.kwarg.isNone&&x.1.args.map (·.arg)==fa.params.map cZ&&decide fa.params.Nodup&&Nat.ble fa.dflts.length fa.params.length &&
 x.2.2.kind==.function&&!x.2.2.isGenerator&&!x.2.2.isCoroutine &&
 fa.params.all (fun p=>x.2.2.names.lookup (cZ p)==some (if fa.cells.contains p then .cell else .local))&&x.2.2.names.filterMap dT==fa.cells.map cZ&&decide fa.cells.Nodup &&
 x.2.2.names.all (fun n=>!(n.2==.free)||fr.any (fun i=>cZ i==n.1))&&(fa.cells.isEmpty||x.2.2.names.all (fun n=>!(n.2==.free)))
theorem Hz:(List.range 72).all (fun f=>match T0.fn f,ik f with|some fa,some x=>Hk fa x (gK f)|none,_=>true|_,none=>false)=true:=by kernel_rfl
theorem Fx:∀f∈List.range 72,(if f=59 then none else qM f)=uQ f:=List.map_inj_left.mp DQ
noncomputable def LNs:List (Nat×Nat×List Nat×Node):=[(36,65,[11,6],nd65),(44,66,[150],nd66),(52,67,[196,165],zp),(52,68,[197,196],zo),(52,69,[197,196],zn),(52,70,[197],zm),(52,71,[197],nd71)]
noncomputable def LP(f:Nat)(fa:FA):Prop:=∀g fr nd,fa.LN g=some (fr,nd)→(f,g,fr,nd)∈LNs
noncomputable def lg:Nat→List (Option FA)→Prop
 |_,[]=>True
 |n,some fa::l=>LP n fa∧lg (n+1) l
 |n,none::l=>lg (n+1) l
theorem Dw:∀{l:List (Option FA)} {n:Nat},lg n l→∀i fa,l[i]?=some (some fa)→LP (n+i) fa:=by
 intro l
 induction l with
 |nil=>intro n _ i fa e;simp at e
 |cons a l ih =>
  intro n h i fa e
  cases a with
  |none =>
   cases i with
   |zero=>simp at e
   |succ i =>
    have:=ih (n:=n+1) h i fa (by simpa using e);rwa [Nat.add_right_comm]at this
  |some a =>
   cases i with
   |zero =>
    simp at e;subst e;exact h.1
   |succ i =>
    have:=ih h.2 i fa (by simpa using e);rwa [Nat.add_right_comm]at this
theorem bj{f:Nat}{fa:FA}(h:fa.LN=fun zz=>none):LP f fa:=fun g fr nd e=>nS ((congrFun h g).symm.trans e)
theorem jU{g i:Nat}{v:List Nat×Node}{o:Option (List Nat×Node)}{fr:List Nat}{nd:Node}{P:Prop}(e:(if g=i then some v else o)=some (fr,nd))(h1:g=i→v=(fr,nd)→P)(h2:o=some (fr,nd)→P):P:=by
 by_cases c:g=i
 ·rw[Kh c]at e;exact h1 c (oInj e)
 ·rw[Kg c]at e;exact h2 e
theorem iy(k:Nat){f i g:Nat}{v:List Nat×Node}{fr:List Nat}{nd:Node}(hk:LNs[k]?=some (f,i,v.1,v.2))(c:g=i)(e:v=(fr,nd)):(f,g,fr,nd)∈LNs:=by
 subst c;subst e;exact mGe hk
theorem aB{n:Nat}{a:FA}{l:List (Option FA)}(h:LP n a)(t:lg (n+1) l):lg n (some a::l):=⟨h,t⟩
theorem Hh{n:Nat}{l:List (Option FA)}(t:lg (n+1) l):lg n (none::l):=t
theorem Io:LP 36 F36:=fun zz zz zz e=>jU e (iy 0 rfl) nS
theorem Im:LP 44 F44:=fun zz zz zz e=>jU e (iy 1 rfl) nS
theorem Il:LP 52 F52:=fun zz zz zz e=>jU e (iy 2 rfl) fun e=>jU e (iy 3 rfl) fun e=>jU e (iy 4 rfl) fun e=>jU e (iy 5 rfl) fun e=>jU e (iy 6 rfl) nS
theorem Ee:lg 0 FL:=aB (bj rfl) (aB (bj rfl) (aB (bj rfl) (aB (bj rfl) (aB (bj rfl) (aB (bj rfl) (aB (bj rfl) (aB (bj rfl) (aB (bj rfl) (aB (bj rfl) (aB (bj rfl) (aB (bj rfl) (aB (bj rfl) (aB (bj rfl) (aB (bj rfl) (aB (bj rfl) (aB (bj rfl) (aB (bj rfl) (aB (bj rfl) (aB (bj rfl) (aB (bj rfl) (aB (bj rfl) (aB (bj rfl) (aB (bj rfl) (aB (bj rfl) (aB (bj rfl) (aB (bj rfl) (aB (bj rfl) (aB (bj rfl) (aB (bj rfl) (aB (bj rfl) (aB (bj rfl) (aB (bj rfl) (aB (bj rfl) (aB (bj rfl) (aB (bj rfl) (aB Io (aB (bj rfl) (aB (bj rfl) (aB (bj rfl) (aB (bj rfl) (aB (bj rfl) (aB (bj rfl) (aB (bj rfl) (aB Im (aB (bj rfl) (aB (bj rfl) (aB (bj rfl) (aB (bj rfl) (aB (bj rfl) (aB (bj rfl) (aB (bj rfl) (aB Il (aB (bj rfl) (aB (bj rfl) (aB (bj rfl) (aB (bj rfl) (aB (bj rfl) (aB (bj rfl) (Hh (aB (bj rfl) (aB (bj rfl) (aB (bj rfl) (aB (bj rfl) (aB (bj rfl) (aB (bj rfl) (aB (bj rfl) (aB (bj rfl) (aB (bj rfl) (aB (bj rfl) (aB (bj rfl) (aB (bj rfl) (trivial))))))))))))))))))))))))))))))))))))))))))))))))))))))))))))))))))))))))
noncomputable def rR(p:Nat×Nat×List Nat×Node):Bool:=match p with
 |(f,g,fr,nd)=>nd.args.defaults.isEmpty&&nd.args.kwonlyargs.isEmpty&&nd.args.kw_defaults.isEmpty&&fr.all (fun i=>nd.scope.names.contains (cZ i,.free)) &&
  nd.scope.names.all (fun x=>!(x.2==.free)||fr.any (fun i=>cZ i==x.1))&&eh g==(eh f ++ ".<locals>.")++nd.name&&wN nd.pos==eh g&&(iW g).isNone&&gK g==fr&&(iW f).isSome &&
  (match T0.fn g with|some fa=>fa.dflts.isEmpty&&(fa.cells.isEmpty||fr.isEmpty)|none=>false)
theorem ug:LNs.all rR=true:=by kernel_rfl
theorem zG:LNs.map (fun p=>ik p.2.1)=LNs.map (fun p=>some (p.2.2.2.args,p.2.2.2.body,p.2.2.2.scope)):=by kernel_rfl
section
variable {w:World} {h:Heap} {os:OsState}
theorem Eo{f g:Nat}{fr:List Nat}{nd:Node}(hm:(f,g,fr,nd)∈LNs){env:Env}(hq:env.qual=eh f ++ ".<locals>."){c P:Addr}(hc:env.code=.ref c)(ht:(c,P)∈tabs0):LamOK (eM w h os) env g fr nd:=by
 have e:=lAt ug _ hm
 have hp:=List.map_inj_left.mp zG _ hm
 unfold rR at e
 simp only[Lv,List.all_eq_true]at e
 obtain⟨⟨⟨⟨⟨⟨⟨⟨⟨⟨c1,c2⟩,c3⟩,c4⟩,c5⟩,c6⟩,c7⟩,c8⟩,c9⟩,c10⟩,c11⟩:=e
 cases hfa:T0.fn g with
 |none=>rw[hfa]at c11;injection c11
 |some fa =>
  rw[hfa]at c11
  obtain⟨d1,d2⟩:=fj c11
  have hfi:nW g=some ⟨nd.args,nd.body,nd.scope,eh g,fa.params,fa.dflts,fa.body,fa.cells,gK g,iW g⟩:=by
   unfold nW
   refine ab hfa ?_;refine ab hp ?_;rfl
  refine⟨⟨_,c,P,hfi,rfl,rfl,rfl,?_,hc,ht,Ki c7,List.isEmpty_iff.mp d1,Option.isNone_iff_eq_none.mp c8,Ki c9,fun hz=>?_⟩,⟨List.isEmpty_iff.mp c1,List.isEmpty_iff.mp c2,List.isEmpty_iff.mp c3⟩,fun i hi=>KU.mp (c4 i hi),fun x hx hz=>?_⟩
  ·refine(?_:eh g=_)
   refine ab hq ?_;exact Ki c6
  ·rcases Bool.or_eq_true_iff.mp d2 with q|q
   ·exact absurd (List.isEmpty_iff.mp q) hz
   ·exact List.isEmpty_iff.mp q
  ·rcases Bool.or_eq_true_iff.mp (c5 x hx)with q|q
   ·rw[hz]at q;injection q
   ·obtain⟨i,hi,q⟩:=List.any_eq_true.mp q
    exact⟨i,hi,Ki q⟩
theorem wp:TabOK (eM w h os) T0 where
 GC:=rfl
 CI:=rfl
 mth:=rfl
 attrs:=rfl
 fn f fa hfa:=by
  have hf:f<72:=by
   have:(FL[f]?).join=some fa:=hfa
   cases hq:FL[f]? with
   |none=>rw[hq]at this;injection this
   |some x=>exact(Kk.mp hq).1
  have hfl:FL[f]?=some (some fa):=by
   have:(FL[f]?).join=some fa:=hfa
   cases hq:FL[f]? with
   |none=>rw[hq]at this;injection this
   |some x=>rw[hq]at this;exact congrArg some this
  have e:=lAt Hz f (KZ.mpr hf)
  have eb:=Fx f (KZ.mpr hf)
  have hl:=Dw Ee f fa hfl
  rw[Nat.zero_add]at hl
  have htf:uQ f=some fa.body:=by unfold uQ;refine ab hfl ?_;rfl
  rw[hfa]at e
  cases hs:ik f with
  |none=>rw[hs]at e;injection e
  |some x =>
   rw[hs]at e
   obtain⟨args,body,scope⟩:=x
   unfold Hk at e
   simp only[Lv,List.all_eq_true]at e
   obtain⟨⟨⟨⟨⟨⟨⟨⟨⟨⟨⟨⟨⟨⟨c1,c2⟩,c3⟩,c4⟩,c5⟩,c6⟩,c7⟩,c8⟩,c9⟩,c10⟩,c11⟩,c12⟩,c13⟩,c14⟩,c15⟩:=e
   have hfi:nW f=some ⟨args,body,scope,eh f,fa.params,fa.dflts,fa.body,fa.cells,gK f,iW f⟩:=by
    unfold nW
    refine ab hfa ?_;refine ab hs ?_;rfl
   refine⟨_,tX scope,hfi,rfl,rfl,rfl,rfl,⟨List.isEmpty_iff.mp c1,Option.isNone_iff_eq_none.mp c2,List.isEmpty_iff.mp c3,Option.isNone_iff_eq_none.mp c4⟩,Ki c5,Kn c6,aD c7,rfl,Ki c8,by simpa using c9,by simpa using c10,fun s i q=>oy q,fun s=>rfl,fun p hp=>?_,Ki c12,Kn c13,fun x hx=>?_,fun hz x hx=>?_,fun g fr nd q=>?_,?_⟩
   ·have:=Ki (c11 p hp)
    by_cases hc:p∈fa.cells
    ·rw[Kh (KU.mpr hc)]at this;exact .inr ⟨hc,this⟩
    ·rw[Kg (fun z=>hc (KU.mp z))]at this;exact .inl ⟨hc,this⟩
   ·have hm:=cE hx
    rcases Bool.or_eq_true_iff.mp (c14 _ hm)with q|q
    ·injection q
    ·obtain⟨i,hi,q⟩:=List.any_eq_true.mp q
     exact⟨i,hi,Ki q⟩
   ·rcases Bool.or_eq_true_iff.mp c15 with q|q
    ·exact absurd (List.isEmpty_iff.mp q) hz
    ·have:=lAt q _ (cE hx)
     injection this
   ·have hm:=hl g fr nd q
    have e2:=lAt ug _ hm
    unfold rR at e2
    simp only[Lv]at e2
    exact⟨Ks.mp e2.1.2,fun env hq c P hc ht=>Eo hm hq hc ht⟩
   ·have h59:f≠59:=by
     rintro rfl
     have:(FL[59]?).join=some fa:=hfa
     injection this
    rw[Kg h59,htf]at eb
    unfold qM at eb
    rw[hs,Option.bind_some]at eb
    cases body with
    |stmts b =>
     obtain⟨pb,h1,h2⟩:=Kt.mp eb
     simp only[← h2]
     exact h1
    |expr b =>
     obtain⟨pb,h1,h2⟩:=Kt.mp eb
     simp only[← h2]
     exact h1
end
end
section
section
variable {prog:Program} {w:World} {s:Shared} {A:Around} {mg mb:Str→Option Value} {env:Env} {m:Str→Option Value} {l:Addr} {o:Obj} {items:Array Value} {n:Nat} {E:Value→Shared→Prop}
theorem xL{p2 p3 p4 p5 p6 p7:Pos}{k4:Nat}{Q:Value→Shared→Prop}(hk:env.scope.kind=.function)(k1:env.kindOf "script" = some .local)(k3:env.kindOf "list" = some .globalImplicit)
  (hg:s.heap.Ns env.globals mg) (hb:s.heap.Ns env.builtins mb) (e1:mg "list" = none) (e2:mb "list" = some (.type "list"))
  (hn:s.heap.Ns env.locals m) (m1:m "script" = some (.ref l)) (hl:s.heap.get? l=some o) (hlc:o.cls=.type "list") (hld:o.data=.seq items n) (hz:items.size≤sizeLine)
  (h:∀c h' tk n',Sub s.heap h'→s.heap.objs.size≤c→s.heap.get? c=none→h'.get? c=some (listOf (items.toList.take 60).toArray n')→Q (.ref c) { s with heap:=h',toks:=tk }) :
  wpAny (model prog w) A (eval (.Call (.Name "list" p2) [.Subscript (.Name "script" p3) (.Slice none (some (.Constant (.int 60) k4 p4)) none p5) p6] [] p7) env) Q E s:=by
 have pl:∀e∈[Expr.Subscript (.Name "script" p3) (.Slice none (some (.Constant (.int 60) k4 p4)) none p5) p6],cG e=true:=by
  intro e he
  obtain rfl:=mSng he;rfl
 refine wpAny_Call_NameR (Name_function_global hk k3 (loadGlobal_builtin hg e1 hb e2 ?_) (by decide))
 refine iU (P:=fun zz=>True) pl (fun h zz=>gJ h (by intro a z;injection z)) ?_
 refine spliced_more ?_ (bw (pl _ (.head _)))
 refine Subscript_ (wpAny_Name (wpAny_loadName_local hk k1 hn m1 ?_) (by decide))
 refine wpAny_Slice (wpAny_evalPart_none (wpAny_evalPart_some (wpAny_Constant_int (wpAny_evalPart_none ?_))))
 have hs1:Sub s.heap (s.heap.push { cls:=.type "slice",data:=.fields #[.none,.int 60 s.toks,.none] }):=Sub.push _ _
 have hL:(s.heap.push { cls:=.type "slice",data:=.fields #[.none,.int 60 s.toks,.none] }).IsList l items:=⟨o,hs1 _ _ hl,hlc,n,hld⟩
 have hsl:(s.heap.push { cls:=.type "slice",data:=.fields #[.none,.int 60 s.toks,.none] }).IsSliceOf s.heap.objs.size .none (.int 60 s.toks) .none:=Heap.IsSliceOf.new ..
 refine tail_any (T := "list") hL.typeIs slot_list_getitem.lookup (wpAny_getItem_list_slice hL hsl .none (.int 60 _) .none (by intro z;injection z) ?_ hz) rfl
 have hp:slicePick items none (some 60) none=(items.toList.take 60).toArray:=by
  rw[slicePick_plain]
  simp only[Option.elim,List.drop_zero,Nat.sub_zero]
  refine ab (show clipAt items.size (60:Int)=min 60 items.size from clipAt_nat items.size 60) ?_
  congr 1
  refine bT Array.length_toList ?_;refine bT List.take_eq_take_min ?_;rfl
 refine ab hp ?_
 refine spliced_none ⟨trivial,?_⟩
 have hlen:(items.toList.take 60).toArray.size≤sizeLine:=by
  refine ab List.size_toArray ?_;exact am (List.length_take_le' _ _) (by refine ab Array.length_toList ?_;exact hz)
 refine call_list_seq (T := "list") _ (.inl rfl) (Ky _ rfl) rfl rfl (fun h' c' hs e'=>?_) hlen
 refine h _ h' _ c' (fun b o e=>hs _ _ (Sub.push _ _ _ _ (hs1 _ _ e))) (by simp only[Heap.size_push];exact KB _ 2) ?_ e'
 apply Heap.get?_none_of_le
 simp only[Heap.size_push];exact KB _ 2
end
end
section
section
variable {prog:Program} {w:World} {s:Shared} {A:Around} {mg mb:Str→Option Value} {env:Env} {m:Str→Option Value} {l:Addr} {o:Obj} {items:Array Value} {n:Nat} {E:Value→Shared→Prop}
theorem vJ{p1 p2 p3 p4 p5 p6 p7 p8 p9 p10 pos:Pos}{k4 k9:Nat}{Q:Flow→Shared→Prop}(hk:env.scope.kind=.function)(k1:env.kindOf "script" = some .local)(k2:env.kindOf "cells" = some .local)(k3:env.kindOf "list" = some .globalImplicit)
  (hg:s.heap.Ns env.globals mg) (hb:s.heap.Ns env.builtins mb) (e1:mg "list" = none) (e2:mb "list" = some (.type "list"))
  (hn:s.heap.Ns env.locals m) (m1:m "script" = some (.ref l)) (hl:s.heap.get? l=some o) (hlc:o.cls=.type "list") (hld:o.data=.seq items n) (hz:items.size≤sizeLine)
  (h:∀c h' tk n' its,(∀b o,b≠env.locals→s.heap.get? b=some o→h'.get? b=some o)→h'.Ns env.locals (fun y=>if y = "cells" then some (.ref c)else m y)→s.heap.objs.size≤c→s.heap.get? c=none→h'.get? c=some (listOf its.toArray n') →
   (its=items.toList.take 60∧its≠[]∨∃t,its=[.int 0 t])→Q .next { s with heap:=h',toks:=tk }) :
  wpAny (model prog w) A (exec (.Assign [.Name "cells" p1] (.BoolOp .Or [.Call (.Name "list" p2) [.Subscript (.Name "script" p3) (.Slice none (some (.Constant (.int 60) k4 p4)) none p5) p6] [] p7,.List [.Constant (.int 0) k9 p9] p8] p10) pos) env) Q E s:=by
 have store:∀(c:Addr) (h1:Heap) (tk n':Nat) (its:List Value),Sub s.heap h1→s.heap.objs.size≤c→s.heap.get? c=none→h1.get? c=some (listOf its.toArray n')→(its=items.toList.take 60∧its≠[]∨∃t,its=[.int 0 t]) →
   wpAny (model prog w) A (storeName env "cells" (.ref c)) (fun zz=>Q .next) E { s with heap:=h1,toks:=tk }:=fun c h1 tk n' its hs hz' hc hc1 hi=>by
  refine wpAny_storeName_local k2 (s:={ s with heap:=h1,toks:=tk }) (hn.keeps hs) (fun h' hn' hsb=>?_) (by refine ab hk ?_;rfl)
  have hne:c≠env.locals:=fun z=>by
   obtain⟨o',_,_,e,_⟩:=hn
   rw[← z,hc]at e;injection e
  exact h c h' _ n' its (fun b o nb e=>hsb.extBut b o nb (hs _ _ e)) hn' hz' hc (hsb.extBut _ _ hne hc1) hi
 refine wpAny_Assign_Name (BoolOp_or (xL hk k1 k3 hg hb e1 e2 hn m1 hl hlc hld hz fun c h1 tk n1 hs hz' hc hc1=>?_))
 have hsz:(items.toList.take 60).toArray.size≤sizeLine:=by
  refine ab List.size_toArray ?_;exact am (List.length_take_le' _ _) (by refine ab Array.length_toList ?_;exact hz)
 refine wpAny_truthy_list (items:=(items.toList.take 60).toArray) ⟨_,hc1,rfl,_,rfl⟩ (hV hsz) ?_
 cases hq:(items.toList.take 60)with
 |cons a r =>
  rw[hq]at hc1
  refine store c h1 _ n1 (a::r) hs hz' hc hc1 (.inl ⟨hq.symm,fun z=>by injection z⟩)
 |nil =>
  refine BoolOp_one ?_
  refine List_ (spliced_more (wpAny_Constant_int (spliced_none ?_)) (bw rfl))
  refine wpAny_newList ?_ (by size_fits)
  refine store _ _ _ 0 [.int 0 _] (hs.trans (Sub.push _ _)) (am hz' (KN (Heap.lt_size hc1))) ?_ (Ky _ rfl) (.inr ⟨_,rfl⟩)
  refine(?_:s.heap.get? h1.objs.size=none)
  cases e:s.heap.get? h1.objs.size with
  |none=>rfl
  |some o=>exact absurd (Heap.lt_size (hs _ _ e)) (Le _)
end
end
section
noncomputable def dz:Arguments×List Stmt×Scope:=(nE 56).getD (⟨[],[],none,[],[],none,[]⟩,[],PySem.Challenge.pw_og0097_01.main.scope)
noncomputable def eI:Expr→Expr|.Subscript _ i _=>i|.Slice _ (some e) _ _=>e|.BoolOp _ (e::_) _=>e|.List (e::_) _=>e|e=>e
noncomputable def eV:Expr→Expr|.Subscript v _ _=>v|.BoolOp _ (_::e::_) _=>e|e=>e
noncomputable def kC:Expr→Nat|.Constant _ k _=>k|_=>0
noncomputable def DT:Stmt:=dz.2.1[0]?.getD (.Pass default)
noncomputable def b56:Expr:=sE DT
noncomputable def c56:Expr:=eI b56
noncomputable def d56:Expr:=eA 0 c56
noncomputable def f56:Stmt:=.Assign [.Name "cells" (sT DT).pos] (.BoolOp .Or [.Call (.Name "list" (eF c56).pos) [.Subscript (.Name "script" (eV d56).pos) (.Slice none (some (.Constant (.int 60) (kC (eI (eI d56))) (eI (eI d56)).pos)) none (eI d56).pos) d56.pos] [] c56.pos,.List [.Constant (.int 0) (kC (eI (eV b56))) (eI (eV b56)).pos] (eV b56).pos] b56.pos) (sP DT)
theorem Ie:ik 56=some (⟨[],dz.1.args,none,[],dz.1.kw_defaults,none,[]⟩,.stmts (f56::dz.2.1.tail),dz.2.2):=by kernel_rfl
theorem HF:dz.1.args.map (·.arg)=(["script"]:List Str):=by kernel_rfl
theorem Er:(dz.2.2.kind,dz.2.2.isCoroutine,dz.2.2.isGenerator,dz.2.2.names.all (fun x=>!(x.2==.cell)&&!(x.2==.free)),dz.2.2.names.lookup ("script" : Str),dz.2.2.names.lookup ("cells" : Str),dz.2.2.names.lookup ("list" : Str)) =
 (.function,false,false,true,some .local,some .local,some .globalImplicit):=by kernel_rfl
theorem HE:qk (tX dz.2.2) dz.2.1.tail=some (P56.drop 1):=by kernel_rfl
theorem Gx:cZ 165 = "cells" := by kernel_rfl
noncomputable def ll:Prop:=∀(H:Hp) (L:Lc) (cl:Nat) (cells:List Int),H cl=some (.list (cells.map .int))→0<cells.length→L 165=some (.obj cl) →
 wSs (P56.drop 1) (bv T0 (AC T0 10 false) (AC T0 10 true) false [] F56.LN) ⟨L,H⟩ (fun fl zz=>match fl with|.ret v=>v=.bool true|.next=>V.none=.bool true|.cont=>False) fun zz zz=>False
noncomputable def FN(wd:Wd)(B:Heap)(r:Result)(s':Shared):Prop:=r=.ok (.ret (.bool true))∧s'.gens=#[]∧s'.os=wd.os0∧∃H' kd D,GL wd kd D B [] H' s'.heap
theorem rY{wd:Wd}{h h':Heap}:∀{ns:List Int} {items:List Value},VRs wd h (ns.map .int) items→VRs wd h' (ns.map .int) items:=by
 intro ns
 induction ns with
 |nil=>intro items h;cases h;exact .nil
 |cons n ns ih =>
  intro items h
  cases h with
  |cons r q=>cases r;exact .cons (.int _ _) (ih q)
section
variable {w:World} {h0:Heap} {s:Shared} {l:Addr} {ol:Obj} {items:List Value} {n0:Nat} {ns:List Int}
theorem zE(RO:ll)(S:Seen h0){B:Heap}{kd:Addr→Kd}{D:Addr→Addr}{env:Env}{m:Str→Option Value}(g:GL (eM w h0 s.os) kd D B [] (fun zz=>none) s.heap)(hg:s.gens=#[])
  (e1:env.scope=dz.2.2) (e2:env.globals=mainGlobals) (e3:env.builtins=builtinsNs) (e5:env.frame=some env.locals)
  (hf:kd env.locals=.free) (hfb:B.get? env.locals=none) (hfree:∀a,s.heap.get? a=none→kd a=.free∧B.get? a=none)
  (hn:s.heap.Ns env.locals m) (m1:m "script" = some (.ref l)) (hl:s.heap.get? l=some ol) (hlc:ol.cls=.type "list") (hld:ol.data=.seq items.toArray n0) (hz:items.length≤sizeLine) (hi:VRs (eM w h0 s.os) s.heap (ns.map .int) items) :
  wpAny (model PySem.Challenge.pw_og0097_01 w) (callerA.deeper env) (execs (f56::dz.2.1.tail) env) (fun f s'=>FN (eM w h0 s.os) B (.ok (.ret (match f with|.ret v=>v|_=>.none))) s') (fun zz zz=>False) s:=by
 have l56b':=Er
 simp only[Prod.mk.injEq]at l56b'
 obtain⟨b1,b2,b3,b4,b5,b6,b7⟩:=l56b'
 have G:=g.gd.sub g.base
 obtain⟨q1,q2⟩:h0.nsMap mainGlobals "list" = none∧h0.nsMap builtinsNs "list" = some (.type "list"):=by
  have:=lAt S.blt (("list" : Str),.type "list") (by simp)
  simp only[Lv]at this
  exact⟨Ki this.1,Ki this.2⟩
 refine wpAny_execs_cons (vJ (by refine ab e1 ?_;exact b1) (by refine(?_:env.scope.names.lookup _=_);refine ab e1 ?_;exact b5) (by refine(?_:env.scope.names.lookup _=_);refine ab e1 ?_;exact b6) (by refine(?_:env.scope.names.lookup _=_);refine ab e1 ?_;exact b7) (by refine ab e2 ?_;exact G.g) (by refine ab e3 ?_;exact G.b) q1 q2 hn m1 hl hlc hld (by simpa using hz) fun c h' tk n' its hk hn' hcz hc hc' hits=>?_)
 obtain⟨cells,hpos,hrel,hlen⟩:∃cells:List Int,0<cells.length∧VRs (eM w h0 s.os) h' (cells.map .int) its∧its.length≤sizeLine:=by
  rcases hits with ⟨e,hne⟩|⟨t,e⟩
  ·have r:=VRs.take hi 60
   rw[← List.map_take]at r
   have e:its=items.take 60:=e
   rw[← e]at r
   refine⟨ns.take 60,?_,rY r,?_⟩
   ·have:=r.length
    rw[Kf]at this
    refine ab this ?_
    exact List.length_pos_iff.mpr hne
   ·refine ab e ?_;exact am (List.length_take_le' _ _) hz
  ·exact⟨[0],by decide,by refine ab e ?_;exact .cons (.int _ _) .nil,by refine ab e ?_;size_fits⟩
 have hcl:c≠env.locals:=fun z=>by
  obtain⟨o',_,_,e,_⟩:=hn
  rw[← z,hc]at e;injection e
 obtain⟨f1,f2⟩:=hfree c hc
 have g1:=(g.newNs (Sub.refl _) hf hfb hn).setNs hk hn' (fun q hq=>by cases hq)
 have g2:=g1.newOwn (Sub.refl _) (ao:=.list (cells.map .int)) (Kw (Heap.Ns.lt G.g) hcz) ((Kg hcl).trans f1) f2 (.list hc' hlen hrel) (fun k fs z=>by injection z) ⟨_,hc',gy rfl rfl⟩
 let X:Ctx:={ A:=callerA.deeper env,env:=env,c:=bv T0 (AC T0 10 false) (AC T0 10 true) false [] F56.LN,outs:=[],envs:=[env],z:=tX dz.2.2,d:=10 }
 have hki:∀x,X.z.kind x=dz.2.2.names.lookup x:=fun x=>rfl
 have hko:∀x,env.kindOf x=dz.2.2.names.lookup x:=fun x=>by refine(?_:env.scope.names.lookup x=_);refine ab e1 ?_;rfl
 have ncel:∀x,¬ iK (X.z.kind x):=fun x hx=>by
  rcases hx with e|e
  ·have:=lAt b4 _ (cE e);injection this
  ·have:=lAt b4 _ (cE e);injection this
 have ok:X.OK (eM w h0 s.os) :=
  {frames:=jr rfl
   fr:=fun e he=>by
    obtain rfl:=mSng he
    exact⟨by refine ab e1 ?_;refine ab b1 ?_;exact(fun z=>by injection z),_,e5,.head _⟩
   ne:=fun q hq=>by cases hq
   kind:=by refine(?_:env.scope.kind=_);refine ab e1 ?_;exact b1
   globals:=e2
   builtins:=e3
   loc:=fun x hx=>by refine(?_:env.kindOf x=_);rw[hko];exact hx
   cel:=fun x hx=>absurd hx (ncel x)
   glo:=fun x hx=>by refine(?_:env.kindOf x=_);rw[hko];exact hx
   nid:=fun s i q=>oy q
   gk:=fun s=>rfl
   cells:=fun x a hx=>by injection hx
   hasC:=fun x hx=>absurd hx (ncel x)
   lam:=fun g' fr nd hl=>by injection hl
   GC:=rfl
   CI:=rfl
   mth:=rfl
   attrs:=rfl
   handled:=fun zz=>rfl
   depth:=by refine(?_:callerA.depth+1+10*10+20<recursionLimit);decide +kernel
   units:=by refine(?_:callerA.units+3+20*10+230<cLine);decide +kernel }
 have hh:X.Has (eM w h0 s.os):=⟨fun f vs H Q E h=>s9 (uK S) (qD S) wp 10 false f vs H Q E h,fun f vs H Q E h=>s9 (uK S) (qD S) wp 10 true f vs H Q E h⟩
 have st:X.St:=⟨⟨[],rfl⟩,e5⟩
 have S2:SS (eM w h0 s.os) X B (fun y=>if y = "cells" then some (.ref c)else m y) ⟨fun x=>if x=165 then some (.obj c)else none,upd (fun zz=>none) c (.list (cells.map .int))⟩ { s with heap:=h',toks:=tk }:=by
  refine⟨⟨_,_,g2⟩,fun x v hx=>?_,hg,rfl⟩
  by_cases z:x=165
  ·subst z
   replace hx:=oInj hx;subst hx
   exact⟨.ref c,by refine(?_:(if cZ 165=_ then _ else _)=_);refine ab Gx ?_;exact Kh rfl,.obj c⟩
  ·have hx:(if x=165 then some (V.obj c)else none)=some v:=hx
   rw[Kg z]at hx;injection hx
 have hP:=RO (upd (fun zz=>none) c (.list (cells.map .int))) (fun x=>if x=165 then some (.obj c)else none) c cells (Kh rfl) hpos rfl
 refine KC (ey (u8 (uK S) (qD S) 40 X ok hh st) HE B B _ _ _ _ _ S2 ⟨Sub.refl _,g2.gd,fun k zz hz=>nS hz⟩ hP) (fun f s3 q=>?_) fun e s3 q=>by
  obtain⟨k,σ3,m3,x3,k3,q3⟩:=q
  exact q3
 obtain⟨fl,σ3,m3,⟨⟨kd3,D3,g3⟩,l3,hg3,hos3⟩,r3,k3,q3⟩:=q
 cases r3 with
 |next=>injection q3
 |cont=>exact q3.elim
 |ret r =>
  have q3:_=V.bool true:=q3
  subst q3
  cases r
  exact⟨rfl,hg3,hos3,_,_,_,g3.dropNs⟩
end
end
section
theorem z7{h:Heap}:∀{l:List Addr} {a:Addr} {o:Obj},(bp h l).lookup a=some o→a∈l:=by
 intro l
 induction l with
 |nil =>
  intro _ _ e
  injection e
 |cons b l ih =>
  intro a o e
  unfold bp at e
  rw[List.filterMap_cons]at e
  cases hb:h.get? b with
  |none=>rw[hb]at e;exact .tail _ (ih e)
  |some ob =>
   rw[hb]at e
   simp only[Option.map_some,Kp]at e
   cases hz:a==b with
   |true=>refine ab (Ki hz) ?_;exact .head _
   |false=>rw[hz]at e;exact .tail _ (ih e)
theorem Ch{h:Heap}{a:Addr}{m m':Str→Option Value}(x:h.Ns a m)(y:h.Ns a m'):m=m':=by
 obtain⟨o,es,ep,e,d,_,f⟩:=x
 obtain⟨o',es',ep',e',d',_,f'⟩:=y
 rw[e]at e';replace e':=oInj e';subst e'
 rw[d]at d';injection d' with zi;subst zi
 exact funext fun n=>(f n).symm.trans (f' n)
noncomputable def hid0:List Addr:=[410,462,555]
theorem CU:hid0.all (fun a=>!Kad.contains a)=true:=by decide +kernel
theorem E7{q:Addr×Addr}(h:q∈tabs0):q.2∈hid0:=by
 have:tabs0.all (fun q=>hid0.contains q.2)=true:=by decide +kernel
 exact KU.mp (lAt this q h)
theorem gz{a:Addr}(h:a∈hid0):∃c,(c,a)∈tabs0:=by
 have:hid0.all (fun a=>tabs0.any fun q=>q.2==a)=true:=by decide +kernel
 obtain⟨q,hq,e⟩:=List.any_eq_true.mp (lAt this a h)
 exact⟨q.1,by refine bT (Ki e) ?_;exact hq⟩
section
variable {w:World} {h0:Heap} {s:Shared}
theorem Fa(S:Seen h0)(kp:Sub h0 s.heap)(ht:∀q∈tabs0,h0.get? q.2=some (tabObj #[]))(nl:s.heap.NoLimit)
  (hbm:∃bm o,h0.nsMap mainGlobals "__builtins__" = some (.ref bm)∧bm≠builtinsNs∧s.heap.get? bm=some o∧o.cls=.type "module" ∧ o.dict=some builtinsNs∧o.data=.plain):Gd (eM w h0 s.os) (hideAll s.heap hid0):=by
 have keep:∀{b o},s.heap.get? b=some o→b∉hid0→(hideAll s.heap hid0).get? b=some o:=fun e n=>hideAll_get _ e n
 have nsk:∀{L:Addr} {m:Str→Option Value},L∉hid0→s.heap.Ns L m→(hideAll s.heap hid0).Ns L m:=fun n ⟨o,es,ep,e,r⟩=>⟨o,es,ep,keep e n,r⟩
 have hK:(bp h0 Kad).In (hideAll s.heap hid0):=fun b o e=>keep (kp _ _ (gR b o e)) fun z=>by
  have:=lAt CU b z
  rw[KU.mpr (z7 e)]at this;injection this
 refine⟨hK,nsk (by decide) ((Heap.Ns.of_isNs S.ns).keeps kp),nsk (by decide) ((Heap.Ns.of_isNs S.nb).keeps kp),?_,?_,fun q hq=>ut hK (lAt S.tabs q hq)⟩
 ·obtain⟨mc,n,r⟩:=nl
  exact⟨mc,nsk (by decide) n,r⟩
 ·obtain⟨bm,o,a,b,c,d,r⟩:=hbm
  refine⟨bm,o,a,b,keep c fun z=>?_,d,r⟩
  obtain⟨q,hq⟩:=gz z
  have:=kp _ _ (ht _ hq)
  rw[c]at this;replace this:=oInj this;subst this
  injection d
theorem z0(S:Seen h0)(kp:Sub h0 s.heap)(ht:∀q∈tabs0,h0.get? q.2=some (tabObj #[]))(G:Gd (eM w h0 s.os) (hideAll s.heap hid0)) :
  GL (eM w h0 s.os) (fun a=>if a∈hid0 then .tab else .free) (fun a=>a) (hideAll s.heap hid0) [] (fun zz=>none) s.heap where
 base b o e:=of_hideAll _ e
 gd:=G
 own a o e:=by injection e
 part a k fs e:=by injection e
 outs p hp:=by cases hp
 tabs q hq:=⟨Kh (E7 hq),#[],kp _ _ (ht q hq),trivial,fun pos cv e=>nS e⟩
 hid a hk:=hideAll_none _ (Classical.byContradiction fun z=>hk (Kg z))
 there a hk:=by
  have z:a∈hid0:=Classical.byContradiction fun z=>hk (Kg z)
  obtain⟨c,hc⟩:=gz z
  exact⟨_,kp _ _ (ht _ hc)⟩
 nimm a o hk e:=by
  have z:a∈hid0:=Classical.byContradiction fun z=>hk (Kg z)
  obtain⟨c,hc⟩:=gz z
  rw[kp _ _ (ht _ hc)]at e;replace e:=oInj e;subst e
  exact cF (by intro z;injection z) rfl
 low a hk:=by
  by_cases z:a∈hid0
  ·rw[Kh z]at hk;injection hk
  ·rw[Kg z]at hk;injection hk
theorem Ce(S:Seen h0)(kp:Sub h0 s.heap)(ht:∀q∈tabs0,h0.get? q.2=some (tabObj #[])){H':Hp}{kd:Addr→Kd}{D:Addr→Addr}{s':Shared}(g:GL (eM w h0 s.os) kd D (hideAll s.heap hid0) [] H' s'.heap):OldK s.heap s'.heap:=by
 have hK:(bp h0 Kad).In s.heap:=fun b o e=>kp _ _ (gR b o e)
 refine⟨fun b o e=>?_,fun b o e=>?_⟩
 ·by_cases z:b∈hid0
  ·obtain⟨c,hc⟩:=gz z
   obtain⟨_,ps,p1,_⟩:=g.tabs _ hc
   rw[kp _ _ (ht _ hc)]at e
   replace e:=oInj e;subst e
   obtain⟨oc,vs,file,tf,flags,tg,inF,text,tt,q1,q2,q3,q4,_⟩:=ut hK (lAt S.tabs _ hc)
   exact .inr (.inl ⟨⟨c,oc,vs,q1,q2,q3,q4⟩,rfl,#[],ps,rfl,by refine ab Array.empty_append ?_;exact p1⟩)
  ·exact .inl (g.base _ _ (hideAll_get _ e z))
 ·by_cases z:b∈hid0
  ·obtain⟨c,hc⟩:=gz z
   obtain⟨_,ps,p1,_⟩:=g.tabs _ hc
   exact⟨_,p1⟩
  ·exact⟨o,g.base _ _ (hideAll_get _ e z)⟩
end
end
section
section
variable {w:World} {h0:Heap} {s:Shared} {l:Addr} {ol:Obj} {items:List Value} {n0:Nat} {ns:List Int}
theorem zD(RO:ll)(S:Seen h0)(kp:Sub h0 s.heap)(ht:∀q∈tabs0,h0.get? q.2=some (tabObj #[]))(nl:s.heap.NoLimit)
  (hbm:∃bm o,h0.nsMap mainGlobals "__builtins__" = some (.ref bm)∧bm≠builtinsNs∧s.heap.get? bm=some o∧o.cls=.type "module" ∧ o.dict=some builtinsNs∧o.data=.plain) (hg:s.gens=#[])
  (hl:s.heap.get? l=some ol) (hlc:ol.cls=.type "list") (hld:ol.data=.seq items.toArray n0) (hz:items.length≤sizeLine) (hi:VRs (eM w h0 s.os) s.heap (ns.map .int) items) :
  codeAny (model PySem.Challenge.pw_og0097_01 w) callerA (.call (.ref (fZ 56)) ⟨[.ref l],[]⟩) (fun r s'=>r=.ok (.ret (.bool true))∧OldK s.heap s'.heap∧s'.os=s.os∧s'.gens=#[]) s:=by
 have l56b':=Er
 simp only[Prod.mk.injEq]at l56b'
 obtain⟨b1,b2,b3,b4,b5,b6,b7⟩:=l56b'
 have hK:(bp h0 Kad).In s.heap:=fun b o e=>kp _ _ (gR b o e)
 have rf:=(lG (w:=w) (os:=s.os) S (f:=56) (by decide +kernel)).2 s.heap hK
 generalize fZ 56=fa at rf
 have hFI:nW 56=some ⟨⟨[],dz.1.args,none,[],dz.1.kw_defaults,none,[]⟩,.stmts (f56::dz.2.1.tail),dz.2.2,eh 56,F56.params,F56.dflts,F56.body,F56.cells,gK 56,iW 56⟩:=by
  unfold nW
  refine ab (show T0.fn 56=some F56 from rfl) ?_;refine ab Ie ?_;rfl
 cases rf with
 |@clo _ _ _ fi fd o dv ha hda fA rd =>
 obtain rfl:_=fi:=oInj (hFI.symm.trans fA.hfi)
 have hsc:fd.scope=dz.2.2:=fA.scope
 have hpar:fd.params=⟨[],dz.1.args,none,[],dz.1.kw_defaults,none,[]⟩:=fA.params
 have hdv:dv=[]:=by cases rd;rfl
 subst hdv
 refine eR (by decide +kernel) ha hda (by refine ab hsc ?_;exact b2) (by refine ab hsc ?_;exact b3) (fA.qual▸fA.codeRec) ?_
 refine i5 (s:=s) (xs:=[.ref l]) (dv:=[]) hpar HF (by decide +kernel) (fA.dflts.imp (fun z=>⟨z.2.1,rfl⟩) id) (by refine(?_:0≤1);decide) (by refine(?_:1≤1);decide) (by refine(?_:1≤1+0);decide) _ _ _ _ ?_
 refine ab hsc ?_;refine ab fA.globals ?_;refine ab fA.builtins ?_
 refine wpAny_newFunctionEnv (fun x hx z=>?_) (fun y hy=>?_) (fun h' hns hsb=>?_) b1
 ·have:=lAt b4 x hx
  rw[z]at this;injection this
 ·have:y.1 = "script" := by
   have:=(List.of_mem_zip (a:=y.1) (b:=y.2) hy).1
   simpa using this
  refine ab this ?_;exact b5
 ·have sb:Sub s.heap h':=fun b o e=>hsb.extBut b o (Lb (Heap.lt_size e)) (Ku _ e)
  refine⟨nl.keeps sb,?_⟩
  refine ab (show fd.body=.stmts (f56::dz.2.1.tail)from fA.body) ?_
  have G:=Fa (w:=w) S kp ht nl hbm
  have g0:=(z0 S kp ht G).grow sb
  have bnone:(hideAll s.heap hid0).get? s.heap.objs.size=none:=Heap.get?_none_of_le (by rw[hideAll_size];exact aR _)
  have hnot:s.heap.objs.size∉hid0:=fun z=>by
   obtain⟨c,hc⟩:=gz z
   exact Le _ (Heap.lt_size (kp _ _ (ht _ hc)))
  refine codeAny_func (KC (zE (s:={ s with heap:=h',toks:=_ }) (w:=w) (B:=hideAll s.heap hid0) RO S g0 hg rfl rfl rfl rfl (Kg hnot) bnone (fun a e=>⟨Kg fun z=>?_,?_⟩) hns rfl (sb _ _ hl) hlc hld hz (rY hi)) (fun f s' q=>by
   obtain⟨q1,q2,q3,H',kd,D,q4⟩:=q
   exact⟨by cases f<;>exact q1,Ce S kp ht q4,q3,q2⟩) fun zz zz z=>z.elim)
  ·obtain⟨c,hc⟩:=gz z
   rw[sb _ _ (kp _ _ (ht _ hc))]at e;injection e
  ·cases q:(hideAll s.heap hid0).get? a with
   |none=>rfl
   |some o=>rw[sb _ _ (of_hideAll _ q)]at e;injection e
end
end
section
theorem xC{α:Type}{c:Bool}{x:Option α}(h:c=true):bu c x=x:=h▸rfl
theorem Fy{α β:Type}{x:Option α}{f:α→Option β}{a:α}(h:x=some a):bo x f=f a:=h▸rfl
noncomputable def pK(D:Code→Sem Fin)(p:Program)(w:World)(n₀:Nat)(ann:Option Value):Nat→BT→Nat→Nat→SharedT→Code→Pos→List Frame→Sem Fin→Option SharedT
 |0=>fun zz zz zz zz zz zz zz zz=>none
 |m+1=>fun T n i z e q l c =>
  let s:SharedT:=⟨T,n,z.life,z.gens,z.drawn,i,z.os⟩
  let R:BT→Nat→Nat→Sem Fin→Option SharedT:=fun T n i c=>pK D p w n₀ ann m T n i z e q l c
  let L:Nat→(Obj→Option SharedT)→Option SharedT:=fun a g=>bu (Nat.blt a n) (bo (T.get a) fun o=>bo (alive o) g)
  let G:Sem Fin→Option SharedT:=fun c=>gW (through ⟨c,e,q,l⟩) (some s) (bu (stepOk n₀ ann ⟨c,e,q,l⟩) (bo (stepT D p w s ⟨c,e,q,l⟩) fun x=>pK D p w n₀ ann m x.1.tree x.1.n x.1.toks x.1 x.2.code x.2.pos x.2.stack x.2.cur))
  @Sem.casesOn Fin (fun zz=>Option SharedT) c (fun f=>G (.pure f)) (fun zz=>none) (fun zz=>none) (fun zz=>none) (fun zz zz=>none)
   (fun q k=>pK D p w n₀ ann m T n i z e q l (k ())) (fun a zz k=>L a fun o=>R T n i (k o))
   (fun a zz f k=>bu (Nat.ble n₀ a||a==mainNs||a==cStatics||ann==some (.ref a)) (L a fun zz=>R (T.set a f) n i (k ())))
   (fun o k=>bu ((T.ins n o).get n).isSome (R (T.ins n o) (n+1) i (k n))) (fun zz zz=>none)
   (fun zz k=>R T n i (k ())) (fun zz zz=>none) (fun k=>R T n (i+1) (k i)) (fun k=>R T n i (k ⟨p,w.params⟩))
   (fun zz zz zz=>none) (fun zz zz zz=>none) (fun e h g l k=>G (.call e h g l k)) (fun zz zz=>none) (fun zz zz=>none) (fun zz zz=>none) (fun zz zz zz zz=>none) (fun zz zz zz zz=>none) (fun k=>G (.stack k)) (fun zz zz=>none) (fun zz=>none) (fun zz zz zz zz zz=>none)
section
variable {tb:String→Option Builtin} {p:Program} {w:World} {n₀:Nat} {ann:Option Value}
theorem gA{m:Nat}{s s':SharedT}{t t':Thread}{r:Shared}(h1:through t=false)(h2:stepOk n₀ ann t=true)(h3:stepT (denote tb) p w s t=some (s',t'))(h4:topRun tb p w n₀ ann m s'.abs t'=some r):topRun tb p w n₀ ann (m+1) s.abs t=some r:=by
 unfold topRun
 rw[h1,h2,stepT_spec h3]
 exact h4
theorem G8{m:Nat}:∀{T n i z e q l c r},pK (denote tb) p w n₀ ann m T n i z e q l c=some r→topRun tb p w n₀ ann m (SharedT.abs ⟨T,n,z.life,z.gens,z.drawn,i,z.os⟩) ⟨c,e,q,l⟩=some r.abs:=by
 induction m with
 |zero=>intro T n i z e q l c r h;nomatch h
 |succ m ih =>
  intro T n i z e q l c r h
  have G:∀{c},gW (through ⟨c,e,q,l⟩) (some ⟨T,n,z.life,z.gens,z.drawn,i,z.os⟩) (bu (stepOk n₀ ann ⟨c,e,q,l⟩) (bo (stepT (denote tb) p w ⟨T,n,z.life,z.gens,z.drawn,i,z.os⟩ ⟨c,e,q,l⟩) fun x=>pK (denote tb) p w n₀ ann m x.1.tree x.1.n x.1.toks x.1 x.2.code x.2.pos x.2.stack x.2.cur))=some r →
    topRun tb p w n₀ ann (m+1) (SharedT.abs ⟨T,n,z.life,z.gens,z.drawn,i,z.os⟩) ⟨c,e,q,l⟩=some r.abs:=by
   intro c h
   cases eu h with
   |t h1 h=>unfold topRun;rw[h1];exact congrArg (Option.map SharedT.abs) h
   |f h1 h =>
    obtain⟨x,h3,h4⟩:=aw (aO h)
    exact gA h1 (aX h) h3 (ih h4)
  have L:∀{a:Nat} {g:Obj→Sem Fin} {T':BT} {u:Sem Fin},(stepT (denote tb) p w ⟨T,n,z.life,z.gens,z.drawn,i,z.os⟩ ⟨u,e,q,l⟩=bu (Nat.blt a n) (bo (T.get a) fun o=>bo (alive o) fun o=>some ((⟨T',n,z.life,z.gens,z.drawn,i,z.os⟩:SharedT),(⟨g o,e,q,l⟩:Thread))))→through ⟨u,e,q,l⟩=false→stepOk n₀ ann ⟨u,e,q,l⟩=true →
    bu (Nat.blt a n) (bo (T.get a) fun o=>bo (alive o) fun o=>pK (denote tb) p w n₀ ann m T' n i z e q l (g o))=some r→topRun tb p w n₀ ann (m+1) (SharedT.abs ⟨T,n,z.life,z.gens,z.drawn,i,z.os⟩) ⟨u,e,q,l⟩=some r.abs:=by
   intro a g T' u h0 h1 h2 h
   obtain⟨o,h3,h5⟩:=aw (aO h)
   obtain⟨o',h4,h5⟩:=aw h5
   exact gA h1 h2 (h0.trans ((xC (aX h)).trans ((Fy h3).trans (Fy h4)))) (ih h5)
  cases c with
  |pure=>exact G h
  |call=>exact G h
  |stack=>exact G h
  |«at» q k=>exact gA (Bool.and_false _) rfl rfl (ih h)
  |point u k=>exact gA (Bool.and_false _) rfl rfl (ih h)
  |fresh k=>exact gA (Bool.and_false _) rfl rfl (ih h)
  |ask k=>exact gA (Bool.and_false _) rfl rfl (ih h)
  |load a u k=>exact L (by kernel_rfl) (Bool.and_false _) rfl h
  |update a u f k=>exact L (g:=fun zz=>k ()) (T':=T.set a f) (by kernel_rfl) (Bool.and_false _) (aX h) (aO h)
  |alloc o k=>exact gA (Bool.and_false _) rfl (xC (aX h)) (ih (aO h))
  |_=>nomatch h
theorem E8{m:Nat}{s r:SharedT}{t:Thread}(h:pK (denote tb) p w n₀ ann m s.tree s.n s.toks s t.code t.pos t.stack t.cur=some r):topRun tb p w n₀ ann m s.abs t=some r.abs:=G8 h
end
noncomputable def DO(l:List Obj):BT×Nat:=l.foldl (fun r o=>(r.1.ins r.2 o,r.2+1)) (.nil,0)
noncomputable def lI(w:World)(os:OsState):SharedT:=⟨(DO (boot_heap w.params).objs.toList).1,(boot_heap w.params).objs.size,(boot_heap w.params).life,#[],boot_drawn,boot_toks,os⟩
noncomputable def pw:Program:=PySem.Challenge.pw_og0097_01
noncomputable def qv:Program:=view pw [81]
noncomputable def ix:List Str:=(pw.main.body.flatMap bindsAtTop).filter fun x=>!(x == "law")
noncomputable def fD:Code→Sem Fin:=Fast.tw11892475500146522536 Fast.tw14364793385576792824
theorem Hc:denote treeTable=fD:=congr Fast.te11892475500146522536 Fast.te14364793385576792824
noncomputable def wG(w:World)(os:OsState):Option SharedT:=pK fD pw w (boot_heap w.params).objs.size ((boot_heap w.params).nsMap mainGlobals "__annotations__") 7900 (lI w os).tree (lI w os).n (lI w os).toks (lI w os) (topStub pw).code (topStub pw).pos (topStub pw).stack (topStub pw).cur
theorem DX{w:World}{os:OsState}{r:SharedT}(h:wG w os=some r):topRun treeTable pw w (boot_heap w.params).objs.size ((boot_heap w.params).nsMap mainGlobals "__annotations__") 7900 (lI w os).abs (topStub pw)=some r.abs:=by
 refine E8 ?_
 rw[Hc]
 exact h
noncomputable def A5(w:World)(s:Shared):Bool:=staticsOk (importedModules pw.main.body) (boot_heap w.params) s.heap&&namesBound pw s.heap&&gensDone s&&laidKept (boot_heap w.params) s.heap
theorem k4(w:World)(os:OsState):(wG w os).map (fun s=>(A5 w s.abs,openSeen qv ix (importedModules pw.main.body) (fun zz=>true) true s.abs))=some (true,openGood qv ix):=by kernel_rfl
end
section
noncomputable def gT(T:BT)(n a:Nat):Option Obj:=bu (Nat.blt a n) (alive ((T.get a).getD default))
noncomputable def nC(T:BT)(n:Nat)(l:List Addr):Frag:=l.filterMap fun a=>(gT T n a).map fun o=>(a,o)
theorem Bh(T:BT)(n:Nat)(f:Life)(a:Nat):(absHeap T n f).get? a=gT T n a:=by
 unfold Heap.get? gT
 rw[absHeap_at]
 cases h:Nat.blt a n with
 |true =>
  rw[show(if a<n then some ((T.get a).getD default)else none)=some ((T.get a).getD default)from Kh (aD h)]
  obtain⟨c,d,x,y⟩:=(T.get a).getD default
  cases x<;>rfl
 |false=>rw[show(if a<n then some ((T.get a).getD default)else none)=none from Kg fun q=>fT (h.symm.trans (Nat.ble_eq_true_of_le q))];rfl
theorem z8(T:BT)(n:Nat)(f:Life)(l:List Addr):bp (absHeap T n f) l=nC T n l:=by
 unfold bp nC
 exact congrArg (fun g=>List.filterMap g l) (funext fun a=>congrArg (Option.map fun o=>(a,o)) (Bh T n f a))
noncomputable abbrev YT:Type:=(List Bool×List Bool×List (Option Obj))×List (Option (Arguments×FuncBody×Scope))
noncomputable def Yw(s:Shared):YT:=((vV s.heap,vW (bp s.heap Kad),tabs0.map fun x=>s.heap.get? x.2),(59::fids).map fun f=>gB (bp s.heap Kad) (fZ f))
noncomputable def Y1(s:SharedT):List Bool:=As (nC s.tree s.n Kad) (s.abs.heap.nsMap mainGlobals) (s.abs.heap.nsMap builtinsNs) (s.abs.heap.isNs mainGlobals) (s.abs.heap.isNs builtinsNs)
noncomputable def Y2(s:SharedT):List Bool×List (Option Obj):=(vW (nC s.tree s.n Kad),tabs0.map fun x=>gT s.tree s.n x.2)
noncomputable def Y3(s:SharedT):List (Option (Arguments×FuncBody×Scope)):=(59::fids).map fun f=>gB (nC s.tree s.n Kad) (fZ f)
theorem Hi(s:SharedT):Yw s.abs=((Y1 s,Y2 s),Y3 s):=by
 unfold Yw Y1 Y2 Y3 vV
 rw[show bp s.abs.heap Kad=_ from z8 _ _ _ _,show s.abs.heap.get?=_ from funext (Bh _ _ _)]
noncomputable def Ya:YT:=(([true,true,true,true],[true,true,true,true,true],[some (tabObj #[]),some (tabObj #[]),some (tabObj #[])]),(59::fids).map ik)
theorem Ik(w:World)(os:OsState):(wG w os).map Y1=some Ya.1.1:=by kernel_rfl
theorem Ij(w:World)(os:OsState):(wG w os).map Y2=some Ya.1.2:=by kernel_rfl
theorem Ii(w:World)(os:OsState):(wG w os).map Y3=some Ya.2:=by kernel_rfl
end
section
theorem Ax(w:World)(os:OsState):(lI w os).abs=⟨boot_heap w.params,#[],boot_drawn,boot_toks,os⟩:=by kernel_rfl
theorem Dm(w:World):((boot_heap w.params).isNs mainGlobals&&(#[]:Array GenState).size==0)=true:=by kernel_rfl
theorem zx{p q:Program}{loose:List Str}{α:Type}{Yf:Shared→α}{ya:α}{w:World}{H:Heap}{dr:Drawn}{tk M N:Nat}
  (open_:(fencedOpening treeTable p w N).map (fun s=>(s.heap,s.gens,s.drawn,s.toks))=some (H,#[],dr,tk)) (hns:(H.isNs mainGlobals&&(#[]:Array GenState).size==0)=true) (hN:N=M+100)
  (k:∀os,∃r,topRun treeTable p w H.objs.size (H.nsMap mainGlobals "__annotations__") M ⟨H,#[],dr,tk,os⟩ (topStub p)=some r ∧
   (staticsOk (importedModules p.main.body) H r.heap&&namesBound p r.heap&&gensDone r&&laidKept H r.heap)=true∧openSeen q loose (importedModules p.main.body) (fun zz=>true) true r=openGood q loose∧Yf r=ya) :
  (openEnds treeTable p w N).map (fun s=>(openSeen q loose (importedModules p.main.body) (fun zz=>true) true s,Yf s))=some (openGood q loose,ya):=by
 obtain⟨⟨h,gs,d,tk',os⟩,e,e'⟩:=Kt.mp open_
 simp only[Prod.mk.injEq]at e'
 obtain⟨rfl,rfl,rfl,rfl⟩:=e'
 obtain⟨s1,r1,q3,q4,q2⟩:=k os
 have r:=topRun_mono 100 _ _ _ _ r1
 rw[← hN]at r
 have t:topFrom treeTable p w N ⟨h,#[],d,tk',os⟩=some s1:=by
  unfold topFrom
  dsimp only
  refine ab hns ?_
  dsimp only
  refine ab r ?_
  dsimp only[Option.bind_some]
  refine ab q3 ?_;rfl
 unfold openEnds
 refine ab e ?_;rewrite[Option.bind_some];refine ab t ?_;rewrite[Option.map_some];refine ab q4 ?_;refine ab q2 ?_;rfl
theorem Ef(w:World)(os:OsState):∃r,topRun treeTable pw w (boot_heap w.params).objs.size ((boot_heap w.params).nsMap mainGlobals "__annotations__") 7900 ⟨boot_heap w.params,#[],boot_drawn,boot_toks,os⟩ (topStub pw)=some r ∧
   A5 w r=true∧openSeen qv ix (importedModules pw.main.body) (fun zz=>true) true r=openGood qv ix∧Yw r=Ya:=by
 obtain⟨s,r,q⟩:=Kt.mp (k4 w os)
 have a:=oInj ((congrArg (Option.map Y1) r).symm.trans (Ik w os))
 have b:=oInj ((congrArg (Option.map Y2) r).symm.trans (Ij w os))
 have c:=oInj ((congrArg (Option.map Y3) r).symm.trans (Ii w os))
 obtain⟨q1,q2⟩:=Prod.mk.inj q
 have t:=DX r
 rw[Ax]at t
 exact⟨s.abs,t,q1,q2,(Hi s).trans (congr (congrArg Prod.mk (congr (congrArg Prod.mk a) b)) c)⟩
theorem Fw(w:World):(fencedOpening treeTable pw w 8000).map (fun s=>(s.heap,s.gens,s.drawn,s.toks))=some (boot_heap w.params,Array.mk [],boot_drawn,boot_toks):=boot_open (by kernel_rfl) (by rfl) (fun s=>by rfl) w
end
section
theorem HB(w:World):(openEnds treeTable pw w 8000).map (fun s=>(openSeen qv ix (importedModules pw.main.body) (fun zz=>true) true s,Yw s))=some (openGood qv ix,Ya) :=
 zx (Fw w) (Dm w) (M:=7900) (by rfl) (Ef w)
end
section
theorem Gw:cZ 212 = "law" := by kernel_rfl
theorem G9:gkL.lookup 212=some (.fn 56):=by kernel_rfl
theorem En{h:Heap}(S:Seen h):h.nsMap mainGlobals "law" = some (.ref (fZ 56)):=by
 have:=lAt S.names _ (gI G9)
 unfold jg at this
 simp only[Gw,Lv]at this
 exact Ki this.1
theorem Ej(RO:ll){w:World}{s₀ s₁:Shared}{mg:Str→Option Value}{fa l:Addr}{xs:List Value}{ws:List Int}(S:Seen s₀.heap)(tb:∀q∈tabs0,s₀.heap.get? q.2=some (tabObj #[]))(kp:Sub s₀.heap s₁.heap)(Gg:s₁.heap.Ns mainGlobals mg)(nl:s₁.heap.NoLimit)
  (hbm:∃bm o,mg "__builtins__" = some (.ref bm)∧bm≠builtinsNs∧s₁.heap.get? bm=some o∧o.cls=.type "module" ∧ o.dict=some builtinsNs∧o.data=.plain) (hg:s₁.gens=#[])
  (hL:s₁.heap.IsList l xs.toArray) (hI:VRs (eM w s₀.heap s₁.os) s₁.heap (ws.map .int) xs) (hz:xs.length≤sizeLine) (hmg:mg "law" = some (.ref fa)) {Q:Value→Shared→Prop} {E:Value→Shared→Prop}
  (k:∀s',OldK s₁.heap s'.heap→s'.os=s₁.os→s'.gens=#[]→Q (.bool true) s'):wpAny (model PySem.Challenge.pw_og0097_01 w) callerA (call (.ref fa) [.ref l]) Q E s₁:=by
 obtain rfl:=Ch Gg ((Heap.Ns.of_isNs S.ns).keeps kp)
 replace hmg:=(En S)▸hmg
 cases hmg
 obtain⟨ol,h1,h2,n,h3⟩:=hL
 refine wpAny_call (codeAny_mono (zD RO S kp tb nl hbm hg h1 h2 h3 hz hI) fun r s' ⟨e,e1,e2,e3⟩=>?_)
 subst e
 exact k s' e1 e2 e3
end
section
theorem BW{s:Shared}(e:Yw s=Ya):Seen s.heap∧∀q∈tabs0,s.heap.get? q.2=some (tabObj #[]):=by
 obtain⟨e1,e4⟩:=Prod.mk.inj e
 obtain⟨e1,e2⟩:=Prod.mk.inj e1
 obtain⟨e2,e3⟩:=Prod.mk.inj e2
 refine⟨BY e1 e2 e4,?_⟩
 have e3:tabs0.map (fun x=>s.heap.get? x.2)=tabs0.map (fun zz=>some (tabObj #[])):=e3
 exact List.map_inj_left.mp e3
theorem uf:(defOf qv "law").isSome=true:=by kernel_rfl
noncomputable def jO:DefRec×List (Str×Expr):=(defOf qv "law").get uf
theorem zC:defOf qv "law" = some (jO.1,jO.2):=(Option.some_get uf).symm
theorem Ek:pw.theDef "law" = some (jO.1.params,jO.1.body,jO.1.scope):=by kernel_rfl
theorem Em:kwWritten? jO.1.params.kwonlyargs jO.1.params.kw_defaults=some jO.2:=by kernel_rfl
theorem El:jO.1.name = "law" := by kernel_rfl
theorem CQ{wd:Wd}{h:Heap}:∀{xs:List Value} {ws:List Int},IntsAre xs ws→VRs wd h (ws.map .int) xs:=by
 intro xs ws h
 induction h with
 |nil=>exact .nil
 |cons n t _ ih=>exact .cons (.int n t) ih
set_option maxHeartbeats 4000000 in
theorem zA:OpenLaw.wellSaid PySem.Challenge.rw_og0097_01=true:=by
 delta OpenLaw.wellSaid
 repeat' first|with_reducible refine lf ⟨?_,?_⟩|delta OpenRow.wellSaid|delta OpenRow.partSaid|delta looksOpen
 all_goals decide +kernel
set_option maxHeartbeats 4000000 in
theorem main(RO:ll):PySem.Challenge.rw_og0097_01.Holds:=by
 w_on
 refine holds_law zA fun said=>?_
 refine holds_openX (q:=qv) (loose:=ix) (Xt:=fun zz=>true) (XP:=fun zz zz=>True) (Yf:=Yw) (Ya:=fun zz=>Ya) (N:=8000) HB (fun zz zz=>trivial) (fun zz zz zz zz zz=>trivial) zC Ek Em (fun s zz=>recFacts_of (by rfl)) (by rfl) (by assumption) (by kernel_rfl) ⟨rfl,rfl,rfl,rfl,rfl,by decide +kernel⟩ ?hw ?hc
 case hw=>w_witness2
 case hc =>
  intro w s₀ s₁ mg mb G Y fa o pm cd doc dV kV ho hd hcd hD hmg hg args vals as L hpre hlay hrd hwl hlo
  obtain⟨S,tb⟩:=BW Y
  wrow_args hpre hlay hrd hwl hlo
  rw[El]at hmg
  refine Ej RO S tb L.keeps G.T.g G.T.nolimit (let ⟨bm,ob,a,b,c,d,e,f⟩:=G.T.bmain;⟨bm,ob,a,b,c,d,e,f⟩) hg (by assumption) (CQ (by assumption)) ?_ hmg fun s' e1 e2 e3=>?_
  ·have hlen:∀{xs:List Value} {ws:List Int},IntsAre xs ws→xs.length=ws.length:=fun h=>by induction h<;>simp_all
   rw[hlen (by assumption),sizeLine_eq]
   omega
  ·refine⟨.inl ⟨.bool true,ofPy (.bool true),[],rfl,fun zz=>rfl,?_,?_,?_⟩,e1,e2,AllBare.of_eq e3⟩
   ·exact ReadsW.bool _
   ·kernel_rfl
   ·exact fun zz=>⟨List.nodup_nil,fun a h=>by cases h⟩
end
end
section
inductive Opd where|num (u s:Int)|ref (x:Nat)
@[reducible] noncomputable def Opd.ctorIdx(x:Opd):Nat:=x.casesOn (fun zz zz=>0) (fun zz=>1)
inductive Rk where|push (o:Opd)|calc (s:Nat)
@[reducible] noncomputable def Rk.ctorIdx(x:Rk):Nat:=x.casesOn (fun zz=>0) (fun zz=>1)
inductive Br where|put (n:Int)|key (k:Nat)|test (c:Bool)|less
@[reducible] noncomputable def Br.ctorIdx(x:Br):Nat:=x.casesOn (fun zz=>0) (fun zz=>1) (fun zz=>2) 3
inductive One where|do_ (d:Int)|leave (p:Int)|count|stop (w:Nat)
@[reducible] noncomputable def One.ctorIdx(x:One):Nat:=x.casesOn (fun zz=>0) (fun zz=>1) 2 (fun zz=>3)
inductive Op where|rk (r:Rk) (l:Option Nat)|br (b:Br) (l:Nat)|jump (l:Nat)|choose (a b:Nat)|perform (a b:Nat)|one (o:One)
@[reducible] noncomputable def Op.ctorIdx(x:Op):Nat:=x.casesOn (fun zz zz=>0) (fun zz zz=>1) (fun zz=>2) (fun zz zz=>3) (fun zz zz=>4) (fun zz=>5)
noncomputable def cond(c:Bool):V:=match c with
 |false=>.tup [.str 89,.str 169,.tup [.str 170,.str 171,.tup [],.tup [],.none]]
 |true=>.tup [.str 172,.str 173,.tup [.str 170,.str 174,.tup [],.tup [],.none]]
noncomputable def Opd.toV:Opd→V
 |.num u s=>.tup [.str 96,.tup [.int u,.int s]]
 |.ref x=>.tup [.str 170,.str x,.tup [],.tup [],.none]
noncomputable def nV(n:Nat):V:=.int (n:Int)
noncomputable def lV:Option Nat→V
 |none=>.int (-1)
 |some l=>nV l
noncomputable def Rk.toV(l:V):Rk→V
 |.push o=>.tup [.str 14,o.toV,l]
 |.calc s=>.tup [.str 15,.str s,l]
noncomputable def Br.toV(l:V):Br→V
 |.put n=>.tup [.str 16,.tup [.str 186,.int n],l]
 |.key k=>.tup [.str 17,.str k,l]
 |.test c=>.tup [.str 18,cond c,l]
 |.less=>.tup [.str 19,.int 0,l]
noncomputable def One.toV:One→V
 |.do_ d=>.tup [.str 103,.tup [.str 185,.int d]]
 |.leave p=>.tup [.str 119,.int p]
 |.count=>.tup [.str 120,.int 0]
 |.stop w=>.tup [.str 24,.str w]
noncomputable def Op.toV:Op→V
 |.rk r l=>r.toV (lV l)
 |.br b l=>b.toV (nV l)
 |.jump l=>.tup [.str 13,nV l]
 |.choose a b=>.tup [.str 12,.tup [nV a,nV b]]
 |.perform a b=>.tup [.str 118,nV a,nV b]
 |.one o=>o.toV
noncomputable def Op.labels:Op→List Nat
 |.rk _ (some l)=>[l]
 |.br _ l=>[l]
 |.jump l=>[l]
 |.choose a b=>[a,b]
 |_=>[]
noncomputable def Op.relabel(f:Nat→Nat):Op→Op
 |.rk r l=>.rk r (l.map f)
 |.br b l=>.br b (f l)
 |.jump l=>.jump (f l)
 |.choose a b=>.choose (f a) (f b)
 |o=>o
noncomputable def Op.goesOn:Op→Bool
 |.jump _=>false
 |.one (.stop _)=>false
 |_=>true
end
section
noncomputable abbrev aJ:=Int×Int
noncomputable def a8(a:aJ):V:=.tup [.int a.1,.int a.2]
noncomputable def oO(t b:Int):Int:=if (!(decide (t<0)==decide (b<0)))=true then -((t.natAbs:Int).fdiv b.natAbs)else (t.natAbs:Int).fdiv b.natAbs
noncomputable def ed:Int→Nat→aJ
 |u,0=>(u,0)
 |u,s+1=>if u.fmod 10=0 then ed (u.fdiv 10) s else (u,(s:Int)+1)
noncomputable def np(u s:Int):Option aJ:=if (decide (((u.natAbs:Int))<10^120))=true then some (ed u s.toNat)else none
noncomputable def kept(u s:Int):Option aJ:=if decide (30<s)=true then np (oO u (10^(s-30).toNat)) 30 else np u s
noncomputable def dH(i j:Int):Int:=if i<j then j else i
noncomputable def kE(a:aJ)(s:Int):Int:=a.1*10^(s-a.2).toNat
noncomputable def DY(a b:aJ):aJ:=ed (kE a (dH a.2 b.2)+kE b (dH a.2 b.2)) (dH a.2 b.2).toNat
noncomputable def AX(a b:aJ):aJ:=ed (kE a (dH a.2 b.2)-kE b (dH a.2 b.2)) (dH a.2 b.2).toNat
noncomputable def qj(a b:aJ):Option aJ:=kept (a.1*b.1) (a.2+b.2)
noncomputable def dj(a:aJ):aJ:=(-a.1,a.2)
noncomputable def mo(a b:aJ):Option aJ:=if decide (b.1=0)=true then none else some (ed (oO (a.1*10^(30+b.2).toNat) (b.1*10^a.2.toNat)) 30)
noncomputable def mq(a:aJ):Nat→aJ→Option aJ
 |0,f=>some f
 |k+1,f=>(qj f a).bind (mq a k)
noncomputable def sX(a b:aJ):Bool:=!decide (b.2=0)||(decide (99<(b.1.natAbs:Int))||(decide (a.1=0)&&decide (b.1<1)))
noncomputable def mU(a b:aJ):Option aJ:=if sX a b=true then none else (mq a b.1.natAbs (1,0)).bind fun f=>if decide (b.1<0)=true then mo (1,0) f else some f
noncomputable def cO(sg:Nat)(a b:aJ):Option aJ :=
 if (sg==90)=true then some (DY a b)else if (sg==91)=true then some (AX a b)else if (sg==92)=true then qj a b else if (sg==93)=true then mo a b else mU a b
noncomputable def bI(a:aJ):Int:=if decide (a.2≤0)=true then a.1*10^(0-a.2).toNat else oO a.1 (10^(a.2-0).toNat)
noncomputable def okN(a:aJ):Prop:=a.1.natAbs<10^2600∧0≤a.2∧a.2≤30
end
section
structure Cd where
 ops:List Op
 bg:List Nat
noncomputable def Op.asks:Op→Option Br
 |.br b _=>match b with
  |.test c=>some (.test c)
  |.key k=>some (.key k)
  |_=>none
 |_=>none
noncomputable def Br.same:Br→Br→Bool
 |.test c,.test d=>c==d
 |.key j,.key k=>j==k
 |_,_=>false
noncomputable def Op.lab:Op→Nat
 |.jump l=>l
 |.br _ l=>l
 |_=>0
noncomputable def Op.passed(q:Option Br):Op→Bool
 |.jump _=>true
 |.br b _=>match q with
  |some a=>Br.same b a
  |none=>false
 |_=>false
noncomputable def bC(q:Option Br)(ops:List Op)(l:Nat):Bool:=match ops[l]? with
 |some o=>o.passed q
 |none=>false
noncomputable def fy(ops:List Op)(l:Nat):Nat:=match ops[l]? with
 |some o=>o.lab
 |none=>0
noncomputable def bc(q:Option Br)(ops:List Op):Nat→Nat→Option Nat
 |0,_=>none
 |t+1,l=>if bC q ops l=true then bc q ops t (fy ops l)else some l
noncomputable def bz(o:Op)(ops:List Op)(l:Nat):Nat:=match bc o.asks ops (ops.length+1) l with
 |some f=>f
 |none=>match bc none ops (ops.length+1) l with
  |some f=>f
  |none=>l
noncomputable def Op.isStop:Op→Bool
 |.one (.stop _)=>true
 |_=>false
noncomputable def gc(ops:List Op)(o:Op):Op:=match o with
 |.jump l=>match ops[l]? with
  |some p=>if p.isStop=true then p else .jump l
  |none=>.jump l
 |o=>o
noncomputable def bE(ops:List Op)(o:Op):Op:=gc ops (o.relabel (bz o ops))
noncomputable def led(ops:List Op):List Op:=ops.map (bE ops)
noncomputable def Op.calls(bg:List Nat)(i:Nat):Op→List Nat
 |.perform a _=>[bg.getD a 0,i+1]
 |_=>[]
noncomputable def Ent(c:Cd)(p:Nat):Prop:=p=0∨∃(i:Nat) (o:Op),c.ops[i]?=some o∧(p∈o.labels∨p∈o.calls c.bg i)
noncomputable def aU(c:Cd)(p:Nat):Bool:=@decide (Ent c p) (Classical.propDecidable _)
noncomputable def lastIn(ops:List Op)(q:Int):Bool:=ops.any fun o=>match o with
 |.perform _ b=>q==(b:Int)
 |_=>false
noncomputable def fG(ops:List Op)(p:Nat):Op→Bool
 |.jump l=>l==p+1
 |.br (.key _) l=>l==p+1
 |.one (.leave q)=>!lastIn ops q
 |_=>false
noncomputable abbrev aA:=List (Option Op)
noncomputable def idle(ops:List Op):aA:=ops.mapIdx fun p o=>if fG ops p o=true then none else some o
noncomputable def dp(a:aJ):Op:=.rk (.push (.num a.1 a.2)) none
noncomputable def ef:Op→Op
 |.rk (.push (.num u s)) _=>dp (u,s)
 |o=>o
noncomputable def Op.num:Op→Option aJ
 |.rk (.push (.num u s)) _=>some (u,s)
 |_=>none
noncomputable def cj(f:aA)(p:Nat):aJ:=match f[p]? with
 |some (some o)=>o.num.getD (0,0)
 |_=>(0,0)
structure FoSt where
 f:aA
 line:List Nat
noncomputable def fN(w:Option aJ)(a:Nat)(r:List Nat)(S:FoSt)(x:List Nat):FoSt:=match w with
 |some w=>⟨x.foldl (fun f p=>f.set p none) (S.f.set a (some (dp w))),a::r⟩
 |none=>⟨S.f,[]⟩
noncomputable def dZ(s p:Nat)(S:FoSt):FoSt:=match s==98,S.line with
 |true,a::r=>fN (some (dj (cj S.f a))) a r S [p]
 |false,b::a::r=>fN (cO s (cj S.f a) (cj S.f b)) a r S [b,p]
 |_,_=>⟨S.f,[]⟩
noncomputable def eK(p:Nat)(S:FoSt):Op→FoSt
 |.rk (.calc s) _=>dZ s p S
 |.rk (.push (.num _ _)) _=>⟨S.f,p::S.line⟩
 |_=>⟨S.f,[]⟩
noncomputable def cn(e:Nat→Bool)(ops:List Op):Nat→FoSt
 |0=>⟨ops.map fun o=>some (ef o),[]⟩
 |p+1=>match ops[p]? with
  |some o=>eK p (if e p=true then ⟨(cn e ops p).f,[]⟩else cn e ops p) o
  |none=>cn e ops p
noncomputable def cI(e:Nat→Bool)(ops:List Op):aA:=(cn e ops ops.length).f
structure AsSt where
 hold:List Bool
 key:Option Nat
noncomputable def dD(S:AsSt)(o:Op):Option Op:=match o with
 |.br (.test c) _=>if c∈S.hold then none else some o
 |.br (.key k) l=>match S.key with
  |some j=>if j=k then none else some (.jump l)
  |none=>some o
 |o=>some o
noncomputable def cq(S:AsSt):Op→AsSt
 |.br (.test c) _=>if c∈S.hold then S else ⟨S.hold++[c],S.key⟩
 |.br (.key k) _=>match S.key with
  |some _=>S
  |none=>⟨S.hold,some k⟩
 |.br (.put _) _=>⟨[],S.key⟩
 |.one (.do_ _)=>⟨[],none⟩
 |_=>S
noncomputable def eT(e:Nat→Bool)(p:Nat)(S:AsSt):AsSt:=if e p=true then ⟨[],none⟩else S
noncomputable def eU(e:Nat→Bool)(ops:List Op):Nat→AsSt
 |0=>⟨[],none⟩
 |p+1=>match ops[p]? with
  |some o=>cq (eT e p (eU e ops p)) o
  |none=>eU e ops p
noncomputable def dC(e:Nat→Bool)(ops:List Op):aA:=ops.mapIdx fun p o=>dD (eT e p (eU e ops p)) o
noncomputable def behind(bg:List Nat)(p:Nat)(o:Op):List Nat:=o.labels++(if o.goesOn=true then [p+1]else [])++(match o with|.perform a _=>[bg.getD a 0]|_=>[])
inductive Met(c:Cd):Nat→Prop
 |zero:0<c.ops.length→Met c 0
 |next {p q:Nat} {o:Op}:Met c p→c.ops[p]?=some o→q∈behind c.bg p o→q<c.ops.length→Met c q
noncomputable def dy(c:Cd)(p:Nat):Bool:=@decide (Met c p) (Classical.propDecidable _)
noncomputable def aq(f:aA)(p:Nat):Nat:=(f.take p).countP Option.isSome
noncomputable def bG(f:aA):List Op:=f.filterMap fun o=>o.map (Op.relabel (aq f))
noncomputable def cL(f:aA)(bg:List Nat):Cd:=if f.all Option.isSome=true then ⟨f.filterMap id,bg⟩else ⟨bG f,bg.map (aq f)⟩
noncomputable def iw(c:Cd):aA:=c.ops.mapIdx fun p o=>if dy c p=true then some o else none
noncomputable def ki(c:Cd):Cd:=cL (iw c) (c.bg.map fun b=>if dy c b=true then b else 0)
noncomputable def r1(c:Cd):Cd:=ki ⟨led c.ops,c.bg⟩
noncomputable def r2(c:Cd):Cd:=cL (idle c.ops) c.bg
noncomputable def r3(c:Cd):Cd:=cL (cI (aU c) c.ops) c.bg
noncomputable def r4(c:Cd):Cd:=cL (dC (aU c) c.ops) c.bg
noncomputable def ce(c:Cd):Cd:=r4 (r3 (r2 (r1 c)))
end
section
inductive TE where|did (d:Int)|put (n:Int) (w:aJ)
inductive End where|word (w:Nat)|steps|fault|size
@[reducible] noncomputable def End.ctorIdx(x:End):Nat:=x.casesOn (fun zz=>0) 1 2 3
structure Ans where
 key:Nat→Nat
 over:Nat→Bool
 test:Nat→Bool→Bool
 ref:Nat→Nat→Option aJ
noncomputable def Ans.num(A:Ans)(n:Nat):Opd→Option aJ
 |.num u s=>some (u,s)
 |.ref x=>A.ref n x
structure Fm where
 last:Int
 behind:Nat
 slot:Option Int
structure Mc where
 place:Nat
 stack:List aJ
 up:List Fm
 base:Option Int
 key:Nat
 tr:List TE
inductive Re where|go (m:Mc)|fin (t:List TE) (e:End)
@[reducible] noncomputable def Re.ctorIdx(x:Re):Nat:=x.casesOn (fun zz=>0) (fun zz zz=>1)
noncomputable def Mc.to(m:Mc)(p:Nat):Mc:={ m with place:=p }
noncomputable def Mc.top(m:Mc):aJ:=m.stack.headD (0,0)
noncomputable def Mc.pop(m:Mc):Mc:={ m with stack:=m.stack.tail }
noncomputable def Mc.push(m:Mc)(w:aJ):Mc:={ m with stack:=w::m.stack }
noncomputable def Mc.slot(m:Mc):Option Int:=match m.up with
 |f::_=>f.slot
 |[]=>m.base
noncomputable def Mc.setSlot(m:Mc)(i:Int):Mc:=match m.up with
 |f::r=>{ m with up:={ f with slot:=some i }::r }
 |[]=>{ m with base:=some i }
noncomputable def Mc.say(m:Mc)(t:TE):Mc:={ m with tr:=m.tr++[t] }
noncomputable def aI(A:Ans)(m:Mc):Rk→Option aJ×Mc
 |.push o=>(A.num m.tr.length o,m)
 |.calc s=>if s==98 then (some (dj m.top),m.pop)else (cO s m.pop.top m.top,m.pop.pop)
noncomputable def xF(m:Mc):Option Nat→Re
 |some l=>.go { m with stack:=[],place:=l }
 |none=>.fin m.tr .size
noncomputable def aM(nx:Nat)(l:Option Nat)(x:Option aJ×Mc):Re:=match x.1 with
 |some w=>.go ((x.2.push w).to nx)
 |none=>xF x.2 l
noncomputable def dJ(w:aJ)(a b nx:Nat):Nat:=if (w.2==0&&(decide (1≤bI w)&&decide (bI w≤2)))=true then (if bI w=1 then a else b)else nx
noncomputable def dU(A:Ans)(nx:Nat)(m:Mc)(l:Nat):Br→Mc
 |.put n=>(m.pop.say (.put n m.top)).to (if A.over m.tr.length=true then l else nx)
 |.key k=>m.to (if m.key=k then nx else l)
 |.test c=>m.to (if A.test m.tr.length c=true then nx else l)
 |.less=>if 0<m.slot.getD 0 then (m.setSlot (m.slot.getD 0-1)).to nx else m.to l
noncomputable def bK(nx:Nat)(m:Mc)(p:Int):Mc:=match m.up with
 |f::r=>if f.last=p then { m with up:=r,place:=f.behind }else m.to nx
 |[]=>m.to nx
noncomputable def vM(A:Ans)(nx:Nat)(m:Mc):One→Re
 |.do_ d=>.go (({ m with key:=A.key m.tr.length }.say (.did d)).to nx)
 |.leave p=>.go (bK nx m p)
 |.count=>.go ((m.pop.setSlot (bI m.top)).to nx)
 |.stop w=>.fin m.tr (.word w)
noncomputable def exec(A:Ans)(bg:List Nat)(nx:Nat)(m:Mc):Op→Re
 |.rk r l=>aM nx l (aI A m r)
 |.br b l=>.go (dU A nx m l b)
 |.jump l=>.go (m.to l)
 |.choose a b=>.go (m.pop.to (dJ m.top a b nx))
 |.perform a b=>if 20<m.up.length+1 then .fin m.tr .fault else .go { m with up:=⟨b,nx,none⟩::m.up,place:=bg.getD a 0 }
 |.one o=>vM A nx m o
noncomputable def bR(A:Ans)(c:Cd)(m:Mc):Re:=match c.ops[m.place]? with
 |some o=>exec A c.bg (m.place+1) m o
 |none=>.fin m.tr .fault
noncomputable def aS(A:Ans)(c:Cd):Nat→Mc→Re
 |0,m=>.go m
 |n+1,m=>match bR A c m with
  |.go t=>aS A c n t
  |.fin t e=>.fin t e
noncomputable def Re.obs:Re→List TE×End
 |.go m=>(m.tr,.steps)
 |.fin t e=>(t,e)
noncomputable def start:Mc:=⟨0,[],[],none,85,[]⟩
noncomputable def Refines(A:Ans)(c' c:Cd):Prop:=∀n,∃m,n≤m∧(aS A c' n start).obs=(aS A c m start).obs
end
section
noncomputable def Ext(H H':Hp):Prop:=∀a o,H a=some o→H' a=some o
theorem Ext.refl(H:Hp):Ext H H:=fun zz zz e=>e
theorem Ext.trans{A B C:Hp}(x:Ext A B)(y:Ext B C):Ext A C:=fun a o e=>y a o (x a o e)
theorem ai{α:Type}(f:Nat→Option α)(k:Nat)(v:α):upd f k v k=some v:=Kh rfl
theorem aV{α:Type}{f:Nat→Option α}{k j:Nat}{v:α}(h:j≠k):upd f k v j=f j:=Kg h
theorem pC{H:Hp}{a b:Nat}{o:AO}(h:H a=none)(e:H b=some o):b≠a:=fun z=>by rw[z,h]at e;injection e
theorem Ext.set{H H':Hp}(x:Ext H H'){a:Nat}(h:H a=none)(o:AO):Ext H (upd H' a o):=fun b p e=>(aV (pC h e)).trans (x b p e)
theorem Ext.free{H H':Hp}(x:Ext H H'){a:Nat}(h:H' a=none):H a=none:=by
 cases e:H a with
 |none=>rfl
 |some o=>have:=x a o e;rw[h]at this;injection this
theorem Ext.new{H H':Hp}(x:Ext H H'){a:Nat}(h:H' a=none)(o:AO):Ext H (upd H' a o):=x.set (x.free h) o
theorem aF{c:Bool}{P Q:Prop}(h1:c=true→P)(h2:c=false→Q):br c P Q:=by unfold br;exact⟨h1,h2⟩
theorem bB{c:Bool}{P Q:Prop}(e:c=true)(h:P):br c P Q:=aF (fun zz=>h) fun z=>by rw[e]at z;injection z
theorem aH{c:Bool}{P Q:Prop}(e:c=false)(h:Q):br c P Q:=aF (fun z=>by rw[e]at z;injection z) fun zz=>h
theorem bM{t:Bool}{P Q:Prop}(h1:t=true→P)(h2:t=false→Q):br (t==true) P Q:=aF (fun e=>h1 (Ki e)) fun e=>h2 (by revert e;cases t<;>intro e;rfl;injection e)
theorem AS{t:Bool}{P Q:Prop}(h1:t=false→P)(h2:t=true→Q):br (t==false) P Q:=aF (fun e=>h1 (Ki e)) fun e=>h2 (by revert e;cases t<;>intro e;cases e;rfl)
theorem iH{t:Bool}{P Q:Prop}(e:t=true)(h:P):br (t==true) P Q:=bB (beq_of_eq e) h
theorem ez{t:Bool}{P Q:Prop}(e:t=false)(h:Q):br (t==true) P Q:=aH (by subst e;rfl) h
theorem Hx{t:Bool}{P Q:Prop}(e:t=true)(h:Q):br (t==false) P Q:=aH (by subst e;rfl) h
theorem rt{t:Bool}{P Q:Prop}(e:t=false)(h:P):br (t==false) P Q:=bB (beq_of_eq e) h
theorem qe{H:Hp}(Q:V→Hp→Prop){a b:V}(e:a=b)(h:Q a H):Q b H:=e▸h
theorem ch{b:Bool}(e:b=false):¬ b=true:=fun z=>by rw[e]at z;injection z
theorem aa{α:Type}{o:Option α}{a:α}{k:α→Prop}(e:o=some a)(h:k a):aG o k:=by subst e;exact h
theorem bd{fa:FA}{vs:List V}(h:(Nat.ble vs.length fa.params.length&&Nat.ble fa.params.length (vs.length+fa.dflts.length))=true):sx fa vs :=
 ⟨aD (fj h).1,aD (fj h).2⟩
noncomputable abbrev Fn(n f:Nat)(vs:List V)(H:Hp)(Q:V→Hp→Prop)(E:Nat→Hp→Prop):Prop:=AC T0 n false (.clo f []) vs H Q E
section
variable {n:Nat} {H:Hp} {Q:V→Hp→Prop} {E:Nat→Hp→Prop}
theorem eZ{o:Op}(h:Q (.tup (o.labels.map nV)) H):Fn (n+1) 0 [o.toV] H Q E:=by
 refine⟨bd rfl,?_⟩
 cases o with
 |rk r l=>cases r<;>cases l<;>first|exact aH rfl (aH rfl (iH rfl (ez rfl (aH rfl h))))|exact aH rfl (aH rfl (iH rfl (iH rfl (bB rfl h))))
 |br b l=>cases b<;>exact aH rfl (aH rfl (iH rfl (iH rfl (bB rfl h))))
 |one o=>cases o<;>exact aH rfl (aH rfl (ez rfl (aH rfl h)))
 |perform a b=>exact aH rfl (aH rfl (ez rfl (aH rfl h)))
 |jump l=>exact aH rfl (bB rfl h)
 |choose a b=>exact bB rfl h
theorem xD{o:Op}(h:Q (.bool o.goesOn) H):Fn (n+1) 2 [o.toV] H Q E:=by
 cases o with
 |rk r l=>cases r<;>exact⟨bd rfl,h⟩
 |br b l=>cases b<;>exact⟨bd rfl,h⟩
 |one o=>cases o<;>exact⟨bd rfl,h⟩
 |_=>exact⟨bd rfl,h⟩
end
end
section
theorem gv{α:Type}{l:List α}{n:Nat}(h:l.length=n+1):∃a r,l=a::r∧r.length=n:=by
 cases l with
 |nil=>exact absurd h.symm (Nat.succ_ne_zero _)
 |cons a r=>exact⟨a,r,rfl,Nat.succ.inj h⟩
theorem iq{H:Hp}{x:Nat}{P:List Nat→Prop}(h:∀c,H c=none→P [c])(as:List Nat)(hl:as.length=[x].length)(_:as.Nodup)(f:∀a∈as,H a=none):P as:=by
 obtain⟨c,r,rfl,h1⟩:=gv hl
 obtain rfl:=KP.mp h1
 exact h c (f c (.head _))
theorem aQ{o:Option AO}{v:V}{k:V→Prop}(e:o=some (.cell (some v)))(h:k v):aG (bo o AO.cell?) fun w=>aG w fun v=>k v:=by subst e;exact h
theorem cP{α β:Type}{x:Option α}{a:α}(f:α→Option β)(e:x=some a):bo x f=f a:=e▸rfl
theorem ay{H:Hp}{a:Nat}{vs:List V}(e:H a=some (.list vs)):cH H (.obj a)=some vs:=cP _ e
theorem aT{H:Hp}{a:Nat}{vs:List V}(e:H a=some (.list vs)):bP H (.obj a)=some vs:=ay e
theorem dq{H:Hp}{a:Nat}{vs:List V}(e:H a=some (.list vs)):rN H (.obj a)=some (vs.length:Int):=congrArg (fun x=>b1 x fun vs:List V=>(vs.length:Int)) (aT e)
theorem lF{α:Type}{c:Bool}{x:Option α}(h:c=true):bu c x=x:=h▸rfl
theorem E6{n i:Nat}(h:i<n):Bg n (i:Int)=some i:=lF (decide_eq_true h)
theorem zW{n:Nat}(h:0<n):Bg n (-1)=some (n-1):=lF (decide_eq_true h)
theorem sY{vs:List V}{i:Nat}{v:V}(h:vs[i]?=some v):atL vs (nV i)=some v:=(cP _ (E6 (Kk.mp h).1)).trans h
theorem getL{H:Hp}{a i:Nat}{vs:List V}{v:V}(e:H a=some (.list vs))(h:vs[i]?=some v):bA H (.obj a) (nV i)=some v:=(cP _ e).trans (sY h)
theorem getLast{H:Hp}{a:Nat}{vs:List V}{v:V}(e:H a=some (.list vs))(h:vs.getLast?=some v):bA H (.obj a) (.int (-1))=some v:=by
 have h:=List.getLast?_eq_getElem?.symm.trans h
 exact(cP _ e).trans ((cP _ (zW (bD (Kx _) (Kk.mp h).1))).trans h)
theorem iX{H:Hp}{a i:Nat}{vs:List V}{v:V}(e:H a=some (.list vs))(h:i<vs.length):qT H (.obj a) (nV i) v=some (upd H a (.list (vs.set i v))) :=
 (cP _ e).trans (congrArg (fun x=>b1 x (upd H a)) (lF (lf ⟨decide_eq_true (KL i),decide_eq_true (Int.ofNat_lt.mpr h)⟩)))
theorem ba{H:Hp}{x k a:Nat}{fs:List (Nat×V)}{v:V}(e:H x=some (.inst k fs))(h:cN fs a=some v):se H (.obj x) a=some v:=(cP _ e).trans h
theorem qq{H:Hp}{x c:V}{vs:List V}(e:bP H c=some vs)(hx:V.flat x 20=true)(hv:V.flats vs 20=true):vB H x c=some (vs.any fun v=>V.eqb v x):=(cP _ e).trans (lF (lf ⟨hx,hv⟩))
theorem iE{H:Hp}{a b:V}{t:Bool}(e:dI H a b=some t):jZ H a b=some t:=by unfold jZ;refine ab e ?_;rfl
theorem j0{H:Hp}{a b:V}{xs ys:List V}(e1:cH H a=some xs)(e2:cH H b=some ys)(hx:V.flats xs 20=true)(hy:V.flats ys 20=true):dI H a b=some (V.eqbs xs ys):=by
 unfold dI;refine ab e1 ?_;exact(cP _ e2).trans (lF (lf ⟨hx,hy⟩))
theorem mB{H:Hp}{a b:V}(e:cH H a=none)(hx:V.flat a 20=true)(hy:V.flat b 20=true):dI H a b=some (V.eqb a b):=by
 unfold dI;refine ab e ?_;exact lF (lf ⟨hx,hy⟩)
theorem nN{α β:Type}{x:Option α}{a:α}(f:α→β)(e:x=some a):b1 x f=some (f a):=e▸rfl
section
variable {n:Nat} {H:Hp} {Q:V→Hp→Prop} {E:Nat→Hp→Prop}
noncomputable def FO(n:Nat)(H:Hp)(fv:V)(f:Nat→Nat)(l:Nat):Prop:=∀H',Ext H H'→∀(Q:V→Hp→Prop) (E:Nat→Hp→Prop),(∀H'',Ext H' H''→Q (nV (f l)) H'')→AC T0 n false fv [nV l] H' Q E
theorem mS{o:Op}{g:Nat}{C:List (Nat×Nat)}{f:Nat→Nat}(hf:∀l∈o.labels,FO (n+1) H (.clo g C) f l)(h:∀H',Ext H H'→Q (o.relabel f).toV H'):Fn (n+2) 1 [o.toV,.clo g C] H Q E:=by
 refine⟨bd rfl,iq fun c hc=>?_⟩
 have x:=(Ext.refl H).new hc (.cell (some (.clo g C)))
 cases o with
 |choose a b =>
  refine bB rfl ⟨rfl,trivial,bB rfl (aQ (ai _ _ _) (hf a (.head _) _ x _ _ fun H1 x1=>?_))⟩
  refine⟨aD rfl,trivial,bB rfl (aQ (x1 _ _ (ai _ _ _)) (hf b (.tail _ (.head _)) _ (x.trans x1) _ _ fun H2 x2=>?_))⟩
  exact⟨aD rfl,trivial,fun l hl=>aa (aT (ai _ _ _)) (h _ (((x.trans x1).trans x2).new hl _))⟩
 |jump l=>exact aH rfl (bB rfl (aQ (ai _ _ _) (hf l (.head _) _ x _ _ fun H1 x1=>h _ (x.trans x1))))
 |rk r l =>
  have hk:∀P,P→br false False P:=fun P p=>aH rfl p
  cases r<;>refine aH rfl (aH rfl (eZ ?_))<;>cases l with
  |none=>exact bB rfl (h _ x)
  |some l=>exact aH rfl (aQ (ai _ _ _) (hf l (.head _) _ x _ _ fun H1 x1=>h _ (x.trans x1)))
 |br b l=>cases b<;>exact aH rfl (aH rfl (eZ (aH rfl (aQ (ai _ _ _) (hf l (.head _) _ x _ _ fun H1 x1=>h _ (x.trans x1))))))
 |one o=>cases o<;>exact aH rfl (aH rfl (eZ (bB rfl (h _ x))))
 |perform a b=>exact aH rfl (aH rfl (eZ (bB rfl (h _ x))))
end
end
section
theorem oi(k:Nat):(10:Int)^k≠0:=Int.pow_ne_zero (by decide)
noncomputable def AI(Q:Fl→St→Prop)(I:Nat→Lc→Hp→Prop)(m:Nat):Fl→St→Prop:=fun fl σ2=>match fl with|.ret u=>Q (.ret u) σ2|_=>∃m',m'<m∧I m' σ2.L σ2.H
theorem hX{T:St→(Bool→St→Prop)→Prop}{B:St→(Fl→St→Prop)→Prop}{L:Lc}{H:Hp}{Q:Fl→St→Prop}(I:Nat→Lc→Hp→Prop)(n:Nat)(h0:I n L H)
  (hs:∀m L H,I m L H→T ⟨L,H⟩ fun b σ1=>br b (B σ1 (AI Q I m)) (Q .next σ1)):qC T B ⟨L,H⟩ Q :=
 ⟨fun m σ=>I m σ.L σ.H,n,h0,fun m σ h=>hs m σ.L σ.H h⟩
section
variable {n:Nat} {H:Hp} {Q:V→Hp→Prop} {E:Nat→Hp→Prop}
theorem oN{t b:Int}(hb:b≠0)(hl:b.natAbs<bJ)(h:Q (.int (oO t b)) H):Fn (n+1) 3 [.int t,.int b] H Q E:=by
 have hb':(b.natAbs:Int)≠0:=fun z=>hb (Int.natAbs_eq_zero.mp (Int.ofNat.inj z))
 exact⟨bd rfl,aF (fun e=>⟨hb',hl,qe Q (congrArg V.int (Kh e)) h⟩) fun e=>⟨hb',hl,qe Q (congrArg V.int (Kg (ch e))) h⟩⟩
theorem kN{u s:Int}(hs:0≤s)(hL:bJ > 10)(h:Q (a8 (ed u s.toNat)) H):Fn (n+1) 4 [.int u,.int s] H Q E:=by
 obtain⟨k,rfl⟩:=Int.eq_ofNat_of_zero_le hs
 refine⟨bd rfl,aH (decide_eq_false (Int.not_lt.mpr hs)) ⟨rfl,hX (fun m L H'=>H'=H∧∃v,L 42=some (.int v)∧L 43=some (nV m)∧ed v m=ed u k) k ⟨rfl,u,rfl,rfl,rfl⟩ ?_⟩⟩
 rintro m L _ ⟨rfl,v,e1,e2,e3⟩
 refine aa e2 ?_
 cases m with
 |zero=>exact ez rfl (aH rfl (aa e1 (aa e2 (qe Q (congrArg a8 e3.symm) h))))
 |succ m =>
  refine iH (decide_eq_true (Int.ofNat_succ_pos m)) (aa e1 ⟨by decide,bM (fun e=>?_) fun e=>?_⟩)
  ·refine bB rfl (aa e1 ⟨by decide,hL,aa e2 ⟨m,La _,rfl,_,rfl,?_,?_⟩⟩)
   ·exact congrArg (fun z=>some (V.int z)) (show((m+1:Nat):Int)-1=m from Int.add_sub_cancel m 1)
   ·exact(Kh (Ki (a:=v.fmod 10) (b:=0) e):ed v (m+1)=_).symm.trans e3
  ·exact aH e (aa e1 (aa e2 (qe Q (congrArg a8 ((Kg (ne_of_beq_false (a:=v.fmod 10) (b:=0) e):ed v (m+1)=_).symm.trans e3).symm) h)))
end
end
section
theorem dw{k:Nat}(h:k≤2700):((10:Int)^k).natAbs<bJ:=by
 rw[Int.natAbs_pow]
 unfold bJ
 exact bD (Nat.pow_le_pow_right (by decide) h) (by decide +kernel)
theorem nT{b:Bool}(e:(!b)=true):b=false:=by cases b;rfl;injection e
theorem nF{b:Bool}(e:(!b)=false):b=true:=by cases b;cases e;rfl
theorem p10:(10:Int).natAbs<2^64:=aD rfl
theorem p120:(120:Int)≤1000000:=Int.le_of_lt (by decide)
noncomputable def j9(Q:V→Hp→Prop)(E:Nat→Hp→Prop)(H:Hp):Option aJ→Prop
 |some r=>Q (a8 r) H
 |none=>E 3 H
theorem jR{u s:Int}(e:decide (((u.natAbs:Int))<10^120)=true):np u s=some (ed u s.toNat):=Kh e
theorem jS{u s:Int}(e:decide (((u.natAbs:Int))<10^120)=false):np u s=none:=Kg (ch e)
section
variable {n:Nat} {H:Hp} {Q:V→Hp→Prop} {E:Nat→Hp→Prop}
theorem Cv{u s:Int}(hs:0≤s)(hs':s≤60)(h:j9 Q E H (kept u s)):Fn (n+2) 5 [.int u,.int s] H Q E:=by
 refine⟨bd rfl,aF (fun e=>?_) fun e=>?_⟩
 ·have e':=Kn e
  have h0:kept u s=_:=Kh e
  rw[h0]at h
  refine⟨p10,Int.sub_nonneg.mpr (Int.le_of_lt e'),cz (Int.sub_le_self s (by decide)) (cz hs' (by decide)),oN (oi _) (dw (Int.toNat_le.mpr (cz (Int.sub_le_self s (by decide)) (cz hs' (by decide))))) ⟨bd rfl,p10,by decide,p120,aF (fun e2=>?_) fun e2=>?_⟩⟩
  ·rw[jS (nT e2)]at h
   exact⟨rfl,rfl,h⟩
  ·rw[jR (nF e2)]at h
   exact kN (by decide) (dw (k:=1) (by decide)) h
 ·have h0:kept u s=_:=Kg (ch e)
  rw[h0]at h
  refine⟨bd rfl,p10,by decide,p120,aF (fun e2=>?_) fun e2=>?_⟩
  ·rw[jS (nT e2)]at h
   exact⟨rfl,rfl,h⟩
  ·rw[jR (nF e2)]at h
   exact kN hs (dw (k:=1) (by decide)) h
end
end
section
theorem okN.line{a:aJ}(h:okN a):a.1.natAbs<bJ:=by
 unfold bJ
 exact Nat.lt_trans h.1 (by decide +kernel)
theorem nz(i j:Int):i≤dH i j∧j≤dH i j∧(dH i j=i∨dH i j=j):=by
 by_cases h:i<j
 ·rw[show dH i j=j from Kh h];exact⟨Int.le_of_lt h,Int.le_refl _,.inr rfl⟩
 ·rw[show dH i j=i from Kg h];exact⟨Int.le_refl _,Int.not_lt.mp h,.inl rfl⟩
theorem ud{a:aJ}{s:Int}(h:okN a)(h1:a.2≤s)(h2:s≤30):(0≤s-a.2∧s-a.2≤1000000)∧vk a.1 (10^(s-a.2).toNat) :=
 ⟨⟨Int.sub_nonneg.mpr h1,cz (Int.sub_le_self s h.2.1) (cz h2 (by decide))⟩,.inr ⟨h.line,dw (Int.toNat_le.mpr (cz (Int.sub_le_self s h.2.1) (cz h2 (by decide))))⟩⟩
theorem yH:(10:Int).natAbs<bJ:=dw (k:=1) (by decide)
section
variable {n:Nat} {H:Hp} {Q:V→Hp→Prop} {E:Nat→Hp→Prop}
theorem AK{a b:aJ}(ha:okN a)(hb:okN b)(h:Q (.tup [.int (kE a (dH a.2 b.2)),.int (kE b (dH a.2 b.2)),.int (dH a.2 b.2)]) H):Fn (n+1) 6 [a8 a,a8 b] H Q E:=by
 have⟨i1,i2,i3⟩:=nz a.2 b.2
 have h30:dH a.2 b.2≤30:=i3.elim (fun z=>cz (Int.le_of_eq z) ha.2.2) fun z=>cz (Int.le_of_eq z) hb.2.2
 have x:=ud ha i1 h30
 have y:=ud hb i2 h30
 exact⟨bd rfl,rfl,p10,x.1.1,x.1.2,x.2,p10,y.1.1,y.1.2,y.2,h⟩
theorem B7{a b:aJ}(ha:okN a)(hb:okN b)(h:Q (a8 (DY a b)) H):Fn (n+2) 7 [a8 a,a8 b] H Q E :=
 ⟨bd rfl,rfl,AK ha hb (kN (cz ha.2.1 (nz a.2 b.2).1) yH h)⟩
theorem zu{a b:aJ}(ha:okN a)(hb:okN b)(h:Q (a8 (AX a b)) H):Fn (n+2) 8 [a8 a,a8 b] H Q E :=
 ⟨bd rfl,rfl,AK ha hb (kN (cz ha.2.1 (nz a.2 b.2).1) yH h)⟩
theorem qK{a b:aJ}(ha:okN a)(hb:okN b)(h:j9 Q E H (qj a b)):Fn (n+3) 9 [a8 a,a8 b] H Q E :=
 ⟨bd rfl,.inr ⟨ha.line,hb.line⟩,Cv (Int.add_nonneg ha.2.1 hb.2.1) (Int.add_le_add ha.2.2 hb.2.2) h⟩
theorem wZ{a:aJ}(h:Q (a8 (dj a)) H):Fn (n+1) 10 [a8 a] H Q E:=⟨bd rfl,h⟩
theorem tZ{a b:aJ}(ha:okN a)(hb:okN b)(h:j9 Q E H (mo a b)):Fn (n+2) 11 [a8 a,a8 b] H Q E:=by
 refine⟨bd rfl,aF (fun e=>⟨rfl,rfl,?_⟩) fun e=>?_⟩
 ·have h0:mo a b=none:=Kh e
  rw[h0]at h;exact h
 ·have h0:mo a b=_:=Kg (ch e)
  rw[h0]at h
  have hb0:b.1≠0:=of_decide_eq_false e
  have a1:=ha.2.1
  have a2:=ha.2.2
  have b1:=hb.2.1
  have b2:=hb.2.2
  refine⟨p10,Int.add_nonneg (by decide) b1,cz (Int.add_le_add_left b2 30) (by decide),.inr ⟨ha.line,dw (Int.toNat_le.mpr (cz (Int.add_le_add_left b2 30) (by decide)))⟩,p10,a1,cz a2 (by decide),.inr ⟨hb.line,dw (Int.toNat_le.mpr (cz a2 (by decide)))⟩,oN (Int.mul_ne_zero hb0 (oi _)) ?_ (kN (by decide) yH h)⟩
  rw[Int.natAbs_mul,Int.natAbs_pow]
  unfold bJ
  refine Kw (Nat.mul_lt_mul_of_lt_of_le hb.1 (Nat.pow_le_pow_right (n:=10) (by decide) (show a.2.toNat≤30 from Int.toNat_le.mpr a2)) (Nat.pow_pos (by decide))) (by decide +kernel)
end
end
section
structure Turn(src:V)(all:List V)(Q:Fl→St→Prop)(I:Nat→Lc→Hp→Prop)(i:Nat)(K:Fl→St→Prop):Prop where
 go:∀L H,cV src all H→I (i+1) L H→K .next ⟨L,H⟩
 cont:∀L H,cV src all H→I (i+1) L H→K .cont ⟨L,H⟩
 ret:∀u σ,Q (.ret u) σ→K (.ret u) σ
theorem kK{src:V}{all:List V}{B:V→St→(Fl→St→Prop)→Prop}{Q:Fl→St→Prop}:∀{vs:List V} {L:Lc} {H:Hp} (I:Nat→Lc→Hp→Prop),
  I 0 L H→(∀i v L H K,vs[i]?=some v→I i L H→Turn src all Q I i K→B v ⟨L,H⟩ K)→(∀L H,I vs.length L H→Q .next ⟨L,H⟩)→jW src all B vs ⟨L,H⟩ Q:=by
 intro vs
 induction vs with
 |nil=>intro L H I h0 _ he;exact he L H h0
 |cons v vs ih =>
  intro L H I h0 hs he
  exact hs 0 v L H _ rfl h0 ⟨fun L H s h=>⟨s,ih (fun i=>I (i+1)) h (fun i v L H K e h t=>hs (i+1) v L H K e h ⟨t.go,t.cont,t.ret⟩) he⟩,
   fun L H s h=>⟨s,ih (fun i=>I (i+1)) h (fun i v L H K e h t=>hs (i+1) v L H K e h ⟨t.go,t.cont,t.ret⟩) he⟩,fun u σ h=>h⟩
noncomputable def ky(n:Nat):List V:=(List.range n).map nV
theorem mT(n:Nat):(ky n).length=n:=by simp[ky]
theorem ve{n i:Nat}{v:V}(h:(ky n)[i]?=some v):i<n∧v=nV i:=by
 have hi:i<n:=mT n▸(Kk.mp h).1
 simp only[ky,Ko,List.getElem?_range hi,Option.map_some,Option.some.injEq]at h
 exact⟨hi,h.symm⟩
theorem cX{src:V}{all:List V}{B:V→St→(Fl→St→Prop)→Prop}{Q:Fl→St→Prop}{N:Nat}{L:Lc}{H:Hp}(I:Nat→Lc→Hp→Prop)
  (h0:I 0 L H) (hs:∀i L H K,i<N→I i L H→Turn src all Q I i K→B (nV i) ⟨L,H⟩ K) (he:∀L H,I N L H→Q .next ⟨L,H⟩):jW src all B (ky N) ⟨L,H⟩ Q :=
 kK I h0 (fun i v L H K hv h T=>by obtain⟨hi,rfl⟩:=ve hv;exact hs i L H K hi h T) fun L H h=>he L H (mT N▸h)
theorem oM:∀(s:Nat) (u:Int),(ed u s).1.natAbs≤u.natAbs∧0≤(ed u s).2∧(ed u s).2≤s
 |0,u=>⟨aR _,Int.le_refl _,Int.le_refl _⟩
 |s+1,u=>by
  unfold ed
  split
  ·rename_i e
   have h:=oM s (u.fdiv 10)
   have:(u.fdiv 10).natAbs≤u.natAbs:=Int.natAbs_fdiv_le_natAbs u 10
   exact⟨am h.1 this,h.2.1,cz h.2.2 (Int.ofNat_le.mpr (Nat.le_succ s))⟩
  ·exact⟨aR _,KL (s+1),Int.le_refl _⟩
theorem rS{u s:Int}{r:aJ}(hs:s≤30)(e:np u s=some r):r.1.natAbs<10^120∧0≤r.2∧r.2≤30:=by
 cases d:decide (((u.natAbs:Int))<10^120)with
 |false=>rw[jS d]at e;injection e
 |true =>
  rw[jR d]at e
  replace e:=oInj e;subst e
  have h:=oM s.toNat u
  have d':u.natAbs<10^120:=Int.ofNat_lt.mp (Int.lt_of_lt_of_le (Kn d) (Int.le_of_eq (Int.natCast_pow 10 120).symm))
  exact⟨bD h.1 d',h.2.1,cz h.2.2 (Int.ofNat_le.mpr (Int.toNat_le.mpr hs))⟩
theorem oE{u s:Int}{r:aJ}(e:kept u s=some r):r.1.natAbs<10^120∧0≤r.2∧r.2≤30:=by
 unfold kept at e
 split at e
 ·exact rS (by decide) e
 ·rename_i d
  exact rS (by simpa using d) e
theorem wX{r:aJ}(h:r.1.natAbs<10^120∧0≤r.2∧r.2≤30):okN r:=⟨Nat.lt_trans h.1 (by decide +kernel),h.2⟩
theorem okN_one:okN (1,0):=⟨by decide +kernel,by decide,by decide⟩
end
section
theorem Hj{t u:Bool}{X Y I:Prop}(h:br (t||u) X Y)(hi:br u X Y→I):br (t==false) I (br t X Y):=AS (fun e=>hi (by rw[e]at h;exact h)) fun e=>bB e (by rw[e]at h;exact kf h)
theorem Gs{t u:Bool}{X Y:Prop}(h:br (t&&u) X Y):br (t==true) (br (u==true) (br (true==false) (br false X Y) (br true X Y)) (br (u==false) (br false X Y) (br u X Y))) (br (t==false) (br false X Y) (br t X Y)) :=
 bM (fun e=>by subst e;exact bM (fun e=>by subst e;exact Hx rfl h) fun e=>by subst e;exact rt rfl h) fun e=>by subst e;exact rt rfl h
section
variable {n:Nat} {H:Hp} {Q:V→Hp→Prop} {E:Nat→Hp→Prop}
theorem y9{a b:aJ}(ha:okN a)(h:j9 Q E H (mU a b)):Fn (n+4) 12 [a8 a,a8 b] H Q E:=by
 refine⟨bd rfl,Hj (t:=!decide (b.2=0)) (u:=_) (aF (c:=sX a b) (fun e=>⟨rfl,rfl,?_⟩) fun e=>?_) fun h=>Hj h Gs⟩
 ·rw[show mU a b=none from Kh e]at h
  exact h
 ·rw[show mU a b=_ from Kg (ch e)]at h
  have hb:(b.1.natAbs:Int)≤99:=by
   unfold sX at e
   simp only[Bool.or_eq_false_iff,decide_eq_false_iff_not]at e
   exact Int.not_lt.mp e.2.1
  refine⟨rfl,⟨KL _,cz hb (by decide)⟩,cX (N:=b.1.natAbs) (fun i L H'=>H'=H∧L 48=some (a8 a)∧L 49=some (a8 b)∧∃f,L 62=some (a8 f)∧okN f∧mq a (b.1.natAbs-i) f=mq a b.1.natAbs (1,0)) ⟨rfl,rfl,rfl,(1,0),rfl,okN_one,rfl⟩ ?_ ?_⟩
  ·rintro i L H' K hi ⟨rfl,e1,e2,f,e3,e4,e5⟩ T
   have e6:b.1.natAbs-i=b.1.natAbs-(i+1)+1:=(Nat.succ_pred_eq_of_pos (Nat.sub_pos_of_lt hi)).symm
   rw[e6,mq]at e5
   refine aa e3 (aa e1 (qK e4 ha ?_))
   cases hr:qj f a with
   |none=>rw[hr,Option.bind_none]at e5;rw[← e5]at h;exact h
   |some r =>
    rw[hr,Option.bind_some]at e5
    exact T.go _ _ trivial ⟨rfl,e1,e2,r,rfl,wX (oE hr),e5⟩
  ·rintro L H' ⟨rfl,e1,e2,f,e3,e4,e5⟩
   rw[Nat.sub_self,mq]at e5
   rw[← e5,Option.bind_some]at h
   refine aa e2 (aF (fun e=>aa e3 (tZ (n:=n+1) (a:=(1,0)) (b:=f) okN_one e4 ?_)) fun e=>aa e3 ?_)
   ·rw[Kh e]at h;exact h
   ·rw[Kg (ch e)]at h;exact h
theorem yE{a:aJ}(ha:okN a)(h:Q (.int (bI a)) H):Fn (n+2) 13 [a8 a,.int 0,.bool false] H Q E:=by
 have a1:=ha.2.1
 have a2:=ha.2.2
 refine⟨bd rfl,aF (fun e=>⟨p10,Int.sub_nonneg.mpr (Kn e),cz (Int.sub_le_self 0 a1) (by decide),.inr ⟨ha.line,dw (Int.toNat_le.mpr (cz (Int.sub_le_self 0 a1) (by decide)))⟩,?_⟩) fun e=>⟨p10,Int.sub_nonneg.mpr a1,cz (Int.sub_le_self a.2 (Int.le_refl 0)) (cz a2 (by decide)),bB rfl (oN (oi _) (dw (Int.toNat_le.mpr (cz (Int.sub_le_self a.2 (Int.le_refl 0)) (cz a2 (by decide))))) ?_)⟩⟩
 ·exact qe Q (congrArg V.int (Kh e)) h
 ·exact qe Q (congrArg V.int (Kg (ch e))) h
theorem vA{a:aJ}(h:Q (.bool (decide (a.2=0))) H):Fn (n+1) 14 [a8 a] H Q E:=⟨bd rfl,h⟩
theorem l4{a:aJ}(ha:okN a)(h:Q (.int (bI a)) H):Fn (n+3) 15 [a8 a] H Q E:=⟨bd rfl,yE ha h⟩
theorem uD{s:Nat}{a b:aJ}(ha:okN a)(hb:okN b)(h:j9 Q E H (cO s a b)):Fn (n+5) 17 [.str s,a8 a,a8 b] H Q E:=by
 unfold cO at h
 refine⟨bd rfl,aF (fun(e:(s==90)=true)=>B7 ha hb ?_) fun(e:(s==90)=false)=>?_⟩
 ·rw[Kh e]at h;exact h
 rw[Kg (ch e)]at h
 refine aF (fun(e:(s==91)=true)=>zu ha hb ?_) fun(e:(s==91)=false)=>?_
 ·rw[Kh e]at h;exact h
 rw[Kg (ch e)]at h
 refine aF (fun(e:(s==92)=true)=>qK ha hb ?_) fun(e:(s==92)=false)=>aF (fun(e':(s==93)=true)=>tZ ha hb ?_) fun(e':(s==93)=false)=>y9 ha ?_
 ·rw[Kh e]at h;exact h
 ·rw[Kg (ch e),Kh e']at h;exact h
 ·rw[Kg (ch e),Kg (ch e')]at h;exact h
end
end
section
section
variable {A:Ans} {c c':Cd}
theorem mj:∀(a b:Nat) (m:Mc),aS A c (a+b) m=match aS A c a m with
  |.go t=>aS A c b t
  |.fin t e=>.fin t e
 |0,b,m=>by rw[Nat.zero_add];rfl
 |a+1,b,m=>by
  rw[Nat.succ_add]
  refine(?_:(match bR A c m with|.go t=>aS A c (a+b) t|.fin t e=>Re.fin t e)=match (match bR A c m with|.go t=>aS A c a t|.fin t e=>Re.fin t e)with|.go t=>aS A c b t|.fin t e=>.fin t e)
  cases bR A c m with
  |go t=>exact mj a b t
  |fin t e=>rfl
theorem gi{a b:Nat}{m t:Mc}(h:aS A c a m=.go t):aS A c (a+b) m=aS A c b t:=by rewrite[mj];refine ab h ?_;rfl
theorem mh{a:Nat}(b:Nat){m:Mc}{t:List TE}{e:End}(h:aS A c a m=.fin t e):aS A c (a+b) m=.fin t e:=by rewrite[mj];refine ab h ?_;rfl
theorem cQ(m:Mc):aS A c 1 m=bR A c m:=by
 refine(?_:(match bR A c m with|.go t=>Re.go t|.fin t e=>Re.fin t e)=_)
 cases bR A c m<;>rfl
theorem bO{m:Mc}{o:Op}(h:c.ops[m.place]?=some o):bR A c m=exec A c.bg (m.place+1) m o:=by unfold bR;refine ab h ?_;rfl
theorem jC{m:Mc}(h:c.ops[m.place]?=none):bR A c m=.fin m.tr .fault:=by unfold bR;refine ab h ?_;rfl
noncomputable def Re.ok(I:Mc→Prop):Re→Prop
 |.go m=>I m
 |.fin ..=>True
noncomputable def Fm.map(φ:Nat→Nat)(f:Fm):Fm:={ f with behind:=φ f.behind }
noncomputable def Mc.map(φ:Nat→Nat)(m:Mc):Mc:={ m with place:=φ m.place,up:=m.up.map (Fm.map φ) }
noncomputable def Re.map(φ:Nat→Nat):Re→Re
 |.go m=>.go (m.map φ)
 |.fin t e=>.fin t e
noncomputable def Sim(A:Ans)(c' c:Cd)(φ:Nat→Nat)(I:Mc→Prop):Prop:=∀m,I m→∃k,bR A c' (m.map φ)=(aS A c (k+1) m).map φ∧(aS A c (k+1) m).ok I
theorem Sim.runs{φ:Nat→Nat}{I:Mc→Prop}(S:Sim A c' c φ I):∀n m,I m→∃k,n≤k∧aS A c' n (m.map φ)=(aS A c k m).map φ:=by
 intro n
 induction n with
 |zero =>
  intro m _
  exact⟨0,aR _,rfl⟩
 |succ n ih =>
  intro m h
  obtain⟨k,h1,h2⟩:=S m h
  refine(?_:∃j,n+1≤j∧(match bR A c' (m.map φ)with|.go t=>aS A c' n t|.fin t e=>.fin t e)=_)
  refine ab h1 ?_
  cases hr:aS A c (k+1) m with
  |fin t e=>exact⟨k+1+n,am (dc (Nat.le_add_left n k)) (bU (Nat.succ_add k n).symm),by refine ab (mh n hr) ?_;rfl⟩
  |go t =>
   rw[hr]at h2
   obtain⟨j,h3,h4⟩:=ih t h2
   exact⟨k+1+j,am (dc (am h3 (Nat.le_add_left j k))) (bU (Nat.succ_add k j).symm),by refine ab (gi hr) ?_;exact h4⟩
theorem Cf{φ:Nat→Nat}(r:Re):(r.map φ).obs=r.obs:=by cases r<;>rfl
theorem Sim.refines{φ:Nat→Nat}{I:Mc→Prop}(S:Sim A c' c φ I)(h:I start)(h0:φ 0=0):Refines A c' c:=fun n=>by
 obtain⟨k,h1,h2⟩:=S.runs n start h
 have:start.map φ=start:=by refine(?_:(⟨φ 0,[],[],none,85,[]⟩:Mc)=_);refine ab h0 ?_;rfl
 rw[this]at h2
 exact⟨k,h1,by refine ab h2 ?_;rw[Cf]⟩
theorem Refines.refl(c:Cd):Refines A c c:=fun n=>⟨n,aR _,rfl⟩
theorem Refines.trans{a b c:Cd}(x:Refines A a b)(y:Refines A b c):Refines A a c:=fun n =>
 let ⟨m,h1,h2⟩:=x n
 let ⟨k,h3,h4⟩:=y m
 ⟨k,am h1 h3,h2.trans h4⟩
variable {φ:Nat→Nat}
theorem w8(h0:φ 0=0)(bg:List Nat)(a:Nat):(bg.map φ).getD a 0=φ (bg.getD a 0):=by
 simp only[List.getD_eq_getElem?_getD,Ko]
 cases bg[a]? with
 |none=>exact h0.symm
 |some x=>rfl
theorem fb{α β:Type}(f:α→β)(p:Prop)[Decidable p](a b:α):(if p then f a else f b)=f (if p then a else b):=by split<;>rfl
theorem yM(m:Mc):(m.map φ).slot=m.slot:=by
 obtain⟨p,s,up,b,k,t⟩:=m
 cases up<;>rfl
theorem lQ(m:Mc)(i:Int):(m.map φ).setSlot i=(m.setSlot i).map φ:=by
 obtain⟨p,s,up,b,k,t⟩:=m
 cases up<;>rfl
theorem Ad(nx:Nat)(m:Mc)(l:Nat)(b:Br):dU A (φ nx) (m.map φ) (φ l) b=(dU A nx m l b).map φ:=by
 cases b with
 |put n=>refine(?_:((m.pop.say (.put n m.top)).map φ).to (if A.over m.tr.length=true then φ l else φ nx)=_);rw[fb φ];rfl
 |key k=>refine(?_:(m.map φ).to (if m.key=k then φ nx else φ l)=_);rw[fb φ];rfl
 |test c=>refine(?_:(m.map φ).to (if A.test m.tr.length c=true then φ nx else φ l)=_);rw[fb φ];rfl
 |less =>
  unfold dU
  rw[yM,lQ]
  exact fb (Mc.map φ) _ ((m.setSlot (m.slot.getD 0-1)).to nx) (m.to l)
theorem tC(nx:Nat)(m:Mc)(p:Int):bK (φ nx) (m.map φ) p=(bK nx m p).map φ:=by
 obtain⟨q,s,up,b,k,t⟩:=m
 cases up with
 |nil=>rfl
 |cons f r=>exact fb (Mc.map φ) (f.last=p) (⟨f.behind,s,r,b,k,t⟩:Mc) ⟨nx,s,f::r,b,k,t⟩
theorem Ac(h0:φ 0=0)(bg:List Nat)(nx:Nat)(m:Mc)(o:Op):exec A (bg.map φ) (φ nx) (m.map φ) (o.relabel φ)=(exec A bg nx m o).map φ:=by
 cases o with
 |rk r l =>
  have:aI A (m.map φ) r=((aI A m r).1,(aI A m r).2.map φ):=by
   cases r with
   |push o=>rfl
   |«calc» s=>exact fb (fun x:Option aJ×Mc=>(x.1,x.2.map φ)) ((s==98)=true) (some (dj m.top),m.pop) (cO s m.pop.top m.top,m.pop.pop)
  refine(?_:aM (φ nx) (l.map φ) (aI A (m.map φ) r)=_)
  refine ab this ?_
  refine(?_:aM (φ nx) (l.map φ) _=(aM nx l (aI A m r)).map φ)
  obtain⟨w,t⟩:=aI A m r
  cases w with
  |some w=>rfl
  |none=>cases l<;>rfl
 |br b l=>exact congrArg Re.go (Ad nx m l b)
 |jump l=>rfl
 |choose a b =>
  refine(?_:Re.go ((m.pop.map φ).to (dJ m.top (φ a) (φ b) (φ nx)))=.go ((m.pop.map φ).to (φ (dJ m.top a b nx))))
  unfold dJ
  rw[fb φ,fb φ]
 |perform a b =>
  show(if 20<(m.up.map (Fm.map φ)).length+1 then Re.fin m.tr .fault else .go { m.map φ with up:=⟨b,φ nx,none⟩::(m.map φ).up,place:=(bg.map φ).getD a 0 })=Re.map φ (if _ then _ else _)
  rw[Kf,w8 h0]
  split<;>rfl
 |one o =>
  cases o with
  |leave p=>exact congrArg Re.go (tC nx m p)
  |count=>exact congrArg (fun x:Mc=>Re.go (x.to (φ nx))) (lQ m.pop (bI m.top))
  |_=>rfl
end
end
section
section
variable {A:Ans} {c:Cd}
theorem v9(f:aA):aq f 0=0:=rfl
theorem eH:∀{f:aA} {p:Nat} {x:Option Op},f[p]?=some x→aq f (p+1)=aq f p+(if x.isSome=true then 1 else 0)
 |[],p,x,h=>by injection h
 |y::f,0,x,h=>by replace h:=oInj h;subst h;refine(?_:List.countP _ [y]=0+_);rw[Nat.zero_add];exact List.countP_singleton
 |y::f,p+1,x,h=>by
  have:=eH (f:=f) h
  refine(?_:List.countP _ (y::f.take (p+1))=List.countP _ (y::f.take p)+_)
  refine ab List.countP_cons ?_;refine ab List.countP_cons ?_
  refine(?_:aq f (p+1)+_=aq f p+_+_)
  refine ab this ?_;rw[Nat.add_right_comm]
theorem cU{f:aA}{p:Nat}{o:Op}(h:f[p]?=some (some o)):aq f (p+1)=aq f p+1:=eH h
theorem j7{f:aA}{p:Nat}(h:f[p]?=some none):aq f (p+1)=aq f p:=eH h
theorem sr{g:Op→Op}:∀{f:aA} {p:Nat} {o:Op},f[p]?=some (some o)→(f.filterMap fun o=>o.map g)[aq f p]?=some (g o)
 |[],p,o,h=>by injection h
 |y::f,0,o,h=>by replace h:=oInj h;subst h;rfl
 |none::f,p+1,o,h=>by
  refine(?_:(f.filterMap fun o=>o.map g)[List.countP _ (none::f.take p)]?=_)
  refine ab (List.countP_cons_of_neg (by exact fun z=>by injection z)) ?_
  exact sr (f:=f) h
 |some y::f,p+1,o,h=>by
  refine(?_:(g y::f.filterMap fun o=>o.map g)[List.countP _ (some y::f.take p)]?=_)
  refine ab (List.countP_cons_of_pos rfl) ?_;refine ab (List.getElem?_cons_succ) ?_
  exact sr (f:=f) h
theorem sp{g:Op→Op}:∀f:aA,(f.filterMap fun o=>o.map g).length=f.countP Option.isSome
 |[]=>rfl
 |none::f=>by refine ab (List.countP_cons_of_neg (by exact fun z=>by injection z)) ?_;exact sp f
 |some y::f=>by refine ab (List.countP_cons_of_pos rfl) ?_;exact congrArg (·+1) (sp f)
theorem pz(f:aA):(bG f).length=f.countP Option.isSome:=sp f
theorem pA{f:aA}{p:Nat}{o:Op}(h:f[p]?=some (some o)):(bG f)[aq f p]?=some (o.relabel (aq f)):=sr h
theorem pX{f:aA}{p:Nat}(h:f[p]?=none):aq f p=f.countP Option.isSome:=by
 unfold aq
 refine ab (List.take_of_length_le (List.getElem?_eq_none_iff.mp h)) ?_;rfl
theorem wM{f:aA}{p:Nat}(h:f[p]?=none):(bG f)[aq f p]?=none:=by
 refine ab (pX h) ?_;rw[← pz]
 exact Lz (aR _)
structure Holes(A:Ans)(c:Cd)(f:aA)(bg:List Nat)(I:Mc→Prop):Prop where
 len:f.length=c.ops.length
 drop:∀m,I m→f[m.place]?=some none→bR A c m=.go (m.to (m.place+1))∧I (m.to (m.place+1))
 keep:∀m o,I m→f[m.place]?=some (some o)→∃k nx,aq f nx=aq f m.place+1∧aS A c (k+1) m=exec A bg nx m o∧(exec A bg nx m o).ok I
theorem D7{f:aA}{ops:List Op}{p:Nat}(h:f.length=ops.length)(e:f[p]?=none):ops[p]?=none:=Lz (am (bU h.symm) (List.getElem?_eq_none_iff.mp e))
theorem Holes.one{f:aA}{bg:List Nat}{I:Mc→Prop}(h:Holes A c f bg I):∀(d:Nat) (m:Mc),f.length-m.place=d→I m→∃k,bR A ⟨bG f,bg.map (aq f)⟩ (m.map (aq f))=(aS A c (k+1) m).map (aq f)∧(aS A c (k+1) m).ok I
 |d,m,hd,hi=>by
  cases e:f[m.place]? with
  |none =>
   refine⟨0,?_⟩
   rewrite[cQ];refine ab (jC (D7 h.len e)) ?_;refine ab (jC (wM e)) ?_
   exact⟨rfl,trivial⟩
  |some x =>
   have lt:m.place<f.length:=(Kk.mp e).1
   cases x with
   |none =>
    obtain⟨h1,h2⟩:=h.drop m hi e
    cases d with
    |zero=>exact absurd hd (Ld (Nat.sub_pos_of_lt lt))
    |succ d =>
     obtain⟨k,h3,h4⟩:=h.one d (m.to (m.place+1)) (by refine(?_:f.length-(m.place+1)=d);rewrite[Nat.sub_add_eq];refine ab hd ?_;rfl) h2
     have e1:aS A c (k+1+1) m=aS A c (k+1) (m.to (m.place+1)):=by
      refine(?_:(match bR A c m with|.go t=>aS A c (k+1) t|.fin t e=>.fin t e)=_)
      refine ab h1 ?_;rfl
     have e2:(m.to (m.place+1)).map (aq f)=m.map (aq f):=by
      refine(?_:({ (m.map (aq f))with place:=aq f (m.place+1) }:Mc)=_)
      refine ab (j7 e) ?_;rfl
     exact⟨k+1,by refine ab e1 ?_;exact⟨e2▸h3,h4⟩⟩
   |some o =>
    obtain⟨k,nx,h1,h2,h3⟩:=h.keep m o hi e
    refine⟨k,?_⟩
    refine ab h2 ?_
    refine⟨?_,h3⟩
    refine ab (bO (pA e)) ?_
    refine(?_:exec A (bg.map (aq f)) (aq f m.place+1) (m.map (aq f)) _=_)
    refine bT h1 ?_
    exact Ac (v9 f) bg nx m o
theorem Holes.sim{f:aA}{bg:List Nat}{I:Mc→Prop}(h:Holes A c f bg I):Sim A ⟨bG f,bg.map (aq f)⟩ c (aq f) I:=fun m hi=>h.one _ m rfl hi
theorem jG{φ:Nat→Nat}{o:Op}(h:∀l∈o.labels,φ l=l):o.relabel φ=o:=by
 cases o with
 |rk r l =>
  cases l with
  |none=>rfl
  |some l=>exact congrArg (fun l=>Op.rk r (some l)) (h l (.head _))
 |br b l=>exact congrArg (Op.br b) (h l (.head _))
 |jump l=>exact congrArg Op.jump (h l (.head _))
 |choose a b =>
  refine(?_:Op.choose (φ a) (φ b)=_)
  refine ab (h a (.head _)) ?_;refine ab (h b (.tail _ (.head _))) ?_;rfl
 |_=>rfl
theorem dF(φ:Nat→Nat)(o:Op):(o.relabel φ).labels=o.labels.map φ:=by
 cases o with
 |rk r l=>cases l<;>rfl
 |_=>rfl
theorem j8:∀{f:aA},f.all Option.isSome=true→∀{p:Nat},p≤f.length→aq f p=p
 |f,h,0,_=>rfl
 |f,h,p+1,l=>by
  have e:f[p]?=some f[p]:=Kj l
  have:(f[p]).isSome=true:=lAt h _ (KY l)
  refine ab (eH e) ?_;refine ab (Kh this) ?_;refine ab (j8 h (Nat.le_of_succ_le l)) ?_;rfl
theorem vI{g:Op→Op}:∀{f:aA},(∀o,some o∈f→g o=o)→(f.filterMap fun o=>o.map g)=f.filterMap id
 |[],_=>rfl
 |none::f,h=>vI (f:=f) fun o x=>h o (.tail _ x)
 |some y::f,h=>by
  refine(?_:g y::(f.filterMap fun o=>o.map g)=y::f.filterMap id)
  refine ab (h y (.head _)) ?_;refine ab (vI fun o x=>h o (.tail _ x)) ?_;rfl
noncomputable def td(n:Nat)(f:aA)(bg:List Nat):Prop:=(∀o,some o∈f→∀l∈o.labels,l<n)∧∀b∈bg,b<n
theorem jL{f:aA}{bg:List Nat}(h:td f.length f bg):cL f bg=⟨bG f,bg.map (aq f)⟩:=by
 unfold cL
 split
 ·rename_i q
  congr 1
  ·exact(vI fun o x=>jG fun l hl=>j8 q (KN (h.1 o x l hl))).symm
  ·exact((List.map_congr_left fun b hb=>j8 q (KN (h.2 b hb))).trans (List.map_id bg)).symm
 ·rfl
theorem jK{f:aA}{bg:List Nat}(h:f.all Option.isSome=true):cL f bg=⟨f.filterMap id,bg⟩:=Kh h
end
end
section
section
variable {A:Ans} {c:Cd} {ops:List Op}
theorem AY(m:Mc):m.map id=m:=by
 obtain⟨p,s,up,b,k,t⟩:=m
 refine(?_:(⟨p,s,up.map (Fm.map id),b,k,t⟩:Mc)=_)
 refine ab (show Fm.map id=id from rfl) ?_;rw[List.map_id]
theorem Gl(r:Re):r.map id=r:=by
 cases r with
 |go m=>exact congrArg Re.go (AY m)
 |fin t e=>rfl
noncomputable def lL(A:Ans)(q:Option Br)(t:Mc):Prop:=∀b,q=some b→∀p nx l,dU A nx (t.to p) l b=t.to l
theorem nG{t:Mc}:lL A none t:=fun zz e=>by injection e
theorem vL(g:Nat→Nat)(bg:List Nat)(nx:Nat)(m:Mc)(o:Op):exec A bg nx m (o.relabel g)=exec A bg nx m o ∨
  ∃t l,l∈o.labels∧exec A bg nx m o=.go (t.to l)∧exec A bg nx m (o.relabel g)=.go (t.to (g l))∧lL A o.asks t:=by
 have none:∀{t:Mc},lL A none t:=nG
 cases o with
 |rk r l =>
  refine(?_:aM nx (l.map g) (aI A m r)=aM nx l (aI A m r)∨_)
  cases e:(aI A m r).1 with
  |some w=>exact .inl (by unfold aM;refine ab e ?_;rfl)
  |none =>
   cases l with
   |none=>exact .inl rfl
   |some l =>
    refine .inr ⟨{ (aI A m r).2 with stack:=[] },l,.head _,?_,?_,none⟩
    ·refine(?_:aM nx (some l) (aI A m r)=_);unfold aM;refine ab e ?_;rfl
    ·refine(?_:aM nx (some (g l)) (aI A m r)=_);unfold aM;refine ab e ?_;rfl
 |br b l =>
  cases b with
  |put n =>
   by_cases h:A.over m.tr.length=true
   ·exact .inr ⟨m.pop.say (.put n m.top),l,.head _,congrArg (fun x=>Re.go ((m.pop.say (.put n m.top)).to x)) (Kh h),congrArg (fun x=>Re.go ((m.pop.say (.put n m.top)).to x)) (Kh h),none⟩
   ·exact .inl (congrArg (fun x=>Re.go ((m.pop.say (.put n m.top)).to x)) ((Kg h).trans (Kg h).symm))
  |key k =>
   by_cases h:m.key=k
   ·exact .inl (congrArg (fun x=>Re.go (m.to x)) ((Kh h).trans (Kh h).symm))
   ·exact .inr ⟨m,l,.head _,congrArg (fun x=>Re.go (m.to x)) (Kg h),congrArg (fun x=>Re.go (m.to x)) (Kg h),fun b e p nx l=>by replace e:=oInj e;subst e;exact congrArg m.to (Kg h)⟩
  |test d =>
   by_cases h:A.test m.tr.length d=true
   ·exact .inl (congrArg (fun x=>Re.go (m.to x)) ((Kh h).trans (Kh h).symm))
   ·exact .inr ⟨m,l,.head _,congrArg (fun x=>Re.go (m.to x)) (Kg h),congrArg (fun x=>Re.go (m.to x)) (Kg h),fun b e p nx l=>by replace e:=oInj e;subst e;exact congrArg m.to (Kg h)⟩
  |less =>
   by_cases h:0<m.slot.getD 0
   ·exact .inl (congrArg Re.go ((Kh h).trans (Kh h).symm))
   ·exact .inr ⟨m,l,.head _,congrArg Re.go (Kg h),congrArg Re.go (Kg h),none⟩
 |jump l=>exact .inr ⟨m,l,.head _,rfl,rfl,none⟩
 |choose a b =>
  refine(?_:Re.go (m.pop.to (dJ m.top (g a) (g b) nx))=.go (m.pop.to (dJ m.top a b nx))∨_)
  by_cases h:(m.top.2==0&&(decide (1≤bI m.top)&&decide (bI m.top≤2)))=true
  ·by_cases h1:bI m.top=1
   ·have e:∀a b,dJ m.top a b nx=a:=fun a b=>(Kh h).trans (Kh h1)
    exact .inr ⟨m.pop,a,.head _,congrArg (fun x=>Re.go (m.pop.to x)) (e a b),congrArg (fun x=>Re.go (m.pop.to x)) (e _ _),none⟩
   ·have e:∀a b,dJ m.top a b nx=b:=fun a b=>(Kh h).trans (Kg h1)
    exact .inr ⟨m.pop,b,.tail _ (.head _),congrArg (fun x=>Re.go (m.pop.to x)) (e a b),congrArg (fun x=>Re.go (m.pop.to x)) (e _ _),none⟩
  ·exact .inl (congrArg (fun x=>Re.go (m.pop.to x)) ((Kg h).trans (Kg h).symm))
 |perform a b=>exact .inl rfl
 |one o=>exact .inl rfl
theorem tY{a b:Br}(h:Br.same a b=true):a=b:=by
 cases a<;>cases b<;>first|exact congrArg _ (Ki h)|exact fT h
theorem d7{q:Option Br}{l:Nat}(h:bC q ops l=true):∃o,ops[l]?=some o∧o.passed q=true∧fy ops l=o.lab:=by
 unfold bC at h
 unfold fy
 cases e:ops[l]? with
 |none=>rw[e]at h;injection h
 |some o=>rw[e]at h;exact⟨o,rfl,h,rfl⟩
theorem tw{q:Option Br}{t:Mc}(hf:lL A q t){l:Nat}{o:Op}(ho:c.ops[l]?=some o)(h:o.passed q=true):bR A c (t.to l)=.go (t.to o.lab):=by
 refine ab (bO (show c.ops[(t.to l).place]?=some o from ho)) ?_
 cases o with
 |jump l'=>rfl
 |br b l' =>
  cases q with
  |none=>injection h
  |some a =>
   have:=tY (a:=b) (b:=a) h
   subst this
   exact congrArg Re.go (hf _ rfl _ _ _)
 |_=>injection h
theorem pT{q:Option Br}{t:Mc}(hf:lL A q t):∀{n l f:Nat},bc q c.ops n l=some f→∃k,aS A c k (t.to l)=.go (t.to f):=by
 intro n
 induction n with
 |zero =>
  intro l f h
  injection h
 |succ n ih =>
  intro l f h
  unfold bc at h
  by_cases z:bC q c.ops l=true
  ·rw[Kh z]at h
   obtain⟨o,h1,h2,h3⟩:=d7 z
   obtain⟨k,hk⟩:=ih h
   refine⟨k+1,?_⟩
   refine(?_:(match bR A c (t.to l)with|.go t=>aS A c k t|.fin t e=>.fin t e)=_)
   refine ab (tw hf h1 h2) ?_;refine bT h3 ?_
   exact hk
  ·rw[Kg z]at h
   replace h:=oInj h;subst h
   exact⟨0,rfl⟩
theorem BE{o:Op}{t:Mc}(hf:lL A o.asks t)(l:Nat):∃k,aS A c k (t.to l)=.go (t.to (bz o c.ops l)):=by
 unfold bz
 cases h:bc o.asks c.ops (c.ops.length+1) l with
 |some f=>exact pT hf h
 |none =>
  cases h2:bc none c.ops (c.ops.length+1) l with
  |some f=>exact pT nG h2
  |none=>exact⟨0,rfl⟩
theorem fp(ops:List Op)(l:Nat):gc ops (.jump l)=match ops[l]? with
  |some p=>if p.isStop=true then p else .jump l
  |none=>.jump l:=rfl
theorem fk(ops:List Op)(o:Op):gc ops o=o∨∃l w,o=.jump l∧ops[l]?=some (.one (.stop w))∧gc ops o=.one (.stop w):=by
 cases o with
 |jump l =>
  rw[fp]
  cases e:ops[l]? with
  |none=>exact .inl rfl
  |some p =>
   cases p with
   |one x =>
    cases x with
    |stop w=>exact .inr ⟨l,w,rfl,e,rfl⟩
    |_=>exact .inl rfl
   |_=>exact .inl rfl
 |_=>exact .inl rfl
theorem oD{p:Nat}{o:Op}(h:ops[p]?=some o):(led ops)[p]?=some (bE ops o):=by unfold led;refine ab (Ko) ?_;refine ab h ?_;rfl
theorem led_sim:Sim A ⟨led c.ops,c.bg⟩ c id fun zz=>True:=fun m zz=>by
 have ok:∀r:Re,r.ok fun zz=>True:=fun r=>by cases r<;>exact trivial
 rw[AY]
 cases e:c.ops[m.place]? with
 |none =>
  refine⟨0,?_,ok _⟩
  rewrite[cQ];refine ab (jC e) ?_;refine ab (jC (show(led c.ops)[m.place]?=none by unfold led;rw[Ko,e];rfl)) ?_;rfl
 |some o =>
  have h1:∃k,exec A c.bg (m.place+1) m (o.relabel (bz o c.ops))=aS A c (k+1) m:=by
   rcases vL (A:=A) (bz o c.ops) c.bg (m.place+1) m o with h|⟨t,l,_,h2,h3,h4⟩
   ·exact⟨0,by rewrite[cQ];refine ab (bO e) ?_;refine ab h ?_;rfl⟩
   ·obtain⟨k,hk⟩:=BE (c:=c) h4 l
    refine⟨k,?_⟩
    refine(?_:_=(match bR A c m with|.go t=>aS A c k t|.fin t e=>.fin t e))
    refine ab (bO e) ?_;refine ab h2 ?_;refine ab h3 ?_
    exact hk.symm
  obtain⟨k,hk⟩:=h1
  have h2:∃k,bR A ⟨led c.ops,c.bg⟩ m=aS A c (k+1) m:=by
   refine ab (bO (c:=⟨led c.ops,c.bg⟩) (oD e)) ?_
   refine(?_:∃k,exec A c.bg (m.place+1) m (bE c.ops o)=aS A c (k+1) m)
   unfold bE
   rcases fk c.ops (o.relabel (bz o c.ops))with h|⟨l,w,h2,h3,h4⟩
   ·exact⟨k,by refine ab h ?_;exact hk⟩
   ·rw[h2]at hk
    refine⟨k+1,?_⟩
    refine ab h4 ?_;refine ab (gi (b:=1) hk.symm) ?_;rewrite[cQ];refine ab (bO (show c.ops[(m.to l).place]?=_ from h3)) ?_
    rfl
  obtain⟨k,hk⟩:=h2
  exact⟨k,by rw[Gl];exact hk,ok _⟩
end
end
section
section
variable {A:Ans} {c:Cd}
theorem tW{m:Mc}{i:Int}{P:Fm→Prop}(hP:∀f j,P f→P { f with slot:=j })(h:∀f∈m.up,P f):∀f∈(m.setSlot i).up,P f:=by
 obtain⟨p,s,up,b,k,t⟩:=m
 cases up with
 |nil=>exact h
 |cons g r =>
  intro f hf
  rcases mCo hf with rfl|hf
  ·exact hP _ _ (h g (.head _))
  ·exact h f (.tail _ hf)
theorem uW(m:Mc)(i:Int):(m.setSlot i).place=m.place:=by
 obtain⟨p,s,up,b,k,t⟩:=m
 cases up<;>rfl
theorem gh(m:Mc)(i:Int):(m.setSlot i).tr=m.tr:=by
 obtain⟨p,s,up,b,k,t⟩:=m
 cases up<;>rfl
theorem mf(m:Mc)(i:Int):(m.setSlot i).key=m.key:=by
 obtain⟨p,s,up,b,k,t⟩:=m
 cases up<;>rfl
noncomputable def Up(G:Nat→Prop)(L:Int→Prop)(m:Mc):Prop:=∀f∈m.up,G f.behind∧L f.last
theorem gO(m:Mc)(r:Rk):(aI A m r).2.up=m.up∧(aI A m r).2.tr=m.tr∧(aI A m r).2.key=m.key:=by
 cases r with
 |push o=>exact⟨rfl,rfl,rfl⟩
 |«calc» s =>
  unfold aI
  dsimp only
  split<;>exact⟨rfl,rfl,rfl⟩
theorem iD{G:Nat→Prop}{L:Int→Prop}{bg:List Nat}{nx:Nat}{m:Mc}{o:Op}(hu:Up G L m)(hl:∀l∈o.labels,G l)(hc:∀a b,o=.perform a b→G (bg.getD a 0)∧G nx∧L b) :
  (exec A bg nx m o).ok fun t=>((t.place=nx∧o.goesOn=true)∨G t.place)∧Up G L t:=by
 cases o with
 |rk r l =>
  refine(?_:(aM nx l (aI A m r)).ok _)
  unfold aM
  have h:=(gO (A:=A) m r).1
  cases (aI A m r).1 with
  |some w=>exact⟨.inl ⟨rfl,rfl⟩,fun f hf=>hu f (h▸hf)⟩
  |none =>
   cases l with
   |none=>exact trivial
   |some l=>exact⟨.inr (hl l (.head _)),fun f hf=>hu f (h▸hf)⟩
 |br b l =>
  refine(?_:((_=nx∧_)∨_)∧Up G L (dU A nx m l b))
  have pick:∀{p:Prop} [Decidable p],((if p then l else nx)=nx∧true=true)∨G (if p then l else nx):=fun{p} _=>by
   split
   ·exact .inr (hl l (.head _))
   ·exact .inl ⟨rfl,rfl⟩
  have pick':∀{p:Prop} [Decidable p],((if p then nx else l)=nx∧true=true)∨G (if p then nx else l):=fun{p} _=>by
   split
   ·exact .inl ⟨rfl,rfl⟩
   ·exact .inr (hl l (.head _))
  cases b with
  |put n=>exact⟨pick,hu⟩
  |key k=>exact⟨pick',hu⟩
  |test d=>exact⟨pick',hu⟩
  |less =>
   have e:dU A nx m l .less=if 0<m.slot.getD 0 then (m.setSlot (m.slot.getD 0-1)).to nx else m.to l:=rfl
   refine ab e ?_
   split
   ·exact⟨.inl ⟨rfl,rfl⟩,tW (P:=fun f=>G f.behind∧L f.last) (fun f j h=>h) hu⟩
   ·exact⟨.inr (hl l (.head _)),hu⟩
 |jump l=>exact⟨.inr (hl l (.head _)),hu⟩
 |choose a b =>
  refine⟨?_,hu⟩
  refine(?_:(dJ m.top a b nx=nx∧_)∨G (dJ m.top a b nx))
  unfold dJ
  split
  ·split
   ·exact .inr (hl a (.head _))
   ·exact .inr (hl b (.tail _ (.head _)))
  ·exact .inl ⟨rfl,rfl⟩
 |perform a b =>
  obtain⟨h1,h2,h3⟩:=hc a b rfl
  refine(?_:(if 20<m.up.length+1 then Re.fin m.tr .fault else .go { m with up:=⟨b,nx,none⟩::m.up,place:=bg.getD a 0 }).ok _)
  split
  ·exact trivial
  ·refine⟨.inr h1,fun f hf=>?_⟩
   rcases mCo hf with rfl|hf
   ·exact⟨h2,h3⟩
   ·exact hu f hf
 |one o =>
  cases o with
  |leave p =>
   obtain⟨q,s,up,b,k,t⟩:=m
   refine(?_:((_=nx∧_)∨_)∧Up G L (bK nx _ p))
   cases up with
   |nil=>exact⟨.inl ⟨rfl,rfl⟩,hu⟩
   |cons g r =>
    unfold bK
    dsimp only
    split
    ·exact⟨.inr (hu g (.head _)).1,fun f hf=>hu f (.tail _ hf)⟩
    ·exact⟨.inl ⟨rfl,rfl⟩,hu⟩
  |count=>exact⟨.inl ⟨rfl,rfl⟩,tW (m:=m.pop) (P:=fun f=>G f.behind∧L f.last) (fun f j h=>h) hu⟩
  |stop w=>exact trivial
  |do_ d=>exact⟨.inl ⟨rfl,rfl⟩,hu⟩
theorem Re.ok_mono{I J:Mc→Prop}(h:∀t,I t→J t):∀{r:Re},r.ok I→r.ok J
 |.go t,x=>h t x
 |.fin ..,_=>trivial
theorem Re.ok_and{I J:Mc→Prop}:∀{r:Re},r.ok I→r.ok J→r.ok fun t=>I t∧J t
 |.go t,x,y=>⟨x,y⟩
 |.fin ..,_,_=>trivial
structure WF(c:Cd):Prop where
 lab:∀o∈c.ops,∀l∈o.labels,l<c.ops.length
 bg:∀b∈c.bg,b<c.ops.length
 per:∀a b,.perform a b∈c.ops→a<c.bg.length
 on:∀(p:Nat) (o:Op),c.ops[p]?=some o→o.goesOn=true→p+1<c.ops.length
 pos:0<c.ops.length
 lv:∀q,.one (.leave q)∈c.ops→0≤q
 sw:∀w,.one (.stop w)∈c.ops→w≠85
theorem WF.begin(w:WF c)(a:Nat):c.bg.getD a 0<c.ops.length:=by
 refine ab (List.getD_eq_getElem?_getD) ?_
 cases e:c.bg[a]? with
 |none=>exact w.pos
 |some b=>exact w.bg b (mGe e)
theorem ck{α:Type}{g:Nat→Op→α}{ops:List Op}{p:Nat}{x:α}(h:(ops.mapIdx g)[p]?=some x):∃o,ops[p]?=some o∧g p o=x:=by
 replace h:=(KR)▸h
 exact Kt.mp h
theorem met_true{p:Nat}:dy c p=true↔Met c p:=@decide_eq_true_iff _ (Classical.propDecidable _)
theorem ent_true{p:Nat}:aU c p=true↔Ent c p:=@decide_eq_true_iff _ (Classical.propDecidable _)
theorem w7(w:WF c):Holes A c (iw c) (c.bg.map fun b=>if dy c b=true then b else 0) fun m=>(m.place<c.ops.length→Met c m.place)∧Up (fun p=>p<c.ops.length→Met c p) (fun zz=>True) m where
 len:=Kz
 drop:=fun m hi e=>by
  obtain⟨o,h1,h2⟩:=ck e
  replace h2:=(Kh (met_true.mpr (hi.1 (Kk.mp h1).1)))▸h2
  cases h2
 keep:=fun m o hi e=>by
  obtain⟨o',h1,h2⟩:=ck e
  have hm:=hi.1 (Kk.mp h1).1
  replace h2:=(Kh (met_true.mpr hm))▸h2
  cases h2
  have hb:∀a b,o=.perform a b→(c.bg.map fun b=>if dy c b=true then b else 0).getD a 0=c.bg.getD a 0:=fun a b e=>by
   rw[w8 (φ:=fun b=>if dy c b=true then b else 0) (by split<;>rfl)]
   exact Kh (met_true.mpr (.next hm h1 (KG _ (by refine ab e ?_;exact .head _)) (w.begin a)))
  have hx:exec A (c.bg.map fun b=>if dy c b=true then b else 0) (m.place+1) m o=exec A c.bg (m.place+1) m o:=by
   cases o with
   |perform a b=>show(if _ then _ else Re.go { m with up:=_,place:=_ })=_;refine ab (hb a b rfl) ?_;rfl
   |_=>rfl
  refine⟨0,m.place+1,cU e,by rewrite[cQ];refine ab (bO h1) ?_;refine ab hx ?_;rfl,?_⟩
  refine ab hx ?_
  have hn:o.goesOn=true→m.place+1<c.ops.length→Met c (m.place+1):=fun hg hlt=>.next hm h1 (KA _ (KG _ (by refine ab (Kh hg) ?_;exact .head _))) hlt
  refine Re.ok_mono (fun t ht=>⟨ht.1.elim (fun z=>by refine ab z.1 ?_;exact hn z.2) id,ht.2⟩) (iD hi.2 (fun l hl hlt=>.next hm h1 (KA _ (KA _ hl)) hlt) fun a b e=>⟨fun hlt=>.next hm h1 (KG _ (by refine ab e ?_;exact .head _)) hlt,hn (by refine ab e ?_;rfl),trivial⟩)
theorem start_up{G:Nat→Prop}{L:Int→Prop}:Up G L start:=fun f hf=>nomatch hf
set_option tactic.hygienic true in
theorem vE:Holes A c (idle c.ops) c.bg (Up (fun zz=>True) fun q=>lastIn c.ops q=true) where
 len:=Kz
 drop:=fun m hi e=>by
  obtain⟨o,h1,h2⟩:=ck e
  by_cases z:fG c.ops m.place o=true
  ·have hx:exec A c.bg (m.place+1) m o=.go (m.to (m.place+1)):=by
    cases o with
    |jump l=>exact congrArg (fun x=>Re.go (m.to x)) (Ki (a:=l) z)
    |br b l =>
     cases b with
     |key k =>
      have:l=m.place+1:=Ki z
      subst this
      exact congrArg (fun x=>Re.go (m.to x)) (ite_self _)
     |_=>cases z
    |one o =>
     cases o with
     |leave q =>
      have z:lastIn c.ops q=false:=by simpa [fG] using z
      refine congrArg Re.go ?_
      unfold bK
      split
      ·rename_i f r hf
       refine Kg fun n=>?_
       have:=(hi f (hf▸.head _)).2
       rw[n,z]at this
       cases this
      ·rfl
     |_=>cases z
    |_=>cases z
   exact⟨by refine ab (bO h1) ?_;refine ab hx ?_;rfl,hi⟩
  ·replace h2:=(Kg z)▸h2;cases h2
 keep:=fun m o hi e=>by
  obtain⟨o',h1,h2⟩:=ck e
  split at h2
  ·cases h2
  ·cases h2
   refine⟨0,m.place+1,cU e,by rewrite[cQ];refine ab (bO h1) ?_;rfl,?_⟩
   exact Re.ok_mono (fun t ht=>ht.2) (iD hi (fun l hl=>trivial) fun a b e=>⟨trivial,trivial,List.any_eq_true.mpr ⟨o,mGe h1,by refine ab e ?_;exact beq_iff_eq.mpr rfl⟩⟩)
end
end
section
section
variable {A:Ans} {c:Cd}
structure AsOk(A:Ans)(S:AsSt)(m:Mc):Prop where
 hold:∀c∈S.hold,A.test m.tr.length c=true
 key:∀k,S.key=some k→m.key=k
theorem AsOk.none{m:Mc}:AsOk A ⟨[],Option.none⟩ m:=⟨fun zz h=>(nomatch h),fun zz h=>(nomatch h)⟩
theorem AsOk.in{e:Nat→Bool}{p:Nat}{S:AsSt}{m:Mc}(h:AsOk A S m):AsOk A (eT e p S) m:=by
 unfold eT
 split
 ·exact .none
 ·exact h
noncomputable abbrev dK(c:Cd)(p:Nat):AsSt:=eT (aU c) p (eU (aU c) c.ops p)
theorem nP{p:Nat}(h:Ent c p):dK c p=⟨[],none⟩:=Kh (ent_true.mpr h)
theorem lX{p:Nat}{o:Op}(h:c.ops[p]?=some o):dK c (p+1)=eT (aU c) (p+1) (cq (dK c p) o):=by
 refine(?_:eT _ _ (eU (aU c) c.ops (p+1))=_)
 rewrite[eU];refine ab h ?_;rfl
theorem gU{p:Nat}{x:Option Op}(h:(dC (aU c) c.ops)[p]?=some x):∃o,c.ops[p]?=some o∧dD (dK c p) o=x:=ck h
theorem Ent.lab{i l:Nat}{o:Op}(h:c.ops[i]?=some o)(hl:l∈o.labels):Ent c l:=.inr ⟨i,o,h,.inl hl⟩
theorem Ent.per{i a b:Nat}(h:c.ops[i]?=some (.perform a b)):Ent c (c.bg.getD a 0)∧Ent c (i+1):=⟨.inr ⟨i,_,h,.inr (.head _)⟩,.inr ⟨i,_,h,.inr (.tail _ (.head _))⟩⟩
theorem Dt{m:Mc}{o:Op}{nx:Nat}{S:AsSt}(h:AsOk A S m)(bg:List Nat):(exec A bg nx m o).ok fun t=>AsOk A (cq S o) t∨t.place∈o.labels∨(∃a b,o=.perform a b∧t.place=bg.getD a 0)∨∃f∈m.up,t.place=f.behind:=by
 cases o with
 |rk r l =>
  obtain⟨h1,h2,h3⟩:=gO (A:=A) m r
  refine(?_:(aM nx l (aI A m r)).ok _)
  unfold aM
  cases (aI A m r).1 with
  |some w=>exact .inl ⟨fun c hc=>by have:=h.hold c hc;rw[← h2]at this;exact this,fun k hk=>h3.trans (h.key k hk)⟩
  |none =>
   cases l with
   |none=>exact trivial
   |some l=>exact .inr (.inl (.head _))
 |br b l =>
  cases b with
  |put n=>exact .inl ⟨fun zz h=>(nomatch h),h.key⟩
  |key k =>
   refine(?_:AsOk A _ (m.to _)∨(if m.key=k then nx else l)∈[l]∨_)
   by_cases hk:m.key=k
   ·refine .inl ⟨?_,?_⟩
    ·intro d hd
     refine h.hold d ?_
     unfold cq at hd
     dsimp only at hd
     split at hd<;>exact hd
    ·intro j hj
     unfold cq at hj
     dsimp only at hj
     split at hj
     ·exact h.key j hj
     ·replace hj:=oInj hj;subst hj;exact hk
   ·refine ab (Kg hk) ?_;exact .inr (.inl (.head _))
  |test d =>
   refine(?_:AsOk A _ (m.to _)∨(if A.test m.tr.length d=true then nx else l)∈[l]∨_)
   by_cases hd:A.test m.tr.length d=true
   ·refine .inl ⟨fun x hx=>?_,fun j hj=>?_⟩
    ·unfold cq at hx
     dsimp only at hx
     split at hx
     ·exact h.hold x hx
     ·rcases KD.mp hx with hx|hx
      ·exact h.hold x hx
      ·cases mSng hx;exact hd
    ·unfold cq at hj
     dsimp only at hj
     split at hj<;>exact h.key j hj
   ·refine ab (Kg hd) ?_;exact .inr (.inl (.head _))
  |less =>
   have e:dU A nx m l .less=if 0<m.slot.getD 0 then (m.setSlot (m.slot.getD 0-1)).to nx else m.to l:=rfl
   refine(?_:AsOk A _ (dU A nx m l .less)∨_)
   refine ab e ?_
   split
   ·exact .inl ⟨fun c hc=>by refine(?_:A.test (m.setSlot _).tr.length c=true);rw[gh];exact h.hold c hc,fun k hk=>(mf m _).trans (h.key k hk)⟩
   ·exact .inl ⟨h.hold,h.key⟩
 |jump l=>exact .inl ⟨h.hold,h.key⟩
 |choose a b=>exact .inl ⟨h.hold,h.key⟩
 |perform a b =>
  refine(?_:(if 20<m.up.length+1 then Re.fin m.tr .fault else .go { m with up:=⟨b,nx,none⟩::m.up,place:=bg.getD a 0 }).ok _)
  split
  ·exact trivial
  ·exact .inl ⟨h.hold,h.key⟩
 |one o =>
  cases o with
  |leave p =>
   obtain⟨q,s,up,b,k,t⟩:=m
   cases up with
   |nil=>exact .inl ⟨h.hold,h.key⟩
   |cons g r =>
    refine(?_:AsOk A _ (bK nx _ p)∨_)
    unfold bK
    dsimp only
    split
    ·exact .inl ⟨h.hold,h.key⟩
    ·exact .inl ⟨h.hold,h.key⟩
  |count=>exact .inl ⟨fun c hc=>by refine(?_:A.test (m.pop.setSlot _).tr.length c=true);rw[gh];exact h.hold c hc,fun k hk=>(mf m.pop _).trans (h.key k hk)⟩
  |stop w=>exact trivial
  |do_ d=>exact .inl .none
noncomputable def FS(A:Ans)(c:Cd)(m:Mc):Prop:=AsOk A (dK c m.place) m∧Up (Ent c) (fun zz=>True) m
theorem uF{m:Mc}{o:Op}(hi:FS A c m)(h1:c.ops[m.place]?=some o):(exec A c.bg (m.place+1) m o).ok (FS A c):=by
 have hx:=Re.ok_and (Dt (o:=o) (nx:=m.place+1) hi.1 c.bg) (iD (A:=A) (bg:=c.bg) (nx:=m.place+1) (o:=o) hi.2 (fun l hl=>Ent.lab h1 hl) fun a b e=>by subst e;exact⟨(Ent.per h1).1,(Ent.per h1).2,trivial⟩)
 refine Re.ok_mono (fun t ht=>⟨?_,ht.2.2⟩) hx
 have ent:Ent c t.place→AsOk A (dK c t.place) t:=fun z=>by refine ab (nP z) ?_;exact .none
 rcases ht.2.1 with ⟨z,_⟩|z
 ·rcases ht.1 with y|y|⟨a,b,e,y⟩|⟨f,hf,y⟩
  ·refine ab z ?_;refine ab (lX h1) ?_;exact y.in
  ·exact ent (Ent.lab h1 y)
  ·subst e;exact ent (by refine ab y ?_;exact(Ent.per h1).1)
  ·exact ent (by refine ab y ?_;exact(hi.2 f hf).1)
 ·exact ent z
set_option tactic.hygienic true in
theorem tE:Holes A c (dC (aU c) c.ops) c.bg (FS A c) where
 len:=Kz
 drop:=fun m hi e=>by
  obtain⟨o,h1,h2⟩:=gU e
  have hk:=uF hi h1
  have hx:exec A c.bg (m.place+1) m o=.go (m.to (m.place+1)):=by
   cases o with
   |br b l =>
    cases b with
    |test d =>
     unfold dD at h2
     dsimp only at h2
     split at h2
     ·rename_i z;exact congrArg (fun x=>Re.go (m.to x)) (Kh (hi.1.hold d z))
     ·injection h2
    |key k =>
     unfold dD at h2
     dsimp only at h2
     split at h2
     ·rename_i j z
      split at h2
      ·rename_i y;exact congrArg (fun x=>Re.go (m.to x)) (Kh ((hi.1.key j z).trans y))
      ·injection h2
     ·injection h2
    |_=>injection h2
   |_=>injection h2
  rw[hx]at hk
  exact⟨by refine ab (bO h1) ?_;refine ab hx ?_;rfl,hk⟩
 keep:=fun m o hi e=>by
  obtain⟨o',h1,h2⟩:=gU e
  have hk:=uF hi h1
  have hx:exec A c.bg (m.place+1) m o'=exec A c.bg (m.place+1) m o:=by
   cases o' with
   |br b l =>
    cases b with
    |test d =>
     unfold dD at h2
     dsimp only at h2
     split at h2
     ·injection h2
     ·replace h2:=oInj h2;subst h2;rfl
    |key k =>
     unfold dD at h2
     dsimp only at h2
     split at h2
     ·rename_i j z
      split at h2
      ·injection h2
      ·rename_i y;replace h2:=oInj h2;subst h2;exact congrArg (fun x=>Re.go (m.to x)) (Kg fun q=>y ((hi.1.key j z).symm.trans q))
     ·replace h2:=oInj h2;subst h2;rfl
    |_=>replace h2:=oInj h2;subst h2;rfl
   |_=>replace h2:=oInj h2;subst h2;rfl
  rw[hx]at hk
  exact⟨0,m.place+1,cU e,by rewrite[cQ];refine ab (bO h1) ?_;refine ab hx ?_;rfl,hk⟩
end
end
section
noncomputable def okL(t:Nat)(w:aJ):Prop:=w.1.natAbs<10^(130+61*t)∧0≤w.2∧w.2≤30
theorem hZ{a b:Nat}(h:a≤b):10^a≤10^b:=Nat.pow_le_pow_right (by decide) h
theorem okL.mono{a b:Nat}(h:a≤b){w:aJ}(x:okL a w):okL b w:=⟨Kw x.1 (hZ (cS (KQ 61 h) 130)),x.2⟩
theorem okL.small{t:Nat}{r:aJ}(h:r.1.natAbs<10^120∧0≤r.2∧r.2≤30):okL t r:=⟨Kw h.1 (hZ (am (show 120≤130 by decide) (KB 130 _))),h.2⟩
theorem okL.okN{t:Nat}(ht:t≤2){w:aJ}(x:okL t w):okN w:=⟨Kw x.1 (hZ (am (cS (KQ 61 ht) 130) (by decide))),x.2⟩
theorem C9(t b:Int):(oO t b).natAbs≤t.natAbs:=by
 have:((t.natAbs:Int).fdiv b.natAbs).natAbs≤t.natAbs:=by
  rw[Int.fdiv_eq_ediv_of_nonneg _ (KL _),← Int.natCast_ediv,Int.natAbs_natCast]
  exact Nat.div_le_self _ _
 unfold oO
 split
 ·rw[Int.natAbs_neg];exact this
 ·exact this
theorem yC{t:Nat}{u:Int}{k n:Nat}(h:u.natAbs<10^n)(hk:n+k≤t):(u*10^k).natAbs<10^t:=by
 rw[Int.natAbs_mul,Int.natAbs_pow]
 refine Kw (Nat.mul_lt_mul_of_pos_right h (Nat.pow_pos (by decide))) ?_
 refine(?_:10^n*10^k≤_)
 rw[← Nat.pow_add]
 exact hZ hk
theorem wo{a b:Int}{n:Nat}(x:a.natAbs<10^n)(y:b.natAbs<10^n):(a+b).natAbs<10^(n+1) :=
 bD (Int.natAbs_add_le a b) (Kw (Nat.add_lt_add x y) (Nat.mul_two (10^n)▸KQ (10^n) (show 2≤10 by decide)))
theorem E5{a b:aJ}(ha:0≤a.2∧a.2≤30)(hb:0≤b.2∧b.2≤30):0≤dH a.2 b.2∧dH a.2 b.2≤30:=by
 rcases(nz a.2 b.2).2.2 with e|e<;>rw[e]<;>assumption
theorem mD{n:Nat}{u s:Int}(h:u.natAbs<10^n)(hs:0≤s∧s≤30):(ed u s.toNat).1.natAbs<10^n∧0≤(ed u s.toNat).2∧(ed u s.toNat).2≤30:=by
 have x:=oM s.toNat u
 exact⟨bD x.1 h,x.2.1,cz x.2.2 (Int.ofNat_le.mpr (Int.toNat_le.mpr hs.2))⟩
theorem rg{n:Nat}{a b w:aJ}(ha:a.1.natAbs<10^n)(hb:0≤b.2∧b.2≤30)(e:mo a b=some w):w.1.natAbs<10^(n+60)∧0≤w.2∧w.2≤30:=by
 unfold mo at e
 split at e
 ·injection e
 ·replace e:=oInj e;subst e
  exact mD (s:=30) (bD (C9 _ _) (yC ha (cS (Int.toNat_le.mpr (Int.add_le_add_left hb.2 30)) n))) (by decide)
theorem rn{a w:aJ}:∀{k:Nat} {f:aJ},f.1.natAbs<10^120∧0≤f.2∧f.2≤30→mq a k f=some w→w.1.natAbs<10^120∧0≤w.2∧w.2≤30
 |0,f,h,e=>by replace e:=oInj e;subst e;exact h
 |k+1,f,h,e=>by
  obtain⟨g,h1,h2⟩:=KV.mp e
  exact rn (oE h1) h2
theorem yB{m k:Nat}(h:k≤61):130+61*m+k≤130+61*(m+1):=by
 rw[Nat.mul_succ,← Lf];exact cS h _
theorem sU{s m:Nat}{a b w:aJ}(ha:okL m a)(hb:okL m b)(e:cO s a b=some w):okL (m+1) w:=by
 have sc:=E5 ha.2 hb.2
 have l1:(kE a (dH a.2 b.2)).natAbs<10^(130+61*m+30):=yC ha.1 (cS (Int.toNat_le.mpr (cz (Int.sub_le_self _ ha.2.1) sc.2)) _)
 have l2:(kE b (dH a.2 b.2)).natAbs<10^(130+61*m+30):=yC hb.1 (cS (Int.toNat_le.mpr (cz (Int.sub_le_self _ hb.2.1) sc.2)) _)
 have up:∀{n:Nat} {w:aJ},n≤130+61*(m+1)→w.1.natAbs<10^n∧0≤w.2∧w.2≤30→okL (m+1) w:=fun hn x=>⟨Kw x.1 (hZ hn),x.2⟩
 unfold cO at e
 split at e
 ·replace e:=oInj e;subst e;exact up (yB (k:=31) (by decide)) (mD (wo l1 l2) sc)
 split at e
 ·replace e:=oInj e;subst e
  refine up (yB (k:=31) (by decide)) (mD (Int.sub_eq_add_neg▸wo l1 ?_) sc)
  rw[Int.natAbs_neg];exact l2
 split at e
 ·exact okL.small (oE e)
 split at e
 ·exact up (yB (k:=60) (by decide)) (rg ha.1 hb.2 e)
 ·unfold mU at e
  split at e
  ·injection e
  obtain⟨f,h1,h2⟩:=KV.mp e
  have hf:=rn (f:=(1,0)) ⟨Nat.one_lt_pow (by decide) (by decide),by decide,by decide⟩ h1
  split at h2
  ·exact up (n:=1+60) (am (show 1+60≤130 by decide) (KB 130 _)) (rg (n:=1) (a:=(1,0)) (by decide) hf.2 h2)
  ·replace h2:=oInj h2;subst h2;exact okL.small hf
noncomputable def Rk.Ty:Rk→List Nat→List Nat→Prop
 |.push o,s,s'=>match o with
  |.num u v=>∃t,t≤2∧okL t (u,v)∧s'=t::s
  |.ref _=>s'=0::s
 |.calc g,s,s'=>if (g==98)=true then ∃t r,s=t::r∧s'=s else ∃a b t r,s=b::a::r∧s'=t::r∧a<t∧b<t∧t≤2
noncomputable def Op.takes:Op→Bool
 |.br (.put _) _=>true
 |.choose _ _=>true
 |.one .count=>true
 |_=>false
noncomputable def Op.Ty:Op→List Nat→List Nat→Prop
 |.rk r _,s,s'=>r.Ty s s'
 |o,s,s'=>(if o.takes=true then ∃t,s=[t]else s=[])∧(o.goesOn=true→s'=[])
theorem jA{o:Op}{f:Nat→Nat}{s s':List Nat}(h:o.Ty s s'):(o.relabel f).Ty s s':=by
 cases o with
 |br b l=>cases b<;>exact h
 |_=>exact h
structure Typed(c:Cd)(h:Nat→List Nat):Prop where
 zero:h 0=[]
 op:∀(p:Nat) (o:Op),c.ops[p]?=some o→o.Ty (h p) (h (p+1))
 ent:∀p,Ent c p→h p=[]
 bg:∀b∈c.bg,h b=[]
end
section
section
variable {A:Ans} {c:Cd} {h:Nat→List Nat}
noncomputable def FP(f:aA)(a b:Nat):Prop:=∀j,a<j→j<b→f[j]?=some none
noncomputable def mH(A:Ans)(c:Cd)(a nx:Nat)(w:aJ):Prop:=∀m:Mc,m.place=a→∃k,aS A c (k+1) m=.go ((m.push w).to nx)
structure Seg(c:Cd)(h:Nat→List Nat)(a nx:Nat)(w:aJ):Prop where
 le:nx<c.ops.length
 run:∀A,mH A c a nx w
 ty:∃t,t≤2∧okL t w∧h nx=t::h a
theorem Seg.ne{a nx:Nat}{w:aJ}(x:Seg c h a nx w):h nx≠[]:=fun z=>by
 obtain⟨t,_,_,e⟩:=x.ty
 rw[e]at z;injection z
noncomputable def Line(c:Cd)(h:Nat→List Nat)(f:aA):Nat→List Nat→Prop
 |_,[]=>True
 |p,b::r=>b<p∧FP f b p∧(∃w,f[b]?=some (some (dp w))∧Seg c h b p w)∧Line c h f b r
theorem Line.congr{f g:aA}:∀{p:Nat} {l:List Nat},(∀j,j<p→g[j]?=f[j]?)→Line c h f p l→Line c h g p l
 |_,[],_,_=>trivial
 |p,b::r,e,⟨h1,h2,⟨w,h3,h4⟩,h6⟩=>⟨h1,fun j a d=>(e j d).trans (h2 j a d),⟨w,(e b h1).trans h3,h4⟩,Line.congr (fun j d=>e j (Nat.lt_trans d h1)) h6⟩
structure FoI(c:Cd)(h:Nat→List Nat)(p:Nat)(S:FoSt):Prop where
 len:S.f.length=c.ops.length
 rest:∀q,p≤q→S.f[q]?=(c.ops[q]?).map fun o=>some (ef o)
 hole:∀q,q<p→S.f[q]?=some none→h q≠[]
 kept:∀(q:Nat) (o:Op),q<p→S.f[q]?=some (some o)→∃nx,q<nx∧nx≤p∧FP S.f q nx∧(nx<p→S.f[nx]?≠some none)∧((nx=q+1∧∃o0,c.ops[q]?=some o0∧o=ef o0)∨∃w,o=dp w∧Seg c h q nx w∧q+1<nx)
 line:Line c h S.f p S.line
theorem FoI.zero:FoI c h 0 ⟨c.ops.map fun o=>some (ef o),[]⟩ where
 len:=Kf _
 rest:=fun q zz=>Ko
 hole:=fun q hq=>absurd hq (Nat.not_lt_zero q)
 kept:=fun q zz hq=>absurd hq (Nat.not_lt_zero q)
 line:=trivial
theorem FoI.next{p:Nat}{S:FoSt}{o:Op}(x:FoI c h p S)(ho:c.ops[p]?=some o){l:List Nat}(hl:Line c h S.f (p+1) l):FoI c h (p+1) ⟨S.f,l⟩ where
 len:=x.len
 rest:=fun q hq=>x.rest q (Nat.le_of_succ_le hq)
 hole:=fun q hq e=>by
  rcases Nat.lt_succ_iff_lt_or_eq.mp hq with hq|rfl
  ·exact x.hole q hq e
  ·have e:S.f[q]?=_:=e
   rw[x.rest q (aR q),ho]at e;cases e
 kept:=fun q o' hq e=>by
  rcases Nat.lt_succ_iff_lt_or_eq.mp hq with hq|rfl
  ·obtain⟨nx,h1,h2,h3,h4,h5⟩:=x.kept q o' hq e
   refine⟨nx,h1,KO h2,h3,fun z=>?_,h5⟩
   rcases Nat.lt_succ_iff_lt_or_eq.mp z with z|rfl
   ·exact h4 z
   ·refine(?_:S.f[nx]?≠_)
    refine ab (x.rest nx (aR nx)) ?_;refine ab ho ?_;exact fun y=>by cases y
  ·have e:S.f[q]?=_:=e
   rw[x.rest q (aR q),ho]at e
   cases e
   exact⟨q+1,La q,aR _,fun j a b=>absurd a (LA.mpr (Nat.le_of_lt_succ b)),fun z=>absurd z (Le _),.inl ⟨rfl,o,ho,rfl⟩⟩
 line:=hl
theorem FoI.fold{p a:Nat}{S:FoSt}{w0 w:aJ}{r:List Nat}{f:aA}(x:FoI c h p S)(ha:a<p)(h0:S.f[a]?=some (some (dp w0)))(hl:Line c h S.f a r)
  (hn:∀j,a<j→j≤p→h j≠[]) (sg:Seg c h a (p+1) w) (len:f.length=S.f.length) (fa:f[a]?=some (some (dp w))) (fm:∀j,a<j→j≤p→f[j]?=some none) (fo:∀j,j<a∨p<j→f[j]?=S.f[j]?):FoI c h (p+1) ⟨f,a::r⟩ where
 len:=len.trans x.len
 rest:=fun q hq=>(fo q (.inr hq)).trans (x.rest q (Nat.le_of_succ_le hq))
 hole:=fun q hq e=>by
  have e:f[q]?=_:=e
  rcases Nat.lt_trichotomy q a with z|rfl|z
  ·rw[fo q (.inl z)]at e
   exact x.hole q (Nat.lt_trans z ha) e
  ·rw[fa]at e;cases e
  ·exact hn q z (Nat.le_of_lt_succ hq)
 kept:=fun q o' hq e=>by
  have e:f[q]?=_:=e
  rcases Nat.lt_trichotomy q a with z|rfl|z
  ·rw[fo q (.inl z)]at e
   obtain⟨nx,h1,h2,h3,h4,h5⟩:=x.kept q o' (Nat.lt_trans z ha) e
   have hx:nx≤a:=Nat.le_of_not_lt fun y=>by have:=h3 a z y;rw[h0]at this;cases this
   refine⟨nx,h1,KO h2,fun j u v=>(fo j (.inl (Kw v hx))).trans (h3 j u v),fun zz=>?_,h5⟩
   refine(?_:f[nx]?≠_)
   rcases Nat.lt_or_eq_of_le hx with y|rfl
   ·refine ab (fo nx (.inl y)) ?_;exact h4 (Nat.lt_trans y ha)
   ·refine ab fa ?_;exact fun y=>by cases y
  ·rw[fa]at e
   cases e
   exact⟨p+1,hq,aR _,fun j u v=>fm j u (Nat.le_of_lt_succ v),fun z=>absurd z (Le _),.inr ⟨w,rfl,sg,Nat.succ_lt_succ ha⟩⟩
  ·rw[fm q z (Nat.le_of_lt_succ hq)]at e;cases e
 line:=⟨Nat.lt_succ_of_lt ha,fun j u v=>fm j u (Nat.le_of_lt_succ v),⟨w,fa,sg⟩,hl.congr fun j d=>fo j (.inl d)⟩
theorem gq{f:aA}{p:Nat}{w:aJ}(e:f[p]?=some (some (dp w))):cj f p=w:=by unfold cj;refine ab e ?_;rfl
theorem wL{p:Nat}{w:aJ}{l:Option Nat}(e:c.ops[p]?=some (.rk (.push (.num w.1 w.2)) l)):mH A c p (p+1) w:=fun m hm=>⟨0,by rewrite[cQ];refine ab (bO (hm▸e)) ?_;refine ab hm ?_;rfl⟩
theorem ww{a p:Nat}{w w':aJ}{o:Op}(x:mH A c a p w)(e:c.ops[p]?=some o)(he:∀m:Mc,exec A c.bg (p+1) ((m.push w).to p) o=.go ((m.push w').to (p+1))):mH A c a (p+1) w':=fun m hm=>by
 obtain⟨k,hk⟩:=x m hm
 refine⟨k+1,?_⟩
 refine ab (gi (b:=1) hk) ?_;rewrite[cQ];refine ab (bO (m:=(m.push w).to p) e) ?_
 exact he m
theorem yQ{a b p:Nat}{v w w':aJ}{o:Op}(x:mH A c a b v)(y:mH A c b p w)(e:c.ops[p]?=some o)(he:∀m:Mc,exec A c.bg (p+1) (((m.push v).push w).to p) o=.go ((m.push w').to (p+1))):mH A c a (p+1) w':=fun m hm=>by
 obtain⟨k,hk⟩:=x m hm
 obtain⟨j,hj⟩:=y ((m.push v).to b) rfl
 refine⟨k+1+j+1,?_⟩
 refine ab (show k+1+j+1+1=(k+1)+((j+1)+1)from rfl) ?_;refine ab (gi hk) ?_;refine ab (gi (b:=1) hj) ?_;rw[cQ]
 exact(bO (m:=((m.push v).push w).to p) e).trans (he m)
theorem rA{a b p j:Nat}(h:a<b)(k:b≤p)(u:j<a∨p<j):b≠j:=u.elim (fun x=>Ld (Nat.lt_trans x h)) fun x=>Lb (bD k x)
theorem t9{a p j:Nat}(h:a<p)(u:j<a∨p<j):a≠j:=u.elim Ld fun x=>Lb (Nat.lt_trans h x)
set_option tactic.hygienic true in
theorem xK{p:Nat}{S:FoSt}{o:Op}(W:WF c)(T:Typed c h)(x:FoI c h p S)(ho:c.ops[p]?=some o):FoI c h (p+1) (eK p S o):=by
 have ty:=T.op p o ho
 have on:o.goesOn=true→p+1<c.ops.length:=W.on p o ho
 have lt:p<S.f.length:=x.len▸(Kk.mp ho).1
 cases o with
 |rk r l =>
  cases r with
  |push q =>
   cases q with
   |ref i=>exact x.next ho trivial
   |num u v=>exact x.next ho ⟨La p,fun j a b=>absurd a (LA.mpr (Nat.le_of_lt_succ b)),⟨(u,v),by refine ab (x.rest p (aR p)) ?_;refine ab ho ?_;rfl,on rfl,fun A=>wL ho,ty⟩,x.line⟩
  |«calc» s =>
   refine(?_:FoI c h (p+1) (dZ s p S))
   unfold dZ
   have ty:if (s==98)=true then ∃t r,h p=t::r∧h (p+1)=h p else ∃a b t r,h p=b::a::r∧h (p+1)=t::r∧a<t∧b<t∧t≤2:=ty
   split
   ·rename_i a r hs hl
    have ln:=hl▸x.line
    obtain⟨h1,h2,⟨w,h3,h4⟩,h6⟩:=ln
    refine ab (gq h3) ?_
    have sg:Seg c h a (p+1) (dj w):=by
     rw[Kh hs]at ty
     obtain⟨t,ht,hk,ht'⟩:=h4.ty
     obtain⟨_,_,_,hn⟩:=ty
     exact⟨on rfl,fun A=>ww (h4.run A) ho fun m=>by refine(?_:aM _ _ (if (s==98)=true then _ else _)=_);refine ab (Kh hs) ?_;rfl,t,ht,⟨by refine(?_:(-w.1).natAbs<_);rw[Int.natAbs_neg];exact hk.1,hk.2⟩,hn.trans ht'⟩
    refine x.fold h1 h3 h6 (fun j u v=>?_) sg ?_ ?_ ?_ ?_
    ·rcases Nat.lt_or_eq_of_le v with v|rfl
     ·exact x.hole j v (h2 j u v)
     ·exact h4.ne
    ·refine(?_:((S.f.set a _).set p none).length=_)
     refine ab KJ ?_;refine ab KJ ?_;rfl
    ·refine(?_:((S.f.set a _).set p none)[a]?=_)
     refine ab (Kv (Ld h1)) ?_;refine ab (List.getElem?_set_self (Nat.lt_trans h1 lt)) ?_;rfl
    ·intro j u v
     refine(?_:((S.f.set a _).set p none)[j]?=_)
     rcases Nat.lt_or_eq_of_le v with v|rfl
     ·refine ab (Kv (Ld v)) ?_;refine ab (Kv (Lb u)) ?_;exact h2 j u v
     ·refine ab (List.getElem?_set_self (by rw[KJ];exact lt)) ?_;rfl
    ·intro j u
     refine(?_:((S.f.set a _).set p none)[j]?=_)
     refine ab (Kv (rA h1 (aR p) u)) ?_;refine ab (Kv (t9 h1 u)) ?_;rfl
   ·rename_i b a r hs hl
    have ln:=hl▸x.line
    obtain⟨h1,h2,⟨w,h3,h4⟩,g1,g2,⟨v,g3,g4⟩,g6⟩:=ln
    refine ab (gq h3) ?_;refine ab (gq g3) ?_
    cases hc:cO s v w with
    |none=>exact x.next ho trivial
    |some w' =>
     have sg:Seg c h a (p+1) w':=by
      rw[Kg (ch hs)]at ty
      obtain⟨t1,y1,y2,y3⟩:=g4.ty
      obtain⟨t2,z1,z2,z3⟩:=h4.ty
      obtain⟨ta,tb,t,st,e1,e2,e3,e4,e5⟩:=ty
      rw[e1,y3]at z3
      injection z3 with z3 z4
      injection z4 with z4 z5
      subst z3 z4 z5
      obtain⟨t,rfl⟩:∃k,t=k+1:=⟨t-1,(Nat.succ_pred_eq_of_pos (bD (Kx _) e3)).symm⟩
      exact⟨on rfl,fun A=>yQ (g4.run A) (h4.run A) ho fun m=>by refine(?_:aM _ _ (if (s==98)=true then _ else _)=_);refine ab (Kg (ch hs)) ?_;refine(?_:aM _ _ (cO s v w,m)=_);refine ab hc ?_;rfl,t+1,e5,sU (y2.mono (Nat.le_of_lt_succ e3)) (z2.mono (Nat.le_of_lt_succ e4)) hc,e2⟩
     have hab:a<p:=Nat.lt_trans g1 h1
     refine x.fold hab g3 g6 (fun j u v=>?_) sg ?_ ?_ ?_ ?_
     ·rcases Nat.lt_or_eq_of_le v with v|rfl
      ·rcases Nat.lt_trichotomy j b with z|rfl|z
       ·exact x.hole j v (g2 j u z)
       ·exact g4.ne
       ·exact x.hole j v (h2 j z v)
      ·exact h4.ne
     ·refine(?_:(((S.f.set a _).set b none).set p none).length=_)
      refine ab KJ ?_;refine ab KJ ?_;refine ab KJ ?_;rfl
     ·refine(?_:(((S.f.set a _).set b none).set p none)[a]?=_)
      refine ab (Kv (Ld hab)) ?_;refine ab (Kv (Ld g1)) ?_;refine ab (List.getElem?_set_self (Nat.lt_trans hab lt)) ?_;rfl
     ·intro j u v
      refine(?_:(((S.f.set a _).set b none).set p none)[j]?=_)
      rcases Nat.lt_or_eq_of_le v with v|rfl
      ·refine ab (Kv (Ld v)) ?_
       rcases Nat.lt_trichotomy j b with z|rfl|z
       ·refine ab (Kv (Ld z)) ?_;refine ab (Kv (Lb u)) ?_;exact g2 j u z
       ·refine ab (List.getElem?_set_self (by rw[KJ];exact Nat.lt_trans v lt)) ?_;rfl
       ·refine ab (Kv (Lb z)) ?_;refine ab (Kv (Lb u)) ?_;exact h2 j z v
      ·refine ab (List.getElem?_set_self (by rw[KJ,KJ];exact lt)) ?_;rfl
     ·intro j u
      refine(?_:(((S.f.set a _).set b none).set p none)[j]?=_)
      refine ab (Kv (rA hab (aR p) u)) ?_;refine ab (Kv (rA g1 (KN h1) u)) ?_;refine ab (Kv (t9 hab u)) ?_;rfl
   ·exact x.next ho trivial
 |br b l=>exact x.next ho trivial
 |jump l=>exact x.next ho trivial
 |choose a b=>exact x.next ho trivial
 |perform a b=>exact x.next ho trivial
 |one o=>exact x.next ho trivial
theorem fO(W:WF c)(T:Typed c h):∀p,p≤c.ops.length→FoI c h p (cn (aU c) c.ops p)
 |0,_=>FoI.zero
 |p+1,hp=>by
  have x:=fO W T p (Nat.le_of_succ_le hp)
  have ho:c.ops[p]?=some c.ops[p]:=Kj hp
  rewrite[cn];refine ab ho ?_
  refine(?_:FoI c h (p+1) (eK p (if aU c p=true then _ else _) _))
  split
  ·exact xK W T ⟨x.len,x.rest,x.hole,x.kept,trivial⟩ ho
  ·exact xK W T x ho
theorem li{f:aA}{q:Nat}{o:Op}(e:f[q]?=some (some o)):∀{nx:Nat},q<nx→FP f q nx→aq f nx=aq f q+1
 |nx+1,h1,g=>by
  rcases Nat.lt_succ_iff_lt_or_eq.mp h1 with z|rfl
  ·refine ab (j7 (g nx z (La nx))) ?_
   exact li e z fun j a b=>g j a (Nat.lt_succ_of_lt b)
  ·exact cU e
theorem pQ(bg:List Nat)(nx:Nat)(m:Mc)(o:Op):exec A bg nx m (ef o)=exec A bg nx m o:=by
 cases o with
 |rk r l =>
  cases r with
  |push q=>cases q<;>rfl
  |«calc» s=>rfl
 |_=>rfl
noncomputable def Jm(c:Cd)(m:Mc):Prop:=(cI (aU c) c.ops)[m.place]?≠some none∧Up (Ent c) (fun zz=>True) m
theorem vG(W:WF c)(T:Typed c h):Holes A c (cI (aU c) c.ops) c.bg (Jm c) where
 len:=(fO W T _ (aR _)).len
 drop:=fun m hi e=>absurd e hi.1
 keep:=fun m o hi e=>by
  have x:=fO W T _ (aR _)
  have hlt:m.place<c.ops.length:=x.len▸(Kk.mp e).1
  obtain⟨nx,h1,h2,h3,h4,h5⟩:=x.kept m.place o hlt e
  have ok:(cI (aU c) c.ops)[nx]?≠some none:=by
   rcases Nat.lt_or_eq_of_le h2 with z|rfl
   ·exact h4 z
   ·refine(?_:(cn (aU c) c.ops c.ops.length).f[c.ops.length]?≠_)
    refine ab (x.rest _ (aR _)) ?_;refine ab (Lz (aR _)) ?_;exact fun y=>by injection y
  have oke:∀p,Ent c p→(cI (aU c) c.ops)[p]?≠some none:=fun p hp y=>x.hole p (by refine bT x.len ?_;exact(Kk.mp y).1) y (T.ent p hp)
  rcases h5 with ⟨rfl,o0,g1,rfl⟩|⟨w,rfl,sg,_⟩
  ·refine⟨0,m.place+1,cU e,by rewrite[cQ];refine ab (bO g1) ?_;rw[pQ],?_⟩
   rw[pQ]
   exact Re.ok_mono (fun t ht=>⟨ht.1.elim (fun z=>by refine ab z.1 ?_;exact ok) (oke _),ht.2⟩) (iD (A:=A) (bg:=c.bg) (nx:=m.place+1) (o:=o0) hi.2 (fun l hl=>Ent.lab g1 hl) fun a b e=>by subst e;exact⟨(Ent.per g1).1,(Ent.per g1).2,trivial⟩)
  ·obtain⟨k,hk⟩:=sg.run A m rfl
   exact⟨k,nx,li e h1 h3,hk,ok,hi.2⟩
end
end
section
section
variable {c:Cd} {h:Nat→List Nat} {f:aA}
noncomputable def iI(f:aA)(p:Nat):Prop:=∃o,f[p]?=some (some o)
noncomputable def Lands(h:Nat→List Nat)(f:aA)(l:Nat)(s:List Nat):Prop:=∃q,iI f q∧aq f q=aq f l∧h q=s
theorem wa{f:aA}:∀{p q:Nat},p≤q→aq f p≤aq f q:=fun{p q} e=>List.Sublist.countP_le (List.take_sublist_take_left e)
theorem sZ{p q:Nat}(k:iI f p)(e:p<q):aq f p<aq f q:=by
 obtain⟨o,k⟩:=k
 exact Kw (Nat.lt_of_lt_of_eq (La _) (cU k).symm) (wa e)
theorem yf{p q:Nat}(k:iI f p)(j:iI f q)(e:aq f p=aq f q):p=q:=by
 rcases Nat.lt_trichotomy p q with z|z|z
 ·exact absurd e (Lb (sZ k z))
 ·exact z
 ·exact absurd e (Ld (sZ j z))
theorem lh{p:Nat}(k:iI f p):aq f p<(bG f).length:=by
 obtain⟨o,k⟩:=k
 exact(Kk.mp (pA k)).1
theorem Fe{g:Op→Op}:∀{f:aA} {q:Nat} {o:Op},(f.filterMap fun o=>o.map g)[q]?=some o→∃p x,f[p]?=some (some x)∧aq f p=q∧o=g x:=by
 intro f
 induction f with
 |nil=>intro q o e;injection e
 |cons y f ih =>
  intro q o e
  cases y with
  |none =>
   obtain⟨p,x,h1,h2,h3⟩:=ih e
   exact⟨p+1,x,h1,by refine(?_:List.countP _ (none::f.take p)=q);refine ab (List.countP_cons_of_neg (by exact fun z=>by injection z)) ?_;exact h2,h3⟩
  |some y =>
   cases q with
   |zero =>
    replace e:=oInj e;subst e;exact⟨0,y,rfl,rfl,rfl⟩
   |succ q =>
    obtain⟨p,x,h1,h2,h3⟩:=ih (show(f.filterMap fun o=>o.map g)[q]?=some o from e)
    exact⟨p+1,x,h1,by refine(?_:List.countP _ (some y::f.take p)=q+1);refine ab (List.countP_cons_of_pos rfl) ?_;exact congrArg (·+1) h2,h3⟩
theorem eY{q:Nat}{o:Op}(e:(bG f)[q]?=some o):∃p x,f[p]?=some (some x)∧aq f p=q∧o=x.relabel (aq f):=Fe e
noncomputable def kj(h:Nat→List Nat)(f:aA)(q:Nat):List Nat:=@dite _ (∃p,iI f p∧aq f p=q) (Classical.propDecidable _) (fun z=>h z.choose) fun zz=>[]
theorem ly{p:Nat}(k:iI f p):kj h f (aq f p)=h p:=by
 have z:∃q,iI f q∧aq f q=aq f p:=⟨p,k,rfl⟩
 unfold kj
 refine ab (dif_pos z) ?_;refine ab (yf z.choose_spec.1 k z.choose_spec.2) ?_;rfl
theorem Lands.at{l:Nat}{s:List Nat}(x:Lands h f l s):aq f l<(bG f).length∧kj h f (aq f l)=s:=by
 obtain⟨q,k,e,r⟩:=x
 refine bT e ?_
 exact⟨lh k,(ly k).trans r⟩
structure HolesT(h:Nat→List Nat)(f:aA)(bg:List Nat):Prop where
 lab:∀(p:Nat) (o:Op),f[p]?=some (some o)→∀l∈o.labels,Lands h f l []
 bgs:∀b∈bg,Lands h f b []
 on:∀(p:Nat) (o:Op),f[p]?=some (some o)→o.goesOn=true→∃q,iI f q∧aq f q=aq f p+1∧o.Ty (h p) (h q)
 off:∀(p:Nat) (o:Op),f[p]?=some (some o)→o.goesOn=false→h p=[]
 per:∀(p a b:Nat),f[p]?=some (some (.perform a b))→a<bg.length
 lv:∀(p:Nat) (q:Int),f[p]?=some (some (.one (.leave q)))→0≤q
 sw:∀(p w:Nat),f[p]?=some (some (.one (.stop w)))→w≠85
 zero:Lands h f 0 []
theorem g8(g:Nat→Nat)(o:Op):(o.relabel g).goesOn=o.goesOn:=by cases o<;>rfl
theorem km{o:Op}{s s':List Nat}(h:o.goesOn=false):o.Ty s s'↔s=[]:=by
 cases o with
 |jump l=>exact⟨fun x=>x.1,fun x=>⟨x,fun y=>by injection y⟩⟩
 |one o =>
  cases o with
  |stop w=>exact⟨fun x=>x.1,fun x=>⟨x,fun y=>by injection y⟩⟩
  |_=>injection h
 |_=>injection h
theorem rm{bg:List Nat}(x:HolesT h f bg):WF ⟨bG f,bg.map (aq f)⟩∧Typed ⟨bG f,bg.map (aq f)⟩ (kj h f):=by
 have lab:∀{q:Nat} {o:Op},(bG f)[q]?=some o→∀l∈o.labels,l<(bG f).length∧kj h f l=[]:=fun{q o} e l hl=>by
  obtain⟨p,y,h1,h2,rfl⟩:=eY e
  rw[dF]at hl
  obtain⟨j,hj,rfl⟩:=K0.mp hl
  exact(x.lab p y h1 j hj).at
 have per:∀{q a b:Nat},(bG f)[q]?=some (.perform a b)→a<bg.length:=fun{q a b} e=>by
  obtain⟨p,y,h1,h2,h3⟩:=eY e
  cases y with
  |perform a' b'=>injection h3 with zi zj;subst zi zj;exact x.per p _ _ h1
  |_=>injection h3
 have on:∀{q:Nat} {o:Op},(bG f)[q]?=some o→o.goesOn=true→q+1<(bG f).length∧o.Ty (kj h f q) (kj h f (q+1)):=fun{q o} e hg=>by
  obtain⟨p,y,h1,rfl,rfl⟩:=eY e
  rw[g8]at hg
  obtain⟨j,k,h2,h3⟩:=x.on p y h1 hg
  refine ab (ly ⟨y,h1⟩) ?_;refine bT h2 ?_;refine ab (ly k) ?_
  exact⟨lh k,jA h3⟩
 have bgl:∀b∈bg.map (aq f),b<(bG f).length∧kj h f b=[]:=fun b hb=>by
  obtain⟨j,hj,rfl⟩:=K0.mp hb
  exact(x.bgs j hj).at
 refine⟨⟨fun o ho l hl=>?_,fun b hb=>(bgl b hb).1,fun a b ho=>?_,fun p o e hg=>(on e hg).1,bD (Kx _) x.zero.at.1,fun q ho=>?_,fun w ho=>?_⟩,⟨x.zero.at.2,fun p o e=>?_,fun p hp=>?_,fun b hb=>(bgl b hb).2⟩⟩
 ·obtain⟨q,e⟩:=List.getElem?_of_mem ho
  exact(lab e l hl).1
 ·obtain⟨q,e⟩:=List.getElem?_of_mem ho
  refine(?_:a<(bg.map _).length)
  rw[Kf];exact per e
 ·obtain⟨q,e⟩:=List.getElem?_of_mem ho
  obtain⟨p,y,h1,h2,h3⟩:=eY e
  cases y with
  |one o=>injection h3 with zi;subst zi;exact x.lv p _ h1
  |_=>injection h3
 ·obtain⟨q,e⟩:=List.getElem?_of_mem ho
  obtain⟨p,y,h1,h2,h3⟩:=eY e
  cases y with
  |one o=>injection h3 with zi;subst zi;exact x.sw p _ h1
  |_=>injection h3
 ·cases hg:o.goesOn with
  |true=>exact(on e hg).2
  |false =>
   rw[km hg]
   obtain⟨q,y,h1,rfl,rfl⟩:=eY e
   rw[g8]at hg
   refine ab (ly ⟨y,h1⟩) ?_
   exact x.off q y h1 hg
 ·rcases hp with rfl|⟨i,o,e,hl|hl⟩
  ·exact x.zero.at.2
  ·exact(lab e p hl).2
  ·cases o with
   |perform a b =>
    rcases mCo hl with rfl|hl
    ·have:a<(bg.map (aq f)).length:=by rw[Kf];exact per e
     refine ab (List.getD_eq_getElem?_getD) ?_;refine ab (Kj this) ?_;refine ab Option.getD_some ?_
     exact(bgl _ (KY this)).2
    ·cases mSng hl
     exact(on e rfl).2.2 rfl
   |_=>cases hl
theorem skip{n:Nat}(len:f.length=n)(hh:∀q,f[q]?=some none→q+1<n∧h (q+1)=h q){l:Nat}(hl:l<n):Lands h f l (h l):=by
 cases e:f[l]? with
 |none=>exact absurd hl (LA.mpr (len▸List.getElem?_eq_none_iff.mp e))
 |some x =>
  cases x with
  |some o=>exact⟨l,⟨o,e⟩,rfl,rfl⟩
  |none =>
   obtain⟨h1,h2⟩:=hh l e
   obtain⟨q,h3,h4,h5⟩:=skip len hh h1
   exact⟨q,h3,h4.trans (j7 e),h5.trans h2⟩
termination_by n-l
end
end
section
section
variable {c:Cd} {h:Nat→List Nat}
theorem p0{q:Option Br}{o:Op}(e:o.passed q=true):o.lab∈o.labels:=by
 cases o with
 |jump l=>exact .head _
 |br b l=>exact .head _
 |_=>injection e
noncomputable def Lbl(ops:List Op)(l:Nat):Prop:=∃o∈ops,l∈o.labels
theorem kS{q:Option Br}{ops:List Op}:∀{n l f:Nat},bc q ops n l=some f→f=l∨Lbl ops f
 |n+1,l,f,e=>by
  unfold bc at e
  by_cases z:bC q ops l=true
  ·replace e:=(Kh z)▸e
   obtain⟨o,h1,h2,h3⟩:=d7 z
   replace e:=h3▸e
   rcases kS e with rfl|y
   ·exact .inr ⟨o,mGe h1,p0 h2⟩
   ·exact .inr y
  ·replace e:=(Kg z)▸e
   replace e:=oInj e;subst e;exact .inl rfl
theorem BF(o:Op)(ops:List Op)(l:Nat):bz o ops l=l∨Lbl ops (bz o ops l):=by
 unfold bz
 cases e:bc o.asks ops (ops.length+1) l with
 |some f=>exact kS e
 |none =>
  cases e2:bc none ops (ops.length+1) l with
  |some f=>exact kS e2
  |none=>exact .inl rfl
theorem gx(ops:List Op)(o:Op):bE ops o=o.relabel (bz o ops)∨∃l w,o=.jump l∧bE ops o=.one (.stop w):=by
 unfold bE
 rcases fk ops (o.relabel (bz o ops))with e|⟨l,w,e1,_,e3⟩
 ·exact .inl e
 ·cases o with
  |jump j=>exact .inr ⟨j,w,rfl,e3⟩
  |_=>injection e1
theorem ue{ops:List Op}{o:Op}(ho:o∈ops){l:Nat}(hl:l∈(bE ops o).labels):Lbl ops l:=by
 rcases gx ops o with e|⟨j,w,rfl,e⟩
 ·replace hl:=e▸hl;rw[dF]at hl
  obtain⟨k,hk,rfl⟩:=K0.mp hl
  rcases BF o ops k with y|y
  ·refine ab y ?_;exact⟨o,ho,hk⟩
  ·exact y
 ·replace hl:=e▸hl;cases hl
theorem jj{ops:List Op}{o:Op}(ho:o∈led ops):∃x∈ops,o=bE ops x:=let ⟨x,a,b⟩:=K0.mp ho;⟨x,a,b.symm⟩
theorem oC{ops:List Op}{p:Nat}{o:Op}(ho:(led ops)[p]?=some o):∃x,ops[p]?=some x∧o=bE ops x:=by
 unfold led at ho
 replace ho:=(Ko)▸ho
 obtain⟨x,a,b⟩:=Kt.mp ho
 exact⟨x,a,b.symm⟩
theorem gw(ops:List Op):(led ops).length=ops.length:=Kf _
theorem lS{ops:List Op}{x:Op}{a b:Nat}(e:bE ops x=.perform a b):x=.perform a b:=by
 rcases gx ops x with z|⟨j,w,rfl,z⟩
 ·replace e:=z▸e
  cases x<;>cases e
  rfl
 ·replace e:=z▸e;injection e
theorem xg{ops:List Op}{x:Op}{q:Int}(e:bE ops x=.one (.leave q)):x=.one (.leave q):=by
 rcases gx ops x with z|⟨j,w,rfl,z⟩
 ·replace e:=z▸e
  cases x<;>cases e
  rfl
 ·replace e:=z▸e;cases e
theorem zy{ops:List Op}{x:Op}{w:Nat}(hx:x∈ops)(e:bE ops x=.one (.stop w)):.one (.stop w)∈ops:=by
 unfold bE at e
 rcases fk ops (x.relabel (bz x ops))with z|⟨l,w',_,h2,h3⟩
 ·replace e:=z▸e
  cases x<;>cases e
  exact hx
 ·replace e:=h3▸e;cases e;exact mGe h2
theorem Eh{ops:List Op}{x:Op}:(bE ops x).goesOn=x.goesOn:=by
 rcases gx ops x with z|⟨j,w,rfl,z⟩
 ·refine ab z ?_;rw[g8]
 ·refine ab z ?_;rfl
theorem Lbl.ent{l:Nat}(x:Lbl c.ops l):Ent c l:=by
 obtain⟨o,a,b⟩:=x
 obtain⟨i,e⟩:=List.getElem?_of_mem a
 exact Ent.lab e b
theorem Cs{p:Nat}(x:Ent ⟨led c.ops,c.bg⟩ p):Ent c p:=by
 rcases x with rfl|⟨i,o,e,hl⟩
 ·exact .inl rfl
 ·obtain⟨y,h1,rfl⟩:=oC e
  rcases hl with hl|hl
  ·exact(ue (mGe h1) hl).ent
  ·cases z:bE c.ops y with
   |perform a b =>
    replace hl:=z▸hl
    exact .inr ⟨i,y,h1,.inr (by refine ab (lS z) ?_;exact hl)⟩
   |_=>replace hl:=z▸hl;cases hl
theorem nk(W:WF c)(T:Typed c h):WF ⟨led c.ops,c.bg⟩∧Typed ⟨led c.ops,c.bg⟩ h:=by
 have ln:=gw c.ops
 refine⟨⟨fun o ho l hl=>?_,fun b hb=>ln▸W.bg b hb,fun a b ho=>?_,fun p o e hg=>?_,ln▸W.pos,fun q ho=>?_,fun w ho=>?_⟩,⟨T.zero,fun p o e=>?_,fun p hp=>T.ent p (Cs hp),T.bg⟩⟩
 ·obtain⟨x,hx,rfl⟩:=jj ho
  obtain⟨y,hy,hl⟩:=ue hx hl
  exact Nat.lt_of_lt_of_eq (W.lab y hy l hl) ln.symm
 ·obtain⟨x,hx,e⟩:=jj ho
  exact W.per a b (lS e.symm▸hx)
 ·obtain⟨x,hx,rfl⟩:=oC e
  exact Nat.lt_of_lt_of_eq (W.on p x hx (Eh▸hg)) ln.symm
 ·obtain⟨x,hx,e⟩:=jj ho
  exact W.lv q (xg e.symm▸hx)
 ·obtain⟨x,hx,e⟩:=jj ho
  exact W.sw w (zy hx e.symm)
 ·obtain⟨x,hx,rfl⟩:=oC e
  have t:=T.op p x hx
  rcases gx c.ops x with z|⟨j,w,rfl,z⟩
  ·refine ab z ?_;exact jA t
  ·refine ab z ?_;exact⟨t.1,fun y=>by injection y⟩
theorem Cw{g:Nat→Op→Bool}{ops:List Op}{p:Nat}{o:Op}(e:(ops.mapIdx fun p o=>if g p o=true then none else some o)[p]?=some (some o)):ops[p]?=some o:=by
 obtain⟨x,h1,h2⟩:=ck e
 split at h2<;>cases h2
 exact h1
theorem gP{p:Nat}{o:Op}(e:(iw c)[p]?=some (some o)):c.ops[p]?=some o∧Met c p:=by
 obtain⟨x,h1,h2⟩:=ck e
 split at h2
 ·rename_i z;replace h2:=oInj h2;subst h2;exact⟨h1,met_true.mp z⟩
 ·injection h2
theorem iu{p:Nat}(hm:Met c p)(hp:p<c.ops.length):iI (iw c) p:=by
 refine⟨c.ops[p],?_⟩
 refine(?_:(c.ops.mapIdx _)[p]?=_)
 refine ab (KR) ?_;refine ab (Kj hp) ?_;rewrite[Option.map_some];refine ab (Kh (met_true.mpr hm)) ?_;rfl
theorem vo(W:WF c)(T:Typed c h):HolesT h (iw c) (c.bg.map fun b=>if dy c b=true then b else 0) where
 lab:=fun p o e l hl=>by
  obtain⟨h1,h2⟩:=gP e
  have lt:=W.lab o (mGe h1) l hl
  exact⟨l,iu (.next h2 h1 (KA _ (KA _ hl)) lt) lt,rfl,T.ent l (Ent.lab h1 hl)⟩
 bgs:=fun b hb=>by
  obtain⟨j,hj,rfl⟩:=K0.mp hb
  split
  ·rename_i z;exact⟨j,iu (met_true.mp z) (W.bg j hj),rfl,T.bg j hj⟩
  ·exact⟨0,iu (.zero W.pos) W.pos,rfl,T.zero⟩
 on:=fun p o e hg=>by
  obtain⟨h1,h2⟩:=gP e
  have lt:=W.on p o h1 hg
  exact⟨p+1,iu (.next h2 h1 (KA _ (KG _ (by refine ab (Kh hg) ?_;exact .head _))) lt) lt,cU e,T.op p o h1⟩
 off:=fun p o e hg=>(km hg).mp (T.op p o (gP e).1)
 per:=fun p a b e=>by rw[Kf];exact W.per a b (mGe (gP e).1)
 lv:=fun p q e=>W.lv q (mGe (gP e).1)
 sw:=fun p q e=>W.sw q (mGe (gP e).1)
 zero:=⟨0,iu (.zero W.pos) W.pos,rfl,T.zero⟩
theorem fe{p:Nat}{o:Op}(e:(idle c.ops)[p]?=some (some o)):c.ops[p]?=some o:=Cw e
theorem xz{p:Nat}(W:WF c)(T:Typed c h)(e:(idle c.ops)[p]?=some none):p+1<c.ops.length∧h (p+1)=h p:=by
 obtain⟨o,h1,h2⟩:=ck e
 split at h2
 ·rename_i z
  have ty:=T.op p o h1
  cases o with
  |jump l =>
   have:l=p+1:=Ki z
   subst this
   exact⟨W.lab _ (mGe h1) _ (.head _),(T.ent _ (Ent.lab h1 (.head _))).trans ty.1.symm⟩
  |br b l =>
   cases b with
   |key k=>exact⟨W.on p _ h1 rfl,(ty.2 rfl).trans ty.1.symm⟩
   |_=>injection z
  |one o =>
   cases o with
   |leave q=>exact⟨W.on p _ h1 rfl,(ty.2 rfl).trans ty.1.symm⟩
   |_=>injection z
  |_=>injection z
 ·injection h2
theorem r0(W:WF c)(T:Typed c h):HolesT h (idle c.ops) c.bg:=by
 have len:(idle c.ops).length=c.ops.length:=Kz
 have sk:∀{l:Nat},l<c.ops.length→Lands h (idle c.ops) l (h l):=skip len fun q e=>xz W T e
 exact{
  lab:=fun p o e l hl=>T.ent l (Ent.lab (fe e) hl)▸sk (W.lab o (mGe (fe e)) l hl)
  bgs:=fun b hb=>T.bg b hb▸sk (W.bg b hb)
  on:=fun p o e hg=>by
   obtain⟨q,k,e1,e2⟩:=sk (W.on p o (fe e) hg)
   exact⟨q,k,e1.trans (cU e),e2▸T.op p o (fe e)⟩
  off:=fun p o e hg=>(km hg).mp (T.op p o (fe e))
  per:=fun p a b e=>W.per a b (mGe (fe e))
  lv:=fun p q e=>W.lv q (mGe (fe e))
  sw:=fun p q e=>W.sw q (mGe (fe e))
  zero:=T.zero▸sk W.pos }
theorem eS{p:Nat}{o:Op}(e:(dC (aU c) c.ops)[p]?=some (some o)):c.ops[p]?=some o∨∃k l,c.ops[p]?=some (.br (.key k) l)∧o=.jump l:=by
 obtain⟨x,h1,h2⟩:=gU e
 unfold dD at h2
 split at h2
 ·split at h2<;>cases h2;exact .inl h1
 ·split at h2
  ·split at h2<;>cases h2;exact .inr ⟨_,_,h1,rfl⟩
  ·replace h2:=oInj h2;subst h2;exact .inl h1
 ·replace h2:=oInj h2;subst h2;exact .inl h1
theorem v8{p:Nat}(W:WF c)(T:Typed c h)(e:(dC (aU c) c.ops)[p]?=some none):p+1<c.ops.length∧h (p+1)=h p:=by
 obtain⟨x,h1,h2⟩:=gU e
 have ty:=T.op p x h1
 unfold dD at h2
 split at h2
 ·exact⟨W.on p _ h1 rfl,(ty.2 rfl).trans ty.1.symm⟩
 ·exact⟨W.on p _ h1 rfl,(ty.2 rfl).trans ty.1.symm⟩
 ·injection h2
theorem oW(W:WF c)(T:Typed c h):HolesT h (dC (aU c) c.ops) c.bg:=by
 have len:(dC (aU c) c.ops).length=c.ops.length:=Kz
 have sk:∀{l:Nat},l<c.ops.length→Lands h (dC (aU c) c.ops) l (h l):=skip len fun q e=>v8 W T e
 exact{
  lab:=fun p o e l hl=>by
   rcases eS e with z|⟨k,j,z,rfl⟩
   ·exact T.ent l (Ent.lab z hl)▸sk (W.lab o (mGe z) l hl)
   ·exact T.ent l (Ent.lab z hl)▸sk (W.lab _ (mGe z) l hl)
  bgs:=fun b hb=>T.bg b hb▸sk (W.bg b hb)
  on:=fun p o e hg=>by
   rcases eS e with z|⟨k,j,z,rfl⟩
   ·obtain⟨q,k,e1,e2⟩:=sk (W.on p o z hg)
    exact⟨q,k,e1.trans (cU e),e2▸T.op p o z⟩
   ·injection hg
  off:=fun p o e hg=>by
   rcases eS e with z|⟨k,j,z,rfl⟩
   ·exact(km hg).mp (T.op p o z)
   ·exact(T.op p _ z).1
  per:=fun p a b e=>by
   rcases eS e with z|⟨k,j,z,y⟩
   ·exact W.per a b (mGe z)
   ·injection y
  lv:=fun p q e=>by
   rcases eS e with z|⟨k,j,z,y⟩
   ·exact W.lv q (mGe z)
   ·injection y
  sw:=fun p q e=>by
   rcases eS e with z|⟨k,j,z,y⟩
   ·exact W.sw q (mGe z)
   ·injection y
  zero:=T.zero▸sk W.pos }
theorem oU(o:Op):ef o=o∨∃u v l,o=.rk (.push (.num u v)) l∧ef o=dp (u,v):=by
 cases o with
 |rk r l =>
  cases r with
  |push q=>cases q with
   |num u v=>exact .inr ⟨u,v,l,rfl,rfl⟩
   |ref i=>exact .inl rfl
  |«calc» s=>exact .inl rfl
 |_=>exact .inl rfl
theorem sm(W:WF c)(T:Typed c h):HolesT h (cI (aU c) c.ops) c.bg:=by
 have x:=fO W T _ (aR _)
 have ent:∀{p:Nat},h p=[]→p<c.ops.length→Lands h (cI (aU c) c.ops) p []:=fun{p} hp lt=>by
  cases e:(cI (aU c) c.ops)[p]? with
  |none=>exact absurd lt (LA.mpr (x.len▸List.getElem?_eq_none_iff.mp e))
  |some y =>
   cases y with
   |none=>exact absurd hp (x.hole p lt e)
   |some o=>exact⟨p,⟨o,e⟩,rfl,hp⟩
 have get':∀{p:Nat} {o:Op},(cI (aU c) c.ops)[p]?=some (some o)→(∃w,o=dp w)∨c.ops[p]?=some o:=fun{p o} e=>by
  obtain⟨nx,_,_,_,_,⟨_,o0,g1,g2⟩|⟨w,z,_⟩⟩:=x.kept p o (x.len▸(Kk.mp e).1) e
  ·rcases oU o0 with z|⟨u,v,l,rfl,z⟩
   ·replace g2:=z▸g2;subst g2;exact .inr g1
   ·exact .inl ⟨(u,v),g2.trans z⟩
  ·exact .inl ⟨w,z⟩
 exact{
  lab:=fun p o e l hl=>by
   rcases get' e with ⟨w,rfl⟩|z
   ·cases hl
   ·exact ent (T.ent l (Ent.lab z hl)) (W.lab o (mGe z) l hl)
  bgs:=fun b hb=>ent (T.bg b hb) (W.bg b hb)
  on:=fun p o e hg=>by
   have lt:=x.len▸(Kk.mp e).1
   obtain⟨nx,h1,h2,h3,h4,h5⟩:=x.kept p o lt e
   have fin:nx<c.ops.length→o.Ty (h p) (h nx)→∃q,iI (cI (aU c) c.ops) q∧aq (cI (aU c) c.ops) q=aq (cI (aU c) c.ops) p+1∧o.Ty (h p) (h q):=fun hn ty=>by
    cases e2:(cI (aU c) c.ops)[nx]? with
    |none=>exact absurd hn (LA.mpr (x.len▸List.getElem?_eq_none_iff.mp e2))
    |some y =>
     cases y with
     |none=>exact absurd e2 (h4 hn)
     |some y=>exact⟨nx,⟨y,e2⟩,li e h1 h3,ty⟩
   rcases h5 with ⟨rfl,o0,g1,rfl⟩|⟨w,rfl,sg,_⟩
   ·rcases oU o0 with z|⟨u,v,l,rfl,z⟩
    ·rw[z]at hg fin ⊢;exact fin (W.on p o0 g1 hg) (T.op p o0 g1)
    ·exact fin (W.on p _ g1 rfl) (show Op.Ty (.rk (.push (.num u v)) l) _ _ from T.op p _ g1)
   ·exact fin sg.le sg.ty
  off:=fun p o e hg=>by
   rcases get' e with ⟨w,rfl⟩|z
   ·injection hg
   ·exact(km hg).mp (T.op p o z)
  per:=fun p a b e=>by
   rcases get' e with ⟨w,y⟩|z
   ·injection y
   ·exact W.per a b (mGe z)
  lv:=fun p q e=>by
   rcases get' e with ⟨w,y⟩|z
   ·injection y
   ·exact W.lv q (mGe z)
  sw:=fun p q e=>by
   rcases get' e with ⟨w,y⟩|z
   ·injection y
   ·exact W.sw q (mGe z)
  zero:=ent T.zero W.pos }
end
end
section
section
variable {A:Ans} {c:Cd} {h:Nat→List Nat}
structure Well(c:Cd):Prop where
 wf:WF c
 ty:∃h,Typed c h
theorem HolesT.lab'{f:aA}{bg:List Nat}(x:HolesT h f bg):td f.length f bg:=by
 have go:∀{l:Nat},Lands h f l []→l<f.length:=fun{l} y=>by
  obtain⟨q,k,e,_⟩:=y
  refine Nat.lt_of_not_le fun z=>?_
  have:=pX (Lz z)
  have k:=lh k
  rw[pz,e,this]at k
  exact Le _ k
 refine⟨fun o ho l hl=>?_,fun b hb=>go (x.bgs b hb)⟩
 obtain⟨p,e⟩:=List.getElem?_of_mem ho
 exact go (x.lab p o e l hl)
theorem lC{f:aA}{bg:List Nat}{I:Mc→Prop}(T:HolesT h f bg)(H:Holes A c f bg I)(h0:I start):Well (cL f bg)∧Refines A (cL f bg) c:=by
 refine ab (jL T.lab') ?_
 exact⟨⟨(rm T).1,_,(rm T).2⟩,H.sim.refines h0 rfl⟩
theorem qm(x:Well c):Well (r1 c)∧Refines A (r1 c) c:=by
 obtain⟨W,h,T⟩:=x
 obtain⟨W',T'⟩:=nk W T
 have y:=lC (A:=A) (vo W' T') (w7 W') ⟨fun z=>.zero z,start_up⟩
 exact⟨y.1,y.2.trans (led_sim.refines trivial rfl)⟩
theorem ql(x:Well c):Well (r2 c)∧Refines A (r2 c) c:=by
 obtain⟨W,h,T⟩:=x
 exact lC (r0 W T) vE start_up
theorem vf(x:Well c):Well (r3 c)∧Refines A (r3 c) c:=by
 obtain⟨W,h,T⟩:=x
 refine lC (sm W T) (vG W T) ⟨fun e=>?_,start_up⟩
 have z:=fO W T _ (aR _)
 exact z.hole 0 W.pos e T.zero
theorem Go(x:Well c):Well (r4 c)∧Refines A (r4 c) c:=by
 obtain⟨W,h,T⟩:=x
 refine lC (oW W T) tE ⟨?_,start_up⟩
 refine(?_:AsOk A (dK c 0) _)
 refine ab (nP (.inl rfl)) ?_;exact .none
theorem qW(x:Well c):Well (ce c)∧Refines A (ce c) c:=by
 have a:=qm (A:=A) x
 have b:=ql (A:=A) a.1
 have d:=vf (A:=A) b.1
 have e:=Go (A:=A) d.1
 exact⟨e.1,e.2.trans (d.2.trans (b.2.trans a.2))⟩
noncomputable def Op.wt:Op→Nat
 |.jump _=>2
 |.br (.key _) _=>3
 |.rk (.push (.num _ _)) (some _)=>2
 |_=>1
noncomputable def ow:Option Op→Nat
 |some o=>o.wt
 |none=>0
noncomputable def bS(ops:List Op):Nat:=(ops.map Op.wt).sum
noncomputable def tK(f:aA):Nat:=(f.map ow).sum
theorem mL(o:Op):1≤o.wt:=by
 cases o with
 |jump _=>exact aD rfl
 |br b _=>cases b<;>exact aD rfl
 |rk r l =>
  cases r with
  |push q=>cases q<;>cases l<;>exact aD rfl
  |«calc» _=>exact aD rfl
 |_=>exact aD rfl
theorem mK(g:Nat→Nat)(o:Op):(o.relabel g).wt=o.wt:=by
 cases o with
 |rk r l =>
  cases l<;>cases r with
  |push q=>cases q<;>rfl
  |«calc» s=>rfl
 |br b l=>cases b<;>rfl
 |one o=>cases o<;>rfl
 |_=>rfl
theorem l0:∀(g:Op→Op) (f:aA),(∀o,(g o).wt=o.wt)→bS (f.filterMap fun o=>o.map g)=tK f
 |g,[],_=>rfl
 |g,none::f,h=>(l0 g f h).trans (Nat.zero_add _).symm
 |g,some y::f,h=>by
  refine(?_:(g y).wt+bS (f.filterMap fun o=>o.map g)=y.wt+tK f)
  refine ab (h y) ?_;refine ab (l0 g f h) ?_;rfl
theorem y7{f:aA}{bg:List Nat}(x:td f.length f bg):bS (cL f bg).ops=tK f:=by
 refine ab (jL x) ?_
 exact l0 _ f fun o=>mK _ o
theorem uS{a b c d:Nat}(h1:a≤b)(h2:c≤d)(e:a+c=b+d):a=b:=Nat.le_antisymm h1 (Nat.le_of_add_le_add_right (am (cS h2 b) (bU e.symm)))
theorem AM{a b c d:Nat}(h1:a≤b)(h2:c≤d)(e:a+c=b+d):c=d:=uS h2 h1 ((Lg c a).trans (e.trans (Lg b d)))
theorem FU{f:aA}{ops:List Op}(len:f.length=ops.length)(hp:∀(p:Nat) (x:Option Op) (o:Op),f[p]?=some x→ops[p]?=some o→ow x≤o.wt) :
  tK f≤bS ops∧(tK f=bS ops→∀(p:Nat) (x:Option Op) (o:Op),f[p]?=some x→ops[p]?=some o→ow x=o.wt):=by
 induction f generalizing ops with
 |nil =>
  cases ops with
  |nil=>exact⟨aR _,fun zz p x o e=>nS e⟩
  |cons _ _=>exact absurd len.symm (Nat.succ_ne_zero _)
 |cons y f ih =>
  cases ops with
  |nil=>exact absurd len (Nat.succ_ne_zero _)
  |cons o ops =>
   obtain⟨h1,h2⟩:=ih (Nat.succ.inj len) fun p x o a b=>hp (p+1) x o a b
   have h3:ow y≤o.wt:=hp 0 y o rfl rfl
   refine⟨Nat.add_le_add h3 h1,fun e=>?_⟩
   have e:ow y+tK f=o.wt+bS ops:=e
   clear hp len ih
   intro p x o' a b
   cases p with
   |zero =>
    obtain rfl:=oInj a
    obtain rfl:=oInj b
    exact uS h3 h1 e
   |succ p=>exact h2 (AM h3 h1 e) p x o' a b
theorem AH{f:aA}{ops:List Op}(len:f.length=ops.length)(h:∀(p:Nat) (x:Option Op) (o:Op),f[p]?=some x→ops[p]?=some o→x=some o):f=ops.map some:=by
 refine List.ext_getElem? fun p=>?_
 refine ab (Ko) ?_
 cases e:ops[p]? with
 |none=>exact Lz (len▸List.getElem?_eq_none_iff.mp e)
 |some o =>
  cases e2:f[p]? with
  |none=>exact absurd (Kk.mp e).1 (LA.mpr (len▸List.getElem?_eq_none_iff.mp e2))
  |some x=>exact congrArg some (h p x o e2 e)
theorem y8(ops:List Op)(bg:List Nat):cL (ops.map some) bg=⟨ops,bg⟩:=by
 refine ab (jK (by rw[List.all_map];exact List.all_eq_true.mpr fun zz zz=>rfl)) ?_
 congr 1
 refine ab List.filterMap_map ?_
 exact List.filterMap_some
theorem lB{f:aA}{bg:List Nat}(T:HolesT h f bg)(len:f.length=c.ops.length)(hp:∀(p:Nat) (x:Option Op) (o:Op),f[p]?=some x→c.ops[p]?=some o→ow x≤o.wt∧(f.all Option.isSome=true→ow x=o.wt→x=some o)) :
  bS (cL f bg).ops≤bS c.ops∧(bS (cL f bg).ops=bS c.ops→f=c.ops.map some∧cL f bg=⟨c.ops,bg⟩):=by
 refine ab (y7 T.lab') ?_
 obtain⟨h1,h2⟩:=FU len fun p x o a b=>(hp p x o a b).1
 refine⟨h1,fun e=>?_⟩
 have h3:=h2 e
 have hf:f.all Option.isSome=true:=List.all_eq_true.mpr fun x hx=>by
  obtain⟨p,e1⟩:=List.getElem?_of_mem hx
  have lt:p<c.ops.length:=len▸(Kk.mp e1).1
  have:=h3 p x _ e1 (Kj lt)
  cases x with
  |some o=>rfl
  |none=>have:=this▸mL c.ops[p];exact absurd this (by decide)
 have h4:f=c.ops.map some:=AH len fun p x o a b=>(hp p x o a b).2 hf (h3 p x o a b)
 exact⟨h4,by refine ab h4 ?_;rw[y8]⟩
theorem rH{g:Nat→Op→Bool}{p:Nat}{x:Option Op}{o:Op}(e:(c.ops.mapIdx fun p o=>if g p o=true then none else some o)[p]?=some x)(e2:c.ops[p]?=some o):ow x≤o.wt∧(ow x=o.wt→x=some o):=by
 obtain⟨y,h1,rfl⟩:=ck e
 rw[e2]at h1
 replace h1:=oInj h1;subst h1
 have:=mL o
 split
 ·exact⟨Kx _,fun z=>absurd (show 0=o.wt from z) (Lb this)⟩
 ·exact⟨aR _,fun zz=>rfl⟩
theorem mv{f:aA}{p:Nat}(h:f.all Option.isSome=true)(e:f[p]?=some none):False:=by
 have:=lAt h none (mGe e)
 injection this
theorem Gr(W:WF c)(T:Typed c h):bS (r1 c).ops≤bS (led c.ops)∧(bS (r1 c).ops=bS (led c.ops)→iw ⟨led c.ops,c.bg⟩=(led c.ops).map some∧r1 c=⟨led c.ops,c.bg⟩):=by
 obtain⟨W',T'⟩:=nk W T
 obtain⟨h1,h2⟩:=lB (c:=⟨led c.ops,c.bg⟩) (vo W' T') Kz fun p x o a b=>by
  obtain⟨y,h1,rfl⟩:=ck a
  have h1:(led c.ops)[p]?=some y:=h1
  rw[show(led c.ops)[p]?=some o from b]at h1
  replace h1:=oInj h1;subst h1
  have:=mL o
  split
  ·exact⟨aR _,fun zz zz=>rfl⟩
  ·exact⟨Kx _,fun zz z=>absurd (show 0=o.wt from z) (Lb this)⟩
 refine⟨h1,fun e=>?_⟩
 obtain⟨h3,h4⟩:=h2 e
 refine⟨h3,h4.trans ?_⟩
 refine(?_:(⟨led c.ops,c.bg.map _⟩:Cd)=_)
 congr 1
 refine(List.map_congr_left fun b hb=>?_).trans (List.map_id _)
 refine Kh (met_true.mpr ?_)
 have lt:=W'.bg b hb
 have e5:(iw ⟨led c.ops,c.bg⟩)[b]?=some (some (led c.ops)[b]):=by refine ab h3 ?_;refine ab (Ko) ?_;refine ab (Kj lt) ?_;rfl
 exact(gP e5).2
theorem Gq(W:WF c)(T:Typed c h):bS (r2 c).ops≤bS c.ops∧(bS (r2 c).ops=bS c.ops→idle c.ops=c.ops.map some∧r2 c=c) :=
 lB (r0 W T) Kz fun p x o a b=>⟨(rH a b).1,fun zz=>(rH a b).2⟩
theorem uE(o:Op):(ef o).wt≤o.wt∧((ef o).wt=o.wt→ef o=o):=by
 rcases oU o with e|⟨u,v,l,rfl,e⟩
 ·refine ab e ?_;exact⟨aR _,fun zz=>rfl⟩
 ·cases l with
  |none=>exact⟨aR _,fun zz=>rfl⟩
  |some l=>refine ab e ?_;exact⟨show 1≤2 by decide,fun z=>by cases z⟩
theorem Gp(W:WF c)(T:Typed c h):bS (r3 c).ops≤bS c.ops∧(bS (r3 c).ops=bS c.ops→cI (aU c) c.ops=c.ops.map some∧r3 c=c):=by
 have z:=fO W T _ (aR _)
 refine lB (sm W T) z.len fun p x o a b=>?_
 cases x with
 |none=>exact⟨Kx _,fun q=>(mv q a).elim⟩
 |some y =>
  obtain⟨nx,_,_,g,_,⟨_,o0,g1,g2⟩|⟨w,rfl,_,lt⟩⟩:=z.kept p y (z.len▸(Kk.mp a).1) a
  ·rw[b]at g1;replace g1:=oInj g1;subst g1;subst g2
   exact⟨(uE o).1,fun zz e=>congrArg some ((uE o).2 e)⟩
  ·exact⟨mL o,fun q=>(mv q (g (p+1) (La p) lt)).elim⟩
theorem Gm(W:WF c)(T:Typed c h):bS (r4 c).ops≤bS c.ops∧(bS (r4 c).ops=bS c.ops→dC (aU c) c.ops=c.ops.map some∧r4 c=c):=by
 refine lB (oW W T) Kz fun p x o a b=>?_
 cases x with
 |none=>exact⟨Kx _,fun q=>(mv q a).elim⟩
 |some y =>
  rcases eS a with e|⟨k,l,e,rfl⟩
  ·rw[b]at e;replace e:=oInj e;subst e;exact⟨aR _,fun zz zz=>rfl⟩
  ·rw[b]at e;replace e:=oInj e;subst e;exact⟨show 2≤3 by decide,fun zz e=>by cases e⟩
theorem Eg:∀(ops l:List Op),bS (l.map (bE ops))≤bS l∧(bS (l.map (bE ops))=bS l→∀o∈l,bE ops o=o.relabel (bz o ops)):=by
 intro ops l
 induction l with
 |nil =>
  exact⟨aR _,fun zz o ho=>nomatch ho⟩
 |cons o l ih =>
  obtain⟨h1,h2⟩:=ih
  have h3:(bE ops o).wt≤o.wt∧((bE ops o).wt=o.wt→bE ops o=o.relabel (bz o ops)):=by
   rcases gx ops o with e|⟨j,w,rfl,e⟩
   ·exact⟨by refine ab e ?_;rw[mK];exact aR _,fun zz=>e⟩
   ·refine ab e ?_;exact⟨show 1≤2 by decide,fun z=>by cases z⟩
  refine⟨Nat.add_le_add h3.1 h1,fun e=>?_⟩
  have e:(bE ops o).wt+bS (l.map (bE ops))=o.wt+bS l:=e
  intro x hx
  rcases mCo hx with rfl|hx
  ·exact h3.2 (uS h3.1 h1 e)
  ·exact h2 (AM h3.1 h1 e) x hx
structure Still(c:Cd):Prop where
 led:∀o∈c.ops,bE c.ops o=o.relabel (bz o c.ops)
 met:iw ⟨Internal.led c.ops,c.bg⟩=(Internal.led c.ops).map some
 idle:idle (Internal.led c.ops)=(Internal.led c.ops).map some
 fold:cI (aU ⟨Internal.led c.ops,c.bg⟩) (Internal.led c.ops)=(Internal.led c.ops).map some
 ask:dC (aU ⟨Internal.led c.ops,c.bg⟩) (Internal.led c.ops)=(Internal.led c.ops).map some
 eq:ce c=⟨Internal.led c.ops,c.bg⟩
theorem qV(x:Well c):bS (ce c).ops≤bS c.ops∧(bS (ce c).ops=bS c.ops→Still c):=by
 have a:Well (r1 c):=(qm (A:=⟨fun zz=>0,fun zz=>false,fun zz zz=>false,fun zz zz=>none⟩) x).1
 have b:Well (r2 (r1 c)):=(ql (A:=⟨fun zz=>0,fun zz=>false,fun zz zz=>false,fun zz zz=>none⟩) a).1
 have d:Well (r3 (r2 (r1 c))):=(vf (A:=⟨fun zz=>0,fun zz=>false,fun zz zz=>false,fun zz zz=>none⟩) b).1
 obtain⟨W,h,T⟩:=x
 obtain⟨Wa,ha,Ta⟩:=a
 obtain⟨Wb,hb,Tb⟩:=b
 obtain⟨Wd,hd,Td⟩:=d
 have l:=Eg c.ops c.ops
 have l1:bS (Internal.led c.ops)≤bS c.ops:=l.1
 have e1:=Gr W T
 have e2:=Gq Wa Ta
 have e3:=Gp Wb Tb
 have e4:=Gm Wd Td
 have e41:bS (ce c).ops≤bS (r3 (r2 (r1 c))).ops:=e4.1
 refine⟨am e41 (am e3.1 (am e2.1 (am e1.1 l.1))),fun e=>?_⟩
 have c3:=am (bU e.symm) e41
 have c2:=am c3 e3.1
 have c1:=am c2 e2.1
 have k0:bS (Internal.led c.ops)=bS c.ops:=Nat.le_antisymm l1 (am c1 e1.1)
 obtain⟨f1,g1⟩:=e1.2 (Nat.le_antisymm e1.1 (am l1 c1))
 obtain⟨f2,g2⟩:=e2.2 (Nat.le_antisymm e2.1 (am e1.1 (am l1 c2)))
 obtain⟨f3,g3⟩:=e3.2 (Nat.le_antisymm e3.1 (am e2.1 (am e1.1 (am l1 c3))))
 obtain⟨f4,g4⟩:=e4.2 (Nat.le_antisymm e41 (am e3.1 (am e2.1 (am e1.1 (am l1 (bU e.symm))))))
 rw[g3,g2,g1]at f4
 rw[g2,g1]at f3
 rw[g1]at f2
 exact⟨l.2 k0,f1,f2,f3,f4,by refine(?_:r4 (r3 (r2 (r1 c)))=_);refine ab g4 ?_;refine ab g3 ?_;refine ab g2 ?_;refine ab g1 ?_;rfl⟩
end
end
section
section
variable {ops:List Op} {q:Option Br} {c:Cd}
theorem cp(n l:Nat):bc q ops (n+1) l=if bC q ops l=true then bc q ops n (fy ops l)else some l:=rfl
theorem j5:∀{n l f:Nat},bc q ops n l=some f→bc q ops (n+1) l=some f
 |n+1,l,f,e=>by
  rw[cp]at e ⊢
  split
  ·rename_i z;rw[Kh z]at e;exact j5 e
  ·rename_i z;rw[Kg z]at e;exact e
theorem sR{n m l f:Nat}(h:n≤m)(e:bc q ops n l=some f):bc q ops m l=some f:=by
 induction h with
 |refl=>exact e
 |step _ ih=>exact j5 ih
noncomputable def Th(q:Option Br)(ops:List Op)(n l:Nat):Prop:=bc q ops n l=none∧∃f,bc q ops (n+1) l=some f
theorem Th.next{n l:Nat}(x:Th q ops (n+1) l):bC q ops l=true∧Th q ops n (fy ops l):=by
 obtain⟨h1,f,h2⟩:=x
 rw[cp]at h1 h2
 by_cases z:bC q ops l=true
 ·rw[Kh z]at h1 h2;exact⟨z,h1,f,h2⟩
 ·rw[Kg z]at h1;injection h1
theorem Th.not_lt{a b l:Nat}(x:Th q ops a l)(y:Th q ops b l):¬ a<b:=fun h=>by
 obtain⟨_,f,e⟩:=x
 have:=y.1
 rw[sR h e]at this;injection this
theorem Th.path:∀{n l:Nat},Th q ops n l→∃P:List Nat,P.length=n∧P.Nodup∧∀x∈P,x<ops.length∧∃k,k≤n∧Th q ops k x:=by
 intro n
 induction n with
 |zero =>
  intro l x
  exact⟨[],rfl,List.nodup_nil,fun zz h=>nomatch h⟩
 |succ n ih =>
  intro l x
  obtain⟨hp,y⟩:=x.next
  obtain⟨P,h1,h2,h3⟩:=ih y
  obtain⟨o,h4,_,_⟩:=d7 hp
  refine⟨l::P,congrArg (·+1) h1,List.nodup_cons.mpr ⟨fun hl=>?_,h2⟩,fun z hz=>?_⟩
  ·obtain⟨_,k,hk,t⟩:=h3 l hl
   exact t.not_lt x (Nat.lt_succ_of_le hk)
  ·rcases mCo hz with rfl|hz
   ·exact⟨(Kk.mp h4).1,n+1,aR _,x⟩
   ·obtain⟨a,k,hk,t⟩:=h3 z hz
    exact⟨a,k,KO hk,t⟩
theorem mw{n:Nat}{P:List Nat}(h:P.Nodup)(hl:∀x∈P,x<n):P.length≤n:=by
 have:=h.length_le_of_subset (l₂:=List.range n) fun x hx=>KZ.mpr (hl x hx)
 rwa [KT]at this
theorem vX:∀{n l f:Nat},bc q ops n l=some f→bc q ops (ops.length+1) l=some f:=by
 intro n
 induction n with
 |zero =>
  intro l f e
  injection e
 |succ n ih =>
  intro l f e
  cases h:bc q ops n l with
  |none =>
   obtain⟨P,h1,h2,h3⟩:=Th.path (q:=q) (ops:=ops) ⟨h,f,e⟩
   have:=mw h2 fun x hx=>(h3 x hx).1
   exact sR (dc (h1▸this)) e
  |some g =>
   have:=j5 h
   rw[e]at this
   replace this:=oInj this;subst this
   exact ih h
noncomputable def Never(q:Option Br)(ops:List Op)(l:Nat):Prop:=∀n,bc q ops n l=none
theorem rD{l:Nat}(h:bc q ops (ops.length+1) l=none):Never q ops l:=fun n=>by
 cases e:bc q ops n l with
 |none=>rfl
 |some f=>rw[vX e]at h;injection h
theorem Never.next{l:Nat}(h:Never q ops l):bC q ops l=true∧Never q ops (fy ops l):=by
 have z:bC q ops l=true:=by
  have:=h 1
  rw[cp]at this
  split at this
  ·rename_i z;exact z
  ·injection this
 refine⟨z,fun n=>?_⟩
 have:=h (n+1)
 rw[cp,Kh z]at this
 exact this
theorem tv{l:Nat}(h:bC none ops l=true):bC q ops l=true:=by
 obtain⟨o,h1,h2,_⟩:=d7 h
 unfold bC
 rw[h1]
 cases o with
 |jump l=>rfl
 |_=>injection h2
theorem g9:∀{n l f:Nat},bc none ops n l=some f→Never q ops l→Never q ops f
 |n+1,l,f,e,h=>by
  rw[cp]at e
  split at e
  ·exact g9 e h.next.2
  ·replace e:=oInj e;subst e;exact h
theorem wk{o:Op}{l:Nat}(ho:o.passed q=true)(h:Never q ops l):Never q ops (bz o ops l):=by
 have hn:Never q ops (match bc none ops (ops.length+1) l with|some f=>f|none=>l):=by
  cases e:bc none ops (ops.length+1) l with
  |some f=>exact g9 e h
  |none=>exact h
 have he:o.asks=none∨o.asks=q:=by
  cases o with
  |jump l=>exact .inl rfl
  |br b l =>
   cases q with
   |none=>injection ho
   |some a =>
    have:=tY (a:=b) (b:=a) ho
    subst this
    cases b with
    |test d=>exact .inr rfl
    |key k=>exact .inr rfl
    |_=>injection ho
  |_=>injection ho
 unfold bz
 rcases he with e|e
 ·rw[e]
  cases e2:bc none ops (ops.length+1) l with
  |some f=>exact g9 e2 h
  |none=>exact h
 ·rw[e,h (ops.length+1)]
  exact hn
theorem il(g:Nat→Nat)(o:Op):(o.relabel g).asks=o.asks∧(o.relabel g).passed q=o.passed q∧(o.relabel g).isStop=o.isStop:=by
 cases o with
 |br b l=>cases b<;>exact⟨rfl,rfl,rfl⟩
 |_=>exact⟨rfl,rfl,rfl⟩
theorem tA{g:Nat→Nat}{o:Op}(h:o.passed q=true):(o.relabel g).lab=g o.lab:=by
 cases o with
 |jump l=>rfl
 |br b l=>rfl
 |_=>injection h
variable (hs:∀o∈ops,bE ops o=o.relabel (bz o ops))
include hs
theorem qQ(l:Nat):(led ops)[l]?=(ops[l]?).map fun o=>o.relabel (bz o ops):=by
 unfold led
 rw[Ko]
 cases e:ops[l]? with
 |none=>rfl
 |some o=>exact congrArg some (hs o (mGe e))
theorem pd(l:Nat):bC q (led ops) l=bC q ops l:=by
 unfold bC
 rw[qQ hs]
 cases e:ops[l]? with
 |none=>rfl
 |some o=>exact(il _ o).2.1
theorem me:∀{n l:Nat},Never q ops l→bc q (led ops) n l=none:=by
 intro n
 induction n with
 |zero =>
  intro l _
  exact rfl
 |succ n ih =>
  intro l h
  obtain⟨z,h2⟩:=h.next
  rw[cp,pd hs,Kh z]
  obtain⟨o,h3,h4,h5⟩:=d7 z
  have:fy (led ops) l=bz o ops (fy ops l):=by
   unfold fy
   rw[qQ hs,h3]
   exact tA h4
  rw[this]
  exact ih (wk h4 h2)
theorem iT:∀{n l f:Nat},bc q ops n l=some f→bC q ops f=false
 |n+1,l,f,e=>by
  rw[cp]at e
  split at e
  ·exact iT e
  ·rename_i z;replace e:=oInj e;subst e;exact Bool.eq_false_iff.mpr z
theorem nJ{n l:Nat}(h:bC q ops l=false):bc q (led ops) (n+1) l=some l:=by rw[cp,pd hs,h];rfl
theorem yw(o x:Op)(l:Nat)(hx:x.asks=o.asks):bz x (led ops) (bz o ops l)=bz o ops l:=by
 have ln:(led ops).length=ops.length:=gw ops
 unfold bz
 rw[hx,ln]
 cases e1:bc o.asks ops (ops.length+1) l with
 |some f =>
  dsimp only
  rw[nJ hs (iT hs e1)]
 |none =>
  have n1:=rD e1
  dsimp only
  cases e2:bc none ops (ops.length+1) l with
  |some f =>
   dsimp only
   rw[me hs (g9 e2 n1),nJ hs (iT hs e2)]
  |none =>
   dsimp only
   rw[me hs n1,me hs (rD e2)]
theorem pZ{o:Op}{f g:Nat→Nat}(h:∀l∈o.labels,g (f l)=f l):(o.relabel f).relabel g=o.relabel f:=by
 refine jG fun l hl=>?_
 rw[dF]at hl
 obtain⟨j,hj,rfl⟩:=K0.mp hl
 exact h j hj
theorem xf:led (led ops)=led ops:=by
 refine(List.map_congr_left fun x hx=>?_).trans (List.map_id _)
 obtain⟨o,ho,rfl⟩:=jj hx
 rw[hs o ho]
 refine(?_:gc (led ops) ((o.relabel _).relabel _)=o.relabel _)
 rw[pZ hs fun l hl=>yw hs o _ l (il (q:=none) _ o).1]
 rcases fk (led ops) (o.relabel (bz o ops))with e|⟨l,w,e1,e2,e3⟩
 ·exact e
 ·have e4:=hs o ho
  unfold bE at e4
  rw[e1]at e4
  rw[qQ hs]at e2
  obtain⟨p,e5,e6⟩:=Kt.mp e2
  rw[fp,e5]at e4
  have:p.isStop=true:=by rw[← (il (q:=none) (bz p ops) p).2.2,e6];rfl
  have e4:(if p.isStop=true then p else .jump l)=Op.jump l:=e4
  rw[Kh this]at e4
  rw[e4]at this
  injection this
end
section
variable {c:Cd}
noncomputable def mu(c:Cd):Nat:=2*bS c.ops+@ite _ (led c.ops=c.ops) (Classical.propDecidable _) 0 1
theorem yT(x:Well c)(h:ce c≠c):mu (ce c)<mu c:=by
 obtain⟨h1,h2⟩:=qV x
 unfold mu
 rcases Nat.lt_or_eq_of_le h1 with z|z
 ·have a:@ite _ (led (ce c).ops=(ce c).ops) (Classical.propDecidable _) 0 1≤1:=by split<;>decide
  exact Kw (Nat.add_lt_add_left (Nat.lt_succ_of_le a) _) (am (KQ 2 z) (KB _ _))
 ·have s:=h2 z
  have e:(ce c).ops=led c.ops:=by rw[s.eq]
  rw[Kh (by rw[e];exact xf s.led),Kg fun y=>h (by rw[s.eq,y]),z]
  exact La _
theorem wz:(ce c).ops.length≤c.ops.length:=by
 have p:∀(f:aA) (bg:List Nat),(cL f bg).ops.length≤f.length:=fun f bg=>by
  unfold cL
  split
  ·exact List.length_filterMap_le ..
  ·exact List.length_filterMap_le ..
 refine am (p _ _) (am (bU Kz) (am (p _ _) ?_))
 have fl:∀(e:Nat→Bool) (ops:List Op) (p:Nat),(cn e ops p).f.length=ops.length:=fun e ops p=>by
  induction p with
  |zero=>exact Kf _
  |succ p ih =>
   rw[cn]
   cases ops[p]? with
   |none=>exact ih
   |some o =>
    have k:∀(S:FoSt) (x:List Nat) (a:Nat) (r:List Nat) (w:Option aJ),S.f.length=ops.length→(fN w a r S x).f.length=ops.length:=fun S x a r w hS=>by
     unfold fN
     cases w with
     |none=>exact hS
     |some w =>
      refine(?_:(x.foldl (fun(f:aA) p=>f.set p none) _).length=_)
      have:∀(x:List Nat) (f:aA),(x.foldl (fun(f:aA) p=>f.set p none) f).length=f.length:=fun x=>by
       induction x with
       |nil=>exact fun f=>rfl
       |cons y x ih=>exact fun f=>(ih _).trans KJ
      rw[this,KJ];exact hS
    have j:∀(S:FoSt),S.f.length=ops.length→(eK p S o).f.length=ops.length:=fun S hS=>by
     unfold eK
     split
     ·unfold dZ
      split
      ·exact k _ _ _ _ _ hS
      ·exact k _ _ _ _ _ hS
      ·exact hS
     ·exact hS
     ·exact hS
    refine j _ ?_
    split<;>exact ih
 refine am (bU (fl _ _ _)) (am (p _ _) (am (bU Kz) (am (p _ _) (am (bU Kz) (bU (gw _))))))
end
end
section
section
variable {c:Cd} {h:Nat→List Nat}
theorem tj{g:Nat→Nat}{o:Op}(e:o.relabel g=o):∀l∈o.labels,g l=l:=fun l hl=>by
 have:o.labels.map g=o.labels.map id:=(dF g o).symm.trans ((congrArg Op.labels e).trans (List.map_id _).symm)
 exact List.map_inj_left.mp this l hl
theorem nD{j:Nat}:∀{x:List Nat} {f:aA},f[j]?=some none→(x.foldl (fun(f:aA) p=>f.set p none) f)[j]?=some none
 |[],f,e=>e
 |p::x,f,e=>nD (x:=x) (by
  by_cases z:p=j
  ·subst z;exact List.getElem?_set_self (Kk.mp e).1
  ·refine ab (Kv z) ?_;exact e)
theorem lT{j a:Nat}{r x:List Nat}{S:FoSt}{w:Option aJ}{y:Op}(ha:S.f[a]?=some (some y))(e:S.f[j]?=some none):(fN w a r S x).f[j]?=some none:=by
 cases w with
 |none=>exact e
 |some w=>exact nD (by
   refine ab (Kv fun z=>by replace ha:=z▸ha;replace ha:=e▸ha;cases ha) ?_;exact e)
set_option tactic.hygienic true in
theorem pM{j p:Nat}{S:FoSt}{o:Op}(x:Line c h S.f p S.line)(e:S.f[j]?=some none):(eK p S o).f[j]?=some none:=by
 unfold eK
 split
 ·unfold dZ
  split
  ·rename_i a r _ hl
   obtain⟨_,_,⟨w,h3,_⟩,_⟩:=hl▸x
   exact lT h3 e
  ·rename_i b a r _ hl
   obtain⟨_,_,_,_,_,⟨w,h3,_⟩,_⟩:=hl▸x
   exact lT h3 e
  ·exact e
 ·exact e
 ·exact e
theorem pO(W:WF c)(T:Typed c h){j p:Nat}(e:(cn (aU c) c.ops p).f[j]?=some none):∀d,p+d≤c.ops.length→(cn (aU c) c.ops (p+d)).f[j]?=some none
 |0,_=>e
 |d+1,hd=>by
  have ih:=pO W T e d (Nat.le_of_succ_le hd)
  have x:=fO W T (p+d) (Nat.le_of_succ_le hd)
  have ho:c.ops[p+d]?=some c.ops[p+d]:=Kj hd
  refine(?_:(cn (aU c) c.ops (p+d+1)).f[j]?=_)
  rewrite[cn];refine ab ho ?_
  refine(?_:(eK (p+d) (if aU c (p+d)=true then _ else _) _).f[j]?=_)
  split
  ·exact pM (c:=c) (h:=h) trivial ih
  ·exact pM x.line ih
theorem pN{p:Nat}{o:Op}(ho:c.ops[p]?=some o)(he:h p≠[])(T:Typed c h):cn (aU c) c.ops (p+1)=eK p (cn (aU c) c.ops p) o:=by
 rewrite[cn];refine ab ho ?_
 refine(?_:eK p (if aU c p=true then _ else _) o=_)
 refine ab (Kg fun z=>he (T.ent p (ent_true.mp z))) ?_;rfl
structure Neat(c:Cd):Prop where
 lab:∀o∈c.ops,∀l∈o.labels,bc none c.ops (c.ops.length+1) l=some l∨bc none c.ops (c.ops.length+1) l=none
 met:∀p,p<c.ops.length→Met c p
 idle:∀(p:Nat) (o:Op),c.ops[p]?=some o→fG c.ops p o=false
 test:∀(p:Nat) (d:Bool) (l k:Nat),c.ops[p]?=some (.br (.test d) l)→c.ops[p+1]?=some (.br (.test d) k)→Ent c (p+1)
 sum:∀(p:Nat) (a b:aJ) (l k j:Option Nat),c.ops[p]?=some (.rk (.push (.num a.1 a.2)) l)→c.ops[p+1]?=some (.rk (.push (.num b.1 b.2)) k)→c.ops[p+2]?=some (.rk (.calc 90) j)→False
theorem Cp(x:Well c)(hr:ce c=c):Neat c:=by
 have s:=(qV x).2 (by refine ab hr ?_;rfl)
 have hl:led c.ops=c.ops:=by
  have:=s.eq
  replace this:=hr▸this
  exact(congrArg Cd.ops this).symm
 have hm:=s.met
 have hi:=s.idle
 have hf:=s.fold
 have ha:=s.ask
 have hc:(⟨led c.ops,c.bg⟩:Cd)=c:=by refine ab hl ?_;rfl
 rw[hc,hl]at hm hf ha
 replace hi:=hl▸hi
 obtain⟨W,h,T⟩:=x
 have gs:∀{p:Nat} {o:Op},c.ops[p]?=some o→(c.ops.map some)[p]?=some (some o):=fun{p o} e=>by refine ab (Ko) ?_;refine ab e ?_;rfl
 refine⟨fun o ho l hl'=>?_,fun p hp=>?_,fun p o e=>?_,fun p d l k e1 e2=>?_,fun p a b l k j e1 e2 e3=>?_⟩
 ·have e1:bE c.ops o=o.relabel (bz o c.ops):=s.led o ho
  have e2:bE c.ops o=o:=by
   obtain⟨p,e⟩:=List.getElem?_of_mem ho
   have:=oD e
   replace this:=hl▸this;replace this:=e▸this
   exact(oInj this).symm
  have e3:=tj (e1.symm.trans e2) l hl'
  cases e4:bc none c.ops (c.ops.length+1) l with
  |none=>exact .inr rfl
  |some f =>
   refine .inl ?_
   unfold bz at e3
   cases e5:bc o.asks c.ops (c.ops.length+1) l with
   |none=>replace e3:=e5▸e3;replace e3:=e4▸e3;exact congrArg some e3
   |some g =>
    replace e3:=e5▸e3
    have e3:g=l:=e3
    subst e3
    have z:bC none c.ops g=false:=Bool.eq_false_iff.mpr fun z=>by
     have:=iT s.led e5
     replace this:=(tv z)▸this;injection this
    rewrite[cp]at e4;replace e4:=z▸e4
    exact e4.symm
 ·have:(iw c)[p]?=some (some c.ops[p]):=by refine ab hm ?_;exact gs (Kj hp)
  exact(gP this).2
 ·have:(idle c.ops)[p]?=some (some o):=by refine ab hi ?_;exact gs e
  obtain⟨y,h1,h2⟩:=ck this
  replace h1:=e▸h1;replace h1:=oInj h1;subst h1
  split at h2
  ·injection h2
  ·rename_i z;exact Bool.eq_false_iff.mpr z
 ·apply Classical.byContradiction
  intro he
  have:(dC (aU c) c.ops)[p+1]?=some (some (.br (.test d) k)):=by refine ab ha ?_;exact gs e2
  obtain⟨y,h1,h2⟩:=gU this
  replace h1:=e2▸h1;replace h1:=oInj h1;subst h1
  replace h2:=(lX e1)▸h2
  unfold eT at h2
  replace h2:=(Kg fun z=>he (ent_true.mp z))▸h2
  have hh:d∈(cq (dK c p) (.br (.test d) l)).hold:=by
   refine(?_:d∈(if d∈(dK c p).hold then dK c p else ⟨(dK c p).hold++[d],(dK c p).key⟩:AsSt).hold)
   split
   ·rename_i z;exact z
   ·exact KG _ (.head _)
  have h2:(if d∈(cq (dK c p) (.br (.test d) l)).hold then none else some _)=_:=h2
  replace h2:=(Kh hh)▸h2
  injection h2
 ·obtain⟨t1,_,_,g1⟩:=T.op p _ e1
  obtain⟨t2,_,_,g2⟩:=T.op (p+1) _ e2
  have lt:p+2<c.ops.length:=(Kk.mp e3).1
  have f2:=pN e2 (by refine ab g1 ?_;exact fun z=>by injection z) T
  have f3:=pN e3 (by refine ab g2 ?_;exact fun z=>by injection z) T
  have f1:∃r,(cn (aU c) c.ops (p+1)).line=p::r:=by rewrite[cn];refine ab e1 ?_;exact⟨_,rfl⟩
  obtain⟨r,f1⟩:=f1
  have k2:(cn (aU c) c.ops (p+2)).line=(p+1)::p::r:=by refine ab f2 ?_;refine bT f1 ?_;rfl
  have hole:(cn (aU c) c.ops (p+3)).f[p+2]?=some none:=by
   refine ab f3 ?_
   refine(?_:(dZ 90 (p+2) _).f[p+2]?=_)
   unfold dZ
   refine ab k2 ?_
   refine(?_:(fN (some _) p r _ [p+1,p+2]).f[p+2]?=_)
   have x:=fO W T (p+2) (KN lt)
   refine(?_:(((((cn (aU c) c.ops (p+2)).f).set p _).set (p+1) none).set (p+2) none)[p+2]?=_)
   exact List.getElem?_set_self (by refine ab KJ ?_;refine ab KJ ?_;refine ab x.len ?_;exact lt)
  obtain⟨d,hd⟩:∃d,c.ops.length=p+3+d:=⟨c.ops.length-(p+3),(Nat.add_sub_of_le lt).symm⟩
  have fin:=pO W T hole d (bU hd.symm)
  rw[← hd]at fin
  have:(cI (aU c) c.ops)[p+2]?=some none:=fin
  replace this:=hf▸this;replace this:=(gs e3)▸this
  cases this
end
end
section
noncomputable def Bp:List Op→List Nat→List Nat→Prop
 |[],s,s'=>s=s'
 |o::os,s,s'=>∃m,o.Ty s m∧Bp os m s'
structure UnitOk(many:Nat)(us:List Op):Prop where
 ne:us≠[]
 ty:Bp us [] []
 per:∀a b,.perform a b∈us→a<many
 lv:∀q,.one (.leave q)∈us→0≤q
 sw:∀w,.one (.stop w)∈us→w≠85
noncomputable def aP:Nat→List (List Op)→List Nat
 |_,[]=>[]
 |n,u::us=>n::aP (n+u.length) us
theorem gY:∀(n:Nat) (us:List (List Op)),(aP n us).length=us.length
 |_,[]=>rfl
 |n,u::us=>congrArg (·+1) (gY _ us)
theorem DK:∀{us:List Op} {s s':List Nat},Bp us s s'→∃h:Nat→List Nat,h 0=s∧h us.length=s'∧∀(p:Nat) (o:Op),us[p]?=some o→o.Ty (h p) (h (p+1)):=by
 intro us
 induction us with
 |nil =>
  intro s s' e
  exact⟨fun zz=>s,rfl,e,fun p o z=>by injection z⟩
 |cons o us ih =>
  intro s s' z
  obtain⟨m,h1,h2⟩:=z
  obtain⟨h,e1,e2,e3⟩:=ih h2
  refine⟨fun p=>match p with|0=>s|p+1=>h p,rfl,e2,fun p o' z=>?_⟩
  cases p with
  |zero=>replace z:=oInj z;subst z;exact(show o.Ty s (h 0)from e1.symm▸h1)
  |succ p=>exact e3 p o' z
theorem CX{many:Nat}:∀{us:List (List Op)} (n:Nat),(∀u∈us,UnitOk many u)→∃h:Nat→List Nat,h 0=[]∧(∀s∈aP n us,n≤s∧s<n+us.flatten.length∧h (s-n)=[])∧∀(p:Nat) (o:Op),us.flatten[p]?=some o→o.Ty (h p) (h (p+1)):=by
 intro us
 induction us with
 |nil =>
  intro n _
  exact⟨fun zz=>[],rfl,fun s hs=>(nomatch hs),fun p o z=>by injection z⟩
 |cons u us ih =>
  intro n hu
  obtain⟨g,e1,e2,e3⟩:=ih (n+u.length) fun v hv=>hu v (.tail _ hv)
  have U:=hu u (.head _)
  obtain⟨h,f1,f2,f3⟩:=DK U.ty
  have up:0<u.length:=List.length_pos_iff.mpr U.ne
  have hl:(u::us).flatten.length=u.length+us.flatten.length:=by refine ab List.flatten_cons ?_;refine ab Kl ?_;rfl
  refine⟨fun p=>if p<u.length then h p else g (p-u.length),(Kh up).trans f1,fun s hs=>?_,fun p o z=>?_⟩
  ·refine ab hl ?_
   rcases mCo hs with rfl|hs
   ·exact⟨aR _,Nat.lt_add_of_pos_right (Kw up (KB _ _)),by show(if _ then _ else _)=_;rewrite[Nat.sub_self];refine ab (Kh up) ?_;exact f1⟩
   ·obtain⟨a,b,d⟩:=e2 s hs
    exact⟨am (KB _ _) a,Lf _ _ _▸b,by show(if _ then _ else _)=_;refine ab (Kg (LA.mpr (Nat.le_sub_of_add_le (am (bU (Lg _ _)) a)))) ?_;rw[Nat.sub_sub];exact d⟩
  ·rw[List.flatten_cons]at z
   show o.Ty (if _ then _ else _) (if _ then _ else _)
   by_cases lt:p<u.length
   ·rw[List.getElem?_append_left lt]at z
    have t:=f3 p o z
    refine ab (Kh lt) ?_
    by_cases l2:p+1<u.length
    ·refine ab (Kh l2) ?_;exact t
    ·have:p+1=u.length:=Nat.le_antisymm lt (LA.mp l2)
     refine ab (Kg l2) ?_;refine ab this ?_;rewrite[Nat.sub_self];refine ab e1 ?_;refine bT f2 ?_;refine bT this ?_;exact t
   ·rw[KX (Nat.le_of_not_lt lt)]at z
    refine ab (Kg lt) ?_;refine ab (Kg (LA.mpr (KO (LA.mp lt)))) ?_;refine ab (Nat.succ_sub (LA.mp lt)) ?_
    exact e3 _ o z
noncomputable def ij(us:List (List Op))(l:Nat):Nat:=(aP 0 us).getD (l%us.length) 0
noncomputable def nn(us:List (List Op))(heads:List Nat):Cd:=⟨us.flatten.map (Op.relabel (ij us)),heads.map fun i=>(aP 0 us).getD i 0⟩
theorem oZ{us:List (List Op)}{i:Nat}(h:i<us.length):(aP 0 us).getD i 0∈aP 0 us:=by
 have:i<(aP 0 us).length:=(gY 0 us).symm▸h
 refine ab (List.getD_eq_getElem?_getD) ?_;refine ab (Kj this) ?_
 exact KY this
theorem xQ{us:List (List Op)}{heads:List Nat}{w:Nat}(hw:w≠85)(hu:∀u∈us,UnitOk heads.length u)(hh:∀i∈heads,i<us.length+1):Well (nn (us++[[.one (.stop w)]]) heads):=by
 have hu':∀u∈us++[[.one (.stop w)]],UnitOk heads.length u:=fun u h=>by
  rcases KD.mp h with h|h
  ·exact hu u h
  ·cases mSng h
   exact⟨fun z=>(nomatch z),⟨[],⟨rfl,fun z=>(nomatch z)⟩,rfl⟩,fun a b z=>(nomatch mSng z),fun q z=>(nomatch mSng z),fun w' z=>by cases mSng z;exact hw⟩
 obtain⟨h,e1,e2,e3⟩:=CX 0 hu'
 generalize hv:us++[[.one (.stop w)]]=vs at *
 have vl:vs.length=us.length+1:=by refine bT hv ?_;refine ab Kl ?_;rfl
 have st:∀{s:Nat},s∈aP 0 vs→s<vs.flatten.length∧h s=[]:=fun{s} hs=>by
  have:=e2 s hs
  rw[Nat.zero_add]at this
  exact⟨this.2.1,this.2.2⟩
 have sl:∀l,ij vs l∈aP 0 vs:=fun l=>oZ (Nat.mod_lt _ (vl▸Nat.succ_pos _))
 have ln:(vs.flatten.map (Op.relabel (ij vs))).length=vs.flatten.length:=Kf _
 have get:∀{p:Nat} {o:Op},(vs.flatten.map (Op.relabel (ij vs)))[p]?=some o→∃x,vs.flatten[p]?=some x∧o=x.relabel (ij vs):=fun{p o} e=>by
  rw[Ko]at e
  obtain⟨x,a,b⟩:=Kt.mp e
  exact⟨x,a,b.symm⟩
 have mem:∀{o:Op},o∈vs.flatten.map (Op.relabel (ij vs))→∃u∈vs,∃x∈u,o=x.relabel (ij vs):=fun{o} e=>by
  obtain⟨x,a,b⟩:=K0.mp e
  obtain⟨u,h1,h2⟩:=List.mem_flatten.mp a
  exact⟨u,h1,x,h2,b.symm⟩
 have lab:∀{o:Op} {l:Nat},o∈vs.flatten.map (Op.relabel (ij vs))→l∈o.labels→l<vs.flatten.length∧h l=[]:=fun{o l} ho hl=>by
  obtain⟨u,_,x,_,rfl⟩:=mem ho
  rw[dF]at hl
  obtain⟨j,_,rfl⟩:=K0.mp hl
  exact st (sl j)
 have bgs:∀{b:Nat},b∈heads.map (fun i=>(aP 0 vs).getD i 0)→b<vs.flatten.length∧h b=[]:=fun{b} hb=>by
  obtain⟨i,hi,rfl⟩:=K0.mp hb
  exact st (oZ (Nat.lt_of_lt_of_eq (hh i hi) vl.symm))
 have fl:vs.flatten=us.flatten++[.one (.stop w)]:=by refine bT hv ?_;refine ab List.flatten_append ?_;rfl
 have ty:∀{p:Nat} {o:Op},(vs.flatten.map (Op.relabel (ij vs)))[p]?=some o→o.Ty (h p) (h (p+1)):=fun{p o} e=>by
  obtain⟨x,a,rfl⟩:=get e
  exact jA (e3 p x a)
 have per:∀{a b:Nat},.perform a b∈vs.flatten.map (Op.relabel (ij vs))→a<heads.length:=fun{a b} ho=>by
  obtain⟨u,h1,x,h2,e⟩:=mem ho
  cases x with
  |perform a' b'=>injection e with zi;subst zi;exact(hu' u h1).per _ _ h2
  |_=>injection e
 refine⟨⟨fun o ho l hl=>Nat.lt_of_lt_of_eq (lab ho hl).1 ln.symm,fun b hb=>Nat.lt_of_lt_of_eq (bgs hb).1 ln.symm,fun a b ho=>?_,fun p o e hg=>?_,?_,fun q ho=>?_,fun w ho=>?_⟩,h,e1,fun p o e=>ty e,fun p hp=>?_,fun b hb=>(bgs hb).2⟩
 ·refine(?_:a<(heads.map _).length)
  rw[Kf];exact per ho
 ·refine Nat.lt_of_lt_of_eq ?_ ln.symm
  obtain⟨x,a,rfl⟩:=get e
  rw[g8]at hg
  have lt:=(Kk.mp a).1
  rw[fl,Kl]at lt
  refine ab fl ?_;refine ab Kl ?_
  rcases Nat.lt_or_eq_of_le (Nat.le_of_lt_succ lt)with z|z
  ·exact Nat.succ_lt_succ z
  ·rw[fl,z,KX (aR _),Nat.sub_self]at a
   replace a:=oInj a;subst a;injection hg
 ·refine(?_:0<(vs.flatten.map _).length)
  refine ab ln ?_;refine ab fl ?_;refine ab Kl ?_;exact Nat.succ_pos _
 ·obtain⟨u,h1,x,h2,e⟩:=mem ho
  cases x with
  |one o=>injection e with zi;subst zi;exact(hu' u h1).lv q h2
  |_=>injection e
 ·obtain⟨u,h1,x,h2,e⟩:=mem ho
  cases x with
  |one o=>injection e with zi;subst zi;exact(hu' u h1).sw w h2
  |_=>injection e
 ·rcases hp with rfl|⟨i,o,e,hl|hl⟩
  ·exact e1
  ·exact(lab (mGe e) hl).2
  ·cases o with
   |perform a b =>
    rcases mCo hl with rfl|hl
    ·have:a<(heads.map fun i=>(aP 0 vs).getD i 0).length:=by rw[Kf];exact per (mGe e)
     refine(?_:h ((heads.map _).getD a 0)=[])
     refine ab (List.getD_eq_getElem?_getD) ?_;refine ab (Kj this) ?_;refine ab Option.getD_some ?_
     exact(bgs (KY this)).2
    ·cases mSng hl
     exact(ty e).2 rfl
   |_=>cases hl
section
variable {A:Ans} {c c':Cd}
noncomputable def Re.tr:Re→List TE
 |.go m=>m.tr
 |.fin t _=>t
theorem C0(bg:List Nat)(nx:Nat)(m:Mc)(o:Op):m.tr <+: (exec A bg nx m o).tr:=by
 cases o with
 |rk r l =>
  refine(?_:m.tr <+: (aM nx l (aI A m r)).tr)
  unfold aM
  have h:=(gO (A:=A) m r).2.1
  cases (aI A m r).1 with
  |some w=>refine(?_:m.tr <+: (aI A m r).2.tr);refine ab h ?_;exact List.prefix_refl _
  |none=>cases l<;>(refine(?_:m.tr <+: (aI A m r).2.tr);refine ab h ?_;exact List.prefix_refl _)
 |br b l =>
  cases b with
  |put n=>exact List.prefix_append _ _
  |less =>
   refine(?_:m.tr <+: (dU A nx m l .less).tr)
   have e:dU A nx m l .less=if 0<m.slot.getD 0 then (m.setSlot (m.slot.getD 0-1)).to nx else m.to l:=rfl
   refine ab e ?_
   split
   ·refine(?_:m.tr <+: (m.setSlot _).tr);rw[gh];exact List.prefix_refl _
   ·exact List.prefix_refl _
  |_=>exact List.prefix_refl _
 |perform a b =>
  refine(?_:m.tr <+: (if 20<m.up.length+1 then Re.fin m.tr .fault else .go { m with up:=⟨b,nx,none⟩::m.up,place:=bg.getD a 0 }).tr)
  split<;>exact List.prefix_refl _
 |one o =>
  cases o with
  |leave p =>
   obtain⟨q,s,up,b,k,t⟩:=m
   cases up with
   |nil=>exact List.prefix_refl _
   |cons g r =>
    refine(?_:t <+: (bK nx _ p).tr)
    unfold bK
    dsimp only
    split<;>exact List.prefix_refl _
  |count=>refine(?_:m.tr <+: (m.pop.setSlot _).tr);rw[gh];exact List.prefix_refl _
  |do_ d=>exact List.prefix_append _ _
  |stop w=>exact List.prefix_refl _
 |_=>exact List.prefix_refl _
theorem wx:∀(n:Nat) (m:Mc),m.tr <+: (aS A c n m).tr
 |0,m=>List.prefix_refl _
 |n+1,m=>by
  refine(?_:m.tr <+: (match bR A c m with|.go t=>aS A c n t|.fin t e=>Re.fin t e).tr)
  have h:m.tr <+: (bR A c m).tr:=by
   unfold bR
   split
   ·exact C0 _ _ _ _
   ·exact List.prefix_refl _
  cases e:bR A c m with
  |go t=>rw[e]at h;exact h.trans (wx n t)
  |fin t e'=>rw[e]at h;exact h
theorem zB(h:Refines A c' c)(n:Nat):(aS A c' n start).obs=(aS A c n start).obs∨((aS A c n start).obs.2=.steps∧((aS A c' n start).obs.1).take (aS A c n start).obs.1.length=(aS A c n start).obs.1):=by
 obtain⟨m,h1,h2⟩:=h n
 obtain⟨k,rfl⟩:∃k,m=n+k:=⟨m-n,(Nat.add_sub_of_le h1).symm⟩
 cases e:aS A c n start with
 |fin t x=>rw[mh k e]at h2;exact .inl h2
 |go s =>
  rw[gi e]at h2
  refine .inr ⟨rfl,?_⟩
  refine ab h2 ?_
  have:(aS A c k s).obs.1=(aS A c k s).tr:=by cases aS A c k s<;>rfl
  refine ab this ?_
  exact(List.prefix_iff_eq_take.mp (wx k s)).symm
end
end
section
section
variable {A:Ans} {c:Cd} {h:Nat→List Nat}
noncomputable def StOk:List Nat→List aJ→Prop
 |[],[]=>True
 |t::s,w::r=>okL t w∧t≤2∧StOk s r
 |_,_=>False
theorem StOk.nil{r:List aJ}(x:StOk [] r):r=[]:=by cases r with|nil=>rfl|cons=>exact x.elim
theorem StOk.cons{t:Nat}{s:List Nat}{r:List aJ}(x:StOk (t::s) r):∃w r',r=w::r'∧okL t w∧t≤2∧StOk s r':=by
 cases r with
 |nil=>exact x.elim
 |cons w r=>exact⟨w,r,rfl,x⟩
noncomputable def Ans.ok(A:Ans):Prop:=∀n x w,A.ref n x=some w→okL 0 w
structure MI(c:Cd)(h:Nat→List Nat)(m:Mc):Prop where
 place:m.place<c.ops.length
 st:StOk (h m.place) m.stack
 up:Up (fun p=>p<c.ops.length∧h p=[]) (fun q=>0≤q) m
theorem MI.start(W:WF c)(T:Typed c h):MI c h start:=⟨W.pos,by refine(?_:StOk (h 0) []);refine ab T.zero ?_;trivial,start_up⟩
theorem Gk{r:Rk}{m:Mc}{s s':List Nat}(hA:A.ok)(t:r.Ty s s')(x:StOk s m.stack):∀w,(aI A m r).1=some w→StOk s' (w::(aI A m r).2.stack):=by
 intro w e
 cases r with
 |push o =>
  cases o with
  |num u v =>
   obtain⟨t,h1,h2,rfl⟩:=t
   replace e:=oInj e;subst e
   exact⟨h2,h1,x⟩
  |ref i =>
   cases (show s'=_ from t)
   exact⟨hA _ _ _ e,Kx _,x⟩
 |«calc» g =>
  have t:if (g==98)=true then ∃t r,s=t::r∧s'=s else ∃a b t r,s=b::a::r∧s'=t::r∧a<t∧b<t∧t≤2:=t
  unfold aI at e ⊢
  dsimp only at e ⊢
  split at t
  ·rename_i z
   rw[Kh z]at e ⊢
   obtain⟨k,r,rfl,rfl⟩:=t
   obtain⟨v,r',h1,h2,h3,h4⟩:=x.cons
   replace e:=oInj e;subst e
   refine⟨?_,h3,?_⟩
   ·refine(?_:okL k (dj (m.stack.headD (0,0))))
    refine ab h1 ?_
    exact⟨by refine(?_:(-v.1).natAbs<_);rw[Int.natAbs_neg];exact h2.1,h2.2⟩
   ·refine(?_:StOk r m.stack.tail)
    refine ab h1 ?_;exact h4
  ·rename_i z
   rw[Kg z]at e ⊢
   obtain⟨a,b,j,r,rfl,rfl,l1,l2,l3⟩:=t
   obtain⟨v,r',h1,h2,h3,h4⟩:=x.cons
   obtain⟨u,r'',rfl,g2,g3,g4⟩:=h4.cons
   obtain⟨j,rfl⟩:∃k,j=k+1:=⟨j-1,(Nat.succ_pred_eq_of_pos (bD (Kx _) l1)).symm⟩
   have e:cO g (m.stack.tail.headD (0,0)) (m.stack.headD (0,0))=some w:=e
   rw[h1]at e
   refine⟨sU (g2.mono (Nat.le_of_lt_succ l1)) (h2.mono (Nat.le_of_lt_succ l2)) e,l3,?_⟩
   refine(?_:StOk r m.stack.tail.tail)
   refine ab h1 ?_;exact g4
theorem fq(m:Mc)(i:Int):(m.setSlot i).stack=m.stack:=by
 obtain⟨p,s,up,b,k,t⟩:=m
 cases up<;>rfl
theorem tS{o:Op}{s s':List Nat}{r:List aJ}(hn:∀r l,o≠.rk r l)(t:o.Ty s s')(x:StOk s r):(if o.takes=true then ∃t w,s=[t]∧r=[w]∧okN w else r=[])∧(o.goesOn=true→s'=[]):=by
 have t:(if o.takes=true then ∃t,s=[t]else s=[])∧(o.goesOn=true→s'=[]):=by
  cases o with
  |rk r l=>exact absurd rfl (hn r l)
  |_=>exact t
 refine⟨?_,t.2⟩
 have t:=t.1
 split
 ·rename_i z
  rw[Kh z]at t
  obtain⟨k,rfl⟩:=t
  obtain⟨w,r',rfl,h2,h3,h4⟩:=x.cons
  cases h4.nil
  exact⟨k,w,rfl,rfl,h2.okN h3⟩
 ·rename_i z
  rw[Kg z]at t
  subst t
  exact x.nil
theorem vK{bg:List Nat}{nx:Nat}{m:Mc}{o:Op}(hn:∀r l,o≠.rk r l)(h0:if o.takes=true then ∃w,m.stack=[w]else m.stack=[]):(exec A bg nx m o).ok fun t=>t.stack=[]:=by
 cases o with
 |rk r l=>exact absurd rfl (hn r l)
 |br b l =>
  cases b with
  |put n =>
   obtain⟨w,e⟩:=h0
   refine(?_:m.stack.tail=[])
   refine ab e ?_;rfl
  |less =>
   refine(?_:(dU A nx m l .less).stack=[])
   have e:dU A nx m l .less=if 0<m.slot.getD 0 then (m.setSlot (m.slot.getD 0-1)).to nx else m.to l:=rfl
   refine ab e ?_
   split
   ·exact(fq m _).trans h0
   ·exact h0
  |_=>exact h0
 |jump l=>exact h0
 |choose a b =>
  obtain⟨w,e⟩:=h0
  refine(?_:m.stack.tail=[])
  refine ab e ?_;rfl
 |perform a b =>
  refine(?_:(if 20<m.up.length+1 then Re.fin m.tr .fault else .go { m with up:=⟨b,nx,none⟩::m.up,place:=bg.getD a 0 }).ok _)
  split
  ·exact trivial
  ·exact h0
 |one o =>
  cases o with
  |leave p =>
   obtain⟨q,s,up,b,k,t⟩:=m
   cases up with
   |nil=>exact h0
   |cons g r =>
    refine(?_:(bK nx _ p).stack=[])
    unfold bK
    dsimp only
    split<;>exact h0
  |count =>
   obtain⟨w,e⟩:=h0
   refine(?_:(m.pop.setSlot _).stack=[])
   rw[fq]
   refine(?_:m.stack.tail=[])
   refine ab e ?_;rfl
  |stop w=>exact trivial
  |do_ d=>exact h0
theorem Cq(W:WF c)(T:Typed c h)(hA:A.ok){m:Mc}(x:MI c h m):(bR A c m).ok (MI c h):=by
 obtain⟨o,ho⟩:∃o,c.ops[m.place]?=some o:=⟨_,Kj x.place⟩
 refine ab (bO ho) ?_
 have ty:=T.op m.place o ho
 have mem:=mGe ho
 have hl:∀l∈o.labels,l<c.ops.length∧h l=[]:=fun l hl=>⟨W.lab o mem l hl,T.ent l (Ent.lab ho hl)⟩
 have z:=iD (A:=A) (bg:=c.bg) (nx:=m.place+1) (o:=o) x.up hl fun a b e=>by
  subst e
  exact⟨⟨W.begin a,T.ent _ (Ent.per ho).1⟩,⟨W.on _ _ ho rfl,T.ent _ (Ent.per ho).2⟩,KL b⟩
 by_cases hn:∀r l,o≠.rk r l
 ·have tr:=tS hn ty x.st
  have y:=vK (A:=A) (bg:=c.bg) (nx:=m.place+1) hn (by
   have t:=tr.1
   split
   ·rename_i q;rw[Kh q]at t;obtain⟨_,w,_,e,_⟩:=t;exact⟨w,e⟩
   ·rename_i q;rw[Kg q]at t;exact t)
  refine Re.ok_mono (fun t ht=>?_) (Re.ok_and z y)
  obtain⟨⟨h1,h2⟩,h3⟩:=ht
  have st:∀p,h p=[]→StOk (h p) t.stack:=fun p e=>by refine ab e ?_;refine ab h3 ?_;trivial
  rcases h1 with ⟨e,hg⟩|⟨lt,e⟩
  ·exact⟨by refine ab e ?_;exact W.on _ _ ho hg,st _ (by refine ab e ?_;exact tr.2 hg),h2⟩
  ·exact⟨lt,st _ e,h2⟩
 ·have:∃r l,o=.rk r l:=by
   cases o with
   |rk r l=>exact⟨r,l,rfl⟩
   |_=>exact absurd (fun r l=>by simp) hn
  obtain⟨r,l,rfl⟩:=this
  have up:=(gO (A:=A) m r).1
  refine(?_:(aM (m.place+1) l (aI A m r)).ok _)
  have ht:=Gk (A:=A) (m:=m) hA ty x.st
  unfold aM
  cases e:(aI A m r).1 with
  |some w=>exact⟨W.on _ _ ho rfl,ht w e,fun f hf=>x.up f (up▸hf)⟩
  |none =>
   cases l with
   |none=>exact trivial
   |some l =>
    obtain⟨a,b⟩:=hl l (.head _)
    exact⟨a,by refine(?_:StOk (h l) []);refine ab b ?_;trivial,fun f hf=>x.up f (up▸hf)⟩
end
end
section
noncomputable def Op.code:Op→Nat
 |.rk (.push _) _=>14
 |.rk (.calc _) _=>15
 |.br (.put _) _=>16
 |.br (.key _) _=>17
 |.br (.test _) _=>18
 |.br .less _=>19
 |.jump _=>13
 |.choose _ _=>12
 |.perform _ _=>118
 |.one (.do_ _)=>103
 |.one (.leave _)=>119
 |.one .count=>120
 |.one (.stop _)=>24
noncomputable def Op.snd:Op→V
 |.rk (.push o) _=>o.toV
 |.rk (.calc s) _=>.str s
 |.br (.put n) _=>.tup [.str 186,.int n]
 |.br (.key k) _=>.str k
 |.br (.test c) _=>cond c
 |.br .less _=>.int 0
 |.jump l=>nV l
 |.choose a b=>.tup [nV a,nV b]
 |.perform a _=>nV a
 |.one (.do_ d)=>.tup [.str 185,.int d]
 |.one (.leave p)=>.int p
 |.one .count=>.int 0
 |.one (.stop w)=>.str w
theorem qn(o:Op):∃r,o.toV=.tup (.str o.code::o.snd::r):=by
 cases o with
 |rk r l=>cases r<;>exact⟨_,rfl⟩
 |br b l=>cases b<;>exact⟨_,rfl⟩
 |one o=>cases o<;>exact⟨_,rfl⟩
 |_=>exact⟨_,rfl⟩
theorem cW{H:Hp}(o:Op):bA H o.toV (.int 0)=some (.str o.code):=by
 cases o with
 |rk r l=>cases r<;>rfl
 |br b l=>cases b<;>rfl
 |one o=>cases o<;>rfl
 |_=>rfl
theorem AT{H:Hp}(o:Op):bA H o.toV (.int 1)=some o.snd:=by
 cases o with
 |rk r l=>cases r<;>rfl
 |br b l=>cases b<;>rfl
 |one o=>cases o<;>rfl
 |_=>rfl
theorem Dc{H:Hp}(c d:Bool):jZ H (cond c) (cond d)=some (c==d):=by cases c<;>cases d<;>rfl
noncomputable abbrev bV(H:Hp)(a:Nat)(ops:List Op):Prop:=H a=some (.list (ops.map Op.toV))
noncomputable abbrev aN(H:Hp)(a:Nat)(ns:List Nat):Prop:=H a=some (.list (ns.map nV))
theorem bt{H:Hp}{a l:Nat}{ops:List Op}{o:Op}(e:bV H a ops)(h:ops[l]?=some o):bA H (.obj a) (nV l)=some o.toV:=getL e (by refine ab (Ko) ?_;refine ab h ?_;rfl)
theorem gu{H:Hp}{a l n:Nat}{ns:List Nat}(e:aN H a ns)(h:ns[l]?=some n):bA H (.obj a) (nV l)=some (nV n):=getL e (by refine ab (Ko) ?_;refine ab h ?_;rfl)
theorem cy{H:Hp}{a:Nat}{ops:List Op}(e:bV H a ops):rN H (.obj a)=some (ops.length:Int):=by refine ab (dq e) ?_;rw[Kf]
noncomputable def QV(v:V)(q:Option Br):Prop:=(v=.none∧q=none)∨∃(o:Op) (b:Br),v=o.toV∧o.asks=some b∧q=some b
theorem rU{H:Hp}(o:Op):di H .isnot o.toV .none=some true:=by
 obtain⟨r,e⟩:=qn o
 refine ab e ?_;rfl
theorem aC{P:Prop}(h:false=true):P:=(Bool.false_ne_true h).elim
theorem jm{o:Op}(h:(o.code==13)=true):∃l,o=.jump l:=by
 cases o with
 |jump l=>exact⟨l,rfl⟩
 |rk r l=>cases r<;>exact aC h
 |br b l=>cases b<;>exact aC h
 |one o=>cases o<;>exact aC h
 |_=>exact aC h
theorem jl{o:Op}(h:(o.code==18)=true):∃c l,o=.br (.test c) l:=by
 cases o with
 |br b l=>cases b<;>first|exact⟨_,_,rfl⟩|exact aC h
 |rk r l=>cases r<;>exact aC h
 |one o=>cases o<;>exact aC h
 |_=>exact aC h
theorem rW{o:Op}(h:(o.code==17)=true):∃k l,o=.br (.key k) l:=by
 cases o with
 |br b l=>cases b<;>first|exact⟨_,_,rfl⟩|exact aC h
 |rk r l=>cases r<;>exact aC h
 |one o=>cases o<;>exact aC h
 |_=>exact aC h
theorem lK{p:Op}{b:Br}(h:p.asks=some b):(∃c j,p=.br (.test c) j∧b=.test c)∨∃k j,p=.br (.key k) j∧b=.key k:=by
 cases p with
 |br d j =>
  cases d with
  |test c=>replace h:=oInj h;subst h;exact .inl ⟨_,_,rfl,rfl⟩
  |key k=>replace h:=oInj h;subst h;exact .inr ⟨_,_,rfl,rfl⟩
  |_=>injection h
 |_=>injection h
theorem mW{q:Option Br}{o:Op}(h:(o.code==13)=false)(h2:∀(p:Op) (b:Br),q=some b→p.asks=some b→(o.code==p.code)=false):o.passed q=false:=by
 cases o with
 |jump l=>injection h
 |br b l =>
  cases q with
  |none=>rfl
  |some a =>
   cases b with
   |test c=>cases a with
    |test d=>have:=h2 (.br (.test d) 0) _ rfl rfl;injection this
    |_=>rfl
   |key c=>cases a with
    |key d=>have:=h2 (.br (.key d) 0) _ rfl rfl;injection this
    |_=>rfl
   |_=>rfl
 |_=>rfl
section
variable {n:Nat} {H:Hp} {Q:V→Hp→Prop} {E:Nat→Hp→Prop}
theorem m9{o:Op}(h:Q (.bool o.num.isSome) H):Fn (n+1) 38 [o.toV] H Q E:=by
 refine⟨bd rfl,aa (cW o) ?_⟩
 cases o with
 |rk r l =>
  cases r with
  |push q=>cases q<;>exact iH rfl h
  |«calc» s=>exact ez rfl h
 |br b l=>cases b<;>exact ez rfl h
 |one o=>cases o<;>exact ez rfl h
 |_=>exact ez rfl h
theorem wR{a l:Nat}{ops:List Op}{q:Option Br}{v:V}(ha:bV H a ops)(hv:QV v q)(h:Q (.bool (bC q ops l)) H):Fn (n+1) 34 [v,.obj a,nV l] H Q E:=by
 refine⟨bd rfl,aa (cy ha) ?_⟩
 unfold bC at h
 cases e:ops[l]? with
 |none =>
  replace h:=e▸h
  exact bB (decide_eq_true (Int.ofNat_le.mpr (List.getElem?_eq_none_iff.mp e))) h
 |some o =>
  replace h:=e▸h
  refine aH (decide_eq_false fun z=>LA.mpr (Int.ofNat_le.mp z) (Kk.mp e).1) (aa (bt ha e) (aa (cW o) (aF (fun e1=>?_) fun e1=>?_)))
  ·obtain⟨k,rfl⟩:=jm e1;exact h
  ·rcases hv with ⟨rfl,rfl⟩|⟨p,c,rfl,hp,rfl⟩
   ·exact ez rfl (qe Q (congrArg V.bool (mW (q:=none) e1 fun zz zz z=>by injection z)) h)
   ·refine aa (rU p) (iH rfl (aa (cW o) (aa (cW p) (bM (fun e2=>aa (AT o) (aa (AT p) (aa ?_ h))) fun e2=>?_))))
    ·rcases lK hp with ⟨y,j,rfl,rfl⟩|⟨y,j,rfl,rfl⟩
     ·obtain⟨x,k,rfl⟩:=jl e2;exact Dc x y
     ·obtain⟨x,k,rfl⟩:=rW e2;rfl
    ·refine qe Q (congrArg V.bool ((mW (q:=some c) e1 fun p' b z hb=>?_).trans e2.symm)) h
     replace z:=oInj z;subst z
     rcases lK hp with ⟨y,j,rfl,rfl⟩|⟨y,j,rfl,rfl⟩
     ·rcases lK hb with ⟨_,_,rfl,_⟩|⟨_,_,_,z⟩
      ·exact e2
      ·injection z
     ·rcases lK hb with ⟨_,_,_,z⟩|⟨_,_,rfl,_⟩
      ·injection z
      ·exact e2
end
end
section
section
variable {n:Nat} {H:Hp} {Q:V→Hp→Prop} {E:Nat→Hp→Prop}
theorem qL{N i:Nat}(h:i<N):N-i=N-(i+1)+1:=(Nat.succ_pred_eq_of_pos (Nat.sub_pos_of_lt h)).symm
theorem DV{k:Nat}(h:k≤1000):0≤(k:Int)+1∧(k:Int)+1≤2^20:=⟨KL (k+1),cz (Int.ofNat_le.mpr (dc h)) (by decide)⟩
theorem ku{k:Nat}(h:k≤1000):0≤(k:Int)∧(k:Int)≤2^20:=⟨KL k,cz (Int.ofNat_le.mpr h) (by decide)⟩
theorem zJ{H:Hp}{q:Option Br}{o:Op}(h:o.passed q=true):bA H o.toV (.int (-1))=some (nV o.lab):=by
 cases o with
 |jump l=>rfl
 |br b l=>cases b<;>rfl
 |_=>exact aC h
theorem nK{K:du}{KH:du}{LN:Nat→Option (List Nat×Node)}{X:Nat→St→Prop}{a l:Nat}{ops:List Op}{q:Option Br}{v:V}{L:Lc}{QQ:Fl→St→Prop}
  (hK:∀l (Q:V→Hp→Prop) E,Q (.bool (bC q ops l)) H→K (.clo 34 []) [v,.obj a,nV l] H Q E)
  (ha:bV H a ops) (hb:ops.length≤1000) (e0:L 132=some v) (e1:L 6=some (.obj a)) (e2:L 22=some (nV l)) (e3:L 62=some (nV l))
  (hret:∀f σ,bc q ops (ops.length+1) l=some f→σ.H=H→QQ (.ret (nV f)) σ)
  (hnext:∀L',L' 6=some (.obj a)→L' 22=some (nV l)→bc q ops (ops.length+1) l=none→QQ .next ⟨L',H⟩):wS (at? (at? Bs 0).b? 1) (bv T0 K KH false [] LN) ⟨L,H⟩ QQ X:=by
 refine aa e1 (aa (cy ha) ⟨rfl,DV hb,cX (N:=ops.length+1) (fun i L H'=>H'=H∧L 132=some v∧L 6=some (.obj a)∧L 22=some (nV l)∧∃f,L 62=some (nV f)∧bc q ops (ops.length+1-i) f=bc q ops (ops.length+1) l) ⟨rfl,e0,e1,e2,l,e3,rfl⟩ ?_ ?_⟩)
 ·rintro i L _ K hi ⟨rfl,g0,g1,g2,f,g3,g4⟩ T
  have e6:=qL hi
  rw[e6,cp]at g4
  refine aa g0 (aa g1 (aa g3 (hK f _ _ (aF (fun e=>?_) fun e=>?_))))
  ·rw[Kg (ch (nT e))]at g4
   exact aa g3 (T.ret _ _ (hret f _ g4.symm rfl))
  ·have e':=nF e
   rw[Kh e']at g4
   obtain⟨o,h1,h2,h3⟩:=d7 e'
   exact aa g1 (aa g3 (aa (bt ha h1) (aa (zJ h2) (T.go _ _ trivial ⟨rfl,g0,g1,g2,o.lab,rfl,h3▸g4⟩))))
 ·rintro L _ ⟨rfl,g0,g1,g2,f,g3,g4⟩
  rw[Nat.sub_self]at g4
  exact hnext L g1 g2 g4.symm
theorem yd{o:Op}(h:([V.str 18,V.str 17].any fun v=>V.eqb v (.str o.code))=true):QV o.toV o.asks:=by
 cases o with
 |br b l =>
  cases b with
  |test c=>exact .inr ⟨_,_,rfl,rfl,rfl⟩
  |key c=>exact .inr ⟨_,_,rfl,rfl,rfl⟩
  |_=>exact aC h
 |rk r l=>cases r<;>exact aC h
 |one o=>cases o<;>exact aC h
 |_=>exact aC h
theorem vZ{o:Op}(h:([V.str 18,V.str 17].any fun v=>V.eqb v (.str o.code))=false):o.asks=none:=by
 cases o with
 |br b l =>
  cases b with
  |test c=>exact aC h.symm
  |key c=>exact aC h.symm
  |_=>rfl
 |_=>rfl
theorem DC{a l:Nat}{ops:List Op}{o:Op}(ha:bV H a ops)(hb:ops.length≤1000)(h:Q (nV (bz o ops l)) H):Fn (n+2) 35 [o.toV,.obj a,nV l] H Q E:=by
 have hK:∀{v:V} {q:Option Br},QV v q→∀l (Q:V→Hp→Prop) E,Q (.bool (bC q ops l)) H→AC T0 (n+1) false (.clo 34 []) [v,.obj a,nV l] H Q E:=fun hv l Q E h=>wR (n:=n) ha hv h
 have go:∀{v:V},QV v o.asks→jW (.tup [v,.none]) [v,.none] (fun u τ K=>dm (bv T0 (AC T0 (n+1) false) (AC T0 (n+1) true) false [] F35.LN) 132 false u τ fun τ=>wSs (at? Bs 0).b? (bv T0 (AC T0 (n+1) false) (AC T0 (n+1) true) false [] F35.LN) τ K fun k σ'=>E k σ'.H) [v,.none]
   ⟨eD F35 [o.toV,.obj a,nV l],H⟩ fun fl σ=>match fl with|.next=>wSs [.ret (.loc 22)] (bv T0 (AC T0 (n+1) false) (AC T0 (n+1) true) false [] F35.LN) σ (fun fl σ'=>match fl with|.ret v=>Q v σ'.H|.next=>Q .none σ'.H|.cont=>False) (fun k σ'=>E k σ'.H)|fl=>match fl with|.ret v=>Q v σ.H|.next=>Q .none σ.H|.cont=>False:=fun{v} hv=>by
  refine(show wS (at? (at? Bs 0).b? 1) (bv T0 (AC T0 (n+1) false) (AC T0 (n+1) true) false [] F35.LN) ⟨upd (upd (eD F35 [o.toV,V.obj a,nV l]) 132 v) 62 (nV l),H⟩ _ (fun k σ'=>E k σ'.H)from ?_)
  refine nK (l:=l) (q:=o.asks) (v:=v) (hK hv) ha hb (by exact rfl) (by exact rfl) (by exact rfl) (by exact rfl) (fun f σ e z=>?_) fun L' g1 g2 e=>⟨trivial,aa (a:=nV l) g2 (nK (l:=l) (q:=none) (v:=.none) (hK (.inl ⟨rfl,rfl⟩)) ha hb (by exact rfl) (by exact g1) (by exact g2) (by exact rfl) (fun f σ e2 z=>?_) fun L'' k1 k2 e2=>⟨trivial,aa k2 ?_⟩)⟩
  ·unfold bz at h
   rw[e]at h
   exact(show Q (nV f) σ.H from z.symm▸h)
  ·unfold bz at h
   rw[e,e2]at h
   exact(show Q (nV f) σ.H from z.symm▸h)
  ·unfold bz at h
   rw[e,e2]at h
   exact h
 refine⟨bd rfl,aa (cW o) (aF (fun e=>?_) fun e=>?_)⟩
 ·have:QV o.toV o.asks:=by
   exact yd (o:=o) e
  exact⟨rfl,trivial,go this⟩
 ·have:o.asks=none:=by
   exact vZ (o:=o) e
  exact⟨rfl,trivial,go (.inl ⟨rfl,this⟩)⟩
end
end
section
theorem snoc{α β:Type}(g:α→β){l:List α}{i:Nat}{x:α}(h:l[i]?=some x):(l.take i).map g++[g x]=(l.take (i+1)).map g:=by
 refine ab List.take_add_one ?_;refine ab h ?_;refine ab Li ?_;rfl
theorem oY{H:Hp}{x y:Nat}{P:List Nat→Prop}(h:∀c d,c≠d→H c=none→H d=none→P [c,d])(as:List Nat)(hl:as.length=[x,y].length)(nd:as.Nodup)(f:∀a∈as,H a=none):P as:=by
 obtain⟨c,r,rfl,h1⟩:=gv hl
 obtain⟨d,r,rfl,h2⟩:=gv h1
 obtain rfl:=KP.mp h2
 exact h c d (fun z=>(List.nodup_cons.mp nd).1 (z▸.head _)) (f c (.head _)) (f d (.tail _ (.head _)))
theorem cw{K KH:du}{hd:Bool}{C:List (Nat×Nat)}{LN:Nat→Option (List Nat×Node)}{H:Hp}{a:Nat}{vs:List V}(e:H a=some (.list vs)):gj (bv T0 K KH hd C LN) H (.obj a) 100=some (.app a):=(cP _ e).trans rfl
theorem FD{c:Cx}{H:Hp}{L:Lc}{a:Nat}{vs:List V}{v:V}{Q:V→St→Prop}{X:Nat→St→Prop}(e:H a=some (.list vs))(lt:vs.length≤100000)(h:Q .none ⟨L,upd H a (.list (vs++[v]))⟩):jw c (.app a) [v] ⟨L,H⟩ Q X :=
 aa (ay e) ⟨bD lt (by decide),h⟩
theorem af{H:Hp}{a b:Nat}{x o:AO}(e:H a=some x)(h:a≠b):upd H b o a=some x:=(aV h).trans e
theorem aj{H:Hp}{a b:Nat}{x:AO}(e:H a=some x)(h:H b=none):a≠b:=pC h e
theorem bn{H:Hp}{a b:Nat}{x:AO}(h:upd H a x b=none):H b=none∧b≠a:=by
 by_cases z:b=a
 ·subst z;rw[ai]at h;injection h
 ·exact⟨(aV z).symm.trans h,z⟩
theorem ul{o:Op}:(o.code==24)=o.isStop:=by
 cases o with
 |br b l=>cases b<;>rfl
 |rk r l=>cases r<;>rfl
 |one o=>cases o<;>rfl
 |_=>rfl
theorem pk{K1 K2:du}{hd:Bool}{C:List (Nat×Nat)}{LN:Nat→Option (List Nat×Node)}{x y f:Nat}{L:Lc}{H:Hp}{vs:List V}{v:V}{K:Fl→St→Prop}{X:Nat→St→Prop}(e0:L x=some (.obj f))(e1:H f=some (.list vs))(e2:L y=some v)(lt:vs.length≤100000)
  (h:K .next ⟨L,upd H f (.list (vs++[v]))⟩):wSs [.expr (.mcall (.loc x) 100 [.loc y])] (bv T0 K1 K2 hd C LN) ⟨L,H⟩ K X:=aa e0 (aa (cw e1) (aa e2 (aa (ay e1) ⟨bD lt (by decide),h⟩)))
theorem gD{o:Option AO}{x:Option V}{k:Prop}(e:o=some (.cell x))(h:k):aG (bo o AO.cell?) fun zz=>k:=by subst e;exact h
section
variable {n:Nat} {H:Hp} {Q:V→Hp→Prop} {E:Nat→Hp→Prop}
theorem zI{a c1 c2 l:Nat}{ops:List Op}{o:Op}(hb:ops.length≤1000)(ha:bV H a ops)(e1:H c1=some (.cell (some (.obj a))))(e2:H c2=some (.cell (some o.toV))) :
  FO (n+3) H (.clo 65 [(11,c2),(6,c1)]) (bz o ops) l:=fun H' x Q E h=>⟨bd rfl,aQ (x _ _ e2) (aQ (x _ _ e1) (DC (x _ _ ha) hb (h H' (Ext.refl H'))))⟩
theorem Ei{a:Nat}{ops:List Op}(hb:ops.length≤1000)(ha:bV H a ops)(h:∀H' r,Ext H H'→bV H' r (led ops)→Q (.obj r) H'):Fn (n+5) 36 [.obj a] H Q E:=by
 refine⟨bd rfl,oY fun c1 c2 h12 f1 f2=>?_⟩
 intro f hf
 have hf:upd (upd H c1 (.cell (some (.obj a)))) c2 (.cell none) f=none:=hf
 obtain⟨hf,f2'⟩:=bn hf
 obtain⟨hf,f1'⟩:=bn hf
 refine aQ (af (af (ai _ _ _) h12) f1'.symm) ⟨rfl,trivial,aa (aT (af (af (af ha (aj ha f1)) (aj ha f2)) (aj ha hf))) ?_⟩
 refine kK (fun i L H'=>Ext H H'∧L 62=some (.obj f)∧bV H' f ((led ops).take i)∧H' c1=some (.cell (some (.obj a)))∧∃x,H' c2=some (.cell x)) ⟨(((Ext.refl H).set f1 _).set f2 _).set hf _,rfl,ai _ _ _,af (af (ai _ _ _) h12) f1'.symm,none,af (ai _ _ _) f2'.symm⟩ ?_ ?_
 ·rintro i v L H' K hv ⟨x,e0,e1,e2,y,e3⟩ T
  rw[Ko]at hv
  obtain⟨o,ho,rfl⟩:=Kt.mp hv
  have tail:∀(L3:Lc) (H3:Hp),Ext H H3→L3 62=some (.obj f)→L3 130=some (bE ops o).toV→bV H3 f ((led ops).take i)→H3 c1=some (.cell (some (.obj a)))→H3 c2=some (.cell (some o.toV)) →
    wSs [.expr (.mcall (.loc 62) 100 [.loc 130])] (bv T0 (AC T0 (n+4) false) (AC T0 (n+4) true) false [(6,c1),(11,c2)] F36.LN) ⟨L3,H3⟩ K fun k σ'=>E k σ'.H:=fun L3 H3 x3 g0 g1 g2 g3 g4=>by
   refine pk g0 g2 g1 ?_ (T.go _ _ (af (x3 _ _ ha) (aj ha hf)) ⟨x3.set hf _,g0,(ai _ _ _).trans (congrArg (fun l=>some (AO.list l)) (snoc Op.toV (oD ho))),af g3 f1'.symm,_,af g4 f2'.symm⟩)
   rw[Kf]
   exact am (List.take_sublist _ _).length_le (am (bU (gw ops)) (am hb (by decide)))
  refine gD e3 ?_
  have x2:Ext H (upd H' c2 (.cell (some o.toV))):=x.set f2 _
  have k1:=af (o:=.cell (some o.toV)) e2 h12
  have k2:=af (o:=.cell (some o.toV)) e1 f2'
  refine aQ (ai _ _ _) ⟨rfl,mS (n:=n+2) (f:=bz o ops) (fun l zz=>zI (n:=n) (o:=o) hb (x2 _ _ ha) k1 (ai _ _ _)) fun H3 x3=>aa (cW _) (bM (fun z1=>?_) fun z1=>aH z1 ?_)⟩
  ·obtain⟨l,hr⟩:=jm z1
   refine aa ((congrArg (fun o=>bA H3 (Op.toV o) (.int 1)) hr).trans rfl) (aQ (x3 _ _ k1) (aa (cy (x3 _ _ (x2 _ _ ha))) (bM (fun z2=>aQ (x3 _ _ k1) ?_) fun z2=>aH z2 ?_)))
   ·have lt:l<ops.length:=Int.ofNat_lt.mp (Kn z2)
    have hl:ops[l]?=some ops[l]:=Kj lt
    have hd:bE ops o=if (ops[l]).isStop=true then ops[l]else .jump l:=by
     refine(?_:gc ops (o.relabel _)=_)
     refine ab hr ?_;rewrite[fp];refine ab hl ?_;rfl
    refine aa (congrArg (fun o=>bA H3 (Op.toV o) (.int 1)) hr) (aa (bt (x3 _ _ (x2 _ _ ha)) hl) (aa (cW _) (bM (fun z3=>bB rfl ?_) fun z3=>aH z3 ?_)))
    ·have z4:(ops[l]).isStop=true:=by refine bT ul ?_;exact z3
     refine aQ (x3 _ _ k1) (aa (congrArg (fun o=>bA H3 (Op.toV o) (.int 1)) hr) (aa (bt (x3 _ _ (x2 _ _ ha)) hl) ?_))
     exact tail _ _ (x2.trans x3) e0 (congrArg (fun o=>some (Op.toV o)) (hd.trans (Kh z4)).symm) (x3 _ _ k2) (x3 _ _ k1) (x3 _ _ (ai _ _ _))
    ·have z4:¬ (ops[l]).isStop=true:=by refine bT ul ?_;exact ch z3
     exact tail _ _ (x2.trans x3) e0 (congrArg (fun o=>some (Op.toV o)) (hr.trans (hd.trans (Kg z4)).symm)) (x3 _ _ k2) (x3 _ _ k1) (x3 _ _ (ai _ _ _))
   ·have nl:ops[l]?=none:=Lz (Nat.le_of_not_lt fun q=>of_decide_eq_false z2 (Int.ofNat_lt.mpr q))
    have hd:bE ops o=.jump l:=by
     refine(?_:gc ops (o.relabel _)=_)
     refine ab hr ?_;rewrite[fp];refine ab nl ?_;rfl
    exact tail _ _ (x2.trans x3) e0 (congrArg (fun o=>some (Op.toV o)) (hr.trans hd.symm)) (x3 _ _ k2) (x3 _ _ k1) (x3 _ _ (ai _ _ _))
  ·refine tail _ _ (x2.trans x3) e0 (congrArg (fun o=>some (Op.toV o)) ?_) (x3 _ _ k2) (x3 _ _ k1) (x3 _ _ (ai _ _ _))
   rcases fk ops (o.relabel (bz o ops))with e|⟨l,w,e,_⟩
   ·exact e.symm
   ·rw[e]at z1;injection z1
 ·rintro L H' ⟨x,e0,e1,_⟩
  refine aa e0 (h _ _ x ?_)
  rw[Kf,← gw ops,K6]at e1
  exact e1
end
end
section
theorem dN{α:Type}{f:α→V}{src:V}{all:List V}{Eb:V→St→(Option V→St→Prop)→Prop}{g:α→Option V}{σ:St}(hs:cV src all σ.H):∀{l:List α} {acc:List V} {K:List V→St→Prop},
  (∀v∈l,∀K:Option V→St→Prop,K (g v) σ→Eb (f v) σ K)→acc.length+l.length≤100000→K (acc++l.filterMap g) σ→dB src all Eb (l.map f) acc σ K:=by
 intro l
 induction l with
 |nil =>
  intro acc K _ _ h
  rw[List.filterMap_nil,Lm]at h;exact h
 |cons v l ih =>
  intro acc K he hl h
  rw[KS]at hl
  refine he v (.head _) _ ⟨bD (m:=100000) (am (KB _ _) hl) (by decide),hs,ih (fun w hw=>he w (.tail _ hw)) ?_ ?_⟩
  ·refine ab Kl ?_
   have:(g v).toList.length≤1:=by cases g v<;>exact aD rfl
   exact am (Nat.add_le_add_right (cS this _) _) (by rw[Nat.add_right_comm];exact hl)
  ·cases e:g v with
   |none=>rw[List.filterMap_cons_none e]at h;refine ab (show acc++(none:Option V).toList=acc from Lm acc) ?_;exact h
   |some w=>rw[List.filterMap_cons_some e]at h;refine ab (show acc++(some w).toList++l.filterMap g=acc++w::l.filterMap g from Ll acc [w] _) ?_;exact h
noncomputable def oV:Option Op→V
 |some o=>o.toV
 |none=>.none
noncomputable abbrev iJ(H:Hp)(a:Nat)(f:aA):Prop:=H a=some (.list (f.map oV))
theorem fg:∀(ns:List Nat) (k:Nat),V.flats (ns.map nV) k=true
 |[],_=>rfl
 |n::ns,k=>by refine(?_:(V.flat (nV n) k&&V.flats (ns.map nV) k)=true);refine ab (fg ns k) ?_;rfl
noncomputable def iR:Op→Option V
 |.perform _ b=>some (nV b)
 |_=>none
theorem jP(k:Nat):∀ops:List Op,V.flats (ops.filterMap iR) k=true
 |[]=>rfl
 |o::ops=>by
  cases o with
  |perform a b=>refine(?_:(V.flat (nV b) k&&V.flats (ops.filterMap iR) k)=true);refine ab (jP k ops) ?_;rfl
  |_=>exact jP k ops
theorem kF(q:Int):∀ops:List Op,(ops.filterMap iR).any (fun v=>V.eqb v (.int q))=lastIn ops q
 |[]=>rfl
 |o::ops=>by
  cases o with
  |perform a b =>
   refine(?_:(((b:Int)==q)||(ops.filterMap iR).any _)=((q==(b:Int))||lastIn ops q))
   refine ab (kF q ops) ?_;refine ab Bool.beq_comm ?_;rfl
  |_=>exact kF q ops
theorem zF{H:Hp}{a:Nat}{ops:List Op}{q:Int}(e:H a=some (.list (ops.filterMap iR))):di H .notin (.int q) (.obj a)=some (!lastIn ops q):=by
 refine(nN _ (qq (aT e) rfl (jP ..))).trans ?_
 rw[kF]
theorem fE{o:Op}(h:(o.code==118)=true):∃a b,o=.perform a b:=by
 cases o with
 |perform a b=>exact⟨a,b,rfl⟩
 |rk r l=>cases r<;>exact aC h
 |br b l=>cases b<;>exact aC h
 |one o=>cases o<;>exact aC h
 |_=>exact aC h
theorem xk{o:Op}(h:(o.code==118)=false):iR o=none:=by
 cases o with
 |perform a b=>exact aC h.symm
 |_=>rfl
theorem uq{α β:Type}{g:Nat→α→β}{l:List α}{i:Nat}{x:α}(h:l[i]?=some x):(l.mapIdx g)[i]?=some (g i x):=by refine ab (KR) ?_;refine ab h ?_;rfl
theorem ur{H:Hp}{ops:List Op}{p:Nat}{o:Op}(h:([V.str 13,V.str 17].any fun v=>V.eqb v (.str o.code))=true):(∃l:Nat,bA H o.toV (.int (-1))=some (nV l)∧fG ops p o=(l==p+1))∧(o.code==119)=false:=by
 cases o with
 |br b l =>
  cases b with
  |key k=>exact⟨⟨l,rfl,rfl⟩,rfl⟩
  |_=>exact aC h
 |jump l=>exact⟨⟨l,rfl,rfl⟩,rfl⟩
 |rk r l=>cases r<;>exact aC h
 |one o=>cases o<;>exact aC h
 |_=>exact aC h
theorem rV{o:Op}(h:(o.code==119)=true):∃q,o=.one (.leave q):=by
 cases o with
 |one o=>cases o<;>first|exact⟨_,rfl⟩|exact aC h
 |br b l=>cases b<;>exact aC h
 |rk r l=>cases r<;>exact aC h
 |_=>exact aC h
theorem CT{ops:List Op}{p:Nat}{o:Op}(h:([V.str 13,V.str 17].any fun v=>V.eqb v (.str o.code))=false)(h2:(o.code==119)=false):fG ops p o=false:=by
 cases o with
 |br b l =>
  cases b with
  |key k=>exact aC h.symm
  |_=>rfl
 |jump l=>exact aC h.symm
 |one o =>
  cases o with
  |leave q=>exact aC h2.symm
  |_=>rfl
 |_=>rfl
theorem oz(a b:Nat):((a:Int)==(b:Int))=(a==b):=by
 by_cases h:a=b
 ·subst h;rw[Kq,Kq]
 ·exact(Km.mpr fun z=>h (Int.ofNat.inj z)).trans (Km.mpr h).symm
section
variable {n:Nat} {H:Hp} {Q:V→Hp→Prop} {E:Nat→Hp→Prop}
theorem CS{a:Nat}{ops:List Op}(hb:ops.length≤1000)(ha:bV H a ops)(h:∀H' r,Ext H H'→iJ H' r (idle ops)→Q (.obj r) H'):Fn (n+1) 37 [.obj a] H Q E:=by
 refine⟨bd rfl,rfl,trivial,aa (aT ha) (dN (g:=iR) (by exact ha) (fun o ho K hk=>aa (cW o) (aF (fun e=>?_) fun e=>?_)) ?_ fun r hr=>?_)⟩
 ·obtain⟨x,y,rfl⟩:=fE e;exact hk
 ·rw[xk e]at hk;exact hk
 ·exact am (cS hb 0) (by decide)
 intro f hf
 obtain⟨hf,hrf⟩:=bn hf
 refine aa (cy (af (af ha (aj ha hr)) (aj ha hf))) ⟨rfl,ku hb,cX (N:=ops.length) (fun i L H'=>Ext H H'∧L 62=some (.obj f)∧L 6=some (.obj a)∧L 135=some (.obj r)∧H' r=some (.list (ops.filterMap iR))∧iJ H' f ((idle ops).take i))
  ⟨((Ext.refl H).set hr _).set hf _,rfl,rfl,rfl,af (ai _ _ _) hrf.symm,ai _ _ _⟩ ?_ ?_⟩
 ·rintro i L H' K hi ⟨x,e0,e1,e2,e3,e4⟩ T
  have ho:ops[i]?=some ops[i]:=Kj hi
  generalize ops[i]=o at ho
  have tail:∀L3:Lc,L3 62=some (.obj f)→L3 6=some (.obj a)→L3 135=some (.obj r)→L3 11=some o.toV→L3 136=some (.bool (fG ops i o)) →
    wSs [.expr (.mcall (.loc 62) 100 [.ite (.loc 136) .none (.loc 11)])] (bv T0 (AC T0 n false) (AC T0 n true) false [] F37.LN) ⟨L3,H'⟩ K fun k σ'=>E k σ'.H:=fun L3 g0 g1 g2 g3 g4=>by
   have go:=T.go L3 (upd H' f (.list (((idle ops).take i).map oV++[oV (if fG ops i o=true then none else some o)]))) trivial ⟨x.set hf _,g0,g1,g2,af e3 hrf.symm,(ai _ _ _).trans (congrArg (fun l=>some (AO.list l)) (snoc oV (uq ho)))⟩
   have lt:(((idle ops).take i).map oV).length<gE:=bD (m:=1000) (by rw[Kf];exact am (List.take_sublist _ _).length_le (am (bU Kz) hb)) (by decide)
   refine aa g0 (aa (cw e4) (aa g4 (aF (fun z=>?_) fun z=>aa g3 ?_)))
   ·rw[Kh z]at go
    exact aa (ay e4) ⟨lt,go⟩
   ·rw[Kg (ch z)]at go
    exact aa (ay e4) ⟨lt,go⟩
  refine aa e1 (aa rfl (aa (bt (x _ _ ha) ho) (aa (cW o) (bM (fun z=>?_) fun z=>aa rfl (rt z (aa (cW o) (bM (fun y=>?_) fun y=>?_)))))))
  ·obtain⟨⟨l,h1,h2⟩,h3⟩:=ur (H:=H') (ops:=ops) (p:=i) z
   have e:V.eqb (nV l) (nV (i+1))=fG ops i o:=(oz l (i+1)).trans h2.symm
   refine aa h1 (aa rfl (AS (fun y=>aa (cW o) (ez h3 ?_)) fun y=>?_))
   ·exact tail _ e0 e1 e2 rfl (congrArg (fun b=>some (V.bool b)) (h3.trans (y.symm.trans e)))
   ·exact tail _ e0 e1 e2 rfl (congrArg (fun b=>some (V.bool b)) e)
  ·obtain⟨q,rfl⟩:=rV y
   exact aa e2 (aa (zF e3) (tail _ e0 e1 e2 rfl rfl))
  ·exact tail _ e0 e1 e2 rfl (congrArg (fun b=>some (V.bool b)) (y.trans (CT z y).symm))
 ·rintro L H' ⟨x,e0,e1,e2,e3,e4⟩
  refine aa e0 (h _ _ x ?_)
  rw[show ops.length=(idle ops).length from Kz.symm,K6]at e4
  exact e4
end
end
section
section
variable {n:Nat} {H:Hp} {Q:V→Hp→Prop} {E:Nat→Hp→Prop}
theorem zq{H:Hp}{a:Nat}{ns:List Nat}(e:aN H a ns):rN H (.obj a)=some (ns.length:Int):=by refine ab (dq e) ?_;rw[Kf]
theorem iC{l:List Nat}{i:Nat}(h:i<l.length):l[i]?=some (l.getD i 0):=by
 refine ab (List.getD_eq_getElem?_getD) ?_;refine ab (Kj h) ?_;refine ab Option.getD_some ?_;rfl
theorem iN{l:List Nat}(x:Nat):l.map nV++[nV x]=(l++[x]).map nV:=by refine ab Li ?_;rfl
theorem xl(o:Op):o.labels.length≤2:=by
 cases o with
 |rk r l=>cases l<;>exact aD rfl
 |_=>exact aD rfl
theorem yb{a b p:Nat}{ops:List Op}{bg:List Nat}{o:Op}(ha:bV H a ops)(hb:aN H b bg)(ho:ops[p]?=some o)(hp:∀x y,o=.perform x y→x<bg.length)
  (h:∀H' r,Ext H H'→H r=none→aN H' r (behind bg p o)→Q (.obj r) H'):Fn (n+2) 42 [.obj a,.obj b,nV p] H Q E:=by
 refine⟨bd rfl,aa (bt ha ho) (eZ fun r hr=>xD ?_)⟩
 have x1:Ext H (upd H r (.list (o.labels.map nV))):=(Ext.refl H).set hr _
 have lt:=xl o
 have tail:∀(H3:Hp),Ext H H3→aN H3 r (o.labels++(if o.goesOn=true then [p+1]else []))→wSs [.ite (.cmp .eq (.sub (.loc 11) (.int 0)) (.str 118)) [.expr (.mcall (.loc 62) 100 [.sub (.loc 7) (.sub (.loc 11) (.int 1))])] [],.ret (.loc 62)]
   (bv T0 (AC T0 (n+1) false) (AC T0 (n+1) true) false [] F42.LN) ⟨upd (upd (eD F42 [.obj a,.obj b,nV p]) 11 o.toV) 62 (.obj r),H3⟩ (fun fl σ'=>match fl with|.ret v=>Q v σ'.H|.next=>Q .none σ'.H|.cont=>False) fun k σ'=>E k σ'.H:=fun H3 x3 e3=>by
  refine aa (cW o) (aF (fun z=>?_) fun z=>?_)
  ·obtain⟨x,y,rfl⟩:=fE z
   exact aa (cw e3) (aa (gu (x3 _ _ hb) (iC (hp x y rfl))) (aa (ay e3) ⟨aD rfl,h _ r (x3.set hr _) hr (ai _ _ _)⟩))
  ·refine h _ r x3 hr ?_
   have:behind bg p o=o.labels++(if o.goesOn=true then [p+1]else []):=by
    unfold behind
    cases o with
    |perform x y=>injection z
    |_=>exact Lm _
   refine ab this ?_;exact e3
 refine aF (fun z=>?_) fun z=>?_
 ·refine aa (cw (ai _ _ _)) (aa (ay (ai _ _ _)) ⟨bD (by rw[Kf];exact lt) (by decide),tail _ (x1.set hr _) ?_⟩)
  refine ab (Kh z) ?_
  exact(ai _ _ _).trans (congrArg (fun l=>some (AO.list l)) (iN (p+1)))
 ·refine tail _ x1 ?_
  refine ab (Kg (ch z)) ?_;rw[Lm]
  exact ai _ _ _
end
end
section
noncomputable def Bl(N:Nat)(fd:Nat→Bool):List V:=(List.range N).map fun i=>V.bool (fd i)
theorem gS(N:Nat)(fd:Nat→Bool):(Bl N fd).length=N:=by unfold Bl;rewrite[Kf];refine ab KT ?_;rfl
theorem iG{N q:Nat}{fd:Nat→Bool}(h:q<N):(Bl N fd)[q]?=some (.bool (fd q)):=by
 unfold Bl;refine ab (Ko) ?_;refine ab (List.getElem?_range h) ?_;rfl
noncomputable def setF(fd:Nat→Bool)(q:Nat):Nat→Bool:=fun i=>i==q||fd i
theorem kY{N q:Nat}{fd:Nat→Bool}:(Bl N fd).set q (.bool true)=Bl N (setF fd q):=by
 refine List.ext_getElem? fun i=>?_
 by_cases hi:i<N
 ·refine ab (iG hi) ?_
  by_cases e:q=i
  ·subst e
   refine ab (List.getElem?_set_self (by rw[gS];exact hi)) ?_
   unfold setF;rw[Kq];rfl
  ·refine ab (Kv e) ?_;refine ab (iG hi) ?_
   unfold setF;refine ab (Km.mpr (Ne.symm e)) ?_;rfl
 ·refine ab (Lz (by rw[KJ,gS];exact Nat.le_of_not_lt hi)) ?_;refine ab (Lz (by rw[gS];exact Nat.le_of_not_lt hi)) ?_;rfl
theorem xZ(N:Nat):List.replicate N (V.bool false)=Bl N fun zz=>false:=by
 unfold Bl
 refine ab List.map_const' ?_;refine ab KT ?_;rfl
theorem sV{N:Nat}{f g:Nat→Bool}(h:∀i,i<N→f i=g i):Bl N f=Bl N g:=by
 unfold Bl
 exact List.map_congr_left fun i hi=>congrArg V.bool (h i (KZ.mp hi))
noncomputable def cf:Nat→(Nat→Bool)→Nat
 |0,_=>0
 |N+1,fd=>cf N fd+(if fd N=true then 0 else 1)
theorem Bj:∀(N:Nat) (fd:Nat→Bool),cf N fd≤N
 |0,_=>aR 0
 |N+1,fd=>Nat.add_le_add (Bj N fd) (by split<;>decide)
theorem uC:∀{N q:Nat} {fd:Nat→Bool},N≤q→cf N (setF fd q)=cf N fd
 |0,q,fd,h=>rfl
 |N+1,q,fd,h=>by
  have:setF fd q N=fd N:=by unfold setF;refine ab (Km.mpr (Lb h)) ?_;rfl
  refine(?_:cf N _+(if setF fd q N=true then 0 else 1)=cf N fd+_)
  refine ab this ?_;refine ab (uC (Nat.le_of_succ_le h)) ?_;rfl
theorem xX:∀{N q:Nat} {fd:Nat→Bool},q<N→fd q=false→cf N fd=cf N (setF fd q)+1
 |N+1,q,fd,h,e=>by
  refine(?_:cf N fd+_=cf N _+_+1)
  rcases Nat.lt_succ_iff_lt_or_eq.mp h with z|rfl
  ·have:setF fd q N=fd N:=by unfold setF;refine ab (Km.mpr (Ld z)) ?_;rfl
   refine ab this ?_;refine ab (xX z e) ?_;rw[Nat.add_right_comm]
  ·have:setF fd q q=true:=by unfold setF;rw[Kq];rfl
   refine ab this ?_;refine ab (uC (aR q)) ?_;refine ab e ?_;rfl
theorem cR{K KH:du}{hd:Bool}{C:List (Nat×Nat)}{LN:Nat→Option (List Nat×Node)}{H:Hp}{a m:Nat}{vs:List V}(e:H a=some (.list vs)) :
  gj (bv T0 K KH hd C LN) H (.obj a) m=if m=100 then some (.app a)else if m=97 then some (.pop a)else if m=148 then some (.ext a)else none:=by
 refine(cP _ e).trans ?_
 by_cases h1:m=100
 ·subst h1;rfl
 by_cases h2:m=97
 ·subst h2;rfl
 by_cases h3:m=148
 ·subst h3;rfl
 refine ab (Kg h1) ?_;refine ab (Kg h2) ?_;refine ab (Kg h3) ?_
 refine(?_:gW (m==100) _ (gW (m==97) _ (bu (m==148) _))=_)
 refine ab (Km.mpr h1) ?_;refine ab (Km.mpr h2) ?_;refine ab (Km.mpr h3) ?_;rfl
theorem clip_of(n i:Nat):PySem.clipAt n (i:Int)=min i n:=by
 unfold PySem.clipAt
 refine ab (Kg (Int.not_lt.mpr (KL _))) ?_
 exact(congrArg Int.toNat ((congrArg (max 0) (Lean.Omega.Int.ofNat_min i n).symm).trans (Int.max_eq_right (KL _)))).trans (Int.toNat_natCast _)
theorem rE{H:Hp}{a b:Nat}{vs:List V}(e:H a=some (.list vs))(f:V.flats vs 20=true)(g:H b=some (.list [])):di H .ne (.obj a) (.obj b)=some (!vs.isEmpty):=by
 refine(nN _ (iE (j0 (ay e) (ay g) f rfl))).trans ?_
 cases vs<;>rfl
theorem i0(ns:List Nat):(ns.map nV).isEmpty=ns.isEmpty:=by cases ns<;>rfl
theorem nM(bg:List Nat)(p:Nat)(o:Op):(behind bg p o).length≤4:=by
 cases o with
 |rk r l=>cases l<;>exact aD rfl
 |one o=>cases o<;>exact aD rfl
 |_=>exact aD rfl
section
variable {n:Nat} {H:Hp} {Q:V→Hp→Prop} {E:Nat→Hp→Prop} {c:Cd}
theorem pW(W:WF c){p q:Nat}{o:Op}(e:c.ops[p]?=some o)(h:q∈behind c.bg p o):q<c.ops.length:=by
 rcases KD.mp h with h|h
 ·rcases KD.mp h with h|h
  ·exact W.lab o (mGe e) q h
  ·split at h
   ·rename_i z;cases mSng h;exact W.on p o e z
   ·cases h
 ·cases o with
  |perform a b=>cases mSng h;exact W.begin a
  |_=>cases h
structure ComeI(c:Cd)(fd:Nat→Bool)(ns:List Nat):Prop where
 met:∀p,fd p=true→Met c p
 line:∀q∈ns,Met c q
 zero:fd 0=true∨0∈ns
 next:∀(p:Nat) (o:Op),fd p=true→c.ops[p]?=some o→∀q∈behind c.bg p o,fd q=true∨q∈ns
theorem ComeI.end_{fd:Nat→Bool}(W:WF c)(x:ComeI c fd [])(p:Nat):fd p=dy c p:=by
 cases e:fd p with
 |true=>exact(met_true.mpr (x.met p e)).symm
 |false =>
  refine(Bool.eq_false_iff.mpr fun z=>?_).symm
  have:∀{p:Nat},Met c p→fd p=true:=fun{p} hm=>by
   induction hm with
   |zero h=>exact x.zero.elim id fun z=>nomatch z
   |next h1 h2 h3 h4 ih=>exact(x.next _ _ ih h2 _ h3).elim id fun z=>nomatch z
  rw[this (met_true.mp z)]at e;injection e
theorem nj{p:Nat}(h:Met c p):p<c.ops.length:=by cases h<;>assumption
theorem ComeI.see{fd:Nat→Bool}{ns:List Nat}{q:Nat}{o:Op}(W:WF c)(x:ComeI c fd (ns++[q]))(ho:c.ops[q]?=some o):ComeI c (setF fd q) (ns++behind c.bg q o):=by
 have hq:Met c q:=x.line q (KG _ (.head _))
 have sq:setF fd q q=true:=by unfold setF;rw[Kq];rfl
 have up:∀{p:Nat},fd p=true∨p∈ns++[q]→setF fd q p=true∨p∈ns++behind c.bg q o:=fun{p} h=>by
  rcases h with h|h
  ·exact .inl (by unfold setF;refine ab h ?_;rw[Bool.or_true])
  ·rcases KD.mp h with h|h
   ·exact .inr (KA _ h)
   ·cases mSng h;exact .inl sq
 have dn:∀{p:Nat},setF fd q p=true→p=q∨fd p=true:=fun{p} h=>by
  unfold setF at h
  rcases Bool.or_eq_true_iff.mp h with h|h
  ·exact .inl (Ki h)
  ·exact .inr h
 refine⟨fun p h=>?_,fun p h=>?_,up x.zero,fun p o' h e r hr=>?_⟩
 ·rcases dn h with rfl|h
  ·exact hq
  ·exact x.met p h
 ·rcases KD.mp h with h|h
  ·exact x.line p (KA _ h)
  ·exact .next hq ho h (pW W ho h)
 ·rcases dn h with rfl|h
  ·rw[ho]at e;replace e:=oInj e;subst e
   exact .inr (KG _ hr)
  ·exact up (x.next p o' h e r hr)
theorem ComeI.drop{fd:Nat→Bool}{ns:List Nat}{q:Nat}(x:ComeI c fd (ns++[q]))(h:fd q=true):ComeI c fd ns:=by
 have up:∀{p:Nat},fd p=true∨p∈ns++[q]→fd p=true∨p∈ns:=fun{p} z=>by
  rcases z with z|z
  ·exact .inl z
  ·rcases KD.mp z with z|z
   ·exact .inr z
   ·cases mSng z;exact .inl h
 exact⟨x.met,fun p z=>x.line p (KA _ z),up x.zero,fun p o z e r hr=>up (x.next p o z e r hr)⟩
end
end
section
section
variable {n:Nat} {H:Hp} {Q:V→Hp→Prop} {E:Nat→Hp→Prop} {c:Cd}
theorem kG{l:List Nat}(h:l.isEmpty=false):∃r x,l=r++[x]:=by
 cases l with
 |nil=>injection h
 |cons y l=>exact⟨_,_,(List.dropLast_concat_getLast (List.cons_ne_nil y l)).symm⟩
theorem fM(r:List Nat)(x:Nat):((r++[x]).map nV).getLast?=some (nV x):=by rewrite[← iN];refine ab (List.getLast?_concat) ?_;rfl
theorem ka(r:List Nat)(x:Nat):((r++[x]).map nV).dropLast=r.map nV:=by rewrite[← iN];refine ab List.dropLast_concat ?_;rfl
theorem Dg(W:WF c)(hl:c.ops.length≤1000){a b:Nat}(ha:bV H a c.ops)(hb:aN H b c.bg)(h:∀H' r,Ext H H'→H' r=some (.list (Bl (c.ops.length+1) (dy c)))→Q (.obj r) H'):Fn (n+3) 43 [.obj a,.obj b] H Q E:=by
 refine⟨bd rfl,fun t ht=>aa (cy (af ha (aj ha ht))) (aa (ay (ai _ _ _)) (aa rfl (aa rfl ⟨Int.ofNat_nonneg _,Int.ofNat_lt.mpr (bD (m:=1001) (dc hl) (by decide)),fun r hr u hu=>?_⟩)))⟩
 obtain⟨hr,htr⟩:=bn hr
 obtain⟨hu,hur⟩:=bn hu
 obtain⟨hu,hut⟩:=bn hu
 have x0:Ext H (upd (upd (upd H t (.list [.bool false])) r (.list (List.replicate (c.ops.length+1) (.bool false)))) u (.list [.int 0])):=(((Ext.refl H).set ht _).set hr _).set hu _
 refine⟨rfl,hX (fun m L H'=>Ext H H'∧L 6=some (.obj a)∧L 7=some (.obj b)∧L 62=some (.obj r)∧L 142=some (.obj u)∧m≤6000∧∃fd ns,m=5*cf (c.ops.length+1) fd+ns.length∧H' r=some (.list (Bl (c.ops.length+1) fd))∧aN H' u ns∧ComeI c fd ns) (5*cf (c.ops.length+1) (fun zz=>false)+1)
  ⟨x0,rfl,rfl,rfl,rfl,am (dc (KQ 5 (am (Bj (c.ops.length+1) fun zz=>false) (dc hl)))) (by decide),fun zz=>false,[0],rfl,(af (ai _ _ _) hur.symm).trans (congrArg (fun l=>some (AO.list l)) (xZ _)),ai _ _ _,⟨fun p z=>aC z,fun q z=>by cases mSng z;exact .zero W.pos,.inr (.head _),fun p o z=>aC z⟩⟩ ?_⟩
 rintro m L H' ⟨x,e0,e1,e2,e3,hm,fd,ns,rfl,e4,e5,ci⟩
 refine aa e3 fun w hw=>aa (rE (af e5 (aj e5 hw)) (fg ns 20) (ai _ _ _)) ?_
 have x1:=x.new hw (.list [])
 have e4:=af (o:=.list []) e4 (aj e4 hw)
 have e5:=af (o:=.list []) e5 (aj e5 hw)
 generalize upd H' w (.list [])=H1 at x1 e4 e5
 rw[i0]
 refine aF (fun z=>?_) fun z=>?_
 ·obtain⟨ns,q,rfl⟩:=kG (nT z)
  have x2:Ext H (upd H1 u (.list (ns.map nV))):=x1.set hu _
  have e6:=af (o:=.list (ns.map nV)) e4 hur.symm
  have hq:=ci.line q (KG _ (.head _))
  have lt:=nj hq
  have ho:c.ops[q]?=some c.ops[q]:=Kj lt
  refine aa e3 (aa (cR e5) (And.intro rfl (aa (ay e5) (aa (fM ns q) ?_))))
  rw[ka]
  refine aa e0 (aa (cy (x2 _ _ ha)) (iH (decide_eq_true (Int.ofNat_lt.mpr lt)) (aa e2 (aa rfl (aa (getL e6 (iG (Nat.lt_succ_of_lt lt))) (bM (fun y=>bB rfl ?_) fun y=>aH y ?_))))))
  ·have hf:fd q=false:=nT y
   refine aa e2 (aa rfl (aa (iX e6 (by rw[gS];exact Nat.lt_succ_of_lt lt)) ?_))
   have x3:Ext H (upd (upd H1 u (.list (ns.map nV))) r (.list ((Bl (c.ops.length+1) fd).set q (.bool true)))):=x2.set hr _
   have e7:aN (upd (upd H1 u (.list (ns.map nV))) r (.list ((Bl (c.ops.length+1) fd).set q (.bool true)))) u ns:=af (ai _ _ _) hur
   refine aa e3 (aa (cR e7) (aa e0 (aa e1 (aa rfl (yb (n:=n) (x3 _ _ ha) (x3 _ _ hb) ho (fun x y z=>W.per x y (mGe (z▸ho))) fun H4 v x4 hv e8=>aa (ay (x4 _ _ e7)) (aa (ay e8) ⟨?_,fun b' z=>?_,?_⟩))))))
   ·rw[Kl]at hm
    rw[Kf,Kf]
    exact am (Nat.add_le_add (am (KB _ _) (am (Nat.le_add_left _ _) hm)) (nM _ _ _)) (aD rfl)
   ·injection z with zi;subst zi;exact(aj e7 hv).symm
   ·have e9:cf (c.ops.length+1) fd=cf (c.ops.length+1) (setF fd q)+1:=xX (Nat.lt_succ_of_lt lt) hf
    have bl:=nM c.bg q c.ops[q]
    rw[Kl]at hm ⊢
    have lt2:5*cf (c.ops.length+1) (setF fd q)+(ns++behind c.bg q c.ops[q]).length<5*cf (c.ops.length+1) fd+(ns.length+[q].length):=by
     refine ab Kl ?_;refine ab e9 ?_;refine ab List.length_singleton ?_;rw[Nat.mul_succ,Lf _ 5];exact Nat.add_lt_add_left (bD (cS bl _) (by rw[Lg 5];exact Nat.add_lt_add_left (show 4<6 by decide) _)) _
    refine⟨_,lt2,(x3.trans x4).set hu _,e0,e1,e2,e3,KN (Kw lt2 hm),setF fd q,ns++behind c.bg q c.ops[q],rfl,?_,(ai _ _ _).trans (congrArg (fun l=>some (AO.list l)) Li.symm),ci.see W ho⟩
    exact af ((x4 _ _ (ai _ _ _)).trans (congrArg (fun l=>some (AO.list l)) kY)) hur.symm
  ·have hf:fd q=true:=nF y
   rw[Kl]at hm ⊢
   exact⟨5*cf (c.ops.length+1) fd+ns.length,La _,x2,e0,e1,e2,e3,Nat.le_of_succ_le hm,fd,ns,rfl,e6,ai _ _ _,ci.drop hf⟩
 ·have:ns=[]:=List.isEmpty_iff.mp (nF z)
  subst this
  exact aa e2 (h _ r x1 (e4.trans (congrArg (fun l=>some (AO.list l)) (sV fun i zz=>ci.end_ W i))))
end
end
section
theorem uA{α:Type}{f:α→V}{src:V}{all:List V}{Eb:V→St→(Option V→St→Prop)→Prop}{g:α→Option V}{L:Lc}(P:Hp→Prop)(hs:∀H,P H→cV src all H):∀{l:List α} {acc:List V} {H:Hp} {K:List V→St→Prop},
  P H→(∀v∈l,∀(H:Hp) (K:Option V→St→Prop),P H→(∀H',P H'→K (g v) ⟨L,H'⟩)→Eb (f v) ⟨L,H⟩ K)→acc.length+l.length≤100000→(∀H',P H'→K (acc++l.filterMap g) ⟨L,H'⟩)→dB src all Eb (l.map f) acc ⟨L,H⟩ K:=by
 intro l
 induction l with
 |nil =>
  intro acc H K p _ _ h
  have:=h H p;rw[List.filterMap_nil,Lm]at this;exact this
 |cons v l ih =>
  intro acc H K p he hl h
  rw[KS]at hl
  refine he v (.head _) H _ p fun H' p'=>⟨bD (m:=100000) (am (KB _ _) hl) (by decide),hs H' p',ih p' (fun w hw=>he w (.tail _ hw)) ?_ fun H2 p2=>?_⟩
  ·refine ab Kl ?_
   have:(g v).toList.length≤1:=by cases g v<;>exact aD rfl
   exact am (Nat.add_le_add_right (cS this _) _) (by rw[Nat.add_right_comm];exact hl)
  ·have h:=h H2 p2
   cases e:g v with
   |none=>rw[List.filterMap_cons_none e]at h;refine ab (show acc++(none:Option V).toList=acc from Lm acc) ?_;exact h
   |some w=>rw[List.filterMap_cons_some e]at h;refine ab (show acc++(some w).toList++l.filterMap g=acc++w::l.filterMap g from Ll acc [w] _) ?_;exact h
theorem kQ(c:Bool)(k:Nat):V.flat (cond c) (k+3)=true:=by cases c<;>rfl
theorem ze(o:Opd)(k:Nat):V.flat o.toV (k+3)=true:=by cases o<;>rfl
theorem uh(l:Option Nat)(k:Nat):V.flat (lV l) k=true:=by
 cases l with
 |none=>rfl
 |some l=>rfl
theorem ot(o:Op)(k:Nat):V.flat o.toV (k+4)=true:=by
 cases o with
 |rk r l =>
  cases r with
  |push q=>refine(?_:(true&&(V.flat q.toV (k+3)&&(V.flat (lV l) (k+3)&&true)))=true);rw[ze,uh];rfl
  |«calc» s=>refine(?_:(true&&(true&&(V.flat (lV l) (k+3)&&true)))=true);rw[uh];rfl
 |br b l =>
  cases b with
  |test c=>refine(?_:(true&&(V.flat (cond c) (k+3)&&true))=true);rw[kQ];rfl
  |_=>rfl
 |one o=>cases o<;>rfl
 |_=>rfl
theorem Cg(o:Option Op)(k:Nat):V.flat (oV o) (k+4)=true:=by
 cases o with
 |none=>rfl
 |some o=>exact ot o k
theorem cJ{α:Type}{f:α→V}{k:Nat}(h:∀x,V.flat (f x) k=true):∀l:List α,V.flats (l.map f) k=true
 |[]=>rfl
 |x::l=>by refine(?_:(V.flat (f x) k&&V.flats (l.map f) k)=true);refine ab (h x) ?_;refine ab (cJ h l) ?_;rfl
theorem rC:∀f:aA,(f.map oV).any (fun v=>V.eqb v .none)=!f.all Option.isSome
 |[]=>rfl
 |none::f=>rfl
 |some o::f=>by
  obtain⟨r,e⟩:=qn o
  refine(?_:(V.eqb o.toV .none||(f.map oV).any _)=!(true&&f.all Option.isSome))
  refine ab e ?_;refine ab (rC f) ?_;rfl
theorem Ci{H:Hp}{a:Nat}{f:aA}(e:iJ H a f):di H .notin .none (.obj a)=some (f.all Option.isSome):=by
 refine(nN _ (qq (aT e) rfl (cJ (fun o=>Cg o 16) f))).trans ?_
 rw[rC,Bool.not_not]
theorem si:∀{f:aA},f.all Option.isSome=true→f.map oV=(f.filterMap id).map Op.toV
 |[],_=>rfl
 |none::f,h=>aC h
 |some o::f,h=>congrArg (o.toV::·) (si (f:=f) h)
theorem rB{H:Hp}(o:Option Op):di H .isnot (oV o) .none=some o.isSome:=by
 cases o with
 |none=>rfl
 |some o=>exact rU o
section
variable {n:Nat} {H:Hp} {Q:V→Hp→Prop} {E:Nat→Hp→Prop}
noncomputable def dL(f:aA)(k:Nat):List Nat:=(List.range k).map (aq f)
theorem lY(f:aA)(k:Nat):dL f k++[aq f k]=dL f (k+1):=by unfold dL;refine ab List.range_succ ?_;refine ab Li ?_;rfl
theorem nR(f:aA)(k:Nat):(dL f k).length=k:=by unfold dL;rewrite[Kf];refine ab KT ?_;rfl
theorem nU{f:aA}{k l:Nat}(h:l<k):(dL f k)[l]?=some (aq f l):=by unfold dL;refine ab (Ko) ?_;refine ab (List.getElem?_range h) ?_;rfl
theorem zH{c u l N:Nat}{f:aA}(e1:H c=some (.cell (some (.obj u))))(e2:aN H u (dL f N))(hl:l<N):FO (n+1) H (.clo 66 [(150,c)]) (aq f) l :=
 fun H' x Q E h=>⟨bd rfl,aQ (x _ _ e1) (aa rfl (aa (gu (x _ _ e2) (nU hl)) (h H' (Ext.refl H'))))⟩
theorem vg{L:Lc}{H0:Hp}{a b c u:Nat}{f:aA}{bg:List Nat}(x:Ext H0 H)(hf:f.length≤1000)(hg:bg.length≤1000)(l':td f.length f bg)(e0:L 6=some (.obj a))(e1:L 7=some (.obj b))(e2:iJ H a f)(e3:aN H b bg)
  (e4:H c=some (.cell (some (.obj u)))) (e5:aN H u (dL f (f.length+1))) (h:∀H' r s,Ext H0 H'→bV H' r (bG f)→aN H' s (bg.map (aq f))→Q (.tup [.obj r,.obj s]) H') :
  wSs (P44.drop 5) (bv T0 (AC T0 (n+2) false) (AC T0 (n+2) true) false [(150,c)] F44.LN) ⟨L,H⟩ (fun fl σ'=>match fl with|.ret v=>Q v σ'.H|.next=>Q .none σ'.H|.cont=>False) fun k σ'=>E k σ'.H:=by
 refine aa e0 ⟨rfl,trivial,aa (aT e2) (uA (g:=fun o=>o.map fun o=>(o.relabel (aq f)).toV) (Ext H) (fun H' y=>by exact y _ _ e2) (Ext.refl H) (fun o ho H1 K y hk=>aa (rB o) ?_) (am (bU (Nat.zero_add _)) (am hf (aD rfl))) fun H1 y r hr=>?_)⟩
 ·cases o with
  |none=>exact aH rfl (hk H1 y)
  |some o=>exact bB rfl ⟨rfl,mS (n:=n) (f:=aq f) (fun l hl=>zH (y _ _ e4) (y _ _ e5) (Nat.lt_succ_of_lt (l'.1 o ho l hl))) fun H2 y2=>hk H2 (y.trans y2)⟩
 ·have z:Ext H1 (upd H1 r (.list ([]++f.filterMap fun o=>o.map fun o=>(o.relabel (aq f)).toV))):=(Ext.refl H1).new hr _
  have zz:=y.trans z
  refine aa e1 ⟨rfl,trivial,aa (aT (zz _ _ e3)) (dN (g:=fun b=>some (nV (aq f b))) (by exact zz _ _ e3) (fun p hp K hk=>bB rfl (aQ (zz _ _ e4) (aa rfl (aa (gu (zz _ _ e5) (nU (Nat.lt_succ_of_lt (l'.2 p hp)))) hk)))) (am (bU (Nat.zero_add _)) (am hg (aD rfl))) fun s hs=>h _ r s ((x.trans zz).new hs _) ?_ ?_)⟩
  ·refine af ((ai _ _ _).trans (congrArg (fun l=>some (AO.list l)) ?_)) (aj (ai _ _ _) hs)
   refine(?_:f.filterMap _=(f.filterMap _).map _)
   refine ab List.map_filterMap ?_
   congr 1
   funext o
   cases o<;>rfl
  ·refine(ai _ _ _).trans (congrArg (fun l=>some (AO.list l)) ?_)
   refine(?_:bg.filterMap _=(bg.map _).map _)
   refine ab Lk ?_
   exact congrFun (List.filterMap_eq_map (f:=nV ∘ aq f)) bg
theorem jJ{a b:Nat}{f:aA}{bg:List Nat}(hf:f.length≤1000)(hg:bg.length≤1000)(l':td f.length f bg)(ha:iJ H a f)(hb:aN H b bg)(h:∀H' r s,Ext H H'→bV H' r (cL f bg).ops→aN H' s (cL f bg).bg→Q (.tup [.obj r,.obj s]) H') :
  Fn (n+3) 44 [.obj a,.obj b] H Q E:=by
 refine⟨bd rfl,iq fun c hc=>?_⟩
 have x0:=(Ext.refl H).set hc (.cell none)
 refine aa (Ci (x0 _ _ ha)) (aF (fun z=>?_) fun z u hu=>gD (af (ai _ _ _) (aj (ai _ _ _) hu)) ?_)
 ·refine h _ a b x0 ?_ ?_
  ·refine ab (jK z) ?_
   exact(x0 _ _ ha).trans (congrArg (fun l=>some (AO.list l)) (si z))
  ·refine ab (jK z) ?_
   exact x0 _ _ hb
 ·obtain⟨hu,huc⟩:=bn hu
  have x1:Ext H (upd (upd (upd H c (.cell none)) u (.list [])) c (.cell (some (.obj u)))):=(x0.set hu _).set hc _
  refine aa rfl ⟨rfl,trivial,aa (aT (x1 _ _ ha)) (kK (fun i L H'=>Ext H H'∧L 6=some (.obj a)∧L 7=some (.obj b)∧L 58=some (nV (aq f i))∧H' c=some (.cell (some (.obj u)))∧aN H' u (dL f i)) ⟨x1,rfl,rfl,rfl,ai _ _ _,af (ai _ _ _) huc⟩ ?_ ?_)⟩
  ·rintro i v L H' K hv ⟨x,e0,e1,e2,e3,e4⟩ T
   rw[Ko]at hv
   obtain⟨o,ho,rfl⟩:=Kt.mp hv
   have hi:i<f.length:=(Kk.mp ho).1
   refine aQ e3 (aa (cw e4) (aa e2 (aa (ay e4) ⟨bD (m:=1000) (by rw[Kf,nR];exact am (KN hi) hf) (aD rfl),?_⟩)))
   rw[iN,lY]
   have x2:Ext H (upd H' u (.list ((dL f (i+1)).map nV))):=x.set hu _
   have e5:=af (o:=.list ((dL f (i+1)).map nV)) e3 huc.symm
   refine aa (rB o) (aF (fun z=>aa e2 ?_) fun z=>?_)
   ·exact T.go _ _ (x2 _ _ ha) ⟨x2,e0,e1,congrArg (fun k=>some (nV k)) ((eH ho).trans (congrArg (aq f i+·) (Kh z))).symm,e5,ai _ _ _⟩
   ·exact T.go _ _ (x2 _ _ ha) ⟨x2,e0,e1,e2.trans (congrArg (fun k=>some (nV k)) ((eH ho).trans (congrArg (aq f i+·) (Kg (ch z)))).symm),e5,ai _ _ _⟩
  ·rintro L H' ⟨x,e0,e1,e2,e3,e4⟩
   rw[Kf]at e2 e4
   refine aQ e3 (aa (cw e4) (aa e2 (aa (ay e4) ⟨bD (m:=1000) (by rw[Kf,nR];exact hf) (aD rfl),?_⟩)))
   rw[iN,lY]
   have x2:Ext H (upd H' u (.list ((dL f (f.length+1)).map nV))):=x.set hu _
   exact vg x2 hf hg l' e0 e1 (x2 _ _ ha) (x2 _ _ hb) (af e3 huc.symm) (ai _ _ _) fun H3 r s x3 o1 o2=>h H3 r s x3 (by refine ab (jL l') ?_;exact o1) (by refine ab (jL l') ?_;exact o2)
end
end
section
section
variable {n:Nat} {H:Hp} {Q:V→Hp→Prop} {E:Nat→Hp→Prop} {c:Cd}
theorem gC{α β:Type}{k:α→Option β}{f:α→β}:∀{l:List α},(∀x∈l,k x=some (f x))→l.filterMap k=l.map f
 |[],_=>rfl
 |x::l,h=>(List.filterMap_cons_some (h x (.head _))).trans (congrArg (f x::·) (gC fun y hy=>h y (.tail _ hy)))
theorem wF{g:Nat→Op→Option Op}{ops:List Op}{k:Nat→Option V}(h:∀(i:Nat) (o:Op),ops[i]?=some o→k i=some (oV (g i o))):(List.range ops.length).filterMap k=(ops.mapIdx g).map oV:=by
 refine(gC (f:=fun i=>(k i).getD .none) fun i hi=>?_).trans (List.ext_getElem? fun i=>?_)
 ·refine ab (h i _ (Kj (KZ.mp hi))) ?_;rfl
 ·refine ab (Ko) ?_;refine ab (Ko) ?_;refine ab (KR) ?_
  cases e:ops[i]? with
  |none=>refine ab (Lz (by rw[KT];exact List.getElem?_eq_none_iff.mp e)) ?_;rfl
  |some o =>
   refine ab (List.getElem?_range (Kk.mp e).1) ?_
   exact congrArg some (show(k i).getD .none=_ by refine ab (h i o e) ?_;rfl)
theorem uO(x:Well c)(hl:c.ops.length≤1000)(hg:c.bg.length≤1000){a b:Nat}(ha:bV H a c.ops)(hb:aN H b c.bg)(h:∀H' r s,Ext H H'→bV H' r (ki c).ops→aN H' s (ki c).bg→Q (.tup [.obj r,.obj s]) H') :
  Fn (n+4) 45 [.obj a,.obj b] H Q E:=by
 obtain⟨W,tt,T⟩:=x
 have l':=(vo W T).lab'
 refine⟨bd rfl,oY fun c1 c2 h12 f1 f2=>?_⟩
 have x0:Ext H (upd (upd H c1 (.cell (some (.obj a)))) c2 (.cell none)):=((Ext.refl H).set f1 _).set f2 _
 refine aQ (af (ai _ _ _) h12) (Dg (n:=n) W hl (x0 _ _ ha) (x0 _ _ hb) fun H1 t x1 e1=>gD (x1 _ _ (ai _ _ _)) ?_)
 have x2:Ext H (upd H1 c2 (.cell (some (.obj t)))):=(x0.trans x1).set f2 _
 have k1:upd H1 c2 (.cell (some (.obj t))) c1=some (.cell (some (.obj a))):=af (x1 _ _ (af (ai _ _ _) h12)) h12
 have k2:upd H1 c2 (.cell (some (.obj t))) c2=some (.cell (some (.obj t))):=ai _ _ _
 have k3:upd H1 c2 (.cell (some (.obj t))) t=some (.list (Bl (c.ops.length+1) (dy c))):=af e1 fun z=>by
  replace e1:=z▸e1;replace e1:=(x1 _ _ (ai _ _ _))▸e1;cases e1
 generalize upd H1 c2 (.cell (some (.obj t)))=H2 at x2 k1 k2 k3
 refine aQ k1 (aa (cy (x2 _ _ ha)) ⟨rfl,ku hl,dN (f:=nV) (l:=List.range c.ops.length) (g:=fun i=>(c.ops[i]?).map fun o=>oV (if dy c i=true then some o else none)) (by exact trivial) (fun i hi K hk=>?_) (by refine ab KT ?_;exact am (bU (Nat.zero_add _)) (am hl (aD rfl))) fun r hr=>?_⟩)
 ·have hi:=KZ.mp hi
  replace hk:=(Kj hi)▸hk
  have hk:K (some (oV (if dy c i=true then some c.ops[i]else none))) _:=hk
  refine bB rfl (aQ k2 (aa rfl (aa (getL k3 (iG (Nat.lt_succ_of_lt hi))) (aF (fun z=>aQ k1 (aa rfl (aa (bt (x2 _ _ ha) (Kj hi)) ?_))) fun z=>?_))))
  ·replace hk:=(Kh z)▸hk;exact hk
  ·replace hk:=(Kg (ch z))▸hk;exact hk
 ·have e4:iJ (upd H2 r (.list ([]++(List.range c.ops.length).filterMap fun i=>(c.ops[i]?).map fun o=>oV (if dy c i=true then some o else none)))) r (iw c) :=
   (ai _ _ _).trans (congrArg (fun l=>some (AO.list l)) (wF fun i o e=>by refine ab e ?_;rfl))
  have y:Ext H2 (upd H2 r (.list ([]++(List.range c.ops.length).filterMap fun i=>(c.ops[i]?).map fun o=>oV (if dy c i=true then some o else none)))):=(Ext.refl H2).new hr _
  generalize upd H2 r (.list ([]++(List.range c.ops.length).filterMap fun i=>(c.ops[i]?).map fun o=>oV (if dy c i=true then some o else none)))=H3 at e4 y
  have x3:=x2.trans y
  refine⟨rfl,trivial,aa (aT (x3 _ _ hb)) (dN (g:=fun b=>some (nV (if dy c b=true then b else 0))) (by exact x3 _ _ hb) (fun p hp K hk=>bB rfl (aQ (y _ _ k2) (aa rfl (aa (getL (y _ _ k3) (iG (Nat.lt_succ_of_lt (W.bg p hp)))) (aF (fun z=>aa rfl ?_) fun z=>?_))))) (am (bU (Nat.zero_add _)) (am hg (aD rfl))) fun s hs=>?_)⟩
  ·have hk:K (some (nV (if dy c p=true then p else 0))) _:=hk
   replace hk:=(Kh z)▸hk;exact hk
  ·have hk:K (some (nV (if dy c p=true then p else 0))) _:=hk
   replace hk:=(Kg (ch z))▸hk;exact hk
  ·refine jJ (n:=n) (f:=iw c) (bg:=c.bg.map fun b=>if dy c b=true then b else 0) (am (bU Kz) hl) (by rw[Kf];exact hg) l' (af e4 (aj e4 hs)) ((ai _ _ _).trans (congrArg (fun l=>some (AO.list l)) ?_)) fun H4 r' s' x4 o1 o2=>h H4 r' s' ((x3.new hs _).trans x4) o1 o2
   refine(?_:c.bg.filterMap _=(c.bg.map _).map _)
   refine ab Lk ?_
   exact congrFun (List.filterMap_eq_map (f:=nV ∘ fun b=>if dy c b=true then b else 0)) c.bg
end
end
section
section
variable {n:Nat} {H:Hp} {Q:V→Hp→Prop} {E:Nat→Hp→Prop} {c:Cd}
noncomputable def EntK(c:Cd)(k:Nat)(fd:Nat→Bool):Prop:=∀p,fd p=true↔(p=0∨∃(i:Nat) (o:Op),i<k∧c.ops[i]?=some o∧(p∈o.labels∨p∈o.calls c.bg i))
theorem setF_iff{fd:Nat→Bool}{q p:Nat}:setF fd q p=true↔(p=q∨fd p=true):=by
 unfold setF
 rw[Bool.or_eq_true_iff,beq_iff_eq]
noncomputable def lA(fd:Nat→Bool):List Nat→Nat→Bool
 |[]=>fd
 |l::ls=>lA (setF fd l) ls
theorem jE:∀{ls:List Nat} {fd:Nat→Bool} {p:Nat},lA fd ls p=true↔(p∈ls∨fd p=true)
 |[],fd,p=>⟨.inr,fun h=>h.elim (fun z=>nomatch z) id⟩
 |l::ls,fd,p=>by
  refine(?_:lA (setF fd l) ls p=true↔_)
  rw[jE,setF_iff,List.mem_cons,← or_assoc,or_comm (a:=p∈ls)]
theorem EntK.next{k:Nat}{fd fd':Nat→Bool}{o:Op}(x:EntK c k fd)(ho:c.ops[k]?=some o)(h:∀p,fd' p=true↔(p∈o.labels∨p∈o.calls c.bg k)∨fd p=true):EntK c (k+1) fd':=fun p=>by
 rw[h,x p]
 constructor
 ·rintro (h|h|⟨i,o',h1,h2⟩)
  ·exact .inr ⟨k,o,La k,ho,h⟩
  ·exact .inl h
  ·exact .inr ⟨i,o',Nat.lt_succ_of_lt h1,h2⟩
 ·rintro (h|⟨i,o',h1,h2,h3⟩)
  ·exact .inr (.inl h)
  ·rcases Nat.lt_succ_iff_lt_or_eq.mp h1 with z|rfl
   ·exact .inr (.inr ⟨i,o',z,h2,h3⟩)
   ·rw[ho]at h2;replace h2:=oInj h2;subst h2;exact .inl h3
theorem EntK.end_{fd:Nat→Bool}(x:EntK c c.ops.length fd)(p:Nat):fd p=aU c p:=by
 have:fd p=true↔aU c p=true:=(x p).trans (Iff.trans ⟨fun h=>h.imp id fun⟨i,o,_,h⟩=>⟨i,o,h⟩,fun h=>h.imp id fun⟨i,o,h⟩=>⟨i,o,(Kk.mp h.1).1,h⟩⟩ ent_true.symm)
 cases e:fd p<;>cases e2:aU c p
 ·rfl
 ·rw[e,e2]at this;exact aC (this.mpr rfl)
 ·rw[e,e2]at this;exact aC (this.mp rfl)
 ·rfl
theorem zv{K1 K2:du}{C:List (Nat×Nat)}{LN:Nat→Option (List Nat×Node)}{X:Nat→St→Prop}{src:V}{all:List V}{N r:Nat}{QQ:Fl→St→Prop}(hsrc:∀vs,src≠.obj vs):∀{ls:List Nat} {fd:Nat→Bool} {L:Lc} {H':Hp} (L0:Lc),
  (∀l∈ls,l<N)→L 62=some (.obj r)→(∀x,x≠22→L x=L0 x)→H' r=some (.list (Bl N fd))→(∀L2 H2,(∀x,x≠22→L2 x=L0 x)→(∀b,b≠r→H2 b=H' b)→H2 r=some (.list (Bl N (lA fd ls)))→QQ .next ⟨L2,H2⟩) →
  jW src all (fun u τ K=>dm (bv T0 K1 K2 false C LN) 22 false u τ fun τ=>wSs [.seti (.loc 62) (.loc 22) (.bool true)] (bv T0 K1 K2 false C LN) τ K X) (ls.map nV) ⟨L,H'⟩ QQ:=by
 intro ls
 induction ls with
 |nil =>
  intro fd L H' L0 _ _ hL e1 h
  exact h L H' hL (fun zz zz=>rfl) e1
 |cons l ls ih =>
  intro fd L H' L0 hl e0 hL e1 h
  refine aa e0 (aa rfl (aa (iX e1 (by rw[gS];exact hl l (.head _))) ⟨?_,ih L0 (fun q hq=>hl q (.tail _ hq)) e0 (fun x hx=>(aV hx).trans (hL x hx)) ((ai _ _ _).trans (congrArg (fun l=>some (AO.list l)) kY)) fun L2 H2 g1 g2 g3=>h L2 H2 g1 (fun b hb=>(g2 b hb).trans (aV hb)) g3⟩))
  cases src with
  |obj a=>exact absurd rfl (hsrc a)
  |_=>exact trivial
theorem nH(W:WF c)(hl:c.ops.length≤1000){a b:Nat}(ha:bV H a c.ops)(hb:aN H b c.bg)(h:∀H' r,Ext H H'→H' r=some (.list (Bl (c.ops.length+1) (aU c)))→Q (.obj r) H'):Fn (n+2) 33 [.obj a,.obj b] H Q E:=by
 refine⟨bd rfl,fun t ht=>aa (cy (af ha (aj ha ht))) (aa (ay (ai _ _ _)) (aa rfl (aa rfl ⟨Int.ofNat_nonneg _,Int.ofNat_lt.mpr (bD (m:=1001) (dc hl) (by decide)),fun r hr=>?_⟩)))⟩
 obtain⟨hr,htr⟩:=bn hr
 have hr:H r=none:=hr
 have x0:Ext H (upd (upd H t (.list [.bool false])) r (.list (List.replicate (c.ops.length+1) (.bool false)))):=((Ext.refl H).set ht _).set hr _
 have e0:upd (upd H t (.list [.bool false])) r (.list (List.replicate (c.ops.length+1) (.bool false))) r=some (.list (Bl (c.ops.length+1) fun zz=>false)):=(ai _ _ _).trans (congrArg (fun l=>some (AO.list l)) (xZ _))
 refine aa (iX (i:=0) e0 (by rw[gS];exact Nat.succ_pos _)) (aa (cy (af (x0 _ _ ha) (aj ha hr))) ⟨rfl,ku hl,cX (N:=c.ops.length) (fun i L H'=>Ext H H'∧L 6=some (.obj a)∧L 7=some (.obj b)∧L 62=some (.obj r)∧∃fd,H' r=some (.list (Bl (c.ops.length+1) fd))∧EntK c i fd)
  ⟨x0.set hr _,rfl,rfl,rfl,setF (fun zz=>false) 0,(ai _ _ _).trans (congrArg (fun l=>some (AO.list l)) kY),fun p=>by rw[setF_iff];exact⟨fun z=>z.elim .inl fun z=>aC z,fun z=>z.elim .inl fun⟨i,_,lt,_⟩=>absurd lt (Nat.not_lt_zero i)⟩⟩ ?_ ?_⟩)
 ·rintro i L H' K hi ⟨x,e0,e1,e2,fd,e3,ek⟩ T
  have ho:c.ops[i]?=some c.ops[i]:=Kj hi
  generalize c.ops[i]=o at ho
  refine aa e0 (aa rfl (aa (bt (x _ _ ha) ho) (eZ ⟨rfl,trivial,zv (fun zz z=>by injection z) (upd L 82 (nV i)) (fun l hl'=>Nat.lt_succ_of_lt (W.lab o (mGe ho) l hl')) e2 (fun zz zz=>rfl) e3 fun L2 H2 g1 g2 g3=>?_⟩)))
  have k0:L2 6=some (.obj a):=(g1 6 (by decide)).trans e0
  have k1:L2 7=some (.obj b):=(g1 7 (by decide)).trans e1
  have k2:L2 62=some (.obj r):=(g1 62 (by decide)).trans e2
  have k3:L2 82=some (nV i):=g1 82 (by decide)
  have x2:Ext H H2:=fun p q e=>(g2 p (fun z=>by rw[z,hr]at e;injection e)).trans (x p q e)
  refine aa k0 (aa k3 (aa (bt (x2 _ _ ha) ho) (aa (cW o) (aF (fun z=>?_) fun z=>?_))))
  ·obtain⟨p,q,rfl⟩:=fE z
   have hp:=W.per p q (mGe ho)
   refine aa k2 (aa k1 (aa k0 (aa k3 (aa (bt (x2 _ _ ha) ho) (aa (gu (x2 _ _ hb) (iC hp)) (aa (iX g3 (by rw[gS];exact Nat.lt_succ_of_lt (W.begin p))) ?_))))))
   refine ab kY ?_
   refine aa k2 (aa k3 (aa (iX (i:=i+1) (ai _ _ _) (by rw[gS];exact Nat.succ_lt_succ hi)) ?_))
   refine ab kY ?_
   refine T.go _ _ trivial ⟨(x2.set hr _).set hr _,k0,k1,k2,_,ai _ _ _,ek.next ho fun j=>?_⟩
   rw[setF_iff,setF_iff,jE]
   refine(?_:j=i+1∨j=c.bg.getD p 0∨j∈[]∨fd j=true↔(j∈[]∨j∈[c.bg.getD p 0,i+1])∨fd j=true)
   simp only[List.mem_cons,Kr,false_or,or_false]
   rw[← or_assoc,or_comm (a:=j=i+1)]
  ·refine T.go _ _ trivial ⟨x2,k0,k1,k2,_,g3,ek.next ho fun j=>?_⟩
   rw[jE]
   have:o.calls c.bg i=[]:=by
    cases o with
    |perform p q=>injection z
    |_=>rfl
   refine ab this ?_
   exact⟨fun q=>q.imp .inl id,fun q=>q.imp (fun q=>q.elim id fun q=>nomatch q) id⟩
 ·rintro L H' ⟨x,e0,e1,e2,fd,e3,ek⟩
  exact aa e2 (h _ r x (e3.trans (congrArg (fun l=>some (AO.list l)) (sV fun i zz=>ek.end_ i))))
end
end
section
theorem Bf{o:Op}(h:(o.code==103)=true):∃d,o=.one (.do_ d):=by
 cases o with
 |one o=>cases o<;>first|exact⟨_,rfl⟩|exact aC h
 |br b l=>cases b<;>exact aC h
 |rk r l=>cases r<;>exact aC h
 |_=>exact aC h
theorem xt{o:Op}(h:(o.code==16)=true):∃n l,o=.br (.put n) l:=by
 cases o with
 |br b l=>cases b<;>first|exact⟨_,_,rfl⟩|exact aC h
 |one o=>cases o<;>exact aC h
 |rk r l=>cases r<;>exact aC h
 |_=>exact aC h
theorem AE{S:AsSt}{o:Op}(h1:(o.code==18)=false)(h2:(o.code==17)=false):dD S o=some o∧((o.code==103)=false→(o.code==16)=false→cq S o=S):=by
 cases o with
 |br b l =>
  cases b with
  |test c=>exact aC h1.symm
  |key c=>exact aC h2.symm
  |put n=>exact⟨rfl,fun zz z=>aC z.symm⟩
  |less=>exact⟨rfl,fun zz zz=>rfl⟩
 |one o =>
  cases o with
  |do_ d=>exact⟨rfl,fun z=>aC z.symm⟩
  |_=>exact⟨rfl,fun zz zz=>rfl⟩
 |_=>exact⟨rfl,fun zz zz=>rfl⟩
noncomputable def Es:Option Nat→V
 |some k=>.str k
 |none=>.none
theorem sG(c:Bool):∀hs:List Bool,(hs.map cond).any (fun v=>V.eqb v (cond c))=decide (c∈hs)
 |[]=>rfl
 |d::hs=>by
  refine(?_:(V.eqb (cond d) (cond c)||(hs.map cond).any _)=_)
  refine ab (sG c hs) ?_;refine ab List.decide_mem_cons ?_
  congr 1
  cases c<;>cases d<;>rfl
theorem Db{H:Hp}{a:Nat}{c:Bool}{hs:List Bool}(e:H a=some (.list (hs.map cond))):di H .isin (cond c) (.obj a)=some (decide (c∈hs)):=by
 refine(qq (aT e) (kQ c 17) (cJ (fun c=>kQ c 17) hs)).trans ?_
 rw[sG]
theorem vv{H:Hp}(k:Option Nat):di H .isnot (Es k) .none=some k.isSome:=by cases k<;>rfl
section
variable {n:Nat} {H:Hp} {Q:V→Hp→Prop} {E:Nat→Hp→Prop} {c:Cd}
noncomputable def lp(L:Lc)(H:Hp)(r:Nat)(S:AsSt):Prop:=(∃hl,L 144=some (.obj hl)∧H hl=some (.list (S.hold.map cond))∧hl≠r)∧L 17=some (Es S.key)
theorem Dq{cx:du}{LN:Nat→Option (List Nat×Node)}{K2:du}{X:Nat→St→Prop}{L:Lc}{H0:Hp}{r:Nat}{vs:List V}{S:AsSt}{o:Op}{K:Fl→St→Prop}(x:Ext H0 H)(hr:H0 r=none)(e0:L 62=some (.obj r))(e1:L 11=some o.toV)(e2:H r=some (.list vs))(hv:vs.length≤1000)(hS:lp L H r S)(hn:S.hold.length≤1000)
  (h:∀L2 H2,Ext H0 H2→(∀i,i≠130→i≠144→i≠17→L2 i=L i)→H2 r=some (.list (vs++[oV (dD S o)]))→lp L2 H2 r (cq S o)→K .next ⟨L2,H2⟩):wSs ((at? FK 2).b?.drop 2) (bv T0 cx K2 false [] LN) ⟨L,H⟩ K X:=by
 obtain⟨⟨hl,g1,g2,g3⟩,g4⟩:=hS
 have lt:vs.length<gE:=bD hv (aD rfl)
 have tail:∀(L2:Lc) (H2:Hp) (v:V),Ext H0 H2→(∀i,i≠130→i≠144→i≠17→L2 i=L i)→L2 130=some v→v=oV (dD S o)→H2 r=some (.list vs)→lp L2 H2 r (cq S o)→wSs [.expr (.mcall (.loc 62) 100 [.loc 130])] (bv T0 cx K2 false [] LN) ⟨L2,H2⟩ K X:=fun L2 H2 v x2 f1 f2 f3 f4 f5=>by
  subst f3
  have f0:L2 62=some (.obj r):=(f1 62 (by decide) (by decide) (by decide)).trans e0
  obtain⟨⟨hl,k1,k2,k3⟩,k4⟩:=f5
  exact pk f0 f4 f2 (am hv (aD rfl)) (h _ _ (x2.set hr _) f1 (ai _ _ _) ⟨⟨hl,k1,af k2 k3,k3⟩,k4⟩)
 have no:∀{v:V} {i:Nat},i≠130→upd L 130 v i=L i:=fun z=>aV z
 refine aa e1 (aa e1 (aa (cW o) (aF (fun z=>?_) fun z=>aa e1 (aa (cW o) (aF (fun y=>?_) fun y=>aa e1 (aa (cW o) (aF (fun w=>?_) fun w=>aa e1 (aa (cW o) (aF (fun u=>?_) fun u=>?_)))))))))
 ·obtain⟨d,l,rfl⟩:=jl z
  refine aa e1 (aa g1 (aa (Db g2) (aF (fun y=>?_) fun y=>aa g1 (aa e1 fun t ht=>aa (ay (af g2 (aj g2 ht))) (aa (ay (ai _ _ _)) ⟨?_,fun u hu=>?_⟩)))))
  ·have y':=Kn y
   refine tail _ _ .none x (fun i a zz zz=>(aV a).trans (aV a)) rfl (congrArg oV (show dD S (.br (.test d) l)=none from Kh y')).symm e2 ?_
   refine ab (show cq S (.br (.test d) l)=S from Kh y') ?_
   exact⟨⟨hl,g1,g2,g3⟩,g4⟩
  ·rw[Kf];exact am (Nat.add_le_add_right hn 1) (aD rfl)
  ·have y':¬ d∈S.hold:=of_decide_eq_false y
   obtain⟨hu,hut⟩:=bn hu
   have k:=af (o:=.list (S.hold.map cond++[cond d])) (af (o:=.list [cond d]) e2 (aj e2 ht)) (aj e2 hu)
   refine tail _ _ _ ((x.new ht _).new (show upd H t _ u=none from (aV hut).trans hu) _) (fun i a b zz=>(aV b).trans (aV a)) rfl (congrArg oV (show dD S (.br (.test d) l)=some _ from Kg y')).symm k ?_
   refine ab (show cq S (.br (.test d) l)=⟨S.hold++[d],S.key⟩from Kg y') ?_
   exact⟨⟨u,rfl,(ai _ _ _).trans (congrArg (fun l=>some (AO.list l)) (show S.hold.map cond++[cond d]=(S.hold++[d]).map cond by refine ab Li ?_;rfl)),(aj e2 hu).symm⟩,g4⟩
 ·obtain⟨k,l,rfl⟩:=rW y
  refine aa g4 (aa (vv S.key) (aF (fun w=>?_) fun w=>aa e1 ?_))
  ·obtain⟨j,hj⟩:=Ks.mp w
   rw[hj]at g4
   have en:cq S (.br (.key k) l)=S:=by unfold cq;refine ab hj ?_;rfl
   refine aa g4 (aa e1 (aF (fun(u:(j==k)=true)=>?_) fun(u:(j==k)=false)=>aa e1 ?_))
   ·refine tail _ _ .none x (fun i a zz zz=>(aV a).trans (aV a)) rfl ?_ e2 (by refine ab en ?_;exact⟨⟨hl,g1,g2,g3⟩,g4.trans (by refine ab hj ?_;rfl)⟩)
    unfold dD
    refine ab hj ?_
    refine(?_:V.none=oV (if j=k then none else some (.jump l)))
    refine ab (Kh (Ki u)) ?_;rfl
   ·refine tail _ _ _ x (fun i a zz zz=>(aV a).trans (aV a)) rfl ?_ e2 (by refine ab en ?_;exact⟨⟨hl,g1,g2,g3⟩,g4.trans (by refine ab hj ?_;rfl)⟩)
    unfold dD
    refine ab hj ?_
    refine(?_:V.tup [.str 13,nV l]=oV (if j=k then none else some (.jump l)))
    refine ab (Kg (ne_of_beq_false u)) ?_;rfl
  ·have hj:S.key=none:=Option.isNone_iff_eq_none.mp (by rewrite[← Option.not_isSome];refine ab w ?_;rfl)
   refine tail _ _ _ x (fun i a zz b=>(aV b).trans (aV a)) rfl ?_ e2 ?_
   ·unfold dD;refine ab hj ?_;rfl
   ·unfold cq;refine ab hj ?_;exact⟨⟨hl,g1,g2,g3⟩,rfl⟩
 ·obtain⟨d,rfl⟩:=Bf w
  refine⟨rfl,fun t ht=>?_⟩
  exact tail _ _ _ (x.new ht _) (fun i a b d=>(aV d).trans ((aV b).trans (aV a))) rfl rfl (af e2 (aj e2 ht)) ⟨⟨t,rfl,ai _ _ _,(aj e2 ht).symm⟩,rfl⟩
 ·obtain⟨m,l,rfl⟩:=xt u
  intro t ht
  exact tail _ _ _ (x.new ht _) (fun i a b zz=>(aV b).trans (aV a)) rfl rfl (af e2 (aj e2 ht)) ⟨⟨t,rfl,ai _ _ _,(aj e2 ht).symm⟩,g4⟩
 ·have a:=AE (S:=S) z y
  refine tail _ _ _ x (fun i a zz zz=>aV a) rfl (congrArg oV a.1).symm e2 ?_
  refine ab (a.2 w u) ?_
  exact⟨⟨hl,g1,g2,g3⟩,g4⟩
theorem zl(S:AsSt)(o:Op):(cq S o).hold.length≤S.hold.length+1:=by
 cases o with
 |br b l =>
  cases b with
  |test c =>
   refine(?_:(if c∈S.hold then S else ⟨S.hold++[c],S.key⟩:AsSt).hold.length≤_)
   by_cases h:c∈S.hold
   ·refine ab (Kh h) ?_;exact Nat.le_succ _
   ·refine ab (Kg h) ?_;refine(?_:(S.hold++[c]).length≤_);refine ab Kl ?_;exact aR _
  |key k =>
   refine(?_:(match S.key with|some _=>S|none=>⟨S.hold,some k⟩:AsSt).hold.length≤_)
   cases S.key<;>exact Nat.le_succ _
  |put _=>exact Kx _
  |_=>exact Nat.le_succ _
 |one o=>cases o<;>first|exact Kx _|exact Nat.le_succ _
 |_=>exact Nat.le_succ _
theorem xx(e:Nat→Bool)(p:Nat)(S:AsSt):(eT e p S).hold.length≤S.hold.length:=by
 unfold eT
 by_cases h:e p=true
 ·refine ab (Kh h) ?_;exact Kx _
 ·refine ab (Kg h) ?_;exact aR _
theorem qz(e:Nat→Bool)(ops:List Op):∀p,(eU e ops p).hold.length≤p
 |0=>aR 0
 |p+1=>by
  rw[eU]
  cases ops[p]? with
  |none=>exact KO (qz e ops p)
  |some o=>exact am (zl _ o) (dc (am (xx ..) (qz e ops p)))
theorem FC(e:Nat→Bool)(ops:List Op)(p:Nat):(eU e ops p).hold.length≤p∧(eT e p (eU e ops p)).hold.length≤p:=⟨qz e ops p,am (xx ..) (qz e ops p)⟩
theorem Hg{c:Cx}{x y:Nat}{σ:St}{K:Fl→St→Prop}{X:Nat→St→Prop}(hc:c.hc=none)(h:∀u,σ.H u=none→K .next ⟨upd (upd σ.L x (.obj u)) y .none,upd σ.H u (.list [])⟩):wS (.asgt [(x,false),(y,false)] (.tup [.lst [],.none])) c σ K X:=⟨hc,fun u hu=>h u hu⟩
theorem AB{e:Nat→Bool}{ops:List Op}(hl:ops.length≤1000){a b:Nat}(ha:bV H a ops)(hb:H b=some (.list (Bl (ops.length+1) e)))(h:∀H' r,Ext H H'→iJ H' r (dC e ops)→Q (.obj r) H'):Fn (n+1) 41 [.obj a,.obj b] H Q E:=by
 refine⟨bd rfl,fun r hr=>⟨rfl,fun t ht=>?_⟩⟩
 obtain⟨ht,htr⟩:=bn ht
 have hr:H r=none:=hr
 have x0:Ext H (upd (upd H r (.list [])) t (.list [])):=((Ext.refl H).set hr _).set ht _
 refine aa (cy (x0 _ _ ha)) ⟨rfl,ku hl,cX (N:=ops.length) (fun i L H'=>Ext H H'∧L 6=some (.obj a)∧L 141=some (.obj b)∧L 62=some (.obj r)∧iJ H' r ((dC e ops).take i)∧lp L H' r (eU e ops i)) ⟨x0,rfl,rfl,rfl,af (ai _ _ _) htr.symm,⟨t,rfl,ai _ _ _,htr⟩,rfl⟩ ?_ ?_⟩
 ·rintro i L H' K hi ⟨x,e0,e1,e2,e3,e4⟩ T
  have ho:ops[i]?=some ops[i]:=Kj hi
  generalize ops[i]=o at ho
  have next:eU e ops (i+1)=cq (eT e i (eU e ops i)) o:=by rewrite[eU];refine ab ho ?_;rfl
  have lv:(((dC e ops).take i).map oV).length≤1000:=by rw[Kf];exact am (List.take_sublist _ _).length_le (am (bU Kz) hl)
  have mid:∀(L1:Lc) (H1:Hp),Ext H H1→L1 6=some (.obj a)→L1 141=some (.obj b)→L1 62=some (.obj r)→L1 11=some o.toV→iJ H1 r ((dC e ops).take i)→lp L1 H1 r (eT e i (eU e ops i))→wSs ((at? FK 2).b?.drop 2) (bv T0 (AC T0 n false) (AC T0 n true) false [] F41.LN) ⟨L1,H1⟩ K fun k σ'=>E k σ'.H:=fun L1 H1 x1 f0 f1 f2 f3 f4 f5 =>
   Dq x1 hr f2 f3 f4 lv f5 (am (FC e ops i).2 (am (KN hi) hl)) fun L2 H2 x2 g1 g2 g3=>T.go _ _ trivial ⟨x2,(g1 6 (by decide) (by decide) (by decide)).trans f0,(g1 141 (by decide) (by decide) (by decide)).trans f1,(g1 62 (by decide) (by decide) (by decide)).trans f2,g2.trans (congrArg (fun l=>some (AO.list l)) (snoc oV (uq ho))),next▸g3⟩
  refine aa e0 (aa rfl (aa (bt (x _ _ ha) ho) (aa e1 (aa rfl (aa (getL (x _ _ hb) (iG (Nat.lt_succ_of_lt hi))) (aF (fun z=>Hg (x:=144) (y:=17) rfl fun u hu=>?_) fun z=>?_))))))
  ·exact mid (upd (upd (upd (upd L 82 (nV i)) 11 o.toV) 144 (.obj u)) 17 .none) _ (x.new hu _) e0 e1 e2 rfl (af e3 (aj e3 hu)) (by unfold eT;refine ab (Kh z) ?_;exact⟨⟨u,rfl,ai _ _ _,(aj e3 hu).symm⟩,rfl⟩)
  ·exact mid (upd (upd L 82 (nV i)) 11 o.toV) _ x e0 e1 e2 rfl e3 (by unfold eT;refine ab (Kg (ch z)) ?_;exact e4)
 ·rintro L H' ⟨x,e0,e1,e2,e3,e4⟩
  refine aa e2 (h _ r x ?_)
  rw[show ops.length=(dC e ops).length from Kz.symm,K6]at e3
  exact e3
end
end
section
noncomputable def Hy:Option aJ→V
 |some w=>a8 w
 |none=>.none
noncomputable def lE:Op→Bool
 |.rk (.calc s) _=>s==98
 |_=>false
theorem mt{H:Hp}(o:Op):∃vs,bP H o.toV=some vs∧jD vs none (some (.int 2))=some [.str o.code,o.snd]∧o.toV=.tup vs:=by
 cases o with
 |rk r l=>cases r<;>exact⟨_,rfl,rfl,rfl⟩
 |br b l=>cases b<;>exact⟨_,rfl,rfl,rfl⟩
 |one o=>cases o<;>exact⟨_,rfl,rfl,rfl⟩
 |_=>exact⟨_,rfl,rfl,rfl⟩
theorem Ed{H:Hp}(o:Op):di H .eq (.tup [.str o.code,o.snd]) (.tup [.str 15,.str 98])=some (lE o):=by
 cases o with
 |rk r l =>
  cases r with
  |push q=>cases q<;>rfl
  |«calc» s=>exact(iE (mB (H:=H) (a:=.tup [.str 15,.str s]) (b:=.tup [.str 15,.str 98]) rfl rfl rfl)).trans (congrArg some (Bool.and_true (s==98)))
 |br b l=>cases b with
  |test c=>cases c<;>rfl
  |_=>rfl
 |one o=>cases o<;>rfl
 |_=>rfl
theorem lD{o:Op}(h:(o.code==15)=true):∃s l,o=.rk (.calc s) l:=by
 cases o with
 |rk r l=>cases r<;>first|exact⟨_,_,rfl⟩|exact aC h
 |br b l=>cases b<;>exact aC h
 |one o=>cases o<;>exact aC h
 |_=>exact aC h
section
variable {n:Nat} {H:Hp} {Q:V→Hp→Prop} {E:Nat→Hp→Prop}
theorem tG{w:Nat}{x:aJ}(e:H w=some (.list [a8 x]))(h:Q (a8 (dj x)) H):Fn (n+2) 39 [.str 98,.obj w] H Q E :=
 ⟨bd rfl,bB rfl (aa (getL (i:=0) e rfl) (wZ h))⟩
theorem s8{w s:Nat}{x y:aJ}(hs:(s==98)=false)(hx:okN x)(hy:okN y)(e:H w=some (.list [a8 x,a8 y]))(h:Q (Hy (cO s x y)) H):Fn (n+6) 39 [.str s,.obj w] H Q E:=by
 refine⟨bd rfl,aH hs ⟨rfl,aa (getL (i:=0) e rfl) (aa (getL (i:=1) e rfl) (uD (n:=n) hx hy ?_))⟩⟩
 cases hc:cO s x y with
 |some w=>replace h:=hc▸h;exact h
 |none=>replace h:=hc▸h;exact⟨rfl,rfl,fun zz=>h,fun z=>absurd rfl z⟩
end
structure FoL(L:Lc)(H0 H:Hp)(a b cc r p:Nat)(o:Op)(S:FoSt):Prop where
 ext:Ext H0 H
 l6:L 6=some (.obj a)
 l141:L 141=some (.obj b)
 l82:L 82=some (nV p)
 l11:L 11=some o.toV
 l58:L 58=some (nV (if lE o=true then 1 else 2))
 cell:H cc=some (.cell (some (.obj r)))
 found:iJ H r S.f
 line:∃ln,L 142=some (.obj ln)∧aN H ln S.line.reverse∧ln≠r∧H0 ln=none
noncomputable def yh(L:Lc)(H0 H:Hp)(a b cc r:Nat)(S:FoSt):Prop:=Ext H0 H∧L 6=some (.obj a)∧L 141=some (.obj b)∧H cc=some (.cell (some (.obj r)))∧iJ H r S.f∧∃ln,L 142=some (.obj ln)∧aN H ln S.line.reverse∧ln≠r∧H0 ln=none
section
variable {n:Nat} {H H0:Hp} {L:Lc} {a b cc r p:Nat} {o:Op} {S:FoSt} {K:Fl→St→Prop} {X:Nat→St→Prop} {LN:Nat→Option (List Nat×Node)}
noncomputable abbrev iF(n cc:Nat):Cx:=bv T0 (AC T0 (n+6) false) (AC T0 (n+6) true) false [(62,cc)] F40.LN
noncomputable abbrev b40:List PS:=(at? Hv 2).b?
theorem kL(x:FoL L H0 H a b cc r p o S)(e:L 108=some .none)(hr:H0 r=none)(hc:H0 cc=none)(hp:S.line.length≤1000)(h:∀L2 H2,yh L2 H0 H2 a b cc r ⟨S.f,if o.num.isSome=true then p::S.line else []⟩→K .next ⟨L2,H2⟩):wSs (b40.drop 6) (iF n cc) ⟨L,H⟩ K X:=by
 obtain⟨ln,g1,g2,g3,g4⟩:=x.line
 refine aa e (aH rfl (aa x.l11 (m9 (aF (fun z=>?_) fun z t ht=>?_))))
 ·refine aa g1 (aa (cw g2) (aa x.l82 (aa (ay g2) ⟨bD (m:=1000) (by rewrite[Kf];refine ab KM ?_;exact hp) (aD rfl),?_⟩)))
  refine h _ _ ⟨x.ext.set g4 _,x.l6,x.l141,af x.cell (fun z=>?_),af x.found g3.symm,ln,g1,?_,g3,g4⟩
  ·have:=x.cell;replace this:=z▸this;replace this:=g2▸this;cases this
  ·refine(ai _ _ _).trans (congrArg (fun l=>some (AO.list l)) ?_)
   refine ab (Kh z) ?_;refine ab KF ?_;refine ab Li ?_;rfl
 ·refine h _ _ ⟨x.ext.new ht _,x.l6,x.l141,af x.cell (aj x.cell ht),af x.found (aj x.found ht),t,rfl,?_,(aj x.found ht).symm,x.ext.free ht⟩
  refine ab (Kg (ch z)) ?_;exact ai _ _ _
theorem yN{vs:List V}{m k:Nat}(hm:vs.length=m)(h1:1≤k)(h:k≤m):jD vs none (some (.int ((m:Int)-(k:Int)+1)))=some (vs.take (m-k+1)):=by
 have e:(m:Int)-(k:Int)+1=((m-k+1:Nat):Int):=congrArg (·+1) (Int.ofNat_sub h).symm
 refine ab e ?_
 refine(?_:some ((vs.take (PySem.clipAt vs.length ((m-k+1:Nat):Int))).drop 0)=_)
 rewrite[clip_of];refine ab (Nat.min_eq_left (by rw[hm,← Nat.sub_add_comm h];exact Nat.sub_le_of_le_add (cS h1 m))) ?_;refine ab List.drop_zero ?_;rfl
theorem oH{H:Hp}{r q:Nat}{f:aA}{x:Option Op}:upd H r (.list ((f.map oV).set q (oV x))) r=some (.list ((f.set q x).map oV)):=(ai _ _ _).trans (congrArg (fun l=>some (AO.list l)) (by refine ab List.map_set ?_;rfl))
theorem pL{a0 k:Nat}{r' xs:List Nat}{w:aJ}(x:FoL L H0 H a b cc r p o S)(e:L 108=some (a8 w))(e58:L 58=some (nV k))(hr:H0 r=none)(h1:1≤k)(hl:k≤S.line.length)
  (ht:S.line.reverse.take (S.line.length-k+1)=r'.reverse++[a0]) (h0:a0<S.f.length) (hp:p<S.f.length) (hx:(k=1∧xs=[p])∨(k=2∧∃b',L 76=some (nV b')∧b'<S.f.length∧xs=[b',p]))
  (h:∀L2 H2,yh L2 H0 H2 a b cc r (fN (some w) a0 r' S xs)→K .next ⟨L2,H2⟩):wSs (b40.drop 6) (iF n cc) ⟨L,H⟩ K X:=by
 obtain⟨ln,g1,g2,g3,g4⟩:=x.line
 have hlen:(S.line.reverse.map nV).length=S.line.length:=by rewrite[Kf];refine ab KM ?_;rfl
 refine aa e (bB rfl (aa g1 (aa g1 (aa (dq g2) (aa e58 (aa (aT g2) (aa (yN rfl h1 (by refine ab hlen ?_;exact hl)) fun t ht'=>?_)))))))
 refine ab hlen ?_;refine bT List.map_take ?_;refine ab ht ?_
 have lastA:bA (upd H t (.list ((r'.reverse++[a0]).map nV))) (.obj t) (.int (-1))=some (nV a0):=getLast (ai _ _ _) (fM _ _)
 have tl:upd H t (.list ((r'.reverse++[a0]).map nV)) t=some (.list ((a0::r').reverse.map nV)):=by rewrite[ai];refine ab KF ?_;rfl
 have hf:=af (o:=.list ((r'.reverse++[a0]).map nV)) x.found (aj x.found ht')
 have hcl:=af (o:=.list ((r'.reverse++[a0]).map nV)) x.cell (aj x.cell ht')
 have hx1:Ext H0 (upd H t (.list ((r'.reverse++[a0]).map nV))):=x.ext.new ht' _
 have htr:t≠r:=(aj x.found ht').symm
 have h0t:H0 t=none:=x.ext.free ht'
 have hcr:cc≠r:=fun z=>by have:=x.cell;replace this:=z▸this;replace this:=x.found▸this;cases this
 generalize upd H t (.list ((r'.reverse++[a0]).map nV))=H1 at lastA tl hf hcl hx1
 have len1:(S.f.map oV).length=S.f.length:=Kf _
 have tail:∀(L2:Lc) (H2:Hp) (f2:aA),Ext H0 H2→L2 6=some (.obj a)→L2 141=some (.obj b)→L2 142=some (.obj t)→L2 82=some (nV p)→H2 cc=some (.cell (some (.obj r)))→iJ H2 r f2→f2.length=S.f.length→aN H2 t (a0::r').reverse→(f2.set p none=(fN (some w) a0 r' S xs).f) →
   wSs [.seti (.cel 62) (.loc 82) .none] (iF n cc) ⟨L2,H2⟩ (fun fl σ=>match fl with|.next=>wSs [] (iF n cc) σ K X|fl=>K fl σ) X:=fun L2 H2 f2 y k0 k1 k2 k3 k4 k5 k6 k7 k8=>by
  refine aQ k4 (aa k3 (aa (iX k5 (by rewrite[Kf];refine ab k6 ?_;exact hp)) (h _ _ ⟨y.set hr _,k0,k1,af k4 hcr,?_,t,k2,af k7 htr,htr,h0t⟩)))
  refine bT k8 ?_;exact oH (x:=none)
 refine aa e (aQ hcl (aa lastA (aa (iX hf (by refine ab len1 ?_;exact h0)) ?_)))
 have hf2:=oH (H:=H1) (r:=r) (q:=a0) (f:=S.f) (x:=some (dp w))
 have hx2:Ext H0 (upd H1 r (.list ((S.f.map oV).set a0 (oV (some (dp w)))))):=hx1.set hr _
 have hcl2:=af (o:=.list ((S.f.map oV).set a0 (oV (some (dp w))))) hcl hcr
 have tl2:=af (o:=.list ((S.f.map oV).set a0 (oV (some (dp w))))) tl htr
 rcases hx with ⟨rfl,rfl⟩|⟨rfl,b',q1,q2,rfl⟩
 ·refine aa e58 (aH rfl ?_)
  exact tail (upd L 142 (.obj t)) _ _ hx2 x.l6 x.l141 rfl x.l82 hcl2 hf2 KJ tl2 rfl
 ·refine aa e58 (bB rfl (aQ hcl2 (aa q1 (aa (iX hf2 (by rewrite[Kf];refine ab KJ ?_;exact q2)) ?_))))
  exact tail (upd L 142 (.obj t)) _ ((S.f.set a0 (some (dp w))).set b' none) (hx2.set hr _) x.l6 x.l141 rfl x.l82 (af hcl2 hcr) (oH (x:=none)) (by refine ab KJ ?_;refine ab KJ ?_;rfl) (af tl2 htr) rfl
end
end
section
theorem uZ{vs:List V}{m k:Nat}(hm:vs.length=m)(h:k≤m):jD vs (some (.int ((m:Int)-(k:Int)))) none=some (vs.drop (m-k)):=by
 have e:(m:Int)-(k:Int)=((m-k:Nat):Int):=(Int.ofNat_sub h).symm
 rw[e]
 refine(?_:some ((vs.take vs.length).drop (PySem.clipAt vs.length ((m-k:Nat):Int)))=_)
 rw[clip_of,Nat.min_eq_left (am (K9 _ _) (bU hm.symm)),K6]
theorem vH{p:Nat}{S:FoSt}{o:Op}(h:(o.code==15)=false):eK p S o=⟨S.f,if o.num.isSome=true then p::S.line else []⟩:=by
 cases o with
 |rk r l =>
  cases r with
  |push q=>cases q<;>rfl
  |«calc» s=>exact aC h.symm
 |br b l=>cases b<;>rfl
 |one o=>cases o<;>rfl
 |_=>rfl
section
variable {n:Nat} {H H0:Hp} {L:Lc} {a b cc r p:Nat} {o:Op} {S:FoSt} {K:Fl→St→Prop} {X:Nat→St→Prop} {E:Nat→Hp→Prop} {c:Cd} {h:Nat→List Nat}
theorem FoL.grow(x:FoL L H0 H a b cc r p o S){L2:Lc}{H2:Hp}(e:Ext H H2)(hL:∀i,i≠108→i≠76→L2 i=L i):FoL L2 H0 H2 a b cc r p o S where
 ext:=x.ext.trans e
 l6:=(hL 6 (by decide) (by decide)).trans x.l6
 l141:=(hL 141 (by decide) (by decide)).trans x.l141
 l82:=(hL 82 (by decide) (by decide)).trans x.l82
 l11:=(hL 11 (by decide) (by decide)).trans x.l11
 l58:=(hL 58 (by decide) (by decide)).trans x.l58
 cell:=e _ _ x.cell
 found:=e _ _ x.found
 line:=let ⟨ln,g1,g2,g3,g4⟩:=x.line;⟨ln,(hL 142 (by decide) (by decide)).trans g1,e _ _ g2,g3,g4⟩
theorem DB{qs:List Nat}{u:Nat}{L:Lc}{QQ:V→St→Prop}(x:iJ H r S.f)(hc:H cc=some (.cell (some (.obj r))))(hu:aN H u qs)(hq:∀q∈qs,∃w,S.f[q]?=some (some (dp w)))(hl:qs.length≤1000)(h:∀t,H t=none→QQ (.obj t) ⟨L,upd H t (.list (qs.map fun q=>a8 (cj S.f q)))⟩) :
  dB (.obj u) (qs.map nV) (fun u τ K=>wC none (iF n cc) ⟨upd noL 29 u,τ.H⟩ (fun b τ1=>br b (wE (.sub (.sub (.sub (.cel 62) (.loc 29)) (.int 1)) (.int 1)) (iF n cc) τ1 (fun w τ2=>K (some w) ⟨τ.L,τ2.H⟩) fX) (K none ⟨τ.L,τ1.H⟩)) fX) (qs.map nV) [] ⟨L,H⟩ fun ws τ=>fresh τ (.list ws) QQ:=by
 refine dN (g:=fun q=>some (a8 (cj S.f q))) (by exact hu) (fun q hq' K hk=>?_) (am (bU (Nat.zero_add _)) (am hl (aD rfl))) fun t ht=>?_
 ·obtain⟨w,e⟩:=hq q hq'
  refine bB rfl (aQ hc (aa rfl (aa (getL x (by rw[Ko,e];rfl)) ?_)))
  rw[gq e]at hk
  exact hk
 ·have:=h t ht
  rwa [show([]:List V)++qs.filterMap (fun q=>some (a8 (cj S.f q)))=qs.map fun q=>a8 (cj S.f q)from gC fun zz zz=>rfl]
theorem Line.nums{f:aA}:∀{p:Nat} {l:List Nat},Line c h f p l→∀q∈l,∃w,f[q]?=some (some (dp w))∧okN w∧q<p
 |p,b::r,⟨h1,_,⟨w,h3,h4⟩,h6⟩,q,hq=>by
  rcases mCo hq with rfl|hq
  ·obtain⟨t,t1,t2,_⟩:=h4.ty
   exact⟨w,h3,t2.okN t1,h1⟩
  ·obtain⟨w,e,k,lt⟩:=h6.nums q hq
   exact⟨w,e,k,Nat.lt_trans lt h1⟩
theorem vR{α:Type}{l:List α}(h:1≤l.length):∃a r,l=a::r:=by
 cases l with
 |nil=>exact absurd h (Nat.not_succ_le_zero 0)
 |cons a r=>exact⟨a,r,rfl⟩
theorem He{α:Type}{l:List α}(h:2≤l.length):∃a b r,l=a::b::r:=by
 obtain⟨a,r,rfl⟩:=vR (Nat.le_of_succ_le h)
 obtain⟨b,r,rfl⟩:=vR (Nat.le_of_succ_le_succ h)
 exact⟨a,b,r,rfl⟩
theorem sn{s p:Nat}{S:FoSt}(z:¬ (if (s==98)=true then 1 else 2)≤S.line.length):dZ s p S=⟨S.f,[]⟩:=by
 obtain⟨f,line⟩:=S
 unfold dZ
 cases hs:s==98 with
 |false =>
  rw[hs]at z
  cases line with
  |nil=>rfl
  |cons a l =>
   cases l with
   |nil=>rfl
   |cons b l=>exact absurd (Nat.le_add_left 2 _) z
 |true =>
  rw[hs]at z
  cases line with
  |nil=>rfl
  |cons a l=>exact absurd (Nat.le_add_left 1 _) z
theorem xJ{s t:Nat}{l:Option Nat}(x:FoL L H0 H a b cc r p (.rk (.calc s) l) S)(hr:H0 r=none)(hc:H0 cc=none)(ln:Line c h S.f p S.line)(hp:S.line.length≤1000)(hf:p<S.f.length)(z2:(if (s==98)=true then 1 else 2)≤S.line.length)
  (e2:∀q r',S.line=q::r'→L 76=some (nV q)) (et:H t=some (.list ((S.line.reverse.drop (S.line.length-(if (s==98)=true then 1 else 2))).map fun q=>a8 (cj S.f q)))) (hK:∀L2 H2,yh L2 H0 H2 a b cc r (eK p S (.rk (.calc s) l))→K .next ⟨L2,H2⟩) :
  AC T0 (n+6) false (.clo 39 []) [.str s,.obj t] H (fun v H'=>wSs (b40.drop 6) (iF n cc) ⟨upd L 108 v,H'⟩ K X) E:=by
 obtain⟨f,line⟩:=S
 have nums:=ln.nums
 cases hs:s==98 with
 |true =>
  rw[hs]at z2 et
  obtain⟨a0,r',rfl⟩:=vR (l:=line) z2
  ·skip
   have e:(a0::r').reverse.drop ((a0::r').length-1)=[a0]:=by rw[KF];exact List.drop_left' (KM)
   have et:H t=some (.list (((a0::r').reverse.drop ((a0::r').length-1)).map fun q=>a8 (cj f q))):=et
   rw[e]at et
   obtain⟨w,k1,k2,k3⟩:=nums a0 (.head _)
   cases Ki hs
   refine tG (n:=n+4) (x:=cj f a0) et (pL (k:=1) (r':=r') (a0:=a0) (xs:=[p]) (x.grow (Ext.refl H) fun i u zz=>aV u) rfl x.l58 hr (aR 1) (Nat.le_add_left 1 _) ?_ (Nat.lt_trans k3 hf) hf (.inl ⟨rfl,rfl⟩) hK)
   refine(?_:(a0::r').reverse.take (r'.length+1-1+1)=_)
   rw[List.take_of_length_le (by rw[KM];exact aR _),KF]
 |false =>
  rw[hs]at z2 et
  obtain⟨b',a0,r',rfl⟩:=He (l:=line) z2
  ·skip
   have e:(b'::a0::r').reverse.drop ((b'::a0::r').length-2)=[a0,b']:=by rw[KF,KF,Ll];exact List.drop_left' (KM)
   have et:H t=some (.list (((b'::a0::r').reverse.drop ((b'::a0::r').length-2)).map fun q=>a8 (cj f q))):=et
   rw[e]at et
   obtain⟨w,k1,k2,k3⟩:=nums a0 (.tail _ (.head _))
   obtain⟨w',j1,j2,j3⟩:=nums b' (.head _)
   have hneg:lE (.rk (.calc s) l)=false:=hs
   have fo:eK p ⟨f,b'::a0::r'⟩ (.rk (.calc s) l)=fN (cO s (cj f a0) (cj f b')) a0 r' ⟨f,b'::a0::r'⟩ [b',p]:=by
    refine(?_:dZ s p _=_)
    unfold dZ
    rw[hs]
   rw[fo]at hK
   refine s8 (n:=n) (x:=cj f a0) (y:=cj f b') hs (by rw[gq k1];exact k2) (by rw[gq j1];exact j2) et ?_
   cases hcc:cO s (cj f a0) (cj f b')with
   |none =>
    rw[hcc]at hK
    exact kL (x.grow (Ext.refl H) fun i u zz=>aV u) rfl hr hc hp hK
   |some w =>
    rw[hcc]at hK
    refine pL (k:=2) (r':=r') (a0:=a0) (xs:=[b',p]) (x.grow (Ext.refl H) fun i u zz=>aV u) rfl (x.l58.trans (by rw[hneg];rfl)) hr (by decide) (Nat.le_add_left 2 _) ?_ (Nat.lt_trans k3 hf) hf (.inr ⟨rfl,b',(e2 b' _ rfl:L 76=some (nV b')),Nat.lt_trans j3 hf,rfl⟩) hK
    refine(?_:(b'::a0::r').reverse.take (r'.length+1+1-2+1)=_)
    rw[KF,KF]
    exact List.take_left' (by rw[Kl,KM];rfl)
theorem z9(x:FoL L H0 H a b cc r p o S)(hr:H0 r=none)(hc:H0 cc=none)(ln:Line c h S.f p S.line)(hp:S.line.length≤1000)(hf:p<S.f.length)(hK:∀L2 H2,yh L2 H0 H2 a b cc r (eK p S o)→K .next ⟨L2,H2⟩) :
  wSs (b40.drop 3) (iF n cc) ⟨L,H⟩ K X:=by
 obtain⟨u,g1,g2,g3,g4⟩:=x.line
 have get:∀q∈S.line,∃w,S.f[q]?=some (some (dp w)):=fun q hq=>let ⟨w,e,_⟩:=ln.nums q hq;⟨w,e⟩
 have mid:∀(L2:Lc) (H2:Hp),FoL L2 H0 H2 a b cc r p o S→L2 108=some .none→(∀q r',S.line=q::r'→L2 76=some (nV q))→wSs (b40.drop 5) (iF n cc) ⟨L2,H2⟩ K X:=fun L2 H2 y e1 e2=>by
  obtain⟨u,g1,g2,g3,g4⟩:=y.line
  have len:((S.line.reverse.map nV).length:Int)=S.line.length:=by rw[Kf,KM]
  refine aa y.l11 (aa (cW o) (bM (fun z1=>aa g1 (aa (dq g2) (aa y.l58 (bM (fun z2=>bB rfl ?_) fun z2=>aH z2 ?_)))) fun z1=>aH z1 ?_))
  ·obtain⟨s,l,rfl⟩:=lD z1
   have z2:(if lE (.rk (.calc s) l)=true then 1 else 2)≤S.line.length:=by have:=Kn z2;rw[len]at this;exact Int.ofNat_le.mp this
   have hk:lE (.rk (.calc s) l)=(s==98):=rfl
   rw[hk]at z2
   refine aa y.l11 (aa g1 (aa g1 (aa (dq g2) (aa y.l58 (aa (aT g2) (aa (uZ rfl (by rw[hk,Kf,KM];exact z2)) fun v hv=>?_))))))
   rw[hk,Kf,KM,← List.map_drop]
   have y2:=y.grow ((Ext.refl H2).set hv (.list ((S.line.reverse.drop (S.line.length-(if (s==98)=true then 1 else 2))).map nV))) fun i zz zz=>rfl
   refine⟨rfl,trivial,aa (aT (ai _ _ _)) (DB (S:=S) y2.found y2.cell (ai _ _ _) (fun q hq=>get q (List.mem_reverse.mp (List.mem_of_mem_drop hq))) (am (by rw[K8,KM];exact K9 _ _) hp) fun t ht=>?_)⟩
   have y3:=y2.grow ((Ext.refl _).new ht (.list ((S.line.reverse.drop (S.line.length-(if (s==98)=true then 1 else 2))).map fun q=>a8 (cj S.f q)))) fun i zz zz=>rfl
   have et:upd (upd H2 v (.list ((S.line.reverse.drop (S.line.length-(if (s==98)=true then 1 else 2))).map nV))) t (.list ((S.line.reverse.drop (S.line.length-(if (s==98)=true then 1 else 2))).map fun q=>a8 (cj S.f q))) t=some (.list ((S.line.reverse.drop (S.line.length-(if (s==98)=true then 1 else 2))).map fun q=>a8 (cj S.f q))):=ai _ _ _
   generalize upd (upd H2 v (.list ((S.line.reverse.drop (S.line.length-(if (s==98)=true then 1 else 2))).map nV))) t (.list ((S.line.reverse.drop (S.line.length-(if (s==98)=true then 1 else 2))).map fun q=>a8 (cj S.f q)))=H3 at y3 et
   exact xJ y3 hr hc ln hp hf z2 e2 et hK
  ·refine kL y e1 hr hc hp fun L3 H3 q=>hK L3 H3 ?_
   obtain⟨s,l,rfl⟩:=lD z1
   have z2:¬ (if (s==98)=true then 1 else 2)≤S.line.length:=fun q=>by have:=of_decide_eq_false z2;rw[len]at this;exact this (Int.ofNat_le.mpr q)
   rw[show eK p S (.rk (.calc s) l)=⟨S.f,[]⟩from ?_]
   ·exact q
   ·refine(?_:dZ s p S=_)
    exact sn z2
  ·exact kL y e1 hr hc hp fun L3 H3 q=>hK L3 H3 (vH z1▸q)
 refine aa g1 fun t ht=>aa (rE (af g2 (aj g2 ht)) (fg _ 20) (ai _ _ _)) ?_
 rw[i0]
 have y:=fun v=>x.grow (L2:=upd (upd L 108 .none) 76 v) ((Ext.refl H).set ht (.list [])) fun i a b=>(aV b).trans (aV a)
 refine aF (fun z=>aa g1 ?_) fun z=>aa x.l82 ?_
 ·obtain⟨l,q,hq⟩:=kG (nT z)
  refine aa (getLast (af g2 (aj g2 ht)) (by rw[hq];exact fM l q)) (mid _ _ (y (nV q)) rfl fun q' r' e=>?_)
  rw[e,KF]at hq
  cases (List.append_inj_right' hq rfl)
  rfl
 ·refine mid _ _ (y (nV p)) rfl fun q' r' e=>?_
  rw[e,KF]at z
  have:=List.isEmpty_iff.mp (nF z)
  exact absurd this (by simp)
end
end
section
section
variable {n:Nat} {H:Hp} {Q:V→Hp→Prop} {E:Nat→Hp→Prop} {c:Cd} {h:Nat→List Nat}
theorem yc{o:Op}(h:o.num.isSome=true):∃v,o.snd=v∧(ef o).toV=.tup [.str 14,v,.int (-1)]:=by
 cases o with
 |rk r l =>
  cases r with
  |push q=>cases q with
   |num u s=>exact⟨_,rfl,rfl⟩
   |ref i=>exact aC h
  |«calc» s=>exact aC h
 |_=>exact aC h
theorem Dp{o:Op}(h:o.num.isSome=false):ef o=o:=by
 cases o with
 |rk r l =>
  cases r with
  |push q=>cases q with
   |num u s=>exact aC h.symm
   |ref i=>rfl
  |«calc» s=>rfl
 |_=>rfl
theorem rM:∀{f:aA} {p:Nat} {l:List Nat},Line c h f p l→l.length≤p
 |f,p,[],_=>Kx p
 |f,p,b::r,⟨h1,_,_,h6⟩=>bD (rM h6) h1
theorem xI(W:WF c)(T:Typed c h)(hl:c.ops.length≤1000){a b:Nat}(ha:bV H a c.ops)(hb:H b=some (.list (Bl (c.ops.length+1) (aU c))))(hQ:∀H' r,Ext H H'→iJ H' r (cI (aU c) c.ops)→Q (.obj r) H'):Fn (n+7) 40 [.obj a,.obj b] H Q E:=by
 refine⟨bd rfl,iq fun cc hcc=>⟨rfl,trivial,aa (aT (af ha (aj ha hcc))) (uA (g:=fun o=>some (ef o).toV) (fun H'=>H'=upd H cc (.cell none)) (fun H' e=>by refine ab e ?_;exact af ha (aj ha hcc)) rfl (fun o ho H1 K e hk=>bB rfl (m9 (aF (fun z=>?_) fun z=>?_))) (am (bU (Nat.zero_add _)) (am hl (aD rfl))) fun H1 e1=>?_)⟩⟩
 ·obtain⟨v,e1,e2⟩:=yc z
  have:=hk H1 e
  replace this:=e2▸this
  exact aa (AT o) (by refine ab e1 ?_;exact this)
 ·have:=hk H1 e
  replace this:=(Dp z)▸this
  exact this
 ·subst e1
  intro r hr
  refine gD (af (ai _ _ _) (aj (ai _ _ _) hr)) ?_
  obtain⟨hr,hrc⟩:=bn hr
  have hr:H r=none:=hr
  have x0:Ext H (upd (upd (upd H cc (.cell none)) r (.list ([]++c.ops.filterMap fun o=>some (ef o).toV))) cc (.cell (some (.obj r)))):=(((Ext.refl H).set hcc _).set hr _).set hcc _
  have k1:upd (upd (upd H cc (.cell none)) r (.list ([]++c.ops.filterMap fun o=>some (ef o).toV))) cc (.cell (some (.obj r))) cc=_:=ai _ _ _
  have k2:iJ (upd (upd (upd H cc (.cell none)) r (.list ([]++c.ops.filterMap fun o=>some (ef o).toV))) cc (.cell (some (.obj r)))) r (c.ops.map fun o=>some (ef o)) :=
   (af (ai _ _ _) hrc).trans (congrArg (fun l=>some (AO.list l)) (show[]++c.ops.filterMap _=_ by rewrite[List.nil_append];refine ab Lk ?_;exact gC fun zz zz=>rfl))
  generalize upd (upd (upd H cc (.cell none)) r (.list ([]++c.ops.filterMap fun o=>some (ef o).toV))) cc (.cell (some (.obj r)))=H2 at x0 k1 k2
  intro u hu
  have hur:u≠r:=(aj k2 hu).symm
  have x1:=x0.new hu (.list [])
  have k1:=af (o:=.list []) k1 (aj k1 hu)
  have k2:=af (o:=.list []) k2 (aj k2 hu)
  have k3:aN (upd H2 u (.list [])) u []:=ai _ _ _
  have hu:=x0.free hu
  generalize upd H2 u (.list [])=H3 at x1 k1 k2 k3
  refine aa (cy (x1 _ _ ha)) ⟨rfl,ku hl,cX (N:=c.ops.length) (fun i L H'=>yh L H H' a b cc r (cn (aU c) c.ops i)) ⟨x1,rfl,rfl,k1,k2,u,rfl,k3,hur,hu⟩ ?_ ?_⟩
  ·rintro i L H' K hi ⟨y,e0,e1,e2,e3,ln,e4,e5,e6,e7⟩ TT
   have ho:c.ops[i]?=some c.ops[i]:=Kj hi
   generalize c.ops[i]=o at ho
   have next:cn (aU c) c.ops (i+1)=eK i (if aU c i=true then ⟨(cn (aU c) c.ops i).f,[]⟩else cn (aU c) c.ops i) o:=by rewrite[cn];refine ab ho ?_;rfl
   have fi:=fO W T i (KN hi)
   obtain⟨vs,s1,s2,s3⟩:=mt (H:=H') o
   have mid:∀(L1:Lc) (H1:Hp) (S:FoSt),S=(if aU c i=true then ⟨(cn (aU c) c.ops i).f,[]⟩else cn (aU c) c.ops i)→Line c h S.f i S.line→S.f.length=c.ops.length→FoL L1 H H1 a b cc r i o S→wSs (b40.drop 3) (iF n cc) ⟨L1,H1⟩ K fun k σ'=>E k σ'.H:=fun L1 H1 S hS hln hlen x=>by
    refine z9 x hr hcc hln (am (rM hln) (am (KN hi) hl)) (hlen.symm▸hi) fun L2 H2 z=>?_
    refine TT.go _ _ trivial ?_
    refine ab next ?_;refine bT hS ?_
    exact z
   have l58:∀(k:Nat) (v:V),(if lE o=true then 1 else 2)=k→v=o.toV→wSs (b40.drop 2) (iF n cc) ⟨upd (upd (upd L 82 (nV i)) 11 v) 58 (nV k),H'⟩ K fun k σ'=>E k σ'.H:=fun k v hk hv=>by
    subst hv
    refine aa e1 (aa rfl (aa (getL (y _ _ hb) (iG (Nat.lt_succ_of_lt hi))) (aF (fun z v hv=>?_) fun z=>?_)))
    ·exact mid _ _ ⟨(cn (aU c) c.ops i).f,[]⟩ (Kh z).symm trivial fi.len ⟨y.new hv _,e0,e1,rfl,rfl,congrArg (fun k=>some (nV k)) hk.symm,af e2 (aj e2 hv),af e3 (aj e3 hv),v,rfl,ai _ _ _,(aj e3 hv).symm,y.free hv⟩
    ·exact mid (upd (upd (upd L 82 (nV i)) 11 o.toV) 58 (nV k)) _ _ (Kg (ch z)).symm fi.line fi.len ⟨y,e0,e1,rfl,rfl,congrArg (fun k=>some (nV k)) hk.symm,e2,e3,ln,e4,e5,e6,e7⟩
   refine aa e0 (aa rfl (aa (bt (y _ _ ha) ho) (aa s1 (aa s2 ?_))))
   generalize hv:o.toV=v at s3
   subst s3
   refine⟨rfl,aa (Ed o) (aF (fun z=>?_) fun z=>?_)⟩
   ·exact l58 1 _ (Kh z) hv.symm
   ·exact l58 2 _ (Kg (ch z)) hv.symm
  ·rintro L H' ⟨y,e0,e1,e2,e3,_⟩
   exact aQ e2 (hQ _ r y e3)
end
end
section
mutual
theorem Ae:∀(v:V) (k:Nat),V.flat v k=true→V.eqb v v=true
 |.none,_,_=>rfl
 |.bool b,_,_=>Kq b
 |.int i,_,_=>Kq i
 |.str s,_,_=>Kq s
 |.tup vs,k,h=>by
  cases k with
  |zero=>exact aC h
  |succ k=>exact eqbs_refl vs k h
 |.obj _,_,h=>aC h
 |.clo _ _,_,h=>aC h
theorem eqbs_refl:∀(vs:List V) (k:Nat),V.flats vs k=true→V.eqbs vs vs=true
 |[],_,_=>rfl
 |v::vs,k,h=>by
  have h:=fj (show(V.flat v k&&V.flats vs k)=true from h)
  refine(?_:(V.eqb v v&&V.eqbs vs vs)=true)
  refine ab (Ae v k h.1) ?_;refine ab (eqbs_refl vs k h.2) ?_;rfl
end
theorem nQ{a b:Bool}(h:(a&&b)=true):a=true:=(fj h).1
theorem uG{a b:Bool}(h:(a&&b)=true):b=true:=(fj h).2
theorem md{x1 x2 y1 y2:V}{r s:List V}(h:V.eqb (.tup (x1::x2::r)) (.tup (y1::y2::s))=true):V.eqb x2 y2=true∧V.eqbs r s=true :=
 fj (uG (a:=V.eqb x1 y1) (b:=V.eqb x2 y2&&V.eqbs r s) h)
theorem jY{x y:V}{r s:List V}(h:V.eqbs (x::r) (y::s)=true):V.eqb x y=true:=nQ (a:=V.eqb x y) (b:=V.eqbs r s) h
theorem fc{a b:Int}(h:V.eqb (.int a) (.int b)=true):a=b:=Ki (a:=a) (b:=b) h
theorem dX{a b:Nat}(h:V.eqb (nV a) (nV b)=true):a=b:=Int.ofNat.inj (fc h)
theorem xm:∀{a b:Option Nat},V.eqb (lV a) (lV b)=true→a=b
 |none,none,_=>rfl
 |none,some b,h=>absurd (fc (a:=-1) (b:=(b:Int)) h) (Int.ne_of_lt (Int.lt_of_lt_of_le (by decide) (KL b)))
 |some a,none,h=>absurd (fc (a:=(a:Int)) (b:=-1) h).symm (Int.ne_of_lt (Int.lt_of_lt_of_le (by decide) (KL a)))
 |some a,some b,h=>congrArg some (dX h)
theorem Cb{a b:Opd}(h:V.eqb a.toV b.toV=true):a=b:=by
 cases a with
 |num u s =>
  cases b with
  |num u' s' =>
   have h:V.eqb (.tup [.str 96,.tup [.int u,.int s]]) (.tup [.str 96,.tup [.int u',.int s']])=true:=h
   have h:=(md h).1
   refine ab (fc (a:=u) (b:=u') (nQ (b:=V.eqbs [.int s] [.int s']) h)) ?_;refine ab (fc (md h).1) ?_;rfl
  |ref x=>exact aC h
 |ref x =>
  cases b with
  |num u s=>exact aC h
  |ref y=>exact congrArg Opd.ref (Ki (a:=x) (b:=y) (md (x1:=.str 170) (y1:=.str 170) (x2:=.str x) (y2:=.str y) h).1)
theorem sF{c d:Bool}(h:V.eqb (cond c) (cond d)=true):c=d:=by
 cases c<;>cases d
 ·rfl
 ·exact aC h
 ·exact aC h
 ·rfl
theorem oF{o:Op}(h:(o.code==14)=true):∃q l,o=.rk (.push q) l:=by
 cases o with
 |rk r l=>cases r<;>first|exact⟨_,_,rfl⟩|exact aC h
 |br b l=>cases b<;>exact aC h
 |one o=>cases o<;>exact aC h
 |_=>exact aC h
theorem CP{o:Op}(h:(o.code==19)=true):∃l,o=.br .less l:=by
 cases o with
 |br b l=>cases b<;>first|exact⟨_,rfl⟩|exact aC h
 |rk r l=>cases r<;>exact aC h
 |one o=>cases o<;>exact aC h
 |_=>exact aC h
theorem kH{o:Op}(h:(o.code==12)=true):∃a b,o=.choose a b:=by
 cases o with
 |choose a b=>exact⟨_,_,rfl⟩
 |rk r l=>cases r<;>exact aC h
 |br b l=>cases b<;>exact aC h
 |one o=>cases o<;>exact aC h
 |_=>exact aC h
theorem zQ{o:Op}(h:(o.code==120)=true):o=.one .count:=by
 cases o with
 |one o=>cases o<;>first|rfl|exact aC h
 |br b l=>cases b<;>exact aC h
 |rk r l=>cases r<;>exact aC h
 |_=>exact aC h
theorem zP{o:Op}(h:(o.code==24)=true):∃w,o=.one (.stop w):=by
 cases o with
 |one o=>cases o<;>first|exact⟨_,rfl⟩|exact aC h
 |br b l=>cases b<;>exact aC h
 |rk r l=>cases r<;>exact aC h
 |_=>exact aC h
theorem D4{o p:Op}(h:V.eqb o.toV p.toV=true):o=p:=by
 have hc:(p.code==o.code)=true:=by
  obtain⟨r,e⟩:=qn o
  obtain⟨r',e'⟩:=qn p
  rw[e,e']at h
  exact Bool.beq_comm.trans (nQ (a:=o.code==p.code) h)
 have two:∀{x1 x2 y1 y2:V} {r s:List V},o.toV=.tup (x1::x2::r)→p.toV=.tup (y1::y2::s)→V.eqb x2 y2=true∧V.eqbs r s=true:=fun e e'=>by rw[e,e']at h;exact md h
 cases o with
 |jump l=>obtain⟨l',rfl⟩:=jm hc;refine ab (dX (two rfl rfl).1) ?_;rfl
 |choose a b =>
  obtain⟨a',b',rfl⟩:=kH hc
  have h:V.eqb (.tup [nV a,nV b]) (.tup [nV a',nV b'])=true:=(two rfl rfl).1
  refine ab (dX (a:=a) (b:=a') (nQ (b:=V.eqbs [nV b] [nV b']) h)) ?_;refine ab (dX (md h).1) ?_;rfl
 |perform a b=>obtain⟨a',b',rfl⟩:=fE hc;refine ab (dX (two rfl rfl).1) ?_;refine ab (dX (jY (two rfl rfl).2)) ?_;rfl
 |rk r l =>
  cases r with
  |push q=>obtain⟨q',l',rfl⟩:=oF hc;refine ab (Cb (two rfl rfl).1) ?_;refine ab (xm (jY (two rfl rfl).2)) ?_;rfl
  |«calc» s=>obtain⟨s',l',rfl⟩:=lD hc;refine ab (Ki (a:=s) (b:=s') (two rfl rfl).1) ?_;refine ab (xm (jY (two rfl rfl).2)) ?_;rfl
 |br b l =>
  cases b with
  |test c=>obtain⟨c',l',rfl⟩:=jl hc;refine ab (sF (two rfl rfl).1) ?_;refine ab (dX (jY (two rfl rfl).2)) ?_;rfl
  |key c=>obtain⟨c',l',rfl⟩:=rW hc;refine ab (Ki (a:=c) (b:=c') (two rfl rfl).1) ?_;refine ab (dX (jY (two rfl rfl).2)) ?_;rfl
  |put n=>obtain⟨n',l',rfl⟩:=xt hc;refine ab (fc (md (two rfl rfl).1).1) ?_;refine ab (dX (jY (two rfl rfl).2)) ?_;rfl
  |less=>obtain⟨l',rfl⟩:=CP hc;refine ab (dX (jY (two rfl rfl).2)) ?_;rfl
 |one o =>
  cases o with
  |do_ d=>obtain⟨d',rfl⟩:=Bf hc;refine ab (fc (md (two rfl rfl).1).1) ?_;rfl
  |leave q=>obtain⟨q',rfl⟩:=rV hc;refine ab (fc (two rfl rfl).1) ?_;rfl
  |count=>exact(zQ hc).symm
  |stop w=>obtain⟨w',rfl⟩:=zP hc;refine ab (Ki (a:=w) (b:=w') (two rfl rfl).1) ?_;rfl
theorem zw{α:Type}{f:α→V}(hf:∀x y,V.eqb (f x) (f y)=true→x=y):∀{l m:List α},V.eqbs (l.map f) (m.map f)=true→l=m:=by
 intro l
 induction l with
 |nil =>
  intro m h
  cases m with
  |nil=>rfl
  |cons _ _=>exact aC h
 |cons x l ih =>
  intro m h
  cases m with
  |nil=>exact aC h
  |cons y m =>
   have h:(V.eqb (f x) (f y)&&V.eqbs (l.map f) (m.map f))=true:=h
   refine ab (hf x y (nQ h)) ?_;refine ab (ih (uG h)) ?_;rfl
theorem rL{α:Type}{f:α→V}{H:Hp}{a b:Nat}{l m:List α}(hf:∀x y,V.eqb (f x) (f y)=true→x=y)(hk:∀x,V.flat (f x) 20=true)(ha:H a=some (.list (l.map f)))(hb:H b=some (.list (m.map f))):∃t,di H .eq (.obj a) (.obj b)=some t∧(t=true↔l=m):=by
 refine⟨V.eqbs (l.map f) (m.map f),?_,fun h=>zw hf h,fun h=>h▸eqbs_refl _ 20 (cJ hk l)⟩
 exact iE (j0 (ay ha) (ay hb) (cJ hk l) (cJ hk m))
end
section
section
variable {n:Nat} {H:Hp} {Q:V→Hp→Prop} {E:Nat→Hp→Prop} {c:Cd}
structure Sz(c:Cd):Prop where
 ops:c.ops.length≤1000
 bg:c.bg.length≤1000
theorem jI{f:aA}{bg:List Nat}(h1:f.length≤1000)(h2:bg.length≤1000):Sz (cL f bg):=by
 unfold cL
 split
 ·exact⟨am (List.length_filterMap_le ..) h1,h2⟩
 ·exact⟨am (List.length_filterMap_le ..) h1,by refine(?_:(bg.map _).length≤_);rw[Kf];exact h2⟩
theorem AQ(s:Sz c):Sz (r1 c):=jI (am (bU (Kz.trans (gw _))) s.ops) (by rw[Kf];exact s.bg)
theorem AP(s:Sz c):Sz (r2 c):=jI (am (bU Kz) s.ops) s.bg
theorem AN(x:Well c)(s:Sz c):Sz (r3 c):=by
 obtain⟨W,h,T⟩:=x
 exact jI (am (bU (fO W T _ (aR _)).len) s.ops) s.bg
theorem Gn(s:Sz c):Sz (r4 c):=jI (am (bU Kz) s.ops) s.bg
noncomputable def oX:Ans:=⟨fun zz=>0,fun zz=>false,fun zz zz=>false,fun zz zz=>none⟩
theorem yR(x:Well c)(s:Sz c):Sz (ce c):=by
 have w1:=(qm (A:=oX) x).1
 have w2:=(ql (A:=oX) w1).1
 exact Gn (AN w2 (AP (AQ s)))
theorem yS(x:Well c)(s:Sz c){a b:Nat}(ha:bV H a c.ops)(hb:aN H b c.bg)(h:∀H' r t,Ext H H'→bV H' r (ce c).ops→aN H' t (ce c).bg→Q (.tup [.obj r,.obj t]) H'):Fn (n+9) 46 [.obj a,.obj b] H Q E:=by
 have w1:=(qm (A:=oX) x).1
 have w2:=(ql (A:=oX) w1).1
 have w3:=(vf (A:=oX) w2).1
 have s1:=AQ s
 have s2:=AP s1
 have s3:=AN w2 s2
 have wl:Well ⟨led c.ops,c.bg⟩:=by
  obtain⟨W,tt,T⟩:=x
  exact⟨(nk W T).1,tt,(nk W T).2⟩
 refine⟨bd rfl,rfl,Ei (n:=n+3) s.ops ha fun H1 r1' x1 o1=>uO (n:=n+4) wl (am (bU (gw _)) s.ops) s.bg o1 (x1 _ _ hb) fun H2 a2 b2 x2 o2 p2=>?_⟩
 have o2:bV H2 a2 (r1 c).ops:=o2
 have p2:aN H2 b2 (r1 c).bg:=p2
 have X2:=x1.trans x2
 clear ha hb o1 x1 x2
 refine⟨rfl,CS (n:=n+7) s1.ops o2 fun H3 a3 x3 o3=>?_⟩
 refine jJ (n:=n+5) (bg:=(r1 c).bg) (am (bU Kz) s1.ops) s1.bg (by obtain⟨W,tt,T⟩:=w1;exact(r0 W T).lab') o3 (x3 _ _ p2) fun H4 a4 b4 x4 o4 p4=>?_
 have o4:bV H4 a4 (r2 (r1 c)).ops:=o4
 have p4:aN H4 b4 (r2 (r1 c)).bg:=p4
 have X4:=X2.trans (x3.trans x4)
 clear o2 p2 o3 x3 x4
 refine⟨rfl,nH (n:=n+6) w2.wf s2.ops o4 p4 fun H5 e5 x5 o5=>?_⟩
 obtain⟨W2,t2,T2⟩:=w2
 refine xI (n:=n+1) W2 T2 s2.ops (x5 _ _ o4) o5 fun H6 a6 x6 o6=>?_
 refine jJ (n:=n+5) (bg:=(r2 (r1 c)).bg) (am (bU (fO W2 T2 _ (aR _)).len) s2.ops) s2.bg (sm W2 T2).lab' o6 (x6 _ _ (x5 _ _ p4)) fun H7 a7 b7 x7 o7 p7=>?_
 have o7:bV H7 a7 (r3 (r2 (r1 c))).ops:=o7
 have p7:aN H7 b7 (r3 (r2 (r1 c))).bg:=p7
 have X7:=X4.trans (x5.trans (x6.trans x7))
 clear o4 p4 o5 x5 x6 o6 x7
 refine nH (n:=n+6) w3.wf s3.ops o7 p7 fun H8 e8 x8 o8=>?_
 refine AB (n:=n+7) s3.ops (x8 _ _ o7) o8 fun H9 a9 x9 o9=>?_
 exact jJ (n:=n+5) (bg:=(r3 (r2 (r1 c))).bg) (am (bU Kz) s3.ops) s3.bg (by obtain⟨W,tt,T⟩:=w3;exact(oW W T).lab') o9 (x9 _ _ (x8 _ _ p7)) fun H10 a10 b10 x10 o10 p10=>h H10 a10 b10 (X7.trans (x8.trans (x9.trans x10))) o10 p10
noncomputable abbrev cB(H:Hp)(x:Nat)(c:Cd):Prop:=H x=some (.inst 0 [(6,.tup (c.ops.map Op.toV)),(7,.tup (c.bg.map nV))])
theorem jn{H:Hp}{x k:Nat}{fs:List (Nat×V)}(e:H x=some (.inst k fs)):bo (H x) AO.inst?=some (k,fs):=(cP _ e).trans rfl
theorem bq{H:Hp}{x k:Nat}{fs:List (Nat×V)}{P:Nat×List (Nat×V)→Prop}(e:H x=some (.inst k fs))(h:P (k,fs)):aG (bo (H x) AO.inst?) P:=aa (jn e) h
theorem xT{x:Nat}{u v:V}(e:H x=some (.inst 0 []))(h:Q .none (upd (upd H x (.inst 0 [(6,u)])) x (.inst 0 [(6,u),(7,v)]))):Fn (n+1) 57 [.obj x,u,v] H Q E:=by
 refine⟨bd rfl,?_⟩
 refine aa (jn e) ⟨aD rfl,.head _,?_⟩
 refine aa (jn (ai _ _ _)) ?_
 exact⟨aD rfl,.tail _ (.head _),h⟩
end
end
section
section
variable {n:Nat} {H:Hp} {Q:V→Hp→Prop} {E:Nat→Hp→Prop} {c:Cd}
theorem sL{c:Cd}{a:Nat}(ha:H a=none)(h:∀H',Ext H H'→cB H' a c→Q .none H'):Fn (n+1) 57 [.obj a,.tup (c.ops.map Op.toV),.tup (c.bg.map nV)] (upd H a (.inst 0 [])) Q E :=
 xT (ai _ _ _) (h _ ((((Ext.refl H).set ha _).set ha _).set ha _) (ai _ _ _))
theorem eQ{x:Nat}(e:cB H x c):se H (.obj x) 6=some (.tup (c.ops.map Op.toV)):=ba e rfl
theorem oQ{x:Nat}(e:cB H x c):se H (.obj x) 7=some (.tup (c.bg.map nV)):=ba e rfl
theorem xV{H:Hp}{a b a' b':Nat}{c c':Cd}(h1:bV H a c'.ops)(h2:bV H a' c.ops)(h3:aN H b c'.bg)(h4:aN H b' c.bg):∃t u,di H .eq (.obj a) (.obj a')=some t∧di H .eq (.obj b) (.obj b')=some u∧(t=true→u=true→c'=c)∧(t=true∧u=true∨c'≠c):=by
 obtain⟨t,e1,f1⟩:=rL (f:=Op.toV) (fun zz zz=>D4) (fun o=>ot o 16) h1 h2
 obtain⟨u,e2,f2⟩:=rL (f:=nV) (fun zz zz=>dX) (fun zz=>rfl) h3 h4
 refine⟨t,u,e1,e2,fun z y=>?_,?_⟩
 ·obtain⟨o,b⟩:=c
  obtain⟨o',b'⟩:=c'
  refine ab (show o'=o from f1.mp z) ?_;refine ab (show b'=b from f2.mp y) ?_;rfl
 ·by_cases z:c'=c
  ·subst z;exact .inl ⟨f1.mpr rfl,f2.mpr rfl⟩
  ·exact .inr z
theorem qS(P:Cd→Prop)(hP:∀c,Well c→P c→P (ce c))(x:Well c)(s:Sz c)(p:P c){a:Nat}(ha:cB H a c)(h:∀H' r c',Ext H H'→cB H' r c'→Well c'→Sz c'→P c'→ce c'=c'→Q (.obj r) H'):Fn (n+10) 47 [.obj a] H Q E:=by
 refine⟨bd rfl,rfl,aa (eQ ha) (aa rfl fun t ht=>aa (oQ (af ha (aj ha ht))) (aa rfl fun u hu=>?_))⟩
 obtain⟨hu,hut⟩:=bn hu
 have x0:Ext H (upd (upd H t (.list (c.ops.map Op.toV))) u (.list (c.bg.map nV))):=((Ext.refl H).set ht _).set hu _
 refine⟨rfl,hX (fun m L H'=>Ext H H'∧∃c' k l,Well c'∧Sz c'∧P c'∧L 6=some (.obj k)∧L 7=some (.obj l)∧bV H' k c'.ops∧aN H' l c'.bg∧m=mu c') (mu c) ⟨x0,c,t,u,x,s,p,rfl,rfl,af (ai _ _ _) hut.symm,ai _ _ _,rfl⟩ ?_⟩
 rintro m L H' ⟨y,c',k,l,w',s',p',e0,e1,o,b,rfl⟩
 refine bB rfl ⟨rfl,aa e0 (aa e1 (yS (n:=n) w' s' o b fun H2 r t y2 o2 b2=>?_))⟩
 obtain⟨q1,q2,c1,c2,c3,c4⟩:=xV (c:=c') (c':=ce c') o2 (y2 _ _ o) b2 (y2 _ _ b)
 have next:ce c'≠c'→AI (fun fl σ=>match fl with|.next=>wSs [] (bv T0 (AC T0 (n+9) false) (AC T0 (n+9) true) false [] F47.LN) σ (fun fl σ'=>match fl with|.ret v=>Q v σ'.H|.next=>Q .none σ'.H|.cont=>False) (fun k σ'=>E k σ'.H)|fl=>(fun fl σ'=>match fl with|.ret v=>Q v σ'.H|.next=>Q .none σ'.H|.cont=>False) fl σ) (fun m L H'=>Ext H H'∧∃c' k l,Well c'∧Sz c'∧P c'∧L 6=some (.obj k)∧L 7=some (.obj l)∧bV H' k c'.ops∧aN H' l c'.bg∧m=mu c') (mu c') .next
   ⟨upd (upd (upd (upd L 158 (.obj r)) 159 (.obj t)) 6 (.obj r)) 7 (.obj t),H2⟩:=fun ne=>⟨mu (ce c'),yT w' ne,y.trans y2,ce c',r,t,(qW (A:=oX) w').1,yR w' s',hP c' w' p',rfl,rfl,o2,b2,rfl⟩
 refine aa e0 (aa c1 (bM (fun z1=>aa e1 (aa c2 (bM (fun z2=>bB rfl ?_) fun z2=>aH z2 ⟨rfl,?_⟩))) fun z1=>aH z1 ⟨rfl,?_⟩))
 ·have eq:=c3 z1 z2
  refine aa e0 (aa (aT (y2 _ _ o)) (aa e1 (aa (aT (y2 _ _ b)) fun v hv=>?_)))
  exact sL (n:=n+8) hv fun H3 y3 ca=>⟨rfl,h H3 v c' (y.trans (y2.trans y3)) ca w' s' p' eq⟩
 ·exact next (c4.resolve_left fun z=>by rw[z2]at z;exact aC z.2)
 ·exact next (c4.resolve_left fun z=>by rw[z1]at z;exact aC z.1)
end
end
section
noncomputable def fw(cells:List Int)(n what limit:Nat):Int:=(cells.getD ((5*n+what)%cells.length) 0+n*what).fmod limit
noncomputable def A6(i:Int):Nat:=if i=0 then 85 else if i=1 then 176 else 67
noncomputable def bi(cells:List Int):Ans where
 key n:=A6 (fw cells n 1 3)
 over n:=fw cells n 2 3==0
 test n c:=fw cells n (if c=true then 7 else 6) 2==0
 ref n x:=if (x==181&&fw cells n 3 2==1)=true then none else some (fw cells n 4 4,0)
noncomputable def TE.toV:TE→V
 |.did d=>.tup [.str 185,.int d]
 |.put n w=>.tup [.tup [.str 186,.int n],a8 w]
theorem pu{cells:List Int}{n what limit:Nat}(h:0<limit):0≤fw cells n what limit∧fw cells n what limit<limit :=
 ⟨Int.fmod_nonneg_of_pos _ (Int.ofNat_lt.mpr h),Int.fmod_lt_of_pos _ (Int.ofNat_lt.mpr h)⟩
theorem FG(cells:List Int):(bi cells).ok:=fun n x w e=>by
 have e:(if (x==181&&fw cells n 3 2==1)=true then none else some (fw cells n 4 4,(0:Int)))=some w:=e
 split at e
 ·injection e
 ·replace e:=oInj e;subst e
  have:=pu (cells:=cells) (n:=n) (what:=4) (limit:=4) (by decide)
  refine⟨?_,Int.le_refl 0,show(0:Int)≤30 by decide⟩
  refine(?_:(fw cells n 4 4).natAbs<10^130)
  exact Kw (m:=4) (Int.ofNat_lt.mp (Int.lt_of_le_of_lt (Int.le_of_eq (Int.natAbs_of_nonneg this.1)) this.2)) (am (by decide) (hZ (a:=1) (b:=130) (by decide)))
structure DeedAt(H:Hp)(cl tr ct cr cc:Nat)(cells:List Int)(vs:List V):Prop where
 kt:H ct=some (.cell (some (.obj tr)))
 kc:H cc=some (.cell (some (.obj cl)))
 kr:H cr=some (.cell (some (.clo 67 [(196,ct),(165,cc)])))
 kl:H cl=some (.list (cells.map .int))
 ks:H tr=some (.list vs)
 len:vs.length≤1000
section
variable {n:Nat} {H:Hp} {Q:V→Hp→Prop} {E:Nat→Hp→Prop} {cl tr ct cr cc:Nat} {cells:List Int} {vs:List V}
theorem om{k:Nat}(h:k≤1000):(k:Int).natAbs<2^60:=by rw[Int.natAbs_natCast];exact bD h (by decide)
theorem gm(x:DeedAt H cl tr ct cr cc cells vs)(hn:0<cells.length){what limit:Nat}(hw:what≤1000)(hl:limit≠0)(h:Q (.int (fw cells vs.length what limit)) H):AC T0 (n+1) false (.clo 67 [(196,ct),(165,cc)]) [nV what,nV limit] H Q E:=by
 have lt:(5*vs.length+what)%cells.length<cells.length:=Nat.mod_lt _ hn
 have e:((5:Int)*(vs.length:Int)+(what:Int)).fmod ((cells.map V.int).length:Int)=(((5*vs.length+what)%cells.length:Nat):Int):=by
  rewrite[Kf];refine ab (Int.fmod_eq_emod_of_nonneg _ (KL _)) ?_;rfl
 have lm:((cells.map V.int).length:Int)≠0:=by rw[Kf];exact fun z=>Ld hn (Int.ofNat.inj z)
 have get:bA H (.obj cl) (.int (((5:Int)*(vs.length:Int)+(what:Int)).fmod ((cells.map V.int).length:Int)))=some (.int (cells.getD ((5*vs.length+what)%cells.length) 0)):=by
  refine ab e ?_
  refine getL x.kl ?_
  refine ab (Ko) ?_;refine ab (List.getD_eq_getElem?_getD) ?_;refine ab (Kj lt) ?_;rfl
 exact⟨bd rfl,aQ x.kt (aa (dq x.ks) (aQ x.kc ⟨.inl (om x.len),aQ x.kc (aa (dq x.kl) ⟨lm,aa get ⟨.inl (om hw),fun z=>hl (Int.ofNat.inj z),h⟩⟩)⟩))⟩
noncomputable abbrev CD(cr ct:Nat):List (Nat×Nat):=[(197,cr),(196,ct)]
theorem Cu{H:Hp}{i:Int}(h0:0≤i)(h:i<3):bA H (.tup [.str 85,.str 176,.str 67]) (.int i)=some (.str (A6 i)):=by
 obtain⟨k,rfl⟩:=Int.eq_ofNat_of_zero_le h0
 have h:=Int.ofNat_lt.mp h
 rcases k with _|_|_|k
 ·rfl
 ·rfl
 ·rfl
 ·exact absurd h (LA.mpr (Nat.le_add_left 3 k))
theorem Ai(x:DeedAt H cl tr ct cr cc cells vs)(hn:0<cells.length){v:V}(h:Q (.str ((bi cells).key vs.length)) (upd H tr (.list (vs++[v])))):AC T0 (n+2) false (.clo 68 (CD cr ct)) [v] H Q E:=by
 have r:=pu (cells:=cells) (n:=vs.length) (what:=1) (limit:=3) (by decide)
 exact⟨bd rfl,aQ x.kr (gm x hn (what:=1) (limit:=3) (by decide) (by decide) (aa (Cu r.1 r.2) (aQ x.kt (aa (cw x.ks) (aa (ay x.ks) ⟨bD x.len (by decide),h⟩)))))⟩
theorem wK(x:DeedAt H cl tr ct cr cc cells vs)(hn:0<cells.length){u w:V}(h:Q (.bool ((bi cells).over vs.length)) (upd H tr (.list (vs++[.tup [u,w]])))):AC T0 (n+2) false (.clo 69 (CD cr ct)) [u,w] H Q E :=
 ⟨bd rfl,aQ x.kr (gm x hn (what:=2) (limit:=3) (by decide) (by decide) (aQ x.kt (aa (cw x.ks) (aa (ay x.ks) ⟨bD x.len (by decide),h⟩))))⟩
theorem wY(x:DeedAt H cl tr ct cr cc cells vs)(hn:0<cells.length){o:Opd}(h:j9 Q E H ((bi cells).num vs.length o)):AC T0 (n+2) false (.clo 70 [(197,cr)]) [o.toV] H Q E:=by
 refine⟨bd rfl,?_⟩
 cases o with
 |num u s=>exact bB rfl h
 |ref y =>
  have h:j9 Q E H (if (y==181&&fw cells vs.length 3 2==1)=true then none else some (fw cells vs.length 4 4,0)):=h
  have go:j9 Q E H (some (fw cells vs.length 4 4,0))→wSs (P70.drop 2) (bv T0 (AC T0 (n+1) false) (AC T0 (n+1) true) false [(197,cr)] F70.LN) ⟨eD F70 [(Opd.ref y).toV],H⟩ (fun fl σ'=>match fl with|.ret v=>Q v σ'.H|.next=>Q .none σ'.H|.cont=>False) fun k σ'=>E k σ'.H:=fun h =>
   aQ x.kr (gm x hn (what:=4) (limit:=4) (by decide) (by decide) h)
  refine aH rfl (bM (fun z=>aQ x.kr (gm x hn (what:=3) (limit:=2) (by decide) (by decide) (bM (fun w=>bB rfl ⟨rfl,rfl,?_⟩) fun w=>aH w ?_))) fun z=>aH z ?_)
  ·rw[Kh (show(y==181&&fw cells vs.length 3 2==1)=true by refine ab (show(y==181)=true from z) ?_;refine ab (show(fw cells vs.length 3 2==1)=true from w) ?_;rfl)]at h
   exact h
  ·rw[Kg (show ¬ (y==181&&fw cells vs.length 3 2==1)=true by refine ab (show(fw cells vs.length 3 2==1)=false from w) ?_;rw[Bool.and_false];exact Bool.false_ne_true)]at h
   exact go h
  ·rw[Kg (show ¬ (y==181&&fw cells vs.length 3 2==1)=true by refine ab (show(y==181)=false from z) ?_;exact Bool.false_ne_true)]at h
   exact go h
theorem BQ(x:DeedAt H cl tr ct cr cc cells vs)(hn:0<cells.length){c:Bool}(h:Q (.bool ((bi cells).test vs.length c)) H):AC T0 (n+2) false (.clo 71 [(197,cr)]) [cond c] H Q E:=by
 refine⟨bd rfl,aQ x.kr ?_⟩
 cases c with
 |false=>exact bB rfl (gm x hn (what:=6) (limit:=2) (by decide) (by decide) h)
 |true=>exact aH rfl (gm x hn (what:=7) (limit:=2) (by decide) (by decide) h)
end
end
section
noncomputable def uX:Option Int→List (Int×V)
 |none=>[]
 |some i=>[(0,.int i)]
noncomputable def FrAt(H:Hp)(p:Nat×Nat)(last behind:Int)(slot:Option Int):Prop:=H p.1=some (.inst 5 [(76,.int last),(77,.int behind),(78,.obj p.2)])∧H p.2=some (.dictI (uX slot))
noncomputable def FrsAt(H:Hp):List (Nat×Nat)→List Fm→Prop
 |[],[]=>True
 |p::ps,f::fs=>FrAt H p f.last f.behind f.slot∧FrsAt H ps fs
 |_,_=>False
noncomputable def Jl:AO→Prop
 |.inst 5 _=>False
 |.dictI _=>False
 |_=>True
section
variable {H:Hp}
theorem FrAt.upd{p:Nat×Nat}{a b:Int}{s:Option Int}{q:Nat}{o o':AO}(x:FrAt H p a b s)(e:H q=some o)(k:Jl o):FrAt (upd H q o') p a b s :=
 ⟨af x.1 fun z=>by have:=x.1;replace this:=z▸this;replace this:=e▸this;replace this:=oInj this;subst this;exact k,af x.2 fun z=>by have:=x.2;replace this:=z▸this;replace this:=e▸this;replace this:=oInj this;subst this;exact k⟩
theorem FrAt.new{p:Nat×Nat}{a b:Int}{s:Option Int}{q:Nat}{o:AO}(x:FrAt H p a b s)(e:H q=none):FrAt (Internal.upd H q o) p a b s:=⟨af x.1 (aj x.1 e),af x.2 (aj x.2 e)⟩
theorem FrAt.dict{p:Nat×Nat}{a b:Int}{s:Option Int}{q:Nat}{es es':List (Int×V)}(x:FrAt H p a b s)(e:H q=some (.dictI es))(k:p.2≠q):FrAt (Internal.upd H q (.dictI es')) p a b s :=
 ⟨af x.1 (fun z=>by have:=x.1;replace this:=z▸this;replace this:=e▸this;cases this),af x.2 k⟩
theorem FrsAt.map{H':Hp}:∀{ps:List (Nat×Nat)} {fs:List Fm},(∀p∈ps,∀a b s,FrAt H p a b s→FrAt H' p a b s)→FrsAt H ps fs→FrsAt H' ps fs:=by
 intro ps
 induction ps with
 |nil =>
  intro fs _ x
  cases fs with
  |nil=>trivial
  |cons _ _=>exact x.elim
 |cons p ps ih =>
  intro fs h x
  cases fs with
  |nil=>exact x.elim
  |cons f fs=>exact⟨h p (.head _) _ _ _ x.1,ih (fun q hq=>h q (.tail _ hq)) x.2⟩
theorem FrsAt.len:∀{ps:List (Nat×Nat)} {fs:List Fm},FrsAt H ps fs→ps.length=fs.length
 |[],[],_=>rfl
 |p::ps,f::fs,x=>congrArg (·+1) x.2.len
 |[],_::_,x=>x.elim
 |_::_,[],x=>x.elim
end
structure Base(H0:Hp)(ca d cl tr ct cr cc:Nat)(cells:List Int)(c:Cd):Prop where
 code:cB H0 ca c
 deeds:H0 d=some (.inst 7 [(103,.clo 68 (CD cr ct)),(18,.clo 71 [(197,cr)]),(96,.clo 70 [(197,cr)]),(16,.clo 69 (CD cr ct))])
 kt:H0 ct=some (.cell (some (.obj tr)))
 kc:H0 cc=some (.cell (some (.obj cl)))
 kr:H0 cr=some (.cell (some (.clo 67 [(196,ct),(165,cc)])))
 kl:H0 cl=some (.list (cells.map .int))
 old:∃vs,H0 tr=some (.list vs)
 ne:cl≠tr
 pos:0<cells.length
structure MP(H0 H:Hp)(x tr ca d:Nat)(m:Mc)(w st fr:Nat)(ps:List (Nat×Nat))(b:Nat×Nat):Prop where
 ext:∀a o,a≠tr→H0 a=some o→H a=some o
 ht:H tr=some (.list (m.tr.map TE.toV))
 inst:H x=some (.inst 6 [(80,.obj ca),(81,.obj d),(82,nV m.place),(83,.obj st),(84,.obj fr),(17,.str m.key),(86,.str w)])
 stk:H st=some (.list (m.stack.reverse.map a8))
 frs:H fr=some (.list ((ps++[b]).reverse.map fun p=>.obj p.1))
 ups:FrsAt H ps m.up
 base:FrAt H b (-1) (-1) m.base
 fx:H0 x=none
 fst:H0 st=none
 ffr:H0 fr=none
 fd:∀p∈ps++[b],H0 p.2=none
 nd:((ps++[b]).map (·.2)).Nodup
 old:∃vs,H0 tr=some (.list vs)
 sf:st≠fr
noncomputable def MR(H0 H:Hp)(x tr ca d:Nat)(m:Mc)(w:Nat):Prop:=∃st fr ps b,MP H0 H x tr ca d m w st fr ps b
section
variable {H0 H:Hp} {x tr ca d w st fr:Nat} {m:Mc} {ps:List (Nat×Nat)} {b:Nat×Nat}
theorem MP.ntr(M:MP H0 H x tr ca d m w st fr ps b){a:Nat}(h:H0 a=none):a≠tr:=fun z=>by
 obtain⟨vs,e⟩:=M.old
 replace h:=z▸h;replace h:=e▸h;injection h
theorem MP.ext'(M:MP H0 H x tr ca d m w st fr ps b){a:Nat}{o:AO}(h:H0 a=none):∀q v,q≠tr→H0 q=some v→upd H a o q=some v:=fun q v n e=>af (M.ext q v n e) (aj e h)
theorem MP.xs(M:MP H0 H x tr ca d m w st fr ps b):x≠st∧x≠fr:=⟨(fun z=>by have:=M.inst;replace this:=z▸this;replace this:=M.stk▸this;cases this),(fun z=>by have:=M.inst;replace this:=z▸this;replace this:=M.frs▸this;cases this)⟩
theorem MP.set(M:MP H0 H x tr ca d m w st fr ps b)(l k w':Nat):MP H0 (upd H x (.inst 6 [(80,.obj ca),(81,.obj d),(82,nV l),(83,.obj st),(84,.obj fr),(17,.str k),(86,.str w')])) x tr ca d { m with place:=l,key:=k } w' st fr ps b where
 ext:=M.ext' M.fx
 ht:=af M.ht (M.ntr M.fx).symm
 inst:=ai _ _ _
 stk:=af M.stk M.xs.1.symm
 frs:=af M.frs M.xs.2.symm
 ups:=M.ups.map fun p zz a b s h=>h.upd M.inst trivial
 base:=M.base.upd M.inst trivial
 fx:=M.fx
 fst:=M.fst
 ffr:=M.ffr
 fd:=M.fd
 nd:=M.nd
 old:=M.old
 sf:=M.sf
theorem MP.stack(M:MP H0 H x tr ca d m w st fr ps b){vs:List V}(ws:List aJ)(e:vs=ws.reverse.map a8):MP H0 (upd H st (.list vs)) x tr ca d { m with stack:=ws } w st fr ps b where
 ext:=M.ext' M.fst
 ht:=af M.ht (M.ntr M.fst).symm
 inst:=af M.inst M.xs.1
 stk:=e▸ai _ _ _
 frs:=af M.frs M.sf.symm
 ups:=M.ups.map fun p zz a b s h=>h.upd M.stk trivial
 base:=M.base.upd M.stk trivial
 fx:=M.fx
 fst:=M.fst
 ffr:=M.ffr
 fd:=M.fd
 nd:=M.nd
 old:=M.old
 sf:=M.sf
theorem MP.say(M:MP H0 H x tr ca d m w st fr ps b)(t:TE):MP H0 (upd H tr (.list (m.tr.map TE.toV++[t.toV]))) x tr ca d (m.say t) w st fr ps b where
 ext:=fun a o n e=>af (M.ext a o n e) n
 ht:=(ai _ _ _).trans (congrArg (fun l=>some (AO.list l)) (show _=(m.tr++[t]).map TE.toV by refine ab Li ?_;rfl))
 inst:=af M.inst (M.ntr M.fx)
 stk:=af M.stk (M.ntr M.fst)
 frs:=af M.frs (M.ntr M.ffr)
 ups:=M.ups.map fun p zz a b s h=>h.upd M.ht trivial
 base:=M.base.upd M.ht trivial
 fx:=M.fx
 fst:=M.fst
 ffr:=M.ffr
 fd:=M.fd
 nd:=M.nd
 old:=M.old
 sf:=M.sf
theorem MP.free(M:MP H0 H x tr ca d m w st fr ps b){a:Nat}(h:H a=none):H0 a=none:=by
 cases e:H0 a with
 |none=>rfl
 |some o =>
  by_cases z:a=tr
  ·replace h:=z▸h;replace h:=M.ht▸h;injection h
  ·replace h:=(M.ext a o z e)▸h;injection h
theorem MP.new(M:MP H0 H x tr ca d m w st fr ps b){a:Nat}(h:H a=none)(o:AO):MP H0 (upd H a o) x tr ca d m w st fr ps b where
 ext:=M.ext' (M.free h)
 ht:=af M.ht (aj M.ht h)
 inst:=af M.inst (aj M.inst h)
 stk:=af M.stk (aj M.stk h)
 frs:=af M.frs (aj M.frs h)
 ups:=M.ups.map fun p zz a b s q=>q.new h
 base:=M.base.new h
 fx:=M.fx
 fst:=M.fst
 ffr:=M.ffr
 fd:=M.fd
 nd:=M.nd
 old:=M.old
 sf:=M.sf
theorem MP.newStack(M:MP H0 H x tr ca d m w st fr ps b){a:Nat}(h:H a=none)(l:Nat):MP H0 (upd (upd H a (.list [])) x (.inst 6 [(80,.obj ca),(81,.obj d),(82,nV l),(83,.obj a),(84,.obj fr),(17,.str m.key),(86,.str w)])) x tr ca d { m with place:=l,stack:=[] } w a fr ps b:=by
 have N:=M.new h (.list [])
 have ax:a≠x:=(aj M.inst h).symm
 exact{
  ext:=N.ext' M.fx
  ht:=af N.ht (M.ntr M.fx).symm
  inst:=ai _ _ _
  stk:=af (ai _ _ _) ax
  frs:=af N.frs M.xs.2.symm
  ups:=N.ups.map fun p zz a b s h=>h.upd N.inst trivial
  base:=N.base.upd N.inst trivial
  fx:=M.fx
  fst:=M.free h
  ffr:=M.ffr
  fd:=M.fd
  nd:=M.nd
  old:=M.old
  sf:=(aj M.frs h).symm }
end
end
section
section
variable {H0 H:Hp} {x tr ca d w st fr:Nat} {m:Mc} {ps:List (Nat×Nat)} {b:Nat×Nat}
theorem MP.grow(M:MP H0 H x tr ca d m w st fr ps b){G:Hp}(g:Ext H G):MP H0 G x tr ca d m w st fr ps b where
 ext:=fun a o n e=>g _ _ (M.ext a o n e)
 ht:=g _ _ M.ht
 inst:=g _ _ M.inst
 stk:=g _ _ M.stk
 frs:=g _ _ M.frs
 ups:=M.ups.map fun p zz a b s q=>⟨g _ _ q.1,g _ _ q.2⟩
 base:=⟨g _ _ M.base.1,g _ _ M.base.2⟩
 fx:=M.fx
 fst:=M.fst
 ffr:=M.ffr
 fd:=M.fd
 nd:=M.nd
 old:=M.old
 sf:=M.sf
theorem jQ(p:Nat×Nat)(l:List (Nat×Nat)):((p::l).reverse.map fun p=>V.obj p.1).getLast?=some (.obj p.1):=by
 refine ab KF ?_;refine ab Li ?_;exact List.getLast?_concat
theorem Ag(p:Nat×Nat)(l:List (Nat×Nat)):((p::l).reverse.map fun p=>V.obj p.1).dropLast=l.reverse.map fun p=>V.obj p.1:=by
 refine ab KF ?_;refine ab Li ?_;exact List.dropLast_concat
theorem MP.top(M:MP H0 H x tr ca d m w st fr ps b):∃t rest last beh,ps++[b]=t::rest∧FrAt H t last beh m.slot∧(∀f r,m.up=f::r→last=f.last∧beh=f.behind∧∃ps',ps=t::ps'∧rest=ps'++[b])∧(m.up=[]→last=-1):=by
 obtain⟨p,s,up,bs,k,tt⟩:=m
 cases ps with
 |nil =>
  cases up with
  |nil=>exact⟨b,[],-1,-1,rfl,M.base,fun f r e=>(nomatch e),fun zz=>rfl⟩
  |cons f r=>exact M.ups.elim
 |cons q ps =>
  cases up with
  |nil=>exact M.ups.elim
  |cons f r=>exact⟨q,ps++[b],f.last,f.behind,rfl,M.ups.1,(fun f' r' e=>by injection e with zi zj;subst zi zj;exact⟨rfl,rfl,ps,rfl,rfl⟩),fun e=>(nomatch e)⟩
theorem MP.slot(M:MP H0 H x tr ca d m w st fr ps b){t:Nat×Nat}{rest:List (Nat×Nat)}(e:ps++[b]=t::rest)(i:Int):MP H0 (upd H t.2 (.dictI [(0,.int i)])) x tr ca d (m.setSlot i) w st fr ps b:=by
 have ft:H0 t.2=none:=M.fd t (e▸.head _)
 have hd:∃es,H t.2=some (.dictI es):=by
  obtain⟨t',rest',_,_,e',f,_⟩:=M.top
  replace e':=e▸e';injection e' with zi zj;subst zi zj
  exact⟨_,f.2⟩
 obtain⟨es,hd⟩:=hd
 have tx:∀{q:Nat} {o:AO},H q=some o→(∀es,o≠.dictI es)→q≠t.2:=fun{q o} h n z=>by
  replace h:=z▸h;replace h:=hd▸h;replace h:=oInj h;subst h;exact n _ rfl
 have nd:=M.nd
 replace nd:=e▸nd
 have nt:∀p∈rest,p.2≠t.2:=fun p hp z=>(List.nodup_cons.mp nd).1 (K0.mpr ⟨p,hp,z⟩)
 refine{
  ext:=M.ext' ft
  ht:=by rw[gh];exact af M.ht (tx M.ht fun zz z=>nomatch z)
  inst:=by rw[uW,mf];exact af M.inst (tx M.inst fun zz z=>nomatch z)
  stk:=by rw[fq];exact af M.stk (tx M.stk fun zz z=>nomatch z)
  frs:=af M.frs (tx M.frs fun zz z=>nomatch z)
  ups:=?_
  base:=?_
  fx:=M.fx
  fst:=M.fst
  ffr:=M.ffr
  fd:=M.fd
  nd:=M.nd
  old:=M.old
  sf:=M.sf }
 ·obtain⟨p,s,up,bs,k,tt⟩:=m
  cases ps with
  |nil =>
   cases up with
   |nil=>trivial
   |cons f r=>exact M.ups.elim
  |cons q ps =>
   cases up with
   |nil=>exact M.ups.elim
   |cons f r =>
    injection e with zi zj;subst zi zj
    exact⟨⟨af M.ups.1.1 (tx M.ups.1.1 fun zz z=>nomatch z),ai _ _ _⟩,M.ups.2.map fun p hp a b s h=>h.dict hd (nt p (KA _ hp))⟩
 ·obtain⟨p,s,up,bs,k,tt⟩:=m
  cases ps with
  |nil =>
   cases up with
   |nil=>injection e with zi zj;subst zi zj;exact⟨af M.base.1 (tx M.base.1 fun zz z=>nomatch z),ai _ _ _⟩
   |cons f r=>exact M.ups.elim
  |cons q ps =>
   cases up with
   |nil=>exact M.ups.elim
   |cons f r=>injection e with zi zj;subst zi zj;exact M.base.dict hd (nt b (KG _ (.head _)))
theorem MP.popFrame{f:Fm}{r:List Fm}{t:Nat×Nat}(M:MP H0 H x tr ca d m w st fr (t::ps) b)(e:m.up=f::r){vs:List V}(hv:vs=(ps++[b]).reverse.map fun p=>V.obj p.1):MP H0 (upd H fr (.list vs)) x tr ca d { m with up:=r } w st fr ps b where
 ext:=M.ext' M.ffr
 ht:=af M.ht (M.ntr M.ffr).symm
 inst:=af M.inst M.xs.2
 stk:=af M.stk M.sf
 frs:=hv▸ai _ _ _
 ups:=by have:=M.ups;replace this:=e▸this;exact this.2.map fun p zz a b s h=>h.upd M.frs trivial
 base:=M.base.upd M.frs trivial
 fx:=M.fx
 fst:=M.fst
 ffr:=M.ffr
 fd:=fun p hp=>M.fd p (.tail _ hp)
 nd:=(List.nodup_cons.mp M.nd).2
 old:=M.old
 sf:=M.sf
theorem MP.pushFrame(M:MP H0 H x tr ca d m w st fr ps b){a e:Nat}{l:Int}{nx:Nat}{G:Hp}(he:H e=none)(g:Ext H G)(ga:G a=some (.inst 5 [(76,.int l),(77,nV nx),(78,.obj e)]))(ge:G e=some (.dictI [])) :
  MP H0 (upd G fr (.list (((ps++[b]).reverse.map fun p=>V.obj p.1)++[.obj a]))) x tr ca d { m with up:=⟨l,nx,none⟩::m.up } w st fr ((a,e)::ps) b:=by
 have N:=M.grow g
 exact{
  ext:=N.ext' M.ffr
  ht:=af N.ht (N.ntr N.ffr).symm
  inst:=af N.inst N.xs.2
  stk:=af N.stk N.sf
  frs:=(ai _ _ _).trans (congrArg (fun l=>some (AO.list l)) (by refine(?_:_=((a,e)::(ps++[b])).reverse.map _);refine ab KF ?_;refine ab Li ?_;rfl))
  ups:=⟨FrAt.upd (p:=(a,e)) ⟨ga,ge⟩ N.frs trivial,N.ups.map fun p zz a b s h=>h.upd N.frs trivial⟩
  base:=N.base.upd N.frs trivial
  fx:=M.fx
  fst:=M.fst
  ffr:=M.ffr
  fd:=fun p hp=>by
   rcases mCo hp with rfl|hp
   ·exact M.free he
   ·exact M.fd p hp
  nd:=by
   refine List.nodup_cons.mpr ⟨fun z=>?_,M.nd⟩
   obtain⟨p,hp,z⟩:=K0.mp z
   have:∃es,H p.2=some (.dictI es):=by
    rcases KD.mp hp with hp|hp
    ·have go:∀{ps:List (Nat×Nat)} {fs:List Fm},FrsAt H ps fs→p∈ps→∃es,H p.2=some (.dictI es):=fun{ps}=>by
      induction ps with
      |nil=>exact fun zz h=>nomatch h
      |cons q ps ih =>
       intro fs y h
       cases fs with
       |nil=>exact y.elim
       |cons f fs =>
        rcases mCo h with rfl|h
        ·exact⟨_,y.1.2⟩
        ·exact ih y.2 h
     exact go M.ups hp
    ·cases mSng hp;exact⟨_,M.base.2⟩
   obtain⟨es,this⟩:=this
   replace this:=z▸this
   exact aj this he rfl
  old:=M.old
  sf:=M.sf }
end
end
section
theorem BK{α:Type}(f:Nat→Option α)(k:Nat)(v w:α):upd (upd f k v) k w=upd f k w:=by
 funext j
 unfold upd
 split<;>rfl
theorem bk{k:Nat}(h:T0.attrs.contains k=true):k∈T0.attrs:=KU.mp h
theorem jF{K KH:du}{hd:Bool}{C D:List (Nat×Nat)}{LN:Nat→Option (List Nat×Node)}{H:Hp}{a m f k:Nat}{fs:List (Nat×V)}(e:H a=some (.inst k fs))(h:cN fs m=some (.clo f D)) :
  gj (bv T0 K KH hd C LN) H (.obj a) m=some (.fn f D []):=by
 refine(cP _ e).trans ?_
 unfold vb
 dsimp only
 refine ab h ?_;rfl
section
variable {n:Nat} {H0 H:Hp} {x tr ca d cl ct cr cc w st fr:Nat} {m:Mc} {ps:List (Nat×Nat)} {b:Nat×Nat} {cells:List Int} {c:Cd} {Q:V→Hp→Prop} {E:Nat→Hp→Prop}
theorem MP.deed(M:MP H0 H x tr ca d m w st fr ps b)(B:Base H0 ca d cl tr ct cr cc cells c)(hl:m.tr.length≤1000):DeedAt H cl tr ct cr cc cells (m.tr.map TE.toV):=by
 obtain⟨vs,ho⟩:=B.old
 have k:∀{a:Nat} {o:AO},H0 a=some o→(∀vs,o≠.list vs)→H a=some o:=fun{a o} e n=>M.ext a o (fun z=>by rw[z,ho]at e;replace e:=oInj e;subst e;exact n _ rfl) e
 exact⟨k B.kt (fun zz z=>nomatch z),k B.kc (fun zz z=>nomatch z),k B.kr (fun zz z=>nomatch z),M.ext _ _ B.ne B.kl,M.ht,by rw[Kf];exact hl⟩
theorem MP.deeds(M:MP H0 H x tr ca d m w st fr ps b)(B:Base H0 ca d cl tr ct cr cc cells c):H d=some (.inst 7 [(103,.clo 68 (CD cr ct)),(18,.clo 71 [(197,cr)]),(96,.clo 70 [(197,cr)]),(16,.clo 69 (CD cr ct))]):=by
 obtain⟨vs,ho⟩:=B.old
 exact M.ext d _ (fun z=>by have:=B.deeds;rw[z,ho]at this;cases this) B.deeds
theorem MP.code(M:MP H0 H x tr ca d m w st fr ps b)(B:Base H0 ca d cl tr ct cr cc cells c):cB H ca c:=by
 obtain⟨vs,ho⟩:=B.old
 exact M.ext ca _ (fun z=>by have:H0 ca=some _:=B.code;rw[z,ho]at this;cases this) B.code
theorem stk_last{s:List aJ}{u:aJ}:(((u::s).reverse.map a8).getLast?)=some (a8 u):=by refine ab KF ?_;refine ab Li ?_;exact List.getLast?_concat
theorem yJ{s:List aJ}{u:aJ}:(((u::s).reverse.map a8).dropLast)=s.reverse.map a8:=by refine ab KF ?_;refine ab Li ?_;exact List.dropLast_concat
theorem MP.pops(M:MP H0 H x tr ca d m w st fr ps b){u:aJ}{s:List aJ}(e:m.stack=u::s):(m.stack.reverse.map a8).getLast?=some (a8 u)∧MP H0 (upd H st (.list (m.stack.reverse.map a8).dropLast)) x tr ca d m.pop w st fr ps b:=by
 refine ab e ?_
 exact⟨stk_last,M.stack m.stack.tail (by refine ab yJ ?_;refine ab e ?_;rfl)⟩
theorem yt(B:Base H0 ca d cl tr ct cr cc cells c)(M:MP H0 H x tr ca d m w st fr ps b)(hl:m.tr.length≤1000){r:Rk}{l:Option Nat}{s s':List Nat}(ty:r.Ty s s')(so:StOk s m.stack)
  (h:∀H',MP H0 H' x tr ca d (aI (bi cells) m r).2 w st fr ps b→j9 Q E H' (aI (bi cells) m r).1):Fn (n+6) 18 [.obj x,(Op.rk r l).toV] H Q E:=by
 cases r with
 |push o =>
  have h:=h H M
  refine⟨bd rfl,bB rfl (aa (ba M.inst rfl) (aa (jF (M.deeds B) rfl) (wY (n:=n+3) (M.deed B hl) B.pos (o:=o) ?_)))⟩
  rw[Kf]
  cases o<;>exact h
 |«calc» g =>
  have ty:if (g==98)=true then ∃t r,s=t::r∧s'=s else ∃a b t r,s=b::a::r∧s'=t::r∧a<t∧b<t∧t≤2:=ty
  have rk:aI (bi cells) m (.calc g)=if (g==98)=true then (some (dj m.top),m.pop)else (cO g m.pop.top m.top,m.pop.pop):=rfl
  rw[rk]at h
  refine⟨bd rfl,aH rfl (aa (ba M.inst rfl) (aa (cR M.stk) (And.intro rfl (aa (ay M.stk) ?_))))⟩
  split at ty
  ·rename_i z
   obtain⟨t,r',rfl,rfl⟩:=ty
   obtain⟨u,q,e,k1,k2,_⟩:=so.cons
   obtain⟨e1,M1⟩:=M.pops e
   rw[Kh z]at h
   refine aa e1 (bB z (wZ ?_))
   have:=h _ M1
   rw[show m.top=u by refine(?_:m.stack.headD _=u);refine ab e ?_;rfl]at this
   exact this
  ·rename_i z
   obtain⟨t1,t2,t3,r',rfl,rfl,_⟩:=ty
   obtain⟨u,q,e,k1,k2,so2⟩:=so.cons
   obtain⟨v,q2,e2,j1,j2,_⟩:=so2.cons
   obtain⟨e3,M1⟩:=M.pops e
   have e4:m.pop.stack=v::q2:=by refine(?_:m.stack.tail=_);refine ab e ?_;exact e2
   obtain⟨e5,M2⟩:=M1.pops e4
   rw[Kg z]at h
   refine aa e3 (aH (Bool.eq_false_iff.mpr z) (aa (ba M1.inst rfl) (aa (cR M1.stk) (And.intro rfl (aa (ay M1.stk) (aa e5 (uD (n:=n) (j1.okN j2) (k1.okN k2) ?_)))))))
   have:=h _ M2
   rw[show m.top=u by refine(?_:m.stack.headD _=u);refine ab e ?_;rfl,show m.pop.top=v by refine(?_:m.pop.stack.headD _=v);refine ab e4 ?_;rfl]at this
   exact this
theorem xE(M:MP H0 H x tr ca d m w st fr ps b){l:Nat}(h:∀H',MR H0 H' x tr ca d { m with place:=l,stack:=[] } w→Q .none H'):AC T0 (n+1) true (.clo 63 []) [.obj x,nV l] H Q E:=by
 refine⟨bd rfl,fun a ha=>?_⟩
 have N:=M.newStack ha l
 refine aa rfl (aa rfl (aa (jn (af M.inst (aj M.inst ha))) ⟨aD rfl,bk rfl,?_⟩))
 refine aa (jn (ai _ _ _)) ⟨aD rfl,bk rfl,?_⟩
 refine(?_:Q .none (upd (upd (upd H a (.list [])) x _) x _))
 rw[BK]
 exact h _ ⟨a,fr,ps,b,N⟩
theorem yW{cx:Cx}(hc:cx.CI=T0.CI){H:Hp}{a:Nat}{v1 v2 v3 v4 v5 v6 v7:V}(e:H a=some (.inst 6 [(80,v1),(81,v2),(82,v3),(83,v4),(84,v5),(17,v6),(86,v7)])) :
  gj cx H (.obj a) 87=some (.fn 63 [] [.obj a]):=by
 refine(cP _ e).trans ?_
 refine(?_:bo (cx.CI 6) _=_)
 refine ab hc ?_;rfl
noncomputable def cT(H0:Hp)(x tr ca d:Nat)(Q:V→Hp→Prop)(E:Nat→Hp→Prop):Re→Prop
 |.go m=>∀H',MR H0 H' x tr ca d m 85→Q .none H'
 |.fin t e=>∀(H':Hp) (m:Mc),m.tr=t→match e with
  |.word w=>MR H0 H' x tr ca d m w→Q .none H'
  |.fault=>MR H0 H' x tr ca d m 85→E 2 H'
  |.size=>MR H0 H' x tr ca d m 85→E 3 H'
  |.steps=>True
theorem wD(B:Base H0 ca d cl tr ct cr cc cells c)(M:MP H0 H x tr ca d m 85 st fr ps b)(hl:m.tr.length≤1000)(hs:m.stack.length≤1000){r:Rk}{l:Option Nat}{s s':List Nat}(ty:r.Ty s s')(so:StOk s m.stack)
  (h:cT H0 x tr ca d Q E (aM m.place l (aI (bi cells) m r))):Fn (n+7) 19 [.obj x,(Op.rk r l).toV] H Q E:=by
 have hp:(aI (bi cells) m r).2.place=m.place∧(aI (bi cells) m r).2.stack.length≤m.stack.length:=by
  cases r with
  |push o=>exact⟨rfl,aR _⟩
  |«calc» g =>
   have rk:aI (bi cells) m (.calc g)=if (g==98)=true then (some (dj m.top),m.pop)else (cO g m.pop.top m.top,m.pop.pop):=rfl
   refine ab rk ?_
   have k1:m.pop.stack.length≤m.stack.length:=by refine(?_:m.stack.tail.length≤_);refine ab List.length_tail ?_;exact K9 _ _
   have k2:m.pop.pop.stack.length≤m.pop.stack.length:=by refine(?_:m.pop.stack.tail.length≤_);refine ab List.length_tail ?_;exact K9 _ _
   split
   ·exact⟨rfl,k1⟩
   ·exact⟨rfl,am k2 k1⟩
 refine⟨bd rfl,rfl,aa (ba M.inst rfl) (aa (cR M.stk) (yt (n:=n) B M hl ty so fun H' M'=>?_))⟩
 unfold aM at h
 cases e:(aI (bi cells) m r).1 with
 |some u =>
  rw[e]at h
  refine aa (ay M'.stk) ⟨bD (by rewrite[Kf];refine ab KM ?_;exact am hp.2 hs) (by decide),h _ ⟨st,fr,ps,b,?_⟩⟩
  have:=M'.stack (vs:=(aI (bi cells) m r).2.stack.reverse.map a8++[a8 u]) (u::(aI (bi cells) m r).2.stack) (by refine ab KF ?_;refine ab Li ?_;rfl)
  refine bT hp.1 ?_
  exact this
 |none =>
  rw[e]at h
  refine⟨rfl,rfl,fun zz=>?_,fun z=>absurd rfl z⟩
  have h:cT H0 x tr ca d Q E (xF (aI (bi cells) m r).2 l):=h
  have l2:bA H' (Op.rk r l).toV (.int 2)=some (lV l):=by cases r<;>rfl
  refine aa l2 ?_
  cases l with
  |none=>exact bB rfl ⟨aD rfl,h H' _ rfl ⟨st,fr,ps,b,M'⟩⟩
  |some l =>
   refine aH rfl (aa (yW rfl M'.inst) (aa l2 (xE (n:=n+5) M' fun H2 r2=>h H2 r2)))
end
end
section
theorem DS{H:Hp}{a:Nat}{s:Option Int}{v:V}(e:H a=some (.dictI (uX s))):qT H (.obj a) (.int 0) v=some (upd H a (.dictI [(0,v)])):=by
 refine(cP _ e).trans ?_
 cases s<;>rfl
section
variable {n:Nat} {H0 H:Hp} {x tr ca d cl ct cr cc st fr:Nat} {m:Mc} {ps:List (Nat×Nat)} {b:Nat×Nat} {cells:List Int} {c:Cd} {Q:V→Hp→Prop} {E:Nat→Hp→Prop}
theorem MP.to(M:MP H0 H x tr ca d m 85 st fr ps b)(l:Nat):MR H0 (upd H x (.inst 6 [(80,.obj ca),(81,.obj d),(82,nV l),(83,.obj st),(84,.obj fr),(17,.str m.key),(86,.str 85)])) x tr ca d (m.to l) 85:=⟨st,fr,ps,b,M.set l m.key 85⟩
theorem B6(B:Base H0 ca d cl tr ct cr cc cells c)(M:MP H0 H x tr ca d m 85 st fr ps b)(hl:m.tr.length≤1000){k:Int}{l:Nat}{u:aJ}(hu:m.stack=[u])
  (h:cT H0 x tr ca d Q E (.go (dU (bi cells) m.place m l (.put k)))):Fn (n+3) 20 [.obj x,(Op.br (.put k) l).toV] H Q E:=by
 obtain⟨e1,M1⟩:=M.pops hu
 have M2:=M1.say (.put k u)
 have tp:m.top=u:=by refine(?_:m.stack.headD _=u);refine ab hu ?_;rfl
 have h:∀H',MR H0 H' x tr ca d ((m.pop.say (.put k m.top)).to (if (bi cells).over m.tr.length=true then l else m.place)) 85→Q .none H':=h
 rw[tp]at h
 refine⟨bd rfl,aa (ba M.inst rfl) (aa (jF (M.deeds B) rfl) (aa (ba M.inst rfl) (aa (cR M.stk) (And.intro rfl (aa (ay M.stk) (aa e1 (wK (n:=n) (M1.deed B hl) B.pos ?_)))))))⟩
 rw[Kf]
 refine aF (fun z=>?_) fun z=>?_
 ·have z:(bi cells).over m.tr.length=true:=z
  rw[Kh z]at h
  exact bq M2.inst ⟨aD rfl,bk rfl,h _ (M2.to l)⟩
 ·have z:(bi cells).over m.tr.length=false:=z
  rw[Kg (ch z)]at h
  exact h _ ⟨st,fr,ps,b,M2⟩
theorem DZ(B:Base H0 ca d cl tr ct cr cc cells c)(M:MP H0 H x tr ca d m 85 st fr ps b)(hl:m.tr.length≤1000){k:Int}
  (h:cT H0 x tr ca d Q E (vM (bi cells) m.place m (.do_ k))):Fn (n+3) 21 [.obj x,(Op.one (.do_ k)).toV] H Q E:=by
 have M1:=M.say (.did k)
 refine⟨bd rfl,aa (ba M.inst rfl) (aa (jF (M.deeds B) rfl) (Ai (n:=n) (M.deed B hl) B.pos ?_))⟩
 rw[Kf]
 exact bq M1.inst ⟨aD rfl,bk rfl,h _ ⟨st,fr,ps,b,M1.set m.place ((bi cells).key m.tr.length) 85⟩⟩
theorem B9(M:MP H0 H x tr ca d m 85 st fr ps b){k l:Nat}{A:Ans}(h:cT H0 x tr ca d Q E (.go (dU A m.place m l (.key k)))):Fn (n+1) 22 [.obj x,(Op.br (.key k) l).toV] H Q E:=by
 have h:∀H',MR H0 H' x tr ca d (m.to (if m.key=k then m.place else l)) 85→Q .none H':=h
 refine⟨bd rfl,aa (ba M.inst rfl) (aF (fun z=>?_) fun z=>?_)⟩
 ·rw[Kg (ne_of_beq_false (show(m.key==k)=false from nT z))]at h
  exact bq M.inst ⟨aD rfl,bk rfl,h _ (M.to l)⟩
 ·rw[Kh (Ki (show(m.key==k)=true from nF z))]at h
  exact h _ ⟨st,fr,ps,b,M⟩
theorem y5(B:Base H0 ca d cl tr ct cr cc cells c)(M:MP H0 H x tr ca d m 85 st fr ps b)(hl:m.tr.length≤1000){k:Bool}{l:Nat}
  (h:cT H0 x tr ca d Q E (.go (dU (bi cells) m.place m l (.test k)))):Fn (n+3) 23 [.obj x,(Op.br (.test k) l).toV] H Q E:=by
 have h:∀H',MR H0 H' x tr ca d (m.to (if (bi cells).test m.tr.length k=true then m.place else l)) 85→Q .none H':=h
 refine⟨bd rfl,aa (ba M.inst rfl) (aa (jF (M.deeds B) rfl) (BQ (n:=n) (M.deed B hl) B.pos (c:=k) (aF (fun z=>?_) fun z=>?_)))⟩
 ·have z:(bi cells).test m.tr.length k=false:=by have:=nT z;rwa [Kf]at this
  rw[Kg (ch z)]at h
  exact bq M.inst ⟨aD rfl,bk rfl,h _ (M.to l)⟩
 ·have z:(bi cells).test m.tr.length k=true:=by have:=nF z;rwa [Kf]at this
  rw[Kh z]at h
  exact h _ ⟨st,fr,ps,b,M⟩
theorem zb(M:MP H0 H x tr ca d m 85 st fr ps b){l:Nat}(h:cT H0 x tr ca d Q E (.go (m.to l))):Fn (n+1) 24 [.obj x,(Op.jump l).toV] H Q E :=
 ⟨bd rfl,bq M.inst ⟨aD rfl,bk rfl,h _ (M.to l)⟩⟩
theorem y6(M:MP H0 H x tr ca d m 85 st fr ps b){w:Nat}(h:cT H0 x tr ca d Q E (.fin m.tr (.word w))):Fn (n+1) 30 [.obj x,(Op.one (.stop w)).toV] H Q E :=
 ⟨bd rfl,bq M.inst ⟨aD rfl,bk rfl,h _ m rfl ⟨st,fr,ps,b,M.set m.place m.key w⟩⟩⟩
theorem wQ(M:MP H0 H x tr ca d m 85 st fr ps b){u:aJ}(hu:m.stack=[u])(ho:okN u){A:Ans}(h:cT H0 x tr ca d Q E (vM A m.place m .count)):Fn (n+4) 28 [.obj x,(Op.one .count).toV] H Q E:=by
 obtain⟨e1,M1⟩:=M.pops hu
 have tp:m.top=u:=by refine(?_:m.stack.headD _=u);refine ab hu ?_;rfl
 have h:∀H',MR H0 H' x tr ca d ((m.pop.setSlot (bI m.top)).to m.place) 85→Q .none H':=h
 rw[tp]at h
 refine⟨bd rfl,aa (ba M.inst rfl) (aa (cR M.stk) (And.intro rfl (aa (ay M.stk) (aa e1 (l4 (n:=n) ho ?_)))))⟩
 obtain⟨t,rest,la,be,et,ft,_⟩:=M1.top
 have M2:=M1.slot et (bI u)
 have last:bA _ (.obj fr) (.int (-1))=some (.obj t.1):=getLast M1.frs (by refine ab et ?_;exact jQ t rest)
 refine aa (ba M1.inst rfl) (aa last (aa (ba ft.1 rfl) (aa (DS ft.2) (h _ ⟨st,fr,ps,b,?_⟩))))
 refine ab (show(m.pop.setSlot (bI u)).to m.place=m.pop.setSlot (bI u) by
  obtain⟨p,s,up,bs,k,tt⟩:=m
  cases up<;>rfl) ?_
 exact M2
end
end
section
theorem E9{H:Hp}{a:Nat}{es:List (Int×V)}{P:List (Int×V)→Prop}(e:H a=some (.dictI es))(h:P es):aG (bo (H a) AO.dictI?) P:=aa ((cP _ e).trans rfl) h
theorem tT{H:Hp}{bg:List Nat}{k:Nat}(h:k<bg.length):bA H (.tup (bg.map nV)) (nV k)=some (nV (bg.getD k 0)):=by
 refine sY ?_
 refine ab (Ko) ?_;refine ab (iC h) ?_;rfl
theorem B0{K KH:du}{hd:Bool}{C:List (Nat×Nat)}{LN:Nat→Option (List Nat×Node)}{H:Hp}{a:Nat}{es:List (Int×V)}(e:H a=some (.dictI es)):gj (bv T0 K KH hd C LN) H (.obj a) 115=some (.get a):=by
 exact(cP _ e).trans rfl
section
variable {n:Nat} {H0 H:Hp} {x tr ca d cl ct cr cc st fr:Nat} {m:Mc} {ps:List (Nat×Nat)} {b:Nat×Nat} {cells:List Int} {c:Cd} {Q:V→Hp→Prop} {E:Nat→Hp→Prop}
theorem vh(M:MP H0 H x tr ca d m 85 st fr ps b){k l:Nat}{u:aJ}(hu:m.stack=[u])(ho:okN u){A:Ans}{bg:List Nat}(h:cT H0 x tr ca d Q E (exec A bg m.place m (.choose k l))):Fn (n+4) 25 [.obj x,(Op.choose k l).toV] H Q E:=by
 obtain⟨e1,M1⟩:=M.pops hu
 have tp:m.top=u:=by refine(?_:m.stack.headD _=u);refine ab hu ?_;rfl
 have h:∀H',MR H0 H' x tr ca d (m.pop.to (dJ m.top k l m.place)) 85→Q .none H':=h
 rw[tp]at h
 have h1:∀j,dJ u k l m.place=j→∀H',MR H0 H' x tr ca d (m.pop.to j) 85→Q .none H':=fun j e H' r=>h H' (e▸r)
 have off:(u.2==0&&(decide (1≤bI u)&&decide (bI u≤2)))=false→Q .none _:=fun z=>h1 m.place (Kg (ch z)) _ ⟨st,fr,ps,b,M1⟩
 refine⟨bd rfl,aa (ba M.inst rfl) (aa (cR M.stk) (And.intro rfl (aa (ay M.stk) (aa e1 (vA (n:=n+2) (bM (fun z1=>l4 (n:=n) ho (aF (fun z2=>bM (fun z3=>bB rfl ?_) fun z3=>aH z3 ?_) fun z2=>ez rfl (aH rfl ?_))) fun z1=>aH z1 ?_))))))⟩
 ·have y1:u.2=0:=Kn z1
  have y2:1≤bI u:=Kn z2
  have y3:bI u≤2:=Kn z3
  have cond:(u.2==0&&(decide (1≤bI u)&&decide (bI u≤2)))=true:=by refine ab (beq_iff_eq.mpr y1) ?_;refine ab (decide_eq_true y2) ?_;refine ab (decide_eq_true y3) ?_;rfl
  refine l4 (n:=n) ho ?_
  have:bI u=1∨bI u=2:=(Int.lt_or_eq_of_le y3).imp (fun h=>Int.le_antisymm (Int.le_of_lt_add_one (b:=1) h) y2) id
  rcases this with y|y
  ·refine ab y ?_
   exact bq M1.inst ⟨aD rfl,bk rfl,h1 k ((Kh cond).trans (Kh y)) _ (M1.to k)⟩
  ·refine ab y ?_
   exact bq M1.inst ⟨aD rfl,bk rfl,h1 l ((Kh cond).trans (Kg (by refine ab y ?_;decide))) _ (M1.to l)⟩
 ·exact off (by refine ab (show decide (bI u≤2)=false from z3) ?_;rw[Bool.and_false,Bool.and_false])
 ·exact off (by refine ab (show decide (1≤bI u)=false from z2) ?_;rw[Bool.false_and,Bool.and_false])
 ·exact off (by refine ab (show(u.2==0)=false from Km.mpr (of_decide_eq_false z1)) ?_;rw[Bool.false_and])
theorem nB{a:Nat}{u v:V}(ha:H a=none)(h:∀G e,H e=none→Ext H G→G a=some (.inst 5 [(76,u),(77,v),(78,.obj e)])→G e=some (.dictI [])→Q .none G):Fn (n+1) 61 [.obj a,u,v] (upd H a (.inst 5 [])) Q E:=by
 refine⟨bd rfl,bq (ai _ _ _) ⟨aD rfl,bk rfl,bq (ai _ _ _) ⟨aD rfl,bk rfl,fun e he=>?_⟩⟩⟩
 obtain⟨he,hea⟩:=bn he
 obtain⟨he,_⟩:=bn he
 obtain⟨he,_⟩:=bn he
 refine bq (af (ai _ _ _) hea.symm) ⟨aD rfl,bk rfl,h _ e he ?_ (ai _ _ _) (af (ai _ _ _) hea)⟩
 exact(((((Ext.refl H).set ha _).set ha _).set ha _).set he _).set ha _
theorem tn(B:Base H0 ca d cl tr ct cr cc cells c)(M:MP H0 H x tr ca d m 85 st fr ps b)(hu:m.up.length≤1000){k l:Nat}(hk:k<c.bg.length){A:Ans}(h:cT H0 x tr ca d Q E (exec A c.bg m.place m (.perform k l))):Fn (n+2) 26 [.obj x,(Op.perform k l).toV] H Q E:=by
 have h:cT H0 x tr ca d Q E (if 20<m.up.length+1 then Re.fin m.tr .fault else .go { m with up:=⟨l,m.place,none⟩::m.up,place:=c.bg.getD k 0 }):=h
 have ln:(((ps++[b]).reverse.map fun p=>V.obj p.1).length:Int)=((m.up.length+1:Nat):Int):=by
  rewrite[Kf];refine ab KM ?_;refine ab Kl ?_;refine ab M.ups.len ?_;rfl
 refine⟨bd rfl,aa (ba M.inst rfl) (aa (dq M.frs) (aF (fun z=>⟨rfl,rfl,?_⟩) fun z=>aa (ba M.inst rfl) (aa (cR M.frs) (aa (ba M.inst rfl) fun a ha=>nB (n:=n) ha fun G e he g ga ge=>⟨rfl,?_⟩))))⟩
 ·have z:20<m.up.length+1:=by have:=Kn z;rw[ln]at this;exact Int.ofNat_lt.mp this
  rw[Kh z]at h
  exact h _ m rfl ⟨st,fr,ps,b,M⟩
 ·have z:¬ 20<m.up.length+1:=fun y=>by have:=of_decide_eq_false z;rw[ln]at this;exact this (Int.ofNat_lt.mpr y)
  rw[Kg z]at h
  have M1:=M.pushFrame (a:=a) (e:=e) (l:=l) (nx:=m.place) he g ga ge
  refine aa (ay (g _ _ M.frs)) ⟨bD (m:=1001) (Int.ofNat_le.mp (ln▸Int.ofNat_le.mpr (dc hu))) (by decide),?_⟩
  refine aa (ba M1.inst rfl) (aa (ba (M1.code B) rfl) (aa (tT hk) (bq M1.inst ⟨aD rfl,bk rfl,h _ (M1.to (c.bg.getD k 0))⟩)))
set_option tactic.hygienic true in
theorem wP(M:MP H0 H x tr ca d m 85 st fr ps b){p:Int}(hp:0≤p)(h:cT H0 x tr ca d Q E (.go (bK m.place m p))):Fn (n+1) 27 [.obj x,(Op.one (.leave p)).toV] H Q E:=by
 have h:∀H',MR H0 H' x tr ca d (bK m.place m p) 85→Q .none H':=h
 obtain⟨t,rest,la,be,et,ft,f1,f2⟩:=M.top
 have last:bA H (.obj fr) (.int (-1))=some (.obj t.1):=getLast M.frs (by refine ab et ?_;exact jQ t rest)
 refine⟨bd rfl,aa (ba M.inst rfl) (aa last (aa (ba ft.1 rfl) (aF (fun(z:(la==p)=true)=>?_) fun(z:(la==p)=false)=>?_)))⟩
 ·cases hu:m.up with
  |nil=>rw[f2 hu]at z;have:=Ki z;exact absurd this (Int.ne_of_lt (Int.lt_of_lt_of_le (by decide) hp))
  |cons f r =>
   obtain⟨e1,e2,ps',rfl,rfl⟩:=f1 f r hu
   have M1:=M.popFrame hu (vs:=(((t::ps')++[b]).reverse.map fun p=>V.obj p.1).dropLast) (Ag t (ps'++[b]))
   have hx:bK m.place m p={ m with up:=r,place:=f.behind }:=by
    unfold bK
    refine ab hu ?_
    exact Kh (e1.symm.trans (Ki z))
   rw[hx]at h
   refine aa (ba M.inst rfl) (aa (cR M.frs) (And.intro rfl (aa (ay M.frs) (aa (jQ t (ps'++[b])) (aa (ba (af ft.1 fun y=>?_) rfl) (bq M1.inst ⟨aD rfl,bk rfl,?_⟩))))))
   ·have:=ft.1;rw[y,M.frs]at this;cases this
   ·exact h _ (e2▸M1.to f.behind)
 ·have hx:bK m.place m p=m:=by
   unfold bK
   split
   ·rename_i f r hu
    obtain⟨e1,_⟩:=f1 f r hu
    exact Kg fun y=>by rw[← e1]at y;rw[y,Kq]at z;injection z
   ·rfl
  rw[hx]at h
  exact h _ ⟨st,fr,ps,b,M⟩
theorem za(M:MP H0 H x tr ca d m 85 st fr ps b){l:Nat}{A:Ans}(h:cT H0 x tr ca d Q E (.go (dU A m.place m l .less))):Fn (n+1) 29 [.obj x,(Op.br .less l).toV] H Q E:=by
 have h:∀H',MR H0 H' x tr ca d (if 0<m.slot.getD 0 then (m.setSlot (m.slot.getD 0-1)).to m.place else m.to l) 85→Q .none H':=h
 obtain⟨t,rest,la,be,et,ft,_⟩:=M.top
 have last:bA H (.obj fr) (.int (-1))=some (.obj t.1):=getLast M.frs (by refine ab et ?_;exact jQ t rest)
 have look:(eC (uX m.slot) 0).getD (.int 0)=.int (m.slot.getD 0):=by cases m.slot<;>rfl
 refine⟨bd rfl,aa (ba M.inst rfl) (aa last (aa (ba ft.1 rfl) (aa (B0 ft.2) (E9 ft.2 ?_))))⟩
 refine ab look ?_
 refine aF (fun z=>?_) fun z=>?_
 ·have z:0<m.slot.getD 0:=Kn z
  rw[Kh z]at h
  have hi:bA H (.obj t.2) (.int 0)=some (.int (m.slot.getD 0)):=by
   refine(cP _ ft.2).trans ?_
   cases hs:m.slot with
   |none=>rw[hs]at z;exact absurd z (by decide)
   |some i=>rfl
  refine aa hi (aa (DS ft.2) (h _ ⟨st,fr,ps,b,?_⟩))
  refine ab (show(m.setSlot (m.slot.getD 0-1)).to m.place=m.setSlot (m.slot.getD 0-1) by
   obtain⟨p,s,up,bs,k,tt⟩:=m
   cases up<;>rfl) ?_
  exact M.slot et _
 ·have z:¬ 0<m.slot.getD 0:=of_decide_eq_false z
  rw[Kg z]at h
  exact bq M.inst ⟨aD rfl,bk rfl,h _ (M.to l)⟩
end
end
section
section
variable {A:Ans} {m:Mc} {bg:List Nat} {nx:Nat}
theorem C1(o:Op):exec A bg nx (m.to nx) o=exec A bg nx m o:=by
 cases o with
 |rk r l =>
  cases r with
  |push q =>
   refine(?_:aM nx l (A.num m.tr.length q,m.to nx)=aM nx l (A.num m.tr.length q,m))
   unfold aM
   cases A.num m.tr.length q with
   |some w=>rfl
   |none=>cases l<;>rfl
  |«calc» g =>
   refine(?_:aM nx l (if (g==98)=true then (some (dj m.top),(m.to nx).pop)else (cO g m.pop.top m.top,(m.to nx).pop.pop))=aM nx l (if (g==98)=true then (some (dj m.top),m.pop)else (cO g m.pop.top m.top,m.pop.pop)))
   split
   ·rfl
   ·unfold aM
    cases cO g m.pop.top m.top with
    |some w=>rfl
    |none=>cases l<;>rfl
 |br b l =>
  cases b with
  |less =>
   obtain⟨p,s,up,bs,k,tt⟩:=m
   cases up<;>rfl
  |_=>rfl
 |one o =>
  cases o with
  |leave q =>
   obtain⟨p,s,up,bs,k,tt⟩:=m
   cases up<;>rfl
  |count =>
   obtain⟨p,s,up,bs,k,tt⟩:=m
   cases up<;>rfl
  |_=>rfl
 |_=>rfl
noncomputable def mI(k:Nat)(m:Mc):Prop:=m.tr.length≤k∧m.stack.length≤k∧m.up.length≤k
theorem qR(m:Mc)(i:Int):(m.setSlot i).up.length=m.up.length:=by
 obtain⟨p,s,up,bs,k,tt⟩:=m
 cases up<;>rfl
theorem xM{k:Nat}(h:mI k m)(o:Op):(exec A bg nx m o).ok (mI (k+1)):=by
 obtain⟨h1,h2,h3⟩:=h
 have up:mI (k+1) m:=⟨KO h1,KO h2,KO h3⟩
 have tl:m.stack.tail.length≤k:=by refine ab List.length_tail ?_;exact am (K9 _ _) h2
 have tl2:m.stack.tail.tail.length≤k:=by refine ab List.length_tail ?_;exact am (K9 _ _) tl
 cases o with
 |rk r l =>
  have hr:(aI A m r).2.tr.length≤k∧(aI A m r).2.stack.length≤k∧(aI A m r).2.up.length≤k:=by
   obtain⟨e1,e2,e3⟩:=gO (A:=A) m r
   refine⟨by refine ab e2 ?_;exact h1,?_,by refine ab e1 ?_;exact h3⟩
   cases r with
   |push q=>exact h2
   |«calc» g =>
    have rk:aI A m (.calc g)=if (g==98)=true then (some (dj m.top),m.pop)else (cO g m.pop.top m.top,m.pop.pop):=rfl
    refine ab rk ?_
    split
    ·exact tl
    ·exact tl2
  refine(?_:(aM nx l (aI A m r)).ok _)
  unfold aM
  cases (aI A m r).1 with
  |some w=>exact⟨KO hr.1,dc hr.2.1,KO hr.2.2⟩
  |none=>cases l with
   |none=>exact trivial
   |some l=>exact⟨KO hr.1,Kx _,KO hr.2.2⟩
 |br b l =>
  cases b with
  |put n=>exact⟨by refine(?_:(m.tr++[_]).length≤_);refine ab Kl ?_;exact dc h1,KO tl,up.2.2⟩
  |less =>
   refine(?_:mI (k+1) (dU A nx m l .less))
   have e:dU A nx m l .less=if 0<m.slot.getD 0 then (m.setSlot (m.slot.getD 0-1)).to nx else m.to l:=rfl
   refine ab e ?_
   split
   ·exact⟨by refine(?_:(m.setSlot _).tr.length≤_);rw[gh];exact up.1,by refine(?_:(m.setSlot _).stack.length≤_);rw[fq];exact up.2.1,by refine(?_:(m.setSlot _).up.length≤_);rw[qR];exact up.2.2⟩
   ·exact up
  |_=>exact up
 |jump l=>exact up
 |choose a b=>exact⟨up.1,KO tl,up.2.2⟩
 |perform a b =>
  refine(?_:(if 20<m.up.length+1 then Re.fin m.tr .fault else .go { m with up:=⟨b,nx,none⟩::m.up,place:=bg.getD a 0 }).ok _)
  split
  ·exact trivial
  ·exact⟨up.1,up.2.1,dc h3⟩
 |one o =>
  cases o with
  |leave q =>
   obtain⟨p,s,ups,bs,kk,tt⟩:=m
   refine(?_:mI (k+1) (bK nx _ q))
   cases ups with
   |nil=>exact up
   |cons f r =>
    unfold bK
    dsimp only
    split
    ·exact⟨up.1,up.2.1,am (Nat.le_succ _) up.2.2⟩
    ·exact up
  |count=>exact⟨by refine(?_:(m.pop.setSlot _).tr.length≤_);rw[gh];exact up.1,by refine(?_:(m.pop.setSlot _).stack.length≤_);rw[fq];exact KO tl,by refine(?_:(m.pop.setSlot _).up.length≤_);rw[qR];exact up.2.2⟩
  |stop w=>exact trivial
  |do_ d=>exact⟨by refine(?_:(m.tr++[_]).length≤_);refine ab Kl ?_;exact dc h1,up.2.1,up.2.2⟩
end
noncomputable def gZ:List (Nat×V):=[(14,.clo 19 []),(15,.clo 19 []),(16,.clo 20 []),(103,.clo 21 []),(17,.clo 22 []),(18,.clo 23 []),(13,.clo 24 []),(12,.clo 25 []),(118,.clo 26 []),(119,.clo 27 []),(120,.clo 28 []),(19,.clo 29 []),(24,.clo 30 [])]
section
variable {n:Nat} {H0 H:Hp} {x tr ca d cl ct cr cc st fr:Nat} {m:Mc} {ps:List (Nat×Nat)} {b:Nat×Nat} {cells:List Int} {c:Cd} {h:Nat→List Nat}
theorem Gu(B:Base H0 ca d cl tr ct cr cc cells c)(M:MP H0 H x tr ca d m 85 st fr ps b)(hl:mI 900 m){o:Op}{s s':List Nat}(ty:o.Ty s s')(so:StOk s m.stack)(hper:∀k l,o=.perform k l→k<c.bg.length)(hlv:∀q,o=.one (.leave q)→0≤q) :
  ∃f,eC gZ o.code=some (.clo f [])∧∀(Q:V→Hp→Prop) (E:Nat→Hp→Prop),cT H0 x tr ca d Q E (exec (bi cells) c.bg m.place m o)→Fn (n+7) f [.obj x,o.toV] H Q E:=by
 obtain⟨l1,l2,l3⟩:=hl
 have l1:m.tr.length≤1000:=am l1 (by decide)
 have l2:m.stack.length≤1000:=am l2 (by decide)
 have l3:m.up.length≤1000:=am l3 (by decide)
 by_cases hn:∀r l,o≠.rk r l
 ·have tr:=(tS hn ty so).1
  cases o with
  |rk r l=>exact absurd rfl (hn r l)
  |br bb l =>
   cases bb with
   |put k=>obtain⟨_,u,_,e,_⟩:=tr;exact⟨20,rfl,fun Q E h=>B6 (n:=n+4) B M l1 e h⟩
   |key k=>exact⟨22,rfl,fun Q E h=>B9 (n:=n+6) M h⟩
   |test k=>exact⟨23,rfl,fun Q E h=>y5 (n:=n+4) B M l1 h⟩
   |less=>exact⟨29,rfl,fun Q E h=>za (n:=n+6) M h⟩
  |jump l=>exact⟨24,rfl,fun Q E h=>zb (n:=n+6) M h⟩
  |choose k l=>obtain⟨_,u,_,e,ho⟩:=tr;exact⟨25,rfl,fun Q E h=>vh (n:=n+3) M e ho h⟩
  |perform k l=>exact⟨26,rfl,fun Q E h=>tn (n:=n+5) B M l3 (hper k l rfl) h⟩
  |one o =>
   cases o with
   |do_ k=>exact⟨21,rfl,fun Q E h=>DZ (n:=n+4) B M l1 h⟩
   |leave q=>exact⟨27,rfl,fun Q E h=>wP (n:=n+6) M (hlv q rfl) h⟩
   |count=>obtain⟨_,u,_,e,ho⟩:=tr;exact⟨28,rfl,fun Q E h=>wQ (n:=n+3) (A:=bi cells) M e ho h⟩
   |stop w=>exact⟨30,rfl,fun Q E h=>y6 (n:=n+6) M h⟩
 ·cases o with
  |rk r l=>cases r<;>exact⟨19,rfl,fun Q E h=>wD (n:=n) B M l1 l2 ty so h⟩
  |_=>exact absurd (fun r l z=>nomatch z) hn
end
end
section
section
variable {n:Nat} {H0 H:Hp} {x tr ca d cl ct cr cc:Nat} {cells:List Int} {c:Cd} {h:Nat→List Nat} {Q:V→Hp→Prop} {E:Nat→Hp→Prop}
structure At(H K:Hp)(a k:Nat)(fs:List (Nat×V)):Prop where
 ext:Ext H K
 inst:K a=some (.inst k fs)
theorem At.put{K:Hp}{a k:Nat}{fs fs':List (Nat×V)}(A:At H K a k fs)(ha:H a=none):At H (upd K a (.inst k fs')) a k fs':=⟨A.ext.set ha _,ai _ _ _⟩
theorem At.new{K:Hp}{a k q:Nat}{fs:List (Nat×V)}{o:AO}(A:At H K a k fs)(hq:K q=none):At H (upd K q o) a k fs:=⟨A.ext.new hq o,af A.inst (aj A.inst hq)⟩
noncomputable abbrev mJ(H:Hp)(a:Nat)(u v:V)(Q:V→Hp→Prop):Prop:=∀G st fr b,Ext H G→G a=some (.inst 6 [(80,u),(81,v),(82,nV 0),(83,.obj st),(84,.obj fr),(17,.str 85),(86,.str 85)])→G st=some (.list [])→G fr=some (.list [.obj b.1])→FrAt G b (-1) (-1) none →
  H st=none→H fr=none→H b.2=none→st≠fr→Q .none G
theorem zV{K:Hp}{a st fr:Nat}{b:Nat×Nat}{u v:V}{L:Lc}{cx:Cx}{X:Nat→St→Prop}(hcx:cx.attrs=T0.attrs)(ha:H a=none)(e5:L 5=some (.obj a))(A:At H K a 6 [(80,u),(81,v),(82,nV 0),(83,.obj st),(84,.obj fr)])(s:K st=some (.list []))(f:K fr=some (.list [.obj b.1]))(fa:FrAt K b (-1) (-1) none)(h1:H st=none)(h2:H fr=none)(h3:H b.2=none)(h4:st≠fr)
  (h:mJ H a u v Q):wSs (P62.drop 5) cx ⟨L,K⟩ (fun fl σ'=>match fl with|.ret v=>Q v σ'.H|.next=>Q .none σ'.H|.cont=>False) X:=by
 have at1:∀{k:Nat},T0.attrs.contains k=true→k∈cx.attrs:=fun h=>hcx▸bk h
 have ne:∀{q:Nat} {o:AO},K q=some o→(∀k fs,o≠.inst k fs)→q≠a:=fun{q o} e n z=>by replace e:=z▸e;replace e:=A.inst▸e;replace e:=oInj e;subst e;exact n _ _ rfl
 have na:st≠a:=ne s fun zz zz z=>nomatch z
 have nf:fr≠a:=ne f fun zz zz z=>nomatch z
 have nb:b.2≠a:=ne fa.2 fun zz zz z=>nomatch z
 have nb1:b.1≠a:=fun z=>by have:=fa.1;replace this:=z▸this;replace this:=A.inst▸this;cases this
 refine aa e5 (bq A.inst ⟨aD rfl,at1 rfl,?_⟩)
 have A1:=A.put (fs':=[(80,u),(81,v),(82,nV 0),(83,.obj st),(84,.obj fr),(17,.str 85)]) ha
 refine aa e5 (bq A1.inst ⟨aD rfl,at1 rfl,?_⟩)
 have A2:=A1.put (fs':=[(80,u),(81,v),(82,nV 0),(83,.obj st),(84,.obj fr),(17,.str 85),(86,.str 85)]) ha
 exact h _ st fr b A2.ext A2.inst (af (af s na) na) (af (af f nf) nf) ⟨af (af fa.1 nb1) nb1,af (af fa.2 nb) nb⟩ h1 h2 h3 h4
theorem zU{K:Hp}{a st:Nat}{u v:V}(ha:H a=none)(A:At H K a 6 [(80,u),(81,v),(82,nV 0),(83,.obj st)])(s:K st=some (.list []))(h1:H st=none)(h:mJ H a u v Q) :
  wSs (P62.drop 4) (bv T0 (AC T0 (n+1) false) (AC T0 (n+1) true) false [] F62.LN) ⟨eD F62 [.obj a,u,v],K⟩ (fun fl σ'=>match fl with|.ret v=>Q v σ'.H|.next=>Q .none σ'.H|.cont=>False) fun k σ'=>E k σ'.H:=by
 intro f hf
 refine nB (n:=n) hf fun G e he g gf ge=>⟨rfl,fun q hq=>?_⟩
 have AG:At H (upd G q (.list [.obj f])) a 6 [(80,u),(81,v),(82,nV 0),(83,.obj st)]:=⟨(A.ext.trans g).new hq _,af (g _ _ A.inst) (aj (g _ _ A.inst) hq)⟩
 refine bq AG.inst ⟨aD rfl,bk rfl,?_⟩
 have A2:=AG.put (fs':=[(80,u),(81,v),(82,nV 0),(83,.obj st),(84,.obj q)]) ha
 have ne:∀{p:Nat} {o:AO},upd G q (.list [.obj f]) p=some o→p≠a→upd (upd G q (.list [.obj f])) a (.inst 6 [(80,u),(81,v),(82,nV 0),(83,.obj st),(84,.obj q)]) p=some o:=fun e n=>af e n
 have Ga:=g _ _ A.inst
 have na:∀{p:Nat} {o:AO},G p=some o→o≠.inst 6 [(80,u),(81,v),(82,nV 0),(83,.obj st)]→p≠a:=fun e n z=>by replace e:=z▸e;replace e:=Ga▸e;replace e:=oInj e;subst e;exact n rfl
 have qa:q≠a:=(aj Ga hq).symm
 exact zV rfl (b:=(f,e)) ha rfl A2 (ne (af (g _ _ s) (aj (g _ _ s) hq)) (na (g _ _ s) fun z=>nomatch z)) (ne (ai _ _ _) qa)
  ⟨ne (af gf (aj gf hq)) (na gf fun z=>nomatch z),ne (af ge (aj ge hq)) (na ge fun z=>nomatch z)⟩ h1 ((A.ext.trans g).free hq) (A.ext.free he) (aj (g _ _ s) hq) h
theorem xa{a:Nat}{u v:V}(ha:H a=none)(h:mJ H a u v Q):Fn (n+2) 62 [.obj a,u,v] (upd H a (.inst 6 [])) Q E:=by
 have A0:At H (upd H a (.inst 6 [])) a 6 []:=⟨(Ext.refl H).set ha _,ai _ _ _⟩
 refine⟨bd rfl,bq A0.inst ⟨aD rfl,bk rfl,?_⟩⟩
 have A1:=A0.put (fs':=[(80,u)]) ha
 refine bq A1.inst ⟨aD rfl,bk rfl,?_⟩
 have A2:=A1.put (fs':=[(80,u),(81,v)]) ha
 refine bq A2.inst ⟨aD rfl,bk rfl,?_⟩
 have A3:=A2.put (fs':=[(80,u),(81,v),(82,nV 0)]) ha
 intro st hst
 have hst:upd (upd (upd (upd H a (.inst 6 [])) a (.inst 6 [(80,u)])) a (.inst 6 [(80,u),(81,v)])) a (.inst 6 [(80,u),(81,v),(82,nV 0)]) st=none:=hst
 have A4:=A3.new (o:=.list []) hst
 have sa:st≠a:=(aj A3.inst hst).symm
 refine bq A4.inst ⟨aD rfl,bk rfl,?_⟩
 exact zU ha (A4.put ha) (af (ai _ _ _) sa) (A3.ext.free hst) h
end
end
section
section
variable {n:Nat} {H0 H:Hp} {tr ca d cl ct cr cc:Nat} {cells:List Int} {c:Cd} {h:Nat→List Nat} {Q:V→Hp→Prop} {E:Nat→Hp→Prop}
structure Fin'(H0 H:Hp)(tr:Nat)(t:List TE):Prop where
 ext:∀a o,a≠tr→H0 a=some o→H a=some o
 ht:H tr=some (.list (t.map TE.toV))
noncomputable def Dx(H0:Hp)(tr:Nat)(Q:V→Hp→Prop)(E:Nat→Hp→Prop):Re→Prop
 |.go m=>∀H',Fin' H0 H' tr m.tr→E 4 H'
 |.fin t e=>match e with
  |.word w=>∀H',Fin' H0 H' tr t→Q (.str w) H'
  |.fault=>∀H',Fin' H0 H' tr t→E 2 H'
  |.size=>∀H',Fin' H0 H' tr t→E 3 H'
  |.steps=>True
theorem MR.fin{H:Hp}{x w:Nat}{m:Mc}(M:MR H0 H x tr ca d m w):Fin' H0 H tr m.tr:=by
 obtain⟨st,fr,ps,b,M⟩:=M
 exact⟨M.ext,M.ht⟩
inductive RunI(A:Ans)(c:Cd)(h:Nat→List Nat)(H0 H:Hp)(x tr ca d:Nat)(L:Lc):Nat→Prop
 |on {k:Nat} {m:Mc}:k≤50→aS A c k start=.go m→MI c h m→mI k m→MR H0 H x tr ca d m 85→L 124=some (nV k)→RunI A c h H0 H x tr ca d L (60-k)
 |off {k w:Nat} {t:List TE} {m:Mc}:k≤50→aS A c k start=.fin t (.word w)→m.tr=t→w≠85→MR H0 H x tr ca d m w→RunI A c h H0 H x tr ca d L 0
theorem Base.grow(B:Base H ca d cl tr ct cr cc cells c){G:Hp}(g:Ext H G):Base G ca d cl tr ct cr cc cells c :=
 ⟨g _ _ B.code,g _ _ B.deeds,g _ _ B.kt,g _ _ B.kc,g _ _ B.kr,g _ _ B.kl,let ⟨vs,e⟩:=B.old;⟨vs,g _ _ e⟩,B.ne,B.pos⟩
theorem DN{H:Hp}{ops:List Op}{k:Nat}{o:Op}(h:ops[k]?=some o):bA H (.tup (ops.map Op.toV)) (nV k)=some o.toV:=by
 refine sY ?_
 refine ab (Ko) ?_;refine ab h ?_;rfl
theorem BS{H:Hp}{a k:Nat}{f:V}(e:H a=some (.dictS gZ))(h:eC gZ k=some f):bA H (.obj a) (.str k)=some f:=by
 exact(cP _ e).trans h
theorem iO{A:Ans}{k:Nat}{m:Mc}(h:aS A c k start=.go m):aS A c (k+1) start=bR A c m:=by refine ab (gi h) ?_;rw[cQ]
theorem qU{A:Ans}{k:Nat}{t:List TE}{e:End}(hk:k≤50)(h:aS A c k start=.fin t e):aS A c 50 start=.fin t e:=by
 rewrite[show 50=k+(50-k)from (Nat.add_sub_of_le hk).symm];exact mh _ h
theorem DU(W:WF c)(T:Typed c h)(B:Base H ca d cl tr ct cr cc cells c)(h0:H tr=some (.list []))(hp:Dx H tr Q E (aS (bi cells) c 50 start)):Fn (n+8) 32 [.obj ca,.obj d,.int 50] H Q E:=by
 refine⟨bd rfl,fun x hx=>xa (n:=n+5) hx fun G st fr b g e1 e2 e3 e4 f1 f2 f3 ne=>⟨rfl,bd rfl,rfl,by decide,aD rfl,fun tb htb=>⟨rfl,?_⟩⟩⟩
 have hx:H x=none:=hx
 have htb:G tb=none:=htb
 have fH:H tb=none:=by
  cases e:H tb with
  |none=>rfl
  |some o=>have:=g _ _ e;replace htb:=this▸htb;cases htb
 have nb:∀{q:Nat} {o:AO},G q=some o→q≠tb:=fun e=>aj e htb
 have x0:Ext H (upd H tb (.dictS gZ)):=(Ext.refl H).set fH _
 have B:=B.grow x0
 have M0:MP (upd H tb (.dictS gZ)) (upd G tb (.dictS gZ)) x tr ca d start 85 st fr [] b :=
  ⟨fun a o zz e=>by
    by_cases z:a=tb
    ·subst z;rw[ai]at e ⊢;exact e
    ·rw[aV z]at e ⊢;exact g _ _ e,
   af (g _ _ h0) (nb (g _ _ h0)),af e1 (nb e1),af e2 (nb e2),af e3 (nb e3),trivial,⟨af e4.1 (nb e4.1),af e4.2 (nb e4.2)⟩,(aV (nb e1)).trans hx,(aV (nb e2)).trans f1,(aV (nb e3)).trans f2,
   fun p hp=>by cases mSng hp;exact(aV (nb e4.2)).trans f3,List.nodup_cons.mpr ⟨fun z=>(nomatch z),List.nodup_nil⟩,⟨_,x0 _ _ h0⟩,ne⟩
 have fin:∀{H':Hp} {t:List TE},Fin' (upd H tb (.dictS gZ)) H' tr t→Fin' H H' tr t:=fun y=>⟨fun a o n e=>y.ext a o n (x0 _ _ e),y.ht⟩
 have tbn:tb≠tr:=fun z=>by replace fH:=z▸fH;replace fH:=h0▸fH;cases fH
 refine hX (fun j L H'=>L 95=some (.obj x)∧L 123=some (.obj tb)∧L 80=some (.obj ca)∧L 122=some (.int 50)∧RunI (bi cells) c h (upd H tb (.dictS gZ)) H' x tr ca d L j) 60 ⟨rfl,rfl,rfl,rfl,.on (k:=0) (Kx _) rfl (MI.start W T) ⟨aR _,aR _,aR _⟩ ⟨st,fr,[],b,M0⟩ rfl⟩ ?_
 rintro j L H' ⟨g1,g2,g3,g4,ri⟩
 cases ri with
 |off hk hr ht hw M =>
  obtain⟨st,fr,ps,b,M⟩:=M
  refine aa g1 (aa (ba M.inst rfl) (aH (Km.mpr hw) (aa g1 (aa (ba M.inst rfl) ?_))))
  replace hp:=(qU hk hr)▸hp
  exact hp _ (fin (ht▸⟨M.ext,M.ht⟩))
 |on hk hr mi ln M le =>
  rename_i k m
  obtain⟨st,fr,ps,b,M⟩:=M
  have lt:m.place<c.ops.length:=mi.place
  have ho:c.ops[m.place]?=some c.ops[m.place]:=Kj lt
  generalize c.ops[m.place]=o at ho
  have hc:=M.code B
  refine aa g1 (aa (ba M.inst rfl) (bB rfl (aa g1 (aa (ba M.inst rfl) (aa g3 (aa (eQ hc) (aH (decide_eq_false fun z=>?_) (aa le (aa g4 (aF (fun z=>⟨rfl,rfl,?_⟩) fun z=>aa le ?_))))))))))
  ·have z:((c.ops.map Op.toV).length:Int)≤(m.place:Int):=z
   rw[Kf]at z;exact Nat.not_le.mpr lt (Int.ofNat_le.mp z)
  ·have z:50≤k:=Int.ofNat_le.mp (Kn z)
   cases Nat.le_antisymm hk z
   replace hp:=hr▸hp
   exact hp _ (fin ⟨M.ext,M.ht⟩)
  ·have z:k<50:=Nat.lt_of_not_le fun y=>of_decide_eq_false z (Int.ofNat_le.mpr y)
   refine aa g3 (aa (eQ hc) (aa g1 (aa (ba M.inst rfl) (aa (DN ho) (aa g1 (aa (ba M.inst rfl) (aa g1 (bq M.inst ⟨aD rfl,bk rfl,?_⟩))))))))
   have M1:=M.set (m.place+1) m.key 85
   have tbk:=M1.ext tb _ tbn (ai H tb (.dictS gZ))
   obtain⟨f,k1,k2⟩:=Gu (n:=n) B M1 ⟨am ln.1 (am hk (by decide)),am ln.2.1 (am hk (by decide)),am ln.2.2 (am hk (by decide))⟩ (T.op m.place o ho) mi.st (fun k l e=>W.per k l (mGe (e▸ho))) fun q e=>W.lv q (mGe (e▸ho))
   refine aa g2 (aa (cW o) (aa (BS tbk k1) (aa rfl (aa g1 (k2 _ _ ?_)))))
   have es:exec (bi cells) c.bg (m.place+1) (m.to (m.place+1)) o=aS (bi cells) c (k+1) start:=by refine ab (iO hr) ?_;refine ab (bO ho) ?_;rw[C1]
   have ms:=Cq W T (FG cells) mi
   have el:=xM (A:=bi cells) (bg:=c.bg) (nx:=m.place+1) ln o
   rw[← bO ho,← iO hr]at el
   rw[← iO hr]at ms
   refine(?_:cT _ x tr ca d _ _ (exec (bi cells) c.bg (m.place+1) (m.to (m.place+1)) o))
   refine ab es ?_
   cases hr2:aS (bi cells) c (k+1) start with
   |go m2 =>
    rw[hr2]at ms el
    exact fun H2 M2=>⟨60-(k+1),Nat.sub_lt_sub_left (bD hk (by decide)) (La k),g1,g2,g3,g4,.on z hr2 ms el M2 rfl⟩
   |fin t e =>
    replace hp:=(qU z hr2)▸hp
    intro H2 m2 ht
    cases e with
    |word w =>
     refine fun M2=>⟨0,Nat.sub_pos_of_lt (bD hk (by decide)),g1,g2,g3,g4,.off z hr2 ht ?_ M2⟩
     replace hr2:=(iO hr)▸hr2;replace hr2:=(bO ho)▸hr2
     cases o with
     |one o =>
      cases o with
      |stop w'=>cases hr2;exact W.sw _ (mGe ho)
      |_=>cases hr2
     |rk r l =>
      have hr2:aM (m.place+1) l (aI (bi cells) m r)=_:=hr2
      unfold aM at hr2
      split at hr2
      ·cases hr2
      ·cases l<;>cases hr2
     |perform a b =>
      have hr2:(if 20<m.up.length+1 then Re.fin m.tr .fault else .go { m with up:=⟨b,m.place+1,none⟩::m.up,place:=c.bg.getD a 0 })=_:=hr2
      split at hr2<;>cases hr2
     |_=>cases hr2
    |fault=>exact fun M2=>hp _ (fin (ht▸M2.fin))
    |size=>exact fun M2=>hp _ (fin (ht▸M2.fin))
    |steps=>trivial
end
end
section
theorem th{H:Hp}{x y z:Nat}{P:List Nat→Prop}(h:∀c d e,c≠d→c≠e→d≠e→H c=none→H d=none→H e=none→P [c,d,e])(as:List Nat)(hl:as.length=[x,y,z].length)(nd:as.Nodup)(f:∀a∈as,H a=none):P as:=by
  obtain⟨c,r,rfl,h1⟩:=gv hl
  obtain⟨d,r,rfl,h2⟩:=gv h1
  obtain⟨e,r,rfl,h3⟩:=gv h2
  obtain rfl:=KP.mp h3
  have n1:=List.nodup_cons.mp nd
  have n2:=List.nodup_cons.mp n1.2
  exact h c d e (fun z=>n1.1 (z▸.head _)) (fun z=>n1.1 (z▸.tail _ (.head _))) (fun z=>n2.1 (z▸.head _)) (f c (.head _)) (f d (.tail _ (.head _))) (f e (.tail _ (.tail _ (.head _))))
noncomputable def sB:End→Nat
 |.word w=>w
 |.steps=>124
 |.fault=>206
 |.size=>67
section
variable {n:Nat} {H:Hp} {cl ca:Nat} {cells:List Int} {c:Cd} {h:Nat→List Nat} {Q:V→Hp→Prop} {E:Nat→Hp→Prop}
theorem vO{a:Nat}{v1 v2 v3 v4:V}(ha:H a=none)(h:∀G,Ext H G→(∀q,q≠a→G q=H q)→G a=some (.inst 7 [(103,v1),(18,v2),(96,v3),(16,v4)])→Q .none G):Fn (n+1) 64 [.obj a,v1,v2,v3,v4] (upd H a (.inst 7 [])) Q E:=by
 have A0:At H (upd H a (.inst 7 [])) a 7 []:=⟨(Ext.refl H).set ha _,ai _ _ _⟩
 refine⟨bd rfl,bq A0.inst ⟨aD rfl,bk rfl,?_⟩⟩
 have A1:=A0.put (fs':=[(103,v1)]) ha
 refine bq A1.inst ⟨aD rfl,bk rfl,?_⟩
 have A2:=A1.put (fs':=[(103,v1),(18,v2)]) ha
 refine bq A2.inst ⟨aD rfl,bk rfl,?_⟩
 have A3:=A2.put (fs':=[(103,v1),(18,v2),(96,v3)]) ha
 refine bq A3.inst ⟨aD rfl,bk rfl,?_⟩
 have A4:=A3.put (fs':=[(103,v1),(18,v2),(96,v3),(16,v4)]) ha
 exact h _ A4.ext (fun q hq=>(aV hq).trans ((aV hq).trans ((aV hq).trans ((aV hq).trans (aV hq))))) A4.inst
theorem pF(W:WF c)(T:Typed c h)(hcode:cB H ca c)(hcl:H cl=some (.list (cells.map .int)))(hn:0<cells.length)
  (hp:∀H' tr,Ext H H'→H' tr=some (.list ((aS (bi cells) c 50 start).obs.1.map TE.toV))→Q (.tup [.obj tr,.str (sB (aS (bi cells) c 50 start).obs.2)]) H'):Fn (n+9) 52 [.obj ca,.obj cl] H Q E:=by
 refine⟨bd rfl,th fun cc cr ct n1 n2 n3 f1 f2 f3 tr htr=>?_⟩
 have htr:upd (upd (upd H cc (.cell (some (.obj cl)))) cr (.cell none)) ct (.cell none) tr=none:=htr
 have X0:Ext H (upd (upd (upd H cc (.cell (some (.obj cl)))) cr (.cell none)) ct (.cell none)):=(((Ext.refl H).set f1 _).set f2 _).set f3 _
 have kc:upd (upd (upd H cc (.cell (some (.obj cl)))) cr (.cell none)) ct (.cell none) cc=some (.cell (some (.obj cl))):=af (af (ai _ _ _) n1) n2
 have kr:upd (upd (upd H cc (.cell (some (.obj cl)))) cr (.cell none)) ct (.cell none) cr=some (.cell none):=af (ai _ _ _) n3
 have kt:upd (upd (upd H cc (.cell (some (.obj cl)))) cr (.cell none)) ct (.cell none) ct=some (.cell none):=ai _ _ _
 refine gD (af kt (aj kt htr)) ⟨rfl,rfl,gD (af (af kr (aj kr htr)) n3) ⟨rfl,rfl,rfl,rfl,rfl,rfl,rfl,fun d hd=>?_⟩⟩
 have ftr:=X0.free htr
 have tc:∀{q:Nat} {o:AO},upd (upd (upd H cc (.cell (some (.obj cl)))) cr (.cell none)) ct (.cell none) q=some o→q≠tr:=fun e=>aj e htr
 obtain⟨K,hK,XK,k1,k2,k3,k4⟩:∃G:Hp,upd (upd (upd (upd (upd (upd H cc (.cell (some (.obj cl)))) cr (.cell none)) ct (.cell none)) tr (.list [])) ct (.cell (some (.obj tr)))) cr (.cell (some (.clo 67 [(196,ct),(165,cc)])))=G∧Ext H G∧G cc=some (.cell (some (.obj cl)))∧G ct=some (.cell (some (.obj tr)))∧G cr=some (.cell (some (.clo 67 [(196,ct),(165,cc)])))∧G tr=some (.list []) :=
  ⟨_,rfl,((X0.new htr _).set f3 _).set f2 _,af (af (af kc (tc kc)) n2) n1,af (ai _ _ _) n3.symm,ai _ _ _,af (af (ai _ _ _) (tc kt).symm) (tc kr).symm⟩
 have hd:K d=none:=hK▸hd
 have core:∀G:Hp,Ext K G→G d=some (.inst 7 [(103,.clo 68 (CD cr ct)),(18,.clo 71 [(197,cr)]),(96,.clo 70 [(197,cr)]),(16,.clo 69 (CD cr ct))]) →
   wSs (P52.drop 6) (bv T0 (AC T0 (n+8) false) (AC T0 (n+8) true) false [(165,cc),(197,cr),(196,ct)] F52.LN) ⟨upd (fun i=>if i∈F52.cells then none else (F52.params.zip (dh F52 [.obj ca,.obj cl])).lookup i) 81 (.obj d),G⟩ (fun fl σ'=>match fl with|.ret v=>Q v σ'.H|.next=>Q .none σ'.H|.cont=>False) fun k σ'=>E k σ'.H:=fun G g gd=>by
  have XG:=XK.trans g
  have B:Base G ca d cl tr ct cr cc cells c:=⟨XG _ _ hcode,gd,g _ _ k2,g _ _ k1,g _ _ k3,XG _ _ hcl,⟨_,g _ _ k4⟩,(fun z=>by replace hcl:=z▸hcl;replace hcl:=ftr▸hcl;injection hcl),hn⟩
  have out:∀{H':Hp} {t:List TE},Fin' G H' tr t→Ext H H'∧H' ct=some (.cell (some (.obj tr))):=fun y=>⟨fun a o e=>y.ext a o (aj e ftr) (XG _ _ e),y.ext _ _ (fun z=>by have:=g _ _ k2;replace this:=z▸this;replace this:=(g _ _ k4)▸this;cases this) (g _ _ k2)⟩
  refine⟨rfl,aQ (g _ _ k2) (DU (n:=n) W T B (g _ _ k4) ?_)⟩
  cases hr:aS (bi cells) c 50 start with
  |go m =>
   replace hp:=hr▸hp
   intro H' y
   obtain⟨o1,o2⟩:=out y
   exact⟨rfl,rfl,fun zz=>aQ o2 (hp H' tr o1 y.ht),fun z=>absurd rfl z⟩
  |fin t e =>
   replace hp:=hr▸hp
   cases e with
   |word w=>exact fun H' y=>hp H' tr (out y).1 y.ht
   |fault=>exact fun H' y=>⟨rfl,rfl,(fun z=>absurd z (by decide)),fun zz=>⟨rfl,fun zz=>aQ (out y).2 (hp H' tr (out y).1 y.ht),fun z=>absurd rfl z⟩⟩
   |size=>exact fun H' y=>⟨rfl,rfl,(fun z=>absurd z (by decide)),fun zz=>⟨rfl,(fun z=>absurd z (by decide)),fun zz=>⟨rfl,fun zz=>aQ (out y).2 (hp H' tr (out y).1 y.ht),fun z=>absurd rfl z⟩⟩⟩
   |steps=>trivial
 have init:=vO (n:=n+7) (Q:=fun v H=>v=.none∧wSs (P52.drop 6) (bv T0 (AC T0 (n+8) false) (AC T0 (n+8) true) false [(165,cc),(197,cr),(196,ct)] F52.LN) ⟨upd (fun i=>if i∈F52.cells then none else (F52.params.zip (dh F52 [.obj ca,.obj cl])).lookup i) 81 (.obj d),H⟩ (fun fl σ'=>match fl with|.ret v=>Q v σ'.H|.next=>Q .none σ'.H|.cont=>False) fun k σ'=>E k σ'.H) (E:=E) hd fun G g zz gd=>⟨rfl,core G g gd⟩
 rw[← hK]at init
 exact init
end
end
section
section rules
variable {c:Cx} {σ:St} {Q:V→St→Prop} {K:Fl→St→Prop} {X:Nat→St→Prop}
theorem sq{s:PS}{ss:List PS}(h:wS s c σ (EC K X (wSs ss c)) X):wSs (s::ss) c σ K X:=h
theorem aY(h:K .next σ):wSs [] c σ K X:=h
theorem cK{x:Nat}{e:PE}(h:wE e c σ (EL K x) X):wS (.asg x e) c σ K X:=h
theorem bN{e:PE}(h:wE e c σ (ED K) X):wS (.ret e) c σ K X:=h
theorem gN{e:PE}(h:wE e c σ (Ba K) X):wS (.expr e) c σ K X:=h
theorem dQ{t:PE}{b o:List PS}(h:wT t (kW X σ (wE t c)) c σ (vw X K (wSs b c) (wSs o c)) X):wS (.ite t b o) c σ K X:=h
theorem wn{o i e:PE}(h:wE e c σ (A9 K X (wE o c) (wE i c)) X):wS (.seti o i e) c σ K X:=h
theorem ah{x:Nat}{v:V}(e:σ.L x=some v)(h:Q v σ):wE (.loc x) c σ Q X:=aa e h
theorem gX{x a:Nat}{v:V}(e:c.cellOf x=some a)(e2:σ.H a=some (.cell (some v)))(h:Q v σ):wE (.cel x) c σ Q X:=aa e (aQ e2 h)
theorem ei{g:Nat}{v:V}(e:c.GC g=some v)(h:Q v σ):wE (.glob g) c σ Q X:=aa e h
theorem au{i:Int}(h:Q (.int i) σ):wE (.int i) c σ Q X:=h
theorem az{i:Nat}(h:Q (.str i) σ):wE (.str i) c σ Q X:=h
theorem DF{i:Bool}(h:Q (.bool i) σ):wE (.bool i) c σ Q X:=h
theorem aE{e i:PE}(h:wE e c σ (Eu Q X (wE i c)) X):wE (.sub e i) c σ Q X:=h
theorem ja{e:PE}{a:Nat}(h:wE e c σ (Bc Q a) X):wE (.attr e a) c σ Q X:=h
theorem eg{e:PE}(h:wE e c σ (EG Q) X):wE (.len e) c σ Q X:=h
theorem eO{i:Int}(h:Q (.int (-i)) σ):wE (.neg (.int i)) c σ Q X:=h
theorem DH{x:Nat}{i:Int}(e:σ.L x=some (.int i))(h:Q (.int i.natAbs) σ):wE (.abs (.loc x)) c σ Q X:=aa e h
theorem aZ{op:BO}{l r:PE}(h:wE l c σ (EK Q X op (wE r c)) X):wE (.bin op l r) c σ Q X:=h
theorem bH{op:CO}{l r:PE}(h:wE l c σ (EI Q X op (wE r c)) X):wE (.cmp op l r) c σ Q X:=h
theorem FW{t a b:PE}(h:wT t (kW X σ (wE t c)) c σ (vw X Q (wE a c) (wE b c)) X):wE (.ite t a b) c σ Q X:=h
theorem aW{es:List PE}(h:wEs es c σ (Et Q) X):wE (.tup es) c σ Q X:=h
theorem bW{es:List PE}(h:wEs es c σ (EF Q) X):wE (.lst es) c σ Q X:=h
theorem i9{e:PE}(h:wE e c σ (xn Q) X):wE (.tupOf e) c σ Q X:=h
theorem oa{e:PE}(h:wE e c σ (xo Q) X):wE (.lstOf e) c σ Q X:=h
theorem cC{f:Nat}{as:List PE}(h:wEs as c σ (vx Q X c (.clo f [])) X):wE (.callg f as) c σ Q X:=h
theorem dE{o:PE}{m:Nat}{as:List PE}(h:wE o c σ (Ho Q X c m (wEs as c)) X):wE (.mcall o m as) c σ Q X:=h
theorem al{Q:List V→St→Prop}(h:Q [] σ):wEs [] c σ Q X:=h
theorem ag{Q:List V→St→Prop}{e:PE}{es:List PE}(h:wE e c σ (Hq X Q (wEs es c)) X):wEs (e::es) c σ Q X:=h
theorem bx{W:(V→St→Prop)→Prop}{Q:Bool→St→Prop}{op:CO}{l r:PE}(h:W (A7 Q)):wT (.cmp op l r) W c σ Q X:=h
theorem fU{H:Hp}{a b:Int}(h:Q (.int (a+b)) σ):mE H .add (.int a) (.int b) (mF σ Q):=h
theorem Bm{H:Hp}{a b:Int}(e:b.natAbs<2^60)(h:Q (.int (a*b)) σ):mE H .mul (.int a) (.int b) (mF σ Q):=⟨.inl e,h⟩
theorem j6{H:Hp}{a b:Int}(e:b≠0)(e2:b.natAbs<bJ)(h:Q (.int (a.fdiv b)) σ):mE H .fdiv (.int a) (.int b) (mF σ Q):=⟨e,e2,h⟩
theorem cg{H:Hp}{a b:Int}(e:b≠0)(h:Q (.int (a.fmod b)) σ):mE H .mod (.int a) (.int b) (mF σ Q):=⟨e,h⟩
end rules
theorem nl{k:Int}(h:k.natAbs≤1000):k.natAbs<bJ:=by
 have:=dw (k:=4) (by decide)
 exact bD (am h (by decide:1000≤10000)) (bD (by decide) this)
structure TapeAt(H:Hp)(tp cs n:Nat):Prop where
 tp:H tp=some (.list [.obj cs,nV n])
 cs:∃cells:List Int,0<cells.length∧H cs=some (.list (cells.map .int))
noncomputable def Tp(tp cs:Nat)(H H':Hp):Prop:=∀a o,a≠tp→a≠cs→H a=some o→H' a=some o
theorem Tp.trans{tp cs:Nat}{A B C:Hp}(x:Tp tp cs A B)(y:Tp tp cs B C):Tp tp cs A C:=fun a o n m e=>y a o n m (x a o n m e)
section
variable {n:Nat} {H:Hp} {tp cs k:Nat} {Q:V→Hp→Prop} {E:Nat→Hp→Prop}
theorem jX(a b:Nat):(a:Int).fmod (b:Int)=((a%b:Nat):Int):=by refine ab (Int.fmod_eq_emod_of_nonneg _ (KL _)) ?_;rfl
theorem js(T:TapeAt H tp cs k)(hk:k<1000){l:Nat}(hl:0<l)(hl2:l≤1000)(h:∀H' v,v<l→TapeAt H' tp cs (k+1)→Tp tp cs H H'→Q (nV v) H'):Fn (n+1) 48 [.obj tp,nV l] H Q E:=by
 obtain⟨tpe,cells,hn,cse⟩:=T
 have ne:tp≠cs:=fun z=>by
  replace tpe:=z▸tpe;replace tpe:=cse▸tpe
  cases cells with
  |nil=>exact absurd hn (Le 0)
  |cons c r=>cases tpe
 have ln:((cells.map V.int).length:Int)≠0:=by rw[Kf];exact fun z=>Ld hn (Int.ofNat.inj z)
 have lt:k%cells.length<cells.length:=Nat.mod_lt _ hn
 have lz:(l:Int)≠0:=fun z=>Ld hl (Int.ofNat.inj z)
 have get0:bA H (.obj tp) (.int 0)=some (.obj cs):=getL (i:=0) tpe rfl
 have get1:bA H (.obj tp) (.int 1)=some (nV k):=getL (i:=1) tpe rfl
 have set1:qT H (.obj tp) (.int 1) (.int ((k:Int)+1))=some (upd H tp (.list [.obj cs,nV (k+1)])):=iX (i:=1) tpe (La 1)
 have tp1:upd H tp (.list [.obj cs,nV (k+1)]) tp=some (.list [.obj cs,nV (k+1)]):=ai _ _ _
 have cs1:=af (o:=.list [.obj cs,nV (k+1)]) cse ne.symm
 have hx:((k:Int).fmod ((cells.map V.int).length:Int))=((k%cells.length:Nat):Int):=by rw[Kf];exact jX _ _
 have hc:(cells.map V.int)[k%cells.length]?=some (.int (cells.getD (k%cells.length) 0)):=by
  refine ab (Ko) ?_;refine ab (List.getD_eq_getElem?_getD) ?_;refine ab (Kj lt) ?_;rfl
 generalize cells.getD (k%cells.length) 0=c at hc
 have sets:∀v:V,qT (upd H tp (.list [.obj cs,nV (k+1)])) (.obj cs) (nV (k%cells.length)) v=some _:=fun v=>iX cs1 (by rw[Kf];exact lt)
 have fin:∀v:Int,Q (.int (c.fmod l)) (upd (upd H tp (.list [.obj cs,nV (k+1)])) cs (.list ((cells.map V.int).set (k%cells.length) (.int v)))):=fun v=>by
  have r:=Int.fmod_nonneg_of_pos c (Int.ofNat_lt.mpr hl)
  have r2:=Int.fmod_lt_of_pos c (Int.ofNat_lt.mpr hl)
  obtain⟨q,hq⟩:=Int.eq_ofNat_of_zero_le r
  rw[hq]at r2 ⊢
  refine h _ q (Int.ofNat_lt.mp r2) ⟨af tp1 ne,cells.set (k%cells.length) v,by refine ab KJ ?_;exact hn,(ai _ _ _).trans (congrArg (fun l=>some (AO.list l)) List.map_set.symm)⟩ fun a o n1 n2 e=>af (af e n1) n2
 refine⟨bd rfl,sq (cK (aE (ah rfl (au (aa get0 (sq (cK (aZ (aE (ah rfl (au (aa get1 (eg (ah rfl (aa (dq cse) (cg ln ?_))))))))))))))))⟩
 refine sq (wn (aZ (aE (ah rfl (au (aa get1 (au (fU (ah rfl (au (aa set1 ?_)))))))))))
 refine sq (cK (aE (ah rfl (ah rfl ?_))))
 refine ab hx ?_
 refine aa (getL cs1 hc) (sq (wn (FW (bx (bH (DH rfl ((ah rfl (aa rfl (aa rfl (aF (fun z=>?_) fun z=>?_)))))))))))
 ·exact aZ (ah rfl (ah rfl (j6 lz (nl (by rw[Int.natAbs_natCast];exact hl2)) (ah rfl (ah rfl (aa (sets _) (sq (bN (aZ (ah rfl (ah rfl (cg lz (fin _)))))))))))))
 ·exact aZ (aZ (ah rfl (au (Bm (show(31:Int).natAbs<2^60 by decide) (aZ (au (aE (ah rfl (au (aa (getL (i:=1) tp1 rfl) (Bm (om (k:=k+1) hk) (fU (ah rfl (ah rfl (aa (sets _) (sq (bN (aZ (ah rfl (ah rfl (cg lz (fin _))))))))))))))))))))))
end
end
section
noncomputable def B8:Op→Bool
 |.perform _ _=>false
 |.one (.leave _)=>false
 |.one (.stop _)=>false
 |_=>true
theorem dk{many:Nat}{us:List Op}(h:us.all B8=true)(ne:us≠[])(ty:Bp us [] []):UnitOk many us :=
 ⟨ne,ty,fun zz zz z=>aC (lAt h _ z),fun zz z=>aC (lAt h _ z),fun zz z=>aC (lAt h _ z)⟩
theorem oS{g a b t:Nat}{l:Option Nat}{s:List Nat}(h:(g==98)=false)(h1:a<t)(h2:b<t)(h3:t≤2):(Op.rk (.calc g) l).Ty (b::a::s) (t::s):=by
 refine(?_:if (g==98)=true then _ else _)
 refine ab (Kg (ch h)) ?_
 exact⟨a,b,t,s,rfl,rfl,h1,h2,h3⟩
noncomputable def gM(o:Opd):Prop:=∀s,(Rk.push o).Ty s (0::s)
theorem hU{u s:Int}(h:u.natAbs≤100)(h0:0≤s)(h1:s≤30):gM (.num u s):=fun zz=>⟨0,by decide,⟨bD h (Kw (by decide) (hZ (a:=3) (b:=130) (by decide))),h0,h1⟩,rfl⟩
noncomputable def vj:V:=.tup [V.tup [.str 96,.tup [.int 2,.int 0]],V.tup [.str 96,.tup [.int 0,.int 0]],V.tup [.str 96,.tup [.int (-15),.int 1]],V.tup [.str 170,.str 180,.tup [],.tup [],.none],V.tup [.str 170,.str 181,.tup [],.tup [],.none]]
theorem fm{x:Int}{k:Nat}(h:0<k):∃i:Nat,i<k∧x.fmod (k:Int)=(i:Int):=by
 have r:=Int.fmod_nonneg_of_pos x (Int.ofNat_lt.mpr h)
 have r2:=Int.fmod_lt_of_pos x (Int.ofNat_lt.mpr h)
 obtain⟨q,hq⟩:=Int.eq_ofNat_of_zero_le r
 exact⟨q,Int.ofNat_lt.mp (hq▸r2),hq⟩
section
variable {H:Hp}
theorem xb{P:Nat→Prop}{n:Nat}(h0:P 0)(h:∀i,i<n→P (i+1)):∀i,i<n+1→P i
 |0,_=>h0
 |i+1,h'=>h i (Nat.lt_of_succ_lt_succ h')
theorem Ib{P:Nat→Prop}(h0:P 0):∀i,i<1→P i:=xb h0 fun i h=>absurd h (Nat.not_lt_zero i)
theorem lt2{P:Nat→Prop}(h0:P 0)(h1:P 1):∀i,i<2→P i:=xb h0 (Ib h1)
theorem AZ{P:Nat→Prop}(h0:P 0)(h1:P 1)(h2:P 2):∀i,i<3→P i:=xb h0 (lt2 h1 h2)
theorem Hm{P:Nat→Prop}(h0:P 0)(h1:P 1)(h2:P 2)(h3:P 3)(h4:P 4):∀i,i<5→P i:=xb h0 (xb h1 (AZ h2 h3 h4))
theorem wV(x:Int):∃o:Opd,bA H vj (.int (x.fmod 5))=some o.toV∧gM o:=by
 obtain⟨i,hi,e⟩:=fm (x:=x) (k:=5) (by decide)
 refine ab (show x.fmod 5=(i:Int)from e) ?_
 exact Hm (P:=fun i:Nat=>∃o:Opd,bA H vj (.int (i:Int))=some o.toV∧gM o) ⟨.num 2 0,rfl,hU (by decide) (by decide) (by decide)⟩ ⟨.num 0 0,rfl,hU (by decide) (by decide) (by decide)⟩ ⟨.num (-15) 1,rfl,hU (by decide) (by decide) (by decide)⟩ ⟨.ref 180,rfl,fun zz=>rfl⟩ ⟨.ref 181,rfl,fun zz=>rfl⟩ i hi
theorem t8(x:Int):∃o:Opd,bA H vj (.int (x.fmod 3))=some o.toV∧gM o:=by
 obtain⟨i,hi,e⟩:=fm (x:=x) (k:=3) (by decide)
 refine ab (show x.fmod 3=(i:Int)from e) ?_
 exact AZ (P:=fun i:Nat=>∃o:Opd,bA H vj (.int (i:Int))=some o.toV∧gM o) ⟨.num 2 0,rfl,hU (by decide) (by decide) (by decide)⟩ ⟨.num 0 0,rfl,hU (by decide) (by decide) (by decide)⟩ ⟨.num (-15) 1,rfl,hU (by decide) (by decide) (by decide)⟩ i hi
theorem oP(x:Int):∃c:Bool,bA H (.tup [cond false,cond true]) (.int (x.fmod 2))=some (cond c):=by
 obtain⟨i,hi,e⟩:=fm (x:=x) (k:=2) (by decide)
 refine ab (show x.fmod 2=(i:Int)from e) ?_
 exact lt2 (P:=fun i:Nat=>∃c:Bool,bA H (.tup [cond false,cond true]) (.int (i:Int))=some (cond c)) ⟨false,rfl⟩ ⟨true,rfl⟩ i hi
theorem ui(x:Int):∃k:Nat,bA H (.tup [.str 85,.str 176,.str 67]) (.int (x.fmod 3))=some (.str k):=by
 obtain⟨i,hi,e⟩:=fm (x:=x) (k:=3) (by decide)
 refine ab (show x.fmod 3=(i:Int)from e) ?_
 exact AZ (P:=fun i:Nat=>∃k:Nat,bA H (.tup [.str 85,.str 176,.str 67]) (.int (i:Int))=some (.str k)) ⟨_,rfl⟩ ⟨_,rfl⟩ ⟨_,rfl⟩ i hi
theorem yP(x:Int):∃k:Nat,(k==98)=false∧bA H (.tup [.str 90,.str 91,.str 92,.str 93,.str 178]) (.int (x.fmod 5))=some (.str k):=by
 obtain⟨i,hi,e⟩:=fm (x:=x) (k:=5) (by decide)
 refine ab (show x.fmod 5=(i:Int)from e) ?_
 exact Hm (P:=fun i:Nat=>∃k:Nat,(k==98)=false∧bA H (.tup [.str 90,.str 91,.str 92,.str 93,.str 178]) (.int (i:Int))=some (.str k)) ⟨90,rfl,rfl⟩ ⟨91,rfl,rfl⟩ ⟨92,rfl,rfl⟩ ⟨93,rfl,rfl⟩ ⟨178,rfl,rfl⟩ i hi
theorem yu(x:Int):∃k:Nat,k≠85∧bA H (.tup [.str 176,.str 24,.str 187]) (.int (x.fmod 3))=some (.str k):=by
 obtain⟨i,hi,e⟩:=fm (x:=x) (k:=3) (by decide)
 refine ab (show x.fmod 3=(i:Int)from e) ?_
 exact AZ (P:=fun i:Nat=>∃k:Nat,k≠85∧bA H (.tup [.str 176,.str 24,.str 187]) (.int (i:Int))=some (.str k)) ⟨176,by decide,rfl⟩ ⟨24,by decide,rfl⟩ ⟨187,by decide,rfl⟩ i hi
end
theorem n2:(2:Int)≠0:=by decide
theorem n3:(3:Int)≠0:=by decide
theorem n5:(5:Int)≠0:=by decide
theorem n7:(7:Int)≠0:=by decide
theorem n9:(9:Int)≠0:=by decide
theorem Ia:(25:Int)≠0:=by decide
theorem l3:(3:Int).natAbs<bJ:=nl (by decide)
theorem l5:(5:Int).natAbs<bJ:=nl (by decide)
theorem l9:(9:Int).natAbs<bJ:=nl (by decide)
theorem Ig:(25:Int).natAbs<bJ:=nl (by decide)
noncomputable def fW(H:Hp)(many:Nat)(Q:V→St→Prop)(L:Lc):Prop:=∀(r:Nat) (us:List Op),H r=none→UnitOk many us→us.length≤6→Q (.obj r) ⟨L,upd H r (.list (us.map Op.toV))⟩
section
variable {H:Hp} {L:Lc} {K1 K2:du} {LN:Nat→Option (List Nat×Node)} {X:Nat→St→Prop} {QQ:V→St→Prop} {a b many:Nat} {o1 o2:Opd}
theorem Gj(e49:L 49=some (nV b))(e48:L 48=some (nV a))(h:fW H many QQ L):wE (.lst [.tup [.str 18,.sub (.glob 6) (.bin .mod (.loc 49) (.int 2)),.loc 48],.tup [.str 103,.tup [.str 185,.bin .mod (.loc 49) (.int 3)]],.tup [.str 18,.sub (.glob 6) (.bin .mod (.bin .fdiv (.loc 49) (.int 3)) (.int 2)),.bin .add (.loc 48) (.loc 49)]]) (bv T0 K1 K2 false [] LN) ⟨L,H⟩ QQ X:=by
 obtain⟨x1,c1⟩:=oP (H:=H) (b:Int)
 obtain⟨x2,c2⟩:=oP (H:=H) ((b:Int).fdiv 3)
 exact bW (ag (aW (ag (az (ag (aE (ei rfl (aZ (ah e49 (au (cg n2 (aa c1 (ag (ah e48 (al (ag (aW (ag (az (ag (aW (ag (az (ag (aZ (ah e49 (au (cg n3 (al (al (ag (aW (ag (az (ag (aE (ei rfl (aZ (aZ (ah e49 (au (j6 n3 l3 (au (cg n2 (aa c2 (ag (aZ (ah e48 (ah e49 (fU (al (al (fun r hr=>h r [.br (.test x1) a,.one (.do_ ((b:Int).fmod 3)),.br (.test x2) (a+b)] hr (dk rfl (fun z=>nomatch z) ⟨[],⟨rfl,fun zz=>rfl⟩,[],⟨rfl,fun zz=>rfl⟩,[],⟨rfl,fun zz=>rfl⟩,rfl⟩) (aD rfl))))))))))))))))))))))))))))))))))))))))))))))))))))))
theorem Gi(e49:L 49=some (nV b))(e48:L 48=some (nV a))(h:fW H many QQ L):wE (.lst [.tup [.str 103,.tup [.str 185,.bin .mod (.loc 49) (.int 3)]],.tup [.str 17,.sub (.glob 7) (.bin .mod (.bin .fdiv (.loc 49) (.int 3)) (.int 3)),.loc 48],.tup [.str 17,.sub (.glob 7) (.bin .mod (.bin .fdiv (.loc 49) (.int 9)) (.int 3)),.loc 49]]) (bv T0 K1 K2 false [] LN) ⟨L,H⟩ QQ X:=by
 obtain⟨x1,c1⟩:=ui (H:=H) ((b:Int).fdiv 3)
 obtain⟨x2,c2⟩:=ui (H:=H) ((b:Int).fdiv 9)
 exact bW (ag (aW (ag (az (ag (aW (ag (az (ag (aZ (ah e49 (au (cg n3 (al (al (ag (aW (ag (az (ag (aE (ei rfl (aZ (aZ (ah e49 (au (j6 n3 l3 (au (cg n3 (aa c1 (ag (ah e48 (al (ag (aW (ag (az (ag (aE (ei rfl (aZ (aZ (ah e49 (au (j6 n9 l9 (au (cg n3 (aa c2 (ag (ah e49 (al (al (fun r hr=>h r [.one (.do_ ((b:Int).fmod 3)),.br (.key x1) a,.br (.key x2) b] hr (dk rfl (fun z=>nomatch z) ⟨[],⟨rfl,fun zz=>rfl⟩,[],⟨rfl,fun zz=>rfl⟩,[],⟨rfl,fun zz=>rfl⟩,rfl⟩) (aD rfl))))))))))))))))))))))))))))))))))))))))))))))))))))))
theorem Gh(e48:L 48=some (nV a))(h:fW H many QQ L):wE (.lst [.tup [.str 13,.loc 48]]) (bv T0 K1 K2 false [] LN) ⟨L,H⟩ QQ X:=by
 exact bW (ag (aW (ag (az (ag (ah e48 (al (al (fun r hr=>h r [.jump a] hr (dk rfl (fun z=>nomatch z) ⟨[],⟨rfl,fun zz=>rfl⟩,rfl⟩) (aD rfl))))))))))
theorem Gf(e49:L 49=some (nV b))(e48:L 48=some (nV a))(e52:L 52=some o1.toV)(t1:gM o1)(e184:L 184=some o2.toV)(t2:gM o2)(h:fW H many QQ L):wE (.lst [.tup [.str 14,.loc 52,.loc 48],.tup [.str 14,.loc 184,.loc 48],.tup [.str 15,.sub (.glob 8) (.bin .mod (.bin .fdiv (.loc 49) (.int 25)) (.int 5)),.loc 48],.tup [.str 16,.tup [.str 186,.bin .mod (.loc 49) (.int 7)],.loc 48]]) (bv T0 K1 K2 false [] LN) ⟨L,H⟩ QQ X:=by
 obtain⟨x1,h1,c1⟩:=yP (H:=H) ((b:Int).fdiv 25)
 exact bW (ag (aW (ag (az (ag (ah e52 (ag (ah e48 (al (ag (aW (ag (az (ag (ah e184 (ag (ah e48 (al (ag (aW (ag (az (ag (aE (ei rfl (aZ (aZ (ah e49 (au (j6 Ia Ig (au (cg n5 (aa c1 (ag (ah e48 (al (ag (aW (ag (az (ag (aW (ag (az (ag (aZ (ah e49 (au (cg n7 (al (ag (ah e48 (al (al (fun r hr=>h r [.rk (.push o1) (some a),.rk (.push o2) (some a),.rk (.calc x1) (some a),.br (.put ((b:Int).fmod 7)) a] hr (dk rfl (fun z=>nomatch z) ⟨_,t1 [],_,t2 [0],_,oS h1 (by decide) (by decide) (by decide),_,⟨⟨1,rfl⟩,fun zz=>rfl⟩,rfl⟩) (aD rfl))))))))))))))))))))))))))))))))))))))))))))))))))))))))
theorem Gc(e49:L 49=some (nV b))(e48:L 48=some (nV a))(e52:L 52=some o1.toV)(t1:gM o1)(h:fW H many QQ L):wE (.lst [.tup [.str 14,.loc 52,.neg (.int 1)],.tup [.str 12,.tup [.loc 48,.loc 49]]]) (bv T0 K1 K2 false [] LN) ⟨L,H⟩ QQ X:=by
 exact bW (ag (aW (ag (az (ag (ah e52 (ag (eO ((al (ag (aW (ag (az (ag (aW (ag (ah e48 (ag (ah e49 (al (al (al (fun r hr=>h r [.rk (.push o1) none,.choose a b] hr (dk rfl (fun z=>nomatch z) ⟨_,t1 [],_,⟨⟨0,rfl⟩,fun zz=>rfl⟩,rfl⟩) (aD rfl)))))))))))))))))))))))))
theorem Gb(e48:L 48=some (nV a))(e52:L 52=some o1.toV)(t1:gM o1)(h:fW H many QQ L):wE (.lst [.tup [.str 14,.loc 52,.neg (.int 1)],.tup [.str 15,.str 98,.neg (.int 1)],.tup [.str 120,.int 0],.tup [.str 19,.int 0,.loc 48]]) (bv T0 K1 K2 false [] LN) ⟨L,H⟩ QQ X:=by
 exact bW (ag (aW (ag (az (ag (ah e52 (ag (eO ((al (ag (aW (ag (az (ag (az (ag (eO ((al (ag (aW (ag (az (ag (au (al (ag (aW (ag (az (ag (au (ag (ah e48 (al (al (fun r hr=>h r [.rk (.push o1) none,.rk (.calc 98) none,.one .count,.br .less a] hr (dk rfl (fun z=>nomatch z) ⟨_,t1 [],_,⟨0,[],rfl,rfl⟩,_,⟨⟨0,rfl⟩,fun zz=>rfl⟩,_,⟨rfl,fun zz=>rfl⟩,rfl⟩) (aD rfl)))))))))))))))))))))))))))))))))))))))
theorem FZ(e49:L 49=some (nV b))(e48:L 48=some (nV a))(h:fW H many QQ L):wE (.lst [.tup [.str 18,.sub (.glob 6) (.bin .mod (.loc 49) (.int 2)),.loc 48],.tup [.str 18,.sub (.glob 6) (.bin .mod (.loc 49) (.int 2)),.loc 49]]) (bv T0 K1 K2 false [] LN) ⟨L,H⟩ QQ X:=by
 obtain⟨x1,c1⟩:=oP (H:=H) (b:Int)
 exact bW (ag (aW (ag (az (ag (aE (ei rfl (aZ (ah e49 (au (cg n2 (aa c1 (ag (ah e48 (al (ag (aW (ag (az (ag (aE (ei rfl (aZ (ah e49 (au (cg n2 (aa c1 (ag (ah e49 (al (al (fun r hr=>h r [.br (.test x1) a,.br (.test x1) b] hr (dk rfl (fun z=>nomatch z) ⟨[],⟨rfl,fun zz=>rfl⟩,[],⟨rfl,fun zz=>rfl⟩,rfl⟩) (aD rfl)))))))))))))))))))))))))))))))))
theorem FY(e49:L 49=some (nV b))(e48:L 48=some (nV a))(e184:L 184=some o2.toV)(t2:gM o2)(h:fW H many QQ L):wE (.lst [.tup [.str 14,.sub (.glob 9) (.bin .mod (.loc 49) (.int 3)),.loc 48],.tup [.str 14,.sub (.glob 9) (.bin .mod (.bin .fdiv (.loc 49) (.int 3)) (.int 3)),.loc 48],.tup [.str 15,.str 90,.loc 48],.tup [.str 14,.loc 184,.loc 48],.tup [.str 15,.str 92,.loc 48],.tup [.str 16,.tup [.str 186,.bin .mod (.loc 49) (.int 7)],.loc 49]]) (bv T0 K1 K2 false [] LN) ⟨L,H⟩ QQ X:=by
 obtain⟨o3,c3,t3⟩:=t8 (H:=H) (b:Int)
 obtain⟨o4,c4,t4⟩:=t8 (H:=H) ((b:Int).fdiv 3)
 exact bW (ag (aW (ag (az (ag (aE (ei rfl (aZ (ah e49 (au (cg n3 (aa c3 (ag (ah e48 (al (ag (aW (ag (az (ag (aE (ei rfl (aZ (aZ (ah e49 (au (j6 n3 l3 (au (cg n3 (aa c4 (ag (ah e48 (al (ag (aW (ag (az (ag (az (ag (ah e48 (al (ag (aW (ag (az (ag (ah e184 (ag (ah e48 (al (ag (aW (ag (az (ag (az (ag (ah e48 (al (ag (aW (ag (az (ag (aW (ag (az (ag (aZ (ah e49 (au (cg n7 (al (ag (ah e49 (al (al (fun r hr=>h r [.rk (.push o3) (some a),.rk (.push o4) (some a),.rk (.calc 90) (some a),.rk (.push o2) (some a),.rk (.calc 92) (some a),.br (.put ((b:Int).fmod 7)) b] hr (dk rfl (fun z=>nomatch z) ⟨_,t3 [],_,t4 [0],_,oS (t:=1) rfl (by decide) (by decide) (by decide),_,t2 [1],_,oS (t:=2) rfl (by decide) (by decide) (by decide),_,⟨⟨2,rfl⟩,fun zz=>rfl⟩,rfl⟩) (aD rfl))))))))))))))))))))))))))))))))))))))))))))))))))))))))))))))))))))))))))))))))
theorem FX(e49:L 49=some (nV b))(h:fW H many QQ L):wE (.lst [.tup [.str 24,.sub (.tup [.str 176,.str 24,.str 187]) (.bin .mod (.loc 49) (.int 3))]]) (bv T0 K1 K2 false [] LN) ⟨L,H⟩ QQ X:=by
 obtain⟨x1,h1,c1⟩:=yu (H:=H) (b:Int)
 exact bW (ag (aW (ag (az (ag (aE (aW (ag (az (ag (az (ag (az (al (aZ (ah e49 (au (cg n3 (aa c1 (al (al (fun r hr=>h r [.one (.stop x1)] hr (⟨fun z=>(nomatch z),⟨[],⟨rfl,fun z=>nomatch z⟩,rfl⟩,fun zz zz z=>(nomatch mSng z),fun zz z=>(nomatch mSng z),fun w z=>by cases mSng z;exact h1⟩) (aD rfl)))))))))))))))))))))))
theorem Ge(e49:L 49=some (nV b))(e48:L 48=some (nV a))(e58:L 58=some (nV many))(m0:0<many)(h:fW H many QQ L):wE (.lst [.tup [.str 118,.bin .mod (.loc 48) (.loc 58),.bin .mod (.loc 49) (.loc 58)]]) (bv T0 K1 K2 false [] LN) ⟨L,H⟩ QQ X:=by
 have hm:(many:Int)≠0:=fun z=>Ld m0 (Int.ofNat.inj z)
 refine bW (ag (aW (ag (az (ag (aZ (ah e48 (ah e58 (cg hm (ag (aZ (ah e49 (ah e58 (cg hm (al (al (?_)))))))))))))))))
 rw[jX,jX]
 exact fun r hr=>h r [.perform (a%many) (b%many)] hr ⟨fun z=>(nomatch z),⟨[],⟨rfl,fun zz=>rfl⟩,rfl⟩,fun p q z=>by cases mSng z;exact Nat.mod_lt _ m0,fun zz z=>(nomatch mSng z),fun zz z=>(nomatch mSng z)⟩ (aD rfl)
end
section
variable {n:Nat} {H:Hp} {Q:V→Hp→Prop} {E:Nat→Hp→Prop}
theorem mN{c:Cx}{σ:St}{K:Fl→St→Prop}{X:Nat→St→Prop}{xs:List (Nat×Bool)}{e:PE}(h0:c.hc=none)(h:wE e c σ (Bd K c xs) X):wS (.asgt xs e) c σ K X:=⟨h0,h⟩
theorem fJ{c:Cx}{σ:St}{K:Fl→St→Prop}{X:Nat→St→Prop}{x k j:Nat}{b o:List PS}(e:σ.L x=some (nV k))(h1:k=j→wSs b c σ K X)(h2:k≠j→wSs o c σ K X):wS (.ite (.cmp .eq (.loc x) (.int j)) b o) c σ K X :=
 dQ (bx (bH (ah e (au (aa rfl (aa rfl (aF (fun z=>h1 (dX z)) fun z=>h2 fun y=>by subst y;have z:V.eqb (nV k) (nV k)=false:=z;rw[show V.eqb (nV k) (nV k)=true from Kq _]at z;injection z)))))))
theorem BL{kind a b many:Nat}(hk:kind<10)(m0:0<many)(h:∀r us,H r=none→UnitOk many us→us.length≤6→Q (.obj r) (upd H r (.list (us.map Op.toV)))):Fn (n+1) 49 [nV kind,nV a,nV b,nV many] H Q E:=by
 obtain⟨o1,c1,t1⟩:=wV (H:=H) (b:Int)
 obtain⟨o2,c2,t2⟩:=wV (H:=H) ((b:Int).fdiv 5)
 refine⟨bd rfl,sq (mN rfl (aW (ag (aE (ei rfl (aZ (ah rfl (au (cg n5 (aa c1 (ag (aE (ei rfl (aZ (aZ (ah rfl (au (j6 n5 l5 (au (cg n5 (aa c2 (al ?_))))))))))))))))))))))⟩
 have hq:∀{L:Lc},fW H many (fun v σ=>Q v σ.H) L:=fun{L} r us hr u l=>h r us hr u l
 refine sq (fJ (j:=0) rfl (fun zz=>sq (bN (Gj rfl rfl hq))) fun k0=>aY ?_)
 refine sq (fJ (j:=1) rfl (fun zz=>sq (bN (Gi rfl rfl hq))) fun k1=>aY ?_)
 refine sq (fJ (j:=2) rfl (fun zz=>sq (bN (Gh rfl hq))) fun k2=>aY ?_)
 refine sq (fJ (j:=3) rfl (fun zz=>sq (bN (Gf rfl rfl rfl t1 rfl t2 hq))) fun k3=>aY ?_)
 refine sq (fJ (j:=4) rfl (fun zz=>sq (bN (Ge rfl rfl rfl m0 hq))) fun k4=>aY ?_)
 refine sq (fJ (j:=5) rfl (fun zz=>sq (bN (Gc rfl rfl rfl t1 hq))) fun k5=>aY ?_)
 refine sq (fJ (j:=6) rfl (fun zz=>sq (bN (Gb rfl rfl t1 hq))) fun k6=>aY ?_)
 refine sq (fJ (j:=7) rfl (fun zz=>sq (bN (FZ rfl rfl hq))) fun k7=>aY ?_)
 refine sq (fJ (j:=8) rfl (fun zz=>sq (bN (FY rfl rfl rfl t2 hq))) fun k8=>aY ?_)
 exact sq (bN (FX rfl hq))
end
end
section
section rules
variable {c:Cx} {σ:St} {Q:V→St→Prop} {K:Fl→St→Prop} {X:Nat→St→Prop}
theorem qF{elt:PE}{x:Nat}{rng:Bool}{it:PE}{cond:Option PE}(h:wE it c σ (fun v σ=>c.hc=none∧iA rng v∧aG (iB rng σ.H v) fun vs =>
   dB v vs (fun u τ K=>wC cond c ⟨upd noL x u,τ.H⟩ (fun b τ1=>br b (wE elt c τ1 (fun w τ2=>K (some w) ⟨τ.L,τ2.H⟩) fX) (K none ⟨τ.L,τ1.H⟩)) fX) vs [] σ fun ws τ=>fresh τ (.list ws) Q) X):wE (.comp elt x rng it cond) c σ Q X:=h
theorem i6{W:(V→St→Prop)→Prop}{Q:Bool→St→Prop}{es:List PE}(h:wA true es c σ Q X):wT (.and es) W c σ Q X:=h
theorem cb{a:Bool}{e:PE}{es:List PE}{Q:Bool→St→Prop}(h:wT e (kW X σ (wE e c)) c σ (Hs X Q a (wA a es c)) X):wA a (e::es) c σ Q X:=h
theorem qE{a:Bool}{Q:Bool→St→Prop}(h:Q a σ):wA a [] c σ Q X:=h
end rules
theorem uV{H:Hp}{s l:Nat}{ss:List Nat}(e:aN H s ss)(h:0<ss.length):bA H (.obj s) (.int ((l:Int).fmod ((ss.map nV).length:Int)))=some (nV (ss.getD (l%ss.length) 0)):=by
 rw[jX]
 have:(ss.map nV).length=ss.length:=Kf _
 refine ab this ?_
 exact gu e (iC (Nat.mod_lt _ h))
theorem Ep{o:Op}(h:([V.str 14,V.str 15,V.str 16,V.str 17,V.str 18,V.str 19].any fun v=>V.eqb v (.str o.code))=true):∃l:Option Nat,(∀H,bA H o.toV (.int 2)=some (lV l))∧o.labels=l.toList∧∀f,(o.relabel f).toV=.tup [.str o.code,o.snd,lV (l.map f)]:=by
 cases o with
 |rk r l=>cases r<;>exact⟨l,fun zz=>rfl,by cases l<;>rfl,fun f=>rfl⟩
 |br b l=>cases b<;>exact⟨some l,fun zz=>rfl,rfl,fun f=>rfl⟩
 |one o=>cases o<;>exact aC h
 |_=>exact aC h
theorem yD{o:Op}(h:([V.str 14,V.str 15,V.str 16,V.str 17,V.str 18,V.str 19].any fun v=>V.eqb v (.str o.code))=false)(h1:(o.code==12)=false)(h2:(o.code==13)=false)(f:Nat→Nat):o.relabel f=o∧o.labels=[]:=by
 cases o with
 |rk r l=>cases r<;>exact aC h.symm
 |br b l=>cases b<;>exact aC h.symm
 |jump l=>exact aC h2.symm
 |choose a b=>exact aC h1.symm
 |_=>exact⟨rfl,rfl⟩
section
variable {n:Nat} {H:Hp} {Q:V→Hp→Prop} {E:Nat→Hp→Prop}
theorem u0{o:Op}{s:Nat}{ss:List Nat}(e:aN H s ss)(hs:0<ss.length)(h:∀H',Ext H H'→Q (o.relabel fun l=>ss.getD (l%ss.length) 0).toV H'):Fn (n+1) 50 [o.toV,.obj s] H Q E:=by
 have hz:((ss.map nV).length:Int)≠0:=by rw[Kf];exact fun z=>Ld hs (Int.ofNat.inj z)
 refine⟨bd rfl,iq fun cc hcc=>?_⟩
 have x:=(Ext.refl H).set hcc (.cell (some (.obj s)))
 have kc:upd H cc (.cell (some (.obj s))) cc=some (.cell (some (.obj s))):=ai _ _ _
 have ks:=af (o:=.cell (some (.obj s))) e (aj e hcc)
 refine(?_:wSs Hu (bv T0 (AC T0 n false) (AC T0 n true) false [(189,cc)] F50.LN) ⟨_,upd H cc (.cell (some (.obj s)))⟩ _ _)
 generalize upd H cc (.cell (some (.obj s)))=H1 at x kc ks
 have get:=fun l=>uV (l:=l) ks hs
 refine sq (dQ (bx (bH (aE (ah rfl (au (aa (cW o) (az (aa rfl (aa rfl (aF (fun z=>?_) fun z=>?_)))))))))))
 ·obtain⟨a,b,rfl⟩:=kH z
  refine sq (bN (aW (ag (az (ag (i9 (qF (aE (ah rfl (au (aa rfl ⟨rfl,trivial,aa rfl (dN (l:=[a,b]) (f:=nV) (g:=fun l=>some (nV (ss.getD (l%ss.length) 0))) (by exact trivial) (fun l zz K hk=>?_) (aD rfl) fun t ht=>?_)⟩)))))))))))
  ·exact bB rfl (aE (gX rfl kc (aZ (ah rfl (eg (gX rfl kc (aa (dq ks) (cg hz (aa (get l) hk)))))))))
  ·exact aa (aT (ai _ _ _)) (h _ (x.new ht _))
 refine aY (sq (dQ (bx (bH (aE (ah rfl (au (aa (cW o) (az (aa rfl (aa rfl (aF (fun y=>?_) fun y=>?_))))))))))))
 ·obtain⟨l,rfl⟩:=jm y
  exact sq (bN (aW (ag (az (ag (aE (gX rfl kc (aZ (aE (ah rfl (au (aa rfl (eg (gX rfl kc (aa (dq ks) (cg hz (aa (get l) (al (h _ x)))))))))))))))))))
 refine aY (sq (dQ (i6 (cb (bx (bH (aE (ah rfl (au (aa (cW o) (aW (ag (az (ag (az (ag (az (ag (az (ag (az (ag (az (al (aa rfl (aa rfl (bM (fun w=>?_) fun w=>aH w (aY (sq (bN (ah rfl ?_)))))))))))))))))))))))))))))))
 ·obtain⟨l,g1,_,g2⟩:=Ep w
  refine cb (bx (bH (aE (ah rfl (au (aa (g1 _) (eO (?_))))))))
  have h:=h H1 x
  rw[g2]at h
  cases l with
  |none=>exact aa rfl (aa rfl (ez rfl (aH rfl (aY (sq (bN (ah rfl (by
    have e:o.toV=.tup [.str o.code,o.snd,.int (-1)]:=by
     have:=g2 id
     rw[jG (φ:=id) fun zz zz=>rfl]at this
     exact this
    refine ab e ?_;exact h))))))))
  |some l=>exact aa rfl (aa rfl (iH rfl (qE (bB rfl (sq (bN (aW (ag (aE (ah rfl (au (aa (cW o) (ag (aE (ah rfl (au (aa (AT o) (ag (aE (gX rfl kc (aZ (aE (ah rfl (au (aa (g1 _) (eg (gX rfl kc (aa (dq ks) (cg hz (aa (get l) (al h)))))))))))))))))))))))))))))))
 ·have h:=h H1 x
  rw[(yD w z y _).1]at h
  exact h
end
end
section
noncomputable def LsAt(H:Hp):List Nat→List (List Op)→Prop
 |[],[]=>True
 |a::as,us::uss=>bV H a us∧LsAt H as uss
 |_,_=>False
theorem LsAt.map{H H':Hp}:∀{as:List Nat} {us:List (List Op)},(∀a∈as,∀ops,bV H a ops→bV H' a ops)→LsAt H as us→LsAt H' as us:=by
 intro as
 induction as with
 |nil =>
  intro us _ x
  cases us with
  |nil=>trivial
  |cons _ _=>exact x.elim
 |cons a as ih =>
  intro us h x
  cases us with
  |nil=>exact x.elim
  |cons u us=>exact⟨h a (.head _) _ x.1,ih (fun b hb=>h b (.tail _ hb)) x.2⟩
theorem LsAt.snoc{H:Hp}{a:Nat}{ops:List Op}(e:bV H a ops):∀{as:List Nat} {us:List (List Op)},LsAt H as us→LsAt H (as++[a]) (us++[ops])
 |[],[],_=>⟨e,trivial⟩
 |a::as,u::us,x=>⟨x.1,LsAt.snoc e x.2⟩
 |[],_::_,x=>x.elim
 |_::_,[],x=>x.elim
theorem LsAt.len{H:Hp}:∀{as:List Nat} {us:List (List Op)},LsAt H as us→as.length=us.length
 |[],[],_=>rfl
 |a::as,u::us,x=>congrArg (·+1) x.2.len
 |[],_::_,x=>x.elim
 |_::_,[],x=>x.elim
theorem LsAt.get{H:Hp}:∀{as:List Nat} {us:List (List Op)} {i a:Nat},LsAt H as us→as[i]?=some a→∃ops,us[i]?=some ops∧bV H a ops:=by
 intro as
 induction as with
 |nil=>intro us i a _ e;injection e
 |cons b as ih =>
  intro us i a x e
  cases us with
  |nil=>exact x.elim
  |cons u us =>
   cases i with
   |zero =>
    replace e:=oInj e;subst e;exact⟨u,rfl,x.1⟩
   |succ i=>exact ih (us:=us) x.2 e
structure GenI(H0 H:Hp)(tp cs u hl k many:Nat)(us:List (List Op))(heads:List Nat):Prop where
 tape:TapeAt H tp cs k
 old:Tp tp cs H0 H
 un:∃as:List Nat,H u=some (.list (as.map .obj))∧LsAt H as us∧∀a∈as,a≠u∧a≠hl∧a≠tp∧a≠cs
 hd:aN H hl heads
 ok:∀v∈us,UnitOk many v∧v.length≤6
 hh:∀i∈heads,i≤us.length
 fu:H0 u=none
 fh:H0 hl=none
 nu:u≠tp∧u≠cs∧u≠hl
 nh:hl≠tp∧hl≠cs
section
variable {H0 H:Hp} {tp cs u hl k many:Nat} {us:List (List Op)} {heads:List Nat}
theorem TapeAt.keep{H':Hp}(T:TapeAt H tp cs k)(h:∀a o,a=tp∨a=cs→H a=some o→H' a=some o):TapeAt H' tp cs k :=
 ⟨h _ _ (.inl rfl) T.tp,let ⟨c,n,e⟩:=T.cs;⟨c,n,h _ _ (.inr rfl) e⟩⟩
theorem GenI.draw(G:GenI H0 H tp cs u hl k many us heads){H':Hp}{j:Nat}(t:TapeAt H' tp cs j)(x:Tp tp cs H H'):GenI H0 H' tp cs u hl j many us heads where
 tape:=t
 old:=G.old.trans x
 un:=let ⟨as,e1,e2,e3⟩:=G.un;⟨as,x _ _ G.nu.1 G.nu.2.1 e1,e2.map fun a ha ops e=>x _ _ (e3 a ha).2.2.1 (e3 a ha).2.2.2 e,e3⟩
 hd:=x _ _ G.nh.1 G.nh.2 G.hd
 ok:=G.ok
 hh:=G.hh
 fu:=G.fu
 fh:=G.fh
 nu:=G.nu
 nh:=G.nh
theorem GenI.head(G:GenI H0 H tp cs u hl k many us heads):GenI H0 (upd H hl (.list (heads.map nV++[nV us.length]))) tp cs u hl k many us (heads++[us.length]) where
 tape:=G.tape.keep fun a o h e=>af e (h.elim (fun z=>z▸G.nh.1.symm) fun z=>z▸G.nh.2.symm)
 old:=fun a o n m e=>af (G.old a o n m e) (aj e G.fh)
 un:=let ⟨as,e1,e2,e3⟩:=G.un;⟨as,af e1 G.nu.2.2,e2.map fun a ha ops e=>af e (e3 a ha).2.1,e3⟩
 hd:=(ai _ _ _).trans (congrArg (fun l=>some (AO.list l)) (iN us.length))
 ok:=G.ok
 hh:=fun i hi=>(KD.mp hi).elim (G.hh i) fun z=>by cases mSng z;exact aR _
 fu:=G.fu
 fh:=G.fh
 nu:=G.nu
 nh:=G.nh
theorem GenI.unit(G:GenI H0 H tp cs u hl k many us heads){r:Nat}{ops:List Op}(hr:H r=none)(hu:UnitOk many ops)(hl6:ops.length≤6):∃as:List Nat,upd H r (.list (ops.map Op.toV)) u=some (.list (as.map .obj))∧as.length=us.length ∧
  GenI H0 (upd (upd H r (.list (ops.map Op.toV))) u (.list (as.map .obj++[.obj r]))) tp cs u hl k many (us++[ops]) heads:=by
 obtain⟨as,e1,e2,e3⟩:=G.un
 have nr:∀{a:Nat} {o:AO},H a=some o→a≠r:=fun e=>aj e hr
 have ru:r≠u:=(nr e1).symm
 obtain⟨cells,c1,c2⟩:=G.tape.cs
 refine⟨as,af e1 ru.symm,e2.len,⟨?_,?_,⟨as++[r],(ai _ _ _).trans (congrArg (fun l=>some (AO.list l)) (by refine ab Li ?_;rfl)),?_,?_⟩,af (af G.hd (nr G.hd)) G.nu.2.2.symm,?_,?_,G.fu,G.fh,G.nu,G.nh⟩⟩
 ·exact G.tape.keep fun a o h e=>af (af e (nr e)) (h.elim (fun z=>z▸G.nu.1.symm) fun z=>z▸G.nu.2.1.symm)
 ·exact fun a o n m e=>af (af (G.old a o n m e) (nr (G.old a o n m e))) (aj e G.fu)
 ·exact LsAt.snoc (af (ai _ _ _) ru) (e2.map fun a ha ops e=>af (af e (nr e)) (e3 a ha).1)
 ·intro a ha
  rcases KD.mp ha with ha|ha
  ·exact e3 a ha
  ·cases mSng ha
   exact⟨ru,(nr G.hd).symm,(nr G.tape.tp).symm,(nr c2).symm⟩
 ·intro v hv
  rcases KD.mp hv with hv|hv
  ·exact G.ok v hv
  ·cases mSng hv;exact⟨hu,hl6⟩
 ·intro i hi
  refine ab Kl ?_;exact am (G.hh i hi) (KB _ _)
end
theorem lP(w:List Op):∀(n:Nat) (us:List (List Op)),aP n (us++[w])=aP n us++[n+us.flatten.length]
 |n,[]=>rfl
 |n,u::us=>by
  refine(?_:n::aP (n+u.length) (us++[w])=n::(aP (n+u.length) us++[n+(u::us).flatten.length]))
  rewrite[lP w];refine ab List.flatten_cons ?_;refine ab Kl ?_;rw[Lf]
theorem su:∀{us:List (List Op)},(∀v∈us,v.length≤6)→us.flatten.length≤6*us.length
 |[],_=>aR 0
 |u::us,h=>by
  refine ab List.flatten_cons ?_;refine ab Kl ?_;refine ab KS ?_
  exact am (Nat.add_le_add (h u (.head _)) (su fun v hv=>h v (.tail _ hv))) (bU (Lg _ _))
end
section
theorem lx{c:Cx}{σ:St}{K:Fl→St→Prop}{X:Nat→St→Prop}{x:Nat}{cel rng:Bool}{it:PE}{body:List PS}(h:wE it c σ (EH K X c x cel rng (wSs body c)) X):wS (.for_ x cel rng it body) c σ K X:=h
theorem jx{c:Cx}{H:Hp}{L:Lc}{a:Nat}{vs:List V}{v:V}{Q:V→St→Prop}{X:Nat→St→Prop}(e:H a=some (.list vs))(lt:vs.length≤100000)(h:Q .none ⟨L,upd H a (.list (vs++[v]))⟩):jw c (.app a) [v] ⟨L,H⟩ Q X:=FD e lt h
section
variable {n:Nat} {H0 H:Hp} {tp cs u hl k many:Nat} {us:List (List Op)} {heads:List Nat} {L:Lc} {K:Fl→St→Prop} {X:Nat→St→Prop}
noncomputable abbrev HV:PS:=at? (at? P51 3).b? 1
noncomputable abbrev kP(n c0:Nat):Cx:=bv T0 (AC T0 (n+2) false) (AC T0 (n+2) true) false [(189,c0)] F51.LN
structure Nm(L:Lc)(tp u hl many i:Nat):Prop where
 l164:L 164=some (.obj tp)
 l58:L 58=some (nV many)
 l42:L 42=some (.obj u)
 l191:L 191=some (.obj hl)
 l192:L 192=some (nV i)
theorem kb{k k' j v:Nat}(hk:k≤900)(hv:v<3)(hj:j<v)(lk:k'≤k+1+3*j):k'≤910:=am lk (Nat.add_le_add (dc hk) (KQ 3 (KN (Nat.lt_trans hj hv))))
theorem zT{c0 i:Nat}(nm:Nm L tp u hl many i)(m0:0<many)(G:GenI H0 H tp cs u hl k many us heads)(hk:k≤900)(hu:us.length≤100)
  (h:∀L' H' k' us',Nm L' tp u hl many i→GenI H0 H' tp cs u hl k' many us' heads→us'.length≤us.length+2→k'≤k+7→K .next ⟨L',H'⟩):wS HV (kP n c0) ⟨L,H⟩ K X:=by
 refine lx (cC (ag (ah nm.l164 (ag (au (al (js (n:=n+1) (l:=3) G.tape (bD hk (by decide)) (by decide) (by decide) fun H1 v hv t1 x1=>?_)))))))
 have G1:=G.draw t1 x1
 refine⟨rfl,ku (am (KN hv) (by decide)),aa rfl (cX (N:=v) (fun j L H'=>∃k' us',Nm L tp u hl many i∧GenI H0 H' tp cs u hl k' many us' heads∧us'.length≤us.length+j∧k'≤k+1+3*j) ⟨k+1,us,nm,G1,aR _,aR _⟩ ?_ ?_)⟩
 ·rintro j L H' K hj ⟨k',us',nm,G,lu,lk⟩ T
  refine sq (cK (cC (ag (ah nm.l164 (ag (au (al (js (n:=n+1) (l:=10) G.tape (bD (kb hk hv hj lk) (by decide)) (by decide) (by decide) fun H1 kd hkd t1 x1=>?_))))))))
  have G1:=G.draw t1 x1
  refine sq (cK (cC (ag (ah nm.l164 (ag (au (al (js (n:=n+1) (l:=1000) G1.tape (bD (Nat.add_le_add_right (kb hk hv hj lk) 1) (by decide)) (by decide) (by decide) fun H2 a zz t2 x2=>?_))))))))
  have G2:=G1.draw t2 x2
  obtain⟨as,ea,_,_⟩:=G2.un
  refine sq (gN (dE (ah nm.l42 (aa (cw ea) (ag (cC (ag (ah rfl (ag (ah rfl (ag (cC (ag (ah nm.l164 (ag (au (al (js (n:=n+1) (l:=1000) G2.tape (bD (Nat.add_le_add_right (kb hk hv hj lk) 2) (by decide)) (by decide) (by decide) fun H3 b zz t3 x3=>?_))))))))))))))))))
  have G3:=G2.draw t3 x3
  unfold lw
  refine ag (ah nm.l58 (al ?_))
  refine BL (n:=n+1) hkd m0 fun r ops hr uo l6=>?_
  obtain⟨as',ea',ln',G4⟩:=G3.unit hr uo l6
  exact aa (ay ea') (And.intro (bD (m:=100000) (by rewrite[Kf];refine ab ln' ?_;exact am lu (am (Nat.add_le_add hu (KN (Nat.lt_trans hj hv))) (by decide))) (by decide)) (T.go _ _ trivial ⟨k'+1+1+1,us'++[ops],⟨nm.l164,nm.l58,nm.l42,nm.l191,nm.l192⟩,G4,by refine ab Kl ?_;refine ab List.length_singleton ?_;exact dc lu,Nat.add_le_add_right lk 3⟩))
 ·rintro L H' ⟨k',us',nm,G,lu,lk⟩
  exact h L H' k' us' nm G (am lu (cS (Nat.le_of_lt_succ hv) _)) (am lk (cS (KQ 3 (Nat.le_of_lt_succ hv)) (k+1)))
end
end
section
theorem Am{α:Type}{f:α→V}{src:V}{all:List V}{Eb:V→St→(Option V→St→Prop)→Prop}{g:α→V}(P:Hp→Prop)(hs:∀H,P H→cV src all H):∀{l:List α} {acc:List V} {L:Lc} {H:Hp} {K:List V→St→Prop},
  P H→(∀v∈l,∀(L:Lc) (H:Hp) (K:Option V→St→Prop),P H→(∀L' H',P H'→K (some (g v)) ⟨L',H'⟩)→Eb (f v) ⟨L,H⟩ K)→acc.length+l.length≤100000→(∀L' H',P H'→K (acc++l.map g) ⟨L',H'⟩)→dB src all Eb (l.map f) acc ⟨L,H⟩ K:=by
 intro l
 induction l with
 |nil =>
  intro acc L H K p _ _ h
  have:=h L H p;replace this:=List.map_nil▸this;rw[Lm]at this;exact this
 |cons v l ih =>
  intro acc L H K p he hl h
  replace hl:=KS▸hl
  refine he v (.head _) _ _ _ p fun L' H' p'=>⟨bD (m:=100000) (am (KB _ _) hl) (by decide),hs H' p',ih p' (fun w hw=>he w (.tail _ hw)) ?_ fun L2 H2 p2=>?_⟩
  ·refine ab Kl ?_;refine(?_:acc.length+1+_≤_);rw[Nat.add_right_comm];exact hl
  ·have:=h L2 H2 p2
   refine ab (show acc++(some (g v)).toList++l.map g=acc++g v::l.map g from Ll acc [g v] _) ?_;exact this
theorem BI{c:Cx}{σ:St}{Q:V→St→Prop}{X:Nat→St→Prop}{elt it it2:PE}{x y:Nat}(h:wE it c σ (fun v σ=>c.hc=none∧aG (bP σ.H v) fun vs =>
   dg v vs (fun u acc τ K=>wE it2 c ⟨upd noL x u,τ.H⟩ (fun v2 τ1=>aG (bP τ1.H v2) fun vs2 =>
     dB v2 vs2 (fun u2 τ2 K2=>wE elt c ⟨upd τ2.L y u2,τ2.H⟩ (fun w τ3=>K2 (some w) ⟨τ3.L,τ3.H⟩) fX) vs2 acc τ1 fun acc' τ4=>K acc' ⟨τ.L,τ4.H⟩) fX)
    vs [] σ fun ws τ=>fresh τ (.list ws) Q) X):wE (.comp2 elt x it y it2) c σ Q X:=h
theorem Dl{src:V}{all:List V}{E:V→List V→St→(List V→St→Prop)→Prop}{v:V}{vs acc:List V}{σ:St}{K:List V→St→Prop}(h:E v acc σ fun acc' σ'=>cV src all σ'.H∧dg src all E vs acc' σ' K):dg src all E (v::vs) acc σ K:=h
theorem FV{c:Cx}{σ:St}{Q:V→St→Prop}{X:Nat→St→Prop}{k:Nat}{as:List PE}(h:wEs as c σ (EE Q X c k) X):wE (.new k as) c σ Q X:=h
theorem dW{L:Lc}{H:Hp}{Q:V→St→Prop}{v:V}(h:Q v ⟨L,H⟩):lw L Q v H:=h
section
variable {n:Nat} {H0 H:Hp} {u hl s c0:Nat} {us:List (List Op)} {heads:List Nat} {L:Lc} {Q:V→Hp→Prop} {E:Nat→Hp→Prop}
structure Dr(H:Hp)(u hl s c0:Nat)(as:List Nat)(us:List (List Op))(heads:List Nat):Prop where
 un:H u=some (.list (as.map .obj))
 ls:LsAt H as us
 hd:aN H hl heads
 cel:H c0=some (.cell (some (.obj s)))
theorem Dr.ext{H':Hp}{as:List Nat}(D:Dr H u hl s c0 as us heads)(x:Ext H H'):Dr H' u hl s c0 as us heads:=⟨x _ _ D.un,D.ls.map fun a zz ops e=>x _ _ e,x _ _ D.hd,x _ _ D.cel⟩
theorem u5{src:V}{all:List V}{ss:List Nat}{Hb:Hp}(hs:∀H,Ext Hb H→cV src all H)(hss:0<ss.length)(hc:Hb c0=some (.cell (some (.obj s))))(hst:aN Hb s ss):∀{as:List Nat} {us:List (List Op)} {acc:List V} {L:Lc} {H:Hp} {K:List V→St→Prop},
  Ext Hb H→LsAt Hb as us→acc.length+us.flatten.length≤100000→(∀H',Ext Hb H'→K (acc++us.flatten.map fun o=>(o.relabel fun l=>ss.getD (l%ss.length) 0).toV) ⟨L,H'⟩) →
  dg src all (fun u acc τ K=>wE (.loc 193) (kP n c0) ⟨upd noL 193 u,τ.H⟩ (fun v2 τ1=>aG (bP τ1.H v2) fun vs2 =>
     dB v2 vs2 (fun u2 τ2 K2=>wE (.callg 50 [.loc 11,.cel 189]) (kP n c0) ⟨upd τ2.L 11 u2,τ2.H⟩ (fun w τ3=>K2 (some w) ⟨τ3.L,τ3.H⟩) fX) vs2 acc τ1 fun acc' τ4=>K acc' ⟨τ.L,τ4.H⟩) fX) (as.map .obj) acc ⟨L,H⟩ K:=by
 intro as
 induction as with
 |nil =>
  intro us acc L H K x y hl h
  cases us with
  |nil =>
   have:=h H x;replace this:=List.flatten_nil▸this;replace this:=List.map_nil▸this;rw[Lm]at this;exact this
  |cons _ _=>exact y.elim
 |cons a as ih =>
  intro us acc L H K x y hl h
  cases us with
  |nil=>exact y.elim
  |cons v us =>
   replace hl:=List.flatten_cons▸hl;replace hl:=Kl▸hl
   refine Dl (v:=.obj a) (vs:=as.map .obj) ?_
   refine ah rfl (aa (aT (x _ _ y.1)) (Am (f:=Op.toV) (g:=fun o=>(o.relabel fun l=>ss.getD (l%ss.length) 0).toV) (Ext Hb) (fun H' z=>by exact z _ _ y.1) x (fun o zz L1 H1 K1 z hk=>?_) (am (cS (KB _ _) _) hl) fun L1 H1 z=>⟨hs H1 z,ih z y.2 (by refine ab Kl ?_;rw[Kf,Lf];exact hl) fun H2 z2=>?_⟩))
   ·exact cC (ag (ah rfl (ag (gX rfl (z _ _ hc) (al (u0 (n:=n+1) (z _ _ hst) hss fun H2 z2=>dW (hk _ H2 (z.trans z2))))))))
   ·have:=h H2 z2
    replace this:=List.flatten_cons▸this;replace this:=Li▸this
    rw[Ll];exact this
theorem Ao{as:List Nat}(D:Dr H u hl s c0 as us heads)(x:Ext H0 H)(e42:L 42=some (.obj u))(e191:L 191=some (.obj hl))(hst:aN H s (aP 0 us))(hu:0<us.length)(hlen:us.flatten.length≤1000)(hh:∀i∈heads,i<us.length)(hhl:heads.length≤1000)
  (hQ:∀H' r,Ext H0 H'→cB H' r (nn us heads)→Q (.obj r) H'):wSs (P51.drop 8) (kP n c0) ⟨L,H⟩ (fun fl σ'=>match fl with|.ret v=>Q v σ'.H|.next=>Q .none σ'.H|.cont=>False) fun k σ'=>E k σ'.H:=by
 have sl:(aP 0 us).length=us.length:=gY 0 us
 refine sq (cK (BI (ah e42 ⟨rfl,aa (aT D.un) (u5 (n:=n) (ss:=aP 0 us) (Hb:=H) (us:=us) (fun H' z=>by exact z _ _ D.un) (sl▸hu) D.cel hst (Ext.refl H) D.ls (by refine(?_:0+_≤_);rw[Nat.zero_add];exact am hlen (by decide)) fun H1 x1 r hr=>?_)⟩)))
 have eo:upd H1 r (.list ([]++us.flatten.map fun o=>(o.relabel fun l=>(aP 0 us).getD (l%(aP 0 us).length) 0).toV)) r=some (.list ((nn us heads).ops.map Op.toV)):=by
  rw[ai,List.nil_append]
  refine(?_:_=some (AO.list ((us.flatten.map (Op.relabel (ij us))).map Op.toV)))
  refine ab Lk ?_;refine ab sl ?_
  rfl
 have x2:Ext H (upd H1 r (.list ([]++us.flatten.map fun o=>(o.relabel fun l=>(aP 0 us).getD (l%(aP 0 us).length) 0).toV))):=x1.new hr _
 generalize upd H1 r (.list ([]++us.flatten.map fun o=>(o.relabel fun l=>(aP 0 us).getD (l%(aP 0 us).length) 0).toV))=H2 at eo x2
 have D2:=D.ext x2
 have st2:aN H2 s (aP 0 us):=x2 _ _ hst
 refine sq (bN (FV (ag (i9 (ah rfl (aa (aT eo) (ag (i9 (qF (ah e191 ⟨rfl,trivial,aa (aT D2.hd) (dN (f:=nV) (g:=fun i=>some (nV ((aP 0 us).getD i 0))) (by exact D2.hd) (fun i hi K hk=>?_) (am (bU (Nat.zero_add _)) (am hhl (aD rfl))) fun t ht=>?_)⟩))))))))))
 ·exact bB rfl (aE (gX rfl D2.cel (ah rfl (aa (gu st2 (iC (sl▸hh i hi))) hk))))
 ·refine aa (aT (ai _ _ _)) (al (aa rfl fun a ha=>?_))
  have eb:[]++heads.filterMap (fun i=>some (nV ((aP 0 us).getD i 0)))=(nn us heads).bg.map nV:=by
   rewrite[List.nil_append];refine ab (gC (f:=fun i=>nV ((aP 0 us).getD i 0)) fun zz zz=>rfl) ?_
   refine(?_:_=(heads.map _).map nV)
   refine ab Lk ?_;rfl
  rw[eb]at ha ⊢
  exact sL (n:=n+1) ha fun H3 x3 ca=>⟨rfl,hQ H3 a ((x.trans (x2.new ht _)).trans x3) ca⟩
theorem xR{as:List Nat}(D:Dr H u hl s c0 as us heads)(x:Ext H0 H)(fs:H0 s=none)(e42:L 42=some (.obj u))(e191:L 191=some (.obj hl))(hst:aN H s [])(hne:∀a∈as,a≠s)(hu:0<us.length)(hlen:us.flatten.length≤1000)(hul:us.length≤1000)(hh:∀i∈heads,i<us.length)(hhl:heads.length≤1000)
  (nus:u≠s∧hl≠s) (hQ:∀H' r,Ext H0 H'→cB H' r (nn us heads)→Q (.obj r) H'):wSs (P51.drop 6) (kP n c0) ⟨L,H⟩ (fun fl σ'=>match fl with|.ret v=>Q v σ'.H|.next=>Q .none σ'.H|.cont=>False) fun k σ'=>E k σ'.H:=by
 have ncs:c0≠s:=fun z=>by have:=D.cel;replace this:=z▸this;replace this:=hst▸this;cases this
 refine sq (cK (au (sq (lx (ah e42 ⟨rfl,trivial,aa (aT D.un) (kK (fun i L H'=>Ext H0 H'∧L 42=some (.obj u)∧L 191=some (.obj hl)∧Dr H' u hl s c0 as us heads∧aN H' s (aP 0 (us.take i))∧L 67=some (nV (us.take i).flatten.length)) ⟨x,e42,e191,D,hst,rfl⟩ ?_ ?_)⟩)))))
 ·rintro i v L H' K hv ⟨x,e42,e191,D,hst,e67⟩ T
  replace hv:=(Ko)▸hv
  obtain⟨a,ha,rfl⟩:=Kt.mp hv
  obtain⟨ops,ho,eo⟩:=D.ls.get ha
  have hlt:(aP 0 (us.take i)).length≤1000:=by rw[gY];exact am (List.take_sublist _ _).length_le hul
  have un:=af (o:=.list ((aP 0 (us.take i)).map nV++[nV (us.take i).flatten.length])) D.un nus.1
  have es:us.take (i+1)=us.take i++[ops]:=by refine ab List.take_add_one ?_;refine ab ho ?_;rfl
  refine sq (gN (dE (gX rfl D.cel (aa (cw hst) (ag (ah e67 (al (jx hst (by rw[Kf];exact am hlt (by decide)) (sq (cK (aZ (ah e67 (eg (ah rfl (aa (cy (af eo (hne a (mGe ha)))) (fU ?_))))))))))))))))
  refine T.go _ _ un ⟨x.set fs _,e42,e191,⟨un,D.ls.map fun b hb zz e=>af e (hne b hb),af D.hd nus.2,af D.cel ncs⟩,?_,?_⟩
  ·refine(ai _ _ _).trans (congrArg (fun l=>some (AO.list l)) ?_)
   refine ab es ?_;rewrite[lP,Nat.zero_add];refine ab Li ?_;rfl
  ·refine ab es ?_;refine ab List.flatten_append ?_;refine ab Kl ?_;refine ab List.flatten_singleton ?_;rfl
 ·rintro L H' ⟨x,e42,e191,D,hst,e67⟩
  rewrite[Kf]at hst;replace hst:=D.ls.len▸hst;replace hst:=K6▸hst
  exact Ao D x e42 e191 hst hu hlen hh hhl hQ
end
end
section
section
variable {n:Nat} {H:Hp} {tp cs:Nat} {Q:V→Hp→Prop} {E:Nat→Hp→Prop}
theorem DG{c:Cx}{σ:St}{K:Fl→St→Prop}{X:Nat→St→Prop}{x:Nat}{e:PE}(h:wE e c σ (Be K c x) X):wS (.asgc x e) c σ K X:=h
theorem vt(many i:Nat):UnitOk many [.one (.leave (i:Int))] :=
 ⟨fun z=>(nomatch z),⟨[],⟨rfl,fun zz=>rfl⟩,rfl⟩,fun zz zz z=>(nomatch mSng z),fun q z=>by cases mSng z;exact KL i,fun zz z=>(nomatch mSng z)⟩
theorem wr(many:Nat):UnitOk many [.one (.stop 176)] :=
 ⟨fun z=>(nomatch z),⟨[],⟨rfl,fun zz=>rfl⟩,rfl⟩,fun zz zz z=>(nomatch mSng z),fun zz z=>(nomatch mSng z),fun w z=>by cases mSng z;decide⟩
theorem xS{H0:Hp}{u hl k c0 many:Nat}{us:List (List Op)}{heads:List Nat}{L:Lc}(G:GenI H0 H tp cs u hl k many us heads)(hc:H c0=some (.cell none))(hm:heads.length=many)(hu:us.length≤20)(hh:many≤20)(e42:L 42=some (.obj u))(e191:L 191=some (.obj hl))
  (hQ:∀H' r c,(∀a o,a≠tp→a≠cs→a≠c0→H0 a=some o→H' a=some o)→cB H' r c→Well c→Sz c→Q (.obj r) H'):wSs (P51.drop 4) (kP n c0) ⟨L,H⟩ (fun fl σ'=>match fl with|.ret v=>Q v σ'.H|.next=>Q .none σ'.H|.cont=>False) fun k σ'=>E k σ'.H:=by
 obtain⟨as,ea,_,_⟩:=G.un
 refine sq (gN (dE (ah e42 (aa (cw ea) (ag (bW (ag (aW (ag (az (ag (az (al (al fun r hr=>al ?_))))))))))))))
 obtain⟨as',ea',ln',G1⟩:=G.unit (ops:=[.one (.stop 176)]) hr (wr many) (aD rfl)
 refine jx ea' (by rewrite[Kf];refine ab ln' ?_;exact am hu (by decide)) ?_
 refine(?_:wSs (P51.drop 5) (kP n c0) ⟨L,upd (upd H r (.list ([Op.one (.stop 176)].map Op.toV))) u (.list (as'.map .obj++[.obj r]))⟩ _ _)
 have hc1:upd (upd H r (.list ([Op.one (.stop 176)].map Op.toV))) u (.list (as'.map .obj++[.obj r])) c0=some (.cell none):=af (af hc (aj hc hr)) (fun z=>by replace hc:=z▸hc;replace hc:=ea▸hc;cases hc)
 obtain⟨as2,e1,e2,e3⟩:=G1.un
 have hd1:=G1.hd
 generalize upd (upd H r (.list ([Op.one (.stop 176)].map Op.toV))) u (.list (as'.map .obj++[.obj r]))=K at hc1 e1 e2 hd1 G1
 refine sq (DG (bW (al fun s hs=>?_)))
 have hs:K s=none:=hs
 have ns:∀{a:Nat} {o:AO},K a=some o→a≠s:=fun e=>aj e hs
 have nc:∀{a:Nat} {vs:List V},K a=some (.list vs)→a≠c0:=fun{a vs} e z=>by replace e:=z▸e;replace e:=hc1▸e;cases e
 have up:∀{a:Nat} {o:AO},K a=some o→a≠c0→upd (upd K s (.list [])) c0 (.cell (some (.obj s))) a=some o:=fun e n=>af (af e (ns e)) n
 have fl:(us++[[.one (.stop 176)]]:List (List Op)).flatten.length≤1000:=by
  have:=su (us:=us++[[.one (.stop 176)]]) fun v hv=>(G1.ok v hv).2
  replace this:=Kl▸this
  exact am this (am (KQ 6 (dc hu)) (by decide))
 refine gD (af hc1 (ns hc1)) (xR (n:=n) (H0:=fun a=>if a=c0 then none else K a) (u:=u) (hl:=hl) (s:=s) (c0:=c0) (us:=us++[[.one (.stop 176)]]) (heads:=heads) (as:=as2) ⟨up e1 (nc e1),e2.map fun a zz ops e=>up e (nc e),up hd1 (nc hd1),ai _ _ _⟩ (fun a o e=>?_) ?_ e42 e191 (af (ai _ _ _) (ns hc1).symm)
  (fun a ha z=>?_) (by refine ab Kl ?_;exact Nat.succ_pos _) fl (by refine ab Kl ?_;exact am (dc hu) (by decide)) (fun i hi=>by refine ab Kl ?_;exact Nat.lt_succ_of_le (G.hh i hi)) (by refine ab hm ?_;exact am hh (by decide)) ⟨ns e1,ns hd1⟩ fun H' q x ca=>?_)
 ·have e:(if a=c0 then none else K a)=some o:=e
  split at e
  ·injection e
  ·rename_i z;exact up e z
 ·refine(?_:(if s=c0 then none else K s)=none)
  split
  ·rfl
  ·exact hs
 ·have:∀{as:List Nat} {us:List (List Op)},LsAt K as us→a∈as→∃o,K a=some o:=fun{as}=>by
   induction as with
   |nil=>exact fun zz h=>nomatch h
   |cons b as ih =>
    intro us y h
    cases us with
    |nil=>exact y.elim
    |cons v us =>
     rcases mCo h with rfl|h
     ·exact⟨_,y.1⟩
     ·exact ih y.2 h
  obtain⟨o,e⟩:=this e2 ha
  exact ns e z
 ·refine hQ H' q _ (fun a o n1 n2 n3 e=>x a o ((Kg n3).trans (G1.old a o n1 n2 e))) ca (xQ (by decide) (fun v hv=>hm.symm▸(G.ok v hv).1) fun i hi=>Nat.lt_succ_of_le (G.hh i hi)) ⟨?_,?_⟩
  ·refine(?_:(List.map _ _).length≤1000)
   rw[Kf];exact fl
  ·refine(?_:(List.map _ _).length≤1000)
   rewrite[Kf];refine ab hm ?_;exact am hh (by decide)
theorem i4{i v:Nat}(hi:i<1+v)(hv:v<3):i≤3:=Nat.le_of_lt_succ (Kw hi (cS (KN hv) 1))
theorem vu(T:TapeAt H tp cs 0)(hQ:∀H' r c,Tp tp cs H H'→cB H' r c→Well c→Sz c→Q (.obj r) H'):Fn (n+3) 51 [.obj tp] H Q E:=by
 refine⟨bd rfl,iq fun c0 hc0=>?_⟩
 obtain⟨cells,q1,q2⟩:=T.cs
 have nt:tp≠c0∧cs≠c0:=⟨aj T.tp hc0,aj q2 hc0⟩
 have T0':TapeAt (upd H c0 (.cell none)) tp cs 0:=T.keep fun a o zz e=>af e (aj e hc0)
 have kc:upd H c0 (.cell none) c0=some (.cell none):=ai _ _ _
 have old:∀a o,a≠c0→H a=some o→upd H c0 (.cell none) a=some o:=fun a o n e=>af e n
 refine(?_:wSs P51 (kP n c0) ⟨_,upd H c0 (.cell none)⟩ _ _)
 generalize upd H c0 (.cell none)=H0 at T0' kc old
 refine sq (cK (aZ (au (cC (ag (ah rfl (ag (au (al (js (n:=n+1) (l:=3) T0' (by decide) (by decide) (by decide) fun H1 v hv t1 x1=>dW (fU ?_)))))))))))
 refine sq (cK (bW (al fun u hu=>sq (cK (bW (al fun hl hhl=>?_))))))
 obtain⟨hhl,nhu⟩:=bn hhl
 have hu:H1 u=none:=hu
 have hhl:H1 hl=none:=hhl
 obtain⟨cells1,r1,r2⟩:=t1.cs
 have f0:∀{a:Nat},H1 a=none→a≠tp→a≠cs→H0 a=none:=fun{a} e n1 n2=>by
  cases z:H0 a with
  |none=>rfl
  |some o=>have:=x1 a o n1 n2 z;replace e:=this▸e;injection e
 have nu:u≠tp∧u≠cs:=⟨(aj t1.tp hu).symm,(aj r2 hu).symm⟩
 have nh:hl≠tp∧hl≠cs:=⟨(aj t1.tp hhl).symm,(aj r2 hhl).symm⟩
 have G0:GenI H0 (upd (upd H1 u (.list [])) hl (.list [])) tp cs u hl 1 (1+v) [] [] :=
  ⟨t1.keep fun a o zz e=>af (af e (aj e hu)) (aj e hhl),fun a o n1 n2 e=>af (af (x1 a o n1 n2 e) (aj (x1 a o n1 n2 e) hu)) (aj (x1 a o n1 n2 e) hhl),⟨[],af (ai _ _ _) nhu.symm,trivial,fun zz h=>nomatch h⟩,ai _ _ _,fun zz h=>(nomatch h),fun zz h=>(nomatch h),f0 hu nu.1 nu.2,f0 hhl nh.1 nh.2,⟨nu.1,nu.2,nhu.symm⟩,nh⟩
 refine sq (lx (ah (v:=nV (1+v)) rfl ⟨rfl,ku (am (cS (KN hv) 1) (by decide)),aa rfl (cX (N:=1+v) (fun i L H'=>∃k us heads,L 164=some (.obj tp)∧L 58=some (nV (1+v))∧L 42=some (.obj u)∧L 191=some (.obj hl)∧GenI H0 H' tp cs u hl k (1+v) us heads∧heads.length=i∧us.length≤3*i∧k≤1+7*i)
  ⟨1,[],[],rfl,rfl,rfl,rfl,G0,rfl,aR 0,aR 1⟩ ?_ ?_)⟩))
 ·rintro i L H' K hi ⟨k,us,heads,e1,e2,e3,e4,G,g1,g2,g3⟩ TT
  obtain⟨as,ea,el,_⟩:=G.un
  have ln:rN H' (.obj u)=some (us.length:Int):=by refine ab (dq ea) ?_;rewrite[Kf];refine ab el.len ?_;rfl
  refine sq (gN (dE (ah e4 (aa (cw G.hd) (ag (eg (ah e3 (aa ln (al (jx G.hd (by rewrite[Kf];refine ab g1 ?_;exact am (i4 hi hv) (by decide)) ?_))))))))))
  refine sq (zT (n:=n) (i:=i) ⟨e1,e2,e3,e4,rfl⟩ (Kw Nat.zero_lt_one (KB 1 v)) G.head (am g3 (am (cS (KQ 7 (i4 hi hv)) 1) (by decide))) (am g2 (am (KQ 3 (i4 hi hv)) (by decide))) fun L2 H2 k2 us2 nm G2 h1 h2=>?_)
  obtain⟨as2,ea2,_,_⟩:=G2.un
  refine sq (gN (dE (ah nm.l42 (aa (cw ea2) (ag (bW (ag (aW (ag (az (ag (ah nm.l192 (al (al fun r hr=>al ?_))))))))))))))
  obtain⟨as3,ea3,ln3,G3⟩:=G2.unit (ops:=[.one (.leave (i:Int))]) hr (vt _ i) (aD rfl)
  exact jx ea3 (by rewrite[Kf];refine ab ln3 ?_;exact am h1 (am (Nat.add_le_add_right (am g2 (KQ 3 (i4 hi hv))) 2) (by decide))) (TT.go _ _ trivial ⟨k2,us2++[[Op.one (One.leave (i:Int))]],heads++[us.length],nm.l164,nm.l58,nm.l42,nm.l191,G3,by refine ab Kl ?_;refine ab g1 ?_;rfl,by refine ab Kl ?_;refine ab List.length_singleton ?_;exact am (dc h1) (Nat.add_le_add_right g2 3),am h2 (Nat.add_le_add_right g3 7)⟩)
 ·rintro L H' ⟨k,us,heads,e1,e2,e3,e4,G,g1,g2,g3⟩
  refine xS G (G.old c0 _ nt.1.symm nt.2.symm kc) g1 (am g2 (am (KQ 3 (cS (KN hv) 1)) (by decide))) (am (cS (KN hv) 1) (by decide)) e3 e4 fun H2 r c x ca w sz=>hQ H2 r c (fun a o n1 n2 e=>?_) ca w sz
  have n3:a≠c0:=aj e hc0
  exact x a o n1 n2 n3 (old a o n3 e)
end
end
section
theorem HC{o:Op}(h:([V.str 14,V.str 15,V.str 16,V.str 17,V.str 18,V.str 19,V.str 13].any fun v=>V.eqb v (.str o.code))=true):∃l:Option Nat,(∀H,bA H o.toV (.int (-1))=some (lV l))∧o.labels=l.toList:=by
 cases o with
 |rk r l=>cases r<;>exact⟨l,fun zz=>rfl,by cases l<;>rfl⟩
 |br b l=>cases b<;>exact⟨some l,fun zz=>rfl,rfl⟩
 |jump l=>exact⟨some l,fun zz=>rfl,rfl⟩
 |one o=>cases o<;>exact aC h
 |_=>exact aC h
theorem DJ{o:Op}(h:([V.str 14,V.str 15,V.str 16,V.str 17,V.str 18,V.str 19,V.str 13].any fun v=>V.eqb v (.str o.code))=false)(h1:(o.code==12)=false):o.labels=[]:=by
 cases o with
 |rk r l=>cases r<;>exact aC h.symm
 |br b l=>cases b<;>exact aC h.symm
 |jump l=>exact aC h.symm
 |choose a b=>exact aC h1.symm
 |_=>rfl
section
variable {n:Nat} {H:Hp} {Q:V→Hp→Prop} {E:Nat→Hp→Prop}
theorem rQ{o:Op}(h:∀r,H r=none→Q (.obj r) (upd H r (.list (o.labels.map nV)))):Fn (n+1) 53 [o.toV] H Q E:=by
 refine⟨bd rfl,sq (dQ (bx (bH (aE (ah rfl (au (aa (cW o) (az (aa rfl (aa rfl (aF (fun z=>?_) fun z=>aY ?_)))))))))))⟩
 ·obtain⟨a,b,rfl⟩:=kH z
  exact sq (bN (oa (aE (ah rfl (au (aa rfl (aa rfl fun r hr=>h r hr)))))))
 refine sq (dQ (i6 (cb (bx (bH (aE (ah rfl (au (aa (cW o) (aW (ag (az (ag (az (ag (az (ag (az (ag (az (ag (az (ag (az (al (aa rfl (aa rfl (bM (fun w=>?_) fun w=>aH w (aY (sq (bN (bW (al fun r hr=>?_)))))))))))))))))))))))))))))))))
 ·obtain⟨l,g1,g2⟩:=HC w
  rw[g2]at h
  refine cb (bx (bH (aE (ah rfl (eO ((aa (g1 _) (eO (?_)))))))))
  cases l with
  |none=>exact aa rfl (aa rfl (ez rfl (aH rfl (aY (sq (bN (bW (al fun r hr=>h r hr))))))))
  |some l=>exact aa rfl (aa rfl (iH rfl (qE (bB rfl (sq (bN (bW (ag (aE (ah rfl (eO ((aa (g1 _) (al fun r hr=>h r hr))))))))))))))
 ·rw[DJ w z]at h
  exact h r hr
noncomputable def Fk:Option Nat→V
 |some f=>nV f
 |none=>.int (-1)
theorem xj{a l:Nat}{ops:List Op}(ha:bV H a ops)(hb:ops.length≤1000)(W:∀o∈ops,∀l∈o.labels,l<ops.length)(hl:l<ops.length)(h:Q (Fk (bc none ops (ops.length+1) l)) H):Fn (n+1) 54 [.obj a,nV l] H Q E:=by
 refine⟨bd rfl,sq (lx (aZ (eg (ah rfl (aa (cy ha) (au (fU ⟨rfl,DV hb,cX (N:=ops.length+1) (fun i L H'=>H'=H∧L 6=some (.obj a)∧∃f,f<ops.length∧L 22=some (nV f)∧bc none ops (ops.length+1-i) f=bc none ops (ops.length+1) l) ⟨rfl,rfl,l,hl,rfl,rfl⟩ ?_ ?_⟩)))))))⟩
 ·rintro i L _ K hi ⟨rfl,e1,f,hf,e2,e3⟩ T
  have ho:ops[f]?=some ops[f]:=Kj hf
  generalize ops[f]=o at ho
  rw[qL hi,cp]at e3
  refine sq (dQ (bx (bH (aE (aE (ah e1 (ah e2 (aa (bt ha ho) (au (aa (cW o) (az (aa rfl (aa rfl (aF (fun z=>?_) fun z=>aY ?_))))))))))))))
  ·have z:(o.code==13)=false:=nT z
   have:bC none ops f=false:=by
    unfold bC;refine ab ho ?_
    cases o with
    |jump k=>injection z
    |br b k=>cases b<;>rfl
    |_=>rfl
   rw[this]at e3
   rw[← e3]at h
   exact sq (bN (ah e2 (T.ret _ _ h)))
  ·obtain⟨k,rfl⟩:=jm (nF z)
   have hp:bC none ops f=true:=by unfold bC;refine ab ho ?_;rfl
   have hk:fy ops f=k:=by unfold fy;refine ab ho ?_;rfl
   rw[Kh hp,hk]at e3
   exact sq (cK (aE (aE (ah e1 (ah e2 (aa (bt ha ho) (au (aa rfl (T.go _ _ trivial ⟨rfl,e1,k,W _ (mGe ho) k (.head _),rfl,e3⟩)))))))))
 ·rintro L _ ⟨rfl,e1,f,hf,e2,e3⟩
  rw[Nat.sub_self]at e3
  rw[← e3]at h
  exact sq (bN (eO (h)))
end
end
section
noncomputable def bQ(c:Cd)(p:Nat)(o:Op):List Nat:=o.labels++o.calls c.bg p
noncomputable def ir(p:Nat)(o:Op):List Nat:=if o.goesOn=true then [p+1]else []
structure NI(c:Cd)(ms ns es:List Nat):Prop where
 nd:ms.Nodup
 met:∀p∈ms,Met c p
 line:∀q∈ns,Met c q
 zero:0∈ms∨0∈ns
 next:∀p∈ms,∀o:Op,c.ops[p]?=some o→∀q∈behind c.bg p o,q∈ms∨q∈ns
 ent:∀p∈ms,∀o:Op,c.ops[p]?=some o→∀q,q∈bQ c p o→q∈es
theorem lO{c:Cd}(W:WF c){p q:Nat}{o:Op}(ho:c.ops[p]?=some o):q∈behind c.bg p o↔q∈bQ c p o++ir p o:=by
 unfold behind bQ ir
 cases o with
 |perform a b =>
  refine(?_:q∈[]++[p+1]++[c.bg.getD a 0]↔q∈[]++[c.bg.getD a 0,p+1]++[p+1])
  simp only[KD,List.mem_cons,Kr,false_or,or_false]
  exact⟨fun h=>h.elim .inr fun z=>.inl (.inl z),fun h=>h.elim (fun z=>z.elim .inr .inl) .inl⟩
 |_=>simp only[Op.calls,Lm]
theorem NI.skip{c:Cd}{ms ns es:List Nat}{q:Nat}(x:NI c ms (ns++[q]) es)(h:q∈ms):NI c ms ns es:=by
 have up:∀{p:Nat},p∈ms∨p∈ns++[q]→p∈ms∨p∈ns:=fun{p} z=>by
  rcases z with z|z
  ·exact .inl z
  ·rcases KD.mp z with z|z
   ·exact .inr z
   ·cases mSng z;exact .inl h
 exact⟨x.nd,x.met,fun p z=>x.line p (KA _ z),up x.zero,fun p hp o e r hr=>up (x.next p hp o e r hr),x.ent⟩
theorem NI.see{c:Cd}{ms ns es:List Nat}{q:Nat}{o:Op}(W:WF c)(x:NI c ms (ns++[q]) es)(h:¬ q∈ms)(ho:c.ops[q]?=some o):NI c (ms++[q]) (ns++bQ c q o++ir q o) (es++bQ c q o):=by
 have hq:Met c q:=x.line q (KG _ (.head _))
 have up:∀{p:Nat},p∈ms∨p∈ns++[q]→p∈ms++[q]∨p∈ns++bQ c q o++ir q o:=fun{p} z=>by
  rcases z with z|z
  ·exact .inl (KA _ z)
  ·rcases KD.mp z with z|z
   ·exact .inr (KA _ (KA _ z))
   ·exact .inl (KG _ z)
 refine⟨?_,fun p hp=>?_,fun p hp=>?_,up x.zero,fun p hp o' e r hr=>?_,fun p hp o' e r hr=>?_⟩
 ·refine List.nodup_append.mpr ⟨x.nd,List.nodup_cons.mpr ⟨(fun z=>nomatch z),List.nodup_nil⟩,fun a ha b hb z=>?_⟩
  cases mSng hb
  exact h (z▸ha)
 ·rcases KD.mp hp with hp|hp
  ·exact x.met p hp
  ·cases mSng hp;exact hq
 ·rw[Ll]at hp
  rcases KD.mp hp with hp|hp
  ·exact x.line p (KA _ hp)
  ·have:=(lO W ho).mpr hp
   exact .next hq ho this (pW W ho this)
 ·rcases KD.mp hp with hp|hp
  ·exact up (x.next p hp o' e r hr)
  ·cases mSng hp
   rw[ho]at e;replace e:=oInj e;subst e
   rw[Ll]
   exact .inr (KG _ ((lO W ho).mp hr))
 ·rcases KD.mp hp with hp|hp
  ·exact KA _ (x.ent p hp o' e r hr)
  ·cases mSng hp
   rw[ho]at e;replace e:=oInj e;subst e
   exact KG _ hr
theorem NI.all{c:Cd}{ms es:List Nat}(x:NI c ms [] es){p:Nat}(h:Met c p):p∈ms:=by
 induction h with
 |zero h=>exact x.zero.elim id fun z=>nomatch z
 |next h1 h2 h3 h4 ih=>exact(x.next _ ih _ h2 _ h3).elim id fun z=>nomatch z
theorem NI.len{c:Cd}{ms es:List Nat}(x:NI c ms [] es)(N:∀p,p<c.ops.length→Met c p):ms.length=c.ops.length:=by
 refine Nat.le_antisymm (mw x.nd fun p hp=>nj (x.met p hp)) ?_
 have:=List.nodup_range (n:=c.ops.length) |>.length_le_of_subset fun p hp=>x.all (N p (KZ.mp hp))
 rwa [KT]at this
theorem NI.entry{c:Cd}{ms es:List Nat}(x:NI c ms [] es)(N:∀p,p<c.ops.length→Met c p){p:Nat}(h:Ent c (p+1)):p+1∈es:=by
 rcases h with h|⟨i,o,e,h⟩
 ·injection h
 ·exact x.ent i (x.all (N i (Kk.mp e).1)) o e _ (KD.mpr h)
theorem rF(q:Nat):∀ms:List Nat,(ms.map nV).any (fun v=>V.eqb v (nV q))=decide (q∈ms)
 |[]=>rfl
 |d::ms=>by
  refine(?_:(V.eqb (nV d) (nV q)||(ms.map nV).any _)=_)
  refine ab (rF q ms) ?_;refine ab List.decide_mem_cons ?_
  congr 1
  refine(?_:((d:Int)==(q:Int))=(q==d))
  rewrite[oz];refine ab Bool.beq_comm ?_;rfl
theorem w5{H:Hp}{a q:Nat}{ms:List Nat}(e:aN H a ms):di H .isin (nV q) (.obj a)=some (decide (q∈ms)):=by
 refine(qq (aT e) rfl (fg _ _)).trans ?_
 rw[rF]
theorem w4{H:Hp}{a q:Nat}{ms:List Nat}(e:aN H a ms):di H .notin (nV q) (.obj a)=some (!decide (q∈ms)):=by
 exact nN _ (w5 e)
theorem l8(c:Cd)(p:Nat)(o:Op):(bQ c p o).length≤2:=by
 unfold bQ
 cases o with
 |rk r l=>cases l<;>exact aD rfl
 |_=>exact aD rfl
theorem Fj{H:Hp}{l:Nat}{x:Option Nat}(h:x=some l∨x=none):di H .notin (Fk x) (.tup [nV l,.int (-1)])=some false:=by
 rcases h with rfl|rfl
 ·refine(?_:some (!(((l:Int)==(l:Int))||_))=_)
  rw[Kq];rfl
 ·refine(?_:some (!(((l:Int)==(-1:Int))||(((-1:Int)==(-1:Int))||false)))=_)
  refine ab (show((-1:Int)==(-1:Int))=true from rfl) ?_;rw[Bool.true_or,Bool.or_true];rfl
theorem AU{o:Op}{c:Cd}{p:Nat}(h:(o.code==118)=false):bQ c p o=o.labels:=by
 unfold bQ
 cases o with
 |perform a b=>exact aC h.symm
 |_=>exact Lm _
theorem pJ(o:Op):(!([V.str 13,V.str 24].any fun v=>V.eqb v (.str o.code)))=o.goesOn:=by
 cases o with
 |rk r l=>cases r<;>rfl
 |br b l=>cases b<;>rfl
 |one o=>cases o<;>rfl
 |_=>rfl
end
section
section rules
variable {c:Cx} {σ:St} {L:Lc} {H:Hp} {Q:V→St→Prop} {K:Fl→St→Prop} {X:Nat→St→Prop}
theorem FE{a:Nat}{vs:List V}{v:V}(e:H a=some (.list vs))(h:vs.getLast?=some v)(k:Q v ⟨L,upd H a (.list vs.dropLast)⟩):jw c (.pop a) [] ⟨L,H⟩ Q X:=⟨rfl,aa (ay e) (aa h k)⟩
theorem FF{a b:Nat}{vs ws:List V}(e:H a=some (.list vs))(e2:H b=some (.list ws))(lt:vs.length+ws.length≤100000)(ne:b≠a)(k:Q .none ⟨L,upd H a (.list (vs++ws))⟩):jw c (.ext a) [.obj b] ⟨L,H⟩ Q X :=
 aa (ay e) (aa (ay e2) ⟨am lt (by decide),fun b' z=>by injection z with zi;subst zi;exact ne,k⟩)
theorem Bn{a b:Nat}{xs ys:List V}(e:σ.H a=some (.list xs))(e2:σ.H b=some (.list ys))(lt:xs.length+ys.length≤100000)(h:∀r,σ.H r=none→Q (.obj r) ⟨σ.L,upd σ.H r (.list (xs++ys))⟩):mE σ.H .add (.obj a) (.obj b) (mF σ Q) :=
 aa (ay e) (aa (ay e2) ⟨am lt (by decide),h⟩)
theorem DD(h:K .cont σ):wS .cont c σ K X:=h
end rules
noncomputable abbrev b55:List PS:=match at? Bq 2 with|.while_ _ b=>b|_=>[]
noncomputable abbrev kO(n:Nat):Cx:=bv T0 (AC T0 (n+2) false) (AC T0 (n+2) true) false [] F55.LN
section
variable {n:Nat} {H0 H:Hp} {L:Lc} {ca k m l e:Nat} {c:Cd} {ms ns es:List Nat} {K:Fl→St→Prop} {X:Nat→St→Prop}
theorem wm{q w:Nat}{o:Op}(W:WF c)(N:Neat c)(hlen:c.ops.length≤1000)(hm:H0 m=none)(hl:H0 l=none)(hml:m≠l)(ho:c.ops[q]?=some o)(x:Ext H0 H)
  (l80:L 80=some (.obj ca)) (l6:L 6=some (.obj k)) (l154:L 154=some (.obj m)) (l142:L 142=some (.obj l)) (l210:L 210=some (.obj e)) (l82:L 82=some (nV q)) (l211:L 211=some (.obj w))
  (ops:bV H k c.ops) (em:aN H m (ms++[q])) (el:aN H l ns) (ee:aN H e es) (ew:aN H w (bQ c q o)) (nkl:k≠l) (nwl:w≠l) (sz:ms.length≤1000∧ns.length≤10000∧es.length≤2*ms.length)
  (h:∀L' H' e',e'≠l→e'≠m→Ext H0 H'→L' 80=some (.obj ca)→L' 6=some (.obj k)→L' 154=some (.obj m)→L' 142=some (.obj l)→L' 210=some (.obj e')→bV H' k c.ops→aN H' m (ms++[q])→aN H' l (ns++bQ c q o++ir q o)→aN H' e' (es++bQ c q o)→K .next ⟨L',H'⟩) :
  wSs (b55.drop 5) (kO n) ⟨L,H⟩ K X:=by
 have wl:=l8 c q o
 refine sq (cK (aZ (ah l210 (ah l211 (Bn ee ew (by rw[Kf,Kf];exact am (Nat.add_le_add (am sz.2.2 (KQ 2 sz.1)) wl) (by decide)) fun r hr=>?_)))))
 refine bT Li ?_
 have hr:H r=none:=hr
 have ops:=af (o:=.list ((es++bQ c q o).map nV)) ops (aj ops hr)
 have em0:=em
 have em:=af (o:=.list ((es++bQ c q o).map nV)) em (aj em hr)
 have nrl:r≠l:=(aj el hr).symm
 have nrm:r≠m:=(aj em0 hr).symm
 have el:=af (o:=.list ((es++bQ c q o).map nV)) el (aj el hr)
 have ew:=af (o:=.list ((es++bQ c q o).map nV)) ew (aj ew hr)
 have er:aN (upd H r (.list ((es++bQ c q o).map nV))) r (es++bQ c q o):=ai _ _ _
 have x:=x.new hr (.list ((es++bQ c q o).map nV))
 generalize upd H r (.list ((es++bQ c q o).map nV))=H1 at ops em el ew er x
 refine sq (lx (ah (v:=.obj w) l211 ⟨rfl,trivial,aa (aT ew) (kK (fun i L' H'=>H'=H1∧∀j,j≠22→L' j=upd L 210 (.obj r) j) ⟨rfl,fun zz zz=>rfl⟩ ?_ ?_)⟩))
 ·rintro i v L' H' K' hv ⟨rfl,hL⟩ T
  rw[Ko]at hv
  obtain⟨p,hp,rfl⟩:=Kt.mp hv
  have hp:=mGe hp
  have go:=T.go (upd L' 22 (nV p)) H' ew ⟨rfl,fun j hj=>(aV hj).trans (hL j hj)⟩
  have k6:L' 6=some (.obj k):=(hL 6 (by decide)).trans l6
  have k82:L' 82=some (nV q):=(hL 82 (by decide)).trans l82
  refine sq (dQ (i6 (cb (bx (bH (aE (aE (ah k6 (ah k82 (aa (bt ops ho) (au (aa (cW o) (az (aa rfl (aa rfl (bM (fun z=>?_) fun z=>aH z (aY (aY go))))))))))))))))))
  have z:(o.code==118)=false:=nT z
  rw[AU z]at hp
  have mem:=mGe ho
  refine cb (bx (bH (cC (ag (ah k6 (ag (ah rfl (al (xj (n:=n+1) ops hlen W.lab (W.lab o mem p hp) (dW (aW (ag (ah rfl (ag (eO ((al (aa (Fj (N.lab o mem p hp)) (aa rfl (ez rfl (aH rfl (aY (aY go)))))))))))))))))))))))
 ·rintro L' H' ⟨rfl,hL⟩
  have k142:L' 142=some (.obj l):=(hL 142 (by decide)).trans l142
  have k211:L' 211=some (.obj w):=(hL 211 (by decide)).trans l211
  have k82:L' 82=some (nV q):=(hL 82 (by decide)).trans l82
  have k6:L' 6=some (.obj k):=(hL 6 (by decide)).trans l6
  refine sq (gN (dE (ah k142 (aa (cR el) (ag (ah k211 (al (FF el ew (by rw[Kf,Kf];exact am (Nat.add_le_add sz.2.1 wl) (by decide)) nwl ?_))))))))
  refine bT Li ?_
  have ops:=af (o:=.list ((ns++bQ c q o).map nV)) ops nkl
  have em:=af (o:=.list ((ns++bQ c q o).map nV)) em hml
  have er:=af (o:=.list ((ns++bQ c q o).map nV)) er nrl
  have el:aN (upd H' l (.list ((ns++bQ c q o).map nV))) l (ns++bQ c q o):=ai _ _ _
  have x:=x.set hl (.list ((ns++bQ c q o).map nV))
  generalize upd H' l (.list ((ns++bQ c q o).map nV))=H2 at ops em er el x
  have fin:∀H3,Ext H0 H3→bV H3 k c.ops→aN H3 m (ms++[q])→aN H3 l (ns++bQ c q o++ir q o)→aN H3 r (es++bQ c q o)→K .next ⟨L',H3⟩:=fun H3 x ops em el er =>
   h L' H3 r nrl nrm x ((hL 80 (by decide)).trans l80) k6 ((hL 154 (by decide)).trans l154) k142 ((hL 210 (by decide)).trans rfl) ops em el er
  refine sq (dQ (bx (bH (aE (aE (ah k6 (ah k82 (aa (bt ops ho) (au (aa (cW o) (aW (ag (az (ag (az (al (aa rfl (aa rfl (aF (fun z=>?_) fun z=>aY (aY ?_))))))))))))))))))))
  ·have z:o.goesOn=true:=(pJ o).symm.trans z
   refine sq (gN (dE (ah k142 (aa (cw el) (ag (aZ (ah k82 (au (fU (al (jx el (by rewrite[Kf];refine ab Kl ?_;exact am (Nat.add_le_add sz.2.1 wl) (by decide)) (aY (aY (fin _ (x.set hl _) (af ops nkl) (af em hml) ?_ (af er nrl)))))))))))))))
   unfold ir
   refine ab (Kh z) ?_
   exact(ai _ _ _).trans (congrArg (fun l=>some (AO.list l)) (iN (q+1)))
  ·have z:o.goesOn=false:=(pJ o).symm.trans z
   have hn:ir q o=[]:=Kg (ch z)
   exact fin H2 x ops em (by refine ab hn ?_;rw[Lm];exact el) er
end
end
section
section
variable {n:Nat} {H0 H:Hp} {L:Lc} {ca k m l:Nat} {c:Cd} {K:Fl→St→Prop} {X:Nat→St→Prop}
theorem BH{cx:Cx}{σ:St}{t:PE}{b:List PS}(h:cx.hc=none∧qC (fun τ K=>wT t (fun Q=>wE t cx τ Q X) cx τ K X) (fun τ K=>wSs b cx τ K X) σ K):wS (.while_ t b) cx σ K X:=h
theorem tO{Q:Fl→St→Prop}{I:Nat→Lc→Hp→Prop}{j i:Nat}{L:Lc}{H:Hp}(h:i<j)(k:I i L H):AI Q I j .next ⟨L,H⟩:=⟨i,h,k⟩
theorem BD{Q:Fl→St→Prop}{I:Nat→Lc→Hp→Prop}{j i:Nat}{L:Lc}{H:Hp}(h:i<j)(k:I i L H):AI Q I j .cont ⟨L,H⟩:=⟨i,h,k⟩
structure NS(c:Cd)(ca k m l:Nat)(H0:Hp)(L:Lc)(H:Hp)(e:Nat)(ms ns es:List Nat):Prop where
 ext:Ext H0 H
 l80:L 80=some (.obj ca)
 l6:L 6=some (.obj k)
 l154:L 154=some (.obj m)
 l142:L 142=some (.obj l)
 l210:L 210=some (.obj e)
 ops:bV H k c.ops
 em:aN H m ms
 el:aN H l ns
 ee:aN H e es
 ni:NI c ms ns es
 les:es.length≤2*ms.length
 nel:e≠l
 nem:e≠m
noncomputable def NM(c:Cd)(ms ns:List Nat):Nat:=6*(c.ops.length-ms.length)+ns.length
theorem Ck{L M N w o:Nat}(h:M+1≤L)(hw:w≤2)(ho:o≤1):6*(L-(M+1))+(N+w+o)<6*(L-M)+(N+1):=by
 rw[show L-M=L-(M+1)+1 from (Nat.succ_pred_eq_of_pos (Nat.sub_pos_of_lt h)).symm,Nat.mul_succ,Lf _ 6,Lg 6]
 exact Nat.add_lt_add_left (bD (Nat.add_le_add (cS hw N) ho) (Nat.add_lt_add_left (show 3<7 by decide) N)) _
theorem BG(W:WF c)(N:Neat c)(hlen:c.ops.length≤1000)(hm:H0 m=none)(hl:H0 l=none)(hml:m≠l)(nkl:k≠l)(nkm:k≠m)(hca:cB H0 ca c){e:Nat}(h0:NS c ca k m l H0 L H e [] [0] [])
  (hK:∀L' H' e' ms es,NS c ca k m l H0 L' H' e' ms [] es→K .next ⟨L',H'⟩):wS (at? Bq 2) (kO n) ⟨L,H⟩ K X:=by
 refine BH ⟨rfl,hX (fun j L H'=>j≤6100∧∃e ms ns es,j=NM c ms ns∧NS c ca k m l H0 L H' e ms ns es) (NM c [] [0]) ⟨?_,e,[],[0],[],rfl,h0⟩ ?_⟩
 ·exact am (dc (KQ 6 hlen)) (by decide)
 rintro j L H' ⟨hj,e,ms,ns,es,rfl,S⟩
 refine bx (bH (ah S.l142 (bW (al fun t ht=>?_))))
 have S1:NS c ca k m l H0 L (upd H' t (.list [])) e ms ns es :=
  ⟨S.ext.new ht _,S.l80,S.l6,S.l154,S.l142,S.l210,af S.ops (aj S.ops ht),af S.em (aj S.em ht),af S.el (aj S.el ht),af S.ee (aj S.ee ht),S.ni,S.les,S.nel,S.nem⟩
 refine aa (rE S1.el (fg ns 20) (ai _ _ _)) (aa rfl ?_)
 rw[i0]
 refine(?_:br (!ns.isEmpty) (wSs b55 (kO n) ⟨L,upd H' t (.list [])⟩ _ _) _)
 generalize upd H' t (.list [])=H1 at S1
 clear S ht
 refine aF (fun z=>?_) fun z=>?_
 ·obtain⟨ns,q,rfl⟩:=kG (nT z)
  have hq:=S1.ni.line q (KG _ (.head _))
  have lt:=nj hq
  have ho:c.ops[q]?=some c.ops[q]:=Kj lt
  generalize c.ops[q]=o at ho
  have hns:NM c ms (ns++[q])=6*(c.ops.length-ms.length)+(ns.length+1):=by unfold NM;rw[Kl];rfl
  rw[hns]at hj
  refine sq (cK (dE (ah S1.l142 (aa (cR S1.el) (al (FE S1.el (fM ns q) ?_))))))
  rw[ka]
  have ops:=af (o:=.list (ns.map nV)) S1.ops nkl
  have em:=af (o:=.list (ns.map nV)) S1.em hml
  have ee:=af (o:=.list (ns.map nV)) S1.ee S1.nel
  have el:aN (upd H1 l (.list (ns.map nV))) l ns:=ai _ _ _
  have x:=S1.ext.set hl (.list (ns.map nV))
  generalize upd H1 l (.list (ns.map nV))=H2 at ops em ee el x
  refine sq (dQ (bx (bH (ah rfl (ah S1.l154 (aa (w5 em) (aa rfl (aF (fun y=>?_) fun y=>aY ?_))))))))
  ·have y:q∈ms:=Kn y
   refine sq (DD (BD (i:=NM c ms ns) (by rw[hns];exact La _) ⟨Nat.le_of_succ_le hj,e,ms,ns,es,rfl,⟨x,S1.l80,S1.l6,S1.l154,S1.l142,S1.l210,ops,em,el,ee,S1.ni.skip y,S1.les,S1.nel,S1.nem⟩⟩))
  ·have y:¬ q∈ms:=of_decide_eq_false y
   have ni:=S1.ni.see W y ho
   have msl:ms.length+1≤c.ops.length:=by
    have:=mw ni.nd fun p hp=>nj (ni.met p hp)
    rwa [Kl]at this
   refine sq (gN (dE (ah S1.l154 (aa (cw em) (ag (ah rfl (al (jx em (by rw[Kf];exact am (Nat.le_of_succ_le msl) (am hlen (by decide))) ?_))))))))
   rw[iN]
   have ops:=af (o:=.list ((ms++[q]).map nV)) ops nkm
   have ee:=af (o:=.list ((ms++[q]).map nV)) ee S1.nem
   have el:=af (o:=.list ((ms++[q]).map nV)) el hml.symm
   have em:aN (upd H2 m (.list ((ms++[q]).map nV))) m (ms++[q]):=ai _ _ _
   have x:=x.set hm (.list ((ms++[q]).map nV))
   generalize upd H2 m (.list ((ms++[q]).map nV))=H3 at ops em ee el x
   have nm_lt:NM c (ms++[q]) (ns++bQ c q o++ir q o)<NM c ms (ns++[q]):=by
    rw[hns]
    unfold NM
    rw[Kl,Kl,Kl,List.length_singleton]
    have wl:=l8 c q o
    have ol:(ir q o).length≤1:=by unfold ir;split<;>exact aD rfl
    exact Ck msl wl ol
   have les':(es++bQ c q o).length≤2*(ms++[q]).length:=by
    have wl:=l8 c q o
    rw[Kl,Kl]
    have:=S1.les
    exact Nat.add_le_add this wl
   have fin:∀(L3:Lc) (H4:Hp) (w:Nat),Ext H0 H4→L3 80=some (.obj ca)→L3 6=some (.obj k)→L3 154=some (.obj m)→L3 142=some (.obj l)→L3 210=some (.obj e)→L3 82=some (nV q)→L3 211=some (.obj w)→bV H4 k c.ops→aN H4 m (ms++[q])→aN H4 l ns→aN H4 e es→aN H4 w (bQ c q o)→w≠l→∀KK:Fl→St→Prop,
     (∀L5 H5,(∃j,j<NM c ms (ns++[q])∧j≤6100∧∃e ms ns es,j=NM c ms ns∧NS c ca k m l H0 L5 H5 e ms ns es)→KK .next ⟨L5,H5⟩)→wSs (b55.drop 5) (kO n) ⟨L3,H4⟩ KK X:=fun L3 H4 w x l80 l6 l154 l142 l210 l82 l211 ops em el ee ew nwl KK hKK =>
    wm W N hlen hm hl hml ho x l80 l6 l154 l142 l210 l82 l211 ops em el ee ew nkl nwl ⟨am (Nat.le_of_succ_le msl) hlen,am (am (Nat.le_succ _) (am (Nat.le_add_left _ _) hj)) (by decide),S1.les⟩ fun L5 H5 e5 n1 n2 x5 a1 a2 a3 a4 a5 o5 m5 l5 e5'=>hKK L5 H5 ⟨_,nm_lt,am (KN nm_lt) (by rw[hns];exact hj),e5,_,_,_,rfl,⟨x5,a1,a2,a3,a4,a5,o5,m5,l5,e5',ni,les',n1,n2⟩⟩
   refine(?_:wSs (b55.drop 3) (kO n) ⟨upd L 82 (nV q),H3⟩ _ _)
   refine sq (cK (cC (ag (aE (ah S1.l6 (ah rfl (aa (bt ops ho) (al (rQ (n:=n+1) fun w hw=>dW ?_)))))))))
   have hw:H3 w=none:=hw
   have ops:=af (o:=.list (o.labels.map nV)) ops (aj ops hw)
   have nwl:w≠l:=(aj el hw).symm
   have ee:=af (o:=.list (o.labels.map nV)) ee (aj ee hw)
   have el:=af (o:=.list (o.labels.map nV)) el (aj el hw)
   have em:=af (o:=.list (o.labels.map nV)) em (aj em hw)
   have x:=x.new hw (.list (o.labels.map nV))
   have ew:aN (upd H3 w (.list (o.labels.map nV))) w o.labels:=ai _ _ _
   generalize upd H3 w (.list (o.labels.map nV))=H4 at ops em ee el x ew
   refine sq (dQ (bx (bH (aE (aE (ah S1.l6 (ah rfl (aa (bt ops ho) (au (aa (cW o) (az (aa rfl (aa rfl (aF (fun z=>?_) fun z=>aY ?_))))))))))))))
   ·obtain⟨a,b,rfl⟩:=fE z
    have hp:=W.per a b (mGe ho)
    refine sq (cK (aZ (ah rfl (bW (ag (aE (ja (ah S1.l80 (aa (oQ (x _ _ hca)) (aE (aE (ah S1.l6 (ah rfl (aa (bt ops ho) (au (aa rfl (aa (tT hp) (ag (aZ (ah rfl (au (fU (al fun t ht=>?_)))))))))))))))))))))))
    have ht:H4 t=none:=ht
    have ops:=af (o:=.list [nV (c.bg.getD a 0),nV (q+1)]) ops (aj ops ht)
    have ee:=af (o:=.list [nV (c.bg.getD a 0),nV (q+1)]) ee (aj ee ht)
    have el:=af (o:=.list [nV (c.bg.getD a 0),nV (q+1)]) el (aj el ht)
    have em:=af (o:=.list [nV (c.bg.getD a 0),nV (q+1)]) em (aj em ht)
    have ew:=af (o:=.list [nV (c.bg.getD a 0),nV (q+1)]) ew (aj ew ht)
    have et:aN (upd H4 t (.list [nV (c.bg.getD a 0),nV (q+1)])) t [c.bg.getD a 0,q+1]:=ai _ _ _
    have x:=x.new ht (.list [nV (c.bg.getD a 0),nV (q+1)])
    refine Bn ew et (aD rfl) fun u hu=>aY ?_
    have hu:upd H4 t (.list [nV (c.bg.getD a 0),nV (q+1)]) u=none:=hu
    refine fin (upd (upd (upd L 82 (nV q)) 211 (.obj w)) 211 (.obj u)) _ u (x.new hu _) S1.l80 S1.l6 S1.l154 S1.l142 S1.l210 rfl rfl (af ops (aj ops hu)) (af em (aj em hu)) (af el (aj el hu)) (af ee (aj ee hu)) (ai _ _ _) (aj el hu).symm _ fun L5 H5 h=>?_
    obtain⟨j,j1,j2,h⟩:=h
    exact tO j1 ⟨j2,h⟩
   ·refine fin (upd (upd L 82 (nV q)) 211 (.obj w)) H4 w x S1.l80 S1.l6 S1.l154 S1.l142 S1.l210 rfl rfl ops em el ee (by rw[AU z];exact ew) nwl _ fun L5 H5 h=>?_
    obtain⟨j,j1,j2,h⟩:=h
    exact tO j1 ⟨j2,h⟩
 ·have:ns=[]:=List.isEmpty_iff.mp (nF z)
  subst this
  exact hK L H1 e ms es S1
end
end
section
section rules
variable {c:Cx} {σ:St} {Q:V→St→Prop} {X:Nat→St→Prop}
theorem DE{o1 o2:CO}{x y z:PE}(h:wE x c σ (Hr Q X o1 o2 (wE y c) (wE z c)) X):wE (.cmp2 o1 o2 x y z) c σ Q X:=h
theorem By{W:(V→St→Prop)→Prop}{Q:Bool→St→Prop}{o1 o2:CO}{x y z:PE}(h:W (A7 Q)):wT (.cmp2 o1 o2 x y z) W c σ Q X:=h
theorem qh{e:PE}{lo hi:Option PE}(h:wE e c σ (Ev Q X (wO lo c) (wO hi c)) X):wE (.slc e lo hi) c σ Q X:=h
theorem n8{Q:Option V→St→Prop}(h:Q none σ):wO none c σ Q X:=h
theorem i8{Q:Option V→St→Prop}{e:PE}(h:wE e c σ (A8 Q) X):wO (some e) c σ Q X:=h
end rules
theorem yL(o:Op):V.flat o.snd 19=true:=by
 cases o with
 |rk r l=>cases r with
  |push q=>cases q<;>rfl
  |«calc» s=>rfl
 |br b l=>cases b with
  |test d=>cases d<;>rfl
  |_=>rfl
 |one o=>cases o<;>rfl
 |_=>rfl
theorem Cc{H:Hp}(o p:Op):di H .eq (.tup [.str p.code,p.snd]) (.tup [.str o.code,o.snd])=some (p.code==o.code&&V.eqb p.snd o.snd):=by
 have f:∀q:Op,V.flat (.tup [.str q.code,q.snd]) 20=true:=fun q=>(Bool.and_true _).trans (yL ..)
 refine(iE (mB rfl (f p) (f o))).trans ?_
 refine(?_:some (_&&(_&&true))=_)
 rw[Bool.and_true];rfl
noncomputable def ev(ops:List Op)(i:Nat):List Op:=(ops.take (i+3)).drop i
theorem hO{ops:List Op}{i j:Nat}(h:j<3):(ev ops i)[j]?=ops[i+j]?:=by
 unfold ev
 refine ab (List.getElem?_drop) ?_;refine ab (List.getElem?_take_of_lt (Nat.add_lt_add_left h i)) ?_;rfl
theorem BZ{ops:List Op}{i:Nat}:(ev ops i).length≤3:=by
 unfold ev
 refine ab K8 ?_;refine ab List.length_take ?_
 exact Nat.sub_le_of_le_add (am (Nat.min_le_left _ _) (bU (Lg _ _)))
theorem wy{ops:List Op}{i:Nat}(h:i<ops.length):jD (ops.map Op.toV) (some (nV i)) (some (.int ((i:Int)+3)))=some ((ev ops i).map Op.toV):=by
 unfold ev
 refine(?_:some (((ops.map Op.toV).take (PySem.clipAt (ops.map Op.toV).length ((i+3:Nat):Int))).drop (PySem.clipAt (ops.map Op.toV).length (i:Int)))=_)
 rewrite[clip_of,clip_of,Kf];refine ab (Nat.min_eq_left (KN h)) ?_;refine ab List.map_drop ?_;refine ab List.map_take ?_
 congr 2
 rcases Nat.le_total (i+3) ops.length with z|z
 ·refine ab (Nat.min_eq_left z) ?_;rfl
 ·refine ab (Nat.min_eq_right z) ?_;refine ab (List.take_of_length_le (bU (Kf _))) ?_;refine ab (List.take_of_length_le (by rw[Kf];exact z)) ?_;rfl
noncomputable def Opd.kind:Opd→Nat
 |.num _ _=>96
 |.ref _=>170
theorem D0{H:Hp}(q:Opd):bA H q.toV (.int 0)=some (.str q.kind):=by cases q<;>rfl
theorem An{H:Hp}{a b:Nat}{l:List Op}(ha:H a=some (.list (l.map fun o=>V.str o.code)))(hb:H b=some (.list [.str 14,.str 14,.str 15])):∃t,di H .eq (.obj a) (.obj b)=some t∧(t=true→∃q1 l1 q2 l2 s l3,l=[.rk (.push q1) l1,.rk (.push q2) l2,.rk (.calc s) l3]):=by
 refine⟨V.eqbs (l.map fun o=>V.str o.code) [.str 14,.str 14,.str 15],?_,fun h=>?_⟩
 ·exact iE (j0 (ay ha) (ay hb) (cJ (f:=fun o:Op=>V.str o.code) (fun zz=>rfl) l) rfl)
 ·match l,h with
  |[],h=>exact aC h
  |[_],h=>exact aC ((Bool.and_false _).symm.trans h)
  |[_,_],h=>exact aC (((congrArg (V.eqb _ _&&·) (Bool.and_false _)).trans (Bool.and_false _)).symm.trans h)
  |o1::o2::o3::r,h =>
   have h:((o1.code==14)&&((o2.code==14)&&((o3.code==15)&&V.eqbs (r.map fun o:Op=>V.str o.code) [])))=true:=h
   have h1:=nQ h
   have h':=uG h
   have h2:=nQ h'
   have h'':=uG h'
   obtain⟨q1,l1,rfl⟩:=oF h1
   obtain⟨q2,l2,rfl⟩:=oF h2
   obtain⟨s,l3,rfl⟩:=lD (nQ h'')
   cases r with
   |nil=>exact⟨q1,l1,q2,l2,s,l3,rfl⟩
   |cons o r=>exact aC (uG h'')
section
variable {n:Nat} {H0 H:Hp} {L:Lc} {ca k m l e:Nat} {c:Cd} {ms es:List Nat} {K:Fl→St→Prop} {X:Nat→St→Prop}
noncomputable abbrev b55f:List PS:=match at? Bq 4 with|.for_ _ _ _ _ b=>b|_=>[]
theorem BM{i:Nat}(N:Neat c)(hi:i<c.ops.length)(hes:∀p,Ent c (p+1)→p+1∈es)(l6:L 6=some (.obj k))(l82:L 82=some (nV i))(l210:L 210=some (.obj e))(ops:bV H k c.ops)(ee:aN H e es)
  (h:∀L' H',Ext H H'→(∀j,j≠186→L' j=L j)→K .next ⟨L',H'⟩):wSs b55f (kO n) ⟨L,H⟩ K X:=by
 have ho:c.ops[i]?=some c.ops[i]:=Kj hi
 generalize c.ops[i]=o at ho
 have last:∀{L1:Lc} {H1:Hp} {r:Nat},Ext H H1→(∀j,j≠186→L1 j=L j)→L1 186=some (.obj r)→bV H1 r (ev c.ops i)→wSs (b55f.drop 3) (kO n) ⟨L1,H1⟩ K X:=fun{L1 H1 r} x hL l186 er=>by
  refine sq (dQ (i6 (cb (bx (bH (qF (ah l186 ⟨rfl,trivial,aa (aT er) (dN (f:=Op.toV) (g:=fun o=>some (.str o.code)) (by exact er) (fun o zz KK hk=>bB rfl (aE (ah rfl (au (aa (cW o) hk))))) (am (bU (Nat.zero_add _)) (am BZ (by decide))) fun a ha=>?_)⟩)))))))
  refine ab (show([]:List V)++(ev c.ops i).filterMap (fun o=>some (V.str o.code))=(ev c.ops i).map fun o=>V.str o.code from gC fun zz zz=>rfl) ?_
  have ha:H1 a=none:=ha
  refine bW (ag (az (ag (az (ag (az (al fun b hb=>?_)))))))
  have hb:upd H1 a (.list ((ev c.ops i).map fun o=>V.str o.code)) b=none:=hb
  have ea:=af (o:=.list [.str 14,.str 14,.str 15]) (ai H1 a (.list ((ev c.ops i).map fun o=>V.str o.code))) (aj (ai _ _ _) hb)
  have eb:=ai (upd H1 a (.list ((ev c.ops i).map fun o=>V.str o.code))) b (.list [.str 14,.str 14,.str 15])
  have er2:=af (o:=.list [.str 14,.str 14,.str 15]) (af (o:=.list ((ev c.ops i).map fun o=>V.str o.code)) er (aj er ha)) (aj (af er (aj er ha)) hb)
  have x2:=(x.new ha (.list ((ev c.ops i).map fun o=>V.str o.code))).new hb (.list [.str 14,.str 14,.str 15])
  obtain⟨t,e1,e2⟩:=An ea eb
  refine aa e1 (aa rfl (bM (fun z=>?_) fun z=>aH z (aY (aY (h _ _ x2 hL)))))
  obtain⟨q1,l1,q2,l2,s,l3,er3⟩:=e2 z
  have er2:=er2.trans (congrArg (fun l=>some (AO.list (l.map Op.toV))) er3)
  have g0:=bt (l:=0) er2 rfl
  have g1:=bt (l:=1) er2 rfl
  have g2:=bt (l:=2) er2 rfl
  refine cb (By (DE (aE (aE (aE (ah l186 (au (aa g0 (au (aa rfl (au (aa (D0 q1) (az (aa rfl (aF (fun y1=>?_) fun y1=>aa rfl (ez rfl (aH rfl (aY (aY (h _ _ x2 hL))))))))))))))))))))
  refine aE (aE (aE (ah l186 (au (aa g1 (au (aa rfl (au (aa (D0 q2) (aa rfl (aa rfl (bM (fun y2=>?_) fun y2=>aH y2 (aY (aY (h _ _ x2 hL)))))))))))))))
  refine cb (bx (bH (aE (aE (ah l186 (au (aa g2 (au (aa (a:=.str s) rfl (az (aa rfl (aa rfl (bM (fun y3=>?_) fun y3=>aH y3 (aY (aY (h _ _ x2 hL))))))))))))))))
  refine(?_:False).elim
  have k0:c.ops[i]?=some (.rk (.push q1) l1):=(hO (j:=0) (by decide)).symm.trans (by refine ab er3 ?_;rfl)
  have k1:c.ops[i+1]?=some (.rk (.push q2) l2):=(hO (j:=1) (by decide)).symm.trans (by refine ab er3 ?_;rfl)
  have k2:c.ops[i+2]?=some (.rk (.calc s) l3):=(hO (j:=2) (by decide)).symm.trans (by refine ab er3 ?_;rfl)
  cases q1 with
  |ref y=>exact aC (show(170==96)=true from y1)
  |num u v =>
   cases q2 with
   |ref y=>exact aC (show(96==170)=true from y2)
   |num u' v' =>
    cases Ki (show(s==90)=true from y3)
    exact N.sum i (u,v) (u',v') l1 l2 l3 k0 k1 k2
 have rest:wSs (b55f.drop 1) (kO n) ⟨L,H⟩ K X:=by
  refine sq (cK (qh (ah l6 (i8 (ah l82 (i8 (aZ (ah l82 (au (fU (aa (aT ops) (aa (wy hi) fun r hr=>?_))))))))))))
  have hr:H r=none:=hr
  have x:=(Ext.refl H).new hr (.list ((ev c.ops i).map Op.toV))
  have er:bV (upd H r (.list ((ev c.ops i).map Op.toV))) r (ev c.ops i):=ai _ _ _
  have ee:=af (o:=.list ((ev c.ops i).map Op.toV)) ee (aj ee hr)
  have hL:∀j,j≠186→upd L 186 (.obj r) j=L j:=fun j hj=>aV hj
  have g0:bA (upd H r (.list ((ev c.ops i).map Op.toV))) (.obj r) (.int 0)=some o.toV:=bt (l:=0) er ((hO (by decide)).trans ho)
  refine sq (dQ (i6 (cb (bx (bH (eg (ah rfl (aa (cy er) (au (aa rfl (aa rfl (bM (fun z1=>?_) fun z1=>aH z1 (aY (last x hL rfl er))))))))))))))
  have l1:1<(ev c.ops i).length:=Int.ofNat_lt.mp (Kn z1)
  refine cb (bx (bH (aZ (ah l82 (au (fU (ah l210 (aa (w4 (q:=i+1) ee) (aa rfl (bM (fun z2=>?_) fun z2=>aH z2 (aY (last x hL rfl er))))))))))))
  refine cb (bx (bH (aE (aE (ah rfl (au (aa g0 (au (aa (cW o) (az (aa rfl (aa rfl (bM (fun z3=>?_) fun z3=>aH z3 (aY (last x hL rfl er)))))))))))))))
  obtain⟨p,hp⟩:∃p,c.ops[i+1]?=some p:=⟨_,(hO (j:=1) (by decide)).symm.trans (Kj l1)⟩
  have g1:bA (upd H r (.list ((ev c.ops i).map Op.toV))) (.obj r) (.int 1)=some p.toV:=bt (l:=1) er ((hO (by decide)).trans hp)
  obtain⟨vs,s1,s2,s3⟩:=mt (H:=upd H r (.list ((ev c.ops i).map Op.toV))) o
  obtain⟨ws,t1,t2,t3⟩:=mt (H:=upd H r (.list ((ev c.ops i).map Op.toV))) p
  have cmp:(p.code==o.code&&V.eqb p.snd o.snd)=false:=Bool.eq_false_iff.mpr fun y=>by
   obtain⟨d,j,rfl⟩:=jl z3
   obtain⟨d',j',rfl⟩:=jl (nQ y)
   have:=sF (uG y)
   subst this
   have:i+1∈es:=hes i (N.test i d' j j' ho hp)
   rw[decide_eq_true this]at z2
   injection z2
  generalize hpv:p.toV=pv at g1 t1 t3
  subst t3
  refine cb (bx (bH (qh (aE (ah rfl (au (aa g1 (n8 (i8 (au (aa t1 (aa t2 ⟨rfl,?_⟩))))))))))))
  generalize hov:o.toV=ov at g0 s1 s3
  subst s3
  refine qh (aE (ah rfl (au (aa g0 (n8 (i8 (au (aa s1 (aa s2 ⟨rfl,aa (Cc o p) (aa rfl (ez cmp (aH cmp (aY (last x hL rfl er)))))⟩)))))))))
 refine sq (dQ (i6 (cb (bx (bH (aE (aE (ah l6 (ah l82 (aa (bt ops ho) (au (aa (cW o) (aW (ag (az (ag (az (al (aa rfl (aa rfl (bM (fun z=>?_) fun z=>aH z ?_)))))))))))))))))))))
 ·obtain⟨⟨j,g1,g2⟩,_⟩:=ur (H:=H) (ops:=c.ops) (p:=i) z
  rw[N.idle i o ho]at g2
  have e:V.eqb (nV j) (nV (i+1))=false:=(oz j (i+1)).trans g2.symm
  refine cb (bx (bH (aE (aE (ah l6 (ah l82 (aa (bt ops ho) (eO ((aa g1 (aZ (ah l82 (au (fU (aa rfl (aa rfl (ez e (aH e ?_))))))))))))))))))
  exact rest
 ·exact rest
end
end
section
section
variable {n:Nat} {H:Hp} {ca:Nat} {c:Cd} {Q:V→Hp→Prop} {E:Nat→Hp→Prop}
theorem Co(x:Well c)(N:Neat c)(hlen:c.ops.length≤1000)(hca:cB H ca c)(hQ:∀H',Ext H H'→Q (.bool true) H'):Fn (n+3) 55 [.obj ca] H Q E:=by
 have W:=x.wf
 refine⟨bd rfl,sq (cK (oa (ja (ah rfl (aa (eQ hca) (aa rfl fun k hk=>sq (mN rfl (aW (ag (bW (al fun m hm=>ag (bW (ag (au (al fun l hl=>ag (bW (al fun e he=>al ?_)))))))))))))))))⟩
 have hk:H k=none:=hk
 obtain⟨hm',nmk⟩:=bn hm
 obtain⟨hl',nlm⟩:=bn hl
 obtain⟨hl',nlk⟩:=bn hl'
 obtain⟨he',nel⟩:=bn he
 obtain⟨he',nem⟩:=bn he'
 obtain⟨he',nek⟩:=bn he'
 have hm:H m=none:=hm'
 have hl:H l=none:=hl'
 have X0:Ext H (upd (upd (upd (upd H k (.list (c.ops.map Op.toV))) m (.list [])) l (.list [.int 0])) e (.list [])):=((((Ext.refl H).set hk _).set hm _).set hl _).set he' _
 refine sq (BG (n:=n) (H0:=H) (ca:=ca) (k:=k) (m:=m) (l:=l) (e:=e) W N hlen hm hl nlm.symm nlk.symm nmk.symm hca ⟨X0,rfl,rfl,rfl,rfl,rfl,af (af (af (ai _ _ _) nmk.symm) nlk.symm) nek.symm,af (af (ai _ _ _) nlm.symm) nem.symm,af (ai _ _ _) nel.symm,ai _ _ _,
  ⟨List.nodup_nil,fun zz h=>(nomatch h),fun q h=>by cases mSng h;exact .zero W.pos,.inr (.head _),fun zz h=>(nomatch h),fun zz h=>(nomatch h)⟩,aR 0,nel,nem⟩ fun L' H' e' ms es S=>?_)
 have ml:=S.ni.len N.met
 refine sq (dQ (bx (bH (eg (ah S.l154 (aa (zq S.em) (eg (ah S.l6 (aa (cy S.ops) (aa rfl (aa rfl (aH (by refine ab ml ?_;refine(?_:(!((c.ops.length:Int)==c.ops.length))=false);rw[Kq];rfl) (aY ?_)))))))))))))
 refine sq (lx (eg (ah S.l6 (aa (cy S.ops) ⟨rfl,ku hlen,aa rfl (cX (N:=c.ops.length) (fun i L1 H1=>Ext H' H1∧L1 6=some (.obj k)∧L1 210=some (.obj e')) ⟨Ext.refl H',S.l6,S.l210⟩ ?_ ?_)⟩))))
 ·rintro i L1 H1 K hi ⟨x1,e6,e210⟩ T
  exact BM (n:=n) (L:=upd L1 82 (nV i)) N hi (fun p hp=>S.ni.entry N.met hp) e6 rfl e210 (x1 _ _ S.ops) (x1 _ _ S.ee) fun L2 H2 x2 hL=>T.go _ _ trivial ⟨x1.trans x2,(hL 6 (by decide)).trans e6,(hL 210 (by decide)).trans e210⟩
 ·rintro L1 H1 ⟨x1,_,_⟩
  exact sq (bN (DF (hQ H1 (S.ext.trans x1))))
theorem tU{a:Nat}(h:cB H a c)(hQ:Q (.tup [.tup (c.ops.map Op.toV),.tup (c.bg.map nV)]) H):Fn (n+1) 58 [.obj a] H Q E :=
 ⟨bd rfl,sq (bN (aW (ag (i9 (ja (ah rfl (aa (eQ h) (aa rfl (ag (i9 (ja (ah rfl (aa (oQ h) (aa rfl (al hQ)))))))))))))))⟩
end
end
section
section rules
variable {c:Cx} {σ:St} {Q:V→St→Prop} {X:Nat→St→Prop}
theorem FT{W:(V→St→Prop)→Prop}{Q:Bool→St→Prop}{es:List PE}(h:wA false es c σ Q X):wT (.or es) W c σ Q X:=h
theorem Dy{W:(V→St→Prop)→Prop}{Q:Bool→St→Prop}{e:PE}(h:wT e (kW X σ (wE e c)) c σ (Hn Q) X):wT (.not e) W c σ Q X:=h
theorem yk{W:(V→St→Prop)→Prop}{Q:Bool→St→Prop}{f:Nat}{as:List PE}(h:W (A7 Q)):wT (.callg f as) W c σ Q X:=h
end rules
theorem oj(t:TE):V.flat t.toV 20=true:=by cases t<;>rfl
theorem tV{H:Hp}{a b:Nat}{ts:List TE}(ha:H a=some (.list (ts.map TE.toV)))(hb:H b=some (.list (ts.map TE.toV))):dI H (.obj a) (.obj b)=some true:=by
 refine(j0 (ay ha) (ay hb) (cJ oj ts) (cJ oj ts)).trans ?_
 refine ab (eqbs_refl _ 20 (cJ oj ts)) ?_;rfl
theorem yG{H:Hp}{a b:Nat}{ts:List TE}(ha:H a=some (.list (ts.map TE.toV)))(hb:H b=some (.list (ts.map TE.toV))):di H .ne (.obj a) (.obj b)=some false:=by
 exact nN _ (iE (tV ha hb))
theorem C2{H:Hp}{a b w:Nat}{ts:List TE}(ha:H a=some (.list (ts.map TE.toV)))(hb:H b=some (.list (ts.map TE.toV))):di H .ne (.tup [.obj a,.str w]) (.tup [.obj b,.str w])=some false:=by
 refine(?_:b1 (b2 (dI H (.obj a) (.obj b)) (some (w==w)) and) not=_)
 refine ab (tV ha hb) ?_;rw[Kq];rfl
theorem wv(vs:List V)(m:Nat):jD vs none (some (.int (m:Int)))=some (vs.take m):=by
 refine(?_:some ((vs.take (PySem.clipAt vs.length (m:Int))).drop 0)=_)
 rewrite[clip_of];refine ab List.drop_zero ?_
 rcases Nat.le_total m vs.length with z|z
 ·refine ab (Nat.min_eq_left z) ?_;rfl
 ·refine ab (Nat.min_eq_right z) ?_;refine ab K6 ?_;refine ab (List.take_of_length_le z) ?_;rfl
theorem BP{H:Hp}(c:Cd):di H .eq (.tup [.tup (c.ops.map Op.toV),.tup (c.bg.map nV)]) (.tup [.tup (c.ops.map Op.toV),.tup (c.bg.map nV)])=some true:=by
 have h:V.flats [.tup (c.ops.map Op.toV),.tup (c.bg.map nV)] 19=true:=by
  refine(?_:(V.flats _ 18&&(V.flats _ 18&&true))=true)
  rw[cJ (fun o=>ot o 14),fg];rfl
 exact(iE (mB (a:=.tup [.tup (c.ops.map Op.toV),.tup (c.bg.map nV)]) (b:=.tup [.tup (c.ops.map Op.toV),.tup (c.bg.map nV)]) rfl h h)).trans (congrArg some (eqbs_refl _ 19 h))
theorem qX{cx:Cx}(hc:cx.CI=T0.CI){H:Hp}{a:Nat}{c:Cd}(e:cB H a c):gj cx H (.obj a) 8=some (.fn 58 [] [.obj a]):=by
 refine(cP _ e).trans ?_
 refine(?_:bo (cx.CI 0) _=_)
 refine ab hc ?_;rfl
section
variable {n:Nat} {H:Hp} {Q:V→Hp→Prop} {E:Nat→Hp→Prop}
noncomputable abbrev vQ(n:Nat):Cx:=bv T0 (AC T0 (n+10) false) (AC T0 (n+10) true) false [] F56.LN
theorem Ct{L:Lc}{ca sh tr tr':Nat}{c c':Cd}{ts ts':List TE}{en en':End}(x:Well c')(s:Sz c')(hr:ce c'=c')(hlen:c'.ops.length≤c.ops.length)(lr:(ts'=ts∧en'=en)∨(en=.steps∧ts'.take ts.length=ts))(l80:L 80=some (.obj ca))(l158:L 158=some (.obj sh))(hca:cB H ca c)(hsh:cB H sh c')
  (l196:L 196=some (.obj tr)) (l176:L 176=some (.str (sB en))) (l184:L 184=some (.obj tr')) (l214:L 214=some (.str (sB en'))) (et:H tr=some (.list (ts.map TE.toV))) (et':H tr'=some (.list (ts'.map TE.toV)))
  (hQ:∀H',Q (.bool true) H'):wSs (P56.drop 5) (vQ n) ⟨L,H⟩ (fun fl σ'=>match fl with|.ret v=>Q v σ'.H|.next=>Q .none σ'.H|.cont=>False) fun k σ'=>E k σ'.H:=by
 have tail:∀H1,Ext H H1→wSs (P56.drop 6) (vQ n) ⟨L,H1⟩ (fun fl σ'=>match fl with|.ret v=>Q v σ'.H|.next=>Q .none σ'.H|.cont=>False) fun k σ'=>E k σ'.H:=fun H1 x1=>by
  have big:decide (((c.ops.map Op.toV).length:Int)<(c'.ops.map Op.toV).length)=false:=decide_eq_false fun z=>by
   rw[Kf,Kf]at z
   exact LA.mpr hlen (Int.ofNat_lt.mp z)
  refine sq (dQ (FT (cb (bx (bH (eg (ja (ah l158 (aa (eQ (x1 _ _ hsh)) (aa rfl (eg (ja (ah l80 (aa (eQ (x1 _ _ hca)) (aa rfl (aa (a:=false) (congrArg some big) (aa rfl (rt rfl (cb (Dy (yk (cC (ag (ah l158 (al ?_)))))))))))))))))))))))))
  refine Co (n:=n+7) x (Cp x hr) s.ops (x1 _ _ hsh) fun H2 x2=>?_
  refine dW (aa rfl (rt rfl (qE (aH rfl (aY ?_)))))
  have hs2:=x2 _ _ (x1 _ _ hsh)
  refine sq (bN (bH (dE (cC (ag (ah l158 (al ?_)))))))
  refine qS (n:=n) (fun z=>z=c') (fun z _ (e:z=c')=>(congrArg ce e).trans hr) x s rfl hs2 fun H3 r c3 x3 ca3 zz zz e3 zz=>?_
  subst e3
  refine dW (aa (qX rfl ca3) (al ?_))
  refine tU (n:=n+9) ca3 ?_
  refine dW (dE (ah l158 (aa (qX rfl (x3 _ _ hs2)) (al ?_))))
  exact tU (n:=n+9) (x3 _ _ hs2) (dW (aa (BP c3) (hQ _)))
 refine sq (dQ (bx (bH (ah l176 (az (aa rfl (aa rfl (aF (fun z=>?_) fun z=>?_))))))))
 ·have same:ts'.take ts.length=ts:=by
   rcases lr with ⟨e,_⟩|⟨_,e⟩
   ·refine ab e ?_;refine ab K6 ?_;rfl
   ·exact e
  refine sq (dQ (bx (bH (qh (ah l184 (n8 (i8 (eg (ah l196 (aa (dq et) (aa (aT et') (aa (wv _ _) fun r hr=>?_))))))))))))
  have hr:H r=none:=hr
  rewrite[Kf];refine bT List.map_take ?_;refine ab same ?_
  exact ah l196 (aa (yG (ai _ _ _) (af et (aj et hr))) (aa rfl (aH rfl (aY (aY (tail _ ((Ext.refl H).new hr _)))))))
 ·obtain⟨rfl,rfl⟩:ts'=ts∧en'=en:=by
   rcases lr with e|⟨e,_⟩
   ·exact e
   ·rw[e]at z;exact aC (show true=false from z).symm
  exact sq (dQ (bx (bH (aW (ag (ah l184 (ag (ah l214 (al (aW (ag (ah l196 (ag (ah l176 (al (aa (C2 et' et) (aa rfl (aH rfl (aY (aY (tail H (Ext.refl H))))))))))))))))))))))
end
end
section
section
variable {n:Nat} {H:Hp} {Q:V→Hp→Prop} {E:Nat→Hp→Prop}
theorem xi{L:Lc}{cl:Nat}{cells:List Int}(hc:H cl=some (.list (cells.map .int)))(hn:0<cells.length)(l165:L 165=some (.obj cl))(hQ:∀H',Q (.bool true) H') :
  wSs (P56.drop 1) (vQ n) ⟨L,H⟩ (fun fl σ'=>match fl with|.ret v=>Q v σ'.H|.next=>Q .none σ'.H|.cont=>False) fun k σ'=>E k σ'.H:=by
 refine sq (cK (cC (ag (bW (ag (oa (ah l165 (aa (aT hc) fun cs hcs=>ag (au (al fun tp htp=>al ?_))))))))))
 have hcs:H cs=none:=hcs
 obtain⟨htp',ntc⟩:=bn htp
 have htp:H tp=none:=htp'
 have ecs:upd (upd H cs (.list (cells.map .int))) tp (.list [.obj cs,nV 0]) cs=some (.list (cells.map .int)):=af (ai _ _ _) ntc.symm
 have hcl:upd (upd H cs (.list (cells.map .int))) tp (.list [.obj cs,nV 0]) cl=some (.list (cells.map .int)):=af (af hc (aj hc hcs)) (aj hc htp)
 refine vu (n:=n+7) (tp:=tp) (cs:=cs) ⟨ai _ _ _,cells,hn,ecs⟩ fun H1 ca c x1 hca w s=>?_
 have hc1:=x1 _ _ (aj hc htp) (aj hc hcs) hcl
 refine dW (sq (cK (cC (ag (ah rfl (al ?_))))))
 refine qS (n:=n) (fun z=>Refines (bi cells) z c∧z.ops.length≤c.ops.length) (fun z hz h=>⟨(qW hz).2.trans h.1,am wz h.2⟩) w s ⟨Refines.refl c,aR _⟩ hca fun H2 sh c' x2 hsh w' s' h hr=>?_
 obtain⟨W,tt,T⟩:=w
 have W':=w'
 obtain⟨Wf',tt',T'⟩:=w'
 refine dW (sq (mN rfl (cC (ag (ah rfl (ag (ah l165 (al ?_))))))))
 refine pF (n:=n+1) W T (x2 _ _ hca) (x2 _ _ hc1) hn fun H3 tr x3 et=>?_
 refine dW (sq (mN rfl (cC (ag (ah rfl (ag (ah l165 (al ?_))))))))
 refine pF (n:=n+1) Wf' T' (x3 _ _ hsh) (x3 _ _ (x2 _ _ hc1)) hn fun H4 tr' x4 et'=>?_
 have lr:=zB h.1 50
 have et:=x4 _ _ et
 refine dW ?_
 generalize (aS (bi cells) c 50 start).obs=o1 at lr et
 generalize (aS (bi cells) c' 50 start).obs=o2 at lr et'
 obtain⟨ts,en⟩:=o1
 obtain⟨ts',en'⟩:=o2
 refine(?_:wSs (P56.drop 5) (vQ n) ⟨upd (upd (upd (upd (upd (upd L 80 (.obj ca)) 158 (.obj sh)) 196 (.obj tr)) 176 (.str (sB en))) 184 (.obj tr')) 214 (.str (sB en')),H4⟩ _ _)
 exact Ct (n:=n) (ca:=ca) (sh:=sh) (tr:=tr) (tr':=tr') (ts:=ts) (ts':=ts') (en:=en) (en':=en') W' s' hr h.2 (lr.imp (fun e=>⟨congrArg Prod.fst e,congrArg Prod.snd e⟩) id) (by exact rfl) (by exact rfl) (x4 _ _ (x3 _ _ (x2 _ _ hca))) (x4 _ _ (x3 _ _ hsh)) (by exact rfl) (by exact rfl) (by exact rfl) (by exact rfl) et et' hQ
end
end
section
theorem rest_ok:ll:=fun H L cl cells hc hn l165 =>
 xi (n:=0) (E:=fun zz zz=>False) (Q:=fun v zz=>v=.bool true) hc hn l165 fun zz=>rfl
end
end Og.Internal
open PySem PySem.W PyProof.Rows
theorem PySem.Challenge.cw_og0097_01_holds : PySem.Challenge.rw_og0097_01.Holds :=
  Og.Internal.main Og.Internal.rest_ok
