import PyProof.Rows.All
import Wide.All
import OpenK.AllK
import Wide.FinOn
import Open.Tops
import Lean
import PySem.Challenge.RW_pc0114_01
open PySem PySem.W PySem.Calls PyProof.Rows
set_option Elab.async false
set_option linter.all false
set_option backward.match.sparseCases false
set_option bootstrap.genMatcherCode false
set_option genSizeOf false
set_option tactic.hygienic false
set_option maxRecDepth 100000
set_option maxHeartbeats 8000000
namespace Mine
open Option renaming some→B',none→F',bind→C'
open PySem renaming Value→G',Shared→H'
open PySem renaming Addr→M',Params→N',Str→O',Heap→P',callEnvC→R',World→U',wpAny→V',eval→Z',Around→ada,Stmt→adb,model→ade,sysModules→adf,compEnvC→adj,OsState→adk,wpAny_items_nil→adl,treeTable→adm,wpAny_Assign_Name→adn,wpAny_assign_Name→ado,plainObj_wpAny_Assign_Attribute→adp,Scope→adt,wpAny_holding→adu,DictEntry→adv,wpAny_newObj_type→adw,wpAny_truthy_bool→adx,wpAny_Expr_any→ady,intKind→adA,importedModules→adC,cLine→adD,wpAny_Call_method→adF,wpAny_call_entry→adH,execs→adJ,FuncData→adK,interactive→adL,wpAny_execs_nil→adM,letOwnedTupleGo→adN,wpAny_setItem_pairs→adO,recursionLimit→adQ,exec→adR,NameKind→adT,wpAny_getItem_list→adU,wpAny_pyIter_list→adX,valueAt→adY,wpAny_standAt→adZ,slot_list_append→aea,wpAny_call→aec,mainNs→aed,wpAny_dict_get2→aee,bindC→aef,wpAny_specialOf→aeg,bindL→aeh,compPost→aei,wpAny_notIn_of→aej,keywordEach→aek,Program→aem,swapsWith→aen,compareOp→aep,storeName→aeq,relabel→aer,codeAny→aes,lastMarks→aet,evalPart_some→aeu,attributeBase→aev,isTrue→aex,assignEach→aey,stored→aez,builtinsNs→aeA,cStatics→aeB,pyIter→aeD,pyNext→aeF,getMethod→aeH
open PySem.W renaming lookIn→adg,boot_drawn→adh,SharedT→adq,emptyDict→ads,instObj→adB,findIn→adI,Frag→adV,boot_heap→ael,boot_toks→aeo,isNs_of_in→aew,topRun→aeC,look_both→aeE,typeIn→aeG
open PyProof.Rows renaming tail_any→adG,IntsAre→adP,assignInOrder_cons→adS
open PySem.Calls renaming callWith_function→adW
open Decidable renaming decide→L'
abbrev ac:=@Option.some.inj
abbrev ae:=@List.length_map
abbrev af:=@List.mem_cons_self
abbrev ag:=@List.mem_cons_of_mem
abbrev ah:=@wpAny_bind
abbrev aj:=@decide_eq_false
abbrev ak:=@decide_eq_true
abbrev am:=@List.mem_singleton
abbrev ao:=@trivial
abbrev aq:=@Bool.and_eq_true
abbrev av:=@wpAny_pure
abbrev ay:=@List.size_toArray
abbrev aA:=@PySem.W.Fast.te14364793385576792824
abbrev aB:=@Heap.get?_push_of_some
abbrev aC:=@List.map_cons
abbrev aD:=@List.mem_cons
abbrev aE:=@List.all_eq_true
abbrev aF:=@Heap.get?_push_size
abbrev aG:=@Nat.le_trans
abbrev aH:=@decide_false
abbrev aI:=@PySem.W.Fast.te10110043849684766642
abbrev aJ:=@List.mem_map
abbrev aK:=@Option.map_eq_some_iff
abbrev aL:=@if_neg
abbrev aM:=@congrArg
abbrev aN:=@Nat.add_le_add_left
abbrev aP:=@List.mem_filter
abbrev aQ:=@Nat.lt_of_le_of_lt
abbrev aR:=@beq_eq_false_iff_ne
abbrev aS:=@of_decide_eq_true
abbrev aT:=@beq_iff_eq
abbrev aU:=@List.length_filter_le
abbrev aV:=@List.getElem?_eq_some_iff
abbrev aW:=@decide_true
abbrev aY:=@Heap.lt_size
abbrev aZ:=@if_pos
abbrev a0:=@List.append_nil
abbrev ba:=@eq_of_beq
abbrev bb:=@wpAny_mono
abbrev bc:=@List.length_append
abbrev be:=@Prod.mk.inj
abbrev bf:=@List.mem_append
abbrev bg:=@if_false
abbrev bh:=@Bool.not_true
abbrev bj:=@List.nodup_cons
abbrev bl:=@decide_eq_true_eq
abbrev bm:=@Nat.le_succ
abbrev bo:=@Bool.not_false
abbrev bq:=@Ne.symm
abbrev br:=@Nat.le_refl
abbrev bt:=@Nat.le_add_right
abbrev bv:=@List.append_assoc
abbrev bw:=@List.map_map
abbrev bx:=@Nat.add_le_add_right
abbrev bz:=@Int.emod_lt_of_pos
abbrev bC:=@List.getElem?_eq_getElem
abbrev bD:=@Nat.ne_of_lt
abbrev bE:=@wpAny_Call_NameR
abbrev bF:=@beq_self_eq_true
abbrev bG:=@List.flatMap_cons
abbrev bH:=@Nat.add_assoc
abbrev bJ:=@if_true
abbrev bK:=@Bool.and_eq_true_iff
abbrev bM:=@List.map_append
abbrev bO:=@wpAny_Name
abbrev bP:=@List.filter_eq_nil_iff
abbrev bQ:=@wpAny_items_cons
abbrev bR:=@wpAny_execs_cons
abbrev bT:=@List.filter_cons
abbrev bU:=@Int.emod_nonneg
abbrev bV:=@List.mem_of_getElem?
abbrev bW:=@wpAny_storeName_local
abbrev bX:=@Nat.lt_of_lt_of_le
abbrev bY:=@Bool.false_eq_true
abbrev bZ:=@List.getElem?_map
abbrev cb:=@congrFun
abbrev cc:=@Option.eq_none_iff_forall_not_mem
abbrev ce:=@Calls.callWith_builtin
abbrev cf:=@List.mem_append_right
abbrev cg:=@List.pairwise_cons
abbrev ci:=@Nat.zero_add
abbrev cj:=@Option.isSome_iff_exists
abbrev ck:=@lookup_relabel_local
abbrev cn:=@List.nodup_append
abbrev cp:=@List.any_eq_false
abbrev cq:=@wpAny_list_append_plain
abbrev cr:=@Nat.mul_le_mul_left
variable {t:Int}{n c:Nat}
section
variable {a b d i j k m r s x y z:Nat}
theorem O0(e:Nat.ble a b=true):a<=b:=Nat.le_of_ble_eq_true e
theorem O1(h:x<=a)(e:Nat.ble a b=true):x<=b:=aG h (O0 e)
theorem O2(h:x<a)(e:Nat.ble a b=true):x<b:=aG h (O0 e)
theorem O3(h:x<a)(e:Nat.ble a (b+1)=true):x<=b:=Nat.le_of_lt_succ (O2 h e)
theorem O4(h:x<=a)(e:Nat.ble (a+1) b=true):x<b:=aQ h (O0 e)
theorem O5(g:x=y)(h:y<=a)(e:Nat.ble a b=true):x<=b:=g▸O1 h e
theorem O6(g:x=y)(h:y<=a)(e:Nat.ble (a+1) b=true):x<b:=g▸O4 h e
theorem O7(g:x=y)(h:y<a)(e:Nat.ble a b=true):x<b:=g▸O2 h e
theorem O8(g:x=y)(h:y<a)(e:Nat.ble a (b+1)=true):x<=b:=g▸O3 h e
theorem O9(g:x<=y)(h:y<=a)(e:Nat.ble a b=true):x<=b:=aG g (O1 h e)
theorem Ep(g:x<=y)(h:y<=a)(e:Nat.ble (a+1) b=true):x<b:=aQ g (O4 h e)
theorem Gw(g:x<=y)(h:y<a)(e:Nat.ble a b=true):x<b:=aQ g (O2 h e)
theorem HM(f:z<=x)(g:x<=y)(h:y<=a)(e:Nat.ble (a+1) b=true):z<b:=Ep (aG f g) h e
theorem F7(f:z=x)(g:x=y)(h:y<=a)(e:Nat.ble a b=true):z<=b:=O5 (f.trans g) h e
theorem HN(g:x<=0+y)(h:y<=a)(e:Nat.ble a b=true):x<=b:=O9 (ci y▸g) h e
theorem HO(f:z<=x)(g:x<=0+y)(h:y<=a)(e:Nat.ble a b=true):z<=b:=aG f (HN g h e)
theorem IK(g:x=y)(h:z<y):z<x:=g▸h
theorem Ei(h:a+(b+1)<n)(e:Nat.ble n m=true):a<m:=aQ (bt a (b+1)) (O2 h e)
theorem Co(h:a+(b+1)<=n)(e:Nat.ble n m=true):a<m:=bX (Nat.lt_add_of_pos_right (Nat.succ_pos b)) (O1 h e)
theorem F8(h:a+(b+1)<n):a+b<n:=Nat.lt_of_succ_lt h
theorem Cp(h:a+(b+1)<n):a+1+b<n:=Nat.succ_add_eq_add_succ a b▸h
theorem O36(h:a+(b+1)<=n):a+1+b<=n:=Nat.succ_add_eq_add_succ a b▸h
theorem HP(h:a+(b+1)=n):a+1+b=n:=(Nat.succ_add_eq_add_succ a b).trans h
theorem Gx(h:a+(b+1)<n)(g:x<=a+1):x+b<n:=aQ (bx g b) (Cp h)
theorem Gy(h:a+(b+1)<=n)(g:x<=a+1):x+b<=n:=aG (bx g b) (O36 h)
theorem IL(h:a+(b+1)<n)(g:y<=1):a+y+b<n:=Gx h (aN g a)
theorem HQ(h:a+(b+c)<=n)(g:x<=a+b):x+c<=n:=aG (bx g c) (bH a b c▸h)
theorem HR(h:a+(b+c)<=n):a+b<=n:=aG (aN (bt b c) a) h
theorem IM(h:a+(b+c)<=n)(e:Nat.ble n m=true):b<=m:=aG (aG (Nat.le_add_left b a) (HR h)) (O0 e)
theorem IN(h:a+(b+1)<=n)(g:n<=s):a<s:=bX (Nat.lt_add_of_pos_right (Nat.succ_pos b)) (aG h g)
theorem HS(h:a+(b+1)=n):a<n:=h▸Nat.lt_add_of_pos_right (Nat.succ_pos b)
theorem Er:a+1+b=a+(b+1):=Nat.succ_add_eq_add_succ a b
theorem HT:a+(b+1)=a+1+b:=Er.symm
theorem HU(h:a+4*(n+1)+50<c):a+3+4*n+50<c:=aQ (bx (show a+3+4*n<=a+4*n+4 from(Nat.add_right_comm a 3 (4*n)).symm▸bm _) 50) h
theorem IO(h:a+4*(n+1)+50<c):a+1+4*n+50<c:=aQ (bx (bx (aN (O0 rfl:1<=3) a) _) _) (HU h)
theorem IP(h:a+4*n+50<c):a+40<c:=aQ (Nat.add_le_add (bt a _) (O0 rfl)) h
theorem IQ(g:m<=n)(h:a+4*n+50<c):a+4*m+50<c:=aQ (bx (aN (cr 4 g) a) _) h
theorem Es(g:m<=n)(h:a+n<r):a+m<r:=aQ (aN g a) h
theorem IR(h:a+n<r):a<r:=aQ (bt a n) h
theorem Cq(h:a+k<c)(e:Nat.ble (m+j) k=true):a+m+j<c:=aQ (bH a m j▸aN (O0 e) a) h
theorem IU(h:a+k<c)(e:Nat.ble m k=true):a+m<c:=Es (O0 e) h
theorem Et(e:Nat.ble n m=true):c+n<=c+m:=aN (O0 e) c
theorem tN:c<=c+n:=bt c n
theorem Gz(h:x<=a)(e:Nat.ble (n+a+k) m=true):c+n+x+k<=c+m:=by
 rw[bH c,bH c];exact aN (aG (bx (aN h n) k) (O0 e)) c
theorem GA(h:x<=a)(e:Nat.ble (n+a) m=true):c+n+x<=c+m:=Gz (k:=0) h e
theorem GB(h:x<=a)(e:Nat.ble (n+j*a) m=true):c+n+j*x<=c+m:=GA (cr j h) e
theorem IV(h:x<=a)(e:Nat.ble (n+j*a+k) m=true):c+n+j*x+k<=c+m:=Gz (cr j h) e
theorem IX(g:y=x)(h:x<=a)(e:Nat.ble (n+j*a) m=true):c+n+j*y<=c+m:=g▸GB h e
theorem IY(h:x<=y):c+1+4*x<=c+4*y+1:=by
 rw[Nat.add_right_comm];exact bx (aN (cr 4 h) c) 1
theorem IZ(h:x<=y):c+1*x<=c+y:=aN ((Nat.one_mul x).symm▸h) c
theorem I0(e:Nat.ble (n+k) m=true):c+n+k<=c+m:=GA (br k) e
theorem HV(h:x<a)(e:Nat.ble a (b+1)=true):0+x<=b:=(ci x).symm▸O3 h e
theorem I1(h:x<=a)(e:Nat.ble (a+1) b=true):0+x<b:=(ci x).symm▸O4 h e
theorem HW(h:x<a)(g:y<=0+x)(e:Nat.ble a b=true):y<b:=Gw (ci x▸g) h e
theorem I3(h:x<=a)(g:y<=b)(e:Nat.ble (a+b) c=true):x+y<=c:=aG (Nat.add_le_add h g) (O0 e)
theorem I4(h:x<=4)(g:y<=4*z):x+y<=4*(z+1):=aG (Nat.add_le_add h g) (Nat.le_of_eq (Nat.add_comm 4 _))
theorem I5(h:x<=a)(g:y<=k*x)(e:Nat.ble (k*a+1) b=true):y<b:=Ep g (cr k h) e
theorem HX(h:x<=a)(e:Nat.ble (a+2) b=true):x+1<b:=aQ (Nat.succ_le_succ h) (O0 e)
theorem I6(h:x<=a)(g:y<=x+1)(e:Nat.ble a b=true):y<=b+1:=aG g (Nat.succ_le_succ (O1 h e))
theorem I7(h:x<=m)(g:y<=x+1):y<=m+1:=aG g (Nat.succ_le_succ h)
theorem HY(h:x<=y+z)(g:y<=k+1):x<=k+(z+1):=aG h (Er▸bx g z)
theorem HZ(h:a+(b+1)<=n)(g:y=a)(e:Nat.ble n m=true):y<=m:=g▸Nat.le_of_lt (Co h e)
theorem I8(g:k<=c)(h:r+c<=n):r+k<=n:=aG (aN g r) h
theorem GC(h:b<=s):min a b<=s:=aG (Nat.min_le_right a b) h
theorem I9(h:x<n):n-(x+1)<n-x:=Nat.sub_lt_sub_left h (Nat.lt_succ_self x)
theorem H2(h:x<=y)(g:¬x<y):x=y:=Nat.le_antisymm h (Nat.le_of_not_lt g)
theorem O87(h:n+1<=d):d=d-1+1:=(Nat.sub_add_cancel (aG (Nat.le_add_left 1 n) h)).symm
theorem F9{k:Int}(g:x<=s)(h:(s:Int)<k):(x:Int)<k:=Int.lt_of_le_of_lt (Int.ofNat_le.mpr g) h
theorem Ej{k:Int}(f:y=x)(g:x<=s)(h:(s:Int)<k):(y:Int)<k:=f▸F9 g h
theorem H3{k:Int}(g:x<=s)(h:(s:Int)<k)(q:(x:Int)≥k):False:=Int.not_lt.mpr q (F9 g h)
theorem Ja{k:Int}(f:y=x)(g:x<=s)(h:(s:Int)<k)(q:(y:Int)≥k):False:=Int.not_lt.mpr q (Ej f g h)
theorem Eu(h:0<=t):(t.toNat:Int)=t:=Int.toNat_of_nonneg h
theorem O95(h:0<=t):t=(t.toNat:Int):=(Eu h).symm
theorem Jb(h:x=y)(g:z=x):z=y:=g.trans h
theorem Jc(h:¬n<x):x<=n:=Nat.le_of_not_lt h
theorem H4(h:¬n<=x):x<n:=Nat.lt_of_not_le h
theorem P1{a b k:Int}(h:a<k)(e:decide (b<=a)=true):b<=k:=Int.le_trans (aS e) (Int.le_of_lt h)
theorem P2{a b k:Int}(h:k<a)(e:decide (a<=b)=true):k<b:=Int.lt_of_lt_of_le h (aS e)
theorem P3{a b k:Int}(h:a<=k)(e:decide (b<a)=true):b<k:=Int.lt_of_lt_of_le (aS e) h
theorem P4{a b k:Int}(h:a<=k)(e:decide (b<=a)=true):b<=k:=Int.le_trans (aS e) h
theorem P5{a b k:Int}(h:k<=a)(e:decide (a<b)=true):k<b:=Int.lt_of_le_of_lt h (aS e)
theorem P7{a:Int}(h:0<a)(e:a=0):False:=Int.lt_irrefl 0 (e▸h)
theorem P8{a:Int}(h:0<=a)(g:a<0):False:=Int.not_lt.mpr h g
theorem P9:(0:Int)<=(x:Int):=Int.natCast_nonneg x
theorem H5{a b:Int}(h:¬a<=b):b<a:=Int.not_le.mp h
theorem Jd{a b c:Int}(h:¬a<=b)(e:decide (a<=c)=true):b<c:=P2 (H5 h) e
theorem H6(h:x<a){k:Int}(e:decide ((a:Int)<=k)=true):(x:Int)<k:=P2 (Int.ofNat_lt.mpr h) e
theorem GD(h:x<=a){k:Int}(e:decide ((a:Int)<k)=true):(x:Int)<k:=P5 (Int.ofNat_le.mpr h) e
theorem Je(h:x<=a){k:Int}(e:decide ((a:Int)<=k)=true):(x:Int)<=k:=Int.le_trans (Int.ofNat_le.mpr h) (aS e)
theorem Jf(h:k<x)(g:x<=a)(e:decide ((a:Int)<t)=true):(k:Int)<t:=GD (Nat.le_of_lt (bX h g)) e
theorem H7(h:a<=x){k:Int}(e:decide (k<(a:Int))=true):k<(x:Int):=Int.lt_of_lt_of_le (aS e) (Int.ofNat_le.mpr h)
theorem Ga(h:a<x){k:Int}(e:decide (k<=(a:Int))=true):k<(x:Int):=Int.lt_of_le_of_lt (aS e) (Int.ofNat_lt.mpr h)
theorem H8(h:(x:Int)<(y:Int)):x<y:=Int.ofNat_lt.mp h
theorem Jg(h:(x:Int)=(y:Int)):x=y:=Int.ofNat_inj.mp h
theorem GE(h:x=a)(e:Nat.ble (b+1) a=true):b<x:=h▸O0 e
theorem H9(h:x=a)(g:x=b)(e:Nat.beq a b=false):False:=Nat.ne_of_beq_eq_false e (h.symm.trans g)
theorem Jh(h:x<=y):x<=y+1:=Nat.le_succ_of_le h
theorem Ji(h:x<=y):x+1<=y+1:=Nat.succ_le_succ h
theorem Jj(h:0<=t)(g:t<(x:Int)):t.toNat<x:=(Int.toNat_lt h).mpr g
theorem Jk(g:t.toNat<r)(h:r+c<=n):t<(n:Int):=Int.lt_of_le_of_lt (Int.self_le_toNat t) (Int.ofNat_lt.mpr (bX g (aG (bt r c) h)))
theorem Jl(h:x<a)(g:a<=x):False:=Nat.not_lt.mpr g h
theorem Jm(h:x=a)(e:Nat.ble a b=true):x<=b:=h▸O0 e
theorem Jn(h:¬t.toNat<n)(g:0<=t):(n:Int)<=t:=(Int.le_toNat g).mp (Nat.le_of_not_lt h)
theorem Jo{u:Int}(h:t.toNat=u.toNat)(f:0<=t)(g:0<=u):t=u:=(O95 f).trans ((aM _ h).trans (Eu g))
theorem Jp{w:Nat}(h:a+k<c)(g:x<=m)(e:Nat.ble m k=true):a+min x w<c:=Es (aG (Nat.min_le_left x w) (O1 g e)) h
theorem Ia{w:Nat}(h:a+n+1<c)(g:x<=n+1):a+min x w<c:=Es (aG (Nat.min_le_left x w) g) h
theorem Jq{w:Nat}(h:a+k<c)(g:w<=m)(e:Nat.ble (1+m) k=true):a+1+min x w<c:=by
 rw[bH];exact Es (aG (aN (aG (Nat.min_le_right x w) g) 1) (O0 e)) h
theorem Jr(e:((x:Int)+1)=0):False:=by cases x<;>cases e
theorem Ib{k:Int}(h:0<=k)(g:k.toNat<x):0<=k/\k<(x:Int):=⟨h,(Int.toNat_lt h).mp g⟩
theorem Js{k l:Int}(h:0<=k+l):-l<=k:=by have:=Int.add_le_add_right h (-l);rwa [Int.zero_add,Int.add_neg_cancel_right] at this
theorem Jt{v p d:Nat}(h:v<=p)(g:p-v<=d):v+(d-(d-(p-v)))=p:=(Nat.sub_sub_self g).symm▸Nat.add_sub_of_le h
theorem Ju(h:k<z):z-k=z-(k+1)+1:=(Nat.sub_add_cancel (Nat.sub_pos_of_lt h)).symm
theorem Jv(h:a+(b+1)=n):a+1<=n:=HS h
theorem Jw(h:x<=y):min x y=x:=Nat.min_eq_left h
theorem Jx:¬1=k+3:=λh=>Nat.succ_ne_zero _ (Nat.succ.inj h).symm
theorem Jy(h:a+(b+1)<=n)(g:n<=s):a+1<=s:=IN h g
theorem Ic(e:((x+1+1:Nat):Int)=1):False:=by cases Int.ofNat_inj.mp e
theorem Id(h:x<a){k:Int}(e:decide ((a:Int)<=k)=true)(q:k<(x:Int)):False:=Int.lt_asymm q (H6 h e)
theorem BC{p a b:Int}(h:a<=p)(e:decide (b<a)=true)(q:p=b):False:=Int.not_le.mpr (aS e) (q▸h)
theorem Gb{p a b:Int}(h:a<=p)(e:decide (b<a)=true)(q:b=p):False:=BC h e q.symm
theorem GF{p a b:Int}(h:p=a)(e:decide (a=b)=false)(q:p=b):False:=of_decide_eq_false e (h.symm.trans q)
theorem Jz(h:¬x=k)(q:(x:Int)=(k:Int)):False:=h (Int.ofNat_inj.mp q)
theorem Ie(h:x<a)(e:Nat.ble a b=true):x+1<=b:=O2 h e
theorem Ig(h:a<=x){k:Int}(e:decide (k<(a:Int))=true)(q:(x:Int)=k):False:=Int.ne_of_gt (H7 h e) q
theorem JA(h:¬a<=x){k:Int}(e:decide ((a:Int)<=k+1)=true)(q:k<(x:Int)):False:=Int.lt_irrefl (x:Int) (Int.lt_of_lt_of_le (H6 (H4 h) e) q)
theorem JB(h:x<=a)(e:Nat.ble (a+1) b=true):x+1<=b:=O4 h e
theorem JC(h:0<x)(q:(x:Int)=0):False:=Nat.ne_of_gt h (Int.ofNat_inj.mp q)
theorem JD{j x:Int}(h:¬x<j)(g:¬x=j):j<x:=Int.lt_iff_le_and_ne.mpr ⟨Int.not_lt.mp h,λe=>g e.symm⟩
theorem JE{a b:Int}(h:a<b)(e:a=b):False:=Int.lt_irrefl b (e▸h)
theorem JF{i j k:Int}(h:i<j)(g:j<=k):i<=k:=Int.le_trans (Int.le_of_lt h) g
theorem JG{i k:Int}(h:i<k):i<=k:=Int.le_of_lt h
theorem JH{j k:Int}(h:¬k<j):j<=k:=Int.not_lt.mp h
theorem JI(h:¬((x:Int)=(k:Int)))(e:x=k):False:=h (aM _ e)
theorem JJ{k:Int}(h:k%6=(m:Int)):m<6:=Int.ofNat_lt.mp (h▸bz k (by decide))
theorem JK(h:m<a)(e:Nat.ble (n+j*a) k=true):n+j*m<=k:=aG (aN (cr j (Nat.le_of_lt h)) n) (O0 e)
theorem JL(h:x=min a y)(e:Nat.ble a b=true):x<=b:=h▸aG (Nat.min_le_left a y) (O0 e)
theorem JM(h:¬((a:Int)<(x:Int))):x<=a:=Int.ofNat_le.mp (Int.not_lt.mp h)
theorem Ih(h:x<a)(e:Nat.ble (n+a) b=true):n+x<=b:=aG (aN (Nat.le_of_lt h) n) (O0 e)
theorem JN{j:Int}(h:0<j)(g:j<(n:Int)):j.natAbs<n:=Int.ofNat_lt.mp ((Int.natAbs_of_nonneg (Int.le_of_lt h)).symm▸g)
end
noncomputable abbrev pw:aem:=PySem.Challenge.pw_pc0114_01
noncomputable abbrev S(x:String):O':=Str.ofString x
@[irreducible] noncomputable def wa:List adb:=behindTheImports pw
noncomputable def Cr:List adb->Nat->adb
 |[],_=>.Pass ⟨0,0,0,0⟩
 |s::_,0=>s
 |_::r,n+1=>Cr r n
noncomputable def cR(i:Nat):adb:=Cr wa i
noncomputable def kP(i j:Nat):adb:=match cR i with
 |.ClassDef _ _ _ b _ _ _ _ _ _ _=>Cr b j
 |s=>s
noncomputable def JO(s:adb)(q:String)(g:M')(df kd doc pm cd ct:G')(bi:M'):Data:=match s with
 |.FunctionDef n a b _ _ _ sc _ _ _=>.func {name:=n,qualname:=S q,params:=a,body:=.stmts b,scope:=sc,globals:=g,closure:=[],defaults:=df,kwdefaults:=kd,doc:=doc,pyModule:=pm,annotations:=F',code:=cd,closureTuple:=ct,builtins:=bi}
 |_=>.plain
noncomputable def GG:List Obj->List Obj
 |[]=>[]
 |[a]=>[a]
 |a::_::r=>a::GG r
noncomputable def dY:Nat->List Obj->BT
 |0,_=>.nil
 |_+1,[]=>.nil
 |n+1,x::r=>.node x (dY n (GG r)) (dY n (GG r.tail))
noncomputable def lay(t:BT)(l:List (Nat×Obj)):BT:=l.foldl (λt p=>t.set p.1 λ_=>p.2) t
noncomputable def rM:Env:={scope:=pw.main.scope,locals:=aed,globals:=aed,cells:=[],code:=.ref 13,frame:=B' 14}
noncomputable def wb:Code:=.body wa rM
noncomputable abbrev zC:List Frame:=[topFrame ⟨0,0,0,0⟩]
noncomputable def at_(P:N')(t:BT)(n tk:Nat)(os:adk):adq:=⟨t,n,(ael P).life,#[],adh,tk,os⟩
namespace H
noncomputable def r(n:Nat):G':=.ref n
noncomputable def v(x:String)(t:Tok):G':=.str (S x) t
noncomputable def i(n:Int):G':=.int n 0
noncomputable def j(n:Int)(t:Tok):G':=.int n t
noncomputable def u(x:String):G':=.builtin x
noncomputable def y(x:String):G':=.type x
noncomputable def o(x:G'):Option G':=B' x
noncomputable def p(l:List G'):Obj:={cls:=y "tuple",data:=.seq l.toArray}
noncomputable def l(l:List G'):Obj:={cls:=.none,data:=.fields l.toArray}
noncomputable def d(P:N')(l:List (String×Tok×G'))(n:Nat):Obj:=⟨y "dict",F',.dict (l.map λx=>⟨PyData.keyHash P (S x.1),.str (S x.1) x.2.1,x.2.2⟩).toArray n,#[]⟩
noncomputable def f(c:String)(l:List G'):Obj:=⟨y c,F',.fields l.toArray,#[]⟩
noncomputable def q(l:List (Int×Nat)):List G':=l.flatMap λx=>[i x.1,i 0,r x.2]
noncomputable def w(a b:String)(t:Tok)(n x1 x2 x3 x4:Int)(g:Nat)(z:Bool)(k:Int)(c1 c2 c3 c4:G')(t2:Int):Obj:=f "code" [v a t,v b (t+1),v "/claim/cut.py" (t+2),i n,i x1,i x2,i x3,i x4,r g,.bool z,i k,r (g+1),c1,c2,c3,c4,i t2,i n,v "/claim/cut.py" (t2.toNat+1)]
noncomputable def k(n:String)(b m:List G')(ns:Nat)(s:List G')(at_:Array (Option G')):Obj:=⟨y "type",F',.cls {name:=S n,bases:=b,mro:=m,ns:=ns,qualname:=S n,hasDict:=true,slotNames:=[],subclasses:=s,abstract:=false,collection:=F',hasDel:=false},at_⟩
noncomputable def bu:Nat->List String->List (String×Tok×G')
 |_,[]=>[]
 |t,a::b=>(a,t,u a)::bu (t+1) b
noncomputable def by_:Nat->List String->List (String×Tok×G')
 |_,[]=>[]
 |t,a::b=>(a,t,y a)::by_ (t+1) b
noncomputable def nO(s:adb):O':=match s with
 |.FunctionDef n _ _ _ _ _ _ _ _ _=>n
 |_=>S ""
noncomputable def vO(s:adb):List O':=match s with
 |.FunctionDef _ _ _ _ _ _ sc _ _ _=>sc.names.filterMap λp=>match p.2 with|.local=>B' p.1|_=>F'
 |_=>[]
noncomputable def lO(s:adb):Int:=match s with
 |.FunctionDef _ _ _ _ _ _ _ _ _ p=>p.line
 |_=>0
noncomputable def aO(s:adb):Int:=match s with
 |.FunctionDef _ a _ _ _ _ _ _ _ _=>a.args.length
 |_=>0
noncomputable def nv:Nat->List O'->List G'
 |_,[]=>[]
 |t,a::b=>.str a t::nv (t+1) b
noncomputable def fq(s:adb)(q:O')(g:M')(df kd doc pm cd ct:G')(bi:M'):Data:=match JO s "" g df kd doc pm cd ct bi with
 |.func d=>.func {d with qualname:=q}
 |x=>x
noncomputable def wO(s:adb)(q:O')(t:Tok)(g:Nat)(c1 c2 c3 c4:G')(t2:Int):Obj:=f "code" [.str (nO s) t,.str q (t+1),v "/claim/cut.py" (t+2),i (lO s),i (aO s),i 0,i 0,i 3,r g,.bool true,i 181,r (g+1),c1,c2,c3,c4,i t2,i (lO s),v "/claim/cut.py" (t2.toNat+1)]
noncomputable def FO(pm:G')(s:adb)(q:O')(g t:Nat)(df:G'):List Obj:=[p [],l [],p (nv (t+3) (vO s)),p [],⟨.none,F',fq s q 0 .none .none .none .none .none .none 0,#[]⟩,wO s q t g .none (r (g+2)) (r (g+3)) (r (g+4)) (t+3+(vO s).length),⟨y "function",F',fq s q 3 df .none .none pm (r (g+5)) .none 0,#[]⟩]
noncomputable def GO(pm:G')(s:adb)(q:O')(g t:Nat)(df:G'):List Obj:=[p [],l [],⟨.none,F',fq s q 0 .none .none .none .none .none .none 0,#[]⟩,wO s q t g .none .none .none (r (g+2)) (t+3),⟨y "function",F',fq s q 3 df .none .none pm (r (g+3)) .none 0,#[]⟩]
noncomputable def F(pm:G')(k g t:Nat):=FO pm (cR k) (nO (cR k)) g t .none
noncomputable def Fd(pm:G')(k g t:Nat)(df:G'):=FO pm (cR k) (nO (cR k)) g t df
noncomputable def Fm(pm:G')(k j:Nat)(q:String)(g t:Nat)(df:G'):=FO pm (kP k j) (S q) g t df
noncomputable def G(pm:G')(k g t:Nat):=GO pm (cR k) (nO (cR k)) g t .none
noncomputable def z1:Obj:=f "builtin_function_or_method" [u "type.__prepare__",y "type"]
noncomputable def z2(n:Nat):Obj:=f "builtin_function_or_method" [u "object.__init_subclass__",r n]
noncomputable def z3(n:Nat):Obj:=f "super" [r n,r n,r n]
noncomputable def m0:=v "__main__" 164
noncomputable def m1:=v "kindkeep.diags" 194
noncomputable def m2:=v "kindkeep.types" 283
noncomputable def m3:=v "kindkeep.typeops" 715
noncomputable def m4:=v "kindkeep.hosts" 991
noncomputable def m5:=v "kindkeep.narrowplain" 1305
noncomputable def m6:=v "kindkeep.narrow" 1394
noncomputable def m7:=v "law_pc0114_01" 1537
noncomputable def e2(P:N'):Nat×Obj:=(2,⟨.none,F',(d P [("type.__subclasses__.Exception.0",223,i 39),("type.__subclasses__.Exception.n",224,i 1)] 2).data,#[]⟩)
noncomputable def e39:Nat×Obj:=(39,k "KeepError" [y "Exception"] [r 39,y "Exception",y "BaseException",y "object"] 38 [r 60,r 80] #[o (r 22),F',o (v "KeepError" 196),o (v "KeepError" 204),o (u "Exception.__new__"),o (.bool true)])
noncomputable def abT:Nat×Obj:=(628,k "Thin" [y "object"] [r 628,y "object"] 627 [r 670] #[F',F',o (v "Thin" 998),o (v "Thin" 1006),o (u "object.__new__"),o (.bool true)])
noncomputable def c0(P:N'):List Obj:=[d P ([("__name__",1,v "builtins" 160),("__doc__",2,u "builtins.__doc__:str#opaque"),("__package__",3,u "builtins.__package__:str#opaque"),("__loader__",4,u "builtins.__loader__:shared#opaque"),("__spec__",5,u "builtins.__spec__#opaque")]++bu 6 ["__build_class__","__import__","abs","all","any","ascii","bin","breakpoint","callable","chr","compile","delattr","dir","divmod","eval","exec","format","getattr","globals","hasattr","hash","hex","id","input","isinstance","issubclass","iter","aiter","len","locals","max","min","next","anext","oct","ord","pow","print","repr","round","setattr","sorted","sum","vars"]++[("None",50,.none),("Ellipsis",51,.ellipsis),("NotImplemented",52,.notImplemented),("False",53,.bool false),("True",54,.bool true)]++by_ 55 ["bool","memoryview","bytearray","bytes","classmethod","complex","dict","enumerate","filter","float","frozenset","property","int","list","map","object","range","reversed","set","slice","staticmethod","str","super","tuple","type","zip"]++[("__debug__",81,.bool true)]++by_ 82 ["BaseException","BaseExceptionGroup","Exception","GeneratorExit","KeyboardInterrupt","SystemExit","ArithmeticError","AssertionError","AttributeError","BufferError","EOFError","ImportError","LookupError","MemoryError","NameError","OSError","ReferenceError","RuntimeError","StopAsyncIteration","StopIteration","SyntaxError","SystemError","TypeError","ValueError","Warning","FloatingPointError","OverflowError","ZeroDivisionError","BytesWarning","DeprecationWarning","EncodingWarning","FutureWarning","ImportWarning","PendingDeprecationWarning","ResourceWarning","RuntimeWarning","SyntaxWarning","UnicodeWarning","UserWarning","BlockingIOError","ChildProcessError","ConnectionError","FileExistsError","FileNotFoundError","InterruptedError","IsADirectoryError","NotADirectoryError","PermissionError","ProcessLookupError","TimeoutError","IndentationError","_IncompleteInputError","IndexError","KeyError","ModuleNotFoundError","NotImplementedError","PythonFinalizationError","RecursionError","UnboundLocalError","UnicodeError","BrokenPipeError","ConnectionAbortedError","ConnectionRefusedError","ConnectionResetError","TabError","UnicodeDecodeError","UnicodeEncodeError","UnicodeTranslateError","ExceptionGroup"]++[("EnvironmentError",151,y "OSError"),("IOError",152,y "OSError"),("open",153,u "open"),("quit",154,u "builtins.quit#opaque"),("exit",155,u "builtins.exit#opaque"),("copyright",156,u "builtins.copyright#opaque"),("credits",157,u "builtins.credits#opaque"),("license",158,u "builtins.license#opaque"),("help",159,u "builtins.help#opaque")]) 159,d P [("builtins",162,r 4),("__main__",163,r 5)] 2,⟨.none,F',.dict #[] 0,#[]⟩,d P [("__name__",165,m0),("__doc__",166,.none),("__package__",167,.none),("__loader__",168,u "__main__.__loader__#opaque"),("__spec__",169,.none),("__annotations__",170,r 6),("__builtins__",171,r 4),("__file__",173,v "/claim/cut.py" 172),("__cached__",174,.none)] 9,⟨y "module",B' 0,.plain,#[]⟩,⟨y "module",B' 3,.plain,#[]⟩,d P [] 0,p [],l [],w "<module>" "<module>" 176 1 0 0 0 0 7 false 175 .none .none .none .none 179,⟨y "frame",F',.plain,#[o (r 9),o (r 3),o (r 3),F',o m0,F',o (r 0)]⟩,p [],l [],w "<module>" "<module>" 182 1 0 0 0 0 11 false 181 .none .none .none .none 185,⟨y "frame",F',.plain,#[o (r 13),o (r 3),o (r 3),F',o m0,F',o (r 0)]⟩]
noncomputable def c1(P:N'):List Obj:=F m0 0 15 187++[p [y "Exception"],z1,d P [("__module__",203,m1),("__qualname__",205,v "KeepError" 204),("__firstlineno__",207,j 5 206),("__init__",216,r 36),("__static_attributes__",219,r 37)] 5,p [],l [i 7,i 4,r 35],w "KeepError" "KeepError" 198 5 0 0 0 0 25 false 181 .none .none .none .none 201,⟨y "frame",F',.plain,#[o (r 27),o (r 3),o (r 24),F',o m1,F',o (r 0)]⟩,p [v "" 208]]++Fm m1 2 0 "KeepError.__init__" 30 209 (r 29)++[p [v "number" 217,v "text" 218],d P [("__module__",203,m1),("__firstlineno__",207,j 5 206),("__init__",216,r 36),("__static_attributes__",219,r 37),("__weakref__",221,r 40),("__doc__",222,.none)] 3,k "KeepError" [y "Exception"] [r 39,y "Exception",y "BaseException",y "object"] 38 [r 60] #[o (r 22),F',o (v "KeepError" 196),o (v "KeepError" 204),o (u "Exception.__new__"),o (.bool true)],f "getset_descriptor" [v "__weakref__" 220,r 39,u "ExceptionGroup.__weakref__",.none],f "super" [r 39,r 39,r 39],f "builtin_function_or_method" [u "object.__init_subclass__",r 39],p [r 39],z1,d P [("__module__",234,m1),("__qualname__",236,v "TooDeep" 235),("__firstlineno__",238,j 10 237),("__init__",249,r 57),("__static_attributes__",252,r 58)] 5,p [],l [i 12,i 4,r 56],w "TooDeep" "TooDeep" 229 10 0 0 0 0 46 false 181 .none .none .none .none 232,⟨y "frame",F',.plain,#[o (r 48),o (r 3),o (r 45),F',o m1,F',o (r 0)]⟩,p [j 2589 239,v "" 240]]++Fm m1 3 0 "TooDeep.__init__" 51 241 (r 50)++[p [v "number" 250,v "text" 251],d P [("__module__",234,m1),("__firstlineno__",238,j 10 237),("__init__",249,r 57),("__static_attributes__",252,r 58),("__doc__",253,.none)] 2,k "TooDeep" [r 39] [r 60,r 39,y "Exception",y "BaseException",y "object"] 59 [] #[o (r 43),F',o (v "TooDeep" 227),o (v "TooDeep" 235),o (u "Exception.__new__"),o (.bool true)],f "super" [r 60,r 60,r 60],f "builtin_function_or_method" [u "object.__init_subclass__",r 60]]
noncomputable def c2(P:N'):List Obj:=[p [r 39],z1,d P [("__module__",263,m1),("__qualname__",265,v "HostFault" 264),("__firstlineno__",267,j 15 266),("__init__",276,r 77),("__static_attributes__",279,r 78)] 5,p [],l [i 17,i 4,r 76],w "HostFault" "HostFault" 258 15 0 0 0 0 66 false 181 .none .none .none .none 261,⟨y "frame",F',.plain,#[o (r 68),o (r 3),o (r 65),F',o m1,F',o (r 0)]⟩,p [v "" 268]]++Fm m1 4 0 "HostFault.__init__" 71 269 (r 70)++[p [v "number" 277,v "text" 278],d P [("__module__",263,m1),("__firstlineno__",267,j 15 266),("__init__",276,r 77),("__static_attributes__",279,r 78),("__doc__",280,.none)] 2,k "HostFault" [r 39] [r 80,r 39,y "Exception",y "BaseException",y "object"] 79 [] #[o (r 63),F',o (v "HostFault" 256),o (v "HostFault" 264),o (u "Exception.__new__"),o (.bool true)],f "super" [r 80,r 80,r 80],f "builtin_function_or_method" [u "object.__init_subclass__",r 80]]
noncomputable def c3(P:N'):List Obj:=[p [j 1 285,v "any" 375],p [j 1 285,v "unknown" 376],p [j 1 285,v "never" 377],p [j 1 285,v "void" 378],p [j 1 285,v "undefined" 379],p [j 1 285,v "null" 380],p [j 1 285,v "string" 381],p [j 1 285,v "number" 382],p [j 2 287,j 0 383,j 0 384],p [j 2 287,j 1 385,j 0 386],p [j 1 285,v "object" 387],p [],p [],p [],p [],p [],p [j 8 299,r 94,r 95,r 96,r 97,r 98,j 0 388],p [j 8 389,j 9 390],p [j 6 295,r 100],p [j 1 285,v "error" 391],p [j 2 287,j 0 392,j 1 393],p [j 2 287,j 1 394,j 1 395],p [r 83,r 84,r 85,r 86,r 87,r 88,r 89,r 90,r 91,r 92,r 93,r 99,r 101,r 102,r 103,r 104],p [j 2 287,j 3 289,j 4 291,j 5 293],p [j 2 287,j 3 289,j 4 291,j 5 293,j 8 299],p [j 8 299,j 9 301,j 11 305,j 12 307,j 13 309],⟨y "dict",F',.dict #[⟨3,j 3 325,j 6 369⟩,⟨4,j 4 327,j 5 367⟩,⟨5,j 5 329,j 4 365⟩,⟨6,j 6 331,j 1 359⟩,⟨7,j 7 333,j 2 361⟩,⟨10,j 10 339,j 7 371⟩] 6,#[]⟩]
noncomputable def c4(P:N'):List Obj:=[p [],z1,d P [("__module__",414,m2),("__qualname__",416,v "TypeTable" 415),("__firstlineno__",418,j 71 417),("__init__",426,r 123),("row",434,r 130),("put",443,r 137),("__static_attributes__",453,r 138)] 7,p [],l [i 73,i 4,r 122,i 86,i 4,r 129,i 89,i 4,r 136],w "TypeTable" "TypeTable" 409 71 0 0 0 0 113 false 181 .none .none .none .none 412,⟨y "frame",F',.plain,#[o (r 115),o (r 3),o (r 112),F',o m2,F',o (r 0)]⟩]++Fm m2 56 0 "TypeTable.__init__" 117 419 .none++Fm m2 56 1 "TypeTable.row" 124 427 .none++Fm m2 56 2 "TypeTable.put" 131 435 .none++[p [v "bounds" 444,v "decls" 445,v "defaults" 446,v "index" 447,v "names" 448,v "origins" 449,v "renamed" 450,v "rows" 451,v "shaping" 452],d P [("__module__",414,m2),("__firstlineno__",418,j 71 417),("__init__",426,r 123),("row",434,r 130),("put",443,r 137),("__static_attributes__",453,r 138),("__dict__",455,r 141),("__weakref__",457,r 142),("__doc__",458,.none)] 4,k "TypeTable" [y "object"] [r 140,y "object"] 139 [] #[F',F',o (v "TypeTable" 407),o (v "TypeTable" 415),o (u "object.__new__"),o (.bool true)],f "getset_descriptor" [v "__dict__" 454,r 140,u "function.__dict__",u "function.__dict__#set"],f "getset_descriptor" [v "__weakref__" 456,r 140,u "ExceptionGroup.__weakref__",.none],f "super" [r 140,r 140,r 140],f "builtin_function_or_method" [u "object.__init_subclass__",r 140],p [],z1,d P [("__module__",468,m2),("__qualname__",470,v "Decl" 469),("__firstlineno__",472,j 96 471),("__init__",482,r 158),("__static_attributes__",498,r 159)] 5,p [],l [i 98,i 4,r 157],w "Decl" "Decl" 463 96 0 0 0 0 148 false 181 .none .none .none .none 466,⟨y "frame",F',.plain,#[o (r 150),o (r 3),o (r 147),F',o m2,F',o (r 0)]⟩]++Fm m2 57 0 "Decl.__init__" 152 473 .none++[p [v "abstract" 483,v "at" 484,v "bases" 485,v "body" 486,v "busy" 487,v "did" 488,v "extends_class" 489,v "file" 490,v "kind" 491,v "members" 492,v "name" 493,v "nid" 494,v "params" 495,v "static" 496,v "variances" 497],d P [("__module__",468,m2),("__firstlineno__",472,j 96 471),("__init__",482,r 158),("__static_attributes__",498,r 159),("__dict__",500,r 162),("__weakref__",502,r 163),("__doc__",503,.none)] 4,k "Decl" [y "object"] [r 161,y "object"] 160 [] #[F',F',o (v "Decl" 461),o (v "Decl" 469),o (u "object.__new__"),o (.bool true)],f "getset_descriptor" [v "__dict__" 499,r 161,u "function.__dict__",u "function.__dict__#set"],f "getset_descriptor" [v "__weakref__" 501,r 161,u "ExceptionGroup.__weakref__",.none],f "super" [r 161,r 161,r 161],f "builtin_function_or_method" [u "object.__init_subclass__",r 161]]
noncomputable def c5(P:N'):List Obj:=F m2 58 166 506++[p [j 0 514]]++Fd m2 59 174 515 (r 173)++G m2 60 181 524++[p [],p [],p [],p [],p [r 186,r 187,r 188,r 189,j 0 530]]++Fd m2 61 191 531 (r 190)++F m2 62 198 544++[p [j (-1) 553,j (-1) 555]]++Fd m2 63 206 556 (r 205)++F m2 64 213 567++F m2 65 220 577++F m2 66 227 586++F m2 67 234 594++F m2 68 241 603++F m2 69 248 610++F m2 70 255 619++G m2 71 262 627++F m2 72 267 633++F m2 73 274 641++F m2 74 281 649
noncomputable def c6(P:N'):List Obj:=F m2 75 288 657++F m2 76 295 666++G m2 77 302 674++G m2 78 307 680++F m2 79 312 686++F m2 80 319 697++F m2 81 326 708++[p [v "charAt" 727,v "concat" 728,v "includes" 729,v "indexOf" 730,v "length" 731,v "slice" 732,v "toLowerCase" 733,v "toString" 734,v "toUpperCase" 735]]++G m3 89 334 737++G m3 90 339 743++F m3 91 344 749++F m3 92 351 760++F m3 93 358 770++F m3 94 365 781++F m3 95 372 791++F m3 96 379 802
noncomputable def c7(P:N'):List Obj:=F m3 97 386 813++F m3 98 393 824++F m3 99 400 837++G m3 100 407 846++F m3 101 412 852++F m3 102 419 865++F m3 103 426 875++F m3 104 433 885++[p [j 0 898]]++Fd m3 105 441 899 (r 440)++G m3 106 448 911++F m3 107 453 917++G m3 108 460 925++F m3 109 465 931++F m3 110 472 938++G m3 111 479 946++F m3 112 484 952++G m3 113 491 964++G m3 114 496 970
noncomputable def c8(P:N'):List Obj:=F m3 115 501 976++G m3 116 508 985++[p [j 1 285,j 2 287,j 3 289,j 4 291,j 5 293]]
noncomputable def c9(P:N'):List Obj:=[p [],z1,d P [("__module__",1005,m4),("__qualname__",1007,v "Thin" 1006),("__firstlineno__",1009,j 466 1008),("__init__",1017,r 527),("force",1025,r 534),("put_deferred",1033,r 541),("put_cond",1042,r 548),("lay_row",1051,r 555),("bound",1059,r 562),("fits",1068,r 569),("lies",1077,r 576),("infers",1087,r 583),("tpl_fits",1096,r 590),("shape_fits",1105,r 597),("put_in",1114,r 604),("own_sig",1123,r 611),("list_prop",1132,r 618),("list_index",1140,r 625),("__static_attributes__",1144,r 626)] 19,p [],l [i 468,i 4,r 526,i 473,i 4,r 533,i 476,i 4,r 540,i 479,i 4,r 547,i 482,i 4,r 554,i 485,i 4,r 561,i 488,i 4,r 568,i 491,i 4,r 575,i 494,i 4,r 582,i 497,i 4,r 589,i 500,i 4,r 596,i 503,i 4,r 603,i 506,i 4,r 610,i 509,i 4,r 617,i 512,i 4,r 624],w "Thin" "Thin" 1000 466 0 0 0 0 517 false 181 .none .none .none .none 1003,⟨y "frame",F',.plain,#[o (r 519),o (r 3),o (r 516),F',o m4,F',o (r 0)]⟩]++Fm m4 121 0 "Thin.__init__" 521 1010 .none++Fm m4 121 1 "Thin.force" 528 1018 .none++Fm m4 121 2 "Thin.put_deferred" 535 1026 .none++Fm m4 121 3 "Thin.put_cond" 542 1034 .none++Fm m4 121 4 "Thin.lay_row" 549 1043 .none++Fm m4 121 5 "Thin.bound" 556 1052 .none++Fm m4 121 6 "Thin.fits" 563 1060 .none++Fm m4 121 7 "Thin.lies" 570 1069 .none++Fm m4 121 8 "Thin.infers" 577 1078 .none++Fm m4 121 9 "Thin.tpl_fits" 584 1088 .none++Fm m4 121 10 "Thin.shape_fits" 591 1097 .none++Fm m4 121 11 "Thin.put_in" 598 1106 .none++Fm m4 121 12 "Thin.own_sig" 605 1115 .none++Fm m4 121 13 "Thin.list_prop" 612 1124 .none++Fm m4 121 14 "Thin.list_index" 619 1133 .none++[p [v "deep" 1141,v "most_rounds" 1142,v "tab" 1143],d P [("__module__",1005,m4),("__firstlineno__",1009,j 466 1008),("__init__",1017,r 527),("force",1025,r 534),("put_deferred",1033,r 541),("put_cond",1042,r 548),("lay_row",1051,r 555),("bound",1059,r 562),("fits",1068,r 569),("lies",1077,r 576),("infers",1087,r 583),("tpl_fits",1096,r 590),("shape_fits",1105,r 597),("put_in",1114,r 604),("own_sig",1123,r 611),("list_prop",1132,r 618),("list_index",1140,r 625),("__static_attributes__",1144,r 626),("__dict__",1146,r 629),("__weakref__",1148,r 630),("__doc__",1149,.none)] 4,k "Thin" [y "object"] [r 628,y "object"] 627 [] #[F',F',o (v "Thin" 998),o (v "Thin" 1006),o (u "object.__new__"),o (.bool true)],f "getset_descriptor" [v "__dict__" 1145,r 628,u "function.__dict__",u "function.__dict__#set"],f "getset_descriptor" [v "__weakref__" 1147,r 628,u "ExceptionGroup.__weakref__",.none],f "super" [r 628,r 628,r 628],f "builtin_function_or_method" [u "object.__init_subclass__",r 628]]
noncomputable def c10(P:N'):List Obj:=[p [r 628],z1,d P [("__module__",1159,m4),("__qualname__",1161,v "RefHost" 1160),("__firstlineno__",1163,j 514 1162),("__init__",1171,r 646),("shape",1179,r 653),("fits",1188,r 660),("lies",1197,r 667),("__static_attributes__",1201,r 668)] 8,p [],l [i 516,i 4,r 645,i 521,i 4,r 652,i 524,i 4,r 659,i 527,i 4,r 666],w "RefHost" "RefHost" 1154 514 0 0 0 0 636 false 181 .none .none .none .none 1157,⟨y "frame",F',.plain,#[o (r 638),o (r 3),o (r 635),F',o m4,F',o (r 0)]⟩]++Fm m4 122 0 "RefHost.__init__" 640 1164 .none++Fm m4 122 1 "RefHost.shape" 647 1172 .none++Fm m4 122 2 "RefHost.fits" 654 1180 .none++Fm m4 122 3 "RefHost.lies" 661 1189 .none++[p [v "deep" 1198,v "most_rounds" 1199,v "tab" 1200],d P [("__module__",1159,m4),("__firstlineno__",1163,j 514 1162),("__init__",1171,r 646),("shape",1179,r 653),("fits",1188,r 660),("lies",1197,r 667),("__static_attributes__",1201,r 668),("__doc__",1202,.none)] 2,k "RefHost" [r 628] [r 670,r 628,y "object"] 669 [] #[o (r 633),F',o (v "RefHost" 1152),o (v "RefHost" 1160),o (u "object.__new__"),o (.bool true)],f "super" [r 670,r 670,r 670],f "builtin_function_or_method" [u "object.__init_subclass__",r 670]]++F m4 123 673 1205++F m4 124 680 1215++F m4 125 687 1223++F m4 126 694 1231++G m4 127 701 1240++F m4 128 706 1246++F m4 129 713 1253
noncomputable def c11(P:N'):List Obj:=F m4 130 720 1263++G m4 131 727 1271++F m4 132 732 1277++G m4 133 739 1289++F m4 134 744 1295++[p [j 1 359,j 2 361,j 3 363],p [j 4 365,j 5 367,j 6 369]]++F m5 138 753 1309++F m5 139 760 1318++G m5 140 767 1332++G m5 141 772 1338++F m5 142 777 1344++G m5 143 784 1353++G m5 144 789 1359++G m5 145 794 1365++F m5 146 799 1371++F m5 147 806 1383++[p [j 1 359,j 2 361,j 3 363,j 4 365,j 5 367,j 6 369]]++F m6 150 814 1397
noncomputable def c12(P:N'):List Obj:=G m6 151 821 1405++G m6 152 826 1411++F m6 153 831 1417++F m6 154 838 1429++G m6 155 845 1438++G m6 156 850 1444++F m6 157 855 1450++F m6 158 862 1458++F m6 159 869 1467++F m6 160 876 1477++G m6 161 883 1485++F m6 162 888 1491++F m6 163 895 1504++G m6 164 902 1513++G m6 165 907 1519++G m6 166 912 1525++G m6 167 917 1531++[⟨y "list",F',.seq #[j 3 1539,j 5 1540,j 6 1541,j 8 1542,j 9 1543] 0,#[]⟩,⟨y "list",F',.seq #[j 0 1545,j 1 1546,j 2 1547,j 4 1548,j 7 1549] 0,#[]⟩,⟨y "list",F',.seq #[v "k" 1551,v "p" 1552] 0,#[]⟩]
noncomputable def c13(P:N'):List Obj:=F m7 172 925 1554++F m7 173 932 1560++F m7 174 939 1568++F m7 175 946 1577++F m7 176 953 1593++G m7 177 960 1609++F m7 178 965 1615++G m7 179 972 1623++G m7 180 977 1629++G m7 181 982 1635++G m7 182 987 1641
noncomputable def g1:List (String×Tok×G'):=[("__doc__",166,.none),("__package__",167,.none),("__loader__",168,u "__main__.__loader__#opaque"),("__spec__",169,.none),("__annotations__",170,r 6),("__builtins__",171,r 4),("__file__",173,v "/claim/cut.py" 172),("__cached__",174,.none),("_wall",193,r 21),("KeepError",226,r 39),("TooDeep",255,r 60)]
noncomputable def h1:List G':=q [(1,20),(5,27),(10,48)]
noncomputable def v1(P:N'):List (Nat×Obj):=[e2 P,(3,d P (("__name__",165,m1)::g1) 12),(12,l h1)]
noncomputable def g2:List (String×Tok×G'):=g1++[("HostFault",282,r 80),("Y_KEY",286,j 1 285),("Y_BOOL",288,j 2 287),("Y_STR",290,j 3 289),("Y_NUM",292,j 4 291),("Y_ENUM",294,j 5 293),("Y_UNION",296,j 6 295),("Y_INTER",298,j 7 297),("Y_OBJ",300,j 8 299),("Y_REF",302,j 9 301),("Y_PARAM",304,j 10 303),("Y_ARRAY",306,j 11 305),("Y_TUPLE",308,j 12 307),("Y_SIG",310,j 13 309),("Y_INDEX",312,j 15 311),("Y_COND",314,j 16 313),("Y_TPL",316,j 18 315),("Y_ALIAS",318,j 19 317),("ANY",320,j 0 319),("UNKNOWN",322,j 1 321),("NEVER",324,j 2 323),("VOID",326,j 3 325),("UNDEF",328,j 4 327),("NULLT",330,j 5 329),("STRING",332,j 6 331),("NUMBER",334,j 7 333),("FALSE_T",336,j 8 335),("TRUE_T",338,j 9 337),("OBJECTT",340,j 10 339),("EMPTY",342,j 11 341),("ERR",344,j 13 343),("FRESH_F",346,j 14 345),("FRESH_T",348,j 15 347),("P_OPT",350,j 1 349)]
noncomputable def h2:List G':=h1++q [(15,68)]
noncomputable def v2(P:N'):List (Nat×Obj):=[e2 P,(3,d P (("__name__",165,m2)::g2) 46),(12,l h2),e39]
noncomputable def g3:List (String×Tok×G'):=g2++[("E_OPT",352,j 1 351),("E_REST",354,j 2 353),("E_SPREAD",356,j 3 355),("FAM_OTHER",358,j 0 357),("FAM_STR",360,j 1 359),("FAM_NUM",362,j 2 361),("FAM_BOOL",364,j 3 363),("FAM_NULL",366,j 4 365),("FAM_UNDEF",368,j 5 367),("FAM_VOID",370,j 6 369),("FAM_OBJ",372,j 7 371),("MAX_UNION",374,j 400 373),("FIRST_ROWS",396,r 105),("LITERAL_ROWS",397,r 106),("MARKED_ROWS",398,r 107),("OBJECT_ROWS",399,r 108),("KEY_FAMILIES",406,r 109)]
noncomputable def h3:List G':=h2++q []
noncomputable def v3(P:N'):List (Nat×Obj):=[e2 P,(3,d P (("__name__",165,m2)::g3) 63),(12,l h3),e39]
noncomputable def g4:List (String×Tok×G'):=g3++[("TypeTable",460,r 140),("Decl",505,r 161)]
noncomputable def h4:List G':=h3++q [(71,115),(96,150)]
noncomputable def v4(P:N'):List (Nat×Obj):=[e2 P,(3,d P (("__name__",165,m2)::g4) 65),(12,l h4),e39]
noncomputable def g5:List (String×Tok×G'):=g4++[("kind_of",513,r 172),("str_type",523,r 180),("sorted_props",529,r 185),("obj_type",543,r 197),("func_type",551,r 204),("new_param",566,r 212),("new_decl",576,r 219),("parts_of",585,r 226),("whole_of_row",593,r 233),("regular_twin",602,r 240),("join_bools",609,r 247),("stays_beside",618,r 254),("top_of",626,r 261),("union",632,r 266),("add_undef",640,r 273),("is_literal",648,r 280),("is_unit",656,r 287)]
noncomputable def h5:List G':=h4++q [(114,171),(116,179),(118,184),(123,196),(125,203),(127,211),(133,218),(137,225),(144,232),(153,239),(158,246),(162,253),(166,260),(171,265),(188,272),(190,279),(192,286)]
noncomputable def v5(P:N'):List (Nat×Obj):=[e2 P,(3,d P (("__name__",165,m2)::g5) 82),(12,l h5),e39]
noncomputable def g6:List (String×Tok×G'):=g5++[("is_fresh",665,r 294),("regular_one",673,r 301),("regular",679,r 306),("common_family",685,r 311),("meet_family",696,r 318),("family",707,r 325),("is_nullish_family",714,r 332),("MAX_DRAWN",718,j 200 717),("MEET_NEVER",720,j 0 719),("MEET_LEFT",722,j 1 721),("MEET_RIGHT",724,j 2 723),("MEET_BOTH",726,j 3 725),("PRIMITIVE_NAMES",736,r 333),("all_units",742,r 338),("all_values",748,r 343),("units_clash",759,r 350),("flat_props",769,r 357),("shapes_clash",780,r 364),("meet_nullish",790,r 371),("meet_values",801,r 378),("meet_objects",812,r 385)]
noncomputable def h6:List G':=h5++q [(194,293),(197,300),(201,305),(205,310),(209,317),(218,324),(235,331),(244,337),(247,342),(250,349),(258,356),(266,363),(274,370),(280,377),(290,384)]
noncomputable def v6(P:N'):List (Nat×Obj):=[e2 P,(3,d P (("__name__",165,m3)::g6) 103),(12,l h6),e39]
noncomputable def g7:List (String×Tok×G'):=g6++[("meet_case",823,r 392),("lay_on",836,r 399),("members_of_meet",845,r 406),("meet_parts",851,r 411),("meet_two",864,r 418),("inter",874,r 425),("value_holds",884,r 432),("units_fit",897,r 439),("may_be_nullish",910,r 447),("meet_may_be_nullish",916,r 452),("not_nullish",924,r 459),("remove_nullish",930,r 464),("literal_truth",937,r 471),("truthy_of",945,r 478),("truthy_part",951,r 483),("typeops_all_props",963,r 490),("loose_props",969,r 495),("lets_primitive",975,r 500)]
noncomputable def h7:List G':=h6++q [(298,391),(312,398),(326,405),(333,410),(342,417),(356,424),(364,431),(369,438),(379,446),(393,451),(398,458),(406,463),(408,470),(412,477),(417,482),(419,489),(427,494),(441,499)]
noncomputable def v7(P:N'):List (Nat×Obj):=[e2 P,(3,d P (("__name__",165,m3)::g7) 121),(12,l h7),e39]
noncomputable def g8:List (String×Tok×G'):=g7++[("falsy_of",984,r 507),("falsy_part",990,r 512),("MOST_ROUNDS",994,j 200 993),("MOST_SHAPES",996,j 40 995),("PLAIN_ROWS",997,r 513)]
noncomputable def h8:List G':=h7++q [(449,506),(460,511)]
noncomputable def v8(P:N'):List (Nat×Obj):=[e2 P,(3,d P (("__name__",165,m4)::g8) 126),(12,l h8),e39]
noncomputable def g9:List (String×Tok×G'):=g8++[("Thin",1151,r 628)]
noncomputable def h9:List G':=h8++q [(466,519)]
noncomputable def v9(P:N'):List (Nat×Obj):=[e2 P,(3,d P (("__name__",165,m4)::g9) 127),(12,l h9),e39]
noncomputable def g10:List (String×Tok×G'):=g9++[("RefHost",1204,r 670),("plain_shape",1214,r 679),("elem_read",1222,r 686),("told_places",1230,r 693),("find_prop",1239,r 700),("is_digits",1245,r 705),("is_number_name",1252,r 712),("prop_row",1262,r 719)]
noncomputable def h10:List G':=h9++q [(514,638),(529,678),(542,685),(546,692),(553,699),(558,704),(561,711),(563,718)]
noncomputable def v10(P:N'):List (Nat×Obj):=[e2 P,(3,d P (("__name__",165,m4)::g10) 135),(12,l h10),e39,abT]
noncomputable def g11:List (String×Tok×G'):=g10++[("read_type",1270,r 726),("late_place",1276,r 731),("index_read",1288,r 738),("prop_of_parts",1294,r 743),("prop_type",1304,r 750),("COERCED",1307,r 751),("NULLISH",1308,r 752),("plain_value",1317,r 759),("plain_meets",1331,r 766),("is_nullish_kind",1337,r 771),("sharpen",1343,r 776),("narrow_plain_truthy",1352,r 783),("nullish_side",1358,r 788),("unknown_equal",1364,r 793),("plain_equal_yes",1370,r 798),("plain_equal_no",1382,r 805),("narrow_plain_equal",1393,r 812),("PRIMITIVES",1396,r 813),("narrow_is_primitive",1404,r 820)]
noncomputable def h11:List G':=h10++q [(569,725),(571,730),(576,737),(585,742),(588,749),(601,758),(612,765),(624,770),(627,775),(635,782),(639,787),(654,792),(666,797),(677,804),(688,811),(698,819)]
noncomputable def v11(P:N'):List (Nat×Obj):=[e2 P,(3,d P (("__name__",165,m6)::g11) 154),(12,l h11),e39,abT]
noncomputable def g12:List (String×Tok×G'):=g11++[("all_primitive",1410,r 825),("is_loose",1416,r 830),("part_meets",1428,r 837),("narrow_truthy",1437,r 844),("equal_part",1443,r 849),("narrow_equal",1449,r 854),("record_of",1457,r 861),("may_have",1466,r 868),("surely_has",1476,r 875),("has_members",1484,r 882),("in_yes",1490,r 887),("narrow_in",1503,r 894),("member_read",1512,r 901),("members_read",1518,r 906),("union_passing",1524,r 911),("narrow_discriminant",1530,r 916),("narrow_member_truthy",1536,r 921),("_law_true",1544,r 922),("_law_false",1550,r 923),("_law_names",1553,r 924)]
noncomputable def h12:List G':=h11++q [(700,824),(702,829),(707,836),(717,843),(719,848),(726,853),(736,860),(738,867),(742,874),(745,881),(747,886),(760,893),(770,900),(776,905),(780,910),(785,915),(790,920)]
noncomputable def v12(P:N'):List (Nat×Obj):=[e2 P,(3,d P (("__name__",165,m7)::g12) 174),(12,l h12),e39,abT]
noncomputable def g13:List (String×Tok×G'):=g12++[("_law_asks",1559,r 931),("_law_draw",1567,r 938),("_law_tags",1576,r 945),("_law_shape",1592,r 952),("_law_part",1608,r 959),("_law_is",1614,r 964),("_law_parts",1622,r 971),("_law_goes",1628,r 976),("_law_member",1634,r 981),("_law_has",1640,r 986),("law",1646,r 991)]
noncomputable def h13:List G':=h12++q [(799,930),(801,937),(803,944),(807,951),(823,958),(849,963),(856,970),(862,975),(869,980),(874,985),(887,990)]
noncomputable def v13(P:N'):List (Nat×Obj):=[e2 P,(3,d P (("__name__",165,m7)::g13) 185),(12,l h13),e39,abT]
noncomputable def a1(P:N'):List Obj:=c0 P++c1 P
noncomputable def a2(P:N'):List Obj:=a1 P++c2 P
noncomputable def a3(P:N'):List Obj:=a2 P++c3 P
noncomputable def a4(P:N'):List Obj:=a3 P++c4 P
noncomputable def a5(P:N'):List Obj:=a4 P++c5 P
noncomputable def a6(P:N'):List Obj:=a5 P++c6 P
noncomputable def a7(P:N'):List Obj:=a6 P++c7 P
noncomputable def a8(P:N'):List Obj:=a7 P++c8 P
noncomputable def a9(P:N'):List Obj:=a8 P++c9 P
noncomputable def a10(P:N'):List Obj:=a9 P++c10 P
noncomputable def a11(P:N'):List Obj:=a10 P++c11 P
noncomputable def a12(P:N'):List Obj:=a11 P++c12 P
noncomputable def a13(P:N'):List Obj:=a12 P++c13 P
noncomputable def t0(P:N'):BT:=dY 20 (c0 P)
noncomputable def t1(P:N'):BT:=lay (dY 20 (a1 P)) (v1 P)
noncomputable def t2(P:N'):BT:=lay (dY 20 (a2 P)) (v2 P)
noncomputable def t3(P:N'):BT:=lay (dY 20 (a3 P)) (v3 P)
noncomputable def t4(P:N'):BT:=lay (dY 20 (a4 P)) (v4 P)
noncomputable def t5(P:N'):BT:=lay (dY 20 (a5 P)) (v5 P)
noncomputable def t6(P:N'):BT:=lay (dY 20 (a6 P)) (v6 P)
noncomputable def t7(P:N'):BT:=lay (dY 20 (a7 P)) (v7 P)
noncomputable def t8(P:N'):BT:=lay (dY 20 (a8 P)) (v8 P)
noncomputable def t9(P:N'):BT:=lay (dY 20 (a9 P)) (v9 P)
noncomputable def t10(P:N'):BT:=lay (dY 20 (a10 P)) (v10 P)
noncomputable def t11(P:N'):BT:=lay (dY 20 (a11 P)) (v11 P)
noncomputable def t12(P:N'):BT:=lay (dY 20 (a12 P)) (v12 P)
noncomputable def t13(P:N'):BT:=lay (dY 20 (a13 P)) (v13 P)
end H
@[irreducible] noncomputable def Gc (P:N') (os:adk):adq:=at_ P (H.t0 P) 15 187 os
@[irreducible] noncomputable def Ii (P:N') (os:adk):adq:=at_ P (H.t1 P) 63 256 os
@[irreducible] noncomputable def GI (P:N') (os:adk):adq:=at_ P (H.t2 P) 83 351 os
@[irreducible] noncomputable def GJ (P:N') (os:adk):adq:=at_ P (H.t3 P) 110 407 os
@[irreducible] noncomputable def Ij (P:N') (os:adk):adq:=at_ P (H.t4 P) 166 506 os
@[irreducible] noncomputable def Ik (P:N') (os:adk):adq:=at_ P (H.t5 P) 288 657 os
@[irreducible] noncomputable def Il (P:N') (os:adk):adq:=at_ P (H.t6 P) 386 813 os
@[irreducible] noncomputable def Im (P:N') (os:adk):adq:=at_ P (H.t7 P) 501 976 os
@[irreducible] noncomputable def Io (P:N') (os:adk):adq:=at_ P (H.t8 P) 514 998 os
@[irreducible] noncomputable def Ip (P:N') (os:adk):adq:=at_ P (H.t9 P) 633 1152 os
@[irreducible] noncomputable def Ew (P:N') (os:adk):adq:=at_ P (H.t10 P) 720 1263 os
@[irreducible] noncomputable def Ey (P:N') (os:adk):adq:=at_ P (H.t11 P) 821 1405 os
@[irreducible] noncomputable def Ez (P:N') (os:adk):adq:=at_ P (H.t12 P) 925 1554 os
@[irreducible] noncomputable def xo (P:N') (os:adk):adq:=at_ P (H.t13 P) 992 1647 os
noncomputable def Hq(n f c:Nat)(p q:Pos)(a b:N'->adk->adq)(w:U'):Prop:=(λos=>segRunT adm pw w 11 (B' (.ref 6)) 1 n (a w.params os) (piecesOf ((wa.drop f).take c) rM wb p zC))=(λos=>B' (.next,b w.params os,wb,q))
theorem Cs(w:U'):Hq 520 0 4 ⟨0,0,0,0⟩ ⟨10,0,14,24⟩ Gc Ii w:=by unfold Hq;rw[aI,aA];kernel_rfl
theorem Ct(w:U'):Hq 555 4 35 ⟨10,0,14,24⟩ ⟨53,0,53,5⟩ Ii GI w:=by unfold Hq;rw[aI,aA];kernel_rfl
theorem Cu(w:U'):Hq 374 39 17 ⟨53,0,53,5⟩ ⟨70,0,70,12⟩ GI GJ w:=byRow2 (P:=Hq 374 39 17 ⟨53,0,53,5⟩ ⟨70,0,70,12⟩ GI GJ) "special-get-raises" (λw=>by unfold Hq;rw[aI,aA];kernel_rfl) (λw=>by unfold Hq;rw[aI,aA];kernel_rfl) w
theorem Cv(w:U'):Hq 534 56 2 ⟨70,0,70,12⟩ ⟨96,0,113,20⟩ GJ Ij w:=by unfold Hq;rw[aI,aA];kernel_rfl
theorem Cw(w:U'):Hq 541 58 17 ⟨96,0,113,20⟩ ⟨192,0,193,57⟩ Ij Ik w:=by unfold Hq;rw[aI,aA];kernel_rfl
theorem Cx(w:U'):Hq 530 75 22 ⟨192,0,193,57⟩ ⟨290,0,297,63⟩ Ik Il w:=by unfold Hq;rw[aI,aA];kernel_rfl
theorem Cy(w:U'):Hq 549 97 18 ⟨290,0,297,63⟩ ⟨441,0,448,75⟩ Il Im w:=by unfold Hq;rw[aI,aA];kernel_rfl
theorem Cz(w:U'):Hq 105 115 6 ⟨441,0,448,75⟩ ⟨465,0,465,10⟩ Im Io w:=by unfold Hq;rw[aI,aA];kernel_rfl
theorem CA(w:U'):Hq 684 121 1 ⟨465,0,465,10⟩ ⟨466,0,513,16⟩ Io Ip w:=by unfold Hq;rw[aI,aA];kernel_rfl
theorem zD(w:U'):Hq 556 122 8 ⟨466,0,513,16⟩ ⟨563,0,568,56⟩ Ip Ew w:=by unfold Hq;rw[aI,aA];kernel_rfl
theorem zE(w:U'):Hq 546 130 21 ⟨563,0,568,56⟩ ⟨698,0,699,39⟩ Ew Ey w:=by unfold Hq;rw[aI,aA];kernel_rfl
theorem zF(w:U'):Hq 540 151 21 ⟨698,0,699,39⟩ ⟨798,0,798,10⟩ Ey Ez w:=by unfold Hq;rw[aI,aA];kernel_rfl
theorem zG(w:U'):Hq 326 172 11 ⟨798,0,798,10⟩ ⟨887,0,938,69⟩ Ez xo w:=by unfold Hq;rw[aI,aA];kernel_rfl
theorem GK(w:U'):(λos=>topGo adm pw w 11 (B' (.ref 6)) 12 ⟨ael w.params,#[],adh,aeo,os⟩ (topStub pw))=(λos=>B' ((Gc w.params os).abs,(⟨denote adm wb,wb,⟨0,0,0,0⟩,zC⟩:Thread))):=by
 rw[PySem.W.Fast.te15667345088766844465,aA,PySem.W.Fast.te11892475500146522536]
 kernel_rfl
theorem GL(w:U'):(λos=>segRun adm pw w 11 (B' (.ref 6)) 1 1 (Gc w.params os).abs (blockOf wa rM wb ⟨0,0,0,0⟩ zC))=(λos=>B' (.next,(Gc w.params os).abs,wb,⟨0,0,0,0⟩)):=by
 rw[PySem.W.Fast.te14374325043358763698,aA]
 kernel_rfl
theorem GM(w:U'):(λos=>aeC adm pw w 11 (B' (.ref 6)) 2 (xo w.params os).abs ⟨doneF .next,wb,⟨887,0,938,69⟩,zC⟩)=(λos=>B' (xo w.params os).abs):=by
 rw[PySem.W.Fast.te14082659384304107361,aA]
 kernel_rfl
theorem xq:wa.drop 183=[]:=by kernel_rfl
theorem JP(f c:Nat):(wa.drop f).take c++wa.drop (f+c)=wa.drop f:=by
 rw[<- List.drop_drop];exact List.take_append_drop _ _
theorem dS{w:U'}{N f:Nat}{s s':adq}{r:H'}{p p':Pos}(h:segRunT adm pw w 11 (B' (.ref 6)) 1 n s (piecesOf ((wa.drop f).take c) rM wb p zC)=B' (.next,s',wb,p'))(k:aeC adm pw w 11 (B' (.ref 6)) N s'.abs (restOf (wa.drop (f+c)) rM wb p' zC)=B' r):aeC adm pw w 11 (B' (.ref 6)) (n+N) s.abs (restOf (wa.drop f) rM wb p zC)=B' r:=by
 rw[<- JP f c]
 exact piece_app (segRun_of h) k
theorem GN(w:U')(os:adk):aeC adm pw w 11 (B' (.ref 6)) (12+(1+(520+(555+(374+(534+(541+(530+(549+(105+(684+(556+(546+(540+(326+2))))))))))))))) ⟨ael w.params,#[],adh,aeo,os⟩ (topStub pw)=B' (xo w.params os).abs:=by
 refine go_top (cb (GK w) os) (piece_block (cb (GL w) os) ?_)
 show aeC adm pw w 11 (B' (.ref 6)) _ _ (restOf (wa.drop 0) rM wb _ zC)=_
 refine dS (cb (Cs w) os) (dS (cb (Ct w) os) (dS (cb (Cu w) os) (dS (cb (Cv w) os) (dS (cb (Cw w) os) (dS (cb (Cx w) os) (dS (cb (Cy w) os) (dS (cb (Cz w) os) (dS (cb (CA w) os) (dS (cb (zD w) os) (dS (cb (zE w) os) (dS (cb (zF w) os) (dS (cb (zG w) os) ?_))))))))))))
 show aeC adm pw w 11 (B' (.ref 6)) _ _ (restOf (wa.drop 183) rM wb _ zC)=_
 rw[xq]
 exact cb (GM w) os
@[irreducible] noncomputable def H0 (P:N'):P':=ael P
@[irreducible] noncomputable def H1 (P:N'):P':=absHeap (H.t13 P) 992 (ael P).life
@[irreducible] noncomputable def qv:aem:={pw with main:={pw.main with body:=[cR 182]}}
@[irreducible] noncomputable def iU:List O':=pw.boundNames.filter λn=>!(n==S "law")
theorem EA(w:U'):((H0 w.params).isNs mainGlobals&&(#[]:Array GenState).size==0,(H0 w.params).objs.size,(H0 w.params).nsMap mainGlobals "__annotations__")=(true,11,B' (.ref 6)):=by kernel_rfl
theorem EB(w:U'):staticsOk (adC pw.main.body) (H0 w.params) (H1 w.params)=true:=by kernel_rfl
theorem EC(w:U'):namesBound pw (H1 w.params)=true:=by kernel_rfl
theorem ED(w:U'):laidKept (H0 w.params) (H1 w.params)=true:=by kernel_rfl
theorem EE(w:U'):(λos=>openSeen qv iU (adC pw.main.body) (λO=>true) true ⟨H1 w.params,#[],adh,1647,os⟩)=(λos=>openGood qv iU):=by
 rw[PySem.W.Fast.te4187177175401517315];kernel_rfl
theorem EF:∀w:U',(fencedOpening adm pw w 12820).map (λs=>(s.heap,s.gens,s.drawn,s.toks))=B' (H0 w.params,#[],adh,aeo):=by
 unfold H0
 exact boot_open (p:=pw) (N:=12820) (by kernel_rfl) (by decide) (λs=>by rfl)
theorem xr(P:N')(os:adk):(xo P os).abs=⟨H1 P,#[],adh,1647,os⟩:=by kernel_rfl
theorem GP(w:U')(os:adk):aeC adm pw w 11 (B' (.ref 6)) (12+(1+(520+(555+(374+(534+(541+(530+(549+(105+(684+(556+(546+(540+(326+2))))))))))))))) ⟨H0 w.params,#[],adh,aeo,os⟩ (topStub pw)=B' ⟨H1 w.params,#[],adh,1647,os⟩:=by
 have h:=GN w os
 rw[xr] at h
 unfold H0
 exact h
theorem CB(w:U'):(λos=>((staticsOk (adC pw.main.body) (H0 w.params) (H1 w.params)&&namesBound pw (H1 w.params)&&gensDone ⟨H1 w.params,#[],adh,1647,os⟩&&laidKept (H0 w.params) (H1 w.params)),openSeen qv iU (adC pw.main.body) (λO=>true) true ⟨H1 w.params,#[],adh,1647,os⟩,(⟨H1 w.params,#[],adh,1647,os⟩:H').heap))=λos=>(true,openGood qv iU,H1 w.params):=by
 funext os
 have h5:=cb (EE w) os
 refine Prod.ext ?_ (Prod.ext h5 rfl)
 dsimp only
 rw[EB,EC,ED]
 rfl
theorem EG:LeftO pw qv iU (λO=>true) (λs=>s.heap) (λw=>H1 w.params) 12820 true:=LeftO.of_pieces (Yf:=λs:H'=>s.heap) (Ya:=λw=>H1 w.params) (H₀:=H0) (H₁:=H1) (gs₀:=#[]) (gs₁:=#[]) (d₀:=adh) (d₁:=adh) (k₀:=aeo) (k₁:=1647) (m₀:=11) (ann:=B' (.ref 6)) (M:=12+(1+(520+(555+(374+(534+(541+(530+(549+(105+(684+(556+(546+(540+(326+2))))))))))))))) EF EA GP (by decide) CB
@[irreducible] noncomputable def qj:DefRec:=match cR 182 with
 |.FunctionDef n a b _ _ _ sc _ _ p=>⟨n,a,b,sc,p⟩
 |_=>⟨S "",{posonlyargs:=[],args:=[],vararg:=F',kwonlyargs:=[],kw_defaults:=[],kwarg:=F',defaults:=[]},[],pw.main.scope,⟨0,0,0,0⟩⟩
noncomputable abbrev lr:OpenRow:=PySem.Challenge.rw_pc0114_01.row
theorem EH:defOf qv lr.name=B' (qj,[]):=by kernel_rfl
theorem JQ:lr.prog.theDef lr.name=B' (qj.params,qj.body,qj.scope):=by kernel_rfl
theorem JR:kwWritten? qj.params.kwonlyargs qj.params.kw_defaults=B' []:=by kernel_rfl
theorem JS:(chainsOk qv&&opensWell lr.prog&&(frees lr.toRowW&&lr.within.isEmpty))=true:=by kernel_rfl
theorem wc:lr.toRowW.promised:=by
 exact⟨[.list []],by decide+kernel,by decide+kernel⟩
theorem JT:lr.prog.tablesWhole=true:=by
 unfold Program.tablesWhole TablesWhole.wProgram
 rw[PySem.W.Fast.te6116379765354995101]
 kernel_rfl
theorem EI:lr.prog.bare:=⟨rfl,rfl,rfl,rfl,rfl,JT⟩
theorem main0(k1:lr.wellSaid=true)(call:WalkO qv iU (λO O=>True) (λw h=>∀b o,(H1 w.params).get? b=B' o->h.get? b=B' o) lr.toRowW qj [] λf vs=>PySem.call f vs):lr.Holds:=holds_open (r:=lr) (q:=qv) (loose:=iU) (Xt:=λO=>true) (XP:=λO O=>True) (Yf:=λs:H'=>s.heap) (Ya:=λw=>H1 w.params) (YP:=λw h=>∀b o,(H1 w.params).get? b=B' o->h.get? b=B' o) (N:=12820) EG (λw s e b o h=>by have e:s.heap=H1 w.params:=e;rw[e];exact h) (λw h h' y k b o e=>k b o (y b o e)) (λO O=>ao) (λO O O O O=>ao) EH JQ JR (λs O=>recFacts_nil rfl) rfl k1 JS EI wc call
theorem hide{G:Prop}(h:∀P:Prop,(G->P)->P):G:=h G id
@[elab_as_elim] theorem sb {α:Sort u} {a b:α} {P:α->Prop} (h:a=b) (k:P b):P a:=h▸k
variable {α:Type}
theorem no{z:α}{p:Prop}(e:F'=B' z):p:=nomatch e
theorem abj{α:Type}{o:Option α}{P:Prop}(h0:o=F'->P)(h1:∀a,o=B' a->P):P:=Option.casesOn (motive:=λx=>o=x->P) o h0 h1 rfl
theorem aaw{b:Bool}{P:Prop}(h0:b=false->P)(h1:b=true->P):P:=Bool.casesOn (motive:=λx=>b=x->P) b h0 h1 rfl
theorem nb{p:Prop}(e:false=true):p:=nomatch e
theorem aaU{α:Type}{c:Bool}{o:Option α}{b:α}{P:Prop}(e:(bif c then o else F')=B' b)(k:c=true->o=B' b->P):P:=by induction c using Bool.casesOn with|false=>exact no e|true=>exact k rfl e
theorem zH{α:Type}{c:Bool}{o:Option α}{b:α}{P:Prop}(e:(bif c then F' else o)=B' b)(k:c=false->o=B' b->P):P:=by induction c using Bool.casesOn with|true=>exact no e|false=>exact k rfl e
theorem xt{α:Type}{c:Bool}{x y:Option α}{b:α}{P:Prop}(e:(bif c then x else y)=B' b)(k:c=true->x=B' b->P)(k':c=false->y=B' b->P):P:=by
 induction c using Bool.casesOn with
 |false=>exact k' rfl e
 |true=>exact k rfl e
section
variable {A B C D E F G:Type}{P:Prop}
section
variable {p q r s t u v w:Prop}
theorem x02(h:p/\q)(k:p->q->P):P:=k h.1 h.2
theorem tJ(h:p/\q/\r)(k:p->q->r->P):P:=k h.1 h.2.1 h.2.2
theorem EJ(h:p/\q/\r/\s)(k:p->q->r->s->P):P:=k h.1 h.2.1 h.2.2.1 h.2.2.2
theorem Ek(h:p/\q/\r/\s/\t)(k:p->q->r->s->t->P):P:=k h.1 h.2.1 h.2.2.1 h.2.2.2.1 h.2.2.2.2
theorem GQ(h:p/\q/\r/\s/\t/\u)(k:p->q->r->s->t->u->P):P:=k h.1 h.2.1 h.2.2.1 h.2.2.2.1 h.2.2.2.2.1 h.2.2.2.2.2
theorem EK(h:p/\q/\r/\s/\t/\u/\v)(k:p->q->r->s->t->u->v->P):P:=k h.1 h.2.1 h.2.2.1 h.2.2.2.1 h.2.2.2.2.1 h.2.2.2.2.2.1 h.2.2.2.2.2.2
theorem ml(h0:p)(h1:q)(h2:r)(h3:s):p/\q/\r/\s:=⟨h0,h1,h2,h3⟩
theorem Gd(h0:p)(h1:q)(h2:r)(h3:s)(h4:t):p/\q/\r/\s/\t:=⟨h0,h1,h2,h3,h4⟩
theorem JU(h0:p)(h1:q)(h2:r)(h3:s)(h4:t)(h5:u):p/\q/\r/\s/\t/\u:=⟨h0,h1,h2,h3,h4,h5⟩
theorem EL(h0:p)(h1:q)(h2:r)(h3:s)(h4:t)(h5:u)(h6:v):p/\q/\r/\s/\t/\u/\v:=⟨h0,h1,h2,h3,h4,h5,h6⟩
theorem Iq(h0:p)(h1:q)(h2:r)(h3:s)(h4:t)(h5:u)(h6:v)(h7:w):p/\q/\r/\s/\t/\u/\v/\w:=⟨h0,h1,h2,h3,h4,h5,h6,h7⟩
end
section
variable {p q r s t u v w:A->Prop}
theorem x11(h:∃a,p a)(k:∀a,p a->P):P:=h.elim λa h=>k a h
theorem x12(h:∃a,p a/\q a)(k:∀a,p a->q a->P):P:=h.elim λa h=>k a h.1 h.2
theorem kQ(h:∃a,p a/\q a/\r a)(k:∀a,p a->q a->r a->P):P:=h.elim λa h=>k a h.1 h.2.1 h.2.2
theorem BD(h:∃a,p a/\q a/\r a/\s a)(k:∀a,p a->q a->r a->s a->P):P:=h.elim λa h=>k a h.1 h.2.1 h.2.2.1 h.2.2.2
theorem JV(h:∃a,p a/\q a/\r a/\s a/\t a)(k:∀a,p a->q a->r a->s a->t a->P):P:=h.elim λa h=>k a h.1 h.2.1 h.2.2.1 h.2.2.2.1 h.2.2.2.2
theorem Ir(h:∃a,p a/\q a/\r a/\s a/\t a/\u a/\v a/\w a)(k:∀a,p a->q a->r a->s a->t a->u a->v a->w a->P):P:=h.elim λa h=>k a h.1 h.2.1 h.2.2.1 h.2.2.2.1 h.2.2.2.2.1 h.2.2.2.2.2.1 h.2.2.2.2.2.2.1 h.2.2.2.2.2.2.2
theorem lU(a:A)(h0:p a)(h1:q a)(h2:r a):∃a,p a/\q a/\r a:=⟨a,h0,h1,h2⟩
theorem xv(a:A)(h0:p a)(h1:q a)(h2:r a)(h3:s a):∃a,p a/\q a/\r a/\s a:=⟨a,h0,h1,h2,h3⟩
theorem JW(a:A)(h0:p a)(h1:q a)(h2:r a)(h3:s a)(h4:t a)(h5:u a)(h6:v a)(h7:w a):∃a,p a/\q a/\r a/\s a/\t a/\u a/\v a/\w a:=⟨a,h0,h1,h2,h3,h4,h5,h6,h7⟩
end
section
variable {p q r s t u v w:A->B->Prop}
theorem d6(h:∃a b,p a b)(k:∀a b,p a b->P):P:=h.elim λa h=>h.elim λb h=>k a b h
theorem iP(h:∃a b,p a b/\q a b)(k:∀a b,p a b->q a b->P):P:=h.elim λa h=>h.elim λb h=>k a b h.1 h.2
theorem x23(h:∃a b,p a b/\q a b/\r a b)(k:∀a b,p a b->q a b->r a b->P):P:=h.elim λa h=>h.elim λb h=>k a b h.1 h.2.1 h.2.2
theorem x24(h:∃a b,p a b/\q a b/\r a b/\s a b)(k:∀a b,p a b->q a b->r a b->s a b->P):P:=h.elim λa h=>h.elim λb h=>k a b h.1 h.2.1 h.2.2.1 h.2.2.2
theorem lH(h:∃a b,p a b/\q a b/\r a b/\s a b/\t a b)(k:∀a b,p a b->q a b->r a b->s a b->t a b->P):P:=h.elim λa h=>h.elim λb h=>k a b h.1 h.2.1 h.2.2.1 h.2.2.2.1 h.2.2.2.2
theorem x26(h:∃a b,p a b/\q a b/\r a b/\s a b/\t a b/\u a b)(k:∀a b,p a b->q a b->r a b->s a b->t a b->u a b->P):P:=h.elim λa h=>h.elim λb h=>k a b h.1 h.2.1 h.2.2.1 h.2.2.2.1 h.2.2.2.2.1 h.2.2.2.2.2
theorem m22(a:A)(b:B)(h0:p a b)(h1:q a b):∃a b,p a b/\q a b:=⟨a,b,h0,h1⟩
theorem gE(a:A)(b:B)(h0:p a b)(h1:q a b)(h2:r a b):∃a b,p a b/\q a b/\r a b:=⟨a,b,h0,h1,h2⟩
theorem fy(a:A)(b:B)(h0:p a b)(h1:q a b)(h2:r a b)(h3:s a b):∃a b,p a b/\q a b/\r a b/\s a b:=⟨a,b,h0,h1,h2,h3⟩
theorem zI(a:A)(b:B)(h0:p a b)(h1:q a b)(h2:r a b)(h3:s a b)(h4:t a b):∃a b,p a b/\q a b/\r a b/\s a b/\t a b:=⟨a,b,h0,h1,h2,h3,h4⟩
theorem Ge(a:A)(b:B)(h0:p a b)(h1:q a b)(h2:r a b)(h3:s a b)(h4:t a b)(h5:u a b):∃a b,p a b/\q a b/\r a b/\s a b/\t a b/\u a b:=⟨a,b,h0,h1,h2,h3,h4,h5⟩
end
section
variable {p q r s t u v w:A->B->C->Prop}
theorem x32(h:∃a b c,p a b c/\q a b c)(k:∀a b c,p a b c->q a b c->P):P:=h.elim λa h=>h.elim λb h=>h.elim λc h=>k a b c h.1 h.2
theorem x33(h:∃a b c,p a b c/\q a b c/\r a b c)(k:∀a b c,p a b c->q a b c->r a b c->P):P:=h.elim λa h=>h.elim λb h=>h.elim λc h=>k a b c h.1 h.2.1 h.2.2
theorem CC(h:∃a b c,p a b c/\q a b c/\r a b c/\s a b c)(k:∀a b c,p a b c->q a b c->r a b c->s a b c->P):P:=h.elim λa h=>h.elim λb h=>h.elim λc h=>k a b c h.1 h.2.1 h.2.2.1 h.2.2.2
theorem x35(h:∃a b c,p a b c/\q a b c/\r a b c/\s a b c/\t a b c)(k:∀a b c,p a b c->q a b c->r a b c->s a b c->t a b c->P):P:=h.elim λa h=>h.elim λb h=>h.elim λc h=>k a b c h.1 h.2.1 h.2.2.1 h.2.2.2.1 h.2.2.2.2
theorem Gf(h:∃a b c,p a b c/\q a b c/\r a b c/\s a b c/\t a b c/\u a b c)(k:∀a b c,p a b c->q a b c->r a b c->s a b c->t a b c->u a b c->P):P:=h.elim λa h=>h.elim λb h=>h.elim λc h=>k a b c h.1 h.2.1 h.2.2.1 h.2.2.2.1 h.2.2.2.2.1 h.2.2.2.2.2
theorem JX(h:∃a b c,p a b c/\q a b c/\r a b c/\s a b c/\t a b c/\u a b c/\v a b c)(k:∀a b c,p a b c->q a b c->r a b c->s a b c->t a b c->u a b c->v a b c->P):P:=h.elim λa h=>h.elim λb h=>h.elim λc h=>k a b c h.1 h.2.1 h.2.2.1 h.2.2.2.1 h.2.2.2.2.1 h.2.2.2.2.2.1 h.2.2.2.2.2.2
theorem m31(a:A)(b:B)(c:C)(h0:p a b c):∃a b c,p a b c:=⟨a,b,c,h0⟩
theorem uU(a:A)(b:B)(c:C)(h0:p a b c)(h1:q a b c):∃a b c,p a b c/\q a b c:=⟨a,b,c,h0,h1⟩
theorem tL(a:A)(b:B)(c:C)(h0:p a b c)(h1:q a b c)(h2:r a b c)(h3:s a b c):∃a b c,p a b c/\q a b c/\r a b c/\s a b c:=⟨a,b,c,h0,h1,h2,h3⟩
theorem tO(a:A)(b:B)(c:C)(h0:p a b c)(h1:q a b c)(h2:r a b c)(h3:s a b c)(h4:t a b c):∃a b c,p a b c/\q a b c/\r a b c/\s a b c/\t a b c:=⟨a,b,c,h0,h1,h2,h3,h4⟩
theorem zJ(a:A)(b:B)(c:C)(h0:p a b c)(h1:q a b c)(h2:r a b c)(h3:s a b c)(h4:t a b c)(h5:u a b c):∃a b c,p a b c/\q a b c/\r a b c/\s a b c/\t a b c/\u a b c:=⟨a,b,c,h0,h1,h2,h3,h4,h5⟩
theorem EM(a:A)(b:B)(c:C)(h0:p a b c)(h1:q a b c)(h2:r a b c)(h3:s a b c)(h4:t a b c)(h5:u a b c)(h6:v a b c):∃a b c,p a b c/\q a b c/\r a b c/\s a b c/\t a b c/\u a b c/\v a b c:=⟨a,b,c,h0,h1,h2,h3,h4,h5,h6⟩
end
section
variable {p q r s t u v w:A->B->C->D->Prop}
theorem ox(h:∃a b c d,p a b c d)(k:∀a b c d,p a b c d->P):P:=h.elim λa h=>h.elim λb h=>h.elim λc h=>h.elim λd h=>k a b c d h
theorem JY(h:∃a b c d,p a b c d/\q a b c d/\r a b c d)(k:∀a b c d,p a b c d->q a b c d->r a b c d->P):P:=h.elim λa h=>h.elim λb h=>h.elim λc h=>h.elim λd h=>k a b c d h.1 h.2.1 h.2.2
theorem EN(h:∃a b c d,p a b c d/\q a b c d/\r a b c d/\s a b c d/\t a b c d/\u a b c d)(k:∀a b c d,p a b c d->q a b c d->r a b c d->s a b c d->t a b c d->u a b c d->P):P:=h.elim λa h=>h.elim λb h=>h.elim λc h=>h.elim λd h=>k a b c d h.1 h.2.1 h.2.2.1 h.2.2.2.1 h.2.2.2.2.1 h.2.2.2.2.2
theorem Gg(h:∃a b c d,p a b c d/\q a b c d/\r a b c d/\s a b c d/\t a b c d/\u a b c d/\v a b c d/\w a b c d)(k:∀a b c d,p a b c d->q a b c d->r a b c d->s a b c d->t a b c d->u a b c d->v a b c d->w a b c d->P):P:=h.elim λa h=>h.elim λb h=>h.elim λc h=>h.elim λd h=>k a b c d h.1 h.2.1 h.2.2.1 h.2.2.2.1 h.2.2.2.2.1 h.2.2.2.2.2.1 h.2.2.2.2.2.2.1 h.2.2.2.2.2.2.2
theorem Iu(a:A)(b:B)(c:C)(d:D)(h0:p a b c d):∃a b c d,p a b c d:=⟨a,b,c,d,h0⟩
theorem JZ(a:A)(b:B)(c:C)(d:D)(h0:p a b c d)(h1:q a b c d)(h2:r a b c d):∃a b c d,p a b c d/\q a b c d/\r a b c d:=⟨a,b,c,d,h0,h1,h2⟩
theorem J0(a:A)(b:B)(c:C)(d:D)(h0:p a b c d)(h1:q a b c d)(h2:r a b c d)(h3:s a b c d)(h4:t a b c d)(h5:u a b c d):∃a b c d,p a b c d/\q a b c d/\r a b c d/\s a b c d/\t a b c d/\u a b c d:=⟨a,b,c,d,h0,h1,h2,h3,h4,h5⟩
theorem J1(a:A)(b:B)(c:C)(d:D)(h0:p a b c d)(h1:q a b c d)(h2:r a b c d)(h3:s a b c d)(h4:t a b c d)(h5:u a b c d)(h6:v a b c d):∃a b c d,p a b c d/\q a b c d/\r a b c d/\s a b c d/\t a b c d/\u a b c d/\v a b c d:=⟨a,b,c,d,h0,h1,h2,h3,h4,h5,h6⟩
theorem Gh(a:A)(b:B)(c:C)(d:D)(h0:p a b c d)(h1:q a b c d)(h2:r a b c d)(h3:s a b c d)(h4:t a b c d)(h5:u a b c d)(h6:v a b c d)(h7:w a b c d):∃a b c d,p a b c d/\q a b c d/\r a b c d/\s a b c d/\t a b c d/\u a b c d/\v a b c d/\w a b c d:=⟨a,b,c,d,h0,h1,h2,h3,h4,h5,h6,h7⟩
end
section
variable {p q r s t u v w:A->B->C->D->E->Prop}
theorem J2(a:A)(b:B)(c:C)(d:D)(e:E)(h0:p a b c d e)(h1:q a b c d e):∃a b c d e,p a b c d e/\q a b c d e:=⟨a,b,c,d,e,h0,h1⟩
end
section
variable {p q r s t u v w:A->B->C->D->E->F->G->Prop}
theorem J3(h:∃a b c d e f g,p a b c d e f g)(k:∀a b c d e f g,p a b c d e f g->P):P:=h.elim λa h=>h.elim λb h=>h.elim λc h=>h.elim λd h=>h.elim λe h=>h.elim λf h=>h.elim λg h=>k a b c d e f g h
theorem J4(h:∃a b c d e f g,p a b c d e f g/\q a b c d e f g/\r a b c d e f g/\s a b c d e f g)(k:∀a b c d e f g,p a b c d e f g->q a b c d e f g->r a b c d e f g->s a b c d e f g->P):P:=h.elim λa h=>h.elim λb h=>h.elim λc h=>h.elim λd h=>h.elim λe h=>h.elim λf h=>h.elim λg h=>k a b c d e f g h.1 h.2.1 h.2.2.1 h.2.2.2
theorem J5(a:A)(b:B)(c:C)(d:D)(e:E)(f:F)(g:G)(h0:p a b c d e f g):∃a b c d e f g,p a b c d e f g:=⟨a,b,c,d,e,f,g,h0⟩
theorem Iv(a:A)(b:B)(c:C)(d:D)(e:E)(f:F)(g:G)(h0:p a b c d e f g)(h1:q a b c d e f g)(h2:r a b c d e f g)(h3:s a b c d e f g):∃a b c d e f g,p a b c d e f g/\q a b c d e f g/\r a b c d e f g/\s a b c d e f g:=⟨a,b,c,d,e,f,g,h0,h1,h2,h3⟩
theorem Iw(a:A)(b:B)(c:C)(d:D)(e:E)(f:F)(g:G)(h0:p a b c d e f g)(h1:q a b c d e f g)(h2:r a b c d e f g)(h3:s a b c d e f g)(h4:t a b c d e f g):∃a b c d e f g,p a b c d e f g/\q a b c d e f g/\r a b c d e f g/\s a b c d e f g/\t a b c d e f g:=⟨a,b,c,d,e,f,g,h0,h1,h2,h3,h4⟩
end
end
inductive V where
 |none
 |bool (b:Bool)
 |int (i:Int)
 |str (s:O')
 |tup (l:List V)
 |lst (l:List V)
 |di (l:List (Int×V))
 |ds (l:List (O'×V))
 |tab
 |host
 |decl
 |aan
 |idxH
 |aau
 |aaF (k:Nat)
mutual
noncomputable def V.beq:V->V->Bool
 |.none,b=>match b with|.none=>true|_=>false
 |.bool a,b=>match b with|.bool b=>a==b|_=>false
 |.int a,b=>match b with|.int b=>a==b|_=>false
 |.str a,b=>match b with|.str b=>a==b|_=>false
 |.tup a,b=>match b with|.tup b=>V.abE a b|_=>false
 |.lst a,b=>match b with|.lst b=>V.abE a b|_=>false
 |.di a,b=>match b with|.di b=>V.abU a b|_=>false
 |.ds a,b=>match b with|.ds b=>V.abV a b|_=>false
 |.tab,b=>match b with|.tab=>true|_=>false
 |.host,b=>match b with|.host=>true|_=>false
 |.decl,b=>match b with|.decl=>true|_=>false
 |.aan,b=>match b with|.aan=>true|_=>false
 |.idxH,b=>match b with|.idxH=>true|_=>false
 |.aau,b=>match b with|.aau=>true|_=>false
 |.aaF a,b=>match b with|.aaF b=>a==b|_=>false
termination_by structural a=>a
noncomputable def V.abE:List V->List V->Bool
 |[],b=>match b with|[]=>true|_=>false
 |a::x,b=>match b with|b::y=>a.beq b&&V.abE x y|_=>false
termination_by structural a=>a
noncomputable def V.abU:List (Int×V)->List (Int×V)->Bool
 |[],b=>match b with|[]=>true|_=>false
 |a::x,b=>match b with|b::y=>V.abH a b&&V.abU x y|_=>false
termination_by structural a=>a
noncomputable def V.abH:Int×V->Int×V->Bool
 |(i,a),b=>i==b.1&&a.beq b.2
termination_by structural a=>a
noncomputable def V.abV:List (O'×V)->List (O'×V)->Bool
 |[],b=>match b with|[]=>true|_=>false
 |a::x,b=>match b with|b::y=>V.abI a b&&V.abV x y|_=>false
termination_by structural a=>a
noncomputable def V.abI:O'×V->O'×V->Bool
 |(i,a),b=>i==b.1&&a.beq b.2
termination_by structural a=>a
end
theorem aag{a b:Bool}(h:(a&&b)=true):a=true/\b=true:=by revert h;induction a using Bool.casesOn<;>first|exact nb|(intro h;induction b using Bool.casesOn<;>first|exact⟨rfl,rfl⟩|exact nb h)
mutual
theorem V.beq_eq:∀(a b:V),a.beq b=true->a=b
 |.none,b,h=>by revert h;induction b using V.casesOn<;>first|exact nb|(intro h;first|exact rfl|exact nb h)
 |.bool _,b,h=>by revert h;induction b using V.casesOn<;>first|exact nb|(intro h;first|exact nb h|exact aM _ (ba h))
 |.int _,b,h=>by revert h;induction b using V.casesOn<;>first|exact nb|(intro h;first|exact nb h|exact aM _ (ba h))
 |.str _,b,h=>by revert h;induction b using V.casesOn<;>first|exact nb|(intro h;first|exact nb h|exact aM _ (ba h))
 |.tup x,b,h=>by revert h;induction b using V.casesOn<;>first|exact nb|(intro h;first|exact nb h|exact aM _ (V.abg x _ h))
 |.lst x,b,h=>by revert h;induction b using V.casesOn<;>first|exact nb|(intro h;first|exact nb h|exact aM _ (V.abg x _ h))
 |.di x,b,h=>by revert h;induction b using V.casesOn<;>first|exact nb|(intro h;first|exact nb h|exact aM _ (V.abx x _ h))
 |.ds x,b,h=>by revert h;induction b using V.casesOn<;>first|exact nb|(intro h;first|exact nb h|exact aM _ (V.aby x _ h))
 |.tab,b,h=>by revert h;induction b using V.casesOn<;>first|exact nb|(intro h;first|exact rfl|exact nb h)
 |.host,b,h=>by revert h;induction b using V.casesOn<;>first|exact nb|(intro h;first|exact rfl|exact nb h)
 |.decl,b,h=>by revert h;induction b using V.casesOn<;>first|exact nb|(intro h;first|exact rfl|exact nb h)
 |.aan,b,h=>by revert h;induction b using V.casesOn<;>first|exact nb|(intro h;first|exact rfl|exact nb h)
 |.idxH,b,h=>by revert h;induction b using V.casesOn<;>first|exact nb|(intro h;first|exact rfl|exact nb h)
 |.aau,b,h=>by revert h;induction b using V.casesOn<;>first|exact nb|(intro h;first|exact rfl|exact nb h)
 |.aaF _,b,h=>by revert h;induction b using V.casesOn<;>first|exact nb|(intro h;first|exact nb h|exact aM _ (ba h))
termination_by structural a=>a
theorem V.abg:∀(a b:List V),V.abE a b=true->a=b
 |[],b,h=>by induction b using List.casesOn<;>first|exact rfl|exact nb h
 |a::x,b,h=>by
  induction b using List.casesOn with
  |nil=>exact nb h
  |cons b y=>obtain⟨p,q⟩:=aag h;rw[V.beq_eq a b p,V.abg x y q]
termination_by structural a=>a
theorem V.abx:∀(a b:List (Int×V)),V.abU a b=true->a=b
 |[],b,h=>by induction b using List.casesOn<;>first|exact rfl|exact nb h
 |a::x,b,h=>by
  induction b using List.casesOn with
  |nil=>exact nb h
  |cons b y=>obtain⟨p,q⟩:=aag h;rw[V.abJ a b p,V.abx x y q]
termination_by structural a=>a
theorem V.abJ:∀(a b:Int×V),V.abH a b=true->a=b
 |(i,a),(j,b),h=>by obtain⟨p,q⟩:=aag h;rw[ba p,V.beq_eq a b q]
termination_by structural a=>a
theorem V.aby:∀(a b:List (O'×V)),V.abV a b=true->a=b
 |[],b,h=>by induction b using List.casesOn<;>first|exact rfl|exact nb h
 |a::x,b,h=>by
  induction b using List.casesOn with
  |nil=>exact nb h
  |cons b y=>obtain⟨p,q⟩:=aag h;rw[V.abK a b p,V.aby x y q]
termination_by structural a=>a
theorem V.abK:∀(a b:O'×V),V.abI a b=true->a=b
 |(i,a),(j,b),h=>by obtain⟨p,q⟩:=aag h;rw[ba p,V.beq_eq a b q]
termination_by structural a=>a
end
variable {b:Bool}
theorem o0{a:Bool}(h:a=true)(k:b=true):(a&&b)=true:=by(refine sb h ?_;refine sb k ?_);rfl
mutual
theorem V.beq_refl:∀(a:V),a.beq a=true
 |.none|.tab|.host|.decl|.aan|.idxH|.aau=>rfl
 |.bool a=>bF a
 |.int a=>bF a
 |.str a=>bF a
 |.aaF a=>bF a
 |.tup x=>V.aa4 x
 |.lst x=>V.aa4 x
 |.di x=>V.abe x
 |.ds x=>V.abf x
termination_by structural a=>a
theorem V.aa4:∀(a:List V),V.abE a a=true
 |[]=>rfl
 |a::x=>o0 (V.beq_refl a) (V.aa4 x)
termination_by structural a=>a
theorem V.abe:∀(a:List (Int×V)),V.abU a a=true
 |[]=>rfl
 |a::x=>o0 (V.abp a) (V.abe x)
termination_by structural a=>a
theorem V.abp:∀(a:Int×V),V.abH a a=true
 |(i,a)=>o0 (bF i) (V.beq_refl a)
termination_by structural a=>a
theorem V.abf:∀(a:List (O'×V)),V.abV a a=true
 |[]=>rfl
 |a::x=>o0 (V.abq a) (V.abf x)
termination_by structural a=>a
theorem V.abq:∀(a:O'×V),V.abI a a=true
 |(i,a)=>o0 (bF i) (V.beq_refl a)
termination_by structural a=>a
end
noncomputable instance:DecidableEq V:=λa b=>if h:a.beq b=true then .isTrue (V.beq_eq a b h) else .isFalse λe=>h (e▸V.beq_refl a)
theorem V.beq_iff(a b:V):a.beq b=decide (a=b):=by
 by_cases h:a=b
 .subst h;simp [V.beq_refl]
 .rw[aj h];cases e:a.beq b with
  |false=>rfl
  |true=>exact absurd (V.beq_eq a b e) h
noncomputable def V.hk:Nat->V->Bool
 |_,.int _=>true
 |_,.str x=>PyData.strOk x
 |n+1,.tup l=>l.all (V.hk n)
 |_,_=>false
mutual
noncomputable def V.flat:V->Bool
 |.none|.bool _|.int _|.str _|.tab|.host|.decl|.aan|.idxH|.aau|.aaF _=>true
 |.tup l=>V.abk l
 |_=>false
noncomputable def V.abk:List V->Bool
 |[]=>true
 |v::l=>v.flat&&V.abk l
end
structure TS where
 rows:List V
 idx:List (V×Int)
 b:List V
 d:List V
 n:List V
noncomputable def TS.aux(T:TS):Nat->Option (List V)
 |0=>B' T.b
 |1=>B' T.d
 |2=>B' T.n
 |_=>F'
noncomputable def TS.setAux(T:TS)(k:Nat)(l:List V):TS:=match k with
 |0=>{T with b:=l}
 |1=>{T with d:=l}
 |2=>{T with n:=l}
 |_=>T
inductive Sl|un|pl (v:V)|ow (v:V)
inductive G|val (v:V)|fn (a:M')|bi (id:String)|ty (n:String)
structure Fn where
 scope:adt
 slots:List O'
 np:Nat
 dflt:List V
 body:List adb
structure Bs where
 glb:O'->Option G
 fn:M'->Option Fn
 hostM:O'->Option M'
 tabM:O'->Option M'
 abl:Int
 lv:Nat
structure Sc where
 names:List (O'×adT)
 slots:List O'
noncomputable abbrev cK:=Option (V×TS)
noncomputable abbrev zB:=M'->List V->TS->cK
noncomputable def db:List O'->O'->Option Nat
 |[],_=>F'
 |x::l,n=>bif x==n then B' 0 else(db l n).map (· +1)
noncomputable def Sl.rd:Sl->Option V
 |.pl v=>B' v
 |_=>F'
noncomputable def Sl.od:Sl->Option V
 |.ow v=>B' v
 |_=>F'
noncomputable def G.v?:G->Option V
 |.val v=>B' v
 |_=>F'
noncomputable def cZ(sc:Sc)(n:O'):Bool:=match sc.names.lookup n with
 |some .local|some .cell|some .free=>true
 |_=>false
noncomputable def fw(sc:Sc)(n:O'):Bool:=match sc.names.lookup n with
 |some .globalImplicit|some .globalExplicit=>true
 |_=>false
noncomputable def cV:=S "__debug__"
noncomputable def f4:=S "__classdict__"
noncomputable def xw(B:Bs)(sc:Sc)(Γ:List Sl)(n:O'):Option V:=bif n==cV||n==f4 then F' else
 bif cZ sc n then C' (db sc.slots n) λi=>(Γ[i]?).bind Sl.rd
 else bif fw sc n then(B.glb n).bind G.v? else F'
noncomputable def gq(B:Bs)(sc:Sc)(n:O'):Option G:=bif n==cV then F' else bif fw sc n then B.glb n else F'
noncomputable def mH(sc:Sc)(Γ:List Sl)(n:O'):Option (Nat×V):=bif n==cV||n==f4 then F' else bif cZ sc n then C' (db sc.slots n) λi=>((Γ[i]?).bind Sl.od).map λv=>(i,v) else F'
noncomputable def du(sc:Sc)(Γ:List Sl)(n:O')(x:Sl):Option (List Sl):=bif cZ sc n then C' (db sc.slots n) λi=>bif L' (i<Γ.length) then B' (Γ.set i x) else F' else F'
noncomputable def jy:=S "rows"
noncomputable def gr:=S "index"
noncomputable def eK:=S "decls"
noncomputable def fj:=S "bounds"
noncomputable def dE:=S "defaults"
noncomputable def gt:=S "names"
noncomputable def dJ:=S "tab"
noncomputable def fN:=S "body"
noncomputable def fA:=S "bases"
noncomputable def jn:=S "get"
noncomputable def fG:=S "append"
noncomputable def gF(B:Bs)(v:V)(a:O'):Option V:=match v with
 |.tab=>bif B.lv==0 then F' else bif a==jy then B' .aan else bif a==gr then B' .idxH else bif a==eK then(bif B.lv==2 then B' .aau else F') else
   bif a==fj then B' (.aaF 0) else bif a==dE then B' (.aaF 1) else bif a==gt then B' (.aaF 2) else F'
 |.host=>bif B.lv==2&&a==dJ then B' .tab else F'
 |.decl=>bif B.lv==2 then(bif a==fN then B' (.int B.abl) else bif a==fA then B' (.tup []) else F') else F'
 |_=>F'
noncomputable def xx:Const->Option V
 |.none=>B' .none
 |.bool b=>B' (.bool b)
 |.int i=>B' (.int i)
 |.str s=>bif L' (s.length<=sizeLine) then B' (.str s) else F'
 |_=>F'
noncomputable def cw:V->Option Bool
 |.none=>B' false
 |.bool b=>B' b
 |.int i=>B' (i !=0)
 |.str s=>B' (s.length !=0)
 |.tup l=>B' (!l.isEmpty)
 |.lst l=>B' (!l.isEmpty)
 |_=>F'
noncomputable def fit{α:Type}(n:Nat)(x:α):Option α:=bif L' (n<=sizeLine) then B' x else F'
noncomputable def cI(op:Operator)(a b:V):Option V:=match op,a,b with
 |.Add,.int x,.int y=>B' (.int (x+y))
 |.Add,.tup x,.tup y=>bif x.isEmpty||y.isEmpty then F' else fit (x.length+y.length) (.tup (x++y))
 |.Add,.lst x,.lst y=>fit (x.length+y.length) (.lst (x++y))
 |.Sub,.int x,.int y=>B' (.int (x - y))
 |.Mult,.int x,.int y=>bif L' (0<=x)&&decide (x<64) then B' (.int (x*y)) else F'
 |.FloorDiv,.int x,.int y=>bif L' (0<y)&&decide (y<1073741824) then B' (.int (x/y)) else F'
 |.Mod,.int x,.int y=>bif L' (0<y) then B' (.int (x%y)) else F'
 |.BitAnd,.int x,.int y=>B' (.int (Builtin.bitAnd x y))
 |_,_,_=>F'
noncomputable def El(a b:V):Option Bool:=bif a.hk 6&&b.hk 6 then B' (a.beq b) else F'
noncomputable def GS(a b:V):Option Bool:=match a,b with
 |.int x,.int y=>B' (L' (x<y))
 |_,_=>F'
noncomputable def Ix(a b:V):Option Bool:=match a,b with
 |.int x,.int y=>B' (L' (x<=y))
 |.str x,.str y=>B' (!(L' (y.cps.toList<x.cps.toList)))
 |_,_=>F'
noncomputable def dA(x:V):List (V×Int)->Option Int
 |[]=>F'
 |(k,i)::l=>bif k.beq x then B' i else dA x l
theorem zK(x:V)(p:V×Int)(l:List (V×Int)):dA x (p::l)=bif p.1.beq x then B' p.2 else dA x l:=rfl
noncomputable def dK(x:Int):List (Int×V)->Option V
 |[]=>F'
 |(k,i)::l=>bif k==x then B' i else dK x l
theorem uV(x:Int)(p:Int×V)(l:List (Int×V)):dK x (p::l)=bif p.1==x then B' p.2 else dK x l:=rfl
noncomputable def dW(x:O'):List (O'×V)->Option V
 |[]=>F'
 |(k,i)::l=>bif k==x then B' i else dW x l
theorem uW(x:O')(p:O'×V)(l:List (O'×V)):dW x (p::l)=bif p.1==x then B' p.2 else dW x l:=rfl
noncomputable def Gi(T:TS)(x c:V):Option Bool:=match c with
 |.tup l=>bif x.hk 6&&l.all (V.hk 6) then B' (l.any (V.beq x)) else F'
 |.lst l=>bif x.hk 6&&l.all (V.hk 6) then B' (l.any (V.beq x)) else F'
 |.di l=>match x with|.int i=>B' (dK i l).isSome|.str _=>bif l.isEmpty then B' false else F'|_=>F'
 |.ds l=>match x with|.str i=>B' (dW i l).isSome|_=>F'
 |.idxH=>match x with|.tup l=>bif x.hk 6 then B' (dA x T.idx).isSome else F'|_=>F'
 |_=>F'
noncomputable def cY:V->Bool
 |.none=>true
 |_=>false
noncomputable def cu(T:TS)(op:CmpOp)(a b:V):Option Bool:=match op with
 |.Eq=>El a b
 |.NotEq=>(El a b).map (!·)
 |.Lt=>GS a b
 |.LtE=>Ix a b
 |.Gt=>GS b a
 |.GtE=>match a,b with|.int x,.int y=>B' (L' (y<=x))|_,_=>F'
 |.Is=>bif cY b then B' (cY a) else F'
 |.IsNot=>bif cY b then B' (!cY a) else F'
 |.In=>Gi T a b
 |.NotIn=>(Gi T a b).map (!·)
noncomputable def CD(l:List V)(i:Int):Option V:=bif L' (0<=i) then bif L' (i<2^62) then l[i.toNat]? else F' else bif L' (-(2^62)<i) then bif L' (0<=i+l.length) then l[(i+l.length).toNat]? else F' else F'
noncomputable def CE(c:Nat):V:=.str ⟨#[c]⟩
noncomputable def rN(s:O'):List V:=s.cps.toList.map CE
noncomputable def cv(lv:Nat)(T:TS)(v i:V):Option V:=match v,i with
 |.aan,.int k=>bif L' (0<=k)&&decide (k<2^62) then T.rows[k.toNat]? else F'
 |.idxH,.tup l=>bif(V.tup l).hk 6 then(dA (.tup l) T.idx).map .int else F'
 |.aau,.int k=>bif lv==2&&k==2 then B' .decl else F'
 |.tup l,.int k=>CD l k
 |.lst l,.int k=>CD l k
 |.str s,.int k=>bif k==0 then(s.cps[0]?).map CE else F'
 |.di l,.int k=>dK k l
 |.ds l,.str k=>dW k l
 |_,_=>F'
noncomputable def hJ(v:V)(lo hi:Option Int):Option V:=match v,lo,hi with
 |.lst l,F',B' h=>bif L' (0<=h) then B' (.lst (l.take h.toNat)) else F'
 |.tup l,F',B' h=>bif h==-1&&decide (2<=l.length) then B' (.tup (l.take (l.length - 1))) else F'
 |.str s,B' l,B' h=>bif l==0&&h==1&&s.length==1 then B' (.str s) else F'
 |_,_,_=>F'
noncomputable def o7:List V->Option (List Int)
 |[]=>B' []
 |.int i::l=>(o7 l).map (i::·)
 |_::_=>F'
noncomputable def kR(i:Int):List Int->List Int
 |[]=>[i]
 |j::l=>bif L' (i<j) then i::j::l else j::kR i l
theorem jM(i:Int):kR i []=[i]:=rfl
theorem jN(i j:Int)(l:List Int):kR i (j::l)=bif L' (i<j) then i::j::l else j::kR i l:=rfl
noncomputable def lI:List V->Option (List Bool)
 |[]=>B' []
 |.bool i::l=>(lI l).map (i::·)
 |_::_=>F'
noncomputable def cQ(l:List Int):List Int:=l.foldr kR []
noncomputable def xy:List O'->Option (List O')
 |[]=>B' []
 |[a]=>B' [a]
 |[a,b]=>bif L' (b.cps.toList<a.cps.toList) then B' [b,a] else B' [a,b]
 |_=>F'
noncomputable def EO:List V->Option (List O')
 |[]=>B' []
 |.str i::l=>(EO l).map (i::·)
 |_::_=>F'
noncomputable def o8{α:Type}(n:Nat)(x:α):Option α:=bif L' (n<64) then B' x else F'
noncomputable def qk(x:V):Option V:=match x with
 |.lst l=>C' (o7 l) λz=>o8 l.length (.lst ((cQ z).map .int))
 |.di l=>o8 l.length (.lst ((cQ (l.map (·.1))).map .int))
 |.ds l=>(xy (l.map (·.1))).map λz=>.lst (z.map .str)
 |_=>F'
noncomputable def zL(x:V)(T:TS):Option V:=match x with
 |.tup l=>B' (.int l.length)
 |.lst l=>B' (.int l.length)
 |.di l=>B' (.int l.length)
 |.ds l=>B' (.int l.length)
 |.str s=>B' (.int s.length)
 |.aan=>B' (.int T.rows.length)
 |.aaF k=>(T.aux k).map λl=>.int l.length
 |_=>F'
noncomputable def EP(x:V):Option V:=match x with|.lst l=>(lI l).map λl=>.bool (l.all id)|_=>F'
noncomputable def EQ(x:V):Option V:=match x with|.lst l=>(lI l).map λl=>.bool (l.any id)|_=>F'
noncomputable def fZ(id:String)(args:List V)(T:TS):Option V:=match args with
 |[x]=>bif id=="len" then zL x T else bif id=="sorted" then qk x else bif id=="all" then EP x else bif id=="any" then EQ x else F'
 |_=>F'
noncomputable def rO(n:String)(args:List V):Option V:=match args with
 |[.tup l]=>bif n=="tuple" then B' (.tup l) else bif n=="list" then B' (.lst l) else F'
 |[.lst l]=>bif n=="tuple" then B' (.tup l) else F'
 |_=>F'
noncomputable def ES:V->Option V
 |.int i=>B' (.int (-i))
 |_=>F'
noncomputable def j8:V->Option Int
 |.int i=>B' i
 |_=>F'
noncomputable def eW(c v:V):Option V:=match c with
 |.lst l=>fit (l.length+1) (.lst (l++[v]))
 |_=>F'
noncomputable def CF(v:V):Option (V×V):=match v with
 |.tup [a,b]=>B' (a,b)
 |_=>F'
noncomputable def rP:V->Option Bool
 |.str _=>B' true
 |.int _=>B' false
 |_=>F'
structure Rc where
 ev:Sc->List Sl->TS->Expr->cK
 tst:Sc->List Sl->TS->Expr->Option (Bool×TS)
 xs:Sc->List Sl->TS->List adb->(List Sl->TS->cK)->cK
noncomputable def kS:Expr->Bool
 |.Starred ..=>false
 |_=>true
noncomputable def hW:Expr->Bool
 |.Call ..=>false
 |_=>true
noncomputable def lV(f:TS->Expr->cK):TS->List Expr->Option (List V×TS)
 |T,[]=>B' ([],T)
 |T,e::es=>bif kS e then C' (f T e) λp=>C' (lV f p.2 es) λq=>B' (p.1::q.1,q.2) else F'
noncomputable def zM(f:TS->Expr->cK):TS->List Expr->cK
 |_,[]=>F'
 |T,[e]=>f T e
 |T,e::es=>C' (f T e) λp=>C' (cw p.1) λb=>bif b then zM f p.2 es else B' p
noncomputable def Gj(f:TS->Expr->cK):TS->List Expr->cK
 |_,[]=>F'
 |T,[e]=>f T e
 |T,e::es=>C' (f T e) λp=>C' (cw p.1) λb=>bif b then B' p else Gj f p.2 es
noncomputable def ql(f:TS->Expr->Option (Bool×TS)):TS->List Expr->Option (Bool×TS)
 |T,[]=>B' (true,T)
 |T,e::es=>C' (f T e) λp=>bif p.1 then ql f p.2 es else B' (false,p.2)
noncomputable def Gk(f:TS->Expr->Option (Bool×TS)):TS->List Expr->Option (Bool×TS)
 |T,[]=>B' (false,T)
 |T,e::es=>C' (f T e) λp=>bif p.1 then B' (true,p.2) else Gk f p.2 es
noncomputable def jO(f:TS->Expr->cK)(a:V):TS->List CmpOp->List Expr->Option (Bool×TS)
 |T,[op],[e]=>C' (f T e) λp=>C' (cu p.2 op a p.1) λb=>B' (b,p.2)
 |T,op::Qk::ops,e::e'::es=>C' (f T e) λp=>C' (cu p.2 op a p.1) λb=>bif b then jO f p.1 p.2 (Qk::ops) (e'::es) else B' (false,p.2)
 |_,_,_=>F'
noncomputable def cy:V->Option (List V)
 |.tup l=>B' l
 |.lst l=>B' l
 |.str s=>B' (rN s)
 |_=>F'
noncomputable def kT(i:Int):Option (List V):=bif L' (0<=i)&&decide (i<=2^20) then B' ((List.range i.toNat).map λ(k:Nat)=>V.int k) else F'
noncomputable def fF:Nat->List V->List V
 |_,[]=>[]
 |i,x::l=>.tup [.int i,x]::fF (i+1) l
theorem mn(i:Nat):fF i []=[]:=rfl
theorem mo(i:Nat)(x:V)(l:List V):fF i (x::l)=.tup [.int i,x]::fF (i+1) l:=rfl
noncomputable def kU:V->Option (List V)
 |.int i=>kT i
 |_=>F'
noncomputable def CG:V->Option (List V)
 |.lst l=>B' (fF 0 l)
 |_=>F'
noncomputable def xA:String:="range"
noncomputable def BE:String:="enumerate"
set_option genCtorIdx false in
inductive It|v (l:List V)|r (l:List V)|e (l:List V)
noncomputable def It.l:It->List V
 |.v l=>l
 |.r l=>l
 |.e l=>l
noncomputable def ET:Expr->Option (O'×Expr)
 |.Call (.Name n _) [a] [] _=>B' (n,a)
 |_=>F'
noncomputable def Gl(B:Bs)(sc:Sc)(c:String)(e:Expr):Option Expr:=C' (ET e) λna=>match gq B sc na.1 with
 |some (.ty t)=>bif t==c&&kS na.2 then B' na.2 else F'
 |_=>F'
noncomputable def lJ(B:Bs)(sc:Sc)(f:TS->Expr->cK)(T:TS)(e:Expr):Option (List V×TS):=match Gl B sc xA e with
 |some a=>C' (f T a) λp=>C' (kU p.1) λl=>B' (l,p.2)
 |none=>C' (f T e) λp=>C' (cy p.1) λl=>B' (l,p.2)
noncomputable def uX(B:Bs)(sc:Sc)(f:TS->Expr->cK)(T:TS)(e:Expr):Option (List V×TS):=C' (Gl B sc BE e) λa=>C' (f T a) λp=>C' (CG p.1) λl=>B' (l,p.2)
noncomputable def cC(f:V->TS->Option (Option V×TS)):List V->TS->Option (List V×TS)
 |[],T=>B' ([],T)
 |x::l,T=>C' (f x T) λp=>C' (cC f l p.2) λq=>B' (match p.1 with|some v=>v::q.1|none=>q.1,q.2)
theorem mq(f:V->TS->Option (Option V×TS))(T:TS):cC f [] T=B' ([],T):=rfl
theorem fk(f:V->TS->Option (Option V×TS))(x:V)(l:List V)(T:TS):cC f (x::l) T=C' (f x T) λp=>C' (cC f l p.2) λq=>B' (match p.1 with|some v=>v::q.1|none=>q.1,q.2):=rfl
noncomputable def f5(sc:Sc)(s':adt)(xs:List O'):Bool:=s'.kind==.function&&s'.names.all (λp=>match p.2 with
  |.local=>xs.contains p.1||p.1==Str.ofString ".0"
  |.free=>cZ sc p.1&&(match sc.names.lookup p.1 with|some .cell=>true|_=>false)
  |.cell=>false
  |_=>true)&&xs.all (λx=>match s'.names.lookup x with|some .local=>true|_=>false)
 &&s'.names.all (λp=>match p.2 with|.local=>(match s'.names.lookup p.1 with|some .local=>true|_=>false)|_=>true)
noncomputable def eM(sc:Sc)(Γ:List Sl)(s':adt)(xs:List O'):Bool:=s'.names.all (λp=>match p.2 with
  |.free=>!(p.1==cV)&&(C' (db sc.slots p.1) λi=>(Γ[i]?).bind Sl.rd).isSome
  |_=>true)&&(db (xs++sc.slots) (Str.ofString ".0")).isNone
noncomputable def jP:Expr->Bool
 |.Set ..=>false
 |_=>true
noncomputable def abz(B:Bs)(R:Rc)(sc:Sc)(Γ:List Sl)(T:TS)(Lc tg it:Expr)(ifs:List Expr)(s':adt):cK:=match tg with
 |.Name x _=>bif f5 sc s' [x]&&!(x==cV)&&jP it&&eM sc Γ s' [x] then
   (lJ B sc (R.ev sc Γ) T it).bind λp=>C' (fit p.1.length ()) λO=>
    (cC (λv T=>C' (ql (R.tst ⟨s'.names,x::sc.slots⟩ (.pl v::Γ)) T ifs) λq=>
     bif q.1 then C' (R.ev ⟨s'.names,x::sc.slots⟩ (.pl v::Γ) q.2 Lc) λr=>B' (B' r.1,r.2) else B' (F',q.2)) p.1 p.2).bind λq=>B' (.lst q.1,q.2)
   else F'
 |.Tuple [.Name x _,.Name y _] _ _=>bif f5 sc s' [x,y]&&!(x==cV)&&!(y==cV)&&!(x==y)&&(ifs.length==1)&&eM sc Γ s' [x,y] then
   (uX B sc (R.ev sc Γ) T it).bind λp=>C' (fit p.1.length ()) λO=>
    (cC (λv T=>C' (CF v) λab=>C' (ql (R.tst ⟨s'.names,x::y::sc.slots⟩ (.pl ab.1:: .pl ab.2::Γ)) T ifs) λq=>
      bif q.1 then C' (R.ev ⟨s'.names,x::y::sc.slots⟩ (.pl ab.1:: .pl ab.2::Γ) q.2 Lc) λr=>B' (B' r.1,r.2) else B' (F',q.2)) p.1 p.2).bind λq=>B' (.lst q.1,q.2)
   else F'
 |_=>F'
noncomputable def jz(B:Bs)(Φ:zB)(v:V)(m:O')(args:List V)(T:TS):cK:=match v with
 |.host=>C' (B.hostM m) λa=>Φ a (.host::args) T
 |.tab=>C' (B.tabM m) λa=>Φ a (.tab::args) T
 |.idxH=>bif m==jn then(match args with|[.tup l,d]=>bif(V.tup l).hk 6 then B' (((dA (.tup l) T.idx).map .int).getD d,T) else F'|_=>F') else F'
 |.di l=>bif m==jn then(match args with|[.int k,d]=>B' ((dK k l).getD d,T)|[.str _,d]=>bif l.isEmpty then B' (d,T) else F'|_=>F') else F'
 |.ds l=>bif m==jn then(match args with|[.str k,d]=>B' ((dW k l).getD d,T)|_=>F') else F'
 |_=>F'
noncomputable def uY(B:Bs)(Φ:zB)(R:Rc)(sc:Sc)(Γ:List Sl)(T:TS)(f:Expr)(args:List Expr)(p:Pos):cK:=match f with
 |.Name n _=>match gq B sc n with
  |some (.fn a)=>C' (lV (R.ev sc Γ) T args) λp=>Φ a p.1 p.2
  |some (.bi id)=>bif id=="isinstance" then(match args with
    |[x,.Name s _]=>(match gq B sc s with
     |some (.ty t)=>bif t=="str"&&kS x then C' (R.ev sc Γ T x) λp=>C' (rP p.1) λb=>B' (.bool b,p.2) else F'
     |_=>F')
    |_=>F')
   else C' (lV (R.ev sc Γ) T args) λp=>C' (fZ id p.1 p.2) λv=>B' (v,p.2)
  |some (.ty t)=>C' (lV (R.ev sc Γ) T args) λp=>C' (rO t p.1) λv=>B' (v,p.2)
  |_=>F'
 |.Attribute o m ap=>bif hW o&&(ap.endLine==p.line)&&decide (args.length<30) then
   (R.ev sc Γ T o).bind λp=>C' (lV (R.ev sc Γ) p.2 args) λq=>jz B Φ p.1 m q.1 q.2 else F'
 |_=>F'
noncomputable def EU(lv:Nat)(R:Rc)(sc:Sc)(Γ:List Sl)(T:TS)(o i:Expr):cK:=match i with
 |.Slice F' (B' h) F' _=>C' (R.ev sc Γ T o) λp=>C' (R.ev sc Γ p.2 h) λq=>C' (j8 q.1) λk=>C' (hJ p.1 F' (B' k)) λv=>B' (v,q.2)
 |.Slice (B' l) (B' h) F' _=>C' (R.ev sc Γ T o) λp=>C' (R.ev sc Γ p.2 l) λq=>C' (R.ev sc Γ q.2 h) λr=>
   (j8 q.1).bind λk=>C' (j8 r.1) λj=>C' (hJ p.1 (B' k) (B' j)) λv=>B' (v,r.2)
 |.Slice ..=>F'
 |_=>C' (R.ev sc Γ T o) λp=>C' (R.ev sc Γ p.2 i) λq=>C' (cv lv q.2 p.1 q.1) λv=>B' (v,q.2)
noncomputable def d7:List (V×V)->Option V
 |[]=>B' (.di [])
 |[(.int k,v)]=>B' (.di [(k,v)])
 |[(.str k,v)]=>B' (.ds [(k,v)])
 |(.int k,v)::l=>C' (d7 l) λd=>match d with|.di l=>bif(dK k l).isNone then B' (.di ((k,v)::l)) else F'|_=>F'
 |(.str k,v)::l=>C' (d7 l) λd=>match d with|.ds l=>bif(dW k l).isNone then B' (.ds ((k,v)::l)) else F'|_=>F'
 |_::_=>F'
noncomputable def zN(f:TS->Expr->cK):TS->List (Option Expr)->List Expr->Option (List (V×V)×TS)
 |T,[],[]=>B' ([],T)
 |T,B' k::ks,v::vs=>C' (f T k) λp=>C' (f p.2 v) λq=>C' (zN f q.2 ks vs) λr=>B' ((p.1,q.1)::r.1,r.2)
 |_,_,_=>F'
noncomputable def qm(B:Bs)(Φ:zB)(R:Rc)(sc:Sc)(Γ:List Sl)(T:TS):Expr->cK
 |.Constant c _ _=>C' (xx c) λv=>B' (v,T)
 |.Name n _=>C' (xw B sc Γ n) λv=>B' (v,T)
 |.BoolOp .And es _=>zM (R.ev sc Γ) T es
 |.BoolOp .Or es _=>Gj (R.ev sc Γ) T es
 |.BinOp a op b _=>C' (R.ev sc Γ T a) λp=>C' (R.ev sc Γ p.2 b) λq=>C' (cI op p.1 q.1) λv=>B' (v,q.2)
 |.UnaryOp .Not x _=>C' (R.ev sc Γ T x) λp=>C' (cw p.1) λb=>B' (.bool (!b),p.2)
 |.UnaryOp .USub x _=>C' (R.ev sc Γ T x) λp=>C' (ES p.1) λv=>B' (v,p.2)
 |.IfExp t a b _=>C' (R.tst sc Γ T t) λp=>bif p.1 then R.ev sc Γ p.2 a else R.ev sc Γ p.2 b
 |.Dict ks vs _=>bif L' (15<ks.length) then F' else C' (zN (R.ev sc Γ) T ks vs) λp=>C' (d7 p.1) λv=>B' (v,p.2)
 |.ListComp Lc [⟨tg,it,ifs,0⟩] s' _=>abz B R sc Γ T Lc tg it ifs s'
 |.Compare l ops es _=>bif aet ops es then F' else C' (R.ev sc Γ T l) λp=>C' (jO (R.ev sc Γ) p.1 p.2 ops es) λq=>B' (.bool q.1,q.2)
 |.Call f args [] p=>uY B Φ R sc Γ T f args p
 |.Attribute o a _=>bif hW o then C' (R.ev sc Γ T o) λp=>C' (gF B p.1 a) λv=>B' (v,p.2) else F'
 |.Subscript o i _=>EU B.lv R sc Γ T o i
 |.List es _=>C' (lV (R.ev sc Γ) T es) λp=>C' (fit p.1.length (.lst p.1)) λv=>B' (v,p.2)
 |.Tuple es _ _=>C' (lV (R.ev sc Γ) T es) λp=>C' (fit p.1.length (.tup p.1)) λv=>B' (v,p.2)
 |_=>F'
noncomputable def uZ(B:Bs)(Φ:zB)(R:Rc)(sc:Sc)(Γ:List Sl)(T:TS):Expr->Option (Bool×TS)
 |.BoolOp .And es _=>ql (R.tst sc Γ) T es
 |.BoolOp .Or es _=>Gk (R.tst sc Γ) T es
 |.UnaryOp .Not x _=>C' (R.tst sc Γ T x) λp=>B' (!p.1,p.2)
 |.Compare l ops es _=>bif aet ops es then F' else C' (R.ev sc Γ T l) λp=>jO (R.ev sc Γ) p.1 p.2 ops es
 |.IfExp t a b _=>C' (R.tst sc Γ T t) λp=>bif p.1 then R.tst sc Γ p.2 a else R.tst sc Γ p.2 b
 |e=>C' (R.ev sc Γ T e) λp=>C' (cw p.1) λb=>B' (b,p.2)
noncomputable def dZ:Nat->Expr->List O'
 |0,_=>[]
 |n+1,e=>match e with
  |.Name x _=>[x]
  |.BoolOp _ es _=>es.flatMap (dZ n)
  |.BinOp a _ b _=>dZ n a++dZ n b
  |.UnaryOp _ a _=>dZ n a
  |.IfExp a b c _=>dZ n a++(dZ n b++dZ n c)
  |.Dict ks vs _=>(ks.flatMap λk=>(k.map (dZ n)).getD [])++vs.flatMap (dZ n)
  |.ListComp Lc gs _ _=>dZ n Lc++gs.flatMap λg=>dZ n g.iter++g.ifs.flatMap (dZ n)
  |.Compare l _ es _=>dZ n l++es.flatMap (dZ n)
  |.Call f args _ _=>dZ n f++args.flatMap (dZ n)
  |.Attribute o _ _=>dZ n o
  |.Subscript o i _=>dZ n o++dZ n i
  |.List es _=>es.flatMap (dZ n)
  |.Tuple es _ _=>es.flatMap (dZ n)
  |.Slice a b c _=>(a.map (dZ n)).getD []++((b.map (dZ n)).getD []++(c.map (dZ n)).getD [])
  |_=>[]
noncomputable def Sl.acv:Sl->Sl
 |.ow v=>.pl v
 |x=>x
noncomputable def Sl.frz(m:Bool)(x:Sl):Sl:=bif m then x.acv else x
noncomputable def Sl.aae:Sl->Bool
 |.ow _=>true
 |_=>false
noncomputable def zO(ms:List O'):List O'->List Sl->List Sl
 |n::ns,x::l=>Sl.frz (ms.contains n) x::zO ms ns l
 |_,l=>l
noncomputable def lK(ms:List O'):List O'->List Sl->Bool
 |n::ns,x::l=>bif ms.contains n&&x.aae then true else lK ms ns l
 |_,_=>false
noncomputable def eJ(sc:Sc)(e:Expr)(Γ:List Sl):List Sl:=bif lK (dZ 40 e) sc.slots Γ then zO (dZ 40 e) sc.slots Γ else Γ
noncomputable def BF(sc:Sc)(e:Expr)(Γ:List Sl)(v:V):List Sl:=bif lK (dZ 40 e) sc.slots Γ then(bif v.flat then Γ else zO (dZ 40 e) sc.slots Γ) else Γ
noncomputable def cG(f:V->List Sl->TS->(List Sl->TS->cK)->cK):List V->List Sl->TS->(List Sl->TS->cK)->cK
 |[],Γ,T,k=>k Γ T
 |x::l,Γ,T,k=>f x Γ T λΓ T=>cG f l Γ T k
theorem dv(f:V->List Sl->TS->(List Sl->TS->cK)->cK)(Γ:List Sl)(T:TS)(k:List Sl->TS->cK):cG f [] Γ T k=k Γ T:=rfl
theorem dw(f:V->List Sl->TS->(List Sl->TS->cK)->cK)(x:V)(l:List V)(Γ:List Sl)(T:TS)(k:List Sl->TS->cK):cG f (x::l) Γ T k=f x Γ T λΓ T=>cG f l Γ T k:=rfl
noncomputable def dH(k:Int)(v:V):List (Int×V)->List (Int×V)
 |[]=>[(k,v)]
 |(j,u)::l=>bif j==k then(j,v)::l else(j,u)::dH k v l
theorem qn(k:Int)(v:V):dH k v []=[(k,v)]:=rfl
theorem qo(k:Int)(v:V)(p:Int×V)(l:List (Int×V)):dH k v (p::l)=bif p.1==k then(p.1,v)::l else(p.1,p.2)::dH k v l:=rfl
noncomputable def iF(k:O')(v:V):List (O'×V)->List (O'×V)
 |[]=>[(k,v)]
 |(j,u)::l=>bif j==k then(j,v)::l else(j,u)::iF k v l
theorem qp(k:O')(v:V):iF k v []=[(k,v)]:=rfl
theorem qq(k:O')(v:V)(p:O'×V)(l:List (O'×V)):iF k v (p::l)=bif p.1==k then(p.1,v)::l else(p.1,p.2)::iF k v l:=rfl
noncomputable def hZ(c k v:V):Option V:=match c,k with
 |.di l,.int i=>bif L' (l.length<sizeLine) then B' (.di (dH i v l)) else F'
 |.ds l,.str i=>bif L' (l.length<sizeLine) then B' (.ds (iF i v l)) else F'
 |.di [],.str i=>B' (.ds [(i,v)])
 |_,_=>F'
noncomputable def tP(h v:V)(T:TS):Option TS:=match h with
 |.aan=>bif v.hk 6 then fit (T.rows.length+1) {T with rows:=T.rows++[v]} else F'
 |.aaF i=>bif v.hk 6 then C' (T.aux i) λl=>fit (l.length+1) (T.setAux i (l++[v])) else F'
 |_=>F'
noncomputable def qr(h k v:V)(T:TS):Option TS:=match h,k,v with
 |.idxH,.tup l,.int j=>bif(V.tup l).hk 6&&(dA (.tup l) T.idx).isNone&&decide (T.idx.length<sizeLine) then B' {T with idx:=T.idx++[(.tup l,j)]} else F'
 |_,_,_=>F'
noncomputable def ib:List Expr->Option (List O')
 |[]=>B' []
 |.Name x _::l=>(ib l).map (x::·)
 |_::_=>F'
noncomputable def iG:V->Option (List V)
 |.tup l=>B' l
 |_=>F'
noncomputable def eN(sc:Sc):List O'->List V->List Sl->Option (List Sl)
 |[],[],Γ=>B' Γ
 |n::ns,v::vs,Γ=>C' (du sc Γ n (.pl v)) λΓ=>eN sc ns vs Γ
 |_,_,_=>F'
noncomputable def tQ:Expr->Option (O'×Pos)
 |.Name x p=>B' (x,p)
 |_=>F'
noncomputable def xB:Expr->Option (Expr×O'×Pos)
 |.Attribute o a p=>B' (o,a,p)
 |_=>F'
noncomputable def BG:Expr->Option (Expr×Expr×Pos)
 |.Subscript o i p=>B' (o,i,p)
 |_=>F'
noncomputable def xC:adb->Option (List Expr×Expr×Pos)
 |.Assign t e p=>B' (t,e,p)
 |_=>F'
noncomputable def zP:adb->Option (Expr×List adb×List adb×Pos)
 |.If t a b p=>B' (t,a,b,p)
 |_=>F'
noncomputable def xD{α:Type}:List α->Option α
 |[x]=>B' x
 |_=>F'
variable {e:Expr}
theorem lL{r:O'×Pos}(h:tQ e=B' r):e=.Name r.1 r.2:=by
 revert h;induction e using Expr.casesOn<;>first|exact no|(intro h;first|exact no h|exact ac h▸rfl)
theorem rQ{r:Expr×O'×Pos}(h:xB e=B' r):e=.Attribute r.1 r.2.1 r.2.2:=by
 revert h;induction e using Expr.casesOn<;>first|exact no|(intro h;first|exact no h|exact ac h▸rfl)
theorem tR{r:Expr×Expr×Pos}(h:BG e=B' r):e=.Subscript r.1 r.2.1 r.2.2:=by
 revert h;induction e using Expr.casesOn<;>first|exact no|(intro h;first|exact no h|exact ac h▸rfl)
theorem mI{s:adb}{r:List Expr×Expr×Pos}(h:xC s=B' r):s=.Assign r.1 r.2.1 r.2.2:=by
 revert h;induction s using Stmt.casesOn<;>first|exact no|(intro h;first|exact no h|exact ac h▸rfl)
theorem we{s:adb}{r:Expr×List adb×List adb×Pos}(h:zP s=B' r):s=.If r.1 r.2.1 r.2.2.1 r.2.2.2:=by
 revert h;induction s using Stmt.casesOn<;>first|exact no|(intro h;first|exact no h|exact ac h▸rfl)
theorem mJ{l:List α}{x:α}(h:xD l=B' x):l=[x]:=by
 rcases l with _|⟨a,_|⟨b,l⟩⟩
 .exact no h
 .exact ac h▸rfl
 .exact no h
noncomputable def rR(s:adb):Option (O'×Pos):=C' (xC s) λq=>C' (xD q.1) λt=>C' (BG t) λr=>tQ r.1
mutual
noncomputable def xE:Nat->adb->Bool
 |0,_=>false
 |n+1,s=>match zP s with
  |some q=>gu n q.2.1&&gu n q.2.2.1
  |none=>(rR s).isSome
noncomputable def gu:Nat->List adb->Bool
 |0,_=>false
 |_+1,[]=>true
 |n+1,s::l=>xE n s&&gu n l
end
noncomputable def fO:Expr->Bool
 |.ListComp _ [⟨.Name _ _,_,_,0⟩] _ _=>true
 |.ListComp ..=>false
 |.SetComp ..=>false
 |.DictComp ..=>false
 |_=>true
noncomputable def BH:Expr->Bool
 |.Tuple ..=>false
 |e=>fO e
noncomputable def EV(R:Rc)(sc:Sc)(Γ:List Sl)(T:TS)(s:adb)(k:List Sl->TS->cK):cK:=match s with
 |.Expr (.Call f es [] p) _=>(λe=>C' (R.ev sc (eJ sc e Γ) T e) λp=>k Γ p.2) (.Call f es [] p)
 |_=>F'
noncomputable def u0(B:Bs)(Lq:M'->V->TS->cK)(R:Rc)(sc:Sc)(Γ:List Sl)(T:TS)(s:adb)(f:Expr)(es:List Expr)(p:Pos)(k:List Sl->TS->cK):cK:=match f with
 |.Attribute o m ap=>match es with
  |[e]=>match o with
   |.Name x _=>bif m==fG&&(ap.endLine==p.line)&&kS e then C' (mH sc (eJ sc e Γ) x) λo=>C' (R.ev sc (eJ sc e Γ) T e) λp=>
     (eW o.2 p.1).bind λc=>C' (du sc (eJ sc e Γ) x (.ow c)) λΓ=>k Γ p.2
    else EV R sc Γ T s k
   |.Attribute o a ap'=>bif m==fG&&(ap.endLine==p.line)&&kS e then C' (R.ev sc Γ T (.Attribute o a ap')) λh=>C' (R.ev sc Γ h.2 e) λp=>
     (tP h.1 p.1 p.2).bind λT=>k Γ T
    else F'
   |_=>F'
  |_=>F'
 |.Name f _=>match es with
  |[e]=>match e with
   |.Name x _=>match gq B sc f with
    |some (.fn a)=>C' (mH sc Γ x) λo=>C' (Lq a o.2 T) λp=>C' (du sc Γ x (.ow p.1)) λΓ=>k Γ p.2
    |_=>F'
   |_=>F'
  |_=>F'
 |_=>F'
noncomputable def wg(R:Rc)(sc:Sc)(Γ:List Sl)(T:TS)(t e:Expr)(k:List Sl->TS->cK):cK:=match t with
 |.Name x _=>match e with
  |.List es p=>C' (R.ev sc (eJ sc (.List es p) Γ) T (.List es p)) λp'=>C' (du sc (eJ sc (.List es p) Γ) x (.ow p'.1)) λΓ=>k Γ p'.2
  |.Dict ks vs p=>C' (R.ev sc (eJ sc (.Dict ks vs p) Γ) T (.Dict ks vs p)) λp'=>C' (du sc (eJ sc (.Dict ks vs p) Γ) x (.ow p'.1)) λΓ=>k Γ p'.2
  |e=>bif !fO e then F' else C' (R.ev sc (eJ sc e Γ) T e) λp=>C' (du sc (BF sc e Γ p.1) x (.pl p.1)) λΓ=>k Γ p.2
 |.Tuple es _ _=>bif !BH e then F' else C' (ib es) λns=>C' (R.ev sc (eJ sc e Γ) T e) λp=>C' (iG p.1) λvs=>
   (eN sc ns vs (eJ sc e Γ)).bind λΓ=>k Γ p.2
 |.Subscript b i _=>match b with
  |.Name x _=>bif !fO e||lK (dZ 40 i) sc.slots (eJ sc e Γ) then F' else
   (mH sc (eJ sc e Γ) x).bind λo=>C' (R.ev sc (eJ sc e Γ) T e) λp=>C' (R.ev sc (eJ sc e Γ) p.2 i) λq=>
   (hZ o.2 q.1 p.1).bind λc=>C' (du sc (eJ sc e Γ) x (.ow c)) λΓ=>k Γ q.2
  |.Attribute o a ap=>bif !fO e then F' else C' (R.ev sc Γ T e) λp=>C' (R.ev sc Γ p.2 (.Attribute o a ap)) λh=>C' (R.ev sc Γ h.2 i) λq=>C' (qr h.1 q.1 p.1 q.2) λT=>k Γ T
  |_=>F'
 |_=>F'
noncomputable def xF(B:Bs)(Φ:zB)(Lq:M'->V->TS->cK)(R:Rc)(sc:Sc)(Γ:List Sl)(T:TS)(s:adb)(k:List Sl->TS->cK):cK:=match s with
 |.Expr e pos=>match e with
  |.Call f es kw p=>match kw with
   |[]=>u0 B Lq R sc Γ T (.Expr (.Call f es [] p) pos) f es p k
   |_=>F'
  |_=>F'
 |.Assign ts e _=>match ts with
  |[t]=>wg R sc Γ T t e k
  |_=>F'
 |.If t a b _=>C' (R.tst sc (eJ sc t Γ) T t) λp=>bif p.1 then R.xs sc Γ p.2 a k else R.xs sc Γ p.2 b k
 |.For t it body Nz _=>match t with
  |.Name x _=>match Nz with
   |[]=>bif !jP it then F' else C' (lJ B sc (R.ev sc (eJ sc it Γ)) T it) λp=>C' (fit p.1.length ()) λO=>
    cG (λv Γ T k=>C' (du sc Γ x (.pl v)) λΓ=>R.xs sc Γ T body k) p.1 (eJ sc it Γ) p.2 k
   |_=>F'
  |_=>F'
 |.Return e _=>match e with
  |some e=>R.ev sc (eJ sc e Γ) T e
  |none=>F'
 |_=>F'
noncomputable def tS(f:List Sl->TS->adb->(List Sl->TS->cK)->cK):List Sl->TS->List adb->(List Sl->TS->cK)->cK
 |Γ,T,[],k=>k Γ T
 |Γ,T,s::l,k=>f Γ T s λΓ T=>tS f Γ T l k
noncomputable def step(B:Bs)(Φ:zB)(Lq:M'->V->TS->cK)(R:Rc):Rc where
 ev:=qm B Φ R
 tst:=uZ B Φ R
 xs:=λsc Γ T l k=>tS (xF B Φ Lq R sc) Γ T l k
noncomputable def rc(B:Bs)(Φ:zB)(Lq:M'->V->TS->cK):Nat->Rc
 |0=>⟨λO O O O=>F',λO O O O=>F',λO O O O O=>F'⟩
 |n+1=>step B Φ Lq (rc B Φ Lq n)
noncomputable def aal(f:Fn):Sc:=⟨f.scope.names,f.slots⟩
noncomputable def BI(f:Fn)(vs:List V):Option (List Sl):=bif L' (vs.length<=f.np)&&decide (f.np - vs.length<=f.dflt.length)&&decide (f.np<=f.slots.length) then
  B' ((vs++f.dflt.drop (f.dflt.length - (f.np - vs.length))).map .pl++List.replicate (f.slots.length - f.np) .un) else F'
noncomputable def lW(B:Bs):Nat->M'->V->TS->cK
 |0=>λO O O=>F'
 |_+1=>λa v T=>C' (B.fn a) λf=>bif f.np==1&&gu 30 f.body&&!f.slots.isEmpty then
    (rc B (λO O O=>F') (λO O O=>F') 30).xs (aal f) (.ow v::List.replicate (f.slots.length - 1) .un) T f.body (λΓ T=>C' ((Γ[0]?).bind Sl.od) λv=>B' (v,T)) else F'
noncomputable def Em(B:Bs):Nat->zB
 |0=>λO O O=>F'
 |n+1=>λa vs T=>C' (B.fn a) λf=>C' (BI f vs) λΓ=>(rc B (Em B n) (lW B n) 30).xs (aal f) Γ T f.body λO T=>B' (.none,T)
set_option genInjectivity false in
set_option genSizeOf false in
structure Wd where
 prog:aem
 w:U'
 aas:M'
 aaL:M'
 aaQ:M'
 aa2:M'
 aab:M'
 aaR:Nat->M'
 na:Nat
 live:Prop
 aaC:M'
 aaI:M'
 aax:M'
 aao:M'
noncomputable def Wd.mut(W:Wd)(a:M'):Prop:=(W.live/\a=W.aaQ)\/(W.live/\a=W.aa2)\/∃k,k<W.na/\a=W.aaR k
noncomputable abbrev fb(xs:List G'):Obj:={cls:=.type "tuple",data:=.seq xs.toArray}
noncomputable abbrev eB(xs:List G')(n:Nat):Obj:={cls:=.type "list",data:=.seq xs.toArray n}
noncomputable def NT(o:Obj):Prop:=∀xs,o≠fb xs
theorem NT.aaM{o:Obj}(h:o.cls≠ .type "tuple"):NT o:=λxs e=>h (by rw[e])
theorem NT.aaE{o:Obj}{es:Array adv}(h:o.data=.dict es n):NT o:=λxs e=>by replace h:=e▸h;cases h
noncomputable def dG(o:Obj):Prop:=o.cls=.type "tuple"\/o.cls=.type "list"\/o.cls=.type "dict"
mutual
inductive VR (W:Wd) (h:P') (Y:M'->Prop):G'->V->Prop
 |none:VR W h Y .none .none
 |bool (b:Bool):VR W h Y (.bool b) (.bool b)
 |int (i:Int) (t:Tok):VR W h Y (.int i t) (.int i)
 |str (x:O') (t:Tok):x.length<=sizeLine->VR W h Y (.str x t) (.str x)
 |tup {a:M'} {xs:List G'} {l:List V}:l.length<=sizeLine->¬Y a->h.get? a=B' (fb xs)->cM W h Y xs l->VR W h Y (.ref a) (.tup l)
 |lst {a:M'} {xs:List G'} {n:Nat} {l:List V}:l.length<=sizeLine->¬Y a->h.get? a=B' (eB xs n)->cM W h Y xs l->VR W h Y (.ref a) (.lst l)
 |di {a:M'} {es:List (Int×G')} {l:List (Int×V)}:l.length<=sizeLine->(a==adf)=false->¬Y a->h.DictOf (adA W.prog W.w) a es->ja W h Y es l->VR W h Y (.ref a) (.di l)
 |ds {a:M'} {es:List (O'×G')} {l:List (O'×V)}:l.length<=sizeLine->(a==adf)=false->¬Y a->h.DictOf (strKind W.prog W.w) a es->iS W h Y es l->VR W h Y (.ref a) (.ds l)
 |tab:VR W h Y (.ref W.aas) .tab
 |host:VR W h Y (.ref W.aaC) .host
 |decl:VR W h Y (.ref W.aax) .decl
 |aan:W.live->VR W h Y (.ref W.aaQ) .aan
 |idxH:W.live->VR W h Y (.ref W.aa2) .idxH
 |aau:VR W h Y (.ref W.aab) .aau
 |aaF (k:Nat):k<W.na->VR W h Y (.ref (W.aaR k)) (.aaF k)
inductive cM (W:Wd) (h:P') (Y:M'->Prop):List G'->List V->Prop
 |nil:cM W h Y [] []
 |cons {x:G'} {v:V} {xs:List G'} {l:List V}:VR W h Y x v->cM W h Y xs l->cM W h Y (x::xs) (v::l)
inductive ja (W:Wd) (h:P') (Y:M'->Prop):List (Int×G')->List (Int×V)->Prop
 |nil:ja W h Y [] []
 |cons {k:Int} {x:G'} {v:V} {es:List (Int×G')} {l:List (Int×V)}:VR W h Y x v->ja W h Y es l->ja W h Y ((k,x)::es) ((k,v)::l)
inductive iS (W:Wd) (h:P') (Y:M'->Prop):List (O'×G')->List (O'×V)->Prop
 |nil:iS W h Y [] []
 |cons {k:O'} {x:G'} {v:V} {es:List (O'×G')} {l:List (O'×V)}:k.length<=sizeLine->VR W h Y x v->iS W h Y es l->iS W h Y ((k,x)::es) ((k,v)::l)
end
noncomputable def Iy(W:Wd)(h:P')(Y:M'->Prop)(x:G'):V->Prop
 |.none=>x=.none
 |.bool b=>x=.bool b
 |.int i=>∃t,x=.int i t
 |.str y=>∃t,x=.str y t/\y.length<=sizeLine
 |.tup l=>∃a xs,x=.ref a/\l.length<=sizeLine/\¬Y a/\h.get? a=B' (fb xs)/\cM W h Y xs l
 |.lst l=>∃a xs n,x=.ref a/\l.length<=sizeLine/\¬Y a/\h.get? a=B' (eB xs n)/\cM W h Y xs l
 |.di l=>∃a es,x=.ref a/\l.length<=sizeLine/\(a==adf)=false/\¬Y a/\h.DictOf (adA W.prog W.w) a es/\ja W h Y es l
 |.ds l=>∃a es,x=.ref a/\l.length<=sizeLine/\(a==adf)=false/\¬Y a/\h.DictOf (strKind W.prog W.w) a es/\iS W h Y es l
 |.tab=>x=.ref W.aas
 |.host=>x=.ref W.aaC
 |.decl=>x=.ref W.aax
 |.aan=>x=.ref W.aaQ/\W.live
 |.idxH=>x=.ref W.aa2/\W.live
 |.aau=>x=.ref W.aab
 |.aaF k=>x=.ref (W.aaR k)/\k<W.na
variable {h:P'}{Y:M'->Prop}{x:G'}
theorem VR.view{W:Wd}{v:V}(r:VR W h Y x v):Iy W h Y x v:=VR.casesOn (motive_1:=λx v O=>Iy W h Y x v) r rfl (λO=>rfl) (λO t=>⟨t,rfl⟩) (λO t z=>⟨t,rfl,z⟩) (λz n g q=>(zI _ _ rfl z n g q)) (λz n g q=>(tO _ _ _ rfl z n g q)) (λz y n g q=>(Ge _ _ rfl z y n g q)) (λz y n g q=>(Ge _ _ rfl z y n g q)) rfl rfl rfl (λl=>⟨rfl,l⟩) (λl=>⟨rfl,l⟩) rfl (λO k=>⟨rfl,k⟩)
variable {prog:aem}{h':P'}{a:M'}
theorem fe{w:U'}{K:Type}[DecidableEq K]{knd:KeyKind prog w K}{es:List (K×G')}(x:h.DictOf knd a es)(k:∀o,dG o->h.get? a=B' o->h'.get? a=B' o):h'.DictOf knd a es:=x.elim λo x=>x.elim λr x=>x.elim λep x=>(uU o r ep (k o (.inr (.inr x.2.1.1)) x.1) x.2)
noncomputable def kN(Y:M'->Prop)(h h':P'):Prop:=∀b o,¬Y b->dG o->h.get? b=B' o->h'.get? b=B' o
theorem EW{K:Type}[DecidableEq K]{j k:K}{y:G'}{es:List (K×G')}(e:¬j=k):adY ((j,y)::es) k=adY es k:=by simp [adY,List.find?_cons,e]
theorem EX{K:Type}[DecidableEq K]{j:K}{y:G'}{es:List (K×G')}:adY ((j,y)::es) j=B' y:=by simp [adY]
variable {xs:List G'}{Y':M'->Prop}
section
variable {W:Wd}
noncomputable def Ch(Y Y':M'->Prop)(h h':P'):Prop:=∀b o,¬Y b->dG o->h.get? b=B' o->¬Y' b/\h'.get? b=B' o
theorem Ch.dict{w:U'}{K:Type}[DecidableEq K]{knd:KeyKind prog w K}{es:List (K×G')}(k:Ch Y Y' h h')(n:¬Y a)(g:h.DictOf knd a es):¬Y' a/\h'.DictOf knd a es:=by
 refine x33 g λo r ep ho hx q=>?_
 have c:=k _ o n (.inr (.inr hx.1)) ho
 exact⟨c.1,o,r,ep,c.2,hx,q⟩
@[elab_as_elim] theorem cM.ind {P:List G'->List V->Prop} {l:List V} (r:cM W h Y xs l) (h0:P [] []) (h1:∀{x v xs l},VR W h Y x v->cM W h Y xs l->P xs l->P (x::xs) (v::l)):P xs l:=cM.rec (motive_1:=λO O O=>True) (motive_2:=λx v O=>P x v) (motive_3:=λO O O=>True) (motive_4:=λO O O=>True) ao (λO=>ao) (λO O=>ao) (λO O O=>ao) (λO O O O O=>ao) (λO O O O O=>ao) (λO O O O O O=>ao) (λO O O O O O=>ao) ao ao ao (λO=>ao) (λO=>ao) ao (λO O=>ao) h0 (λp q O i=>h1 p q i) ao (λO O O O=>ao) ao (λO O O O O=>ao) r
@[elab_as_elim] theorem ja.ind {P:List (Int×G')->List (Int×V)->Prop} {xs:List (Int×G')} {l:List (Int×V)} (r:ja W h Y xs l) (h0:P [] []) (h1:∀{k x v xs l},VR W h Y x v->ja W h Y xs l->P xs l->P ((k,x)::xs) ((k,v)::l)):P xs l:=ja.rec (motive_1:=λO O O=>True) (motive_3:=λx v O=>P x v) (motive_2:=λO O O=>True) (motive_4:=λO O O=>True) ao (λO=>ao) (λO O=>ao) (λO O O=>ao) (λO O O O O=>ao) (λO O O O O=>ao) (λO O O O O O=>ao) (λO O O O O O=>ao) ao ao ao (λO=>ao) (λO=>ao) ao (λO O=>ao) ao (λO O O O=>ao) h0 (λp q O i=>h1 p q i) ao (λO O O O O=>ao) r
@[elab_as_elim] theorem iS.ind {P:List (O'×G')->List (O'×V)->Prop} {xs:List (O'×G')} {l:List (O'×V)} (r:iS W h Y xs l) (h0:P [] []) (h1:∀{k x v xs l},k.length<=sizeLine->VR W h Y x v->iS W h Y xs l->P xs l->P ((k,x)::xs) ((k,v)::l)):P xs l:=iS.rec (motive_1:=λO O O=>True) (motive_4:=λx v O=>P x v) (motive_2:=λO O O=>True) (motive_3:=λO O O=>True) ao (λO=>ao) (λO O=>ao) (λO O O=>ao) (λO O O O O=>ao) (λO O O O O=>ao) (λO O O O O O=>ao) (λO O O O O O=>ao) ao ao ao (λO=>ao) (λO=>ao) ao (λO O=>ao) ao (λO O O O=>ao) ao (λO O O O=>ao) h0 (λz p q O i=>h1 z p q i) r
theorem VR.change(k:Ch Y Y' h h'){v:V}(r:VR W h Y x v):VR W h' Y' x v:=VR.rec (motive_1:=λx v O=>VR W h' Y' x v) (motive_2:=λx v O=>cM W h' Y' x v) (motive_3:=λx v O=>ja W h' Y' x v) (motive_4:=λx v O=>iS W h' Y' x v) .none .bool .int .str (λz n g O i=>.tup z (k _ _ n (.inl rfl) g).1 (k _ _ n (.inl rfl) g).2 i) (λz n g O i=>.lst z (k _ _ n (.inr (.inl rfl)) g).1 (k _ _ n (.inr (.inl rfl)) g).2 i) (λz y n g O i=>.di z y (k.dict n g).1 (k.dict n g).2 i) (λz y n g O i=>.ds z y (k.dict n g).1 (k.dict n g).2 i) .tab .host .decl .aan .idxH .aau .aaF .nil (λO O p q=>.cons p q) .nil (λO O p q=>.cons p q) .nil (λz O O p q=>.cons z p q) r
theorem cM.change(k:Ch Y Y' h h'){x:List G'}{v:List V}(r:cM W h Y x v):cM W h' Y' x v:=cM.ind r .nil λp O i=>.cons (p.change k) i
theorem ja.change(k:Ch Y Y' h h'){x:List (Int×G')}{v:List (Int×V)}(r:ja W h Y x v):ja W h' Y' x v:=ja.ind r .nil λp O i=>.cons (p.change k) i
theorem iS.change(k:Ch Y Y' h h'){x:List (O'×G')}{v:List (O'×V)}(r:iS W h Y x v):iS W h' Y' x v:=iS.ind r .nil λz p O i=>.cons z (p.change k) i
theorem u1(k:kN Y h h'):Ch Y Y h h':=λb o n d g=>⟨n,k b o n d g⟩
theorem u2(k:∀b,Y' b->Y b):Ch Y Y' h h:=λb o n O g=>⟨λq=>n (k b q),g⟩
theorem VR.keep(k:kN Y h h'){x:G'}{v:V}(r:VR W h Y x v):VR W h' Y x v:=r.change (u1 k)
theorem VR.weaken(k:∀b,Y' b->Y b){v:V}(r:VR W h Y x v):VR W h Y' x v:=r.change (u2 k)
theorem cM.keep(k:kN Y h h'){x:List G'}{v:List V}(r:cM W h Y x v):cM W h' Y x v:=r.change (u1 k)
theorem cM.weaken(k:∀b,Y' b->Y b){x:List G'}{v:List V}(r:cM W h Y x v):cM W h Y' x v:=r.change (u2 k)
theorem ja.keep(k:kN Y h h'){x:List (Int×G')}{v:List (Int×V)}(r:ja W h Y x v):ja W h' Y x v:=r.change (u1 k)
theorem ja.weaken(k:∀b,Y' b->Y b){x:List (Int×G')}{v:List (Int×V)}(r:ja W h Y x v):ja W h Y' x v:=r.change (u2 k)
theorem iS.keep(k:kN Y h h'){x:List (O'×G')}{v:List (O'×V)}(r:iS W h Y x v):iS W h' Y x v:=r.change (u1 k)
theorem iS.weaken(k:∀b,Y' b->Y b){x:List (O'×G')}{v:List (O'×V)}(r:iS W h Y x v):iS W h Y' x v:=r.change (u2 k)
theorem VR.move(k:∀b,Y' b->∀o,h.get? b=B' o->NT o){v:V}(r:VR W h Y x v):v.flat=true->VR W h Y' x v:=VR.rec (motive_1:=λx v O=>v.flat=true->VR W h Y' x v) (motive_2:=λx v O=>V.abk v=true->cM W h Y' x v) (motive_3:=λO O O=>True) (motive_4:=λO O O=>True) (λO=>.none) (λb O=>.bool b) (λi t O=>.int i t) (λx t z O=>.str x t z) (λz n g O i f=>.tup z (λm=>k _ m _ g _ rfl) g (i f)) (λO O O O O f=>nb f) (λO O O O O O f=>nb f) (λO O O O O O f=>nb f) (λO=>.tab) (λO=>.host) (λO=>.decl) (λp O=>.aan p) (λp O=>.idxH p) (λO=>.aau) (λk l O=>.aaF k l) (λO=>.nil) (λO O p q f=>.cons (p (aag f).1) (q (aag f).2)) ao (λO O O O=>ao) ao (λO O O O O=>ao) r
theorem cM.move(k:∀b,Y' b->∀o,h.get? b=B' o->NT o){x:List G'}{v:List V}(r:cM W h Y x v):V.abk v=true->cM W h Y' x v:=cM.ind r (λO=>.nil) λp O i f=>.cons (p.move k (aag f).1) (i (aag f).2)
theorem cM.acw{l:List V}(r:cM W h Y [] l):l=[]:=by cases r;rfl
theorem cM.aaV{x:List G'}(r:cM W h Y x []):x=[]:=by cases r;rfl
theorem cM.ab1{l:List V}(r:cM W h Y (x::xs) l):∃v vs,l=v::vs/\VR W h Y x v/\cM W h Y xs vs:=by cases r with|cons p q=>exact(gE _ _ rfl p q)
theorem cM.aaX{v:V}{l:List V}(r:cM W h Y xs (v::l)):∃x ys,xs=x::ys/\VR W h Y x v/\cM W h Y ys l:=by cases r with|cons p q=>exact(gE _ _ rfl p q)
theorem cM.length{x:List G'}{v:List V}(r:cM W h Y x v):x.length=v.length:=cM.ind r rfl λO O i=>aM (· +1) i
theorem cM.acx{x:List G'}{v:List V}(r:cM W h Y x v):∀(i:Nat)(u:V),v[i]? =B' u->∃y,x[i]? =B' y/\VR W h Y y u:=cM.ind r (λO O e=>no e) λp O ih i u=>Nat.casesOn i (λe=>⟨_,rfl,ac e▸p⟩) λi e=>ih i u e
theorem cM.get{x:List G'}{v:List V}(r:cM W h Y x v){i:Nat}{u:V}(e:v[i]? =B' u):∃y,x[i]? =B' y/\VR W h Y y u:=r.acx i u e
theorem cM.acy{x:List G'}{v:List V}(r:cM W h Y x v):∀(i:Nat)(y:G'),x[i]? =B' y->∃u,v[i]? =B' u/\VR W h Y y u:=cM.ind r (λO O e=>no e) λp O ih i u=>Nat.casesOn i (λe=>⟨_,rfl,ac e▸p⟩) λi e=>ih i u e
theorem cM.get'{x:List G'}{v:List V}(r:cM W h Y x v){i:Nat}{y:G'}(e:x[i]? =B' y):∃u,v[i]? =B' u/\VR W h Y y u:=r.acy i y e
theorem cM.append{x y:List G'}{v u:List V}(r:cM W h Y x v)(q:cM W h Y y u):cM W h Y (x++y) (v++u):=cM.ind r q λp O i=>.cons p i
theorem cM.take{x:List G'}{v:List V}(r:cM W h Y x v):∀n:Nat,cM W h Y (x.take n) (v.take n):=cM.ind r (λn=>Nat.casesOn n .nil λO=>.nil) λp O i n=>Nat.casesOn n .nil λn=>.cons p (i n)
theorem cM.drop{x:List G'}{v:List V}(r:cM W h Y x v):∀n:Nat,cM W h Y (x.drop n) (v.drop n):=cM.ind r (λn=>Nat.casesOn n .nil λO=>.nil) λp q i n=>Nat.casesOn n (.cons p q) λn=>i n
theorem ja.length{x:List (Int×G')}{v:List (Int×V)}(r:ja W h Y x v):x.length=v.length:=ja.ind r rfl λO O i=>aM (· +1) i
theorem iS.length{x:List (O'×G')}{v:List (O'×V)}(r:iS W h Y x v):x.length=v.length:=iS.ind r rfl λO O O i=>aM (· +1) i
theorem ja.keys{x:List (Int×G')}{v:List (Int×V)}(r:ja W h Y x v):x.map (·.1)=v.map (·.1):=ja.ind r rfl λO O i=>aM _ i
theorem iS.keys{x:List (O'×G')}{v:List (O'×V)}(r:iS W h Y x v):x.map (·.1)=v.map (·.1):=iS.ind r rfl λO O O i=>aM _ i
theorem EY{K A:Type}[DecidableEq K]{j k:K}{a:Option A}{b:A}(e:¬j=k):(bif j==k then B' b else a)=a:=by rw[aR.mpr e];rfl
theorem EZ{K A:Type}[DecidableEq K]{j:K}{a:Option A}{b:A}:(bif j==j then B' b else a)=B' b:=by rw[bF];rfl
noncomputable def E0(W:Wd)(h:P')(Y:M'->Prop)(a:Option G')(b:Option V):Prop:=(a=F'/\b=F')\/∃y u,a=B' y/\b=B' u/\VR W h Y y u
theorem E0.cons{K:Type}[DecidableEq K]{j k:K}{y:G'}{u:V}{es:List (K×G')}{b:Option V}(p:VR W h Y y u)(i:E0 W h Y (adY es k) b):E0 W h Y (adY ((j,y)::es) k) (bif j==k then B' u else b):=by
 by_cases e:j=k
 .subst e;exact .inr (gE y u EX EZ p)
 ·(refine sb (EW e) ?_;refine sb (EY e) ?_);exact i
theorem ja.find{x:List (Int×G')}{v:List (Int×V)}(r:ja W h Y x v)(k:Int):E0 W h Y (adY x k) (dK k v):=ja.ind r (.inl ⟨rfl,rfl⟩) λp O i=>i.cons p
theorem iS.find{x:List (O'×G')}{v:List (O'×V)}(r:iS W h Y x v)(k:O'):E0 W h Y (adY x k) (dW k v):=iS.ind r (.inl ⟨rfl,rfl⟩) λO p O i=>i.cons p
end
theorem iS.small{W:Wd}{x:List (O'×G')}{v:List (O'×V)}(r:iS W h Y x v):∀k∈x.map (·.1),k.length<=sizeLine:=iS.ind r (λk hk=>nomatch hk) λz O O i k hk=>(aD.mp hk).elim (λe=>e▸z) (i k)
mutual
noncomputable def V.py:V->PyData
 |.none=>.none
 |.bool b=>.bool b
 |.int i=>.int i
 |.str x=>.str x
 |.tup l=>.tuple (V.pys l)
 |_=>.none
noncomputable def V.pys:List V->List PyData
 |[]=>[]
 |v::l=>v.py::V.pys l
end
section
variable {W:Wd}
theorem CH{l:List V}(e:(V.tup l).hk n=true):∃m,n=m+1/\∀v∈l,v.hk m=true:=by
 induction n using Nat.casesOn with
 |zero=>exact nb e
 |succ m=>exact⟨m,rfl,aE.mp e⟩
theorem aaS{v:V}(e:v.hk n=true):(∃i,v=.int i)\/(∃x,v=.str x/\PyData.strOk x=true)\/∃l,v=.tup l:=by
 induction v using V.casesOn<;>first|exact .inl ⟨_,rfl⟩|exact .inr (.inr ⟨_,rfl⟩)|(induction n using Nat.casesOn<;>exact nb e)|(induction n using Nat.casesOn<;>exact .inr (.inl ⟨_,rfl,e⟩))
noncomputable def BJ(h:P')(n:Nat)(x:G')(v:V):Prop:=∃as,Reads h x v.py as/\v.py.canLay0=true/\v.py.depth<=n+1
noncomputable def zQ(h:P')(n:Nat)(x:List G')(v:List V):Prop:=∃as,ReadsAll h x (V.pys v) as/\PyData.canLayAll0 (V.pys v)=true/\PyData.depthAll (V.pys v)<=n+1
theorem xG{v:V}{l:List V}(p:BJ h n x v)(q:zQ h n xs l):zQ h n (x::xs) (v::l):=by
 refine kQ p λas h1 h2 h3=>?_
 refine kQ q λbs k1 k2 k3=>?_
 exact(lU _ (.cons h1 k1) ((congr (aM and h2) k2:)) (Nat.max_le.mpr ⟨h3,k3⟩))
theorem xH{n:Nat}(H:∀{x:G'}{v:V},VR W h Y x v->v.hk n=true->BJ h n x v){x:List G'}{v:List V}(r:cM W h Y x v):(∀u∈v,u.hk n=true)->zQ h n x v:=cM.ind r (λO=>(lU _ (.nil) rfl (Nat.zero_le _))) λp O i e=>xG (H p (e _ (af ..))) (i λu m=>e u (ag _ m))
theorem GT{i:Int}(r:VR W h Y x (.int i)):BJ h n x (.int i):=by
 refine x11 r.view λt KC=>?_;subst KC
 exact(lU _ (.int i t) rfl (Nat.zero_le _))
theorem GU{y:O'}(r:VR W h Y x (.str y))(ok:PyData.strOk y=true):BJ h n x (.str y):=by
 refine x12 r.view λt KC O=>?_;subst KC
 exact(lU _ (.str y t) ok (Nat.zero_le _))
theorem o9{P:Nat->V->Prop}(hi:∀n i,P n (.int i))(hs:∀n s,PyData.strOk s=true->P n (.str s))(ht:∀n l,(∀v∈l,v.hk n=true)->(∀v,v.hk n=true->P n v)->P (n+1) (.tup l))(n:Nat):∀v,v.hk n=true->P n v:=by
 induction n with
 |zero=>
  intro v e;rcases aaS e with⟨i,rfl⟩|⟨y,rfl,ok⟩|⟨l,rfl⟩
  .exact hi _ i
  .exact hs _ y ok
  .exact nb e
 |succ n ih=>
  intro v e;rcases aaS e with⟨i,rfl⟩|⟨y,rfl,ok⟩|⟨l,rfl⟩
  .exact hi _ i
  .exact hs _ y ok
  .exact ht n l (aE.mp e) ih
theorem acz{l:List V}(e:∀v∈l,v.hk n=true)(H:∀v,v.hk n=true->∀x,VR W h Y x v->BJ h n x v)(x:G')(r:VR W h Y x (.tup l)):BJ h (n+1) x (.tup l):=by
 refine lH r.view λa xs KC z m g q=>?_;subst KC
 refine kQ (xH (λr e=>H _ e _ r) q e) λas h1 h2 h3=>?_
 exact(lU _ (.tuple (n:=0) (vs:=xs.toArray) g rfl rfl h1) h2 (Nat.succ_le_succ h3))
theorem ec(n:Nat){v:V}(r:VR W h Y x v)(e:v.hk n=true):BJ h n x v:=o9 (P:=λn v=>∀x,VR W h Y x v->BJ h n x v) (λO O O r=>GT r) (λO O ok O r=>GU r ok) (λO O e H=>acz e H) n v e x r
theorem rS(n:Nat){x:List G'}{v:List V}(r:cM W h Y x v)(e:∀u∈v,u.hk n=true):zQ h n x v:=xH (ec n) r e
theorem zR(H:∀(m:Nat)(a b:V),a.hk n=true->b.hk m=true->PyData.eqv a.py b.py=a.beq b)(m:Nat)(a:List V):∀b:List V,(∀v∈a,v.hk n=true)->(∀v∈b,v.hk m=true)->PyData.eqvAll (V.pys a) (V.pys b)=V.abE a b:=by
 induction a with
 |nil=>intro b _ _;induction b using List.casesOn<;>rfl
 |cons a x ih=>
  intro b ha hb;induction b using List.casesOn with
  |nil=>rfl
  |cons b y=>exact congr (aM and (H m a b (ha _ (af ..)) (hb _ (af ..)))) (ih y (λu hu=>ha _ (ag _ hu)) λu hu=>hb _ (ag _ hu))
theorem E1{m:Nat}{i:Int}{b:V}(hb:b.hk m=true):PyData.eqv (V.int i).py b.py=(V.int i).beq b:=by
 rcases aaS hb with⟨j,rfl⟩|⟨x,rfl,_⟩|⟨l,rfl⟩<;>rfl
theorem E2{m:Nat}{i:O'}{b:V}(hb:b.hk m=true):PyData.eqv (V.str i).py b.py=(V.str i).beq b:=by
 rcases aaS hb with⟨j,rfl⟩|⟨x,rfl,_⟩|⟨l,rfl⟩<;>rfl
theorem E3{m:Nat}{k:List V}(ha:∀v∈k,v.hk n=true)(ih:∀a:V,a.hk n=true->∀(m:Nat)(b:V),b.hk m=true->PyData.eqv a.py b.py=a.beq b){b:V}(hb:b.hk m=true):PyData.eqv (V.tup k).py b.py=(V.tup k).beq b:=by
 rcases aaS hb with⟨j,rfl⟩|⟨x,rfl,_⟩|⟨l,rfl⟩
 .rfl
 .rfl
 .refine x12 (CH hb) λm' KC h2=>?_;subst KC;exact zR (λm a b ha hb=>ih a ha m b hb) m' k l ha h2
theorem mK(n m:Nat)(a b:V)(ha:a.hk n=true)(hb:b.hk m=true):PyData.eqv a.py b.py=a.beq b:=o9 (P:=λO a=>∀(m:Nat)(b:V),b.hk m=true->PyData.eqv a.py b.py=a.beq b) (λO O O O h=>E1 h) (λO O O O O h=>E2 h) (λO O ha ih O O h=>E3 ha ih h) n a ha m b hb
end
mutual
noncomputable def aa8(w:U'):V->Int
 |.int i=>hashInt i
 |.str x=>hashStr w x
 |.tup l=>reduceHash (Builtin.Tuple.tupleHashOf (ic w l))
 |_=>0
noncomputable def ic(w:U'):List V->List Int
 |[]=>[]
 |v::l=>aa8 w v::ic w l
end
mutual
noncomputable def lM:V->Nat
 |.tup l=>ig l+1
 |_=>1
noncomputable def ig:List V->Nat
 |[]=>0
 |v::l=>lM v+ig l
end
theorem oz(w:U')(a b:List V):ic w (a++b)=ic w a++ic w b:=by
 induction a with
 |nil=>rfl
 |cons x a ih=>exact aM (aa8 w x::·) ih
theorem oA(a b:List V):ig (a++b)=ig a+ig b:=by
 induction a with
 |nil=>exact(ci _).symm
 |cons x a ih=>exact(aM (lM x+·) ih).trans (bH ..).symm
abbrev qab:=G'->H'->Prop
variable {s s':H'}{A:ada}{E:qab}{KJ:List G'}{W':Wd}
section
variable {W:Wd}
noncomputable abbrev qaa{α:Type}(W:Wd)(A:ada)(t:Sem α)(Q:α->H'->Prop)(E:qab)(s:H'):Prop:=V' (ade W.prog W.w) A t Q E s
noncomputable def mL(W:Wd)(Y:M'->Prop)(n:Nat)(v:V):Prop:=∀(A:ada)(E:qab)(s:H')(x:G')(Q:Int->H'->Prop),A.units+n<adD->VR W s.heap Y x v->Q (aa8 W.w v) {s with toks:=s.toks+lM v}->qaa W A (pyHash x) Q E s
theorem CI(n:Nat)(i:Int):mL W Y n (.int i):=λO O O O O O r hq=>by
 obtain⟨t,rfl⟩:=r.view
 exact wpAny_pyHash_int hq
theorem CK(n:Nat)(x:O'):mL W Y n (.str x):=λO O O O O O r hq=>by
 refine x12 r.view λt KC O=>?_;subst KC
 exact wpAny_pyHash_str hq
noncomputable def wj(W:Wd)(Y:M'->Prop)(s:H')(l:List V)(KJ:List G')(b:Array Int)(s':H'):Prop:=∃done left,l=done++left/\cM W s.heap Y KJ left/\b.toList=ic W.w done/\s'={s with toks:=s.toks+ig done}
theorem rT(w:U')(a:List V)(v:V):ic w (a++[v])=ic w a++[aa8 w v]:=oz w a [v]
theorem rU(a:List V)(v:V):ig (a++[v])=ig a+lM v:=oA a [v]
theorem wj.step{s s':H'}{l:List V}{x:G'}{KJ:List G'}{b:Array Int}(hv:wj W Y s l (x::KJ) b s'){G:Prop}(k:∀v,v∈l->VR W s'.heap Y x v->wj W Y s l KJ (b.push (aa8 W.w v)) {s' with toks:=s'.toks+lM v}->G):G:=by
 refine x24 hv λdone left KC q hb PV=>?_;subst KC;subst PV
 obtain⟨v,vs,rfl,r,q⟩:=q.ab1
 exact k v (cf _ (af ..)) r (fy (done++[v]) vs ((bv done [v] vs).symm) q (by rw[Array.toList_push,hb,rT]) (by rw[rU,<- bH]))
theorem wj.done{l:List V}{b:Array Int}(hv:wj W Y s l [] b s'):b.toList=ic W.w l/\s'={s with toks:=s.toks+ig l}:=by
 refine x24 hv λdone left e q hb KC=>?_;subst KC
 obtain rfl:=q.acw
 rw[a0] at e
 subst e
 exact⟨hb,rfl⟩
theorem xI{i:Int}{Q:Int->H'->Prop}(hq:Q (reduceHash i) s):qaa W A (pyHashByItsType.reduced i) Q E s:=by
 unfold reduceHash at hq
 show V' _ _ (if(L' (-(2:Int)^63<=i)&&decide (i<2^63))=true then _ else _) Q E _
 by_cases hr:(L' (-(2:Int)^63<=i)&&decide (i<2^63))=true
 .rw[aZ hr] at hq ⊢;exact av hq
 .rw[aL hr] at hq ⊢;exact ah (wpAny_rule (av hq))
theorem CL(n:Nat)(l:List V)(hl:∀v∈l,v.hk n=true)(ih:∀v,v.hk n=true->mL W Y n v):mL W Y (n+1) (.tup l):=λA E s x Q hu r hq=>by
 refine lH r.view λa xs KC O O ho rs=>?_;subst KC
 have hT:s.TypeIs (.ref a) "tuple":=⟨_,ho,rfl⟩
 unfold pyHash
 unfold pyHashByItsType
 refine ah (wpAny_cRoomFor_or (.inr (Ei hu rfl)) ?_)
 refine ah (aeg hT F.slot_tuple_hash.lookup ?_)
 show V' _ _ (if(B' (Value.builtin "tuple.__hash__")==B' Value.none)=true then _ else _) Q E s
 rw[aL (by rw[beq_builtin_none];exact Bool.false_ne_true)]
 refine ah (aeg hT F.slot_tuple_hash.lookup ?_)
 show V' _ _ (callSpecialIfBoundUnlessNone? (.ref a) "__hash__" _>>= _) Q E s
 refine ah (wpAny_callSpecialIfBoundUnlessNone?_slot hT F.slot_tuple_hash (adH F.slot_tuple_hash hT F.entry_tuple_hash ?_ (F.args_tuple_hash_1 _)))
 show V' _ _ (Builtin.Tuple.tupleItemsOf (.ref a)>>= _) _ _ s
 refine ah (wpAny_tupleItemsOf ho rfl ?_)
 refine ah ?_
 refine sb (Eq.symm (Array.forIn_toList)) ?_
 refine wpAny_forIn_list _ (wj W Y s l) _ ?_ ?_ _ _ (fy ([]) l rfl (by simpa using rs) rfl rfl)
 .intro x KJ b s' hv;refine hv.step λv m r Vo=>?_;refine ah (ih v (hl v m) _ _ _ _ _ ?_ r ?_)
  .simp only[Around.in1_units];exact Cp hu
  exact av Vo
 .intro b s' hv;refine x02 hv.done λhb KC=>?_;subst KC;show V' _ _ (retInt (Builtin.Tuple.tupleHashOf b.toList)) _ _ _;refine sb hb ?_;exact wpAny_ret_mkInt (xI hq)
theorem wk(n:Nat){A:ada}{E:qab}{s:H'}{x:G'}{v:V}{Q:Int->H'->Prop}(hu:A.units+n<adD)(r:VR W s.heap Y x v)(e:v.hk n=true)(hq:Q (aa8 W.w v) {s with toks:=s.toks+lM v}):qaa W A (pyHash x) Q E s:=o9 (P:=mL W Y) CI (λn x O=>CK n x) CL n v e A E s x Q hu r hq
noncomputable def j9(W:Wd)(Y:M'->Prop)(n:Nat)(v:V):Prop:=∀(d:Nat)(A:ada)(E:qab)(s:H')(x:G')(Q:Bool->H'->Prop),n<=d->VR W s.heap Y x v->Q true s->qaa W A (eqIsQuiet d x) Q E s
theorem zS(n:Nat)(i:Int):j9 W Y n (.int i):=λO O O O O O O r hq=>by
 refine x11 r.view λt KC=>?_;subst KC
 refine sb (eqIsQuiet_byValue _ (by rfl)) ?_;exact av hq
theorem zT(n:Nat)(x:O'):j9 W Y n (.str x):=λO O O O O O O r hq=>by
 refine x12 r.view λt KC O=>?_;subst KC
 refine sb (eqIsQuiet_byValue _ (by rfl)) ?_;exact av hq
noncomputable def zU(W:Wd)(Y:M'->Prop)(s:H')(m:Nat)(KJ:List G')(r:Option Bool×PUnit)(s':H'):Prop:=r.1=F'/\s'=s/\∃left,cM W s.heap Y KJ left/\∀v∈left,v.hk m=true
theorem zU.step{m:Nat}{r:Option Bool×PUnit}(hv:zU W Y s m (x::KJ) r s'){G:Prop}(k:∀v:V,v.hk m=true->VR W s'.heap Y x v->zU W Y s m KJ (F',⟨⟩) s'->G):G:=by
 obtain⟨_,rfl,left,q,hk⟩:=hv
 obtain⟨v,vs,rfl,a,q⟩:=q.ab1
 exact k v (hk v (af ..)) a ⟨rfl,rfl,vs,q,λu hu=>hk u (ag _ hu)⟩
theorem zV(n:Nat)(l:List V)(hl:∀v∈l,v.hk n=true)(ih:∀v,v.hk n=true->j9 W Y n v):j9 W Y (n+1) (.tup l):=λd A E s x Q hu r hq=>by
 obtain⟨d,rfl⟩:∃d',d=d'+1:=⟨d - 1,by exact O87 hu⟩
 refine lH r.view λa xs KC O O ho rs=>?_;subst KC
 have hT:s.TypeIs (.ref a) "tuple":=⟨_,ho,rfl⟩
 unfold eqIsQuiet
 refine ah (aeg hT F.slot_tuple_eq.lookup ?_)
 show V' _ _ (isInstance (.ref a) (.type "tuple")>>= _) _ _ s
 refine ah (wpAny_isInstance hT isSubtype_tuple_tuple ?_)
 simp only[bh,bY,bg]
 refine ah (wpAny_seqItems ho rfl ?_)
 refine ah ?_
 show V' _ _ (forIn (xs.toArray) _ _) _ _ s
 refine sb (Eq.symm (Array.forIn_toList)) ?_
 refine wpAny_forIn_list _ (zU W Y s n) _ ?_ ?_ _ _ ⟨rfl,rfl,l,by simpa using rs,hl⟩
 .intro y KJ r s' hv;refine hv.step λv hk r Vo=>?_;refine ah (ih v hk d _ _ _ _ _ (Nat.le_of_succ_le_succ hu) r ?_);exact av Vo
 .clear r ho rs hT;rintro ⟨r1,r2⟩ s' ⟨hr,rfl,_⟩;obtain rfl:r1=F':=hr;exact av hq
theorem xJ(n d:Nat){v:V}{Q:Bool->H'->Prop}(hu:n<=d)(r:VR W s.heap Y x v)(e:v.hk n=true)(hq:Q true s):qaa W A (eqIsQuiet d x) Q E s:=o9 (P:=j9 W Y) zS (λn x O=>zT n x) zV n v e d A E s x Q hu r hq
theorem zW{m:Nat}{y:G'}{a b:V}(r:VR W s.heap Y x a)(q:VR W s.heap Y' y b)(ha:a.hk n=true)(hb:b.hk m=true)(hu:A.units+n+1<adD):SeqAt.EqAt A s x y (a.beq b):=by
 refine hide λQz qz=>?_
 refine kQ (ec n r ha) λas h1 h2 h3=>?_
 refine kQ (ec m q hb) λbs k1 k2 k3=>?_
 refine qz ?_
 rw[<- mK n m a b ha hb]
 exact SeqAt.eqAt_reads _ _ A s _ _ _ _ h1 k1 h2 k2 (by have:=Nat.min_le_left a.py.depth b.py.depth;exact Ia hu h3)
theorem zX{m:Nat}{y:G'}{a b:V}(r:VR W s.heap Y x a)(q:VR W s.heap Y' y b)(ha:a.hk n=true)(hb:b.hk m=true)(hu:A.units+n+1<adD):SeqAt.RcAt A s x y (a.beq b):=by
 refine hide λQz qz=>?_
 refine kQ (ec n r ha) λas h1 h2 h3=>?_
 refine kQ (ec m q hb) λbs k1 k2 k3=>?_
 refine qz ?_
 rw[<- mK n m a b ha hb]
 exact SeqAt.rcAt_reads h1 k1 h2 k2 (by have:=Nat.min_le_left a.py.depth b.py.depth;exact Ia hu h3)
theorem cM.map{W:Wd}{l:List V}(r:cM W h Y xs l):(∀x u,u∈l->VR W h Y x u->VR W' h' Y x u)->cM W' h' Y xs l:=cM.ind r (λO=>.nil) λp O i f=>.cons (f _ _ (af ..) p) (i λx u m=>f x u (ag _ m))
theorem VR.ab2{W:Wd}(k:∀b xs,h.get? b=B' (fb xs)->h'.get? b=B' (fb xs))(n:Nat){v:V}(r:VR W h Y x v)(e:v.hk n=true):VR W' h' Y x v:=o9 (P:=λO v=>∀x,VR W h Y x v->VR W' h' Y x v) (λO i O r=>r.view.elim λt e=>e▸ .int i t) (λO s O O r=>r.view.elim λt e=>e.1▸ .str s t e.2) (λn l hl ih x r=>r.view.elim λa q=>q.elim λxs q=>q.1▸ .tup q.2.1 q.2.2.1 (k _ _ q.2.2.2.1) (q.2.2.2.2.map λx u mu ru=>ih u (hl u mu) x ru)) n v e x r
theorem VR.aaG(k:∀b xs,h.get? b=B' (fb xs)->h'.get? b=B' (fb xs))(n:Nat){v:V}(r:VR W h Y x v)(e:v.hk n=true):VR W h' Y x v:=r.ab2 k n e
theorem cM.aaG(k:∀b xs,h.get? b=B' (fb xs)->h'.get? b=B' (fb xs))(n:Nat){x:List G'}{v:List V}(r:cM W h Y x v)(e:∀u∈v,u.hk n=true):cM W h' Y x v:=r.map λx u m q=>q.aaG k n (e u m)
theorem VR.unique{m:Nat}{a b:V}(r:VR W h Y x a)(q:VR W h Y' x b)(ha:a.hk n=true)(hb:b.hk m=true):a=b:=by
 refine kQ (ec n r ha) λas h1 h2 h3=>?_
 refine kQ (ec m q hb) λbs k1 k2 k3=>?_
 have e:=SeqAt.Reads.unique _ _ _ _ _ h2 h1 k1
 have e2:PyData.eqv a.py b.py=true:=by rw[<- e];exact SeqAt.eqv_refl _ h2
 rw[mK n m a b ha hb] at e2
 exact V.beq_eq _ _ e2
noncomputable def eO(W:Wd):HeapKind W.prog W.w V where
 is:=λh k a=>(∃l,k=.tup l)/\k.hk 6=true/\VR W h (λO=>False) (.ref a) k
 hash:=aa8 W.w
 draws:=lM
 room:=λA=>A.units+8<adD
 inj:=λx y=>x.2.2.unique y.2.2 x.2.1 y.2.1
 keeps:=λ{h h' k a d o es ep} x ho hd hs=>⟨x.1,x.2.1,x.2.2.aaG (λb xs e=>by
   refine(hs.2 b ?_).trans e
   rintro rfl
   rw[ho] at e;obtain rfl:=ac e;cases hd) 6 x.2.1⟩
 pyHash:=λhu x hq=>wk 6 (IU hu rfl) x.2.2 x.2.1 hq
 eqBool:=λ{A E s x y a b Q} hu hx hy hq=>zW hx.2.2 hy.2.2 hx.2.1 hy.2.1 (F8 hu) _ _ _ _ (by rw[V.beq_iff];exact hq)
 quiet:=λx hq=>xJ 6 8 (O0 rfl) x.2.2 x.2.1 hq
end
noncomputable def Al(s s':H'):Prop:=∃h' tk,s'={s with heap:=h',toks:=tk}/\∀b o,s.heap.get? b=B' o->h'.get? b=B' o
noncomputable def Ev(W:Wd)(s s':H'):Prop:=∃h' tk,s'={s with heap:=h',toks:=tk}/\∀b o,¬W.mut b->s.heap.get? b=B' o->h'.get? b=B' o
theorem Al.refl(s:H'):Al s s:=(m22 s.heap s.toks rfl (λO O e=>e))
theorem Al.trans{a b c:H'}(x:Al a b)(y:Al b c):Al a c:=by
 refine iP x λh t KC k=>?_;subst KC
 refine iP y λh' t' KC k'=>?_;subst KC
 exact(m22 h' t' rfl (λb o e=>k' b o (k b o e)))
theorem Al.tok(s:H')(t:Nat):Al s {s with toks:=t}:=(m22 s.heap t rfl (λO O e=>e))
theorem Al.push(s:H')(o:Obj):Al s {s with heap:=s.heap.push o}:=(m22 _ s.toks rfl (λO O e=>aB _ e))
theorem Al.mk'{t:Nat}(k:∀b o,s.heap.get? b=B' o->h'.get? b=B' o):Al s {s with heap:=h',toks:=t}:=(m22 h' t rfl k)
theorem Al.keep{s s':H'}(x:Al s s'):∀b o,s.heap.get? b=B' o->s'.heap.get? b=B' o:=by
 refine iP x λh t KC k=>?_;subst KC;exact k
theorem Al.ev{W:Wd}(x:Al s s'):Ev W s s':=by
 refine iP x λh t KC k=>?_;subst KC;exact(m22 h t rfl (λb o O e=>k b o e))
theorem Ev.refl(W:Wd)(s:H'):Ev W s s:=(Al.refl s).ev
theorem Ev.trans{W:Wd}{a b c:H'}(x:Ev W a b)(y:Ev W b c):Ev W a c:=by
 refine iP x λh t KC k=>?_;subst KC
 refine iP y λh' t' KC k'=>?_;subst KC
 exact(m22 h' t' rfl (λb o n e=>k' b o n (k b o n e)))
theorem Ev.keep{W:Wd}{s s':H'}(x:Ev W s s'):∀b o,¬W.mut b->s.heap.get? b=B' o->s'.heap.get? b=B' o:=by
 refine iP x λh t KC k=>?_;subst KC;exact k
theorem Ev.kpD{W:Wd}(x:Ev W s s')(hy:∀b,W.mut b->Y b):kN Y s.heap s'.heap:=λb o n O e=>x.keep b o (λm=>n (hy b m)) e
theorem Al.kpD(x:Al s s'):kN Y s.heap s'.heap:=λb o O O e=>x.keep b o e
inductive mM:List (V×M'×G')->List (V×Int)->Prop
 |nil:mM [] []
 |cons {k:V} {a:M'} {i:Int} {t:Tok} {es:List (V×M'×G')} {l:List (V×Int)}:mM es l->mM ((k,a,.int i t)::es) ((k,i)::l)
structure jo (W:Wd):Prop where
 ri:W.aaQ≠W.aa2
 ra:∀k,k<W.na->W.aaQ≠W.aaR k
 ia:∀k,k<W.na->W.aa2≠W.aaR k
 aa:∀j k,j<W.na->k<W.na->W.aaR j=W.aaR k->j=k
 sys:(W.aa2==adf)=false
noncomputable def kW(W:Wd)(base h:P'):Prop:=∀b o,¬W.mut b->base.get? b=B' o->h.get? b=B' o
structure dl (W:Wd) (base:P') (T:TS) (h:P'):Prop where
 good:kW W base h
 rows:W.live->∃xs n,h.get? W.aaQ=B' (eB xs n)/\cM W h W.mut xs T.rows/\(∀r∈T.rows,r.hk 6=true)/\T.rows.length<=sizeLine
 idx:W.live->∃es,h.DictOfH (eO W) W.aa2 es/\mM es T.idx
 aux:∀k,k<W.na->∃xs n l,h.get? (W.aaR k)=B' (eB xs n)/\T.aux k=B' l/\cM W h W.mut xs l/\l.length<=sizeLine/\∀v∈l,v.hk 6=true
structure fm (W:Wd) (base:P') (Y:M'->Prop) (h:P'):Prop where
 ym:∀b,W.mut b->Y b
 there:∀b,Y b->∃o,h.get? b=B' o/\NT o
 new:∀b,Y b->¬W.mut b->base.get? b=F'
variable {T T':TS}
section
variable {W:Wd}{base:P'}
theorem oB{es:List (V×M'×G')}{d:M'}(x:h.DictOfH (eO W) d es)(k:∀b o,h.get? b=B' o->h'.get? b=B' o):h'.DictOfH (eO W) d es:=by
 refine Gf x λo ar ep ho hx hd he hi hn=>?_
 exact(zJ o ar ep (k _ _ ho) hx hd he (λx hx=>let y:=hi x hx;⟨y.1,y.2.1,y.2.2.keep λb o O O e=>k b o e⟩) hn)
theorem dl.keeps(x:dl W base T h)(k:∀b o,h.get? b=B' o->h'.get? b=B' o):dl W base T h' where
 good:=λb o n e=>k b o (x.good b o n e)
 rows:=λhl=>let ⟨xs,n,a,r,hk⟩:=x.rows hl;(gE xs n (k _ _ a) (r.keep λb o O O e=>k b o e) hk)
 idx:=λhl=>let ⟨es,a,r⟩:=x.idx hl;⟨es,oB a k,r⟩
 aux:=λi hi=>let ⟨xs,n,l,a,e,r,z⟩:=x.aux i hi;(tL xs n l (k _ _ a) e (r.keep λb o O O e=>k b o e) z)
theorem dl.al(x:dl W base T s.heap)(k:Al s s'):dl W base T s'.heap:=x.keeps k.keep
theorem fm.keeps(x:fm W base Y h)(k:∀b o,h.get? b=B' o->h'.get? b=B' o):fm W base Y h':=⟨x.ym,λb y=>let ⟨o,a,c⟩:=x.there b y;⟨o,k _ _ a,c⟩,x.new⟩
theorem dl.aat(x:dl W base T h){b:M'}(m:W.mut b):∃o,h.get? b=B' o/\NT o:=by
 rcases m with⟨hl,rfl⟩|⟨hl,rfl⟩|⟨k,hk,rfl⟩
 .refine iP (x.rows hl) λxs n a O=>?_;exact⟨_,a,.aaM (by simp)⟩
 .obtain⟨es,⟨o,ar,ep,ho,hx,_⟩,_⟩:=x.idx hl;exact⟨o,ho,.aaM (by refine sb hx.1 ?_;simp)⟩
 .refine x32 (x.aux k hk) λxs n l a O=>?_;exact⟨_,a,.aaM (by simp)⟩
theorem fm.ev(x:fm W base Y s.heap)(e:Ev W s s')(i:dl W base T' s'.heap):fm W base Y s'.heap:=⟨x.ym,λb y=>by
 by_cases m:W.mut b
 .exact i.aat m
 .refine x12 (x.there b y) λo a c=>?_;exact⟨o,e.keep b o m a,c⟩,x.new⟩
theorem fm.al(x:fm W base Y s.heap)(e:Al s s'):fm W base Y s'.heap:=x.keeps e.keep
theorem fm.fresh(x:fm W base Y h){b:M'}(n:h.get? b=F'):¬Y b:=λy=>by
 refine x12 (x.there b y) λo a O=>?_;rw[n] at a;exact no a
theorem aap(h:P'):h.get? h.objs.size=F':=by
 cases e:h.get? h.objs.size with
 |none=>rfl
 |some o=>exact absurd (aY e) (Nat.lt_irrefl _)
theorem fm.abL(x:fm W base Y h):¬Y h.objs.size:=x.fresh (aap h)
theorem xK{P:V->Prop}(H:∀v,P v->v.flat=true)(l:List V)(e:∀v∈l,P v):V.abk l=true:=by
 induction l with
 |nil=>rfl
 |cons v l ih=>exact o0 (H v (e v (af ..))) (ih λu m=>e u (ag _ m))
theorem u3(n:Nat)(v:V)(e:v.hk n=true):v.flat=true:=o9 (P:=λO v=>v.flat=true) (λO O=>rfl) (λO O O=>rfl) (λO l e H=>xK H l e) n v e
theorem fm.ab8(x:fm W base Y h):∀b,Y b->∀o,h.get? b=B' o->NT o:=λb y o e=>by
 refine x12 (x.there b y) λo' a c=>?_;rw[a] at e;obtain rfl:=ac e;exact c
theorem VR.abM{v:V}(r:VR W h Y' x v)(f:v.flat=true)(y:fm W base Y h):VR W h Y x v:=r.move y.ab8 f
theorem VR.abr{l:List V}(z:l.length<=sizeLine)(y:fm W base Y s.heap)(r:cM W s.heap Y xs l):VR W (s.heap.push (fb xs)) Y (.ref s.heap.objs.size) (.tup l):=.tup z y.abL (aF _ rfl) (r.keep λb o O O e=>aB _ e)
theorem VR.abh{l:List V}(z:l.length<=sizeLine)(y:fm W base Y s.heap)(r:cM W s.heap Y xs l):VR W (s.heap.push (eB xs n)) Y (.ref s.heap.objs.size) (.lst l):=.lst z y.abL (aF _ rfl) (r.keep λb o O O e=>aB _ e)
end
noncomputable def cU(W:Wd)(h:P')(Y:M'->Prop)(a:M'):V->Prop
 |.lst l=>(∃xs:List G',h.PlainList a xs.toArray/\cM W h Y xs l)/\l.length<=sizeLine
 |.di l=>(∃es,h.DictOf (adA W.prog W.w) a es/\ja W h Y es l)/\l.length<=sizeLine/\(a==adf)=false
 |.ds l=>(∃es,h.DictOf (PySem.strKind W.prog W.w) a es/\iS W h Y es l)/\l.length<=sizeLine/\(a==adf)=false
 |_=>False
noncomputable def iV(env:Env)(h:P')(n:O')(x:G'):Prop:=(env.kindOf n=B' .local/\∃m,h.Ns env.locals m/\m n=B' x)\/((env.kindOf n=B' .cell\/env.kindOf n=B' .free)/\∃c,env.cells.lookup n=B' c/\h.IsCell c (B' x))
structure GV (env:Env) (h:P'):Prop where
 loc:∃o,h.get? env.locals=B' o
 cel:∀n c,env.cells.lookup n=B' c->∃o,h.get? c=B' o
structure ER (W:Wd) (sc:Sc) (env:Env) (Y:M'->Prop) (h:P') (Γ:List Sl):Prop where
 kind:env.scope.kind=.function
 globals:env.globals=aed
 builtins:env.builtins=0
 gk:∀n,fw sc n=true->env.kindOf n=B' .globalImplicit\/env.kindOf n=B' .globalExplicit
 var:∀n i v,(n==cV)=false->cZ sc n=true->db sc.slots n=B' i->Γ[i]? =B' (.pl v)->∃x,iV env h n x/\VR W h Y x v
 loc:¬W.mut env.locals
 cel:∀n c,env.cells.lookup n=B' c->¬W.mut c
 li:GV env h
 fnk:∀n,sc.names.lookup n=B' .cell->env.kindOf n=B' .cell
variable {M:Model}{Q:qab}{sc:Sc}{env:Env}{Γ:List Sl}
section
variable {W:Wd}{base:P'}
theorem iV.keeps{n:O'}{x:G'}(v:iV env h n x)(hl:∀o,h.get? env.locals=B' o->h'.get? env.locals=B' o)(hc:∀n c o,env.cells.lookup n=B' c->h.get? c=B' o->h'.get? c=B' o):iV env h' n x:=by
 rcases v with⟨a,m,⟨o,es,ep,ho,r⟩,e⟩|⟨a,c,b,o,ho,r⟩
 .exact .inl ⟨a,m,(uU o es ep (hl _ ho) r),e⟩
 .exact .inr ⟨a,c,b,o,hc _ _ _ b ho,r⟩
theorem ER.ev(x:ER W sc env Y s.heap Γ)(y:∀b,W.mut b->Y b)(e:Ev W s s'):ER W sc env Y s'.heap Γ where
 kind:=x.kind
 globals:=x.globals
 builtins:=x.builtins
 gk:=x.gk
 loc:=x.loc
 cel:=x.cel
 fnk:=x.fnk
 li:=⟨let ⟨o,a⟩:=x.li.loc;⟨o,e.keep _ _ x.loc a⟩,λn c hc=>let ⟨o,a⟩:=x.li.cel n c hc;⟨o,e.keep _ _ (x.cel n c hc) a⟩⟩
 var:=λn i v hd a b c=>by
  refine x12 (x.var n i v hd a b c) λu p q=>?_;exact⟨u,p.keeps (λo ho=>e.keep _ o x.loc ho) (λn c o hc ho=>e.keep _ o (x.cel n c hc) ho),q.keep (e.kpD y)⟩
structure St (W:Wd) (base:P') (sc:Sc) (env:Env) (Y:M'->Prop) (Γ:List Sl) (T:TS) (s:H'):Prop where
 inv:dl W base T s.heap
 y:fm W base Y s.heap
 er:ER W sc env Y s.heap Γ
theorem St.ev(x:St W base sc env Y Γ T s)(e:Ev W s s')(i:dl W base T' s'.heap):St W base sc env Y Γ T' s':=⟨i,x.y.ev e i,x.er.ev x.y.ym e⟩
theorem St.al(x:St W base sc env Y Γ T s)(e:Al s s'):St W base sc env Y Γ T s':=x.ev e.ev (x.inv.al e)
theorem cD{n:O'}{v:G'}(hk:env.scope.kind=.function)(x:iV env s.heap n v)(h:Q v s)(hn:(n==("__classdict__":O'))=false):V' M A (loadName env n) Q E s:=by
 rcases x with⟨a,m,b,e⟩|⟨a|a,c,b,e⟩
 .exact wpAny_loadName_local hk a b e h
 .exact wpAny_loadName_cell hk a b e h
 .exact wpAny_loadName_free hk a b e h hn
end
open PySem.SeqAt
variable {op:Operator}{lv:Nat}
section
variable {W:Wd}{base:P'}{y:G'}{v u:V}
theorem dB{a b:α}(e:fit n a=B' b):n<=sizeLine/\a=b:=by
 unfold fit at e
 by_cases h:n<=sizeLine
 .rw[ak h] at e;obtain rfl:=ac e;exact⟨h,rfl⟩
 .rw[aj h] at e;exact no e
theorem aaf{c:Bool}{a b:α}(e:(bif c then B' a else F')=B' b):c=true/\a=b:=by
 induction c using Bool.casesOn<;>cases e;exact⟨rfl,rfl⟩
theorem zY:(sizeLine:Int)<2^63:=by decide
theorem cM.isEmpty{l:List V}(r:cM W h Y xs l):xs.toArray.isEmpty=l.isEmpty:=by induction r using cM.casesOn<;>rfl
theorem cM.mem{l:List V}(r:cM W h Y xs l){z:G'}(m:z∈xs):∃q∈l,VR W h Y z q:=by
 refine x11 (List.mem_iff_getElem?.mp m) λi e=>?_
 refine x12 (r.get' e) λq e' p=>?_
 exact⟨q,bV e',p⟩
theorem VR.abm{l:List V}(r:VR W h Y x (.tup l)):∃a xs,x=.ref a/\IsT h a xs.toArray 0/\cM W h Y xs l/\l.length<=sizeLine/\¬Y a:=by
 refine lH (VR.view r) λO O KC z n g q=>?_;subst KC;exact(zI _ _ rfl g q z n)
theorem VR.abF{l:List V}(r:VR W h Y x (.lst l)):∃a xs n,x=.ref a/\IsL h a xs.toArray n/\cM W h Y xs l/\l.length<=sizeLine/\¬Y a:=by
 refine x35 (VR.view r) λO O O KC z n g q=>?_;subst KC;exact(tO _ _ _ rfl g q z n)
theorem xL{Q:Bool->H'->Prop}(r:VR W s.heap Y x v)(e:cw v=B' b)(hQ:∀s',Al s s'->Q b s'):qaa W A (truthy x) Q E s:=by
 induction r using VR.casesOn with
 |none=>obtain rfl:=ac e;exact truthy_none (hQ _ (Al.refl s))
 |bool c=>obtain rfl:=ac e;exact adx (hQ _ (Al.refl s))
 |int i t=>obtain rfl:=ac e;exact truthy_int (hQ _ (Al.refl s))
 |str z t hz=>
  obtain rfl:=ac e;refine P.truthy_str (by have:=zY;exact H3 hz this) ?_;have:((z.length:Int) !=0)=(z.length !=0):=by cases h:z.length<;>simp<;>exact Jr
  rw[this];exact hQ _ (Al.tok s _)
 |tup z n g q=>
  obtain rfl:=ac e;refine truthy_tuple ⟨_,g,rfl,_,rfl⟩ (by(refine sb ay ?_;refine sb q.length ?_);have:=zY;exact F9 z this) ?_;rw[q.isEmpty];exact hQ _ (Al.tok s _)
 |lst z n g q=>
  obtain rfl:=ac e;refine wpAny_truthy_list ⟨_,g,rfl,_,rfl⟩ (by(refine sb ay ?_;refine sb q.length ?_);have:=zY;exact F9 z this) ?_;rw[q.isEmpty];exact hQ _ (Al.tok s _)
 |_=>exact no e
theorem CM{Q:qab}(r:VR W s.heap Y x v)(e:zL v T=B' u)(i:dl W base T s.heap)(hQ:∀y s',Al s s'->VR W s'.heap Y y u->Q y s'):qaa W A (call (.builtin "len") [x]) Q E s:=by
 have RX:=zY
 induction r using VR.casesOn with
 |str z t hz=>obtain rfl:=ac e;exact P.len_str (H3 hz RX) (hQ _ _ (Al.tok s _) (.int ..))
 |tup z n g q=>
  obtain rfl:=ac e;have:=q.length;exact P.len_tuple g (by rw[ay];exact Ja this z RX) (hQ _ _ (Al.tok s _) (by(refine sb ay ?_;refine sb this ?_);exact .int ..))
 |lst z n g q=>
  obtain rfl:=ac e;have:=q.length;exact Calls.call_len_list ⟨_,g,rfl,_,rfl⟩ (by rw[ay];exact Ej this z RX) (hQ _ _ (Al.tok s _) (by rw[ay,this];exact .int ..))
 |di z y n g q=>
  obtain rfl:=ac e;have:=q.length;exact call_len_dict y g (Ej this z RX) (hQ _ _ (Al.tok s _) (by rw[this];exact .int ..))
 |ds z y n g q=>
  obtain rfl:=ac e;have:=q.length;exact call_len_dict y g (Ej this z RX) (hQ _ _ (Al.tok s _) (by rw[this];exact .int ..))
 |aan hl=>
  obtain rfl:=ac e;refine hide λQz qz=>?_;refine x24 (i.rows hl) λxs n g q O hT=>?_;have:=q.length;refine qz ?_;exact Calls.call_len_list ⟨_,g,rfl,_,rfl⟩ (by rw[ay];exact Ej this hT RX) (hQ _ _ (Al.tok s _) (by(refine sb ay ?_;refine sb this ?_);exact .int ..))
 |aaF k hk=>
  refine hide λQz qz=>?_;refine x35 (i.aux k hk) λxs n l g hl q hA O=>?_;refine qz ?_;obtain rfl:V.int (l.length:Nat)=u:=ac ((aM (Option.map λl:List V=>V.int (l.length:Nat)) hl).symm.trans e);have:=q.length;exact Calls.call_len_list ⟨_,g,rfl,_,rfl⟩ (by rw[ay];exact Ej this hA RX) (hQ _ _ (Al.tok s _) (by rw[ay,q.length];exact .int ..))
 |_=>exact no e
theorem rV(e:El v u=B' b):v.hk 6=true/\u.hk 6=true/\v.beq u=b:=by
 unfold El at e
 refine aaw (b:=v.hk 6&&u.hk 6) (λh=>?_) λh=>?_
 .rw[h] at e;exact no e
 .rw[h] at e;simp only[aq] at h;exact⟨h.1,h.2,by simpa using e⟩
theorem E4(hu:A.units+40<adD)(r:VR W s.heap Y x v)(q:VR W s.heap Y y u)(e:El v u=B' b)(hQ:Q (.bool b) s):qaa W A (aep .Eq x y) Q E s:=by
 refine hide λQz qz=>?_
 obtain⟨h1,h2,rfl⟩:=rV e
 refine qz ?_
 exact zX r q h1 h2 (Cq hu rfl) _ _ _ _ hQ
theorem E5(hu:A.units+40<adD)(r:VR W s.heap Y x v)(q:VR W s.heap Y y u)(e:El v u=B' b)(hQ:Q (.bool (!b)) s):qaa W A (aep .NotEq x y) Q E s:=by
 refine hide λQz qz=>?_
 refine tJ (rV e) λh1 h2 KC=>?_;subst KC
 refine kQ (ec 6 r h1) λas a1 a2 a3=>?_
 refine kQ (ec 6 q h2) λbs b1 b2 b3=>?_
 refine qz ?_
 refine compareNe_reads a1 b1 a2 b2 (by have:=Nat.min_le_left v.py.depth u.py.depth;exact Jp hu a3 rfl) ?_
 refine sb (mK 6 6 v u h1 h2) ?_;exact hQ
theorem u4{b:Bool}{l:List V}{xs:List G'}(hk:(v.hk 6&&l.all (V.hk 6))=true)(r:VR W s.heap Y x v)(rs:cM W s.heap Y xs l)(hu:A.units+40<adD):∃d as ds bs,Reads s.heap x d as/\d.canLay0=true/\ReadsAll s.heap xs ds bs/\PyData.canLayAll0 ds=true/\A.units+1+min (PyData.depthAll ds) d.depth<adD/\(ds.any λy=>PyData.eqv y d)=l.any (V.beq v):=by
 simp only[aq,aE] at hk
 refine hide λQz qz=>?_
 refine kQ (ec 6 r hk.1) λas a1 a2 a3=>?_
 refine kQ (rS 6 rs hk.2) λbs b1 b2 b3=>?_
 refine qz ?_
 refine(J0 _ _ _ _ a1 a2 b1 b2 (by have:=Nat.min_le_right (PyData.depthAll (V.pys l)) v.py.depth;exact Jq hu a3 rfl) ?_)
 have key:∀l:List V,(∀u∈l,u.hk 6=true)->((V.pys l).any λy=>PyData.eqv y v.py)=l.any (V.beq v):=by
  intro l hl;induction l with
  |nil=>simp [V.pys]
  |cons q l ih=>
   simp only[V.pys,List.any_cons];(refine sb (ih λu hu=>hl u (ag _ hu)) ?_;refine sb (mK 6 6 q v (hl q (af ..)) hk.1) ?_);rw[V.beq_iff,V.beq_iff];congr 1;by_cases h:q=v<;>simp [h,eq_comm];exact λe=>h e.symm
 exact key l hk.2
theorem fP:∀{es:List (V×M'×G')}{l:List (V×Int)},mM es l->∀k,(atKey es k=F'/\dA k l=F')\/∃a i t,atKey es k=B' (a,.int i t)/\dA k l=B' i:=by
 intro es l r k
 induction r with
 |nil=>exact .inl ⟨rfl,rfl⟩
 |@cons k' a i t es l _ ih=>
  by_cases e:k'=k
  .clear ih;subst e;exact .inr (uU a i t (by simp [atKey]) (by simp [zK,V.beq_refl]))
  .have e':k'.beq k=false:=by rw[V.beq_iff];simp [e]
   rcases ih with⟨h1,h2⟩|⟨a',i',t',h1,h2⟩
   .refine .inl ⟨?_,?_⟩
    .simpa [atKey,List.find?_cons,e] using h1
    .show(bif k'.beq k then B' i else dA k l)=F';refine sb e' ?_;exact h2
   .refine .inr (uU a' i' t' ?_ ?_)
    .simpa [atKey,List.find?_cons,e] using h1
    .show(bif k'.beq k then B' i else dA k l)=B' i';refine sb e' ?_;exact h2
theorem eF{i:Int}{t:Tok}:(adA W.prog W.w).is i (.int i t)=true:=by simp [adA,Value.isInt]
theorem dF{i:O'}{t:Tok}:(PySem.strKind W.prog W.w).is i (.str i t)=true:=by simp [PySem.strKind,Value.isStrOf]
theorem gG{l:List V}(r:VR W h Y (.ref a) (.tup l))(hk:(V.tup l).hk 6=true):(eO W).is h (.tup l) a:=⟨⟨l,rfl⟩,hk,r.weaken λO f=>f.elim⟩
theorem ii{K K':Type}[DecidableEq K][DecidableEq K']{knd:KeyKind W.prog W.w K}{knd':KeyKind W.prog W.w K'}{h:P'}{a:M'}(g:h.DictOf knd a []):h.DictOf knd' a []:=by
 refine hide λQz qz=>?_
 refine Gf g λo es ep h1 h2 h3 h4 h5 h6=>?_
 have e:es.toList=[]:=by cases hh:es.toList with|nil=>rfl|cons _ _=>replace h5:=hh▸h5;cases h5
 have e':es=#[]:=by simpa using e
 refine qz ?_
 clear h4 h5 e;subst e'
 exact(zJ o _ ep h1 h2 h3 (λO hm=>by simp at hm) (.nil) List.nodup_nil)
set_option tactic.hygienic true in
theorem E6(hu:A.units+40<adD)(w:jo W)(i:dl W base T s.heap)(r:VR W s.heap Y x v)(q:VR W s.heap Y y u)(e:Gi T v u=B' b)(hQ:∀s',Al s s'->Q (.bool b) s'):qaa W A (aep .In x y) Q E s:=by
 induction q using VR.casesOn with
 |tup z n g q=>
  refine hide λQz qz=>?_;refine x02 (aaf e) λhk KC=>?_;subst KC;refine EN (u4 (b:=true) hk r q hu) λd as ds bs h1 h2 h3 h4 h5 h6=>?_;refine qz ?_;exact in_tuple_reads (.tuple g rfl rfl (by simpa using h3)) h1 h4 h2 h5 (by refine sb h6 ?_;exact hQ _ (Al.refl s))
 |lst z n g q=>
  refine hide λQz qz=>?_;refine x02 (aaf e) λhk KC=>?_;subst KC;refine EN (u4 (b:=true) hk r q hu) λd as ds bs h1 h2 h3 h4 h5 h6=>?_;refine qz ?_;exact in_list_reads (.list g rfl rfl (by simpa using h3)) h1 h4 h2 h5 (by rw[h6];exact hQ _ (Al.refl s))
 |di z sy n g q=>
  induction r using VR.casesOn with
  |int k t=>
   obtain rfl:=ac e;refine wpAny_in_of eF sy g.mapOf ?_;rcases q.find k with⟨h1,h2⟩|⟨y,u,h1,h2,h3⟩<;>(refine sb h1 ?_;rw[h2] at hQ;exact hQ _ (Al.tok s _))
  |str k t hz=>
   refine x02 (aaf e) λhk KC=>?_;subst KC;obtain rfl:_=[]:=by simpa using hk
   cases q;exact wpAny_in_of dF sy (ii (knd':=PySem.strKind W.prog W.w) g).mapOf (hQ _ (Al.tok s _))
  |_=>exact no e
 |ds z sy n g q=>
  induction r using VR.casesOn with
  |str k t hz=>
   obtain rfl:=ac e;refine wpAny_in_of dF sy g.mapOf ?_;rcases q.find k with⟨h1,h2⟩|⟨y,u,h1,h2,h3⟩<;>(refine sb h1 ?_;rw[h2] at hQ;exact hQ _ (Al.tok s _))
  |_=>exact no e
 |idxH hl=>
  revert e;induction v using V.casesOn<;>first|exact no|intro e
  rename_i l;refine hide λQz qz=>?_;refine x02 (aaf e) λhk KC=>?_;subst KC;refine iP r.abm λa xs KC O=>?_;subst KC;refine x12 (i.idx hl) λes hd hr=>?_;refine qz ?_;refine wpAny_in_heap (knd:=eO W) (by show A.units+1+8<adD;exact Cq hu rfl) (gG r hk) w.sys hd ?_;rcases fP hr (.tup l) with⟨h1,h2⟩|⟨a,i,t,h1,h2⟩<;>(refine sb h1 ?_;replace hQ:=h2▸hQ;exact hQ _ (Al.tok s _))
 |_=>exact no e
set_option tactic.hygienic true in
theorem xM(hu:A.units+40<adD)(w:jo W)(i:dl W base T s.heap)(r:VR W s.heap Y x v)(q:VR W s.heap Y y u)(e:Gi T v u=B' b)(hQ:∀s',Al s s'->Q (.bool (!b)) s'):qaa W A (aep .NotIn x y) Q E s:=by
 induction q using VR.casesOn with
 |tup z n g q=>
  refine hide λQz qz=>?_;refine x02 (aaf e) λhk KC=>?_;subst KC;refine EN (u4 (b:=true) hk r q hu) λd as ds bs h1 h2 h3 h4 h5 h6=>?_;refine qz ?_;exact notIn_tuple_reads (.tuple g rfl rfl (by simpa using h3)) h1 h4 h2 h5 (by refine sb h6 ?_;exact hQ _ (Al.refl s))
 |lst z n g q=>
  refine hide λQz qz=>?_;refine x02 (aaf e) λhk KC=>?_;subst KC;refine EN (u4 (b:=true) hk r q hu) λd as ds bs h1 h2 h3 h4 h5 h6=>?_;refine qz ?_;exact notIn_list_reads (.list g rfl rfl (by simpa using h3)) h1 h4 h2 h5 (by refine sb h6 ?_;exact hQ _ (Al.refl s))
 |di z sy n g q=>
  induction r using VR.casesOn with
  |int k t=>
   obtain rfl:=ac e;refine aej eF sy g.mapOf ?_;rcases q.find k with⟨h1,h2⟩|⟨y,u,h1,h2,h3⟩<;>(refine sb h1 ?_;replace hQ:=h2▸hQ;exact hQ _ (Al.tok s _))
  |str k t hz=>
   refine x02 (aaf e) λhk KC=>?_;subst KC;obtain rfl:_=[]:=by simpa using hk
   cases q;exact aej dF sy (ii (knd':=PySem.strKind W.prog W.w) g).mapOf (hQ _ (Al.tok s _))
  |_=>exact no e
 |ds z sy n g q=>
  induction r using VR.casesOn with
  |str k t hz=>
   obtain rfl:=ac e;refine aej dF sy g.mapOf ?_;rcases q.find k with⟨h1,h2⟩|⟨y,u,h1,h2,h3⟩<;>(refine sb h1 ?_;replace hQ:=h2▸hQ;exact hQ _ (Al.tok s _))
  |_=>exact no e
 |idxH hl=>
  revert e;induction v using V.casesOn<;>first|exact no|intro e
  rename_i l;refine hide λQz qz=>?_;refine x02 (aaf e) λhk KC=>?_;subst KC;refine iP r.abm λa xs KC O=>?_;subst KC;refine x12 (i.idx hl) λes hd hr=>?_;refine qz ?_;refine wpAny_notIn_heap (knd:=eO W) (by show A.units+1+8<adD;exact Cq hu rfl) (gG r hk) w.sys hd ?_;rcases fP hr (.tup l) with⟨h1,h2⟩|⟨a,i,t,h1,h2⟩<;>(refine sb h1 ?_;replace hQ:=h2▸hQ;exact hQ _ (Al.tok s _))
 |_=>exact no e
theorem CN{a:Int}(h0:0<=a)(h1:a<64):Builtin.Int.intBits a<=64:=by
 obtain⟨n,rfl⟩:=Int.eq_ofNat_of_zero_le h0
 have:n<64:=H8 h1
 have key:∀n:Fin 64,Builtin.Int.intBits (n.val:Int)<=64:=by decide+kernel
 exact key ⟨n,this⟩
theorem xN{v u z:V}(e:cI op v u=B' z):(∃a b,v=.int a/\u=.int b)\/(op=.Add/\∃a b,v=.tup a/\u=.tup b)\/(op=.Add/\∃a b,v=.lst a/\u=.lst b):=by
 revert e;induction op using Operator.casesOn<;>first|exact no|(intro e;first|exact no e|(induction v using V.casesOn<;>first|exact no e|(induction u using V.casesOn<;>first|exact no e|exact .inl ⟨_,_,rfl,rfl⟩|exact .inr (.inl ⟨rfl,_,_,rfl,rfl⟩)|exact .inr (.inr ⟨rfl,_,_,rfl,rfl⟩))))
theorem CO{z:V}(yk:fm W base Y s.heap)(r:VR W s.heap Y x v)(q:VR W s.heap Y y u)(e:cI op v u=B' z)(hQ:∀y s',Al s s'->VR W s'.heap Y y z->Q y s'):qaa W A (binaryOp op x y) Q E s:=by
 rcases xN e with⟨i,j,rfl,rfl⟩|⟨rfl,l,m,rfl,rfl⟩|⟨rfl,l,m,rfl,rfl⟩
 .refine x11 r.view λt KC=>?_;subst KC;refine x11 q.view λt' KC=>?_;subst KC;clear r q;revert e;induction op using Operator.casesOn<;>first|exact no|intro e
  .obtain rfl:=ac e;exact P.add_int (hQ _ _ (Al.tok s _) (.int ..))
  .obtain rfl:=ac e;exact P.sub_int (hQ _ _ (Al.tok s _) (.int ..))
  .refine x02 (aaf e) λhk KC=>?_;subst KC;simp only[aq,bl] at hk;exact P.mul_int (hQ _ _ (Al.tok s _) (.int ..)) (.of_left (CN hk.1 hk.2))
  .refine x02 (aaf e) λhk KC=>?_;subst KC;simp only[bl] at hk;refine mod_int (P7 hk) ?_;rw[Int.fmod_eq_emod_of_nonneg _ (P1 hk rfl)];exact hQ _ _ (Al.tok s _) (.int ..)
  .obtain rfl:=ac e;exact and_int (hQ _ _ (Al.tok s _) (.int ..))
  .refine x02 (aaf e) λhk KC=>?_;subst KC;simp only[aq,bl] at hk;refine floordiv_int (P7 hk.1) ?_ (.inl (PyProof.noPylong_small (JN hk.1 hk.2)));rw[Int.fdiv_eq_ediv_of_nonneg _ (P1 hk.1 rfl)];exact hQ _ _ (Al.tok s _) (.int ..)
 .refine lH r.view λa xs KC z n g MY=>?_;subst KC;refine lH q.view λb ys KC z' n' g' q'=>?_;subst KC;change (bif l.isEmpty||m.isEmpty then F' else fit (l.length+m.length) (V.tup (l++m)))=B' _ at e;refine aaw (b:=l.isEmpty||m.isEmpty) (λhh=>?_) λhh=>?_;rotate_left
  .rw[hh] at e;exact no e
  .
   rw[hh] at e;refine x02 (dB e) λhs KC=>?_;subst KC;simp only[Bool.or_eq_false_iff] at hh;refine P.add_tuple (items:=xs.toArray) (items2:=ys.toArray) g g' (by(refine sb MY.isEmpty ?_;refine sb hh.1 ?_);decide) (by(refine sb q'.isEmpty ?_;refine sb hh.2 ?_);decide) ?_ (by(refine sb ay ?_;refine sb ay ?_;refine sb MY.length ?_;refine sb q'.length ?_);exact hs);rw[List.append_toArray];exact hQ _ _ (Al.push s _) (VR.abr (by rw[bc];exact hs) yk (MY.append q'))
 .refine x35 r.view λa xs k KC z n g MY=>?_;subst KC;refine x35 q.view λb ys k' KC z' n' g' q'=>?_;subst KC;refine x02 (dB e) λhs KC=>?_;subst KC;refine P.add_list (items:=xs.toArray) (items2:=ys.toArray) g g' ?_ (by(refine sb ay ?_;refine sb ay ?_;refine sb MY.length ?_;refine sb q'.length ?_);exact hs);rw[List.append_toArray];exact hQ _ _ (Al.push s _) (VR.abh (by rw[bc];exact hs) yk (MY.append q'))
theorem u5{v u:V}(e:GS v u=B' b):∃i j,v=.int i/\u=.int j/\b=decide (i<j):=by
 induction v using V.casesOn with
 |int i=>induction u using V.casesOn with
  |int j=>obtain rfl:=ac e;exact(gE _ _ rfl rfl rfl)
  |_=>exact no e
 |_=>exact no e
theorem zZ{v u:V}(e:Ix v u=B' b):(∃i j,v=.int i/\u=.int j/\b=decide (i<=j))\/∃x y,v=.str x/\u=.str y/\b=!(L' (y.cps.toList<x.cps.toList)):=by
 induction v using V.casesOn with
 |int i=>induction u using V.casesOn with
  |int j=>obtain rfl:=ac e;exact .inl (gE _ _ rfl rfl rfl)
  |_=>exact no e
 |str x=>induction u using V.casesOn with
  |str y=>obtain rfl:=ac e;exact .inr (gE _ _ rfl rfl rfl)
  |_=>exact no e
 |_=>exact no e
theorem z0{v u:V}(e:cu T .GtE v u=B' b):∃i j,v=.int i/\u=.int j/\b=decide (j<=i):=by
 induction v using V.casesOn with
 |int i=>induction u using V.casesOn with
  |int j=>obtain rfl:=ac e;exact(gE _ _ rfl rfl rfl)
  |_=>exact no e
 |_=>exact no e
theorem pd{v:V}(h:cY v=true):v=.none:=by
 induction v using V.casesOn with
 |none=>rfl
 |_=>exact nb h
theorem VR.isN{W:Wd}{v:V}(r:VR W h Y x v):(x==.none)=cY v:=by
 have r:=r.view
 induction v using V.casesOn with
 |none=>rw[show x=.none from r];rfl
 |bool|tab|host|decl|aau=>refine sb (show x=_ from r) ?_;rfl
 |aan|idxH|aaF=>refine sb r.1 ?_;rfl
 |int=>refine x11 r λt KC=>?_;subst KC;rfl
 |str=>refine x12 r λt KC O=>?_;subst KC;rfl
 |tup=>refine iP r λa xs KC O=>?_;subst KC;rfl
 |lst=>refine x32 r λa xs n KC O=>?_;subst KC;rfl
 |di=>refine iP r λa xs KC O=>?_;subst KC;rfl
 |ds=>refine iP r λa xs KC O=>?_;subst KC;rfl
theorem qs{op:CmpOp}(hu:A.units+40<adD)(w:jo W)(i:dl W base T s.heap)(r:VR W s.heap Y x v)(q:VR W s.heap Y y u)(e:cu T op v u=B' b)(hQ:∀s',Al s s'->Q (.bool b) s'):qaa W A (aep op x y) Q E s:=by
 have h0:=hQ _ (Al.refl s)
 induction op using CmpOp.casesOn
 case Eq=>exact E4 hu r q e h0
 case NotEq=>
  refine x12 (aK.mp e) λc e' KC=>?_;subst KC;exact E5 hu r q e' h0
 case Lt=>
  refine x23 (u5 e) λi j KC PV Ts=>?_;subst KC;subst PV;subst Ts;refine x11 r.view λt KC=>?_;subst KC;refine x11 q.view λt' KC=>?_;subst KC;exact P.lt_int h0
 case LtE=>
  rcases zZ e with⟨i,j,rfl,rfl,rfl⟩|⟨i,j,rfl,rfl,rfl⟩
  .refine x11 r.view λt KC=>?_;subst KC;refine x11 q.view λt' KC=>?_;subst KC;exact P.le_int h0
  .refine x12 r.view λt KC O=>?_;subst KC;refine x12 q.view λt' KC O=>?_;subst KC;exact P.le_str h0
 case Gt=>
  refine x23 (u5 e) λi j KC PV Ts=>?_;subst KC;subst PV;subst Ts;refine x11 r.view λt KC=>?_;subst KC;refine x11 q.view λt' KC=>?_;subst KC;exact P.gt_int h0
 case GtE=>
  refine x23 (z0 e) λi j KC PV Ts=>?_;subst KC;subst PV;subst Ts;refine x11 r.view λt KC=>?_;subst KC;refine x11 q.view λt' KC=>?_;subst KC;exact P.ge_int h0
 case Is=>
  refine x02 (aaf e) λhk KC=>?_;subst KC;obtain rfl:=pd hk;obtain rfl:_=_:=q.view;refine is_none ?_;rw[r.isN];exact h0
 case IsNot=>
  refine x02 (aaf e) λhk KC=>?_;subst KC;obtain rfl:=pd hk;obtain rfl:_=_:=q.view;refine isNot_none ?_;rw[r.isN];exact h0
 case In=>exact E6 hu w i r q e hQ
 case NotIn=>
  refine x12 (aK.mp e) λc e' KC=>?_;subst KC;exact xM hu w i r q e' hQ
theorem rW{l:List V}{k:Int}{z:V}(e:CD l k=B' z):-2^62<k/\k<2^62/\∃j,l[j]? =B' z/\((0<=k/\j=k.toNat)\/(k<0/\0<=k+l.length/\j=(k+l.length).toNat)):=by
 unfold CD at e
 by_cases h0:0<=k
 .rw[ak h0] at e;by_cases h1:k<2^62
  .rw[ak h1] at e;exact⟨by exact P3 h0 rfl,h1,_,e,.inl ⟨h0,rfl⟩⟩
  .rw[aj h1] at e;exact no e
 .rw[aj h0] at e;by_cases h1:-(2^62)<k
  .rw[ak h1] at e;by_cases h2:0<=k+l.length
   .rw[ak h2] at e;exact⟨h1,by exact Jd h0 rfl,_,e,.inr ⟨by exact H5 h0,h2,rfl⟩⟩
   .rw[aj h2] at e;exact no e
  .rw[aj h1] at e;exact no e
set_option tactic.hygienic true in
theorem z6{z:V}{value OG:Expr}(hD:lv=2->∃xs n,s.heap.get? W.aab=B' (eB xs n)/\xs[2]? =B' (.ref W.aax))(hu:A.units+40<adD)(w:jo W)(i:dl W base T s.heap)(yk:fm W base Y s.heap)(r:VR W s.heap Y x v)(q:VR W s.heap Y y u)(e:cv lv T v u=B' z)(hQ:∀y s',Al s s'->VR W s'.heap Y y z->Q y s'):qaa W A (subscriptTail value OG x y) Q E s:=by
 have hs:∃ops,subscripted OG false x y=operate ops (getItem x y):=by
  induction OG using Expr.casesOn<;>first|exact⟨_,rfl⟩|skip
  rename_i a b c p;induction c using Option.casesOn<;>exact⟨_,rfl⟩
 obtain⟨ops,hs⟩:=hs
 have rv:=r.view
 have qv:=q.view
 clear r q
 revert e;induction v using V.casesOn<;>first|exact no|(intro e;(try (exact no e))<;>induction u using V.casesOn<;>(try (exact no e)))
 .rename_i x k;refine x12 rv λt KC hx=>?_;subst KC;refine x11 qv λt' KC=>?_;subst KC;change (bif k==0 then(x.cps[0]?).map CE else F')=B' z at e;refine aaw (b:=k==0) (λhk=>?_) λhk=>?_
  .rw[hk] at e;exact no e
  .
   replace e:=hk▸e;obtain rfl:k=0:=by simpa using hk
   refine x12 (aK.mp e) λc hc KC=>?_;subst KC;have hl:0<x.length:=by
    have:=(Array.getElem?_eq_some_iff.mp hc).1;exact this
   refine adG (typeIs_str s x t) F.slot_str_getitem.lookup (P.getItem_str (by decide) (c:=c) ?_ ?_) hs
   .have:seqIndex? 0 x.length=B' 0:=by unfold seqIndex?;simp [hl]
    rw[this];exact hc
   .exact hQ _ _ (Al.tok s _) (.str _ _ (by show 1<=sizeLine;decide))
 .rename_i l k;refine hide λQz qz=>?_;refine lH rv λa xs KC sz n g q=>?_;subst KC;refine x11 qv λt' KC=>?_;subst KC;obtain⟨h1,h2,j,hj,hc⟩:=rW e;obtain⟨y,hy,ry⟩:=q.get hj;have KO:=q.length;have UM:j<l.length:=(aV.mp hj).1;refine qz ?_;refine adG ⟨_,g,rfl⟩ F.slot_tuple_getitem.lookup (P.getItem_tuple (items:=xs.toArray) (n:=0) (k:=j) (y:=y) g (P1 h1 rfl) (P2 h2 rfl) ?_ (by simpa using hy) (hQ _ _ (Al.refl s) ry)) hs;unfold seqIndex?;rw[ay,KO];rcases hc with⟨c1,rfl⟩|⟨c1,c2,rfl⟩
  .have:¬k<0:=P8 c1;simp only[this,bg];rw[aZ (by simp;exact Ib c1 UM)]
  .simp only[c1,bJ];rw[aZ (by simp;exact Ib c2 UM)]
 .rename_i l k;refine x35 rv λa xs n' KC sz n g q=>?_;subst KC;refine x11 qv λt' KC=>?_;subst KC;refine hide λQz qz=>?_;obtain⟨h1,h2,j,hj,hc⟩:=rW e;obtain⟨y,hy,ry⟩:=q.get hj;have KO:=q.length;have UM:j<l.length:=(aV.mp hj).1;refine qz ?_;clear hj UM;rcases hc with⟨c1,rfl⟩|⟨c1,c2,rfl⟩
  .exact adG ⟨_,g,rfl⟩ slot_list_getitem.lookup (adU ⟨_,g,rfl,_,rfl⟩ c1 (P2 h2 rfl) (by simpa using hy) (hQ _ _ (Al.refl s) ry)) hs
  .refine adG ⟨_,g,rfl⟩ slot_list_getitem.lookup (wpAny_getItem_list_neg (items:=xs.toArray) ⟨_,g,rfl,_,rfl⟩ c1 ?_ (P1 h1 rfl) ?_ (hQ _ _ (Al.refl s) ry)) hs
   .rw[ay,KO];exact Js c2
   .rw[ay,KO];simpa using hy
 .rename_i l k;refine x26 rv λa es KC sz sy n g q=>?_;subst KC;refine x11 qv λt' KC=>?_;subst KC;rcases q.find k with⟨h1,h2⟩|⟨y,u,h1,h2,h3⟩
  .change dK k l=B' z at e;rw[h2] at e;exact no e
  .change dK k l=B' z at e;replace e:=h2▸e;obtain rfl:=ac e;exact adG g.typeIs slot_dict_getitem.lookup (wpAny_getItem_of eF g.mapOf h1 (hQ _ _ (Al.tok s _) h3)) hs
 .rename_i l k;refine x26 rv λa es KC sz sy n g q=>?_;subst KC;refine x12 qv λt' KC hz=>?_;subst KC;rcases q.find k with⟨h1,h2⟩|⟨y,u,h1,h2,h3⟩
  .change dW k l=B' z at e;rw[h2] at e;exact no e
  .change dW k l=B' z at e;rw[h2] at e;obtain rfl:=ac e;exact adG g.typeIs slot_dict_getitem.lookup (wpAny_getItem_of dF g.mapOf h1 (hQ _ _ (Al.tok s _) h3)) hs
 .rename_i k;refine x02 rv λKC hl=>?_;subst KC;refine x11 qv λt' KC=>?_;subst KC;obtain⟨xs,n,g,q,hr,_⟩:=i.rows hl;change (bif L' (0<=k)&&decide (k<2^62) then T.rows[k.toNat]? else F')=B' z at e;refine aaw (b:=decide (0<=k)&&decide (k<2^62)) (λhk=>?_) λhk=>?_
  .rw[hk] at e;exact no e
  .
   rw[hk] at e;simp only[aq,bl] at hk;obtain⟨y,hy,ry⟩:=q.get e;exact adG ⟨_,g,rfl⟩ slot_list_getitem.lookup (adU ⟨_,g,rfl,_,rfl⟩ hk.1 (P2 hk.2 rfl) (by simpa using hy) (hQ _ _ (Al.refl s) (ry.abM (u3 6 _ (hr _ (bV e))) yk))) hs
 .rename_i l;refine x02 rv λKC hl=>?_;subst KC;refine lH qv λa xs KC sz g n q=>?_;subst KC;change (bif(V.tup l).hk 6 then(dA (.tup l) T.idx).map .int else F')=B' z at e;refine aaw (b:=(V.tup l).hk 6) (λhk=>?_) λhk=>?_
  .rw[hk] at e;exact no e
  .
   rw[hk] at e;refine x12 (aK.mp e) λj hj KC=>?_;subst KC;obtain⟨es,hd,hr⟩:=i.idx hl;rcases fP hr (.tup l) with⟨h1,h2⟩|⟨a,i,t,h1,h2⟩
   .rw[h2] at hj;exact no hj
   .rw[h2] at hj;obtain rfl:=ac hj;exact adG hd.typeIs slot_dict_getitem.lookup (wpAny_getItem_heap (knd:=eO W) (by show A.units+1+8<adD;exact Cq hu rfl) (gG (.tup sz g n q) hk) hd h1 (hQ _ _ (Al.tok s _) (.int ..))) hs
 .rename_i k;obtain rfl:_=_:=rv;refine x11 qv λt' KC=>?_;subst KC;refine x02 (aaf e) λhk KC=>?_;subst KC;simp only[aq,aT] at hk;refine x02 hk λPH KC=>?_;subst KC;obtain⟨xs,n,g,q⟩:=hD PH;exact adG ⟨_,g,rfl⟩ slot_list_getitem.lookup (adU ⟨_,g,rfl,_,rfl⟩ (by decide) (by decide) (by simpa using q) (hQ _ _ (Al.refl s) .decl)) hs
end
open PySem.SeqAt PySem.Calls PySem.Spec
variable {vs:List V}
section
variable {W:Wd}{base:P'}{y:G'}{v u:V}
theorem tT{l:List V}{z:List Int}(e:o7 l=B' z):l=z.map .int:=by
 induction l generalizing z with
 |nil=>obtain rfl:=ac e;rfl
 |cons a l ih=>
  revert e;induction a using V.casesOn<;>first|exact no|intro e
  refine x12 (aK.mp e) λz' h KC=>?_;subst KC;refine sb (ih h) ?_;rfl
theorem lN{l:List V}{z:List Bool}(e:lI l=B' z):l=z.map .bool:=by
 induction l generalizing z with
 |nil=>obtain rfl:=ac e;rfl
 |cons a l ih=>
  revert e;induction a using V.casesOn<;>first|exact no|intro e
  refine x12 (aK.mp e) λz' h KC=>?_;subst KC;refine sb (ih h) ?_;rfl
theorem jQ{z:List Int}(r:cM W h Y xs (z.map .int)):adP xs z:=by
 induction z generalizing xs with
 |nil=>obtain rfl:=cM.aaV r;exact .nil
 |cons i z ih=>
  refine x23 r.aaX λx ys KC p q=>?_;subst KC;refine x11 p.view λt KC=>?_;subst KC;exact .cons _ _ (ih q)
theorem ij{z:List Int}(r:adP xs z):cM W h Y xs (z.map .int):=by
 induction r with
 |nil=>exact .nil
 |cons n t _ ih=>exact .cons (.int ..) ih
theorem pe(i:Int)(l:List Int):(kR i l).Perm (i::l):=by
 induction l with
 |nil=>exact List.Perm.refl _
 |cons j l ih=>
  simp only[jM,jN];cases L' (i<j) with
  |true=>exact List.Perm.refl _
  |false=>exact((List.Perm.cons j ih).trans (List.Perm.swap ..))
theorem rX(i:Int)(l:List Int)(h:l.Pairwise (· <=·)):(kR i l).Pairwise (· <=·):=by
 induction l with
 |nil=>exact List.pairwise_singleton ..
 |cons j l ih=>
  obtain⟨h1,h2⟩:=cg.mp h;simp only[jM,jN];by_cases c:i<j
  .rw[ak c];refine cg.mpr ⟨λk hk=>?_,h⟩;rcases aD.mp hk with rfl|hk
   .exact JG c
   .have:=h1 k hk;exact JF c this
  .rw[aj c];refine cg.mpr ⟨λk hk=>?_,ih h2⟩;rcases aD.mp ((pe i l).mem_iff.mp hk) with rfl|hk
   .exact JH c
   .exact h1 k hk
theorem jR(l:List Int):(cQ l).Perm l:=by
 induction l with
 |nil=>exact List.Perm.refl _
 |cons i l ih=>exact(pe i (cQ l)).trans (List.Perm.cons i ih)
theorem qt(l:List Int):(cQ l).Pairwise (· <=·):=by
 induction l with
 |nil=>exact List.Pairwise.nil
 |cons i l ih=>exact rX i _ ih
theorem kb{l m:List Int}(p:m.Perm l)(h:m.Pairwise (· <=·)):m=cQ l:=List.Perm.eq_of_pairwise (λa b O O h1 h2=>Int.le_antisymm h1 h2) h (qt l) (p.trans (jR l).symm)
theorem rY{vs:List G'}{ns:List Int}(hI:adP vs ns):vs.length=ns.length:=by induction hI with|nil=>rfl|cons _ _ _ ih=>simp [ih]
theorem dg(g:h.objs.size<=a):h.get? a=F':=by
 cases e:h.get? a with
 |none=>rfl
 |some o=>exact absurd (aY e) (Nat.not_lt.mpr g)
theorem mN{l:M'}{vs:List G'}{ns:List Int}(hl:s.heap.IsList l vs.toArray)(hI:adP vs ns)(On:vs.length<64)(yk:fm W base Y s.heap)(hQ:∀y s',Al s s'->VR W s'.heap Y y (.lst ((cQ ns).map .int))->Q y s'):qaa W A (call (.builtin "sorted") [.ref l]) Q E s:=by
 refine sorted_ints hl hI On λout WS h1 h2 h3=>?_
 obtain⟨e,he⟩:=sortedAll_at s.heap vs out
 have hn:=kb h2 h3
 subst hn
 refine hQ _ _ (Al.mk' λb o e=>sortedAll_old e) (.lst (n:=e) ?_ (yk.fresh ?_) (by rw[he]) (ij h1))
 .rw[ae,(jR ns).length_eq];have q1:=rY hI;have:64<=sizeLine:=by decide
  exact O8 q1.symm On rfl
 .exact dg (bm _)
theorem qu{d:M'}{es:List (Int×G')}(hA:A.handled=F')(sy:(d==adf)=false)(g:s.heap.DictOf (adA W.prog W.w) d es)(On:es.length<64)(yk:fm W base Y s.heap)(hQ:∀y s',Al s s'->VR W s'.heap Y y (.lst ((cQ (es.map (·.1))).map .int))->Q y s'):qaa W A (call (.builtin "sorted") [.ref d]) Q E s:=by
 refine x11 g.dictAt λep ga=>?_
 have h24:64<=sizeLine:=by decide
 refine call_function_entry kind_sorted plain_sorted entry_sorted (args_sorted1 _) ?_
 unfold Builtin.«sorted»
 refine ah (m:=checkCount "sorted" 1 1 _) (av ?_)
 refine ah (kdu_collect (A:=A.in1) (kdl_dict (knd:=adA W.prog W.w) (kvs:=es) (ep:=ep) sy) hA ga (O3 On rfl) λh' tk Lx hk Oy=>?_)
 have hl:Lx.toList.length=es.length:=by rw[Array.length_toList];exact Oy.1
 have hI:adP Lx.toList (es.map (·.1)):=by
  have key:∀(xs:List G')(es:List (Int×G')),xs.length=es.length->(∀(j:Nat)(v:G'),xs[j]? =B' v->∃(k:Int)(x:G'),es[j]? =B' (k,x)/\(adA W.prog W.w).is k v=true)->adP xs (es.map (·.1)):=by
   intro xs;induction xs with
   |nil=>intro es h _;induction es using List.casesOn with|nil=>exact .nil|cons _ _=>simp at h
   |cons a xs ih=>
    intro es h hv;induction es using List.casesOn with
    |nil=>simp at h
    |cons q es=>
     refine iP (hv 0 a rfl) λk x e hk=>?_;simp at e;subst e;refine x11 (Value.isInt_shape hk) λt KC=>?_;subst KC;exact .cons k t (ih es (by simpa using h) λj v e=>hv (j+1) v (by simpa using e))
  exact key _ _ hl λj v e=>Oy.2 j v (by rw[<- Array.getElem?_toList];exact e)
 refine ah (wpAny_newList ?_ (O8 hl On rfl))
 refine ah (adu (adH (s:={s with heap:=h'.push (seqObj "list" Lx.toList.toArray 0),toks:=tk}) slot_list_sort ⟨_,aF _ rfl,rfl⟩ entry_list_sort (list_sort_tree (s:={s with heap:=h'.push (seqObj "list" Lx.toList.toArray 0),toks:=tk}) (aF _ rfl) hI (O7 hl On rfl) λout WS a1 a2 a3=>⟨_,rfl,?_⟩) (args_list_sort _)))
 have hn:=kb a2 a3
 subst hn
 refine av ⟨_,rfl,hQ _ _ (Al.mk' λb o e=>?_) ?_⟩
 .have e1:=hk b o e;refine sb (sortedHeap_old (bD (aY e1)) (by rw[size_push'];exact Nat.lt_succ_of_lt (aY e1))) ?_;exact aB _ e1
 .refine x11 (sortedHeap_at (vs:=Lx.toList) (out:=out) (n:=0) (h:=h'.push (seqObj "list" Lx.toList.toArray 0)) (a:=h'.objs.size) (aF _ rfl)) λe he=>?_;refine .lst (n:=e) ?_ (yk.fresh ?_) (sb he rfl) (ij a1)
  .rw[ae,(jR _).length_eq,ae];exact O3 On rfl
  .cases e:s.heap.get? h'.objs.size with
   |none=>rfl
   |some o=>exact absurd (aY (hk _ _ e)) (Nat.lt_irrefl _)
theorem tU{z:List O'}(hz:∀x∈z,x.length<=sizeLine)(r:StrsAre xs z):cM W h Y xs (z.map .str):=by
 induction r with
 |nil=>exact .nil
 |cons n t _ ih=>exact .cons (.str _ _ (hz _ (af ..))) (ih λx hx=>hz x (ag _ hx))
theorem qw{l m z:List O'}(e:xy l=B' z)(p:m.Perm l)(h:sortedS m=true):m=z:=by
 match l,e with
 |[],e=>obtain rfl:=ac e;simpa using p
 |[a],e=>obtain rfl:=ac e;simpa using p
 |[a,b],e=>
  have hm:m=[a,b]\/m=[b,a]:=by
   match m,p.length_eq with
   |[x,y],_=>
    have hx:x=a\/x=b:=by simpa using p.mem_iff (a:=x) |>.mp (by simp)
    rcases hx with rfl|rfl
    .have:=(List.perm_cons x).mp p;simp at this;exact .inl (by rw[this])
    .have:=(List.perm_cons x).mp (p.trans (List.Perm.swap ..));simp at this;exact .inr (by rw[this])
  have key:∀x y:O',sortedS [x,y]=true->¬(y.cps.toList<x.cps.toList):=λx y h=>by
   have h1:(!ltCps y.cps.toList x.cps.toList&&risingS y [])=true:=h;have h2:risingS y []=true:=rfl;rw[h2,Bool.and_true,ltCps_eq] at h1;simpa using h1
  change (bif L' (b.cps.toList<a.cps.toList) then B' [b,a] else B' [a,b])=B' z at e;by_cases c:b.cps.toList<a.cps.toList
  .rw[ak c] at e;obtain rfl:=ac e;rcases hm with rfl|rfl
   .exact absurd c (key _ _ h)
   .rfl
  .rw[aj c] at e;obtain rfl:=ac e;rcases hm with rfl|rfl
   .rfl
   .have c2:=key _ _ h;have:a.cps.toList=b.cps.toList:=by
     rcases Std.lt_trichotomy a.cps.toList b.cps.toList with h|h|h
     .exact absurd h c2
     .exact h
     .exact absurd h c
    have e:a=b:=by
     induction a using Str.casesOn;induction b using Str.casesOn;simp only[Str.mk.injEq];exact Array.toList_inj.mp this
    rw[e]
 |_::_::_::_,e=>exact no e
theorem qx{d:M'}{es:List (O'×G')}{z:List O'}(hA:A.handled=F')(sy:(d==adf)=false)(g:s.heap.DictOf (PySem.strKind W.prog W.w) d es)(he:xy (es.map (·.1))=B' z)(yk:fm W base Y s.heap)(hz:∀x∈es.map (·.1),x.length<=sizeLine)(hQ:∀y s',Al s s'->VR W s'.heap Y y (.lst (z.map .str))->Q y s'):qaa W A (call (.builtin "sorted") [.ref d]) Q E s:=by
 refine x11 g.dictAt λep ga=>?_
 have h24:64<=sizeLine:=by decide
 have On:es.length<64:=by
  match es,he with
  |[],_=>simp
  |[_],_=>simp
  |[_,_],_=>simp
  |_::_::_::_,he=>exact no he
 refine call_function_entry kind_sorted plain_sorted entry_sorted (args_sorted1 _) ?_
 unfold Builtin.«sorted»
 refine ah (m:=checkCount "sorted" 1 1 _) (av ?_)
 refine ah (kdu_collect (A:=A.in1) (kdl_dict (knd:=PySem.strKind W.prog W.w) (kvs:=es) (ep:=ep) sy) hA ga (O3 On rfl) λh' tk Lx hk Oy=>?_)
 have hl:Lx.toList.length=es.length:=by rw[Array.length_toList];exact Oy.1
 have hI:StrsAre Lx.toList (es.map (·.1)):=by
  have key:∀(xs:List G')(es:List (O'×G')),xs.length=es.length->(∀(j:Nat)(v:G'),xs[j]? =B' v->∃(k:O')(x:G'),es[j]? =B' (k,x)/\(PySem.strKind W.prog W.w).is k v=true)->StrsAre xs (es.map (·.1)):=by
   intro xs;induction xs with
   |nil=>intro es h _;induction es using List.casesOn with|nil=>exact .nil|cons _ _=>simp at h
   |cons a xs ih=>
    intro es h hv;induction es using List.casesOn with
    |nil=>simp at h
    |cons q es=>
     refine iP (hv 0 a rfl) λk x e hk=>?_;simp at e;subst e;obtain⟨t,rfl⟩:=Value.isStrOf_shape hk;exact .cons k t (ih es (by simpa using h) λj v e=>hv (j+1) v (by simpa using e))
  exact key _ _ hl λj v e=>Oy.2 j v (by refine sb (Eq.symm (Array.getElem?_toList)) ?_;exact e)
 refine ah (wpAny_newList ?_ (O8 hl On rfl))
 refine ah (adu (adH (s:={s with heap:=h'.push (seqObj "list" Lx.toList.toArray 0),toks:=tk}) slot_list_sort ⟨_,aF _ rfl,rfl⟩ entry_list_sort (list_sort_treeK (κ:=PyProof.Rows.strKind) (s:={s with heap:=h'.push (seqObj "list" Lx.toList.toArray 0),toks:=tk}) strKind_oneLt (aF _ rfl) hI.keysOf (λacR acS KJ e=>keyKind_strs (by refine sb (Eq.symm (e)) ?_;exact hI)) (O7 hl On rfl) λQs hp hs=>⟨_,rfl,?_⟩) (args_list_sort _)))
 refine hide λQz qz=>?_
 refine kQ (sorted_out_str hI hp hs) λss' a1 a2 a3=>?_
 have hn:=qw he a2 a3
 refine qz ?_
 clear Qz qz
 subst hn
 refine av ⟨_,rfl,hQ _ _ (Al.mk' λb o e=>?_) ?_⟩
 .have e1:=hk b o e;rw[sortedHeap_old (bD (aY e1)) (by rw[size_push'];exact Nat.lt_succ_of_lt (aY e1))];exact aB _ e1
 .refine x11 (sortedHeap_at (vs:=Lx.toList) (out:=(arrOf Qs).map (·.2)) (n:=0) (h:=h'.push (seqObj "list" Lx.toList.toArray 0)) (a:=h'.objs.size) (aF _ rfl)) λe he=>?_;refine .lst (n:=e) ?_ (yk.fresh ?_) (sb he rfl) (tU (λx hx=>hz x (a2.mem_iff.mp hx)) a1)
  .rw[ae,a2.length_eq,ae];exact O3 On rfl
  .cases e:s.heap.get? h'.objs.size with
   |none=>rfl
   |some o=>exact absurd (aY (hk _ _ e)) (Nat.lt_irrefl _)
theorem u6{z:List Bool}(r:cM W h Y xs (z.map .bool)):xs=z.map .bool:=by
 induction z generalizing xs with
 |nil=>obtain rfl:=cM.aaV r;rfl
 |cons b z ih=>exact x23 (cM.aaX r) λx ys e p q=>e▸ih q▸(VR.view p:x=_)▸rfl
theorem jA(z:List Bool):TruthOf W.prog W.w A (λi v=>((z.map Value.bool).toArray)[i]? =B' v) (λi=>z.getD i false):=λi v s Q E hP hQ=>by
 have:(z.map Value.bool)[i]? =B' v:=by simpa using hP
 rw[bZ] at this
 clear hP;refine x12 (aK.mp this) λb hb KC=>?_;subst KC
 have e:z.getD i false=b:=by simp [List.getD,hb]
 exact adx (e▸hQ)
theorem wm(z:List Bool):(List.range z.length).all (λi=>z.getD i false)=z.all id:=by
 rw[Bool.eq_iff_iff]
 simp only[aE,List.mem_range,id]
 constructor
 .intro h b hb;obtain⟨i,hi,rfl⟩:=List.mem_iff_getElem.mp hb;have:=h i hi;simpa [List.getD,hi] using this
 .intro h i hi;simp [List.getD,hi];exact h _ (List.getElem_mem hi)
theorem wn(z:List Bool):(List.range z.length).any (λi=>z.getD i false)=z.any id:=by
 rw[Bool.eq_iff_iff]
 simp only[List.any_eq_true,List.mem_range,id]
 constructor
 .rintro ⟨i,hi,h⟩;exact⟨_,List.getElem_mem hi,by simpa [List.getD,hi] using h⟩
 .rintro ⟨b,hb,h⟩;obtain⟨i,hi,rfl⟩:=List.mem_iff_getElem.mp hb;exact⟨i,hi,by simpa [List.getD,hi] using h⟩
set_option tactic.hygienic true in
theorem CP(hA:A.handled=F')(yk:fm W base Y s.heap)(r:VR W s.heap Y x v)(e:EP v=B' u)(hQ:∀y s',Al s s'->VR W s'.heap Y y u->Q y s'):qaa W A (call (.builtin "all") [x]) Q E s:=by
 revert e;induction v using V.casesOn<;>first|exact no|intro e
 rename_i l
 refine hide λQz qz=>?_
 refine x12 (aK.mp e) λz hz KC=>?_;subst KC
 have hz:=lN hz
 refine qz ?_
 clear Qz qz
 subst hz
 refine hide λQz qz=>?_
 refine x35 r.abF λa xs n KC g q hl ny=>?_;subst KC
 have hx:=u6 q
 refine qz ?_
 clear Qz qz
 subst hx
 have KY:a≠s.heap.objs.size:=bD (aY g)
 refine call_all_walk (adX ⟨_,g,rfl,_,rfl⟩ ?_)
 refine(Iw _ _ _ _ _ _ _ rfl (Walks.list (A:=A.in1) hA s.heap.objs.size a KY (z.map Value.bool).toArray) ?_ (jA z) (λh' tk hk=>?_))
 .exact⟨(lU _ (aF _ rfl) rfl rfl),⟨_,aB _ g,rfl,_,rfl⟩⟩
 .have e1:(List.range (z.map Value.bool).toArray.size).all (λi=>z.getD i false)=z.all id:=by rw[ay,ae];exact wm z
  rw[e1];exact hQ _ _ (Al.mk' λb o e=>hk b o (by simp;exact bD (aY e)) (aB _ e)) (.bool _)
set_option tactic.hygienic true in
theorem CQ(hA:A.handled=F')(yk:fm W base Y s.heap)(r:VR W s.heap Y x v)(e:EQ v=B' u)(hQ:∀y s',Al s s'->VR W s'.heap Y y u->Q y s'):qaa W A (call (.builtin "any") [x]) Q E s:=by
 revert e;induction v using V.casesOn<;>first|exact no|intro e
 rename_i l
 refine hide λQz qz=>?_
 refine x12 (aK.mp e) λz hz KC=>?_;subst KC
 have hz:=lN hz
 refine qz ?_
 clear Qz qz
 subst hz
 refine hide λQz qz=>?_
 refine x35 r.abF λa xs n KC g q hl ny=>?_;subst KC
 have hx:=u6 q
 refine qz ?_
 clear Qz qz
 subst hx
 have KY:a≠s.heap.objs.size:=bD (aY g)
 refine call_any_walk (adX ⟨_,g,rfl,_,rfl⟩ ?_)
 refine(Iw _ _ _ _ _ _ _ rfl (Walks.list (A:=A.in1) hA s.heap.objs.size a KY (z.map Value.bool).toArray) ?_ (jA z) (λh' tk hk=>?_))
 .exact⟨(lU _ (aF _ rfl) rfl rfl),⟨_,aB _ g,rfl,_,rfl⟩⟩
 .have e1:(List.range (z.map Value.bool).toArray.size).any (λi=>z.getD i false)=z.any id:=by rw[ay,ae];exact wn z
  rw[e1];exact hQ _ _ (Al.mk' λb o e=>hk b o (by simp;exact bD (aY e)) (aB _ e)) (.bool _)
set_option tactic.hygienic true in
theorem wo(hA:A.handled=F')(yk:fm W base Y s.heap)(r:VR W s.heap Y x v)(e:qk v=B' u)(hQ:∀y s',Al s s'->VR W s'.heap Y y u->Q y s'):qaa W A (call (.builtin "sorted") [x]) Q E s:=by
 revert e;induction r using VR.casesOn<;>first|exact no|intro e
 case lst a xs n l z ny g q=>
  obtain⟨ns,h1,h2⟩:=Option.bind_eq_some_iff.mp e;have hl:=tT h1;subst hl;unfold o8 at h2;obtain⟨h3,rfl⟩:=aaf h2;simp only[bl] at h3;exact mN ⟨_,g,rfl,_,rfl⟩ (jQ q) (by rw[q.length];exact h3) yk hQ
 case di a es l z sy ny g q=>
  unfold qk o8 at e;obtain⟨h3,rfl⟩:=aaf e;simp only[bl] at h3;refine qu hA sy g (by rw[q.length];exact h3) yk λy s' h1 h2=>hQ y s' h1 ?_;refine sb (Eq.symm (q.keys)) ?_;exact h2
 case ds a es l z sy ny g q=>
  obtain⟨ss,h1,rfl⟩:=aK.mp e;exact qx hA sy g (by rw[q.keys];exact h1) yk q.small hQ
theorem ab9{n:String}{l:List V}(yk:fm W base Y s.heap)(r:VR W s.heap Y x (.tup l))(e:rO n [.tup l]=B' u)(hQ:∀y s',Al s s'->VR W s'.heap Y y u->Q y s'):qaa W A (call (.type n) [x]) Q E s:=by
 refine lH r.abm λa xs KC g q hl ny=>?_;subst KC
 refine xt (c:=n=="tuple") e (λh e=>?_) λO e=>aaU e λh e=>?_
 .obtain rfl:=ba h;obtain rfl:=ac e;exact call_tuple_same ⟨_,g,rfl,_,rfl⟩ (hQ _ _ (Al.refl s) r)
 .obtain rfl:=ba h;obtain rfl:=ac e;exact call_list_seq a (.inr rfl) g rfl rfl (λh' c' hk hn=>hQ _ _ (Al.mk' hk) (.lst (n:=c') hl yk.abL hn (q.keep λb o O O e=>hk b o e))) (by(refine sb ay ?_;refine sb q.length ?_);exact hl)
theorem aca{n:String}{l:List V}(yk:fm W base Y s.heap)(r:VR W s.heap Y x (.lst l))(e:rO n [.lst l]=B' u)(hQ:∀y s',Al s s'->VR W s'.heap Y y u->Q y s'):qaa W A (call (.type n) [x]) Q E s:=by
 refine x35 r.abF λa xs m KC g q hl ny=>?_;subst KC
 refine aaU (c:=n=="tuple") e λh e=>?_
 obtain rfl:=ba h
 obtain rfl:=ac e
 refine call_tuple_list ⟨_,g,rfl,_,rfl⟩ (λh' hk=>?_) (by(refine sb ay ?_;refine sb q.length ?_);exact hl)
 refine hQ _ _ (Al.mk' λb o e=>aB _ (hk b o e)) (.tup hl ?_ (aF _ rfl) (q.keep λb o O O e=>aB _ (hk b o e)))
 refine yk.fresh ?_
 cases e:s.heap.get? h'.objs.size with
 |none=>rfl
 |some o=>exact absurd (aY (hk _ _ e)) (Nat.lt_irrefl _)
theorem E7{n:String}(yk:fm W base Y s.heap)(r:cM W s.heap Y xs vs)(e:rO n vs=B' u)(hQ:∀y s',Al s s'->VR W s'.heap Y y u->Q y s'):qaa W A (call (.type n) xs) Q E s:=by
 rcases vs with _|⟨v,vs⟩
 .exact no e
 rcases vs with _|⟨v',vs⟩
 .refine x23 r.aaX λx ys KC p q=>?_;subst KC;obtain rfl:=q.aaV;revert e;induction v using V.casesOn<;>first|exact no|intro e
  .exact ab9 yk p e hQ
  .exact aca yk p e hQ
 .revert e;induction v using V.casesOn<;>first|exact no|(intro e;exact no e)
theorem rZ:isSubtype (.type "int") (.type "str")=pure false:=by rw[isSubtype_type];kernel_rfl
theorem r0:isSubtype (.type "str") (.type "str")=pure true:=by rw[isSubtype_type];kernel_rfl
theorem xO(r:VR W s.heap Y x v)(e:rP v=B' b)(hQ:∀s',Al s s'->Q (.bool b) s'):qaa W A (call (.builtin "isinstance") [x,.type "str"]) Q E s:=by
 revert e;induction r using VR.casesOn<;>first|exact no|intro e
 .obtain rfl:=ac e;exact call_isinstance (isinstance_false_int (by decide) (by kernel_rfl) rZ) (hQ _ (Al.tok s _))
 .obtain rfl:=ac e;exact call_isinstance (isinstance_true (Tx:="str") (by kernel_rfl) r0) ⟨rfl,hQ _ (Al.refl s)⟩
end
section
variable {W:Wd}{base:P'}{y:G'}{v u:V}
theorem E8{id:String}(hA:A.handled=F')(i:dl W base T s.heap)(yk:fm W base Y s.heap)(r:cM W s.heap Y xs vs)(e:fZ id vs T=B' u)(hQ:∀y s',Al s s'->VR W s'.heap Y y u->Q y s'):qaa W A (call (.builtin id) xs) Q E s:=by
 rcases vs with _|⟨v,vs⟩
 .exact no e
 rcases vs with _|⟨v',vs⟩
 rotate_left
 .exact no e
 refine x23 r.aaX λx ys KC p q=>?_;subst KC
 obtain rfl:=q.aaV
 refine xt (c:=id=="len") e (λh e=>?_) λO e=>xt (c:=id=="sorted") e (λh e=>?_) λO e=>xt (c:=id=="all") e (λh e=>?_) λO e=>aaU (c:=id=="any") e λh e=>?_
 .obtain rfl:=ba h;exact CM (Y:=Y) p e i hQ
 .obtain rfl:=ba h;exact wo hA yk p e hQ
 .obtain rfl:=ba h;exact CP hA yk p e hQ
 .obtain rfl:=ba h;exact CQ hA yk p e hQ
structure IT (W:Wd) (Y:M'->Prop) (I:M') (fp:M'->Prop) (l:List V) (St:Nat->P'->Prop):Prop where
 next:∀(i:Nat)(u:V)(A:ada)(s:H')(Q:Option G'->H'->Prop)(E:G'->H'->Prop),A.handled=F'->l[i]? =B' u->St i s.heap->(∀y h' tk,VR W h' Y y u->St (i+1) h'->(∀b o,b≠I->s.heap.get? b=B' o->h'.get? b=B' o)->Q (B' y) {s with heap:=h',toks:=tk})->V' (ade W.prog W.w) A (aeF (.ref I)) Q E s
 done:∀(A:ada)(s:H')(Q:Option G'->H'->Prop)(E:G'->H'->Prop),A.handled=F'->St l.length s.heap->(∀h' tk,(∀b o,b≠I->s.heap.get? b=B' o->h'.get? b=B' o)->Q F' {s with heap:=h',toks:=tk})->V' (ade W.prog W.w) A (aeF (.ref I)) Q E s
 self:∀(i:Nat)(A:ada)(s:H')(Q:G'->H'->Prop)(E:G'->H'->Prop),A.handled=F'->St i s.heap->Q (.ref I) s->V' (ade W.prog W.w) A (aeD (.ref I)) Q E s
 nd:∀i h,St i h->∃o,h.get? I=B' o/\¬dG o
 frame:∀i h h',St i h->(∀b,fp b->∀o,h.get? b=B' o->h'.get? b=B' o)->kN Y h h'->St i h'
theorem aaq{o:Obj}{c:String}(h:o.cls=.type c)(n:c≠"tuple"/\c≠"list"/\c≠"dict"):¬dG o:=by
 rintro (e|e|e)<;>(rw[h] at e;injection e with e;exact absurd e (by first|exact n.1|exact n.2.1|exact n.2.2))
theorem IT.ofWalks{I:M'}{fl wr:List M'}{xs:List G'}{l:List V}{P:Nat->G'->Prop}{St:Nat->P'->Prop}(Uh:∀b∈wr,b=I)(hn:xs.length=l.length)(Qh:∀i h,St i h->∃o,h.get? I=B' o/\¬dG o)(Wk:∀A:ada,A.handled=F'->Walks W.prog W.w A I fl wr xs.length P St)(hP:∀i v,P i v->xs[i]? =B' v):IT W Y I (λb=>b∈fl) l (λi h=>St i h/\cM W h Y xs l) where
 next:=λi u A s Q E hh hu st hQ=>by
  have hi:i<xs.length:=by rw[hn];exact(aV.mp hu).1
  refine(Wk A hh).item i s Q E hi st.1 λv h' tk hv hs hk=>?_;have RP:∀b o,b≠I->s.heap.get? b=B' o->h'.get? b=B' o:=λb o hb e=>hk b o (λm=>hb (Uh b m)) e;have hr:cM W h' Y xs l:=st.2.keep λb o hb d e=>RP b o (λe'=>by refine x12 (Qh _ _ st.1) λo' h1 h2=>?_;rw[e',h1] at e;obtain rfl:=ac e;exact h2 d) e;refine x12 (hr.get' (hP _ _ hv)) λu' Xy r=>?_;rw[hu] at Xy;obtain rfl:=ac Xy;exact hQ v h' tk r ⟨hs,hr⟩ RP
 done:=λA s Q E hh st hQ=>by
  refine(Wk A hh).done s Q E (by rw[hn];exact st.1) λh' tk hk=>hQ h' tk λb o hb e=>hk b o (λm=>hb (Uh b m)) e
 self:=λi A s Q E hh st hQ=>(Wk A hh).self i s Q E st.1 hQ
 nd:=λi h st=>Qh i h st.1
 frame:=λi h h' st hf hk=>⟨(Wk {} rfl).frame i h h' st.1 hf,st.2.keep hk⟩
theorem IT.abN{I:M'}{fl wr:List M'}{n:Nat}{l:List V}{P:Nat->G'->Prop}{St:Nat->P'->Prop}(Uh:∀b∈wr,b=I)(hn:n=l.length)(Qh:∀i h,St i h->∃o,h.get? I=B' o/\¬dG o)(Wk:∀A:ada,A.handled=F'->Walks W.prog W.w A I fl wr n P St)(hP:∀i v u h,P i v->l[i]? =B' u->VR W h Y v u):IT W Y I (λb=>b∈fl) l St where
 next:=λi u A s Q E hh hu st hQ=>by
  have hi:i<n:=by rw[hn];exact(aV.mp hu).1
  refine(Wk A hh).item i s Q E hi st λv h' tk hv hs hk=>?_;exact hQ v h' tk (hP _ _ _ _ hv hu) hs λb o hb e=>hk b o (λm=>hb (Uh b m)) e
 done:=λA s Q E hh st hQ=>by
  refine(Wk A hh).done s Q E (by rw[hn];exact st) λh' tk hk=>hQ h' tk λb o hb e=>hk b o (λm=>hb (Uh b m)) e
 self:=λi A s Q E hh st hQ=>(Wk A hh).self i s Q E st hQ
 nd:=Qh
 frame:=λi h h' st hf hk=>(Wk {} rfl).frame i h h' st hf
theorem pf{z:O'}{i:Nat}{v:G'}{u:V}(p:SignAt z i v)(e:(rN z)[i]? =B' u):VR W h Y v u:=by
 refine iP p λc t hc KC=>?_;subst KC
 unfold rN at e
 rw[bZ,Array.getElem?_toList,hc] at e
 obtain rfl:=ac e
 exact .str _ _ (by show 1<=sizeLine;decide)
noncomputable def Gm(W:Wd)(Y:M'->Prop)(l:List V)(s:H')(it:G')(s':H'):Prop:=∃I fp St,it=.ref I/\IT W Y I fp l St/\St 0 s'.heap/\Al s s'/\s.heap.get? I=F'/\(∃o,s'.heap.get? I=B' o/\¬dG o)/\∀b,fp b->b=I\/(¬Y b/\∃o,s.heap.get? b=B' o/\dG o)
set_option tactic.hygienic true in
theorem z7{l:List V}(r:VR W s.heap Y x v)(e:cy v=B' l)(hQ:∀it s',Gm W Y l s it s'->Q it s'):qaa W A (aeD x) Q E s:=by
 revert e;induction r using VR.casesOn<;>first|exact no|intro e
 case str z t hz=>
  obtain rfl:=ac e;have hl:z.cps.size=(rN z).length:=by simp [rN]
  cases ha:z.cps.all (· <128)
  .refine wpAny_pyIter_wide ha (hQ _ _ (EM _ _ _ rfl (IT.abN (fl:=[s.heap.objs.size]) (wr:=[s.heap.objs.size]) (P:=SignAt z) (by simp) hl (λi h ⟨o,ho,hc,_⟩=>⟨o,ho,aaq hc (by decide)⟩) (λA hh=>Walks.strWide hh _ z t) (λi v u h p e=>pf p e)) (⟨_,aF _ rfl,rfl,rfl⟩) (Al.push s _) (aap _) (⟨_,aF _ rfl,aaq rfl (by decide)⟩) (λb hb=>.inl (by simpa using hb))))
  .refine wpAny_pyIter_ascii ha (hQ _ _ (EM _ _ _ rfl (IT.abN (fl:=[s.heap.objs.size]) (wr:=[s.heap.objs.size]) (P:=SignAt z) (by simp) hl (λi h ⟨o,ho,hc,_⟩=>⟨o,ho,aaq hc (by decide)⟩) (λA hh=>Walks.strAscii hh _ z t) (λi v u h p e=>pf p e)) (⟨_,aF _ rfl,rfl,rfl⟩) (Al.push s _) (aap _) (⟨_,aF _ rfl,aaq rfl (by decide)⟩) (λb hb=>.inl (by simpa using hb))))
 case tup a xs l' hz ny g q=>
  cases e;have KY:a≠s.heap.objs.size:=bD (aY g);refine wpAny_pyIter_tuple ⟨_,g,rfl,_,rfl⟩ (hQ _ _ (EM _ _ _ rfl (IT.ofWalks (xs:=xs) (l:=l) (fl:=[s.heap.objs.size,a]) (wr:=[s.heap.objs.size]) (P:=λi v=>xs.toArray[i]? =B' v) (St:=λi h=>h.IsTupleIter s.heap.objs.size a i/\h.IsTuple a xs.toArray) (by simp) q.length ?_ (λA hh=>?_) (λi v h=>by simpa using h)) (⟨⟨?_,?_⟩,?_⟩) (Al.push s _) (aap _) (⟨_,aF _ rfl,aaq rfl (by decide)⟩) (λb hb=>?_)))
  .rintro i h ⟨⟨o,ho,hc,_⟩,_⟩;exact⟨o,ho,aaq hc (by decide)⟩
  .have:=Walks.tuple (prog:=W.prog) (w:=W.w) (A:=A) hh s.heap.objs.size a KY xs.toArray;replace this:=ay▸this;exact this
  .exact(lU _ (aF _ rfl) rfl rfl)
  .exact⟨_,aB _ g,rfl,_,rfl⟩
  .exact q.keep λb o O O e=>aB _ e
  .simp at hb;rcases hb with rfl|rfl
   .exact .inl rfl
   .exact .inr ⟨ny,_,g,.inl rfl⟩
 case lst a xs n l' hz ny g q=>
  cases e;have KY:a≠s.heap.objs.size:=bD (aY g);refine adX ⟨_,g,rfl,_,rfl⟩ (hQ _ _ (EM _ _ _ rfl (IT.ofWalks (xs:=xs) (l:=l) (fl:=[s.heap.objs.size,a]) (wr:=[s.heap.objs.size]) (P:=λi v=>xs.toArray[i]? =B' v) (St:=λi h=>h.IsListIter s.heap.objs.size a i/\h.IsList a xs.toArray) (by simp) q.length ?_ (λA hh=>?_) (λi v h=>by simpa using h)) (⟨⟨?_,?_⟩,?_⟩) (Al.push s _) (aap _) (⟨_,aF _ rfl,aaq rfl (by decide)⟩) (λb hb=>?_)))
  .rintro i h ⟨⟨o,ho,hc,_⟩,_⟩;exact⟨o,ho,aaq hc (by decide)⟩
  .have:=Walks.list (prog:=W.prog) (w:=W.w) (A:=A) hh s.heap.objs.size a KY xs.toArray;replace this:=ay▸this;exact this
  .exact(lU _ (aF _ rfl) rfl rfl)
  .exact⟨_,aB _ g,rfl,_,rfl⟩
  .exact q.keep λb o O O e=>aB _ e
  .simp at hb;rcases hb with rfl|rfl
   .exact .inl rfl
   .exact .inr ⟨ny,_,g,.inr (.inl rfl)⟩
theorem r8{n:Int}{l:List V}(e:kT n=B' l):0<=n/\n<=2^20/\l=(List.range n.toNat).map λ(k:Nat)=>V.int k:=by
 unfold kT at e
 refine x02 (aaf e) λh KC=>?_;subst KC
 simp only[aq,bl] at h
 exact⟨h.1,h.2,rfl⟩
theorem xP{n:Int}{t:Tok}{l:List V}(e:kT n=B' l)(hQ:∀it s',Gm W Y l s it s'->Q it s'):qaa W A (call (.type "range") [.int n t]) (λr KA=>qaa W A (aeD r) Q E KA) E s:=by
 refine hide λQz qz=>?_
 refine tJ (r8 e) λh0 hn KC=>?_;subst KC
 have hsz:Builtin.Range.rangeSize 0 n 1=n:=by
  rw[rangeSize_one];split
  .exact Int.sub_zero n
  .rename_i q;exact Int.le_antisymm h0 (Int.not_lt.mp q)
 have hz:∀(h:P')(o:Obj),(h.push o).objs.size=h.objs.size+1:=λh o=>Heap.size_push ..
 refine qz ?_
 refine call_range_1 ?_
 refine wpAny_pyIter_range (IsRange.new ..) (small_one (by decide) (by decide) (P4 h0 rfl) (P5 hn rfl)) (hQ _ _ (EM _ _ _ rfl (IT.abN (fl:=[_]) (wr:=[_]) (P:=λi v=>∃t,v=.int ((0:Int)+i*1) t) (by simp) (by simp) (λi h ho=>⟨_,ho,aaq rfl (by decide)⟩) (λA hh=>Walks.range hh _ 0 1 n.toNat) ?_) ?_ (Al.mk' λb o e=>aB _ (aB _ e)) ?_ (⟨_,aF _ rfl,aaq rfl (by decide)⟩) (λb hb=>.inl (by simpa using hb))))
 .rintro i v u h ⟨t,rfl⟩ e;rw[bZ] at e;refine x12 (aK.mp e) λk hk KC=>?_;subst KC;have:k=i:=by
   have:=aV.mp hk;obtain⟨h1,h2⟩:=this;rw[List.getElem_range] at h2;exact h2.symm
  clear hk e;subst this;rw[Int.zero_add,Int.mul_one];exact .int ..
 .show IsRangeIter _ _ _ _ _;refine sb hsz ?_;have:(((n.toNat:Nat):Int) - ((0:Nat):Int))=n:=Eu h0;refine sb this ?_;exact aF _ rfl
 .exact dg (by show s.heap.objs.size<=(s.heap.push _).objs.size;rw[hz];exact bm _)
end
structure Rm (n:Nat) (A:ada):Prop where
 handled:A.handled=F'
 depth:A.depth+n<adQ
 units:A.units+4*n+50<adD
theorem Rm.u(h:Rm n A):A.units+40<adD:=by have:=h.units;exact IP this
inductive GR (W:Wd) (base:P'):G'->G->Prop
 |val {x:G'} {v:V}:VR W base W.mut x v->GR W base x (.val v)
 |fn (a:M'):GR W base (.ref a) (.fn a)
 |bi (id:String):GR W base (.builtin id) (.bi id)
 |ty (n:String):GR W base (.type n) (.ty n)
section
variable {W:Wd}{base:P'}
theorem VR.abt{v:V}(r:VR W base W.mut x v)(g:kW W base h)(y:fm W base Y h'):VR W h Y x v:=r.change λb o n O e=>⟨λm=>absurd ((y.new b m n).symm.trans e) (λq=>nomatch q),g b o n e⟩
theorem cM.abt{x:List G'}{v:List V}(r:cM W base W.mut x v)(g:kW W base h)(y:fm W base Y h'):cM W h Y x v:=r.change λb o n O e=>⟨λm=>absurd ((y.new b m n).symm.trans e) (λq=>nomatch q),g b o n e⟩
end
structure tV (W:Wd) (base h:P') (a:M') (f:Fn) (o:Obj) (fd:adK):Prop where
 at_:h.get? a=B' o
 data:o.data=.func fd
 scope:fd.scope=f.scope
 body:fd.body=.stmts f.body
 globals:fd.globals=aed
 builtins:fd.builtins=0
 closure:fd.closure=[]
 code:h.CodeRec fd.code fd.qualname
 co:fd.scope.isCoroutine=false
 gen:fd.scope.isGenerator=false
 kind:fd.scope.kind=.function
 bind:∀xs:List G',xs.length<=f.np->f.np - xs.length<=f.dflt.length->∃ds,cM W base W.mut ds (f.dflt.drop (f.dflt.length - (f.np - xs.length)))/\∀s:H',s.heap=h->BindsTo s fd ⟨xs,[]⟩ ((f.slots.take f.np).zip (xs++ds))
structure fK (W:Wd) (B:Bs) (base:P'):Prop where
 wd:jo W
 aa9:∀h,kW W base h->h.NoLimit
 decls:B.lv=2->∀h,kW W base h->∃xs n,h.get? W.aab=B' (eB xs n)/\xs[2]? =B' (.ref W.aax)
 abO:∀h,kW W base h->adf<h.objs.size
 attr:∀{A:ada}{E:G'->H'->Prop}{s:H'}{Q:G'->H'->Prop}{Y:M'->Prop}{v:V}{a:O'}{u:V}{x:G'},A.handled=F'->A.units+40<adD->kW W base s.heap->VR W s.heap Y x v->gF B v a=B' u->(∀y s',Al s s'->VR W s'.heap (λO=>False) y u->Q y s')->V' (ade W.prog W.w) A (getAttr x a true) Q E s
 glb:∀{A:ada}{E:G'->H'->Prop}{s:H'}{Q:G'->H'->Prop}{env:Env}{n:O'}{g:G},env.scope.kind=.function->env.globals=aed->env.builtins=0->(env.kindOf n=B' .globalImplicit\/env.kindOf n=B' .globalExplicit)->B.glb n=B' g->kW W base s.heap->(∀y,GR W base y g->Q y s)->V' (ade W.prog W.w) A (loadName env n) Q E s
 fn:∀a f,B.fn a=B' f->(f.slots.Nodup/\f.np<=f.slots.length/\∀n∈f.slots,(n==cV)=false/\(f.scope.names.lookup n=B' .local\/f.scope.names.lookup n=B' .cell))/\(∀p∈f.scope.names,p.2≠ .free)/\∃o fd,∀h,kW W base h->tV W base h a f o fd
 host:∀m a,B.hostM m=B' a->∀{A:ada}{E:G'->H'->Prop}{s:H'}{Q:G'×List G'->H'->Prop}{pl:Sem Bool},A.handled=F'->kW W base s.heap->(∀s',Al s s'->Q (.ref a,[.ref W.aaC]) s')->V' (ade W.prog W.w) A (aeH (.ref W.aaC) m pl) Q E s
 tab:∀m a,B.tabM m=B' a->∀{A:ada}{E:G'->H'->Prop}{s:H'}{Q:G'×List G'->H'->Prop}{pl:Sem Bool},A.handled=F'->kW W base s.heap->(∀s',Al s s'->Q (.ref a,[.ref W.aas]) s')->V' (ade W.prog W.w) A (aeH (.ref W.aas) m pl) Q E s
noncomputable def f6(W:Wd)(base:P')(Y:M'->Prop)(T:TS)(v:V)(s:H')(x:G')(s':H'):Prop:=VR W s'.heap Y x v/\dl W base T s'.heap/\Ev W s s'
noncomputable def xQ(W:Wd)(base:P')(T:TS)(b:Bool)(s:H')(c:Bool)(s':H'):Prop:=c=b/\dl W base T s'.heap/\Ev W s s'
noncomputable def dX(W:Wd)(base:P')(n:Nat)(ev:Sc->List Sl->TS->Expr->cK):Prop:=∀{A:ada}{E:qab}{s:H'}{sc:Sc}{env:Env}{Y:M'->Prop}{Γ:List Sl}{T:TS}{e:Expr}{v:V}{T':TS},Rm n A->ev sc Γ T e=B' (v,T')->St W base sc env Y Γ T s->qaa W A (Z' e env) (f6 W base Y T' v s) E s
noncomputable def gv(W:Wd)(base:P')(n:Nat)(tst:Sc->List Sl->TS->Expr->Option (Bool×TS)):Prop:=∀{A:ada}{E:qab}{s:H'}{sc:Sc}{env:Env}{Y:M'->Prop}{Γ:List Sl}{T:TS}{e:Expr}{b:Bool}{T':TS},Rm n A->tst sc Γ T e=B' (b,T')->St W base sc env Y Γ T s->qaa W A (aex e env (Z' e env)) (xQ W base T' b s) E s
variable {β:Type}{es args:List Expr}{T₁ T₂:TS}{pos ap:Pos}{ops:List CmpOp}{Φ:zB}{name:O'}
section
variable {W:Wd}{B:Bs}{base:P'}{ev:Sc->List Sl->TS->Expr->cK}{tst:Sc->List Sl->TS->Expr->Option (Bool×TS)}
theorem tW{o:Option α}{f:α->Option β}{b:β}(e:o.bind f=B' b):∃a,o=B' a/\f a=B' b:=Option.bind_eq_some_iff.mp e
theorem aac{α β:Type}{o:Option α}{f:α->Option β}{b:β}{P:Prop}(e:o.bind f=B' b)(k:∀a,o=B' a->f a=B' b->P):P:=(tW e).elim λa h=>k a h.1 h.2
theorem kf{f:TS->Expr->cK}{P:Prop}(h:lV f T (e::es)=B' (vs,T'))(k:kS e=true->∀v T₁ ws,f T e=B' (v,T₁)->lV f T₁ es=B' (ws,T')->vs=v::ws->P):P:=aaU h λhn h=>aac h λp hp h=>aac h λq hq h=>k hn p.1 p.2 q.1 hp (hq.trans (aM (λt=>B' (q.1,t)) (be (ac h)).2)) (be (ac h)).1.symm
theorem mv{f:TS->Expr->cK}(h:lV f T []=B' (vs,T')):vs=[]/\T'=T:=⟨(be (ac h)).1.symm,(be (ac h)).2.symm⟩
theorem dM{W:Wd}{base:P'}{u v:V}(h:B' (u,T)=B' (v,T')):∀x s',VR W s'.heap Y x u->St W base sc env Y Γ T s'->Ev W s s'->f6 W base Y T' v s x s':=by cases h;exact λx s' r st e=>⟨r,st.inv,e⟩
theorem mO{W:Wd}{base:P'}{c:Bool}(h:B' (c,T)=B' (b,T')):∀s',St W base sc env Y Γ T s'->Ev W s s'->xQ W base T' b s c s':=by cases h;exact λs' st e=>⟨rfl,st.inv,e⟩
theorem dX.aah(S:dX W base n ev)(hA:Rm n A){v:V}(h:ev sc Γ T e=B' (v,T₁))(st:St W base sc env Y Γ T s)(k:∀x KA,VR W KA.heap Y x v->St W base sc env Y Γ T₁ KA->Ev W s KA->Q x KA):qaa W A (Z' e env) Q E s:=bb (S hA h st) (λx KA p=>k x KA p.1 (st.ev p.2.2 p.2.1) p.2.2) λO O e=>e
theorem gv.aah(S:gv W base n tst)(hA:Rm n A)(h:tst sc Γ T e=B' (b,T₁))(st:St W base sc env Y Γ T s){Q:Bool->H'->Prop}(k:∀KA,St W base sc env Y Γ T₁ KA->Ev W s KA->Q b KA):qaa W A (aex e env (Z' e env)) Q E s:=bb (S hA h st) (λc KA p=>by refine tJ p λKC p2 p3=>?_;subst KC;exact k KA (st.ev p3 p2) p3) λO O e=>e
theorem eg(S:dX W base n ev)(hA:Rm n A):∀{es:List Expr}{vs:List V}{T T':TS}{s:H'}{Q:List G'->H'->Prop},lV (ev sc Γ) T es=B' (vs,T')->St W base sc env Y Γ T s->(∀xs s',cM W s'.heap Y xs vs->St W base sc env Y Γ T' s'->Ev W s s'->Q xs s')->qaa W A (spliced (backTo pos (starEach es env))) Q E s
 |[],vs,T,T',s,Q,e,st,k=>by cases e;exact adl (k _ _ .nil st (Ev.refl W s))
 |e::es,vs,T,T',s,Q,he,st,k=>by
  simp only[lV] at he;refine aaw (b:=kS e) (λhn=>?_) λhn=>?_
  .rw[hn] at he;exact no he
  .
   rw[hn,cond_true] at he;refine aac he λp hp he=>?_;refine aac he λq hq he=>?_;cases he;refine bQ (S.aah hA hp st λx KA r KD KF=>eg S hA hq KD λxs KB rs KG KL=>k _ _ (.cons (r.keep (KL.kpD st.y.ym)) rs) KG (KF.trans KL)) ?_;revert hn;induction e using Expr.casesOn<;>first|exact nb|(intro hn;first|rfl|(exact nb hn))
theorem wq{c:Const}{k:Nat}{v:V}(e:xx c=B' v)(hQ:∀x s',Al s s'->VR W s'.heap Y x v->Q x s'):qaa W A (Z' (.Constant c k pos) env) Q E s:=by
 revert e;induction c using Const.casesOn<;>first|exact no|intro e
 .obtain rfl:=ac e;exact wpAny_Constant_none (hQ _ _ (Al.refl s) .none)
 .obtain rfl:=ac e;exact wpAny_Constant_bool (hQ _ _ (Al.refl s) (.bool _))
 .obtain rfl:=ac e;exact wpAny_Constant_int (hQ _ _ (Al.tok s _) (.int ..))
 .obtain⟨h,rfl⟩:=aaf e;exact wpAny_Constant_str (hQ _ _ (Al.tok s _) (.str _ _ (aS h)))
theorem xR(Z:fK W B base){x:O'}{v:V}(st:St W base sc env Y Γ T s)(e:xw B sc Γ x=B' v)(hQ:∀y,VR W s.heap Y y v->Q y s):qaa W A (Z' (.Name x pos) env) Q E s:=by
 unfold xw at e
 cases h0:x==cV||x==f4 with
 |true=>replace e:=h0▸e;exact no e
 |false=>
  rw[h0,cond_false] at e;simp only[Bool.or_eq_false_iff] at h0;refine bO ?_ h0.1;cases h1:cZ sc x with
  |true=>
   rw[h1,cond_true] at e;refine aac e λi hi e=>?_;refine aac e λsl hs e=>?_;induction sl using Sl.casesOn<;>try (first|exact no e|(cases e;done))
   cases e;refine x12 (st.er.var x i v h0.1 h1 hi hs) λy p q=>?_;exact cD st.er.kind p (hQ y q) h0.2
  |false=>
   rw[h1,cond_false] at e;clear h0 h1;cases h2:fw sc x with
   |false=>rw[h2] at e;exact no e
   |true=>
    rw[h2,cond_true] at e;refine aac e λg hg e=>?_;induction g using G.casesOn<;>try (first|exact no e|(cases e;done))
    cases e;refine Z.glb st.er.kind st.er.globals st.er.builtins (st.er.gk x h2) hg st.inv.good λy r=>?_;cases r with|val r=>exact hQ y (r.abt st.inv.good st.y)
theorem jb{v:V}{Q:Bool->H'->Prop}(st:St W base sc env Y Γ T s)(r:VR W s.heap Y x v)(e:cw v=B' b)(hQ:∀s',St W base sc env Y Γ T s'->Al s s'->Q b s'):qaa W A (truthy x) Q E s:=xL r e λs' al=>hQ s' (st.al al) al
theorem u7(S:dX W base n ev)(hA:Rm n A):∀{es:List Expr}{v:V}{T T':TS}{s:H'}{Q:qab},zM (ev sc Γ) T es=B' (v,T')->St W base sc env Y Γ T s->(∀x s',VR W s'.heap Y x v->St W base sc env Y Γ T' s'->Ev W s s'->Q x s')->qaa W A (Z' (.BoolOp .And es pos) env) Q E s
 |[],v,T,T',s,Q,e,st,k=>by exact no e
 |[e],v,T,T',s,Q,he,st,k=>BoolOp_one (S.aah hA he st k)
 |e::e'::es,v,T,T',s,Q,he,st,k=>by
  change (C' (ev sc Γ T e) λp=>C' (cw p.1) λb=>bif b then zM (ev sc Γ) p.2 (e'::es) else B' p)=B' (v,T') at he;refine aac he λp hp he=>?_;refine aac he λb hb he=>?_;refine BoolOp_and (S.aah hA hp st λx KA r KD KF=>jb KD r hb λKB KG al=>?_);clear hp hb KD;induction b using Bool.casesOn with
  |true=>exact u7 S hA he KG λy KH Lh KP LJ=>k y KH Lh KP (KF.trans (al.ev.trans LJ))
  |false=>obtain rfl:=ac he;exact k x KB (r.keep al.kpD) KG (KF.trans al.ev)
theorem xS(S:dX W base n ev)(hA:Rm n A):∀{es:List Expr}{v:V}{T T':TS}{s:H'}{Q:qab},Gj (ev sc Γ) T es=B' (v,T')->St W base sc env Y Γ T s->(∀x s',VR W s'.heap Y x v->St W base sc env Y Γ T' s'->Ev W s s'->Q x s')->qaa W A (Z' (.BoolOp .Or es pos) env) Q E s
 |[],v,T,T',s,Q,e,st,k=>by exact no e
 |[e],v,T,T',s,Q,he,st,k=>BoolOp_one (S.aah hA he st k)
 |e::e'::es,v,T,T',s,Q,he,st,k=>by
  change (C' (ev sc Γ T e) λp=>C' (cw p.1) λb=>bif b then B' p else Gj (ev sc Γ) p.2 (e'::es))=B' (v,T') at he;refine aac he λp hp he=>?_;refine aac he λb hb he=>?_;refine BoolOp_or (S.aah hA hp st λx KA r KD KF=>jb KD r hb λKB KG al=>?_);clear hp hb KD;induction b using Bool.casesOn with
  |false=>exact xS S hA he KG λy KH Lh KP LJ=>k y KH Lh KP (KF.trans (al.ev.trans LJ))
  |true=>obtain rfl:=ac he;exact k x KB (r.keep al.kpD) KG (KF.trans al.ev)
theorem r9(S:gv W base n tst)(hA:Rm n A):∀{es:List Expr}{b:Bool}{T T':TS}{s:H'}{Q:Bool->H'->Prop},ql (tst sc Γ) T es=B' (b,T')->St W base sc env Y Γ T s->(∀s',St W base sc env Y Γ T' s'->Ev W s s'->Q b s')->qaa W A (allTrue .And es env) Q E s
 |[],b,T,T',s,Q,e,st,k=>by cases e;exact wpAny_allTrue_And_nil (k _ st (Ev.refl W s))
 |e::es,b,T,T',s,Q,he,st,k=>by
  change (C' (tst sc Γ T e) λp=>bif p.1 then ql (tst sc Γ) p.2 es else B' (false,p.2))=B' (b,T') at he;refine aac he λp hp he=>?_;refine wpAny_allTrue_And_cons (S.aah hA (b:=p.1) (T₁:=p.2) hp st λKA KD KF=>?_);cases h:p.1 with
  |true=>rw[h] at he;exact r9 S hA he KD λKB KG KL=>k KB KG (KF.trans KL)
  |false=>replace he:=h▸he;cases he;exact k KA KD KF
theorem u8(S:gv W base n tst)(hA:Rm n A):∀{es:List Expr}{b:Bool}{T T':TS}{s:H'}{Q:Bool->H'->Prop},Gk (tst sc Γ) T es=B' (b,T')->St W base sc env Y Γ T s->(∀s',St W base sc env Y Γ T' s'->Ev W s s'->Q b s')->qaa W A (allTrue .Or es env) Q E s
 |[],b,T,T',s,Q,e,st,k=>by cases e;exact wpAny_allTrue_Or_nil (k _ st (Ev.refl W s))
 |e::es,b,T,T',s,Q,he,st,k=>by
  change (C' (tst sc Γ T e) λp=>bif p.1 then B' (true,p.2) else Gk (tst sc Γ) p.2 es)=B' (b,T') at he;refine aac he λp hp he=>?_;refine wpAny_allTrue_Or_cons (S.aah hA (b:=p.1) (T₁:=p.2) hp st λKA KD KF=>?_);cases h:p.1 with
  |false=>rw[h] at he;exact u8 S hA he KD λKB KG KL=>k KB KG (KF.trans KL)
  |true=>replace he:=h▸he;cases he;exact k KA KD KF
theorem aba{f:TS->Expr->cK}{a:V}{op:CmpOp}{G:Prop}(h:jO f a T (op::ops) es=B' (b,T'))(k1:∀e p,ops=[]->es=[e]->f T e=B' p->cu p.2 op a p.1=B' b->T'=p.2->G)(k2:∀Qk PT e e' UF p c,ops=Qk::PT->es=e::e'::UF->f T e=B' p->cu p.2 op a p.1=B' c->(bif c then jO f p.1 p.2 (Qk::PT) (e'::UF) else B' (false,p.2))=B' (b,T')->G):G:=by
 rcases es with _|⟨e,es⟩
 .clear k1 k2;rcases ops with _|⟨Qk,ops⟩<;>exact no h
 rcases ops with _|⟨Qk,ops⟩
 .clear k2;rcases es with _|⟨e',es⟩
  .exact aac h λp hp h=>aac h λc hc h=>k1 e p rfl rfl hp (hc.trans (aM B' (be (ac h)).1)) (be (ac h)).2.symm
  .exact no h
 .clear k1;rcases es with _|⟨e',es⟩
  .exact no h
  .exact aac h λp hp h=>aac h λc hc h=>k2 Qk ops e e' es p c rfl rfl hp hc h
theorem wt(Z:fK W B base)(S:dX W base n ev)(hA:Rm n A):∀{es:List Expr}{a:V}{x:G'}{b:Bool}{T T':TS}{s:H'}{Q:qab},jO (ev sc Γ) a T ops es=B' (b,T')->St W base sc env Y Γ T s->VR W s.heap Y x a->(∀s',St W base sc env Y Γ T' s'->Ev W s s'->Q (.bool b) s')->qaa W A (compareChain pos x ops (evalEach es env)) Q E s:=by
 induction ops with
 |nil=>exact λhe=>no he
 |cons op ops ih=>
  intro es a x b T T' s Q he st r k;refine aba he (λe p e1 e2 hp hc e3=>?_) λQk PT e e' UF p c e1 e2 hp hc h1=>?_
  .clear he;clear ih;subst e1 e2 e3;exact chain_last (S.aah hA hp st λy KA q KD KF=>qs hA.u Z.wd KD.inv (r.keep (KF.kpD st.y.ym)) q hc λKB al=>k KB (KD.al al) (KF.trans al.ev))
  .clear he;subst e1 e2;refine chain_link (S.aah hA hp st λy KA q KD KF=>qs hA.u Z.wd KD.inv (r.keep (KF.kpD st.y.ym)) q hc λKB al=>adx ?_);induction c using Bool.casesOn with
   |true=>exact ih h1 (KD.al al) (q.keep al.kpD) λKH KP LJ=>k KH KP (KF.trans (al.ev.trans LJ))
   |false=>
    obtain⟨rfl,rfl⟩:=be (ac h1);exact k KB (KD.al al) (KF.trans al.ev)
theorem xT(Z:fK W B base)(S:dX W base n ev)(hA:Rm n A):∀{es:List Expr}{a:V}{x:G'}{b:Bool}{T T':TS}{s:H'}{Q:Bool->H'->Prop},jO (ev sc Γ) a T ops es=B' (b,T')->St W base sc env Y Γ T s->VR W s.heap Y x a->(∀s',St W base sc env Y Γ T' s'->Ev W s s'->Q b s')->qaa W A (testChain pos x ops (evalEach es env)) Q E s:=by
 induction ops with
 |nil=>exact λhe=>no he
 |cons op ops ih=>
  intro es a x b T T' s Q he st r k;refine aba he (λe p e1 e2 hp hc e3=>?_) λQk PT e e' UF p c e1 e2 hp hc h1=>?_
  .clear he;clear ih;subst e1 e2 e3;exact test_last (S.aah hA hp st λy KA q KD KF=>qs hA.u Z.wd KD.inv (r.keep (KF.kpD st.y.ym)) q hc λKB al=>adx (k KB (KD.al al) (KF.trans al.ev)))
  .clear he;subst e1 e2;refine test_link (S.aah hA hp st λy KA q KD KF=>qs hA.u Z.wd KD.inv (r.keep (KF.kpD st.y.ym)) q hc λKB al=>adx ?_);induction c using Bool.casesOn with
   |true=>exact ih h1 (KD.al al) (q.keep al.kpD) λKH KP LJ=>k KH KP (KF.trans (al.ev.trans LJ))
   |false=>
    obtain⟨rfl,rfl⟩:=be (ac h1);exact k KB (KD.al al) (KF.trans al.ev)
theorem iH(h:aet ops es=false):markedEach ops es (evalEach es env)=evalEach es env:=markedEach_of_false _ _ _ h
noncomputable def Gn:Option V->Bool
 |none=>true
 |some v=>v.flat
theorem J6{x y:Option V}(hx:Gn x=true)(hy:Gn y=true):Gn (bif b then x else y)=true:=by induction b using Bool.casesOn<;>assumption
theorem xU(Z:fK W B base)(S:dX W base n ev)(hA:Rm n A){o:Expr}{a:O'}{v u:V}(hb:hW o=true)(h:ev sc Γ T o=B' (v,T₁))(e:gF B v a=B' u)(st:St W base sc env Y Γ T s)(k:∀x s',VR W s'.heap Y x u->St W base sc env Y Γ T₁ s'->Ev W s s'->Q x s'):qaa W A (Z' (.Attribute o a pos) env) Q E s:=by
 have hu:u.flat=true:=by
  have:Gn (gF B v a)=true:=by
   clear h e;induction v using V.casesOn<;>first|exact rfl|(unfold gF;repeat (first|exact rfl|refine J6 ?_ ?_))
  rw[e] at this;exact this
 refine Attribute_any_ (S.aah hA h st λx KA r KD KF=>Z.attr hA.handled hA.u KD.inv.good r e λy KB al q=>k y KB (q.abM hu (KD.al al).y) (KD.al al) (KF.trans al.ev)) ?_
 rw[arm_eval_Attribute]
 have e1:aev o a env (Z' o env)=Z' o env:=by induction o using Expr.casesOn<;>first|rfl|exact nb hb
 rw[e1]
theorem xV(Z:fK W B base)(S:dX W base n ev)(hA:Rm n A){o i:Expr}{v u z:V}(h:ev sc Γ T o=B' (v,T₁))(h':ev sc Γ T₁ i=B' (u,T₂))(e:cv B.lv T₂ v u=B' z)(st:St W base sc env Y Γ T s)(k:∀x s',VR W s'.heap Y x z->St W base sc env Y Γ T₂ s'->Ev W s s'->Q x s'):qaa W A (Z' (.Subscript o i pos) env) Q E s:=Subscript_ (S.aah hA h st λx KA r KD KF=>S.aah hA h' KD λy KB q KG KL=>
  z6 (λhl=>Z.decls hl _ KG.inv.good) hA.u Z.wd KG.inv KG.y (r.keep (KL.kpD st.y.ym)) q e λw KH al p=>k w KH p (KG.al al) (KF.trans (KL.trans al.ev)))
theorem z8(S:dX W base n ev)(hA:Rm n A){a b:Expr}{v u z:V}(h:ev sc Γ T a=B' (v,T₁))(h':ev sc Γ T₁ b=B' (u,T₂))(e:cI op v u=B' z)(st:St W base sc env Y Γ T s)(k:∀x s',VR W s'.heap Y x z->St W base sc env Y Γ T₂ s'->Ev W s s'->Q x s'):qaa W A (Z' (.BinOp a op b pos) env) Q E s:=wpAny_BinOp (S.aah hA h st λx KA r KD KF=>S.aah hA h' KD λy KB q KG KL=>
  CO KG.y (r.keep (KL.kpD st.y.ym)) q e λw KH al p=>k w KH p (KG.al al) (KF.trans (KL.trans al.ev)))
theorem z9(S:dX W base n ev)(hA:Rm n A){kk:Nat}(h:lV (ev sc Γ) T es=B' (vs,T₁))(hz:vs.length<=sizeLine)(st:St W base sc env Y Γ T s)(k:∀x s',VR W s'.heap Y x (.tup vs)->St W base sc env Y Γ T₁ s'->Ev W s s'->Q x s'):qaa W A (Z' (.Tuple es kk pos) env) Q E s:=wpAny_Tuple (eg S hA h st λxs KA rs KD KF=>⟨by rw[rs.length];exact hz,k _ _ (VR.abr hz KD.y rs) (KD.al (Al.push KA _)) (KF.trans (Al.push KA _).ev)⟩)
theorem Aa(S:dX W base n ev)(hA:Rm n A)(h:lV (ev sc Γ) T es=B' (vs,T₁))(hz:vs.length<=sizeLine)(st:St W base sc env Y Γ T s)(k:∀x s',VR W s'.heap Y x (.lst vs)->St W base sc env Y Γ T₁ s'->Ev W s s'->Q x s'):qaa W A (Z' (.List es pos) env) Q E s:=wpAny_List (eg S hA h st λxs KA rs KD KF=>⟨by rw[rs.length];exact hz,k _ _ (VR.abh hz KD.y rs) (KD.al (Al.push KA _)) (KF.trans (Al.push KA _).ev)⟩)
noncomputable def jB(W:Wd)(base:P')(n:Nat)(Φ:zB):Prop:=∀{A:ada}{s:H'}{Y:M'->Prop}{a:M'}{vs:List V}{xs:List G'}{T T':TS}{v:V},Rm n A->Φ a vs T=B' (v,T')->dl W base T s.heap->fm W base Y s.heap->cM W s.heap Y xs vs->aes (ade W.prog W.w) A (.call (.ref a) ⟨xs,[]⟩) (λr s'=>∃x,r=.ok (.ret x)/\f6 W base Y T' v s x s') s
theorem jB.call(P:jB W base n Φ)(hA:Rm n A){v:V}(h:Φ a vs T=B' (v,T'))(st:St W base sc env Y Γ T s)(r:cM W s.heap Y xs vs)(k:∀x s',VR W s'.heap Y x v->St W base sc env Y Γ T' s'->Ev W s s'->Q x s'):qaa W A (PySem.call (.ref a) xs []) Q E s:=aec (codeAny_mono (P hA h st.inv st.y r) λZt s' hr=>by refine BD hr λx KC p1 p2 p3=>?_;subst KC;exact k x s' p1 (st.ev p3 p2) p3)
theorem ik{f:TS->Expr->cK}:∀{T T':TS}{vs:List V},lV f T es=B' (vs,T')->∀e∈es,kS e=true:=by
 induction es with
 |nil=>exact λO e m=>nomatch m
 |cons x es ih=>exact λh e m=>kf h λhn O O O O h O=>(aD.mp m).elim (λq=>q▸hn) (ih h e)
theorem aaJ:∀{es:List Expr},(∀e∈es,kS e=true)->∀t∈backTo pos (starEach es env),t.1=false
 |[],_,t,m=>by cases m
 |e::es,h,t,m=>by
  have he:starEach (e::es) env=(false,Z' e env)::starEach es env:=by
   have:=h e (af ..);revert this;induction e using Expr.casesOn<;>first|exact nb|(intro this;first|rfl|(exact nb this))
  replace m:=he▸m;rcases aD.mp m with rfl|m
  .rfl
  .exact aaJ (λx hx=>h x (ag _ hx)) t m
theorem pg{x:Bool×Sem G'}(h:x.1=false):∀t∈[x],t.1=false:=λO m=>am.mp m▸h
theorem f8{f:G'}{NN:List (Bool×Sem G')}{Q:Args->H'->Prop}(hp:∀t∈NN,t.1=false)(h:qaa W A (spliced NN) (λvs s'=>Q ⟨vs,[]⟩ s') E s):qaa W A (evalArgs f true NN []) Q E s:=by
 induction NN using List.casesOn with
 |nil=>
  unfold evalArgs;show V' _ A (spliced []>>= _) Q E s;refine ah (bb h (λvs s' h'=>?_) λO O x=>x);refine ah (av ?_);refine adu ?_;exact ah (av (ah (av (av (by simpa using h')))))
 |cons t r=>
  obtain⟨b,t⟩:=t;obtain rfl:b=false:=hp _ (af ..);exact evalArgs_plain h
theorem fQ(S:dX W base n ev)(hA:Rm n A){f:G'}{Q:Args->H'->Prop}(h:lV (ev sc Γ) T es=B' (vs,T'))(st:St W base sc env Y Γ T s)(k:∀xs s',cM W s'.heap Y xs vs->St W base sc env Y Γ T' s'->Ev W s s'->Q ⟨xs,[]⟩ s'):qaa W A (evalArgs f true (backTo pos (starEach es env)) []) Q E s:=f8 (aaJ (ik h)) (eg S hA h st k)
theorem gH(h:∀e∈es,kS e=true):(backTo pos (starEach es env)).any (·.1)=false:=by
 rw[cp]
 intro t m
 rw[aaJ h t m];simp
theorem f9(Z:fK W B base){f:O'}{p:Pos}{g:G}(st:St W base sc env Y Γ T s)(h:gq B sc f=B' g)(k:∀y,GR W base y g->Q y s):qaa W A (Z' (.Name f p) env) Q E s:=by
 unfold gq at h
 refine aaw (b:=f==cV) (λh0=>?_) λh0=>?_;rotate_left
 .rw[h0] at h;exact no h
 .
  rw[h0,cond_false] at h;refine aaw (b:=fw sc f) (λh1=>?_) λh1=>?_
  .rw[h1] at h;exact no h
  .
   rw[h1,cond_true] at h;exact bO (Z.glb st.er.kind st.er.globals st.er.builtins (st.er.gk f h1) h st.inv.good k) h0
theorem Ab(Z:fK W B base)(S:dX W base n ev)(P:jB W base n Φ)(N3:∀a vs T r,Φ a vs T=B' r->∃f,B.fn a=B' f)(hA:Rm n A){f:O'}{p:Pos}{v:V}(hg:gq B sc f=B' (.fn a))(h:lV (ev sc Γ) T es=B' (vs,T₁))(e:Φ a vs T₁=B' (v,T'))(st:St W base sc env Y Γ T s)(k:∀x s',VR W s'.heap Y x v->St W base sc env Y Γ T' s'->Ev W s s'->Q x s'):qaa W A (Z' (.Call (.Name f p) es [] pos) env) Q E s:=by
 refine x11 (N3 _ _ _ _ e) λfn hf=>?_
 refine bE (f9 Z st hg λy r=>?_)
 cases r
 refine d6 ((Z.fn a fn hf).2.2) λo fd F=>?_
 refine adW (o:=o) (fd:=fd) (fQ S hA h st λxs KA rs KD KF=>?_)
 have N7:=F _ KD.inv.good
 refine⟨⟨N7.at_,N7.data⟩,?_⟩
 exact P.call hA e KD rs λx KB r KG KL=>k x KB r KG (KF.trans KL)
theorem kX{o:Expr}{Rk:Pos}(hb:hW o=true)(hp:∀e∈args,kS e=true)(KO:args.length<30)(Nc:(Rk.endLine==pos.line)=true)(h:qaa W A (Z' o env) (λov KA=>∀pl,qaa W A (aeH ov name pl) (λr KB=>qaa W A (callWith pos r.1 r.2 (backTo pos (starEach args env)) []) Q E KB) E KA) E s):qaa W A (Z' (.Call (.Attribute o name Rk) args [] pos) env) Q E s:=by
 have Lu:aev o name env (Z' o env)=Z' o env:=by clear h;induction o using Expr.casesOn<;>first|rfl|exact nb hb
 rw[arm_eval_Call,Lu]
 refine ah (bb h (λov KA h₁=>?_) λO O e=>e)
 refine ah (adZ ?_)
 have SS:methodCallForm (args.length+([]:List Keyword).length) (backTo pos (starEach args env)) (backToKw pos (aek [] env))=true:=by
  unfold methodCallForm;simp only[aq,bl,aE];exact⟨⟨λt m=>by rw[aaJ hp t m];rfl,λt m=>by cases m⟩,by have e0:backToKw pos (aek [] env)=[]:=rfl;refine sb e0 ?_;simpa using KO⟩
 have Nn:methodCallPos true o env Rk pos=pure pos:=by unfold methodCallPos;simp [Nc]
 unfold methodCall calleeOf
 refine sb SS ?_
 refine ah (adu (bb (h₁ _) (λr KB h₂=>?_) λO O e=>e))
 refine sb Nn ?_
 exact ah (av h₂)
theorem sa(Z:fK W B base)(S:dX W base n ev)(P:jB W base n Φ)(N3:∀a vs T r,Φ a vs T=B' r->∃f,B.fn a=B' f)(hA:Rm n A){o:Expr}{m:O'}{u v:V}(hu:(u=.host/\B.hostM m=B' a)\/(u=.tab/\B.tabM m=B' a))(hb:hW o=true)(KO:es.length<30)(Nc:(ap.endLine==pos.line)=true)(ho:ev sc Γ T o=B' (u,T₁))(h:lV (ev sc Γ) T₁ es=B' (vs,T₂))(e:Φ a (u::vs) T₂=B' (v,T'))(st:St W base sc env Y Γ T s)(k:∀x s',VR W s'.heap Y x v->St W base sc env Y Γ T' s'->Ev W s s'->Q x s'):qaa W A (Z' (.Call (.Attribute o m ap) es [] pos) env) Q E s:=by
 refine hide λQz qz=>?_
 refine x11 (N3 _ _ _ _ e) λfn hf=>?_
 refine d6 ((Z.fn a fn hf).2.2) λoo fd F=>?_
 refine qz ?_
 refine kX hb (ik h) KO Nc (S.aah hA ho st λx KA r KD KF pl=>?_)
 have tail:∀(b:M') KB,x=.ref b->Al KA KB->qaa W A (callWith pos (.ref a) [.ref b] (backTo pos (starEach es env)) []) Q E KB:=λb KB hx al=>by
  subst hx;refine adW (o:=oo) (fd:=fd) (fQ S hA h (KD.al al) λxs KH rs KP LJ=>?_);have TY:=F _ KP.inv.good;refine⟨⟨TY.at_,TY.data⟩,?_⟩;exact P.call hA e KP (.cons ((r.keep al.kpD).keep (LJ.kpD st.y.ym)) rs) λx KR r S7 Ob=>k x KR r S7 (KF.trans (al.ev.trans (LJ.trans Ob)))
 clear ho e;rcases hu with⟨rfl,hm⟩|⟨rfl,hm⟩
 .obtain rfl:=VR.view r;exact Z.host m a hm hA.handled KD.inv.good λKB al=>tail _ KB rfl al
 .obtain rfl:=VR.view r;exact Z.tab m a hm hA.handled KD.inv.good λKB al=>tail _ KB rfl al
theorem CR(Z:fK W B base)(S:dX W base n ev)(hA:Rm n A){f:O'}{p:Pos}{id:String}{v:V}(hg:gq B sc f=B' (.bi id))(h:lV (ev sc Γ) T es=B' (vs,T₁))(e:fZ id vs T₁=B' v)(st:St W base sc env Y Γ T s)(k:∀x s',VR W s'.heap Y x v->St W base sc env Y Γ T₁ s'->Ev W s s'->Q x s'):qaa W A (Z' (.Call (.Name f p) es [] pos) env) Q E s:=by
 refine bE (f9 Z st hg λy r=>?_)
 cases r
 exact ce (gH (ik h)) (fQ S hA h st λxs KA rs KD KF=>E8 hA.handled KD.inv KD.y rs e λy KB al r=>k y KB r (KD.al al) (KF.trans al.ev))
theorem CS(Z:fK W B base)(S:dX W base n ev)(hA:Rm n A){f:O'}{p:Pos}{id:String}{v:V}(hg:gq B sc f=B' (.ty id))(h:lV (ev sc Γ) T es=B' (vs,T₁))(e:rO id vs=B' v)(st:St W base sc env Y Γ T s)(k:∀x s',VR W s'.heap Y x v->St W base sc env Y Γ T₁ s'->Ev W s s'->Q x s'):qaa W A (Z' (.Call (.Name f p) es [] pos) env) Q E s:=by
 refine bE (f9 Z st hg λy r=>?_)
 cases r
 exact PyProof.Rows.callWith_type (gH (ik h)) (fQ S hA h st λxs KA rs KD KF=>E7 KD.y rs e λy KB al r=>k y KB r (KD.al al) (KF.trans al.ev))
end
variable {Lm:TS}{ks:List (Option Expr)}{D:M'}{tk:Nat}
section
variable {W:Wd}{B:Bs}{base:P'}{ev:Sc->List Sl->TS->Expr->cK}{tst:Sc->List Sl->TS->Expr->Option (Bool×TS)}
theorem dl.aaz(i:dl W base T h){b:M'}(m:W.mut b):h.get? b≠F':=by
 refine x12 (i.aat m) λo e _=>?_;refine sb e ?_;simp
theorem St.hide(st:St W base sc env Y Γ T s){o:Obj}(ho:NT o)(hf:o.isFreed=false):St W base sc env (λb=>Y b\/b=s.heap.objs.size) Γ T {s with heap:=s.heap.push o}:=by
 have al:Al s {s with heap:=s.heap.push o}:=Al.push s o
 refine⟨st.inv.al al,⟨λb m=>.inl (st.y.ym b m),?_,?_⟩,?_⟩
 .rintro b (y|rfl)
  .refine x12 (st.y.there b y) λo' e c=>?_;exact⟨o',al.keep _ _ e,c⟩
  .exact⟨o,aF _ hf,ho⟩
 .rintro b (y|rfl) m
  .exact st.y.new b y m
  .cases e:base.get? s.heap.objs.size with
   |none=>rfl
   |some o'=>have:=st.inv.good _ _ m e;rw[aap] at this;exact no this
 .have er:=st.er;refine⟨er.kind,er.globals,er.builtins,er.gk,λx i v hd a b c=>?_,er.loc,er.cel,⟨let ⟨o,a⟩:=er.li.loc;⟨o,al.keep _ _ a⟩,λn c hc=>let ⟨o,a⟩:=er.li.cel n c hc;⟨o,al.keep _ _ a⟩⟩,er.fnk⟩;refine x12 (er.var x i v hd a b c) λu p q=>?_;refine⟨u,p.keeps (λo e=>al.keep _ _ e) (λ_ _ o _ e=>al.keep _ _ e),q.change λb o hn _ e=>⟨?_,al.keep _ _ e⟩⟩;rintro (y|rfl)
  .exact hn y
  .rw[aap] at e;exact no e
theorem se(h:kS e=true):backTo pos (starEach (e::es) env)=(false,Z' e env)::backTo pos (starEach es env):=by
 revert h;induction e using Expr.casesOn<;>first|exact nb|(intro h;first|rfl|(exact nb h))
theorem GW{B:Bs}{u:V}{r:V×TS}(hu:u≠ .host/\u≠ .tab)(e:jz B Φ u jn vs T=B' r):vs.length=2:=by
 induction vs using List.casesOn with
 |nil=>revert e;induction u using V.casesOn<;>first|exact no|(intro e;first|exact no e|exact absurd rfl hu.1|exact absurd rfl hu.2)
 |cons a vs=>induction vs using List.casesOn with
  |nil=>revert e;induction u using V.casesOn<;>first|exact no|(intro e;first|exact no e|exact absurd rfl hu.1|exact absurd rfl hu.2|(induction a using V.casesOn<;>exact no e))
  |cons b vs=>induction vs using List.casesOn with
   |nil=>rfl
   |cons c vs=>revert e;induction u using V.casesOn<;>first|exact no|(intro e;first|exact no e|exact absurd rfl hu.1|exact absurd rfl hu.2|(induction a using V.casesOn<;>exact no e))
theorem CT{α:Type}{c:Bool}{o:Option α}{b:α}(e:(bif c then o else F')=B' b):o=B' b:=aaU e λ_ e=>e
theorem GX{f:TS->Expr->cK}{P:Prop}(h:lV f T es=B' (vs,T'))(hl:vs.length=2)(k:∀e1 e2 v1 v2 T₁,es=[e1,e2]->vs=[v1,v2]->kS e1=true->kS e2=true->f T e1=B' (v1,T₁)->f T₁ e2=B' (v2,T')->P):P:=by
 rcases es with _|⟨e1,es⟩
 .replace hl:=((mv h).1)▸hl;cases hl
 refine kf h λn1 v1 T₁ ws h1 h q=>?_
 rcases es with _|⟨e2,es⟩
 ·(replace hl:=q▸hl;replace hl:=((mv h).1)▸hl);cases hl
 refine kf h λn2 v2 T₂ ws2 h2 h q2=>?_
 rcases es with _|⟨e3,es⟩
 .exact k e1 e2 v1 v2 T₁ rfl (by rw[q,q2,(mv h).1]) n1 n2 h1 ((mv h).2▸h2)
 .refine kf h λ_ v3 Lm ws3 _ _ q3=>?_;(replace hl:=q▸hl;replace hl:=q2▸hl;replace hl:=q3▸hl);cases hl
set_option tactic.hygienic true in
theorem Ac(Z:fK W B base)(S:dX W base n ev)(hA:Rm n A){o:Expr}{u v:V}(hb:hW o=true)(KO:es.length<30)(Nc:(ap.endLine==pos.line)=true)(ho:ev sc Γ T o=B' (u,T₁))(h:lV (ev sc Γ) T₁ es=B' (vs,T₂))(hu:u≠ .host/\u≠ .tab)(e:jz B Φ u jn vs T₂=B' (v,T'))(st:St W base sc env Y Γ T s)(k:∀x s',VR W s'.heap Y x v->St W base sc env Y Γ T' s'->Ev W s s'->Q x s'):qaa W A (Z' (.Call (.Attribute o jn ap) es [] pos) env) Q E s:=by
 refine GX h (GW hu e) λe1 e2 v1 v2 Lm q1 q2 n1 n2 h1 h2=>?_
 clear h;subst q1 q2
 have PJ:backTo pos (starEach [e1,e2] env)=[(false,Z' e1 env),(false,Z' e2 env)]:=by(refine sb (se n1) ?_;refine sb (se n2) ?_);rfl
 have Vp:((backTo pos (starEach [e1,e2] env)).all (λx=>!x.1)&&(backToKw pos (aek [] env)).all (λx=>x.1.isSome)&&decide (([e1,e2]:List Expr).length+([]:List Keyword).length+(if([]:List Keyword).isEmpty then 0 else 1)<30))=true:=by refine sb PJ ?_;rfl
 have Lu:aev o jn env (Z' o env)=Z' o env:=by revert hb;induction o using Expr.casesOn<;>first|exact nb|(intro hb;first|rfl|exact nb hb)
 refine adF Lu Vp Nc F.plainAttrs_dict F.slot_dict_get F.type_dict_get (S.aah hA ho st λx KA r KD Mx=>?_)
 refine sb PJ ?_
 have rv:=r.view
 clear r
 revert e;induction u using V.casesOn<;>first|exact no|intro e
 case tab=>exact absurd rfl hu.2
 case host=>exact absurd rfl hu.1
 case di l=>
  refine x26 rv λa es KC z sy ny g q=>?_;subst KC;replace e:=CT (c:=jn==jn) e;refine⟨g.typeIs,g.mapOf.noDict,?_⟩;revert e;induction v1 using V.casesOn<;>first|exact no|intro e
  case int j=>
   cases e;refine aee (knd:=adA W.prog W.w) sy (S.aah hA h1 KD λy KB Mo KG LA=>S.aah hA h2 KG λw KH Lh KP Ls=>?_);have Rg:=(LA.trans Ls).kpD st.y.ym;have g3:=fe g λo d=>Rg a o ny d;have q3:=q.keep Rg;refine x11 Mo.view λ_ KC=>?_;subst KC;refine(gE j _ eF g3.mapOf ?_);have al:=Al.tok KH (KH.toks+1);rcases q3.find j with⟨a1,a2⟩|⟨y,u,a1,a2,a3⟩
   .refine sb a1 ?_;replace k:=a2▸k;exact k _ _ Lh (KP.al al) (Mx.trans (LA.trans (Ls.trans al.ev)))
   .refine sb a1 ?_;replace k:=a2▸k;exact k _ _ a3 (KP.al al) (Mx.trans (LA.trans (Ls.trans al.ev)))
  case str j=>
   change (bif l.isEmpty then B' (v2,T₂) else F')=B' (v,T') at e;refine x02 (aaf e) λe0 e=>?_;cases e;clear ho hu z e;obtain rfl:l=[]:=by simpa using e0
   cases q;refine aee (knd:=PySem.strKind W.prog W.w) sy (S.aah hA h1 KD λy KB Mo KG LA=>S.aah hA h2 KG λw KH Lh KP Ls=>?_);have Rg:=(LA.trans Ls).kpD st.y.ym;have g3:=fe g λo d=>Rg a o ny d;refine x12 Mo.view λ_ KC _=>?_;subst KC;have al:=Al.tok KH (KH.toks+1);exact(gE j _ dF ((ii (knd':=PySem.strKind W.prog W.w) g3).mapOf) (k _ _ Lh (KP.al al) (Mx.trans (LA.trans (Ls.trans al.ev)))))
 case ds l=>
  refine x26 rv λa es KC z sy ny g q=>?_;subst KC;replace e:=CT (c:=jn==jn) e;refine⟨g.typeIs,g.mapOf.noDict,?_⟩;revert e;induction v1 using V.casesOn<;>first|exact no|intro e
  case str j=>
   cases e;refine aee (knd:=PySem.strKind W.prog W.w) sy (S.aah hA h1 KD λy KB Mo KG LA=>S.aah hA h2 KG λw KH Lh KP Ls=>?_);have Rg:=(LA.trans Ls).kpD st.y.ym;have g3:=fe g λo d=>Rg a o ny d;have q3:=q.keep Rg;refine x12 Mo.view λ_ KC _=>?_;subst KC;refine(gE j _ dF g3.mapOf ?_);have al:=Al.tok KH (KH.toks+1);rcases q3.find j with⟨a1,a2⟩|⟨y,u,a1,a2,a3⟩
   .refine sb a1 ?_;replace k:=a2▸k;exact k _ _ Lh (KP.al al) (Mx.trans (LA.trans (Ls.trans al.ev)))
   .refine sb a1 ?_;replace k:=a2▸k;exact k _ _ a3 (KP.al al) (Mx.trans (LA.trans (Ls.trans al.ev)))
 case idxH=>
  refine x02 rv λKC hl=>?_;subst KC;replace e:=CT (c:=jn==jn) e;refine x12 (KD.inv.idx hl) λes hd hr=>?_;refine⟨hd.typeIs,?_,?_⟩
  .refine hide λQz qz=>?_;refine x33 hd λo ar ep ho hx _=>?_;refine qz ?_;clear Qz qz;intro b e;injection e with e;subst e;exact⟨o,ho,hx.2.1⟩
  refine hide λQz qz=>?_;revert e;induction v1 using V.casesOn<;>first|exact no|(intro e;refine qz ?_;clear Qz qz)
  case tup l=>
   change (bif(V.tup l).hk 6 then B' (((dA (.tup l) T₂.idx).map V.int).getD v2,T₂) else F')=B' (v,T') at e;refine x02 (aaf e) λhk e=>?_;cases e;refine wpAny_dict_get2_heap (knd:=eO W) (by show A.units+1+8<adD;have:=hA.u;exact Cq this rfl) Z.wd.sys (S.aah hA h1 KD λy KB Mo KG LA=>S.aah hA h2 KG λw KH Lh KP Ls=>?_);have r3:=Mo.keep (Ls.kpD st.y.ym);refine hide λQz qz=>?_;refine iP r3.abm λa xs KC _=>?_;subst KC;refine x12 (KP.inv.idx hl) λXS hd3 YQ=>?_;have al:=Al.tok KH (KH.toks+lM (.tup l));refine qz ?_;clear Qz qz;refine(tL a (.tup l) XS rfl (gG r3 hk) hd3 ?_);rcases fP YQ (.tup l) with⟨a1,a2⟩|⟨a',i,t,a1,a2⟩
   .refine sb a1 ?_;replace k:=a2▸k;exact k _ _ Lh (KP.al al) (Mx.trans (LA.trans (Ls.trans al.ev)))
   .refine sb a1 ?_;replace k:=a2▸k;exact k _ _ (.int ..) (KP.al al) (Mx.trans (LA.trans (Ls.trans al.ev)))
theorem Ad(Z:fK W B base)(S:dX W base n ev)(hA:Rm n A){f g:O'}{p p':Pos}{v:V}(hg:gq B sc f=B' (.bi "isinstance"))(Si:gq B sc g=B' (.ty "str"))(hn:kS e=true)(h:ev sc Γ T e=B' (v,T₁))(hb:rP v=B' b)(st:St W base sc env Y Γ T s)(k:∀x s',VR W s'.heap Y x (.bool b)->St W base sc env Y Γ T₁ s'->Ev W s s'->Q x s'):qaa W A (Z' (.Call (.Name f p) [e,.Name g p'] [] pos) env) Q E s:=by
 refine bE (f9 Z st hg λy r=>?_)
 cases r
 have PJ:backTo pos (starEach [e,.Name g p'] env)=[(false,Z' e env),(false,Z' (.Name g p') env)]:=by refine sb (se hn) ?_;rfl
 refine sb PJ ?_
 refine ce rfl (Calls.evalArgs_plain (Calls.spliced_cons (S.aah hA h st λx KA r KD KF=>Calls.spliced_cons (f9 Z KD Si λy q=>Calls.spliced_nil ?_))))
 cases q
 exact xO r hb λKB al=>k _ KB (.bool b) (KD.al al) (KF.trans al.ev)
theorem abu{lo hi:Option Expr}{pos:Pos}{x:G'}{a:M'}{T' id:String}{Q:qab}{o:Expr}(hT:s.TypeIs x T')(hl:typeLookup (.type T') "__getitem__"=pure (B' (.builtin id)))(h:qaa W A (getItem x (.ref a)) Q E s):qaa W A (subscriptTail o (.Slice lo hi F' pos) x (.ref a)) Q E s:=adG hT hl h (ops:=[.ref a,x]) rfl
theorem sj(n:Nat)(h:1<=n):Builtin.Slice.sliceAdjust F' (B' (-1)) 1 (n:Int)=(0,((n - 1:Nat):Int)):=by
 unfold Builtin.Slice.sliceAdjust
 have h1:¬((1:Int)<0):=by decide
 have h2:((-1:Int)<0):=by decide
 simp only[h1,h2,bJ,bg]
 congr 1
 induction n using Nat.casesOn with
 |zero=>cases h
 |succ m=>exact(aM (max · 0) ((Int.add_comm _ _).trans (Int.add_neg_cancel_right m 1))).trans (Int.max_eq_left (Int.natCast_nonneg m))
theorem sk(n:Nat):Builtin.Slice.slicePlaces 0 ((n - 1:Nat):Int) 1=n - 1:=by
 unfold Builtin.Slice.slicePlaces
 have h1:(1:Int)>0:=by decide
 simp only[h1,bJ,Int.ediv_one]
 split
 .rw[Int.sub_zero,Int.sub_add_cancel];rfl
 .rename_i q;exact(Nat.eq_zero_of_not_pos λp=>q (Int.ofNat_lt.mpr p)).symm
theorem kg{w:U'}{sl:M'}{u:Tok}{Q:Int×Int×Nat->H'->Prop}(hs:s.heap.IsSliceOf sl .none (.int (-1) u) .none)(ha:1<=n)(h:Q (0,1,n - 1) s):V' (ade prog w) A (Builtin.Slice.sliceApplied (.ref sl) (pure (n:Int))) Q E s:=by
 refine hide λQz qz=>?_
 refine kQ (id hs) λos Tw X4 Mm=>?_
 refine qz ?_
 clear Qz qz
 unfold Builtin.Slice.sliceApplied Builtin.Slice.sliceFields
 refine ah (ah (wpAny_field Tw Mm (x:=.none) rfl (ah (wpAny_field Tw Mm (x:=.int (-1) u) rfl (ah (wpAny_field Tw Mm (x:=.none) rfl (av ?_)))))))
 refine ah (slicePart_none ?_)
 refine(?_:V' _ _ (if((1:Int)==0)=true then _ else _) _ _ s)
 refine sb (aL (by decide)) ?_
 refine ah (slicePart_none (ah (slicePart_int (ah (av ?_)))))
 refine(?_:V' _ _ (match Builtin.Slice.sliceAdjust F' (B' (-1)) 1 (n:Int) with|(lo,hi)=>pure (lo,(1:Int),Builtin.Slice.slicePlaces lo hi 1)) _ _ s)
 refine sb (sj n ha) ?_
 refine(?_:V' _ _ (pure ((0:Int),(1:Int),Builtin.Slice.slicePlaces (0:Int) ((n - 1:Nat):Int) 1)) _ _ s)
 refine sb (sk n) ?_
 exact av h
theorem wu(xs:Array G'):((List.range (xs.size - 1)).filterMap λ(k:Nat)=>xs[((0:Int)+(k:Int)*1).toNat]?).toArray=(xs.toList.take (xs.size - 1)).toArray:=by
 have e:(λ(k:Nat)=>xs[((0:Int)+(k:Int)*1).toNat]?)=λk=>xs[0+k]? :=by
  funext k;have:((0:Int)+(k:Int)*1).toNat=0+k:=by rw[Int.mul_one,Int.zero_add,ci];rfl
  rw[this]
 rw[e]
 have:=pick_run xs 0 (xs.size - 1)
 rw[List.filterMap_map] at this
 have e2:((λx=>xs[x]?)∘λx=>0+x)=λk=>xs[0+k]? :=rfl
 rw[e2] at this
 rw[this,List.drop_zero]
theorem jS{A:ada}{E:qab}{s:H'}{prog:aem}{w:U'}{t sl:M'}{items:Array G'}{u:Tok}{Q:qab}(ht:IsTup s.heap t items)(hs:s.heap.IsSliceOf sl .none (.int (-1) u) .none)(ha:1<=items.size)(h:Q (.ref s.heap.objs.size) {s with heap:=s.heap.push {cls:=.type "tuple",data:=.seq (items.toList.take (items.size - 1)).toArray}})(hsz:items.size<=sizeLine):V' (ade prog w) A (getItem (.ref t) (.ref sl)) Q E s:=by
 have NU:sizeOk (.seq (items.toList.take (items.size - 1)).toArray):=by
  refine(?_:(items.toList.take (items.size - 1)).toArray.size<=sizeLine);(refine sb ay ?_;refine sb List.length_take ?_;refine sb Array.length_toList ?_);exact GC hsz
 refine kQ (id hs) λos Tw X4 Mm=>?_
 unfold getItem
 try with_reducible refine adu ?_
 first|refine ah (av ?_)|skip
 refine ah (wpAny_sequenceKey ht.typeIs (by decide) ?_)
 refine ah (wpAny_callSpecial?_slot (name:=Str.ofString "__getitem__") ht.typeIs slot_tuple_getitem (adH slot_tuple_getitem ht.typeIs entry_tuple_getitem ?_ (args_tuple_getitem _ _)))
 refine(?_:V' _ _ (Builtin.Tuple.tupleItemsOf (.ref t)>>= _) _ _ s)
 refine ah (tupleItemsOf_ ht ?_)
 refine ah (wpAny_typeOf (⟨os,Tw,X4⟩:s.TypeIs (.ref sl) "slice") ?_)
 refine sb (aZ (by decide)) ?_
 refine ah (kg hs ha ?_)
 have Mw:¬(((0:Int)==0&&(1:Int)==1&&(items.size - 1)==items.size)=true):=by
  have:((items.size - 1)==items.size)=false:=by rw[aR];exact bD (Nat.sub_lt ha (by decide))
  refine sb this ?_;simp
 refine(?_:V' _ _ (if((0:Int)==0&&(1:Int)==1&&(items.size - 1)==items.size)=true then _ else _) _ _ s)
 (refine sb (aL Mw) ?_;refine sb (wu items) ?_)
 first
  |exact ah (m:=Builtin.Tuple.tupleExact _) (adw (av ⟨_,rfl,av h⟩) NU)
  |exact ah (m:=Builtin.Tuple.tupleExact _) (adw (ah (av (av ⟨_,rfl,av h⟩))) NU)
  |exact ah (ah (m:=Builtin.Tuple.tupleExact _) (adw (av (av ⟨_,rfl,av h⟩)) NU))
  |exact ah (ah (m:=Builtin.Tuple.tupleExact _) (adw (av ⟨_,rfl,av h⟩) NU))
set_option tactic.hygienic true in
theorem sm(S:dX W base n ev)(hA:Rm n A){o h:Expr}{Rw:Pos}{v z:V}{i:Int}(ho:ev sc Γ T o=B' (v,T₁))(hh:ev sc Γ T₁ h=B' (.int i,T₂))(e:hJ v F' (B' i)=B' z)(st:St W base sc env Y Γ T s)(k:∀x s',VR W s'.heap Y x z->St W base sc env Y Γ T₂ s'->Ev W s s'->Q x s'):qaa W A (Z' (.Subscript o (.Slice F' (B' h) F' Rw) pos) env) Q E s:=by
 refine Subscript_ (S.aah hA ho st λx KA r KD KF=>wpAny_Slice ?_)
 rw[evalPart_none,aeu]
 refine av (S.aah hA hh KD λy KB q KG KL=>av ?_)
 refine x11 (VR.view q) λ_ KC=>?_;subst KC
 rename_i t
 revert e;induction v using V.casesOn<;>first|exact no|intro e
 case lst l=>
  refine x02 (aaf e) λhk KC=>?_;subst KC;clear hh e;refine x11 (Int.eq_ofNat_of_zero_le (aS hk:0<=i)) λm KC=>?_;subst KC;have al:=Al.push KB {cls:=.type "slice",data:=.fields #[.none,.int m t,.none]};refine hide λQz qz=>?_;refine x35 (((r.keep (KL.kpD st.y.ym)).keep al.kpD).abF) λa xs nn KC g rs hl ny=>?_;subst KC;refine qz ?_;clear Qz qz;refine abu (T':="list") ⟨_,g,rfl⟩ slot_list_getitem.lookup (wpAny_getItem_list_slice (items:=xs.toArray) ⟨_,g,rfl,_,rfl⟩ (Heap.IsSliceOf.new ..) .none (.int _ _) .none (by simp) ?_ (by(refine sb ay ?_;refine sb rs.length ?_);exact hl));rw[slicePick_upto'];have KP:=KG.al al;have T7:=Al.push {KB with heap:=KB.heap.push {cls:=.type "slice",data:=.fields #[.none,.int (m:Int) t,.none]}} (eB (xs.take m) 0);have e0:(xs.toArray.toList.take m).toArray=(xs.take m).toArray:=by simp
  rw[e0];refine k _ _ (VR.abh (by rw[Int.toNat_natCast,List.length_take];exact GC hl) KP.y ?_) (KP.al T7) (KF.trans (KL.trans (al.ev.trans T7.ev)));rw[Int.toNat_natCast];exact rs.take m
 case tup l=>
  refine x02 (aaf e) λhk KC=>?_;subst KC;simp only[aq,aT,bl] at hk;clear hh e;refine x02 hk λKC h2=>?_;subst KC;have al:=Al.push KB {cls:=.type "slice",data:=.fields #[.none,.int (-1) t,.none]};refine hide λQz qz=>?_;refine lH (((r.keep (KL.kpD st.y.ym)).keep al.kpD).abm) λa xs KC g rs hl ny=>?_;subst KC;have hx:xs.length=l.length:=rs.length;refine qz ?_;clear Qz qz;refine abu (T':="tuple") ⟨_,g,rfl⟩ slot_tuple_getitem.lookup (jS (items:=xs.toArray) ⟨_,g,rfl,_,rfl⟩ (Heap.IsSliceOf.new ..) (by refine sb ay ?_;omega) ?_ (by(refine sb ay ?_;refine sb hx ?_);exact hl));have KP:=KG.al al;have T7:=Al.push {KB with heap:=KB.heap.push {cls:=.type "slice",data:=.fields #[.none,.int (-1) t,.none]}} (fb (xs.take (xs.length - 1)));have e0:(xs.toArray.toList.take (xs.toArray.size - 1)).toArray=(xs.take (xs.length - 1)).toArray:=by simp
  refine sb e0 ?_;refine k _ _ (VR.abr (by refine sb List.length_take ?_;exact GC hl) KP.y ?_) (KP.al T7) (KF.trans (KL.trans (al.ev.trans T7.ev)));refine sb hx ?_;exact rs.take _
set_option tactic.hygienic true in
theorem qy(S:dX W base n ev)(hA:Rm n A){o l h:Expr}{Rw:Pos}{v z:V}{i j:Int}(ho:ev sc Γ T o=B' (v,T₁))(hl:ev sc Γ T₁ l=B' (.int i,T₂))(hh:ev sc Γ T₂ h=B' (.int j,Lm))(e:hJ v (B' i) (B' j)=B' z)(st:St W base sc env Y Γ T s)(k:∀x s',VR W s'.heap Y x z->St W base sc env Y Γ Lm s'->Ev W s s'->Q x s'):qaa W A (Z' (.Subscript o (.Slice (B' l) (B' h) F' Rw) pos) env) Q E s:=by
 refine Subscript_ (S.aah hA ho st λx KA r KD KF=>wpAny_Slice ?_)
 rw[evalPart_none,aeu,aeu]
 refine S.aah hA hl KD λy KB q KG KL=>S.aah hA hh KG λy' KH q' KP LJ=>av ?_
 refine x11 (VR.view q) λ_ KC=>?_;subst KC
 refine x11 (VR.view q') λ_ KC=>?_;subst KC
 rename_i t t'
 refine hide λQz qz=>?_;revert e;induction v using V.casesOn<;>first|exact no|(intro e;refine qz ?_;clear Qz qz)
 case str z'=>
  refine x02 (aaf e) λhk KC=>?_;subst KC;simp only[aq,aT] at hk;clear hl hh e;obtain⟨⟨rfl,rfl⟩,hz⟩:=hk;have al:=Al.push KH {cls:=.type "slice",data:=.fields #[.int 0 t,.int 1 t',.none]};refine x12 (VR.view r) λ_ KC _=>?_;subst KC;rename_i tz hsz;refine abu (T':="str") (typeIs_str _ z' tz) F.slot_str_getitem.lookup (wpAny_getItem_str_slice (l:=B' (0,t)) (u:=B' (1,t')) (st:=F') (lU _ (aF _ rfl) rfl rfl) (by decide) ?_);have e0:sliceMade z' tz (B' (0,t)) (B' (1,t')) F'=.val (.str z' tz):=by
   unfold sliceMade slicePicked;refine sb hz ?_;rfl
  refine sb e0 ?_;exact k _ _ (.str _ _ hsz) (KP.al al) (KF.trans (KL.trans (LJ.trans al.ev)))
theorem Ae(S:dX W base n ev)(hA:Rm n A){a:Expr}{v z:V}(h:ev sc Γ T a=B' (v,T₁))(e:ES v=B' z)(st:St W base sc env Y Γ T s)(k:∀x s',VR W s'.heap Y x z->St W base sc env Y Γ T₁ s'->Ev W s s'->Q x s'):qaa W A (Z' (.UnaryOp .USub a pos) env) Q E s:=by
 refine UnaryOp_ (S.aah hA h st λx KA r KD KF=>?_)
 revert e;induction r using VR.casesOn<;>first|exact no|intro e
 obtain rfl:=ac e
 exact P.neg_int (k _ _ (.int ..) (KD.al (Al.tok KA _)) (KF.trans (Al.tok KA _).ev))
theorem Af(S:dX W base n ev)(hA:Rm n A){a:Expr}{v:V}(h:ev sc Γ T a=B' (v,T₁))(e:cw v=B' b)(st:St W base sc env Y Γ T s)(k:∀x s',VR W s'.heap Y x (.bool (!b))->St W base sc env Y Γ T₁ s'->Ev W s s'->Q x s'):qaa W A (Z' (.UnaryOp .Not a pos) env) Q E s:=UnaryOp_ (S.aah hA h st λx KA r KD KF=>not_of (jb KD r e λKB KG al=>k _ KB (.bool _) KG (KF.trans al.ev)))
inductive wv (W:Wd) (h:P') (Y:M'->Prop):List (G'×G')->List (V×V)->Prop
 |nil:wv W h Y [] []
 |cons {a b:G'} {u v:V} {xs:List (G'×G')} {l:List (V×V)}:VR W h Y a u->VR W h Y b v->wv W h Y xs l->wv W h Y ((a,b)::xs) ((u,v)::l)
theorem wv.length{xs:List (G'×G')}{l:List (V×V)}(r:wv W h Y xs l):xs.length=l.length:=by induction r with|nil=>rfl|cons _ _ _ ih=>simp [ih]
theorem abA{f:TS->Expr->cK}{vs:List Expr}{ps:List (V×V)}{P:Prop}(h:zN f T [] vs=B' (ps,T'))(k:vs=[]->ps=[]->T'=T->P):P:=by
 rcases vs with _|⟨v,vs⟩
 .exact k rfl (be (ac h)).1.symm (be (ac h)).2.symm
 .exact no h
theorem abn{f:TS->Expr->cK}{ok:Option Expr}{vs:List Expr}{ps:List (V×V)}{P:Prop}(h:zN f T (ok::ks) vs=B' (ps,T'))(k:∀kx vx ws p q r,ok=B' kx->vs=vx::ws->f T kx=B' p->f p.2 vx=B' q->zN f q.2 ks ws=B' (r,T')->ps=(p.1,q.1)::r->P):P:=by
 rcases ok with _|kx
 .exact no h
 rcases vs with _|⟨vx,ws⟩
 .exact no h
 .exact aac h λp hp h=>aac h λq hq h=>aac h λr hr h=>k kx vx ws p q r.1 rfl rfl hp hq (hr.trans (aM (λt=>B' (r.1,t)) (be (ac h)).2)) (be (ac h)).1.symm
theorem pi(S:dX W base n ev)(hA:Rm n A):∀{vs:List Expr}{ps:List (V×V)}{T T':TS}{s:H'}{Q:List (G'×G')->H'->Prop},zN (ev sc Γ) T ks vs=B' (ps,T')->St W base sc env Y Γ T s->(∀xs s',wv W s'.heap Y xs ps->St W base sc env Y Γ T' s'->Ev W s s'->Q xs s')->qaa W A (evalPairs (pairTrees ks vs env pos)) Q E s:=by
 induction ks with
 |nil=>
  intro vs ps T T' s Q h st k;refine abA h λe1 e2 e3=>?_;clear h;subst e1 e2 e3;exact av (k _ _ .nil st (Ev.refl W s))
 |cons ok ks ih=>
  intro vs ps T T' s Q h st k;refine abn h λkx vx vs p q r e1 e2 hp hq hr e3=>?_;clear h;subst e1 e2 e3;show V' _ A (Z' kx env>>= λkv=>holding [kv] (do let x <- Z' vx env;standAt pos;pure x)>>= λvv=>holding [kv,vv] (evalPairs (pairTrees ks vs env pos))>>= λKJ=>pure ((kv,vv)::KJ)) Q E s;refine ah (S.aah hA hp st λx KA Ox KD KF=>?_);refine ah (adu (ah (S.aah hA hq KD λy KB Mo KG KL=>?_)));refine ah (adZ (av ?_));refine ah (adu (ih hr KG λxs KH Lh KP LJ=>av ?_));exact k _ _ (.cons ((Ox.keep (KL.kpD st.y.ym)).keep (LJ.kpD st.y.ym)) (Mo.keep (LJ.kpD st.y.ym)) Lh) KP (KF.trans (KL.trans LJ))
theorem wx{l:List (Int×V)}{k:Int}(h:(dK k l).isNone=true):k∉l.map (·.1):=by
 induction l with
 |nil=>simp
 |cons a l ih=>
  obtain⟨j,v⟩:=a;refine aaw (b:=j==k) (λe=>?_) λe=>?_;rotate_left
  .simp [uV,e] at h
  .
   have h':(dK k l).isNone=true:=by simpa [uV,e] using h
   have KY:j≠k:=by simpa using e
   simp only[aC,aD,not_or];exact⟨λq=>KY q.symm,ih h'⟩
theorem wy{l:List (O'×V)}{k:O'}(h:(dW k l).isNone=true):k∉l.map (·.1):=by
 induction l with
 |nil=>simp
 |cons a l ih=>
  obtain⟨j,v⟩:=a;refine aaw (b:=j==k) (λe=>?_) λe=>?_;rotate_left
  .simp [uW,e] at h
  .
   have h':(dW k l).isNone=true:=by simpa [uW,e] using h
   have KY:j≠k:=by simpa using e
   simp only[aC,aD,not_or];exact⟨λq=>KY q.symm,ih h'⟩
theorem wv.aaV{xs:List (G'×G')}(r:wv W h Y xs []):xs=[]:=by cases r;rfl
theorem wv.aaX{xs:List (G'×G')}{p:V×V}{l:List (V×V)}(r:wv W h Y xs (p::l)):∃x y ys,xs=(x,y)::ys/\VR W h Y x p.1/\VR W h Y y p.2/\wv W h Y ys l:=by cases r with|cons p q r=>exact(tL _ _ _ rfl p q r)
noncomputable def GZ(a v:V)(ps:List (V×V))(d:V):Prop:=(∃k,a=.int k/\((ps=[]/\d=.di [(k,v)])\/∃l,ps≠[]/\d7 ps=B' (.di l)/\(dK k l).isNone=true/\d=.di ((k,v)::l)))\/(∃k,a=.str k/\((ps=[]/\d=.ds [(k,v)])\/∃l,ps≠[]/\d7 ps=B' (.ds l)/\(dW k l).isNone=true/\d=.ds ((k,v)::l)))
set_option tactic.hygienic true in
theorem kY{a v:V}{ps:List (V×V)}{d:V}(e:d7 ((a,v)::ps)=B' d):GZ a v ps d:=by
 rcases ps with _|⟨b,ps⟩
 .revert e;induction a using V.casesOn<;>first|exact no|(intro e;first|exact no e|exact .inl ⟨_,rfl,.inl ⟨rfl,(ac e).symm⟩⟩|exact .inr ⟨_,rfl,.inl ⟨rfl,(ac e).symm⟩⟩)
 .revert e;induction a using V.casesOn<;>first|exact no|intro e
  case int j=>
   refine aac (o:=d7 (b::ps)) e λu hu e=>?_;revert e;induction u using V.casesOn<;>first|exact no|intro e
   exact aaU e λhn e=>.inl ⟨_,rfl,.inr (xv _ nofun hu hn ((ac e).symm))⟩
  case str j=>
   refine aac (o:=d7 (b::ps)) e λu hu e=>?_;revert e;induction u using V.casesOn<;>first|exact no|intro e
   exact aaU e λhn e=>.inr ⟨_,rfl,.inr (xv _ nofun hu hn ((ac e).symm))⟩
theorem u9{l:List (Int×V)}{m:List (O'×V)}{p:Prop}(e:V.di l=.ds m):p:=nomatch e
noncomputable def CU(W:Wd)(h:P')(Y:M'->Prop)(xs:List (G'×G'))(l:List (Int×V))(n:Nat):Prop:=∃kvs,Carries (adA W.prog W.w) xs kvs/\ja W h Y kvs l/\(l.map (·.1)).Nodup/\l.length=n
noncomputable def CV(W:Wd)(h:P')(Y:M'->Prop)(xs:List (G'×G'))(l:List (O'×V))(n:Nat):Prop:=∃kvs,Carries (PySem.strKind W.prog W.w) xs kvs/\iS W h Y kvs l/\(l.map (·.1)).Nodup/\l.length=n
theorem CU.nil:CU W h Y [] [] 0:=(xv ([]) ao (.nil) List.nodup_nil rfl)
theorem CV.nil:CV W h Y [] [] 0:=(xv ([]) ao (.nil) List.nodup_nil rfl)
theorem CU.cons{y:G'}{k:Int}{v:V}{xs:List (G'×G')}{l:List (Int×V)}(d:CU W h Y xs l n)(p:VR W h Y x (.int k))(q:VR W h Y y v)(hn:(dK k l).isNone=true):CU W h Y ((x,y)::xs) ((k,v)::l) (n+1):=by
 refine BD d λkvs h1 h2 h3 h4=>?_
 refine x11 p.view λt KC=>?_;subst KC
 exact(xv ((k,y)::kvs) (⟨eF,rfl,h1⟩) (.cons q h2) (bj.mpr ⟨wx hn,h3⟩) (aM (· +1) h4))
theorem CV.cons{y:G'}{k:O'}{v:V}{xs:List (G'×G')}{l:List (O'×V)}(d:CV W h Y xs l n)(p:VR W h Y x (.str k))(q:VR W h Y y v)(hn:(dW k l).isNone=true):CV W h Y ((x,y)::xs) ((k,v)::l) (n+1):=by
 refine BD d λkvs h1 h2 h3 h4=>?_
 refine x12 p.view λt KC hz=>?_;subst KC
 exact(xv ((k,y)::kvs) (⟨dF,rfl,h1⟩) (.cons hz q h2) (bj.mpr ⟨wy hn,h3⟩) (aM (· +1) h4))
theorem wz{ps:List (V×V)}:∀{xs:List (G'×G')}{l:List (Int×V)},wv W h Y xs ps->d7 ps=B' (.di l)->ps≠[]->CU W h Y xs l ps.length:=by
 induction ps with
 |nil=>exact λ_ _ hn=>absurd rfl hn
 |cons p ps ih=>
  intro xs l r e0 _;obtain⟨x,y,ys,rfl,p,q,r⟩:=r.aaX;rcases kY e0 with⟨k,ha,⟨rfl,e⟩|⟨m,KY,hd,hn,e⟩⟩|⟨k,ha,⟨rfl,e⟩|⟨m,KY,hd,hn,e⟩⟩
  .obtain rfl:=r.aaV;obtain rfl:=V.di.inj e;exact CU.nil.cons (ha▸p) q rfl
  .obtain rfl:=V.di.inj e;exact(ih r hd KY).cons (ha▸p) q hn
  .exact u9 e
  .exact u9 e
theorem wA{ps:List (V×V)}:∀{xs:List (G'×G')}{l:List (O'×V)},wv W h Y xs ps->d7 ps=B' (.ds l)->ps≠[]->CV W h Y xs l ps.length:=by
 induction ps with
 |nil=>exact λ_ _ hn=>absurd rfl hn
 |cons p ps ih=>
  intro xs l r e0 _;obtain⟨x,y,ys,rfl,p,q,r⟩:=r.aaX;rcases kY e0 with⟨k,ha,⟨rfl,e⟩|⟨m,KY,hd,hn,e⟩⟩|⟨k,ha,⟨rfl,e⟩|⟨m,KY,hd,hn,e⟩⟩
  .exact u9 e.symm
  .exact u9 e.symm
  .obtain rfl:=r.aaV;obtain rfl:=V.ds.inj e;exact CV.nil.cons (ha▸p) q rfl
  .obtain rfl:=V.ds.inj e;exact(ih r hd KY).cons (ha▸p) q hn
theorem il{K:Type}[DecidableEq K]:∀(kvs Lx:List (K×G')),(kvs.map (·.1)).Nodup->(∀k∈kvs.map (·.1),k∉Lx.map (·.1))->merged Lx kvs=Lx++kvs
 |[],Lx,_,_=>by simp [merged]
 |(k,v)::kvs,Lx,h,hd=>by
  rw[aC,bj] at h;have h1:aez Lx k v=Lx++[(k,v)]:=by
   unfold aez;have:(Lx.any λkv=>decide (kv.1=k))=false:=by
    rw[cp];intro x hx;simp only[bl];intro e;exact hd k (by simp) (aJ.mpr ⟨x,hx,e⟩)
   refine sb this ?_;rfl
  show merged (aez Lx k v) kvs=_;rw[h1,il kvs _ h.2 ?_]
  .simp
  .intro j hj m;simp only[bM,aC,List.map_nil,bf,am] at m;clear h1;rcases m with m|rfl
   .exact hd j (by simp [hj]) m
   .exact h.1 hj
theorem sn{ps:List (V×V)}{v:V}(e:d7 ps=B' v):(∃l,v=.di l)\/∃l,v=.ds l:=by
 rcases ps with _|⟨⟨a,u⟩,ps⟩
 .exact .inl ⟨[],(ac e).symm⟩
 .rcases kY e with⟨k,_,⟨_,e⟩|⟨m,_,_,_,e⟩⟩|⟨k,_,⟨_,e⟩|⟨m,_,_,_,e⟩⟩
  .exact .inl ⟨_,e⟩
  .exact .inl ⟨_,e⟩
  .exact .inr ⟨_,e⟩
  .exact .inr ⟨_,e⟩
theorem Ag:∀{vs:List Expr}{ps:List (V×V)}{T T':TS}{f:TS->Expr->cK},zN f T ks vs=B' (ps,T')->ks.all (·.isSome)=true/\ks.length=vs.length/\ps.length=ks.length:=by
 induction ks with
 |nil=>exact λh=>abA h λe1 e2 _=>e1▸e2▸⟨rfl,rfl,rfl⟩
 |cons ok ks ih=>
  exact λh=>abn h λkx vx ws p q r e1 e2 _ _ hr e3=>by
   have i:=ih hr;(refine sb e1 ?_;refine sb e2 ?_;refine sb e3 ?_);exact⟨i.1,aM (· +1) i.2.1,aM (· +1) i.2.2⟩
theorem dl.fill{o:Obj}(iv:dl W base T h)(nm:¬W.mut D)(nb:base.get? D=F')(ho:h.get? D=B' o)(nt:NT o)(kp:∀b o,b≠D->h.get? b=B' o->h'.get? b=B' o):dl W base T h':=by
 have Qq:∀b,W.mut b->b≠D:=λb m e=>nm (e▸m)
 have kt:∀b xs,h.get? b=B' (fb xs)->h'.get? b=B' (fb xs):=λb xs e=>kp b _ (λq=>by(replace e:=q▸e;replace e:=ho▸e);obtain rfl:=ac e;exact nt _ rfl) e
 refine⟨λb o n e=>kp b o (λq=>by(replace e:=q▸e;replace e:=nb▸e);exact no e) (iv.good b o n e),?_,?_,?_⟩
 .intro hl;refine hide λQz qz=>?_;refine x24 (iv.rows hl) λxs n g q hk r=>?_;refine qz ?_;clear Qz qz;exact(fy xs n (kp _ _ (Qq _ (.inl ⟨hl,rfl⟩)) g) (q.aaG kt 6 hk) hk r)
 .intro hl;refine hide λQz qz=>?_;obtain⟨es,⟨o,ar,ep,h1,h2,h3,h4,h5,h6⟩,r⟩:=iv.idx hl;refine qz ?_;clear Qz qz;exact⟨es,(zJ o ar ep (kp _ _ (Qq _ (.inr (.inl ⟨hl,rfl⟩))) h1) h2 h3 h4 (λx hx=>let y:=h5 x hx;⟨y.1,y.2.1,y.2.2.aaG kt 6 y.2.1⟩) h6),r⟩
 .intro k hk;refine hide λQz qz=>?_;refine x35 (iv.aux k hk) λxs n l g e q z hh=>?_;refine qz ?_;clear Qz qz;exact(tO xs n l (kp _ _ (Qq _ (.inr (.inr ⟨k,hk,rfl⟩))) g) e (q.aaG kt 6 hh) z hh)
theorem St.fill(st:St W base sc env (λb=>Y b\/b=D) Γ T s)(nm:¬W.mut D)(nb:base.get? D=F')(hD:env.locals≠D)(hC:∀n c,env.cells.lookup n=B' c->c≠D)(hs:Heap.SameBut D s.heap h')(hY:∀b,Y b->b≠D):St W base sc env Y Γ T {s with heap:=h',toks:=tk}:=by
 have kp:∀b o,b≠D->s.heap.get? b=B' o->h'.get? b=B' o:=λb o hb e=>(hs.2 b hb).trans e
 have kd:kN (λb=>Y b\/b=D) s.heap h':=λb o hb _ e=>kp b o (λq=>hb (.inr q)) e
 have Qq:∀b,W.mut b->b≠D:=λb m e=>nm (e▸m)
 refine x12 (st.y.there D (.inr rfl)) λoD Yu Q7=>?_
 refine⟨st.inv.fill nm nb Yu Q7 kp,⟨λb m=>(st.y.ym b m).resolve_right (Qq b m),λb y=>?_,λb y m=>st.y.new b (.inl y) m⟩,?_⟩
 .refine x12 (st.y.there b (.inl y)) λo e c=>?_;exact⟨o,kp _ _ (hY b y) e,c⟩
 .have er:=st.er;refine⟨er.kind,er.globals,er.builtins,er.gk,λx i v hd a b c=>?_,er.loc,er.cel,⟨let ⟨o,a⟩:=er.li.loc;⟨o,kp _ _ hD a⟩,λn c hc=>let ⟨o,a⟩:=er.li.cel n c hc;⟨o,kp _ _ (hC n c hc) a⟩⟩,er.fnk⟩;refine x12 (er.var x i v hd a b c) λu p q=>?_;exact⟨u,p.keeps (λo e=>kp _ _ hD e) (λn c o hc e=>kp _ _ (hC n c hc) e),(q.keep kd).weaken λb y=>.inl y⟩
theorem sp(Z:fK W B base)(S:dX W base n ev)(hA:Rm n A){vs:List Expr}{ps:List (V×V)}{v:V}(h:zN (ev sc Γ) T ks vs=B' (ps,T₁))(hl:ks.length<=15)(e:d7 ps=B' v)(st:St W base sc env Y Γ T s)(k:∀x s',VR W s'.heap Y x v->x=.ref s.heap.objs.size->cU W s'.heap (λb=>Y b\/b=s.heap.objs.size) s.heap.objs.size v->St W base sc env Y Γ T₁ s'->Ev W s s'->Q x s'):qaa W A (Z' (.Dict ks vs pos) env) Q E s:=by
 refine tJ (Ag h) λa1 a2 a3=>?_
 have UL:15<=sizeLine:=by decide
 have sy:(s.heap.objs.size==adf)=false:=by
  have:=Z.abO _ st.inv.good;rw[aR];exact Nat.ne_of_gt this
 by_cases h0:ks=[]
 .clear hl a1 a3;subst h0;have hv:vs=[]:=by simpa using a2.symm
  subst hv;cases h;obtain rfl:=ac e;have al:=Al.push s {cls:=.type "dict",data:=.dict #[]};exact wpAny_Dict_empty (k _ _ (.di (by simp) sy st.y.abL (Heap.DictOf.new _) .nil) rfl ⟨⟨[],Heap.DictOf.new _,.nil⟩,by simp,sy⟩ (st.al al) al.ev)
 .have Op:=st.hide (o:={cls:=.type "dict",data:=.dict #[]}) (.aaM (by simp)) rfl;have KY:ps≠[]:=by intro e0;clear h e;subst e0;exact h0 (by simpa using a3.symm)
  have al:=Al.push s {cls:=.type "dict",data:=.dict #[]};have nm:¬W.mut s.heap.objs.size:=λm=>st.inv.aaz m (aap _);have nb:base.get? s.heap.objs.size=F':=Op.y.new _ (.inr rfl) nm;have hD:env.locals≠s.heap.objs.size:=λq=>by refine x11 st.er.li.loc λo e=>?_;rw[q,aap] at e;exact no e
  have hC:∀n c,env.cells.lookup n=B' c->c≠s.heap.objs.size:=λn c hc q=>by refine x11 (st.er.li.cel n c hc) λo e=>?_;rw[q,aap] at e;exact no e
  have hY:∀b,Y b->b≠s.heap.objs.size:=λb y q=>st.y.abL (q▸y);have XJ:∀(KA:H')(h':P')(tk:Nat),Ev W {s with heap:=s.heap.push {cls:=.type "dict",data:=.dict #[]}} KA->Heap.SameBut s.heap.objs.size KA.heap h'->Ev W s {KA with heap:=h',toks:=tk}:=by
   rintro KA h' tk ⟨h₁,t₁,rfl,k₁⟩ hs;exact(m22 h' tk rfl (λb o n e=>(hs.2 b (λq=>by rw[q,aap] at e;exact no e)).trans (k₁ b o n (aB _ e))))
  have UO:∀(KA:H')(h':P'),Heap.SameBut s.heap.objs.size KA.heap h'->kN (λb=>Y b\/b=s.heap.objs.size) KA.heap h':=λKA h' hs b o hb _ e=>(hs.2 b (λq=>hb (.inr q))).trans e;have Tt:∀{K:Type} [DecidableEq K] (knd:PySem.KeyKind W.prog W.w K)(KA:H'),Ev W {s with heap:=s.heap.push {cls:=.type "dict",data:=.dict #[]}} KA->KA.heap.DictOf knd s.heap.objs.size []:=λknd KA KF=>by
   refine x32 ((Heap.DictOf.new (knd:=knd) s.heap)) λo es ep h1 r=>?_;exact(uU o es ep (KF.keep _ _ nm h1) r)
  rcases sn e with⟨l,rfl⟩|⟨l,rfl⟩
  .refine wpAny_Dict_walk (knd:=adA W.prog W.w) a1 a2 h0 hl (pi S hA h Op λxs KA rs KD KF=>?_);refine BD (wz rs e KY) λkvs c1 c2 c3 c4=>?_;refine(lU kvs c1 (Tt _ KA KF) (λh' hd hs=>?_));rw[il kvs [] (by refine sb c2.keys ?_;exact c3) (by simp)] at hd;exact k _ _ (.di (F7 c4 a3 hl rfl) sy (λy=>hY _ y rfl) hd ((c2.keep (UO KA h' hs)).weaken λb y=>.inl y)) rfl ⟨⟨kvs,hd,c2.keep (UO KA h' hs)⟩,by exact F7 c4 a3 hl rfl,sy⟩ (KD.fill nm nb hD hC hs hY) (XJ KA h' _ KF hs)
  .refine wpAny_Dict_walk (knd:=PySem.strKind W.prog W.w) a1 a2 h0 hl (pi S hA h Op λxs KA rs KD KF=>?_);refine BD (wA rs e KY) λkvs c1 c2 c3 c4=>?_;refine(lU kvs c1 (Tt _ KA KF) (λh' hd hs=>?_));rw[il kvs [] (by refine sb c2.keys ?_;exact c3) (by simp)] at hd;exact k _ _ (.ds (F7 c4 a3 hl rfl) sy (λy=>hY _ y rfl) hd ((c2.keep (UO KA h' hs)).weaken λb y=>.inl y)) rfl ⟨⟨kvs,hd,c2.keep (UO KA h' hs)⟩,by exact F7 c4 a3 hl rfl,sy⟩ (KD.fill nm nb hD hC hs hY) (XJ KA h' _ KF hs)
end
noncomputable def BK(W:Wd)(base:P')(B:Bs)(n:Nat)(R:Rc):Prop:=∀{A:ada}{E:qab}{s:H'}{sc:Sc}{env:Env}{Y:M'->Prop}{Γ:List Sl}{T:TS}{Lc tg it:Expr}{ifs:List Expr}{s':adt}{pos:Pos}{v:V}{T':TS},Rm n A->abz B R sc Γ T Lc tg it ifs s'=B' (v,T')->St W base sc env Y Γ T s->qaa W A (Z' (.ListComp Lc [⟨tg,it,ifs,0⟩] s' pos) env) (f6 W base Y T' v s) E s
section
variable {W:Wd}{B:Bs}{base:P'}{R:Rc}
theorem wB(S:dX W base n R.ev)(PL:gv W base n R.tst)(hA:Rm n A){t a b:Expr}{p:Bool×TS}{r:V×TS}(hp:R.tst sc Γ T t=B' p)(h:(bif p.1 then R.ev sc Γ p.2 a else R.ev sc Γ p.2 b)=B' r)(st:St W base sc env Y Γ T s)(k:∀x s',VR W s'.heap Y x r.1->St W base sc env Y Γ r.2 s'->Ev W s s'->Q x s'):qaa W A (Z' (.IfExp t a b pos) env) Q E s:=by
 obtain⟨c,T₁⟩:=p
 refine IfExp_ (PL.aah hA (b:=c) (T₁:=T₁) hp st λKA KD KF=>?_)
 induction c using Bool.casesOn with
 |true=>exact S.aah hA h KD λx KB r KG KL=>k x KB r KG (KF.trans KL)
 |false=>exact S.aah hA h KD λx KB r KG KL=>k x KB r KG (KF.trans KL)
theorem wC(Z:fK W B base)(S:dX W base n R.ev)(hA:Rm n A){o i:Expr}{v:V}(h:(C' (R.ev sc Γ T o) λp=>C' (R.ev sc Γ p.2 i) λq=>C' (cv B.lv q.2 p.1 q.1) λv=>B' (v,q.2))=B' (v,T'))(st:St W base sc env Y Γ T s):qaa W A (Z' (.Subscript o i pos) env) (f6 W base Y T' v s) E s:=aac h λp hp h=>aac h λq hq h=>aac h λu hu h=>xV Z S hA hp hq hu st (dM h)
theorem jT{u:V}{k:Int}(h:j8 u=B' k):u=.int k:=by revert h;induction u using V.casesOn<;>first|exact no|(intro h;first|exact no h|(obtain rfl:=ac h;rfl))
set_option tactic.hygienic true in
theorem oE(Z:fK W B base)(S:dX W base n R.ev)(hA:Rm n A){o i:Expr}{v:V}(h:EU B.lv R sc Γ T o i=B' (v,T'))(st:St W base sc env Y Γ T s):qaa W A (Z' (.Subscript o i pos) env) (f6 W base Y T' v s) E s:=by
 induction i using Expr.casesOn<;>try (exact wC Z S hA h st)
 case Slice lo hi stp p=>
  induction lo using Option.casesOn<;>induction hi using Option.casesOn<;>induction stp using Option.casesOn<;>try (exact no h)
  .exact aac h λp hp h=>aac h λq hq h=>aac h λj hj h=>aac h λu hu h=>sm S hA hp (hq.trans (aM B' (Prod.ext (jT hj) rfl))) hu st (dM h)
  .exact aac h λp hp h=>aac h λq hq h=>aac h λr hr h=>aac h λj hj h=>aac h λj' PR h=>aac h λu hu h=>
    qy S hA hp (hq.trans (aM B' (Prod.ext (jT hj) rfl))) (hr.trans (aM B' (Prod.ext (jT PR) rfl))) hu st (dM h)
set_option tactic.hygienic true in
theorem Ah(Z:fK W B base)(S:dX W base n R.ev)(hA:Rm n A){f:O'}{p:Pos}{v:V}(hg:gq B sc f=B' (.bi "isinstance"))(h:(match(motive:=List Expr->cK) args with|[x,.Name s _]=>(match gq B sc s with|some (.ty t)=>bif t=="str"&&kS x then C' (R.ev sc Γ T x) λp=>C' (rP p.1) λb=>B' (.bool b,p.2) else F'|_=>F')|_=>F')=B' (v,T'))(st:St W base sc env Y Γ T s):qaa W A (Z' (.Call (.Name f p) args [] pos) env) (f6 W base Y T' v s) E s:=by
 obtain _|⟨x,_|⟨y,l⟩⟩:=args<;>try (exact no h)
 revert h;induction y using Expr.casesOn<;>first|exact no|intro h
 case Name g pp=>
  revert h;induction l using List.casesOn<;>first|exact no|intro h
  dsimp only at h;refine abj (o:=gq B sc g) (λSi=>?_) λg2 Si=>?_
  .rw[Si] at h;exact no h
  .
   rw[Si] at h;induction g2 using G.casesOn<;>try (exact no h)
   case ty t=>
    refine aaU (c:=t=="str"&&kS x) h λht h=>aac h λp hp h=>aac h λb hb h=>?_;have ht:=bK.mp ht;exact Ad Z S hA hg (Si.trans (aM (λt=>B' (G.ty t)) (ba ht.1))) ht.2 hp hb st (dM h)
set_option tactic.hygienic true in
theorem qA(Z:fK W B base)(S:dX W base n R.ev)(P:jB W base n Φ)(N3:∀a vs T r,Φ a vs T=B' r->∃f,B.fn a=B' f)(hA:Rm n A){f:O'}{p:Pos}{v:V}(h:uY B Φ R sc Γ T (.Name f p) args pos=B' (v,T'))(st:St W base sc env Y Γ T s):qaa W A (Z' (.Call (.Name f p) args [] pos) env) (f6 W base Y T' v s) E s:=by
 unfold uY at h
 dsimp only at h
 refine abj (o:=gq B sc f) (λhg=>?_) λg hg=>?_
 .rw[hg] at h;exact no h
 .
  rw[hg] at h;induction g using G.casesOn<;>try (exact no h)
  case fn a=>exact aac h λp hp h=>Ab Z S P N3 hA hg hp h st (dM rfl)
  case bi id=>
   dsimp only at h;refine aaw (b:=id=="isinstance") (λhi=>?_) λhi=>?_
   .rw[hi,cond_false] at h;exact aac h λp hp h=>aac h λu hu h=>CR Z S hA hg hp hu st (dM h)
   .rw[hi,cond_true] at h;exact Ah Z S hA (hg.trans (aM (λt=>B' (G.bi t)) (ba hi))) h st
  case ty t=>exact aac h λp hp h=>aac h λu hu h=>CS Z S hA hg hp hu st (dM h)
theorem Ai(Z:fK W B base)(S:dX W base n R.ev)(hA:Rm n A){o:Expr}{m:O'}{u v:V}(hb:hW o=true)(hl:(ap.endLine==pos.line)=true)(hn:args.length<30)(hp:R.ev sc Γ T o=B' (u,T₁))(hq:lV (R.ev sc Γ) T₁ args=B' (vs,T₂))(hu:u≠ .host/\u≠ .tab){c:Bool}(hc:c=true->m=jn)(hf:c=false->jz B Φ u m vs T₂=F')(h:jz B Φ u m vs T₂=B' (v,T'))(hd:c=(m==jn))(st:St W base sc env Y Γ T s):qaa W A (Z' (.Call (.Attribute o m ap) args [] pos) env) (f6 W base Y T' v s) E s:=by
 induction c using Bool.casesOn with
 |false=>exact no ((hf rfl).symm.trans h)
 |true=>clear hf hd;obtain rfl:=hc rfl;exact Ac Z S hA hb hn hl hp hq hu h st (dM rfl)
theorem qB(Z:fK W B base)(S:dX W base n R.ev)(P:jB W base n Φ)(N3:∀a vs T r,Φ a vs T=B' r->∃f,B.fn a=B' f)(hA:Rm n A){o:Expr}{m:O'}{v:V}(h:uY B Φ R sc Γ T (.Attribute o m ap) args pos=B' (v,T'))(st:St W base sc env Y Γ T s):qaa W A (Z' (.Call (.Attribute o m ap) args [] pos) env) (f6 W base Y T' v s) E s:=by
 refine aaU (c:=hW o&&(ap.endLine==pos.line)&&decide (args.length<30)) h λhc h=>aac h λp hp h=>aac h λq hq h=>?_
 have hc:=bK.mp hc
 have hb:=bK.mp hc.1
 have hn:=aS hc.2
 obtain⟨u,T₁⟩:=p
 clear hc
 revert h;induction u using V.casesOn<;>first|exact no|intro h
 case host=>exact aac h λa ha h=>sa Z S P N3 hA (.inl ⟨rfl,ha⟩) hb.1 hn hb.2 hp hq h st (dM rfl)
 case tab=>exact aac h λa ha h=>sa Z S P N3 hA (.inr ⟨rfl,ha⟩) hb.1 hn hb.2 hp hq h st (dM rfl)
 all_goals exact Ai Z S hA hb.1 hb.2 hn hp hq ⟨nofun,nofun⟩ ba (λe=>by show(bif m==jn then _ else F')=_;refine sb e ?_;rfl) h rfl st
set_option tactic.hygienic true in
theorem wD(Z:fK W B base)(S:dX W base n R.ev)(PL:gv W base n R.tst)(C:BK W base B n R)(P:jB W base n Φ)(N3:∀a vs T r,Φ a vs T=B' r->∃f,B.fn a=B' f):dX W base n (qm B Φ R):=by
 intro A E s sc env Y Γ T e v T' hA h st
 revert h;induction e using Expr.casesOn<;>first|exact no|intro h
 case Constant c k pos=>exact aac h λu hu h=>wq hu λx s' al r=>dM h x s' r (st.al al) al.ev
 case Name x pos=>exact aac h λu hu h=>xR Z st hu λy r=>dM h y s r st (Ev.refl W s)
 case BoolOp op es pos=>
  induction op using BoolOp.casesOn
  .exact u7 S hA h st (dM rfl)
  .exact xS S hA h st (dM rfl)
 case BinOp a op b pos=>exact aac h λp hp h=>aac h λq hq h=>aac h λu hu h=>z8 S hA hp hq hu st (dM h)
 case UnaryOp op a pos=>
  revert h;induction op using UnaryOp.casesOn<;>first|exact no|intro h
  .exact aac h λp hp h=>aac h λb hb h=>Af S hA hp hb st (dM h)
  .exact aac h λp hp h=>aac h λu hu h=>Ae S hA hp hu st (dM h)
 case IfExp t a b pos=>exact aac h λp hp h=>wB S PL hA hp h st (dM rfl)
 case Dict ks vs pos=>
  refine zH (c:=decide (15<ks.length)) h λhd h=>aac h λp hp h=>aac h λu hu h=>?_;exact sp Z S hA hp (Nat.le_of_not_lt (of_decide_eq_false hd)) hu st λx s' r O O Qs e'=>dM h x s' r Qs e'
 case ListComp Lc gs s' pos=>
  match gs,h with
  |[⟨tg,it,ifs,0⟩],h=>exact C hA h st
 case Compare l ops es pos=>
  refine zH (c:=aet ops es) h λhm h=>aac h λp hp h=>aac h λq hq h=>?_;rw[arm_eval_Compare,iH hm];exact ah (S.aah hA hp st λx KA r KD KF=>wt Z S hA hq KD r λKB KG KL=>dM h _ KB (.bool _) KG (KF.trans KL))
 case Attribute o a pos=>exact aaU (c:=hW o) h λhb h=>aac h λp hp h=>aac h λu hu h=>xU Z S hA hb hp hu st (dM h)
 case List es pos=>exact aac h λp hp h=>aac h λu hu h=>Aa S hA hp (dB hu).1 st (dM ((dB hu).2▸h))
 case Tuple es k pos=>exact aac h λp hp h=>aac h λu hu h=>z9 S hA hp (dB hu).1 st (dM ((dB hu).2▸h))
 case Subscript o i pos=>exact oE Z S hA h st
 case Call f args WC pos=>
  revert h;induction WC using List.casesOn<;>first|exact no|intro h
  revert h;induction f using Expr.casesOn<;>first|exact no|intro h
  case Name f p=>exact qA Z S P N3 hA h st
  case Attribute o m ap=>exact qB Z S P N3 hA h st
set_option tactic.hygienic true in
theorem tX(Z:fK W B base)(S:dX W base n R.ev)(PL:gv W base n R.tst):gv W base n (uZ B Φ R):=by
 intro A E s sc env Y Γ T e b T' hA h st
 have plain:(C' (R.ev sc Γ T e) λp=>C' (cw p.1) λb=>B' (b,p.2))=B' (b,T')->aex e env (Z' e env)=(do let v <- Z' e env;standAt e.pos;holding [v] (truthy v))->qaa W A (aex e env (Z' e env)) (xQ W base T' b s) E s:=by
  intro h he;exact aac h λp hp h=>aac h λc hc h=>isTrue_plain (S.aah hA hp st λx KA r KD KF=>jb KD r hc λKB KG al=>mO h KB KG (KF.trans al.ev)) he
 induction e using Expr.casesOn<;>try (exact plain h rfl)
 case BoolOp op es pos=>
  clear plain;induction op using BoolOp.casesOn
  .exact wpAny_isTrue_BoolOp (r9 PL hA h st (mO rfl))
  .exact wpAny_isTrue_BoolOp (u8 PL hA h st (mO rfl))
 case UnaryOp op a pos=>
  induction op using UnaryOp.casesOn<;>try (exact plain h rfl)
  exact aac h λp hp h=>isTrue_not (PL.aah hA (b:=p.1) (T₁:=p.2) hp st λKA KD KF=>mO h KA KD KF)
 case IfExp t a c pos=>
  refine aac h λp hp h=>?_;obtain⟨d,T₁⟩:=p;refine isTrue_IfExp (PL.aah hA (b:=d) (T₁:=T₁) hp st λKA KD KF=>?_);induction d using Bool.casesOn with
  |true=>exact PL.aah hA h KD λKB KG KL=>mO rfl KB KG (KF.trans KL)
  |false=>exact PL.aah hA h KD λKB KG KL=>mO rfl KB KG (KF.trans KL)
 case Compare l ops es pos=>
  refine zH (c:=aet ops es) h λhm h=>aac h λp hp h=>?_;rw[arm_isTrue_Compare,iH hm];exact ah (S.aah hA hp st λx KA r KD KF=>xT Z S hA h KD r λKB KG KL=>mO rfl KB KG (KF.trans KL))
end
variable {cl:List (O'×M')}{C:M'}{m:O'->Option G'}
section
variable {W:Wd}{B:Bs}{base:P'}{R:Rc}
theorem tY{env:Env}{scope:adt}(h:∀p∈scope.names,p.2=.free->∃c,env.cells.lookup p.1=B' c):∃cl,closureFor scope env=pure cl/\(∀n,(n,NameKind.free)∈scope.names->cl.lookup n=env.cells.lookup n)/\∀n c,cl.lookup n=B' c->env.cells.lookup n=B' c:=by
 have key:∀(names:List (O'×adT))(Lx:List (O'×M')),(∀p∈names,p.2=.free->∃c,env.cells.lookup p.1=B' c)->(∀n c,Lx.lookup n=B' c->env.cells.lookup n=B' c)->∃cl,(forIn names Lx (λp (r:List (O'×M'))=>(do
    if p.2==.free then
     let c <- cellOf env p.1
     pure (ForInStep.yield ((p.1,c)::r))
    else pure (ForInStep.yield r):Sem _)))=pure cl/\(∀n,(n,NameKind.free)∈names->cl.lookup n=env.cells.lookup n)/\(∀n c,cl.lookup n=B' c->env.cells.lookup n=B' c)/\(∀n c,Lx.lookup n=B' c->cl.lookup n=B' c):=by
  intro names;induction names with
  |nil=>intro Lx _ ha;exact(xv Lx (by rw[List.forIn_nil]) ((λn m=>by cases m)) ha (λn c e=>e))
  |cons p names ih=>
   intro Lx hf ha;obtain⟨x,k⟩:=p;rw[List.forIn_cons];by_cases hk:k=.free
   .subst hk;refine hide λQz qz=>?_;refine x11 (hf (x,.free) (af ..) rfl) λc hc=>?_;have W8:∀n c',((x,c)::Lx).lookup n=B' c'->env.cells.lookup n=B' c':=by
     intro n c' e;rw[List.lookup_cons] at e;refine aaw (b:=n==x) (λhx=>?_) λhx=>?_;rotate_left
     .rw[hx] at e;obtain rfl:=ac e;refine sb (aT.mp hx) ?_;exact hc
     .rw[hx] at e;exact ha n c' e
    refine BD (ih ((x,c)::Lx) (λp hp=>hf p (ag _ hp)) W8) λcl h1 h2 h3 h4=>?_;refine qz ?_;clear Qz qz;refine(xv cl ?_ ?_ h3 ?_)
    .have e0:cellOf env x=pure c:=by unfold cellOf;rw[hc]
     simp only[bF,bJ,e0];exact h1
    .intro n m;rcases aD.mp m with e|m
     .clear m;cases e;rw[hc];exact h4 _ _ (by simp [List.lookup_cons])
     .exact h2 n m
    .intro n c' e;have he:=ha n c' e;by_cases hx:n=x
     .clear hf W8 h1;subst hx;rw[hc] at he;obtain rfl:=ac he;exact h4 _ _ (by simp [List.lookup_cons])
     .exact h4 _ _ (by rw[List.lookup_cons];have:(n==x)=false:=(by simpa using hx);rw[this];exact e)
   .have hb:(k==NameKind.free)=false:=by simpa using hk
    refine hide λQz qz=>?_;refine BD (ih Lx (λp hp=>hf p (ag _ hp)) ha) λcl h1 h2 h3 h4=>?_;refine qz ?_;clear Qz qz;refine(xv cl ?_ ?_ h3 h4)
    .simp only[hb,bY,bg];exact h1
    .intro n m;rcases aD.mp m with e|m
     .clear hf hb m;cases e;exact absurd rfl hk
     .exact h2 n m
 refine hide λQz qz=>?_
 refine BD (key scope.names [] h (λn c e=>by exact no e)) λcl h1 h2 h3 O=>?_
 refine qz ?_
 clear Qz qz
 refine(lU cl ?_ h2 h3)
 unfold closureFor
 show(forIn scope.names [] (λp (r:List (O'×M'))=>(do
    if p.2==.free then
     let c <- cellOf env p.1
     pure (ForInStep.yield ((p.1,c)::r))
    else pure (ForInStep.yield r):Sem _))>>= λcs=>pure cs)=pure cl
 rw[h1]
 rfl
theorem kh{x:O'}{l:List O'}:db (x::l) x=B' 0:=by simp [db]
theorem fR{x n:O'}{l:List O'}(h:n≠x):db (x::l) n=(db l n).map (· +1):=by
 have:(x==n)=false:=by simpa using λe=>h e.symm
 simp [db,this]
theorem mw{l:List O'}{n:O'}{i:Nat}(h:db l n=B' i):l[i]? =B' n:=by
 induction l generalizing i with
 |nil=>exact no h
 |cons x l ih=>
  by_cases e:n=x
  .subst e;rw[kh] at h;obtain rfl:=ac h;rfl
  .rw[fR e] at h;refine x12 (aK.mp h) λj hj KC=>?_;subst KC;simpa using ih hj
theorem dh{scope:adt}{env:Env}:∀{names:List (O'×adT)}{x:O'}{k:adT},names.lookup x=B' k->k≠ .free->(names.map λ(n,k)=>if(k==NameKind.free&&env.scope.kind==.function&&env.kindOf n==B' .cell) then(n,NameKind.cell) else(n,k)).lookup x=B' k
 |[],_,_,h,_=>by simp at h
 |(n,k')::r,x,k,h,hk=>by
  have ih:=@dh scope env r x k;show List.lookup x ((if(k'==NameKind.free&&env.scope.kind==.function&&env.kindOf n==B' .cell)=true then(n,NameKind.cell) else(n,k'))::_)=_;refine aaw (b:=x==n) (λhx=>?_) λhx=>?_;rotate_left
  .
   simp only[List.lookup_cons,hx] at h;clear ih;obtain rfl:=ac h;have:(k'==NameKind.free)=false:=by simpa using hk
   rw[aL (by rw[this];simp)];simp [List.lookup_cons,hx]
  .
   simp only[List.lookup_cons,hx] at h;by_cases hc:(k'==NameKind.free&&env.scope.kind==.function&&env.kindOf n==B' .cell)=true
   .rw[aZ hc];simp only[List.lookup_cons,hx];exact ih h hk
   .rw[aL hc];simp only[List.lookup_cons,hx];exact ih h hk
theorem d4{env:Env}(hf:env.scope.kind=.function):∀{names:List (O'×adT)}{x:O'},names.lookup x=B' .free->env.kindOf x=B' .cell->(names.map λ(n,k)=>if(k==NameKind.free&&env.scope.kind==.function&&env.kindOf n==B' .cell) then(n,NameKind.cell) else(n,k)).lookup x=B' .cell
 |[],_,h,_=>by simp at h
 |(n,k')::r,x,h,hk=>by
  have ih:=@d4 env hf r x;show List.lookup x ((if(k'==NameKind.free&&env.scope.kind==.function&&env.kindOf n==B' .cell)=true then(n,NameKind.cell) else(n,k'))::_)=_;refine aaw (b:=x==n) (λhx=>?_) λhx=>?_;rotate_left
  .
   simp only[List.lookup_cons,hx] at h;obtain rfl:=ac h;have e:x=n:=by simpa using hx
   subst e;simp [List.lookup_cons,hf,hk]
  .
   simp only[List.lookup_cons,hx] at h;by_cases hc:(k'==NameKind.free&&env.scope.kind==.function&&env.kindOf n==B' .cell)=true
   .rw[aZ hc];simp only[List.lookup_cons,hx];exact ih h hk
   .rw[aL hc];simp only[List.lookup_cons,hx];exact ih h hk
theorem dm{l:List (O'×α)}{n:O'}{k:α}(h:l.lookup n=B' k):(n,k)∈l:=mem_of_lookup h
theorem ER.comp{s':adt}{x:O'}{u:V}{y:G'}(er:ER W sc env Y h Γ)(ok:f5 sc s' [x]=true)(fo:eM sc Γ s' [x]=true)(Vm:∀n,(n,NameKind.free)∈s'.names->cl.lookup n=env.cells.lookup n)(Pv:∀n c,cl.lookup n=B' c->env.cells.lookup n=B' c)(nC:¬W.mut C)(hn:h.Ns C m)(hm:m x=B' y)(hy:VR W h Y y u):ER W ⟨s'.names,x::sc.slots⟩ (adj s' cl C env) Y h (.pl u::Γ):=by
 have o1:=aag ok
 have o2:=aag o1.1
 have k0:=(aag o2.1).1
 have k1:=aE.mp (aag o2.1).2
 have k2:=aE.mp o2.2
 have k3:=aE.mp o1.2
 have f1:=aE.mp (aag fo).1
 have f2:=(aag fo).2
 clear o1 o2
 have lx:s'.names.lookup x=B' .local:=by
  have:=k2 x (by simp);revert this;cases s'.names.lookup x with
  |none=>intro h;exact nb h
  |some k=>induction k using NameKind.casesOn<;>intro h<;>first|rfl|exact nb h
 refine⟨by show s'.kind=.function;simpa using k0,er.globals,er.builtins,λn hg=>?_,λn i v hd hv hi LZ=>?_,nC,λn c hc=>er.cel n c (Pv n c hc),⟨?_,λn c hc=>er.li.cel n c (Pv n c hc)⟩,λn hc=>?_⟩
 .unfold fw at hg;show((aer s' env).names.lookup n=_)\/((aer s' env).names.lookup n=_);revert hg;cases hl:s'.names.lookup n with
  |none=>intro h;exact nb h
  |some k=>
   induction k using NameKind.casesOn<;>intro h<;>try (first|exact no h|(exact nb h;done))
   .exact .inr (dh (scope:=s') hl (by decide))
   .exact .inl (dh (scope:=s') hl (by decide))
 .by_cases ME:n=x
  .clear k2 k1 f2 hv;clear ok fo;subst ME;rw[show(db (n::sc.slots) n)=B' 0 from kh] at hi;obtain rfl:=ac hi;simp at LZ;subst LZ;exact⟨y,.inl ⟨ck lx,m,hn,hm⟩,hy⟩
  .rw[show db (x::sc.slots) n=(db sc.slots n).map (· +1) from fR ME] at hi;refine x12 (aK.mp hi) λj hj KC=>?_;subst KC;have Ra:Γ[j]? =B' (.pl v):=by simpa using LZ
   unfold cZ at hv;revert hv;clear hi LZ;cases hl:s'.names.lookup n with
   |none=>intro h;exact nb h
   |some k=>
    induction k using NameKind.casesOn<;>intro h<;>try (first|exact no h|(exact nb h;done))
    .have h1:=k1 _ (dm hl);simp only[Bool.or_eq_true,List.contains_iff_mem,am,aT] at h1;clear hd hl;rcases h1 with h1|rfl
     .exact absurd h1 ME
     .have:db ([x]++sc.slots) (Str.ofString ".0")=B' (j+1):=by
       show db (x::sc.slots) _=_;(refine sb (fR ME) ?_;refine sb hj ?_);rfl
      rw[this] at f2;exact nb f2
    .have h1:=k1 _ (dm hl);exact nb h1
    .have h1:=k1 _ (dm hl);simp only[aq] at h1;refine x02 h1 λh1 h2=>?_;have hc:sc.names.lookup n=B' .cell:=by
      revert h2;cases sc.names.lookup n with
      |none=>intro h;exact nb h
      |some k=>induction k using NameKind.casesOn<;>intro h<;>first|rfl|exact nb h
     refine x12 (er.var n j v hd h1 hj Ra) λz p q=>?_;have hk:=er.fnk n hc;refine⟨z,.inr ⟨.inl (d4 er.kind hl hk),?_⟩,q⟩;rcases p with⟨a,_⟩|⟨_,c,b,d⟩
     .replace a:=hk▸a;cases a
     .exact⟨c,by show cl.lookup n=B' c;rw[Vm n (dm hl)];exact b,d⟩
 .refine x32 hn λo es ep ho O=>?_;exact⟨o,ho⟩
 .have h1:=k1 _ (dm hc);exact nb h1
end
variable {KA KB:H'}
section
variable {W:Wd}{B:Bs}{base:P'}{R:Rc}
structure mP (W:Wd) (env:Env) (Y:M'->Prop) (l:List V) (I:M') (fp:M'->Prop) (Sx:Nat->P'->Prop) (Yi:M'->Prop) (s KB:H'):Prop where
 it:IT W Yi I fp l Sx
 st:Sx 0 KB.heap
 sub:∀b,Y b->Yi b
 new:∀b,KB.heap.get? b=F'->Yi b
 at_:∃o,KB.heap.get? I=B' o/\¬dG o
 fresh:s.heap.get? I=F'
 fp:∀b,fp b->b=I\/(¬Y b/\∃o,KB.heap.get? b=B' o/\dG o)
theorem CW{l:List V}{it:G'}{s KA KB:H'}(KF:Ev W s KA)(hm:∀b o,s.heap.get? b=B' o->∃o',KA.heap.get? b=B' o')(h:Gm W (λb=>Y b\/KA.heap.get? b=F') l KA it KB):∃I fp Sx Yi,it=.ref I/\mP W env Y l I fp Sx Yi s KB/\Al KA KB:=by
 refine hide λQz qz=>?_
 refine JX h λI fp Sx KC a b c d e f=>?_;subst KC
 refine qz ?_
 clear Qz qz
 refine(JZ I fp Sx _ rfl (⟨a,b,λb y=>.inl y,λb hb=>.inr ?_,e,?_,λb hb=>?_⟩) c)
 .cases q:KA.heap.get? b with
  |none=>rfl
  |some o=>replace hb:=(c.keep _ _ q)▸hb;cases hb
 .cases q:s.heap.get? I with
  |none=>rfl
  |some o=>obtain⟨o',q'⟩:=hm _ _ q;rw[d] at q';exact no q'
 .rcases f b hb with r|⟨r,o,q,z⟩
  .exact .inl r
  .exact .inr ⟨λy=>r (.inl y),o,c.keep _ _ q,z⟩
theorem St.stays(st:St W base sc env Y Γ T s)(i:dl W base T' s'.heap)(e:Ev W s s'):∀b o,s.heap.get? b=B' o->∃o',s'.heap.get? b=B' o':=λb o q=>by
 by_cases m:W.mut b
 .refine x12 (i.aat m) λo' q' O=>?_;exact⟨o',q'⟩
 .exact⟨o,e.keep b o m q⟩
set_option tactic.hygienic true in
theorem wE{na:O'×Expr}(h:ET e=B' na):∃np p,e=.Call (.Name na.1 np) [na.2] [] p:=by
 revert h;induction e using Expr.casesOn<;>first|exact no|intro h
 rename_i f args WC p
 revert h;induction f using Expr.casesOn<;>first|exact no|intro h
 obtain _|⟨a,_|⟨b,l⟩⟩:=args<;>try (exact no h)
 revert h;induction WC using List.casesOn<;>first|exact no|intro h
 obtain rfl:=ac h
 exact⟨_,_,rfl⟩
set_option tactic.hygienic true in
theorem sq{c:String}{a:Expr}{P:Prop}(h:Gl B sc c e=B' a)(k:∀n np p,e=.Call (.Name n np) [a] [] p->gq B sc n=B' (.ty c)->kS a=true->P):P:=by
 refine aac h λna hn h=>?_
 refine abj (o:=gq B sc na.1) (λhg=>?_) λg hg=>?_
 .rw[hg] at h;exact no h
 .
  rw[hg] at h;revert h;induction g using G.casesOn<;>first|exact no|intro h
  rename_i t;refine aaU (c:=t==c&&kS na.2) h λht h=>(wE hn).elim λnp q=>q.elim λp q=>?_;have ht:=bK.mp ht;obtain rfl:=ac h;exact k _ _ _ q (hg.trans (aM (λt=>B' (G.ty t)) (ba ht.1))) ht.2
theorem xW{l:List V}{US:G'}(st:St W base sc env Y Γ T s)(KD:St W base sc env Y Γ T₁ KA)(KF:Ev W s KA)(hi:Gm W (λb=>Y b\/KA.heap.get? b=F') l KA US KB)(k:∀I fp Sx Yi KB,mP W env Y l I fp Sx Yi s KB->St W base sc env Y Γ T₁ KB->Ev W s KB->Q (.ref I) KB):Q US KB:=by
 refine JY (CW (env:=env) KF (st.stays KD.inv KF) hi) λI fp Sx Yi KC ia al=>?_;subst KC
 exact k I fp Sx Yi KB ia (KD.al al) (KF.trans al.ev)
theorem sr(Z:fK W B base)(S:dX W base n R.ev)(hA:Rm n A){it:Expr}{l:List V}(h:lJ B sc (R.ev sc Γ) T it=B' (l,T₁))(st:St W base sc env Y Γ T s)(k:∀I fp Sx Yi KB,mP W env Y l I fp Sx Yi s KB->St W base sc env Y Γ T₁ KB->Ev W s KB->Q (.ref I) KB):qaa W A (Z' it env) (λx KA=>qaa W A (aeD x) Q E KA) E s:=by
 unfold lJ at h
 refine hide λQz qz=>?_
 refine abj (o:=Gl B sc xA it) (λht=>?_) λa ht=>?_
 .replace h:=ht▸h;refine aac h λp hp h=>aac h λl' hl h=>?_;obtain rfl:=(be (ac h)).1;obtain rfl:=(be (ac h)).2;exact qz <| S.aah hA hp st λx KA r KD KF=>z7 (Y:=λb=>Y b\/KA.heap.get? b=F') (r.change λb o nb O q=>⟨λy=>y.elim nb λy=>no (y.symm.trans q),q⟩) hl λUS KB hi=>xW st KD KF hi k
 .replace h:=ht▸h;refine aac h λq hq h=>aac h λl' hl h=>sq ht λf p pos he hg hn=>?_;obtain rfl:=(be (ac h)).1;obtain rfl:=(be (ac h)).2;refine qz ?_;clear Qz qz;refine sb he ?_;refine bE (f9 Z st hg λy r=>?_);cases r;have PJ:backTo pos (starEach [a] env)=[(false,Z' a env)]:=by rw[se hn];rfl
  refine sb PJ ?_;refine PyProof.Rows.callWith_type rfl (Calls.evalArgs_plain (Calls.spliced_cons (S.aah hA hq st λx KA r KD KF=>Calls.spliced_nil ?_)));clear hq h;clear h;obtain⟨qv,qT⟩:=q;refine hide λQz qz=>?_;revert hl;induction qv using V.casesOn<;>first|exact no|(intro hl;refine qz ?_;clear Qz qz)
  cases r;exact xP (Y:=λb=>Y b\/KA.heap.get? b=F') hl λUS KB hi=>xW st KD KF hi k
end
variable {ifs:List Expr}{N:qab}{Lc:Expr}{LX px:Pos}{KN:List V}{I:M'}
section
variable {W:Wd}{B:Bs}{base:P'}{R:Rc}
structure xX (W:Wd) (base:P') (env:Env) (X:M'):Prop where
 nm:¬W.mut X
 nb:base.get? X=F'
 loc:env.locals≠X
 cel:∀n c,env.cells.lookup n=B' c->c≠X
theorem cS{b:M'}{o:Obj}(e:h.get? a=B' o)(n:h.get? b=F'):a≠b:=λq=>by rw[q,n] at e;exact no e
theorem St.fra{X:M'}(st:St W base sc env Y Γ T s)(e:s.heap.get? X=F'):xX W base env X where
 nm:=λm=>st.inv.aaz m e
 nb:=cc.mpr λo q=>by have:=st.inv.good _ _ (λm=>st.inv.aaz m e) q;rw[e] at this;exact no this
 loc:=st.er.li.loc.elim λO a=>cS a e
 cel:=λn c hc=>(st.er.li.cel n c hc).elim λO a=>cS a e
theorem pj(hn:h.Ns C m):∃o,h.get? C=B' o/\NT o:=let ⟨o,_,_,ho,hd,_⟩:=hn;⟨o,ho,.aaE hd⟩
theorem va(hn:h.Ns C m)(k:∀o,h.get? C=B' o->h'.get? C=B' o):h'.Ns C m:=let ⟨o,es,ep,ho,r⟩:=hn;⟨o,es,ep,k o ho,r⟩
theorem St.chg{X:M'}{h':P'}{tk:Nat}(st:St W base sc env Y Γ T s)(f:xX W base env X)(hd:Y X\/∃o,s.heap.get? X=B' o/\¬dG o)(nt:∃o,s.heap.get? X=B' o/\NT o)(k:∀b o,b≠X->s.heap.get? b=B' o->h'.get? b=B' o)(hx:Y X->∃o,h'.get? X=B' o/\NT o):St W base sc env Y Γ T {s with heap:=h',toks:=tk}:=by
 have kd:kN Y s.heap h':=λb o hb d e=>k b o (λq=>hd.elim (λy=>hb (q▸y)) λ⟨o',e',nd⟩=>nd (ac (e'.symm.trans (q▸e))▸d)) e
 refine x12 nt λoX R9 Q7=>?_
 refine⟨st.inv.fill f.nm f.nb R9 Q7 k,⟨st.y.ym,λb y=>?_,st.y.new⟩,?_⟩
 .by_cases q:b=X
  .exact q▸hx (q▸y)
  .exact(st.y.there b y).imp λo e=>⟨k _ _ q e.1,e.2⟩
 .have er:=st.er;refine⟨er.kind,er.globals,er.builtins,er.gk,λx i v hd a b c=>?_,er.loc,er.cel,⟨er.li.loc.imp λo a=>k _ _ f.loc a,λn c Oe=>(er.li.cel n c Oe).imp λo a=>k _ _ (f.cel n c Oe) a⟩,er.fnk⟩;exact(er.var x i v hd a b c).imp λu p=>⟨p.1.keeps (λo e=>k _ _ f.loc e) (λn c o Oe e=>k _ _ (f.cel n c Oe) e),p.2.keep kd⟩
theorem dl.fills{h h':P'}{wr:M'->Prop}(iv:dl W base T h)(hw:∀X,wr X->¬W.mut X/\base.get? X=F'/\∃o,h.get? X=B' o/\NT o)(kp:∀b o,¬wr b->h.get? b=B' o->h'.get? b=B' o):dl W base T h':=by
 have Qq:∀b,W.mut b->¬wr b:=λb m e=>(hw b e).1 m
 have kt:∀b xs,h.get? b=B' (fb xs)->h'.get? b=B' (fb xs):=λb xs e=>kp b _ (λq=>by refine x12 ((hw b q).2.2) λo ho nt=>?_;rw[ho] at e;obtain rfl:=ac e;exact nt _ rfl) e
 refine⟨λb o n e=>kp b o (λq=>by rw[(hw b q).2.1] at e;exact no e) (iv.good b o n e),?_,?_,?_⟩
 .intro hl;refine hide λQz qz=>?_;refine x24 (iv.rows hl) λxs n g q hk r=>?_;refine qz ?_;exact(fy xs n (kp _ _ (Qq _ (.inl ⟨hl,rfl⟩)) g) (q.aaG kt 6 hk) hk r)
 .intro hl;refine hide λQz qz=>?_;obtain⟨es,⟨o,ar,ep,h1,h2,h3,h4,h5,h6⟩,r⟩:=iv.idx hl;refine qz ?_;exact⟨es,(zJ o ar ep (kp _ _ (Qq _ (.inr (.inl ⟨hl,rfl⟩))) h1) h2 h3 h4 (λx hx=>let y:=h5 x hx;⟨y.1,y.2.1,y.2.2.aaG kt 6 y.2.1⟩) h6),r⟩
 .intro k hk;refine hide λQz qz=>?_;refine x35 (iv.aux k hk) λxs n l g e q z hh=>?_;refine qz ?_;exact(tO xs n l (kp _ _ (Qq _ (.inr (.inr ⟨k,hk,rfl⟩))) g) e (q.aaG kt 6 hh) z hh)
theorem St.acA{wr:M'->Prop}(st:St W base sc env Y Γ T s)(hw:∀X,wr X->xX W base env X)(hy:∀X,wr X->¬Y X)(ht:∀X,wr X->∃o,s.heap.get? X=B' o/\¬dG o)(k:∀b o,¬wr b->s.heap.get? b=B' o->h'.get? b=B' o):St W base sc env Y Γ T {s with heap:=h',toks:=tk}:=by
 have kd:kN Y s.heap h':=λb o hb d e=>k b o (λq=>(ht b q).elim λo' z=>z.2 (ac (z.1.symm.trans e)▸d)) e
 refine⟨st.inv.fills (wr:=wr) (λX hX=>⟨(hw X hX).nm,(hw X hX).nb,(ht X hX).imp λo z=>⟨z.1,.aaM λq=>z.2 (.inl q)⟩⟩) k,⟨st.y.ym,λb y=>(st.y.there b y).imp λo e=>⟨k _ _ (λq=>hy b q y) e.1,e.2⟩,st.y.new⟩,?_⟩
 have er:=st.er
 have hl:¬wr env.locals:=λq=>(hw _ q).loc rfl
 have hc:∀n c,env.cells.lookup n=B' c->¬wr c:=λn c hc q=>(hw _ q).cel n c hc rfl
 refine⟨er.kind,er.globals,er.builtins,er.gk,λx i v hd a b c=>?_,er.loc,er.cel,⟨er.li.loc.imp λo a=>k _ _ hl a,λn c Oe=>(er.li.cel n c Oe).imp λo a=>k _ _ (hc n c Oe) a⟩,er.fnk⟩
 exact(er.var x i v hd a b c).imp λu p=>⟨p.1.keeps (λo e=>k _ _ hl e) (λn c o Oe e=>k _ _ (hc n c Oe) e),p.2.keep kd⟩
theorem su{Q:Bool->H'->Prop}(h:Q false s):qaa W A (forIn ifs false λc r=>if r=true then do let ok <- aex c env (Z' c env);pure (ForInStep.yield ok) else pure (ForInStep.yield r)) Q E s:=by
 induction ifs with
 |nil=>refine sb List.forIn_nil ?_;exact av h
 |cons c ifs ih=>
  rw[List.forIn_cons];simp only[bY,bg];exact ah (av ih)
theorem pk{tst:Sc->List Sl->TS->Expr->Option (Bool×TS)}(S:gv W base n tst)(hA:Rm n A):∀{ifs:List Expr}{b:Bool}{T T':TS}{s:H'}{Q:Bool->H'->Prop},ql (tst sc Γ) T ifs=B' (b,T')->St W base sc env Y Γ T s->(∀s',St W base sc env Y Γ T' s'->Ev W s s'->Q b s')->qaa W A (forIn ifs true λc r=>if r=true then do let ok <- aex c env (Z' c env);pure (ForInStep.yield ok) else pure (ForInStep.yield r)) Q E s
 |[],b,T,T',s,Q,h,st,k=>by cases h;refine sb List.forIn_nil ?_;exact av (k s st (Ev.refl W s))
 |c::ifs,b,T,T',s,Q,h,st,k=>by
  change (C' (tst sc Γ T c) λp=>bif p.1 then ql (tst sc Γ) p.2 ifs else B' (false,p.2))=B' (b,T') at h;refine aac h λp hp h=>?_;rw[List.forIn_cons];simp only[bJ];refine ah (ah (S.aah hA (b:=p.1) (T₁:=p.2) hp st λKA KD KF=>av ?_));cases hb:p.1 with
  |true=>rw[hb] at h;exact pk S hA h KD λKB KG KL=>k KB KG (KF.trans KL)
  |false=>replace h:=hb▸h;cases h;exact su (k KA KD KF)
theorem BL{o:Option adT}(h:(match o with|some .local=>true|_=>false)=true):o=B' .local:=by induction o using Option.casesOn with|none=>exact nb h|some k=>revert h;induction k using NameKind.casesOn<;>first|exact nb|(intro h;first|rfl|exact nb h)
theorem E9{o:Option adT}(h:(match o with|some .cell=>true|_=>false)=true):o=B' .cell:=by induction o using Option.casesOn with|none=>exact nb h|some k=>revert h;induction k using NameKind.casesOn<;>first|exact nb|(intro h;first|rfl|exact nb h)
structure Aj (env:Env) (s':adt) (xs:List O') (cl:List (O'×M')):Prop where
 clo:closureFor s' env=pure cl
 free:∀n,(n,NameKind.free)∈s'.names->cl.lookup n=env.cells.lookup n
 only:∀n c,cl.lookup n=B' c->env.cells.lookup n=B' c
 kind:s'.kind=.function
 loc:∀x∈xs,s'.names.lookup x=B' .local
 cell:∀y∈s'.names,y.2≠ .cell
 names:∀y∈s'.names,y.2=.local->s'.names.lookup y.1=B' .local
theorem G0{s':adt}{xs:List O'}(ok:f5 sc s' xs=true)(fo:eM sc Γ s' xs=true)(st:St W base sc env Y Γ T s):∃cl,Aj env s' xs cl:=by
 have ok:(((s'.kind==.function)=true/\_)/\_)/\_:=⟨⟨⟨(aag (aag (aag ok).1).1).1,aE.mp (aag (aag (aag ok).1).1).2⟩,aE.mp (aag (aag ok).1).2⟩,aE.mp (aag ok).2⟩
 have fo:_/\_:=⟨aE.mp (aag fo).1,(aag fo).2⟩
 have k1:=ok.1.1.2
 refine(tY (env:=env) (scope:=s') (λp hp e=>?_)).elim λcl c=>⟨cl,c.1,c.2.1,c.2.2,ba ok.1.1.1,λx hx=>BL (ok.1.2 x hx),λy hy e=>(by have:=k1 y hy;rw[e] at this;exact nb this),λy hy e=>(by have:=ok.2 y hy;rw[e] at this;exact BL this)⟩
 have h1:=k1 p hp
 have h2:=fo.1 p hp
 rw[e] at h1 h2
 simp only[aq] at h1 h2
 refine x11 (cj.mp h2.2) λu hu=>?_
 refine aac hu λj hj hu=>aac hu λsl hs hu=>?_
 induction sl using Sl.casesOn<;>try (exact no hu)
 cases hu
 refine x12 (st.er.var p.1 j u (by simpa using h2.1) h1.1 hj hs) λz p' q=>?_
 rcases p' with a|⟨_,c,b,d⟩
 .have:=a.1;replace this:=(st.er.fnk _ (E9 h1.2))▸this;cases this
 .exact⟨c,b⟩
noncomputable def Yc(Y:M'->Prop)(D C:M'):M'->Prop:=λb=>(Y b\/b=D)\/b=C
noncomputable def Fa(W:Wd)(A:ada)(E:qab)(tg:Expr)(it:G')(Qn:H'->Prop)(Q:qab):Option G'->H'->Prop:=λr KA=>match r with
 |none=>Qn KA
 |some v=>qaa W A (adN tg it v) (λO KE=>Q v KE) E KA
structure IW (W:Wd) (A:ada) (Y:M'->Prop) (tg:Expr) (l:List V) (I:M') (wr:M'->Prop) (Sx:Nat->P'->Prop) (s KB:H'):Prop where
 next:∀(i:Nat)(u:V)(s':H')(Qn:H'->Prop)(Q:G'->H'->Prop)(E E':G'->H'->Prop),l[i]? =B' u->Sx i s'.heap->(∀y h' tk,VR W h' (λb=>Y b\/(KB.heap.get? b=F'/\∃o,s'.heap.get? b=B' o)) y u->Sx (i+1) h'->(∀b o,¬wr b->s'.heap.get? b=B' o->h'.get? b=B' o)->Q y {s' with heap:=h',toks:=tk})->V' (ade W.prog W.w) A (aeF (.ref I)) (Fa W A E' tg (.ref I) Qn Q) E s'
 done:∀(s':H')(Qn:H'->Prop)(Q:G'->H'->Prop)(E E':G'->H'->Prop),Sx l.length s'.heap->(∀h' tk,(∀b o,¬wr b->s'.heap.get? b=B' o->h'.get? b=B' o)->Qn {s' with heap:=h',toks:=tk})->V' (ade W.prog W.w) A (aeF (.ref I)) (Fa W A E' tg (.ref I) Qn Q) E s'
 self:∀(s':H')(Q:G'->H'->Prop)(E:G'->H'->Prop),Sx 0 s'.heap->Q (.ref I) s'->V' (ade W.prog W.w) A (aeD (.ref I)) Q E s'
 nd:∀i h,Sx i h->∀X,wr X->∃o,h.get? X=B' o/\¬dG o
 frame:∀i h h',Sx i h->(∀b o,¬W.mut b->(∃Wg,KB.heap.get? b=B' Wg)->h.get? b=B' o->h'.get? b=B' o)->Sx i h'
 st:Sx 0 KB.heap
 fresh:∀X,wr X->s.heap.get? X=F'
theorem Ak{Lc MO iter:Expr}{ifs:List Expr}{scope:adt}{pos:Pos}{it Lx:G'}{M3:Env}{K:Result->H'->Prop}(hN:N=notedBy (ade W.prog W.w) A M3 λe s'=>K (.error e) s')(I:Nat->H'->Prop)(turn:∀n s,I n s->qaa W A (aeF it) (Fa W A N MO it (K (.ok .next)) λv KA=>qaa W A (assign MO M3 v) (λO KB=>
    qaa W A (forIn ifs true λc r=>if r=true then do let ok <- aex c M3 (Z' c M3);pure (ForInStep.yield ok) else pure (ForInStep.yield r)) (λok KH=>
     if ok=true then qaa W A (Z' Lc M3) (λx KR=>qaa W A (call (.builtin "list.append") [Lx,x]) (λO Li=>∃m,m<n/\I m Li) N KR) N KH
     else ∃m,m<n/\I m KH) N KB) N KA) N s)
  (n:Nat) (h:I n s):aes (ade W.prog W.w) A (.compLoop (.ListComp Lc [⟨MO,iter,ifs,0⟩] scope pos) 0 it Lx M3) K s:=by
 subst hN
 refine codeAny_loop rfl I (λn s hI=>?_) n h
 show V' _ A ((compTurn (.ListComp Lc [⟨MO,iter,ifs,0⟩] scope pos) 0 it Lx M3).onRaise (λx=>do noteFrame x M3;theTreesLotGoes x)) _ _ s
 refine wpAny_noted ?_
 rw[compTurn_list]
 refine ah (adZ (ah (bb (turn n s hI) (λr KA h₁=>?_) λO O h'=>h')))
 induction r using Option.casesOn with
 |none=>exact av h₁
 |some v=>
  refine ah (bb h₁ (λO KA h₁=>?_) λO O h'=>h');refine ah (bb h₁ (λO KB h₂=>ah (bb h₂ (λok KH PY=>?_) λO O h'=>h')) λO O h'=>h');induction ok using Bool.casesOn with
  |false=>exact av ⟨rfl,PY⟩
  |true=>exact ah (ah (bb PY (λx KR LE=>ah (bb LE (λO Li Oi=>av (av ⟨rfl,Oi⟩)) λO O h'=>h')) λO O h'=>h'))
noncomputable def ki(R:Rc)(sc:Sc)(Γ:List Sl)(s':adt)(xs:List O'){β:Type}(bd:V->Option β)(ss:β->List Sl)(ifs:List Expr)(Lc:Expr)(v:V)(T:TS):Option (Option V×TS):=C' (bd v) λb=>C' (ql (R.tst ⟨s'.names,xs++sc.slots⟩ (ss b++Γ)) T ifs) λq=>bif q.1 then C' (R.ev ⟨s'.names,xs++sc.slots⟩ (ss b++Γ) q.2 Lc) λr=>B' (B' r.1,r.2) else B' (F',q.2)
noncomputable def sw(W:Wd)(A:ada)(base:P')(sc:Sc)(env:Env)(Γ:List Sl)(tg:Expr)(s':adt)(xs:List O'){β:Type}(bd:V->Option β)(ss:β->List Sl):Prop:=∀{cl:List (O'×M')}{C:M'}{Y':M'->Prop}{Ti:TS}{s:H'}{u:V}{b:β}{y:G'}{m:O'->Option G'}{Q:Unit->H'->Prop}{E:qab},bd u=B' b->Aj env s' xs cl->xX W base env C->Y' C->St W base sc env Y' Γ Ti s->s.heap.Ns C m->VR W s.heap Y' y u->(∀h₂ LK tk,(∀b o,b≠C->s.heap.get? b=B' o->h₂.get? b=B' o)->h₂.Ns C LK->St W base sc env Y' Γ Ti {s with heap:=h₂,toks:=tk}->St W base ⟨s'.names,xs++sc.slots⟩ (adj s' cl C env) Y' (ss b++Γ) Ti {s with heap:=h₂,toks:=tk}->Q () {s with heap:=h₂,toks:=tk})->qaa W A (assign tg (adj s' cl C env) y) Q E s
structure BM (W:Wd) (base:P') (env:Env) (Y:M'->Prop) (D C:M') (wr:M'->Prop) (s KB:H'):Prop where
 d:xX W base env D
 c:xX W base env C
 dc:D≠C
 d2:KB.heap.get? D=F'
 c2:KB.heap.get? C=F'
 d0:s.heap.get? D=F'
 c0:s.heap.get? C=F'
 w:∀X,wr X->xX W base env X
 ny:∀X,wr X->¬Yc Y D C X
 ym:∀b,W.mut b->Y b
 nd:¬Y D
structure CJ (W:Wd) (base:P') (sc:Sc) (env:Env) (Y:M'->Prop) (Γ:List Sl) (f:V->TS->Option (Option V×TS)) (l KN:List V) (T':TS) (D C:M') (Sx:Nat->P'->Prop) (s:H') (i:Nat) (Ti:TS) (ws rs:List V) (ys:List G') (s':H'):Prop where
 cm:cC f (l.drop i) Ti=B' (rs,T')
 tot:KN=ws++rs
 wl:ws.length<=i
 pl:s'.heap.PlainList D ys.toArray
 vs:cM W s'.heap (Yc Y D C) ys ws
 st:St W base sc env (Yc Y D C) Γ Ti s'
 sx:Sx i s'.heap
 ns:∃m,s'.heap.Ns C m
 ev:Ev W s s'
theorem Ev.to{s KR s₆:H'}{h₂ h₇:P'}{tk tk₇:Nat}(a:Ev W s KR)(b:Ev W {KR with heap:=h₂,toks:=tk} s₆)(k:∀b o,¬W.mut b->s.heap.get? b=B' o->h₇.get? b=B' o):Ev W s {s₆ with heap:=h₇,toks:=tk₇}:=by
 refine iP a λO O KC O=>?_;subst KC;refine iP b λO O KC O=>?_;subst KC;exact(m22 _ _ rfl k)
section
variable {f:V->TS->Option (Option V×TS)}{l:List V}{wr:M'->Prop}{Sx:Nat->P'->Prop}{KR s₆:H'}{i:Nat}{Ti Oz:TS}{ws rs R3 SZ:List V}{ys T6:List G'}{h₂ h₇:P'}{tk₇:Nat}{tg:Expr}
theorem CJ.keep(q:BM W base env Y D C wr s KB)(iw:IW W A Y tg l I wr Sx s KB)(J:CJ W base sc env Y Γ f l KN T' D C Sx s i Ti ws rs ys KR)(hk:∀b o,¬wr b->KR.heap.get? b=B' o->h'.get? b=B' o):h'.PlainList D ys.toArray/\cM W h' (Yc Y D C) ys ws:=⟨J.pl.imp λn e=>hk _ _ (λw=>q.ny D w (.inl (.inr rfl))) e,J.vs.keep λb o O d e=>hk b o (λw=>(iw.nd _ _ J.sx b w).elim λo' z=>z.2 (ac (z.1.symm.trans e)▸d)) e⟩
theorem CJ.on(q:BM W base env Y D C wr s KB)(iw:IW W A Y tg l I wr Sx s KB)(J:CJ W base sc env Y Γ f l KN T' D C Sx s i Ti ws rs ys KR){LK:O'->Option G'}(Pj:Sx (i+1) h')(hk:∀b o,¬wr b->KR.heap.get? b=B' o->h'.get? b=B' o)(LQ:∀b o,b≠C->h'.get? b=B' o->h₂.get? b=B' o)(Mf:h₂.Ns C LK)(NZ:St W base sc env (Yc Y D C) Γ Ti {KR with heap:=h₂,toks:=tk})(e:Ev W {KR with heap:=h₂,toks:=tk} s₆)(iv:dl W base Oz s₆.heap)(L8:∀b o,b≠D->s₆.heap.get? b=B' o->h₇.get? b=B' o)(pl:h₇.PlainList D T6.toArray)(vs:cM W s₆.heap (Yc Y D C) T6 R3)(wl:R3.length<=i+1)(tot:KN=R3++SZ)(cm:cC f (l.drop (i+1)) Oz=B' (SZ,T')):CJ W base sc env Y Γ f l KN T' D C Sx s (i+1) Oz R3 SZ T6 {s₆ with heap:=h₇,toks:=tk₇}:=by
 have kk:∀b o,¬W.mut b->b≠D->b≠C->h'.get? b=B' o->h₇.get? b=B' o:=λb o n1 n2 n3 z=>L8 b o n2 (e.keep b o n1 (LQ b o n3 z))
 have NO:=NZ.ev e iv
 exact⟨cm,tot,wl,pl,vs.keep λb o hb O z=>L8 b o (λq=>hb (.inl (.inr q))) z,NO.chg q.d (.inl (.inl (.inr rfl))) (NO.y.there D (.inl (.inr rfl))) L8 (λO=>pl.elim λn e=>⟨_,e,.aaM (by simp)⟩),iw.frame _ _ _ Pj λb o nm z e=>z.elim λO z=>kk b o nm (cS z q.d2) (cS z q.c2) e,⟨LK,va Mf λo z=>L8 _ o (bq q.dc) (e.keep _ o q.c.nm z)⟩,J.ev.to e λb o nm z=>kk b o nm (cS z q.d0) (cS z q.c0) (hk b o (λw=>cS z (iw.fresh b w) rfl) (J.ev.keep b o nm z))⟩
theorem CJ.off(q:BM W base env Y D C wr s KB)(iw:IW W A Y tg l I wr Sx s KB)(J:CJ W base sc env Y Γ f l KN T' D C Sx s i Ti ws rs ys KR)(hk:∀b o,¬wr b->KR.heap.get? b=B' o->h'.get? b=B' o):St W base sc env (Yc Y D C) Γ Ti {KR with heap:=h',toks:=tk}:=J.st.acA q.w q.ny (iw.nd _ _ J.sx) hk
theorem CJ.turn{s':adt}{xs:List O'}{bd:V->Option β}{ss:β->List Sl}{G:H'->Prop}{Rn:H'->Prop}(S:dX W base n R.ev)(S':gv W base n R.tst)(hA:Rm n A)(q:BM W base env Y D C wr s KB)(iw:IW W A Y tg l I wr Sx s KB)(Ss:sw W A base sc env Γ tg s' xs bd ss)(cs:Aj env s' xs cl)(hz:l.length<=sizeLine)(hi:i<l.length)(J:CJ W base sc env Y Γ (ki R sc Γ s' xs bd ss ifs Lc) l KN T' D C Sx s i Ti ws rs ys KR)(go:∀{Oz R3 SZ T6 Li},CJ W base sc env Y Γ (ki R sc Γ s' xs bd ss ifs Lc) l KN T' D C Sx s (i+1) Oz R3 SZ T6 Li->G Li):qaa W A (aeF (.ref I)) (Fa W A N tg (.ref I) Rn λv KA=>qaa W A (assign tg (adj s' cl C env) v) (λO KB=>
    qaa W A (forIn ifs true λc r=>if r=true then do let ok <- aex c (adj s' cl C env) (Z' c (adj s' cl C env));pure (ForInStep.yield ok) else pure (ForInStep.yield r)) (λok KH=>
     if ok=true then qaa W A (Z' Lc (adj s' cl C env)) (λx KR=>qaa W A (call (.builtin "list.append") [.ref D,x]) (λO Li=>G Li) N KR) N KH
     else G KH) N KB) N KA) N KR:=by
 have Q2:=J.cm
 replace Q2:=(List.drop_eq_getElem_cons hi)▸Q2
 refine aac Q2 λp hp Q2=>aac Q2 λz hq Q2=>aac hp λb hb hp=>aac hp λa ha hp=>?_
 obtain⟨ok,NF⟩:=a
 refine iw.next i _ KR _ _ _ _ (bC hi) J.sx λy h' tk ry Pj hk=>?_
 refine J.ns.elim λacT Pl=>Ss hb cs q.c (.inr rfl) (J.off q iw hk) (va Pl λo=>hk C o λw=>q.ny C w (.inr rfl)) (ry.weaken λb yb=>?_) λh₂ LK L0 LQ Mf NZ stX=>?_
 .rcases yb with(yb|e)|e
  .exact .inl yb
  .exact .inr ⟨e▸q.d2,(J.st.y.there b (.inl (.inr e))).imp λo e=>e.1⟩
  .exact .inr ⟨e▸q.c2,(J.st.y.there b (.inr e)).imp λo e=>e.1⟩
 have kp:=J.keep q iw hk
 have Zk:∀b,W.mut b->Yc Y D C b:=λb m=>.inl (.inl (q.ym b m))
 have XH:∀{s₆:H'},Ev W {KR with heap:=h₂,toks:=L0} s₆->s₆.heap.PlainList D ys.toArray:=λe=>kp.1.imp λn z=>e.keep _ _ q.d.nm (LQ _ _ q.dc z)
 have XL:∀{s₆:H'},Ev W {KR with heap:=h₂,toks:=L0} s₆->cM W s₆.heap (Yc Y D C) ys ws:=λe=>(kp.2.keep λb o hb O z=>LQ b o (λq=>hb (.inr q)) z).keep (e.kpD Zk)
 refine pk S' hA (b:=ok) (T':=NF) ha stX λLi Qy Nt=>?_
 clear ha;induction ok using Bool.casesOn with
 |false=>
  obtain rfl:=ac hp;cases Q2;exact go (J.on (s₆:=Li) (h₇:=Li.heap) (tk₇:=Li.toks) q iw Pj hk LQ Mf NZ Nt Qy.inv (λb o O e=>e) (XH Nt) (XL Nt) (Nat.le_succ_of_le J.wl) J.tot hq)
 |true=>
  refine aac hp λrr hr hp=>?_;obtain rfl:=ac hp;cases Q2;refine S.aah hA (v:=rr.1) (T₁:=rr.2) hr Qy λx s₆ WE NO RO=>cq (hsz:=?_) (XH (Nt.trans RO)) λh₇ QZ Sr=>?_
  .rw[List.push_toArray] at QZ;exact go (J.on (s₆:=s₆) (h₇:=h₇) (tk₇:=s₆.toks) q iw Pj hk LQ Mf NZ (Nt.trans RO) NO.inv (λb o hb e=>(Sr.2 b hb).trans e) QZ ((XL (Nt.trans RO)).append (.cons WE .nil)) (by rw[bc];exact Nat.succ_le_succ J.wl) (by rw[J.tot,bv];rfl) hq)
  ·(refine sb ay ?_;refine sb J.vs.length ?_);exact aG J.wl (Nat.le_of_lt (bX hi hz))
theorem St.less(st:St W base sc env Y' Γ T s)(h:∀b,Y b->Y' b)(ym:∀b,W.mut b->Y b):St W base sc env Y Γ T s:=have er:=st.er;⟨st.inv,⟨ym,λb y=>st.y.there b (h b y),λb y=>st.y.new b (h b y)⟩,er.kind,er.globals,er.builtins,er.gk,λx i v hd a b c=>(er.var x i v hd a b c).imp λu p=>⟨p.1,p.2.weaken h⟩,er.loc,er.cel,er.li,er.fnk⟩
theorem CJ.stop{Q:H'->Prop}{QQ:qab}(q:BM W base env Y D C wr s KB)(iw:IW W A Y tg l I wr Sx s KB)(hz:l.length<=sizeLine)(hi:i=l.length)(J:CJ W base sc env Y Γ f l KN T' D C Sx s i Ti ws rs ys KR)(L3:∀sf m,VR W sf.heap (λb=>Y b\/b=C) (.ref D) (.lst KN)->sf.heap.Ns C m->St W base sc env (λb=>Y b\/b=C) Γ T' sf->Ev W s sf->Q sf):qaa W A (aeF (.ref I)) (Fa W A N tg (.ref I) Q QQ) N KR:=by
 have cm:=J.cm
 rw[hi,List.drop_length] at cm
 cases cm
 have tot:=J.tot
 rw[a0] at tot
 refine iw.done KR _ _ _ _ (hi▸J.sx) λh' tk hk=>J.ns.elim λm hn=>?_
 have kp:=J.keep q iw hk
 have le:∀b,(Y b\/b=C)->Yc Y D C b:=λb y=>y.elim (λz=>.inl (.inl z)) .inr
 refine L3 _ m ?_ (va hn λo=>hk C o λw=>q.ny C w (.inr rfl)) ((J.off q iw hk).less le λb m=>.inl (q.ym b m)) ?_
 .refine kp.1.elim λnn e=>.lst (n:=nn) (xs:=ys) ?_ (λy=>y.elim q.nd q.dc) e (tot▸kp.2.weaken le);refine sb tot ?_;exact aG J.wl (hi▸hz)
 .exact J.ev.to (h₂:=KR.heap) (tk:=KR.toks) (Ev.refl W KR) λb o nm z=>hk b o (λw=>cS z (iw.fresh b w) rfl) (J.ev.keep b o nm z)
theorem Am{it:Expr}{s':adt}{xs:List O'}{bd:V->Option β}{ss:β->List Sl}{use:Option (G'->Sem Unit)}(S:dX W base n R.ev)(S':gv W base n R.tst)(hA:Rm n A)(q:BM W base env Y D C wr s KB)(iw:IW W A Y tg l I wr Sx s KB)(Ss:sw W A base sc env Γ tg s' xs bd ss)(cs:Aj env s' xs cl)(hz:l.length<=sizeLine)(J:CJ W base sc env Y Γ (ki R sc Γ s' xs bd ss ifs Lc) l KN T' D C Sx s 0 T₁ [] KN [] KR)(L3:∀sf m,VR W sf.heap (λb=>Y b\/b=C) (.ref D) (.lst KN)->sf.heap.Ns C m->St W base sc env (λb=>Y b\/b=C) Γ T' sf->Ev W s sf->aei (ade W.prog W.w) A E use Q (.ref D) C (.ok .next) sf):aes (ade W.prog W.w) A (.compStart (.ListComp Lc [⟨tg,it,ifs,0⟩] s' pos) 0 (.ref I) (.ref D) (adj s' cl C env)) (aei (ade W.prog W.w) A E use Q (.ref D) C) KR:=by
 have Uu:aes (ade W.prog W.w) A (.compLoop (.ListComp Lc [⟨tg,it,ifs,0⟩] s' pos) 0 (.ref I) (.ref D) (adj s' cl C env)) (aei (ade W.prog W.w) A E use Q (.ref D) C) KR:=by
  refine Ak rfl (λk MV=>∃i Ti ws rs ys,k+i=l.length/\CJ W base sc env Y Γ (ki R sc Γ s' xs bd ss ifs Lc) l KN T' D C Sx s i Ti ws rs ys MV) (λk Li ⟨i,Ti,ws,rs,ys,hk,J⟩=>?_) l.length (J2 0 T₁ ([]) KN ([]) rfl J);induction k using Nat.casesOn with
  |zero=>exact J.stop q iw hz ((ci i).symm.trans hk) L3
  |succ k=>exact J.turn S S' hA q iw Ss cs hz (hk▸Nat.lt_add_of_pos_left (Nat.succ_pos k)) λJ'=>⟨k,Nat.lt_succ_self k,i+1,_,_,_,_,(Nat.succ_add k i).symm.trans hk,J'⟩
 exact codeAny_compStart_list Uu (iw.self _ _ _ J.sx Uu)
theorem wF{h₁:P'}{M2:O'->Option G'}{T₁:TS}{ob oc:Obj}(st:St W base sc env Y Γ T s)(iw:IW W A Y tg l I wr Sx s KB)(KG:St W base sc env Y Γ T₁ KB)(KL:Ev W s KB)(hb:ob={cls:=.type "list",dict:=F',data:=.seq ([]:List G').toArray})(Oh:oc={cls:=.type "dict",data:=.dict #[]})(hD:D=KB.heap.objs.size)(hC:C=(KB.heap.push ob).objs.size)(Sh:h₁.Ns C M2)(Ui:Heap.SameBut C ((KB.heap.push ob).push oc) h₁)(hc:cC f l T₁=B' (KN,T')):BM W base env Y D C wr s KB/\CJ W base sc env Y Γ f l KN T' D C Sx s 0 T₁ [] KN [] {KB with heap:=h₁,toks:=tk}:=by
 have Xb:C=D+1:=by(refine sb hC ?_;refine sb hD ?_);exact Heap.size_push ..
 have d2:KB.heap.get? D=F':=hD▸aap _
 have c2:KB.heap.get? C=F':=dg (by(refine sb Xb ?_;refine sb hD ?_);exact bm _)
 have s0:∀{X},KB.heap.get? X=F'->s.heap.get? X=F':=λ{X} e=>cc.mpr λo z=>(st.stays KG.inv KL X o z).elim λo' z'=>cS z' e rfl
 have dc:D≠C:=Xb▸bD (Nat.lt_succ_self D)
 have w:∀X,wr X->X≠D/\X≠C/\¬Y X:=λX hX=>(iw.nd _ _ iw.st X hX).elim λo z=>⟨cS z.1 d2,cS z.1 c2,λy=>(st.y.there X y).elim λo' z'=>cS z'.1 (iw.fresh X hX) rfl⟩
 have q:BM W base env Y D C wr s KB:=⟨KG.fra d2,KG.fra c2,dc,d2,c2,s0 d2,s0 c2,λX hX=>st.fra (iw.fresh X hX),λX hX y=>y.elim (λy=>y.elim (w X hX).2.2 (w X hX).1) (w X hX).2.1,st.y.ym,λy=>(KG.y.there D y).elim λo z=>cS z.1 d2 rfl⟩
 have kp:∀b o,KB.heap.get? b=B' o->h₁.get? b=B' o:=λb o e=>(Ui.2 b (cS e c2)).trans (aB _ (aB _ e))
 have stC:=(KG.hide (o:=ob) (.aaM (by simp [hb])) (by rw[hb];rfl)).hide (o:=oc) (.aaM (by simp [Oh])) (by rw[Oh];rfl)
 have Y3:((KB.heap.push ob).push oc).get? C=B' oc:=hC▸aF _ (by rw[Oh];rfl)
 have stY:St W base sc env (Yc Y D C) Γ T₁ {KB with heap:=(KB.heap.push ob).push oc}:=by(refine sb hD ?_;refine sb hC ?_);exact stC
 refine⟨q,hc,rfl,br 0,⟨0,(Ui.2 D dc).trans (aB _ (hD▸hb▸aF _ (by rw[hb];rfl)))⟩,.nil,stY.chg (X:=C) (h':=h₁) q.c (.inl (.inr rfl)) ⟨_,Y3,.aaM (by simp [Oh])⟩ (λb o hb e=>(Ui.2 b hb).trans e) (λO=>pj Sh),iw.frame 0 _ _ iw.st λb o O O e=>kp b o e,⟨_,Sh⟩,KL.to (h₂:=KB.heap) (tk:=KB.toks) (Ev.refl W KB) λb o nm z=>kp b o (KL.keep b o nm z)⟩
end
theorem sA{it tg:Expr}{s':adt}{l:List V}{xs:List O'}{bd:V->Option β}{ss:β->List Sl}{use:Option (G'->Sem Unit)}(S:dX W base n R.ev)(S':gv W base n R.tst)(hA:Rm n A)(ok:f5 sc s' xs=true)(fo:eM sc Γ s' xs=true)(YA:∀y,foldedSetIterable it env y=pure y)(Ss:sw W A base sc env Γ tg s' xs bd ss)(hi:∀{Q':qab},(∀I wr Sx KB,IW W A Y tg l I wr Sx s KB->St W base sc env Y Γ T₁ KB->Ev W s KB->Q' (.ref I) KB)->qaa W A (Z' it env) (λx KA=>qaa W A (aeD x) Q' E KA) E s)(hz:l.length<=sizeLine)(hc:cC (ki R sc Γ s' xs bd ss ifs Lc) l T₁=B' (KN,T'))(st:St W base sc env Y Γ T s)(L3:∀D C sf m,VR W sf.heap (λb=>Y b\/b=C) (.ref D) (.lst KN)->sf.heap.Ns C m->s.heap.get? C=F'->xX W base env C->St W base sc env (λb=>Y b\/b=C) Γ T' sf->Ev W s sf->aei (ade W.prog W.w) A E use Q (.ref D) C (.ok .next) sf):qaa W A (comprehension (.ListComp Lc [⟨tg,it,ifs,0⟩] s' pos) s' env LX (newList []) false (Z' it env) use) Q E s:=by
 refine(G0 ok fo st).elim λcl cs=>wpAny_comprehension_free rfl YA cs.clo cs.kind cs.names (hi λI wr Sx KB iw KG KL=>?_)
 refine adw (wpAny_newFunctionEnv cs.cell (λy hy=>absurd hy List.not_mem_nil) (λh₁ Sh Ui=>?_) cs.kind)
 have q:=wF (D:=KB.heap.objs.size) (tk:=KB.toks+([]:List (O'×G')).length) st iw KG KL rfl rfl rfl rfl Sh Ui hc
 exact Am S S' hA q.1 iw Ss cs hz q.2 λsf m r hn st e=>L3 _ _ sf m r hn q.1.c0 q.1.c st e
theorem xY{x:O'}{s':adt}(ok:f5 sc s' [x]=true)(fo:eM sc Γ s' [x]=true):sw W A base sc env Γ (.Name x px) s' [x] (λv=>B' v) λv=>[.pl v]:=by
 intro cl C Y' Ti s u b y m Q E hu cs fc yc st hn r k
 obtain rfl:=ac hu
 refine ado (bW (env:=adj s' cl C env) (ck (cs.loc x (.head _))) hn (λh₂ Mf Ow=>?_) (by simp [adj,aer,cs.kind]))
 have LQ:∀b o,b≠C->s.heap.get? b=B' o->h₂.get? b=B' o:=λb o hb e=>(Ow.2 b hb).trans e
 have NZ:=st.chg (X:=C) (h':=h₂) (tk:=s.toks+1) fc (.inl yc) (pj hn) LQ (λO=>pj Mf)
 exact k h₂ _ _ LQ Mf NZ ⟨NZ.inv,NZ.y,NZ.er.comp ok fo cs.free cs.only fc.nm Mf (by simp) (r.keep λb o hb O e=>LQ b o (λq=>hb (q▸yc)) e)⟩
theorem mP.iw{fp:M'->Prop}{Sx:Nat->P'->Prop}{Yi:M'->Prop}{l:List V}{x:O'}(hA:A.handled=F')(ym:∀b,W.mut b->Y b)(fr:¬W.mut I)(ia:mP W env Y l I fp Sx Yi s KB):IW W A Y (.Name x px) l I (· =I) Sx s KB where
 next:=λi u s' Qn Q E E' hu hs hQ=>ia.it.next i u A s' _ _ hA hu hs λy h' tk r Lv hk=>wpAny_of_eq (show adN (.Name x px) (.ref I) y=pure () from rfl) (hQ y h' tk (r.weaken λb y=>y.elim (ia.sub b) λz=>ia.new b z.1) Lv λb o nb e=>hk b o nb e)
 done:=λs' Qn Q E E' hs hQ=>ia.it.done A s' _ _ hA hs λh' tk hk=>hQ h' tk λb o nb e=>hk b o nb e
 self:=λs' Q E hs hQ=>ia.it.self 0 A s' _ _ hA hs hQ
 nd:=λi h hs X e=>e▸ia.it.nd i h hs
 frame:=λi h h' hs k=>ia.it.frame i h h' hs (λb hb o e=>(ia.fp b hb).elim (λq=>k b o (q▸fr) (q▸ia.at_.imp λo z=>z.1) e) λq=>k b o (λm=>q.1 (ym b m)) (q.2.imp λo z=>z.1) e) λb o nb O e=>k b o (λm=>nb (ia.sub b (ym b m))) (Option.ne_none_iff_exists'.mp λz=>nb (ia.new b z)) e
 st:=ia.st
 fresh:=λX e=>e▸ia.fresh
theorem kj(Z:fK W B base)(S:dX W base n R.ev)(S':gv W base n R.tst)(hA:Rm n A){Lc it:Expr}{x:O'}{px:Pos}{ifs:List Expr}{s':adt}{pos LX:Pos}{l KN:List V}{T₁:TS}{use:Option (G'->Sem Unit)}{Q:qab}(ok:f5 sc s' [x]=true)(OS:jP it=true)(fo:eM sc Γ s' [x]=true)(hi:lJ B sc (R.ev sc Γ) T it=B' (l,T₁))(hz:l.length<=sizeLine)(hc:cC (ki R sc Γ s' [x] (λv=>B' v) (λv=>[.pl v]) ifs Lc) l T₁=B' (KN,T'))(st:St W base sc env Y Γ T s)(L3:∀D C sf m,VR W sf.heap (λb=>Y b\/b=C) (.ref D) (.lst KN)->sf.heap.Ns C m->s.heap.get? C=F'->xX W base env C->St W base sc env (λb=>Y b\/b=C) Γ T' sf->Ev W s sf->aei (ade W.prog W.w) A E use Q (.ref D) C (.ok .next) sf):qaa W A (comprehension (.ListComp Lc [⟨.Name x px,it,ifs,0⟩] s' pos) s' env LX (newList []) false (Z' it env) use) Q E s:=sA S S' hA ok fo (λy=>by revert OS;induction it using Expr.casesOn<;>first|exact nb|(intro OS;first|rfl|exact nb OS)) (xY ok fo) (λk=>sr Z S hA hi st λI fp Sx Yi KB ia KG KL=>k I _ Sx KB (ia.iw hA.handled st.y.ym (st.fra ia.fresh).nm) KG KL) hz hc st L3
theorem vb{sf:H'}(r:VR W sf.heap (λb=>Y b\/b=C) (.ref D) (.lst KN))(hn:sf.heap.Ns C m)(hC:s.heap.get? C=F')(fc:xX W base env C)(PS:St W base sc env (λb=>Y b\/b=C) Γ T sf)(e:Ev W s sf):aei (ade W.prog W.w) A E F' (f6 W base Y T (.lst KN) s) (.ref D) C (.ok .next) sf:=by
 refine⟨m,hn,λQj PW=>?_⟩
 have kp:∀b o,b≠C->sf.heap.get? b=B' o->Qj.get? b=B' o:=λb o hb e=>(PW.2 b hb).trans e
 refine(pj hn).elim λo ho=>⟨(r.keep (h':=Qj) λb o hb O e=>kp b o (λq=>hb (.inr q)) e).weaken λb y=>.inl y,PS.inv.fill fc.nm fc.nb ho.1 ho.2 kp,?_⟩
 exact e.to (h₂:=sf.heap) (tk:=sf.toks) (Ev.refl W sf) λb o nm z=>kp b o (cS z hC) (e.keep b o nm z)
theorem qC(Z:fK W B base)(S:dX W base n R.ev)(S':gv W base n R.tst)(hA:Rm n A){it:Expr}{x:O'}{s':adt}{l:List V}(ok:f5 sc s' [x]=true)(OS:jP it=true)(fo:eM sc Γ s' [x]=true)(hi:lJ B sc (R.ev sc Γ) T it=B' (l,T₁))(hz:l.length<=sizeLine)(hc:cC (ki R sc Γ s' [x] (λv=>B' v) (λv=>[.pl v]) ifs Lc) l T₁=B' (KN,T'))(st:St W base sc env Y Γ T s):qaa W A (Z' (.ListComp Lc [⟨.Name x px,it,ifs,0⟩] s' pos) env) (f6 W base Y T' (.lst KN) s) E s:=by
 rw[eval_ListComp]
 exact kj Z S S' hA ok OS fo hi hz hc st λD C sf m r hn hC fc PS e=>vb r hn hC fc PS e
end
noncomputable def vv(env:Env)(m cm:O'->Option G')(n:O'):Option G':=if env.kindOf n=B' .local then m n else cm n
noncomputable def Yf(env:Env)(Y:M'->Prop)(Γ:List Sl)(oa:Nat->M')(b:M'):Prop:=Y b\/b=env.locals\/(∃n,env.cells.lookup n=B' b)\/∃i v,Γ[i]? =B' (.ow v)/\b=oa i
noncomputable def Hm(env:Env)(b:M'):Prop:=b=env.locals\/∃n,env.cells.lookup n=B' b
variable {oa:Nat->M'}
theorem Hm.yf{b:M'}(h:Hm env b):Yf env Y Γ oa b:=h.elim (λq=>.inr (.inl q)) λq=>.inr (.inr (.inl q))
variable {KX:List Sl}{m' LD cm:O'->Option G'}
section
variable {W:Wd}{B:Bs}{base:P'}{R:Rc}{h₀:P'}{v:V}
set_option tactic.hygienic true in
theorem cU.vr(o:cU W h Y a v)(sub:∀b,Y' b->Y b)(na:¬Y' a):VR W h Y' (.ref a) v:=by
 induction v using V.casesOn<;>try (exact o.elim)
 case lst l=>obtain⟨⟨xs,⟨nn,e⟩,r⟩,z⟩:=o;exact .lst z na e (r.weaken sub)
 case di l=>obtain⟨⟨es,g,r⟩,z,y⟩:=o;exact .di z y na g (r.weaken sub)
 case ds l=>obtain⟨⟨es,g,r⟩,z,y⟩:=o;exact .ds z y na g (r.weaken sub)
set_option tactic.hygienic true in
theorem cU.nt(o:cU W h Y a v):∃ob,h.get? a=B' ob/\NT ob:=by
 induction v using V.casesOn<;>try (exact o.elim)
 case lst l=>obtain⟨⟨xs,⟨nn,e⟩,r⟩,z⟩:=o;exact⟨_,e,.aaM (by simp)⟩
 case di l=>obtain⟨⟨es,⟨ob,_,_,e,hx,hd,_⟩,r⟩,z,y⟩:=o;exact⟨ob,e,.aaE hd⟩
 case ds l=>obtain⟨⟨es,⟨ob,_,_,e,hx,hd,_⟩,r⟩,z,y⟩:=o;exact⟨ob,e,.aaE hd⟩
set_option tactic.hygienic true in
theorem cU.keep(o:cU W h Y a v)(k:kN Y h h')(ka:∀ob,h.get? a=B' ob->h'.get? a=B' ob):cU W h' Y a v:=by
 induction v using V.casesOn<;>try (exact o.elim)
 case lst l=>obtain⟨⟨xs,⟨nn,e⟩,r⟩,z⟩:=o;exact⟨⟨xs,⟨nn,ka _ e⟩,r.keep k⟩,z⟩
 case di l=>obtain⟨⟨es,g,r⟩,z⟩:=o;exact⟨⟨es,fe g λO O e=>ka _ e,r.keep k⟩,z⟩
 case ds l=>obtain⟨⟨es,g,r⟩,z⟩:=o;exact⟨⟨es,fe g λO O e=>ka _ e,r.keep k⟩,z⟩
structure FR (W:Wd) (base h₀:P') (sc:Sc) (env:Env) (Y:M'->Prop) (Γ:List Sl) (oa:Nat->M') (m cm:O'->Option G') (h:P'):Prop where
 kind:env.scope.kind=.function
 globals:env.globals=aed
 builtins:env.builtins=0
 nm:env.scope.names=sc.names
 ns:h.Ns env.locals m
 cell:∀n c,env.cells.lookup n=B' c->h.IsCell c (cm n)
 has:∀n,sc.names.lookup n=B' .cell->∃c,env.cells.lookup n=B' c
 apart:∀n n' c,env.cells.lookup n=B' c->env.cells.lookup n'=B' c->n=n'
 ne:∀n c,env.cells.lookup n=B' c->c≠env.locals
 aai:¬W.mut env.locals/\base.get? env.locals=F'/\¬Y env.locals/\h₀.get? env.locals=F'
 aam:∀n c,env.cells.lookup n=B' c->¬W.mut c/\base.get? c=F'/\¬Y c/\h₀.get? c=F'
 aaj:∀n,sc.names.lookup n≠B' .free
 pl:∀n i v,cZ sc n=true->db sc.slots n=B' i->Γ[i]? =B' (.pl v)->∃x,vv env m cm n=B' x/\VR W h (Yf env Y Γ oa) x v
 ow:∀n i v,cZ sc n=true->db sc.slots n=B' i->Γ[i]? =B' (.ow v)->vv env m cm n=B' (.ref (oa i))
 own:∀i v,Γ[i]? =B' (.ow v)->cU W h (Yf env Y Γ oa) (oa i) v/\¬Y (oa i)/\oa i≠env.locals/\(∀n c,env.cells.lookup n=B' c->c≠oa i)/\¬W.mut (oa i)/\base.get? (oa i)=F'/\h₀.get? (oa i)=F'
 inj:∀i j v u,Γ[i]? =B' (.ow v)->Γ[j]? =B' (.ow u)->oa i=oa j->i=j
 old:∀b o,¬W.mut b->h₀.get? b=B' o->h.get? b=B' o
noncomputable def kO(Γ KX:List Sl):Prop:=∀(i:Nat)(sl:Sl),KX[i]? =B' sl->Γ[i]? =B' sl\/∃v,sl=Sl.pl v/\Γ[i]? =B' (Sl.ow v)
theorem kO.refl(Γ:List Sl):kO Γ Γ:=λO O e=>.inl e
theorem acj{sl t:Sl}(e:Sl.frz b sl=t):sl=t\/∃v,t=Sl.pl v/\sl=Sl.ow v:=by
 induction b using Bool.casesOn with
 |false=>exact .inl e
 |true=>induction sl using Sl.casesOn with
  |ow v=>exact .inr ⟨v,e.symm,rfl⟩
  |pl v=>exact .inl e
  |un=>exact .inl e
theorem mQ(ms:List O')(ns:List O'):∀(Γ:List Sl),kO Γ (zO ms ns Γ):=by
 induction ns with
 |nil=>intro Γ;induction Γ using List.casesOn<;>exact kO.refl _
 |cons x ns ih=>
  intro Γ;rcases Γ with _|⟨sl,Γ⟩
  .exact kO.refl _
  intro i t e;rcases i with _|i
  .exact(acj (ac e)).imp (aM B') λ⟨v,h,k⟩=>⟨v,h,aM B' k⟩
  .exact ih Γ i t e
theorem eP(sc:Sc)(e:Expr)(Γ:List Sl):kO Γ (eJ sc e Γ):=by
 unfold eJ
 cases lK (dZ 40 e) sc.slots Γ
 .exact kO.refl _
 .exact mQ _ _ _
theorem dN(f:kO Γ KX):∀b,Yf env Y KX oa b->Yf env Y Γ oa b:=by
 rintro b (y|y|y|⟨i,v,e,q⟩)
 .exact .inl y
 .exact .inr (.inl y)
 .exact .inr (.inr (.inl y))
 .rcases f i _ e with e|⟨u,e',_⟩
  .exact .inr (.inr (.inr ⟨i,v,e,q⟩))
  .cases e'
theorem FR.st(fr:FR W base h₀ sc env Y Γ oa m cm s.heap)(f:kO Γ KX)(i:dl W base T s.heap)(y:fm W base Y s.heap):St W base sc env (Yf env Y KX oa) KX T s:=by
 have hk:∀n,env.kindOf n=sc.names.lookup n:=λn=>by unfold Env.kindOf;rw[fr.nm]
 refine⟨i,⟨λb mb=>.inl (y.ym b mb),?_,?_⟩,?_⟩
 .rintro b (q|rfl|⟨n,q⟩|⟨j,v,e,rfl⟩)
  .exact y.there b q
  .refine x33 fr.ns λo es ep ho hd O=>?_;exact⟨o,ho,.aaE hd⟩
  .refine x12 (fr.cell n b q) λo ho hd=>?_;exact⟨o,ho,λxs e=>by replace hd:=e▸hd;cases hd⟩
  .rcases f j _ e with e|⟨u,e',_⟩
   .exact(fr.own j v e).1.nt
   .cases e'
 .rintro b (q|rfl|⟨n,q⟩|⟨j,v,e,rfl⟩) mb
  .exact y.new b q mb
  .exact fr.aai.2.1
  .exact(fr.aam n b q).2.1
  .rcases f j _ e with e|⟨u,e',_⟩
   .exact(fr.own j v e).2.2.2.2.2.1
   .cases e'
 .refine⟨fr.kind,fr.globals,fr.builtins,λn hg=>?_,λn j v hd hv hj LZ=>?_,fr.aai.1,λn c hc=>(fr.aam n c hc).1,⟨?_,λn c hc=>?_⟩,λn hc=>by rw[hk];exact hc⟩
  .unfold fw at hg;rw[hk];revert hg;cases sc.names.lookup n with
   |none=>intro h;exact nb h
   |some k=>induction k using NameKind.casesOn<;>intro h<;>first|exact .inl rfl|exact .inr rfl|exact nb h
  .have at_:∀x,vv env m cm n=B' x->iV env s.heap n x:=λx e=>by
    unfold vv at e;unfold cZ at hv;clear hj LZ;cases hl:sc.names.lookup n with
    |none=>rw[hl] at hv;exact nb hv
    |some k=>
     rw[hl] at hv;induction k using NameKind.casesOn<;>try (first|exact no hv|(exact nb hv;done))
     .rw[hk,hl,aZ rfl] at e;exact .inl ⟨by rw[hk,hl],m,fr.ns,e⟩
     .rw[hk,hl,aL (by decide)] at e;refine x11 (fr.has n hl) λc hc=>?_;exact .inr ⟨.inl (by rw[hk,hl]),c,hc,e▸fr.cell n c hc⟩
     .exact absurd hl (fr.aaj n)
   rcases f j _ LZ with e|⟨u,e',e⟩
   .refine x12 (fr.pl n j v hv hj e) λx hx r=>?_;exact⟨x,at_ x hx,r.weaken (dN f)⟩
   .cases e';refine⟨_,at_ _ (fr.ow n j v hv hj e),(fr.own j v e).1.vr (dN f) ?_⟩;rintro (q|q|⟨n',q⟩|⟨j',v',e2,q⟩)
    .exact(fr.own j v e).2.1 q
    .exact(fr.own j v e).2.2.1 q
    .exact(fr.own j v e).2.2.2.1 n' _ q rfl
    .rcases f j' _ e2 with e3|⟨u',e4,_⟩
     .have:=fr.inj j j' v v' e e3 q;subst this;replace e2:=LZ▸e2;cases e2
     .cases e4
  .refine x32 fr.ns λo es ep ho O=>?_;exact⟨o,ho⟩
  .refine x12 (fr.cell n c hc) λo ho O=>?_;exact⟨o,ho⟩
theorem kZ{b:M'}(y:∀b,W.mut b->Y b)(mb:W.mut b):Yf env Y Γ oa b:=.inl (y b mb)
theorem FR.ev(fr:FR W base h₀ sc env Y Γ oa m cm s.heap)(y:∀b,W.mut b->Y b)(e:Ev W s s'):FR W base h₀ sc env Y Γ oa m cm s'.heap where
 kind:=fr.kind
 globals:=fr.globals
 builtins:=fr.builtins
 nm:=fr.nm
 ns:=by refine x32 fr.ns λo es ep ho r=>?_;exact(uU o es ep (e.keep _ _ fr.aai.1 ho) r)
 cell:=λn c hc=>by refine x12 (fr.cell n c hc) λo ho r=>?_;exact⟨o,e.keep _ _ (fr.aam n c hc).1 ho,r⟩
 has:=fr.has
 apart:=fr.apart
 ne:=fr.ne
 aai:=fr.aai
 aam:=fr.aam
 aaj:=fr.aaj
 pl:=λn i v a b c=>by refine x12 (fr.pl n i v a b c) λx p q=>?_;exact⟨x,p,q.keep (e.kpD λb mb=>kZ y mb)⟩
 ow:=fr.ow
 own:=λi v a=>by refine x02 (fr.own i v a) λp q=>?_;exact⟨p.keep (e.kpD λb mb=>kZ y mb) λob z=>e.keep _ _ q.2.2.2.1 z,q⟩
 inj:=fr.inj
 old:=λb o nb z=>e.keep b o nb (fr.old b o nb z)
set_option tactic.hygienic true in
theorem FR.freeze(fr:FR W base h₀ sc env Y Γ oa m cm h)(f:kO Γ KX):FR W base h₀ sc env Y KX oa m cm h where
 kind:=fr.kind
 globals:=fr.globals
 builtins:=fr.builtins
 nm:=fr.nm
 ns:=fr.ns
 cell:=fr.cell
 has:=fr.has
 apart:=fr.apart
 ne:=fr.ne
 aai:=fr.aai
 aam:=fr.aam
 aaj:=fr.aaj
 pl:=λn i v a b c=>by
  rcases f i _ c with d|⟨u,d',d⟩
  .refine x12 (fr.pl n i v a b d) λx p q=>?_;exact⟨x,p,q.weaken (dN f)⟩
  .cases d';refine⟨_,fr.ow n i v a b d,(fr.own i v d).1.vr (dN f) ?_⟩;rintro (q|q|⟨n',q⟩|⟨j',v',e2,q⟩)
   .exact(fr.own i v d).2.1 q
   .exact(fr.own i v d).2.2.1 q
   .exact(fr.own i v d).2.2.2.1 n' _ q rfl
   .rcases f j' _ e2 with e3|⟨u',e4,_⟩
    .have:=fr.inj i j' v v' d e3 q;subst this;replace e2:=c▸e2;cases e2
    .cases e4
 ow:=λn i v a b c=>by
  rcases f i _ c with d|⟨u,d',d⟩
  .exact fr.ow n i v a b d
  .cases d'
 own:=λi v c=>by
  rcases f i _ c with d|⟨u,d',d⟩
  .refine x02 (fr.own i v d) λp q=>?_;refine⟨?_,q⟩;clear c d;induction v using V.casesOn<;>try (exact p.elim)
   case lst l=>obtain⟨⟨xs,a,r⟩,z⟩:=p;exact⟨⟨xs,a,r.weaken (dN f)⟩,z⟩
   case di l=>obtain⟨⟨xs,a,r⟩,z⟩:=p;exact⟨⟨xs,a,r.weaken (dN f)⟩,z⟩
   case ds l=>obtain⟨⟨xs,a,r⟩,z⟩:=p;exact⟨⟨xs,a,r.weaken (dN f)⟩,z⟩
  .cases d'
 inj:=λi j v u a b c=>by
  rcases f i _ a with d|⟨u,d',d⟩
  .rcases f j _ b with e|⟨u,e',e⟩
   .exact fr.inj i j v _ d e c
   .cases e'
  .cases d'
 old:=fr.old
theorem qD{l:List O'}{n n':O'}{i:Nat}(h:db l n=B' i)(h':db l n'=B' i):n=n':=by
 have:=mw h
 rw[mw h'] at this
 exact(ac this).symm
theorem gI{x:O'}{sl:Sl}(h:du sc Γ x sl=B' KX):cZ sc x=true/\∃i,db sc.slots x=B' i/\i<Γ.length/\KX=Γ.set i sl:=by
 unfold du at h
 cases hv:cZ sc x with
 |false=>rw[hv] at h;exact no h
 |true=>
  rw[hv,cond_true] at h;refine aac h λi hi h=>?_;obtain⟨hl,rfl⟩:=aaf h;exact⟨rfl,i,hi,aS hl,rfl⟩
theorem qE{i:Nat}{v:V}:∀b,Yf env Y (Γ.set i (.pl v)) oa b->Yf env Y Γ oa b:=by
 rintro b (y|y|y|⟨j,u,e,q⟩)
 .exact .inl y
 .exact .inr (.inl y)
 .exact .inr (.inr (.inl y))
 .replace e:=(List.getElem?_set)▸e;split at e
  .split at e<;>cases e
  .exact .inr (.inr (.inr ⟨j,u,e,q⟩))
set_option tactic.hygienic true in
theorem cW{Y₁ OL:M'->Prop}(k:∀b,OL b->Y₁ b)(p:cU W h Y₁ a v):cU W h OL a v:=by
 induction v using V.casesOn<;>try (exact p.elim)
 case lst l=>obtain⟨⟨xs,a,r⟩,z⟩:=p;exact⟨⟨xs,a,r.weaken k⟩,z⟩
 case di l=>obtain⟨⟨xs,a,r⟩,z⟩:=p;exact⟨⟨xs,a,r.weaken k⟩,z⟩
 case ds l=>obtain⟨⟨xs,a,r⟩,z⟩:=p;exact⟨⟨xs,a,r.weaken k⟩,z⟩
theorem FR.acB{X:M'}{x:O'}{i:Nat}{y:G'}(fr:FR W base h₀ sc env Y Γ oa m cm h)(hX:X=env.locals\/∃n,env.cells.lookup n=B' X)(hi:db sc.slots x=B' i)(Ly:i<Γ.length)(k:∀b o,b≠X->h.get? b=B' o->h'.get? b=B' o)(ns:h'.Ns env.locals m')(cell:∀n c,env.cells.lookup n=B' c->h'.IsCell c (LD n))(hx:vv env m' LD x=B' y)(ho:∀n,n≠x->vv env m' LD n=vv env m cm n)(r:VR W h (Yf env Y Γ oa) y v):FR W base h₀ sc env Y (Γ.set i (.pl v)) oa m' LD h':=by
 have hid:Yf env Y Γ oa X:=by rcases hX with rfl|q;exact .inr (.inl rfl);exact .inr (.inr (.inl q))
 have kd:kN (Yf env Y Γ oa) h h':=λb o hb O e=>k b o (λq=>hb (q▸hid)) e
 have KY:∀j u,Γ[j]? =B' (.ow u)->oa j≠X:=λj u e q=>by
  clear k hid;rcases hX with rfl|⟨n,hn⟩
  .exact(fr.own j u e).2.2.1 q
  .exact(fr.own j u e).2.2.2.1 n _ hn q.symm
 have LG:∀j sl,(Γ.set i (.pl v))[j]? =B' sl->(j=i/\sl=.pl v)\/(j≠i/\Γ[j]? =B' sl):=λj sl e=>by
  rw[List.getElem?_set] at e;split at e
  .rename_i q;obtain rfl:=ac e;exact .inl ⟨q.symm,rfl⟩
  .rename_i q;exact .inr ⟨λz=>q z.symm,e⟩
 exact
 {kind:=fr.kind
  globals:=fr.globals
  builtins:=fr.builtins
  nm:=fr.nm
  ns:=ns
  cell:=cell
  has:=fr.has
  apart:=fr.apart
  ne:=fr.ne
  aai:=fr.aai
  aam:=fr.aam
  aaj:=fr.aaj
  pl:=λn j u a b c=>by
   rcases LG j _ c with⟨rfl,e⟩|⟨q,e⟩
   .clear c;cases e
    have:=qD b hi
    subst this
    exact⟨y,hx,(r.keep kd).weaken qE⟩
   .refine x12 (fr.pl n j u a b e) λz p r'=>?_
    have ME:n≠x:=λz=>by clear hx ho;subst z;rw[hi] at b;clear c e;obtain rfl:=ac b;exact q rfl
    exact⟨z,(ho n ME).trans p,(r'.keep kd).weaken qE⟩
  ow:=λn j u a b c=>by
   rcases LG j _ c with⟨rfl,e⟩|⟨q,e⟩
   .cases e
   .have ME:n≠x:=λz=>by clear hx ho;subst z;rw[hi] at b;clear c e;obtain rfl:=ac b;exact q rfl
    exact(ho n ME).trans (fr.ow n j u a b e)
  own:=λj u c=>by
   rcases LG j _ c with⟨rfl,e⟩|⟨q,e⟩
   .cases e
   .refine x02 (fr.own j u e) λp r'=>?_
    exact⟨cW qE (p.keep kd λob z=>k _ _ (KY j u e) z),r'⟩
  inj:=λj j' u u' a b c=>by
   rcases LG j _ a with⟨rfl,e⟩|⟨q,e⟩
   .cases e
   .clear hi a q;rcases LG j' _ b with⟨rfl,e'⟩|⟨q',e'⟩
    .cases e'
    .exact fr.inj j j' u u' e e' c
  old:=λb o nb e=>k b o (λq=>by
   clear k hid KY;subst q
   rcases hX with rfl|⟨n,hn⟩
   .rw[fr.aai.2.2.2] at e;exact no e
   .rw[(fr.aam n _ hn).2.2.2] at e;exact no e) (fr.old b o nb e)}
theorem FR.store{x:O'}{y:G'}{KX:List Sl}{Q:Unit->H'->Prop}(fr:FR W base h₀ sc env Y Γ oa m cm s.heap)(i:dl W base T s.heap)(yk:fm W base Y s.heap)(K6:du sc Γ x (.pl v)=B' KX)(r:VR W s.heap (Yf env Y Γ oa) y v)(k:∀m' LD h' tk,FR W base h₀ sc env Y KX oa m' LD h'->dl W base T h'->fm W base Y h'->(∀b,Yf env Y KX oa b->Yf env Y Γ oa b)->(∀b o,¬Hm env b->s.heap.get? b=B' o->h'.get? b=B' o)->Q () {s with heap:=h',toks:=tk}):qaa W A (aeq env x y) Q E s:=by
 refine hide λQz qz=>?_
 obtain⟨hv,j,hj,Ly,rfl⟩:=gI K6
 have hk:∀n,env.kindOf n=sc.names.lookup n:=λn=>by unfold Env.kindOf;exact sb fr.nm rfl
 have done:∀(X:M')(h':P')(tk:Nat)(m' LD:O'->Option G'),(X=env.locals\/∃n,env.cells.lookup n=B' X)->Heap.SameBut X s.heap h'->h'.Ns env.locals m'->(∀n c,env.cells.lookup n=B' c->h'.IsCell c (LD n))->vv env m' LD x=B' y->(∀n,n≠x->vv env m' LD n=vv env m cm n)->Q () {s with heap:=h',toks:=tk}:=by
  intro X h' tk m' LD hX hs ns cell hx ho;have kp:∀b o,b≠X->s.heap.get? b=B' o->h'.get? b=B' o:=λb o hb e=>(hs.2 b hb).trans e;have PE:¬W.mut X/\base.get? X=F'/\¬Y X:=by
   clear hs kp;rcases hX with rfl|⟨n,hn⟩
   .exact⟨fr.aai.1,fr.aai.2.1,fr.aai.2.2.1⟩
   .exact⟨(fr.aam n _ hn).1,(fr.aam n _ hn).2.1,(fr.aam n _ hn).2.2.1⟩
  have Wb:∃o,s.heap.get? X=B' o/\NT o:=by
   clear hs kp PE;rcases hX with rfl|⟨n,hn⟩
   .refine x33 fr.ns λo es ep ho hd O=>?_;exact⟨o,ho,.aaE hd⟩
   .refine x12 (fr.cell n _ hn) λo ho hd=>?_;exact⟨o,ho,λxs e=>by replace hd:=e▸hd;cases hd⟩
  refine x12 Wb λoX R9 Q7=>?_;refine k m' LD h' tk (fr.acB hX hj Ly kp ns cell hx ho r) (i.fill PE.1 PE.2.1 R9 Q7 kp) ⟨yk.ym,λb yb=>?_,yk.new⟩ qE (λb o hb e=>kp b o (λq=>hb (by clear hs kp PE R9;subst q;exact hX)) e);refine x12 (yk.there b yb) λo e c=>?_;exact⟨o,kp b o (λq=>PE.2.2 (q▸yb)) e,c⟩
 refine qz ?_
 clear Qz qz
 unfold cZ at hv
 clear j hj Ly K6 k;cases hl:sc.names.lookup x with
 |none=>rw[hl] at hv;exact nb hv
 |some kx=>
  replace hv:=hl▸hv;induction kx using NameKind.casesOn<;>try (first|exact no hv|(exact nb hv;done))
  .refine bW (by rw[hk,hl]) fr.ns (λh' PI Lv=>?_) (by rw[fr.kind];rfl);refine done env.locals h' _ _ cm (.inl rfl) Lv PI (λn c hc=>?_) ?_ λn hn=>?_
   .refine x12 (fr.cell n c hc) λo ho r'=>?_;exact⟨o,(Lv.2 c (fr.ne n c hc)).trans ho,r'⟩
   .unfold vv;rw[hk,hl,aZ rfl];simp
   .unfold vv;simp [hn]
  .refine x11 (fr.has x hl) λc hc=>?_;refine wpAny_storeName_cell fr.kind (by rw[hk,hl]) hc (fr.cell x c hc) λh' Oe Lv=>?_;refine done c h' s.toks m (λn=>if n=x then B' y else cm n) (.inr ⟨x,hc⟩) Lv ?_ (λn c' PB=>?_) ?_ λn hn=>?_
   .refine x32 fr.ns λo es ep ho r'=>?_;exact(uU o es ep ((Lv.2 _ (λq=>fr.ne x c hc q.symm)).trans ho) r')
   .by_cases e:n=x
    .clear done hl;subst e;rw[hc] at PB;obtain rfl:=ac PB;simpa using Oe
    .simp only[e,bg];refine x12 (fr.cell n c' PB) λo ho r'=>?_;exact⟨o,(Lv.2 c' (λq=>e (fr.apart n x c (q▸PB) hc))).trans ho,r'⟩
   .unfold vv;rw[hk,hl];simp
   .unfold vv;simp [hn]
  .exact absurd hl (fr.aaj x)
end
structure FS (W:Wd) (base:P') (sc:Sc) (env:Env) (Y:M'->Prop) (Γ:List Sl) (oa:Nat->M') (T:TS) (KE s:H'):Prop where
 fr:∃m cm,FR W base KE.heap sc env Y Γ oa m cm s.heap
 inv:dl W base T s.heap
 y:fm W base Y s.heap
 same:∃h tk,s={KE with heap:=h,toks:=tk}
noncomputable def cT(W:Wd)(base:P')(sc:Sc)(env:Env)(Y:M'->Prop)(KE:H')(H:M'->Prop)(s:H')(k:List Sl->TS->cK)(r:V×TS)(fl:Flow)(s':H'):Prop:=match fl with
 |.next=>∃KX T' NE,k KX T'=B' r/\FS W base sc env Y KX NE T' KE s'/\(∀b,Yf env Y KX NE b->H b\/s.heap.get? b=F')/\(∀b o,¬W.mut b->¬H b->s.heap.get? b=B' o->s'.heap.get? b=B' o)
 |.ret x=>VR W s'.heap Y x r.1/\dl W base r.2 s'.heap/\Ev W KE s'
 |_=>False
noncomputable def An(W:Wd)(base:P')(n:Nat)(xs:Sc->List Sl->TS->List adb->(List Sl->TS->cK)->cK):Prop:=∀{A:ada}{E:qab}{KE s:H'}{sc:Sc}{env:Env}{Y:M'->Prop}{Γ:List Sl}{oa:Nat->M'}{T:TS}{ss:List adb}{k:List Sl->TS->cK}{r:V×TS},Rm n A->xs sc Γ T ss k=B' r->FS W base sc env Y Γ oa T KE s->qaa W A (adJ ss env) (cT W base sc env Y KE (Yf env Y Γ oa) s k r) E s
section
variable {W:Wd}{B:Bs}{base:P'}{R:Rc}{Lq:M'->V->TS->cK}{KE:H'}{k:List Sl->TS->cK}{r:V×TS}
noncomputable def Iz(W:Wd)(base:P')(n:Nat)(f:Sc->List Sl->TS->adb->(List Sl->TS->cK)->cK):Prop:=∀{A:ada}{E:qab}{KE s:H'}{sc:Sc}{env:Env}{Y:M'->Prop}{Γ:List Sl}{oa:Nat->M'}{T:TS}{st:adb}{k:List Sl->TS->cK}{r:V×TS},Rm n A->f sc Γ T st k=B' r->FS W base sc env Y Γ oa T KE s->qaa W A (adR st env) (cT W base sc env Y KE (Yf env Y Γ oa) s k r) E s
theorem cT.trans{H₁ SV:M'->Prop}{KA s':H'}{fl:Flow}(p:cT W base sc env Y KE SV KA k r fl s')(h:∀b,SV b->H₁ b\/s.heap.get? b=F')(kp:∀b o,¬W.mut b->¬H₁ b->s.heap.get? b=B' o->KA.heap.get? b=B' o)(hm:∀b,W.mut b->H₁ b):cT W base sc env Y KE H₁ s k r fl s':=by
 induction fl using Flow.casesOn with
 |next=>
  refine hide λQz qz=>?_;refine CC p λKX T' NE a b c d=>?_;refine qz ?_;refine(tL KX T' NE a b (λx hx=>?_) (λx o nm nh e=>d x o nm (λh2=>?_) (kp x o nm nh e)))
  .rcases c x hx with h2|h2
   .exact h x h2
   .by_cases h1:H₁ x
    .exact .inl h1
    .right;cases e:s.heap.get? x with
     |none=>rfl
     |some o=>replace h2:=(kp x o (λm=>h1 (hm x m)) h1 e)▸h2;cases h2
  .rcases h x h2 with h1|h1
   .exact nh h1
   .rw[e] at h1;cases h1
 |ret x=>exact p
 |_=>exact p.elim
theorem wG{f:Sc->List Sl->TS->adb->(List Sl->TS->cK)->cK}(S:Iz W base n f):An W base n λsc Γ T l k=>tS (f sc) Γ T l k:=by
 intro A E KE s sc env Y Γ oa T ss k r hA h fs
 induction ss generalizing Γ oa T s with
 |nil=>exact adM (tL Γ T oa h fs (λb hb=>.inl hb) (λb o O O e=>e))
 |cons st ss ih=>
  refine bR (bb (S hA h fs) (λfl s' p=>?_) λO O e=>e);induction fl using Flow.casesOn with
  |next=>
   refine hide λQz qz=>?_;refine CC p λKX T' NE h' LO c d=>?_;refine qz ?_;exact bb (ih h' LO) (λfl KB p=>p.trans c d λb m=>.inl (fs.y.ym b m)) λO O e=>e
  |ret x=>exact p
  |_=>exact p.elim
theorem FS.expr(S:dX W base n R.ev)(hA:Rm n A)(fs:FS W base sc env Y Γ oa T KE s)(f:kO Γ KX){v:V}(h:R.ev sc KX T e=B' (v,T'))(q:∀x s' m cm,Ev W s s'->FR W base KE.heap sc env Y Γ oa m cm s'.heap->VR W s'.heap (Yf env Y KX oa) x v->dl W base T' s'.heap->fm W base Y s'.heap->(∃h tk,s'={KE with heap:=h,toks:=tk})->Q x s'):qaa W A (Z' e env) Q E s:=by
 refine hide λQz qz=>?_
 refine d6 fs.fr λm cm fr=>?_
 refine qz ?_
 refine S.aah hA h (fr.st f fs.inv fs.y) λx s' r Qs e'=>?_
 refine q x s' m cm e' (fr.ev fs.y.ym e') r Qs.inv (fs.y.ev e' Qs.inv) ?_
 refine hide λQz qz=>?_
 refine d6 fs.same λh1 t1 a=>?_
 refine iP e' λh2 t2 b O=>?_
 refine qz ?_
 exact⟨h2,t2,by rw[b,a]⟩
theorem FR.acb(fr:FR W base KE.heap sc env Y Γ oa m cm s'.heap)(same:∃h tk,s'={KE with heap:=h,toks:=tk}):Ev W KE s':=by
 refine d6 same λh tk e=>?_
 exact(m22 h tk e (λb o nb z=>by have:=fr.old b o nb z;rw[e] at this;exact this))
theorem tZ(S:dX W base n R.ev)(hA:Rm n A)(h:R.ev sc (eJ sc e Γ) T e=B' r)(fs:FS W base sc env Y Γ oa T KE s):qaa W A (adR (.Return (B' e) pos) env) (cT W base sc env Y KE (Yf env Y Γ oa) s k r) E s:=by
 obtain⟨v,T'⟩:=r
 exact wpAny_Return_some (fs.expr S hA (eP sc e Γ) h λx s' m cm O fr r i y same=>⟨r.weaken λb yb=>.inl yb,i,fr.acb same⟩)
theorem CX(S':gv W base n R.tst)(X:An W base n R.xs)(hA:Rm n A){t:Expr}{a b:List adb}(h:(C' (R.tst sc (eJ sc t Γ) T t) λp=>bif p.1 then R.xs sc Γ p.2 a k else R.xs sc Γ p.2 b k)=B' r)(fs:FS W base sc env Y Γ oa T KE s):qaa W A (adR (.If t a b pos) env) (cT W base sc env Y KE (Yf env Y Γ oa) s k r) E s:=by
 refine aac h λp hp h=>?_
 refine d6 fs.fr λm cm fr=>?_
 refine wpAny_If (S'.aah hA (b:=p.1) (T₁:=p.2) hp (fr.st (eP sc t Γ) fs.inv fs.y) λKA KD KF=>?_)
 have KV:FS W base sc env Y Γ oa p.2 KE KA:=⟨⟨m,cm,fr.ev fs.y.ym KF⟩,KD.inv,fs.y.ev KF KD.inv,by
  refine d6 fs.same λh1 t1 a=>?_
  refine iP KF λh2 t2 b O=>?_
  exact⟨h2,t2,by rw[b,a]⟩⟩
 cases hb:p.1 with
 |true=>rw[hb] at h;exact bb (X hA h KV) (λfl KB p=>p.trans (λb hb=>.inl hb) (λb o nm O e=>KF.keep b o nm e) λb m=>.inl (fs.y.ym b m)) λO O e=>e
 |false=>rw[hb] at h;exact bb (X hA h KV) (λfl KB p=>p.trans (λb hb=>.inl hb) (λb o nm O e=>KF.keep b o nm e) λb m=>.inl (fs.y.ym b m)) λO O e=>e
theorem pn{x:O'}{v:V}{y:G'}{Q:Unit->H'->Prop}(fr:FR W base KE.heap sc env Y Γ oa m cm s.heap)(i:dl W base T s.heap)(yk:fm W base Y s.heap)(K6:du sc (BF sc e Γ v) x (.pl v)=B' KX)(r:VR W s.heap (Yf env Y (eJ sc e Γ) oa) y v)(same:∃h tk,s={KE with heap:=h,toks:=tk})(q:∀s',FS W base sc env Y KX oa T KE s'->(∀b,Yf env Y KX oa b->Yf env Y Γ oa b)->(∀b o,¬Hm env b->s.heap.get? b=B' o->s'.heap.get? b=B' o)->Q () s'):qaa W A (aeq env x y) Q E s:=by
 have L3:∀K3,BF sc e Γ v=K3->(∀b,Yf env Y K3 oa b->Yf env Y Γ oa b)->FR W base KE.heap sc env Y K3 oa m cm s.heap->VR W s.heap (Yf env Y K3 oa) y v->qaa W A (aeq env x y) Q E s:=by
  rintro K3 rfl sub LV Ox;refine LV.store i yk K6 Ox λm' LD h' tk Lg Og Nr KB LQ=>q _ ⟨⟨m',LD,Lg⟩,Og,Nr,?_⟩ (λb hb=>sub b (KB b hb)) (λb o hb e=>LQ b o hb e);obtain⟨h1,t1,a⟩:=same;exact⟨h',tk,by rw[a]⟩
 unfold BF at L3
 unfold eJ at r
 refine aaw (b:=lK (dZ 40 e) sc.slots Γ) (λho=>?_) λho=>?_
 .
  replace r:=ho▸r;exact L3 Γ (by rw[ho];rfl) (λb h=>h) fr r
 .
  rw[ho,cond_true] at r;refine aaw (b:=v.flat) (λhf=>?_) λhf=>?_;rotate_left
  .exact L3 Γ (by rw[ho,hf];rfl) (λb h=>h) fr (r.abM hf (fr.st (kO.refl Γ) i yk).y)
  .exact L3 _ (by rw[ho,hf];rfl) (dN (mQ _ _ _)) (fr.freeze (mQ _ _ _)) r
theorem ua(S:dX W base n R.ev)(hA:Rm n A){x:O'}(hs:aen e (B' (.Name x px)) pos.line env=pure false)(h:(C' (R.ev sc (eJ sc e Γ) T e) λp=>C' (du sc (BF sc e Γ p.1) x (.pl p.1)) λΓ=>k Γ p.2)=B' r)(fs:FS W base sc env Y Γ oa T KE s):qaa W A (adR (.Assign [.Name x px] e pos) env) (cT W base sc env Y KE (Yf env Y Γ oa) s k r) E s:=by
 refine aac h λp hp h=>?_
 refine x12 (tW h) λKX K6 h=>?_
 exact adn (fs.expr S hA (eP sc e Γ) (v:=p.1) (T':=p.2) hp λy s' m cm ev' fr r i yk same=>pn fr i yk K6 r same λKB KW sub kp=>(tL KX p.2 oa h KW (λb hb=>.inl (sub b hb)) (λb o nm nh e=>kp b o (λz=>nh z.yf) (ev'.keep b o nm e)))) hs
end
section
variable {W:Wd}{B:Bs}{base:P'}{R:Rc}{KE:H'}{k:List Sl->TS->cK}{r:V×TS}{h₀:P'}
theorem FR.other{X:M'}(fr:FR W base h₀ sc env Y Γ oa m cm h)(k:∀b o,b≠X->h.get? b=B' o->h'.get? b=B' o)(hX:¬Yf env Y Γ oa X)(nd:∃o,h.get? X=B' o/\¬dG o)(h0:h₀.get? X=F'):FR W base h₀ sc env Y Γ oa m cm h':=by
 have kd:kN (Yf env Y Γ oa) h h':=λb o O d e=>k b o (λq=>by clear k hX h0;subst q;refine x12 nd λo' a c=>?_;rw[e] at a;obtain rfl:=ac a;exact c d) e
 exact
 {kind:=fr.kind
  globals:=fr.globals
  builtins:=fr.builtins
  nm:=fr.nm
  ns:=by refine x32 fr.ns λo es ep ho r=>?_;exact(uU o es ep (k _ _ (λq=>hX (.inr (.inl q.symm))) ho) r)
  cell:=λn c hc=>by refine x12 (fr.cell n c hc) λo ho r=>?_;exact⟨o,k _ _ (λq=>hX (.inr (.inr (.inl ⟨n,q▸hc⟩)))) ho,r⟩
  has:=fr.has
  apart:=fr.apart
  ne:=fr.ne
  aai:=fr.aai
  aam:=fr.aam
  aaj:=fr.aaj
  pl:=λn i v a b c=>by refine x12 (fr.pl n i v a b c) λx p q=>?_;exact⟨x,p,q.keep kd⟩
  ow:=fr.ow
  own:=λi v a=>by refine x02 (fr.own i v a) λp q=>?_;exact⟨p.keep kd λob z=>k _ _ (λq=>hX (.inr (.inr (.inr (m22 i v a q.symm))))) z,q⟩
  inj:=fr.inj
  old:=λb o nb z=>k b o (λq=>by clear k hX nd;subst q;rw[h0] at z;exact no z) (fr.old b o nb z)}
theorem Ao(Z:fK W B base)(S:dX W base n R.ev)(X:An W base n R.xs)(hA:Rm n A){x:O'}{it:Expr}{body:List adb}{l:List V}(OS:jP it=true)(hi:lJ B sc (R.ev sc (eJ sc it Γ)) T it=B' (l,T₁))(hl:cG (λv Γ T k=>C' (du sc Γ x (.pl v)) λΓ=>R.xs sc Γ T body k) l (eJ sc it Γ) T₁ k=B' r)(fs:FS W base sc env Y Γ oa T KE s):qaa W A (adR (.For (.Name x px) it body [] pos) env) (cT W base sc env Y KE (Yf env Y Γ oa) s k r) E s:=by
 refine hide λQz qz=>?_
 refine d6 fs.fr λm cm fr=>?_
 have fz:=eP sc it Γ
 refine qz ?_
 clear Qz qz
 refine wpAny_For (sr Z S hA hi (fr.st fz fs.inv fs.y) λI fp Sx Yi KB ia KG KL=>?_) (λy=>by clear hi hl fz;induction it using Expr.casesOn<;>first|rfl|exact nb OS)
 have Lg:=(fr.ev fs.y.ym KL).freeze fz
 have Mi:∃h tk,KB={KE with heap:=h,toks:=tk}:=by
  refine hide λQz qz=>?_;refine d6 fs.same λh1 t1 a=>?_;refine iP KL λh2 t2 b O=>?_;refine qz ?_;clear Qz qz;exact⟨h2,t2,by rw[b,a]⟩
 clear hi;generalize acU:eJ sc it Γ=Γz at*
 have QM:¬W.mut I:=λq=>fs.inv.aaz q ia.fresh
 have VT:KE.heap.get? I=F':=by
  cases e:KE.heap.get? I with
  |none=>rfl
  |some o=>have:=fr.old _ _ QM e;rw[ia.fresh] at this;exact no this
 have VB:base.get? I=F':=by
  cases e:base.get? I with
  |none=>rfl
  |some o=>have:=fs.inv.good _ _ QM e;rw[ia.fresh] at this;exact no this
 have Va:¬Yf env Y Γz oa I:=by
  intro q;have:∃o,s.heap.get? I=B' o:=by
   rcases dN fz I q with q|q|⟨n',q⟩|⟨j,v,e,q⟩
   .refine x12 (fs.y.there _ q) λo e O=>?_;exact⟨o,e⟩
   .rw[q];refine x32 fr.ns λo O O ho O=>?_;exact⟨o,ho⟩
   .refine x12 (fr.cell n' _ q) λo ho O=>?_;exact⟨o,ho⟩
   .refine sb q ?_;refine x12 ((fr.own j v e).1.nt) λo e O=>?_;exact⟨o,e⟩
  refine x11 this λo e=>?_;rw[ia.fresh] at e;exact no e
 have I2:∃o,KB.heap.get? I=B' o:=by refine x12 ia.at_ λo e O=>?_;exact⟨o,e⟩
 refine codeAny_forLoop_any (λk' s'=>∃i OM Ti Px,k'=l.length - i/\i<=l.length/\cG (λv Γ T k=>C' (du sc Γ x (.pl v)) λΓ=>R.xs sc Γ T body k) (l.drop i) OM Ti k=B' r/\FS W base sc env Y OM Px Ti KE s'/\Sx i s'.heap/\(∀b,Yf env Y OM Px b->Yf env Y Γz oa b\/KB.heap.get? b=F')/\(∀b o,¬W.mut b->¬Yf env Y Γz oa b->b≠I->KB.heap.get? b=B' o->s'.heap.get? b=B' o)) ?_ l.length (J1 0 Γz T₁ oa rfl (Nat.zero_le _) (by simpa using hl) (⟨⟨m,cm,Lg⟩,KG.inv,fs.y.ev KL KG.inv,Mi⟩) ia.st (λb hb=>.inl hb) (λb o O O O e=>e))
 intro k' s' hv
 refine hide λQz qz=>?_
 obtain⟨i,OM,Ti,Px,rfl,Yn,MJ,Q6,Pj,hid,Sj⟩:=hv
 refine qz ?_
 clear Qz qz
 refine d6 Q6.fr λmi Xa Z8=>?_
 have Pb:¬Yf env Y OM Px I:=λq=>by
  rcases hid I q with q|q
  .exact Va q
  .refine x11 I2 λo e=>?_;rw[q] at e;exact no e
 have OE:∃o,s'.heap.get? I=B' o/\NT o:=by refine x12 (ia.it.nd _ _ Pj) λo e d=>?_;exact⟨o,e,.aaM λq=>d (.inl q)⟩
 have step:∀(h':P')(tk:Nat),(∀b o,b≠I->s'.heap.get? b=B' o->h'.get? b=B' o)->FR W base KE.heap sc env Y OM Px mi Xa h'/\dl W base Ti h'/\fm W base Y h':=by
  intro h' tk hk;refine x12 OE λo e nt=>?_;refine⟨Z8.other hk Pb (ia.it.nd _ _ Pj) VT,Q6.inv.fill QM VB e nt hk,Q6.y.ym,λb y=>?_,Q6.y.new⟩;refine x12 (Q6.y.there b y) λo e c=>?_;exact⟨o,hk b o (λq=>Pb (.inl (q▸y))) e,c⟩
 by_cases Ly:i<l.length
 .have hu:l[i]? =B' l[i]:=bC Ly;rw[List.drop_eq_getElem_cons Ly] at MJ;generalize l[i]=u at hu MJ;change (C' (du sc OM x (.pl u)) λΓ=>R.xs sc Γ Ti body λΓ T=>cG (λv Γ T k=>C' (du sc Γ x (.pl v)) λΓ=>R.xs sc Γ T body k) (l.drop (i+1)) Γ T k)=B' r at MJ;refine x12 (tW MJ) λKX K6 Ue=>?_;refine ia.it.next i u A s' _ _ hA.handled hu Pj λy h' tk ry TC hk=>?_;refine tJ (step h' tk hk) λSL RZ yA=>?_;have S4:adN (.Name x px) (.ref I) y=pure ():=rfl;show V' _ A (adN (.Name x px) (.ref I) y) _ _ _;refine sb S4 ?_;refine av (ado ?_);have sub:∀b,Yf env Y OM Px b->Yi b:=λb hb=>by
   rcases hid b hb with q|q
   .exact ia.sub b q
   .exact ia.new b q
  refine SL.store (s:={s' with heap:=h',toks:=tk}) RZ yA K6 (ry.weaken sub) λm' LD h₂ L0 frB Wt yB subB VF=>?_;have V7:FS W base sc env Y KX Px Ti KE {s' with heap:=h₂,toks:=L0}:=⟨⟨m',LD,frB⟩,Wt,yB,by
   refine d6 Q6.same λh1 t1 a=>?_
   exact⟨h₂,L0,by exact sb a rfl⟩⟩
  refine bb (X hA Ue V7) (λfl KH p=>?_) λO O e=>e;clear VT VB Va I2 OE step S4;induction fl using Flow.casesOn with
  |next=>
   refine hide λQz qz=>?_;refine CC p λSA Lm TN PY NQ Ry SM=>?_;have all:∀b o,¬W.mut b->¬Yf env Y OM Px b->h'.get? b=B' o->KH.heap.get? b=B' o:=λb o nm ny e=>SM b o nm (λq=>ny (subB b q)) (VF b o (λz=>ny z.yf) e);have UE:∀b o,¬Yf env Y Γz oa b->KB.heap.get? b=B' o->¬Yf env Y OM Px b:=λb o ny e q=>by
    rcases hid b q with q|q
    .exact ny q
    .rw[q] at e;exact no e
   refine qz ?_;clear Qz qz;refine⟨l.length - (i+1),by exact I9 Ly,i+1,SA,Lm,TN,rfl,Ly,PY,NQ,ia.it.frame (i+1) _ _ TC (λb hb o e=>?_) (λb o nb O e=>?_),λb hb=>?_,λb o nm ny nI e=>?_⟩
   .clear Sj hk;rcases ia.fp b hb with rfl|⟨ny,o',z,_⟩
    .exact all _ o QM Pb e
    .exact all _ o (λq=>ny (.inl (fs.y.ym b q))) (UE b o' ny z) e
   .have hz:∃o',KB.heap.get? b=B' o':=by
     cases q:KB.heap.get? b with
     |none=>exact absurd (ia.new b q) nb
     |some o'=>exact⟨o',rfl⟩
    refine x11 hz λo' z=>?_;have ny:¬Yf env Y Γz oa b:=λq=>nb (ia.sub b q);exact all b o (λq=>ny (.inl (fs.y.ym b q))) (UE b o' ny z) e
   .rcases Ry b hb with q|q
    .exact hid b (subB b q)
    .by_cases hz:Yf env Y Γz oa b
     .exact .inl hz
     .right;cases e:KB.heap.get? b with
      |none=>rfl
      |some o=>
       exfalso;have ny:=UE b o hz e;by_cases hI:b=I
       .clear QM Sj Pb hk;subst hI;refine x12 (ia.it.nd _ _ TC) λo' e' O=>?_;replace q:=(VF _ _ (λz=>ny z.yf) e')▸q;cases q
       .replace q:=(VF b o (λz=>ny z.yf) (hk b o hI (Sj b o (λm=>hz (.inl (fs.y.ym b m))) hz hI e)))▸q;cases q
   .exact all b o nm (UE b o ny e) (hk b o nI (Sj b o nm ny nI e))
  |ret z=>exact p
  |_=>exact p.elim
 .have TV:i=l.length:=H2 Yn Ly;subst TV;rw[List.drop_length] at MJ;refine ia.it.done A s' _ _ hA.handled Pj λh' tk hk=>?_;refine hide λQz qz=>?_;refine tJ (step h' tk hk) λSL RZ yA=>?_;refine qz ?_;clear Qz qz;refine adM (tL OM Ti Px MJ (⟨⟨mi,Xa,SL⟩,RZ,yA,?_⟩) (λb hb=>?_) (λb o nm ny e=>?_))
  .refine d6 Q6.same λh1 t1 a=>?_;exact⟨h',tk,by rw[a]⟩
  .rcases hid b hb with q|q
   .exact .inl (dN fz b q)
   .by_cases hy:Yf env Y Γ oa b
    .exact .inl hy
    .right;cases e:s.heap.get? b with
     |none=>rfl
     |some o=>replace q:=(KL.keep b o (λm=>hy (.inl (fs.y.ym b m))) e)▸q;cases q
  .have nI:b≠I:=λq=>by clear QM VT VB Va I2 Sj Pb OE step hk;subst q;rw[ia.fresh] at e;exact no e
   exact hk b o nI (Sj b o nm (λq=>ny (dN fz b q)) nI (KL.keep b o nm e))
end
section
variable {W:Wd}{B:Bs}{base:P'}{R:Rc}{KE:H'}{k:List Sl->TS->cK}{r:V×TS}{h₀:P'}{v:V}
set_option tactic.hygienic true in
theorem cU.change{Y₁ OL:M'->Prop}(o:cU W h Y₁ a v)(k:∀b ob,¬Y₁ b->dG ob->h.get? b=B' ob->¬OL b/\h'.get? b=B' ob)(ka:∀ob,h.get? a=B' ob->h'.get? a=B' ob):cU W h' OL a v:=by
 induction v using V.casesOn<;>try (exact o.elim)
 case lst l=>obtain⟨⟨xs,⟨nn,e⟩,r⟩,z⟩:=o;exact⟨⟨xs,⟨nn,ka _ e⟩,r.change k⟩,z⟩
 case di l=>obtain⟨⟨es,g,r⟩,z⟩:=o;exact⟨⟨es,fe g λO O e=>ka _ e,r.change k⟩,z⟩
 case ds l=>obtain⟨⟨es,g,r⟩,z⟩:=o;exact⟨⟨es,fe g λO O e=>ka _ e,r.change k⟩,z⟩
theorem FR.fresh(fr:FR W base h₀ sc env Y Γ oa m cm s.heap)(y:∀b,W.mut b->Y b)(e:Ev W s s')(ha:s.heap.get? a=F'):FR W base h₀ sc env (λb=>Y b\/b=a) Γ oa m cm s'.heap:=by
 have there:∀b,(b=env.locals\/∃n,env.cells.lookup n=B' b)->b≠a:=by
  rintro b (rfl|⟨n,hn⟩) q
  .refine x32 fr.ns λo O O ho O=>?_;rw[q,ha] at ho;exact no ho
  .refine x12 (fr.cell n b hn) λo ho O=>?_;rw[q,ha] at ho;exact no ho
 have kc:∀b o,¬Yf env Y Γ oa b->dG o->s.heap.get? b=B' o->¬Yf env (λb=>Y b\/b=a) Γ oa b/\s'.heap.get? b=B' o:=λb o nb O z=>⟨by
   rintro ((q|q)|q|q|q)
   .exact nb (.inl q)
   .rw[q,ha] at z;exact no z
   .exact nb (.inr (.inl q))
   .exact nb (.inr (.inr (.inl q)))
   .exact nb (.inr (.inr (.inr q))),e.keep b o (λmb=>nb (.inl (y b mb))) z⟩
 have f':=fr.ev y e
 exact
 {kind:=fr.kind
  globals:=fr.globals
  builtins:=fr.builtins
  nm:=fr.nm
  ns:=f'.ns
  cell:=f'.cell
  has:=fr.has
  apart:=fr.apart
  ne:=fr.ne
  aai:=(ml fr.aai.1 fr.aai.2.1 (λq=>q.elim fr.aai.2.2.1 (there _ (.inl rfl))) fr.aai.2.2.2)
  aam:=λn c hc=>(ml ((fr.aam n c hc).1) ((fr.aam n c hc).2.1) (λq=>q.elim (fr.aam n c hc).2.2.1 (there c (.inr ⟨n,hc⟩))) ((fr.aam n c hc).2.2.2))
  aaj:=fr.aaj
  pl:=λn i v a b c=>by refine x12 (fr.pl n i v a b c) λx p q=>?_;exact⟨x,p,q.change kc⟩
  ow:=fr.ow
  own:=λi v c=>by
   refine x02 (fr.own i v c) λp q=>?_
   have KY:oa i≠a:=λz=>by refine x12 p.nt λob e' O=>?_;rw[z,ha] at e';exact no e'
   exact⟨p.change kc λob z=>e.keep _ _ q.2.2.2.1 z,λz=>z.elim q.1 KY,q.2⟩
  inj:=fr.inj
  old:=f'.old}
theorem FR.acd{X:M'}{x:O'}{i:Nat}(fr:FR W base h₀ sc env (λb=>Y b\/b=a) Γ oa m cm h)(hX:X=env.locals\/∃n,env.cells.lookup n=B' X)(hi:db sc.slots x=B' i)(Ly:i<Γ.length)(k:∀b o,b≠X->h.get? b=B' o->h'.get? b=B' o)(ns:h'.Ns env.locals m')(cell:∀n c,env.cells.lookup n=B' c->h'.IsCell c (LD n))(hx:vv env m' LD x=B' (.ref a))(ho:∀n,n≠x->vv env m' LD n=vv env m cm n)(o:cU W h (Yf env (λb=>Y b\/b=a) Γ oa) a v)(na:¬Y a)(nm:¬W.mut a)(nb:base.get? a=F')(n0:h₀.get? a=F'):FR W base h₀ sc env Y (Γ.set i (.ow v)) (λj=>if j=i then a else oa j) m' LD h':=by
 have hid:Yf env (λb=>Y b\/b=a) Γ oa X:=by rcases hX with rfl|q;exact .inr (.inl rfl);exact .inr (.inr (.inl q))
 have kd:kN (Yf env (λb=>Y b\/b=a) Γ oa) h h':=λb o hb O e=>k b o (λq=>hb (q▸hid)) e
 have aX:a≠X:=λq=>by
  clear k hid;rcases hX with rfl|⟨n,hn⟩
  .exact fr.aai.2.2.1 (.inr q.symm)
  .exact(fr.aam n _ hn).2.2.1 (.inr q.symm)
 have KY:∀j u,Γ[j]? =B' (.ow u)->oa j≠X:=λj u e q=>by
  clear k hid aX;rcases hX with rfl|⟨n,hn⟩
  .exact(fr.own j u e).2.2.1 q
  .exact(fr.own j u e).2.2.2.1 n _ hn q.symm
 have LG:∀j sl,(Γ.set i (.ow v))[j]? =B' sl->(j=i/\sl=.ow v)\/(j≠i/\Γ[j]? =B' sl):=λj sl e=>by
  rw[List.getElem?_set] at e;split at e
  .rename_i q;obtain rfl:=ac e;exact .inl ⟨q.symm,rfl⟩
  .rename_i q;exact .inr ⟨λz=>q z.symm,e⟩
 have sub:∀b,Yf env Y (Γ.set i (.ow v)) (λj=>if j=i then a else oa j) b->Yf env (λb=>Y b\/b=a) Γ oa b:=by
  rintro b (q|q|q|⟨j,u,e,q⟩)
  .exact .inl (.inl q)
  .exact .inr (.inl q)
  .exact .inr (.inr (.inl q))
  .rcases LG j _ e with⟨rfl,_⟩|⟨hj,e⟩
   .simp only[bJ] at q;exact .inl (.inr q)
   .simp only[hj,bg] at q;exact .inr (.inr (.inr (m22 j u e q)))
 exact
 {kind:=fr.kind
  globals:=fr.globals
  builtins:=fr.builtins
  nm:=fr.nm
  ns:=ns
  cell:=cell
  has:=fr.has
  apart:=fr.apart
  ne:=fr.ne
  aai:=(ml fr.aai.1 fr.aai.2.1 (λq=>fr.aai.2.2.1 (.inl q)) fr.aai.2.2.2)
  aam:=λn c hc=>(ml ((fr.aam n c hc).1) ((fr.aam n c hc).2.1) (λq=>(fr.aam n c hc).2.2.1 (.inl q)) ((fr.aam n c hc).2.2.2))
  aaj:=fr.aaj
  pl:=λn j u p q c=>by
   rcases LG j _ c with⟨rfl,e⟩|⟨hj,e⟩
   .cases e
   .refine x12 (fr.pl n j u p q e) λz p' r'=>?_
    have ME:n≠x:=λz=>by clear hx ho;subst z;rw[hi] at q;clear c e;obtain rfl:=ac q;exact hj rfl
    exact⟨z,(ho n ME).trans p',(r'.keep kd).weaken sub⟩
  ow:=λn j u p q c=>by
   clear sub;rcases LG j _ c with⟨rfl,e⟩|⟨hj,e⟩
   .have:=qD q hi
    subst this
    simpa using hx
   .have ME:n≠x:=λz=>by clear hx ho;subst z;rw[hi] at q;clear c e;obtain rfl:=ac q;exact hj rfl
    simp only[hj,bg]
    exact(ho n ME).trans (fr.ow n j u p q e)
  own:=λj u c=>by
   rcases LG j _ c with⟨rfl,e⟩|⟨hj,e⟩
   .clear c;cases e
    simp only[bJ]
    exact(EL (cW sub (o.keep kd λob z=>k _ _ aX z)) na (λq=>fr.aai.2.2.1 (.inr q.symm)) (λn c hc q=>(fr.aam n c hc).2.2.1 (.inr q)) nm nb n0)
   .refine x02 (fr.own j u e) λp r'=>?_
    simp only[hj,bg]
    exact⟨cW sub (p.keep kd λob z=>k _ _ (KY j u e) z),λq=>r'.1 (.inl q),r'.2⟩
  inj:=λj j' u u' p q c=>by
   clear hi sub;rcases LG j _ p with⟨rfl,e⟩|⟨hj,e⟩
   .clear Ly p;rcases LG j' _ q with⟨rfl,e'⟩|⟨PR,e'⟩
    .rfl
    .simp only[bJ,PR,bg] at c
     exact absurd (.inr c.symm) (fr.own j' u' e').2.1
   .clear p;rcases LG j' _ q with⟨rfl,e'⟩|⟨PR,e'⟩
    .simp only[hj,bg,bJ] at c
     exact absurd (.inr c) (fr.own j u e).2.1
    .simp only[hj,PR,bg] at c
     exact fr.inj j j' u u' e e' c
  old:=λb o nb e=>k b o (λq=>by
   clear k hid aX KY;subst q
   rcases hX with rfl|⟨n,hn⟩
   .rw[fr.aai.2.2.2] at e;exact no e
   .rw[(fr.aam n _ hn).2.2.2] at e;exact no e) (fr.old b o nb e)}
theorem FR.abW{x:O'}{Q:Unit->H'->Prop}(fr:FR W base h₀ sc env (λb=>Y b\/b=a) Γ oa m cm s.heap)(i:dl W base T s.heap)(yk:fm W base Y s.heap)(K6:du sc Γ x (.ow v)=B' KX)(o:cU W s.heap (Yf env (λb=>Y b\/b=a) Γ oa) a v)(na:¬Y a)(nm:¬W.mut a)(nb:base.get? a=F')(n0:h₀.get? a=F')(k:∀m' LD h' tk,(∃NE,FR W base h₀ sc env Y KX NE m' LD h'/\∀b,Yf env Y KX NE b->Yf env Y Γ oa b\/b=a)->dl W base T h'->fm W base Y h'->(∀b o,¬Yf env Y Γ oa b->s.heap.get? b=B' o->h'.get? b=B' o)->Q () {s with heap:=h',toks:=tk}):qaa W A (aeq env x (.ref a)) Q E s:=by
 refine hide λQz qz=>?_
 obtain⟨hv,j,hj,Ly,rfl⟩:=gI K6
 have hk:∀n,env.kindOf n=sc.names.lookup n:=λn=>by unfold Env.kindOf;rw[fr.nm]
 have done:∀(X:M')(h':P')(tk:Nat)(m' LD:O'->Option G'),(X=env.locals\/∃n,env.cells.lookup n=B' X)->Heap.SameBut X s.heap h'->h'.Ns env.locals m'->(∀n c,env.cells.lookup n=B' c->h'.IsCell c (LD n))->vv env m' LD x=B' (.ref a)->(∀n,n≠x->vv env m' LD n=vv env m cm n)->Q () {s with heap:=h',toks:=tk}:=by
  intro X h' tk m' LD hX hs ns cell hx ho;have kp:∀b o,b≠X->s.heap.get? b=B' o->h'.get? b=B' o:=λb o hb e=>(hs.2 b hb).trans e;have PE:¬W.mut X/\base.get? X=F'/\¬Y X:=by
   clear hs kp;rcases hX with rfl|⟨n,hn⟩
   .exact⟨fr.aai.1,fr.aai.2.1,λq=>fr.aai.2.2.1 (.inl q)⟩
   .exact⟨(fr.aam n _ hn).1,(fr.aam n _ hn).2.1,λq=>(fr.aam n _ hn).2.2.1 (.inl q)⟩
  have Wb:∃o,s.heap.get? X=B' o/\NT o:=by
   clear hs kp PE;rcases hX with rfl|⟨n,hn⟩
   .refine x33 fr.ns λo es ep ho hd O=>?_;exact⟨o,ho,.aaE hd⟩
   .refine x12 (fr.cell n _ hn) λo ho hd=>?_;exact⟨o,ho,λxs e=>by replace hd:=e▸hd;cases hd⟩
  refine x12 Wb λoX R9 Q7=>?_;refine k m' LD h' tk ⟨_,fr.acd hX hj Ly kp ns cell hx ho o na nm nb n0,λb hb=>?_⟩ (i.fill PE.1 PE.2.1 R9 Q7 kp) ⟨yk.ym,λb yb=>?_,yk.new⟩ (λb o hb e=>kp b o (λq=>hb (by subst q;rcases hX with rfl|q;exact .inr (.inl rfl);exact .inr (.inr (.inl q)))) e)
  .rcases hb with q|q|q|⟨j',u,e,q⟩
   .exact .inl (.inl q)
   .exact .inl (.inr (.inl q))
   .exact .inl (.inr (.inr (.inl q)))
   .by_cases PR:j'=j
    .simp only[PR,bJ] at q;exact .inr q
    .simp only[PR,bg] at q;rw[List.getElem?_set] at e;split at e
     .rename_i z;exact absurd z.symm PR
     .exact .inl (.inr (.inr (.inr (m22 j' u e q))))
  refine x12 (yk.there b yb) λo e c=>?_;exact⟨o,kp b o (λq=>PE.2.2 (q▸yb)) e,c⟩
 refine qz ?_
 clear Qz qz
 unfold cZ at hv
 clear j hj Ly K6 k;cases hl:sc.names.lookup x with
 |none=>replace hv:=hl▸hv;cases hv
 |some kx=>
  rw[hl] at hv;induction kx using NameKind.casesOn<;>try (first|exact no hv|(cases hv;done))
  .refine bW (by rw[hk,hl]) fr.ns (λh' PI Lv=>?_) (by rw[fr.kind];rfl);refine done env.locals h' _ _ cm (.inl rfl) Lv PI (λn c hc=>?_) ?_ λn hn=>?_
   .refine x12 (fr.cell n c hc) λo ho r'=>?_;exact⟨o,(Lv.2 c (fr.ne n c hc)).trans ho,r'⟩
   .unfold vv;rw[hk,hl,aZ rfl];simp
   .unfold vv;simp [hn]
  .refine x11 (fr.has x hl) λc hc=>?_;refine wpAny_storeName_cell fr.kind (by rw[hk,hl]) hc (fr.cell x c hc) λh' Oe Lv=>?_;refine done c h' s.toks m (λn=>if n=x then B' (.ref a) else cm n) (.inr ⟨x,hc⟩) Lv ?_ (λn c' PB=>?_) ?_ λn hn=>?_
   .refine x32 fr.ns λo es ep ho r'=>?_;exact(uU o es ep ((Lv.2 _ (λq=>fr.ne x c hc q.symm)).trans ho) r')
   .by_cases e:n=x
    .clear done hl;subst e;replace PB:=hc▸PB;cases PB;simpa using Oe
    .simp only[e,bg];refine x12 (fr.cell n c' PB) λo ho r'=>?_;exact⟨o,(Lv.2 c' (λq=>e (fr.apart n x c (q▸PB) hc))).trans ho,r'⟩
   .unfold vv;rw[hk,hl];simp
   .unfold vv;simp [hn]
  .exact absurd hl (fr.aaj x)
end
noncomputable def iW:Expr->Bool
 |.List _ _=>true
 |.Dict _ _ _=>true
 |_=>false
noncomputable def lP(W:Wd)(base:P')(n:Nat)(ev:Sc->List Sl->TS->Expr->cK):Prop:=∀{A:ada}{E:qab}{s:H'}{sc:Sc}{env:Env}{Y:M'->Prop}{Γ:List Sl}{T:TS}{e:Expr}{v:V}{T':TS},Rm n A->iW e=true->ev sc Γ T e=B' (v,T')->St W base sc env Y Γ T s->qaa W A (Z' e env) (λx s'=>f6 W base Y T' v s x s'/\∃a,x=.ref a/\s.heap.get? a=F'/\cU W s'.heap (λb=>Y b\/b=a) a v) E s
section
variable {W:Wd}{B:Bs}{base:P'}{R:Rc}{Lq:M'->V->TS->cK}{KE:H'}{k:List Sl->TS->cK}{r:V×TS}
set_option tactic.hygienic true in
theorem wH(Z:fK W B base)(S:dX W base n R.ev):lP W base n (qm B Φ R):=by
 intro A E s sc env Y Γ T e v T' hA hd h st
 induction e using Expr.casesOn<;>try (first|exact no hd|(exact nb hd;done))
 case List es pos=>
  refine aac h λp hp h=>?_;refine aac h λu hu h=>?_;cases h;clear h;obtain⟨hz,rfl⟩:=dB hu;refine wpAny_List (eg S hA hp st λxs KA rs KD KF=>⟨by rw[rs.length];exact hz,⟨VR.abh hz KD.y rs,(KD.al (Al.push KA _)).inv,KF.trans (Al.push KA _).ev⟩,_,rfl,?_,⟨xs,⟨0,aF _ rfl⟩,rs.change λb o nb O e=>⟨λq=>q.elim nb (λq=>by rw[q,aap] at e;exact nomatch e),aB _ e⟩⟩,hz⟩);cases q:s.heap.get? KA.heap.objs.size with
  |none=>rfl
  |some o=>obtain⟨o',q'⟩:=st.stays KD.inv KF _ _ q;rw[aap] at q';exact no q'
 case Dict ks vs pos=>
  change (bif L' (15<ks.length) then F' else C' (zN (R.ev sc Γ) T ks vs) λp=>C' (d7 p.1) λv=>B' (v,p.2))=B' (v,T') at h;refine aaw (b:=decide (15<ks.length)) (λhd=>?_) λhd=>?_;rotate_left
  .rw[hd] at h;exact no h
  .
   rw[hd] at h;refine aac h λp hp h=>?_;refine aac h λu hu h=>?_;cases h;have:=of_decide_eq_false hd;exact sp Z S hA hp (Jc this) hu st λx s' r hx ho Qs e'=>⟨⟨r,Qs.inv,e'⟩,_,hx,aap _,ho⟩
theorem xZ(D:lP W base n R.ev)(hA:Rm n A){x:O'}(hd:iW e=true)(h:(C' (R.ev sc (eJ sc e Γ) T e) λp=>C' (du sc (eJ sc e Γ) x (.ow p.1)) λΓ=>k Γ p.2)=B' r)(fs:FS W base sc env Y Γ oa T KE s):qaa W A (adR (.Assign [.Name x px] e pos) env) (cT W base sc env Y KE (Yf env Y Γ oa) s k r) E s:=by
 refine aac h λp hp h=>?_
 refine x12 (tW h) λKX K6 h=>?_
 refine d6 fs.fr λm cm fr=>?_
 have fz:=eP sc e Γ
 have hs:aen e (B' (.Name x px)) pos.line env=pure false:=by clear hp K6 fz;revert hd;induction e using Expr.casesOn<;>first|exact nb|(intro hd;first|rfl|exact nb hd)
 refine adn (bb (D hA hd (v:=p.1) (T':=p.2) hp (fr.st fz fs.inv fs.y)) (λy s' q=>?_) λO O e=>e) hs
 obtain⟨⟨q1,q2,q3⟩,a,rfl,ha,ho⟩:=q
 have nm:¬W.mut a:=λz=>fs.inv.aaz z ha
 have na:¬Y a:=λz=>by refine x12 (fs.y.there a z) λo e O=>?_;rw[ha] at e;exact no e
 have nb:base.get? a=F':=by
  cases z:base.get? a with
  |none=>rfl
  |some o=>have:=fs.inv.good _ _ nm z;rw[ha] at this;exact no this
 have n0:KE.heap.get? a=F':=by
  cases z:KE.heap.get? a with
  |none=>rfl
  |some o=>have:=fr.old _ _ nm z;rw[ha] at this;exact no this
 have LV:=(fr.freeze fz).fresh fs.y.ym q3 ha
 have RA:=fs.y.ev q3 q2
 have own:cU W s'.heap (Yf env (λb=>Y b\/b=a) (eJ sc e Γ) oa) a p.1:=by
  refine cW (Y₁:=λb=>Yf env Y (eJ sc e Γ) oa b\/b=a) ?_ ho;clear q1 ha ho nm na nb n0 LV;rintro b ((z|rfl)|z|z|z)
  .exact .inl (.inl z)
  .exact .inr rfl
  .exact .inl (.inr (.inl z))
  .exact .inl (.inr (.inr (.inl z)))
  .exact .inl (.inr (.inr (.inr z)))
 refine LV.abW q2 RA K6 own na nm nb n0 λm' LD h' tk YS i' y' kp=>?_
 refine x12 YS λNE Mk sub=>?_
 refine(tL KX p.2 NE h (⟨⟨m',LD,Mk⟩,i',y',?_⟩) (λb hb=>?_) (λb o Pg nh e=>?_))
 .refine hide λQz qz=>?_;refine d6 fs.same λh1 t1 z=>?_;refine iP q3 λh2 t2 w O=>?_;refine qz ?_;exact⟨h',tk,by rw[w,z]⟩
 .clear q1 ho nm na nb n0 LV own;rcases sub b hb with z|rfl
  .exact .inl (dN fz b z)
  .exact .inr ha
 .exact kp b o (λz=>nh (dN fz b z)) (q3.keep b o Pg e)
end
variable {tp:Pos}{ie:Expr}
section
variable {W:Wd}{B:Bs}{base:P'}{R:Rc}{Lq:M'->V->TS->cK}{KE:H'}{k:List Sl->TS->cK}{r:V×TS}{h₀:P'}{v v':V}
theorem jc{x:O'}{o:Nat×V}(e:mH sc Γ x=B' o):(x==cV)=false/\(x==f4)=false/\cZ sc x=true/\db sc.slots x=B' o.1/\Γ[o.1]? =B' (.ow o.2):=by
 unfold mH at e
 refine aaw (b:=x==cV||x==f4) (λh0=>?_) λh0=>?_;rotate_left
 .rw[h0] at e;exact no e
 .
  rw[h0,cond_false] at e;simp only[Bool.or_eq_false_iff] at h0;cases h1:cZ sc x with
  |false=>rw[h1] at e;exact no e
  |true=>
   rw[h1,cond_true] at e;refine aac e λi hi e=>?_;refine x12 (aK.mp e) λw hw KC=>?_;subst KC;refine aac hw λsl hs hw=>?_;induction sl using Sl.casesOn<;>try (first|exact no hw|(cases hw;done))
   clear e;obtain rfl:=ac hw;exact⟨h0.1,h0.2,rfl,hi,hs⟩
theorem FR.aa5{x:O'}{y:G'}(fr:FR W base h₀ sc env Y Γ oa m cm h)(hv:cZ sc x=true)(e:vv env m cm x=B' y):iV env h x y:=by
 have hk:env.kindOf x=sc.names.lookup x:=by unfold Env.kindOf;exact sb fr.nm rfl
 unfold vv at e
 unfold cZ at hv
 refine abj (o:=sc.names.lookup x) (λhl=>?_) λk hl=>?_
 .rw[hl] at hv;exact nb hv
 .
  rw[hl] at hv;induction k using NameKind.casesOn<;>try (first|exact no hv|(exact nb hv;done))
  .rw[hk,hl,aZ rfl] at e;exact .inl ⟨by rw[hk,hl],m,fr.ns,e⟩
  .rw[hk,hl,aL (by decide)] at e;obtain⟨c,hc⟩:=fr.has x hl;exact .inr ⟨.inl (by rw[hk,hl]),c,hc,e▸fr.cell x c hc⟩
  .exact absurd hl (fr.aaj x)
theorem ub{i:Nat}(hi:Γ[i]? =B' (.ow v)):∀b,Yf env Y (Γ.set i (.ow v')) oa b↔Yf env Y Γ oa b:=by
 have Ly:i<Γ.length:=(aV.mp hi).1
 intro b
 constructor
 .rintro (q|q|q|⟨j,u,e,q⟩)
  .exact .inl q
  .exact .inr (.inl q)
  .exact .inr (.inr (.inl q))
  .rw[List.getElem?_set] at e;split at e
   .rename_i z;subst z;exact .inr (.inr (.inr (m22 _ _ hi q)))
   .exact .inr (.inr (.inr (m22 j u e q)))
 .rintro (q|q|q|⟨j,u,e,q⟩)
  .exact .inl q
  .exact .inr (.inl q)
  .exact .inr (.inr (.inl q))
  .by_cases z:i=j
   .clear e;subst z;exact .inr (.inr (.inr (m22 i v' (by rw[List.getElem?_set_self Ly]) q)))
   .exact .inr (.inr (.inr (m22 j u (by rw[List.getElem?_set_ne z];exact e) q)))
theorem FR.ack{i:Nat}(fr:FR W base h₀ sc env Y Γ oa m cm h)(ym:∀b,W.mut b->Y b)(hi:Γ[i]? =B' (.ow v))(k:∀b o,¬W.mut b->b≠oa i->h.get? b=B' o->h'.get? b=B' o)(o:cU W h' (Yf env Y Γ oa) (oa i) v'):FR W base h₀ sc env Y (Γ.set i (.ow v')) oa m cm h':=by
 have Ly:i<Γ.length:=(aV.mp hi).1
 have hid:Yf env Y Γ oa (oa i):=.inr (.inr (.inr (m22 i v hi rfl)))
 have kd:kN (Yf env Y Γ oa) h h':=λb o hb O e=>k b o (λq=>hb (kZ ym q)) (λq=>hb (q▸hid)) e
 have sub:=λb=>(ub (env:=env) (Y:=Y) (oa:=oa) (v':=v') hi b).mp
 refine hide λQz qz=>?_
 refine EK (fr.own i v hi) λq0 q1 q2 q3 q4 q5 q6=>?_
 have LG:∀j sl,(Γ.set i (.ow v'))[j]? =B' sl->(j=i/\sl=.ow v')\/(j≠i/\Γ[j]? =B' sl):=λj sl e=>by
  rw[List.getElem?_set] at e;split at e
  .rename_i q;obtain rfl:=ac e;exact .inl ⟨q.symm,rfl⟩
  .rename_i q;exact .inr ⟨λz=>q z.symm,e⟩
 refine qz ?_
 clear Qz qz
 exact
 {kind:=fr.kind
  globals:=fr.globals
  builtins:=fr.builtins
  nm:=fr.nm
  ns:=by refine x32 fr.ns λo es ep ho r=>?_;exact(uU o es ep (k _ _ fr.aai.1 (λq=>q2 q.symm) ho) r)
  cell:=λn c hc=>by refine x12 (fr.cell n c hc) λo ho r=>?_;exact⟨o,k _ _ (fr.aam n c hc).1 (q3 n c hc) ho,r⟩
  has:=fr.has
  apart:=fr.apart
  ne:=fr.ne
  aai:=fr.aai
  aam:=fr.aam
  aaj:=fr.aaj
  pl:=λn j u a b c=>by
   clear o q0 q1 q2 q3 q4 q5 q6;rcases LG j _ c with⟨rfl,e⟩|⟨q,e⟩
   .cases e
   .refine x12 (fr.pl n j u a b e) λz p r'=>?_
    exact⟨z,p,(r'.keep kd).weaken sub⟩
  ow:=λn j u a b c=>by
   clear k o hid sub q0 q1 q2 q3 q4 q5 q6;rcases LG j _ c with⟨rfl,e⟩|⟨q,e⟩
   .exact fr.ow n _ v a b hi
   .exact fr.ow n j u a b e
  own:=λj u c=>by
   rcases LG j _ c with⟨rfl,e⟩|⟨q,e⟩
   .clear c;cases e
    exact(EL (cW sub o) q1 q2 q3 q4 q5 q6)
   .refine x02 (fr.own j u e) λp r'=>?_
    exact⟨cW sub (p.keep kd λob z=>k _ _ r'.2.2.2.1 (λz=>q (fr.inj j i u v e hi z)) z),r'⟩
  inj:=λj j' u u' a b c=>by
   have old:∀(j:Nat)(u:V),(Γ.set i (.ow v'))[j]? =B' (Sl.ow u)->∃w,Γ[j]? =B' (Sl.ow w):=λj u e=>by
    clear k o hid sub q0 q1 q2 q3 q4 q5 q6 a b;rcases LG j _ e with⟨rfl,e'⟩|⟨q,e'⟩
    .exact⟨v,hi⟩
    .exact⟨u,e'⟩
   refine x11 (old j u a) λw hw=>?_
   refine x11 (old j' u' b) λw' UI=>?_
   exact fr.inj j j' w w' hw UI c
  old:=λb o nb e=>k b o nb (λq=>by rw[q,q6] at e;exact no e) (fr.old b o nb e)}
theorem FS.acm{i:Nat}(fs:FS W base sc env Y Γ oa T KE s)(hi:Γ[i]? =B' (.ow v))(kp:∀b o,¬W.mut b->b≠oa i->s.heap.get? b=B' o->h'.get? b=B' o)(o:cU W h' (Yf env Y Γ oa) (oa i) v')(iv:dl W base T' h'):FS W base sc env Y (Γ.set i (.ow v')) oa T' KE {s with heap:=h',toks:=tk}:=by
 refine hide λQz qz=>?_
 refine d6 fs.fr λm cm fr=>?_
 refine EK (fr.own i v hi) λq0 q1 q2 q3 q4 q5 q6=>?_
 refine qz ?_
 refine⟨⟨m,cm,fr.ack fs.y.ym hi kp o⟩,iv,⟨fs.y.ym,λb yb=>?_,fs.y.new⟩,?_⟩
 .by_cases mb:W.mut b
  .exact iv.aat mb
  .refine hide λQz qz=>?_;refine x12 (fs.y.there b yb) λo' e c=>?_;refine qz ?_;exact⟨o',kp b o' mb (λq=>q1 (q▸yb)) e,c⟩
 .refine hide λQz qz=>?_;refine d6 fs.same λh1 t1 a=>?_;refine qz ?_;exact⟨h',tk,by exact sb a rfl⟩
theorem FS.mut{i:Nat}(fs:FS W base sc env Y Γ oa T KE s)(hi:Γ[i]? =B' (.ow v))(kp:∀b o,b≠oa i->s.heap.get? b=B' o->h'.get? b=B' o)(o:cU W h' (Yf env Y Γ oa) (oa i) v'):FS W base sc env Y (Γ.set i (.ow v')) oa T KE {s with heap:=h',toks:=tk}:=by
 refine hide λQz qz=>?_
 refine d6 fs.fr λm cm fr=>?_
 refine EK (fr.own i v hi) λq0 q1 q2 q3 q4 q5 q6=>?_
 refine x12 q0.nt λob WK nt=>?_
 refine qz ?_
 exact fs.acm hi (λb o O=>kp b o) o (fs.inv.fill q4 q5 WK nt kp)
theorem cT.mut{i:Nat}{K3:List Sl}(fz:kO Γ K3)(KV:FS W base sc env Y K3 oa T' KE KA)(y:∀b,W.mut b->Y b)(KF:Ev W s KA)(hi:K3[i]? =B' (.ow v))(kp:∀b o,b≠oa i->KA.heap.get? b=B' o->h'.get? b=B' o)(o:cU W h' (Yf env Y K3 oa) (oa i) v')(hk:k (K3.set i (.ow v')) T'=B' r):cT W base sc env Y KE (Yf env Y Γ oa) s k r .next {KA with heap:=h',toks:=tk}:=by
 refine(tL _ T' oa hk (KV.mut hi kp o) (λb hb=>.inl (dN fz b ((ub hi b).mp hb))) (λb ob nm nh e=>kp b ob (λq=>nh (dN fz b (.inr (.inr (.inr ⟨i,v,hi,q⟩))))) (KF.keep b ob nm e)))
theorem FS.abv{x:O'}{o:Nat×V}(fs:FS W base sc env Y Γ oa T KE s)(ho:mH sc Γ x=B' o)(q:Q (.ref (oa o.1)) s):qaa W A (Z' (.Name x px) env) Q E s:=by
 refine hide λQz qz=>?_
 refine d6 fs.fr λm cm fr=>?_
 refine Ek (jc ho) λh0 h1 h2 h3 h4=>?_
 refine qz ?_
 exact bO (cD fr.kind (fr.aa5 h2 (fr.ow x _ _ h2 h3 h4)) q h1) h0
theorem FS.aa6(S:dX W base n R.ev)(hA:Rm n A)(fs:FS W base sc env Y Γ oa T KE s)(f:kO Γ KX){v:V}(h:R.ev sc KX T e=B' (v,T'))(q:∀x s',Ev W s s'->FS W base sc env Y KX oa T' KE s'->VR W s'.heap (Yf env Y KX oa) x v->Q x s'):qaa W A (Z' e env) Q E s:=fs.expr S hA f h λx s' m cm e fr r i y same=>q x s' e ⟨⟨m,cm,fr.freeze f⟩,i,y,same⟩ r
theorem FS.freeze(fs:FS W base sc env Y Γ oa T KE s)(f:kO Γ KX):FS W base sc env Y KX oa T KE s:=by
 refine d6 fs.fr λm cm fr=>?_
 exact⟨⟨m,cm,fr.freeze f⟩,fs.inv,fs.y,fs.same⟩
theorem FS.ev'(fs:FS W base sc env Y Γ oa T KE s)(e:Ev W s s')(i:dl W base T' s'.heap):FS W base sc env Y Γ oa T' KE s':=by
 refine hide λQz qz=>?_
 refine d6 fs.fr λm cm fr=>?_
 refine qz ?_
 refine⟨⟨m,cm,fr.ev fs.y.ym e⟩,i,fs.y.ev e i,?_⟩
 refine hide λQz qz=>?_
 refine d6 fs.same λh1 t1 a=>?_
 refine iP e λh2 t2 b O=>?_
 refine qz ?_
 exact⟨h2,t2,by rw[b,a]⟩
theorem qF{f:TS->Expr->cK}{u:V}(hn:kS e=true)(h:f T e=B' (u,T₁)):lV f T [e]=B' ([u],T₁):=by
 simp only[lV,hn,cond_true,h,Option.bind]
theorem qG{p:Pos}(hn:kS e=true):((backTo p (starEach [e] env)).all (λx=>!x.1)&&(backToKw p (aek [] env)).all (λx=>x.1.isSome)&&decide (([e]:List Expr).length+([]:List Keyword).length+(if([]:List Keyword).isEmpty then 0 else 1)<30))=true:=by
 have PJ:backTo p (starEach [e] env)=[(false,Z' e env)]:=by rw[se hn];rfl
 refine sb PJ ?_;rfl
theorem cM.one{u:V}(r:cM W h Y xs [u]):∃y,xs=[y]/\VR W h Y y u:=by
 refine x23 (cM.aaX r) λO O KC a b=>?_;subst KC;obtain rfl:=cM.aaV b;exact⟨_,rfl,a⟩
theorem uc(S:dX W base n R.ev)(hA:Rm n A){x:O'}{p:Pos}{c:V}{o:Nat×V}{u:V}(hn:kS e=true)(hl:(ap.endLine==p.line)=true)(ho:mH sc (eJ sc e Γ) x=B' o)(hp:R.ev sc (eJ sc e Γ) T e=B' (u,T₁))(hc:eW o.2 u=B' c)(hk:(C' (du sc (eJ sc e Γ) x (.ow c)) λΓ=>k Γ T₁)=B' r)(fs:FS W base sc env Y Γ oa T KE s):qaa W A (adR (.Expr (.Call (.Attribute (.Name x px) fG ap) [e] [] p) pos) env) (cT W base sc env Y KE (Yf env Y Γ oa) s k r) E s:=by
 refine hide λQz qz=>?_
 refine x12 (tW hk) λKX K6 hk=>?_
 obtain⟨i,w⟩:=o
 refine Ek (jc ho) λO O hv Nn hi=>?_
 obtain⟨_,j,hj,Ly,rfl⟩:=gI K6
 refine qz ?_
 rw[Nn] at hj;obtain rfl:=ac hj
 clear Nn Ly K6;refine hide λQz qz=>?_;revert hc;induction w using V.casesOn<;>first|exact no|(intro hc;refine qz ?_;clear Qz qz)
 rename_i l
 refine hide λQz qz=>?_
 refine x02 (dB hc) λhz KC=>?_;subst KC
 have fz:=eP sc e Γ
 have LO:=fs.freeze fz
 refine d6 LO.fr λm cm fr=>?_
 refine qz ?_
 refine ady (adF rfl (qG hn) hl F.plainAttrs_list aea rfl (LO.abv ho ?_)) (by unfold adL;refine sb fr.kind ?_;rfl)
 have own:=(fr.own i _ hi).1
 refine hide λQz qz=>?_
 obtain⟨⟨xs,⟨nn,g⟩,q⟩,z⟩:=own
 refine qz ?_
 refine⟨⟨_,g,rfl⟩,λa ea=>by cases ea;exact⟨_,g,rfl⟩,?_⟩
 have QE:=qF hn hp
 refine ce (gH (ik QE)) (fQ S hA QE (fr.st (kO.refl _) LO.inv LO.y) λys KA rs KD KF=>?_)
 refine hide λQz qz=>?_
 refine x12 rs.one λy KC ry=>?_;subst KC
 have KV:=LO.ev' KF KD.inv
 have Q5:=(fr.ev LO.y.ym KF).own i _ hi
 obtain⟨⟨⟨acI,TP,MY⟩,K7⟩,_⟩:=Q5
 refine qz ?_
 refine cq (hsz:=by(refine sb ay ?_;refine sb MY.length ?_);exact K7) TP λh' LT Lv=>?_
 rw[List.push_toArray] at LT
 have kp:∀b o,b≠oa i->KA.heap.get? b=B' o->h'.get? b=B' o:=λb o hb e=>(Lv.2 b hb).trans e
 have kd:kN (Yf env Y (eJ sc e Γ) oa) KA.heap h':=λb o hb O e=>kp b o (λq=>hb (q▸ .inr (.inr (.inr (m22 i _ hi rfl))))) e
 have Vx:cU W h' (Yf env Y (eJ sc e Γ) oa) (oa i) (.lst (l++[u])):=⟨⟨_,LT,(MY.append (.cons ry .nil)).keep kd⟩,by simpa using hz⟩
 exact cT.mut fz KV fs.y.ym KF hi kp Vx hk
theorem lQ{K:Type}[DecidableEq K](j k:K)(x y:G')(es:List (K×G'))(hn:((j,x)::es).map (·.1) |>.Nodup):aez ((j,x)::es) k y=if j=k then(j,y)::es else(j,x)::aez es k y:=by
 unfold aez
 by_cases e:j=k
 .subst e;simp only[aC,bj] at hn;have:es.map (λkv=>if kv.1=j then(kv.1,y) else kv)=es:=by
   rw[List.map_congr_left (g:=id)]
   .simp
   .intro a ha;have:a.1≠j:=λq=>hn.1 (q▸List.mem_map_of_mem ha);simp [this]
  simp [this]
 .by_cases a:es.any (λkv=>decide (kv.1=k))=true
  .simp [e,a]
  .simp [e,a]
theorem ud{es:List (Int×G')}{l:List (Int×V)}{k:Int}{y:G'}{v:V}(r:ja W h Y es l)(hn:(es.map (·.1)).Nodup)(ry:VR W h Y y v):ja W h Y (aez es k y) (dH k v l):=by
 induction es generalizing l with
 |nil=>cases r;exact .cons ry .nil
 |cons a es ih=>
  cases r with
  |@cons j x u es l p r=>
   rw[lQ j k x y es hn];simp only[qn,qo];by_cases e:j=k
   .clear ih;subst e;simp;exact .cons ry r
   .simp only[e,bg,aR.mpr e,cond_false];exact .cons p (ih r (by simp only[aC,bj] at hn;exact hn.2))
theorem mR{es:List (O'×G')}{l:List (O'×V)}{k:O'}{y:G'}{v:V}(r:iS W h Y es l)(hn:(es.map (·.1)).Nodup)(hk:k.length<=sizeLine)(ry:VR W h Y y v):iS W h Y (aez es k y) (iF k v l):=by
 induction es generalizing l with
 |nil=>cases r;exact .cons hk ry .nil
 |cons a es ih=>
  cases r with
  |@cons j x u es l z p r=>
   rw[lQ j k x y es hn];simp only[qp,qq];by_cases e:j=k
   .clear ih;subst e;simp;exact .cons hk ry r
   .simp only[e,bg,aR.mpr e,cond_false];exact .cons z p (ih r (by simp only[aC,bj] at hn;exact hn.2))
theorem la{k:Int}{v:V}:∀{l:List (Int×V)},(dH k v l).length<=l.length+1
 |[]=>by simp [qn,qo]
 |(j,u)::l=>by
  simp only[qn,qo];cases j==k
  .have:=la (k:=k) (v:=v) (l:=l);simp;assumption
  .simp
theorem lf{k:O'}{v:V}:∀{l:List (O'×V)},(iF k v l).length<=l.length+1
 |[]=>by simp [qp,qq]
 |(j,u)::l=>by
  simp only[qp,qq];cases j==k
  .have:=lf (k:=k) (v:=v) (l:=l);simp;assumption
  .simp
theorem kl{K:Type}[DecidableEq K]{knd:KeyKind W.prog W.w K}{es:List (K×G')}(g:h.DictOf knd a es):(es.map (·.1)).Nodup:=by
 refine Gf g λo e ep h1 h2 h3 h4 h5 h6=>?_;exact h6
set_option tactic.hygienic true in
theorem Ap{KB:H'}{Yy Yz:M'->Prop}{a:M'}{d w u c:V}{z y:G'}{Q:Unit->H'->Prop}(hc:hZ d w u=B' c)(own:cU W KB.heap Yy a d)(rz:VR W KB.heap Yz z w)(ry:VR W KB.heap Yy y u)(L3:∀h' tk,Heap.SameBut a KB.heap h'->(kN Yy KB.heap h'->cU W h' Yy a c)->Q () {KB with heap:=h',toks:=tk}):qaa W A (setItem (.ref a) z y) Q E KB:=by
 cases d<;>try (exact no hc)
 .rename_i l;obtain⟨⟨es,g,q⟩,z1,sy⟩:=own;cases w<;>try (cases l<;>exact no hc)
  .obtain⟨hz,rfl⟩:l.length<sizeLine/\c=.di (dH _ u l):=by
    cases l with
    |nil=>obtain rfl:=ac hc;exact⟨by decide,rfl⟩
    |cons a l=>obtain⟨h1,h2⟩:=aaf hc;exact⟨aS h1,by clear L3 hc;cases h2;rfl⟩
   refine x11 (VR.view rz) λO KC=>?_;subst KC;exact adO (hsz:=by rw[q.length];exact z1) eF g λh' QP Lv=>L3 h' _ Lv λkd=>⟨⟨_,QP,(ud q (kl g) ry).keep kd⟩,aG la hz,sy⟩
  .cases l with
   |cons _ _=>exact no hc
   |nil=>
    obtain rfl:=ac hc;obtain rfl:=List.map_eq_nil_iff.mp q.keys;refine x12 (VR.view rz) λO KC Vw=>?_;subst KC;exact adO (knd:=PySem.strKind W.prog W.w) (hsz:=by simp) dF (ii g) λh' QP Lv=>L3 h' _ Lv λkd=>⟨⟨_,QP,(mR .nil (by simp) Vw ry).keep kd⟩,(by show 1<=sizeLine;decide),sy⟩
 .rename_i l;obtain⟨⟨es,g,q⟩,z1,sy⟩:=own;cases w<;>try (exact no hc)
  obtain⟨hz,h2⟩:=aaf hc;cases h2;refine x12 (VR.view rz) λO KC Vw=>?_;subst KC;exact adO (hsz:=by rw[q.length];exact z1) dF g λh' QP Lv=>L3 h' _ Lv λkd=>⟨⟨_,QP,(mR q (kl g) Vw ry).keep kd⟩,aG lf (aS hz),sy⟩
theorem vd{Q:Flow->H'->Prop}(S:dX W base n R.ev)(hA:Rm n A){x:O'}{px tp pos:Pos}{e ie:Expr}{c:V}{o:Nat×V}{T₁ T₂:TS}{u w:V}(hg:fO e=true)(ho:mH sc (eJ sc e Γ) x=B' o)(hp:R.ev sc (eJ sc e Γ) T e=B' (u,T₁))(hq:R.ev sc (eJ sc e Γ) T₁ ie=B' (w,T₂))(hc:hZ o.2 w u=B' c)(hk:(C' (du sc (eJ sc e Γ) x (.ow c)) λΓ=>k Γ T₂)=B' r)(fs:FS W base sc env Y Γ oa T KE s)(hQ:∀s',FS W base sc env Y ((eJ sc e Γ).set o.1 (.ow c)) oa T₂ KE s'->k ((eJ sc e Γ).set o.1 (.ow c)) T₂=B' r->cT W base sc env Y KE (Yf env Y Γ oa) s k r .next s'->Q .next s'):qaa W A (adR (.Assign [.Subscript (.Name x px) ie tp] e pos) env) Q E s:=by
 refine hide λQz qz=>?_
 refine x12 (tW hk) λKX K6 hk=>?_
 obtain⟨i,d⟩:=o
 refine Ek (jc ho) λO O hv Nn hi=>?_
 obtain⟨_,j,hj,Ly,rfl⟩:=gI K6
 refine qz ?_
 clear Qz qz
 rw[Nn] at hj;obtain rfl:=ac hj
 have fz:=eP sc e Γ
 have LO:=fs.freeze fz
 refine wpAny_Assign_Subscript (LO.aa6 S hA (kO.refl _) hp λy KA KF KV ry=>KV.abv ho (KV.aa6 S hA (kO.refl _) hq λz KB KL KW rz=>?_)) (by clear hg hp hq ho hQ hi Ly K6 hk fz LO;induction e using Expr.casesOn<;>first|rfl|(cases hg;done))
 refine d6 KW.fr λm cm fr=>?_
 refine Ap hc (fr.own i _ hi).1 rz (ry.keep (KL.kpD λb mb=>kZ fs.y.ym mb)) λh' tk Lv Py=>?_
 have kp:∀b o,b≠oa i->KB.heap.get? b=B' o->h'.get? b=B' o:=λb o hb e=>(Lv.2 b hb).trans e
 have oo:=Py λb o hb O e=>kp b o (λq=>hb (q▸ .inr (.inr (.inr (m22 i _ hi rfl))))) e
 exact hQ _ (KW.mut hi kp oo) hk (cT.mut fz KW fs.y.ym (KF.trans KL) hi kp oo hk)
theorem Aq(S:dX W base n R.ev)(hA:Rm n A){x:O'}{c:V}{o:Nat×V}{u w:V}(hg:fO e=true)(ho:mH sc (eJ sc e Γ) x=B' o)(hp:R.ev sc (eJ sc e Γ) T e=B' (u,T₁))(hq:R.ev sc (eJ sc e Γ) T₁ ie=B' (w,T₂))(hc:hZ o.2 w u=B' c)(hk:(C' (du sc (eJ sc e Γ) x (.ow c)) λΓ=>k Γ T₂)=B' r)(fs:FS W base sc env Y Γ oa T KE s):qaa W A (adR (.Assign [.Subscript (.Name x px) ie tp] e pos) env) (cT W base sc env Y KE (Yf env Y Γ oa) s k r) E s:=vd S hA hg ho hp hq hc hk fs λO O O p=>p
theorem x0(S:dX W base n R.ev)(hA:Rm n A){f:Expr}{p:Pos}{v:V}(hp:R.ev sc (eJ sc (.Call f es [] p) Γ) T (.Call f es [] p)=B' (v,T₁))(hk:k Γ T₁=B' r)(fs:FS W base sc env Y Γ oa T KE s):qaa W A (adR (.Expr (.Call f es [] p) pos) env) (cT W base sc env Y KE (Yf env Y Γ oa) s k r) E s:=by
 refine d6 fs.fr λm cm fr=>?_
 refine ady (fs.expr S hA (eP sc _ Γ) hp λx s' m cm e Mk r' i y same=>?_) (by unfold adL;refine sb fr.kind ?_;rfl)
 exact(tL Γ T₁ oa hk (⟨⟨m,cm,Mk⟩,i,y,same⟩) (λb hb=>.inl hb) (λb o nm O q=>e.keep b o nm q))
end
variable {nn:Nat}{ns:List O'}
section
variable {W:Wd}{B:Bs}{base:P'}{R:Rc}{Lq:M'->V->TS->cK}{KE:H'}{k:List Sl->TS->cK}{r:V×TS}{h₀:P'}{v v':V}
theorem dl.ace{l:List V}(hl:W.live)(w:jo W)(i:dl W base T h)(kp:∀b o,b≠W.aaQ->h.get? b=B' o->h'.get? b=B' o)(at_:h'.get? W.aaQ=B' (eB xs nn))(r:cM W h W.mut xs l)(hk:∀v∈l,v.hk 6=true)(z:l.length<=sizeLine):dl W base {T with rows:=l} h':=by
 have mm:W.mut W.aaQ:=.inl ⟨hl,rfl⟩
 have nt:=i.aat mm
 have kt:∀b xs,h.get? b=B' (fb xs)->h'.get? b=B' (fb xs):=λb xs e=>kp b _ (λq=>by subst q;refine x12 nt λo e' n=>?_;rw[e] at e';obtain rfl:=ac e';exact n _ rfl) e
 refine⟨λb o n e=>kp b o (λq=>n (q▸mm)) (i.good b o n e),λO=>(fy xs nn at_ (r.aaG kt 6 hk) hk z),?_,?_⟩
 .intro hl;refine hide λQz qz=>?_;obtain⟨es,⟨o,ar,ep,h1,h2,h3,h4,h5,h6⟩,r⟩:=i.idx hl;refine qz ?_;clear Qz qz;exact⟨es,(zJ o ar ep (kp _ _ (bq w.ri) h1) h2 h3 h4 (λx hx=>let y:=h5 x hx;⟨y.1,y.2.1,y.2.2.aaG kt 6 y.2.1⟩) h6),r⟩
 .intro k hk;refine hide λQz qz=>?_;refine x35 (i.aux k hk) λxs n l g e q z hh=>?_;refine qz ?_;clear Qz qz;refine(tO xs n l (kp _ _ (bq (w.ra k hk)) g) ?_ (q.aaG kt 6 hh) z hh);rcases k with _|_|_|k<;>exact e
theorem dl.acn{es:List (V×M'×G')}{l:List (V×Int)}(hl:W.live)(w:jo W)(i:dl W base T h)(kp:∀b o,b≠W.aa2->h.get? b=B' o->h'.get? b=B' o)(at_:h'.DictOfH (eO W) W.aa2 es)(r:mM es l):dl W base {T with idx:=l} h':=by
 have mm:W.mut W.aa2:=.inr (.inl ⟨hl,rfl⟩)
 have nt:=i.aat mm
 have kt:∀b xs,h.get? b=B' (fb xs)->h'.get? b=B' (fb xs):=λb xs e=>kp b _ (λq=>by subst q;refine x12 nt λo e' n=>?_;rw[e] at e';obtain rfl:=ac e';exact n _ rfl) e
 refine⟨λb o n e=>kp b o (λq=>n (q▸mm)) (i.good b o n e),?_,λO=>⟨es,at_,r⟩,?_⟩
 .intro hl;refine hide λQz qz=>?_;refine x24 (i.rows hl) λxs n g q hk z=>?_;refine qz ?_;clear Qz qz;exact(fy xs n (kp _ _ w.ri g) (q.aaG kt 6 hk) hk z)
 .intro k hk;refine hide λQz qz=>?_;refine x35 (i.aux k hk) λxs n l g e q z hh=>?_;refine qz ?_;clear Qz qz;refine(tO xs n l (kp _ _ (bq (w.ia k hk)) g) ?_ (q.aaG kt 6 hh) z hh);rcases k with _|_|_|k<;>exact e
theorem TS.abB{j k:Nat}{l l':List V}(h:T.aux k=B' l'):(T.setAux j l).aux k=B' (if j=k then l else l'):=by
 rcases k with _|_|_|k<;>rcases j with _|_|_|j<;>first|exact no h|rfl|exact h
theorem TS.aa7{j:Nat}{l:List V}:(T.setAux j l).rows=T.rows/\(T.setAux j l).idx=T.idx:=by
 rcases j with _|_|_|j<;>exact⟨rfl,rfl⟩
theorem dl.aco{j:Nat}{l:List V}(w:jo W)(i:dl W base T h)(hj:j<W.na)(kp:∀b o,b≠W.aaR j->h.get? b=B' o->h'.get? b=B' o)(at_:h'.get? (W.aaR j)=B' (eB xs nn))(r:cM W h W.mut xs l)(hk:∀v∈l,v.hk 6=true)(z:l.length<=sizeLine):dl W base (T.setAux j l) h':=by
 have mm:W.mut (W.aaR j):=.inr (.inr ⟨j,hj,rfl⟩)
 have nt:=i.aat mm
 have kt:∀b xs,h.get? b=B' (fb xs)->h'.get? b=B' (fb xs):=λb xs e=>kp b _ (λq=>by subst q;refine x12 nt λo e' n=>?_;rw[e] at e';obtain rfl:=ac e';exact n _ rfl) e
 refine⟨λb o n e=>kp b o (λq=>n (q▸mm)) (i.good b o n e),?_,?_,?_⟩
 .intro hl;refine hide λQz qz=>?_;refine x24 (i.rows hl) λxs n g q hk z=>?_;refine qz ?_;clear Qz qz;refine sb TS.aa7.1 ?_;exact(fy xs n (kp _ _ (w.ra j hj) g) (q.aaG kt 6 hk) hk z)
 .intro hl;refine hide λQz qz=>?_;obtain⟨es,⟨o,ar,ep,h1,h2,h3,h4,h5,h6⟩,r⟩:=i.idx hl;refine qz ?_;clear Qz qz;refine sb TS.aa7.2 ?_;exact⟨es,(zJ o ar ep (kp _ _ (w.ia j hj) h1) h2 h3 h4 (λx hx=>let y:=h5 x hx;⟨y.1,y.2.1,y.2.2.aaG kt 6 y.2.1⟩) h6),r⟩
 .intro k' RP;refine hide λQz qz=>?_;refine x35 (i.aux k' RP) λYH n l' g e q z' hh=>?_;refine qz ?_;clear Qz qz;by_cases ejk:j=k'
  .subst ejk;exact(tO xs nn l at_ (by rw[TS.abB e,aZ rfl]) (r.aaG kt 6 hk) z hk)
  .refine(tO YH n l' (kp _ _ (λq=>ejk (w.aa _ _ RP hj q).symm) g) (by rw[TS.abB e,aL ejk]) (q.aaG kt 6 hh) z' hh)
theorem VR.ab3{u:V}(r:VR W h Y x u)(hk:u.hk 6=true)(i:dl W base T h):VR W h W.mut x u:=r.move (λb m o e=>by refine x12 (i.aat m) λo' e' n=>?_;rw[e] at e';obtain rfl:=ac e';exact n) (u3 6 u hk)
theorem Ev.ab4{X:M'}(mm:W.mut X)(kp:∀b o,b≠X->s.heap.get? b=B' o->h'.get? b=B' o):Ev W s {s with heap:=h',toks:=tk}:=(m22 h' tk rfl (λb o n e=>kp b o (λq=>n (q▸mm)) e))
theorem cT.ev(fs:FS W base sc env Y Γ oa T KE s)(e:Ev W s s')(i:dl W base T' s'.heap)(hk:k Γ T'=B' r):cT W base sc env Y KE (Yf env Y Γ oa) s k r .next s':=(tL Γ T' oa hk (fs.ev' e i) (λb hb=>.inl hb) (λb o nm O q=>e.keep b o nm q))
set_option tactic.hygienic true in
theorem oF(w:jo W)(S:dX W base n R.ev)(hA:Rm n A){o:Expr}{a:O'}{mp p:Pos}{hv u:V}(hn:kS e=true)(hl:(mp.endLine==p.line)=true)(hh:R.ev sc Γ T (.Attribute o a ap)=B' (hv,T₁))(hp:R.ev sc Γ T₁ e=B' (u,T₂))(hc:tP hv u T₂=B' Lm)(hk:k Γ Lm=B' r)(fs:FS W base sc env Y Γ oa T KE s):qaa W A (adR (.Expr (.Call (.Attribute (.Attribute o a ap) fG mp) [e] [] p) pos) env) (cT W base sc env Y KE (Yf env Y Γ oa) s k r) E s:=by
 refine hide λQz qz=>?_
 refine d6 fs.fr λm cm fr=>?_
 refine qz ?_
 clear Qz qz
 refine ady (adF rfl (qG hn) hl F.plainAttrs_list aea rfl (fs.aa6 S hA (kO.refl _) hh λx KA KF KV rx=>?_)) (by unfold adL;refine sb fr.kind ?_;rfl)
 have QE:=qF hn hp
 refine hide λQz qz=>?_
 refine d6 KV.fr λM2 acJ LV=>?_
 have args:∀(c:M'),(∀KB y,Ev W s KB->FS W base sc env Y Γ oa T₂ KE KB->VR W KB.heap (Yf env Y Γ oa) y u->qaa W A (call (.builtin "list.append") [.ref c,y]) (λO=>cT W base sc env Y KE (Yf env Y Γ oa) s k r .next) E KB)->qaa W A (callWith p (.builtin "list.append") [.ref c] (backTo p (starEach [e] env)) []) (λO=>cT W base sc env Y KE (Yf env Y Γ oa) s k r .next) E KA:=λc hc=>by
  refine ce (gH (ik QE)) (fQ S hA QE (LV.st (kO.refl _) KV.inv KV.y) λys KB rs KG KL=>?_);refine x12 rs.one λy KC ry=>?_;subst KC;exact hc KB y (KF.trans KL) (KV.ev' KL KG.inv) ry
 have L3:∀{KB:H'}{X:M'}{h':P'}{tk:Nat},Ev W s KB->W.mut X->Heap.SameBut X KB.heap h'->dl W base Lm h'->cT W base sc env Y KE (Yf env Y Γ oa) s k r .next {KB with heap:=h',toks:=tk}:=λ{KB X h' tk} KL mm hs i=>
  cT.ev fs (KL.trans (Ev.ab4 mm λb o hb e=>(hs.2 b hb).trans e)) i hk
 refine qz ?_
 clear Qz qz
 revert hc;induction hv using V.casesOn<;>first|exact no|intro hc
 .cases rx;rename_i PH;change (bif u.hk 6 then fit (T₂.rows.length+1) {T₂ with rows:=T₂.rows++[u]} else F')=B' Lm at hc;cases hu:u.hk 6 with
  |false=>rw[hu] at hc;exact no hc
  |true=>
  rw[hu,cond_true] at hc;refine x02 (dB hc) λhz hT=>?_;clear hc;cases hT;refine hide λQz qz=>?_;refine x23 (KV.inv.rows PH) λxs nn g q O=>?_;refine qz ?_;clear Qz qz;refine⟨⟨_,g,rfl⟩,λa ea=>by cases ea;exact⟨_,g,rfl⟩,args _ λKB y KL KW ry=>?_⟩;refine hide λQz qz=>?_;refine x24 (KW.inv.rows PH) λSX Qe Mg Pr MM La=>?_;refine qz ?_;clear Qz qz;refine cq (hsz:=by(refine sb ay ?_;refine sb Pr.length ?_);exact La) ⟨Qe,Mg⟩ λh' LT Lv=>?_;rw[List.push_toArray] at LT;refine x11 LT λLY Rb=>?_;refine L3 KL (.inl ⟨PH,rfl⟩) Lv (KW.inv.ace PH w (λb o hb e=>(Lv.2 b hb).trans e) Rb (Pr.append (.cons (ry.ab3 hu KW.inv) .nil)) (λv hv=>?_) (by simpa using hz));rcases bf.mp hv with h|h
  .exact MM v h
  .rw[am.mp h];exact hu
 .rename_i j;cases rx;rename_i hj;change (bif u.hk 6 then C' (T₂.aux j) λl=>fit (l.length+1) (T₂.setAux j (l++[u])) else F')=B' Lm at hc;cases hu:u.hk 6 with
  |false=>rw[hu] at hc;exact no hc
  |true=>
  rw[hu,cond_true] at hc;refine aac hc λl LT hc=>?_;refine x02 (dB hc) λhz hT=>?_;clear hc;clear hc;cases hT;refine hide λQz qz=>?_;refine x33 (KV.inv.aux j hj) λxs nn l1 g q O=>?_;refine qz ?_;clear Qz qz;refine⟨⟨_,g,rfl⟩,λa ea=>by cases ea;exact⟨_,g,rfl⟩,args _ λKB y KL KW ry=>?_⟩;refine hide λQz qz=>?_;refine x35 (KW.inv.aux j hj) λSX Qe acV Mg QX Pr La MM=>?_;refine qz ?_;clear Qz qz;rw[LT] at QX;obtain rfl:=ac QX;refine cq (hsz:=by(refine sb ay ?_;refine sb Pr.length ?_);exact La) ⟨Qe,Mg⟩ λh' LT Lv=>?_;rw[List.push_toArray] at LT;refine x11 LT λLY Rb=>?_;refine L3 KL (.inr (.inr ⟨j,hj,rfl⟩)) Lv (KW.inv.aco w hj (λb o hb e=>(Lv.2 b hb).trans e) Rb (Pr.append (.cons (ry.ab3 hu KW.inv) .nil)) (λv hv=>?_) (by simpa using hz));rcases bf.mp hv with h|h
  .exact MM v h
  .rw[am.mp h];exact hu
theorem mM.snoc{es:List (V×M'×G')}{l:List (V×Int)}{kk:V}{i:Int}{t:Tok}(r:mM es l):mM (es++[(kk,a,.int i t)]) (l++[(kk,i)]):=by
 induction r with
 |nil=>exact .cons .nil
 |cons _ ih=>exact .cons ih
theorem mM.length{es:List (V×M'×G')}{l:List (V×Int)}(r:mM es l):es.length=l.length:=by
 induction r with
 |nil=>rfl
 |cons _ ih=>simp [ih]
set_option tactic.hygienic true in
theorem ue(w:jo W)(S:dX W base n R.ev)(hA:Rm n A){o:Expr}{a:O'}{hv u z:V}{PQ:TS}(hg:fO e=true)(hp:R.ev sc Γ T e=B' (u,T₁))(hh:R.ev sc Γ T₁ (.Attribute o a ap)=B' (hv,T₂))(hq:R.ev sc Γ T₂ ie=B' (z,Lm))(hc:qr hv z u Lm=B' PQ)(hk:k Γ PQ=B' r)(fs:FS W base sc env Y Γ oa T KE s):qaa W A (adR (.Assign [.Subscript (.Attribute o a ap) ie tp] e pos) env) (cT W base sc env Y KE (Yf env Y Γ oa) s k r) E s:=by
 refine wpAny_Assign_Subscript (fs.aa6 S hA (kO.refl _) hp λy KA KF KV ry=>KV.aa6 S hA (kO.refl _) hh λx KB KL KW rx=>KW.aa6 S hA (kO.refl _) hq λy' KH LJ NQ rz=>?_) (by clear hg hp;induction e using Expr.casesOn<;>first|rfl|(cases hg;done))
 revert hc;induction hv using V.casesOn<;>first|exact no|intro hc
 refine hide λQz qz=>?_;revert hc;induction z using V.casesOn<;>first|exact no|(intro hc;refine qz ?_;clear Qz qz)
 revert hc;induction u using V.casesOn<;>first|exact no|intro hc
 rename_i l j
 refine x02 (aaf hc) λhb hT=>?_
 cases hT
 simp only[aq,bl] at hb
 obtain⟨⟨YC,Mw⟩,hz⟩:=hb
 cases rx
 rename_i PH
 refine x11 (VR.view ry) λO KC=>?_;subst KC
 refine iP rz.abm λra xs KC O=>?_;subst KC
 refine x12 (NQ.inv.idx PH) λes hd hr=>?_
 have Tz:atKey es (.tup l)=F':=by
  rcases fP hr (.tup l) with⟨h1,_⟩|⟨_,_,_,_,h2⟩
  .exact h1
  .rw[h2] at Mw;exact nb Mw
 refine wpAny_setItem_heap (knd:=eO W) (hsz:=by refine sb hr.length ?_;exact Nat.le_of_lt hz) (by show A.units+1+8<adD;have:=hA.u;exact Cq this rfl) (gG rz YC) hd λh' QP Lv=>?_
 rw[storedH_new Tz] at QP
 have kp:∀b o,b≠W.aa2->KH.heap.get? b=B' o->h'.get? b=B' o:=λb o hb e=>(Lv.2 b hb).trans e
 exact cT.ev fs (KF.trans (KL.trans (LJ.trans (Ev.ab4 (.inr (.inl ⟨PH,rfl⟩)) kp)))) (NQ.inv.acn PH w kp QP hr.snoc) hk
theorem aa3{P:Prop}(h:ib (e::es)=B' ns)(k:∀x p ws,e=.Name x p->ib es=B' ws->ns=x::ws->P):P:=by
 revert h;induction e using Expr.casesOn<;>first|exact no|intro h
 refine x12 (aK.mp h) λws hw e=>?_
 exact k _ _ ws rfl hw e.symm
theorem po(h:eN sc [] vs Γ=B' KX):vs=[]/\KX=Γ:=by
 rcases vs with _|⟨v,vs⟩
 .exact⟨rfl,(ac h).symm⟩
 .exact no h
theorem mS{x:O'}{P:Prop}(h:eN sc (x::ns) vs Γ=B' KX)(k:∀v ws K3,vs=v::ws->du sc Γ x (.pl v)=B' K3->eN sc ns ws K3=B' KX->P):P:=by
 rcases vs with _|⟨v,vs⟩
 .exact no h
 .exact aac h λK3 h1 h2=>k v vs K3 rfl h1 h2
theorem uf{hA:A.handled=F'}{es:List Expr}:∀{ns:List O'}{vs:List V}{xs:List G'}{Γ KX:List Sl}{s:H'}{Q:Unit->H'->Prop},ib es=B' ns->eN sc ns vs Γ=B' KX->FS W base sc env Y Γ oa T KE s->cM W s.heap (Yf env Y Γ oa) xs vs->(∀s',FS W base sc env Y KX oa T KE s'->(∀b,Yf env Y KX oa b->Yf env Y Γ oa b)->(∀b o,¬Yf env Y Γ oa b->s.heap.get? b=B' o->s'.heap.get? b=B' o)->Q () s')->qaa W A (assignInOrder ((aey es env).map (·.2)) xs) Q E s:=by
 induction es with
 |nil=>
  intro ns vs xs Γ KX s Q hn hs fs r q;obtain rfl:=ac hn;refine x02 (po hs) λKC PV=>?_;subst KC;subst PV;obtain rfl:=r.aaV;exact av (q s fs (λO h=>h) λO O O e=>e)
 |cons e es ih=>
  intro ns vs xs Γ KX s Q hn hs fs r q;refine aa3 hn λx px WS e1 PI e2=>?_;clear hn;subst e1 e2;refine mS hs λv vs K3 e1 h1 h2=>?_;clear hs;subst e1;refine x23 r.aaX λy xs KC ry rs=>?_;subst KC;clear r;refine d6 fs.fr λm cm fr=>?_;refine adS (ado (fr.store fs.inv fs.y h1 ry λm' LD h' tk Mk i' y' sub kp=>?_));refine ih PI h2 ⟨⟨m',LD,Mk⟩,i',y',?_⟩ ((rs.keep (h':=h') λb o hb O e=>kp b o (λz=>hb z.yf) e).weaken sub) λs' LO Vr Ze=>q s' LO (λb hb=>sub b (Vr b hb)) λb o hb e=>Ze b o (λz=>hb (sub b z)) (kp b o (λz=>hb z.yf) e);refine d6 fs.same λh1 t1 a=>?_;exact⟨h',tk,by exact sb a rfl⟩
theorem sB{es:List Expr}:∀{ns:List O'},ib es=B' ns->(aey es env).length=ns.length/\(aey es env).findIdx? (·.1)=F':=by
 induction es with
 |nil=>exact λh=>ac h▸⟨rfl,rfl⟩
 |cons e es ih=>
  exact λh=>aa3 h λx p ws e1 hw e2=>by
   subst e1 e2;have i:=ih hw;refine⟨aM (· +1) i.1,?_⟩;show List.findIdx? (·.1) ((false,assign (.Name x p) env)::aey es env)=F';(refine sb (List.findIdx?_cons) ?_;refine sb i.2 ?_);rfl
theorem wI:∀{vs:List V}{Γ KX:List Sl},eN sc ns vs Γ=B' KX->ns.length=vs.length:=by
 induction ns with
 |nil=>exact λh=>(po h).1▸rfl
 |cons x ns ih=>exact λh=>mS h λv ws K3 e O h2=>e▸aM (· +1) (ih h2)
theorem oG(S:dX W base n R.ev)(hA:Rm n A){kk:Nat}{u:V}(hg:BH e=true)(hn:ib es=B' ns)(hp:R.ev sc (eJ sc e Γ) T e=B' (u,T₁))(hu:iG u=B' vs)(hk:(C' (eN sc ns vs (eJ sc e Γ)) λΓ=>k Γ T₁)=B' r)(fs:FS W base sc env Y Γ oa T KE s):qaa W A (adR (.Assign [.Tuple es kk tp] e pos) env) (cT W base sc env Y KE (Yf env Y Γ oa) s k r) E s:=by
 refine hide λQz qz=>?_
 obtain⟨KX,K6,hk⟩:=tW hk
 have fz:=eP sc e Γ
 refine qz ?_
 clear Qz qz
 refine Assign_Tuple ((fs.freeze fz).aa6 S hA (kO.refl _) hp λx KA KF KV rx=>?_) (by clear hg hp K6 fz;induction e using Expr.casesOn<;>first|rfl|(cases hg;done)) (by clear hp K6 fz;induction e using Expr.casesOn<;>first|rfl|(exact nb hg;done))
 revert hu;induction u using V.casesOn<;>first|exact no|intro hu
 cases hu
 refine hide λQz qz=>?_
 refine lH rx.abm λa xs KC hT rs z ny=>?_;subst KC
 obtain⟨hl,Tu⟩:=sB (env:=env) hn
 refine qz ?_
 clear Qz qz
 refine wpAny_assign_Tuple (items:=xs.toArray) hA.handled ?_ (by rw[hl,wI K6,ay,rs.length]) Tu λh' he=>?_
 .exact⟨_,hT,rfl,_,rfl⟩
 have al:Al KA {KA with heap:=h'}:=(m22 h' KA.toks rfl (λb o e=>he b o (bD (aY e)) e))
 refine uf (hA:=hA.handled) hn K6 (KV.ev' al.ev (KV.inv.al al)) (rs.keep al.kpD) λs' LO sub kp=>?_
 exact(tL KX T₁ oa hk LO (λb hb=>.inl (dN fz b (sub b hb))) (λb o nm nh q=>kp b o (λz=>nh (dN fz b z)) (al.keep b o (KF.keep b o nm q))))
end
noncomputable def ug(W:Wd)(base:P')(n:Nat)(ev:Sc->List Sl->TS->Expr->cK):Prop:=∀{A:ada}{E:qab}{s:H'}{sc:Sc}{env:Env}{Y:M'->Prop}{Γ:List Sl}{T:TS}{Lc it:Expr}{x:O'}{px:Pos}{ifs:List Expr}{s':adt}{pos:Pos}{v:V}{T':TS}{use:G'->Sem Unit}{Q:Unit->H'->Prop},Rm n A->ev sc Γ T (.ListComp Lc [⟨.Name x px,it,ifs,0⟩] s' pos)=B' (v,T')->St W base sc env Y Γ T s->(∀D C sf m,VR W sf.heap (λb=>Y b\/b=C) (.ref D) v->sf.heap.Ns C m->s.heap.get? C=F'->xX W base env C->St W base sc env (λb=>Y b\/b=C) Γ T' sf->Ev W s sf->qaa W A (use (.ref D)) (λO MV=>∃m,MV.heap.Ns C m/\∀h',Heap.SameBut C MV.heap h'->Q () {MV with heap:=h'}) E sf)->qaa W A (evalThenUse (.ListComp Lc [⟨.Name x px,it,ifs,0⟩] s' pos) env use) Q E s
section
variable {W:Wd}{B:Bs}{base:P'}{R:Rc}{Lq:M'->V->TS->cK}{KE:H'}{k:List Sl->TS->cK}{r:V×TS}{h₀:P'}{v v':V}
theorem abb{it:Expr}{x:O'}{s':adt}{P:Prop}(h:abz B R sc Γ T Lc (.Name x px) it ifs s'=B' (v,T'))(k:∀l T₁ KN,f5 sc s' [x]=true->jP it=true->eM sc Γ s' [x]=true->lJ B sc (R.ev sc Γ) T it=B' (l,T₁)->l.length<=sizeLine->v=.lst KN->cC (ki R sc Γ s' [x] (λv=>B' v) (λv=>[.pl v]) ifs Lc) l T₁=B' (KN,T')->P):P:=by
 refine aaU (c:=f5 sc s' [x]&&!(x==cV)&&jP it&&eM sc Γ s' [x]) h λhc h=>aac h λp hp h=>aac h λu hu h=>aac h λq hq h=>?_
 simp only[aq] at hc
 cases h
 exact k p.1 p.2 q.1 hc.1.1.1 hc.1.2 hc.2 hp (dB hu).1 rfl hq
theorem x5(Z:fK W B base)(S:dX W base n R.ev)(S':gv W base n R.tst):ug W base n (qm B Φ R):=by
 intro A E s sc env Y Γ T Lc it x px ifs s' pos v T' use Q hA h st L3
 refine abb (show abz B R sc Γ T Lc (.Name x px) it ifs s'=B' (v,T') from h) λl T₁ KN ok OS fo hi hz hv hc=>?_
 rw[arm_evalThenUse_ListComp]
 exact ah (bb (kj (Q:=λO=>Q ()) Z S S' hA ok OS fo hi hz hc st (hv▸L3)) (λO s' hq=>av hq) λO O e=>e)
theorem FR.acf(fr:FR W base h₀ sc env (λb=>Y b\/b=C) Γ oa m cm h)(k:∀b o,b≠C->h.get? b=B' o->h'.get? b=B' o)(hC:h₀.get? C=F'):FR W base h₀ sc env Y Γ oa m cm h':=by
 have sub:∀b,Yf env Y Γ oa b->Yf env (λb=>Y b\/b=C) Γ oa b:=by
  rintro b (q|q|q|q)
  .exact .inl (.inl q)
  .exact .inr (.inl q)
  .exact .inr (.inr (.inl q))
  .exact .inr (.inr (.inr q))
 have kd:kN (Yf env (λb=>Y b\/b=C) Γ oa) h h':=λb o hb O e=>k b o (λq=>hb (.inl (.inr q))) e
 exact
 {kind:=fr.kind
  globals:=fr.globals
  builtins:=fr.builtins
  nm:=fr.nm
  ns:=by refine x32 fr.ns λo es ep ho r=>?_;exact(uU o es ep (k _ _ (λq=>fr.aai.2.2.1 (.inr q)) ho) r)
  cell:=λn c hc=>by refine x12 (fr.cell n c hc) λo ho r=>?_;exact⟨o,k _ _ (λq=>(fr.aam n c hc).2.2.1 (.inr q)) ho,r⟩
  has:=fr.has
  apart:=fr.apart
  ne:=fr.ne
  aai:=(ml fr.aai.1 fr.aai.2.1 (λq=>fr.aai.2.2.1 (.inl q)) fr.aai.2.2.2)
  aam:=λn c hc=>(ml ((fr.aam n c hc).1) ((fr.aam n c hc).2.1) (λq=>(fr.aam n c hc).2.2.1 (.inl q)) ((fr.aam n c hc).2.2.2))
  aaj:=fr.aaj
  pl:=λn i v a b c=>by refine x12 (fr.pl n i v a b c) λx p q=>?_;exact⟨x,p,(q.keep kd).weaken sub⟩
  ow:=fr.ow
  own:=λi v c=>by
   refine x02 (fr.own i v c) λp q=>?_
   exact⟨cW sub (p.keep kd λob z=>k _ _ (λz=>q.1 (.inr z)) z),λz=>q.1 (.inl z),q.2⟩
  inj:=fr.inj
  old:=λb o nb e=>k b o (λq=>by rw[q,hC] at e;exact no e) (fr.old b o nb e)}
theorem oH(U:ug W base n R.ev)(hA:Rm n A){it:Expr}{x y:O'}{py:Pos}{s':adt}(hs:aen (.ListComp Lc [⟨.Name x px,it,ifs,0⟩] s' LX) (B' (.Name y py)) pos.line env=pure true)(h:(C' (R.ev sc (eJ sc (.ListComp Lc [⟨.Name x px,it,ifs,0⟩] s' LX) Γ) T (.ListComp Lc [⟨.Name x px,it,ifs,0⟩] s' LX)) λp=>C' (du sc (BF sc (.ListComp Lc [⟨.Name x px,it,ifs,0⟩] s' LX) Γ p.1) y (.pl p.1)) λΓ=>k Γ p.2)=B' r)(fs:FS W base sc env Y Γ oa T KE s):qaa W A (adR (.Assign [.Name y py] (.ListComp Lc [⟨.Name x px,it,ifs,0⟩] s' LX) pos) env) (cT W base sc env Y KE (Yf env Y Γ oa) s k r) E s:=by
 generalize he:(Expr.ListComp Lc [⟨.Name x px,it,ifs,0⟩] s' LX)=e at*
 refine aac h λp hp h2=>?_
 refine x12 (tW h2) λKX K6 h3=>?_
 refine d6 fs.fr λm cm fr=>?_
 have fz:=eP sc e Γ
 refine sb (exec_Assign_Name_used _ _ _ _ hs) ?_
 refine ah (adZ (ah ?_))
 clear hs h h2;subst he
 refine U (Q:=λO s'=>V' _ A (pure Flow.next) _ E s') hA (v:=p.1) (T':=p.2) hp (fr.st fz fs.inv fs.y) λD C sf mC rD hn hC fc PS KF=>?_
 have nY:¬Y C:=λz=>by refine x12 (fs.y.there C z) λo e O=>?_;rw[hC] at e;exact no e
 have n0:KE.heap.get? C=F':=by
  cases z:KE.heap.get? C with
  |none=>rfl
  |some o=>have:=fr.old _ _ fc.nm z;rw[hC] at this;exact no this
 have frC:=fr.fresh fs.y.ym KF hC
 have yC:fm W base (λb=>Y b\/b=C) sf.heap:=⟨λb m=>.inl (fs.y.ym b m),λb y=>PS.y.there b (y.elim (λz=>.inl (.inl z)) .inr),λb y=>PS.y.new b (y.elim (λz=>.inl (.inl z)) .inr)⟩
 have same:∃h tk,sf={KE with heap:=h,toks:=tk}:=by
  refine hide λQz qz=>?_;refine d6 fs.same λh1 t1 a=>?_;refine iP KF λh2 t2 b O=>?_;refine qz ?_;exact⟨h2,t2,by rw[b,a]⟩
 have YF:VR W sf.heap (Yf env (λb=>Y b\/b=C) (eJ sc (.ListComp Lc [⟨.Name x px,it,ifs,0⟩] s' LX) Γ) oa) (.ref D) p.1:=rD.weaken λb hb=>by
  rcases hb with(q|q)|q|q|q
  .exact .inl (.inl q)
  .exact .inr q
  .exact .inl (.inr (.inl q))
  .exact .inl (.inr (.inr (.inl q)))
  .exact .inl (.inr (.inr (.inr q)))
 refine ado (pn frC PS.inv yC K6 YF same λKB KW sub kp=>?_)
 refine⟨mC,?_,λQj PW=>av (tL KX p.2 oa h3 ?_ (λb hb=>?_) (λb o Pg nh q=>?_))⟩
 .refine x32 hn λo es ep ho r=>?_;exact(uU o es ep (kp _ _ (by rintro (q|⟨n',q⟩);exact fc.loc q.symm;exact fc.cel _ _ q rfl) ho) r)
 .have kC:∀b o,b≠C->KB.heap.get? b=B' o->Qj.get? b=B' o:=λb o hb e=>(PW.2 b hb).trans e;refine hide λQz qz=>?_;refine d6 KW.fr λLK MN Lg=>?_;refine x12 (KW.y.there C (.inr rfl)) λoC hoC YZ=>?_;refine qz ?_;refine⟨⟨LK,MN,Lg.acf kC n0⟩,KW.inv.fill fc.nm fc.nb hoC YZ kC,⟨fs.y.ym,λb y=>?_,fs.y.new⟩,?_⟩
  .refine x12 (KW.y.there b (.inl y)) λo e c=>?_;exact⟨o,kC b o (λq=>nY (q▸y)) e,c⟩
  .refine d6 KW.same λh1 t1 a=>?_;exact⟨Qj,t1,by rw[a]⟩
 .rcases sub b (by
   rcases hb with q|q|q|q
   .exact .inl (.inl q)
   .exact .inr (.inl q)
   .exact .inr (.inr (.inl q))
   .exact .inr (.inr (.inr q))) with(q|q)|q|q|q
  .exact .inl (.inl q)
  .exact .inr (q▸hC)
  .exact .inl (.inr (.inl q))
  .exact .inl (.inr (.inr (.inl q)))
  .exact .inl (.inr (.inr (.inr q)))
 .exact(PW.2 b (λz=>by rw[z,hC] at q;exact no q)).trans (kp b o (λz=>nh z.yf) (KF.keep b o Pg q))
theorem CY{gens:List Comprehension}{s:adt}{c:Pos}(h:fO (.ListComp Lc gens s c)=true):∃y py it ifs,gens=[⟨.Name y py,it,ifs,0⟩]:=by
 induction gens using List.casesOn with
 |nil=>exact nb h
 |cons g r=>
  obtain⟨t,it,ifs,a⟩:=g;revert h;induction t using Expr.casesOn<;>first|exact nb|(intro h;first|(exact nb h;done)|skip)
  induction a using Int.casesOn with
  |negSucc k=>exact nb h
  |ofNat k=>
   induction k using Nat.casesOn with
   |succ k=>exact nb h
   |zero=>
    induction r using List.casesOn with
    |cons _ _=>exact nb h
    |nil=>exact(Iu _ _ _ _ rfl)
set_option tactic.hygienic true in
theorem oI(S:dX W base n R.ev)(U:ug W base n R.ev)(hA:Rm n A){x:O'}(hg:fO e=true)(h:(C' (R.ev sc (eJ sc e Γ) T e) λp=>C' (du sc (BF sc e Γ p.1) x (.pl p.1)) λΓ=>k Γ p.2)=B' r)(fs:FS W base sc env Y Γ oa T KE s):qaa W A (adR (.Assign [.Name x px] e pos) env) (cT W base sc env Y KE (Yf env Y Γ oa) s k r) E s:=by
 have hb:∃b,aen e (B' (.Name x px)) pos.line env=pure b/\(b=true->∃Lc y py it ifs s' LX,e=.ListComp Lc [⟨.Name y py,it,ifs,0⟩] s' LX):=by
  clear h;induction e using Expr.casesOn<;>first|exact⟨false,rfl,λq=>by exact nb q⟩|(exact nb hg;done)|skip
  rename_i Lc gens s' LX;refine⟨_,rfl,λO=>?_⟩;refine hide λQz qz=>?_;refine ox (CY hg) λy py it ifs e=>?_;refine qz ?_;exact(J5 Lc y py it ifs s' LX (e▸rfl))
 refine x12 hb λb hb hc=>?_
 induction b using Bool.casesOn with
 |false=>exact ua S hA hb h fs
 |true=>
  refine hide λQz qz=>?_;refine J3 (hc rfl) λLc y py it ifs s' LX KC=>?_;subst KC;refine qz ?_;exact oH U hA hb h fs
end
variable {K8:O'}
section
variable {W:Wd}{B:Bs}{base:P'}{R:Rc}
theorem ER.acp{s':adt}{x:O'}{u Ug:V}{y Nr:G'}(er:ER W sc env Y h Γ)(ok:f5 sc s' [x,K8]=true)(fo:eM sc Γ s' [x,K8]=true)(Vm:∀n,(n,NameKind.free)∈s'.names->cl.lookup n=env.cells.lookup n)(Pv:∀n c,cl.lookup n=B' c->env.cells.lookup n=B' c)(nC:¬W.mut C)(hn:h.Ns C m)(hm:m x=B' y)(hy:VR W h Y y u)(Tk:m K8=B' Nr)(S3:VR W h Y Nr Ug)(KY:K8≠x):ER W ⟨s'.names,x::K8::sc.slots⟩ (adj s' cl C env) Y h (.pl u:: .pl Ug::Γ):=by
 have o1:=aag ok
 have o2:=aag o1.1
 have k0:=(aag o2.1).1
 have k1:=aE.mp (aag o2.1).2
 have k2:=aE.mp o2.2
 have k3:=aE.mp o1.2
 have f1:=aE.mp (aag fo).1
 have f2:=(aag fo).2
 clear o1 o2
 have lx:∀z∈[x,K8],s'.names.lookup z=B' .local:=λz hz=>by
  have:=k2 z hz;revert this;cases s'.names.lookup z with
  |none=>intro h;exact nb h
  |some k=>induction k using NameKind.casesOn<;>intro h<;>first|rfl|exact nb h
 refine⟨by show s'.kind=.function;simpa using k0,er.globals,er.builtins,λn hg=>?_,λn i v hd hv hi LZ=>?_,nC,λn c hc=>er.cel n c (Pv n c hc),⟨?_,λn c hc=>er.li.cel n c (Pv n c hc)⟩,λn hc=>?_⟩
 .unfold fw at hg;show((aer s' env).names.lookup n=_)\/((aer s' env).names.lookup n=_);revert hg;cases hl:s'.names.lookup n with
  |none=>intro h;exact nb h
  |some k=>
   induction k using NameKind.casesOn<;>intro h<;>try (first|exact no h|(exact nb h;done))
   .exact .inr (dh (scope:=s') hl (by decide))
   .exact .inl (dh (scope:=s') hl (by decide))
 .by_cases ME:n=x
  .clear KY k2 k1 f2 hv;subst ME;rw[show(db (n::K8::sc.slots) n)=B' 0 from kh] at hi;obtain rfl:=ac hi;simp at LZ;subst LZ;exact⟨y,.inl ⟨ck (lx n (by simp)),m,hn,hm⟩,hy⟩
  .rw[show db (x::K8::sc.slots) n=(db (K8::sc.slots) n).map (· +1) from fR ME] at hi;refine x12 (aK.mp hi) λi' Ph KC=>?_;subst KC;by_cases abi:n=K8
   .clear KY k2 k1 f2 hv hi;subst abi;rw[show(db (n::sc.slots) n)=B' 0 from kh] at Ph;obtain rfl:=ac Ph;simp at LZ;subst LZ;exact⟨Nr,.inl ⟨ck (lx n (by simp)),m,hn,Tk⟩,S3⟩
   rw[show db (K8::sc.slots) n=(db sc.slots n).map (· +1) from fR abi] at Ph;refine x12 (aK.mp Ph) λj hj KC=>?_;subst KC;have Ra:Γ[j]? =B' (.pl v):=by simpa using LZ
   unfold cZ at hv;revert hv;clear Ph hi LZ;cases hl:s'.names.lookup n with
   |none=>intro h;exact nb h
   |some k=>
    induction k using NameKind.casesOn<;>intro h<;>try (first|exact no h|(exact nb h;done))
    .have h1:=k1 _ (dm hl);simp only[Bool.or_eq_true,List.contains_iff_mem,aD,List.mem_nil_iff,or_false,aT] at h1;rcases h1 with(h1|h1)|rfl
     .exact absurd h1 ME
     .exact absurd h1 abi
     .have:db ([x,K8]++sc.slots) (Str.ofString ".0")=B' (j+1+1):=by
       show db (x::K8::sc.slots) _=_;(refine sb (fR ME) ?_;refine sb (fR abi) ?_;refine sb hj ?_);rfl
      rw[this] at f2;exact nb f2
    .have h1:=k1 _ (dm hl);exact nb h1
    .have h1:=k1 _ (dm hl);simp only[aq] at h1;refine x02 h1 λh1 h2=>?_;have hc:sc.names.lookup n=B' .cell:=by
      revert h2;cases sc.names.lookup n with
      |none=>intro h;exact nb h
      |some k=>induction k using NameKind.casesOn<;>intro h<;>first|rfl|exact nb h
     refine x12 (er.var n j v hd h1 hj Ra) λz p q=>?_;have hk:=er.fnk n hc;refine⟨z,.inr ⟨.inl (d4 er.kind hl hk),?_⟩,q⟩;rcases p with⟨a,_⟩|⟨_,c,b,d⟩
     .replace a:=hk▸a;cases a
     .exact⟨c,by show cl.lookup n=B' c;rw[Vm n (dm hl)];exact b,d⟩
 .refine x32 hn λo es ep ho O=>?_;exact⟨o,ho⟩
 .have h1:=k1 _ (dm hc);exact nb h1
end
variable {tk₀:Nat}
section
variable {W:Wd}{B:Bs}{base:P'}{R:Rc}
theorem pq:∀(l:List V)(k i:Nat),(fF k l)[i]? =(l[i]?).map λx=>.tup [.int ((k+i:Nat):Int),x]
 |[],k,i=>by simp [mn,mo]
 |x::l,k,0=>by simp [mn,mo]
 |x::l,k,i+1=>by
  have:=pq l (k+1) i;simp only[mn,mo,List.getElem?_cons_succ,this];have e:k+1+i=k+(i+1):=Er;exact sb e rfl
theorem pz:∀(l:List V)(k:Nat),(fF k l).length=l.length
 |[],k=>rfl
 |x::l,k=>by simp [mn,mo,pz l (k+1)]
theorem mU{f:TS->Expr->cK}{it:Expr}{l:List V}{P:Prop}(h:uX B sc f T it=B' (l,T₁))(k:∀nm np a p l0,it=.Call (.Name nm np) [a] [] p->gq B sc nm=B' (.ty BE)->kS a=true->f T a=B' (.lst l0,T₁)->l=fF 0 l0->P):P:=by
 refine aac h λa ha h=>aac h λq hq h=>aac h λz hz h=>sq ha λn np p he hg hn=>?_
 obtain⟨v,T₁⟩:=q
 revert hz;induction v using V.casesOn<;>first|exact no|intro hz
 obtain rfl:=ac hz
 cases h
 exact k _ _ _ _ _ he hg hn hq rfl
set_option tactic.hygienic true in
theorem x6{v a b:V}(h:CF v=B' (a,b)):v=.tup [a,b]:=by
 revert h;induction v using V.casesOn<;>first|exact no|intro h
 rename_i l
 obtain _|⟨x,_|⟨y,_|⟨z,l⟩⟩⟩:=l<;>try (exact no h)
 cases h;rfl
set_option tactic.hygienic true in
theorem x7{x:O'}{px₂:Pos}{s':adt}(hA:A.handled=F')(ok:f5 sc s' [x,K8]=true)(Uw:K8≠x)(fo:eM sc Γ s' [x,K8]=true):sw W A base sc env Γ (.Tuple [.Name x px,.Name K8 px₂] tk₀ tp) s' [x,K8] CF λab=>[.pl ab.1,.pl ab.2]:=by
 intro cl C Y' Ti s u b y m Q E hu cs fc yc st hn r k
 obtain⟨a,b⟩:=b
 replace r:=(x6 hu)▸r
 cases r with|tup z ny g q=>?_
 cases q with|cons Ox q=>?_
 cases q with|cons Mo q=>?_
 cases q
 rename_i RA Nr
 refine wpAny_assign_Tuple (items:=#[RA,Nr]) hA ⟨_,g,rfl,_,rfl⟩ rfl rfl λh₇ SU=>?_
 have k7:∀b o,s.heap.get? b=B' o->h₇.get? b=B' o:=λb o z=>SU b o (bD (aY z)) z
 refine adS (ado (bW (env:=adj s' cl C env) (ck (cs.loc x (.head _))) (va hn (k7 C)) (λacW Sq S9=>?_) (by simp [adj,aer,cs.kind])))
 refine adS (ado (bW (env:=adj s' cl C env) (ck (cs.loc K8 (.tail _ (.head _)))) Sq (λQb Pq Su=>?_) (by simp [adj,aer,cs.kind])))
 refine assignInOrder_nil ?_
 have k9:∀b o,b≠C->s.heap.get? b=B' o->Qb.get? b=B' o:=λb o hb z=>(Su.2 b hb).trans ((S9.2 b hb).trans (k7 b o z))
 have NZ:=st.chg (X:=C) (h':=Qb) (tk:=s.toks+1+1) fc (.inl yc) (pj hn) k9 (λO=>pj Pq)
 have kd:kN Y' s.heap Qb:=λb o hb O e=>k9 b o (λq=>hb (q▸yc)) e
 exact k Qb _ _ k9 Pq NZ ⟨NZ.inv,NZ.y,NZ.er.acp ok fo cs.free cs.only fc.nm Pq (by simp [bq Uw]) (Ox.keep kd) (by simp) (Mo.keep kd) Uw⟩
structure Go (W:Wd) (Y:M'->Prop) (e I ax:M') (ys:List G') (l:List V) (i:Nat) (h:P'):Prop where
 en:∃old,IsEnum h e I i old
 it:h.IsListIter I ax i
 ls:h.IsList ax ys.toArray
 vs:cM W h Y ys l
theorem Go.keep{e I ax:M'}{ys:List G'}{l:List V}{i:Nat}{h h':P'}(x:Go W Y e I ax ys l i h)(k:∀b o,b=e\/b=I\/b=ax->h.get? b=B' o->h'.get? b=B' o)(kd:kN Y h h'):Go W Y e I ax ys l i h':=⟨x.en.imp λold z=>k _ _ (.inl rfl) z,x.it.at λo z=>k _ o (.inr (.inl rfl)) z,x.ls.at λo z=>k _ o (.inr (.inr rfl)) z,x.vs.keep kd⟩
theorem CZ{ax:M'}{ys:List G'}{l:List V}{h₂:P'}{te:List Expr}(hA:A.handled=F')(ym:∀b,W.mut b->Y b)(s0:∀X,KA.heap.get? X=F'->s.heap.get? X=F')(nmE:¬W.mut (KA.heap.objs.size+1))(QM:¬W.mut KA.heap.objs.size)(gL:KA.heap.get? ax=B' (eB ys nn))(VC:¬Y ax)(yt:∀b,Y b->b<KA.heap.objs.size)(rl:cM W KA.heap Y ys l)(hE:IsEnum h₂ (KA.heap.objs.size+1) KA.heap.objs.size 0 .none)(hI:h₂.IsListIter KA.heap.objs.size ax 0)(hk:∀b o,KA.heap.get? b=B' o->h₂.get? b=B' o):IW W A Y (.Tuple te tk₀ tp) (fF 0 l) (KA.heap.objs.size+1) (λX=>X=KA.heap.objs.size+1\/X=KA.heap.objs.size) (Go W (λb=>Y b\/KA.heap.get? b=F') (KA.heap.objs.size+1) KA.heap.objs.size ax ys l) s {KA with heap:=h₂} where
 next:=λi u s' Qn Q E E' hu hs hQ=>by
  have Ly:ax<KA.heap.objs.size:=aY gL;rw[pq,aK] at hu;obtain⟨v,hv,rfl⟩:=hu;rw[ci] at*;refine x12 (hs.vs.get hv) λx hx rx=>?_;refine x11 hs.en λold en=>?_;refine wpAny_pyNext_enum_item en hs.it hs.ls (by simpa using hx) (Nat.succ_ne_self _) λh' eo ZA gT O kk=>wpAny_letOwnedTupleGo_enum eo λQj en' sb=>?_;have k₁:∀b o,¬(b=KA.heap.objs.size+1\/b=KA.heap.objs.size)->s'.heap.get? b=B' o->Qj.get? b=B' o:=λb o nb z=>(sb.2 b λq=>nb (.inl q)).trans (kk b o (λq=>nb (.inl q)) (λq=>nb (.inr q)) z);have nE:∀b o,s'.heap.get? b=B' o->b≠s'.heap.objs.size:=λb o z=>bD (aY z);have kd:kN (λb=>Y b\/KA.heap.get? b=F') s'.heap Qj:=λb o nb O z=>k₁ b o (λq=>nb (.inr (q.elim (λq=>q▸dg (bm _)) λq=>q▸dg (br _)))) z;refine hQ _ Qj _ (.tup (xs:=[.int i s'.toks,x]) (show 2<=sizeLine by decide) ?_ ((sb.2 _ (bq (nE _ _ en))).trans gT) (.cons (.int _ _) (.cons ((rx.keep kd).weaken λb y=>y.imp id λz=>?_) .nil))) ⟨⟨_,en'⟩,ZA.at λo z=>(sb.2 _ (bD (Nat.lt_succ_self _))).trans z,hs.ls.at λo z=>k₁ _ o (λq=>q.elim (λq=>bD (Nat.lt_succ_of_lt Ly) q) λq=>bD Ly q) z,hs.vs.keep kd⟩ k₁
  .exact λy=>y.elim (λy=>Nat.lt_irrefl _ (Nat.lt_trans (yt _ y) (Nat.lt_of_succ_lt (aY en)))) λy=>y.2.elim λo z=>nE _ o z rfl
  .exact cc.mpr λo q=>cS (hk _ o q) z.1 rfl
 done:=λs' Qn Q E E' hs hQ=>by
  refine x11 hs.en λold en=>?_;rw[pz,<- hs.vs.length] at*;exact wpAny_pyNext_enum_end hA en hs.it hs.ls (by simp) λh' hx=>hQ h' s'.toks λb o hb y=>hx b o (λe'=>hb (.inr e')) y
 self:=λs' Q E hs hQ=>hs.en.elim λold en=>wpAny_pyIter_enum en hQ
 nd:=λi h hs X e=>e.elim (λq=>q▸hs.en.elim λo z=>⟨_,z,aaq rfl (by decide)⟩) λq=>q▸hs.it.imp λo z=>⟨z.1,aaq z.2.1 (by decide)⟩
 frame:=λi h h' hs k=>hs.keep (λb o hb z=>k b o (hb.elim (λq=>q▸nmE) λhb=>hb.elim (λq=>q▸QM) λq=>q▸λm=>VC (ym _ m)) (hb.elim (λq=>q▸⟨_,hE⟩) λhb=>hb.elim (λq=>q▸hI.imp λo z=>z.1) λq=>q▸⟨_,hk _ _ gL⟩) z) λb o nb O z=>k b o (λm=>nb (.inl (ym b m))) ((Option.ne_none_iff_exists'.mp λz=>nb (.inr z)).imp λo z=>hk b o z) z
 st:=⟨⟨_,hE⟩,hI,⟨_,hk _ _ gL,rfl,_,rfl⟩,rl.change λb o nb O z=>⟨λy=>y.elim nb λq=>cS z q rfl,hk b o z⟩⟩
 fresh:=λX e=>s0 X (e.elim (λq=>q▸dg (bm _)) λq=>q▸dg (br _))
theorem x8(Z:fK W B base)(S:dX W base n R.ev)(hA:Rm n A){it:Expr}{l:List V}{te:List Expr}(hi:uX B sc (R.ev sc Γ) T it=B' (l,T₁))(st:St W base sc env Y Γ T s)(k:∀I wr Sx KB,IW W A Y (.Tuple te tk₀ tp) l I wr Sx s KB->St W base sc env Y Γ T₁ KB->Ev W s KB->Q (.ref I) KB):qaa W A (Z' it env) (λx KA=>qaa W A (aeD x) Q E KA) E s:=by
 refine mU hi λnm np a ap l0 he hg Qd YR hl=>?_
 subst he hl
 have QE:=qF Qd YR
 refine bE (f9 Z st hg λy r=>?_)
 cases r
 refine PyProof.Rows.callWith_type (gH (ik QE)) (fQ S hA QE st λacK KA Us KD KF=>?_)
 refine hide λQz qz=>?_
 refine x12 Us.one λacX KC ry=>?_;subst KC
 refine x35 ry.abF λax ys nn KC gL rl zl VC=>?_;subst KC
 refine qz ?_
 refine call_enumerate_list (items:=ys.toArray) ⟨_,gL,rfl,_,rfl⟩ λh₂ hE hI acC MM=>wpAny_pyIter_enum hE ?_
 have al:Al KA {KA with heap:=h₂}:=(m22 h₂ KA.toks rfl MM)
 exact k _ (λX=>X=KA.heap.objs.size+1\/X=KA.heap.objs.size) _ _ (CZ hA.handled KD.y.ym (λX q=>cc.mpr λo z=>(st.stays KD.inv KF X o z).elim λo' z'=>cS z' q rfl) (KD.fra (dg (bm _))).nm (KD.fra (dg (br _))).nm gL VC (λb y=>(KD.y.there b y).elim λo z=>aY z.1) rl hE hI MM) (KD.al al) (KF.trans al.ev)
theorem qH(Z:fK W B base)(S:dX W base n R.ev)(S':gv W base n R.tst)(hA:Rm n A){Lc it:Expr}{ifs:List Expr}{x K8:O'}{px px₂ tp:Pos}{tk₀:Nat}{s':adt}{pos:Pos}{l KN:List V}{T₁:TS}(ok:f5 sc s' [x,K8]=true)(Uw:K8≠x)(fo:eM sc Γ s' [x,K8]=true)(hi:uX B sc (R.ev sc Γ) T it=B' (l,T₁))(hz:l.length<=sizeLine)(hc:cC (ki R sc Γ s' [x,K8] CF (λab=>[.pl ab.1,.pl ab.2]) ifs Lc) l T₁=B' (KN,T'))(st:St W base sc env Y Γ T s):qaa W A (Z' (.ListComp Lc [⟨.Tuple [.Name x px,.Name K8 px₂] tk₀ tp,it,ifs,0⟩] s' pos) env) (f6 W base Y T' (.lst KN) s) E s:=by
 rw[eval_ListComp]
 exact sA S S' hA ok fo (λy=>mU hi λnm np a ap l0 he O O O O=>he▸rfl) (x7 hA.handled ok Uw fo) (λk=>x8 Z S hA hi st k) hz hc st λD C sf m r hn hC fc PS e=>vb r hn hC fc PS e
end
noncomputable def mV(W:Wd)(base:P')(n:Nat)(Lq:M'->V->TS->cK):Prop:=∀{A:ada}{s:H'}{Y:M'->Prop}{a c:M'}{v v':V}{T T':TS},Rm n A->Lq a v T=B' (v',T')->dl W base T s.heap->fm W base Y s.heap->cU W s.heap (λb=>Y b\/b=c) c v->¬Y c->¬W.mut c->base.get? c=F'->aes (ade W.prog W.w) A (.call (.ref a) ⟨[.ref c],[]⟩) (λr s'=>r=.ok (.ret .none)/\dl W base T' s'.heap/\cU W s'.heap (λb=>Y b\/b=c) c v'/\(∃h tk,s'={s with heap:=h,toks:=tk})/\∀b o,¬W.mut b->b≠c->s.heap.get? b=B' o->s'.heap.get? b=B' o) s
section
variable {W:Wd}{B:Bs}{base:P'}{R:Rc}{Lq:M'->V->TS->cK}{KE:H'}{k:List Sl->TS->cK}{r:V×TS}{h₀:P'}{v v':V}
set_option tactic.hygienic true in
theorem Ar(Z:fK W B base)(S:dX W base n R.ev)(S':gv W base n R.tst):BK W base B n R:=by
 intro A E s sc env Y Γ T Lc tg it ifs s' pos v T' hA h st
 revert h;induction tg using Expr.casesOn<;>first|exact no|intro h
 case Name x px=>exact abb h λl T₁ KN ok OS fo hi hz hv hc=>hv▸qC Z S S' hA ok OS fo hi hz hc st
 case Tuple es tk tp=>
  obtain _|⟨KF,_|⟨KL,es⟩⟩:=es<;>try (exact no h)
  .revert h;induction KF using Expr.casesOn<;>first|exact no|(intro h;exact no h)
  revert h;induction KF using Expr.casesOn<;>first|exact no|intro h
  rename_i x px;revert h;induction KL using Expr.casesOn<;>first|exact no|intro h
  rename_i K8 px₂;revert h;induction es using List.casesOn<;>first|exact no|intro h
  refine aaU (c:=f5 sc s' [x,K8]&&!(x==cV)&&!(K8==cV)&&!(x==K8)&&(ifs.length==1)&&eM sc Γ s' [x,K8]) h λhc h=>aac h λp hp h=>aac h λu hu h=>aac h λq hq h=>?_;have hc:=bK.mp hc;have h2:=bK.mp (bK.mp hc.1).1;have h3:=bK.mp (bK.mp h2.1).1;have:=qH (E:=E) (px:=px) (px₂:=px₂) (tp:=tp) (tk₀:=tk) (pos:=pos) Z S S' hA h3.1 (λq=>by have:=h2.2;rw[q,bF] at this;exact nb this) hc.2 hp (dB hu).1 hq st;cases h;exact this
theorem As(Z:fK W B base)(FM:mV W base n Lq)(hM:∀a v T r,Lq a v T=B' r->∃f,B.fn a=B' f)(hA:Rm n A){f x:O'}{fp p:Pos}{o:Nat×V}{c:V}(hg:gq B sc f=B' (.fn a))(ho:mH sc Γ x=B' o)(hc:Lq a o.2 T=B' (c,T₁))(hk:(C' (du sc Γ x (.ow c)) λΓ=>k Γ T₁)=B' r)(fs:FS W base sc env Y Γ oa T KE s):qaa W A (adR (.Expr (.Call (.Name f fp) [.Name x px] [] p) pos) env) (cT W base sc env Y KE (Yf env Y Γ oa) s k r) E s:=by
 refine hide λQz qz=>?_
 refine x12 (tW hk) λKX K6 hk=>?_
 obtain⟨i,w⟩:=o
 refine Ek (jc ho) λO O hv Nn hi=>?_
 obtain⟨_,j,hj,Ly,rfl⟩:=gI K6
 refine qz ?_
 rw[Nn] at hj;clear Ly K6;obtain rfl:=ac hj
 refine hide λQz qz=>?_
 refine d6 fs.fr λm cm fr=>?_
 have st:=fr.st (kO.refl Γ) fs.inv fs.y
 refine x11 (hM _ _ _ _ hc) λfn hf=>?_
 refine qz ?_
 refine ady (bE (f9 Z st hg λy r'=>?_)) (by unfold adL;refine sb fr.kind ?_;rfl)
 cases r'
 refine hide λQz qz=>?_
 refine d6 ((Z.fn a fn hf).2.2) λob fd F=>?_
 have hn:∀e∈[Expr.Name x px],kS e=true:=by intro e he;simp at he;subst he;rfl
 refine qz ?_
 refine adW (o:=ob) (fd:=fd) (f8 (aaJ hn) (bQ (fs.abv ho ?_) rfl))
 refine adl ⟨⟨(F _ fs.inv.good).at_,(F _ fs.inv.good).data⟩,?_⟩
 refine hide λQz qz=>?_
 refine EK (fr.own i w hi) λq0 q1 q2 q3 q4 q5 q6=>?_
 have Te:∀b,((Yf env Y Γ oa b/\b≠oa i)\/b=oa i)↔Yf env Y Γ oa b:=λb=>⟨λq=>q.elim And.left λz=>.inr (.inr (.inr (m22 i w hi z))),λq=>by
  by_cases z:b=oa i
  .exact .inr z
  .exact .inl ⟨q,z⟩⟩
 refine qz ?_
 refine aec (codeAny_mono (FM hA (Y:=λb=>Yf env Y Γ oa b/\b≠oa i) (c:=oa i) hc fs.inv ⟨λb mb=>⟨kZ fs.y.ym mb,λq=>q4 (q▸mb)⟩,λb yb=>st.y.there b yb.1,λb yb=>st.y.new b yb.1⟩ (cW (λb=>(Te b).mp) q0) (λq=>q.2 rfl) q4 q5) λZt s' hr=>?_)
 obtain⟨rfl,iv,ow,⟨h',tk,rfl⟩,kp⟩:=hr
 exact(tL _ T₁ oa hk (fs.acm hi kp (cW (λb=>(Te b).mpr) ow) iv) (λb hb=>.inl ((ub hi b).mp hb)) (λb ob nm nh e=>kp b ob nm (λq=>nh (.inr (.inr (.inr ⟨i,w,hi,q⟩)))) e))
end
section
variable {W:Wd}{B:Bs}{base:P'}{R:Rc}{Lq:M'->V->TS->cK}{KE:H'}{k:List Sl->TS->cK}{r:V×TS}{h₀:P'}{v v':V}
theorem mW{c:Bool}{a:Option α}{b:α}(e:(bif c then F' else a)=B' b):c=false/\a=B' b:=by
 induction c using Bool.casesOn
 .exact⟨rfl,e⟩
 .exact no e
theorem km{c:Bool}{a:Option α}{b:α}(e:(bif c then a else F')=B' b):c=true/\a=B' b:=by
 induction c using Bool.casesOn
 .exact no e
 .exact⟨rfl,e⟩
theorem ve{c:Bool}{a:Option α}{b:α}(e:(bif !c then F' else a)=B' b):c=true/\a=B' b:=by
 induction c using Bool.casesOn
 .exact no e
 .exact⟨rfl,e⟩
theorem abX{c:Bool}{a:Option α}{b:α}{P:Prop}(e:(bif !c then F' else a)=B' b)(k:c=true->a=B' b->P):P:=k (ve e).1 (ve e).2
theorem Fb(h:(!b)=false):b=true:=by cases b;exact nb h.symm;rfl
theorem BN{m:O'}{x y:Bool}(h:(m==fG&&x&&y)=true):m=fG/\x=true/\y=true:=⟨ba (aag (aag h).1).1,(aag (aag h).1).2,(aag h).2⟩
set_option tactic.hygienic true in
theorem x9(Z:fK W B base)(S:dX W base n R.ev)(hA:Rm n A){o:Expr}{m:O'}{p:Pos}(h:u0 B Lq R sc Γ T (.Expr (.Call (.Attribute o m ap) [e] [] p) pos) (.Attribute o m ap) [e] p k=B' r)(fs:FS W base sc env Y Γ oa T KE s):qaa W A (adR (.Expr (.Call (.Attribute o m ap) [e] [] p) pos) env) (cT W base sc env Y KE (Yf env Y Γ oa) s k r) E s:=by
 revert h;induction o using Expr.casesOn<;>first|exact no|intro h
 case Name x px=>
  refine xt (c:=m==fG&&(ap.endLine==p.line)&&kS e) h (λhb h1=>?_) λO h=>aac h λq hq h=>x0 S hA hq h fs;clear h;refine tJ (BN hb) λKC hl hn=>?_;subst KC;exact aac h1 λo ho h=>aac h λq hq h=>aac h λc hc h=>uc S hA hn hl ho hq hc h fs
 case Attribute o a mp=>
  refine aaU (c:=m==fG&&(ap.endLine==p.line)&&kS e) h λhb h1=>?_;clear h;refine tJ (BN hb) λKC hl hn=>?_;subst KC;exact aac h1 λhv hh h=>aac h λq hq h=>aac h λLm hc h=>oF Z.wd S hA hn hl hh hq hc h fs
set_option tactic.hygienic true in
theorem C0(Z:fK W B base)(FM:mV W base n Lq)(hM:∀a v T r,Lq a v T=B' r->∃f,B.fn a=B' f)(hA:Rm n A){f:O'}{fp p:Pos}(h:u0 B Lq R sc Γ T (.Expr (.Call (.Name f fp) [e] [] p) pos) (.Name f fp) [e] p k=B' r)(fs:FS W base sc env Y Γ oa T KE s):qaa W A (adR (.Expr (.Call (.Name f fp) [e] [] p) pos) env) (cT W base sc env Y KE (Yf env Y Γ oa) s k r) E s:=by
 revert h;induction e using Expr.casesOn<;>first|exact no|intro h
 case Name x px=>
  change (match gq B sc f with|some (.fn a)=>C' (mH sc Γ x) λo=>C' (Lq a o.2 T) λp=>C' (du sc Γ x (.ow p.1)) λΓ=>k Γ p.2|_=>F')=B' r at h;refine abj (o:=gq B sc f) (λhg=>?_) λg hg=>?_
  .rw[hg] at h;exact no h
  .
   rw[hg] at h;induction g using G.casesOn<;>try exact no h
   exact aac h λo ho h=>aac h λq hq h=>As Z FM hM hA hg ho hq h fs
set_option tactic.hygienic true in
theorem ya(Z:fK W B base)(S:dX W base n R.ev)(FM:mV W base n Lq)(hM:∀a v T r,Lq a v T=B' r->∃f,B.fn a=B' f)(hA:Rm n A){f:Expr}{p:Pos}(h:u0 B Lq R sc Γ T (.Expr (.Call f es [] p) pos) f es p k=B' r)(fs:FS W base sc env Y Γ oa T KE s):qaa W A (adR (.Expr (.Call f es [] p) pos) env) (cT W base sc env Y KE (Yf env Y Γ oa) s k r) E s:=by
 revert h;induction f using Expr.casesOn<;>first|exact no|intro h
 case Attribute o m ap=>
  rcases es with _|⟨e,_|⟨e',es⟩⟩<;>try exact no h
  exact x9 Z S hA h fs
 case Name f fp=>
  rcases es with _|⟨e,_|⟨e',es⟩⟩<;>try exact no h
  exact C0 Z FM hM hA h fs
theorem Au{x:O'}{px:Pos}(e:Expr):(iW e=true/\wg R sc Γ T (.Name x px) e k=C' (R.ev sc (eJ sc e Γ) T e) λp=>C' (du sc (eJ sc e Γ) x (.ow p.1)) λΓ=>k Γ p.2)\/wg R sc Γ T (.Name x px) e k=bif !fO e then F' else C' (R.ev sc (eJ sc e Γ) T e) λp=>C' (du sc (BF sc e Γ p.1) x (.pl p.1)) λΓ=>k Γ p.2:=by
 induction e using Expr.casesOn<;>first|exact .inr rfl|exact .inl ⟨rfl,rfl⟩
theorem Av(S:dX W base n R.ev)(D:lP W base n R.ev)(U:ug W base n R.ev)(hA:Rm n A){x:O'}(h:wg R sc Γ T (.Name x px) e k=B' r)(fs:FS W base sc env Y Γ oa T KE s):qaa W A (adR (.Assign [.Name x px] e pos) env) (cT W base sc env Y KE (Yf env Y Γ oa) s k r) E s:=(Au (R:=R) (sc:=sc) (Γ:=Γ) (T:=T) (k:=k) e).elim (λq=>xZ D hA q.1 (q.2.symm.trans h) fs) λq=>abX (q.symm.trans h) λhb h=>oI S U hA hb h fs
set_option tactic.hygienic true in
theorem C1(Z:fK W B base)(S:dX W base n R.ev)(hA:Rm n A){b i:Expr}(h:wg R sc Γ T (.Subscript b i tp) e k=B' r)(fs:FS W base sc env Y Γ oa T KE s):qaa W A (adR (.Assign [.Subscript b i tp] e pos) env) (cT W base sc env Y KE (Yf env Y Γ oa) s k r) E s:=by
 revert h;induction b using Expr.casesOn<;>first|exact no|intro h
 case Name x px=>
  refine zH (c:=!fO e||lK (dZ 40 i) sc.slots (eJ sc e Γ)) h λhb h=>?_;have hb:=Fb (Bool.or_eq_false_iff.mp hb).1;exact aac h λo ho h=>aac h λq hq h=>aac h λq' TL h=>aac h λc hc h=>Aq S hA hb ho hq TL hc h fs
 case Attribute o a ap=>exact abX h λhb h=>aac h λq hq h=>aac h λhv hh h=>aac h λq' TL h=>aac h λPQ hc h=>ue Z.wd S hA hb hq hh TL hc h fs
theorem Aw(Z:fK W B base)(S:dX W base n R.ev)(D:lP W base n R.ev)(U:ug W base n R.ev)(hA:Rm n A){t:Expr}(h:wg R sc Γ T t e k=B' r)(fs:FS W base sc env Y Γ oa T KE s):qaa W A (adR (.Assign [t] e pos) env) (cT W base sc env Y KE (Yf env Y Γ oa) s k r) E s:=by
 revert h;induction t using Expr.casesOn<;>first|exact no|intro h
 case Name=>exact Av S D U hA h fs
 case Tuple=>exact abX h λhb h=>aac h λns Sh h=>aac h λq hq h=>aac h λvs YX h=>oG S hA hb Sh hq YX h fs
 case Subscript=>exact C1 Z S hA h fs
set_option tactic.hygienic true in
theorem ye(Z:fK W B base)(S:dX W base n R.ev)(S':gv W base n R.tst)(X:An W base n R.xs)(D:lP W base n R.ev)(U:ug W base n R.ev)(FM:mV W base n Lq)(hM:∀a v T r,Lq a v T=B' r->∃f,B.fn a=B' f):Iz W base n (xF B Φ Lq R):=by
 intro A E KE s sc env Y Γ oa T st k r hA h fs
 revert h;induction st using Stmt.casesOn<;>first|exact no|intro h
 case Expr e pos=>
  revert h;induction e using Expr.casesOn<;>first|exact no|intro h
  case Call f es kw p=>
   rcases kw with _|⟨c,kw⟩
   .exact ya Z S FM hM hA h fs
   .exact no h
 case Assign ts e pos=>
  rcases ts with _|⟨t,_|⟨t',ts⟩⟩<;>try exact no h
  exact Aw Z S D U hA h fs
 case If=>exact CX S' X hA h fs
 case For t it body Nz pos=>
  revert h;induction t using Expr.casesOn<;>first|exact no|intro h
  rcases Nz with _|⟨o,os⟩
  .exact abX h λhb h=>aac h λq hq h=>aac h λu hu h=>Ao Z S X hA hb hq h fs
  .exact no h
 case Return e pos=>
  rcases e with _|e
  .exact no h
  .exact tZ S hA h fs
structure C3 (W:Wd) (B:Bs) (base:P') (n:Nat) (R:Rc):Prop where
 ev:dX W base n R.ev
 tst:gv W base n R.tst
 xs:An W base n R.xs
 acg:lP W base n R.ev
 use:ug W base n R.ev
theorem pA(Z:fK W B base)(P:jB W base n Φ)(N3:∀a vs T r,Φ a vs T=B' r->∃f,B.fn a=B' f)(FM:mV W base n Lq)(hM:∀a v T r,Lq a v T=B' r->∃f,B.fn a=B' f):∀m,C3 W B base n (rc B Φ Lq m)
 |0=>⟨(λO h O=>by exact no h),(λO h O=>by exact no h),(λO h O=>by exact no h),(λO O h O=>by exact no h),(λO h O O=>by exact no h)⟩
 |m+1=>by
  have ih:=pA Z P N3 FM hM m;exact⟨wD Z ih.ev ih.tst (Ar Z ih.ev ih.tst) P N3,tX (Φ:=Φ) Z ih.ev ih.tst,wG (ye Z ih.ev ih.tst ih.xs ih.acg ih.use FM hM),wH (Φ:=Φ) Z ih.ev,x5 (Φ:=Φ) Z ih.ev ih.tst⟩
end
set_option backward.match.sparseCases true
variable {fd:adK}{KU:List G'}
section
variable {W:Wd}{B:Bs}{base:P'}{R:Rc}{Lq:M'->V->TS->cK}{KE:H'}{k:List Sl->TS->cK}{r:V×TS}{h₀:P'}{v v':V}
theorem mX(env:Env):∀(names:List O')(xs:List G')(m cm:O'->Option G')(n:O'),n∉names->vv env (aeh env.kindOf (names.zip xs) m) (aef env.kindOf (names.zip xs) cm) n=vv env m cm n
 |[],xs,m,cm,n,_=>by simp [aeh,aef]
 |a::names,[],m,cm,n,_=>by simp [aeh,aef]
 |a::names,x::xs,m,cm,n,h=>by
  simp only[aD,not_or] at h;simp only[List.zip_cons_cons,aeh,aef];rw[mX env names xs _ _ n h.2];unfold vv;split<;>split<;>simp_all
theorem qI(env:Env):∀(names:List O')(xs:List G')(m cm:O'->Option G'),names.Nodup->∀(i:Nat)(n:O')(y:G'),names[i]? =B' n->xs[i]? =B' y->vv env (aeh env.kindOf (names.zip xs) m) (aef env.kindOf (names.zip xs) cm) n=B' y
 |[],xs,m,cm,_,i,n,y,h,_=>by simp at h
 |a::names,[],m,cm,_,i,n,y,_,h=>by simp at h
 |a::names,x::xs,m,cm,hd,i,n,y,hn,hx=>by
  simp only[bj] at hd;simp only[List.zip_cons_cons,aeh,aef];induction i using Nat.casesOn with
  |zero=>
   simp at hn hx;subst hn hx;rw[mX env names xs _ _ a hd.1];unfold vv;split<;>simp_all
  |succ i=>exact qI env names xs _ _ hd.2 i n y (by simpa using hn) (by simpa using hx)
theorem aaH:∀(names:List (O'×adT))(k:Nat)(Lx:List (O'×M'))(n:O'),((∃c,Lx.lookup n=B' c)\/(n,NameKind.cell)∈names)->∃c,(cellsFrom k names Lx).lookup n=B' c
 |[],k,Lx,n,h=>by
  rcases h with h|h
  .exact h
  .cases h
 |(a,kd)::names,k,Lx,n,h=>by
  unfold cellsFrom;split
  .rename_i hk;refine aaH names _ _ n ?_;by_cases e:n=a
   .left;clear h;subst e;exact⟨k,by simp⟩
   .rcases h with⟨c,h⟩|h
    .left;exact⟨c,by(refine sb List.lookup_cons ?_;refine sb (aR.mpr e) ?_);exact h⟩
    .rcases aD.mp h with q|q
     .exact absurd (be q).1 e
     .exact .inr q
  .rename_i hk;refine aaH names _ _ n ?_;rcases h with h|h
   .exact .inl h
   .rcases aD.mp h with q|q
    .rw[<- (be q).2] at hk;exact absurd rfl hk
    .exact .inr q
noncomputable def Yo(Y:M'->Prop)(Γ:List Sl)(oa:Nat->M')(b:M'):Prop:=Y b\/∃i v,Γ[i]? =B' (.ow v)/\b=oa i
theorem gJ{f:Fn}{fd:adK}{a:M'}{o:Obj}{KU:List G'}{KA:H'}(MH:f.slots.Nodup/\f.np<=f.slots.length/\∀n∈f.slots,(n==cV)=false/\(f.scope.names.lookup n=B' .local\/f.scope.names.lookup n=B' .cell))(Ln:∀p∈f.scope.names,p.2≠ .free)(F:tV W base s.heap a f o fd)(inv:dl W base T s.heap)(yk:fm W base Y s.heap)(KO:KU.length=f.np)(h0:∀b o,h₀.get? b=B' o->s.heap.get? b=B' o)(x:InCallC s (R' fd s.heap.objs.size a).locals (aeh (R' fd s.heap.objs.size a).kindOf ((f.slots.take f.np).zip KU) λO=>F') (R' fd s.heap.objs.size a).cells (aef (R' fd s.heap.objs.size a).kindOf ((f.slots.take f.np).zip KU) λO=>F') KA)(hP:∀(i:Nat)(v:V),Γ[i]? =B' (.pl v)->∃y,KU[i]? =B' y/\VR W s.heap (Yo Y Γ oa) y v)(hO:∀(i:Nat)(v:V),Γ[i]? =B' (.ow v)->KU[i]? =B' (.ref (oa i))/\cU W s.heap (Yo Y Γ oa) (oa i) v/\¬Y (oa i)/\¬W.mut (oa i)/\base.get? (oa i)=F'/\h₀.get? (oa i)=F')(hI:∀(i j:Nat)(v u:V),Γ[i]? =B' (.ow v)->Γ[j]? =B' (.ow u)->oa i=oa j->i=j):FR W base h₀ (aal f) (R' fd s.heap.objs.size a) Y Γ oa (aeh (R' fd s.heap.objs.size a).kindOf ((f.slots.take f.np).zip KU) λO=>F') (aef (R' fd s.heap.objs.size a).kindOf ((f.slots.take f.np).zip KU) λO=>F') KA.heap:=by
 generalize hL:s.heap.objs.size=L at x
 have PZ:∀b,L<=b->s.heap.get? b=F':=λb hb=>dg (by rw[hL];exact hb)
 have XM:(R' fd L a).locals=L:=rfl
 have Rt:(R' fd L a).scope=f.scope:=F.scope
 have LN:∀b,s.heap.get? b=F'->¬W.mut b:=λb q m=>inv.aaz m q
 have Tf:∀b,s.heap.get? b=F'->base.get? b=F':=λb q=>by
  cases z:base.get? b with
  |none=>rfl
  |some o=>have:=inv.good _ _ (LN b q) z;rw[q] at this;exact no this
 have W6:∀b,s.heap.get? b=F'->¬Y b:=λb q z=>by refine x12 (yk.there b z) λo e O=>?_;rw[q] at e;exact no e
 have TR:∀b,s.heap.get? b=F'->h₀.get? b=F':=λb q=>by
  cases z:h₀.get? b with
  |none=>rfl
  |some o=>have:=h0 _ _ z;rw[q] at this;exact no this
 have cge:∀n c,(R' fd L a).cells.lookup n=B' c->L<c:=λn c hc=>x.above n c (mem_of_lookup hc)
 have ch:∀b o,¬Yo Y Γ oa b->dG o->s.heap.get? b=B' o->¬Yf (R' fd L a) Y Γ oa b/\KA.heap.get? b=B' o:=λb o nb O z=>⟨(by
   rintro (q|q|⟨n,q⟩|q)
   .exact nb (.inl q)
   .rw[q,XM,PZ _ (br _)] at z;exact no z
   .rw[PZ _ (Nat.le_of_lt (cge n b q))] at z;exact no z
   .exact nb (.inr q)),x.toInCall.keep b o z⟩
 have P0:∀(i:Nat)(n:O')(y:G'),db f.slots n=B' i->KU[i]? =B' y->vv (R' fd L a) (aeh (R' fd L a).kindOf ((f.slots.take f.np).zip KU) λO=>F') (aef (R' fd L a).kindOf ((f.slots.take f.np).zip KU) λO=>F') n=B' y:=λi n y hp hy=>by
  have hi:i<f.np:=by rw[<- KO];exact(aV.mp hy).1
  refine qI _ _ _ _ _ (MH.1.sublist (List.take_sublist _ _)) i n y ?_ hy;(refine sb (List.getElem?_take) ?_;refine sb (aZ hi) ?_);exact mw hp
 exact
 {kind:=by(refine sb Rt ?_;refine sb (Eq.symm (F.scope)) ?_);exact F.kind
  globals:=F.globals
  builtins:=F.builtins
  nm:=by rw[Rt];rfl
  ns:=x.toInCall.ns
  cell:=x.cell
  has:=λn hn=>aaH _ _ _ n (.inr (by rw[F.scope];exact mem_of_lookup hn))
  apart:=λn n' c h1 h2=>name_of_addr x.apart (mem_of_lookup h1) (mem_of_lookup h2)
  ne:=λn c hc q=>by have:=cge n c hc;rw[q] at this;exact Nat.lt_irrefl _ this
  aai:=(ml (LN _ (PZ _ (br _))) (Tf _ (PZ _ (br _))) (W6 _ (PZ _ (br _))) (TR _ (PZ _ (br _))))
  aam:=λn c hc=>let q:=PZ c (Nat.le_of_lt (cge n c hc));(ml (LN _ q) (Tf _ q) (W6 _ q) (TR _ q))
  aaj:=λn q=>Ln _ (mem_of_lookup q) rfl
  pl:=λn i v O hp hi=>by
   refine x12 (hP i v hi) λy hy r=>?_
   exact⟨y,P0 i n y hp hy,r.change ch⟩
  ow:=λn i v O hp hi=>P0 i n _ hp (hO i v hi).1
  own:=λi v hi=>by
   refine hide λQz qz=>?_
   refine GQ (hO i v hi) λO q1 q2 q3 q4 q5=>?_
   have W2:=q1.nt
   refine qz ?_
   clear Qz qz
   refine(EL (q1.change ch λob z=>x.toInCall.keep _ _ z) q2 (λq=>?_) (λn c hc q=>?_) q3 q4 q5)
   .refine x12 W2 λob z O=>?_;rw[q,XM,PZ _ (br _)] at z;exact no z
   .refine x12 W2 λob z O=>?_;rw[<- q,PZ _ (Nat.le_of_lt (cge n c hc))] at z;exact no z
  inj:=hI
  old:=λb o O z=>x.toInCall.keep b o (h0 b o z)}
theorem em{f:Fn}{fd:adK}{a:M'}{o:Obj}{KU:List G'}{RR:Result->H'->Prop}(MH:f.slots.Nodup/\f.np<=f.slots.length/\∀n∈f.slots,(n==cV)=false/\(f.scope.names.lookup n=B' .local\/f.scope.names.lookup n=B' .cell))(F:tV W base s.heap a f o fd)(RF:s.heap.NoLimit)(OW:A.depth<adQ)(xs ds:List G')(hv:KU=xs++ds)(hb:BindsTo s fd ⟨xs,[]⟩ ((f.slots.take f.np).zip KU))(h:∀KA,InCallC s (R' fd s.heap.objs.size a).locals (aeh (R' fd s.heap.objs.size a).kindOf ((f.slots.take f.np).zip KU) λO=>F') (R' fd s.heap.objs.size a).cells (aef (R' fd s.heap.objs.size a).kindOf ((f.slots.take f.np).zip KU) λO=>F') KA->∀E,V' (ade W.prog W.w) (A.deeper (R' fd s.heap.objs.size a)) (adJ f.body (R' fd s.heap.objs.size a)) (λfl s'=>RR (.ok (.ret (match fl with|.ret v=>v|_=>.none))) s') E KA):aes (ade W.prog W.w) A (.call (.ref a) ⟨xs,[]⟩) RR s:=by
 refine codeAny_call_function OW F.at_ F.data F.co F.gen F.body F.code (hb _ _ _ _ ?_)
 refine sb F.closure ?_
 refine wpAny_newFunctionEnv_cells F.kind (λx hx=>?_) λenv he s' x=>?_
 case refine_2=>
  subst he;exact⟨RF.keeps x.toInCall.keep,codeAny_func (h s' x _)⟩
 have hm:x.1∈f.slots:=List.mem_of_mem_take (List.of_mem_zip (show(x.1,x.2)∈_ from hx)).1
 rcases(MH.2.2 _ hm).2 with q|q
 .exact .inl (by rw[F.scope];exact q)
 .refine .inr ⟨by rw[F.scope];exact q,?_⟩;obtain⟨c,hc⟩:=aaH fd.scope.names (s.heap.objs.size+1) [] x.1 (.inr (by rw[F.scope];exact mem_of_lookup q));refine sb hc ?_;rfl
theorem iX{f:Fn}{o:Obj}{RR:Result->H'->Prop}(Z:fK W B base)(hf:B.fn a=B' f)(F:tV W base s.heap a f o fd)(inv:dl W base T s.heap)(OW:A.depth<adQ)(xs ds:List G')(hv:KU=xs++ds)(hb:BindsTo s fd ⟨xs,[]⟩ ((f.slots.take f.np).zip KU))(h:∀KA,InCallC s (R' fd s.heap.objs.size a).locals (aeh (R' fd s.heap.objs.size a).kindOf ((f.slots.take f.np).zip KU) λO=>F') (R' fd s.heap.objs.size a).cells (aef (R' fd s.heap.objs.size a).kindOf ((f.slots.take f.np).zip KU) λO=>F') KA->∀E,V' (ade W.prog W.w) (A.deeper (R' fd s.heap.objs.size a)) (adJ f.body (R' fd s.heap.objs.size a)) (λfl s'=>RR (.ok (.ret (match fl with|.ret v=>v|_=>.none))) s') E KA):aes (ade W.prog W.w) A (.call (.ref a) ⟨xs,[]⟩) RR s:=em (Z.fn a f hf).1 F (Z.aa9 _ inv.good) OW xs ds hv hb h
theorem Rm.deeper{n:Nat}{A:ada}{env:Env}(h:Rm (n+1) A):Rm n (A.deeper env):=⟨h.handled,by have:=h.depth;show A.depth+1+n<_;exact Cp this,by have:=h.units;show A.units+3+4*n+50<_;exact HU this⟩
theorem Rm.room(h:Rm n A):A.depth<adQ:=by have:=h.depth;exact IR this
theorem sC{r:V×TS}(h:Em B n a vs T=B' r):∃f,B.fn a=B' f:=by
 induction n using Nat.casesOn with
 |zero=>exact no h
 |succ n=>refine x12 (tW (show(C' (B.fn a) λf=>_)=B' r from h)) λf hf O=>?_;exact⟨f,hf⟩
theorem pB{v:V}{r:V×TS}(h:lW B n a v T=B' r):∃f,B.fn a=B' f:=by
 induction n using Nat.casesOn with
 |zero=>exact no h
 |succ n=>refine x12 (tW (show(C' (B.fn a) λf=>_)=B' r from h)) λf hf O=>?_;exact⟨f,hf⟩
noncomputable def BO(W:Wd)(base:P')(sc:Sc)(env:Env)(Y:M'->Prop)(oa:Nat->M')(KE:H')(k:List Sl->TS->cK)(r:V×TS)(fl:Flow)(s':H'):Prop:=fl=.next/\∃KX T',k KX T'=B' r/\FS W base sc env Y KX oa T' KE s'
theorem wJ{st:adb}{P:Prop}(h:xE (n+1) st=true)(k1:∀t a b pos,st=.If t a b pos->gu n a=true->gu n b=true->P)(k2:∀x px i tp e pos,st=.Assign [.Subscript (.Name x px) i tp] e pos->P):P:=by
 change (match zP st with|some q=>gu n q.2.1&&gu n q.2.2.1|none=>(rR st).isSome)=true at h
 refine abj (o:=zP st) (λhi=>?_) λq hi=>?_;rotate_left
 .rw[hi] at h;exact k1 _ _ _ _ (we hi) (aag h).1 (aag h).2
 .
  rw[hi] at h;obtain⟨x,hx⟩:=cj.mp h;refine aac hx λq hq h=>aac h λt ht h=>aac h λr hr h=>k2 x.1 x.2 r.2.1 r.2.2 q.2.1 q.2.2 ?_;rw[mI hq,mJ ht,tR hr,lL h]
theorem vf{i:Nat}{x:Sl}(e:(List.replicate n Sl.un)[i]? =B' x):x=.un:=List.eq_of_mem_replicate (bV e)
theorem C4{v:V}{p:Prop}(e:Sl.ow v=.un):p:=nomatch e
theorem C5{v:V}{p:Prop}(e:Sl.pl v=.un):p:=nomatch e
theorem C6{u v:V}{p:Prop}(e:Sl.ow u=.pl v):p:=nomatch e
theorem C7{v u:V}{i:Nat}{p:Prop}(e:(Sl.ow v::List.replicate n Sl.un)[i]? =B' (.pl u)):p:=by
 induction i using Nat.casesOn with
 |zero=>exact C6 (ac e)
 |succ i=>exact C5 (vf e)
theorem uh{v u:V}{i:Nat}(e:(Sl.ow v::List.replicate n Sl.un)[i]? =B' (.ow u)):i=0/\u=v:=by
 induction i using Nat.casesOn with
 |zero=>exact⟨rfl,(Sl.ow.inj (ac e)).symm⟩
 |succ i=>exact C4 (vf e)
theorem Ax(hR:∀m,C3 W B base n (rc B Φ Lq m))(Mv:Nat):∀(m:Nat){ss:List adb}{A:ada}{E:qab}{KE s:H'}{sc:Sc}{env:Env}{Y:M'->Prop}{Γ:List Sl}{oa:Nat->M'}{T:TS}{k:List Sl->TS->cK}{r:V×TS},Rm n A->gu Mv ss=true->(rc B Φ Lq m).xs sc Γ T ss k=B' r->FS W base sc env Y Γ oa T KE s->qaa W A (adJ ss env) (BO W base sc env Y oa KE k r) E s:=by
 induction Mv using Nat.strongRecOn with
 |_ ab5 ih=>
 intro m ss A E KE s sc env Y Γ oa T k r hA hn h fs
 induction m using Nat.casesOn with
 |zero=>exact no h
 |succ m=>
 induction ss using List.casesOn with
 |nil=>clear ih;induction ab5 using Nat.casesOn with
  |zero=>exact nb hn
  |succ Mv=>exact adM ⟨rfl,Γ,T,h,fs⟩
 |cons st ss=>
 induction ab5 using Nat.casesOn with
 |zero=>exact nb hn
 |succ Mv=>
  have PI:(xE Mv st&&gu Mv ss)=true:=hn;simp only[aq] at PI;obtain⟨n1,n2⟩:=PI;change xF B Φ Lq (rc B Φ Lq m) sc Γ T st (λΓ T=>(rc B Φ Lq (m+1)).xs sc Γ T ss k)=B' r at h;refine bR (bb (Q:=BO W base sc env Y oa KE (λΓ T=>(rc B Φ Lq (m+1)).xs sc Γ T ss k) r) ?_ (λfl s' p=>?_) λO O e=>e)
  .induction Mv using Nat.casesOn with
   |zero=>exact nb n1
   |succ Mv=>
    refine wJ n1 (λt a b pos es n4 n3=>?_) λx px i tp e pos es=>?_
    .subst es;change (C' ((rc B Φ Lq m).tst sc (eJ sc t Γ) T t) λp=>bif p.1 then(rc B Φ Lq m).xs sc Γ p.2 a _ else(rc B Φ Lq m).xs sc Γ p.2 b _)=B' r at h;refine aac h λp hp h=>?_;obtain⟨m',cm,fr⟩:=fs.fr;refine wpAny_If (gv.aah (hR m).tst hA (b:=p.1) (T₁:=p.2) hp (fr.st (eP sc t Γ) fs.inv fs.y) λKA KD KF=>?_);have KV:=fs.ev' KF KD.inv;cases hb:p.1 with
     |true=>rw[hb] at h;exact ih Mv (Nat.lt_succ_of_lt (Nat.lt_succ_self _)) m hA n4 h KV
     |false=>rw[hb] at h;exact ih Mv (Nat.lt_succ_of_lt (Nat.lt_succ_self _)) m hA n3 h KV
    .subst es;obtain⟨hb,h⟩:=mW (show(bif !fO e||lK (dZ 40 i) sc.slots (eJ sc e Γ) then F' else _)=B' r from h);simp only[Bool.or_eq_false_iff,Bool.not_eq_false'] at hb;refine aac h λo ho h=>?_;refine aac h λq hq h=>?_;refine aac h λq' TL h=>?_;refine aac h λc hc h=>?_;exact vd (k:=λΓ T=>(rc B Φ Lq (m+1)).xs sc Γ T ss k) (r:=r) (hR m).ev hA hb.1 ho (u:=q.1) (T₁:=q.2) hq (w:=q'.1) (T₂:=q'.2) TL hc h fs λs' LO hk O=>⟨rfl,_,_,hk,LO⟩
  .refine hide λQz qz=>?_;obtain⟨rfl,KX,T',hk,LO⟩:=p;refine qz ?_;clear Qz qz;exact ih Mv (Nat.lt_succ_self _) (m+1) hA n2 hk LO
noncomputable def jp(h:P')(c:M'):P':=h.update c λO=>{cls:=.none,data:=.freed}
theorem jd(h:P')(c:M'):(jp h c).get? c=F':=by
 unfold jp Heap.update Heap.get?
 simp only[Array.getElem?_modify]
 cases h.objs[c]?<;>simp
theorem fS{c b:M'}(e:b≠c):(jp h c).get? b=h.get? b:=by
 unfold jp Heap.update Heap.get?
 simp only[Array.getElem?_modify,aL (bq e)]
theorem mY{c b:M'}{o:Obj}(e:(jp h c).get? b=B' o):h.get? b=B' o:=by
 by_cases q:b=c
 .rw[q,jd] at e;exact no e
 .rwa [fS q] at e
theorem jU:jB W base n (λO O O=>F'):=λO h O O O=>by exact no h
theorem jV:mV W base n (λO O O=>F'):=λO h O O O O O O=>by exact no h
theorem vg(Z:fK W B base):mV W base n (lW B n):=by
 induction n using Nat.casesOn with
 |zero=>intro A s Y a c v v' T T' hA h;exact no h
 |succ n=>
  intro A s Y a c v v' T T' hA h inv yk own nY nm nb;refine hide λQz qz=>?_;refine x12 (tW (show(C' (B.fn a) λf=>_)=B' (v',T') from h)) λf hf h=>?_;refine x02 (km h) λhb h=>?_;refine qz ?_;clear Qz qz;simp only[aq,aT,Bool.not_eq_true'] at hb;refine hide λQz qz=>?_;obtain⟨⟨NX,ZJ⟩,KY⟩:=hb;obtain⟨MH,Ln,o,fd,F⟩:=Z.fn a f hf;have LR:=F _ inv.good;have hR:∀m,C3 W B base n (rc B (λO O O=>F') (λO O O=>F') m):=pA Z jU (λO O O O h=>by cases h) jV (λO O O O h=>by cases h);refine x12 (LR.bind [.ref c] (by refine sb NX ?_;exact br _) (by refine sb NX ?_;exact Nat.zero_le _)) λds Mm LL=>?_;have NC:ds=[]:=by
   have:f.dflt.drop (f.dflt.length - (f.np - ([Value.ref c]).length))=[]:=by refine sb NX ?_;exact List.drop_length
   rw[this] at Mm;clear LL;obtain rfl:=cM.aaV Mm;rfl
  refine qz ?_;clear Qz qz;clear Mm;subst NC;refine iX Z hf LR inv hA.room [.ref c] [] rfl (LL s rfl) λKA x E=>?_;have fr:FR W base (jp s.heap c) (aal f) (R' fd s.heap.objs.size a) Y (.ow v::List.replicate (f.slots.length - 1) .un) (λO=>c) _ _ KA.heap:=gJ MH Ln LR inv yk (by rw[NX];rfl) (λb o e=>mY e) x (λi u hi=>C7 hi) (λi u hi=>by
    clear h;obtain⟨rfl,rfl⟩:=uh hi
    exact(JU rfl (cW (λb hb=>hb.elim .inl λ⟨j,u,_,q⟩=>.inr q) own) nY nm nb (jd _ _))) (λi j u w hi hj O=>(uh hi).1.trans (uh hj).1.symm)
  refine d6 x.toInCall.same λhx Yr Pj=>?_;have fs:FS W base (aal f) (R' fd s.heap.objs.size a) Y (.ow v::List.replicate (f.slots.length - 1) .un) (λO=>c) T {s with heap:=jp s.heap c} KA:=⟨⟨_,_,fr⟩,inv.keeps x.toInCall.keep,yk.keeps x.toInCall.keep,⟨hx,Yr,by exact sb Pj rfl⟩⟩;refine bb (Ax hR 30 30 hA.deeper ZJ h fs) (λfl s' p=>?_) λO O e=>e;obtain⟨rfl,KX,T₂,hk,LO⟩:=p;refine aac hk λu hu hk=>?_;cases hk;refine aac hu λsl SO hu=>?_;induction sl using Sl.casesOn<;>try (first|exact no hu|(cases hu;done))
  clear h hk;obtain rfl:=ac hu;refine d6 LO.fr λm' LD Mk=>?_;have o':=(Mk.own 0 _ SO).1;refine(Gd rfl LO.inv (cW (λb hb=>?_) o') ?_ (λb ob Pg nc e=>?_))
  .rcases hb with q|q
   .exact .inl q
   .exact .inr (.inr (.inr (m22 0 _ SO q)))
  .refine d6 LO.same λh2 t2 e=>?_;exact⟨h2,t2,by rw[e]⟩
  .exact Mk.old b ob Pg (by rw[fS nc];exact e)
theorem C8(Z:fK W B base)(n:Nat):jB W base n (Em B n):=by
 induction n with
 |zero=>intro A s Y a vs xs T T' v hA h;exact no h
 |succ n ih=>
  intro A s Y a vs xs T T' v hA h inv yk rs;refine hide λQz qz=>?_;refine x12 (tW (show(C' (B.fn a) λf=>_)=B' (v,T') from h)) λf hf h=>?_;refine x12 (tW h) λΓ LZ h=>?_;refine qz ?_;clear Qz qz;unfold BI at LZ;refine x02 (aaf LZ) λhb LZ=>?_;simp only[aq,bl] at hb;refine hide λQz qz=>?_;obtain⟨⟨b1,b2⟩,b3⟩:=hb;obtain⟨MH,Ln,o,fd,F⟩:=Z.fn a f hf;have LR:=F _ inv.good;have hR:C3 W B base n (rc B (Em B n) (lW B n) 30):=pA Z ih (λO O O O=>sC) (vg Z) (λO O O O=>pB) 30;have WI:=rs.length;refine x12 (LR.bind xs (by rw[WI];exact b1) (by rw[WI];exact b2)) λds Mm LL=>?_;refine qz ?_;clear Qz qz;rw[WI] at Mm;have Yw:cM W s.heap Y ds _:=Mm.abt inv.good yk;have Ta:=rs.append Yw;refine iX Z hf LR inv hA.room xs ds rfl (LL s rfl) λKA x E=>?_;have KO:(xs++ds).length=f.np:=by
   (refine sb Ta.length ?_;refine sb bc ?_;refine sb List.length_drop ?_);exact Jt b1 b2
  have Nx:∀(i:Nat)(u:V),Γ[i]? ≠B' (.ow u):=λi u hi=>by
   rw[<- LZ,List.getElem?_append] at hi;split at hi
   .rw[bZ] at hi;refine hide λQz qz=>?_;refine x12 (aK.mp hi) λz O hz=>?_;refine qz ?_;clear Qz qz;cases hz
   .replace hi:=(List.getElem?_replicate)▸hi;split at hi<;>cases hi
  have fr:FR W base s.heap (aal f) (R' fd s.heap.objs.size a) Y Γ (λO=>0) _ _ KA.heap:=gJ MH Ln LR inv yk KO (λb o e=>e) x (λi u hi=>by
    rw[<- LZ,List.getElem?_append] at hi
    split at hi
    .rw[bZ] at hi
     refine hide λQz qz=>?_
     refine x12 (aK.mp hi) λz hz hu=>?_
     refine qz ?_
     clear Qz qz
     cases hu
     refine x12 (Ta.get hz) λy hy r=>?_
     exact⟨y,hy,r.weaken λb hb=>hb.elim id λ⟨j,w,hj,_⟩=>absurd hj (Nx j w)⟩
    .replace hi:=(List.getElem?_replicate)▸hi;split at hi<;>cases hi) (λi u hi=>absurd hi (Nx i u)) (λi j u w hi O O=>absurd hi (Nx i u))
  have fs:FS W base (aal f) (R' fd s.heap.objs.size a) Y Γ (λO=>0) T s KA:=⟨⟨_,_,fr⟩,inv.keeps x.toInCall.keep,yk.keeps x.toInCall.keep,x.toInCall.same⟩;refine bb (hR.xs hA.deeper h fs) (λfl s' p=>?_) λO O e=>e;clear h;clear h;induction fl using Flow.casesOn with
  |next=>
   refine x33 p λKX T₂ NE hk LO O=>?_;clear h;cases hk;refine d6 LO.fr λm' LD Mk=>?_;exact(xv _ rfl (.none) LO.inv (Mk.acb LO.same))
  |ret x=>exact⟨x,rfl,p⟩
  |_=>exact p.elim
end
set_option backward.match.sparseCases false
theorem iI:∀(ns:List O')(xs:List G')(n:O'),n∉ns.take xs.length->(ns.zip xs).lookup n=F'
 |[],_,n,_=>by simp
 |_::_,[],n,_=>by simp
 |a::ns,x::xs,n,h=>by
  simp only[List.length_cons,List.take_succ_cons,aD,not_or] at h;(refine sb List.zip_cons_cons ?_;refine sb List.lookup_cons ?_;refine sb (aR.mpr h.1) ?_);exact iI ns xs n h.2
theorem aaD:∀(ns:List O')(xs:List G')(i:Nat)(n:O')(x:G'),ns.Nodup->ns[i]? =B' n->xs[i]? =B' x->(ns.zip xs).lookup n=B' x
 |[],_,i,n,x,_,h,_=>by simp at h
 |_::_,[],i,n,x,_,_,h=>by simp at h
 |a::ns,y::xs,0,n,x,_,h,h'=>by simp at h h';subst h h';simp
 |a::ns,y::xs,i+1,n,x,hd,h,h'=>by
  simp only[bj] at hd;have hn:ns[i]? =B' n:=by simpa using h
  have ne:n≠a:=λq=>hd.1 (q▸bV hn);(refine sb List.zip_cons_cons ?_;refine sb List.lookup_cons ?_;refine sb (aR.mpr ne) ?_);exact aaD ns xs i n x hd.2 hn (by simpa using h')
theorem oJ(ns:List O')(vs:List G')(hd:ns.Nodup)(hl:ns.length=vs.length):(ns.filterMap λn=>((ns.zip vs).lookup n).map (n,·))=ns.zip vs:=by
 have key:∀(as:List O')(us:List G'),as.length=us.length->(∀(i:Nat) a,as[i]? =B' a->(ns.zip vs).lookup a=us[i]?)->(as.filterMap λn=>((ns.zip vs).lookup n).map (n,·))=as.zip us:=by
  intro as;induction as with
  |nil=>intro us h _;simp
  |cons a as ih=>
   intro us h hk;induction us using List.casesOn with
   |nil=>simp at h
   |cons u us=>
    have h0:=hk 0 a (by simp);simp only[List.getElem?_cons_zero] at h0;(refine sb List.filterMap_cons ?_;refine sb h0 ?_);simp only[Option.map_some,List.zip_cons_cons];exact sb (ih us (by simpa using h) λi b hb=>by have:=hk (i+1) b (by simpa using hb);simpa using this) rfl
 refine key ns vs hl λi a ha=>?_
 have hi:i<vs.length:=by rw[<- hl];exact(aV.mp ha).1
 refine sb (bC hi) ?_
 exact aaD ns vs i a _ hd ha (bC hi)
section
theorem mZ(f:O'×G'->List (O'×G')->Sem (ForInStep (List (O'×G'))))(hf:∀n d sl,f (n,d) sl=pure (.yield (if(sl.lookup n).isNone then sl++[(n,d)] else sl))):∀(l:List (O'×G'))(sl:List (O'×G'))(Q:List (O'×G')->H'->Prop),Q (l.foldl (λsl p=>if(sl.lookup p.1).isNone then sl++[p] else sl) sl) s->V' M A (forIn l sl f) Q E s
 |[],sl,Q,h=>by refine sb List.forIn_nil ?_;exact av h
 |(n,d)::l,sl,Q,h=>by
  rw[List.forIn_cons,hf];exact ah (av (mZ f hf l _ Q h))
end
theorem sD:∀(ns:List O')(zs:List G')(n:O')(d:G'),ns[zs.length]? =B' n->ns.zip (zs++[d])=ns.zip zs++[(n,d)]
 |[],_,n,d,h=>by simp at h
 |a::ns,[],n,d,h=>by simp at h;subst h;simp
 |a::ns,z::zs,n,d,h=>by simp only[List.cons_append,List.zip_cons_cons];rw[sD ns zs n d (by simpa using h)]
theorem m8:∀{ns:List O'}{k:Nat}{n:O'},ns.Nodup->ns[k]? =B' n->n∉ns.take k
 |[],k,n,_,h=>by simp at h
 |a::ns,0,n,_,h=>by simp
 |a::ns,k+1,n,hd,h=>by
  simp only[bj] at hd;have hn:ns[k]? =B' n:=by simpa using h
  rw[List.take_succ_cons,aD,not_or];exact⟨λq=>hd.1 (q▸bV hn),m8 hd.2 hn⟩
theorem abP{a b:Nat}(hn:a - c<=b):a - b<=c:=Nat.sub_le_iff_le_add.mpr (Nat.add_comm b c▸Nat.sub_le_iff_le_add.mp hn)
theorem C9{a b:Nat}(hx:c<=a)(hi:b<=a)(hn:a - c<=b):c - (a - b)=b - (a - c):=by rw[Nat.sub_sub_right _ hi,Nat.sub_sub_right _ hx,Nat.add_comm]
theorem Da{a b:Nat}(hx:c<=a)(hn:a - c<=b):a=c+(b - (b - (a - c))):=by rw[Nat.sub_sub_self hn,Nat.add_sub_cancel' hx]
theorem lg(ns:List O')(hd:ns.Nodup):∀(items:List G')(k:Nat)(zs:List G'),k<=zs.length->k+items.length=ns.length->zs.length<=ns.length->((ns.drop k).zip items).foldl (λ(sl:List (O'×G')) p=>if(sl.lookup p.1).isNone then sl++[p] else sl) (ns.zip zs)=ns.zip (zs++items.drop (zs.length - k))
 |[],k,zs,h1,h2,h3=>by simp
 |d::items,k,zs,h1,h2,h3=>by
  simp only[List.length_cons] at h2;have hk:k<ns.length:=HS h2;have hg:ns[k]? =B' ns[k]:=bC hk;rw[List.drop_eq_getElem_cons hk];generalize ns[k]=n at hg;simp only[List.zip_cons_cons,List.foldl_cons];by_cases Ly:k<zs.length
  .rw[aaD ns zs k n _ hd hg (bC Ly)];simp only[Option.isNone_some,bY,bg];rw[lg ns hd items (k+1) zs Ly (HP h2) h3];have:zs.length - k=zs.length - (k+1)+1:=Ju Ly;rw[this,List.drop_succ_cons]
  .have e:k=zs.length:=H2 h1 Ly;clear h1 hk Ly;subst e;rw[iI ns zs n (m8 hd hg)];simp only[Option.isNone_none,bJ];rw[<- sD ns zs n d hg,lg ns hd items (zs.length+1) (zs++[d]) (by simp) (HP h2) (by simp;exact Jv h2)];simp
variable {items:List G'}
section
theorem sE(l:List α)(p:α->Bool)(h:∀a∈l,p a=false):l.filter p=[]:=by
 rw[bP];intro a ha;rw[h a ha];decide
theorem ui{p:Arguments}(h1:p.posonlyargs=[])(h3:p.kwonlyargs=[])(h4:p.vararg=F')(h5:p.kwarg=F'):p=⟨[],p.args,F',[],p.kw_defaults,F',p.defaults⟩:=by
 cases p;cases h1;cases h3;cases h4;cases h5;rfl
theorem abQ{c:Prop}[Decidable c]{a b:Sem α}{Q:α->H'->Prop}(h:¬c)(k:V' M A b Q E s):V' M A (if c then a else b) Q E s:=(aL h).symm▸k
theorem bg1(hd:ns.Nodup)(hi:items.length<=ns.length)(hn:ns.length - xs.length<=items.length):¬((!(List.filter (λn=>(List.lookup n (ns.zip xs)).isNone) (List.take (ns.length - (List.drop (items.length - ns.length) items).length) ns)).isEmpty)=true):=by
 have Vu:List.drop (items.length - ns.length) items=items:=by rw[Nat.sub_eq_zero_of_le hi];rfl
 rw[Vu,sE _ _ λa ha=>?_]
 .exact nb
 obtain⟨j,hj⟩:=List.mem_iff_getElem?.mp ha
 rw[List.getElem?_take] at hj
 split at hj
 .rename_i Ly;rw[aaD ns xs j a _ hd hj (bC (bX Ly (abP hn)))];rfl
 .exact no hj
theorem J7(hd:ns.Nodup)(hx:xs.length<=ns.length)(hi:items.length<=ns.length)(hn:ns.length - xs.length<=items.length):List.filterMap (λn=>(List.lookup n (((ns.drop (ns.length - (List.drop (items.length - ns.length) items).length)).zip (List.drop (items.length - ns.length) items)).foldl (λ(sl:List (O'×G')) p=>if(sl.lookup p.1).isNone then sl++[p] else sl) (ns.zip xs))).map (n,·)) (ns++[])=ns.zip (xs++List.drop (items.length - (ns.length - xs.length)) items):=by
 have Vu:List.drop (items.length - ns.length) items=items:=by rw[Nat.sub_eq_zero_of_le hi];rfl
 rw[Vu,a0,lg ns hd items (ns.length - items.length) xs (abP hn) (Nat.sub_add_cancel hi) hx,C9 hx hi hn]
 exact oJ ns _ hd (by rw[bc,List.length_drop];exact Da hx hn)
theorem yg{fd:adK}{ns:List O'}{xs items:List G'}(h1:fd.params.posonlyargs=[])(h2:fd.params.args.map (·.arg)=ns)(h3:fd.params.kwonlyargs=[])(h4:fd.params.vararg=F')(h5:fd.params.kwarg=F')(hd:ns.Nodup)(hx:xs.length<=ns.length)(hi:items.length<=ns.length)(hn:ns.length - xs.length<=items.length)(WP:∀(M:Model)(A:ada)(E:qab)(Q:Option (Array G')->H'->Prop),(∀o,(o.getD #[]).toList=items->Q o s)->V' M A (seqItems? fd.defaults) Q E s):BindsTo s fd ⟨xs,[]⟩ (ns.zip (xs++items.drop (items.length - (ns.length - xs.length)))):=by
 intro M A E Q hq
 suffices k:∀p:Arguments,p=⟨[],fd.params.args,F',[],fd.params.kw_defaults,F',fd.params.defaults⟩->V' M A (bindArgs {fd with params:=p} ⟨xs,[]⟩) Q E s from k fd.params (ui h1 h3 h4 h5)
 clear h1 h3 h4 h5
 intro p hp
 subst hp h2
 refine ah (av ?_)
 refine ah (WP _ _ _ _ λo ho=>?_)
 subst ho
 refine abQ (λe=>absurd hx (Nat.not_le.mpr (aS (aag e).1))) ?_
 refine abQ (bg1 hd hi hn) ?_
 refine ah (mZ _ (λn d sl=>by show(if _ then _ else _)=_;split<;>rfl) _ _ _ ?_)
 refine ah (av ?_)
 refine abQ (λe=>nb e) ?_
 exact av ((aM (λz=>Q z s) (J7 hd hx hi hn)).mpr hq)
end
noncomputable def m9{α β:Type}(p:α->β->Bool):List α->List β->Bool
 |[],[]=>true
 |a::x,b::y=>p a b&&m9 p x y
 |_,_=>false
noncomputable def ko:Obj->Option (List G')
 |⟨.type c,F',.seq xs 0,sl⟩=>bif c=="tuple"&&sl.isEmpty then B' xs.toList else F'
 |_=>F'
noncomputable def sF:Obj->Option (List G'×Nat)
 |⟨.type c,F',.seq xs n,sl⟩=>bif c=="list"&&sl.isEmpty then B' (xs.toList,n) else F'
 |_=>F'
noncomputable def vh:Obj->Option (List adv)
 |⟨.type c,F',.dict es n,sl⟩=>bif c=="dict"&&sl.isEmpty then B' es.toList else F'
 |_=>F'
theorem mz{o:Option (Option G')}(h:(match o with|some F'=>true|_=>false)=true):o=B' F':=by
 induction o using Option.casesOn with
 |none=>exact nb h
 |some o=>induction o using Option.casesOn with
  |none=>rfl
  |some=>exact nb h
theorem BQ{o:Option (Option G')}{n:String}(h:(match o with|some (B' (.builtin i))=>i==n|_=>false)=true):o=B' (B' (.builtin n)):=by
 induction o using Option.casesOn with
 |none=>exact nb h
 |some o=>induction o using Option.casesOn with
  |none=>exact nb h
  |some v=>induction v using Value.casesOn with
   |builtin i=>rw[aT.mp h]
   |_=>exact nb h
theorem Db{o:Option (Option G')}{f:M'}(h:(match o with|some (B' (.ref g))=>f==g|_=>false)=true):o=B' (B' (.ref f)):=by
 induction o using Option.casesOn with
 |none=>exact nb h
 |some o=>induction o using Option.casesOn with
  |none=>exact nb h
  |some v=>induction v using Value.casesOn with
   |ref i=>rw[aT.mp h]
   |_=>exact nb h
theorem Fc{o:Option G'}{n:String}(h:(match o with|some (.type t)=>t==n|_=>false)=true):o=B' (.type n):=by
 induction o using Option.casesOn with
 |none=>exact nb h
 |some v=>induction v using Value.casesOn with
  |type i=>rw[aT.mp h]
  |_=>exact nb h
theorem jC{o:Obj}(h:ko o=B' xs):o=fb xs:=by
 induction o using Obj.casesOn with
 |mk c d t sl=>
  induction c using Value.casesOn with
  |type c=>
   induction d using Option.casesOn with
   |none=>
    induction t using Data.casesOn with
    |seq xs n=>
     revert h;refine Nat.casesOn n (λh=>?_) (λn h=>no h);obtain⟨a,rfl⟩:=aaf h;simp only[aq,aT,Array.isEmpty_iff] at a;clear h;obtain⟨rfl,rfl⟩:=a;simp
    |_=>exact no h
   |some=>exact no h
  |_=>exact no h
theorem oK{o:Obj}{xs:List G'}{n:Nat}(h:sF o=B' (xs,n)):o=eB xs n:=by
 induction o using Obj.casesOn with
 |mk c d t sl=>
  induction c using Value.casesOn with
  |type c=>
   induction d using Option.casesOn with
   |none=>
    induction t using Data.casesOn with
    |seq xs n=>
    obtain⟨a,q⟩:=aaf h;clear h;cases q;simp only[aq,aT,Array.isEmpty_iff] at a;obtain⟨rfl,rfl⟩:=a;simp
    |_=>exact no h
   |some=>exact no h
  |_=>exact no h
theorem qJ{o:Obj}{es:List adv}(h:vh o=B' es):o.ExactDict/\∃n,o.data=.dict es.toArray n:=by
 induction o using Obj.casesOn with
 |mk c d t sl=>
  induction c using Value.casesOn with
  |type c=>
   induction d using Option.casesOn with
   |none=>
    induction t using Data.casesOn with
    |dict es n=>
    obtain⟨a,rfl⟩:=aaf h;simp only[aq,aT,Array.isEmpty_iff] at a;clear h;obtain⟨rfl,rfl⟩:=a;exact⟨⟨rfl,rfl,rfl⟩,n,by simp only[Array.toArray_toList]⟩
    |_=>exact no h
   |some=>exact no h
  |_=>exact no h
noncomputable def wK:adv->Option (Int×G')
 |⟨h,.int k t,v⟩=>bif h==hashInt k then B' (k,v) else F'
 |_=>F'
noncomputable def ng:List Int->Bool
 |[]=>true
 |a::l=>!l.contains a&&ng l
theorem yh(a:Int)(l:List Int):ng (a::l)=(!l.contains a&&ng l):=rfl
theorem pC:∀{l:List Int},ng l=true->l.Nodup
 |[],_=>List.nodup_nil
 |a::l,h=>by
  simp only[yh,aq,Bool.not_eq_true'] at h;rw[bj];exact⟨λm=>absurd (List.contains_iff_mem.mpr m) (by rw[h.1];decide),pC h.2⟩
noncomputable def uj:G'->V->Bool
 |.none,.none=>true
 |.bool a,.bool b=>a==b
 |.int a _,.int b=>a==b
 |.str x _,.str y=>x==y&&decide (y.length<=sizeLine)
 |_,_=>false
noncomputable def BR(K:adV):Nat->G'->V->Bool
 |0,x,v=>uj x v
 |n+1,x,v=>match x with
  |.ref a=>(match v with
   |.tup l=>decide (l.length<=sizeLine)&&((K.lookup a).bind ko).elim false λxs=>m9 (BR K n) xs l
   |.lst l=>decide (l.length<=sizeLine)&&((K.lookup a).bind sF).elim false λp=>m9 (BR K n) p.1 l
   |.di l=>!(a==adf)&&(L' (l.length<=sizeLine)&&(ng (l.map (·.1))&&((K.lookup a).bind vh).elim false λes=>m9 (λe p=>(wK e).elim false λq=>q.1==p.1&&BR K n q.2 p.2) es l))
   |_=>false)
  |x=>uj x v
theorem Fe{o:Option α}{f:α->Bool}{P:Prop}(e:o.elim false f=true)(k:∀x,o=B' x->f x=true->P):P:=by
 induction o using Option.casesOn with
 |none=>exact nb e
 |some x=>exact k x rfl e
theorem yi{K:adV}{g:Obj->Option α}{f:α->Bool}{P:Prop}(e:((K.lookup a).bind g).elim false f=true)(k:∀o x,K.lookup a=B' o->g o=B' x->f x=true->P):P:=Fe e λx hb e=>aac hb λo ho hi=>k o x ho hi e
theorem Ff(h:(!b)=true):b=false:=by cases b;rfl;exact nb h
section
variable {W:Wd}{K:adV}
set_option tactic.hygienic true in
theorem pD{v:V}(e:uj x v=true):VR W h Y x v:=by
 revert e;induction x using Value.casesOn<;>first|exact nb|intro e
 case none=>revert e;induction v using V.casesOn<;>first|exact nb|(intro e;first|exact .none|exact nb e)
 case bool a=>revert e;induction v using V.casesOn<;>first|exact nb|(intro e;first|exact nb e|exact ba e▸ .bool _)
 case int a t=>revert e;induction v using V.casesOn<;>first|exact nb|(intro e;first|exact nb e|exact ba e▸ .int ..)
 case str y t=>revert e;induction v using V.casesOn<;>first|exact nb|(intro e;first|exact nb e|exact ba (aag e).1▸ .str _ _ (ba (aag e).1▸aS (aag e).2))
theorem vi{P:G'->V->Bool}(ih:∀x v,P x v=true->VR W h Y x v)(xs:List G'):∀l:List V,m9 P xs l=true->cM W h Y xs l:=by
 induction xs with
 |nil=>intro l e;induction l using List.casesOn with|nil=>exact .nil|cons _ _=>exact nb e
 |cons a xs ih'=>
  intro l e;induction l using List.casesOn with
  |nil=>exact nb e
  |cons b l=>exact .cons (ih _ _ (aag (b:=m9 P xs l) e).1) (ih' l (aag (b:=m9 P xs l) e).2)
noncomputable def Ay(W:Wd)(h:P')(Y:M'->Prop)(es:List adv)(l:List (Int×V)):Prop:=∃kvs,(∀e∈es,∃k,(adA W.prog W.w).is k e.key=true/\e.hash=(adA W.prog W.w).hash k)/\Pairs (adA W.prog W.w) es kvs/\ja W h Y kvs l
set_option tactic.hygienic true in
theorem yj{e:adv}{q:Int×G'}(hk:wK e=B' q):∃t,e=⟨hashInt q.1,.int q.1 t,q.2⟩:=by
 obtain⟨hh,ek,ev⟩:=e
 revert hk;induction ek using Value.casesOn<;>first|exact no|intro hk
 case int k t=>exact aaU hk λb e=>⟨t,by rw[<- ac e,ba b]⟩
theorem Ay.cons{e:adv}{es:List adv}{p:Int×V}{l:List (Int×V)}{q:Int×G'}(d:Ay W h Y es l)(hk:wK e=B' q)(h1:q.1=p.1)(r:VR W h Y q.2 p.2):Ay W h Y (e::es) (p::l):=by
 refine x11 (yj hk) λt KC=>?_;subst KC
 refine kQ d λkvs a1 a2 a3=>?_
 obtain⟨k,v⟩:=p
 obtain⟨k',u⟩:=q
 obtain rfl:k'=k:=h1
 exact(lU ((k',u)::kvs) (λe he=>(aD.mp he).elim (λq=>q▸⟨k',eF,rfl⟩) (a1 e)) (.cons eF rfl a2) (.cons r a3))
theorem Dc{P:G'->V->Bool}(ih:∀x v,P x v=true->VR W h Y x v)(es:List adv):∀l:List (Int×V),m9 (λe p=>(wK e).elim false λq=>q.1==p.1&&P q.2 p.2) es l=true->Ay W h Y es l:=by
 induction es with
 |nil=>intro l q;induction l using List.casesOn with|nil=>exact⟨[],⟨λO m=>(nomatch m),.nil,.nil⟩⟩|cons _ _=>exact nb q
 |cons e es ih'=>
  intro l q;induction l using List.casesOn with
  |nil=>exact nb q
  |cons p l=>
   have q':=aag (a:=(wK e).elim false λq=>q.1==p.1&&P q.2 p.2) (b:=m9 (λ(e:adv)(p:Int×V)=>(wK e).elim false λq=>q.1==p.1&&P q.2 p.2) es l) q;exact Fe q'.1 λkv hk q1=>(ih' l q'.2).cons hk (ba (aag q1).1) (ih _ _ (aag q1).2)
set_option tactic.hygienic true in
theorem yl(X:K.In h)(hY:∀a o,K.lookup a=B' o->¬Y a)(n:Nat):∀{x:G'}{v:V},BR K n x v=true->VR W h Y x v:=by
 induction n with
 |zero=>exact λe=>pD e
 |succ n ih=>
  intro x v e;induction x using Value.casesOn;case ref a=>
   revert e;induction v using V.casesOn<;>first|exact nb|intro e
   case tup l=>exact yi (aag e).2 λo xs ho hi q=>.tup (aS (aag e).1) (hY a o ho) (jC hi▸X a o ho) (vi (λO O=>ih) xs l q)
   case lst l=>exact yi (aag e).2 λo p ho hi q=>.lst (aS (aag e).1) (hY a o ho) (oK (n:=p.2) hi▸X a o ho) (vi (λO O=>ih) p.1 l q)
   case di l=>
    have e1:=aag e;have e2:=aag e1.2;have e3:=aag e2.2;refine yi e3.2 λo es ho hi q=>?_;obtain⟨xd,ep,hd⟩:=qJ hi;refine kQ (Dc (λO O=>ih) es l q) λkvs a1 a2 a3=>?_;exact .di (aS e2.1) (Ff e1.1) (hY a o ho) (zJ o es.toArray ep (X a o ho) xd hd (λe he=>a1 e (by simpa using he)) (by simpa using a2) (by rw[a3.keys];exact pC e3.1)) a3
  all_goals exact pD e
noncomputable def kq(K:adV)(n:O'):Option G':=match nsIn K aed n with
 |some (B' v)=>B' v
 |some F'=>(match nsIn K aeA n with|some (B' v)=>B' v|_=>F')
 |none=>F'
theorem gK{prog:aem}{w:U'}{A:ada}{E:qab}{s:H'}{env:Env}{n:O'}{v:G'}{Q:qab}(X:K.In s.heap)(hk:env.scope.kind=.function)(hg:env.globals=aed)(hb:env.builtins=aeA)(hn:env.kindOf n=B' .globalImplicit\/env.kindOf n=B' .globalExplicit)(e:kq K n=B' v)(q:Q v s):V' (ade prog w) A (loadName env n) Q E s:=by
 have h1:loadName env n=loadGlobal env n:=by
  rcases hn with hn|hn
  .exact loadName_read hk hn
  .exact loadName_declared hk hn
 rw[h1]
 unfold loadGlobal
 (refine sb hg ?_;refine sb hb ?_)
 unfold kq at e
 revert e
 cases hu:nsIn K aed n with
 |none=>exact λe=>no e
 |some u=>
  induction u using Option.casesOn with
  |some u=>
   intro e;obtain rfl:=ac e;exact ah ((looks_nsIn X hu).here (av q))
  |none=>
   dsimp only;cases hu2:nsIn K aeA n with
   |none=>exact λe=>no e
   |some u=>
    induction u using Option.casesOn with
    |none=>exact λe=>no e
    |some u=>
     intro e;obtain rfl:=ac e;exact ah ((looks_nsIn X hu).here (ah ((looks_nsIn X hu2).here (av q))))
noncomputable def G2(K:adV)(x:G'):G->Bool
 |.val v=>BR K 4 x v
 |.fn a=>(match x with|.ref b=>a==b|_=>false)
 |.bi i=>(match x with|.builtin j=>i==j|_=>false)
 |.ty i=>(match x with|.type j=>i==j|_=>false)
theorem Dd{base:P'}(X:K.In base)(hm:∀a o,K.lookup a=B' o->¬W.mut a){g:G}(e:G2 K x g=true):GR W base x g:=by
 induction g using G.casesOn with
 |val v=>exact .val (yl X hm 4 e)
 |fn a=>
  induction x using Value.casesOn<;>try (first|exact no e|(exact nb e;done))
  rw[aT.mp (show(_==_)=true from e)];exact .fn _
 |bi i=>
  induction x using Value.casesOn<;>try (first|exact no e|(exact nb e;done))
  rw[aT.mp (show(_==_)=true from e)];exact .bi _
 |ty i=>
  induction x using Value.casesOn<;>try (first|exact no e|(exact nb e;done))
  rw[aT.mp (show(_==_)=true from e)];exact .ty _
noncomputable def sG(K:adV)(a:M'):Option adK:=match K.lookup a with
 |some ⟨_,_,.func fd,_⟩=>B' fd
 |_=>F'
theorem wL{K:adV}(h:sG K a=B' fd):∃oc od sl,K.lookup a=B' ⟨oc,od,.func fd,sl⟩:=by
 revert h;unfold sG;generalize K.lookup a=x
 induction x using Option.casesOn with
 |none=>exact λh=>no h
 |some o=>
  induction o using Obj.casesOn with
  |mk c d t sl=>
   induction t using Data.casesOn with
   |func f=>intro h;obtain rfl:=ac h;exact⟨_,_,_,rfl⟩
   |_=>exact λh=>no h
noncomputable abbrev BU:=adt×FuncBody×M'×M'×List (O'×M')×List O'×List Arg×List Arg×Option Arg×Option Arg
noncomputable def nk(fd:adK):BU:=(fd.scope,fd.body,fd.globals,fd.builtins,fd.closure,fd.params.args.map (·.arg),fd.params.posonlyargs,fd.params.kwonlyargs,fd.params.vararg,fd.params.kwarg)
noncomputable def nl(f:Fn):BU:=(f.scope,.stmts f.body,aed,aeA,[],f.slots.take f.np,[],[],F',F')
noncomputable def gw:List O'->Bool
 |[]=>true
 |a::l=>!l.contains a&&gw l
theorem yn(a:O')(l:List O'):gw (a::l)=(!l.contains a&&gw l):=rfl
theorem je:∀{l:List O'},gw l=true->l.Nodup
 |[],_=>List.nodup_nil
 |a::l,h=>by
  simp only[yn,aq,Bool.not_eq_true'] at h;rw[bj];exact⟨λm=>absurd (List.contains_iff_mem.mpr m) (by rw[h.1];decide),je h.2⟩
noncomputable def Fg(K:adV)(x:G')(d:List V):Bool:=match x with
 |.ref a=>(match(K.lookup a).bind ko with|some xs=>m9 (BR K 3) xs d|none=>false)
 |.none=>d.isEmpty
 |_=>false
noncomputable def vj(K:adV)(f:Fn)(fd:adK):Bool:=codeIn K fd.code fd.qualname&&!fd.scope.isCoroutine&&!fd.scope.isGenerator&&(fd.scope.kind==.function)&&gw f.slots&&decide (f.np<=f.slots.length)&&decide (f.dflt.length<=f.np)&&f.slots.all (λn=>!(n==cV)&&(match f.scope.names.lookup n with|some .local=>true|some .cell=>true|_=>false))&&f.scope.names.all (λp=>match p.2 with|.free=>false|_=>true)&&Fg K fd.defaults f.dflt
set_option tactic.hygienic true in
theorem vk{base:P'}(X:K.In base)(hm:∀a o,K.lookup a=B' o->¬W.mut a){f:Fn}(UK:sG K a=B' fd)(hc:nk fd=nl f)(hk:vj K f fd=true):(f.slots.Nodup/\f.np<=f.slots.length/\∀n∈f.slots,(n==cV)=false/\(f.scope.names.lookup n=B' .local\/f.scope.names.lookup n=B' .cell))/\(∀p∈f.scope.names,p.2≠ .free)/\∃o fd,∀h,kW W base h->tV W base h a f o fd:=by
 simp only[vj,aq,Bool.not_eq_true',aT,bl,aE] at hk
 refine hide λQz qz=>?_
 obtain⟨⟨⟨⟨⟨⟨⟨⟨⟨k1,k2⟩,k3⟩,k4⟩,k5⟩,k6⟩,k7⟩,k8⟩,k9⟩,Qp⟩:=hk
 refine qz ?_
 simp only[nk,nl,Prod.mk.injEq] at hc
 refine hide λQz qz=>?_
 obtain⟨c1,c2,c3,c4,c5,c6,c7,c8,c9,c10⟩:=hc
 have Qh:=je k5
 refine qz ?_
 refine⟨⟨Qh,k6,λn hn=>⟨(k8 n hn).1,?_⟩⟩,λp hp q=>?_,?_⟩
 .have:=(k8 n hn).2;revert this;cases f.scope.names.lookup n with
  |none=>intro h;exact nb h
  |some k=>induction k using NameKind.casesOn<;>intro h<;>first|exact .inl rfl|exact .inr rfl|exact nb h
 .have:=k9 p hp;rw[q] at this;exact nb this
 .obtain⟨oc,od,sl,ho⟩:=wL UK
  .refine⟨⟨oc,od,.func fd,sl⟩,fd,λh g=>?_⟩;have Xh:K.In h:=λb o e=>g b o (hm b o e) (X b o e);refine⟨Xh a _ ho,rfl,c1,c2,c3,c4,c5,codeRec_of Xh k1,k2,k3,k4,λxs h1 h2=>?_⟩;have KO:(f.slots.take f.np).length=f.np:=by rw[List.length_take];exact Jw k6
   have Ma:∃items:List G',cM W base W.mut items f.dflt/\∀s:H',s.heap=h->∀(M:Model)(A:ada)(E:qab)(Q:Option (Array G')->H'->Prop),(∀o,(o.getD #[]).toList=items->Q o s)->V' M A (seqItems? fd.defaults) Q E s:=by
    unfold Fg at Qp;revert Qp;cases hb:fd.defaults with
    |ref b=>
     dsimp only;cases hx:(K.lookup b).bind ko with
     |none=>exact λk=>nb k
     |some xs=>
      intro Qp;refine aac hx λo Py hi=>?_;have hV:cM W base W.mut xs f.dflt:=by
       clear hx hi;generalize f.dflt=d at Qp;induction xs generalizing d with
       |nil=>induction d using List.casesOn with|nil=>exact .nil|cons _ _=>exact nb Qp
       |cons x xs ih=>
        induction d using List.casesOn with
        |nil=>exact nb Qp
        |cons v d=>
         have e':(BR K 3 x v&&m9 (BR K 3) xs d)=true:=Qp;simp only[aq] at e';exact .cons (yl X hm 3 e'.1) (ih d e'.2)
      refine⟨xs,hV,λs hs M A E Q hq=>?_⟩;exact wpAny_seqItems (hs▸Xh b o Py) (by rw[jC hi]) (hq _ (by simp))
    |none=>
     intro Qp;have:f.dflt=[]:=by simpa using Qp
     rw[this];refine⟨[],.nil,λs hs M A E Q hq=>?_⟩;exact ah (av (av (hq F' rfl)))
    |_=>exact λk=>nb k
   refine x12 Ma λitems hV WP=>?_;have TV:=hV.length;refine⟨items.drop (items.length - (f.np - xs.length)),?_,λs hs=>?_⟩
   .rw[TV];exact hV.drop _
   .have:=yg (s:=s) (fd:=fd) (ns:=f.slots.take f.np) (xs:=xs) (items:=items) c7 c6 c8 c9 c10 (Qh.sublist (List.take_sublist _ _)) (by rw[KO];exact h1) (by rw[KO,TV];exact k7) (by rw[KO,TV];exact h2) (WP s hs);rw[KO] at this;exact this
theorem sH{od:Obj}{v:G'}{cd:ClassData}(hc:clsIn K C=B' cd)(hd:cd.hasDict=true)(hn:adI K (.ref C) name=B' F')(hl:adg name od=B' (B' v)):findObj K C (B' od) name=B' (.value v):=by
 unfold findObj PySem.W.ownOf
 (refine sb hc ?_;refine sb hn ?_)
 simp only[Option.bind_some,hd,bJ,hl]
end
noncomputable def gi(x:String)(k:Int):O'×G:=(S x,.val (.int k))
noncomputable def gf(x:String)(a:Nat):O'×G:=(S x,.fn a)
noncomputable def gT:List (O'×G):=[((S "__name__"),.val (.str (S "law_pc0114_01"))),((S "__doc__"),.val (.none)),((S "__package__"),.val (.none)),((S "__spec__"),.val (.none)),((S "__file__"),.val (.str (S "/claim/cut.py"))),((S "__cached__"),.val (.none)),gf "_wall" 21,gi "Y_KEY" 1,gi "Y_BOOL" 2,gi "Y_STR" 3,gi "Y_NUM" 4,gi "Y_ENUM" 5,gi "Y_UNION" 6,gi "Y_INTER" 7,gi "Y_OBJ" 8,gi "Y_REF" 9,gi "Y_PARAM" 10,gi "Y_ARRAY" 11,gi "Y_TUPLE" 12,gi "Y_SIG" 13,gi "Y_INDEX" 15,gi "Y_COND" 16,gi "Y_TPL" 18,gi "Y_ALIAS" 19,gi "ANY" 0,gi "UNKNOWN" 1,gi "NEVER" 2,gi "VOID" 3,gi "UNDEF" 4,gi "NULLT" 5,gi "STRING" 6,gi "NUMBER" 7,gi "FALSE_T" 8,gi "TRUE_T" 9,gi "OBJECTT" 10,gi "EMPTY" 11,gi "ERR" 13,gi "FRESH_F" 14,gi "FRESH_T" 15,gi "P_OPT" 1,gi "E_OPT" 1,gi "E_REST" 2,gi "E_SPREAD" 3,gi "FAM_OTHER" 0,gi "FAM_STR" 1,gi "FAM_NUM" 2,gi "FAM_BOOL" 3,gi "FAM_NULL" 4,gi "FAM_UNDEF" 5,gi "FAM_VOID" 6,gi "FAM_OBJ" 7,gi "MAX_UNION" 400,((S "FIRST_ROWS"),.val (.tup [.tup [.int 1,.str (S "any")],.tup [.int 1,.str (S "unknown")],.tup [.int 1,.str (S "never")],.tup [.int 1,.str (S "void")],.tup [.int 1,.str (S "undefined")],.tup [.int 1,.str (S "null")],.tup [.int 1,.str (S "string")],.tup [.int 1,.str (S "number")],.tup [.int 2,.int 0,.int 0],.tup [.int 2,.int 1,.int 0],.tup [.int 1,.str (S "object")],.tup [.int 8,.tup [],.tup [],.tup [],.tup [],.tup [],.int 0],.tup [.int 6,.tup [.int 8,.int 9]],.tup [.int 1,.str (S "error")],.tup [.int 2,.int 0,.int 1],.tup [.int 2,.int 1,.int 1]])),((S "LITERAL_ROWS"),.val (.tup [.int 2,.int 3,.int 4,.int 5])),((S "MARKED_ROWS"),.val (.tup [.int 2,.int 3,.int 4,.int 5,.int 8])),((S "OBJECT_ROWS"),.val (.tup [.int 8,.int 9,.int 11,.int 12,.int 13])),((S "KEY_FAMILIES"),.val (.di [(3,.int 6),(4,.int 5),(5,.int 4),(6,.int 1),(7,.int 2),(10,.int 7)])),gf "kind_of" 172,gf "str_type" 180,gf "sorted_props" 185,gf "obj_type" 197,gf "func_type" 204,gf "new_param" 212,gf "new_decl" 219,gf "parts_of" 226,gf "whole_of_row" 233,gf "regular_twin" 240,gf "join_bools" 247,gf "stays_beside" 254,gf "top_of" 261,gf "union" 266,gf "add_undef" 273,gf "is_literal" 280,gf "is_unit" 287,gf "is_fresh" 294,gf "regular_one" 301,gf "regular" 306,gf "common_family" 311,gf "meet_family" 318,gf "family" 325,gf "is_nullish_family" 332,gi "MAX_DRAWN" 200,gi "MEET_NEVER" 0,gi "MEET_LEFT" 1,gi "MEET_RIGHT" 2,gi "MEET_BOTH" 3,((S "PRIMITIVE_NAMES"),.val (.tup [.str (S "charAt"),.str (S "concat"),.str (S "includes"),.str (S "indexOf"),.str (S "length"),.str (S "slice"),.str (S "toLowerCase"),.str (S "toString"),.str (S "toUpperCase")])),gf "all_units" 338,gf "all_values" 343,gf "units_clash" 350,gf "flat_props" 357,gf "shapes_clash" 364,gf "meet_nullish" 371,gf "meet_values" 378,gf "meet_objects" 385,gf "meet_case" 392,gf "lay_on" 399,gf "members_of_meet" 406,gf "meet_parts" 411,gf "meet_two" 418,gf "inter" 425,gf "value_holds" 432,gf "units_fit" 439,gf "may_be_nullish" 447,gf "meet_may_be_nullish" 452,gf "not_nullish" 459,gf "remove_nullish" 464,gf "literal_truth" 471,gf "truthy_of" 478,gf "truthy_part" 483,gf "typeops_all_props" 490,gf "loose_props" 495,gf "lets_primitive" 500,gf "falsy_of" 507,gf "falsy_part" 512,gi "MOST_ROUNDS" 200,gi "MOST_SHAPES" 40,((S "PLAIN_ROWS"),.val (.tup [.int 1,.int 2,.int 3,.int 4,.int 5])),gf "plain_shape" 679,gf "elem_read" 686,gf "told_places" 693,gf "find_prop" 700,gf "is_digits" 705,gf "is_number_name" 712,gf "prop_row" 719,gf "read_type" 726,gf "late_place" 731,gf "index_read" 738,gf "prop_of_parts" 743,gf "prop_type" 750,((S "COERCED"),.val (.tup [.int 1,.int 2,.int 3])),((S "NULLISH"),.val (.tup [.int 4,.int 5,.int 6])),gf "plain_value" 759,gf "plain_meets" 766,gf "is_nullish_kind" 771,gf "sharpen" 776,gf "narrow_plain_truthy" 783,gf "nullish_side" 788,gf "unknown_equal" 793,gf "plain_equal_yes" 798,gf "plain_equal_no" 805,gf "narrow_plain_equal" 812,((S "PRIMITIVES"),.val (.tup [.int 1,.int 2,.int 3,.int 4,.int 5,.int 6])),gf "narrow_is_primitive" 820,gf "all_primitive" 825,gf "is_loose" 830,gf "part_meets" 837,gf "narrow_truthy" 844,gf "equal_part" 849,gf "narrow_equal" 854,gf "record_of" 861,gf "may_have" 868,gf "surely_has" 875,gf "has_members" 882,gf "in_yes" 887,gf "narrow_in" 894,gf "member_read" 901,gf "members_read" 906,gf "union_passing" 911,gf "narrow_discriminant" 916,gf "narrow_member_truthy" 921,((S "_law_true"),.val (.lst [.int 3,.int 5,.int 6,.int 8,.int 9])),((S "_law_false"),.val (.lst [.int 0,.int 1,.int 2,.int 4,.int 7])),((S "_law_names"),.val (.lst [.str (S "k"),.str (S "p")])),gf "_law_asks" 931,gf "_law_draw" 938,gf "_law_tags" 945,gf "_law_shape" 952,gf "_law_part" 959,gf "_law_is" 964,gf "_law_parts" 971,gf "_law_goes" 976,gf "_law_member" 981,gf "_law_has" 986,gf "law" 991,((S "len"),.bi "len"),((S "sorted"),.bi "sorted"),((S "all"),.bi "all"),((S "any"),.bi "any"),((S "isinstance"),.bi "isinstance"),((S "tuple"),.ty "tuple"),((S "list"),.ty "list"),((S "range"),.ty "range"),((S "enumerate"),.ty "enumerate"),((S "str"),.ty "str")]
noncomputable def fT:List (M'×adb×List V):=[(21,cR 0,[]),(36,kP 2 0,[.str (S "")]),(57,kP 3 0,[.int 2589,.str (S "")]),(77,kP 4 0,[.str (S "")]),(123,kP 56 0,[]),(130,kP 56 1,[]),(137,kP 56 2,[]),(158,kP 57 0,[]),(172,cR 58,[]),(180,cR 59,[.int 0]),(185,cR 60,[]),(197,cR 61,[.tup [],.tup [],.tup [],.tup [],.int 0]),(204,cR 62,[]),(212,cR 63,[.int (-1),.int (-1)]),(219,cR 64,[]),(226,cR 65,[]),(233,cR 66,[]),(240,cR 67,[]),(247,cR 68,[]),(254,cR 69,[]),(261,cR 70,[]),(266,cR 71,[]),(273,cR 72,[]),(280,cR 73,[]),(287,cR 74,[]),(294,cR 75,[]),(301,cR 76,[]),(306,cR 77,[]),(311,cR 78,[]),(318,cR 79,[]),(325,cR 80,[]),(332,cR 81,[]),(338,cR 89,[]),(343,cR 90,[]),(350,cR 91,[]),(357,cR 92,[]),(364,cR 93,[]),(371,cR 94,[]),(378,cR 95,[]),(385,cR 96,[]),(392,cR 97,[]),(399,cR 98,[]),(406,cR 99,[]),(411,cR 100,[]),(418,cR 101,[]),(425,cR 102,[]),(432,cR 103,[]),(439,cR 104,[]),(447,cR 105,[.int 0]),(452,cR 106,[]),(459,cR 107,[]),(464,cR 108,[]),(471,cR 109,[]),(478,cR 110,[]),(483,cR 111,[]),(490,cR 112,[]),(495,cR 113,[]),(500,cR 114,[]),(507,cR 115,[]),(512,cR 116,[]),(527,kP 121 0,[]),(534,kP 121 1,[]),(541,kP 121 2,[]),(548,kP 121 3,[]),(555,kP 121 4,[]),(562,kP 121 5,[]),(569,kP 121 6,[]),(576,kP 121 7,[]),(583,kP 121 8,[]),(590,kP 121 9,[]),(597,kP 121 10,[]),(604,kP 121 11,[]),(611,kP 121 12,[]),(618,kP 121 13,[]),(625,kP 121 14,[]),(646,kP 122 0,[]),(653,kP 122 1,[]),(660,kP 122 2,[]),(667,kP 122 3,[]),(679,cR 123,[]),(686,cR 124,[]),(693,cR 125,[]),(700,cR 126,[]),(705,cR 127,[]),(712,cR 128,[]),(719,cR 129,[]),(726,cR 130,[]),(731,cR 131,[]),(738,cR 132,[]),(743,cR 133,[]),(750,cR 134,[]),(759,cR 138,[]),(766,cR 139,[]),(771,cR 140,[]),(776,cR 141,[]),(783,cR 142,[]),(788,cR 143,[]),(793,cR 144,[]),(798,cR 145,[]),(805,cR 146,[]),(812,cR 147,[]),(820,cR 150,[]),(825,cR 151,[]),(830,cR 152,[]),(837,cR 153,[]),(844,cR 154,[]),(849,cR 155,[]),(854,cR 156,[]),(861,cR 157,[]),(868,cR 158,[]),(875,cR 159,[]),(882,cR 160,[]),(887,cR 161,[]),(894,cR 162,[]),(901,cR 163,[]),(906,cR 164,[]),(911,cR 165,[]),(916,cR 166,[]),(921,cR 167,[]),(931,cR 172,[]),(938,cR 173,[]),(945,cR 174,[]),(952,cR 175,[]),(959,cR 176,[]),(964,cR 177,[]),(971,cR 178,[]),(976,cR 179,[]),(981,cR 180,[]),(986,cR 181,[]),(991,cR 182,[])]
noncomputable def hT:List (O'×M'):=[((S "force"),534),((S "list_prop"),618),((S "shape"),653)]
noncomputable def mT:List (O'×M'):=[((S "put"),137)]
noncomputable def sI(a:Arguments):List O':=a.args.map (·.arg)
noncomputable def Fh(sc:adt)(ps:List O'):List O':=(sc.names.filter λp=>(match p.2 with|.local=>true|.cell=>true|_=>false)&&!ps.contains p.1).map (·.1)
noncomputable def yo(s:adb)(d:List V):Option Fn:=match s with
 |.FunctionDef _ a b _ _ _ sc _ _ _=>B' ⟨sc,sI a++Fh sc (sI a),a.args.length,d,b⟩
 |_=>F'
noncomputable def pE{α:Type}(n:Nat):List (Nat×α)->Option α
 |[]=>F'
 |(k,v)::l=>bif Nat.beq k n then B' v else pE n l
theorem Az(n:Nat)(p:Nat×α)(l:List (Nat×α)):pE n (p::l)=bif Nat.beq p.1 n then B' p.2 else pE n l:=rfl
noncomputable def jD{α:Type}(n:O'):List (O'×α)->Option α
 |[]=>F'
 |(k,v)::l=>bif k==n then B' v else jD n l
theorem AA(n:O')(p:O'×α)(l:List (O'×α)):jD n (p::l)=bif p.1==n then B' p.2 else jD n l:=rfl
noncomputable def BS:Bs where
 glb n:=jD n gT
 fn a:=C' (pE a fT) λp=>yo p.1 p.2
 hostM n:=jD n hT
 tabM n:=jD n mT
 abl:=27
 lv:=2
noncomputable def as1:List M':=[0,1,2,3,20,21,29,35,36,50,56,57,70,76,77,83,84,85,86,87,88,89,90,91,92,93,94,95,96,97,98,99,100,101,102,103,104,105,106,107,108,109,122,123,129,130,136,137,139,140,157,158,160,161,171,172,173,179,180,184,185,186,187,188,189,190,196,197,203,204,205,211,212,218,219,225,226,232,233,239,240,246,247,253,254,260,261,265,266,272,273,279,280,286,287,293,294,300,301,305,306,310,311,317,318,324,325,331,332,333,337,338,342,343,349,350,356,357,363,364,370,371,377,378,384,385,391,392,398,399,405,406,410,411,417,418,424,425,431,432,438,439,440,446,447,451,452,458,459,463,464,470,471,477,478,482,483,489,490,494,495,499,500,506,507,511,512,513,526,527,533,534,540,541,547,548,554,555,561,562,568,569,575,576,582,583,589,590,596,597,603,604,610,611,617,618,624,625,627,628,645,646,652,653,659,660,666,667,669,670,678,679,685,686,692,693,699,700,704,705,711,712,718,719,725,726,730,731,737,738,742,743,749,750,751,752,758,759,765,766,770,771,775,776,782,783,787,788,792,793,797,798,804,805,811,812,813,819,820,824,825,829,830,836,837,843,844,848,849,853,854,860,861,867,868,874,875,881,882,886,887,893,894,900,901,905,906,910,911,915,916,920,921,922,923,924,930,931,937,938,944,945,951,952,958,959,963,964,970,971,975,976,980,981,985,986,990,991]
noncomputable def yp(P:N')(a:M'):Obj:=((H1 P).get? a).getD default
noncomputable def K1(P:N'):adV:=as1.map λa=>(a,yp P a)
theorem BV(P:N'):as1.all (λa=>((H1 P).get? a).isSome)=true:=by kernel_rfl
theorem eQ(P:N'):(K1 P).In (H1 P):=by
 intro a o e
 unfold K1 at e
 have hm:∀(l:List M'),l.all (λa=>((H1 P).get? a).isSome)=true->(l.map λa=>(a,yp P a)).lookup a=B' o->(H1 P).get? a=B' o:=by
  intro l;induction l with
  |nil=>intro _ e;cases e
  |cons b l ih=>
   intro h e;simp only[List.all_cons,aq] at h;rw[aC,List.lookup_cons] at e;refine aaw (b:=a==b) (λhb=>?_) λhb=>?_;rotate_left
   .
    replace e:=hb▸e;cases e;obtain⟨x,hx⟩:=cj.mp h.1;rw[aT.mp hb,hx];unfold yp;rw[hx];rfl
   .rw[hb] at e;exact ih h.2 e
 exact hm as1 (BV P) e
theorem G3(P:N'):gT.all (λp=>match kq (K1 P) p.1 with|some v=>G2 (K1 P) v p.2|none=>false)=true:=by kernel_rfl
theorem G7(P:N'):fT.map (λp=>(sG (K1 P) p.1).map nk)=fT.map (λp=>(yo p.2.1 p.2.2).map nl):=by kernel_rfl
theorem G8(P:N'):fT.all (λp=>match sG (K1 P) p.1,yo p.2.1 p.2.2 with|some fd,B' f=>vj (K1 P) f fd|_,_=>false)=true:=by kernel_rfl
noncomputable def yq(K:adV)(C:M'):Bool:=match adI K (.ref C) "__getattribute__" with|some (B' (.builtin i))=>i=="object.__getattribute__"|_=>false
noncomputable def yr(K:adV)(C:M')(name:O'):Bool:=match adI K (.ref C) name with|some F'=>true|_=>false
noncomputable def fH(K:adV)(C:M')(name:O'):Bool:=(clsIn K C).any (·.hasDict)&&yr K C name&&yq K C
noncomputable def jf(K:adV)(C:M')(name:O')(f:M'):Bool:=(match adI K (.ref C) name with|some (B' (.ref g))=>f==g|_=>false)&&(match aeG K (.ref f) with|some (.type t)=>t=="function"|_=>false)&&yr K C "__getattr__"&&yq K C
theorem G9(P:N'):([jy,gr,eK,fj,dE,gt].all (fH (K1 P) 140)&&fH (K1 P) 670 dJ&&[fN,fA].all (fH (K1 P) 161)&&mT.all (λp=>jf (K1 P) 140 p.1 p.2)&&hT.all (λp=>jf (K1 P) 670 p.1 p.2))=true:=by kernel_rfl
theorem De(P:N'):(makesIn (K1 P) 140&&makesIn (K1 P) 161&&makesIn (K1 P) 670)=true:=by kernel_rfl
theorem Fi(P:N'):(nsOkIn (K1 P) aeB&&(match nsIn (K1 P) aeB "sys.recursionlimit" with|some F'=>true|_=>false))=true:=by kernel_rfl
structure cO (h:P') (x dx C:M') (od:Obj):Prop where
 at_:h.get? x=B' (adB C dx)
 dict:h.get? dx=B' od
variable {dx:M'}
theorem cO.inst{x:M'}{od:Obj}(I:cO h x dx C od):InstAt h x (adB C dx) C (B' od):=⟨I.at_,rfl,rfl,I.dict⟩
theorem cO.keeps{h h':P'}{x dx C:M'}{od:Obj}(I:cO h x dx C od)(k1:∀o,h.get? x=B' o->h'.get? x=B' o)(k2:∀o,h.get? dx=B' o->h'.get? dx=B' o):cO h' x dx C od:=⟨k1 _ I.at_,k2 _ I.dict⟩
structure im (W:Wd) (base:P'):Prop where
 inst:∃od,cO base W.aas W.aaL 140 od/\adg jy od=B' (B' (.ref W.aaQ))/\adg gr od=B' (B' (.ref W.aa2))/\adg eK od=B' (B' (.ref W.aab))/\adg fj od=B' (B' (.ref (W.aaR 0)))/\adg dE od=B' (B' (.ref (W.aaR 1)))/\adg gt od=B' (B' (.ref (W.aaR 2)))/\adg (Str.ofString "put") od=B' F'
 na:W.na=3
 live:W.live
 nm:¬W.mut W.aas/\¬W.mut W.aaL
structure qK (W:Wd) (base:P'):Prop where
 host:∃od,cO base W.aaC W.aaI 670 od/\adg dJ od=B' (B' (.ref W.aas))/\∀p∈hT,adg p.1 od=B' F'
 nmH:¬W.mut W.aaC/\¬W.mut W.aaI
 decl:∃od t e,cO base W.aax W.aao 161 od/\adg fN od=B' (B' (.int 27 t))/\adg fA od=B' (B' (.ref e))/\base.get? e=B' (fb [])/\¬W.mut e
 nmD:¬W.mut W.aax/\¬W.mut W.aao
 decls:(∃xs n,base.get? W.aab=B' (eB xs n)/\xs[2]? =B' (.ref W.aax))/\¬W.mut W.aab
noncomputable def gZ(lv:Nat):Bs where
 glb:=BS.glb
 fn:=BS.fn
 hostM:=λn=>bif lv==2 then BS.hostM n else F'
 tabM:=λn=>bif lv==0 then F' else BS.tabM n
 abl:=27
 lv:=lv
structure Fj (W:Wd) (B:Bs) (K:adV) (base:P'):Prop where
 X:K.In base
 nm:∀a o,K.lookup a=B' o->¬W.mut a
 glb:∀n g,B.glb n=B' g->∃v,kq K n=B' v/\G2 K v g=true
 fn:∀a f,B.fn a=B' f->∃fd,sG K a=B' fd/\nk fd=nl f/\vj K f fd=true
 aa9:nsOkIn K aeB=true/\nsIn K aeB "sys.recursionlimit"=B' F'
 abO:(K.lookup adf).isSome=true
 cls:B.lv≠0->[jy,gr,eK,fj,dE,gt].all (fH K 140)=true/\fH K 670 dJ=true/\[fN,fA].all (fH K 161)=true/\(∀n a,B.tabM n=B' a->n=Str.ofString "put"/\jf K 140 n a=true)/\(∀n a,B.hostM n=B' a->(∃p∈hT,p.1=n)/\jf K 670 n a=true)
section
variable {W:Wd}{B:Bs}{K:adV}{base:P'}
theorem sJ(h:yq K C=true):adI K (.ref C) "__getattribute__"=B' (B' (.builtin "object.__getattribute__")):=BQ h
theorem sK{n:O'}(h:yr K C n=true):adI K (.ref C) n=B' F':=mz h
theorem eh{A:ada}{E:qab}{s:H'}{Q:qab}{x dx C:M'}{od:Obj}{a:O'}{v:G'}(X:K.In s.heap)(I:cO s.heap x dx C od)(hc:fH K C a=true)(hl:adg a od=B' (B' v))(hh:handedIn v=true)(q:Q v {s with toks:=s.toks+1}):qaa W A (getAttr (.ref x) a true) Q E s:=by
 simp only[fH,aq] at hc
 refine hide λQz qz=>?_
 obtain⟨⟨h1,h2⟩,h3⟩:=hc
 refine x12 (any_some h1) λcd Wa hd=>?_
 refine qz ?_
 exact get_value X I.inst (sJ h3) (sH Wa hd (sK h2) hl) hh q
theorem pF{Q:G'×List G'->H'->Prop}{pl:Sem Bool}{x f:M'}{od:Obj}{a:O'}(X:K.In s.heap)(I:cO s.heap x dx C od)(hc:jf K C a f=true)(hl:adg a od=B' F')(q:Q (.ref f,[.ref x]) s):qaa W A (aeH (.ref x) a pl) Q E s:=by
 simp only[jf,aq] at hc
 obtain⟨⟨⟨h1,h2⟩,h3⟩,h4⟩:=hc
 have e1:adI K (.ref C) a=B' (B' (.ref f)):=by
  exact Db h1
 have e2:aeG K (.ref f)=B' (.type "function"):=by
  exact Fc h2
 exact method_fn X I.inst (sJ h4) (sK h3) e1 e2 (by show(adg a od).map (·.isSome)=B' false;refine sb hl ?_;rfl) q
theorem yu(wd:jo W)(hB:B.abl=27)(t:Fj W B K base)(hT:B.lv≠0->im W base)(hH:B.lv=2->qK W base)(h0:B.lv=0->(∀n,B.tabM n=F'))(h1:B.lv≠2->∀n,B.hostM n=F'):fK W B base where
 wd:=wd
 aa9:=λh g=>by
  have X:K.In h:=λb o e=>g b o (t.nm b o e) (t.X b o e);refine⟨_,Heap.Ns.of_isNs (aew X t.aa9.1),ns_none_of X (Heap.Ns.of_isNs (aew X t.aa9.1)) t.aa9.2⟩
 decls:=λhl h g=>by
  obtain⟨⟨xs,n,e,q⟩,nm⟩:=(hH hl).decls;exact(m22 xs n (g _ _ nm e) q)
 abO:=λh g=>by
  refine x11 (cj.mp t.abO) λo e=>?_;exact aY (g _ _ (t.nm _ o e) (t.X _ o e))
 attr:=by
  intro A E s Q Y v a u x hA hu g r e hQ;have X:K.In s.heap:=λb o e=>g b o (t.nm b o e) (t.X b o e);have al:=Al.tok s (s.toks+1);revert e;induction v using V.casesOn<;>first|exact no|intro e
  case tab=>
   obtain rfl:=VR.view r;change (bif B.lv==0 then F' else bif a==jy then B' V.aan else bif a==gr then B' .idxH else bif a==eK then(bif B.lv==2 then B' .aau else F') else
    bif a==fj then B' (.aaF 0) else bif a==dE then B' (.aaF 1) else bif a==gt then B' (.aaF 2) else F')=B' u at e
   refine hide λQz qz=>?_;refine x02 (mW e) λhl e=>?_;have LT:B.lv≠0:=by simpa using hl
   refine Ir ((hT LT).inst) λod I r1 r2 r3 r4 r5 r6 O=>?_;have L:=hT LT;have I':cO s.heap W.aas W.aaL 140 od:=I.keeps (λo e=>g _ o L.nm.1 e) (λo e=>g _ o L.nm.2 e);have C:=(t.cls LT).1;refine qz ?_;simp only[List.all_cons,List.all_nil,Bool.and_true,aq] at C;refine hide λQz qz=>?_;refine GQ C λc1 c2 c3 c4 c5 c6=>?_;have Qd:=L.na;refine qz ?_;cases q1:a==jy with
   |true=>replace e:=q1▸e;obtain rfl:=ac e;rw[aT.mp q1];exact eh X I' c1 r1 rfl (hQ _ _ al (.aan L.live))
   |false=>
   rw[q1,cond_false] at e;cases q2:a==gr with
   |true=>rw[q2] at e;obtain rfl:=ac e;rw[aT.mp q2];exact eh X I' c2 r2 rfl (hQ _ _ al (.idxH L.live))
   |false=>
   rw[q2,cond_false] at e;cases q3:a==eK with
   |true=>
    rw[q3,cond_true] at e;refine x02 (km e) λO e=>?_;obtain rfl:=ac e;rw[aT.mp q3];exact eh X I' c3 r3 rfl (hQ _ _ al .aau)
   |false=>
   rw[q3,cond_false] at e;cases q4:a==fj with
   |true=>replace e:=q4▸e;obtain rfl:=ac e;rw[aT.mp q4];exact eh X I' c4 r4 rfl (hQ _ _ al (.aaF 0 (GE Qd rfl)))
   |false=>
   rw[q4,cond_false] at e;cases q5:a==dE with
   |true=>rw[q5] at e;obtain rfl:=ac e;rw[aT.mp q5];exact eh X I' c5 r5 rfl (hQ _ _ al (.aaF 1 (GE Qd rfl)))
   |false=>
   rw[q5,cond_false] at e;cases q6:a==gt with
   |true=>rw[q6] at e;obtain rfl:=ac e;refine sb (aT.mp q6) ?_;exact eh X I' c6 r6 rfl (hQ _ _ al (.aaF 2 (GE Qd rfl)))
   |false=>rw[q6] at e;exact no e
  case host=>
   obtain rfl:=VR.view r;change (bif B.lv==2&&a==dJ then B' V.tab else F')=B' u at e;refine x02 (aaf e) λhl e=>?_;cases e;simp only[aq,aT] at hl;obtain⟨hl,rfl⟩:=hl;have L:=hH hl;refine kQ L.host λod I r1 O=>?_;exact eh X (I.keeps (λo e=>g _ o L.nmH.1 e) (λo e=>g _ o L.nmH.2 e)) (t.cls (H9 (by simpa using hl) · rfl)).2.1 r1 rfl (hQ _ _ al .tab)
  case decl=>
   obtain rfl:=VR.view r;change (bif B.lv==2 then(bif a==fN then B' (V.int B.abl) else bif a==fA then B' (.tup []) else F') else F')=B' u at e;refine hide λQz qz=>?_;refine x02 (km e) λhl e=>?_;have hl:B.lv=2:=by simpa using hl
   have L:=hH hl;refine x35 L.decl λod tk eb I r1 r2 r3 r4=>?_;have I':=I.keeps (h':=s.heap) (λo e=>g _ o L.nmD.1 e) (λo e=>g _ o L.nmD.2 e);have C:=(t.cls (H9 hl · rfl)).2.2.1;refine qz ?_;simp only[List.all_cons,List.all_nil,Bool.and_true,aq] at C;cases q1:a==fN with
   |true=>replace e:=q1▸e;obtain rfl:=ac e;rw[aT.mp q1];exact eh X I' C.1 r1 rfl (hQ _ _ al (by refine sb hB ?_;exact .int ..))
   |false=>
   rw[q1,cond_false] at e;cases q2:a==fA with
   |true=>rw[q2] at e;obtain rfl:=ac e;refine sb (aT.mp q2) ?_;exact eh X I' C.2 r2 rfl (hQ _ _ al (.tup (by decide) (λf=>f) (g _ _ r4 r3) .nil))
   |false=>rw[q2] at e;exact no e
 glb:=by
  intro A E s Q env n gg hk h1 h2 h3 hg g hQ;refine x12 (t.glb n gg hg) λv e1 e2=>?_;have X:K.In s.heap:=λb o e=>g b o (t.nm b o e) (t.X b o e);exact gK X hk h1 h2 h3 e1 (hQ v (Dd t.X t.nm e2))
 fn:=λa f hf=>by
  refine hide λQz qz=>?_;refine kQ (t.fn a f hf) λfd e1 e2 e3=>?_;refine qz ?_;exact vk t.X t.nm e1 e2 e3
 host:=by
  intro m a hm A E s Q pl hA g hQ;have hl:B.lv=2:=by
   by_cases hl:B.lv=2
   .exact hl
   .rw[h1 hl] at hm;exact no hm
  have L:=hH hl;have X:K.In s.heap:=λb o e=>g b o (t.nm b o e) (t.X b o e);refine kQ L.host λod I O r2=>?_;obtain⟨⟨p,hp,rfl⟩,c⟩:=(t.cls (by omega)).2.2.2.2 m a hm;exact pF X (I.keeps (λo e=>g _ o L.nmH.1 e) (λo e=>g _ o L.nmH.2 e)) c (r2 p hp) (hQ s (Al.refl s))
 tab:=by
  intro m a hm A E s Q pl hA g hQ;have hl:B.lv≠0:=λq=>by rw[h0 q] at hm;exact no hm
  have L:=hT hl;have X:K.In s.heap:=λb o e=>g b o (t.nm b o e) (t.X b o e);refine hide λQz qz=>?_;refine Ir L.inst λod I O O O O O O r7=>?_;obtain⟨rfl,c⟩:=(t.cls hl).2.2.2.1 m a hm;refine qz ?_;exact pF X (I.keeps (λo e=>g _ o L.nm.1 e) (λo e=>g _ o L.nm.2 e)) c r7 (hQ s (Al.refl s))
end
theorem jg:∀{l:List (O'×α)}{n:O'}{v:α},jD n l=B' v->(n,v)∈l
 |(k,u)::l,n,v,h=>by
  simp only[AA] at h;refine aaw (b:=k==n) (λe=>?_) λe=>?_;rotate_left
  .rw[e] at h;obtain rfl:=ac h;refine sb (aT.mp e) ?_;exact af ..
  .rw[e] at h;exact ag _ (jg h)
theorem pG:∀{l:List (Nat×α)}{n:Nat}{v:α},pE n l=B' v->(n,v)∈l
 |(k,u)::l,n,v,h=>by
  simp only[Az] at h;refine aaw (b:=Nat.beq k n) (λe=>?_) λe=>?_;rotate_left
  .rw[e] at h;obtain rfl:=ac h;refine sb (Nat.eq_of_beq_eq_true e) ?_;exact af ..
  .rw[e] at h;exact ag _ (pG h)
theorem Df{P:N'}{p:M'×adb×List V}(hp:p∈fT):(sG (K1 P) p.1).map nk=(yo p.2.1 p.2.2).map nl:=by
 have h:=G7 P
 have:=List.map_inj_left.mp h p hp
 exact this
set_option tactic.hygienic true in
theorem yv{W:Wd}{base:P'}(lv:Nat)(X:(K1 W.w.params).In base)(nm:∀a∈as1,¬W.mut a):Fj W (gZ lv) (K1 W.w.params) base where
 X:=X
 nm:=λa o e=>nm a (by
  have hm:∀(l:List M'),(l.map λa=>(a,yp W.w.params a)).lookup a=B' o->a∈l:=by
   intro l
   induction l with
   |nil=>intro e;exact no e
   |cons b l ih=>
    intro e
    rw[aC,List.lookup_cons] at e
    refine aaw (b:=a==b) (λhb=>?_) λhb=>?_;rotate_left
    .rw[aT.mp hb];exact af ..
    .rw[hb] at e;exact ag _ (ih e)
  exact hm as1 e)
 glb:=λn g hg=>by
  have:=aE.mp (G3 W.w.params) (n,g) (jg hg);dsimp only at this;split at this
  .rename_i v hv;exact⟨v,hv,this⟩
  .exact nb this
 fn:=λa f hf=>by
  refine x12 (tW (show(C' (pE a fT) λp=>yo p.1 p.2)=B' f from hf)) λp hp hf=>?_;have hm:=pG hp;have e1:=Df (P:=W.w.params) hm;have e2:=aE.mp (G8 W.w.params) _ hm;dsimp only at e1 e2;rw[hf] at e1 e2;cases UK:sG (K1 W.w.params) a with
  |none=>rw[UK] at e1;exact no e1
  |some fd=>
   rw[UK] at e1 e2;exact(lU fd rfl (ac e1) e2)
 aa9:=by
  have:=Fi W.w.params;simp only[aq] at this;refine⟨this.1,?_⟩;have h:=this.2;exact mz h
 abO:=by rfl
 cls:=λhl=>by
  have:=G9 W.w.params;simp only[aq] at this;refine hide λQz qz=>?_;obtain⟨⟨⟨⟨a1,a2⟩,a3⟩,a4⟩,a5⟩:=this;refine qz ?_;refine(Gd a1 a2 a3 (λn a h=>?_) (λn a h=>?_))
  .refine x02 (mW h) λO h=>?_;have hm:=jg (show jD n mT=B' a from h);have q:=aE.mp a4 _ hm;refine⟨?_,q⟩;have:(n,a)=((⟨#[112,117,116]⟩:O'),(137:M')):=am.mp hm;refine sb ((be this).1) ?_;rfl
  .refine x02 (km h) λO h=>?_;have hm:=jg (show jD n hT=B' a from h);exact⟨⟨_,hm,rfl⟩,aE.mp a5 _ hm⟩
theorem AB{W:Wd}{base:P'}{lv:Nat}(hl:lv=1\/lv=2)(wd:jo W)(X:(K1 W.w.params).In base)(nm:∀a∈as1,¬W.mut a)(hT:im W base)(hH:lv=2->qK W base):fK W (gZ lv) base:=yu wd rfl (yv lv X nm) (λO=>hT) hH (λh n=>by show(bif lv==0 then F' else _)=F';refine sb (show lv=0 from h) ?_;rfl) (λh n=>by show(bif lv==2 then _ else F')=F';rw[show(lv==2)=false from aR.mpr h];rfl)
noncomputable def ent(P:N')(p:O'×Tok×G'):adv:=⟨PyData.keyHash P p.1,.str p.1 p.2.1,p.2.2⟩
noncomputable def dO(P:N')(l:List (O'×Tok×G'))(n:Nat):Obj:={cls:=.type "dict",data:=.dict (l.map (ent P)).toArray n}
noncomputable def jq(l:List (O'×Tok×G'))(name:O')(t:Tok)(v:G'):List (O'×Tok×G'):=match l with
 |[]=>[(name,t,v)]
 |p::r=>if p.1=name then(p.1,p.2.1,v)::r else p::jq r name t v
theorem jW(name:O')(t:Tok)(v:G'):jq [] name t v=[(name,t,v)]:=rfl
theorem jX(p:O'×Tok×G')(r:List (O'×Tok×G'))(name:O')(t:Tok)(v:G'):jq (p::r) name t v=if p.1=name then(p.1,p.2.1,v)::r else p::jq r name t v:=rfl
theorem yw(l:List (O'×Tok×G'))(name:O')(t:Tok)(v:G'):(jq l name t v).length<=l.length+1:=by
 induction l with
 |nil=>simp [jW,jX]
 |cons p r ih=>simp only[jW,jX];split<;>simp<;>assumption
theorem Dg(P:N')(p:O'×Tok×G')(name:O'):(ent P p).key.isStr name=(p.1==name):=by
 show Value.isStr (.str p.1 p.2.1) name=_
 simp [Value.isStr]
theorem vl(P:N')(p:O'×Tok×G'):(ent P p).refKey=false:=rfl
theorem fL(P:N')(l:List (O'×Tok×G'))(n:Nat)(name:O'):adg name (dO P l n)=B' ((l.find? λp=>p.1==name).map (·.2.2)):=by
 unfold adg dO
 simp only[]
 have h1:(l.map (ent P)).find? (λe=>e.key.isStr name)=(l.find? λp=>p.1==name).map (ent P):=by
  rw[List.find?_map];congr 2
 refine sb h1 ?_
 cases l.find? λp=>p.1==name with
 |none=>
  have:(l.map (ent P)).any (·.refKey)=false:=by rw[cp];intro e he;refine x12 (aJ.mp he) λp O KC=>?_;subst KC;rw[vl];simp
  simp [this]
 |some p=>rfl
theorem Dh(P:N')(l:List (O'×Tok×G'))(n:Nat)(name:O')(t:Tok)(v:G'):∃n',Obj.putName name (PyData.keyHash P name) (.str name t) v (dO P l n)=dO P (jq l name t v) n':=by
 refine sb Obj.putName_eq ?_
 have key:∀l:List (O'×Tok×G'),(match(l.map (ent P)).findIdx? (λe=>e.key.isStr name) with
   |some i=>(l.map (ent P)).modify i (λe=>{e with val:=v})=(jq l name t v).map (ent P)
   |none=>(l.map (ent P))++[⟨PyData.keyHash P name,.str name t,v⟩]=(jq l name t v).map (ent P)):=by
  intro l;induction l with
  |nil=>simp [jW,jX,ent]
  |cons p r ih=>
   rw[aC,List.findIdx?_cons,Dg];simp only[jW,jX];by_cases e:p.1=name
   .simp [e,ent]
   ·(refine sb (aR.mpr e) ?_;refine sb (aL e) ?_);simp only[bY,bg];revert ih;cases (r.map (ent P)).findIdx? (λe=>e.key.isStr name) with
    |none=>intro ih;simp only[Option.map_none];(refine sb List.cons_append ?_;refine sb ih ?_);rfl
    |some i=>intro ih;simp only[Option.map_some,List.modify_succ_cons];rw[ih];rfl
 have:=key l
 unfold Obj.putNameByArray dO
 simp only[List.findIdx?_toArray]
 revert this
 cases (l.map (ent P)).findIdx? (λe=>e.key.isStr name) with
 |none=>intro h;exact⟨n+1,by simp only[List.push_toArray];rw[h]⟩
 |some i=>intro h;exact⟨n,by simp only[List.modify_toArray];rw[h]⟩
noncomputable def fU(K:adV)(C:M')(name:O'):Bool:=(match adI K (.ref C) "__setattr__" with|some (B' (.builtin i))=>i=="object.__setattr__"|_=>false)&&plainOver K C&&(match takerIn K C name with|some F'=>true|_=>false)&&(clsIn K C).any (·.hasDict)
section
variable {w:U'}{K:adV}{x:M'}{l:List (O'×Tok×G')}{v:G'}
theorem sL{Q:Unit->H'->Prop}(X:K.In s.heap)(I:cO s.heap x dx C (dO w.params l n))(hc:fU K C name=true)(hz:l.length<=1000)(hQ:∀h' tk t n',h'.get? dx=B' (dO w.params (jq l name t v) n')->(∀b o,b≠dx->s.heap.get? b=B' o->h'.get? b=B' o)->h'.objs.size=s.heap.objs.size->Q () {s with heap:=h',toks:=tk}):V' (ade prog w) A (setAttr (.ref x) name v) Q E s:=by
 simp only[fU,aq] at hc
 refine hide λQz qz=>?_
 obtain⟨⟨⟨h1,h2⟩,h3⟩,h4⟩:=hc
 have e1:adI K (.ref C) "__setattr__"=B' (B' (.builtin "object.__setattr__")):=by
  exact BQ h1
 have e3:takerIn K C name=B' F':=by
  exact mz h3
 refine x12 (any_some h4) λcd Wa Rs=>?_
 refine qz ?_
 refine set_plain X I.inst e1 (osa_open X I.inst h2 e3 λb=>?_)
 refine ah (av (ah (ah (wpAny_loadPart I.at_ (ah (looks_clsIn (h:=s.heap) X Wa _ _ _ _ (λO O e=>e) ?_))))))
 rw[Rs]
 refine av (a:=B' dx) (ah (av (ah ?_)))
 unfold nsSet
 refine ah (ah (wpAny_askSetting (av (ah (wpAny_mkText (ah (wpAny_loadPart I.dict ?_)))))))
 have q:(dO w.params l n).data=.dict (l.map (ent w.params)).toArray n:=rfl
 rw[q]
 dsimp only
 have c:(!(l.map (ent w.params)).toArray.any (·.key.isStr name)&&(l.map (ent w.params)).toArray.any (·.refKey))=false:=by
  have:(l.map (ent w.params)).toArray.any (·.refKey)=false:=by
   rw[List.any_toArray,cp];intro e he;refine x12 (aJ.mp he) λp O KC=>?_;subst KC;rw[vl];simp
  rw[this,Bool.and_false]
 rw[aRefKeyMayBeTheName_at,c]
 refine x11 (Dh w.params l n name (s.toks+1) v) λn' hp=>?_
 refine wpAny_updatePart I.dict ?_
 have D':(s.heap.update dx (Obj.putName name (PyData.keyHash w.params name) (.str name (s.toks+1)) v)).get? dx=B' (dO w.params (jq l name (s.toks+1) v) n'):=by
  rw[Heap.get?_update_self _ I.dict (by rw[hp];rfl),hp]
 refine ah (wpAny_lookBehind D' (pastItsLine_dict (by rw[ay,ae,sizeLine_eq];have:=yw l name (s.toks+1) v;exact I6 hz this rfl)) ?_)
 refine av (hQ _ _ _ _ D' (λb o hb e=>?_) ?_)
 .exact((Heap.SameBut.update ..).2 b hb).trans e
 .exact(Heap.SameBut.update ..).1
end
theorem wM(C:M')(vs:List G'):Code.weight (.builtin "type.__call__" ⟨.ref C::vs,[]⟩)=1/\Code.cUnits (.builtin "type.__call__" ⟨.ref C::vs,[]⟩)=1:=⟨rfl,rfl⟩
theorem Rm.under{vs:List G'}(h:Rm (n+1) A):Rm n (A.under (.builtin "type.__call__" ⟨.ref C::vs,[]⟩)):=by
 obtain⟨hw,hu⟩:=wM C vs
 refine⟨h.handled,?_,?_⟩
 .have:=h.depth;show A.depth+Code.weight (.builtin "type.__call__" ⟨.ref C::vs,[]⟩)+n<_;refine sb hw ?_;exact Cp this
 .have:=h.units;show A.units+Code.cUnits (.builtin "type.__call__" ⟨.ref C::vs,[]⟩)+4*n+50<_;refine sb hu ?_;exact IO this
variable {self:O'}
section
variable {W:Wd}{B:Bs}{base:P'}{R:Rc}{KE:H'}{h₀:P'}
theorem FR.hid{X:M'}(fr:FR W base h₀ sc env Y Γ oa m cm h)(hX:Y X)(h0:h₀.get? X=F')(k:∀b o,b≠X->h.get? b=B' o->h'.get? b=B' o):FR W base h₀ sc env Y Γ oa m cm h':=by
 have kd:kN (Yf env Y Γ oa) h h':=λb o hb O e=>k b o (λq=>hb (.inl (q▸hX))) e
 exact
 {kind:=fr.kind
  globals:=fr.globals
  builtins:=fr.builtins
  nm:=fr.nm
  ns:=by refine x32 fr.ns λo es ep ho r=>?_;exact(uU o es ep (k _ _ (λq=>fr.aai.2.2.1 (q▸hX)) ho) r)
  cell:=λn c hc=>by refine x12 (fr.cell n c hc) λo ho r=>?_;exact⟨o,k _ _ (λq=>(fr.aam n c hc).2.2.1 (q▸hX)) ho,r⟩
  has:=fr.has
  apart:=fr.apart
  ne:=fr.ne
  aai:=fr.aai
  aam:=fr.aam
  aaj:=fr.aaj
  pl:=λn i v a b c=>by refine x12 (fr.pl n i v a b c) λx p q=>?_;exact⟨x,p,q.keep kd⟩
  ow:=fr.ow
  own:=λi v a=>by refine x02 (fr.own i v a) λp q=>?_;exact⟨p.keep kd λob z=>k _ _ (λz=>q.1 (z▸hX)) z,q⟩
  inj:=fr.inj
  old:=λb o nb z=>k b o (λq=>by rw[q,h0] at z;exact no z) (fr.old b o nb z)}
structure IS (W:Wd) (base h₀:P') (sc:Sc) (env:Env) (Y:M'->Prop) (Γ:List Sl) (m cm:O'->Option G') (T:TS) (C x dx:M') (l:List (O'×Tok×G')) (KE s:H'):Prop where
 fr:FR W base h₀ sc env Y Γ (λO=>0) m cm s.heap
 inv:dl W base T s.heap
 y:fm W base Y s.heap
 own:∃n,cO s.heap x dx C (dO W.w.params l n)
 hid:Y dx/\h₀.get? dx=F'/\¬W.mut dx/\base.get? dx=F'
 xm:¬W.mut x/\x≠dx
 same:∃h tk,s={KE with heap:=h,toks:=tk}
theorem IS.set{K:adV}{x:M'}{l:List (O'×Tok×G')}{v:G'}{Q:Unit->H'->Prop}(J:IS W base h₀ sc env Y Γ m cm T C x dx l KE s)(X:K.In s.heap)(hc:fU K C name=true)(hz:l.length<=1000)(hQ:∀s' t,IS W base h₀ sc env Y Γ m cm T C x dx (jq l name t v) KE s'->(∀b o,b≠dx->s.heap.get? b=B' o->s'.heap.get? b=B' o)->Q () s'):qaa W A (setAttr (.ref x) name v) Q E s:=by
 refine x11 J.own λnn own=>?_
 refine sL X own hc hz λh' tk t n' hd kp O=>hQ _ t ⟨J.fr.hid J.hid.1 J.hid.2.1 kp,J.inv.fill J.hid.2.2.1 J.hid.2.2.2 own.dict (.aaE rfl) kp,⟨J.y.ym,λb yb=>?_,J.y.new⟩,⟨n',⟨kp _ _ J.xm.2 own.at_,hd⟩⟩,J.hid,J.xm,?_⟩ kp
 .by_cases q:b=dx
  .exact⟨_,q▸hd,.aaE rfl⟩
  .refine x12 (J.y.there b yb) λo e c=>?_;exact⟨o,kp b o q e,c⟩
 .refine d6 J.same λh1 t1 a=>?_;exact⟨h',tk,by rw[a]⟩
theorem IS.ev{x:M'}{l:List (O'×Tok×G')}(J:IS W base h₀ sc env Y Γ m cm T C x dx l KE s)(e:Ev W s s')(i:dl W base T' s'.heap):IS W base h₀ sc env Y Γ m cm T' C x dx l KE s':=by
 refine x11 J.own λnn own=>?_
 refine⟨J.fr.ev J.y.ym e,i,J.y.ev e i,⟨nn,own.keeps (λo q=>e.keep _ _ J.xm.1 q) λo q=>e.keep _ _ J.hid.2.2.1 q⟩,J.hid,J.xm,?_⟩
 refine d6 J.same λh1 t1 a=>?_
 refine iP e λh2 t2 b O=>?_
 exact⟨h2,t2,by rw[b,a]⟩
theorem IS.assign{K:adV}{x:M'}{l:List (O'×Tok×G')}{pa:Pos}{v:V}{Q:Flow->H'->Prop}(S:dX W base n R.ev)(hA:Rm n A)(J:IS W base h₀ sc env Y Γ m cm T C x dx l KE s)(X:∀s',Ev W s s'->K.In s'.heap)(hc:fU K C name=true)(hz:l.length<=1000)(LU:vv env m cm self=B' (.ref x))(hv:cZ sc self=true)(hd:(self==cV)=false/\(self==f4)=false)(he:R.ev sc Γ T e=B' (v,T'))(hg:fO e=true)(hQ:∀y KA s' t,Ev W s KA->VR W KA.heap (Yf env Y Γ λO=>0) y v->IS W base h₀ sc env Y Γ m cm T' C x dx (jq l name t y) KE s'->(∀b o,b≠dx->KA.heap.get? b=B' o->s'.heap.get? b=B' o)->Q .next s'):qaa W A (adR (.Assign [.Attribute (.Name self px) name pa] e pos) env) Q E s:=by
 refine adp (S.aah hA he (J.fr.st (kO.refl Γ) J.inv J.y) λy KA ry KD KF=>?_) (by clear he hg;induction e using Expr.casesOn<;>first|rfl|(cases hg;done))
 have Nu:=J.ev KF KD.inv
 exact bO (cD Nu.fr.kind (Nu.fr.aa5 hv LU) (Nu.set (X _ KF) hc hz λs' t J' kp=>hQ y KA s' t KF ry J' kp) hd.2) hd.1
theorem IS.abY{K:adV}{x:M'}{l:List (O'×Tok×G')}{pa:Pos}{v:V}{Q:Flow->H'->Prop}(S:lP W base n R.ev)(hA:Rm n A)(J:IS W base h₀ sc env Y Γ m cm T C x dx l KE s)(X:∀s',Ev W s s'->K.In s'.heap)(hc:fU K C name=true)(hz:l.length<=1000)(LU:vv env m cm self=B' (.ref x))(hv:cZ sc self=true)(hd:(self==cV)=false/\(self==f4)=false)(he:R.ev sc Γ T e=B' (v,T'))(hg:iW e=true)(hQ:∀a KA s' t,Ev W s KA->s.heap.get? a=F'->cU W KA.heap (λb=>Yf env Y Γ (λO=>0) b\/b=a) a v->IS W base h₀ sc env Y Γ m cm T' C x dx (jq l name t (.ref a)) KE s'->(∀b o,b≠dx->KA.heap.get? b=B' o->s'.heap.get? b=B' o)->Q .next s'):qaa W A (adR (.Assign [.Attribute (.Name self px) name pa] e pos) env) Q E s:=by
 refine adp (bb (S hA hg he (J.fr.st (kO.refl Γ) J.inv J.y)) (λy KA q=>?_) λO O e=>e) (by clear he hg;induction e using Expr.casesOn<;>first|rfl|(cases hg;done))
 obtain⟨⟨ry,i,KF⟩,a,rfl,ha,ow⟩:=q
 have Nu:=J.ev KF i
 exact bO (cD Nu.fr.kind (Nu.fr.aa5 hv LU) (Nu.set (X _ KF) hc hz λs' t J' kp=>hQ a KA s' t KF ha ow J' kp) hd.2) hd.1
end
set_option backward.match.sparseCases true
section
variable {W:Wd}{B:Bs}{base:P'}{R:Rc}{KE:H'}{h₀:P'}
theorem pH{K:adV}{f:Fn}{fd:adK}{o:Obj}{fI C:M'}{KJ:List G'}{Q:qab}(RF:s.heap.NoLimit)(X:K.In s.heap)(hm:makesIn K C=true)(hi:adI K (.ref C) "__init__"=B' (B' (.ref fI)))(hf:aeG K (.ref fI)=B' (.type "function"))(MH:f.slots.Nodup/\f.np<=f.slots.length/\∀n∈f.slots,(n==cV)=false/\(f.scope.names.lookup n=B' .local\/f.scope.names.lookup n=B' .cell))(Ln:∀p∈f.scope.names,p.2≠ .free)(F:∀h,(∀b o,s.heap.get? b=B' o->h.get? b=B' o)->tV W base h fI f o fd)(hd:f.dflt=[])(inv:dl W base T s.heap)(yk:fm W base Y s.heap)(hA:Rm (n+2) A)(NX:f.np=KJ.length+1)(LZ:∀(i:Nat)(v:V),Γ[i]? =B' (.pl v)->∃j y,i=j+1/\KJ[j]? =B' y/\VR W s.heap Y y v)(Sw:∀(i:Nat)(v:V),Γ[i]? ≠B' (.ow v))(hQ:∀x dx env m cm KA KB,IS W base (jp KA.heap dx) (aal f) env (λb=>Y b\/b=dx) Γ m cm T C x dx [] KA KB->(∀n,f.slots[0]? =B' n->vv env m cm n=B' (.ref x))->(∀(i:Nat) n y,f.slots[i+1]? =B' n->KJ[i]? =B' y->vv env m cm n=B' y)->s.heap.get? x=F'->s.heap.get? dx=F'->(∀b o,s.heap.get? b=B' o->KB.heap.get? b=B' o)->(∀b o,s.heap.get? b=B' o->KA.heap.get? b=B' o)->(∃h tk,KB={s with heap:=h,toks:=tk})->∀A' E',Rm n A'->qaa W A' (adJ f.body env) (λfl s'=>(match fl with|.ret v=>v|_=>.none)=.none/\Q (.ref x) s') E' KB):qaa W A (call (.ref C) KJ) Q E s:=by
 obtain⟨hh,g,d,t,os⟩:=s
 refine aec (make_core (makes_of X hm) (looks_findIn X hi) (λself=>bind_fn X self hf) (.inl rfl) ?_)
 have k1:∀b o,hh.get? b=B' o->((hh.push ads).push (adB C hh.objs.size)).get? b=B' o:=λb o e=>aB _ (aB _ e)
 have We:((hh.push ads).push (adB C hh.objs.size)).get? (hh.objs.size+1)=B' (adB C hh.objs.size):=by heap_get
 have T5:((hh.push ads).push (adB C hh.objs.size)).get? hh.objs.size=B' ads:=aB _ (Heap.get?_push_at rfl rfl)
 have No:hh.get? (hh.objs.size+1)=F':=dg (bm _)
 have MS:hh.get? hh.objs.size=F':=aap hh
 have N7:=F _ k1
 have Mq:=inv.keeps k1
 have nmD:¬W.mut hh.objs.size:=λm=>inv.aaz m MS
 have V9:¬W.mut (hh.objs.size+1):=λm=>inv.aaz m No
 have UA:base.get? hh.objs.size=F':=by
  cases z:base.get? hh.objs.size with
  |none=>rfl
  |some o=>have:=inv.good _ _ nmD z;rw[show(Shared.heap ⟨hh,g,d,t,os⟩)=hh from rfl,MS] at this;exact no this
 have nYD:¬Y hh.objs.size:=λz=>by refine x12 (yk.there _ z) λo e O=>?_;rw[show(Shared.heap ⟨hh,g,d,t,os⟩)=hh from rfl,MS] at e;exact no e
 have M9:fm W base (λb=>Y b\/b=hh.objs.size) ((hh.push ads).push (adB C hh.objs.size)):=⟨λb m=>.inl (yk.ym b m),λb yb=>by
   rcases yb with yb|rfl
   .refine x12 (yk.there b yb) λo e c=>?_;exact⟨o,k1 _ _ e,c⟩
   .exact⟨_,T5,.aaE rfl⟩,λb yb m=>by
   rcases yb with yb|rfl
   .exact yk.new b yb m
   .exact UA⟩
 refine x12 (N7.bind (.ref (hh.objs.size+1)::KJ) (by simp [NX]) (by simp [NX])) λds Mm LL=>?_
 have NC:ds=[]:=by
  rw[hd] at Mm;simp at Mm;clear LL;obtain rfl:=cM.aaV Mm;rfl
 clear Mm;subst NC
 refine em (s:=⟨(hh.push ads).push (adB C hh.objs.size),g,d,t,os⟩) MH N7 (RF.keeps k1) (Rm.under hA).room (.ref (hh.objs.size+1)::KJ) [] rfl (LL _ rfl) λKB x E'=>?_
 rw[a0] at x
 have KO:(Value.ref (hh.objs.size+1)::KJ).length=f.np:=by simp [NX]
 have fr:=gJ (s:=⟨(hh.push ads).push (adB C hh.objs.size),g,d,t,os⟩) (h₀:=jp ((hh.push ads).push (adB C hh.objs.size)) hh.objs.size) (Y:=λb=>Y b\/b=hh.objs.size) (Γ:=Γ) (oa:=λO=>0) MH Ln N7 Mq M9 KO (λb o e=>mY e) x (λi v hi=>by
   refine x23 (LZ i v hi) λj y KC hy r=>?_;subst KC
   refine⟨y,by simpa using hy,r.change λb o nb O e=>⟨?_,k1 b o e⟩⟩
   rintro ((q|q)|⟨i',u,q,_⟩)
   .exact nb q
   .rw[q,MS] at e;exact no e
   .exact Sw i' u q) (λi v hi=>absurd hi (Sw i v)) (λi j v u hi=>absurd hi (Sw i v))
 have QN:∀(i:Nat)(nm:O')(y:G'),f.slots[i]? =B' nm->(Value.ref (hh.objs.size+1)::KJ)[i]? =B' y->vv (R' fd ((hh.push ads).push (adB C hh.objs.size)).objs.size fI) (aeh (R' fd ((hh.push ads).push (adB C hh.objs.size)).objs.size fI).kindOf ((f.slots.take f.np).zip (Value.ref (hh.objs.size+1)::KJ)) λO=>F') (aef (R' fd ((hh.push ads).push (adB C hh.objs.size)).objs.size fI).kindOf ((f.slots.take f.np).zip (Value.ref (hh.objs.size+1)::KJ)) λO=>F') nm=B' y:=λi nm y h1 h2=>by
  have hi:i<f.np:=by refine sb (Eq.symm (KO)) ?_;exact(aV.mp h2).1
  exact qI _ _ _ _ _ (MH.1.sublist (List.take_sublist _ _)) i nm y (by(refine sb (List.getElem?_take) ?_;refine sb (aZ hi) ?_);exact h1) h2
 refine bb (hQ (hh.objs.size+1) hh.objs.size _ _ _ ⟨(hh.push ads).push (adB C hh.objs.size),g,d,t,os⟩ KB ⟨fr,Mq.keeps x.toInCall.keep,M9.keeps x.toInCall.keep,⟨0,x.toInCall.keep _ _ We,x.toInCall.keep _ _ T5⟩,⟨.inr rfl,jd _ _,nmD,UA⟩,⟨V9,Nat.succ_ne_self _⟩,x.toInCall.same⟩ (λnm hn=>QN 0 nm _ hn rfl) (λi nm y h1 h2=>QN (i+1) nm y h1 (by simpa using h2)) No MS (λb o e=>x.toInCall.keep b o (k1 b o e)) k1 (by refine d6 x.toInCall.same λh2 t2 e=>?_;exact⟨h2,t2,e⟩) _ E' (Rm.under hA).deeper) (λfl s' q=>q) λO O e=>e
end
set_option backward.match.sparseCases false
noncomputable def fg(h:P')(P:M'->Prop):P':=by
 classical
 exact⟨((List.range h.objs.size).map λa=>if P a then(h.get? a).getD {cls:=.none,data:=.freed} else {cls:=.none,data:=.freed}).toArray,h.life⟩
theorem nq(h:P')(a:M')(o:Obj)(e:h.objs[a]? =B' o):h.get? a=if o.isFreed then F' else B' o:=by
 unfold Heap.get?
 refine sb e ?_
 clear e;obtain⟨c,d,dt,sl⟩:=o
 induction dt using Data.casesOn<;>rfl
theorem uk(h:P')(a:M')(e:h.objs[a]? =F'):h.get? a=F':=by
 unfold Heap.get?;exact sb e rfl
theorem AC{o:Obj}(e:h.get? a=B' o):o.isFreed=false/\a<h.objs.size:=by
 have Ly:a<h.objs.size:=aY e
 refine⟨?_,Ly⟩
 rw[nq h a _ (Array.getElem?_eq_getElem Ly)] at e
 split at e
 .exact no e
 .rename_i q;obtain rfl:=ac e;simpa using q
theorem dP(h:P')(P:M'->Prop)(a:M'):(P a->(fg h P).get? a=h.get? a)/\(¬P a->(fg h P).get? a=F'):=by
 classical
 by_cases Ly:a<h.objs.size
 .have e:(fg h P).objs[a]? =B' (if P a then(h.get? a).getD {cls:=.none,data:=.freed} else {cls:=.none,data:=.freed}):=by
   unfold fg;simp only[List.getElem?_toArray,bZ,List.getElem?_range Ly,Option.map_some]
  refine sb (nq _ _ _ e) ?_;constructor
  .intro p;simp only[p,bJ];cases q:h.get? a with
   |none=>simp [Obj.isFreed]
   |some o=>simp [(AC q).1]
  .intro p;simp [p,Obj.isFreed]
 .have e:(fg h P).objs[a]? =F':=by
   unfold fg;simp only[List.getElem?_toArray,bZ];rw[List.getElem?_eq_none (by simpa using Ly)];rfl
  have e':h.get? a=F':=by
   cases q:h.get? a with
   |none=>rfl
   |some o=>exact absurd (aY q) Ly
  (refine sb (uk _ _ e) ?_;refine sb e' ?_);exact⟨λO=>rfl,λO=>rfl⟩
theorem gM{P:M'->Prop}{o:Obj}(e:(fg h P).get? a=B' o):P a/\h.get? a=B' o:=by
 by_cases p:P a
 .rw[(dP h P a).1 p] at e;exact⟨p,e⟩
 .rw[(dP h P a).2 p] at e;exact no e
variable {hs:P'}{Yh:M'->Prop}
section
variable {W:Wd}{B:Bs}{base:P'}{R:Rc}{KE:H'}{h₀:P'}
inductive AR (W:Wd) (h:P') (Yh:M'->Prop) (hs:P') (dx:M'):List (O'×Tok×G')->List (O'×V×Bool)->List M'->Prop
 |nil:AR W h Yh hs dx [] [] []
 |sc {l vs as nm t y v}:AR W h Yh hs dx l vs as->VR W h Yh y v->AR W h Yh hs dx (l++[(nm,t,y)]) (vs++[(nm,v,false)]) as
 |dp {l vs as nm t a v}:AR W h Yh hs dx l vs as->cU W h (λb=>Yh b\/b=a) a v->a∉as->hs.get? a=F'->a≠dx->¬W.mut a->AR W h Yh hs dx (l++[(nm,t,.ref a)]) (vs++[(nm,v,true)]) (as++[a])
theorem AR.keep{dx:M'}{l vs as}(r:AR W h Yh hs dx l vs as)(k:kN Yh h h')(ka:∀a o,a≠dx->¬W.mut a->h.get? a=B' o->h'.get? a=B' o):AR W h' Yh hs dx l vs as:=by
 induction r with
 |nil=>exact .nil
 |sc _ q ih=>exact .sc ih (q.keep k)
 |dp _ q a1 a2 a3 a4 ih=>exact .dp ih (q.keep (λb o nb d e=>k b o (λz=>nb (.inl z)) d e) λob z=>ka _ _ a3 a4 z) a1 a2 a3 a4
theorem AR.names{l vs as}(r:AR W h Yh hs dx l vs as):l.map (·.1)=vs.map (·.1):=by
 induction r with
 |nil=>rfl
 |sc _ _ ih=>simp [ih]
 |dp _ _ _ _ _ _ ih=>simp [ih]
theorem AR.there{l vs as}(r:AR W h Yh hs dx l vs as):∀a∈as,∃o,h.get? a=B' o:=by
 induction r with
 |nil=>intro a ha;cases ha
 |sc _ _ ih=>exact ih
 |dp _ q _ _ _ _ ih=>
  intro a ha;rcases bf.mp ha with ha|ha
  .exact ih a ha
  .rw[am.mp ha];refine x12 q.nt λo e O=>?_;exact⟨o,e⟩
theorem putL_new:∀{l:List (O'×Tok×G')}{nm:O'}{t:Tok}{y:G'},nm∉l.map (·.1)->jq l nm t y=l++[(nm,t,y)]
 |[],_,_,_,_=>rfl
 |p::l,nm,t,y,h=>by
  simp only[aC,aD,not_or] at h;simp only[jW,jX];(refine sb (aL (λq=>h.1 q.symm)) ?_;refine sb (putL_new h.2) ?_);rfl
noncomputable def lR(ev:TS->Expr->cK)(self:O'):TS->List adb->Option (List (O'×V×Bool)×TS)
 |T,[]=>B' ([],T)
 |T,s::r=>C' (xC s) λq=>C' (xD q.1) λt=>C' (xB t) λo=>C' (tQ o.1) λx=>bif x.1==self&&fO q.2.1 then C' (ev T q.2.1) λp=>(lR ev self p.2 r).map λz=>((o.2.1,p.1,iW q.2.1)::z.1,z.2) else F'
theorem abw{ev:TS->Expr->cK}{st:adb}{ss:List adb}{ws:List (O'×V×Bool)}{P:Prop}(h:lR ev self T (st::ss)=B' (ws,T'))(k:∀q1 nm q2 e q3 p w,st=.Assign [.Attribute (.Name self q1) nm q2] e q3->fO e=true->ev T e=B' p->lR ev self p.2 ss=B' w->ws=(nm,p.1,iW e)::w.1->T'=w.2->P):P:=by
 refine aac h λq hq h=>aac h λt ht h=>aac h λo ho h=>aac h λx hx h=>aaU h λhb h=>aac h λp hp h=>?_
 obtain⟨w,hw,e'⟩:=aK.mp h
 exact k x.2 o.2.1 o.2.2 q.2.1 q.2.2 p w (by rw[mI hq,mJ ht,rQ ho,lL hx,ba (aag hb).1]) (aag hb).2 hp hw (be e').1.symm (be e').2.symm
theorem IS.run{K:adV}{C x dx:M'}{self:O'}{Q:Flow->H'->Prop}{KJ:List adb}(S:dX W base n R.ev)(D:lP W base n R.ev)(hA:Rm n A)(UQ:∀b,Yh b↔Yf env Y Γ (λO=>0) b)(X:∀s',(∃h tk,s'={KE with heap:=h,toks:=tk})->(∀b o,h₀.get? b=B' o->¬W.mut b->s'.heap.get? b=B' o)->K.In s'.heap)(hv:cZ sc self=true)(hd:(self==cV)=false/\(self==f4)=false)(LU:vv env m cm self=B' (.ref x))(ss:List adb):∀{l vs as ws T T' s},IS W base h₀ sc env Y Γ m cm T C x dx l KE s->AR W s.heap Yh hs dx l vs as->(∀b o,hs.get? b=B' o->b≠dx->¬W.mut b->s.heap.get? b=B' o)->lR (R.ev sc Γ) self T ss=B' (ws,T')->gw (vs.map (·.1)++ws.map (·.1))=true->ws.all (λp=>fU K C p.1)=true->vs.length+ws.length<=1000->(∀l' M5 s',IS W base h₀ sc env Y Γ m cm T' C x dx l' KE s'->AR W s'.heap Yh hs dx l' (vs++ws) M5->(∀b o,hs.get? b=B' o->b≠dx->¬W.mut b->s'.heap.get? b=B' o)->qaa W A (adJ KJ env) Q E s')->qaa W A (adJ (ss++KJ) env) Q E s:=by
 induction ss with
 |nil=>
  intro l vs as ws T T' s J r ks hi hn hc hz q;have hi:=be (ac hi);rw[<- hi.1,<- hi.2,a0] at q;exact q l as s J r ks
 |cons st ss ih=>
  intro l vs as ws T T' s J r ks hi hn hc hz q
  .refine abw hi λp1 nm p2 e p3 p w e1 hg hp hw e2 e3=>?_;clear hi;subst e1 e2 e3;simp only[List.all_cons,aq] at hc;have KO:=aM List.length r.names;simp only[ae] at KO;simp only[List.length_cons] at hz;have RW:nm∉l.map (·.1):=by
    rw[r.names];intro hm;have:=(cn.mp (je hn)).2.2;exact this nm hm nm (by simp) rfl
   have X':∀s',Ev W s s'->K.In s'.heap:=λs' e=>X s' (by
    refine hide λQz qz=>?_
    refine d6 J.same λh1 t1 a=>?_
    refine iP e λh2 t2 b O=>?_
    refine qz ?_
    clear Qz qz
    exact⟨h2,t2,by rw[b,a]⟩) λb o z nm=>e.keep b o nm (J.fr.old b o nm z)
   have M8:∀b,W.mut b->Yh b:=λb mb=>(UQ b).mpr (kZ J.y.ym mb);have PF:Yh dx:=(UQ dx).mpr (.inl J.hid.1);have next:∀(y:G')(KA s':H')(t:Tok)(M5:List M'),IS W base h₀ sc env Y Γ m cm p.2 C x dx (jq l nm t y) KE s'->AR W s'.heap Yh hs dx (l++[(nm,t,y)]) (vs++[(nm,p.1,iW e)]) M5->(∀b o,hs.get? b=B' o->b≠dx->¬W.mut b->s'.heap.get? b=B' o)->qaa W A (adJ (ss++KJ) env) Q E s':=by
    intro y KA s' t M5 J' r' ZF;rw[putL_new RW] at J';refine ih J' r' ZF hw ?_ hc.2 (by simp;exact O36 hz) λl' Wq MV Zv Zo Vh=>q l' Wq MV Zv (by simpa using Zo) Vh;simpa using hn
   have Xq:∀KA,Ev W s KA->kN Yh s.heap KA.heap:=λKA e=>e.kpD M8;have XV:∀(KA s':H'),(∀b o,b≠dx->KA.heap.get? b=B' o->s'.heap.get? b=B' o)->kN Yh KA.heap s'.heap:=λKA s' k b o nb O e=>k b o (λz=>nb (z▸PF)) e;show V' _ A (adJ (_::(ss++KJ)) env) Q E s;refine bR ?_;refine aaw (b:=iW e) (λPN=>?_) λPN=>?_
   .
    rw[PN] at next
    refine J.assign S hA X' hc.1 (by exact HZ hz KO rfl) LU hv hd (v:=p.1) (T':=p.2) hp hg λy KA s' t KF ry J' kp=>?_;refine next y KA s' t as J' ((.sc (r.keep (Xq _ KF) λa o O nm z=>KF.keep _ _ nm z) (ry.weaken λb hb=>(UQ b).mp hb):AR W KA.heap Yh hs dx _ _ _).keep (XV _ _ kp) λa o ne O z=>kp a o ne z) λb o z nd nm=>kp b o nd (KF.keep b o nm (ks b o z nd nm))
   .
    rw[PN] at next
    refine J.abY D hA X' hc.1 (by exact HZ hz KO rfl) LU hv hd (v:=p.1) (T':=p.2) hp PN λa KA s' t KF ha ow J' kp=>?_;have W4:¬W.mut a:=λz=>J.inv.aaz z ha;have Yb:a≠dx:=λz=>by refine x11 J.own λnn own=>?_;(replace ha:=z▸ha;replace ha:=own.dict▸ha);cases ha
    have ZD:a∉as:=λz=>by refine x11 (r.there a z) λo e=>?_;rw[ha] at e;cases e
    have YV:hs.get? a=F':=by
     cases z:hs.get? a with
     |none=>rfl
     |some o=>have:=ks a o z Yb W4;rw[ha] at this;cases this
    refine next (.ref a) KA s' t (as++[a]) J' ((.dp (r.keep (Xq _ KF) λa o O nm z=>KF.keep _ _ nm z) (cW (λb hb=>hb.elim (λz=>.inl ((UQ b).mp z)) .inr) ow) ZD YV Yb W4:AR W KA.heap Yh hs dx _ _ _).keep (XV _ _ kp) λa o ne O z=>kp a o ne z) λb o z nd nm=>kp b o nd (KF.keep b o nm (ks b o z nd nm))
end
noncomputable def fnAt(a:M'):Fn:=(BS.fn a).getD ⟨pw.main.scope,[],0,[],[]⟩
noncomputable def qL:TS:=⟨[],[],[],[],[]⟩
noncomputable def pI:List V:=match jD ⟨#[70,73,82,83,84,95,82,79,87,83]⟩ gT with
 |some (.val (.tup l))=>l
 |_=>[]
noncomputable def fx:Nat->List V->List (V×Int)
 |_,[]=>[]
 |n,r::l=>(r,(n:Int))::fx (n+1) l
noncomputable def T0:TS:=⟨pI,fx 0 pI,[],[],[]⟩
noncomputable def R0:Rc:=rc (gZ 0) (λO O O=>F') (λO O O=>F') 10
noncomputable def RB(lv n:Nat):Rc:=rc (gZ lv) (Em (gZ lv) n) (lW (gZ lv) n) 30
noncomputable def gb:=S "self"
noncomputable def BW:List (O'×V×Bool):=[(jy,.lst [],true),(gr,.di [],true),(eK,.lst [.none],true),(fj,.lst [],true),(dE,.lst [],true),(gt,.lst [],true),(Str.ofString "origins",.di [],true),(Str.ofString "renamed",.di [],true),(Str.ofString "shaping",.int 0,false)]
theorem Ha:BS.fn 123=B' (fnAt 123):=by kernel_rfl
theorem AD:(fnAt 123).np=1:=by kernel_rfl
theorem AE:(fnAt 123).dflt=[]:=by kernel_rfl
theorem AF:(fnAt 123).slots=[gb,Str.ofString "row"]:=by kernel_rfl
theorem yx:cZ (aal (fnAt 123)) gb=true:=by kernel_rfl
theorem wN:lR (R0.ev (aal (fnAt 123)) []) gb qL ((fnAt 123).body.take 9)=B' (BW,qL):=by kernel_rfl
theorem wP:(RB 1 20).xs (aal (fnAt 123)) [.pl .tab,.un] qL ((fnAt 123).body.drop 9) (λO T=>B' (.none,T))=B' (.none,T0):=by kernel_rfl
theorem Di(P:N'):BW.all (λp=>fU (K1 P) 140 p.1)=true:=by kernel_rfl
theorem AG(P:N'):adI (K1 P) (.ref 140) "__init__"=B' (B' (.ref 123)):=by kernel_rfl
theorem AH(P:N'):aeG (K1 P) (.ref 123)=B' (.type "function"):=by kernel_rfl
noncomputable def Wz(w:U'):Wd:={prog:=pw,w:=w,aas:=0,aaL:=0,aaQ:=0,aa2:=2,aab:=0,aaR:=λO=>0,aaC:=0,aaI:=0,aax:=0,aao:=0,na:=0,live:=False}
theorem fV{w:U'}:¬(Wz w).mut a:=by
 rintro (⟨h,_⟩|⟨h,_⟩|⟨k,h,_⟩)
 .exact h
 .exact h
 .exact absurd h (Nat.not_lt_zero k)
theorem acq(w:U'):jo (Wz w):=⟨by show(0:Nat)≠2;decide,λk h=>absurd h (Nat.not_lt_zero k),λk h=>absurd h (Nat.not_lt_zero k),λj k h=>absurd h (Nat.not_lt_zero j),rfl⟩
theorem yy{w:U'}{base:P'}(g:∀b o,base.get? b=B' o->h.get? b=B' o):dl (Wz w) base T h:=⟨λb o O e=>g b o e,λh=>h.elim,λh=>h.elim,λk h=>absurd h (Nat.not_lt_zero k)⟩
theorem Dj(w:U'):fK (Wz w) (gZ 0) (H1 w.params):=yu (acq w) rfl (yv 0 (eQ w.params) λO O=>fV) (λh=>absurd rfl h) (λh=>by cases h) (λO O=>rfl) (λO O=>rfl)
theorem BX(w:U')(n:Nat):C3 (Wz w) (gZ 0) (H1 w.params) n R0:=pA (Dj w) jU (λO O O O h=>by exact no h) jV (λO O O O h=>by exact no h) 10
theorem vn{W:Wd}{base:P'}(Z:fK W (gZ lv) base)(n:Nat):C3 W (gZ lv) base n (RB lv n):=pA Z (C8 Z n) (λO O O O=>sC) (vg Z) (λO O O O=>pB) 30
theorem AI{W:Wd}{base:P'}(X:(K1 W.w.params).In base)(nm:∀a∈as1,¬W.mut a){a:M'}{f:Fn}(hf:BS.fn a=B' f):(f.slots.Nodup/\f.np<=f.slots.length/\∀n∈f.slots,(n==cV)=false/\(f.scope.names.lookup n=B' .local\/f.scope.names.lookup n=B' .cell))/\(∀p∈f.scope.names,p.2≠ .free)/\∃o fd,∀h,kW W base h->tV W base h a f o fd:=by
 have t:=yv (W:=W) 1 X nm
 refine hide λQz qz=>?_
 refine kQ (t.fn a f hf) λfd e1 e2 e3=>?_
 refine qz ?_
 exact vk X t.nm e1 e2 e3
theorem qM{P:N'}(g:∀b o,(H1 P).get? b=B' o->h.get? b=B' o):h.NoLimit:=by
 have X:(K1 P).In h:=(eQ P).keeps g
 have:=Fi P
 simp only[aq] at this
 obtain⟨n1,n2⟩:=this
 have n2':nsIn (K1 P) aeB "sys.recursionlimit"=B' F':=by
  exact mz n2
 exact⟨_,Heap.Ns.of_isNs (aew X n1),ns_none_of X (Heap.Ns.of_isNs (aew X n1)) n2'⟩
theorem nr{P:N'}{a:M'}(h:a∈as1):∃o,(H1 P).get? a=B' o:=cj.mp (aE.mp (BV P) a h)
variable {as:List M'}{nm:O'}
section
variable {W:Wd}
theorem AR.last{l:List (O'×Tok×G')}{vs:List (O'×V×Bool)}{p:O'×V×Bool}(r:AR W h Yh hs dx l (vs++[p]) as):(p.2.2=false/\∃l' t y,l=l'++[(p.1,t,y)]/\VR W h Yh y p.2.1/\AR W h Yh hs dx l' vs as)\/(p.2.2=true/\∃l' t a M5,l=l'++[(p.1,t,.ref a)]/\as=M5++[a]/\cU W h (λb=>Yh b\/b=a) a p.2.1/\a∉M5/\hs.get? a=F'/\a≠dx/\¬W.mut a/\AR W h Yh hs dx l' vs M5):=by
 generalize hv:vs++[p]=vs' at r
 induction r using AR.casesOn with
 |nil=>simp at hv
 |sc r q=>
  obtain⟨rfl,e⟩:=List.append_inj' hv rfl;clear hv;cases e;exact .inl ⟨rfl,_,_,_,rfl,q,r⟩
 |dp r q a1 a2 a3 a4=>
  obtain⟨rfl,e⟩:=List.append_inj' hv rfl;clear hv;cases e;exact .inr ⟨rfl,_,_,_,_,rfl,rfl,q,a1,a2,a3,a4,r⟩
theorem AR.acr{l:List (O'×Tok×G')}{vs:List (O'×V×Bool)}{v:V}(r:AR W h Yh hs dx l (vs++[(nm,v,true)]) as):∃l' t a M5,l=l'++[(nm,t,.ref a)]/\as=M5++[a]/\cU W h (λb=>Yh b\/b=a) a v/\a∉M5/\hs.get? a=F'/\a≠dx/\¬W.mut a/\AR W h Yh hs dx l' vs M5:=by
 rcases r.last with⟨q,_⟩|⟨_,q⟩
 .cases q
 .exact q
theorem AR.acs{l:List (O'×Tok×G')}{vs:List (O'×V×Bool)}{v:V}(r:AR W h Yh hs dx l (vs++[(nm,v,false)]) as):∃l' t y,l=l'++[(nm,t,y)]/\VR W h Yh y v/\AR W h Yh hs dx l' vs as:=by
 rcases r.last with⟨_,q⟩|⟨q,_⟩
 .exact q
 .exact nb q
theorem AR.acu{l:List (O'×Tok×G')}(r:AR W h Yh hs dx l [] as):l=[]/\as=[]:=by
 generalize hv:([]:List (O'×V×Bool))=vs at r
 induction r using AR.casesOn with
 |nil=>exact⟨rfl,rfl⟩
 |sc r q=>simp at hv
 |dp r q=>simp at hv
end
theorem Rm.mono{m:Nat}(h:Rm n A)(hm:m<=n):Rm m A:=⟨h.handled,by have:=h.depth;exact Es hm this,by have:=h.units;exact IQ hm this⟩
theorem mA{W:Wd}(o:cU W h Y a (.lst [])):∃n,h.get? a=B' (eB [] n):=by
 obtain⟨⟨xs,⟨n,e⟩,r⟩,_⟩:=o;obtain rfl:=cM.aaV r;exact⟨n,e⟩
theorem Dk{W W':Wd}{h:P'}{Y:M'->Prop}{a:M'}(o:cU W h Y a (.di [])):h.DictOfH (eO W') a []/\(a==adf)=false:=by
 refine hide λQz qz=>?_
 obtain⟨⟨es,g,r⟩,_,sy⟩:=o
 refine qz ?_
 cases r
 refine hide λQz qz=>?_
 refine Gf g λo es ep h1 h2 h3 h4 h5 h6=>?_
 have e:es.toList=[]:=by cases hh:es.toList with|nil=>rfl|cons _ _=>replace h5:=hh▸h5;cases h5
 refine qz ?_
 exact⟨(zJ o es ep h1 h2 h3 (by refine sb e ?_;rfl) ((λx hx=>nomatch hx)) List.nodup_nil),sy⟩
noncomputable def WT(w:U')(x dx a1 a2 a3 a4 a5 a6:M'):Wd:={prog:=pw,w:=w,aas:=x,aaL:=dx,aaQ:=a1,aa2:=a2,aab:=a3,aaR:=λk=>if k=0 then a4 else if k=1 then a5 else a6,aaC:=0,aaI:=0,aax:=0,aao:=0,na:=3,live:=True}
structure TW (w:U') (h hs:P') (x dx a3:M') (l:List (O'×Tok×G')) (W:Wd):Prop where
 prog:W.prog=pw
 ww:W.w=w
 tab:W.aas=x
 aaL:W.aaL=dx
 decl:W.aab=a3
 n3:hs.get? a3=F'
 d3:a3≠dx
 l3:∃n,h.get? a3=B' (eB [.none] n)
 m3:¬W.mut a3
 new:∀b,W.mut b->hs.get? b=F'
 ok:jo W
 inv:∀base:P',(∀b o,base.get? b=B' o->h.get? b=B' o)->dl W base qL h
 lay:∀(base:P') n,cO base x dx 140 (dO w.params l n)->¬W.mut x->¬W.mut dx->im W base
theorem Dl{w:U'}{x a1 a2 a3 a4 a5 a6 b:M'}(m:(WT w x dx a1 a2 a3 a4 a5 a6).mut b):b=a1\/b=a2\/b=a4\/b=a5\/b=a6:=by
 rcases m with⟨_,q⟩|⟨_,q⟩|⟨k,hk,q⟩
 .exact .inl q
 .exact .inr (.inl q)
 .rcases k with _|_|k
  .exact .inr (.inr (.inl q))
  .exact .inr (.inr (.inr (.inl q)))
  .exact .inr (.inr (.inr (.inr q)))
theorem Fk{P:Nat->Prop}(h0:P 0)(h1:P 1)(h2:P 2)(k:Nat)(hk:k<3):P k:=match k,hk with
 |0,_=>h0
 |1,_=>h1
 |2,_=>h2
theorem AR.acD{W:Wd}{l:List (O'×Tok×G')}{vs:List (O'×V×Bool)}{v:V}{P:Prop}(r:AR W h Yh hs dx l (vs++[(nm,v,false)]) as)(k:∀l' t y,l=l'++[(nm,t,y)]->AR W h Yh hs dx l' vs as->P):P:=by
 refine x33 r.acs λl' t y e O r=>?_;exact k l' t y e r
theorem AR.cutD{W:Wd}{l:List (O'×Tok×G')}{vs:List (O'×V×Bool)}{v:V}{P:Prop}(r:AR W h Yh hs dx l (vs++[(nm,v,true)]) as)(k:∀l' t a M5,l=l'++[(nm,t,.ref a)]->as=M5++[a]->cU W h (λb=>Yh b\/b=a) a v->AR W h Yh hs dx l' vs M5->P):P:=by
 refine Gg r.acr λl' t a M5 e e' o O O O O r=>?_;exact k l' t a M5 e e' o r
theorem AR.all{W:Wd}{l:List (O'×Tok×G')}{vs:List (O'×V×Bool)}(r:AR W h Yh hs dx l vs as):as.Nodup/\∀a∈as,hs.get? a=F'/\a≠dx:=by
 induction r with
 |nil=>exact⟨.nil,λa m=>absurd m List.not_mem_nil⟩
 |sc r q ih=>exact ih
 |dp r q a1 a2 a3 a4 ih=>exact⟨cn.mpr ⟨ih.1,by simp,λx hx y hy e=>a1 (am.mp hy▸e▸hx)⟩,λx hx=>(bf.mp hx).elim (ih.2 x) λhx=>am.mp hx▸⟨a2,a3⟩⟩
theorem yz{w:U'}{h hs:P'}{x dx:M'}{Yh:M'->Prop}{l:List (O'×Tok×G')}{as:List M'}(r:AR (Wz w) h Yh hs dx l (((((((((([]:List (O'×V×Bool))++[(jy,.lst [],true)])++[(gr,.di [],true)])++[(eK,.lst [.none],true)])++[(fj,.lst [],true)])++[(dE,.lst [],true)])++[(gt,.lst [],true)])++[(Str.ofString "origins",.di [],true)])++[(Str.ofString "renamed",.di [],true)])++[(Str.ofString "shaping",.int 0,false)]) as):∃a3 W,TW w h hs x dx a3 l W:=by
 have all:=r.all
 refine r.acD λl9 t9 y9 h9 r=>r.cutD λl8 t8 a8 s8 h8 k8 O r=>r.cutD λl7 t7 a7 s7 h7 k7 O r=>r.cutD λl6 t6 a6 s6 h6 k6 o6 r=>r.cutD λl5 t5 a5 s5 h5 k5 o5 r=>r.cutD λl4 t4 a4 s4 h4 k4 o4 r=>r.cutD λl3 t3 a3 s3 h3 k3 o3 r=>r.cutD λl2 t2 a2 s2 h2 k2 o2 r=>r.cutD λl1 t1 a1 s1 h1 k1 o1 r=>?_
 have hl:l=((((((((([]++[(jy,t1,.ref a1)])++[(gr,t2,.ref a2)])++[(eK,t3,.ref a3)])++[(fj,t4,.ref a4)])++[(dE,t5,.ref a5)])++[(gt,t6,.ref a6)])++[(Str.ofString "origins",t7,.ref a7)])++[(Str.ofString "renamed",t8,.ref a8)])++[(Str.ofString "shaping",t9,y9)]):=by
  rw[h9,h8,h7,h6,h5,h4,h3,h2,h1,r.acu.1]
 have ha:as=[a1,a2,a3,a4,a5,a6,a7,a8]:=by rw[k8,k7,k6,k5,k4,k3,k2,k1,r.acu.2];rfl
 replace all:=ha▸all
 clear r h9 h8 h7 h6 h5 h4 h3 h2 h1 k8 k7 k6 k5 k4 k3 k2 k1 ha
 have ne:∀i j (hi:i<8)(hj:j<8),[a1,a2,a3,a4,a5,a6,a7,a8][i]=[a1,a2,a3,a4,a5,a6,a7,a8][j]->i=j:=λi j hi hj e=>(List.getElem_inj all.1 (h₀:=hi) (h₁:=hj)).mp e
 have lt:∀k,k<3->k+3<8:=λk hk=>Nat.add_lt_add_right (bX hk (by decide:3<=5)) 3
 have ax:∀k (hk:k<3),(WT w x dx a1 a2 a3 a4 a5 a6).aaR k=[a1,a2,a3,a4,a5,a6,a7,a8][k+3]'(lt k hk):=λk hk=>Fk (P:=λk=>∀hk:k<3,(WT w x dx a1 a2 a3 a4 a5 a6).aaR k=[a1,a2,a3,a4,a5,a6,a7,a8][k+3]'(lt k hk)) (λO=>rfl) (λO=>rfl) (λO=>rfl) k hk hk
 have mt:∀b,(WT w x dx a1 a2 a3 a4 a5 a6).mut b->∃j,∃hj:j<8,j≠2/\b=[a1,a2,a3,a4,a5,a6,a7,a8][j]:=λb m=>(Dl m).elim (λq=>⟨0,by decide,by decide,q⟩) λm=>m.elim (λq=>⟨1,by decide,by decide,q⟩) λm=>m.elim (λq=>⟨3,by decide,by decide,q⟩) λm=>m.elim (λq=>⟨4,by decide,by decide,q⟩) λq=>⟨5,by decide,by decide,q⟩
 have f3:=all.2 a3 (.tail _ (.tail _ (.head _)))
 have e3:=f3.1
 have d3:=f3.2
 refine hide λQz qz=>?_
 obtain⟨c1,hc1⟩:=mA o1
 obtain⟨c4,ZQ⟩:=mA o4
 obtain⟨c5,Z5⟩:=mA o5
 obtain⟨c6,Z0⟩:=mA o6
 have c2:=Dk (W':=WT w x dx a1 a2 a3 a4 a5 a6) o2
 refine qz ?_
 clear o1 o2 o4 o5 o6
 refine⟨a3,WT w x dx a1 a2 a3 a4 a5 a6,rfl,rfl,rfl,rfl,rfl,e3,d3,?_,λm=>(mt _ m).elim λj q=>q.elim λhj q=>q.1 (ne j 2 hj (by decide) q.2.symm),λb m=>(mt _ m).elim λj q=>q.elim λhj q=>q.2▸(all.2 _ (List.getElem_mem hj)).1,⟨λq=>absurd (ne 0 1 (by decide) (by decide) q) (by decide),λk hk q=>absurd (ne 0 (k+3) (by decide) (lt k hk) (Eq.trans q (ax k hk))) (Nat.succ_ne_zero _).symm,λk hk q=>absurd (ne 1 (k+3) (by decide) (lt k hk) (Eq.trans q (ax k hk))) Jx,λj k hj hk q=>Nat.add_right_cancel (ne (j+3) (k+3) (lt j hj) (lt k hk) ((ax j hj).symm.trans (Eq.trans q (ax k hk)))),c2.2⟩,λbase sub=>⟨λb o O e=>sub b o e,λO=>(fy ([]) c1 hc1 (.nil) (by simp [qL]) (by simp [qL])),λO=>⟨[],c2.1,.nil⟩,Fk (tO ([]) c4 ([]) ZQ rfl (.nil) (by simp) (by simp)) (tO ([]) c5 ([]) Z5 rfl (.nil) (by simp) (by simp)) (tO ([]) c6 ([]) Z0 rfl (.nil) (by simp) (by simp))⟩,λbase n o nx nd=>⟨(JW _ (hl▸o) ?_ ?_ ?_ ?_ ?_ ?_ ?_),rfl,ao,nx,nd⟩⟩
 .obtain⟨⟨xs,⟨n,e⟩,r⟩,_⟩:=o3;refine x23 (cM.aaX r) λx ys KC p q=>?_;subst KC;obtain rfl:=cM.aaV q;obtain rfl:x=_:=VR.view p;exact⟨n,e⟩
 all_goals (rw[fL];rfl)
structure Fl (w:U') (s s':H') (v:G') (W:Wd) (base:P'):Prop where
 prog:W.prog=pw
 ww:W.w=w
 val:v=.ref W.aas
 wd:jo W
 inv:dl W base T0 s'.heap
 lay:im W base
 decls:∃n,s'.heap.get? W.aab=B' (eB [.none] n)
 old:∀b o,s.heap.get? b=B' o->s'.heap.get? b=B' o
 new:s.heap.get? W.aas=F'/\s.heap.get? W.aaL=F'/\s.heap.get? W.aab=F'/\∀a,W.mut a->s.heap.get? a=F'
 apart:W.aas≠W.aaL/\W.aab≠W.aas/\W.aab≠W.aaL/\¬W.mut W.aab
 same:∃h tk,s'={s with heap:=h,toks:=tk}
 abc:∀b o,base.get? b=B' o->(∃o',(H1 w.params).get? b=B' o')\/b=W.aas\/b=W.aaL\/b=W.aab
 X:(K1 w.params).In base
theorem ul{w:U'}{n:Nat}{A:ada}{E:qab}{s:H'}{Q:qab}(hA:Rm 25 A)(g:∀b o,(H1 w.params).get? b=B' o->s.heap.get? b=B' o)(hQ:∀v s' W base,Fl w s s' v W base->Q v s'):V' (ade pw w) A (call (.ref 140) []) Q E s:=by
 have X:(K1 w.params).In s.heap:=(eQ w.params).keeps g
 have Qr:=De w.params
 simp only[aq] at Qr
 obtain⟨MH,Ln,o,fd,F⟩:=AI (W:=Wz w) (eQ w.params) (λO O=>fV) Ha
 have Rt:=AF
 refine pH (W:=Wz w) (base:=H1 w.params) (T:=qL) (Y:=λO=>False) (Γ:=[]) (n:=22) (qM g) X Qr.1.1 (AG _) (AH _) MH Ln (λh k=>F h λb o O e=>k b o (g b o e)) AE (yy g) ⟨λb m=>fV m,λb f=>f.elim,λb f=>f.elim⟩ (by exact⟨hA.handled,by have:=hA.depth;exact F8 this,by have:=hA.units;exact Cq this rfl⟩) (by rw[AD];rfl) (λi v h=>by simp at h) (λi v h=>by simp at h) λx dx env m cm KA KB J LU RV hx PF k2 k1 same A' E' UD=>?_
 have hR:=BX w 22
 have ON:=LU gb (by rw[Rt];rfl)
 have OZ:(fnAt 123).body=(fnAt 123).body.take 9++(fnAt 123).body.drop 9:=(List.take_append_drop 9 _).symm
 rw[OZ]
 have Vg:x≠dx:=J.xm.2
 have Mc:∀b o,s.heap.get? b=B' o->(jp KA.heap dx).get? b=B' o:=λb o e=>by rw[fS (λq=>by rw[q,PF] at e;exact no e)];exact k1 b o e
 refine IS.run (hs:=KB.heap) (K:=K1 w.params) (Yh:=Yf env (λb=>False\/b=dx) [] λO=>0) hR.ev hR.acg UD (λb=>Iff.rfl) (λs' O k=>(eQ w.params).keeps λb o e=>k b o (Mc b o (g b o e)) fV) yx ⟨by decide,by decide⟩ ON ((fnAt 123).body.take 9) J .nil (λb o e O O=>e) wN (by decide) (Di _) (by decide) λl as KH Ll Lh Po=>?_
 have QW:AR (Wz w) KH.heap (Yf env (λb=>False\/b=dx) [] λO=>0) KB.heap dx l (((((((((([]:List (O'×V×Bool))++[(jy,.lst [],true)])++[(gr,.di [],true)])++[(eK,.lst [.none],true)])++[(fj,.lst [],true)])++[(dE,.lst [],true)])++[(gt,.lst [],true)])++[(Str.ofString "origins",.di [],true)])++[(Str.ofString "renamed",.di [],true)])++[(Str.ofString "shaping",.int 0,false)]) as:=Lh
 clear Lh
 refine d6 (yz (x:=x) QW) λa3 W z=>?_
 clear QW
 have Ri:∀b o,s.heap.get? b=B' o->KH.heap.get? b=B' o:=λb o e=>Ll.fr.old b o fV (Mc b o e)
 have MA:∀b,KB.heap.get? b=F'->s.heap.get? b=F':=λb e=>by
  cases z:s.heap.get? b with
  |none=>rfl
  |some o=>have:=k2 b o z;rw[e] at this;exact no this
 have Pp:∀b,s.heap.get? b=F'->(H1 w.params).get? b=F':=λb e=>by
  cases z:(H1 w.params).get? b with
  |none=>rfl
  |some o=>have:=g b o z;rw[e] at this;exact no this
 refine x11 J.own λQe Mr=>?_
 refine x11 Ll.own λLY LB=>?_
 have L2:∃o,KB.heap.get? env.locals=B' o/\∃es ep,o.data=.dict es ep:=by refine x33 J.fr.ns λo es ep ho hd O=>?_;exact⟨o,ho,es,ep,hd⟩
 have C2:∀nm c,env.cells.lookup nm=B' c->∃o,KB.heap.get? c=B' o/\∃v,o.data=.cell v:=λnm c hc=>by refine x12 (J.fr.cell nm c hc) λo ho hd=>?_;exact⟨o,ho,_,hd⟩
 have Yv:∀b,KB.heap.get? b=F'->b≠x:=λb e q=>by(replace e:=q▸e;replace e:=Mr.at_▸e);cases e
 have x3:=Yv a3 z.n3
 have P6:=z.new
 have WU:=z.ok
 have hb:∀b,(fg KH.heap λb=>(H1 w.params).get? b≠F'\/b=x\/b=dx\/b=a3).get? b=F'\/((H1 w.params).get? b≠F'\/b=x\/b=dx\/b=a3):=λb=>by
  by_cases q:(H1 w.params).get? b≠F'\/b=x\/b=dx\/b=a3
  .exact .inr q
  .exact .inl ((dP _ _ b).2 q)
 have SW:∀b o,((H1 w.params).get? b≠F'\/b=x\/b=dx\/b=a3)->KH.heap.get? b=B' o->(fg KH.heap λb=>(H1 w.params).get? b≠F'\/b=x\/b=dx\/b=a3).get? b=B' o:=λb o q e=>by rw[(dP _ (λb=>(H1 w.params).get? b≠F'\/b=x\/b=dx\/b=a3) b).1 q];exact e
 have Tl:∀b o,(fg KH.heap λb=>(H1 w.params).get? b≠F'\/b=x\/b=dx\/b=a3).get? b=B' o->KH.heap.get? b=B' o:=λb o e=>(gM e).2
 generalize Lu:(fg KH.heap λb=>(H1 w.params).get? b≠F'\/b=x\/b=dx\/b=a3)=base at hb SW Tl
 have TO:=z.inv base Tl
 have LN:∀b,(∃o,KB.heap.get? b=B' o)->¬W.mut b:=λb ⟨o,e⟩ mb=>by rw[P6 b mb] at e;exact no e
 have V9:¬W.mut x:=LN x ⟨_,Mr.at_⟩
 have nmD:¬W.mut dx:=LN dx ⟨_,Mr.dict⟩
 have XF:=z.m3
 have LP:im W base:=z.lay base LY ⟨SW x _ (.inr (.inl rfl)) LB.at_,SW dx _ (.inr (.inr (.inl rfl))) LB.dict⟩ V9 nmD
 have Sn:(K1 W.w.params).In base:=by
  have hw:W.w=w:=z.ww;rw[hw];intro b o e;have:=eQ w.params b o e;exact SW b o (.inl (by rw[this];exact λq=>nomatch q)) (Ri b o (g b o this))
 have QH:∀a∈as1,¬W.mut a:=λa ha mb=>by
  refine x11 (nr (P:=w.params) ha) λo e=>?_;rw[Pp a (MA a (P6 a mb))] at e;exact no e
 have Z:=AB (lv:=1) (.inl rfl) WU Sn QH LP (λh=>by cases h)
 have Y8:=vn Z 20
 have nb:∀b,(H1 w.params).get? b=F'->b≠x->b≠dx->b≠a3->base.get? b=F':=λb q1 q2 q3 q4=>(hb b).resolve_right (by rintro (z|z|z|z);exact z q1;exact q2 z;exact q3 z;exact q4 z)
 have X5:s.heap.get? env.locals=F':=by
  cases z:s.heap.get? env.locals with
  |none=>rfl
  |some o=>have:=Mc _ _ z;rw[Ll.fr.aai.2.2.2] at this;exact no this
 have X3:∀nm c,env.cells.lookup nm=B' c->s.heap.get? c=F':=λnm c hc=>by
  cases z:s.heap.get? c with
  |none=>rfl
  |some o=>have:=Mc _ _ z;rw[(Ll.fr.aam nm c hc).2.2.2] at this;exact no this
 refine hide λQz qz=>?_
 obtain⟨oL,L4,XC,Xw,Ux⟩:=L2
 have YE:env.locals≠x:=λq=>by rw[q,Mr.at_] at L4;obtain rfl:=ac L4;cases Ux
 have Za:env.locals≠a3:=λq=>by rw[q,z.n3] at L4;exact no L4
 have Sa:¬W.mut env.locals:=LN _ ⟨oL,L4⟩
 have QF:FR W base s.heap (aal (fnAt 123)) env W.mut [.pl .tab,.un] (λO=>0) m cm KH.heap:=
  {kind:=Ll.fr.kind
   globals:=Ll.fr.globals
   builtins:=Ll.fr.builtins
   nm:=Ll.fr.nm
   ns:=Ll.fr.ns
   cell:=Ll.fr.cell
   has:=Ll.fr.has
   apart:=Ll.fr.apart
   ne:=Ll.fr.ne
   aai:=(ml Sa (nb _ Ll.fr.aai.2.1 YE (λq=>Ll.fr.aai.2.2.1 (.inr q)) Za) Sa X5)
   aam:=λnm c hc=>by
    obtain⟨oc,Oh,vc,UU⟩:=C2 nm c hc
    have X6:¬W.mut c:=LN _ ⟨oc,Oh⟩
    exact(ml X6 (nb _ (Ll.fr.aam nm c hc).2.1 (λq=>by rw[q,Mr.at_] at Oh;obtain rfl:=ac Oh;cases UU) (λq=>(Ll.fr.aam nm c hc).2.2.1 (.inr q)) (λq=>by(replace Oh:=q▸Oh;replace Oh:=z.n3▸Oh);cases Oh)) X6 (X3 nm c hc))
   aaj:=Ll.fr.aaj
   pl:=λnm i v O hp hi=>by
    rcases i with _|_|i
    .simp at hi
     subst hi
     have h1:=mw hp
     rw[show(aal (fnAt 123)).slots=[gb,Str.ofString "row"] from Rt] at h1
     simp at h1
     subst h1
     refine⟨_,ON,?_⟩
     rw[<- z.tab];exact .tab
    .simp at hi
    .simp at hi
   ow:=λnm i v O O hi=>by rcases i with _|_|i<;>simp at hi
   own:=λi v hi=>by rcases i with _|_|i<;>simp at hi
   inj:=λi j v u hi=>by rcases i with _|_|i<;>simp at hi
   old:=λb o O e=>Ri b o e}
 have Uc:∃h tk,KH={s with heap:=h,toks:=tk}:=by
  refine d6 same λh2 ZN q2=>?_;refine d6 J.same λh2' Wj Uk=>?_;refine d6 Ll.same λh3 Vv q3=>?_;refine⟨h3,Vv,?_⟩;rw[q3];rw[q2] at Uk;clear g hQ X hx PF k2 k1 Mc Ri MA Pp X5 X3 QF q2;obtain⟨sh,sg,sd,st,so⟩:=s;clear J Ll q3;obtain⟨rh,rg,rd,rt,ro⟩:=KA;injection Uk with z1 z2 z3 z4 z5;rw[z2,z3,z5]
 have fs:FS W base (aal (fnAt 123)) env W.mut [.pl .tab,.un] (λO=>0) qL s KH:=⟨⟨m,cm,QF⟩,TO,⟨λb mb=>mb,λb mb=>TO.aat mb,λb mb nm=>absurd mb nm⟩,Uc⟩
 have Nk:W.prog=pw/\W.w=w:=⟨z.prog,z.ww⟩
 have P0:Value.ref x=.ref W.aas:=by rw[z.tab]
 have N2:W.aaL=dx/\W.aab=a3/\W.aas=x:=⟨z.aaL,z.decl,z.tab⟩
 have L3:∀KR,dl W base T0 KR.heap->Ev W s KR->Fl w s KR (.ref x) W base:=λKR Oj Ob=>by
  refine⟨Nk.1,Nk.2,P0,WU,Oj,LP,?_,λb o e=>Ob.keep b o (λmb=>by rw[MA b (P6 b mb)] at e;exact no e) e,(ml ?_ ?_ ?_ (λa mb=>MA a (P6 a mb))),(ml ?_ ?_ ?_ ?_),?_,?_,?_⟩
  .rw[N2.2.1];exact z.l3.imp λn e=>Oj.good _ _ XF (SW _ _ (.inr (.inr (.inr rfl))) e)
  .rw[N2.2.2];exact hx
  .rw[N2.1];exact PF
  .rw[N2.2.1];exact MA _ z.n3
  .rw[N2.2.2,N2.1];exact Vg
  .rw[N2.2.1,N2.2.2];exact x3
  .rw[N2.2.1,N2.1];exact z.d3
  .rw[N2.2.1];exact XF
  .refine iP Ob λh4 YT q O=>?_;exact⟨h4,YT,q⟩
  .intro b o e;rcases hb b with q|q|q|q|q
   .rw[q] at e;exact no e
   .exact .inl (Option.ne_none_iff_exists'.mp q)
   .exact .inr (.inl (by rw[N2.2.2];exact q))
   .exact .inr (.inr (.inl (by rw[N2.1];exact q)))
   .exact .inr (.inr (.inr (by rw[N2.2.1];exact q)))
  .have:=Sn;rw[Nk.2] at this;exact this
 have S4:=Y8.xs (E:=E') (UD.mono (by decide)) wP fs
 refine qz ?_
 dsimp only[qaa] at S4;rw[Nk.1,Nk.2] at S4
 refine bb S4 (λfl KR p=>?_) λO O e=>e
 induction fl using Flow.casesOn with
 |next=>
  refine x33 p λKX T' NE hk LO O=>?_;cases hk;refine d6 LO.fr λm' LD Mk=>?_;exact⟨rfl,hQ _ _ W base (L3 KR LO.inv (Mk.acb LO.same))⟩
 |ret y=>
  refine tJ p λry Oj Ob=>?_;cases ry;exact⟨rfl,hQ _ _ W base (L3 KR Oj Ob)⟩
 |_=>exact p.elim
noncomputable def R1(lv:Nat):Rc:=rc (gZ lv) (λO O O=>F') (λO O O=>F') 10
section
variable {W:Wd}{base:P'}
theorem BY(Z:fK W (gZ lv) base)(n:Nat):C3 W (gZ lv) base n (R1 lv):=pA Z jU (λO O O O h=>by exact no h) jV (λO O O O h=>by exact no h) 10
theorem nu{f:Fn}{fI C:M'}{KJ:List G'}{OH:List (O'×V×Bool)}{Q:qab}(Z:fK W (gZ lv) base)(X:(K1 W.w.params).In base)(N9:∀a∈as1,¬W.mut a)(hm:makesIn (K1 W.w.params) C=true)(hi:adI (K1 W.w.params) (.ref C) "__init__"=B' (B' (.ref fI)))(Z3:aeG (K1 W.w.params) (.ref fI)=B' (.type "function"))(hf:BS.fn fI=B' f)(hd:f.dflt=[])(NX:f.np=KJ.length+1)(Yp:f.slots[0]? =B' gb)(VM:cZ (aal f) gb=true)(ZV:lR ((R1 lv).ev (aal f) Γ) gb T f.body=B' (OH,T))(Qh:gw (OH.map (·.1))=true)(K6:OH.all (λp=>fU (K1 W.w.params) C p.1)=true)(KO:OH.length<=1000)(g:∀b o,(H1 W.w.params).get? b=B' o->s.heap.get? b=B' o)(inv:dl W base T s.heap)(yk:fm W base Y s.heap)(hA:Rm (n+2) A)(LZ:∀(i:Nat)(v:V),Γ[i]? =B' (.pl v)->∃j y,i=j+1/\KJ[j]? =B' y/\VR W s.heap Y y v)(Sw:∀(i:Nat)(v:V),Γ[i]? ≠B' (.ow v))(hQ:∀x dx l as s' Yh,(∀b,Y b->Yh b)->(∃n,cO s'.heap x dx C (dO W.w.params l n))->AR W s'.heap Yh s.heap dx l OH as->dl W base T s'.heap->s.heap.get? x=F'->s.heap.get? dx=F'->x≠dx->(∀b o,s.heap.get? b=B' o->¬W.mut b->s'.heap.get? b=B' o)->(∃h tk,s'={s with heap:=h,toks:=tk})->Q (.ref x) s'):qaa W A (call (.ref C) KJ) Q E s:=by
 have Xs:(K1 W.w.params).In s.heap:=(eQ W.w.params).keeps g
 refine hide λQz qz=>?_
 obtain⟨MH,Ln,o,fd,F⟩:=AI X N9 hf
 refine qz ?_
 clear Qz qz
 refine pH (n:=n) (qM g) Xs hm hi Z3 MH Ln (λh k=>F h λb o nm e=>k b o (inv.good b o nm e)) hd inv yk hA NX LZ Sw λx dx env m cm KA KB J LU RV hx PF k2 k1 same A' E' UD=>?_
 have hR:=BY Z n
 have Mc:∀b o,s.heap.get? b=B' o->(jp KA.heap dx).get? b=B' o:=λb o e=>by rw[fS (λq=>by rw[q,PF] at e;exact no e)];exact k1 b o e
 have OZ:f.body=f.body++[]:=(a0 _).symm
 rw[OZ]
 refine IS.run (hs:=s.heap) (K:=K1 W.w.params) (Yh:=Yf env (λb=>Y b\/b=dx) Γ λO=>0) hR.ev hR.acg UD (λb=>Iff.rfl) (λs' O k a o e=>?_) VM ⟨by decide,by decide⟩ (LU _ Yp) f.body J .nil (λb o e O O=>k2 b o e) ZV (by simpa using Qh) K6 (by simpa using KO) λl as KH Ll Lh Po=>adM ⟨rfl,hQ x dx l as KH _ (λb hb=>.inl (.inl hb)) Ll.own Lh Ll.inv hx PF J.xm.2 (λb o e nm=>Po b o e (λq=>by rw[q,PF] at e;exact no e) nm) ?_⟩
 .have e1:=eQ W.w.params a o e;exact k a o (Mc a o (g a o e1)) (N9 a (by
   have hm:∀(l:List M'),(l.map λa=>(a,yp W.w.params a)).lookup a=B' o->a∈l:=by
    intro l
    induction l with
    |nil=>intro e;exact no e
    |cons b l ih=>
     intro e
     rw[aC,List.lookup_cons] at e
     refine aaw (b:=a==b) (λhb=>?_) λhb=>?_;rotate_left
     .rw[aT.mp hb];exact af ..
     .rw[hb] at e;exact ag _ (ih e)
   exact hm as1 e))
 .refine hide λQz qz=>?_;refine d6 same λh2 ZN q2=>?_;refine d6 J.same λh2' Wj Uk=>?_;refine d6 Ll.same λh3 Vv q3=>?_;refine qz ?_;clear Qz qz;refine⟨h3,Vv,?_⟩;rw[q3];rw[q2] at Uk;clear g inv yk LZ hQ Xs hx PF k2 k1 Mc Lh Po q2;obtain⟨sh,sg,sd,st,so⟩:=s;obtain⟨rh,rg,rd,rt,ro⟩:=KA;injection Uk with z1 z2 z3 z4 z5;rw[z2,z3,z5]
end
noncomputable def sM:List (O'×V×Bool):=[(dJ,.tab,false),(Str.ofString "deep",.int 0,false),(Str.ofString "most_rounds",.int 200,false)]
noncomputable def pJ(i k:Int)(nm:O'):List (O'×V×Bool):=[(Str.ofString "did",.int i,false),(Str.ofString "kind",.int k,false),(Str.ofString "name",.str nm,false),(Str.ofString "params",.tup [],false),(fN,.int (-1),false),(fA,.tup [],false),(Str.ofString "static",.int (-1),false),(Str.ofString "extends_class",.int 0,false),(Str.ofString "abstract",.bool false,false),(Str.ofString "members",.lst [],true),(Str.ofString "variances",.lst [],true),(Str.ofString "busy",.int 0,false),(Str.ofString "at",.int 0,false),(Str.ofString "file",.str (Str.ofString ""),false),(Str.ofString "nid",.int 0,false)]
theorem Hb:BS.fn 646=B' (fnAt 646):=by kernel_rfl
theorem Dm:(fnAt 646).np=2/\(fnAt 646).dflt=[]/\(fnAt 646).slots[0]? =B' gb/\cZ (aal (fnAt 646)) gb=true:=⟨by kernel_rfl,by kernel_rfl,by kernel_rfl,by kernel_rfl⟩
theorem wQ(T:TS):lR ((R1 1).ev (aal (fnAt 646)) [.un,.pl .tab]) gb T (fnAt 646).body=B' (sM,T):=by kernel_rfl
theorem Dn(P:N'):sM.all (λp=>fU (K1 P) 670 p.1)=true:=by kernel_rfl
theorem AJ(P:N'):adI (K1 P) (.ref 670) "__init__"=B' (B' (.ref 646)):=by kernel_rfl
theorem AK(P:N'):aeG (K1 P) (.ref 646)=B' (.type "function"):=by kernel_rfl
theorem Hc:BS.fn 158=B' (fnAt 158):=by kernel_rfl
theorem Do:(fnAt 158).np=4/\(fnAt 158).dflt=[]/\(fnAt 158).slots[0]? =B' gb/\cZ (aal (fnAt 158)) gb=true:=⟨by kernel_rfl,by kernel_rfl,by kernel_rfl,by kernel_rfl⟩
theorem wR(T:TS)(i k:Int)(nm:O'):lR ((R1 1).ev (aal (fnAt 158)) [.un,.pl (.int i),.pl (.int k),.pl (.str nm)]) gb T (fnAt 158).body=B' (pJ i k nm,T):=by kernel_rfl
theorem yD(P:N')(i k:Int)(nm:O'):(pJ i k nm).all (λp=>fU (K1 P) 161 p.1)=true:=by kernel_rfl
theorem AL(P:N'):adI (K1 P) (.ref 161) "__init__"=B' (B' (.ref 158)):=by kernel_rfl
theorem AM(P:N'):aeG (K1 P) (.ref 158)=B' (.type "function"):=by kernel_rfl
theorem kr(P:N'):keepIn (K1 P) (.ref 140)=true/\keepIn (K1 P) (.ref 670)=true/\keepIn (K1 P) (.ref 161)=true/\keepIn (K1 P) (.ref 219)=true:=⟨by kernel_rfl,by kernel_rfl,by kernel_rfl,by kernel_rfl⟩
theorem Hd:BS.fn 219=B' (fnAt 219):=by kernel_rfl
theorem Dp:(fnAt 219).np=3/\(fnAt 219).dflt=[]/\(fnAt 219).slots=[Str.ofString "tab",Str.ofString "kind",Str.ofString "name",Str.ofString "decl"]:=⟨by kernel_rfl,by kernel_rfl,by kernel_rfl⟩
theorem yE(i k:Int)(nm:O'):gw ((pJ i k nm).map (·.1))=true:=by kernel_rfl
section
variable {W:Wd}{l:List (O'×Tok×G')}{vs:List (O'×V×Bool)}
theorem ku{l:List (O'×Tok×G')}(h:nm∉l.map (·.1)):l.find? (λp=>p.1==nm)=F':=by
 rw[List.find?_eq_none]
 intro p hp q
 exact h (aT.mp q▸List.mem_map_of_mem hp)
theorem AR.find(r:AR W h Yh hs dx l vs as):(vs.map (·.1)).Nodup->∀{nm:O'}{v:V},(nm,v,false)∈vs->∃y,(l.find? λp=>p.1==nm).map (·.2.2)=B' y/\VR W h Yh y v:=by
 induction r with
 |nil=>intro _ nm v h;cases h
 |@sc l vs as nm' t y v' r q ih=>
  intro hn nm v hm;rw[bM,cn] at hn;rcases bf.mp hm with hm|hm
  .refine x12 (ih hn.1 hm) λy' h1 h2=>?_;refine⟨y',?_,h2⟩;refine sb (List.find?_append) ?_;cases z:l.find? λp=>p.1==nm with
   |none=>replace h1:=z▸h1;exact no h1
   |some p=>replace h1:=z▸h1;exact h1
  .cases am.mp hm;refine⟨y,?_,q⟩;have:nm'∉l.map (·.1):=by refine sb r.names ?_;intro hm;exact hn.2.2 nm' hm nm' (by simp) rfl
   (refine sb (List.find?_append) ?_;refine sb (ku this) ?_);simp
 |@dp l vs as nm' t a v' r q a1 a2 a3 a4 ih=>
  intro hn nm v hm;rw[bM,cn] at hn;rcases bf.mp hm with hm|hm
  .refine x12 (ih hn.1 hm) λy' h1 h2=>?_;refine⟨y',?_,h2⟩;refine sb (List.find?_append) ?_;cases z:l.find? λp=>p.1==nm with
   |none=>replace h1:=z▸h1;exact no h1
   |some p=>replace h1:=z▸h1;exact h1
  .cases am.mp hm
theorem AR.look(r:AR W h Yh hs dx l vs as){P:N'}{n:Nat}(hn:gw (vs.map (·.1))=true){nm:O'}{v:V}(hm:(nm,v,false)∈vs):∃y,adg nm (dO P l n)=B' (B' y)/\VR W h Yh y v:=by
 refine x12 (r.find (je hn) hm) λy h1 h2=>?_
 exact⟨y,by rw[fL,h1],h2⟩
theorem AR.miss(r:AR W h Yh hs dx l vs as){P:N'}(hm:(vs.map (·.1)).contains nm=false):adg nm (dO P l n)=B' F':=by
 rw[fL,ku];rfl
 rw[r.names];intro q;replace hm:=(List.contains_iff_mem.mpr q)▸hm;cases hm
theorem lj(nm:O')(t:Tok)(y:G')(k:O'):∀l:List (O'×Tok×G'),((jq l nm t y).find? λp=>p.1==k).map (·.2.2)=if k=nm then B' y else(l.find? λp=>p.1==k).map (·.2.2)
 |[]=>by
  simp only[jW,jX];by_cases e:k=nm
  .subst e;simp
  .rw[aL e,List.find?_cons,aR.mpr (bq e)]
 |p::l=>by
  simp only[jW,jX];by_cases h:p.1=nm
  .refine sb (aZ h) ?_;by_cases e:k=nm
   ·(refine sb (aZ e) ?_;refine sb (List.find?_cons) ?_;refine sb (show(p.1==k)=true by(refine sb h ?_;refine sb e ?_);simp) ?_);rfl
   .rw[aL e,List.find?_cons,List.find?_cons,show(p.1==k)=false from aR.mpr (by rw[h];exact bq e)]
  ·(refine sb (aL h) ?_;refine sb (List.find?_cons) ?_;refine sb (List.find?_cons) ?_);cases hk:p.1==k with
   |true=>rw[aL (λe=>h ((aT.mp hk).trans e))]
   |false=>exact lj nm t y k l
end
noncomputable def jE:=S "decl"
noncomputable def vo:=S "kind"
noncomputable def vp:=S "name"
theorem yF:∃p:Nat->Pos,((p 12).endLine==(p 14).line)=true/\(fnAt 219).body=[.Assign [(.Name jE (p 0))] (.Call (.Name (Str.ofString "Decl") (p 1)) [(.Call (.Name (Str.ofString "len") (p 2)) [(.Attribute (.Name dJ (p 3)) eK (p 4))] [] (p 5)),(.Name vo (p 6)),(.Name vp (p 7))] [] (p 8)) (p 9),.Expr (.Call (.Attribute (.Attribute (.Name dJ (p 10)) eK (p 11)) fG (p 12)) [(.Name jE (p 13))] [] (p 14)) (p 15),.Return (B' (.Name jE (p 16))) (p 17)]:=⟨λi=>[⟨134,4,134,8⟩,⟨134,11,134,15⟩,⟨134,16,134,19⟩,⟨134,20,134,23⟩,⟨134,20,134,29⟩,⟨134,16,134,30⟩,⟨134,32,134,36⟩,⟨134,38,134,42⟩,⟨134,11,134,43⟩,⟨134,4,134,43⟩,⟨135,4,135,7⟩,⟨135,4,135,13⟩,⟨135,4,135,20⟩,⟨135,21,135,25⟩,⟨135,4,135,26⟩,⟨135,4,135,26⟩,⟨136,11,136,15⟩,⟨136,4,136,15⟩].getD i ⟨0,0,0,0⟩,rfl,by kernel_rfl⟩
theorem yG:cZ (aal (fnAt 219)) jE=true/\cZ (aal (fnAt 219)) dJ=true/\cZ (aal (fnAt 219)) vo=true/\cZ (aal (fnAt 219)) vp=true/\fw (aal (fnAt 219)) (Str.ofString "Decl")=true/\fw (aal (fnAt 219)) (Str.ofString "len")=true/\(aal (fnAt 219)).names.lookup jE=B' .local:=⟨by kernel_rfl,by kernel_rfl,by kernel_rfl,by kernel_rfl,by kernel_rfl,by kernel_rfl,by kernel_rfl⟩
theorem Fo(P:N'):kq (K1 P) (Str.ofString "Decl")=B' (.ref 161)/\kq (K1 P) (Str.ofString "len")=B' (.builtin "len")/\kq (K1 P) (Str.ofString "TypeTable")=B' (.ref 140)/\kq (K1 P) (Str.ofString "RefHost")=B' (.ref 670)/\kq (K1 P) (Str.ofString "new_decl")=B' (.ref 219):=⟨by kernel_rfl,by kernel_rfl,by kernel_rfl,by kernel_rfl,by kernel_rfl⟩
theorem Fp(P:N'):fH (K1 P) 140 eK=true:=by kernel_rfl
section
variable {W:Wd}{base h₀:P'}
theorem FR.ab6{X:M'}{x:O'}{m' LD:O'->Option G'}(fr:FR W base h₀ sc env Y Γ oa m cm h)(hX:X=env.locals\/∃n,env.cells.lookup n=B' X)(k:∀b o,b≠X->h.get? b=B' o->h'.get? b=B' o)(ns:h'.Ns env.locals m')(cell:∀n c,env.cells.lookup n=B' c->h'.IsCell c (LD n))(ho:∀n,n≠x->vv env m' LD n=vv env m cm n)(XZ:∀(i:Nat)(sl:Sl),db sc.slots x=B' i->Γ[i]? =B' sl->sl=.un):FR W base h₀ sc env Y Γ oa m' LD h':=by
 have hid:Yf env Y Γ oa X:=by rcases hX with rfl|q;exact .inr (.inl rfl);exact .inr (.inr (.inl q))
 have kd:kN (Yf env Y Γ oa) h h':=λb o hb O e=>k b o (λq=>hb (q▸hid)) e
 have KY:∀j u,Γ[j]? =B' (.ow u)->oa j≠X:=λj u e q=>by
  clear k hid;rcases hX with rfl|⟨n,hn⟩
  .exact(fr.own j u e).2.2.1 q
  .exact(fr.own j u e).2.2.2.1 n _ hn q.symm
 exact
 {kind:=fr.kind
  globals:=fr.globals
  builtins:=fr.builtins
  nm:=fr.nm
  ns:=ns
  cell:=cell
  has:=fr.has
  apart:=fr.apart
  ne:=fr.ne
  aai:=fr.aai
  aam:=fr.aam
  aaj:=fr.aaj
  pl:=λn j u a b c=>by
   refine x12 (fr.pl n j u a b c) λz p r'=>?_
   have ME:n≠x:=λz=>by subst z;have:=XZ j _ b c;cases this
   exact⟨z,(ho n ME).trans p,r'.keep kd⟩
  ow:=λn j u a b c=>by
   have ME:n≠x:=λz=>by subst z;have:=XZ j _ b c;cases this
   exact(ho n ME).trans (fr.ow n j u a b c)
  own:=λj u c=>by
   refine x02 (fr.own j u c) λp r'=>?_
   exact⟨p.keep kd λob z=>k _ _ (KY j u c) z,r'⟩
  inj:=fr.inj
  old:=λb o nb e=>k b o (λq=>by
   clear k hid KY;subst q
   rcases hX with rfl|⟨n,hn⟩
   .replace e:=fr.aai.2.2.2▸e;exact no e
   .replace e:=((fr.aam n _ hn).2.2.2)▸e;exact no e) (fr.old b o nb e)}
end
@[elab_as_elim] theorem Gq {α:Type} {a b c d x:α} {P:Nat->Prop} {i:Nat} (hi:[a,b,c,d][i]? =B' x) (h0:a=x->P 0) (h1:b=x->P 1) (h2:c=x->P 2) (h3:d=x->P 3):P i:=by
 rcases i with _|_|_|_|i
 .exact h0 (ac hi)
 .exact h1 (ac hi)
 .exact h2 (ac hi)
 .exact h3 (ac hi)
 .exact no hi
theorem gN{u v:V}{p:Prop}(e:Sl.pl u=.ow v):p:=nomatch e
theorem pK{v:V}{p:Prop}(e:Sl.un=.pl v):p:=nomatch e
theorem pL{v:V}{p:Prop}(e:Sl.un=.ow v):p:=nomatch e
theorem nw{A B:Type}[BEq A][LawfulBEq A]{f:A->B}{a:A}{o:B}(l:List A)(e:(l.map λa=>(a,f a)).lookup a=B' o):a∈l:=by
 induction l with
 |nil=>exact no e
 |cons b l ih=>
  rw[aC,List.lookup_cons] at e;by_cases hb:a==b
  .refine sb (ba hb) ?_;exact af ..
  .rw[eq_false_of_ne_true hb] at e;exact ag _ (ih e)
theorem qN:db (aal (fnAt 219)).slots dJ=B' 0/\db (aal (fnAt 219)).slots vo=B' 1/\db (aal (fnAt 219)).slots vp=B' 2/\db (aal (fnAt 219)).slots jE=B' 3:=⟨by kernel_rfl,by kernel_rfl,by kernel_rfl,by kernel_rfl⟩
theorem nz{i k:Int}:(fN,.int (-1),false)∈pJ i k nm:=.tail _ (.tail _ (.tail _ (.tail _ (.head _))))
theorem sN{i k:Int}:(fA,.tup [],false)∈pJ i k nm:=.tail _ (.tail _ (.tail _ (.tail _ (.tail _ (.head _)))))
theorem wS{i k:Int}:(pJ i k nm).length=15:=rfl
noncomputable def G4(k:Int)(nm:O'):List Sl:=[.pl .tab,.pl (.int k),.pl (.str nm),.un]
noncomputable def A4(W:Wd)(k:Int)(nm:O')(t₁ t₂:Tok):List G':=[.ref W.aas,.int k t₁,.str nm t₂]
theorem BZ{k:Int}{i:Nat}{v:V}(hi:(G4 k nm)[i]? =B' (.ow v)):False:=Gq (P:=λO=>False) hi gN gN gN pL
theorem Fq{W:Wd}{k:Int}{t₁ t₂:Tok}(QH:nm.length<=sizeLine){i:Nat}{v:V}(hi:(G4 k nm)[i]? =B' (.pl v)):∃y,(A4 W k nm t₁ t₂)[i]? =B' y/\VR W h Y y v:=Gq (P:=λi=>∃y,(A4 W k nm t₁ t₂)[i]? =B' y/\VR W h Y y v) hi (λe=>⟨_,rfl,Sl.pl.inj e▸ .tab⟩) (λe=>⟨_,rfl,Sl.pl.inj e▸ .int ..⟩) (λe=>⟨_,rfl,Sl.pl.inj e▸ .str _ _ QH⟩) pK
theorem B0{P:N'}{base:P'}{W:Wd}(X:(K1 P).In base)(N9:∀a∈as1,¬W.mut a)(k:∀a o,¬W.mut a->base.get? a=B' o->h.get? a=B' o):(K1 P).In h:=λa o e=>k a o (N9 a (nw as1 e)) (X a o e)
section
variable {W:Wd}{base:P'}
theorem oM{k:Int}{nm:O'}{t₁ t₂:Tok}{xs:List G'}{nn:Nat}{Q:qab}(Z:fK W (gZ 1) base)(X:(K1 W.w.params).In base)(N9:∀a∈as1,¬W.mut a)(lay:im W base)(UV:base.get? W.aab=F')(R6:¬W.mut W.aab)(g:∀b o,(H1 W.w.params).get? b=B' o->s.heap.get? b=B' o)(inv:dl W base T s.heap)(hA:Rm 30 A)(UU:s.heap.get? W.aab=B' (eB xs nn))(UB:xs.length<=100)(QH:nm.length<=sizeLine)(hQ:∀d dd od s' t e,cO s'.heap d dd 161 od->(∃l n,od=dO W.w.params l n/\l.length<=999)->adg fN od=B' (B' (.int (-1) t))->adg fA od=B' (B' (.ref e))->s'.heap.get? e=B' (fb [])->¬W.mut e->dl W base T s'.heap->(∃n',s'.heap.get? W.aab=B' (eB (xs++[.ref d]) n'))->s.heap.get? d=F'->s.heap.get? dd=F'->d≠dd->(∀b o,s.heap.get? b=B' o->¬W.mut b->b≠W.aab->s'.heap.get? b=B' o)->(∃h tk,s'={s with heap:=h,toks:=tk})->Q (.ref d) s'):qaa W A (call (.ref 219) [.ref W.aas,.int k t₁,.str nm t₂]) Q E s:=by
 have Qr:=De W.w.params
 simp only[aq] at Qr
 have Xs:(K1 W.w.params).In s.heap:=(eQ W.w.params).keeps g
 refine hide λQz qz=>?_
 obtain⟨MH,Ln,o,fd,F⟩:=AI X N9 Hd
 refine tJ Dp λNX Y5 acE=>?_
 have LR:=F s.heap inv.good
 refine x12 (LR.bind [.ref W.aas,.int k t₁,.str nm t₂] (by refine sb NX ?_;exact br _) (by refine sb NX ?_;simp)) λds Mm LL=>?_
 have NC:ds=[]:=by rw[Y5,List.drop_nil] at Mm;exact Mm.aaV
 refine qz ?_
 clear Qz qz
 clear Mm;subst NC
 have yk:fm W base (λb=>W.mut b\/b=W.aab) s.heap:=⟨λb m=>.inl m,λb yb=>by
   rcases yb with mb|rfl
   .exact inv.aat mb
   .exact⟨_,UU,.aaM (by simp)⟩,λb yb m=>by
   rcases yb with mb|rfl
   .exact absurd mb m
   .exact UV⟩
 refine aec (em (W:=W) (base:=base) MH LR (qM g) hA.room [.ref W.aas,.int k t₁,.str nm t₂] [] rfl (LL s rfl) λKA x E'=>?_)
 rw[a0] at x
 have fr:=gJ (h₀:=jp s.heap W.aab) (Γ:=G4 k nm) (oa:=λO=>0) MH Ln LR inv yk (by refine sb NX ?_;rfl) (λb o e=>mY e) x (λi v hi=>Fq QH hi) (λi v hi=>(BZ hi).elim) (λi j v u hi=>(BZ hi).elim)
 have PK:=Rm.deeper (env:=R' fd s.heap.objs.size 219) hA
 generalize R' fd s.heap.objs.size 219=env at x fr PK ⊢
 generalize aeh env.kindOf (((fnAt 219).slots.take (fnAt 219).np).zip [.ref W.aas,.int k t₁,.str nm t₂]) (λO=>F')=m at x fr
 generalize aef env.kindOf (((fnAt 219).slots.take (fnAt 219).np).zip [.ref W.aas,.int k t₁,.str nm t₂]) (λO=>F')=cm at x fr
 have Rt:=yG
 refine x12 yF λp hl MB=>?_
 refine sb MB ?_
 clear MB
 .skip;refine hide λQz qz=>?_;refine EK Rt λv1 v2 v3 v4 g1 g2 Uj=>?_;have hG:=Fo W.w.params;have kOf:∀n,env.kindOf n=(aal (fnAt 219)).names.lookup n:=λn=>by unfold Env.kindOf;exact sb fr.nm rfl
  have gk:∀n,fw (aal (fnAt 219)) n=true->env.kindOf n=B' .globalImplicit\/env.kindOf n=B' .globalExplicit:=λn hg=>by
   unfold fw at hg;rw[kOf];revert hg;cases (aal (fnAt 219)).names.lookup n with
   |none=>intro h;exact nb h
   |some k=>induction k using NameKind.casesOn<;>intro h<;>first|exact .inl rfl|exact .inr rfl|exact nb h
  refine qz ?_;clear Qz qz;have MI:∀s':H',(∀b o,s.heap.get? b=B' o->¬W.mut b->b≠W.aab->s'.heap.get? b=B' o)->(K1 W.w.params).In s'.heap:=λs' kk a o e=>by
   have e1:=eQ W.w.params a o e;have e2:=g a o e1;refine kk a o e2 (N9 a (nw as1 e)) λq=>?_;have:=X a o e;rw[q,UV] at this;cases this
  have Mq:=inv.keeps x.toInCall.keep;have M9:=yk.keeps x.toInCall.keep;have Wi:∀{h:P'}{m:O'->Option G'},FR W base (jp s.heap W.aab) (aal (fnAt 219)) env (λb=>W.mut b\/b=W.aab) (G4 k nm) (λO=>0) m cm h->iV env h dJ (.ref W.aas):=λf=>by
   refine hide λQz qz=>?_;refine x12 (f.pl dJ 0 .tab v2 qN.1 rfl) λy hy r=>?_;refine qz ?_;clear Qz qz;obtain rfl:y=_:=r.view;exact f.aa5 v2 hy
  have NW:∀{s':H'}{Q':qab}{pa pb:Pos}{Xo:qab}{m:O'->Option G'},FR W base (jp s.heap W.aab) (aal (fnAt 219)) env (λb=>W.mut b\/b=W.aab) (G4 k nm) (λO=>0) m cm s'.heap->dl W base T s'.heap->(K1 W.w.params).In s'.heap->Q' (.ref W.aab) {s' with toks:=s'.toks+1}->V' (ade W.prog W.w) (A.deeper env) (Z' (.Attribute (.Name dJ pa) eK pb) env) Q' Xo s':=λ{s' Q' pa pb Xo m} f i X' q=>by
   refine hide λQz qz=>?_;refine JV lay.inst λod I O O r3 O=>?_;have I':cO s'.heap W.aas W.aaL 140 od:=I.keeps (λo e=>i.good _ o lay.nm.1 e) (λo e=>i.good _ o lay.nm.2 e);refine qz ?_;clear Qz qz;refine Attribute_any_ (bO (cD f.kind (Wi f) (eh X' I' (Fp _) r3 rfl q) (by decide)) (by decide)) ?_;rw[arm_eval_Attribute];rfl
  have hR:=BY Z 20;have acY:Rm 20 (A.deeper env):=PK.mono (by decide);refine bR (adn (bE (bO (gK (MI KA λb o e O O=>x.toInCall.keep b o e) fr.kind fr.globals fr.builtins (gk _ g1) hG.1 ?_) (by decide))));refine callWith_K (h₀:=KA.heap) (K:=K1 W.w.params) (MI KA λb o e O O=>x.toInCall.keep b o e) (kr _).2.2.1 (bQ ?_ rfl);refine bE (bO (gK (MI KA λb o e O O=>x.toInCall.keep b o e) fr.kind fr.globals fr.builtins (gk _ g2) hG.2.1 ?_) (by decide));refine ce rfl (f8 (pg rfl) (bQ (NW fr Mq (MI KA λb o e O O=>x.toInCall.keep b o e) ?_) rfl));refine adl ?_;have MQ:KA.heap.get? W.aab=B' (eB xs nn):=x.toInCall.keep _ _ UU;refine call_len_list (items:=xs.toArray) ⟨_,MQ,rfl,_,rfl⟩ (by refine sb ay ?_;exact GD UB rfl) ?_;refine hide λQz qz=>?_;refine x12 (fr.pl vo 1 (.int k) v3 qN.2.1 rfl) λyk1 ZK rk1=>?_;refine x12 (fr.pl vp 2 (.str nm) v4 qN.2.2.1 rfl) λyk2 UG rk2=>?_;refine qz ?_;clear Qz qz;refine bQ (bO (cD fr.kind (fr.aa5 v3 ZK) (bQ (bO (cD fr.kind (fr.aa5 v4 UG) (adl ⟨MI KA λb o e O O=>x.toInCall.keep b o e,?_⟩) (by decide)) (by decide)) rfl) (by decide)) (by decide)) rfl;generalize hs2:({KA with toks:=KA.toks+1+1+1}:H')=KB;have UR:KB.heap=KA.heap:=by exact sb (Eq.symm (hs2)) rfl
  refine hide λQz qz=>?_;refine EJ Do λWH UW VW VP=>?_;refine qz ?_;clear Qz qz;refine sb ay ?_;refine nu (s:=KB) (n:=20) (Γ:=[.un,.pl (.int xs.length),.pl (.int k),.pl (.str nm)]) (Y:=λb=>W.mut b\/b=W.aab) Z X N9 Qr.1.2 (AL _) (AM _) Hc UW WH VW VP (wR T _ _ _) (yE _ _ _) (yD _ _ _ _) (by show 15<=1000;decide) (λb o e=>by refine sb UR ?_;exact x.toInCall.keep b o (g b o e)) (by refine sb UR ?_;exact Mq) (by refine sb UR ?_;exact M9) (PK.mono (by decide)) (λi v hi=>?_) (λi v hi=>Gq hi pL gN gN gN) λd dd l as KH Yh M8 ⟨LY,LB⟩ Lh MX hd Sk KY Lw Ml=>?_
  .refine x11 rk1.view λtk1 KC=>?_;subst KC;refine x12 rk2.view λtk2 KC O=>?_;subst KC;exact Gq hi pK (λe=>(gE 0 _ rfl rfl (Sl.pl.inj e▸ .int ..))) (λe=>(gE 1 _ rfl rfl (Sl.pl.inj e▸ .int ..))) (λe=>(gE 2 _ rfl rfl (Sl.pl.inj e▸ .str _ _ QH)))
  rw[UR] at hd Sk Lw;have VX:Ev W KA KH:=by
   refine d6 Ml λh3 t3 q3=>?_;refine(m22 h3 t3 (by rw[q3,<- hs2]) (λb o Pg e=>?_));have:=Lw b o e Pg;rw[q3] at this;exact this
  have KZ:=fr.ev yk.ym VX;have Rv:KH.heap.get? W.aab=B' (eB xs nn):=Lw _ _ MQ R6;have WR:=MI KH λb o e Pg O=>Lw b o (x.toInCall.keep b o e) Pg;have Q0:fm W base (λb=>W.mut b\/b=W.aab) KH.heap:=M9.ev VX MX;refine hide λQz qz=>?_;refine x33 fr.ns λoL XC Xw L4 Ux rL=>?_;have dL:d≠env.locals:=λq=>by rw[q,L4] at hd;cases hd
  have UJ:dd≠env.locals:=λq=>by rw[q,L4] at Sk;cases Sk
  have dC:d≠W.aab:=λq=>by rw[q,MQ] at hd;cases hd
  have Y1:dd≠W.aab:=λq=>by rw[q,MQ] at Sk;cases Sk
  have LC:env.locals≠W.aab:=λq=>fr.aai.2.2.1 (.inr q);refine x12 (Lh.look (P:=W.w.params) (n:=LY) (yE _ _ _) (nm:=fN) (v:=.int (-1)) nz) λyb lb rb=>?_;refine x12 (Lh.look (P:=W.w.params) (n:=LY) (yE _ _ _) (nm:=fA) (v:=.tup []) sN) λyc lc rcc=>?_;refine qz ?_;clear Qz qz;refine x11 rb.view λtb KC=>?_;subst KC;refine hide λQz qz=>?_;refine lH rcc.abm λea exs KC ge re O XT=>?_;subst KC;refine qz ?_;clear Qz qz;obtain rfl:=re.aaV;have ge:KH.heap.get? ea=B' (fb []):=ge;have eC:ea≠W.aab:=λq=>XT (M8 _ (.inr q));have Zn:¬W.mut ea:=λq=>XT (M8 _ (.inl q));have eL:ea≠env.locals:=λq=>by
   have Yj:=VX.keep _ _ fr.aai.1 L4;rw[<- q,ge] at Yj;obtain rfl:=ac Yj;cases Ux
  refine bW (by rw[kOf];exact Uj) KZ.ns (λLE Pl Pf=>?_) (by rw[fr.kind];rfl);have R8:∀b o,b≠env.locals->KH.heap.get? b=B' o->LE.get? b=B' o:=λb o hb e=>(Pf.2 b hb).trans e;have Nm:FR W base (jp s.heap W.aab) (aal (fnAt 219)) env (λb=>W.mut b\/b=W.aab) (G4 k nm) (λO=>0) (λy=>if y=jE then B' (.ref d) else m y) cm LE:=KZ.ab6 (x:=jE) (.inl rfl) R8 Pl (λn c hc=>by refine x12 (KZ.cell n c hc) λo ho r=>?_;exact⟨o,R8 _ _ (KZ.ne n c hc) ho,r⟩) (λn hn=>by unfold vv;simp [hn]) (λi sl hp hi=>by
    obtain rfl:3=i:=ac (qN.2.2.2.symm.trans hp)
    exact(ac hi).symm)
  have OV:dl W base T LE:=by
   refine x33 KZ.ns λo es ep ho Rs O=>?_;exact MX.fill KZ.aai.1 KZ.aai.2.1 ho (.aaE Rs) R8
  have WB:(K1 W.w.params).In LE:=λa o e=>R8 a o (λq=>by
   have:=X a o e
   rw[q,fr.aai.2.1] at this;exact no this) (WR a o e)
  have MP:LE.get? W.aab=B' (eB xs nn):=R8 _ _ (bq LC) Rv;have dV:∀{h:P'},FR W base (jp s.heap W.aab) (aal (fnAt 219)) env (λb=>W.mut b\/b=W.aab) (G4 k nm) (λO=>0) (λy=>if y=jE then B' (.ref d) else m y) cm h->iV env h jE (.ref d):=λf=>f.aa5 v1 (by unfold vv;rw[kOf,Uj,aZ rfl];simp);refine bR (ady (adF rfl (qG rfl) hl PySem.F.plainAttrs_list aea rfl (NW (s':={KH with heap:=LE,toks:=_}) Nm OV WB ?_)) (by unfold adL;refine sb Nm.kind ?_;rfl));refine⟨⟨_,MP,rfl⟩,λa Yt=>by cases Yt;exact⟨_,MP,rfl⟩,?_⟩;refine ce rfl (f8 (pg rfl) (bQ (bO (cD Nm.kind (dV Nm) (adl ?_) (by decide)) (by decide)) rfl));refine cq (hsz:=by refine sb ay ?_;exact aG UB (by decide)) ⟨_,MP⟩ λOi Qw TI=>?_;rw[List.push_toArray] at Qw;have V6:∀b o,b≠W.aab->LE.get? b=B' o->Oi.get? b=B' o:=λb o hb e=>(TI.2 b hb).trans e;have Me:=Nm.hid (X:=W.aab) (.inr rfl) (jd _ _) V6;have RJ:dl W base T Oi:=OV.fill R6 UV MP (.aaM (by simp)) V6;refine bR (wpAny_Return_some (bO (cD Me.kind (dV Me) ?_ (by decide)) (by decide)));have QL:∀b o,b≠env.locals->b≠W.aab->KH.heap.get? b=B' o->Oi.get? b=B' o:=λb o h1 h2 e=>V6 b o h2 (R8 b o h1 e);have sd:∀b,KA.heap.get? b=F'->s.heap.get? b=F':=λb e=>by
   cases z:s.heap.get? b with
   |none=>rfl
   |some o=>have:=x.toInCall.keep b o z;rw[e] at this;exact no this
  refine hQ d dd _ _ tb ea ⟨QL _ _ dL dC LB.at_,QL _ _ UJ Y1 LB.dict⟩ (m22 l LY rfl (by have:=aM List.length Lh.names;rw[ae,ae,wS] at this;exact Jm this rfl)) lb lc (QL _ _ eL eC ge) Zn RJ Qw (sd _ hd) (sd _ Sk) KY (λb o e Pg nc=>QL b o (λq=>?_) nc (Lw b o (x.toInCall.keep b o e) Pg)) ?_
  .have:=fr.aai.2.2.2;rw[<- q,fS nc,e] at this;cases this
  .refine hide λQz qz=>?_;refine d6 x.toInCall.same λh1 t1 q1=>?_;refine d6 Ml λh3 t3 q3=>?_;refine qz ?_;clear Qz qz;exact⟨Oi,_,by rw[q3,<- hs2,q1]⟩
end
noncomputable def sO:Fn:=fnAt 991
noncomputable def cP:Sc:=aal sO
noncomputable def gx:List adb:=sO.body
noncomputable def fW:=S "nums"
noncomputable def iY:=S "host"
noncomputable def fB:=S "named"
noncomputable def B2:=S "tags"
theorem He:BS.fn 991=B' sO:=by kernel_rfl
theorem Fr:sO.np=1/\sO.dflt=[]/\sO.slots.length=26:=⟨by kernel_rfl,by kernel_rfl,by kernel_rfl⟩
theorem AN:db cP.slots fW=B' 2/\db cP.slots dJ=B' 3/\db cP.slots iY=B' 4/\db cP.slots fB=B' 5/\db cP.slots B2=B' 6/\sO.slots[0]? =B' (Str.ofString "script"):=⟨by kernel_rfl,by kernel_rfl,by kernel_rfl,by kernel_rfl,by kernel_rfl,by kernel_rfl⟩
theorem vq:cP.names.lookup fW=B' .local/\cP.names.lookup dJ=B' .local/\cP.names.lookup iY=B' .local/\cP.names.lookup fB=B' .local/\cP.names.lookup B2=B' .local:=⟨by kernel_rfl,by kernel_rfl,by kernel_rfl,by kernel_rfl,by kernel_rfl⟩
theorem AO:fw cP (Str.ofString "TypeTable")=true/\fw cP (Str.ofString "RefHost")=true/\fw cP (Str.ofString "new_decl")=true:=⟨by kernel_rfl,by kernel_rfl,by kernel_rfl⟩
theorem AP:∃p:Nat->Pos,(gx.drop 2).take 4=[.Assign [(.Name dJ (p 0))] (.Call (.Name (Str.ofString "TypeTable") (p 1)) [] [] (p 2)) (p 3),.Assign [(.Name iY (p 4))] (.Call (.Name (Str.ofString "RefHost") (p 5)) [(.Name dJ (p 6))] [] (p 7)) (p 8),.Expr (.Call (.Name (Str.ofString "new_decl") (p 9)) [(.Name dJ (p 10)),(.Constant (.int 5) 0 (p 11)),(.Constant (.str (Str.ofString "N")) 0 (p 12))] [] (p 13)) (p 14),.Assign [(.Name fB (p 15))] (.Call (.Name (Str.ofString "new_decl") (p 16)) [(.Name dJ (p 17)),(.Constant (.int 2) 0 (p 18)),(.Constant (.str (Str.ofString "J")) 0 (p 19))] [] (p 20)) (p 21)]:=⟨λi=>[⟨891,4,891,7⟩,⟨891,10,891,19⟩,⟨891,10,891,21⟩,⟨891,4,891,21⟩,⟨892,4,892,8⟩,⟨892,11,892,18⟩,⟨892,19,892,22⟩,⟨892,11,892,23⟩,⟨892,4,892,23⟩,⟨893,4,893,12⟩,⟨893,13,893,16⟩,⟨893,18,893,19⟩,⟨893,21,893,24⟩,⟨893,4,893,25⟩,⟨893,4,893,25⟩,⟨894,4,894,9⟩,⟨894,12,894,20⟩,⟨894,21,894,24⟩,⟨894,26,894,27⟩,⟨894,29,894,32⟩,⟨894,12,894,33⟩,⟨894,4,894,33⟩].getD i ⟨0,0,0,0⟩,by kernel_rfl⟩
noncomputable def Fs:List adb->Option (Expr×(Nat->Pos))
 |[.Assign [.Attribute (.Name _ p) _ q] e r]=>B' (e,λi=>[p,q,r].getD i ⟨0,0,0,0⟩)
 |_=>F'
noncomputable def e7:Expr:=match Fs ((gx.drop 7).take 1) with
 |some p=>p.1
 |none=>.Name fW ⟨0,0,0,0⟩
noncomputable def p7:Nat->Pos:=match Fs ((gx.drop 7).take 1) with
 |some p=>p.2
 |none=>λO=>⟨0,0,0,0⟩
theorem AQ:(gx.drop 7).take 1=[.Assign [.Attribute (.Name fB (p7 0)) fN (p7 1)] e7 (p7 2)]:=by kernel_rfl
theorem Ft(env:Env):aen e7 (B' (.Attribute (.Name fB (p7 0)) fN (p7 1))) (p7 2).line env=pure false:=by kernel_rfl
section
variable {w:U'}{h₀:P'}
noncomputable abbrev LF(w:U')(h₀:P')(env:Env)(m cm:O'->Option G')(h:P'):Prop:=FR (Wz w) (H1 w.params) h₀ cP env (λO=>False) [] (λO=>0) m cm h
theorem FR.forget{W:Wd}{base:P'}(f:FR W base h₀ sc env Y Γ oa m cm h):FR W base h₀ sc env Y [] (λO=>0) m cm h where
 kind:=f.kind
 globals:=f.globals
 builtins:=f.builtins
 nm:=f.nm
 ns:=f.ns
 cell:=f.cell
 has:=f.has
 apart:=f.apart
 ne:=f.ne
 aai:=f.aai
 aam:=f.aam
 aaj:=f.aaj
 pl:=λn i v O O hi=>by simp at hi
 ow:=λn i v O O hi=>by simp at hi
 own:=λi v hi=>by simp at hi
 inj:=λi j v u hi=>by simp at hi
 old:=f.old
theorem LF.step(f:LF w h₀ env m cm h)(k:∀b o,(b=env.locals\/(∃n,env.cells.lookup n=B' b)\/∃o',h₀.get? b=B' o')->h.get? b=B' o->h'.get? b=B' o):LF w h₀ env m cm h' where
 kind:=f.kind
 globals:=f.globals
 builtins:=f.builtins
 nm:=f.nm
 ns:=by refine x32 f.ns λo es ep ho r=>?_;exact(uU o es ep (k _ _ (.inl rfl) ho) r)
 cell:=λn c hc=>by refine x12 (f.cell n c hc) λo ho r=>?_;exact⟨o,k _ _ (.inr (.inl ⟨n,hc⟩)) ho,r⟩
 has:=f.has
 apart:=f.apart
 ne:=f.ne
 aai:=f.aai
 aam:=f.aam
 aaj:=f.aaj
 pl:=λn i v O O hi=>by simp at hi
 ow:=λn i v O O hi=>by simp at hi
 own:=λi v hi=>by simp at hi
 inj:=λi j v u hi=>by simp at hi
 old:=λb o nm e=>k b o (.inr (.inr ⟨o,e⟩)) (f.old b o nm e)
theorem LF.kOf(f:LF w h₀ env m cm h)(n:O'):env.kindOf n=cP.names.lookup n:=by unfold Env.kindOf;rw[f.nm]
theorem LF.gk(f:LF w h₀ env m cm h){n:O'}(hg:fw cP n=true):env.kindOf n=B' .globalImplicit\/env.kindOf n=B' .globalExplicit:=by
 unfold fw at hg
 rw[f.kOf]
 revert hg
 cases cP.names.lookup n with
 |none=>intro h;exact nb h
 |some k=>induction k using NameKind.casesOn<;>intro h<;>first|exact .inl rfl|exact .inr rfl|exact nb h
theorem LF.set{A:ada}{E:qab}{s:H'}{x:O'}{v:G'}{Q:Unit->H'->Prop}(f:LF w h₀ env m cm s.heap)(hx:cP.names.lookup x=B' .local)(hQ:∀h' tk,LF w h₀ env (λy=>if y=x then B' v else m y) cm h'->(∀b o,b≠env.locals->s.heap.get? b=B' o->h'.get? b=B' o)->Q () {s with heap:=h',toks:=tk}):V' (ade pw w) A (aeq env x v) Q E s:=by
 refine bW (by rw[f.kOf];exact hx) f.ns (λh' hn hs=>hQ h' _ ?_ λb o hb e=>(hs.2 b hb).trans e) (by rw[f.kind];rfl)
 have k:∀b o,b≠env.locals->s.heap.get? b=B' o->h'.get? b=B' o:=λb o hb e=>(hs.2 b hb).trans e
 exact f.ab6 (x:=x) (.inl rfl) k hn (λn c hc=>by refine x12 (f.cell n c hc) λo ho r=>?_;exact⟨o,k _ _ (f.ne n c hc) ho,r⟩) (λn PI=>by unfold vv;simp [PI]) (λi sl O hi=>by simp at hi)
theorem LF.var(f:LF w h₀ env m cm h){x:O'}{v:G'}(hx:cP.names.lookup x=B' .local)(e:m x=B' v):iV env h x v:=.inl ⟨by rw[f.kOf];exact hx,m,f.ns,e⟩
end
theorem dl.sub{W:Wd}{base Lf:P'}(i:dl W base T h)(k:∀b o,Lf.get? b=B' o->base.get? b=B' o):dl W Lf T h:=⟨λb o n e=>i.good b o n (k b o e),i.rows,i.idx,i.aux⟩
theorem VR.reW{W:Wd}(n:Nat){v:V}(r:VR W h Y x v)(e:v.hk n=true):VR W' h Y x v:=r.ab2 (λO O e=>e) n e
theorem cM.reW{W:Wd}(n:Nat){x:List G'}{v:List V}(r:cM W h Y x v)(e:∀u∈v,u.hk n=true):cM W' h Y x v:=r.map λx u m q=>q.reW n (e u m)
noncomputable def Wd.with(W:Wd)(a b c d:M'):Wd:={W with aaC:=a,aaI:=b,aax:=c,aao:=d}
theorem dl.with{W:Wd}{base:P'}{b c d:M'}(i:dl W base T h):dl (W.with a b c d) base T h where
 good:=i.good
 rows:=λhl=>by refine x24 (i.rows hl) λxs n g r hk z=>?_;exact(fy xs n g (r.reW 6 hk) hk z)
 idx:=λhl=>by
  refine hide λQz qz=>?_;obtain⟨es,⟨o,ar,ep,h1,h2,h3,h4,h5,h6⟩,r⟩:=i.idx hl;refine qz ?_;exact⟨es,(zJ o ar ep h1 h2 h3 h4 (λx hx=>let y:=h5 x hx;⟨y.1,y.2.1,y.2.2.reW 6 y.2.1⟩) h6),r⟩
 aux:=λk hk=>by refine x35 (i.aux k hk) λxs n l g e r z hh=>?_;exact(tO xs n l g e (r.reW 6 hh) z hh)
structure J8 (w:U') (KE:H') (env:Env) (cm:O'->Option G') (an:M') (s s':H') (W:Wd) (base:P') (m':O'->Option G') (e:M'):Prop where
 prog:W.prog=pw
 ww:W.w=w
 wd:jo W
 inv:dl W base T0 s'.heap
 lay:im W base
 X:(K1 w.params).In base
 abc:∀b o,base.get? b=B' o->(∃o',(H1 w.params).get? b=B' o')\/b=W.aas\/b=W.aaL
 f:LF w KE.heap env m' cm s'.heap
 vars:m' fW=B' (.ref an)/\m' dJ=B' (.ref W.aas)/\m' iY=B' (.ref W.aaC)/\m' fB=B' (.ref W.aax)
 host:∃od,cO s'.heap W.aaC W.aaI 670 od/\(∃l n,od=dO w.params l n)/\adg dJ od=B' (B' (.ref W.aas))/\∀p∈hT,adg p.1 od=B' F'
 decl:∃l n,cO s'.heap W.aax W.aao 161 (dO w.params l n)/\adg fA (dO w.params l n)=B' (B' (.ref e))/\s'.heap.get? e=B' (fb [])/\l.length<=999
 decls:∃xs n,s'.heap.get? W.aab=B' (eB xs n)/\xs[2]? =B' (.ref W.aax)
 fresh:(∀b,(b=W.aas\/b=W.aaL\/b=W.aaC\/b=W.aaI\/b=W.aax\/b=W.aao\/b=W.aab\/W.mut b)->s.heap.get? b=F')
 nm:¬W.mut W.aas/\¬W.mut W.aaL/\¬W.mut W.aaC/\¬W.mut W.aaI/\¬W.mut W.aax/\¬W.mut W.aao/\¬W.mut W.aab/\¬W.mut e
 ap:W.aao≠W.aaL/\W.aao≠W.aaI/\W.aao≠W.aas
 keep:∀b o,s.heap.get? b=B' o->b≠env.locals->s'.heap.get? b=B' o
 same:∃h tk,s'={KE with heap:=h,toks:=tk}
theorem wT:gw (sM.map (·.1))=true:=by decide
theorem wU:(dJ,V.tab,false)∈sM:=by simp [sM]
@[elab_as_elim] theorem IA {a b x:α} {P:Nat->Prop} {i:Nat} (hi:[a,b][i]? =B' x) (h0:a=x->P 0) (h1:b=x->P 1):P i:=by
 rcases i with _|_|i
 .exact h0 (ac hi)
 .exact h1 (ac hi)
 .exact no hi
variable {an:M'}
theorem AS{w:U'}{KE:H'}{KJ:List adb}{Q:Flow->H'->Prop}(hA:Rm 40 A)(g:∀b o,(H1 w.params).get? b=B' o->KE.heap.get? b=B' o)(f:LF w KE.heap env m cm s.heap)(hn:m fW=B' (.ref an))(same:∃h tk,s={KE with heap:=h,toks:=tk})(hQ:∀W base m' s' e,J8 w KE env cm an s s' W base m' e->V' (ade pw w) A (adJ KJ env) Q E s'):V' (ade pw w) A (adJ ((gx.drop 2).take 4++KJ) env) Q E s:=by
 refine hide λQz qz=>?_
 refine x11 AP λp MB=>?_
 have hG:=Fo w.params
 refine Ek vq λSH Ud VS TB YN=>?_
 refine tJ AO λYL lg2 Y4=>?_
 have Qr:=De w.params
 refine qz ?_
 simp only[aq] at Qr
 have gs:∀b o,(H1 w.params).get? b=B' o->s.heap.get? b=B' o:=λb o e=>f.old b o fV (g b o e)
 rw[MB]
 clear MB
 .skip;refine bR (adn (bE (bO (gK ((eQ w.params).keeps gs) f.kind f.globals f.builtins (f.gk YL) hG.2.2.1 ?_) (by decide))));refine callWith_K0 ((eQ w.params).keeps gs) (kr _).1 (ul (n:=0) (hA.mono (by decide)) gs λv KA W base M=>?_);have hp:=M.prog;have hw:=M.ww;have TQ:LF w KE.heap env m cm KA.heap:=f.step λb o O e=>M.old b o e;rw[M.val];refine TQ.set Ud λh₂ L0 Na LQ=>?_;have bS:∀b o,(fg base λb=>b≠W.aab).get? b=B' o->base.get? b=B' o:=λb o e=>(gM e).2;have bN:(fg base λb=>b≠W.aab).get? W.aab=F':=(dP _ _ _).2 (λq=>q rfl);have bA:∀b o,b≠W.aab->base.get? b=B' o->(fg base λb=>b≠W.aab).get? b=B' o:=λb o q e=>by rw[(dP base (λb=>b≠W.aab) b).1 q];exact e
  have bI:∀b o,(fg base λb=>b≠W.aab).get? b=B' o->(∃o',(H1 w.params).get? b=B' o')\/b=W.aas\/b=W.aaL:=λb o e=>by
   refine x02 (gM e) λq e'=>?_;rcases M.abc b o e' with z|z|z|z
   .exact .inl z
   .exact .inr (.inl z)
   .exact .inr (.inr z)
   .exact absurd z q
  generalize (fg base λb=>b≠W.aab)=Lf at bS bN bA bI;refine hide λQz qz=>?_;refine EJ M.new λnT nD nC Uy=>?_;refine EJ M.apart λacZ U2 U3 R6=>?_;have Sn:(K1 w.params).In Lf:=λa o e=>by
   have:=M.X a o e;refine bA a o (λq=>?_) this;have h1:=eQ w.params a o e;replace h1:=q▸h1;replace nC:=(gs _ _ h1)▸nC;cases nC
  have Rj:(K1 W.w.params).In Lf:=by rw[hw];exact Sn
  have RT:∀a∈as1,¬W.mut a:=λa ha mb=>by
   refine x11 (nr (P:=w.params) ha) λo e=>?_;have:=Uy a mb;replace this:=(gs a o e)▸this;cases this
  have LP:im W Lf:=by
   refine x12 M.lay.inst λod I r=>?_;exact⟨⟨od,⟨bA _ _ (bq U2) I.at_,bA _ _ (bq U3) I.dict⟩,r⟩,M.lay.na,M.lay.live,M.lay.nm⟩
  have Z:=AB (W:=W) (base:=Lf) (lv:=1) (.inl rfl) M.wd Rj RT LP (λh=>by cases h);have LH:∀b,s.heap.get? b=F'->(H1 w.params).get? b=F':=λb e=>by
   cases z:(H1 w.params).get? b with
   |none=>rfl
   |some o=>have:=gs b o z;rw[e] at this;cases this
  refine x33 f.ns λoL XC Xw L4 Ux rL=>?_;have Y0:env.locals≠W.aas:=λq=>by(replace L4:=q▸L4;replace L4:=nT▸L4);cases L4
  have YK:env.locals≠W.aaL:=λq=>by(replace L4:=q▸L4;replace L4:=nD▸L4);cases L4
  have Wo:env.locals≠W.aab:=λq=>by(replace L4:=q▸L4;replace L4:=nC▸L4);cases L4
  have Sa:¬W.mut env.locals:=λq=>by replace L4:=(Uy _ q)▸L4;cases L4
  have bL:Lf.get? env.locals=F':=by
   cases z:Lf.get? env.locals with
   |none=>rfl
   |some o=>
    rcases bI _ o z with⟨o',q⟩|q|q
    .replace q:=f.aai.2.1▸q;cases q
    .exact absurd q Y0
    .exact absurd q YK
  have WO:dl W Lf T0 KA.heap:=M.inv.sub bS;have Og:dl W Lf T0 h₂:=by
   refine x33 TQ.ns λo es ep ho Rs O=>?_;exact WO.fill Sa bL ho (.aaE Rs) LQ
  have MT:∀b o,s.heap.get? b=B' o->b≠env.locals->h₂.get? b=B' o:=λb o e q=>LQ b o q (M.old b o e);have Mg:∀b o,(H1 w.params).get? b=B' o->h₂.get? b=B' o:=λb o e=>MT b o (gs b o e) (λq=>by(replace e:=q▸e;replace e:=f.aai.2.1▸e);cases e);have Mi:∃h tk,({KA with heap:=h₂,toks:=L0}:H')={KE with heap:=h,toks:=tk}:=by
   refine d6 same λa1 a2 q=>?_;refine d6 M.same λb1 b2 q'=>?_;exact⟨h₂,L0,by rw[q',q]⟩
  refine x11 M.decls λUz To=>?_;have OI:h₂.get? W.aab=B' (eB [.none] Uz):=LQ _ _ (bq Wo) To;have UI:∀b o,(H1 W.w.params).get? b=B' o->(H1 w.params).get? b=B' o:=λb o e=>by rw[hw] at e;exact e
  refine qz ?_;generalize Ow:({KA with heap:=h₂,toks:=L0}:H')=KB at Mi ⊢;have L6:KB.heap=h₂:=sb (Eq.symm (Ow)) rfl;refine bR (adn (bE (bO (gK (s:=KB) ((eQ w.params).keeps λb o e=>by rw[L6];exact Mg b o e) Na.kind Na.globals Na.builtins (Na.gk lg2) hG.2.2.2.1 ?_) (by decide))));refine callWith_K (h₀:=h₂) (K:=K1 w.params) ((eQ w.params).keeps Mg) (kr _).2.1 (bQ (bO (cD Na.kind (show iV env KB.heap dJ (.ref W.aas) by rw[L6];exact Na.var Ud (aZ rfl)) (adl ⟨(eQ w.params).keeps λb o e=>by rw[L6];exact Mg b o e,?_⟩) (by decide)) (by decide)) rfl);refine hide λQz qz=>?_;refine EJ Dm λWH UW VW VP=>?_;have Sy:=Qr;refine qz ?_;rw[<- hp,<- hw];rw[<- hw] at Sy;refine nu (s:=KB) (n:=10) (Γ:=[.un,.pl .tab]) (Y:=W.mut) Z Rj RT Sy.2 (AJ _) (AK _) Hb UW WH VW VP (wQ T0) (by decide) (Dn _) (by decide) (λb o e=>by rw[L6];exact Mg b o (UI b o e)) (by rw[L6];exact Og) ⟨λb m=>m,λb m=>by rw[L6];exact Og.aat m,λb m nm=>absurd m nm⟩ (hA.mono (by decide)) (λi v hi=>IA hi pK λe=>(gE 0 _ rfl rfl (Sl.pl.inj e▸ .tab))) (λi v hi=>IA hi pL gN) λhx hd lh ash KH Yh M8 ⟨LY,LB⟩ Lh MX No MS Ww Lw Ml=>?_;rw[hw] at LB;rw[hp,hw];have NR:∀b o,s.heap.get? b=B' o->¬W.mut b:=λb o e mb=>by replace e:=(Uy b mb)▸e;cases e
  have Ql:∀n c,env.cells.lookup n=B' c->∃o,s.heap.get? c=B' o:=λn c hc=>by refine x12 (f.cell n c hc) λo ho O=>?_;exact⟨o,ho⟩
  have Nd:∀b,(b=env.locals\/(∃n,env.cells.lookup n=B' b)\/∃o',KE.heap.get? b=B' o')->∃o,s.heap.get? b=B' o:=λb hb=>by
   rcases hb with rfl|⟨n,hc⟩|⟨o',e⟩
   .exact⟨_,L4⟩
   .exact Ql n b hc
   .exact⟨o',f.old b o' fV e⟩
  have OC:∀b,(b=env.locals\/(∃n,env.cells.lookup n=B' b)\/∃o',KE.heap.get? b=B' o')->b≠W.aab:=λb hb q=>by
   refine x11 (Nd b hb) λo e=>?_;(replace e:=q▸e;replace e:=nC▸e);cases e
  have NH:∀b,(b=env.locals\/(∃n,env.cells.lookup n=B' b)\/∃o',KE.heap.get? b=B' o')->¬W.mut b:=λb hb=>by
   refine x11 (Nd b hb) λo e=>?_;exact NR b o e
  have TU:LF w KE.heap env (λy=>if y=dJ then B' (.ref W.aas) else m y) cm KH.heap:=Na.step λb o hb e=>Lw b o (by rw[L6];exact e) (NH b hb);refine x12 (Lh.look (P:=w.params) (n:=LY) wT (nm:=dJ) (v:=.tab) wU) λyt lt rt=>?_;obtain rfl:yt=_:=rt.view;have TD:∀p∈hT,adg p.1 (dO w.params lh LY)=B' F':=λp Of=>Lh.miss (by revert p;decide);refine hide λQz qz=>?_;refine x33 Na.ns λZ6 ZZ Zh M1 SG O=>?_;refine qz ?_;rw[L6] at No MS;have VN:hx≠env.locals:=λq=>by(replace No:=q▸No;replace No:=M1▸No);cases No
  have Rr:hd≠env.locals:=λq=>by(replace MS:=q▸MS;replace MS:=M1▸MS);cases MS
  have Yl:hx≠W.aab:=λq=>by(replace No:=q▸No;replace No:=OI▸No);cases No
  have Xu:hd≠W.aab:=λq=>by(replace MS:=q▸MS;replace MS:=OI▸MS);cases MS
  have Rq:¬W.mut hx:=λq=>Og.aaz q No;have RM:¬W.mut hd:=λq=>Og.aaz q MS;have Ng:∀b o,h₂.get? b=B' o->¬W.mut b->KH.heap.get? b=B' o:=λb o e=>Lw b o (by rw[L6];exact e);have TJ:KH.heap.get? W.aab=B' (eB [.none] Uz):=Ng _ _ OI R6;refine TU.set VS λLE Ou Q9 OF=>?_;have Oj:dl W Lf T0 LE:=by
   refine hide λQz qz=>?_;refine x33 TU.ns λo es ep ho Rs O=>?_;refine qz ?_;exact MX.fill Sa bL ho (.aaE Rs) OF
  have OQ:∀b o,s.heap.get? b=B' o->b≠env.locals->LE.get? b=B' o:=λb o e q=>OF b o q (Ng b o (MT b o e q) (NR b o e));have WM:∀b o,(H1 w.params).get? b=B' o->LE.get? b=B' o:=λb o e=>OQ b o (gs b o e) (λq=>by(replace e:=q▸e;replace e:=f.aai.2.1▸e);cases e);have S6:LE.get? W.aab=B' (eB [.none] Uz):=OF _ _ (bq Wo) TJ;have OR:cO LE hx hd 670 (dO w.params lh LY):=⟨OF _ _ VN LB.at_,OF _ _ Rr LB.dict⟩;have NL:∃h tk,({KH with heap:=LE,toks:=Ou}:H')={KE with heap:=h,toks:=tk}:=by
   refine hide λQz qz=>?_;refine d6 Mi λa1 a2 q=>?_;refine d6 Ml λb1 b2 q'=>?_;refine qz ?_;exact⟨LE,Ou,by rw[q',q]⟩
  generalize Pf:({KH with heap:=LE,toks:=Ou}:H')=KR at NL ⊢;have Nj:KR.heap=LE:=sb (Eq.symm (Pf)) rfl;have nd:∀(k:Int)(nm:O')(s':H')(m':O'->Option G')(xs:List G')(nn:Nat)(Q':qab)(E':qab)(q1 q2 q3 q4 q5:Pos)(c1 c2:Nat),LF w KE.heap env m' cm s'.heap->m' dJ=B' (.ref W.aas)->dl W Lf T0 s'.heap->(∀b o,(H1 w.params).get? b=B' o->s'.heap.get? b=B' o)->s'.heap.get? W.aab=B' (eB xs nn)->xs.length<=100->nm.length<=sizeLine->(∀d dd od MV t e,cO MV.heap d dd 161 od->(∃l n,od=dO w.params l n/\l.length<=999)->adg fN od=B' (B' (.int (-1) t))->adg fA od=B' (B' (.ref e))->MV.heap.get? e=B' (fb [])->¬W.mut e->dl W Lf T0 MV.heap->(∃n',MV.heap.get? W.aab=B' (eB (xs++[.ref d]) n'))->s'.heap.get? d=F'->s'.heap.get? dd=F'->d≠dd->(∀b o,s'.heap.get? b=B' o->¬W.mut b->b≠W.aab->MV.heap.get? b=B' o)->(∃h tk,MV={s' with heap:=h,toks:=tk})->Q' (.ref d) MV)->V' (ade pw w) A (Z' (.Call (.Name (Str.ofString "new_decl") q1) [.Name dJ q2,.Constant (.int k) c1 q3,.Constant (.str nm) c2 q4] [] q5) env) Q' E' s':=by
   intro k nm s' m' xs nn Q' E' q1 q2 q3 q4 q5 c1 c2 f' ht U1 g' hC' UB QH hq;have X':(K1 w.params).In s'.heap:=(eQ w.params).keeps g';refine bE (bO (gK X' f'.kind f'.globals f'.builtins (f'.gk Y4) hG.2.2.2.2 ?_) (by decide));refine callWith_K (h₀:=s'.heap) (K:=K1 w.params) X' (kr _).2.2.2 (bQ (bO (cD f'.kind (f'.var Ud ht) ?_ (by decide)) (by decide)) rfl);refine bQ (wpAny_Constant_int (bQ (wpAny_Constant_str (adl ⟨X',?_⟩)) rfl)) rfl;have go:=oM (W:=W) (base:=Lf) (T:=T0) (A:=A) (E:=E') (s:={s' with toks:=s'.toks+1+1}) (k:=k) (nm:=nm) (t₁:=s'.toks) (t₂:=s'.toks+1) (xs:=xs) (nn:=nn) (Q:=Q') Z Rj RT LP bN R6 (λb o e=>g' b o (UI b o e)) U1 (hA.mono (by decide)) hC' UB QH (λd dd od MV t e a1 a2 a3 a4 a5 a6 a7 a8 a9 a10 a11 a12 a13=>hq d dd od MV t e a1 (by rw[hw] at a2;exact a2) a3 a4 a5 a6 a7 a8 a9 a10 a11 a12 (by refine d6 a13 λh tk q=>?_;exact⟨h,tk,q⟩));dsimp only[qaa] at go;rw[hp,hw] at go;exact go
  refine bR (ady (nd 5 (Str.ofString "N") KR _ [.none] Uz _ _ _ _ _ _ _ _ _ (by rw[Nj];exact Q9) (by rw[aL (by decide),aZ rfl]) (by rw[Nj];exact Oj) (λb o e=>by rw[Nj];exact WM b o e) (by rw[Nj];exact S6) (by decide) (by decide) λd₁ acL acM Li t₁ KF acN O O O O O Os OO S1 Rx acF L5 Qc=>?_) (by unfold adL;rw[Q9.kind];rfl));refine x11 OO λTd OO=>?_;rw[Nj] at S1 Rx L5;have RL:LF w KE.heap env (λy=>if y=iY then B' (.ref hx) else if y=dJ then B' (.ref W.aas) else m y) cm Li.heap:=Q9.step λb o hb e=>L5 b o e (NH b hb) (OC b hb);have Yg:∀b o,s.heap.get? b=B' o->b≠W.aab:=λb o e q=>by(replace e:=q▸e;replace e:=nC▸e);cases e
  have MR:∀b o,s.heap.get? b=B' o->b≠env.locals->Li.heap.get? b=B' o:=λb o e q=>L5 b o (OQ b o e q) (NR b o e) (Yg b o e);have U9:∀b o,(H1 w.params).get? b=B' o->Li.heap.get? b=B' o:=λb o e=>MR b o (gs b o e) (λq=>by(replace e:=q▸e;replace e:=f.aai.2.1▸e);cases e);have NB:cO Li.heap hx hd 670 (dO w.params lh LY):=⟨L5 _ _ OR.at_ Rq Yl,L5 _ _ OR.dict RM Xu⟩;refine bR (adn (nd 2 (Str.ofString "J") Li _ _ Td _ _ _ _ _ _ _ _ _ RL (by rw[aL (by decide),aZ rfl]) Os U9 OO (by show 2<=100;decide) (by decide) λd dd od s₆ t₂ KL QI hod acO TM Pe Rp Ol OY My K4 acG Mn Qg=>?_));refine x11 OY λTE OY=>?_;have S0:LF w KE.heap env (λy=>if y=iY then B' (.ref hx) else if y=dJ then B' (.ref W.aas) else m y) cm s₆.heap:=RL.step λb o hb e=>Mn b o e (NH b hb) (OC b hb);have RY:∀b o,s.heap.get? b=B' o->b≠env.locals->s₆.heap.get? b=B' o:=λb o e q=>Mn b o (MR b o e q) (NR b o e) (Yg b o e);have OP:cO s₆.heap hx hd 670 (dO w.params lh LY):=⟨Mn _ _ NB.at_ Rq Yl,Mn _ _ NB.dict RM Xu⟩;refine S0.set TB λh₇ tk₇ WF L8=>?_;refine hide λQz qz=>?_;refine x33 RL.ns λoL5 es5 ep5 ST ac0 O=>?_;have dL:d≠env.locals:=λq=>by(replace My:=q▸My;replace My:=ST▸My);cases My
  have UJ:dd≠env.locals:=λq=>by(replace K4:=q▸K4;replace K4:=ST▸K4);cases K4
  refine x33 S0.ns λoL6 es6 ep6 Ua Ul O=>?_;have eL:KL≠env.locals:=λq=>by rw[q,Ua] at Pe;obtain rfl:=ac Pe;cases Ul
  have Vf:dl W Lf T0 h₇:=Ol.fill Sa bL Ua (.aaE Ul) L8;refine iP hod λld nd' KC hld=>?_;subst KC;refine x12 LP.inst λodT IT O=>?_;have Tv:=Os.good _ _ LP.nm.1 IT.at_;have Sp:=Os.good _ _ LP.nm.2 IT.dict;have fr:∀(b:M')(h':P'),h'.get? b=F'->(∀b o,s.heap.get? b=B' o->b≠env.locals->h'.get? b=B' o)->b≠env.locals->s.heap.get? b=F':=λb h' e k q=>by
   cases z:s.heap.get? b with
   |none=>rfl
   |some o=>have:=k b o z q;rw[e] at this;cases this
  refine qz ?_;refine hQ (W.with hx hd d dd) Lf _ _ KL ⟨hp,hw,⟨M.wd.ri,M.wd.ra,M.wd.ia,M.wd.aa,M.wd.sys⟩,Vf.with,⟨LP.inst,LP.na,LP.live,LP.nm⟩,Sn,bI,WF,(ml ?_ ?_ ?_ ?_),(xv _ (⟨L8 _ _ VN OP.at_,L8 _ _ Rr OP.dict⟩) (⟨lh,LY,rfl⟩) lt TD),(fy ld nd' (⟨L8 _ _ dL QI.at_,L8 _ _ UJ QI.dict⟩) TM (L8 _ _ eL Pe) hld),(m22 _ TE (L8 _ _ (bq Wo) OY) rfl),?_,(Iq LP.nm.1 LP.nm.2 Rq RM (λq=>Os.aaz q My) (λq=>Os.aaz q K4) R6 Rp),⟨?_,?_,?_⟩,λb o e q=>L8 b o q (RY b o e q),?_⟩
  .show(if fW=fB then _ else if fW=iY then _ else if fW=dJ then _ else m fW)=_;rw[aL (by decide),aL (by decide),aL (by decide)];exact hn
  .show(if dJ=fB then _ else if dJ=iY then _ else if dJ=dJ then _ else m dJ)=_;rw[aL (by decide),aL (by decide),aZ rfl];rfl
  .show(if iY=fB then _ else if iY=iY then _ else _)=_;rw[aL (by decide),aZ rfl];rfl
  .show(if fB=fB then _ else _)=_;rw[aZ rfl];rfl
  .rintro b (q|q|q|q|q|q|q|q)
   .rw[show b=W.aas from q];exact nT
   .rw[show b=W.aaL from q];exact nD
   .rw[show b=hx from q];exact fr hx h₂ No MT VN
   .rw[show b=hd from q];exact fr hd h₂ MS MT Rr
   .rw[show b=d from q];exact fr d Li.heap My MR dL
   .rw[show b=dd from q];exact fr dd Li.heap K4 MR UJ
   .rw[show b=W.aab from q];exact nC
   .exact Uy b q
  .intro q;have q:dd=W.aaL:=q;rw[q,Sp] at K4;cases K4
  .intro q;have q:dd=hd:=q;(replace K4:=q▸K4;replace K4:=NB.dict▸K4);cases K4
  .intro q;have q:dd=W.aas:=q;rw[q,Tv] at K4;cases K4
  .refine hide λQz qz=>?_;refine d6 NL λa1 a2 q=>?_;refine d6 Qc λb1 b2 q'=>?_;refine d6 Qg λc1 c2 q''=>?_;refine qz ?_;exact⟨h₇,tk₇,by rw[q'',q',q]⟩
theorem An.next{W:Wd}{base:P'}{xs:Sc->List Sl->TS->List adb->(List Sl->TS->cK)->cK}{KE:H'}{ss:List adb}(S:An W base n xs)(hA:Rm n A)(Qd:W.na<=9)(h:∀k,xs sc Γ T ss k=k KX T')(fs:FS W base sc env Y Γ oa T KE s){Q:Flow->H'->Prop}(q:∀NE s',FS W base sc env Y KX NE T' KE s'->(∀b o,¬W.mut b->¬Yf env Y Γ oa b->s.heap.get? b=B' o->s'.heap.get? b=B' o)->Q .next s'):qaa W A (adJ ss env) Q E s:=by
 classical
 refine bb (S (k:=λK3 T₁=>if K3=KX/\T₁=T' then B' (.aaF 9,T') else F') (r:=(.aaF 9,T')) hA (by rw[h,aZ ⟨rfl,rfl⟩]) fs) (λfl s' p=>?_) λO O e=>e
 induction fl using Flow.casesOn with
 |next=>
  refine CC p λK3 T₁ SK hk LO O kp=>?_;by_cases c:K3=KX/\T₁=T'
  .clear h hk;obtain⟨rfl,rfl⟩:=c;exact q SK s' LO kp
  .simp only[c,bg] at hk;exact no hk
 |ret x=>
  refine x02 p λrx O=>?_;exact absurd rx.view.2 (Nat.not_lt.mpr Qd)
 |_=>exact p.elim
noncomputable def ΓL(KI:List Int)(t:Sl):List Sl:=[.un,.un,.pl (.lst (KI.map .int)),.pl .tab,.pl .host,.pl .decl,t,.un,.un,.un,.un,.un,.un,.un,.un,.un,.un,.un,.un,.un,.un,.un,.un,.un,.un,.un]
theorem sP{M:Model}{Γ:PySem.Ctx}{env:Env}{E:G'->Pos->H'->Prop}{Q:Flow->Pos->H'->Prop}:∀(a b:List adb)(p:Pos)(s:H'),Sem.wp M Γ (adJ a env) (λfl p' s'=>match fl with|.next=>Sem.wp M Γ (adJ b env) Q E p' s'|fl=>Q fl p' s') E p s->Sem.wp M Γ (adJ (a++b) env) Q E p s
 |[],b,p,s,h=>h
 |st::a,b,p,s,h=>by
  rw[List.cons_append,execs_cons,Sem.wp_bind'];rw[execs_cons,Sem.wp_bind'] at h;refine Sem.wp_mono _ Γ _ (λf p' s' h'=>?_) (λO O O h'=>h') _ _ h;induction f using Flow.casesOn<;>first|exact sP a b _ _ h'|exact h'
theorem lS{Q:Flow->H'->Prop}(a b:List adb)(h:V' M A (adJ a env) (λfl s'=>match fl with|.next=>V' M A (adJ b env) Q E s'|fl=>Q fl s') E s):V' M A (adJ (a++b) env) Q E s:=λΓ p LZ=>
 sP (Q:=λf O s'=>Q f s') (E:=λe O s'=>E e s') a b p s (Sem.wp_mono _ Γ _ (λf p' s' h'=>by induction f using Flow.casesOn<;>first|exact h' Γ p' LZ|exact h') (λO O O h'=>h') _ _ (h Γ p LZ))
theorem um{n i:Nat}{x:Sl}(e:(List.replicate n Sl.un)[i]? =B' x):x=.un:=List.eq_of_mem_replicate (bV e)
variable {KI:List Int}
@[elab_as_elim] theorem vt {t x:Sl} {P:Nat->Prop} {i:Nat} (h:(ΓL KI t)[i]? =B' x) (hu:Sl.un=x->P i) (h2:.pl (.lst (KI.map .int))=x->P 2) (h3:.pl .tab=x->P 3) (h4:.pl .host=x->P 4) (h5:.pl .decl=x->P 5) (h6:t=x->P 6):P i:=by
 rcases i with _|_|_|_|_|_|_|i
 .exact hu (ac h)
 .exact hu (ac h)
 .exact h2 (ac h)
 .exact h3 (ac h)
 .exact h4 (ac h)
 .exact h5 (ac h)
 .exact h6 (ac h)
 .exact hu (um (n:=19) h).symm
theorem nA{t:Sl}{i:Nat}{v:V}(ht:∀v,t≠ .ow v)(h:(ΓL KI t)[i]? =B' (.ow v)):False:=vt (P:=λO=>False) h pL gN gN gN gN (ht v)
theorem vu(v:V):Sl.un≠ .ow v:=pL
theorem Fu(u v:V):Sl.pl u≠ .ow v:=gN
theorem FR.ach{W:Wd}{base h₀ N0:P'}(f:FR W base h₀ sc env Y Γ oa m cm h)(k:∀b o,N0.get? b=B' o->h₀.get? b=B' o):FR W base N0 sc env Y Γ oa m cm h:=by
 have n:∀b,h₀.get? b=F'->N0.get? b=F':=λb e=>by
  cases z:N0.get? b with
  |none=>rfl
  |some o=>rw[k b o z] at e;cases e
 exact {f with
  aai:=(ml f.aai.1 f.aai.2.1 f.aai.2.2.1 (n _ f.aai.2.2.2))
  aam:=λnm c hc=>let q:=f.aam nm c hc;(ml q.1 q.2.1 q.2.2.1 (n _ q.2.2.2))
  own:=λi v hi=>let q:=f.own i v hi;(EL q.1 q.2.1 q.2.2.1 q.2.2.2.1 q.2.2.2.2.1 q.2.2.2.2.2.1 (n _ q.2.2.2.2.2.2))
  old:=λb o nm e=>f.old b o nm (k b o e)}
noncomputable abbrev Fv(l:V):List Sl:=.pl l::List.replicate 25 .un
theorem yH{l:V}{i:Nat}{v:V}(e:(Fv l)[i]? =B' (.ow v)):False:=by
 induction i using Nat.casesOn with
 |zero=>exact gN (ac e)
 |succ i=>exact pL (um e).symm
@[elab_as_elim] theorem Fw {l:V} {P:Nat->V->Prop} {i:Nat} {v:V} (e:(Fv l)[i]? =B' (.pl v)) (h:P 0 l):P i v:=by
 induction i using Nat.casesOn with
 |zero=>exact Sl.pl.inj (ac e)▸h
 |succ i=>exact pK (um e).symm
theorem yI{w:U'}{KK:List Int}{QV:List Sl}{aak:V}{T1 T2 T3:TS}(hA:Rm 60 A)(g:∀b o,(H1 w.params).get? b=B' o->s.heap.get? b=B' o)(hl:s.heap.get? an=B' (eB xs nn))(hi:adP xs KK)(KO:KK.length<=sizeLine)(QC:QV[2]? =B' (.pl (.lst (KI.map .int)))\/QV[2]? =B' (.ow (.lst (KI.map .int))))(h0:∀k,R0.xs cP (Fv (.lst (KK.map .int))) qL (gx.take 2) k=k QV qL)(h1:∀k,(RB 1 30).xs cP (ΓL KI .un) T0 ((gx.drop 6).take 1) k=k (ΓL KI (.pl aak)) T1)(h7:(RB 1 30).ev cP (ΓL KI (.pl aak)) T1 e7=B' (.int 27,T2))(h8:(RB 2 30).xs cP (ΓL KI (.pl aak)) T2 (gx.drop 8) (λO T=>B' (.none,T))=B' (.bool true,T3)):V' (ade pw w) A (call (.ref 991) [.ref an]) (λv s'=>v=.bool true/\(∀b o,s.heap.get? b=B' o->s'.heap.get? b=B' o)/\∃h tk,s'={s with heap:=h,toks:=tk}) E s:=by
 refine hide λQz qz=>?_
 obtain⟨MH,Ln,o,fd,F⟩:=AI (W:=Wz w) (eQ w.params) (λO O=>fV) He
 refine tJ Fr λVs Yx lp3=>?_
 have LR:=F s.heap λb o O e=>g b o e
 refine x12 (LR.bind [.ref an] (by rw[Vs];exact br _) (by rw[Vs];simp)) λds Mm LL=>?_
 have NC:ds=[]:=by rw[Yx,List.drop_nil] at Mm;exact Mm.aaV
 refine qz ?_
 clear Qz qz
 subst NC
 have inv:dl (Wz w) (H1 w.params) qL s.heap:=yy g
 have yk:fm (Wz w) (H1 w.params) (λO=>False) s.heap:=⟨λb m=>fV m,λb f=>f.elim,λb f=>f.elim⟩
 refine aec (em (W:=Wz w) (base:=H1 w.params) MH LR (qM g) hA.room [.ref an] [] rfl (LL s rfl) λKA x E'=>?_)
 rw[a0] at x
 have LV:=gJ (h₀:=s.heap) (Γ:=Fv (.lst (KK.map .int))) (oa:=λO=>0) MH Ln LR inv yk (by rw[Vs];rfl) (λb o e=>e) x (λi v Ph=>Fw Ph ⟨.ref an,rfl,.lst (by simpa using KO) (λq=>q.elim id λ⟨_,_,q,_⟩=>yH q) hl (ij hi)⟩) (λi v Ph=>(yH Ph).elim) (λi j v u Ph=>(yH Ph).elim)
 have KV:FS (Wz w) (H1 w.params) cP (R' fd s.heap.objs.size 991) (λO=>False) (Fv (.lst (KK.map .int))) (λO=>0) qL s KA:=⟨⟨_,_,LV⟩,inv.keeps x.toInCall.keep,yk.keeps x.toInCall.keep,x.toInCall.same⟩
 have PK:Rm 59 (A.deeper (R' fd s.heap.objs.size 991)):=Rm.deeper hA
 clear LV
 generalize R' fd s.heap.objs.size 991=env at x KV PK ⊢
 have OZ:sO.body=gx.take 2++((gx.drop 2).take 4++((gx.drop 6).take 1++((gx.drop 7).take 1++gx.drop 8))):=by
  have e:∀(n m:Nat),(gx.drop n).take m++gx.drop (n+m)=gx.drop n:=λn m=>by rw[<- List.drop_drop];exact List.take_append_drop _ _
  rw[e 7 1,e 6 1,e 2 4,List.take_append_drop];rfl
 refine sb OZ ?_
 refine lS _ _ (An.next (BX w 40).xs (PK.mono (by decide)) (by show 0<=9;decide) h0 KV λacP KB KW O=>?_)
 refine hide λQz qz=>?_
 refine d6 KW.fr λLK MN Lg=>?_
 refine Ek vq λSH Ud VS TB YN=>?_
 refine GQ AN λq1 q2 q3 q4 q5 q6=>?_
 have lv:∀{n:O'},cP.names.lookup n=B' .local->cZ cP n=true:=λh=>by unfold cZ;exact sb h rfl
 refine qz ?_
 clear Qz qz
 have V8:∃bn ys kn,LK fW=B' (.ref bn)/\KB.heap.get? bn=B' (eB ys kn)/\adP ys KI/\KI.length<=sizeLine:=by
  have vm:∀y,vv env LK MN fW=B' y->LK fW=B' y:=λy e=>by
   unfold vv at e;rw[show env.kindOf fW=B' .local by unfold Env.kindOf;rw[Lg.nm];exact SH] at e;simpa using e
  rcases QC with QC|QC
  .refine hide λQz qz=>?_;refine x12 (Lg.pl fW 2 _ (lv SH) q1 QC) λy hy r=>?_;refine x35 r.abF λa ys kn KC gl rl zl O=>?_;subst KC;refine qz ?_;clear Qz qz;exact(tL a ys kn (vm _ hy) gl (jQ rl) (by simpa using zl))
  .have hy:=Lg.ow fW 2 _ (lv SH) q1 QC;refine hide λQz qz=>?_;obtain⟨⟨⟨ys,⟨kn,gl⟩,rl⟩,zl⟩,_⟩:=Lg.own 2 _ QC;refine qz ?_;clear Qz qz;exact(tL _ ys kn (vm _ hy) gl (jQ rl) (by simpa using zl))
 refine hide λQz qz=>?_
 refine CC V8 λbn ys kn Zy Se Zf ZC=>?_
 have Mg:∀b o,(H1 w.params).get? b=B' o->KB.heap.get? b=B' o:=λb o e=>Lg.old b o fV (g b o e)
 refine qz ?_
 clear Qz qz
 refine AS (PK.mono (by decide)) g Lg.forget Zy KW.same λW base Qo KH ee M=>?_
 clear F LR Mm inv yk KV KW;obtain rfl:w=W.w:=M.ww.symm
 have KZ:=M.f
 refine hide λQz qz=>?_
 refine x33 Lg.ns λZ6 ZZ Zh M1 SG O=>?_
 refine x33 KZ.ns λoL3 XS ep3 V2 Vq O=>?_
 have Pa:∀n c,env.cells.lookup n=B' c->∃o,KB.heap.get? c=B' o/\∃v,o.data=.cell v:=λn c hc=>by refine x12 (Lg.cell n c hc) λo ho hd=>?_;exact⟨o,ho,_,hd⟩
 have OJ:∀b,Hm env b->∃o,KB.heap.get? b=B' o:=λb hb=>by
  rcases hb with rfl|⟨n,hc⟩
  .exact⟨_,M1⟩
  .refine x12 (Pa n b hc) λo e O=>?_;exact⟨o,e⟩
 have M0:∀b,(∃o,KB.heap.get? b=B' o)->¬(b=W.aas\/b=W.aaL\/b=W.aaC\/b=W.aaI\/b=W.aax\/b=W.aao\/b=W.aab\/W.mut b):=λb ⟨o,e⟩ q=>by rw[M.fresh b q] at e;exact no e
 have LN:∀b,(∃o,KB.heap.get? b=B' o)->¬W.mut b:=λb h q=>M0 b h (.inr (.inr (.inr (.inr (.inr (.inr (.inr q)))))))
 have Qf:∀b,(∃o,KB.heap.get? b=B' o)->b≠W.aao:=λb h q=>M0 b h (.inr (.inr (.inr (.inr (.inr (.inl q))))))
 have OD:∀b,Hm env b->base.get? b=F':=λb hb=>by
  cases z:base.get? b with
  |none=>rfl
  |some o=>
   have hH:(H1 W.w.params).get? b=F':=by
    rcases hb with rfl|⟨n,hc⟩
    .exact KZ.aai.2.1
    .exact(KZ.aam n b hc).2.1
   rcases M.abc b o z with⟨o',q⟩|q|q
   .exact absurd (hH.symm.trans q) (λz=>nomatch z)
   .exact absurd (.inl q) (M0 b (OJ b hb))
   .exact absurd (.inr (.inl q)) (M0 b (OJ b hb))
 refine qz ?_
 clear Qz qz
 have QS:∀b o,(fg KH.heap λb=>¬Hm env b).get? b=B' o->KH.heap.get? b=B' o:=λb o e=>(gM e).2
 have OX:∀b,Hm env b->(fg KH.heap λb=>¬Hm env b).get? b=F':=λb hb=>(dP _ _ _).2 (λq=>q hb)
 have OK:∀b o,¬Hm env b->KH.heap.get? b=B' o->(fg KH.heap λb=>¬Hm env b).get? b=B' o:=λb o q e=>by rw[(dP KH.heap (λb=>¬Hm env b) b).1 q];exact e
 generalize acQ:(fg KH.heap λb=>¬Hm env b)=h₀ at QS OX OK
 have Wu:¬Hm env bn:=λhb=>by
  rcases hb with q|⟨n,hc⟩
  .rw[q,M1] at Se;obtain rfl:=ac Se;cases SG
  .obtain⟨o,e,v,hd⟩:=Pa n bn hc;rw[Se] at e;obtain rfl:=ac e;cases hd
 have Ro:KH.heap.get? bn=B' (eB ys kn):=M.keep _ _ Se (λq=>Wu (.inl q))
 have vm:∀{n:O'}{y:G'},cP.names.lookup n=B' .local->Qo n=B' y->vv env Qo MN n=B' y:=λ{n y} hn e=>by
  unfold vv;(refine sb (show env.kindOf n=B' .local by unfold Env.kindOf;rw[KZ.nm];exact hn) ?_;refine sb (aZ rfl) ?_);exact e
 have inj:∀{n n':O'}{i:Nat},db cP.slots n=B' i->db cP.slots n'=B' i->n=n':=λh h'=>qD h h'
 have Q0:fm W base (λb=>W.mut b\/b=W.aao) KH.heap:=by
  refine iP M.decl λld nd od O=>?_;refine⟨λb m=>.inl m,λb yb=>?_,λb yb m=>?_⟩
  .rcases yb with mb|rfl
   .exact M.inv.aat mb
   .exact⟨_,od.dict,.aaE rfl⟩
  .rcases yb with mb|rfl
   .exact absurd mb m
   .cases z:base.get? W.aao with
    |none=>rfl
    |some o=>
     rcases M.abc _ o z with⟨o',q⟩|q|q
     .have:=M.fresh W.aao (.inr (.inr (.inr (.inr (.inr (.inl rfl))))));rw[Mg _ _ q] at this;cases this
     .exact absurd q M.ap.2.2
     .exact absurd q M.ap.1
 have SL:FR W base h₀ cP env (λb=>W.mut b\/b=W.aao) (ΓL KI .un) (λO=>0) Qo MN KH.heap:=
  {kind:=KZ.kind
   globals:=KZ.globals
   builtins:=KZ.builtins
   nm:=KZ.nm
   ns:=KZ.ns
   cell:=KZ.cell
   has:=KZ.has
   apart:=KZ.apart
   ne:=KZ.ne
   aai:=(ml (LN _ ⟨_,M1⟩) (OD _ (.inl rfl)) (λq=>q.elim (LN _ ⟨_,M1⟩) (Qf _ ⟨_,M1⟩)) (OX _ (.inl rfl)))
   aam:=λn c hc=>by
    refine x12 (Pa n c hc) λo e O=>?_
    exact(ml (LN _ ⟨o,e⟩) (OD _ (.inr ⟨n,hc⟩)) (λq=>q.elim (LN _ ⟨o,e⟩) (Qf _ ⟨o,e⟩)) (OX _ (.inr ⟨n,hc⟩)))
   aaj:=KZ.aaj
   pl:=λn i v O hp hi=>vt (P:=λi=>db cP.slots n=B' i->∃y,vv env Qo MN n=B' y/\VR W KH.heap (Yf env (λb=>W.mut b\/b=W.aao) (ΓL KI .un) λO=>0) y v) hi pK (λe hp=>by
     obtain rfl:=inj hp q1
     obtain rfl:=Sl.pl.inj e
     refine⟨_,vm SH M.vars.1,.lst (by simpa using ZC) ?_ Ro (ij Zf)⟩
     rintro ((q|q)|q|q|⟨i',v',q,_⟩)
     .exact LN _ ⟨_,Se⟩ q
     .exact Qf _ ⟨_,Se⟩ q
     .exact Wu (.inl q)
     .exact Wu (.inr q)
     .exact nA vu q)
    (λe hp=>inj hp q2▸⟨_,vm Ud M.vars.2.1,Sl.pl.inj e▸ .tab⟩) (λe hp=>inj hp q3▸⟨_,vm VS M.vars.2.2.1,Sl.pl.inj e▸ .host⟩) (λe hp=>inj hp q4▸⟨_,vm TB M.vars.2.2.2,Sl.pl.inj e▸ .decl⟩) pK hp
   ow:=λn i v O O hi=>(nA vu hi).elim
   own:=λi v hi=>(nA vu hi).elim
   inj:=λi j v u hi=>(nA vu hi).elim
   old:=λb o O e=>QS b o e}
 have fsA:FS W base cP env (λb=>W.mut b\/b=W.aao) (ΓL KI .un) (λO=>0) T0 {KH with heap:=h₀} KH:=⟨⟨_,_,SL⟩,M.inv,Q0,⟨KH.heap,KH.toks,rfl⟩⟩
 have N9:∀a∈as1,¬W.mut a:=λa ha mb=>by
  refine x11 (nr (P:=W.w.params) ha) λo e=>?_;exact LN a ⟨o,Mg a o e⟩ mb
 have Z1:=AB (W:=W) (base:=base) (lv:=1) (.inl rfl) M.wd M.X N9 M.lay (λh=>by cases h)
 have Qd:W.na<=9:=by rw[M.lay.na];decide
 refine sb (Eq.symm (M.prog)) ?_
 refine lS _ _ (An.next (vn Z1 30).xs (PK.mono (by decide)) Qd h1 fsA λNS KR SQ O=>?_)
 refine sb AQ ?_
 .skip;refine bR (adp (SQ.aa6 (vn Z1 30).ev (PK.mono (by decide)) (kO.refl _) h7 λy Li Nt NK ry=>?_) (Ft _));refine x11 ry.view λty KC=>?_;subst KC;refine hide λQz qz=>?_;refine d6 NK.fr λVG Th Me=>?_;refine x12 (Me.pl fB 5 .decl (lv TB) q4 rfl) λyd Zw rd=>?_;refine qz ?_;clear Qz qz;obtain rfl:yd=_:=rd.view;refine bO (cD Me.kind (Me.aa5 (lv TB) Zw) ?_ (by decide)) (by decide);have QL:∀b o,¬Hm env b->¬W.mut b->KH.heap.get? b=B' o->Li.heap.get? b=B' o:=λb o q nm e=>Me.old b o nm (OK b o q e);refine x24 M.decl λld nd T8 WZ Uv hzD=>?_;have Um:∀b,KB.heap.get? b=F'->¬Hm env b:=λb e hb=>by refine x11 (OJ b hb) λo q=>?_;rw[e] at q;exact no q
  have Mk:∀{b:M'},(b=W.aas\/b=W.aaL\/b=W.aaC\/b=W.aaI\/b=W.aax\/b=W.aao\/b=W.aab\/W.mut b)->¬Hm env b:=λh=>Um _ (M.fresh _ h);have Pi:cO Li.heap W.aax W.aao 161 (dO W.w.params ld nd):=⟨QL _ _ (Mk (.inr (.inr (.inr (.inr (.inl rfl)))))) M.nm.2.2.2.2.1 T8.at_,QL _ _ (Mk (.inr (.inr (.inr (.inr (.inr (.inl rfl))))))) M.nm.2.2.2.2.2.1 T8.dict⟩;have V4:(K1 W.w.params).In Li.heap:=B0 M.X N9 NK.inv.good;have S8:fU (K1 W.w.params) 161 fN=true:=aE.mp (yD W.w.params 0 0 fN) _ nz;refine sL V4 Pi S8 (by exact O1 hzD rfl) λMh QR ac1 ac2 TK RI O=>?_;have UA:base.get? W.aao=F':=by
   cases z:base.get? W.aao with
   |none=>rfl
   |some o=>
    rcases M.abc _ o z with⟨o',q⟩|q|q
    .have:=M.fresh W.aao (.inr (.inr (.inr (.inr (.inr (.inl rfl))))));rw[Mg _ _ q] at this;cases this
    .exact absurd q M.ap.2.2
    .exact absurd q M.ap.1
  have Ol:dl W base T2 Mh:=NK.inv.fill M.nm.2.2.2.2.2.1 UA Pi.dict (.aaE rfl) RI;have Uf:∀b o,(fg KH.heap λb=>¬Hm env b/\b≠W.aao).get? b=B' o->h₀.get? b=B' o:=λb o e=>by refine x02 (gM e) λq e'=>?_;exact OK b o q.1 e'
  have Tm:(fg KH.heap λb=>¬Hm env b/\b≠W.aao).get? W.aao=F':=(dP _ _ _).2 (λq=>q.2 rfl);have SR:∀b o,¬Hm env b->b≠W.aao->KH.heap.get? b=B' o->(fg KH.heap λb=>¬Hm env b/\b≠W.aao).get? b=B' o:=λb o q q' e=>by rw[(dP KH.heap (λb=>¬Hm env b/\b≠W.aao) b).1 ⟨q,q'⟩];exact e
  generalize (fg KH.heap λb=>¬Hm env b/\b≠W.aao)=h02 at Uf Tm SR;have Lb:=(Me.ach Uf).hid (X:=W.aao) (.inr rfl) Tm RI;have Ub:∀b o,¬Hm env b->¬W.mut b->b≠W.aao->KH.heap.get? b=B' o->Mh.get? b=B' o:=λb o q nm q' e=>RI b o q' (QL b o q nm e);have Qu:∀b o,((∃o,base.get? b=B' o)\/b=W.aaC\/b=W.aaI\/b=W.aax\/b=W.aao\/b=W.aab\/b=ee)->Mh.get? b=B' o->(fg Mh λb=>(∃o,base.get? b=B' o)\/b=W.aaC\/b=W.aaI\/b=W.aax\/b=W.aao\/b=W.aab\/b=ee).get? b=B' o:=λb o q e=>by
   rw[(dP Mh (λb=>(∃o,base.get? b=B' o)\/b=W.aaC\/b=W.aaI\/b=W.aax\/b=W.aao\/b=W.aab\/b=ee) b).1 q];exact e
  have Vb:∀b o,(fg Mh λb=>(∃o,base.get? b=B' o)\/b=W.aaC\/b=W.aaI\/b=W.aax\/b=W.aao\/b=W.aab\/b=ee).get? b=B' o->((∃o,base.get? b=B' o)\/b=W.aaC\/b=W.aaI\/b=W.aax\/b=W.aao\/b=W.aab\/b=ee)/\Mh.get? b=B' o:=λb o e=>gM e;generalize (fg Mh λb=>(∃o,base.get? b=B' o)\/b=W.aaC\/b=W.aaI\/b=W.aax\/b=W.aao\/b=W.aab\/b=ee)=aaY at Qu Vb;have bB:∀b o,¬W.mut b->base.get? b=B' o->aaY.get? b=B' o:=λb o nm e=>Qu b o (.inl ⟨o,e⟩) (Ol.good b o nm e);have X2:(K1 W.w.params).In aaY:=B0 M.X N9 bB;have aci:im W aaY:=by
   refine hide λQz qz=>?_;refine x12 M.lay.inst λod I r=>?_;refine qz ?_;clear Qz qz;exact⟨⟨od,⟨bB _ _ M.lay.nm.1 I.at_,bB _ _ M.lay.nm.2 I.dict⟩,r⟩,M.lay.na,M.lay.live,M.lay.nm⟩
  have NM:∀{b:M'}{o:Obj},KH.heap.get? b=B' o->o.data≠(dO W.w.params ld nd).data->b≠W.aao:=λe q z=>by rw[z,T8.dict] at e;obtain rfl:=ac e;exact q rfl
  have Xr:¬Hm env ee:=λhb=>by
   rcases hb with q|⟨n,hc⟩
   .rw[q,V2] at Uv;obtain rfl:=ac Uv;cases Vq
   .refine x12 (KZ.cell n ee hc) λo ho hd=>?_;rw[Uv] at ho;obtain rfl:=ac ho;cases hd
  have Ut:qK W aaY:=by
   obtain⟨od,IH,⟨lh,nh,rfl⟩,lt,lm⟩:=M.host;refine iP M.decls λxd nx Ww Zj=>?_;refine⟨(lU _ (⟨Qu _ _ (.inr (.inl rfl)) (Ub _ _ (Mk (.inr (.inr (.inl rfl)))) M.nm.2.2.1 (NM IH.at_ (λq=>by cases q)) IH.at_),Qu _ _ (.inr (.inr (.inl rfl))) (Ub _ _ (Mk (.inr (.inr (.inr (.inl rfl))))) M.nm.2.2.2.1 (bq M.ap.2.1) IH.dict)⟩) lt lm),⟨M.nm.2.2.1,M.nm.2.2.2.1⟩,(tO _ ty ee (⟨Qu _ _ (.inr (.inr (.inr (.inl rfl)))) (Ub _ _ (Mk (.inr (.inr (.inr (.inr (.inl rfl)))))) M.nm.2.2.2.2.1 (NM T8.at_ (λq=>by cases q)) T8.at_),Qu _ _ (.inr (.inr (.inr (.inr (.inl rfl))))) TK⟩) ?_ ?_ (Qu _ _ (.inr (.inr (.inr (.inr (.inr (.inr rfl)))))) (Ub _ _ Xr M.nm.2.2.2.2.2.2.2 (NM Uv (λq=>by cases q)) Uv)) M.nm.2.2.2.2.2.2.2),⟨M.nm.2.2.2.2.1,M.nm.2.2.2.2.2.1⟩,(m22 xd nx (Qu _ _ (.inr (.inr (.inr (.inr (.inr (.inl rfl)))))) (Ub _ _ (Mk (.inr (.inr (.inr (.inr (.inr (.inr (.inl rfl)))))))) M.nm.2.2.2.2.2.2.1 (NM Ww (λq=>by cases q)) Ww)) Zj),M.nm.2.2.2.2.2.2.1⟩
   .rw[fL,lj,aZ rfl]
   .rw[fL,lj,aL (by decide)];rw[fL] at WZ;exact WZ
  have Z2:=AB (W:=W) (base:=aaY) (lv:=2) (.inr rfl) M.wd X2 N9 aci (λO=>Ut);have Xc:∀b,Hm env b->aaY.get? b=F':=λb hb=>by
   cases z:aaY.get? b with
   |none=>rfl
   |some o=>
    refine x02 (Vb b o z) λq O=>?_;rcases q with⟨o',q⟩|q|q|q|q|q|q
    .rw[OD b hb] at q;exact no q
    .exact absurd hb (Mk (.inr (.inr (.inl q))))
    .exact absurd hb (Mk (.inr (.inr (.inr (.inl q)))))
    .exact absurd hb (Mk (.inr (.inr (.inr (.inr (.inl q))))))
    .exact absurd hb (Mk (.inr (.inr (.inr (.inr (.inr (.inl q)))))))
    .exact absurd hb (Mk (.inr (.inr (.inr (.inr (.inr (.inr (.inl q))))))))
    .exact absurd hb (q▸Xr)
  have Wy:∀b,Yf env W.mut (ΓL KI (.pl aak)) NS b->Yf env (λb=>W.mut b\/b=W.aao) (ΓL KI (.pl aak)) NS b:=by
   rintro b (q|q|q|q)
   .exact .inl (.inl q)
   .exact .inr (.inl q)
   .exact .inr (.inr (.inl q))
   .exact .inr (.inr (.inr q))
  have Nx:∀{i:Nat}{v:V},(ΓL KI (.pl aak))[i]? =B' (.ow v)->False:=λhi=>nA (Fu _) hi;have frB:FR W aaY h02 cP env W.mut (ΓL KI (.pl aak)) NS VG Th Mh:=
   {kind:=Lb.kind
    globals:=Lb.globals
    builtins:=Lb.builtins
    nm:=Lb.nm
    ns:=Lb.ns
    cell:=Lb.cell
    has:=Lb.has
    apart:=Lb.apart
    ne:=Lb.ne
    aai:=(ml Lb.aai.1 (Xc _ (.inl rfl)) Lb.aai.1 Lb.aai.2.2.2)
    aam:=λn c hc=>(ml ((Lb.aam n c hc).1) (Xc _ (.inr ⟨n,hc⟩)) ((Lb.aam n c hc).1) ((Lb.aam n c hc).2.2.2))
    aaj:=Lb.aaj
    pl:=λn i v a b c=>by refine x12 (Lb.pl n i v a b c) λx p q=>?_;exact⟨x,p,q.weaken Wy⟩
    ow:=λn i v O O hi=>(Nx hi).elim
    own:=λi v hi=>(Nx hi).elim
    inj:=λi j v u hi=>(Nx hi).elim
    old:=Lb.old}
  have QY:dl W aaY T2 Mh:=⟨λb o O e=>(Vb b o e).2,Ol.rows,Ol.idx,Ol.aux⟩;have V7:FS W aaY cP env W.mut (ΓL KI (.pl aak)) NS T2 {KH with heap:=h02} {Li with heap:=Mh,toks:=QR}:=⟨⟨_,_,frB⟩,QY,⟨λb m=>m,λb m=>QY.aat m,λb m nm=>absurd m nm⟩,by
   refine d6 NK.same λa1 a2 q=>?_
   exact⟨Mh,QR,by exact sb q rfl⟩⟩
  refine bb ((vn Z2 30).xs (PK.mono (by decide)) h8 V7) (λfl ac3 p=>?_) λO O e=>e;induction fl using Flow.casesOn with
  |next=>refine x32 p λKX T' NE hk O=>?_;cases hk
  |ret z=>
   refine tJ p λrz O Tn=>?_;obtain rfl:z=_:=rz.view;refine⟨rfl,λb o e=>?_,?_⟩
   .have e2:=Lg.old b o fV e;have nH:¬Hm env b:=λhb=>by
     rcases hb with q|⟨n,hc⟩
     .rw[q,Lg.aai.2.2.2] at e;exact no e
     .rw[(Lg.aam n b hc).2.2.2] at e;exact no e
    have e3:=M.keep b o e2 (λq=>nH (.inl q));exact Tn.keep b o (LN b ⟨o,e2⟩) (SR b o nH (Qf b ⟨o,e2⟩) e3)
   .refine iP Tn λa1 a2 q O=>?_;refine d6 M.same λb1 b2 q'=>?_;exact⟨a1,a2,by rw[q,q']⟩
  |_=>exact p.elim
noncomputable def sv(x:String):V:=.str (Str.ofString x)
noncomputable def it(l:List Int):V:=.tup (l.map .int)
noncomputable def vw:List V:=[.tup [.int 3,sv "a",.int 0],.tup [.int 4,.int 0,.int 0],.tup [.int 3,sv "x",.int 0],.tup [.int 3,sv "",.int 0],.tup [.int 4,.int 1,.int 0],.tup [.int 6,it [5,16]],.tup [.int 6,it [16,17]],.tup [.int 6,it [4,5]],.tup [.int 5,.int 1,sv "A",.int 1,.int 0],.tup [.int 5,.int 1,sv "B",.int 0,.int 1],.tup [.int 6,it [4,6]]]
noncomputable def yJ:V:=.tup [.int 8,.tup [.tup [sv "k",.int 16,.int 0,.int 0]],.tup [],.tup [],.tup [],.tup [],.int 0]
noncomputable def T1:TS:=⟨pI++vw,fx 0 (pI++vw),[],[],[]⟩
noncomputable def T2:TS:=⟨pI++vw++[yJ],fx 0 (pI++vw++[yJ]),[],[],[]⟩
noncomputable def abZ:List (Int×List Int):=[(16,[5]),(18,[6]),(19,[4]),(17,[7]),(20,[8]),(9,[3]),(8,[2]),(12,[2,3]),(5,[1]),(4,[0]),(21,[5,1]),(22,[5,7]),(23,[0,1]),(6,[4,5,6]),(7,[7,8]),(24,[8]),(25,[7]),(26,[0,4,5,6]),(10,[9]),(11,[2,3,4,5,6,7,8,9]),(1,[0,1,2,3,4,5,6,7,8,9])]
noncomputable def aak:V:=.lst (abZ.map λp=>.tup [.int p.1,.lst (p.2.map .int)])
theorem h1(KI:List Int):∀k,(RB 1 30).xs cP (ΓL KI .un) T0 ((gx.drop 6).take 1) k=k (ΓL KI (.pl aak)) T1:=by intro k;kernel_rfl
theorem h7(KI:List Int):(RB 1 30).ev cP (ΓL KI (.pl aak)) T1 e7=B' (.int 27,T2):=by kernel_rfl
noncomputable def Dq(v:V)(T:TS):Option (Option V×TS):=C' (C' (cI .Mod v (.int 999983)) λz=>B' (z,T)) λr=>B' (B' r.1,r.2)
noncomputable def yK(k:List Sl->TS->cK)(l:V)(q:V×TS):cK:=(C' (C' (C' (zL q.1 q.2) λv=>B' (v,q.2)) λp=>C' (cu p.2 .Eq p.1 (.int 0)) λb=>B' (b,p.2)) λp=>
  bif p.1 then k [.pl l,.un,.ow (.lst [.int 22]),.un,.un,.un,.un,.un,.un,.un,.un,.un,.un,.un,.un,.un,.un,.un,.un,.un,.un,.un,.un,.un,.un,.un] p.2
  else k [.pl l,.un,.pl q.1,.un,.un,.un,.un,.un,.un,.un,.un,.un,.un,.un,.un,.un,.un,.un,.un,.un,.un,.un,.un,.un,.un,.un] p.2)
theorem J9(l:List V)(k:List Sl->TS->cK):R0.xs cP (.pl (.lst l)::List.replicate 25 .un) qL (gx.take 2) k=(C' (fit (l.take 16).length ()) λO=>C' (cC Dq (l.take 16) qL) λq=>B' (.lst q.1,q.2)).bind (yK k (.lst l)):=by kernel_rfl
noncomputable def numsOf(KK:List Int):List Int:=match KK.take 16 with
 |[]=>[22]
 |l=>l.map λx=>x%999983
theorem vy(T:TS):∀l:List Int,cC Dq (l.map .int) T=B' ((l.map λx=>V.int (x%999983)),T)
 |[]=>rfl
 |x::l=>by
  have h:Dq (.int x) T=B' (B' (.int (x%999983)),T):=rfl;simp only[aC,mq,fk,h,vy T l,Option.bind]
theorem h0(KK:List Int):∃QV:List Sl,(QV[2]? =B' (.pl (.lst ((numsOf KK).map .int)))\/QV[2]? =B' (.ow (.lst ((numsOf KK).map .int))))/\∀k,R0.xs cP (.pl (.lst (KK.map .int))::List.replicate 25 .un) qL (gx.take 2) k=k QV qL:=by
 have hf:∀k,R0.xs cP (.pl (.lst (KK.map .int))::List.replicate 25 .un) qL (gx.take 2) k=yK k (.lst (KK.map .int)) (.lst ((KK.take 16).map λx=>V.int (x%999983)),qL):=λk=>by
  rw[J9,<- List.map_take,vy];have:fit ((KK.take 16).map V.int).length ()=B' ():=by
   unfold fit;have:((KK.take 16).map V.int).length<=sizeLine:=by
    rw[ae,List.length_take];exact aG (Nat.min_le_left _ _) (by decide)
   refine sb (ak this) ?_;rfl
  rw[this];rfl
 cases hs:KK.take 16 with
 |nil=>
  refine⟨[.pl (.lst (KK.map .int)),.un,.ow (.lst [.int 22]),.un,.un,.un,.un,.un,.un,.un,.un,.un,.un,.un,.un,.un,.un,.un,.un,.un,.un,.un,.un,.un,.un,.un],.inr ?_,λk=>?_⟩
  .unfold numsOf;refine sb hs ?_;rfl
  .rw[hf,hs];kernel_rfl
 |cons a l=>
  refine⟨[.pl (.lst (KK.map .int)),.un,.pl (.lst ((a::l).map λx=>V.int (x%999983))),.un,.un,.un,.un,.un,.un,.un,.un,.un,.un,.un,.un,.un,.un,.un,.un,.un,.un,.un,.un,.un,.un,.un],.inl ?_,λk=>?_⟩
  .unfold numsOf;refine sb hs ?_;show B' (Sl.pl (.lst ((a::l).map λx=>V.int (x%999983))))=B' (Sl.pl (.lst (((a::l).map λx=>x%999983).map V.int)));refine sb bw ?_;rfl
  .rw[hf,hs];have:cu qL .Eq (.int ((a::l).map λx=>V.int (x%999983)).length) (.int 0)=B' false:=by
    show B' (((((a::l).map λx=>V.int (x%999983)).length:Nat):Int)==0)=B' false;rfl
   have e1:∀(l:List V)(T:TS),zL (.lst l) T=B' (.int l.length):=λO O=>rfl;unfold yK;simp only[e1,Option.bind,this,cond_false]
theorem uo(KK:List Int):numsOf KK≠[]/\∀x∈numsOf KK,0<=x/\x<999983:=by
 unfold numsOf
 cases hs:KK.take 16 with
 |nil=>exact⟨by simp,by simp⟩
 |cons a l=>
  refine⟨by simp,λx hx=>?_⟩;obtain⟨y,_,rfl⟩:=aJ.mp hx;exact⟨bU _ (by decide),bz _ (by decide)⟩
noncomputable def Ka:adb->Nat->List adb
 |.If _ a _ _,0=>a
 |.If _ _ b _,1=>b
 |.For _ _ b _ _,0=>b
 |_,_=>[]
noncomputable abbrev Kn:=List Sl->TS->cK
noncomputable abbrev ph:=Em (gZ 2)
noncomputable def Hf:List adb->List (Nat×Nat)->List adb
 |l,[]=>l
 |l,(i,c)::p=>match l[i]? with
  |some s=>Hf (Ka s c) p
  |none=>[]
noncomputable def kk(n d:Nat)(a:M')(p:List (Nat×Nat))(i:Nat)(k:Kn):Kn:=λG T=>(rc (gZ 2) (ph n) (lW (gZ 2) n) d).xs (aal (fnAt a)) G T ((Hf (fnAt a).body p).drop i) k
noncomputable def ke:Kn:=λ_ T=>B' (V.none,T)
noncomputable def ff(n d:Nat)(a:M')(x:String)(p:List (Nat×Nat))(v:V)(G:List Sl)(T:TS)(k:Kn):cK:=C' (du (aal (fnAt a)) G (Str.ofString x) (.pl v)) λG=>(rc (gZ 2) (ph n) (lW (gZ 2) n) d).xs (aal (fnAt a)) G T (Hf (fnAt a).body p) k
theorem sQ(n:Nat)(A:V)(T:TS):ph (n+1) 137 [.tab,A] T=(C' (C' (cu T .In A .idxH) λb5=>B' (b5,T)) λp1=>bif p1.1 then(C' (cv 2 p1.2 .idxH A) λz=>B' (z,p1.2)) else(C' (C' (fZ "len" [.aan] p1.2) λv=>B' (v,p1.2)) λp2=>(C' (tP .aan A p2.2) λT3=>(C' (qr .idxH A p2.1 T3) λT4=>B' (p2.1,T4))))):=by kernel_rfl
theorem uq(n:Nat)(A:V)(T:TS):ph (n+1) 534 [.host,A] T=B' (A,T):=by kernel_rfl
theorem jY(n:Nat)(A:V)(T:TS):ph (n+1) 653 [.host,A] T=ph n 679 [.tab,A] T:=by kernel_rfl
theorem ur(n:Nat)(A:V)(T:TS):ph (n+1) 172 [.tab,A] T=(C' (C' (cv 2 T .aan A) λz=>B' (z,T)) λp1=>(C' (cv 2 p1.2 p1.1 (.int 0)) λz=>B' (z,p1.2))):=by kernel_rfl
theorem sR(n:Nat)(A B C D E F:V)(T:TS):ph (n+1) 197 [.tab,A,B,C,D,E,F] T=(C' (C' (C' (C' (C' (ph n 185 [A] T) λp8=>(C' (C' (C' (rO "tuple" [B]) λv=>B' (v,p8.2)) λp9=>(C' (C' (C' (rO "tuple" [C]) λv=>B' (v,p9.2)) λKM=>B' ([KM.1,D,E,F],KM.2)) λNY=>B' (p9.1::NY.1,NY.2))) λN6=>B' (p8.1::N6.1,N6.2))) λQ3=>B' ((.int 8)::Q3.1,Q3.2)) λK5=>C' (fit K5.1.length (V.tup K5.1)) λv=>B' (v,K5.2)) λLz=>B' ([Lz.1],Lz.2)) λLd=>ph n 137 (.tab::Ld.1) Ld.2):=by kernel_rfl
theorem qO(n:Nat)(A B C:V)(T:TS):ph (n+1) 212 [.tab,A,B,C] T=(C' (C' (fZ "len" [(.aaF 0)] T) λv=>B' (v,T)) λp1=>(C' (tP (.aaF 0) B p1.2) λT2=>(C' (tP (.aaF 1) C T2) λT3=>(C' (tP (.aaF 2) A T3) λT4=>ph n 137 [.tab,(.tup [(.int 10),p1.1])] T4)))):=by kernel_rfl
theorem iZ(n:Nat)(A:V)(T:TS):ph (n+1) 226 [.tab,A] T=(C' (C' (cu T .Eq A (.int 2)) λb6=>B' (b6,T)) λp1=>bif p1.1 then B' ((.tup []),p1.2) else(C' (C' (cv 2 p1.2 .aan A) λz=>B' (z,p1.2)) λp2=>(C' (C' (C' (cv 2 p2.2 p2.1 (.int 0)) λz=>B' (z,p2.2)) λp4=>(C' (cu p4.2 .Eq p4.1 (.int 6)) λb5=>B' (b5,p4.2))) λp3=>bif p3.1 then(C' (cv 2 p3.2 p2.1 (.int 1)) λz=>B' (z,p3.2)) else B' ((.tup [A]),p3.2)))):=by kernel_rfl
theorem lX(n:Nat)(A:V)(T:TS):ph (n+1) 233 [A] T=(C' (C' (cv 2 T A (.int 0)) λz=>B' (z,T)) λp1=>(C' (C' (C' (cu p1.2 .Eq p1.1 (.int 3)) λMU=>B' (MU,p1.2)) λKM=>bif KM.1 then B' (true,KM.2) else(C' (C' (cu KM.2 .Eq p1.1 (.int 18)) λMW=>B' (MW,KM.2)) λKT=>bif KT.1 then B' (true,KT.2) else B' (false,KT.2))) λp2=>bif p2.1 then B' ((.int 6),p2.2) else(C' (C' (cu p2.2 .Eq p1.1 (.int 4)) λb9=>B' (b9,p2.2)) λp3=>bif p3.1 then B' ((.int 7),p3.2) else(C' (C' (cu p3.2 .Eq p1.1 (.int 5)) λb8=>B' (b8,p3.2)) λp4=>bif p4.1 then(C' (C' (C' (C' (cv 2 p4.2 A (.int 3)) λz=>B' (z,p4.2)) λp6=>(C' (rP p6.1) λb=>B' (V.bool b,p6.2))) λp7=>(C' (cw p7.1) λb=>B' (b,p7.2))) λp5=>bif p5.1 then B' ((.int 6),p5.2) else B' ((.int 7),p5.2)) else B' ((.int (-1)),p4.2))))):=by kernel_rfl
theorem fC(n:Nat)(A:V)(T:TS):ph (n+1) 240 [.tab,A] T=(C' (C' (cv 2 T .aan A) λz=>B' (z,T)) λp1=>(C' (C' (C' (C' (cv 2 p1.2 p1.1 (.int 0)) λz=>B' (z,p1.2)) λp8=>(C' (cu p8.2 .In p8.1 (.tup [(.int 2),(.int 3),(.int 4),(.int 5),(.int 8)])) λb9=>B' (b9,p8.2))) λp7=>bif p7.1 then(C' (C' (C' (cv 2 p7.2 p1.1 (.int (-1))) λz=>B' (z,p7.2)) λKS=>(C' (cu KS.2 .Eq KS.1 (.int 1)) λQa=>B' (Qa,KS.2))) λKM=>bif KM.1 then B' (true,KM.2) else B' (false,KM.2)) else B' (false,p7.2)) λp2=>bif p2.1 then(C' (C' (C' (C' (j8 (.int (-1))) λk=>C' (hJ p1.1 F' (B' k)) λv=>B' (v,p2.2)) λp4=>(C' (cI .Add p4.1 (.tup [(.int 0)])) λz=>B' (z,p4.2))) λp5=>B' ([p5.1,(.int (-1))],p5.2)) λp6=>jz (gZ 2) (ph n) .idxH (Str.ofString "get") p6.1 p6.2) else B' ((.int (-1)),p2.2))):=by kernel_rfl
theorem oN(n:Nat)(A:V)(T:TS):lW (gZ 2) (n+1) 247 A T=(C' (C' (C' (C' (cu T .In (.int 8) A) λb6=>B' (b6,T)) λp5=>bif p5.1 then B' (true,p5.2) else(C' (C' (cu p5.2 .In (.int 14) A) λb8=>B' (b8,p5.2)) λp7=>bif p7.1 then B' (true,p7.2) else B' (false,p7.2))) λp4=>bif p4.1 then(C' (C' (C' (cu p4.2 .In (.int 9) A) λMU=>B' (MU,p4.2)) λKM=>bif KM.1 then B' (true,KM.2) else(C' (C' (cu KM.2 .In (.int 15) A) λMW=>B' (MW,KM.2)) λKT=>bif KT.1 then B' (true,KT.2) else B' (false,KT.2))) λp9=>bif p9.1 then B' (true,p9.2) else B' (false,p9.2)) else B' (false,p4.2)) λp1=>bif p1.1 then(C' (hZ A (.int 8) (.int 1)) λc2=>(C' (hZ c2 (.int 9) (.int 1)) λc3=>B' (c3,p1.2))) else B' (A,p1.2)):=by kernel_rfl
theorem lY(n:Nat)(A B:V)(T:TS):ph (n+1) 254 [.tab,A,B] T=(C' (C' (ph n 240 [.tab,B] T) λp6=>(C' (cu p6.2 .In p6.1 A) λb7=>B' (b7,p6.2))) λp1=>bif p1.1 then B' ((.bool false),p1.2) else(C' (C' (C' (C' (cv 2 p1.2 .aan B) λz=>B' (z,p1.2)) λp2=>B' ([p2.1],p2.2)) λp3=>ph n 233 p3.1 p3.2) λp4=>(C' (C' (cu p4.2 .NotIn p4.1 A) λb5=>B' (b5,p4.2)) λq=>B' (V.bool q.1,q.2)))):=by kernel_rfl
noncomputable def nB(n:Nat):V->List Sl->TS->Kn->cK:=ff n 29 261 "t" [(0,0)]
noncomputable def nF(n:Nat):Kn:=kk n 30 261 [] 1 ke
theorem gy(n:Nat)(v:V)(A:V)(s:Sl)(hs:s.aae=false)(T:TS)(k:Kn):nB n v [.pl A,s] T k=(C' (C' (cu T .In v A) λb2=>B' (b2,T)) λp1=>bif p1.1 then B' (v,p1.2) else k [.pl A,.pl v] p1.2):=by kernel_rfl
theorem oO(n:Nat)(A:V)(s:Sl)(hs:s.aae=false)(T:TS):nF n [.pl A,s] T=B' ((.int (-1)),T):=by kernel_rfl
theorem wV(n:Nat)(A:V)(T:TS):ph (n+1) 261 [A] T=(C' (C' (cy (.tup [(.int 0),(.int 13),(.int 1)])) λl=>B' (l,T)) λp1=>C' (fit p1.1.length ()) λ_=>cG (nB n) p1.1 [.pl A,.un] p1.2 (nF n)):=by kernel_rfl
noncomputable def gO(n:Nat):V->List Sl->TS->Kn->cK:=ff n 29 266 "t" [(1,0)]
noncomputable def jh(n:Nat):V->List Sl->TS->Kn->cK:=ff n 28 266 "part" [(1,0),(0,0)]
noncomputable def lk(n:Nat)(k:Kn):Kn:=kk n 29 266 [(1,0)] 1 k
noncomputable def ln(n:Nat):Kn:=kk n 30 266 [] 2 ke
noncomputable def pM(n:Nat):Kn:=kk n 30 266 [] 3 ke
noncomputable def pN(n:Nat):Kn:=kk n 30 266 [] 6 ke
theorem qP(n:Nat)(v:V)(A B C:V)(s:Sl)(hs:s.aae=false)(T:TS)(k:Kn):jh n v [.pl .tab,.pl A,.ow B,.pl C,s,.un,.un] T k=(C' (hZ B v (.int 1)) λc1=>k [.pl .tab,.pl A,.ow c1,.pl C,.pl v,.un,.un] T):=by kernel_rfl
theorem qQ(n:Nat)(A B C:V)(s:Sl)(hs:s.aae=false)(T:TS)(k:Kn):lk n k [.pl .tab,.pl A,.ow B,.pl C,s,.un,.un] T=k [.pl .tab,.pl A,.ow B,.pl C,s,.un,.un] T:=by kernel_rfl
theorem qR(n:Nat)(v:V)(A B:V)(s t:Sl)(hs:s.aae=false)(ht:t.aae=false)(T:TS)(k:Kn):gO n v [.pl .tab,.pl A,.ow B,s,t,.un,.un] T k=(C' (C' (ph n 226 [.tab,v] T) λp2=>(C' (cy p2.1) λl=>B' (l,p2.2))) λp1=>C' (fit p1.1.length ()) λ_=>cG (jh n) p1.1 [.pl .tab,.pl A,.ow B,.pl v,t,.un,.un] p1.2 (lk n k)):=by kernel_rfl
theorem oP(n:Nat)(A B:V)(s t:Sl)(C D:V)(hs:s.aae=false)(ht:t.aae=false)(T:TS):pN n [.pl .tab,.pl A,.pl B,s,t,.pl C,.pl D] T=(C' (C' (C' (cw D) λb=>B' (b,T)) λLd=>B' (!Ld.1,Ld.2)) λp1=>bif p1.1 then B' ((.int 2),p1.2) else(C' (C' (C' (fZ "len" [D] p1.2) λv=>B' (v,p1.2)) λK5=>(C' (cu K5.2 .Eq K5.1 (.int 1)) λUr=>B' (Ur,K5.2))) λp2=>bif p2.1 then(C' (cv 2 p2.2 D (.int 0)) λz=>B' (z,p2.2)) else(C' (C' (C' (fZ "len" [D] p2.2) λv=>B' (v,p2.2)) λKT=>(C' (cu KT.2 .Gt KT.1 (.int 400)) λMW=>B' (MW,KT.2))) λp3=>bif p3.1 then(F':cK) else(C' (C' (C' (C' (C' (C' (rO "tuple" [D]) λv=>B' (v,p3.2)) λp7=>B' ([p7.1],p7.2)) λq8=>B' ((.int 6)::q8.1,q8.2)) λp9=>C' (fit p9.1.length (V.tup p9.1)) λv=>B' (v,p9.2)) λKM=>B' ([KM.1],KM.2)) λKS=>ph n 137 (.tab::KS.1) KS.2)))):=by kernel_rfl
theorem qS(n:Nat)(A B:V)(s t:Sl)(C:V)(hs:s.aae=false)(ht:t.aae=false)(T:TS):pM n [.pl .tab,.pl A,.ow B,s,t,.pl C,.un] T=(C' (C' (cu T .GtE C (.int 0)) λMW=>B' (MW,T)) λp1=>bif p1.1 then B' (C,p1.2) else(C' (lW (gZ 2) n 247 B p1.2) λp2=>(C' (C' (C' (C' (fZ "sorted" [p2.1] p2.2) λv=>B' (v,p2.2)) λp8=>(C' (cy p8.1) λl=>B' (l,p8.2))) λp3=>C' (fit p3.1.length ()) λ_=>C' (cC (λv5 U6=>(C' (C' (C' (ph n 254 [.tab,p2.1,v5] U6) λKS=>(C' (cw KS.1) λb=>B' (b,KS.2))) λKM=>bif KM.1 then B' (true,KM.2) else B' (false,KM.2)) λc9=>bif c9.1 then(C' (B' (v5,c9.2)) λr7=>B' (B' r7.1,r7.2)) else B' (F',c9.2))) p3.1 p3.2) λq4=>B' (V.lst q4.1,q4.2)) λKT=>(C' (du (aal (fnAt 266)) (bif V.flat KT.1 then [.pl .tab,.pl A,.ow p2.1,s,t,.pl C,.un] else [.pl .tab,.pl A,.pl p2.1,s,t,.pl C,.un]) (Str.ofString "kept") (.pl KT.1)) λG=>(pN n) G KT.2)))):=by cases s<;>first|exact nb hs.symm|kernel_rfl
theorem qU(n:Nat)(A B:V)(s t:Sl)(hs:s.aae=false)(ht:t.aae=false)(T:TS):ln n [.pl .tab,.pl A,.ow B,s,t,.un,.un] T=(C' (ph n 261 [B] T) λp1=>(C' (du (aal (fnAt 266)) (bif V.flat p1.1 then [.pl .tab,.pl A,.ow B,s,t,.un,.un] else [.pl .tab,.pl A,.pl B,s,t,.un,.un]) (Str.ofString "top") (.pl p1.1)) λG=>(pM n) G p1.2)):=by kernel_rfl
theorem yL(n:Nat)(A:V)(T:TS):ph (n+1) 266 [.tab,A] T=(C' (C' (cy A) λl=>B' (l,T)) λp1=>C' (fit p1.1.length ()) λ_=>cG (gO n) p1.1 [.pl .tab,.pl A,.ow (.di []),.un,.un,.un,.un] p1.2 (ln n)):=by kernel_rfl
theorem qV(n:Nat)(A:V)(T:TS):ph (n+1) 273 [.tab,A] T=ph n 266 [.tab,(.tup [A,(.int 4)])] T:=by kernel_rfl
theorem lT(n:Nat)(A:V)(T:TS):ph (n+1) 294 [.tab,A] T=(C' (C' (cv 2 T .aan A) λz=>B' (z,T)) λp1=>(C' (C' (C' (cv 2 p1.2 p1.1 (.int 0)) λz=>B' (z,p1.2)) λp2=>(C' (C' (cu p2.2 .In p2.1 (.tup [(.int 2),(.int 3),(.int 4),(.int 5),(.int 8)])) λb3=>B' (b3,p2.2)) λq=>B' (V.bool q.1,q.2))) λp4=>(C' (cw p4.1) λb5=>bif b5 then(C' (C' (cv 2 p4.2 p1.1 (.int (-1))) λz=>B' (z,p4.2)) λp6=>(C' (C' (cu p6.2 .Eq p6.1 (.int 1)) λb7=>B' (b7,p6.2)) λq=>B' (V.bool q.1,q.2))) else B' (p4.1,p4.2)))):=by kernel_rfl
theorem nG(n:Nat)(A:V)(T:TS):ph (n+1) 301 [.tab,A] T=(C' (C' (ph n 294 [.tab,A] T) λp8=>(C' (cw p8.1) λb=>B' (b,p8.2))) λp1=>bif p1.1 then(C' (C' (C' (C' (C' (cv 2 p1.2 .aan A) λz=>B' (z,p1.2)) λp4=>(C' (j8 (.int (-1))) λk=>C' (hJ p4.1 F' (B' k)) λv=>B' (v,p4.2))) λp5=>(C' (cI .Add p5.1 (.tup [(.int 0)])) λz=>B' (z,p5.2))) λp6=>B' ([p6.1],p6.2)) λp7=>ph n 137 (.tab::p7.1) p7.2) else B' (A,p1.2)):=by kernel_rfl
theorem pO(n:Nat)(A:V)(T:TS):ph (n+1) 325 [.tab,A] T=(C' (C' (cv 2 T .aan A) λz=>B' (z,T)) λp1=>(C' (C' (cv 2 p1.2 p1.1 (.int 0)) λz=>B' (z,p1.2)) λp2=>(C' (C' (cu p2.2 .Eq p2.1 (.int 1)) λM7=>B' (M7,p2.2)) λp3=>bif p3.1 then jz (gZ 2) (ph n) (.di [(3,(.int 6)),(4,(.int 5)),(5,(.int 4)),(6,(.int 1)),(7,(.int 2)),(10,(.int 7))]) (Str.ofString "get") [A,(.int 0)] p3.2 else(C' (C' (cu p3.2 .Eq p2.1 (.int 2)) λWA=>B' (WA,p3.2)) λp4=>bif p4.1 then B' ((.int 3),p4.2) else(C' (C' (cu p4.2 .In p2.1 (.tup [(.int 8),(.int 9),(.int 11),(.int 12),(.int 13)])) λQi=>B' (Qi,p4.2)) λp5=>bif p5.1 then B' ((.int 7),p5.2) else(C' (C' (cu p5.2 .Eq p2.1 (.int 6)) λPn=>B' (Pn,p5.2)) λp6=>bif p6.1 then(C' (C' (C' (C' (cv 2 p6.2 p1.1 (.int 1)) λz=>B' (z,p6.2)) λp7=>B' ([p7.1],p7.2)) λq8=>B' (.tab::q8.1,q8.2)) λp9=>ph n 311 p9.1 p9.2) else(C' (C' (cu p6.2 .Eq p2.1 (.int 7)) λOU=>B' (OU,p6.2)) λKM=>bif KM.1 then(C' (C' (C' (C' (cv 2 KM.2 p1.1 (.int 1)) λz=>B' (z,KM.2)) λKS=>B' ([KS.1],KS.2)) λN6=>B' (.tab::N6.1,N6.2)) λK2=>ph n 318 K2.1 K2.2) else(C' (ph n 233 [p1.1] KM.2) λK5=>(C' (C' (cu K5.2 .Lt K5.1 (.int 0)) λRC=>B' (RC,K5.2)) λLz=>bif Lz.1 then B' ((.int 0),Lz.2) else(C' (C' (cu Lz.2 .Eq K5.1 (.int 6)) λPM=>B' (PM,Lz.2)) λLd=>bif Ld.1 then B' ((.int 1),Ld.2) else B' ((.int 2),Ld.2))))))))))):=by kernel_rfl
theorem gz(n:Nat)(A:V)(T:TS):ph (n+1) 357 [.tab,A] T=(C' (C' (cv 2 T .aan A) λz=>B' (z,T)) λp1=>(C' (C' (C' (C' (cv 2 p1.2 p1.1 (.int 0)) λz=>B' (z,p1.2)) λLI=>(C' (cu LI.2 .Eq LI.1 (.int 9)) λWp=>B' (Wp,LI.2))) λLe=>bif Le.1 then(C' (C' (C' (C' (cv 2 Le.2 p1.1 (.int 2)) λz=>B' (z,Le.2)) λMF=>(C' (cw MF.1) λb=>B' (b,MF.2))) λLj=>B' (!Lj.1,Lj.2)) λLr=>bif Lr.1 then B' (true,Lr.2) else B' (false,Lr.2)) else B' (false,Le.2)) λp2=>bif p2.1 then(C' (C' (C' (cv 2 p2.2 p1.1 (.int 1)) λz=>B' (z,p2.2)) λp3=>(C' (cv 2 p3.2 .aau p3.1) λz=>B' (z,p3.2))) λp4=>(C' (C' (C' (C' (gF (gZ 2) p4.1 (Str.ofString "body")) λv=>B' (v,p4.2)) λp9=>(C' (cu p9.2 .Lt p9.1 (.int 0)) λOd=>B' (Od,p9.2))) λp8=>bif p8.1 then B' (true,p8.2) else(C' (C' (C' (gF (gZ 2) p4.1 (Str.ofString "bases")) λv=>B' (v,p8.2)) λKT=>(C' (cw KT.1) λb=>B' (b,KT.2))) λKS=>bif KS.1 then B' (true,KS.2) else(C' (C' (C' (C' (C' (C' (gF (gZ 2) p4.1 (Str.ofString "body")) λv=>B' (v,KS.2)) λK5=>B' ([K5.1],K5.2)) λM4=>B' (.tab::M4.1,M4.2)) λLd=>ph n 172 Ld.1 Ld.2) λL7=>(C' (cu L7.2 .NotEq L7.1 (.int 8)) λRC=>B' (RC,L7.2))) λK2=>bif K2.1 then B' (true,K2.2) else B' (false,K2.2)))) λp5=>bif p5.1 then B' ((.tup []),p5.2) else(C' (C' (C' (gF (gZ 2) p4.1 (Str.ofString "body")) λv=>B' (v,p5.2)) λp6=>(C' (cv 2 p6.2 .aan p6.1) λz=>B' (z,p6.2))) λp7=>(C' (cv 2 p7.2 p7.1 (.int 1)) λz=>B' (z,p7.2))))) else(C' (C' (C' (cv 2 p2.2 p1.1 (.int 0)) λz=>B' (z,p2.2)) λLp=>(C' (cu Lp.2 .Eq Lp.1 (.int 8)) λQi=>B' (Qi,Lp.2))) λK9=>bif K9.1 then(C' (cv 2 K9.2 p1.1 (.int 1)) λz=>B' (z,K9.2)) else B' ((.tup []),K9.2)))):=by kernel_rfl
noncomputable def dT(n:Nat):V->List Sl->TS->Kn->cK:=ff n 29 364 "prop" [(1,0)]
noncomputable def fh(n:Nat):Kn:=kk n 30 364 [] 2 ke
noncomputable def gP(n:Nat):V->List Sl->TS->Kn->cK:=ff n 29 364 "prop" [(2,0)]
noncomputable def gQ(n:Nat):Kn:=kk n 30 364 [] 3 ke
theorem jr(n:Nat)(v:V)(A B C:V)(s:Sl)(hs:s.aae=false)(T:TS)(k:Kn):dT n v [.pl .tab,.pl A,.pl B,.ow C,s] T k=(C' (C' (cv 2 T v (.int 0)) λz=>B' (z,T)) λp1=>(C' (hZ C p1.1 v) λc2=>k [.pl .tab,.pl A,.pl B,.ow c2,.pl v] p1.2)):=by kernel_rfl
theorem js(n:Nat)(v:V)(A B C:V)(s:Sl)(hs:s.aae=false)(T:TS)(k:Kn):gP n v [.pl .tab,.pl A,.pl B,.ow C,s] T k=(C' (C' (C' (C' (cv 2 T v (.int 0)) λz=>B' (z,T)) λp3=>(C' (cu p3.2 .In p3.1 C) λb4=>B' (b4,p3.2))) λp2=>bif p2.1 then(C' (C' (C' (C' (C' (C' (C' (cv 2 p2.2 v (.int 0)) λz=>B' (z,p2.2)) λp8=>(C' (cv 2 p8.2 C p8.1) λz=>B' (z,p8.2))) λp9=>B' ([p9.1,v],p9.2)) λXQ=>B' (.tab::XQ.1,XQ.2)) λKS=>ph n 350 KS.1 KS.2) λKT=>(C' (cw KT.1) λb=>B' (b,KT.2))) λp5=>bif p5.1 then B' (true,p5.2) else B' (false,p5.2)) else B' (false,p2.2)) λp1=>bif p1.1 then B' ((.bool true),p1.2) else k [.pl .tab,.pl A,.pl B,.ow C,.pl v] p1.2):=by kernel_rfl
theorem jt(n:Nat)(A B C:V)(s:Sl)(hs:s.aae=false)(T:TS):gQ n [.pl .tab,.pl A,.pl B,.ow C,s] T=B' ((.bool false),T):=by kernel_rfl
theorem ju(n:Nat)(A B C:V)(s:Sl)(hs:s.aae=false)(T:TS):fh n [.pl .tab,.pl A,.pl B,.ow C,s] T=(C' (C' (ph n 357 [.tab,B] T) λp2=>(C' (cy p2.1) λl=>B' (l,p2.2))) λp1=>C' (fit p1.1.length ()) λ_=>cG (gP n) p1.1 [.pl .tab,.pl A,.pl B,.ow C,s] p1.2 (gQ n)):=by kernel_rfl
theorem lZ(n:Nat)(A B:V)(T:TS):ph (n+1) 364 [.tab,A,B] T=(C' (C' (ph n 357 [.tab,A] T) λp2=>(C' (cy p2.1) λl=>B' (l,p2.2))) λp1=>C' (fit p1.1.length ()) λ_=>cG (dT n) p1.1 [.pl .tab,.pl A,.pl B,.ow (.di []),.un] p1.2 (fh n)):=by kernel_rfl
theorem ma(n:Nat)(A B C D:V)(T:TS):ph (n+1) 385 [.tab,A,B,C,D] T=(C' (C' (cu T .Eq A (.int 11)) λMW=>B' (MW,T)) λp1=>bif p1.1 then B' ((.int 2),p1.2) else(C' (C' (cu p1.2 .Eq B (.int 11)) λQa=>B' (Qa,p1.2)) λp2=>bif p2.1 then B' ((.int 1),p2.2) else(C' (C' (cu p2.2 .NotEq C D) λMU=>B' (MU,p2.2)) λp3=>bif p3.1 then(C' (C' (C' (cu p3.2 .Eq A (.int 10)) λb6=>B' (b6,p3.2)) λp5=>bif p5.1 then B' (true,p5.2) else(C' (C' (cu p5.2 .Eq B (.int 10)) λb8=>B' (b8,p5.2)) λp7=>bif p7.1 then B' (true,p7.2) else B' (false,p7.2))) λp4=>bif p4.1 then B' ((.int 0),p4.2) else B' ((.int 3),p4.2)) else(C' (C' (ph n 364 [.tab,A,B] p3.2) λKM=>(C' (cw KM.1) λb=>B' (b,KM.2))) λp9=>bif p9.1 then B' ((.int 0),p9.2) else B' ((.int 3),p9.2))))):=by kernel_rfl
theorem io(n:Nat)(A B:V)(T:TS):ph (n+1) 392 [.tab,A,B] T=(C' (C' (C' (cu T .Eq A B) λM7=>B' (M7,T)) λLe=>bif Le.1 then B' (true,Le.2) else(C' (C' (ph n 240 [.tab,B] Le.2) λLr=>(C' (cu Lr.2 .Eq Lr.1 A) λWm=>B' (Wm,Lr.2))) λLo=>bif Lo.1 then B' (true,Lo.2) else B' (false,Lo.2))) λp1=>bif p1.1 then B' ((.int 1),p1.2) else(C' (C' (ph n 240 [.tab,A] p1.2) λLp=>(C' (cu Lp.2 .Eq Lp.1 B) λQi=>B' (Qi,Lp.2))) λp2=>bif p2.1 then B' ((.int 2),p2.2) else(C' (ph n 325 [.tab,A] p2.2) λp3=>(C' (ph n 325 [.tab,B] p3.2) λp4=>(C' (C' (C' (cu p4.2 .Eq p3.1 (.int 0)) λPM=>B' (PM,p4.2)) λLd=>bif Ld.1 then B' (true,Ld.2) else(C' (C' (cu Ld.2 .Eq p4.1 (.int 0)) λOU=>B' (OU,Ld.2)) λK0=>bif K0.1 then B' (true,K0.2) else B' (false,K0.2))) λp5=>bif p5.1 then B' ((.int 3),p5.2) else(C' (C' (C' (ph n 332 [p3.1] p5.2) λK2=>(C' (cw K2.1) λb=>B' (b,K2.2))) λKT=>bif KT.1 then B' (true,KT.2) else(C' (C' (ph n 332 [p4.1] KT.2) λLz=>(C' (cw Lz.1) λb=>B' (b,Lz.2))) λK5=>bif K5.1 then B' (true,K5.2) else B' (false,K5.2))) λp6=>bif p6.1 then ph n 371 [A,B,p3.1,p4.1] p6.2 else(C' (C' (C' (cu p6.2 .Eq p3.1 (.int 7)) λb9=>B' (b9,p6.2)) λp8=>bif p8.1 then B' (true,p8.2) else(C' (C' (cu p8.2 .Eq p4.1 (.int 7)) λMU=>B' (MU,p8.2)) λKM=>bif KM.1 then B' (true,KM.2) else B' (false,KM.2))) λp7=>bif p7.1 then ph n 385 [.tab,A,B,p3.1,p4.1] p7.2 else ph n 378 [.tab,A,B,p3.1,p4.1] p7.2))))))):=by kernel_rfl
noncomputable def nJ(n:Nat):V->List Sl->TS->Kn->cK:=ff n 29 399 "one" [(2,0)]
noncomputable def jZ(n:Nat):Kn:=kk n 30 399 [] 3 ke
theorem jF(n:Nat)(v:V)(A B C D:V)(s t:Sl)(hs:s.aae=false)(ht:t.aae=false)(T:TS)(k:Kn):nJ n v [.pl .tab,.pl A,.pl B,.ow C,.pl D,s,t] T k=(C' (ph n 392 [.tab,v,B] T) λp1=>(C' (C' (cu p1.2 .Eq p1.1 (.int 0)) λMU=>B' (MU,p1.2)) λp2=>bif p2.1 then B' (.none,p2.2) else(C' (C' (cu p2.2 .Eq p1.1 (.int 1)) λOd=>B' (Od,p2.2)) λp3=>bif p3.1 then(C' (C' (cu p3.2 .NotEq p1.1 (.int 2)) λb6=>B' (b6,p3.2)) λp4=>bif p4.1 then(C' (eW C v) λc5=>k [.pl .tab,.pl A,.pl B,.ow c5,.pl (.bool true),.pl v,.pl p1.1] p4.2) else k [.pl .tab,.pl A,.pl B,.ow C,.pl (.bool true),.pl v,.pl p1.1] p4.2) else(C' (C' (cu p3.2 .NotEq p1.1 (.int 2)) λb9=>B' (b9,p3.2)) λp7=>bif p7.1 then(C' (eW C v) λc8=>k [.pl .tab,.pl A,.pl B,.ow c8,.pl D,.pl v,.pl p1.1] p7.2) else k [.pl .tab,.pl A,.pl B,.ow C,.pl D,.pl v,.pl p1.1] p7.2)))):=by kernel_rfl
theorem jG(n:Nat)(A B C D:V)(s t:Sl)(hs:s.aae=false)(ht:t.aae=false)(T:TS):jZ n [.pl .tab,.pl A,.pl B,.ow C,.pl D,s,t] T=(C' (C' (C' (cw D) λb=>B' (b,T)) λp3=>B' (!p3.1,p3.2)) λp1=>bif p1.1 then(C' (eW C B) λc2=>B' (c2,p1.2)) else B' (C,p1.2)):=by kernel_rfl
theorem pP(n:Nat)(A B:V)(T:TS):ph (n+1) 399 [.tab,A,B] T=(C' (C' (cy A) λl=>B' (l,T)) λp1=>C' (fit p1.1.length ()) λ_=>cG (nJ n) p1.1 [.pl .tab,.pl A,.pl B,.ow (.lst []),.pl (.bool false),.un,.un] p1.2 (jZ n)):=by kernel_rfl
theorem fX(n:Nat)(A:V)(T:TS):ph (n+1) 406 [.tab,A] T=(C' (C' (cv 2 T .aan A) λz=>B' (z,T)) λp1=>(C' (C' (C' (cv 2 p1.2 p1.1 (.int 0)) λz=>B' (z,p1.2)) λp8=>(C' (cu p8.2 .Eq p8.1 (.int 7)) λb9=>B' (b9,p8.2))) λp2=>bif p2.1 then(C' (cv 2 p2.2 p1.1 (.int 1)) λz=>B' (z,p2.2)) else(C' (C' (C' (cv 2 p2.2 p1.1 (.int 0)) λz=>B' (z,p2.2)) λp6=>(C' (cu p6.2 .Eq p6.1 (.int 8)) λb7=>B' (b7,p6.2))) λp3=>bif p3.1 then(C' (C' (ph n 301 [.tab,A] p3.2) λp4=>B' ([p4.1],p4.2)) λp5=>C' (fit p5.1.length (V.tup p5.1)) λv=>B' (v,p5.2)) else B' ((.tup [A]),p3.2)))):=by kernel_rfl
noncomputable def i0(n:Nat):V->List Sl->TS->Kn->cK:=ff n 29 411 "one" [(1,0)]
noncomputable def eR(n:Nat):Kn:=kk n 30 411 [] 2 ke
theorem gc(n:Nat)(v:V)(A B:V)(s:Sl)(C:V)(hs:s.aae=false)(T:TS)(k:Kn):i0 n v [.pl .tab,.pl A,.pl B,s,.pl C] T k=(C' (ph n 399 [.tab,C,v] T) λp1=>(C' (C' (cu p1.2 .Is p1.1 .none) λb3=>B' (b3,p1.2)) λp2=>bif p2.1 then B' ((.int 2),p2.2) else k [.pl .tab,.pl A,.pl B,.pl v,.pl p1.1] p2.2)):=by kernel_rfl
theorem gd(n:Nat)(A B:V)(s:Sl)(C:V)(hs:s.aae=false)(T:TS):eR n [.pl .tab,.pl A,.pl B,s,.pl C] T=(C' (C' (C' (fZ "len" [C] T) λv=>B' (v,T)) λVD=>(C' (cu VD.2 .Eq VD.1 (.int 1)) λZB=>B' (ZB,VD.2))) λp1=>bif p1.1 then(C' (cv 2 p1.2 C (.int 0)) λz=>B' (z,p1.2)) else(C' (C' (C' (C' (C' (C' (C' (C' (C' (cy C) λl=>B' (l,p1.2)) λVZ=>C' (fit VZ.1.length ()) λ_=>C' (cC (λZc U73=>(C' (ph n 301 [.tab,Zc] U73) λYk=>B' (B' Yk.1,Yk.2))) VZ.1 VZ.2) λW1=>B' (V.lst W1.1,W1.2)) λSd=>B' ([Sd.1],Sd.2)) λXi=>(C' (rO "tuple" Xi.1) λv=>B' (v,Xi.2))) λSm=>B' ([Sm.1],Sm.2)) λXe=>B' ((.int 7)::Xe.1,Xe.2)) λVA=>C' (fit VA.1.length (V.tup VA.1)) λv=>B' (v,VA.2)) λX9=>B' ([X9.1],X9.2)) λXx=>ph n 137 (.tab::Xx.1) Xx.2)):=by cases s<;>first|exact nb hs.symm|kernel_rfl
theorem jH(n:Nat)(A B:V)(T:TS):ph (n+1) 411 [.tab,A,B] T=(C' (C' (C' (ph n 406 [.tab,A] T) λp6=>(C' (cy p6.1) λl=>B' (l,p6.2))) λp1=>C' (fit p1.1.length ()) λ_=>C' (cC (λv3 U4=>(C' (B' (v3,U4)) λr5=>B' (B' r5.1,r5.2))) p1.1 p1.2) λq2=>B' (V.lst q2.1,q2.2)) λp7=>(C' (C' (ph n 406 [.tab,B] p7.2) λp9=>(C' (cy p9.1) λl=>B' (l,p9.2))) λp8=>C' (fit p8.1.length ()) λ_=>cG (i0 n) p8.1 [.pl .tab,.pl A,.pl B,.un,.pl p7.1] p8.2 (eR n))):=by kernel_rfl
noncomputable def ky(n:Nat):V->List Sl->TS->Kn->cK:=ff n 29 418 "one" [(3,0)]
noncomputable def fJ(n:Nat):V->List Sl->TS->Kn->cK:=ff n 28 418 "other" [(3,0),(0,0)]
noncomputable def ip(n:Nat)(k:Kn):Kn:=kk n 29 418 [(3,0)] 1 k
noncomputable def iq(n:Nat):Kn:=kk n 30 418 [] 4 ke
theorem iJ(n:Nat)(v:V)(A B C D:V)(s t:Sl)(hs:s.aae=false)(ht:t.aae=false)(T:TS)(k:Kn):fJ n v [.pl .tab,.pl A,.pl B,.ow C,.pl D,s,t] T k=(C' (ph n 411 [.tab,D,v] T) λp1=>(C' (C' (cu p1.2 .NotEq p1.1 (.int 2)) λOd=>B' (Od,p1.2)) λp2=>bif p2.1 then(C' (hZ C p1.1 (.int 1)) λc3=>(C' (C' (C' (fZ "len" [c3] p2.2) λv=>B' (v,p2.2)) λp5=>(C' (cu p5.2 .Gt p5.1 (.int 200)) λb6=>B' (b6,p5.2))) λp4=>bif p4.1 then(F':cK) else k [.pl .tab,.pl A,.pl B,.ow c3,.pl D,.pl v,.pl p1.1] p4.2)) else(C' (C' (C' (fZ "len" [C] p2.2) λv=>B' (v,p2.2)) λp8=>(C' (cu p8.2 .Gt p8.1 (.int 200)) λb9=>B' (b9,p8.2))) λp7=>bif p7.1 then(F':cK) else k [.pl .tab,.pl A,.pl B,.ow C,.pl D,.pl v,.pl p1.1] p7.2))):=by kernel_rfl
theorem iK(n:Nat)(A B C D:V)(s t:Sl)(hs:s.aae=false)(ht:t.aae=false)(T:TS)(k:Kn):ip n k [.pl .tab,.pl A,.pl B,.ow C,.pl D,s,t] T=k [.pl .tab,.pl A,.pl B,.ow C,.pl D,s,t] T:=by kernel_rfl
theorem iL(n:Nat)(v:V)(A B C:V)(s t u:Sl)(hs:s.aae=false)(ht:t.aae=false)(hu:u.aae=false)(T:TS)(k:Kn):ky n v [.pl .tab,.pl A,.pl B,.ow C,s,t,u] T k=(C' (C' (ph n 226 [.tab,B] T) λp2=>(C' (cy p2.1) λl=>B' (l,p2.2))) λp1=>C' (fit p1.1.length ()) λ_=>cG (fJ n) p1.1 [.pl .tab,.pl A,.pl B,.ow C,.pl v,t,u] p1.2 (ip n k)):=by kernel_rfl
theorem iM(n:Nat)(A B C:V)(s t u:Sl)(hs:s.aae=false)(ht:t.aae=false)(hu:u.aae=false)(T:TS):iq n [.pl .tab,.pl A,.pl B,.ow C,s,t,u] T=(C' (C' (C' (C' (fZ "sorted" [C] T) λv=>B' (v,T)) λp1=>B' ([p1.1],p1.2)) λq2=>B' (.tab::q2.1,q2.2)) λp3=>ph n 266 p3.1 p3.2):=by kernel_rfl
theorem i3(n:Nat)(A B:V)(T:TS):ph (n+1) 418 [.tab,A,B] T=(C' (C' (C' (cu T .Eq A B) λb7=>B' (b7,T)) λp6=>bif p6.1 then B' (true,p6.2) else(C' (C' (cu p6.2 .Eq B (.int 1)) λb9=>B' (b9,p6.2)) λp8=>bif p8.1 then B' (true,p8.2) else B' (false,p8.2))) λp1=>bif p1.1 then B' (A,p1.2) else(C' (C' (cu p1.2 .Eq A (.int 1)) λb5=>B' (b5,p1.2)) λp2=>bif p2.1 then B' (B,p2.2) else(C' (C' (ph n 226 [.tab,A] p2.2) λp4=>(C' (cy p4.1) λl=>B' (l,p4.2))) λp3=>C' (fit p3.1.length ()) λ_=>cG (ky n) p3.1 [.pl .tab,.pl A,.pl B,.ow (.di []),.un,.un,.un] p3.2 (iq n)))):=by kernel_rfl
noncomputable def pQ(n:Nat):V->List Sl->TS->Kn->cK:=ff n 29 425 "t" [(0,0)]
noncomputable def pR(n:Nat):Kn:=kk n 30 425 [] 1 ke
noncomputable def pS(n:Nat):V->List Sl->TS->Kn->cK:=ff n 29 425 "t" [(2,0)]
noncomputable def pT(n:Nat):Kn:=kk n 30 425 [] 3 ke
theorem ir(n:Nat)(v:V)(A:V)(s:Sl)(hs:s.aae=false)(T:TS)(k:Kn):pQ n v [.pl .tab,.pl A,s,.un] T k=(C' (C' (cu T .In v A) λb2=>B' (b2,T)) λp1=>bif p1.1 then B' (v,p1.2) else k [.pl .tab,.pl A,.pl v,.un] p1.2):=by kernel_rfl
theorem kz(n:Nat)(v:V)(A:V)(s:Sl)(B:V)(hs:s.aae=false)(T:TS)(k:Kn):pS n v [.pl .tab,.pl A,s,.pl B] T k=(C' (ph n 418 [.tab,B,v] T) λp1=>k [.pl .tab,.pl A,.pl v,.pl p1.1] p1.2):=by kernel_rfl
theorem qW(n:Nat)(A:V)(s:Sl)(B:V)(hs:s.aae=false)(T:TS):pT n [.pl .tab,.pl A,s,.pl B] T=B' (B,T):=by kernel_rfl
theorem qX(n:Nat)(A:V)(s:Sl)(hs:s.aae=false)(T:TS):pR n [.pl .tab,.pl A,s,.un] T=(C' (C' (cy A) λl=>B' (l,T)) λp1=>C' (fit p1.1.length ()) λ_=>cG (pS n) p1.1 [.pl .tab,.pl A,s,.pl (.int 1)] p1.2 (pT n)):=by kernel_rfl
theorem yM(n:Nat)(A:V)(T:TS):ph (n+1) 425 [.tab,A] T=(C' (C' (cy (.tup [(.int 2),(.int 0),(.int 13)])) λl=>B' (l,T)) λp1=>C' (fit p1.1.length ()) λ_=>cG (pQ n) p1.1 [.pl .tab,.pl A,.un,.un] p1.2 (pR n)):=by kernel_rfl
theorem kA(n:Nat)(A:V)(T:TS):ph (n+1) 464 [.tab,A] T=(C' (C' (C' (C' (C' (ph n 226 [.tab,A] T) λK0=>(C' (cy K0.1) λl=>B' (l,K0.2))) λK2=>C' (fit K2.1.length ()) λ_=>C' (cC (λPG Pz=>(C' (ph n 459 [.tab,PG] Pz) λNP=>B' (B' NP.1,NP.2))) K2.1 K2.2) λMK=>B' (V.lst MK.1,MK.2)) λK9=>B' ([K9.1],K9.2)) λOB=>B' (.tab::OB.1,OB.2)) λLk=>ph n 266 Lk.1 Lk.2):=by kernel_rfl
theorem nL(n:Nat)(A:V)(T:TS):ph (n+1) 483 [.tab,A] T=(C' (C' (C' (C' (C' (ph n 226 [.tab,A] T) λK0=>(C' (cy K0.1) λl=>B' (l,K0.2))) λK2=>C' (fit K2.1.length ()) λ_=>C' (cC (λPG Pz=>(C' (ph n 478 [.tab,PG] Pz) λNP=>B' (B' NP.1,NP.2))) K2.1 K2.2) λMK=>B' (V.lst MK.1,MK.2)) λK9=>B' ([K9.1],K9.2)) λOB=>B' (.tab::OB.1,OB.2)) λLk=>ph n 266 Lk.1 Lk.2):=by kernel_rfl
theorem oQ(n:Nat)(A:V)(T:TS):ph (n+1) 512 [.tab,A] T=(C' (C' (C' (C' (C' (ph n 226 [.tab,A] T) λK0=>(C' (cy K0.1) λl=>B' (l,K0.2))) λK2=>C' (fit K2.1.length ()) λ_=>C' (cC (λPG Pz=>(C' (ph n 507 [.tab,PG] Pz) λNP=>B' (B' NP.1,NP.2))) K2.1 K2.2) λMK=>B' (V.lst MK.1,MK.2)) λK9=>B' ([K9.1],K9.2)) λOB=>B' (.tab::OB.1,OB.2)) λLk=>ph n 266 Lk.1 Lk.2):=by kernel_rfl
noncomputable def eA(n:Nat):V->List Sl->TS->Kn->cK:=ff n 29 679 "turn" [(0,0)]
noncomputable def iN(n:Nat):Kn:=kk n 30 679 [] 1 ke
theorem dy(n:Nat)(v:V)(A:V)(s t:Sl)(hs:s.aae=false)(ht:t.aae=false)(T:TS)(k:Kn):eA n v [.pl .tab,.pl A,s,t] T k=(C' (C' (cv 2 T .aan A) λz=>B' (z,T)) λp1=>(C' (C' (C' (cv 2 p1.2 p1.1 (.int 0)) λz=>B' (z,p1.2)) λLe=>(C' (cu Le.2 .Eq Le.1 (.int 8)) λM7=>B' (M7,Le.2))) λp2=>bif p2.1 then B' (A,p2.2) else(C' (C' (C' (cv 2 p2.2 p1.1 (.int 0)) λz=>B' (z,p2.2)) λLp=>(C' (cu Lp.2 .Eq Lp.1 (.int 13)) λQi=>B' (Qi,Lp.2))) λp3=>bif p3.1 then ph n 204 [.tab,A] p3.2 else(C' (C' (C' (cv 2 p3.2 p1.1 (.int 0)) λz=>B' (z,p3.2)) λK0=>(C' (cu K0.2 .In K0.1 (.tup [(.int 1),(.int 2),(.int 3),(.int 4),(.int 5)])) λOU=>B' (OU,K0.2))) λp4=>bif p4.1 then B' ((.int 11),p4.2) else(C' (C' (C' (C' (cv 2 p4.2 p1.1 (.int 0)) λz=>B' (z,p4.2)) λKM=>(C' (cu KM.2 .NotEq KM.1 (.int 9)) λMU=>B' (MU,KM.2))) λp9=>bif p9.1 then B' (true,p9.2) else(C' (C' (C' (cv 2 p9.2 p1.1 (.int 2)) λz=>B' (z,p9.2)) λK2=>(C' (cw K2.1) λb=>B' (b,K2.2))) λKT=>bif KT.1 then B' (true,KT.2) else(C' (C' (C' (C' (C' (cv 2 KT.2 p1.1 (.int 1)) λz=>B' (z,KT.2)) λLz=>(C' (cv 2 Lz.2 .aau Lz.1) λz=>B' (z,Lz.2))) λLd=>(C' (gF (gZ 2) Ld.1 (Str.ofString "bases")) λv=>B' (v,Ld.2))) λL7=>(C' (cw L7.1) λb=>B' (b,L7.2))) λK5=>bif K5.1 then B' (true,K5.2) else B' (false,K5.2)))) λp5=>bif p5.1 then(F':cK) else(C' (C' (C' (C' (cv 2 p5.2 p1.1 (.int 1)) λz=>B' (z,p5.2)) λp6=>(C' (cv 2 p6.2 .aau p6.1) λz=>B' (z,p6.2))) λp7=>(C' (gF (gZ 2) p7.1 (Str.ofString "body")) λv=>B' (v,p7.2))) λp8=>k [.pl .tab,.pl p8.1,.pl v,.pl p1.1] p8.2)))))):=by kernel_rfl
theorem fY(n:Nat)(A:V)(T:TS):ph (n+1) 679 [.tab,A] T=(C' (C' (kU (.int 40)) λl=>B' (l,T)) λp1=>C' (fit p1.1.length ()) λ_=>cG (eA n) p1.1 [.pl .tab,.pl A,.un,.un] p1.2 (iN n)):=by kernel_rfl
noncomputable def fu(n:Nat):V->List Sl->TS->Kn->cK:=ff n 29 700 "prop" [(0,0)]
noncomputable def gA(n:Nat):Kn:=kk n 30 700 [] 1 ke
theorem lq(n:Nat)(v:V)(A B:V)(s:Sl)(hs:s.aae=false)(T:TS)(k:Kn):fu n v [.pl A,.pl B,s] T k=(C' (C' (C' (cv 2 T v (.int 0)) λz=>B' (z,T)) λp2=>(C' (cu p2.2 .Eq p2.1 B) λb3=>B' (b3,p2.2))) λp1=>bif p1.1 then B' (v,p1.2) else k [.pl A,.pl B,.pl v] p1.2):=by kernel_rfl
theorem lu(n:Nat)(A B:V)(s:Sl)(hs:s.aae=false)(T:TS):gA n [.pl A,.pl B,s] T=B' (.none,T):=by kernel_rfl
theorem qY(n:Nat)(A B:V)(T:TS):ph (n+1) 700 [A,B] T=(C' (C' (C' (cv 2 T A (.int 1)) λz=>B' (z,T)) λp2=>(C' (cy p2.1) λl=>B' (l,p2.2))) λp1=>C' (fit p1.1.length ()) λ_=>cG (fu n) p1.1 [.pl A,.pl B,.un] p1.2 (gA n)):=by kernel_rfl
theorem sS(n:Nat)(A B:V)(T:TS):ph (n+1) 719 [.host,A,B] T=(C' (ph n 534 [.host,A] T) λp1=>(C' (C' (cv 2 p1.2 .aan p1.1) λz=>B' (z,p1.2)) λp2=>(C' (C' (C' (C' (cv 2 p2.2 p2.1 (.int 0)) λz=>B' (z,p2.2)) λp9=>(C' (cu p9.2 .Eq p9.1 (.int 11)) λOd=>B' (Od,p9.2))) λp8=>bif p8.1 then B' (true,p8.2) else(C' (C' (C' (cv 2 p8.2 p2.1 (.int 0)) λz=>B' (z,p8.2)) λKT=>(C' (cu KT.2 .Eq KT.1 (.int 12)) λMW=>B' (MW,KT.2))) λKS=>bif KS.1 then B' (true,KS.2) else B' (false,KS.2))) λp3=>bif p3.1 then ph n 618 [.host,p1.1,B] p3.2 else(C' (C' (C' (ph n 653 [.host,p1.1] p3.2) λp5=>(C' (cv 2 p5.2 .aan p5.1) λz=>B' (z,p5.2))) λp6=>B' ([p6.1,B],p6.2)) λp7=>ph n 700 p7.1 p7.2)))):=by kernel_rfl
theorem qZ(n:Nat)(A:V)(T:TS):ph (n+1) 726 [.tab,A] T=(C' (C' (C' (C' (cv 2 T A (.int 2)) λz=>B' (z,T)) λp2=>(C' (cI .BitAnd p2.1 (.int 1)) λz=>B' (z,p2.2))) λp3=>(C' (cw p3.1) λb=>B' (b,p3.2))) λp1=>bif p1.1 then(C' (C' (C' (C' (cv 2 p1.2 A (.int 1)) λz=>B' (z,p1.2)) λp4=>B' ([p4.1],p4.2)) λq5=>B' (.tab::q5.1,q5.2)) λp6=>ph n 273 p6.1 p6.2) else(C' (cv 2 p1.2 A (.int 1)) λz=>B' (z,p1.2))):=by kernel_rfl
theorem oR(n:Nat)(A B:V)(T:TS):ph (n+1) 738 [.host,A,B] T=(C' (C' (cv 2 T .aan A) λz=>B' (z,T)) λp1=>(C' (C' (C' (C' (cv 2 p1.2 p1.1 (.int 0)) λz=>B' (z,p1.2)) λLe=>(C' (cu Le.2 .Eq Le.1 (.int 11)) λM7=>B' (M7,Le.2))) λLk=>bif Lk.1 then B' (true,Lk.2) else(C' (C' (C' (cv 2 Lk.2 p1.1 (.int 0)) λz=>B' (z,Lk.2)) λLr=>(C' (cu Lr.2 .Eq Lr.1 (.int 12)) λWm=>B' (Wm,Lr.2))) λLo=>bif Lo.1 then B' (true,Lo.2) else B' (false,Lo.2))) λp2=>bif p2.1 then(C' (C' (C' (C' (cv 2 p2.2 p1.1 (.int 0)) λz=>B' (z,p2.2)) λp4=>(C' (cu p4.2 .Eq p4.1 (.int 12)) λb5=>B' (b5,p4.2))) λp3=>bif p3.1 then ph n 705 [B] p3.2 else ph n 712 [B] p3.2) λp6=>(C' (C' (cw p6.1) λb=>B' (b,p6.2)) λp7=>bif p7.1 then ph n 731 [.host,p1.1] p7.2 else B' ((.int (-1)),p7.2))) else(C' (C' (ph n 653 [.host,A] p2.2) λp8=>(C' (cv 2 p8.2 .aan p8.1) λz=>B' (z,p8.2))) λp9=>(C' (C' (C' (ph n 712 [B] p9.2) λL7=>(C' (cw L7.1) λb=>B' (b,L7.2))) λLd=>bif Ld.1 then(C' (C' (C' (cv 2 Ld.2 p9.1 (.int 5)) λz=>B' (z,Ld.2)) λK9=>(C' (cu K9.2 .NotEq K9.1 (.tup [])) λPn=>B' (Pn,K9.2))) λK0=>bif K0.1 then B' (true,K0.2) else B' (false,K0.2)) else B' (false,Ld.2)) λKM=>bif KM.1 then(C' (C' (cv 2 KM.2 p9.1 (.int 5)) λz=>B' (z,KM.2)) λKS=>(C' (cv 2 KS.2 KS.1 (.int 0)) λz=>B' (z,KS.2))) else(C' (C' (C' (cv 2 KM.2 p9.1 (.int 4)) λz=>B' (z,KM.2)) λK2=>(C' (cu K2.2 .Eq K2.1 (.tup [])) λVi=>B' (Vi,K2.2))) λKT=>bif KT.1 then B' ((.int (-1)),KT.2) else(C' (C' (cv 2 KT.2 p9.1 (.int 4)) λz=>B' (z,KT.2)) λLz=>(C' (cv 2 Lz.2 Lz.1 (.int 0)) λz=>B' (z,Lz.2)))))))):=by kernel_rfl
theorem q9(n:Nat)(A B:V)(T:TS):ph (n+1) 750 [.host,A,B] T=(C' (ph n 534 [.host,A] T) λp1=>(C' (C' (C' (cu p1.2 .Eq p1.1 (.int 0)) λMW=>B' (MW,p1.2)) λKT=>bif KT.1 then B' (true,KT.2) else(C' (C' (cu KT.2 .Eq p1.1 (.int 13)) λUr=>B' (Ur,KT.2)) λK5=>bif K5.1 then B' (true,K5.2) else B' (false,K5.2))) λp2=>bif p2.1 then B' (p1.1,p2.2) else(C' (C' (ph n 172 [.tab,p1.1] p2.2) λKM=>(C' (cu KM.2 .Eq KM.1 (.int 6)) λMU=>B' (MU,KM.2))) λp3=>bif p3.1 then(C' (C' (C' (ph n 226 [.tab,p1.1] p3.2) λp4=>B' ([p4.1,B],p4.2)) λq5=>B' (.host::q5.1,q5.2)) λp6=>ph n 743 p6.1 p6.2) else(C' (ph n 719 [.host,p1.1,B] p3.2) λp7=>(C' (C' (cu p7.2 .IsNot p7.1 .none) λb9=>B' (b9,p7.2)) λp8=>bif p8.1 then ph n 726 [.tab,p7.1] p8.2 else ph n 738 [.host,p1.1,B] p8.2))))):=by kernel_rfl
theorem abd(n:Nat)(A B C:V)(T:TS):ph (n+1) 766 [.tab,A,B,C] T=(C' (ph n 325 [.tab,A] T) λp1=>(C' (ph n 325 [.tab,B] p1.2) λp2=>(C' (C' (C' (cu p2.2 .Eq p1.1 (.int 0)) λWn=>B' (Wn,p2.2)) λMZ=>bif MZ.1 then B' (true,MZ.2) else(C' (C' (cu MZ.2 .Eq p2.1 (.int 0)) λR2=>B' (R2,MZ.2)) λLW=>bif LW.1 then B' (true,LW.2) else B' (false,LW.2))) λp3=>bif p3.1 then B' ((.bool true),p3.2) else(C' (C' (cu p3.2 .Eq p1.1 p2.1) λOq=>B' (Oq,p3.2)) λp4=>bif p4.1 then(C' (ph n 759 [.tab,A] p4.2) λp5=>(C' (ph n 759 [.tab,B] p5.2) λp6=>(C' (C' (C' (cu p6.2 .Eq p5.1 (.tup [])) λb7=>B' (b7,p6.2)) λq=>B' (V.bool q.1,q.2)) λp8=>(C' (cw p8.1) λb9=>bif b9 then B' (p8.1,p8.2) else(C' (C' (C' (cu p8.2 .Eq p6.1 (.tup [])) λOd=>B' (Od,p8.2)) λq=>B' (V.bool q.1,q.2)) λKS=>(C' (cw KS.1) λQa=>bif Qa then B' (KS.1,KS.2) else(C' (C' (cu KS.2 .Eq p5.1 p6.1) λMW=>B' (MW,KS.2)) λq=>B' (V.bool q.1,q.2)))))))) else(C' (C' (C' (cu p4.2 .In p1.1 (.tup [(.int 4),(.int 5),(.int 6)])) λPP=>B' (PP,p4.2)) λLo=>bif Lo.1 then(C' (C' (cu Lo.2 .In p2.1 (.tup [(.int 4),(.int 5),(.int 6)])) λN8=>B' (N8,Lo.2)) λLj=>bif Lj.1 then B' (true,Lj.2) else B' (false,Lj.2)) else B' (false,Lo.2)) λK5=>bif K5.1 then(C' (C' (cw C) λb=>B' (.bool (!b),K5.2)) λLz=>(C' (cw Lz.1) λYm=>bif Ym then B' (Lz.1,Lz.2) else(C' (C' (cu Lz.2 .NotIn (.int 4) (.tup [p1.1,p2.1])) λPM=>B' (PM,Lz.2)) λq=>B' (V.bool q.1,q.2)))) else(C' (C' (cw C) λb=>B' (.bool (!b),K5.2)) λK0=>(C' (cw K0.1) λOU=>bif OU then(C' (C' (C' (cu K0.2 .In p1.1 (.tup [(.int 1),(.int 2),(.int 3)])) λPn=>B' (Pn,K0.2)) λq=>B' (V.bool q.1,q.2)) λLk=>(C' (cw Lk.1) λWA=>bif WA then(C' (C' (cu Lk.2 .In p2.1 (.tup [(.int 1),(.int 2),(.int 3)])) λM7=>B' (M7,Lk.2)) λq=>B' (V.bool q.1,q.2)) else B' (Lk.1,Lk.2))) else B' (K0.1,K0.2)))))))):=by kernel_rfl
theorem j0(n:Nat)(A:V)(T:TS):ph (n+1) 771 [.tab,A] T=(C' (ph n 226 [.tab,A] T) λp1=>(C' (C' (C' (fZ "len" [p1.1] p1.2) λv=>B' (v,p1.2)) λp2=>(C' (C' (cu p2.2 .Gt p2.1 (.int 0)) λb3=>B' (b3,p2.2)) λq=>B' (V.bool q.1,q.2))) λp4=>(C' (cw p4.1) λb5=>bif b5 then(C' (C' (C' (C' (cy p1.1) λl=>B' (l,p4.2)) λK2=>C' (fit K2.1.length ()) λ_=>C' (cC (λPG Pz=>(C' (C' (ph n 325 [.tab,PG] Pz) λK0=>(C' (C' (cu K0.2 .In K0.1 (.tup [(.int 4),(.int 5),(.int 6)])) λOU=>B' (OU,K0.2)) λq=>B' (V.bool q.1,q.2))) λNP=>B' (B' NP.1,NP.2))) K2.1 K2.2) λMK=>B' (V.lst MK.1,MK.2)) λLp=>B' ([Lp.1],Lp.2)) λLk=>(C' (fZ "all" Lk.1 Lk.2) λv=>B' (v,Lk.2))) else B' (p4.1,p4.2)))):=by kernel_rfl
theorem ut(n:Nat)(A B:V)(T:TS):ph (n+1) 776 [.tab,A,B] T=(C' (ph n 325 [.tab,A] T) λp1=>(C' (C' (C' (cu p1.2 .In A (.tup [(.int 6),(.int 7)])) λb96=>B' (b96,p1.2)) λVU=>bif VU.1 then B' (true,VU.2) else(C' (C' (ph n 172 [.tab,A] VU.2) λVl=>(C' (cu Vl.2 .Eq Vl.1 (.int 18)) λZm=>B' (Zm,Vl.2))) λVz=>bif Vz.1 then B' (true,Vz.2) else B' (false,Vz.2))) λp2=>bif p2.1 then(C' (C' (C' (C' (C' (C' (cy B) λl=>B' (l,p2.2)) λR5=>C' (fit R5.1.length ()) λ_=>C' (cC (λXl YW=>(C' (C' (C' (ph n 325 [.tab,Xl] YW) λPu=>(C' (C' (cu Pu.2 .Eq Pu.1 p1.1) λRf=>B' (Rf,Pu.2)) λq=>B' (V.bool q.1,q.2))) λQO=>(C' (cw QO.1) λTH=>bif TH then(C' (ph n 759 [.tab,Xl] QO.2) λRG=>(C' (C' (cu RG.2 .NotEq RG.1 (.tup [])) λVL=>B' (VL,RG.2)) λq=>B' (V.bool q.1,q.2))) else B' (QO.1,QO.2))) λXI=>B' (B' XI.1,XI.2))) R5.1 R5.2) λW5=>B' (V.lst W5.1,W5.2)) λXO=>B' ([XO.1],XO.2)) λWl=>(C' (fZ "all" Wl.1 Wl.2) λv=>B' (v,Wl.2))) λXj=>(C' (cw Xj.1) λb=>B' (b,Xj.2))) λp3=>bif p3.1 then ph n 266 [.tab,B] p3.2 else(C' (C' (C' (cu p3.2 .Eq p1.1 (.int 0)) λRC=>B' (RC,p3.2)) λL7=>bif L7.1 then(C' (C' (C' (C' (C' (C' (cy B) λl=>B' (l,L7.2)) λMF=>C' (fit MF.1.length ()) λ_=>C' (cC (λv29 Zd=>(C' (C' (ph n 325 [.tab,v29] Zd) λN4=>(C' (C' (cu N4.2 .In N4.1 (.tup [(.int 4),(.int 5),(.int 6)])) λb33=>B' (b33,N4.2)) λq=>B' (V.bool q.1,q.2))) λW0=>B' (B' W0.1,W0.2))) MF.1 MF.2) λW3=>B' (V.lst W3.1,W3.2)) λNh=>B' ([Nh.1],Nh.2)) λL9=>(C' (fZ "all" L9.1 L9.2) λv=>B' (v,L9.2))) λNi=>(C' (cw Ni.1) λb=>B' (b,Ni.2))) λK9=>bif K9.1 then B' (true,K9.2) else B' (false,K9.2)) else B' (false,L7.2)) λp4=>bif p4.1 then(C' (C' (C' (C' (C' (C' (ph n 266 [.tab,B] p4.2) λKS=>B' ([KS.1],KS.2)) λN6=>B' (A::N6.1,N6.2)) λK2=>C' (fit K2.1.length (V.tup K2.1)) λv=>B' (v,K2.2)) λK5=>B' ([K5.1],K5.2)) λM4=>B' (.tab::M4.1,M4.2)) λLd=>ph n 425 Ld.1 Ld.2) else B' (A,p4.2))) else(C' (C' (C' (cu p2.2 .Eq p1.1 (.int 0)) λZL=>B' (ZL,p2.2)) λSd=>bif Sd.1 then(C' (C' (C' (C' (C' (C' (cy B) λl=>B' (l,Sd.2)) λWs=>C' (fit Ws.1.length ()) λ_=>C' (cC (λv87 Zs=>(C' (C' (ph n 325 [.tab,v87] Zs) λVO=>(C' (C' (cu VO.2 .In VO.1 (.tup [(.int 4),(.int 5),(.int 6)])) λZ9=>B' (Z9,VO.2)) λq=>B' (V.bool q.1,q.2))) λW9=>B' (B' W9.1,W9.2))) Ws.1 Ws.2) λXm=>B' (V.lst Xm.1,Xm.2)) λXU=>B' ([XU.1],XU.2)) λVy=>(C' (fZ "all" Vy.1 Vy.2) λv=>B' (v,Vy.2))) λYd=>(C' (cw Yd.1) λb=>B' (b,Yd.2))) λSm=>bif Sm.1 then B' (true,Sm.2) else B' (false,Sm.2)) else B' (false,Sd.2)) λUX=>bif UX.1 then(C' (C' (C' (C' (C' (C' (ph n 266 [.tab,B] UX.2) λWV=>B' ([WV.1],WV.2)) λX0=>B' (A::X0.1,X0.2)) λVc=>C' (fit Vc.1.length (V.tup Vc.1)) λv=>B' (v,Vc.2)) λX8=>B' ([X8.1],X8.2)) λXg=>B' (.tab::Xg.1,Xg.2)) λXG=>ph n 425 XG.1 XG.2) else B' (A,UX.2)))):=by kernel_rfl
theorem eS(n:Nat)(A B:V)(T:TS):ph (n+1) 783 [.tab,A,B] T=(C' (C' (C' (cw B) λb=>B' (b,T)) λp5=>B' (!p5.1,p5.2)) λp1=>bif p1.1 then ph n 512 [.tab,A] p1.2 else(C' (C' (C' (ph n 483 [.tab,A] p1.2) λp2=>B' ([p2.1],p2.2)) λq3=>B' (.tab::q3.1,q3.2)) λp4=>ph n 464 p4.1 p4.2)):=by kernel_rfl
noncomputable def de(n:Nat):V->List Sl->TS->Kn->cK:=ff n 29 788 "part" [(3,0)]
noncomputable def dU(n:Nat):Kn:=kk n 30 788 [] 4 ke
theorem jv(n:Nat)(v:V)(A B C D:V)(s:Sl)(hs:s.aae=false)(T:TS)(k:Kn):de n v [.pl .tab,.pl A,.pl B,.pl C,.ow D,s] T k=(C' (C' (ph n 325 [.tab,v] T) λLj=>(C' (cu Lj.2 .In Lj.1 (.tup [(.int 4),(.int 5),(.int 6)])) λN8=>B' (N8,Lj.2))) λp1=>bif p1.1 then(C' (C' (C' (C' (C' (C' (ph n 226 [.tab,B] p1.2) λLz=>(C' (cy Lz.1) λl=>B' (l,Lz.2))) λKM=>C' (fit KM.1.length ()) λ_=>C' (cC (λv12 Zu=>(C' (ph n 766 [.tab,v,v12,C] Zu) λXA=>B' (B' XA.1,XA.2))) KM.1 KM.2) λNY=>B' (V.lst NY.1,NY.2)) λLd=>B' ([Ld.1],Ld.2)) λL7=>(C' (fZ "any" L7.1 L7.2) λv=>B' (v,L7.2))) λK0=>(C' (cw K0.1) λb=>B' (b,K0.2))) λp2=>bif p2.1 then(C' (eW D v) λc3=>k [.pl .tab,.pl A,.pl B,.pl C,.ow c3,.pl v] p2.2) else k [.pl .tab,.pl A,.pl B,.pl C,.ow D,.pl v] p2.2) else(C' (C' (cu p1.2 .In v (.tup [(.int 0),(.int 13)])) λPP=>B' (PP,p1.2)) λK9=>bif K9.1 then(C' (eW D v) λYU=>k [.pl .tab,.pl A,.pl B,.pl C,.ow YU,.pl v] K9.2) else(C' (C' (ph n 447 [.tab,v] K9.2) λLo=>(C' (cw Lo.1) λb=>B' (b,Lo.2))) λLk=>bif Lk.1 then(C' (ph n 425 [.tab,(.tup [v,B])] Lk.2) λLe=>(C' (eW D Le.1) λY7=>k [.pl .tab,.pl A,.pl B,.pl C,.ow Y7,.pl v] Le.2)) else k [.pl .tab,.pl A,.pl B,.pl C,.ow D,.pl v] Lk.2))):=by kernel_rfl
theorem jw(n:Nat)(A B C D:V)(s:Sl)(hs:s.aae=false)(T:TS):dU n [.pl .tab,.pl A,.pl B,.pl C,.ow D,s] T=ph n 266 [.tab,D] T:=by kernel_rfl
theorem mc(n:Nat)(A B C:V)(T:TS):ph (n+1) 788 [.tab,A,B,C] T=(C' (C' (C' (cw C) λb=>B' (b,T)) λKS=>B' (!KS.1,KS.2)) λp1=>bif p1.1 then(C' (ph n 266 [.tab,(.tup [(.int 4),(.int 5)])] p1.2) λp2=>(C' (C' (cu p2.2 .Eq A (.int 1)) λb6=>B' (b6,p2.2)) λp3=>bif p3.1 then B' (p2.1,p3.2) else(C' (C' (ph n 226 [.tab,A] p3.2) λp5=>(C' (cy p5.1) λl=>B' (l,p5.2))) λp4=>C' (fit p4.1.length ()) λ_=>cG (de n) p4.1 [.pl .tab,.pl A,.pl p2.1,.pl C,.ow (.lst []),.un] p4.2 (dU n)))) else(C' (C' (cu p1.2 .Eq A (.int 1)) λOd=>B' (Od,p1.2)) λp7=>bif p7.1 then B' (B,p7.2) else(C' (C' (ph n 226 [.tab,A] p7.2) λp9=>(C' (cy p9.1) λl=>B' (l,p9.2))) λp8=>C' (fit p8.1.length ()) λ_=>cG (de n) p8.1 [.pl .tab,.pl A,.pl B,.pl C,.ow (.lst []),.un] p8.2 (dU n)))):=by kernel_rfl
noncomputable def cX(n:Nat):V->List Sl->TS->Kn->cK:=ff n 29 798 "part" [(3,0)]
noncomputable def d5(n:Nat):Kn:=kk n 30 798 [] 4 ke
theorem ix(n:Nat)(v:V)(A B C D:V)(s t:Sl)(hs:s.aae=false)(ht:t.aae=false)(T:TS)(k:Kn):cX n v [.pl .tab,.pl A,.pl B,.pl C,.ow D,s,t] T k=(C' (C' (C' (ph n 226 [.tab,B] T) λp6=>(C' (cy p6.1) λl=>B' (l,p6.2))) λp1=>C' (fit p1.1.length ()) λ_=>C' (cC (λv3 U4=>(C' (C' (C' (ph n 766 [.tab,v,v3,C] U4) λp9=>(C' (cw p9.1) λb=>B' (b,p9.2))) λp8=>bif p8.1 then B' (true,p8.2) else B' (false,p8.2)) λc7=>bif c7.1 then(C' (B' (v3,c7.2)) λr5=>B' (B' r5.1,r5.2)) else B' (F',c7.2))) p1.1 p1.2) λq2=>B' (V.lst q2.1,q2.2)) λKM=>(C' (C' (cw KM.1) λb=>B' (b,KM.2)) λKS=>bif KS.1 then(C' (ph n 776 [.tab,v,KM.1] KS.2) λKT=>(C' (eW D KT.1) λc13=>k [.pl .tab,.pl A,.pl B,.pl C,.ow c13,.pl v,.pl KM.1] KT.2)) else k [.pl .tab,.pl A,.pl B,.pl C,.ow D,.pl v,.pl KM.1] KS.2)):=by kernel_rfl
theorem iy(n:Nat)(A B C D:V)(s t:Sl)(hs:s.aae=false)(ht:t.aae=false)(T:TS):d5 n [.pl .tab,.pl A,.pl B,.pl C,.ow D,s,t] T=ph n 266 [.tab,D] T:=by kernel_rfl
theorem j1(n:Nat)(A B C:V)(T:TS):ph (n+1) 798 [.tab,A,B,C] T=(C' (C' (cu T .Eq A (.int 1)) λb6=>B' (b6,T)) λp1=>bif p1.1 then ph n 793 [.tab,B,C] p1.2 else(C' (C' (ph n 771 [.tab,B] p1.2) λp5=>(C' (cw p5.1) λb=>B' (b,p5.2))) λp2=>bif p2.1 then ph n 788 [.tab,A,B,C] p2.2 else(C' (C' (ph n 226 [.tab,A] p2.2) λp4=>(C' (cy p4.1) λl=>B' (l,p4.2))) λp3=>C' (fit p3.1.length ()) λ_=>cG (cX n) p3.1 [.pl .tab,.pl A,.pl B,.pl C,.ow (.lst []),.un,.un] p3.2 (d5 n)))):=by kernel_rfl
noncomputable def dj(n:Nat):V->List Sl->TS->Kn->cK:=ff n 29 805 "part" [(4,0)]
noncomputable def eD(n:Nat):Kn:=kk n 30 805 [] 5 ke
theorem iQ(n:Nat)(v:V)(A B C D:V)(s:Sl)(hs:s.aae=false)(T:TS)(k:Kn):dj n v [.pl .tab,.pl A,.pl B,.pl C,.ow D,s] T k=(C' (C' (C' (ph n 759 [.tab,v] T) λp4=>(C' (cu p4.2 .NotEq p4.1 C) λb5=>B' (b5,p4.2))) λp3=>bif p3.1 then(C' (C' (C' (C' (cu p3.2 .Eq v (.int 3)) λb9=>B' (b9,p3.2)) λp8=>bif p8.1 then(C' (C' (cu p8.2 .Eq B (.int 4)) λMU=>B' (MU,p8.2)) λKM=>bif KM.1 then B' (true,KM.2) else B' (false,KM.2)) else B' (false,p8.2)) λp7=>B' (!p7.1,p7.2)) λp6=>bif p6.1 then B' (true,p6.2) else B' (false,p6.2)) else B' (false,p3.2)) λp1=>bif p1.1 then(C' (eW D v) λc2=>k [.pl .tab,.pl A,.pl B,.pl C,.ow c2,.pl v] p1.2) else k [.pl .tab,.pl A,.pl B,.pl C,.ow D,.pl v] p1.2):=by kernel_rfl
theorem iR(n:Nat)(A B C D:V)(s:Sl)(hs:s.aae=false)(T:TS):eD n [.pl .tab,.pl A,.pl B,.pl C,.ow D,s] T=ph n 266 [.tab,D] T:=by kernel_rfl
theorem gh(n:Nat)(A B:V)(T:TS):ph (n+1) 805 [.tab,A,B] T=(C' (ph n 759 [.tab,B] T) λp1=>(C' (C' (cu p1.2 .Eq p1.1 (.tup [])) λZp=>B' (Zp,p1.2)) λp2=>bif p2.1 then B' (A,p2.2) else(C' (C' (C' (cu p2.2 .Eq A (.int 1)) λVV=>B' (VV,p2.2)) λNi=>bif Ni.1 then(C' (C' (C' (cv 2 Ni.2 p1.1 (.int 0)) λz=>B' (z,Ni.2)) λNp=>(C' (cu Np.2 .In Np.1 (.tup [(.int 4),(.int 5),(.int 6)])) λV5=>B' (V5,Np.2))) λNl=>bif Nl.1 then B' (true,Nl.2) else B' (false,Nl.2)) else B' (false,Ni.2)) λp3=>bif p3.1 then(C' (C' (C' (C' (C' (C' (C' (C' (cu p3.2 .Eq B (.int 4)) λN8=>B' (N8,p3.2)) λLj=>bif Lj.1 then B' ((.int 5),Lj.2) else B' ((.int 4),Lj.2)) λMu=>B' ([Mu.1],Mu.2)) λOA=>B' ((.int 11)::OA.1,OA.2)) λMz=>C' (fit Mz.1.length (V.tup Mz.1)) λv=>B' (v,Mz.2)) λLW=>B' ([LW.1],LW.2)) λX7=>B' (.tab::X7.1,X7.2)) λMb=>ph n 266 Mb.1 Mb.2) else(C' (C' (ph n 226 [.tab,A] p3.2) λL9=>(C' (cy L9.1) λl=>B' (l,L9.2))) λNh=>C' (fit Nh.1.length ()) λ_=>cG (dj n) Nh.1 [.pl .tab,.pl A,.pl B,.pl p1.1,.ow (.lst []),.un] Nh.2 (eD n))))):=by kernel_rfl
theorem fa(n:Nat)(A B C D:V)(T:TS):ph (n+1) 812 [.tab,A,B,C,D] T=(C' (C' (C' (cu T .In A (.tup [(.int 0),(.int 13)])) λb9=>B' (b9,T)) λp8=>bif p8.1 then B' (true,p8.2) else(C' (C' (cu p8.2 .In B (.tup [(.int 0),(.int 13),(.int 1)])) λMU=>B' (MU,p8.2)) λKM=>bif KM.1 then B' (true,KM.2) else B' (false,KM.2))) λp1=>bif p1.1 then B' (A,p1.2) else(C' (C' (cw C) λb=>B' (b,p1.2)) λp2=>bif p2.1 then ph n 798 [.tab,A,B,D] p2.2 else(C' (C' (C' (C' (cw D) λb=>B' (b,p2.2)) λp5=>B' (!p5.1,p5.2)) λp4=>bif p4.1 then(C' (C' (ph n 771 [.tab,B] p4.2) λp7=>(C' (cw p7.1) λb=>B' (b,p7.2))) λp6=>bif p6.1 then B' (true,p6.2) else B' (false,p6.2)) else B' (false,p4.2)) λp3=>bif p3.1 then ph n 464 [.tab,A] p3.2 else ph n 805 [.tab,A,B] p3.2))):=by kernel_rfl
theorem iz(n:Nat)(A:V)(T:TS):ph (n+1) 820 [.tab,A] T=(C' (ph n 325 [.tab,A] T) λp1=>(C' (C' (cu p1.2 .In p1.1 (.tup [(.int 1),(.int 2),(.int 3),(.int 4),(.int 5),(.int 6)])) λb2=>B' (b2,p1.2)) λq=>B' (V.bool q.1,q.2))):=by kernel_rfl
theorem lw(n:Nat)(A:V)(T:TS):ph (n+1) 825 [.tab,A] T=(C' (C' (C' (C' (ph n 226 [.tab,A] T) λKT=>(C' (cy KT.1) λl=>B' (l,KT.2))) λp7=>C' (fit p7.1.length ()) λ_=>C' (cC (λv9 Zg=>(C' (ph n 820 [.tab,v9] Zg) λOo=>B' (B' Oo.1,Oo.2))) p7.1 p7.2) λq8=>B' (V.lst q8.1,q8.2)) λK2=>B' ([K2.1],K2.2)) λK5=>(C' (fZ "all" K5.1 K5.2) λv=>B' (v,K5.2))):=by kernel_rfl
theorem aaZ(n:Nat)(A B C:V)(T:TS):ph (n+1) 837 [.tab,A,B,C] T=(C' (ph n 325 [.tab,A] T) λp1=>(C' (ph n 325 [.tab,B] p1.2) λp2=>(C' (C' (C' (cu p2.2 .Eq p1.1 (.int 7)) λM7=>B' (M7,p2.2)) λLe=>bif Le.1 then(C' (C' (cu Le.2 .Eq p2.1 (.int 7)) λPP=>B' (PP,Le.2)) λLo=>bif Lo.1 then B' (true,Lo.2) else B' (false,Lo.2)) else B' (false,Le.2)) λp3=>bif p3.1 then(C' (ph n 425 [.tab,(.tup [A,B])] p3.2) λp4=>(C' (C' (cu p4.2 .NotEq p4.1 (.int 2)) λb5=>B' (b5,p4.2)) λq=>B' (V.bool q.1,q.2))) else(C' (C' (C' (cu p3.2 .Eq p1.1 (.int 7)) λOU=>B' (OU,p3.2)) λK0=>bif K0.1 then(C' (C' (cu K0.2 .NotEq p2.1 (.int 0)) λQi=>B' (Qi,K0.2)) λLp=>bif Lp.1 then B' (true,Lp.2) else B' (false,Lp.2)) else B' (false,K0.2)) λp6=>bif p6.1 then(C' (ph n 830 [.tab,A] p6.2) λp7=>(C' (cw p7.1) λb8=>bif b8 then(C' (C' (cu p7.2 .In p2.1 (.tup [(.int 1),(.int 2),(.int 3)])) λb9=>B' (b9,p7.2)) λq=>B' (V.bool q.1,q.2)) else B' (p7.1,p7.2))) else(C' (C' (C' (cu p6.2 .Eq p2.1 (.int 7)) λUr=>B' (Ur,p6.2)) λK5=>bif K5.1 then(C' (C' (cu K5.2 .NotEq p1.1 (.int 0)) λPM=>B' (PM,K5.2)) λLd=>bif Ld.1 then B' (true,Ld.2) else B' (false,Ld.2)) else B' (false,K5.2)) λKM=>bif KM.1 then(C' (ph n 830 [.tab,B] KM.2) λKS=>(C' (cw KS.1) λQa=>bif Qa then(C' (C' (cu KS.2 .In p1.1 (.tup [(.int 1),(.int 2),(.int 3)])) λMW=>B' (MW,KS.2)) λq=>B' (V.bool q.1,q.2)) else B' (KS.1,KS.2))) else ph n 766 [.tab,A,B,C] KM.2))))):=by kernel_rfl
theorem gR(n:Nat)(A B:V)(T:TS):ph (n+1) 844 [.host,A,B] T=(C' (C' (C' (ph n 534 [.host,A] T) λp1=>B' ([p1.1,B],p1.2)) λq2=>B' (.tab::q2.1,q2.2)) λp3=>ph n 783 p3.1 p3.2):=by kernel_rfl
theorem oS(n:Nat)(A B C:V)(T:TS):ph (n+1) 849 [.tab,A,B,C] T=(C' (C' (C' (ph n 226 [.tab,B] T) λp6=>(C' (cy p6.1) λl=>B' (l,p6.2))) λp1=>C' (fit p1.1.length ()) λ_=>C' (cC (λv3 U4=>(C' (C' (C' (ph n 837 [.tab,A,v3,C] U4) λp9=>(C' (cw p9.1) λb=>B' (b,p9.2))) λp8=>bif p8.1 then B' (true,p8.2) else B' (false,p8.2)) λc7=>bif c7.1 then(C' (B' (v3,c7.2)) λr5=>B' (B' r5.1,r5.2)) else B' (F',c7.2))) p1.1 p1.2) λq2=>B' (V.lst q2.1,q2.2)) λKM=>(C' (C' (C' (cw KM.1) λb=>B' (b,KM.2)) λNq=>B' (!Nq.1,Nq.2)) λKS=>bif KS.1 then B' ((.int 2),KS.2) else(C' (C' (C' (ph n 325 [.tab,A] KS.2) λMF=>(C' (cu MF.2 .Eq MF.1 (.int 7)) λOq=>B' (Oq,MF.2))) λLj=>bif Lj.1 then(C' (C' (C' (C' (C' (C' (cy KM.1) λl=>B' (l,Lj.2)) λL9=>C' (fit L9.1.length ()) λ_=>C' (cC (λZM Z7=>(C' (ph n 820 [.tab,ZM] Z7) λXW=>B' (B' XW.1,XW.2))) L9.1 L9.2) λTy=>B' (V.lst Ty.1,Ty.2)) λQJ=>B' ([QJ.1],QJ.2)) λPD=>(C' (fZ "all" PD.1 PD.2) λv=>B' (v,PD.2))) λXY=>(C' (cw XY.1) λb=>B' (b,XY.2))) λMZ=>bif MZ.1 then B' (true,MZ.2) else B' (false,MZ.2)) else B' (false,Lj.2)) λKT=>bif KT.1 then(C' (C' (cw C) λb=>B' (b,KT.2)) λK2=>bif K2.1 then(C' (C' (C' (C' (C' (C' (ph n 266 [.tab,KM.1] K2.2) λLp=>B' ([Lp.1],Lp.2)) λSz=>B' (A::Sz.1,Sz.2)) λLe=>C' (fit Le.1.length (V.tup Le.1)) λv=>B' (v,Le.2)) λLI=>B' ([LI.1],LI.2)) λOt=>B' (.tab::Ot.1,Ot.2)) λLr=>ph n 425 Lr.1 Lr.2) else B' (A,K2.2)) else ph n 776 [.tab,A,KM.1] KT.2))):=by kernel_rfl
theorem fD(n:Nat)(A B C D:V)(T:TS):ph (n+1) 854 [.host,A,B,C,D] T=(C' (ph n 534 [.host,A] T) λp1=>(C' (ph n 534 [.host,B] p1.2) λp2=>(C' (C' (ph n 825 [.tab,p1.1] p2.2) λp3=>(C' (cw p3.1) λb4=>bif b4 then ph n 825 [.tab,p2.1] p3.2 else B' (p3.1,p3.2))) λp5=>(C' (C' (C' (cw p5.1) λb=>B' (b,p5.2)) λMb=>bif Mb.1 then B' (true,Mb.2) else(C' (C' (C' (cw C) λb=>B' (b,Mb.2)) λL9=>B' (!L9.1,L9.2)) λNh=>bif Nh.1 then B' (true,Nh.2) else(C' (C' (cu Nh.2 .Eq p1.1 (.int 1)) λVV=>B' (VV,Nh.2)) λNi=>bif Ni.1 then B' (true,Ni.2) else(C' (C' (ph n 771 [.tab,p2.1] Ni.2) λNp=>(C' (cw Np.1) λb=>B' (b,Np.2))) λNl=>bif Nl.1 then B' (true,Nl.2) else B' (false,Nl.2))))) λp6=>bif p6.1 then ph n 812 [.tab,p1.1,p2.1,C,D] p6.2 else(C' (C' (C' (cu p6.2 .In p1.1 (.tup [(.int 0),(.int 13)])) λWn=>B' (Wn,p6.2)) λMZ=>bif MZ.1 then B' (true,MZ.2) else(C' (C' (cu MZ.2 .In p2.1 (.tup [(.int 0),(.int 13),(.int 1)])) λR2=>B' (R2,MZ.2)) λLW=>bif LW.1 then B' (true,LW.2) else B' (false,LW.2))) λp7=>bif p7.1 then B' (p1.1,p7.2) else(C' (C' (C' (C' (C' (ph n 226 [.tab,p1.1] p7.2) λLr=>(C' (cy Lr.1) λl=>B' (l,Lr.2))) λLp=>C' (fit Lp.1.length ()) λ_=>C' (cC (λV3 WJ=>(C' (ph n 849 [.tab,V3,p2.1,D] WJ) λSD=>B' (B' SD.1,SD.2))) Lp.1 Lp.2) λSz=>B' (V.lst Sz.1,Sz.2)) λLj=>B' ([Lj.1],Lj.2)) λQx=>B' (.tab::Qx.1,Qx.2)) λMu=>ph n 266 Mu.1 Mu.2)))))):=by kernel_rfl
theorem rf(n:Nat)(A:V)(T:TS):ph (n+1) 861 [.host,A] T=ph n 197 [.tab,(.tup [(.tup [A,(.int 1),(.int 0),(.int 0)])]),(.tup []),(.tup []),(.tup []),(.tup []),(.int 0)] T:=by kernel_rfl
theorem sT(n:Nat)(A B:V)(T:TS):ph (n+1) 868 [.host,A,B] T=(C' (C' (ph n 719 [.host,A,B] T) λp4=>(C' (cu p4.2 .IsNot p4.1 .none) λb5=>B' (b5,p4.2))) λp1=>bif p1.1 then B' ((.bool true),p1.2) else(C' (ph n 738 [.host,A,B] p1.2) λp2=>(C' (C' (cu p2.2 .NotEq p2.1 (.int (-1))) λb3=>B' (b3,p2.2)) λq=>B' (V.bool q.1,q.2)))):=by kernel_rfl
theorem oT(n:Nat)(A B:V)(T:TS):ph (n+1) 875 [.host,A,B] T=(C' (ph n 719 [.host,A,B] T) λp1=>(C' (C' (C' (cu p1.2 .IsNot p1.1 .none) λb2=>B' (b2,p1.2)) λq=>B' (V.bool q.1,q.2)) λp3=>(C' (cw p3.1) λb4=>bif b4 then(C' (C' (C' (cv 2 p3.2 p1.1 (.int 2)) λz=>B' (z,p3.2)) λp5=>(C' (cI .BitAnd p5.1 (.int 1)) λz=>B' (z,p5.2))) λp6=>(C' (C' (cu p6.2 .Eq p6.1 (.int 0)) λb7=>B' (b7,p6.2)) λq=>B' (V.bool q.1,q.2))) else B' (p3.1,p3.2)))):=by kernel_rfl
theorem nM(n:Nat)(A:V)(T:TS):ph (n+1) 882 [.tab,A] T=(C' (C' (ph n 325 [.tab,A] T) λp1=>(C' (C' (cu p1.2 .Eq p1.1 (.int 7)) λb2=>B' (b2,p1.2)) λq=>B' (V.bool q.1,q.2))) λp3=>(C' (cw p3.1) λb4=>bif b4 then(C' (C' (cu p3.2 .NotEq A (.int 10)) λb5=>B' (b5,p3.2)) λq=>B' (V.bool q.1,q.2)) else B' (p3.1,p3.2))):=by kernel_rfl
noncomputable def eE(n:Nat):V->List Sl->TS->Kn->cK:=ff n 29 887 "part" [(4,0)]
noncomputable def j2(n:Nat):Kn:=kk n 30 887 [] 5 ke
theorem gB(n:Nat)(v:V)(A B C D E:V)(s:Sl)(hs:s.aae=false)(T:TS)(k:Kn):eE n v [.pl .host,.pl A,.pl B,.pl .tab,.pl C,.pl D,.ow E,s] T k=(C' (C' (C' (cu T .In v (.tup [(.int 0),(.int 13)])) λV5=>B' (V5,T)) λNp=>bif Np.1 then B' (true,Np.2) else(C' (C' (cu Np.2 .In v D) λZT=>B' (ZT,Np.2)) λPD=>bif PD.1 then B' (true,PD.2) else B' (false,PD.2))) λp1=>bif p1.1 then(C' (eW E v) λc2=>k [.pl .host,.pl A,.pl B,.pl .tab,.pl C,.pl D,.ow c2,.pl v] p1.2) else(C' (C' (cu p1.2 .Eq v (.int 1)) λWv=>B' (Wv,p1.2)) λp3=>bif p3.1 then(C' (C' (C' (C' (C' (C' (C' (ph n 861 [.host,B] p3.2) λKM=>B' ([KM.1],KM.2)) λNY=>B' ((.int 10)::NY.1,NY.2)) λKT=>C' (fit KT.1.length (V.tup KT.1)) λv=>B' (v,KT.2)) λK2=>B' ([K2.1],K2.2)) λMK=>B' (.tab::MK.1,MK.2)) λLz=>ph n 425 Lz.1 Lz.2) λLd=>(C' (eW E Ld.1) λNI=>k [.pl .host,.pl A,.pl B,.pl .tab,.pl C,.pl D,.ow NI,.pl v] Ld.2)) else(C' (C' (C' (C' (cw D) λb=>B' (b,p3.2)) λNh=>B' (!Nh.1,Nh.2)) λMb=>bif Mb.1 then B' (true,Mb.2) else(C' (C' (C' (ph n 882 [.tab,v] Mb.2) λSf=>(C' (cw Sf.1) λb=>B' (b,Sf.2))) λNi=>B' (!Ni.1,Ni.2)) λL9=>bif L9.1 then B' (true,L9.2) else B' (false,L9.2))) λK0=>bif K0.1 then(C' (C' (C' (C' (C' (C' (C' (ph n 861 [.host,B] K0.2) λLr=>B' ([Lr.1],Lr.2)) λQA=>B' (v::QA.1,QA.2)) λMF=>C' (fit MF.1.length (V.tup MF.1)) λv=>B' (v,MF.2)) λMu=>B' ([Mu.1],Mu.2)) λOA=>B' (.tab::OA.1,OA.2)) λMz=>ph n 425 Mz.1 Mz.2) λLW=>(C' (eW E LW.1) λc32=>k [.pl .host,.pl A,.pl B,.pl .tab,.pl C,.pl D,.ow c32,.pl v] LW.2)) else k [.pl .host,.pl A,.pl B,.pl .tab,.pl C,.pl D,.ow E,.pl v] K0.2))):=by kernel_rfl
theorem oU(n:Nat)(A B C D E:V)(s:Sl)(hs:s.aae=false)(T:TS):j2 n [.pl .host,.pl A,.pl B,.pl .tab,.pl C,.pl D,.ow E,s] T=ph n 266 [.tab,E] T:=by kernel_rfl
theorem wW(n:Nat)(A B:V)(T:TS):ph (n+1) 887 [.host,A,B] T=(C' (C' (C' (ph n 226 [.tab,A] T) λp6=>(C' (cy p6.1) λl=>B' (l,p6.2))) λp1=>C' (fit p1.1.length ()) λ_=>C' (cC (λv3 U4=>(C' (C' (C' (C' (ph n 820 [.tab,v3] U4) λKM=>(C' (cw KM.1) λb=>B' (b,KM.2))) λp9=>B' (!p9.1,p9.2)) λp8=>bif p8.1 then B' (true,p8.2) else B' (false,p8.2)) λc7=>bif c7.1 then(C' (B' (v3,c7.2)) λr5=>B' (B' r5.1,r5.2)) else B' (F',c7.2))) p1.1 p1.2) λq2=>B' (V.lst q2.1,q2.2)) λKS=>(C' (C' (C' (cy KS.1) λl=>B' (l,KS.2)) λKT=>C' (fit KT.1.length ()) λ_=>C' (cC (λUY ZP=>(C' (C' (C' (C' (ph n 882 [.tab,UY] ZP) λLp=>(C' (cw Lp.1) λb=>B' (b,Lp.2))) λK9=>bif K9.1 then(C' (C' (ph n 868 [.host,UY,B] K9.2) λLe=>(C' (cw Le.1) λb=>B' (b,Le.2))) λLk=>bif Lk.1 then B' (true,Lk.2) else B' (false,Lk.2)) else B' (false,K9.2)) λK0=>bif K0.1 then B' (true,K0.2) else B' (false,K0.2)) λNI=>bif NI.1 then(C' (B' (UY,NI.2)) λW7=>B' (B' W7.1,W7.2)) else B' (F',NI.2))) KT.1 KT.2) λQ3=>B' (V.lst Q3.1,Q3.2)) λLI=>(C' (C' (cy KS.1) λl=>B' (l,LI.2)) λLo=>C' (fit Lo.1.length ()) λ_=>cG (eE n) Lo.1 [.pl .host,.pl A,.pl B,.pl .tab,.pl KS.1,.pl LI.1,.ow (.lst []),.un] Lo.2 (j2 n)))):=by kernel_rfl
noncomputable def da(n:Nat):V->List Sl->TS->Kn->cK:=ff n 29 894 "part" [(4,0)]
noncomputable def gC(n:Nat):Kn:=kk n 30 894 [] 5 ke
theorem ly(n:Nat)(v:V)(A B C D:V)(s:Sl)(hs:s.aae=false)(T:TS)(k:Kn):da n v [.pl .host,.pl A,.pl B,.pl C,.pl .tab,.ow D,s] T k=(C' (C' (C' (C' (ph n 882 [.tab,v] T) λp5=>(C' (cw p5.1) λb=>B' (b,p5.2))) λp4=>B' (!p4.1,p4.2)) λp3=>bif p3.1 then B' (true,p3.2) else(C' (C' (C' (ph n 875 [.host,v,B] p3.2) λp8=>(C' (cw p8.1) λb=>B' (b,p8.2))) λp7=>B' (!p7.1,p7.2)) λp6=>bif p6.1 then B' (true,p6.2) else B' (false,p6.2))) λp1=>bif p1.1 then(C' (eW D v) λc2=>k [.pl .host,.pl A,.pl B,.pl C,.pl .tab,.ow c2,.pl v] p1.2) else k [.pl .host,.pl A,.pl B,.pl C,.pl .tab,.ow D,.pl v] p1.2):=by kernel_rfl
theorem lA(n:Nat)(A B C D:V)(s:Sl)(hs:s.aae=false)(T:TS):gC n [.pl .host,.pl A,.pl B,.pl C,.pl .tab,.ow D,s] T=ph n 266 [.tab,D] T:=by kernel_rfl
theorem kB(n:Nat)(A B C:V)(T:TS):ph (n+1) 894 [.host,A,B,C] T=(C' (ph n 534 [.host,A] T) λp1=>(C' (C' (cw C) λb=>B' (b,p1.2)) λp2=>bif p2.1 then ph n 887 [.host,p1.1,B] p2.2 else(C' (C' (ph n 226 [.tab,p1.1] p2.2) λp4=>(C' (cy p4.1) λl=>B' (l,p4.2))) λp3=>C' (fit p3.1.length ()) λ_=>cG (da n) p3.1 [.pl .host,.pl p1.1,.pl B,.pl C,.pl .tab,.ow (.lst []),.un] p3.2 (gC n)))):=by kernel_rfl
theorem i4(n:Nat)(A B:V)(T:TS):ph (n+1) 901 [.host,A,B] T=(C' (C' (C' (cu T .Eq A (.int 1)) λb5=>B' (b5,T)) λp4=>bif p4.1 then B' (true,p4.2) else(C' (C' (cu p4.2 .Eq A (.int 10)) λb7=>B' (b7,p4.2)) λp6=>bif p6.1 then B' (true,p6.2) else B' (false,p6.2))) λp1=>bif p1.1 then B' ((.int (-1)),p1.2) else(C' (C' (ph n 771 [.tab,A] p1.2) λp3=>(C' (cw p3.1) λb=>B' (b,p3.2))) λp2=>bif p2.1 then B' ((.int 4),p2.2) else ph n 750 [.host,A,B] p2.2)):=by kernel_rfl
theorem iO(n:Nat)(A B:V)(T:TS):ph (n+1) 906 [.host,A,B] T=(C' (C' (ph n 172 [.tab,A] T) λp8=>(C' (cu p8.2 .NotEq p8.1 (.int 6)) λb9=>B' (b9,p8.2))) λp1=>bif p1.1 then B' ((.lst []),p1.2) else(C' (C' (ph n 226 [.tab,A] p1.2) λp7=>(C' (cy p7.1) λl=>B' (l,p7.2))) λp2=>C' (fit p2.1.length ()) λ_=>C' (cC (λv4 U5=>(C' (ph n 901 [.host,v4,B] U5) λr6=>B' (B' r6.1,r6.2))) p2.1 p2.2) λq3=>B' (V.lst q3.1,q3.2))):=by kernel_rfl
theorem gS(n:Nat)(A B:V)(T:TS):ph (n+1) 911 [.host,A,B] T=(C' (C' (C' (cw B) λb=>B' (b,T)) λNi=>B' (!Ni.1,Ni.2)) λp1=>bif p1.1 then B' (A,p1.2) else(C' (ph n 226 [.tab,A] p1.2) λp2=>(C' (C' (C' (C' (C' (C' (fZ "len" [p2.1] p2.2) λv=>B' (v,p2.2)) λMu=>(C' (kU Mu.1) λl=>B' (l,Mu.2))) λLI=>C' (fit LI.1.length ()) λ_=>C' (cC (λXv WX=>(C' (C' (C' (C' (cv 2 WX B Xv) λz=>B' (z,WX)) λLW=>(C' (cu LW.2 .NotEq LW.1 (.int 2)) λR2=>B' (R2,LW.2))) λMz=>bif Mz.1 then B' (true,Mz.2) else B' (false,Mz.2)) λPX=>bif PX.1 then(C' (C' (cv 2 PX.2 p2.1 Xv) λz=>B' (z,PX.2)) λQK=>B' (B' QK.1,QK.2)) else B' (F',PX.2))) LI.1 LI.2) λOt=>B' (V.lst Ot.1,Ot.2)) λMb=>B' ([Mb.1],Mb.2)) λXE=>B' (.tab::XE.1,XE.2)) λL9=>ph n 266 L9.1 L9.2))):=by kernel_rfl
theorem eT(n:Nat)(A B C D:V)(T:TS):ph (n+1) 916 [.host,A,B,C,D] T=(C' (ph n 534 [.host,A] T) λp1=>(C' (ph n 906 [.host,p1.1,B] p1.2) λp2=>(C' (C' (C' (cy p2.1) λl=>B' (l,p2.2)) λp3=>C' (fit p3.1.length ()) λ_=>C' (cC (λv5 U6=>(C' (C' (C' (cu U6 .Eq v5 (.int (-1))) λb9=>B' (b9,U6)) λp8=>bif p8.1 then B' ((.int (-1)),p8.2) else ph n 854 [.host,v5,C,D,(.bool true)] p8.2) λr7=>B' (B' r7.1,r7.2))) p3.1 p3.2) λq4=>B' (V.lst q4.1,q4.2)) λKM=>ph n 911 [.host,p1.1,KM.1] KM.2))):=by kernel_rfl
theorem eG(n:Nat)(A B C:V)(T:TS):ph (n+1) 921 [.host,A,B,C] T=(C' (ph n 534 [.host,A] T) λp1=>(C' (ph n 906 [.host,p1.1,B] p1.2) λp2=>(C' (C' (C' (cy p2.1) λl=>B' (l,p2.2)) λp3=>C' (fit p3.1.length ()) λ_=>C' (cC (λv5 U6=>(C' (C' (C' (cu U6 .Eq v5 (.int (-1))) λb9=>B' (b9,U6)) λp8=>bif p8.1 then B' ((.int (-1)),p8.2) else ph n 844 [.host,v5,C] p8.2) λr7=>B' (B' r7.1,r7.2))) p3.1 p3.2) λq4=>B' (V.lst q4.1,q4.2)) λKM=>ph n 911 [.host,p1.1,KM.1] KM.2))):=by kernel_rfl
theorem kD(n:Nat)(T:TS):ph (n+1) 931 [] T=B' ((.lst [(sv "k"),(sv "k"),(sv "p"),(sv "k"),(sv "p"),(sv "q"),(sv "7"),(sv "k")]),T):=by kernel_rfl
theorem rj(n:Nat)(A B:V)(T:TS):ph (n+1) 938 [A,B] T=(C' (C' (C' (C' (fZ "len" [A] T) λv=>B' (v,T)) λp1=>(C' (cI .Mod B p1.1) λz=>B' (z,p1.2))) λp2=>(C' (cv 2 p2.2 A p2.1) λz=>B' (z,p2.2))) λp3=>(C' (C' (C' (C' (fZ "len" [A] p3.2) λv=>B' (v,p3.2)) λp4=>(C' (cI .FloorDiv B p4.1) λz=>B' (z,p4.2))) λp5=>(C' (cI .Mult (.int 31) p5.1) λz=>B' (z,p5.2))) λp6=>(C' (cI .Add p3.1 p6.1) λz=>B' (z,p6.2)))):=by kernel_rfl
noncomputable def dQ(n:Nat):V->List Sl->TS->Kn->cK:=ff n 29 952 "i" [(2,0)]
noncomputable def dk(n:Nat)(k:Kn):Kn:=kk n 29 952 [(2,0)] 2 k
noncomputable def dR(n:Nat):Kn:=kk n 30 952 [] 3 ke
theorem dI(n:Nat)(A B C D E F:V)(s:Sl)(H I:V)(hs:s.aae=false)(T:TS)(k:Kn):dk n k [.pl .tab,.pl A,.pl B,.ow C,.ow D,.pl E,.pl F,.pl H,.pl I,s] T=(C' (C' (C' (cI .FloorDiv F (.int 21)) λz=>B' (z,T)) λp1=>(C' (cI .Mod p1.1 (.int 3)) λz=>B' (z,p1.2))) λp2=>(C' (C' (C' (cu p2.2 .Eq E (.int 1)) λTH=>B' (TH,p2.2)) λQO=>bif QO.1 then(C' (C' (C' (cI .Mod B (.int 2)) λz=>B' (z,QO.2)) λWr=>(C' (cu Wr.2 .Eq Wr.1 (.int 0)) λVt=>B' (Vt,Wr.2))) λRG=>bif RG.1 then B' (true,RG.2) else B' (false,RG.2)) else B' (false,QO.2)) λp3=>bif p3.1 then(C' (C' (cI .Sub (.int 2) p2.1) λz=>B' (z,p3.2)) λp4=>(C' (C' (cu p4.2 .Eq p4.1 (.int 0)) λU7=>B' (U7,p4.2)) λp5=>bif p5.1 then(C' (C' (C' (C' (cv 2 p5.2 (.lst [(sv "k"),(sv "p")]) E) λz=>B' (z,p5.2)) λp6=>(C' (C' (C' (C' (C' (cI .Mod B (.int 2)) λz=>B' (z,p6.2)) λp9=>(C' (cI .Mult (.int 2) p9.1) λz=>B' (z,p9.2))) λKM=>B' ([KM.1,(.int 0)],KM.2)) λNY=>B' (H::NY.1,NY.2)) λN6=>B' (p6.1::N6.1,N6.2))) λK2=>C' (fit K2.1.length (V.tup K2.1)) λv=>B' (v,K2.2)) λK5=>(C' (eW C K5.1) λYJ=>(C' (C' (cv 2 K5.2 (.lst [(sv "k"),(sv "p")]) E) λz=>B' (z,K5.2)) λLd=>(C' (hZ D Ld.1 (.tup [I,(.int 2)])) λNI=>k [.pl .tab,.pl A,.pl B,.ow YJ,.ow NI,.pl E,.pl F,.pl H,.pl I,.pl p4.1] Ld.2)))) else(C' (C' (cu p5.2 .Eq p4.1 (.int 1)) λOq=>B' (Oq,p5.2)) λK0=>bif K0.1 then(C' (C' (C' (C' (cv 2 K0.2 (.lst [(sv "k"),(sv "p")]) E) λz=>B' (z,K0.2)) λK9=>B' ([K9.1,H,(.int 1),(.int 0)],K9.2)) λLp=>C' (fit Lp.1.length (V.tup Lp.1)) λv=>B' (v,Lp.2)) λLk=>(C' (eW C Lk.1) λZH=>(C' (C' (C' (C' (cI .Add I (.lst [(.int 0)])) λz=>B' (z,Lk.2)) λLI=>B' ([LI.1,(.int 1)],LI.2)) λLo=>C' (fit Lo.1.length (V.tup Lo.1)) λv=>B' (v,Lo.2)) λLr=>(C' (C' (cv 2 Lr.2 (.lst [(sv "k"),(sv "p")]) E) λz=>B' (z,Lr.2)) λLj=>(C' (hZ D Lj.1 Lr.1) λZ4=>k [.pl .tab,.pl A,.pl B,.ow ZH,.ow Z4,.pl E,.pl F,.pl H,.pl I,.pl p4.1] Lj.2))))) else k [.pl .tab,.pl A,.pl B,.ow C,.ow D,.pl E,.pl F,.pl H,.pl I,.pl p4.1] K0.2))) else(C' (C' (cu p3.2 .Eq p2.1 (.int 0)) λRf=>B' (Rf,p3.2)) λMz=>bif Mz.1 then(C' (C' (C' (C' (cv 2 Mz.2 (.lst [(sv "k"),(sv "p")]) E) λz=>B' (z,Mz.2)) λLW=>(C' (C' (C' (C' (C' (cI .Mod B (.int 2)) λz=>B' (z,LW.2)) λNh=>(C' (cI .Mult (.int 2) Nh.1) λz=>B' (z,Nh.2))) λL9=>B' ([L9.1,(.int 0)],L9.2)) λTy=>B' (H::Ty.1,Ty.2)) λXz=>B' (LW.1::Xz.1,Xz.2))) λNl=>C' (fit Nl.1.length (V.tup Nl.1)) λv=>B' (v,Nl.2)) λNp=>(C' (eW C Np.1) λZl=>(C' (C' (cv 2 Np.2 (.lst [(sv "k"),(sv "p")]) E) λz=>B' (z,Np.2)) λPD=>(C' (hZ D PD.1 (.tup [I,(.int 2)])) λc42=>k [.pl .tab,.pl A,.pl B,.ow Zl,.ow c42,.pl E,.pl F,.pl H,.pl I,.pl p2.1] PD.2)))) else(C' (C' (cu Mz.2 .Eq p2.1 (.int 1)) λb53=>B' (b53,Mz.2)) λNq=>bif Nq.1 then(C' (C' (C' (C' (cv 2 Nq.2 (.lst [(sv "k"),(sv "p")]) E) λz=>B' (z,Nq.2)) λQv=>B' ([Qv.1,H,(.int 1),(.int 0)],Qv.2)) λWD=>C' (fit WD.1.length (V.tup WD.1)) λv=>B' (v,WD.2)) λXR=>(C' (eW C XR.1) λY9=>(C' (C' (C' (C' (cI .Add I (.lst [(.int 0)])) λz=>B' (z,XR.2)) λR5=>B' ([R5.1,(.int 1)],R5.2)) λOa=>C' (fit Oa.1.length (V.tup Oa.1)) λv=>B' (v,Oa.2)) λRS=>(C' (C' (cv 2 RS.2 (.lst [(sv "k"),(sv "p")]) E) λz=>B' (z,RS.2)) λNA=>(C' (hZ D NA.1 RS.1) λc52=>k [.pl .tab,.pl A,.pl B,.ow Y9,.ow c52,.pl E,.pl F,.pl H,.pl I,.pl p2.1] NA.2))))) else k [.pl .tab,.pl A,.pl B,.ow C,.ow D,.pl E,.pl F,.pl H,.pl I,.pl p2.1] Nq.2)))):=by kernel_rfl
theorem gj(n:Nat)(v:V)(A B C D:V)(s t u w x:Sl)(hs:s.aae=false)(ht:t.aae=false)(hu:u.aae=false)(hw:w.aae=false)(hx:x.aae=false)(T:TS)(k:Kn):dQ n v [.pl .tab,.pl A,.pl B,.ow C,.ow D,s,t,u,w,x] T k=(C' (C' (C' (cv 2 T (.lst [(.int 1),(.int 63)]) v) λz=>B' (z,T)) λp1=>(C' (cI .FloorDiv B p1.1) λz=>B' (z,p1.2))) λp2=>(C' (C' (C' (cI .Mod p2.1 (.int 21)) λz=>B' (z,p2.2)) λp3=>(C' (cv 2 p3.2 A p3.1) λz=>B' (z,p3.2))) λp4=>(C' (iG p4.1) λvs=>C' (eN (aal (fnAt 952)) [Str.ofString "tag",Str.ofString "values"] vs [.pl .tab,.pl A,.pl B,.ow C,.ow D,.pl v,.pl p2.1,u,w,x]) λG=>(dk n k) G p4.2))):=by kernel_rfl
theorem kE(n:Nat)(A B C D:V)(s t u w x:Sl)(hs:s.aae=false)(ht:t.aae=false)(hu:u.aae=false)(hw:w.aae=false)(hx:x.aae=false)(T:TS):dR n [.pl .tab,.pl A,.pl B,.ow C,.ow D,s,t,u,w,x] T=(C' (C' (C' (C' (C' (C' (C' (C' (rO "tuple" [C]) λv=>B' (v,T)) λKT=>B' ([KT.1,(.tup []),(.tup []),(.tup []),(.tup []),(.int 0)],KT.2)) λQ3=>B' ((.int 8)::Q3.1,Q3.2)) λK5=>C' (fit K5.1.length (V.tup K5.1)) λv=>B' (v,K5.2)) λLz=>B' ([Lz.1],Lz.2)) λLd=>ph n 137 (.tab::Ld.1) Ld.2) λL7=>B' ([L7.1,(sv "shape"),D],L7.2)) λK0=>C' (fit K0.1.length (V.tup K0.1)) λv=>B' (v,K0.2)):=by kernel_rfl
theorem oV(n:Nat)(A B:V)(T:TS):ph (n+1) 952 [.tab,A,B] T=(C' (C' (kU (.int 2)) λl=>B' (l,T)) λp1=>C' (fit p1.1.length ()) λ_=>cG (dQ n) p1.1 [.pl .tab,.pl A,.pl B,.ow (.lst []),.ow (.di []),.un,.un,.un,.un,.un] p1.2 (dR n)):=by kernel_rfl
noncomputable def el(n:Nat):Kn:=kk n 30 959 [] 4 ke
theorem gU(n:Nat)(A B C D E F:V)(T:TS):el n [.pl .tab,.pl A,.pl B,.pl C,.pl D,.pl E,.pl F,.un,.un,.un] T=(C' (C' (cI .Mod D (.int 9)) λz=>B' (z,T)) λp1=>(C' (C' (cu p1.2 .Eq p1.1 (.int 0)) λZb=>B' (Zb,p1.2)) λp2=>bif p2.1 then B' ((.tup [(.int 10),(sv "open"),(.di [])]),p2.2) else(C' (C' (cu p2.2 .Eq p1.1 (.int 1)) λZW=>B' (ZW,p2.2)) λp3=>bif p3.1 then B' ((.tup [(.int 4),(sv "none"),(.di [])]),p3.2) else(C' (C' (cu p3.2 .Eq p1.1 (.int 2)) λZG=>B' (ZG,p3.2)) λp4=>bif p4.1 then B' ((.tup [(.int 5),(sv "none"),(.di [])]),p4.2) else(C' (C' (cu p4.2 .Eq p1.1 (.int 3)) λVt=>B' (Vt,p4.2)) λp5=>bif p5.1 then B' ((.tup [(.int 11),(sv "shape"),(.di [])]),p5.2) else(C' (C' (cu p5.2 .Eq p1.1 (.int 4)) λVL=>B' (VL,p5.2)) λp6=>bif p6.1 then B' ((.tup [(.int 6),(sv "value"),(.di [])]),p6.2) else(C' (C' (cu p6.2 .Eq p1.1 (.int 5)) λb57=>B' (b57,p6.2)) λp7=>bif p7.1 then(C' (ph n 137 [.tab,(.tup [(.int 13),(.tup []),(.tup []),(.int 3),(.tup []),(.int 0)])] p7.2) λp8=>(C' (C' (ph n 137 [.tab,(.tup [(.int 8),(.tup []),(.tup [p8.1]),(.tup []),(.tup []),(.tup []),(.int 0)])] p8.2) λp9=>B' ([p9.1,(sv "shape"),(.di [])],p9.2)) λKM=>C' (fit KM.1.length (V.tup KM.1)) λv=>B' (v,KM.2))) else(C' (C' (cu p7.2 .Eq p1.1 (.int 6)) λTH=>B' (TH,p7.2)) λKS=>bif KS.1 then(C' (C' (ph n 137 [.tab,(.tup [(.int 8),(.tup []),(.tup []),(.tup []),(.tup [E,(.int 0)]),(.tup []),(.int 0)])] KS.2) λKT=>(C' (C' (C' (C' (C' (C' (C' (C' (B' ([],KT.2)) λQx=>B' (((sv "7"),(.tup [F,(.int 1)]))::Qx.1,Qx.2)) λQA=>B' (((sv "q"),(.tup [F,(.int 1)]))::QA.1,QA.2)) λTc=>B' (((sv "p"),(.tup [F,(.int 1)]))::Tc.1,Tc.2)) λOt=>B' (((sv "k"),(.tup [F,(.int 1)]))::Ot.1,Ot.2)) λLI=>C' (d7 LI.1) λv=>B' (v,LI.2)) λMu=>B' ([Mu.1],Mu.2)) λOA=>B' ((sv "shape")::OA.1,OA.2)) λQ1=>B' (KT.1::Q1.1,Q1.2))) λLW=>C' (fit LW.1.length (V.tup LW.1)) λv=>B' (v,LW.2)) else(C' (C' (cu KS.2 .Eq p1.1 (.int 7)) λY2=>B' (Y2,KS.2)) λN4=>bif N4.1 then(C' (C' (ph n 137 [.tab,(.tup [(.int 8),(.tup []),(.tup []),(.tup []),(.tup []),(.tup [E,(.int 0)]),(.int 0)])] N4.2) λMb=>(C' (C' (C' (C' (C' (B' ([],Mb.2)) λUq=>B' (((sv "7"),(.tup [F,(.int 1)]))::Uq.1,Uq.2)) λNl=>C' (d7 Nl.1) λv=>B' (v,Nl.2)) λQJ=>B' ([QJ.1],QJ.2)) λTT=>B' ((sv "shape")::TT.1,TT.2)) λSC=>B' (Mb.1::SC.1,SC.2))) λNq=>C' (fit Nq.1.length (V.tup Nq.1)) λv=>B' (v,Nq.2)) else(C' (C' (ph n 137 [.tab,(.tup [(.int 9),(.int 2),(.tup [])])] N4.2) λQv=>(C' (C' (C' (C' (C' (B' ([],Qv.2)) λTF=>B' (((sv "k"),(.tup [(.lst [(.int 5)]),(.int 2)]))::TF.1,TF.2)) λOa=>C' (d7 Oa.1) λv=>B' (v,Oa.2)) λNA=>B' ([NA.1],NA.2)) λSv=>B' ((sv "shape")::Sv.1,Sv.2)) λTZ=>B' (Qv.1::TZ.1,TZ.2))) λRz=>C' (fit Rz.1.length (V.tup Rz.1)) λv=>B' (v,Rz.2))))))))))):=by kernel_rfl
theorem rk(n:Nat)(A B:V)(T:TS):ph (n+1) 959 [.tab,A,B] T=(C' (C' (cI .Mod B (.int 3)) λz=>B' (z,T)) λp1=>(C' (C' (cI .FloorDiv B (.int 3)) λz=>B' (z,p1.2)) λp2=>(C' (C' (cu p2.2 .Lt p1.1 (.int 2)) λb7=>B' (b7,p2.2)) λp3=>bif p3.1 then ph n 952 [.tab,A,p2.1] p3.2 else(C' (C' (C' (C' (cI .FloorDiv p2.1 (.int 9)) λz=>B' (z,p3.2)) λp4=>(C' (cI .Mod p4.1 (.int 21)) λz=>B' (z,p4.2))) λp5=>(C' (cv 2 p5.2 A p5.1) λz=>B' (z,p5.2))) λp6=>(C' (iG p6.1) λvs=>C' (eN (aal (fnAt 959)) [Str.ofString "tag",Str.ofString "values"] vs [.pl .tab,.pl A,.pl B,.pl p1.1,.pl p2.1,.un,.un,.un,.un,.un]) λG=>(el n) G p6.2))))):=by kernel_rfl
theorem uu(n:Nat)(A B:V)(T:TS):ph (n+1) 964 [.tab,A,B] T=(C' (C' (C' (C' (C' (B' (B,T)) λp=>C' (CG p.1) λl=>B' (l,p.2)) λKS=>C' (fit KS.1.length ()) λ_=>C' (cC (λv13 VY=>C' (CF v13) λNy=>(C' (C' (C' (C' (j8 Ny.1) λk=>C' (hJ B F' (B' k)) λv=>B' (v,VY)) λK9=>(C' (cu K9.2 .NotIn Ny.2 K9.1) λPn=>B' (Pn,K9.2))) λK0=>bif K0.1 then B' (true,K0.2) else B' (false,K0.2)) λNI=>bif NI.1 then(C' (B' (Ny.2,NI.2)) λSP=>B' (B' SP.1,SP.2)) else B' (F',NI.2))) KS.1 KS.2) λN6=>B' (V.lst N6.1,N6.2)) λLk=>B' ([Lk.1],Lk.2)) λLe=>(C' (fZ "sorted" Le.1 Le.2) λv=>B' (v,Le.2))) λLI=>(C' (C' (C' (fZ "len" [LI.1] LI.2) λv=>B' (v,LI.2)) λSf=>(C' (cu Sf.2 .Eq Sf.1 (.int 0)) λWv=>B' (Wv,Sf.2))) λLo=>bif Lo.1 then(C' (C' (cu Lo.2 .Eq A (.int 2)) λPP=>B' (PP,Lo.2)) λq=>B' (V.bool q.1,q.2)) else(C' (C' (C' (fZ "len" [LI.1] Lo.2) λv=>B' (v,Lo.2)) λL9=>(C' (cu L9.2 .Eq L9.1 (.int 1)) λZX=>B' (ZX,L9.2))) λLj=>bif Lj.1 then(C' (C' (C' (cv 2 Lj.2 LI.1 (.int 0)) λz=>B' (z,Lj.2)) λMF=>(C' (cu MF.2 .Eq A MF.1) λOq=>B' (Oq,MF.2))) λq=>B' (V.bool q.1,q.2)) else(C' (C' (cv 2 Lj.2 .aan A) λz=>B' (z,Lj.2)) λMZ=>(C' (C' (C' (C' (C' (C' (rO "tuple" [LI.1]) λv=>B' (v,MZ.2)) λMz=>B' ([Mz.1],Mz.2)) λUo=>B' ((.int 6)::Uo.1,Uo.2)) λN4=>C' (fit N4.1.length (V.tup N4.1)) λv=>B' (v,N4.2)) λMb=>(C' (cu Mb.2 .Eq MZ.1 Mb.1) λZY=>B' (ZY,Mb.2))) λq=>B' (V.bool q.1,q.2)))))):=by kernel_rfl
theorem oW(n:Nat)(A:V)(T:TS):ph (n+1) 971 [.tab,A] T=(C' (C' (cu T .Eq A (.int 2)) λOd=>B' (Od,T)) λp1=>bif p1.1 then B' ((.lst []),p1.2) else(C' (C' (C' (C' (cv 2 p1.2 .aan A) λz=>B' (z,p1.2)) λp7=>(C' (cv 2 p7.2 p7.1 (.int 0)) λz=>B' (z,p7.2))) λp8=>(C' (cu p8.2 .Eq p8.1 (.int 6)) λb9=>B' (b9,p8.2))) λp2=>bif p2.1 then(C' (C' (C' (C' (cv 2 p2.2 .aan A) λz=>B' (z,p2.2)) λp4=>(C' (cv 2 p4.2 p4.1 (.int 1)) λz=>B' (z,p4.2))) λp5=>B' ([p5.1],p5.2)) λp6=>(C' (rO "list" p6.1) λv=>B' (v,p6.2))) else B' ((.lst [A]),p2.2))):=by kernel_rfl
noncomputable def jI(n:Nat):Kn:=kk n 30 976 [] 1 ke
theorem lB(n:Nat)(A B C D E F:V)(T:TS):jI n [.pl A,.pl B,.pl C,.pl D,.pl E,.pl F] T=(C' (C' (cu T .Eq E (sv "none")) λU7=>B' (U7,T)) λp1=>bif p1.1 then(C' (C' (cu p1.2 .In (.int 0) D) λb2=>B' (b2,p1.2)) λq=>B' (V.bool q.1,q.2)) else(C' (C' (cu p1.2 .In C F) λOq=>B' (Oq,p1.2)) λp3=>bif p3.1 then(C' (C' (C' (C' (C' (C' (C' (cv 2 p3.2 F C) λz=>B' (z,p3.2)) λK9=>(C' (cv 2 K9.2 K9.1 (.int 0)) λz=>B' (z,K9.2))) λLp=>(C' (cy Lp.1) λl=>B' (l,Lp.2))) λK5=>C' (fit K5.1.length ()) λ_=>C' (cC (λQU QD=>(C' (C' (C' (cu QD .In QU D) λM7=>B' (M7,QD)) λLe=>bif Le.1 then B' (true,Le.2) else B' (false,Le.2)) λQ4=>bif Q4.1 then(C' (B' (QU,Q4.2)) λQG=>B' (B' QG.1,QG.2)) else B' (F',Q4.2))) K5.1 K5.2) λM4=>B' (V.lst M4.1,M4.2)) λLo=>B' ([Lo.1],Lo.2)) λLr=>(C' (fZ "len" Lr.1 Lr.2) λv=>B' (v,Lr.2))) λLj=>(C' (C' (cu Lj.2 .Gt Lj.1 (.int 0)) λN8=>B' (N8,Lj.2)) λq=>B' (V.bool q.1,q.2))) else B' ((.bool true),p3.2))):=by kernel_rfl
theorem rm(n:Nat)(A B C D:V)(T:TS):ph (n+1) 976 [A,B,C,D] T=(C' (C' (cv 2 T A B) λz=>B' (z,T)) λp1=>(C' (iG p1.1) λvs=>C' (eN (aal (fnAt 976)) [Str.ofString "what",Str.ofString "reads"] vs [.pl A,.pl B,.pl C,.pl D,.un,.un]) λG=>(jI n) G p1.2)):=by kernel_rfl
theorem nN(n:Nat)(A B C D E:V)(T:TS):ph (n+1) 981 [.tab,A,B,C,D,E] T=(C' (ph n 971 [.tab,B] T) λp1=>(C' (C' (C' (fZ "len" [p1.1] p1.2) λv=>B' (v,p1.2)) λKT=>(C' (cu KT.2 .Gt KT.1 (.int 1)) λMW=>B' (MW,KT.2))) λp2=>bif p2.1 then(C' (C' (C' (cy p1.1) λl=>B' (l,p2.2)) λp3=>C' (fit p3.1.length ()) λ_=>C' (cC (λv5 U6=>(C' (C' (C' (ph n 976 [A,v5,D,E] U6) λKM=>(C' (cw KM.1) λb=>B' (b,KM.2))) λp9=>bif p9.1 then B' (true,p9.2) else B' (false,p9.2)) λc8=>bif c8.1 then(C' (B' (v5,c8.2)) λr7=>B' (B' r7.1,r7.2)) else B' (F',c8.2))) p3.1 p3.2) λq4=>B' (V.lst q4.1,q4.2)) λKS=>ph n 964 [.tab,C,KS.1] KS.2) else ph n 964 [.tab,C,p1.1] p2.2)):=by kernel_rfl
noncomputable def dz(n:Nat):V->List Sl->TS->Kn->cK:=ff n 29 986 "t" [(4,0)]
noncomputable def iA(n:Nat):Kn:=kk n 30 986 [] 5 ke
theorem fE(n:Nat)(v:V)(A B C D:V)(s:Sl)(E F H:V)(hs:s.aae=false)(T:TS)(k:Kn):dz n v [.pl .tab,.pl A,.pl B,.pl C,.pl D,s,.pl E,.pl F,.ow H] T k=(C' (C' (C' (cu T .In v F) λPn=>B' (Pn,T)) λK9=>bif K9.1 then B' (true,K9.2) else(C' (C' (C' (C' (cv 2 K9.2 A v) λz=>B' (z,K9.2)) λLe=>(C' (cv 2 Le.2 Le.1 (.int 0)) λz=>B' (z,Le.2))) λLI=>(C' (cu LI.2 .Eq LI.1 (sv "any")) λWp=>B' (Wp,LI.2))) λLk=>bif Lk.1 then B' (true,Lk.2) else B' (false,Lk.2))) λp1=>bif p1.1 then(C' (eW H v) λc2=>k [.pl .tab,.pl A,.pl B,.pl C,.pl D,.pl v,.pl E,.pl F,.ow c2] p1.2) else(C' (C' (cu p1.2 .Eq v (.int 1)) λRC=>B' (RC,p1.2)) λp3=>bif p3.1 then(C' (ph n 137 [.tab,(.tup [(.int 7),(.tup [(.int 10),D])])] p3.2) λp4=>(C' (eW H p4.1) λc5=>k [.pl .tab,.pl A,.pl B,.pl C,.pl D,.pl v,.pl E,.pl F,.ow c5] p4.2)) else(C' (C' (C' (C' (C' (cv 2 p3.2 A v) λz=>B' (z,p3.2)) λKT=>(C' (cv 2 KT.2 KT.1 (.int 0)) λz=>B' (z,KT.2))) λK2=>(C' (cu K2.2 .Eq K2.1 (sv "open")) λVi=>B' (Vi,K2.2))) λKS=>bif KS.1 then B' (true,KS.2) else(C' (C' (C' (fZ "len" [F] KS.2) λv=>B' (v,KS.2)) λLd=>(C' (cu Ld.2 .Eq Ld.1 (.int 0)) λPM=>B' (PM,Ld.2))) λLz=>bif Lz.1 then B' (true,Lz.2) else B' (false,Lz.2))) λp6=>bif p6.1 then(C' (C' (C' (cu p6.2 .Eq v (.int 11)) λb8=>B' (b8,p6.2)) λp7=>bif p7.1 then B' (D,p7.2) else ph n 137 [.tab,(.tup [(.int 7),(.tup [v,D])])] p7.2) λp9=>(C' (eW H p9.1) λc10=>k [.pl .tab,.pl A,.pl B,.pl C,.pl D,.pl v,.pl E,.pl F,.ow c10] p9.2)) else k [.pl .tab,.pl A,.pl B,.pl C,.pl D,.pl v,.pl E,.pl F,.ow H] p6.2))):=by kernel_rfl
theorem md(n:Nat)(A B C D:V)(s:Sl)(E F H:V)(hs:s.aae=false)(T:TS):iA n [.pl .tab,.pl A,.pl B,.pl C,.pl D,s,.pl E,.pl F,.ow H] T=B' (H,T):=by kernel_rfl
theorem sU(n:Nat)(A B C:V)(T:TS):ph (n+1) 986 [.tab,A,B,C] T=(C' (ph n 137 [.tab,(.tup [(.int 8),(.tup [(.tup [C,(.int 1),(.int 0),(.int 0)])]),(.tup []),(.tup []),(.tup []),(.tup []),(.int 0)])] T) λp1=>(C' (C' (C' (ph n 971 [.tab,B] p1.2) λp7=>(C' (cy p7.1) λl=>B' (l,p7.2))) λp2=>C' (fit p2.1.length ()) λ_=>C' (cC (λv4 U5=>(C' (C' (C' (C' (C' (cv 2 U5 A v4) λz=>B' (z,U5)) λKM=>(C' (cv 2 KM.2 KM.1 (.int 0)) λz=>B' (z,KM.2))) λKS=>(C' (cu KS.2 .In KS.1 (.tup [(sv "shape"),(sv "open"),(sv "any")])) λQa=>B' (Qa,KS.2))) λp9=>bif p9.1 then B' (true,p9.2) else B' (false,p9.2)) λc8=>bif c8.1 then(C' (B' (v4,c8.2)) λr6=>B' (B' r6.1,r6.2)) else B' (F',c8.2))) p2.1 p2.2) λq3=>B' (V.lst q3.1,q3.2)) λK2=>(C' (C' (C' (cy K2.1) λl=>B' (l,K2.2)) λK5=>C' (fit K5.1.length ()) λ_=>C' (cC (λQU QD=>(C' (C' (C' (C' (C' (cv 2 QD A QU) λz=>B' (z,QD)) λLk=>(C' (cv 2 Lk.2 Lk.1 (.int 1)) λz=>B' (z,Lk.2))) λLe=>(C' (cu Le.2 .In C Le.1) λM7=>B' (M7,Le.2))) λLp=>bif Lp.1 then B' (true,Lp.2) else B' (false,Lp.2)) λRl=>bif Rl.1 then(C' (B' (QU,Rl.2)) λQG=>B' (B' QG.1,QG.2)) else B' (F',Rl.2))) K5.1 K5.2) λM4=>B' (V.lst M4.1,M4.2)) λLo=>(C' (C' (cy K2.1) λl=>B' (l,Lo.2)) λLr=>C' (fit Lr.1.length ()) λ_=>cG (dz n) Lr.1 [.pl .tab,.pl A,.pl B,.pl C,.pl p1.1,.un,.pl K2.1,.pl Lo.1,.ow (.lst [])] Lr.2 (iA n))))):=by kernel_rfl
structure Tb (c:Nat) (T:TS):Prop where
 rows:∃X,T.rows=T2.rows++X
 idx:T.idx=fx 0 T.rows
 nd:T.rows.Nodup
 room:T.rows.length+c<=10000
structure Ex (T T':TS):Prop where
 rows:∃Y,T'.rows=T.rows++Y
 b:T'.b=T.b
 d:T'.d=T.d
 n:T'.n=T.n
noncomputable def At(T:TS)(t:Int)(r:V):Prop:=0<=t/\T.rows[t.toNat]? =B' r
theorem Ex.rfl:Ex T T:=⟨⟨[],by simp⟩,Eq.refl _,Eq.refl _,Eq.refl _⟩
theorem Ex.trans{T T' N5:TS}(a:Ex T T')(b:Ex T' N5):Ex T N5:=by
 obtain⟨Y,e⟩:=a.rows
 obtain⟨Z,f⟩:=b.rows
 exact⟨⟨Y++Z,by rw[f,e,bv]⟩,b.b.trans a.b,b.d.trans a.d,b.n.trans a.n⟩
theorem Tb.less{k:Nat}(h:Tb c T)(q:k<=c):Tb k T:=⟨h.rows,h.idx,h.nd,by have:=h.room;exact I8 q this⟩
theorem At.mono{r:V}(a:At T t r)(e:Ex T T'):At T' t r:=by
 obtain⟨Y,e⟩:=e.rows
 refine⟨a.1,?_⟩
 rw[e,List.getElem?_append_left]
 .exact a.2
 .exact(aV.mp a.2).1
theorem At.lt{r:V}(a:At T t r):t.toNat<T.rows.length:=(aV.mp a.2).1
theorem At.inj{u:Int}{r:V}(h:Tb c T)(a:At T t r)(b:At T u r):t=u:=by
 have:=(List.getElem?_inj a.lt h.nd).mp (a.2.trans b.2.symm)
 exact Jo this a.1 b.1
theorem At.row{r r':V}(a:At T t r)(b:At T t r'):r=r':=by
 have:=a.2.symm.trans b.2;simpa using this
theorem At.big{r:V}(h:Tb c T)(a:At T t r):t<10000:=by
 have:=a.lt;have:=h.room;have:=a.1;exact Jk a.lt h.room
theorem cF{r:V}(h:Tb c T)(a:At T t r):cv 2 T .aan (.int t)=B' r:=by
 have h2:=a.big h
 show(bif L' (0<=t)&&decide (t<2^62) then T.rows[t.toNat]? else F')=_
 (refine sb (ak a.1) ?_;refine sb (ak (show t<2^62 by exact P2 h2 rfl)) ?_)
 exact a.2
theorem nP(r:V):∀(l:List V)(k i:Nat),l.Nodup->l[i]? =B' r->dA r (fx k l)=B' ((i+k:Nat):Int)
 |[],_,_,_,h=>by simp at h
 |x::l,k,0,_,h=>by
  have:x=r:=by simpa using h
  subst this;show(bif x.beq x then _ else _)=_;rw[V.beq_refl,ci];rfl
 |x::l,k,i+1,nd,h=>by
  have h':l[i]? =B' r:=by simpa using h
  have ne:x≠r:=λe=>(bj.mp nd).1 (e▸(bV h':r∈l));show(bif x.beq r then _ else dA r (fx (k+1) l))=_;rw[V.beq_iff,aj ne];show dA r (fx (k+1) l)=_;refine sb (nP r l (k+1) i (bj.mp nd).2 h') ?_;congr 2;exact HT
theorem nQ(r:V):∀(l:List V)(k:Nat),r∉l->dA r (fx k l)=F'
 |[],_,_=>rfl
 |x::l,k,h=>by
  have ne:x≠r:=λe=>h (e▸af ..);show(bif x.beq r then _ else dA r (fx (k+1) l))=_;rw[V.beq_iff,aj ne];exact nQ r l (k+1) λm=>h (ag _ m)
theorem pU(x:V):∀(l:List V)(k:Nat),fx k (l++[x])=fx k l++[(x,((k+l.length:Nat):Int))]
 |[],k=>rfl
 |y::l,k=>by
  show(y,(k:Int))::fx (k+1) (l++[x])=(y,(k:Int))::(fx (k+1) l++_);refine sb (pU x l (k+1)) ?_;congr 4;simp only[List.length_cons];exact aM Nat.cast Er
theorem pV:∀(l:List V)(k:Nat),(fx k l).length=l.length
 |[],_=>rfl
 |_::l,k=>aM Nat.succ (pV l (k+1))
theorem At.find{l:List V}(h:Tb c T)(a:At T t (.tup l)):dA (.tup l) T.idx=B' t:=by
 (refine sb h.idx ?_;refine sb (nP _ _ 0 t.toNat h.nd a.2) ?_)
 have:=a.1
 congr 1;exact Eu this
theorem B3(h:Tb c T)(l:List V):(∃t,At T t (.tup l))\/(dA (.tup l) T.idx=F'/\V.tup l∉T.rows):=by
 by_cases m:V.tup l∈T.rows
 .refine x11 (List.getElem?_of_mem m) λi e=>?_;exact .inl ⟨i,by exact P9,by simpa using e⟩
 .exact .inr ⟨by rw[h.idx];exact nQ _ _ _ m,m⟩
theorem dD(n:Nat)(h:Tb (c+1) T)(l:List V)(hk:(V.tup l).hk 6=true):∃t T',ph (n+1) 137 [.tab,.tup l] T=B' (.int t,T')/\Tb c T'/\Ex T T'/\At T' t (.tup l):=by
 rcases B3 h l with⟨t,a⟩|⟨f,m⟩
 .refine(fy t T ?_ (h.less (bm _)) (.rfl) a);have e1:cu T .In (.tup l) .idxH=B' true:=by
   show(bif(V.tup l).hk 6 then B' (dA (.tup l) T.idx).isSome else F')=_;(refine sb hk ?_;refine sb (a.find h) ?_);rfl
  have e2:cv 2 T .idxH (.tup l)=B' (.int t):=by
   show(bif(V.tup l).hk 6 then(dA (.tup l) T.idx).map V.int else F')=_;(refine sb hk ?_;refine sb (a.find h) ?_);rfl
  simp only[sQ,e1,e2,Option.bind,cond_true]
 .have hr:=h.room;refine(fy T.rows.length ({T with rows:=T.rows++[V.tup l],idx:=T.idx++[(V.tup l,(T.rows.length:Int))]}) ?_ (⟨?_,?_,?_,?_⟩) (⟨⟨_,rfl⟩,rfl,rfl,rfl⟩) ?_)
  .have e1:cu T .In (.tup l) .idxH=B' false:=by
    show(bif(V.tup l).hk 6 then B' (dA (.tup l) T.idx).isSome else F')=_;(refine sb hk ?_;refine sb f ?_);rfl
   have e2:tP .aan (.tup l) T=B' {T with rows:=T.rows++[V.tup l]}:=by
    show(bif(V.tup l).hk 6 then fit (T.rows.length+1) {T with rows:=T.rows++[V.tup l]} else F')=_;rw[hk];show(bif L' (T.rows.length+1<=sizeLine) then _ else _)=_;rw[ak (show T.rows.length+1<=sizeLine from Jy hr (by decide))];rfl
   have e3:qr .idxH (.tup l) (.int T.rows.length) {T with rows:=T.rows++[V.tup l]}=B' {T with rows:=T.rows++[V.tup l],idx:=T.idx++[(V.tup l,(T.rows.length:Int))]}:=by
    show(bif(V.tup l).hk 6&&(dA (.tup l) T.idx).isNone&&decide (T.idx.length<sizeLine) then _ else _)=_;have hl:T.idx.length<sizeLine:=by
     rw[h.idx,pV];have:10000<=sizeLine:=by decide
     exact Co hr rfl
    (refine sb hk ?_;refine sb f ?_;refine sb (ak hl) ?_);rfl
   have e4:fZ "len" [.aan] T=B' (.int T.rows.length):=rfl;simp only[sQ,e1,e2,e3,e4,Option.bind,cond_false]
  .obtain⟨X,e⟩:=h.rows;exact⟨X++[V.tup l],by show T.rows++[V.tup l]=_;rw[e,bv]⟩
  .show _=fx 0 (T.rows++[.tup l]);rw[pU,h.idx,ci]
  .show(T.rows++[V.tup l]).Nodup;exact cn.mpr ⟨h.nd,by simp,λa ha b hb e=>by simp at hb;subst hb;subst e;exact m ha⟩
  .show(T.rows++[V.tup l]).length+c<=10000;simp;exact O36 hr
  .refine⟨by exact P9,?_⟩;show(T.rows++[V.tup l])[((T.rows.length:Int)).toNat]? =_;simp
theorem ceq(T:TS)(a b:Int):cu T .Eq (.int a) (.int b)=B' (L' (a=b)):=rfl
theorem vz(T:TS)(a b:Int):cu T .NotEq (.int a) (.int b)=B' (!decide (a=b)):=by
 show(cu T .Eq (.int a) (.int b)).map (!·)=_
 rw[ceq];rfl
theorem cge(T:TS)(a b:Int):cu T .GtE (.int a) (.int b)=B' (L' (b<=a)):=rfl
theorem Ds(T:TS)(a b:Int):cu T .Gt (.int a) (.int b)=B' (L' (b<a)):=rfl
theorem Dt(a:Int):∀l:List Int,(l.map V.int).any (V.beq (.int a))=decide (a∈l)
 |[]=>by simp
 |b::l=>by
  have:V.beq (.int a) (.int b)=decide (a=b):=rfl;simp only[aC,List.any_cons,Dt a l,this,aD,Bool.decide_or]
theorem sV(n:Nat):∀l:List Int,(l.map V.int).all (V.hk n)=true
 |[]=>rfl
 |b::l=>by(refine sb aC ?_;refine sb List.all_cons ?_;refine sb (sV n l) ?_);induction n using Nat.casesOn<;>rfl
theorem nR(T:TS)(a:Int)(l:List Int):cu T .In (.int a) (it l)=B' (L' (a∈l)):=by
 show(bif(V.int a).hk 6&&(l.map V.int).all (V.hk 6) then B' ((l.map V.int).any (V.beq (.int a))) else F')=_
 rw[sV,Dt];rfl
theorem nS(T:TS)(a:Int)(l:List Int):cu T .In (.int a) (.lst (l.map .int))=B' (L' (a∈l)):=by
 show(bif(V.int a).hk 6&&(l.map V.int).all (V.hk 6) then B' ((l.map V.int).any (V.beq (.int a))) else F')=_
 rw[sV,Dt];rfl
theorem Fx(T:TS)(a b:V):cu T .NotIn a b=(cu T .In a b).map (!·):=rfl
noncomputable def PA(T:TS)(z:Int)(l:List Int):Prop:=(z=2/\l=[])\/(z≠2/\2<=l.length/\At T z (.tup [.int 6,it l]))\/(z≠2/\l=[z]/\∃k KJ,k≠6/\At T z (.tup (.int k::KJ)))
variable {z:Int}
theorem PA.mono{l:List Int}(a:PA T z l)(e:Ex T T'):PA T' z l:=by
 rcases a with a|⟨a,a',b⟩|⟨a,b,k,r,c,d⟩
 .exact .inl a
 .exact .inr (.inl ⟨a,a',b.mono e⟩)
 .exact .inr (.inr ⟨a,b,k,r,c,d.mono e⟩)
theorem cB{l:List Int}(n:Nat)(h:Tb c T)(a:PA T z l):ph (n+1) 226 [.tab,.int z] T=B' (it l,T):=by
 have s0:∀(k:Int)(r:List V),cv 2 T (.tup (.int k::r)) (.int 0)=B' (.int k):=λO O=>rfl
 rcases a with⟨a,b⟩|⟨a,_,b⟩|⟨a,b,k,r,q,d⟩
 .subst a;subst b;simp only[iZ,ceq,Option.bind,aW,cond_true];rfl
 .have s1:cv 2 T (.tup [.int 6,it l]) (.int 1)=B' (it l):=rfl;simp only[iZ,ceq,Option.bind,aj a,cF h b,s0,s1,cond_false,aW,cond_true]
 .subst b;simp only[iZ,ceq,Option.bind,aj a,cF h d,s0,cond_false,aj q];rfl
theorem nU:10000<=sizeLine:=by decide
noncomputable def kd(ks:List Int):V:=.di (ks.map λk=>(k,V.int 1))
noncomputable def eX(k:Int)(ks:List Int):List Int:=if k∈ks then ks else ks++[k]
noncomputable def dd(F ks:List Int):List Int:=F.foldl (λks k=>eX k ks) ks
theorem nV(k:Int)(ks:List Int):(eX k ks).length<=ks.length+1:=by
 unfold eX;split<;>simp
theorem gD:∀(F ks:List Int),(dd F ks).length<=ks.length+F.length
 |[],ks=>by simp [dd]
 |k::F,ks=>by
  have q1:=gD F (eX k ks);have q2:=nV k ks;simp only[dd,List.foldl_cons,List.length_cons] at*;exact HY q1 q2
theorem yN{k x:Int}{ks:List Int}:x∈eX k ks↔x∈ks\/x=k:=by
 unfold eX
 split
 .rename_i h;constructor
  .exact .inl
  .rintro (h'|rfl)
   .exact h'
   .exact h
 .simp
theorem aaP:∀{F ks:List Int}{x:Int},x∈dd F ks↔x∈ks\/x∈F
 |[],ks,x=>by simp [dd]
 |k::F,ks,x=>by
  show x∈dd F (eX k ks)↔_;rw[aaP,yN,aD,or_assoc]
theorem AT{k:Int}{ks:List Int}(h:ks.Nodup):(eX k ks).Nodup:=by
 unfold eX
 split
 .exact h
 .rename_i q;exact cn.mpr ⟨h,by simp,λa ha b hb e=>by simp at hb;subst hb;subst e;exact q ha⟩
theorem ab7:∀{F ks:List Int},ks.Nodup->(dd F ks).Nodup
 |[],_,h=>h
 |k::F,ks,h=>ab7 (F:=F) (ks:=eX k ks) (AT h)
theorem sW(k:Int):∀ks:List Int,dH k (.int 1) (ks.map λk=>(k,V.int 1))=(eX k ks).map λk=>(k,V.int 1)
 |[]=>rfl
 |j::ks=>by
  show(bif j==k then(j,V.int 1)::_ else(j,V.int 1)::dH k (.int 1) _)=_;rw[sW k ks];by_cases e:j=k
  .subst e;simp [eX]
  .have:(j==k)=false:=by simpa using e
   have e':¬k=j:=λh=>e h.symm;rw[this];unfold eX;simp only[aD,e',false_or];split<;>rfl
theorem sX(k:Int):∀ks:List Int,(dK k (ks.map λk=>(k,V.int 1))).isSome=decide (k∈ks)
 |[]=>rfl
 |j::ks=>by
  show(bif j==k then B' (V.int 1) else dK k _).isSome=_;by_cases e:j=k
  .subst e;simp
  .have:(j==k)=false:=by simpa using e
   have e':¬k=j:=λh=>e h.symm;refine sb this ?_;simp only[cond_false,sX k ks,aD,e',false_or]
theorem yO(T:TS)(a:Int)(ks:List Int):cu T .In (.int a) (kd ks)=B' (L' (a∈ks)):=aM B' (sX a ks)
theorem nW{k:Int}{ks:List Int}(h:ks.length<10000):hZ (kd ks) (.int k) (.int 1)=B' (kd (eX k ks)):=by
 show(bif L' ((ks.map λk=>(k,V.int 1)).length<sizeLine) then B' (V.di (dH k (.int 1) _)) else F')=_
 rw[ae,ak (bX h nU),sW];rfl
theorem cH{m:Nat}(x:α)(h:m<=10000):fit m x=B' x:=by
 unfold fit
 refine sb (ak (aG h nU)) ?_;rfl
theorem vA(n:Nat)(P:V)(z:V)(T:TS)(k:Kn):∀(F ks:List Int)(s:Sl),s.aae=false->ks.length+F.length<=1000->∃s',s'.aae=false/\cG (jh n) (F.map .int) [.pl .tab,.pl P,.ow (kd ks),.pl z,s,.un,.un] T k=k [.pl .tab,.pl P,.ow (kd (dd F ks)),.pl z,s',.un,.un] T
 |[],ks,s,hs,_=>⟨s,hs,rfl⟩
 |p::F,ks,s,hs,hl=>by
  have LT:ks.length+F.length+1<=1000:=by simpa [bH] using hl
  have:=nV p ks;refine x12 (vA n P z T k F (eX p ks) (.pl (.int p)) rfl (Gy LT this)) λs' q e=>?_;refine⟨s',q,?_⟩;show jh n (.int p) _ T _=_;rw[qP n _ _ _ _ _ hs,nW (Co LT rfl)];exact e
theorem rn(n:Nat)(P:V)(h:Tb c T)(k:Kn):∀(zs:List (Int×List Int))(ks:List Int)(s t:Sl),s.aae=false->t.aae=false->(∀z∈zs,PA T z.1 z.2)->ks.length+(zs.flatMap (·.2)).length<=1000->∃s' t',s'.aae=false/\t'.aae=false/\cG (gO (n+1)) (zs.map λz=>.int z.1) [.pl .tab,.pl P,.ow (kd ks),s,t,.un,.un] T k=k [.pl .tab,.pl P,.ow (kd (dd (zs.flatMap (·.2)) ks)),s',t',.un,.un] T
 |[],ks,s,t,hs,ht,_,_=>(gE s t hs ht rfl)
 |z::zs,ks,s,t,hs,ht,hz,hl=>by
  simp only[bG,bc] at hl;have hd:=gD z.2 ks;refine hide λQz qz=>?_;refine x23 (rn n P h k zs (dd z.2 ks) (.pl (.int z.1)) .un rfl rfl (λx m=>hz x (ag _ m)) (HQ hl hd)) λs' t' q1 q2 e=>?_;refine x12 (vA (n+1) P (.int z.1) T (lk (n+1) (λG T=>cG (gO (n+1)) (zs.map λz=>V.int z.1) G T k)) z.2 ks t ht (HR hl)) λt₁ r1 e1=>?_;refine x23 (rn n P h k zs (dd z.2 ks) (.pl (.int z.1)) t₁ rfl r1 (λx m=>hz x (ag _ m)) (HQ hl hd)) λs' t' q1 q2 e=>?_;refine qz ?_;refine(gE s' t' q1 q2 ?_);show gO (n+1) (.int z.1) _ T _=_;rw[qR _ _ _ _ _ _ hs ht,cB n h (hz z (af ..))];have e0:cy (it z.2)=B' (z.2.map .int):=rfl;simp only[Option.bind,e0];rw[cH () (by rw[ae];exact IM hl rfl)];simp only[Option.bind];rw[e1,qQ _ _ _ _ _ r1,e];simp only[bG,dd,List.foldl_append]
theorem cJ(h:Tb c T)(i:Nat)(r:V)(e:T2.rows[i]? =B' r):At T i r:=by
 obtain⟨X,q⟩:=h.rows
 refine⟨by exact P9,?_⟩
 rw[q,Int.toNat_natCast,List.getElem?_append_left (aV.mp e).1,e]
theorem Fy:T2.rows[2]? =B' (.tup [.int 1,sv "never"]):=by kernel_rfl
noncomputable def iB(K:List Int):Int:=if 0∈K then 0 else if 13∈K then 13 else if 1∈K then 1 else -1
theorem sY(n:Nat)(T:TS)(K:List Int):ph (n+1) 261 [kd K] T=B' (.int (iB K),T):=by
 rw[wV]
 have e0:cy (.tup [(.int 0),(.int 13),(.int 1)])=B' [.int 0,.int 13,.int 1]:=rfl
 have e1:fit [V.int 0,V.int 13,V.int 1].length ()=B' ():=rfl
 simp only[e0,e1,Option.bind,dv,dw]
 rw[gy _ _ _ _ rfl,yO]
 simp only[Option.bind]
 by_cases h0:0∈K
 .simp only[h0,aW,cond_true,iB,bJ]
 rw[gy _ _ _ _ rfl,yO]
 simp only[Option.bind]
 by_cases h1:13∈K
 .simp only[h0,h1,aW,aH,cond_false,cond_true,iB,bJ,bg]
 rw[gy _ _ _ _ rfl,yO]
 simp only[Option.bind]
 by_cases h2:1∈K
 .simp only[h0,h1,h2,aW,aH,cond_false,cond_true,iB,bJ,bg]
 .rw[oO _ _ _ rfl];simp only[h0,h1,h2,aW,aH,cond_false,cond_true,iB,bJ,bg]
theorem kF{k:Int}{ks:List Int}(h:k∈ks):eX k ks=ks:=aZ h
theorem wX(n:Nat)(T:TS)(K:List Int)(hl:K.length<10000)(WQ:14∉K)(UL:15∉K):lW (gZ 2) (n+1) 247 (kd K) T=B' (kd K,T):=by
 rw[oN]
 simp only[yO,Option.bind]
 by_cases h8:8∈K<;>by_cases h9:9∈K<;>simp only[h8,h9,WQ,UL,aW,aH,cond_true,cond_false]
 (refine sb (nW hl) ?_;refine sb (kF h8) ?_)
 simp only[nW hl,kF h9]
structure Sb (T:TS) (K:List Int) (p w:Int):Prop where
 twin:∀n,∃j,ph (n+1) 240 [.tab,.int p] T=B' (.int j,T)/\j∉K
 whole:∃row,At T p row/\∀n,ph (n+1) 233 [row] T=B' (.int w,T)
theorem uv(n:Nat)(h:Tb c T){K:List Int}{p w:Int}(s:Sb T K p w):ph (n+2) 254 [.tab,kd K,.int p] T=B' (.bool (L' (w∉K)),T):=by
 refine hide λQz qz=>?_
 refine x12 (s.twin n) λj e hj=>?_
 refine x12 s.whole λrow a ew=>?_
 refine qz ?_
 rw[lY,e]
 simp only[Option.bind,yO,hj,aH,cond_false,cF h a,ew n,Fx,Option.map,decide_not]
theorem aaa(a:α)(f:α->Option β):(B' a).bind f=f a:=rfl
theorem cL(b:Bool):cw (.bool b)=B' b:=rfl
theorem cN(f:V->TS->Option (Option V×TS))(T:TS)(g:α->V)(keep:α->Bool):∀l:List α,(∀p∈l,f (g p) T=B' (bif keep p then B' (g p) else F',T))->cC f (l.map g) T=B' ((l.filter keep).map g,T)
 |[],_=>rfl
 |p::l,h=>by
  rw[aC];rw[fk];rw[h p (af ..),aaa,cN f T g keep l λx m=>h x (ag _ m),aaa,bT];cases keep p<;>rfl
theorem eH(f:V->TS->Option (Option V×TS))(T:TS)(g r:α->V):∀l:List α,(∀p∈l,f (g p) T=B' (B' (r p),T))->cC f (l.map g) T=B' (l.map r,T)
 |[],_=>rfl
 |p::l,h=>by
  rw[aC];rw[fk];rw[h p (af ..),aaa,eH f T g r l λx m=>h x (ag _ m),aaa];rfl
noncomputable def aaB(wh:Int->Int)(K:List Int):List Int:=(cQ K).filter λp=>decide (wh p∉K)
theorem nX{x i:Int}:∀{l:List Int},x∈kR i l↔x=i\/x∈l
 |[]=>by simp [jM,jN]
 |j::l=>by
  simp only[jM,jN];cases L' (i<j)
  .simp only[cond_false,aD,nX];constructor<;>(rintro (h|h|h)<;>simp [h])
  .simp only[cond_true,aD]
theorem dn{x:Int}:∀{l:List Int},x∈cQ l↔x∈l
 |[]=>by simp [cQ]
 |j::l=>by
  show x∈kR j (cQ l)↔_;rw[nX,dn,aD]
theorem sZ(i:Int):∀l:List Int,(kR i l).length=l.length+1
 |[]=>rfl
 |j::l=>by
  simp only[jM,jN];cases L' (i<j)
  .simp only[cond_false,List.length_cons,sZ i l]
  .rfl
theorem fM:∀l:List Int,(cQ l).length=l.length
 |[]=>rfl
 |j::l=>by
  show(kR j (cQ l)).length=_;rw[sZ,fM];rfl
noncomputable def Du(wh:Int->Int)(K:List Int)(T:TS)(z:Int):Prop:=if 0<=iB K then z=iB K else PA T z (aaB wh K)
theorem j3(n:Nat)(h:Tb (c+1) T)(V0:V)(zs:List (Int×List Int))(wh:Int->Int)(hV:cy V0=B' (zs.map λz=>.int z.1))(hz:∀z∈zs,PA T z.1 z.2)(hl:(zs.flatMap (·.2)).length<64)(hn:zs.length<1000)(WQ:14∉dd (zs.flatMap (·.2)) [])(UL:15∉dd (zs.flatMap (·.2)) [])(hs:∀p∈dd (zs.flatMap (·.2)) [],Sb T (dd (zs.flatMap (·.2)) []) p (wh p))(h1:∀p∈dd (zs.flatMap (·.2)) [],∃k KJ,k≠6/\At T p (.tup (.int k::KJ)))(h2:2∉dd (zs.flatMap (·.2)) []):∃z T',ph (n+3) 266 [.tab,V0] T=B' (.int z,T')/\Tb c T'/\Ex T T'/\Du wh (dd (zs.flatMap (·.2)) []) T' z:=by
 have hd:=gD (zs.flatMap (·.2)) []
 generalize hK:dd (zs.flatMap (·.2)) []=K at*
 have LT:K.length<64:=by simp only[List.length_nil] at hd;exact HW hl hd rfl
 refine hide λQz qz=>?_
 refine x23 (rn (n+1) V0 h (ln (n+2)) zs [] .un .un rfl rfl hz (by simp only[List.length_nil];exact HV hl rfl)) λs t q1 q2 e=>?_
 refine qz ?_
 rw[hK] at e
 rw[yL,hV]
 simp only[aaa]
 rw[cH () (by rw[ae];exact O3 hn rfl),aaa]
 have e0:(V.di [])=kd []:=rfl
 rw[e0,e,qU _ _ _ _ _ q1 q2,sY,aaa]
 have e1:(du (aal (fnAt 266)) (bif V.flat (.int (iB K)) then [.pl .tab,.pl V0,.ow (kd K),s,t,.un,.un] else [.pl .tab,.pl V0,.pl (kd K),s,t,.un,.un]) (Str.ofString "top") (.pl (.int (iB K))))=B' [.pl .tab,.pl V0,.ow (kd K),s,t,.pl (.int (iB K)),.un]:=by kernel_rfl
 rw[e1,aaa,qS _ _ _ _ _ _ q1 q2,cge,aaa,aaa]
 by_cases ht:0<=iB K
 .refine(fy (iB K) T ?_ (h.less (bm _)) (.rfl) ?_)
  .simp only[ht,aW,cond_true]
  .unfold Du;rw[aZ ht]
 .simp only[ht,aH,cond_false];rw[wX _ _ _ (O2 LT rfl) WQ UL,aaa];have e2:fZ "sorted" [kd K] T=B' (.lst ((cQ K).map .int)):=by
   show(bif L' ((K.map λk=>(k,V.int 1)).length<64) then B' (V.lst ((cQ ((K.map λk=>(k,V.int 1)).map (·.1))).map .int)) else F')=_;rw[ae,ak LT,bw];have:(K.map ((λx=>x.1)∘λk=>(k,V.int 1)))=K:=by
    rw[show((λ(x:Int×V)=>x.1)∘λk=>(k,V.int 1))=id from rfl,List.map_id]
   rw[this];rfl
  have e3:cy (.lst ((cQ K).map .int))=B' ((cQ K).map .int):=rfl;simp only[e2,e3,aaa];rw[cH () (by rw[ae,fM];exact O3 LT rfl),aaa,cN _ T V.int (λp=>decide (wh p∉K)) (cQ K) (λp m=>by
   rw[uv n h (hs p (dn.mp m))]
   simp only[aaa,cL]
   cases L' (wh p∉K)<;>rfl)]
  simp only[aaa];have hk:(cQ K).filter (λp=>decide (wh p∉K))=aaB wh K:=rfl;rw[hk];have Ms:∀p∈aaB wh K,p∈K:=λp m=>dn.mp (aP.mp m).1;have KO:(aaB wh K).length<64:=aQ (aU _ _) (by rw[fM];exact LT);have hU:∀T' z,PA T' z (aaB wh K)->Du wh K T' z:=λT' z p=>by unfold Du;rw[aL ht];exact p
  clear hk;generalize aaB wh K=L at*;have e4:(du (aal (fnAt 266)) (bif V.flat (.lst (L.map .int)) then [.pl .tab,.pl V0,.ow (kd K),s,t,.pl (.int (iB K)),.un] else [.pl .tab,.pl V0,.pl (kd K),s,t,.pl (.int (iB K)),.un]) (Str.ofString "kept") (.pl (.lst (L.map .int))))=B' [.pl .tab,.pl V0,.pl (kd K),s,t,.pl (.int (iB K)),.pl (.lst (L.map .int))]:=by kernel_rfl
  rw[e4,aaa,oP _ _ _ _ _ _ _ q1 q2];clear e4;induction L using List.casesOn with
  |nil=>exact(fy 2 T rfl (h.less (bm _)) (.rfl) (hU _ _ (.inl ⟨rfl,rfl⟩)))
  |cons a L=>
   have Vk:cw (.lst ((a::L).map .int))=B' true:=rfl;have SB:fZ "len" [.lst ((a::L).map .int)] T=B' (.int ((a::L).length:Nat)):=by
    show B' (V.int (((a::L).map V.int).length:Nat))=_;rw[ae]
   simp only[Vk,aaa,bh,cond_false,SB,ceq];induction L using List.casesOn with
   |nil=>
    refine(fy a T rfl (h.less (bm _)) (.rfl) (hU _ _ (.inr (.inr ⟨λe=>h2 (Ms 2 (by rw[e];exact af ..)),rfl,h1 a (Ms a (af ..))⟩))))
   |cons b L=>
    have KY:¬(((a::b::L).length:Nat):Int)=1:=by simp only[List.length_cons];exact Ic
    have Wh:¬(400:Int)<(((a::b::L).length:Nat):Int):=Id KO rfl;simp only[aj KY,cond_false,Ds,aaa,aj Wh];have YB:rO "tuple" [.lst ((a::b::L).map .int)]=B' (it (a::b::L)):=rfl;simp only[YB,aaa];refine hide λQz qz=>?_;refine x24 (dD (n+1) h [.int 6,it (a::b::L)] (by
     show((V.int 6).hk 5&&((it (a::b::L)).hk 5&&true))=true
     have:(it (a::b::L)).hk 5=((a::b::L).map V.int).all (V.hk 4):=rfl
     rw[this,sV];rfl)) λz T' ez tz xz az=>?_
    have hf:fit [V.int 6,it (a::b::L)].length (V.tup [V.int 6,it (a::b::L)])=B' (V.tup [V.int 6,it (a::b::L)]):=rfl;refine qz ?_;rw[hf,aaa,aaa];refine(fy z T' ez tz xz (hU _ _ (.inr (.inl ⟨?_,by simp only[List.length_cons];exact O0 rfl,az⟩))));clear ez;rintro rfl;have:=(cJ tz 2 _ Fy).row az;injection this with this;injection this with this;cases this
noncomputable def TX(X b d e:List V):TS:=⟨T2.rows++X,fx 0 (T2.rows++X),b,d,e⟩
theorem Tb.eta(h:Tb c T):∃X b d e,T=TX X b d e:=by
 refine x11 h.rows λX q=>?_
 refine(Iu X T.b T.d T.n ?_)
 have:=h.idx
 rw[q] at this
 induction T using TS.casesOn
 simp only[TX] at*
 rw[q,this]
noncomputable def BP:List Int:=[4,5,6,7,8,9,10,11,16,17,18,19,20,24,25]
noncomputable def OT:List Int:=[16,18,19,17,20,9,8,12,5,4,21,22,23,6,7,24,25,26]
noncomputable def me{α:Type}(P:α->Prop):List α->Prop
 |[]=>True
 |p::l=>P p/\me P l
theorem me.get{P:α->Prop}:∀{l:List α},me P l->∀p∈l,P p
 |_::_,h,p,m=>by
  cases m with
  |head=>exact h.1
  |tail _ m=>exact me.get h.2 p m
theorem cE{f g:α->β}:∀{l:List α},l.map f=l.map g->∀p∈l,f p=g p
 |_::_,h,_,.head _=>(List.cons.inj h).1
 |_::_,h,p,.tail _ m=>cE (List.cons.inj h).2 p m
theorem kG{f g:α->β}:∀{l:List α},l.map f=l.map g->me (λp=>f p=g p) l
 |[],_=>ao
 |_::_,h=>⟨(List.cons.inj h).1,kG (List.cons.inj h).2⟩
noncomputable def uw(t:List (Int×Int))(p d:Int):Int:=match t with
 |[]=>d
 |(k,v)::t=>bif p==k then v else uw t p d
noncomputable def eY(p:Int):Int:=uw [(4,5),(5,4),(6,1),(7,2),(8,3),(9,3),(10,7),(11,7),(16,1),(17,2),(18,1),(19,1),(20,2),(24,2),(25,2)] p 0
noncomputable def whB(p:Int):Int:=uw [(16,6),(17,7),(18,6),(19,6),(20,7),(24,7),(25,7)] p (-1)
noncomputable def jJ(p:Int):Bool:=p==10||p==11
noncomputable def eI(p:Int):Bool:=p==4||p==5
noncomputable def aad(t:Int):List Int:=if t=12 then [8,9] else if t=21 then [5,16] else if t=22 then [16,17] else if t=23 then [4,5] else if t=26 then [4,6] else [t]
section
variable (n:Nat)(X b d e:List V)
theorem Fz:me (λp=>ph (n+3) 325 [.tab,.int p] (TX X b d e)=B' (.int (eY p),TX X b d e)) (1::BP):=by
 exact kG (by kernel_rfl)
theorem yP:me (λp=>ph (n+4) 820 [.tab,.int p] (TX X b d e)=B' (.bool (!jJ p),TX X b d e)) BP:=by
 exact kG (by kernel_rfl)
theorem Dv:me (λo=>ph (n+5) 825 [.tab,.int o] (TX X b d e)=B' (.bool true,TX X b d e)) OT:=by
 exact kG (by kernel_rfl)
theorem B4:me (λo=>ph (n+5) 771 [.tab,.int o] (TX X b d e)=B' (.bool ((aad o).all eI),TX X b d e)) OT:=by
 exact kG (by kernel_rfl)
end
noncomputable def aay:List Int:=[4,5,6,7,8,9,16,17,18,19,20,24,25]
noncomputable def jx(p:Int):Int:=uw [(4,0),(5,0),(8,0),(9,1),(16,100),(18,101),(19,102),(17,0),(20,1),(24,1),(25,0)] p (-1)
noncomputable def AU(p:Int):V:=bif jx p==-1 then .tup [] else .tup [.int (eY p),bif jx p==100 then sv "a" else bif jx p==101 then sv "x" else bif jx p==102 then sv "" else .int (jx p)]
noncomputable def En(p q:Int):Bool:=eY p==eY q&&(jx p==-1||jx q==-1||jx p==jx q)
noncomputable def meB(p q:Int):Bool:=bif p==10 then false else bif p==11 then !eI q else En p q
noncomputable def yQ(a b:List Int):List (Int×Int):=a.flatMap λx=>b.map λy=>(x,y)
theorem wY{a b:List Int}{x y:Int}(hx:x∈a)(hy:y∈b):(x,y)∈yQ a b:=List.mem_flatMap.mpr ⟨x,hx,aJ.mpr ⟨y,hy,rfl⟩⟩
theorem aaK{f g:Int->Int->β}{a b:List Int}(h:(yQ a b).map (λx=>f x.1 x.2)=(yQ a b).map λx=>g x.1 x.2):∀p∈a,∀q∈b,f p q=g p q:=λp hp q hq=>cE h (p,q) (wY hp hq)
theorem fi{P:Int->Prop}{a:List Int}(h:me P a):∀p∈a,P p:=h.get
theorem aar:∀p∈aay,p∈BP:=by decide
theorem Hg:∀p∈BP,p∈(1::BP:List Int):=λp h=>ag _ h
theorem aav(c:Bool)(a b:α)(T:TS):(bif c then B' (a,T) else B' (b,T))=B' ((bif c then a else b),T):=by induction c using Bool.casesOn<;>rfl
section
variable (n:Nat)
theorem aaN(h:Tb c T):∀p∈BP,ph (n+3) 325 [.tab,.int p] T=B' (.int (eY p),T):=by
 obtain⟨X,b,d,e,rfl⟩:=h.eta
 exact λp m=>(Fz n X b d e).get p (Hg p m)
theorem abC(h:Tb c T):∀p∈BP,ph (n+4) 759 [.tab,.int p] T=B' (AU p,T):=by
 obtain⟨X,b,d,e,rfl⟩:=h.eta
 exact cE (by kernel_rfl)
theorem AV(h:Tb c T):∀p∈[(10:Int),11],ph (n+10) 830 [.tab,.int p] T=B' (.bool (p==11),T):=by
 obtain⟨X,b,d,e,rfl⟩:=h.eta
 exact cE (by kernel_rfl)
theorem Dw(h:Tb c T):∀p∈aay,∀q∈aay,ph (n+5) 766 [.tab,.int p,.int q,.bool true] T=B' (.bool (En p q),T):=by
 intro p hp q hq
 rw[abd,aaN (n+1) h p (aar p hp),aaa]
 simp only[aaN (n+1) h q (aar q hq),aaa,ceq,aav,abC n h p (aar p hp),abC n h q (aar q hq)]
 revert p hp q hq
 exact aaK (by kernel_rfl)
end
noncomputable def abR:List V:=[.int 5,.int 1,sv "B",.int 0,.int 0]
theorem wZ:T2.rows.any (V.beq (.tup abR))=false:=by kernel_rfl
theorem yR:T2.rows.length=28:=by kernel_rfl
section
variable (n:Nat)
theorem At.above(h:Tb c T){r:V}(a:At T t r)(q:T2.rows.any (V.beq r)=false):28<=t:=by
 by_cases hl:t.toNat<T2.rows.length
 .exfalso;obtain⟨X,e⟩:=h.rows;have:=a.2;rw[e,List.getElem?_append_left hl] at this;have m:=bV this;have:T2.rows.any (V.beq r)=true:=List.any_eq_true.mpr ⟨r,m,V.beq_refl r⟩;rw[q] at this;exact nb this
 .rw[yR] at hl;have:=a.1;exact Jn hl this
theorem yS(h:Tb c T):∀p∈([4,5,6,7,8,9,10,11,16,17,18,19,20,24]:List Int),ph (n+1) 240 [.tab,.int p] T=B' (.int (-1),T):=by
 refine ox h.eta λX b d e KC=>?_;subst KC
 exact cE (by kernel_rfl)
theorem Dx(X b d e:List V):ph (n+1) 240 [.tab,.int 25] (TX X b d e)=B' (((dA (.tup abR) (TX X b d e).idx).map V.int).getD (.int (-1)),TX X b d e):=by kernel_rfl
theorem s9(h:Tb c T):∀p∈BP,∃j,ph (n+1) 240 [.tab,.int p] T=B' (.int j,T)/\(j=-1\/28<=j):=by
 intro p hp
 by_cases q:p=25
 .subst q;refine ox h.eta λX b d e KC=>?_;subst KC;rw[Dx];rcases B3 h abR with⟨t,a⟩|⟨f,_⟩
  .rw[a.find h];exact⟨t,rfl,.inr (a.above h wZ)⟩
  .rw[f];exact⟨-1,rfl,.inl rfl⟩
 .refine⟨-1,yS n h p ?_,.inl rfl⟩;exact(show ∀p∈BP,¬p=25->_ from by decide) p hp q
theorem Dy(h:Tb c T):∀p∈BP,∃k KJ,k≠6/\At T p (.tup (.int k::KJ))/\∀n,ph (n+1) 233 [.tup (.int k::KJ)] T=B' (.int (whB p),T):=by
 refine fi ⟨?_,?_,?_,?_,?_,?_,?_,?_,?_,?_,?_,?_,?_,?_,?_,ao⟩
 .exact(gE 1 ([sv "undefined"]) (by decide) (cJ h 4 _ (by kernel_rfl)) (λn=>by kernel_rfl))
 .exact(gE 1 ([sv "null"]) (by decide) (cJ h 5 _ (by kernel_rfl)) (λn=>by kernel_rfl))
 .exact(gE 1 ([sv "string"]) (by decide) (cJ h 6 _ (by kernel_rfl)) (λn=>by kernel_rfl))
 .exact(gE 1 ([sv "number"]) (by decide) (cJ h 7 _ (by kernel_rfl)) (λn=>by kernel_rfl))
 .exact(gE 2 ([.int 0,.int 0]) (by decide) (cJ h 8 _ (by kernel_rfl)) (λn=>by kernel_rfl))
 .exact(gE 2 ([.int 1,.int 0]) (by decide) (cJ h 9 _ (by kernel_rfl)) (λn=>by kernel_rfl))
 .exact(gE 1 ([sv "object"]) (by decide) (cJ h 10 _ (by kernel_rfl)) (λn=>by kernel_rfl))
 .exact(gE 8 ([.tup [],.tup [],.tup [],.tup [],.tup [],.int 0]) (by decide) (cJ h 11 _ (by kernel_rfl)) (λn=>by kernel_rfl))
 .exact(gE 3 ([sv "a",.int 0]) (by decide) (cJ h 16 _ (by kernel_rfl)) (λn=>by kernel_rfl))
 .exact(gE 4 ([.int 0,.int 0]) (by decide) (cJ h 17 _ (by kernel_rfl)) (λn=>by kernel_rfl))
 .exact(gE 3 ([sv "x",.int 0]) (by decide) (cJ h 18 _ (by kernel_rfl)) (λn=>by kernel_rfl))
 .exact(gE 3 ([sv "",.int 0]) (by decide) (cJ h 19 _ (by kernel_rfl)) (λn=>by kernel_rfl))
 .exact(gE 4 ([.int 1,.int 0]) (by decide) (cJ h 20 _ (by kernel_rfl)) (λn=>by kernel_rfl))
 .exact(gE 5 ([.int 1,sv "A",.int 1,.int 0]) (by decide) (cJ h 24 _ (by kernel_rfl)) (λn=>by kernel_rfl))
 .exact(gE 5 ([.int 1,sv "B",.int 0,.int 1]) (by decide) (cJ h 25 _ (by kernel_rfl)) (λn=>by kernel_rfl))
theorem kH:∀p∈BP,4<=p/\p<28/\p≠13/\p≠14/\p≠15:=by decide
theorem FA:∀p∈BP,whB p=6\/whB p=7\/whB p=-1:=by decide
theorem Hh(h:Tb c T){K:List Int}(hK:∀p∈K,p∈BP){p:Int}(hp:p∈BP):Sb T K p (whB p):=by
 refine⟨λn=>?_,?_⟩
 .refine x12 (s9 n h p hp) λj e q=>?_;refine⟨j,e,λm=>?_⟩;have:=kH j (hK j m);exact q.elim (λe=>BC this.1 rfl e) λe=>Int.not_lt.mpr e this.2.1
 .refine x23 (Dy h p hp) λk KJ O a w=>?_;exact⟨_,a,w⟩
theorem mB{K:List Int}(hK:∀p∈K,p∈BP):aaB whB K=[]↔K=[]:=by
 constructor
 .intro e;induction K using List.casesOn with
  |nil=>rfl
  |cons a l=>
   exfalso;have key:∀p∈a::l,whB p∈a::l:=by
    intro p m;by_cases q:whB p∈a::l
    .exact q
    .have:p∈aaB whB (a::l):=aP.mpr ⟨dn.mpr m,ak q⟩;replace this:=e▸this;cases this
   have k1:=key a (af ..);have k2:=key _ k1;have w:=FA a (hK a (af ..));have w6:whB 6=-1:=by decide
   have w7:whB 7=-1:=by decide
   have hm:(-1:Int)∉a::l:=λm=>by exact absurd (kH _ (hK _ m)).1 (by decide)
   rcases w with w|w|w<;>rw[w] at k1 k2
   .rw[w6] at k2;exact hm k2
   .rw[w7] at k2;exact hm k2
   .exact hm k1
 .rintro rfl;rfl
theorem Hi{i:Int}(q:i=0\/i=13\/i=1):i∉BP:=by rcases q with rfl|rfl|rfl<;>decide
theorem Hj{i:Int}(q:i=14\/i=15\/i=2):i∉BP:=by rcases q with rfl|rfl|rfl<;>decide
theorem FB{K:List Int}(hK:∀p∈K,p∈BP):iB K=-1:=by
 have:∀i:Int,(i=0\/i=13\/i=1)->i∉K:=λi q m=>Hi q (hK i m)
 unfold iB
 rw[aL (this 0 (.inl rfl)),aL (this 13 (.inr (.inl rfl))),aL (this 1 (.inr (.inr rfl)))]
theorem kI(h:Tb (c+1) T)(V0:V)(zs:List (Int×List Int))(hV:cy V0=B' (zs.map λz=>.int z.1))(hz:∀z∈zs,PA T z.1 z.2)(hl:(zs.flatMap (·.2)).length<64)(hn:zs.length<1000)(hF:∀p∈zs.flatMap (·.2),p∈BP):∃z T',ph (n+3) 266 [.tab,V0] T=B' (.int z,T')/\Tb c T'/\Ex T T'/\PA T' z (aaB whB (dd (zs.flatMap (·.2)) []))/\(z=2↔zs.flatMap (·.2)=[]):=by
 have hK:∀p∈dd (zs.flatMap (·.2)) [],p∈BP:=λp m=>by
  rcases aaP.mp m with q|q
  .cases q
  .exact hF p q
 have no:∀i:Int,(i=14\/i=15\/i=2)->i∉dd (zs.flatMap (·.2)) []:=λi q m=>Hj q (hK i m)
 refine hide λQz qz=>?_
 refine x24 (j3 n h V0 zs whB hV hz hl hn (no 14 (.inl rfl)) (no 15 (.inr (.inl rfl))) (λp m=>Hh h hK (hK p m)) (λp m=>by obtain⟨k,KJ,q,a,_⟩:=Dy h p (hK p m);exact(m22 k KJ q a)) (no 2 (.inr (.inr rfl)))) λz T' e t x u=>?_
 refine qz ?_
 unfold Du at u
 rw[FB hK,aL (by decide)] at u
 refine(zI z T' e t x u ?_)
 have KY:aaB whB (dd (zs.flatMap (·.2)) [])=[]↔zs.flatMap (·.2)=[]:=by
  rw[mB hK];constructor
  .intro q;cases hf:zs.flatMap (·.2) with
   |nil=>rfl
   |cons a l=>
    have:a∈dd (zs.flatMap (·.2)) []:=aaP.mpr (.inr (by rw[hf];exact af ..));replace this:=q▸this;cases this
  .intro q;rw[q];rfl
 rw[<- KY]
 rcases u with⟨q,q'⟩|⟨q,q',_⟩|⟨q,q',_⟩
 .exact⟨λO=>q',λO=>q⟩
 .exact⟨λe=>absurd e q,λe'=>by rw[e'] at q';cases q'⟩
 .exact⟨λe=>absurd e q,λe'=>by replace q':=e'▸q';cases q'⟩
end
section
variable (n:Nat)
theorem abS:∀p∈BP,p∈aay\/p∈([10,11]:List Int):=by decide
theorem aaT:∀p∈aay,eY p≠7/\eY p≠0:=by decide
theorem Dz(h:Tb c T):∀p∈([10,11]:List Int),∀q∈aay,ph (n+11) 837 [.tab,.int p,.int q,.bool true] T=B' (.bool (meB p q),T):=by
 intro p hp q hq
 have WY:p∈BP:=by revert p hp;decide
 rw[aaZ,aaN (n+7) h p WY,aaa]
 simp only[aaN (n+7) h q (aar q hq),aaa,ceq,vz,aav,(aaT q hq).1,(aaT q hq).2,aH,cond_false,AV n h p hp]
 clear WY
 revert p hp q hq
 exact aaK (by kernel_rfl)
theorem acH(h:Tb c T):∀p∈BP,∀q∈aay,ph (n+11) 837 [.tab,.int p,.int q,.bool true] T=B' (.bool (meB p q),T):=by
 intro p hp q hq
 rcases abS p hp with Of|Of
 .rw[aaZ,aaN (n+7) h p hp,aaa];simp only[aaN (n+7) h q (aar q hq),aaa,ceq,aav,(aaT p Of).1,(aaT q hq).1,aH,cond_false,Dw (n+5) h p Of q hq];have:meB p q=En p q:=by revert p hp q hq Of;decide
  exact sb this rfl
 .exact Dz n h p Of q hq
theorem DA(h:Tb c T):∀p∈BP,∃k,ph (n+1) 172 [.tab,.int p] T=B' (.int k,T)/\k≠6/\k≠18:=by
 refine ox h.eta λX b d e KC=>?_;subst KC
 refine fi ⟨⟨1,?_⟩,⟨1,?_⟩,⟨1,?_⟩,⟨1,?_⟩,⟨2,?_⟩,⟨2,?_⟩,⟨1,?_⟩,⟨8,?_⟩,⟨3,?_⟩,⟨4,?_⟩,⟨3,?_⟩,⟨3,?_⟩,⟨4,?_⟩,⟨5,?_⟩,⟨5,?_⟩,ao⟩<;>exact⟨by kernel_rfl,by decide,by decide⟩
theorem PA.base(h:Tb c T){p:Int}(hp:p∈BP):PA T p [p]:=by
 refine x23 (Dy h p hp) λk KJ q a O=>?_
 exact .inr (.inr ⟨by have:=kH p hp;exact BC this.1 rfl,rfl,k,KJ,q,a⟩)
theorem jK(l:List Int):(l.map λx=>(x,[x])).flatMap (·.2)=l:=by
 induction l with
 |nil=>rfl
 |cons a l ih=>(refine sb aC ?_;refine sb bG ?_;refine sb ih ?_);rfl
theorem kJ(h:Tb (c+1) T)(l:List Int)(hl:l.length<64)(hB:∀p∈l,p∈BP):∃z T',ph (n+3) 266 [.tab,.lst (l.map .int)] T=B' (.int z,T')/\Tb c T'/\Ex T T'/\PA T' z (aaB whB (dd l []))/\(z=2↔l=[]):=by
 have hV:cy (.lst (l.map .int))=B' ((l.map λx=>(x,[x])).map λz=>V.int z.1):=by rw[bw];rfl
 have:=kI n h (.lst (l.map .int)) (l.map λx=>(x,[x])) hV (λz m=>by
  refine x12 (aJ.mp m) λx hx KC=>?_;subst KC
  exact PA.base h (hB x hx)) (by rw[jK];exact hl) (by rw[ae];exact O2 hl rfl) (by rw[jK];exact hB)
 rw[jK] at this
 exact this
theorem vB(h:Tb (c+1) T)(l:List Int)(hl:l.length<64)(hB:∀p∈l,p=2\/p∈BP):∃z T',ph (n+3) 266 [.tab,.lst (l.map .int)] T=B' (.int z,T')/\Tb c T'/\Ex T T'/\PA T' z (aaB whB (dd (l.filter (· ≠2)) []))/\(z=2↔l.filter (· ≠2)=[]):=by
 have hV:cy (.lst (l.map .int))=B' ((l.map λx=>(x,if x=2 then [] else [x])).map λz=>V.int z.1):=by refine sb bw ?_;rfl
 have hf:∀l:List Int,(l.map λx=>(x,if x=2 then [] else [x])).flatMap (·.2)=l.filter (· ≠2):=λl=>by
  induction l with
  |nil=>rfl
  |cons a l ih=>
   (refine sb aC ?_;refine sb bG ?_;refine sb ih ?_;refine sb bT ?_);by_cases q:a=2<;>simp [q]
 have:=kI n h (.lst (l.map .int)) (l.map λx=>(x,if x=2 then [] else [x])) hV (λz m=>by
  refine x12 (aJ.mp m) λx hx KC=>?_;subst KC
  rcases hB x hx with q|q
  .clear hx m;subst q;exact .inl ⟨rfl,rfl⟩
  .have:=kH x q
   show PA T x (if x=2 then [] else [x])
   refine sb (aL (BC this.1 rfl)) ?_;exact PA.base h q) (by rw[hf];exact aQ (aU _ _) hl) (by rw[ae];exact O2 hl rfl) (by
    rw[hf];intro p m
    have:=aP.mp m
    rcases hB p this.1 with q|q
    .subst q;simp at this
    .exact q)
 rw[hf] at this
 exact this
end
theorem pW{l:List V}(v:V)(h:l.length<10000):eW (.lst l) v=B' (.lst (l++[v])):=cH _ h
section
variable (n:Nat)
theorem aci{s:Int}(hc:ph n 392 [.tab,.int s,.int t] T=B' (.int 2,T)):ph (n+1) 399 [.tab,.lst [.int s],.int t] T=B' (.lst [.int t],T):=by
 rw[pP]
 have e0:cy (.lst [.int s])=B' [.int s]:=rfl
 have e1:fit [V.int s].length ()=B' ():=rfl
 simp only[e0,e1,aaa,dv,dw]
 rw[jF _ _ _ _ _ _ _ _ rfl rfl,hc]
 simp only[aaa,ceq,vz]
 rw[jG _ _ _ _ _ _ _ rfl rfl]
 kernel_rfl
theorem Hk{s:Int}(hc:ph n 392 [.tab,.int s,.int t] T=B' (.int 3,T)):ph (n+1) 399 [.tab,.lst [.int s],.int t] T=B' (.lst [.int s,.int t],T):=by
 rw[pP]
 have e0:cy (.lst [.int s])=B' [.int s]:=rfl
 have e1:fit [V.int s].length ()=B' ():=rfl
 simp only[e0,e1,aaa,dv,dw]
 rw[jF _ _ _ _ _ _ _ _ rfl rfl,hc]
 simp only[aaa,ceq,vz]
 have e2:eW (.lst []) (.int s)=B' (.lst [.int s]):=rfl
 show(C' (eW (.lst []) (.int s)) λc=>jZ n [.pl .tab,.pl (.lst [.int s]),.pl (.int t),.ow c,.pl (.bool false),.pl (.int s),.pl (.int 3)] T)=_
 rw[e2,aaa,jG _ _ _ _ _ _ _ rfl rfl]
 kernel_rfl
theorem B5{s:Int}(hs:ph (n+1) 406 [.tab,.int s] T=B' (it [s],T))(ht:ph (n+1) 406 [.tab,.int t] T=B' (it [t],T))(hc:ph n 392 [.tab,.int s,.int t] T=B' (.int 2,T)):ph (n+2) 411 [.tab,.int s,.int t] T=B' (.int t,T):=by
 rw[jH,hs]
 have e0:∀x:Int,cy (it [x])=B' [.int x]:=λO=>rfl
 have e1:∀x:Int,fit [V.int x].length ()=B' ():=λO=>rfl
 have e2:cC (λv3 U4=>B' (B' v3,U4)) [V.int s] T=B' ([.int s],T):=rfl
 simp only[e0,e1,e2,aaa,dv,dw,ht]
 rw[gc _ _ _ _ _ _ rfl,aci n hc,aaa]
 show eR (n+1) [.pl .tab,.pl (.int s),.pl (.int t),.pl (.int t),.pl (.lst [.int t])] T=_
 rw[gd _ _ _ _ _ rfl]
 kernel_rfl
theorem FC{s:Int}(h:Tb (c+1) T)(hs:ph (n+1) 406 [.tab,.int s] T=B' (it [s],T))(ht:ph (n+1) 406 [.tab,.int t] T=B' (it [t],T))(hc:ph n 392 [.tab,.int s,.int t] T=B' (.int 3,T))(rs:ph (n+1) 301 [.tab,.int s] T=B' (.int s,T))(rt:ph (n+1) 301 [.tab,.int t] T=B' (.int t,T)):∃z T',ph (n+2) 411 [.tab,.int s,.int t] T=B' (.int z,T')/\Tb c T'/\Ex T T'/\At T' z (.tup [.int 7,it [s,t]]):=by
 refine x24 (dD n h [.int 7,it [s,t]] (by rfl)) λz T' e tz xz a=>?_
 refine(fy z T' ?_ tz xz a)
 rw[jH,hs]
 have e0:∀x:Int,cy (it [x])=B' [.int x]:=λO=>rfl
 have e1:∀x:Int,fit [V.int x].length ()=B' ():=λO=>rfl
 have e2:cC (λv3 U4=>B' (B' v3,U4)) [V.int s] T=B' ([.int s],T):=rfl
 simp only[e0,e1,e2,aaa,dv,dw,ht]
 rw[gc _ _ _ _ _ _ rfl,Hk n hc,aaa]
 show eR (n+1) [.pl .tab,.pl (.int s),.pl (.int t),.pl (.int t),.pl (.lst [.int s,.int t])] T=_
 rw[gd _ _ _ _ _ rfl]
 have e3:fZ "len" [.lst [.int s,.int t]] T=B' (.int 2):=rfl
 have e4:cy (.lst [.int s,.int t])=B' [.int s,.int t]:=rfl
 have e5:fit [V.int s,.int t].length ()=B' ():=rfl
 have d:decide ((2:Int)=1)=false:=rfl
 simp only[e3,e4,e5,aaa,ceq,d,cond_false,mq,fk,rs,rt]
 have e6:rO "tuple" [.lst [.int s,.int t]]=B' (it [s,t]):=rfl
 have e7:fit [V.int 7,it [s,t]].length (V.tup [V.int 7,it [s,t]])=B' (V.tup [V.int 7,it [s,t]]):=rfl
 simp only[e6,aaa,e7,e]
theorem pX(T:TS)(K:List Int)(h:K.length<64):fZ "sorted" [kd K] T=B' (.lst ((cQ K).map .int)):=by
 show(bif L' ((K.map λk=>(k,V.int 1)).length<64) then B' (V.lst ((cQ ((K.map λk=>(k,V.int 1)).map (·.1))).map .int)) else F')=_
 rw[ae,ak h,bw]
 have:(K.map ((λx=>x.1)∘λk=>(k,V.int 1)))=K:=by
  rw[show((λ(x:Int×V)=>x.1)∘λk=>(k,V.int 1))=id from rfl,List.map_id]
 rw[this];rfl
theorem ta{s:Int}(K:V)(f:Int->Int)(k:Kn):∀(l LM:List Int)(u v:Sl),u.aae=false->v.aae=false->LM.length+l.length<=100->(∀q∈l,f q≠2/\ph n 411 [.tab,.int s,.int q] T=B' (.int (f q),T))->∃u' v',u'.aae=false/\v'.aae=false/\cG (fJ n) (l.map .int) [.pl .tab,.pl (.int s),.pl K,.ow (kd LM),.pl (.int s),u,v] T k=k [.pl .tab,.pl (.int s),.pl K,.ow (kd (dd (l.map f) LM)),.pl (.int s),u',v'] T
 |[],LM,u,v,hu,hv,_,_=>(gE u v hu hv rfl)
 |q::l,LM,u,v,hu,hv,hl,hq=>by
  simp only[List.length_cons] at hl;refine x02 (hq q (af ..)) λn2 e=>?_;have:=nV (f q) LM;refine x23 (ta K f k l (eX (f q) LM) (.pl (.int q)) (.pl (.int (f q))) rfl rfl (by exact Gy hl this) λx m=>hq x (ag _ m)) λu' v' a b e'=>?_;refine(gE u' v' a b ?_);show fJ n (.int q) _ T _=_;have SB:fZ "len" [kd (eX (f q) LM)] T=B' (.int ((eX (f q) LM).length:Nat)):=by
   show B' (V.int (((eX (f q) LM).map λk=>(k,V.int 1)).length:Nat))=_;rw[ae]
  have Wh:¬(200:Int)<((eX (f q) LM).length:Nat):=Id (Ep this (Co (m:=100) hl rfl) rfl:_<200) rfl;rw[iJ _ _ _ _ _ _ _ _ hu hv,e];simp only[aaa,vz,n2,aH,bo,cond_true];rw[nW (by exact Co hl rfl)];simp only[aaa,SB,Ds,aj Wh,cond_false];exact e'
theorem yT{s:Int}{l:List Int}(h:Tb c T)(f:Int->Int)(hs:PA T s [s])(ht:PA T t l)(n1:s≠t)(n2:t≠1)(n3:s≠1)(hl:l.length<50)(hq:∀q∈l,f q≠2/\ph (n+3) 411 [.tab,.int s,.int q] T=B' (.int (f q),T)):ph (n+4) 418 [.tab,.int s,.int t] T=ph (n+3) 266 [.tab,.lst ((cQ (dd (l.map f) [])).map .int)] T:=by
 rw[i3]
 have e0:∀l:List Int,cy (it l)=B' (l.map .int):=λO=>rfl
 have e1:fit [V.int s].length ()=B' ():=rfl
 simp only[ceq,aaa,n1,n2,n3,aH,cond_false,(cB (n+2) h hs),e0,aC,List.map_nil,e1,dv,dw]
 rw[iL _ _ _ _ _ _ _ _ rfl rfl rfl,(cB (n+2) h ht)]
 simp only[aaa,e0]
 rw[cH () (by rw[ae];exact O3 hl rfl),aaa]
 refine x23 (ta (n+3) (.int t) f (ip (n+3) (iq (n+3))) l [] .un .un rfl rfl (by simp only[List.length_nil];exact HV hl rfl) hq) λu' v' a b e'=>?_
 refine sb ((rfl:(V.di [])=kd [])) ?_
 refine e'.trans ?_
 rw[iK _ _ _ _ _ _ _ a b,iM _ _ _ _ _ _ _ rfl a b]
 have hd:=gD (l.map f) []
 simp only[ae,List.length_nil] at hd
 refine sb (pX _ _ (by exact HW hl hd rfl)) ?_
 rfl
theorem nZ{s:Int}(h2:s≠2/\t≠2)(h0:s≠0/\t≠0)(h13:s≠13/\t≠13)(n1:s≠1):ph (n+2) 425 [.tab,.tup [.int s,.int t]] T=C' (ph (n+1) 418 [.tab,.int s,.int t] T) λp=>B' (p.1,p.2):=by
 have e0:cy (.tup [(.int 2),(.int 0),(.int 13)])=B' [.int 2,.int 0,.int 13]:=rfl
 have e1:fit [V.int 2,V.int 0,V.int 13].length ()=B' ():=rfl
 have e2:∀a,a≠s/\a≠t->cu T .In (.int a) (.tup [.int s,.int t])=B' false:=λa q=>by
  have:=nR T a [s,t];rw[show it [s,t]=V.tup [.int s,.int t] from rfl] at this;rw[this];simp [q.1,q.2]
 rw[yM]
 simp only[e0,e1,aaa,dv,dw]
 rw[ir _ _ _ _ rfl,e2 2 ⟨bq h2.1,bq h2.2⟩]
 simp only[aaa,cond_false]
 rw[ir _ _ _ _ rfl,e2 0 ⟨bq h0.1,bq h0.2⟩]
 simp only[aaa,cond_false]
 rw[ir _ _ _ _ rfl,e2 13 ⟨bq h13.1,bq h13.2⟩]
 simp only[aaa,cond_false]
 rw[qX _ _ _ rfl]
 have e3:cy (.tup [.int s,.int t])=B' [.int s,.int t]:=rfl
 have e4:fit [V.int s,V.int t].length ()=B' ():=rfl
 have e5:ph (n+1) 418 [.tab,.int 1,.int s] T=B' (.int s,T):=by
  rw[i3];simp only[ceq,aaa,n1,bq n1,aH,cond_false,aW,cond_true]
 simp only[e3,e4,aaa,dv,dw]
 rw[kz _ _ _ _ _ rfl,e5,aaa,kz _ _ _ _ _ rfl]
 congr 1
 funext p
 exact qW _ _ _ _ rfl _
end
theorem lC(g:α->Bool):∀l:List α,lI (l.map λq=>V.bool (g q))=B' (l.map g)
 |[]=>rfl
 |x::l=>by
  show(lI (l.map λq=>V.bool (g q))).map (g x::·)=_;refine sb (lC g l) ?_;rfl
theorem n5(T:TS)(g:α->Bool)(l:List α):fZ "all" [.lst (l.map λq=>V.bool (g q))] T=B' (.bool (l.all g)):=by
 show(lI (l.map λq=>V.bool (g q))).map (λl=>V.bool (l.all id))=_
 rw[lC]
 simp [List.all_map]
theorem yU(T:TS)(g:α->Bool)(l:List α):fZ "any" [.lst (l.map λq=>V.bool (g q))] T=B' (.bool (l.any g)):=by
 show(lI (l.map λq=>V.bool (g q))).map (λl=>V.bool (l.any id))=_
 rw[lC]
 simp [List.any_map]
section
variable (n:Nat)
structure ux (c:Nat) (T:TS) (x:cK) (e:Prop):Prop where
 ex:∃z T' l,x=B' (.int z,T')/\Tb c T'/\Ex T T'/\PA T' z l/\(∀p∈l,p∈BP)/\l.length<=4/\(l=[]↔e)
theorem DB(T:TS):∀q∈aay,cu T .NotEq (AU q) (.tup [])=B' (jx q !=-1):=by
 exact cE (by kernel_rfl)
theorem FD{K:List Int}(hK:∀p∈K,p∈BP):∀p∈aaB whB K,p∈BP:=λp m=>hK p (dn.mp (aP.mp m).1)
theorem yV{l:List Int}(hB:∀p∈l,p∈BP):∀p∈dd l [],p∈BP:=λp m=>by
 rcases aaP.mp m with q|q
 .cases q
 .exact hB p q
theorem uy{l:List Int}:dd l []=[]↔l=[]:=by
 constructor
 .intro e;induction l using List.casesOn with
  |nil=>rfl
  |cons a l=>
   have:a∈dd (a::l) []:=aaP.mpr (.inr (af ..));replace this:=e▸this;cases this
 .rintro rfl;rfl
theorem n6(K:List Int):(aaB whB K).length<=K.length:=aG (aU _ _) (Nat.le_of_eq (fM K))
theorem vC(h:Tb (c+1) T)(l:List Int)(hl:l.length<=4)(hB:∀p∈l,p∈BP):ux c T (ph (n+3) 266 [.tab,.lst (l.map .int)] T) (l=[]):=by
 refine lH (kJ n h l (O4 hl rfl) hB) λz T' e t x p O=>?_
 have q1:=n6 (dd l [])
 have:=gD l []
 simp only[List.length_nil] at this
 exact⟨z,T',_,e,t,x,p,FD (yV hB),by exact HO q1 this hl rfl,(mB (yV hB)).trans uy⟩
theorem ux.one(h:Tb c T){p:Int}(hp:p∈BP){x:cK}(e:x=B' (.int p,T)):ux c T x False:=⟨p,T,[p],e,h,.rfl,PA.base h hp,λq m=>by rw[am.mp m];exact hp,by simp,⟨λe=>(by cases e),λe=>e.elim⟩⟩
theorem ux.iff{x:cK}{a b:Prop}(r:ux c T x a)(h:a↔b):ux c T x b:=by
 obtain⟨z,T',l,e,t,x,p,q,hl,i⟩:=r
 exact⟨z,T',l,e,t,x,p,q,hl,i.trans h⟩
theorem ux.less{x:cK}{a:Prop}{k:Nat}(r:ux c T x a)(h:k<=c):ux k T x a:=by
 obtain⟨z,T',l,e,t,x,p,q,hl,i⟩:=r
 exact⟨z,T',l,e,t.less h,x,p,q,hl,i⟩
theorem pY(h:Tb (c+1) T){p:Int}(hp:p∈BP)(Ma:List Int)(hh:∀q∈Ma,q∈aay)(hl:Ma.length<=4)(KY:Ma≠[]):ux c T (ph (n+6) 776 [.tab,.int p,.lst (Ma.map .int)] T) False:=by
 have f0:eY p≠0:=by revert p hp;decide
 refine kQ (DA (n+4) h p hp) λk ek O ZU=>?_
 have Ru:=nR T p [6,7]
 rw[show it [6,7]=V.tup [.int 6,.int 7] from rfl] at Ru
 rw[ut,aaN (n+2) h p hp,aaa]
 simp only[Ru,aaa,ceq,aav,ek,ZU,f0,aH,cond_false]
 have eit:cy (.lst (Ma.map .int))=B' (Ma.map .int):=rfl
 by_cases q67:p∈([6,7]:List Int)
 .simp only[q67,aW,cond_true,aaa,eit];rw[cH () (by rw[ae];exact O1 hl rfl),aaa,eH _ T V.int (λq=>V.bool (eY q==eY p&&jx q !=-1)) Ma (λq m=>by
   rw[aaN (n+2) h q (aar q (hh q m)),aaa]
   simp only[ceq,aaa,cL]
   by_cases e:eY q=eY p
   ·(refine sb (ak e) ?_;refine sb (abC (n+1) h q (aar q (hh q m))) ?_)
    simp only[cond_true,aaa,DB T q (hh q m)]
    refine sb (aT.mpr e) ?_;rfl
   ·(refine sb (aj e) ?_;refine sb (aR.mpr e) ?_);rfl)]
  simp only[aaa,n5,cL];cases Ma.all (λq=>eY q==eY p&&jx q !=-1)
  .exact ux.one (h.less (bm _)) hp rfl
  .exact(vC (n+2) h Ma hl λq m=>aar q (hh q m)).iff ⟨λe=>KY e,λe=>e.elim⟩
 .simp only[q67,aH,cond_false,aaa];exact ux.one (h.less (bm _)) hp rfl
theorem DC(T:TS):ph (n+1) 332 [.int 7] T=B' (.bool false,T):=by kernel_rfl
theorem Hl(T:TS):∀q∈([0,1,2,3,4,5,6,7]:List Int),ph (n+1) 332 [.int q] T=B' (.bool (q==4||q==5||q==6),T):=by
 exact cE (by kernel_rfl)
theorem B6(T:TS)(q f g:V):ph (n+1) 385 [.tab,.int 11,q,f,g] T=B' (.int 2,T):=by kernel_rfl
theorem B7(h:Tb c T):∀p∈BP,ph (n+4) 406 [.tab,.int p] T=B' (it [p],T):=by
 refine ox h.eta λX b d e KC=>?_;subst KC
 exact cE (by kernel_rfl)
theorem DD(h:Tb c T):∀q∈aay,eI q=false->ph (n+4) 392 [.tab,.int 11,.int q] T=B' (.int 2,T):=by
 intro q hq hn
 have hB:=aar q hq
 have ne:(11:Int)≠q:=by revert q hq;decide
 have hf:eY q∈([0,1,2,3,4,5,6,7]:List Int):=by revert q hq;decide
 have YM:(eY q==4||eY q==5||eY q==6)=false:=by revert q hq;decide
 refine x12 (s9 (n+2) h q hB) λj ej hj=>?_
 have t11:=yS (n+2) h 11 (by decide)
 have Zr:eY 11=7:=by decide
 have nj:j≠11:=λe=>by subst e;exact absurd hj (by decide)
 have n1:(-1:Int)≠q:=by have:=kH q hB;exact Gb this.1 rfl
 rw[io]
 simp only[ceq,aaa,ne,aH,cond_false,ej,nj,aav,t11,n1,aaN n h 11 (by decide),aaN n h q hB,Zr,(aaT q hq).2,DC,cL,Hl (n+2) T _ hf,YM,B6,show((7:Int)=0)=False from by simp,aW,cond_true]
theorem FE{u:Int}(hi:u=0\/u=1\/u=2\/u=11\/u=13)(h:u≠11)(m:u∈BP):False:=by
 rcases hi with rfl|rfl|rfl|rfl|rfl
 .exact absurd m (by decide)
 .exact absurd m (by decide)
 .exact absurd m (by decide)
 .exact h rfl
 .exact absurd m (by decide)
theorem AW(h:Tb (c+1) T){u:Int}{l:List Int}(hu:PA T u l)(hl:l.length<=4)(hh:∀q∈l,q∈aay/\eI q=false)(KY:l≠[]):ux c T (ph (n+9) 425 [.tab,.tup [.int 11,.int u]] T) False:=by
 have Ms:∀x,x∈l->x∈BP:=λx m=>aar x (hh x m).1
 have MD:∀i:Int,i=0\/i=1\/i=2\/i=11\/i=13->u≠i:=by
  intro i hi e;subst e;have base:∀r,T2.rows[u.toNat]? =B' r->At T u r:=λr hr=>by
   have:=cJ h u.toNat r hr;rwa [Int.toNat_of_nonneg (by clear this hr r hu;rcases hi with rfl|rfl|rfl|rfl|rfl<;>decide)] at this
  have RQ:∃k KJ,k≠6/\T2.rows[u.toNat]? =B' (.tup (.int k::KJ)):=by
   clear hu base;rcases hi with rfl|rfl|rfl|rfl|rfl
   .exact(m22 1 ([sv "any"]) (by decide) (by kernel_rfl))
   .exact(m22 1 ([sv "unknown"]) (by decide) (by kernel_rfl))
   .exact(m22 1 ([sv "never"]) (by decide) (by kernel_rfl))
   .exact(m22 8 ([.tup [],.tup [],.tup [],.tup [],.tup [],.int 0]) (by decide) (by kernel_rfl))
   .exact(m22 1 ([sv "error"]) (by decide) (by kernel_rfl))
  obtain⟨k,KJ,k6,hr⟩:=RQ;rcases hu with⟨a,b⟩|⟨a,b,e⟩|⟨a,b,_⟩
  .exact KY b
  .have:=e.row (base _ hr);injection this with this;injection this with this _;injection this with this;exact k6 this.symm
  .have m:u∈l:=by rw[b];exact am.mpr rfl
   exact FE hi (λe=>absurd (e▸(hh u m).1) (by decide)) (Ms u m)
 rw[nZ (n+7) ⟨by decide,MD 2 (by simp)⟩ ⟨by decide,MD 0 (by simp)⟩ ⟨by decide,MD 13 (by simp)⟩ (by decide),yT (n+4) h id (PA.base h (by decide)) hu (bq (MD 11 (by simp))) (MD 1 (by simp)) (by decide) (O4 hl rfl) (λq m=>⟨by have:=kH q (Ms q m);simp only[id];exact BC this.1 rfl,B5 (n+5) (B7 (n+2) h 11 (by decide)) (B7 (n+2) h q (Ms q m)) (DD (n+1) h q (hh q m).1 (hh q m).2)⟩)]
 rw[List.map_id]
 have hd:=gD l []
 simp only[List.length_nil] at hd
 obtain⟨z,T',L,e,t,x,p,q,r,i⟩:=vC (n+4) h (cQ (dd l [])) (by rw[fM];exact HN hd hl rfl) (λp m=>yV Ms p (dn.mp m))
 refine⟨z,T',L,by rw[e];rfl,t,x,p,q,r,i.trans ⟨λe=>KY ?_,λe=>e.elim⟩⟩
 cases LT:l with
 |nil=>rfl
 |cons a l'=>
  have:a∈cQ (dd l []):=dn.mpr (aaP.mpr (.inr (by rw[LT];exact af ..)));replace this:=e▸this;cases this
end
theorem aaO:∀o∈OT,∀q∈aad o,q∈aay:=by decide
theorem rp:∀o∈OT,(aad o).length<=4:=by decide
section
variable (n:Nat)
theorem DE(h:Tb c T):me (λo=>PA T o (aad o)) OT:=by
 have u:∀i l,T2.rows[i]? =B' (.tup [.int 6,it l])->i≠2->2<=l.length->PA T (i:Nat) l:=λi l e a b=>.inr (.inl ⟨by exact Jz a,b,cJ h i _ e⟩)
 have p:∀o∈BP,PA T o [o]:=λo m=>PA.base h m
 refine⟨p 16 (by decide),p 18 (by decide),p 19 (by decide),p 17 (by decide),p 20 (by decide),p 9 (by decide),p 8 (by decide),u 12 [8,9] (by kernel_rfl) (by decide) (by decide),p 5 (by decide),p 4 (by decide),u 21 [5,16] (by kernel_rfl) (by decide) (by decide),u 22 [16,17] (by kernel_rfl) (by decide) (by decide),u 23 [4,5] (by kernel_rfl) (by decide) (by decide),p 6 (by decide),p 7 (by decide),p 24 (by decide),p 25 (by decide),u 26 [4,6] (by kernel_rfl) (by decide) (by decide),ao⟩
theorem AX(h:Tb c T):∀o∈OT,PA T o (aad o):=(DE h).get
theorem FF(h:Tb (c+2) T){p o:Int}(hp:p∈BP)(ho:o∈OT):ux c T (ph (n+12) 849 [.tab,.int p,.int o,.bool true] T) ((aad o).filter (meB p)=[]):=by
 have eit:∀l:List Int,cy (it l)=B' (l.map .int):=λO=>rfl
 have eil:∀l:List Int,cy (.lst (l.map .int))=B' (l.map .int):=λO=>rfl
 have KO:=rp o ho
 rw[oS,cB (n+10) h (AX h o ho)]
 simp only[aaa,eit]
 rw[cH () (by rw[ae];exact O1 KO rfl),aaa,cN _ T V.int (meB p) (aad o) (λq m=>by
  refine sb (acH n h p hp q (aaO o ho q m)) ?_
  simp only[aaa,cL]
  cases meB p q<;>rfl)]
 have hh:∀q∈(aad o).filter (meB p),q∈aay/\(p=11->eI q=false):=λq m=>by
  have:=aP.mp m;refine⟨aaO o ho q this.1,λe=>?_⟩;subst e;have:(!eI q)=true:=this.2;simpa using this
 have h10:p=10->(aad o).filter (meB p)=[]:=λe=>by
  clear hp hh;subst e;exact bP.mpr λq O=>by simp [meB]
 have hl:((aad o).filter (meB p)).length<=4:=aG (aU _ _) KO
 generalize (aad o).filter (meB p)=Ma at*
 simp only[aaa]
 induction Ma using List.casesOn with
 |nil=>
  refine⟨2,T,[],?_,h.less (bt ..),.rfl,.inl ⟨rfl,rfl⟩,λp (m:p∈([]:List Int))=>(by cases m),by simp,Iff.rfl⟩;kernel_rfl
 |cons a l=>
  have PJ:cw (.lst ((a::l).map .int))=B' true:=rfl;simp only[PJ,aaa,bh,cond_false,aaN (n+8) h p hp,ceq];by_cases f7:eY p=7
  .have VI:p=11:=by
    have key:∀p∈BP,eY p=7->p=10\/p=11:=by decide
    rcases key p hp f7 with e|e
    .have:=h10 e;cases this
    .exact e
   clear hp h10;subst VI;simp only[f7,aW,cond_true,eil,aaa];rw[cH () (by rw[ae];exact O1 hl rfl),aaa,eH _ T V.int (λq=>V.bool (!jJ q)) (a::l) (λq m=>by
    have hq:=aar q (hh q m).1
    refine ox h.eta λX b d e KC=>?_;subst KC
    refine sb ((yP (n+7) X b d e).get q hq) ?_;rfl)]
   have VQ:(a::l).all (λq=>!jJ q)=true:=aE.mpr λq m=>by
    have key:∀q∈aay,(!jJ q)=true:=by decide
    exact key q (hh q m).1
   simp only[aaa,n5,VQ,cL,aav,cond_true];refine hide λQz qz=>?_;refine lH (kJ (n+8) (h:Tb (c+1+1) T) (a::l) (O4 hl rfl) (λq m=>aar q (hh q m).1)) λu T' eu tu xu pu iu=>?_;refine qz ?_;simp only[eu,aaa];have ft:fit [V.int 11,V.int u].length (V.tup [V.int 11,V.int u])=B' (V.tup [V.int 11,V.int u]):=rfl;simp only[ft,aaa];have hd:=gD (a::l) [];have hk:=n6 (dd (a::l) []);simp only[List.length_nil] at hd;have hm:∀q∈aaB whB (dd (a::l) []),q∈a::l:=λq m=>by
    rcases aaP.mp (dn.mp (aP.mp m).1) with r|r
    .cases r
    .exact r
   refine hide λQz qz=>?_;obtain⟨z,N5,M,e,t,x,p,q,r,k⟩:=AW (n+2) tu pu (HO hk hd hl rfl) (λq m=>⟨(hh q (hm q m)).1,(hh q (hm q m)).2 rfl⟩) (by
    rw[Ne,mB (yV λq m=>aar q (hh q m).1),uy];simp)
   refine qz ?_;exact⟨z,N5,M,e,t,xu.trans x,p,q,r,k.trans (by simp)⟩
  .simp only[f7,aH,cond_false,aaa];exact((pY (n+5) (h.less (br _):Tb (c+1+1) T) hp (a::l) (λq m=>(hh q m).1) hl (by simp)).iff (by simp)).less (bm _)
end
structure NV (c:Nat) (T:TS) (x:cK) (e:Prop):Prop where
 ex:∃z T',x=B' (.int z,T')/\Tb c T'/\Ex T T'/\(z=2↔e)
structure ZS (T:TS) (zs:List (Int×List Int)):Prop where
 all:∀z∈zs,PA T z.1 z.2/\(∀p∈z.2,p∈BP)/\z.2.length<=4
section
variable (n:Nat)
theorem ZS.mono{zs:List (Int×List Int)}(h:ZS T zs)(e:Ex T T'):ZS T' zs:=⟨λz m=>⟨(h.all z m).1.mono e,(h.all z m).2⟩⟩
theorem tc:∀zs:List (Int×List Int),(∀z∈zs,z.2.length<=4)->(zs.flatMap (·.2)).length<=4*zs.length
 |[],_=>by simp
 |z::zs,h=>by
  have a:=h z (af ..);have b:=tc zs λx m=>h x (ag _ m);(refine sb bG ?_;refine sb bc ?_;refine sb List.length_cons ?_);exact I4 a b
theorem vD(h:Tb (c+1) T)(zs:List (Int×List Int))(hz:ZS T zs)(hl:zs.length<=10):NV c T (ph (n+3) 266 [.tab,.lst (zs.map λz=>.int z.1)] T) (zs.flatMap (·.2)=[]):=by
 have:=tc zs λz m=>(hz.all z m).2.2
 refine lH (kI n h (.lst (zs.map λz=>.int z.1)) zs rfl (λz m=>(hz.all z m).1) (I5 hl this rfl) (O4 hl rfl) (λp m=>by
  obtain⟨z,PC,hp⟩:=List.mem_flatMap.mp m
  exact(hz.all z PC).2.1 p hp)) λz T' e t x O i=>?_
 exact⟨z,T',e,t,x,i⟩
theorem Kb{i:Int}(q:i=0\/i=1\/i=2\/i=13):i∉BP:=by rcases q with rfl|rfl|rfl|rfl<;>decide
theorem PA.no(h:Tb c T){u:Int}{l:List Int}(hu:PA T u l)(hm:∀x∈l,x∈BP)(KY:l≠[]):u≠0/\u≠1/\u≠2/\u≠13:=by
 have MD:∀i:Int,i=0\/i=1\/i=2\/i=13->u≠i:=by
  intro i hi e;subst e;have base:∀r,T2.rows[u.toNat]? =B' r->At T u r:=λr hr=>by
   have:=cJ h u.toNat r hr;rwa [Int.toNat_of_nonneg (by clear this hr r hu;rcases hi with rfl|rfl|rfl|rfl<;>decide)] at this
  have RQ:∃KJ,T2.rows[u.toNat]? =B' (.tup (.int 1::KJ)):=by
   clear hu base;rcases hi with rfl|rfl|rfl|rfl
   .exact⟨[sv "any"],by kernel_rfl⟩
   .exact⟨[sv "unknown"],by kernel_rfl⟩
   .exact⟨[sv "never"],by kernel_rfl⟩
   .exact⟨[sv "error"],by kernel_rfl⟩
  obtain⟨KJ,hr⟩:=RQ;rcases hu with⟨a,b⟩|⟨a,b,e⟩|⟨a,b,_⟩
  .exact KY b
  .have:=e.row (base _ hr);injection this with this;injection this with this _;injection this with this;cases this
  .have m:u∈l:=by rw[b];exact am.mpr rfl
   exact Kb hi (hm u m)
 exact⟨MD 0 (by decide),MD 1 (by decide),MD 2 (by decide),MD 13 (by decide)⟩
theorem dq{p:Int}{l:List Int}:l.filter (meB p)=[]↔l.any (meB p)=false:=by
 rw[bP,cp]
theorem td{g:Int->TS->cK}{e:Int->Prop}{m:Nat}(f:V->TS->Option (Option V×TS))(hf:∀p T,f (.int p) T=(C' (g p T) λr=>B' (B' r.1,r.2))):∀(P:List Int)(c:Nat)(T:TS),Tb (c+m*P.length) T->(∀p∈P,∀T₁ RH,Ex T T₁->Tb (RH+m) T₁->ux RH T₁ (g p T₁) (e p))->∃zs T',cC f (P.map .int) T=B' (zs.map (λz=>.int z.1),T')/\Tb c T'/\Ex T T'/\ZS T' zs/\zs.length=P.length/\(zs.flatMap (·.2)=[]↔∀p∈P,e p)
 |[],c,T,h,_=>(Ge ([]) T rfl h (.rfl) (⟨λz m=>by cases m⟩) rfl (by simp))
 |p::P,c,T,h,hp=>by
  refine hide λQz qz=>?_;obtain⟨z,T₁,l,e1,t1,x1,p1,b1,l1,i1⟩:=hp p (af ..) T (c+m*P.length) .rfl (by simpa [Nat.mul_succ,bH] using h);refine x26 (td f hf P c T₁ t1 λq hq Lm VE a b=>hp q (ag _ hq) Lm VE (x1.trans a) b) λzs T₂ e2 t2 x2 z2 n2 i2=>?_;refine qz ?_;refine(Ge ((z,l)::zs) T₂ ?_ t2 (x1.trans x2) (⟨λw hw=>?_⟩) (by simp [n2]) ?_)
  .refine sb aC ?_;rw[fk];rw[hf,e1,aaa,aaa];show((cC f (P.map .int) T₁).bind _)=_;refine sb e2 ?_;rfl
  .rcases aD.mp hw with q|q
   .subst q;exact⟨p1.mono x2,b1,l1⟩
   .exact z2.all w q
  .rw[bG,List.append_eq_nil_iff,i1,i2];simp [aD]
theorem eU(v:V)(T:TS):ph (n+1) 534 [.host,v] T=B' (v,T):=by rw[uq]
theorem yW(h:Tb c T){P:List Int}(hz:PA T z P)(hB:∀p∈P,p∈BP)(hl:P.length<=4):ph (n+5) 825 [.tab,.int z] T=B' (.bool (P.all λp=>!jJ p),T):=by
 have eit:∀l:List Int,cy (it l)=B' (l.map .int):=λO=>rfl
 rw[lw,cB (n+3) h hz]
 simp only[aaa,eit]
 rw[cH () (by rw[ae];exact O1 hl rfl),aaa,eH _ T V.int (λq=>V.bool (!jJ q)) P (λq m=>by
  refine ox h.eta λX b d e KC=>?_;subst KC
  refine sb ((yP n X b d e).get q (hB q m)) ?_;rfl)]
 simp only[aaa,n5]
theorem FG(h:Tb c T):∀p∈([6,7,8,9,10,11,16,17,18,19,20,24,25]:List Int),ph (n+8) 447 [.tab,.int p] T=B' (.bool false,T):=by
 refine ox h.eta λX b d e KC=>?_;subst KC
 exact cE (by kernel_rfl)
end
theorem k1:∀p∈BP,eY p∈([4,5,6]:List Int)->p∈aay:=by decide
theorem k2:∀p∈aay,p≠10/\p≠11:=by decide
theorem k3:∀p∈BP,eY p∉([4,5,6]:List Int)->p∈([6,7,8,9,10,11,16,17,18,19,20,24,25]:List Int):=by decide
theorem k4:∀p∈BP,∀r∈aay,eY p∉([4,5,6]:List Int)->eI r=true->meB p r=false:=by decide
theorem vE{p:Int}(h:p∈aay)(q:Int):meB p q=En p q:=by
 have:=k2 p h
 unfold meB
 (refine sb (show(p==10)=false from aR.mpr this.1) ?_;refine sb (show(p==11)=false from aR.mpr this.2) ?_);rfl
section
variable (n:Nat)
theorem eit(l:List Int):cy (it l)=B' (l.map .int):=rfl
theorem eil(l:List Int):cy (.lst (l.map .int))=B' (l.map .int):=rfl
theorem AY(h:Tb c T){p o:Int}(hp:p∈BP)(ho:o∈OT)(hn:(aad o).all eI=true)(z:V)(out:List Int)(hl:out.length<1000)(s:Sl)(hs:s.aae=false)(k:Kn):de (n+8) (.int p) [.pl .tab,.pl z,.pl (.int o),.pl (.bool true),.ow (.lst (out.map .int)),s] T k=k [.pl .tab,.pl z,.pl (.int o),.pl (.bool true),.ow (.lst ((out++(if(aad o).any (meB p) then [p] else [])).map .int)),.pl (.int p)] T:=by
 have hb:=kH p hp
 rw[jv _ _ _ _ _ _ _ hs,aaN (n+5) h p hp]
 have e1:=nR T (eY p) [4,5,6]
 rw[show it [4,5,6]=V.tup [.int 4,.int 5,.int 6] from rfl] at e1
 have e2:=nR T p [0,13]
 rw[show it [0,13]=V.tup [.int 0,.int 13] from rfl] at e2
 simp only[aaa,e1,e2]
 by_cases q:eY p∈([4,5,6]:List Int)
 .have Of:p∈aay:=k1 p hp q;have hm:(aad o).any (En p)=(aad o).any (meB p):=by
   congr 1;funext q;exact sb (vE Of q) rfl
  simp only[q,aW,cond_true,cB (n+7) h (AX h o ho),aaa,eit];rw[cH () (by have:=rp o ho;rw[ae];exact O1 this rfl),aaa,eH _ T V.int (λq=>V.bool (En p q)) (aad o) (λq m=>by rw[Dw (n+3) h p Of q (aaO o ho q m)];rfl)];simp only[aaa,yU,cL,hm];cases (aad o).any (meB p)
  .simp
  .have:=pW (l:=out.map V.int) (.int p) (by rw[ae];exact O2 hl rfl);simp only[cond_true,this,aaa,bJ,bM,aC,List.map_nil]
 .have hm:(aad o).any (meB p)=false:=by
   rw[cp];intro r hr;refine sb (k4 p hp r (aaO o ho r hr) q (aE.mp hn r hr)) ?_;decide
  have Of:=k3 p hp q;have Vd:¬p∈([0,13]:List Int):=by simp;omega
  simp only[q,Vd,aH,cond_false,aaa,FG n h p Of,cL,hm];simp
theorem vF(h:Tb c T){o:Int}(ho:o∈OT)(hn:(aad o).all eI=true)(z:V)(k:Kn):∀(P out:List Int)(s:Sl),s.aae=false->out.length+P.length<1000->(∀p∈P,p∈BP)->∃s',s'.aae=false/\cG (de (n+8)) (P.map .int) [.pl .tab,.pl z,.pl (.int o),.pl (.bool true),.ow (.lst (out.map .int)),s] T k=k [.pl .tab,.pl z,.pl (.int o),.pl (.bool true),.ow (.lst ((out++P.filter λp=>(aad o).any (meB p)).map .int)),s'] T
 |[],out,s,hs,_,_=>⟨s,hs,by rw[List.filter_nil,a0];rfl⟩
 |p::P,out,s,hs,hl,hB=>by
  simp only[List.length_cons] at hl;have KO:(out++(if(aad o).any (meB p) then [p] else [])).length<=out.length+1:=by
   rw[bc];split<;>simp
  refine x12 (vF h ho hn z k P (out++(if(aad o).any (meB p) then [p] else [])) (.pl (.int p)) rfl (by exact Gx hl KO) λx m=>hB x (ag _ m)) λs' a e=>?_;refine⟨s',a,?_⟩;show de (n+8) (.int p) _ T _=_;rw[AY n h (hB p (af ..)) ho hn z out (by exact Ei hl rfl) s hs,e,bT,bv];cases (aad o).any (meB p)<;>rfl
theorem Hn(h:Tb (c+1) T){o:Int}{P:List Int}(hz:PA T z P)(hB:∀p∈P,p∈BP)(KY:P≠[])(hl:P.length<=4)(ho:o∈OT)(hn:(aad o).all eI=true):NV c T (ph (n+9) 788 [.tab,.int z,.int o,.bool true] T) (∀p∈P,(aad o).filter (meB p)=[]):=by
 have Mw:=PA.no h hz hB KY
 refine x12 (vF n h ho hn (.int z) (dU (n+8)) P [] .un rfl (by simp;exact O4 hl rfl) hB) λs' a e=>?_
 rw[mc]
 simp only[cL,aaa,bh,cond_false,ceq,Mw.2.1,aH,cB (n+7) h hz,eit]
 rw[cH () (by rw[ae];exact O1 hl rfl),aaa]
 have e0:(V.lst [])=V.lst (([]:List Int).map .int):=rfl
 rw[e0,e,jw _ _ _ _ _ _ a,List.nil_append]
 refine lH (kJ (n+5) h (P.filter λp=>(aad o).any (meB p)) (aQ (aU _ _) (by exact O4 hl rfl)) (λp m=>hB p (aP.mp m).1)) λw T' e' t x O i=>?_
 refine⟨w,T',e',t,x,i.trans ?_⟩
 rw[bP]
 constructor
 .intro q p m;rw[dq];simpa using q p m
 .intro q p m;have:=q p m;rw[dq] at this;refine sb this ?_;decide
theorem AZ(h:Tb (c+1) T){p o:Int}(hp:p∈aay)(ho:o∈OT)(z:V)(out:V)(s u:Sl)(hs:s.aae=false)(hu:u.aae=false)(k:Kn):cX (n+6) (.int p) [.pl .tab,.pl z,.pl (.int o),.pl (.bool true),.ow out,s,u] T k=bif(aad o).any (meB p) then C' (ph (n+6) 776 [.tab,.int p,.lst (((aad o).filter (meB p)).map .int)] T) λr=>C' (eW out r.1) λc=>k [.pl .tab,.pl z,.pl (.int o),.pl (.bool true),.ow c,.pl (.int p),.pl (.lst (((aad o).filter (meB p)).map .int))] r.2 else k [.pl .tab,.pl z,.pl (.int o),.pl (.bool true),.ow out,.pl (.int p),.pl (.lst (((aad o).filter (meB p)).map .int))] T:=by
 rw[ix _ _ _ _ _ _ _ _ hs hu,cB (n+5) h (AX h o ho)]
 simp only[aaa,eit]
 rw[cH () (by have:=rp o ho;rw[ae];exact O1 this rfl),aaa,cN _ T V.int (meB p) (aad o) (λq m=>by
  rw[Dw (n+1) h p hp q (aaO o ho q m),<- vE hp q]
  simp only[aaa,cL]
  cases meB p q<;>rfl)]
 simp only[aaa]
 have:cw (.lst (((aad o).filter (meB p)).map .int))=B' ((aad o).any (meB p)):=by
  show B' (!(((aad o).filter (meB p)).map V.int).isEmpty)=_;congr 1;cases hq:(aad o).any (meB p)
  .rw[dq.mpr hq];rfl
  .cases hf:(aad o).filter (meB p) with
   |nil=>rw[dq.mp hf] at hq;exact nb hq
   |cons a l=>rfl
 rw[this,aaa,aaa]
theorem rq{o:Int}(ho:o∈OT)(z:V)(k:Kn):∀(P:List Int)(out:List (Int×List Int))(c:Nat)(T:TS)(s u:Sl),s.aae=false->u.aae=false->out.length+P.length<1000->(∀p∈P,p∈aay)->Tb (c+1*P.length) T->ZS T out->∃zs T' s' u',s'.aae=false/\u'.aae=false/\Tb c T'/\Ex T T'/\ZS T' (out++zs)/\zs.length<=P.length/\(zs.flatMap (·.2)=[]↔∀p∈P,(aad o).filter (meB p)=[])/\cG (cX (n+6)) (P.map .int) [.pl .tab,.pl z,.pl (.int o),.pl (.bool true),.ow (.lst (out.map λx=>.int x.1)),s,u] T k=k [.pl .tab,.pl z,.pl (.int o),.pl (.bool true),.ow (.lst ((out++zs).map λx=>.int x.1)),s',u'] T'
 |[],out,c,T,s,u,hs,hu,_,_,h,hz=>(Gh ([]) T s u hs hu h (.rfl) (by rw[a0];exact hz) (br _) (by simp) (by rw[a0];rfl))
 |p::P,out,c,T,s,u,hs,hu,hl,hB,h,hz=>by
  simp only[List.length_cons] at hl h;have h':Tb (c+1*P.length+1) T:=h;have hp:=hB p (af ..);have st:=AZ n h' hp ho z (.lst (out.map λx=>.int x.1)) s u hs hu (λG T=>cG (cX (n+6)) (P.map .int) G T k);cases ha:(aad o).any (meB p) with
  |false=>
   rw[ha] at st;refine hide λQz qz=>?_;refine Gg (rq ho z k P out c T (.pl (.int p)) (.pl (.lst (((aad o).filter (meB p)).map .int))) rfl rfl (by exact F8 hl) (λq m=>hB q (ag _ m)) (h'.less (bm _)) hz) λzs T' s' u' a b t x PC LT i e=>?_;refine qz ?_;clear Qz qz;refine(Gh zs T' s' u' a b t x PC (by simp only[List.length_cons];exact Jh LT) ?_ ?_)
   .rw[i];constructor
    .intro q r m;rcases aD.mp m with e|m
     .refine sb e ?_;exact dq.mpr ha
     .exact q r m
    .exact λq r m=>q r (ag _ m)
   .exact st.trans e
  |true=>
   rw[ha] at st;have KY:(aad o).filter (meB p)≠[]:=λe=>by rw[dq.mp e] at ha;exact nb ha
   refine hide λQz qz=>?_;obtain⟨w,T₁,l,e1,t1,x1,p1,b1,l1,i1⟩:=pY n h' (aar p hp) ((aad o).filter (meB p)) (λq m=>aaO o ho q (aP.mp m).1) (aG (aU _ _) (rp o ho)) KY;refine Gg (rq ho z k P (out++[(w,l)]) c T₁ (.pl (.int p)) (.pl (.lst (((aad o).filter (meB p)).map .int))) rfl rfl (by simp only[bc,List.length_cons,List.length_nil];exact Cp hl) (λq m=>hB q (ag _ m)) t1 ⟨λy m=>by
    rcases bf.mp m with m|m
    .exact(hz.mono x1).all y m
    .refine sb (am.mp m) ?_;exact⟨p1,b1,l1⟩⟩) λzs T' s' u' a b t x PC LT i e=>?_
   refine qz ?_;clear Qz qz;refine(Gh ((w,l)::zs) T' s' u' a b t (x1.trans x) (by rw[bv] at PC;exact PC) (by simp only[List.length_cons];exact Ji LT) ?_ ?_)
   .constructor
    .intro q;rw[bG,List.append_eq_nil_iff] at q;exact(i1.mp q.1).elim
    .intro q;exact absurd (q p (af ..)) KY
   .refine st.trans ?_;refine sb e1 ?_;simp only[cond_true,aaa];rw[pW _ (by rw[ae];exact Ei hl rfl),aaa];have e':(out.map λx=>V.int x.1)++[V.int w]=(out++[(w,l)]).map λx=>V.int x.1:=by simp
    rw[e',e,bv];rfl
theorem FH(h:Tb (c+5) T){o:Int}{P:List Int}(hz:PA T z P)(hB:∀p∈P,p∈BP)(KY:P≠[])(hl:P.length<=4)(ho:o∈OT)(hp:(aad o).all eI=true\/∀p∈P,p∈aay):NV c T (ph (n+10) 798 [.tab,.int z,.int o,.bool true] T) (∀p∈P,(aad o).filter (meB p)=[]):=by
 have Mw:=PA.no h hz hB KY
 have U8:ph (n+9) 771 [.tab,.int o] T=B' (.bool ((aad o).all eI),T):=by
  refine ox h.eta λX b d e KC=>?_;subst KC;exact(B4 (n+4) X b d e).get o ho
 rw[j1]
 simp only[ceq,aaa,Mw.2.1,aH,cond_false,U8,cL]
 cases hn:(aad o).all eI with
 |true=>
  simp only[cond_true];exact Hn n (h.less (aN (by decide) _)) hz hB KY hl ho hn
 |false=>
  have Of:∀p∈P,p∈aay:=by
   rcases hp with q|q
   .rw[hn] at q;exact nb q
   .exact q
  simp only[cond_false,cB (n+8) h hz,aaa,eit];rw[cH () (by rw[ae];exact O1 hl rfl),aaa];refine hide λQz qz=>?_;refine Gg (rq (n+3) ho (.int z) (d5 (n+9)) P [] (c+1) T .un .un rfl rfl (by simp;exact O4 hl rfl) Of (h.less (by exact GB hl rfl)) ⟨λy m=>by cases m⟩) λzs T' s' u' a b t x PC LT i e=>?_;have e0:(V.lst [])=V.lst (([]:List (Int×List Int)).map λx=>.int x.1):=rfl;refine qz ?_;clear Qz qz;rw[e0,e,iy _ _ _ _ _ _ _ a b,List.nil_append];refine hide λQz qz=>?_;obtain⟨w,N5,e',t',x',i'⟩:=vD (n+6) t zs PC (by exact O9 LT hl rfl);refine qz ?_;clear Qz qz;exact⟨w,N5,e',t',x.trans x',i'.trans i⟩
end
theorem vG:∀o∈OT,o≠0/\o≠13/\o≠1/\o≠2:=by decide
theorem yX:∀p∈BP,((!jJ p)=true->p∈aay):=by decide
section
variable (n:Nat)
theorem yY(h:Tb c T){o:Int}(ho:o∈OT):ph (n+5) 771 [.tab,.int o] T=B' (.bool ((aad o).all eI),T):=by
 refine ox h.eta λX b d e KC=>?_;subst KC
 exact(B4 n X b d e).get o ho
theorem yZ(h:Tb c T){o:Int}(ho:o∈OT):ph (n+5) 825 [.tab,.int o] T=B' (.bool true,T):=by
 refine ox h.eta λX b d e KC=>?_;subst KC
 exact(Dv n X b d e).get o ho
theorem Ho(T:TS)(h:z≠0/\z≠13):cu T .In (.int z) (.tup [.int 0,.int 13])=B' false:=by
 have:=nR T z [0,13]
 rw[show it [0,13]=V.tup [.int 0,.int 13] from rfl] at this
 rw[this];simp [h.1,h.2]
theorem Hp(T:TS)(h:z≠0/\z≠13/\z≠1):cu T .In (.int z) (.tup [.int 0,.int 13,.int 1])=B' false:=by
 have:=nR T z [0,13,1]
 rw[show it [0,13,1]=V.tup [.int 0,.int 13,.int 1] from rfl] at this
 rw[this];simp [h.1,h.2]
theorem ab0(h:Tb c T){o:Int}(hz:z≠0/\z≠13)(ho:o∈OT):ph (n+1) 812 [.tab,.int z,.int o,.bool true,.bool true] T=ph n 798 [.tab,.int z,.int o,.bool true] T:=by
 have:=vG o ho
 rw[fa]
 simp only[Ho T hz,Hp T ⟨this.1,this.2.1,this.2.2.1⟩,aaa,cond_false,cL,cond_true]
theorem y0(h:Tb c T){o:Int}(hz:z≠0/\z≠13)(ho:o∈OT):ph (n+1) 812 [.tab,.int z,.int o,.bool false,.bool true] T=ph n 805 [.tab,.int z,.int o] T:=by
 have:=vG o ho
 rw[fa]
 simp only[Ho T hz,Hp T ⟨this.1,this.2.1,this.2.2.1⟩,aaa,cond_false,cL,cond_true,bh]
theorem DF(h:Tb (c+20) T){o:Int}{P:List Int}(hz:PA T z P)(hB:∀p∈P,p∈BP)(KY:P≠[])(hl:P.length<=4)(ho:o∈OT):NV c T (ph (n+14) 854 [.host,.int z,.int o,.bool true,.bool true] T) (∀p∈P,(aad o).filter (meB p)=[]):=by
 have Mw:=PA.no h hz hB KY
 have Wc:=vG o ho
 rw[fD]
 simp only[eU,aaa,yW (n+8) h hz hB hl,cL,yZ (n+8) h ho,bh,ceq,Mw.2.1,aH,yY (n+8) h ho,aav]
 have plain:((P.all λp=>!jJ p)=true\/(aad o).all eI=true)->NV c T (ph (n+13) 812 [.tab,.int z,.int o,.bool true,.bool true] T) (∀p∈P,(aad o).filter (meB p)=[]):=by
  intro q;refine sb (ab0 (n+12) h ⟨Mw.1,Mw.2.2.2⟩ ho) ?_;refine hide λQz qz=>?_;obtain⟨w,T',e,t,x,i⟩:=FH (n+2) (h.less (aN (by decide) _):Tb (c+5) T) hz hB KY hl ho (by
   rcases q with q|q
   .exact .inr λp m=>yX p (hB p m) (aE.mp q p m)
   .exact .inl q)
  refine qz ?_;exact⟨w,T',e,t,x,i⟩
 cases ha:P.all (λp=>!jJ p) with
 |true=>
  simp only[cond_true,aaa,cL];exact plain (.inl ha)
 |false=>
  simp only[cond_false,aaa,cL,yY (n+8) h ho,aav];cases hn:(aad o).all eI with
  |true=>
   simp only[cond_true,aaa];exact plain (.inr hn)
  |false=>
   simp only[cond_false,aaa,aav,Ho T ⟨Mw.1,Mw.2.2.2⟩,Hp T ⟨Wc.1,Wc.2.1,Wc.2.2.1⟩,cB (n+12) h hz,eit];rw[cH () (by rw[ae];exact O1 hl rfl),aaa];refine hide λQz qz=>?_;refine x26 (td (g:=λp T=>ph (n+13) 849 [.tab,.int p,.int o,.bool true] T) (e:=λp=>(aad o).filter (meB p)=[]) (m:=2) (λV3 WJ=>(C' (ph (n+13) 849 [.tab,V3,.int o,.bool true] WJ) λSD=>B' (B' SD.1,SD.2))) (λO O=>rfl) P (c+1) T (h.less (GB hl rfl)) (λp m T₁ RH O t₁=>FF (n+1) t₁ (hB p m) ho)) λzs T' e t x PC LT i=>?_;refine qz ?_;refine sb e ?_;simp only[aaa];refine hide λQz qz=>?_;obtain⟨w,N5,e',t',x',i'⟩:=vD (n+10) t zs PC (O5 LT hl rfl);refine qz ?_;exact⟨w,N5,e',t',x.trans x',i'.trans i⟩
end
noncomputable def oY(o:Int):Int:=if o∈BP then jx o else -1
noncomputable def rA(o:Int):V:=if o∈BP then AU o else .tup []
noncomputable def gV(p o:Int):Bool:=eY p==eY o&&jx p==jx o&&jx p !=-1
noncomputable def abD:List Int:=[16,18,19,17,20,9,8,5,4,24,25]
theorem A0:∀o∈OT,oY o≠-1->o∈abD:=by decide
section
variable (n:Nat)
theorem y1(h:Tb c T):∀o∈OT,ph (n+4) 759 [.tab,.int o] T=B' (rA o,T):=by
 refine ox h.eta λX b d e KC=>?_;subst KC
 exact cE (by kernel_rfl)
theorem DG(T:TS):∀o∈OT,cu T .Eq (rA o) (.tup [])=B' (oY o==-1):=by
 exact cE (by kernel_rfl)
theorem y2(T:TS):∀p∈BP,∀o∈abD,cu T .NotEq (AU p) (rA o)=B' (!gV p o):=by
 exact aaK (by kernel_rfl)
theorem A5(h:Tb c T){p o:Int}(hp:p∈BP)(ho:o∈abD)(z:V)(out:List Int)(hl:out.length<1000)(s:Sl)(hs:s.aae=false)(k:Kn):dj (n+4) (.int p) [.pl .tab,.pl z,.pl (.int o),.pl (rA o),.ow (.lst (out.map .int)),s] T k=k [.pl .tab,.pl z,.pl (.int o),.pl (rA o),.ow (.lst ((out++(if gV p o then [] else [p])).map .int)),.pl (.int p)] T:=by
 have h3:p≠3:=by have:=kH p hp;exact BC this.1 rfl
 rw[iQ _ _ _ _ _ _ _ hs,abC n h p hp]
 simp only[aaa,y2 T p hp o ho,ceq,h3,aH,cond_false,bo,cond_true,aav]
 cases gV p o
 .have:=pW (l:=out.map V.int) (.int p) (by rw[ae];exact O2 hl rfl);simp only[bo,cond_true,this,aaa,bY,bg,bM,aC,List.map_nil]
 .simp
theorem vH(h:Tb c T){o:Int}(ho:o∈abD)(z:V)(k:Kn):∀(P out:List Int)(s:Sl),s.aae=false->out.length+P.length<1000->(∀p∈P,p∈BP)->∃s',s'.aae=false/\cG (dj (n+4)) (P.map .int) [.pl .tab,.pl z,.pl (.int o),.pl (rA o),.ow (.lst (out.map .int)),s] T k=k [.pl .tab,.pl z,.pl (.int o),.pl (rA o),.ow (.lst ((out++P.filter λp=>!gV p o).map .int)),s'] T
 |[],out,s,hs,_,_=>⟨s,hs,by rw[List.filter_nil,a0];rfl⟩
 |p::P,out,s,hs,hl,hB=>by
  simp only[List.length_cons] at hl;have KO:(out++(if gV p o then [] else [p])).length<=out.length+1:=by
   refine sb bc ?_;split<;>simp
  refine x12 (vH h ho z k P (out++(if gV p o then [] else [p])) (.pl (.int p)) rfl (Gx hl KO) λx m=>hB x (ag _ m)) λs' a e=>?_;refine⟨s',a,?_⟩;show dj (n+4) (.int p) _ T _=_;rw[A5 n h (hB p (af ..)) ho z out (Ei hl rfl) s hs,e,bT,bv];cases gV p o<;>rfl
theorem FI(h:Tb (c+1) T){o:Int}{P:List Int}(hz:PA T z P)(hB:∀p∈P,p∈BP)(KY:P≠[])(hl:P.length<=4)(ho:o∈OT):NV c T (ph (n+5) 805 [.tab,.int z,.int o] T) (oY o≠-1/\∀p∈P,gV p o=true):=by
 have Mw:=PA.no h hz hB KY
 rw[gh,y1 n h o ho]
 simp only[aaa,DG T o ho]
 by_cases hv:oY o=-1
 .refine sb (show(oY o==-1)=true from aT.mpr hv) ?_;exact⟨z,T,rfl,h.less (bm _),.rfl,⟨λe=>absurd e Mw.2.2.1,λe=>absurd hv e.1⟩⟩
 .have hu:=A0 o ho hv;refine sb (show(oY o==-1)=false from aR.mpr hv) ?_;simp only[cond_false,ceq,Mw.2.1,aH,aaa,cB (n+3) h hz,eit];rw[cH () (by rw[ae];exact O1 hl rfl),aaa];refine x12 (vH n h hu (.int z) (eD (n+4)) P [] .un rfl (by simp;exact O4 hl rfl) hB) λs' a e=>?_;have e0:(V.lst [])=V.lst (([]:List Int).map .int):=rfl;rw[e0,e,iR _ _ _ _ _ _ a,List.nil_append];refine lH (kJ (n+1) h (P.filter λp=>!gV p o) (aQ (aU _ _) (O4 hl rfl)) (λp m=>hB p (aP.mp m).1)) λw T' e' t x O i=>?_;refine⟨w,T',e',t,x,i.trans ?_⟩;rw[bP];constructor
  .intro q;exact⟨hv,λp m=>by simpa using q p m⟩
  .intro q p m;refine sb (q.2 p m) ?_;decide
theorem FJ(h:Tb (c+20) T){o:Int}{P:List Int}(hz:PA T z P)(hB:∀p∈P,p∈BP)(KY:P≠[])(hl:P.length<=4)(ho:o∈OT):NV c T (ph (n+14) 854 [.host,.int z,.int o,.bool false,.bool true] T) (oY o≠-1/\∀p∈P,gV p o=true):=by
 have Mw:=PA.no h hz hB KY
 rw[fD]
 simp only[eU,aaa,yW (n+8) h hz hB hl,cL,yZ (n+8) h ho,bo,cond_true]
 have plain:NV c T (ph (n+13) 812 [.tab,.int z,.int o,.bool false,.bool true] T) (oY o≠-1/\∀p∈P,gV p o=true):=by
  refine sb (y0 (n+12) h ⟨Mw.1,Mw.2.2.2⟩ ho) ?_;exact FI (n+7) (h.less (aN (by decide) _)) hz hB KY hl ho
 cases ha:P.all (λp=>!jJ p)<;>simp only[cond_true,cond_false,aaa,cL]<;>exact plain
end
noncomputable def trB(p:Int):Int:=uw [(4,2),(5,2),(8,2),(17,2),(19,2),(25,2)] p p
noncomputable def frB(p:Int):Int:=uw [(6,19),(9,2),(10,2),(16,2),(18,2),(20,2),(24,2)] p p
noncomputable def Hr(p:Int):Int:=if eI p then 2 else p
theorem uz:∀p∈BP,trB p=2\/(trB p∈BP/\eI (trB p)=false):=by decide
theorem DH:∀p∈BP,frB p=2\/frB p∈BP:=by decide
section
variable (n:Nat)
theorem Hs(h:Tb c T):∀p∈BP,ph (n+10) 459 [.tab,.int p] T=B' (.int (Hr p),T):=by
 refine ox h.eta λX b d e KC=>?_;subst KC
 exact cE (by kernel_rfl)
theorem Ht(h:Tb c T):∀p∈BP,ph (n+11) 478 [.tab,.int p] T=B' (.int (trB p),T):=by
 refine ox h.eta λX b d e KC=>?_;subst KC
 exact cE (by kernel_rfl)
theorem Hu(h:Tb c T):∀p∈BP,ph (n+11) 507 [.tab,.int p] T=B' (.int (frB p),T):=by
 refine ox h.eta λX b d e KC=>?_;subst KC
 exact cE (by kernel_rfl)
theorem vI(f:Int->Int)(l:List Int):(l.map λp=>V.int (f p))=(l.map f).map .int:=by rw[bw];rfl
theorem FK{l:List Int}:∀q∈aaB whB (dd (l.filter (· ≠2)) []),q∈l/\q≠2:=λq m=>by
 rcases aaP.mp (dn.mp (aP.mp m).1) with r|r
 .cases r
 .have:=aP.mp r;exact⟨this.1,by simpa using this.2⟩
theorem A6(h:Tb (c+1) T){P:List Int}(hz:PA T z P)(hB:∀p∈P,p∈BP)(hl:P.length<=4):NV c T (ph (n+13) 512 [.tab,.int z] T) (∀p∈P,frB p=2):=by
 rw[oQ,cB (n+11) h hz]
 simp only[aaa,eit]
 rw[cH () (by rw[ae];exact O1 hl rfl),aaa,eH _ T V.int (λq=>V.int (frB q)) P (λq m=>by rw[Hu (n+1) h q (hB q m)];rfl)]
 simp only[aaa,vI]
 refine lH (vB (n+9) h (P.map frB) (by rw[ae];exact O4 hl rfl) (λp m=>by refine x12 (aJ.mp m) λq hq KC=>?_;subst KC;exact DH q (hB q hq))) λw T' e t x O i=>?_
 refine⟨w,T',e,t,x,i.trans ?_⟩
 rw[bP]
 constructor
 .intro q p m;simpa using q (frB p) (aJ.mpr ⟨p,m,rfl⟩)
 .intro q p m;refine x12 (aJ.mp m) λr hr KC=>?_;subst KC;simp [q r hr]
theorem y3(h:Tb (c+2) T){P:List Int}(hz:PA T z P)(hB:∀p∈P,p∈BP)(hl:P.length<=4):NV c T (C' (ph (n+13) 483 [.tab,.int z] T) λp=>ph (n+13) 464 [.tab,p.1] p.2) (∀p∈P,trB p=2):=by
 rw[nL,cB (n+11) h hz]
 simp only[aaa,eit]
 rw[cH () (by rw[ae];exact O1 hl rfl),aaa,eH _ T V.int (λq=>V.int (trB q)) P (λq m=>by rw[Ht (n+1) h q (hB q m)];rfl)]
 simp only[aaa,vI]
 refine lH (vB (n+9) (h:Tb (c+1+1) T) (P.map trB) (by rw[ae];exact O4 hl rfl) (λp m=>by
  refine x12 (aJ.mp m) λq hq KC=>?_;subst KC
  rcases uz q (hB q hq) with r|r
  .exact .inl r
  .exact .inr r.1)) λu T' e t x pu i=>?_
 refine sb e ?_
 simp only[aaa]
 have hm:∀q∈aaB whB (dd ((P.map trB).filter (· ≠2)) []),q∈BP/\eI q=false:=λq m=>by
  refine x02 (FK q m) λa b=>?_;clear m;refine x12 (aJ.mp a) λr hr KC=>?_;subst KC;rcases uz r (hB r hr) with s|s
  .exact absurd s b
  .exact s
 have hd:=gD ((P.map trB).filter (· ≠2)) []
 have hk:=n6 (dd ((P.map trB).filter (· ≠2)) [])
 have hf:=aU (· ≠2) (P.map trB)
 simp only[List.length_nil,ae] at hd hf
 have hfB:∀p∈(P.map trB).filter (· ≠2),p∈BP:=λp m=>by
  have:=aP.mp m;refine x12 (aJ.mp this.1) λr hr KC=>?_;subst KC;rcases uz r (hB r hr) with s|s
  .rw[s] at this;simp at this
  .exact s.1
 have Wx:aaB whB (dd ((P.map trB).filter (· ≠2)) [])=[]↔∀p∈P,trB p=2:=by
  rw[mB (yV hfB),uy,bP];constructor
  .intro q p m;simpa using q (trB p) (aJ.mpr ⟨p,m,rfl⟩)
  .intro q p m;refine x12 (aJ.mp m) λr hr KC=>?_;subst KC;simp [q r hr]
 generalize aaB whB (dd ((P.map trB).filter (· ≠2)) [])=L at*
 rw[kA,cB (n+11) t pu]
 simp only[aaa,eit]
 rw[cH () (by rw[ae];omega),aaa,eH _ T' V.int (λq=>V.int q) L (λq m=>by
  refine sb (Hs (n+2) t q (hm q m).1) ?_
  show B' (B' (V.int (Hr q)),T')=_
  unfold Hr;refine sb ((hm q m).2) ?_;rfl)]
 simp only[aaa]
 refine lH (kJ (n+9) t L (by omega) (λq m=>(hm q m).1)) λw N5 e' t' x' O i'=>?_
 exact⟨w,N5,e',t',x.trans x',i'.trans Wx⟩
theorem DI(h:Tb (c+20) T){P:List Int}(hz:PA T z P)(hB:∀p∈P,p∈BP)(hl:P.length<=4):NV c T (ph (n+15) 844 [.host,.int z,.bool true] T) (∀p∈P,trB p=2):=by
 rw[gR]
 simp only[eU,aaa]
 rw[eS]
 simp only[cL,aaa,bh,cond_false]
 have:=y3 n (h.less (aN (by decide) _):Tb (c+2) T) hz hB hl
 refine hide λQz qz=>?_
 obtain⟨w,T',e,t,x,i⟩:=this
 refine qz ?_
 refine⟨w,T',?_,t,x,i⟩
 rw[<- e]
 cases ph (n+13) 483 [V.tab,V.int z] T<;>rfl
theorem FL(h:Tb (c+20) T){P:List Int}(hz:PA T z P)(hB:∀p∈P,p∈BP)(hl:P.length<=4):NV c T (ph (n+15) 844 [.host,.int z,.bool false] T) (∀p∈P,frB p=2):=by
 rw[gR]
 simp only[eU,aaa]
 rw[eS]
 simp only[cL,aaa,bo,cond_true]
 exact A6 n (h.less (aN (by decide) _):Tb (c+1) T) hz hB hl
end
noncomputable def OT':List Int:=[16,18,19,17,20,9,8,12,21,22,23,6,7,24,25,26]
theorem y4:∀o∈OT,o∈OT'\/o∈([4,5]:List Int):=by decide
section
variable (n:Nat)
theorem A7(h:Tb c T):∀o∈OT,ph (n+14) 854 [.host,.int 1,.int o,.bool true,.bool true] T=B' (.int o,T):=by
 refine ox h.eta λX b d e KC=>?_;subst KC
 exact cE (by kernel_rfl)
theorem A8(h:Tb c T):∀o∈OT',ph (n+14) 854 [.host,.int 1,.int o,.bool false,.bool true] T=B' (.int 1,T):=by
 refine ox h.eta λX b d e KC=>?_;subst KC
 exact cE (by kernel_rfl)
theorem A9(h:Tb c T):ph (n+15) 844 [.host,.int 1,.bool true] T=B' (.int 11,T):=by
 refine ox h.eta λX b d e KC=>?_;subst KC
 kernel_rfl
theorem DJ(h:Tb c T):ph (n+15) 844 [.host,.int 1,.bool false] T=B' (.int 1,T):=by
 refine ox h.eta λX b d e KC=>?_;subst KC
 kernel_rfl
theorem DK(h:Tb c T):ph (n+13) 825 [.tab,.int 1] T=B' (.bool false,T):=by
 refine ox h.eta λX b d e KC=>?_;subst KC
 kernel_rfl
theorem Ba(h:Tb (c+20) T):∀o∈([4,5]:List Int),NV c T (ph (n+14) 854 [.host,.int 1,.int o,.bool false,.bool true] T) False:=by
 intro o ho
 have key:∃q∈([4,5]:List Int),ph (n+14) 854 [.host,.int 1,.int o,.bool false,.bool true] T=ph (n+11) 266 [.tab,.tup [.int 11,.int q]] T:=by
  have Py:o∈OT:=by revert o;decide
  rw[fD];simp only[eU,aaa,DK n h,cL,cond_false,bo,cond_true];rw[y0 (n+12) h (by decide) Py,gh,y1 (n+7) h o Py];have e1:rA 4=.tup [.int 5,.int 0]:=by kernel_rfl
  have e2:rA 5=.tup [.int 4,.int 0]:=by kernel_rfl
  rcases aD.mp ho with rfl|ho
  .refine⟨5,by decide,?_⟩;rw[e1];kernel_rfl
  .have:=am.mp ho;subst this;refine⟨4,by decide,?_⟩;rw[e2];kernel_rfl
 refine x12 key λq hq e=>?_
 have Xk:q∈BP:=(by decide:∀q∈([4,5]:List Int),q∈BP) q hq
 refine lH (kI (n+8) (h.less (aN (by decide) _):Tb (c+1) T) (.tup [.int 11,.int q]) [(11,[11]),(q,[q])] rfl (λz m=>by
  simp only[aD,am,List.not_mem_nil,or_false] at m
  rcases m with rfl|rfl
  .exact PA.base h (by decide)
  .exact PA.base h Xk) (by simp) (by simp) (λp m=>by
  simp only[bG,List.flatMap_nil,bf,aD,List.not_mem_nil,or_false] at m
  clear e;rcases m with rfl|rfl
  .decide
  .exact Xk)) λw T' e' t x O i=>?_
 exact⟨w,T',by rw[e,e'],t,x,i.trans (by simp)⟩
theorem DL(h:Tb (c+20) T){o:Int}(ho:o∈OT):NV c T (ph (n+14) 854 [.host,.int 1,.int o,.bool false,.bool true] T) False:=by
 rcases y4 o ho with q|q
 .exact⟨1,T,A8 n h o q,h.less tN,.rfl,by decide⟩
 .exact Ba n h o q
end
structure eZ where
 props:List (String×Int×Int)
 calls:List Int
 si:Option Int
 ni:Option Int
noncomputable def i5(p:String×Int×Int):V:=.tup [sv p.1,.int p.2.1,.int p.2.2,.int 0]
noncomputable def DM:Option Int->V
 |none=>.tup []
 |some t=>.tup [.int t,.int 0]
noncomputable def Hv(S:eZ):List V:=[.int 8,.tup (S.props.map i5),it S.calls,.tup [],DM S.si,DM S.ni,.int 0]
noncomputable def mf(S:eZ):V:=.tup (Hv S)
section
variable (n:Nat)
theorem B8:∃l,kU (.int 40)=B' (.int 0::l)/\l.length<100:=⟨(List.range 39).map λ(k:Nat)=>V.int (k+1:Nat),by rfl,by simp⟩
theorem w3(h:Tb c T){r:List V}(a:At T t (.tup (.int 8::r))):ph (n+2) 653 [.host,.int t] T=B' (.int t,T):=by
 refine x12 B8 λl e hl=>?_
 rw[jY,fY,e]
 simp only[aaa]
 rw[cH () (by simp only[List.length_cons];exact Ie hl rfl),aaa]
 simp only[dv,dw]
 rw[dy _ _ _ _ _ rfl rfl,cF h a]
 have s0:cv 2 T (.tup (.int 8::r)) (.int 0)=B' (.int 8):=rfl
 simp only[aaa,s0,ceq,aW,cond_true]
theorem w4(h:Tb c T){r:List V}(a:At T t (.tup (.int 1::r))):ph (n+2) 653 [.host,.int t] T=B' (.int 11,T):=by
 refine x12 B8 λl e hl=>?_
 rw[jY,fY,e]
 simp only[aaa]
 rw[cH () (by simp only[List.length_cons];exact Ie hl rfl),aaa]
 simp only[dv,dw]
 rw[dy _ _ _ _ _ rfl rfl,cF h a]
 have s0:cv 2 T (.tup (.int 1::r)) (.int 0)=B' (.int 1):=rfl
 simp only[aaa,s0,ceq]
 kernel_rfl
theorem w5(h:Tb c T)(a:At T t (.tup [.int 9,.int 2,.tup []])):ph (n+2) 653 [.host,.int t] T=B' (.int 27,T):=by
 have e:kU (.int 40)=B' ([.int 0,.int 1]++(List.range 38).map λ(k:Nat)=>V.int (k+2:Nat)):=by rfl
 have a27:At T 27 yJ:=cJ h 27 _ (by kernel_rfl)
 rw[jY,fY,e]
 simp only[aaa,List.cons_append,List.nil_append]
 rw[cH () (by decide),aaa]
 simp only[dv,dw]
 rw[dy _ _ _ _ _ rfl rfl,cF h a]
 have step:∀k:Kn,(∀G,G=[.pl .tab,.pl (.int 27),.pl (.int 0),.pl (.tup [.int 9,.int 2,.tup []])]->k G T=B' (.int 27,T))->True:=λO O=>ao
 refine Eq.trans (b:=(eA n (.int 1) [.pl .tab,.pl (.int 27),.pl (.int 0),.pl (.tup [.int 9,.int 2,.tup []])] T λG T=>cG (eA n) ((List.range 38).map λ(k:Nat)=>V.int (k+2:Nat)) G T (iN n))) (by kernel_rfl) ?_
 rw[dy _ _ _ _ _ rfl rfl,cF h a27]
 kernel_rfl
noncomputable def names4:List String:=["k","p","q","7"]
theorem j4{P:String->Prop}{a:List String}(h:me P a):∀p∈a,P p:=h.get
noncomputable def y5(a b:List String):List (String×String):=a.flatMap λx=>b.map λy=>(x,y)
theorem gW{f g:String->String->β}{a b:List String}(h:(y5 a b).map (λx=>f x.1 x.2)=(y5 a b).map λx=>g x.1 x.2):∀p∈a,∀q∈b,f p q=g p q:=λp hp q hq=>cE h (p,q) (List.mem_flatMap.mpr ⟨p,hp,aJ.mpr ⟨q,hq,rfl⟩⟩)
theorem Hw(T:TS):∀p∈["k","p"],∀q∈names4,cu T .Eq (sv p) (sv q)=B' (p==q):=by
 exact gW (by kernel_rfl)
theorem Bb(T:TS):∀q∈names4,ph (n+2) 712 [sv q] T=B' (.bool (q=="7"),T):=by
 exact cE (by kernel_rfl)
structure eZ.Ok (S:eZ):Prop where
 names:∀p∈S.props,p.1∈["k","p"]
 few:S.props.length<=2
noncomputable def eZ.find(S:eZ)(name:String):Option (String×Int×Int):=S.props.find? λp=>p.1==name
noncomputable def rB:Option (String×Int×Int)->V
 |none=>.none
 |some p=>i5 p
theorem pZ(T:TS){q:String}(hq:q∈names4)(row:V):∀(l:List (String×Int×Int))(s:Sl),s.aae=false->(∀p∈l,p.1∈["k","p"])->cG (fu n) (l.map i5) [.pl row,.pl (sv q),s] T (gA n)=B' (rB (l.find? λp=>p.1==q),T)
 |[],s,hs,_=>lu _ _ _ _ hs _
 |p::l,s,hs,hl=>by
  show fu n (i5 p) _ T _=_;rw[lq _ _ _ _ _ hs];have s0:cv 2 T (i5 p) (.int 0)=B' (sv p.1):=rfl;simp only[aaa,s0,Hw T p.1 (hl p (af ..)) q hq,List.find?_cons];cases p.1==q
  .exact pZ T hq row l _ rfl λx m=>hl x (ag _ m)
  .rfl
theorem tf(T:TS){S:eZ}(hS:S.Ok){q:String}(hq:q∈names4):ph (n+1) 700 [mf S,sv q] T=B' (rB (S.find q),T):=by
 have s1:cv 2 T (mf S) (.int 1)=B' (.tup (S.props.map i5)):=rfl
 have e1:cy (.tup (S.props.map i5))=B' (S.props.map i5):=rfl
 have:=hS.few
 rw[qY,s1]
 simp only[aaa,e1]
 rw[cH () (by rw[ae];exact O1 this rfl),aaa]
 exact pZ n T hq _ _ _ rfl hS.names
end
structure Pt (T:TS) (t:Int) (S:eZ):Prop where
 row:∃k KJ,At T t (.tup (.int k::KJ))/\k≠6/\k≠11/\k≠12
 shape:∃q,At T q (mf S)/\∀n,ph (n+2) 653 [.host,.int t] T=B' (.int q,T)
 ok:S.Ok
section
variable (n:Nat)
theorem s0(T:TS)(k:Int)(r:List V):cv 2 T (.tup (.int k::r)) (.int 0)=B' (.int k):=rfl
theorem j5(h:Tb c T){S:eZ}(p:Pt T t S){q:String}(hq:q∈names4):ph (n+4) 719 [.host,.int t,sv q] T=B' (rB (S.find q),T):=by
 obtain⟨k,KJ,a,k6,UH,UC⟩:=p.row
 obtain⟨u,au,e⟩:=p.shape
 rw[sS]
 simp only[eU,aaa,cF h a,s0,ceq,UH,UC,aH,cond_false,aav,e (n+1),cF h au,tf (n+2) T p.ok hq]
theorem FN(T:TS)(o:Option Int):cu T .Eq (DM o) (.tup [])=B' o.isNone:=by
 induction o using Option.casesOn<;>rfl
theorem FP(T:TS)(o:Option Int):cu T .NotEq (DM o) (.tup [])=B' (!o.isNone):=by
 show(cu T .Eq (DM o) (.tup [])).map (!·)=_
 rw[FN];rfl
noncomputable def iT(S:eZ)(q:String):Int:=match(if q="7" then S.ni else F'),S.si with
 |some t,_=>t
 |none,B' t=>t
 |none,F'=>-1
theorem iC(h:Tb c T){S:eZ}(p:Pt T t S){q:String}(hq:q∈names4):ph (n+4) 738 [.host,.int t,sv q] T=B' (.int (iT S q),T):=by
 obtain⟨k,KJ,a,k6,UH,UC⟩:=p.row
 obtain⟨u,au,e⟩:=p.shape
 rw[oR]
 simp only[aaa,cF h a,s0,ceq,UH,UC,aH,cond_false,aav,e (n+1),cF h au,Bb (n+1) T q hq,cL]
 have s4:cv 2 T (mf S) (.int 4)=B' (DM S.si):=rfl
 have s5:cv 2 T (mf S) (.int 5)=B' (DM S.ni):=rfl
 simp only[s4,s5,aaa,FN,FP,aav]
 unfold iT
 clear s4 s5 e au p
 obtain⟨pr,ca,si,ni⟩:=S
 by_cases q7:q="7"
 ·(refine sb (aT.mpr q7) ?_;refine sb (aZ q7) ?_);induction ni using Option.casesOn<;>induction si using Option.casesOn<;>kernel_rfl
 ·(refine sb (aR.mpr q7) ?_;refine sb (aL q7) ?_);induction si using Option.casesOn<;>kernel_rfl
end
noncomputable def TG:List Int:=[16,18,19,17,20,9,8,12,5,4,21,22,23,6,7,24,25,26,10,11]
theorem DN:∀o∈TG,∀q∈aad o,q∈BP:=by decide
theorem n7:∀o∈TG,(aad o).length<=3/\aad o≠[]:=by decide
theorem y6:∀o∈TG,o∈OT\/o∈([10,11]:List Int):=by decide
noncomputable def abG(t:Int):List Int:=aaB whB (dd (aad t++[4]) [])
noncomputable def DO(T:TS)(z:Int)(l:List Int):Prop:=(z=1/\l=[1])\/(PA T z l/\(∀p∈l,p∈BP)/\l≠[]/\l.length<=4)
noncomputable def tM(t f:Int):List Int:=if t=1 then [1] else if f=1 then abG t else aad t
theorem Bc:∀o∈TG,(∀p∈abG o,p∈BP)/\abG o≠[]/\(abG o).length<=4:=by decide
section
variable (n:Nat)
theorem DP(h:Tb c T):∀o∈TG,PA T o (aad o):=λo m=>by
 rcases y6 o m with q|q
 .exact AX h o q
 .have key:∀o∈([10,11]:List Int),o∈BP/\aad o=[o]:=by decide
  refine sb ((key o q).2) ?_;exact PA.base h (key o q).1
theorem Bd(h:Tb c T):ph (n+4) 273 [.tab,.int 1] T=B' (.int 1,T):=by
 refine ox h.eta λX b d e KC=>?_;subst KC
 kernel_rfl
theorem Be(h:Tb (c+1) T)(ht:t∈TG):∃z T',ph (n+4) 273 [.tab,.int t] T=B' (.int z,T')/\Tb c T'/\Ex T T'/\PA T' z (abG t):=by
 have hl:=n7 t ht
 have hB:∀p∈[(t,aad t),(4,[4])].flatMap (·.2),p∈BP:=λp m=>by
  simp only[bG,List.flatMap_nil,bf,aD,List.not_mem_nil,or_false] at m;rcases m with m|rfl
  .exact DN t ht p m
  .decide
 refine lH (kI n h (.tup [.int t,.int 4]) [(t,aad t),(4,[4])] rfl (λz m=>by
  simp only[aD,List.not_mem_nil,or_false] at m
  rcases m with rfl|rfl
  .exact DP h t ht
  .exact PA.base h (by decide)) (by simp [bG];exact HX hl.1 rfl) (by simp) hB) λz T' e t' x p O=>?_
 refine(fy z T' (by rw[qV];exact e) t' x ?_)
 have:[(t,aad t),(4,[4])].flatMap (·.2)=aad t++[4]:=by simp [bG]
 rw[this] at p
 exact p
theorem B9:∀f∈([0,1,2]:List Int),cI .BitAnd (.int f) (.int 1)=B' (.int (if f=1 then 1 else 0)):=by
 exact cE (by kernel_rfl)
theorem th(h:Tb (c+1) T){x:String}{f:Int}(ht:t∈TG\/t=1)(hf:f∈([0,1,2]:List Int)):∃z T',ph (n+5) 726 [.tab,i5 (x,t,f)] T=B' (.int z,T')/\Tb c T'/\Ex T T'/\DO T' z (tM t f):=by
 have s1:cv 2 T (i5 (x,t,f)) (.int 1)=B' (.int t):=rfl
 have s2:cv 2 T (i5 (x,t,f)) (.int 2)=B' (.int f):=rfl
 rw[qZ]
 simp only[s1,s2,aaa,B9 f hf]
 by_cases f1:f=1
 .clear hf s1 s2;subst f1;simp only[bJ];show ∃z T',ph (n+4) 273 [.tab,.int t] T=B' (.int z,T')/\Tb c T'/\Ex T T'/\DO T' z (tM t 1);by_cases t1:t=1
  .subst t1;exact(fy 1 T (Bd n h) (h.less (bm _)) (.rfl) (.inl ⟨rfl,by simp [tM]⟩))
  .have Om:=ht.resolve_right t1;refine x24 (Be n h Om) λz T' e t' x' p=>?_;have ok:=Bc t Om;exact(fy z T' e t' x' (.inr (by refine sb (show tM t 1=abG t by unfold tM;refine sb (aL t1) ?_;rfl) ?_;exact⟨p,ok⟩)))
 .simp only[f1,bg];refine(fy t T rfl (h.less (bm _)) (.rfl) ?_);by_cases t1:t=1
  .exact .inl ⟨t1,by simp [tM,t1]⟩
  .have Om:=ht.resolve_right t1;refine .inr ?_;refine sb (show tM t f=aad t by unfold tM;rw[aL t1,aL f1]) ?_;exact(ml (DP h t Om) (DN t Om) ((n7 t Om).2) (by have:=(n7 t Om).1;exact O1 this rfl))
end
structure eZ.Tg (S:eZ):Prop where
 props:∀p∈S.props,(p.2.1∈TG\/p.2.1=1)/\p.2.2∈([0,1,2]:List Int)
 si:∀t,S.si=B' t->t∈TG\/t=1
 ni:∀t,S.ni=B' t->t∈TG\/t=1
structure Pm (T:TS) (t:Int) (S:eZ):Prop where
 pt:Pt T t S
 tg:S.Tg
 ne:t≠0/\t≠1/\t≠2/\t≠10/\t≠13
 fam:∃f,f∉([4,5,6]:List Int)/\∀n,ph (n+3) 325 [.tab,.int t] T=B' (.int f,T)
theorem Pt.pa{S:eZ}(p:Pt T t S)(h:t≠2):PA T t [t]:=by
 refine x23 p.row λk KJ a k6 O=>?_
 exact .inr (.inr ⟨h,rfl,k,KJ,k6,a⟩)
noncomputable def eZ.rd(S:eZ)(q:String):Option (List Int):=match S.find q with
 |some p=>B' (tM p.2.1 p.2.2)
 |none=>if iT S q=-1 then F' else B' (tM (iT S q) 0)
noncomputable def Ca(T:TS)(z:Int)(o:Option (List Int)):Prop:=match o with
 |none=>z=-1
 |some l=>z≠-1/\DO T z l
section
variable (n:Nat)
theorem gX(h:Tb c T){k:Int}{r:List V}(a:At T t (.tup (.int k::r))):ph (n+1) 172 [.tab,.int t] T=B' (.int k,T):=by
 rw[ur]
 simp only[cF h a,aaa,s0]
theorem DO.ne(h:Tb c T){l:List Int}(r:DO T z l):z≠-1:=by
 rcases r with⟨a,_⟩|⟨p,b,ne,_⟩
 .exact GF a rfl
 .rcases p with⟨a,_⟩|⟨_,_,a⟩|⟨_,a,_⟩
  .exact GF a rfl
  .have:=a.1;exact BC this rfl
  .have:=kH z (b z (by rw[a];exact am.mpr rfl));exact BC this.1 rfl
theorem ti(h:Tb (c+1) T){S:eZ}(p:Pm T t S){q:String}(hq:q∈names4):∃z T',ph (n+6) 750 [.host,.int t,sv q] T=B' (.int z,T')/\Tb c T'/\Ex T T'/\Ca T' z (S.rd q):=by
 refine x24 p.pt.row λk KJ a k6 UH UC=>?_
 rw[q9]
 simp only[eU,aaa,ceq,p.ne.1,p.ne.2.2.2.2,aH,cond_false,aav,gX (n+4) h a,k6,j5 (n+1) h p.pt hq]
 unfold eZ.rd
 cases hf:S.find q with
 |some x=>
  have hx:x∈S.props:=List.mem_of_find?_eq_some hf;have e:cu T .IsNot (rB (B' x)) .none=B' true:=rfl;simp only[e,aaa,cond_true];obtain⟨y,u,f⟩:=x;refine x24 (th n h (x:=y) (p.tg.props _ hx).1 (p.tg.props _ hx).2) λz T' e t' x' r=>?_;exact(zI z T' e t' x' (r.ne t') r)
 |none=>
  have e:cu T .IsNot (rB F') .none=B' false:=rfl;simp only[e,aaa,cond_false,iC (n+1) h p.pt hq];refine(fy (iT S q) T rfl (h.less (bm _)) (.rfl) ?_);have YY:iT S q=-1\/iT S q∈TG\/iT S q=1:=by
   have h1:=p.tg.si;have h2:=p.tg.ni;obtain⟨pr,ca,si,ni⟩:=S;unfold iT;by_cases q7:q="7"
   .simp only[aZ q7];induction ni using Option.casesOn with
    |some t=>exact .inr (h2 t rfl)
    |none=>clear p hf h2;induction si using Option.casesOn with
     |some t=>exact .inr (h1 t rfl)
     |none=>exact .inl rfl
   .simp only[aL q7];clear p hf h2;induction si using Option.casesOn with
    |some t=>exact .inr (h1 t rfl)
    |none=>exact .inl rfl
  by_cases m1:iT S q=-1
  .refine sb (aZ m1) ?_;exact m1
  .refine sb (aL m1) ?_;refine⟨m1,?_⟩;by_cases t1:iT S q=1
   .exact .inl ⟨t1,by simp [tM,t1]⟩
   .have Om:=(YY.resolve_left m1).resolve_right t1;refine .inr ?_;refine sb (show tM (iT S q) 0=aad (iT S q) by unfold tM;rw[aL t1,aL (by decide)]) ?_;exact(ml (DP h _ Om) (DN _ Om) ((n7 _ Om).2) (by have:=(n7 _ Om).1;exact O1 this rfl))
theorem w8(h:Tb c T){S:eZ}(p:Pm T t S):ph (n+4) 771 [.tab,.int t] T=B' (.bool false,T):=by
 refine x12 p.fam λf hf ef=>?_
 have e1:fZ "len" [it [t]] T=B' (.int 1):=rfl
 have e2:cy (it [t])=B' [.int t]:=rfl
 have e3:fit [V.int t].length ()=B' ():=rfl
 have Ru:=nR T f [4,5,6]
 rw[show it [4,5,6]=V.tup [.int 4,.int 5,.int 6] from rfl,aj hf] at Ru
 have d:decide ((0:Int)<1)=true:=rfl
 rw[j0,cB (n+2) h (p.pt.pa p.ne.2.2.1)]
 simp only[aaa,e1,Ds,d,cL,cond_true,e2,e3,mq,fk,ef n,Ru]
 kernel_rfl
theorem tj(h:Tb (c+1) T){S:eZ}(p:Pm T t S){q:String}(hq:q∈names4):∃z T',ph (n+7) 901 [.host,.int t,sv q] T=B' (.int z,T')/\Tb c T'/\Ex T T'/\Ca T' z (S.rd q):=by
 rw[i4]
 simp only[ceq,aaa,p.ne.2.1,p.ne.2.2.2.1,aH,cond_false,aav,w8 (n+2) h p,cL]
 exact ti n h p hq
theorem tl(T:TS)(ht:t=1\/t=10)(q:V):ph (n+1) 901 [.host,.int t,q] T=B' (.int (-1),T):=by
 rcases ht with rfl|rfl<;>kernel_rfl
theorem uA(h:Tb c T)(ht:t∈([4,5]:List Int))(q:V):ph (n+7) 901 [.host,.int t,q] T=B' (.int 4,T):=by
 have key:∀t∈([4,5]:List Int),t∈OT/\t≠1/\t≠10/\(aad t).all eI=true:=by decide
 refine EJ (key t ht) λa b d e=>?_
 rw[i4]
 simp only[ceq,aaa,b,d,aH,cond_false,aav,yY (n+1) h a,e,cL,cond_true]
end
noncomputable def SJ:eZ:=⟨[("k",16,0)],[],F',F'⟩
noncomputable def SE:eZ:=⟨[],[],F',F'⟩
noncomputable def w9:List V:=[.int 9,.int 2,.tup []]
inductive Pd (T:TS):Int->eZ->Prop
 |obj {t:Int} {S:eZ}:At T t (mf S)->S.Ok->S.Tg->Pd T t S
 |ref {t:Int}:At T t (.tup w9)->Pd T t SJ
 |str:Pd T 6 SE
theorem Pd.mono{S:eZ}(p:Pd T t S)(e:Ex T T'):Pd T' t S:=by
 induction p using Pd.casesOn with
 |obj a b c=>exact .obj (a.mono e) b c
 |ref a=>exact .ref (a.mono e)
 |str=>exact .str
section
variable (n:Nat)
theorem gm(h:Tb c T){k:Int}{r:List V}(a:At T t (.tup (.int k::r)))(hk:k=8\/k=9):ph (n+1) 325 [.tab,.int t] T=B' (.int 7,T):=by
 rw[pO]
 rcases hk with rfl|rfl<;>simp only[cF h a,aaa,s0,ceq]<;>kernel_rfl
theorem y7(h:Tb c T){k:Int}{r:List V}(a:At T t (.tup (.int k::r)))(hk:k=8\/k=9):t≠0/\t≠1/\t≠2/\t≠10/\t≠13:=by
 have key:∀(i:Nat)(r':List V),T2.rows[i]? =B' (.tup (.int 1::r'))->t≠(i:Nat):=by
  intro i r' e q;subst q;have:=a.row (cJ h i _ e);injection this with this;injection this with this _;injection this with this;omega
 exact⟨key 0 [sv "any"] (by kernel_rfl),key 1 [sv "unknown"] (by kernel_rfl),key 2 [sv "never"] (by kernel_rfl),key 10 [sv "object"] (by kernel_rfl),key 13 [sv "error"] (by kernel_rfl)⟩
theorem Pd.pm(h:Tb c T){S:eZ}(p:Pd T t S):Pm T t S:=by
 cases p with
 |obj a b d=>exact⟨⟨(fy 8 _ a (by decide) (by decide) (by decide)),⟨t,a,λn=>w3 n h a⟩,b⟩,d,y7 h a (.inl rfl),7,by decide,λn=>gm (n+2) h a (.inl rfl)⟩
 |ref a=>
  refine⟨⟨(fy 9 _ a (by decide) (by decide) (by decide)),⟨27,cJ h 27 _ (by kernel_rfl),λn=>w5 n h a⟩,⟨by simp [SJ],by simp [SJ]⟩⟩,⟨?_,?_,?_⟩,y7 h a (.inr rfl),7,by decide,λn=>gm (n+2) h a (.inr rfl)⟩
  .intro p m;refine sb (show p=("k",16,0) from am.mp m) ?_;exact⟨.inl (by decide),by decide⟩
  .intro t e;cases e
  .intro t e;cases e
 |str=>
  have a6:At T 6 (.tup [.int 1,sv "string"]):=cJ h 6 _ (by kernel_rfl);refine⟨⟨(fy 1 _ a6 (by decide) (by decide) (by decide)),⟨11,cJ h 11 _ (by kernel_rfl),λn=>w4 n h a6⟩,⟨by simp [SE],by simp [SE]⟩⟩,⟨?_,?_,?_⟩,by decide,1,by decide,λn=>aaN n h 6 (by decide)⟩
  .intro p m;cases m
  .intro t e;cases e
  .intro t e;cases e
end
theorem tm(f:V->TS->Option (Option V×TS))(T:TS)(g r:α->V)(keep:α->Bool):∀l:List α,(∀p∈l,f (g p) T=B' (bif keep p then B' (r p) else F',T))->cC f (l.map g) T=B' ((l.filter keep).map r,T)
 |[],_=>rfl
 |p::l,h=>by
  rw[aC];rw[fk];rw[h p (af ..),aaa,tm f T g r keep l λx m=>h x (ag _ m),aaa,bT];cases keep p<;>rfl
theorem uB(ts ws:List Int)(h:ts.length=ws.length):((List.range ts.length).filter λk=>ws.getD k 0 !=2).map (λk=>ts.getD k 0)=((ts.zip ws).filter λp=>p.2 !=2).map (·.1):=by
 induction ts generalizing ws with
 |nil=>rfl
 |cons t ts ih=>
  induction ws using List.casesOn with
  |nil=>cases h
  |cons w ws=>
   simp only[List.length_cons,Nat.add_right_cancel_iff] at h;have:=ih ws h;(refine sb List.length_cons ?_;refine sb List.range_succ_eq_map ?_;refine sb List.zip_cons_cons ?_;refine sb bT ?_;refine sb bT ?_;refine sb List.filter_map ?_);have e:((λk=>(w::ws).getD k 0 !=2)∘Nat.succ)=λk=>ws.getD k 0 !=2:=by funext k;simp
   refine sb e ?_;by_cases q:w=2
   .simp only[q,List.getD_cons_zero,bne_self_eq_false,bY,bg,bw];rw[<- this];congr 1
   .have:(w !=2)=true:=by simpa using q
    simp only[List.getD_cons_zero,this,bJ,aC,bw];rw[<- ih ws h];congr 1
noncomputable def cx(b:Bool)(v:V):Sl:=bif b then .pl v else .un
noncomputable def oy(b:Bool)(v:V):Sl:=bif b then .pl v else .ow v
noncomputable def mD(n:Nat):V->List Sl->TS->Kn->cK:=ff n 29 991 "i" [(12,0)]
noncomputable def vJ(n:Nat)(k:Kn):Kn:=kk n 29 991 [(12,0)] 1 k
noncomputable def mE(n:Nat):Kn:=kk n 30 991 [] 13 ke
noncomputable def vK(n:Nat):Kn:=kk n 29 991 [(13,0)] 1 (kk n 30 991 [] 14 ke)
noncomputable def iD(n:Nat):V->List Sl->TS->Kn->cK:=ff n 29 991 "i" [(16,0)]
noncomputable def rC(n:Nat)(k:Kn):Kn:=kk n 29 991 [(16,0)] 3 k
noncomputable def i6(n:Nat)(k:Kn):Kn:=kk n 29 991 [(16,0)] 4 k
noncomputable def ji(n:Nat):Kn:=kk n 30 991 [] 17 ke
noncomputable def kK(n:Nat):Kn:=kk n 30 991 [] 18 ke
noncomputable def vL(n:Nat):Kn:=kk n 30 991 [] 21 ke
noncomputable def vM(n:Nat):Kn:=kk n 30 991 [] 15 ke
theorem uC(n:Nat)(A B C D E F H I J L:V)(T:TS)(k:Kn):vJ n k [.un,.pl A,.pl B,.pl .tab,.pl .host,.pl .decl,.pl C,.pl D,.ow E,.ow F,.pl H,.pl I,.pl J,.pl L,.un,.un,.un,.un,.un,.un,.un,.un,.un,.un,.un,.un] T=(C' (hZ E I (.tup [J,L])) λc1=>(C' (eW F I) λc2=>k [.un,.pl A,.pl B,.pl .tab,.pl .host,.pl .decl,.pl C,.pl D,.ow c1,.ow c2,.pl H,.pl I,.pl J,.pl L,.un,.un,.un,.un,.un,.un,.un,.un,.un,.un,.un,.un] T)):=by kernel_rfl
theorem uD(n:Nat)(v:V)(A B C D E F H I J L:V)(b0 b1:Bool)(T:TS)(k:Kn):mD n v [.un,.pl A,.pl B,.pl .tab,.pl .host,.pl .decl,.pl C,.pl D,.ow E,.ow F,(cx b0 H),(cx b1 I),(cx b1 J),(cx b1 L),.un,.un,.un,.un,.un,.un,.un,.un,.un,.un,.un,.un] T k=(C' (C' (C' (C' (C' (C' (C' (C' (C' (cI .Add (.int 1) v) λz=>B' (z,T)) λKM=>B' ([KM.1],KM.2)) λNY=>B' (B::NY.1,NY.2)) λKT=>ph n 938 KT.1 KT.2) λK2=>B' ([K2.1],K2.2)) λMK=>B' (C::MK.1,MK.2)) λM4=>B' (.tab::M4.1,M4.2)) λLd=>ph n 959 Ld.1 Ld.2) λL7=>(C' (iG L7.1) λvs=>C' (eN (aal (fnAt 991)) [Str.ofString "t",Str.ofString "what",Str.ofString "reads"] vs [.un,.pl A,.pl B,.pl .tab,.pl .host,.pl .decl,.pl C,.pl D,.ow E,.ow F,.pl v,(cx b1 I),(cx b1 J),(cx b1 L),.un,.un,.un,.un,.un,.un,.un,.un,.un,.un,.un,.un]) λG=>(vJ n k) G L7.2)):=by kernel_rfl
theorem n8(n:Nat)(A B C D E F H I J L M N P Q R W X Y Z A1:V)(bp b1 b2:Bool)(T:TS)(k:Kn):rC n k [.un,.pl A,.pl B,.pl .tab,.pl .host,.pl .decl,.pl C,.pl D,.ow E,(oy bp F),.pl H,(cx b1 I),(cx b1 J),(cx b1 L),.pl M,.pl N,.pl P,.pl Q,.pl Z,.pl A1,(cx b2 R),(cx b2 W),(cx b2 X),(cx b2 Y),.un,.un] T=(C' (C' (C' (cI .Mod P (.int 5)) λz=>B' (z,T)) λPu=>(C' (cu Pu.2 .Eq Pu.1 (.int 4)) λRf=>B' (Rf,Pu.2))) λp1=>bif p1.1 then(C' (ph n 921 [.host,M,Q,(.bool true)] p1.2) λp2=>(C' (ph n 921 [.host,M,Q,(.bool false)] p2.2) λp3=>i6 n k [.un,.pl A,.pl B,.pl .tab,.pl .host,.pl .decl,.pl C,.pl D,.ow E,(oy bp F),.pl H,(cx b1 I),(cx b1 J),(cx b1 L),.pl M,.pl N,.pl P,.pl Q,.pl Z,.pl A1,.pl p2.1,.pl p3.1,.pl (.lst [(.int 3),(.int 5),(.int 6),(.int 8),(.int 9)]),.pl (.lst [(.int 0),(.int 1),(.int 2),(.int 4),(.int 7)]),.un,.un] p3.2)) else(C' (ph n 916 [.host,M,Q,Z,(.bool true)] p1.2) λLz=>(C' (ph n 916 [.host,M,Q,Z,(.bool false)] Lz.2) λLd=>(C' (C' (cI .Add (.lst [(.int 3),(.int 5),(.int 6),(.int 8),(.int 9)]) (.lst [(.int 0),(.int 1),(.int 2),(.int 4),(.int 7)])) λz=>B' (z,Ld.2)) λL7=>(C' (C' (C' (fZ "len" [A1] L7.2) λv=>B' (v,L7.2)) λNA=>(C' (cu NA.2 .Eq NA.1 (.int 1)) λYO=>B' (YO,NA.2))) λK0=>bif K0.1 then(C' (C' (C' (cy L7.1) λl=>B' (l,K0.2)) λK9=>C' (fit K9.1.length ()) λ_=>C' (cC (λTr Tq=>(C' (C' (C' (C' (cv 2 Tq A1 (.int 0)) λz=>B' (z,Tq)) λLj=>(C' (cu Lj.2 .NotEq Tr Lj.1) λN8=>B' (N8,Lj.2))) λLr=>bif Lr.1 then B' (true,Lr.2) else B' (false,Lr.2)) λRK=>bif RK.1 then(C' (B' (Tr,RK.2)) λXD=>B' (B' XD.1,XD.2)) else B' (F',RK.2))) K9.1 K9.2) λOB=>B' (V.lst OB.1,OB.2)) λMu=>i6 n k [.un,.pl A,.pl B,.pl .tab,.pl .host,.pl .decl,.pl C,.pl D,.ow E,(oy bp F),.pl H,(cx b1 I),(cx b1 J),(cx b1 L),.pl M,.pl N,.pl P,.pl Q,.pl Z,.pl A1,.pl Lz.1,.pl Ld.1,.pl A1,.pl Mu.1,.un,.un] Mu.2) else i6 n k [.un,.pl A,.pl B,.pl .tab,.pl .host,.pl .decl,.pl C,.pl D,.ow E,(oy bp F),.pl H,(cx b1 I),(cx b1 J),(cx b1 L),.pl M,.pl N,.pl P,.pl Q,.pl Z,.pl A1,.pl Lz.1,.pl Ld.1,.pl A1,.pl L7.1,.un,.un] K0.2))))):=by kernel_rfl
theorem tn(n:Nat)(A B C D E F H I J L M N P Q R W X Y Z A1:V)(bp b1:Bool)(T:TS)(k:Kn):i6 n k [.un,.pl A,.pl B,.pl .tab,.pl .host,.pl .decl,.pl C,.pl D,.ow E,(oy bp F),.pl H,(cx b1 I),(cx b1 J),(cx b1 L),.pl M,.pl N,.pl P,.pl Q,.pl Z,.pl A1,.pl R,.pl W,.pl X,.pl Y,.un,.un] T=(C' (C' (C' (ph n 981 [.tab,E,M,R,Q,X] T) λK5=>(C' (cw K5.1) λb=>B' (b,K5.2))) λK2=>B' (!K2.1,K2.2)) λp4=>bif p4.1 then B' ((.bool false),p4.2) else(C' (C' (C' (ph n 981 [.tab,E,M,W,Q,Y] p4.2) λKT=>(C' (cw KT.1) λb=>B' (b,KT.2))) λKS=>B' (!KS.1,KS.2)) λp5=>bif p5.1 then B' ((.bool false),p5.2) else(C' (C' (C' (C' (C' (cI .FloorDiv P (.int 3)) λz=>B' (z,p5.2)) λp7=>(C' (cI .Mod p7.1 (.int 2)) λz=>B' (z,p7.2))) λp8=>(C' (cu p8.2 .Eq p8.1 (.int 0)) λb9=>B' (b9,p8.2))) λp6=>bif p6.1 then B' (R,p6.2) else B' (W,p6.2)) λKM=>k [.un,.pl A,.pl B,.pl .tab,.pl .host,.pl .decl,.pl C,.pl D,.ow E,(oy bp F),.pl H,(cx b1 I),(cx b1 J),(cx b1 L),.pl KM.1,.pl N,.pl P,.pl Q,.pl Z,.pl A1,.pl R,.pl W,.pl X,.pl Y,.un,.un] KM.2))):=by kernel_rfl
theorem uE(n:Nat)(v:V)(A B C D E F H I J L M N P Q R W X Y Z A1:V)(bp b0 b1 b2:Bool)(T:TS)(k:Kn):iD n v [.un,.pl A,.pl B,.pl .tab,.pl .host,.pl .decl,.pl C,.pl D,.ow E,(oy bp F),(cx b0 H),(cx b1 I),(cx b1 J),(cx b1 L),.pl M,.pl N,(cx b2 P),(cx b2 Q),(cx b2 R),(cx b2 W),(cx b2 X),(cx b2 Y),(cx b2 Z),(cx b2 A1),.un,.un] T k=(C' (C' (C' (C' (C' (cI .Add N v) λz=>B' (z,T)) λp1=>B' ([p1.1],p1.2)) λq2=>B' (B::q2.1,q2.2)) λp3=>ph n 938 p3.1 p3.2) λp4=>(C' (C' (ph n 931 [] p4.2) λp5=>(C' (C' (cI .Mod p4.1 (.int 8)) λz=>B' (z,p5.2)) λp6=>(C' (cv 2 p6.2 p5.1 p6.1) λz=>B' (z,p6.2)))) λp7=>(C' (C' (C' (C' (cI .FloorDiv p4.1 (.int 8)) λz=>B' (z,p7.2)) λp8=>(C' (cI .Mod p8.1 (.int 18)) λz=>B' (z,p8.2))) λp9=>(C' (cv 2 p9.2 C p9.1) λz=>B' (z,p9.2))) λKM=>(C' (iG KM.1) λvs=>C' (eN (aal (fnAt 991)) [Str.ofString "tag",Str.ofString "values"] vs [.un,.pl A,.pl B,.pl .tab,.pl .host,.pl .decl,.pl C,.pl D,.ow E,(oy bp F),.pl v,(cx b1 I),(cx b1 J),(cx b1 L),.pl M,.pl N,.pl p4.1,.pl p7.1,(cx b2 R),(cx b2 W),(cx b2 X),(cx b2 Y),(cx b2 Z),(cx b2 A1),.un,.un]) λG=>(rC n k) G KM.2)))):=by kernel_rfl
theorem uF(n:Nat)(A B C D E F H I J L M N P Q R W X Y Z A1 A2 A3:V)(bp b0 b1 b2 b3:Bool)(T:TS):vL n [.un,.pl A,.pl B,.pl .tab,.pl .host,.pl .decl,.pl C,.pl D,.pl E,(oy bp F),(cx b0 H),(cx b1 I),(cx b1 J),(cx b1 L),.pl M,.pl N,(cx b2 P),.pl Q,(cx b2 R),(cx b2 W),(cx b2 X),(cx b2 Y),(cx b2 Z),(cx b2 A1),(cx b3 A2),.pl A3] T=(C' (C' (C' (ph n 894 [.host,M,Q,(.bool false)] T) λp1=>B' ([p1.1,A3],p1.2)) λq2=>B' (.tab::q2.1,q2.2)) λp3=>ph n 964 p3.1 p3.2):=by kernel_rfl
theorem n9(n:Nat)(A B C D E F H I J L M N P Q R W X Y Z A1:V)(bp b0 b1 b2:Bool)(T:TS):ji n [.un,.pl A,.pl B,.pl .tab,.pl .host,.pl .decl,.pl C,.pl D,.ow E,(oy bp F),(cx b0 H),(cx b1 I),(cx b1 J),(cx b1 L),.pl M,.pl N,(cx b2 P),(cx b2 Q),(cx b2 R),(cx b2 W),(cx b2 X),(cx b2 Y),(cx b2 Z),(cx b2 A1),.un,.un] T=(C' (C' (C' (C' (cI .FloorDiv A (.int 6)) λz=>B' (z,T)) λXf=>(C' (cI .Mod Xf.1 (.int 4)) λz=>B' (z,Xf.2))) λVj=>(C' (cu Vj.2 .Eq Vj.1 (.int 0)) λZE=>B' (ZE,Vj.2))) λp1=>bif p1.1 then(C' (ph n 212 [.tab,(sv "T")] p1.2) λp2=>(C' (hZ E p2.1 (.tup [(sv "open"),(.di [])])) λc3=>(C' (ph n 266 [.tab,(.lst [M,p2.1])] p2.2) λp4=>kK n [.un,.pl A,.pl B,.pl .tab,.pl .host,.pl .decl,.pl C,.pl D,.ow c3,(oy bp F),(cx b0 H),(cx b1 I),(cx b1 J),(cx b1 L),.pl p4.1,.pl N,(cx b2 P),(cx b2 Q),(cx b2 R),(cx b2 W),(cx b2 X),(cx b2 Y),(cx b2 Z),(cx b2 A1),.pl p2.1,.un] p4.2))) else kK n [.un,.pl A,.pl B,.pl .tab,.pl .host,.pl .decl,.pl C,.pl D,.ow E,(oy bp F),(cx b0 H),(cx b1 I),(cx b1 J),(cx b1 L),.pl M,.pl N,(cx b2 P),(cx b2 Q),(cx b2 R),(cx b2 W),(cx b2 X),(cx b2 Y),(cx b2 Z),(cx b2 A1),.un,.un] p1.2):=by kernel_rfl
theorem tq(n:Nat)(A B C D E F H I J L M N P Q R W X Y Z A1 B1:V)(bp b0 b1 b2 b3:Bool)(T:TS):kK n [.un,.pl A,.pl B,.pl .tab,.pl .host,.pl .decl,.pl C,.pl D,.ow E,(oy bp F),(cx b0 H),(cx b1 I),(cx b1 J),(cx b1 L),.pl M,.pl N,(cx b2 P),(cx b2 Q),(cx b2 R),(cx b2 W),(cx b2 X),(cx b2 Y),(cx b2 Z),(cx b2 A1),(cx b3 B1),.un] T=(C' (C' (ph n 931 [] T) λp5=>(C' (C' (C' (C' (C' (C' (cI .Add N (.int 2)) λz=>B' (z,p5.2)) λp6=>B' ([p6.1],p6.2)) λq7=>B' (B::q7.1,q7.2)) λp8=>ph n 938 p8.1 p8.2) λp9=>(C' (cI .Mod p9.1 (.int 8)) λz=>B' (z,p9.2))) λKM=>(C' (cv 2 KM.2 p5.1 KM.1) λz=>B' (z,KM.2)))) λKS=>(C' (C' (C' (C' (C' (C' (ph n 894 [.host,M,KS.1,(.bool true)] KS.2) λMu=>(C' (C' (ph n 986 [.tab,E,M,KS.1] Mu.2) λMZ=>B' ([MZ.1],MZ.2)) λQ1=>B' (Mu.1::Q1.1,Q1.2))) λUo=>B' (.tab::Uo.1,Uo.2)) λN4=>ph n 964 N4.1 N4.2) λMb=>(C' (cw Mb.1) λb=>B' (b,Mb.2))) λMF=>B' (!MF.1,MF.2)) λKT=>bif KT.1 then B' ((.bool false),KT.2) else(C' (C' (C' (ph n 971 [.tab,M] KT.2) λK0=>(C' (cy K0.1) λl=>B' (l,K0.2))) λK2=>C' (fit K2.1.length ()) λ_=>C' (cC (λPG Pz=>(C' (C' (C' (C' (C' (C' (C' (cv 2 Pz E PG) λz=>B' (z,Pz)) λLk=>(C' (cv 2 Lk.2 Lk.1 (.int 1)) λz=>B' (z,Lk.2))) λLe=>jz (gZ 2) (ph n) Le.1 (Str.ofString "get") [KS.1,(.tup [(.lst []),(.int 0)])] Le.2) λLI=>(C' (cv 2 LI.2 LI.1 (.int 1)) λz=>B' (z,LI.2))) λLo=>(C' (cu Lo.2 .Lt Lo.1 (.int 2)) λPP=>B' (PP,Lo.2))) λLp=>bif Lp.1 then B' (true,Lp.2) else B' (false,Lp.2)) λRl=>bif Rl.1 then(C' (B' (PG,Rl.2)) λNP=>B' (B' NP.1,NP.2)) else B' (F',Rl.2))) K2.1 K2.2) λMK=>B' (V.lst MK.1,MK.2)) λLj=>(C' (du (aal (fnAt 991)) (bif V.flat Lj.1 then [.un,.pl A,.pl B,.pl .tab,.pl .host,.pl .decl,.pl C,.pl D,.ow E,(oy bp F),(cx b0 H),(cx b1 I),(cx b1 J),(cx b1 L),.pl M,.pl N,(cx b2 P),.pl KS.1,(cx b2 R),(cx b2 W),(cx b2 X),(cx b2 Y),(cx b2 Z),(cx b2 A1),(cx b3 B1),.un] else [.un,.pl A,.pl B,.pl .tab,.pl .host,.pl .decl,.pl C,.pl D,.pl E,(oy bp F),(cx b0 H),(cx b1 I),(cx b1 J),(cx b1 L),.pl M,.pl N,(cx b2 P),.pl KS.1,(cx b2 R),(cx b2 W),(cx b2 X),(cx b2 Y),(cx b2 Z),(cx b2 A1),(cx b3 B1),.un]) (Str.ofString "left_over") (.pl Lj.1)) λG=>(vL n) G Lj.2)))):=by cases b1<;>kernel_rfl
theorem uG(n:Nat)(A B C D E F H I J L:V)(b0 b1:Bool)(T:TS):vK n [.un,.pl A,.pl B,.pl .tab,.pl .host,.pl .decl,.pl C,.pl D,.ow E,.pl L,(cx b0 F),(cx b1 H),(cx b1 I),(cx b1 J),.un,.un,.un,.un,.un,.un,.un,.un,.un,.un,.un,.un] T=(C' (ph n 266 [.tab,L] T) λp1=>(C' (C' (cI .Add (.int 1) D) λz=>B' (z,p1.2)) λp2=>(C' (C' (kU (.int 2)) λl=>B' (l,p2.2)) λp3=>C' (fit p3.1.length ()) λ_=>cG (iD n) p3.1 [.un,.pl A,.pl B,.pl .tab,.pl .host,.pl .decl,.pl C,.pl D,.ow E,.pl L,(cx b0 F),(cx b1 H),(cx b1 I),(cx b1 J),.pl p1.1,.pl p2.1,.un,.un,.un,.un,.un,.un,.un,.un,.un,.un] p3.2 (ji n)))):=by kernel_rfl
theorem uH(n:Nat)(A B C D E F H I J L M:V)(b0 b1:Bool)(T:TS):vM n [.un,.pl A,.pl B,.pl .tab,.pl .host,.pl .decl,.pl C,.pl D,.ow E,.ow F,(cx b0 H),(cx b1 I),(cx b1 J),(cx b1 L),.pl M,.un,.un,.un,.un,.un,.un,.un,.un,.un,.un,.un] T=(C' (C' (cI .Add (.int 1) D) λz=>B' (z,T)) λp1=>(C' (C' (kU (.int 2)) λl=>B' (l,p1.2)) λp2=>C' (fit p2.1.length ()) λ_=>cG (iD n) p2.1 [.un,.pl A,.pl B,.pl .tab,.pl .host,.pl .decl,.pl C,.pl D,.ow E,.ow F,(cx b0 H),(cx b1 I),(cx b1 J),(cx b1 L),.pl M,.pl p1.1,.un,.un,.un,.un,.un,.un,.un,.un,.un,.un] p2.2 (ji n))):=by kernel_rfl
theorem uI(n:Nat)(A B C D E F H I J L:V)(b0 b1:Bool)(T:TS):mE n [.un,.pl A,.pl B,.pl .tab,.pl .host,.pl .decl,.pl C,.pl D,.ow E,.ow F,(cx b0 H),(cx b1 I),(cx b1 J),(cx b1 L),.un,.un,.un,.un,.un,.un,.un,.un,.un,.un,.un,.un] T=(C' (C' (C' (C' (cI .FloorDiv A (.int 24)) λz=>B' (z,T)) λp9=>(C' (cI .Mod p9.1 (.int 8)) λz=>B' (z,p9.2))) λKM=>(C' (cu KM.2 .Gt KM.1 (.int 5)) λMU=>B' (MU,KM.2))) λp1=>bif p1.1 then(C' (C' (C' (C' (C' (C' (cI .FloorDiv A (.int 24)) λz=>B' (z,p1.2)) λp3=>(C' (cI .Mod p3.1 (.int 2)) λz=>B' (z,p3.2))) λp4=>B' ([p4.1],p4.2)) λp5=>C' (fit p5.1.length (V.lst p5.1)) λv=>B' (v,p5.2)) λp6=>(C' (cI .Add F p6.1) λz=>B' (z,p6.2))) λp7=>(C' (du (aal (fnAt 991)) (bif V.flat p7.1 then [.un,.pl A,.pl B,.pl .tab,.pl .host,.pl .decl,.pl C,.pl D,.ow E,.ow F,(cx b0 H),(cx b1 I),(cx b1 J),(cx b1 L),.un,.un,.un,.un,.un,.un,.un,.un,.un,.un,.un,.un] else [.un,.pl A,.pl B,.pl .tab,.pl .host,.pl .decl,.pl C,.pl D,.ow E,.pl F,(cx b0 H),(cx b1 I),(cx b1 J),(cx b1 L),.un,.un,.un,.un,.un,.un,.un,.un,.un,.un,.un,.un]) (Str.ofString "picks") (.pl p7.1)) λG=>(vK n) G p7.2)) else(C' (ph n 266 [.tab,F] p1.2) λp8=>(C' (du (aal (fnAt 991)) (bif V.flat p8.1 then [.un,.pl A,.pl B,.pl .tab,.pl .host,.pl .decl,.pl C,.pl D,.ow E,.ow F,(cx b0 H),(cx b1 I),(cx b1 J),(cx b1 L),.un,.un,.un,.un,.un,.un,.un,.un,.un,.un,.un,.un] else [.un,.pl A,.pl B,.pl .tab,.pl .host,.pl .decl,.pl C,.pl D,.ow E,.pl F,(cx b0 H),(cx b1 I),(cx b1 J),(cx b1 L),.un,.un,.un,.un,.un,.un,.un,.un,.un,.un,.un,.un]) (Str.ofString "now") (.pl p8.1)) λG=>(vM n) G p8.2))):=by kernel_rfl
theorem Bf(n:Nat)(A B:V)(T:TS):(rc (gZ 2) (ph n) (lW (gZ 2) n) 30).xs (aal (fnAt 991)) [.un,.un,.pl A,.pl .tab,.pl .host,.pl .decl,.pl B,.un,.un,.un,.un,.un,.un,.un,.un,.un,.un,.un,.un,.un,.un,.un,.un,.un,.un,.un] T ((fnAt 991).body.drop 8) (λ_ T=>B' (V.none,T))=(C' (ph n 938 [A,(.int 0)] T) λp1=>(C' (C' (cI .Mod p1.1 (.int 6)) λz=>B' (z,p1.2)) λp2=>(C' (C' (C' (C' (B' ([],p2.2)) λq5=>B' (((.int 1),(.tup [(sv "open"),(.di [])]))::q5.1,q5.2)) λq4=>B' (((.int 0),(.tup [(sv "any"),(.di [])]))::q4.1,q4.2)) λp3=>C' (d7 p3.1) λv=>B' (v,p3.2)) λp6=>(C' (C' (kU p2.1) λl=>B' (l,p6.2)) λp7=>C' (fit p7.1.length ()) λ_=>cG (mD n) p7.1 [.un,.pl p1.1,.pl A,.pl .tab,.pl .host,.pl .decl,.pl B,.pl p2.1,.ow p6.1,.ow (.lst []),.un,.un,.un,.un,.un,.un,.un,.un,.un,.un,.un,.un,.un,.un,.un,.un] p7.2 (mE n))))):=by kernel_rfl
theorem y8(l:List Int)(k:Nat)(h:k<l.length)(hl:l.length<=1000):CD (l.map .int) (k:Int)=B' (.int (l.getD k 0)):=by
 unfold CD
 rw[ak (show(0:Int)<=k by exact P9),ak (show(k:Int)<2^62 by exact Jf h hl rfl)]
 simp only[cond_true,Int.toNat_natCast,bZ,bC h,Option.map_some,List.getD_eq_getElem?_getD,Option.getD_some]
theorem Cb(m:Nat)(h:m<=1000):kU (.int (m:Nat))=B' ((List.range m).map λ(k:Nat)=>V.int k):=by
 show kT (m:Int)=_
 unfold kT
 (refine sb (ak (show(0:Int)<=m by exact P9)) ?_;refine sb (ak (show(m:Int)<=2^20 by exact Je h rfl)) ?_)
 simp only[Bool.and_self,cond_true,Int.toNat_natCast]
theorem DQ(T:TS)(l:List Int):fZ "len" [it l] T=B' (.int (l.length:Nat)):=by
 show B' (V.int ((l.map V.int).length:Nat))=_
 rw[ae]
theorem Kc(T:TS)(a b:Int):cu T .NotEq (.int a) (.int b)=B' (a !=b):=by
 rw[vz]
 by_cases q:a=b
 .subst q;simp
 .have:(a !=b)=true:=by simpa using q
  rw[this,aj q];rfl
section
variable (n:Nat)
theorem Hx(ws:List Int)(hl:ws.length<=1000)(k:Nat)(hk:k<ws.length):cv 2 T (.lst (ws.map .int)) (.int (k:Nat))=B' (.int (ws.getD k 0)):=y8 ws k (by assumption) (O1 hl rfl)
theorem Hy(ws:List Int)(hl:ws.length<=1000)(k:Nat)(hk:k<ws.length):cv 2 T (it ws) (.int (k:Nat))=B' (.int (ws.getD k 0)):=y8 ws k (by assumption) (O1 hl rfl)
theorem DR{W P v:V}{w u:Int}(s1:cv 2 T W v=B' (.int w))(s2:cv 2 T P v=B' (.int u)):(C' ((C' ((C' ((C' (cv 2 T W v) λz=>B' (z,T))) λLW=>(C' (cu LW.2 .NotEq LW.1 (.int 2)) λR2=>B' (R2,LW.2)))) λMz=>bif Mz.1 then B' (true,Mz.2) else B' (false,Mz.2))) λPX=>bif PX.1 then(C' ((C' (cv 2 PX.2 P v) λz=>B' (z,PX.2))) λQK=>B' (B' QK.1,QK.2)) else B' (F',PX.2))=B' (bif(w !=2) then B' (V.int u) else F',T):=by
 rw[s1]
 simp only[aaa,Kc]
 cases (w !=2)<;>simp only[cond_true,cond_false,aaa,s2]
theorem xa(h:Tb c T){ts ws:List Int}(hz:PA T z ts)(hl:ts.length=ws.length)(h1:ws≠[])(h6:ws.length<60):ph (n+2) 911 [.host,.int z,.lst (ws.map .int)] T=ph (n+1) 266 [.tab,.lst ((((ts.zip ws).filter λp=>p.2 !=2).map (·.1)).map .int)] T:=by
 have e0:cw (.lst (ws.map .int))=B' true:=by
  induction ws using List.casesOn with
  |nil=>exact absurd rfl h1
  |cons a l=>rfl
 rw[gS]
 simp only[e0,aaa,bh,cond_false,cB n h hz,DQ,Cb _ (show ts.length<=1000 by exact O8 hl h6 rfl)]
 rw[cH () (by rw[ae,List.length_range];exact O8 hl h6 rfl),aaa,tm _ T (λ(k:Nat)=>V.int k) (λk=>V.int (ts.getD k 0)) (λk=>ws.getD k 0 !=2) (List.range ts.length) (λk m=>by
  have hk:=List.mem_range.mp m
  exact DR (Hx ws (O3 h6 rfl) k (IK hl.symm hk)) (Hy ts (O8 hl h6 rfl) k hk))]
 simp only[aaa]
 rw[show((List.range ts.length).filter λk=>ws.getD k 0 !=2).map (λk=>V.int (ts.getD k 0))=(((List.range ts.length).filter λk=>ws.getD k 0 !=2).map (λk=>ts.getD k 0)).map V.int by rw[bw];rfl,uB ts ws hl]
end
structure Gp (T:TS) (t:Int):Prop where
 ne:0<=t/\t≠2/\t≠13/\t≠14/\t≠15
 row:∃k KJ,k≠6/\At T t (.tup (.int k::KJ))/\∀n,ph (n+1) 233 [.tup (.int k::KJ)] T=B' (.int (-1),T)
 twin:∀n,ph (n+1) 240 [.tab,.int t] T=B' (.int (-1),T)
noncomputable def Gr:Int->Int:=λO=>-1
theorem Gp.pa(g:Gp T t):PA T t [t]:=by
 refine x23 g.row λk KJ k6 a O=>?_
 exact .inr (.inr ⟨g.ne.2.1,rfl,k,KJ,k6,a⟩)
noncomputable def uL(l:List Int):List Int:=if 0∈l then [0] else if 1∈l then [1] else cQ (dd l [])
theorem fv{l:List Int}{x:Int}:x∈dd l []↔x∈l:=by rw[aaP];simp
theorem uJ{l:List Int}{x:Int}(h:x∈uL l):x∈l:=by
 unfold uL at h
 split at h
 .rename_i q;refine sb (am.mp h) ?_;exact q
 .split at h
  .rename_i q;refine sb (am.mp h) ?_;exact q
  .exact fv.mp (dn.mp h)
variable {V0:V}
section
variable (n:Nat)
theorem kL(h:Tb (c+1) T){l:List Int}(hV:cy V0=B' (l.map .int))(hg:∀t∈l,Gp T t)(hl:l.length<64):∃z T',ph (n+3) 266 [.tab,V0] T=B' (.int z,T')/\Tb c T'/\Ex T T'/\PA T' z (uL l):=by
 have hK:∀p∈dd l [],p∈l:=λp m=>fv.mp m
 have m1:(-1:Int)∉dd l []:=λm=>by exact absurd (hg _ (hK _ m)).ne.1 (by decide)
 have Ys:cy V0=B' ((l.map λx=>(x,[x])).map λz=>V.int z.1):=by(refine sb hV ?_;refine sb bw ?_);rfl
 have:=j3 n h V0 (l.map λx=>(x,[x])) Gr Ys (λz m=>by
   refine x12 (aJ.mp m) λx hx KC=>?_;subst KC
   exact(hg x hx).pa) (by rw[jK];exact hl) (by rw[ae];exact O2 hl rfl)
  (by rw[jK];intro m;exact(hg _ (hK _ m)).ne.2.2.2.1 rfl) (by rw[jK];intro m;exact(hg _ (hK _ m)).ne.2.2.2.2 rfl)
  (by
   rw[jK];intro p m
   refine x23 ((hg _ (hK _ m)).row) λk KJ k6 a w=>?_
   exact⟨λn=>⟨-1,(hg _ (hK _ m)).twin n,m1⟩,_,a,w⟩)
  (by
   rw[jK];intro p m
   refine x23 ((hg _ (hK _ m)).row) λk KJ k6 a w=>?_
   exact(m22 k KJ k6 a)) (by rw[jK];intro m;exact(hg _ (hK _ m)).ne.2.1 rfl)
 rw[jK] at this
 refine x24 this λz T' e t x u=>?_
 refine(fy z T' e t x ?_)
 unfold Du iB at u
 unfold uL
 have h13:(13:Int)∉dd l []:=λm=>by exact(hg _ (hK _ m)).ne.2.2.1 rfl
 by_cases h0:(0:Int)∈l
 .have PO:(0:Int)∈dd l []:=fv.mpr h0;simp only[PO,bJ,Int.le_refl] at u;(refine sb (aZ h0) ?_;refine sb u ?_);exact((hg 0 h0).pa).mono x
 .have PO:(0:Int)∉dd l []:=λm=>h0 (hK _ m);refine sb (aL h0) ?_;by_cases h1:(1:Int)∈l
  .have Re:(1:Int)∈dd l []:=fv.mpr h1;simp only[PO,h13,Re,bJ,bg,show(0:Int)<=1 from by decide] at u;(refine sb (aZ h1) ?_;refine sb u ?_);exact((hg 1 h1).pa).mono x
  .have Re:(1:Int)∉dd l []:=λm=>h1 (hK _ m);simp only[PO,h13,Re,bg,show ¬(0:Int)<= -1 from by decide] at u;refine sb (aL h1) ?_;have:aaB Gr (dd l [])=cQ (dd l []):=List.filter_eq_self.mpr λp O=>ak m1;rw[this] at u;exact u
end
noncomputable def cA(t:Int):List Int:=(abZ.lookup t).getD []
inductive Pk|any|unk|opn|free|nul|val|shp (S:eZ)
noncomputable def rK(t f:Int):List Int×Int:=(cA t++(if f=1 then [0] else []),if f=1 then 1 else 2)
noncomputable def eZ.rl(S:eZ)(q:String):Option (List Int×Int):=match S.find q with
 |some p=>B' (rK p.2.1 p.2.2)
 |none=>if iT S q=-1 then F' else B' (cA (iT S q),1)
noncomputable def Pk.rl:Pk->String->Option (List Int×Int)
 |.shp S,q=>S.rl q
 |_,_=>F'
noncomputable def Pk.aaA:Pk->String
 |.any=>"any"
 |.nul=>"none"
 |.val=>"value"
 |.shp _=>"shape"
 |_=>"open"
noncomputable def Pk.aaW(k:Pk)(q:String)(P:List Int):Bool:=match k with
 |.nul=>decide (0∈P)
 |k=>match k.rl q with
  |some x=>x.1.any λv=>decide (v∈P)
  |none=>true
noncomputable def Pc(T:TS)(t:Int):Pk->Prop
 |.any=>t=0
 |.unk=>t=1
 |.opn=>t=10
 |.free=>∃j,At T t (.tup [.int 10,.int j])
 |.nul=>t=4\/t=5
 |.val=>t=6
 |.shp S=>Pd T t S/\t≠6
noncomputable def xb(T T':TS):Prop:=∃Y,T'.rows=T.rows++Y
theorem At.aa0{r:V}(a:At T t r)(e:xb T T'):At T' t r:=by
 obtain⟨Y,e⟩:=e
 refine⟨a.1,?_⟩
 rw[e,List.getElem?_append_left]
 .exact a.2
 .exact(aV.mp a.2).1
theorem PA.aa0{l:List Int}(a:PA T z l)(e:xb T T'):PA T' z l:=by
 rcases a with a|⟨a,a',b⟩|⟨a,b,k,r,c,d⟩
 .exact .inl a
 .exact .inr (.inl ⟨a,a',b.aa0 e⟩)
 .exact .inr (.inr ⟨a,b,k,r,c,d.aa0 e⟩)
theorem Pc.mono:∀{k:Pk},Pc T t k->xb T T'->Pc T' t k
 |.any,p,_|.unk,p,_|.opn,p,_|.nul,p,_|.val,p,_=>p
 |.free,⟨j,a⟩,e=>⟨j,a.aa0 e⟩
 |.shp S,⟨p,q⟩,e=>⟨by induction p using Pd.casesOn with
  |obj a b c=>exact .obj (a.aa0 e) b c
  |ref a=>exact .ref (a.aa0 e)
  |str=>exact .str,q⟩
section
variable (n:Nat)
theorem i7{k:Int}(r:List V)(hk:k≠3/\k≠18/\k≠4/\k≠5):ph (n+1) 233 [.tup (.int k::r)] T=B' (.int (-1),T):=by
 rw[lX]
 simp only[s0,aaa,ceq,hk.1,hk.2.1,hk.2.2.1,hk.2.2.2,aH,cond_false]
theorem FQ(T:TS)(k:Int):cu T .In (.int k) (.tup [(.int 2),(.int 3),(.int 4),(.int 5),(.int 8)])=B' (L' (k∈([2,3,4,5,8]:List Int))):=nR T k [2,3,4,5,8]
theorem vN(h:Tb c T){k:Int}{r:List V}(a:At T t (.tup (.int k::r)))(hk:k∉([2,3,4,5,8]:List Int)):ph (n+1) 240 [.tab,.int t] T=B' (.int (-1),T):=by
 rw[fC,cF h a]
 simp only[s0,aaa,FQ,hk,aH,cond_false]
theorem za(h:Tb c T){S:eZ}(a:At T t (mf S)):ph (n+1) 240 [.tab,.int t] T=B' (.int (-1),T):=by
 have e0:cv 2 T (mf S) (.int 0)=B' (.int 8):=rfl
 have e1:cv 2 T (mf S) (.int (-1))=B' (.int 0):=by kernel_rfl
 have e2:(8:Int)∈([2,3,4,5,8]:List Int):=by decide
 have e3:decide ((0:Int)=1)=false:=by decide
 rw[fC,cF h a]
 simp only[e0,e1,aaa,FQ,e2,aW,cond_true,ceq,e3,cond_false]
theorem uK(h:Tb c T):∀t∈([0,1,4,5,6,10]:List Int),∃s,At T t (.tup [.int 1,sv s]):=fi (EL (⟨"any",cJ h 0 _ (by kernel_rfl)⟩) (⟨"unknown",cJ h 1 _ (by kernel_rfl)⟩) (⟨"undefined",cJ h 4 _ (by kernel_rfl)⟩) (⟨"null",cJ h 5 _ (by kernel_rfl)⟩) (⟨"string",cJ h 6 _ (by kernel_rfl)⟩) (⟨"object",cJ h 10 _ (by kernel_rfl)⟩) ao)
theorem oe(h:Tb c T):∀t∈([0,1,4,5,6,10]:List Int),Gp T t:=λt m=>by
 obtain⟨s,a⟩:=uK h t m
 exact⟨by clear a;revert t m;decide,(gE 1 _ (by decide) a (λn=>i7 n _ (by decide))),λn=>vN n h a (by decide)⟩
theorem i8(h:Tb c T){k:Int}{r:List V}(a:At T t (.tup (.int k::r)))(hk:k≠1)(UG:k≠2):0<=t/\t≠0/\t≠1/\t≠2/\t≠10/\t≠13/\t≠14/\t≠15:=by
 have key:∀(i:Nat)(j:Int)(r':List V),T2.rows[i]? =B' (.tup (.int j::r'))->k≠j->t≠(i:Nat):=by
  intro i j r' e hj q;subst q;have:=a.row (cJ h i _ e);injection this with this;injection this with this _;injection this with this;exact hj this
 exact(Iq a.1 (key 0 1 [sv "any"] (by kernel_rfl) hk) (key 1 1 [sv "unknown"] (by kernel_rfl) hk) (key 2 1 [sv "never"] (by kernel_rfl) hk) (key 10 1 [sv "object"] (by kernel_rfl) hk) (key 13 1 [sv "error"] (by kernel_rfl) hk) (key 14 2 [.int 0,.int 1] (by kernel_rfl) UG) (key 15 2 [.int 1,.int 1] (by kernel_rfl) UG))
theorem uM(h:Tb c T){k:Int}{r:List V}(a:At T t (.tup (.int k::r)))(hk:k=9\/k=10\/k=7):Gp T t:=by
 have ne:=i8 h a (hk.elim (λe=>e▸by decide) λe=>e.elim (λe=>e▸by decide) λe=>e▸by decide) (hk.elim (λe=>e▸by decide) λe=>e.elim (λe=>e▸by decide) λe=>e▸by decide)
 refine⟨(ml ne.1 ne.2.2.2.1 ne.2.2.2.2.2.1 ne.2.2.2.2.2.2),(gE k _ (by clear ne a;rcases hk with rfl|rfl|rfl<;>decide) a (λn=>i7 n _ (by clear ne a;rcases hk with rfl|rfl|rfl<;>decide))),λn=>vN n h a ?_⟩
 rcases hk with rfl|rfl|rfl<;>decide
theorem DS(h:Tb c T){S:eZ}(a:At T t (mf S)):Gp T t:=by
 have ne:=i8 h (a:At T t (.tup (.int 8::_))) (by decide) (by decide)
 exact⟨(ml ne.1 ne.2.2.2.1 ne.2.2.2.2.2.1 ne.2.2.2.2.2.2),(gE 8 _ (by decide) a (λn=>i7 n _ (by decide))),λn=>za n h a⟩
theorem Pc.gp(h:Tb c T):∀{k:Pk},Pc T t k->Gp T t
 |.any,p=>oe h t (by refine sb (show t=0 from p) ?_;decide)
 |.unk,p=>oe h t (by refine sb (show t=1 from p) ?_;decide)
 |.opn,p=>oe h t (by refine sb (show t=10 from p) ?_;decide)
 |.val,p=>oe h t (by refine sb (show t=6 from p) ?_;decide)
 |.nul,p=>oe h t (by rcases(show t=4\/t=5 from p) with rfl|rfl<;>decide)
 |.free,⟨j,a⟩=>uM h a (.inr (.inl rfl))
 |.shp S,⟨p,q⟩=>by induction p using Pd.casesOn with
  |obj a b c=>exact DS h a
  |ref a=>exact uM h a (.inl rfl)
  |str=>exact absurd rfl q
end
noncomputable def mh(x:List Int×Int):V:=.tup [.lst (x.1.map .int),.int x.2]
structure Rd (d:V) (rl:String->Option (List Int×Int)):Prop where
 has:∀T,∀q∈names4,cu T .In (sv q) d=B' (rl q).isSome
 at_:∀T,∀q∈names4,cv 2 T d (sv q)=(rl q).map mh
 get:∀n T e,∀q∈names4,jz (gZ 2) (ph n) d (Str.ofString "get") [sv q,e] T=B' (((rl q).map mh).getD e,T)
noncomputable def Bk(l:List (Int×V))(t:Int)(k:Pk):Prop:=∃d,dK t l=B' (.tup [sv k.aaA,d])/\Rd d k.rl
theorem i9:Rd (.di []) λO=>F':=by
 refine⟨λT=>?_,λT=>?_,λn T e=>?_⟩<;>exact cE (by kernel_rfl)
theorem Bg{a b:Int}(h:a≠b):(a==b)=false:=aR.mpr h
theorem jj(t u:Int)(v:V):∀l:List (Int×V),dK t (dH u v l)=if u=t then B' v else dK t l
 |[]=>by
  show(bif u==t then B' v else F')=if u=t then B' v else F'
  by_cases e:u=t
  .simp [e]
  ·(refine sb (Bg e) ?_;refine sb (aL e) ?_);rfl
 |(j,w)::l=>by
  show dK t (bif j==u then(j,v)::l else(j,w)::dH u v l)=(if u=t then B' v else bif j==t then B' w else dK t l);by_cases e:j=u
  .subst e;refine sb (show(j==j)=true from bF j) ?_;show(bif j==t then B' v else dK t l)=_;by_cases e:j=t
   .simp [e]
   ·(refine sb (Bg e) ?_;refine sb (aL e) ?_);rfl
  .refine sb (Bg e) ?_;show(bif j==t then B' w else dK t (dH u v l))=_;refine sb (jj t u v l) ?_;by_cases e':u=t
   .subst e';refine sb (Bg e) ?_;simp
   .rw[aL e',aL e']
theorem Bk.put{l:List (Int×V)}{t u:Int}{k:Pk}{d:V}(b:Bk l t k)(ne:u≠t):Bk (dH u d l) t k:=by
 refine x12 b λe f g=>?_
 exact⟨e,by rw[jj,aL ne];exact f,g⟩
section
variable (n:Nat)(T:TS)
theorem xc:∀k:Pk,cu T .Eq (sv k.aaA) (sv "none")=B' (match k with|.nul=>true|_=>false)
 |.any|.unk|.opn|.free|.nul|.val|.shp _=>by kernel_rfl
theorem DT{l:List (Int×V)}{k:Pk}(b:Bk l t k){q:String}(hq:q∈names4)(P:List Int)(hv:∀x,k.rl q=B' x->x.1.length<=1000):ph (n+1) 976 [.di l,.int t,sv q,.lst (P.map .int)] T=B' (.bool (k.aaW q P),T):=by
 refine hide λQz qz=>?_
 obtain⟨d,f,r⟩:=b
 have s1:cv 2 T (.di l) (.int t)=B' (.tup [sv k.aaA,d]):=f
 have e1:iG (.tup [sv k.aaA,d])=B' [sv k.aaA,d]:=rfl
 have e2:eN (aal (fnAt 976)) [Str.ofString "what",Str.ofString "reads"] [sv k.aaA,d] [.pl (.di l),.pl (.int t),.pl (sv q),.pl (.lst (P.map .int)),.un,.un]=B' [.pl (.di l),.pl (.int t),.pl (sv q),.pl (.lst (P.map .int)),.pl (sv k.aaA),.pl d]:=by kernel_rfl
 refine qz ?_
 clear Qz qz
 rw[rm]
 simp only[s1,aaa,e1,e2]
 rw[lB,xc]
 have KJ:∀rl:Option (List Int×Int),cu T .In (sv q) d=B' rl.isSome->cv 2 T d (sv q)=rl.map mh->(∀x,rl=B' x->x.1.length<=1000)->(C' ((C' (cu T .In (sv q) d) λOq=>B' (Oq,T))) λp3=>bif p3.1 then(C' ((C' ((C' ((C' ((C' ((C' ((C' (cv 2 p3.2 d (sv q)) λz=>B' (z,p3.2))) λK9=>(C' (cv 2 K9.2 K9.1 (.int 0)) λz=>B' (z,K9.2)))) λLp=>(C' (cy Lp.1) λl=>B' (l,Lp.2)))) λK5=>C' (fit K5.1.length ()) λO=>C' (cC (λQU QD=>(C' ((C' ((C' (cu QD .In QU (.lst (P.map .int))) λM7=>B' (M7,QD))) λLe=>bif Le.1 then B' (true,Le.2) else B' (false,Le.2))) λQ4=>bif Q4.1 then(C' (B' (QU,Q4.2)) λQG=>B' (B' QG.1,QG.2)) else B' (F',Q4.2))) K5.1 K5.2) λM4=>B' (V.lst M4.1,M4.2))) λLo=>B' ([Lo.1],Lo.2))) λLr=>(C' (fZ "len" Lr.1 Lr.2) λv=>B' (v,Lr.2)))) λLj=>(C' ((C' (cu Lj.2 .Gt Lj.1 (.int 0)) λN8=>B' (N8,Lj.2))) λq=>B' (V.bool q.1,q.2))) else B' ((.bool true),p3.2))=B' (.bool (match rl with|some x=>x.1.any λv=>decide (v∈P)|none=>true),T):=by
  intro rl h1 h2 h3;rw[h1];induction rl using Option.casesOn with
  |none=>simp only[Option.isSome,aaa,cond_false]
  |some x=>
   have g0:cv 2 T (mh x) (.int 0)=B' (.lst (x.1.map .int)):=rfl;have gi:cy (.lst (x.1.map .int))=B' (x.1.map .int):=rfl;simp only[Option.isSome,aaa,cond_true,h2,Option.map,g0,gi];rw[cH () (by rw[ae];have:=h3 x rfl;exact O1 this rfl),aaa,cN _ T V.int (λv=>decide (v∈P)) x.1 (λv O=>by
    rw[nS]
    simp only[aaa]
    cases L' (v∈P)<;>rfl)]
   have gl:∀l:List Int,fZ "len" [.lst (l.map .int)] T=B' (.int (l.length:Nat)):=λl=>by
    show B' (V.int ((l.map V.int).length:Nat))=_;rw[ae]
   simp only[aaa,gl,Ds];congr 3;by_cases hx:∃v∈x.1,v∈P
   .obtain⟨v,a,b⟩:=hx;have:0<(x.1.filter λv=>decide (v∈P)).length:=List.length_pos_of_mem (aP.mpr ⟨a,ak b⟩);rw[ak (Ga this rfl),List.any_eq_true.mpr ⟨v,a,ak b⟩]
   .have:x.1.filter (λv=>decide (v∈P))=[]:=bP.mpr λv a b=>hx ⟨v,a,aS b⟩;rw[this,cp.mpr λv a b=>hx ⟨v,a,aS b⟩];rfl
 have hr:=KJ (k.rl q) (r.has T q hq) (r.at_ T q hq) hv
 clear f s1 e1 e2;induction k using Pk.casesOn with
 |nul=>
  have cz:=nS T 0 P;simp only[aaa,cond_true,cz];rfl
 |any=>simp only[aaa,cond_false];exact hr
 |unk=>simp only[aaa,cond_false];exact hr
 |opn=>simp only[aaa,cond_false];exact hr
 |free=>simp only[aaa,cond_false];exact hr
 |val=>simp only[aaa,cond_false];exact hr
 |shp S=>simp only[aaa,cond_false];exact hr
end
set_option genCtorIdx false in
inductive Md|yes (o:Int)|no (o:Int)|tru|fal
noncomputable def lD:List Int:=[3,5,6,8,9]
noncomputable def lE:List Int:=[0,1,2,4,7]
noncomputable def uN(o:Int):List Int:=if(cA o).length=1 then(lD++lE).filter λv=>!decide (v=(cA o).headD 0) else lD++lE
noncomputable def Md.ok:Md->Prop
 |.yes o=>o∈OT
 |.no o=>o∈OT
 |_=>True
noncomputable def Md.P:Md->List Int
 |.yes o=>cA o
 |.no o=>uN o
 |.tru=>lD
 |.fal=>lE
noncomputable def Md.never(m:Md)(l:List Int):Bool:=bif l==[1] then false else match m with
 |.yes o=>l.all λp=>((aad o).filter (meB p)).isEmpty
 |.no o=>!decide (oY o=-1)&&l.all λp=>gV p o
 |.tru=>l.all λp=>decide (trB p=2)
 |.fal=>l.all λp=>decide (frB p=2)
noncomputable def Md.nev(m:Md):Option (List Int)->Bool
 |none=>false
 |some l=>m.never l
noncomputable def Md.call(n:Nat):Md->V->TS->cK
 |.yes o,v,T=>ph (n+15) 854 [.host,v,.int o,.bool true,.bool true] T
 |.no o,v,T=>ph (n+15) 854 [.host,v,.int o,.bool false,.bool true] T
 |.tru,v,T=>ph (n+15) 844 [.host,v,.bool true] T
 |.fal,v,T=>ph (n+15) 844 [.host,v,.bool false] T
noncomputable def Md.top(n:Nat):Md->V->V->TS->cK
 |.yes o,v,q,T=>ph (n+16) 916 [.host,v,q,.int o,.bool true] T
 |.no o,v,q,T=>ph (n+16) 916 [.host,v,q,.int o,.bool false] T
 |.tru,v,q,T=>ph (n+16) 921 [.host,v,q,.bool true] T
 |.fal,v,q,T=>ph (n+16) 921 [.host,v,q,.bool false] T
noncomputable def Cc:List Md:=OT.map .yes++(OT.map .no++[.tru,.fal])
theorem Md.ok.mem:∀{m:Md},m.ok->m∈Cc
 |.yes o,h=>List.mem_append_left _ (aJ.mpr ⟨o,h,rfl⟩)
 |.no o,h=>cf _ (List.mem_append_left _ (aJ.mpr ⟨o,h,rfl⟩))
 |.tru,h=>cf _ (cf _ (af ..))
 |.fal,h=>cf _ (cf _ (ag _ (af ..)))
theorem Bh:((1::TG).all λt=>([0,1,2]:List Int).all λf=>Cc.all λm=>m.never (tM t f)==!((rK t f).1.any λv=>decide (v∈m.P)))=true:=by kernel_rfl
theorem Hz{t f:Int}{m:Md}(ht:t∈TG\/t=1)(hf:f∈([0,1,2]:List Int))(hm:m.ok):m.never (tM t f)=!((rK t f).1.any λv=>decide (v∈m.P)):=by
 have h:=Bh
 have h1:=aE.mp h t (ht.elim (ag _) λe=>e▸af ..)
 have h2:=aE.mp h1 f hf
 have h3:=aE.mp h2 m hm.mem
 exact aT.mp h3
noncomputable def Pk.rdo:Pk->String->Option (List Int)
 |.nul,_=>B' [4]
 |.shp S,q=>S.rd q
 |_,_=>F'
noncomputable def Pk.mem:Pk->Prop
 |.any|.unk|.free=>False
 |.shp S=>S.Ok/\S.Tg
 |_=>True
theorem DU{S:eZ}(h:S.Tg)(q:String):iT S q=-1\/iT S q∈TG\/iT S q=1:=by
 have h1:=h.si
 have h2:=h.ni
 obtain⟨pr,ca,si,ni⟩:=S
 unfold iT
 by_cases q7:q="7"
 .simp only[aZ q7];induction ni using Option.casesOn with
  |some t=>exact .inr (h2 t rfl)
  |none=>clear h h2;induction si using Option.casesOn with
   |some t=>exact .inr (h1 t rfl)
   |none=>exact .inl rfl
 .simp only[aL q7];clear h h2;induction si using Option.casesOn with
  |some t=>exact .inr (h1 t rfl)
  |none=>exact .inl rfl
theorem FT{k:Pk}(hk:k.mem){m:Md}(hm:m.ok)(q:String):m.nev (k.rdo q)=!(k.aaW q m.P):=by
 induction k using Pk.casesOn with
 |any=>exact hk.elim
 |unk=>exact hk.elim
 |free=>exact hk.elim
 |opn=>rfl
 |val=>rfl
 |nul=>
  have:=Hz (t:=4) (f:=0) (.inl (by decide)) (by decide) hm;have e1:tM 4 0=[4]:=by decide
  have e2:(rK 4 0).1=[0]:=by decide
  rw[e1,e2] at this;show m.never [4]=!(L' (0∈m.P));rw[this];simp
 |shp S=>
  show m.nev (S.rd q)=!(match S.rl q with|some x=>x.1.any λv=>decide (v∈m.P)|none=>true);unfold eZ.rd eZ.rl;cases hf:S.find q with
  |some x=>
   have hx:=hk.2.props x (List.mem_of_find?_eq_some hf);exact Hz hx.1 hx.2 hm
  |none=>
   by_cases m1:iT S q=-1
   .simp only[aZ m1];rfl
   .simp only[aL m1];have:=Hz (f:=0) ((DU hk.2 q).resolve_left m1) (by decide) hm;have e2:(rK (iT S q) 0).1=cA (iT S q):=by
     unfold rK;rw[aL (by decide),a0]
    rw[e2] at this;exact this
section
variable (n:Nat)
theorem NV.iff{x:cK}{e e':Prop}(h:NV c T x e)(i:e↔e'):NV c T x e':=by
 refine x24 h.ex λz T' a b d f=>?_
 exact⟨z,T',a,b,d,f.trans i⟩
theorem Bi(h:Tb (c+20) T){l:List Int}(hz:DO T z l){m:Md}(hm:m.ok):NV c T (m.call n (.int z) T) (m.never l=true):=by
 rcases hz with⟨rfl,rfl⟩|⟨pa,hB,KY,hl⟩
 .have nf:m.never [1]=false:=rfl;rw[nf];induction m using Md.casesOn with
  |yes o=>exact⟨o,T,A7 (n+1) h o hm,h.less tN,.rfl,by have:=(vG o hm).2.2.2;simp [this]⟩
  |no o=>exact(DL (n+1) h hm).iff (by simp)
  |tru=>exact⟨11,T,A9 n h,h.less tN,.rfl,by simp⟩
  |fal=>exact⟨1,T,DJ n h,h.less tN,.rfl,by simp⟩
 .have h1:(l==[1])=false:=by
   rw[aR];rintro rfl;have:=hB 1 (am.mpr rfl);revert this;decide
  have en:∀m:Md,m.never l=(match m with
   |.yes o=>l.all λp=>((aad o).filter (meB p)).isEmpty
   |.no o=>!decide (oY o=-1)&&l.all λp=>gV p o
   |.tru=>l.all λp=>decide (trB p=2)
   |.fal=>l.all λp=>decide (frB p=2)):=λm=>by
   unfold Md.never;rw[h1];rfl
  rw[en];induction m using Md.casesOn with
  |yes o=>exact(DF (n+1) h pa hB KY hl hm).iff (by simp)
  |no o=>exact(FJ (n+1) h pa hB KY hl hm).iff (by simp)
  |tru=>exact(DI n h pa hB hl).iff (by simp)
  |fal=>exact(FL n h pa hB hl).iff (by simp)
theorem FU(q:String):SE.rd q=F':=by
 have h1:SE.find q=F':=rfl
 have h2:iT SE q=-1:=by
  unfold iT SE;by_cases q7:q="7"<;>simp [q7]
 unfold eZ.rd
 (refine sb h1 ?_;refine sb h2 ?_);rfl
theorem Bj(h:Tb (c+1) T){k:Pk}(p:Pc T t k)(hk:k.mem){q:String}(hq:q∈names4):∃z T',ph (n+7) 901 [.host,.int t,sv q] T=B' (.int z,T')/\Tb c T'/\Ex T T'/\Ca T' z (k.rdo q):=by
 induction k using Pk.casesOn with
 |any=>exact hk.elim
 |unk=>exact hk.elim
 |free=>exact hk.elim
 |opn=>exact(fy (-1) T (tl (n+6) T (.inr p) _) (h.less tN) (.rfl) rfl)
 |nul=>
  refine(zI 4 T (uA n h ?_ _) (h.less tN) (.rfl) (by decide) (.inr ⟨PA.base h (by decide),by decide,by decide,by decide⟩));rcases(show t=4\/t=5 from p) with rfl|rfl<;>decide
 |val=>
  obtain rfl:t=6:=p;refine x24 (tj n h (Pd.pm h Pd.str) hq) λz T' e t' x r=>?_;rw[FU] at r;exact(fy z T' e t' x r)
 |shp S=>exact tj n h (p.1.pm h) hq
end
theorem Ca.mono{o:Option (List Int)}(h:Ca T z o)(e:Ex T T'):Ca T' z o:=by
 induction o using Option.casesOn with
 |none=>exact h
 |some l=>exact⟨h.1,h.2.elim .inl λa=>.inr ⟨a.1.mono e,a.2⟩⟩
theorem Ex.r{T T':TS}(e:Ex T T'):xb T T':=e.rows
section
variable (n:Nat)
theorem tr{q:String}(hq:q∈names4):∀(ps:List (Int×Pk))(c:Nat)(T:TS),Tb (c+ps.length) T->(∀p∈ps,Pc T p.1 p.2/\p.2.mem)->∃(rs:List (Int×Option (List Int)))(T':TS),cC (λv4 U5=>(C' (ph (n+7) 901 [.host,v4,sv q] U5) λr6=>B' (B' r6.1,r6.2))) (ps.map λp=>V.int p.1) T=B' (rs.map (λr=>V.int r.1),T')/\Tb c T'/\Ex T T'/\(∀r∈rs,Ca T' r.1 r.2)/\rs.map (·.2)=ps.map λp=>p.2.rdo q
 |[],c,T,h,_=>(zI ([]) T rfl h (.rfl) (λr m=>(by cases m)) rfl)
 |p::ps,c,T,h,hp=>by
  refine x24 (Bj n (c:=c+ps.length) (by simpa [bH] using h) (hp p (af ..)).1 (hp p (af ..)).2 hq) λz T₁ e1 t1 x1 r1=>?_;refine lH (tr hq ps c T₁ t1 λr m=>⟨(hp r (ag _ m)).1.mono x1.r,(hp r (ag _ m)).2⟩) λrs T₂ e2 t2 x2 r2 m2=>?_;refine(zI ((z,p.2.rdo q)::rs) T₂ ?_ t2 (x1.trans x2) (λr m=>?_) ?_)
  .refine sb aC ?_;rw[fk];rw[e1,aaa,aaa];show((cC _ (ps.map λp=>V.int p.1) T₁).bind _)=_;refine sb e2 ?_;rfl
  .rcases aD.mp m with rfl|m
   .exact r1.mono x2
   .exact r2 r m
  .rw[aC,aC,m2]
noncomputable def Bl(m:Md)(v5:V)(U6:TS):Option (Option V×TS):=(C' ((C' ((C' (cu U6 .Eq v5 (.int (-1))) λb9=>B' (b9,U6))) λp8=>bif p8.1 then B' ((.int (-1)),p8.2) else m.call n v5 p8.2)) λr7=>B' (B' r7.1,r7.2))
theorem zb{m:Md}(hm:m.ok):∀(rs:List (Int×Option (List Int)))(c:Nat)(T:TS),Tb (c+20*rs.length) T->(∀r∈rs,Ca T r.1 r.2)->∃(as:List (Int×Option (List Int)))(T':TS),cC (Bl n m) (rs.map λp=>V.int p.1) T=B' (as.map (λr=>V.int r.1),T')/\Tb c T'/\Ex T T'/\(∀a∈as,(a.1=2↔m.nev a.2=true))/\as.map (·.2)=rs.map (·.2)
 |[],c,T,h,_=>(zI ([]) T rfl h (.rfl) (λr m=>(by cases m)) rfl)
 |(z,o)::rs,c,T,h,hp=>by
  have h':Tb (c+20*rs.length+20) T:=by simpa [Nat.mul_succ,bH] using h
  have key:∃w T₁,Bl n m (.int z) T=B' (B' (.int w),T₁)/\Tb (c+20*rs.length) T₁/\Ex T T₁/\(w=2↔m.nev o=true):=by
   have r:=hp (z,o) (af ..);unfold Bl;rw[ceq];clear h;induction o using Option.casesOn with
   |none=>
    have rz:z=-1:=r;refine(fy (-1) T ?_ (h'.less (bt ..)) (.rfl) (by simp [Md.nev]));simp only[aaa,rz,aW,cond_true]
   |some l=>
    have rz:z≠-1/\DO T z l:=r;refine hide λQz qz=>?_;obtain⟨w,T₁,e,t,x,i⟩:=Bi n h' rz.2 hm;refine qz ?_;refine(fy w T₁ ?_ t x i);simp only[aaa,rz.1,aH,cond_false,e]
  refine hide λQz qz=>?_;refine x24 key λw T₁ e1 t1 x1 i1=>?_;refine lH (zb hm rs c T₁ t1 λr m=>(hp r (ag _ m)).mono x1) λas T₂ e2 t2 x2 r2 m2=>?_;refine qz ?_;refine(zI ((w,o)::as) T₂ ?_ t2 (x1.trans x2) (λr m=>?_) ?_)
  .rw[aC];rw[fk];rw[e1,aaa];show((cC _ (rs.map λp=>V.int p.1) T₁).bind _)=_;rw[e2];rfl
  .rcases aD.mp m with rfl|m
   .exact i1
   .exact r2 r m
  .rw[aC,aC,m2]
theorem FV(q:String)(m:Md):∀(ps:List (Int×Pk))(as:List (Int×Option (List Int))),as.map (·.2)=ps.map (λp=>p.2.rdo q)->(∀a∈as,(a.1=2↔m.nev a.2=true))->(∀p∈ps,m.nev (p.2.rdo q)=!(p.2.aaW q m.P))->(((ps.map (·.1)).zip (as.map (·.1))).filter (λp=>p.2 !=2)).map (·.1)=(ps.filter λp=>p.2.aaW q m.P).map (·.1)
 |[],_,_,_,_=>by simp
 |p::ps,[],h,_,_=>by simp at h
 |p::ps,a::as,h,ha,hp=>by
  rw[aC,aC] at h;injection h with h1 h2;have ih:=FV q m ps as h2 (λx m=>ha x (ag _ m)) λx m=>hp x (ag _ m);have e1:=ha a (af ..);have e2:=hp p (af ..);rw[h1,e2] at e1;(refine sb aC ?_;refine sb aC ?_;refine sb List.zip_cons_cons ?_;refine sb bT ?_;refine sb bT ?_);cases hg:p.2.aaW q m.P
  .rw[hg] at e1;have:a.1=2:=e1.mpr rfl;simp only[this,bne_self_eq_false,bY,bg];exact ih
  .rw[hg] at e1;have:a.1≠2:=λe=>by have:=e1.mp e;exact nb this
   have:(a.1 !=2)=true:=by simpa using this
   simp only[this,bJ,aC,ih]
end
variable {ps:List (Int×Pk)}
section
variable (n:Nat)
theorem vP(h:Tb c T){l:List Int}(a:PA T z l):∃k,ph (n+1) 172 [.tab,.int z] T=B' (.int k,T)/\(k=6↔2<=l.length):=by
 rcases a with⟨rfl,rfl⟩|⟨_,b,a⟩|⟨_,rfl,k,r,q,a⟩
 .exact⟨1,gX n h (cJ h 2 _ Fy),by simp⟩
 .exact⟨6,gX n h a,by simp [b]⟩
 .exact⟨k,gX n h a,by simp [q]⟩
theorem zc(m:Md)(v q:V)(T:TS):m.top n v q T=(C' (ph (n+15) 534 [.host,v] T) λp1=>(C' (ph (n+15) 906 [.host,p1.1,q] p1.2) λp2=>(C' ((C' ((C' (cy p2.1) λl=>B' (l,p2.2))) λp3=>C' (fit p3.1.length ()) λO=>C' (cC (Bl n m) p3.1 p3.2) λq4=>B' (V.lst q4.1,q4.2))) λKM=>ph (n+15) 911 [.host,p1.1,KM.1] KM.2))):=by
 induction m using Md.casesOn with
 |yes o=>exact eT (n+15) ..
 |no o=>exact eT (n+15) ..
 |tru=>exact eG (n+15) ..
 |fal=>exact eG (n+15) ..
theorem Bm(h:Tb c T){l:List Int}(a:PA T z l)(hl:l.length<2)(m:Md)(q:V):m.top n (.int z) q T=B' (.int z,T):=by
 refine hide λQz qz=>?_
 refine x12 (vP (n+13) h a) λk e i=>?_
 have k6:k≠6:=λq=>by have:=i.mp q;exact Jl hl this
 have e0:cy (.lst [])=B' []:=rfl
 have e2:cw (.lst [])=B' false:=rfl
 refine qz ?_
 rw[zc,eU,aaa]
 rw[iO]
 simp only[e,aaa,vz,k6,aH,bo,cond_true,e0]
 refine sb (show fit ([]:List V).length ()=B' () from rfl) ?_
 simp only[aaa,mq,fk]
 rw[gS]
 simp only[e2,aaa,bo,cond_true]
theorem DV(h:Tb (c+400) T)(a:PA T z (ps.map (·.1)))(h2:2<=ps.length)(hl:ps.length<=10)(hp:∀p∈ps,Pc T p.1 p.2/\p.2.mem){q:String}(hq:q∈names4){m:Md}(hm:m.ok):∃z' T',m.top n (.int z) (sv q) T=B' (.int z',T')/\Tb c T'/\Ex T T'/\PA T' z' (uL ((ps.filter λp=>p.2.aaW q m.P).map (·.1))):=by
 refine hide λQz qz=>?_
 refine x12 (vP (n+13) h a) λk e i=>?_
 have k6:k=6:=i.mpr (by rw[ae];exact h2)
 refine lH (tr (n+7) hq ps (c+300) T (h.less (GA hl rfl)) hp) λrs T₁ e1 t1 x1 r1 m1=>?_
 have U0:rs.length=ps.length:=by
  have:=aM List.length m1;simpa using this
 refine lH (zb n hm rs (c+1) T₁ (t1.less (IX U0 hl rfl)) r1) λas T₂ e2 t2 x2 r2 m2=>?_
 have UP:as.length=ps.length:=by
  have:=aM List.length m2;simp at this;exact Jb U0 this
 have ai:((ps.map λp=>p.1).map V.int)=ps.map λp=>V.int p.1:=by rw[bw];rfl
 have aw:as.map (λr=>V.int r.1)=(as.map λr=>r.1).map V.int:=by rw[bw];rfl
 have a2:=(a.mono x1).mono x2
 have hz:=FV q m ps as (m2.trans m1) r2 λp mp=>FT (hp p mp).2 hm q
 refine x24 (kL (n+11) (c:=c) t2 (V0:=.lst (((ps.filter λp=>p.2.aaW q m.P).map (·.1)).map .int)) rfl (λt mt=>by
   refine x12 (aJ.mp mt) λp mp KC=>?_;subst KC
   exact((hp p (aP.mp mp).1).1.mono (x1.trans x2).r).gp t2) (by
    rw[ae]
    exact aQ (aU _ _) (O4 hl rfl))) λz' T' e' t' x' p'=>?_
 refine qz ?_
 refine(fy z' T' ?_ t' ((x1.trans x2).trans x') p')
 rw[zc,eU,aaa]
 rw[iO]
 simp only[e,aaa,vz,k6,aW,bh,cond_false,cB (n+13) h a,eit]
 rw[ai,cH () (by rw[ae];exact O1 hl rfl),aaa]
 simp only[e1,aaa]
 show(((C' (cy (.lst (rs.map λr=>V.int r.1))) λl=>B' (l,T₁)).bind _).bind _)=_
 rw[show cy (.lst (rs.map λr=>V.int r.1))=B' (rs.map λr=>V.int r.1) from rfl,aaa,aaa,cH () (by rw[ae];exact O5 U0 hl rfl),aaa]
 simp only[e2,aaa]
 rw[aw,xa (n+13) t2 a2 (by rw[ae,ae];exact UP.symm) (by
  intro q
  have:=aM List.length q
  simp at this;rw[this] at UP;simp at UP;omega) (by rw[ae];exact O6 UP hl rfl),hz]
 exact e'
end
theorem qc{k:Int}{v:List Int}:∀{l:List (Int×List Int)},l.lookup k=B' v->(k,v)∈l
 |[],h=>by exact no h
 |(j,w)::l,h=>by
  rw[List.lookup_cons] at h;cases e:k==j
  .rw[e] at h;exact ag _ (qc h)
  .rw[e] at h;injection h with h;(refine sb (ba e) ?_;refine sb h ?_);exact af ..
theorem j6(t:Int):(cA t).length<=10:=by
 unfold cA
 cases h:abZ.lookup t with
 |none=>simp
 |some v=>
  have key:∀p∈abZ,p.2.length<=10:=by decide
  exact key _ (qc h)
theorem DW{k:Pk}{q:String}{x:List Int×Int}(h:k.rl q=B' x):x.1.length<=1000:=by
 induction k using Pk.casesOn with
 |shp S=>
  have h:S.rl q=B' x:=h;unfold eZ.rl at h;split at h
  .injection h with h;rename_i p _;have:=j6 p.2.1;refine sb (Eq.symm (h)) ?_;unfold rK;simp only[bc];split<;>simp<;>exact O1 this rfl
  .split at h
   .exact no h
   .injection h with h;refine sb (Eq.symm (h)) ?_;have:=j6 (iT S q);show(cA (iT S q)).length<=1000;exact O1 this rfl
 |_=>exact no h
section
variable (n:Nat)
theorem og(h:Tb c T){l:List Int}(a:PA T z l):ph (n+1) 971 [.tab,.int z] T=B' (.lst (l.map .int),T):=by
 rw[oW,ceq]
 rcases a with⟨rfl,rfl⟩|⟨a,_,b⟩|⟨a,rfl,k,r,q,d⟩
 .rfl
 .have s1:cv 2 T (.tup [.int 6,it l]) (.int 1)=B' (it l):=rfl;have e1:rO "list" [it l]=B' (.lst (l.map .int)):=rfl;simp only[aaa,aj a,cond_false,cF h b,s0,ceq,aW,cond_true,s1,e1]
 .simp only[aaa,aj a,cond_false,cF h d,s0,ceq,aj q];rfl
noncomputable def DX(L:V)(v13:V)(VY:TS):Option (Option V×TS):=C' (CF v13) λNy=>(C' ((C' ((C' ((C' (j8 Ny.1) λk=>C' (hJ L F' (B' k)) λv=>B' (v,VY))) λK9=>(C' (cu K9.2 .NotIn Ny.2 K9.1) λPn=>B' (Pn,K9.2)))) λK0=>bif K0.1 then B' (true,K0.2) else B' (false,K0.2))) λNI=>bif NI.1 then(C' (B' (Ny.2,NI.2)) λSP=>B' (B' SP.1,SP.2)) else B' (F',NI.2))
theorem Cd(l:List Int)(k:Nat)(x:Int)(T:TS):DX (.lst (l.map .int)) (.tup [.int (k:Nat),.int x]) T=B' (bif L' (x∈l.take k) then F' else B' (.int x),T):=by
 have e0:CF (.tup [.int (k:Nat),.int x])=B' (.int (k:Nat),.int x):=rfl
 have e1:j8 (.int (k:Nat))=B' (k:Int):=rfl
 have e2:hJ (.lst (l.map .int)) F' (B' (k:Int))=B' (.lst ((l.take k).map .int)):=by
  show(bif L' ((0:Int)<=k) then B' (V.lst ((l.map V.int).take (k:Int).toNat)) else F')=_;rw[ak P9,Int.toNat_natCast,List.map_take];rfl
 unfold DX
 simp only[e0,e1,e2,aaa,Fx,nS,Option.map]
 cases L' (x∈l.take k)<;>rfl
theorem DY(a b ks:List Int):dd (a++b) ks=dd b (dd a ks):=List.foldl_append ..
theorem vQ(l:List Int)(T:TS):∀(s MC:List Int),l=MC++s->∃new,cC (DX (.lst (l.map .int))) (fF MC.length (s.map .int)) T=B' (new.map .int,T)/\dd s (dd MC [])=dd MC []++new
 |[],MC,_=>⟨[],rfl,by simp [dd]⟩
 |x::s,MC,e=>by
  have e':l=(MC++[x])++s:=by refine sb e ?_;simp
  refine x12 (vQ l T s (MC++[x]) e') λnew c1 d1=>?_;have hl:(MC++[x]).length=MC.length+1:=by simp
  have ht:l.take MC.length=MC:=by refine sb e ?_;simp
  have hd:dd (MC++[x]) []=eX x (dd MC []):=by rw[DY];rfl
  rw[hl] at c1;rw[hd] at d1;by_cases m:x∈MC
  .refine⟨new,?_,?_⟩
   .show(DX _ (.tup [.int (MC.length:Nat),.int x]) T).bind _=_;rw[Cd,ht,ak m,aaa];show(cC _ (fF (MC.length+1) (s.map V.int)) T).bind _=_;refine sb c1 ?_;rfl
   .rw[kF (fv.mpr m)] at d1;show dd s (eX x (dd MC []))=_;refine sb (kF (fv.mpr m)) ?_;exact d1
  .have m':x∉dd MC []:=λq=>m (fv.mp q);refine⟨x::new,?_,?_⟩
   .show(DX _ (.tup [.int (MC.length:Nat),.int x]) T).bind _=_;rw[Cd,ht,aj m,aaa];show(cC _ (fF (MC.length+1) (s.map V.int)) T).bind _=_;refine sb c1 ?_;rfl
   .show dd s (eX x (dd MC []))=_;refine sb d1 ?_;unfold eX;refine sb (aL m') ?_;simp
theorem tt:∀(l:List V)(k:Nat),(fF k l).length=l.length
 |[],_=>rfl
 |x::l,k=>aM (· +1) (tt l (k+1))
theorem zd(T:TS)(l:List Int)(h:l.length<64):fZ "sorted" [.lst (l.map .int)] T=B' (.lst ((cQ l).map .int)):=by
 have e:∀l:List Int,o7 (l.map V.int)=B' l:=λl=>by
  induction l with
  |nil=>rfl
  |cons a l ih=>show(o7 (l.map V.int)).map (a::·)=_;refine sb ih ?_;rfl
 show(C' (o7 (l.map V.int)) λz=>o8 (l.map V.int).length (V.lst ((cQ z).map .int)))=_
 rw[e,aaa,ae]
 unfold o8
 refine sb (ak h) ?_;rfl
theorem tv(T:TS)(l:List Int):fZ "len" [.lst (l.map .int)] T=B' (.int (l.length:Nat)):=by
 show B' (V.int ((l.map V.int).length:Nat))=_
 rw[ae]
theorem Bn(h:Tb c T){l:List Int}(a:PA T z (cQ (dd l [])))(hl:l.length<60):ph (n+1) 964 [.tab,.int z,.lst (l.map .int)] T=B' (.bool true,T):=by
 refine x12 (vQ l T l [] rfl) λnew c1 d1=>?_
 have d1:dd l []=new:=by simpa [dd] using d1
 rw[d1] at a
 have hn:new.length<=l.length:=by
  have:=gD l [];rw[d1] at this;simpa using this
 rw[uu]
 have e0:CG (.lst (l.map .int))=B' (fF 0 (l.map .int)):=rfl
 simp only[aaa,e0]
 rw[cH () (by rw[tt,ae];exact O3 hl rfl),aaa]
 show((((cC (DX (.lst (l.map .int))) (fF 0 (l.map V.int)) T).bind _).bind _).bind _).bind _=_
 rw[show cC (DX (.lst (l.map .int))) (fF 0 (l.map V.int)) T=B' (new.map .int,T) from c1]
 simp only[aaa,zd T new (Gw hn hl rfl),tv,ceq]
 generalize cQ new=K at*
 rcases a with⟨rfl,rfl⟩|⟨_,b,d⟩|⟨_,rfl,k,r,q,d⟩
 .rfl
 .have n0:¬((K.length:Nat):Int)=0:=Ig b rfl;have n1:¬((K.length:Nat):Int)=1:=Ig b rfl;have e1:rO "tuple" [.lst (K.map .int)]=B' (it K):=rfl;have e2:fit [V.int 6,it K].length (V.tup [V.int 6,it K])=B' (V.tup [V.int 6,it K]):=rfl;have e3:(V.tup [V.int 6,it K]).hk 6=true:=by
   show((V.int 6).hk 5&&((it K).hk 5&&true))=true;have:(it K).hk 5=(K.map V.int).all (V.hk 4):=rfl;rw[this,sV];rfl
  have e4:cu T .Eq (V.tup [V.int 6,it K]) (V.tup [V.int 6,it K])=B' true:=by
   show(bif(V.tup [V.int 6,it K]).hk 6&&(V.tup [V.int 6,it K]).hk 6 then B' ((V.tup [V.int 6,it K]).beq (V.tup [V.int 6,it K])) else F')=_;rw[e3,V.beq_refl];rfl
  simp only[aj n0,aj n1,cond_false,cF h d,e1,aaa,e2,e4]
 .have e5:cv 2 T (.lst [.int z]) (.int 0)=B' (.int z):=rfl;have d0:decide ((([z]:List Int).length:Int)=0)=false:=rfl;have d1:decide ((([z]:List Int).length:Int)=1)=true:=rfl;simp only[d0,d1,cond_false,cond_true,aC,List.map_nil,e5,aaa,ceq,aW]
theorem xe(h:Tb c T){Sg QB:Int}(a:PA T Sg (ps.map (·.1)))(hl:ps.length<=10){l:List (Int×V)}(hb:∀p∈ps,Bk l p.1 p.2){q:String}(hq:q∈names4)(P:List Int)(hr:PA T QB (cQ (dd ((if 2<=ps.length then ps.filter λp=>p.2.aaW q P else ps).map (·.1)) []))):ph (n+2) 981 [.tab,.di l,.int Sg,.int QB,sv q,.lst (P.map .int)] T=B' (.bool true,T):=by
 rw[nN,og n h a]
 simp only[aaa,tv,Ds,ae]
 by_cases h2:2<=ps.length
 .rw[aZ h2] at hr;refine sb (ak (show(1:Int)<(ps.length:Nat) by exact H7 h2 rfl)) ?_;have ai:((ps.map λp=>p.1).map V.int)=ps.map λp=>V.int p.1:=by refine sb bw ?_;rfl
  simp only[cond_true,eil,aaa];rw[cH () (by rw[ae,ae];exact O1 hl rfl),aaa,ai,cN _ T (λp:Int×Pk=>V.int p.1) (λp=>p.2.aaW q P) ps (λp m=>by
   refine sb (DT n T (hb p m) hq P λx hx=>DW hx) ?_
   simp only[aaa,cL]
   cases p.2.aaW q P<;>rfl)]
  simp only[aaa];have ai':((ps.filter λp=>p.2.aaW q P).map λp=>V.int p.1)=(((ps.filter λp=>p.2.aaW q P).map λp=>p.1).map V.int):=by refine sb bw ?_;rfl
  refine sb ai' ?_;exact Bn n h hr (by rw[ae];exact aQ (aU _ _) (O4 hl rfl))
 .rw[aL h2] at hr;refine sb (aj (show ¬(1:Int)<(ps.length:Nat) by exact JA h2 rfl)) ?_;simp only[cond_false];exact Bn n h hr (by rw[ae];exact O4 hl rfl)
end
theorem Kd(a b:Int)(h:0<b)(h':b<1073741824):cI .FloorDiv (.int a) (.int b)=B' (.int (a/b)):=by
 show(bif L' (0<b)&&decide (b<1073741824) then B' (V.int (a/b)) else F')=_
 (refine sb (ak h) ?_;refine sb (ak h') ?_);rfl
theorem Ke(a b:Int)(h:0<b):cI .Mod (.int a) (.int b)=B' (.int (a%b)):=by
 show(bif L' (0<b) then B' (V.int (a%b)) else F')=_
 refine sb (ak h) ?_;rfl
theorem Kf(a:Int):cI .FloorDiv (.int a) (.int 1)=B' (.int (a/1)):=rfl
theorem IB(a:Int):cI .FloorDiv (.int a) (.int 3)=B' (.int (a/3)):=rfl
theorem Kg(a:Int):cI .FloorDiv (.int a) (.int 9)=B' (.int (a/9)):=rfl
theorem HA(a:Int):cI .FloorDiv (.int a) (.int 21)=B' (.int (a/21)):=rfl
theorem HB(a:Int):cI .FloorDiv (.int a) (.int 63)=B' (.int (a/63)):=rfl
theorem HC(a:Int):cI .Mod (.int a) (.int 2)=B' (.int (a%2)):=rfl
theorem IC(a:Int):cI .Mod (.int a) (.int 3)=B' (.int (a%3)):=rfl
theorem ID(a:Int):cI .Mod (.int a) (.int 9)=B' (.int (a%9)):=rfl
theorem DZ(a:Int):cI .Mod (.int a) (.int 21)=B' (.int (a%21)):=rfl
theorem gn{i:Int}{m:Nat}(h0:0<=i)(h1:i<m):i∈(List.range m).map Int.ofNat:=aJ.mpr ⟨i.toNat,List.mem_range.mpr (Jj h0 h1),by show(i.toNat:Int)=i;exact Eu h0⟩
theorem rE(T:TS):∀i∈(List.range 21).map Int.ofNat,∃t,(t∈TG\/t=1)/\cv 2 T aak (.int i)=B' (.tup [.int t,.lst ((cA t).map .int)]):=by
 refine fi ⟨⟨16,?_⟩,⟨18,?_⟩,⟨19,?_⟩,⟨17,?_⟩,⟨20,?_⟩,⟨9,?_⟩,⟨8,?_⟩,⟨12,?_⟩,⟨5,?_⟩,⟨4,?_⟩,⟨21,?_⟩,⟨22,?_⟩,⟨23,?_⟩,⟨6,?_⟩,⟨7,?_⟩,⟨24,?_⟩,⟨25,?_⟩,⟨26,?_⟩,⟨10,?_⟩,⟨11,?_⟩,⟨1,?_⟩,ao⟩<;>exact⟨by decide,by kernel_rfl⟩
theorem FW(T:TS):∀i∈(List.range 18).map Int.ofNat,∃t,t∈OT/\cv 2 T aak (.int i)=B' (.tup [.int t,.lst ((cA t).map .int)]):=by
 refine fi ⟨⟨16,?_⟩,⟨18,?_⟩,⟨19,?_⟩,⟨17,?_⟩,⟨20,?_⟩,⟨9,?_⟩,⟨8,?_⟩,⟨12,?_⟩,⟨5,?_⟩,⟨4,?_⟩,⟨21,?_⟩,⟨22,?_⟩,⟨23,?_⟩,⟨6,?_⟩,⟨7,?_⟩,⟨24,?_⟩,⟨25,?_⟩,⟨26,?_⟩,ao⟩<;>exact⟨by decide,by kernel_rfl⟩
noncomputable def plO(nm:String):Option (Int×Int)->List (String×Int×Int)
 |none=>[]
 |some p=>[(nm,p.1,p.2)]
noncomputable def oh:Option (Int×Int)->Option (Int×Int)->V
 |none,F'=>.di []
 |some a,F'=>.ds [(Str.ofString "k",mh (rK a.1 a.2))]
 |none,B' b=>.ds [(Str.ofString "p",mh (rK b.1 b.2))]
 |some a,B' b=>.ds [(Str.ofString "k",mh (rK a.1 a.2)),(Str.ofString "p",mh (rK b.1 b.2))]
noncomputable def Eo(o:Option (Int×Int)):Prop:=∀p,o=B' p->(p.1∈TG\/p.1=1)/\p.2∈([0,1,2]:List Int)
noncomputable def shO(a b:Option (Int×Int)):eZ:=⟨plO "k" a++plO "p" b,[],F',F'⟩
theorem Ce(a b:Option (Int×Int)):Rd (oh a b) (shO a b).rl:=by
 induction a using Option.casesOn<;>induction b using Option.casesOn<;>(refine⟨λT=>?_,λT=>?_,λn T e=>?_⟩<;>exact cE (by kernel_rfl))
theorem vR{a b:Option (Int×Int)}(ha:Eo a)(hb:Eo b):(Pk.shp (shO a b)).mem:=by
 have h1:∀p∈(shO a b).props,(p.1="k"/\a=B' p.2)\/(p.1="p"/\b=B' p.2):=by
  intro p m;rcases bf.mp (show p∈plO "k" a++plO "p" b from m) with m|m
  .induction a using Option.casesOn with
   |none=>cases m
   |some x=>rw[am.mp m];exact .inl ⟨rfl,rfl⟩
  .induction b using Option.casesOn with
   |none=>cases m
   |some x=>rw[am.mp m];exact .inr ⟨rfl,rfl⟩
 refine⟨⟨λp m=>?_,?_⟩,λp m=>?_,λt e=>(no e),λt e=>(no e)⟩
 .rcases h1 p m with q|q<;>rw[q.1]<;>decide
 .show(plO "k" a++plO "p" b).length<=2;induction a using Option.casesOn<;>induction b using Option.casesOn<;>simp [plO]
 .rcases h1 p m with q|q
  .exact ha _ q.2
  .exact hb _ q.2
section
variable (n:Nat)
theorem oi(z:Int):z/21%3=0\/z/21%3=1\/z/21%3=2:=(show ∀z∈(List.range 3).map Int.ofNat,z=0\/z=1\/z=2 from by decide) _ (gn (bU _ (by decide)) (bz _ (by decide)))
theorem jk(x:Int):x%2=0\/x%2=1:=Int.emod_two_eq x
noncomputable abbrev LS(x z t:Int)(o d:V)(r:Int)(s:Sl):List Sl:=[.pl .tab,.pl aak,.pl (.int x),.ow o,.ow d,.pl (.int r),.pl (.int z),.pl (.int t),.pl (.lst ((cA t).map .int)),s]
theorem Kh(f:Int):21*f/21=f:=Int.mul_ediv_cancel_left f (by decide)
theorem eV{x f p:Int}{o d:V}{r:Int}{s:Sl}(hs:s.aae=false){k:Kn}(hf:z/21%3=f)(hp:x%2=p){X:cK}(e:dk n (λG T=>k ((G.set 2 (.pl (.int x))).set 6 (.pl (.int z))) T) (LS p (21*f) t o d r s) T=X):dk n k (LS x z t o d r s) T=X:=by
 refine Eq.trans ?_ e
 refine(dI _ _ _ _ _ _ _ _ _ _ hs _ _).trans (Eq.trans ?_ (dI _ _ _ _ _ _ _ _ _ _ hs _ _).symm)
 clear e;subst hf hp
 simp only[HA,aaa,IC,Kh,Int.emod_emod,HC]
 rfl
theorem jl{f:Int}(ht:t∈TG\/t=1)(hf:f∈([0,1,2]:List Int)):Eo (B' (t,f)):=λp e=>by obtain rfl:=ac e;exact⟨ht,hf⟩
theorem rF:Eo F':=λp e=>by exact no e
theorem vS{t f:Int}(h:f≠1):mh (rK t f)=.tup [.lst ((cA t).map .int),.int 2]:=by unfold mh rK;simp only[aL h,a0]
theorem FX(t:Int):mh (rK t 1)=.tup [.lst ((cA t).map .int++[.int 0]),.int 1]:=by
 show V.tup [.lst ((cA t++[0]).map .int),.int 1]=_
 refine sb bM ?_;rfl
theorem FY(t:Int):cI .Add (.lst ((cA t).map .int)) (.lst [.int 0])=B' (.lst ((cA t).map V.int++[.int 0])):=by
 show fit (((cA t).map V.int).length+1) _=_
 exact cH _ (by rw[ae];have:=j6 t;exact JB this rfl)
noncomputable def d2(t:Int):V:=.tup [.lst ((cA t).map .int),.int 2]
noncomputable def d1(t:Int):V:=.tup [.lst ((cA t).map .int++[.int 0]),.int 1]
theorem xf(x z t:Int)(ht:t∈TG\/t=1)(k:Kn):∃o f,Eo o/\dk n k (LS x z t (.lst []) (.di []) 0 .un) T=k (LS x z t (.lst ((plO "k" o).map i5)) (oh o F') 0 (.pl (.int f))) T:=by
 rcases oi z with hf|hf|hf
 .rcases jk x with hp|hp
  .have hd:oh (B' (t,0)) F'=.ds [(Str.ofString "k",d2 t)]:=aM (λe=>V.ds [(Str.ofString "k",e)]) (vS (f:=0) (by decide));exact(m22 (B' (t,0)) 0 (jl ht (by decide)) (eV n rfl hf hp (by rw[hd];kernel_rfl)))
  .have hd:oh (B' (t,2)) F'=.ds [(Str.ofString "k",d2 t)]:=aM (λe=>V.ds [(Str.ofString "k",e)]) (vS (f:=2) (by decide));exact(m22 (B' (t,2)) 0 (jl ht (by decide)) (eV n rfl hf hp (by rw[hd];kernel_rfl)))
 .have hd:oh (B' (t,1)) F'=.ds [(Str.ofString "k",d1 t)]:=aM (λe=>V.ds [(Str.ofString "k",e)]) (FX t);refine(m22 (B' (t,1)) 1 (jl ht (by decide)) (eV n rfl hf rfl ?_));rw[hd];refine(dI _ _ _ _ _ _ _ _ _ _ rfl _ _).trans ?_;rw[FY];kernel_rfl
 .exact(m22 F' 2 rF (eV n rfl hf rfl (by kernel_rfl)))
theorem lF(a:Option (Int×Int))(t f:Int):oh a (B' (t,f))=match a with
  |none=>.ds [(Str.ofString "p",mh (rK t f))]
  |some p=>.ds [(Str.ofString "k",mh (rK p.1 p.2)),(Str.ofString "p",mh (rK t f))]:=by induction a using Option.casesOn<;>rfl
theorem xg(x z t S2:Int)(ht:t∈TG\/t=1)(a:Option (Int×Int))(k:Kn):∃o f,Eo o/\dk n k (LS x z t (.lst ((plO "k" a).map i5)) (oh a F') 1 (.pl (.int S2))) T=k (LS x z t (.lst ((plO "k" a++plO "p" o).map i5)) (oh a o) 1 (.pl (.int f))) T:=by
 have one:∀p,p=0\/p=1->∀k:Kn,dk n k (LS p (21*1) t (.lst ((plO "k" a).map i5)) (oh a F') 1 (.pl (.int S2))) T=k (LS p (21*1) t (.lst ((plO "k" a++plO "p" (B' (t,1))).map i5)) (oh a (B' (t,1))) 1 (.pl (.int 1))) T:=λp hp k=>by
  rw[lF,FX];refine(dI _ _ _ _ _ _ _ _ _ _ rfl _ _).trans ?_;rw[FY];rcases hp with rfl|rfl<;>induction a using Option.casesOn<;>kernel_rfl
 rcases oi z with hf|hf|hf
 .rcases jk x with hp|hp
  .exact(m22 F' 2 rF (eV n rfl hf hp (by clear one;induction a using Option.casesOn<;>kernel_rfl)))
  .refine(m22 (B' (t,2)) 0 (jl ht (by decide)) (eV n rfl hf hp ?_));rw[lF,vS (f:=2) (by decide)];clear one;induction a using Option.casesOn<;>kernel_rfl
 .exact(m22 (B' (t,1)) 1 (jl ht (by decide)) (eV n rfl hf rfl (one _ (jk x) _)))
 .rcases jk x with hp|hp
  .refine(m22 (B' (t,0)) 0 (jl ht (by decide)) (eV n rfl hf hp ?_));rw[lF,vS (f:=0) (by decide)];clear one;induction a using Option.casesOn<;>kernel_rfl
  .exact(m22 F' 2 rF (eV n rfl hf hp (by clear one;induction a using Option.casesOn<;>kernel_rfl)))
theorem FZ(h:Tb c T){k:Int}{r:List V}(a:At T t (.tup (.int k::r)))(hk:k≠1):t≠6:=by
 rintro rfl
 have:=a.row (cJ h 6 (.tup [.int 1,sv "string"]) (by kernel_rfl))
 injection this with this
 injection this with this _
 injection this with this
 exact hk this
theorem Ki(props:List V):rO "tuple" [.lst props]=B' (.tup props):=rfl
theorem Bo(S:eZ)(h:S.Ok)(si ni:V)(ca:V)(h1:ca.hk 5=true)(h2:si.hk 5=true)(h3:ni.hk 5=true):(V.tup [.int 8,.tup (S.props.map i5),ca,.tup [],si,ni,.int 0]).hk 6=true:=by
 have hp:(V.tup (S.props.map i5)).hk 5=true:=by
  show(S.props.map i5).all (V.hk 4)=true;rw[List.all_map,aE];intro p m;have key:∀x∈(["k","p"]:List String),(sv x).hk 3=true:=j4 ⟨by kernel_rfl,by kernel_rfl,ao⟩;have:=key p.1 (h.names p m);show(V.tup [sv p.1,.int p.2.1,.int p.2.2,.int 0]).hk 4=true;show((sv p.1).hk 3&&((V.int p.2.1).hk 3&&((V.int p.2.2).hk 3&&((V.int 0).hk 3&&true))))=true;rw[this];rfl
 show((V.int 8).hk 5&&((V.tup (S.props.map i5)).hk 5&&(ca.hk 5&&((V.tup []).hk 5&&(si.hk 5&&(ni.hk 5&&((V.int 0).hk 5&&true)))))))=true
 (refine sb hp ?_;refine sb h1 ?_;refine sb h2 ?_;refine sb h3 ?_);rfl
structure ze (c:Nat) (T:TS) (x:cK):Prop where
 ex:∃t T' k d,x=B' (.tup [.int t,sv k.aaA,d],T')/\Tb c T'/\Ex T T'/\Pc T' t k/\k.mem/\Rd d k.rl
theorem zf(h:Tb (c+1) T)(x:Int):ze c T (ph (n+2) 952 [.tab,aak,.int x] T):=by
 have UT:cv 2 T (.lst [(.int 1),(.int 63)]) (.int 0)=B' (.int 1):=rfl
 have s1':cv 2 T (.lst [(.int 1),(.int 63)]) (.int 1)=B' (.int 63):=rfl
 refine hide λQz qz=>?_
 refine x12 (rE T (x/1%21) (gn (bU _ (by decide)) (bz _ (by decide)))) λt0 Vk et0=>?_
 refine x12 (rE T (x/63%21) (gn (bU _ (by decide)) (bz _ (by decide)))) λt1 Yq YD=>?_
 refine iP (xf (T:=T) (n+1) x (x/1) t0 Vk λG T=>cG (dQ (n+1)) [.int 1] G T (dR (n+1))) λa f0 Zz e0=>?_
 refine iP (xg (T:=T) (n+1) x (x/63) t1 f0 Yq a λG T=>cG (dQ (n+1)) [] G T (dR (n+1))) λb f1 ZR e1=>?_
 have er:kU (.int 2)=B' [.int 0,.int 1]:=by kernel_rfl
 have ef:fit ([.int 0,.int 1]:List V).length ()=B' ():=rfl
 have eu:∀t:Int,iG (.tup [.int t,.lst ((cA t).map .int)])=B' [.int t,.lst ((cA t).map .int)]:=λO=>rfl
 have mem:=vR Zz ZR
 refine x24 (dD n h [.int 8,.tup ((plO "k" a++plO "p" b).map i5),.tup [],.tup [],.tup [],.tup [],.int 0] (Bo (shO a b) mem.1 _ _ _ rfl rfl rfl)) λz T' ep tp xp ap=>?_
 refine qz ?_
 refine⟨z,T',.shp (shO a b),oh a b,?_,tp,xp,⟨.obj ap mem.1 mem.2,FZ tp ap (by decide)⟩,mem,Ce a b⟩
 rw[oV]
 simp only[er,aaa,ef,dv,dw]
 rw[gj _ _ _ _ _ _ _ _ _ _ _ rfl rfl rfl rfl rfl,UT]
 simp only[aaa,Kf,DZ,et0,eu]
 have g0:eN (aal (fnAt 952)) [Str.ofString "tag",Str.ofString "values"] [.int t0,.lst ((cA t0).map .int)] [.pl .tab,.pl aak,.pl (.int x),.ow (.lst []),.ow (.di []),.pl (.int 0),.pl (.int (x/1)),.un,.un,.un]=B' [.pl .tab,.pl aak,.pl (.int x),.ow (.lst []),.ow (.di []),.pl (.int 0),.pl (.int (x/1)),.pl (.int t0),.pl (.lst ((cA t0).map .int)),.un]:=by kernel_rfl
 rw[g0,aaa]
 refine e0.trans ?_
 show dQ (n+1) (.int 1) _ T _=_
 rw[gj _ _ _ _ _ _ _ _ _ _ _ rfl rfl rfl rfl rfl,s1']
 simp only[aaa,HB,DZ,YD,eu]
 have g1:∀P R v:V,eN (aal (fnAt 952)) [Str.ofString "tag",Str.ofString "values"] [.int t1,.lst ((cA t1).map .int)] [.pl .tab,.pl aak,.pl (.int x),.ow P,.ow R,.pl (.int 1),.pl (.int (x/63)),.pl (.int t0),.pl v,.pl (.int f0)]=B' [.pl .tab,.pl aak,.pl (.int x),.ow P,.ow R,.pl (.int 1),.pl (.int (x/63)),.pl (.int t1),.pl (.lst ((cA t1).map .int)),.pl (.int f0)]:=λP R v=>by kernel_rfl
 rw[g1,aaa]
 refine e1.trans ?_
 show dR (n+1) _ T=_
 rw[kE _ _ _ _ _ _ _ _ _ _ rfl rfl rfl rfl rfl]
 simp only[Ki,aaa]
 have f7:∀a b c d e f g:V,fit [a,b,c,d,e,f,g].length (V.tup [a,b,c,d,e,f,g])=B' (V.tup [a,b,c,d,e,f,g]):=λO O O O O O O=>rfl
 have f3:∀a b c:V,fit [a,b,c].length (V.tup [a,b,c])=B' (V.tup [a,b,c]):=λO O O=>rfl
 simp only[f7,aaa,ep,f3]
 rfl
end
theorem uO:(Pk.shp SE).mem:=vR (a:=F') (b:=F') (λp e=>by cases e) (λp e=>by cases e)
noncomputable def SI(t:Int):eZ:=⟨[],[],B' t,F'⟩
noncomputable def SN(t:Int):eZ:=⟨[],[],F',B' t⟩
noncomputable def SF(s:Int):eZ:=⟨[],[s],F',F'⟩
theorem tw(s:List Int){a b:Option Int}(ha:∀t,a=B' t->t∈TG\/t=1)(hb:∀t,b=B' t->t∈TG\/t=1):(Pk.shp ⟨[],s,a,b⟩).mem:=⟨⟨λp m=>(by cases m),by simp⟩,λp m=>(by cases m),ha,hb⟩
theorem Cf(h:t∈TG\/t=1):t≠-1:=by
 rcases h with h|h
 .have key:∀t∈TG,t≠-1:=by decide
  exact key t h
 .exact GF h rfl
theorem Kj(h:t∈TG\/t=1):(SI t).rl=λq=>B' (cA t,1):=by
 funext q
 have e1:(SI t).find q=F':=rfl
 have e2:iT (SI t) q=t:=by
  unfold iT SI;by_cases q7:q="7"<;>simp [q7]
 unfold eZ.rl
 rw[e1,e2]
 show(if t=-1 then F' else B' (cA t,1))=_
 rw[aL (Cf h)]
theorem Kk(h:t∈TG\/t=1):(SN t).rl=λq=>if q="7" then B' (cA t,1) else F':=by
 funext q
 have e1:(SN t).find q=F':=rfl
 have e2:iT (SN t) q=if q="7" then t else -1:=by
  unfold iT SN;by_cases q7:q="7"<;>simp [q7]
 unfold eZ.rl
 rw[e1,e2]
 by_cases q7:q="7"
 .simp only[q7,bJ];show(if t=-1 then F' else B' (cA t,1))=_;rw[aL (Cf h)]
 .simp [q7]
theorem Kl(s:Int):(SF s).rl=λO=>F':=by
 funext q
 have e1:(SF s).find q=F':=rfl
 have e2:iT (SF s) q=-1:=by
  unfold iT SF;by_cases q7:q="7"<;>simp [q7]
 unfold eZ.rl
 (refine sb e1 ?_;refine sb e2 ?_);rfl
theorem HD(vs:List Int):Rd (.ds [(Str.ofString "k",mh (vs,1)),(Str.ofString "p",mh (vs,1)),(Str.ofString "q",mh (vs,1)),(Str.ofString "7",mh (vs,1))]) λO=>B' (vs,1):=by
 refine⟨λT=>?_,λT=>?_,λn T e=>?_⟩<;>exact cE (by kernel_rfl)
theorem HE(vs:List Int):Rd (.ds [(Str.ofString "7",mh (vs,1))]) λq=>if q="7" then B' (vs,1) else F':=by
 refine⟨λT=>?_,λT=>?_,λn T e=>?_⟩<;>exact cE (by kernel_rfl)
theorem HF:Rd (.ds [(Str.ofString "k",.tup [.lst [.int 5],.int 2])]) SJ.rl:=by
 refine⟨λT=>?_,λT=>?_,λn T e=>?_⟩<;>exact cE (by kernel_rfl)
theorem D0:(Pk.shp SJ).mem:=⟨⟨by simp [SJ],by simp [SJ]⟩,λp m=>(by
 refine sb (show p=("k",16,0) from am.mp m) ?_
 exact⟨.inl (by decide),by decide⟩),λt e=>(no e),λt e=>(no e)⟩
theorem HG(y:Int):y%9=0\/y%9=1\/y%9=2\/y%9=3\/y%9=4\/y%9=5\/y%9=6\/y%9=7\/y%9=8:=(show ∀z∈(List.range 9).map Int.ofNat,z=0\/z=1\/z=2\/z=3\/z=4\/z=5\/z=6\/z=7\/z=8 from by decide) _ (gn (bU y (by decide)) (bz y (by decide)))
theorem f2(a b:V):fit [a,b].length (V.tup [a,b])=B' (V.tup [a,b]):=rfl
theorem f3(a b c:V):fit [a,b,c].length (V.tup [a,b,c])=B' (V.tup [a,b,c]):=rfl
section
variable (n:Nat)
noncomputable def IE(x:Int)(v:V)(y t:Int):List Sl:=[.pl .tab,.pl aak,.pl (.int x),.pl v,.pl (.int y),.pl (.int t),.pl (.lst ((cA t).map .int)),.un,.un,.un]
theorem D1(x:Int)(v:V)(y t:Int):el n (IE x v y t) T=el n (IE x v (y%9) t) T:=(gU ..).trans (Eq.trans (by rw[ID,ID,Int.emod_emod]) (gU ..).symm)
theorem zg(h:Tb (c+2) T)(x y t:Int)(v:V)(ht:t∈TG\/t=1):ze c T (el (n+1) [.pl .tab,.pl aak,.pl (.int x),.pl v,.pl (.int y),.pl (.int t),.pl (.lst ((cA t).map .int)),.un,.un,.un] T):=by
 refine sb (D1 (n+1) x v y t) ?_
 rcases HG y with hy|hy|hy|hy|hy|hy|hy|hy|hy<;>refine sb hy ?_
 .exact⟨10,T,.opn,.di [],by kernel_rfl,h.less tN,.rfl,rfl,ao,i9⟩
 .exact⟨4,T,.nul,.di [],by kernel_rfl,h.less tN,.rfl,.inl rfl,ao,i9⟩
 .exact⟨5,T,.nul,.di [],by kernel_rfl,h.less tN,.rfl,.inr rfl,ao,i9⟩
 .exact⟨11,T,.shp SE,.di [],by kernel_rfl,h.less tN,.rfl,⟨.obj (cJ h 11 _ (by kernel_rfl)) uO.1 uO.2,by decide⟩,uO,Ce F' F'⟩
 .exact⟨6,T,.val,.di [],by kernel_rfl,h.less tN,.rfl,rfl,ao,i9⟩
 .refine x24 (dD n h [.int 13,.tup [],.tup [],.int 3,.tup [],.int 0] (by rfl)) λs T₁ e1 t1 x1 a1=>?_;refine x24 (dD n t1 [.int 8,.tup [],.tup [.int s],.tup [],.tup [],.tup [],.int 0] (by rfl)) λz T₂ e2 t2 x2 a2=>?_;refine⟨z,T₂,.shp (SF s),.di [],?_,t2,x1.trans x2,⟨.obj a2 (tw [s] (λt e=>by cases e) (λt e=>by cases e)).1 (tw [s] (λt e=>by cases e) (λt e=>by cases e)).2,FZ t2 a2 (by decide)⟩,tw [s] (λt e=>by cases e) (λt e=>by cases e),by show Rd _ (SF s).rl;rw[Kl];exact i9⟩;refine Eq.trans (b:=(C' (ph (n+1) 137 [.tab,(.tup [(.int 13),(.tup []),(.tup []),(.int 3),(.tup []),(.int 0)])] T) λp8=>(C' ((C' (ph (n+1) 137 [.tab,(.tup [(.int 8),(.tup []),(.tup [p8.1]),(.tup []),(.tup []),(.tup []),(.int 0)])] p8.2) λp9=>B' ([p9.1,(sv "shape"),(.di [])],p9.2))) λKM=>C' (fit KM.1.length (V.tup KM.1)) λv=>B' (v,KM.2)))) (by kernel_rfl) ?_;simp only[e1,e2,aaa,f3];rfl
 .refine x24 (dD n h [.int 8,.tup [],.tup [],.tup [],.tup [.int t,.int 0],.tup [],.int 0] (by rfl)) λz T₁ e1 t1 x1 a1=>?_;have m:=tw [] (a:=B' t) (b:=F') (λu e=>by obtain rfl:=ac e;exact ht) (λu e=>by cases e);refine⟨z,T₁,.shp (SI t),.ds [(Str.ofString "k",mh (cA t,1)),(Str.ofString "p",mh (cA t,1)),(Str.ofString "q",mh (cA t,1)),(Str.ofString "7",mh (cA t,1))],?_,t1.less tN,x1,⟨.obj a1 m.1 m.2,FZ t1 a1 (by decide)⟩,m,by show Rd _ (SI t).rl;refine sb (Kj ht) ?_;exact HD _⟩;refine Eq.trans (b:=(C' ((C' (ph (n+1) 137 [.tab,(.tup [.int 8,.tup [],.tup [],.tup [],.tup [.int t,.int 0],.tup [],.int 0])] T) λKT=>(C' ((C' ((C' ((C' ((C' ((C' ((C' ((C' (B' ([],KT.2)) λQx=>B' (((sv "7"),(.tup [.lst ((cA t).map .int),(.int 1)]))::Qx.1,Qx.2))) λQA=>B' (((sv "q"),(.tup [.lst ((cA t).map .int),(.int 1)]))::QA.1,QA.2))) λTc=>B' (((sv "p"),(.tup [.lst ((cA t).map .int),(.int 1)]))::Tc.1,Tc.2))) λOt=>B' (((sv "k"),(.tup [.lst ((cA t).map .int),(.int 1)]))::Ot.1,Ot.2))) λLI=>C' (d7 LI.1) λv=>B' (v,LI.2))) λMu=>B' ([Mu.1],Mu.2))) λOA=>B' ((sv "shape")::OA.1,OA.2))) λQ1=>B' (KT.1::Q1.1,Q1.2)))) λLW=>C' (fit LW.1.length (V.tup LW.1)) λv=>B' (v,LW.2))) (by kernel_rfl) ?_;refine sb e1 ?_;kernel_rfl
 .refine x24 (dD n h [.int 8,.tup [],.tup [],.tup [],.tup [],.tup [.int t,.int 0],.int 0] (by rfl)) λz T₁ e1 t1 x1 a1=>?_;have m:=tw [] (a:=F') (b:=B' t) (λu e=>by cases e) (λu e=>by cases e;exact ht);refine⟨z,T₁,.shp (SN t),.ds [(Str.ofString "7",mh (cA t,1))],?_,t1.less tN,x1,⟨.obj a1 m.1 m.2,FZ t1 a1 (by decide)⟩,m,by show Rd _ (SN t).rl;refine sb (Kk ht) ?_;exact HE _⟩;refine Eq.trans (b:=(C' ((C' (ph (n+1) 137 [.tab,(.tup [.int 8,.tup [],.tup [],.tup [],.tup [],.tup [.int t,.int 0],.int 0])] T) λMb=>(C' ((C' ((C' ((C' ((C' (B' ([],Mb.2)) λUq=>B' (((sv "7"),(.tup [.lst ((cA t).map .int),(.int 1)]))::Uq.1,Uq.2))) λNl=>C' (d7 Nl.1) λv=>B' (v,Nl.2))) λQJ=>B' ([QJ.1],QJ.2))) λTT=>B' ((sv "shape")::TT.1,TT.2))) λSC=>B' (Mb.1::SC.1,SC.2)))) λNq=>C' (fit Nq.1.length (V.tup Nq.1)) λv=>B' (v,Nq.2))) (by kernel_rfl) ?_;refine sb e1 ?_;kernel_rfl
 .refine x24 (dD n h [.int 9,.int 2,.tup []] (by rfl)) λz T₁ e1 t1 x1 a1=>?_;refine⟨z,T₁,.shp SJ,.ds [(Str.ofString "k",.tup [.lst [.int 5],.int 2])],?_,t1.less tN,x1,⟨.ref a1,FZ t1 a1 (by decide)⟩,D0,HF⟩;refine Eq.trans (b:=(C' ((C' (ph (n+1) 137 [.tab,(.tup [.int 9,.int 2,.tup []])] T) λQv=>(C' ((C' ((C' ((C' ((C' (B' ([],Qv.2)) λTF=>B' (((sv "k"),(.tup [(.lst [(.int 5)]),(.int 2)]))::TF.1,TF.2))) λOa=>C' (d7 Oa.1) λv=>B' (v,Oa.2))) λNA=>B' ([NA.1],NA.2))) λSv=>B' ((sv "shape")::Sv.1,Sv.2))) λTZ=>B' (Qv.1::TZ.1,TZ.2)))) λRz=>C' (fit Rz.1.length (V.tup Rz.1)) λv=>B' (v,Rz.2))) (by kernel_rfl) ?_;refine sb e1 ?_;kernel_rfl
theorem Bp(h:Tb (c+2) T)(x:Int):ze c T (ph (n+3) 959 [.tab,aak,.int x] T):=by
 rw[rk,IC,aaa,aaa,IB,aaa,aaa]
 have lt:cu T .Lt (.int (x%3)) (.int 2)=B' (L' (x%3<2)):=rfl
 simp only[lt,aaa]
 by_cases hx:x%3<2
 .refine sb (ak hx) ?_;exact zf n (h.less (Et rfl)) (x/3)
 .refine sb (aj hx) ?_;refine x12 (rE T (x/3/9%21) (gn (bU _ (by decide)) (bz _ (by decide)))) λt ht et=>?_;have eu:iG (.tup [.int t,.lst ((cA t).map .int)])=B' [.int t,.lst ((cA t).map .int)]:=rfl;have g0:eN (aal (fnAt 959)) [Str.ofString "tag",Str.ofString "values"] [.int t,.lst ((cA t).map .int)] [.pl .tab,.pl aak,.pl (.int x),.pl (.int (x%3)),.pl (.int (x/3)),.un,.un,.un,.un,.un]=B' [.pl .tab,.pl aak,.pl (.int x),.pl (.int (x%3)),.pl (.int (x/3)),.pl (.int t),.pl (.lst ((cA t).map .int)),.un,.un,.un]:=by kernel_rfl
  simp only[cond_false,Kg,DZ,aaa,et,eu,g0];exact zg (n+1) h x (x/3) t _ ht
end
noncomputable def Pk.prim:Pk->Bool
 |.nul|.val=>true
 |_=>false
noncomputable def Pk.obj:Pk->Bool
 |.shp _=>true
 |_=>false
noncomputable def eZ.sure(S:eZ)(q:String):Bool:=match S.find q with
 |some p=>!decide (p.2.2=1)
 |none=>false
noncomputable def Pk.aa1(k:Pk)(q:String):Bool:=match k.rl q with
 |some x=>decide (x.2<2)
 |none=>true
noncomputable def Pk.abo:Pk->Prop
 |.shp S=>S.Ok/\S.Tg
 |_=>True
section
variable (n:Nat)
theorem iE(h:Tb c T):∀t∈([0,1,4,5,6,10]:List Int),ph (n+1) 325 [.tab,.int t] T=B' (.int (uw [(4,5),(5,4),(6,1),(10,7)] t 0),T):=by
 refine ox h.eta λX b d e KC=>?_;subst KC
 exact cE (by kernel_rfl)
theorem tx(h:Tb c T){r:List V}(a:At T t (.tup (.int 10::r))):ph (n+2) 325 [.tab,.int t] T=B' (.int 0,T):=by
 have w:=i7 (T:=T) n r (k:=10) (by decide)
 have eo:∀k:Int,cu T .In (.int k) (.tup [(.int 8),(.int 9),(.int 11),(.int 12),(.int 13)])=B' (L' (k∈([8,9,11,12,13]:List Int))):=λk=>nR T k [8,9,11,12,13]
 have lt:cu T .Lt (.int (-1)) (.int 0)=B' true:=rfl
 rw[pO]
 simp only[cF h a,aaa,s0,ceq,eo,w,lt]
 rfl
theorem Cg(h:Tb c T){k:Pk}(p:Pc T t k):∃f,ph (n+3) 325 [.tab,.int t] T=B' (.int f,T)/\decide (f∈([1,2,3,4,5,6]:List Int))=k.prim/\(f=7/\t≠10↔k.obj=true):=by
 induction k using Pk.casesOn with
 |any=>obtain rfl:t=0:=p;exact(lU 0 (iE (n+2) h 0 (by decide)) (by decide) (by decide))
 |unk=>obtain rfl:t=1:=p;exact(lU 0 (iE (n+2) h 1 (by decide)) (by decide) (by decide))
 |opn=>obtain rfl:t=10:=p;exact(lU 7 (iE (n+2) h 10 (by decide)) (by decide) (by decide))
 |val=>obtain rfl:t=6:=p;exact(lU 1 (iE (n+2) h 6 (by decide)) (by decide) (by decide))
 |nul=>
  rcases(show t=4\/t=5 from p) with rfl|rfl
  .exact(lU 5 (iE (n+2) h 4 (by decide)) (by decide) (by decide))
  .exact(lU 4 (iE (n+2) h 5 (by decide)) (by decide) (by decide))
 |free=>obtain⟨j,a⟩:=p;exact(lU 0 (tx (n+1) h a) (by decide) (⟨λe=>(nomatch e.1),λe=>nb e⟩))
 |shp S=>
  obtain⟨p,q⟩:=p;have ne:=(p.pm h).ne;refine(lU 7 ?_ rfl (⟨λO=>rfl,λO=>⟨rfl,ne.2.2.2.1⟩⟩));induction p using Pd.casesOn with
  |obj a b d=>exact gm (n+2) h a (.inl rfl)
  |ref a=>exact gm (n+2) h a (.inr rfl)
  |str=>exact absurd rfl q
theorem D2(h:Tb c T){k:Pk}(p:Pc T t k):ph (n+4) 820 [.tab,.int t] T=B' (.bool k.prim,T):=by
 refine kQ (Cg n h p) λf e i O=>?_
 have Ru:cu T .In (.int f) (.tup [(.int 1),(.int 2),(.int 3),(.int 4),(.int 5),(.int 6)])=B' (L' (f∈([1,2,3,4,5,6]:List Int))):=nR T f [1,2,3,4,5,6]
 rw[iz]
 simp only[e,aaa,Ru,i]
theorem uP(h:Tb c T){k:Pk}(p:Pc T t k):ph (n+4) 882 [.tab,.int t] T=B' (.bool k.obj,T):=by
 refine kQ (Cg n h p) λf e O i=>?_
 rw[nM]
 simp only[e,aaa,ceq,cL,vz]
 by_cases f7:f=7
 .by_cases t10:t=10
  .have:k.obj=false:=by
    cases hk:k.obj
    .rfl
    .exact absurd t10 (i.mpr hk).2
   refine sb this ?_;simp [f7,t10]
  .refine sb (i.mp ⟨f7,t10⟩) ?_;simp [f7,t10]
 .have:k.obj=false:=by
   cases hk:k.obj
   .rfl
   .exact absurd (i.mpr hk).1 f7
  refine sb this ?_;simp [f7]
theorem xh{S:eZ}{q:String}:(S.rl q).isSome=(bif(S.find q).isSome then true else L' (iT S q≠-1)):=by
 unfold eZ.rl
 cases S.find q with
 |some p=>rfl
 |none=>by_cases e:iT S q=-1<;>simp [e]
theorem F0(h:Tb c T){S:eZ}(p:Pc T t (.shp S)){q:String}(hq:q∈names4):ph (n+5) 868 [.host,.int t,sv q] T=B' (.bool (S.rl q).isSome,T):=by
 have pm:=p.1.pm h
 rw[sT]
 simp only[j5 n h pm.pt hq,iC n h pm.pt hq,aaa,xh,vz]
 cases hf:S.find q with
 |some x=>rfl
 |none=>
  have:cu T .IsNot (rB F') .none=B' false:=rfl;simp only[this,aaa,cond_false,Option.isSome,iC n h pm.pt hq,vz];by_cases e:iT S q=-1<;>simp [e]
theorem D3(h:Tb c T){S:eZ}(p:Pc T t (.shp S))(ok:S.Ok/\S.Tg){q:String}(hq:q∈names4):ph (n+5) 875 [.host,.int t,sv q] T=B' (.bool (S.sure q),T):=by
 have pm:=p.1.pm h
 rw[oT]
 simp only[j5 n h pm.pt hq,aaa]
 unfold eZ.sure
 cases hf:S.find q with
 |some x=>
  have hx:=(ok.2.props x (List.mem_of_find?_eq_some hf)).2;have e1:cu T .IsNot (rB (B' x)) .none=B' true:=rfl;have e2:cv 2 T (rB (B' x)) (.int 2)=B' (.int x.2.2):=rfl;simp only[e1,aaa,cL,cond_true,e2,B9 _ hx,ceq];by_cases e:x.2.2=1<;>simp [e]
 |none=>
  have:cu T .IsNot (rB F') .none=B' false:=rfl;simp only[this,aaa,cL,cond_false]
theorem D4{k:Pk}(ok:k.abo)(q:String):k.aa1 q=match k with
  |.shp S=>!S.sure q
  |_=>true:=by
 induction k using Pk.casesOn with
 |shp S=>
  show(match S.rl q with|some x=>decide (x.2<2)|none=>true)=!S.sure q;unfold eZ.rl eZ.sure;cases hf:S.find q with
  |some x=>
   simp only[rK];by_cases e:x.2.2=1<;>simp [e]
  |none=>
   by_cases e:iT S q=-1<;>simp [e]
 |_=>rfl
end
noncomputable def oj(q:String):List V:=[.int 8,.tup [.tup [sv q,.int 1,.int 0,.int 0]],.tup [],.tup [],.tup [],.tup [],.int 0]
theorem zh:∀q∈names4,(V.tup (oj q)).hk 6=true:=j4 (Gd (by kernel_rfl) (by kernel_rfl) (by kernel_rfl) (by kernel_rfl) ao)
section
variable (n:Nat)
theorem zi(T:TS):∀q∈names4,ph (n+1) 185 [.tup [.tup [sv q,.int 1,.int 0,.int 0]]] T=B' (.tup [.tup [sv q,.int 1,.int 0,.int 0]],T):=j4 ⟨by kernel_rfl,by kernel_rfl,by kernel_rfl,by kernel_rfl,ao⟩
theorem xi(h:Tb (c+1) T){q:String}(hq:q∈names4):∃r T',ph (n+3) 861 [.host,sv q] T=B' (.int r,T')/\Tb c T'/\Ex T T'/\At T' r (.tup (oj q)):=by
 refine x24 (dD n h (oj q) (zh q hq)) λr T' e t x a=>?_
 refine(fy r T' ?_ t x a)
 rw[rf,sR,zi n T q hq]
 refine Eq.trans (b:=ph (n+1) 137 [.tab,.tup (oj q)] T) (by kernel_rfl) e
theorem rG(h:Tb c T){a b d e f:V}(r:At T t (.tup [.int 8,a,b,d,e,f,.int 0])):ph (n+1) 294 [.tab,.int t] T=B' (.bool false,T):=by
 have e0:cv 2 T (.tup [.int 8,a,b,d,e,f,.int 0]) (.int 0)=B' (.int 8):=rfl
 have e1:cv 2 T (.tup [.int 8,a,b,d,e,f,.int 0]) (.int (-1))=B' (.int 0):=by kernel_rfl
 have e2:decide ((8:Int)∈([2,3,4,5,8]:List Int))=true:=by decide
 have e3:decide ((0:Int)=1)=false:=by decide
 rw[lT,cF h r]
 simp only[e0,e1,aaa,FQ,e2,cL,cond_true,ceq,e3]
theorem ol(h:Tb c T){k:Int}{r:List V}(a:At T t (.tup (.int k::r)))(hk:k∉([2,3,4,5,8]:List Int)):ph (n+1) 294 [.tab,.int t] T=B' (.bool false,T):=by
 rw[lT,cF h a]
 simp only[s0,aaa,FQ,hk,aH,cL,cond_false]
theorem jm(T:TS)(e:ph (n+1) 294 [.tab,.int t] T=B' (.bool false,T)):ph (n+2) 301 [.tab,.int t] T=B' (.int t,T):=by
 rw[nG]
 simp only[e,aaa,cL,cond_false]
theorem D5(h:Tb c T){a b d e f:V}(r:At T t (.tup [.int 8,a,b,d,e,f,.int 0])):ph (n+1) 240 [.tab,.int t] T=B' (.int (-1),T):=by
 have e0:cv 2 T (.tup [.int 8,a,b,d,e,f,.int 0]) (.int 0)=B' (.int 8):=rfl
 have e1:cv 2 T (.tup [.int 8,a,b,d,e,f,.int 0]) (.int (-1))=B' (.int 0):=by kernel_rfl
 have e2:(8:Int)∈([2,3,4,5,8]:List Int):=by decide
 have e3:decide ((0:Int)=1)=false:=by decide
 rw[fC,cF h r]
 simp only[e0,e1,aaa,FQ,e2,aW,cond_true,ceq,e3,cond_false]
structure Mp (T:TS) (s:Int) (props:List (String×Int×Int)) (f:Int):Prop where
 gp:Gp T s
 mem:∀n,ph (n+3) 406 [.tab,.int s] T=B' (it [s],T)
 reg:∀n,ph (n+2) 301 [.tab,.int s] T=B' (.int s,T)
 fam:∀n,ph (n+3) 325 [.tab,.int s] T=B' (.int f,T)
 flat:∀n,ph (n+2) 357 [.tab,.int s] T=B' (.tup (props.map i5),T)
 few:(∀p∈props,p.1∈names4)/\props.length<=2
theorem Ci(h:Tb c T){a b d e f:V}(r:At T t (.tup [.int 8,a,b,d,e,f,.int 0])):ph (n+3) 406 [.tab,.int t] T=B' (it [t],T):=by
 have e7:decide ((8:Int)=7)=false:=by decide
 have f1:fit [V.int t].length (V.tup [.int t])=B' (it [t]):=rfl
 rw[fX]
 simp only[cF h r,aaa,s0,ceq,e7,cond_false,aW,cond_true,jm n T (rG n h r),f1]
theorem uQ(h:Tb c T){k:Int}{r:List V}(a:At T t (.tup (.int k::r)))(hk:k≠7)(RP:k≠8):ph (n+1) 406 [.tab,.int t] T=B' (it [t],T):=by
 rw[fX]
 simp only[cF h a,aaa,s0,ceq,hk,RP,aH,cond_false]
 rfl
theorem zj(h:Tb c T){r:List V}{v:V}(a:At T t (.tup (.int 8::v::r))):ph (n+2) 357 [.tab,.int t] T=B' (v,T):=by
 have s1:cv 2 T (.tup (.int 8::v::r)) (.int 1)=B' v:=rfl
 rw[gz]
 simp only[cF h a,aaa,s0,ceq]
 refine Eq.trans (b:=(C' (cv 2 T (.tup (.int 8::v::r)) (.int 1)) λz=>B' (z,T))) (by kernel_rfl) ?_
 rw[s1];rfl
theorem rH(h:Tb c T){k:Int}{r:List V}(a:At T t (.tup (.int k::r)))(hk:k=1\/k=10):ph (n+2) 357 [.tab,.int t] T=B' (.tup [],T):=by
 rw[gz]
 simp only[cF h a,aaa,s0,ceq]
 rcases hk with rfl|rfl<;>kernel_rfl
theorem zk(h:Tb c T)(a:At T t (.tup w9)):ph (n+2) 357 [.tab,.int t] T=B' (.tup (SJ.props.map i5),T):=by
 have QK:At T 27 yJ:=cJ h 27 _ (by kernel_rfl)
 have k27:=gX n h (show At T 27 (.tup (.int 8::_)) from QK)
 have e1:cv 2 T (.tup w9) (.int 0)=B' (.int 9):=rfl
 have e2:cv 2 T (.tup w9) (.int 2)=B' (.tup []):=rfl
 have e3:cv 2 T (.tup w9) (.int 1)=B' (.int 2):=rfl
 have e4:cv 2 T .aau (.int 2)=B' .decl:=by kernel_rfl
 have e5:gF (gZ 2) .decl (Str.ofString "body")=B' (.int 27):=by kernel_rfl
 have e6:gF (gZ 2) .decl (Str.ofString "bases")=B' (.tup []):=by kernel_rfl
 have e7:cw (.tup [])=B' false:=rfl
 have e8:cu T .Lt (.int 27) (.int 0)=B' false:=rfl
 have e9:cv 2 T yJ (.int 1)=B' (.tup (SJ.props.map i5)):=by rfl
 have d9:decide ((9:Int)=9)=true:=rfl
 have d8:decide ((8:Int)=8)=true:=rfl
 rw[gz]
 simp only[cF h a,e1,e2,e3,e4,e5,e6,e7,e8,e9,aW,aaa,ceq,vz,cond_true,cond_false,bo,bh,k27,cF h QK]
theorem Pc.mp(h:Tb c T){s:Int}{k:Pk}(p:Pc T s k)(ok:k.abo)(hk:k=.opn\/k=.free\/∃S,k=.shp S):∃props f,Mp T s props f/\(f=7/\k≠ .free\/f=0/\k=.free)/\(∀S,k=.shp S->props=S.props)/\(k=.opn->props=[]):=by
 have gp:=p.gp h
 rcases hk with rfl|rfl|⟨S,rfl⟩
 .obtain rfl:s=10:=p;obtain⟨w,a⟩:=uK h 10 (by decide);exact(fy ([]) 7 (⟨gp,λn=>uQ (n+2) h a (by decide) (by decide),λn=>jm n T (ol n h a (by decide)),λn=>iE (n+2) h 10 (by decide),λn=>rH n h a (.inl rfl),by simp⟩) (.inl ⟨rfl,by simp⟩) (λS e=>(by cases e)) (λO=>rfl))
 .obtain⟨j,a⟩:=p;exact(fy ([]) 0 (⟨gp,λn=>uQ (n+2) h a (by decide) (by decide),λn=>jm n T (ol n h a (by decide)),λn=>tx (n+1) h a,λn=>rH n h a (.inr rfl),by simp⟩) (.inr ⟨rfl,rfl⟩) (λS e=>(by cases e)) (λe=>(by cases e)))
 .have nm:(∀p∈S.props,p.1∈names4)/\S.props.length<=2:=⟨λp m=>by
   have:=ok.1.names p m
   revert this
   generalize p.1=x
   intro this
   rcases aD.mp this with q|q
   .refine sb q ?_;decide
   .refine sb (am.mp q) ?_;decide,ok.1.few⟩
  obtain⟨p,q⟩:=p;refine(fy S.props 7 ?_ (.inl ⟨rfl,by simp⟩) (λS' e=>(by cases e;rfl)) (λe=>(by cases e)));induction p using Pd.casesOn with
  |obj a b d=>exact⟨gp,λn=>Ci n h a,λn=>jm n T (rG n h a),λn=>gm (n+2) h a (.inl rfl),λn=>zj n h a,nm⟩
  |ref a=>exact⟨gp,λn=>uQ (n+2) h a (by decide) (by decide),λn=>jm n T (ol n h a (by decide)),λn=>gm (n+2) h a (.inr rfl),λn=>zk n h a,nm⟩
  |str=>exact absurd rfl q
theorem zm(h:Tb c T){r:Int}{q:String}(hq:q∈names4)(a:At T r (.tup (oj q))):Mp T r [(q,1,0)] 7:=by
 have ne:=i8 h (show At T r (.tup (.int 8::_)) from a) (by decide) (by decide)
 exact⟨⟨(ml ne.1 ne.2.2.2.1 ne.2.2.2.2.2.1 ne.2.2.2.2.2.2),(gE 8 _ (by decide) a (λn=>i7 n _ (by decide))),λn=>D5 n h a⟩,λn=>Ci n h a,λn=>jm n T (rG n h a),λn=>gm (n+2) h a (.inl rfl),λn=>zj n h a,λp m=>by rw[am.mp m];exact hq,by simp⟩
end
theorem F1:∀p∈names4,∀q∈names4,(Str.ofString p==Str.ofString q)=(p==q):=gW (by kernel_rfl)
theorem qd{x y:O'}(v:V)(WG:(x==y)=false):∀l:List (O'×V),dW y l=F'->dW y (iF x v l)=F'
 |[],_=>by
  show(bif x==y then B' v else F')=F';refine sb WG ?_;rfl
 |(j,w)::l,h=>by
  have h':(bif j==y then B' w else dW y l)=F':=h;show dW y (bif j==x then(j,v)::l else(j,w)::iF x v l)=F';cases e:j==x
  .show(bif j==y then B' w else dW y (iF x v l))=F';cases e':j==y
   .replace h':=e'▸h';exact qd v WG l h'
   .replace h':=e'▸h';cases h'
  .have:=ba e;subst this;show(bif j==y then B' v else dW y l)=F';rw[WG] at h' ⊢;exact h'
noncomputable def D6(q:String)(D:V)(m:Nat):Prop:=D=.di []\/∃l,D=.ds l/\l.length<=m/\dW (Str.ofString q) l=F'
theorem D6.put{q x:String}{D v:V}{m:Nat}(h:D6 q D m)(hm:m<100)(KY:(Str.ofString x==Str.ofString q)=false):∃D',hZ D (sv x) v=B' D'/\D6 q D' (m+1):=by
 rcases h with rfl|⟨l,rfl,hl,hf⟩
 .refine⟨.ds [(Str.ofString x,v)],rfl,.inr ⟨_,rfl,by simp,?_⟩⟩;show(bif Str.ofString x==Str.ofString q then B' v else F')=F';refine sb KY ?_;rfl
 .refine⟨.ds (iF (Str.ofString x) v l),?_,.inr ⟨_,rfl,?_,qd v KY l hf⟩⟩
  .show(bif L' (l.length<sizeLine) then B' (V.ds (iF (Str.ofString x) v l)) else F')=_;refine sb (ak (show l.length<sizeLine by have:=nU;exact Gw hl hm rfl)) ?_;rfl
  .have:=lf (k:=Str.ofString x) (v:=v) (l:=l);exact I7 hl this
theorem D6.not{q:String}{D:V}{m:Nat}(T:TS)(h:D6 q D m):cu T .In (sv q) D=B' false:=by
 rcases h with rfl|⟨l,rfl,hl,hf⟩
 .rfl
 .show B' (dW (Str.ofString q) l).isSome=_;refine sb hf ?_;rfl
variable {props:List (String×Int×Int)}
section
variable (n:Nat)
theorem om{q:String}(hq:q∈names4)(s r:V)(k:Kn):∀(props:List (String×Int×Int))(D:V)(m:Nat)(UT:Sl),UT.aae=false->D6 q D m->m+props.length<100->(∀p∈props,p.1∈names4/\p.1≠q)->∃D' s',s'.aae=false/\D6 q D' (m+props.length)/\cG (dT n) (props.map i5) [.pl .tab,.pl s,.pl r,.ow D,UT] T k=k [.pl .tab,.pl s,.pl r,.ow D',s'] T
 |[],D,m,s',hs,hD,_,_=>(gE D s' hs hD rfl)
 |p::props,D,m,s',hs,hD,hm,hp=>by
  simp only[List.length_cons] at hm;have Ye:=hp p (af ..);have KY:(Str.ofString p.1==Str.ofString q)=false:=by
   refine sb (F1 p.1 Ye.1 q hq) ?_;exact aR.mpr Ye.2
  refine x12 (hD.put (v:=i5 p) (Ei hm rfl) KY) λD' e Y6=>?_;refine x23 (om hq s r k props D' (m+1) (.pl (i5 p)) rfl Y6 (Cp hm) λx m=>hp x (ag _ m)) λYI MV a b e2=>?_;refine(gE YI MV a (by refine sb (show m+(p::props).length=m+1+props.length by simp only[List.length_cons];exact HT) ?_;exact b) ?_);show dT n (i5 p) _ T _=_;have s0p:cv 2 T (i5 p) (.int 0)=B' (sv p.1):=rfl;rw[jr _ _ _ _ _ _ hs,s0p];simp only[aaa,e];exact e2
theorem zn{s r:Int}{f:Int}{q:String}(hq:q∈names4)(ms:Mp T s props f)(mr:Mp T r [(q,1,0)] 7)(hp:∀p∈props,p.1≠q):ph (n+3) 364 [.tab,.int s,.int r] T=B' (.bool false,T):=by
 have e1:cy (.tup (props.map i5))=B' (props.map i5):=rfl
 have e2:cy (.tup ([(q,(1:Int),(0:Int))].map i5))=B' [i5 (q,1,0)]:=rfl
 have e3:fit [i5 (q,1,0)].length ()=B' ():=rfl
 have ZO:cv 2 T (i5 (q,1,0)) (.int 0)=B' (sv q):=rfl
 refine x23 (om (T:=T) (n+2) hq (.int s) (.int r) (fh (n+2)) props (.di []) 0 .un rfl (.inl rfl) (by have:=ms.few.2;exact I1 this rfl) λp m=>⟨ms.few.1 p m,hp p m⟩) λD s' a b e=>?_
 rw[lZ,ms.flat n]
 simp only[aaa,e1]
 rw[cH () (by rw[ae];have:=ms.few.2;exact O1 this rfl),aaa,e,ju _ _ _ _ _ a,mr.flat n]
 simp only[aaa,e2,e3,dv,dw]
 rw[js _ _ _ _ _ _ a,ZO]
 simp only[aaa,b.not,cond_false]
 exact jt _ _ _ _ _ rfl _
theorem D7{s r:Int}(VJ:s≠11)(Oo:r≠11)(hc:ph n 364 [.tab,.int s,.int r] T=B' (.bool false,T)):ph (n+1) 385 [.tab,.int s,.int r,.int 7,.int 7] T=B' (.int 3,T):=by
 have d:decide ((7:Int)=7)=true:=rfl
 rw[ma]
 simp only[ceq,vz,aaa,VJ,Oo,aW,aH,cond_false,bh,hc,cL]
theorem D8{s r:Int}{f:Int}{q:String}(hq:q∈names4)(ms:Mp T s props f)(mr:Mp T r [(q,1,0)] 7)(hp:∀p∈props,p.1≠q)(R7:s≠r)(VJ:s≠11)(Oo:r≠11)(hf:f=7\/f=0):ph (n+5) 392 [.tab,.int s,.int r] T=B' (.int 3,T):=by
 have t1:=ms.gp.twin (n+3)
 have t2:=mr.gp.twin (n+3)
 have m1:(-1:Int)≠s:=by have:=ms.gp.ne.1;exact Gb this rfl
 have m2:(-1:Int)≠r:=by have:=mr.gp.ne.1;exact Gb this rfl
 rw[io]
 rcases hf with rfl|rfl
 .simp only[ceq,aaa,R7,t1,t2,m1,m2,aH,cond_false,aav,ms.fam (n+1),mr.fam (n+1),show((7:Int)=0)=False from by simp,DC,cL,aW,cond_true];exact D7 (n+3) VJ Oo (zn n hq ms mr hp)
 .simp only[ceq,aaa,R7,t1,t2,m1,m2,aH,cond_false,aav,ms.fam (n+1),mr.fam (n+1),aW,cond_true]
theorem Bq{r:Int}{q:String}(ms:Mp T 11 props 7)(mr:Mp T r [(q,1,0)] 7)(Oo:r≠11):ph (n+5) 392 [.tab,.int 11,.int r] T=B' (.int 2,T):=by
 have t1:=ms.gp.twin (n+3)
 have t2:=mr.gp.twin (n+3)
 have m2:(-1:Int)≠r:=by have:=mr.gp.ne.1;exact Gb this rfl
 rw[io]
 simp only[ceq,aaa,bq Oo,t1,t2,m2,aH,cond_false,aav,ms.fam (n+1),mr.fam (n+1),show((7:Int)=0)=False from by simp,show((-1:Int)=11)=False from by simp,DC,cL,aW,cond_true,B6]
end
theorem D9{m:Int}(h0:m≠0)(h1:m≠1):uL [m]=[m]:=by
 unfold uL
 (refine sb (aL (by simpa using bq h0)) ?_;refine sb (aL (by simpa using bq h1)) ?_);rfl
theorem PA.eq1{m:Int}(a:PA T z [m]):z=m:=by
 rcases a with⟨_,a⟩|⟨_,a,_⟩|⟨_,a,_⟩
 .cases a
 .simp at a
 .injection a with a;exact a.symm
noncomputable def Mt(T:TS)(q:String)(s z:Int):Prop:=if s=11 then At T z (.tup (oj q)) else ∃r,At T r (.tup (oj q))/\At T z (.tup [.int 7,it [s,r]])
theorem Mt.mono{q:String}{s:Int}(m:Mt T q s z)(e:xb T T'):Mt T' q s z:=by
 unfold Mt at*
 split
 .rename_i h;rw[aZ h] at m;exact m.aa0 e
 .rename_i h;rw[aL h] at m;refine x12 m λr a b=>?_;exact⟨r,a.aa0 e,b.aa0 e⟩
variable {z':Int}
theorem Mt.inj(h:Tb c T){q:String}{s:Int}(m:Mt T q s z)(m':Mt T q s z'):z=z':=by
 unfold Mt at*
 split at m
 .rename_i hs;rw[aZ hs] at m';exact At.inj h m m'
 .rename_i hs;rw[aL hs] at m';refine x12 m λr a b=>?_;refine x12 m' λr' a' b'=>?_;have:=At.inj h a a';subst this;exact At.inj h b b'
theorem Mt.gp(h:Tb c T){q:String}(hq:q∈names4){s:Int}(m:Mt T q s z):Gp T z/\z≠0/\z≠1:=by
 unfold Mt at m
 split at m
 .have ne:=i8 h (show At T z (.tup (.int 8::_)) from m) (by decide) (by decide);exact⟨(zm h hq m).gp,ne.2.1,ne.2.2.1⟩
 .refine x12 m λr a b=>?_;have ne:=i8 h b (by decide) (by decide);exact⟨uM h b (.inr (.inr rfl)),ne.2.1,ne.2.2.1⟩
section
variable (n:Nat)
theorem Br(h:Tb c T){s m:Int}(hs:PA T s [s])(ht:PA T t [t])(n1:s≠t)(n2:t≠1)(n3:s≠1)(hm:m≠2)(e:ph (n+3) 411 [.tab,.int s,.int t] T=B' (.int m,T')):ph (n+4) 418 [.tab,.int s,.int t] T=ph (n+3) 266 [.tab,.lst [.int m]] T':=by
 rw[i3]
 have p1:=cB (n+2) h hs
 have p2:=cB (n+2) h ht
 have e1:∀s:Int,fit [V.int s].length ()=B' ():=λO=>rfl
 simp only[ceq,aaa,n1,n2,n3,aH,cond_false,p1,eit,aC,List.map_nil,e1,dv,dw]
 rw[iL _ _ _ _ _ _ _ _ rfl rfl rfl,p2]
 simp only[aaa,eit,aC,List.map_nil,e1,dv,dw]
 rw[iJ _ _ _ _ _ _ _ _ rfl rfl,e]
 have e2:(V.di [])=kd []:=rfl
 have SB:fZ "len" [kd [m]] T'=B' (.int 1):=rfl
 simp only[aaa,vz,hm,aH,bo,cond_true]
 (refine sb e2 ?_;refine sb (nW (by simp)) ?_)
 have ea:eX m []=[m]:=rfl
 have d:decide ((200:Int)<1)=false:=by decide
 simp only[ea,aaa,SB,Ds,d,cond_false]
 rw[iK _ _ _ _ _ _ _ rfl rfl,iM _ _ _ _ _ _ _ rfl rfl rfl,pX _ _ (by simp)]
 rfl
theorem xj(h:Tb (c+2) T){s r:Int}{k:Pk}(p:Pc T s k)(ok:k.abo){q:String}(hq:q∈names4)(hk:k=.opn\/k=.free\/∃S,k=.shp S)(hr:k.rl q=F')(a:At T r (.tup (oj q))):∃z T',ph (n+12) 425 [.tab,.tup [.int s,.int r]] T=B' (.int z,T')/\Tb c T'/\Ex T T'/\Mt T' q s z:=by
 refine hide λQz qz=>?_
 refine x24 (p.mp h ok hk) λprops f ms hf hS hO=>?_
 have mr:=zm h hq a
 have R4:=i8 h (show At T r (.tup (.int 8::_)) from a) (by decide) (by decide)
 have Oo:r≠11:=by
  clear mr R4;clear qz;rintro rfl;have a11:At T 11 (mf SE):=cJ h 11 _ (by kernel_rfl);have:=a.row a11;injection this with this;injection this with _ this;injection this with this _;injection this with this;cases this
 have UN:s≠0/\s≠1:=by
  clear ok hr hf hS hO;rcases hk with rfl|rfl|⟨S,rfl⟩
  .clear qz ms;obtain rfl:s=10:=p;decide
  .refine x11 p λj b=>?_;have:=i8 h b (by decide) (by decide);exact⟨this.2.1,this.2.2.1⟩
  .have:=(p.1.pm h).ne;exact⟨this.1,this.2.1⟩
 have Mw:∀p∈props,p.1≠q:=by
  intro x hx;rcases hk with rfl|rfl|⟨S,rfl⟩
  .replace hx:=(hO rfl)▸hx;cases hx
  .rcases hf with hf|hf
   .exact absurd rfl hf.2
   .refine x11 p λj b=>?_;have e1:=ms.flat n;replace e1:=(rH n h b (.inr rfl))▸e1;injection e1 with e1;injection e1 with e1 _;injection e1 with e1;clear ms hS hO;induction props using List.casesOn with
    |nil=>cases hx
    |cons a l=>cases e1
  .replace hx:=(hS S rfl)▸hx;intro e;have:S.rl q=F':=hr;unfold eZ.rl at this;refine abj (o:=S.find q) (λVe=>?_) λy Ve=>?_;rotate_left
   .replace this:=Ve▸this;cases this
   .
    have:=List.find?_eq_none.mp Ve x hx;exact this (by refine sb e ?_;exact bF q)
 have R7:s≠r:=by
  clear R4 Oo;clear qz;rintro rfl;have e1:=ms.flat n;replace e1:=(mr.flat n)▸e1;injection e1 with e1;injection e1 with e1 _;injection e1 with e1;clear hS hO;induction props using List.casesOn with
  |nil=>cases e1
  |cons x l=>
   injection e1 with e1 _;injection e1 with e1;injection e1 with e1 _;have hx:=Mw x (af ..);have hn:=ms.few.1 x (af ..);have:=F1 x.1 hn q hq;have e2:Str.ofString q=Str.ofString x.1:=by injection e1
   rw[e2,bF] at this;exact hx (ba this.symm)
 have key:∃m T₁,ph (n+10) 411 [.tab,.int s,.int r] T=B' (.int m,T₁)/\Tb (c+1) T₁/\Ex T T₁/\Mt T₁ q s m:=by
  by_cases h11:s=11
  .clear p qz UN R7;subst h11;have f7:f=7:=by
    have e1:=ms.fam n;have a11:At T 11 (mf SE):=cJ h 11 _ (by kernel_rfl);replace e1:=(gm (n+2) h (show At T 11 (.tup (.int 8::_)) from a11) (.inl rfl))▸e1;injection e1 with e1;injection e1 with e1 _;injection e1 with e1;exact e1.symm
   subst f7;exact(fy r T (B5 (n+8) (ms.mem (n+6)) (mr.mem (n+6)) (Bq (n+3) ms mr Oo)) (h.less (aN (by decide) _)) (.rfl) (by unfold Mt;refine sb (aZ rfl) ?_;exact a))
  .refine x24 (FC (n+8) (c:=c+1) h (ms.mem (n+6)) (mr.mem (n+6)) (D8 (n+3) hq ms mr Mw R7 h11 Oo (by rcases hf with hf|hf<;>simp [hf.1])) (ms.reg (n+7)) (mr.reg (n+7))) λm T₁ e t x b=>?_;exact(fy m T₁ e t x (by unfold Mt;refine sb (aL h11) ?_;exact⟨r,a.mono x,b⟩))
 refine x24 key λm T₁ e t x b=>?_
 refine tJ (b.gp t hq) λg g0 g1=>?_
 refine x24 (kL (n+7) (c:=c) t (V0:=.lst [.int m]) (l:=[m]) rfl (λy my=>by refine sb (am.mp my) ?_;exact g) (by simp)) λz T₂ e2 t2 x2 p2=>?_
 refine qz ?_
 replace p2:=(D9 g0 g1)▸p2
 have:=p2.eq1
 subst this
 have Xp:=ms.gp.ne
 refine(fy z T₂ ?_ t2 (x.trans x2) (b.mono x2.r))
 (refine sb (nZ (n+10) ⟨Xp.2.1,R4.2.2.2.1⟩ ⟨UN.1,R4.2.1⟩ ⟨Xp.2.2.1,R4.2.2.2.2.2.1⟩ UN.2) ?_;refine sb (Br (n+7) h ms.gp.pa mr.gp.pa R7 R4.2.2.1 UN.2 g.ne.2.1 e) ?_;refine sb e2 ?_)
 rfl
end
inductive Cl|keep|unk|met|drop
noncomputable def oZ(q:String)(nt:Bool):Pk->Cl
 |.any=>.keep
 |.unk=>.unk
 |.shp S=>bif(S.rl q).isSome then .keep else bif nt then .met else .drop
 |_=>.met
noncomputable def mj(T:TS)(q:String)(t:Int):Cl->Option Int->Prop
 |.keep,r=>r=B' t
 |.unk,r=>∃z,r=B' z/\Mt T q 10 z
 |.met,r=>∃z,r=B' z/\Mt T q t z
 |.drop,r=>r=F'
noncomputable def gY(T:TS)(q:String)(nt:Bool):List (Int×Pk)->List Int->Prop
 |[],zs=>zs=[]
 |p::ps,zs=>∃r QT,zs=r.toList++QT/\mj T q p.1 (oZ q nt p.2) r/\gY T q nt ps QT
theorem mj.mono{q:String}{c:Cl}{r:Option Int}(e:xb T T')(h:mj T q t c r):mj T' q t c r:=by
 induction c using Cl.casesOn with
 |keep=>exact h
 |unk=>exact h.elim λz h=>⟨z,h.1,h.2.mono e⟩
 |met=>exact h.elim λz h=>⟨z,h.1,h.2.mono e⟩
 |drop=>exact h
theorem mj.inj{k:Nat}(tb:Tb k T){q:String}{c:Cl}{r r':Option Int}(h:mj T q t c r)(h':mj T q t c r'):r=r':=by
 induction c using Cl.casesOn with
 |keep=>exact h.trans h'.symm
 |unk=>exact h.elim λz h=>h'.elim λz' h'=>h.1.trans ((aM B' (h.2.inj tb h'.2)).trans h'.1.symm)
 |met=>exact h.elim λz h=>h'.elim λz' h'=>h.1.trans ((aM B' (h.2.inj tb h'.2)).trans h'.1.symm)
 |drop=>exact h.trans h'.symm
theorem mj.all{q:String}{c:Cl}{r:Option Int}{P:Int->Prop}(h:mj T q t c r)(h1:c=.keep->P t)(h2:∀s z,Mt T q s z->P z):∀z∈r.toList,P z:=by
 have one:∀{z:Int},r=B' z->P z->∀z∈r.toList,P z:=λe p y m=>by
  rw[e] at m;rw[am.mp m];exact p
 induction c using Cl.casesOn with
 |keep=>exact one h (h1 rfl)
 |unk=>exact h.elim λz h=>one h.1 (h2 _ z h.2)
 |met=>exact h.elim λz h=>one h.1 (h2 _ z h.2)
 |drop=>intro z m;rw[show r=F' from h] at m;exact nomatch m
theorem gY.mono{q:String}{nt:Bool}(e:xb T T'):∀{zs:List Int},gY T q nt ps zs->gY T' q nt ps zs:=by
 induction ps with
 |nil=>exact λh=>h
 |cons p ps ih=>exact λh=>h.elim λr h=>h.elim λzs h=>(gE r zs h.1 (h.2.1.mono e) (ih h.2.2))
theorem gY.inj(t:Tb c T){q:String}{nt:Bool}:∀{zs QT:List Int},gY T q nt ps zs->gY T q nt ps QT->zs=QT:=by
 induction ps with
 |nil=>exact λh h'=>Eq.trans h (Eq.symm h')
 |cons p ps ih=>
  intro zs QT h h';refine x23 h λr x KC o b=>?_;subst KC;refine x23 h' λr' x' KC o' b'=>?_;subst KC;rw[o.inj t o',ih b b']
theorem gY.len{q:String}{nt:Bool}:∀{zs:List Int},gY T q nt ps zs->zs.length<=ps.length:=by
 induction ps with
 |nil=>intro zs h;refine sb (show zs=[] from h) ?_;exact br _
 |cons p ps ih=>
  intro zs h;refine x23 h λr x KC o b=>?_;subst KC;rw[bc,List.length_cons,Nat.add_comm];exact Nat.add_le_add (ih b) (Option.casesOn r (Nat.zero_le 1) λO=>br 1)
theorem gY.all{q:String}{nt:Bool}{P:Int->Prop}(h2:∀s z,Mt T q s z->P z):∀{zs:List Int},(∀p∈ps,P p.1)->gY T q nt ps zs->∀z∈zs,P z:=by
 induction ps with
 |nil=>intro zs _ h z m;rw[show zs=[] from h] at m;exact nomatch m
 |cons p ps ih=>
  intro zs hp h;refine x23 h λr x KC o b=>?_;subst KC;exact λz m=>(bf.mp m).elim (o.all (λO=>hp p (af ..)) h2 z) (ih (λy m=>hp y (ag _ m)) b z)
theorem gY.gp(t:Tb c T){q:String}(hq:q∈names4){nt:Bool}{zs:List Int}(hp:∀p∈ps,Pc T p.1 p.2)(h:gY T q nt ps zs):∀z∈zs,Gp T z:=h.all (λO O m=>(m.gp t hq).1) λp m=>(hp p m).gp t
structure j7 (T:TS) (p:Int×Pk):Prop where
 pc:Pc T p.1 p.2
 ok:p.2.abo
theorem j7.mono{p:Int×Pk}(h:j7 T p)(e:xb T T'):j7 T' p:=⟨h.pc.mono e,h.ok⟩
noncomputable def kn(q:String)(ps:List (Int×Pk)):List (Int×Pk):=ps.filter λp=>(p.2.rl q).isSome
variable {out:List Int}
section
variable (n:Nat)
theorem tA(T:TS)(t:Int):cu T .In (.int t) (.tup [(.int 0),(.int 13)])=B' (L' (t∈([0,13]:List Int))):=nR T t [0,13]
theorem oq(h:Tb c T){k:Pk}(p:Pc T t k):t≠13/\(t=0↔k=.any)/\(t=1↔k=.unk):=by
 have g:=(p.gp h).ne
 induction k with
 |any=>obtain rfl:t=0:=p;simp
 |unk=>obtain rfl:t=1:=p;simp
 |opn=>obtain rfl:t=10:=p;simp
 |val=>obtain rfl:t=6:=p;simp
 |nul=>rcases(show t=4\/t=5 from p) with rfl|rfl<;>simp
 |free=>
  obtain⟨j,a⟩:=p;have:=i8 h a (by decide) (by decide);simp [this.2.1,this.2.2.1,g.2.2.1]
 |shp S=>
  have:=(p.1.pm h).ne;simp [this.1,this.2.1,g.2.2.1]
theorem jL(h:out.length<1000)(z:Int):eW (.lst (out.map .int)) (.int z)=B' (.lst ((out++[z]).map .int)):=by
 (refine sb (pW _ (by rw[ae];exact O2 h rfl)) ?_;refine sb bM ?_);rfl
noncomputable def rI(q:String)(nt:Bool)(F:V->List Sl->TS->(Kn)->cK)(G:List Int->Sl->List Sl)(c:Nat)(T:TS)(p:Int×Pk)(out:List Int)(s:Sl):Prop:=∃r T₁,(∀k,F (.int p.1) (G out s) T k=k (G (out++r.toList) (.pl (.int p.1))) T₁)/\Tb c T₁/\Ex T T₁/\mj T₁ q p.1 (oZ q nt p.2) r
theorem qe{q:String}{nt:Bool}{F:V->List Sl->TS->(Kn)->cK}{G:List Int->Sl->List Sl}{d:Nat}{I:TS->Int×Pk->Prop}(hI:∀T T' p,Ex T T'->I T p->I T' p)(turn:∀p out c T s,s.aae=false->Tb (c+d) T->out.length<1000->I T p->rI q nt F G c T p out s)(k:Kn)(ps:List (Int×Pk)):∀(out:List Int)(c:Nat)(T:TS)(s:Sl),s.aae=false->Tb (c+d*ps.length) T->out.length+ps.length<1000->(∀p∈ps,I T p)->∃zs T' s',s'.aae=false/\Tb c T'/\Ex T T'/\gY T' q nt ps zs/\cG F (ps.map λp=>V.int p.1) (G out s) T k=k (G (out++zs) s') T':=by
 induction ps with
 |nil=>exact λout c T s hs h O O=>(tO ([]) T s hs h (.rfl) rfl (by rw[a0];rfl))
 |cons p ps ih=>
  intro out c T s hs h hl hp;rw[List.length_cons] at h hl;refine x24 (turn p out (c+d*ps.length) T s hs (by rw[bH];exact h) (aQ (bt ..) hl) (hp p (af ..))) λr T₁ e1 t1 x1 o1=>?_;refine x35 (ih (out++r.toList) c T₁ (.pl (.int p.1)) rfl t1 (by refine sb bc ?_;have:r.toList.length<=1:=Option.casesOn r (Nat.zero_le 1) λO=>br 1;exact IL hl this) λy m=>hI _ _ _ x1 (hp y (ag _ m))) λzs T' s' a b x o e=>?_;exact(tO (r.toList++zs) T' s' a b (x1.trans x) (⟨r,zs,rfl,o1.mono x.r,o⟩) ((e1 _).trans (e.trans (by rw[bv]))))
noncomputable def GY(w q P:V)(K out:List Int)(s:Sl):List Sl:=[.pl .host,.pl w,.pl q,.pl .tab,.pl P,.pl (.lst (K.map .int)),.ow (.lst (out.map .int)),s]
noncomputable def Gs(q:String)(K:List Int)(T:TS)(p:Int×Pk):Prop:=j7 T p/\p.2.prim=false/\(p.1∈K↔(p.2.rl q).isSome=true)
theorem kM{q:String}{nt:Bool}{S:eZ}(h:S.rl q=F'):oZ q nt (.shp S)=bif nt then .met else .drop:=by show(bif(S.rl q).isSome then _ else _)=_;refine sb h ?_;rfl
theorem qf{q:String}{nt:Bool}{S:eZ}(h:(S.rl q).isSome=true):oZ q nt (.shp S)=.keep:=by show(bif(S.rl q).isSome then _ else _)=_;refine sb h ?_;rfl
theorem tK{K:List Int}:cw (.lst (K.map .int))=B' (!decide (K=[])):=by cases K<;>rfl
theorem tB{o:Option α}(h:¬o.isSome=true):o=F':=by cases o;rfl;exact absurd rfl h
theorem vT{q:String}{K:List Int}{w P:V}{nt:Bool}{p:Int×Pk}{s:Sl}(hs:s.aae=false)(h:Tb c T)(hl:out.length<1000)(hc:p.1∈([0,13]:List Int)\/p.1∈K)(hk:oZ q nt p.2=.keep):rI q nt (eE (n+12)) (GY w (sv q) P K) c T p out s:=by
 refine(fy (B' p.1) T (λk=>?_) h (.rfl) (by refine sb hk ?_;rfl))
 refine(gB (n+12) (.int p.1) w (sv q) P (.lst (K.map .int)) (.lst (out.map .int)) s hs T k).trans ?_
 by_cases h0:p.1∈([0,13]:List Int)
 .rw[tA,ak h0,jL hl];rfl
 .simp only[tA,nS,aaa,cond_false,aj h0,ak (hc.resolve_left h0),cond_true,jL hl];rfl
theorem rJ{q:String}(hq:q∈names4){K:List Int}{w P:V}{p:Int×Pk}{s:Sl}{k:Pk}(hs:s.aae=false)(h:Tb (c+4) T)(hl:out.length<1000)(h0:p.1∉([0,13]:List Int))(hK:p.1∉K)(pt:∀T',xb T T'->Pc T' t k)(ok:k.abo)(hk:k=.opn\/k=.free\/∃S,k=.shp S)(hr:k.rl q=F')(hO:∀T z,Mt T q t z->mj T q p.1 (oZ q (L' (K=[])) p.2) (B' z))(hc:(p.1=1/\t=10)\/(p.1≠1/\t=p.1/\ph (n+12) 882 [.tab,.int p.1] T=B' (.bool k.obj,T)/\(k.obj=true->K=[]))):rI q (L' (K=[])) (eE (n+12)) (GY w (sv q) P K) c T p out s:=by
 refine x24 (xi (n+9) (c:=c+3) h hq) λr T₁ e1 t1 x1 a1=>?_
 refine x24 (xj n (c:=c+1) t1 (pt T₁ x1.r) ok hq hk hr a1) λz T₂ e2 t2 x2 m2=>?_
 refine(fy (B' z) T₂ (λkk=>?_) (t2.less (bt ..)) (x1.trans x2) (hO T₂ z m2))
 refine(gB (n+12) (.int p.1) w (sv q) P (.lst (K.map .int)) (.lst (out.map .int)) s hs T kk).trans ?_
 rcases hc with⟨h1,rfl⟩|⟨h1,rfl,hm,ho⟩
 .simp only[tA,nS,ceq,aaa,aav,aj h0,aj hK,ak h1,cond_true,cond_false,e1,f2,e2,jL hl];rfl
 .simp only[tA,nS,ceq,aaa,aav,aj h0,aj hK,aj h1,cond_false,tK,hm,cL];cases Nv:decide (K=[]) with
  |true=>simp only[bh,bo,cond_true,aaa,e1,f2,e2,jL hl];rfl
  |false=>
   have WK:k.obj=false:=eq_false_of_ne_true λe=>of_decide_eq_false Nv (ho e);simp only[WK,bh,bo,cond_true,cond_false,aaa,e1,f2,e2,jL hl];rfl
theorem Bt{q:String}{K:List Int}{w P:V}{p:Int×Pk}{s:Sl}(hs:s.aae=false)(h:Tb c T)(h0:p.1∉([0,13]:List Int))(hK:p.1∉K)(h1:p.1≠1)(hm:ph (n+12) 882 [.tab,.int p.1] T=B' (.bool true,T))(Nv:K≠[])(hk:oZ q (L' (K=[])) p.2=.drop):rI q (L' (K=[])) (eE (n+12)) (GY w (sv q) P K) c T p out s:=by
 refine(fy F' T (λkk=>?_) h (.rfl) (by refine sb hk ?_;rfl))
 refine(gB (n+12) (.int p.1) w (sv q) P (.lst (K.map .int)) (.lst (out.map .int)) s hs T kk).trans ?_
 simp only[tA,nS,ceq,aaa,aav,aj h0,aj hK,aj h1,cond_false,tK,Nv,hm,cL,bh,bo,aH,Option.toList,a0];rfl
theorem Bu{q:String}(hq:q∈names4){K:List Int}{w P:V}(p:Int×Pk)(out:List Int)(c:Nat)(T:TS)(s:Sl)(hs:s.aae=false)(h:Tb (c+4) T)(hl:out.length<1000)(hp:Gs q K T p):rI q (L' (K=[])) (eE (n+12)) (GY w (sv q) P K) c T p out s:=by
 obtain⟨⟨pc,ok⟩,pr,hK⟩:=hp
 have ne:=oq h pc
 have h':Tb c T:=h.less (bt ..)
 have n0:p.2≠ .any->p.1∉([0,13]:List Int):=λe m=>(aD.mp m).elim (λm=>e (ne.2.1.mp m)) λm=>ne.1 (am.mp m)
 have n1:p.2≠ .unk->p.1≠1:=λe m=>e (ne.2.2.mp m)
 have hm:=uP (n+8) h pc
 have nK:p.2.rl q=F'->p.1∉K:=λe m=>by have:=hK.mp m;rw[e] at this;exact nb this
 have pt:∀T',xb T T'->Pc T' p.1 p.2:=λO e=>pc.mono e
 obtain⟨t,kd⟩:=p
 induction kd using Pk.casesOn with
 |nul=>exact nb pr.symm
 |val=>exact nb pr.symm
 |any=>exact vT n hs h' hl (.inl (by refine sb (ne.2.1.mpr rfl) ?_;exact af ..)) rfl
 |opn=>exact rJ n hq hs h hl (n0 nofun) (nK rfl) pt ok (.inl rfl) rfl (λO z m=>⟨z,rfl,m⟩) (.inr ⟨n1 nofun,rfl,hm,λe=>nb e⟩)
 |free=>exact rJ n hq hs h hl (n0 nofun) (nK rfl) pt ok (.inr (.inl rfl)) rfl (λO z m=>⟨z,rfl,m⟩) (.inr ⟨n1 nofun,rfl,hm,λe=>nb e⟩)
 |unk=>exact rJ n hq (t:=10) (k:=.opn) hs h hl (n0 nofun) (nK rfl) (λO O=>rfl) ao (.inl rfl) rfl (λO z m=>⟨z,rfl,m⟩) (.inl ⟨pc,rfl⟩)
 |shp S=>
  by_cases hr:(S.rl q).isSome=true
  .exact vT n hs h' hl (.inr (hK.mpr hr)) (qf hr)
  .have hr:=tB hr;by_cases Nv:K=[]
   .exact rJ n hq hs h hl (n0 nofun) (nK hr) pt ok (.inr (.inr ⟨S,rfl⟩)) hr (λO z m=>by(refine sb (kM hr) ?_;refine sb (ak Nv) ?_);exact⟨z,rfl,m⟩) (.inr ⟨n1 nofun,rfl,hm,λO=>Nv⟩)
   .exact Bt n hs h' (n0 nofun) (nK hr) (n1 nofun) hm Nv (by(refine sb (kM hr) ?_;refine sb (aj Nv) ?_);rfl)
theorem Bv{q:String}(hq:q∈names4)(K:List Int)(w P:V)(k:Kn)(ps:List (Int×Pk))(out:List Int)(c:Nat)(T:TS)(s:Sl)(hs:s.aae=false)(h:Tb (c+4*ps.length) T)(hl:out.length+ps.length<1000)(hp:∀p∈ps,Gs q K T p):∃zs T' s',s'.aae=false/\Tb c T'/\Ex T T'/\gY T' q (L' (K=[])) ps zs/\cG (eE (n+12)) (ps.map λp=>V.int p.1) (GY w (sv q) P K out s) T k=k (GY w (sv q) P K (out++zs) s') T':=qe (I:=Gs q K) (λO O O e i=>⟨i.1.mono e.r,i.2⟩) (λp out c T s=>Bu n hq p out c T s) k ps out c T s hs h hl hp
end
theorem zo{q:String}(nd:(ps.map (·.1)).Nodup){p:Int×Pk}(m:p∈ps):p.1∈(kn q ps).map (·.1)↔(p.2.rl q).isSome=true:=by
 constructor
 .intro h;obtain⟨p',m',e⟩:=aJ.mp h;obtain⟨m1,m2⟩:=aP.mp m';have key:∀(l:List (Int×Pk)),(l.map (·.1)).Nodup->∀a∈l,∀b∈l,a.1=b.1->a=b:=by
   intro l;induction l with
   |nil=>intro _ a ha;cases ha
   |cons x l ih=>
    intro nd a ha b hb e;rw[aC,bj] at nd;rcases aD.mp ha with qa|qa<;>rcases aD.mp hb with qb|qb
    .rw[qa,qb]
    .exact absurd (aJ.mpr ⟨b,qb,by rw[<- e,qa]⟩) nd.1
    .exact absurd (aJ.mpr ⟨a,qa,by rw[e,qb]⟩) nd.1
    .exact ih nd.2 a qa b qb e
  refine sb (Eq.symm (key ps nd p' m1 p m e)) ?_;exact m2
 .intro h;exact aJ.mpr ⟨p,aP.mpr ⟨m,h⟩,rfl⟩
noncomputable def npr(ps:List (Int×Pk)):List (Int×Pk):=ps.filter λp=>!p.2.prim
theorem zp(nd:(ps.map (·.1)).Nodup):((npr ps).map (·.1)).Nodup:=nd.sublist (List.filter_sublist.map _)
noncomputable def nt(q:String)(ps:List (Int×Pk)):Bool:=decide ((kn q (npr ps)).map (·.1)=[])
theorem uR(ps:List (Int×Pk)):((ps.map λp=>p.1).map V.int)=ps.map λp=>V.int p.1:=by rw[bw];rfl
section
variable (n:Nat)
theorem xk(h:Tb (c+4*ps.length+1) T)(a:PA T z (ps.map (·.1)))(hl:ps.length<=10)(nd:(ps.map (·.1)).Nodup)(hp:∀p∈ps,j7 T p){q:String}(hq:q∈names4):∃z' T' zs,ph (n+14) 894 [.host,.int z,sv q,.bool true] T=B' (.int z',T')/\Tb c T'/\Ex T T'/\PA T' z' (uL zs)/\gY T' q (nt q ps) (npr ps) zs:=by
 have e1:∀p∈ps,ph (n+12) 820 [.tab,.int p.1] T=B' (.bool p.2.prim,T):=λp m=>D2 (n+8) h (hp p m).pc
 have NJ:(npr ps).length<=ps.length:=aU _ _
 have lkn:(kn q (npr ps)).length<=(npr ps).length:=aU _ _
 have N1:∀p∈npr ps,j7 T p/\p.2.prim=false:=λp m=>by
  obtain⟨m1,m2⟩:=aP.mp m;exact⟨hp p m1,by simpa using m2⟩
 refine hide λQz qz=>?_
 obtain⟨zs,T',s',Lv,t',x',o,e⟩:=Bv n hq ((kn q (npr ps)).map (·.1)) (.int z) (.lst ((npr ps).map λp=>V.int p.1)) (j2 (n+12)) (npr ps) [] (c+1) T .un rfl (h.less (IY NJ)) (by simp;exact Ep NJ hl rfl) (λp m=>⟨(N1 p m).1,(N1 p m).2,zo (zp nd) m⟩)
 have hg:=gY.gp t' hq (λp m=>(N1 p m).1.pc.mono x'.r) o
 have lz:=o.len
 obtain⟨z',N5,eu,tu,xu,pu⟩:=kL (n+9) (c:=c) t' (V0:=.lst (zs.map .int)) rfl hg (HM lz NJ hl rfl)
 refine qz ?_
 refine⟨z',N5,zs,?_,tu,x'.trans xu,pu,o.mono xu.r⟩
 rw[kB,eU]
 simp only[aaa,cL,cond_true]
 rw[wW,cB (n+11) h a]
 simp only[aaa,eit]
 rw[cH () (by rw[ae,ae];exact O1 hl rfl),aaa,uR,cN _ T (λp:Int×Pk=>V.int p.1) (λp=>!p.2.prim) ps (λp m=>by
  rw[e1 p m]
  simp only[aaa,cL]
  cases p.2.prim<;>rfl)]
 simp only[aaa]
 show((((C' (cy (.lst ((npr ps).map λp=>V.int p.1))) λl=>B' (l,T)).bind _).bind _))=_
 rw[show cy (.lst ((npr ps).map λp=>V.int p.1))=B' ((npr ps).map λp=>V.int p.1) from rfl,aaa,aaa,cH () (by rw[ae];exact O9 NJ hl rfl),aaa,cN _ T (λp:Int×Pk=>V.int p.1) (λp=>(p.2.rl q).isSome) (npr ps) (λp m=>by
   obtain⟨⟨pc,ok⟩,pr⟩:=N1 p m
   obtain⟨t,k⟩:=p
   have hm:=uP (n+8) h pc
   simp only[hm,aaa,cL]
   clear m pr ok hm;induction k using Pk.casesOn with
   |shp S=>
    have:=F0 (n+7) h pc hq
    simp only[Pk.obj,cond_true,this,aaa,cL]
    show _=B' (bif(S.rl q).isSome then _ else _,T)
    cases (S.rl q).isSome<;>rfl
   |_=>rfl)]
 simp only[aaa]
 have hk:((npr ps).filter λp=>(p.2.rl q).isSome).map (λp=>V.int p.1)=((kn q (npr ps)).map (·.1)).map V.int:=by rw[uR];rfl
 rw[hk]
 show((C' (cy (.lst ((npr ps).map λp=>V.int p.1))) λl=>B' (l,T)).bind _)=_
 rw[show cy (.lst ((npr ps).map λp=>V.int p.1))=B' ((npr ps).map λp=>V.int p.1) from rfl,aaa,aaa,cH () (by rw[ae];exact O9 NJ hl rfl),aaa]
 rw[show([]:List V)=([]:List Int).map V.int from rfl]
 refine e.trans ?_
 rw[List.nil_append]
 exact(oU _ _ _ _ _ _ _ Lv _).trans eu
theorem vU{q:String}(hq:q∈names4)(w:V)(k:Kn):∀(ps:List (Int×Pk))(out:List Int)(s:Sl),s.aae=false->Tb c T->out.length+ps.length<1000->(∀p∈ps,j7 T p)->∃s',s'.aae=false/\cG (da (n+12)) (ps.map λp=>V.int p.1) [.pl .host,.pl w,.pl (sv q),.pl (.bool false),.pl .tab,.ow (.lst (out.map .int)),s] T k=k [.pl .host,.pl w,.pl (sv q),.pl (.bool false),.pl .tab,.ow (.lst ((out++(ps.filter λp=>p.2.aa1 q).map (·.1)).map .int)),s'] T
 |[],out,s,hs,h,_,_=>⟨s,hs,by simp only[List.filter_nil,List.map_nil,a0];rfl⟩
 |p::ps,out,s,hs,h,hl,hp=>by
  simp only[List.length_cons] at hl;obtain⟨pc,ok⟩:=hp p (af ..);have ih:=λout hl=>vU hq w k ps out (.pl (.int p.1)) rfl h hl λx m=>hp x (ag _ m);have Xd:eW (.lst (out.map .int)) (.int p.1)=B' (.lst ((out++[p.1]).map .int)):=by
   (refine sb (pW _ (by rw[ae];exact Ei hl rfl)) ?_;refine sb bM ?_);rfl
  have hm:=uP (n+8) h pc;have st:da (n+12) (.int p.1) [.pl .host,.pl w,.pl (sv q),.pl (.bool false),.pl .tab,.ow (.lst (out.map .int)),s] T (λG T=>cG (da (n+12)) (ps.map λp=>V.int p.1) G T k)=cG (da (n+12)) (ps.map λp=>V.int p.1) [.pl .host,.pl w,.pl (sv q),.pl (.bool false),.pl .tab,.ow (.lst ((bif p.2.aa1 q then out++[p.1] else out).map .int)),.pl (.int p.1)] T k:=by
   rw[ly _ _ _ _ _ _ _ hs,hm,D4 ok q];clear hp ih hm;obtain⟨t,kd⟩:=p;induction kd using Pk.casesOn with
   |shp S=>
    have:=D3 (n+7) h pc ok hq;simp only[aaa,cL,Pk.obj,bh,cond_false,this];cases S.sure q
    .simp only[bo,cond_true,Xd,aaa]
    .simp only[bh,cond_false,aaa]
   |_=>simp only[aaa,cL,Pk.obj,bo,cond_true,Xd]
  cases Lv:p.2.aa1 q
  .obtain⟨s',a,e⟩:=ih out (F8 hl);refine⟨s',a,?_⟩;show da (n+12) (.int p.1) _ T _=_;(refine sb st ?_;refine sb Lv ?_;refine sb bT ?_;refine sb Lv ?_);exact e
  .obtain⟨s',a,e⟩:=ih (out++[p.1]) (by simp;exact Cp hl);refine⟨s',a,?_⟩;show da (n+12) (.int p.1) _ T _=_;(refine sb st ?_;refine sb Lv ?_;refine sb bT ?_;refine sb Lv ?_);refine e.trans ?_;rw[bv];rfl
theorem zq(h:Tb (c+1) T)(a:PA T z (ps.map (·.1)))(hl:ps.length<=10)(hp:∀p∈ps,j7 T p){q:String}(hq:q∈names4):∃z' T',ph (n+13) 894 [.host,.int z,sv q,.bool false] T=B' (.int z',T')/\Tb c T'/\Ex T T'/\PA T' z' (uL ((ps.filter λp=>p.2.aa1 q).map (·.1))):=by
 refine hide λQz qz=>?_
 obtain⟨s',Lv,e⟩:=vU n hq (.int z) (gC (n+12)) ps [] .un rfl h (by simp;exact O4 hl rfl) hp
 obtain⟨z',T',eu,tu,xu,pu⟩:=kL (n+9) (c:=c) h (V0:=.lst (((ps.filter λp=>p.2.aa1 q).map (·.1)).map .int)) rfl (λt m=>by
   obtain⟨p,mp,rfl⟩:=aJ.mp m
   exact(hp p (aP.mp mp).1).pc.gp h) (by rw[ae];exact aQ (aU _ _) (O4 hl rfl))
 refine qz ?_
 refine⟨z',T',?_,tu,xu,pu⟩
 rw[kB,eU]
 simp only[aaa,cL,cond_false,cB (n+11) h a,eit]
 rw[cH () (by rw[ae,ae];exact O1 hl rfl),aaa,uR,show([]:List V)=([]:List Int).map V.int from rfl]
 refine e.trans ?_
 rw[lA _ _ _ _ _ _ Lv,List.nil_append]
 exact eu
end
noncomputable def Gu:Pk->Bool
 |.any=>true
 |_=>false
noncomputable def Gv:Pk->Bool
 |.unk|.opn|.free=>true
 |_=>false
theorem ot:∀k:Pk,∀T,cu T .Eq (sv k.aaA) (sv "any")=B' (Gu k)
 |.any,_|.unk,_|.opn,_|.free,_|.nul,_|.val,_|.shp _,_=>by kernel_rfl
theorem lG:∀k:Pk,∀T,cu T .Eq (sv k.aaA) (sv "open")=B' (Gv k)
 |.any,_|.unk,_|.opn,_|.free,_|.nul,_|.val,_|.shp _,_=>by kernel_rfl
theorem Bw:∀k:Pk,∀T,cu T .In (sv k.aaA) (.tup [(sv "shape"),(sv "open"),(sv "any")])=B' (!k.prim)
 |.any,_|.unk,_|.opn,_|.free,_|.nul,_|.val,_|.shp _,_=>by kernel_rfl
section
variable (n:Nat)
noncomputable def GH(l:List (Int×V))(w q P:V)(r:Int)(K out:List Int)(s:Sl):List Sl:=[.pl .tab,.pl (.di l),.pl w,.pl q,.pl (.int r),s,.pl P,.pl (.lst (K.map .int)),.ow (.lst (out.map .int))]
noncomputable def HH(q:String)(l:List (Int×V))(K:List Int)(r:Int)(T:TS)(p:Int×Pk):Prop:=At T r (.tup (oj q))/\Bk l p.1 p.2/\Gs q K T p
theorem F2{K:List Int}:decide (((K.length:Nat):Int)=0)=decide (K=[]):=by cases K<;>rfl
theorem F3{K:List Int}:fZ "len" [.lst (K.map .int)] T=B' (.int (K.length:Nat)):=tv T K
theorem HI{l:List (Int×V)}{t:Int}{k:Pk}{T:TS}(bk:Bk l t k):∃d,cv 2 T (.di l) (.int t)=B' (.tup [sv k.aaA,d])/\cv 2 T (.tup [sv k.aaA,d]) (.int 0)=B' (sv k.aaA):=bk.elim λd h=>⟨d,h.1,rfl⟩
section
variable {nt:Bool}{q:String}{l:List (Int×V)}{K:List Int}{w P:V}{r:Int}{p:Int×Pk}{s:Sl}
theorem tC(hs:s.aae=false)(bk:Bk l p.1 p.2)(h:Tb c T)(hl:out.length<1000)(hc:Gu p.2=true\/p.1∈K)(hk:oZ q nt p.2=.keep):rI q nt (dz n) (GH l w (sv q) P r K) c T p out s:=by
 refine(fy (B' p.1) T (λk=>?_) h (.rfl) (by refine sb hk ?_;rfl))
 refine x12 (HI (T:=T) bk) λd sb Rh=>?_
 refine(fE n (.int p.1) (.di l) w (sv q) (.int r) s P (.lst (K.map .int)) (.lst (out.map .int)) hs T k).trans ?_
 by_cases h0:p.1∈K
 .simp only[nS,aaa,ak h0,cond_true,jL hl];rfl
 .simp only[nS,aaa,sb,Rh,ot,aj h0,hc.resolve_right h0,cond_true,cond_false,jL hl];rfl
theorem mF(hs:s.aae=false)(bk:Bk l p.1 p.2)(h:Tb (c+1) T)(hl:out.length<1000)(hr:At T r (.tup (oj q)))(hK:p.1∉K)(hA:Gu p.2=false)(hO:∀T z,Mt T q t z->mj T q p.1 (oZ q nt p.2) (B' z))(hc:(p.1=1/\t=10)\/(p.1≠1/\t=p.1/\(Gv p.2=true\/K=[]))):rI q nt (dz (n+1)) (GH l w (sv q) P r K) c T p out s:=by
 have key:∃z T₁,(bif L' (t=11) then B' (V.int r,T) else ph (n+1) 137 [.tab,.tup [.int 7,.tup [.int t,.int r]]] T)=B' (.int z,T₁)/\Tb c T₁/\Ex T T₁/\Mt T₁ q t z:=by
  by_cases h11:t=11
  .exact(fy r T (by refine sb (ak h11) ?_;rfl) (h.less (bt ..)) (.rfl) (by unfold Mt;refine sb (aZ h11) ?_;exact hr))
  .refine x24 (dD n h [.int 7,it [t,r]] (by rfl)) λz T₁ e t₁ x a=>?_;exact(fy z T₁ (by refine sb (aj h11) ?_;exact e) t₁ x (by unfold Mt;refine sb (aL h11) ?_;exact⟨r,hr.mono x,a⟩))
 refine x24 key λz T₁ e1 t1 x1 m1=>?_
 refine(fy (B' z) T₁ (λk=>?_) t1 x1 (hO T₁ z m1))
 refine x12 (HI (T:=T) bk) λd sb Rh=>?_
 refine(fE (n+1) (.int p.1) (.di l) w (sv q) (.int r) s P (.lst (K.map .int)) (.lst (out.map .int)) hs T k).trans ?_
 simp only[nS,aaa,sb,Rh,ot,aj hK,hA,cond_true,cond_false,ceq]
 clear hO m1;rcases hc with⟨h1,rfl⟩|⟨h1,rfl,ho⟩
 .have e1:ph (n+1) 137 [.tab,.tup [.int 7,.tup [.int 10,.int r]]] T=B' (.int z,T₁):=e1;simp only[ak h1,cond_true,e1,aaa,jL hl];rfl
 .rcases ho with ho|ho
  .simp only[aj h1,cond_true,cond_false,lG,ho,e1,aaa,jL hl];rfl
  .simp only[aj h1,cond_true,cond_false,lG,F3,F2,ceq,aav,ak ho,e1,aaa,jL hl];cases Gv p.2<;>rfl
theorem zr(hs:s.aae=false)(bk:Bk l p.1 p.2)(h:Tb c T)(hK:p.1∉K)(hA:Gu p.2=false)(hO:Gv p.2=false)(h1:p.1≠1)(Nv:K≠[])(hk:oZ q nt p.2=.drop):rI q nt (dz n) (GH l w (sv q) P r K) c T p out s:=by
 refine(fy F' T (λk=>?_) h (.rfl) (by refine sb hk ?_;rfl))
 refine x12 (HI (T:=T) bk) λd sb Rh=>?_
 refine(fE n (.int p.1) (.di l) w (sv q) (.int r) s P (.lst (K.map .int)) (.lst (out.map .int)) hs T k).trans ?_
 simp only[nS,aaa,sb,Rh,ot,lG,F3,F2,aj hK,hA,hO,aj h1,aj Nv,cond_true,cond_false,ceq,aav,Option.toList,a0];rfl
theorem zt(p:Int×Pk)(out:List Int)(c:Nat)(T:TS)(s:Sl)(hs:s.aae=false)(h:Tb (c+1) T)(hl:out.length<1000)(hp:HH q l K r T p):rI q (L' (K=[])) (dz (n+1)) (GH l w (sv q) P r K) c T p out s:=by
 obtain⟨hr,bk,⟨pc,ok⟩,pr,hK⟩:=hp
 have ne:=oq h pc
 have h':Tb c T:=h.less (bt ..)
 have n1:p.2≠ .unk->p.1≠1:=λe m=>e (ne.2.2.mp m)
 have nK:p.2.rl q=F'->p.1∉K:=λe m=>by have:=hK.mp m;rw[e] at this;exact nb this
 obtain⟨t,kd⟩:=p
 clear ok ne;induction kd using Pk.casesOn with
 |nul=>exact nb pr.symm
 |val=>exact nb pr.symm
 |any=>exact tC _ hs bk h' hl (.inl rfl) rfl
 |opn=>exact mF n hs bk h hl hr (nK rfl) rfl (λO z m=>⟨z,rfl,m⟩) (.inr ⟨n1 nofun,rfl,.inl rfl⟩)
 |free=>exact mF n hs bk h hl hr (nK rfl) rfl (λO z m=>⟨z,rfl,m⟩) (.inr ⟨n1 nofun,rfl,.inl rfl⟩)
 |unk=>exact mF n (t:=10) hs bk h hl hr (nK rfl) rfl (λO z m=>⟨z,rfl,m⟩) (.inl ⟨pc,rfl⟩)
 |shp S=>
  by_cases hq:(S.rl q).isSome=true
  .exact tC _ hs bk h' hl (.inr (hK.mpr hq)) (qf hq)
  .have hq:=tB hq;by_cases Nv:K=[]
   .exact mF n hs bk h hl hr (nK hq) rfl (λO z m=>by(refine sb (kM hq) ?_;refine sb (ak Nv) ?_);exact⟨z,rfl,m⟩) (.inr ⟨n1 nofun,rfl,.inr Nv⟩)
   .exact zr _ hs bk h' (nK hq) rfl rfl (n1 nofun) Nv (by(refine sb (kM hq) ?_;refine sb (aj Nv) ?_);rfl)
end
theorem zu{q:String}(l:List (Int×V))(K:List Int)(w P:V)(r:Int)(k:Kn)(ps:List (Int×Pk))(out:List Int)(c:Nat)(T:TS)(s:Sl)(hs:s.aae=false)(h:Tb (c+1*ps.length) T)(hl:out.length+ps.length<1000)(hp:∀p∈ps,HH q l K r T p):∃zs T' s',s'.aae=false/\Tb c T'/\Ex T T'/\gY T' q (L' (K=[])) ps zs/\cG (dz (n+1)) (ps.map λp=>V.int p.1) (GH l w (sv q) P r K out s) T k=k (GH l w (sv q) P r K (out++zs) s') T':=qe (I:=HH q l K r) (λO O O e i=>⟨i.1.mono e,i.2.1,i.2.2.1.mono e.r,i.2.2.2⟩) (λp out c T s=>zt n p out c T s) k ps out c T s hs h hl hp
end
section
variable (n:Nat)
theorem Ea(h:Tb (c+ps.length+1) T)(a:PA T z (ps.map (·.1)))(hl:ps.length<=10)(nd:(ps.map (·.1)).Nodup){l:List (Int×V)}(hp:∀p∈ps,j7 T p/\Bk l p.1 p.2){q:String}(hq:q∈names4):∃T' zs,ph (n+2) 986 [.tab,.di l,.int z,sv q] T=B' (.lst (zs.map .int),T')/\Tb c T'/\Ex T T'/\gY T' q (nt q ps) (npr ps) zs:=by
 have NJ:(npr ps).length<=ps.length:=aU _ _
 refine x24 (dD n h (oj q) (zh q hq)) λr T₁ e1 t1 x1 a1=>?_
 have e1:ph (n+1) 137 [.tab,(.tup [(.int 8),(.tup [(.tup [sv q,(.int 1),(.int 0),(.int 0)])]),(.tup []),(.tup []),(.tup []),(.tup []),(.int 0)])] T=B' (.int r,T₁):=e1
 have N1:∀p∈npr ps,j7 T₁ p/\p.2.prim=false/\Bk l p.1 p.2:=λp m=>by
  refine x02 (aP.mp m) λm1 m2=>?_;exact⟨(hp p m1).1.mono x1.r,by simpa using m2,(hp p m1).2⟩
 refine x35 (zu n l ((kn q (npr ps)).map (·.1)) (.int z) (.lst ((npr ps).map λp=>V.int p.1)) r (iA (n+1)) (npr ps) [] c T₁ .un rfl (t1.less (IZ NJ)) (by simp;exact Ep NJ hl rfl) (λp m=>(Gd a1 ((N1 p m).2.2) ((N1 p m).1) ((N1 p m).2.1) (zo (zp nd) m)))) λzs T' s' Lv t' x' o e=>?_
 refine(fy T' zs ?_ t' (x1.trans x') o)
 rw[sU,e1]
 simp only[aaa,og n t1 (a.mono x1),eil]
 rw[cH () (by rw[ae,ae];exact O1 hl rfl),aaa,uR,cN _ T₁ (λp:Int×Pk=>V.int p.1) (λp=>!p.2.prim) ps (λp m=>by
  refine x12 ((hp p m).2) λd fd rd=>?_
  have sb:cv 2 T₁ (.di l) (.int p.1)=B' (.tup [sv p.2.aaA,d]):=fd
  have Rh:cv 2 T₁ (.tup [sv p.2.aaA,d]) (.int 0)=B' (sv p.2.aaA):=rfl
  simp only[sb,Rh,aaa,Bw]
  cases p.2.prim<;>rfl)]
 simp only[aaa]
 have en:cy (.lst ((ps.filter λp=>!p.2.prim).map λp=>V.int p.1))=B' ((npr ps).map λp=>V.int p.1):=rfl
 rw[en,aaa,aaa,cH () (by rw[ae];exact O9 NJ hl rfl),aaa,cN _ T₁ (λp:Int×Pk=>V.int p.1) (λp=>(p.2.rl q).isSome) (npr ps) (λp m=>by
  refine x12 ((N1 p m).2.2) λd fd rd=>?_
  have sb:cv 2 T₁ (.di l) (.int p.1)=B' (.tup [sv p.2.aaA,d]):=fd
  have VH:cv 2 T₁ (.tup [sv p.2.aaA,d]) (.int 1)=B' d:=rfl
  simp only[sb,VH,aaa,rd.has T₁ q hq]
  cases (p.2.rl q).isSome<;>rfl)]
 simp only[aaa]
 have hk:((npr ps).filter λp=>(p.2.rl q).isSome).map (λp=>V.int p.1)=((kn q (npr ps)).map (·.1)).map V.int:=by rw[uR];rfl
 rw[hk,cH () (by rw[ae];exact O9 NJ hl rfl),aaa,show([]:List V)=([]:List Int).map V.int from rfl]
 refine e.trans ?_
 rw[List.nil_append]
 exact md _ _ _ _ _ _ _ _ _ Lv _
end
section
variable (n:Nat)
theorem Bx(l:List Int)(i:Int)(h0:0<=i)(h1:i<l.length)(hl:l.length<=1000):∃x,CD (l.map .int) i=B' (.int x):=by
 obtain⟨k,rfl⟩:∃k:Nat,i=k:=⟨i.toNat,by exact O95 h0⟩
 exact⟨_,y8 l k (H8 h1) hl⟩
theorem mG(h1:KI≠[])(h2:KI.length<=100)(i:Int)(T:TS):∃x,ph (n+1) 938 [.lst (KI.map .int),.int i] T=B' (.int x,T):=by
 have hp:0<KI.length:=List.length_pos_iff.mpr h1
 obtain⟨x,e⟩:=Bx KI (i%(KI.length:Nat)) (bU _ (JC hp)) (bz _ (Ga hp rfl)) (O1 h2 rfl)
 have e:cv 2 T (.lst (KI.map .int)) (.int (i%(KI.length:Nat)))=B' (.int x):=e
 have m31:∀a:Int,cI .Mult (.int 31) (.int a)=B' (.int (31*a)):=λO=>rfl
 have ad:∀a b:Int,cI .Add (.int a) (.int b)=B' (.int (a+b)):=λO O=>rfl
 refine⟨x+31*(i/(KI.length:Nat)),?_⟩
 rw[rj]
 simp only[tv,aaa,Ke _ (KI.length:Int) (Ga hp rfl),e,Kd _ (KI.length:Int) (Ga hp rfl) (GD h2 rfl),m31,ad]
structure Dr (T:TS) (l:List (Int×V)) (ps:List (Int×Pk)):Prop where
 ps:∀p∈ps,Pc T p.1 p.2/\p.2.mem/\Bk l p.1 p.2
 b0:Bk l 0 .any
 b1:Bk l 1 .unk
theorem Dr.mono{l:List (Int×V)}(h:Dr T l ps)(e:xb T T'):Dr T' l ps:=⟨λp m=>⟨(h.ps p m).1.mono e,(h.ps p m).2⟩,h.b0,h.b1⟩
noncomputable def uS(t:Int)(k:Pk)(p:Int×Pk):Int×Pk:=if p.1=t then(t,k) else p
theorem zv(t:Int)(k:Pk)(ps:List (Int×Pk)):(ps.map (uS t k)).map (·.1)=ps.map (·.1):=by
 rw[bw]
 refine List.map_congr_left λp O=>?_
 show(uS t k p).1=p.1
 unfold uS
 split
 .rename_i h;exact h.symm
 .rfl
theorem Dr.add(tb:Tb c T){l:List (Int×V)}(h:Dr T l ps){k:Pk}{d:V}(pc:Pc T t k)(mem:k.mem)(rd:Rd d k.rl):Dr T (dH t (.tup [sv k.aaA,d]) l) (ps.map (uS t k)++[(t,k)]):=by
 have bk:Bk (dH t (.tup [sv k.aaA,d]) l) t k:=⟨d,by rw[jj,aZ rfl],rd⟩
 have ne:=oq tb pc
 have n0:t≠0:=λe=>by have:=ne.2.1.mp e;subst this;exact mem
 have n1:t≠1:=λe=>by have:=ne.2.2.mp e;subst this;exact mem
 refine⟨λp m=>?_,h.b0.put n0,h.b1.put n1⟩
 rcases bf.mp m with m|m
 .refine x12 (aJ.mp m) λp' m' KC=>?_;subst KC;unfold uS;by_cases e:p'.1=t
  .rw[aZ e];exact⟨pc,mem,bk⟩
  .rw[aL e];refine tJ (h.ps p' m') λa b c=>?_;exact⟨a,b,c.put (bq e)⟩
 .rw[am.mp m];exact⟨pc,mem,bk⟩
noncomputable abbrev G1(KI x cnt Ov KQ:V)(b0 b1:Bool)(i t w r:V):List Sl:=[.un,.pl x,.pl KI,.pl .tab,.pl .host,.pl .decl,.pl aak,.pl cnt,.ow Ov,.ow KQ,cx b0 i,cx b1 t,cx b1 w,cx b1 r,.un,.un,.un,.un,.un,.un,.un,.un,.un,.un,.un,.un]
theorem qg(h1:KI≠[])(h2:KI.length<=100)(x cnt:V)(k:Kn):∀(is:List Int)(l:List (Int×V))(ps:List (Int×Pk))(c:Nat)(T:TS)(b0 b1:Bool)(i t w r:V),Tb (c+2*is.length) T->ps.length+is.length<=100->l.length+is.length<=200->Dr T l ps->∃l' Mj T' Qm WL i' t' w' r',Tb c T'/\Ex T T'/\Dr T' l' Mj/\Mj.length=ps.length+is.length/\l'.length<=l.length+is.length/\cG (mD (n+16)) (is.map .int) (G1 (.lst (KI.map .int)) x cnt (.di l) (.lst ((ps.map (·.1)).map .int)) b0 b1 i t w r) T k=k (G1 (.lst (KI.map .int)) x cnt (.di l') (.lst ((Mj.map (·.1)).map .int)) Qm WL i' t' w' r') T'
 |[],l,ps,c,T,b0,b1,i,t,w,r,h,_,_,dr=>⟨l,ps,T,b0,b1,i,t,w,r,h,.rfl,dr,rfl,by simp,rfl⟩
 |j::is,l,ps,c,T,b0,b1,i,t,w,r,h,hl,hl2,dr=>by
  simp only[List.length_cons] at hl hl2;have h':Tb (c+2*is.length+2) T:=by simpa [Nat.mul_succ,bH] using h
  refine hide λQz qz=>?_;refine x11 (mG (n+15) h1 h2 (1+j) T) λy ey=>?_;refine EN ((Bp (n+13) h' y).ex) λt₁ T₁ k₁ d₁ ep tp xp pc mem rd=>?_;have ep:ph (n+16) 959 [.tab,aak,.int y] T=B' (.tup [.int t₁,sv k₁.aaA,d₁],T₁):=ep;have ey:ph (n+16) 938 [.lst (KI.map .int),.int (1+j)] T=B' (.int y,T):=ey;have dr':=(dr.mono xp.r).add tp pc mem rd;have eu:iG (.tup [.int t₁,sv k₁.aaA,d₁])=B' [.int t₁,sv k₁.aaA,d₁]:=rfl;have ad:cI .Add (.int 1) (.int j)=B' (.int (1+j)):=rfl;have lp:=la (k:=t₁) (v:=.tup [sv k₁.aaA,d₁]) (l:=l);obtain⟨l',Mj,T',Qm,WL,i',t',w',r',a1,a2,a3,a4,a6,a5⟩:=qg h1 h2 x cnt k is (dH t₁ (.tup [sv k₁.aaA,d₁]) l) (ps.map (uS t₁ k₁)++[(t₁,k₁)]) c T₁ true true (.int j) (.int t₁) (sv k₁.aaA) d₁ tp (by simp;exact O36 hl) (Gy hl2 lp) dr';refine qz ?_;refine⟨l',Mj,T',Qm,WL,i',t',w',r',a1,xp.trans a2,a3,by rw[a4];simp;exact Er,by rw[List.length_cons];exact HY a6 lp,?_⟩;show mD (n+16) (.int j) (G1 _ _ _ _ _ _ _ _ _ _ _) T _=_;rw[uD];simp only[ad,aaa,ey,ep,eu];have g:eN (aal (fnAt 991)) [Str.ofString "t",Str.ofString "what",Str.ofString "reads"] [.int t₁,sv k₁.aaA,d₁] [.un,.pl x,.pl (.lst (KI.map .int)),.pl .tab,.pl .host,.pl .decl,.pl aak,.pl cnt,.ow (.di l),.ow (.lst ((ps.map (·.1)).map .int)),.pl (.int j),(cx b1 t),(cx b1 w),(cx b1 r),.un,.un,.un,.un,.un,.un,.un,.un,.un,.un,.un,.un]=B' [.un,.pl x,.pl (.lst (KI.map .int)),.pl .tab,.pl .host,.pl .decl,.pl aak,.pl cnt,.ow (.di l),.ow (.lst ((ps.map (·.1)).map .int)),.pl (.int j),.pl (.int t₁),.pl (sv k₁.aaA),.pl d₁,.un,.un,.un,.un,.un,.un,.un,.un,.un,.un,.un,.un]:=by kernel_rfl
  rw[g,aaa,uC];have pv:hZ (.di l) (.int t₁) (.tup [sv k₁.aaA,d₁])=B' (.di (dH t₁ (.tup [sv k₁.aaA,d₁]) l)):=by
   show(bif L' (l.length<sizeLine) then B' (V.di (dH t₁ (.tup [sv k₁.aaA,d₁]) l)) else F')=_;refine sb (ak (show l.length<sizeLine by have:=nU;exact Co hl2 rfl)) ?_;rfl
  rw[pv,aaa,pW _ (by rw[ae,ae];exact Co hl rfl),aaa];refine Eq.trans ?_ a5;(refine sb (show(ps.map (uS t₁ k₁)++[(t₁,k₁)]).map (·.1)=ps.map (·.1)++[t₁] by rw[bM,zv];rfl) ?_;refine sb bM ?_);rfl
end
noncomputable abbrev Up(l:List Int):Prop:=l.Pairwise (· <·)
theorem vV{i:Int}:∀{l:List Int},Up l->i∉l->Up (kR i l)
 |[],_,_=>List.pairwise_singleton _ _
 |j::l,h,m=>by
  have hj:=cg.mp h;simp only[jM,jN];by_cases q:i<j
  .rw[ak q];refine cg.mpr ⟨λx mx=>?_,h⟩;rcases aD.mp mx with rfl|mx
   .exact q
   .exact Int.lt_trans q (hj.1 x mx)
  .rw[aj q];refine cg.mpr ⟨λx mx=>?_,vV hj.2 λq=>m (ag _ q)⟩;rcases nX.mp mx with rfl|mx
   .have:x≠j:=λe=>m (by rw[e];exact af ..);exact JD q this
   .exact hj.1 x mx
theorem tD:∀{l:List Int},l.Nodup->Up (cQ l)
 |[],_=>List.Pairwise.nil
 |j::l,h=>by
  have:=bj.mp h;exact vV (tD this.2) λm=>this.1 (dn.mp m)
theorem tE:∀{l:List Int},Up l->cQ l=l
 |[],_=>rfl
 |j::l,h=>by
  have hj:=cg.mp h;show kR j (cQ l)=_;rw[tE hj.2];induction l using List.casesOn with
  |nil=>rfl
  |cons x l=>
   simp only[jM,jN];refine sb (ak (hj.1 x (af ..))) ?_;rfl
theorem Cj:∀(l ks:List Int),(ks++l).Nodup->dd l ks=ks++l
 |[],ks,_=>by simp [dd]
 |x::l,ks,h=>by
  have m:x∉ks:=λm=>by
   have:=(cn.mp h).2.2 x m x (af ..);exact this rfl
  show dd l (eX x ks)=_;unfold eX;rw[aL m,Cj l (ks++[x]) (by rw[bv];exact h),bv];rfl
theorem Up.nd{l:List Int}(h:Up l):l.Nodup:=h.imp λq e=>by exact JE q e
theorem Up.id{l:List Int}(h:Up l):cQ (dd l [])=l:=by
 rw[Cj l [] (by simpa using h.nd),List.nil_append,tE h]
theorem Ck{l:List Int}(h0:0∉l)(h1:1∉l):uL l=cQ (dd l []):=by
 unfold uL
 rw[aL h0,aL h1]
structure Nw (T:TS) (l:List (Int×V)) (z:Int) (ps:List (Int×Pk)):Prop where
 pa:PA T z (ps.map (·.1))
 len:ps.length<=8
 up:Up (ps.map (·.1))
 ok:∀p∈ps,j7 T p/\Bk l p.1 p.2
 sort:(∀p∈ps,p.2.mem)\/ps=[(0,.any)]\/ps=[(1,.unk)]
theorem Nw.mono{l:List (Int×V)}(h:Nw T l z ps)(e:xb T T'):Nw T' l z ps:=⟨h.pa.aa0 e,h.len,h.up,λp m=>⟨(h.ok p m).1.mono e,(h.ok p m).2⟩,h.sort⟩
theorem Pk.mem.abo{k:Pk}(h:k.mem):k.abo:=by
 induction k using Pk.casesOn with
 |shp S=>exact h
 |_=>exact ao
theorem Cm(t:Tb c T)(h:∀p∈ps,Pc T p.1 p.2/\p.2.mem):0∉ps.map (·.1)/\1∉ps.map (·.1):=by
 constructor
 .intro m;refine x12 (aJ.mp m) λp mp e=>?_;have:=(oq t (h p mp).1).2.1.mp e;have:=(h p mp).2;rw[‹p.2=.any›] at this;exact this
 .intro m;refine x12 (aJ.mp m) λp mp e=>?_;have:=(oq t (h p mp).1).2.2.mp e;have:=(h p mp).2;rw[‹p.2=.unk›] at this;exact this
noncomputable def tF(q:String)(P:List Int)(ps:List (Int×Pk)):List (Int×Pk):=if 2<=ps.length then ps.filter λp=>p.2.aaW q P else ps
theorem zw(q:String)(P:List Int)(ps:List (Int×Pk)):(tF q P ps).Sublist ps:=by
 unfold tF
 split
 .exact List.filter_sublist
 .exact List.Sublist.refl _
section
variable (n:Nat)
theorem vW(h:Tb (c+400) T){l:List (Int×V)}(w:Nw T l z ps){q:String}(hq:q∈names4){m:Md}(hm:m.ok):∃z' T',m.top n (.int z) (sv q) T=B' (.int z',T')/\Tb c T'/\Ex T T'/\Nw T' l z' (tF q m.P ps):=by
 have sub:=zw q m.P ps
 by_cases h2:2<=ps.length
 .have Ms:∀p∈ps,p.2.mem:=by
   rcases w.sort with hs|hs|hs
   .exact hs
   .rw[hs] at h2;simp at h2
   .rw[hs] at h2;simp at h2
  refine x24 (DV n h w.pa h2 (by have:=w.len;exact O1 this rfl) (λp mp=>⟨(w.ok p mp).1.pc,Ms p mp⟩) hq hm) λz' T' e t x p=>?_;have hp:tF q m.P ps=ps.filter λp=>p.2.aaW q m.P:=by unfold tF;rw[aZ h2]
  have up:Up ((ps.filter λp=>p.2.aaW q m.P).map (·.1)):=w.up.sublist (List.filter_sublist.map _);have Un:=Cm t (ps:=ps.filter λp=>p.2.aaW q m.P) λp mp=>⟨(w.ok p (aP.mp mp).1).1.pc.mono x.r,Ms p (aP.mp mp).1⟩;rw[Ck Un.1 Un.2,up.id] at p;refine(fy z' T' e t x ?_);rw[hp];exact⟨p,aG (aU _ _) w.len,up,λp mp=>⟨(w.ok p (aP.mp mp).1).1.mono x.r,(w.ok p (aP.mp mp).1).2⟩,.inl λp mp=>Ms p (aP.mp mp).1⟩
 .have hp:tF q m.P ps=ps:=by unfold tF;rw[aL h2]
  refine(fy z T (Bm n h w.pa (by rw[ae];exact H4 h2) m _) (h.less tN) (.rfl) ?_);rw[hp];exact w
theorem vX(h:Tb c T){l:List (Int×V)}(w:Nw T l z ps){q:String}(hq:q∈names4)(P:List Int)(w':Nw T l z' (tF q P ps)):ph (n+2) 981 [.tab,.di l,.int z,.int z',sv q,.lst (P.map .int)] T=B' (.bool true,T):=by
 refine xe n h w.pa (by have:=w.len;exact O1 this rfl) (λp m=>(w.ok p m).2) hq P ?_
 have:=w'.pa
 rw[<- w'.up.id] at this
 exact this
end
theorem vY(T:TS):∀i∈(List.range 8).map Int.ofNat,∃q,q∈names4/\cv 2 T (.lst [(sv "k"),(sv "k"),(sv "p"),(sv "k"),(sv "p"),(sv "q"),(sv "7"),(sv "k")]) (.int i)=B' (sv q):=by
 refine fi ⟨⟨"k",?_⟩,⟨"k",?_⟩,⟨"p",?_⟩,⟨"k",?_⟩,⟨"p",?_⟩,⟨"q",?_⟩,⟨"7",?_⟩,⟨"k",?_⟩,ao⟩<;>exact⟨by decide,by kernel_rfl⟩
theorem IF(a:Int):cI .Mod (.int a) (.int 5)=B' (.int (a%5)):=rfl
theorem HJ(a:Int):cI .Mod (.int a) (.int 8)=B' (.int (a%8)):=rfl
theorem HK(a:Int):cI .Mod (.int a) (.int 18)=B' (.int (a%18)):=rfl
theorem Km(a:Int):cI .FloorDiv (.int a) (.int 8)=B' (.int (a/8)):=rfl
noncomputable abbrev G6(KI x cnt Ov:V)(bp:Bool)(KQ i:V)(b1:Bool)(t w r Sg at_ y name MG KU:V)(b2:Bool)(yes no on off:V):List Sl:=[.un,.pl x,.pl KI,.pl .tab,.pl .host,.pl .decl,.pl aak,.pl cnt,.ow Ov,(oy bp KQ),.pl i,(cx b1 t),(cx b1 w),(cx b1 r),.pl Sg,.pl at_,.pl y,.pl name,.pl MG,.pl KU,(cx b2 yes),(cx b2 no),(cx b2 on),(cx b2 off),.un,.un]
section
variable (n:Nat)
theorem Ko(T:TS)(v w:Int):cu T .NotEq (.int v) (.int w)=B' (!decide (v=w)):=vz T v w
theorem Eb{o:Int}{v:Int}{vs:List Int}(e:cA o=v::vs)(T:TS):cC (λTr Tq=>(C' ((C' ((C' ((C' (cv 2 Tq (.lst ((cA o).map .int)) (.int 0)) λz=>B' (z,Tq))) λLj=>(C' (cu Lj.2 .NotEq Tr Lj.1) λN8=>B' (N8,Lj.2)))) λLr=>bif Lr.1 then B' (true,Lr.2) else B' (false,Lr.2))) λRK=>bif RK.1 then B' (B' Tr,RK.2) else B' (F',RK.2))) ((lD++lE).map .int) T=B' (((lD++lE).filter λx=>!decide (x=v)).map .int,T):=by
 refine cN _ T V.int (λx=>!decide (x=v)) (lD++lE) λx O=>?_
 have e0:cv 2 T (.lst ((v::vs).map .int)) (.int 0)=B' (.int v):=rfl
 refine sb e ?_
 simp only[e0,aaa,Ko]
 cases L' (x=v)<;>rfl
theorem ou{l:List (Int×V)}{K7 La y:Int}{q:String}{KI x cnt i t wh r at_ MG KU KQ on off:V}{bp b1:Bool}{k:Kn}(m1:ph (n+16) 981 [.tab,.di l,.int z,.int K7,sv q,on] T=B' (.bool true,T))(m2:ph (n+16) 981 [.tab,.di l,.int z,.int La,sv q,off] T=B' (.bool true,T))(ef:(bif L' (y/3%2=0) then V.int K7 else .int La)=.int z'):i6 (n+16) k (G6 KI x cnt (.di l) bp KQ i b1 t wh r (.int z) at_ (.int y) (sv q) MG KU true (.int K7) (.int La) on off) T=k (G6 KI x cnt (.di l) bp KQ i b1 t wh r (.int z') at_ (.int y) (sv q) MG KU true (.int K7) (.int La) on off) T:=by
 refine(tn _ _ _ _ _ _ _ _ _ _ _ _ _ _ _ _ _ _ _ _ _ _ _ _ _).trans ?_
 simp only[aaa,m1,m2,cL,bh,cond_false,IB,HC,ceq,aav,ef]
 rfl
theorem By(h:Tb (c+800) T){l:List (Int×V)}(w:Nw T l z ps){q:String}(hq:q∈names4){o:Int}(ho:o∈OT)(y:Int)(k:Kn)(KI x cnt:V)(bp:Bool)(KQ i:V)(b1:Bool)(t wh r at_:V)(b2:Bool)(yes no on off:V):∃z' Mj T' ND Q8 RE NG,Tb c T'/\Ex T T'/\Nw T' l z' Mj/\rC (n+16) k (G6 KI x cnt (.di l) bp KQ i b1 t wh r (.int z) at_ (.int y) (sv q) (.int o) (.lst ((cA o).map .int)) b2 yes no on off) T=k (G6 KI x cnt (.di l) bp KQ i b1 t wh r (.int z') at_ (.int y) (sv q) (.int o) (.lst ((cA o).map .int)) true ND Q8 RE NG) T':=by
 have Tj:∀M2 LK:Md,M2.ok->LK.ok->∃K7 T₁ La T₂,M2.top n (.int z) (sv q) T=B' (.int K7,T₁)/\LK.top n (.int z) (sv q) T₁=B' (.int La,T₂)/\Tb c T₂/\Ex T T₂/\(∃L1,Nw T₂ l K7 L1)/\(∃ML,Nw T₂ l La ML)/\ph (n+16) 981 [.tab,.di l,.int z,.int K7,sv q,.lst (M2.P.map .int)] T₂=B' (.bool true,T₂)/\ph (n+16) 981 [.tab,.di l,.int z,.int La,sv q,.lst (LK.P.map .int)] T₂=B' (.bool true,T₂):=λM2 LK h₁ h₂=>by
  refine hide λQz qz=>?_;refine x24 (vW n (c:=c+400) h w hq h₁) λK7 T₁ e1 t1 x1 w1=>?_;refine x24 (vW n (c:=c) t1 (w.mono x1.r) hq h₂) λLa T₂ e2 t2 x2 w2=>?_;have w0:=(w.mono x1.r).mono x2.r;refine qz ?_;exact(Gh K7 T₁ La T₂ e1 e2 t2 (x1.trans x2) (⟨_,w1.mono x2.r⟩) (⟨_,w2⟩) (vX (n+14) t2 w0 hq M2.P (w1.mono x2.r)) (vX (n+14) t2 w0 hq LK.P w2))
 by_cases h5:y%5=4
 .obtain⟨K7,T₁,La,T₂,e1,e2,t2,x2,⟨L1,w1⟩,⟨ML,w2⟩,m1,m2⟩:=Tj .tru .fal ao ao;have e1:ph (n+16) 921 [.host,.int z,sv q,.bool true] T=B' (.int K7,T₁):=e1;have e2:ph (n+16) 921 [.host,.int z,sv q,.bool false] T₁=B' (.int La,T₂):=e2;have m1:ph (n+16) 981 [.tab,.di l,.int z,.int K7,sv q,.lst [(.int 3),(.int 5),(.int 6),(.int 8),(.int 9)]] T₂=B' (.bool true,T₂):=m1;have m2:ph (n+16) 981 [.tab,.di l,.int z,.int La,sv q,.lst [(.int 0),(.int 1),(.int 2),(.int 4),(.int 7)]] T₂=B' (.bool true,T₂):=m2;have L3:∃z' Mj,Nw T₂ l z' Mj/\(bif L' (y/3%2=0) then V.int K7 else .int La)=.int z':=by
   cases L' (y/3%2=0)
   .exact(m22 La ML w2 rfl)
   .exact(m22 K7 L1 w1 rfl)
  refine iP L3 λz' Mj wf ef=>?_;refine(Iv z' Mj T₂ (.int K7) (.int La) (.lst (lD.map .int)) (.lst (lE.map .int)) t2 x2 wf ?_);rw[n8];simp only[IF,aaa,ceq,h5,aW,cond_true,e1,e2];exact ou n m1 m2 ef
 .obtain⟨K7,T₁,La,T₂,e1,e2,t2,x2,⟨L1,w1⟩,⟨ML,w2⟩,m1,m2⟩:=Tj (.yes o) (.no o) ho ho;have e1:ph (n+16) 916 [.host,.int z,sv q,.int o,.bool true] T=B' (.int K7,T₁):=e1;have e2:ph (n+16) 916 [.host,.int z,sv q,.int o,.bool false] T₁=B' (.int La,T₂):=e2;have m1:ph (n+16) 981 [.tab,.di l,.int z,.int K7,sv q,.lst ((cA o).map .int)] T₂=B' (.bool true,T₂):=m1;have m2:ph (n+16) 981 [.tab,.di l,.int z,.int La,sv q,.lst ((uN o).map .int)] T₂=B' (.bool true,T₂):=m2;have L3:∃z' Mj,Nw T₂ l z' Mj/\(bif L' (y/3%2=0) then V.int K7 else .int La)=.int z':=by
   cases L' (y/3%2=0)
   .exact(m22 La ML w2 rfl)
   .exact(m22 K7 L1 w1 rfl)
  refine iP L3 λz' Mj wf ef=>?_;have ea:cI .Add (.lst [(.int 3),(.int 5),(.int 6),(.int 8),(.int 9)]) (.lst [(.int 0),(.int 1),(.int 2),(.int 4),(.int 7)])=B' (.lst ((lD++lE).map .int)):=by kernel_rfl
  have ei:cy (.lst ((lD++lE).map .int))=B' ((lD++lE).map .int):=rfl;have ef':fit ((lD++lE).map V.int).length ()=B' ():=rfl;refine(Iv z' Mj T₂ (.int K7) (.int La) (.lst ((cA o).map .int)) (.lst ((uN o).map .int)) t2 x2 wf ?_);rw[n8];simp only[IF,aaa,ceq,h5,aH,cond_false,e1,e2,ea,tv];by_cases h1:(((cA o).length:Nat):Int)=1
  .have hl:(cA o).length=1:=Jg h1;obtain⟨v,hv⟩:∃v,cA o=[v]:=List.length_eq_one_iff.mp hl;have Py:uN o=(lD++lE).filter λx=>!decide (x=v):=by
    unfold uN;(refine sb (aZ hl) ?_;refine sb hv ?_);rfl
   refine sb (ak h1) ?_;simp only[cond_true,ei,ef',aaa];rw[Eb hv,<- Py];simp only[aaa];exact ou n m1 m2 ef
  .have hl:¬(cA o).length=1:=JI h1;have Py:uN o=lD++lE:=by unfold uN;exact sb (aL hl) rfl
   rw[aj h1];simp only[cond_false,<- Py];exact ou n m1 m2 ef
noncomputable abbrev G5(KI x cnt Ov:V)(bp:Bool)(KQ:V)(b0:Bool)(i:V)(b1:Bool)(t w r Sg at_:V)(b2:Bool)(y name MG KU yes no on off:V):List Sl:=[.un,.pl x,.pl KI,.pl .tab,.pl .host,.pl .decl,.pl aak,.pl cnt,.ow Ov,(oy bp KQ),(cx b0 i),(cx b1 t),(cx b1 w),(cx b1 r),.pl Sg,.pl at_,(cx b2 y),(cx b2 name),(cx b2 MG),(cx b2 KU),(cx b2 yes),(cx b2 no),(cx b2 on),(cx b2 off),.un,.un]
theorem qh(h1:KI≠[])(h2:KI.length<=100)(x cnt:V)(bp:Bool)(KQ:V)(b1:Bool)(t wh r:V)(at_:Int)(l:List (Int×V))(k:Kn):∀(is:List Int)(z:Int)(ps:List (Int×Pk))(c:Nat)(T:TS)(b0 b2:Bool)(i y name MG KU yes no on off:V),Tb (c+800*is.length) T->Nw T l z ps->∃z' Mj T' Qm TA i' y' Nb Ps M6 ND Q8 RE NG,Tb c T'/\Ex T T'/\Nw T' l z' Mj/\cG (iD (n+16)) (is.map .int) (G5 (.lst (KI.map .int)) x cnt (.di l) bp KQ b0 i b1 t wh r (.int z) (.int at_) b2 y name MG KU yes no on off) T k=k (G5 (.lst (KI.map .int)) x cnt (.di l) bp KQ Qm i' b1 t wh r (.int z') (.int at_) TA y' Nb Ps M6 ND Q8 RE NG) T'
 |[],z,ps,c,T,b0,b2,i,y,name,MG,KU,yes,no,on,off,h,w=>⟨z,ps,T,b0,b2,i,y,name,MG,KU,yes,no,on,off,h,.rfl,w,rfl⟩
 |j::is,z,ps,c,T,b0,b2,i,y,name,MG,KU,yes,no,on,off,h,w=>by
  have h':Tb (c+800*is.length+800) T:=by simpa [Nat.mul_succ,bH] using h
  refine hide λQz qz=>?_;refine x11 (mG (n+15) h1 h2 (at_+j) T) λY ey=>?_;have ey:ph (n+16) 938 [.lst (KI.map .int),.int (at_+j)] T=B' (.int Y,T):=ey;refine x12 (vY T (Y%8) (gn (bU _ (by decide)) (bz _ (by decide)))) λq hq eq=>?_;refine x12 (FW T (Y/8%18) (gn (bU _ (by decide)) (bz _ (by decide)))) λo ho eo=>?_;refine J4 (By n (c:=c+800*is.length) h' w hq ho Y (λG T=>cG (iD (n+16)) (is.map V.int) G T k) (.lst (KI.map .int)) x cnt bp KQ (.int j) b1 t wh r (.int at_) b2 yes no on off) λK7 L1 T₁ RD SY S5 RN t₁ Vn V1 KF=>?_;obtain⟨z',Mj,T',Qm,TA,i',y',Nb,Ps,M6,ND,Q8,RE,NG,a1,a2,a3,a4⟩:=qh h1 h2 x cnt bp KQ b1 t wh r at_ l k is K7 L1 c T₁ true true (.int j) (.int Y) (sv q) (.int o) (.lst ((cA o).map .int)) RD SY S5 RN t₁ V1;refine qz ?_;refine⟨z',Mj,T',Qm,TA,i',y',Nb,Ps,M6,ND,Q8,RE,NG,a1,Vn.trans a2,a3,?_⟩;show iD (n+16) (.int j) (G5 _ _ _ _ _ _ _ _ _ _ _ _ _ _ _ _ _ _ _ _ _ _ _) T _=_;have ad:cI .Add (.int at_) (.int j)=B' (.int (at_+j)):=rfl;have eu:iG (.tup [.int o,.lst ((cA o).map .int)])=B' [.int o,.lst ((cA o).map .int)]:=rfl;rw[uE];simp only[ad,aaa,ey,kD,HJ,eq,Km,HK,eo,eu];have g:eN (aal (fnAt 991)) [Str.ofString "tag",Str.ofString "values"] [.int o,.lst ((cA o).map .int)] [.un,.pl x,.pl (.lst (KI.map .int)),.pl .tab,.pl .host,.pl .decl,.pl aak,.pl cnt,.ow (.di l),(oy bp KQ),.pl (.int j),(cx b1 t),(cx b1 wh),(cx b1 r),.pl (.int z),.pl (.int at_),.pl (.int Y),.pl (sv q),(cx b2 MG),(cx b2 KU),(cx b2 yes),(cx b2 no),(cx b2 on),(cx b2 off),.un,.un]=B' (G6 (.lst (KI.map .int)) x cnt (.di l) bp KQ (.int j) b1 t wh r (.int z) (.int at_) (.int Y) (sv q) (.int o) (.lst ((cA o).map .int)) b2 yes no on off):=by kernel_rfl
  rw[g,aaa];exact KF.trans a4
end
theorem vZ(base:List (Int×Pk)):∀M:List Int,(∀t∈M,t∈base.map (·.1))->∃ps:List (Int×Pk),ps.map (·.1)=M/\∀p∈ps,p∈base
 |[],_=>⟨[],rfl,λp m=>by cases m⟩
 |t::M,h=>by
  refine x12 (vZ base M λx m=>h x (ag _ m)) λps e hp=>?_;refine x12 (aJ.mp (h t (af ..))) λp mp ep=>?_;refine⟨p::ps,by rw[aC,e,ep],λx m=>?_⟩;rcases aD.mp m with rfl|m
  .exact mp
  .exact hp x m
theorem F4(L:List Int):Up (uL L):=by
 unfold uL
 split
 .exact List.pairwise_singleton _ _
 .split
  .exact List.pairwise_singleton _ _
  .exact tD (ab7 List.nodup_nil)
theorem Ec(L:List Int):(uL L).length<=L.length:=by
 unfold uL
 split
 .rename_i h;have:=List.length_pos_of_mem h;simp;assumption
 .split
  .rename_i h;have:=List.length_pos_of_mem h;simp;assumption
  .rw[fM];have:=gD L [];simpa using this
theorem Ed(L:List Int):(0∉uL L/\1∉uL L)\/uL L=[0]\/uL L=[1]:=by
 by_cases h0:(0:Int)∈L
 .refine .inr (.inl ?_);unfold uL;rw[aZ h0]
 .by_cases h1:(1:Int)∈L
  .refine .inr (.inr ?_);unfold uL;rw[aL h0,aZ h1]
  .exact .inl ⟨λm=>h0 (uJ m),λm=>h1 (uJ m)⟩
theorem zx{l:List Int}(h:(0∉l/\1∉l)\/l=[0]\/l=[1]):uL l=cQ (dd l []):=by
 rcases h with h|rfl|rfl
 .exact Ck h.1 h.2
 .rfl
 .rfl
structure Nf (T:TS) (l:List (Int×V)) (z:Int) (ps:List (Int×Pk)):Prop where
 pa:PA T z (ps.map (·.1))
 len:ps.length<=9
 up:Up (ps.map (·.1))
 ok:∀p∈ps,j7 T p/\Bk l p.1 p.2
 top:(0∉ps.map (·.1)/\1∉ps.map (·.1))\/ps=[(0,.any)]\/ps=[(1,.unk)]
theorem v0(h:ps.map (·.1)=[t]):∃k,ps=[(t,k)]:=by
 induction ps using List.casesOn with
 |nil=>cases h
 |cons p ps=>
  induction ps using List.casesOn with
  |nil=>injection h with h;exact⟨p.2,by exact sb (Eq.symm (h)) rfl⟩
  |cons=>simp at h
section
variable (n:Nat)
theorem Cn(tb:Tb c T){l:List (Int×V)}{base:List (Int×Pk)}(hb:∀p∈base,j7 T p/\Bk l p.1 p.2)(pa:PA T z (uL (base.map (·.1))))(hl:base.length<=9):∃ps,Nf T l z ps/\(∀p∈ps,p∈base)/\ps.length<=base.length:=by
 refine x12 (vZ base (uL (base.map (·.1))) λt m=>uJ m) λps e hp=>?_
 have KO:ps.length<=base.length:=by
  have:=Ec (base.map (·.1));rw[<- e] at this;simpa using this
 refine(lU ps (⟨by refine sb e ?_;exact pa,by exact O9 KO hl rfl,by refine sb e ?_;exact F4 _,λp m=>hb p (hp p m),?_⟩) hp KO)
 rcases Ed (base.map (·.1)) with h|h|h
 .rw[<- e] at h;exact .inl h
 .rw[<- e] at h;clear e KO;obtain⟨k,rfl⟩:=v0 h;have:=(oq tb (hb (0,k) (hp _ (af ..))).1.pc).2.1.mp rfl;exact .inr (.inl (by rw[show k=.any from this]))
 .rw[<- e] at h;clear e KO;obtain⟨k,rfl⟩:=v0 h;have:=(oq tb (hb (1,k) (hp _ (af ..))).1.pc).2.2.mp rfl;exact .inr (.inr (by rw[show k=.unk from this]))
theorem zy(h:Tb (c+1) T){zs:List (Int×List Int)}(hV:cy V0=B' (zs.map λz=>.int z.1))(hz:∀z∈zs,PA T z.1 z.2)(hg:∀t∈zs.flatMap (·.2),Gp T t)(hl:(zs.flatMap (·.2)).length<64)(hn:zs.length<1000):∃z T',ph (n+3) 266 [.tab,V0] T=B' (.int z,T')/\Tb c T'/\Ex T T'/\PA T' z (uL (zs.flatMap (·.2))):=by
 have hK:∀p∈dd (zs.flatMap (·.2)) [],p∈zs.flatMap (·.2):=λp m=>fv.mp m
 have m1:(-1:Int)∉dd (zs.flatMap (·.2)) []:=λm=>by exact absurd (hg _ (hK _ m)).ne.1 (by decide)
 refine x24 (j3 n h V0 zs Gr hV hz hl hn (by intro m;exact(hg _ (hK _ m)).ne.2.2.2.1 rfl) (by intro m;exact(hg _ (hK _ m)).ne.2.2.2.2 rfl) (by
   intro p m
   obtain⟨k,KJ,k6,a,w⟩:=(hg _ (hK _ m)).row
   exact⟨λn=>⟨-1,(hg _ (hK _ m)).twin n,m1⟩,_,a,w⟩) (by
   intro p m
   obtain⟨k,KJ,k6,a,w⟩:=(hg _ (hK _ m)).row
   exact(m22 k KJ k6 a)) (by intro m;exact(hg _ (hK _ m)).ne.2.1 rfl)) λz T' e t x u=>?_
 refine(fy z T' e t x ?_)
 generalize zs.flatMap (·.2)=l at*
 unfold Du iB at u
 unfold uL
 have h13:(13:Int)∉dd l []:=λm=>by exact(hg _ (hK _ m)).ne.2.2.1 rfl
 by_cases h0:(0:Int)∈l
 .have PO:(0:Int)∈dd l []:=fv.mpr h0;simp only[PO,bJ,Int.le_refl] at u;(refine sb (aZ h0) ?_;refine sb u ?_);exact((hg 0 h0).pa).mono x
 .have PO:(0:Int)∉dd l []:=λm=>h0 (hK _ m);refine sb (aL h0) ?_;by_cases h1:(1:Int)∈l
  .have Re:(1:Int)∈dd l []:=fv.mpr h1;simp only[PO,h13,Re,bJ,bg,show(0:Int)<=1 from by decide] at u;(refine sb (aZ h1) ?_;refine sb u ?_);exact((hg 1 h1).pa).mono x
  .have Re:(1:Int)∉dd l []:=λm=>h1 (hK _ m);simp only[PO,h13,Re,bg,show ¬(0:Int)<= -1 from by decide] at u;refine sb (aL h1) ?_;have:aaB Gr (dd l [])=cQ (dd l []):=List.filter_eq_self.mpr λp O=>ak m1;rw[this] at u;exact u
theorem Ee(tb:Tb c T){q:String}(hq:q∈names4){nt:Bool}{zs:List Int}(Un:0∉ps.map (·.1)/\1∉ps.map (·.1))(h:gY T q nt ps zs):0∉zs/\1∉zs:=by
 have g:∀z∈zs,z≠0/\z≠1:=h.all (λO O m=>(m.gp tb hq).2) λp m=>⟨λe=>Un.1 (e▸List.mem_map_of_mem m),λe=>Un.2 (e▸List.mem_map_of_mem m)⟩
 exact⟨λm=>(g 0 m).1 rfl,λm=>(g 1 m).2 rfl⟩
theorem F5(T:TS)(a b:Int):cu T .Lt (.int a) (.int b)=B' (L' (a<b)):=rfl
theorem Ef(h:Tb (c+200) T){l:List (Int×V)}(w:Nf T l z ps){q:String}(hq:q∈names4):∃(K7:Int)(T₁:TS)(zs:List Int)(T₂:TS)(Pw:Int)(Lm:TS),ph (n+16) 894 [.host,.int z,sv q,.bool true] T=B' (.int K7,T₁)/\ph (n+16) 986 [.tab,.di l,.int z,sv q] T₁=B' (.lst (zs.map .int),T₂)/\ph (n+16) 964 [.tab,.int K7,.lst (zs.map .int)] T₂=B' (.bool true,T₂)/\ph (n+16) 971 [.tab,.int z] T₂=B' (.lst ((ps.map (·.1)).map .int),T₂)/\cC (λXB XN=>(C' ((C' ((C' ((C' ((C' ((C' ((C' (cv 2 XN (.di l) XB) λz=>B' (z,XN))) λRS=>(C' (cv 2 RS.2 RS.1 (.int 1)) λz=>B' (z,RS.2)))) λNA=>jz (gZ 2) (ph (n+16)) NA.1 (Str.ofString "get") [sv q,(.tup [(.lst []),(.int 0)])] NA.2)) λVK=>(C' (cv 2 VK.2 VK.1 (.int 1)) λz=>B' (z,VK.2)))) λPu=>(C' (cu Pu.2 .Lt Pu.1 (.int 2)) λRf=>B' (Rf,Pu.2)))) λOa=>bif Oa.1 then B' (true,Oa.2) else B' (false,Oa.2))) λUZ=>bif UZ.1 then B' (B' XB,UZ.2) else B' (F',UZ.2))) ((ps.map (·.1)).map .int) T₂=B' (((ps.filter λp=>p.2.aa1 q).map (·.1)).map .int,T₂)/\ph (n+16) 894 [.host,.int z,sv q,.bool false] T₂=B' (.int Pw,Lm)/\ph (n+16) 964 [.tab,.int Pw,.lst (((ps.filter λp=>p.2.aa1 q).map (·.1)).map .int)] Lm=B' (.bool true,Lm):=by
 have len:=w.len
 have nd:=w.up.nd
 refine x35 (xk (n+2) (c:=c+100) (ps:=ps) (h.less (IV len rfl)) w.pa (O1 len rfl) nd (λp m=>(w.ok p m).1) hq) λK7 T₁ zs e1 t1 x1 p1 o1=>?_
 refine x24 (Ea (n+14) (c:=c+50) (ps:=ps) (t1.less (Gz len rfl)) (w.pa.mono x1) (O1 len rfl) nd (λp m=>⟨(w.ok p m).1.mono x1.r,(w.ok p m).2⟩) hq) λT₂ QT e2 t2 x2 o2=>?_
 have ez:zs=QT:=(o1.mono x2.r).inj t2 o2
 subst ez
 have N1:∀p∈npr ps,Pc T₂ p.1 p.2:=λp m=>((w.ok p (aP.mp m).1).1.pc.mono x1.r).mono x2.r
 have Zx:(0∉zs/\1∉zs)\/zs=[0]\/zs=[1]:=by
  rcases w.top with ht|ht|ht
  .refine .inl (Ee t2 hq ⟨λm=>ht.1 ?_,λm=>ht.2 ?_⟩ o2)<;>(refine x12 (aJ.mp m) λp mp e=>?_;exact aJ.mpr ⟨p,(aP.mp mp).1,e⟩)
  .clear w len nd o1 N1;subst ht;refine x23 o2 λr x a b c=>?_;rw[show x=[] from c,show r=B' 0 from b] at a;exact .inr (.inl a)
  .clear w len nd o1 N1;subst ht;obtain⟨r,x,a,⟨y,e,m⟩,b⟩:=o2;rw[show x=[] from b,e] at a;replace a:zs=[y]:=a;have g:=m.gp t2 hq;refine .inl ?_;rw[a];simp only[am];exact⟨bq g.2.1,bq g.2.2⟩
 rw[zx Zx] at p1
 have lz:=o2.len
 have NJ:(npr ps).length<=ps.length:=aU _ _
 have e3:=Bn (n+15) t2 (p1.mono x2) (HM lz NJ len rfl)
 refine x24 (zq (n+3) (c:=c) (ps:=ps) (t2.less (Et rfl)) ((w.pa.mono x1).mono x2) (O1 len rfl) (λp m=>((w.ok p m).1.mono x1.r).mono x2.r) hq) λPw Lm e6 t3 x3 p3=>?_
 have Zq:(0∉(ps.filter λp=>p.2.aa1 q).map (·.1)/\1∉(ps.filter λp=>p.2.aa1 q).map (·.1))\/(ps.filter λp=>p.2.aa1 q).map (·.1)=[0]\/(ps.filter λp=>p.2.aa1 q).map (·.1)=[1]:=by
  rcases w.top with ht|ht|ht
  .refine .inl ⟨λm=>ht.1 ?_,λm=>ht.2 ?_⟩<;>(refine x12 (aJ.mp m) λp mp e=>?_;exact aJ.mpr ⟨p,(aP.mp mp).1,e⟩)
  .clear w len nd o1 o2 N1 lz NJ p3;subst ht;exact .inr (.inl rfl)
  .clear w len nd o1 o2 N1 lz NJ p3;subst ht;exact .inr (.inr rfl)
 rw[zx Zq] at p3
 have e7:=Bn (n+15) t3 p3 (by rw[ae];exact aQ (aU _ _) (O4 len rfl))
 refine⟨K7,T₁,zs,T₂,Pw,Lm,e1,e2,e3,og (n+15) t2 ((w.pa.mono x1).mono x2),?_,e6,e7⟩
 rw[uR,uR]
 refine cN _ T₂ (λp:Int×Pk=>V.int p.1) (λp=>p.2.aa1 q) ps λp m=>?_
 refine x12 ((w.ok p m).2) λd fd rd=>?_
 have sb:cv 2 T₂ (.di l) (.int p.1)=B' (.tup [sv p.2.aaA,d]):=fd
 have VH:cv 2 T₂ (.tup [sv p.2.aaA,d]) (.int 1)=B' d:=rfl
 have s1:∀x:List Int×Int,cv 2 T₂ (mh x) (.int 1)=B' (.int x.2):=λO=>rfl
 have s2:cv 2 T₂ (.tup [.lst [],.int 0]) (.int 1)=B' (.int 0):=rfl
 simp only[sb,VH,aaa,rd.get]
 rw[rd.get (n+16) T₂ _ q hq]
 unfold Pk.aa1
 cases p.2.rl q with
 |none=>
  have d0:decide ((0:Int)<2)=true:=by decide
  simp only[Option.map,Option.getD,aaa,s2,F5,d0];rfl
 |some x=>
  simp only[Option.map,Option.getD,aaa,s1,F5];cases L' (x.2<2)<;>rfl
end
theorem IG(a:Int):cI .Mod (.int a) (.int 4)=B' (.int (a%4)):=rfl
theorem Kp(a:Int):cI .Mod (.int a) (.int 6)=B' (.int (a%6)):=rfl
theorem II(a:Int):cI .FloorDiv (.int a) (.int 6)=B' (.int (a/6)):=rfl
theorem HL(a:Int):cI .FloorDiv (.int a) (.int 24)=B' (.int (a/24)):=rfl
section
variable (n:Nat)
theorem Kq(v:V)(T:TS):ph (n+1) 212 [.tab,v] T=ph (n+1) 212 [.tab,v,.int (-1),.int (-1)] T:=by kernel_rfl
theorem Bz(h:Tb (c+1) T)(hb:T.b=[]/\T.d=[]/\T.n=[]):∃t T',ph (n+2) 212 [.tab,sv "T"] T=B' (.int t,T')/\Tb c T'/\xb T T'/\At T' t (.tup [.int 10,.int 0]):=by
 obtain⟨R,I,b,d,e⟩:=T
 obtain⟨rfl,rfl,rfl⟩:b=[]/\d=[]/\e=[]:=hb
 have h':Tb (c+1) ⟨R,I,[.int (-1)],[.int (-1)],[sv "T"]⟩:=⟨h.rows,h.idx,h.nd,h.room⟩
 refine x24 (dD n h' [.int 10,.int 0] (by rfl)) λt T' ep tp xp ap=>?_
 refine(fy t T' ?_ tp xp.rows ap)
 rw[Kq,qO]
 refine Eq.trans (b:=ph (n+1) 137 [.tab,.tup [.int 10,.int 0]] ⟨R,I,[.int (-1)],[.int (-1)],[sv "T"]⟩) (by kernel_rfl) ep
theorem xl(h:Tb c T){k:Pk}(p:Pc T t k){r:List V}(a:At T t (.tup (.int 10::r))):k=.free:=by
 have key:∀(j:Int)(r':List V),At T t (.tup (.int j::r'))->j=10:=λj r' b=>by
  have:=a.row b;injection this with this;injection this with this _;injection this with this;exact this.symm
 have no:t∈([0,1,4,5,6,10]:List Int)->False:=λm=>by
  obtain⟨s,b⟩:=uK h t m;have:=key 1 _ b;exact Ic this.symm
 induction k with
 |any=>exact(no (by rw[show t=0 from p];decide)).elim
 |unk=>exact(no (by rw[show t=1 from p];decide)).elim
 |opn=>exact(no (by rw[show t=10 from p];decide)).elim
 |val=>exact(no (by rw[show t=6 from p];decide)).elim
 |nul=>exact(no (by clear a key no;rcases(show t=4\/t=5 from p) with rfl|rfl<;>decide)).elim
 |free=>rfl
 |shp S=>
  exfalso;obtain⟨p,q⟩:=p;clear a no;induction p with
  |obj b d e=>exact nomatch key 8 _ b
  |ref b=>exact nomatch key 9 _ b
  |str=>exact q rfl
theorem Nw.nf(h:Tb c T){l:List (Int×V)}(w:Nw T l z ps):Nf T l z ps:=⟨w.pa,by have:=w.len;exact O1 this rfl,w.up,w.ok,w.sort.elim (λhs=>.inl (Cm h λp m=>⟨(w.ok p m).1.pc,hs p m⟩)) .inr⟩
theorem tG(h:Tb (c+200) T){l:List (Int×V)}(w2:Nf T l z ps)(h1:KI≠[])(h2:KI.length<=100)(x:Int)(cnt:V)(bp:Bool)(KQ:V)(b0:Bool)(i:V)(b1:Bool)(t wh r:V)(at_:Int)(b2:Bool)(y name MG KU yes no on off:V)(b3:Bool)(lo:V):∃T',kK (n+16) [.un,.pl (.int x),.pl (.lst (KI.map .int)),.pl .tab,.pl .host,.pl .decl,.pl aak,.pl cnt,.ow (.di l),(oy bp KQ),(cx b0 i),(cx b1 t),(cx b1 wh),(cx b1 r),.pl (.int z),.pl (.int at_),(cx b2 y),(cx b2 name),(cx b2 MG),(cx b2 KU),(cx b2 yes),(cx b2 no),(cx b2 on),(cx b2 off),(cx b3 lo),.un] T=B' (.bool true,T'):=by
 have ad:cI .Add (.int at_) (.int 2)=B' (.int (at_+2)):=rfl
 refine x11 (mG (n+15) h1 h2 (at_+2) T) λY ey=>?_
 have ey:ph (n+16) 938 [.lst (KI.map .int),.int (at_+2)] T=B' (.int Y,T):=ey
 refine x12 (vY T (Y%8) (gn (bU _ (by decide)) (bz _ (by decide)))) λq hq eq=>?_
 obtain⟨Pw,Lm,zs,PQ,ac4,NF,e1,e2,e3,e4,e5,e6,e7⟩:=Ef n (c:=c) h w2 hq
 refine⟨NF,?_⟩
 rw[tq]
 simp only[aaa,kD,ad,ey,HJ,eq,e1,e2,e3,e4,cL,bh,cond_false,eil]
 rw[cH () (by rw[ae,ae];have:=w2.len;exact O1 this rfl),aaa,e5]
 simp only[aaa]
 clear e5;generalize ((ps.filter λp=>p.2.aa1 q).map (·.1)).map V.int=L at*
 have g:du (aal (fnAt 991)) (bif V.flat (.lst L) then [.un,.pl (.int x),.pl (.lst (KI.map .int)),.pl .tab,.pl .host,.pl .decl,.pl aak,.pl cnt,.ow (.di l),(oy bp KQ),(cx b0 i),(cx b1 t),(cx b1 wh),(cx b1 r),.pl (.int z),.pl (.int at_),(cx b2 y),.pl (sv q),(cx b2 MG),(cx b2 KU),(cx b2 yes),(cx b2 no),(cx b2 on),(cx b2 off),(cx b3 lo),.un] else [.un,.pl (.int x),.pl (.lst (KI.map .int)),.pl .tab,.pl .host,.pl .decl,.pl aak,.pl cnt,.pl (.di l),(oy bp KQ),(cx b0 i),(cx b1 t),(cx b1 wh),(cx b1 r),.pl (.int z),.pl (.int at_),(cx b2 y),.pl (sv q),(cx b2 MG),(cx b2 KU),(cx b2 yes),(cx b2 no),(cx b2 on),(cx b2 off),(cx b3 lo),.un]) (Str.ofString "left_over") (.pl (.lst L))=B' [.un,.pl (.int x),.pl (.lst (KI.map .int)),.pl .tab,.pl .host,.pl .decl,.pl aak,.pl cnt,.pl (.di l),(oy bp KQ),(cx b0 i),(cx b1 t),(cx b1 wh),(cx b1 r),.pl (.int z),.pl (.int at_),(cx b2 y),.pl (sv q),(cx b2 MG),(cx b2 KU),(cx b2 yes),(cx b2 no),(cx b2 on),(cx b2 off),(cx b3 lo),.pl (.lst L)]:=by kernel_rfl
 rw[g,aaa,uF]
 simp only[e6,aaa,e7]
theorem xn(h:Tb (c+300) T)(hb:T.b=[]/\T.d=[]/\T.n=[]){l:List (Int×V)}(hl:l.length<=1000)(w:Nw T l z ps)(h1:KI≠[])(h2:KI.length<=100)(x:Int)(cnt:V)(bp:Bool)(KQ:V)(b0:Bool)(i:V)(b1:Bool)(t wh r:V)(at_:Int)(b2:Bool)(y name MG KU yes no on off:V):∃T',ji (n+16) (G5 (.lst (KI.map .int)) (.int x) cnt (.di l) bp KQ b0 i b1 t wh r (.int z) (.int at_) b2 y name MG KU yes no on off) T=B' (.bool true,T'):=by
 by_cases h4:x/6%4=0
 .refine x24 (Bz (n+14) (c:=c+299) h hb) λf T₁ ef t1 x1 a1=>?_;have ef:ph (n+16) 212 [.tab,sv "T"] T=B' (.int f,T₁):=ef;have w1:=w.mono x1;have X1:Pc T₁ f .free:=⟨0,a1⟩;have nef:∀p∈ps,f≠p.1:=λp m e=>by
   have:=xl t1 (w1.ok p m).1.pc (e▸a1);rcases w.sort with hs|hs|hs
   .have:=hs p m;rw[‹p.2=.free›] at this;exact this
   .rw[hs] at m;replace this:=(am.mp m)▸this;cases this
   .rw[hs] at m;replace this:=(am.mp m)▸this;cases this
  have pv:hZ (.di l) (.int f) (.tup [sv "open",.di []])=B' (.di (dH f (.tup [sv "open",.di []]) l)):=by
   show(bif L' (l.length<sizeLine) then B' (V.di (dH f (.tup [sv "open",.di []]) l)) else F')=_;refine sb (ak (show l.length<sizeLine by have:=nU;exact O4 hl rfl)) ?_;rfl
  have Lu:∀p∈ps++[(f,Pk.free)],j7 T₁ p/\Bk (dH f (.tup [sv "open",.di []]) l) p.1 p.2:=λp m=>by
   rcases bf.mp m with m|m
   .exact⟨(w1.ok p m).1,(w1.ok p m).2.put (nef p m)⟩
   .refine sb (am.mp m) ?_;exact⟨⟨X1,ao⟩,.di [],by rw[jj,aZ rfl];rfl,i9⟩
  have Wf:[(z,ps.map (·.1)),(f,[f])].flatMap (·.2)=(ps++[(f,Pk.free)]).map (·.1):=by simp
  have len:=w.len;refine x24 (zy (n+13) (c:=c+298) t1 (V0:=.lst [.int z,.int f]) (zs:=[(z,ps.map (·.1)),(f,[f])]) rfl (λy m=>by
    simp only[aD,List.not_mem_nil,or_false] at m
    rcases m with rfl|rfl
    .exact w1.pa
    .exact(X1.gp t1).pa) (by
    refine sb Wf ?_;intro u m
    refine x12 (aJ.mp m) λp mp KC=>?_;subst KC
    exact(Lu p mp).1.pc.gp t1) (by refine sb Wf ?_;simp;exact HX len rfl) (by simp)) λLa T₂ eu t2 x2 p2=>?_
  have eu:ph (n+16) 266 [.tab,.lst [.int z,.int f]] T₁=B' (.int La,T₂):=eu;rw[Wf] at p2;refine kQ (Cn t2 (l:=dH f (.tup [sv "open",.di []]) l) (base:=ps++[(f,Pk.free)]) (λp m=>⟨(Lu p m).1.mono x2.r,(Lu p m).2⟩) p2 (by simp;exact O1 len rfl)) λML w2 O O=>?_;obtain⟨NF,e⟩:=tG n (c:=c) (t2.less (Et rfl)) w2 h1 h2 x cnt bp KQ b0 i b1 t wh r at_ b2 y name MG KU yes no on off true (.int f);refine⟨NF,?_⟩;rw[n9];simp only[II,IG,aaa,ceq,h4,aW,cond_true,ef,pv,eu];exact e
 .obtain⟨NF,e⟩:=tG n (c:=c) (h.less (Et rfl)) (w.nf h) h1 h2 x cnt bp KQ b0 i b1 t wh r at_ b2 y name MG KU yes no on off false .none;refine⟨NF,?_⟩;rw[n9];simp only[II,IG,aaa,ceq,h4,aH,cond_false];exact e
theorem tH(h:Tb (c+2000) T)(hx:Ex T2 T){l:List (Int×V)}(hl:l.length<=1000)(w:Nw T l z ps)(h1:KI≠[])(h2:KI.length<=100)(x:Int)(cnt:V)(bp:Bool)(KQ:V)(b0:Bool)(i:V)(b1:Bool)(t wh r:V)(at_:Int):∃T',cG (iD (n+16)) [.int 0,.int 1] (G5 (.lst (KI.map .int)) (.int x) cnt (.di l) bp KQ b0 i b1 t wh r (.int z) (.int at_) false .none .none .none .none .none .none .none .none) T (ji (n+16))=B' (.bool true,T'):=by
 refine hide λQz qz=>?_
 obtain⟨z',Mj,T',Qm,TA,i',y',Nb,Ps,M6,ND,Q8,RE,NG,a1,a2,a3,a4⟩:=qh n h1 h2 (.int x) cnt bp KQ b1 t wh r at_ l (ji (n+16)) [0,1] z ps (c+400) T b0 false i .none .none .none .none .none .none .none .none (h.less (by simp only[List.length_cons,List.length_nil];exact I0 rfl)) w
 have hb:=hx.trans a2
 obtain⟨N5,e⟩:=xn n (c:=c) (a1.less (Et rfl)) ⟨hb.b,hb.d,hb.n⟩ hl a3 h1 h2 x cnt bp KQ Qm i' b1 t wh r at_ TA y' Nb Ps M6 ND Q8 RE NG
 refine qz ?_
 exact⟨N5,a4.trans e⟩
end
theorem F6:Tb 9000 T2:=⟨⟨[],by simp⟩,rfl,by
 have h:T2.rows.Nodup:=by
  have key:∀l:List V,(l.map λx=>l.count x).all (· ==1)=true->l.Nodup:=λl h=>by
   rw[List.nodup_iff_count]
   intro a
   by_cases m:a∈l
   .have:=aE.mp h _ (aJ.mpr ⟨a,m,rfl⟩)
    exact Nat.le_of_eq (ba this)
   .rw[List.count_eq_zero_of_not_mem m];exact O0 rfl
  exact key _ (by kernel_rfl)
 exact h,by rw[yR];decide⟩
noncomputable def tI:List (Int×V):=[(0,.tup [sv "any",.di []]),(1,.tup [sv "open",.di []])]
section
variable (n:Nat)
theorem zz(tb:Tb (c+1) T){l:List (Int×V)}(dr:Dr T l ps)(hl:ps.length<=6)(e:List (Int×Pk))(he:e=[]\/e=[(0,.any)]\/e=[(1,.unk)])(hV:cy V0=B' (((ps++e).map (·.1)).map .int)):∃z T' Mj,ph (n+16) 266 [.tab,V0] T=B' (.int z,T')/\Tb c T'/\Ex T T'/\Nw T' l z Mj:=by
 have Lu:∀p∈ps++e,j7 T p/\Bk l p.1 p.2:=λp m=>by
  rcases bf.mp m with m|m
  .refine tJ (dr.ps p m) λa b d=>?_;exact⟨⟨a,b.abo⟩,d⟩
  .clear hV;rcases he with rfl|rfl|rfl
   .cases m
   .rw[am.mp m];exact⟨⟨rfl,ao⟩,dr.b0⟩
   .rw[am.mp m];exact⟨⟨rfl,ao⟩,dr.b1⟩
 have le:e.length<=1:=by clear hV Lu;rcases he with rfl|rfl|rfl<;>simp
 have len:(ps++e).length<=7:=by rw[bc];exact I3 hl le rfl
 refine x24 (kL (n+13) tb (l:=(ps++e).map (·.1)) hV (λu m=>by
  refine x12 (aJ.mp m) λp mp KC=>?_;subst KC
  exact(Lu p mp).1.pc.gp tb) (by rw[ae];exact O4 len rfl)) λz T' eu t x Xn=>?_
 refine kQ (Cn t (l:=l) (base:=ps++e) (λp m=>⟨(Lu p m).1.mono x.r,(Lu p m).2⟩) Xn (by exact O1 len rfl)) λMj w M8 KO=>?_
 refine⟨z,T',Mj,eu,t,x,w.pa,by exact O9 KO len rfl,w.up,w.ok,?_⟩
 rcases w.top with ht|ht|ht
 .refine .inl λp m=>?_;rcases bf.mp (M8 p m) with m'|m'
  .exact(dr.ps p m').2.1
  .exfalso;clear hV Lu le len Xn M8 KO;rcases he with rfl|rfl|rfl
   .cases m'
   .exact ht.1 (aJ.mpr ⟨p,m,by rw[am.mp m']⟩)
   .exact ht.2 (aJ.mpr ⟨p,m,by rw[am.mp m']⟩)
 .exact .inr (.inl ht)
 .exact .inr (.inr ht)
theorem BA(h1:KI≠[])(h2:KI.length<=100):∃T',(rc (gZ 2) (ph (n+16)) (lW (gZ 2) (n+16)) 30).xs (aal (fnAt 991)) [.un,.un,.pl (.lst (KI.map .int)),.pl .tab,.pl .host,.pl .decl,.pl aak,.un,.un,.un,.un,.un,.un,.un,.un,.un,.un,.un,.un,.un,.un,.un,.un,.un,.un,.un] T2 ((fnAt 991).body.drop 8) (λO T=>B' (V.none,T))=B' (.bool true,T'):=by
 refine hide λQz qz=>?_
 refine x11 (mG (n+15) h1 h2 0 T2) λx ex=>?_
 have ex:ph (n+16) 938 [.lst (KI.map .int),.int 0] T2=B' (.int x,T2):=ex
 obtain⟨m,hm⟩:∃m:Nat,x%6=m:=⟨(x%6).toNat,O95 (bU x (by decide))⟩
 have PU:m<6:=by exact JJ hm
 have er:kU (.int (m:Nat))=B' (((List.range m).map Int.ofNat).map .int):=by
  (refine sb (Cb m (by exact O3 PU rfl)) ?_;refine sb bw ?_);rfl
 have ed:d7 [((.int 0),(.tup [(sv "any"),(.di [])])),((.int 1),(.tup [(sv "open"),(.di [])]))]=B' (.di tI):=by kernel_rfl
 have ZI:Dr T2 tI []:=⟨λp m=>(by cases m),⟨.di [],rfl,i9⟩,⟨.di [],rfl,i9⟩⟩
 obtain⟨l,ps,T,b0,b1,i,t,w,r,tb,ext,dr,So,ll,eL⟩:=qg n h1 h2 (.int x) (.int (m:Nat)) (mE (n+16)) ((List.range m).map Int.ofNat) tI [] 8000 T2 false false .none .none .none .none (F6.less (by simp;exact JK PU rfl)) (by simp;exact O3 PU rfl) (by simp [tI];exact Ih PU rfl) ZI
 have So:ps.length=m:=by simpa using So
 have WW:l.length<=1000:=by
  have:tI.length=2:=rfl;simp at ll;exact aG ll (this▸Ih PU rfl)
 refine qz ?_
 clear Qz qz
 rw[Bf]
 simp only[ex,aaa,Kp,hm,ed,er]
 rw[cH () (by simp;exact O3 PU rfl),aaa]
 have XX:kU (.int 2)=B' [.int 0,.int 1]:=by kernel_rfl
 have XK:fit ([.int 0,.int 1]:List V).length ()=B' ():=rfl
 have a1:cI .Add (.int 1) (.int (m:Nat))=B' (.int (1+m)):=rfl
 have WN:∀(X:cK)(Y:cK),X=Y->(∃T',Y=B' (V.bool true,T'))->∃T',X=B' (V.bool true,T'):=λX Y e h=>e▸h
 refine WN _ _ eL ?_
 generalize hL:(ps.map (·.1)).map V.int=L
 show ∃T',mE (n+16) [.un,.pl (.int x),.pl (.lst (KI.map .int)),.pl .tab,.pl .host,.pl .decl,.pl aak,.pl (.int (m:Nat)),.ow (.di l),.ow (.lst L),(cx b0 i),(cx b1 t),(cx b1 w),(cx b1 r),.un,.un,.un,.un,.un,.un,.un,.un,.un,.un,.un,.un] T=B' (V.bool true,T')
 rw[uI]
 simp only[HL,HJ,HC,aaa,Ds]
 by_cases h5:5<x/24%8
 .refine sb (ak h5) ?_;have RV:x/24%2=0\/x/24%2=1:=Int.emod_two_eq _;refine hide λQz qz=>?_;obtain⟨e,he,ee⟩:∃e:List (Int×Pk),(e=[]\/e=[(0,.any)]\/e=[(1,.unk)])/\e.map (·.1)=[x/24%2]:=by
   rcases RV with h|h<;>refine sb h ?_
   .exact⟨_,.inr (.inl rfl),rfl⟩
   .exact⟨_,.inr (.inr rfl),rfl⟩
  have hP:(.lst (L++[.int (x/24%2)]):V)=.lst (((ps++e).map (·.1)).map .int):=by
   (refine sb bM ?_;refine sb bM ?_;refine sb ee ?_;refine sb hL ?_);rfl
  have f1:fit [V.int (x/24%2)].length (V.lst [V.int (x/24%2)])=B' (.lst [V.int (x/24%2)]):=rfl;have ea:cI .Add (.lst L) (.lst [.int (x/24%2)])=B' (.lst (L++[.int (x/24%2)])):=by
   show fit (L.length+1) _=_;exact cH _ (by rw[<- hL,ae,ae,So];exact O2 PU rfl)
  refine CC (zz n (c:=2000) (tb.less (by exact O0 rfl)) dr (by exact O8 So PU rfl) e he (V0:=.lst (((ps++e).map (·.1)).map .int)) rfl) λz T₁ L1 eu t1 x1 w1=>?_;refine qz ?_;clear Qz qz;simp only[cond_true,f1,aaa,ea];clear ea;generalize hP':L++[V.int (x/24%2)]=P at*;have g:du (aal (fnAt 991)) (bif V.flat (.lst P) then [.un,.pl (.int x),.pl (.lst (KI.map .int)),.pl .tab,.pl .host,.pl .decl,.pl aak,.pl (.int (m:Nat)),.ow (.di l),.ow (.lst L),(cx b0 i),(cx b1 t),(cx b1 w),(cx b1 r),.un,.un,.un,.un,.un,.un,.un,.un,.un,.un,.un,.un] else [.un,.pl (.int x),.pl (.lst (KI.map .int)),.pl .tab,.pl .host,.pl .decl,.pl aak,.pl (.int (m:Nat)),.ow (.di l),.pl (.lst L),(cx b0 i),(cx b1 t),(cx b1 w),(cx b1 r),.un,.un,.un,.un,.un,.un,.un,.un,.un,.un,.un,.un]) (Str.ofString "picks") (.pl (.lst P))=B' [.un,.pl (.int x),.pl (.lst (KI.map .int)),.pl .tab,.pl .host,.pl .decl,.pl aak,.pl (.int (m:Nat)),.ow (.di l),.pl (.lst P),(cx b0 i),(cx b1 t),(cx b1 w),(cx b1 r),.un,.un,.un,.un,.un,.un,.un,.un,.un,.un,.un,.un]:=by kernel_rfl
  rw[g,aaa,uG,hP,eu];simp only[aaa,a1,XX,XK];exact tH n (c:=0) (t1.less (by exact O0 rfl)) (ext.trans x1) WW w1 h1 h2 x (.int (m:Nat)) true _ b0 i b1 t w r (1+m)
 .refine sb (aj h5) ?_;refine hide λQz qz=>?_;refine CC (zz n (c:=2000) (tb.less (by exact O0 rfl)) dr (by exact O8 So PU rfl) [] (.inl rfl) (V0:=.lst L) (by rw[a0,hL];rfl)) λz T₁ L1 eu t1 x1 w1=>?_;refine qz ?_;clear Qz qz;simp only[cond_false,eu,aaa];have g:du (aal (fnAt 991)) (bif V.flat (.int z) then [.un,.pl (.int x),.pl (.lst (KI.map .int)),.pl .tab,.pl .host,.pl .decl,.pl aak,.pl (.int (m:Nat)),.ow (.di l),.ow (.lst L),(cx b0 i),(cx b1 t),(cx b1 w),(cx b1 r),.un,.un,.un,.un,.un,.un,.un,.un,.un,.un,.un,.un] else [.un,.pl (.int x),.pl (.lst (KI.map .int)),.pl .tab,.pl .host,.pl .decl,.pl aak,.pl (.int (m:Nat)),.ow (.di l),.pl (.lst L),(cx b0 i),(cx b1 t),(cx b1 w),(cx b1 r),.un,.un,.un,.un,.un,.un,.un,.un,.un,.un,.un,.un]) (Str.ofString "now") (.pl (.int z))=B' [.un,.pl (.int x),.pl (.lst (KI.map .int)),.pl .tab,.pl .host,.pl .decl,.pl aak,.pl (.int (m:Nat)),.ow (.di l),.ow (.lst L),(cx b0 i),(cx b1 t),(cx b1 w),(cx b1 r),.pl (.int z),.un,.un,.un,.un,.un,.un,.un,.un,.un,.un,.un]:=by kernel_rfl
  rw[g,aaa,uH];simp only[aaa,a1,XX,XK];exact tH n (c:=0) (t1.less (by exact O0 rfl)) (ext.trans x1) WW w1 h1 h2 x (.int (m:Nat)) false _ b0 i b1 t w r (1+m)
end
theorem h8(KI:List Int)(h1:KI≠[])(h2:KI.length<=100):∃T',(RB 2 30).xs cP (ΓL KI (.pl aak)) T2 (gx.drop 8) (λO T=>B' (.none,T))=B' (.bool true,T'):=BA 14 h1 h2
theorem Eg(P:N'):nsIn (K1 P) mainGlobals qj.name=B' (B' (.ref 991)):=by kernel_rfl
theorem uT(KK:List Int):(numsOf KK).length<=100:=by
 unfold numsOf
 cases h:KK.take 16 with
 |nil=>simp
 |cons a l=>
  have:=List.length_take (i:=16) (l:=KK);rw[h] at this;simp only[ae];exact JL this rfl
theorem zA{w:U'}{KK:List Int}(g:∀b o,(H1 w.params).get? b=B' o->s.heap.get? b=B' o)(hl:s.heap.get? an=B' (eB xs nn))(hi:adP xs KK)(KO:KK.length<=sizeLine):V' (ade pw w) callerA (call (.ref 991) [.ref an]) (λv s'=>v=.bool true/\(∀b o,s.heap.get? b=B' o->s'.heap.get? b=B' o)/\∃h tk,s'={s with heap:=h,toks:=tk}) E s:=by
 refine x12 (h0 KK) λQV QC h0=>?_
 refine x11 (h8 (numsOf KK) (uo KK).1 (uT KK)) λT3 h8=>?_
 exact yI ⟨rfl,by decide,by decide⟩ g hl hi KO QC h0 (h1 _) (h7 _) h8
noncomputable def IJ(P:N')(h:P')(v:G'):WData->Prop
 |.int x=>∃t,v=.int x t
 |.list xs=>∃a vs,v=.ref a/\h.get? a=B' {cls:=.type "list",data:=.seq vs.toArray}/\WellAll P h vs xs
 |_=>True
theorem BB{P:N'}{v:G'}{d:WData}(w:Well P h v d):IJ P h v d:=Well.casesOn (motive_1:=λv d _=>IJ P h v d) w ao (λ_=>ao) (λ_ t=>⟨t,rfl⟩) (λ_ _=>ao) (λ_ _=>ao) (λ_ _=>ao) (λ_=>ao) (λe w=>⟨_,_,rfl,e,w⟩) (λ_ _=>ao) (λ_ _=>ao) (λ_ _ _ _=>ao) (λ_ _ _ _=>ao) λ_ _ _ _=>ao
theorem Eh{P:N'}{vs:List G'}(w:WellAll P h vs []):vs=[]:=WellAll.casesOn (motive_2:=λvs ds _=>ds=[]->vs=[]) w (λ_=>rfl) (λ_ _ e=>nomatch e) rfl
theorem qi{P:N'}:∀{xs:List Int}{vs:List G'},WellAll P h vs (xs.map WData.int)->adP vs xs
 |[],_,w=>Eh w▸ .nil
 |x::xs,_,w=>x23 (wellAll_cons_inv w) λv vs e a b=>x11 (BB a) λt e'=>e▸e'▸ .cons _ t (qi b)
theorem walk0:WalkO qv iU (λO O=>True) (λw h=>∀b o,(H1 w.params).get? b=B' o->h.get? b=B' o) lr.toRowW qj [] λf vs=>PySem.call f vs:=by
 intro w KE KA mg mb G hy a o pm cd doc dV kV ha hd hc hD hm T9 args KU as RU LP hrd YG hlo
 have X:(K1 w.params).In KA.heap:=λb o e=>hy b o (eQ w.params b o e)
 have Oc:=mg_of X G.T.g (Eg w.params)
 rw[hm] at Oc
 injection Oc with Oc
 injection Oc with Oc
 subst Oc
 have Qt:=(pre_splitW RU).1
 have Tp:=(pre_splitW RU).2
 refine x23 (hasAllW_cons Qt) λd r KC hd1 Zi=>?_;subst KC
 clear RU LP hrd Qt;obtain rfl:=hasAllW_nil Zi
 refine x12 (hasW_list hd1) λxs KC hi=>?_;subst KC
 refine x11 (items_int hi) λKK KC=>?_;subst KC
 have KO:KK.length<=63:=by
  w_cond Tp;rename_i hc _;have hc:¬(63:Int)<((KK.map WData.int).length:Nat):=hc;rw[ae] at hc;exact JM hc
 cases YG with
 |cons w1 w2=>
  cases w2;cases w1 with
  |list e wi=>
   have hI:=qi wi;refine bb (zA hy e hI (aG KO (by decide))) (λv s' p=>?_) λO O e=>e;obtain⟨rfl,keep,h,tk,rfl⟩:=p;refine GoodW.toG ⟨.inl ⟨_,.bool true,[],rfl,λcls=>raisesW_false (λct m=>by cases m) cls,.bool true,?_,λO=>⟨List.nodup_nil,λa m=>by cases m⟩⟩,keep,rfl,T9⟩;exact postW_of (by wrow_shape) (by wtm_val) (by w_fin)
noncomputable abbrev p0:aem:=PySem.Challenge.pw_pc0114_01
noncomputable abbrev l0:OpenLaw:=PySem.Challenge.rw_pc0114_01
theorem Kr:(sreFenced p0.main&&((moduleNames p0.main.body).isEmpty||lookedIntoSs (moduleNames p0.main.body) p0.main.body))=true:=by
 rw[PySem.W.Fast.te11788848310118352699];kernel_rfl
theorem Ks:namesResolve p0=true:=by
 rw[PySem.W.Fast.te8377067652309620493];kernel_rfl
theorem Kt:p0.boundNames.all (λn=>!worldNames.contains n)=true:=by kernel_rfl
theorem Ku:(["vars","dir","locals"]:List O').filter (readsOut p0 p0.main.body)=[]:=by
 unfold readsOut
 rw[PySem.W.Fast.te17119622794617984870];kernel_rfl
theorem Kv:noRoadLSs {strict:=!(adC p0.main.body).all cThrough.contains,foot:=F',bare:=[]} p0.main.body=true:=by
 rw[PySem.W.Fast.te8326940854005059898];kernel_rfl
theorem Kw:(namesMeet p0 p0.main.body λ_ n=>attrL n)=true:=by
 rw[PySem.W.Fast.te17119622794617984870];kernel_rfl
theorem Kx:looksOpen p0=true:=by
 unfold looksOpen;rw[Ku]
 exact aeE (aeE (aeE (aeE Kr Ks) Kt) Kv) Kw
theorem Ky:l0.row.partSaid=true:=by
 unfold OpenRow.partSaid;rw[show looksOpen l0.row.prog=true from Kx];kernel_rfl
theorem Kz:l0.row.wellSaid=true:=by
 unfold OpenRow.wellSaid;rw[Ky];kernel_rfl
theorem ws0:PySem.Challenge.rw_pc0114_01.wellSaid=true:=by
 unfold OpenLaw.wellSaid;rw[Kz,PySem.W.Fast.te17119622794617984870,PySem.W.Fast.te8326940854005059898,PySem.W.Fast.te8179353310426384613,PySem.W.Fast.te9558739934217749035,PySem.W.Fast.te16286561074155671207]
 kernel_rfl
end Mine
theorem PySem.Challenge.cw_pc0114_01_holds : PySem.Challenge.rw_pc0114_01.Holds :=
 ⟨Mine.ws0,Mine.main0 (row_said Mine.ws0) Mine.walk0⟩
