import PyProof.Rows.All
import Wide.All
import OpenK.AllK
import Wide.FinOn
import Lean
import PySem.Challenge.RW_sz0014_01
set_option Elab.async false
set_option autoImplicit true
set_option genInjectivity false
set_option genSizeOfSpec false
set_option genSizeOf false
set_option genCtorIdx false
set_option backward.match.sparseCases false
set_option tactic.hygienic false
set_option linter.all false
set_option maxRecDepth 100000
set_option bootstrap.genMatcherCode false
section
set_option compiler.extract_closed false
open Lean in
local macro_rules (kind:=Lean.Parser.Command.declaration)
|x=>if x.getPos?.isNone then Macro.throwUnsupported else
 let y:=x.rewriteBottomUp (·.setInfo .none)
 let u:=y[1][1][1]
 return if u.isNone then
  if x[1].isOfKind ``Parser.Command.definition&&x[0].getPos?.isNone then
   y.setArg 0 (y[0].setArg 4 (mkNullNode #[mkNode ``Parser.Command.noncomputable #[mkAtom "noncomputable"]]))
  else y
 else mkNullNode (((u[1].getSepArgs.map fun i:Syntax=>i.getId)++((Array.range 787).filter (Nat.testBit 0x77bd47dfbf7efdfbf7efdfdfa8fbdef7bffefdde8fbf7efdfbf51defdfbf7ffdde8fbdfbdfbdefdfbf7efdfa8fbdfbf7efffbbd1ffef7a3ff77d1ffbbe8ffeef63efdfbf7efdfbf7efdfbf51f7efdfbffeef4751dfbdfbffeef47dfbf7efdfff77a0d)).map fun k=>Name.mkSimple s!"o_1_{44+k}").map fun i=>y.setArg 1 (y[1].setArg 1 (mkNode ``Parser.Command.declId #[mkIdent (.mkStr `Mine.Internal.all s!"tw{(`Mine.Internal.all++i).hash}"),mkNullNode])))
set_option hygiene false in
local macro_rules |`(tactic|x_go)=>`(tactic|refine AG λZ zk=>?_)
local macro_rules |`(⋯)=>`(by kernel_rfl)
open Bool renaming true→Å,false→Æ,and_eq_true→ù,false_eq_true→ć,casesOn→ċ,not_eq_true'→Ĕ,false_ne_true→ŉ,or_true→ś
open Classical renaming byContradiction→ě
open Decidable renaming decide→Ê
open ForInStep renaming yield→ł
open Int renaming ofNat→Ý,le_refl→Ā,le_trans→č,fmod_nonneg_of_pos→ė,le_of_lt→į,fmod_lt_of_pos→İ,fmod→Ł
open LawfulBEq renaming eq_of_beq→à
open List renaming length_map→Ð,length_append→Õ,mem_append_right→Ö,map_append→Ø,not_mem_nil→ã,append_nil→å,mem_append_left→æ,range→ê,lookup_cons→ð,append_assoc→ô,contains_cons→Ć,filter_cons_of_neg→Ĉ,getElem?_toArray→đ,map_congr_left→Ė,length_cons→ę,map_cons→ģ,filterMap_cons_some→Ĥ,filterMap_cons_none→ĥ,filter_cons_of_pos→Ĩ,mem_cons→ı,size_toArray→Ķ,perm_append_comm_assoc→ķ,replicate→ľ,nodup_nil→Ŏ,perm_middle→ŕ,toArray→Ś,length_filterMap_le→Ť,cons_append→Ũ,nodup_cons→Ų,find?_cons→ų,getElem?_eq_none→Ŷ,contains_eq_mem→Ž,map_drop→Ι,all_cons→Κ,filter_append→Μ,casesOn→Χ,take_length→μ,cons→ν,of_mem_zip→σ,nil_append→τ
open List.Perm renaming append_left→ŧ
open List.Sublist renaming refl→Ě,append_left→Ř,trans→ŭ
open Nat renaming le_trans→Ñ,lt_of_le_of_lt→Ò,le_refl→ä,zero_le→è,beq→é,le_add_right→ë,add_le_add→î,lt_of_lt_of_le→õ,succ_le_succ→ú,add_le_add_right→ü,le_add_left→ÿ,le_of_lt→Ą,casesOn→ĉ,ne_of_lt→Č,add_le_add_left→Ď,not_le_of_gt→ē,lt_irrefl→Ę,le_succ→Ģ,add_assoc→ħ,lt_succ_self→Ī,lt_succ_of_lt→Ĺ,add_lt_add_right→ŀ,lt_trans→Ņ,le_succ_of_le→ő,le_of_succ_le_succ→Œ,ne_of_gt→ŝ,add_lt_add_of_le_of_lt→Š,zero_add→Ű,le_of_eq→ű,eq_of_beq_eq_true→Ż,succ→ſ,add_lt_add_left→Θ,sub_add_cancel→Υ,add_right_comm→Φ,add_comm→θ
open Nat.succ renaming inj→Δ
open Option renaming some→À,none→È,casesOn→ŵ,getD→η
open Prod.mk renaming inj→ů
open PyProof.Rows renaming News→ĵ,IntsAre→Α
open PySem renaming wpAny_bind→É,Str→Ï,Shared→Ó,wpAny_pure→Ô,PyData→Ú,Addr→Û,NameKind→á,Heap→ç,Expr→ì,wpAny_holding→í,wpAny_mono→ö,mainGlobals→ý,Value→Ă,wpAny_loadPart_at→ď,Stmt→Đ,rawInt→Ē,Around→ĕ,DictEntry→Ğ,Obj→ġ,wpAny_standAt→ĩ,wpAny_isSubtype_exc→ĭ,Operator→Į,sizeLine_eq→Ĳ,wpAny_execs_nil→ĺ,starEach→Ļ,compareOp→Ľ,Pos→ń,wpAny_execs_cons→Ň,codeAny→ň,wpAny_Assign_stores→Ŋ,Scope→Ō,Program→ō,sysModules→Ő,Arguments→œ,wpAny_setField→Ŗ,Builtin→ŗ,wpAny_call→ř,wpAny_typeNameOfWhole_keyiter→Ŝ,tupleKind_room_in1→ť,wpAny_newObj_type→Ū,wpAny_dictEntries→ū,Env→Ů,Keeper→Ŵ,call_meetsIn→ž,BindsTo→Β,wpAny_storeName_local→Ζ,wpAny_loadName_local→Ξ,wpAny_field→Ο,codeAny_call_builtin→Ρ,arm_assign_Attribute→Τ,wpAny_release→κ,ExceptHandler→ξ,wpAny_Constant_str→ο,wpAny_truthy_bool→φ,wpAny_assign_Name→χ
open PySem.Around renaming frames_deeper→Ġ
open PySem.Builtin renaming divisionGoesByPylong→ι
open PySem.Builtin.Dict renaming showsAll→ρ,takeOut→υ
open PySem.Builtin.List renaming listTooLong→Ω
open PySem.Builtin.Range renaming rangeSize→Ψ
open PySem.Calls renaming Name_function_global→Ş,spliced_cons→ψ
open PySem.Expr renaming casesOn→ą
open PySem.Heap renaming get?_push_of_some→ß,lt_size→ï,get?_update_self→Ĝ,get?_push_size→ņ,SameBut→ŏ
open PySem.Heap.SameBut renaming update→ĝ
open PySem.Keeper renaming boundFrame→š,machine→ŷ,frame→Ν
open PySem.NameKind renaming free→ó
open PySem.Obj renaming mapFields→Ħ,data_mapFields→ŋ,isFreed_of_fields→ź
open PySem.PyData renaming int→ñ,keyHash→ò,eqv→û,str→ĸ,eqvAll→Ŕ,weightAll→ţ,depthAll→ũ,canLayAll0→Λ,canLay0→ς
open PySem.Value renaming ref→ă,none→ļ,builtin→Ţ,isInt→Ź
open PySem.W renaming Frag→Ĭ,dictOf→Ĵ,Looks→Ε,looks_findIn→ω
open PySem.W.InstAt renaming of_news→Ÿ
open _root_ renaming List→Á,congrArg→Â,Option→Ã,rfl→Ä,Nat→Ç,Bool→Ë,if_neg→Ì,Int→Í,if_pos→Î,of_decide_eq_true→Ù,decide_eq_true→Ü,trivial→Þ,absurd→â,funext→ø,DecidableEq→þ,decide_eq_false→ā,beq_self_eq_true→Ċ,Decidable→ğ,Array→ī,of_decide_eq_false→ĳ,True→Ŀ,False→Ń,String→ş,if_false→Ŧ,decide_eq_true_eq→Ŭ,ForInStep→ż,Unit→Η,decide_eq_true_iff→π
section
open PySem
namespace Mine.Internal
@[elab_as_elim]theorem AP{α:Sort _}{P:α->Prop}{a b:α}(h:a=b)(m:P a):P b:=h▸m
@[elab_as_elim]theorem AA{α:Sort _}{P:α->Prop}{a b:α}(h:a=b)(m:P b):P a:=h▸m
inductive BM{α:Type}(P Q:α->Prop):Prop|mk (x:α) (a:P x) (b:Q x):BM P Q
inductive D4{α:Type}(P Q R:α->Prop):Prop|mk (x:α) (a:P x) (b:Q x) (c:R x):D4 P Q R
inductive b8{α:Type}(P Q R S:α->Prop):Prop|mk (x:α) (a:P x) (b:Q x) (c:R x) (d:S x):b8 P Q R S
inductive kz{α:Type}(P Q R S T:α->Prop):Prop|mk (x:α) (a:P x) (b:Q x) (c:R x) (d:S x) (e:T x):kz P Q R S T
inductive kx{α:Type}(P Q R S T U:α->Prop):Prop|mk (x:α) (a:P x) (b:Q x) (c:R x) (d:S x) (e:T x) (f:U x):kx P Q R S T U
inductive OB{α β:Type}(P:α->β->Prop):Prop|mk (x:α) (y:β) (a:P x y):OB P
inductive Hb{α β:Type}(P Q:α->β->Prop):Prop|mk (x:α) (y:β) (a:P x y) (b:Q x y):Hb P Q
inductive H5{α β:Type}(P Q R:α->β->Prop):Prop|mk (x:α) (y:β) (a:P x y) (b:Q x y) (c:R x y):H5 P Q R
inductive We{α β:Type}(P Q R S:α->β->Prop):Prop|mk (x:α) (y:β) (a:P x y) (b:Q x y) (c:R x y) (d:S x y):We P Q R S
inductive gv{α β:Type}(P Q R S T:α->β->Prop):Prop|mk (x:α) (y:β) (a:P x y) (b:Q x y) (c:R x y) (d:S x y) (e:T x y):gv P Q R S T
inductive ku{α β:Type}(P Q R S T U V:α->β->Prop):Prop|mk (x:α) (y:β) (a:P x y) (b:Q x y) (c:R x y) (d:S x y) (e:T x y) (f:U x y) (g:V x y):ku P Q R S T U V
inductive RE{α β γ:Type}(P:α->β->γ->Prop):Prop|mk (x:α) (y:β) (z:γ) (a:P x y z):RE P
inductive S'{α β γ:Type}(P Q:α->β->γ->Prop):Prop|mk (x:α) (y:β) (z:γ) (a:P x y z) (b:Q x y z):S' P Q
inductive cT{α β γ:Type}(P Q R:α->β->γ->Prop):Prop|mk (x:α) (y:β) (z:γ) (a:P x y z) (b:Q x y z) (c:R x y z):cT P Q R
inductive Ku{α β γ:Type}(P Q R S:α->β->γ->Prop):Prop|mk (x:α) (y:β) (z:γ) (a:P x y z) (b:Q x y z) (c:R x y z) (d:S x y z):Ku P Q R S
inductive ln{α β γ:Type}(P Q R S T:α->β->γ->Prop):Prop|mk (x:α) (y:β) (z:γ) (a:P x y z) (b:Q x y z) (c:R x y z) (d:S x y z) (e:T x y z):ln P Q R S T
inductive kt{α β γ:Type}(P Q R S T U:α->β->γ->Prop):Prop|mk (x:α) (y:β) (z:γ) (a:P x y z) (b:Q x y z) (c:R x y z) (d:S x y z) (e:T x y z) (f:U x y z):kt P Q R S T U
inductive b7{α β γ δ:Type}(P:α->β->γ->δ->Prop):Prop|mk (x:α) (y:β) (z:γ) (u:δ) (a:P x y z u):b7 P
inductive kq{α β γ δ:Type}(P Q:α->β->γ->δ->Prop):Prop|mk (x:α) (y:β) (z:γ) (u:δ) (a:P x y z u) (b:Q x y z u):kq P Q
inductive kn{α β γ δ:Type}(P Q R:α->β->γ->δ->Prop):Prop|mk (x:α) (y:β) (z:γ) (u:δ) (a:P x y z u) (b:Q x y z u) (c:R x y z u):kn P Q R
inductive jz{α β γ δ:Type}(P Q R S:α->β->γ->δ->Prop):Prop|mk (x:α) (y:β) (z:γ) (u:δ) (a:P x y z u) (b:Q x y z u) (c:R x y z u) (d:S x y z u):jz P Q R S
inductive cS{α β γ δ:Type}(P Q R S T:α->β->γ->δ->Prop):Prop|mk (x:α) (y:β) (z:γ) (u:δ) (a:P x y z u) (b:Q x y z u) (c:R x y z u) (d:S x y z u) (e:T x y z u):cS P Q R S T
inductive km{α β γ δ ε:Type}(P:α->β->γ->δ->ε->Prop):Prop|mk (x:α) (y:β) (z:γ) (u:δ) (v:ε) (a:P x y z u v):km P
inductive kl{α β γ δ ε:Type}(P Q R S:α->β->γ->δ->ε->Prop):Prop|mk (x:α) (y:β) (z:γ) (u:δ) (v:ε) (a:P x y z u v) (b:Q x y z u v) (c:R x y z u v) (d:S x y z u v):kl P Q R S
inductive kj{α β γ δ ε ζ:Type}(P:α->β->γ->δ->ε->ζ->Prop):Prop|mk (x:α) (y:β) (z:γ) (u:δ) (v:ε) (w:ζ) (a:P x y z u v w):kj P
theorem Bt{α:Type}{a b:α}{l:Á α}(h:a∈b::l):a=b\/a∈l:=Á.mem_cons.mp h
theorem Et{α β:Type}{f:α->β}{l:Á α}{b:β}(h:∃a,a∈l/\f a=b):b∈l.map f:=Á.mem_map.mpr h
theorem MD{α β:Type}{f:α->β}{l:Á α}{b:β}(h:b∈l.map f):∃a,a∈l/\f a=b:=Á.mem_map.mp h
theorem Hp{α:Type}{p:α->Ë}{l:Á α}(h:l.all p=Å):∀x,x∈l->p x=Å:=Á.all_eq_true.mp h
theorem Hx{α:Type}{a:α}{l:Á α}(h:(a::l).Nodup):a∉l/\l.Nodup:=Á.nodup_cons.mp h
theorem Um{α:Type}{a:α}{l:Á α}(h:a∉l/\l.Nodup):(a::l).Nodup:=Á.nodup_cons.mpr h
theorem Hy{α:Type}{a:α}{l k:Á α}(h:a∈l++k):a∈l\/a∈k:=Á.mem_append.mp h
theorem OG{α β:Type}{f:α->β}{x:Ã α}{b:β}(h:x.map f=À b):∃a,x=À a/\f a=b:=Ã.map_eq_some_iff.mp h
theorem OF{α:Type}{a b:α}(h:a∈[b]):a=b:=Á.mem_singleton.mp h
theorem S7{a b:Ë}(h:(a&&b)=Å):a=Å/\b=Å:=Ë.and_eq_true_iff.mp h
theorem Ak{α:Type}{a b:α}(h:À a=À b):a=b:=Ã.some.inj h
theorem ZR{α:Type}[BEq α][LawfulBEq α]{a b:α}(h:a≠b):(a==b)=Æ:=beq_eq_false_iff_ne.mpr h
theorem YI{α β:Type}{f:α->Á β}{l:Á α}{b:β}(h:∃a,a∈l/\b∈f a):b∈l.flatMap f:=Á.mem_flatMap.mpr h
theorem bS{α:Type}[BEq α][LawfulBEq α]{a:α}{l:Á α}(h:l.contains a=Å):a∈l:=Á.contains_iff_mem.mp h
theorem be{α:Type}{l k:Á α}(h:l++k=[]):l=[]/\k=[]:=Á.append_eq_nil_iff.mp h
theorem cD{α:Type}{x:Ã α}(h:x.isSome=Å):∃a,x=À a:=Ã.isSome_iff_exists.mp h
theorem cM{α β:Type}{f:α->Ã β}{l:Á α}{b:β}(h:∃a,a∈l/\f a=À b):b∈l.filterMap f:=Á.mem_filterMap.mpr h
theorem cG{α:Type}{l:Á α}(h:l.isEmpty=Å):l=[]:=Á.isEmpty_iff.mp h
theorem Cv{α:Type}{a:α}{P:Prop}(h:a∈([]:Á α)):P:=â h ã
theorem AG{Q:Prop}(h:∀P:Prop,(Q->P)->P):Q:=h Q id
theorem AY{α:Type}{a:α}{P:Prop}(h:È=À a):P:=by cases h
theorem GO{α:Type}{a:α}{P:Prop}(h:À a=È):P:=by cases h
theorem SU{c:Prop}[ğ c]{α:Sort _}{x y:α}{P:α->Prop}(h:P<|if c then x else y):c/\P x\/¬c/\P y:=by
 by_cases e:c;.exact .inl ⟨e,(Î e▸h:)⟩
 .exact .inr ⟨e,(Ì e▸h:)⟩
theorem dq{a x y z L:Ç}(h:a+x+y<L)(q:z<=y):a+z<L:=Ò (Ñ (Ď q a)<|ü (ë a x) y) h
theorem GK{a b c L:Ç}(h:a+b<L)(q:c<=b):a+c<L:=Ò (Ď q a) h
theorem dp{a x y z L k:Ç}(h:a+x+y<L)(q:k+z<=y):a+k+x+z<L:=by refine AA (Φ a k x) ?_;rw[ħ<|a+x];exact GK h q
theorem kU{a b x y z L k:Ç}(u:b<=a+k)(h:a+x+y<L)(q:k+z<=y):b+x+z<L:=Ò (ü (ü u x) z)<|dp h q
theorem gn{a x y z c L:Ç}(h:a+(x+c)+y<L)(q:z<=c+y):a+x+z<L:=by rw[<-ħ,ħ<|a+x]at h;exact GK h q
theorem NY{n j L:Ç}(h:n+j=L)(q:j<L):n-1<n/\n-1+(j+1)=L:=by omega
theorem BM.el{α:Type}{P Q:α->Prop}(h:BM P Q){G:Prop}(k:∀x,P x->Q x->G):G:=by obtain⟨x,a,b⟩:=h;exact k x a b
theorem Ae{c:Prop}{inst:ğ c}{α:Sort _}{x y:α}{P:α->Prop}{G:Prop}(h:P<|if c then x else y)(k1:c->P x->G)(k2:¬c->P y->G):G:=by
 by_cases e:c;.exact k1 e (Î e▸h:)
 .exact k2 e (Ì e▸h:)
theorem CN{P:Prop}(h:Æ=Å):P:=by cases h
theorem JZ{P:Prop}(h:Å=Æ):P:=by cases h
inductive Ad where|inst (c:Ï) (n:Ç)|list (n:Ç)|dict (n:Ç)|cell (n:Ç)|mo (n:Ç)
def Ad.ctorIdx(x:Ad):Ç:=Ad.casesOn (motive:=λZ=>Ç) x (λZ Z=>0) (λZ=>1) (λZ=>2) (λZ=>3) λZ=>4
deriving instance þ for Ad
inductive V where|none|bool (b:Ë)|int (i:Í)|str (s:Ï)|D! (l:Á V)|ref (a:Ad)|fl (l:Á V)
def V.ctorIdx(x:V):Ç:=V.casesOn (motive_1:=λZ=>Ç) x 0 (λZ=>1) (λZ=>2) (λZ=>3) (λZ=>4) (λZ=>5) λZ=>6
inductive BX where|inst (c:Ï) (fs:Á<|Ï×V)|list (l:Á V)|dict (l:Á<|V×V)|cell (v:Ã V)|mo (ps:Á Ï) (body:Á Đ) (scope:Ō) (cells:Á<|Ï×Ad)
def BX.ctorIdx(x:BX):Ç:=BX.casesOn (motive:=λZ=>Ç) x (λZ Z=>0) (λZ=>1) (λZ=>2) (λZ=>3) λZ Z Z Z=>4
structure S where
 A!:Ï->Ã V
 h:Ad->Ã BX
 nx:Ç
 lk:Á Ad:=[]
inductive AN(α:Type)where|ok (a:α) (s:S)|exc (e:V) (s:S)|C_
def AN.ctorIdx{α:Type}(x:AN α):Ç:=AN.casesOn (motive:=λZ=>Ç) x (λZ Z=>0) (λZ Z=>1) 2
namespace AN
def bind{α β:Type}(x:AN α)(f:α->S->AN β):AN β:=match x with|ok a s=>f a s|exc e s=>exc e s|C_=>C_
end AN
namespace AN
theorem oE{α:Type}{a b:α}(h:AN.ok a s=.ok b s'):a=b/\s=s':=by cases h;exact⟨Ä,Ä⟩
theorem mQ{α:Type}{b:α}{P:Prop}(h:(AN.C_:AN α)=.ok b s'):P:=by cases h
theorem qf{α:Type}{b:α}{P:Prop}(h:(AN.exc e s:AN α)=.ok b s'):P:=by cases h
end AN
def Dj{β:Type}(h:Ad->Ã β)(a:Ad)(c:β):Ad->Ã β:=λb=>if b=a then À c else h b
def S.B_(s:S)(a:Ad)(c:BX):S:={s with h:=Dj s.h a c}
def BX.ad(c:BX)(n:Ç):Ad:=match c with|.inst c _=>.inst c n|.list _=>.list n|.dict _=>.dict n|.cell _=>.cell n|.mo ..=>.mo n
def S.alloc(s:S)(c:BX):AN V:=.ok (.ref<|c.ad s.nx) {s with h:=Dj s.h (c.ad s.nx) c,nx:=s.nx+1}
def AD(l:Ï->Ã V)(x:Ï)(v:V):Ï->Ã V:=λy=>if y=x then À v else l y
def S.set(s:S)(x:Ï)(v:V):S:={s with A!:=AD s.A! x v}
def FJ(fs:Á<|Ï×V)(n:Ï):Ã V:=match fs with|[]=>È|(m,v)::r=>if m=n then À v else FJ r n
def GZ(fs:Á<|Ï×V)(n:Ï)(v:V):Á (Ï×V):=match fs with|[]=>[(n,v)]|(m,w)::r=>if m=n then(n,v)::r else(m,w)::GZ r n v
def R6{α β γ:Type}(f:α->β->γ)(x:Ã α)(y:Ã β):Ã γ:=match x with
 |À a=>match y with|À b=>À<|f a b|È=>È
 |È=>È
def Wm{α:Type}(o:Ã Ë)(t f n:α):α:=match o with|À Å=>t|À Æ=>f|È=>n
def HL{α β:Type}(f:α->Ã β):Á α->Ã (Á β)|[]=>À []|a::r=>R6 (λx y=>x::y) (f a)<|HL f r
def Kz:Ç->V->Ã Ú|0,_=>È|n+1,v=>match v with|.none=>À .none|.bool b=>À<|.bool b|.int i=>À<|.int i|.str x=>À<|.str x|.D! l=>(HL (Kz n) l).map .tuple|_=>È
def DA(v:V):Ã Ï:=match v with
 |.D! l=>match l with
  |a::r=>match a with
   |.str x=>match r with
    |b::q=>match b with
     |.none=>match q with|[]=>À x|_::_=>È
     |_=>È
    |[]=>È
   |_=>È
  |[]=>È
 |_=>È
def ME(a b:V):Ã Ë:=match a with
 |.str x=>match b with|.str y=>À<|Ê<|x=y|_=>È
 |.int x=>match b with|.int y=>À<|Ê<|x=y|_=>È
 |a=>R6 (λx y=>Ê<|x=y) (DA a)<|DA b
def M8(k:V):Ë:=(ME k k).isSome
def AW(k:V):Á (V×V)->Ã (Ã V)|[]=>if M8 k then À È else È|(a,v)::r=>Wm (ME a k) (À<|À v) (AW k r) È
def CF(k v:V):Á (V×V)->Ã (Á<|V×V)|[]=>if M8 k then À [(k,v)]else È|(a,w)::r=>Wm (ME a k) (À<|(a,v)::r) ((CF k v r).map ((a,w)::·)) È
def B7(k:V):Á (V×V)->Ã (Á<|V×V)|[]=>È|(a,w)::r=>Wm (ME a k) (À r) ((B7 k r).map ((a,w)::·)) È
def G_:Ç:=2^20
def Ap(i:Í):Prop:=-1000000000<=i/\i<=1000000000
noncomputable instance (i:Í):ğ (Ap i):=inferInstanceAs (ğ<|_/\_)
def BC(l:Á V)(i:Í):Ã V:=match seqIndex? i l.length with|À j=>l[j]?|È=>È
def MS(l:Á V)(i:Í)(v:V):Ã (Á V):=if 0<=i/\i<l.length then À (l.set i.toNat v)else È
def truthy(v:V)(s:S):Ã Ë:=match v with
 |.none=>À Æ|.bool b=>À b|.int i=>À<|Ê<|i≠0|.str _=>È|.D! l=>À<|!l.isEmpty|.ref a=>match s.h a with|À (.list l)=>À<|!l.isEmpty|_=>È
 |.fl _=>È
def fN(v:V)(n:Ï)(s:S):Ã V:=match v with
 |.ref a=>match s.h a with|À (.inst _ fs)=>FJ fs n|_=>È
 |_=>È
def cC(v:V)(n:Ï)(x:V)(s:S):Ã S:=match v with
 |.ref a=>match s.h a with|À (.inst c fs)=>À<|s.B_ a<|.inst c<|GZ fs n x|_=>È
 |_=>È
def cK(v i:V)(s:S):Ã V:=match v with
 |.D! l=>match i with|.int k=>BC l k|_=>È
 |.fl l=>match i with|.int k=>BC l k|_=>È
 |.ref a=>match s.h a with
  |À (.list l)=>match i with|.int k=>BC l k|_=>È
  |À (.dict l)=>match AW i l with|À x=>x|È=>È
  |_=>È
 |_=>È
def cB(v i x:V)(s:S):Ã S:=match v with
 |.ref a=>match s.h a with
  |À (.list l)=>match i with|.int k=>(MS l k x).map λl'=>s.B_ a<|.list l'|_=>È
  |À (.dict l)=>if l.length<G_/\a∉s.lk then(CF i x l).map λl'=>s.B_ a (.dict l')else È|_=>È
 |_=>È
def S.list(s:S)(a:Ad):Ã (Á V):=match s.h a with|À (.list l)=>À l|_=>È
def C8(x:Ã V)(s:S):AN V:=match x with|À v=>.ok v s|È=>.C_
def VV(op:Į)(x y:Í):Ã V:=match op with|.Add=>À<|.int<|x+y|.Sub=>À<|.int<|x-y|.Mult=>if Ap x/\Ap y then À (.int<|x*y)else È|.FloorDiv=>if 0<y/\Ap x/\Ap y then À (.int<|Í.fdiv x y)else È|.Mod=>if 0<y then À (.int<|Ł x y)else È|_=>È
def Yn(op:Į)(x y:Ad)(s:S):AN V:=match op with
 |.Add=>match s.list x with
  |À l=>match s.list y with|À r=>if l.length+r.length<G_ then s.alloc (.list<|l++r)else .C_|È=>.C_
  |È=>.C_
 |_=>.C_
def Q8(op:Į)(a b:V)(s:S):AN V:=match a with
 |.int x=>match b with|.int y=>C8 (VV op x y) s|_=>.C_
 |.ref x=>match b with|.ref y=>Yn op x y s|_=>.C_
 |_=>.C_
def ez(op:Į)(x y:Í):Ã V:=match op with|.Add=>À<|.int<|x+y|.Sub=>À<|.int<|x-y|_=>È
def af(op:Į)(a b:V)(s:S):AN V:=match a with
 |.int x=>match b with|.int y=>C8 (ez op x y) s|_=>.C_
 |_=>.C_
def gy(op:UnaryOp)(a:V)(s:S):Ã V:=match op with
 |.Not=>(truthy a s).map λb=>.bool<|!b|.USub=>match a with|.int i=>À<|.int<|-i|_=>È
 |_=>È
def ZP(l k:Á V):Ã Ë:=if l.length=k.length then R6 Ŕ (HL (Kz 8) l) (HL (Kz 8) k)else À Æ
def eqv(a b:V)(s:S):Ã Ë:=match a with
 |.ref x=>match b with
  |.ref y=>match s.list x with
   |À l=>match s.list y with|À r=>ZP l r|È=>È
   |È=>È
  |_=>È
 |a=>R6 û (Kz 9 a)<|Kz 9 b
def PK(a:V)(l:Á V):Ã Ë:=if l.isEmpty then À Æ else R6 (λx ys=>ys.any λy=>û y x) (Kz 8 a)<|HL (Kz 8) l
def ZH(a b:V)(s:S):Ã Ë:=match b with|.ref y=>(match s.h y with|À (.list l)=>PK a l|À (.dict l)=>(AW a l).map (·.isSome)|_=>È)|_=>È
def Su(op:CmpOp)(x y:Í):Ã Ë:=match op with|.Lt=>À<|Ê<|x<y|.LtE=>À<|Ê<|x<=y|.Gt=>À<|Ê<|y<x|.GtE=>À<|Ê<|y<=x|_=>È
def V.isNone:V->Ë|.none=>Å|_=>Æ
def EO(x:Ã Ë)(s:S):AN V:=match x with|À b=>.ok (.bool b) s|È=>.C_
def cmp(op:CmpOp)(a b:V)(s:S):AN V:=match op with
 |.Eq=>EO (eqv a b s) s|.NotEq=>EO ((eqv a b s).map (!·)) s|.Is=>match b with|.none=>.ok (.bool a.isNone) s|_=>.C_
 |.IsNot=>match b with|.none=>.ok (.bool<|!a.isNone) s|_=>.C_
 |.In=>EO (ZH a b s) s|.NotIn=>EO ((ZH a b s).map (!·)) s|op=>match a with
  |.int x=>match b with|.int y=>EO (Su op x y) s|_=>.C_
  |_=>.C_
def a1{α:Type}(as:Á V)(f:V->AN α):AN α:=match as with|[x]=>f x|_=>.C_
def a2{α:Type}(as:Á V)(f:V->V->AN α):AN α:=match as with|[x,y]=>f x y|_=>.C_
def a3{α:Type}(as:Á V)(f:V->V->V->AN α):AN α:=match as with|[x,y,z]=>f x y z|_=>.C_
def ae(a b:V)(f:Í->Í->AN V):AN V:=match a with
 |.int x=>match b with|.int y=>f x y|_=>.C_
 |_=>.C_
def As{α:Type}(o:Ã α)(f:α->AN V):AN V:=match o with|À x=>f x|È=>.C_
def iX(a:Ad)(l args:Á V)(s:S):AN V:=match args with|[]=>As l.getLast? λv=>.ok v<|s.B_ a<|.list l.dropLast|v::q=>match v with
  |.int k=>match q with|[]=>if k=0 then match l with|v::r=>.ok v<|s.B_ a<|.list r|[]=>.C_ else .C_|_::_=>.C_
  |_=>.C_
def jN(a:Ad)(l:Á V)(v:V)(s:S):AN V:=match v with|.ref b=>As (s.list b) λr=>if b=a then .C_ else if l.length+r.length<G_ then .ok .none (s.B_ a<|.list<|l++r)else .C_|_=>.C_
def QV(m:Ï)(a:Ad)(l:Á V)(args:Á V)(s:S):AN V:=if m="append"then a1 args λv=>if l.length<G_ then .ok .none (s.B_ a<|.list<|l++[v])else .C_ else if m="pop"then iX a l args s else if m="extend"then a1 args λv=>jN a l v s else .C_
def V8(m:Ï)(a:Ad)(l:Á<|V×V)(args:Á V)(s:S):AN V:=if m="get"then a2 args λk d=>As (AW k l) λo=>.ok (o.getD d) s else if m="pop"then a2 args λkv Z=>As (DA kv) λx=>As (AW (.D! [.str x,.none]) l) λo=>As o λv=>As (B7 (.D! [.str x,.none]) l) λl'=>if a∉s.lk then .ok v (s.B_ a<|.dict l')else .C_ else if m="clear"then match args with|[]=>(match l with|[]=>if a∉s.lk then .ok .none s else .C_|_::_=>.C_)|_::_=>.C_ else .C_
def B1:Á V->Ã (Á Í)|[]=>À []|a::r=>match a with|.int i=>(B1 r).map (i::·)|_=>È
def Aw(i:Í):Á Í->Á Í|[]=>[i]|j::r=>if i<j then i::j::r else j::Aw i r
def Bw:Á Í->Á Í|[]=>[]|i::r=>Aw i<|Bw r
def Mz(v:V)(s:S):Ã Ç:=match v with
 |.ref a=>match s.h a with|À (.list l)=>À l.length|_=>È
 |.fl l=>À l.length|_=>È
def I7(v:V):Ë:=(DA v).isSome
def EW(v:V)(s:S):Ã (Á Í):=match v with|.ref a=>(match s.h a with|À (.list l)=>B1 l|À (.dict l)=>B1 (l.map (·.1))|_=>È)|_=>È
def GC(v:V)(s:S):Ã (Á V):=match v with|.D! l=>À l|.ref a=>(match s.h a with|À (.list l)=>À l|À (.dict l)=>if l.all λp=>I7 p.1then À (l.map (·.1))else È|_=>È)|_=>È
def Mx(v:V)(s:S):Ã (Á V):=match v with|.ref a=>s.list a|_=>È
def builtin(x:Ï)(args:Á V)(s:S):AN V:=if x="len"then a1 args λv=>As (Mz v s) λn=>.ok (.int n) s else if x="max"then a2 args λa b=>ae a b λa b=>.ok (.int<|if a<b then b else a) s else if x="min"then a2 args λa b=>ae a b λa b=>.ok (.int<|if b<a then b else a) s else if x="sorted"then a1 args λv=>As (EW v s) λis=>if is.length<64/\∀i∈is,Ap i then s.alloc (.list<|(Bw is).map .int)else .C_ else if x="list"then a1 args λv=>As (Mx v s) λl=>s.alloc<|.list l else .C_
inductive Flow where|next|brk|cont|ret (v:V)
def Flow.ctorIdx(x:Flow):Ç:=Flow.casesOn (motive:=λZ=>Ç) x 0 1 2 λZ=>3
structure Fn where
 params:Á Ï
 defaults:Á V
 body:Á Đ
 scope:Ō
structure BJ where
 scope:Ō
 cells:Á<|Ï×Ad
def BJ.kind(env:BJ)(x:Ï):Ã á:=env.scope.names.lookup x
inductive Ny where|fn (x:Ï)|cls (x:Ï)|ml (c m:Ï)|mo (a:Ad)
def Ny.ctorIdx(x:Ny):Ç:=Ny.casesOn (motive:=λZ=>Ç) x (λZ=>0) (λZ=>1) (λZ Z=>2) λZ=>3
noncomputable abbrev Dt:=Ny->Á V->S->AN V
def Ka(x:Ï):Ë:=[("Clock":Ï),"EntryCall","TaskThing","Limits","Master","ProtectedThing","Tasking"].contains x
def Fd(x:Ï):Ë:=[("len":Ï),"max","min","sorted","list"].contains x
def NB(x:Ï):Ë:=(["time_after","next_time","move_clock","is_due","least_wait","join_queue","leave_queue","first_call","drain_queues","used_keys","is_callable","wake_up","finish_call","begin_meeting","end_meeting","open_index","offer_call","stops_here","call_entry","wait_in_queue","cancel_call","note_lost","open_select","wait_open","delay_task"]:Á Ï).contains x||(["time_is_up","make_task","activate_tasks","end_activation","are_done","end_fresh","drop_fresh","complete_task","end_library","is_held","end_abnormal","settle_abnormal","settle_ends","can_terminate","is_quiet","ended_masters","terminate_below","settle_terminates","settle_tasks","has_place","come_in","ask_lock","give_lock","let_in","made_call"]:Á Ï).contains x||(["call_protected","queue_protected","rest_in_queue","next_served","end_served","ready_tasks","waiting_tasks","pass_time","end_late","serve_lost","choose_among","pick_task","_law_door","_law_ask","_law_plan","_law_body","_law_opens","_law_tend","_law_at_object","_law_goes","_law_may_hear","_law_day","_law_is_kept","law"]:Á Ï).contains x
def Gn(x:Ï):Ë:=[("append":Ï),"pop","extend"].contains x
def Go(x:Ï):Ë:=[("get":Ï),"pop","clear"].contains x
def Ed(sc:Ō)(x:Ï):Ë:=[("chooser":Ï),"is_open"].contains x&&sc.names.any λp=>p.2==.cell
def CM:Ç:=1000000
def KP(a:Ad)(c:Ã BX):Á Ad:=match c with|À (.dict Z)=>[a]|_=>[]
def BF(v:V)(s:S):Á Ad:=match v with|.ref a=>KP a<|s.h a|_=>[]
def AN.oB{α:Type}(x:AN α)(l:Á Ad):AN α:=match x with|.ok a s=>.ok a {s with lk:=l}|.exc e s=>.exc e {s with lk:=l}|.C_=>.C_
def BH(v:V)(s:S):Ã (Á V):=match v with|.D! l=>À l|.ref a=>(match s.h a with|À (.list l)=>À l|À (.dict l)=>if a∈s.lk then À (l.map (·.1))else È|_=>È)|_=>È
section
variable (A_:Ï->Ã V)(C:Dt)
open Classical in
def Qm(k:S->AN Flow)(o:AN Flow):AN Flow:=match o with
 |.ok f s'=>match f with|.next=>k s'|.cont=>k s'|.brk=>.ok .next s'|.ret w=>.ok (.ret w) s'
 |.exc _ _=>.C_|.C_=>.C_
open Classical in
def NO(body:V->S->AN Flow)(H!:V)(all:Á V):Á V->S->AN Flow|[],s=>if BH H! s=À all then .ok .next s else .C_|v::r,s=>if BH H! s=À all then Qm (NO body H! all r) (body v s)else .C_
theorem Kj{body:V->S->AN Flow}{all r:Á V}(h:BH H! s=À all):NO body H! all (v::r) s=Qm (NO body H! all r) (body v s):=Î h
theorem Vk{body:V->S->AN Flow}{all:Á V}(h:BH H! s=À all):NO body H! all [] s=.ok .next s:=Î h
def Nb(k:V->S->AN (Á V))(k0:S->AN (Á V))(o:AN<|Ã V):AN (Á V):=match o with
 |.ok w s'=>match w with|À w=>k w s'|È=>k0 s'
 |.exc _ _=>.C_|.C_=>.C_
open Classical in
def EN(elt:V->S->AN (Ã V))(H!:V)(all:Á V):Á V->Á V->S->AN (Á V)|[],acc,s=>if BH H! s=À all then .ok acc s else .C_|v::r,acc,s=>if BH H! s=À all then Nb (λw=>EN elt H! all r<|acc++[w]) (EN elt H! all r acc) (elt v s)else .C_
theorem JM{all r acc:Á V}(h:BH H! s=À all):EN elt H! all (v::r) acc s=Nb (λw=>EN elt H! all r<|acc++[w]) (EN elt H! all r acc) (elt v s):=Î h
theorem Ss{all acc:Á V}(h:BH H! s=À all):EN elt H! all [] acc s=.ok acc s:=Î h
def Kq(env:BJ)(x:Ï)(s:S):Ã V:=match env.cells.lookup x with
 |À a=>match s.h a with|À (.cell v)=>v|_=>È
 |È=>È
def aQ(env:BJ)(x:Ï)(s:S):Ã V:=match env.kind x with
 |À k=>match k with|.local=>s.A! x|.cell=>Kq env x s|.free=>Kq env x s|.globalImplicit=>A_ x|_=>È
 |È=>È
def loadName(env:BJ)(x:Ï)(s:S):AN V:=C8 (aQ A_ env x s) s
def Tz(env:BJ)(x:Ï)(v:V)(s:S):Ã S:=match env.kind x with
 |À k=>match k with
  |.local=>À<|s.set x v|.cell=>match env.cells.lookup x with
   |À a=>match s.h a with|À (.cell _)=>À<|s.B_ a<|.cell<|À v|_=>È
   |È=>È
  |_=>È
 |È=>È
def Ch(env:BJ):Á (Ï×á)->Ã (Á<|Ï×Ad)|[]=>À []|(x,k)::r=>if k=.free then R6 (λa l=>(x,a)::l) (env.cells.lookup x) (Ch env r)else Ch env r
end
def Be(names:Á<|Ï×á):Á (Ï×V)->(Ï->Ã V)->Ï->Ã V|[],l=>l|(x,v)::r,l=>Be names r<|if names.lookup x=À .local then AD l x v else l
def BI(names:Á<|Ï×á):Á (Ï×V)->(Ï->Ã V)->Ï->Ã V|[],l=>l|(x,v)::r,l=>BI names r<|if names.lookup x=À .local then l else AD l x v
def AX(n:Ç):Á (Ï×á)->Á (Ï×Ad)->Á (Ï×Ad)|[],acc=>acc|(x,k)::r,acc=>if k=.cell then AX (n+1) r ((x,.cell n)::acc)else AX n r acc
def Bx(f:Ï->Ã V):Á (Ï×Ad)->(Ad->Ã BX)->Ad->Ã BX|[],h=>h|(x,a)::r,h=>Dj (Bx f r h) a<|.cell<|f x
def Ar(f:Fn)(args:Á V):Ã (Á<|Ï×V):=if args.length+f.defaults.length=f.params.length then À (f.params.zip<|args++f.defaults)else È
structure Eu where
 A_:Ï->Ã V
 fn:Ï->Ã Fn
 ml:Ï->Ï->Ã Fn
def cy(p:ō)(i:Ç):Ã Đ:=p.main.body[i]?
def W8{P:Đ->Type}(d:∀s,P s)(fn:∀x ps b ds r tp sc ts bd p,P<|.FunctionDef x ps b ds r tp sc ts bd p)(cls:∀x bs kw b ds tp sc ts bd sa p,P<|.ClassDef x bs kw b ds tp sc ts bd sa p)(ret:∀v p,P<|.Return v p)(a!:∀ts e p,P<|.Assign ts e p)(q_:∀t op e p,P<|.AugAssign t op e p)(sy:∀t i b o p,P<|.For t i b o p)(vH:∀t b o p,P<|.While t b o p)(o_:∀t b o p,P<|.If t b o p)(xf:∀e c p,P<|.Raise e c p)(qF:∀b hs o f p,P<|.Try b hs o f p)(ex:∀e p,P<|.Expr e p)(W?:∀p,P<|.Pass p)(brk:∀p,P<|.Break p)(cont:∀p,P<|.Continue p)(s:Đ):P s:=Đ.casesOn (motive_2:=P) s fn (λZ Z Z Z Z Z Z Z Z Z=>d _) cls ret (λZ Z=>d _) a! (λZ Z Z Z Z Z Z=>d _) q_ (λZ Z Z Z Z=>d _) sy (λZ Z Z Z Z=>d _) vH o_ (λZ Z Z=>d _) (λZ Z Z=>d _) (λZ Z Z=>d _) xf qF (λZ Z Z Z Z=>d _) (λZ Z Z=>d _) (λZ Z=>d _) (λZ Z Z Z=>d _) (λZ Z=>d _) (λZ Z=>d _) ex W? brk cont
def W7{α:Type}(d:α)(fn:œ->Á Đ->Ō->α)(cls tr:Á Đ->α)(wh:ì->Á Đ->α)(fo:ì->ì->Á Đ->α)(a! o_:ì->α)(s:Đ):α:=W8 (P:=λZ=>α) (λZ=>d) (λZ ps b Z Z Z sc Z Z Z=>fn ps b sc) (λZ Z Z b Z Z Z Z Z Z Z=>cls b) (λZ Z=>d) (λZ e Z=>a! e) (λZ Z Z Z=>d) (λt i b Z Z=>fo t i b) (λt b Z Z=>wh t b) (λt Z Z Z=>o_ t) (λZ Z Z=>d) (λb Z Z Z Z=>tr b) (λZ Z=>d) (λZ=>d) (λZ=>d) (λZ=>d) s
def PO:Đ->Ã Fn:=W7 È (λps b sc=>À ⟨ps.args.map (·.arg),[],b,sc⟩) (λZ=>È) (λZ=>È) (λZ Z=>È) (λZ Z Z=>È) (λZ=>È) λZ=>È
def P6:Đ->Á Đ:=W7 [] (λZ b Z=>b) id id (λZ b=>b) (λZ Z b=>b) (λZ=>[]) λZ=>[]
def XA:Đ->ì:=W7 (.Name "" ⟨0,0,0,0⟩) (λZ Z Z=>.Name "" ⟨0,0,0,0⟩) (λZ=>.Name "" ⟨0,0,0,0⟩) (λZ=>.Name "" ⟨0,0,0,0⟩) (λe Z=>e) (λZ e Z=>e) id id
def Yg:Đ->Á Đ:=P6
def X0(e:ì):Á ì:=match e with|.BoolOp _ es _=>es|.Compare _ _ es _=>es|.Call _ es _ _=>es|_=>[]
end Mine.Internal
end
section
open PySem PySem.W PyProof.Rows PySem.Calls PyProof.V
namespace Mine.Internal
noncomputable abbrev PV:=PySem.Value
noncomputable abbrev Em:=Á<|Û×ġ
noncomputable abbrev BB(l:Á PV):ġ:={cls:=.type "tuple",data:=.seq l.toArray}
def O4(v:PV):Ë:=match v with|.none=>Å|_=>Æ
def dc(k:Ã Ï)(v:PV):Ë:=match k with|È=>O4 v|À x=>Ă.isStrOf x v
def aA(w:World):Ã Ï->Í|È=>reduceHash 0xFCA86420|À x=>hashStr w x
theorem CG{k:Ã Ï}(h:dc k v=Å):k=È/\v=.none\/∃x t,k=À x/\v=.str x t:=by
 rcases k with _|x;.induction v using PySem.Value.casesOn<;>first|exact .inl ⟨Ä,Ä⟩|exact CN h
 .obtain ⟨t,e⟩:=Ă.isStrOf_shape h;exact .inr ⟨x,t,Ä,e⟩
theorem Ib{Q:Í->Ó->Prop}(h:Q (reduceHash 0xFCA86420) {s with toks:=s.toks+1}):wpAny (model prog w) A (PySem.pyHash .none) Q E s:=pyHash_slot (T:="NoneType") Ä F.slot_NoneType_hash F.entry_NoneType_hash (F.args_NoneType_hash_1 _) (beq_builtin_none _) (.inl Ä)<|É<|Ô<|É<|wpAny_mkInt<|Ô ⟨_,_,Ä,h⟩
def Z'(prog:ō)(w:World):KeyKind prog w (Ã Ï)where
 is:=dc;hash:=aA w;inj:=λv a b ha hb=>by rcases CG ha with⟨rfl,rfl⟩|⟨x,t,rfl,rfl⟩<;>rcases CG hb with⟨rfl,e⟩|⟨y,u,rfl,e⟩<;>cases e<;>rfl
 byValue:=λk v h=>by rcases CG h with⟨rfl,rfl⟩|⟨x,t,rfl,rfl⟩<;>rfl
 pyHash:=λhv h=>by
  rcases CG hv with⟨rfl,rfl⟩|⟨x,t,rfl,rfl⟩;.exact Ib h
  .exact wpAny_pyHash_str h
 eqBool:=λhu hv h=>by
  rcases CG hu with⟨rfl,rfl⟩|⟨x,t,rfl,rfl⟩<;>rcases CG hv with⟨rfl,rfl⟩|⟨y,u,rfl,rfl⟩;.unfold PySem.eqBool;exact É<|wpAny_rule<|Ô<|by simpa using h
  .unfold PySem.eqBool;refine í ?_;show wpAny _ _ (do let y<-Ľ .Eq .none<|.str y u;truthOfDropped y) _ _ _;exact É<|EqNone.eq_none_str<|show wpAny _ _ (PySem.truthy<|.bool Æ) _ _ _ from φ<|by simpa using h
  .unfold PySem.eqBool;refine í ?_;show wpAny _ _ (do let y<-Ľ .Eq (.str x t) .none;truthOfDropped y) _ _ _;exact É<|EqNone.eq_str_none<|show wpAny _ _ (PySem.truthy<|.bool Æ) _ _ _ from φ<|by simpa using h
  .exact wpAny_eqBool_str<|by simpa using h
 «strs»:=λk x t v h=>by
  rcases CG h with⟨_,e⟩|⟨y,u,rfl,e⟩;.cases e
  .cases e;induction v<;>rfl
noncomputable abbrev Aq(prog:ō)(w:World):HeapKind prog w (Á<|Ã Ï):=tupleKind<|Z' prog w
theorem Fi{x:Ï}(e:h.get? a=À (BB [.str x t,.none])):(Aq prog w).is h [À x,È] a:=⟨_,_,0,e,Ä,Ä,.cons (Ċ x)<|.cons Ä .nil⟩
def A6:Á Ï:=[("number":Ï),("caller":Ï),("target":Ï),("key":Ï),("values":Ï),("state":Ï),("deadline":Ï),("is_firm":Ï),("is_conditional":Ï),("found":Ï),("now":Ï),("name":Ï),("master":Ï),("queues":Ï),("open":Ï),("wake":Ï),("late":Ï),("call":Ï),("serving":Ï),("masters":Ï),("raised":Ï),("answer":Ï),("is_abnormal":Ï),("inside":Ï),("activator":Ï),("pending":Ï),("has_failed":Ï),("stack":Ï),("frame":Ï),("result":Ï),("bases":Ï),("caught":Ï),("resume":Ï),("leaving":Ï),("line":Ï),("owner":Ï),("dependents":Ï),("is_ended":Ï),("width":Ï),("steps":Ï),("depth":Ï),("members":Ï),("text":Ï),("tasks":Ï),("heap":Ï),("entries":Ï),("writer":Ï),("readers":Ï),("body":Ï),("cells":Ï),("is_making":Ï),("limits":Ï),("choose":Ï),("clock":Ï),("numbers":Ï),("settled":Ï),("library":Ï),("lost":Ï),("serve":Ï)]
def CV(ps:Á Arg):œ:={posonlyargs:=[],args:=ps,vararg:=È,kwonlyargs:=[],kw_defaults:=[],kwarg:=È,defaults:=[]}
def Bz(x:Ï):Ë:=! x==("__debug__":Ï)&&! x==("__classdict__":Ï)&&! x==("super":Ï)
def GA(sc:Ō):Ë:=sc.names.all (λp=>Bz p.1&&! p.2==.cell)&&sc.kind==.function&&Ê ((sc.names.map (·.1)).Nodup)
def DI(sc:Ō):Ë:=sc.names.all (λp=>Bz p.1)&&sc.kind==.function&&!sc.isCoroutine&&!sc.isGenerator
def Im(e:ì):Ë:=! é e.ctorIdx 7
def FZ(e:ì):Ë:=! é e.ctorIdx 26
def noStar(e:ì):Ë:=! é e.ctorIdx 22
def JQ(e:ì):Ë:=!(é e.ctorIdx 16&&(X0 e).isEmpty)
def L6(a b:ì):Ë:=(é a.ctorIdx 25||é a.ctorIdx 24)&&é b.ctorIdx 25
def HG(ps:œ):Ë:=ps.posonlyargs.isEmpty&&ps.vararg.isNone&&ps.kwonlyargs.isEmpty&&ps.kw_defaults.isEmpty&&ps.kwarg.isNone&&ps.defaults.isEmpty&&ps.args.all λa=>a.annotation.isNone
noncomputable abbrev pw:ō:=PySem.Challenge.pw_sz0014_01
def ZN:Á (Ï×Ç):=[("time_after",2),("next_time",3),("move_clock",4),("is_due",5),("least_wait",6),("join_queue",13),("leave_queue",14),("first_call",15),("drain_queues",16),("used_keys",17),("is_callable",33),("wake_up",34),("finish_call",35),("begin_meeting",36),("end_meeting",37),("open_index",38),("offer_call",39),("stops_here",40),("call_entry",41),("wait_in_queue",42)]
def ZM:Á (Ï×Ç):=[("cancel_call",43),("note_lost",44),("open_select",45),("wait_open",46),("delay_task",47),("time_is_up",48),("make_task",57),("activate_tasks",58),("end_activation",59),("are_done",60),("end_fresh",61),("drop_fresh",62),("complete_task",63),("end_library",64),("is_held",65),("end_abnormal",66),("settle_abnormal",67),("settle_ends",68),("can_terminate",69),("is_quiet",70)]
def ZL:Á (Ï×Ç):=[("ended_masters",71),("terminate_below",72),("settle_terminates",73),("settle_tasks",74),("has_place",77),("come_in",78),("ask_lock",79),("give_lock",80),("let_in",81),("made_call",82),("call_protected",83),("queue_protected",84),("rest_in_queue",85),("next_served",86),("end_served",87),("ready_tasks",90),("waiting_tasks",91),("pass_time",92),("end_late",93),("serve_lost",94)]
def ZK:Á (Ï×Ç):=[("choose_among",95),("pick_task",96),("_law_door",99),("_law_ask",100),("_law_plan",101),("_law_body",102),("_law_opens",103),("_law_tend",104),("_law_at_object",105),("_law_goes",106),("_law_may_hear",107),("_law_day",108),("_law_is_kept",109),("law",110)]
def PP:Á (Ï×Ç):=ZN++ZM++ZL++ZK
def eD:Á ((Ï×Ï)×Ç×Ç):=[(("Clock","__init__"),1,0),(("EntryCall","__init__"),12,0),(("TaskThing","__init__"),32,0),(("Limits","__init__"),54,0),(("Master","__init__"),56,0),(("ProtectedThing","__init__"),76,0),(("Tasking","__init__"),89,0),(("Tasking","next_number"),89,1)]
def Us:Á ((Ï×Ï)×Ç×Ç):=eD
def DN:Á Í:=[0,0,1,0,0,3,0,2,1,1,0,2,0,4,1,5,2]
def fO:Á (Ï×V):=[("MADE",.str "made"),("QUEUED",.str "queued"),("SERVED",.str "served"),("OVER",.str "over"),("FRESH",.str "fresh"),("READY",.str "ready"),("ACTIVATING",.str "activating"),("CALLING",.str "calling"),("MEETING",.str "meeting"),("ACCEPTING",.str "accepting"),("DELAYED",.str "delayed"),("LOCKED",.str "locked"),("LEAVING",.str "leaving"),("COMPLETED",.str "completed"),("DONE",.str "done"),("TASKING_ERROR",.str "tasking_error"),("PROGRAM_ERROR",.str "program_error"),("_law_silent",.D!<|DN.map .int)]
def YD:Á (Ï×V):=fO
def Vn(i:Ç):Ã Fn:=(cy pw i).bind PO
def IE(i j:Ç)(ds:Á V):Ã Fn:=((cy pw i).bind λc=>(Yg c)[j]?.bind PO).map λf=>{f with defaults:=ds}
def Iw:Á V:=[.int 32,.int 1000000,.int 50,.int 10000,.int 100000,.int 50,.int 1000000]
def TT:Eu:=⟨λx=>YD.lookup x,λx=>(PP.lookup x).bind Vn,λc m=>(Us.lookup (c,m)).bind λp=>IE p.1 p.2<|if c="Limits"then Iw else[]⟩
def Ad.num:Ad->Ç|.inst _ n=>n|.list n=>n|.dict n=>n|.cell n=>n|.mo n=>n
structure Wd where
 mM:Ad->Prop
 ad:Ad->Û
 dx:Ad->Û
 mG:Û->Ã (Á PV)n3:Û
 m7:Á PV
 L!:Û->Ã ġ
structure Wd.Le(W W':Wd):Prop where
 mM:∀a,W.mM a->W'.mM a
 ad:∀a,W.mM a->W'.ad a=W.ad a
 dx:∀a,W.mM a->W'.dx a=W.dx a
 mG:∀x l,W.mG x=À l->W'.mG x=À l
 n3:W'.n3=W.n3
 m7:W'.m7=W.m7
 L!:∀x o,W.L! x=À o->W'.L! x=À o
theorem Wd.Le.refl(W:Wd):W.Le W:=⟨λZ h=>h,λZ Z=>Ä,λZ Z=>Ä,λZ Z h=>h,Ä,Ä,λZ Z h=>h⟩
theorem Wd.Le.trans{A B C:Wd}(x:A.Le B)(y:B.Le C):A.Le C:=⟨λa h=>y.mM a<|x.mM a h,λa h=>(y.ad a<|x.mM a h).trans<|x.ad a h,λa h=>(y.dx a<|x.mM a h).trans<|x.dx a h,λa l h=>y.mG a l<|x.mG a l h,y.n3.trans x.n3,y.m7.trans x.m7,λa o h=>y.L! a o<|x.L! a o h⟩
mutual
inductive VR(W:Wd):V->PV->Prop|none:VR W .none .none|bool (b:Ë):VR W (.bool b)<|.bool b|int (i:Í) (t:Tok):VR W (.int i)<|.int i t|str (x:Ï) (t:Tok):(ĸ x).canLay0=Å->VR W (.str x) (.str x t)|ref (a:Ad):W.mM a->VR W (.ref a) (.ref<|W.ad a)|D!{l:Á V}{x:Û}{ws:Á PV}:W.mG x=À ws->mR W l ws->VR W (.D! l) (.ref x)|fl{l:Á V}:mR W l W.m7->VR W (.fl l) (.ref W.n3)
inductive mR(W:Wd):Á V->Á PV->Prop|nil:mR W [] []|cons{v:V}{w:PV}{l:Á V}{ws:Á PV}:VR W v w->mR W l ws->mR W (v::l) (w::ws)
end
theorem YK{W W':Wd}(x:W.Le W'){l:Á V}(h:mR W' l W.m7):VR W' (.fl l) (.ref W.n3):=by have:=VR.fl<|AP x.m7.symm h;rw[x.n3]at this;exact this
theorem VR.C!(x:W.Le W')(h:VR W v w):VR W' v w:=VR.rec (motive_1:=λv w Z=>VR W' v w) (motive_2:=λl ws Z=>mR W' l ws) .none .bool .int .str (λa h=>AP (x.ad a h)<|.ref a<|x.mM a h) (λht Z ih=>.D! (x.mG _ _ ht) ih) (λZ ih=>YK x ih) .nil (λZ Z a b=>.cons a b) h
theorem mR.f?{W:Wd}{P:Á V->Á PV->Prop}(n:P [] [])(c:∀{v w l ws},VR W v w->mR W l ws->P l ws->P (v::l) (w::ws)){l:Á V}{ws:Á PV}(h:mR W l ws):P l ws:=mR.rec (motive_1:=λZ Z Z=>Ŀ) (motive_2:=λl ws Z=>P l ws) Þ (λZ=>Þ) (λZ Z=>Þ) (λZ Z Z=>Þ) (λZ Z=>Þ) (λZ Z Z=>Þ) (λZ Z=>Þ) n (λa b Z ih=>c a b ih) h
theorem mR.C!(x:W.Le W')(h:mR W v w):mR W' v w:=h.f? .nil λa Z ih=>.cons (a.C! x) ih
theorem mR.length{W:Wd}{l:Á V}{ws:Á PV}(h:mR W l ws):ws.length=l.length:=h.f? (P:=λl ws=>ws.length=l.length) Ä λZ Z ih=>Â ſ ih
theorem mR.append(h:mR W l ws)(h':mR W k us):mR W (l++k) (ws++us):=h.f? (P:=λl ws=>mR W (l++k)<|ws++us) h' λa Z ih=>.cons a ih
theorem mR.get{W:Wd}{l:Á V}{ws:Á PV}(h:mR W l ws):∀{i:Ç}{v:V},l[i]?=À v->BM (λw=>ws[i]?=À w) λw=>VR W v w:=h.f? (P:=λl ws=>∀{i:Ç}{v:V},l[i]?=À v->BM (λw=>ws[i]?=À w) λw=>VR W v w) (λe=>AY e) λa Z ih i v e=>by
  rcases i with _|i;.exact AP (Ak e) ⟨_,Ä,a⟩
  .exact ih e
inductive RD(P:Params)(W:Wd):Á (Ï×V)->Á Ğ->Prop|nil:RD P W [] []|cons{n:Ï}{t:Tok}{v:V}{w:PV}{l:Á<|Ï×V}{es:Á Ğ}:VR W v w->RD P W l es->RD P W ((n,v)::l) (⟨ò P n,.str n t,w⟩::es)
theorem RD.C!(x:W.Le W'){l:Á<|Ï×V}(h:RD P W l es):RD P W' l es:=by induction h with|nil=>exact .nil|cons h _ ih=>exact .cons (h.C! x) ih
inductive OI(W:Wd):Á (V×V)->Á (Ï×PV)->Prop|nil:OI W [] []|cons{x:Ï}{v:V}{w:PV}{l:Á<|V×V}{r:Á<|Ï×PV}:VR W v w->OI W l r->OI W ((.str x,v)::l) ((x,w)::r)
inductive OJ(W:Wd):Á (V×V)->Á (Í×PV)->Prop|nil:OJ W [] []|cons{x:Í}{v:V}{w:PV}{l:Á<|V×V}{r:Á<|Í×PV}:VR W v w->OJ W l r->OJ W ((.int x,v)::l) ((x,w)::r)
inductive Ju(W:Wd):Á (V×V)->Á (Á (Ã Ï)×Û×PV)->Prop|nil:Ju W [] []|cons{x:Ï}{t:Tok}{a:Û}{v:V}{w:PV}{l:Á<|V×V}{r:Á<|Á (Ã Ï)×Û×PV}:W.mG a=À [.str x t,.none]->(ĸ x).canLay0=Å->VR W v w->Ju W l r->Ju W ((.D! [.str x,.none],v)::l) (([À x,È],a,w)::r)
theorem OI.C!(x:W.Le W'){r:Á<|Ï×PV}(h:OI W l r):OI W' l r:=by induction h with|nil=>exact .nil|cons a _ ih=>exact .cons (a.C! x) ih
theorem OJ.C!(x:W.Le W'){r:Á<|Í×PV}(h:OJ W l r):OJ W' l r:=by induction h with|nil=>exact .nil|cons a _ ih=>exact .cons (a.C! x) ih
theorem Ju.C!(x:W.Le W'){r:Á<|Á (Ã Ï)×Û×PV}(h:Ju W l r):Ju W' l r:=by induction h with|nil=>exact .nil|cons a c b _ ih=>exact .cons (x.mG _ _ a) c (b.C! x) ih
def DB(W:Wd)(cl:Á<|Ï×Ad)(rl:Á<|Ï×Û):Prop:=∀x a,cl.lookup x=À a->W.mM a/\rl.lookup x=À (W.ad a)
theorem DB.C!(x:W.Le W'){cl:Á<|Ï×Ad}{rl:Á<|Ï×Û}(h:DB W cl rl):DB W' cl rl:=λy a e=>⟨x.mM a (h y a e).1,by exact AA (x.ad a (h y a e).1)<|(h y a e).2⟩
def B8:Ç:=2^22
structure DC where
 prog:ō
 w:World
 cls:Ï->Ã Û
 base:ç
 tabs:Á<|Û×Û×Ï
def OC(B:DC)(o:ġ)(xs:Á<|Á (Ã Ï)×Û×PV):Prop:=We (λes ep=>o.ExactDict) (λes ep=>o.data=.dict es ep) (λes ep=>es.toList=xs.map (entryOfKey<|Aq B.prog B.w)) (λes ep=>(xs.map (·.1)).Nodup)
def Dd(B:DC)(W:Wd)(o:ġ)(l:Á<|V×V):Prop:=(BM (λkvs=>o.IsDictOf (strKind B.prog B.w) kvs) λkvs=>OI W l kvs)\/(BM (λkvs=>o.IsDictOf (intKind B.prog B.w) kvs) λkvs=>OJ W l kvs)\/BM (λxs=>OC B o xs) λxs=>Ju W l xs
theorem Dd.C!(x:W.Le W')(h:Dd B W o l):Dd B W' o l:=by
 rcases h with⟨kvs,h1,h2⟩|⟨kvs,h1,h2⟩|⟨xs,h1,h2⟩;.exact .inl ⟨kvs,h1,h2.C! x⟩
 .exact .inr<|.inl ⟨kvs,h1,h2.C! x⟩
 .exact .inr<|.inr ⟨xs,h1,h2.C! x⟩
def Wg(cs:Û->Ã ġ)(cv:PV)(qual:Ï):Prop:=jz (λc oc vs t=>cv=.ref c) (λc oc vs t=>cs c=À oc) (λc oc vs t=>oc.data=.fields vs) λc oc vs t=>vs[1]?=À (.str qual t)
def N8(B:DC)(cs:Û->Ã ġ)(a:Û):Prop:=(∃o,cs a=À o)\/∃q∈B.tabs,q.2.1=a
structure L7(B:DC)(free:Á Û)(cs:Û->Ã ġ)(led:Em):Prop where
 code:∀x o,cs x=À o->(x,o)∈led
 tabs:∀q∈B.tabs,D4 (λps=>(q.2.1,tabObj ps)∈led) (λps=>TriplesOk ps.toList) λps=>∀pos cv,codeAmong pos ps.toList=À cv->Wg cs cv q.2.2
 nv:∀a∈free,¬N8 B cs a
 qh:∀q∈B.tabs,cs q.2.1=È
 tX:(B.tabs.map (·.2.1)).Nodup
theorem L7.led{B:DC}{free:Á Û}{cs:Û->Ã ġ}{led F!:Em}(T:L7 B free cs led)(h:∀p∈led,N8 B cs p.1->p∈F!):L7 B free cs F!:=⟨λx o e=>h _ (T.code x o e)<|.inl ⟨o,e⟩,λq hq=>by obtain⟨ps,h1,h2,h3⟩:=T.tabs q hq;exact⟨ps,h _ h1<|.inr ⟨q,hq,Ä⟩,h2,h3⟩,T.nv,T.qh,T.tX⟩
theorem L7.free{B:DC}{f f':Á Û}{cs:Û->Ã ġ}{led:Em}(T:L7 B f cs led)(h:∀a∈f',a∈f):L7 B f' cs led:=⟨T.code,T.tabs,λa ha=>T.nv a<|h a ha,T.qh,T.tX⟩
theorem L7.mem{B:DC}{free:Á Û}{cs:Û->Ã ġ}{led:Em}(T:L7 B free cs led){a:Û}(h:N8 B cs a):a∈led.map (·.1):=by
 rcases h with⟨o,h⟩|⟨q,hq,rfl⟩;.exact Et ⟨_,T.code a o h,Ä⟩
 .obtain ⟨ps,h1,_⟩:=T.tabs q hq;exact Et ⟨_,h1,Ä⟩
inductive j5(cs:Û->Ã ġ)(W:Wd)(led:Em)(x:Û)(ps:Á Ï)(b:Á Đ)(sc:Ō)(cl:Á<|Ï×Ad):Prop|mk (o:ġ) (name qual:Ï) (args:Á Arg) (kV doc pm:PV) (an:Ã Û) (cdv ct:PV) (rl:Á<|Ï×Û) (h1:(x,o)∈led) (h2:args.map (·.arg)=ps) (h3:o.data=.func (fnX name qual (CV args) b sc rl .none kV doc pm an cdv ct)) (h4:DB W cl rl) (h5:Wg cs cdv qual)
def De(B:DC)(W:Wd)(led:Em)(a:Ad):BX->Prop|.inst c fs=>kt (λC es n=>B.cls c=À C) (λC es n=>(W.ad a,instObj C<|W.dx a)∈led) (λC es n=>(W.dx a,Ĵ es n)∈led) (λC es n=>RD B.w.params W fs es) (λC es n=>(fs.map (·.1)).Nodup) (λC es n=>∀n∈fs.map (·.1),n∈A6)|.list l=>H5 (λws n=>(W.ad a,listOf (Ś ws) n)∈led) (λws n=>mR W l ws) λws n=>l.length<=B8|.dict l=>D4 (λo=>(W.ad a,o)∈led) (λo=>Dd B W o l) λo=>l.length<=B8|.cell È=>BM (λo=>(W.ad a,o)∈led) λo=>o.data=.cell È|.cell (À v)=>H5 (λo w=>(W.ad a,o)∈led) (λo w=>o.data=.cell (À w)) λo w=>VR W v w|.mo ps b sc cl=>j5 W.L! W led (W.ad a) ps b sc cl
theorem De.C!(x:W.Le W')(ha:W.mM a)(h:∀p∈led,p.1=W.ad a\/p.1=W.dx a->p∈F!)(z:De B W led a c):De B W' F! a c:=by have e1:=x.ad a ha;have e2:=x.dx a ha;induction c with
 |inst c fs=>obtain⟨C,es,n,h1,h2,h3,h4,h5,h6⟩:=z;exact⟨C,es,n,h1,by exact AA e1<|AA e2<|h _ h2<|.inl Ä,by exact AA e2<|h _ h3<|.inr Ä,h4.C! x,h5,h6⟩|list l=>obtain⟨ws,n,h1,h2,h3⟩:=z;exact⟨ws,n,by exact AA e1<|h _ h1<|.inl Ä,h2.C! x,h3⟩|dict l=>obtain⟨o,h1,h2,h3⟩:=z;exact⟨o,by exact AA e1<|h _ h1<|.inl Ä,h2.C! x,h3⟩|cell v=>
  rcases v with _|v;.obtain ⟨o,h1,h2⟩:=z;exact⟨o,by exact AA e1<|h _ h1<|.inl Ä,h2⟩
  .obtain ⟨o,w,h1,h2,h3⟩:=z;exact⟨o,w,by exact AA e1<|h _ h1<|.inl Ä,h2,h3.C! x⟩|mo ps b sc cl=>obtain⟨o,name,qual,args,kV,doc,pm,an,cdv,ct,rl,h1,h2,h3,h4,h5⟩:=z;exact⟨o,name,qual,args,kV,doc,pm,an,cdv,ct,rl,by exact AA e1<|h _ h1<|.inl Ä,h2,h3,h4.C! x,by obtain⟨c,oc,vs,t,g1,g2,g3,g4⟩:=h5;exact⟨c,oc,vs,t,g1,x.L! _ _ g2,g3,g4⟩⟩
structure RL(B:DC)(free:Á Û)(W:Wd)(s:S)(led:Em):Prop where
 nd:(led.map (·.1)).Nodup
 mM:∀a,W.mM a↔(s.h a).isSome=Å
 cells:∀a c,s.h a=À c->De B W led a c
 mG:∀x l,W.mG x=À l->((x,BB l)∈led\/(B.base.get? x=À (BB l)/\x∉led.map (·.1)))/\l.length<=B8
 fresh:∀a,s.nx<=a.num->s.h a=È
 own:D4 (λ(own:Û->Ã Ad)=>∀a,W.mM a->own (W.ad a)=À a/\own (W.dx a)=À a) (λown=>∀x l,W.mG x=À l->own x=È) λown=>∀a,a∈free\/N8 B W.L! a->own a=È
 my:∀a∈free,W.mG a=È
 n6:∀a∈free,a∈led.map (·.1)oP:∀a,W.mM a->W.dx a∈led.map (·.1)tab:L7 B free W.L! led
theorem RL.qN(R:RL B free W s led)(h:a∈free\/N8 B W.L! a):a∈led.map (·.1):=h.elim (R.n6 a) R.tab.mem
theorem EX{led:Em}(nd:(led.map (·.1)).Nodup){a:Û}{o o':ġ}(h:(a,o)∈led)(h':(a,o')∈led):o=o':=by induction led with|nil=>cases h|cons p r ih=>rw[ģ,Ų]at nd;cases h with
  |head=>cases h' with|head=>rfl|tail _ h'=>exact â (Et ⟨_,h',Ä⟩) nd.1
  |tail _ h=>cases h' with|head=>exact â (Et ⟨_,h,Ä⟩) nd.1|tail _ h'=>exact ih nd.2 h h'
theorem P0{P:Û×ġ->Prop}{d:Û}{o o':ġ}{l l':Em}(U:Upd d o o' l l')(h:∀p∈l,p.1≠d->P p)(h':P (d,o')):∀p∈l',P p:=by induction U with|head k=>exact λp hp=>(Bt hp).elim (λe=>AA e h') λe=>h p (.tail _ e)<|k p e|tail k r ih=>exact λp hp=>(Bt hp).elim (λe=>AA e<|h _ (.head _) k) λe=>ih (λp m=>h p<|.tail _ m) p e
theorem GT(U:Upd d o o' l l')(N:ĵ h₀ L h l)(z:d≠L/\h₀.get? d=È)(hs:ŏ d h h')(ho:h'.get? d=À o'):ĵ h₀ L h' l':=P0 U (λp m k=>⟨(hs.2 _ k).trans (N p m).1,(N p m).2⟩) ⟨ho,z⟩
theorem Du(nd:(led.map (·.1)).Nodup)(h:(d,o)∈led)(o':ġ):b8 (λF!=>Upd d o o' led F!) (λF!=>F!.map (·.1)=led.map (·.1)) (λF!=>(d,o')∈F!) λF!=>∀p∈led,p.1≠d->p∈F!:=by induction led with|nil=>cases h|cons p r ih=>rw[ģ,Ų]at nd;cases h with
  |head=>refine⟨(d,o')::r,.head λq hq e=>nd.1<|Et ⟨q,hq,e⟩,Ä,.head _,λp hp hn=>?_⟩;cases hp with|head=>exact â Ä hn|tail _ hp=>exact .tail _ hp
  |tail _ h=>obtain⟨r',U,e,m,k⟩:=ih nd.2 h;refine⟨p::r',.tail (λe'=>nd.1<|Et ⟨_,h,e'.symm⟩) U,by simp[e],.tail _ m,λq hq hn=>?_⟩;cases hq with|head=>exact .head _|tail _ hq=>exact .tail _<|k q hq hn
theorem RL.update{B:DC}{free:Á Û}{W:Wd}{s:S}{led F!:Em}(R:RL B free W s led){a:Ad}{c! c':BX}{d:Û}(ha:s.h a=À c!)(hd:d=W.ad a\/d=W.dx a)(hm:F!.map (·.1)=led.map (·.1)) (hk:∀p∈led,p.1≠d->p∈F!) (hc:De B W F! a c'):RL B free W (s.B_ a c') F!:=by
 obtain⟨own,o1,o2,o3⟩:=R.own;have oY:W.mM a:=(R.mM a).mpr<|by rw[ha];rfl
 have si:own d=À a:=by rcases hd with e|e<;>rw[e];exact(o1 a oY).1;exact(o1 a oY).2
 refine⟨hm▸R.nd,λb=>?_,λb c hb=>?_,λx l h=>⟨(R.mG x l h).1.imp (λm=>hk _ m λe=>?_) λq=>⟨q.1,hm▸q.2⟩,(R.mG x l h).2⟩,λb hb=>?_,⟨own,o1,o2,o3⟩,R.my,λa h=>hm▸R.n6 a h,λb hb=>hm▸R.oP b hb,R.tab.led λp hp hl=>hk p hp λe=>by have:=o3 p.1<|.inr hl;rw[e,si]at this;cases this⟩
 .rw[R.mM b];show _↔(Dj s.h a c' b).isSome=Å;unfold Dj;by_cases e:b=a;.subst e;simp[ha]
  .rw[Ì e]
 .have nG:Dj s.h a c' b=À c:=hb;unfold Dj at nG;by_cases e:b=a;.subst e;rw[Î Ä]at nG;obtain rfl:=Ak nG;exact hc
  .rw[Ì e]at nG;have qz:W.mM b:=(R.mM b).mpr (by exact AA (nG ..) Ä);refine(R.cells b c nG).C! (Wd.Le.refl W) qz λp hp hq=>hk p hp λe'=>e ?_;have:own p.1=À b:=by rcases hq with z|z<;>rw[z];exact(o1 b qz).1;exact(o1 b qz).2
   rw[e',si]at this;exact(Ak this).symm
 .have:=o2 x l h;simp only at e;rw[e,si]at this;exact GO this
 .show Dj s.h a c' b=È;unfold Dj;have nG:s.nx<=b.num:=hb;by_cases e:b=a;.subst e;rw[R.fresh b nG]at ha;exact AY ha
  .exact AA (Ì e)<|R.fresh b nG
def G7(B:DC)(led:Em)(x:Û):Prop:=x∉led.map (·.1)/\B.base.get? x=È
theorem G7.D!(f:G7 B led x)(h:B.base.get? y=À o):y≠x:=λe=>by rw[e,f.2]at h;exact AY h
def Wd.pW(W:Wd)(x:Û)(l:Á PV):Wd:={W with mG:=λy=>if y=x then À l else W.mG y}
theorem RL.o!{B:DC}{free:Á Û}{W:Wd}{s:S}{led:Em}(R:RL B free W s led){x:Û}{o:ġ}(fx:G7 B led x):RL B free W s ((x,o)::led):=by have hx:=fx.1;obtain⟨own,o1,o2,o3⟩:=R.own;exact⟨by simpa using⟨by simpa using hx,R.nd⟩,R.mM,λa c h=>(R.cells a c h).C! (Wd.Le.refl W) ((R.mM a).mpr<|by exact AA h Ä) λp hp Z=>.tail _ hp,λy l h=>⟨(R.mG y l h).1.imp (λm=>.tail _ m) λq=>⟨q.1,λm=>(Bt m).elim (λe=>fx.D! q.1 e) q.2⟩,(R.mG y l h).2⟩,R.fresh,⟨own,o1,o2,o3⟩,R.my,λa h=>.tail _<|R.n6 a h,λa h=>.tail _<|R.oP a h,R.tab.led λp hp Z=>.tail _ hp⟩
theorem De.mem(z:De B W led a c):W.ad a∈led.map (·.1):=by induction c with
 |inst c fs=>obtain⟨C,es,n,h1,h2,h3,h4⟩:=z;exact Et ⟨_,h2,Ä⟩|list l=>obtain⟨ws,n,h1,h2⟩:=z;exact Et ⟨_,h1,Ä⟩|dict l=>obtain⟨o,h1,h2⟩:=z;exact Et ⟨_,h1,Ä⟩|cell v=>
  rcases v with _|v;.obtain ⟨o,h1,h2⟩:=z;exact Et ⟨_,h1,Ä⟩
  .obtain ⟨o,w,h1,h2,h3⟩:=z;exact Et ⟨_,h1,Ä⟩|mo ps b sc cl=>obtain⟨o,name,qual,args,kV,doc,pm,an,cdv,ct,rl,h1,h2,h3,h4,h5⟩:=z;exact Et ⟨_,h1,Ä⟩
theorem RL.pZ(R:RL B free W s led)(h:W.mM a):W.ad a∈led.map (·.1):=by obtain⟨c,hc⟩:=cD<|(R.mM a).mp h;exact(R.cells a c hc).mem
theorem Wd.pb(R:RL B free W s led)(fx:G7 B led x):W.Le (W.pW x l):=⟨λZ h=>h,λZ Z=>Ä,λZ Z=>Ä,λy k h=>by
  unfold Wd.pW;by_cases e:y=x;.subst e;exact(R.mG _ _ h).1.elim (λm=>â (Et ⟨_,m,Ä⟩) fx.1) λq=>â Ä<|fx.D! q.1
  .simp only[Ì e];exact h,Ä,Ä,λZ Z h=>h⟩
theorem RL.tD{B:DC}{free:Á Û}{W:Wd}{s:S}{led:Em}(R:RL B free W s led){x:Û}{l:Á PV}(fx:G7 B led x)(hz:l.length<=B8):RL B free (W.pW x l) s ((x,BB l)::led):=by
 have hx:=fx.1;obtain⟨own,o1,o2,o3⟩:=R.own;have le:=Wd.pb R (l:=l) fx;have e!:∀{y:Û},y∈led.map (·.1)->y≠x:=λh e=>hx<|AP e h;refine⟨by simpa using⟨by simpa using hx,R.nd⟩,R.mM,λa c h=>(R.cells a c h).C! le ((R.mM a).mpr<|by exact AA h Ä) λp hp Z=>.tail _ hp,λy k h=>?_,R.fresh,⟨λy=>if y=x then È else own y,?_,?_,?_⟩,λa ha=>?_,λa h=>.tail _<|R.n6 a h,λa h=>.tail _<|R.oP a h,R.tab.led λp hp Z=>.tail _ hp⟩
 .unfold Wd.pW at h;by_cases e:y=x;.subst e;simp at h;subst h;exact⟨.inl<|.head _,hz⟩
  .simp only[Ì e]at h;exact⟨(R.mG y k h).1.imp (λm=>.tail _ m) λq=>⟨q.1,λm=>(Bt m).elim e q.2⟩,(R.mG y k h).2⟩
 .intro a ha;exact⟨(Ì<|e!<|R.pZ ha).trans (o1 a ha).1,(Ì<|e!<|R.oP a ha).trans (o1 a ha).2⟩
 .intro y k h;by_cases e:y=x;.exact Î e
  .simp only[Wd.pW,Ì e]at h;exact(Ì e).trans<|o2 y k h
 .intro a ha;exact(Ì<|e!<|R.qN ha).trans<|o3 a ha
 .show (if a=x then À l else W.mG a)=È;exact AA (Ì<|e!<|R.n6 a ha)<|R.my a ha
open Classical in
def Wd.nq(W:Wd)(a:Ad)(x d:Û):Wd:={W with mM:=λb=>b=a\/W.mM b,ad:=λb=>if b=a then x else W.ad b,dx:=λb=>if b=a then d else W.dx b}
theorem Wd.nX{W:Wd}{a:Ad}{x d:Û}(h:¬W.mM a):W.Le (W.nq a x d):=⟨λb hb=>.inr hb,λb hb=>Ì λe:b=a=>h<|AP e hb,λb hb=>Ì λe:b=a=>h<|AP e hb,λZ Z h=>h,Ä,Ä,λZ Z h=>h⟩
theorem Wd.mi{W:Wd}{a:Ad}{x d:Û}:(W.nq a x d).ad a=x:=Î Ä
theorem Wd.nA{W:Wd}{a:Ad}{x d:Û}:(W.nq a x d).dx a=d:=Î Ä
theorem Wd.oQ{W:Wd}{a:Ad}{x d:Û}:(W.nq a x d).mM a:=.inl Ä
theorem BX.m6(c:BX)(n:Ç):(c.ad n).num=n:=by induction c<;>rfl
theorem RL.oF(R:RL B free W s led)(h:a.num=s.nx):¬W.mM a:=λhd=>by have:=(R.mM a).mp hd;rw[R.fresh a<|by omega]at this;exact CN this
theorem RL.ql{B:DC}{free:Á Û}{W:Wd}{s:S}{led F!:Em}(R:RL B free W s led){c:BX}{a:Ad}{k_:Ç}{x d:Û}(hn:¬W.mM a)(u6:a.num<k_)(u5:s.nx<=k_)(nd:(F!.map (·.1)).Nodup)(hk:∀p∈led,p∈F!)(hb:∀y∈F!.map (·.1),y∉led.map (·.1)->B.base.get? y=È)(hx:x∉led.map (·.1)) (hd:d∉led.map (·.1)) (pv:x∈F!.map (·.1)) (nP:d∈F!.map (·.1)) (hc:De B (W.nq a x d) F! a c):RL B free (W.nq a x d) {s with h:=Dj s.h a c,nx:=k_} F!:=by
 obtain⟨own,o1,o2,o3⟩:=R.own;have le:=Wd.nX (x:=x) (d:=d) hn;have nb:∀{y:Û}{o:ġ},B.base.get? y=À o->y∉led.map (·.1)->y∉F!.map (·.1):=λh1 h2 h3=>by rw[hb _ h3 h2]at h1;exact AY h1
 have e!:∀{y:Û},y∈led.map (·.1)->¬(y=x\/y=d):=λh e=>e.elim (λe=>hx<|AP e h) λe=>hd<|AP e h;refine⟨nd,λb=>?_,λb c' hb=>?_,λy l h=>⟨(R.mG y l h).1.imp (λm=>hk _ m) λq=>⟨q.1,nb q.1 q.2⟩,(R.mG y l h).2⟩,λb hb=>?_,⟨λy=>if y=x\/y=d then À a else own y,λb hb=>?_,λy l h=>?_,λy ha=>?_⟩,R.my,λy ha=>?_,λb hb=>?_,R.tab.led λp hp Z=>hk p hp⟩
 .show b=a\/W.mM b↔(Dj s.h a c b).isSome=Å;unfold Dj;by_cases e:b=a;.simp[e]
  .simp[e,R.mM b]
 .have nG:Dj s.h a c b=À c':=hb;unfold Dj at nG;by_cases e:b=a;.subst e;simp at nG;subst nG;exact hc
  .rw[Ì e]at nG;exact(R.cells b c' nG).C! le ((R.mM b).mpr<|by exact AA nG Ä) λp hp Z=>hk p hp
 .have nG:k_<=b.num:=hb;show Dj s.h a c b=È;unfold Dj;exact AA (Ì λe=>by rw[e]at nG;omega)<|R.fresh b<|by omega
 .by_cases e:b=a;.subst e;exact AA Wd.mi<|AA Wd.nA ⟨Î<|.inl Ä,Î<|.inr Ä⟩
  .have nG:W.mM b:=hb.resolve_left e;exact AA (le.ad b nG)<|AA (le.dx b nG) ⟨(Ì<|e!<|R.pZ nG).trans (o1 b nG).1,(Ì<|e!<|R.oP b nG).trans (o1 b nG).2⟩
 .refine (Ì ?_).trans<|o2 y l h;rcases(R.mG y l h).1 with m|q;.exact e!<|Et ⟨_,m,Ä⟩
  .rintro (e|e);.exact nb q.1 q.2<|AA e pv
   .exact nb q.1 q.2<|AA e nP
 .exact (Ì<|e!<|R.qN ha).trans<|o3 y ha
 .obtain ⟨p,hp,e'⟩:=MD<|R.n6 y ha;exact Et ⟨p,hk p hp,e'⟩
 .by_cases e:b=a;.subst e;exact AA Wd.nA nP
  .have nG:W.mM b:=hb.resolve_left e;refine AA (le.dx b nG) ?_;obtain⟨p,hp,e'⟩:=MD<|R.oP b nG;exact Et ⟨p,hk p hp,e'⟩
theorem RL.qm(R:RL B free W s led)(nd:(F!.map (·.1)).Nodup)(hk:∀p∈led,p∈F!)(hb:∀y∈F!.map (·.1),y∉led.map (·.1)->B.base.get? y=È)(hx:x∉led.map (·.1)) (hd:d∉led.map (·.1)) (pv:x∈F!.map (·.1)) (nP:d∈F!.map (·.1)) (hc:De B (W.nq (c.ad s.nx) x d) F! (c.ad s.nx) c):RL B free (W.nq (c.ad s.nx) x d) {s with h:=Dj s.h (c.ad s.nx) c,nx:=s.nx+1} F!:=R.ql (R.oF<|c.m6 s.nx) (by refine AA (c.m6 ..) ?_;omega) (by omega) nd hk hb hx hd pv nP hc
inductive B5(W:Wd):Á (Ï×V)->Á (Ï×PV)->Prop|nil:B5 W [] []|cons{x:Ï}{v:V}{w:PV}{l:Á<|Ï×V}{r:Á<|Ï×PV}:VR W v w->B5 W l r->B5 W ((x,v)::l) ((x,w)::r)
structure ZW(K:Ĭ)(C:Û):Prop where
 g:plainGet K C ""=Å
 s:findIn K (.ref C) "__setattr__"=À (À<|.builtin "object.__setattr__")p:plainOver K C=Å
 d:hasDictIn K C=Å
 t:∀n∈A6,takerIn K C n=À È/\findIn K (.ref C) n=À È
structure Cx where
 B:DC
 K:Ĭ
 p:ō
 loose:Á Ï
 mean:ExcName->Ã PV
 mg:Ï->Ã PV
 mb:Ï->Ã PV
 A₀:ĕ
 outer:Á Ů
 P!:Á<|Û×(Ï->Ã PV)L:Û
 free:Á Û
 D?:Em
 cmp:Ã Û
 lk:Á Ad
 fm:Ï->Ã PV
 h_:Ó
noncomputable abbrev Cx.prog(cx:Cx):ō:=cx.B.prog
structure ZV(K:Ĭ)(C:Û):Prop where
 xA:ktsIn K C "BaseException"=Å
 ga:findIn K (.ref C) "__getattribute__"=À (À<|.builtin "BaseException.__getattribute__")ng:findIn K (.ref C) "__getattr__"=À È
 sub:subIn K (.ref C) (.type "BaseException")=À Å
 hd:hasDictIn K C=Å
 tk:findIn K (.ref C) "tasks"=À È
def VJ(n:ş)(v:PV):Ë:=match v with|.type a=>a==n|_=>Æ
def fV(l:Á PV):Ë:=match l with|[]=>Æ|c::z=>VJ "object" c&&z.isEmpty
def bC(l:Á PV):Ë:=match l with|[]=>Æ|b::q=>VJ "BaseException" b&&fV q
def Lq(l:Á PV):Ë:=match l with|[]=>Æ|v::r=>match v with|.ref _=>Lq r|_=>VJ "Exception" v&&bC r
def Gw(K:Ĭ)(C:Û):Ë:=(clsIn K C).any λcd=>Lq cd.mro&&cd.hasDict
def aF:ġ->Ë|⟨_,_,.cls cd,sl⟩=>(match sl.toList with|[_,_,_,_,À<|.builtin i,_]=>i=="Exception.__new__"|_=>Æ)&&!(cd.mro.contains<|.type "AttributeError")&&!(cd.mro.contains<|.type "NameError")|_=>Æ
def Uk(K:Ĭ)(C:Û):Ë:=(K.lookup C).any aF
inductive G5(B:DC)(fa:Û)(f:Fn):Prop|mk (ok:DI f.scope=Å) (nd:f.params.Nodup) (nc:∀x∈f.scope.names,x.2≠.cell) (hp:∀x∈f.params,f.scope.names.lookup x=À .local) (fo:ġ) (name qual:Ï) (args:Á Arg) (kV doc pm cdv ct:PV) (an:Ã Û) (f1:B.base.get? fa=À fo) (f2:fo.data=.func (fnX name qual (CV args) f.body f.scope [] .none kV doc pm an cdv ct)) (f3:B.base.CodeRec cdv qual) (f4:args.map (·.arg)=f.params)
inductive DO(f:Fn):Prop|mk (pS:f.params=[("self":Ï),"text"]) (k1:f.scope.names.lookup ("self":Ï)=À á.local) (k2:f.scope.names.lookup ("text":Ï)=À á.local) (k3:f.scope.names.lookup ("Exception":Ï)=À á.globalImplicit)(p1 p2 p3 p4 p5 p6 q1 q2 q3 q4:ń) (pJ:f.body=[.Expr (.Call (.Attribute (.Name "Exception" p1) "__init__" p2) [.Name "self" p3,.Name "text" p4] [] p5) p6,.Assign [.Attribute (.Name "self" q1) "text" q2] (.Name "text" q3) q4]) (pG:(p2.endLine==p5.line)=Å)
inductive GD(f:Fn):Prop|mk (pS:f.params=[("self":Ï),"tasks"]) (k1:f.scope.names.lookup ("self":Ï)=À á.local) (k2:f.scope.names.lookup ("tasks":Ï)=À á.local) (k3:f.scope.names.lookup ("AdaError":Ï)=À á.globalImplicit)(p1 p2 p3:ń) (c:Ï) (k:Ç) (p4 p5 p6 q1 q2 q3 q4:ń) (pJ:f.body=[.Expr (.Call (.Attribute (.Name "AdaError" p1) "__init__" p2) [.Name "self" p3,.Constant (.str c) k p4] [] p5) p6,.Assign [.Attribute (.Name "self" q1) "tasks" q2] (.Name "tasks" q3) q4]) (pG:(p2.endLine==p5.line)=Å)
structure jw(K:Ĭ)(C:Û):Prop where
 kE:ktsIn K C "Exception"=Å
 new:Uk K C=Å
 sa:findIn K (.ref C) "__setattr__"=À (À<|.builtin "object.__setattr__")j?:Gw K C=Å
 tP:takerIn K C "text"=À È
 sH:takerIn K C "tasks"=À È
inductive j6(B:DC)(K:Ĭ)(mg:Ï->Ã PV):Prop|mk (Ca fA:Û) (f:Fn) (a1:mg "AdaError"=À (.ref Ca)) (a2:specialIn K (.ref Ca) "__getattribute__"=À (À<|.builtin "type.__getattribute__")) (a3:typeIn K (.ref Ca)=À (.type "type")) (a4:readsIn K Ca (.type "type")=Å) (a5:findCls K (.ref Ca) (.type "type") "__init__"=À (.val<|.ref fA)) (a6:keepIn K (.ref fA)=Å) (a7:G5 B fA f) (a8:DO f)
structure Yu(B:DC)(K:Ĭ)(mg:Ï->Ã PV)(C:Û):Prop where
 d:ZV K C
 x:jw K C
 keep:keepIn K (.ref C)=Å
 xw:We (λfI f=>findIn K (.ref C) "__init__"=À (À<|.ref fI)) (λfI f=>isFn K (.ref fI)=Å) (λfI f=>G5 B fI f) λfI f=>GD f
 xW:j6 B K mg
inductive GM(B:DC)(fa:Û)(f:Fn):Prop|mk (fo:ġ) (name qual:Ï) (params:œ) (dV kV doc pm cdv ct:PV) (an:Ã Û) (f1:B.base.get? fa=À fo) (f2:fo.data=.func (fnX name qual params f.body f.scope [] dV kV doc pm an cdv ct)) (f3:B.base.CodeRec cdv qual) (f4:∀x,Ed f.scope x=Å->f.scope.names.lookup x=À .local->∃q∈B.tabs,cdv=.ref q.1/\qual++".<locals>."++x=q.2.2) (f5:∀(W:Wd) (t:Ó) (l:Á V) (ws:Á PV),(∀b o,B.base.get? b=À o->t.heap.get? b=À o)->mR W l ws->∀binds,Ar f l=À binds->D4 (λrb=>Β t (fnX name qual params f.body f.scope [] dV kV doc pm an cdv ct) ⟨ws,[]⟩ rb) (λrb=>B5 W binds rb) λrb=>∀y∈rb,y.1∈f.params)
structure kh(B:DC)(K:Ĭ)(mg:Ï->Ã PV):Prop where
 cls:∀c C,B.cls c=À C->ZW K C
 c_:∀x,NB x=Å->BM (λf=>mg x=À (.ref f)) λf=>keepIn K (.ref f)=Å
 g_:∀x,Ka x=Å->D4 (λC=>mg x=À (.ref C)) (λC=>B.cls x=À C) λC=>keepIn K (.ref C)=Å
 tabs:∀q∈B.tabs,CodeHd B.base q.1 q.2.1
 R!:BM (λC=>mg "Deadlock"=À (.ref C)) λC=>Yu B K mg C
 l!:∀x f fa,NB x=Å->TT.fn x=À f->mg x=À (.ref fa)->GM B fa f
 rn:∀x c,Ka x=Å->B.cls x=À c->makesIn K c=Å/\D4 (λfI=>findIn K (.ref c) "__init__"=À (À<|.ref fI)) (λfI=>isFn K (.ref fI)=Å) λfI=>∀f,TT.ml x "__init__"=À f->GM B fI f
 pP:gv (λC f=>B.cls "Tasking"=À C) (λC f=>findIn K (.ref C) "next_number"=À (À<|.ref f)) (λC f=>isFn K (.ref f)=Å) (λC f=>keepIn K (.ref f)=Å) λC f=>∀fn,TT.ml "Tasking" "next_number"=À fn->GM B f fn
structure Cx.Gl(cx:Cx):Prop where
 X:cx.K.In cx.B.base
 T:Top cx.p cx.loose cx.mean cx.mg cx.mb cx.B.base
 cls:kh cx.B cx.K cx.mg
def bq(o:ġ)(m:Ï->Ã PV):Prop:=H5 (λes ep=>o.data=.dict es ep) (λes ep=>StrKeys es) λes ep=>∀name,nsFind es name=m name
def Fo(W:Wd)(l:Ï->Ã V)(m:Ï->Ã PV):Prop:=∀x v,l x=À v->BM (λw=>m x=À w) λw=>VR W v w
theorem Fo.C!(x:W.Le W')(h:Fo W l m):Fo W' l m:=λy v e=>by obtain⟨w,a,b⟩:=h y v e;exact⟨w,a,b.C! x⟩
structure Gr(cx:Cx)(h₀:ç):Prop where
 B:Below cx.A₀ cx.B.base cx.outer h₀
 P!:∀p∈cx.P!,h₀.Ns p.1 p.2
inductive Fm(cx:Cx)(W:Wd)(l:Ï->Ã V)(led:Em)(m:Ï->Ã PV):Prop|no (e:cx.cmp=È) (h:Fo W l m)|co (C:Û) (oC:ġ) (mC:Ï->Ã PV) (e:cx.cmp=À C) (f:C∈cx.free) (a:(C,oC)∈led) (n:bq oC mC) (h:Fo W l mC)
noncomputable abbrev C5(cx:Cx)(W:Wd)(p:Û×ġ):Prop:=(p.1∈cx.free\/D4 (λb=>b∈cx.lk) (λb=>W.mM b) λb=>p.1=W.ad b)/\cx.cmp≠À p.1
theorem C5.C!(le:W.Le W')(h:C5 cx W p):C5 cx W' p:=⟨h.1.imp id λzx=>by obtain⟨b,h1,h2,h3⟩:=zx;exact⟨b,h1,le.mM b h2,by exact AA (le.ad b h2) h3⟩,h.2⟩
noncomputable abbrev Pq(cx:Cx)(s:S):Prop:=s.lk=cx.lk/\∀b∈cx.lk,∃l,s.h b=À (.dict l)
structure BW(cx:Cx)(W:Wd)(s:S)(t:Ó)(h₀:ç)(led:Em)(m:Ï->Ã PV):Prop where
 F:Fr h₀ cx.L t.heap m
 N:ĵ h₀ cx.L t.heap led
 G:Gr cx h₀
 R:RL cx.B cx.free W s led
 A!:Fm cx W s.A! led m
 D?:∀p∈cx.D?,p∈led/\C5 cx W p
 rest:(t.gens=cx.h_.gens/\t.drawn=cx.h_.drawn/\t.os=cx.h_.os)/\(∀C,cx.cmp=À C->m=cx.fm)/\Pq cx s
def RR(cx:Cx)(W:Wd)(s:S)(t:Ó):Prop:=RE λh₀ led m=>BW cx W s t h₀ led m
theorem RR.toks(r:RR cx W s t)(k:Ç):RR cx W s {t with toks:=k}:=by obtain⟨h₀,led,m,x⟩:=r;exact⟨h₀,led,m,⟨x.F,x.N,x.G,x.R,x.A!,x.D?,x.rest⟩⟩
theorem Gr.stays(g:Gr cx h₀):∀b o,cx.B.base.get? b=À o->h₀.get? b=À o:=g.B.stays
theorem RL.n7(R:RL B free W s led)(h:x∈free)(ha:W.mM a):x≠W.ad a/\x≠W.dx a:=by
 x_go;obtain⟨own,o1,o2,o3⟩:=R.own;refine zk<|⟨λe=>?_,λe=>?_⟩;.have:=o3 x<|.inl h;rw[e,(o1 a ha).1]at this;exact GO this
 .have:=o3 x<|.inl h;rw[e,(o1 a ha).2]at this;exact GO this
theorem Fm.to(e:p7.cmp=cx.cmp)(f:p7.free=cx.free)(h:Fm cx W l led m):Fm p7 W l led m:=by
 rcases h with⟨q,h⟩|⟨C,oC,mC,q,hC,h1,h2,h3⟩;.exact .no (e.trans q) h
 .exact .co C oC mC (e.trans q) (AA f hC) h1 h2 h3
theorem Fm.keep(R:RL cx.B cx.free W s led)(ha:W.mM a)(hd:d=W.ad a\/d=W.dx a)(hk:∀p∈led,p.1≠d->p∈F!)(h:Fm cx W s.A! led m):Fm cx W s.A! F! m:=by
 rcases h with⟨e,h⟩|⟨C,oC,mC,e,hC,h1,h2,h3⟩;.exact .no e h
 .refine .co C oC mC e hC (hk _ h1 λe=>?_) h2 h3;have:=R.n7 hC ha;rcases hd with q|q;.exact this.1<|e.trans q
  .exact this.2<|e.trans q
theorem BW.update(x:BW cx W s t h₀ led m){k:Ç}(ha:s.h a=À c!)(hd:d=W.ad a\/d=W.dx a) (hm:F!.map (·.1)=led.map (·.1)) (hk:∀p∈led,p.1≠d->p∈F!) (hc:De cx.B W F! a c') (F:Fr h₀ cx.L h' m) (N:ĵ h₀ cx.L h' F!) (n4:(∀l,c!≠.dict l)\/a∉s.lk):RR cx W (s.B_ a c') {t with heap:=h',toks:=k}:=by
 have oY:W.mM a:=(x.R.mM a).mpr<|by exact AA ha Ä
 have hl:Fm cx W s.A! F! m:=x.A!.keep x.R oY hd hk;refine⟨h₀,F!,m,⟨F,N,x.G,x.R.update ha hd hm hk hc,hl,λp hp=>⟨hk p (x.D? p hp).1 λe=>?_,(x.D? p hp).2⟩,x.rest.1,x.rest.2.1,x.rest.2.2.1,λb hb=>?_⟩⟩
 .rcases (x.D? p hp).2.1 with hf|⟨b,hb,qz,nF⟩
  .have:=x.R.n7 hf oY;rcases hd with q|q;.exact this.1<|e.trans q
   .exact this.2<|e.trans q
  .obtain ⟨own,o1,_,_⟩:=x.R.own;have xM:a=b:=by
    have h1:=(o1 b qz).1;rw[<-nF,e]at h1;rcases hd with q|q;.rw[q,(o1 a oY).1]at h1;exact Ak h1
    .rw[q,(o1 a oY).2]at h1;exact Ak h1
   subst xM;rcases n4 with q|q;.obtain ⟨l,qZ⟩:=x.rest.2.2.2 a hb;rw[ha]at qZ;exact q l<|Ak qZ
   .exact q<|AA x.rest.2.2.1 hb
 .obtain ⟨l,qZ⟩:=x.rest.2.2.2 b hb;have nO:b≠a:=λe=>by
   subst e;rcases n4 with q|q;.rw[ha]at qZ;exact q l<|Ak qZ
   .exact q<|AA x.rest.2.2.1 hb
  exact⟨l,(Ì nO).trans qZ⟩
section
theorem EI(n n':Ï)(h:Í)(k:Tok)(w:PV)(es:Á Ğ):getL n (⟨h,.str n' k,w⟩::es)=if n'=n then À (À w)else getL n es:=by
 unfold getL;have e1:Á.find? (λx=>Ğ.key x|>.isStr n) ((⟨h,.str n' k,w⟩:Ğ)::es)=if n'=n then À ⟨h,.str n' k,w⟩else Á.find? (λx=>Ğ.key x|>.isStr n) es:=by
  refine AA ų ?_;by_cases e:n'=n;.subst e;have:(Ă.str n' k).isStr n'=Å:=Ċ n';exact AA (Î Ä)<|AA this Ä
  .have:(Ă.str n' k).isStr n=Æ:=ZR e;exact AA (Ì e)<|AA this Ä
 refine AA e1 ?_;by_cases e:n'=n;.exact AA (Î e)<|AA (Î e) Ä
 .exact AA (Ì e)<|AA (Ì e)<|AA Á.any_cons Ä
theorem NN{n:Ï}{r:Á<|Ï×V}(h:FJ ((n,v)::r) n=x):À v=x:=(Î Ä).symm.trans h
theorem HP{m n:Ï}(e:¬m=n){r:Á<|Ï×V}(h:FJ ((m,v)::r) n=x):FJ r n=x:=(Ì e).symm.trans h
theorem Ki{n:Ï}{fs:Á<|Ï×V}(x:RD P W fs es):∀{v:V},FJ fs n=À v->BM (λw=>getL n es=À (À w)) λw=>VR W v w:=by induction x with|nil=>exact λh=>AY h|@cons n' t u w l es a r ih=>
  intro v h;refine AA (EI ..) ?_;by_cases e:n'=n;.exact AA (Î e ..) ⟨_,Ä,Ak (NN<|e▸h)▸a⟩
  .exact AA (Ì e ..)<|ih<|HP e h
theorem Kh{n:Ï}{fs:Á<|Ï×V}(x:RD P W fs es):FJ fs n=È->getL n es=À È:=by induction x with|nil=>exact λZ=>Ä|@cons n' t v w l es a r ih=>
  intro h;refine AA (EI ..) ?_;by_cases e:n'=n;.exact GO<|NN<|e▸h
  .exact AA (Ì e ..)<|ih<|HP e h
theorem Se{n:Ï}{fs:Á<|Ï×V}(h:RD P W fs es):(getL n es).isSome=Å:=by
 generalize q:FJ fs n=zc;rcases zc with _|v;.exact AA (Kh h q) Ä
 .obtain ⟨w,e,_⟩:=Ki h q;exact AA e Ä
theorem KC(n n':Ï)(h h':Í)(k:Tok)(key v w:PV)(es:Á Ğ):putL n h key v (⟨h',.str n' k,w⟩::es)=if n'=n then⟨h',.str n' k,v⟩::es else⟨h',.str n' k,w⟩::putL n h key v es:=by
 show(if(n'==n)=Å then _ else _)=_;by_cases e:n'=n;.subst e;simp
 .exact AA (Ì e)<|AA (Ì<|by simpa using e) Ä
theorem UO{P:Params}{W:Wd}{n:Ï}{t:Tok}{v:V}{w:PV}(hv:VR W v w){fs:Á<|Ï×V}{es:Á Ğ}(x:RD P W fs es):RD P W (GZ fs n v) (putL n (ò P n) (.str n t) w es):=by induction x with|nil=>exact .cons hv .nil|@cons n' t u w l es a r ih=>
  refine AA (KC ..) ?_;by_cases e:n'=n;.subst e;refine AA (Î Ä ..) ?_;rw[show GZ ((n',u)::l) n' v=(n',v)::l from Î Ä];exact .cons hv r
  .refine AA (Ì e ..) ?_;rw[show GZ ((n',u)::l) n v=(n',u)::GZ l n v from Ì e];exact .cons a ih
theorem Og{n:Ï}{fs:Á<|Ï×V}:(fs.map (·.1)).Nodup->((GZ fs n v).map (·.1)).Nodup/\∀m,m∈(GZ fs n v).map (·.1)->m=n\/m∈fs.map (·.1):=by induction fs with|nil=>exact λZ=>⟨Um ⟨ã,.nil⟩,λm hm=>(Bt hm).imp id id⟩|cons p r ih=>
  intro h;have h:=Hx h;by_cases e:p.1=n;.have q:GZ (p::r) n v=(n,v)::r:=Î e;refine q▸⟨Um ⟨e▸h.1,h.2⟩,λm hm=>(Bt hm).imp id<|.tail _⟩
  .have q:GZ (p::r) n v=p::GZ r n v:=Ì e;have ih:=ih h.2;refine AA q ⟨Um ⟨λhm=>(ih.2 _ hm).elim e h.1,ih.1⟩,λm hm=>(Bt hm).elim (λz=>.inr<|AA z<|.head _) λz=>(ih.2 m z).imp id<|.tail _⟩
theorem PD{α:Type}[þ α]{l:Á α}:∀{k:Á α},l.Nodup->(∀x∈l,x∈k)->l.length<=k.length:=by induction l with|nil=>exact λZ Z=>è _|cons a l ih=>intro k nd h;have nd:=Hx nd;have ha:=h a<|.head _;have:=ih (k:=k.erase a) nd.2 λx hx=>(Á.mem_erase_of_ne λe:x=a=>nd.1<|AP e hx).mpr<|h x<|.tail _ hx;rw[Á.length_erase_of_mem ha]at this;exact Ç.add_le_of_le_sub (Á.length_pos_of_mem ha) this
theorem RD.length{fs:Á<|Ï×V}(h:RD P W fs es):es.length=fs.length:=by induction h with|nil=>rfl|cons a r ih=>exact Â ſ ih
theorem Mb(n:Ï)(h:Í)(k v:PV)(es:Á Ğ):(putL n h k v es).length<=es.length+1:=by induction es with|nil=>exact ä _|cons e r ih=>
  unfold putL;split;.exact Ģ _
  .exact ú ih
theorem Kf(h:VR W v w):handedIn w=Å:=by induction h using Internal.VR.casesOn<;>rfl
theorem SM(G:cx.Gl)(r:RR cx W s t){a:Ad}{c n:Ï}{fs:Á<|Ï×V}{v:V}{w:PV}{Q:Η->Ó->Prop}(ha:s.h a=À (.inst c fs))(hn:n∈A6)(hv:VR W v w)(h:∀t',RR cx W (s.B_ a<|.inst c<|GZ fs n v) t'->Q () t'):wpAny (model cx.prog cx.B.w) A (setAttr (.ref<|W.ad a) n w) Q E t:=by
 x_go;obtain⟨h₀,led,m,x⟩:=r;obtain⟨C,es,n0,hc,m1,m2,hF,qy,px⟩:=x.R.cells a _ ha;have K:=G.cls.cls c C hc;obtain⟨F!,U,e1,e2,e3⟩:=Du x.R.nd m2<|Ĵ (putL n (ò cx.B.w.params n) (.str n<|t.toks+1) w es)<|putN n es n0;have xO:=UO (n:=n) (t:=t.toks+1) hv hF;have vn:=Og (n:=n) (v:=v) qy;have rq:∀k∈(GZ fs n v).map (·.1),k∈A6:=λk hk=>(vn.2 k hk).elim (λe=>AA e hn)<|px k;have nO:W.ad a≠W.dx a:=λe=>by have:=EX x.R.nd m1<|AA e m2;cases this
 refine zk<|set_dict x.F (G.X.keeps x.G.stays) x.N (Ÿ x.N m1 m2) Ä K.s K.p (K.t n hn).1 K.d (Se hF) Ä U ?_ λh' F' N'=>h _<|x.update ha (.inr Ä) e1 e3 ?_ F' N'<|.inl λZ h=>by cases h
 .have l1:=xO.length;have l2:=PD vn.1 rq;have l3:A6.length<=100:=by decide
  rw[Ð]at l2;exact AA l1<|Ñ l2<|Ñ l3<|by decide
 .exact ⟨C,_,_,hc,e3 _ m1 nO,e2,xO,vn.1,rq⟩
theorem KU(G:cx.Gl)(r:RR cx W s t){c n:Ï}{fs:Á<|Ï×V}{b:Ë}(ha:s.h a=À (.inst c fs))(hf:FJ fs n=À v)(hn:n∈A6)(h:∀w k,VR W v w->Q w {t with toks:=k}):wpAny (model cx.prog cx.B.w) A (getAttr (.ref<|W.ad a) n b) Q E t:=by x_go;obtain⟨h₀,led,m,x⟩:=r;obtain⟨C,es,n0,hc,m1,m2,hF,_⟩:=x.R.cells a _ ha;have K:=G.cls.cls c C hc;obtain⟨w,hl,hv⟩:=Ki hF hf;exact zk<|get_own x.F (G.X.keeps x.G.stays) (Ÿ x.N m1 m2) K.g K.d (K.t n hn).2 Ä hl (Kf hv)<|h w _ hv
end
theorem Fm.C!(le:W.Le W')(hk:∀p∈led,p∈F!)(h:Fm cx W l led m):Fm cx W' l F! m:=by
 rcases h with⟨e,h⟩|⟨C,oC,mC,e,hC,h1,h2,h3⟩;.exact .no e<|h.C! le
 .exact .co C oC mC e hC (hk _ h1) h2<|h3.C! le
section
variable{led:Em}
theorem Dm(l:∀p∈led,p.1<a):a∉led.map (·.1):=λh=>by obtain⟨p,hp,rfl⟩:=MD h;exact Ę _<|l p hp
theorem BW.pj(x:BW cx W s t h₀ led m)(N:ĵ h₀ cx.L h'<|(a,o)::led)(l:∀p∈led,p.1<a):G7 cx.B led a:=by
 refine⟨Dm l,?_⟩;generalize q:cx.B.base.get? a=zc;rcases zc with _|o';.rfl
 .have:=(N _<|.head _).2.2;rw[x.G.stays _ _ q]at this;exact GO this
theorem Pq.alloc(R:RL cx.B f W s led)(hn:¬W.mM a)(h:Pq cx s){n:Ç}:Pq cx {s with h:=Dj s.h a c,nx:=n}:=⟨h.1,λb hb=>by obtain⟨l,e⟩:=h.2 b hb;exact⟨l,(Ì λq:b=a=>hn<|(R.mM a).mpr<|by exact AP q<|AA e Ä).trans e⟩⟩
theorem BW.vT(x:BW cx W s t h₀ led m){k:Ç}(F:Fr h₀ cx.L h' m)(N:ĵ h₀ cx.L h'<|(a,BB ws)::led)(l:∀p∈led,p.1<a)(hz:ws.length<=B8):RR cx (W.pW a ws) s {t with heap:=h',toks:=k}/\W.Le (W.pW a ws):=by have hx:=x.pj N l;have le:=Wd.pb x.R (l:=ws) hx;exact⟨⟨h₀,_,m,⟨F,N,x.G,x.R.tD hx hz,x.A!.C! le λp hp=>.tail _ hp,λp hp=>⟨.tail _ (x.D? p hp).1,(x.D? p hp).2.C! le⟩,x.rest⟩⟩,le⟩
theorem BW.qM(x:BW cx W s t h₀ led m){k:Ç}(F:Fr h₀ cx.L h' m)(N:ĵ h₀ cx.L h'<|(a,o)::led)(l:∀p∈led,p.1<a)(hc:∀W',W.Le W'->W'.ad (c.ad s.nx)=a->De cx.B W' ((a,o)::led) (c.ad s.nx) c):b8 (λW'=>W.Le W') (λW'=>W'.mM<|c.ad s.nx) (λW'=>W'.ad (c.ad s.nx)=a) λW'=>RR cx W' {s with h:=Dj s.h (c.ad s.nx) c,nx:=s.nx+1} {t with heap:=h',toks:=k}:=by have fx:=x.pj N l;have hx:=fx.1;have hn:=x.R.oF<|c.m6 s.nx;have le:=Wd.nX (W:=W) (x:=a) (d:=a) hn;refine⟨_,le,Wd.oQ,Wd.mi,⟨h₀,_,m,⟨F,N,x.G,x.R.qm (by simpa using⟨by simpa using hx,x.R.nd⟩) (λp hp=>.tail _ hp) (λy hy hn=>(Bt hy).elim (λe=>AA e fx.2) λq=>â q hn) hx hx (.head _) (.head _)<|hc _ le Wd.mi,?_,λp hp=>⟨.tail _ (x.D? p hp).1,(x.D? p hp).2.C! le⟩,x.rest.1,x.rest.2.1,Pq.alloc x.R hn x.rest.2.2⟩⟩⟩;exact Fm.C! (l:=s.A!) le (λp hp=>.tail _ hp) x.A!
end
section
noncomputable abbrev Cx.M(cx:Cx):Model:=model cx.prog cx.B.w
theorem PG(r:RR cx W s t)(hv:mR W l ws)(hz:l.length<=B8)(h:∀W' w t',W.Le W'->RR cx W' s t'->VR W' (.D! l) w->Q w t'):wpAny cx.M A (newTuple ws) Q E t:=by
 obtain⟨h₀,led,m,x⟩:=r;have ux:ws.length<=B8:=by exact AA hv.length hz
 refine newTuple_N x.F x.N (λh' F N=>?_) (Ñ ux<|by refine AA Ĳ ?_;decide);obtain⟨r',le⟩:=x.vT (k:=t.toks) F N (λp hp=>ï (x.N p hp).1) ux;exact h _ _ _ le r'<|.D! (Î Ä)<|hv.C! le
theorem SN(r:RR cx W s t)(hv:mR W l ws)(hz:l.length<=B8)(h:∀W' w t',W.Le W'->RR cx W' {s with h:=Dj s.h (.list s.nx)<|.list l,nx:=s.nx+1} t'->VR W' (.ref<|.list s.nx) w->Q w t'):wpAny cx.M A (newList ws) Q E t:=by
 obtain⟨h₀,led,m,x⟩:=r;have ux:ws.length<=sizeLine:=by exact AA hv.length<|AA Ĳ<|Ñ hz<|by decide
 refine newList_K x.F x.N (λa h' F N lt=>?_) ux;obtain⟨W',le,d,e,r'⟩:=x.qM (c:=.list l) (k:=t.toks) F N lt λW' le e=>⟨ws,0,by exact AA e<|.head _,hv.C! le,hz⟩;exact h _ _ _ le r' (by have:=VR.ref (W:=W') _ d;rw[e]at this;exact this)
end
section
variable{cx:Cx}{s:S}
theorem BW.nK(x:BW cx W s t h₀ led m)(h:W.mG a=À ws):t.heap.get? a=À (BB ws):=(x.R.mG a ws h).1.elim (λq=>(x.N _ q).1) λq=>x.F.keep _ _<|x.G.stays _ _ q.1
theorem BW.f_(x:BW cx W s t h₀ led m)(h:W.mG a=À ws):IsTup t.heap a ws.toArray:=⟨_,x.nK h,Ä,0,Ä⟩
theorem BW.isList(x:BW cx W s t h₀ led m){a:Û}{ws:Á PV}{n:Ç}(h:(a,listOf ws.toArray n)∈led):t.heap.IsList a ws.toArray:=IsL.isList (n:=n) (x.N _ h).1
theorem V0(h:mR W l ws):(!ws.toArray.isEmpty)=!l.isEmpty:=by induction h using Internal.mR.casesOn<;>rfl
theorem OV(i:Í):(i !=0)=Ê (i≠0):=by by_cases e:i=0<;>simp[e]
theorem Xq{n:Ç}(h:n<=B8):(n:Í)<2^63:=Í.lt_of_le_of_lt (Í.ofNat_le.mpr h)<|by decide
theorem Yy{n:Ç}(h:n<=B8):n<=sizeLine:=AP Ĳ<|Ñ h<|by decide
theorem mR.size(h:mR W l ws):ws.toArray.size=l.length:=by exact AA Ķ<|AA h.length Ä
theorem Fb(h:s.list a=À l):s.h a=À (.list l):=by
 revert h;show(match s.h a with|À (.list l)=>À l|_=>È)=À l->_;rcases s.h a with _|c;.exact λh=>AY h
 .induction c with|list k=>exact λh=>AP (Ak h) Ä|_=>exact λh=>AY h
theorem RR.list{P:Prop}(r:RR cx W s t)(ha:s.h a=À (.list l))(k:∀{ws},mR W l ws->l.length<=B8->t.heap.IsList (W.ad a) ws.toArray->P):P:=by obtain⟨_,_,_,x⟩:=r;obtain⟨_,_,m1,hs,hz⟩:=x.R.cells a _ ha;exact k hs hz<|x.isList m1
theorem RR.D!(r:RR cx W s t)(h:W.mG x=À ws):IsTup t.heap x ws.toArray/\ws.length<=B8:=by obtain⟨_,_,_,z⟩:=r;exact⟨z.f_ h,(z.R.mG _ _ h).2⟩
structure LU(cx:Cx)(W:Wd)(s:S)(t:Ó)(a:Ad)(l:Á V)(h₀:ç)(led:Em)(m:Ï->Ã PV)(ws:Á PV)(n:Ç):Prop where
 F:Fr h₀ cx.L t.heap m
 N:ĵ h₀ cx.L t.heap led
 mem:(W.ad a,listOf (Ś ws) n)∈led
 vs:mR W l ws
 sz:l.length<=B8
 up:∀{P:Prop}tM n',(∀{F!},Upd (W.ad a) (listOf ws.toArray n) (listOf (Ś tM) n') led F!->(∀{l':Á V}{h':ç}{k:Ç},mR W l' tM->l'.length<=B8->Fr h₀ cx.L h' m->ĵ h₀ cx.L h' F!->RR cx W (s.B_ a<|.list l') {t with heap:=h',toks:=k})->P)->P
theorem RR.pa{P:Prop}(r:RR cx W s t)(ha:s.h a=À (.list l))(k:∀{h₀ led m ws n},LU cx W s t a l h₀ led m ws n->P):P:=by obtain⟨h₀,led,m,x⟩:=r;obtain⟨ws,n,m1,hs,hz⟩:=x.R.cells a _ ha;exact k ⟨x.F,x.N,m1,hs,hz,λtM n' k=>by obtain⟨F!,U,e1,e2,e3⟩:=Du x.R.nd m1<|listOf (Ś tM) n';exact k U λhv hl F N=>x.update ha (.inl Ä) e1 e3 ⟨tM,n',e2,hv,hl⟩ F N<|.inl λZ h=>by cases h⟩
theorem RR.sP{P:Prop}(r:RR cx W s t)(k:∀{h₀ led m},Fr h₀ cx.L t.heap m->ĵ h₀ cx.L t.heap led->(∀{P:Prop}{a:Û}{ws:Á PV}{n:Ç}{h':ç}{q:Ç},Fr h₀ cx.L h' m->ĵ h₀ cx.L h' ((a,listOf ws.toArray n)::led)->(∀p∈led,p.1<a)->mR W l ws->l.length<=B8->(∀{W'},W.Le W'->RR cx W' {s with h:=Dj s.h (.list s.nx)<|.list l,nx:=s.nx+1} {t with heap:=h',toks:=q}->VR W' (.ref<|.list s.nx) (.ref a)->P)->P)->P):P:=by obtain⟨h₀,led,m,x⟩:=r;exact k x.F x.N λ{Z a ws n h' q}F N lt hv hz k=>by obtain⟨W',le,d,e,r'⟩:=x.qM (c:=.list l) (k:=q) F N lt λW' le e=>⟨ws,n,AP e<|.head _,hv.C! le,hz⟩;exact k le r'<|AP e<|.ref _ d
theorem OU{b:Ë}(hb:truthy (.ref a) s=À b):BM (λl=>s.h a=À (.list l)) λl=>(!l.isEmpty)=b:=by
 revert hb;show(match s.h a with|À (.list l)=>À<|!l.isEmpty|_=>È)=À b->_;rcases s.h a with _|c;.exact λh=>AY h
 .cases c with|list l=>exact λh=>⟨l,Ä,Ak h⟩|_=>exact λh=>AY h
theorem VR.me(h:VR W (.ref a) w):W.mM a/\w=.ref (W.ad a):=by cases h with|ref _ d=>exact⟨d,Ä⟩
theorem VR.qI(d:W.mM a)(e:W.ad a=x):VR W (.ref a) (.ref x):=AP e<|.ref a d
theorem BY{x:Í}(h:VR W (.int x) w):∃t,w=.int x t:=by cases h with|int y t=>exact⟨t,Ä⟩
theorem Td(h:VR W (.D! l) w):H5 (λx ws=>w=.ref x) (λx ws=>W.mG x=À ws) λx ws=>mR W l ws:=by cases h with|D! a b=>exact⟨_,_,Ä,a,b⟩
theorem Yw(h:VR W (.fl l) w):w=.ref W.n3/\mR W l W.m7:=by cases h with|fl b=>exact⟨Ä,b⟩
theorem M5(r:RR cx W s t){b:Ë}{Q:Ë->Ó->Prop}(hb:truthy v s=À b)(hv:VR W v w)(h:∀t',RR cx W s t'->Q b t'):wpAny cx.M A (PySem.truthy w) Q E t:=by induction v using Internal.V.casesOn with|none=>cases hv;exact truthy_none<|AA (Ak hb)<|h _ r|bool c=>cases hv;exact φ<|AA (Ak hb)<|h _ r|int i=>obtain⟨_,rfl⟩:=BY hv;exact truthy_int<|AP ((OV i).trans<|Ak hb).symm<|h _ r|str x=>exact AY hb|fl l=>exact AY hb|D! l=>obtain⟨x,ws,rfl,ht,hs⟩:=Td hv;exact truthy_tuple (r.D! ht).1 (Xq (r.D! ht).2)<|AP ((V0 hs).trans<|Ak hb).symm<|h _<|r.toks _|ref a=>obtain⟨_,rfl⟩:=hv.me;obtain⟨l,ha,e⟩:=OU hb;exact r.list ha λhs hz il=>wpAny_truthy_list il (Xq<|AA hs.size hz)<|AP ((V0 hs).trans e).symm<|h _<|r.toks _
theorem IX{k:Í}{n j:Ç}(h:seqIndex? k n=À j)(hn:n<=B8):-2^63<=k/\k<2^63/\(0<=k->j=k.toNat)/\(k<0->-(n:Í)<=k/\j=(k+n).toNat):=by
 unfold B8 at hn;simp only[seqIndex?,Ã.ite_none_right_eq_some,ù,Ŭ,Ã.some.injEq]at h;x_go;by_cases q:k<0;.refine zk ?_;rw[Î q]at h;lia
 .refine zk ?_;rw[Ì q]at h;lia
theorem IY{k:Í}(h:BC l k=À v):BM (λj=>seqIndex? k l.length=À j) λj=>l[j]?=À v:=by
 unfold BC at h;generalize e:seqIndex? k l.length=zc at h;rcases zc with _|j;.exact AY h
 .exact ⟨j,Ä,h⟩
theorem KX{k:Í}(hl:t.heap.IsList a ws.toArray)(hs:mR W l ws)(hz:l.length<=B8)(hx:BC l k=À x)(h:∀y,VR W x y->Q y t):wpAny cx.M A (getItem (.ref a)<|.int k u) Q E t:=by
 x_go;obtain⟨j,h1,h2⟩:=IY hx;obtain⟨y,hy,hv⟩:=hs.get h2;obtain⟨b1,b2,b3,b4⟩:=IX h1 hz;by_cases q:0<=k;.exact zk<|wpAny_getItem_list hl q b2 (AP (b3 q)<|(đ ..).trans hy)<|h y hv
 .have q':=Í.not_le.mp q;exact zk<|wpAny_getItem_list_neg hl q' (AA hs.size<|(b4 q').1) b1 (by exact AA hs.size<|AP (b4 q').2<|(đ ..).trans hy)<|h y hv
theorem VE(r:RR cx W s t){k:Í}(ht:W.mG a=À ws)(hs:mR W l ws)(hx:BC l k=À x)(h:∀y,VR W x y->Q y t):wpAny cx.M A (getItem (.ref a)<|.int k u) Q E t:=by x_go;obtain⟨j,h1,h2⟩:=IY hx;obtain⟨y,hy,hv⟩:=hs.get h2;obtain⟨b1,b2,_⟩:=IX h1<|AP hs.length<|(r.D! ht).2;exact zk<|getItem_tuple (r.D! ht).1 b1 b2 (AA hs.size h1) ((đ ..).trans hy)<|h y hv
theorem mR.set(hv:VR W v w)(h:mR W l ws):∀n:Ç,mR W (l.set n v) (ws.set n w):=mR.rec (motive_1:=λZ Z Z=>Ŀ) (motive_2:=λl ws Z=>∀n,mR W (l.set n v)<|ws.set n w) Þ (λZ=>Þ) (λZ Z=>Þ) (λZ Z Z=>Þ) (λZ Z=>Þ) (λZ Z Z=>Þ) (λZ Z=>Þ) (λZ=>.nil) (λa r Z ih n=>match n with|0=>.cons hv r|n+1=>.cons a<|ih n) h
theorem Iy(r:RR cx W s t){k:Í}(ha:s.h a=À (.list l))(hl:MS l k v=À l')(hv:VR W v w)(h:∀t',RR cx W (s.B_ a<|.list l') t'->Q () t'):wpAny cx.M A (setItem (.ref<|W.ad a) (.int k u) w) Q E t:=by
 unfold MS at hl;x_go;by_cases hk:0<=k/\k<l.length;.rw[Î hk]at hl;obtain rfl:=Ak hl;refine zk<|r.pa ha λ{h₀ led m ws n}x=>x.up (ws.set k.toNat w) n λU cont=>?_;x_go;obtain⟨pre,post,rfl,rfl,b1,b2⟩:=U.split;have z:=x.N (_,listOf ws.toArray n)<|Á.mem_append.mpr<|.inr<|.head _;exact zk<|ki_setAt z.1 hk.1 (Í.lt_trans hk.2<|Xq x.sz) (AA x.vs.size hk.2) (h _ (cont (k:=t.toks) (x.vs.set hv _) (by exact AA Á.length_set x.sz) (x.F.change (ĝ ..) z.2.1 z.2.2)<|ki_turn _ x.N b1 b2 (ī.toList_inj.mp<|by simp)<|by simp))
 .rw[Ì hk]at hl;exact AY hl
theorem mR.pM(h:mR W (v::l) ws):H5 (λw us=>ws=w::us) (λw us=>VR W v w) λw us=>mR W l us:=by cases h with|cons a b=>exact⟨_,_,Ä,a,b⟩
theorem mR.split:∀{ws:Á PV},mR W (l++k) ws->H5 (λus vs=>ws=us++vs) (λus vs=>mR W l us) λus vs=>mR W k vs:=by induction l with|nil=>exact λh=>⟨[],_,Ä,.nil,h⟩|cons a l ih=>intro ws h;obtain⟨w,zW,rfl,ha,r⟩:=h.pM;obtain⟨us,vs,e,h1,h2⟩:=ih r;exact⟨_::us,vs,Â _ e,.cons ha h1,h2⟩
theorem VA(r:RR cx W s t)(ha:s.h a=À (.list l))(hv:VR W v w)(hz:l.length<G_)(h:∀t',RR cx W (s.B_ a<|.list<|l++[v]) t'->Q .none t'):wpAny cx.M A (call (.builtin "list.append") [.ref<|W.ad a,w]) Q E t:=r.pa ha λ{Z Z Z ws n}x=>x.up (ws++[w]) (n+1) λU cont=>append_K x.F x.N (AA (Á.push_toArray ws w) U) (λh' F N=>h _<|cont (x.vs.append<|.cons hv .nil) (AA Õ<|Ñ (Ç.succ_le_of_lt hz)<|by decide) F N)<|AA x.vs.size<|Yy x.sz
theorem mR.tO(h:mR W [] ws):ws=[]:=by cases h;rfl
theorem eR(r:RR cx W s t)(ha:s.h a=À (.list l))(hl:l.getLast?=À v)(h:∀w t',RR cx W (s.B_ a<|.list l.dropLast) t'->VR W v w->Q w t'):wpAny cx.M A (call (.builtin "list.pop") [.ref<|W.ad a]) Q E t:=r.pa ha λ{Z Z Z ws n}x=>by obtain⟨l0,e⟩:=Á.getLast?_eq_some_iff.mp hl;obtain⟨us,u0,e1,h1,h2⟩:=mR.split<|AP e x.vs;obtain⟨w,u1,e2,hv,h3⟩:=h2.pM;have e4:ws=us++[w]:=e1.trans (Â (us++·) (e2.trans (Â (w::·) h3.tO)));exact x.up us (n+1) λU cont=>kl_pop x.F x.N (p:=us) (y:=w) (e4▸kpa_last w us) U (Yy (x.vs.length▸x.sz:)) λh' F N=>h _ _ (cont (by exact AA e<|AA Á.dropLast_concat h1) (Ñ (AA Á.length_dropLast<|Ç.sub_le ..) x.sz) F N) hv
theorem aS(r:RR cx W s t)(ha:s.h a=À (.list<|v::l))(h:∀w t',RR cx W (s.B_ a<|.list l) t'->VR W v w->Q w t'):wpAny cx.M A (call (.builtin "list.pop") [.ref<|W.ad a,.int 0 u]) Q E t:=r.pa ha λ{Z Z Z ws n}x=>by obtain⟨w,us,e,hv,h1⟩:=x.vs.pM;exact x.up us (n+1) λU cont=>kl_popAt x.F x.N (p:=[]) (q:=us) (y:=w) (k:=0) Ä (by subst e;simp[seqIndex?]) (by subst e;rfl) U (Yy (x.vs.length▸x.sz:)) λh' F N=>h _ _ (cont h1 (Ç.le_of_succ_le x.sz) F N) hv
theorem Xk{a b:Ç}(e:Ë)(h:a+b<G_):¬(!e&&Ω (a+b))=Å:=by unfold Ω;exact AA (Ĳ ..)<|AA (ā<|Ç.not_lt.mpr<|Ñ (Ą h)<|by decide)<|AA (Ë.and_false ..) ŉ
theorem U'(r:RR cx W s t)(ha:s.h a=À (.list l))(hb:s.h b=À (.list k))(xM:b≠a)(hz:l.length+k.length<G_)(h:∀t',RR cx W (s.B_ a<|.list<|l++k) t'->Q .none t'):wpAny cx.M A (call (.builtin "list.extend") [.ref<|W.ad a,.ref<|W.ad b]) Q E t:=by
 x_go;obtain⟨h₀,led,m,x⟩:=r;obtain⟨ws,n,m1,hs,sZ⟩:=x.R.cells a _ ha;obtain⟨us,n2,m2,U?,zb⟩:=x.R.cells b _ hb;have nl:=Xk ws.toArray.isEmpty hz;rw[<-hs.size,<-U?.size]at nl;have z1:ws.toArray.toList.length<=sizeLine:=Yy (hs.length▸sZ:);refine zk ?_;have z2:ws.toArray.size+us.toArray.size<=sizeLine+1:=by exact AA hs.size<|AA U?.size<|AA Ĳ<|Ñ (Ą hz)<|by decide
 have fin:(l++k).length<=B8:=by exact AA Õ<|Ñ (Ą hz)<|by decide
 x_go;cases us with|nil=>cases U?;obtain⟨F!,U,e1,e2,e3⟩:=Du x.R.nd m1<|listOf ws.toArray n;exact zk<|kxn_extend x.F x.N m2 Ä U nl z1 z2 λh' F N=>h _<|x.update ha (.inl Ä) e1 e3 ⟨ws,n,e2,AP (å l).symm hs,fin⟩ F N<|.inl λZ h=>by cases h|cons u us=>obtain⟨F!,U,e1,e2,e3⟩:=Du x.R.nd m1<|listOf (ws++u::us).toArray<|n+1;exact zk<|kl_extend x.F x.N m2 (l:=ws++u::us) Ä (Ç.succ_ne_zero _) U nl z1 z2 λh' F N=>h _<|x.update ha (.inl Ä) e1 e3 ⟨ws++u::us,n+1,e2,hs.append U?,fin⟩ F N<|.inl λZ h=>by cases h
theorem Jm{i:Í}(h:Ap i):ŗ.Int.intBits i<=64:=intBits_le_64 (Í.lt_of_lt_of_le (by decide) h.1)<|Í.lt_of_le_of_lt h.2<|by decide
set_option tactic.hygienic true in
theorem LB{a b:Í}(hb:Ap b):ι a b=Æ:=by
 have k:(if(b==0)=Å then 0 else b.natAbs.log2/30+1)<=300:=by
  split;.exact è _
  .rename_i e;have:b.natAbs.log2<64:=(Ç.log2_lt<|by simpa using e).mpr (by have:=hb.1;have:=hb.2;lia);lia
 unfold ι;simp only[Ë.and_eq_false_iff,decide_eq_false_iff_not];exact .inl<|by lia
theorem aU(r:RR cx W s t)(h1:s.h x=À (.list l))(h2:s.h y=À (.list k))(hz:l.length+k.length<G_)(h:∀{W' w t'},W.Le W'->RR cx W' {s with h:=Dj s.h (.list s.nx)<|.list<|l++k,nx:=s.nx+1} t'->VR W' (.ref<|.list s.nx) w->Q w t'):wpAny cx.M A (binaryOp .Add (.ref<|W.ad x)<|.ref<|W.ad y) Q E t:=r.list h1 λ{ws}hs Z i1=>r.list h2 λ{us}U? Z i2=>r.sP (l:=l++k) λF N cont=>add_arrays F N i1 i2 (λh' F' N'=>cont (ws:=ws++us) (n:=0) (q:=t.toks) F' N' (λp hp=>ï (N p hp).1) (hs.append U?) (AA Õ<|Ñ (Ą hz)<|by decide) h)<|by exact AA hs.size<|AA U?.size<|AA Ĳ<|Ñ (Ą hz)<|by decide
end
theorem E8{α β γ:Type}{f:α->β->γ}{x:Ã α}{y:Ã β}{c:γ}(h:R6 f x y=À c):H5 (λa b=>x=À a) (λa b=>y=À b) λa b=>f a b=c:=by
 rcases x with _|a;.exact AY h
 .induction y using ŵ with|none=>exact AY h|some b=>exact⟨a,b,Ä,Ä,Ak h⟩
theorem SH{α β:Type}{f:α->Ã β}{a:α}{r:Á α}{ds:Á β}(h:HL f (a::r)=À ds):H5 (λx y=>f a=À x) (λx y=>HL f r=À y) λx y=>ds=x::y:=by obtain⟨x,y,e1,e2,e3⟩:=E8 (f:=λx y=>x::y) h;exact⟨x,y,e1,e2,e3.symm⟩
def WY(h:ç)(n:Ç)(w:PV)(d:Ú):Prop:=(∃as,Reads h w d as)/\d.canLay0=Å/\d.depth<=n
def ZT(h:ç)(n:Ç)(ws:Á PV)(ds:Á Ú):Prop:=(∃as,ReadsAll h ws ds as)/\Λ ds=Å/\ũ ds<=n
theorem J8{n:Ç}(ih:∀{v w d},VR W v w->Kz n v=À d->WY h n w d)(hs:mR W l ws):∀{ds:Á Ú},HL (Kz n) l=À ds->ZT h n ws ds:=by refine hs.f? (P:=λl ws=>∀{ds:Á Ú},HL (Kz n) l=À ds->ZT h n ws ds) (λe=>AP (Ak e) ⟨⟨_,.nil⟩,Ä,è _⟩) λ{Z Z Z Z}ha Z q ds e=>?_;x_go;obtain⟨x,y,e1,e2,rfl⟩:=SH e;obtain⟨⟨_,r1⟩,c1,d1⟩:=ih ha e1;obtain⟨⟨_,r2⟩,c2,d2⟩:=q e2;exact zk ⟨⟨_,.cons r1 r2⟩,Ë.and_eq_true_iff.mpr ⟨c1,c2⟩,Ç.max_le.mpr ⟨d1,d2⟩⟩
theorem FV(ht:∀x ws,W.mG x=À ws->h.get? x=À (BB ws))(n:Ç):∀{v:V}{w:PV}{d:Ú},VR W v w->Kz n v=À d->WY h n w d:=by induction n with|zero=>exact λZ e=>AY e|succ n ih=>intro v w d hv e;induction hv using Internal.VR.casesOn with|none=>exact AP (Ak e) ⟨⟨_,.none⟩,Ä,è _⟩|bool b=>exact AP (Ak e) ⟨⟨_,.bool b⟩,Ä,è _⟩|int i k=>exact AP (Ak e) ⟨⟨_,.int i k⟩,Ä,è _⟩|str x k hk=>exact AP (Ak e) ⟨⟨_,.str x k⟩,hk,è _⟩|ref a=>exact AY e|fl l=>exact AY e|D! hx hs=>x_go;obtain⟨ds,yf,rfl⟩:=OG e;obtain⟨⟨as,r⟩,c,q⟩:=J8 ih hs yf;exact zk ⟨⟨_,.tuple (ht _ _ hx) Ä Ä r⟩,c,ú q⟩
section
theorem RR.mG(r:RR cx W s t):∀x ws,W.mG x=À ws->t.heap.get? x=À (BB ws):=by obtain⟨_,_,_,z⟩:=r;exact λZ Z h=>z.nK h
theorem RR.qO(r:RR cx W s t)(ha:s.h a=À (.list l))(hd:HL (Kz 8) l=À ds):WY t.heap 9 (.ref<|W.ad a) (.list ds):=by obtain⟨_,_,_,x⟩:=id r;obtain⟨ws,n,m1,hs,hz⟩:=x.R.cells a _ ha;obtain⟨⟨as,q⟩,c,d⟩:=J8 (FV r.mG 8) hs hd;exact⟨⟨_,.list (x.N _ m1).1 Ä Ä q⟩,c,ú d⟩
def bw(cx:Cx)(A:ĕ)(E:PV->Ó->Prop)(t:Ó)(x y:PV)(c:Ë):Prop:=(∀{Q:PV->Ó->Prop},Q (.bool c) t->wpAny cx.M A (Ľ .Eq x y) Q E t)/\∀{Q:PV->Ó->Prop},Q (.bool<|!c) t->wpAny cx.M A (Ľ .NotEq x y) Q E t
theorem FW(h1:d.canLay0=Å)(h2:d.depth<=9):SeqAt.shaped d=Å:=by unfold SeqAt.shaped;refine AA h1 ?_;simp;lia
theorem JC{c:Ë}(hu:A.units+64<cLine)(h1:WY t.heap 9 x da)(h2:WY t.heap 9 y db)(e:da.eqv db=c):bw cx A E t x y c:=by obtain⟨⟨_,r1⟩,c1,d1⟩:=h1;obtain⟨⟨_,r2⟩,c2,d2⟩:=h2;exact⟨λq=>eq_dataH r1 r2 (FW c1 d1) (FW c2 d2) hu<|AP e.symm q,λq=>ne_dataH r1 r2 (FW c1 d1) (FW c2 d2) hu<|AP e.symm q⟩
theorem YU{c:Ë}(h:eqv (.ref x) (.ref y) s=À c):H5 (λl r=>s.h x=À (.list l)) (λl r=>s.h y=À (.list r)) λl r=>ZP l r=À c:=by
 unfold eqv at h;dsimp only at h;x_go;generalize e1:s.list x=zc;rcases zc with _|l;.refine zk ?_;rw[e1]at h;exact AY h
 .replace h:=e1▸h;generalize e2:s.list y=zc;rcases zc with _|r;.refine zk ?_;rw[e2]at h;exact AY h
  .refine zk ?_;rw[e2]at h;exact⟨l,r,Fb e1,Fb e2,h⟩
theorem eX(r:RR cx W s t){c:Ë}(hu:A.units+64<cLine)(hx:VR W a x)(hy:VR W b y)(he:eqv a b s=À c):bw cx A E t x y c:=by
 have data:R6 û (Kz 9 a) (Kz 9 b)=À c->bw cx A E t x y c:=λh=>by obtain⟨d1,d2,h1,h2,h3⟩:=E8 h;exact JC hu (FV r.mG 9 hx h1) (FV r.mG 9 hy h2) h3
 x_go;cases a with
 |ref p=>cases b with|ref q=>
   obtain⟨_,rfl⟩:=hx.me;obtain⟨_,rfl⟩:=hy.me;obtain⟨l,k,e1,e2,he⟩:=YU he;unfold ZP at he;by_cases hl:l.length=k.length;.rw[Î hl]at he;obtain⟨_,_,h1,h2,h3⟩:=E8 he;exact zk<|JC hu (r.qO e1 h1) (r.qO e2 h2) h3
   .rw[Ì hl]at he;obtain rfl:=Ak he;exact zk<|r.list e1 λhs Z i1=>r.list e2 λU? Z i2=>have nO:=bne_iff_ne.mpr<|hs.size.symm▸U?.size.symm▸hl;have rG:A.units<cLine:=Ò (ë ..) hu;⟨λh=>cmp_ofEq<|SeqAt.RcAt.lists_lengths i1 i2 nO rG _ _ _ _ h,λh=>cmp_ofNotEq<|SeqAt.RcNeAt.lists_lengths i1 i2 nO rG _ _ _ _ h⟩|_=>exact AY he
 |_=>exact zk<|data he
theorem KR(r:RR cx W s t){c:Ë}(hu:A.units+64<cLine)(hx:VR W a x)(hy:s.h y=À (.list l))(he:PK a l=À c):(∀{Q:PV->Ó->Prop},Q (.bool c) t->wpAny cx.M A (Ľ .In x<|.ref<|W.ad y) Q E t)/\∀{Q:PV->Ó->Prop},Q (.bool<|!c) t->wpAny cx.M A (Ľ .NotIn x<|.ref<|W.ad y) Q E t:=by x_go;cases l with|nil=>obtain rfl:=Ak he;exact zk<|r.list hy λhs Z i=>by cases hs;exact⟨λh=>SeqAt.in_listAt (λZ=>Æ) i (λy hy=>â hy<|ī.not_mem_empty y)<|by simpa using h,λh=>SeqAt.notIn_listAt (λZ=>Æ) i (λy hy=>â hy<|ī.not_mem_empty y)<|by simpa using h⟩|cons b l=>obtain⟨d,ds,h1,h2,h3⟩:=E8 he;obtain⟨⟨_,r1⟩,c1,d1⟩:=FV r.mG 8 hx h1;obtain⟨⟨_,rr⟩,c2,d2⟩:=r.qO hy h2;have hm:A.units+1+min (ũ ds) d.depth<cLine:=Ò (AA (ħ ..)<|Ď (Ñ (Ď (Ñ (Ç.min_le_right ..) d1) 1)<|by decide) _) hu;exact zk<|⟨λh=>SeqAt.in_list_reads rr r1 c2 c1 hm<|AP h3.symm h,λh=>SeqAt.notIn_list_reads rr r1 c2 c1 hm<|AP h3.symm h⟩
end
theorem Gp(i:Í)(l:Á Í):(Aw i l).Perm (i::l):=by induction l with|nil=>exact .refl _|cons j r ih=>
  by_cases q:i<j;.exact AP (show Aw i (j::r)=i::j::r from Î q)<|.refl _
  .exact AA (show Aw i (j::r)=j::Aw i r from Ì q)<|(ih.cons j).trans<|Á.Perm.swap i j r
theorem I9(i:Í){l:Á Í}(h:l.Pairwise (·<=·)):(Aw i l).Pairwise (·<=·):=by induction h with|nil=>exact .cons (λZ h=>Cv h) .nil|@cons j r h1 h2 ih=>
  by_cases q:i<j;.refine AA (show Aw i (j::r)=i::j::r from Î q)<|.cons (λa ha=>(Bt ha).elim (λe=>AA e<|į q) λe=>č (į q)<|h1 a e)<|.cons h1 h2
  .refine AA (show Aw i (j::r)=j::Aw i r from Ì q)<|.cons (λa ha=>(Bt<|(Gp i r).mem_iff.mp ha).elim (λe=>AA e<|Í.not_lt.mp q)<|h1 a) ih
theorem F6(l:Á Í):(Bw l).Perm l:=by induction l with|nil=>exact .refl _|cons i r ih=>exact(Gp i _).trans<|ih.cons i
theorem K6(l:Á Í):(Bw l).Pairwise (·<=·):=by induction l with|nil=>exact .nil|cons i r ih=>exact I9 i ih
theorem IV{l k:Á Í}(hp:k.Perm l)(hs:k.Pairwise (·<=·)):k=Bw l:=Á.Perm.eq_of_pairwise (le:=(·<=·)) (λa b Z Z h1 h2=>Í.le_antisymm h1 h2) hs (K6 l)<|hp.trans (F6 l).symm
theorem VU{is:Á Í}(h:B1 l=À is)(hs:mR W l ws):Α ws is:=by refine hs.f? (P:=λl ws=>∀{is},B1 l=À is->Α ws is) (λe=>AP (Ak e) .nil) (λ{a Z Z Z}ha Z ih is h=>?_) h;induction a using Internal.V.casesOn with|int i=>obtain⟨js,h1,rfl⟩:=OG h;obtain⟨t,rfl⟩:=BY ha;exact .cons i t<|ih h1|_=>exact AY h
theorem mR.b!{is:Á Í}(h:Α ws is):mR W (is.map V.int) ws:=by induction h with|nil=>exact .nil|cons i t _ ih=>exact .cons (.int i t) ih
set_option tactic.hygienic true in
theorem Jh:∀{is:Á Í},is.length<64->(∀i∈is,Ap i)->Ú.layable0 (.list<|is.map .int)=Å:=by
 intro is hl hs;have k1:∀is:Á Í,Λ (is.map .int)=Å:=by intro is;induction is with|nil=>rfl|cons a r ih=>simp[Λ,ς,ih]
 have k2:∀is:Á Í,ũ (is.map .int)=0:=by intro is;induction is with|nil=>rfl|cons a r ih=>simp[ũ,Ú.depth,ih]
 have k3:∀is:Á Í,(∀i∈is,Ap i)->ţ (is.map .int)<=100*is.length:=by intro is;induction is with|nil=>intro _;simp[ţ]|cons a r ih=>
   intro h;have h1:=h a<|.head _;have h2:=ih λi hi=>h i<|.tail _ hi;have h3:Ú.weight (.int a)<=64:=by
    simp only[Ú.weight];split;.lia
    .rename_i e;have h4:=h1.1;have h5:=h1.2;have:a.natAbs.log2<40:=(Ç.log2_lt<|by simpa using e).mpr<|by lia
     lia
   simp only[ģ,ţ,ę];lia
 unfold Ú.layable0;have h1:=k1 is;have h2:=k2 is;have h3:=k3 is hs;have h4:ţ (is.map .int)<=2^20:=by lia
 simp only[ς,h1,Ú.depth,h2,Ú.weight];exact AA (ù ..)<|AA (ù ..) ⟨⟨Ä,Ä⟩,Ü h4⟩
section
variable{cx:Cx}
theorem T5{is:Á Í}(h:B1 l=À is)(hl:is.length<64):((Bw is).map V.int).length<=B8:=by refine AA (Ð ..) ?_;rw[(F6 is).length_eq];exact Ñ (Ą hl)<|by decide
theorem Ji(r:RR cx W s t){is:Á Í}(ha:s.h a=À (.list l))(hi:B1 l=À is)(hl:is.length<64)(hs:∀i∈is,Ap i)(h:∀{W' w t'},W.Le W'->RR cx W' {s with h:=Dj s.h (.list s.nx)<|.list<|(Bw is).map .int,nx:=s.nx+1} t'->VR W' (.ref<|.list s.nx) w->Q w t'):wpAny cx.M A (call (.builtin "sorted") [.ref<|W.ad a]) Q E t:=r.list ha λhv Z i1=>r.sP λF N cont=>have I:=VU hi hv;sorted_N2 F N i1 I (Jh hl hs) (AP I.length.symm hl) λh' wo xo e F' N' hL I' Z e1 e2 hp nZ=>by cases IV hp nZ;exact cont (q:=t.toks) F' N' (λp hp=>Ĺ<|ï (N p hp).1) (mR.b! I') (T5 hi hl) h
theorem Uz(i:t.heap.IsList a ws.toArray)(hs:mR W l ws)(hz:l.length<=B8)(h:∀k u,Q (.int l.length u) {t with toks:=k}):wpAny cx.M A (call (.builtin "len") [.ref a]) Q E t:=len_list i (Xq<|AA hs.size hz)<|AP hs.size.symm<|h _ _
theorem eV(G:cx.Gl)(r:RR cx W s t){n:Ç}(hv:VR W v w)(hn:Mz v s=À n)(tm:cx.B.base.IsList W.n3 W.m7.toArray/\W.m7.length<=B8)(h:∀{w t'},RR cx W s t'->VR W (.int n) w->Q w t'):wpAny cx.M A (call (.builtin "len") [w]) Q E t:=by cases v with
 |ref a=>
  x_go;obtain⟨_,rfl⟩:=hv.me;have:BM (λl=>s.h a=À (.list l)) λl=>l.length=n:=by
   revert hn;show(match s.h a with|À (.list l)=>À l.length|_=>È)=À n->_;rcases s.h a with _|c;.exact λh=>AY h
   .cases c with|list l=>exact λh=>⟨l,Ä,Ak h⟩|_=>exact λh=>AY h
  obtain⟨l,ha,rfl⟩:=this;exact zk<|r.list ha λhs hz i=>Uz i hs hz λk u=>h (r.toks k)<|.int _ u|fl l=>x_go;obtain⟨rfl,hs⟩:=Yw hv;obtain rfl:=Ak hn;obtain⟨h₀,led,m,x⟩:=id r;exact zk<|Uz (tm.1.at λo q=>x.F.keep _ _<|x.G.stays _ _ q) hs (AP hs.length tm.2) λk u=>h (r.toks k)<|.int _ u|_=>exact AY hn
theorem RR.at(x:BW cx W s t h₀ led m){k:Ç}(F:Fr h₀ cx.L h' m)(N:ĵ h₀ cx.L h' led):RR cx W s {t with heap:=h',toks:=k}:=⟨h₀,led,m,⟨F,N,x.G,x.R,x.A!,x.D?,x.rest⟩⟩
theorem eU(r:RR cx W s t)(hh:A.handled=È){a b:Í}(h:∀{w t'},RR cx W s t'->VR W (.int<|if a<b then b else a) w->Q w t'):wpAny cx.M A (call (.builtin "max") [.int a u,.int b v]) Q E t:=by obtain⟨_,_,_,x⟩:=r;exact max_two_N hh x.F x.N λZ Z F N=>h (RR.at x F N)<|.int _ _
theorem eT(r:RR cx W s t)(hh:A.handled=È){a b:Í}(h:∀{w t'},RR cx W s t'->VR W (.int<|if b<a then b else a) w->Q w t'):wpAny cx.M A (call (.builtin "min") [.int a u,.int b v]) Q E t:=by obtain⟨_,_,_,x⟩:=r;exact min_two_N hh x.F x.N λZ Z F N=>h (RR.at x F N)<|.int _ _
theorem U9(r:RR cx W s t)(ha:s.h a=À (.list l))(h:∀{W' w t'},W.Le W'->RR cx W' {s with h:=Dj s.h (.list s.nx)<|.list l,nx:=s.nx+1} t'->VR W' (.ref<|.list s.nx) w->Q w t'):wpAny cx.M A (call (.type "list") [.ref<|W.ad a]) Q E t:=r.list ha λhv hz i1=>r.sP λF N cont=>list_copyK F N i1 (λD c h' F' N' lt=>cont (q:=t.toks) F' N' lt hv hz h)<|AA hv.size<|Yy hz
end
structure Fz(cx:Cx)(A_:Ï->Ã V)(W:Wd)(env:BJ)(C?:Ů):Prop where
 kind:C?.scope.kind=.function
 A!:∀x,env.kind x=À .local->C?.kindOf x=À .local
 cell:∀x,env.kind x=À .cell->C?.kindOf x=À .cell
 free:∀x,env.kind x=À .free->C?.kindOf x=À .cell\/C?.kindOf x=À .free
 V?:∀x,env.kind x=À .globalImplicit->C?.kindOf x=À .globalImplicit
 cells:DB W env.cells C?.cells
 locals:C?.locals=cx.cmp.getD cx.L
 globals:C?.globals=ý
 builtins:C?.builtins=builtinsNs
 frame:C?.frame=À cx.L
 gl:∀x v,A_ x=À v->BM (λw=>cx.mg x=À w) λw=>VR W v w
theorem Fz.C!(le:W.Le W')(h:Fz cx A_ W env C?):Fz cx A_ W' env C?:=⟨h.kind,h.A!,h.cell,h.free,h.V?,h.cells.C! le,h.locals,h.globals,h.builtins,h.frame,λx v e=>by obtain⟨w,a,b⟩:=h.gl x v e;exact⟨w,a,b.C! le⟩⟩
structure k8(cx:Cx)(A:ĕ)(k:Ç):Prop where
 hh:A.handled=È
 fr:D4 (λmJ=>A.frames=À (mJ::cx.outer)) (λmJ=>mJ.frame=À cx.L) λmJ=>mJ.scope.kind=.function
 depth:A.depth+20*k+20<recursionLimit
 units:A.units+100*k+200<cLine
theorem RL.oZ(R:RL B free W s led)(hc:c∈free)(hm:F!.map (·.1)=led.map (·.1))(hk:∀p∈led,p.1≠c->p∈F!):RL B free W s F!:=by
 refine⟨hm▸R.nd,R.mM,λb d hb=>?_,λx l h=>⟨(R.mG x l h).1.imp (λq=>hk _ q λe=>?_) λq=>⟨q.1,AA hm q.2⟩,(R.mG x l h).2⟩,R.fresh,R.own,R.my,λa h=>AA hm<|R.n6 a h,λa h=>AA hm<|R.oP a h,R.tab.led λp hp hl=>hk p hp λe=>R.tab.nv c hc<|e▸hl⟩
 .have hd:W.mM b:=(R.mM b).mpr (by exact AA (hb ..) Ä);refine(R.cells b d hb).C! (Wd.Le.refl W) hd λp hp hq=>hk p hp λe=>?_;have n:=R.n7 hc hd;rcases hq with z|z;.exact n.1<|e.symm.trans z
  .exact n.2<|e.symm.trans z
 .have:=R.my c hc;simp only at e;rw[<-e,h]at this;exact GO this
section
theorem Qy{x:Ï}(h:Kq env x s=À v):BM (λa=>env.cells.lookup x=À a) λa=>s.h a=À (.cell<|À v):=by
 unfold Kq at h;generalize e:env.cells.lookup x=zc at h;rcases zc with _|a;.exact AY h
 .dsimp only at h;generalize e2:s.h a=zc at h;rcases zc with _|c;.exact AY h
  .induction c with|cell u=>exact⟨a,Ä,e2.trans<|Â (À∘BX.cell) h⟩|_=>exact AY h
theorem BW.cellAt(x:BW cx W s t h₀ led m)(ha:s.h a=À (.cell<|À v)):BM (λw=>t.heap.IsCell (W.ad a)<|À w) λw=>VR W v w:=by obtain⟨o,w,h1,h2,h3⟩:=x.R.cells a _ ha;exact⟨w,⟨o,(x.N _ h1).1,h2⟩,h3⟩
theorem BW.names(z:BW cx W s t h₀ led m)(e:Fz cx A_ W env C?):BM (λmm=>t.heap.Ns C?.locals mm) λmm=>Fo W s.A! mm:=by
 rcases z.A! with⟨q,h⟩|⟨C,oC,mC,q,hC,g1,⟨es,ep,g2,g3,g4⟩,g5⟩;.exact ⟨m,AA (e.locals.trans (Â (η · cx.L) q)) z.F.ns,h⟩
 .exact ⟨mC,AA (e.locals.trans (Â (η · cx.L) q)) ⟨oC,es,ep,(z.N _ g1).1,g2,g3,g4⟩,g5⟩
theorem I0(G:cx.Gl)(r:RR cx W s t)(e:Fz cx A_ W env C?){x:Ï}(hn:(x==("__classdict__":Ï))=Æ)(hx:aQ A_ env x s=À v)(h:∀{w},VR W v w->Q w t):wpAny cx.M A (PySem.loadName C? x) Q E t:=by
 x_go;obtain⟨h₀,led,m,z⟩:=r;unfold aQ at hx;generalize hk:env.kind x=zc;rcases zc with _|k;.refine zk ?_;rw[hk]at hx;exact AY hx
 .rw[hk]at hx;induction k with|«local»=>obtain⟨mm,ns,hl⟩:=z.names e;obtain⟨w,h1,h2⟩:=hl x v hx;exact zk<|Ξ e.kind (e.A! x hk) ns h1<|h h2|cell=>obtain⟨a,ha,hu⟩:=Qy hx;obtain⟨w,h1,h2⟩:=z.cellAt hu;exact zk<|wpAny_loadName_cell e.kind (e.cell x hk) (e.cells x a ha).2 h1<|h h2|free=>obtain⟨a,ha,hu⟩:=Qy hx;obtain⟨w,h1,h2⟩:=z.cellAt hu;exact zk<|(e.free x hk).elim (λq=>wpAny_loadName_cell e.kind q (e.cells x a ha).2 h1<|h h2) λq=>wpAny_loadName_free e.kind q (e.cells x a ha).2 h1 (h h2) hn|globalImplicit=>obtain⟨w,h1,h2⟩:=e.gl x v hx;refine zk<|AA (loadName_read e.kind<|e.V? x hk) ?_;refine loadGlobal_global (mg:=cx.mg) ?_ h1<|h h2;exact AA e.globals<|(G.T.g.keeps z.G.stays).keeps z.F.keep|_=>exact AY hx
theorem Fo.set(hl:Fo W l m){x:Ï}(hv:VR W v w):Fo W (AD l x v) λy=>if y=x then À w else m y:=λy u hu=>by
 have rG:(if y=x then À v else l y)=À u:=hu;by_cases q:y=x;.rw[Î q]at rG;obtain rfl:=Ak rG;exact⟨w,Î q,hv⟩
 .rw[Ì q]at rG;obtain⟨w',h1,h2⟩:=hl y u rG;exact⟨w',(Ì q).trans h1,h2⟩
theorem RL.A!(z:RL B f W s led)(l:Ï->Ã V):RL B f W {s with A!:=l} led:=⟨z.nd,z.mM,z.cells,z.mG,z.fresh,z.own,z.my,z.n6,z.oP,z.tab⟩
theorem FI(r:RR cx W s t)(e:Fz cx A_ W env C?){x:Ï}(hx:Tz env x v s=À s')(hv:VR W v w)(h:∀{t'},RR cx W s' t'->Q () t'):wpAny cx.M A (PySem.storeName C? x w) Q E t:=by x_go;obtain⟨h₀,led,m,z⟩:=r;unfold Tz at hx;generalize hk:env.kind x=zc;induction zc with|none=>refine zk ?_;rw[hk]at hx;exact AY hx|some k=>replace hx:=hk▸hx;cases k with
  |«local»=>
   obtain rfl:=Ak hx;refine zk ?_;have hp:(C?.scope.kind==.class||C?.scope.kind==.module&&C?.locals !=C?.globals)=Æ:=by exact AA e.kind Ä
   rcases z.A! with⟨hc,hl⟩|⟨C,oC,mC,hc,hC,g1,⟨es,ep,g2,g3,g4⟩,g5⟩;.have hL:C?.locals=cx.L:=e.locals.trans (Â (η · cx.L) hc);refine Ζ (m:=m) (e.A! x hk) (AA hL z.F.ns) (λh' hn hs=>?_) hp;rw[hL]at hn hs;exact h ⟨h₀,led,_,⟨z.F.set hn hs,z.N.set hs,z.G,z.R.A! _,.no hc<|Fo.set hl hv,z.D?,z.rest.1,(λC q=>by rw[hc]at q;cases q),z.rest.2.2⟩⟩
   .have hL:C?.locals=C:=e.locals.trans (Â (η · cx.L) hc);have hz:=z.N _ g1;refine Ζ (m:=mC) (e.A! x hk) (AA hL ⟨oC,es,ep,hz.1,g2,g3,g4⟩) (λh' hn hs=>?_) hp;rw[hL]at hn hs;x_go;obtain⟨tT,rP,uL,k1,k2,k3,k4⟩:=hn;obtain⟨F!,U,e1,e2,e3⟩:=Du z.R.nd g1 tT;exact zk<|h ⟨h₀,_,_,⟨z.F.change hs hz.2.1 hz.2.2,GT U z.N hz.2 hs k1,z.G,(z.R.oZ hC e1 e3).A! _,.co C tT _ hc hC e2 ⟨rP,uL,k2,k3,k4⟩<|Fo.set g5 hv,λp hp=>⟨e3 p (z.D? p hp).1 λq=>(z.D? p hp).2.2<|hc.trans<|Â À q.symm,(z.D? p hp).2⟩,z.rest⟩⟩|cell=>
   dsimp only at hx;generalize ha:env.cells.lookup x=zc;rcases zc with _|a;.refine zk ?_;rw[ha]at hx;exact AY hx
   .replace hx:=ha▸hx;dsimp only at hx;generalize hu:s.h a=zc;induction zc with|none=>refine zk ?_;rw[hu]at hx;exact AY hx|some c=>replace hx:=hu▸hx;cases c with|cell u=>
      obtain rfl:=Ak hx;have key:Hb (λo sE=>(W.ad a,o)∈led) λo sE=>o.data=.cell sE:=by
       x_go;rcases u with _|u;.refine zk ?_;obtain⟨o,h1,h2⟩:=z.R.cells a _ hu;exact⟨o,_,h1,h2⟩
       .refine zk ?_;obtain⟨o,w',h1,h2,_⟩:=z.R.cells a _ hu;exact⟨o,_,h1,h2⟩
      obtain⟨o,sE,m1,hd⟩:=key;refine zk<|wpAny_storeName_cell e.kind (e.cell x hk) (e.cells x a ha).2 ⟨o,(z.N _ m1).1,hd⟩ λh' z' hs=>?_;x_go;obtain⟨o',nY,nP⟩:=z';obtain⟨F!,U,e1,e2,e3⟩:=Du z.R.nd m1 o';have hz:=z.N _ m1;exact zk<|h (z.update (k:=t.toks) hu (.inl Ä) e1 e3 ⟨o',w,e2,nP,hv⟩ (z.F.change hs hz.2.1 hz.2.2) (GT U z.N hz.2 hs nY)<|.inl λZ h=>by cases h)|_=>exact AY hx
  |_=>exact AY hx
end
end Mine.Internal
end
section
open PySem PySem.W PyProof.Rows PySem.Calls PyProof.V
set_option backward.match.sparseCases true
namespace Mine.Internal
def GV(h:ç)(n:Ç):ç:=⟨h.objs.extract 0 n,h.life⟩
theorem OW(h:ç)(n:Ç):(GV h n).objs.size<=n:=by simp[GV];lia
theorem HB(h:ç)(n b:Ç):(GV h n).get? b=if b<n then h.get? b else È:=by
 have key:(h.objs.extract 0 n)[b]?=if b<n then h.objs[b]? else È:=by
  refine ī.getElem?_extract▸?_;by_cases e:b<n
  .refine Î e▸?_;by_cases q:b<h.objs.size;.rw[Î<|by lia,Ű]
   .rw[Ì<|by lia,ī.getElem?_eq_none<|by lia]
  .rw[Ì e,Ì<|by lia]
 show(match(h.objs.extract 0 n)[b]? with|À ⟨_,_,.freed,_⟩=>È|o=>o)=_;refine key▸?_;by_cases e:b<n;.rw[Î e,Î e];rfl
 .rw[Ì e,Ì e]
theorem IR{n b:Ç}(e:b<n)(q:h.get? b=À o):(GV h n).get? b=À o:=by exact AA (HB ..)<|AA (Î e ..) q
theorem MK{n b:Ç}(q:(GV h n).get? b=À o):h.get? b=À o/\b<n:=by
 rw[HB]at q;by_cases e:b<n;.rw[Î e]at q;exact⟨q,e⟩
 .rw[Ì e]at q;exact AY q
theorem Ky{n:Ç}:h.FunFrames base l->(∀env∈l,∀L,env.frame=À L->L<n)->(GV h n).FunFrames base l:=by induction l with|nil=>exact λZ Z=>Þ|cons env r ih=>intro x hl;x_go;obtain⟨L,o,hf,hn,ho,hd⟩:=x.2.1;exact zk ⟨x.1,⟨L,o,hf,hn,IR (hl env (.head _) L hf) ho,hd⟩,ih x.2.2 λe he=>hl e<|.tail _ he⟩
theorem Tj{n L:Ç}(hn:h.Ns L m)(e:L<n):(GV h n).Ns L m:=by x_go;obtain⟨o,es,ep,ho,r⟩:=hn;exact zk<|⟨o,es,ep,IR e ho,r⟩
def Cx.O?(cx:Cx)(A:ĕ)(mJ:Ů)(m:Ï->Ã PV)(L':Û)(F?:Em):Cx:={cx with A₀:=A,outer:=mJ::cx.outer,P!:=(cx.L,m)::cx.P!,L:=L',D?:=F?++cx.D?,cmp:=È}
inductive DJ(c:Ã Û)(led F?:Em):Prop|no (e:c=È) (h:F?=[])|co (C:Û) (oC:ġ) (e:c=À C) (h:F?=[(C,oC)]) (a:(C,oC)∈led)
theorem My(hl:Fm cx W l led m)(hx:DJ cx.cmp led F?)(nd:(led.map (·.1)).Nodup)(le:W.Le W')(hk:∀p∈F?,p∈F!):Fm cx W' l F! m:=by
 rcases hl with⟨e,h⟩|⟨C,oC,mC,e,hC,h1,h2,h3⟩;.exact .no e<|h.C! le
 .refine .co C oC mC e hC (hk _ ?_) h2<|h3.C! le;rcases hx with⟨e',h⟩|⟨C',tT,e',h,h4⟩;.exact GO<|e.symm.trans e'
  .obtain rfl:=Ak<|e.symm.trans e';exact AA h<|EX nd h1 h4▸.head _
theorem BW.J?(x:BW cx W s t h₀ led m)(le:W.Le W')(hx:DJ cx.cmp led F?)(y:BW (cx.O? A mJ m L' F?) W' s' t' g F! m'):BW cx W' {s' with A!:=s.A!} t' (GV g cx.L) F! m:=by
 have hL:g.Ns cx.L m:=y.G.P! _<|.head _;have yu:∃o,g.get? cx.L=À o:=by obtain⟨o,_,_,h,_⟩:=hL;exact⟨o,h⟩
 have xu:∀b o,cx.B.base.get? b=À o->b<cx.L:=λb o q=>õ (ï<|x.G.stays _ _ q) x.F.above;have nL:∀p∈F!,p.1≠cx.L:=λp hp e=>by obtain⟨o,ho⟩:=yu;have:=(y.N p hp).2.2;rw[e,ho]at this;exact GO this
 refine⟨⟨?_,λb o q=>y.F.keep _ _ (MK q).1,OW _ _⟩,λp hp=>⟨(y.N p hp).1,nL p hp,?_⟩,⟨⟨x.G.B.stack,λb o q=>IR (xu b o q)<|y.G.stays _ _ q,?_⟩,λp hp=>?_⟩,?_,?_,?_,y.rest.1,x.rest.2.1,y.rest.2.2⟩;.obtain ⟨o,es,ep,ho,r⟩:=hL;exact⟨o,es,ep,y.F.keep _ _ ho,r⟩
 .refine AA (HB ..) ?_;split;.exact (y.N p hp).2.2
  .rfl
 .obtain ⟨_,_,hr⟩:=y.G.B.frames;refine Ky hr λenv he L hf=>?_;obtain⟨_,o,ho,_⟩:=x.G.B.frames.mem<|cM ⟨env,he,hf⟩;exact õ (ï ho) x.F.above
 .refine Tj (y.G.P! p<|.tail _ hp) ?_;obtain⟨o,_,_,ho,_⟩:=x.G.P! p hp;exact õ (ï ho) x.F.above
 .have R:=y.R;exact⟨R.nd,R.mM,R.cells,R.mG,R.fresh,R.own,R.my,R.n6,R.oP,R.tab⟩
 .exact My x.A! hx x.R.nd le λp hp=>(y.D? p<|æ _ hp).1
 .intro p hp;have h1:=x.D? p hp;have h2:=y.D? p<|Ö _ hp;exact⟨h2.1,h1.2.C! le⟩
theorem RR.J?(x:BW cx W s t h₀ led m)(le:W.Le W')(hx:DJ cx.cmp led F?)(r:RR (cx.O? A mJ m L' F?) W' s' t'):RR cx W' {s' with A!:=s.A!} t':=by obtain⟨_,_,_,y⟩:=r;exact⟨_,_,_,x.J? le hx y⟩
section
variable{news:Em}{R:Result->Ó->Prop}{name qual:Ï}{params:œ}{body:Á Đ}{scope:Ō}{cl:Á<|Ï×Û}{dV kV doc pm cdv ct:PV}{an:Ã Û}{fo:ġ}{f:Û}{args:Args}{binds:Á<|Ï×PV}
theorem Hn(B:Below A₀ base outer h₀)(F:Fr h₀ L s.heap m)(N:ĵ h₀ L s.heap news)(qY:h₀.NoLimit)(hA:A.frames=À (env::outer))(hf:env.frame=À L)(vq:env.scope.kind=.function)(ho:s.heap.get? f=À fo) (hd:fo.data=.func (fnX name qual params body scope cl dV kV doc pm an cdv ct)) (rL:s.heap.CodeRec cdv qual) (oJ:A.depth<recursionLimit)(oN:Β s (fnX name qual params body scope cl dV kV doc pm an cdv ct) args binds) (pF:∀y∈binds,scope.names.lookup y.1=À .local)(h:∀g L' mU,Fr h₀ L g m->Fr g L' mU (λy=>binds.reverse.lookup y)->ĵ g L' mU news->Below A base (env::outer) g->h₀.StaysIn g->wpAny (model prog w) (A.deeper<|envX qual scope L' f cdv cl) (execs body<|envX qual scope L' f cdv cl) (λfl s'=>R (.ok<|.ret<|match fl with|.ret v=>v|_=>.none) s') (λe s'=>wpAny (model prog w) (A.deeper<|envX qual scope L' f cdv cl) (leaving (envX qual scope L' f cdv cl) e) (λZ oz=>R (.error e) oz) (λe' oz=>R (.error e') oz) s') {s with heap:=mU,toks:=s.toks+binds.length})(pI:∀x∈scope.names,x.2≠.cell) (v9:scope.isCoroutine=Æ) (sk:scope.isGenerator=Æ) (hk:scope.kind=.function):ň (model prog w) A (.call (.ref f) args) R s:=by x_go;obtain⟨FG,BG,st,_⟩:=groundX (R:=R) B F N hA hf vq;refine zk<|codeAny_call_def (fd:=fnX name qual params body scope cl dV kV doc pm an cdv ct) (body:=body) (binds:=binds) oJ ho hd (qY.keeps F.keep) rL Ä oN pI pF (λmU vm pH=>?_) v9 sk hk;exact h _ s.heap.objs.size mU FG ⟨vm,λb o e=>pH b o<|of_hideAll _ e,ű<|hideAll_size _ _⟩ (λp hp=>⟨pH _ _ (N p hp).1,Č<|ï (N p hp).1,hideAll_none _<|Á.mem_map_of_mem hp⟩) BG st
theorem Nk(B:Below A₀ base outer h₀)(F:Fr h₀ L s.heap m)(N:ĵ h₀ L s.heap news)(qY:h₀.NoLimit)(hA:A.frames=À (env::outer))(hf:env.frame=À L)(vq:env.scope.kind=.function)(ho:s.heap.get? f=À fo) (hd:fo.data=.func (fnX name qual params body scope [] dV kV doc pm an cdv ct)) (rL:s.heap.CodeRec cdv qual) (oJ:A.depth<recursionLimit)(oN:Β s (fnX name qual params body scope [] dV kV doc pm an cdv ct) args binds)(t8:∀n,∀x∈binds,scope.names.lookup x.1=À .local\/scope.names.lookup x.1=À .cell/\((cellsFrom n scope.names []).lookup x.1).isSome=Å)(qy:((cellsFrom 0 scope.names []).map (·.1)).Nodup)(h:∀g L' mU tk cells,Fr h₀ L g m->Fr g L' mU (bindL (envOfC qual scope L' f cdv).kindOf binds λZ=>È)->ĵ g L' mU (cells++news)->CellsAre (bindC (envOfC qual scope L' f cdv).kindOf binds λZ=>È) (cellsFrom (L'+1) scope.names []) cells->Below A base (env::outer) g->h₀.StaysIn g->(∀p∈news,p.1<L')->wpAny (model prog w) (A.deeper<|envOfC qual scope L' f cdv) (execs body<|envOfC qual scope L' f cdv) (λfl s'=>R (.ok<|.ret<|match fl with|.ret v=>v|_=>.none) s') (λe s'=>wpAny (model prog w) (A.deeper<|envOfC qual scope L' f cdv) (leaving (envOfC qual scope L' f cdv) e) (λZ oz=>R (.error e) oz) (λe' oz=>R (.error e') oz) s') {s with heap:=mU,toks:=tk})(v9:scope.isCoroutine=Æ) (sk:scope.isGenerator=Æ) (hk:scope.kind=.function):ň (model prog w) A (.call (.ref f) args) R s:=by
 x_go;obtain⟨FG,BG,st,_⟩:=groundX (R:=R) B F N hA hf vq;refine zk<|codeAny_call_function oJ ho hd v9 sk Ä rL<|oN _ _ _ _ ?_;refine wpAny_newFunctionEnv_cells hk (t8 _) λm8 he s' x=>?_;subst he;refine⟨(qY.keeps F.keep).keeps x.toInCall.keep,codeAny_func ?_⟩;x_go;obtain⟨mU,tk,rfl,_⟩:=x.done;have pH:=x.toInCall.keep;obtain⟨cells,NC,Y⟩:=Cl.news (h₀:=s.heap) (ä _) λn c hm=>⟨x.cell n c<|lookup_of_mem_nodup (AP (cellsFrom_names scope.names 0 (s.heap.objs.size+1) [] [] Ä) qy) hm,x.above n c hm⟩;refine zk<|h _ s.heap.objs.size mU tk cells FG ⟨x.toInCall.ns,λb o e=>pH b o<|of_hideAll _ e,ű<|hideAll_size _ _⟩ (λp hp=>?_) Y BG st λp hp=>ï (N p hp).1;rcases Hy hp with hp|hp
 .refine ⟨(NC p hp).1,(NC p hp).2.1,?_⟩;generalize q:(hideAll s.heap (news.map (·.1))).get? p.1=zc;rcases zc with _|o;.rfl
  .have:=of_hideAll _ q;rw[(NC p hp).2.2]at this;exact AY this
 .exact ⟨pH _ _ (N p hp).1,Č<|ï (N p hp).1,hideAll_none _<|Á.mem_map_of_mem hp⟩
end
end Mine.Internal
end
section
open PySem PySem.W PyProof.Rows PySem.Calls PyProof.V
namespace Mine.Internal
inductive Zc(n0 k0:Ç):Ç->Á (Ï×Ad)->Á (Ï×Û)->Prop|nil:Zc n0 k0 0 [] []|cons{j:Ç}{x:Ï}{cs:Á<|Ï×Ad}{rs:Á<|Ï×Û}:Zc n0 k0 j cs rs->Zc n0 k0 (j+1) ((x,.cell<|n0+j)::cs) ((x,k0+j)::rs)
theorem Zc.o?{n0 k0:Ç}(names:Á<|Ï×á):∀{j:Ç}{cs:Á<|Ï×Ad}{rs:Á<|Ï×Û},Zc n0 k0 j cs rs->∃j',Zc n0 k0 j' (AX (n0+j) names cs) (cellsFrom (k0+j) names rs):=by induction names with|nil=>exact λ{j Z Z}z=>⟨j,z⟩|cons p r ih=>
  intro j cs rs z;obtain⟨x,k⟩:=p;by_cases e:k=.cell;.subst e;exact ih z.cons
  .unfold cellsFrom;exact AA (show AX (n0+j) ((x,k)::r) cs=AX (n0+j) r cs from Ì e)<|AA (ZR e)<|ih z
theorem Zc.length{n0 k0 j:Ç}{cs:Á<|Ï×Ad}{rs:Á<|Ï×Û}(z:Zc n0 k0 j cs rs):cs.length=j:=by induction z with|nil=>rfl|cons _ ih=>simp[ih]
theorem Zc.tY{n0 k0 j:Ç}{cs:Á<|Ï×Ad}{rs:Á<|Ï×Û}(z:Zc n0 k0 j cs rs):∀x a,cs.lookup x=À a->D4 (λi=>i<j) (λi=>a=.cell (n0+i)) λi=>rs.lookup x=À (k0+i):=by induction z with|nil=>intro x a h;exact AY h|@cons j y cs rs z ih=>intro x a h;rw[ð]at h⊢;cases q:x==y with|true=>rw[q]at h;obtain rfl:=Ak h;exact⟨j,by lia,Ä,Ä⟩|false=>replace h:=q▸h;obtain⟨i,h1,h2,h3⟩:=ih x a h;exact⟨i,by lia,h2,h3⟩
def Ys(W:Wd)(f:Ï->Ã V)(g:Ï->Ã PV):Prop:=∀x,match f x with|È=>g x=È|À v=>BM (λw=>g x=À w) λw=>VR W v w
theorem WV{n0 k0:Ç}:∀{j:Ç}{cs:Á<|Ï×Ad}{rs:Á<|Ï×Û},Zc n0 k0 j cs rs->∀{cells led:Em}{W:Wd}{s:S},RL B free W s led->CellsAre cm rs cells->(∀a,W.mM a->a.num<n0)->(∀p∈led,p.1<k0)->(∀p∈cells,B.base.get? p.1=È)->Ys W f cm->n0+j<=s.nx->kz (λW'=>W.Le W') (λW'=>RL B free W' {s with h:=Bx f cs s.h}<|cells++led) (λW'=>∀i,i<j->W'.mM (.cell<|n0+i)/\W'.ad (.cell<|n0+i)=k0+i) (λW'=>∀a,W'.mM a->W.mM a\/BM (λi=>i<j) λi=>a=.cell (n0+i)) λW'=>∀p∈cells,k0<=p.1/\p.1<k0+j:=by intro j cs rs z;induction z with|nil=>intro cells led W s R C _ _ _ _ _;obtain⟨⟩:=C;exact⟨W,.refl W,R,λi h=>by omega,λa h=>.inl h,λp hp=>Cv hp⟩|@cons j x cs rs z ih=>intro cells led W s R C hd hl hb hf hn;cases C with|@cons _ _ o _ qi uG C'=>
   obtain⟨qC,le,ue,h1,h2,h3⟩:=ih R C' hd hl (λp hp=>hb p<|.tail _ hp) hf<|by lia
   have qy:¬qC.mM (.cell<|n0+j):=λh=>by
    rcases h2 _ h with q|⟨i,hi,q⟩;.have:=hd _ q;exact â (show n0+j<n0 from this)<|by lia
    .injection q with q;lia
   have qV:k0+j∉(qi++led).map (·.1):=λh=>by
    obtain⟨p,hp,e⟩:=MD h;change p.1=k0+j at e;rcases Hy hp with q|q;.have:=(h3 p q).2;rw[e]at this;exact â this<|Ę _
    .have:=hl p q;rw[e]at this;exact â this<|Ç.not_lt.mpr<|ë _ _
   have qP:=Wd.nX (W:=qC) (x:=k0+j) (d:=k0+j) qy;refine⟨_,le.trans qP,ue.ql (c:=.cell<|f x) (k_:=s.nx) qy (show n0+j<s.nx by lia) (ä _) (F!:=(k0+j,o)::qi++led) (Um ⟨qV,ue.nd⟩) (λp hp=>.tail _ hp) (λy hy tI=>?_) qV qV (.head _) (.head _) ?_,λi hi=>?_,λa ha=>?_,λp hp=>?_⟩
   .rcases Bt hy with e|e;.exact AA e<|hb _<|.head _
    .exact â e tI
   .have q:=hf x;generalize e:f x=zc at q;rcases zc with _|v;.exact ⟨o,by exact AA Wd.mi<|.head _,by exact AA uG<|AA q Ä⟩
    .obtain ⟨w,q1,q2⟩:=q;exact⟨o,w,by exact AA Wd.mi<|.head _,by exact AA uG<|AA q1 Ä,(q2.C! le).C! qP⟩
   .by_cases e:i=j;.subst e;exact⟨.inl Ä,Wd.mi⟩
    .have:=h1 i<|by lia
     exact⟨.inr this.1,(qP.ad _ this.1).trans this.2⟩
   .rcases ha with e|e;.exact .inr ⟨j,by lia,e⟩
    .rcases h2 a e with q|⟨i,hi,q⟩;.exact .inl q
     .exact .inr ⟨i,by lia,q⟩
   .rcases Bt hp with e|e;.subst e;exact⟨ë _ _,Ī _⟩
    .have:=h3 p e;exact⟨this.1,Ĺ this.2⟩
theorem B5.A!{names:Á<|Ï×á}(hk:∀x,kind x=names.lookup x){l:Á<|Ï×V}{r:Á<|Ï×PV}(z:B5 W l r):∀{f:Ï->Ã V}{g:Ï->Ã PV},Fo W f g->Fo W (Be names l f) (bindL kind r g):=by induction z with|nil=>exact id|@cons x v w l r a b ih=>
  refine λ{f g}h=>ih ?_;refine AA (hk x) ?_;by_cases e:names.lookup x=À .local;.exact AA (Î e)<|AA (Î e)<|Fo.set h a
  .exact AA (Ì e)<|AA (Ì e) h
theorem B5.cell{names:Á<|Ï×á}(hk:∀x,kind x=names.lookup x){l:Á<|Ï×V}{r:Á<|Ï×PV}(z:B5 W l r):∀{f:Ï->Ã V}{g:Ï->Ã PV},Ys W f g->Ys W (BI names l f) (bindC kind r g):=by induction z with|nil=>exact id|@cons x v w l r a b ih=>
  refine λ{f g}h=>ih ?_;refine AA (hk x) ?_;by_cases e:names.lookup x=À .local;.exact AA (Î e)<|AA (Î e) h
  .refine AA (Ì e)<|AA (Ì e) ?_;intro y;unfold AD;by_cases q:y=x;.simp only[Î q];exact⟨w,Ä,a⟩
   .simp-iota only[Ì q];exact h y
theorem B5.vZ{l:Á<|Ï×V}{r:Á<|Ï×PV}(h:B5 W l r){names:Á<|Ï×á}(hl:∀y∈r,names.lookup y.1=À .local):∀{f:Ï->Ã V}{g:Ï->Ã PV},Fo W f g->Fo W (Be names l f) λy=>(r.reverse.lookup y).or<|g y:=by induction h with|nil=>intro f g h;exact h|@cons x v w l r a b ih=>
  intro f g h;have xx:=ih (λy hy=>hl y<|.tail _ hy) (f:=AD f x v) (g:=λy=>if y=x then À w else g y) λy u hu=>by
   unfold AD at hu;by_cases q:y=x;.rw[Î q]at hu;obtain rfl:=Ak hu;exact⟨w,Î q,a⟩
   .rw[Ì q]at hu;obtain⟨w',h1,h2⟩:=h y u hu;exact⟨w',(Ì q).trans h1,h2⟩
  refine AA (show Be names ((x,v)::l) f=Be names l (AD f x v)from Â (Be names l)<|Î<|hl (x,w)<|.head _) ?_;intro y u hu;obtain⟨w',h1,h2⟩:=xx y u hu;refine⟨w',?_,h2⟩;refine AP h1 ?_;simp only[Á.reverse_cons,Á.lookup_append,Ã.or_assoc];congr 1;by_cases q:y=x;.subst q;simp
  .have:(y==x)=Æ:=ZR q;simp[ð,this,q]
def AZ{α β:Type}(RX:Cx->Wd->S->V->PV->Ó->Prop)(cx:Cx)(W:Wd)(X:AN α)(R:Wd->α->β->Prop)(Q:β->Ó->Prop)(E:PV->Ó->Prop):Prop:=match X with|.ok v s'=>∀W' w t',W.Le W'->RR cx W' s' t'->R W' v w->Q w t'|.exc v s'=>∀W' w t',W.Le W'->RX cx W' s' v w t'->E w t'|.C_=>Ń
section
variable{K β:Type}[þ K]
theorem Ex{k:K}{w v:PV}{r:Á<|K×PV}(h:k∉r.map (·.1)):stored ((k,w)::r) k v=(k,v)::r:=by
 have e:r.map (λkv=>if kv.1=k then(kv.1,v)else kv)=r:=by exact(Ė (g:=id) λp hp=>Ì λe=>h<|Et ⟨p,hp,e⟩).trans<|Á.map_id r
 simp[stored,e]
theorem Ew{k a:K}{w v:PV}{r:Á<|K×PV}(h:a≠k):stored ((a,w)::r) k v=(a,w)::stored r k v:=by unfold stored;simp only[Á.any_cons,ā h,Ë.false_or,ģ,Ì h,Ũ];split<;>rfl
theorem Hw{k:K}{a b:Û}{w v:PV}{r:Á<|K×Û×PV}(h:k∉r.map (·.1)):storedH ((k,a,w)::r) k b v=(k,a,v)::r:=by have e:=map_putAt_of_not_mem r k v h;simp[storedH,atKey,putAt,e]
theorem Hv{k c:K}{a b:Û}{w v:PV}{r:Á<|K×Û×PV}(h:c≠k):storedH ((c,a,w)::r) k b v=(c,a,w)::storedH r k b v:=by unfold storedH atKey;simp only[ų,ā h,ģ,putAt,Ì h,Ũ];split<;>rfl
end
section
theorem JB(e:M8 k=Å):AW k []=À È:=Î e
theorem Gv(e:ME a k=À Å):AW k ((a,v)::l)=À (À v):=Â (λo=>Wm o (À<|À v) (AW k l) È) e
theorem Ff(e:ME a k=À Æ):AW k ((a,v)::l)=AW k l:=Â (λo=>Wm o (À<|À v) (AW k l) È) e
theorem LC(e:M8 k=Å):CF k v []=À [(k,v)]:=Î e
theorem LD(e:ME a k=À Å):CF k v ((a,w)::l)=À ((a,v)::l):=Â (λo=>Wm o (À<|(a,v)::l) ((CF k v l).map ((a,w)::·)) È) e
theorem Id(e:ME a k=À Æ):CF k v ((a,w)::l)=(CF k v l).map ((a,w)::·):=Â (λo=>Wm o (À<|(a,v)::l) ((CF k v l).map ((a,w)::·)) È) e
theorem T6{α:Type}[þ α]{a:α}:À (Ê<|a=a)=À Å:=Â À<|Ü Ä
theorem T7{α:Type}[þ α]{a b:α}(h:¬a=b):À (Ê<|a=b)=À Æ:=Â À<|ā h
theorem kI{a:Ï}:ME (.str a) (.str a)=À Å:=T6
theorem kJ{a:Í}:ME (.int a) (.int a)=À Å:=T6
theorem gh{a:Ï}:ME (.D! [.str a,.none]) (.D! [.str a,.none])=À Å:=T6
theorem kK{a b:Ï}(h:¬a=b):ME (.str a) (.str b)=À Æ:=T7 h
theorem kL{a b:Í}(h:¬a=b):ME (.int a) (.int b)=À Æ:=T7 h
theorem gi{a b:Ï}(h:¬a=b):ME (.D! [.str a,.none]) (.D! [.str b,.none])=À Æ:=T7 h
theorem Tf{K:Type}[þ K]{x:K}{w:PV}{r:Á<|K×PV}:valueAt ((x,w)::r) x=À w:=by simp[valueAt]
theorem Pz{K:Type}[þ K]{x y:K}{w:PV}{r:Á<|K×PV}(e:¬y=x):valueAt ((y,w)::r) x=valueAt r x:=by simp[valueAt,ų,e]
theorem bc{K:Type}[þ K]{x:K}{c:Û}{w:PV}{r:Á<|K×Û×PV}:atKey ((x,c,w)::r) x=À (c,w):=by simp[atKey]
theorem Ym{K:Type}[þ K]{x y:K}{c:Û}{w:PV}{r:Á<|K×Û×PV}(e:¬y=x):atKey ((y,c,w)::r) x=atKey r x:=by simp[atKey,ų,e]
theorem P9{x y:Ï}(e:¬y=x):¬([À y,È]:Á<|Ã Ï)=[À x,È]:=λh=>e<|Ak<|Á.head_eq_of_cons_eq h
theorem Vr{x:Ï}{kvs:Á<|Ï×PV}(hk:OI W l kvs):∀{r:Ã V},AW (.str x) l=À r->match r with|È=>valueAt kvs x=È|À v=>BM (λw=>valueAt kvs x=À w) λw=>VR W v w:=by induction hk with|nil=>exact λh=>by obtain rfl:=Ak<|(JB Ä).symm.trans h;rfl|@cons y v w l kvs a b ih=>
  intro r h;by_cases e:y=x;.subst e;obtain rfl:=Ak<|(Gv kI).symm.trans h;exact⟨w,Tf,a⟩
  .have:=ih<|(Ff<|kK e).symm.trans h;exact AA (Pz e) this
theorem Vs{x:Í}{kvs:Á<|Í×PV}(hk:OJ W l kvs):∀{r:Ã V},AW (.int x) l=À r->match r with|È=>valueAt kvs x=È|À v=>BM (λw=>valueAt kvs x=À w) λw=>VR W v w:=by induction hk with|nil=>exact λh=>by obtain rfl:=Ak<|(JB Ä).symm.trans h;rfl|@cons y v w l kvs a b ih=>
  intro r h;by_cases e:y=x;.subst e;obtain rfl:=Ak<|(Gv kJ).symm.trans h;exact⟨w,Tf,a⟩
  .have:=ih<|(Ff<|kL e).symm.trans h;exact AA (Pz e) this
theorem Vq{x:Ï}{xs:Á<|Á (Ã Ï)×Û×PV}(hk:Ju W l xs):∀{r:Ã V},AW (.D! [.str x,.none]) l=À r->match r with|È=>atKey xs [À x,È]=È|À v=>Hb (λa w=>atKey xs [À x,È]=À (a,w)) λa w=>VR W v w:=by induction hk with|nil=>exact λh=>by obtain rfl:=Ak<|(JB Ä).symm.trans h;rfl|@cons y t c v w l xs ht hc a b ih=>
  intro r h;by_cases e:y=x;.subst e;obtain rfl:=Ak<|(Gv gh).symm.trans h;exact⟨c,w,bc,a⟩
  .have:=ih<|(Ff<|gi e).symm.trans h;exact AA (Ym<|P9 e) this
theorem iV{x:Ï}(hv:VR W v w){kvs:Á<|Ï×PV}(hk:OI W l kvs):(kvs.map (·.1)).Nodup->∀{l':Á<|V×V},CF (.str x) v l=À l'->OI W l' (stored kvs x w)/\l'.length<=l.length+1:=by induction hk with|nil=>exact λZ Z h=>by obtain rfl:=Ak<|(LC Ä).symm.trans h;exact⟨.cons hv .nil,ä _⟩|@cons y u w' l kvs a b ih=>
  intro nd l' h;have nd:=Hx nd;by_cases e:y=x;.subst e;obtain rfl:=Ak<|(LD kI).symm.trans h;exact AA (Ex nd.1) ⟨.cons hv b,Ģ _⟩
  .obtain ⟨q,hq,rfl⟩:=OG<|(Id<|kK e).symm.trans h;have:=ih nd.2 hq;exact AA (Ew e) ⟨.cons a this.1,ú this.2⟩
theorem iW{x:Í}(hv:VR W v w){kvs:Á<|Í×PV}(hk:OJ W l kvs):(kvs.map (·.1)).Nodup->∀{l':Á<|V×V},CF (.int x) v l=À l'->OJ W l' (stored kvs x w)/\l'.length<=l.length+1:=by induction hk with|nil=>exact λZ Z h=>by obtain rfl:=Ak<|(LC Ä).symm.trans h;exact⟨.cons hv .nil,ä _⟩|@cons y u w' l kvs a b ih=>
  intro nd l' h;have nd:=Hx nd;by_cases e:y=x;.subst e;obtain rfl:=Ak<|(LD kJ).symm.trans h;exact AA (Ex nd.1) ⟨.cons hv b,Ģ _⟩
  .obtain ⟨q,hq,rfl⟩:=OG<|(Id<|kL e).symm.trans h;have:=ih nd.2 hq;exact AA (Ew e) ⟨.cons a this.1,ú this.2⟩
theorem iU{x:Ï}(hc:W.mG c=À [.str x t,.none])(hl:(ĸ x).canLay0=Å)(hv:VR W v w){xs:Á<|Á (Ã Ï)×Û×PV}(hk:Ju W l xs):(xs.map (·.1)).Nodup->∀{l':Á<|V×V},CF (.D! [.str x,.none]) v l=À l'->Ju W l' (storedH xs [À x,È] c w)/\l'.length<=l.length+1:=by induction hk with|nil=>exact λZ Z h=>by obtain rfl:=Ak<|(LC Ä).symm.trans h;exact⟨.cons hc hl hv .nil,ä _⟩|@cons y t' c' u w' l xs h1 h2 a b ih=>
  intro nd l' h;have nd:=Hx nd;by_cases e:y=x;.subst e;obtain rfl:=Ak<|(LD gh).symm.trans h;exact AA (Hw nd.1) ⟨.cons h1 h2 hv b,Ģ _⟩
  .obtain ⟨q,hq,rfl⟩:=OG<|(Id<|gi e).symm.trans h;have:=ih nd.2 hq;exact AA (Hv<|P9 e) ⟨.cons h1 h2 a this.1,ú this.2⟩
theorem OI.length{kvs:Á<|Ï×PV}(h:OI W l kvs):kvs.length=l.length:=by induction h with|nil=>rfl|cons _ _ ih=>simp[ih]
theorem OJ.length{kvs:Á<|Í×PV}(h:OJ W l kvs):kvs.length=l.length:=by induction h with|nil=>rfl|cons _ _ ih=>simp[ih]
theorem Ju.length{kvs:Á<|Á (Ã Ï)×Û×PV}(h:Ju W l kvs):kvs.length=l.length:=by induction h with|nil=>rfl|cons _ _ _ _ ih=>simp[ih]
theorem NX{prog:ō}{w:World}{K:Type}[þ K]{knd:KeyKind prog w K}{o:ġ}(h:o.IsDictOf knd []):BM (λep=>o.ExactDict) λep=>o.data=.dict #[] ep:=by
 x_go;obtain⟨⟨es⟩,ep,h1,h2,h3,h4,h5⟩:=h;rcases es with _|⟨a,b⟩;.exact zk ⟨ep,h1,h2⟩
 .obtain ⟨⟩:=h4
theorem KY{prog:ō}{w:World}{K:Type}[þ K]{knd:KeyKind prog w K}{o:ġ}{kvs:Á<|K×PV}(h:o.IsDictOf knd kvs):o.ExactDict:=by obtain⟨_,_,h,_⟩:=h;exact h
theorem Dd.exact{B:DC}{o:ġ}{l:Á<|V×V}(h:Dd B W o l):o.ExactDict:=h.elim (·.el λZ h Z=>KY h) λh=>h.elim (·.el λZ h Z=>KY h) (·.el λZ h Z=>by obtain⟨_,_,h,_⟩:=h;exact h)
theorem Da(h:Dd B W o []):BM (λep=>o.ExactDict) λep=>o.data=.dict #[] ep:=by
 x_go;rcases h with⟨kvs,h,h6⟩|⟨kvs,h,h6⟩|⟨xs,⟨es,ep,h1,h2,h3,h4⟩,h6⟩;.cases h6;exact zk<|NX h
 .cases h6;exact zk<|NX h
 .cases h6;exact zk<|⟨ep,h1,by exact AA h2<|AA (show es=#[]from ī.toList_inj.mp h3) Ä⟩
theorem Ee{prog:ō}{w:World}{K:Type}[þ K](knd:KeyKind prog w K){o:ġ}(h:BM (λep=>o.ExactDict) λep=>o.data=.dict #[] ep):o.IsDictOf knd []:=by obtain⟨ep,h1,h2⟩:=h;exact⟨#[],ep,h1,h2,λe he=>â he<|by simp,.nil,Ŏ⟩
theorem Dd.zS(h:Dd B W o l)(hk:l=[]\/RE λx v r=>l=(.str x,v)::r):BM (λkvs=>o.IsDictOf (strKind B.prog B.w) kvs) λkvs=>OI W l kvs:=by
 rcases hk with rfl|⟨x,v,r,rfl⟩;.exact ⟨[],Ee _<|Da h,.nil⟩
 .exact h.elim id λh=>h.elim (λh=>by obtain⟨_,_,⟨⟩⟩:=h) λh=>by obtain⟨_,_,⟨⟩⟩:=h
theorem Dd.xV(h:Dd B W o l)(hk:l=[]\/RE λx v r=>l=(.int x,v)::r):BM (λkvs=>o.IsDictOf (intKind B.prog B.w) kvs) λkvs=>OJ W l kvs:=by
 rcases hk with rfl|⟨x,v,r,rfl⟩;.exact ⟨[],Ee _<|Da h,.nil⟩
 .exact h.elim (λh=>by obtain⟨_,_,⟨⟩⟩:=h) λh=>h.elim id λh=>by obtain⟨_,_,⟨⟩⟩:=h
theorem Dd.vG(h:Dd B W o l)(hk:l=[]\/RE λx v r=>l=(.D! [.str x,.none],v)::r):BM (λxs=>OC B o xs) λxs=>Ju W l xs:=by
 rcases hk with rfl|⟨x,v,r,rfl⟩;.obtain ⟨ep,h1,h2⟩:=Da h;exact⟨[],⟨#[],ep,h1,h2,Ä,Ŏ⟩,.nil⟩
 .exact h.elim (λh=>by obtain⟨_,_,⟨⟩⟩:=h) λh=>h.elim (λh=>by obtain⟨_,_,⟨⟩⟩:=h) id
inductive G6(l:Á<|V×V):V->Prop|s (x:Ï):(l=[]\/RE λy v r=>l=(.str y,v)::r)->G6 l (.str x)|i (x:Í):(l=[]\/RE λy v r=>l=(.int y,v)::r)->G6 l (.int x)|t (x:Ï):(l=[]\/RE λy v r=>l=(.D! [.str y,.none],v)::r)->G6 l (.D! [.str x,.none])
theorem X1{x:Ï}(h:G6 l<|.D! [.str x,.none]):l=[]\/RE λy v r=>l=(.D! [.str y,.none],v)::r:=by cases h with|t y e=>exact e
theorem Dp{x:Ï}(h:DA v=À x):v=.D! [.str x,.none]:=by
 rcases v with _|_|_|_|(_|⟨a,_|⟨b,_|_⟩⟩)|_|_;case D!.cons.cons.nil=>cases a with
  |str y=>cases b with|none=>exact AP (Ak h) Ä|_=>exact AY h
  |_=>exact AY h
 case D!.cons.nil=>cases a<;>exact AY h
 case D!.cons.cons.cons=>cases a<;>first|exact AY h|(cases b<;>exact AY h)
 all_goals exact AY h
theorem Ox{α β γ:Type}{f:α->β->γ}{x:Ã α}{y:Ã β}(h:(R6 f x y).isSome=Å):∃a b,x=À a/\y=À b:=by
 rcases x with _|a;.exact CN h
 .rcases y with _|b;.exact CN h
  .exact ⟨a,b,Ä,Ä⟩
theorem FM{A B:Prop}(h:(R6 (λx y:Ï=>Ê<|x=y) (DA a)<|DA k).isSome=Å):A\/B\/Hb (λx y=>a=.D! [.str x,.none]) λx y=>k=.D! [.str y,.none]:=by obtain⟨x,y,e1,e2⟩:=Ox h;exact .inr<|.inr ⟨x,y,Dp e1,Dp e2⟩
theorem VD(h:(ME a k).isSome=Å):(Hb (λx y=>a=.str x) λx y=>k=.str y)\/(Hb (λx y=>a=.int x) λx y=>k=.int y)\/Hb (λx y=>a=.D! [.str x,.none]) λx y=>k=.D! [.str y,.none]:=by
 rcases a with _|_|x|x|_|_|_;.exact FM h
 .exact FM h
 .rcases k with _|_|y|_|_|_|_<;>first|exact CN h|exact .inr<|.inl ⟨x,y,Ä,Ä⟩
 .rcases k with _|_|_|y|_|_|_<;>first|exact CN h|exact .inl ⟨x,y,Ä,Ä⟩
 .exact FM h
 .exact FM h
 .exact FM h
theorem I5(h:match l with|[]=>M8 k=Å|(a,_)::_=>(ME a k).isSome=Å):G6 l k:=by
 rcases l with _|⟨p,r⟩
 .rcases VD h with⟨x,y,_,rfl⟩|⟨x,y,_,rfl⟩|⟨x,y,_,rfl⟩;.exact .s y<|.inl Ä
  .exact .i y<|.inl Ä
  .exact .t y<|.inl Ä
 .obtain ⟨a,v⟩:=p;rcases VD h with⟨x,y,rfl,rfl⟩|⟨x,y,rfl,rfl⟩|⟨x,y,rfl,rfl⟩;.exact .s y<|.inr ⟨_,_,_,Ä⟩
  .exact .i y<|.inr ⟨_,_,_,Ä⟩
  .exact .t y<|.inr ⟨_,_,_,Ä⟩
theorem I2{α:Type}{o:Ã Ë}{t f:Ã α}{c:α}(h:Wm o t f È=À c):o.isSome=Å:=by
 rcases o with _|b;.exact AY h
 .rfl
theorem I6{α:Type}{b:Ë}{x:Ã α}{r:α}(h:(if b=Å then x else È)=À r):b=Å:=by
 rcases b with _|_;.exact AY h
 .rfl
theorem GF(h:AW k l=À r):G6 l k:=I5<|by
 rcases l with _|⟨p,q⟩;.exact I6 h
 .exact I2 h
theorem Ro(h:CF k v l=À r):G6 l k:=I5<|by
 rcases l with _|⟨p,q⟩;.exact I6 h
 .exact I2 h
theorem PX(h:B7 k l=À r):G6 l k:=I5<|by
 rcases l with _|⟨p,q⟩;.exact AY h
 .exact I2 h
theorem Te{x:Ï}(h:VR W (.str x) w):BM (λt=>w=.str x t) λt=>(ĸ x).canLay0=Å:=by cases h with|str y t hc=>exact⟨t,Ä,hc⟩
theorem Py{x:Ï}(h:VR W (.D! [.str x,.none]) w):H5 (λa t=>w=.ref a) (λa t=>W.mG a=À [.str x t,.none]) λa t=>(ĸ x).canLay0=Å:=by x_go;cases h with|D! ht hv=>cases hv with|cons a b=>cases b with|cons c d=>cases d;obtain⟨t,rfl,hc⟩:=Te a;cases c;exact zk<|⟨_,t,Ä,ht,hc⟩
inductive DV(B:DC)(W:Wd)(o:ġ)(l:Á<|V×V):V->PV->Prop|s (y:Ï) (tk:Tok) (kvs:Á<|Ï×PV) (h1:o.IsDictOf (strKind B.prog B.w) kvs) (h2:OI W l kvs):DV B W o l (.str y)<|.str y tk|i (y:Í) (tk:Tok) (kvs:Á<|Í×PV) (h1:o.IsDictOf (intKind B.prog B.w) kvs) (h2:OJ W l kvs):DV B W o l (.int y)<|.int y tk|t (y:Ï) (b:Û) (tk:Tok) (xs:Á<|Á (Ã Ï)×Û×PV) (ht:W.mG b=À [.str y tk,.none]) (hc:(ĸ y).canLay0=Å) (h1:OC B o xs) (h2:Ju W l xs):DV B W o l (.D! [.str y,.none])<|.ref b
theorem Qs(hk:VR W k kw)(hd:Dd B W o l)(e:G6 l k):DV B W o l k kw:=by induction e with|s y e=>obtain⟨tk,rfl,_⟩:=Te hk;obtain⟨kvs,h1,h2⟩:=hd.zS e;exact .s y tk kvs h1 h2|i y e=>obtain⟨tk,rfl⟩:=BY hk;obtain⟨kvs,h1,h2⟩:=hd.xV e;exact .i y tk kvs h1 h2|t y e=>obtain⟨b,tk,rfl,ht,hc⟩:=Py hk;obtain⟨xs,h1,h2⟩:=hd.vG e;exact .t y b tk xs ht hc h1 h2
end
section
theorem BW.turn(x:BW cx W s t h₀ led m){k:Ç}(ha:s.h a=À c!)(n4:(∀l,c!≠.dict l)\/a∉s.lk)(m1:(d,o)∈led)(hd:d=W.ad a\/d=W.dx a)(hs:ŏ d t.heap h')(nY:h'.get? d=À o')(hc:∀F!,(d,o')∈F!->(∀p∈led,p.1≠d->p∈F!)->De cx.B W F! a c'):RR cx W (s.B_ a c') {t with heap:=h',toks:=k}:=by x_go;obtain⟨F!,U,e1,e2,e3⟩:=Du x.R.nd m1 o';have hz:=x.N _ m1;exact zk<|x.update (k:=k) ha hd e1 e3 (hc _ e2 e3) (x.F.change hs hz.2.1 hz.2.2) (GT U x.N hz.2 hs nY) n4
theorem BW.oj(G:cx.Gl)(oH:∃o,cx.B.base.get? Ő=À o)(x:BW cx W s t h₀ led m)(h:(d,o)∈led):(d==Ő)=Æ:=ZR λe=>by obtain⟨q,hq⟩:=oH;have:=x.G.stays _ _ hq;rw[<-e,(x.N _ h).2.2]at this;exact AY this
theorem Ju.vt{xs:Á<|Á (Ã Ï)×Û×PV}(x:BW cx W s t h₀ led m)(h:Ju W l xs):∀y∈xs,(Aq cx.B.prog cx.B.w).is t.heap y.1 y.2.1:=by induction h with|nil=>intro y hy;cases hy|cons a _ _ _ ih=>
  intro y hy;rcases Bt hy with rfl|hy;.exact Fi<|x.nK a
  .exact ih y hy
theorem BW.U_(x:BW cx W s t h₀ led m){xs:Á<|Á (Ã Ï)×Û×PV}(h:(d,o)∈led)(hd:OC cx.B o xs)(hk:Ju W l xs):t.heap.DictOfH (Aq cx.B.prog cx.B.w) d xs:=by obtain⟨es,ep,h1,h2,h3,h4⟩:=hd;exact⟨o,es,ep,(x.N _ h).1,h1,h2,h3,hk.vt x,h4⟩
theorem BW.tab(x:BW cx W s t h₀ led m){d:Û}{o:ġ}{K:Type}[þ K]{knd:KeyKind cx.B.prog cx.B.w K}{kvs:Á<|K×PV}(h:(d,o)∈led)(hd:o.IsDictOf knd kvs):t.heap.DictOf knd d kvs:=ç.dictOf_iff.mpr ⟨o,(x.N _ h).1,hd⟩
inductive k6{prog:ō}{w:World}{K:Type}[þ K](knd:HeapKind prog w K)(h:ç)(d:Û)(xs:Á<|K×Û×PV):Prop|mk (o:ġ) (es:ī Ğ) (ep:_) (ho:h.get? d=À o) (g1:o.ExactDict) (g2:o.data=.dict es ep) (g3:es.toList=xs.map (entryOfKey knd)) (g4:∀y∈xs,knd.is h y.1 y.2.1) (g5:(xs.map (·.1)).Nodup):k6 knd h d xs
theorem jR{prog:ō}{w:World}{K:Type}[þ K]{knd:HeapKind prog w K}{h:ç}{d:Û}{xs:Á<|K×Û×PV}(x:h.DictOfH knd d xs):k6 knd h d xs:=by obtain⟨o,es,ep,h1,h2,h3,h4,h5,h6⟩:=x;exact⟨o,es,ep,h1,h2,h3,h4,h5,h6⟩
theorem I1(r:RR cx W s t){a:Ad}{l:Á<|V×V}{k v:V}{kw:PV}{Q:PV->Ó->Prop}(hu:A.units+64<cLine)(ha:s.h a=À (.dict l))(hk:VR W k kw)(hf:AW k l=À (À v))(h:∀w tk,VR W v w->Q w {t with toks:=tk}):wpAny cx.M A (getItem (.ref<|W.ad a) kw) Q E t:=by x_go;obtain⟨h₀,led,m,x⟩:=r;obtain⟨o,m1,hd,hz⟩:=x.R.cells a _ ha;induction Qs hk hd<|GF hf with|s y tk kvs h1 h2=>obtain⟨w,h3,h4⟩:=Vr h2 hf;exact zk<|wpAny_getItem_of (knd:=strKind cx.B.prog cx.B.w) (k:=y) (Ċ y) (x.tab m1 h1).mapOf h3<|h w _ h4|i y tk kvs h1 h2=>obtain⟨w,h3,h4⟩:=Vs h2 hf;exact zk<|wpAny_getItem_of (knd:=intKind cx.B.prog cx.B.w) (k:=y) (by simp[intKind,Ź]) (x.tab m1 h1).mapOf h3<|h w _ h4|t y b tk xs ht hc h1 h2=>obtain⟨c,w,h3,h4⟩:=Vq h2 hf;exact zk<|wpAny_getItem_heap (knd:=Aq cx.B.prog cx.B.w) (k:=[À y,È]) (ť<|GK hu<|by decide) (Fi<|x.nK ht) (x.U_ m1 h1 h2) h3<|h w _ h4
theorem KT(G:cx.Gl)(oH:∃o,cx.B.base.get? Ő=À o)(r:RR cx W s t){a:Ad}{l:Á<|V×V}{k:V}{f:Ã V}{kw:PV}{Q:PV->Ó->Prop}(hu:A.units+64<cLine)(ha:s.h a=À (.dict l))(hk:VR W k kw)(hf:AW k l=À f)(h:∀tk,Q (.bool f.isSome) {t with toks:=tk}):wpAny cx.M A (Ľ .In kw<|.ref<|W.ad a) Q E t:=by x_go;obtain⟨h₀,led,m,x⟩:=r;obtain⟨o,m1,hd,hz⟩:=x.R.cells a _ ha;have lo:=x.oj G oH m1;induction Qs hk hd<|GF hf with
 |s y tk kvs h1 h2=>
  have h3:=Vr h2 hf;refine zk<|wpAny_in_of (knd:=strKind cx.B.prog cx.B.w) (k:=y) (Ċ y) lo (x.tab m1 h1).mapOf ?_;x_go;rcases f with _|v;.exact zk<|AA h3<|h _
  .refine zk ?_;obtain⟨w,h3,_⟩:=h3;exact AA h3<|h _|i y tk kvs h1 h2=>
  have h3:=Vs h2 hf;refine zk<|wpAny_in_of (knd:=intKind cx.B.prog cx.B.w) (k:=y) (by simp[intKind,Ź]) lo (x.tab m1 h1).mapOf ?_;x_go;rcases f with _|v;.exact zk<|AA h3<|h _
  .refine zk ?_;obtain⟨w,h3,_⟩:=h3;exact AA h3<|h _|t y b tk xs ht hc h1 h2=>
  have h3:=Vq h2 hf;refine zk<|wpAny_in_heap (knd:=Aq cx.B.prog cx.B.w) (k:=[À y,È]) (ť<|GK hu<|by decide) (Fi<|x.nK ht) lo (x.U_ m1 h1 h2) ?_;x_go;rcases f with _|v;.exact zk<|AA h3<|h _
  .refine zk ?_;obtain⟨c,w,h3,_⟩:=h3;exact AA h3<|h _
theorem Mm{K:Type}[þ K]{prog:ō}{w:World}{knd:KeyKind prog w K}{o:ġ}{kvs:Á<|K×PV}(h:o.IsDictOf knd kvs):(kvs.map (·.1)).Nodup:=by obtain⟨_,_,_,_,_,_,h⟩:=h;exact h
theorem LS{n k:Ç}(h:n<G_)(e:k<=n+1):k<=B8:=Ñ e<|Ñ h<|by decide
theorem Iv{n k:Ç}(h:n<G_)(e:k=n):k<=sizeLine:=AA e<|Ñ (Ą h)<|AA Ĳ<|by decide
theorem Iz(r:RR cx W s t){a:Ad}{l l':Á<|V×V}{k v:V}{kw w:PV}{Q:Η->Ó->Prop}(hu:A.units+64<cLine)(ha:s.h a=À (.dict l))(hk:VR W k kw)(hv:VR W v w)(hf:CF k v l=À l')(hz:l.length<G_)(pg:a∉s.lk)(h:∀t',RR cx W (s.B_ a<|.dict l') t'->Q () t'):wpAny cx.M A (setItem (.ref<|W.ad a) kw w) Q E t:=by x_go;obtain⟨h₀,led,m,x⟩:=r;obtain⟨o,m1,hd,_⟩:=x.R.cells a _ ha;induction Qs hk hd<|Ro hf with|s y tk kvs h1 h2=>obtain⟨h3,h4⟩:=iV hv h2 (Mm h1) hf;refine zk<|wpAny_setItem_pairs (knd:=strKind cx.B.prog cx.B.w) (k:=y) (hsz:=Iv hz h2.length) (Ċ y) (x.tab m1 h1) λh' hm hs=>?_;x_go;obtain⟨o',nY,nP⟩:=ç.dictOf_iff.mp hm;exact zk<|h _<|x.turn ha (.inr pg) m1 (.inl Ä) hs nY λF! n1 n2=>⟨o',n1,.inl ⟨_,nP,h3⟩,LS hz h4⟩|i y tk kvs h1 h2=>obtain⟨h3,h4⟩:=iW hv h2 (Mm h1) hf;refine zk<|wpAny_setItem_pairs (knd:=intKind cx.B.prog cx.B.w) (k:=y) (hsz:=Iv hz h2.length) (by simp[intKind,Ź]) (x.tab m1 h1) λh' hm hs=>?_;x_go;obtain⟨o',nY,nP⟩:=ç.dictOf_iff.mp hm;exact zk<|h _<|x.turn ha (.inr pg) m1 (.inl Ä) hs nY λF! n1 n2=>⟨o',n1,.inr<|.inl ⟨_,nP,h3⟩,LS hz h4⟩|t y b tk xs ht hc h1 h2=>
  refine zk ?_;have nd:(xs.map (·.1)).Nodup:=by obtain⟨_,_,_,_,_,q⟩:=h1;exact q
  x_go;obtain⟨h3,h4⟩:=iU ht hc hv h2 nd hf;refine zk<|wpAny_setItem_heap (knd:=Aq cx.B.prog cx.B.w) (k:=[À y,È]) (hsz:=Iv hz h2.length) (ť<|GK hu<|by decide) (Fi<|x.nK ht) (x.U_ m1 h1 h2) λh' hm hs=>?_;x_go;obtain⟨o',es,ep,nY,g1,g2,g3,g4,g5⟩:=jR hm;exact zk<|h _<|x.turn ha (.inr pg) m1 (.inl Ä) hs nY λF! n1 n2=>⟨o',n1,.inr<|.inr ⟨_,⟨es,ep,g1,g2,g3,g5⟩,h3⟩,LS hz h4⟩
end
section
theorem PH(G:cx.Gl)(oH:∃o,cx.B.base.get? Ő=À o)(r:RR cx W s t)(hu:A.units+64<cLine)(ha:s.h a=À (.dict l))(hk:VR W k kw)(hd:VR W d dw)(hf:AW k l=À f) (h:∀w tk,VR W (f.getD d) w->Q w {t with toks:=tk}):wpAny cx.M A (call (.builtin "dict.get") [.ref<|W.ad a,kw,dw]) Q E t:=by x_go;obtain⟨h₀,led,m,x⟩:=r;obtain⟨o,m1,oV,hz⟩:=x.R.cells a _ ha;have lo:=x.oj G oH m1;induction Qs hk oV<|GF hf with
 |s y tk kvs h1 h2=>
  have h3:=Vr h2 hf;refine zk<|ž F.slot_dict_get (x.tab m1 h1).typeIs F.entry_dict_get (F.args_dict_get_3 _ _ _) (meets_dict_get_default (strKind cx.B.prog cx.B.w) _ (k:=y) (key:=.str y tk) (show Ă.isStrOf y (.str y tk)=Å from Ċ y) lo dw) ⟨_,(x.tab m1 h1).mapOf,?_⟩;x_go;rcases f with _|v;.exact zk<|AA h3<|h _ _ hd
  .refine zk ?_;obtain⟨w,h3,h4⟩:=h3;exact AA h3<|h _ _ h4|i y tk kvs h1 h2=>
  have h3:=Vs h2 hf;refine zk<|ž F.slot_dict_get (x.tab m1 h1).typeIs F.entry_dict_get (F.args_dict_get_3 _ _ _) (meets_dict_get_default (intKind cx.B.prog cx.B.w) _ (k:=y) (key:=.int y tk) (by simp[intKind,Ź]) lo dw) ⟨_,(x.tab m1 h1).mapOf,?_⟩;x_go;rcases f with _|v;.exact zk<|AA h3<|h _ _ hd
  .refine zk ?_;obtain⟨w,h3,h4⟩:=h3;exact AA h3<|h _ _ h4|t y b tk xs ht hc h1 h2=>
  have h3:=Vq h2 hf;have hD:=x.U_ m1 h1 h2;refine zk<|ž F.slot_dict_get hD.typeIs F.entry_dict_get (F.args_dict_get_3 _ _ _) (meetsH_dict_get_default (Aq cx.B.prog cx.B.w) _ b lo dw) ⟨ť<|GK hu<|by decide,[À y,È],xs,Fi<|x.nK ht,hD,?_⟩;x_go;rcases f with _|v;.exact zk<|AA h3<|h _ _ hd
  .refine zk ?_;obtain⟨c,w,h3,h4⟩:=h3;exact AA h3<|h _ _ h4
theorem LV(r:RR cx W s t)(ha:s.h a=À (.dict []))(pg:a∉s.lk)(h:∀t',RR cx W s t'->Q .none t'):wpAny cx.M A (call (.builtin "dict.clear") [.ref<|W.ad a]) Q E t:=by
 x_go;obtain⟨h₀,led,m,x⟩:=r;obtain⟨o,m1,hd,_⟩:=x.R.cells a _ ha;have h1:=Ee (strKind cx.B.prog cx.B.w)<|Da hd;refine zk<|ž F.slot_dict_clear (x.tab m1 h1).typeIs F.entry_dict_clear (F.args_dict_clear_1 _) (meets_dict_clear (strKind cx.B.prog cx.B.w) _) ⟨[],x.tab m1 h1,è _,λh' hm hs=>?_⟩;x_go;obtain⟨o',nY,nP⟩:=ç.dictOf_iff.mp hm;have:=x.turn (k:=t.toks) (c':=.dict []) ha (.inr pg) m1 (.inl Ä) hs nY λF! n1 n2=>⟨o',n1,.inl ⟨_,nP,.nil⟩,è _⟩;have e:s.B_ a (.dict [])=s:=by
  unfold S.B_;have:Dj s.h a (.dict [])=s.h:=by
   funext b;unfold Dj;by_cases q:b=a;.subst q;exact AA (Î Ä)<|AA ha Ä
   .exact AA (Ì q) Ä
  exact AA this Ä
 rw[e]at this;exact zk<|h _ this
theorem Jo{α β:Type}(f:α->β)(l:Á α):∀i:Ç,(l.map f).eraseIdx i=(l.eraseIdx i).map f:=by induction l with|nil=>exact λZ=>Ä|cons a r ih=>exact λi=>by induction i using ĉ with|zero=>rfl|succ i=>exact Â (f a::·)<|ih i
theorem K3{xs:Á<|Á (Ã Ï)×Û×PV}{k:Á<|Ã Ï}{j:Ç}(hu:(Aq prog w).room A)(t9:(Aq prog w).is t.heap k a)(hm:t.heap.DictOfH (Aq prog w) d xs) (hj:xs[j]?=À (k,p)) (hz:xs.length<=sizeLine)(h:∀h' o' rP uL,h'.get? d=À o'->o'.ExactDict->o'.data=.dict rP uL->rP.toList=(xs.eraseIdx j).map (entryOfKey<|Aq prog w)->ŏ d t.heap h'->Q (À<|entryOfKey (Aq prog w) (k,p)) {t with heap:=h',toks:=t.toks+(Aq prog w).draws k}):wpAny (model prog w) A (υ d<|.ref a) Q E t:=by
 x_go;obtain⟨o,es,ep,ho,hc,hd,he,vt,hn⟩:=jR hm;refine zk ?_;have yc:es.size<=sizeLine:=by exact AA (size_of_entries he) hz
 unfold υ;try with_reducible refine í ?_
 refine É<|(Aq prog w).pyHash hu t9 ?_;refine É<|wpAny_dictFind_heap (s:={t with toks:=t.toks+(Aq prog w).draws k}) hu t9 ho hd he vt hn (λpD=>â hj<|pD j p) λi q hi=>?_;have yX:=idxH_unique hn hi hj;subst yX;have yM:q=p:=by rw[hj]at hi;cases hi;rfl
 subst yM;refine É<|ū (s:={t with toks:=t.toks+(Aq prog w).draws k}) ho hd ?_;have yd:es[i]?=À (entryOfKey (Aq prog w) (k,q)):=by exact AA (entry_at he i)<|AA hj Ä
 refine AA yd<|É<|wpAny_updateDictKeys (hz:=yc) (s:={t with toks:=t.toks+(Aq prog w).draws k}) ho hd<|Ô<|h _ _ _ _ (Ĝ _ ho<|ġ.isFreed_of_dict<|ġ.data_mapDictKeys hd _) (hc.mapDictKeys _) (ġ.data_mapDictKeys hd _) ?_<|ĝ ..;have pE:i<es.size:=by
  refine AA (size_of_entries he) ?_;rcases Ç.lt_or_ge i xs.length with h'|h';.exact h'
  .rw[Ŷ h']at hj;cases hj
 simp only[ī.eraseIdxIfInBounds,pE,dif_pos,ī.toList_eraseIdx,he];exact Jo _ _ _
theorem V5(e:ME a k=À Å):B7 k ((a,w)::r)=À r:=Â (λo=>Wm o (À r) ((B7 k r).map ((a,w)::·)) È) e
theorem Sm(e:ME a k=À Æ):B7 k ((a,w)::r)=(B7 k r).map ((a,w)::·):=Â (λo=>Wm o (À r) ((B7 k r).map ((a,w)::·)) È) e
theorem fi{x:Ï}{xs:Á<|Á (Ã Ï)×Û×PV}(z:Ju W l xs):∀{l':Á<|V×V},B7 (.D! [.str x,.none]) l=À l'->cS (λj c w v=>xs[j]?=À ([À x,È],c,w)) (λj c w v=>Ju W l'<|xs.eraseIdx j) (λj c w v=>AW (.D! [.str x,.none]) l=À (À v)) (λj c w v=>VR W v w) λj c w v=>l'.length<=l.length:=by induction z with|nil=>exact λh=>AY h|@cons y t c v w l xs ht hc a b ih=>
  intro l' h;by_cases e:y=x;.subst e;obtain rfl:=Ak<|(V5 gh).symm.trans h;exact⟨0,c,w,v,Ä,b,Gv gh,a,Ģ _⟩
  .x_go;obtain⟨q,hq,rfl⟩:=OG<|(Sm<|gi e).symm.trans h;obtain⟨j,c',w',v',h1,h2,h3,h4,h5⟩:=ih hq;exact zk ⟨j+1,c',w',v',h1,.cons ht hc a h2,(Ff<|gi e).trans h3,h4,ú h5⟩
theorem PF(r:RR cx W s t){x:Ï}(hu:A.units+64<cLine)(ha:s.h a=À (.dict l))(hk:VR W (.D! [.str x,.none]) kw)(hf:AW (.D! [.str x,.none]) l=À (À v)) (hd:B7 (.D! [.str x,.none]) l=À l') (pg:a∉s.lk)(h:∀w t',RR cx W (s.B_ a<|.dict l') t'->VR W v w->Q w t'):wpAny cx.M A (call (.builtin "dict.pop") [.ref<|W.ad a,kw,dw]) Q E t:=by
 x_go;obtain⟨h₀,led,m,z⟩:=r;obtain⟨o,m1,oV,hz⟩:=z.R.cells a _ ha;obtain⟨b,tk,rfl,ht,hc⟩:=Py hk;obtain⟨xs,h1,h2⟩:=oV.vG<|X1<|PX hd;have hD:=z.U_ m1 h1 h2;obtain⟨j,c,w,v',g1,g2,g3,g4,g5⟩:=fi h2 hd;rw[hf]at g3;cases g3;refine zk ?_;have nd:(xs.map (·.1)).Nodup:=by obtain⟨_,_,_,_,_,q⟩:=h1;exact q
 refine ž F.slot_dict_pop hD.typeIs F.entry_dict_pop (F.args_dict_pop_3 _ _ _) (S:=λA R s'=>s'=t/\A.units+1<cLine/\∀w t',RR cx W (s.B_ a<|.dict l') t'->VR W v w->R (.ok<|.ret w) t') (.of_wp λA' R s' hh=>?_) ⟨Ä,GK hu<|by decide,λw t' a b=>h w t' a b⟩;obtain⟨e,rG,hr⟩:=hh;subst e;unfold Builtin.«dict.pop»;refine É ?_;unfold ŗ.Dict.keyAndDefault;refine É<|wpAny_notOrdered_dict hD.typeIs ?_;show wpAny _ _ (pure (W.ad a,(ă b:PV),À dw)) _ _ _;refine Ô ?_;x_go;obtain⟨oo,es,ep,ho,q1,q2,q3,q4,q5⟩:=jR hD;have nO:es.isEmpty=Æ:=by
  have e1:=size_of_entries q3;have:xs≠[]:=λe=>by rw[e]at g1;exact AY g1
  x_go;rcases xs with _|⟨p,r⟩;.exact â Ä this
  .refine zk ?_;simp[ī.isEmpty,e1]
 have yU:(keyPart<|ă b).isSome=Æ:=Ä;refine zk ?_;simp-iota only[yU,ć,Ŧ];refine É<|ū ho q2<|É<|Ô ?_;simp-iota only[nO,ć,Ŧ];refine É<|K3 (by exact rG) (Fi<|z.nK ht) hD g1 (by exact AA h2.length<|Yy hz) λh' o' rP uL k1 k2 k3 k4 k5=>?_;simp only[Ã.isNone_some,ć,Ŧ];refine É<|wpAny_letGo<|Ô ⟨w,Ä,?_⟩;refine hr w _ (z.turn ha (.inr pg) m1 (.inl Ä) k5 k1 λF! n1 n2=>⟨o',n1,.inr<|.inr ⟨_,⟨rP,uL,k2,k3,k4,?_⟩,g2⟩,Ñ g5 hz⟩) g4;exact((Á.eraseIdx_sublist xs j).map _).nodup nd
end
theorem Ml(h:wpAny M A (Ľ .In u v) (λr s'=>BM (λb=>r=.bool b) λb=>Q (.bool<|!b) s') E s):wpAny M A (Ľ .NotIn u v) Q E s:=λΓ p x9=>by have h1:=h Γ p x9;have e1:Ľ .In u v=(do return .bool<|<-contains v u):=Ä;have e2:Ľ .NotIn u v=do return .bool<|!(<-contains v u):=Ä;rw[e1,Sem.wp_bind']at h1;refine AA (e2 ..)<|AA (Sem.wp_bind' ..)<|Sem.wp_mono M Γ _ (λb p' s' h'=>?_) (λZ Z Z h'=>h') _ _ h1;rw[Sem.wp_pure']at h'⊢;obtain⟨c,hc,hq⟩:=h';cases hc;exact hq
section
variable (RX:Cx->Wd->S->V->PV->Ó->Prop)
theorem AZ.le{α β:Type}(le:W.Le W'){X:AN α}{R:Wd->α->β->Prop}{Q:β->Ó->Prop}(h:AZ RX cx W X R Q E):AZ RX cx W' X R Q E:=by induction X with|ok v s'=>exact λqC w t' l r hv=>h qC w t' (le.trans l) r hv|exc v s'=>exact λqC w t' l r=>h qC w t' (le.trans l) r|C_=>exact h
theorem AZ.step{α β γ δ:Type}{X:AN α}{f:α->S->AN γ}{R:Wd->γ->δ->Prop}{R1:Wd->α->β->Prop}{Q:δ->Ó->Prop}{Q1:β->Ó->Prop}(h:AZ RX cx W (X.bind f) R Q E)(k:∀v s' W1 w t',X=.ok v s'->W.Le W1->RR cx W1 s' t'->R1 W1 v w->AZ RX cx W1 (f v s') R Q E->Q1 w t'):AZ RX cx W X R1 Q1 E:=by induction X with|ok v s'=>exact λW1 w t' le r hv=>k v s' W1 w t' Ä le r hv<|AZ.le RX le h|exc v s'=>exact λW1 w t' le r=>h W1 w t' le r|C_=>exact h
theorem AZ.ok{α β:Type}{v:α}{R:Wd->α->β->Prop}{Q:β->Ó->Prop}(h:AZ RX cx W (.ok v s') R Q E){w:β}(r:RR cx W s' t')(hv:R W v w):Q w t':=h W w t' (.refl W) r hv
theorem AZ.q9{α β:Type}{v:α}{R:Wd->α->β->Prop}{Q:β->Ó->Prop}(h:AZ RX cx W (.ok v s') R Q E)(le:W.Le W'){w:β}(r:RR cx W' s' t')(hv:R W' v w):Q w t':=h W' w t' le r hv
end
def HW:Á (Ï×PV):=[("len",.builtin "len"),("max",.builtin "max"),("min",.builtin "min"),("sorted",.builtin "sorted"),("list",.type "list"),("range",.type "range"),("Exception",.type "Exception")]
structure Ao(cx:Cx)(A_:Ï->Ã V)(k:Ç)(W:Wd)(env:BJ)(C?:Ů)(A:ĕ):Prop where
 G:cx.Gl
 c?:∃o,cx.B.base.get? Ő=À o
 n3:cx.B.base.IsList W.n3 W.m7.toArray/\W.m7.length<=B8
 e:Fz cx A_ W env C?
 a:k8 cx A k
 names:∀x kd,env.scope.names.lookup x=À kd->Bz x=Å
 int:interactive C?=Æ
 blt:∀p∈HW,cx.mg p.1=È/\cx.mb p.1=À p.2
 e_:∀x,Ed env.scope x=Å->env.kind x=À .local->∃q∈cx.B.tabs,C?.code=.ref q.1/\C?.qual++x=q.2.2
 j_:cx.cmp=È->A.frames=À (C?::cx.outer)
theorem Ao.C!{k:Ç}(le:W.Le W')(h:Ao cx A_ k W env C? A):Ao cx A_ k W' env C? A:=⟨h.G,h.c?,by exact AA le.n3<|AA le.m7 h.n3,h.e.C! le,h.a,h.names,h.int,h.blt,h.e_,h.j_⟩
theorem Ao.qo{k:Ç}(h:Ao cx A_ k W env C? A):A.units+64<cLine:=dq h.a.units<|by decide
theorem Ba{x:Ï}(h:Bz x=Å):(x==("__debug__":Ï))=Æ:=by unfold Bz at h;simp only[ù,Ĕ]at h;exact h.1.1
theorem KH{x:Ï}(h:Bz x=Å):(x==("__classdict__":Ï))=Æ:=by unfold Bz at h;simp only[ù,Ĕ]at h;exact h.1.2
section
variable{k:Ç}
theorem Ow{β:Type}{R:Wd->V->β->Prop}{Q:β->Ó->Prop}(h:AZ RX cx W (C8 o s) R Q E):BM (λv=>o=À v) λv=>∀{w t},RR cx W s t->R W v w->Q w t:=by
 rcases o with _|v;.exact h.elim
 .exact ⟨v,Ä,λr hv=>h W _ _ (.refl W) r hv⟩
theorem Vb(H:Ao cx A_ k W env C? A)(r:RR cx W s t){x:Ï}(hn:Bz x=Å)(h:AZ RX cx W (loadName A_ env x s) VR Q E):wpAny cx.M A (eval (.Name x pos) C?) Q E t:=by obtain⟨_,e,k⟩:=Ow h;exact wpAny_Name (I0 H.G r H.e (KH hn) e λhw=>k r hw)<|Ba hn
end
def Cx.K?(cx:Cx)(a:Û)(o:ġ):Cx:={cx with free:=a::cx.free,D?:=(a,o)::cx.D?}
theorem RL.free(R:RL B f W s led)(h:∀a∈f',a∈f):RL B f' W s led:=by obtain⟨own,o1,o2,o3⟩:=R.own;exact⟨R.nd,R.mM,R.cells,R.mG,R.fresh,⟨own,o1,o2,λa ha=>o3 a<|ha.imp (h a) id⟩,λa ha=>R.my a<|h a ha,λa ha=>R.n6 a<|h a ha,R.oP,R.tab.free h⟩
theorem RL.ph(R:RL B f W s led)(fx:G7 B led a):RL B (a::f) W s ((a,o)::led):=by
 have R1:=R.o! (o:=o) fx;have hx:=fx.1;obtain⟨own,o1,o2,o3⟩:=R.own;refine⟨R1.nd,R1.mM,R1.cells,R1.mG,R1.fresh,⟨λy=>if y=a then È else own y,λb hb=>?_,λx l h=>?_,λy hy=>?_⟩,λy hy=>?_,λy hy=>?_,R1.oP,⟨R1.tab.code,R1.tab.tabs,λy hy hl=>?_,R1.tab.qh,R1.tab.tX⟩⟩;.have n1:W.ad b≠a:=λe=>hx<|AP e<|R.pZ hb;have n2:W.dx b≠a:=λe=>hx<|AP e<|R.oP b hb;exact⟨(Ì n1).trans (o1 b hb).1,(Ì n2).trans (o1 b hb).2⟩
 .by_cases e:x=a;.exact Î e
  .exact (Ì e).trans<|o2 x l h
 .by_cases q:y=a;.exact Î q
  .exact (Ì q).trans<|o3 y<|hy.imp (λe=>(Bt e).resolve_left q) id
 .rcases Bt hy with e|e
  .subst e;generalize q:W.mG y=zc;rcases zc with _|l;.rfl
   .rcases (R.mG y l q).1 with m|m;.exact â (Et ⟨_,m,Ä⟩) hx
    .exact â Ä<|fx.D! m.1
  .exact R.my y e
 .rcases Bt hy with e|e;.subst e;exact .head _
  .exact .tail _<|R.n6 y e
 .rcases Bt hy with e|e;.subst e;exact hx<|R.tab.mem hl
  .exact R.tab.nv y e hl
section
variable{cx:Cx}
theorem BW.K?(x:BW cx W s t h₀ led m){k:Ç}(F:Fr h₀ cx.L h' m)(N:ĵ h₀ cx.L h'<|(a,o)::led)(l:∀p∈led,p.1<a):RR (cx.K? a o) W s {t with heap:=h',toks:=k}/\(∀q∈cx.D?,q.1≠a)/\cx.cmp≠À a:=by
 have fx:=x.pj N l;have hp:∀q∈cx.D?,q.1≠a:=λq hq e=>fx.1<|AP e<|Et ⟨q,(x.D? q hq).1,Ä⟩;have pF:Fm (cx.K? a o) W s.A! ((a,o)::led) m/\cx.cmp≠À a:=by
  rcases x.A! with⟨e,h⟩|⟨C,oC,mC,e,hC,h1,h2,h3⟩;.exact ⟨.no e h,λq=>GO<|q.symm.trans e⟩
  .exact ⟨.co C oC mC e (.tail _ hC) (.tail _ h1) h2 h3,λq=>fx.1<|Et ⟨_,h1,Ak<|e.symm.trans q⟩⟩
 refine⟨⟨h₀,_,m,⟨F,N,⟨x.G.B,x.G.P!⟩,x.R.ph fx,pF.1,λp nF=>?_,x.rest⟩⟩,hp,pF.2⟩;rcases Bt nF with e|e;.subst e;exact⟨.head _,.inl<|.head _,pF.2⟩
 .have:=x.D? p e;exact⟨.tail _ this.1,this.2.1.imp (.tail _) id,this.2.2⟩
theorem RR.tN(hc:cx.cmp≠À a)(r:RR (cx.K? a o) W s t)(hp:∀p∈cx.D?,C5 cx W p)(hf:∀C,cx.cmp=À C->C∈cx.free):RR cx W s t:=by
 obtain⟨h₀,led,m,x⟩:=r;refine⟨h₀,led,m,⟨x.F,x.N,⟨x.G.B,x.G.P!⟩,x.R.free λa ha=>.tail _ ha,?_,λp nF=>⟨(x.D? p<|.tail _ nF).1,hp p nF⟩,x.rest⟩⟩;rcases x.A! with⟨e,h⟩|⟨C,oC,mC,e,hC,h1,h2,h3⟩;.exact .no e h
 .exact .co C oC mC e (hf C e) h1 h2 h3
theorem BW.mw(x:BW cx W s t h₀ led m):(∀p∈cx.D?,C5 cx W p)/\∀C,cx.cmp=À C->C∈cx.free:=by
 refine⟨λp hp=>(x.D? p hp).2,λC hc=>?_⟩;rcases x.A! with⟨e,h⟩|⟨C',oC,mC,e,hC,h1,h2,h3⟩;.exact GO<|hc.symm.trans e
 .exact AP (Ak<|e.symm.trans hc) hC
theorem BW.nU{k:Ç}(x:BW (cx.K? a o) W s t h₀ led m)(hn:∀q∈cx.D?,q.1≠a)(hc:cx.cmp≠À a)(hs:ŏ a t.heap h')(nY:h'.get? a=À o'):RR (cx.K? a o') W s {t with heap:=h',toks:=k}:=by
 have hm:=x.D? (a,o)<|.head _;x_go;obtain⟨F!,U,e1,e2,e3⟩:=Du x.R.nd hm.1 o';have hz:=x.N _ hm.1;refine zk<|⟨h₀,_,m,⟨x.F.change hs hz.2.1 hz.2.2,GT U x.N hz.2 hs nY,⟨x.G.B,x.G.P!⟩,x.R.oZ (.head _) e1 e3,?_,λp hp=>?_,x.rest⟩⟩
 .rcases x.A! with⟨e,h⟩|⟨C,oC,mC,e,hC,h1,h2,h3⟩;.exact .no e h
  .exact .co C oC mC e hC (e3 _ h1 λq=>hc<|e.trans<|Â À q) h2 h3
 .rcases Bt hp with e|e;.subst e;exact⟨e2,.inl<|.head _,hc⟩
  .have:=x.D? p<|.tail _ e;exact⟨e3 _ this.1<|hn p e,this.2.1,this.2.2⟩
theorem RL.W!(R:RL B (a::f) W s led)(rH:a∉f)(hm:(a,o)∈led)(hb:B.base.get? a=È)(hc:∀W',W.Le W'->W'.ad (c.ad s.nx)=a->W'.dx (c.ad s.nx)=a->De B W' led (c.ad s.nx) c):b8 (λW'=>W.Le W') (λW'=>W'.mM<|c.ad s.nx) (λW'=>W'.ad (c.ad s.nx)=a) λW'=>RL B f W' {s with h:=Dj s.h (c.ad s.nx) c,nx:=s.nx+1} led:=by
 have hn:=R.oF<|c.m6 s.nx;have le:=Wd.nX (W:=W) (x:=a) (d:=a) hn;x_go;obtain⟨own,o1,o2,o3⟩:=R.own;have vW:∀b,W.mM b->W.ad b≠a:=λb hb e=>by have:=o3 a<|.inl<|.head _;rw[<-e,(o1 b hb).1]at this;exact GO this
 have uj:∀b,W.mM b->W.dx b≠a:=λb hb e=>by have:=o3 a<|.inl<|.head _;rw[<-e,(o1 b hb).2]at this;exact GO this
 have nT:∀x l,W.mG x=À l->x≠a:=λx l h e=>by rw[e,R.my a<|.head _]at h;exact AY h
 refine zk<|⟨W.nq (c.ad s.nx) a a,le,Wd.oQ,Wd.mi,⟨R.nd,λb=>?_,λb c' nG=>?_,λx l h=>R.mG x l h,λb nG=>?_,⟨λy=>if y=a then À (c.ad s.nx)else own y,λb nG=>?_,λx l h=>?_,λy hy=>?_⟩,λy hy=>R.my y<|.tail _ hy,λy hy=>R.n6 y<|.tail _ hy,λb nG=>?_,R.tab.free λy hy=>.tail _ hy⟩⟩
 .show b=c.ad s.nx\/W.mM b↔(Dj s.h (c.ad s.nx) c b).isSome=Å;unfold Dj;by_cases e:b=c.ad s.nx;.simp[e]
  .simp[e,R.mM b]
 .have n5:Dj s.h (c.ad s.nx) c b=À c':=nG;unfold Dj at n5;by_cases e:b=c.ad s.nx;.subst e;simp at n5;subst n5;exact hc _ le Wd.mi Wd.nA
  .replace n5:=Ì e▸n5;exact(R.cells b c' n5).C! le ((R.mM b).mpr<|by exact AA n5 Ä) λp hp Z=>hp
 .have n5:s.nx+1<=b.num:=nG;show Dj s.h (c.ad s.nx) c b=È;unfold Dj;exact AA (Ì λe=>by rw[e,c.m6]at n5;lia)<|R.fresh b<|by lia
 .by_cases e:b=c.ad s.nx;.subst e;exact AA Wd.mi<|AA Wd.nA ⟨Î Ä,Î Ä⟩
  .have n5:W.mM b:=nG.resolve_left e;exact AA (le.ad b n5)<|AA (le.dx b n5) ⟨(Ì<|vW b n5).trans (o1 b n5).1,(Ì<|uj b n5).trans (o1 b n5).2⟩
 .exact (Ì<|nT x l h).trans<|o2 x l h
 .exact (Ì λe:y=a=>hy.elim (λq=>rH<|AP e q) λq=>R.tab.nv a (.head _)<|AP e q).trans<|o3 y<|hy.imp (.tail _) id
 .by_cases e:b=c.ad s.nx;.subst e;exact AA Wd.nA<|Et ⟨_,hm,Ä⟩
  .have n5:W.mM b:=nG.resolve_left e;exact AA (le.dx b n5)<|R.oP b n5
theorem BW.W!(x:BW (cx.K? a o) W s t h₀ led m)(rH:a∉cx.free)(hp:∀p∈cx.D?,C5 cx W p)(hf:∀C,cx.cmp=À C->C∈cx.free)(hc:∀W',W.Le W'->W'.ad (c.ad s.nx)=a->W'.dx (c.ad s.nx)=a->De cx.B W' led (c.ad s.nx) c):b8 (λW'=>W.Le W') (λW'=>W'.mM<|c.ad s.nx) (λW'=>W'.ad (c.ad s.nx)=a) λW'=>RR cx W' {s with h:=Dj s.h (c.ad s.nx) c,nx:=s.nx+1} t:=by
 have hm:=x.D? (a,o)<|.head _;have hb:cx.B.base.get? a=È:=by
  generalize q:cx.B.base.get? a=zc;rcases zc with _|o';.rfl
  .have:=x.G.stays _ _ q;rw[(x.N _ hm.1).2.2]at this;exact AY this
 obtain⟨W',le,d,e,R'⟩:=x.R.W! rH hm.1 hb hc;refine⟨W',le,d,e,h₀,led,m,⟨x.F,x.N,⟨x.G.B,x.G.P!⟩,R',?_,λp nF=>⟨(x.D? p<|.tail _ nF).1,(hp p nF).C! le⟩,x.rest.1,x.rest.2.1,Pq.alloc x.R (x.R.oF<|c.m6 s.nx) x.rest.2.2⟩⟩;rcases x.A! with⟨e,h⟩|⟨C,oC,mC,e,hC,h1,h2,h3⟩;.exact .no e<|h.C! le
 .exact .co C oC mC e (hf C e) h1 h2<|h3.C! le
end
def Cx.comp(cx:Cx)(C:Û)(m:Ï->Ã PV)(F?:Em):Cx:={cx with cmp:=À C,fm:=m,free:=C::cx.free,D?:=F?++cx.D?}
section
theorem BW.comp(x:BW cx W s t h₀ led m){k:Ç}(hx:DJ cx.cmp led F?)(F:Fr h₀ cx.L h' m)(N:ĵ h₀ cx.L h'<|(C,oC)::led)(l:∀p∈led,p.1<C)(hC:bq oC λZ=>È):RR (cx.comp C m F?) W {s with A!:=λZ=>È} {t with heap:=h',toks:=k}:=by
 have fx:=x.pj N l;have R:=x.R.ph (o:=oC) fx;refine⟨h₀,_,m,⟨F,N,⟨x.G.B,x.G.P!⟩,⟨R.nd,R.mM,R.cells,R.mG,R.fresh,R.own,R.my,R.n6,R.oP,R.tab⟩,?_,λp hp=>?_,x.rest.1,λC' e=>Ä,x.rest.2.2⟩⟩;.exact .co _ oC _ Ä (.head _) (.head _) hC λy v e=>by cases e
 .have nO:∀q∈led,(cx.comp C m F?).cmp≠À q.1:=λq hq e=>by obtain rfl:=Ak e;exact fx.1<|Et ⟨q,hq,Ä⟩
  rcases Hy hp with e|e
  .rcases hx with⟨e',h⟩|⟨C0,o0,hc,h,h2⟩;.exact â (AP h e) ã
   .rcases OF (AP h e)with rfl;exact⟨.tail _ h2,.inl<|.tail _<|x.mw.2 C0 hc,nO _ h2⟩
  .have:=x.D? p e;exact⟨.tail _ this.1,this.2.1.imp (.tail _) id,nO _ this.1⟩
end
theorem RL.drop(R:RL B (a::f) W s led)(rH:a∉f):RL B f W s (led.filter λp=>p.1≠a):=by
 x_go;obtain⟨own,o1,o2,o3⟩:=R.own;have vW:∀b,W.mM b->W.ad b≠a:=λb hb e=>by have:=o3 a<|.inl<|.head _;rw[<-e,(o1 b hb).1]at this;exact GO this
 have uj:∀b,W.mM b->W.dx b≠a:=λb hb e=>by have:=o3 a<|.inl<|.head _;rw[<-e,(o1 b hb).2]at this;exact GO this
 have nT:∀x l,W.mG x=À l->x≠a:=λx l h e=>by rw[e,R.my a<|.head _]at h;exact AY h
 have keep:∀p∈led,p.1≠a->p∈led.filter λp=>p.1≠a:=λp hp h=>Á.mem_filter.mpr ⟨hp,by simpa using h⟩;have sub:∀x,x∈(led.filter λp=>p.1≠a).map (·.1)->x∈led.map (·.1):=λx hx=>by x_go;obtain⟨p,hp,e⟩:=MD hx;exact zk<|Et ⟨p,(Á.mem_filter.mp hp).1,e⟩
 have rj:∀x,x∈led.map (·.1)->x≠a->x∈(led.filter λp=>p.1≠a).map (·.1):=λx hx h=>by x_go;obtain⟨p,hp,e⟩:=MD hx;exact zk<|Et ⟨p,keep p hp<|AA e h,e⟩
 refine zk<|⟨(Á.filter_sublist.map _).nodup R.nd,R.mM,λb c hb=>?_,λx l h=>⟨(R.mG x l h).1.imp (λq=>keep _ q<|nT x l h) λq=>⟨q.1,λz=>q.2<|sub _ z⟩,(R.mG x l h).2⟩,R.fresh,⟨own,o1,o2,λy hy=>o3 y<|hy.imp (.tail _) id⟩,λy hy=>R.my y<|.tail _ hy,λy hy=>rj _ (R.n6 y<|.tail _ hy) λe=>rH<|AP e hy,λb hb=>rj _ (R.oP b hb)<|uj b hb,(R.tab.free λy hy=>.tail _ hy).led λp hp hl=>keep p hp λe=>R.tab.nv a (.head _)<|AP e hl⟩;have hd:W.mM b:=(R.mM b).mpr (by exact AA hb Ä);refine(R.cells b c hb).C! (Wd.Le.refl W) hd λp hp hq=>keep p hp λe=>?_;rcases hq with z|z;.exact vW b hd<|z.symm.trans e
 .exact uj b hd<|z.symm.trans e
section
theorem BW.pV{k:Ç}(x:BW (cx.K? a o) W s t h₀ led m)(hn:∀q∈cx.D?,q.1≠a)(hc:cx.cmp≠À a)(rH:a∉cx.free)(hp:∀p∈cx.D?,C5 cx W p)(hf:∀C,cx.cmp=À C->C∈cx.free)(hs:ç.ExtBut a t.heap h'):RR cx W s {t with heap:=h',toks:=k}:=by
 have hm:=x.D? (a,o)<|.head _;have hz:=x.N _ hm.1;have keep:∀p∈led,p.1≠a->p∈led.filter λp=>p.1≠a:=λp hp h=>Á.mem_filter.mpr ⟨hp,by simpa using h⟩;refine⟨h₀,_,m,⟨⟨?_,λb q hb=>hs _ _ (λe=>?_)<|x.F.keep _ _ hb,x.F.above⟩,λp hp=>?_,⟨x.G.B,x.G.P!⟩,x.R.drop rH,?_,λp nF=>⟨keep p (x.D? p<|.tail _ nF).1<|hn p nF,hp p nF⟩,x.rest⟩⟩;.obtain ⟨oL,es,ep,h1,h2⟩:=x.F.ns;exact⟨oL,es,ep,hs _ _ (λe=>hz.2.1 e.symm) h1,h2⟩
 .rw[e,hz.2.2]at hb;exact AY hb
 .obtain ⟨h1,h2⟩:=Á.mem_filter.mp hp;have:=x.N p h1;exact⟨hs _ _ (by simpa using h2) this.1,this.2⟩
 .rcases x.A! with⟨e,h⟩|⟨C,oC,mC,e,hC,h1,h2,h3⟩;.exact .no e h
  .exact .co C oC mC e (hf C e) (keep _ h1 λq=>hc<|e.trans<|Â À q) h2 h3
end
section
variable{ep i:Ç}
theorem SO(lo:(d==Ő)=Æ)(pf:s.heap.get? d=À od)(hc:od.ExactDict)(oV:od.data=.dict es ep)(hQ:Q (.ref s.heap.objs.size) {s with heap:=s.heap.push {cls:=.type "dict_keyiterator",data:=.fields #[.ref d,.int 0 0,.int es.size 0,.int ep 0]}}):wpAny (model prog w) A (pyIter<|.ref d) Q E s:=by have hT:s.TypeIs (.ref d) "dict":=⟨od,pf,hc.1⟩;refine wpAny_pyIter_slot hT F.slot_dict_iter<|wpAny_call_entry F.slot_dict_iter hT F.entry_dict_iter ?_<|F.args_dict_iter_1 _;refine É<|É<|wpAny_notOrdered_dict hT<|show wpAny _ _ (pure<|ă d) _ _ s from Ô ?_;show wpAny _ _ (ρ d>>=_) _ _ s;unfold ρ;refine AA (Ì<|by exact AA lo ŉ)<|É<|Ô<|É<|ū pf oV<|É<|wpAny_dictEpoch pf oV ?_;exact É<|Ū<|Ô ⟨_,Ä,"dict_keyiterator",_,⟨_,ņ _ Ä,Ä⟩,F.slot_dict_keyiterator_next.lookup,by simpa[Ē]using hQ⟩
theorem KV(hh:A.handled=È)(hit:s.heap.IsKeyIter it d i es.size ep)(pf:s.heap.get? d=À od)(oV:od.data=.dict es ep)(yq:∀e,es[i]?=À e->∀h',h'.IsKeyIter it d (i+1) es.size ep->ŏ it s.heap h'->Q (À e.key) {s with heap:=h'}) (yr:es[i]?=È->∀h',ç.ExtBut it s.heap h'->Q È {s with heap:=h'}):wpAny (model prog w) A (pyNext<|.ref it) Q E s:=by
 x_go;obtain⟨o,ho,hc,hd⟩:=id hit;refine zk ?_;unfold pyNext;refine É<|wpAny_attempt<|wpAny_callSpecial?_slot (name:=Ï.ofString "__next__") hit.typeIs F.slot_dict_keyiterator_next<|wpAny_call_entry F.slot_dict_keyiterator_next hit.typeIs F.entry_dict_keyiterator_next ?_<|F.args_dict_keyiterator_next_1 _;refine É<|Ô<|É<|É ?_;refine É<|Ŝ hit.typeIs<|Ô ?_;refine É<|wpAny_fieldsOf ho hd ?_;refine AA (Ì<|show¬ŗ.Dict_items.ownsTuple "dict_keyiterator"=Å from by decide) ?_;show wpAny _ _ (if(ă d==ļ)=Å then _ else _) _ _ s;refine AA (Ì<|show¬(ă d==ļ)=Å from ŉ)<|É<|Ô<|É<|ū pf oV ?_;refine AA (Ì<|by simp)<|É<|Ô<|É<|wpAny_dictEpoch pf oV ?_;refine AA (Ì<|by simp)<|Ô ?_;dsimp only;refine AA (Ì<|show¬(i:Í)<0 from by omega)<|AA (Í.toNat_natCast ..) ?_;generalize hx:es[i]?=zx;x_go;rcases zx with _|e;.refine zk<|É ?_;refine É<|Ŝ hit.typeIs<|Ô ?_;show wpAny _ _ (setField (.ref it) 0 .none>>=_) _ _ s;refine É<|Ŗ ho hd (by simp) ?_;show wpAny _ _ (newExc (.type "StopIteration") []>>=_) _ _ _;refine É ?_;delta newExc newTuple;refine É (Ū ?_<|by size_fits);refine É (m:=firstArgMember _ _)<|wpAny_of_eq (a:=ļ) (by first|rfl|(simp only[firstArgMember];rfl)) ?_;refine Ū ?_ (by size_fits);delta raiseNew;refine É<|wpAny_handled ?_;refine AA (show A.in1.handled=È from hh)<|É<|Ô<|wpAny_throw ?_;refine É<|wpAny_isInstance (T:="StopIteration") (b:=Å) ⟨_,ņ _ Ä,Ä⟩ isSubtype_stop ?_;exact Ô<|yr hx _<|((ĝ ..).extBut.push _).push _
 .refine zk<|É ?_;refine É<|Ŝ hit.typeIs<|Ô ?_;refine É<|wpAny_isOneOf_keyiter hit.typeIs ?_;show wpAny _ _ (setField (.ref it) 1 (Ē<|(i:Í)+1)>>=_) _ _ s;refine É<|Ŗ ho hd (by simp) ?_;have oK:(s.heap.update it (Ħ (·.setIfInBounds 1<|Ē<|(i:Í)+1))).IsKeyIter it d (i+1) es.size ep:=⟨_,Ĝ _ ho<|ź<|ŋ hd _,(ġ.cls_mapFields ..).trans hc,by refine AA (ŋ hd ..) ?_;simp[Ē]⟩;refine É (í (É (wpAny_isOneOf_keyiter (s:={s with heap:=s.heap.update it (Ħ (·.setIfInBounds 1<|Ē<|(i:Í)+1))}) oK.typeIs ?_)));show wpAny _ _ (pure e.key) _ _ _;exact Ô<|Ô ⟨_,Ä,Ô<|yq e hx _ oK<|ĝ ..⟩
end
theorem mR.qJ{xs:Á<|Á (Ã Ï)×Û×PV}(h:Ju W l xs):mR W (l.map (·.1)) ((xs.map<|entryOfKey<|Aq prog w).map (·.key)):=by induction h with|nil=>exact .nil|cons ht hc a b ih=>exact .cons (.D! ht<|.cons (.str _ _ hc)<|.cons .none .nil) ih
inductive G'(cx:Cx)(W:Wd):V->Á V->Ç->ġ->Prop|D!{l:Á V}{x:Û}{ws:Á PV}{j:Ç}{o:ġ}:W.mG x=À ws->mR W l ws->o.cls=.type "tuple_iterator"->o.data=.fields #[.ref x,.int j 0]->G' cx W (.D! l) l j o|list{a:Ad}{l:Á V}{j:Ç}{o:ġ}:W.mM a->a∉cx.lk->o.cls=.type "list_iterator"->o.data=.fields #[.ref<|W.ad a,.int j 0]->G' cx W (.ref a) l j o|keys{a:Ad}{l:Á V}{j ep:Ç}{o od:ġ}{es:ī Ğ}:W.mM a->(W.ad a,od)∈cx.D?->a∈cx.lk->od.data=.dict es ep->mR W l (es.toList.map (·.key))->o.cls=.type "dict_keyiterator"->o.data=.fields #[.ref<|W.ad a,.int j 0,.int es.size 0,.int ep 0]->G' cx W (.ref a) l j o|range{n j:Ç}{o:ġ}:(∀h:ç,∀I,h.get? I=À o->IsRangeIter h I (0+(j:Í)*1) ((n:Í)-j) 1)->G' cx W (.D!<|(ê n).map λi=>.int<|Ý i) ((ê n).map λi=>.int<|Ý i) j o
theorem G'.C!(le:W.Le W'){j:Ç}(h:G' cx W v l j o):G' cx W' v l j o:=by induction h with|D! a b c d=>exact .D! (le.mG _ _ a) (b.C! le) c d|list a a' b c=>exact .list (le.mM _ a) a' b<|by exact AA (le.ad _ a)<|c|keys a b b' c d e f=>exact .keys (le.mM _ a) (by exact AA (le.ad _ a) b) b' c (d.C! le) e<|by exact AA (le.ad _ a)<|f|range h=>exact .range h
section
theorem QY(hh:A.handled=È){j:Ç}(r:RR (cx.K? I o) W s t)(hn:∀q∈cx.D?,q.1≠I)(hc:cx.cmp≠À I)(rH:I∉cx.free)(hp:∀p∈cx.D?,C5 cx W p)(hf:∀C,cx.cmp=À C->C∈cx.free) (it:G' cx W v l j o) (hi:BH v s=À l)(item:∀y w o' t',l[j]?=À y->G' cx W v l (j+1) o'->RR (cx.K? I o') W s t'->VR W y w->Q (À w) t') (fin:∀t',l.length<=j->RR cx W s t'->Q È t'):wpAny cx.M A (pyNext<|.ref I) Q E t:=by x_go;obtain⟨h₀,led,m,x⟩:=r;have hI:t.heap.get? I=À o:=(x.N _ (x.D? (I,o)<|.head _).1).1;have done:l.length<=j->∀h',ç.ExtBut I t.heap h'->Q È {t with heap:=h'}:=λhle h' hs=>fin _ hle (x.pV (k:=t.toks) hn hc rH hp hf hs);induction it with
 |@D! l a ws j o ha hs nf hd=>
  have hit:t.heap.IsTupleIter I a j:=⟨o,hI,nf,hd⟩;have xC:t.heap.IsTuple a ws.toArray:=⟨_,x.nK ha,Ä,0,Ä⟩;generalize q:l[j]?=zc;rcases zc with _|y;.have hle:=Á.getElem?_eq_none_iff.mp q;exact zk<|wpAny_pyNext_tuple_end hh hit xC (by exact AA đ<|Ŷ<|by exact AA hs.length hle) λh' nZ=>done hle h' nZ
  .obtain ⟨w,hw,hv⟩:=hs.get q;refine zk<|wpAny_pyNext_tuple_item hit xC (by exact AA đ hw) λh' oK nZ=>?_;x_go;obtain⟨o',nY,qc,nP⟩:=oK;exact zk<|item y w o' _ q (.D! ha hs qc nP) (x.nU (k:=t.toks) hn hc nZ nY) hv|@list a l j o ha pg nf hd=>
  have hl:s.h a=À (.list l):=by
   unfold BH at hi;dsimp only at hi;generalize e:s.h a=zc at hi;rcases zc with _|⟨_|l'|d|_|_⟩;.exact AY hi
   .exact AY hi
   .obtain rfl:=Ak hi;rfl
   .exact Ae (P:=(·=À _)) hi (λq Z=>â (AP x.rest.2.2.1 q) pg) λZ h=>AY h
   .exact AY hi
   .exact AY hi
  .obtain ⟨ws,n,m1,hs,hz⟩:=x.R.cells a _ hl;have hit:t.heap.IsListIter I (W.ad a) j:=⟨o,hI,nf,hd⟩;generalize q:l[j]?=zc;rcases zc with _|y;.have hle:=Á.getElem?_eq_none_iff.mp q;exact zk<|wpAny_pyNext_list_end hh hit (x.isList m1) (by exact AA đ<|Ŷ<|by exact AA hs.length hle) λh' nZ=>done hle h' nZ
   .obtain ⟨w,hw,hv⟩:=hs.get q;refine zk<|wpAny_pyNext_list_item hit (x.isList m1) (by exact AA đ hw) λh' oK nZ=>?_;x_go;obtain⟨o',nY,qc,nP⟩:=oK;exact zk<|item y w o' _ q (.list ha pg qc nP) (x.nU (k:=t.toks) hn hc nZ nY) hv|@keys a l j ep o od es ha rv n4 oV hs nf hd=>
  have pf:t.heap.get? (W.ad a)=À od:=(x.N _ (x.D? _<|.tail _ rv).1).1;have hit:t.heap.IsKeyIter I (W.ad a) j es.size ep:=⟨o,hI,nf,hd⟩;generalize q:l[j]?=zc;rcases zc with _|y;.have hle:=Á.getElem?_eq_none_iff.mp q;have e:=hs.length;rw[Ð,ī.length_toList]at e;exact zk<|KV hh hit pf oV λe' uF=>GO<|uF.symm.trans<|ī.getElem?_eq_none<|by lia λZ h' nZ=>done hle h' nZ
  .obtain ⟨w,hw,hv⟩:=hs.get q;rw[Á.getElem?_map,Ã.map_eq_some_iff]at hw;obtain⟨e,he,rfl⟩:=hw;refine zk<|KV hh hit pf oV (λe' uF h' oK nZ=>?_) λh0=>AY<|h0.symm.trans<|(ī.getElem?_toList).symm.trans he;obtain rfl:=Ak<|uF.symm.trans<|(ī.getElem?_toList).symm.trans he;x_go;obtain⟨o',nY,qc,nP⟩:=oK;exact zk<|item y _ o' _ q (.keys ha rv n4 oV hs qc nP) (x.nU (k:=t.toks) hn hc nZ nY) hv|@range n j o hr=>
  have hit:=hr _ _ hI;by_cases q:j<n
  .refine zk<|wpAny_pyNext_range_item hit (by lia) λh' oK nZ=>?_;have e1:(0:Í)+(j:Í)*1+1=0+((j+1:Ç):Í)*1:=by lia
   have e2:(n:Í)-j-1=(n:Í)-((j+1:Ç):Í):=by lia
   rw[e1,e2]at oK;have:=x.nU (k:=t.toks+1) hn hc nZ oK;refine item (.int<|Ý j) _ _ _ (by simp[Á.getElem?_map,Á.getElem?_range q]) (.range λh I hg=>hg) this ?_;have e3:(0:Í)+(j:Í)*1=Ý j:=by simp
   refine AP e3 ?_;exact .int _ _
  .exact zk<|wpAny_pyNext_range_end hh hit (by lia) λh' nZ=>done (by simp;lia) h' nZ
end
theorem LY(h:I7 v=Å):∃x,v=.D! [.str x,.none]:=by
 unfold I7 at h;generalize e:DA v=zc at h;rcases zc with _|x;.exact CN h
 .exact ⟨x,Dp e⟩
def Cx.I?(cx:Cx)(ls:Á Ad)(ps:Em):Cx:={cx with lk:=ls++cx.lk,D?:=ps++cx.D?}
structure CD(cx O!:Cx)(W:Wd)(I:Û):Prop where
 nQ:∀q∈O!.D?,q.1≠I
 nz:O!.cmp≠À I
 fresh:I∉O!.free
 D?:∀p∈O!.D?,C5 O! W p
 cmp:∀C,O!.cmp=À C->C∈O!.free
 out:∀p∈cx.D?,C5 cx W p
section
theorem BW.tR(x:BW cx W s t h₀ led m){k:Ç}(F:Fr h₀ cx.L h' m)(N:ĵ h₀ cx.L h'<|(a,o)::led)(l:∀p∈led,p.1<a):RR (cx.K? a o) W s {t with heap:=h',toks:=k}/\CD cx cx W a:=by obtain⟨h1,h2,h3⟩:=x.K? (k:=k) F N l;exact⟨h1,h2,h3,λhf=>(x.pj N l).1<|x.R.n6 a hf,x.mw.1,x.mw.2,x.mw.1⟩
theorem BW.nJ(x:BW cx W s t h₀ led m)(o:ġ)(ho:o.isFreed=Æ):RR (cx.K? t.heap.objs.size o) W s {t with heap:=t.heap.push o}/\CD cx cx W t.heap.objs.size:=by have hk:∀b q,t.heap.get? b=À q->(t.heap.push o).get? b=À q:=λb q e=>ß _ e;exact x.tR (k:=t.toks) ⟨x.F.ns.keeps hk,λb q e=>hk _ _<|x.F.keep b q e,x.F.above⟩ (news_pushed x.F x.N hk (ņ _ ho) Ä) λp hp=>ï (x.N p hp).1
theorem BW.ol(x:BW cx W s t h₀ led m)(ha:s.h a=À (.dict l))(hm:(W.ad a,o)∈led):BW (cx.I? [a] [(W.ad a,o)]) W {s with lk:=a::s.lk} t h₀ led m:=by
 have oY:W.mM a:=(x.R.mM a).mpr<|by exact AA ha Ä
 have R:=x.R;refine⟨x.F,x.N,⟨x.G.B,x.G.P!⟩,⟨R.nd,R.mM,R.cells,R.mG,R.fresh,R.own,R.my,R.n6,R.oP,R.tab⟩,.to (cx:=cx) Ä Ä x.A!,λp hp=>?_,x.rest.1,x.rest.2.1,?_,λb hb=>?_⟩
 .rcases Hy hp with q|q;.rcases OF q with rfl;refine⟨hm,.inr ⟨a,.head _,oY,Ä⟩,λe=>?_⟩;have hc:cx.cmp=À (W.ad a):=e;have hf:=x.mw.2 _ hc;exact(R.n7 hf oY).1 Ä
  .have:=x.D? p q;exact⟨this.1,this.2.1.imp id λzx=>by obtain⟨b,h1,h2,h3⟩:=zx;exact⟨b,.tail _ h1,h2,h3⟩,this.2.2⟩
 .show a::s.lk=[a]++cx.lk;exact AA x.rest.2.2.1 Ä
 .rcases Hy hb with q|q;.rcases OF q with rfl;exact⟨l,ha⟩
  .exact x.rest.2.2.2 b q
theorem RR.g?(le:wd.Le W)(hp:∀p∈cx.D?,C5 cx wd p)(r:RR (cx.I? ls ps) W s t):RR cx W {s with lk:=cx.lk} t:=by x_go;obtain⟨h₀,led,m,x⟩:=r;have R:=x.R;exact zk<|⟨h₀,led,m,⟨x.F,x.N,⟨x.G.B,x.G.P!⟩,⟨R.nd,R.mM,R.cells,R.mG,R.fresh,R.own,R.my,R.n6,R.oP,R.tab⟩,.to (cx:=cx.I? ls ps) Ä Ä x.A!,λp nF=>⟨(x.D? p<|Ö _ nF).1,(hp p nF).C! le⟩,x.rest.1,x.rest.2.1,Ä,λb hb=>x.rest.2.2.2 b<|Ö _ hb⟩⟩
theorem CD.sM(h:CD p7 p7 W I)(hp:∀p∈cx.D?,C5 cx W p):CD cx p7 W I:=⟨h.nQ,h.nz,h.fresh,h.D?,h.cmp,hp⟩
theorem VH{k:Ç}(H:Ao cx A_ k W env C? A)(r:RR cx W s t)(hv:VR W v w)(hi:GC v s=À l)(h:∀ps I o t',RR ((cx.I? (BF v s) ps).K? I o) W {s with lk:=BF v s++s.lk} t'->G' (cx.I? (BF v s) ps) W v l 0 o->CD cx (cx.I? (BF v s) ps) W I->Q (.ref I) t'):wpAny cx.M A (pyIter w) Q E t:=by x_go;obtain⟨h₀,led,m,x⟩:=r;induction v using Internal.V.casesOn with
 |D! l'=>obtain rfl:=Ak hi;cases hv with|@D! l x' ws ht hs=>refine zk<|wpAny_pyIter_tuple (items:=Ś ws) ⟨_,x.nK ht,Ä,0,Ä⟩ ?_;x_go;obtain⟨h1,h2⟩:=x.nJ {cls:=.type "tuple_iterator",data:=.fields #[.ref x',.int 0 0]} Ä;exact zk<|h [] _ _ _ h1 (.D! ht hs Ä Ä) h2
 |ref a=>cases hv with|ref _ oY=>
   unfold GC at hi;dsimp only at hi;generalize ha:s.h a=zc at hi;rcases zc with _|⟨_|l'|d|_|_⟩;.exact AY hi
   .exact AY hi
   .obtain rfl:=Ak hi;have e:BF (.ref a) s=[]:=Â (KP a) ha;replace h:=e▸h;obtain⟨ws,n,m1,hs,hz⟩:=x.R.cells a _ ha;refine zk<|wpAny_pyIter_list (x.isList m1) ?_;x_go;obtain⟨h1,h2⟩:=x.nJ {cls:=.type "list_iterator",data:=.fields #[.ref<|W.ad a,.int 0 0]} Ä;refine zk<|h [] _ _ _ h1 (.list oY (λq=>?_) Ä Ä) h2;x_go;obtain⟨d,hd⟩:=x.rest.2.2.2 a q;rw[ha]at hd;cases hd
   .have sq:=I6 hi;obtain rfl:=Ak<|(Î sq).symm.trans hi;refine zk ?_;have e:BF (.ref a) s=[a]:=Â (KP a) ha;replace h:=e▸h;x_go;obtain⟨o,m1,hd,hz⟩:=x.R.cells a _ ha;have lo:=x.oj H.G H.c? m1;have pf:=(x.N _ m1).1;have key:H5 (λes ep=>o.ExactDict) (λes ep=>o.data=.dict es ep) (λes ep=>mR W (d.map (·.1)) (es.toList.map (·.key))):=by
     have:BM (λxs=>OC cx.B o xs) λxs=>Ju W d xs:=by
      x_go;rcases d with _|⟨p,r⟩;.exact zk<|hd.vG<|.inl Ä
      .obtain ⟨kk,vv⟩:=p;simp only[Κ,ù]at sq;obtain⟨y,rfl⟩:=LY sq.1;exact zk<|hd.vG<|.inr ⟨_,_,_,Ä⟩
     x_go;obtain⟨xs,⟨es,ep,g1,g2,g3,g4⟩,g6⟩:=this;exact zk<|⟨es,ep,g1,g2,by exact AA g3<|mR.qJ g6⟩
    obtain⟨es,ep,g1,g2,g3⟩:=key;have xl:=x.ol ha m1;refine zk<|SO lo pf g1 g2 ?_;x_go;obtain⟨h1,h2⟩:=xl.nJ {cls:=.type "dict_keyiterator",data:=.fields #[.ref<|W.ad a,.int 0 0,.int es.size 0,.int ep 0]} Ä;exact zk<|h _ _ _ _ h1 (.keys oY (.head _) (.head _) g2 g3 Ä Ä)<|h2.sM x.mw.1
   .exact AY hi
   .exact AY hi|_=>exact AY hi
end
theorem Ec{α:Type}{x:Ï}{a:α}{r:Á<|Ï×α}:Á.lookup x ((x,a)::r)=À a:=by exact AA ð<|AA (Ċ ..) Ä
theorem Dn{α:Type}{x y:Ï}{a:α}{r:Á<|Ï×α}(h:¬x=y):Á.lookup x ((y,a)::r)=r.lookup x:=by exact AA ð<|AA (ZR h) Ä
theorem DU{env:Ů}{names:Á<|Ï×á}{x:Ï}:∀{kd:á},names.lookup x=À kd->(names.map λ(n,k)=>if k==ó&&env.scope.kind==.function&&env.kindOf n==À .cell then(n,á.cell)else(n,k)).lookup x=À (if kd==ó&&env.scope.kind==.function&&env.kindOf x==À .cell then .cell else kd):=by induction names with|nil=>exact λh=>AY h|cons p r ih=>
  obtain⟨n,k⟩:=p;intro kd h;show Á.lookup x ((if(k==ó&&env.scope.kind==.function&&env.kindOf n==À .cell)=Å then(n,á.cell)else(n,k))::_)=_;by_cases e:x=n;.subst e;obtain rfl:=Ak<|Ec.symm.trans h;split<;>exact Ec
  .have ih:=ih<|(Dn e).symm.trans h;split<;>exact(Dn e).trans ih
def Ag(rl:Á<|Ï×Û):Á (Ï×á)->Á (Ï×Û)->Á (Ï×Û)|[],acc=>acc|(x,kd)::r,acc=>if kd=.free then match rl.lookup x with|À a=>Ag rl r<|(x,a)::acc|È=>acc else Ag rl r acc
theorem Lu(names:Á<|Ï×á):∀(acc:Á<|Ï×Û),(∀x,(x,ó)∈names->(C?.cells.lookup x).isSome=Å)->(forIn (m:=Sem) names acc λx cs=>if(x.2==ó)=Å then do let c<-cellOf C? x.1;pure (ł<|(x.1,c)::cs)else pure<|ł cs)=pure (Ag C?.cells names acc):=by induction names with|nil=>exact λZ Z=>Ä|cons p r ih=>
  obtain⟨x,kd⟩:=p;intro acc h;have hr:=λy hy=>h y<|.tail _ hy;refine AA (Á.forIn_cons ..) ?_;by_cases e:kd=.free
  .subst e;obtain⟨a,ha⟩:=cD<|h x<|.head _;have hc:cellOf C? x=pure a:=by unfold cellOf;exact AA ha Ä
   have e2:(ó==ó)=Å:=Ä;refine AA (show Ag C?.cells ((x,.free)::r) acc=Ag C?.cells r ((x,a)::acc)from(Î Ä).trans<|by exact AA ha Ä) ?_;simp-iota only[e2,if_true,hc,pure_bind];exact ih _ hr
  .have e':(kd==ó)=Æ:=ZR e;rw[show Ag C?.cells ((x,kd)::r) acc=Ag C?.cells r acc from Ì e];simp-iota only[e',ć,Ŧ,pure_bind];exact ih _ hr
theorem Pc(h:∀x,(x,ó)∈sc.names->(C?.cells.lookup x).isSome=Å):closureFor sc C?=pure (Ag C?.cells sc.names []):=by have:=Lu (C?:=C?) sc.names [] h;unfold closureFor;show(forIn (m:=Sem) sc.names [] (λx cs=>if(x.2==ó)=Å then do let c<-cellOf C? x.1;pure (ł<|(x.1,c)::cs)else pure<|ł cs)>>=λcs=>pure cs)=_;exact AA this Ä
theorem Je{rl:Á<|Ï×Û}{x:Ï}(names:Á<|Ï×á):∀(acc:Á<|Ï×Û),(∀y,(y,ó)∈names->(rl.lookup y).isSome=Å)->((x,ó)∈names->(Ag rl names acc).lookup x=rl.lookup x)/\((x,ó)∉names->(Ag rl names acc).lookup x=acc.lookup x):=by induction names with|nil=>exact λacc Z=>⟨λh=>â h ã,λZ=>Ä⟩|cons p r ih=>
  obtain⟨y,kd⟩:=p;intro acc h;have hr:=λz hz=>h z<|.tail _ hz;by_cases e:kd=.free
  .subst e;obtain⟨a,ha⟩:=cD<|h y<|.head _;have ih:=ih ((y,a)::acc) hr;have e2:Ag rl ((y,.free)::r) acc=Ag rl r ((y,a)::acc):=(Î Ä).trans (by exact AA ha Ä);refine AA e2 ⟨λhx=>?_,λhx=>(ih.2 λz=>hx<|.tail _ z).trans<|Dn λz=>hx<|AP z<|.head _⟩;by_cases q:(x,ó)∈r;.exact ih.1 q
   .rcases Bt hx with z|z;.obtain ⟨rfl,_⟩:=ů z;exact(ih.2 q).trans<|Ec.trans ha.symm
    .exact â z q
  .have ih:=ih acc hr;have e2:Ag rl ((y,kd)::r) acc=Ag rl r acc:=Ì e;exact AA e2 ⟨λhx=>ih.1<|(Bt hx).resolve_left λz=>e (ů z).2.symm,λhx=>ih.2 λz=>hx<|.tail _ z⟩
theorem Pj{y:Ï}{r:Á<|Ï×á}{cl:Á<|Ï×Ad}(h:Ch env ((y,.free)::r)=À cl):∃a l,env.cells.lookup y=À a/\Ch env r=À l/\cl=(y,a)::l:=by obtain⟨a,l,e1,e2,e3⟩:=E8 (f:=λa l=>(y,a)::l)<|(Î Ä).symm.trans h;exact⟨a,l,e1,e2,e3.symm⟩
theorem Ng{names:Á<|Ï×á}:∀{cl:Á<|Ï×Ad},Ch env names=À cl->(∀x,(x,ó)∈names->(env.cells.lookup x).isSome=Å)/\∀x a,cl.lookup x=À a->(x,ó)∈names/\env.cells.lookup x=À a:=by induction names with|nil=>exact λh=>AP (Ak h) ⟨λx h=>â h ã,λx a h=>AY h⟩|cons p r ih=>
  obtain⟨y,kd⟩:=p;intro cl h;by_cases e:kd=.free
  .subst e;obtain⟨a,l,ha,hl,rfl⟩:=Pj h;have ih:=ih hl;refine⟨λx hx=>?_,λx b hb=>?_⟩
   .rcases Bt hx with z|z;.obtain ⟨rfl,_⟩:=ů z;exact AA ha Ä
    .exact ih.1 x z
   .by_cases q:x=y;.subst q;exact AP (Ak<|Ec.symm.trans hb) ⟨.head _,ha⟩
    .have:=ih.2 x b<|(Dn q).symm.trans hb;exact⟨.tail _ this.1,this.2⟩
  .have ih:=ih<|(Ì e).symm.trans h;exact⟨λx hx=>ih.1 x<|(Bt hx).resolve_left λz=>e (ů z).2.symm,λx b hb=>⟨.tail _ (ih.2 x b hb).1,(ih.2 x b hb).2⟩⟩
theorem GJ{cl:Á<|Ï×Ad}(hc:DB W env.cells C?.cells)(h:Ch env sc.names=À cl):closureFor sc C?=pure (Ag C?.cells sc.names [])/\DB W cl (Ag C?.cells sc.names []):=by
 obtain⟨h1,h2⟩:=Ng h;have h3:∀x,(x,ó)∈sc.names->(C?.cells.lookup x).isSome=Å:=λx hx=>by obtain⟨a,ha⟩:=cD<|h1 x hx;exact AA (hc x a ha).2 Ä
 refine⟨Pc h3,λx a ha=>?_⟩;obtain⟨g1,g2⟩:=h2 x a ha;exact⟨(hc x a g2).1,by exact AA ((Je sc.names [] h3).1 g1)<|(hc x a g2).2⟩
section
variable{cx:Cx}
theorem BW.T_(hf:∀x∈f,x∈cx.free)(pS:∀p∈ps,p∈cx.D?/\(p.1∈f\/D4 (λb=>b∈cx.lk) (λb=>W.mM b) λb=>p.1=W.ad b))(hC:∀C,cx.cmp=À C->C∈f)(x:BW cx W s t h₀ led m):BW {cx with free:=f,D?:=ps} W s t h₀ led m:=by
 refine⟨x.F,x.N,⟨x.G.B,x.G.P!⟩,x.R.free hf,?_,λp hp=>⟨(x.D? p (pS p hp).1).1,(pS p hp).2,(x.D? p (pS p hp).1).2.2⟩,x.rest⟩;rcases x.A! with⟨e,h⟩|⟨C,oC,mC,e,_,h1,h2,h3⟩;.exact .no e h
 .exact .co C oC mC e (hC C e) h1 h2 h3
theorem RR.T_(hf:∀x∈f,x∈cx.free)(pS:∀p∈ps,p∈cx.D?/\(p.1∈f\/D4 (λb=>b∈cx.lk) (λb=>W.mM b) λb=>p.1=W.ad b))(hC:∀C,cx.cmp=À C->C∈f)(r:RR cx W s t):RR {cx with free:=f,D?:=ps} W s t:=by x_go;obtain⟨h₀,led,m,x⟩:=r;exact zk<|⟨h₀,led,m,x.T_ hf pS hC⟩
theorem RR.swap(r:RR ((cx.K? a o).K? b p) W s t):RR ((cx.K? b p).K? a o) W s t:=by
 x_go;obtain⟨h₀,led,m,x⟩:=r;have mem:∀y,y∈((cx.K? b p).K? a o).free↔y∈((cx.K? a o).K? b p).free:=λy=>by show y∈a::b::cx.free↔y∈b::a::cx.free;simp only[ı];exact⟨λh=>h.elim (λe=>.inr<|.inl e) λh=>h.elim .inl λe=>.inr<|.inr e,λh=>h.elim (λe=>.inr<|.inl e) λh=>h.elim .inl λe=>.inr<|.inr e⟩
 refine zk<|⟨h₀,led,m,x.T_ (cx:=(cx.K? a o).K? b p) (f:=a::b::cx.free) (ps:=(a,o)::(b,p)::cx.D?) (λy hy=>(mem y).mp hy) (λq hq=>?_) λC hC=>(mem C).mpr<|x.mw.2 C hC⟩;have qU:q∈((cx.K? a o).K? b p).D?:=by
  show q∈(b,p)::(a,o)::cx.D?;rcases Bt hq with e|e;.subst e;exact .tail _<|.head _
  .rcases Bt e with e|e;.subst e;exact .head _
   .exact .tail _<|.tail _ e
 exact⟨qU,(x.D? q qU).2.1.imp (λh=>(mem _).mpr h) id⟩
theorem M6{n:Ç}(r:RR (cx.K? D<|listOf ws.toArray n) W s t)(hn:∀q∈cx.D?,q.1≠D)(hc:cx.cmp≠À D)(hz:ws.length<=B8)(h:∀t',RR (cx.K? D<|listOf (ws++[w]).toArray<|n+1) W s t'->Q .none t'):wpAny cx.M A (call (.builtin "list.append") [.ref D,w]) Q E t:=by
 x_go;obtain⟨h₀,led,m,x⟩:=r;have hm:=x.D? _<|.head _;obtain⟨F!,U,e1,e2,e3⟩:=Du x.R.nd hm.1<|listOf (ws.toArray.push w)<|n+1;refine zk<|append_K x.F x.N U (λh' F N=>h _ ?_) ?_
 .have e:ws.toArray.push w=(ws++[w]).toArray:=by simp
  rw[e]at e2;refine⟨h₀,F!,m,⟨F,N,⟨x.G.B,x.G.P!⟩,x.R.oZ (.head _) e1 e3,?_,λp hp=>?_,x.rest⟩⟩
  .rcases x.A! with⟨e,h⟩|⟨C,oC,mC,e,hC,h1,h2,h3⟩;.exact .no e h
   .exact .co C oC mC e hC (e3 _ h1 λq=>hc<|e.trans<|Â À q) h2 h3
  .rcases Bt hp with e|e;.subst e;exact⟨e2,.inl<|.head _,hc⟩
   .have:=x.D? p<|.tail _ e;exact⟨e3 _ this.1<|hn p e,this.2.1,this.2.2⟩
 .refine AA Ĳ<|AA Ķ ?_;unfold B8 at hz;omega
end
end Mine.Internal
end
section
open PySem PySem.W PyProof.Rows PySem.Calls PyProof.V
set_option backward.match.sparseCases true
namespace Mine.Internal
theorem Bm{b:Ë}{P:Prop}(h:cond b P Ŀ)(e:b=Å):P:=by
 induction b;.cases e
 .exact h
section
variable{n:Ç}{nm:Ï}
theorem Cs(h:noStar e=Å):Ļ (e::q) C?=(Æ,eval e C?)::Ļ q C?:=Bm (by induction e using ą<;>first|exact Ä|exact Þ) h
theorem HQ(h:noStar e=Å):assignEach (e::q) C?=(Æ,assign e C?)::assignEach q C?:=Bm (by induction e using ą<;>first|exact Ä|exact Þ) h
theorem Mw(h:Im r=Å):behindInMarks op r=Æ:=Bm (by induction r using ą<;>first|exact@Ä _ Æ|exact Þ) h
theorem MR(h:Im it=Å):foldedSetIterable it C? x=pure x:=Bm (by induction it using ą<;>first|exact@Ä _<|pure x|exact Þ) h
theorem W5(h:FZ e=Å):subscripted e Æ o i=operate [o,i] (getItem o i):=Bm (by induction e using ą<;>first|exact@Ä _<|operate [o,i]<|getItem o i|exact Þ) h
theorem bY(h:FZ e=Å):augStore e o i x=(do holding [x,o,i]<|setItem o i x;release [x,o,i] [];pure .next):=Bm (by induction e using ą<;>first|exact@Ä (Sem PySem.Flow)<|do holding [x,o,i]<|setItem o i x;release [x,o,i] [];pure .next|exact Þ) h
def LJ(e:ì):Ë:=!(é e.ctorIdx 8||é e.ctorIdx 9||é e.ctorIdx 10)
def O5(e:ì):Ë:=! é e.ctorIdx 23
theorem He(h:LJ e=Å):swapsWith e zY n C?=pure Æ:=Bm (by induction e using ą<;>first|exact@Ä _<|pure Æ|exact Þ) h
theorem Oa(h:O5 tg=Å):swapsWith e (À tg) n C?=pure Æ:=by have key:∀{B:Ï->ń->Sem Ë},(match À tg with|È=>pure Æ|À (.Name t pos)=>B t pos|À _=>pure Æ)=pure Æ:=Bm (by induction tg using ą<;>first|exact@Ä (Sem Ë)<|pure Æ|exact Þ) h;induction e using ą<;>first|exact@Ä _<|pure Æ|(refine Eq.trans ?_ (key (B:=λt pp=>pure<|C?.blockKind==.function&&C?.kindOf t==À .local&&pp.line==pos.line&&! scope.names.any λ(n,k)=>n==t&&(k==.local||k==.cell)));kernel_rfl)
theorem GX(h:L6 tg e=Æ):swappedStores [tg] e C?=pure È:=Bm (b:=!L6 tg e) (by induction tg using ą<;>first|exact@Ä _<|pure È|(induction e using ą<;>first|exact@Ä _<|pure È|exact Þ))<|by exact AA h Ä
theorem RA(h:JQ e=Å):attributeBase e nm C? m=m:=Bm (by
 induction e using ą<;>first|exact@Ä _ m|skip
 rcases args with _|⟨a,q⟩;.exact Þ
 .induction func using ą<;>exact@Ä _ m) h
end
end Mine.Internal
end
section
open PySem PySem.W PyProof.Rows PySem.Calls PyProof.V
namespace Mine.Internal
theorem AB{a b:Ë}(h:(a&&b)=Å):a=Å/\b=Å:=S7 h
section
variable{k d:Ç}
end
section
variable{k d:Ç}{cx:Cx}
theorem mR.drop(h:mR W l ws)(n:Ç):mR W (l.drop n) (ws.drop n):=h.f? (P:=λl ws=>∀n:Ç,mR W (l.drop n)<|ws.drop n) (λn=>by induction n using ĉ<;>exact .nil) (λa r ih n=>by induction n using ĉ with|zero=>exact .cons a r|succ n=>exact ih n) n
theorem W6{T id:ş}(hT:t.TypeIs o T)(hl:typeLookup (.type T) "__getitem__"=pure (À<|.builtin id))(hn:FZ slice=Å)(h:wpAny cx.M A (getItem o i) Q E t):wpAny cx.M A (subscriptTail value slice o i) Q E t:=by
 have hs:subscripted slice Æ o i=operate [o,i] (getItem o i):=W5 hn;unfold subscriptTail;refine É ?_;refine AP (getitemInPython_of_ne hT.not_modules) ?_;refine É<|wpAny_specialOf hT hl ?_;have fin:wpAny cx.M A (subscripted slice Æ o i) (λr nB=>wpAny cx.M A (letTemporaryGo value o r>>=λZ=>pure r) Q E nB) E t:=by refine AA hs ?_;exact wpAny_operating<|ö h (λr nB oG=>É<|wpAny_letTemporaryGo<|Ô oG) λZ Z x=>x
 first|exact Ô<|É fin|exact É<|Ô<|É fin|exact É fin
theorem BW.rh(x:BW cx W s t h₀ led m)(h:cx.B.base.IsList W.n3 W.m7.toArray):t.heap.IsList W.n3 W.m7.toArray:=by obtain⟨o,h1,h2⟩:=h;exact⟨o,x.F.keep _ _<|x.G.stays _ _ h1,h2⟩
theorem PY(hd:Dd B W o l):o.cls=.type "dict":=hd.exact.1
theorem aT(H:Ao cx A_ k W env C? A)(r:RR cx W s t)(hv:VR W v w)(hi:VR W i iw)(he:cK v i s=À x)(h:∀{y t'},RR cx W s t'->VR W x y->Q y t'):wpAny cx.M A (getItem w iw) Q E t/\Hb (λT id=>t.TypeIs w T) λT id=>typeLookup (.type T) "__getitem__"=pure (À<|.builtin id):=by x_go;induction v using Internal.V.casesOn with
 |D! l=>obtain⟨a,ws,rfl,ht,hs⟩:=Td hv;induction i using Internal.V.casesOn with|int n=>obtain⟨u,rfl⟩:=BY hi;exact zk<|⟨VE r ht hs he λZ hy=>h r hy,"tuple",_,(r.D! ht).1.typeIs,slot_tuple_getitem.lookup⟩|_=>exact AY he
 |fl l=>obtain⟨rfl,hs⟩:=Yw hv;induction i using Internal.V.casesOn with|int n=>obtain⟨u,rfl⟩:=BY hi;obtain⟨_,_,_,x⟩:=id r;have il:=x.rh H.n3.1;exact zk<|⟨KX il hs (AP hs.length H.n3.2) he λZ hy=>h r hy,"list",_,il.typeIs,list_getitem_lookup⟩|_=>exact AY he
 |ref a=>
  obtain⟨hd,rfl⟩:=hv.me;unfold cK at he;dsimp only at he;generalize e:s.h a=zc;rcases zc with _|c;.refine zk ?_;rw[e]at he;exact AY he
  .replace he:=e▸he;induction c with
   |list l=>induction i using Internal.V.casesOn with|int n=>obtain⟨u,rfl⟩:=BY hi;exact zk<|r.list e λhs hz il=>⟨KX il hs hz he λZ hy=>h r hy,"list",_,il.typeIs,list_getitem_lookup⟩|_=>exact AY he
   |dict l=>dsimp only at he;cases e2:AW i l with|none=>refine zk ?_;rw[e2]at he;exact AY he|some y=>replace he:=e2▸he;obtain⟨⟩:=he;obtain⟨_,_,_,z⟩:=id r;obtain⟨o,m1,oV,hz⟩:=z.R.cells _ _ e;exact zk<|⟨I1 r H.qo e hi e2 λw tk hw=>h (r.toks _) hw,"dict",_,⟨o,(z.N _ m1).1,PY oV⟩,slot_dict_getitem.lookup⟩
   |_=>exact AY he
 |_=>exact AY he
end
theorem D6:es.all noStar=Å->(backTo pos<|Ļ es C?).any (·.1)=Æ/\(backTo pos<|Ļ es C?).length=es.length:=by induction es with|nil=>exact λZ=>⟨Ä,Ä⟩|cons e q ih=>intro h;obtain⟨h0,h⟩:=AB h;have ih:=ih h;unfold backTo at ih⊢;exact AA (Cs h0) ⟨by simpa using ih.1,by simpa using ih.2⟩
section
variable{k d:Ç}{cx:Cx}
theorem BW.push(x:BW cx W s t h₀ led m){k:Ç}(o:ġ):BW cx W s {t with heap:=t.heap.push o,toks:=k} h₀ led m:=by have hk:∀b q,t.heap.get? b=À q->(t.heap.push o).get? b=À q:=λb q e=>ß _ e;exact⟨⟨x.F.ns.keeps hk,λb q e=>hk _ _<|x.F.keep b q e,x.F.above⟩,λp hp=>⟨hk _ _ (x.N p hp).1,(x.N p hp).2⟩,x.G,x.R,x.A!,x.D?,x.rest⟩
theorem Q6{x:Ï}(H:Ao cx A_ k W env C? A)(r:RR cx W s t)(hm:(x,v)∈HW)(hk:env.kind x=À .globalImplicit)(hn:Bz x=Å)(h:Q v t):wpAny cx.M A (eval (.Name x pos) C?) Q E t:=by
 x_go;obtain⟨h₀,led,m,z⟩:=r;obtain⟨b1,b2⟩:=H.blt _ hm;refine zk<|Ş H.e.kind (H.e.V? x hk) (loadGlobal_builtin (mg:=cx.mg) (mb:=cx.mb) ?_ b1 ?_ b2 h)<|Ba hn;.exact AA H.e.globals<|(H.G.T.g.keeps z.G.stays).keeps z.F.keep
 .exact AA H.e.builtins<|(H.G.T.b.keeps z.G.stays).keeps z.F.keep
theorem Iu{T:ş}:∃k,(k=Ν\/k=ŷ\/k=š)/\Ε cx.M h (keeperOf<|.type T) k:=⟨_,.inr<|.inl Ä,Ε.of_pure Ä⟩
theorem Cw{T:ş}:∃k,(k=Ν\/k=ŷ\/k=š)/\Ε cx.M h (keeperOf<|.builtin T) k:=⟨_,.inr<|.inl Ä,Ε.of_pure Ä⟩
end
end Mine.Internal
end
section
open PySem PySem.W PyProof.Rows PySem.Calls PyProof.V
set_option backward.match.sparseCases true
namespace Mine.Internal
def G8(W:Wd):Internal.Flow->PySem.Flow->Prop|.next,.next=>Ŀ|.brk,.brk=>Ŀ|.cont,.cont=>Ŀ|.ret v,.ret w=>VR W v w|_,_=>Ń
section
variable{k d:Ç}{cx:Cx}
theorem Ao.K?(H:Ao cx A_ k W env C? A)(a:Û)(o:ġ):Ao (cx.K? a o) A_ k W env C? A:=⟨⟨H.G.X,H.G.T,H.G.cls⟩,H.c?,H.n3,⟨H.e.kind,H.e.A!,H.e.cell,H.e.free,H.e.V?,H.e.cells,H.e.locals,H.e.globals,H.e.builtins,H.e.frame,H.e.gl⟩,⟨H.a.hh,H.a.fr,H.a.depth,H.a.units⟩,H.names,H.int,H.blt,H.e_,H.j_⟩
theorem Ao.I?(H:Ao cx A_ k W env C? A)(ls:Á Ad)(ps:Em):Ao (cx.I? ls ps) A_ k W env C? A:=⟨⟨H.G.X,H.G.T,H.G.cls⟩,H.c?,H.n3,⟨H.e.kind,H.e.A!,H.e.cell,H.e.free,H.e.V?,H.e.cells,H.e.locals,H.e.globals,H.e.builtins,H.e.frame,H.e.gl⟩,⟨H.a.hh,H.a.fr,H.a.depth,H.a.units⟩,H.names,H.int,H.blt,H.e_,H.j_⟩
theorem CD.C!(le:W.Le W')(h:CD cx O! W I):CD cx O! W' I:=⟨h.nQ,h.nz,h.fresh,λp hp=>(h.D? p hp).C! le,h.cmp,λp hp=>(h.out p hp).C! le⟩
theorem aW{v:V}{l:Á V}{j:Ç}{o:ġ}(h:G' cx W v l j o){hp:ç}{I:Û}(hg:hp.get? I=À o):BM (λn=>o.cls=.type n) λn=>n∈["tuple_iterator","list_iterator","dict_keyiterator","range_iterator"]:=by x_go;cases h with|D! a b c d=>exact zk<|⟨_,c,by decide⟩|list a b c d=>exact zk<|⟨_,c,by decide⟩|keys a b b' c d e f=>exact zk<|⟨_,e,by decide⟩|range h=>have:=h hp I hg;have e:hp.get? I=À _:=this;rw[hg]at e;obtain rfl:=Ak e;exact zk<|⟨_,Ä,by decide⟩
theorem M7(hg:t.heap.get? I=À o)(hc:o.cls=.type n)(hn:n∈["tuple_iterator","list_iterator","dict_keyiterator","range_iterator"])(h:Q () t):wpAny cx.M A (letOwnedTupleGo target (.ref I) w) Q E t:=by
 have key:∀a:Û,wpAny cx.M A (do let o<-load I match o.cls,o.data with|.type n,.fields vs=>if["enumerate","zip","dict_itemiterator","dict_reverseitemiterator","odict_iterator","itertools.zip_longest","itertools.pairwise"].contains n&&vs[0]?==À (Ē a)then rule "for.unpacks-the-owned-tuple"updateField I 0 .none|_,_=>pure ()) Q E t:=λa=>by
  refine É<|wpAny_load hg ?_;have pD:["enumerate","zip","dict_itemiterator","dict_reverseitemiterator","odict_iterator","itertools.zip_longest","itertools.pairwise"].contains n=Æ:=by simp only[ı,ã,or_false]at hn;rcases hn with rfl|rfl|rfl|rfl<;>decide
  refine AA hc ?_;induction o.data<;>first|exact Ô h|skip
  simp only[pD,Ë.false_and,ć,Ŧ];exact Ô h
 have h0:wpAny cx.M A (pure ()) Q E t:=Ô h;induction target using ą<;>first|exact h0|(induction w using PySem.Value.casesOn<;>first|exact h0|exact key _)
theorem Gy{α:Type}{l:Á α}{j:Ç}{y:α}(h:l[j]?=À y):j<l.length/\l.drop j=y::l.drop (j+1):=by obtain⟨q,e⟩:=Á.getElem?_eq_some_iff.mp h;exact⟨q,AP e<|Á.drop_eq_getElem_cons q⟩
theorem ZF{all:Á V}{j:Ç}(r:RR cx W s t)(hm:(I,o2)∈cx.D?)(it:G' p7 W H! all j o2):D4 (λn=>o2.cls=.type n) (λn=>n∈["tuple_iterator","list_iterator","dict_keyiterator","range_iterator"]) λn=>t.heap.get? I=À o2:=by x_go;obtain⟨h₀,led,m,x⟩:=r;have hg:=(x.N _ (x.D? (I,o2) hm).1).1;exact(aW it hg).el λn a b=>zk ⟨n,a,b,hg⟩
theorem YG{body:V->S->AN Internal.Flow}{all l:Á V}(h:AZ RX cx W ((NO body H! all l s).oB lk) G8 Q E):BH H! s=À all:=by induction l using Χ<;>exact Ae (P:=λx:AN Internal.Flow=>AZ RX cx W (x.oB lk) G8 Q E) h (λe Z=>e) λZ h=>h.elim
theorem Zq{body:V->S->AN Internal.Flow}{all:Á V}(hb:∀{W1:Wd}{s1:S}{t1:Ó}{I:Û}{o:ġ}{y:V}{w:PV}{Qb:PySem.Flow->Ó->Prop}{Eb:PV->Ó->Prop},Ao cx A_ k W1 env C? A->RR (O!.K? I o) W1 s1 t1->VR W1 y w->AZ RX (O!.K? I o) W1 (body y s1) G8 Qb Eb->wpAny cx.M A (assign target C? w) (λZ nV=>wpAny cx.M A (execs b C?) Qb Eb nV) Eb t1)(hl:OB λls ps=>O!=cx.I? ls ps) (H:Ao cx A_ k W env C? A) (r:RR (O!.K? I o) W s t) (it:G' O! W H! all 0 o) (st:CD cx O! W I) (n4:nn=cx.lk)(hR:∀f t',Qf f t'->Rr (.ok f) t')(h:AZ RX cx W ((NO body H! all all s).oB nn) G8 Qf E):ň cx.M A (.forLoop target (.ref I) b [] C?) Rr t:=by
 x_go;obtain⟨ls,ps,rfl⟩:=hl;have fin:∀{W1:Wd}{s1:S}{t1:Ó}{f:Internal.Flow}{g:PySem.Flow},W.Le W1->RR (cx.I? ls ps) W1 s1 t1->G8 W1 f g->AZ RX cx W1 ((AN.ok f s1).oB nn) G8 Qf E->Rr (.ok g) t1:=λ{W1 s1 t1 f g}le r1 hf h1=>by have:=r1.g? le st.out;replace h1:=n4▸h1;exact hR _ _<|h1.ok RX this hf
 refine zk<|codeAny_forLoop_any (prog:=cx.prog) (w:=cx.B.w) (λn t1=>cS (λj o1 W1 s1=>n+j=all.length) (λj o1 W1 s1=>W.Le W1) (λj o1 W1 s1=>RR ((cx.I? ls ps).K? I o1) W1 s1 t1) (λj o1 W1 s1=>G' (cx.I? ls ps) W1 H! all j o1) λj o1 W1 s1=>AZ RX cx W1 ((NO body H! all (all.drop j) s1).oB nn) G8 Qf E) (λn t1 hI=>?_) all.length ⟨0,o,W,s,Ä,.refl W,r,it,by simpa using h⟩;x_go;obtain⟨j,o1,W1,s1,hn,le,r1,rk,h1⟩:=hI;have JY:=st.C! le;have hi:=YG h1;refine zk<|QY (cx:=cx.I? ls ps) H.a.hh r1 JY.nQ JY.nz JY.fresh JY.D? JY.cmp rk hi (λy w o2 t2 hy tG r2 hv=>?_) λt2 hle r2=>?_;.have pE:=(Gy hy).1;have hd:=(Gy hy).2;replace h1:=hd▸h1;rw[Kj hi]at h1;have hg:=ZF r2 (.head _) tG;x_go;obtain⟨nm,g1,g2,g3⟩:=hg;refine zk<|M7 g3 g1 g2<|hb (H.C! le) r2 hv ?_;generalize q:body y s1=zc at h1;induction zc with
  |ok f s2=>
   intro W2 g t3 mS r3 hf;have pC:=le.trans mS;have Y2:=st.C! pC;have up:RR (cx.I? ls ps) W2 s2 t3:=r3.tN Y2.nz Y2.D? Y2.cmp;induction f<;>induction g<;>first|exact â hf id|skip
   .exact ⟨n-1,(NY hn pE).1,j+1,o2,W2,s2,(NY hn pE).2,pC,r3,tG.C! mS,AZ.le RX mS h1⟩
   .exact fin pC up (f:=.next) (g:=.next) Þ<|AZ.le RX mS h1
   .exact ⟨n-1,(NY hn pE).1,j+1,o2,W2,s2,(NY hn pE).2,pC,r3,tG.C! mS,AZ.le RX mS h1⟩
   .exact fin pC up hf<|AZ.le RX mS h1|exc _ _=>exact h1.elim|C_=>exact h1.elim
 .have hd:all.drop j=[]:=Á.drop_eq_nil_of_le hle;replace h1:=hd▸h1;rw[Vk hi]at h1;exact ĺ (fin le r2 (f:=.next) (g:=.next) Þ h1)
end
end Mine.Internal
end
section
open PySem PySem.W PyProof.Rows PySem.Calls PyProof.V
namespace Mine.Internal
theorem PU(h:es.all noStar=Å):(assignEach es C?).length=es.length/\(assignEach es C?).findIdx? (·.1)=È:=by induction es with|nil=>exact⟨Ä,Ä⟩|cons e q ih=>have h:=S7 h;have ih:=ih h.2;refine AA (HQ (q:=q) (C?:=C?) h.1) ⟨Â ſ ih.1,?_⟩;exact AA Á.findIdx?_cons<|AA (ih.2 ..) Ä
section
variable{k d:Ç}
theorem eQ(H:Ao cx A_ k W env C? A)(r:RR cx W s t){n:Ï}(hn:n∈A6)(ho:VR W o ow)(hv:VR W v w)(he:cC o n v s=À s')(h:∀{t'},RR cx W s' t'->Q () t'):wpAny cx.M A (setAttr ow n w) Q E t:=by x_go;induction o using Internal.V.casesOn with
 |ref a=>
  obtain⟨_,rfl⟩:=ho.me;unfold cC at he;dsimp only at he;generalize e:s.h a=zc;rcases zc with _|c;.refine zk ?_;rw[e]at he;exact AY he
  .rw[e]at he;induction c with|inst c fs=>refine zk ?_;obtain rfl:=Ak he;exact SM H.G r e hn hv λt' r'=>h r'|_=>exact AY he
 |_=>exact AY he
theorem Xz(H:Ao cx A_ k W env C? A)(r:RR cx W s t)(ho:VR W o ow)(hi:VR W i iw)(hv:VR W v w)(he:cB o i v s=À s')(h:∀{t'},RR cx W s' t'->Q () t'):wpAny cx.M A (setItem ow iw w) Q E t:=by x_go;induction o using Internal.V.casesOn with
 |ref a=>
  obtain⟨_,rfl⟩:=ho.me;unfold cB at he;dsimp only at he;generalize e:s.h a=zc;rcases zc with _|c;.refine zk ?_;rw[e]at he;exact AY he
  .rw[e]at he;induction c with
   |list l=>induction i using Internal.V.casesOn with|int n=>obtain⟨u,rfl⟩:=BY hi;obtain⟨l',e2,rfl⟩:=OG he;exact zk<|Iy r e e2 hv λt' r'=>h r'|_=>exact AY he
   |dict l=>
    dsimp only at he;by_cases hc:l.length<G_/\a∉s.lk;.rw[Î hc]at he;obtain⟨l',e2,rfl⟩:=OG he;exact zk<|Iz r H.qo e hi hv e2 hc.1 hc.2 λt' r'=>h r'
    .rw[Ì hc]at he;exact AY he|_=>exact AY he
 |_=>exact AY he
end
noncomputable abbrev H7(ifs:Á ì)(env:Ů):Sem Ë:=forIn ifs Å λc r=>if r=Å then do let ok<-isTrue c env<|eval c env;pure (ł ok)else pure<|ł r
theorem Ls{elt target iter:ì}(hE:E=notedBy (model prog w) A env λe s'=>R (.error e) s')(I:Ç->Ó->Prop)(turn:∀n s,I n s->wpAny (model prog w) A (pyNext it) (λr nE=>match r with|È=>R (.ok .next) nE|À v=>wpAny (model prog w) A (letOwnedTupleGo target it v) (λZ rf=>wpAny (model prog w) A (assign target env v) (λZ nV=>wpAny (model prog w) A (H7 ifs env) (λok nB=>if ok=Å then wpAny (model prog w) A (eval elt env) (λx nh=>wpAny (model prog w) A (call (.builtin "list.append") [acc,x]) (λZ q6=>∃m,m<n/\I m q6) E nh) E nB else∃m,m<n/\I m nB) E nV) E rf) E nE) E s)(n:Ç) (h:I n s):ň (model prog w) A (.compLoop (.ListComp elt [⟨target,iter,ifs,0⟩] scope pos) 0 it acc env) R s:=by
 subst hE;refine codeAny_loop Ä I (λn s hI=>?_) n h;show wpAny _ A ((compTurn (.ListComp elt [⟨target,iter,ifs,0⟩] scope pos) 0 it acc env).onRaise λx=>do noteFrame x env;theTreesLotGoes x) _ _ s;refine wpAny_noted ?_;refine AA (compTurn_list ..)<|É<|ĩ<|É<|ö (turn n s hI) (λr nE mU=>?_) λZ Z h'=>h';rcases r with _|v;.exact Ô mU
 .refine É<|ö mU (λZ rf tc=>?_) λZ Z h'=>h';refine É<|ö tc (λZ nV qQ=>É<|ö qQ (λok nB oG=>?_) λZ Z h'=>h') λZ Z h'=>h';rcases ok with _|_;.exact Ô ⟨Ä,oG⟩
  .exact É<|É<|ö oG (λx nh sY=>É<|ö sY (λZ q6 sX=>Ô<|Ô ⟨Ä,sX⟩) λZ Z h'=>h') λZ Z h'=>h'
theorem G'.cx{cx p7:Cx}{W:Wd}{v:V}{l:Á V}{j:Ç}{o:ġ}(hp:∀p∈cx.D?,p∈p7.D?)(hl:p7.lk=cx.lk)(h:G' cx W v l j o):G' p7 W v l j o:=by induction h with|D! a b c d=>exact .D! a b c d|list a a' b c=>exact .list a (by exact AA hl a') b c|keys a b b' c d e f=>exact .keys a (hp _ b) (by exact AA hl b') c d e f|range h=>exact .range h
theorem St{all:Á V}:∀{acc:Á V}{s s':S}{r:Á V},EN elt H! all l acc s=.ok r s'->acc.length<=r.length:=by induction l with
 |nil=>
  intro acc s s' r h;by_cases e:BH H! s=À all;.exact AP (AN.oE<|(Î e).symm.trans h).1<|ä _
  .exact AN.mQ<|(Ì e).symm.trans h|cons v q ih=>
  intro acc s s' r h;by_cases e:BH H! s=À all
  .replace h:=(Î e).symm.trans h;revert h;rcases elt v s with⟨_|w,s1⟩|_|_;.exact λh=>ih h
   .exact λh=>Ñ (by exact AA Õ<|ë _ _)<|ih h
   .exact λh=>AN.mQ h
   .exact λh=>AN.mQ h
  .exact AN.mQ<|(Ì e).symm.trans h
theorem Sq{k:Ç}{cl:Á<|Ï×Ad}(H:Ao cx A_ k W env C? A)(ho:GA sc=Å)(hc:Ch env sc.names=À cl):Ao (cx.comp C m F?) A_ k W ⟨sc,cl⟩ (compEnvC sc (Ag C?.cells sc.names []) C C?) A:=by
 unfold GA at ho;x_go;obtain⟨o1,o3⟩:=AB ho;obtain⟨o1,o2⟩:=AB o1;have b?:∀x kd,sc.names.lookup x=À kd->Bz x=Å/\kd≠.cell:=λx kd h=>by
  x_go;obtain⟨p,hp,e⟩:∃p∈sc.names,p=(x,kd):=by
   have:∀(l:Á<|Ï×á),l.lookup x=À kd->(x,kd)∈l:=by intro l;induction l with|nil=>intro h;exact AY h|cons p r ih=>intro h;x_go;obtain⟨y,ky⟩:=p;rw[ð]at h;cases q:x==y with|true=>refine zk ?_;rw[q]at h;obtain rfl:=Ak h;have:=à q;subst this;exact .head _|false=>refine zk ?_;rw[q]at h;exact .tail _<|ih h
   exact⟨_,this _ h,Ä⟩
  subst e;have:=Hp o1 _ hp;simp only[ù,Ĕ,beq_eq_false_iff_ne]at this;exact zk<|this
 have vd:∀x,Ů.kindOf (compEnvC sc (Ag C?.cells sc.names []) C C?) x=(relabel sc C?).names.lookup x:=λx=>Ä;refine zk<|⟨⟨H.G.X,H.G.T,H.G.cls⟩,H.c?,H.n3,⟨à o2,λx h=>?_,λx h=>â Ä (b? x _ h).2,λx h=>?_,λx h=>?_,(GJ H.e.cells hc).2,Ä,H.e.globals,H.e.builtins,H.e.frame,H.e.gl⟩,⟨H.a.hh,H.a.fr,H.a.depth,H.a.units⟩,λx kd h=>(b? x kd h).1,?_,H.blt,λx hx Z=>?_,λe=>by cases e⟩;.exact AA (vd ..)<|(DU h).trans Ä
 .refine AA (vd ..) ?_;have:=DU (env:=C?) h;unfold relabel;refine AA this ?_;split;.exact .inl Ä
  .exact .inr Ä
 .exact AA (vd ..)<|(DU h).trans Ä
 .unfold interactive;have:(compEnvC sc (Ag C?.cells sc.names []) C C?).scope.kind=.function:=à o2;exact AA this Ä
 .unfold Ed at hx;x_go;obtain⟨_,hx⟩:=AB hx;obtain⟨p,hp,hc⟩:=Á.any_eq_true.mp hx;have:=Hp o1 p hp;simp only[ù,Ĕ]at this;rw[this.2]at hc;exact CN hc
def bn(W:Wd):Ã V->Ã PV->Prop|È,È=>Ŀ|À v,À w=>VR W v w|_,_=>Ń
inductive CI(Q!:Cx)(D I:Û)(H!:V)(all:Á V)(elt:V->S->AN (Ã V))(rs:Á V)(sr:S)(W:Wd)(n:Ç)(t1:Ó):Prop|mk (j:Ç) (o1:ġ) (acc:Á V) (ws:Á PV) (nD:Ç) (W1:Wd) (s1:S) (hn:n+j=all.length) (le:W.Le W1) (r:RR ((Q!.K? D<|listOf (Ś ws) nD).K? I o1) W1 s1 t1) (it:G' Q! W1 H! all j o1) (va:mR W1 acc ws) (e:EN elt H! all (all.drop j) acc s1=.ok rs sr):CI Q! D I H! all elt rs sr W n t1
section
variable{k d:Ç}{cx:Cx}
theorem G'.xZ{n:Ç}{j:Ç}(h:G' (cx.K? D<|listOf a n) W v l j o):G' cx W v l j o:=by induction h with
 |D! a b c d=>exact .D! a b c d|list a a' b c=>exact .list a a' b c|@keys a l j ep o od es ha hp hl hd hs hc oV=>
  refine .keys ha ?_ hl hd hs hc oV;rcases Bt hp with e|e;.cases e;cases hd
  .exact e|range h=>exact .range h
theorem WC{all l acc r:Á V}(h:EN elt H! all l acc s=.ok r s'):BH H! s=À all:=by induction l using Χ<;>exact Ae (P:=(·=AN.ok r s')) h (λe Z=>e) λZ h=>AN.mQ h
theorem Oi{tg e iter:ì}{all:Á V}(hb:∀{X:Cx}{W1:Wd}{s1:S}{t1:Ó}{y:V}{w:PV}{Qb:Ã PV->Ó->Prop}{Eb:PV->Ó->Prop},X.M=Q!.M->Ao X A_ k W1 env C? A->RR X W1 s1 t1->VR W1 y w->AZ RX X W1 (elt y s1) bn Qb Eb->wpAny Q!.M A (assign tg C? w) (λZ nV=>wpAny Q!.M A (H7 fs C?) (λok nB=>if ok=Å then wpAny Q!.M A (eval e C?) (λx nh=>Qb (À x) nh) Eb nB else Qb È nB) Eb nV) Eb t1)(H:Ao Q! A_ k W env C? A) (r:RR ((Q!.K? D<|listOf #[] 0).K? I o) W s t) (it:G' Q! W H! all 0 o)(yy:∀q∈Q!.D?,q.1≠D) (xP:Q!.cmp≠À D) (p?:∀q∈Q!.D?,q.1≠I) (yw:Q!.cmp≠À I) (uK:I≠D) (yv:I∉Q!.free) (hp:∀p∈Q!.D?,C5 Q! W p) (hf:∀C,Q!.cmp=À C->C∈Q!.free)(qT:EN elt H! all all [] s=.ok rs sr) (hlen:rs.length<G_)(fin:∀W' t' ws n,W.Le W'->RR (Q!.K? D<|listOf ws n) W' sr t'->mR W' rs ws.toList->Rr (.ok .next) t'):ň Q!.M A (.compLoop (.ListComp e [⟨tg,iter,fs,0⟩] scope pos) 0 (.ref I) (.ref D) C?) Rr t:=by
 have vN:∀{W1:Wd}{oD:ġ},W.Le W1->∀p∈(Q!.K? D oD).D?,C5 (Q!.K? D oD) W1 p:=λ{W1 oD}le p nF=>by
  rcases Bt nF with e|e;.subst e;exact⟨.inl<|.head _,xP⟩
  .have:=(hp p e).C! le;exact⟨this.1.imp (.tail _) id,this.2⟩
 have nI:∀{oD:ġ},∀q∈(Q!.K? D oD).D?,q.1≠I:=λ{oD}q hq=>by
  rcases Bt hq with e|e;.subst e;exact λe=>uK e.symm
  .exact p? q e
 have fI:∀{oD:ġ},I∉(Q!.K? D oD).free:=λ{oD}h=>by
  rcases Bt h with e|e;.exact uK e
  .exact yv e
 have fC:∀{oD:ġ},∀C,(Q!.K? D oD).cmp=À C->C∈(Q!.K? D oD).free:=λ{oD}C hC=>.tail _<|hf C hC;refine Ls (prog:=Q!.prog) (w:=Q!.B.w) Ä (CI Q! D I H! all elt rs sr W) (λn t1 hI=>?_) all.length ⟨0,o,[],[],0,W,s,Ä,.refl W,r,it,.nil,by simpa using qT⟩;x_go;obtain⟨j,o1,acc,ws,nD,W1,s1,hn,le,r1,rk,oO,h1⟩:=hI;have hi:=WC h1;refine zk<|QY (cx:=Q!.K? D<|listOf ws.toArray nD) H.a.hh r1 nI yw fI (vN le) fC (rk.cx (λp hp=>.tail _ hp) Ä) hi (λy w o2 t2 hy tG r2 hv=>?_) λt2 hle r2=>?_
 .have pE:=(Gy hy).1;have hd:=(Gy hy).2;replace h1:=hd▸h1;rw[JM hi]at h1;have hg:=ZF r2 (.head _) tG;x_go;obtain⟨nm,g1,g2,g3⟩:=hg;have uv:G' Q! W1 H! all (j+1) o2:=G'.xZ tG;refine zk<|M7 (cx:=Q!) g3 g1 g2<|ö (hb (X:=(Q!.K? D<|listOf ws.toArray nD).K? I o2) (Qb:=λx nh=>match x with|À x=>wpAny Q!.M A (call (.builtin "list.append") [.ref D,x]) (λZ q6=>∃m,m<n/\CI Q! D I H! all elt rs sr W m q6) (notedBy (model Q!.prog Q!.B.w) A C? λe s'=>Rr (.error e) s') nh|È=>∃m,m<n/\CI Q! D I H! all elt rs sr W m nh) Ä (((H.C! le).K? D _).K? I o2) r2 hv ?_) (λZ nV qQ=>ö qQ (λok nB oG=>?_) λZ Z x=>x) λZ Z x=>x;.generalize q:elt y s1=zc at h1;induction zc with
   |ok x s2=>
    intro W2 x' t3 mS r3 hx;have pC:=le.trans mS;rcases x with _|v
    .rcases x' with _|_;.exact ⟨n-1,(NY hn pE).1,j+1,o2,acc,ws,nD,W2,s2,(NY hn pE).2,pC,r3,uv.C! mS,oO.C! mS,h1⟩
     .exact â hx id
    .rcases x' with _|w';.exact â hx id
     .have hl:=St h1;have vp:=oO.length;refine M6 (cx:=Q!.K? I o2) (RR.swap r3) (λq hq=>?_) xP ?_ λt4 r4=>?_
      .rcases Bt hq with e|e;.subst e;exact uK
       .exact yy q e
      .exact AA vp<|LS hlen<|ő<|Ñ (ë _ _)<|Õ▸hl
      .exact ⟨n-1,(NY hn pE).1,j+1,o2,acc++[v],ws++[w'],nD+1,W2,s2,(NY hn pE).2,pC,RR.swap r4,uv.C! mS,(oO.C! mS).append<|.cons hx .nil,h1⟩|exc _ _=>cases h1|C_=>cases h1
  .rcases ok with _|_;.rw[Ì ŉ]at oG⊢;exact oG
   .rw[Î Ä]at oG⊢;exact oG
 .have hd:all.drop j=[]:=Á.drop_eq_nil_of_le hle;replace h1:=hd▸h1;rw[Ss hi]at h1;obtain⟨⟩:=h1;exact fin W1 t2 ws.toArray nD le r2<|by simpa using oO
end
section
variable{k d:Ç}
theorem BW.p8(x:BW cx W s t h₀ led m)(le:W.Le W')(hx:DJ cx.cmp led F?)(hc:cx.cmp≠À Cn)(yj:cx.cmp≠À D)(r:RR ((cx.comp Cn m F?).K? D oD) W' s' t'):Hb (λoC mC=>bq oC mC) λoC mC=>RR ((cx.K? Cn oC).K? D oD) W' {s' with A!:=s.A!} t':=by
 x_go;obtain⟨g,F!,m',y⟩:=r;have hm:m'=m:=y.rest.2.1 Cn Ä;subst hm;rcases y.A! with⟨e,_⟩|⟨C',oC,mC,e,_,n1,n2,_⟩;.exact GO<|show À Cn=È from e
 obtain rfl:=Ak<|show À Cn=À C' from e;have R:=y.R;refine zk<|⟨oC,mC,n2,g,F!,m',⟨y.F,y.N,⟨y.G.B,y.G.P!⟩,⟨R.nd,R.mM,R.cells,R.mG,R.fresh,R.own,R.my,R.n6,R.oP,R.tab⟩,?_,λp hp=>?_,y.rest.1,x.rest.2.1,y.rest.2.2⟩⟩
 .have h:=My x.A! hx x.R.nd le λp hp=>(y.D? p<|.tail _<|æ _ hp).1;rcases h with⟨e,h⟩|⟨C,oC,mC,e,hC,h1,h2,h3⟩;.exact .no e h
  .exact .co C oC mC e (.tail _<|.tail _ hC) h1 h2 h3
 .rcases Bt hp with e|e;.subst e;exact⟨(y.D? _<|.head _).1,.inl<|.head _,yj⟩
  .rcases Bt e with e|e;.subst e;exact⟨n1,.inl<|.tail _<|.head _,hc⟩
   .have:=(x.D? p e).2.C! le;exact⟨(y.D? p<|.tail _<|Ö _ e).1,this.1.imp (λz=>.tail _<|.tail _ z) id,this.2⟩
theorem BW.F?(x:BW cx W s t h₀ led m):BM (λF?=>DJ cx.cmp led F?) λF?=>∀p∈F?,cx.cmp=À p.1/\p∈led:=by
 rcases x.A! with⟨e,_⟩|⟨C,oC,mC,e,hC,h2,_,_⟩;.exact ⟨[],.no e Ä,λp hp=>â hp ã⟩
 .exact ⟨[(C,oC)],.co C oC e Ä h2,λp hp=>by rcases OF hp with rfl;exact⟨e,h2⟩⟩
theorem X4{j:Ç}(hg:t.heap.get? I=À o)(it:G' cx W v l j o)(hk:∀a,a∉cx.lk\/v≠.ref a)(h:Q (.ref I) t):wpAny cx.M A (pyIter<|.ref I) Q E t:=by x_go;cases it with|D! a b c d=>exact zk<|wpAny_pyIter_tupleiter (t:=_) ⟨o,hg,c,d⟩ h|list a a' b c=>exact zk<|wpAny_pyIter_listiter (l:=_) ⟨o,hg,b,c⟩ h|@keys a l j ep o od es a1 hp hl hd hs hc oV=>exact((hk a).elim (λq=>q hl) λq=>q Ä).elim|range hr=>exact zk<|wpAny_pyIter_rangeiter (hr _ _ hg) h
theorem BW.tW(x:BW cx W s t h₀ led m)(ho:o.isFreed=Æ)(hn:h'.Ns t.heap.objs.size λZ=>È)(hs:ŏ t.heap.objs.size (t.heap.push o) h'):D4 (λoC=>Fr h₀ cx.L h' m) (λoC=>ĵ h₀ cx.L h'<|(t.heap.objs.size,oC)::led) λoC=>bq oC λZ=>È:=by x_go;obtain⟨oC,es,ep,h1,h2,h3,h4⟩:=hn;have hk:∀b q,t.heap.get? b=À q->h'.get? b=À q:=λb q e=>(hs.2 b<|Č<|ï e).trans<|ß _ e;exact zk<|⟨oC,⟨x.F.ns.keeps hk,λb q e=>hk _ _<|x.F.keep b q e,x.F.above⟩,news_pushed x.F x.N hk h1 Ä,⟨es,ep,h2,h3,h4⟩⟩
theorem MU{elt:V->S->AN (Ã V)}{O!:Cx}{I:Û}{o:ġ}{tg e iter:ì}{fs:Á ì}{sc:Ō}{pos:ń}{H!:V}{all:Á V}{cl:Á<|Ï×Ad}{Rr:PV->Û->Result->Ó->Prop}{E:PV->Ó->Prop}(H:Ao O! A_ k W env C? A) (oc:GA sc=Å) (nf:Ch env sc.names=À cl)(hb:∀{X:Cx}{W1:Wd}{s1:S}{t1:Ó}{C?:Ů}{y:V}{w:PV}{Qb:Ã PV->Ó->Prop}{Eb:PV->Ó->Prop},Ao X A_ k W1 ⟨sc,cl⟩ C? A->RR X W1 s1 t1->VR W1 y w->AZ RX X W1 (elt y s1) bn Qb Eb->wpAny X.M A (assign tg C? w) (λZ nV=>wpAny X.M A (H7 fs C?) (λok nB=>if ok=Å then wpAny X.M A (eval e C?) (λx nh=>Qb (À x) nh) Eb nB else Qb È nB) Eb nV) Eb t1)(r:RR (O!.K? I o) W s t) (it:G' O! W H! all 0 o) (st:CD cx O! W I) (hk:∀a,a∉O!.lk\/H!≠.ref a){rs:Á V}{sr:S}(qT:EN elt H! all all [] {s with A!:=λZ=>È}=.ok rs sr) (hlen:rs.length<G_)(fin:∀D Cn oC mC W' t',bq oC mC->W.Le W'->RR (O!.K? Cn oC) W' {sr with A!:=s.A!,h:=Dj sr.h (.list sr.nx)<|.list rs,nx:=sr.nx+1} t'->VR W' (.ref<|.list sr.nx) (.ref D)->O!.cmp≠À Cn->Cn∉O!.free->(∀q∈O!.D?,q.1≠Cn)->Rr (.ref D) Cn (.ok .next) t'):wpAny O!.M A (newList []) (λacc nB=>wpAny O!.M A (newFunctionEnv sc C?.globals (Ag C?.cells sc.names []) [] C?.qual È .none<|À C?) (λuP nh=>ň O!.M A (.compStart (.ListComp e [⟨tg,iter,fs,0⟩] sc pos) 0 (.ref I) acc {uP with scope:=relabel sc C?}) (Rr acc uP.locals) nh) E nB) E t:=by
 have qu:=oc;unfold GA at qu;x_go;obtain⟨q1,q3⟩:=AB qu;obtain⟨q1,q2⟩:=AB q1;have pI:∀x∈sc.names,x.2≠.cell:=λx hx=>by have:=Hp q1 x hx;simp only[ù,Ĕ,beq_eq_false_iff_ne]at this;exact this.2
 obtain⟨h₀,led,m,x⟩:=r;refine zk<|newList_K x.F x.N (λD h' F' N' lt=>?_)<|è _;x_go;obtain⟨rD,W8⟩:=x.tR (k:=t.toks) F' N' lt;obtain⟨mU,pR,Z?,x1⟩:=rD;have x2:BW ((O!.K? D<|listOf #[] 0).K? I o) W s {t with heap:=h'} mU pR Z?:=by
  refine x1.T_ (cx:=(O!.K? I o).K? D<|listOf #[] 0) (f:=I::D::O!.free) (ps:=(I,o)::(D,listOf #[] 0)::O!.D?) (λy hy=>?_) (λq hq=>?_) λC0 hC=>?_
  .rcases Bt hy with e|e;.subst e;exact .tail _<|.head _
   .rcases Bt e with e|e;.subst e;exact .head _
    .exact .tail _<|.tail _ e
  .rcases Bt hq with e|e;.subst e;exact⟨.tail _<|.head _,.inl<|.head _⟩
   .rcases Bt e with e|e;.subst e;exact⟨.head _,.inl<|.tail _<|.head _⟩
    .have:=(st.D? q e).1;exact⟨.tail _<|.tail _ e,this.imp (λz=>.tail _<|.tail _ z) id⟩
  .exact .tail _<|.tail _<|st.cmp C0 hC
 have x3:BW O! W s {t with heap:=h'} mU pR Z?:=x2.T_ (cx:=(O!.K? D<|listOf #[] 0).K? I o) (f:=O!.free) (ps:=O!.D?) (λy hy=>.tail _<|.tail _ hy) (λq hq=>⟨.tail _<|.tail _ hq,(st.D? q hq).1⟩) λC0 hC=>st.cmp C0 hC;obtain⟨F?,hx,pv⟩:=x3.F?;refine zk<|wpAny_newFunctionEnv pI (by intro y hy;simp at hy) (λh2 vm yJ=>?_)<|à q2;x_go;obtain⟨oC,F2,N2,nC⟩:=x2.tW (o:={cls:=.type "dict",data:=.dict #[]}) Ä vm yJ;have rC:∀p∈pR,p.1<h'.objs.size:=λp hp=>ï (x2.N p hp).1;have r3:=x2.comp (k:=t.toks+([]:Á<|Ï×PV).length) (F?:=F?) hx F2 N2 rC nC;have mI:=x2.D? (I,o)<|.head _;have mD:=x2.D? (D,listOf #[] 0)<|.tail _<|.head _;have xN:I≠h'.objs.size:=Č<|rC _ mI.1;have xQ:D≠h'.objs.size:=Č<|rC _ mD.1;have uK:I≠D:=λe=>W8.nQ (I,o) (.head _) e;have w5:h'.objs.size∉O!.free:=λh=>(x2.pj N2 rC).1<|x3.R.n6 _ h;have w4:∀q∈O!.D?,q.1≠h'.objs.size:=λq hq=>Č<|rC _ (x3.D? q hq).1;have vV:O!.cmp≠À h'.objs.size:=λe=>w5<|st.cmp _ e;have fD:D∉O!.free:=λh=>W8.fresh<|.tail _ h;have r4:RR (((O!.comp h'.objs.size Z? F?).K? D<|listOf #[] 0).K? I o) W {s with A!:=λZ=>È} {t with heap:=h2,toks:=t.toks+([]:Á<|Ï×PV).length}:=by
  refine RR.T_ (cx:=((O!.K? D<|listOf #[] 0).K? I o).comp h'.objs.size Z? F?) (f:=I::D::h'.objs.size::O!.free) (ps:=(I,o)::(D,listOf #[] 0)::(F?++O!.D?)) (λy hy=>?_) (λq hq=>?_) (λC0 hC=>?_) r3
  .simp only[ı]at hy;show y∈h'.objs.size::I::D::O!.free;simp only[ı];rcases hy with e|e|e|e;.exact .inr<|.inl e
   .exact .inr<|.inr<|.inl e
   .exact .inl e
   .exact .inr<|.inr<|.inr e
  .rcases Bt hq with e|e;.subst e;exact⟨Ö _<|.head _,.inl<|.head _⟩
   .rcases Bt e with e|e;.subst e;exact⟨Ö _<|.tail _<|.head _,.inl<|.tail _<|.head _⟩
    .rcases Hy e with e|e;.exact ⟨æ _ e,.inl<|.tail _<|.tail _<|.tail _<|st.cmp _ (pv q e).1⟩
     .exact ⟨Ö _<|.tail _<|.tail _ e,(st.D? q e).1.imp (λz=>.tail _<|.tail _<|.tail _ z) id⟩
  .obtain rfl:=Ak hC;exact .tail _<|.tail _<|.head _
 have uv:G' (O!.comp h'.objs.size Z? F?) W H! all 0 o:=it.cx (λp hp=>Ö _ hp) Ä;have yx:h2.get? I=À o:=by x_go;obtain⟨g,l4,m4,y4⟩:=r4;exact zk<|(y4.N _ (y4.D? (I,o)<|.head _).1).1
 have N?:∀t4,t4=({t with heap:=h2,toks:=t.toks+([]:Á<|Ï×PV).length}:Ó)->ň O!.M A (.compLoop (.ListComp e [⟨tg,iter,fs,0⟩] sc pos) 0 (.ref I) (.ref D)<|compEnvC sc (Ag C?.cells sc.names []) h'.objs.size C?) (Rr (.ref D) h'.objs.size) t4:=by
  rintro t4 rfl;refine Oi (RX:=RX) (Q!:=O!.comp h'.objs.size Z? F?) (env:=⟨sc,cl⟩) (k:=k) (A_:=A_) (λ{X W1 s1 t1 y w Qb Eb}hX HX rX hv hp=>?_) (Sq H oc nf) r4 uv (λq hq=>?_) (λe=>xQ (Ak e).symm) (λq hq=>?_) (λe=>xN (Ak e).symm) uK (λh=>?_) (λp hp=>?_) (λC0 hC=>?_) qT hlen λW' t' ws n le r' oO=>?_;.have:=hb HX rX hv hp;replace this:=hX▸this;exact this
  .rcases Hy hq with e|e;.exact λe'=>W8.nz<|AP e'<|(pv q e).1
   .exact W8.nQ q<|.tail _ e
  .rcases Hy hq with e|e;.exact λe'=>st.nz<|AP e'<|(pv q e).1
   .exact st.nQ q e
  .rcases Bt h with e|e;.exact xN e
   .exact st.fresh e
  .rcases Hy hp with e|e;.exact ⟨.inl<|.tail _<|st.cmp _ (pv p e).1,λe'=>(Č<|rC _ (pv p e).2) (Ak e').symm⟩
   .exact ⟨(st.D? p e).1.imp (.tail _) id,λe'=>w4 p e (Ak e').symm⟩
  .obtain rfl:=Ak hC;exact .head _
  .x_go;obtain⟨tT,xq,n1,r5⟩:=x3.p8 le hx vV W8.nz r';obtain⟨g5,l5,m5,y5⟩:=r5;have hl:rs.length=ws.toList.length:=oO.length.symm;obtain⟨W2,mS,d2,a2,r6⟩:=y5.W! (c:=.list rs) (λh=>(Bt h).elim (λe=>xQ e) fD) (λp hp=>by
    rcases Bt hp with e|e;.subst e;exact⟨.inl<|.head _,vV⟩
    .have:=(st.D? p e).C! le;exact⟨this.1.imp (.tail _) id,this.2⟩) (λC0 hC=>.tail _<|st.cmp C0 hC) λW2 mS e1 e2=>⟨ws.toList,n,by exact AA e1<|(y5.D? (D,_)<|.head _).1,oO.C! mS,by unfold G_ at hlen;unfold B8;lia⟩;exact zk<|fin D _ tT xq W2 t' n1 (le.trans mS) r6 (by have:=VR.ref (W:=W2) _ d2;rw[a2]at this;exact this) vV w5 w4
 exact zk<|codeAny_compStart_list (N? _ Ä) (X4 (cx:=O!) yx it hk<|N? _ Ä)
end
theorem Xs{β:Type}{l:Á<|Ï×β}{x:Ï}{b:β}:(l.map (·.1)).Nodup->(x,b)∈l->l.lookup x=À b:=by induction l with|nil=>exact λZ h=>Cv h|cons p r ih=>
  intro nd h;have nd:=Hx nd;refine AA ð ?_;rcases Bt h with e|e;.subst e;exact AA (Ċ ..) Ä
  .have mm:x∈r.map (·.1):=Et ⟨_,e,Ä⟩;have:x≠p.1:=λq=>nd.1 (show p.1∈r.map (·.1)from AP q mm);refine AA (ZR this) ?_;exact ih nd.2 e
section
variable{k d:Ç}
end
theorem ac{i:Í}(hk:(intKind prog w).is i v=Å):∃t,v=.int i t:=by cases v<;>simp[intKind,Ź]at hk;subst hk;exact⟨_,Ä⟩
theorem LZ{kvs:Á<|Í×PV}(hk:OJ W l kvs):∀{is:Á Í}{vs:Á PV},B1 (l.map (·.1))=À is->vs.length=kvs.length->(∀(j:Ç) (v:PV),vs[j]?=À v->∃k x,kvs[j]?=À (k,x)/\(intKind prog w).is k v=Å)->Α vs is:=by induction hk with|nil=>intro is vs h hl _;exact AA (Á.eq_nil_of_length_eq_zero hl)<|AP (Ak h) .nil|cons a b ih=>
  intro is vs h hl hv;obtain⟨js,h1,rfl⟩:=OG h;rcases vs with _|⟨v,vs⟩;.cases hl
  .obtain ⟨k,x,e,hk⟩:=hv 0 v Ä;obtain⟨rfl,_⟩:=ů<|Ak e;obtain⟨t,rfl⟩:=ac hk;exact .cons _ t<|ih h1 (Δ hl) λj u hu=>hv (j+1) u hu
section
theorem SY{is:Á Í}(h:B1 (k::r)=À is):∃i,k=.int i:=by induction k using Internal.V.casesOn with|int i=>exact⟨i,Ä⟩|_=>exact AY h
theorem Jj(G:cx.Gl)(oH:∃o,cx.B.base.get? Ő=À o)(hh:A.handled=È)(r:RR cx W s t){is:Á Í}(ha:s.h a=À (.dict l))(hi:B1 (l.map (·.1))=À is)(hl:is.length<64)(h:∀{W' w t'},W.Le W'->RR cx W' {s with h:=Dj s.h (.list s.nx)<|.list<|(Bw is).map .int,nx:=s.nx+1} t'->VR W' (.ref<|.list s.nx) w->Q w t'):wpAny cx.M A (call (.builtin "sorted") [.ref<|W.ad a]) Q E t:=by
 obtain⟨h₀,led,m,x⟩:=r;obtain⟨o,m1,oV,hz⟩:=x.R.cells _ _ ha;have lo:=x.oj G oH m1;have:BM (λkvs=>o.IsDictOf (intKind cx.B.prog cx.B.w) kvs) λkvs=>OJ W l kvs:=by
  rcases l with _|⟨p,q⟩;.exact ⟨[],Ee _<|Da oV,.nil⟩
  .obtain ⟨k,v⟩:=p;obtain⟨i,rfl⟩:=SY hi;exact oV.xV<|.inr ⟨i,v,q,Ä⟩
 obtain⟨kvs,h1,h2⟩:=this;obtain⟨ep,vC⟩:=(x.tab m1 h1).dictAt;have hlen:=h2.length;refine kdu_sorted (kdl_dict (knd:=intKind cx.B.prog cx.B.w) (kvs:=kvs) (ep:=ep) lo) hh x.F x.N vC (by exact AA hlen<|Yy hz) λB h' tk vs F' N' lt vo hv=>?_;have I:Α vs is:=LZ h2 hi (by exact AA vo Ä) hv;refine ksk_lsort (ns:=is) (vs:=vs) (news':=λo=>(B,o)::led) F' N' (λo=>.head λq hq e=>Ę _<|e▸lt q hq) (by simp) I hl λwo xo c wK wm wj I' e1 hp nZ Z=>?_;have:=IV hp nZ;subst this;obtain⟨W',le,d,e,r'⟩:=x.qM (c:=.list<|(Bw is).map .int) (k:=tk) wm wj lt λW' le e'=>⟨wo,c,by exact AA e'<|.head _,mR.b! I',by refine AA (Ð ..) ?_;rw[(F6 is).length_eq];simp[B8];omega⟩;exact h le r'<|.qI d e
end
section
variable{k:Ç}
def WN(x:Ï):Ã PV:=HW.lookup x
theorem UP{f:V->AN V}{l:Á V}{ws:Á PV}{G:Á PV->Prop}(hv:mR W l ws)(h:AZ RX cx W (a1 l f) VR Q E)(k:∀{v w},VR W v w->AZ RX cx W (f v) VR Q E->G [w]):G ws:=by cases hv with|nil=>exact h.elim|cons a b=>cases b with|nil=>exact k a h|cons _ _=>exact h.elim
theorem XM{f:V->V->AN V}{l:Á V}{ws:Á PV}{G:Á PV->Prop}(hv:mR W l ws)(h:AZ RX cx W (a2 l f) VR Q E)(k:∀{v w v' w'},VR W v w->VR W v' w'->AZ RX cx W (f v v') VR Q E->G [w,w']):G ws:=by cases hv with|nil=>exact h.elim|cons a b=>cases b with|nil=>exact h.elim|cons b c=>cases c with|nil=>exact k a b h|cons _ _=>exact h.elim
theorem Ge{α:Type}{o:Ã α}{f:α->AN V}{G:Prop}(h:AZ RX cx W (As o f) VR Q E)(k:∀x,o=À x->AZ RX cx W (f x) VR Q E->G):G:=by
 rcases o with _|x;.exact h.elim
 .exact k x Ä h
theorem dR{a b:V}{x y:PV}{f:Í->Í->AN V}{G:PV->PV->Prop}(ha:VR W a x)(hb:VR W b y)(h:AZ RX cx W (ae a b f) VR Q E)(k:∀i j u v,AZ RX cx W (f i j) VR Q E->G (.int i u) (.int j v)):G x y:=by cases a with
 |int i=>cases b with|int j=>obtain⟨u,rfl⟩:=BY ha;obtain⟨v,rfl⟩:=BY hb;exact k i j u v h|_=>exact h.elim
 |_=>exact h.elim
theorem PB{v:V}{l:Á V}{w:PV}{G:PV->Prop}(hv:VR W v w)(h:Mx v s=À l)(k:∀a,s.h a=À (.list l)->G (.ref<|W.ad a)):G w:=by cases v with|ref a=>obtain⟨_,rfl⟩:=hv.me;exact k a<|Fb h|_=>exact AY h
theorem Mj{v:V}{is:Á Í}{w:PV}{G:PV->Prop}(hv:VR W v w)(h:EW v s=À is)(k1:∀a l,s.h a=À (.list l)->B1 l=À is->G (.ref<|W.ad a))(k2:∀a l,s.h a=À (.dict l)->B1 (l.map (·.1))=À is->G (.ref<|W.ad a)):G w:=by cases v with
 |ref a=>
  obtain⟨_,rfl⟩:=hv.me;unfold EW at h;dsimp only at h;generalize e:s.h a=o at h;rcases o with _|c;.exact AY h
  .cases c with|list l=>exact k1 a l e h|dict l=>exact k2 a l e h|_=>exact AY h
 |_=>exact AY h
theorem Sd(H:Ao cx A_ k W env C? A)(r:RR cx W s t){x:Ï}(hx:Fd x=Å)(hf:WN x=À f)(hv:mR W l ws)(h:AZ RX cx W (builtin x l s) VR Q E):wpAny cx.M A (call f ws) Q E t:=by
 have fx:∀{n:Ï}{g:PV},x=n->WN n=À g->f=g:=λe b=>Ak<|hf.symm.trans<|AA e b;refine Ae (P:=λo=>AZ RX cx W o VR Q E) h (λe h=>?_) λZ h=>?_;.exact AA (fx e (g:=.builtin "len")<|by decide) (UP (G:=λws=>wpAny cx.M A (call (.builtin "len") ws) Q E t) hv h λa h=>Ge h λn hn h=>eV H.G r a hn H.n3 λr' hw=>h.ok RX r' hw)
 refine Ae (P:=λo=>AZ RX cx W o VR Q E) h (λe h=>?_) λZ h=>?_;.exact AA (fx e (g:=.builtin "max")<|by decide) (XM (G:=λws=>wpAny cx.M A (call (.builtin "max") ws) Q E t) hv h λa b h=>dR (G:=λx y=>wpAny cx.M A (call (.builtin "max") [x,y]) Q E t) a b h λi j u v h=>eU r H.a.hh λr' hw=>h.ok RX r' hw)
 refine Ae (P:=λo=>AZ RX cx W o VR Q E) h (λe h=>?_) λZ h=>?_;.exact AA (fx e (g:=.builtin "min")<|by decide) (XM (G:=λws=>wpAny cx.M A (call (.builtin "min") ws) Q E t) hv h λa b h=>dR (G:=λx y=>wpAny cx.M A (call (.builtin "min") [x,y]) Q E t) a b h λi j u v h=>eT r H.a.hh λr' hw=>h.ok RX r' hw)
 refine Ae (P:=λo=>AZ RX cx W o VR Q E) h (λe h=>?_) λZ h=>?_;.exact AA (fx e (g:=.builtin "sorted")<|by decide) (UP (G:=λws=>wpAny cx.M A (call (.builtin "sorted") ws) Q E t) hv h λa h=>Ge h λis hn h=>by
   refine Ae (P:=λo=>AZ RX cx W o VR Q E) h (λhc h=>?_) λZ h=>?_;.exact Mj (G:=λw=>wpAny cx.M A (call (.builtin "sorted") [w]) Q E t) a hn (λa l ha hn=>Ji r ha hn hc.1 hc.2 λle r' hw=>h.q9 RX le r' hw) λa l ha hn=>Jj H.G H.c? H.a.hh r ha hn hc.1 λle r' hw=>h.q9 RX le r' hw
   .exact h.elim)
 refine Ae (P:=λo=>AZ RX cx W o VR Q E) h (λe h=>?_) λZ h=>?_;.exact AA (fx e (g:=.type "list")<|by decide) (UP (G:=λws=>wpAny cx.M A (call (.type "list") ws) Q E t) hv h λa h=>Ge h λl hn h=>PB (G:=λw=>wpAny cx.M A (call (.type "list") [w]) Q E t) a hn λa ha=>U9 r ha λle r' hw=>h.q9 RX le r' hw)
 .exact h.elim
end
inductive WX(cx:Cx)(W:Wd):Ny->PV->Prop|fn (x:Ï) (f:Û):NB x=Å->cx.mg x=À (.ref f)->WX cx W (.fn x) (.ref f)|cls (x:Ï) (c:Û):Ka x=Å->cx.mg x=À (.ref c)->cx.B.cls x=À c->WX cx W (.cls x) (.ref c)|ml (c f:Û):cx.B.cls "Tasking"=À c->findIn cx.K (.ref c) "next_number"=À (À<|.ref f)->WX cx W (.ml "Tasking" "next_number") (.ref f)|mo (b:Ad):W.mM b->WX cx W (.mo b) (.ref<|W.ad b)
def D3(RX:Cx->Wd->S->V->PV->Ó->Prop)(A_:Ï->Ã V)(C:Dt)(k:Ç):Prop:=∀{cx:Cx}{W:Wd}{s:S}{t:Ó}{env:BJ}{C?:Ů}{A:ĕ}{tg:Ny}{f:PV}{l:Á V}{ws:Á PV}{Q:PV->Ó->Prop}{E:PV->Ó->Prop},Ao cx A_ k W env C? A->RR cx W s t->WX cx W tg f->mR W l ws->AZ RX cx W (C tg l s) VR Q E->wpAny cx.M A (call f ws []) Q E t
section
variable{k d:Ç}
theorem RR.uf(H:Ao cx A_ k W env C? A)(r:RR cx W s t):cx.K.In t.heap:=by obtain⟨h₀,led,m,x⟩:=r;exact(H.G.X.keeps x.G.stays).keeps x.F.keep
theorem RR.uO(r:RR cx W s t){ps:Á Ï}{cl:Á<|Ï×Ad}(h:s.h b=À (.mo ps bd sc cl)):FnAt (W.ad b) t.heap:=by x_go;obtain⟨h₀,led,m,x⟩:=r;obtain⟨o,name,qual,args,kV,doc,pm,an,cdv,ct,rl,h1,h2,h3,h4,h5⟩:=x.R.cells _ _ h;have:=(x.N _ h1).1;obtain⟨oc,od,dt,sl⟩:=o;simp only at h3;subst h3;exact zk<|⟨_,_,_,_,this⟩
theorem Gs(H:Ao cx A_ k W env C? A0)(r:RR cx W s t){x:Ï}(hg:cx.mg x=À v)(hk:env.kind x=À .globalImplicit)(hn:Bz x=Å)(h:Q v t):wpAny cx.M A (eval (.Name x pos) C?) Q E t:=by x_go;obtain⟨h₀,led,m,z⟩:=r;refine zk<|Ş H.e.kind (H.e.V? x hk) (loadGlobal_global (mg:=cx.mg) ?_ hg h)<|Ba hn;exact AA H.e.globals<|(H.G.T.g.keeps z.G.stays).keeps z.F.keep
theorem S4{x:Ï}(hx:Fd x=Å):D4 (λf=>WN x=À f) (λf=>(x,f)∈HW) λf=>(∃T,f=.type T)\/∃T,f=.builtin T:=by
 unfold Fd at hx;simp only[Ž,ı,ã,or_false,Ŭ]at hx;rcases hx with rfl|rfl|rfl|rfl|rfl;.exact ⟨.builtin "len",by decide,by decide,.inr ⟨_,Ä⟩⟩
 .exact ⟨.builtin "max",by decide,by decide,.inr ⟨_,Ä⟩⟩
 .exact ⟨.builtin "min",by decide,by decide,.inr ⟨_,Ä⟩⟩
 .exact ⟨.builtin "sorted",by decide,by decide,.inr ⟨_,Ä⟩⟩
 .exact ⟨.type "list",by decide,by decide,.inl ⟨_,Ä⟩⟩
end
theorem FC{m:Ï}(hb:JQ o=Å)(hp:(ap.endLine==pos.line)=Å)(hn:es.all noStar=Å)(hl:es.length<=25):eval (.Call (.Attribute o m ap) es [] pos) C?=(do
   let ov<-eval o C?
   standAt ap.atName let(f,first)<-holding [ov]<|getMethod ov m<|do return(<-importBound o C?).getD Å
   callWith pos f first (backTo pos<|Ļ es C?) []):=by
 have e1:methodCallForm (es.length+0) (backTo pos<|Ļ es C?) []=Å:=by
  unfold methodCallForm;have h1:(backTo pos<|Ļ es C?).all (λx=>!x.1)=Å:=by have:=(D6 (pos:=pos) (C?:=C?) hn).1;rw[Á.all_eq_true];intro x hx;rw[Á.any_eq_false]at this;have:=this x hx;simpa using this
  simp only[h1,Á.all_nil,Á.isEmpty_nil,if_true,Ë.true_and];exact Ü<|by lia
 have e2:methodCallPos Å o C? ap pos=pure pos:=by unfold methodCallPos;simp-iota only[hp,ś,if_true]
 have e3:backToKw pos (keywordEach [] C?)=[]:=Ä;have e0:∀n:Ç,es.length+([]:Á Keyword).length=es.length+0:=λZ=>Ä;refine AA (arm_eval_Call ..)<|AA (RA hb)<|AA e3 ?_;unfold methodCall;refine AA (e0 0)<|AA e1<|AA e2 ?_;simp only[pure_bind];rfl
section
variable{k d:Ç}
inductive OA:Ï->ş->Prop|append:OA "append" "list.append"|pop:OA "pop" "list.pop"|i_:OA "extend" "list.extend"
inductive OD:Ï->ş->Prop|get:OD "get" "dict.get"|pop:OD "pop" "dict.pop"|m_:OD "clear" "dict.clear"
theorem X'(H:Ao cx A_ k W env C? A)(r:RR cx W s t){m:Ï}{id:ş}(ha:s.h a=À (.list xs))(sj:OA m id)(hv:mR W l ws)(h:AZ RX cx W (QV m a xs l s) VR Q E):wpAny cx.M A (call (.builtin id) (.ref (W.ad a)::ws) []) Q E t:=by
 unfold QV at h;induction sj
 .rw[Î Ä]at h;exact UP (G:=λws=>wpAny cx.M A (call (.builtin "list.append") (.ref (W.ad a)::ws) []) Q E t) hv h λp h=>by
   refine Ae (P:=λo=>AZ RX cx W o VR Q E) h (λhz h=>?_) λZ h=>?_;.exact VA r ha p hz λt' r'=>h.ok RX r' .none
   .exact h.elim
 .rw[Ì<|by decide,Î Ä]at h;cases hv with|nil=>exact Ge h λv hl h=>eR r ha hl λw t' r' hw=>h.ok RX r' hw|@cons v w l ws p q=>cases v with
   |int k=>cases q with
    |nil=>
     obtain⟨_,rfl⟩:=BY p;refine Ae (P:=λo=>AZ RX cx W o VR Q E) h (λze h=>?_) λZ h=>?_
     .obtain rfl:=ze;rcases xs with _|⟨v,rs⟩;.exact h.elim
      .exact aS r ha λw t' r' hw=>h.ok RX r' hw
     .exact h.elim|cons _ _=>exact h.elim
   |_=>exact h.elim
 .rw[Ì<|by decide,Ì<|by decide,Î Ä]at h;exact UP (G:=λws=>wpAny cx.M A (call (.builtin "list.extend") (.ref (W.ad a)::ws) []) Q E t) hv h λ{v w}p h=>by cases v with
   |ref b=>
    obtain⟨_,rfl⟩:=p.me;exact Ge h λrr hb h=>by
     refine Ae (P:=λo=>AZ RX cx W o VR Q E) h (λZ h=>?_) λnO h=>?_;.exact h.elim
     .refine Ae (P:=λo=>AZ RX cx W o VR Q E) h (λhz h=>?_) λZ h=>?_;.exact U' r ha (Fb hb) nO hz λt' r'=>h.ok RX r' .none
      .exact h.elim|_=>exact h.elim
theorem YA(H:Ao cx A_ k W env C? A)(r:RR cx W s t){m:Ï}{id:ş}(ha:s.h a=À (.dict xs))(sj:OD m id)(hv:mR W l ws)(h:AZ RX cx W (V8 m a xs l s) VR Q E):wpAny cx.M A (call (.builtin id) (.ref (W.ad a)::ws) []) Q E t:=by
 unfold V8 at h;induction sj;.rw[Î Ä]at h;exact XM (G:=λws=>wpAny cx.M A (call (.builtin "dict.get") (.ref (W.ad a)::ws) []) Q E t) hv h λp q h=>Ge h λf hf h=>PH H.G H.c? r H.qo ha p q hf λw tk hw=>by cases f<;>exact h.ok RX (r.toks _) hw
 .rw[Ì<|by decide,Î Ä]at h;exact XM (G:=λws=>wpAny cx.M A (call (.builtin "dict.pop") (.ref (W.ad a)::ws) []) Q E t) hv h λp q h1=>Ge h1 λx hx h2=>Ge h2 λo hf h3=>Ge h3 λv ho h4=>Ge h4 λl' hd h5=>by
   subst ho;obtain rfl:=Dp hx;refine Ae (P:=λo=>AZ RX cx W o VR Q E) h5 (λpg h6=>?_) λZ h6=>?_;.exact PF r H.qo ha p hf hd pg λw t' r' hw=>h6.ok RX r' hw
   .exact h6.elim
 .rw[Ì<|by decide,Ì<|by decide,Î Ä]at h;cases hv with
  |nil=>
   rcases xs with _|⟨_,_⟩
   .refine Ae (P:=λo=>AZ RX cx W o VR Q E) h (λpg h=>?_) λZ h=>?_;.exact LV r ha pg λt' r'=>h.ok RX r' .none
    .exact h.elim
   .exact h.elim|cons _ _=>exact h.elim
theorem Uy{m:Ï}(h:Gn m=Å):D4 (λ(id:ş)=>OA m id) (λid=>Slot "list" m id) λid=>typeOf (.builtin id)=pure (.type "method_descriptor"):=by
 unfold Gn at h;simp only[Ž,ı,ã,or_false,Ŭ]at h;rcases h with rfl|rfl|rfl;.exact ⟨_,.append,PySem.F.slot_list_append,PySem.F.type_list_append⟩
 .exact ⟨_,.pop,PySem.F.slot_list_pop,PySem.F.type_list_pop⟩
 .exact ⟨_,.i_,PySem.F.slot_list_extend,PySem.F.type_list_extend⟩
theorem V7{m:Ï}(h:Go m=Å):D4 (λ(id:ş)=>OD m id) (λid=>Slot "dict" m id) λid=>typeOf (.builtin id)=pure (.type "method_descriptor"):=by
 unfold Go at h;simp only[Ž,ı,ã,or_false,Ŭ]at h;rcases h with rfl|rfl|rfl;.exact ⟨_,.get,PySem.F.slot_dict_get,PySem.F.type_dict_get⟩
 .exact ⟨_,.pop,PySem.F.slot_dict_pop,PySem.F.type_dict_pop⟩
 .exact ⟨_,.m_,PySem.F.slot_dict_clear,PySem.F.type_dict_clear⟩
theorem RR.dictAt(r:RR cx W s t)(ha:s.h a=À (.dict xs)):t.TypeIs (.ref<|W.ad a) "dict"/\D4 (λo=>t.heap.get? (W.ad a)=À o) (λo=>o.cls=.type "dict") λo=>o.dict=È:=by x_go;obtain⟨h₀,led,m,x⟩:=r;obtain⟨o,m1,hd,hz⟩:=x.R.cells _ _ ha;refine zk ?_;have:=hd.exact;exact⟨⟨o,(x.N _ m1).1,this.1⟩,o,(x.N _ m1).1,this.1,this.2.1⟩
end
section
variable (RX:Cx->Wd->S->V->PV->Ó->Prop)(A_:Ï->Ã V)(C:Dt)(k:Ç)
structure N7:Prop where
 pY:∀{cx:Cx}{W:Wd}{s:S}{t:Ó}{env:BJ}{C?:Ů}{A:ĕ}{v:V}{w:PV}{E:PV->Ó->Prop},Ao cx A_ k W env C? A->cx.cmp=È->RX cx W s v w t->(∀t',RX cx W s v w t'->E w t')->notedBy cx.M A C? (cameBackBy cx.M A C? E) w t
 pO:∀{cx:Cx}{W:Wd}{s:S}{t:Ó}{env:BJ}{C?:Ů}{A:ĕ}{a:ì}{np cp pos:ń}{Q:PySem.Flow->Ó->Prop}{E:PV->Ó->Prop},Ao cx A_ k W env C? A->cx.cmp=È->RR cx W s t->env.kind "Deadlock"=À .globalImplicit->noStar a=Å->wpAny cx.M A (eval a C?) (λw t'=>Ku (λW' s' v=>W.Le W') (λW' s' v=>RR cx W' s' t') (λW' s' v=>VR W' v w) λW' s' v=>∀e nt,RX cx W' s' v e nt->E e nt) E t->wpAny cx.M A (exec (.Raise (À<|.Call (.Name "Deadlock" np) [a] [] cp) È pos) C?) Q E t
 qF:∀{cx:Cx}{W:Wd}{s:S}{t:Ó}{env:BJ}{C?:Ů}{A:ĕ}{b:Á Đ}{n x:Ï}{np xp ap qE sp hp pos:ń}{Q:PySem.Flow->Ó->Prop}{E:PV->Ó->Prop},Ao cx A_ k W env C? A->cx.cmp=È->RR cx W s t->env.kind "Deadlock"=À .globalImplicit->env.kind n=À .local->env.kind x=À .local->x≠n->wpAny cx.M A (execs b C?) Q (λe t'=>Ku (λW' s' v=>W.Le W') (λW' s' v=>RX cx W' s' v e t') (λW' s' v=>s'.A! n=È) λW' s' v=>∀nt,RR cx W' (s'.set x v) nt->Q .next nt) t->wpAny cx.M A (exec (.Try b [.ExceptHandler (À<|.Name "Deadlock" np) (À n) [.Assign [.Name x xp] (.Attribute (.Name n ap) "tasks" qE) sp] hp] [] [] pos) C?) Q E t
end
theorem RV{x:Ï}{line:Ç}:swapsWith (.ListComp a b sc d) (À<|.Name x xp) line C?=pure Æ\/swapsWith (.ListComp a b sc d) (À<|.Name x xp) line C?=pure Å:=by
 obtain⟨B,hB⟩:∃B,swapsWith (.ListComp a b sc d) (À<|.Name x xp) line C?=pure B:=⟨_,Ä⟩;induction B;.exact .inl hB
 .exact .inr hB
set_option tactic.hygienic true in
theorem Jr{a b:Í}(l:Á PV)(h:TriplesOk l)(e:codeAmong pos (l++[Ē a,Ē b,c])=À cv):codeAmong pos l=À cv\/cv=c:=by fun_induction TriplesOk l with
 |case1=>
  simp only[τ,codeAmong,Ē]at e;split at e;.exact .inr (Ak e).symm
  .exact AY e|case2 a' t b' u x rest ih=>
  simp only[Ũ,codeAmong]at e⊢;split at e;.rename_i q;exact AA (Î q)<|.inl e
  .rename_i q;exact AA (Ì q)<|ih h e|case3 l h1 h2=>exact h.elim
def Wd.p9(W:Wd)(c:Û)(o:ġ):Wd:={W with L!:=λx=>if x=c then À o else W.L! x}
theorem Wd.rE{W:Wd}{c:Û}{o:ġ}(h:W.L! c=È):W.Le (W.p9 c o):=⟨λZ h=>h,λZ Z=>Ä,λZ Z=>Ä,λZ Z h=>h,Ä,Ä,λx o' h'=>(Ì λe:x=c=>by rw[e,h]at h';cases h').trans h'⟩
theorem RL.p9{B:DC}{free:Á Û}{W:Wd}{s:S}{led F!:Em}(R:RL B free W s led){q:Û×Û×Ï}(hq:q∈B.tabs){ps uh:ī PV}{c:Û}{oc:ġ}(hm:(q.2.1,tabObj ps)∈led)(fx:G7 B led c)(e1:F!.map (·.1)=led.map (·.1)) (e2:(q.2.1,tabObj uh)∈F!) (e3:∀p∈led,p.1≠q.2.1->p∈F!) (ht:TriplesOk uh.toList)(hc:∀pos cv,codeAmong pos uh.toList=À cv->codeAmong pos ps.toList=À cv\/cv=.ref c) (hn:Hb (λvs t=>oc.data=.fields vs) λvs t=>vs[1]?=À (.str q.2.2 t)):RL B free (W.p9 c oc) s ((c,oc)::F!)/\W.Le (W.p9 c oc):=by
 x_go;obtain⟨own,o1,o2,o3⟩:=R.own;have yh:W.L! c=È:=by
  generalize z:W.L! c=zc;rcases zc with _|o;.rfl
  .exact â (Et ⟨_,R.tab.code c o z,Ä⟩) fx.1
 have le:=Wd.rE (o:=oc) yh;have hP:own q.2.1=È:=o3 _<|.inr<|.inr ⟨q,hq,Ä⟩;have zd:q.2.1≠c:=λe=>fx.1<|e▸Et ⟨_,hm,Ä⟩;have up:∀x,x∈led.map (·.1)->x∈((c,oc)::F!).map (·.1):=λx h=>.tail _<|by exact AA e1<|h
 have nc:∀{x:Û},x∈led.map (·.1)->x≠c:=λh e=>fx.1<|e▸h;refine zk<|⟨⟨Um ⟨by exact AA e1 fx.1,by exact AA e1 R.nd⟩,R.mM,λa z hz=>?_,λx l h=>⟨?_,(R.mG x l h).2⟩,R.fresh,⟨λy=>if y=c then È else own y,λb hb=>?_,λx l h=>?_,λy hy=>?_⟩,R.my,λa h=>up _<|R.n6 a h,λa h=>up _<|R.oP a h,?_⟩,le⟩
 .have hd:=(R.mM a).mpr (by exact AA hz Ä);refine(R.cells a z hz).C! le hd λp hp qU=>.tail _<|e3 p hp λe=>?_;rcases qU with w|w;.have:=(o1 a hd).1;rw[<-w,e,hP]at this;exact AY this
  .have:=(o1 a hd).2;rw[<-w,e,hP]at this;exact AY this
 .rcases (R.mG x l h).1 with m|m;.refine .inl<|.tail _<|e3 _ m λe=>?_;have:=EX R.nd hm<|show(q.2.1,BB l)∈led from AP e m;cases this
  .exact .inr ⟨m.1,λz=>(Bt z).elim (λe=>by rw[e,fx.2]at m;cases m.1) λz=>m.2<|AP e1 z⟩
 .exact ⟨(Ì<|nc<|R.pZ hb).trans (o1 b hb).1,(Ì<|nc<|R.oP b hb).trans (o1 b hb).2⟩
 .by_cases e:x=c;.exact Î e
  .exact (Ì e).trans<|o2 x l h
 .by_cases e:y=c;.exact Î e
  .refine (Ì e).trans<|o3 y<|hy.imp id λz=>z.imp (λz=>by obtain⟨o,h⟩:=z;exact⟨o,(Ì e).symm.trans h⟩) id
 .refine ⟨λx o h=>?_,λq' qU=>?_,λa ha hl=>R.tab.nv a ha ?_,λq' qU=>?_,R.tab.tX⟩
  .have h':(if x=c then À oc else W.L! x)=À o:=h;by_cases e:x=c;.rw[Î e]at h';obtain rfl:=Ak h';exact AP e<|.head _
   .replace h':=Ì e▸h';exact .tail _<|e3 _ (R.tab.code x o h') λz=>by have:=R.tab.qh q hq;rw[<-z,h']at this;cases this
  .by_cases e:q'.2.1=q.2.1
   .have:q'=q:=by
     have nd:=R.tab.tX;have key:∀l:Á<|Û×Û×Ï,(l.map (·.2.1)).Nodup->q∈l->q'∈l->q'=q:=by intro l;induction l with|nil=>intro _ h;exact Cv h|cons p r ih=>
       intro nd h h';rw[ģ,Ų]at nd;rcases Bt h with a|a<;>rcases Bt h' with b|b;.exact AA a<|AA b Ä
       .exact â (Et ⟨q',b,by exact AA e<|AA a Ä⟩) nd.1
       .exact â (Et ⟨q,a,by exact AP e<|AA b Ä⟩) nd.1
       .exact ih nd.2 a b
     exact key _ nd hq qU
    subst this;x_go;obtain⟨wx,g1,g2,g3⟩:=R.tab.tabs q' qU;have:=EX R.nd g1 hm;obtain⟨⟩:=this;refine zk<|⟨uh,.tail _ e2,ht,λpos cv tK=>?_⟩;rcases hc pos cv tK with z|z;.x_go;obtain⟨c',qu,vs,t,k1,k2,k3,k4⟩:=g3 pos cv z;exact zk<|⟨c',qu,vs,t,k1,le.L! _ _ k2,k3,k4⟩
    .x_go;obtain⟨vs,t,k1,k2⟩:=hn;exact zk<|⟨c,oc,vs,t,z,Î Ä,k1,k2⟩
   .x_go;obtain⟨wx,g1,g2,g3⟩:=R.tab.tabs q' qU;refine zk<|⟨wx,.tail _<|e3 _ g1 e,g2,λpos cv tK=>?_⟩;x_go;obtain⟨c',qu,vs,t,k1,k2,k3,k4⟩:=g3 pos cv tK;exact zk<|⟨c',qu,vs,t,k1,le.L! _ _ k2,k3,k4⟩
  .rcases hl with⟨o,h⟩|h;.have h':(if a=c then À oc else W.L! a)=À o:=h;have:a≠c:=nc<|R.n6 a ha;replace h':=Ì this▸h';exact .inl ⟨o,h'⟩
   .exact .inr h
  .have:q'.2.1≠c:=nc<|R.tab.mem<|.inr ⟨q',qU,Ä⟩;exact(Ì this).trans<|R.tab.qh q' qU
theorem WU(h:(a.all λa=>a.annotation.isNone)=Å):annotationsOf a env=[]:=by induction a with|nil=>rfl|cons p r ih=>obtain⟨ar,an,x⟩:=p;simp only[Κ,ù,Ã.isNone_iff_eq_none]at h;obtain⟨rfl,h2⟩:=h;exact ih h2
theorem Os(h:HG ps=Å):ps=CV ps.args/\ps.defaults=[]/\ps.kw_defaults=[]/\∀env:Ů,annTrees ps È env=[]:=by obtain⟨po,a,va,ko,kd,za,df⟩:=ps;unfold HG at h;simp only[ù,Á.isEmpty_iff,Ã.isNone_iff_eq_none]at h;obtain⟨⟨⟨⟨⟨⟨rfl,rfl⟩,rfl⟩,rfl⟩,rfl⟩,rfl⟩,h⟩:=h;refine⟨Ä,Ä,Ä,λenv=>?_⟩;show annotationsOf (a++[]++[]++[]++[]) env++[]=[];simp only[å,WU h]
section
variable{k d:Ç}
theorem BW.qH(H:Ao cx A_ k W env C? A)(x:BW cx W s t h₀ led m)(hm:(P,tabObj ps)∈led):t.heap.BuiltinsAt cx.mg P/\ý≠P/\t.heap.Ns ý cx.mg:=by
 have T:=H.G.T;have uB:=(T.g.keeps x.G.stays).keeps x.F.keep;x_go;obtain⟨bm,ob,b1,b2,b3,b4,b5,b6⟩:=T.bmain;have hz:=x.N _ hm;have vw:ý≠P:=λq=>by x_go;obtain⟨o,es,ep,e,hd,_⟩:=uB;rw[q,hz.1]at e;cases e;cases hd
 have wV:=x.F.keep _ _<|x.G.stays _ _ b3;have ym:bm≠P:=λq=>by rw[q,hz.1]at wV;cases wV;cases b4
 have yn:bm≠ý:=λq=>by x_go;obtain⟨o,es,ep,e,hd,_⟩:=T.g;rw[q,e]at b3;cases b3;rw[hd]at b6;cases b6
 exact zk<|⟨⟨bm,ob,b1,b2,yn,ym,wV,b4,b5,b6⟩,vw,uB⟩
end
theorem TU{ps:Á Ï}:∀{ws:Á PV},ps.length=ws.length->∀n∈ps,((ps.zip ws).lookup n).isSome=Å:=by induction ps with|nil=>intro ws _ n h;cases h|cons p r ih=>intro ws hl n hn;cases ws with|nil=>cases hl|cons w ws=>refine AA Á.zip_cons_cons<|AA ð ?_;cases e:n==p with|true=>rfl|false=>refine ih (by simpa using hl) n<|(Bt hn).resolve_left λq=>?_;rw[q,Ċ]at e;exact JZ e
theorem SI{l:Á<|Ï×PV}{x:Ï}(hx:x∉l.map (·.1)):l.lookup x=È:=by induction l with|nil=>rfl|cons q l ih=>obtain⟨y,v⟩:=q;have hx:=not_or.mp λh=>hx<|Á.mem_cons.mpr h;exact AA ð<|AA (ZR hx.1)<|ih hx.2
theorem RG{ps:Á Ï}:∀{ws:Á PV},ps.length=ws.length->ps.Nodup->∀{pre:Á<|Ï×PV},(∀n∈ps,n∉pre.map (·.1))->(ps.filterMap λn=>((pre++ps.zip ws).lookup n).map (n,·))=ps.zip ws:=by induction ps with|nil=>exact λZ Z Z Z=>Ä|cons p r ih=>
  intro ws hl nd pre hp;rcases ws with _|⟨w,ws⟩;.cases hl
  .have nd:=Hx nd;have e1:(pre++(p::r).zip (w::ws)).lookup p=À w:=by exact AA Á.lookup_append<|AA (SI<|hp p<|.head _)<|(ð ..).trans<|by exact AA (Ċ ..) Ä
   have:=ih (ws:=ws) (Δ hl) nd.2 (pre:=pre++[(p,w)]) λn hn h=>by rw[Ø]at h;exact(Hy h).elim (hp n<|.tail _ hn) λe=>nd.1<|by have e:_=p:=OF e;exact AP e hn
   rw[ô]at this;exact AA Á.filterMap_cons (AA e1 (Â ((p,w)::·) this))
theorem VF{α:Type}{c:Ë}{a b r:α}(h:c=Æ)(k:b=r):(if c=Å then a else b)=r:=by exact AA h k
theorem Vh{α β γ:Type}{l:Á α}{b:β}{f:α->β->Sem (ż β)}{k:β->Sem γ}{r:Sem γ}(h:l=[])(h2:k b=r):forIn l b f>>=k=r:=by subst h;exact h2
theorem Nu{name qual:Ï}{body:Á Đ}{rl:Á<|Ï×Û}(hl:ws.length=args.length)(nd:(args.map (·.arg)).Nodup):bindArgs (fnX name qual (CV args) body sc rl .none kV doc pm an cdv ct) ⟨ws,[]⟩=pure ((args.map (·.arg)).zip ws):=by
 have hw:(args.map (·.arg)).length=ws.length:=(Ð _).trans hl.symm;delta bindArgs;refine VF ?_<|VF ?_<|Vh ?_ ?_;.exact Ë.and_eq_false_iff.mpr<|.inl<|ā<|Ç.not_lt.mpr<|ű hw.symm
 .refine Â (λl=>!Á.isEmpty l)<|Á.filter_eq_nil_iff.mpr λn hn=>?_;have:=TU (ps:=args.map (·.arg)) hw n<|Á.mem_of_mem_take hn;exact λq=>JZ<|this.symm.trans<|Â Ã.isSome<|Ã.isNone_iff_eq_none.mp q
 .exact (Â (Á.zip _) Á.drop_nil).trans Á.zip_nil_right
 .refine Eq.trans (b:=pure (Á.filterMap (λn=>(((args.map (·.arg)).zip ws).lookup n).map (n,·)) (args.map (·.arg)++[]))) ⋯ ?_;exact AA (å ..)<|Â pure (RG (pre:=[]) hw nd λZ Z h=>Cv h)
structure Wh(cx:Cx)(A:ĕ)(mJ:Ů)(n:Ç):Prop where
 hh:A.handled=È
 fr:A.frames=À (mJ::cx.outer)fl:mJ.frame=À cx.L
 fk:mJ.scope.kind=.function
 depth:A.depth+20*n+30<recursionLimit
 units:A.units+100*n+250<cLine
structure Pp(RX:Cx->Wd->S->V->PV->Ó->Prop):Prop where J?:∀{cx:Cx}{W W':Wd}{s s':S}{t t':Ó}{h₀:ç}{led:Em}{m:Ï->Ã PV}{A:ĕ}{mJ m8:Ů}{L':Û}{F?:Em}{v:V}{w:PV}{n:Ç}{R:Result->Ó->Prop},BW cx W s t h₀ led m->W.Le W'->DJ cx.cmp led F?->Wh cx A mJ n->m8.frame=À L'->m8.scope.kind=.function->RX (cx.O? A mJ m L' F?) W' s' v w t'->(∀nt,RX cx W' {s' with A!:=s.A!} v w nt->R (.error w) nt)->wpAny cx.M (A.deeper m8) (leaving m8 w) (λZ oz=>R (.error w) oz) (λe' oz=>R (.error e') oz) t'
theorem Gf{names:Á<|Ï×á}:∀{n:Ç}{acc:Á<|Ï×Ad},(∀x∈names,x.2≠.cell)->AX n names acc=acc:=by induction names with|nil=>exact λZ=>Ä|cons p r ih=>exact λh=>(Ì<|h p<|.head _).trans<|ih λy hy=>h y<|.tail _ hy
theorem B5.zip{ps:Á Ï}(h:mR W l ws):B5 W (ps.zip l) (ps.zip ws):=h.f? (P:=λl ws=>∀ps:Á Ï,B5 W (ps.zip l)<|ps.zip ws) (λps=>by induction ps using Χ<;>exact .nil) (λa Z ih ps=>by induction ps using Χ with|nil=>exact .nil|cons p r=>exact .cons a<|ih r) ps
section
variable{n:Ç}
theorem NQ(x:BW cx W s t h₀ led m):BM (λF?=>DJ cx.cmp led F?) λF?=>∀p∈F?,p∈led/\p.1∈cx.free:=by
 rcases x.A! with⟨e,_⟩|⟨C,oC,mC,e,hC,h1,_,_⟩;.exact ⟨[],.no e Ä,λp hp=>â hp ã⟩
 .exact ⟨[(C,oC)],.co C oC e Ä h1,λp hp=>AA (OF hp) ⟨h1,hC⟩⟩
theorem Hm(H:Ao cx A_ (n+1) W env C? A0)(a:Wh cx A mJ n)(le:W.Le W'){qual:Ï}{rl:Á<|Ï×Û}{cl:Á<|Ï×Ad}(tH:DI sc=Å)(nf:DB W' cl rl)(qW:∀x,Ed sc x=Å->sc.names.lookup x=À .local->∃q∈cx.B.tabs,cdv=.ref q.1/\qual++".<locals>."++x=q.2.2):Ao (cx.O? A mJ m L' F?) A_ n W' ⟨sc,cl⟩ (envX qual sc L' fa cdv rl) (A.deeper<|envX qual sc L' fa cdv rl):=by
 have H':=H.C! le;unfold DI at tH;obtain⟨o1,o4⟩:=AB tH;obtain⟨o1,o3⟩:=AB o1;obtain⟨o1,o2⟩:=AB o1;have hk:(envX qual sc L' fa cdv rl).scope.kind=.function:=à o2;have E:Fz (cx.O? A mJ m L' F?) A_ W' ⟨sc,cl⟩ (envX qual sc L' fa cdv rl):=⟨hk,λx h=>h,λx h=>h,λx h=>.inr h,λx h=>h,nf,Ä,Ä,Ä,Ä,H'.e.gl⟩;have AO:k8 (cx.O? A mJ m L' F?) (A.deeper<|envX qual sc L' fa cdv rl) n:=by
  refine⟨a.hh,⟨_,Ġ a.fr,Ä,hk⟩,?_,?_⟩;.exact dp (k:=1) a.depth<|by decide
  .exact dp (k:=3) a.units<|by decide
 refine⟨⟨H.G.X,H.G.T,H.G.cls⟩,H'.c?,H'.n3,E,AO,λx kd h=>?_,?_,H'.blt,qW,λZ=>Ġ a.fr⟩
 .have key:∀l:Á<|Ï×á,l.lookup x=À kd->(x,kd)∈l:=by intro l;induction l with|nil=>intro h;exact AY h|cons p r ih=>intro h;obtain⟨y,ky⟩:=p;rw[ð]at h;cases q:x==y with|true=>rw[q]at h;obtain rfl:=Ak h;have:=à q;subst this;exact .head _|false=>rw[q]at h;exact .tail _<|ih h
  exact Hp o1 _<|key _ h
 .unfold interactive;have:(envX qual sc L' fa cdv rl).scope.kind=.function:=à o2;exact AA this Ä
set_option tactic.hygienic true in
theorem Nr{name qual:Ï}{rl:Á<|Ï×Û}(hd:f.defaults=[])(qd:args.map (·.arg)=f.params)(qy:f.params.Nodup)(hv:mR W l ws):∀binds,Ar f l=À binds->D4 (λrb=>Β t (fnX name qual (CV args) f.body f.scope rl .none kV doc pm an cdv ct) ⟨ws,[]⟩ rb) (λrb=>B5 W binds rb) λrb=>∀y∈rb,y.1∈f.params:=by
 intro binds hb;unfold Ar at hb;rw[hd]at hb;x_go;split at hb
 .rename_i hlen;simp only[Á.length_nil,Ç.add_zero]at hlen;have yS:l.length=f.params.length:=hlen;have tf:ws.length=args.length:=by exact AA hv.length<|AA yS<|AP qd<|AA (Ð ..) Ä
  simp only[å,Ã.some.injEq]at hb;subst hb;exact zk<|⟨f.params.zip ws,.of_eq<|by exact AA (Nu tf<|by exact AA qd qy)<|AA qd Ä,.zip hv,λy hy=>(σ hy).1⟩
 .exact AY hb
end
theorem Zc.mem{n0 k0 j:Ç}{cs:Á<|Ï×Ad}{rs:Á<|Ï×Û}(z:Zc n0 k0 j cs rs):∀x a,(x,a)∈cs->BM (λi=>i<j) λi=>a=.cell (n0+i):=by induction z with|nil=>intro x a h;exact Cv h|@cons j y cs rs z ih=>
  intro x a h;rcases Bt h with e|h;.cases e;exact⟨j,by lia,Ä⟩
  .obtain ⟨i,h1,h2⟩:=ih x a h;exact⟨i,by lia,h2⟩
theorem Mc{cs:Á<|Ï×Ad}:(∀x a,(x,a)∈cs->a≠b)->Bx f cs h b=h b:=by induction cs with|nil=>exact λZ=>Ä|cons p r ih=>exact λhn=>(Ì λe=>hn p.1 p.2 (.head _) e.symm).trans<|ih λy c hc=>hn y c<|.tail _ hc
theorem RL.bump{B:DC}{free:Á Û}{W:Wd}{s:S}{led:Em}(R:RL B free W s led)(k:Ç):RL B free W {s with nx:=s.nx+k} led:=⟨R.nd,R.mM,R.cells,R.mG,λa h=>R.fresh a<|by have:s.nx+k<=a.num:=h;lia,R.own,R.my,R.n6,R.oP,R.tab⟩
section
variable{n:Ç}
end
inductive ju(h:ç)(C:Û)(T:ş):Prop|mk (nm q:Ï) (N:Û) (bs bm:Á Ă) (oM:Ë) (sn:Á Ï) (sub:Á Ă) (ab:Ë) (col:Ã Ë) (dd:Ã Û) (k0 k1 k2 k3 k5:Ã Ă) (newId:ş) (hC:h.get? C=À (excClassObj nm q C N bs bm oM sn sub ab col dd k0 k1 k2 k3 k5 newId)) (ny:bm.contains (.type "BaseException")=Å) (rM:bm.contains (.type T)=Å)
theorem QX{K:Ĭ}{T:ş}(X:K.In h)(q:ktsIn K C T=Å):ju h C T:=by obtain⟨nm,q',N,bs,bm,oM,sn,sub,ab,col,dd,k0,k1,k2,k3,k5,newId,hC,ny,rM⟩:=kts_cls X q;exact⟨nm,q',N,bs,bm,oM,sn,sub,ab,col,dd,k0,k1,k2,k3,k5,newId,hC,ny,rM⟩
inductive lj(B h:ç)(e C dx:Û)(fl:PV):Prop|mk (oe:ġ) (vs:ī PV) (T:Û) (oT:ġ) (ts:ī PV) (he:h.get? e=À oe) (hc:oe.cls=.ref C) (oU:oe.dict=À dx) (hd:oe.data=.fields vs) (h1:vs[1]?=À (.ref T)) (tu:B.get? T=È) (r8:T≠e) (hT:h.get? T=À oT) (rK:oT.data=.fields ts) (h3:ts[3]?=À fl)
def jx(B h:ç)(e C dx:Û):Ã PV->Prop|È=>gv (λoe vs=>h.get? e=À oe) (λoe vs=>oe.cls=.ref C) (λoe vs=>oe.dict=À dx) (λoe vs=>oe.data=.fields vs) λoe vs=>vs[1]?=À .none|À fl=>lj B h e C dx fl
structure Ds(B:ç)(l:Á Ů)(e C dx:Û)(f:Ã PV)(h:ç):Prop where
 stays:B.StaysIn h
 new:B.get? e=È
 frames:h.FunFrames B l
 at_:jx B h e C dx f
theorem Ds.obj(x:Ds B l e C dx f h):We (λoe vs=>h.get? e=À oe) (λoe vs=>oe.cls=.ref C) (λoe vs=>oe.dict=À dx) λoe vs=>oe.data=.fields vs:=by
 have:=x.at_;rcases f with _|fl;.obtain ⟨oe,vs,a,b,c,d,_⟩:=this;exact⟨oe,vs,a,b,c,d⟩
 .obtain ⟨oe,vs,T,oT,ts,a,b,c,d,_,_,_,_,_,_⟩:=this;exact⟨oe,vs,a,b,c,d⟩
theorem V6(o:ġ):(Ħ f o).dict=o.dict:=by obtain⟨c,d,dt,sl⟩:=o;induction dt<;>rfl
section
theorem Kx{h:ç}{T:Û}{oT:ġ}{ts:ī PV}(hT:h.get? T=À oT)(hd:oT.data=.fields ts)(f:ġ->ġ):(∀b,b≠T->(h.update T f).get? b=h.get? b)/\∀b o,h.get? b=À o->(∀vs,o.data≠.fields vs)->(h.update T f).get? b=À o:=by have other:∀b,b≠T->(h.update T f).get? b=h.get? b:=λb hb=>ç.get?_update_other _ _<|Ne.symm hb;refine⟨other,λb o hb hn=>(other b λq=>?_).trans hb⟩;rw[q,hT]at hb;obtain rfl:=Ak hb;exact hn ts hd
theorem Kk{B:ç}{env:Ů}{outer:Á Ů}{L e C dx:Û}{oe:ġ}{vs:ī PV}{head:PV}{rN:Ë}{Q:Η->Ó->Prop}(rJ:A.frames=À (env::outer)) (hl:s.heap.FunFrames B<|env::outer) (hf:env.frame=À L) (he:s.heap.get? e=À oe) (mu:B.StaysIn s.heap) (nO:B.get? e=È) (hc:oe.cls=.ref C) (oU:oe.dict=À dx) (hd:oe.data=.fields vs) (hsz:1<vs.size)(h:∀h',Ds B (env::outer) e C dx (À<|Ē L) h'->s.heap.UpToSlots h'->Q () {s with heap:=h'}):wpAny M A (do let a<-frameOf env;let pl<-entryPlaceOf L rN;let b<-EntryCells.newEntry head a .none (Ē L) .none pl;setField (.ref e) 1 b) Q E s:=by
 have out:∀b,(∃vs,BM (λo=>s.heap.get? b=À o) λo=>o.data=.fields vs)->b∉(env::outer).filterMap (·.frame):=λb z hm=>by obtain⟨ws,o,ho,hw⟩:=z;obtain⟨_,o',nY,hn⟩:=hl.mem hm;rw[ho]at nY;obtain rfl:=Ak nY;exact hn ws hw
 refine É<|wpAny_frameOf_fun rJ hl hf λg hg=>É<|wpAny_entryPlaceOf λpl yO=>?_;unfold EntryCells.newEntry newFields;refine É<|Ū ?_<|yO.sizeOk5 _ _ _ _ _;have ge:g.get? e=À oe:=(hg.2.1 e<|out e ⟨vs,oe,he,hd⟩).trans he;have gB:B.StaysIn g:=λb o hb=>(hg.2.1 b λhm=>by rw[(hl.mem hm).1]at hb;cases hb).trans<|mu b o hb;obtain⟨oT,vj⟩:∃oT:ġ,oT={cls:=.type "traceback",dict:=È,data:=.fields ([head,.ref L,.none,Ē L,.none]++if pl.isEmpty then ľ 6 ļ else pl).toArray}:=⟨_,Ä⟩;refine AP vj ?_;have xj:oT.data=.fields ([head,.ref L,.none,Ē L,.none]++if pl.isEmpty then ľ 6 ļ else pl).toArray:=by exact AA vj Ä
 have pe:=ß oT ge;refine Ŗ pe hd hsz ?_;have r8:g.objs.size≠e:=ŝ<|ï ge;have nP:=ŋ hd (·.setIfInBounds 1<|ă g.objs.size);obtain⟨other,keep⟩:=Kx pe hd (Ħ (·.setIfInBounds 1<|ă g.objs.size));have up:∀b o,b≠e->g.get? b=À o->((g.push oT).update e (Ħ (·.setIfInBounds 1<|ă g.objs.size))).get? b=À o:=λb o hb yY=>(other b hb).trans<|ß _ yY;have d!:s.heap.UpToSlots ((g.push oT).update e (Ħ (·.setIfInBounds 1<|ă g.objs.size))):=λb o hb hn=>by obtain⟨sl,hs⟩:=hg.2.2 b o hb;exact⟨sl,keep b _ (ß _ hs) hn⟩
 refine h _ ⟨λb o hb=>up b o (λq=>by rw[q,nO]at hb;cases hb)<|gB b o hb,nO,hl.of_keeps λb o hb hn=>by obtain⟨sl,hs⟩:=d! b o hb hn;exact⟨_,hs,Ä⟩,?_⟩ d!;refine⟨_,_,g.objs.size,oT,_,Ĝ _ pe<|ź nP,by exact AA (ġ.cls_mapFields ..)<|AA (hc ..) Ä,by exact AA (V6 ..)<|AA (oU ..) Ä,nP,by simp[hsz],gB.fresh,r8,(other _ r8).trans<|ņ g<|by exact AA vj Ä,xj,by simp⟩
theorem JA{B:ç}{env:Ů}{outer:Á Ů}{L e C dx:Û}{f:Ã PV}{Q:Η->Ó->Prop}(rJ:A.frames=À (env::outer))(hf:env.frame=À L)(x:Ds B (env::outer) e C dx f s.heap)(hp:f=È\/f=À .none\/f=À (Ē L))(h:∀h',Ds B (env::outer) e C dx (À<|Ē L) h'->s.heap.UpToSlots h'->Q () {s with heap:=h'}):wpAny M A (noteFrame (.ref e) env) Q E s:=by
 have x0:=x;x_go;obtain⟨mu,nO,hl,vC⟩:=x;refine zk ?_;unfold noteFrame;simp only[hf];x_go;rcases hp with rfl|hp;.obtain ⟨oe,vs,he,hc,oU,hd,h1⟩:=vC;refine zk<|É<|Ο he hd h1 ?_;exact AA (Ì<|by decide)<|Kk rJ hl hf he mu nO hc oU hd (ī.getElem?_eq_some_iff.mp h1).1 h
 .obtain ⟨fl,rfl,qD⟩:BM (λfl=>f=À fl) λfl=>fl=.none\/fl=Ē L:=hp.elim (λe=>⟨_,e,.inl Ä⟩) λe=>⟨_,e,.inr Ä⟩;obtain⟨oe,vs,T,oT,ts,he,hc,oU,hd,h1,tu,r8,hT,rK,h3⟩:=vC;refine zk<|É<|Ο he hd h1 ?_;refine AA (Î<|show(ă T !=ļ)=Å from by simp) ?_;refine É<|Ο hT rK h3 ?_;x_go;rcases qD with rfl|rfl;.refine zk<|AA (Ì<|show¬(ļ==Ē L)=Å from by simp[Ē])<|É<|Ŗ hT rK (ī.getElem?_eq_some_iff.mp h3).1 ?_;x_go;obtain⟨other,keep⟩:=Kx hT rK (Ħ (·.setIfInBounds 3 ļ));refine zk<|Kk rJ (hl.of_keeps λb o hb hn=>⟨o,keep b o hb hn,Ä⟩) hf ((other e<|Ne.symm r8).trans he) (λb o hb=>(other b λq=>by rw[q,tu]at hb;cases hb).trans<|mu b o hb) nO hc oU hd (ī.getElem?_eq_some_iff.mp h1).1 λh' y d!=>h h' y<|ç.UpToSlots.trans (λb o hb hn=>⟨o.slots,keep b o hb hn⟩) d!
  .refine zk<|AA (Î<|show(Ē L==Ē L)=Å from by simp) ?_;exact Ô<|h _ x0<|.refl _
theorem Ef{B:ç}{l:Á Ů}{e C dx:Û}{fl:PV}{y:Ã Û}{Q:Η->Ó->Prop}(x:Ds B l e C dx (À fl) s.heap)(h:∀h',Ds B l e C dx (À<|y.elim .none λf=>Ē f) h'->s.heap.UpToSlots h'->Q () {s with heap:=h'}):wpAny M A (setFlight (.ref e) y) Q E s:=by x_go;obtain⟨mu,nO,hl,⟨oe,vs,T,oT,ts,he,hc,oU,hd,h1,tu,r8,hT,rK,h3⟩⟩:=x;have tj:3<ts.size:=(ī.getElem?_eq_some_iff.mp h3).1;obtain⟨other,keep⟩:=Kx hT rK (Ħ (·.setIfInBounds 3<|y.elim .none λf=>Ē f));refine zk ?_;unfold setFlight;refine É<|Ο he hd h1 ?_;refine AA (Î<|show(ă T !=ļ)=Å from by simp) ?_;refine Ŗ hT rK tj<|h _ ⟨λb o hb=>(other b λq=>by rw[q,tu]at hb;cases hb).trans<|mu b o hb,nO,hl.of_keeps λb o hb hn=>⟨o,keep b o hb hn,Ä⟩,?_⟩ λb o hb hn=>⟨o.slots,keep b o hb hn⟩;exact⟨oe,vs,T,_,_,(other e<|Ne.symm r8).trans he,hc,oU,hd,h1,tu,r8,Ĝ _ hT<|ź<|ŋ rK _,ŋ rK _,by simp[tj]⟩
end
structure Yt(cx:Cx)(W:Wd)(s:S)(v:V)(t:Ó)(e Cd dx:Û)(fl:Ã PV)(mJ:Ů)(B h₀:ç)(led:Em)(m:Ï->Ã PV)(mU:ç)(es:Á Ğ)(n:Ç)(wv:PV):Prop where
 x:BW cx W s {t with heap:=mU} h₀ led m
 ff:mJ.frame=À cx.L
 fk:mJ.scope.kind=.function
 ou:Ds B (mJ::cx.outer) e Cd dx fl t.heap
 qD:fl=È\/fl=À .none\/fl=À (Ē cx.L)led:∀p∈led,B.get? p.1=À p.2
 wL:∀b o,h₀.get? b=À o->b∉cx.outer.filterMap (·.frame)->B.get? b=À o
 d!:mU.UpToSlots t.heap
 cls:cx.mg "Deadlock"=À (.ref Cd)dict:B.get? dx=À (Ĵ es n)mV:getL "tasks" es=À (À wv)val:VR W v wv
inductive TR(cx:Cx)(W:Wd)(s:S)(v:V)(w:PV)(t:Ó):Prop|mk (e Cd dx:Û) (fl:Ã PV) (mJ:Ů) (B h₀:ç) (led:Em) (m:Ï->Ã PV) (mU:ç) (es:Á Ğ) (n:Ç) (wv:PV) (hw:w=.ref e) (X:Yt cx W s v t e Cd dx fl mJ B h₀ led m mU es n wv)
theorem DZ{h B:ç}{mJ env:Ů}{l:Á Ů}{L:Û}(x:h.FunFrames B<|mJ::l)(h1:mJ.frame=À L)(h2:env.frame=À L)(h3:env.scope.kind=.function):h.FunFrames B (env::l):=by x_go;obtain⟨L',o,f1,f2,f3,f4⟩:=x.2.1;rw[h1]at f1;obtain rfl:=Ak f1;exact zk<|⟨(λe=>by rw[h3]at e;cases e),⟨L,o,h2,f2,f3,f4⟩,x.2.2⟩
section
variable{k:Ç}
theorem Si(H:Ao cx A_ k W env C? A)(nR:cx.cmp=È)(x:TR cx W s v w t)(h:∀t',TR cx W s v w t'->E w t'):notedBy cx.M A C? (cameBackBy cx.M A C? E) w t:=by
 x_go;obtain⟨e,Cd,dx,fl,mJ,B,h₀,led,m,mU,es,n,wv,rfl,X⟩:=x;have ou:Ds B (C?::cx.outer) e Cd dx fl t.heap:=⟨X.ou.stays,X.ou.new,DZ X.ou.frames X.ff H.e.frame H.e.kind,X.ou.at_⟩;refine zk<|JA (H.j_ nR) H.e.frame ou X.qD λg fg ug=>?_;show wpAny _ _ _ _ _ _;have zE:=fg;x_go;obtain⟨oe,vs,T,oT,ts,he,hc,oU,hd,h1,_,_,_,_,_⟩:=fg.at_;refine zk<|É<|Ο (s:={t with heap:=g}) he hd h1 ?_;have:(ă T==ļ)=Æ:=by rfl
 simp only[this,ć,Ŧ];refine Ef (s:={t with heap:=g}) zE λg2 f2 u2=>?_;rw[H.e.frame]at f2;exact h _ ⟨e,Cd,dx,_,C?,B,h₀,led,m,mU,es,n,wv,Ä,⟨X.x,H.e.frame,H.e.kind,f2,.inr<|.inr Ä,X.led,X.wL,(X.d!.trans ug).trans u2,X.cls,X.dict,X.mV,X.val⟩⟩
theorem Sj{n:Ç}{h₀:ç}{led:Em}{m:Ï->Ã PV}{mJ m8:Ů}{L':Û}{F?:Em}{R:Result->Ó->Prop}(x:BW cx W s t h₀ led m)(le:W.Le W')(hx:DJ cx.cmp led F?)(a:Wh cx A mJ n)(hf:m8.frame=À L')(hk:m8.scope.kind=.function)(y:TR (cx.O? A mJ m L' F?) W' s' v w t') (h:∀nt,TR cx W' {s' with A!:=s.A!} v w nt->R (.error w) nt):wpAny cx.M (A.deeper m8) (leaving m8 w) (λZ oz=>R (.error w) oz) (λe' oz=>R (.error e') oz) t':=by
 x_go;obtain⟨e,Cd,dx,fl,xS,B,g,F!,m',mU,es,n',wv,rfl,X⟩:=y;have ou:Ds B (m8::mJ::cx.outer) e Cd dx fl t'.heap:=⟨X.ou.stays,X.ou.new,DZ X.ou.frames X.ff hf hk,X.ou.at_⟩;refine zk ?_;unfold leaving;refine É<|JA (Ġ a.fr) hf ou X.qD λg2 f2 u2=>?_;refine Ef (s:={t' with heap:=g2}) f2 λg3 f3 u3=>?_;refine h _ ⟨e,Cd,dx,_,mJ,B,GV g cx.L,F!,m,mU,es,n',wv,Ä,⟨x.J? le hx X.x,a.fl,a.fk,⟨f3.stays,f3.new,f3.frames.2.2,f3.at_⟩,.inr<|.inl Ä,X.led,λb o hb hn=>?_,(X.d!.trans u2).trans u3,X.cls,X.dict,X.mV,X.val⟩⟩;x_go;obtain⟨yo,n5⟩:=MK hb;refine zk<|X.wL b o yo λhm=>?_;x_go;obtain⟨fe,uE,qb⟩:=Á.mem_filterMap.mp hm;refine zk ?_;rcases Bt uE with e'|e';.subst e';rw[a.fl]at qb;obtain rfl:=Ak qb;exact Ę _ n5
 .exact hn<|cM ⟨fe,e',qb⟩
end
theorem i5:Pp TR:=⟨λx le hx a hf hk y h=>Sj x le hx a hf hk y h⟩
theorem Yt.land{cx:Cx}{W:Wd}{s:S}{v:V}{t:Ó}{e Cd dx:Û}{fl:Ã PV}{mJ:Ů}{B h₀:ç}{led:Em}{m:Ï->Ã PV}{mU:ç}{es:Á Ğ}{n:Ç}{wv:PV}(X:Yt cx W s v t e Cd dx fl mJ B h₀ led m mU es n wv){g:ç} (mu:B.StaysIn g) (hu:mU.UpToSlots g):BM (λqR=>BW cx W s {t with heap:=g} qR led m) λqR=>∀b,h₀.get? b=È->qR.get? b=È:=by
 have x:=X.x;have rJ:=x.G.B.frames;obtain⟨T,Sx⟩:=kts_turn_at (h:=g) (fs:=cx.outer.filterMap (·.frame)) (g:=h₀) λb hb=>by obtain⟨_,o,ho,_⟩:=rJ.mem hb;exact⟨o,ho⟩
  (λb o e nm=>mu b o<|X.wL b o e nm) λb o e hm=>by obtain⟨_,o',nY,hd⟩:=rJ.mem hm;rw[e]at nY;obtain rfl:=Ak nY;exact hu b o (x.F.keep b o e) hd
 refine⟨_,⟨⟨hu.ns x.F.ns,Sx,by exact AA T.size x.F.above⟩,λp hp=>⟨mu _ _<|X.led p hp,(x.N p hp).2.1,T.none_ _ (x.N p hp).2.2⟩,⟨⟨x.G.B.stack,λb o e=>T.other b o (x.G.B.stays b o e) (λhm=>by rw[(rJ.mem hm).1]at e;cases e),rJ.of_keeps λb o e Z=>?_⟩,λp hp=>?_⟩,x.R,x.A!,x.D?,x.rest⟩,T.none_⟩;.obtain ⟨sl,hs⟩:=T.up e;exact⟨_,hs,Ä⟩
 .obtain ⟨o,rP,ep,ho,hd,r⟩:=x.G.P! p hp;obtain⟨sl,hs⟩:=T.up ho;exact⟨_,rP,ep,hs,hd,r⟩
end Mine.Internal
end
section
open PySem PySem.W PyProof.Rows PySem.Calls PyProof.V
open PySem.Builtin PySem.Builtin.ObjectAttr
namespace Mine.Internal
theorem WP:builtinKind "BaseException.__getattribute__"=À .slot:=by decide+kernel
theorem S5:splitId "BaseException.__getattribute__"=À ("BaseException","__getattribute__"):=by decide+kernel
theorem bX:(Ţ "BaseException.__getattribute__"==Ţ "object.__getattribute__")=Æ:=by decide+kernel
section
variable{K:Ĭ}{name:Ï}{expr:Ë}
theorem YO(X:K.In s.heap)(I:InstAt s.heap x ox C od)(yZ:findIn K (.ref C) "__getattribute__"=À (À<|.builtin "BaseException.__getattribute__"))(yQ:findIn K (.ref C) "__getattr__"=À È)(px:subIn K (.ref C) (.type "BaseException")=À Å) (hf:findObj K C od name=À (.value v)) (hh:handedIn v=Å) (h:Q v {s with toks:=s.toks+1}):wpAny (model prog w) A (getAttr (.ref x) name expr) Q E s:=by
 obtain⟨hp,g,d,t,os⟩:=s;have L0:=I.type (M:=model prog w);have L1:=ω (M:=model prog w) X yZ;have L2:=ω (M:=model prog w) X yQ;have L3:=looks_find (M:=model prog w) X I hf;have L4:Ε (model prog w) hp (isInstance (.ref x)<|.type "BaseException") Å:=L0.andThen<|looks_subIn X px;unfold getAttr getAttrBy;refine É<|wpAny_mkText<|í<|É<|L0.at<|É<|L1.at ?_;have se:(onTheHeap (ă C)&&Ţ "BaseException.__getattribute__"==Ţ "object.__getattribute__")=Æ:=by exact AA bX Ä
 simp-iota only[se,ć,Ŧ];unfold getAttrByItsOwn hookBefore callGetattribute boundAndCalled;have yB:(expr&&onTheHeap (Ţ "BaseException.__getattribute__"))=Æ:=by induction expr<;>rfl
 dsimp only;refine AA yB<|AA (Ì ŉ) ?_;have yA:onTheHeap (ă C)=Å:=Ä;simp-iota only[yA,if_true];refine É<|L2.at ?_;refine É<|wpAny_attempt<|í ?_;refine AA (F.attr_Exception.ga.bind ..)<|É<|Ô ?_;dsimp only[Ũ,τ];refine ř<|Ρ F.attr_Exception.ga.plain F.entry_bexc_ga ?_;refine@check_slot (model prog w) _ _ _ "BaseException.__getattribute__" "BaseException" "__getattribute__" (.ref x) [.str name t] [] _ WP S5 L4 (F.args_bexc_ga (.ref x)<|.str name t) ?_;show wpAny _ _ (Builtin.«object.__getattribute__» ⟨[.ref x,.str name t],[]⟩) _ _ _;unfold Builtin.«object.__getattribute__»;refine É<|Ô<|É<|Ô ?_;refine É<|L0.at<|É<|L3.at ?_;refine Ô ?_;show wpAny _ _ (handedOut v) _ _ _;refine AA (handedOut_of hh) ?_;exact Ô h
end
end Mine.Internal
end
section
open PySem PySem.W PyProof.Rows PySem.Calls PyProof.V
namespace Mine.Internal
section
variable{k:Ç}
theorem KW(nR:cx.cmp=È)(e:Fz cx A_ W env C?)(z:BW cx W s t h₀ led m){n:Ï}(hk:env.kind n=À .local)(hn:s.A! n=È)(h:∀g tk,BW cx W s {t with heap:=g,toks:=tk} h₀ led (λy=>if y=n then À w else m y)->ŏ cx.L t.heap g->Q () {t with heap:=g,toks:=tk}):wpAny cx.M A (PySem.storeName C? n w) Q E t:=by
 have hp:(C?.scope.kind==.class||C?.scope.kind==.module&&C?.locals !=C?.globals)=Æ:=by exact AA e.kind Ä
 have hL:C?.locals=cx.L:=by exact AA e.locals<|AA nR Ä
 refine Ζ (m:=m) (e.A! n hk) (by exact AA hL z.F.ns) (λg hg hs=>?_) hp;rw[hL]at hg hs;rcases z.A! with⟨_,hl⟩|⟨_,_,_,q,_,_,_,_⟩;case co=>exact GO<|q.symm.trans nR
 refine h g _ ⟨z.F.set hg hs,z.N.set hs,z.G,z.R,.no nR ?_,z.D?,z.rest.1,(λC q=>by rw[nR]at q;cases q),z.rest.2.2⟩ hs;intro y u hu;obtain⟨w',h1,h2⟩:=hl y u hu;exact⟨w',(Ì λq:y=n=>by rw[q,hn]at hu;cases hu).trans h1,h2⟩
theorem PJ(nR:cx.cmp=È)(e:Fz cx A_ W env C?)(z:BW cx W s t h₀ led m){n:Ï}(hk:env.kind n=À .local)(hn:s.A! n=È)(hw:m n=À w)(h:∀t',RR cx W s t'->Q () t'):wpAny cx.M A (unbindBehindTheSuite C? n pos) Q E t:=by
 have hp:(C?.scope.kind==.class||C?.scope.kind==.module&&C?.locals !=C?.globals)=Æ:=by exact AA e.kind Ä
 have hL:C?.locals=cx.L:=by exact AA e.locals<|AA nR Ä
 unfold unbindBehindTheSuite;refine wpAny_onRaise<|wpAny_unbindName_local (m:=m) (e.A! n hk) (by exact AA hL z.F.ns) hw hp λg u hg hs=>?_;rw[hL]at hg hs;rcases z.A! with⟨_,hl⟩|⟨_,_,_,q,_,_,_,_⟩;case co=>exact GO<|q.symm.trans nR
 refine h _ ⟨h₀,led,_,⟨⟨hg,λb o q=>(hs.2 b λq'=>?_).trans<|z.F.keep b o q,z.F.above⟩,z.N.set hs,z.G,z.R,.no nR ?_,z.D?,z.rest.1,(λC q=>by rw[nR]at q;cases q),z.rest.2.2⟩⟩;.have:=ï q;replace this:=q'▸this;exact Ę _<|õ this z.F.above
 .intro y v hv;obtain⟨w',h1,h2⟩:=hl y v hv;exact⟨w',(Ì λq:y=n=>by rw[q,hn]at hv;cases hv).trans h1,h2⟩
theorem Jf(h:o.data=.fields vs):notCls o=Å:=by obtain⟨c,d,dt,sl⟩:=o;simp only at h;subst h;rfl
theorem Sa{d:Ï}{n:Ï}{body:Á Đ}(h1:wpAny (model p w) (A.mark<|À<|.ref e) (eval (.Name d np) C?) (λc nE=>wpAny (model p w) (A.mark<|À<|.ref e) (excMatches (.ref e) c) (λb nV=>b=Å/\wpAny (model p w) (A.mark<|À<|.ref e) (setFlight (.ref e) È) (λZ s=>wpAny (model p w) (A.mark<|À<|.ref e) (PySem.storeName C? n<|.ref e) (λZ s=>wpAny (model p w) (A.mark<|À<|.ref e) (execs (wU::body) C?) R (λZ Z=>Ń) s) (λZ Z=>Ń) s) (λZ Z=>Ń) nV) (λZ Z=>Ń) nE) (λZ Z=>Ń) t)(h2:∀f s,R f s->wpAny (model p w) A (do bindName C? n .none;unbindBehindTheSuite C? n pos) (λZ s=>Q f s) E s):wpAny (model p w) A (handleBy (.ref e) C? [.ExceptHandler (À<|.Name d np) (À n) (wU::body) pos]) Q E t:=by refine wpAny_handleBy_cons (codeAny_handlers_test<|ö h1 (λc nE h=>ö h (λb nV h=>?_) λZ Z h=>h.elim) λZ Z h=>h.elim) (by intro q;cases q);obtain⟨rfl,h⟩:=h;exact codeAny_handlers_suite_as<|ö h (λZ Z h=>ö h (λZ Z h=>ö h h2 λZ Z h=>h.elim) λZ Z h=>h.elim) λZ Z h=>h.elim
theorem Mv{K:Ĭ}{T:ş}{Q:Ë->Ó->Prop}(X:K.In t.heap)(q:ktsIn K C T=Å)(he:t.heap.get? e=À oe)(hc:oe.cls=.ref C)(h:Q Å t):wpAny (model p w) A (excMatches (.ref e)<|.ref C) Q E t:=by x_go;obtain⟨nm,q',N,bs,bm,oM,sn,sub,ab,col,dd,k0,k1,k2,k3,k5,newId,hC,ny,rM⟩:=QX X q;exact zk<|wpAny_excMatches_sub_self hC he hc ny h
theorem Ds.ne(x:Ds B (fe::l) e C dx f h)(hf:fe.frame=À L):e≠L/\B.get? L=È:=by x_go;obtain⟨L',o,g1,g2,g3,g4⟩:=x.frames.2.1;obtain⟨oe,vs,h1,_,_,h4⟩:=x.obj;rw[hf]at g1;obtain rfl:=Ak g1;exact zk ⟨λq=>by rw[q,g3]at h1;obtain rfl:=Ak h1;exact g4 _ h4,g2⟩
theorem Sg{n x:Ï}{n':Ç}(H':Ao cx A_ k W' env C? A)(nR:cx.cmp=È)(rI:env.kind n=À .local)(tz:env.kind x=À .local)(hn:s'.A! n=È)(X:Yt cx W' s' v t e Cd dx fl mJ B h₀ led m mU es n' wv) (D:ZV cx.K Cd) (f2:Ds B (C?::cx.outer) e Cd dx (À y) g2) (u:mU.UpToSlots g2):wpAny cx.M (A.mark<|À<|.ref e) (setFlight (.ref e) È) (λZ s=>wpAny cx.M (A.mark<|À<|.ref e) (PySem.storeName C? n<|.ref e) (λZ s=>wpAny cx.M (A.mark<|À<|.ref e) (execs [.Assign [.Name x xp] (.Attribute (.Name n ap) "tasks" qE) sp] C?) (λf s5=>f=.next/\RR cx W' (s'.set x v) s5) (λZ Z=>Ń) s) (λZ Z=>Ń) s) (λZ Z=>Ń) {t with heap:=g2}:=by
 have hL:C?.locals=cx.L:=by exact AA (H'.e.locals ..)<|AA nR Ä
 refine Ef (s:={t with heap:=g2}) f2 λg3 f3 u3=>?_;x_go;obtain⟨xI,y3,z3⟩:=X.land f3.stays<|u.trans u3;obtain⟨ye,y9⟩:=f3.ne H'.e.frame;obtain⟨oe,vs,v7,vz,xH,xG⟩:=f3.obj;refine zk<|KW (t:={t with heap:=g3}) nR H'.e y3 rI hn λg4 tk y4 sb=>?_;have K4:cx.K.In g4:=(H'.G.X.keeps y4.G.stays).keeps y4.F.keep;have I:InstAt g4 e oe Cd (À<|Ĵ es n'):=⟨(sb.2 e ye).trans v7,vz,Jf xG,by exact AA xH<|(sb.2 dx λq=>by have:=X.dict;rw[q,y9]at this;exact AY this).trans<|f3.stays _ _ X.dict⟩;refine Ň<|Ŋ ?_ Ä Ä;refine Attribute_any_ ?_ (by exact AA (arm_eval_Attribute ..) Ä);refine wpAny_Name (Ξ H'.e.kind (H'.e.A! n rI) (by exact AA hL y4.F.ns) (Î Ä) ?_)<|Ba<|H'.names n _ rI;refine YO (s:={t with heap:=g4,toks:=tk}) K4 I D.ga D.ng D.sub (findObj_own D.hd D.tk Ä X.mV) (Kf X.val) ?_;show wpAny _ _ (assign (.Name x xp) C? wv) _ _ _;exact χ (FI (s':=s'.set x v) ⟨xI,led,_,(⟨y4.F,y4.N,y4.G,y4.R,y4.A!,y4.D?,y4.rest⟩:BW cx W' s' {t with heap:=g4,toks:=tk+1} xI led _)⟩ H'.e (by unfold Tz;exact AA tz Ä) X.val λ{t5}r5=>ĺ ⟨Ä,r5⟩)
theorem YM{n x:Ï}(H:Ao cx A_ k W env C? A)(nR:cx.cmp=È)(r:RR cx W s t)(hk:env.kind "Deadlock"=À .globalImplicit)(rI:env.kind n=À .local)(tz:env.kind x=À .local)(nO:x≠n)(h:wpAny cx.M A (execs b C?) Q (λe t'=>Ku (λW' s' v=>W.Le W') (λW' s' v=>TR cx W' s' v e t') (λW' s' v=>s'.A! n=È) λW' s' v=>∀nt,RR cx W' (s'.set x v) nt->Q .next nt) t):wpAny cx.M A (exec (.Try b [.ExceptHandler (À<|.Name "Deadlock" np) (À n) [.Assign [.Name x xp] (.Attribute (.Name n ap) "tasks" qE) sp] hp] [] [] pos) C?) Q E t:=by
 refine wpAny_Try_except<|ö h (λf t1 hq=>?_) λe t1 he=>?_
 .induction f;.exact ĺ hq
  all_goals exact hq
 x_go;obtain⟨W',s',v,le,⟨e,Cd,dx,fl,mJ,B,h₀,led,m,mU,es,n',wv,rfl,X⟩,hn,hQ⟩:=he;have H':=H.C! le;have ou:Ds B (C?::cx.outer) e Cd dx fl t1.heap:=⟨X.ou.stays,X.ou.new,DZ X.ou.frames X.ff H.e.frame H.e.kind,X.ou.at_⟩;refine zk<|JA (H.j_ nR) H.e.frame ou X.qD λg1 f1 u1=>Ef (s:={t1 with heap:=g1}) f1 λg2 f2 u2=>?_;x_go;obtain⟨p!,y2,_⟩:=X.land f2.stays<|(X.d!.trans u1).trans u2;obtain⟨C',y8,D⟩:=H.G.cls.R!;obtain rfl:Cd=C':=PySem.Value.ref.inj<|Ak<|X.cls.symm.trans y8;obtain⟨oe,vs,v7,vz,xH,xG⟩:=f2.obj;refine zk<|Sa (R:=λf s5=>f=.next/\RR cx W' (s'.set x v) s5) (Gs (t:={t1 with heap:=g2}) H' ⟨p!,led,m,y2⟩ X.cls hk (by decide)<|Mv ((H.G.X.keeps y2.G.stays).keeps y2.F.keep) D.d.xA v7 vz ⟨Ä,Sg H' nR rI tz hn X D.d f2<|(X.d!.trans u1).trans u2⟩) λf s5 ⟨q,h5,l5,m5,y5⟩=>?_;subst q;have xE:(s'.set x v).A! n=È:=(Ì λq=>nO q.symm).trans hn;exact É<|wpAny_bindName<|KW nR H'.e y5 rI xE λg6 zX y6 Z=>PJ nR H'.e y6 rI xE (Î Ä) λt7 r7=>hQ t7 r7
end
end Mine.Internal
end
section
open PySem PySem.W PyProof.Rows PySem.Calls PyProof.V
open PySem.Builtin PySem.Builtin.ObjectAttr
namespace Mine.Internal
theorem LX(h:VJ n v=Å):v=.type n:=by induction v with|type a=>exact Â _<|à h|_=>exact CN h
theorem YQ(h:fV l=Å):l=[.type "object"]:=by
 rcases l with _|⟨c,z⟩;.exact CN h
 .obtain ⟨h1,h2⟩:=AB h;exact AA (LX h1)<|AA (cG h2) Ä
theorem YR(h:bC l=Å):l=[.type "BaseException",.type "object"]:=by
 rcases l with _|⟨c,z⟩;.exact CN h
 .obtain ⟨h1,h2⟩:=AB h;exact AA (LX h1)<|AA (YQ h2) Ä
def WZ(Fl:PV)(l:Á PV):Prop:=refuseLoop Fl "__setattr__" l=pure ()/\l.contains (.type "object")=Å/\l.isEmpty=Æ
theorem YN(Fl:PV)(h:(VJ "Exception" v&&bC r)=Å):WZ Fl (v::r):=by obtain⟨h1,h2⟩:=AB h;exact AA (LX h1)<|AA (YR h2) ⟨F.store_Exception.passes Fl,by decide+kernel,Ä⟩
theorem PQ(Fl:PV):Lq l=Å->WZ Fl l:=by induction l with|nil=>exact λh=>CN h|cons v r ih=>cases v with|ref a=>exact λh=>⟨(refuseLoop_ref ..).trans (ih h).1,by exact AA (Ć ..)<|AA (ih h).2.1<|AA (ś ..) Ä,Ä⟩|_=>exact λh=>YN Fl h
section
variable{K:Ĭ}{name:Ï}
theorem Mg(X:K.In s.heap)(I:InstAt s.heap x ox C od)(hp:Gw K C=Å)(ht:takerIn K C name=À È)(h:∀b,wpAny (model prog w) A.in1 (storeInOwnDict (.ref x) (.ref C) (.str name tk) name v b) (λfin s'=>match fin with|.done f=>R (.ok f) s'|.again c'=>c'.quiet=Å/\ň (model prog w) A c' R s') (λe s'=>R (.error e) s') s):ň (model prog w) A (.call (.builtin "object.__setattr__") ⟨[.ref x,.str name tk,v],[]⟩) R s:=by
 have SF:=PySem.F.store_Exception;x_go;obtain⟨cd,hc,ho⟩:=any_some hp;obtain⟨ho,_⟩:=AB ho;obtain⟨p1,p2,p3⟩:=PQ (.ref x) ho;have sub:Ε (model prog w) s.heap (isInstance (.ref x)<|.type "object") Å:=I.type.andThen (looks_mroIn X<|by unfold mroIn;exact AA hc<|AA (Ã.bind_some ..)<|AA (Ì<|by refine AA (p3 ..) ?_;decide)<|AA (p2 ..) Ä);refine zk<|Ρ SF.slot.plain SF.entry<|@check_slot (model prog w) _ _ s "object.__setattr__" "object" "__setattr__" (.ref x) [.str name tk,v] [] _ SF.kind SF.split sub (SF.args (.ref x) (.str name tk) v) ?_;x_go;obtain⟨attr,ha,hr⟩:=Ã.bind_eq_some_iff.mp ht;have hm:Ε (model prog w) s.heap (mroOf<|.ref C) cd.mro:=(looks_clsIn X hc).andThen .now;have L3:Ε (model prog w) s.heap (storeTaker? attr) È:=by
  rcases attr with _|a;.exact .now
  .x_go;obtain⟨b,hb,e⟩:=OG hr;refine zk<|(looks_takesIn X hb).andThen ?_;rcases b with _|_;.exact .now
   .exact GO e
 refine zk<|AA (osa_eq ..)<|AA (refuse_eq ..)<|É<|É<|I.type.here<|É<|hm.here ?_;exact AA (p1 ..)<|Ô<|É<|I.type.here<|É<|(ω X ha).here<|É<|L3.here<|h _
set_option tactic.hygienic true in
theorem P7{n:Ç}(F:Fr h₀ L s.heap m)(N:ĵ h₀ L s.heap<|pre++(dx,Ĵ es n)::post)(hl:(getL name es).isSome=Å)(h1:∀p∈pre,p.1≠dx)(h2:∀p∈post,p.1≠dx)(hz:(putL name (ò w.params name) (.str name s.toks) v es).length<=1000)(h:∀h',Fr h₀ L h' m->ĵ h₀ L h' (pre++(dx,Ĵ (putL name (ò w.params name) (.str name s.toks) v es)<|putN name es n)::post)->Q (.done<|.ret .none) {s with heap:=h',toks:=s.toks+1}):wpAny (model prog w) A (storeInDict dx (.str name tk) name v) Q E s:=by
 obtain⟨U1,U2⟩:=news_upd (f:=ġ.putName name (ò w.params name) (.str name s.toks) v) F N h1 h2 (putName_dict name (ò w.params name) (.str name s.toks) v es n) Ä;have D:=(N (dx,Ĵ es n)<|by simp).1;have D':=(U2 (dx,Ĵ (putL name (ò w.params name) (.str name s.toks) v es)<|putN name es n)<|by simp).1;unfold storeInDict newKeyGuard;refine É<|Ô<|É ?_;unfold nsSet;refine É<|É<|wpAny_askSetting<|Ô<|É<|wpAny_mkText<|É<|wpAny_loadPart D ?_;dsimp only;have c:(!es.toArray.any (·.key.isStr name)&&es.toArray.any (·.refKey))=Æ:=by
  refine AP ī.any_toList<|AP ī.any_toList ?_;have qZ:(lookIn name<|Ĵ es n).isSome=Å:=hl;unfold lookIn at qZ;dsimp only at qZ;generalize he:Á.find? (λx=>x.key.isStr name) es=o at qZ;rcases o with _|en;.exact Ae (P:=λy=>Ã.isSome y=Å) qZ (λZ h=>CN h) λz Z=>by rw[Ë.not_eq_true]at z;exact AA z<|AA (Ë.and_false ..) Ä
  .exact AA (Á.any_eq_true.mpr ⟨en,Á.mem_of_find?_eq_some he,Á.find?_some he⟩) Ä
 refine AA (aRefKeyMayBeTheName_at ..)<|AA (c ..)<|wpAny_updatePart D ?_;refine É<|wpAny_lookBehind D' (pastItsLine_dict<|by exact AA Ķ<|Ñ hz<|AP Ĳ<|by decide) ?_;exact Ô<|h _ U1 U2
theorem XC{n:Ç}(F:Fr h₀ L s.heap m)(N:ĵ h₀ L s.heap<|pre++(dx,Ĵ es n)::post)(X:K.In s.heap)(I:InstAt s.heap x ox C<|À<|Ĵ es n)(oU:ox.dict=À dx)(hs:findIn K (.ref C) "__setattr__"=À (À<|.builtin "object.__setattr__")) (hp:Gw K C=Å) (ht:takerIn K C name=À È) (hl:(getL name es).isSome=Å) (h1:∀p∈pre,p.1≠dx) (h2:∀p∈post,p.1≠dx)(hz:(putL name (ò w.params name) (.str name<|s.toks+1) v es).length<=1000)(h:∀h',Fr h₀ L h' m->ĵ h₀ L h' (pre++(dx,Ĵ (putL name (ò w.params name) (.str name<|s.toks+1) v es)<|putN name es n)::post)->Q () {s with heap:=h',toks:=s.toks+2}):wpAny (model prog w) A (setAttr (.ref x) name v) Q E s:=by refine set_plain X I hs (Mg (s:={s with toks:=s.toks+1}) X I hp ht λb=>?_);x_go;obtain⟨cd,hc,ho⟩:=any_some hp;obtain⟨_,nP⟩:=AB ho;obtain⟨hx,nf,hn,-⟩:=I;obtain⟨oc,tS,wy,qr⟩:=ox;dsimp only at nf oU;subst nf oU;refine zk<|É<|Ô<|É<|É<|wpAny_loadPart hx<|É<|Ε.here (s:={s with toks:=s.toks+1}) (looks_clsIn X hc) ?_;refine AA nP<|Ô (a:=À dx) ?_;exact P7 (s:={s with toks:=s.toks+1}) F N hl h1 h2 hz λh' F' N'=>h h' F' N'
theorem T9(F:Fr h₀ L s.heap m)(N:ĵ h₀ L s.heap<|(x,ox)::rest)(X:K.In s.heap)(nf:ox.cls=.ref C)(oY:ox.data=.fields vs)(oU:ox.dict=È)(hs:findIn K (.ref C) "__setattr__"=À (À<|.builtin "object.__setattr__")) (hp:Gw K C=Å) (ht:takerIn K C name=À È) (h2:∀p∈rest,p.1≠x)(h:∀h' dx,Fr h₀ L h' m->ĵ h₀ L h' ((dx,Ĵ (putL name (ò w.params name) (.str name<|s.toks+1) v [])<|putN name [] 0)::(x,{ox with dict:=À dx})::rest)->(∀p∈(x,ox)::rest,p.1≠dx)->Q () {s with heap:=h',toks:=s.toks+2}):wpAny (model prog w) A (setAttr (.ref x) name v) Q E s:=by obtain⟨oc,tS,wy,qr⟩:=ox;dsimp only at nf oU oY;subst nf oU oY;have hz:=N _<|.head _;have I:InstAt s.heap x ⟨.ref C,È,.fields vs,qr⟩ C È:=⟨hz.1,Ä,Ä,Þ⟩;refine set_plain X I hs (Mg (s:={s with toks:=s.toks+1}) X I hp ht λb=>?_);x_go;obtain⟨cd,hc,ho⟩:=any_some hp;have nP:=(AB ho).2;refine zk<|É<|Ô<|É<|É<|wpAny_loadPart hz.1<|É<|Ε.here (s:={s with toks:=s.toks+1}) (looks_clsIn X hc) ?_;refine AA nP ?_;have lt:∀p∈(x,(⟨.ref C,È,.fields vs,qr⟩:ġ))::rest,p.1<s.heap.objs.size:=λp hp=>ï (N p hp).1;have se:(s.heap.push {cls:=.type "dict",data:=.dict #[]}).get? x=À ⟨.ref C,È,.fields vs,qr⟩:=ß _ hz.1;have N1:=N.push F {cls:=.type "dict",data:=.dict #[]};refine É<|wpAny_alloc<|É<|wpAny_update se<|Ô ?_;have hs:=ĝ (s.heap.push {cls:=.type "dict",data:=.dict #[]}) x λo=>{o with dict:=À s.heap.objs.size};refine P7 (s:={s with heap:=(s.heap.push {cls:=.type "dict",data:=.dict #[]}).update x λo=>{o with dict:=À s.heap.objs.size},toks:=s.toks+1}) (es:=[]) (n:=0) (pre:=[]) (post:=(x,⟨.ref C,À s.heap.objs.size,.fields vs,qr⟩)::rest) ((F.push _).change hs hz.2.1 hz.2.2) (news_set (pre:=[(s.heap.objs.size,{cls:=.type "dict",data:=.dict #[]})]) N1 (λp hp=>AA (OF hp)<|ŝ<|lt _<|.head _) h2 hs<|Ĝ _ se Ä) Ä (λp hp=>â hp ã) (λp hp=>(Bt hp).elim (λe=>by exact AA e<|Č<|lt (x,⟨.ref C,È,.fields vs,qr⟩)<|.head _) λe=>Č<|lt p<|.tail _ e) (by simp[putL]) λh' F' N'=>h h' _ F' N' λp hp=>Č<|lt p hp
end
section
variable{K:Ĭ}
theorem YS(F:Fr h₀ L s.heap m)(N:ĵ h₀ L s.heap<|(x,ox)::rest)(X:K.In s.heap)(nf:ox.cls=.ref C)(hd:ox.data=.fields vs)(hz:0<vs.size)(hk:ktsIn K C "Exception"=Å)(h2:∀p∈rest,p.1≠x)(h:∀h' t,Fr h₀ L h' m->ĵ h₀ L h' ((x,{ox with data:=.fields<|vs.setIfInBounds 0<|.ref t})::rest)->Q .none {s with heap:=h'}):wpAny (model prog w) A (call (.builtin "Exception.__init__") [.ref x,v]) Q E s:=by
 obtain⟨oc,tS,wy,qr⟩:=ox;dsimp only at nf hd;subst nf hd;have EC:=PySem.F.excCall_Exception;have sZ:=N _<|.head _;obtain⟨hp,g,d,tk,os⟩:=s;dsimp only at sZ;have lt:∀p∈(x,(⟨.ref C,tS,.fields vs,qr⟩:ġ))::rest,p.1<hp.objs.size:=λp nF=>ï (N p nF).1;have se:(hp.push<|BB [v]).get? x=À ⟨.ref C,tS,.fields vs,qr⟩:=ß _ sZ.1;have hs:=ĝ (hp.push<|BB [v]) x (Ħ (·.setIfInBounds 0<|.ref hp.objs.size));have key:=h _ hp.objs.size ((F.push _).change hs sZ.2.1 sZ.2.2) λp nF=>news_set (pre:=[(hp.objs.size,BB [v])]) (o':=⟨.ref C,tS,.fields<|vs.setIfInBounds 0<|.ref hp.objs.size,qr⟩) (N.push F<|BB [v]) (λp hp=>OF hp▸ŝ (lt _<|.head _)) h2 hs (Ĝ _ se Ä) p<|.tail _ nF;x_go;obtain⟨nm,q',N',bs,bm,oM,sn,sub,ab,col,dd,k0,k1,k2,k3,k5,newId,hC,ny,rM⟩:=QX X hk;have uJ:(ă C::bm).contains (.type "Exception")=Å:=by rw[Ć,rM,ś]
 refine zk ?_;have hx:=sZ.1;refine ř<|Ρ EC.init.plain EC.initEntry ?_;have vg:=EC.noStar;delta checkBuiltinCall;refine EC.initKind▸AA EC.initSplit (AP EC.initRow ?_);dsimp only;repeat(first|with_reducible refine ď hx ?_|with_reducible refine ď hC ?_|(with_reducible refine ĭ hC ?_;refine AA uJ ?_)|wp_step)
 have yD:vs[0]?=À vs[0]:=ī.getElem?_eq_getElem hz;refine AA yD ?_;refine Ô<|É<|Ŗ se Ä hz ?_;generalize vs[0]=z;induction z using Ă.casesOn<;>first|exact wpAny_letGo<|Ô key|exact Ô<|Ô key
end
noncomputable abbrev Av(C t0:Û):ġ:={cls:=.ref C,data:=.fields #[.ref t0,.none,.none,.none,.bool Æ,.none]}
section
variable{t:Ç}{os:OsState}
variable{nm q:Ï}{oM:Ë}{sn:Á Ï}{sub:Á Ă}{ab:Ë}{col:Ã Ë}
theorem NR(hC:h.get? C=À (excClassObj nm q C N bs bm oM sn sub ab col dd k0 k1 k2 k3 k5 "Exception.__new__"))(hB:bm.contains (.type "Exception")=Å)(hq:Q () ⟨h,g,d,t,os⟩):wpAny M A (checkBuiltinCall "Exception.__new__" ⟨.ref C::rest,[]⟩) Q E ⟨h,g,d,t,os⟩:=by
 have Fn:=PySem.F.excBase_Exception;have uH:(ă C::bm).contains (.type "Exception")=Å:=by rw[Ć,hB,ś]
 have xD:=Fn.noStar;delta checkBuiltinCall;refine Fn.newKind▸Fn.newSplit▸Fn.newRow▸?_;dsimp only;repeat(first|refine ď hC ?_|(refine ĭ hC ?_;rw[uH])|refine wpAny_staticBase_exc hC ?_|refine wpAny_madeBy_exc hC ?_|simp-iota only[bne_self_eq_false,ć,Ŧ]|wp_step)
 exact hq
end
section
variable{t:Ç}{os:OsState}
variable{nm q:Ï}{oM:Ë}{sn:Á Ï}{sub:Á Ă}{ab:Ë}{col:Ã Ë}
theorem bD(hC:h.get? C=À (excClassObj nm q C N bs bm oM sn sub ab col dd k0 k1 k2 k3 k5 "Exception.__new__"))(hB:bm.contains (.type "Exception")=Å)(hA:bm.contains (.type "AttributeError")=Æ)(hN:bm.contains (.type "NameError")=Æ)(hq:R (.ok<|.ret<|.ref<|h.objs.size+1) ⟨(h.push<|BB rest).push<|Av C h.objs.size,g,d,t,os⟩) (rt:rest.length<=sizeLine):ň (model prog w) A (.builtin "Exception.__new__" ⟨.ref C::rest,[]⟩) R ⟨h,g,d,t,os⟩:=by
 have Fn:=PySem.F.excBase_Exception;have xF:=Fn.ends;have uJ:(ă C::bm).contains (.type "Exception")=Å:=by rw[Ć,hB,ś]
 have yk:(ă C::bm).contains (.type "AttributeError")=Æ:=by rw[Ć,hA];rfl
 have yi:(ă C::bm).contains (.type "NameError")=Æ:=by rw[Ć,hN];rfl
 refine PySem.codeAny_builtinAt Fn.entry ?_;unfold Builtin.«BaseException.__new__»;refine PySem.wpAt_bind ?_;show PySem.wpAt _ _ _ (stack>>=_) _ _ _;refine PySem.wpAt_bind<|PySem.wpAt_stack λp below=>PySem.wpAt_of_wpAny ?_;wp_walk;refine PySem.wpAt_of_wpAny ?_;rw[Fn.owner];repeat(first|with_reducible refine wpAny_madeHere_exc Fn.canon hC ?_|with_reducible refine ď hC ?_|(with_reducible refine ĭ hC ?_;first|rw[uJ]|rw[yk]|rw[yi])|wp_step)
 show R _ _;rw[ç.size_push];exact hq
theorem YT{K:Ĭ}(X:K.In h)(hk:ktsIn K C "Exception"=Å)(qV:Uk K C=Å)(hi:findIn K (.ref C) "__init__"=À (À<|.ref fI))(hf:isFn K (.ref fI)=Å)(rt:rest.length<=sizeLine)(hq:ň (model prog w) (A.under<|.builtin "type.__call__" ⟨.ref C::rest,[]⟩) (.call (.ref fI) ⟨.ref (h.objs.size+1)::rest,[]⟩) (InitBack (h.objs.size+1) λr s'=>match r with|.ok (.ret v)=>Q v s'|.ok _=>Ń|.error e=>E e s') ⟨(h.push<|BB rest).push<|Av C h.objs.size,g,d,t,os⟩):wpAny (model prog w) A (call (.ref C) rest []) Q E ⟨h,g,d,t,os⟩:=by
 have Fn:=PySem.F.excBase_Exception;x_go;obtain⟨nm,q',N',bs,bm,oM,sn,sub,ab,col,dd,k0,k1,k2,k3,k5,newId,hC,ny,rM⟩:=QX X hk;have l?:newId="Exception.__new__"/\bm.contains (.type "AttributeError")=Æ/\bm.contains (.type "NameError")=Æ:=by
  x_go;obtain⟨o,ho,hn⟩:=any_some qV;obtain rfl:=Ak<|(X _ _ ho).symm.trans hC;obtain⟨e,e3⟩:=AB hn;obtain⟨e1,e2⟩:=AB e;refine zk ⟨à e1,?_,?_⟩;.rw[Ć]at e2;simpa using e2
  .rw[Ć]at e3;simpa-iota using e3
 obtain⟨rfl,hA,hN⟩:=l?;have f1:=tc_lookup;have f2:=tc_bind<|.ref C;have hT:(⟨h,g,d,t,os⟩:Ó).TypeIs (.ref C) "type":=⟨_,hC,Ä⟩;refine zk<|ř<|codeAny_of_tree ?_;show wpAny _ _ (callAny (.ref C) _) _ _ _;repeat(any_goals(first|assumption|with_reducible refine ď hC ?_|wp_step))
 refine⟨Ä,?_⟩;refine codeAny_call_builtin_at (Code.quiet_builtin _<|by decide+kernel) entry_typeCall<|wpAny_check_type_call_sub hC ?_;repeat(first|with_reducible refine ď hC ?_|with_reducible refine wpAny_madeBy_exc hC ?_|wp_step)
 refine codeAny_call_builtin_code (Code.quiet_builtin _ Fn.quiet)<|NR hC rM ?_;refine bD hC rM hA hN ?_ rt;show wpAny _ _ _ _ _ _;have up:∀b o,h.get? b=À o->((h.push<|BB rest).push<|Av C h.objs.size).get? b=À o:=λb o e=>ß _<|ß _ e;have r9:=up _ _ hC;have ud:=X.keeps up;have uC:((h.push<|BB rest).push<|Av C h.objs.size).get? (h.objs.size+1)=À (Av C h.objs.size):=by heap_get
 have xJ:(ă C::bm).contains (.ref C)=Å:=by simp-iota
 unfold isInstance;repeat(first|with_reducible refine ď uC ?_|(with_reducible refine ĭ r9 ?_;rw[xJ])|wp_step)
 show wpAny _ _ (isSubtype (.ref C)<|.ref C) _ _ _;refine ĭ r9 ?_;rw[xJ];simp-iota only[Ë.not_true,ć,Ŧ];refine É<|í ?_;have t1:Ε (model prog w) ((h.push<|BB rest).push<|Av C h.objs.size) (typeOf<|.ref<|h.objs.size+1) (.ref C):=(Ε.ld uC).andThen .now;unfold callSpecial? specialOf;refine É<|É<|t1.at<|(ω ud hi).at ?_;refine í<|É<|(bind_fn ud _<|beq_iff_eq.mp hf).at ?_;refine É<|ř<|codeAny_mono hq λr s' z=>?_;rcases r with e|(v|_|_|_)<;>first|exact z|exact z.elim|skip
 x_go;obtain⟨rfl,z⟩:=z;exact zk<|Ô<|Ô z
end
end Mine.Internal
end
section
open PySem PySem.W PyProof.Rows PySem.Calls PyProof.V
namespace Mine.Internal
structure Pn(cx:Cx)(A:ĕ)(env:Ů)(outer:Á Ů)(A₀:ĕ)(h₀:ç)(L:Û)(s:Ó)(m:Ï->Ã PV)(news:Em):Prop where
 B:Below A₀ cx.B.base outer h₀
 F:Fr h₀ L s.heap m
 N:ĵ h₀ L s.heap news
 fr:A.frames=À (env::outer)fl:env.frame=À L
 fk:env.scope.kind=.function
 hh:A.handled=È
structure GL(env:Ů)(f:Fn)(L:Û):Prop where
 scope:env.scope=f.scope
 locals:env.locals=L
 globals:env.globals=ý
 builtins:env.builtins=builtinsNs
 frame:env.frame=À L
section
theorem Pn.base(Rw:Pn cx A env outer A₀ h₀ L s m news):∀b o,cx.B.base.get? b=À o->s.heap.get? b=À o:=λb o e=>Rw.F.keep _ _<|Rw.B.stays _ _ e
theorem MV(qY:cx.B.base.NoLimit)(Rw:Pn cx A env outer A₀ h₀ L s m news)(oJ:A.depth<recursionLimit)(FF:G5 cx.B fa f)(hl:ws.length=f.params.length)(body:∀m8 A' L' g s',Pn cx A' m8 (env::outer) A g L' s' (λy=>(f.params.zip ws).reverse.lookup y) news->A'.depth=A.depth+1->GL m8 f L'->s'.gens=s.gens/\s'.drawn=s.drawn/\s'.os=s.os->wpAny cx.M A' (execs f.body m8) (λfl s2=>fl=.next/\H5 (λm2 o9=>Fr g L' s2.heap m2) (λm2 o9=>ĵ g L' s2.heap o9) λm2 o9=>Fr h₀ L s2.heap m->ĵ h₀ L s2.heap o9->R (.ok<|.ret .none) s2) (λZ Z=>Ń) s'):ň cx.M A (.call (.ref fa) ⟨ws,[]⟩) R s:=by
 x_go;obtain⟨ok,nd,nc,hp,fo,name,qual,args,kV,doc,pm,cdv,ct,an,f1,f2,f3,f4⟩:=FF;unfold DI at ok;obtain⟨q1,q4⟩:=AB ok;obtain⟨q1,q3⟩:=AB q1;obtain⟨q1,q2⟩:=AB q1;have up:=Rw.base;have tf:ws.length=args.length:=by exact AA hl<|AP f4<|AA (Ð ..) Ä
 have uW:Β s (fnX name qual (CV args) f.body f.scope [] .none kV doc pm an cdv ct) ⟨ws,[]⟩ (f.params.zip ws):=.of_eq (by exact AA (Nu tf<|by exact AA f4 nd)<|AA f4 Ä);refine zk<|Hn Rw.B Rw.F Rw.N (qY.keeps Rw.B.stays) Rw.fr Rw.fl Rw.fk (up _ _ f1) f2 (f3.keeps up) oJ uW (λy hy=>hp _ (σ hy).1) (λg L' mU F1 F2 N2 B2 st=>?_) nc (by simpa using q3) (by simpa using q4)<|à q2;have key:=body (envX qual f.scope L' fa cdv []) (A.deeper<|envX qual f.scope L' fa cdv []) L' g {s with heap:=mU,toks:=s.toks+(f.params.zip ws).length} ⟨B2,F2,N2,Ġ Rw.fr,Ä,à q2,Rw.hh⟩ Ä ⟨Ä,Ä,Ä,Ä,Ä⟩ ⟨Ä,Ä,Ä⟩;refine ö key (λfl s2 hz=>?_) λZ Z x=>x.elim;obtain⟨e,m2,o9,F3,N3,k⟩:=hz;subst e;have ya:∃o,g.get? L=À o:=by obtain⟨o,_,_,h,_⟩:=F1.ns;exact⟨o,h⟩
 refine k ⟨F1.ns.keeps F3.keep,λb o e=>F3.keep _ _<|st b o e,Rw.F.above⟩ λp hp=>⟨(N3 p hp).1,λe=>?_,?_⟩;.x_go;obtain⟨o,ho⟩:=ya;have:=(N3 p hp).2.2;rw[e,ho]at this;exact GO this
 .generalize e:h₀.get? p.1=zc;rcases zc with _|o;.rfl
  .have:=(N3 p hp).2.2;rw[st _ _ e]at this;exact GO this
theorem Ct(Rw:Pn cx A env outer A₀ h₀ L s m news)(hE:GL env f L){x:Ï}(hk:f.scope.names.lookup x=À .local)(hn:Bz x=Å)(hv:m x=À v)(h:Q v s):wpAny cx.M A (eval (.Name x p) env) Q E s:=wpAny_Name (Ξ Rw.fk (by show env.scope.names.lookup x=_;exact AA hE.scope hk) (by exact AA hE.locals Rw.F.ns) hv h)<|Ba hn
theorem Om(G:cx.Gl)(Rw:Pn cx A env outer A₀ h₀ L s m news)(hE:GL env f L){x:Ï}(hk:f.scope.names.lookup x=À .globalImplicit)(hn:Bz x=Å)(hv:cx.mg x=À v)(h:Q v s):wpAny cx.M A (eval (.Name x p) env) Q E s:=Ş Rw.fk (by show env.scope.names.lookup x=_;exact AA hE.scope hk) (loadGlobal_global (mg:=cx.mg) (by exact AA hE.globals<|G.T.g.keeps Rw.base) hv h)<|Ba hn
theorem MW(G:cx.Gl)(Rw:Pn cx A env outer A₀ h₀ L s m news)(hE:GL env f L){x:Ï}(hk:f.scope.names.lookup x=À .globalImplicit)(hn:Bz x=Å)(h1:cx.mg x=È)(h2:cx.mb x=À v)(h:Q v s):wpAny cx.M A (eval (.Name x p) env) Q E s:=Ş Rw.fk (by show env.scope.names.lookup x=_;exact AA hE.scope hk) (loadGlobal_builtin (mg:=cx.mg) (mb:=cx.mb) (by exact AA hE.globals<|G.T.g.keeps Rw.base) h1 (by exact AA hE.builtins<|G.T.b.keeps Rw.base) h2 h)<|Ba hn
theorem KA(hE:GL env f L)(hk:env.scope.kind=.function):interactive env=Æ:=by unfold interactive;exact AA hk Ä
end
theorem YP:findCls [] (.type "Exception") (.type "type") "__init__"=À (.val<|.builtin "Exception.__init__"):=by rfl
theorem bB(K:Ĭ):findCls K (.type "Exception") (.type "type") "__init__"=À (.val<|.builtin "Exception.__init__"):=YP
theorem Vu:Manifest.isStub "Exception"=Æ:=by decide+kernel
theorem bA:typeOf (.type "Exception")=pure (.type "type"):=⋯
section
variable{cx:Cx}
theorem KB(u6:noStar a=Å)(u5:noStar b=Å)(P:ç->Prop)(hk:∀h,P h->∃k,(k=Ν\/k=ŷ\/k=š)/\Ε cx.M h (keeperOf fv) k)(h:wpAny cx.M A (eval a env) (λv1 s1=>wpAny cx.M A (eval b env) (λv2 s2=>P s2.heap/\wpAny cx.M A (call fv (first++[v1,v2]) []) Q E s2) E s1) E s):wpAny cx.M A (callWith pos fv first (backTo pos'<|Ļ [a,b] env) []) Q E s:=by
 have hn:[a,b].all noStar=Å:=by simp[u6,u5]
 refine callWith_of (P:=P) (by exact AA (D6 hn).1 Ä) hk ?_;have e1:Ļ [a,b] env=[(Æ,eval a env),(Æ,eval b env)]:=(Cs u6).trans<|Â _<|Cs u5;exact AA e1<|evalArgs_plain<|ψ<|ö h (λv1 s1 h1=>ψ<|ö h1 (λv2 s2 h2=>spliced_nil h2) λZ Z x=>x) λZ Z x=>x
theorem WW(G:cx.Gl)(D:jw cx.K C)(hb:cx.mg "Exception"=È/\cx.mb "Exception"=À (.type "Exception"))(hf:DO f)(Rw:Pn cx A env outer A₀ g L s m<|(e,Av C t0)::rest)(hE:GL env f L)(ry:m "self"=À (.ref e))(u7:m "text"=À pi)(h2:∀p∈rest,p.1≠e):wpAny cx.M A (execs f.body env) (λfl s2=>fl=.next/\Ku (λdx t1 tk=>Fr g L s2.heap m) (λdx t1 tk=>ĵ g L s2.heap<|(dx,Ĵ (putL "text" (ò cx.B.w.params "text") (.str "text" tk) pi [])<|putN "text" [] 0)::(e,{Av C t1 with dict:=À dx})::rest) (λdx t1 tk=>∀p∈(e,Av C t1)::rest,p.1≠dx) λdx t1 tk=>s2.gens=s.gens/\s2.drawn=s.drawn/\s2.os=s.os) (λZ Z=>Ń) s:=by x_go;obtain⟨pS,k1,k2,k3,p1,p2,p3,p4,p5,p6,q1,q2,q3,q4,pJ,pG⟩:=hf;refine zk<|AA pJ ?_;have Xb:∀{h:ç},(∀b o,cx.B.base.get? b=À o->h.get? b=À o)->cx.K.In h:=λk=>G.X.keeps k;refine Ň<|wpAny_Expr_any ?_ (KA hE Rw.fk) Ä;refine MethodCall_ ?_ (FC Ä pG Ä<|by simp);refine MW G Rw hE k3 (by decide) hb.1 hb.2 ?_;refine method_type Rw.F (Xb Rw.B.stays) bA Vu (bB cx.K) Ä ?_;have R1:Pn cx A env outer A₀ g L {s with toks:=s.toks+1} m ((e,Av C t0)::rest):=⟨Rw.B,Rw.F,Rw.N,Rw.fr,Rw.fl,Rw.fk,Rw.hh⟩;refine KB Ä Ä (λZ=>Ŀ) (λZ Z=>Cw) ?_;refine Ct R1 hE k1 (by decide) ry<|Ct R1 hE k2 (by decide) u7 ⟨Þ,?_⟩;refine YS (s:={s with toks:=s.toks+1}) Rw.F Rw.N (Xb Rw.base) Ä Ä (by simp) D.kE h2 λh' t1 F' N'=>?_;have R2:Pn cx A env outer A₀ g L {s with heap:=h',toks:=s.toks+1} m ((e,Av C t1)::rest):=⟨Rw.B,F',N',Rw.fr,Rw.fl,Rw.fk,Rw.hh⟩;refine Ň<|Ŋ ?_ Ä Ä;refine Ct R2 hE k2 (by decide) u7 ?_;show wpAny _ _ (assign (.Attribute (.Name "self" q1) "text" q2) env pi) _ _ _;refine AA (Τ ..)<|É<|í<|Ct R2 hE k1 (by decide) ry ?_;refine É<|ĩ<|É<|í ?_;refine T9 (s:={s with heap:=h',toks:=s.toks+1}) F' N' (Xb R2.base) Ä Ä Ä D.sa D.j? D.tP h2 λwK dx wm wj hd=>?_;exact κ<|ĺ ⟨Ä,dx,t1,_,wm,wj,hd,Ä,Ä,Ä⟩
end
inductive gU(cx:Cx)(qe:Fn):Prop|mk (Ca fA:Û) (a1:cx.mg "AdaError"=À (.ref Ca)) (a2:specialIn cx.K (.ref Ca) "__getattribute__"=À (À<|.builtin "type.__getattribute__")) (a3:typeIn cx.K (.ref Ca)=À (.type "type")) (a4:readsIn cx.K Ca (.type "type")=Å) (a5:findCls cx.K (.ref Ca) (.type "type") "__init__"=À (.val<|.ref fA)) (a6:keepIn cx.K (.ref fA)=Å) (a7:G5 cx.B fA qe)(xw:DO qe) (blt:cx.mg "Exception"=È/\cx.mb "Exception"=À (.type "Exception"))
theorem DO.i!(h:DO f):f.params=[("self":Ï),"text"]:=by obtain⟨p⟩:=h;exact p
section
theorem F0:(("text":Ï)="tasks")=Ń:=by decide
theorem Sn(G:cx.Gl)(D:jw cx.K C)(AF:gU cx qe)(hf:GD f)(Rw:Pn cx A env outer A₀ g L s m<|(e,Av C t0)::rest)(hE:GL env f L)(oJ:A.depth<recursionLimit)(ry:m "self"=À (.ref e))(u7:m "tasks"=À w)(h2:∀p∈rest,p.1≠e):wpAny cx.M A (execs f.body env) (λfl s2=>fl=.next/\cS (λdx t1 es n=>Fr g L s2.heap m) (λdx t1 es n=>ĵ g L s2.heap<|(dx,Ĵ es n)::(e,{Av C t1 with dict:=À dx})::rest) (λdx t1 es n=>getL "tasks" es=À (À w)) (λdx t1 es n=>∀p∈(e,Av C t1)::rest,p.1≠dx) λdx t1 es n=>s2.gens=s.gens/\s2.drawn=s.drawn/\s2.os=s.os) (λZ Z=>Ń) s:=by
 x_go;obtain⟨pS,k1,k2,k3,p1,p2,p3,c,kk,p4,p5,p6,q1,q2,q3,q4,pJ,pG⟩:=hf;obtain⟨Ca,fA,a1,a2,a3,a4,a5,a6,a7,rS,wc⟩:=AF;refine zk<|AA pJ ?_;have Xb:∀{h:ç},(∀b o,cx.B.base.get? b=À o->h.get? b=À o)->cx.K.In h:=λk=>G.X.keeps k;refine Ň<|wpAny_Expr_any ?_ (KA hE Rw.fk) Ä;refine MethodCall_ ?_ (FC Ä pG Ä<|by simp);refine Om G Rw hE k3 (by decide) a1 ?_;refine method_of_cls Rw.F (Xb Rw.B.stays) a2<|cls_val Rw.F (Xb Rw.B.stays) a3 a4 a5 Ä ?_;have R1:Pn cx A env outer A₀ g L {s with toks:=s.toks+1} m ((e,Av C t0)::rest):=⟨Rw.B,Rw.F,Rw.N,Rw.fr,Rw.fl,Rw.fk,Rw.hh⟩;refine KB Ä Ä cx.K.In (keeps_K a6) ?_;refine Ct R1 hE k1 (by decide) ry<|ο ⟨Xb Rw.base,?_⟩;have R2:Pn cx A env outer A₀ g L {s with toks:=s.toks+1+1} m ((e,Av C t0)::rest):=⟨Rw.B,Rw.F,Rw.N,Rw.fr,Rw.fl,Rw.fk,Rw.hh⟩;refine ř<|MV G.T.nolimit R2 oJ a7 (ws:=[.ref e,.str c<|s.toks+1]) (by exact AA rS.i! Ä) λm8 A' L' g' s' wg nP wH oI=>?_;refine ö (WW G D wc rS wg wH (by exact AA rS.i! Ä) (by exact AA rS.i! Ä) h2) (λfl s2 hx=>?_) λZ Z x=>x;x_go;obtain⟨qD,dx,t1,tk,F3,N3,oU,sf⟩:=hx;refine zk<|⟨qD,_,_,F3,N3,λF4 N4=>?_⟩;have R4:Pn cx A env outer A₀ g L s2 m ((dx,Ĵ (putL "text" (ò cx.B.w.params "text") (.str "text" tk) (.str c<|s.toks+1) [])<|putN "text" [] 0)::(e,{Av C t1 with dict:=À dx})::rest):=⟨Rw.B,F4,N4,Rw.fr,Rw.fl,Rw.fk,Rw.hh⟩;refine Ň<|Ŋ ?_ Ä Ä;refine Ct R4 hE k2 (by decide) u7 ?_;show wpAny _ _ (assign (.Attribute (.Name "self" q1) "tasks" q2) env w) _ _ _;refine AA (Τ ..)<|É<|í<|Ct R4 hE k1 (by decide) ry ?_;refine É<|ĩ<|É<|í ?_;have e1:putL "text" (ò cx.B.w.params "text") (.str "text" tk) (.str c<|s.toks+1) []=[⟨ò cx.B.w.params "text",.str "text" tk,.str c<|s.toks+1⟩]:=Ä;have I:InstAt s2.heap e {Av C t1 with dict:=À dx} C (À<|Ĵ (putL "text" (ò cx.B.w.params "text") (.str "text" tk) (.str c<|s.toks+1) [])<|putN "text" [] 0):=⟨(N4 _<|.tail _<|.head _).1,Ä,Ä,(N4 _<|.head _).1⟩;refine XC (pre:=[]) (post:=(e,{Av C t1 with dict:=À dx})::rest) F4 N4 (Xb R4.base) I Ä D.sa D.j? D.sH ?_ (λp hp=>â hp ã) (λp hp=>?_) ?_ λh5 F5 N5=>?_;.exact AA e1<|AA (EI ..)<|AA (Ì<|by exact AA F0 id) Ä
 .rcases Bt hp with q|q;.exact AA q<|oU (e,Av C t1)<|.head _
  .exact oU p<|.tail _ q
 .refine Ñ (Mb _ _ _ _ _) ?_;refine AA e1 ?_;simp
 .refine κ<|ĺ ⟨Ä,dx,t1,_,_,F5,N5,?_,oU,?_⟩;.refine AA e1<|AA (KC ..)<|AA (Ì<|by exact AA F0 id)<|AA (EI ..)<|AA (Ì<|by exact AA F0 id) ?_;show getL "tasks" [⟨_,.str "tasks" _,w⟩]=_;exact AA (EI ..)<|AA (Î Ä) Ä
  .exact ⟨sf.1.trans oI.1,sf.2.1.trans oI.2.1,sf.2.2.trans oI.2.2⟩
end
inductive Op where|ld (env:BJ) (x:Ï)|st (env:BJ) (x:Ï)|sF|get (n:Ï)|set (n:Ï)|item|oy|g! (op:Į)|sW (op:Į)|un (op:UnaryOp)|cmp (op:CmpOp)|d_|G_|sC (ks:Á Ï)|rg|blt (x:Ï)|knd (m:Ï)|lm (m:Ï)|dm (m:Ï)|uw|iter|tQ|same|ui|mo (ps:Á Ï) (b:Á Đ) (sc:Ō) (cl:Á<|Ï×Ad)
inductive GP where|comp|N? (v:V)|tr (n x:Ï)|sO
inductive Pr where|ret (v:V)|exc (e:V)|C_|prim (o:Op) (as:Á V) (k:V->Pr)|ask (b:Ë) (k:Ë->Pr)|call (t:Ny) (as:Á V) (k:V->Pr)|oX (i:GP) (p:Pr) (k:V->Pr)
def Pr.bind(p:Pr)(f:V->Pr):Pr:=Pr.rec (motive:=λZ=>Pr) f .exc .C_ (λo as k ih=>.prim o as ih) (λb k ih=>.ask b ih) (λt as k ih=>.call t as ih) (λi p k Z ih=>.oX i p ih) p
def TH(o:Ã S):AN V:=match o with|À s=>.ok .none s|È=>.C_
def VC(m:Ï)(v:V)(s:S):AN V:=match v with
 |.ref a=>match s.h a with
  |À (.inst c fs)=>match FJ fs m with|À (.ref b)=>.ok (.ref b) s|À _=>.C_|È=>if c="Tasking"/\m="next_number"then .ok .none s else .C_
  |À (.list _)=>if Gn m then .ok (.bool Å) s else .C_|À (.dict _)=>if Go m then .ok (.bool Æ) s else .C_|_=>.C_
 |_=>.C_
def eJ(m:Ï)(as:Á V)(s:S):AN V:=match as with
 |.ref a::l=>match s.h a with|À (.list xs)=>QV m a xs l s|_=>.C_
 |_=>.C_
def fp(m:Ï)(as:Á V)(s:S):AN V:=match as with
 |.ref a::l=>match s.h a with|À (.dict xs)=>V8 m a xs l s|_=>.C_
 |_=>.C_
def X5(v:V)(s:S):AN V:=match v with
 |.ref a=>match s.h a with|À (.mo ..)=>.ok v s|_=>.C_
 |_=>.C_
def c8(o k:V)(s:S):AN V:=match o,k with|.fl l,.int k=>if 0<=k then s.alloc (.list<|l.drop k.toNat)else .C_|_,_=>.C_
def Zu(v:V)(s:S):AN V:=match v with|.int n=>if 0<=n/\n<=1000 then .ok (.D!<|(ê n.toNat).map λi=>.int<|Ý i) s else .C_|_=>.C_
def eK(v:V)(s:S):AN V:=match v with|.D! l=>if l.length<G_ then s.alloc (.list l)else .C_|_=>.C_
open Classical in
def E1(v l:V)(s:S):AN V:=match l with|.D! l=>if BH v s=À l then .ok .none s else .C_|_=>.C_
def QF(A_:Ï->Ã V)(o:Op)(as:Á V)(s:S):AN V:=match o with|.ld env x=>loadName A_ env x s|.st env x=>a1 as λv=>TH<|Tz env x v s|.sF=>a1 as λv=>C8 ((truthy v s).map .bool) s|.get n=>a1 as λv=>C8 (fN v n s) s|.set n=>a2 as λo v=>TH<|cC o n v s|.item=>a2 as λo i=>C8 (cK o i s) s|.oy=>a3 as λo i v=>TH<|cB o i v s|.g! op=>a2 as λa b=>Q8 op a b s|.sW op=>a2 as λa b=>af op a b s|.un op=>a1 as λa=>C8 (gy op a s) s|.cmp op=>a2 as λa b=>cmp op a b s|.d_=>s.alloc<|.list as|.G_=>a1 as λv=>eK v s|.sC ks=>s.alloc<|.dict<|(ks.map V.str).zip as|.rg=>a2 as λo k=>c8 o k s|.blt x=>builtin x as s|.knd m=>a1 as λv=>VC m v s|.lm m=>eJ m as s|.dm m=>fp m as s|.uw=>a1 as λv=>X5 v s|.iter=>a1 as λv=>C8 ((GC v s).map .D!) s|.tQ=>a1 as λv=>Zu v s|.same=>a2 as λv l=>E1 v l s|.ui=>a1 as λv=>if BF v s=[]then .ok .none s else .C_|.mo ps b sc cl=>s.alloc<|.mo ps b sc cl
def GP.M!(i:GP)(s:S):S:=match i with|.comp=>{s with A!:=λZ=>È}|.N? v=>{s with lk:=BF v s++s.lk}|.tr ..=>s|.sO=>s
def GP.J?(i:GP)(s:S)(x:AN V):Ã (V×S):=match i with
 |.comp=>match x with|.ok v s'=>À (v,{s' with A!:=s.A!})|_=>È
 |.N? _=>match x with|.ok v s'=>À (v,{s' with lk:=s.lk})|_=>È
 |.tr n y=>match x with|.ok v s'=>À (v,s')|.exc e s'=>if(s'.A! n).isNone then À (.none,s'.set y e)else È|.C_=>È
 |.sO=>match x with|.ok v s'=>À (v,s')|_=>È
def C9{α:Type}(x:Ã<|V×S)(f:V->S->AN α):AN α:=match x with|À (v,s')=>f v s'|È=>.C_
def Pr.run(A_:Ï->Ã V)(C:Dt):Pr->S->AN V|.ret v,s=>.ok v s|.exc e,s=>.exc e s|.C_,_=>.C_|.prim o as k,s=>(QF A_ o as s).bind λv s'=>(k v).run A_ C s'|.ask b k,s=>(k b).run A_ C s|.call t as k,s=>(C t as s).bind λv s'=>(k v).run A_ C s'|.oX i p k,s=>C9 (i.J? s<|p.run A_ C<|i.M! s) λv s'=>(k v).run A_ C s'
theorem AN.bind_assoc{α β γ:Type}(x:AN α)(f:α->S->AN β)(h:β->S->AN γ):(x.bind f).bind h=x.bind λa s=>(f a s).bind h:=by induction x<;>rfl
theorem Ix{α β:Type}(x:Ã<|V×S)(f:V->S->AN α)(h:α->S->AN β):C9 x (λv s'=>(f v s').bind h)=(C9 x f).bind h:=by induction x<;>rfl
theorem Pr.F_(p:Pr):∀s:S,(p.bind f).run G C s=(p.run G C s).bind λv s'=>(f v).run G C s':=by induction p with|ret v=>exact λZ=>Ä|exc e=>exact λZ=>Ä|C_=>exact λZ=>Ä|prim o as k ih=>exact λs=>(Â (AN.bind _)<|ø λv=>ø λs'=>ih v s').trans (AN.bind_assoc _ _ _).symm|ask b k ih=>exact λs=>ih b s|call t as k ih=>exact λs=>(Â (AN.bind _)<|ø λv=>ø λs'=>ih v s').trans (AN.bind_assoc _ _ _).symm|oX i p k _ ih=>exact λs=>(Â (C9 _)<|ø λv=>ø λs'=>ih v s').trans<|Ix _ _ _
structure IL where
 RX:Cx->Wd->S->V->PV->Ó->Prop
 A_:Ï->Ã V
 C:Dt
 k:Ç
 rx:N7 RX A_ k
 call:D3 RX A_ C k
noncomputable abbrev IL.run(g:IL)(p:Pr)(s:S):AN V:=p.run g.A_ g.C s
noncomputable abbrev MA(β:Type):=Wd->V->β->Prop
structure jn{β:Type}(g:IL)(R:MA β)(m:Ů->Sem β)(p:BJ->Pr):Prop where go:∀{cx:Cx}{W:Wd}{s:S}{t:Ó}{env:BJ}{C?:Ů}{A:ĕ}{Q:β->Ó->Prop}{E:PV->Ó->Prop},Ao cx g.A_ g.k W env C? A->RR cx W s t->AZ g.RX cx W (g.run (p env) s) R Q E->wpAny cx.M A (m C?) Q E t
def BR:MA Ë:=λZ v b=>v=.bool b
def UR:MA Η:=λZ Z Z=>Ŀ
def FR:MA PySem.Flow:=λW v f=>match f with|.next=>v=.none|.brk=>v=.bool Æ|.cont=>v=.bool Å|.ret w=>BM (λu=>v=.D! [u]) λu=>VR W u w
structure TX{β:Type}(R:MA β)(m:Ů->Sem β)where
 p:BJ->Pr
 c:Ë
 ok:c=Å->∀g,jn g R m p
noncomputable abbrev TE(e:ì):=TX VR<|eval e
noncomputable abbrev IK(e:ì):=TX BR λC?=>isTrue e C?<|eval e C?
noncomputable abbrev TO(op:BoolOp)(es:Á ì):=TX BR λC?=>allTrue op es C?
section
variable{g:IL}{α β:Type}{R:MA α}{R1:MA β}{Q:α->Ó->Prop}{Q1:β->Ó->Prop}
theorem step(h:AZ g.RX cx W (g.run (p.bind f) s) R Q E)(k:∀{v s' W1 w t'},W.Le W1->RR cx W1 s' t'->R1 W1 v w->AZ g.RX cx W1 (g.run (f v) s') R Q E->Q1 w t'):AZ g.RX cx W (g.run p s) R1 Q1 E:=(AZ.step g.RX<|AP (Pr.F_ p s) h) λZ Z Z Z Z Z le r hv h=>k le r hv h
theorem Ep{X:AN V}{f:V->Pr}(h:AZ g.RX cx W (X.bind λv s'=>g.run (f v) s') R Q E)(k:∀{v s' W1 w t'},W.Le W1->RR cx W1 s' t'->R1 W1 v w->AZ g.RX cx W1 (g.run (f v) s') R Q E->Q1 w t'):AZ g.RX cx W X R1 Q1 E:=AZ.step g.RX h λZ Z Z Z Z Z le r hv h=>k le r hv h
theorem ret{w:α}(h:AZ g.RX cx W (g.run (.ret v) s) R Q E)(r:RR cx W s t)(hv:R W v w):Q w t:=h W w t (.refl W) r hv
theorem fin{X:AN V}(h:AZ g.RX cx W (X.bind λv s'=>g.run (.ret v) s') R Q E):AZ g.RX cx W X R Q E:=by induction X<;>exact h
theorem mQ{m:Ů->Sem β}:jn g R1 m λZ=>.C_:=⟨λ{Z Z Z Z Z Z Z Z Z}Z Z h=>h.elim⟩
end
def TX.C_{β:Type}(R:MA β)(m:Ů->Sem β):TX R m:=⟨λZ=>.C_,Å,λZ Z=>mQ⟩
theorem cl{a b:Ë}(h:(a&&b)=Å):a=Å:=(S7 h).1
theorem cr{a b:Ë}(h:(a&&b)=Å):b=Å:=(S7 h).2
def O2(v:V)(f:Á V->Pr):Pr:=match v with|.D! l=>f l|_=>.C_
def Ue(v:V)(f:Ë->Pr):Pr:=match v with|.bool b=>.ask b f|_=>.C_
section
variable{g:IL}
theorem Fl{X:AN V}{γ:Type}{R:MA γ}{Q:γ->Ó->Prop}(h:AZ g.RX cx W X R Q E):AZ g.RX cx W (X.bind λv s=>.ok v s) R Q E:=by induction X<;>exact h
theorem hY{o:Ã S}{Q:Η->Ó->Prop}(h:AZ g.RX cx W (TH o) UR Q E):BM (λs'=>o=À s') λs'=>∀{t},RR cx W s' t->Q () t:=by
 rcases o with _|s';.exact h.elim
 .exact ⟨s',Ä,λr=>h W _ _ (.refl W) r Þ⟩
theorem No{o:Ã Ë}(h:AZ g.RX cx W (EO o s) VR Q E):BM (λb=>o=À b) λb=>∀{t},RR cx W s t->Q (.bool b) t:=by
 rcases o with _|b;.exact h.elim
 .exact ⟨b,Ä,λr=>h W _ _ (.refl W) r<|.bool b⟩
theorem Il{o:Ã Ë}{b:Ë}(h:o.map (!·)=À b):BM (λc=>o=À c) λc=>(!c)=b:=by obtain⟨c,e1,e2⟩:=OG h;exact⟨c,e1,e2⟩
theorem PL{i j:Í}(r:RR cx W s t)(he:VV op i j=À x)(k:∀{w t},RR cx W s t->VR W x w->Q w t):wpAny cx.M A (binaryOp op (.int i u)<|.int j v) Q E t:=by x_go;cases op with
 |Add=>refine zk ?_;obtain rfl:=Ak he;exact add_int<|k (r.toks _)<|.int _ _|Sub=>refine zk ?_;obtain rfl:=Ak he;exact sub_int<|k (r.toks _)<|.int _ _|Mult=>
  refine Ae (P:=(·=À x)) he (λq he=>?_) λZ he=>?_;.obtain rfl:=Ak he;refine zk<|mul_int (k (r.toks _)<|.int _ _) ?_;unfold IntMulOk;have:=Jm q.1;simp only[shortFactorBits];simp;intro z;lia
  .exact AY he|FloorDiv=>
  refine Ae (P:=(·=À x)) he (λq he=>?_) λZ he=>?_;.refine zk ?_;obtain rfl:=Ak he;exact floordiv_int (Í.ne_of_gt q.1) (k (r.toks _)<|.int _ _)<|.inl<|LB q.2.2
  .exact AY he|Mod=>
  refine Ae (P:=(·=À x)) he (λq he=>?_) λZ he=>?_;.refine zk ?_;obtain rfl:=Ak he;exact mod_int' (Í.ne_of_gt q)<|k (r.toks _)<|.int _ _
  .exact AY he|_=>exact AY he
theorem dX(r:RR cx W s t)(hx:VR W a x)(hy:VR W b y)(h:AZ g.RX cx W (Q8 op a b s) VR Q E):wpAny cx.M A (binaryOp op x y) Q E t:=by x_go;induction a using Internal.V.casesOn with
 |int i=>induction b using Internal.V.casesOn with|int j=>obtain⟨u,rfl⟩:=BY hx;obtain⟨v,rfl⟩:=BY hy;obtain⟨z,e,k⟩:=Ow h;exact zk<|PL r e k|_=>exact h.elim
 |ref p=>induction b using Internal.V.casesOn with
  |ref q=>obtain⟨_,rfl⟩:=hx.me;obtain⟨_,rfl⟩:=hy.me;have h:AZ g.RX cx W (Yn op p q s) VR Q E:=h;induction op with
   |Add=>
    unfold Yn at h;dsimp only at h;generalize e1:s.list p=zc at h;rcases zc with _|l;.exact h.elim
    .dsimp only at h;generalize e2:s.list q=zc at h;rcases zc with _|k;.exact h.elim
     .refine Ae (P:=λy:AN V=>AZ g.RX cx W y VR Q E) h (λhz h=>?_) λZ h=>?_;.exact zk<|aU r (Fb e1) (Fb e2) hz λle r' hv=>h.q9 g.RX le r' hv
      .exact h.elim|_=>exact h.elim
  |_=>exact h.elim
 |_=>exact h.elim
theorem QK{Q:Ë->Ó->Prop}(r:RR cx W s t)(hx:VR W a x)(h:AZ g.RX cx W (C8 ((truthy a s).map .bool) s) BR Q E):wpAny cx.M A (PySem.truthy x) Q E t:=by x_go;obtain⟨v,e,k⟩:=Ow h;obtain⟨b,e2,rfl⟩:=OG e;exact zk<|M5 r e2 hx λZ r'=>k r' Ä
theorem iZ(r:RR cx W s t)(hx:VR W a x)(h:AZ g.RX cx W (C8 (gy op a s) s) VR Q E):wpAny cx.M A (unaryOp op x) Q E t:=by x_go;obtain⟨v,e,k⟩:=Ow h;cases op with
 |Not=>obtain⟨b,e2,rfl⟩:=OG e;exact zk<|not_of<|M5 r e2 hx λZ r'=>k r'<|.bool _|USub=>cases a with|int i=>obtain rfl:=Ak e;obtain⟨u,rfl⟩:=BY hx;exact zk<|neg_int<|k (r.toks _)<|.int _ _|_=>exact AY e
 |_=>exact AY e
theorem UZ(r:RR cx W s t)(hx:VR W a x)(hy:VR W b y)(h:AZ g.RX cx W (af op a b s) VR Q E):wpAny cx.M A (inplaceOp op x y) Q E t:=by x_go;induction a using Internal.V.casesOn with
 |int i=>induction b using Internal.V.casesOn with
  |int j=>obtain⟨u,rfl⟩:=BY hx;obtain⟨v,rfl⟩:=BY hy;obtain⟨z,e,k⟩:=Ow h;induction op with|Add=>refine zk ?_;obtain rfl:=Ak e;exact PySem.AutoIntOps.iadd_0<|k (r.toks _)<|.int _ _|Sub=>refine zk ?_;obtain rfl:=Ak e;exact PySem.AutoIntOps.isub_0<|k (r.toks _)<|.int _ _|_=>exact AY e
  |_=>exact h.elim
 |_=>exact h.elim
theorem NI{c:Ë}(h:ZH a b s=À c):BM (λy=>b=.ref y) λy=>(BM (λl=>s.h y=À (.list l)) λl=>PK a l=À c)\/H5 (λl x=>s.h y=À (.dict l)) (λl x=>AW a l=À x) λl x=>x.isSome=c:=by induction b using Internal.V.casesOn with
 |ref y=>
  refine⟨y,Ä,?_⟩;unfold ZH at h;dsimp only at h;generalize e:s.h y=zc at h;rcases zc with _|d;.exact AY h
  .induction d with|list l=>exact .inl ⟨l,Ä,h⟩|dict l=>obtain⟨x,e1,e2⟩:=OG h;exact .inr ⟨l,x,Ä,e1,e2⟩|_=>exact AY h
 |_=>exact AY h
theorem QM{f:Í->Í->Ã Ë}(hx:VR W a x)(hy:VR W b y)(h:AZ g.RX cx W (match a with|.int x=>(match b with|.int y=>EO (f x y) s|_=>.C_)|_=>.C_) VR Q E):kl (λi j u v c=>x=.int i u) (λi j u v c=>y=.int j v) (λi j u v c=>f i j=À c) λi j u v c=>∀{t},RR cx W s t->Q (.bool c) t:=by x_go;induction a using Internal.V.casesOn with
 |int i=>induction b using Internal.V.casesOn with|int j=>obtain⟨u,rfl⟩:=BY hx;obtain⟨v,rfl⟩:=BY hy;obtain⟨c,e,k⟩:=No h;exact zk<|⟨i,j,u,v,c,Ä,Ä,e,k⟩|_=>exact h.elim
 |_=>exact h.elim
theorem SV:VR W a x->a.isNone=match x with|.none=>Å|_=>Æ:=λhx=>by induction hx using Internal.VR.casesOn<;>rfl
theorem dW{f:Ë->Ë}(hx:VR W a x)(hy:VR W b y)(h:AZ g.RX cx W (match b with|.none=>.ok (.bool<|f a.isNone) s|_=>.C_) VR Q E):y=.none/\∀{t},RR cx W s t->Q (.bool<|f<|match x with|.none=>Å|_=>Æ) t:=by induction b using Internal.V.casesOn with|none=>exact⟨by cases hy;rfl,λr=>h W _ _ (.refl W) r<|AP (SV hx)<|.bool _⟩|_=>exact h.elim
theorem Y8(H:Ao cx g.A_ g.k W env C? A)(r:RR cx W s t)(hx:VR W a x)(hy:VR W b y)(h:AZ g.RX cx W (cmp op a b s) VR Q E):wpAny cx.M A (Ľ op x y) Q E t:=by induction op with
 |Eq=>obtain⟨c,e,k⟩:=No h;exact(eX r H.qo hx hy e).1<|k r|NotEq=>obtain⟨c,e,k⟩:=No h;obtain⟨d,e',rfl⟩:=Il e;exact(eX r H.qo hx hy e').2<|k r|Lt=>obtain⟨i,j,u,v,c,rfl,rfl,e,k⟩:=QM (f:=Su .Lt) hx hy h;obtain rfl:=Ak e;exact lt_int<|k r|LtE=>obtain⟨i,j,u,v,c,rfl,rfl,e,k⟩:=QM (f:=Su .LtE) hx hy h;obtain rfl:=Ak e;exact le_int<|k r|Gt=>obtain⟨i,j,u,v,c,rfl,rfl,e,k⟩:=QM (f:=Su .Gt) hx hy h;obtain rfl:=Ak e;exact gt_int<|k r|GtE=>obtain⟨i,j,u,v,c,rfl,rfl,e,k⟩:=QM (f:=Su .GtE) hx hy h;obtain rfl:=Ak e;exact ge_int<|k r|Is=>obtain⟨rfl,k⟩:=dW (f:=id) hx hy h;exact is_none (by have:=k r;induction x<;>exact this)|IsNot=>obtain⟨rfl,k⟩:=dW (f:=not) hx hy h;exact isNot_none (by have:=k r;induction x<;>exact this)|In=>
  obtain⟨c,e,k⟩:=No h;obtain⟨p,rfl,⟨l,e1,e2⟩|⟨l,f,e1,e2,rfl⟩⟩:=NI e;.obtain ⟨_,rfl⟩:=hy.me;exact(KR r H.qo hx e1 e2).1<|k r
  .obtain ⟨_,rfl⟩:=hy.me;exact KT H.G H.c? r H.qo e1 hx e2 λq=>k<|r.toks q|NotIn=>
  obtain⟨c,e,k⟩:=No h;obtain⟨d,e',rfl⟩:=Il e;obtain⟨p,rfl,⟨l,e1,e2⟩|⟨l,f,e1,e2,rfl⟩⟩:=NI e';.obtain ⟨_,rfl⟩:=hy.me;exact(KR r H.qo hx e1 e2).2<|k r
  .obtain ⟨_,rfl⟩:=hy.me;exact Ml<|KT H.G H.c? r H.qo e1 hx e2 λq=>⟨_,Ä,k<|r.toks q⟩
theorem Y7(H:Ao cx g.A_ g.k W env C? A)(r:RR cx W s t){n:Ï}(hn:n∈A6){i:Ë}(hx:VR W a x)(h:AZ g.RX cx W (C8 (fN a n s) s) VR Q E):wpAny cx.M A (getAttr x n i) Q E t:=by x_go;obtain⟨v,e,k⟩:=Ow h;induction a using Internal.V.casesOn with
 |ref d=>
  obtain⟨_,rfl⟩:=hx.me;unfold fN at e;dsimp only at e;generalize e2:s.h d=zc;rcases zc with _|c;.refine zk ?_;rw[e2]at e;exact AY e
  .rw[e2]at e;induction c with|inst c fs=>exact zk<|KU H.G r e2 e hn λw q hw=>k (r.toks q) hw|_=>exact AY e
 |_=>exact AY e
theorem Y6{Q:Η->Ó->Prop}(H:Ao cx g.A_ g.k W env C? A)(r:RR cx W s t){n:Ï}(hn:n∈A6){a v:V}{x w:PV}(hx:VR W a x)(hv:VR W v w)(h:AZ g.RX cx W (TH<|cC a n v s) UR Q E):wpAny cx.M A (setAttr x n w) Q E t:=by obtain⟨_,e,k⟩:=hY h;exact eQ H r hn hx hv e λr'=>k r'
theorem QL{Q:Η->Ó->Prop}(H:Ao cx g.A_ g.k W env C? A)(r:RR cx W s t){a i v:V}{x y w:PV}(hx:VR W a x)(hy:VR W i y)(hv:VR W v w)(h:AZ g.RX cx W (TH<|cB a i v s) UR Q E):wpAny cx.M A (setItem x y w) Q E t:=by obtain⟨_,e,k⟩:=hY h;exact Xz H r hx hy hv e λr'=>k r'
theorem UY(H:Ao cx g.A_ g.k W env C? A)(r:RR cx W s t)(hx:VR W a x)(hy:VR W i y)(h:AZ g.RX cx W (C8 (cK a i s) s) VR Q E):wpAny cx.M A (getItem x y) Q E t/\Hb (λT id=>t.TypeIs x T) λT id=>typeLookup (.type T) "__getitem__"=pure (À<|.builtin id):=by obtain⟨_,e,k⟩:=Ow h;exact aT H r hx hy e λr' hv=>k r' hv
theorem Z4{Q:Η->Ó->Prop}(H:Ao cx g.A_ g.k W env C? A)(r:RR cx W s t){x:Ï}{v:V}{w:PV}(hv:VR W v w)(h:AZ g.RX cx W (TH<|Tz env x v s) UR Q E):wpAny cx.M A (PySem.storeName C? x w) Q E t:=by obtain⟨_,e,k⟩:=hY h;exact FI r H.e e hv λr'=>k r'
end
noncomputable abbrev lh(n:Ç):MA (Á PV):=λW v ws=>D4 (λl=>v=.D! l) (λl=>l.length=n) λl=>mR W l ws
noncomputable abbrev Yp(pos:ń)(es:Á ì):=TX (lh es.length) λC?=>spliced<|backTo pos<|Ļ es C?
def AR(n:Ç):MA Args:=λW v as=>We (λl ws=>v=.D! l) (λl ws=>l.length=n) (λl ws=>mR W l ws) λl ws=>as=⟨ws,[]⟩
structure TA(pos:ń)(es:Á ì)where
 p:BJ->Pr
 c:Ë
 ok:c=Å->∀g f,jn g (AR es.length) (λC?=>evalArgs f Å (backTo pos<|Ļ es C?) []) p
 pl:c=Å->es.all noStar=Å
def TE.const(c:Const)(k:Ç)(pos:ń):TE (.Constant c k pos):=match c with|.none=>⟨λZ=>.ret .none,Å,λZ Z=>⟨λ{Z Z Z Z Z Z Z Z Z}Z r h=>wpAny_Constant_none<|ret h r VR.none⟩⟩|.bool b=>⟨λZ=>.ret<|.bool b,Å,λZ Z=>⟨λ{Z Z Z Z Z Z Z Z Z}Z r h=>wpAny_Constant_bool<|ret h r<|VR.bool _⟩⟩|.int i=>⟨λZ=>.ret<|.int i,Å,λZ Z=>⟨λ{Z Z Z Z Z Z Z Z Z}Z r h=>wpAny_Constant_int<|ret h (r.toks _)<|VR.int _ _⟩⟩|.str x=>⟨λZ=>.ret<|.str x,ς<|.str x,λo Z=>⟨λ{Z Z Z Z Z Z Z Z Z}Z r h=>ο<|ret h (r.toks _)<|VR.str _ _ o⟩⟩|_=>.C_ _ _
def TE.name(x:Ï)(pos:ń):TE (.Name x pos):=⟨λenv=>.prim (.ld env x) [] .ret,Bz x,λo Z=>⟨λ{Z Z Z Z Z Z Z Z Z}H r h=>Vb H r o<|fin h⟩⟩
section
def TE.g!(a:TE l)(b:TE r)(op:Į)(pos:ń):TE (.BinOp l op r pos):=⟨λenv=>(a.p env).bind λx=>(b.p env).bind λy=>.prim (.g! op) [x,y] .ret,a.c&&b.c,λo g=>⟨λ{Z Z Z Z Z Z Z Z Z}H r h=>wpAny_BinOp<|(a.ok (cl o) g).go H r<|step h λ{Z Z Z Z Z}le r1 hx h=>(b.ok (cr o) g).go (H.C! le) r1<|step h λ{Z Z Z Z Z}mS r2 hy h=>dX r2 (hx.C! mS) hy<|fin h⟩⟩
def TE.un(a:TE l)(op:UnaryOp)(pos:ń):TE (.UnaryOp op l pos):=⟨λenv=>(a.p env).bind λx=>.prim (.un op) [x] .ret,a.c,λo g=>⟨λ{Z Z Z Z Z Z Z Z Z}H r h=>wpAny_UnaryOp<|(a.ok o g).go H r<|step h λ{Z Z Z Z Z}le r1 hx h=>iZ r1 hx<|fin h⟩⟩
theorem Bn{g:IL}{cx:Cx}{W:Wd}{s:S}{b:Ë}{α:Type}{R:MA α}{x y:Pr}{Q:α->Ó->Prop}{E:PV->Ó->Prop}(h:AZ g.RX cx W (g.run (Ue (.bool b) λc=>if c then x else y) s) R Q E):(b=Å->AZ g.RX cx W (g.run x s) R Q E)/\(b=Æ->AZ g.RX cx W (g.run y s) R Q E):=⟨λe=>by subst e;exact h,λe=>by subst e;exact h⟩
theorem cU{α:Type}{m n:Sem α}{Q:α->Ó->Prop}{b:Ë}(h1:b=Å->wpAny M A m Q E s)(h2:b=Æ->wpAny M A n Q E s):wpAny M A (if b=Å then m else n) Q E s:=by
 rcases b with _|_;.exact h2 Ä
 .exact h1 Ä
theorem Me{p q:Prop}{b:Ë}(h1:b=Å->p)(h2:b=Æ->q):if b=Å then p else q:=by
 rcases b with _|_;.exact h2 Ä
 .exact h1 Ä
def TE.ite(a:IK t)(x:TE b)(y:TE f)(pos:ń):TE (.IfExp t b f pos):=⟨λenv=>(a.p env).bind λv=>Ue v λc=>if c then x.p env else y.p env,a.c&&(x.c&&y.c),λo g=>⟨λ{Z Z Z Z Z Z Z Z Z}H r h=>wpAny_IfExp<|(a.ok (cl o) g).go H r<|step h λ{Z Z Z w Z}le r1 e h=>by subst e;exact Me (λe=>(x.ok (cl<|cr o) g).go (H.C! le) r1<|(Bn h).1 e) λe=>(y.ok (cr<|cr o) g).go (H.C! le) r1<|(Bn h).2 e⟩⟩
def TE.cmp(a:TE l)(b:TE r)(op:CmpOp)(pos:ń):TE (.Compare l [op] [r] pos):=⟨λenv=>(a.p env).bind λx=>(b.p env).bind λy=>.prim (.cmp op) [x,y] .ret,a.c&&b.c&&Im r,λo g=>⟨λ{Z Z Z Z Z Z Z Z Z}H r h=>wpAny_Compare1 ((a.ok (cl<|cl o) g).go H r<|step h λ{Z Z Z Z Z}le r1 hx h=>(b.ok (cr<|cl o) g).go (H.C! le) r1<|step h λ{Z Z Z Z Z}mS r2 hy h=>Y8 ((H.C! le).C! mS) r2 (hx.C! mS) hy<|fin h)<|Mw<|cr o⟩⟩
def TE.tC(a:TE l)(n:Ï)(pos:ń):TE (.Attribute l n pos):=⟨λenv=>(a.p env).bind λx=>.prim (.get n) [x] .ret,a.c&&JQ l&&Ê (n∈A6),λo g=>⟨λ{Z Z Z Z Z Z Z Z Z}H r h=>Attribute_any_ ((a.ok (cl<|cl o) g).go H r<|step h λ{Z Z Z Z Z}le r1 hx h=>Y7 (H.C! le) r1 (Ù<|cr o) hx<|fin h)<|by refine AA (arm_eval_Attribute ..) ?_;rw[RA<|cr<|cl o]⟩⟩
def TE.item(a:TE l)(b:TE r)(pos:ń):TE (.Subscript l r pos):=⟨λenv=>(a.p env).bind λx=>(b.p env).bind λy=>.prim .item [x,y] .ret,a.c&&b.c&&FZ r,λo g=>⟨λ{Z Z Z Z Z Z Z Z Z}H r h=>Subscript_<|(a.ok (cl<|cl o) g).go H r<|step h λ{Z Z Z Z Z}le r1 hx h=>(b.ok (cr<|cl o) g).go (H.C! le) r1<|step h λ{Z Z Z Z Z}mS r2 hy h=>by obtain⟨w,w1,w2,hT,hl⟩:=UY ((H.C! le).C! mS) r2 (hx.C! mS) hy<|fin h;exact W6 hT hl (cr o) w⟩⟩
def Yp.nil(pos:ń):Yp pos []:=⟨λZ=>.ret<|.D! [],Å,λZ Z=>⟨λ{Z Z Z Z Z Z Z Z Z}Z r h=>spliced_nil<|ret h r ⟨_,Ä,Ä,.nil⟩⟩⟩
def Yp.cons(a:TE e)(b:Yp pos' es):Yp pos' (e::es):=⟨λenv=>(a.p env).bind λx=>(b.p env).bind λy=>O2 y λl=>.ret<|.D!<|x::l,a.c&&b.c&&noStar e,λo g=>⟨λ{Z Z Z Z Z Z Z Z Z}H r h=>AA (Cs<|cr o)<|ψ (x:=eval e _)<|(a.ok (cl<|cl o) g).go H r<|step h λ{Z Z Z Z Z}le r1 hx h=>(b.ok (cr<|cl o) g).go (H.C! le) r1<|step h λ{Z Z Z Z Z}mS r2 hy h=>by obtain⟨l,e,hn,hl⟩:=hy;exact ret (e▸h) r2 ⟨_,Ä,Â ſ hn,.cons (hx.C! mS) hl⟩⟩⟩
def TA.nil(pos:ń):TA pos []:=⟨λZ=>.ret<|.D! [],Å,λZ Z Z=>⟨λ{Z Z Z Z Z Z Z Z Z}Z r h=>evalArgs_nil3<|ret h r ⟨_,_,Ä,Ä,.nil,Ä⟩⟩,λZ=>Ä⟩
def TA.of(a:Yp pos'<|e::es)(n:Ë)(hn:n=Å->(e::es).all noStar=Å):TA pos' (e::es):=⟨a.p,a.c&&n,λo g f=>⟨λ{Z Z Z Z Z Z Z Z Z}H r h=>by have hs:=hn<|cr o;have k:=(a.ok (cl o) g).go H r (Q:=λws t=>_) (step (p:=a.p _) (f:=.ret) (R:=AR<|es.length+1) (by rw[IL.run];refine AA (Pr.F_ ..) ?_;exact Fl h) λ{Z Z Z Z Z}le r1 hx h=>by obtain⟨l,rfl,hl,hv⟩:=hx;exact ret h r1 ⟨l,_,Ä,hl,hv,Ä⟩);rw[Cs (S7<|by simpa only[Κ]using hs).1]at k⊢;exact evalArgs_plain k⟩,λo=>hn<|cr o⟩
def TE.list(a:Yp pos' es):TE (.List es pos'):=⟨λenv=>(a.p env).bind λy=>O2 y λl=>.prim .d_ l .ret,a.c&&Ê (es.length<=25),λo g=>⟨λ{Z Z Z Z Z Z Z Z Z}H r h=>List_<|(a.ok (cl o) g).go H r<|step h λ{Z Z Z Z Z}le r1 hy h=>by obtain⟨l,e,hn,hl⟩:=hy;exact SN r1 hl (Ñ (hn▸Ù (cr o))<|by decide) λZ Z Z le r' hv=>(fin<|e▸h).q9 g.RX le r' hv⟩⟩
def TE.D!(a:Yp pos' es)(k:Ç):TE (.Tuple es k pos'):=⟨λenv=>(a.p env).bind λy=>O2 y λl=>.ret<|.D! l,a.c&&Ê (es.length<=25),λo g=>⟨λ{Z Z Z Z Z Z Z Z Z}H r h=>Tuple_<|(a.ok (cl o) g).go H r<|step h λ{Z Z Z Z Z}le r1 hy h=>by obtain⟨l,e,hn,hl⟩:=hy;exact PG r1 hl (Ñ (hn▸Ù (cr o))<|by decide) λZ Z Z le r' hv=>(e▸h:AZ g.RX _ _ (g.run (.ret<|.D! l) _) _ _ _).q9 g.RX le r' hv⟩⟩
noncomputable abbrev Yq(op:BoolOp)(es:Á ì)(pos:ń):=TX VR<|eval<|.BoolOp op es pos
def Yq.a_(a:TE e)(op:BoolOp)(pos:ń):Yq op [e] pos:=⟨a.p,a.c,λo g=>⟨λ{Z Z Z Z Z Z Z Z Z}H r h=>BoolOp_one<|(a.ok o g).go H r h⟩⟩
def Yq.and(a:TE e){pos:ń}(b:Yq .And (f::es) pos):Yq .And (e::f::es) pos:=⟨λenv=>(a.p env).bind λv=>.prim .sF [v] λc=>Ue c λc=>if c then b.p env else .ret v,a.c&&b.c,λo g=>⟨λ{Z Z Z Z Z Z Z Z Z}H r h=>BoolOp_and<|(a.ok (cl o) g).go H r<|step h λ{Z Z Z Z Z}le r1 hv h=>QK r1 hv<|Ep h λ{Z Z Z w Z}mS r2 e h=>by subst e;exact Me (λe=>(b.ok (cr o) g).go ((H.C! le).C! mS) r2<|(Bn h).1 e) λe=>ret ((Bn h).2 e) r2<|hv.C! mS⟩⟩
def Yq.or(a:TE e){pos:ń}(b:Yq .Or (f::es) pos):Yq .Or (e::f::es) pos:=⟨λenv=>(a.p env).bind λv=>.prim .sF [v] λc=>Ue c λc=>if c then .ret v else b.p env,a.c&&b.c,λo g=>⟨λ{Z Z Z Z Z Z Z Z Z}H r h=>BoolOp_or<|(a.ok (cl o) g).go H r<|step h λ{Z Z Z Z Z}le r1 hv h=>QK r1 hv<|Ep h λ{Z Z Z w Z}mS r2 e h=>by subst e;exact Me (λe=>ret ((Bn h).1 e) r2<|hv.C! mS) λe=>(b.ok (cr o) g).go ((H.C! le).C! mS) r2<|(Bn h).2 e⟩⟩
def IK.plain(a:TE e)(he:∀C?,isTrue e C? (eval e C?)=do let v<-eval e C?;standAt e.pos;holding [v]<|PySem.truthy v):IK e:=⟨λenv=>(a.p env).bind λv=>.prim .sF [v] .ret,a.c,λo g=>⟨λ{Z Z Z Z Z Z Z Z Z}H r h=>isTrue_plain ((a.ok o g).go H r<|step h λ{Z Z Z Z Z}le r1 hv h=>QK r1 hv<|fin h)<|he _⟩⟩
def IK.not(a:IK e)(pos:ń):IK (.UnaryOp .Not e pos):=⟨λenv=>(a.p env).bind λv=>Ue v λb=>.ret<|.bool<|!b,a.c,λo g=>⟨λ{Z Z Z Z Z Z Z Z Z}H r h=>wpAny_isTrue_Not<|(a.ok o g).go H r<|step h λ{Z Z Z Z Z}le r1 e h=>by subst e;exact ret h r1 Ä⟩⟩
def IK.ite(a:IK t)(x:IK b)(y:IK f)(pos:ń):IK (.IfExp t b f pos):=⟨λenv=>(a.p env).bind λv=>Ue v λc=>if c then x.p env else y.p env,a.c&&(x.c&&y.c),λo g=>⟨λ{Z Z Z Z Z Z Z Z Z}H r h=>AA (arm_isTrue_IfExp ..)<|É<|(a.ok (cl o) g).go H r<|step h λ{Z Z Z w Z}le r1 e h=>by subst e;exact cU (λe=>(x.ok (cl<|cr o) g).go (H.C! le) r1<|(Bn h).1 e) λe=>(y.ok (cr<|cr o) g).go (H.C! le) r1<|(Bn h).2 e⟩⟩
def IK.cmp(a:TE l)(b:TE r)(op:CmpOp)(pos:ń):IK (.Compare l [op] [r] pos):=⟨λenv=>(a.p env).bind λx=>(b.p env).bind λy=>.prim (.cmp op) [x,y] λv=>.prim .sF [v] .ret,a.c&&b.c&&Im r,λo g=>⟨λ{Z Z Z Z Z Z Z Z Z}H r h=>wpAny_isTrue_Compare1 ((a.ok (cl<|cl o) g).go H r<|step h λ{Z Z Z Z Z}le r1 hx h=>(b.ok (cr<|cl o) g).go (H.C! le) r1<|step h λ{Z Z Z Z Z}mS r2 hy h=>Y8 ((H.C! le).C! mS) r2 (hx.C! mS) hy<|Ep h λ{Z Z Z Z Z}pq r3 hv h=>QK r3 hv<|fin h)<|Mw<|cr o⟩⟩
def TO.vR:TO .And []:=⟨λZ=>.ret<|.bool Å,Å,λZ Z=>⟨λ{Z Z Z Z Z Z Z Z Z}Z r h=>wpAny_allTrue_And_nil<|ret h r Ä⟩⟩
def TO.vQ:TO .Or []:=⟨λZ=>.ret<|.bool Æ,Å,λZ Z=>⟨λ{Z Z Z Z Z Z Z Z Z}Z r h=>wpAny_allTrue_Or_nil<|ret h r Ä⟩⟩
def TO.and(a:IK e)(b:TO .And es):TO .And (e::es):=⟨λenv=>(a.p env).bind λc=>Ue c λc=>if c then b.p env else .ret<|.bool Æ,a.c&&b.c,λo g=>⟨λ{Z Z Z Z Z Z Z Z Z}H r h=>wpAny_allTrue_And_cons<|(a.ok (cl o) g).go H r<|step h λ{Z Z Z w Z}le r1 e h=>by subst e;exact Me (λe=>(b.ok (cr o) g).go (H.C! le) r1<|(Bn h).1 e) λe=>ret ((Bn h).2 e) r1 Ä⟩⟩
def TO.or(a:IK e)(b:TO .Or es):TO .Or (e::es):=⟨λenv=>(a.p env).bind λc=>Ue c λc=>if c then .ret (.bool Å)else b.p env,a.c&&b.c,λo g=>⟨λ{Z Z Z Z Z Z Z Z Z}H r h=>wpAny_allTrue_Or_cons<|(a.ok (cl o) g).go H r<|step h λ{Z Z Z w Z}le r1 e h=>by subst e;exact Me (λe=>ret ((Bn h).1 e) r1 Ä) λe=>(b.ok (cr o) g).go (H.C! le) r1<|(Bn h).2 e⟩⟩
def IK.bool{op:BoolOp}(a:TO op es)(pos:ń):IK (.BoolOp op es pos):=⟨a.p,a.c,λo g=>⟨λ{Z Z Z Z Z Z Z Z Z}H r h=>wpAny_isTrue_BoolOp<|(a.ok o g).go H r h⟩⟩
end
def lO(v:V)(f:Ad->Pr):Pr:=match v with|.ref a=>f a|_=>.C_
def bR(b:Ad)(l:Á V):Pr:=.prim .uw [.ref b] λZ=>.call (.mo b) l .ret
def qj(x:Ï)(k:Ã á)(env:BJ)(a:Pr):Pr:=match k with|À .local=>.prim (.ld env x) [] λf=>lO f λb=>a.bind λy=>O2 y λl=>bR b l|À .globalImplicit=>if Fd x then a.bind λy=>O2 y λl=>.prim (.blt x) l .ret else if Ka x then a.bind λy=>O2 y λl=>.call (.cls x) l .ret else if NB x then a.bind λy=>O2 y λl=>.call (.fn x) l .ret else .C_|_=>.C_
def qk(m:Ï)(ov kd:V)(l:Á V):Pr:=match kd with|.ref b=>bR b l|.none=>.call (.ml "Tasking" m) (ov::l) .ret|.bool b=>if b then .prim (.lm m) (ov::l) .ret else .prim (.dm m) (ov::l) .ret|_=>.C_
section
variable{g:IL}
theorem Ek(a:TA pos' es)(o:a.c=Å)(H:Ao cx g.A_ g.k W env C? A)(r:RR cx W s t)(P:ç->Prop)(hk:∀h,P h->∃k,(k=Ν\/k=ŷ\/k=š)/\Ε cx.M h (keeperOf f) k)(h:AZ g.RX cx W (g.run ((a.p env).bind k) s) VR Q E) (hq:∀{l ws s' W1 t1},W.Le W1->RR cx W1 s' t1->mR W1 l ws->AZ g.RX cx W1 (g.run (k<|.D! l) s') VR Q E->P t1.heap/\wpAny cx.M A (call f (first++ws) []) Q E t1):wpAny cx.M A (callWith pos f first (backTo pos'<|Ļ es C?) []) Q E t:=callWith_of (P:=P) (by exact AA (D6<|a.pl o).1 Ä) hk<|(a.ok o g f).go H r<|step h λ{Z Z Z Z Z}le r1 hx h=>by x_go;obtain⟨l,ws,rfl,_,hv,rfl⟩:=hx;exact zk<|hq le r1 hv h
theorem VI(h:AZ g.RX cx W ((X5 (.ref b) s).bind k) VR Q E):kq (λps bd sc cl=>s.h b=À (.mo ps bd sc cl)) λps bd sc cl=>AZ g.RX cx W (k (.ref b) s) VR Q E:=by
 revert h;show AZ g.RX cx W (AN.bind (match s.h b with|À (.mo ..)=>.ok (.ref b) s|_=>.C_) k) VR Q E->_;generalize e:s.h b=zc;rcases zc with _|c;.exact λh=>h.elim
 .induction c with|mo ps bd sc cl=>exact λh=>⟨ps,bd,sc,cl,Ä,h⟩|_=>exact λh=>h.elim
theorem WE(a:TA pos' es)(o:a.c=Å)(H:Ao cx g.A_ g.k W env C? A)(r:RR cx W s t)(d:W.mM b)(h:AZ g.RX cx W (g.run ((a.p env).bind λy=>O2 y λl=>bR b l) s) VR Q E):wpAny cx.M A (callWith pos (.ref<|W.ad b) [] (backTo pos'<|Ļ es C?) []) Q E t:=Ek a o H r (FnAt<|W.ad b) keeps_F h λle r1 hv h=>by x_go;obtain⟨_,_,_,_,hb,h⟩:=VI h;have e:=le.ad b d;refine zk<|⟨AP e<|r1.uO hb,?_⟩;refine AP e ?_;exact g.call (H.C! le) r1 (.mo b<|le.mM b d) hv<|fin h
theorem Xw{x:Ï}(h:AZ g.RX cx W ((loadName g.A_ env x s).bind k) VR Q E):BM (λv=>loadName g.A_ env x s=.ok v s) λv=>AZ g.RX cx W (k v s) VR Q E:=by
 unfold loadName at h⊢;generalize e:aQ g.A_ env x s=zc at h;rcases zc with _|v;.exact h.elim
 .exact ⟨v,Ä,h⟩
def TE.qj(a:TA pos' es)(x:Ï)(np:ń):TE (.Call (.Name x np) es [] pos'):=⟨λenv=>Internal.qj x (env.kind x) env<|a.p env,a.c&&Bz x,λo g=>⟨λ{cx W s t env C? A Q E}H r h=>by
  have oa:=cl o;have on:=cr o;refine wpAny_Call_NameR ?_;revert h;generalize hk:env.kind x=zc;rcases zc with _|k;.exact λh=>h.elim
  .induction k with
   |«local»=>intro h;obtain⟨f,e,h⟩:=Xw h;refine Vb (RX:=g.RX) H r on ?_;refine AA e ?_;intro W1 w t1 le r1 hw;induction f using Internal.V.casesOn with|ref b=>obtain⟨d,rfl⟩:=hw.me;exact WE a oa (H.C! le) r1 d<|h.le g.RX le|_=>exact h.elim
   |globalImplicit=>
    intro h;refine Ae (P:=λp=>AZ g.RX cx W (g.run p s) VR Q E) h (λhx h=>?_) λZ h=>?_;.obtain ⟨f,b1,b2,b3⟩:=S4 hx;refine Q6 H r b2 hk on ?_;refine Ek a oa H r (λZ=>Ŀ) (λZ Z=>b3.elim (λzx=>by obtain⟨T,e⟩:=zx;exact AA e Iu) λzx=>by obtain⟨T,e⟩:=zx;exact AA e Cw) h λle r1 hv h=>⟨Þ,Sd (H.C! le) r1 hx b1 hv<|fin h⟩
    refine Ae (P:=λp=>AZ g.RX cx W (g.run p s) VR Q E) h (λhx h=>?_) λZ h=>?_;.obtain ⟨c,c1,c2,c3⟩:=H.G.cls.g_ x hx;exact Gs H r c1 hk on<|Ek a oa H r cx.K.In (keeps_K c3) h λle r1 hv h=>⟨r1.uf<|H.C! le,g.call (H.C! le) r1 (.cls x c hx c1 c2) hv<|fin h⟩
    refine Ae (P:=λp=>AZ g.RX cx W (g.run p s) VR Q E) h (λhx h=>?_) λZ h=>?_;.obtain ⟨c,c1,c3⟩:=H.G.cls.c_ x hx;exact Gs H r c1 hk on<|Ek a oa H r cx.K.In (keeps_K c3) h λle r1 hv h=>⟨r1.uf<|H.C! le,g.call (H.C! le) r1 (.fn x c hx c1) hv<|fin h⟩
    .exact h.elim|_=>exact λh=>h.elim⟩⟩
inductive jv(P:V->Prop)(s:S)(m:Ï)(a:Ad):Prop|mo (c:Ï) (fs:Á<|Ï×V) (b:Ad) (ha:s.h a=À (.inst c fs)) (hb:FJ fs m=À (.ref b)) (h:P<|.ref b)|xk (fs:Á<|Ï×V) (ha:s.h a=À (.inst "Tasking" fs)) (hb:FJ fs "next_number"=È) (hm:m="next_number") (h:P .none)|d_ (l:Á V) (ha:s.h a=À (.list l)) (hm:Gn m=Å) (h:P<|.bool Å)|sC (l:Á<|V×V) (ha:s.h a=À (.dict l)) (hm:Go m=Å) (h:P<|.bool Æ)
theorem VB{m:Ï}(h:AZ g.RX cx W ((VC m v s).bind k) VR Q E):BM (λa=>v=.ref a) λa=>jv (λu=>AZ g.RX cx W (k u s) VR Q E) s m a:=by induction v using Internal.V.casesOn with
 |ref a=>
  refine⟨a,Ä,?_⟩;unfold VC at h;dsimp only at h;generalize e:s.h a=zc at h;rcases zc with _|c;.exact h.elim
  .induction c with
   |inst c fs=>
    dsimp only at h;generalize e2:FJ fs m=zc at h;rcases zc with _|u
    .refine Ae (P:=λx:AN V=>AZ g.RX cx W (x.bind k) VR Q E) h (λze h=>?_) λZ h=>?_;.obtain ⟨rfl,rfl⟩:=ze;exact .xk fs e e2 Ä h
     .exact h.elim
    .induction u using Internal.V.casesOn with|ref b=>exact .mo c fs b e e2 h|_=>exact h.elim
   |list l=>
    refine Ae (P:=λx:AN V=>AZ g.RX cx W (x.bind k) VR Q E) h (λhm h=>?_) λZ h=>?_;.exact .d_ l e hm h
    .exact h.elim|dict l=>
    refine Ae (P:=λx:AN V=>AZ g.RX cx W (x.bind k) VR Q E) h (λhm h=>?_) λZ h=>?_;.exact .sC l e hm h
    .exact h.elim|_=>exact h.elim
 |_=>exact h.elim
theorem Vg{n:Ï}{fs:Á<|Ï×V}:FJ fs n=À v->n∈fs.map (·.1):=by induction fs with|nil=>exact λh=>AY h|cons p r ih=>
  intro h;by_cases e:p.1=n;.exact AP e<|.head _
  .exact .tail _<|ih<|HP e h
def TE.qk{o:ì}(b:TE o)(a:TA pos' es)(m:Ï)(ap:ń):TE (.Call (.Attribute o m ap) es [] pos'):=⟨λenv=>(b.p env).bind λov=>.prim (.knd m) [ov] λkd=>(a.p env).bind λy=>O2 y λl=>Internal.qk m ov kd l,b.c&&a.c&&(JQ o&&ap.endLine==pos'.line)&&Ê (es.length<=25),λoo g=>⟨λ{cx W s t env C? A Q E}H r h=>by
  have oa:=cr<|cl<|cl oo;refine MethodCall_ ?_<|FC (cl<|cr<|cl oo) (cr<|cr<|cl oo) (a.pl oa)<|Ù<|cr oo;refine(b.ok (cl<|cl<|cl oo) g).go H r<|step h λ{ov s1 W1 w t1}le r1 hv h1=>?_;have H1:=H.C! le;x_go;obtain⟨ad,rfl,h1⟩:=VB h1;obtain⟨oY,rfl⟩:=hv.me;rcases h1 with⟨c,fs,bb,ha,hb,h1⟩|⟨fs,ha,hb,rfl,h1⟩|⟨l,ha,hm,h1⟩|⟨l,ha,hm,h1⟩;.obtain ⟨h₀,led,mm,x⟩:=id r1;obtain⟨Cc,zG,n,hc,m1,m2,hF,qy,px⟩:=x.R.cells _ _ ha;have K:=H1.G.cls.cls c Cc hc;have tx:=px m<|Vg hb;refine zk<|method_usual (r:=È) (r1.uf H1) (Ÿ x.N m1 m2) (plainGet_of K.g).1 (plainGet_of K.g).2 (K.t m tx).2 Ä ?_;refine KU H1.G r1 ha hb tx λw' tk hw=>?_;x_go;obtain⟨qz,rfl⟩:=hw.me;exact zk<|WE a oa H1 (r1.toks tk) qz h1
  .obtain ⟨h₀,led,mm,x⟩:=id r1;obtain⟨Cc,zG,n,hc,m1,m2,hF,qy,px⟩:=x.R.cells _ _ ha;have K:=H1.G.cls.cls _ Cc hc;obtain⟨C',f,g1,g2,g3,g4,_⟩:=H1.G.cls.pP;refine zk ?_;cases hc.symm.trans g1;refine method_inst x.F (H1.G.X.keeps x.G.stays) (Ÿ x.N m1 m2) K.g g2 g3 (Kh hF hb) ?_;exact Ek a oa H1 r1 cx.K.In (keeps_K g4) h1 λmS r2 rF h2=>⟨r2.uf<|H1.C! mS,g.call (H1.C! mS) r2 (.ml Cc f hc g2) (.cons ((VR.ref _ oY).C! mS) rF)<|fin h2⟩
  .obtain ⟨x8,sj,sl,ty⟩:=Uy hm;obtain⟨h₀,led,mm,x⟩:=id r1;obtain⟨vs,n,m1,_,_⟩:=x.R.cells _ _ ha;refine zk<|kl_method x.N m1 sl ty<|Ek a oa H1 r1 (λZ=>Ŀ) (λZ Z=>Cw) h1 λ{l2 xY s2 W2 t2}mS r2 rF h2=>⟨Þ,?_⟩;have h2:=fin (X:=eJ m (.ref ad::l2) s2) h2;unfold eJ at h2;dsimp only at h2;x_go;generalize e:s2.h ad=zc at h2;rcases zc with _|c;.exact h2.elim
   .induction c with|list ys=>exact zk<|AP (mS.ad _ oY)<|X' (H1.C! mS) r2 e sj rF h2|_=>exact h2.elim
  .obtain ⟨x8,sj,sl,ty⟩:=V7 hm;obtain⟨T1,xh,g1,g2,g3⟩:=r1.dictAt ha;refine zk<|getMethod_builtin T1 PySem.F.plainAttrs_dict sl ty (λb e=>by cases e;exact⟨xh,g1,g3⟩)<|Ek a oa H1 r1 (λZ=>Ŀ) (λZ Z=>Cw) h1 λ{l2 xY s2 W2 t2}mS r2 rF h2=>⟨Þ,?_⟩;have h2:=fin (X:=fp m (.ref ad::l2) s2) h2;unfold fp at h2;dsimp only at h2;x_go;generalize e:s2.h ad=zc at h2;rcases zc with _|c;.exact h2.elim
   .induction c with|dict ys=>exact zk<|AP (mS.ad _ oY)<|YA (H1.C! mS) r2 e sj rF h2|_=>exact zk<|h2.elim⟩⟩
end
structure TG(tg:ì)where
 p:BJ->V->Pr
 c:Ë
 ok:c=Å->∀(g:IL){cx:Cx}{W:Wd}{s:S}{t:Ó}{env:BJ}{C?:Ů}{A:ĕ}{v:V}{w:PV}{Q:Η->Ó->Prop}{E:PV->Ó->Prop},Ao cx g.A_ g.k W env C? A->RR cx W s t->VR W v w->AZ g.RX cx W (g.run (p env v) s) UR Q E->wpAny cx.M A (assign tg C? w) Q E t
structure bf(ts:Á ì)where
 p:BJ->Á V->Pr
 c:Ë
 ok:c=Å->∀(g:IL){cx:Cx}{W:Wd}{s:S}{t:Ó}{env:BJ}{C?:Ů}{A:ĕ}{vs:Á V}{ws:Á PV}{Q:Η->Ó->Prop}{E:PV->Ó->Prop},Ao cx g.A_ g.k W env C? A->RR cx W s t->mR W vs ws->AZ g.RX cx W (g.run (p env vs) s) UR Q E->wpAny cx.M A (assignInOrder ((assignEach ts C?).map (·.2)) ws) Q E t
 pl:c=Å->ts.all noStar=Å
section
def TG.C_(e:ì):TG e:=⟨λZ Z=>.C_,Å,λZ Z Z Z Z Z Z Z Z Z Z Z Z Z Z Z h=>h.elim⟩
def TG.name(x:Ï)(pos:ń):TG (.Name x pos):=⟨λenv v=>.prim (.st env x) [v] .ret,Å,λZ Z{Z Z Z Z Z Z Z Z Z Z Z}H r hv h=>χ<|Z4 H r hv<|fin h⟩
theorem dQ{g:IL}{cx:Cx}{W:Wd}{X:AN V}{Q Q1:Η->Ó->Prop}{E:PV->Ó->Prop}(h:AZ g.RX cx W X UR Q E)(k:∀t,Q () t->Q1 () t):AZ g.RX cx W X UR Q1 E:=by induction X with|ok v s=>exact λW1 w t1 le r hv=>k t1<|h W1 w t1 le r hv|exc v s=>exact h|C_=>exact h
def TG.tC(a:TE o)(n:Ï)(pos:ń):TG (.Attribute o n pos):=⟨λenv v=>(a.p env).bind λx=>.prim (.set n) [x,v] .ret,a.c&&JQ o&&Ê (n∈A6),λoo g{Z Z Z Z Z Z Z Z Z Z Z}H r hv h=>by exact AA (Τ ..)<|É<|í<|(a.ok (cl<|cl oo) g).go H r<|step h λ{Z Z Z Z Z}le r1 hx h1=>É<|ĩ<|É<|í<|Y6 (H.C! le) r1 (Ù<|cr oo) hx (hv.C! le)<|dQ (fin h1) λZ hq=>κ hq⟩
def TG.item(a:TE o)(b:TE i)(pos:ń):TG (.Subscript o i pos):=⟨λenv v=>(a.p env).bind λx=>(b.p env).bind λy=>.prim .oy [x,y,v] .ret,a.c&&b.c&&FZ i,λoo g{Z Z Z Z Z Z Z Z Z Z Z}H r hv h=>by exact AA (arm_assign_Subscript ..)<|É<|í<|(a.ok (cl<|cl oo) g).go H r<|step h λ{Z Z Z Z Z}le r1 hx h1=>É<|í<|(b.ok (cr<|cl oo) g).go (H.C! le) r1<|step h1 λ{Z Z Z Z Z}mS r2 hy h2=>É<|ĩ<|É<|í<|QL ((H.C! le).C! mS) r2 (hx.C! mS) hy ((hv.C! le).C! mS)<|dQ (fin h2) λZ hq=>κ hq⟩
def bf.nil:bf []:=⟨λZ vs=>match vs with|[]=>.ret .none|_=>.C_,Å,λZ g{Z Z Z Z Z Z Z vs Z Z Z}H r hv h=>by cases hv with|nil=>exact Ô<|ret h r Þ|cons _ _=>exact h.elim,λZ=>Ä⟩
def bf.cons(a:TG tg)(b:bf ts):bf (tg::ts):=⟨λenv vs=>match vs with|v::vs=>(a.p env v).bind λZ=>b.p env vs|_=>.C_,a.c&&b.c&&noStar tg,λoo g{Z Z Z Z Z C? Z vs Z Z Z}H r hv h=>by cases hv with|nil=>exact h.elim|@cons v w vs ws ha hb=>have e1:assignEach (tg::ts) C?=(Æ,assign tg C?)::assignEach ts C?:=HQ<|cr oo;refine AA e1 ?_;show wpAny _ _ (do holding ws<|assign tg C? w;assignInOrder ((assignEach ts C?).map (·.2)) ws) _ _ _;exact É<|í<|a.ok (cl<|cl oo) g H r ha (step (f:=λZ=>b.p _ vs) h λ{Z Z Z Z Z}le r1 Z h1=>b.ok (cr<|cl oo) g (H.C! le) r1 (hb.C! le) h1),λoo=>by exact AA Κ<|AA (cr oo)<|AA (b.pl<|cr<|cl oo) Ä⟩
def TG.D!(a:bf ts)(n:Ç)(pos:ń):TG (.Tuple ts n pos):=⟨λenv v=>O2 v λl=>if l.length=ts.length then a.p env l else .C_,a.c,λoo g{cx W s t env C? A v w Q E}H r hv h=>by x_go;induction v using Internal.V.casesOn with
 |D! l=>
  refine Ae (P:=λp=>AZ g.RX cx W (g.run p s) UR Q E) h (λhl h=>?_) λZ h=>?_;.cases hv with|@D! _ x ws ht hs=>obtain⟨h₀,led,m,z⟩:=id r;obtain⟨e1,e2⟩:=PU (C?:=C?)<|a.pl oo;exact zk<|unpackN_ z.F z.N (z.f_ ht) H.a.hh (by exact AA e1<|AA Ķ<|AA hs.length<|AA hl Ä) e2 λh' F' N'=>a.ok oo g H ⟨h₀,led,m,⟨F',N',z.G,z.R,z.A!,z.D?,z.rest⟩⟩ hs h
  .exact h.elim|_=>exact zk<|h.elim⟩
end
structure TI(it:ì)where
 p:BJ->Pr
 c:Ë
 ok:c=Å->∀(g:IL){cx:Cx}{W:Wd}{s:S}{t:Ó}{env:BJ}{C?:Ů}{A:ĕ}{α:Type}{R:MA α}{Q:α->Ó->Prop}{E:PV->Ó->Prop}{K:PV->Ó->Prop}{f:V->Pr},Ao cx g.A_ g.k W env C? A->RR cx W s t->AZ g.RX cx W (g.run ((p env).bind f) s) R Q E->(∀{v l s1 W1 ps I o t'},W.Le W1->RR ((cx.I? (BF v s1) ps).K? I o) W1 {s1 with lk:=BF v s1++s1.lk} t'->G' (cx.I? (BF v s1) ps) W1 v l 0 o->CD cx (cx.I? (BF v s1) ps) W1 I->AZ g.RX cx W1 (g.run (f<|.D! [v,.D! l]) s1) R Q E->K (.ref I) t')->wpAny cx.M A (eval it C?) (λx nE=>wpAny cx.M A (pyIter x) K E nE) E t
section
theorem Pr.bind_assoc(f g:V->Pr)(p:Pr):(p.bind f).bind g=p.bind λv=>(f v).bind g:=by induction p with|ret _=>rfl|exc _=>rfl|C_=>rfl|prim o as k ih=>exact Â (Pr.prim o as)<|ø ih|ask b k ih=>exact Â (Pr.ask b)<|ø ih|call t as k ih=>exact Â (Pr.call t as)<|ø ih|oX i p k _ ih=>exact Â (Pr.oX i p)<|ø ih
def TI.plain(a:TE it):TI it:=⟨λenv=>(a.p env).bind λv=>.prim .iter [v] λl=>.ret<|.D! [v,l],a.c,λoo g{cx W s t env C? A α R Q E K f}H r h k=>(a.ok oo g).go H r (step (R:=R) (Q:=Q) (f:=λv=>.prim .iter [v] λl=>f<|.D! [v,l]) (by rw[Pr.bind_assoc]at h;exact h) λ{v s1 W1 w t1}le r1 hv h1=>by
  have h1:AZ g.RX cx W1 ((C8 ((GC v s1).map .D!) s1).bind λl s'=>g.run (f<|.D! [v,l]) s') R Q E:=h1;generalize q2:GC v s1=zc at h1;rcases zc with _|l;.exact h1.elim
  .exact VH (H.C! le) r1 hv q2 λps I o t' r' i' st=>k le r' i' st h1)⟩
theorem UF{g:IL}{cx:Cx}{W:Wd}{s:S}{v:V}{α:Type}{R:MA α}{Q:α->Ó->Prop}{E:PV->Ó->Prop}{k:V->S->AN V}(h:AZ g.RX cx W ((Zu v s).bind k) R Q E):b8 (λn=>v=.int n) (λn=>0<=n) (λn=>n<=1000) λn=>AZ g.RX cx W (k (.D!<|(ê n.toNat).map λi=>.int<|Ý i) s) R Q E:=by induction v using Internal.V.casesOn with
 |int n=>
  refine Ae (P:=λx:AN V=>AZ g.RX cx W (x.bind k) R Q E) h (λhn h=>?_) λZ h=>?_;.exact ⟨n,Ä,hn.1,hn.2,h⟩
  .exact h.elim|_=>exact h.elim
def dH(env:BJ)(p:Pr):Pr:=match env.kind "range"with
 |À .globalImplicit=>p.bind λy=>O2 y λl=>match l with|[v]=>.prim .tQ [v] λl=>.ret<|.D! [l,l]|_=>.C_
 |_=>.C_
def TI.range(b:TA pos' [a])(x:Ï)(np:ń):TI (.Call (.Name x np) [a] [] pos'):=⟨λenv=>dH env<|b.p env,b.c&&Ê (x="range"),λoo g{cx W s t env C? A α R Q E K f}H r h k=>by
 have ex:=Ù<|cr oo;have ob:=cl oo;subst ex;unfold dH at h;x_go;generalize hk:env.kind "range"=zc at h⊢;rcases zc with _|kd;.exact h.elim
 .cases kd with|globalImplicit=>refine zk<|wpAny_Call_NameR (Q6 H r (x:="range") (v:=.type "range") (by decide) hk (by decide) ?_);refine callWith_of (P:=λZ=>Ŀ) (first:=[]) (by exact AA (D6<|b.pl ob).1 Ä) (λZ Z=>Iu)<|(b.ok ob g<|.type "range").go H r (step (R:=R) (Q:=Q) (f:=λy=>(O2 y λl=>match l with|[v]=>.prim .tQ [v] λl=>.ret<|.D! [l,l]|_=>.C_:Pr).bind f) (by rw[Pr.bind_assoc]at h;exact h) λ{v s1 W1 w t1}um r1 hx h1=>⟨Þ,?_⟩);x_go;obtain⟨l,ws,rfl,hl,vf,rfl⟩:=hx;match l,hl with|[v],_=>have h1:AZ g.RX cx W1 ((Zu v s1).bind λl s'=>g.run (f<|.D! [l,l]) s') R Q E:=h1;obtain⟨n,rfl,u6,u5,zB⟩:=UF h1;cases vf with|@cons _ w _ ws a b=>
     cases b;obtain⟨tn,rfl⟩:=BY a;refine zk ?_;show wpAny _ _ (call (.type "range") [.int n tn]) _ _ _;refine call_range_1<|wpAny_pyIter_range (IsRange.new ..) (small_one (by decide) (by decide) (by omega)<|by omega) ?_;have hsz:Ψ 0 n 1=(n.toNat:Í):=by refine AA (rangeSize_one ..) ?_;split<;>omega
     x_go;obtain⟨h₀,led,m,x⟩:=r1;have x1:=x.push (k:=t1.toks+1+1) {cls:=.type "range",data:=.fields #[.int 0 t1.toks,.int n tn,.int 1<|t1.toks+1]};obtain⟨rO,h2⟩:=x1.nJ {cls:=.type "range_iterator",data:=.fields #[Ē 0,Ē<|Ψ 0 n 1,Ē 1]} Ä;refine zk<|k (s1:=s1) (v:=.D!<|(ê n.toNat).map λi=>.int<|Ý i) (ps:=[]) um rO (.range λh' I hg=>?_) h2 zB;show h'.get? I=_;refine AA hg<|AA hsz ?_;simp|_=>exact zk<|h.elim⟩
end
def PR(n:Á Ï):MA (Á<|PV×PV):=λW v ps=>b8 (λl=>v=.D! l) (λl=>OI W ((n.map V.str).zip l)<|strPairs ps) (λl=>allStrKeys ps=Å) (λl=>(strPairs ps).map (·.1)=n)
noncomputable abbrev TK(n:Á Ï)(pos:ń)(ks:Á<|Ã ì)(vs:Á ì):=TX (PR n) λC?=>evalPairs<|pairTrees ks vs C? pos
section
variable{n:Á Ï}{ks:Á<|Ã ì}
def TK.nil(pos:ń):TK [] pos [] []:=⟨λZ=>.ret<|.D! [],Å,λZ Z=>⟨λ{Z Z Z Z Z Z Z Z Z}Z r h=>Ô<|ret h r ⟨[],Ä,.nil,Ä,Ä⟩⟩⟩
def TK.cons(x:Ï)(u:Ç)(p:ń)(a:TE v)(b:TK n pos ks vs):TK (x::n) pos (À (.Constant (.str x) u p)::ks) (v::vs):=⟨λenv=>(a.p env).bind λw=>(b.p env).bind λy=>O2 y λl=>.ret<|.D!<|w::l,a.c&&b.c&&(ĸ x).canLay0,λo g=>⟨λ{cx W s t env C? A Q E}H r h=>by
  show wpAny cx.M A (do
   let kv<-eval (.Constant (.str x) u p) C? let vv<-holding [kv]<|do let x<-eval v C?;standAt pos;pure x
   return(kv,vv)::(<-holding [kv,vv]<|evalPairs<|pairTrees ks vs C? pos)) Q E t;exact É<|ο<|É<|í<|É<|(a.ok (cl<|cl o) g).go H (r.toks _)<|step h λ{Z Z Z Z Z}le r1 hv h1=>É<|ĩ<|Ô<|É<|í<|(b.ok (cr<|cl o) g).go (H.C! le) r1<|step h1 λ{Z s2 W2 ps t2}mS r2 hl h2=>by x_go;obtain⟨l,rfl,g1,g2,g3⟩:=hl;exact zk<|Ô<|ret h2 r2 ⟨_::l,Ä,.cons (hv.C! mS) g1,g2,by show x::_=x::_;exact AA g3 Ä⟩⟩⟩
def TE.uM(pos:ń):TE (.Dict [] [] pos):=⟨λZ=>.prim (.sC []) [] .ret,Å,λZ g=>⟨λ{cx W s t env C? A Q E}H r h=>by x_go;obtain⟨h₀,led,m,x⟩:=r;obtain⟨⟨g',l1,m1,y⟩,st⟩:=x.nJ {cls:=.type "dict",data:=.dict #[]} Ä;obtain⟨W2,mS,d2,a2,r6⟩:=y.W! (c:=.dict []) st.fresh st.D? st.cmp λW2 mS e1 e2=>⟨_,by exact AA e1<|(y.D? _<|.head _).1,.inl ⟨[],⟨#[],0,⟨Ä,Ä,Ä⟩,Ä,λe he=>â he<|by simp,.nil,Ŏ⟩,.nil⟩,è _⟩;exact zk<|wpAny_Dict_empty<|(fin h).q9 g.RX mS (r6.toks _)<|VR.qI d2 a2⟩⟩
theorem Wn{n:Á Ï}{ps:Á<|Ï×PV}(h:OI W ((n.map V.str).zip l) ps)(e:ps.map (·.1)=n):((n.map V.str).zip l).length=n.length:=by exact AP h.length<|AP e<|AA (Ð ..) Ä
def TE.dict(a:TK n pos ks vs)(h0:ks≠[]):TE (.Dict ks vs pos):=⟨λenv=>.oX .sO (a.p env) λy=>O2 y λl=>.prim (.sC n) l .ret,a.c&&(ks.all (·.isSome)&&Ê (ks.length=vs.length))&&(Ê (ks.length<=15)&&Ê n.Nodup)&&Ê (n.length<=15),λo g=>⟨λ{cx W s t env C? A Q E}H r h=>by x_go;obtain⟨h₀,led,m,x⟩:=r;obtain⟨r1,st⟩:=x.nJ {cls:=.type "dict",data:=.dict #[]} Ä;refine zk<|wpAny_Dict_walk (knd:=strKind cx.B.prog cx.B.w) (cl<|cr<|cl<|cl o) (Ù<|cr<|cr<|cl<|cl o) h0 (Ù<|cl<|cr<|cl o) ?_;refine(a.ok (cl<|cl<|cl o) g).go (cx:=cx.K? t.heap.objs.size {cls:=.type "dict",data:=.dict #[]}) (H.K? _ _) r1 ?_;have h:AZ g.RX cx W (C9 (GP.sO.J? s<|g.run (a.p env) s) λy s'=>g.run (O2 y λl=>.prim (.sC n) l .ret) s') VR Q E:=h;generalize q:g.run (a.p env) s=zc at h;induction zc with|exc _ _=>exact h.elim|C_=>exact h.elim|ok l s1=>intro W1 ps t1 le r2 pS;x_go;obtain⟨g',l1,m1,y⟩:=r2;obtain⟨l,rfl,g1,g2,g3⟩:=pS;have yz:ġ.IsDictOf (strKind cx.B.prog cx.B.w) {cls:=.type "dict",data:=.dict #[]} []:=⟨#[],0,⟨Ä,Ä,Ä⟩,Ä,λe he=>â he<|by simp,.nil,Ŏ⟩;have hm:=(y.D? _<|.head _).1;have JY:=st.C! le;refine zk<|display_done_str g2 (by exact AA g3<|Ù<|cr<|cr<|cl o) (ç.dictOf_iff.mpr ⟨_,(y.N _ hm).1,yz⟩) λh' yR hs=>?_;x_go;obtain⟨o',nY,nP⟩:=ç.dictOf_iff.mp yR;obtain⟨zg,l3,m3,y3⟩:=y.nU (k:=t1.toks+ps.length) JY.nQ JY.nz hs nY;obtain⟨W2,mS,d2,a2,r6⟩:=y3.W! (c:=.dict<|(n.map V.str).zip l) JY.fresh JY.D? JY.cmp λW2 mS e1 e2=>⟨o',by exact AA e1<|(y3.D? _<|.head _).1,.inl ⟨_,nP,g1.C! mS⟩,by exact AA (Wn g1 g3)<|Ñ (Ù<|cr o)<|by decide⟩;exact zk<|(fin (X:=S.alloc s1<|.dict<|(n.map V.str).zip l) h).q9 g.RX (le.trans mS) r6<|VR.qI d2 a2⟩⟩
end
def OR:MA (Ã PV):=λW v x=>match x with|È=>v=.none|À w=>BM (λu=>v=.D! [u]) λu=>VR W u w
structure TC(tg e:ì)(fs:Á ì)where
 p:BJ->V->Pr
 c:Ë
 ok:c=Å->∀(g:IL){cx:Cx}{W:Wd}{s:S}{t:Ó}{env:BJ}{C?:Ů}{A:ĕ}{y:V}{w:PV}{Qb:Ã PV->Ó->Prop}{Eb:PV->Ó->Prop},Ao cx g.A_ g.k W env C? A->RR cx W s t->VR W y w->AZ g.RX cx W (g.run (p env y) s) OR Qb Eb->wpAny cx.M A (assign tg C? w) (λZ nV=>wpAny cx.M A (H7 fs C?) (λok nB=>if ok=Å then wpAny cx.M A (eval e C?) (λx nh=>Qb (À x) nh) Eb nB else Qb È nB) Eb nV) Eb t
section
def TC.all(a:TG tg)(b:TE e):TC tg e []:=⟨λenv y=>(a.p env y).bind λZ=>(b.p env).bind λv=>.ret<|.D! [v],a.c&&b.c,λo g{cx W s t env C? A y w Qb Eb}H r hv h=>a.ok (cl o) g H r hv<|step h λ{Z Z Z Z Z}le r1 Z h1=>Ô<|(Î Ä).mpr<|(b.ok (cr o) g).go (H.C! le) r1<|step h1 λ{Z Z Z Z Z}mS r2 hx h2=>ret h2 r2 ⟨_,Ä,hx⟩⟩
def TC.some(a:TG tg)(c:IK f)(b:TE e):TC tg e [f]:=⟨λenv y=>(a.p env y).bind λZ=>(c.p env).bind λq=>Ue q λq=>if q then(b.p env).bind λv=>.ret (.D! [v])else .ret .none,a.c&&(c.c&&b.c),λo g{cx W s t env C? A y w Qb Eb}H r hv h=>a.ok (cl o) g H r hv<|step h λ{Z Z Z Z Z}le r1 Z h1=>wpAny_tests_one<|(c.ok (cl<|cr o) g).go (H.C! le) r1<|step h1 λ{Z Z Z w Z}mS r2 e h2=>by subst e;exact Me (λe=>(b.ok (cr<|cr o) g).go ((H.C! le).C! mS) r2<|step ((Bn h2).1 e) λpq r3 hx h3=>ret h3 r3 ⟨_,Ä,hx⟩) λe=>ret ((Bn h2).2 e) r2 Ä⟩
def JL(x:V)(f:Ã V->Pr):Pr:=match x with|.D! [w]=>f<|.some w|.none=>f È|_=>.C_
def B'(elt:V->Pr)(H!:V)(all:Á V):Á V->Á V->Pr|[],acc=>.prim .same [H!,.D! all] λZ=>.ret<|.D! acc|v::r,acc=>.prim .same [H!,.D! all] λZ=>(elt v).bind λx=>JL x λo=>match o with|À w=>B' elt H! all r<|acc++[w]|È=>B' elt H! all r acc
def Tm(x:AN V):AN (Ã V):=match x with|.ok (.D! [w]) s=>.ok (À w) s|.ok .none s=>.ok È s|.ok _ _=>.C_|.exc e s=>.exc e s|.C_=>.C_
theorem RS{g:IL}{cx:Cx}{W:Wd}{X:AN V}{Q:Ã PV->Ó->Prop}{E:PV->Ó->Prop}(h:AZ g.RX cx W (Tm X) bn Q E):AZ g.RX cx W X OR Q E:=by induction X with
 |ok v s=>
  intro W' x t' le r hx;rcases x with _|w;.cases hx;exact h W' È t' le r Þ
  .obtain ⟨u,rfl,hu⟩:=hx;exact h W' (À w) t' le r hu|exc e s=>exact h|C_=>exact h
theorem H9(h:(QF G .same [v,.D! l] s).bind k=.ok x s'):BH v s=À l/\k .none s=.ok x s':=by classical
 by_cases e:BH v s=À l;.exact ⟨e,(Â (AN.bind · k) (Î e:E1 v (.D! l) s=.ok .none s)).symm.trans h⟩
 .exact nomatch (Â (AN.bind · k) (Ì e:E1 v (.D! l) s=.C_)).symm.trans h
theorem Sr{g:IL}{elt:V->Pr}{H!:V}{all:Á V}{x:V}{sr:S}{l:Á V}:∀{acc:Á V}{s:S},g.run (B' elt H! all l acc) s=.ok x sr->BM (λrs=>x=.D! rs) λrs=>EN (λv s=>Tm<|g.run (elt v) s) H! all l acc s=.ok rs sr:=by induction l with|nil=>intro acc s h;obtain⟨h1,h2⟩:=H9 h;obtain⟨rfl,rfl⟩:=AN.oE h2;exact⟨_,Ä,Î h1⟩|cons v r ih=>
  intro acc s h;obtain⟨h1,h2⟩:=H9 h;have h2:g.run ((elt v).bind λx=>JL x λo=>match o with|À w=>B' elt H! all r<|acc++[w]|È=>B' elt H! all r acc) s=.ok x sr:=h2;have h3:((g.run (elt v) s).bind λy s'=>g.run (JL y λo=>match o with|À w=>B' elt H! all r<|acc++[w]|È=>B' elt H! all r acc) s')=.ok x sr:=(Pr.F_ _ _).symm.trans h2;refine AA (JM h1) ?_;revert h3;rcases g.run (elt v) s with⟨y,s'⟩|_|_
  .rcases y with _|_|_|_|(_|⟨w,_|_⟩)|_|_;.exact λh=>ih h
   .exact λh=>AN.mQ h
   .exact λh=>AN.mQ h
   .exact λh=>AN.mQ h
   .exact λh=>AN.mQ h
   .exact λh=>ih h
   .exact λh=>AN.mQ h
   .exact λh=>AN.mQ h
   .exact λh=>AN.mQ h
  .exact λh=>AN.qf h
  .exact λh=>AN.mQ h
def UX(y:V):Ã (V×Á V):=match y with|.D! [v,.D! l]=>.some (v,l)|_=>È
def O1(y:V)(f:V->Á V->Pr):Pr:=match UX y with|.some (v,l)=>f v l|È=>.C_
def JN(te:V->Pr)(k:V->Pr)(y:V):Pr:=O1 y λv l=>.prim .ui [v] λZ=>.oX .comp (B' te v l l []) λr=>.prim .G_ [r] k
def JK(ti:BJ->Pr)(te:BJ->V->Pr)(sc:Ō)(k:V->Pr)(env:BJ):Pr:=match Ch env sc.names with|À cl=>(ti env).bind<|JN (te ⟨sc,cl⟩) k|È=>.C_
theorem Pa{g:IL}{cx:Cx}{W:Wd}{te:V->Pr}{k:V->Pr}{v:V}{l:Á V}{s:S}{α:Type}{R:MA α}{Q:α->Ó->Prop}{E:PV->Ó->Prop}(h:AZ g.RX cx W (g.run (JN te k<|.D! [v,.D! l]) s) R Q E):BF v s=[]/\H5 (λrs sr=>EN (λv s=>Tm<|g.run (te v) s) v l l [] {s with A!:=λZ=>È}=.ok rs sr) (λrs sr=>rs.length<G_) λrs sr=>AZ g.RX cx W (g.run (k<|.ref<|.list sr.nx) {sr with A!:=s.A!,h:=Dj sr.h (.list sr.nx)<|.list rs,nx:=sr.nx+1}) R Q E:=by
 x_go;refine Ae (P:=λy:AN V=>AZ g.RX cx W (y.bind _) R Q E) h (λhc h=>?_) λZ h=>?_;.refine zk<|⟨hc,?_⟩;have h:AZ g.RX cx W (C9 (GP.comp.J? s<|g.run (B' te v l l []) {s with A!:=λZ=>È}) λr s'=>g.run (.prim .G_ [r] k) s') R Q E:=h;x_go;generalize q:g.run (B' te v l l []) {s with A!:=λZ=>È}=zc at h;induction zc with|exc _ _=>exact h.elim|C_=>exact h.elim|ok x sr=>
   obtain⟨rs,rfl,e⟩:=Sr q;have h:AZ g.RX cx W ((eK (.D! rs) {sr with A!:=s.A!}).bind λv s'=>g.run (k v) s') R Q E:=h;refine Ae (P:=λy:AN V=>AZ g.RX cx W (y.bind λv s'=>g.run (k v) s') R Q E) h (λhl h=>?_) λZ h=>?_;.exact zk<|⟨rs,sr,e,hl,h⟩
   .exact h.elim
 .exact h.elim
theorem Qv(i:TI it)(ci:i.c=Å)(e':TC tg e fs)(ce:e'.c=Å){g:IL}{cx:Cx}{W:Wd}{s:S}{t:Ó}{env:BJ}{C?:Ů}{A:ĕ}{E:PV->Ó->Prop}{sc:Ō}{pos p:ń}{use:Ã<|PV->Sem Η}{Q:PV->Ó->Prop}{α:Type}{R:MA α}{Q0:α->Ó->Prop}{k:V->Pr}(H:Ao cx g.A_ g.k W env C? A) (r:RR cx W s t) (ns:Im it=Å) (oc:GA sc=Å) (h:AZ g.RX cx W (g.run (JK i.p e'.p sc k env) s) R Q0 E)(fin:∀{D Cn:Û}{oC mC W' t' sn a},bq oC mC->W.Le W'->RR (cx.K? Cn oC) W' sn t'->VR W' (.ref a) (.ref D)->cx.cmp≠À Cn->Cn∉cx.free->(∀q∈cx.D?,q.1≠Cn)->(∀q∈cx.D?,C5 cx W' q)->(∀C0,cx.cmp=À C0->C0∈cx.free)->AZ g.RX cx W' (g.run (k<|.ref a) sn) R Q0 E->compPost cx.M A E use Q (.ref D) Cn (.ok .next) t'):wpAny cx.M A (comprehension (.ListComp e [⟨tg,it,fs,0⟩] sc pos) sc C? p (newList []) Æ (eval it C?) use) Q E t:=by
 have qu:=oc;unfold GA at qu;have q3:=Ù<|cr qu;have q2:=à<|cr<|cl qu;have hs:∀x,foldedSetIterable it C? x=pure x:=λx=>MR ns;unfold JK at h;generalize hc:Ch env sc.names=zc at h;rcases zc with _|cl;.exact h.elim
 .refine wpAny_comprehension_free (g:=⟨tg,it,fs,0⟩) (gs:=[]) Ä hs (GJ H.e.cells hc).1 q2 (λnk hx hl=>by obtain⟨n,kd⟩:=nk;cases hl;exact Xs q3 hx) ?_;refine i.ok ci g H r h λ{v l s1 W1 ps I o t1}le r1 rk JY h1=>?_;x_go;obtain⟨n4,rs,sr,qT,hlen,h1⟩:=Pa h1;rw[n4]at r1 rk JY;have H1:=(H.C! le).I? [] ps;refine zk<|MU (RX:=g.RX) (O!:=cx.I? [] ps) (Rr:=λacc Cn r s'=>compPost cx.M A E use Q acc Cn r s') H1 oc hc (λ{X W2 s2 t2 xe y w Qb Eb}HX rX hv hp=>e'.ok ce g HX rX hv<|RS hp) r1 rk JY (λa=>?_) qT hlen λD Cn oC mC W' t' n1 qx r' hv so uI rv=>?_
  .by_cases q2:v=.ref a;.refine .inl λha=>?_;x_go;obtain⟨g',l4,m4,y4⟩:=r1;obtain⟨dd,hd⟩:=y4.rest.2.2.2 a ha;subst q2;have nP:s1.h a=À (.dict dd):=hd;exact by cases show[a]=[]from(Â (KP a) nP).symm.trans n4
   .exact .inr q2
  .have hp:∀q∈cx.D?,C5 cx W' q:=λq hq=>(JY.out q hq).C! qx;refine fin n1 (le.trans qx) (RR.T_ (cx:=(cx.I? [] ps).K? Cn oC) (f:=Cn::cx.free) (ps:=(Cn,oC)::cx.D?) (λy hy=>hy) (λq hq=>?_) (λC0 hC=>.tail _<|JY.cmp C0 hC) r') hv so uI (λq hq=>rv q<|Ö _ hq) hp JY.cmp<|h1.le g.RX qx;rcases Bt hq with e|e;.subst e;exact⟨.head _,.inl<|.head _⟩
   .exact ⟨.tail _<|Ö _ e,(hp q e).1.imp (.tail _) id⟩
theorem UU{cx:Cx}{W:Wd}{s:S}{t:Ó}{Cn:Û}{oC:ġ}{mC:Ï->Ã PV}(r:RR (cx.K? Cn oC) W s t)(n1:bq oC mC):t.heap.Ns Cn mC:=by obtain⟨_,_,_,y⟩:=r;obtain⟨es,ep,g1,g2,g3⟩:=n1;exact⟨oC,es,ep,(y.N _ (y.D? (Cn,oC)<|.head _).1).1,g1,g2,g3⟩
def TE.comp(i:TI it)(c:TC tg e fs)(sc:Ō)(pos:ń):TE (.ListComp e [⟨tg,it,fs,0⟩] sc pos):=⟨JK i.p c.p sc .ret,i.c&&c.c&&(Im it&&GA sc),λo g=>⟨λ{cx W s t env C? A Q E}H r h=>by exact AA (eval_ListComp ..)<|Qv i (cl<|cl o) c (cr<|cl o) H r (cl<|cr o) (cr<|cr o) h λ{D Cn oC mC W' t' sn a}n1 le r' hv so uI rv hp hf h'=>⟨mC,UU r' n1,λwK hs=>by x_go;obtain⟨g',l4,m4,y4⟩:=r';exact zk<|ret h' (y4.pV (k:=t'.toks) rv so uI hp hf hs.extBut) hv⟩⟩⟩
end
theorem T8{g:IL}{cx:Cx}{W:Wd}{s:S}{v i:V}{Q:PV->Ó->Prop}{E:PV->Ó->Prop}(h:AZ g.RX cx W (c8 v i s) VR Q E):We (λl k=>v=.fl l) (λl k=>i=.int k) (λl k=>0<=k) λl k=>AZ g.RX cx W (s.alloc<|.list<|l.drop k.toNat) VR Q E:=by induction v using Internal.V.casesOn with
 |fl l=>induction i using Internal.V.casesOn with
  |int k=>
   refine Ae (P:=λx:AN V=>AZ g.RX cx W x VR Q E) h (λhk h=>?_) λZ h=>?_;.exact ⟨l,k,Ä,Ä,hk,h⟩
   .exact h.elim|_=>exact h.elim
 |_=>exact h.elim
theorem Ry{l:Á PV}{kk:Í}(hk:0<=kk):slicePick l.toArray (À kk) È È=(l.drop kk.toNat).toArray:=by
 have e:sliceBounds (À kk) È È l.toArray.size=(((min kk.toNat l.toArray.size:Ç):Í),((l.toArray.size:Ç):Í),1):=by simp only[sliceBounds,Ã.getD_none,show(1:Í)>0 by decide,if_true,Ì<|show¬kk<0 by lia];congr 1;lia
 refine AA (kmk_pick_nat _ e) ?_;simp only[Ķ,kmk_drop_min];exact AA (Á.take_of_length_le<|by refine AA Á.length_drop ?_;lia) Ä
def TE.slice{x:Ï}{xp:ń}{lo:ì}(a:TE<|.Name x xp)(b:TE lo)(p pos:ń):TE (.Subscript (.Name x xp) (.Slice (À lo) È È p) pos):=⟨λenv=>(a.p env).bind λv=>(b.p env).bind λk=>.prim .rg [v,k] .ret,a.c&&b.c,λo g=>⟨λ{cx W s t env C? A Q E}H r h=>by refine Subscript_<|(a.ok (cl o) g).go H r<|step h λ{v s1 W1 w t1}um r1 vf h1=>wpAny_Slice<|(b.ok (cr o) g).go (H.C! um) r1<|step h1 λ{iv s2 W2 iw t2}mS r2 rF h2=>Ô<|Ô ?_;x_go;obtain⟨l,kk,rfl,rfl,hk,zA⟩:=T8<|fin h2;have H2:=(H.C! um).C! mS;have hv:=vf.C! mS;cases hv with|fl hs=>obtain⟨_,rfl⟩:=BY rF;obtain⟨h₀,led,m,z⟩:=r2;have hl:=z.rh H2.n3.1;have e0:=hs.length;have b:=H2.n3.2;refine zk<|slice_list (lo:=À kk) (hi:=È) z.F z.N hl (.int _ _) .none (λh' F N=>?_) (hsz:=by exact AA Ķ<|Yy b);have e2:=Ry (l:=W2.m7) hk;replace N:=e2▸N;have hd:mR W2 (l.drop kk.toNat) (W2.m7.drop kk.toNat):=hs.drop _;x_go;obtain⟨W',le,d1,d2,r'⟩:=z.qM (c:=.list<|l.drop kk.toNat) (k:=_) F N (λp hp=>Ĺ<|ï (z.N p hp).1) λW' le e=>⟨W2.m7.drop kk.toNat,0,by exact AA e<|.head _,hd.C! le,by exact AA Á.length_drop<|Ñ (Ç.sub_le _ _)<|AP e0 b⟩;exact zk<|zA.q9 g.RX le r'<|VR.qI d1 d2⟩⟩
structure jm(g:IL)(m:Ů->Sem PySem.Flow)(p:BJ->Pr):Prop where go:∀{cx:Cx}{W:Wd}{s:S}{t:Ó}{env:BJ}{C?:Ů}{A:ĕ}{Q:PySem.Flow->Ó->Prop}{E:PV->Ó->Prop},cx.cmp=È->Ao cx g.A_ g.k W env C? A->RR cx W s t->AZ g.RX cx W (g.run (p env) s) FR Q E->wpAny cx.M A (m C?) Q E t
structure gt(m:Ů->Sem PySem.Flow)where
 p:BJ->Pr
 c:Ë
 ok:c=Å->∀g,jm g m p
noncomputable abbrev TS(st:Đ):=gt<|exec st
noncomputable abbrev TB(b:Á Đ):=gt<|execs b
def gt.C_(m:Ů->Sem PySem.Flow):gt m:=⟨λZ=>.C_,Å,λZ Z=>⟨λ{Z Z Z Z Z Z Z Z Z}Z Z Z h=>h.elim⟩⟩
theorem Tt{n:Ç}(h:(LJ e||O5 tg)=Å):swapsWith e (À tg) n C?=pure Æ:=(Ë.or_eq_true_iff.mp h).elim He Oa
theorem V1(h:noStar tg=Å):(assignEach [tg] C?).map (·.2)=[assign tg C?]:=AA (HQ (q:=[]) (C?:=C?) h) Ä
theorem U0{g:IL}{cx:Cx}{W:Wd}{s:S}{env:BJ}{α:Type}{R:MA α}{Q:α->Ó->Prop}{E:PV->Ó->Prop}{x:Ï}{k:V->S->AN V}(h:AZ g.RX cx W ((loadName g.A_ env x s).bind k) R Q E):BM (λv=>aQ g.A_ env x s=À v) λv=>AZ g.RX cx W (k v s) R Q E:=by
 unfold loadName at h;generalize e:aQ g.A_ env x s=zc at h;rcases zc with _|v;.exact h.elim
 .exact ⟨v,Ä,h⟩
def gA(e:Pr)(t:V->Pr):Pr:=e.bind λv=>(t v).bind λZ=>.ret .none
section
variable{st:Đ}
def TS.expr(a:TE e)(pos:ń):TS (.Expr e pos):=⟨λenv=>(a.p env).bind λZ=>.ret .none,a.c&&LJ e,λoo g=>⟨λ{Z Z Z Z Z Z Z Z Z}Z H r h=>wpAny_Expr_any ((a.ok (cl oo) g).go H r<|step h λ{Z Z Z Z Z}Z r1 Z h1=>ret h1 r1 Ä) H.int<|He<|cr oo⟩⟩
def TS.W?(pos:ń):TS (.Pass pos):=⟨λZ=>.ret .none,Å,λZ g=>⟨λ{Z Z Z Z Z Z Z Z Z}Z H r h=>wpAny_Pass<|ret h r Ä⟩⟩
def TS.brk(pos:ń):TS (.Break pos):=⟨λZ=>.ret<|.bool Æ,Å,λZ g=>⟨λ{Z Z Z Z Z Z Z Z Z}Z H r h=>wpAny_Break<|ret h r Ä⟩⟩
def TS.cont(pos:ń):TS (.Continue pos):=⟨λZ=>.ret<|.bool Å,Å,λZ g=>⟨λ{Z Z Z Z Z Z Z Z Z}Z H r h=>wpAny_Continue<|ret h r Ä⟩⟩
def TS.vL(pos:ń):TS (.Return È pos):=⟨λZ=>.ret<|.D! [.none],Å,λZ g=>⟨λ{Z Z Z Z Z Z Z Z Z}Z H r h=>wpAny_Return_none<|ret h r ⟨_,Ä,VR.none⟩⟩⟩
def TS.vK(a:TE e)(pos:ń):TS (.Return (À e) pos):=⟨λenv=>(a.p env).bind λv=>.ret<|.D! [v],a.c,λoo g=>⟨λ{Z Z Z Z Z Z Z Z Z}Z H r h=>wpAny_Return_some<|(a.ok oo g).go H r<|step h λ{Z Z Z Z Z}Z r1 hv h1=>ret h1 r1 ⟨_,Ä,hv⟩⟩⟩
def TS.a!(a:TG tg)(b:TE e)(pos:ń):TS (.Assign [tg] e pos):=⟨λenv=>gA (b.p env)<|a.p env,a.c&&b.c&&(noStar tg&&! L6 tg e)&&(LJ e||O5 tg),λoo g=>⟨λ{Z Z Z Z Z Z Z Z Z}Z H r h=>Ŋ ((b.ok (cr<|cl<|cl oo) g).go H r<|step h λ{Z Z Z Z Z}le r1 hv h1=>AA (V1<|cl<|cr<|cl oo)<|a.ok (cl<|cl<|cl oo) g (H.C! le) r1 hv<|step h1 λ{Z Z Z Z Z}Z r2 Z h2=>ret h2 r2 Ä) (Tt<|cr oo)<|GX<|Ĕ _|>.mp (cr<|cr<|cl oo)⟩⟩
def TS.wX(b:TE e)(x:Ï)(xp:ń)(op:Į)(pos:ń):TS (.AugAssign (.Name x xp) op e pos):=⟨λenv=>.prim (.ld env x) [] λold=>(b.p env).bind λv=>.prim (.sW op) [old,v] λw=>.prim (.st env x) [w] λZ=>.ret .none,b.c&&Bz x,λoo g=>⟨λ{cx W s t env C? A Q E}Z H r h=>by obtain⟨old,hl,h⟩:=U0 (k:=λold s'=>g.run ((b.p env).bind λv=>.prim (.sW op) [old,v] λw=>.prim (.st env x) [w] λZ=>.ret .none) s') h;exact wpAny_AugAssign_Name<|I0 H.G r H.e (KH<|cr oo) hl λyC=>(b.ok (cl oo) g).go H r<|step h λ{Z Z Z Z Z}le r1 hv h1=>UZ r1 (yC.C! le) hv<|Ep h1 λ{Z Z Z Z Z}mS r2 hw h2=>Z4 ((H.C! le).C! mS) r2 hw<|Ep h2 λ{Z Z Z Z Z}Z r3 Z h3=>ret (w:=PySem.Flow.next) h3 r3 Ä⟩⟩
def TS.wY{o:ì}(a:TE o)(b:TE e)(n:Ï)(ap:ń)(op:Į)(pos:ń):TS (.AugAssign (.Attribute o n ap) op e pos):=⟨λenv=>(a.p env).bind λx=>.prim (.get n) [x] λold=>(b.p env).bind λv=>.prim (.sW op) [old,v] λw=>.prim (.set n) [x,w] λZ=>.ret .none,a.c&&b.c&&Ê (n∈A6),λoo g=>⟨λ{Z Z Z Z Z Z Z Z Z}Z H r h=>have hn:=Ù<|cr oo;wpAny_AugAssign_AttributeAny<|(a.ok (cl<|cl oo) g).go H r<|step h λ{Z Z Z Z Z}le r1 hx h1=>Y7 (H.C! le) r1 hn hx<|Ep h1 λ{Z Z Z Z Z}mS r2 ho h2=>(b.ok (cr<|cl oo) g).go ((H.C! le).C! mS) r2<|step h2 λ{Z Z Z Z Z}pq r3 hv h3=>UZ r3 (ho.C! pq) hv<|Ep h3 λ{Z Z Z Z Z}sS r4 hw h4=>Y6 ((((H.C! le).C! mS).C! pq).C! sS) r4 hn (((hx.C! mS).C! pq).C! sS) hw<|Ep h4 λ{Z Z Z Z Z}Z r5 Z h5=>ret (w:=PySem.Flow.next) h5 r5 Ä⟩⟩
def TS.wW{o i:ì}(a:TE o)(c:TE i)(b:TE e)(sp:ń)(op:Į)(pos:ń):TS (.AugAssign (.Subscript o i sp) op e pos):=⟨λenv=>(a.p env).bind λx=>(c.p env).bind λy=>.prim .item [x,y] λold=>(b.p env).bind λv=>.prim (.sW op) [old,v] λw=>.prim .oy [x,y,w] λZ=>.ret .none,a.c&&c.c&&b.c&&FZ i,λoo g=>⟨λ{Z Z Z Z Z Z Z Z Z}Z H r h=>wpAny_AugAssign_SubscriptAny ((a.ok (cl<|cl<|cl oo) g).go H r<|step h λ{Z Z Z Z Z}le r1 hx h1=>(c.ok (cr<|cl<|cl oo) g).go (H.C! le) r1<|step h1 λ{Z Z Z Z Z}mS r2 hy h2=>(UY ((H.C! le).C! mS) r2 (hx.C! mS) hy<|Ep h2 λ{Z Z Z Z Z}pq r3 ho h3=>(b.ok (cr<|cl oo) g).go (((H.C! le).C! mS).C! pq) r3<|step h3 λ{Z Z Z Z Z}sS r4 hv h4=>UZ r4 (ho.C! sS) hv<|Ep h4 λ{Z Z Z Z Z}vb r5 hw h5=>QL (((((H.C! le).C! mS).C! pq).C! sS).C! vb) r5 ((((hx.C! mS).C! pq).C! sS).C! vb) (((hy.C! pq).C! sS).C! vb) hw<|Ep h5 λ{Z Z Z Z Z}Z r6 Z h6=>ret (w:=PySem.Flow.next) h6 r6 Ä).1) λZ Z Z=>bY<|cr oo⟩⟩
def TB.nil:TB []:=⟨λZ=>.ret .none,Å,λZ g=>⟨λ{Z Z Z Z Z Z Z Z Z}Z H r h=>ĺ<|ret h r Ä⟩⟩
def F8(f:V)(k:Pr):Pr:=match f with|.none=>k|f=>.ret f
def TB.cons(a:TS st)(c:TB b):TB (st::b):=⟨λenv=>(a.p env).bind λf=>F8 f<|c.p env,a.c&&c.c,λoo g=>⟨λ{cx W s t env C? A Q E}hc H r h=>Ň<|(a.ok (cl oo) g).go hc H r<|step h λ{v s' W1 f t'}le r1 hf h1=>by induction f with|next=>cases hf;exact(c.ok (cr oo) g).go hc (H.C! le) r1 h1|brk=>cases hf;exact ret h1 r1 Ä|cont=>cases hf;exact ret h1 r1 Ä|ret w=>obtain⟨u,rfl,hu⟩:=hf;exact ret h1 r1 ⟨_,Ä,hu⟩⟩⟩
def TS.ite(a:IK te)(x:TB b)(y:TB o)(pos:ń):TS (.If te b o pos):=⟨λenv=>(a.p env).bind λv=>Ue v λc=>if c then x.p env else y.p env,a.c&&(x.c&&y.c),λoo g=>⟨λhc H r h=>wpAny_If<|(a.ok (cl oo) g).go H r<|step h λ{Z Z Z w Z}le r1 e h1=>by subst e;exact Me (λe=>(x.ok (cl<|cr oo) g).go hc (H.C! le) r1<|(Bn h1).1 e) λe=>(y.ok (cr<|cr oo) g).go hc (H.C! le) r1<|(Bn h1).2 e⟩⟩
def PC(f:V)(k:Pr):Pr:=match f with|.none=>k|.bool c=>if c then k else .ret .none|.D! l=>(match l with|[w]=>.ret<|.D! [w]|_=>.C_)|_=>.C_
def Bu(t b:Pr):Ç->Pr|0=>.C_|n+1=>t.bind λc=>Ue c λc=>if c then b.bind λf=>PC f (Bu t b n)else .ret .none
theorem AZ.pY{g:IL}{cx:Cx}{W:Wd}{env:BJ}{C?:Ů}{A:ĕ}{E:PV->Ó->Prop}(H:Ao cx g.A_ g.k W env C? A)(nR:cx.cmp=È){α β:Type}{Y:AN α}{R:Wd->α->β->Prop}{Q:β->Ó->Prop}(h:AZ g.RX cx W Y R Q E):AZ g.RX cx W Y R Q (notedBy cx.M A C?<|cameBackBy cx.M A C? E):=by induction Y with|ok v s=>exact h|exc v s=>exact λW1 w t1 le r1=>g.rx.pY (H.C! le) nR r1 λt' r'=>h W1 w t' le r'|C_=>exact h
def TS.vH(a:IK te)(x:TB b)(pos:ń):TS (.While te b [] pos):=⟨λenv=>Bu (a.p env) (x.p env) CM,a.c&&x.c,λoo g=>⟨λ{cx W s t env C? A Q E}hc H r h=>wpAny_While<|codeAny_whileLoop (prog:=cx.prog) (w:=cx.B.w) (λn t1=>H5 (λW1 s1=>W.Le W1) (λW1 s1=>RR cx W1 s1 t1) λW1 s1=>AZ g.RX cx W1 (g.run (Bu (a.p env) (x.p env) n) s1) FR Q E) (λn t1 hx=>by obtain⟨W1,s1,le,r1,h1⟩:=hx;have H1:=H.C! le;induction n using ĉ with|zero=>exact h1.elim|succ n=>refine(a.ok (cl oo) g).go H1 r1<|AZ.pY H1 hc<|step h1 λ{Z Z W2 c Z}mS r2 e h2=>?_;subst e;have H2:=H1.C! mS;refine Me (λe=>?_) λe=>ĺ<|ret ((Bn h2).2 e) r2 Ä;refine(x.ok (cr oo) g).go hc H2 r2<|AZ.pY H2 hc<|step ((Bn h2).1 e) λ{f s3 W3 fl t3}pq r3 hf h3=>?_;induction fl with|next=>cases hf;exact⟨n,Ī n,W3,s3,(le.trans mS).trans pq,r3,h3⟩|brk=>cases hf;exact ret h3 r3 Ä|cont=>cases hf;exact⟨n,Ī n,W3,s3,(le.trans mS).trans pq,r3,h3⟩|ret w=>obtain⟨u,rfl,hu⟩:=hf;exact ret h3 r3 ⟨_,Ä,hu⟩) CM ⟨W,s,.refl W,r,h⟩⟩⟩
end
section
variable{st:Đ}
def D1(body:V->Pr)(H!:V)(all:Á V):Á V->Pr|[]=>.prim .same [H!,.D! all] λZ=>.ret .none|v::r=>.prim .same [H!,.D! all] λZ=>(body v).bind λf=>PC f<|D1 body H! all r
def NP(body:V->Pr)(y:V):Pr:=O1 y λv l=>.oX (.N? v) (D1 body v l l) .ret
def ZJ:Internal.Flow->V|.next=>.none|.brk=>.bool Æ|.cont=>.bool Å|.ret v=>.D! [v]
def OX(x:AN V):AN Internal.Flow:=match x with|.ok .none s=>.ok .next s|.ok (.bool Æ) s=>.ok .brk s|.ok (.bool Å) s=>.ok .cont s|.ok (.D! [w]) s=>.ok (.ret w) s|.ok _ _=>.C_|.exc e s=>.exc e s|.C_=>.C_
theorem Vo(h:G8 W f w):FR W (ZJ f) w:=by induction f<;>induction w<;>first|exact Ä|exact⟨_,Ä,h⟩|exact h.elim
theorem UK{g:IL}{cx:Cx}{W:Wd}{X:AN V}{Q:PySem.Flow->Ó->Prop}{E:PV->Ó->Prop}(h:AZ g.RX cx W (OX X) G8 Q E):AZ g.RX cx W X FR Q E:=by induction X with
 |ok v s=>intro W' x t' le r hx;induction x with|next=>cases hx;exact h W' .next t' le r Þ|brk=>cases hx;exact h W' .brk t' le r Þ|cont=>cases hx;exact h W' .cont t' le r Þ|ret w=>obtain⟨u,rfl,hu⟩:=hx;exact h W' (.ret w) t' le r hu
 |exc e s=>exact h|C_=>exact h
theorem Vj{g:IL}{body:V->Pr}{H!:V}{all:Á V}{x:V}{sr:S}{l:Á V}:∀{s:S},g.run (D1 body H! all l) s=.ok x sr->BM (λf=>x=ZJ f) λf=>NO (λv s=>OX<|g.run (body v) s) H! all l s=.ok f sr:=by induction l with|nil=>intro s h;obtain⟨h1,h2⟩:=H9 h;obtain⟨rfl,rfl⟩:=AN.oE h2;exact⟨.next,Ä,Î h1⟩|cons v r ih=>
  intro s h;obtain⟨h1,h2⟩:=H9 h;have h3:((g.run (body v) s).bind λf s'=>g.run (PC f<|D1 body H! all r) s')=.ok x sr:=(Pr.F_ _ _).symm.trans h2;refine AA (Kj h1) ?_;revert h3;rcases g.run (body v) s with⟨y,s'⟩|_|_
  .rcases y with _|(_|_)|_|_|(_|⟨w,_|_⟩)|_|_;.exact λh=>ih h
   .exact λh=>by obtain⟨e1,e2⟩:=AN.oE h;exact⟨.next,e1.symm,AP e2 Ä⟩
   .exact λh=>ih h
   .exact λh=>AN.mQ h
   .exact λh=>AN.mQ h
   .exact λh=>AN.mQ h
   .exact λh=>by obtain⟨e1,e2⟩:=AN.oE h;exact⟨.ret w,e1.symm,AP e2 Ä⟩
   .exact λh=>AN.mQ h
   .exact λh=>AN.mQ h
   .exact λh=>AN.mQ h
  .exact λh=>AN.qf h
  .exact λh=>AN.mQ h
def TS.sy(i:TI it)(t:TG tg)(x:TB b)(pos:ń):TS (.For tg it b [] pos):=⟨λenv=>(i.p env).bind<|NP λw=>(t.p env w).bind λZ=>x.p env,i.c&&t.c&&x.c&&Im it,λoo g=>⟨λ{cx W s t0 env C? A Q E}hc H r h=>by
 refine wpAny_For (i.ok (cl<|cl<|cl oo) g H r h λ{v l s1 W1 ps I o t1}le r1 rk JY h1=>?_) λx=>MR<|cr oo;have n4:s1.lk=cx.lk:=by x_go;obtain⟨g',l4,m4,y4⟩:=r1;exact zk<|Á.append_cancel_left<|y4.rest.2.2.1
 refine Zq (RX:=g.RX) (E:=E) (O!:=cx.I? (BF v s1) ps) (nn:=s1.lk) (Qf:=Q) (body:=λw s=>OX<|g.run ((t.p env w).bind λZ=>x.p env) s) (λ{W2 s2 t2 I' o' y w Qb Eb}H2 r2 hv h2=>?_) ⟨_,ps,Ä⟩ (H.C! le) r1 rk JY n4 (λf t' hq=>hq) ?_;.have H3:=(H2.I? (BF v s1) ps).K? I' o';exact t.ok (cr<|cl<|cl oo) g (cx:=(cx.I? (BF v s1) ps).K? I' o') H3 r2 hv<|step (UK h2) λ{Z Z Z Z Z}mS r3 Z h3=>(x.ok (cr<|cl oo) g).go (cx:=(cx.I? (BF v s1) ps).K? I' o') hc (H3.C! mS) r3 h3
 .have h1:AZ g.RX cx W1 (C9 ((GP.N? v).J? s1<|g.run (D1 (λw=>(t.p env w).bind λZ=>x.p env) v l l) {s1 with lk:=BF v s1++s1.lk}) λf s'=>g.run (.ret f) s') FR Q E:=h1;x_go;generalize q:g.run (D1 (λw=>(t.p env w).bind λZ=>x.p env) v l l) {s1 with lk:=BF v s1++s1.lk}=zc at h1;induction zc with|exc _ _=>exact h1.elim|C_=>exact h1.elim|ok f s2=>obtain⟨f,rfl,e⟩:=Vj q;refine zk<|AA e ?_;exact λW' w t' le r' hw=>h1 W' w t' le r'<|Vo hw⟩⟩
theorem Pb(te:V->Pr)(f:V->Pr)(y:V):(JN te .ret y).bind f=JN te f y:=by unfold JN O1;cases UX y<;>rfl
theorem PZ(ti:BJ->Pr)(te:BJ->V->Pr)(sc:Ō)(f:V->Pr)(env:BJ):(JK ti te sc .ret env).bind f=JK ti te sc f env:=by
 unfold JK;rcases Ch env sc.names with _|cl;.rfl
 .refine AA (Pr.bind_assoc ..) ?_;rw[show(λv=>(JN (te ⟨sc,cl⟩) .ret v).bind f)=JN (te ⟨sc,cl⟩) f from ø<|Pb _ f]
def TS.wZ{elt tE:ì}{fs:Á ì}(i:TI it)(c:TC tE elt fs)(sc:Ō)(cp:ń)(x:Ï)(xp pos:ń):TS (.Assign [.Name x xp] (.ListComp elt [⟨tE,it,fs,0⟩] sc cp) pos):=⟨λenv=>gA ((TE.comp i c sc cp).p env)<|(TG.name x xp).p env,(TE.comp i c sc cp).c,λoo g=>⟨λ{cx W s t env C? A Q E}nR H r h=>by
  rcases RV (a:=elt) (b:=[⟨tE,it,fs,0⟩]) (sc:=sc) (d:=cp) (x:=x) (xp:=xp) (line:=pos.line) (C?:=C?)with hs|hs;.refine Ŋ (((TE.comp i c sc cp).ok oo g).go H r<|step h λ{Z Z Z Z Z}le r1 hv h1=>?_) hs<|GX Ä;exact(TG.name x xp).ok Ä g (H.C! le) r1 hv<|step h1 λ{Z Z Z Z Z}Z r2 Z h2=>ret h2 r2 Ä
  .have h:AZ g.RX cx W (g.run ((JK i.p c.p sc .ret env).bind λv=>.prim (.st env x) [v] λZ=>.ret .none) s) FR Q E:=h;rw[PZ]at h;refine AA (exec_Assign_arm ..)<|É<|ĩ<|É ?_;refine AA (show swapsWithSole [.Name x xp] (.ListComp elt [⟨tE,it,fs,0⟩] sc cp) pos.line C?=pure Å from hs) ?_;refine Ô ?_;refine AA (Î Ä)<|É ?_;refine AA (arm_evalThenUse_ListComp ..) ?_;rw[show firstAsync [⟨tE,it,fs,0⟩]=Æ from Ä,show firstIter [⟨tE,it,fs,0⟩] C?=eval it C? from Ä];dsimp only;refine É ?_;refine Qv i (cl<|cl oo) c (cr<|cl oo) H r (cl<|cr oo) (cr<|cr oo) h λ{D Cn oC mC W' t' sn a}n1 le r' hv so uI rv hp hf h'=>?_;show wpAny cx.M A (assign (.Name x xp) C?<|.ref D) _ E t';have h2:AZ g.RX cx W' ((TH<|Tz env x (.ref a) sn).bind λZ s'=>g.run (.ret .none) s') FR Q E:=h';x_go;obtain⟨s',he,hQ⟩:BM (λs'=>Tz env x (.ref a) sn=À s') λs'=>∀{t},RR cx W' s' t->Q .next t:=by
    generalize q:Tz env x (.ref a) sn=zc at h2;rcases zc with _|s';.exact h2.elim
    .exact ⟨s',Ä,λr=>ret (w:=PySem.Flow.next) h2 r Ä⟩
   refine zk<|χ (FI (cx:=cx.K? Cn oC) r' ((H.C! le).K? Cn oC).e he hv λ{t2}r2=>⟨mC,UU r2 n1,λwK hs=>?_⟩);x_go;obtain⟨g',l4,m4,y4⟩:=r2;exact zk<|Ô<|Ô (hQ (y4.pV (k:=t2.toks) rv so uI hp hf hs.extBut))⟩⟩
def TS.pO{a:ì}(x:TE a)(n:Ï)(np cp pos:ń):TS (.Raise (À<|.Call (.Name n np) [a] [] cp) È pos):=⟨λenv=>if env.kind "Deadlock"=À .globalImplicit then(x.p env).bind λv=>.exc v else .C_,x.c&&noStar a&&Ê (n="Deadlock"),λoo g=>⟨λ{cx W s t env C? A Q E}hc H r h=>by
 have en:=Ù<|cr oo;subst en;refine Ae (P:=λp=>AZ g.RX cx W (g.run p s) FR Q E) h (λhk h=>?_) λZ h=>?_;.exact g.rx.pO H hc r hk (cr<|cl oo)<|(x.ok (cl<|cl oo) g).go H r<|step h λ{v s1 W1 w t1}le r1 hv h1=>⟨W1,s1,v,le,r1,hv,λe nt hr=>h1 W1 e nt (.refl _) hr⟩
 .exact h.elim⟩⟩
def TS.qF(x:TB b)(c n y n' e?:Ï)(np yp ap qE sp hp pos:ń):TS (.Try b [.ExceptHandler (À<|.Name c np) (À n) [.Assign [.Name y yp] (.Attribute (.Name n' ap) e? qE) sp] hp] [] [] pos):=⟨λenv=>if env.kind "Deadlock"=À .globalImplicit/\env.kind n=À .local/\env.kind y=À .local then .oX (.tr n y) (x.p env) .ret else .C_,x.c&&Ê (y≠n)&&Ê (c="Deadlock"/\n'=n/\e?="tasks"),λoo g=>⟨λ{cx W s t env C? A Q E}hc H r h=>by
 obtain⟨rfl,rfl,rfl⟩:=Ù<|cr oo;refine Ae (P:=λp=>AZ g.RX cx W (g.run p s) FR Q E) h (λze h=>?_) λZ h=>?_;.obtain ⟨k1,k2,k3⟩:=ze;refine g.rx.qF H hc r k1 k2 k3 (Ù<|cr<|cl oo)<|(x.ok (cl<|cl oo) g).go hc H r ?_;have h:AZ g.RX cx W (C9 ((GP.tr n' y).J? s<|g.run (x.p env) s) λf s'=>g.run (.ret f) s') FR Q E:=h;generalize q:g.run (x.p env) s=zc at h;induction zc with|ok f s1=>exact h|C_=>exact h.elim|exc v s1=>
   intro W1 e t1 le hr;refine Ae (P:=λz=>AZ g.RX cx W (C9 z λf s'=>g.run (.ret f) s') FR Q E) h (λhn h=>?_) λZ h=>?_;.exact ⟨W1,s1,v,le,hr,by simpa using hn,λnt sI=>h W1 .next nt le sI Ä⟩
   .exact h.elim
 .exact h.elim⟩⟩
end
theorem Qu{cx:Cx}{W0:Wd}{s:S}{t0:Ó}{h₀ h':ç}{sR:Em}{m:Ï->Ã PV}{tk:Ç}{fo:ġ}{args:Á Arg}{b:Á Đ}{sc:Ō}{cl:Á<|Ï×Ad}{bd qn:Ï}{doc nm cv tL:PV}{rl:Á<|Ï×Û}{P:Prop}(y0:BW cx W0 s t0 h₀ sR m)(F':Fr h₀ cx.L (h'.push fo) m)(N':ĵ h₀ cx.L (h'.push fo) sR)(lt:∀p∈sR,p.1<h'.objs.size)(hL:cx.L<h'.objs.size)(fz:fo.isFreed=Æ)(uD:fo.data=.func (fnX bd qn (CV args) b sc rl .none .none doc nm È cv tL))(k2:DB W0 cl rl)(hc:Wg W0.L! cv qn)(k:∀{W':Wd},W0.Le W'->W'.mM (.mo s.nx)->W'.ad (.mo s.nx)=h'.objs.size->RR cx W' {s with h:=Dj s.h (.mo s.nx) (.mo (args.map (·.arg)) b sc cl),nx:=s.nx+1} {t0 with heap:=h'.push fo,toks:=tk}->P):P:=by x_go;obtain⟨c',oc,vs,tt,g1,g2,g3,g4⟩:=hc;obtain⟨W',le,hd,ha,r'⟩:=y0.qM (c:=.mo (args.map (·.arg)) b sc cl) (k:=tk) F' (λp hp=>(Bt hp).elim (λe=>AA e ⟨ņ _ fz,ŝ hL,ç.get?_none_of_le<|Ñ y0.F.above<|Ą hL⟩)<|N' p) lt λW' le e=>⟨fo,bd,qn,args,.none,doc,nm,È,cv,tL,rl,by exact AA e<|.head _,Ä,uD,k2.C! le,⟨c',oc,vs,tt,g1,le.L! _ _ g2,g3,g4⟩⟩;exact zk<|k le hd ha r'
section
def TS.pc(x bd:Ï)(ps:œ)(b:Á Đ)(sc:Ō)(pos:ń):TS (.FunctionDef x ps b [] È [] sc È bd pos):=⟨λenv=>if Ed env.scope bd=Å/\env.kind bd=À .local then(match Ch env sc.names with|À cl=>.prim (.mo (ps.args.map (·.arg)) b sc cl) [] λf=>.prim (.st env bd) [f] λZ=>.ret .none|È=>.C_)else .C_,DI sc&&HG ps&&Ê (bd=x),λoo g=>⟨λ{cx W s t env C? A Q E}nR H r h=>by
  have ex:=Ù<|cr oo;subst ex;have o2:=cr<|cl oo;rcases SU (P:=λp=>AZ g.RX cx W (g.run p s) FR Q E) h with⟨⟨hn,hl⟩,h⟩|⟨_,h⟩;rotate_left;.exact h.elim
  x_go;obtain⟨p1,p2,p3,p4⟩:=Os o2;refine zk ?_;generalize nf:Ch env sc.names=zc at h;rcases zc with _|cl;.exact h.elim
  .x_go;obtain⟨q,hq,rz,tq⟩:=H.e_ _ hn hl;obtain⟨k1,k2⟩:=GJ H.e.cells nf;refine zk<|nestDef_K p2 p3 (p4 _) ?_;have yN:qualnameIn C? bd bd=q.2.2:=by unfold qualnameIn;rw[H.e.A! _ hl,<-tq];rfl
   refine yN▸?_;x_go;obtain⟨h₀,led,m,y⟩:=r;obtain⟨vI,hm,ht,yg⟩:=y.R.tab.tabs q hq;obtain⟨hb,vw,uB⟩:=y.qH H hm;have CH:=((H.G.cls.tabs q hq).keeps y.G.stays).keeps y.F.keep;have hP:=(y.N _ hm).1;have mu:∀{W':Wd}{a:Û}{t':Ó},W.Le W'->W'.mM (.mo s.nx)->W'.ad (.mo s.nx)=a->RR cx W' {s with h:=Dj s.h (.mo s.nx) (.mo (ps.args.map (·.arg)) b sc cl),nx:=s.nx+1} t'->wpAny cx.M A (PySem.storeName C? bd<|.ref a) (λZ oz=>Q .next oz) E t':=λ{W' a t'}le hd ha r'=>by have h2:AZ g.RX cx W ((TH (Tz env bd (.ref<|.mo s.nx) {s with h:=Dj s.h (.mo s.nx) (.mo (ps.args.map (·.arg)) b sc cl),nx:=s.nx+1})).bind λZ s'=>g.run (.ret .none) s') FR Q E:=h;exact Z4 (Q:=λZ=>Q .next) (H.C! le) r' (VR.qI hd ha)<|Ep (h2.le g.RX le) λ{Z Z Z Z Z}Z r3 Z h3=>ret (w:=PySem.Flow.next) h3 r3 Ä
   refine zk ?_;generalize hf:codeAmong pos vI.toList=zc;rcases zc with _|cv
   .refine makeFunction_K (mg:=cx.mg) k1 H.e.globals uB rz CH hP ht hf vw hb λc' tL doc h' tk hx vu pE vh yE=>?_;x_go;obtain⟨c₂,oc,vs,tt,e2,yP,pf,hv⟩:=vh;obtain⟨⟩:=e2;obtain⟨F!,U,u1,u2,u3⟩:=Du y.R.nd hm<|tabObj<|vI++#[Ē pos.line,Ē pos.col,.ref c'];have yt:cx.L<t.heap.objs.size:=y.F.ns.lt;have wF:cx.L<c':=õ yt vu;have hz:=y.N _ hm;have fresh:∀b,cx.L<b->h₀.get? b=È:=λb hb=>ç.get?_none_of_le<|Ñ y.F.above<|Ą hb;have w6:∀p∈led,p.1<c':=λp hp=>õ (ï (y.N p hp).1) vu;have fx:G7 cx.B led c':=⟨Dm w6,by
     generalize z:cx.B.base.get? c'=zc;rcases zc with _|o;.rfl
     .exact â (ï<|y.F.keep _ _<|y.G.stays _ _ z)<|Ç.not_lt.mpr vu⟩;have yG:TriplesOk (vI++#[Ē pos.line,Ē pos.col,.ref c']).toList:=by exact ī.toList_append▸TriplesOk_snoc _ _ _ _ ht
    obtain⟨R',uk⟩:=y.R.p9 hq hm fx u1 u2 u3 yG (λpos' cv tK=>by rw[ī.toList_append]at tK;exact Jr _ ht tK) ⟨vs,tt,pf,hv⟩;obtain⟨fo,uD⟩:∃fo,fo=fnMade bd q.2.2 ps b sc (Ag C?.cells sc.names []) doc ((cx.mg "__name__").getD .none) c' tL:=⟨_,Ä⟩;refine zk<|uD▸?_;have F':Fr h₀ cx.L (h'.push fo) m:=⟨(y.F.ns.extBut hx hz.2.1.symm).push _,λb o e=>ß _<|hx b o (λz=>by rw[z,hz.2.2]at e;cases e)<|y.F.keep b o e,y.F.above⟩;have Nl:ĵ h₀ cx.L (h'.push fo) F!:=P0 U (λp m k=>⟨ß _<|hx _ _ k (y.N p m).1,(y.N p m).2⟩) ⟨ß _ yE,hz.2⟩;have N1:ĵ h₀ cx.L (h'.push fo) ((c',oc)::F!):=λp hp=>by
     rcases Bt hp with rfl|hp;.exact ⟨ß _ yP,ŝ wF,fresh _ wF⟩
     .exact Nl p hp
    have y':BW cx (W.p9 c' oc) s {t with heap:=h'.push fo,toks:=tk} h₀ ((c',oc)::F!) m:=by
     refine⟨F',N1,y.G,R',?_,λp hp=>⟨.tail _<|u3 _ (y.D? p hp).1 λe=>?_,(y.D? p hp).2.C! uk⟩,y.rest⟩
     .rcases y.A! with⟨e,h⟩|⟨_,_,_,e,_,_,_,_⟩;.exact .no e<|h.C! uk
      .exact GO<|e.symm.trans nR
     .rcases (y.D? p hp).2.1 with z|⟨b',_,qz,z⟩;.exact y.R.tab.nv p.1 z<|.inr ⟨q,hq,e.symm⟩
      .x_go;obtain⟨own,g1,g2,g3⟩:=y.R.own;have:=(g1 b' qz).1;rw[<-z,e,g3 _<|.inr<|.inr ⟨q,hq,Ä⟩]at this;exact AY this
    have lt:∀p∈(c',oc)::F!,p.1<h'.objs.size:=λp hp=>by
     rcases Bt hp with rfl|hp;.exact pE
     .have:p.1∈led.map (·.1):=u1▸Et ⟨p,hp,Ä⟩;x_go;obtain⟨p',nF,e⟩:=MD this;exact zk<|e▸Ņ (w6 p' nF) pE
    exact Qu y' F' N1 lt (Ņ wF pE) (by rw[uD];rfl) (by rw[uD,<-p1]) (k2.C! uk) ⟨c',oc,vs,tt,Ä,Î Ä,pf,hv⟩ λle hd ha r'=>mu (uk.trans le) hd ha r'
   .refine makeFunction_hit (mg:=cx.mg) k1 H.e.globals uB rz CH hP ht hf hb λtL doc h' tk hk hsz=>?_;exact Qu (fo:={cls:=.type "function",data:=.func<|fnX bd q.2.2 ps b sc (Ag C?.cells sc.names []) .none .none doc ((cx.mg "__name__").getD .none) È cv tL}) y ⟨(y.F.ns.keeps hk).push _,λb o e=>ß _<|hk b o<|y.F.keep b o e,y.F.above⟩ (λp hp=>⟨ß _<|hk _ _ (y.N p hp).1,(y.N p hp).2⟩) (λp hp=>õ (ï (y.N p hp).1) hsz) (õ y.F.ns.lt hsz) Ä (by rw[<-p1]) k2 (yg pos cv hf) λle hd ha r'=>mu le hd ha r'
⟩⟩
end
structure jl where
 e:(e:ì)->TE e
 t:(e:ì)->IK e
 a:(e:ì)->TG e
 s:(s:Đ)->TS s
def gW(f:(e:ì)->TE e)(pos:ń):(es:Á ì)->Yp pos es|[]=>.nil pos|e::r=>.cons (f e)<|gW f pos r
def hH(f:(e:ì)->TE e)(pos:ń)(es:Á ì):TA pos es:=match es with|[]=>.nil pos|e::r=>.of (gW f pos<|e::r) ((e::r).all noStar) id
def gz(f:(e:ì)->IK e)(op:BoolOp):(es:Á ì)->TO op es
 |[]=>match op with|.And=>.vR|.Or=>.vQ
 |e::r=>match op with|.And=>.and (f e)<|gz f .And r|.Or=>.or (f e)<|gz f .Or r
def Ze(f:(e:ì)->TE e)(op:BoolOp)(pos:ń):(es:Á ì)->Yq op es pos|[]=>.C_ _ _|[e]=>.a_ (f e) op pos|e::g::r=>match op with|.And=>.and (f e)<|Ze f .And pos<|g::r|.Or=>.or (f e)<|Ze f .Or pos<|g::r
def gm{P:ì->Type}(d:∀e,P e)(name:∀x p,P<|.Name x p)(tC:∀o n p,P<|.Attribute o n p)(sub:∀o i p,P<|.Subscript o i p)(D!:∀es k p,P<|.Tuple es k p)(call:∀f es kw p,P<|.Call f es kw p)(const:∀c k p,P<|.Constant c k p)(zR:∀op es p,P<|.BoolOp op es p)(g!:∀l op r p,P<|.BinOp l op r p)(un:∀op x p,P<|.UnaryOp op x p)(xy:∀t b o p,P<|.IfExp t b o p)(zH:∀ks vs p,P<|.Dict ks vs p)(d_:∀es p,P<|.List es p)(comp:∀el gs sc p,P<|.ListComp el gs sc p)(cmp:∀l ops rs p,P<|.Compare l ops rs p)(rg:∀a b c p,P<|.Slice a b c p)(e:ì):P e:=match e with|.Name x p=>name x p|.Attribute o n p=>tC o n p|.Subscript o i p=>sub o i p|.Tuple es k p=>D! es k p|.Call f es kw p=>call f es kw p|.Constant c k p=>const c k p|.BoolOp op es p=>zR op es p|.BinOp l op r p=>g! l op r p|.UnaryOp op x p=>un op x p|.IfExp t b o p=>xy t b o p|.Dict ks vs p=>zH ks vs p|.List es p=>d_ es p|.ListComp el gs sc p=>comp el gs sc p|.Compare l ops rs p=>cmp l ops rs p|.Slice a b c p=>rg a b c p|e=>d e
section
variable{P:ì->Type}(d:∀e,P e)
def fW(name:∀x p,P<|.Name x p)(tC:∀o n p,P<|.Attribute o n p)(sub:∀o i p,P<|.Subscript o i p)(D!:∀es k p,P<|.Tuple es k p)(e:ì):P e:=gm d name tC sub D! (λZ Z Z Z=>d _) (λZ Z Z=>d _) (λZ Z Z=>d _) (λZ Z Z Z=>d _) (λZ Z Z=>d _) (λZ Z Z Z=>d _) (λZ Z Z=>d _) (λZ Z=>d _) (λZ Z Z Z=>d _) (λZ Z Z Z=>d _) (λZ Z Z Z=>d _) e
def bE(name:∀x p,P<|.Name x p)(e:ì):P e:=fW d name (λZ Z Z=>d _) (λZ Z Z=>d _) (λZ Z Z=>d _) e
def cN(call:∀f es kw p,P<|.Call f es kw p)(const:∀c k p,P<|.Constant c k p)(comp:∀el gs sc p,P<|.ListComp el gs sc p)(rg:∀a b c p,P<|.Slice a b c p)(e:ì):P e:=gm d (λZ Z=>d _) (λZ Z Z=>d _) (λZ Z Z=>d _) (λZ Z Z=>d _) call const (λZ Z Z=>d _) (λZ Z Z Z=>d _) (λZ Z Z=>d _) (λZ Z Z Z=>d _) (λZ Z Z=>d _) (λZ Z=>d _) comp (λZ Z Z Z=>d _) rg e
end
def lK{P:Đ->Type}(d:∀s,P s)(a!:∀ts e p,P<|.Assign ts e p)(s:Đ):P s:=W8 d (λZ Z Z Z Z Z Z Z Z Z=>d _) (λZ Z Z Z Z Z Z Z Z Z Z=>d _) (λZ Z=>d _) a! (λZ Z Z Z=>d _) (λZ Z Z Z Z=>d _) (λZ Z Z Z=>d _) (λZ Z Z Z=>d _) (λZ Z Z=>d _) (λZ Z Z Z Z=>d _) (λZ Z=>d _) (λZ=>d _) (λZ=>d _) (λZ=>d _) s
def fJ{Q:Á ξ->Type}(d:∀hs,Q hs)(f:∀c np n y yp n' ap e? qE sp hp,Q [.ExceptHandler (À<|.Name c np) (À n) [.Assign [.Name y yp] (.Attribute (.Name n' ap) e? qE) sp] hp])(hs:Á ξ):Q hs:=hs.casesOn (d _) λe r=>r.casesOn (ξ.casesOn (motive_4:=λe=>Q [e]) e λty nm bd hp=>ty.casesOn (d _) λte=>bE (P:=λte=>Q [.ExceptHandler (À te) nm bd hp]) (λZ=>d _) (λc np=>nm.casesOn (d _) λn=>bd.casesOn (d _) λst sr=>sr.casesOn (lK (P:=λst=>Q [.ExceptHandler (À<|.Name c np) (À n) [st] hp]) (λZ=>d _) (λts v sp=>ts.casesOn (d _) λt tr=>tr.casesOn (bE (P:=λt=>Q [.ExceptHandler (À<|.Name c np) (À n) [.Assign [t] v sp] hp]) (λZ=>d _) (λy yp=>fW (P:=λv=>Q [.ExceptHandler (À<|.Name c np) (À n) [.Assign [.Name y yp] v sp] hp]) (λZ=>d _) (λZ Z=>d _) (λo e? qE=>bE (P:=λo=>Q [.ExceptHandler (À<|.Name c np) (À n) [.Assign [.Name y yp] (.Attribute o e? qE) sp] hp]) (λZ=>d _) (λn' ap=>f c np n y yp n' ap e? qE sp hp) o) (λZ Z Z=>d _) (λZ Z Z=>d _) v) t) λZ Z=>d _) st) λZ Z=>d _) te) λZ Z=>d _
def kA(f:(e:ì)->TE e)(pos:ń):(ks:Á<|Ã ì)->(vs:Á ì)->Ã<|Σ n:Á Ï,TK n pos ks vs
 |[],[]=>À ⟨[],.nil pos⟩|À k::kr,v::vr=>cN (P:=λk=>Ã<|Σ n:Á Ï,TK n pos (À k::kr)<|v::vr) (λZ=>È) (λZ Z Z Z=>È) (λc u p=>match c with
  |.str x=>match kA f pos kr vr with|À ⟨n,a⟩=>À ⟨x::n,.cons x u p (f v) a⟩|È=>È
  |_=>È) (λZ Z Z Z=>È) (λZ Z Z Z=>È) k|_,_=>È
def cY(f:(e:ì)->TG e):(ts:Á ì)->bf ts|[]=>.nil|t::r=>.cons (f t)<|cY f r
def RN(f:(s:Đ)->TS s):(b:Á Đ)->TB b|[]=>.nil|s::r=>.cons (f s)<|RN f r
section
variable (h:jl)
def cX(it:ì):TI it:=cN (P:=TI) (λe=>.plain<|h.e e) (λf es kw p=>bE (P:=λf=>TI<|.Call f es kw p) (λf=>.plain<|h.e _) (λx np=>match es,kw with|[a],[]=>if x="range"then .range (hH h.e p [a]) x np else .plain<|h.e _|es,kw=>.plain<|h.e _) f) (λZ Z Z=>.plain<|h.e _) (λZ Z Z Z=>.plain<|h.e _) (λZ Z Z Z=>.plain<|h.e _) it
def g8(elt t:ì)(fs:Á ì):Ã (TC t elt fs):=match fs with|[]=>À<|.all (h.a t)<|h.e elt|[f]=>À<|.some (h.a t) (h.t f)<|h.e elt|_=>È
def lI(ks:Á<|Ã ì)(vs:Á ì)(p:ń):TE (.Dict ks vs p):=match ks,vs with
 |[],[]=>.uM p|k::kr,vs=>match kA h.e p (k::kr) vs with|À ⟨n,a⟩=>.dict a<|Á.cons_ne_nil _ _|È=>.C_ _ _
 |[],_::_=>.C_ _ _
def lF(f:ì)(es:Á ì)(kw:Á Keyword)(p:ń):TE (.Call f es kw p):=match kw with|[]=>fW (P:=λf=>TE<|.Call f es [] p) (λZ=>.C_ _ _) (λx np=>.qj (hH h.e p es) x np) (λo m ap=>.qk (h.e o) (hH h.e p es) m ap) (λZ Z Z=>.C_ _ _) (λZ Z Z=>.C_ _ _) f|_=>.C_ _ _
def lA(o i:ì)(p:ń):TE (.Subscript o i p):=bE (P:=λo=>TE<|.Subscript o i p) (λo=>.item (h.e o) (h.e i) p) (λx xp=>cN (P:=λi=>TE<|.Subscript (.Name x xp) i p) (λi=>.item (h.e _) (h.e i) p) (λZ Z Z Z=>.item (h.e _) (h.e _) p) (λZ Z Z=>.item (h.e _) (h.e _) p) (λZ Z Z Z=>.item (h.e _) (h.e _) p) (λa b c sp=>match a,b,c with|À lo,È,È=>.slice (.name x xp) (h.e lo) sp p|_,_,_=>.item (h.e _) (h.e _) p) i) o
def g7(elt:ì)(gs:Á Comprehension)(sc:Ō)(p:ń):TE (.ListComp elt gs sc p):=match gs with
 |[⟨t,it,fs,0⟩]=>match g8 h elt t fs with|À c=>.comp (cX h it) c sc p|È=>.C_ _ _
 |_=>.C_ _ _
def lH(e:ì):TE e:=gm (P:=TE) (λZ=>.C_ _ _) .name (λo n p=>.tC (h.e o) n p) (lA h) (λes k p=>.D! (gW h.e p es) k) (lF h) .const (λop es p=>Ze h.e op p es) (λl op r p=>.g! (h.e l) (h.e r) op p) (λop x p=>.un (h.e x) op p) (λt b o p=>.ite (h.t t) (h.e b) (h.e o) p) (lI h) (λes p=>.list<|gW h.e p es) (g7 h) (λl ops rs p=>match ops,rs with|[op],[r]=>.cmp (h.e l) (h.e r) op p|_,_=>.C_ _ _) (λZ Z Z Z=>.C_ _ _) e
def lB(e:ì):IK e:=gm (P:=IK) (λZ=>.C_ _ _) (λx p=>.plain (h.e<|.Name x p) λZ=>Ä) (λo n p=>.plain (h.e<|.Attribute o n p) λZ=>Ä) (λo i p=>.plain (h.e<|.Subscript o i p) λZ=>Ä) (λZ Z Z=>.C_ _ _) (λf es kw p=>.plain (h.e<|.Call f es kw p) λZ=>Ä) (λc k p=>.plain (h.e<|.Constant c k p) λZ=>Ä) (λop es p=>.bool (gz h.t op es) p) (λZ Z Z Z=>.C_ _ _) (λop x p=>match op with|.Not=>.not (h.t x) p|_=>.C_ _ _) (λt b o p=>.ite (h.t t) (h.t b) (h.t o) p) (λZ Z Z=>.C_ _ _) (λZ Z=>.C_ _ _) (λZ Z Z Z=>.C_ _ _) (λl ops rs p=>match ops,rs with|[op],[r]=>.cmp (h.e l) (h.e r) op p|_,_=>.C_ _ _) (λZ Z Z Z=>.C_ _ _) e
def lE(e:ì):TG e:=fW (P:=TG) (λe=>.C_ e) .name (λo n p=>.tC (h.e o) n p) (λo i p=>.item (h.e o) (h.e i) p) (λts n p=>.D! (cY h.a ts) n p) e
def hG(t e:ì)(p:ń):TS (.Assign [t] e p):=bE (P:=λt=>TS<|.Assign [t] e p) (λt=>.a! (h.a t) (h.e e) p) (λx xp=>cN (P:=λe=>TS<|.Assign [.Name x xp] e p) (λe=>.a! (h.a _) (h.e e) p) (λZ Z Z Z=>.a! (h.a _) (h.e _) p) (λZ Z Z=>.a! (h.a _) (h.e _) p) (λelt gs sc cp=>match gs with
 |[⟨t',it,fs,0⟩]=>match g8 h elt t' fs with|À c=>.wZ (cX h it) c sc cp x xp p|È=>.C_ _
 |gs=>.a! (h.a _) (h.e _) p) (λZ Z Z Z=>.a! (h.a _) (h.e _) p) e) t
def g9(t:ì)(op:Į)(e:ì)(p:ń):TS (.AugAssign t op e p):=fW (P:=λt=>TS<|.AugAssign t op e p) (λZ=>.C_ _) (λx xp=>.wX (h.e e) x xp op p) (λo n ap=>.wY (h.e o) (h.e e) n ap op p) (λo i sp=>.wW (h.e o) (h.e i) (h.e e) sp op p) (λZ Z Z=>.C_ _) t
def k9(b:Á Đ)(hs:Á ξ)(p:ń):TS (.Try b hs [] [] p):=fJ (Q:=λhs=>TS<|.Try b hs [] [] p) (λZ=>.C_ _) (λc np n y yp n' ap e? qE sp hp=>.qF (RN h.s b) c n y n' e? np yp ap qE sp hp p) hs
def lD(e:ì)(p:ń):TS (.Raise (À e) È p):=cN (P:=λe=>TS<|.Raise (À e) È p) (λZ=>.C_ _) (λf es kw cp=>bE (P:=λf=>TS<|.Raise (À<|.Call f es kw cp) È p) (λZ=>.C_ _) (λn np=>match es,kw with|[a],[]=>if n="Deadlock"then .pO (h.e a) n np cp p else .C_ _|_,_=>.C_ _) f) (λZ Z Z=>.C_ _) (λZ Z Z Z=>.C_ _) (λZ Z Z Z=>.C_ _) e
def lC(s:Đ):TS s:=W8 (P:=TS) (λZ=>.C_ _) (λx ps b ds r tp sc ts bd p=>ds.casesOn (r.casesOn (tp.casesOn (ts.casesOn (.pc x bd ps b sc p) λZ=>.C_ _) λZ Z=>.C_ _) λZ=>.C_ _) λZ Z=>.C_ _) (λZ Z Z Z Z Z Z Z Z Z Z=>.C_ _) (λv p=>v.casesOn (.vL p) λe=>.vK (h.e e) p) (λts e p=>ts.casesOn (.C_ _) λt r=>r.casesOn (hG h t e p) λZ Z=>.C_ _) (g9 h) (λt i b o p=>o.casesOn (.sy (cX h i) (h.a t) (RN h.s b) p) λZ Z=>.C_ _) (λt b o p=>o.casesOn (.vH (h.t t) (RN h.s b) p) λZ Z=>.C_ _) (λt b o p=>.ite (h.t t) (RN h.s b) (RN h.s o) p) (λe c p=>e.casesOn (.C_ _) λe=>c.casesOn (lD h e p) λZ=>.C_ _) (λb hs o f p=>o.casesOn (f.casesOn (k9 h b hs p) λZ Z=>.C_ _) λZ Z=>.C_ _) (λe p=>.expr (h.e e) p) .W? .brk .cont s
end
def OE(n:Ç):jl:=Ç.rec ⟨λZ=>.C_ _ _,λZ=>.C_ _ _,.C_,λZ=>.C_ _⟩ (λZ h=>⟨lH h,lB h,lE h,lC h⟩) n
def Bv(b:Á Đ):TB b:=RN (OE 40).s b
def KJ(ps:Á Ï)(b:Á Đ)(sc:Ō):Ë:=DI sc&&(Bv b).c&&Ê ps.Nodup&&ps.all (λx=>sc.names.lookup x==À .local||sc.names.lookup x==À .cell)&&Ê (((cellsFrom 0 sc.names []).map (·.1)).Nodup)
def Gh(ps:Á Ï)(b:Á Đ)(sc:Ō):Ë:=KJ ps b sc&&sc.names.all λp=>! p.2==.cell
end Mine.Internal
end
section
open PySem PySem.W PyProof.Rows PySem.Calls PyProof.V
set_option backward.match.sparseCases true
namespace Mine.Internal
def EK(A!:Ï->Ã V)(x:AN V):AN V:=match x with
 |.ok v s=>match v with
  |.none=>.ok .none {s with A!:=A!}|.D! l=>match l with|[u]=>.ok u {s with A!:=A!}|_=>.C_
  |_=>.C_
 |.exc e s=>.exc e {s with A!:=A!}|.C_=>.C_
def C7(A_:Ï->Ã V)(C:Dt)(f:Fn)(cells:Á<|Ï×Ad)(args:Á V)(s:S):AN V:=match Ar f args with|È=>.C_|À binds=>let cl:=AX s.nx f.scope.names [];EK s.A!<|((Bv f.body).p ⟨f.scope,cl++cells⟩).run A_ C {A!:=Be f.scope.names binds λZ=>È,h:=Bx (BI f.scope.names binds λZ=>È) cl s.h,nx:=s.nx+cl.length,lk:=s.lk}
def Y'(c:BX)(f:Á Ï->Á Đ->Ō->Á (Ï×Ad)->AN V):AN V:=BX.casesOn (motive:=λZ=>AN V) c (λZ Z=>.C_) (λZ=>.C_) (λZ=>.C_) (λZ=>.C_) f
def jZ(T:Eu)(c:Dt)(t:Ny)(args:Á V)(s:S):AN V:=Ny.casesOn (motive:=λZ=>AN V) t (λx=>As (T.fn x) λf=>C7 T.A_ c f [] args s) (λx=>As (T.ml x "__init__") λf=>(s.alloc<|.inst x []).bind λo s=>(C7 T.A_ c f [] (o::args) s).bind λr s=>match r with|.none=>.ok o s|_=>.C_) (λk m=>As (T.ml k m) λf=>C7 T.A_ c f [] args s) λa=>As (s.h a) λk=>Y' k λps b sc cl=>if Gh ps b sc then C7 T.A_ c ⟨ps,[],b,sc⟩ cl args s else .C_
def AK(T:Eu)(n:Ç):Dt:=Ç.rec (motive:=λZ=>Dt) (λZ Z Z=>.C_) (λZ=>jZ T) n
def TL(o:Ã Fn):Ë:=match o with|À f=>KJ f.params f.body f.scope|È=>Å
theorem iu:ZN.all (λp=>TL<|Vn p.2)=Å:=by decide+kernel
theorem ir:ZM.all (λp=>TL<|Vn p.2)=Å:=by decide+kernel
theorem iq:ZL.all (λp=>TL<|Vn p.2)=Å:=by decide+kernel
theorem io:ZK.all (λp=>TL<|Vn p.2)=Å:=by decide+kernel
theorem lP:Us.all (λp=>TL<|IE p.2.1 p.2.2<|if p.1.1="Limits"then Iw else[])=Å:=by decide+kernel
theorem Ce{β:Type}{α:Type}[BEq α][LawfulBEq α]{x:α}{b:β}{l:Á<|α×β}:l.lookup x=À b->(x,b)∈l:=by induction l with|nil=>exact λh=>AY h|cons p r ih=>
  intro h;rw[ð]at h;generalize q:(x==p.1)=zc at h;rcases zc with _|_;.exact .tail _<|ih h
  .obtain rfl:=Ak h;exact AA (à q)<|.head _
theorem ZA{x:Ï}(h:TT.fn x=À f):KJ f.params f.body f.scope=Å:=by
 obtain⟨i,hi,e⟩:=Ã.bind_eq_some_iff.mp h;have hm:=Ce hi;have:TL (Vn i)=Å:=by
  rcases Hy hm with hm|hm
  .rcases Hy hm with hm|hm
   .rcases Hy hm with hm|hm;.exact Hp iu _ hm
    .exact Hp ir _ hm
   .exact Hp iq _ hm
  .exact Hp io _ hm
 replace this:=e▸this;exact this
theorem IC{c m:Ï}(h:TT.ml c m=À f):KJ f.params f.body f.scope=Å:=by obtain⟨p,hp,e⟩:=Ã.bind_eq_some_iff.mp h;have:=Hp lP _<|Ce hp;simp only[]at this;rw[e]at this;exact this
section
variable{n:Ç}
theorem Qq{X:AN V}{A!:Ï->Ã V}{R:Result->Ó->Prop}{E':PV->Ó->Prop}(h:AZ RX cx W (EK A! X) VR (λw t=>R (.ok<|.ret w) t) λe t=>R (.error e) t)(hr:∀{s' W' t'},W.Le W'->RR p7 W' s' t'->RR cx W' {s' with A!:=A!} t')(he:∀{v s' W' w t'},W.Le W'->RX p7 W' s' v w t'->(∀nt,RX cx W' {s' with A!:=A!} v w nt->R (.error w) nt)->E' w t'):AZ RX p7 W X FR (λfl s'=>R (.ok<|.ret<|match fl with|.ret v=>v|_=>.none) s') E':=by induction X with|C_=>exact h|exc v s'=>exact λW' w t' le hx=>he le hx λnt sI=>h W' w nt le sI|ok v s'=>intro W' fl t' le r hf;induction fl with|next=>cases hf;exact h W' .none t' le (hr le r) .none|brk=>cases hf;exact h.elim|cont=>cases hf;exact h.elim|ret w=>obtain⟨u,rfl,hu⟩:=hf;exact h W' w t' le (hr le r) hu
theorem Zo(X:N7 RX A_ n)(Lv:Pp RX)(hC:D3 RX A_ C n)(H:Ao cx A_ (n+1) W env C? A0)(a:Wh cx A mJ n)(r:RR cx W s t){f:Fn}{cl:Á<|Ï×Ad}{rl:Á<|Ï×Û}{params:œ}{fa:Û}{fo:ġ}{name qual:Ï}{dV kV doc pm cdv ct:PV}{an:Ã Û}{l:Á V}{ws:Á PV}{R:Result->Ó->Prop}(oN:∀binds,Ar f l=À binds->D4 (λrb=>Β t (fnX name qual params f.body f.scope rl dV kV doc pm an cdv ct) ⟨ws,[]⟩ rb) (λrb=>B5 W binds rb) λrb=>∀y∈rb,y.1∈f.params) (ok:KJ f.params f.body f.scope=Å) (ho:t.heap.get? fa=À fo) (v8:fo.data=.func (fnX name qual params f.body f.scope rl dV kV doc pm an cdv ct)) (rL:t.heap.CodeRec cdv qual) (nf:DB W cl rl)(uz:∀x∈f.scope.names,x.2≠.cell) (h:AZ RX cx W (C7 A_ C f cl l s) VR (λw t=>R (.ok<|.ret w) t) λe t=>R (.error e) t):ň cx.M A (.call (.ref fa) ⟨ws,[]⟩) R t:=by unfold KJ at ok;x_go;obtain⟨ok,o5⟩:=AB ok;obtain⟨ok,o4⟩:=AB ok;obtain⟨ok,o3⟩:=AB ok;obtain⟨o1,o2⟩:=AB ok;unfold C7 at h;generalize hb:Ar f l=zc at h;induction zc with|none=>exact h.elim|some binds=>
  dsimp only at h;rw[Gf uz]at h;obtain⟨rb,uW,u',pS⟩:=oN binds hb
  .have pF:∀y∈rb,f.scope.names.lookup y.1=À .local:=λy hy=>by
    have:y.1∈f.params:=pS y hy;have:=Hp o4 _ this;simp only[Ë.or_eq_true,beq_iff_eq]at this;refine this.resolve_right λe=>?_;have key:∀l:Á<|Ï×á,l.lookup y.1=À .cell->(y.1,á.cell)∈l:=by intro l;induction l with|nil=>intro h;exact AY h|cons p r ih=>intro h;x_go;obtain⟨y',ky⟩:=p;rw[ð]at h;cases q:y.1==y' with|true=>refine zk ?_;rw[q]at h;obtain rfl:=Ak h;have:=à q;exact AA this<|.head _|false=>refine zk ?_;rw[q]at h;exact .tail _<|ih h
    exact uz _ (key _ e) Ä
   have vk:=o1;unfold DI at o1;obtain⟨q1,q4⟩:=AB o1;obtain⟨q1,q3⟩:=AB q1;obtain⟨q1,q2⟩:=AB q1;obtain⟨h₀,led,m,x⟩:=r;obtain⟨F?,hx,td⟩:=NQ x;refine zk<|Hn (news:=led) x.G.B x.F x.N (H.G.T.nolimit.keeps x.G.stays) a.fr a.fl a.fk ho v8 rL (dq a.depth<|è _) uW pF (λg L' mU F1 F2 N2 B2 st=>?_) uz (by simpa using q3) (by simpa using q4)<|à q2;have Hc:=Hm (m:=m) (L':=L') (fa:=fa) (cdv:=cdv) (qual:=qual) (rl:=rl) (cl:=cl) (F?:=F?) H a (.refl W) vk nf λy hn Z=>by unfold Ed at hn;x_go;obtain⟨_,hn⟩:=AB hn;obtain⟨p,hp,e⟩:=Á.any_eq_true.mp hn;exact â (à e)<|uz p hp
   have r':RR (cx.O? A mJ m L' F?) W {A!:=Be f.scope.names binds λZ=>È,h:=s.h,nx:=s.nx,lk:=s.lk} {t with heap:=mU,toks:=t.toks+rb.length}:=by
    have R:=x.R;refine⟨g,led,_,⟨F2,N2,⟨B2,λp hp=>?_⟩,⟨R.nd,R.mM,R.cells,R.mG,R.fresh,R.own,R.my,R.n6,R.oP,R.tab⟩,?_,λp hp=>?_,x.rest.1,(λC e=>by cases e),x.rest.2.2⟩⟩
    .x_go;rcases Bt hp with e|hp;.refine zk ?_;subst e;exact F1.ns
     .exact zk<|(x.G.P! p hp).keeps st
    .refine .no Ä ?_;have:=u'.vZ pF (f:=λZ=>È) (g:=λZ=>È) λy u hu=>by cases hu
     simpa using this
    .x_go;rcases Hy hp with e|e;.exact zk<|⟨(td p e).1,.inl (td p e).2,λh=>AY h⟩
     .exact zk<|⟨(x.D? p e).1,(x.D? p e).2.1,λh=>AY h⟩
   refine((Bv f.body).ok o2 ⟨RX,A_,C,n,X,@hC⟩).go (cx:=cx.O? A mJ m L' F?) Ä Hc r' ?_;have e1:({A!:=Be f.scope.names binds λZ=>È,h:=Bx (BI f.scope.names binds λZ=>È) [] s.h,nx:=s.nx+([]:Á<|Ï×Ad).length,lk:=s.lk}:S)={A!:=Be f.scope.names binds λZ=>È,h:=s.h,nx:=s.nx,lk:=s.lk}:=Ä;rw[e1]at h;simp only[τ]at h;exact Qq (cx:=cx) h (λle sI=>RR.J? x le hx sI) λle hr k=>Lv.J? x le hx a Ä (by exact à q2) hr k
theorem Zp(X:N7 RX A_ n)(Lv:Pp RX)(hC:D3 RX A_ C n)(H:Ao cx A_ (n+1) W env C? A0)(a:Wh cx A mJ n)(r:RR cx W s t){f:Fn}{params:œ}{fa:Û}{fo:ġ}{name qual:Ï}{dV kV doc pm cdv ct:PV}{an:Ã Û}{l:Á V}{ws:Á PV}{R:Result->Ó->Prop}(oN:∀binds,Ar f l=À binds->D4 (λrb=>Β t (fnX name qual params f.body f.scope [] dV kV doc pm an cdv ct) ⟨ws,[]⟩ rb) (λrb=>B5 W binds rb) λrb=>∀y∈rb,y.1∈f.params) (ok:KJ f.params f.body f.scope=Å) (ho:t.heap.get? fa=À fo) (v8:fo.data=.func (fnX name qual params f.body f.scope [] dV kV doc pm an cdv ct)) (rL:t.heap.CodeRec cdv qual)(qW:∀x,Ed f.scope x=Å->f.scope.names.lookup x=À .local->∃q∈cx.B.tabs,cdv=.ref q.1/\qual++".<locals>."++x=q.2.2)(h:AZ RX cx W (C7 A_ C f [] l s) VR (λw t=>R (.ok<|.ret w) t) λe t=>R (.error e) t):ň cx.M A (.call (.ref fa) ⟨ws,[]⟩) R t:=by
 unfold KJ at ok;x_go;obtain⟨ok,o5⟩:=AB ok;obtain⟨ok,o4⟩:=AB ok;obtain⟨ok,o3⟩:=AB ok;obtain⟨o1,o2⟩:=AB ok;unfold C7 at h;refine zk ?_;generalize hb:Ar f l=zc at h;rcases zc with _|binds;.exact h.elim
 .simp only at h;x_go;obtain⟨rb,uW,u',pS⟩:=oN binds hb
  .have yV:∀y∈rb,f.scope.names.lookup y.1=À .local\/f.scope.names.lookup y.1=À .cell:=λy hy=>by have:y.1∈f.params:=pS y hy;have:=Hp o4 _ this;simpa only[Ë.or_eq_true,beq_iff_eq]using this
   have vk:=o1;unfold DI at o1;obtain⟨q1,q4⟩:=AB o1;obtain⟨q1,q3⟩:=AB q1;obtain⟨q1,q2⟩:=AB q1;obtain⟨h₀,led,m,x⟩:=r;obtain⟨F?,hx,td⟩:=NQ x;refine zk<|Nk (news:=led) x.G.B x.F x.N (H.G.T.nolimit.keeps x.G.stays) a.fr a.fl a.fk ho v8 rL (dq a.depth<|è _) uW (λk y hy=>(yV y hy).imp id λe=>⟨e,cellsFrom_some _ k []<|.inl e⟩) (Ù o5) (λg L' mU tk cells F1 F2 N2 CA B2 st lt=>?_) (by simpa using q3) (by simpa using q4)<|à q2;x_go;obtain⟨j,z⟩:=Zc.o? (n0:=s.nx) (k0:=L'+1) f.scope.names .nil;simp only[Ç.add_zero]at z;have zl:=z.length;have wD:Ys W (BI f.scope.names binds λZ=>È) (bindC (envOfC qual f.scope L' fa cdv).kindOf rb λZ=>È):=u'.cell (λZ=>Ä) λZ=>Ä;obtain⟨W',le,R',c1,c2,c3⟩:=WV z (x.R.bump (AX s.nx f.scope.names []).length) CA (λb hb=>Ç.not_le.mp λhle=>by have:=(x.R.mM b).mp hb;rw[x.R.fresh b hle]at this;cases this) (λp hp=>Ĺ<|lt p hp) λp hp=>by
     generalize e:cx.B.base.get? p.1=zc;rcases zc with _|o;.rfl
     .have:=B2.stays _ _ e;rw[(N2 p<|æ _ hp).2.2]at this;cases this
    wD<|by show s.nx+j<=s.nx+_;lia
   have nf:DB W' (AX s.nx f.scope.names []++[]) (cellsFrom (L'+1) f.scope.names []):=λy b hy=>by rw[å]at hy;x_go;obtain⟨i,hi,rfl,hl⟩:=z.tY y b hy;exact zk<|⟨(c1 i hi).1,by exact AA (c1 i hi).2 hl⟩
   have Hc:=Hm (m:=m) (L':=L') (fa:=fa) (cdv:=cdv) (qual:=qual) (F?:=F?) H a le vk nf qW;have r':RR (cx.O? A mJ m L' F?) W' {A!:=Be f.scope.names binds λZ=>È,h:=Bx (BI f.scope.names binds λZ=>È) (AX s.nx f.scope.names []) s.h,nx:=s.nx+(AX s.nx f.scope.names []).length,lk:=s.lk} {t with heap:=mU,toks:=tk}:=by
    have R:=R';refine⟨g,cells++led,_,⟨F2,N2,⟨B2,λp hp=>?_⟩,⟨R.nd,R.mM,R.cells,R.mG,R.fresh,R.own,R.my,R.n6,R.oP,R.tab⟩,?_,λp hp=>?_,x.rest.1,(λC e=>by cases e),x.rest.2.2.1,λb hb=>?_⟩⟩
    .rcases Bt hp with e|hp;.subst e;exact F1.ns
     .exact (x.G.P! p hp).keeps st
    .refine .no Ä ?_;exact(u'.A! (λZ=>Ä) (f:=λZ=>È) (g:=λZ=>È) λy u hu=>by cases hu).C! le
    .rcases Hy hp with e|e;.exact ⟨Ö _ (td p e).1,.inl (td p e).2,λh=>AY h⟩
     .have:=(x.D? p e).2.C! le;exact⟨Ö _ (x.D? p e).1,this.1,λh=>AY h⟩
    .x_go;obtain⟨dl,fJ⟩:=x.rest.2.2.2 b hb;refine zk<|⟨dl,(Mc λy c hc=>?_).trans fJ⟩;x_go;obtain⟨i,hi,rfl⟩:=z.mem y c hc;refine zk ?_;intro e;rw[<-e,x.R.fresh _<|by show s.nx<=s.nx+i;lia]at fJ;exact AY fJ
   refine zk<|((Bv f.body).ok o2 ⟨RX,A_,C,n,X,@hC⟩).go (cx:=cx.O? A mJ m L' F?) Ä Hc r' ?_;exact Qq (cx:=cx) (AZ.le RX le h) (λmS sI=>RR.J? x (le.trans mS) hx sI) λmS hr k=>Lv.J? x (le.trans mS) hx a Ä (by exact à q2) hr k
end
section
variable{n:Ç}
theorem Zr(X:N7 RX TT.A_ n)(Lv:Pp RX)(hC:D3 RX TT.A_ C n)(H:Ao cx TT.A_ (n+1) W env C? A0)(a:Wh cx A mJ n)(r:RR cx W s t)(F:GM cx.B fa f)(ok:KJ f.params f.body f.scope=Å)(hv:mR W l ws)(h:AZ RX cx W (C7 TT.A_ C f [] l s) VR (λw t=>R (.ok<|.ret w) t) λe t=>R (.error e) t):ň cx.M A (.call (.ref fa) ⟨ws,[]⟩) R t:=by
 x_go;obtain⟨fo,name,qual,params,dV,kV,doc,pm,cdv,ct,an,f1,f2,f3,f4,f5⟩:=F;have up:∀b o,cx.B.base.get? b=À o->t.heap.get? b=À o:=by x_go;obtain⟨h₀,led,m,x⟩:=r;exact zk<|λb o e=>x.F.keep _ _<|x.G.stays _ _ e
 exact zk<|Zp X Lv @hC H a r (f5 W t l ws up hv) ok (up _ _ f1) f2 (f3.keeps up) f4 h
theorem Wh.qK(H:Ao cx A_ (n+1) W env C? A):D4 (λmJ=>Wh cx A mJ n) (λmJ=>A.depth+20*n+40<recursionLimit) λmJ=>A.units+100*n+300<cLine:=by x_go;obtain⟨mJ,h1,h2,h3⟩:=H.a.fr;have d:=H.a.depth;have u:=H.a.units;exact zk<|⟨mJ,⟨H.a.hh,h1,h2,h3,gn d<|by decide,gn u<|by decide⟩,gn d<|by decide,gn u<|by decide⟩
theorem IO(A:ĕ)(c:Û)(ws:Á PV):(A.under<|.builtin "type.__call__" ⟨.ref c::ws,[]⟩).handled=A.handled/\(A.under<|.builtin "type.__call__" ⟨.ref c::ws,[]⟩).frames=A.frames/\(A.under<|.builtin "type.__call__" ⟨.ref c::ws,[]⟩).depth<=A.depth+2/\(A.under<|.builtin "type.__call__" ⟨.ref c::ws,[]⟩).units<=A.units+10:=by
 refine⟨Ä,?_,?_,?_⟩;.rfl
 .have e:(Code.builtin "type.__call__" ⟨.ref c::ws,[]⟩).weight=1:=by rfl
  exact Ď (e▸by decide) A.depth
 .have e:(Code.builtin "type.__call__" ⟨.ref c::ws,[]⟩).cUnits=1:=by rfl
  exact Ď (e▸by decide) A.units
theorem dE(X:N7 RX TT.A_ n)(Lv:Pp RX)(hC:D3 RX TT.A_ C n)(H:Ao cx TT.A_ (n+1) W env C? A)(r:RR cx W s t){x:Ï}(hx:Ka x=Å)(hc:cx.B.cls x=À c)(hv:mR W l ws)(hf:TT.ml x "__init__"=À f)(h:AZ RX cx W ((s.alloc<|.inst x []).bind λo s=>(C7 TT.A_ C f [] (o::l) s).bind λr s=>match r with|.none=>.ok o s|_=>.C_) VR Q E):wpAny cx.M A (call (.ref c) ws []) Q E t:=by
 x_go;obtain⟨hm,fI,hi,vx,hF⟩:=H.G.cls.rn x c hx hc;obtain⟨h₀,led,m,y⟩:=r;refine zk<|call_cls y.F (H.G.X.keeps y.G.stays) y.N hm hi vx λxa dx h' F' N' w7 rC=>?_;have hn:=y.R.oF<|BX.m6 (.inst x []) s.nx;have le:=Wd.nX (W:=W) (x:=xa) (d:=dx) hn;have xt:∀p∈led,p.1<xa:=λp hp=>Ņ (w7 p hp) rC;have nO:xa≠dx:=ŝ rC;have fr:∀y',cx.B.base.get? y'=È\/∃o,cx.B.base.get? y'=À o:=λy'=>by cases cx.B.base.get? y';exact .inl Ä;exact .inr ⟨_,Ä⟩
 have fb:∀q∈(xa,instObj c dx)::(dx,Ĵ [] 0)::led,cx.B.base.get? q.1=È:=λq hq=>by
  generalize e:cx.B.base.get? q.1=zc;rcases zc with _|o;.rfl
  .have:=y.G.stays _ _ e;rw[(N' q hq).2.2]at this;exact AY this
 have nx:xa∉led.map (·.1):=Dm xt;have nd:dx∉led.map (·.1):=Dm w7;have pI:De cx.B (W.nq (.inst x s.nx) xa dx) ((xa,instObj c dx)::(dx,Ĵ [] 0)::led) (.inst x s.nx) (.inst x []):=by
  refine⟨c,[],0,hc,?_,?_,.nil,Ŏ,λq hq=>â hq ã⟩;.exact AA Wd.mi<|AA Wd.nA<|.head _
  .exact AA Wd.nA<|.tail _<|.head _
 have R':=y.R.qm (c:=.inst x []) (x:=xa) (d:=dx) (F!:=(xa,instObj c dx)::(dx,Ĵ [] 0)::led) (by
   refine Um ⟨λhm=>?_,Um ⟨nd,y.R.nd⟩⟩;rcases Bt hm with e|e;.exact nO e
   .exact nx e) (λp hp=>.tail _<|.tail _ hp) (λq hq Z=>by x_go;obtain⟨p,hp,rfl⟩:=MD hq;exact zk<|fb p hp) nx nd (.head _) (.tail _<|.head _) pI;have r1:RR cx (W.nq (.inst x s.nx) xa dx) {s with h:=Dj s.h (.inst x s.nx)<|.inst x [],nx:=s.nx+1} {t with heap:=h'}:=⟨h₀,_,m,⟨F',N',y.G,R',Fm.C! (l:=s.A!) le (λp hp=>.tail _<|.tail _ hp) y.A!,λp hp=>⟨.tail _<|.tail _ (y.D? p hp).1,(y.D? p hp).2.C! le⟩,y.rest.1,y.rest.2.1,Pq.alloc y.R hn y.rest.2.2⟩⟩;x_go;obtain⟨mJ,a,hd,hu⟩:=Wh.qK H;obtain⟨u1,u2,u3,u4⟩:=IO A c ws;have a':Wh cx (A.under<|.builtin "type.__call__" ⟨.ref c::ws,[]⟩) mJ n:=⟨u1.trans a.hh,u2.trans a.fr,a.fl,a.fk,kU u3 hd<|by decide,kU u4 hu<|by decide⟩;have xB:VR (W.nq (.inst x s.nx) xa dx) (.ref<|.inst x s.nx) (.ref xa):=by have:=VR.ref (W:=W.nq (.inst x s.nx) xa dx) (.inst x s.nx) Wd.oQ;rw[Wd.mi]at this;exact this
 refine zk<|Zr X Lv @hC (H.C! le) a' r1 (hF f hf) (IC hf) (l:=.ref (.inst x s.nx)::l) (ws:=.ref xa::ws) (.cons xB<|hv.C! le) ?_;have h2:AZ RX cx W ((C7 TT.A_ C f [] (.ref (.inst x s.nx)::l) {s with h:=Dj s.h (.inst x s.nx)<|.inst x [],nx:=s.nx+1}).bind λr s'=>match r with|.none=>AN.ok (.ref<|.inst x s.nx) s'|_=>.C_) VR Q E:=h;refine(AZ.le RX le h2).step RX λv s2 W2 w t2 Z mS r2 rF h3=>?_;cases v<;>try exact h3.elim
 obtain⟨⟩:=rF;exact⟨Ä,h3.ok RX r2 (by have:=xB.C! mS;exact this)⟩
theorem Nm:D3 RX TT.A_ (AK TT 0) n:=by intro cx W s t env C? A tg f l ws Q E H r ht hv h;exact(show AZ RX cx W AN.C_ VR Q E from h).elim
theorem Nn(X:N7 RX TT.A_ n)(Lv:Pp RX)(hC:D3 RX TT.A_ (AK TT n) n):D3 RX TT.A_ (AK TT<|n+1) (n+1):=by intro cx W s t env C? A tg f l ws Q E H r ht hv h;x_go;obtain⟨mJ,a,hd,hu⟩:=Wh.qK H;refine zk ?_;induction ht with|fn x fa hx hg=>exact Ge (o:=TT.fn x) h λfn q h=>ř<|Zr X Lv @hC H a r (H.G.cls.l! x fn fa hx q hg) (ZA q) hv h|cls x c hx hg hc=>exact Ge (o:=TT.ml x "__init__") h λfn q h=>dE X Lv @hC H r hx hc hv q h|ml c fa hc yb=>refine Ge (o:=TT.ml "Tasking" "next_number") (f:=λf=>C7 TT.A_ (AK TT n) f [] l s) h λfn q h=>?_;obtain⟨C',f',g1,g2,g3,g4,g5⟩:=H.G.cls.pP;rw[hc]at g1;obtain rfl:=Ak g1;rw[yb]at g2;obtain⟨⟩:=g2;exact ř<|Zr X Lv @hC H a r (g5 fn q) (IC q) hv h|mo b qz=>
  refine Ge (o:=s.h b) h λc hb h=>?_;rcases c with⟨c,fs⟩|l|l|v|⟨ps,bd,sc,cl⟩;iterate 4 exact h.elim
  refine Ae (P:=λy=>AZ RX cx W y VR Q E) h (λpz h=>?_) λZ h=>h.elim;obtain⟨h₀,led,m,y⟩:=id r;obtain⟨o,name,qual,args,kV,doc,pm,an,cdv,ct,rl,h1,h2,h3,h4,h5⟩:=y.R.cells _ _ hb;obtain⟨c',oc,vs,tt,rfl,g2,g3,g4⟩:=h5;unfold Gh at pz;have k1:=Internal.cl pz;have nd:ps.Nodup:=by unfold KJ at k1;exact Ù<|cr<|Internal.cl<|Internal.cl k1
  refine ř<|Zo X Lv @hC H a r (f:=⟨ps,[],bd,sc⟩) (Nr (f:=⟨ps,[],bd,sc⟩) Ä h2 nd hv) k1 (y.N _ h1).1 h3 ⟨c',oc,vs,tt,Ä,(y.N _<|y.R.tab.code c' oc g2).1,g3,g4⟩ h4 (λx hx e=>?_) h;have:=Hp (cr pz) x hx;replace this:=e▸this;exact CN this
theorem bT(X:∀n,N7 RX TT.A_ n)(Lv:Pp RX)(n:Ç):D3 RX TT.A_ (AK TT n) n:=by induction n with|zero=>exact Nm|succ n ih=>exact Nn (X n) Lv @ih
end
end Mine.Internal
end
section
open PySem PySem.W PyProof.Rows PySem.Calls PyProof.V
namespace Mine.Internal
section
theorem On{K:Ĭ}(hk:ktsIn K C "BaseException"=Å)(hh:A.handled=È)(h:wpAny M A x (λv nE=>Ku (λe t dx=>v=.ref e) (λe t dx=>K.In nE.heap) (λe t dx=>nE.heap.get? e=À {Av C t with dict:=À dx}) λe t dx=>E (.ref e) nE) E s):wpAny M A (raiseStmt env (À x) È) Q E s:=by
 unfold raiseStmt;refine É<|ö h (λv nE mU=>?_) λZ Z x=>x;x_go;obtain⟨e,t,dx,rfl,X,he,hE⟩:=mU;obtain⟨nm,q',N',bs,bm,oM,sn,sub,ab,col,dd,k0,k1,k2,k3,k5,newId,hC,ny,rM⟩:=QX X hk;have uJ:(ă C::bm).contains (.type "BaseException")=Å:=by exact AA Ć<|AA ny<|AA (ś ..) Ä
 obtain⟨hp,g,d,tk,os⟩:=nE;refine zk ?_;repeat(first|with_reducible refine ď he ?_|with_reducible refine ď hC ?_|(with_reducible refine ĭ hC ?_;refine AA uJ ?_)|wp_step)
 exact wpAny_raiseNew_none hh hE
end
section
variable{k:Ç}
theorem Rb{a:Ó}{h:ç}{g:ī GenState}{d:Drawn}{t:Ç}{o:OsState}(h1:a.gens=g)(h2:a.drawn=d)(h3:a.os=o):a={(⟨h,g,d,t,o⟩:Ó)with heap:=a.heap,toks:=a.toks}:=by subst h1 h2 h3;rfl
theorem Sk{C e t1 dx:Û}{es:Á Ğ}{n:Ç}{h₀ h2:ç}{led:Em}{m:Ï->Ã PV}{v:V}{wv:PV}{mJ:Ů}(y:BW cx W s t h₀ led m)(ff:mJ.frame=À cx.L)(fk:mJ.scope.kind=.function)(hC:cx.mg "Deadlock"=À (.ref C))(F:Fr h₀ cx.L h2 m) (N:ĵ h₀ cx.L h2<|(dx,Ĵ es n)::(e,{Av C t1 with dict:=À dx})::led) (ht:getL "tasks" es=À (À wv)) (hd:∀p∈(e,Av C t1)::led,p.1≠dx) (he:∀p∈led,p.1≠e) (hv:VR W v wv) (tk:Ç):TR cx W s v (.ref e) {t with heap:=h2,toks:=tk}:=by
 have Ne:=N _<|.tail _<|.head _;have Nd:=N _<|.head _;have Nl:ĵ h₀ cx.L h2 led:=λp hp=>N p<|.tail _<|.tail _ hp;have fr:=y.G.B.frames.of_keeps λb o q Z=>⟨o,F.keep b o q,Ä⟩;have hL:=kts_self F;have fin:∀b o,h₀.get? b=À o->b∉e::(mJ::cx.outer).filterMap (·.frame)\/b∈cx.outer.filterMap (·.frame):=λb o hb=>by
  by_cases q:b∈cx.outer.filterMap (·.frame);.exact .inr q
  .refine .inl λhm=>?_;rcases Bt hm with q1|q1;.rw[q1,Ne.2.2]at hb;exact AY hb
   .x_go;obtain⟨fe,uE,qb⟩:=Á.mem_filterMap.mp q1;refine zk ?_;rcases Bt uE with q2|q2;.subst q2;rw[ff]at qb;cases qb;rw[hL]at hb;exact AY hb
    .exact q<|cM ⟨fe,q2,qb⟩
 have out:∀b,h₀.get? b=È->b≠cx.L->b≠e->b∉e::(mJ::cx.outer).filterMap (·.frame):=λb h1 h2 h3 hm=>by
  rcases Bt hm with q1|q1;.exact h3 q1
  .x_go;obtain⟨fe,uE,qb⟩:=Á.mem_filterMap.mp q1;refine zk ?_;rcases Bt uE with q2|q2;.subst q2;rw[ff]at qb;obtain rfl:=Ak qb;exact h2 Ä
   .x_go;obtain⟨_,o,ho,_⟩:=y.G.B.frames.mem<|cM ⟨fe,q2,qb⟩;rw[h1]at ho;exact AY ho
 refine⟨e,C,dx,È,mJ,hideAll h2 (e::(mJ::cx.outer).filterMap (·.frame)),h₀,led,m,h2,es,n,wv,Ä,⟨⟨F,Nl,y.G,y.R,y.A!,y.D?,y.rest⟩,ff,fk,⟨λb o q=>of_hideAll _ q,hideAll_none _<|.head _,⟨(λq=>by rw[fk]at q;cases q),?_,?_⟩,⟨_,_,Ne.1,Ä,Ä,Ä,Ä⟩⟩,.inl Ä,λp hp=>hideAll_get _ (Nl p hp).1<|out _ (Nl p hp).2.2 (Nl p hp).2.1<|he p hp,λb o hb hn=>hideAll_get _ (F.keep b o hb)<|(fin b o hb).resolve_right hn,.refl _,hC,hideAll_get _ Nd.1<|out _ Nd.2.2 Nd.2.1 λq=>hd (e,Av C t1) (.head _) q.symm,ht,hv⟩⟩;.x_go;obtain⟨oL,rP,ep,h1,wI,_⟩:=F.ns;exact zk<|⟨cx.L,oL,ff,hideAll_none _<|.tail _<|cM ⟨mJ,.head _,ff⟩,h1,λvs q=>by rw[wI]at q;cases q⟩
 .exact funFrames_hide fr λm8 uF a ha=>.tail _<|cM ⟨m8,.tail _ uF,ha⟩
theorem Sh(H:Ao cx A_ k W env C? A)(nR:cx.cmp=È)(r:RR cx W s t)(hk:env.kind "Deadlock"=À .globalImplicit)(hn:noStar a=Å)(h:wpAny cx.M A (eval a C?) (λw t'=>Ku (λW' s' v=>W.Le W') (λW' s' v=>RR cx W' s' t') (λW' s' v=>VR W' v w) λW' s' v=>∀e nt,TR cx W' s' v e nt->E e nt) E t):wpAny cx.M A (exec (.Raise (À<|.Call (.Name "Deadlock" np) [a] [] cp) È pos) C?) Q E t:=by
 x_go;obtain⟨C,hC,⟨D,X,uA,⟨fI,fd,i1,i2,i3,i4⟩,⟨Ca,fA,qe,a1,a2,a3,a4,a5,a6,a7,a8⟩⟩⟩:=H.G.cls.R!;have AF:gU cx qe:=⟨Ca,fA,a1,a2,a3,a4,a5,a6,a7,a8,H.blt ("Exception",.type "Exception")<|by decide⟩;refine zk<|AA (arm_exec_Raise ..)<|É<|ĩ ?_;show wpAny _ _ (raiseStmt C? (À<|do let v<-eval (.Call (.Name "Deadlock" np) [a] [] cp) C?;standAt pos;pure v) È) _ _ _;refine On D.xA H.a.hh<|É<|ö (Q:=λv nE=>Ku (λe t dx=>v=.ref e) (λe t dx=>cx.K.In nE.heap) (λe t dx=>nE.heap.get? e=À {Av C t with dict:=À dx}) λe t dx=>E (.ref e) nE) ?_ (λv s1 h1=>É<|ĩ<|Ô h1) λZ Z x=>x;refine wpAny_Call_NameR<|Gs H r hC hk (by decide) ?_;have tI:[a].all noStar=Å:=by simp[hn]
 refine callWith_of (P:=cx.K.In) (by exact AA (D6 tI).1 Ä) (keeps_K uA) ?_;have e1:Ļ [a] C?=[(Æ,eval a C?)]:=Cs hn;refine AA e1<|evalArgs_plain<|ψ<|ö h (λw t1 h1=>spliced_nil ?_) λZ Z x=>x;x_go;obtain⟨W',s',v,le,r1,hv,hE⟩:=h1;refine zk<|⟨r1.uf<|H.C! le,?_⟩;x_go;obtain⟨h₀,led,m,y⟩:=r1;obtain⟨mJ,f1,f2,f3⟩:=H.a.fr;have xT:=H.a.depth;obtain⟨u1,u2,u3,u4⟩:=IO A C [w];have wG:=(H.G.X.keeps y.G.stays).keeps y.F.keep;obtain⟨hp,gg,dd,tk,oo⟩:=t1;refine zk<|YT wG X.kE X.new i1 i2 (by refine AA Ĳ ?_;simp) ?_;have Ft:=(y.F.push<|BB [w]).push<|Av C hp.objs.size;have Nt:=(y.N.push y.F<|BB [w]).push (y.F.push _)<|Av C hp.objs.size;rw[ç.size_push]at Nt;have lt:∀p∈led,p.1<hp.objs.size:=λp nF=>ï (y.N p nF).1;have Rw:Pn cx (A.under<|.builtin "type.__call__" ⟨.ref C::[w],[]⟩) mJ cx.outer cx.A₀ h₀ cx.L ⟨(hp.push<|BB [w]).push<|Av C hp.objs.size,gg,dd,tk,oo⟩ m ((hp.objs.size+1,Av C hp.objs.size)::led):=⟨y.G.B,Ft,λp nF=>(Bt nF).elim (λq=>AA q<|Nt _<|.head _) λq=>Nt p<|.tail _<|.tail _ q,u2.trans f1,f2,f3,u1.trans H.a.hh⟩;have he:∀p∈led,p.1≠hp.objs.size+1:=λp nF=>Č<|Ĺ<|lt p nF;refine MV H.G.T.nolimit Rw (Ò u3<|dq xT<|by decide) i3 (ws:=[.ref<|hp.objs.size+1,w]) (by exact AA i4.1 Ä) λm8 A' L' g' s2 wg nP wH oI=>?_;refine ö (Sn H.G X AF i4 wg wH (AA nP<|Ò (ú u3) (dq (z:=3) xT<|by decide)) (by exact AA i4.1 Ä) (by exact AA i4.1 Ä) he) (λfl s3 hx=>?_) λZ Z x=>x;x_go;obtain⟨qD,dx,t1,es,n,F3,N3,ht,oU,sf⟩:=hx;refine zk<|⟨qD,_,_,F3,N3,λF4 N4=>⟨Ä,?_⟩⟩;have hs:s3={(⟨hp,gg,dd,tk,oo⟩:Ó)with heap:=s3.heap,toks:=s3.toks}:=Rb (sf.1.trans oI.1) (sf.2.1.trans oI.2.1)<|sf.2.2.trans oI.2.2;refine⟨hp.objs.size+1,t1,dx,Ä,(H.G.X.keeps y.G.stays).keeps F4.keep,(N4 _<|.tail _<|.head _).1,hE _ _ ?_⟩;exact AA hs<|Sk y f2 f3 hC F4 N4 ht oU he hv _
end
theorem dF{k:Ç}:N7 TR A_ k:=⟨λH nR x h=>Si H nR x h,λH nR r hk hn h=>Sh H nR r hk hn h,λH nR r hk rI tz nO h=>YM H nR r hk rI tz nO h⟩
theorem ja(n:Ç):D3 TR TT.A_ (AK TT n) n:=bT (λn=>dF) i5 n
end Mine.Internal
end
section
open PySem
namespace Mine.Internal
inductive T where|ret (v:V)|C_|rd (a:Ad) (k:BX->T)|wr (a:Ad) (c:BX) (v:V)|nw (c:BX)|sx (a:Ad) (b:Ë) (k:T)|ne (a b:Ad) (k:T)|ask (b:Ë) (k:Ë->T)|opt (x:Ã V)|sA (l m:Á V)|gl (k:(Ï->Ã V)->T)|sl (f:Ï->Ã V)
def ig(o:Ã BX)(f:BX->AN V):AN V:=match o with|À c=>f c|È=>.C_
open Classical in
def T.run:T->S->AN V|.ret v,s=>.ok v s|.C_,_=>.C_|.rd a k,s=>ig (s.h a) λc=>(k c).run s|.wr a c v,s=>.ok v<|s.B_ a c|.nw c,s=>s.alloc c|.sx a b k,s=>if Ê (a∈s.lk)=b then k.run s else .C_|.ne a b k,s=>if a=b then .C_ else k.run s|.ask b k,s=>(k b).run s|.opt x,s=>C8 x s|.sA l m,s=>if l=m then .ok .none s else .C_|.gl k,s=>(k s.A!).run s|.sl f,s=>.ok .none {s with A!:=f}
def oT(x:Ã V):T:=.opt x
def jb(x:Ã Ë):T:=match x with|À b=>.ret<|.bool b|È=>.C_
def iT(b:Ë)(k:T):T:=.ask b λr=>match r with|Å=>k|Æ=>.C_
def Qz(env:BJ)(x:Ï):T:=match env.cells.lookup x with
 |À a=>.rd a λc=>match c with|.cell v=>oT v|_=>.C_
 |È=>.C_
def i7(A_:Ï->Ã V)(env:BJ)(x:Ï):T:=match env.kind x with
 |À k=>match k with|.local=>.gl λl=>oT<|l x|.cell=>Qz env x|.free=>Qz env x|.globalImplicit=>oT<|A_ x|_=>.C_
 |È=>.C_
def hV(env:BJ)(x:Ï)(v:V):T:=match env.kind x with
 |À k=>match k with
  |.local=>.gl λl=>.sl<|AD l x v|.cell=>match env.cells.lookup x with
   |À a=>.rd a λc=>match c with|.cell _=>.wr a (.cell<|À v) .none|_=>.C_
   |È=>.C_
  |_=>.C_
 |È=>.C_
def Zd(v:V)(f:Ë->Ë):T:=match v with
 |.none=>.ret<|.bool<|f Æ|.bool b=>.ret<|.bool<|f b|.int i=>.ret<|.bool<|f<|Ê<|i≠0|.D! l=>.ret<|.bool<|f<|!l.isEmpty|.ref a=>.rd a λc=>match c with|.list l=>.ret<|.bool<|f<|!l.isEmpty|_=>.C_
 |_=>.C_
def kS(v:V)(n:Ï):T:=match v with
 |.ref a=>.rd a λc=>match c with|.inst _ fs=>oT<|FJ fs n|_=>.C_
 |_=>.C_
def kC(v:V)(n:Ï)(x:V):T:=match v with
 |.ref a=>.rd a λc=>match c with|.inst c fs=>.wr a (.inst c<|GZ fs n x) .none|_=>.C_
 |_=>.C_
def EE(k:V)(f:Í->T):T:=match k with|.int i=>f i|_=>.C_
def kR(v i:V):T:=match v with
 |.D! l=>EE i λk=>oT<|BC l k|.fl l=>EE i λk=>oT<|BC l k|.ref a=>.rd a λc=>match c with
  |.list l=>EE i λk=>oT<|BC l k|.dict l=>match AW i l with|À x=>oT x|È=>.C_
  |_=>.C_
 |_=>.C_
def kB(v i x:V):T:=match v with
 |.ref a=>.rd a λc=>match c with
  |.list l=>EE i λk=>match MS l k x with|À l'=>.wr a (.list l') .none|È=>.C_
  |.dict l=>iT (Ê<|l.length<G_)<|.sx a Æ<|match CF i x l with|À l'=>.wr a (.dict l') .none|È=>.C_
  |_=>.C_
 |_=>.C_
def eu(op:Į)(x y:Í):T:=match op with|.Add=>.ret<|.int<|x+y|.Sub=>.ret<|.int<|x-y|.Mult=>iT (Ê<|Ap x/\Ap y)<|.ret<|.int<|x*y|.FloorDiv=>iT (Ê<|0<y/\Ap x/\Ap y)<|.ret<|.int<|Í.fdiv x y|.Mod=>iT (Ê<|0<y)<|.ret<|.int<|Ł x y|_=>.C_
def Jg(a:Ad)(f:Á V->T):T:=.rd a λc=>match c with|.list l=>f l|_=>.C_
def f8(op:Į)(a b:V):T:=match a with
 |.int x=>EE b λy=>eu op x y|.ref x=>match b with
  |.ref y=>match op with|.Add=>Jg x λl=>Jg y λr=>iT (Ê<|l.length+r.length<G_)<|.nw<|.list<|l++r|_=>.C_
  |_=>.C_
 |_=>.C_
def ey(op:Į)(a b:V):T:=match a with|.int x=>EE b λy=>oT<|ez op x y|_=>.C_
def j8(op:UnaryOp)(a:V):T:=match op with|.Not=>Zd a (!·)|.USub=>EE a λi=>.ret<|.int<|-i|_=>.C_
def fB(f:Ë->Ë)(x:Ã Ë):T:=jb<|x.map f
def jO(f:Ë->Ë)(a b:V):T:=match a with
 |.ref x=>match b with
  |.ref y=>Jg x λl=>Jg y λr=>.ask (Ê<|l.length=r.length) λq=>match q with|Å=>fB f<|R6 Ŕ (HL (Kz 8) l)<|HL (Kz 8) r|Æ=>fB f<|À Æ
  |_=>.C_
 |a=>fB f<|R6 û (Kz 9 a)<|Kz 9 b
def jI(f:Ë->Ë)(a b:V):T:=match b with|.ref y=>.rd y λc=>(match c with|.list l=>fB f<|PK a l|.dict l=>fB f ((AW a l).map (·.isSome))|_=>.C_)|_=>.C_
def fu(op:CmpOp)(a b:V):T:=match op with
 |.Eq=>jO id a b|.NotEq=>jO (!·) a b|.Is=>match b with|.none=>.ret<|.bool a.isNone|_=>.C_
 |.IsNot=>match b with|.none=>.ret<|.bool<|!a.isNone|_=>.C_
 |.In=>jI id a b|.NotIn=>jI (!·) a b|op=>match a with|.int x=>EE b λy=>jb<|Su op x y|_=>.C_
def gH(a:Ad)(l args:Á V):T:=match args with|[v]=>iT (Ê<|l.length<G_)<|.wr a (.list<|l++[v]) .none|_=>.C_
def Zz(a:Ad)(l args:Á V):T:=match args with
 |[]=>match l.getLast? with|À v=>.wr a (.list l.dropLast) v|È=>.C_
 |[.int k]=>iT (Ê<|k=0)<|match l with|v::r=>.wr a (.list r) v|[]=>.C_
 |_=>.C_
def fU(a:Ad)(l args:Á V):T:=match args with|[.ref b]=>Jg b λr=>iT (Ê<|l.length+r.length<G_)<|.ne b a<|.wr a (.list<|l++r) .none|_=>.C_
def kH(m:Ï)(as:Á V):T:=match as with|.ref a::args=>Jg a λl=>if m="append"then gH a l args else if m="pop"then Zz a l args else if m="extend"then fU a l args else .C_|_=>.C_
def jQ(a:Ad)(l:Á<|V×V)(o:Ã Ï):T:=match o with
 |À x=>match AW (.D! [.str x,.none]) l with
  |À o=>match o with
   |À v=>match B7 (.D! [.str x,.none]) l with|À l'=>.sx a Æ<|.wr a (.dict l') v|È=>.C_
   |È=>.C_
  |È=>.C_
 |È=>.C_
def kX(m:Ï)(as:Á V):T:=match as with
 |.ref a::args=>.rd a λc=>match c with|.dict l=>if m="get"then match args with
    |[k,d]=>match AW k l with|À o=>.ret<|o.getD d|È=>.C_
    |_=>.C_ else if m="pop"then match args with|[kv,_]=>jQ a l<|DA kv|_=>.C_ else if m="clear"then match args with|[]=>(match l with|[]=>.sx a Æ<|.ret .none|_=>.C_)|_=>.C_ else .C_|_=>.C_
 |_=>.C_
def eY(m:Ï)(v:V):T:=match v with
 |.ref a=>.rd a λc=>match c with
  |.inst c fs=>match FJ fs m with|À (.ref b)=>.ret<|.ref b|À _=>.C_|È=>if c="Tasking"/\m="next_number"then .ret .none else .C_
  |.list _=>if Gn m then .ret (.bool Å)else .C_|.dict _=>if Go m then .ret (.bool Æ)else .C_|_=>.C_
 |_=>.C_
def eg(v:V):T:=match v with
 |.ref a=>.rd a λc=>match c with|.mo ..=>.ret v|_=>.C_
 |_=>.C_
def ZE(v:V):T:=match v with|.D! l=>.ret<|.D! l|.ref a=>.rd a λc=>(match c with|.list l=>.ret<|.D! l|.dict l=>(if l.all λp=>I7 p.1then .ret (.D! (l.map (·.1)))else .C_)|_=>.C_)|_=>.C_
def G0(c:BX):Ã (Á Í):=match c with|.list l=>B1 l|.dict l=>B1 (l.map (·.1))|_=>È
def f7(x:Ï)(as:Á V):T:=match as with|[v]=>if x="len"then match v with|.fl l=>.ret<|.int l.length|.ref a=>Jg a λl=>.ret<|.int l.length|_=>.C_ else if x="sorted"then match v with
   |.ref a=>.rd a λc=>match G0 c with|À is=>iT (Ê<|is.length<64/\∀i∈is,Ap i)<|.nw<|.list<|(Bw is).map .int|È=>.C_
   |_=>.C_ else if x="list"then match v with|.ref a=>Jg a λl=>.nw<|.list l|_=>.C_ else .C_|[a,b]=>EE a λa=>EE b λb=>if x="max"then .ret (.int<|if a<b then b else a)else if x="min"then .ret (.int<|if b<a then b else a)else .C_|_=>.C_
def iB(o k:V):T:=match o with|.fl l=>EE k λk=>iT (Ê<|0<=k)<|.nw<|.list<|l.drop k.toNat|_=>.C_
def Y4(v l:V):T:=match l with|.D! m=>(match v with|.D! k=>.sA k m|.ref a=>.rd a λc=>(match c with|.list k=>.sA k m|.dict k=>.sx a Å (.sA (k.map (·.1)) m)|_=>.C_)|_=>.C_)|_=>.C_
def di(v:V):T:=match v with|.D! _=>.ret .none|.ref a=>Jg a λZ=>.ret .none|_=>.C_
def t1(as:Á V)(f:V->T):T:=match as with|[x]=>f x|_=>.C_
def t2(as:Á V)(f:V->V->T):T:=match as with|[x,y]=>f x y|_=>.C_
def t3(as:Á V)(f:V->V->V->T):T:=match as with|[x,y,z]=>f x y z|_=>.C_
def Hh(A_:Ï->Ã V)(o:Op)(as:Á V):T:=match o with
 |.ld env x=>i7 A_ env x|.st env x=>t1 as<|hV env x|.sF=>t1 as λv=>Zd v id|.get n=>t1 as λv=>kS v n|.set n=>t2 as λo v=>kC o n v|.item=>t2 as kR|.oy=>t3 as kB|.g! op=>t2 as<|f8 op|.sW op=>t2 as<|ey op|.un op=>t1 as<|j8 op|.cmp op=>t2 as<|fu op|.d_=>.nw<|.list as|.G_=>t1 as λv=>match v with|.D! l=>iT (Ê<|l.length<G_)<|.nw<|.list l|_=>.C_
 |.sC ks=>.nw<|.dict<|(ks.map V.str).zip as|.rg=>t2 as iB|.blt x=>f7 x as|.knd m=>t1 as<|eY m|.lm m=>kH m as|.dm m=>kX m as|.uw=>t1 as eg|.iter=>t1 as ZE|.tQ=>t1 as λv=>EE v λn=>iT (Ê<|0<=n/\n<=1000)<|.ret<|.D!<|(ê n.toNat).map λi=>.int<|Ý i|.same=>t2 as Y4|.ui=>t1 as di|.mo ps b sc cl=>.nw<|.mo ps b sc cl
def Bk{α:Type}(x y:AN α):Prop:=x=.C_\/x=y
namespace Bk
theorem C_:Bk (.C_:AN V) y:=.inl Ä
theorem refl:Bk x x:=.inr Ä
theorem of(e:x=y):Bk x y:=.inr e
end Bk
variable{s:S}
theorem DT(h:∀c,s.h a=À c->Bk ((k c).run s) y):Bk ((T.rd a k).run s) y:=by
 show Bk (ig (s.h a) λc=>(k c).run s) y;generalize e:s.h a=zc;rcases zc with _|c;.exact .C_
 .exact h c e
theorem EZ(h:∀l,s.h a=À (.list l)->Bk ((k l).run s) y):Bk ((Jg a k).run s) y:=DT λc e=>by induction c with|list l=>exact h l e|_=>exact .C_
theorem Mi(x:Ã V):Bk ((oT x).run s) (C8 x s):=.refl
theorem f6(x:Ã Ë):Bk ((jb x).run s) (EO x s):=by induction x using ŵ<;>exact .refl
theorem Jn{c:Prop}[ğ c](h:c->Bk (k.run s) y):Bk ((iT (Ê c) k).run s) y:=by
 by_cases e:c;.exact AA (Ü e)<|h e
 .exact AA (ā e)<|.C_
theorem Lk{b:Ë}(h:Ê (a∈s.lk)=b->Bk (k.run s) y):Bk ((T.sx a b k).run s) y:=by
 show Bk (if Ê (a∈s.lk)=b then k.run s else .C_) y;by_cases e:Ê (a∈s.lk)=b;.exact AA (Î e)<|h e
 .exact AA (Ì e)<|.C_
theorem PS(h:l=m->Bk (.ok .none s) y):Bk ((T.sA l m).run s) y:=by
 by_cases e:l=m;.exact AA (show(T.sA l m).run s=.ok .none s from Î e)<|h e
 .exact AA (show(T.sA l m).run s=.C_ from Ì e) .C_
theorem Es{f:Í->T}(h:∀k,i=.int k->Bk ((f k).run s) y):Bk ((EE i f).run s) y:=by induction i using Internal.V.casesOn with|int k=>exact h k Ä|_=>exact .C_
theorem Fs(h:∀x,Bk ((f x).run s)<|g x):Bk ((t1 as f).run s) (a1 as g):=by rcases as with _|⟨x,_|⟨y,r⟩⟩<;>first|exact h x|exact .C_
theorem IT(h:∀x z,Bk ((f x z).run s)<|g x z):Bk ((t2 as f).run s) (a2 as g):=by rcases as with _|⟨x,_|⟨y,_|⟨z,r⟩⟩⟩<;>first|exact h x y|exact .C_
theorem cn(h:∀x z u,Bk ((f x z u).run s)<|g x z u):Bk ((t3 as f).run s) (a3 as g):=by rcases as with _|⟨x,_|⟨y,_|⟨z,_|⟨u,r⟩⟩⟩⟩<;>first|exact h x y z|exact .C_
theorem Yi{x:Ï}:Bk ((Qz env x).run s) (C8 (Kq env x s) s):=by
 unfold Qz Kq;rcases env.cells.lookup x with _|a;.exact .C_
 .refine DT λc e=>?_;dsimp only;refine AA e ?_;induction c<;>first|exact .C_|exact Mi _
theorem eP{x:Ï}:Bk ((i7 A_ env x).run s) (loadName A_ env x s):=by
 unfold i7 loadName aQ;rcases env.kind x with _|k;.exact .C_
 .induction k<;>first|exact Mi _|exact Yi|exact .C_
theorem cw{x:Ï}:Bk ((hV env x v).run s) (TH<|Tz env x v s):=by
 unfold hV Tz;rcases env.kind x with _|k;.exact .C_
 .induction k with
  |«local»=>exact .refl|cell=>
   dsimp only;rcases env.cells.lookup x with _|a;.exact .C_
   .refine DT λc e=>?_;dsimp only;refine AA e ?_;induction c<;>first|exact .C_|exact .refl
  |_=>exact .C_
theorem Tk{f:Ë->Ë}:Bk ((Zd v f).run s) (C8 ((truthy v s).map λb=>.bool<|f b) s):=by induction v using Internal.V.casesOn with
 |ref a=>refine DT λc e=>?_;unfold truthy;dsimp only;refine AA e ?_;induction c<;>first|exact .C_|exact .refl
 |_=>first|exact .refl|exact .C_
theorem fM{n:Ï}:Bk ((kS v n).run s) (C8 (fN v n s) s):=by induction v using Internal.V.casesOn with
 |ref a=>refine DT λc e=>?_;unfold fN;dsimp only;refine AA e ?_;induction c<;>first|exact .C_|exact Mi _
 |_=>exact .C_
theorem dD{n:Ï}:Bk ((kC v n x).run s) (TH<|cC v n x s):=by induction v using Internal.V.casesOn with
 |ref a=>refine DT λc e=>?_;unfold cC;dsimp only;refine AA e ?_;induction c<;>first|exact .C_|exact .refl
 |_=>exact .C_
theorem fL:Bk ((kR v i).run s) (C8 (cK v i s) s):=by induction v using Internal.V.casesOn with
 |D! l=>exact Es λk e=>AA e<|Mi _|fl l=>exact Es λk e=>AA e<|Mi _|ref a=>refine DT λc e=>?_;unfold cK;dsimp only;refine AA e ?_;induction c with
  |list l=>exact Es λk e=>AA e<|Mi _|dict l=>
   dsimp only;rcases AW i l with _|x;.exact .C_
   .exact Mi _|_=>exact .C_
 |_=>exact .C_
theorem c9:Bk ((kB v i x).run s) (TH<|cB v i x s):=by induction v using Internal.V.casesOn with
 |ref a=>refine DT λc e=>?_;unfold cB;dsimp only;refine AA e ?_;induction c with
  |list l=>refine Es λk e=>?_;subst e;dsimp only;cases MS l k x<;>first|exact .C_|exact .refl
  |dict l=>refine Jn λh1=>Lk λh2=>?_;dsimp only;refine AA (Î ⟨h1,ĳ h2⟩) ?_;cases CF i x l<;>first|exact .C_|exact .refl
  |_=>exact .C_
 |_=>exact .C_
theorem de{c:Prop}[ğ c](h:c):Bk (.ok v s) (C8 (if c then À v else È) s):=.of<|by exact AA (Î h) Ä
theorem aa{i j:Í}:Bk ((eu op i j).run s) (C8 (VV op i j) s):=by induction op<;>first|exact .refl|exact .C_|exact Jn de
theorem IG(h:s.h a=À (.list l)):s.list a=À l:=by unfold S.list;exact AA h Ä
theorem bW:Bk ((f8 op v w).run s) (Q8 op v w s):=by induction v using Internal.V.casesOn with
 |int x=>exact Es λy e=>by subst e;exact aa|ref x=>induction w using Internal.V.casesOn with
  |ref z=>induction op with|Add=>refine EZ λl e=>EZ λr e2=>Jn λh=>?_;unfold Q8 Yn;dsimp only;exact AA (IG e)<|AA (IG e2)<|.of (Î h).symm|_=>exact .C_
  |_=>exact .C_
 |_=>exact .C_
theorem ag:Bk ((ey op v w).run s) (af op v w s):=by induction v using Internal.V.casesOn with|int x=>exact Es λy e=>by subst e;exact Mi _|_=>exact .C_
theorem cV:Bk ((j8 op v).run s) (C8 (gy op v s) s):=by induction op with|Not=>exact Tk|USub=>exact Es λy e=>by subst e;exact .refl|_=>exact .C_
theorem Qo{f:Ë->Ë}{x:Ã Ë}:Bk ((fB f x).run s) (EO (x.map f) s):=f6 _
theorem ZO{f:Ë->Ë}:Bk ((jO f v w).run s) (EO ((eqv v w s).map f) s):=by induction v using Internal.V.casesOn with
 |ref x=>induction w using Internal.V.casesOn with
  |ref z=>
   refine EZ λl e=>EZ λr e2=>?_;unfold eqv ZP;dsimp only;refine AA (IG e)<|AA (IG e2) ?_;dsimp only;by_cases h:l.length=r.length;.exact AA (Ü h)<|AA (Î h) Qo
   .exact AA (ā h)<|AA (Ì h) Qo|_=>exact .C_
 |_=>exact Qo
theorem ZG{f:Ë->Ë}:Bk ((jI f v w).run s) (EO ((ZH v w s).map f) s):=by induction w using Internal.V.casesOn with
 |ref z=>refine DT λc e=>?_;unfold ZH;dsimp only;refine AA e ?_;induction c<;>first|exact .C_|exact Qo
 |_=>exact .C_
theorem QU(x:Ã Ë):x.map id=x:=by induction x<;>rfl
theorem bP:Bk ((fu op v w).run s) (cmp op v w s):=by induction op with
 |Eq=>have:=ZO (s:=s) (f:=id) (v:=v) (w:=w);rw[QU]at this;exact this|NotEq=>exact ZO|Is=>cases w<;>first|exact .refl|exact .C_
 |IsNot=>cases w<;>first|exact .refl|exact .C_
 |In=>have:=ZG (s:=s) (f:=id) (v:=v) (w:=w);rw[QU]at this;exact this|NotIn=>exact ZG|_=>induction v using Internal.V.casesOn with|int x=>exact Es λy e=>by subst e;exact .refl|_=>exact .C_
theorem dk(h:¬a=b->Bk (k.run s) y):Bk ((T.ne a b k).run s) y:=by
 show Bk (if a=b then .C_ else k.run s) y;by_cases e:a=b;.exact AA (Î e)<|.C_
 .exact AA (Ì e)<|h e
theorem DK{c:Prop}[ğ c]{p q:T}{x z:AN V}(h1:Bk (p.run s) x)(h2:Bk (q.run s) z):Bk ((if c then p else q).run s) (if c then x else z):=by
 by_cases e:c;.exact AA (Î e)<|AA (Î e) h1
 .exact AA (Ì e)<|AA (Ì e) h2
theorem DG{c:Prop}[ğ c](hc:c)(h:Bk y x):Bk y (if c then x else z):=by exact AA (Î hc)<|h
theorem DX{c:Prop}[ğ c](hc:¬c)(h:Bk y z):Bk y (if c then x else z):=by exact AA (Ì hc)<|h
theorem Ux{m:Ï}{l args:Á V}:Bk ((if m="append"then gH a l args else if m="pop"then Zz a l args else if m="extend"then fU a l args else .C_:T).run s) (QV m a l args s):=by
 refine DK ?_<|DK ?_<|DK ?_ .C_;.match args with|[v]=>exact Jn λh=>DG h .refl|[]=>exact .C_|_::_::_=>exact .C_
 .match args with
  |[]=>
   show Bk _<|As l.getLast? _;unfold Zz;dsimp only;rcases l.getLast? with _|v;.exact .C_
   .exact .refl|[v]=>induction v using Internal.V.casesOn with|int k=>exact Jn λh=>DG h<|match l with|_::_=>.refl|[]=>.C_;|_=>exact .C_
  |v::_::_=>cases v<;>exact .C_
 .match args with
  |[]=>exact .C_|[v]=>induction v using Internal.V.casesOn with|ref b=>refine EZ λr e=>?_;show Bk _<|As (s.list b) _;exact AA (show s.list b=À r by unfold S.list;exact AA e Ä)<|Jn λh=>dk λh2=>DX h2<|DG h .refl|_=>exact .C_
  |v::_::_=>cases v<;>exact .C_
theorem eI{m:Ï}:Bk ((kH m as).run s) (eJ m as s):=by
 rcases as with _|⟨v,args⟩;.exact .C_
 induction v using Internal.V.casesOn with|ref a=>refine EZ λl e=>?_;unfold eJ;dsimp only;refine AA e ?_;exact Ux|_=>exact .C_
theorem fj{m:Ï}{as:Á V}:Bk ((kX m as).run s) (fp m as s):=by
 rcases as with _|⟨v,args⟩;.exact .C_
 induction v using Internal.V.casesOn with
 |ref a=>refine DT λc e=>?_;unfold fp;dsimp only;refine AA e ?_;induction c with
  |dict l=>
   refine DK ?_<|DK ?_<|DK ?_ .C_
   .rcases args with _|⟨k,_|⟨d,_|⟨y,r⟩⟩⟩;.exact .C_
    .exact .C_
    .show Bk (T.run (match AW k l with|À o=>.ret<|o.getD d|È=>.C_) s)<|As (AW k l) _;rcases AW k l with _|o;.exact .C_
     .exact .refl
    .exact .C_
   .rcases args with _|⟨kv,_|⟨d,_|⟨y,r⟩⟩⟩;.exact .C_
    .exact .C_
    .show Bk ((jQ a l<|DA kv).run s)<|As (DA kv) _;rcases DA kv with _|x;.exact .C_
     .unfold jQ;show Bk _<|As (AW (.D! [.str x,.none]) l) _;dsimp only;rcases AW (.D! [.str x,.none]) l with _|_|v;.exact .C_
      .exact .C_
      .show Bk _<|As (B7 (.D! [.str x,.none]) l) _;dsimp only;rcases B7 (.D! [.str x,.none]) l with _|l';.exact .C_
       .exact Lk λh=>DG (ĳ h) .refl
    .exact .C_
   .rcases args with _|⟨y,r⟩
    .rcases l with _|⟨y,r⟩;.exact Lk λh=>DG (ĳ h) .refl
     .exact .C_
    .exact .C_|_=>exact .C_
 |_=>exact .C_
theorem aV{m:Ï}{v:V}:Bk ((eY m v).run s) (VC m v s):=by induction v using Internal.V.casesOn with
 |ref a=>refine DT λc e=>?_;unfold VC;dsimp only;refine AA e ?_;induction c with
  |inst c fs=>
   dsimp only;rcases FJ fs m with _|b;.exact DK .refl .C_
   .cases b<;>first|exact .refl|exact .C_
  |list _=>exact DK .refl .C_|dict _=>exact DK .refl .C_|_=>exact .C_
 |_=>exact .C_
theorem aX:Bk ((eg v).run s) (X5 v s):=by induction v using Internal.V.casesOn with
 |ref a=>refine DT λc e=>?_;unfold X5;dsimp only;refine AA e ?_;induction c<;>first|exact .refl|exact .C_
 |_=>exact .C_
theorem X2:Bk ((ZE v).run s) (C8 ((GC v s).map .D!) s):=by induction v using Internal.V.casesOn with
 |D! l=>exact .refl|ref a=>refine DT λc e=>?_;unfold GC;dsimp only;refine AA e ?_;induction c with
  |list l=>exact .refl|dict l=>
   dsimp only;by_cases h:(l.all λp=>I7 p.1)=Å;.exact AA (Î h)<|AA (Î h) .refl
   .exact AA (Ì h) .C_|_=>exact .C_
 |_=>exact .C_
theorem ee{c:Prop}[ğ c](h1:c->Bk (t.run s) y)(h2:¬c->Bk (e.run s) y):Bk ((if c then t else e:T).run s) y:=by
 generalize q:(if c then t else e:T)=z;by_cases h:c;.obtain rfl:=(Î h).symm.trans q;exact h1 h
 .obtain rfl:=(Ì h).symm.trans q;exact h2 h
theorem nx{x a b:Ï}(h:x=a)(e:¬a=b):¬x=b:=AA h e
theorem bV{x:Ï}:Bk ((f7 x as).run s) (builtin x as s):=by
 rcases as with _|⟨v,_|⟨w,_|⟨_,_⟩⟩⟩;.exact .C_
 .refine ee (λh1=>DG h1 ?_) λh1=>ee (λh2=>DX h1<|DX (nx h2<|by decide)<|DX (nx h2<|by decide)<|DG h2 ?_) λh2=>ee (λh3=>DX h1<|DX (nx h3<|by decide)<|DX (nx h3<|by decide)<|DX h2<|DG h3 ?_) λh3=>.C_;.induction v using Internal.V.casesOn with|fl l=>exact .refl|ref a=>refine EZ λl e=>?_;show Bk _<|As (Mz (.ref a) s) _;exact AA (show Mz (.ref a) s=À l.length by unfold Mz;dsimp only;exact AA e Ä) .refl|_=>exact .C_
  .induction v using Internal.V.casesOn with
   |ref a=>
    refine DT λc e=>?_;have:EW (.ref a) s=G0 c:=by unfold EW G0;dsimp only;refine AA e ?_;induction c<;>rfl
    show Bk _<|As (EW (.ref a) s) _;refine AA this ?_;rcases G0 c with _|is;.exact .C_
    .exact Jn λh=>DG h .refl|_=>exact .C_
  .induction v using Internal.V.casesOn with|ref a=>refine EZ λl e=>?_;show Bk _<|As (Mx (.ref a) s) _;exact AA (show Mx (.ref a) s=À l by unfold Mx S.list;dsimp only;exact AA e Ä) .refl|_=>exact .C_
 .refine Es λi e=>Es λj e2=>?_;subst e e2;exact ee (λh1=>DX (nx h1<|by decide)<|DG h1 .refl) λh1=>ee (λh2=>DX (nx h2<|by decide)<|DX h1<|DG h2 .refl) λh2=>.C_
 .exact .C_
theorem XF:Bk ((Y4 v l).run s) (E1 v l s):=by induction l using Internal.V.casesOn with
 |D! m=>have fin:∀{k:Á V},BH v s=À k->k=m->Bk (.ok .none s) (E1 v (.D! m) s):=λh e=>.of (Î<|h.trans<|Â _ e).symm;induction v using Internal.V.casesOn with
  |D! k=>exact PS<|fin Ä|ref a=>refine DT λc e=>?_;unfold BH at fin;dsimp only at fin;rw[e]at fin;induction c with|list k=>exact PS<|fin Ä|dict k=>exact Lk λh=>PS<|fin<|Î<|Ù h|_=>exact .C_
  |_=>exact .C_
 |_=>exact .C_
theorem aE:Bk ((di v).run s) (if BF v s=[]then .ok .none s else .C_):=by induction v using Internal.V.casesOn with|D! _=>exact DG Ä .refl|ref a=>exact EZ λl e=>DG (Â (KP a) e) .refl|_=>exact .C_
theorem XN:Bk ((Hh A_ o as).run s) (QF A_ o as s):=by induction o with|ld env x=>exact eP|st env x=>exact Fs λZ=>cw|sF=>exact Fs λZ=>Tk|get n=>exact Fs λZ=>fM|set n=>exact IT λZ Z=>dD|item=>exact IT λZ Z=>fL|oy=>exact cn λZ Z Z=>c9|g! op=>exact IT λZ Z=>bW|sW op=>exact IT λZ Z=>ag|un op=>exact Fs λZ=>cV|cmp op=>exact IT λZ Z=>bP|d_=>exact .refl|G_=>exact Fs λv=>match v with|.D! l=>Jn λh=>DG h .refl|.none=>.C_|.bool _=>.C_|.str _=>.C_|.int _=>.C_|.ref _=>.C_|.fl _=>.C_;|sC ks=>exact .refl|rg=>exact IT λo k=>match o with|.fl l=>Es λk e=>AA e<|Jn λh=>DG h .refl|.none=>.C_|.bool _=>.C_|.str _=>.C_|.int _=>.C_|.ref _=>.C_|.D! _=>.C_;|blt x=>exact bV|knd m=>exact Fs λZ=>aV|lm m=>exact eI|dm m=>exact fj|uw=>exact Fs λZ=>aX|iter=>exact Fs λZ=>X2|tQ=>exact Fs λv=>Es λk e=>AA e<|Jn λh=>DG h .refl|same=>exact IT λZ Z=>XF|ui=>exact Fs λZ=>aE|mo ps b sc cl=>exact .refl
noncomputable abbrev AC:=Ad×BX
structure LH where
 L:Á AC
 N:Á AC
 nx:Ç
 lk:Á<|Ç×Ad
 A!:Ï->Ã V
inductive X where|a (x:Ad)|l (x:Á V)|b (x:Ë)|o (x:Ã V)
noncomputable abbrev ES:=Á<|X×X
noncomputable abbrev CS:=ES
def Fv{α:Type}:Á α->Ç->Ã α|[],_=>È|a::_,0=>À a|_::r,n+1=>Fv r n
def T'{α:Type}(x:α):Á α->Ç->Á α|[],_=>[]|_::r,0=>x::r|a::r,n+1=>a::T' x r n
def LH.get(H:LH)(d:Ç):Ã AC:=bif é (d%2) 0 then Fv H.L (d/2)else Fv H.N<|d/2
def LH.B_(H:LH)(d:Ç)(p:AC):LH:=bif é (d%2) 0 then{H with L:=T' p H.L<|d/2}else{H with N:=T' p H.N<|d/2}
def LH.new(H:LH)(c:BX):LH:={H with N:=H.N++[(c.ad H.nx,c)],nx:=H.nx+1}
inductive Rv where|ok(v:V)|exc(v:V)
def Rv.out:Rv->S->AN V|.ok v,s=>.ok v s|.exc v,s=>.exc v s
inductive Aa(X:AN V)(v:Rv)(H:S->Prop)(lc:Ï->Ã V):Prop|mk (s:S) (e:X=v.out s) (h:H s) (l:s.A!=lc)
inductive A7(X:AN V)(v:Rv)(H:S->Prop):Prop|mk (s:S) (e:X=v.out s) (h:H s)
inductive Rs where|done (v:Rv) (H:LH) (hs:Ç) (cs:CS) (e:ES)|J_
noncomputable abbrev K:=V->LH->Ç->CS->ES->Rs
def Wl(o:Ã AC)(f:Ad->BX->Rs):Rs:=match o with|À (b,c)=>f b c|È=>.J_
def dZ(b:Ë)(hs:Ç)(cs:CS)(e:ES)(k:Ë->Ç->CS->ES->Rs):Rs:=bif é (hs%128) 127 then match cs with|(y,r)::q=>(match r with|.b r=>k r (hs/128) q<|(.b b,y)::e|_=>.J_)|[]=>.J_ else match b with|Å=>k Å (bif é (hs%128) 125 then hs/128 else hs) cs e|Æ=>k Æ (bif é (hs%128) 125 then hs/128 else hs) cs e
def ie(x:Ã V)(hs:Ç)(cs:CS)(e:ES)(k:V->Ç->CS->ES->Rs):Rs:=bif é (hs%128) 126 then match cs with|(y,r)::q=>(match r with|.o r=>(match r with|À v=>k v (hs/128) q<|(.o x,y)::e|È=>.J_)|_=>.J_)|[]=>.J_ else match x with|À v=>k v (bif é (hs%128) 125 then hs/128 else hs) cs e|È=>.J_
def gb(r:Rs)(f:K):Rs:=match r with
 |.done v H hs cs e=>match v with|.ok v=>f v H hs cs e|.exc v=>.done (.exc v) H hs cs e
 |.J_=>.J_
def au(p:T):LH->Ç->CS->ES->Rs:=T.rec (motive:=λZ=>LH->Ç->CS->ES->Rs) (λv H hs cs e=>.done (.ok v) H hs cs e) (λZ Z Z Z=>.J_) (λa k ih H hs cs e=>Wl (H.get<|hs%128) λb c=>ih c H (hs/128) cs<|(.a a,.a b)::e) (λa c v H hs cs e=>Wl (H.get<|hs%128) λb Z=>.done (.ok v) (H.B_ (hs%128) (b,c)) (hs/128) cs<|(.a a,.a b)::e) (λc H hs cs e=>.done (.ok<|.ref<|c.ad H.nx) (H.new c) hs cs e) (λa b k ih H hs cs e=>Wl (H.get<|hs%128) λx Z=>if(H.lk.any λq=>é q.1<|hs%128)=b then ih H (hs/128) cs ((.a a,.a x)::e)else .J_) (λa b k ih H hs cs e=>Wl (H.get<|hs%128) λx Z=>Wl (H.get<|hs/128%128) λy Z=>if hs%128=hs/128%128 then .J_ else ih H (hs/128/128) cs<|(.a a,.a x)::(.a b,.a y)::e) (λb k ih H hs cs e=>dZ b hs cs e λr hs cs e=>ih r H hs cs e) (λx H hs cs e=>ie x hs cs e λv hs cs e=>.done (.ok v) H hs cs e) (λl m H hs cs e=>.done (.ok .none) H hs cs<|(.l l,.l m)::e) (λk ih H hs cs e=>ih H.A! H hs cs e) (λf H hs cs e=>.done (.ok .none) {H with A!:=f} hs cs e) p
def PT(i:GP)(H:LH)(hs:Ç)(e:ES)(k:LH->Ç->ES->Rs):Rs:=match i with
 |.comp=>k {H with A!:=λZ=>È} hs e|.N? v=>match v with
  |.D! _=>k H hs e|.ref a=>Wl (H.get<|hs%128) λb c=>match c with|.list _=>k H (hs/128)<|(.a a,.a b)::e|.dict _=>k {H with lk:=(hs%128,b)::H.lk} (hs/128)<|(.a a,.a b)::e|_=>.J_
  |_=>.J_
 |_=>k H hs e
def Zw(H:LH):Á (Ç×Ad)->ES->(ES->Rs)->Rs|[],e,k=>k e|q::r,e,k=>Wl (H.get q.1) λb Z=>Zw H r ((.a q.2,.a b)::e) k
def PE(i:GP)(H:LH)(r:Rs)(k:K):Rs:=match r with
 |.done v H' hs cs e=>match i with
  |.comp=>match v with|.ok v=>k v {H' with A!:=H.A!} hs cs e|_=>.J_
  |.N? _=>match v with|.ok v=>Zw H' H.lk e λe=>k v {H' with lk:=H.lk} hs cs e|_=>.J_
  |.tr n y=>match v with|.ok v=>k v H' hs cs e|.exc x=>if(H'.A! n).isNone=Å then k .none {H' with A!:=AD H'.A! y x} hs cs e else .J_
  |.sO=>match v with|.ok v=>k v H' hs cs e|_=>.J_
 |.J_=>.J_
noncomputable abbrev L8:=Ny->Á V->LH->Ç->CS->ES->Rs
def cH(G:Ï->Ã V)(R:L8)(p:Pr):LH->Ç->CS->ES->Rs:=Pr.rec (motive:=λZ=>LH->Ç->CS->ES->Rs) (λv H hs cs e=>.done (.ok v) H hs cs e) (λv H hs cs e=>.done (.exc v) H hs cs e) (λZ Z Z Z=>.J_) (λo as k ih H hs cs e=>gb (au (Hh G o as) H hs cs e) ih) (λb k ih H hs cs e=>dZ b hs cs e λr hs cs e=>ih r H hs cs e) (λt as k ih H hs cs e=>gb (R t as H hs cs e) ih) (λi p k ip ih H hs cs e=>PT i H hs e λH1 hs e=>PE i H (ip H1 hs cs e) ih) p
def H4(f:Ï->Ã V):Á (Ï×á)->LH->LH|[],H=>H|(x,k)::r,H=>if k=.cell then H4 f r (H.new<|.cell<|f x)else H4 f r H
def fZ(A!:Ï->Ã V)(r:Rs):Rs:=match r with
 |.done v H hs cs e=>match v with
  |.ok v=>match v with
   |.none=>.done (.ok .none) {H with A!:=A!} hs cs e|.D! l=>match l with|[u]=>.done (.ok u) {H with A!:=A!} hs cs e|_=>.J_
   |_=>.J_
  |.exc v=>.done (.exc v) {H with A!:=A!} hs cs e
 |.J_=>.J_
def cJ(G:Ï->Ã V)(R:L8)(f:Fn)(cells:Á<|Ï×Ad)(as:Á V)(H:LH)(hs:Ç)(cs:CS)(e:ES):Rs:=match Ar f as with|È=>.J_|À binds=>fZ H.A!<|cH G R ((Bv f.body).p ⟨f.scope,AX H.nx f.scope.names []++cells⟩) {H4 (BI f.scope.names binds λZ=>È) f.scope.names H with A!:=Be f.scope.names binds λZ=>È} hs cs e
def Xd{α:Type}(o:Ã α)(f:α->Rs):Rs:=ŵ (motive:=λZ=>Rs) o .J_ f
def jM(T:Eu)(R:L8)(t:Ny)(as:Á V)(H:LH)(hs:Ç)(cs:CS)(e:ES):Rs:=Ny.casesOn (motive:=λZ=>Rs) t (λx=>Xd (T.fn x) λf=>cJ T.A_ R f [] as H hs cs e) (λx=>Xd (T.ml x "__init__") λf=>gb (cJ T.A_ R f [] (.ref (.inst x H.nx)::as) (H.new<|.inst x []) hs cs e) λv H1 hs cs e=>match v with|.none=>.done (.ok<|.ref<|.inst x H.nx) H1 hs cs e|_=>.J_) (λk m=>Xd (T.ml k m) λf=>cJ T.A_ R f [] as H hs cs e) λa=>Wl (H.get<|hs%128) λb c=>BX.casesOn (motive:=λZ=>Rs) c (λZ Z=>.J_) (λZ=>.J_) (λZ=>.J_) (λZ=>.J_) λps bd sc cl=>if Gh ps bd sc=Å then cJ T.A_ R ⟨ps,[],bd,sc⟩ cl as H (hs/128) cs ((.a a,.a b)::e)else .J_
def Qk(T:Eu)(n:Ç):L8:=Ç.rec (motive:=λZ=>L8) (λZ Z Z Z Z Z=>.J_) (λZ=>jM T) n
def Rs.T?:Rs->Á X|.done _ _ _ _ e=>e.map (·.2)|.J_=>[]
def Ad.no:Ad->Ç|.inst _ n=>n|.list n=>n|.dict n=>n|.cell n=>n|.mo n=>n
theorem m6(c:BX)(n:Ç):(c.ad n).no=n:=by induction c<;>rfl
def AL{α:Type}(l:Á<|α×α):Prop:=∀q∈l,q.1=q.2
theorem AL.hd{α:Type}{a b:α}{l:Á<|α×α}(h:AL<|(a,b)::l):a=b:=h _<|.head _
theorem AL.tl{α:Type}{q:α×α}{l:Á<|α×α}(h:AL<|q::l):AL l:=λp hp=>h p<|.tail _ hp
structure Rp(H:LH)(s:S):Prop where
 at_:∀{d p},H.get d=À p->s.h p.1=À p.2/\p.1.no<s.nx
 inj:∀{d d' p p'},H.get d=À p->H.get d'=À p'->p.1=p'.1->d=d'
 nx:s.nx=H.nx
 lk:s.lk=H.lk.map (·.2)tF:∀{q},q∈H.lk->∃c,H.get q.1=À (q.2,c)A!:s.A!=H.A!
theorem QO{α:Type}{x y:α}{l:Á α}:∀{d:Ç},Fv l d=À y->Fv (T' x l d) d=À x/\∀d',d≠d'->Fv (T' x l d) d'=Fv l d':=by induction l with|nil=>exact λh=>AY h|cons a r ih=>intro d h;induction d using ĉ with|zero=>exact⟨Ä,λd' h=>by induction d' using ĉ with|zero=>exact â Ä h|succ _=>rfl⟩|succ d=>exact⟨(ih h).1,λd' h'=>by induction d' using ĉ with|zero=>rfl|succ _=>exact(ih h).2 _ λe=>h'<|Â ſ e⟩
theorem i!{d d':Ç}(h:é (d%2) 0=é (d'%2) 0)(e:d/2=d'/2):d=d':=by
 have q:d%2=d'%2:=by rcases Ç.mod_two_eq_zero_or_one d with a|a<;>rcases Ç.mod_two_eq_zero_or_one d' with b|b<;>rw[a,b]at h⊢<;>cases h
 exact AP (Ç.div_add_mod d 2)<|AP (Ç.div_add_mod d' 2)<|AA e<|AA q Ä
theorem YB{H:LH}{d:Ç}{p q:AC}(h:H.get d=À q):(H.B_ d p).get d=À p/\∀d',d≠d'->(H.B_ d p).get d'=H.get d':=by have key:=λd'=>i! (d:=d) (d':=d');unfold LH.get LH.B_ at*;cases e:é (d%2) 0<;>rw[e]at h key;all_goals refine⟨(QO h).1,λd' h'=>?_⟩;have key:=key d';cases e':é (d'%2) 0<;>rw[e']at key;all_goals first|rfl|exact(QO h).2 _ λq=>h'<|key Ä q
theorem Xi{α:Type}{x y:α}{l:Á α}:∀{d:Ç},Fv (l++[x]) d=À y->Fv l d=À y\/d=l.length/\y=x:=by induction l with
 |nil=>intro d h;induction d using ĉ with|zero=>exact .inr ⟨Ä,(Ak h).symm⟩|succ d=>exact AY h
 |cons a r ih=>intro d h;induction d using ĉ with|zero=>exact .inl h|succ d=>exact(ih h).imp id λz=>⟨Â ſ z.1,z.2⟩
theorem Xh{α:Type}{x y:α}{l:Á α}:∀{d:Ç},Fv l d=À y->Fv (l++[x]) d=À y:=by induction l with|nil=>exact λh=>AY h|cons a r ih=>intro d h;induction d using ĉ with|zero=>exact h|succ d=>exact ih h
theorem Li{H:LH}{c:BX}{d:Ç}{p:AC}(h:(H.new c).get d=À p):H.get d=À p\/d=2*H.N.length+1/\p=(c.ad H.nx,c):=by
 unfold LH.get LH.new at*;generalize e:é (d%2) 0=zc at h;rcases zc with _|_
 .refine (Xi h).imp id λz=>⟨?_,z.2⟩;have:¬d%2=0:=λz=>by rw[z]at e;exact JZ e
  lia
 .exact .inl h
theorem YC{H:LH}{c:BX}{d:Ç}{p:AC}(h:H.get d=À p):(H.new c).get d=À p:=by
 unfold LH.get LH.new at*;generalize e:é (d%2) 0=zc at h;rcases zc with _|_;.exact Xh h
 .exact h
section
variable{d:Ç}
theorem Rp.lz(r:Rp H s)(l:Ï->Ã V):Rp {H with A!:=l} {s with A!:=l}:=⟨r.at_,r.inj,r.nx,r.lk,r.tF,Ä⟩
theorem Rp.B_(r:Rp H s)(h:H.get d=À (a,c0)):Rp (H.B_ d (a,c)) (s.B_ a c):=by
 obtain⟨g1,g2⟩:=YB (p:=(a,c)) h;have key:∀{d':Ç}{p:AC},(H.B_ d (a,c)).get d'=À p->d'=d/\p=(a,c)\/d≠d'/\H.get d'=À p:=λ{d' p}h'=>by
  by_cases e:d=d';.subst e;exact .inl ⟨Ä,(Ak<|g1.symm.trans h').symm⟩
  .exact .inr ⟨e,AP (g2 d' e) h'⟩
 have ad:∀{d':Ç}{p:AC},(H.B_ d (a,c)).get d'=À p->BM (λq=>H.get d'=À q) λq=>q.1=p.1:=λh'=>(key h').elim (λzx=>by obtain⟨e,e2⟩:=zx;exact⟨_,AA e h,by exact AA (e2 ..) Ä⟩) λzx=>by obtain⟨_,e⟩:=zx;exact⟨_,e,Ä⟩
 have nx:(H.B_ d (a,c)).nx=H.nx:=by unfold LH.B_;cases é (d%2) 0<;>rfl
 have lk:(H.B_ d (a,c)).lk=H.lk:=by unfold LH.B_;cases é (d%2) 0<;>rfl
 have lc:(H.B_ d (a,c)).A!=H.A!:=by unfold LH.B_;cases é (d%2) 0<;>rfl
 refine⟨λ{d' p}h'=>?_,λh1 h2 e=>?_,r.nx.trans nx.symm,AA lk r.lk,λ{q}hq=>?_,r.A!.trans lc.symm⟩
 .rcases key h' with⟨_,rfl⟩|⟨ne,e⟩;.exact ⟨Î Ä,(r.at_ h).2⟩
  .exact ⟨(Ì λz=>ne<|r.inj h e z.symm).trans (r.at_ e).1,(r.at_ e).2⟩
 .obtain ⟨q,z1,z2⟩:=ad h1;obtain⟨q',z3,z4⟩:=ad h2;exact r.inj z1 z3<|z2.trans<|e.trans z4.symm
 .obtain ⟨c',h'⟩:=r.tF<|AP lk hq;by_cases e:d=q.1;.rw[<-e,h]at h';obtain⟨⟩:=h';exact⟨c,AP e g1⟩
  .exact ⟨c',(g2 _ e).trans h'⟩
theorem Rp.new(r:Rp H s):Rp (H.new c) {s with h:=Dj s.h (c.ad s.nx) c,nx:=s.nx+1}:=by
 have n?:∀{d p},H.get d=À p->p.1≠c.ad s.nx:=λh e=>by have:=(r.at_ h).2;rw[e,m6]at this;exact Ę _ this
 refine⟨λ{d p}h=>?_,λh1 h2 e=>?_,Â (·+1) r.nx,r.lk,λhq=>by obtain⟨c',h⟩:=r.tF hq;exact⟨c',YC h⟩,r.A!⟩
 .rcases Li h with h|⟨_,rfl⟩;.exact ⟨(Ì<|n? h).trans (r.at_ h).1,Ĺ (r.at_ h).2⟩
  .refine ⟨Î<|by exact AA r.nx Ä,?_⟩;show(c.ad H.nx).no<_;exact AA (m6 ..)<|AP (r.nx ..)<|Ī _
 .rcases Li h1 with h1|⟨e1,rfl⟩<;>rcases Li h2 with h2|⟨e2,rfl⟩;.exact r.inj h1 h2 e
  .exact â (e.trans<|by exact AA r.nx Ä)<|n? h1
  .exact â (e.symm.trans<|by exact AA r.nx Ä)<|n? h2
  .exact e1.trans e2.symm
end
def Ok(x:Rs)(cs:CS)(e:ES)(P:S->AN V)(H:LH):Prop:=match x with|.done v H' nZ rR e'=>(AL cs->AL rR)/\(AL e'->AL e)/\(AL cs->AL e'->∀s,Rp H s->A7 (P s) v (Rp H'))|.J_=>Ŀ
section
variable{hs:Ç}
theorem Ok.pre(h:Ok x pK e1 P1 H1)(hc:AL cs->AL pK)(he:AL e1->AL e)(hp:AL cs->AL e1->∀s,Rp H s->BM (λs1=>Rp H1 s1) λs1=>P s=P1 s1):Ok x cs e P H:=by induction x with|J_=>trivial|done v H' nZ rR e'=>exact⟨λc=>h.1<|hc c,λg=>he<|h.2.1 g,λc g s r=>by obtain⟨s1,r1,eq⟩:=hp c (h.2.1 g) s r;exact by obtain⟨s',z,r'⟩:=h.2.2 (hc c) g s1 r1;exact⟨s',eq.trans z,r'⟩⟩
theorem Ok.leaf(he:AL e1->AL e)(h:AL e1->∀s,Rp H s->A7 (P s) v (Rp H1)):Ok (.done v H1 hs cs e1) cs e P H:=⟨id,he,λZ g=>h g⟩
theorem F9{d:Ç}(h:∀a c,H.get d=À (a,c)->Ok (f a c) cs e P H):Ok (Wl (H.get d) f) cs e P H:=by
 generalize o:H.get d=zc;rcases zc with _|p;.trivial
 .exact h p.1 p.2 o
theorem Ik{b:Ë}{k:Ë->Ç->CS->ES->Rs}{F:Ë->S->AN V}(h:∀r hs cs e,Ok (k r hs cs e) cs e (F r) H):Ok (dZ b hs cs e k) cs e (F b) H:=by
 unfold dZ;rcases é (hs%128) 127 with _|_;.induction b<;>exact h _ _ _ _
 .match cs with|[]=>trivial|(y,r)::cs=>induction r with|b r=>exact(h r (hs/128) cs<|(.b b,y)::e).pre AL.tl AL.tl λc g s z=>⟨s,z,by have e1:=g.hd.trans c.hd;injection e1 with e1;exact AA e1 Ä⟩|_=>trivial
theorem Z9{x:Ã V}{k:V->Ç->CS->ES->Rs}{F:Ã V->S->AN V}(h:∀v hs cs e,Ok (k v hs cs e) cs e (F<|À v) H):Ok (ie x hs cs e k) cs e (F x) H:=by
 unfold ie;rcases é (hs%128) 126 with _|_;.cases x with|none=>trivial|some v=>exact h _ _ _ _
 .match cs with|[]=>trivial|(y,r)::cs=>induction r with|o r=>
    rcases r with _|v;.trivial
    .exact (h v (hs/128) cs<|(.o x,y)::e).pre AL.tl AL.tl λc g s z=>⟨s,z,by have e1:=g.hd.trans c.hd;injection e1 with e1;exact AA e1 Ä⟩|_=>trivial
theorem O3(h:Ok x cs e P H)(hf:∀v H hs cs e,Ok (f v H hs cs e) cs e (F v) H):Ok (gb x f) cs e (λs=>(P s).bind F) H:=by induction x with|J_=>trivial|done v H1 pd pK e1=>induction v with|exc v=>exact⟨h.1,h.2.1,λc g s r=>by obtain⟨s',z,r'⟩:=h.2.2 c g s r;exact⟨s',Â (AN.bind · F) z,r'⟩⟩|ok v=>exact(hf v H1 pd pK e1).pre h.1 h.2.1 (λc g s r=>by obtain⟨s',z,r'⟩:=h.2.2 c g s r;exact⟨s',r',Â (AN.bind · F) z⟩)
theorem Dx(g:AL<|(X.a a,X.a b)::e):a=b:=by have:=g.hd;injection this
theorem aP(r:∀{s},Rp H s->s.lk=H.lk.map (·.2))(z:Rp H s){d:Ç}(h:H.get d=À (a,c)):Ê (a∈s.lk)=H.lk.any λq=>é q.1 d:=by
 rw[Ë.eq_iff_iff];rw[π];rw[Á.any_eq_true];refine AA z.lk ?_;rw[Á.mem_map];constructor;.rintro ⟨q,hq,e⟩;obtain⟨c',h'⟩:=z.tF hq;exact⟨q,hq,by exact AA (z.inj h' h e)<|Ç.beq_refl d⟩
 .rintro ⟨q,hq,e⟩;obtain⟨c',h'⟩:=z.tF hq;rw[Ż e,h]at h';obtain⟨⟩:=h';exact⟨q,hq,Ä⟩
theorem aq(t:T):∀(H:LH) (hs:Ç) (cs:CS) (e:ES),Ok (au t H hs cs e) cs e t.run H:=by induction t with
 |ret v=>exact λZ Z Z Z=>.leaf id λZ s r=>⟨s,Ä,r⟩|C_=>exact λZ Z Z Z=>Þ|rd a k ih=>exact λH hs cs e=>F9 λb c h=>(ih c H _ cs _).pre id AL.tl λZ g s r=>⟨s,r,by refine AA (Dx g) ?_;show ig (s.h b) _=_;exact AA (r.at_ h).1 Ä⟩|wr a c v=>exact λH hs cs e=>F9 λb c' h=>.leaf AL.tl λg s r=>by have q:=Dx g;subst q;exact⟨_,Ä,r.B_ h⟩|nw c=>exact λH hs cs e=>.leaf id λZ s r=>⟨_,by exact AP r.nx Ä,r.new⟩|sx a b k ih=>
  exact λH hs cs e=>F9 λx c h=>by
   by_cases q:(H.lk.any λq=>é q.1<|hs%128)=b;.exact AA (Î q)<|(ih H _ cs _).pre id AL.tl λZ g s r=>⟨s,r,Î<|by exact AA (Dx g)<|AA (aP (λz=>z.lk) r h)<|AA q Ä⟩
   .refine AA (Ì q) ?_;trivial|ne a b k ih=>
  exact λH hs cs e=>F9 λx c h=>F9 λy c' h'=>by
   by_cases q:hs%128=hs/128%128;.refine AA (Î q) ?_;trivial
   .exact AA (Ì q)<|(ih H _ cs _).pre id (λg=>g.tl.tl) λZ g s r=>⟨s,r,Ì λz=>q<|r.inj h h'<|by have h1:=Dx g;have h2:=Dx g.tl;exact AP h1<|AP h2 z⟩|ask b k ih=>exact λH Z Z Z=>Ik λr=>ih r H|opt x=>exact λH hs cs e=>Z9 (F:=λx s=>C8 x s) λv hs cs e=>.leaf id λZ s r=>⟨s,Ä,r⟩|sA l m=>exact λH hs cs e=>.leaf AL.tl λg s r=>⟨s,Î (by have:=g.hd;injection this),r⟩|gl k ih=>exact λH hs cs e=>(ih H.A! H hs cs e).pre id id λZ Z s r=>⟨s,r,by exact AP r.A! Ä⟩|sl f=>exact λH hs cs e=>.leaf id λZ s r=>⟨_,Ä,r.lz f⟩
theorem IA:Ok (au (Hh G o as) H hs cs e) cs e (QF G o as) H:=by have h:=aq (Hh G o as) H hs cs e;revert h;generalize au (Hh G o as) H hs cs e=x;intro h;induction x with|J_=>trivial|done v H1 pd pK e1=>exact⟨h.1,h.2.1,λc g s r=>by obtain⟨s',z,r'⟩:=h.2.2 c g s r;exact⟨s',(XN (A_:=G) (o:=o) (as:=as) (s:=s)).elim (λq=>by rw[z]at q;cases v<;>cases q) λq=>q.symm.trans z,r'⟩⟩
def Kt(C:Dt)(R:L8):Prop:=∀t as H hs cs e,Ok (R t as H hs cs e) cs e (C t as) H
theorem XJ(l:Á<|Ç×Ad):∀e1:ES,(∀e2,(AL e2->AL e1)->(AL e2->∀q∈l,∃c,H'.get q.1=À (q.2,c))->Ok (f e2) cs e P H)->Ok (Zw H' l e1 f) cs e P H:=by induction l with|nil=>exact λe1 h=>h e1 id λZ q hq=>â hq ã|cons q l ih=>
  intro e1 h;show Ok (Wl (H'.get q.1) _) _ _ _ _;generalize o:H'.get q.1=zc;rcases zc with _|p;.trivial
  .exact ih _ λe2 g1 g2=>h e2 (λg=>(g1 g).tl) λg q' hq=>(Bt hq).elim (λz=>by exact AA z<|AA o<|AA (Dx<|g1 g) ⟨_,Ä⟩) λz=>g2 g q' z
theorem M4(hk:∀v H hs cs e,Ok (k v H hs cs e) cs e (F v) H)(h:Ok x cs e1 P1 H1)(he:AL e1->AL e)(tJ:AL e1->∀s,Rp H s->Rp H1 (i.M! s)):Ok (PE i H x k) cs e (λs=>C9 (i.J? s<|P1<|i.M! s) F) H:=by induction x with|J_=>trivial|done v H' nZ rR e'=>have fin:∀{v':V}{H2:LH},(∀s s',Rp H s->P1 (i.M! s)=v.out s'->Rp H' s'->BM (λs2=>i.J? s (v.out s')=À (v',s2)) λs2=>Rp H2 s2)->Ok (k v' H2 nZ rR e') cs e (λs=>C9 (i.J? s<|P1<|i.M! s) F) H:=λ{v' H2}hl=>(hk v' H2 nZ rR e').pre h.1 (λg=>he<|h.2.1 g) (λc g s r=>by obtain⟨s',z,r'⟩:=h.2.2 c g _<|tJ (h.2.1 g) s r;obtain⟨s2,z2,r2⟩:=hl s s' r z r';exact⟨s2,r2,Â (C9 · F)<|(Â (i.J? s) z).trans z2⟩);induction i with
  |comp=>induction v with|ok v=>exact fin λs s' r Z r'=>⟨_,Ä,AP r.A!<|r'.lz s.A!⟩|exc v=>trivial
  |N? u=>induction v with|ok v=>exact XJ H.lk e' λe2 g1 g2=>(hk v _ nZ rR e2).pre h.1 (λg=>he<|h.2.1<|g1 g) (λc g s r=>by obtain⟨s',z,r'⟩:=h.2.2 c (g1 g) _<|tJ (h.2.1<|g1 g) s r;exact⟨{s' with lk:=s.lk},⟨r'.at_,r'.inj,r'.nx,r.lk,λhq=>g2 g _ hq,r'.A!⟩,Â (C9 · F)<|Â (GP.J? (.N? u) s) z⟩)|exc v=>trivial
  |tr n y=>induction v with|ok v=>exact fin λs s' r Z r'=>⟨_,Ä,r'⟩|exc v=>
    show Ok (if _ then _ else _) _ _ _ _;by_cases q:(H'.A! n).isNone=Å;.exact AA (Î q)<|fin λs s' r Z r'=>⟨_,Î<|AA r'.A! q,AP r'.A!<|r'.lz _⟩
    .refine AA (Ì q) ?_;trivial
  |sO=>induction v with|ok v=>exact fin λs s' r Z r'=>⟨_,Ä,r'⟩|exc v=>trivial
theorem NT(hk:∀H1 hs e1,(AL e1->AL e)->(AL e1->∀s,Rp H s->Rp H1 (i.M! s))->Ok (k H1 hs e1) cs e P H):Ok (PT i H hs e k) cs e P H:=by induction i with|comp=>exact hk _ _ _ id λZ s r=>r.lz _|tr n y=>exact hk _ _ _ id λZ s r=>r|sO=>exact hk _ _ _ id λZ s r=>r|N? v=>induction v using Internal.V.casesOn with
  |D! l=>exact hk _ _ _ id λZ s r=>r|ref a=>
   refine F9 λb c h=>?_;have en:∀{s:S},a=b->Rp H s->(GP.N?<|.ref a).M! s={s with lk:=(match À c with|À (.dict _)=>[a]|_=>[])++s.lk}:=λ{s}q r=>by subst q;exact AP (r.at_ h).1 Ä
   induction c with|list l=>exact hk _ _ _ AL.tl λg s r=>AP (en (Dx g) r).symm r|dict l=>exact hk _ _ _ AL.tl λg s r=>AP (en (Dx g) r).symm ⟨r.at_,r.inj,r.nx,congr (Â ν<|Dx g) r.lk,λhq=>(Bt hq).elim (λz=>⟨.dict l,by subst z;exact h⟩) r.tF,r.A!⟩|_=>trivial
  |_=>trivial
theorem Lf(hR:Kt C R)(p:Pr):∀(H:LH) (hs:Ç) (cs:CS) (e:ES),Ok (cH G R p H hs cs e) cs e (p.run G C) H:=by induction p with|ret v=>exact λZ Z Z Z=>.leaf id λZ s r=>⟨s,Ä,r⟩|exc v=>exact λZ Z Z Z=>.leaf id λZ s r=>⟨s,Ä,r⟩|C_=>exact λZ Z Z Z=>Þ|prim o as k ih=>exact λZ Z Z Z=>O3 IA ih|ask b k ih=>exact λH Z Z Z=>Ik λr=>ih r H|call t as k ih=>exact λH hs cs e=>O3 (hR t as H hs cs e) ih|oX i p k ip ih=>exact λH hs cs e=>NT λH1 hs e1 he tJ=>M4 ih (ip H1 hs cs e1) he tJ
end
end Mine.Internal
end
section
open PySem
set_option backward.match.sparseCases true
namespace Mine.Internal
theorem Vv(f:Ï->Ã V)(ns:Á<|Ï×á):∀(acc:Á<|Ï×Ad){H:LH}{s:S}{h0:Ad->Ã BX}{m:Ç},Rp H s->s.h=Bx f acc h0->s.nx=m+acc.length->Rp (H4 f ns H) {s with h:=Bx f (AX s.nx ns acc) h0,nx:=m+(AX s.nx ns acc).length}:=by induction ns with|nil=>intro acc H s h0 m r e1 e2;show Rp H {s with h:=Bx f acc h0,nx:=m+acc.length};exact AP e1<|AP e2 r|cons p ns ih=>
  intro acc H s h0 m r e1 e2;obtain⟨x,k⟩:=p;by_cases e:k=.cell;.exact AA (show H4 f ((x,k)::ns) H=H4 f ns (H.new<|.cell<|f x)from Î e) (AA (show AX s.nx ((x,k)::ns) acc=AX (s.nx+1) ns ((x,.cell s.nx)::acc)from Î e) (ih ((x,.cell s.nx)::acc) (h0:=h0) (m:=m) (r.new (c:=.cell<|f x)) (by show Dj s.h _ _=_;exact AA e1 Ä) (Â (·+1) e2)))
  .exact AA (show H4 f ((x,k)::ns) H=H4 f ns H from Ì e)<|AA (show AX s.nx ((x,k)::ns) acc=AX s.nx ns acc from Ì e)<|ih acc r e1 e2
theorem Ya(h:Ok x cs e P H):Ok (fZ H.A! x) cs e (λs=>EK s.A!<|P s) H:=by induction x with|J_=>trivial|done v H' nZ rR e'=>have fin:∀{v':Rv},(∀l s',EK l (v.out s')=v'.out {s' with A!:=l})->Ok (.done v' {H' with A!:=H.A!} nZ rR e') cs e (λs=>EK s.A!<|P s) H:=λhl=>⟨h.1,h.2.1,λc g s r=>by obtain⟨s',z,r'⟩:=h.2.2 c g s r;exact⟨_,(Â (EK s.A!) z).trans<|hl _ _,AP r.A!<|r'.lz s.A!⟩⟩;induction v with|exc v=>exact fin λZ Z=>Ä|ok v=>induction v using Internal.V.casesOn with
   |none=>exact fin λZ Z=>Ä|D! l=>
    rcases l with _|⟨u,_|⟨_,_⟩⟩;.trivial
    .exact fin λZ Z=>Ä
    .trivial|_=>trivial
theorem Lg(hR:Kt C R)(f:Fn)(cells:Á<|Ï×Ad)(as:Á V)(H:LH)(hs:Ç)(cs:CS)(e:ES):Ok (cJ G R f cells as H hs cs e) cs e (C7 G C f cells as) H:=by
 unfold cJ C7;rcases Ar f as with _|binds;.trivial
 .let P1:S->AN V:=λs=>((Bv f.body).p ⟨f.scope,AX H.nx f.scope.names []++cells⟩).run G C {A!:=Be f.scope.names binds λZ=>È,h:=Bx (BI f.scope.names binds λZ=>È) (AX s.nx f.scope.names []) s.h,nx:=s.nx+(AX s.nx f.scope.names []).length,lk:=s.lk};have h:Ok _ cs e P1 H:=(Lf hR ((Bv f.body).p ⟨f.scope,AX H.nx f.scope.names []++cells⟩) {H4 (BI f.scope.names binds λZ=>È) f.scope.names H with A!:=Be f.scope.names binds λZ=>È} hs cs e).pre id id λZ Z s r=>⟨_,(Vv (BI f.scope.names binds λZ=>È) f.scope.names [] (h0:=s.h) (m:=s.nx) r Ä Ä).lz _,Ä⟩;refine(Ya h).pre id id λZ Z s r=>⟨s,r,?_⟩;dsimp only;refine AA r.nx ?_;show _=EK s.A! (P1 s);dsimp only[P1];exact AA r.nx Ä
theorem Yk{T:Eu}{n:Ç}{ps:Á Ï}{cl:Á<|Ï×Ad}(h:s.h a=À (.mo ps bd sc cl)):AK T (n+1) (.mo a) as s=if Gh ps bd sc=Å then C7 T.A_ (AK T n) ⟨ps,[],bd,sc⟩ cl as s else .C_:=by exact Â (λo=>As o λk=>Y' k λps b sc cl=>if Gh ps b sc then C7 T.A_ (AK T n) ⟨ps,[],b,sc⟩ cl as s else .C_) h
theorem Oz{α:Type}{o:Ã α}{f:α->Rs}{g:α->S->AN V}(h:∀x,Ok (f x) cs e (g x) H):Ok (Xd o f) cs e (λs=>As o λx=>g x s) H:=by
 rcases o with _|x;.trivial
 .exact h x
theorem HO(T:Eu)(n:Ç):Kt (AK T n) (Qk T n):=by induction n with|zero=>exact λZ Z Z Z Z Z=>Þ|succ n ih=>intro t as H hs cs e;have ih:=λ{t as H hs cs e}=>ih t as H hs cs e;induction t with
  |fn x=>exact Oz (o:=T.fn x) λf=>Lg @ih f [] as H hs cs e|cls x=>refine Oz (o:=T.ml x "__init__") λf=>?_;refine(O3 (F:=λr s=>match r with|.none=>.ok (.ref<|.inst x H.nx) s|_=>.C_) (Lg @ih f [] (.ref (.inst x H.nx)::as) (H.new<|.inst x []) hs cs e) λv H1 hs cs e=>?_).pre id id λZ Z s r=>⟨_,r.new,by exact AP r.nx Ä⟩;induction v using Internal.V.casesOn<;>first|exact .leaf id λZ s r=>⟨s,Ä,r⟩|trivial
  |ml c m=>exact Oz (o:=T.ml c m) λf=>Lg @ih f [] as H hs cs e|mo a=>refine F9 λb c h=>?_;induction c with
   |mo ps bd sc cl=>
    dsimp only;by_cases q:Gh ps bd sc=Å;.refine AA (Î q)<|(Lg @ih ⟨ps,[],bd,sc⟩ cl as H _ cs _).pre id AL.tl λZ g s r=>⟨s,r,?_⟩;exact AA (Dx g)<|(Yk (r.at_ h).1).trans<|Î q
    .refine AA (Ì q) ?_;trivial|_=>trivial
end Mine.Internal
end
section
open PySem
namespace Mine.Internal
structure Hs(l:Á AC)(s:S):Prop where
 at_:∀p∈l,s.h p.1=À p.2/\p.1.no<s.nx
 nd:(l.map (·.1)).Nodup
 lk:s.lk=[]
theorem Hs.perm(h:Hs l s)(p:l.Perm l'):Hs l' s:=⟨λq hq=>h.at_ q<|p.mem_iff.mpr hq,(p.map _).nodup_iff.mp h.nd,h.lk⟩
theorem Hs.lz(h:Hs l s)(f:Ï->Ã V):Hs l {s with A!:=f}:=⟨h.at_,h.nd,h.lk⟩
theorem BT{α:Type}{x:α}{l:Á α}:∀{i:Ç},Fv l i=À x->x∈l:=by induction l with|nil=>exact λh=>AY h|cons a r ih=>intro i h;induction i using ĉ with|zero=>exact AP (Ak h)<|.head _|succ d=>exact .tail _<|ih h
theorem LI{p q:AC}(e:p.1=q.1){l:Á AC}:∀{i j:Ç},(l.map (·.1)).Nodup->Fv l i=À p->Fv l j=À q->i=j:=by induction l with|nil=>intro i j _ h;exact AY h|cons a r ih=>intro i j nd h1 h2;have nd:=Hx nd;induction i using ĉ with
  |zero=>induction j using ĉ with|zero=>rfl|succ j=>obtain rfl:=Ak h1;exact(nd.1<|Et ⟨q,BT h2,e.symm⟩).elim
  |succ i=>induction j using ĉ with|zero=>obtain rfl:=Ak h2;exact(nd.1<|Et ⟨p,BT h1,e⟩).elim|succ j=>exact Â (·+1)<|ih nd.2 h1 h2
theorem LP{α:Type}{x:α}{l:Á α}(h:x∈l):∃i,Fv l i=À x:=by induction h with|head=>exact⟨0,Ä⟩|tail _ _ ih=>exact ih.imp' ſ λZ e=>e
theorem Up{α:Type}{x:α}{m:Ç}:∀{l:Á α},x∈l.drop m->BM (λi=>m<=i) λi=>Fv l i=À x:=by induction m with|zero=>exact λh=>by obtain⟨i,e⟩:=LP h;exact⟨i,è _,e⟩|succ m ih=>
  intro l h;rcases l with _|⟨a,r⟩;.exact â h ã
  .obtain ⟨i,a,e⟩:=ih h;exact⟨i+1,ú a,e⟩
def sel(l:Á AC)(t:Á AC):Á Ç->Á AC|[]=>t|i::r=>match Fv l i with|À p=>p::sel l t r|È=>sel l t r
def E9(m:Ç):Á Ç->Ë|[]=>Å|i::r=>Ç.blt i m&&!(r.any<|é i)&&E9 m r
theorem XD{r:Á Ç}:q∈sel l t r->(∃j∈r,Fv l j=À q)\/q∈t:=by induction r with|nil=>exact .inr|cons i r ih=>
  have up:(∃j∈r,Fv l j=À q)\/q∈t->(∃j∈i::r,Fv l j=À q)\/q∈t:=λh=>h.imp (λz=>by obtain⟨j,a,b⟩:=z;exact⟨j,.tail _ a,b⟩) id;intro h;have h:q∈match Fv l i with|À p=>p::sel l t r|È=>sel l t r:=h;generalize e:Fv l i=zc at h;rcases zc with _|p;.exact up<|ih h
  .exact (Bt h).elim (λh=>.inl ⟨i,.head _,AA h e⟩) λh=>up<|ih h
theorem Hs.sel(h:Hs l s){m:Ç}{r:Á Ç}:E9 m r=Å->Hs (Internal.sel l (l.drop m) r) s:=by induction r with|nil=>exact λZ=>⟨λp hp=>h.at_ p<|Á.mem_of_mem_drop hp,by show((l.drop m).map _).Nodup;exact AA Ι<|h.nd.sublist<|Á.drop_sublist _ _,h.lk⟩|cons i r ih=>
  intro o;have o:(Ç.blt i m&&!(r.any<|é i)&&E9 m r)=Å:=o;simp only[ù,Ĕ,Á.any_eq_false]at o;have ih:=ih o.2;show Hs (match Fv l i with|À p=>p::Internal.sel l (l.drop m) r|È=>Internal.sel l (l.drop m) r) s;generalize e:Fv l i=zc;rcases zc with _|p;.exact ih
  .refine ⟨λq hq=>(Bt hq).elim (λz=>AA z<|h.at_ _<|BT e)<|ih.at_ q,Um ⟨λhm=>?_,ih.nd⟩,h.lk⟩;obtain⟨q,hq,eq⟩:=MD hm;rcases XD hq with⟨j,hj,ej⟩|hd;.have:=LI eq.symm h.nd e ej;exact o.1.2 j hj<|by exact AA this<|Ç.beq_refl j
   .obtain ⟨j,hj,ej⟩:=Up hd;have:=LI eq.symm h.nd e ej;have lt:i<m:=Ç.ble_eq.mp o.1.1;lia
theorem Hs.rp(h:Hs l s):Rp ⟨l,[],s.nx,[],s.A!⟩ s:=by
 have g:∀{d p},LH.get ⟨l,[],s.nx,[],s.A!⟩ d=À p->é (d%2) 0=Å/\Fv l (d/2)=À p:=λ{d p}e=>by
  unfold LH.get at e;generalize q:é (d%2) 0=zc at e;rcases zc with _|_;.exact AY e
  .exact ⟨Ä,e⟩
 exact⟨λe=>h.at_ _<|BT (g e).2,λe1 e2 e=>i! ((g e1).1.trans (g e2).1.symm)<|LI e h.nd (g e1).2 (g e2).2,Ä,h.lk,λhq=>â hq ã,Ä⟩
theorem iz{l:Á AC}(h:∀i j p q,Fv l i=À p->Fv l j=À q->p.1=q.1->i=j):(l.map (·.1)).Nodup:=by induction l with|nil=>exact Ŏ|cons a r ih=>refine Um ⟨λhm=>?_,ih λi j p q e1 e2 e=>Δ<|h (i+1) (j+1) p q e1 e2 e⟩;obtain⟨q,hq,e⟩:=MD hm;obtain⟨j,ej⟩:=LP hq;cases h 0 (j+1) a q Ä ej e.symm
theorem R8{α:Type}{x:α}{l k:Á α}:∀{i:Ç},Fv (l++k) i=À x->Fv l i=À x\/l.length<=i/\Fv k (i-l.length)=À x:=by induction l with|nil=>exact λh=>.inr ⟨è _,h⟩|cons a r ih=>intro i h;induction i using ĉ with|zero=>exact .inl h|succ i=>exact(ih h).imp id λz=>⟨ú z.1,AP (Ç.add_sub_add_right i 1 r.length).symm z.2⟩
theorem H6(i:Ç):(2*i+1)%2=1/\(2*i+1)/2=i:=by lia
theorem GU(i:Ç):2*i%2=0/\2*i/2=i:=by lia
theorem Th{d i j N:Ç}(h2:d=2*i+1/\i<N\/d=2*(i-N)/\N<=i)(h4:d=2*j+1/\j<N\/d=2*(j-N)/\N<=j):i=j:=by
 rcases h2 with⟨a,a'⟩|⟨a,a'⟩<;>rcases h4 with⟨b,b'⟩|⟨b,b'⟩;.exact Ç.eq_of_mul_eq_mul_left (by decide)<|Δ<|a.symm.trans b
 .exact â (((GU<|j-N).1.symm.trans (Â (·%2)<|b.symm.trans a)).trans (H6 i).1)<|by decide
 .exact â (((GU<|i-N).1.symm.trans (Â (·%2)<|a.symm.trans b)).trans (H6 j).1)<|by decide
 .exact AP (Υ a')<|AP (Υ b')<|AA (Ç.eq_of_mul_eq_mul_left (by decide)<|a.symm.trans b) Ä
theorem Rp.hs{H:LH}{s:S}(r:Rp H s)(n4:H.lk=[]):Hs (H.N++H.L) s:=by
 have g:∀{i p},Fv (H.N++H.L) i=À p->BM (λd=>H.get d=À p) λd=>d=2*i+1/\i<H.N.length\/d=2*(i-H.N.length)/\H.N.length<=i:=λ{i p}e=>by
  have lt:∀{l:Á AC}{i:Ç}{p:AC},Fv l i=À p->i<l.length:=by intro l;induction l with|nil=>intro i p h;exact AY h|cons a r ih=>intro i p h;cases i with|zero=>exact Ç.succ_pos _|succ i=>exact Ç.succ_lt_succ<|ih h
  rcases R8 e with e|⟨a,e⟩;.refine ⟨2*i+1,?_,.inl ⟨Ä,lt e⟩⟩;unfold LH.get;exact AA (H6 i).1<|AA (H6 i).2 e
  .refine ⟨2*(i-H.N.length),?_,.inr ⟨Ä,a⟩⟩;unfold LH.get;exact AA (GU _).1<|AA (GU _).2 e
 refine⟨λp hp=>?_,iz λi j p q e1 e2 e=>?_,by exact AA r.lk<|AA n4 Ä⟩;.obtain ⟨i,e⟩:=LP hp;obtain⟨d,e,_⟩:=g e;exact r.at_ e
 .obtain ⟨d,h1,h2⟩:=g e1;obtain⟨d',h3,h4⟩:=g e2;exact Th h2<|AA (r.inj h1 h3 e) h4
structure gP where
 v:Rv
 L:Á AC
 A!:Ï->Ã V
 e:Á X
def Rs.res(m:Ç)(r:Á Ç):Rs->Ã gP|.done v H _ _ e=>(match H.lk with|[]=>(bif E9 m r then À ⟨v,sel (H.N++H.L) ((H.N++H.L).drop m) r,H.A!,e.map (·.1)⟩else È)|_=>È)|.J_=>È
def Rs.pN(m:Ç)(r:Á Ç)(x:Rs):Ã (Rv×Á AC×Á X):=match x.res m r with|À y=>À (y.v,y.L,y.e)|È=>È
theorem II{q:X×X}{e:ES}:e.map (·.1)=e.map (·.2)->q∈e->q.1=q.2:=by induction e with|nil=>exact λZ h=>Cv h|cons p r ih=>intro h hq;injection h with ha he;exact(Bt hq).elim (λz=>AA z ha)<|ih he
theorem K'(k:Ok x cs [] P ⟨L,[],s.nx,[],s.A!⟩)(h:Hs L s)(hc:AL cs){m:Ç}{r:Á Ç}(hr:x.res m r=À ⟨v,L',A!,x.T?⟩):Aa (P s) v (Hs L') A!:=by induction x with|J_=>exact AY hr|done w H nZ rR e'=>
  unfold Rs.res at hr;dsimp only at hr;generalize hl:H.lk=zc at hr;rcases zc with _|⟨a,b⟩
  .dsimp only at hr;generalize ho:E9 m r=zc at hr;rcases zc with _|_;.exact AY hr
   .injection hr with hr;injection hr with h1 h2 h3 h4;subst h1 h2 h3;obtain⟨s',e1,r'⟩:=k.2.2 hc (λq=>II h4) s h.rp;exact⟨s',e1,(r'.hs hl).sel ho,r'.A!⟩
  .exact AY hr
theorem UH(k:Ok x cs [] P ⟨L,[],s.nx,[],s.A!⟩)(h:Hs L s)(hc:AL cs){m:Ç}{r:Á Ç}(hr:x.pN m r=À (v,L',x.T?)):A7 (P s) v (Hs L'):=by
 unfold Rs.pN at hr;generalize e:x.res m r=zc at hr;rcases zc with _|y;.exact AY hr
 .obtain ⟨v',L2,A!,e'⟩:=y;injection hr with hr;injection hr with h1 hr;injection hr with h2 h3;dsimp only at h1 h2 h3;subst h1 h2 h3;obtain⟨s',a,b,_⟩:=K' k h hc e;exact⟨s',a,b⟩
theorem WJ{T:Eu}{n:Ç}{hs m:Ç}{r:Á Ç}(h:Hs L s)(hc:AL cs)(hr:(Qk T n t as ⟨L,[],s.nx,[],s.A!⟩ hs cs []).res m r=À ⟨v,L',A!,(Qk T n t as ⟨L,[],s.nx,[],s.A!⟩ hs cs []).T?⟩):Aa (AK T n t as s) v (Hs L') A!:=K' (HO T n t as _ hs cs []) h hc hr
theorem Tp{T:Eu}{n:Ç}{hs m:Ç}{r:Á Ç}(h:Hs L s)(hc:AL cs)(hr:(cH T.A_ (Qk T n) p ⟨L,[],s.nx,[],s.A!⟩ hs cs []).res m r=À ⟨v,L',A!,(cH T.A_ (Qk T n) p ⟨L,[],s.nx,[],s.A!⟩ hs cs []).T?⟩):Aa (p.run T.A_ (AK T n) s) v (Hs L') A!:=K' (Lf (HO T n) p _ hs cs []) h hc hr
structure Fy where
 as:Á V
 k:V->Pr
 H:LH
 hs:Ç
 cs:CS
 e:ES
noncomputable abbrev KS:=V->LH->Ç->CS->ES->Ã Fy
def Kr(r:Rs)(f:KS):Ã Fy:=match r with
 |.done v H hs cs e=>match v with|.ok v=>f v H hs cs e|.exc _=>È
 |.J_=>È
def ba(b:Ë)(H:LH)(hs:Ç)(cs:CS)(e:ES):Rs:=dZ b hs cs e λr hs cs e=>.done (.ok<|.bool r) H hs cs e
def im(v:V)(f:Ë->Ã Fy):Ã Fy:=match v with|.bool b=>f b|_=>È
def isFn(x:Ï)(t:Ny):Ë:=match t with|.fn y=>Ê<|y=x|_=>Æ
def Tw(b:Ë)(z:Fy)(f:Ã Fy):Ã Fy:=match b with|Å=>À z|Æ=>f
def fK(G:Ï->Ã V)(R:L8)(x:Ï)(p:Pr):LH->Ç->CS->ES->Ã Fy:=Pr.rec (motive:=λZ=>LH->Ç->CS->ES->Ã Fy) (λZ Z Z Z Z=>È) (λZ Z Z Z Z=>È) (λZ Z Z Z=>È) (λo as k ih H hs cs e=>Kr (au (Hh G o as) H hs cs e) ih) (λb k ih H hs cs e=>Kr (ba b H hs cs e) λv H hs cs e=>im v λr=>ih r H hs cs e) (λt as k ih H hs cs e=>Tw (isFn x t) ⟨as,k,H,hs,cs,e⟩<|Kr (R t as H hs cs e) ih) (λi p k Z ih H hs cs e=>Kr (PT i H hs e λH1 hs e=>PE i H (cH G R p H1 hs cs e) λv H hs cs e=>.done (.ok v) H hs cs e) ih) p
def bp(G:Ï->Ã V)(C:Dt)(x:Ï)(o:Ã Fy)(cs:CS)(e:ES)(P:S->AN V)(H:LH):Prop:=match o with|À z=>(AL cs->AL z.cs)/\(AL z.e->AL e)/\(AL cs->AL z.e->∀s,Rp H s->BM (λs'=>P s=(C (.fn x) z.as s').bind λv s=>(z.k v).run G C s) λs'=>Rp z.H s')|È=>Ŀ
section
variable{x:Ï}{hs:Ç}
theorem G1(h:Ok r cs e P H)(hf:∀v H hs cs e,bp G C x (f v H hs cs e) cs e (F v) H):bp G C x (Kr r f) cs e (λs=>(P s).bind F) H:=by induction r with|J_=>trivial|done v H1 pd pK e1=>induction v with|exc v=>trivial|ok v=>
   have k:=hf v H1 pd pK e1;show bp G C x (f v H1 pd pK e1) _ _ _ _;revert k;generalize f v H1 pd pK e1=o;intro k;rcases o with _|z;.trivial
   .exact ⟨λc=>k.1<|h.1 c,λg=>h.2.1<|k.2.1 g,λc g s r=>by obtain⟨s1,a,r1⟩:=h.2.2 c (k.2.1 g) s r;exact by obtain⟨s',b,r'⟩:=k.2.2 (h.1 c) g s1 r1;exact⟨s',(Â (AN.bind · F) a).trans b,r'⟩⟩
theorem av(hR:Kt C R)(p:Pr):∀(H:LH) (hs:Ç) (cs:CS) (e:ES),bp G C x (fK G R x p H hs cs e) cs e (p.run G C) H:=by induction p with
 |ret _=>exact λZ Z Z Z=>Þ|exc _=>exact λZ Z Z Z=>Þ|C_=>exact λZ Z Z Z=>Þ|prim o as k ih=>exact λZ Z Z Z=>G1 IA ih|ask b k ih=>exact λZ Z Z Z=>G1 (P:=λs=>.ok (.bool b) s) (F:=λv s=>match v with|.bool r=>(k r).run G C s|_=>.C_) (Ik (F:=λr s=>.ok (.bool r) s) λr hs cs e=>.leaf id λZ s z=>⟨s,Ä,z⟩) λv H hs cs e=>by induction v using Internal.V.casesOn with|bool r=>exact ih r H hs cs e|_=>trivial
 |call t as k ih=>intro H hs cs e;have hb:bp G C x (Kr (R t as H hs cs e) λv H hs cs e=>fK G R x (k v) H hs cs e) cs e ((Pr.call t as k).run G C) H:=G1 (hR t as H hs cs e) ih;induction t with
  |fn y=>
   show bp G C x (Tw (Ê<|y=x) _ _) _ _ _ _;by_cases q:y=x;.subst q;exact AA (Ü Ä) ⟨id,id,λZ Z s r=>⟨s,Ä,r⟩⟩
   .exact AA (ā q)<|hb|_=>exact hb
 |oX i p k _ ih=>intro H hs cs e;have h:bp G C x (fK G R x (.oX i p k) H hs cs e) cs e (λs=>(C9 (i.J? s<|p.run G C<|i.M! s) λv s=>.ok v s).bind λv s=>(k v).run G C s) H:=G1 (NT λH1 hs e1 he tJ=>M4 (k:=λv H hs cs e=>.done (.ok v) H hs cs e) (F:=λv s=>.ok v s) (λv H hs cs e=>.leaf id λZ s r=>⟨s,Ä,r⟩) (Lf hR p H1 hs cs e1) he tJ) ih;exact AP (show(λs=>(C9 (i.J? s<|p.run G C<|i.M! s) λv s=>AN.ok v s).bind λv s=>(k v).run G C s)=(Pr.oX i p k).run G C from ø λs=>(Ix _ _ _).symm) h
end
structure jr where
 as:Á V
 L:Á AC
 A!:Ï->Ã V
 e:Á X
def Fy.res(m:Ç)(r:Á Ç)(z:Fy):Ã jr:=match z.H.lk with|[]=>(bif E9 m r then À ⟨z.as,sel (z.H.N++z.H.L) ((z.H.N++z.H.L).drop m) r,z.H.A!,z.e.map (·.1)⟩else È)|_=>È
def Fu{α:Type}(o:Ã Fy)(d:α)(f:Fy->α):α:=match o with|À z=>f z|È=>d
def Bi(o:Ã Fy)(v:V):Pr:=Fu o .C_ λz=>z.k v
theorem A3{T:Eu}{n:Ç}{x:Ï}{hs m:Ç}{r:Á Ç}(ho:o=fK T.A_ (Qk T n) x p ⟨L,[],s.nx,[],lc⟩ hs cs [])(h:Hs L s)(hl:s.A!=lc)(hc:AL cs)(hr:Fu o È (Fy.res m r)=À ⟨as,L',A!,Fu o [] λz=>z.e.map (·.2)⟩):D4 (λs'=>p.run T.A_ (AK T n) s=(AK T n (.fn x) as s').bind λv s=>(Bi o v).run T.A_ (AK T n) s) (λs'=>Hs L' s') λs'=>s'.A!=A!:=by
 have k:=av (x:=x) (G:=T.A_) (HO T n) p ⟨L,[],s.nx,[],s.A!⟩ hs cs [];subst hl;rw[<-ho]at k;clear ho;rcases o with _|z;.exact AY hr
 .unfold Fu Fy.res at hr;dsimp only at hr;generalize n4:z.H.lk=zc;rcases zc with _|⟨a,b⟩
  .rw[n4]at hr;dsimp only at hr;generalize pz:E9 m r=zc;rcases zc with _|_;.rw[pz]at hr;exact AY hr
   .rw[pz]at hr;injection hr with hr;injection hr with h1 h2 h3 h4;subst h1 h2 h3;obtain⟨s',e1,r'⟩:=k.2.2 hc (λq=>II h4) s h.rp;exact⟨s',e1,(r'.hs n4).sel pz,r'.A!⟩
  .rw[n4]at hr;exact AY hr
structure Nz where
 i:GP
 p:Pr
 k:V->Pr
 H:LH
 hs:Ç
 cs:CS
 e:ES
noncomputable abbrev KZ:=V->LH->Ç->CS->ES->Ã Nz
def Q9(r:Rs)(f:KZ):Ã Nz:=match r with
 |.done v H hs cs e=>match v with|.ok v=>f v H hs cs e|.exc _=>È
 |.J_=>È
def ii(v:V)(f:Ë->Ã Nz):Ã Nz:=match v with|.bool b=>f b|_=>È
def jK(G:Ï->Ã V)(R:L8)(p:Pr):LH->Ç->CS->ES->Ã Nz:=Pr.rec (motive:=λZ=>LH->Ç->CS->ES->Ã Nz) (λZ Z Z Z Z=>È) (λZ Z Z Z Z=>È) (λZ Z Z Z=>È) (λo as k ih H hs cs e=>Q9 (au (Hh G o as) H hs cs e) ih) (λb k ih H hs cs e=>Q9 (ba b H hs cs e) λv H hs cs e=>ii v λr=>ih r H hs cs e) (λt as k ih H hs cs e=>Q9 (R t as H hs cs e) ih) (λi p k Z Z H hs cs e=>À ⟨i,p,k,H,hs,cs,e⟩) p
def gu(G:Ï->Ã V)(C:Dt)(o:Ã Nz)(cs:CS)(e:ES)(P:S->AN V)(H:LH):Prop:=match o with|À z=>(AL cs->AL z.cs)/\(AL z.e->AL e)/\(AL cs->AL z.e->∀s,Rp H s->BM (λs'=>P s=C9 (z.i.J? s'<|z.p.run G C<|z.i.M! s') λv s=>(z.k v).run G C s) λs'=>Rp z.H s')|È=>Ŀ
section
variable{hs:Ç}
theorem JO(h:Ok r cs e P H)(hf:∀v H hs cs e,gu G C (f v H hs cs e) cs e (F v) H):gu G C (Q9 r f) cs e (λs=>(P s).bind F) H:=by induction r with|J_=>trivial|done v H1 pd pK e1=>induction v with|exc v=>trivial|ok v=>
   have k:=hf v H1 pd pK e1;show gu G C (f v H1 pd pK e1) _ _ _ _;revert k;generalize f v H1 pd pK e1=o;intro k;rcases o with _|z;.trivial
   .exact ⟨λc=>k.1<|h.1 c,λg=>h.2.1<|k.2.1 g,λc g s r=>by obtain⟨s1,a,r1⟩:=h.2.2 c (k.2.1 g) s r;exact by obtain⟨s',b,r'⟩:=k.2.2 (h.1 c) g s1 r1;exact⟨s',(Â (AN.bind · F) a).trans b,r'⟩⟩
theorem am(hR:Kt C R)(p:Pr):∀(H:LH) (hs:Ç) (cs:CS) (e:ES),gu G C (jK G R p H hs cs e) cs e (p.run G C) H:=by induction p with
 |ret _=>exact λZ Z Z Z=>Þ|exc _=>exact λZ Z Z Z=>Þ|C_=>exact λZ Z Z Z=>Þ|prim o as k ih=>exact λZ Z Z Z=>JO IA ih|ask b k ih=>exact λZ Z Z Z=>JO (P:=λs=>.ok (.bool b) s) (F:=λv s=>match v with|.bool r=>(k r).run G C s|_=>.C_) (Ik (F:=λr s=>.ok (.bool r) s) λr hs cs e=>.leaf id λZ s z=>⟨s,Ä,z⟩) λv H hs cs e=>by induction v using Internal.V.casesOn with|bool r=>exact ih r H hs cs e|_=>trivial
 |call t as k ih=>exact λH hs cs e=>JO (hR t as H hs cs e) ih|oX i p k _ ih=>exact λH hs cs e=>⟨id,id,λZ Z s r=>⟨s,Ä,r⟩⟩
end
structure jp where
 i:GP
 p:Pr
 L:Á AC
 A!:Ï->Ã V
 e:Á X
def Nz.res(m:Ç)(r:Á Ç)(z:Nz):Ã jp:=match z.H.lk with|[]=>(bif E9 m r then À ⟨z.i,z.p,sel (z.H.N++z.H.L) ((z.H.N++z.H.L).drop m) r,z.H.A!,z.e.map (·.1)⟩else È)|_=>È
def Y9{α:Type}(o:Ã Nz)(d:α)(f:Nz->α):α:=match o with|À z=>f z|È=>d
def FN(o:Ã Nz)(v:V):Pr:=Y9 o .C_ λz=>z.k v
theorem D5{T:Eu}{n:Ç}{hs m:Ç}{r:Á Ç}(ho:o=jK T.A_ (Qk T n) p ⟨L,[],s.nx,[],lc⟩ hs cs [])(h:Hs L s)(hl:s.A!=lc)(hc:AL cs)(hr:Y9 o È (Nz.res m r)=À ⟨i,q,L',A!,Y9 o [] λz=>z.e.map (·.2)⟩):D4 (λs'=>p.run T.A_ (AK T n) s=C9 (i.J? s'<|q.run T.A_ (AK T n)<|i.M! s') λv s=>(FN o v).run T.A_ (AK T n) s) (λs'=>Hs L' s') λs'=>s'.A!=A!:=by
 have k:=am (G:=T.A_) (HO T n) p ⟨L,[],s.nx,[],s.A!⟩ hs cs [];subst hl;rw[<-ho]at k;clear ho;rcases o with _|z;.exact AY hr
 .unfold Y9 Nz.res at hr;dsimp only at hr;generalize n4:z.H.lk=zc;rcases zc with _|⟨a,b⟩
  .rw[n4]at hr;dsimp only at hr;generalize pz:E9 m r=zc;rcases zc with _|_;.rw[pz]at hr;exact AY hr
   .rw[pz]at hr;injection hr with hr;injection hr with h1 h2 h3 h4 h5;subst h1 h2 h3 h4;obtain⟨s',e1,r'⟩:=k.2.2 hc (λq=>II h5) s h.rp;exact⟨s',e1,(r'.hs n4).sel pz,r'.A!⟩
  .rw[n4]at hr;exact AY hr
def Gc(n:Ç)(p:Pr)(lc:Ï->Ã V)(L:Á AC)(nx hs:Ç)(cs:CS):Ã Nz:=jK TT.A_ (Qk TT n) p ⟨L,[],nx,[],lc⟩ hs cs []
structure Js where
 p:Pr
 H:LH
 hs:Ç
 cs:CS
 e:ES
def Q'(r:Rs)(f:V->LH->Ç->CS->ES->Ã Js):Ã Js:=match r with
 |.done v H hs cs e=>match v with|.ok v=>f v H hs cs e|.exc _=>È
 |.J_=>È
def ik(v:V)(f:Ë->Ã Js):Ã Js:=match v with|.bool b=>f b|_=>È
def Ld(b:Ë)(z:Js)(f:Ã Js):Ã Js:=match b with|Å=>À z|Æ=>f
def jL(G:Ï->Ã V)(R:L8)(q:Pr->Ë)(p:Pr):LH->Ç->CS->ES->Ã Js:=Pr.rec (motive:=λZ=>LH->Ç->CS->ES->Ã Js) (λZ Z Z Z Z=>È) (λZ Z Z Z Z=>È) (λZ Z Z Z=>È) (λo as k ih H hs cs e=>Ld (q<|.prim o as k) ⟨.prim o as k,H,hs,cs,e⟩<|Q' (au (Hh G o as) H hs cs e) ih) (λb k ih H hs cs e=>Q' (ba b H hs cs e) λv H hs cs e=>ik v λr=>ih r H hs cs e) (λt as k ih H hs cs e=>Ld (q<|.call t as k) ⟨.call t as k,H,hs,cs,e⟩<|Q' (R t as H hs cs e) ih) (λi p k Z Z H hs cs e=>Ld (q<|.oX i p k) ⟨.oX i p k,H,hs,cs,e⟩ È) p
def cP(G:Ï->Ã V)(C:Dt)(o:Ã Js)(cs:CS)(e:ES)(P:S->AN V)(H:LH):Prop:=match o with|À z=>(AL cs->AL z.cs)/\(AL z.e->AL e)/\(AL cs->AL z.e->∀s,Rp H s->BM (λs'=>P s=z.p.run G C s') λs'=>Rp z.H s')|È=>Ŀ
section
variable{hs:Ç}
theorem JP(h:Ok r cs e P H)(hf:∀v H hs cs e,cP G C (f v H hs cs e) cs e (F v) H):cP G C (Q' r f) cs e (λs=>(P s).bind F) H:=by induction r with|J_=>trivial|done v H1 pd pK e1=>induction v with|exc v=>trivial|ok v=>
   have k:=hf v H1 pd pK e1;show cP G C (f v H1 pd pK e1) _ _ _ _;revert k;generalize f v H1 pd pK e1=o;intro k;rcases o with _|z;.trivial
   .exact ⟨λc=>k.1<|h.1 c,λg=>h.2.1<|k.2.1 g,λc g s r=>by obtain⟨s1,a,r1⟩:=h.2.2 c (k.2.1 g) s r;exact by obtain⟨s',b,r'⟩:=k.2.2 (h.1 c) g s1 r1;exact⟨s',(Â (AN.bind · F) a).trans b,r'⟩⟩
theorem Lc{b:Ë}(h:cP G C f cs e (p.run G C) H):cP G C (Ld b ⟨p,H,hs,cs,e⟩ f) cs e (p.run G C) H:=by
 rcases b with _|_;.exact h
 .exact ⟨id,id,λZ Z s r=>⟨s,Ä,r⟩⟩
theorem ao(hR:Kt C R)(p:Pr):∀(H:LH) (hs:Ç) (cs:CS) (e:ES),cP G C (jL G R q p H hs cs e) cs e (p.run G C) H:=by induction p with
 |ret _=>exact λZ Z Z Z=>Þ|exc _=>exact λZ Z Z Z=>Þ|C_=>exact λZ Z Z Z=>Þ|prim o as k ih=>exact λZ Z Z Z=>Lc<|JP IA ih|ask b k ih=>exact λZ Z Z Z=>JP (P:=λs=>.ok (.bool b) s) (F:=λv s=>match v with|.bool r=>(k r).run G C s|_=>.C_) (Ik (F:=λr s=>.ok (.bool r) s) λr hs cs e=>.leaf id λZ s z=>⟨s,Ä,z⟩) λv H hs cs e=>by induction v using Internal.V.casesOn with|bool r=>exact ih r H hs cs e|_=>trivial
 |call t as k ih=>exact λH hs cs e=>Lc<|JP (hR t as H hs cs e) ih|oX i p k _ ih=>exact λH hs cs e=>Lc Þ
end
structure jq where
 L:Á AC
 A!:Ï->Ã V
 e:Á X
def Js.res(m:Ç)(r:Á Ç)(z:Js):Ã jq:=match z.H.lk with|[]=>(bif E9 m r then À ⟨sel (z.H.N++z.H.L) ((z.H.N++z.H.L).drop m) r,z.H.A!,z.e.map (·.1)⟩else È)|_=>È
def Wk{α:Type}(o:Ã Js)(d:α)(f:Js->α):α:=match o with|À z=>f z|È=>d
def DD(o:Ã Js):Pr:=Wk o .C_ λz=>z.p
theorem Gq{T:Eu}{n:Ç}{hs m:Ç}{r:Á Ç}(ho:o=jL T.A_ (Qk T n) q p ⟨L,[],s.nx,[],lc⟩ hs cs [])(h:Hs L s)(hl:s.A!=lc)(hc:AL cs)(hr:Wk o È (Js.res m r)=À ⟨L',A!,Wk o [] λz=>z.e.map (·.2)⟩):D4 (λs'=>p.run T.A_ (AK T n) s=(DD o).run T.A_ (AK T n) s') (λs'=>Hs L' s') λs'=>s'.A!=A!:=by
 have k:=ao (q:=q) (G:=T.A_) (HO T n) p ⟨L,[],s.nx,[],s.A!⟩ hs cs [];subst hl;rw[<-ho]at k;clear ho;rcases o with _|z;.exact AY hr
 .unfold Wk Js.res at hr;dsimp only at hr;generalize n4:z.H.lk=zc at hr;rcases zc with _|⟨a,b⟩
  .dsimp only at hr;generalize pz:E9 m r=zc at hr;rcases zc with _|_;.exact AY hr
   .injection hr with hr;injection hr with h1 h2 h3;subst h1 h2;obtain⟨s',e1,r'⟩:=k.2.2 hc (λq=>II h3) s h.rp;exact⟨s',e1,(r'.hs n4).sel pz,r'.A!⟩
  .exact AY hr
def Dy(n:Ç)(q:Pr->Ë)(p:Pr)(lc:Ï->Ã V)(L:Á AC)(nx hs:Ç)(cs:CS):Ã Js:=jL TT.A_ (Qk TT n) q p ⟨L,[],nx,[],lc⟩ hs cs []
def Z8{α:Type}(d:α)(cm:CmpOp->α)(bl:Ï->α)(o:Op):α:=Op.casesOn (motive:=λZ=>α) o (λZ Z=>d) (λZ Z=>d) d (λZ=>d) (λZ=>d) d d (λZ=>d) (λZ=>d) (λZ=>d) cm d d (λZ=>d) d bl (λZ=>d) (λZ=>d) (λZ=>d) d d d d d λZ Z Z Z=>d
def O0(f:Op->Á V->Ë)(p:Pr):Ë:=Pr.casesOn (motive:=λZ=>Ë) p (λZ=>Æ) (λZ=>Æ) Æ (λo as Z=>f o as) (λZ Z=>Æ) (λZ Z Z=>Æ) λZ Z Z=>Æ
def jF(v:V):Ë:=V.casesOn (motive_1:=λZ=>Ë) v Æ (λZ=>Æ) (λZ=>Æ) (λZ=>Æ) (λZ=>Æ) (λa=>Ad.casesOn (motive:=λZ=>Ë) a (λZ Z=>Æ) (λZ=>Å) (λZ=>Æ) (λZ=>Æ) λZ=>Æ) λZ=>Æ
def Hz:Pr->Ë:=O0 λo as=>Z8 Æ (λc=>é c.ctorIdx 1&&as.all jF) (λZ=>Æ) o
def FB:Pr->V->Pr|.prim _ _ k,v=>k v|.call _ _ k,v=>k v|.oX _ _ k,v=>k v|_,_=>.C_
theorem Ul{a b:Ç}{q:Ë}(h:Hs L s)(ma:((.list a,.list l):AC)∈L)(mb:((.list b,.list r):AC)∈L)(e:ZP l r=À q):(Pr.prim (.cmp .NotEq) [.ref<|.list a,.ref<|.list b] k).run G C s=(k<|.bool<|!q).run G C s:=by
 have e1:s.list (.list a)=À l:=by unfold S.list;exact AA (h.at_ _ ma).1 Ä
 have e2:s.list (.list b)=À r:=by unfold S.list;exact AA (h.at_ _ mb).1 Ä
 have ev:eqv (.ref<|.list a) (.ref<|.list b) s=À q:=by show(match s.list (.list a)with|À l=>(match s.list (.list b)with|À r=>ZP l r|È=>È)|È=>È)=_;exact AA e1<|AA e2 e
 show(AN.bind (EO ((eqv (.ref<|.list a) (.ref<|.list b) s).map (!·)) s) _)=_;exact AA ev Ä
end Mine.Internal
end
section
open PySem PySem.W PyProof.Rows PySem.Calls PyProof.V
namespace Mine.Internal
def Fq:Á (Û×Û×Ï):=[(682,678,"_law_at_object.<locals>.is_open"),(701,699,"_law_day.<locals>.chooser")]
def GI:Á (Ï×Û):=[("Clock",31),("EntryCall",87),("TaskThing",137),("Limits",329),("Master",350),("ProtectedThing",487),("Tasking",588)]
structure gS where
 c:PV
 q:Ï
 f:Fn
def O6(r:gS):Ë:=(["chooser","is_open"]:Á Ï).all λx=>! Ed r.f.scope x||! r.f.scope.names.lookup x==À .local||Fq.any λq=>r.c==.ref q.1&&r.q++".<locals>."++x==q.2.2
def fS(p:œ):Ë:=p.posonlyargs.isEmpty&&p.vararg.isNone&&p.kwonlyargs.isEmpty&&p.kw_defaults.isEmpty&&p.kwarg.isNone&&p.defaults.isEmpty
def Qn(fd:FuncData):Ë:=fS fd.params&&fd.closure.isEmpty&&é fd.globals ý&&é fd.builtins builtinsNs&&O4 fd.defaults
def bU(b:FuncBody):Ã (Á Đ):=match b with|.stmts b=>À b|.expr _=>È
def fT(K:Ĭ)(a:Û):Ã FuncData:=(K.lookup a).bind λo=>match o.data with|.func fd=>À fd|_=>È
def PN{α:Type}(b:Ë)(x:α):Ã α:=match b with|Å=>À x|Æ=>È
def c_(K:Ĭ)(a:Û):Ã gS:=(fT K a).bind λfd=>(bU fd.body).bind λb=>PN (Qn fd&&codeIn K fd.code fd.qualname&&keepIn K (.ref a)&&O6 ⟨fd.code,fd.qualname,⟨fd.params.args.map (·.arg),[],b,fd.scope⟩⟩) ⟨fd.code,fd.qualname,⟨fd.params.args.map (·.arg),[],b,fd.scope⟩⟩
def Y5(v:PV):Ã Û:=match v with|.ref a=>À a|_=>È
def gk(K:Ĭ)(v:Ã<|Ã PV):Ã Fn:=v.bind λv=>v.bind λv=>(Y5 v).bind λa=>(c_ K a).map gS.f
theorem Hk{α:Type}{b:Ë}{x y:α}(h:PN b x=À y):b=Å/\x=y:=by induction b with|true=>exact⟨Ä,Ak h⟩|false=>exact AY h
theorem Ho{α β:Type}{o:Ã α}{f:α->Ã β}{y:β}(h:o.bind f=À y):BM (λx=>o=À x) λx=>f x=À y:=by obtain⟨x,a,b⟩:=Ã.bind_eq_some_iff.mp h;exact⟨x,a,b⟩
inductive Wc(B:DC)(K:Ĭ)(a:Û)(f:Fn):Prop|mk (fo:ġ) (name qual:Ï) (args:Á Arg) (kV doc pm cdv ct:PV) (an:Ã Û) (body:Á Đ) (scope:Ō) (h1:B.base.get? a=À fo) (h2:fo.data=.func (fnX name qual (CV args) body scope [] .none kV doc pm an cdv ct)) (h3:B.base.CodeRec cdv qual) (h4:f=⟨args.map (·.arg),[],body,scope⟩) (h5:keepIn K (.ref a)=Å) (h6:O6 ⟨cdv,qual,f⟩=Å)
theorem R9(h:O4 v=Å):v=.none:=by induction v using PySem.Value.casesOn<;>first|rfl|exact CN h
theorem kT{rZ rY rW rV rU rT β:Type}(g:rZ->rY->rW->rV->rU->rT->β){uc uV:rZ}{ub uU:rY}{ua uT:rW}{uZ uS:rV}{uY uR:rU}{uX uQ:rT}(mU:uc=uV)(qQ:ub=uU)(oG:ua=uT)(sY:uZ=uS)(sX:uY=uR)(ve:uX=uQ):g uc ub ua uZ uY uX=g uV uU uT uS uR uQ:=by subst mU qQ oG sY sX ve;rfl
theorem dS(h:fS p=Å):p=CV p.args:=by obtain⟨h,h6⟩:=AB h;obtain⟨h,h5⟩:=AB h;obtain⟨h,h4⟩:=AB h;obtain⟨h,h3⟩:=AB h;obtain⟨h1,h2⟩:=AB h;obtain⟨a1,a2,a3,a4,a5,a6,a7⟩:=p;exact kT (λa b c d e f=>(⟨a,a2,b,c,d,e,f⟩:œ)) (cG h1) (Ã.isNone_iff_eq_none.mp h2) (cG h3) (cG h4) (Ã.isNone_iff_eq_none.mp h5)<|cG h6
theorem fR(hb:fd.body=.stmts b)(h:Qn fd=Å):fd=fnX fd.name fd.qualname (CV fd.params.args) b fd.scope [] .none fd.kwdefaults fd.doc fd.pyModule fd.annotations fd.code fd.closureTuple:=by obtain⟨h,h5⟩:=AB h;obtain⟨h,h4⟩:=AB h;obtain⟨h,h3⟩:=AB h;obtain⟨h1,h2⟩:=AB h;obtain⟨n,q,ps,b0,sc,g0,cl,d0,kd,doc,pm,an,cd,ct,zh⟩:=fd;exact kT (λp bd g c bi d=>(⟨n,q,p,bd,sc,g,c,d,kd,doc,pm,an,cd,ct,bi⟩:FuncData)) (dS h1) hb (Ż h3) (cG h2) (Ż h4)<|R9 h5
theorem Vt{K:Ĭ}(h:fT K a=À fd):BM (λo=>K.lookup a=À o) λo=>o.data=.func fd:=by obtain⟨o,e,h⟩:=Ho h;refine⟨o,e,?_⟩;generalize o.data=d at h⊢;induction d using PySem.Data.casesOn<;>first|exact AY h|exact Â _<|Ak h
theorem YH{K:Ĭ}(X:K.In B.base)(h:(c_ K a).map gS.f=À f):Wc B K a f:=by
 obtain⟨r,h,hr⟩:=OG h;obtain⟨fd,e1,h⟩:=Ho h;obtain⟨b,e2,h⟩:=Ho h;obtain⟨h,e⟩:=Hk h;obtain⟨h,h6⟩:=AB h;obtain⟨h,h5⟩:=AB h;obtain⟨h,h3⟩:=AB h;obtain⟨o,k1,k2⟩:=Vt e1;have hb:fd.body=.stmts b:=by generalize fd.body=z at e2;induction z with|stmts c=>exact Â _<|Ak e2|expr c=>exact AY e2
 have ef:=(Â gS.f e).trans hr;exact⟨o,_,_,_,_,_,_,_,_,_,_,_,X _ _ k1,k2.trans<|Â _<|fR hb h,codeRec_of X h3,ef.symm,h5,AP ef h6⟩
theorem UL(h:Y5 v=À a):v=.ref a:=by induction v using PySem.Value.casesOn<;>first|exact AY h|exact Â _<|Ak h
theorem Ln{K:Ĭ}(X:K.In B.base)(h:gk K v=À f):BM (λa=>v=À (À<|.ref a)) λa=>Wc B K a f:=by obtain⟨w,e1,h1⟩:=Ho h;obtain⟨u,e2,h2⟩:=Ho h1;obtain⟨a,e3,h3⟩:=Ho h2;subst e1 e2;exact⟨a,Â (λz=>À<|À z)<|UL e3,YH X h3⟩
theorem Xm(h:O6 r=Å):∀x,Ed r.f.scope x=Å->r.f.scope.names.lookup x=À .local->∃q∈Fq,r.c=.ref q.1/\r.q++".<locals>."++x=q.2.2:=by intro x hx hl;have hm:=(AB hx).1;have:=Hp h x<|bS hm;rw[hx,hl]at this;obtain⟨q,hq,e⟩:=Á.any_eq_true.mp this;exact⟨q,hq,à (AB e).1,à (AB e).2⟩
theorem KI{f:Fn}(h:KJ f.params f.body f.scope=Å):f.params.Nodup:=by unfold KJ at h;exact Ù<|cr<|Internal.cl<|Internal.cl h
theorem Lp{K:Ĭ}(ht:B.tabs=Fq)(h:Wc B K a f)(ok:KJ f.params f.body f.scope=Å):GM B a f:=by obtain⟨fo,name,qual,args,kV,doc,pm,cdv,ct,an,body,scope,h1,h2,h3,h4,h5,h6⟩:=h;subst h4;refine⟨fo,name,qual,CV args,.none,kV,doc,pm,cdv,ct,an,h1,h2,h3,AA ht<|Xm h6,λW t l ws Z hv=>Nr Ä Ä (KI ok) hv⟩
def LK(f:Fn):Ë:=f.scope.names.all λp=>! p.2==.cell
theorem UN{K:Ĭ}(h:Wc B K a f)(ok:KJ f.params f.body f.scope=Å)(hn:LK f=Å):G5 B a f:=by
 obtain⟨fo,name,qual,args,kV,doc,pm,cdv,ct,an,body,scope,h1,h2,h3,h4,h5,h6⟩:=h;subst h4;have tI:∀x∈scope.names,x.2≠.cell:=λx hx e=>by have:=Hp hn x hx;rw[e]at this;exact CN this
 have xi:=ok;unfold KJ at ok;refine⟨Internal.cl<|Internal.cl<|Internal.cl<|Internal.cl ok,KI xi,tI,λx hx=>?_,fo,name,qual,args,kV,doc,pm,cdv,ct,an,h1,h2,h3,Ä⟩;have:=Hp (cr<|Internal.cl ok) x hx;rcases Ë.or_eq_true_iff.mp this with q|q;.exact à q
 .exact â Ä<|tI _<|Ce<|à q
def RB(K:Ĭ)(C:Û):Ë:=A6.all λn=>takerIn K C n==À È&&findIn K (.ref C) n==À È
def WD(K:Ĭ)(p:Ï×Û):Ë:=nsIn K ý p.1==À (À<|.ref p.2)&&plainGet K p.2 ""&&findIn K (.ref p.2) "__setattr__"==À (À<|.builtin "object.__setattr__")&&plainOver K p.2&&hasDictIn K p.2&&RB K p.2&&keepIn K (.ref p.2)&&makesIn K p.2
def La:Á ((Û×Ï)×Ç×Ç):=[((31,"__init__"),1,0),((87,"__init__"),12,0),((137,"__init__"),32,0),((350,"__init__"),56,0),((487,"__init__"),76,0),((588,"__init__"),89,0),((588,"next_number"),89,1),((309,"__init__"),52,0)]
def et(K:Ĭ)(v:Ã<|Ã PV):Ã Fn:=(gk K v).bind λf=>PN (v.any λv=>v.any<|PySem.W.isFn K) f
def cW(v:Ã CFound):Ã (Ã PV):=match v with|À (.val v)=>À<|À v|_=>È
def Ye(K:Ĭ):Ë:=ktsIn K 309 "BaseException"&&findIn K (.ref 309) "__getattribute__"==À (À<|.builtin "BaseException.__getattribute__")&&findIn K (.ref 309) "__getattr__"==À È&&subIn K (.ref 309) (.type "BaseException")==À Å&&hasDictIn K 309&&findIn K (.ref 309) "tasks"==À È&&ktsIn K 309 "Exception"&&Uk K 309&&findIn K (.ref 309) "__setattr__"==À (À<|.builtin "object.__setattr__")&&Gw K 309&&takerIn K 309 "text"==À È&&takerIn K 309 "tasks"==À È&&keepIn K (.ref 309)&&nsIn K ý "Deadlock"==À (À<|.ref 309)&&nsIn K ý "AdaError"==À (À<|.ref 270)&&specialIn K (.ref 270) "__getattribute__"==À (À<|.builtin "type.__getattribute__")&&typeIn K (.ref 270)==À (.type "type")&&readsIn K 270 (.type "type")
def Ic:Á PV->Ã (Á Í)|[]=>À []|w::ws=>match w with|.int j _=>(Ic ws).map (j::·)|_=>È
def cq(x:Ï)(w:PV):Ë:=match w with|.str y _=>x==y&&(ĸ x).canLay0|_=>Æ
def Vf(K:Ĭ)(p:Ï×V):Ë:=match p.2 with|.str x=>(nsIn K ý p.1).any λo=>o.any λw=>cq x w|_=>p.1=="_law_silent"
inductive bt(K:Ĭ):Prop|mk (fI T oc od sl name qual x0 y0 x1 y1 x2 y2 x3 y3 x4 y4 x5 y5 x6 y6 x7 y7 ds kV doc pm cdv ct an body scope c d wu n t0 t1 t2 t3 t4 t5 t6) (h1:findIn K (.ref 329) "__init__"=À (À<|.ref fI)) (h2:PySem.W.isFn K (.ref fI)=Å)(h3:K.lookup fI=À ⟨oc,od,.func<|fnX name qual ⟨[],[⟨"self",x0,y0⟩,⟨"width",x1,y1⟩,⟨"steps",x2,y2⟩,⟨"depth",x3,y3⟩,⟨"members",x4,y4⟩,⟨"text",x5,y5⟩,⟨"tasks",x6,y6⟩,⟨"heap",x7,y7⟩],È,[],[],È,ds⟩ body scope [] (.ref T) kV doc pm an cdv ct,sl⟩)(h4:codeIn K cdv qual=Å) (h5:IE 54 0 Iw=À ⟨[("self":Ï),("width":Ï),("steps":Ï),("depth":Ï),("members":Ï),("text":Ï),("tasks":Ï),("heap":Ï)],Iw,body,scope⟩) (h6:K.lookup T=À ⟨c,d,.seq #[.int 32 t0,.int 1000000 t1,.int 50 t2,.int 10000 t3,.int 100000 t4,.int 50 t5,.int 1000000 t6] n,wu⟩) (h7:scope.names.any λp=>p.2==.cell=Æ):bt K
inductive gO(K:Ĭ):Prop|mk (a ws) (h1:nsIn K ý "_law_silent"=À (À<|.ref a)) (h2:K.lookup a=À (BB ws)) (h3:Ic ws=À DN):gO K
structure KF(K:Ĭ):Prop where
 l!:PP.map (λp=>gk K<|nsIn K ý p.1)=PP.map λp=>Vn p.2
 tZ:La.map (λp=>et K<|findIn K (.ref p.1.1) p.1.2)=La.map λp=>IE p.2.1 p.2.2 []xW:gk K (cW<|findCls K (.ref 270) (.type "type") "__init__")=IE 50 0 []cls:GI.all (WD K)=Å
 R!:Ye K=Å
 V?:YD.all (Vf K)=Å
 blt:HW.all λp=>nsIn K ý p.1==À È=Å
 G_:bt K
 xc:gO K
theorem IF{α β:Type}{f g:α->β}{l:Á α}(h:l.map f=l.map g){a:α}(m:a∈l):f a=g a:=by induction l with|nil=>exact nomatch m|cons b r ih=>
  obtain⟨h1,h2⟩:=Á.cons.inj h;rcases Bt m with rfl|m;.exact h1
  .exact ih h2 m
theorem WR{K:Ĭ}(h:RB K C=Å):∀n∈A6,takerIn K C n=À È/\findIn K (.ref C) n=À È:=λn hn=>by have:=AB<|Hp h n hn;exact⟨à this.1,à this.2⟩
structure j4(K:Ĭ)(x:Ï)(C:Û):Prop where
 ns:nsIn K ý x=À (À<|.ref C)ok:ZW K C
 keep:keepIn K (.ref C)=Å
 k!:makesIn K C=Å
theorem bQ{K:Ĭ}{p:Ï×Û}(h:WD K p=Å):j4 K p.1 p.2:=by obtain⟨h,h7⟩:=AB h;obtain⟨h,h6⟩:=AB h;obtain⟨h,h5⟩:=AB h;obtain⟨h,h4⟩:=AB h;obtain⟨h,h3⟩:=AB h;obtain⟨h,h2⟩:=AB h;obtain⟨h0,h1⟩:=AB h;exact⟨à h0,⟨h1,à h2,h3,h4,WR h5⟩,h6,h7⟩
theorem NA{x:Ï}(h:NB x=Å):∃i,(x,i)∈PP:=by
 have key:∀y∈(["time_after","next_time","move_clock","is_due","least_wait","join_queue","leave_queue","first_call","drain_queues","used_keys","is_callable","wake_up","finish_call","begin_meeting","end_meeting","open_index","offer_call","stops_here","call_entry","wait_in_queue","cancel_call","note_lost","open_select","wait_open","delay_task"]:Á Ï)++(["time_is_up","make_task","activate_tasks","end_activation","are_done","end_fresh","drop_fresh","complete_task","end_library","is_held","end_abnormal","settle_abnormal","settle_ends","can_terminate","is_quiet","ended_masters","terminate_below","settle_terminates","settle_tasks","has_place","come_in","ask_lock","give_lock","let_in","made_call"]:Á Ï)++(["call_protected","queue_protected","rest_in_queue","next_served","end_served","ready_tasks","waiting_tasks","pass_time","end_late","serve_lost","choose_among","pick_task","_law_door","_law_ask","_law_plan","_law_body","_law_opens","_law_tend","_law_at_object","_law_goes","_law_may_hear","_law_day","_law_is_kept","law"]:Á Ï),PP.any λp=>p.1==y=Å:=by decide+kernel
 have hm:=key x<|by
  rcases Ë.or_eq_true_iff.mp h with h|h
  .rcases Ë.or_eq_true_iff.mp h with h|h;.exact æ _<|æ _<|bS h
   .exact æ _<|Ö _<|bS h
  .exact Ö _<|bS h
 obtain⟨p,hp,e⟩:=Á.any_eq_true.mp hm;exact⟨p.2,AP (à e) hp⟩
theorem ND{x:Ï}(h:Ka x=Å):∃C,GI.lookup x=À C:=by
 have key:∀y∈([("Clock":Ï),"EntryCall","TaskThing","Limits","Master","ProtectedThing","Tasking"]:Á Ï),(GI.lookup y).isSome=Å:=by decide+kernel
 exact cD<|key x<|bS h
theorem WO{name qual:Ï}{x0 x1 x2 x3 x4 x5 x6 x7:Ã ì}{body:Á Đ}{T:Û}{n:Ç}(ho:t.heap.get? T=À o)(hd:o.data=.seq #[v0,v1,v2,v3,v4,v5,v6] n):Β t (fnX name qual ⟨[],[⟨"self",x0,y0⟩,⟨"width",x1,y1⟩,⟨"steps",x2,y2⟩,⟨"depth",x3,y3⟩,⟨"members",x4,y4⟩,⟨"text",x5,y5⟩,⟨"tasks",x6,y6⟩,⟨"heap",x7,y7⟩],È,[],[],È,ds⟩ body scope [] (.ref T) kV doc pm an cdv ct) ⟨[w],[]⟩ ([("self":Ï),("width":Ï),("steps":Ï),("depth":Ï),("members":Ï),("text":Ï),("tasks":Ï),("heap":Ï)].zip [w,v0,v1,v2,v3,v4,v5,v6]):=Β.of_defaults Ä ho hd Ä Ä
theorem Xt{K:Ĭ}(X:K.In B.base)(h:bt K):D4 (λfI=>findIn K (.ref 329) "__init__"=À (À<|.ref fI)) (λfI=>PySem.W.isFn K (.ref fI)=Å) λfI=>∀f,IE 54 0 Iw=À f->GM B fI f:=by
 obtain⟨fI,T,oc,od,sl,name,qual,x0,y0,x1,y1,x2,y2,x3,y3,x4,y4,x5,y5,x6,y6,x7,y7,ds,kV,doc,pm,cdv,ct,an,body,scope,c,d,wu,n,t0,t1,t2,t3,t4,t5,t6,h1,h2,h3,h4,h5,h6,h7⟩:=h;refine⟨fI,h1,h2,λf hf=>?_⟩;obtain rfl:=Ak<|h5.symm.trans hf;refine⟨_,name,qual,_,_,kV,doc,pm,cdv,ct,an,X _ _ h3,Ä,codeRec_of X h4,λx hx Z=>â ((AB hx).2.symm.trans h7) nofun,λW t l ws ht hv binds hb=>?_⟩;unfold Ar at hb;refine Ae (P:=(·=À binds)) hb (λhlen hb=>?_) λZ hb=>AY hb;have hlen:l.length+7=8:=hlen;rcases hv with _|⟨a,r⟩;.exact â hlen<|by decide
 .rcases r with _|⟨a',r⟩;.obtain rfl:=Ak hb;exact⟨_,WO (ht _ _<|X _ _ h6) Ä,B5.zip<|.cons a<|.cons (.int _ _)<|.cons (.int _ _)<|.cons (.int _ _)<|.cons (.int _ _)<|.cons (.int _ _)<|.cons (.int _ _)<|.cons (.int _ _) .nil,λy hy=>(σ hy).1⟩
  .exact â hlen<|by simp only[ę];lia
end Mine.Internal
end
section
open PySem
namespace Mine.Internal
noncomputable abbrev I3:=Fin 3
theorem NK{P:I3->Prop}(h0:P 0)(h1:P 1)(h2:P 2)(i:I3):P i:=by
 obtain⟨n,h⟩:=i;rcases n with _|_|_|n;.exact h0
 .exact h1
 .exact h2
 .exact â h<|Ç.not_lt_of_le<|ÿ ..
set_option genCtorIdx true in
inductive Kd where|B_|take deriving þ
inductive Wt where|no|mr|num(i:Í)
def Wt.ctorIdx(x:Wt):Ç:=Wt.casesOn (motive:=λZ=>Ç) x 0 1 λZ=>2
deriving instance þ for Wt
inductive Ah where|rest(n:Í)|call(k:Kd)(w:Wt)(pQ:Í)
def Ah.ctorIdx(x:Ah):Ç:=Ah.casesOn (motive:=λZ=>Ç) x (λZ=>0) λZ Z Z=>1
set_option genCtorIdx true in
inductive An where|G?|I!|mP
structure Bf where
 w:Wt
 a:An
 nS:Í
 mW:Í
inductive Ev where|fresh|mO|mF(w:Í)|D_(d:Ã Í)|mA|lr(a:An)|mE|done
def Ev.ctorIdx(x:Ev):Ç:=Ev.casesOn (motive:=λZ=>Ç) x 0 1 (λZ=>2) (λZ=>3) 4 (λZ=>5) 6 7
structure Cl where
 st:Ev
 B?:Á Ah
 cur:Ã Ah
 E_:Í
 ly:Í
 lr:Á Bf
inductive GQ where|G!|lx(p t:Ë)|mE|done
def GQ.ctorIdx(x:GQ):Ç:=GQ.casesOn (motive:=λZ=>Ç) x 0 (λZ Z=>1) 2 3
structure AQ where
 now:Í
 room:Í
 cl:I3->Cl
 q:Kd->Á I3
 B!:Á Í
 B_:Á Í
 A?:Á Í
 lu:Ë
 E?:GQ
 mN:Ã I3
def Ah.pQ:Ah->Í|.rest _=>0|.call _ _ m=>m
def Ab(f:I3->Cl)(i:I3)(c:Cl):I3->Cl:=λj=>if j=i then c else f j
def Df(f:Kd->Á I3)(k:Kd)(x:Á I3):Kd->Á I3:=λj=>if j=k then x else f j
def Aj(i:I3)(js:Á I3):Á I3:=js.filter λj=>¬j=i
def mx(x:Í):Í:=if x<0 then 0 else x
def Wt.dl(w:Wt)(now:Í):Ã Í:=match w with|.num x=>À<|now+mx x|_=>È
def Yb{α:Type}(now:Í)(st:Ev)(cur:Ã Ah)(a r:α)(l:Kd->α):α:=match st with
 |.mF d=>if d<=now then r else a|.D_ (À d)=>match cur with|À (.call k _ _)=>if d<=now then l k else a|_=>a
 |_=>a
theorem Eg{α β:Type}{P:α->β->Prop}{now:Í}{st:Ev}{a r:α}{l:Kd->α}{a' r':β}{l':Kd->β}(h0:P a a')(h1:∀d,st=.mF d->d<=now->P r r')(h2:∀d k w m,st=.D_ (À d)->cur=À (.call k w m)->d<=now->P (l k) (l' k)):P (Yb now st cur a r l) (Yb now st cur a' r' l'):=by
 have py:∀{d:Í}{x:α}{y:β},(d<=now->P x y)->P (if d<=now then x else a) (if d<=now then y else a'):=λ{d Z Z}k=>by
  by_cases q:d<=now;.exact AA (Î q)<|AA (Î q)<|k q
  .exact AA (Ì q)<|AA (Ì q) h0
 induction st with|mF d=>exact py<|h1 d Ä|D_ d=>
  rcases d with _|d;.exact h0
  .rcases cur with _|_|⟨k,w,m⟩;.exact h0
   .exact h0
   .exact py<|h2 d k w m Ä Ä|_=>exact h0
def Az(now:Í)(c:Cl):Cl:=match c.cur,c.st with|À<|.call _ w _,.lr a=>{c with lr:=c.lr++[⟨w,a,c.ly,now-c.E_⟩]}|_,_=>c
theorem Cq{now:Í}:(Az now c).B?=c.B?/\(Az now c).cur=c.cur:=by
 obtain⟨st,B?,cur,E_,ly,lr⟩:=c;rcases cur with _|_|_;.exact ⟨Ä,Ä⟩
 .exact ⟨Ä,Ä⟩
 .induction st<;>exact⟨Ä,Ä⟩
namespace AQ
variable (M:AQ)
def mK(i:I3)(s:Ev):AQ:={M with cl:=Ab M.cl i {M.cl i with st:=s}}
def body(i:I3):Kd->AQ|.B_=>{M with B!:=M.B!++[(M.cl i).ly],B_:=M.B_++[(M.cl i).ly]}|.take=>match M.B! with|v::X=>{M with B!:=X,A?:=M.A?++[v],cl:=Ab M.cl i {M.cl i with ly:=v}}|[]=>M
def E!:Kd->Ë|.B_=>Ê<|(M.B!.length:Í)<M.room|.take=>!M.B!.isEmpty
def L?(k:Kd)(i:I3):AQ:={M.mK i .mA with q:=Df M.q k<|Aj i<|M.q k}
def T!(k:Kd)(i:I3):AQ:={M.L? k i with E?:=.G!,mN:=À i}
def Y?:AQ:={M with E?:=.lx (M.E! .B_)<|M.E! .take,mN:=È}
def next:Ã (Kd×I3):=match if M.E! .B_ then(M.q .B_).head? else È with|À i=>À (.B_,i)|È=>match if M.E! .take then(M.q .take).head? else È with|À i=>À (.take,i)|È=>È
def K!:AQ:=match M.next with|À (k,i)=>M.T! k i|È=>M.Y?
def after(j:I3)(k:Kd):AQ:=(M.body j k).mK j<|.lr .G?
def I_(i:I3):AQ:={M with cl:=Ab M.cl i<|Az M.now<|M.cl i}
def pop(i:I3)(row:Ah)(rest:Á Ah):AQ:={M with cl:=Ab M.cl i {M.cl i with B?:=rest,cur:=À row,E_:=M.now,ly:=row.pQ}}
def pX(i:I3):AQ:={M.mK i .mA with E?:=.G!,mN:=À i}
def Z_(i:I3)(k:Kd)(d:Ã Í):AQ:={M.mK i (.D_ d)with q:=Df M.q k<|M.q k++[i]}
def ask(i:I3)(k:Kd):Wt->AQ|.mr=>M.mK i<|.lr .I!|w=>M.Z_ i k<|w.dl M.now
def mT(k:Kd):Ë:=match M.E?,k with|.lx p _,.B_=>p|.lx _ t,.take=>t|_,_=>Æ
def wM(i:I3):Ah->AQ|.rest x=>M.mK i<|.mF<|M.now+mx x|.call k w _=>bif M.mT k then M.pX i else M.ask i k w
def mP(k:Kd)(i:I3):AQ:={M.mK i (.lr .mP)with q:=Df M.q k<|Aj i<|M.q k}
end AQ
def Kd.str:Kd->Ï|.B_=>"put"|.take=>"take"
def Kd.U_(k:Kd):V:=.D! [.str k.str,.none]
def Wt.v:Wt->V|.no=>.none|.mr=>.str "else"|.num i=>.int i
def Ah.v:Ah->V|.rest n=>.D! [.str "rest",.int n,.int 0]|.call k w m=>.D! [.str k.str,w.v,.int m]
def An.v:An->V|.G?=>.D! [.str "called"]|.I!=>.D! [.str "refused"]|.mP=>.D! [.str "late"]
def Bf.v(t:Bf):V:=.D! [t.w.v,t.a.v,.none,.int t.nS,.int t.mW]
def Ev.str:Ev->Ï|.mF _=>"delayed"|.D_ _=>"calling"|.mA=>"meeting"|.mE=>"completed"|.done=>"done"|_=>"ready"
def Am:Ã Í->V|È=>.none|À x=>.int x
def Ev.wk:Ev->Ã Í|.mF w=>À w|.D_ d=>d|_=>È
def Z3(c:Ev):Ë:=match c with|.D_ _=>Å|.mA=>Å|_=>Æ
def GQ.str:GQ->Ï|.G!=>"ready"|.lx _ _=>"accepting"|.mE=>"completed"|.done=>"done"
def Ol:Ã Ah->V|È=>.none|À r=>r.v
structure Cr where
 st:Ev
 B?:Á V
 cur:Ã Ah
 E_:Í
 ly:Í
 lr:Á V
structure Dr where
 now:Í
 room:Í
 q:Kd->Á V
 B!:Á V
 B_:Á V
 A?:Á V
 E?:GQ
 mN:Ã V
 oA:Á V
 M?:Ë
structure Fx where
 tk:I3->Ç
 dq:I3->Ç
 sv:I3->Ç
 ms:I3->Ç
 cd:I3->Ç
 ro:I3->Ç
 to:I3->Ç
 nM:Ç
 wO:Ç
 vJ:Ç
 vX:Ç
 tg:Ç
 ck:Ç
 sQ:Ç
 mV:Ç
 tA:Ç
 tB:Ç
 mY:Ç
 H_:Ç
 pL:Ç
 sd:Ç
 B!:Ç
 B_:Ç
 A?:Ç
 nN:Ç
 ch:Ç
 wR:Ç
 ot:Ç
 om:Ç
 n8:Ç
 pt:Ç
 wQ:Ç
 entries:Ç
 og:Ç
 G_:V
 oR:Á V
 q8:I3->V
structure Bc where
 o8:V
 mP:V
 call:V
 L_:V
 answer:V
 Q?:V
 hf:V
 j1:V
 j2:V
 j3:V
 sl:Ç
 ca:Ç
 slot:AC
 num:Í
 sU:V
 uq:V
 ur:V
 uo:V
structure Bs where
 o8:V
 mP:V
 call:V
 L_:V
 Q?:V
 hf:V
 j1:V
 j2:V
 j3:V
 oa:Ç
 o7:AC
 idx:V
structure Bd where
 mc:Í
 P_:Í
 lo:Ç
 mZ:Á V
 H_:Á V
 qa:Kd->Ç
 nH:Kd->AC
 ord:Ë
 li:Ç
 H?:Ã I3
def Ai(n:Ç):V:=.ref<|.inst "TaskThing" n
def Bj(n:Ç):V:=.ref<|.inst "EntryCall" n
def Ts(num:Í)(nm:Ï)(sQ:Ç)(j! sL o8 n! mP call q7 rB L_ answer:V)(h!:Í)(Q? hf j1 j2 j3:V):Á (Ï×V):=[("number",.int num),("name",.str nm),("master",.ref<|.inst "Master" sQ),("state",j!),("queues",sL),("open",o8),("wake",n!),("late",mP),("call",call),("serving",q7),("masters",rB),("raised",L_),("answer",answer),("is_abnormal",.bool Æ),("inside",.int h!),("activator",.none),("pending",Q?),("has_failed",hf),("stack",j1),("frame",.none),("result",.none),("bases",j2),("caught",j3),("resume",.none),("leaving",.none),("line",.int 0)]
section
variable (F:Fx)
def lJ(lu:Ë):V:=bif lu then Ai F.nM else .ref<|.inst "ProtectedThing" F.pt
def fy(lu:Ë)(b:Bc)(i:I3)(k:Kd):BX:=.inst "EntryCall" [("number",.int b.num),("caller",Ai<|F.tk i),("target",lJ F lu),("key",k.U_),("values",.ref<|.list b.sl),("state",b.sU),("deadline",b.uq),("is_firm",.bool Æ),("is_conditional",b.ur),("found",b.uo)]
def jS:Ã Ah->Kd|À (.call k _ _)=>k|_=>.B_
def cg(b:Bc)(l_:Í)(i:I3)(c:Cr):BX:=.inst "TaskThing"<|Ts (i.val+1) "client" F.sQ (.str c.st.str) (.ref<|.dict<|F.dq i) b.o8 (Am c.st.wk) b.mP (bif Z3 c.st then Bj b.ca else b.call) (.ref<|.list<|F.sv i) (.ref<|.list<|F.ms i) (match c.st with|.lr _=>.none|_=>b.L_) (match c.st with|.lr a=>a.v|_=>b.answer) l_ b.Q? b.hf b.j1 b.j2 b.j3
def jX(b:Bc)(i:I3)(c:Cr):Á (V×V):=[(.str "rows",.ref<|.list<|F.ro i),(.str "row",Ol c.cur),(.str "slip",.ref<|.list b.sl),(.str "since",.int c.E_),(.str "told",.ref<|.list<|F.to i)]
def c7(c:Cr):Á V:=match c.cur with|È=>[]|À _=>[.int c.ly]
def Y3(lu:Ë)(b:Bc)(i:I3)(c:Cr):AC:=bif Z3 c.st then(.inst "EntryCall" b.ca,fy F lu b i<|jS c.cur)else b.slot
def YJ(lu:Ë)(b:Bc)(i:I3)(c:Cr):Bc:={b with call:=bif Z3 c.st then Bj b.ca else b.call,L_:=match c.st with|.lr _=>.none|_=>b.L_,answer:=match c.st with|.lr a=>a.v|_=>b.answer,slot:=Y3 F lu b i c}
def TN(lu:Ë)(b:Bc)(l_:Í)(i:I3)(c:Cr):Á AC:=[(.inst "TaskThing"<|F.tk i,cg F b l_ i c),(.dict<|F.dq i,.dict []),(.list<|F.sv i,.list []),(.list<|F.ms i,.list []),(.dict<|F.cd i,.dict<|jX F b i c),(.list<|F.ro i,.list c.B?),(.list<|F.to i,.list c.lr),(.list b.sl,.list<|c7 c),Y3 F lu b i c]
def j7(n:Í)(k:Kd):V:=.D! [.int n,.str "accept",k.U_]
def ZZ(p t:Ë):Á V:=(bif p then[j7 0 .B_]else[])++(bif t then[j7 (bif p then 1 else 0) .take]else[])++[.D! [.int 2,.str "terminate",.none]]
def iA(s:Bs)(d:Dr):BX:=.inst "TaskThing"<|Ts 4 "server" F.sQ (.str d.E?.str) (.ref<|.dict F.wO) (match d.E? with|.lx _ _=>.ref<|.list s.oa|_=>s.o8) .none s.mP s.call (.ref<|.list F.vJ) (.ref<|.list F.vX) s.L_ (match d.mN with|À j=>.D! [.str "accept",s.idx,j]|È=>.none) 0 s.Q? s.hf s.j1 s.j2 s.j3
def HE(s:Bs)(d:Dr):Á AC:=[(.inst "TaskThing" F.nM,iA F s d),(.list F.vJ,.list d.oA),(.list F.vX,.list []),match d.E? with|.lx p t=>(.list s.oa,.list<|ZZ p t)|_=>s.o7]
def lY(b:Bd)(d:Dr):Á (V×V):=match d.q .B_,d.q .take with|[],[]=>[]|_::_,[]=>[(Kd.B_.U_,.ref<|.list<|b.qa .B_)]|[],_::_=>[(Kd.take.U_,.ref<|.list<|b.qa .take)]|_::_,_::_=>bif b.ord then[(Kd.B_.U_,.ref<|.list<|b.qa .B_),(Kd.take.U_,.ref<|.list<|b.qa .take)]else[(Kd.take.U_,.ref<|.list<|b.qa .take),(Kd.B_.U_,.ref<|.list<|b.qa .B_)]
def kD(b:Bd)(d:Dr)(k:Kd):AC:=match d.q k with|[]=>b.nH k|j::r=>(.list<|b.qa k,.list<|j::r)
def Zh(b:Bd):BX:=.inst "Tasking" [("limits",F.G_),("choose",.ref<|.mo F.ch),("clock",.ref<|.inst "Clock" F.ck),("tasks",.ref<|.list F.mV),("numbers",.int b.mc),("settled",.int b.P_),("library",.ref<|.inst "Master" F.sQ),("lost",.ref<|.list b.lo),("serve",.none)]
def hO(d:Dr):Á (V×V):=[(.str "room",.int d.room),(.str "lies",.ref<|.list F.B!),(.str "put",.ref<|.list F.B_),(.str "taken",.ref<|.list F.A?),(.str "is_sound",.bool d.M?)]
def BN(lu:Ë):Á V:=Ai (F.tk 0)::Ai (F.tk 1)::Ai (F.tk 2)::bif lu then[Ai F.nM]else[]
def Gz(lu:Ë)(b:Bd)(d:Dr):Á AC:=[(.inst "Tasking" F.tg,Zh F b),(.inst "Clock" F.ck,.inst "Clock" [("now",.int d.now)]),(.dict<|bif lu then F.wO else F.wQ,.dict<|lY b d),kD b d .B_,kD b d .take,(.dict F.sd,.dict<|hO F d),(.list F.B!,.list d.B!),(.list F.B_,.list d.B_),(.list F.A?,.list d.A?),(.list b.lo,.list b.mZ)]
def lN(b:Bd):BX:=.inst "ProtectedThing" [("number",.int 9),("entries",.ref<|.list F.entries),("queues",.ref<|.dict F.wQ),("writer",match b.H? with|À i=>Ai<|F.tk i|È=>.none),("readers",.ref<|.list F.og),("line",.ref<|.list b.li),("body",.none),("frame",.none),("cells",.none),("is_making",.bool Æ)]
def R7(b:Bd):Á AC:=[(.inst "ProtectedThing" F.pt,lN F b),(.list F.entries,.list [.str "put",.str "take"]),(.list F.og,.list []),(.list b.li,.list [])]
def BZ(i j:Ç):Đ:=match Vn i with|À f=>(f.body.drop j).headD<|.Pass ⟨0,0,0,0⟩|È=>.Pass ⟨0,0,0,0⟩
def dj(cl:Á<|Ï×Ad)(s:Đ):BX:=match PO s with|À f=>.mo f.params f.body f.scope cl|È=>.list []
def EJ(lu:Ë)(b:Bd):Á AC:=[(.inst "Master" F.sQ,.inst "Master" [("number",.int 0),("owner",.none),("dependents",.ref<|.list F.tA),("is_ended",.bool Å)]),(.list F.mV,.list<|BN F lu),(.list F.tA,.list<|BN F lu),(.list F.tB,.list<|BN F lu),(.list F.mY,.list [.ref<|.dict<|F.cd 0,.ref<|.dict<|F.cd 1,.ref<|.dict<|F.cd 2]),(.list F.H_,.list b.H_),(.list F.pL,.list F.oR),(.list F.nN,.list [F.q8 0,F.q8 1,F.q8 2]),(.mo F.ch,dj [("steps",.cell F.ot),("thing",.cell F.om),("wishes",.cell F.n8)]<|BZ 108 1),(.cell F.wR,.cell<|À<|.ref<|.inst "Tasking" F.tg),(.cell F.ot,.cell<|À<|.ref<|.list F.H_),(.cell F.om,.cell<|À<|bif lu then .none else .ref<|.inst "ProtectedThing" F.pt),(.cell F.n8,.cell<|À<|.ref<|.list F.pL)]
end
def BS(i:Ç):Fn:=match Vn i with|À f=>f|È=>⟨[],[],[],⟨.function,[],Æ,Æ,[]⟩⟩
def BP(i a b:Ç):Pr:=(Bv<|((BS i).body.take b).drop a).p ⟨(BS i).scope,[]⟩
def At(i:Ç)(as:Á V):Ï->Ã V:=Be (BS i).scope.names ((BS i).params.zip as) λZ=>È
theorem CR(b1 b2:Á Đ):∀s:S,((RN f<|b1++b2).p env).run G C s=(((RN f b1).p env).run G C s).bind λv s=>(F8 v<|(RN f b2).p env).run G C s:=by induction b1 with|nil=>exact λZ=>Ä|cons a r ih=>intro s;show(((f a).p env).bind λv=>F8 v<|(RN f<|r++b2).p env).run G C s=((((f a).p env).bind λv=>F8 v<|(RN f r).p env).run G C s).bind _;refine AA (Pr.F_ ..)<|AA (Pr.F_ ..)<|AA (AN.bind_assoc ..)<|Â (AN.bind _)<|ø λv=>ø λs=>?_;induction v using Internal.V.casesOn<;>first|exact ih s|rfl
def Ot(i:Ç):Ë:=(BS i).scope.names.all λp=>! p.2==.cell
theorem Pl{T:Eu}{n:Ç}{x:Ï}{i:Ç}(hx:T.fn x=À (BS i))(ha:Ar (BS i) as=À ((BS i).params.zip as))(hc:Ot i=Å)(s:S):AK T (n+1) (.fn x) as s=EK s.A! (((Bv (BS i).body).p ⟨(BS i).scope,[]⟩).run T.A_ (AK T n) {s with A!:=At i as}):=by refine(Â (λo=>As o λf=>C7 T.A_ (AK T n) f [] as s) hx).trans ?_;show C7 T.A_ (AK T n) (BS i) [] as s=_;unfold C7;refine AA ha ?_;dsimp only;exact AA (Gf λp hp e=>by have:=Hp hc p hp;rw[e]at this;cases this) Ä
theorem Vl{T:Eu}{n:Ç}{x:Ï}{i:Ç}(k:Ç){as:Á V}(hx:T.fn x=À (BS i))(ha:Ar (BS i) as=À ((BS i).params.zip as))(hc:Ot i=Å){s s1 s2:S}{v:Rv}{w:V}(h1:(BP i 0 k).run T.A_ (AK T n) {s with A!:=At i as}=.ok .none s1) (h2:(BP i k (BS i).body.length).run T.A_ (AK T n) s1=v.out s2) (hw:∀l s,EK l (v.out s)=.ok w {s with A!:=l}):AK T (n+1) (.fn x) as s=.ok w {s2 with A!:=s.A!}:=by refine AA (Pl hx ha hc ..) ?_;have e:=CR (f:=(OE 40).s) (env:=⟨(BS i).scope,[]⟩) (G:=T.A_) (C:=AK T n) ((BS i).body.take k) ((BS i).body.drop k) {s with A!:=At i as};rw[Á.take_append_drop]at e;unfold BP at h1 h2;rw[Á.drop_zero]at h1;rw[μ]at h2;refine(Â (EK s.A!)<|e.trans ?_).trans<|hw s.A! s2;exact(Â (AN.bind · _) h1).trans h2
def BD(n:Ç)(p:Pr)(lc:Ï->Ã V)(L:Á AC)(nx:Ç)(hs:Ç)(cs:CS):Rs:=cH TT.A_ (Qk TT n) p ⟨L,[],nx,[],lc⟩ hs cs []
theorem AE{n:Ç}{hs m:Ç}{r:Á Ç}(h:Hs L s)(hl:s.A!=lc)(hc:AL cs)(hr:(BD n p lc L s.nx hs cs).res m r=À ⟨v,L',A!,(BD n p lc L s.nx hs cs).T?⟩):Aa (p.run TT.A_ (AK TT n) s) v (Hs L') A!:=by subst hl;exact Tp h hc hr
theorem By{n:Ç}{hs m:Ç}{r:Á Ç}(h:Hs L s)(hl:s.A!=lc)(hc:AL cs)(hr:(BD n p lc L s.nx hs cs).pN m r=À (v,L',(BD n p lc L s.nx hs cs).T?)):A7 (p.run TT.A_ (AK TT n) s) v (Hs L'):=by subst hl;exact UH (Lf (HO TT n) p _ hs cs []) h hc hr
theorem AL.nil{α:Type}:AL ([]:Á<|α×α):=λZ h=>â h ã
theorem AL.cons{α:Type}{a b:α}{l:Á<|α×α}(e:a=b)(h:AL l):AL ((a,b)::l):=λq hq=>(Bt hq).elim (λz=>by exact AA z e)<|h q
structure En where
 F:Fx
 i:I3
 lu:Ë
 b:Bc
 bd:Bd
 d:Dr
 l_:Í
 tail:Á AC
 sv:V
 th:V
def En.cells(e:En)(c:Cr):Á AC:=TN e.F e.lu e.b e.l_ e.i c++(Gz e.F e.lu e.bd e.d++e.tail)
def En.A!(e:En):Ï->Ã V:=At 106 [.ref<|.inst "Tasking" e.F.tg,e.sv,e.th,.ref<|.dict e.F.sd,Ai<|e.F.tk e.i,.ref<|.dict<|e.F.cd e.i]
def En.oS(e:En)(c:Cr):Ï->Ã V:=AD (AD e.A! "now"<|.int e.d.now) "row"<|Ol c.cur
def EF(now:Í)(c:Cr):Cr:=match c.cur,c.st with|À<|.call _ w _,.lr a=>{c with lr:=c.lr++[.D! [w.v,a.v,.none,.int c.ly,.int<|now-c.E_]]}|_,_=>c
def CX(c:Cr):Prop:=match c.cur with|À (.call _ _ _)=>∃a,c.st=.lr a|_=>Ŀ
theorem NL{e:En}{c:Cr}{s:S}(h:Hs (e.cells c) s)(hl:s.A!=e.A!)(ok:CX c)(len:c.lr.length<G_):Aa ((BP 106 0 3).run TT.A_ (AK TT 16) s) (.ok .none) (Hs<|e.cells<|EF e.d.now c) (e.oS c):=by
 obtain⟨st,B?,cur,E_,ly,lr⟩:=c;rcases cur with _|r;.exact AE (hs:=133650) (m:=19) (r:=ê 19) (v:=.ok .none) h hl .nil ⋯
 .induction r with|rest x=>exact AE (hs:=133650) (m:=19) (r:=ê 19) (v:=.ok .none) h hl .nil ⋯|call k w m=>obtain⟨a,ea⟩:=ok;dsimp only at ea;subst ea;induction k with|B_=>exact AE (hs:=0xcfe3040e100000c1020a12) (m:=19) (r:=ê 19) (cs:=[(.b<|Ê<|lr.length<G_,.b Å)]) (v:=.ok .none) h hl (.cons (by exact AA (Ü len) Ä) .nil) ⋯|take=>exact AE (hs:=0xcfe3040e100000c1020a12) (m:=19) (r:=ê 19) (cs:=[(.b<|Ê<|lr.length<G_,.b Å)]) (v:=.ok .none) h hl (.cons (by exact AA (Ü len) Ä) .nil) ⋯
def Ht{α:Type}(f:Kd->α)(k:Kd)(x:α):Kd->α:=λj=>if j=k then x else f j
structure Ea where
 F:Fx
 i:I3
 b:Bc
 bd:Bd
 d:Dr
 sb:Bs
 tail:Á AC
def Ea.cells(a:Ea)(c:Cr):Á AC:=TN a.F Å a.b 0 a.i c++(Gz a.F Å a.bd a.d++(HE a.F a.sb a.d++a.tail))
def Ea.en(a:Ea):En:=⟨a.F,a.i,Å,a.b,a.bd,a.d,0,HE a.F a.sb a.d++a.tail,Ai a.F.nM,.none⟩
def fresh(row:V)(B?:Á V)(cur:Ã Ah)(E_ ly:Í)(lr:Á V):Cr:=⟨.fresh,row::B?,cur,E_,ly,lr⟩
def LF:Pr:=BP 106 3 9
def Bc.made(b:Bc)(n:Ç)(num:Í)(w:Wt)(now:Í)(st:Ï):Bc:={b with sl:=n+1,ca:=n+2,num:=num+1,sU:=.str st,uq:=Am<|w.dl now,ur:=.bool<|match w with|.mr=>Å|_=>Æ,uo:=.none,L_:=.none,answer:=.none}
def Ea.S?(a:Ea)(n:Ç):Ea:={a with b:={a.b with o8:=.ref<|.list<|n+5}}
def Ea.mO(a:Ea)(n:Ç):Ea:={a with b:={a.b with sl:=n+1,L_:=.none,answer:=.none}}
def Ea.I!(a:Ea)(n:Ç):Ea:={a with b:={a.b with sl:=n+1,call:=.none},bd:={a.bd with mc:=a.bd.mc+1}}
def VL:Á V->Ë|[]=>Å|_=>Æ
def Ea.lq(a:Ea)(n:Ç)(k:Kd)(w:Wt):Ea:={a with
 b:=a.b.made n a.bd.mc w a.d.now "queued"
 bd:={a.bd with mc:=a.bd.mc+1,qa:=bif VL (a.d.q k)then Ht a.bd.qa k (n+3)else a.bd.qa,ord:=bif VL (a.d.q k)then match k with|.B_=>Æ|.take=>Å else a.bd.ord}
 d:={a.d with q:=Ht a.d.q k<|a.d.q k++[Bj<|n+2]}}
def Xf(s:Bs)(d:Dr):AC:=match d.E? with|.lx p t=>(.list s.oa,.list<|ZZ p t)|_=>s.o7
def Ea.oi(a:Ea)(n:Ç)(k:Kd)(w:Wt)(idx:Í):Ea:={a with
 b:=a.b.made n a.bd.mc w a.d.now "served"
 bd:={a.bd with mc:=a.bd.mc+1}
 d:={a.d with E?:=.G!,mN:=À<|Bj<|n+2,oA:=a.d.oA++[Bj<|n+2]}
 sb:={a.sb with o8:=.ref<|.list<|n+3,mP:=.none,L_:=.none,o7:=Xf a.sb a.d,idx:=.int idx}}
def after(st:Ev)(row:Ah)(B?:Á V)(now:Í)(lr:Á V):Cr:=⟨st,B?,À row,now,row.pQ,lr⟩
def BV:Á Ç->Ç|[]=>0|d::r=>d+128*BV r
theorem XX{α β:Type}{f g:α->β}{l:Á α}(h:l.map f=l.map g){q:α}(m:q∈l):f q=g q:=Á.map_inj_left.mp h q m
noncomputable abbrev B4:=Ë×Ë×Ë×Ë
def Np:Á (Ë×Ë×Ë):=[Å,Æ].flatMap λa=>[Å,Æ].flatMap λb=>[Å,Æ].map λc=>(a,b,c)
def ZQ:Á B4:=[Å,Æ].flatMap λa=>Np.map λb=>(a,b)
theorem LQ(q:Ë×Ë×Ë):q∈Np:=by obtain⟨a,b,c⟩:=q;revert a b c;decide
theorem O9(q:B4):q∈ZQ:=by obtain⟨a,b,c,d⟩:=q;revert a b c d;decide
theorem AL.S!{α:Type}{a b:Á<|α×α}(h:AL a)(k:AL b):AL (a++b):=λq m=>(Hy m).elim (h q)<|k q
def Xo(b:Ë)(v:V)(l:Á V):Á V:=bif b then[]else v::l
theorem O7:∀o:Á V,∃b v l,o=Xo b v l|[]=>⟨Å,.none,[],Ä⟩|v::l=>⟨Æ,v,l,Ä⟩
def mT(s:GQ)(k:Kd):Ë:=match s,k with|.lx p _,.B_=>p|.lx _ t,.take=>t|_,_=>Æ
def TY(s:GQ)(k:Kd):Í:=match s,k with|.lx Å _,.take=>1|_,_=>0
def Wi(s:GQ):Prop:=match s with|.G!=>Ŀ|.lx p t=>(p||t)=Å|_=>Ń
def q2(a b:Á V):Kd->Á V|.B_=>a|.take=>b
theorem AU{c:Prop}[ğ c](h:c):X.b (Ê c)=.b Å:=Â X.b<|Ü h
theorem Ax{c:Prop}[ğ c](h:¬c):X.b (Ê c)=.b Æ:=Â X.b<|ā h
def cR(l:Á V)(r:Í)(b:Ë):X×X:=(.b<|id<|Ê<|(l.length:Í)<r,.b b)
def cI(i:I3):X×X:=(.b<|id<|id<|(ñ<|i.val+1).eqv<|.int<|i.val+1,.b Å)
def cE(x y:Í)(b:Ë):X×X:=(.b<|id<|(λx=>!x)<|(ñ x).eqv<|.int y,.b b)
def cL(n:Ç):X×X:=(.b<|Ê<|n<G_,.b Å)
def cZ(x:Í):X×X:=(.b<|id<|Ê<|x<=0,.b Æ)
theorem gT{r:Í}(h:(l.length:Í)<r)(g:AL cs):AL (cR l r Å::cs):=.cons (AU h) g
theorem gF{r:Í}(h:¬(l.length:Í)<r)(g:AL cs):AL (cR l r Æ::cs):=.cons (Ax h) g
theorem gL{n:Ç}(h:n<G_)(g:AL cs):AL (cL n::cs):=.cons (AU h) g
theorem gZ{x:Í}(h:0<x)(g:AL cs):AL (cZ x::cs):=.cons (Ax<|Í.not_le.mpr h) g
theorem gE{x:Í}(g:AL cs):AL (cE x x Æ::cs):=.cons (Â X.b<|by simp[û]) g
theorem gN{x y:Í}(h:¬x=y)(g:AL cs):AL (cE x y Å::cs):=.cons (Â X.b<|by simp[û,h]) g
theorem gI(g:AL cs):AL (cI i::cs):=.cons (Â X.b<|by simp[û]) g
def Ea.B_(a:Ea)(ord:Ë)(qp qt:Á V)(E?:GQ)(mN:Ã V)(oA:Á V):Ea:={a with bd:={a.bd with ord:=ord},d:={a.d with q:=q2 qp qt,E?:=E?,mN:=mN,oA:=oA}}
theorem Ea.oh(a:Ea):a.B_ a.bd.ord (a.d.q .B_) (a.d.q .take) a.d.E? a.d.mN a.d.oA=a:=by
 have:q2 (a.d.q .B_) (a.d.q .take)=a.d.q:=ø λk=>by induction k<;>rfl
 unfold Ea.B_;exact AA this Ä
structure Rw where
 B?:Á V
 lr:Á V
 cur:Ã Ah
 E_:Í
 ly:Í
structure JU(a:Ea)(u:Rw)(c:Cr)(s:S):Prop where
 h:Hs (a.cells c) s
 l:s.A!=a.en.oS c
def lhs(a:Ea)(c:Cr)(n hs m:Ç)(r:Á Ç)(cs:CS):Ã (Rv×Á AC×Á X):=(BD 16 LF (a.en.oS c) (a.cells c) n hs cs).pN m r
def rhs(a:Ea)(c:Cr)(n hs:Ç)(cs:CS)(v:V)(a':Ea)(c':Cr):Ã (Rv×Á AC×Á X):=À (.ok v,a'.cells c',(BD 16 LF (a.en.oS c) (a.cells c) n hs cs).T?)
def Ps(s:S)(v:V)(a':Ea)(c':Cr):Prop:=A7 (LF.run TT.A_ (AK TT 16) s) (.ok v)<|Hs<|a'.cells c'
theorem JU.K_(t:JU a u c s){hs m:Ç}{r:Á Ç}(hc:AL cs)(e:lhs a c s.nx hs m r cs=rhs a c s.nx hs cs v a' c'):Ps s v a' c':=By t.h t.l hc e
def Rw.call(u:Rw)(k:Kd)(w:Wt)(m:Í):Cr:=fresh (Ah.v<|.call k w m) u.B? u.cur u.E_ u.ly u.lr
def Rw.to(u:Rw)(a:Ea)(st:Ev)(row:Ah):Cr:=after st row u.B? a.d.now u.lr
section
variable{m:Í}{a:Ea}
def zi:Ç:=0x60c180000000000001000912243870e14182040810204081830004508
theorem YY(t:JU a u ⟨.fresh,[],u.cur,u.E_,u.ly,u.lr⟩ s):Ps s (.D! [.none]) (a.S? s.nx) ⟨.mE,[],u.cur,u.E_,u.ly,u.lr⟩:=t.K_ (hs:=zi) (m:=29) (r:=[6,7,8,9,10,11,12,13,14,15,16,17,18,19,20,21,22,23,24,25,26,27,28]) .nil ⋯
def zj:Ç:=0xa120003ffdfbf7efdfbf4000000000810204081020408102850a1004508
theorem UG{x:Í}(hx:0<x)(t:JU a u (fresh (Ah.v<|.rest x) u.B? u.cur u.E_ u.ly u.lr) s):Ps s .none (a.mO s.nx) (u.to a (.mF<|a.d.now+mx x)<|.rest x):=t.K_ (hs:=zj) (m:=25) (r:=[2,3,4,5,6,7,8,1,10,11,12,13,14,15,16,17,18,19,20,21,22,23,24]) (cs:=[(.b<|id<|Ê<|0<x,.b Å)]) (.cons (AU hx) .nil) ⋯
def XE:Á Ç:=[3,4,5,6,7,8,9,1,11,12,13,14,15,16,17,18,19,20,21,22,23,24,25]
def HF(n:Ç):Á Ç:=[n+0,n+1,n+2,n+3,n+4,n+5,n+6,1,2,n+9,n+10,n+11,n+12,n+13,n+14,n+15,n+16,n+17,n+18,n+19,n+20,n+21,n+22]
def iD:Á Ç:=[4,5,6,7,8,9,10,1,2,13,14,15,3,17,18,19,20,21,22,23,24,25,26]
def iC:Á Ç:=[4,5,6,7,8,9,10,1,2,13,14,15,16,3,18,19,20,21,22,23,24,25,26]
def zm:Ç:=0x28558b162c58993050a1428000142850a142850a142850a142850a142850a4891224493264c00000000040810204081020408102850a1004508
def zo:Ç:=0xa153050a1428000142850a142850a142850a142850a142850a4891224493264c00000000040810204081020408102850a1004508
theorem Ri{ord:Ë}(hu:Wi E?)(hS:mT E? k=Æ)(t:JU (a.B_ ord qp qt E? mN oA) u (u.call k .mr m) s):Ps s .none ((a.B_ ord qp qt E? mN oA).I! s.nx) (u.to (a.B_ ord qp qt E? mN oA) (.lr .I!)<|.call k .mr m):=by induction k with
 |B_=>induction E? with
  |lx x1 x2=>
   induction x1<;>induction x2;.exact CN hu
   .exact t.K_ (hs:=zm) (m:=26) (r:=XE) (cs:=[]) .nil ⋯
   .exact JZ hS
   .exact JZ hS|G!=>exact t.K_ (hs:=zo) (m:=26) (r:=XE) (cs:=[]) .nil ⋯|_=>induction hu
 |take=>induction E? with
  |lx x1 x2=>
   induction x1<;>induction x2;.exact CN hu
   .exact JZ hS
   .exact t.K_ (hs:=zm) (m:=26) (r:=XE) (cs:=[]) .nil ⋯
   .exact JZ hS|G!=>exact t.K_ (hs:=zo) (m:=26) (r:=XE) (cs:=[]) .nil ⋯|_=>induction hu
def zp:Ç:=0x993264c993264c993264ca14284c0000500002850a1562c58993050a1428000142850a142850a142850a142850a142850a4891224493264c00000000040810204081020408102850a1004508
def zq:Ç:=0x993264c993264c993264ca14284c0000500002850a1562c58993050a14294241428000142850a142850a142850a142850a142850a4891224493264c00000000040810204081020408102850a1004508
def zr:Ç:=0x4c993264c993264c9932650a1426000028000142850ab162c58993050a1428000142850a142850a142850a142850a142850a4891224493264c00000000040810204081020408102850a1004508
theorem Uf{ord:Ë}(hS:mT E? k=Å)(t:JU (a.B_ ord qp qt E? È []) u (u.call k w m) s):Ps s .none ((a.B_ ord qp qt E? È []).oi s.nx k w<|TY E? k) (u.to (a.B_ ord qp qt E? È []) .mA<|.call k w m):=by induction k with
 |B_=>induction w with
  |no=>induction E? with|lx x1 x2=>
    induction x1<;>induction x2;.exact CN hS
    .exact CN hS
    .exact t.K_ (hs:=zp) (m:=27) (r:=HF 4) (cs:=[]) .nil ⋯
    .exact t.K_ (hs:=zp) (m:=27) (r:=HF 4) (cs:=[]) .nil ⋯|_=>exact CN hS
  |mr=>induction E? with|lx x1 x2=>
    induction x1<;>induction x2;.exact CN hS
    .exact CN hS
    .exact t.K_ (hs:=zp) (m:=27) (r:=HF 4) (cs:=[]) .nil ⋯
    .exact t.K_ (hs:=zp) (m:=27) (r:=HF 4) (cs:=[]) .nil ⋯|_=>exact CN hS
  |num x=>induction E? with|lx x1 x2=>
    induction x1<;>induction x2;.exact CN hS
    .exact CN hS
    .exact t.K_ (hs:=zq) (m:=27) (r:=HF 4) (cs:=[]) .nil ⋯
    .exact t.K_ (hs:=zq) (m:=27) (r:=HF 4) (cs:=[]) .nil ⋯|_=>exact CN hS
 |take=>induction w with
  |no=>induction E? with|lx x1 x2=>
    induction x1<;>induction x2;.exact CN hS
    .exact t.K_ (hs:=zp) (m:=27) (r:=HF 4) (cs:=[]) .nil ⋯
    .exact CN hS
    .exact t.K_ (hs:=zr) (m:=27) (r:=HF 4) (cs:=[]) .nil ⋯|_=>exact CN hS
  |mr=>induction E? with|lx x1 x2=>
    induction x1<;>induction x2;.exact CN hS
    .exact t.K_ (hs:=zp) (m:=27) (r:=HF 4) (cs:=[]) .nil ⋯
    .exact CN hS
    .exact t.K_ (hs:=zr) (m:=27) (r:=HF 4) (cs:=[]) .nil ⋯|_=>exact CN hS
  |num x=>induction E? with|lx x1 x2=>
    induction x1<;>induction x2;.exact CN hS
    .exact t.K_ (hs:=zq) (m:=27) (r:=HF 4) (cs:=[]) .nil ⋯
    .exact CN hS
    .exact t.K_ (hs:=0x4c993264c993264c9932650a1426000028000142850ab162c58993050a14294241428000142850a142850a142850a142850a142850a4891224493264c00000000040810204081020408102850a1004508) (m:=27) (r:=HF 4) (cs:=[]) .nil ⋯|_=>exact CN hS
theorem Wv{α:Type}{l:Á α}{q:α}(mq:q∈l)(a:α->Ea)(c:α->Cr)(hs m:α->Ç)(r:α->Á Ç)(cs:α->CS)(v:V)(a':α->Ea)(c':α->Cr)(t:JU (a q) u (c q) s)(g:AL<|cs q)(e:l.map (λq=>lhs (a q) (c q) s.nx (hs q) (m q) (r q)<|cs q)=l.map λq=>rhs (a q) (c q) s.nx (hs q) (cs q) v (a' q)<|c' q):Ps s v (a' q) (c' q):=t.K_ g<|XX e mq
def W9(k:Kd)(acc:Ë):GQ:=bif acc then match k with|.B_=>.lx Æ Å|.take=>.lx Å Æ else .G!
theorem Zk(hu:Wi E?)(hS:mT E? k=Æ):∃acc,E?=W9 k acc:=by rcases E? with _|⟨_|_,_|_⟩|_|_<;>cases k<;>first|exact hu.elim|exact CN hu|exact JZ hS|exact⟨Æ,Ä⟩|exact⟨Å,Ä⟩
def dr(b:Ë)(x:Í):Wt:=bif b then .num x else .no
theorem aH(hw:match w with|.mr=>Ń|.num x=>0<x|.no=>Ŀ):∃b x,w=dr b x/\(b=Å->0<x):=by cases w with|mr=>exact hw.elim|no=>exact⟨Æ,0,Ä,nofun⟩|num x=>exact⟨Å,x,Ä,λZ=>hw⟩
noncomputable abbrev Qw:=Kd×Ë×Ë×Ë×Ë×Ë
def jf:Á Qw:=[Kd.B_,.take].flatMap λk=>Np.flatMap λp=>[Å,Æ].flatMap λb=>[Å,Æ].map λc=>(k,p.1,p.2.1,p.2.2,b,c)
theorem dy(k:Kd)(a b c d e:Ë):(k,a,b,c,d,e)∈jf:=YI ⟨k,by cases k<;>first|exact .head _|exact .tail _<|.head _,YI ⟨(a,b,c),LQ _,YI ⟨d,by cases d<;>decide,Et ⟨e,by cases e<;>decide,Ä⟩⟩⟩⟩
def Z7(q:Qw):Ë:=match q.1 with|.B_=>q.2.2.2.1|.take=>q.2.2.2.2.1
def C0:Á Ç:=[8,10,1,8,10,10,10]++ľ 11 8++ľ 5 0++[38,38,38]++ľ 5 18++ľ 20 5++[0,0]
def hW(q:Qw):Ç:=BV<|C0++[5,5]++(bif q.2.1 then[18,20,5,5]else[])++[5,5]++(bif q.2.2.2.2.2 then[38,38,44,44,44,44,44]else[38])++(bif q.2.1 then ľ (bif q.2.2.2.2.2 then 8 else 11) 125++[127]else[])++[5,38,5,22,5,22]++(bif Z7 q then[22,22,5,22,7,7,7]else match q.1 with|.B_=>[24,24,127,24]|.take=>[26,26,127,26])++[5,5,5,0,0,5,5,5]
def bO(b:Ë)(x:Í):CS:=bif b then[(.b<|id<|Ê<|x<=0,.b Æ)]else[]
def WA(b:Ë)(v:V)(l:Á V):CS:=bif b then[]else[(.b<|Ê<|(v::l).length<G_,.b Å)]
theorem ak{b:Ë}{x:Í}(h:b=Å->0<x):AL (bO b x):=by cases b with|true=>exact .cons (Ax<|Í.not_le.mpr<|h Ä) .nil|false=>exact .nil
theorem al{b:Ë}(h:(Xo b v l).length<G_):AL (WA b v l):=by cases b with|true=>exact .nil|false=>exact .cons (AU h) .nil
theorem Wr{ord:Ë}(hw:match w with|.mr=>Ń|.num x=>0<x|.no=>Ŀ)(hq:(q2 qp qt k).length<G_)(hu:Wi E?)(hS:mT E? k=Æ)(t:JU (a.B_ ord qp qt E? mN oA) u (u.call k w m) s):Ps s .none ((a.B_ ord qp qt E? mN oA).lq s.nx k w) (u.to (a.B_ ord qp qt E? mN oA) (.D_<|w.dl a.d.now)<|.call k w m):=by obtain⟨acc,rfl⟩:=Zk hu hS;obtain⟨wn,x,rfl,hx⟩:=aH hw;obtain⟨pe,v,l,rfl⟩:=O7 qp;obtain⟨te,v',l',rfl⟩:=O7 qt;have g:AL (bO wn x++match k with|.B_=>WA pe v l|.take=>WA te v' l'):=(ak hx).S! (by cases k<;>exact al hq);exact Wv (dy k wn ord pe te acc) (λq=>a.B_ q.2.2.1 (Xo q.2.2.2.1 v l) (Xo q.2.2.2.2.1 v' l') (W9 q.1 q.2.2.2.2.2) mN oA) (λq=>u.call q.1 (dr q.2.1 x) m) hW (λq=>bif Z7 q then 27 else 26) (λq=>bif Z7 q then match q.1 with|.B_=>iD|.take=>iC else HF 3) (λq=>bO q.2.1 x++match q.1 with|.B_=>WA q.2.2.2.1 v l|.take=>WA q.2.2.2.2.1 v' l') .none (λq=>(a.B_ q.2.2.1 (Xo q.2.2.2.1 v l) (Xo q.2.2.2.2.1 v' l') (W9 q.1 q.2.2.2.2.2) mN oA).lq s.nx q.1<|dr q.2.1 x) (λq=>u.to (a.B_ q.2.2.1 (Xo q.2.2.2.1 v l) (Xo q.2.2.2.2.1 v' l') (W9 q.1 q.2.2.2.2.2) mN oA) (.D_<|(dr q.2.1 x).dl a.d.now)<|.call q.1 (dr q.2.1 x) m) t g ⋯
end
def DR(F:Fx):Á V:=[.ref<|.inst "Tasking" F.tg,.ref<|.dict F.sd,Ai F.nM]
def pA:Pr:=BP 104 0 2
def K5(F:Fx)(wa:Ç):Ï->Ã V:=AD (At 104<|DR F) "ways"<|.ref<|.list wa
def Bc.mf(b:Bc)(n:Ç):Bc:={b with o8:=.ref<|.list n,mP:=.none,call:=.none,slot:=(.list n,.list [])}
def Dr.b_(d:Dr)(B! B_ A?:Á V)(M?:Ë):Dr:={d with B!:=B!,B_:=B_,A?:=A?,oA:=[],M?:=M?}
def Ea.T!(a:Ea)(B!:Á V):Ea:={a with d:={a.d with B!:=B!,E?:=.G!,mN:=À<|Bj a.b.ca,oA:=[Bj a.b.ca],M?:=Å}}
structure ZU(a:Ea)(c:Cr)(B!:Á V)(s:S):Prop where
 h:Hs ((a.T! B!).cells c) s
 l:s.A!=At 104 (DR a.F)
def Fe(u:Rw)(k:Kd)(w:Wt)(m:Í):Cr:=⟨.mA,u.B?,À<|.call k w m,u.E_,u.ly,u.lr⟩
def Lb(u:Rw)(k:Kd)(w:Wt)(m:Í)(ly:Í):Cr:=⟨.lr .G?,u.B?,À<|.call k w m,u.E_,ly,u.lr⟩
section
variable{m:Í}
theorem WL(t:ZU a (Fe u .B_ w m) B! s)(h1:B!.length<G_)(h2:a.d.B_.length<G_):Aa (pA.run TT.A_ (AK TT 16) s) (.ok .none) (Hs<|(.list<|s.nx+1,.list [])::Ea.cells {a.T! B! with b:=a.b.mf s.nx,d:=(a.T! B!).d.b_ (B!++[.int u.ly]) (a.d.B_++[.int u.ly]) a.d.A?<|Ê<|(B!.length:Í)<a.d.room} (Lb u .B_ w m u.ly)) (K5 a.F<|s.nx+1):=AE (hs:=0x2000010204081050a142641fd00e2080e1efe787103c70e1c3870f1c3841326) (m:=25) (r:=[1,2,3,4,5,6,7,8,9,0,11,12,13,14,15,16,17,18,19,20,21,22,23,24]) (cs:=[(.b<|Ê<|B!.length<G_,.b Å),(.b<|Ê<|a.d.B_.length<G_,.b Å)]) (v:=.ok .none) t.h t.l (.cons (AU h1)<|.cons (AU h2) .nil) ⋯
theorem Sz{y:Í}(t:ZU a (Fe u .take w m) (.int y::l) s)(h1:a.d.A?.length<G_):Aa (pA.run TT.A_ (AK TT 16) s) (.ok .none) (Hs<|(.list<|s.nx+2,.list [])::Ea.cells {a.T! (.int y::l)with b:=a.b.mf<|s.nx+1,d:=(a.T!<|.int y::l).d.b_ l a.d.B_ (a.d.A?++[.int y]) Å} (Lb u .take w m y)) (K5 a.F<|s.nx+2):=AE (hs:=0x2000010204081050a142645fd10e2088e0e1c40f1e3c7009e3841326) (m:=26) (r:=[2,3,4,5,6,7,8,9,10,1,12,13,14,15,16,17,18,19,20,21,22,23,24,25]) (cs:=[(.b<|Ê<|a.d.A?.length<G_,.b Å)]) (v:=.ok .none) t.h t.l (.cons (AU h1) .nil) ⋯
theorem S0{F:Fx}{bd:Bd}{sb:Bs}{d:Dr}{tail:Á AC}(h:Hs (Gz F Å bd {d with mN:=È}++(HE F sb {d with mN:=È}++tail)) s)(l:s.A!=At 104 (DR F)):Aa (pA.run TT.A_ (AK TT 16) s) (.ok .none) (Hs<|(.list s.nx,.list [])::(Gz F Å bd {d with mN:=È}++(HE F sb {d with mN:=È}++tail))) (K5 F s.nx):=AE (hs:=20) (m:=15) (r:=[0,1,2,3,4,5,6,7,8,9,10,11,12,13,14]) (v:=.ok .none) h l .nil ⋯
end
structure Ck where
 i:I3
 b:Bc
 c:Cr
def Af(F:Fx)(lu:Ë):Á Ck->Á AC->Á AC|[],t=>t|x::r,t=>TN F lu x.b 0 x.i x.c++Af F lu r t
def Ck.call(x:Ck):V:=Bj x.b.ca
def Ck.lq(i:I3)(b:Bc)(dl:Ã Í)(cur:Ã Ah)(u:Rw):Ck:=⟨i,b,⟨.D_ dl,u.B?,cur,u.E_,u.ly,u.lr⟩⟩
structure Eb where
 F:Fx
 bd:Bd
 d:Dr
 sb:Bs
 tail:Á AC
def Eb.cells(a:Eb)(wa:Ç)(l:Á Ck):Á AC:=(.list wa,.list [])::Af a.F Å l (Gz a.F Å a.bd a.d++(HE a.F a.sb a.d++a.tail))
def Eb.at(a:Eb)(ord:Ë)(qp qt B!:Á V):Eb:={a with bd:={a.bd with ord:=ord},d:={a.d with q:=q2 qp qt,B!:=B!,E?:=.G!,oA:=[]}}
def Eb.K_(a:Eb)(l:Á Ck):Á AC:=Af a.F Å l<|Gz a.F Å a.bd a.d++(HE a.F a.sb a.d++a.tail)
def pB:Pr:=BP 104 2 4
def AS:Á Ck->Á V|[]=>[]|x::r=>x.call::AS r
theorem Ug(x:Í):X.b (id<|(λx=>!x)<|(ñ x).eqv<|.int x)=.b Æ:=Â X.b<|by simp[û]
theorem aC{x y:Í}(h:¬x=y):X.b (id<|(λx=>!x)<|(ñ x).eqv<|.int y)=.b Å:=Â X.b<|by simp[û,h]
structure Cm(a:Eb)(wa:Ç)(l:Á Ck)(s:S):Prop where
 h:Hs (a.cells wa l) s
 l:s.A!=K5 a.F wa
def i6(a:Eb)(wa:Ç)(l:Á Ck)(n hs m:Ç)(r:Á Ç)(cs:CS):Ã (Rv×Á AC×Á X):=(BD 16 pB (K5 a.F wa) (a.cells wa l) n hs cs).pN m r
def iQ(a:Eb)(wa:Ç)(l:Á Ck)(n hs:Ç)(cs:CS)(L':Á AC):Ã (Rv×Á AC×Á X):=À (.ok .none,L',(BD 16 pB (K5 a.F wa) (a.cells wa l) n hs cs).T?)
def Bo(s:S)(L':Á AC):Prop:=A7 (pB.run TT.A_ (AK TT 16) s) (.ok .none)<|Hs L'
theorem Cm.K_{a:Eb}{wa:Ç}{l:Á Ck}{s:S}(t:Cm a wa l s){hs m:Ç}{r:Á Ç}{cs:CS}{L':Á AC}(hc:AL cs)(e:i6 a wa l s.nx hs m r cs=iQ a wa l s.nx hs cs L'):Bo s L':=By t.h t.l hc e
def E0(q n k r:Ç):Á Ç:=(ê<|9*q+14).map λj=>bif é k 0 then n+1+j else bif é (9*q+2+k) j then r else n+1+j
def Ck.X_(x:Ck):Ck:=⟨x.i,{x.b with sU:=.str "served"},{x.c with st:=.mA}⟩
def Eb.N!(a:Eb)(n kN:Ç)(k:Kd)(x:Ck)(r:Á Ck)(idx:Í):Eb:={a with
 bd:={a.bd with qa:=match r with|[]=>a.bd.qa|_=>Ht a.bd.qa k<|n+(kN-3),nH:=match r with|[]=>Ht a.bd.nH k (.list<|a.bd.qa k,.list [x.call])|_=>a.bd.nH}
 d:={a.d with q:=Ht a.d.q k<|AS r,mN:=À x.call,oA:=[x.call]}
 sb:={a.sb with o8:=.ref<|.list<|n+(kN-1),mP:=.none,L_:=.none,idx:=.int idx}}
def Eb.Q_(a:Eb)(n:Ç)(p t:Ë):Eb:={a with d:={a.d with E?:=.lx p t,mN:=È},sb:={a.sb with oa:=n+2,L_:=.none}}
section
variable{a:Eb}{ord:Ë}{wa:Ç}{d1 d2 d3:Ã Í}{c2 c3:Ã Ah}{m:Í}
theorem SG(hp:(B!.length:Í)<a.d.room)(t:Cm (a.at ord (AS [Ck.lq i1 b1 d1 (À<|.call .B_ w m) u1]) o B!) wa [Ck.lq i1 b1 d1 (À<|.call .B_ w m) u1] s):∃kN,Bo s (((a.at ord (AS [Ck.lq i1 b1 d1 (À<|.call .B_ w m) u1]) o B!).N! s.nx kN .B_ (Ck.lq i1 b1 d1 (À<|.call .B_ w m) u1) [] 0).K_<|(Ck.lq i1 b1 d1 (À<|.call .B_ w m) u1).X_::[]):=by
 rcases B! with _|⟨y,ys⟩;.refine ⟨10,?_⟩;rcases o with _|⟨v,vs⟩;rotate_left;induction ord using ċ;all_goals exact t.K_ (hs:=0xa142850a142850a142850a952a500811204089122460c18242cc111e6bffd242c91a3468c12166141a3460c280a142870aa142850a01800280f00000007ffa7901e) (m:=34) (r:=E0 1 10 0 7) (cs:=[cR [] a.d.room Å,cE b1.num b1.num Æ]) (gT hp<|gE .nil) ⋯
 .refine ⟨10,?_⟩;rcases o with _|⟨v,vs⟩;rotate_left;induction ord using ċ;all_goals exact t.K_ (hs:=0xa142850a142850a142850a952a500811204089122460c18242cc111e6bffd242c91a3468c12166141a3460c280a142870aa142850a018000000000280f00000007ffa7901e) (m:=34) (r:=E0 1 10 0 7) (cs:=[cR (y::ys) a.d.room Å,cE b1.num b1.num Æ]) (gT hp<|gE .nil) ⋯
theorem SE(hp:(B!.length:Í)<a.d.room)(h2:¬b2.num=b1.num)(t:Cm (a.at ord (AS [Ck.lq i1 b1 d1 (À<|.call .B_ w m) u1,Ck.lq i2 b2 d2 c2 u2]) o B!) wa [Ck.lq i1 b1 d1 (À<|.call .B_ w m) u1,Ck.lq i2 b2 d2 c2 u2] s):∃kN,Bo s (((a.at ord (AS [Ck.lq i1 b1 d1 (À<|.call .B_ w m) u1,Ck.lq i2 b2 d2 c2 u2]) o B!).N! s.nx kN .B_ (Ck.lq i1 b1 d1 (À<|.call .B_ w m) u1) [Ck.lq i2 b2 d2 c2 u2] 0).K_<|(Ck.lq i1 b1 d1 (À<|.call .B_ w m) u1).X_::[Ck.lq i2 b2 d2 c2 u2]):=by
 rcases B! with _|⟨y,ys⟩;.refine ⟨10,?_⟩;rcases o with _|⟨v,vs⟩;rotate_left;induction ord using ċ;all_goals exact t.K_ (hs:=0x74e9d3a74e9d3a74e9d3a78f1e3a0408902044891254a951216447acfff490b48b3ffd242c92c58b151216a9d2c58a953a0a142870ae9d3a74e818002c9800000007ffac1930) (m:=43) (r:=E0 2 10 1 7) (cs:=[cR [] a.d.room Å,cE b1.num b1.num Æ,cE b2.num b1.num Å]) (gT hp<|gE<|gN h2 .nil) ⋯
 .refine ⟨10,?_⟩;rcases o with _|⟨v,vs⟩;rotate_left;induction ord using ċ;all_goals exact t.K_ (hs:=0x74e9d3a74e9d3a74e9d3a78f1e3a0408902044891254a951216447acfff490b48b3ffd242c92c58b151216a9d2c58a953a0a142870ae9d3a74e8180000000002c9800000007ffac1930) (m:=43) (r:=E0 2 10 1 7) (cs:=[cR (y::ys) a.d.room Å,cE b1.num b1.num Æ,cE b2.num b1.num Å]) (gT hp<|gE<|gN h2 .nil) ⋯
theorem SD(hp:(B!.length:Í)<a.d.room)(h2:¬b2.num=b1.num)(h3:¬b3.num=b1.num)(t:Cm (a.at ord (AS [Ck.lq i1 b1 d1 (À<|.call .B_ w m) u1,Ck.lq i2 b2 d2 c2 u2,Ck.lq i3 b3 d3 c3 u3]) o B!) wa [Ck.lq i1 b1 d1 (À<|.call .B_ w m) u1,Ck.lq i2 b2 d2 c2 u2,Ck.lq i3 b3 d3 c3 u3] s):∃kN,Bo s (((a.at ord (AS [Ck.lq i1 b1 d1 (À<|.call .B_ w m) u1,Ck.lq i2 b2 d2 c2 u2,Ck.lq i3 b3 d3 c3 u3]) o B!).N! s.nx kN .B_ (Ck.lq i1 b1 d1 (À<|.call .B_ w m) u1) [Ck.lq i2 b2 d2 c2 u2,Ck.lq i3 b3 d3 c3 u3] 0).K_<|(Ck.lq i1 b1 d1 (À<|.call .B_ w m) u1).X_::[Ck.lq i2 b2 d2 c2 u2,Ck.lq i3 b3 d3 c3 u3]):=by
 rcases B! with _|⟨y,ys⟩;.refine ⟨10,?_⟩;rcases o with _|⟨v,vs⟩;rotate_left;induction ord using ċ;all_goals exact t.K_ (hs:=0x264c993264c993264c993274e9d3010224081122449e3c78485911efbffd242db3efff490b48fbffd242c93e7cf9e1216f263e7cf1e4c0a142870b3264c99301800312100000007ffb0a242) (m:=52) (r:=E0 3 10 1 7) (cs:=[cR [] a.d.room Å,cE b1.num b1.num Æ,cE b2.num b1.num Å,cE b3.num b1.num Å]) (gT hp<|gE<|gN h2<|gN h3 .nil) ⋯
 .refine ⟨10,?_⟩;rcases o with _|⟨v,vs⟩;rotate_left;induction ord using ċ;all_goals exact t.K_ (hs:=0x264c993264c993264c993274e9d3010224081122449e3c78485911efbffd242db3efff490b48fbffd242c93e7cf9e1216f263e7cf1e4c0a142870b3264c993018000000000312100000007ffb0a242) (m:=52) (r:=E0 3 10 1 7) (cs:=[cR (y::ys) a.d.room Å,cE b1.num b1.num Æ,cE b2.num b1.num Å,cE b3.num b1.num Å]) (gT hp<|gE<|gN h2<|gN h3 .nil) ⋯
theorem Mu(hp:((y::ys).length:Í)<a.d.room)(t:Cm (a.at ord [] (AS [Ck.lq i1 b1 d1 (À<|.call .take w m) u1])<|y::ys) wa [Ck.lq i1 b1 d1 (À<|.call .take w m) u1] s):∃kN,Bo s (((a.at ord [] (AS [Ck.lq i1 b1 d1 (À<|.call .take w m) u1])<|y::ys).N! s.nx kN .take (Ck.lq i1 b1 d1 (À<|.call .take w m) u1) [] 1).K_<|(Ck.lq i1 b1 d1 (À<|.call .take w m) u1).X_::[]):=⟨11,by exact t.K_ (hs:=0x50a142850a142850a142854a9528040890204489123060c121a6099139ffe921a48e1c386090d30a0e1c30614051260c280a142870aa142850a018000000000280f00000007ffa7901e) (m:=35) (r:=E0 1 11 0 8) (cs:=[cR (y::ys) a.d.room Å,cE b1.num b1.num Æ]) (gT hp<|gE .nil) ⋯⟩
theorem Mr(hp:¬((y::ys).length:Í)<a.d.room)(t:Cm (a.at ord o (AS [Ck.lq i1 b1 d1 (À<|.call .take w m) u1])<|y::ys) wa [Ck.lq i1 b1 d1 (À<|.call .take w m) u1] s):∃kN,Bo s (((a.at ord o (AS [Ck.lq i1 b1 d1 (À<|.call .take w m) u1])<|y::ys).N! s.nx kN .take (Ck.lq i1 b1 d1 (À<|.call .take w m) u1) [] 0).K_<|(Ck.lq i1 b1 d1 (À<|.call .take w m) u1).X_::[]):=by refine⟨10,?_⟩;rcases o with _|⟨v,vs⟩;rotate_left;induction ord using ċ;all_goals exact t.K_ (hs:=0xa142850a142850a142850a952a500811204089122460c18242cc111e73ffd242c91c3870c12166141c3860c280a142870aa142850a018000000000280f7ffa7901e) (m:=34) (r:=E0 1 10 0 7) (cs:=[cR (y::ys) a.d.room Æ,cE b1.num b1.num Æ]) (gF hp<|gE .nil) ⋯
theorem Mt(hp:((y::ys).length:Í)<a.d.room)(h2:¬b2.num=b1.num)(t:Cm (a.at ord [] (AS [Ck.lq i1 b1 d1 (À<|.call .take w m) u1,Ck.lq i2 b2 d2 c2 u2])<|y::ys) wa [Ck.lq i1 b1 d1 (À<|.call .take w m) u1,Ck.lq i2 b2 d2 c2 u2] s):∃kN,Bo s (((a.at ord [] (AS [Ck.lq i1 b1 d1 (À<|.call .take w m) u1,Ck.lq i2 b2 d2 c2 u2])<|y::ys).N! s.nx kN .take (Ck.lq i1 b1 d1 (À<|.call .take w m) u1) [Ck.lq i2 b2 d2 c2 u2] 1).K_<|(Ck.lq i1 b1 d1 (À<|.call .take w m) u1).X_::[Ck.lq i2 b2 d2 c2 u2]):=⟨11,by exact t.K_ (hs:=0x3a74e9d3a74e9d3a74e9d3c78f1d020448102244892a54a890d264577ffa486a45dffe921a4972e5ca890d54e972e54a9d0512a953a0a142870ae9d3a74e8180000000002c9800000007ffac1930) (m:=44) (r:=E0 2 11 2 8) (cs:=[cR (y::ys) a.d.room Å,cE b1.num b1.num Æ,cE b2.num b1.num Å]) (gT hp<|gE<|gN h2 .nil) ⋯⟩
theorem Mq(hp:¬((y::ys).length:Í)<a.d.room)(h2:¬b2.num=b1.num)(t:Cm (a.at ord o (AS [Ck.lq i1 b1 d1 (À<|.call .take w m) u1,Ck.lq i2 b2 d2 c2 u2])<|y::ys) wa [Ck.lq i1 b1 d1 (À<|.call .take w m) u1,Ck.lq i2 b2 d2 c2 u2] s):∃kN,Bo s (((a.at ord o (AS [Ck.lq i1 b1 d1 (À<|.call .take w m) u1,Ck.lq i2 b2 d2 c2 u2])<|y::ys).N! s.nx kN .take (Ck.lq i1 b1 d1 (À<|.call .take w m) u1) [Ck.lq i2 b2 d2 c2 u2] 0).K_<|(Ck.lq i1 b1 d1 (À<|.call .take w m) u1).X_::[Ck.lq i2 b2 d2 c2 u2]):=by refine⟨10,?_⟩;rcases o with _|⟨v,vs⟩;rotate_left;induction ord using ċ;all_goals exact t.K_ (hs:=0x74e9d3a74e9d3a74e9d3a78f1e3a0408902044891254a951216447aefff490b48bbffd242c92e5cb951216a9d2e5ca953a0a142870ae9d3a74e8180000000002c987ffac1930) (m:=43) (r:=E0 2 10 2 7) (cs:=[cR (y::ys) a.d.room Æ,cE b1.num b1.num Æ,cE b2.num b1.num Å]) (gF hp<|gE<|gN h2 .nil) ⋯
theorem Ms(hp:((y::ys).length:Í)<a.d.room)(h2:¬b2.num=b1.num)(h3:¬b3.num=b1.num)(t:Cm (a.at ord [] (AS [Ck.lq i1 b1 d1 (À<|.call .take w m) u1,Ck.lq i2 b2 d2 c2 u2,Ck.lq i3 b3 d3 c3 u3])<|y::ys) wa [Ck.lq i1 b1 d1 (À<|.call .take w m) u1,Ck.lq i2 b2 d2 c2 u2,Ck.lq i3 b3 d3 c3 u3] s):∃kN,Bo s (((a.at ord [] (AS [Ck.lq i1 b1 d1 (À<|.call .take w m) u1,Ck.lq i2 b2 d2 c2 u2,Ck.lq i3 b3 d3 c3 u3])<|y::ys).N! s.nx kN .take (Ck.lq i1 b1 d1 (À<|.call .take w m) u1) [Ck.lq i2 b2 d2 c2 u2,Ck.lq i3 b3 d3 c3 u3] 1).K_<|(Ck.lq i1 b1 d1 (À<|.call .take w m) u1).X_::[Ck.lq i2 b2 d2 c2 u2,Ck.lq i3 b3 d3 c3 u3]):=⟨11,by exact t.K_ (hs:=0x13264c993264c993264c993a74e9808112040891224f1e3c243499181ffe921ada07ffa486a481ffe921a4a04080f090d793204078f260512f1e4c0a142870b3264c993018000000000312100000007ffb0a242) (m:=53) (r:=E0 3 11 2 8) (cs:=[cR (y::ys) a.d.room Å,cE b1.num b1.num Æ,cE b2.num b1.num Å,cE b3.num b1.num Å]) (gT hp<|gE<|gN h2<|gN h3 .nil) ⋯⟩
theorem Mp(hp:¬((y::ys).length:Í)<a.d.room)(h2:¬b2.num=b1.num)(h3:¬b3.num=b1.num)(t:Cm (a.at ord o (AS [Ck.lq i1 b1 d1 (À<|.call .take w m) u1,Ck.lq i2 b2 d2 c2 u2,Ck.lq i3 b3 d3 c3 u3])<|y::ys) wa [Ck.lq i1 b1 d1 (À<|.call .take w m) u1,Ck.lq i2 b2 d2 c2 u2,Ck.lq i3 b3 d3 c3 u3] s):∃kN,Bo s (((a.at ord o (AS [Ck.lq i1 b1 d1 (À<|.call .take w m) u1,Ck.lq i2 b2 d2 c2 u2,Ck.lq i3 b3 d3 c3 u3])<|y::ys).N! s.nx kN .take (Ck.lq i1 b1 d1 (À<|.call .take w m) u1) [Ck.lq i2 b2 d2 c2 u2,Ck.lq i3 b3 d3 c3 u3] 0).K_<|(Ck.lq i1 b1 d1 (À<|.call .take w m) u1).X_::[Ck.lq i2 b2 d2 c2 u2,Ck.lq i3 b3 d3 c3 u3]):=by refine⟨10,?_⟩;rcases o with _|⟨v,vs⟩;rotate_left;induction ord using ċ;all_goals exact t.K_ (hs:=0x264c993264c993264c993274e9d3010224081122449e3c78485911f03ffd242db40fff490b4903ffd242c9408101e1216f264080f1e4c0a142870b3264c99301800000000031217ffb0a242) (m:=52) (r:=E0 3 10 2 7) (cs:=[cR (y::ys) a.d.room Æ,cE b1.num b1.num Æ,cE b2.num b1.num Å,cE b3.num b1.num Å]) (gF hp<|gE<|gN h2<|gN h3 .nil) ⋯
def zt:Ç:=0x58b162c142850a1428512183160a142870a58b162c581800238600000007ffa3070c
theorem Sv(hp:(([]:Á V).length:Í)<a.d.room)(t:Cm (a.at ord [] o []) wa [] s):Bo s (((a.at ord [] o []).Q_ s.nx Å Æ).K_ []):=by
 rcases o with _|⟨v,vs⟩;.exact t.K_ (hs:=zt) (m:=20) (r:=(E0 0 5 0 0).set 13 2) (cs:=[cR [] a.d.room Å]) (gT hp .nil) ⋯
 .exact t.K_ (hs:=zt) (m:=20) (r:=(E0 0 5 0 0).set 13 2) (cs:=[cR [] a.d.room Å]) (gT hp .nil) ⋯
theorem Pf(hp:((y::ys).length:Í)<a.d.room)(t:Cm (a.at ord [] []<|y::ys) wa [] s):Bo s (((a.at ord [] []<|y::ys).Q_ s.nx Å Å).K_ []):=by exact t.K_ (hs:=0x162c58b050a142850a1428b0c18b0512183160a142870a58b162c5818000000000238600000007ffa3070c) (m:=21) (r:=(E0 0 6 0 0).set 13 2) (cs:=[cR (y::ys) a.d.room Å]) (gT hp .nil) ⋯
def zu:Ç:=0x58b162c142850a1428512183160a142870a58b162c581800000000023867ffa3070c
theorem Pe(hp:¬((y::ys).length:Í)<a.d.room)(t:Cm (a.at ord o []<|y::ys) wa [] s):Bo s (((a.at ord o []<|y::ys).Q_ s.nx Æ Å).K_ []):=by
 rcases o with _|⟨v,vs⟩;.exact t.K_ (hs:=zu) (m:=20) (r:=(E0 0 5 0 0).set 13 2) (cs:=[cR (y::ys) a.d.room Æ]) (gF hp .nil) ⋯
 .exact t.K_ (hs:=zu) (m:=20) (r:=(E0 0 5 0 0).set 13 2) (cs:=[cR (y::ys) a.d.room Æ]) (gF hp .nil) ⋯
end
structure Eo where
 F:Fx
 bd:Bd
 d:Dr
 tail:Á AC
def Eo.cells(a:Eo)(x:Ck)(l:Á Ck):Á AC:=Af a.F Æ (x::l)<|Gz a.F Æ a.bd a.d++(R7 a.F a.bd++a.tail)
def Eo.at(a:Eo)(ord:Ë)(qp qt B!:Á V):Eo:={a with bd:={a.bd with ord:=ord,H?:=È},d:={a.d with q:=q2 qp qt,B!:=B!,M?:=Å}}
def Eo.oS(a:Eo)(sv:V)(x:Ck):Ï->Ã V:=En.oS ⟨a.F,x.i,Æ,x.b,a.bd,a.d,0,[],sv,.ref<|.inst "ProtectedThing" a.F.pt⟩ x.c
def BL(i:I3)(b:Bc)(u:Rw)(row:V):Ck:=⟨i,b,fresh row u.B? u.cur u.E_ u.ly u.lr⟩
def jP(i:I3)(b:Bc)(u:Rw):Ck:=⟨i,b,⟨.fresh,[],u.cur,u.E_,u.ly,u.lr⟩⟩
structure CO(a:Eo)(x:Ck)(l:Á Ck)(sv:V)(s:S):Prop where
 h:Hs (a.cells x l) s
 l:s.A!=a.oS sv x
def eL(a:Eo)(x:Ck)(l:Á Ck)(sv:V)(n hs m:Ç)(r:Á Ç)(cs:CS):Ã (Rv×Á AC×Á X):=(BD 16 LF (a.oS sv x) (a.cells x l) n hs cs).pN m r
def dI(a:Eo)(x:Ck)(l:Á Ck)(sv:V)(n hs:Ç)(cs:CS)(v:V)(L':Á AC):Ã (Rv×Á AC×Á X):=À (.ok v,L',(BD 16 LF (a.oS sv x) (a.cells x l) n hs cs).T?)
def Co(s:S)(v:V)(L':Á AC):Prop:=A7 (LF.run TT.A_ (AK TT 16) s) (.ok v)<|Hs L'
theorem CO.K_{a:Eo}{x:Ck}{l:Á Ck}{sv:V}{s:S}(t:CO a x l sv s){hs m:Ç}{r:Á Ç}{cs:CS}{v:V}{L':Á AC}(hc:AL cs)(e:eL a x l sv s.nx hs m r cs=dI a x l sv s.nx hs cs v L'):Co s v L':=By t.h t.l hc e
def nW(w:Wt):Í:=match w with|.num x=>x|_=>0
def kP(w:Wt)(p sg n:Ç):Ç:=match w with|.num _=>n%128^p+128^p*(sg+128^4*(n/128^p))|_=>n
theorem lQ(w:Wt):w∈[Wt.no,.mr,.num<|nW w]:=by induction w with|no=>exact .head _|mr=>exact .tail _<|.head _|num x=>exact .tail _<|.tail _<|.head _
theorem bF{w:Wt}{a:Eo}{x:Wt->Ck}{l:Á Ck}{sv v:V}{s:S}{L':Wt->Á AC}(t:CO a (x w) l sv s)(n p sg m:Ç)(r:Á Ç)(cs:CS)(g:AL cs)(e:[Wt.no,.mr,.num<|nW w].map (λw=>eL a (x w) l sv s.nx (kP w p sg n) m r cs)=[Wt.no,.mr,.num<|nW w].map λw=>dI a (x w) l sv s.nx (kP w p sg n) cs v<|L' w):Co s v (L' w):=t.K_ g<|XX e<|lQ w
def Dw(q n:Ç)(p:Á<|Ç×Ç):Á Ç:=(ê<|9*q+14).map λj=>match p.lookup j with|À i=>i|È=>n+j
def Bc.M_(b:Bc)(n o:Ç):Bc:={b with sl:=n+1,o8:=.ref<|.list<|n+o,mP:=.none,call:=.none,slot:=(.list n,.list [])}
def Bc.su(b:Bc)(n o:Ç):Bc:={b with o8:=.ref<|.list<|n+o,mP:=.none,call:=.none,slot:=(.list<|n+o,.list [])}
def Ck.lr(x:Ck)(n o:Ç)(ly:Í):Ck:=⟨x.i,x.b.su n o,{x.c with st:=.lr .G?,ly:=ly}⟩
def DQ(i:I3)(b:Bc)(u:Rw)(n o:Ç)(row:Ah)(now ly:Í):Ck:=⟨i,b.M_ n o,⟨.lr .G?,u.B?,À row,now,ly,u.lr⟩⟩
def Eo.next(a:Eo)(n l:Ç)(d:Dr):Eo:={a with bd:={a.bd with mc:=a.bd.mc+1,li:=n+l},d:=d}
def Eo.mz(a:Eo)(k:Kd)(n r:Ç)(x:Ck)(l:Á Ck):Eo:={a with bd:={a.bd with qa:=match l with|[]=>a.bd.qa|_=>Ht a.bd.qa k<|n+r,nH:=match l with|[]=>Ht a.bd.nH k (.list<|a.bd.qa k,.list [x.call])|_=>a.bd.nH},d:={a.d with q:=Ht a.d.q k<|AS l}}
def Eo.lq(a:Eo)(n c l:Ç)(k:Kd):Eo:={a with
 bd:={a.bd with mc:=a.bd.mc+1,li:=n+l,qa:=bif VL (a.d.q k)then Ht a.bd.qa k (n+c+1)else a.bd.qa}
 d:={a.d with q:=Ht a.d.q k<|a.d.q k++[Bj<|n+c]}}
def Tc(i:I3)(b:Bc)(u:Rw)(n c:Ç)(num:Í)(k:Kd)(w:Wt)(m now:Í):Ck:=⟨i,{b with sl:=n+1,ca:=n+c,num:=num+1,sU:=.str "queued",uq:=Am<|w.dl now,ur:=.bool<|match w with|.mr=>Å|_=>Æ,uo:=.none,L_:=.none,answer:=.none},⟨.D_<|w.dl now,u.B?,À<|.call k w m,now,m,u.lr⟩⟩
theorem dh(x:Í):X.b (id<|id<|(ñ x).eqv<|.int x)=.b Å:=Â X.b<|by simp[û]
section
variable{a:Eo}{ord:Ë}{d2 d3:Ã Í}{c3:Ã Ah}{m m2 x y:Í}
theorem Rm(hp:(B!.length:Í)<a.d.room)(hl:B!.length<G_)(hq:a.d.B_.length<G_)(vo:B!=[]\/OB λy ys=>B!=.int y::ys)(t:CO (a.at ord [] [] B!) (BL i b u<|Ah.v<|.call .B_ w m) [] sv s):OB λo l=>Co s .none<|((a.at ord [] [] B!).next s.nx l {(a.at ord [] [] B!).d with B!:=B!++[.int m],B_:=a.d.B_++[.int m],M?:=Ê<|(B!.length:Í)<a.d.room}).cells (DQ i b u s.nx o (.call .B_ w m) a.d.now m) []:=by
 rcases vo with rfl|⟨y,ys,rfl⟩;.refine ⟨7,17,?_⟩;exact bF (w:=w) (x:=λw=>BL i b u<|Ah.v<|.call .B_ w m) (L':=λw=>((a.at ord [] [] []).next s.nx 17 {(a.at ord [] [] []).d with B!:=[]++[.int m],B_:=a.d.B_++[.int m],M?:=Ê<|([].length:Í)<a.d.room}).cells (DQ i b u s.nx 7 (.call .B_ w m) a.d.now m) []) t 0x8d3264cb162c4c9937ffa010804c98000008541f3e7ce9d3a6cc962c58b1932994172e5ca952a4c8962c58b1122994285098000000000000000000000680003468d1a3507f400c6a03878f031a78e1c3870e1e38706851a3400000000001a3468d1a3468d1a3468d1a3468d1a3468d1a34912244897ffa70f1c0a1c3a64c0000016a932612b13265498000000040810204081020408102850a1004508 72 27478546 41 (Dw 1 18 [(7,1),(8,0),(22,17)]) [cR [] a.d.room Å,cL a.d.B_.length,cI i] (gT hp<|gL hq<|gI .nil) ⋯
 .refine ⟨7,17,?_⟩;exact bF (w:=w) (x:=λw=>BL i b u<|Ah.v<|.call .B_ w m) (L':=λw=>((a.at ord [] []<|.int y::ys).next s.nx 17 {(a.at ord [] []<|.int y::ys).d with B!:=.int y::ys++[.int m],B_:=a.d.B_++[.int m],M?:=Ê<|((.int y::ys).length:Í)<a.d.room}).cells (DQ i b u s.nx 7 (.call .B_ w m) a.d.now m) []) t 0x469932658b16264c9bffd00840264c0000042a0f9f3e74e9d3664b162c58c994ca0b972e54a952644b162c588914ca14284c000000000000000000000340001a3468d1a83fa0063501c3dfcf031a78e1c3870e1e38706851a3400000000001a3468d1a3468d1a3468d1a3468d1a3468d1a34912244897ffa70f1c0a1c3a64c0000016a932612b13265498000000040810204081020408102850a1004508 72 27478546 41 (Dw 1 18 [(7,1),(8,0),(22,17)]) [cR (.int y::ys) a.d.room Å,cL<|(.int y::ys).length,cL a.d.B_.length,cI i] (gT hp<|gL hl<|gL hq<|gI .nil) ⋯
theorem MY(hp:(([]:Á V).length:Í)<a.d.room)(hq:a.d.B_.length<G_)(ht:a.d.A?.length<G_)(t:CO (a.at ord [] (AS [Ck.lq i2 b2 d2 (À<|.call .take w2 m2) u2]) []) (BL i b u<|Ah.v<|.call .B_ w m) [Ck.lq i2 b2 d2 (À<|.call .take w2 m2) u2] sv s):b7 λo o2 l r=>Co s .none<|(((a.at ord [] (AS [Ck.lq i2 b2 d2 (À<|.call .take w2 m2) u2]) []).mz .take s.nx r (Ck.lq i2 b2 d2 (À<|.call .take w2 m2) u2) []).next s.nx l {((a.at ord [] (AS [Ck.lq i2 b2 d2 (À<|.call .take w2 m2) u2]) []).mz .take s.nx r (Ck.lq i2 b2 d2 (À<|.call .take w2 m2) u2) []).d with B!:=[],B_:=a.d.B_++[.int m],A?:=a.d.A?++[.int m],M?:=Ê<|(([]:Á V).length:Í)<a.d.room}).cells (DQ i b u s.nx o (.call .B_ w m) a.d.now m)<|(Ck.lq i2 b2 d2 (À<|.call .take w2 m2) u2).lr s.nx o2 m::[]:=by refine⟨7,23,33,0,?_⟩;exact bF (w:=w) (x:=λw=>BL i b u<|Ah.v<|.call .B_ w m) (L':=λw=>(((a.at ord [] (AS [Ck.lq i2 b2 d2 (À<|.call .take w2 m2) u2]) []).mz .take s.nx 0 (Ck.lq i2 b2 d2 (À<|.call .take w2 m2) u2) []).next s.nx 33 {((a.at ord [] (AS [Ck.lq i2 b2 d2 (À<|.call .take w2 m2) u2]) []).mz .take s.nx 0 (Ck.lq i2 b2 d2 (À<|.call .take w2 m2) u2) []).d with B!:=[],B_:=a.d.B_++[.int m],A?:=a.d.A?++[.int m],M?:=Ê<|(([]:Á V).length:Í)<a.d.room}).cells (DQ i b u s.nx 7 (.call .B_ w m) a.d.now m)<|(Ck.lq i2 b2 d2 (À<|.call .take w2 m2) u2).lr s.nx 23 m::[]) t 0x10dc3870f9f3e70e1c7ffa0208070e00000105d3f7efdebd7aedca850a143972e1d376eddab56acd8a850a143162e1d3a74e091224489122448912244911224891224489a7f68811345c8102260c182e5ac17220a48922244912244a1428449542b52b3ffd449512c58b14224aa1c2c58a143842c17050e1cf9f3e74d993a74e9b32a141b366ccac50a14285064cb8745cb972a54a9322a142850a141122e1d3a74e0000000000000000000000680003468d1a3597f640c6b25cc18031ac172e5cb97305cb86851a3400000000001a3468d1a3468d1a3468d1a3468d1a3468d1a35224489127ffab982e0a1c3b8700000016f1c3812f9c3878e0000000040810204081020408102850a1004508 72 27480868 66 (Dw 2 34 [(7,1),(8,0),(17,23),(31,33)]) [cR [] a.d.room Å,cL a.d.B_.length,cE b2.num b2.num Æ,cL a.d.A?.length,cI i] (gT hp<|gL hq<|gE<|gL ht<|gI .nil) ⋯
theorem MX(hp:(([]:Á V).length:Í)<a.d.room)(hq:a.d.B_.length<G_)(ht:a.d.A?.length<G_)(h3:¬b3.num=b2.num)(t:CO (a.at ord [] (AS [Ck.lq i2 b2 d2 (À<|.call .take w2 m2) u2,Ck.lq i3 b3 d3 c3 u3]) []) (BL i b u<|Ah.v<|.call .B_ w m) [Ck.lq i2 b2 d2 (À<|.call .take w2 m2) u2,Ck.lq i3 b3 d3 c3 u3] sv s):b7 λo o2 l r=>Co s .none<|(((a.at ord [] (AS [Ck.lq i2 b2 d2 (À<|.call .take w2 m2) u2,Ck.lq i3 b3 d3 c3 u3]) []).mz .take s.nx r (Ck.lq i2 b2 d2 (À<|.call .take w2 m2) u2) [Ck.lq i3 b3 d3 c3 u3]).next s.nx l {((a.at ord [] (AS [Ck.lq i2 b2 d2 (À<|.call .take w2 m2) u2,Ck.lq i3 b3 d3 c3 u3]) []).mz .take s.nx r (Ck.lq i2 b2 d2 (À<|.call .take w2 m2) u2) [Ck.lq i3 b3 d3 c3 u3]).d with B!:=[],B_:=a.d.B_++[.int m],A?:=a.d.A?++[.int m],M?:=Ê<|(([]:Á V).length:Í)<a.d.room}).cells (DQ i b u s.nx o (.call .B_ w m) a.d.now m)<|(Ck.lq i2 b2 d2 (À<|.call .take w2 m2) u2).lr s.nx o2 m::[Ck.lq i3 b3 d3 c3 u3]:=by refine⟨7,23,34,20,?_⟩;exact bF (w:=w) (x:=λw=>BL i b u<|Ah.v<|.call .B_ w m) (L':=λw=>(((a.at ord [] (AS [Ck.lq i2 b2 d2 (À<|.call .take w2 m2) u2,Ck.lq i3 b3 d3 c3 u3]) []).mz .take s.nx 20 (Ck.lq i2 b2 d2 (À<|.call .take w2 m2) u2) [Ck.lq i3 b3 d3 c3 u3]).next s.nx 34 {((a.at ord [] (AS [Ck.lq i2 b2 d2 (À<|.call .take w2 m2) u2,Ck.lq i3 b3 d3 c3 u3]) []).mz .take s.nx 20 (Ck.lq i2 b2 d2 (À<|.call .take w2 m2) u2) [Ck.lq i3 b3 d3 c3 u3]).d with B!:=[],B_:=a.d.B_++[.int m],A?:=a.d.A?++[.int m],M?:=Ê<|(([]:Á V).length:Í)<a.d.room}).cells (DQ i b u s.nx 7 (.call .B_ w m) a.d.now m)<|(Ck.lq i2 b2 d2 (À<|.call .take w2 m2) u2).lr s.nx 23 m::[Ck.lq i3 b3 d3 c3 u3]) t 0x8b2a54aa14284a952bffd010c04a94000008731fc185002870efdfbf7aedcbd7af5db974e9dbb76e54ba74e9d3a72e654c6eddbb56ad59b174e9d3a74e98b1953264c94489122448912244891224889124489122451bfc6408a3404081142850a02d85011052449112248912274e9d224aad4befff512568fbffd449513e7cf9d224aea53e7ce9d4a430a0050e1cf9f3e74d993a74e9b32e9d1b366ccbe74e9d3a7464cca985cb972a54a9322e9d3a74e9d11232a64c9928000000000000000000000680003468d1a3627f880c6c4810a1031b0a040810204281006851a3400000000001a3468d1a3468d1a3468d1a3468d1a3468d1a35b366cd9b7ffb021400a1c3ca9400000173a54a134254a9d28000000040810204081020408102850a1004508 72 27483190 76 (Dw 3 35 [(7,1),(8,0),(17,23),(40,34),(31,20)]) [cR [] a.d.room Å,cL a.d.B_.length,cE b2.num b2.num Æ,cE b3.num b2.num Å,cL a.d.A?.length,cI i] (gT hp<|gL hq<|gE<|gN h3<|gL ht<|gI .nil) ⋯
theorem OZ(ht:a.d.A?.length<G_)(t:CO (a.at ord [] []<|.int y::ys) (BL i b u<|Ah.v<|.call .take w m) [] sv s):OB λo l=>Co s .none<|((a.at ord [] []<|.int y::ys).next s.nx l {(a.at ord [] []<|.int y::ys).d with B!:=ys,A?:=a.d.A?++[.int y]}).cells (DQ i b u s.nx o (.call .take w m) a.d.now y) []:=by refine⟨9,19,?_⟩;exact bF (w:=w) (x:=λw=>BL i b u<|Ah.v<|.call .take w m) (L':=λw=>((a.at ord [] []<|.int y::ys).next s.nx 19 {(a.at ord [] []<|.int y::ys).d with B!:=ys,A?:=a.d.A?++[.int y]}).cells (DQ i b u s.nx 9 (.call .take w m) a.d.now y) []) t 0x13a64c9962c5899326fff4025009930000012a8468d1a14284f9d2c58b163a75328366cd993264b952c58b162a5532850a130000000000000000000000f000078f1e3c7a2fe8818f44701831e78f1e3844f1c1e1478f0000000000078f1e3c78f1e3c78f1e3c78f1e3c78f1e3c78f24489122434f1c0a1c3a64c0000016a932612b13265498000000040810204081020408102850a1004508 70 31705618 43 (Dw 1 20 [(7,1),(8,0),(22,19)]) [cL a.d.A?.length,cI i] (gL ht<|gI .nil) ⋯
theorem K1(hp:(ys.length:Í)<a.d.room)(hf:¬((ys++[V.int u2.ly]).length:Í)<a.d.room)(hl:ys.length<G_)(hq:a.d.B_.length<G_)(ht:a.d.A?.length<G_)(t:CO (a.at ord (AS [Ck.lq i2 b2 d2 (À<|.call .B_ w2 m2) u2]) []<|.int y::ys) (BL i b u<|Ah.v<|.call .take w m) [Ck.lq i2 b2 d2 (À<|.call .B_ w2 m2) u2] sv s):b7 λo o2 l r=>Co s .none<|(((a.at ord (AS [Ck.lq i2 b2 d2 (À<|.call .B_ w2 m2) u2]) []<|.int y::ys).mz .B_ s.nx r (Ck.lq i2 b2 d2 (À<|.call .B_ w2 m2) u2) []).next s.nx l {((a.at ord (AS [Ck.lq i2 b2 d2 (À<|.call .B_ w2 m2) u2]) []<|.int y::ys).mz .B_ s.nx r (Ck.lq i2 b2 d2 (À<|.call .B_ w2 m2) u2) []).d with B!:=ys++[.int u2.ly],B_:=a.d.B_++[.int u2.ly],A?:=a.d.A?++[.int y],M?:=Ê<|(ys.length:Í)<a.d.room}).cells (DQ i b u s.nx o (.call .take w m) a.d.now y)<|(Ck.lq i2 b2 d2 (À<|.call .B_ w2 m2) u2).lr s.nx o2 u2.ly::[]:=by refine⟨9,19,29,0,?_⟩;exact bF (w:=w) (x:=λw=>BL i b u<|Ah.v<|.call .take w m) (L':=λw=>(((a.at ord (AS [Ck.lq i2 b2 d2 (À<|.call .B_ w2 m2) u2]) []<|.int y::ys).mz .B_ s.nx 0 (Ck.lq i2 b2 d2 (À<|.call .B_ w2 m2) u2) []).next s.nx 29 {((a.at ord (AS [Ck.lq i2 b2 d2 (À<|.call .B_ w2 m2) u2]) []<|.int y::ys).mz .B_ s.nx 0 (Ck.lq i2 b2 d2 (À<|.call .B_ w2 m2) u2) []).d with B!:=ys++[.int u2.ly],B_:=a.d.B_++[.int u2.ly],A?:=a.d.A?++[.int y],M?:=Ê<|(ys.length:Í)<a.d.room}).cells (DQ i b u s.nx 9 (.call .take w m) a.d.now y)<|(Ck.lq i2 b2 d2 (À<|.call .B_ w2 m2) u2).lr s.nx 19 u2.ly::[]) t 0x1db870e1f3e7ce1c38fff403900e1c000001cba6eddbb56ad59b150a142862c5c3a5ebd7ad5ab55a950a142852a5c3a74e9c1224489122448912244892224491224489132fec902264b987f60811305cb972e5cc172e4414912444892244894285088fa84a8d57ffa88fa254a9528447d43854a942871ffeae60b82870e6cd9b325ca993264b9550a0b972e5552850a14282a55c3a74e9c0000000000000000000000f000078f1e3c7b4fed018f68b81831ec18305c4582e1e1478f0000000000078f1e3c78f1e3c78f1e3c78f1e3c78f1e3c78f4891224483582e0a1c3b8700000016f1c3812f9c3878e0000000040810204081020408102850a1004508 70 31707940 62 (Dw 2 30 [(7,1),(8,0),(17,19),(31,29)]) [cL a.d.A?.length,cR ys a.d.room Å,cE b2.num b2.num Æ,cL ys.length,cL a.d.B_.length,cI i] (gL ht<|gT hp<|gE<|gL hl<|gL hq<|gI .nil) ⋯
theorem K0(hp:(ys.length:Í)<a.d.room)(hf:¬((ys++[V.int u2.ly]).length:Í)<a.d.room)(hl:ys.length<G_)(hq:a.d.B_.length<G_)(ht:a.d.A?.length<G_)(h3:¬b3.num=b2.num)(t:CO (a.at ord (AS [Ck.lq i2 b2 d2 (À<|.call .B_ w2 m2) u2,Ck.lq i3 b3 d3 c3 u3]) []<|.int y::ys) (BL i b u<|Ah.v<|.call .take w m) [Ck.lq i2 b2 d2 (À<|.call .B_ w2 m2) u2,Ck.lq i3 b3 d3 c3 u3] sv s):b7 λo o2 l r=>Co s .none<|(((a.at ord (AS [Ck.lq i2 b2 d2 (À<|.call .B_ w2 m2) u2,Ck.lq i3 b3 d3 c3 u3]) []<|.int y::ys).mz .B_ s.nx r (Ck.lq i2 b2 d2 (À<|.call .B_ w2 m2) u2) [Ck.lq i3 b3 d3 c3 u3]).next s.nx l {((a.at ord (AS [Ck.lq i2 b2 d2 (À<|.call .B_ w2 m2) u2,Ck.lq i3 b3 d3 c3 u3]) []<|.int y::ys).mz .B_ s.nx r (Ck.lq i2 b2 d2 (À<|.call .B_ w2 m2) u2) [Ck.lq i3 b3 d3 c3 u3]).d with B!:=ys++[.int u2.ly],B_:=a.d.B_++[.int u2.ly],A?:=a.d.A?++[.int y],M?:=Ê<|(ys.length:Í)<a.d.room}).cells (DQ i b u s.nx o (.call .take w m) a.d.now y)<|(Ck.lq i2 b2 d2 (À<|.call .B_ w2 m2) u2).lr s.nx o2 u2.ly::[Ck.lq i3 b3 d3 c3 u3]:=by refine⟨9,19,29,17,?_⟩;exact bF (w:=w) (x:=λw=>BL i b u<|Ah.v<|.call .take w m) (L':=λw=>(((a.at ord (AS [Ck.lq i2 b2 d2 (À<|.call .B_ w2 m2) u2,Ck.lq i3 b3 d3 c3 u3]) []<|.int y::ys).mz .B_ s.nx 17 (Ck.lq i2 b2 d2 (À<|.call .B_ w2 m2) u2) [Ck.lq i3 b3 d3 c3 u3]).next s.nx 29 {((a.at ord (AS [Ck.lq i2 b2 d2 (À<|.call .B_ w2 m2) u2,Ck.lq i3 b3 d3 c3 u3]) []<|.int y::ys).mz .B_ s.nx 17 (Ck.lq i2 b2 d2 (À<|.call .B_ w2 m2) u2) [Ck.lq i3 b3 d3 c3 u3]).d with B!:=ys++[.int u2.ly],B_:=a.d.B_++[.int u2.ly],A?:=a.d.A?++[.int y],M?:=Ê<|(ys.length:Í)<a.d.room}).cells (DQ i b u s.nx 9 (.call .take w m) a.d.now y)<|(Ck.lq i2 b2 d2 (À<|.call .B_ w2 m2) u2).lr s.nx 19 u2.ly::[Ck.lq i3 b3 d3 c3 u3]) t 0x3b952a550a14254a95ffe80720254a000003998ddbb76ad5ab362e9d3a74e9d31632a62ffff604280143875ebd7ad56a56ad5aad4ba74ad5ab528dd3a74e9d29532a64c99289122448912244891224491122489122448a27f8881144810bfc2408a140810204085020220a48922244912244e9d3a447d2a379ffea23ed1e7ffa88fa278f1e3a447dd4a78f1d3a95ffec085002870e6cd9b325ca993264b9574e8b972e55e3a74e9d3a2a5654c993250000000000000000000000f000078f1e3c7c6ff1818f8d001831f0a14280461401e1478f0000000000078f1e3c78f1e3c78f1e3c78f1e3c78f1e3c78f6cd9b366c361400a1c3ca9400000173a54a134254a9d28000000040810204081020408102850a1004508 70 31710262 71 (Dw 3 30 [(7,1),(8,0),(17,19),(40,29),(30,17)]) [cL a.d.A?.length,cR ys a.d.room Å,cE b2.num b2.num Æ,cE b3.num b2.num Å,cL ys.length,cL a.d.B_.length,cR (ys++[V.int u2.ly]) a.d.room Æ,cI i] (gL ht<|gT hp<|gE<|gN h3<|gL hl<|gL hq<|gF hf<|gI .nil) ⋯
theorem Ma(hp:¬((V.int y::ys).length:Í)<a.d.room)(t:CO (a.at ord o []<|.int y::ys) (BL i b u<|Ah.v<|.call .B_ .mr m) [] sv s):∃l,Co s .none (((a.at ord o []<|.int y::ys).next s.nx l (a.at ord o []<|.int y::ys).d).cells ⟨i,{b with sl:=s.nx+1,call:=.none},after (.lr .I!) (.call .B_ .mr m) u.B? a.d.now u.lr⟩ []):=by
 rcases o with _|⟨v,vs⟩;.refine ⟨16,?_⟩;exact t.K_ (hs:=0x214c9932c58b13264dffe803e01326000001f5074e9d366cd992e58b162c5cba65054a95264c9911e58b162c3c7a650a142600000001a3400000000001a3468d1a3468d1a3468d1a3468d1a3468d1a34912244897ffa70f1c0a1c3a64c0000016a932612b13265498000000040810204081020408102850a1004508) (m:=40) (r:=Dw 1 17 [(7,1),(22,16)]) (cs:=[cR (.int y::ys) a.d.room Æ,cI i]) (gF hp<|gI .nil) ⋯
 .refine ⟨16,?_⟩;exact t.K_ (hs:=0x853264cb162c4c9937ffa00f804c98000007d41d3a74d9b3664b962c58b162c5cba65057ffd3878e050e1ca952a4c88f264c9911e58b1122447982c58b162c3c7a650a142600000001a3400000000001a3468d1a3468d1a3468d1a3468d1a3468d1a34912244897ffa70f1c0a1c3a64c0000016a932612b13265498000000040810204081020408102850a1004508) (m:=40) (r:=Dw 1 17 [(7,1),(22,16)]) (cs:=[cR (.int y::ys) a.d.room Æ,cR (.int y::ys) a.d.room Æ,cI i]) (gF hp<|gF hp<|gI .nil) ⋯
theorem Rl(hw:match w with|.mr=>Ń|.num x=>0<x|.no=>Ŀ)(hl:o.length<G_)(hp:¬((V.int y::ys).length:Í)<a.d.room)(t:CO (a.at ord o []<|.int y::ys) (BL i b u<|Ah.v<|.call .B_ w m) [] sv s):OB λc l=>Co s .none<|((a.at ord o []<|.int y::ys).lq s.nx c l .B_).cells (Tc i b u s.nx c a.bd.mc .B_ w m a.d.now) []:=by induction w with|mr=>induction hw|no=>
  rcases o with _|⟨v,vs⟩;.refine ⟨6,17,?_⟩;exact t.K_ (hs:=0x469932658b16264c9bffd00840264c0000042a0f9f3e74e9d3664b162c58b1632653282fffe9c3c702870e5cb972a4c8952a549912c5899326447962c58b16224532850a1300003468d000068d1a3c78f2c34b162c34b0d4c3400000000001a3468d1a3468d1a3468d1a3468d1a3468d1a34912244897ffa70f1c0a1c3a64c0000016a932612b13265498000000040810204081020408102850a1004508) (m:=41) (r:=Dw 1 18 [(7,1),(8,6),(22,17),(12,7)]) (cs:=[cR (.int y::ys) a.d.room Æ,cR (.int y::ys) a.d.room Æ,cI i]) (gF hp<|gF hp<|gI .nil) ⋯
  .refine ⟨6,16,?_⟩;exact t.K_ (hs:=0x214c9932c58b13264dffe803e01326000001f5074e9d366cd992e58b162c58b172e99415fff4e1e38143872a54a93223c99326447962c448911e60b162c58b0f1e9942850980001a34680003468d31fcc182c34b0d4c3400000000001a3468d1a3468d1a3468d1a3468d1a3468d1a34912244897ffa70f1c0a1c3a64c0000016a932612b13265498000000040810204081020408102850a1004508) (m:=40) (r:=Dw 1 17 [(7,1),(8,6),(22,16)]) (cs:=[cR (.int y::ys) a.d.room Æ,cL<|(v::vs).length,cR (.int y::ys) a.d.room Æ,cI i]) (gF hp<|gL hl<|gF hp<|gI .nil) ⋯|num x=>
  rcases o with _|⟨v,vs⟩;.refine ⟨6,17,?_⟩;exact t.K_ (hs:=0x8d3264cb162c4c9937ffa010804c98000008541f3e7ce9d3a6cc962c58b162c64ca6505fffd3878e050e1cb972e549912a54a932258b13264c88f2c58b162c448a650a1426000068d1a0000d1a3478f1e586962c586961a986fffbf7efdfbf400000000001a34a121a3468d1a3468d1a3468d1a3468d1a3468d1a34912244897ffa70f1c0a1c3a64c0000016a932612b13265498000000040810204081020408102850a1004508) (m:=41) (r:=Dw 1 18 [(7,1),(8,6),(22,17),(12,7)]) (cs:=[cR (.int y::ys) a.d.room Æ,cZ x,cR (.int y::ys) a.d.room Æ,cI i]) (gF hp<|gZ hw<|gF hp<|gI .nil) ⋯
  .refine ⟨6,16,?_⟩;exact t.K_ (hs:=0x429932658b16264c9bffd007c0264c000003ea0e9d3a6cd9b325cb162c58b162e5d3282bffe9c3c702870e54a952644793264c88f2c58891223cc162c58b161e3d32850a1300003468d000068d1a63f9830586961a986fffbf7efdfbf400000000001a34a121a3468d1a3468d1a3468d1a3468d1a3468d1a34912244897ffa70f1c0a1c3a64c0000016a932612b13265498000000040810204081020408102850a1004508) (m:=40) (r:=Dw 1 17 [(7,1),(8,6),(22,16)]) (cs:=[cR (.int y::ys) a.d.room Æ,cZ x,cL<|(v::vs).length,cR (.int y::ys) a.d.room Æ,cI i]) (gF hp<|gZ hw<|gL hl<|gF hp<|gI .nil) ⋯
theorem K2(t:CO (a.at ord [] o []) (BL i b u<|Ah.v<|.call .take .mr m) [] sv s):∃l,Co s .none (((a.at ord [] o []).next s.nx l (a.at ord [] o []).d).cells ⟨i,{b with sl:=s.nx+1,call:=.none},after (.lr .I!) (.call .take .mr m) u.B? a.d.now u.lr⟩ []):=by
 rcases o with _|⟨v,vs⟩;.refine ⟨17,?_⟩;exact t.K_ (hs:=0x8d3264cb162c4c9937ffa010804c98000008541f3e7ce9d3a6cc962c58b1932994172e5ca952a4c8962c58b1122994285098000000078f0000000000078f1e3c78f1e3c78f1e3c78f1e3c78f1e3c78f24489122434f1c0a1c3a64c0000016a932612b13265498000000040810204081020408102850a1004508) (m:=41) (r:=Dw 1 18 [(7,1),(22,17)]) (cs:=[cI i]) (gI .nil) ⋯
 .refine ⟨18,?_⟩;exact t.K_ (hs:=0x953264cb162c4c9937ffa011804c98000008d41f4278e050e1cf9f3e74d993a74e9b3258b1b366cc9a2c58b162c64ca6505cb972a54a932258b162c58b1122994285098000000078f0000000000078f1e3c78f1e3c78f1e3c78f1e3c78f1e3c78f24489122434f1c0a1c3a64c0000016a932612b13265498000000040810204081020408102850a1004508) (m:=42) (r:=Dw 1 19 [(7,1),(22,18)]) (cs:=[cI i]) (gI .nil) ⋯
theorem OY(hw:match w with|.mr=>Ń|.num x=>0<x|.no=>Ŀ)(hl:o.length<G_)(t:CO (a.at ord [] o []) (BL i b u<|Ah.v<|.call .take w m) [] sv s):OB λc l=>Co s .none<|((a.at ord [] o []).lq s.nx c l .take).cells (Tc i b u s.nx c a.bd.mc .take w m a.d.now) []:=by induction w with|mr=>induction hw|no=>
  rcases o with _|⟨v,vs⟩;.refine ⟨7,19,?_⟩;exact t.K_ (hs:=0x4e9932658b16264c9bffd00940264c000004aa10a33c702870e850a13e74d9f3e7ce9b2c58e9d3a6c8962c58b16366d3283264c972e5ca932c58b162c589934ca14284c0000f1e3c0001e3c7912244b0f2c58b0f2c3d30f0000000000078f1e3c78f1e3c78f1e3c78f1e3c78f1e3c78f24489122434f1c0a1c3a64c0000016a932612b13265498000000040810204081020408102850a1004508) (m:=43) (r:=Dw 1 20 [(7,1),(8,7),(22,19),(13,8)]) (cs:=[cI i]) (gI .nil) ⋯
  .refine ⟨7,18,?_⟩;exact t.K_ (hs:=0x254c9932c58b13264dffe8046013260000023507d09e38143873e7cf9d3664e9d3a6cc962c6cd9b3268b162c58b1932994172e5ca952a4c8962c58b162c448a650a1426000078f1e0000f1e3cd7f3468b0f2c3d30f0000000000078f1e3c78f1e3c78f1e3c78f1e3c78f1e3c78f24489122434f1c0a1c3a64c0000016a932612b13265498000000040810204081020408102850a1004508) (m:=42) (r:=Dw 1 19 [(7,1),(8,7),(22,18)]) (cs:=[cL<|(v::vs).length,cI i]) (gL hl<|gI .nil) ⋯|num x=>
  rcases o with _|⟨v,vs⟩;.refine ⟨7,19,?_⟩;exact t.K_ (hs:=0x9d3264cb162c4c9937ffa012804c9800000954214678e050e1d0a1427ce9b3e7cf9d3658b1d3a74d912c58b162c6cda65064c992e5cb952658b162c58b13269942850980001e3c780003c78f22448961e58b161e587a61fffefdfbf7efd0000000000078f284878f1e3c78f1e3c78f1e3c78f1e3c78f1e3c78f24489122434f1c0a1c3a64c0000016a932612b13265498000000040810204081020408102850a1004508) (m:=43) (r:=Dw 1 20 [(7,1),(8,7),(22,19),(13,8)]) (cs:=[cZ x,cI i]) (gZ hw<|gI .nil) ⋯
  .refine ⟨7,18,?_⟩;exact t.K_ (hs:=0x4a9932658b16264c9bffd008c0264c0000046a0fa13c702870e7cf9f3a6cc9d3a74d992c58d9b3664d162c58b1632653282e5cb952a549912c58b162c588914ca14284c0000f1e3c0001e3c79afe68d161e587a61fffefdfbf7efd0000000000078f284878f1e3c78f1e3c78f1e3c78f1e3c78f1e3c78f24489122434f1c0a1c3a64c0000016a932612b13265498000000040810204081020408102850a1004508) (m:=42) (r:=Dw 1 19 [(7,1),(8,7),(22,18)]) (cs:=[cZ x,cL<|(v::vs).length,cI i]) (gZ hw<|gL hl<|gI .nil) ⋯
end
structure Ly where
 F:Fx
 b0:Bc
 b1:Bc
 b2:Bc
 c0:Cr
 c1:Cr
 c2:Cr
 bd:Bd
 d:Dr
 sb:Bs
 tail:Á AC
def AH(F:Fx):V:=.ref<|.inst "Tasking" F.tg
def Ly.cells(a:Ly)(S:Ë):Á AC:=Af a.F S [⟨0,a.b0,a.c0⟩,⟨1,a.b1,a.c1⟩,⟨2,a.b2,a.c2⟩]<|Gz a.F S a.bd a.d++((bif S then HE a.F a.sb a.d else R7 a.F a.bd)++(EJ a.F S a.bd++a.tail))
def Jl(x y:Ï):X:=.b<|(ĸ x).eqv<|.str y
def SA(x y:Ï):X:=.b<|!(ĸ x).eqv (.str y)
theorem Hf{x y:Ï}(h:(x==y)=Æ):Jl x y=.b Æ:=Â X.b<|by simpa[û]using h
theorem Yz{x y:Ï}(h:(x==y)=Æ):SA x y=.b Å:=Â X.b<|by simpa[û]using h
def eM(n:Ç)(t:Ny)(as:Á V)(L:Á AC)(nx:Ç)(A!:Ï->Ã V)(hs m:Ç)(r:Á Ç)(cs:CS):Ã gP:=(Qk TT n t as ⟨L,[],nx,[],A!⟩ hs cs []).res m r
def dJ(n:Ç)(t:Ny)(as:Á V)(L:Á AC)(nx:Ç)(A!:Ï->Ã V)(hs:Ç)(cs:CS)(v:V)(L':Á AC):Ã gP:=À ⟨.ok v,L',A!,(Qk TT n t as ⟨L,[],nx,[],A!⟩ hs cs []).T?⟩
def AI(n:Ç)(t:Ny)(as:Á V)(s:S)(v:V)(L':Á AC):Prop:=Aa (AK TT n t as s) (.ok v) (Hs L')<|s.A!
theorem Ac{n:Ç}(h:Hs L s){hs m:Ç}{r:Á Ç}(hc:AL cs)(e:eM n t as L s.nx s.A! hs m r cs=dJ n t as L s.nx s.A! hs cs v L'):AI n t as s v L':=WJ h hc e
def keep(k n:Ç):Á Ç:=(ê n).map (k+·)
def gV(d:Ã Í)(c:Cr):Cr:={c with st:=.D_ d}
def Dg(s:Ev)(c:Cr):Cr:={c with st:=s}
def Ly.E?(a:Ly)(s:GQ):Ly:={a with d:={a.d with E?:=s}}
def Ly.R_(a:Ly):Ly:={a with d:={a.d with q:=q2 [] [],oA:=[]}}
def Ly.cs(a:Ly)(x y z:Cr):Ly:={a with c0:=x,c1:=y,c2:=z}
theorem Y0{x y:Ï}{b:Ë}(h:(x==y)=b):Jl x y=.b b:=Â X.b<|by simpa[û]using h
theorem Tx{x y:Ï}{b:Ë}(h:(x==y)=b):SA x y=.b !b:=Â X.b (by simpa[û]using Â (!·) h)
theorem EH{α:Type}{n:Ç}{l:Á α}{q:α}(mq:q∈l)(L:α->Á AC)(hs m:α->Ç)(r:α->Á Ç)(cs:α->CS)(v:α->V)(L':α->Á AC)(h:Hs (L q) s)(g:AL<|cs q)(e:l.map (λq=>eM n t as (L q) s.nx s.A! (hs q) (m q) (r q)<|cs q)=l.map λq=>dJ n t as (L q) s.nx s.A! (hs q) (cs q) (v q)<|L' q):AI n t as s (v q) (L' q):=Ac h g<|XX e mq
theorem cu(s:Ev):(s.str=="leaving")=Æ:=by induction s<;>kernel_rfl
theorem Y1(s:Ev):(s.str=="accepting")=Æ:=by induction s<;>kernel_rfl
theorem Ty(s:Ev):(s.str=="fresh")=Æ:=by induction s<;>kernel_rfl
theorem cz(s:GQ):(s.str=="leaving")=Æ:=by induction s<;>kernel_rfl
theorem c6(s:GQ):(s.str=="calling")=Æ:=by induction s<;>kernel_rfl
theorem c5(s:GQ):(s.str=="fresh")=Æ:=by induction s<;>kernel_rfl
inductive Hq(now:Í):Cr->Prop where|none (c:Cr):Hq now<|gV È c|some (d:Í) (c:Cr) (h:¬d<=now):Hq now<|gV (À d) c|other (c:Cr) (h:(c.st.str=="calling")=Æ):Hq now c
inductive TQ:Ë->Cr->Prop where|fresh (c:Cr):TQ Å<|Dg .fresh c|other (c:Cr) (h:(c.st.str=="ready")=Æ):TQ Æ c
inductive Jw:Ë->Cr->Prop where|done (c:Cr):Jw Å<|Dg .done c|other (c:Cr) (h:(c.st.str=="done")=Æ) (h2:(c.st.str=="completed")=Æ):Jw Æ c
inductive cO:Ë->GQ->Prop where|G!:cO Å .G!|other (c:GQ) (h:(c.str=="ready")=Æ):cO Æ c
inductive b9:Ë->GQ->Prop where|done:b9 Å .done|other (c:GQ) (h:(c.str=="done")=Æ):b9 Æ c
def LG{α:Type}(S b:Ë)(l:Á α):Á α:=bif S&&b then l else[]
def Au{α:Type}(b:Ë)(x:α):Á α:=bif b then[x]else[]
def HR(u:Ï):CS:=[(Jl u "leaving",.b Æ),(Jl u "completed",.b Æ)]
theorem gC{c:Ev}(h:(c.str=="completed")=Æ):AL (HR c.str):=.cons (Hf<|cu _)<|.cons (Hf h) .nil
theorem gD{c:GQ}(h:(c.str=="completed")=Æ):AL (HR c.str):=.cons (Hf<|cz _)<|.cons (Hf h) .nil
section
variable{a:Ly}{S:Ë}{x y z:Cr}{bx bb bz bs:Ë}
theorem El(h:Hs (a.cells S) s):AI 15 (.fn "settle_abnormal") [AH a.F] s (.bool Æ) (a.cells S):=by
 rcases S with _|_;.exact Ac h (hs:=0x2a24a84aa00a952a36) (m:=54) (r:=keep 0 54) (cs:=[]) .nil ⋯
 .exact Ac h (hs:=0xa92aa24a84aa00a952a36) (m:=54) (r:=keep 0 54) (cs:=[]) .nil ⋯
theorem Ut(h:Hs (a.cells S) s):AI 16 (.fn "serve_lost") [AH a.F] s (.bool Æ) (Ly.cells {a with bd:={a.bd with lo:=s.nx,mZ:=[]}} S):=by
 rcases S with _|_;.exact Ac h (hs:=114137910) (m:=55) (r:=(keep 1 54).set 36 0) (cs:=[]) .nil ⋯
 .exact Ac h (hs:=114137910) (m:=55) (r:=(keep 1 54).set 36 0) (cs:=[]) .nil ⋯
theorem Kl(h0:(x.st.str=="completed")=Æ)(h1:(y.st.str=="completed")=Æ)(h2:(z.st.str=="completed")=Æ)(hs:(a.d.E?.str=="completed")=Æ)(h:Hs ((a.cs x y z).cells S) s):AI 15 (.fn "settle_ends") [AH a.F] s (.bool Æ) ((a.cs x y z).cells S):=by
 rcases S with _|_;.exact Ac h (hs:=0x153ffdfa93ffdfa92a7ffbf497ffbf4954fff7e80fff7e80a952a36) (m:=54) (r:=keep 0 54) (cs:=HR x.st.str++HR y.st.str++HR z.st.str) (((gC h0).S!<|gC h1).S!<|gC h2) ⋯
 .exact Ac h (hs:=0xa9ffefd95ffefd9553ffdfa93ffdfa92a7ffbf497ffbf4954fff7e80fff7e80a952a36) (m:=54) (r:=keep 0 54) (cs:=HR x.st.str++HR y.st.str++HR z.st.str++HR a.d.E?.str) ((((gC h0).S!<|gC h1).S!<|gC h2).S!<|gD hs) ⋯
theorem bL(h1:(y.st.str=="completed")=Æ)(h2:(z.st.str=="completed")=Æ)(hs:(a.d.E?.str=="completed")=Æ)(h:Hs ((a.cs (Dg .mE x) y z).cells S) s):AI 15 (.fn "settle_ends") [AH a.F] s (.bool Å) ((a.cs (Dg .done x) y z).cells S):=by
 rcases S with _|_;.exact Ac h (hs:=0x54fff7ea4fff7ea4a9ffefd25ffefd255000006043060c00000a952a36) (m:=56) (r:=keep 2 54) (cs:=HR y.st.str++HR z.st.str) ((gC h1).S!<|gC h2) ⋯
 .exact Ac h (hs:=0x2a7ffbf657ffbf6554fff7ea4fff7ea4a9ffefd25ffefd255000006043060c00000a952a36) (m:=56) (r:=keep 2 54) (cs:=HR y.st.str++HR z.st.str++HR a.d.E?.str) (((gC h1).S!<|gC h2).S!<|gD hs) ⋯
theorem bK(h0:(x.st.str=="completed")=Æ)(h2:(z.st.str=="completed")=Æ)(hs:(a.d.E?.str=="completed")=Æ)(h:Hs ((a.cs x (Dg .mE y) z).cells S) s):AI 15 (.fn "settle_ends") [AH a.F] s (.bool Å) ((a.cs x (Dg .done y) z).cells S):=by
 rcases S with _|_;.exact Ac h (hs:=0x54fff7ea4fff7ea4a8489030260c182448954fff7e80fff7e80a952a36) (m:=56) (r:=keep 2 54) (cs:=HR x.st.str++HR z.st.str) ((gC h0).S!<|gC h2) ⋯
 .exact Ac h (hs:=0x2a7ffbf657ffbf6554fff7ea4fff7ea4a8489030260c182448954fff7e80fff7e80a952a36) (m:=56) (r:=keep 2 54) (cs:=HR x.st.str++HR z.st.str++HR a.d.E?.str) (((gC h0).S!<|gC h2).S!<|gD hs) ⋯
theorem bJ(h0:(x.st.str=="completed")=Æ)(h1:(y.st.str=="completed")=Æ)(hs:(a.d.E?.str=="completed")=Æ)(h:Hs ((a.cs x y<|Dg .mE z).cells S) s):AI 15 (.fn "settle_ends") [AH a.F] s (.bool Å) ((a.cs x y<|Dg .done z).cells S):=by
 rcases S with _|_;.exact Ac h (hs:=0x54489018154a95244892a7ffbf497ffbf4954fff7e80fff7e80a952a36) (m:=56) (r:=keep 2 54) (cs:=HR x.st.str++HR y.st.str) ((gC h0).S!<|gC h1) ⋯
 .exact Ac h (hs:=0x2a7ffbf657ffbf6554489018154a95244892a7ffbf497ffbf4954fff7e80fff7e80a952a36) (m:=56) (r:=keep 2 54) (cs:=HR x.st.str++HR y.st.str++HR a.d.E?.str) (((gC h0).S!<|gC h1).S!<|gD hs) ⋯
theorem bI(h0:(x.st.str=="completed")=Æ)(h1:(y.st.str=="completed")=Æ)(h2:(z.st.str=="completed")=Æ)(h:Hs (((a.cs x y z).E? .mE).cells Å) s):AI 15 (.fn "settle_ends") [AH a.F] s (.bool Å) (((a.cs x y z).E? .done).cells Å):=by exact Ac h (hs:=0x2a4a940c0ce9d3a54a9553ffdfa93ffdfa92a7ffbf497ffbf4954fff7e80fff7e80a952a36) (m:=56) (r:=keep 2 54) (cs:=HR x.st.str++HR y.st.str++HR z.st.str) (((gC h0).S!<|gC h1).S!<|gC h2) ⋯
theorem TQ.st{b:Ë}(h:TQ b x):(x.st.str=="ready")=b:=by cases h with|fresh c=>rfl|other _ h=>exact h
theorem cO.st{b:Ë}(h:cO b t):(t.str=="ready")=b:=by cases h with|G!=>rfl|other _ h=>exact h
def jV(u:Ï)(b:Ë):CS:=[(Jl u "ready",.b b)]
theorem Qi{u:Ï}{b:Ë}(h:(u=="ready")=b):AL (jV u b):=.cons (Y0 h) .nil
def jW(f:Ï->Ë->CS)(x y z:Cr)(q:B4):CS:=f x.st.str q.1++f y.st.str q.2.1++f z.st.str q.2.2.1
def kb(f:Ï->Ë->CS)(x y z:Cr)(t:GQ)(q:B4):CS:=jW f x y z q++f t.str q.2.2.2
def kY(S:Ë)(p:Á Ç)(f:Ç->Ë->Á Ç)(q:B4):Ç:=BV<|p++f 0 q.1++f 18 q.2.1++f 36 q.2.2.1++bif S then f 74 q.2.2.2 else[]
def dY(L:Á AC)(nx:Ç)(l:B4->Á V)(q:B4):Á AC:=(.list nx,.list<|l q)::L
theorem Rj(h0:TQ bx x)(h1:TQ bb y)(h2:TQ bz z)(hs:cO bs t)(h:Hs (((a.cs x y z).E? t).cells S) s):AI 16 (.fn "ready_tasks") [AH a.F] s (.ref<|.list s.nx) ((.list s.nx,.list<|Au bx (Ai<|a.F.tk 0)++Au bb (Ai<|a.F.tk 1)++Au bz (Ai<|a.F.tk 2)++LG S bs [Ai a.F.nM])::((a.cs x y z).E? t).cells S):=by
 have g:=((Qi h0.st).S!<|Qi h1.st).S!<|Qi h2.st;have e:=EH (s:=s) (n:=16) (t:=.fn "ready_tasks") (as:=[AH a.F]) (O9 (bx,bb,bz,bs)) (λZ=>((a.cs x y z).E? t).cells S) (kY S [54,84,84,84] λi Z=>[i,125,125,127,84]) (λZ=>55) (λZ=>0::keep 1 54) (if S then kb jV x y z t else jW jV x y z) (λZ=>.ref<|.list s.nx) (dY (((a.cs x y z).E? t).cells S) s.nx λq=>Au q.1 (Ai<|a.F.tk 0)++Au q.2.1 (Ai<|a.F.tk 1)++Au q.2.2.1 (Ai<|a.F.tk 2)++LG S q.2.2.2 [Ai a.F.nM]) h;rcases S with _|_;.exact e g ⋯
 .exact e (g.S!<|Qi hs.st) ⋯
theorem Jw.st{b:Ë}(h:Jw b x):(x.st.str=="done")=b/\(b=Æ->(x.st.str=="completed")=Æ):=by cases h with|done c=>exact⟨Ä,nofun⟩|other _ h h2=>exact⟨h,λZ=>h2⟩
theorem b9.st{b:Ë}(h:b9 b t):(t.str=="done")=b:=by cases h with|done=>rfl|other _ h=>exact h
def jT(u:Ï)(b:Ë):CS:=(SA u "done",.b<|!b)::bif b then[]else[(SA u "fresh",.b Å)]
theorem Qh{u:Ï}{b:Ë}(h:(u=="done")=b)(k:(u=="fresh")=Æ):AL (jT u b):=.cons (Tx h)<|by induction b using ċ with|true=>exact .nil|false=>exact .cons (Yz k) .nil
theorem Hd(h0:Jw bx x)(h1:Jw bb y)(h2:Jw bz z)(hs:b9 bs t)(h:Hs (((a.cs x y z).E? t).cells S) s):AI 16 (.fn "waiting_tasks") [AH a.F] s (.ref<|.list s.nx) ((.list s.nx,.list<|Au (!bx) (V.int 1)++Au (!bb) (V.int 2)++Au (!bz) (V.int 3)++LG S (!bs) [V.int 4])::((a.cs x y z).E? t).cells S):=by
 have g:=((Qh h0.st.1<|Ty _).S!<|Qh h1.st.1<|Ty _).S!<|Qh h2.st.1<|Ty _;have e:=EH (s:=s) (n:=16) (t:=.fn "waiting_tasks") (as:=[AH a.F]) (O9 (bx,bb,bz,bs)) (λZ=>((a.cs x y z).E? t).cells S) (kY S [54,84,84,84] λi b=>bif b then[i,125,125,127,84]else[i,125,125,127,i,125,125,127,i,84]) (λZ=>55) (λZ=>0::keep 1 54) (if S then kb jT x y z t else jW jT x y z) (λZ=>.ref<|.list s.nx) (dY (((a.cs x y z).E? t).cells S) s.nx λq=>Au (!q.1) (V.int 1)++Au (!q.2.1) (V.int 2)++Au (!q.2.2.1) (V.int 3)++LG S (!q.2.2.2) [V.int 4]) h;rcases S with _|_;.exact e g ⋯
 .exact e (g.S!<|Qh hs.st<|c5 _) ⋯
def aI:Ã Ë->Í->Cr->Cr|È,_,c=>c|À Æ,_,c=>gV È c|À Å,d,c=>gV (À d) c
def gr(now:Í):Ã Ë->Í->Cr->CS|È,_,c=>[(Jl c.st.str "calling",.b Æ)]|À Æ,_,_=>[]|À Å,d,_=>[(.b<|Ê<|d<=now,.b Æ)]
def hL(i:Ç):Ã Ë->Á Ç|È=>[i,125,125,127,84]|À Æ=>[i,1,54,i,84]|À Å=>[i,1,54,i,56,125,127,84]
theorem LT{now:Í}(h:Hq now x):∃k d c,x=aI k d c/\AL (gr now k d c):=by cases h with|none c=>exact⟨À Æ,0,c,Ä,.nil⟩|some d c h=>exact⟨À Å,d,c,Ä,.cons (Ax h) .nil⟩|other _ h=>exact⟨È,0,x,Ä,.cons (Hf h) .nil⟩
def ks:Á (Ã Ë):=[È,À Æ,À Å]
theorem O8(k:Ã Ë):k∈ks:=by rcases k with _|_|_<;>decide
def lR:Á (Ã Ë×Ã Ë×Ã Ë):=ks.flatMap λa=>ks.flatMap λb=>ks.map λc=>(a,b,c)
theorem Xp(a b c:Ã Ë):(a,b,c)∈lR:=YI ⟨a,O8 a,YI ⟨b,O8 b,Et ⟨c,O8 c,Ä⟩⟩⟩
theorem U5(h0:Hq a.d.now x)(h1:Hq a.d.now y)(h2:Hq a.d.now z)(h:Hs ((a.cs x y z).cells S) s):AI 16 (.fn "end_late") [AH a.F] s (.bool Æ) ((a.cs x y z).cells S):=by
 obtain⟨k0,d0,c0,rfl,g0⟩:=LT h0;obtain⟨k1,d1,c1,rfl,g1⟩:=LT h1;obtain⟨k2,d2,c2,rfl,g2⟩:=LT h2;have g:=(g0.S! g1).S! g2;have e:=λl cs=>EH (s:=s) (n:=16) (t:=.fn "end_late") (as:=[AH a.F]) (Xp k0 k1 k2) (λq=>(a.cs (aI q.1 d0 c0) (aI q.2.1 d1 c1)<|aI q.2.2 d2 c2).cells S) (λq=>BV<|[1,54,84,84,84]++hL 0 q.1++hL 18 q.2.1++hL 36 q.2.2++l) (λZ=>57) (λZ=>keep 3 54) (λq=>gr a.d.now q.1 d0 c0++gr a.d.now q.2.1 d1 c1++gr a.d.now q.2.2 d2 c2++cs) (λZ=>.bool Æ) (λq=>(a.cs (aI q.1 d0 c0) (aI q.2.1 d1 c1)<|aI q.2.2 d2 c2).cells S) h;rcases S with _|_;.exact e [3,3,3,3,5] [] (g.S! .nil) ⋯
 .exact e [74,125,125,127,84,3,3,3,3,5] [(Jl a.d.E?.str "calling",.b Æ)] (g.S!<|.cons (Hf<|c6 _) .nil) ⋯
noncomputable abbrev B3:=Ë×Ë×Ë
def jU(u:Ï)(b:Ë):CS:=[(SA u "done",.b<|!b)]
def gq(u:Ï)(b:Ë):CS:=(Jl u "done",.b b)::bif b then[]else[(Jl u "accepting",.b Æ),(Jl u "accepting",.b Æ),(SA u "completed",.b Å)]
theorem Vd{b:Ë}(h:Jw b x):AL (gq x.st.str b):=.cons (Y0 h.st.1)<|by induction b using ċ with|true=>exact .nil|false=>exact .cons (Hf<|Y1 _)<|.cons (Hf<|Y1 _)<|.cons (Yz<|h.st.2 Ä) .nil
theorem Ve{b:Ë}(h:Jw b x):AL (jU x.st.str b):=.cons (Tx h.st.1) .nil
def c3(f:Ï->Ë->CS)(x y z:Cr)(q:B3):CS:=f x.st.str q.1++f y.st.str q.2.1++f z.st.str q.2.2
def hU(i:Ç)(b:Ë):Á Ç:=bif b then[i,125,125,127,86]else[i,125,125,127,i,125,125,127,127,i,125,125,127,86]
def d3(f:Ç->Ë->Á Ç)(q:B3):Á Ç:=f 0 q.1++f 18 q.2.1++f 36 q.2.2
def pT:Á Ç:=[54,82,54,54,84,84,84,1,0,6,6,6,1,3,3,1,1,84,1,18,24,24,24,1,5,5,1,1,84,1,36,42,42,42,1,7,7,1,1,84,1]
def aB(q:B3):Ë:=q.1&&q.2.1&&q.2.2
def gY{α:Type}(t:GQ)(u v w:α):α:=match t with|.done=>u|.G!=>v|_=>w
def hT(q:B3×GQ):Ç:=BV<|pT++[74,78,78,78,1,9,9,1,1,84,1,1,1,82,86,86,86]++d3 (λi Z=>[i,125,125,127,86]) q.1++[74,86,11,13]++gY q.2 [1] ([82,86,86,86]++d3 hU q.1++[74,74,74,86,15,17,1]) ([82,86,86,86]++d3 hU q.1++[74,74,74]++(match q.2 with|.lx Å Å=>[80]|_=>[])++[80,80,80,80,80,15,17,74,78,78,78,86,19,21,1])
def hF(q:B3):Ç:=BV<|pT++[1,1,82,86,86,86]++d3 (λi Z=>[i,125,125,127,86]) q++[9,11]++bif aB q then[1]else[82,86,86,86]++d3 hU q++[13,15,1]
def jg:Á (B3×GQ):=Np.flatMap λq=>(bif aB q then[.G!,.done]else[.G!,.lx Å Æ,.lx Æ Å,.lx Å Å]).map λt=>(q,t)
theorem dz(ht:aB q=Å->t=.G!\/t=.done)(hu:Wi t\/t=.done/\aB q=Å):(q,t)∈jg:=by
 refine YI ⟨q,LQ q,Et ⟨t,?_,Ä⟩⟩;generalize aB q=b at ht hu;rcases b with _|_
 .rcases hu with hu|⟨_,hu⟩
  .rcases t with _|⟨_|_,_|_⟩|_|_;.exact .head _
   .exact CN hu
   .exact .tail _<|.tail _<|.head _
   .exact .tail _<|.head _
   .exact .tail _<|.tail _<|.tail _<|.head _
   .exact hu.elim
   .exact hu.elim
  .exact CN hu
 .rcases ht Ä with rfl|rfl;.exact .head _
  .exact .tail _<|.head _
theorem Wz(h0:Jw bx x)(h1:Jw bb y)(h2:Jw bz z)(ht:S=Å->(bx&&bb&&bz)=Å->t=.G!\/t=.done)(hu:S=Å->Wi t\/t=.done/\(bx&&bb&&bz)=Å)(h:Hs (((a.cs x y z).E? t).cells S) s):AI 15 (.fn "settle_terminates") [AH a.F] s (.bool Æ) (((a.cs x y z).E? t).cells S):=by
 have g1:=((Ve h0).S!<|Ve h1).S!<|Ve h2;have g2:=((Vd h0).S!<|Vd h1).S!<|Vd h2;rcases S with _|_;.refine EH (s:=s) (n:=15) (t:=.fn "settle_terminates") (as:=[AH a.F]) (LQ (bx,bb,bz)) (λq=>((a.cs x y z).E? t).cells Æ) hF (λq=>bif aB q then 60 else 62) (λq=>keep (bif aB q then 6 else 8) 54) (λq=>c3 jU x y z q++bif aB q then[]else c3 gq x y z q) (λZ=>.bool Æ) (λq=>((a.cs x y z).E? t).cells Æ) h (g1.S! ?_) ⋯;cases aB (bx,bb,bz)<;>first|exact .nil|exact g2
 .refine EH (s:=s) (n:=15) (t:=.fn "settle_terminates") (as:=[AH a.F]) (dz (q:=(bx,bb,bz)) (ht Ä)<|hu Ä) (λq=>((a.cs x y z).E? q.2).cells Å) hT (λq=>gY q.2 61 63 65) (λq=>keep (gY q.2 7 9 11) 54) (λq=>c3 jU x y z q.1++gY q.2 [] (c3 gq x y z q.1) (c3 gq x y z q.1)) (λZ=>.bool Æ) (λq=>((a.cs x y z).E? q.2).cells Å) h (g1.S! ?_) ⋯;cases t<;>first|exact .nil|exact g2
end
def FD(a b:Ã Í):Ã Í:=match b with|È=>a|À x=>match a with|È=>À x|À y=>if x<y then À x else À y
theorem CZ{x y:Í}(h:x<y):FD (À y) (À x)=À x:=Î h
theorem Cb{x y:Í}(h:¬x<y):FD (À y) (À x)=À y:=Ì h
def aO(a b c:Ã Í):Ã Í:=FD (FD (FD È a) b) c
theorem AI.val{n:Ç}(g:AI n t as s v L)(e:w=v):AI n t as s w L:=AA e g
def zv:Ç:=0x1ffefdfbf7efd01ffefdfbf7efd0000000
theorem Ui{S:Ë}{la:Ç}{o0 o1 o2:Ã Í}(h:Hs ((.list la,.list<|Am o0::Am o1::Am o2::LG S Å [.none])::tail) s):AI 16 (.fn "next_time") [.ref<|.list la] s (Am<|aO o0 o1 o2) ((.list la,.list<|Am o0::Am o1::Am o2::LG S Å [.none])::tail):=by
 rcases S with _|_
 .rcases o0 with _|x
  .rcases o1 with _|y
   .rcases o2 with _|z;.exact AI.val (v:=Am È) (Ac h (hs:=0) (m:=1) (r:=[0]) (cs:=[]) .nil ⋯) Ä
    .exact AI.val (v:=Am<|À z) (Ac h (hs:=0) (m:=1) (r:=[0]) (cs:=[]) .nil ⋯) Ä
   .rcases o2 with _|z;.exact AI.val (v:=Am<|À y) (Ac h (hs:=0) (m:=1) (r:=[0]) (cs:=[]) .nil ⋯) Ä
    .by_cases g2:z<y;.exact AI.val (v:=Am<|À z) (Ac h (hs:=0xfff7efdfbf7e800000000) (m:=1) (r:=[0]) (cs:=[(.b<|Ê<|z<y,.b Å)]) (.cons (AU g2) .nil) ⋯)<|Â Am<|CZ g2
     .exact AI.val (v:=Am<|À y) (Ac h (hs:=0xfff7efdfbf7e800000000) (m:=1) (r:=[0]) (cs:=[(.b<|Ê<|z<y,.b Æ)]) (.cons (Ax g2) .nil) ⋯)<|Â Am<|Cb g2
  .rcases o1 with _|y
   .rcases o2 with _|z;.exact AI.val (v:=Am<|À x) (Ac h (hs:=0) (m:=1) (r:=[0]) (cs:=[]) .nil ⋯) Ä
    .by_cases g2:z<x;.exact AI.val (v:=Am<|À z) (Ac h (hs:=0xfff7efdfbf7e800000000) (m:=1) (r:=[0]) (cs:=[(.b<|Ê<|z<x,.b Å)]) (.cons (AU g2) .nil) ⋯)<|Â Am<|CZ g2
     .exact AI.val (v:=Am<|À x) (Ac h (hs:=0xfff7efdfbf7e800000000) (m:=1) (r:=[0]) (cs:=[(.b<|Ê<|z<x,.b Æ)]) (.cons (Ax g2) .nil) ⋯)<|Â Am<|Cb g2
   .by_cases g1:y<x
    .rcases o2 with _|z;.exact AI.val (v:=Am<|À y) (Ac h (hs:=0x1ffefdfbf7efd0000000) (m:=1) (r:=[0]) (cs:=[(.b<|Ê<|y<x,.b Å)]) (.cons (AU g1) .nil) ⋯)<|Â Am<|CZ g1
     .by_cases g2:z<y;.exact AI.val (v:=Am<|À z) (Ac h (hs:=zv) (m:=1) (r:=[0]) (cs:=[(.b<|Ê<|y<x,.b Å),(.b<|Ê<|z<y,.b Å)]) (.cons (AU g1)<|.cons (AU g2) .nil) ⋯) (Â Am ((Â (FD · _)<|CZ g1).trans<|CZ g2))
      .exact AI.val (v:=Am<|À y) (Ac h (hs:=zv) (m:=1) (r:=[0]) (cs:=[(.b<|Ê<|y<x,.b Å),(.b<|Ê<|z<y,.b Æ)]) (.cons (AU g1)<|.cons (Ax g2) .nil) ⋯) (Â Am ((Â (FD · _)<|CZ g1).trans<|Cb g2))
    .rcases o2 with _|z;.exact AI.val (v:=Am<|À x) (Ac h (hs:=0x1ffefdfbf7efd0000000) (m:=1) (r:=[0]) (cs:=[(.b<|Ê<|y<x,.b Æ)]) (.cons (Ax g1) .nil) ⋯)<|Â Am<|Cb g1
     .by_cases g2:z<x;.exact AI.val (v:=Am<|À z) (Ac h (hs:=zv) (m:=1) (r:=[0]) (cs:=[(.b<|Ê<|y<x,.b Æ),(.b<|Ê<|z<x,.b Å)]) (.cons (Ax g1)<|.cons (AU g2) .nil) ⋯) (Â Am ((Â (FD · _)<|Cb g1).trans<|CZ g2))
      .exact AI.val (v:=Am<|À x) (Ac h (hs:=zv) (m:=1) (r:=[0]) (cs:=[(.b<|Ê<|y<x,.b Æ),(.b<|Ê<|z<x,.b Æ)]) (.cons (Ax g1)<|.cons (Ax g2) .nil) ⋯) (Â Am ((Â (FD · _)<|Cb g1).trans<|Cb g2))
 .rcases o0 with _|x
  .rcases o1 with _|y
   .rcases o2 with _|z;.exact AI.val (v:=Am È) (Ac h (hs:=0) (m:=1) (r:=[0]) (cs:=[]) .nil ⋯) Ä
    .exact AI.val (v:=Am<|À z) (Ac h (hs:=0) (m:=1) (r:=[0]) (cs:=[]) .nil ⋯) Ä
   .rcases o2 with _|z;.exact AI.val (v:=Am<|À y) (Ac h (hs:=0) (m:=1) (r:=[0]) (cs:=[]) .nil ⋯) Ä
    .by_cases g2:z<y;.exact AI.val (v:=Am<|À z) (Ac h (hs:=0xfff7efdfbf7e800000000) (m:=1) (r:=[0]) (cs:=[(.b<|Ê<|z<y,.b Å)]) (.cons (AU g2) .nil) ⋯)<|Â Am<|CZ g2
     .exact AI.val (v:=Am<|À y) (Ac h (hs:=0xfff7efdfbf7e800000000) (m:=1) (r:=[0]) (cs:=[(.b<|Ê<|z<y,.b Æ)]) (.cons (Ax g2) .nil) ⋯)<|Â Am<|Cb g2
  .rcases o1 with _|y
   .rcases o2 with _|z;.exact AI.val (v:=Am<|À x) (Ac h (hs:=0) (m:=1) (r:=[0]) (cs:=[]) .nil ⋯) Ä
    .by_cases g2:z<x;.exact AI.val (v:=Am<|À z) (Ac h (hs:=0xfff7efdfbf7e800000000) (m:=1) (r:=[0]) (cs:=[(.b<|Ê<|z<x,.b Å)]) (.cons (AU g2) .nil) ⋯)<|Â Am<|CZ g2
     .exact AI.val (v:=Am<|À x) (Ac h (hs:=0xfff7efdfbf7e800000000) (m:=1) (r:=[0]) (cs:=[(.b<|Ê<|z<x,.b Æ)]) (.cons (Ax g2) .nil) ⋯)<|Â Am<|Cb g2
   .by_cases g1:y<x
    .rcases o2 with _|z;.exact AI.val (v:=Am<|À y) (Ac h (hs:=0x1ffefdfbf7efd0000000) (m:=1) (r:=[0]) (cs:=[(.b<|Ê<|y<x,.b Å)]) (.cons (AU g1) .nil) ⋯)<|Â Am<|CZ g1
     .by_cases g2:z<y;.exact AI.val (v:=Am<|À z) (Ac h (hs:=zv) (m:=1) (r:=[0]) (cs:=[(.b<|Ê<|y<x,.b Å),(.b<|Ê<|z<y,.b Å)]) (.cons (AU g1)<|.cons (AU g2) .nil) ⋯) (Â Am ((Â (FD · _)<|CZ g1).trans<|CZ g2))
      .exact AI.val (v:=Am<|À y) (Ac h (hs:=zv) (m:=1) (r:=[0]) (cs:=[(.b<|Ê<|y<x,.b Å),(.b<|Ê<|z<y,.b Æ)]) (.cons (AU g1)<|.cons (Ax g2) .nil) ⋯) (Â Am ((Â (FD · _)<|CZ g1).trans<|Cb g2))
    .rcases o2 with _|z;.exact AI.val (v:=Am<|À x) (Ac h (hs:=0x1ffefdfbf7efd0000000) (m:=1) (r:=[0]) (cs:=[(.b<|Ê<|y<x,.b Æ)]) (.cons (Ax g1) .nil) ⋯)<|Â Am<|Cb g1
     .by_cases g2:z<x;.exact AI.val (v:=Am<|À z) (Ac h (hs:=zv) (m:=1) (r:=[0]) (cs:=[(.b<|Ê<|y<x,.b Æ),(.b<|Ê<|z<x,.b Å)]) (.cons (Ax g1)<|.cons (AU g2) .nil) ⋯) (Â Am ((Â (FD · _)<|Cb g1).trans<|CZ g2))
      .exact AI.val (v:=Am<|À x) (Ac h (hs:=zv) (m:=1) (r:=[0]) (cs:=[(.b<|Ê<|y<x,.b Æ),(.b<|Ê<|z<x,.b Æ)]) (.cons (Ax g1)<|.cons (Ax g2) .nil) ⋯) (Â Am ((Â (FD · _)<|Cb g1).trans<|Cb g2))
theorem Un{a:Ly}{S:Ë}{s:Internal.S}{x:Í}(h:Hs (a.cells S) s)(hl:s.A!=AD (At 92 [AH a.F]) "time" (.int x)):Aa ((BP 92 1 3).run TT.A_ (AK TT 16) s) (.ok .none) (Hs<|Ly.cells {a with d:={a.d with now:=if a.d.now<x then x else a.d.now}} S) (AD (At 92 [AH a.F]) "time"<|.int x):=by
 rcases S with _|_;.exact AE (hs:=118365238) (m:=54) (r:=keep 0 54) (v:=.ok .none) h hl .nil ⋯
 .exact AE (hs:=118365238) (m:=54) (r:=keep 0 54) (v:=.ok .none) h hl .nil ⋯
def A9(n:Ç)(x:Ï)(p:Pr)(lc:Ï->Ã V)(L:Á AC)(nx hs:Ç)(cs:CS):Ã Fy:=fK TT.A_ (Qk TT n) x p ⟨L,[],nx,[],lc⟩ hs cs []
def HI:Pr:=BP 92 0 1
def Ly.mj(a:Ly)(S:Ë):Á V:=Am a.c0.st.wk::Am a.c1.st.wk::Am a.c2.st.wk::LG S Å [.none]
theorem Jz{a:Ly}{S:Ë}{s:Internal.S}(h:Hs (a.cells S) s)(hl:s.A!=At 92 [AH a.F]):Aa (HI.run TT.A_ (AK TT 16) s) (.ok .none) (Hs<|a.cells S) (AD (At 92 [AH a.F]) "time"<|Am<|aO a.c0.st.wk a.c1.st.wk a.c2.st.wk):=by
 have key:BM (λhs=>Fu (A9 16 "next_time" HI (At 92 [AH a.F]) (a.cells S) s.nx hs []) È (Fy.res 55<|0::keep 1 54)=À ⟨[.ref<|.list s.nx],(.list s.nx,.list<|a.mj S)::a.cells S,At 92 [AH a.F],Fu (A9 16 "next_time" HI (At 92 [AH a.F]) (a.cells S) s.nx hs []) [] λz=>z.e.map (·.2)⟩) λhs=>∀(v:V) (n:Ç),(BD 16 (Bi (A9 16 "next_time" HI (At 92 [AH a.F]) (a.cells S) s.nx hs []) v) (At 92 [AH a.F]) ((.list s.nx,.list<|a.mj S)::a.cells S) n 0 []).res 55 (keep 1 54)=À ⟨.ok .none,a.cells S,AD (At 92 [AH a.F]) "time" v,(BD 16 (Bi (A9 16 "next_time" HI (At 92 [AH a.F]) (a.cells S) s.nx hs []) v) (At 92 [AH a.F]) ((.list s.nx,.list<|a.mj S)::a.cells S) n 0 []).T?⟩:=by
  rcases S with _|_;.exact ⟨0x2a24a84aa00a952a36,⋯,λv n=>⋯⟩
  .exact ⟨0xa92aa24a84aa00a952a36,⋯,λv n=>⋯⟩
 x_go;obtain⟨hs,k1,k2⟩:=key;obtain⟨s1,e1,h1,l1⟩:=A3 (T:=TT) Ä h hl .nil k1;obtain⟨s2,e2,h2,l2⟩:=Ui (S:=S) h1;obtain⟨s3,e3,h3,l3⟩:=AE h2 (l2.trans l1) .nil<|k2 _ _;exact zk<|⟨s3,(e1.trans ((Â (AN.bind · _) e2).trans e3)),h3,l3⟩
def EU(n:Ç)(b:Á Đ):TB b:=RN (OE n).s b
def Gu:Đ->Á Đ:=P6
def fP:Đ->ì:=XA
def aD:ì:=.Name "" ⟨0,0,0,0⟩
def Vi:Đ->ì:=W7 aD (λZ Z Z=>aD) (λZ=>aD) (λZ=>aD) (λZ Z=>aD) (λt Z Z=>t) (λZ=>aD) λZ=>aD
def Cy(i j:Ç)(v:V):Pr:=(((OE 39).a<|Vi<|BZ i j).p ⟨(BS i).scope,[]⟩ v).bind λZ=>(EU 39<|Gu<|BZ i j).p ⟨(BS i).scope,[]⟩
def Do(i j:Ç):Pr:=(cX (OE 39)<|fP<|BZ i j).p ⟨(BS i).scope,[]⟩
theorem az:BP 92 3 4=((Do 92 3).bind<|NP<|Cy 92 3).bind λf=>F8 f (.ret .none):=⋯
section
variable{body:V->Pr}{all r:Á V}
theorem FK(h:BH H! s=À all):(D1 body H! all []).run G C s=.ok .none s:=by show AN.bind (E1 H! (.D! all) s) _=_;unfold E1;dsimp only;exact AA (Î h) Ä
theorem DP(h:BH H! s=À all)(hb:(body v).run G C s=.ok .none s1):(D1 body H! all<|v::r).run G C s=(D1 body H! all r).run G C s1:=by show AN.bind (E1 H! (.D! all) s) _=_;unfold E1;dsimp only;refine AA (Î h) ?_;show((body v).bind _).run G C s=_;exact AA (Pr.F_ ..)<|AA (hb ..) Ä
end
structure Ei where
 F:Fx
 bd:Bd
 d:Dr
 sb:Bs
 tail:Á AC
def Ei.cells(a:Ei)(S:Ë)(l:Á Ck):Á AC:=Af a.F S l<|Gz a.F S a.bd a.d++((bif S then HE a.F a.sb a.d else R7 a.F a.bd)++a.tail)
def Ei.at(a:Ei)(ord:Ë)(qp qt:Á V):Ei:={a with bd:={a.bd with ord:=ord},d:={a.d with q:=q2 qp qt}}
structure JX(a:Ei)(S:Ë)(l:Á Ck)(lc:PySem.Str->Ã V)(s:Internal.S):Prop where
 h:Hs (a.cells S l) s
 l:s.A!=lc
 t:lc "tasking"=À (AH a.F)
def Xu(a:Ei)(S:Ë)(l:Á Ck)(lc:PySem.Str->Ã V)(v:V)(n hs m:Ç)(r:Á Ç)(cs:CS):Ã gP:=(BD 16 (Cy 92 3 v) lc (a.cells S l) n hs cs).res m r
def XI(a:Ei)(S:Ë)(l:Á Ck)(lc:PySem.Str->Ã V)(v:V)(n hs:Ç)(cs:CS)(L':Á AC):Ã gP:=À ⟨.ok .none,L',AD lc "task" v,(BD 16 (Cy 92 3 v) lc (a.cells S l) n hs cs).T?⟩
def FT(v:V)(lc:PySem.Str->Ã V)(s:Internal.S)(L':Á AC):Prop:=Aa ((Cy 92 3 v).run TT.A_ (AK TT 16) s) (.ok .none) (Hs L')<|AD lc "task" v
theorem JX.K_{a:Ei}{S:Ë}{l:Á Ck}{lc:PySem.Str->Ã V}{v:V}{s:Internal.S}(t:JX a S l lc s){hs m:Ç}{r:Á Ç}{cs:CS}{L':Á AC}(hc:AL cs)(e:Xu a S l lc v s.nx hs m r cs=XI a S l lc v s.nx hs cs L'):FT v lc s L':=AE t.h t.l hc e
def Zn(q n k r:Ç):Á Ç:=(ê<|9*q+14).map λj=>bif é j 8&&é n 5 then 4 else bif é k 0 then n+j else bif é (9*q+2+k) j then r else n+j
def Ck.mO(x:Ck)(n:Ç):Ck:=⟨x.i,{x.b with o8:=.ref<|.list n,mP:=.none,L_:=.none,answer:=.none},Dg .mO x.c⟩
def Ck.mP(x:Ck)(n:Ç):Ck:=⟨x.i,{x.b with o8:=.ref<|.list<|n+4,mP:=.none,call:=.none,slot:=(.list<|n+4,.list [])},Dg (.lr .mP) x.c⟩
def Ei.h?(a:Ei)(tv:V)(n:Ç)(k:Kd)(x:Ck)(l:Á Ck):Ei:={a with
 bd:={a.bd with mZ:=a.bd.mZ++[tv],qa:=match l with|[]=>a.bd.qa|_=>Ht a.bd.qa k<|n+2,nH:=match l with|[]=>Ht a.bd.nH k (.list<|a.bd.qa k,.list [x.call])|_=>a.bd.nH}
 d:={a.d with q:=Ht a.d.q k<|AS l}}
section
variable{S:Ë}{d:Í}
theorem Rh(hd:d<=a.d.now)(t:JX a S [⟨i,b,Dg (.mF d) c⟩] lc s):FT (Ai<|a.F.tk i) lc s (a.cells S [Ck.mO ⟨i,b,Dg (.mF d) c⟩ s.nx]):=by
 rcases S with _|_;.exact t.K_ (hs:=558551143549310) (m:=24) (r:=Zn 1 1 0 0) (cs:=[(.o<|lc "tasking",.o<|À<|AH a.F),(.b<|Ê<|d<=a.d.now,.b Å),(.o<|lc "tasking",.o<|À<|AH a.F)]) (.cons (Â X.o t.t)<|.cons (AU hd)<|.cons (Â X.o t.t) .nil) ⋯
 .exact t.K_ (hs:=558551143549310) (m:=24) (r:=Zn 1 1 0 0) (cs:=[(.o<|lc "tasking",.o<|À<|AH a.F),(.b<|Ê<|d<=a.d.now,.b Å),(.o<|lc "tasking",.o<|À<|AH a.F)]) (.cons (Â X.o t.t)<|.cons (AU hd)<|.cons (Â X.o t.t) .nil) ⋯
theorem X3{α:Type}{l:Á α}{q:α}(mq:q∈l)(a:α->Ei)(S:α->Ë)(ks:α->Á Ck)(lc:PySem.Str->Ã V)(v:V)(hs m:α->Ç)(r:α->Á Ç)(cs:α->CS)(L':α->Á AC)(t:JX (a q) (S q) (ks q) lc s)(g:AL<|cs q)(e:l.map (λq=>Xu (a q) (S q) (ks q) lc v s.nx (hs q) (m q) (r q)<|cs q)=l.map λq=>XI (a q) (S q) (ks q) lc v s.nx (hs q) (cs q)<|L' q):FT v lc s (L' q):=t.K_ g<|XX e mq
end
section
variable{S:Ë}
theorem SZ(hw:∀d,c.st.wk=À d->¬d<=a.d.now)(t:JX a S [⟨i,b,c⟩] lc s):FT (Ai<|a.F.tk i) lc s (a.cells S [⟨i,b,c⟩]):=by obtain⟨st,B?,cur,E_,ly,lr⟩:=c;have no:∀{x:Ev},Xu a S [⟨i,b,⟨x,B?,cur,E_,ly,lr⟩⟩] lc (Ai<|a.F.tk i) s.nx 2430 23 (keep 0 23) [(.o<|lc "tasking",.o<|À<|AH a.F)]=XI a S [⟨i,b,⟨x,B?,cur,E_,ly,lr⟩⟩] lc (Ai<|a.F.tk i) s.nx 2430 [(.o<|lc "tasking",.o<|À<|AH a.F)] (a.cells S [⟨i,b,⟨x,B?,cur,E_,ly,lr⟩⟩])->JX a S [⟨i,b,⟨x,B?,cur,E_,ly,lr⟩⟩] lc s->FT (Ai<|a.F.tk i) lc s (a.cells S [⟨i,b,⟨x,B?,cur,E_,ly,lr⟩⟩]):=λe t=>t.K_ (.cons (Â X.o t.t) .nil) e;have yes:∀{x:Ev}{d:Í},¬d<=a.d.now->Xu a S [⟨i,b,⟨x,B?,cur,E_,ly,lr⟩⟩] lc (Ai<|a.F.tk i) s.nx 4397283150206 23 (keep 0 23) [(.o<|lc "tasking",.o<|À<|AH a.F),(.b<|Ê<|d<=a.d.now,.b Æ)]=XI a S [⟨i,b,⟨x,B?,cur,E_,ly,lr⟩⟩] lc (Ai<|a.F.tk i) s.nx 4397283150206 [(.o<|lc "tasking",.o<|À<|AH a.F),(.b<|Ê<|d<=a.d.now,.b Æ)] (a.cells S [⟨i,b,⟨x,B?,cur,E_,ly,lr⟩⟩])->JX a S [⟨i,b,⟨x,B?,cur,E_,ly,lr⟩⟩] lc s->FT (Ai<|a.F.tk i) lc s (a.cells S [⟨i,b,⟨x,B?,cur,E_,ly,lr⟩⟩]):=λh e t=>t.K_ (.cons (Â X.o t.t)<|.cons (Ax h) .nil) e;induction S<;>cases st with
 |mF d=>exact yes (hw d Ä) ⋯ t|D_ d=>
  rcases d with _|d;.exact no ⋯ t
  .exact yes (hw d Ä) ⋯ t|_=>exact no ⋯ t
theorem T3(t:JX a Å [] lc s):FT (Ai a.F.nM) lc s (a.cells Å []):=t.K_ (hs:=327806) (m:=14) (r:=keep 0 14) (cs:=[(.o<|lc "tasking",.o<|À<|AH a.F)]) (.cons (Â X.o t.t) .nil) ⋯
theorem Od(h:Hs ((.inst "Tasking" F.tg,Zh F bd)::(.list F.mV,.list<|BN F S)::tail) s)(ht:s.A! "tasking"=À (AH F)):Aa ((Do 92 3).run TT.A_ (AK TT 16) s) (.ok<|.D! [.ref<|.list F.mV,.D!<|BN F S]) (Hs<|(.inst "Tasking" F.tg,Zh F bd)::(.list F.mV,.list<|BN F S)::tail) s.A!:=by have e:∀n lc,(BD 16 (Do 92 3) lc ((.inst "Tasking" F.tg,Zh F bd)::(.list F.mV,.list<|BN F S)::tail) n 32894 [(.o<|lc "tasking",.o<|À<|AH F)]).res 2 [0,1]=À ⟨.ok<|.D! [.ref<|.list F.mV,.D!<|BN F S],(.inst "Tasking" F.tg,Zh F bd)::(.list F.mV,.list<|BN F S)::tail,lc,(BD 16 (Do 92 3) lc ((.inst "Tasking" F.tg,Zh F bd)::(.list F.mV,.list<|BN F S)::tail) n 32894 [(.o<|lc "tasking",.o<|À<|AH F)]).T?⟩:=λn lc=>⋯;exact AE h Ä (.cons (Â X.o ht) .nil)<|e s.nx s.A!
end
section
variable{a:Ly}{S:Ë}
def Ly.S?(a:Ly)(n:Ç)(p t:Ë):Ly:={a with d:={a.d with E?:=.mE},sb:={a.sb with o8:=.ref<|.list<|n+20,o7:=(.list a.sb.oa,.list<|ZZ p t)}}
def zw:Ç:=0x15aacdca366cdd6952a54a9d3a74a952a54a952a64a4e9d3a54a951a174e9d3a74e9d214328f9da142850a12a54e9d3a55648a952a495891830609560018306015ab56a550c97a142850a12a55449509540152a546c549d69d3a74a223e850a14284a952ab24ac4ab00ad5ab521a2eb4aac92b12ac02b56ad48081035008112240ce9d3a501a8040870e0552a54900d402042850260c182406a01020c1810c183000352a546cda936
theorem Tq{p t:Ë}(hp:(p||t)=Å)(h:Hs ((((a.cs (Dg .done x) (Dg .done y)<|Dg .done z).R_).E?<|.lx p t).cells Å) s):AI 15 (.fn "settle_terminates") [AH a.F] s (.bool Å) ((((a.cs (Dg .done x) (Dg .done y)<|Dg .done z).R_).S? s.nx p t).cells Å):=by
 induction p<;>induction t;.exact CN hp
 .exact Ac h (hs:=zw) (m:=77) (r:=keep 23 54) .nil ⋯
 .exact Ac h (hs:=zw) (m:=77) (r:=keep 23 54) .nil ⋯
 .exact Ac h (hs:=0x2b559b946cd9bad2a54a953a74e952a54a952a54c949d3a74a952a342e9d3a74e9d3a428651f3b42850a14284a953a74e955922a54a92562460c1825580060c18056ad5a954325e850a142850952aa24a84aa00a952a362a4eb4e9d3a5111f42850a14284a952ab24ac4ab00ad5ab521a2eb4aac92b12ac02b56ad48081035008112240ce9d3a501a8040870e0552a54900d402042850260c182406a01020c1810c183000352a546cda936) (m:=77) (r:=keep 23 54) .nil ⋯
theorem V9{bx bb bz bs:Ë}(h0:Jw bx x)(h1:Jw bb y)(h2:Jw bz z)(hs:b9 bs t)(h:Hs (((a.cs x y z).E? t).cells S) s)(hl:s.A!=AD (At 92 [AH a.F]) "time" .none):H5 (λs' la=>(BP 92 1 3).run TT.A_ (AK TT 16) s=.exc (.ref<|.list la) s') (λs' la=>Hs ((.list la,.list<|Au (!bx) (V.int 1)++Au (!bb) (V.int 2)++Au (!bz) (V.int 3)++LG S (!bs) [V.int 4])::((a.cs x y z).E? t).cells S) s') λs' la=>s'.A!=s.A!:=by
 have key:Fu (A9 16 "waiting_tasks" (BP 92 1 3) (AD (At 92 [AH a.F]) "time" .none) (((a.cs x y z).E? t).cells S) s.nx 0 []) È (Fy.res 54<|keep 0 54)=À ⟨[AH a.F],((a.cs x y z).E? t).cells S,AD (At 92 [AH a.F]) "time" .none,Fu (A9 16 "waiting_tasks" (BP 92 1 3) (AD (At 92 [AH a.F]) "time" .none) (((a.cs x y z).E? t).cells S) s.nx 0 []) [] λz=>z.e.map (·.2)⟩:=by induction S<;>kernel_rfl
 have k2:∀(v:V) (s:Internal.S),Bi (A9 16 "waiting_tasks" (BP 92 1 3) (AD (At 92 [AH a.F]) "time" .none) (((a.cs x y z).E? t).cells S) s.nx 0 []) v=.exc v:=λv s=>by induction S<;>kernel_rfl
 x_go;obtain⟨s1,e1,g1,l1⟩:=A3 (T:=TT) Ä h hl .nil key;obtain⟨s2,e2,g2,l2⟩:=Hd h0 h1 h2 hs g1;refine zk<|⟨s2,s1.nx,(e1.trans ((Â (AN.bind · _) e2).trans ?_)),g2,l2.trans<|l1.trans hl.symm⟩;show(Bi _ _).run _ _ s2=_;exact Â (λp:Pr=>p.run TT.A_ (AK TT 16) s2)<|k2 _ s
end
def gx(a:Ly):Í:=Ł (a.bd.H_.length:Í) (a.F.oR.length:Í)
def Zx(a:Ly)(S bx bb bz bs:Ë):Á V:=Au bx (Ai<|a.F.tk 0)++Au bb (Ai<|a.F.tk 1)++Au bz (Ai<|a.F.tk 2)++LG S bs [Ai a.F.nM]
def dL(S:Ë)(k:Ç)(wv:Í):Í:=bif S then Ł wv k else(k:Í)-1-Ł wv k
def Ly.step(a:Ly)(i:Í):Ly:={a with bd:={a.bd with H_:=a.bd.H_++[.int i]}}
theorem Rd{k:Í}(h:BC l k=À v):v∈l:=by
 unfold BC at h;generalize e:seqIndex? k l.length=zc at h;rcases zc with _|j;.exact AY h
 .exact Á.mem_of_getElem? h
def ft(a:Ly)(S bx bb bz bs:Ë)(wv:Í)(x:V):CS:=[(X.b<|Ê<|(0:Í)<(a.F.oR.length:Í),X.b Å),(.o<|BC a.F.oR<|gx a,.o<|À<|.int wv),(.b<|Ê<|a.bd.H_.length<G_,.b Å),(.o<|BC (Zx a S bx bb bz bs)<|dL S (Zx a S bx bb bz bs).length wv,.o<|À x)]
theorem UB{k:Í}(h:BC l k=À v):∃i,i<l.length/\v=l.getD i .none:=by obtain⟨i,hi⟩:=Á.getElem?_of_mem<|Rd h;exact⟨i,(Á.getElem?_eq_some_iff.mp hi).1,by exact AA Á.getD_eq_getElem?_getD<|AA hi Ä⟩
def dK(a:Ly)(S:Ë)(q:B4):Á V:=Zx a S q.1 q.2.1 q.2.2.1 q.2.2.2
def kM(S:Ë)(q:B4):Á Ç:=Au q.1 2++Au q.2.1 20++Au q.2.2.1 38++LG S q.2.2.2 [76]
def kG(t:Ç):Á Ç->Á Ç|[]=>[]|c::r=>c::t::0::kG t r
def hC(S:Ë)(p:B4×Ç):Ç:=BV<|[56,100,100,108,104,94,108,96,127,96,126,0,104,94,94,127,94,106]++(bif S then[0,126]else[0,0,126])++[0,0,0]++kG ((kM S p.1).getD p.2 0) ((kM S p.1).take<|p.2+1)
def jj(a:Ly)(S:Ë):Á (B4×Ç):=ZQ.flatMap λq=>(ê (dK a S q).length).map λi=>(q,i)
section
variable{S:Ë}{bx bb bz bs:Ë}{wv:Í}{ra:Ç}
theorem Ph(h0:(0:Í)<(a.F.oR.length:Í))(hv:BC a.F.oR (gx a)=À (.int wv))(hl:a.bd.H_.length<G_)(hx:BC (Zx a S bx bb bz bs) (dL S (Zx a S bx bb bz bs).length wv)=À x)(h:Hs ((.list ra,.list<|Zx a S bx bb bz bs)::a.cells S) s):AI 16 (.fn "choose_among") [AH a.F,.ref<|.list ra] s x ((a.step<|Ł wv (Zx a S bx bb bz bs).length).cells S):=by
 obtain⟨i,hi,rfl⟩:=UB hx;have m:((bx,bb,bz,bs),i)∈jj a S:=YI ⟨(bx,bb,bz,bs),O9 _,Et ⟨i,Á.mem_range.mpr hi,Ä⟩⟩;have g:AL (ft a S bx bb bz bs wv _):=.cons (AU h0)<|.cons (Â X.o hv)<|.cons (AU hl)<|.cons (Â X.o hx) .nil;have e:=EH (s:=s) (n:=16) (t:=.fn "choose_among") (as:=[AH a.F,.ref<|.list ra]) m (λp=>(.list ra,.list<|dK a S p.1)::a.cells S) (hC S) (λZ=>55) (λZ=>keep 1 54) (λp=>ft a S p.1.1 p.1.2.1 p.1.2.2.1 p.1.2.2.2 wv<|(dK a S p.1).getD p.2 .none) (λp=>(dK a S p.1).getD p.2 .none) (λp=>(a.step<|Ł wv (dK a S p.1).length).cells S) h g;rcases S with _|_;.exact e ⋯
 .exact e ⋯
end
def f9(n:Ç)(x:Ï)(p:Pr)(lc:Ï->Ã V)(v:V):Pr:=Bi (A9 n x p lc [] 0 0 []) v
theorem hM{n:Ç}{x:Ï}(h:Hs tail s)(hl:s.A!=lc)(k:∀(tail:Á AC) (nx:Ç),Fu (A9 n x p lc tail nx 0 []) È (Fy.res 0 [])=À ⟨as,tail,lc,Fu (A9 n x p lc tail nx 0 []) [] λz=>z.e.map (·.2)⟩)(k2:∀(tail:Á AC) (nx:Ç) (v:V),Bi (A9 n x p lc tail nx 0 []) v=f9 n x p lc v):D4 (λs'=>p.run TT.A_ (AK TT n) s=(AK TT n (.fn x) as s').bind λv s=>(f9 n x p lc v).run TT.A_ (AK TT n) s) (λs'=>Hs tail s') λs'=>s'.A!=lc:=by obtain⟨s',e,h',l'⟩:=A3 (T:=TT) Ä h hl .nil<|k tail s.nx;exact⟨s',e.trans<|Â (AN.bind _)<|ø λv=>ø λs1=>Â (λq:Pr=>q.run TT.A_ (AK TT n) s1)<|k2 tail s.nx v,h',l'⟩
theorem Fg{n:Ç}(h:Hs tail s)(hl:s.A!=lc)(k:∀(tail:Á AC) (nx:Ç),(BD n p lc tail nx 0 []).res 0 []=À ⟨v,tail,lc,(BD n p lc tail nx 0 []).T?⟩):Aa (p.run TT.A_ (AK TT n) s) v (Hs tail) lc:=AE h hl .nil<|k tail s.nx
def gw:Đ->ì:=XA
def Pu:Đ->Á Đ:=P6
def Dk(i j:Ç):Pr:=((OE 39).t<|gw<|BZ i j).p ⟨(BS i).scope,[]⟩
def Q4(i j:Ç):Pr:=(EU 39<|Pu<|BZ i j).p ⟨(BS i).scope,[]⟩
def DH(F:Fx):Ï->Ã V:=At 74 [AH F]
section
def JY(F:Fx)(v:V):Pr:=f9 15 "settle_abnormal" (Dk 74 0) (DH F) v
def Y2(F:Fx)(v:V):Pr:=f9 15 "settle_ends" (JY F<|.bool Æ) (DH F) v
def hZ(F:Fx)(v:V):Pr:=f9 15 "settle_terminates" (Y2 F<|.bool Æ) (DH F) v
theorem Ez{b1:Ë}(h:Hs L s)(hl:s.A!=DH F)(g0:∀s,Hs L s->AI 15 (.fn "settle_abnormal") [AH F] s (.bool Æ) L)(g1:∀s,Hs L s->AI 15 (.fn "settle_ends") [AH F] s (.bool b1) L1){P:Ë->S->Prop} (g2:∀s,Hs L1 s->s.A!=DH F->bif b1 then P Å s else Hb (λb2 L2=>AI 15 (.fn "settle_terminates") [AH F] s (.bool b2) L2) λb2 L2=>∀s',Hs L2 s'->s'.A!=DH F->P b2 s') (hP:∀s,Hs L1 s->s.A!=DH F->b1=Å->P Å s):Hb (λb s'=>(Dk 74 0).run TT.A_ (AK TT 15) s=.ok (.bool b) s') λb s'=>P b s':=by
 x_go;obtain⟨s1,e1,h1,l1⟩:=hM (n:=15) (p:=Dk 74 0) (x:="settle_abnormal") (as:=[AH F]) h hl (λtail nx=>⋯) λtail nx v=>⋯;obtain⟨s2,f1,h2,l2⟩:=g0 s1 h1;obtain⟨s3,e3,h3,l3⟩:=hM (n:=15) (p:=JY F<|.bool Æ) (x:="settle_ends") (as:=[AH F]) h2 (l2.trans l1) (λtail nx=>⋯) λtail nx v=>⋯;obtain⟨s4,f2,h4,l4⟩:=g1 s3 h3;have g:=g2 s4 h4<|l4.trans l3;have E:(Dk 74 0).run TT.A_ (AK TT 15) s=(Y2 F<|.bool b1).run TT.A_ (AK TT 15) s4:=e1.trans ((Â (AN.bind · _) f1).trans (e3.trans (Â (AN.bind · _) f2)));rcases b1 with _|_
 .obtain ⟨s5,e5,h5,l5⟩:=hM (n:=15) (p:=Y2 F<|.bool Æ) (x:="settle_terminates") (as:=[AH F]) h4 (l4.trans l3) (λtail nx=>⋯) λtail nx v=>⋯;obtain⟨b2,L2,⟨s6,f3,h6,l6⟩,k⟩:=g2 s5 h5 l5;have fin:Aa ((hZ F<|.bool b2).run TT.A_ (AK TT 15) s6) (.ok<|.bool b2) (Hs L2) (DH F):=by
   x_go;rcases b2 with _|_;.exact zk<|Fg (n:=15) (p:=hZ F<|.bool Æ) (v:=.ok<|.bool Æ) h6 (l6.trans l5) λtail nx=>⋯
   .exact zk<|Fg (n:=15) (p:=hZ F<|.bool Å) (v:=.ok<|.bool Å) h6 (l6.trans l5) λtail nx=>⋯
  obtain⟨s7,e7,h7,l7⟩:=fin;exact zk<|⟨b2,s7,E.trans (e5.trans ((Â (AN.bind · _) f3).trans e7)),k s7 h7 l7⟩
 .obtain ⟨s5,e5,h5,l5⟩:=Fg (n:=15) (p:=Y2 F<|.bool Å) (v:=.ok<|.bool Å) h4 (l4.trans l3) λtail nx=>⋯;exact zk<|⟨Å,s5,E.trans e5,hP s5 h5 l5 Ä⟩
end
section
variable{n:Ç}
theorem ET(ht:t.run G C s=.ok (.bool Å) s1)(hb:b.run G C s1=.ok .none s2):(Bu t b<|n+1).run G C s=(Bu t b n).run G C s2:=by show(t.bind _).run G C s=_;refine AA (Pr.F_ ..)<|AA (ht ..) ?_;show(b.bind _).run G C s1=_;exact AA (Pr.F_ ..)<|AA (hb ..) Ä
theorem ER(ht:t.run G C s=.ok (.bool Æ) s1):(Bu t b<|n+1).run G C s=.ok .none s1:=by show(t.bind _).run G C s=_;exact AA (Pr.F_ ..)<|AA (ht ..) Ä
end
def Ly.Z!(a:Ly):Ly:={a with bd:={a.bd with P_:=a.bd.P_+1}}
def Jt(k:Ç)(a:Ly)(S:Ë)(Q:Internal.S->Prop):Prop:=∀n s,Hs (a.cells S) s->s.A!=DH a.F->Aa ((Bu (Dk 74 0) (Q4 74 0)<|n+k).run TT.A_ (AK TT 15) s) (.ok .none) Q (DH a.F)
section
variable{a:Ly}{S:Ë}{x y z:Cr}{k:Ç}
theorem Tn(h:Hs (a.cells S) s)(hl:s.A!=DH a.F):Aa ((Q4 74 0).run TT.A_ (AK TT 15) s) (.ok .none) (Hs<|a.Z!.cells S) (DH a.F):=by
 rcases S with _|_;.exact AE (hs:=891702) (m:=54) (r:=keep 0 54) (v:=.ok .none) h hl .nil ⋯
 .exact AE (hs:=891702) (m:=54) (r:=keep 0 54) (v:=.ok .none) h hl .nil ⋯
theorem It{bx bb bz:Ë}{t:GQ}(e0:(x.st.str=="completed")=Æ)(e1:(y.st.str=="completed")=Æ)(e2:(z.st.str=="completed")=Æ)(es:(t.str=="completed")=Æ)(h0:Jw bx x)(h1:Jw bb y)(h2:Jw bz z)(ht:S=Å->(bx&&bb&&bz)=Å->t=.G!\/t=.done) (hu:S=Å->Wi t\/t=.done/\(bx&&bb&&bz)=Å) (hQ:∀s,Hs (((a.cs x y z).E? t).cells S) s->Q s):Jt 1 ((a.cs x y z).E? t) S Q:=λn s h hl=>by
 x_go;obtain⟨b,s',e,rfl,h',l'⟩:=Ez (F:=a.F) (b1:=Æ) (P:=λb s'=>b=Æ/\Hs (((a.cs x y z).E? t).cells S) s'/\s'.A!=DH a.F) h hl (λs h=>El (a:=(a.cs x y z).E? t) h) (λs h=>Kl (a:=a.E? t) e0 e1 e2 es h) (λs h hl=>⟨Æ,_,Wz h0 h1 h2 ht hu h,λs' h' l'=>⟨Ä,h',l'⟩⟩) λZ Z Z q=>by cases q
 exact zk<|⟨s',ER e,hQ s' h',l'⟩
theorem HM(g:∀s,Hs (a.cells S) s->s.A!=DH a.F->gv (λs' a'=>(Dk 74 0).run TT.A_ (AK TT 15) s=.ok (.bool Å) s') (λs' a'=>Hs (Ly.cells a' S) s') (λs' a'=>s'.A!=DH a.F) (λs' a'=>a'.F=a.F) λs' a'=>Jt k a'.Z! S Q):Jt (k+1) a S Q:=λn s h hl=>by x_go;obtain⟨s1,a',e1,h1,l1,hF,k1⟩:=g s h hl;obtain⟨s2,e2,h2,l2⟩:=Tn h1<|AA hF l1;obtain⟨s3,e3,h3,l3⟩:=k1 n s2 h2 l2;exact zk<|⟨s3,(ET (n:=n+k) e1 e2).trans e3,h3,l3.trans<|Â DH hF⟩
theorem J5(g1:∀s,Hs (a.cells S) s->AI 15 (.fn "settle_ends") [AH a.F] s (.bool Å) L1)(h:Hs (a.cells S) s)(hl:s.A!=DH a.F):Aa ((Dk 74 0).run TT.A_ (AK TT 15) s) (.ok<|.bool Å) (Hs L1) (DH a.F):=by x_go;obtain⟨b,s',e,rfl,h',l'⟩:=Ez (F:=a.F) (b1:=Å) (P:=λb s'=>b=Å/\Hs L1 s'/\s'.A!=DH a.F) h hl (λs h=>El h) g1 (λs h l=>⟨Ä,h,l⟩) λs h l Z=>⟨Ä,h,l⟩;exact zk<|⟨s',e,h',l'⟩
theorem RU{p t:Ë}(hp:(p||t)=Å)(h:Hs ((((a.cs (Dg .done x) (Dg .done y)<|Dg .done z).R_).E?<|.lx p t).cells Å) s)(hl:s.A!=DH a.F):H5 (λs' n=>(Dk 74 0).run TT.A_ (AK TT 15) s=.ok (.bool Å) s') (λs' n=>Hs ((((a.cs (Dg .done x) (Dg .done y)<|Dg .done z).R_).S? n p t).cells Å) s') λs' n=>s'.A!=DH a.F:=by
 x_go;obtain⟨b,s',e,rfl,n,h',l'⟩:=Ez (F:=a.F) (b1:=Æ) (P:=λb s'=>b=Å/\BM (λn=>Hs ((((a.cs (Dg .done x) (Dg .done y)<|Dg .done z).R_).S? n p t).cells Å) s') λn=>s'.A!=DH a.F) h hl (λs h=>El (a:=((a.cs (Dg .done x) (Dg .done y)<|Dg .done z).R_).E?<|.lx p t) h) (λs h=>Kl (a:=(a.R_).E?<|.lx p t) (by rfl) (by rfl) (by rfl) (by rfl) h) (λs h hl=>⟨Å,_,Tq hp h,λs' h' l'=>⟨Ä,_,h',l'⟩⟩) λZ Z Z q=>by cases q
 exact zk<|⟨s',n,e,h',l'⟩
theorem MQ(h:Hs (a.cells S) s)(hk:k<=CM)(g:Jt k a S Q)(hQ:∀s l,Q s->Q {s with A!:=l}):Aa (AK TT 16 (.fn "settle_tasks") [AH a.F] s) (.ok .none) Q s.A!:=by x_go;obtain⟨s1,e1,h1,l1⟩:=g (CM-k) {s with A!:=DH a.F} (h.lz _) Ä;rw[Υ hk]at e1;refine zk<|⟨{s1 with A!:=s.A!},?_,hQ _ _ h1,Ä⟩;rw[Pl (i:=74) ⋯ ⋯ ⋯];have e2:(Bv (BS 74).body).p ⟨(BS 74).scope,[]⟩=(Bu (Dk 74 0) (Q4 74 0) CM).bind λf=>F8 f (.ret .none):=⋯;refine AA (e2 ..)<|AA (Pr.F_ ..) ?_;show EK s.A! (((Bu (Dk 74 0) (Q4 74 0) CM).run TT.A_ (AK TT 15) {s with A!:=DH a.F}).bind _)=_;exact AA e1 Ä
end
def AM(c:Cl):Cr:=⟨c.st,c.B?.map Ah.v,c.cur,c.E_,c.ly,c.lr.map Bf.v⟩
structure Jk where
 b:I3->Bc
 bd:Bd
 sb:Bs
def Jk.call(J:Jk)(i:I3):V:=Bj (J.b i).ca
def BK(J:Jk)(M:AQ):Dr:=⟨M.now,M.room,λk=>(M.q k).map J.call,M.B!.map .int,M.B_.map .int,M.A?.map .int,M.E?,M.mN.map J.call,(M.mN.map J.call).toList,Å⟩
def Jk.ck(J:Jk)(M:AQ)(i:I3):Ck:=⟨i,J.b i,AM<|M.cl i⟩
def DF(F:Fx)(J:Jk)(M:AQ):Á AC:=Gz F M.lu J.bd<|BK J M
def DE(F:Fx)(J:Jk)(M:AQ):Á AC:=bif M.lu then HE F J.sb (BK J M)else R7 F J.bd
def O_(F:Fx)(J:Jk)(M:AQ)(tail:Á AC):Á AC:=Af F M.lu [J.ck M 0,J.ck M 1,J.ck M 2]<|DF F J M++(DE F J M++(EJ F M.lu J.bd++tail))
structure BA(F:Fx)(tail:Á AC)(n:Ç)(M:AQ)(s:S):Prop where ex:kx (λ(J:Jk)=>Hs (O_ F J M tail) s) (λJ=>∀i j,i≠j->¬(J.b i).num=(J.b j).num) (λJ=>∀i,(J.b i).num<=J.bd.mc) (λJ=>J.bd.H?=È) (λJ=>J.bd.mZ.length<=n) λJ=>J.bd.H_.length<=n
section
variable{S:Ë}
theorem Pg(l1 l2:Á Ck):Af F S (l1++l2) t=Af F S l1 (Af F S l2 t):=by induction l1 with|nil=>rfl|cons x r ih=>exact Â (TN F S x.b 0 x.i x.c++·) ih
theorem FP(p:t.Perm t')(l:Á Ck):(Af F S l t).Perm (Af F S l t'):=by induction l with|nil=>exact p|cons x r ih=>exact ih.append_left _
theorem Nf(p:l.Perm l'):(Af F S l t).Perm (Af F S l' t):=by induction p with|nil=>exact .refl _|cons x _ ih=>exact ih.append_left _|swap x y l=>exact ķ _ _ _|trans _ _ h1 h2=>exact h1.trans h2
theorem FQ(a:Á AC)(l:Á Ck):(Af F S l<|a++t).Perm (a++Af F S l t):=by induction l with|nil=>exact .refl _|cons x r ih=>exact(ih.append_left _).trans<|ķ _ _ _
theorem Ql(p:l.Perm<|l1++l2):(Af F S l<|a++(b++r)).Perm (Af F S l1<|a++(b++Af F S l2 r)):=by refine(Nf p).trans ?_;exact AA (Pg ..)<|FP ((FQ a l2).trans<|(FQ b l2).append_left _) l1
end
def GN(q:Á I3):Á I3:=[0,1,2].filter λj=>!q.contains j
theorem EA:∀i:I3,[0,1,2].Perm ([i]++GN [i]):=by decide
theorem DM(p:[0,1,2].Perm<|q++GN q):(O_ F J M tail).Perm (Af F M.lu (q.map<|J.ck M)<|DF F J M++(DE F J M++Af F M.lu ((GN q).map<|J.ck M) (EJ F M.lu J.bd++tail))):=Ql (l:=[0,1,2].map<|J.ck M)<|by exact AP Ø<|p.map _
def Jk.set(J:Jk)(i:I3)(b:Bc):Jk:={J with b:=λj=>if j=i then b else J.b j}
theorem IW{J:Jk}{i:I3}{b:Bc}:(J.set i b).b i=b:=Î Ä
theorem Of{J:Jk}{i j:I3}{b:Bc}(h:¬j=i):(J.set i b).b j=J.b j:=Ì h
theorem AJ:Ab f i c i=c:=Î Ä
theorem AT(h:¬j=i):Ab f i c j=f j:=Ì h
theorem QP(h:j∈GN q):j∉q:=λhq=>by have:=(Á.mem_filter.mp h).2;rw[Á.contains_iff_mem.mpr hq]at this;exact CN this
theorem QT{J J':Jk}{M M':AQ}{q:Á I3}(h:∀j,j∉q->J'.b j=J.b j/\M'.cl j=M.cl j):(GN q).map (J'.ck M')=(GN q).map (J.ck M):=Ė λj hj=>by obtain⟨a,b⟩:=h j<|QP hj;unfold Jk.ck;exact AA a<|AA b Ä
structure Bg(J:Jk)(n:Ç):Prop where
 ne:∀i j,i≠j->¬(J.b i).num=(J.b j).num
 le:∀i,(J.b i).num<=J.bd.mc
 H?:J.bd.H?=È
 mZ:J.bd.mZ.length<=n
 H_:J.bd.H_.length<=n
theorem BA.open{n:Ç}(r:BA F tail n M s):BM (λJ=>Hs (O_ F J M tail) s) λJ=>Bg J n:=by obtain⟨J,h,a,b,c,d,e⟩:=r.ex;exact⟨J,h,a,b,c,d,e⟩
theorem BA.mv{F:Fx}{tail:Á AC}{n:Ç}{M M':AQ}{s:S}{J J':Jk}{q:Á I3}(p:[0,1,2].Perm<|q++GN q)(hS:M'.lu=M.lu)(same:∀j,j∉q->J'.b j=J.b j/\M'.cl j=M.cl j)(mu:J'.bd.H_=J.bd.H_)(nu:Bg J' n)(h:Hs (Af F M'.lu (q.map<|J'.ck M')<|DF F J' M'++(DE F J' M'++Af F M.lu ((GN q).map<|J.ck M) (EJ F M.lu J.bd++tail))) s):BA F tail n M' s:=by
 refine⟨J',?_,nu.ne,nu.le,nu.H?,nu.mZ,nu.H_⟩;have hf:EJ F M.lu J.bd=EJ F M'.lu J'.bd:=by unfold EJ;exact AA mu<|AA hS Ä
 rw[hf,<-hS,<-QT same]at h;exact h.perm (DM p).symm
theorem Bg.new{n:Ç}(h:Bg J n)(e:∀j,¬j=i->J'.b j=J.b j)(hi:(J'.b i).num=J.bd.mc+1)(hb:J'.bd.mc=J.bd.mc+1)(hh:J'.bd.H?=È)(hl:J'.bd.mZ=J.bd.mZ)(hs:J'.bd.H_=J.bd.H_):Bg J' n:=by
 refine⟨λj k jk=>?_,λj=>?_,hh,AA hl h.mZ,AA hs h.H_⟩
 .by_cases a:j=i<;>by_cases b:k=i;.exact â (a.trans b.symm) jk
  .have:=h.le k;refine AA a<|AA hi<|AA (e k b) ?_;lia
  .have:=h.le j;refine AA b<|AA hi<|AA (e j a) ?_;lia
  .exact AA (e j a)<|AA (e k b)<|h.ne j k jk
 .by_cases a:j=i;.exact AA a<|AA hi<|AA hb<|Ā _
  .exact AA (e j a)<|AA hb<|č (h.le j)<|by lia
theorem Bg.old{n:Ç}(h:Bg J n)(e:∀j,(J'.b j).num=(J.b j).num)(hb:J.bd.mc<=J'.bd.mc)(hh:J'.bd.H?=È)(hl:J'.bd.mZ.length<=n)(hs:J'.bd.H_=J.bd.H_):Bg J' n:=⟨λj k jk=>by exact AA (e ..)<|AA (e ..)<|h.ne j k jk,λj=>by exact AA (e ..)<|č (h.le j) hb,hh,hl,AA hs h.H_⟩
def Dh:Ev->Ë|.fresh=>Å|.mO=>Å|.lr _=>Å|_=>Æ
theorem Lo{S:Ë}(h:Dh c.st=Å):TN F S b 0 i c=TN F S (YJ F S b i c) 0 i {c with st:=.fresh}:=by obtain⟨st,B?,cur,E_,ly,lr⟩:=c;cases st<;>first|rfl|cases h
theorem Cp{now:Í}:AM (Az now c)=EF now (AM c):=by
 obtain⟨st,B?,cur,E_,ly,lr⟩:=c;rcases cur with _|r;.rfl
 .induction r with|rest x=>rfl|call k w m=>induction st<;>first|rfl|exact Â (λl=>(⟨_,_,_,_,_,l⟩:Cr)) Ø
def A4(F:Fx)(i:I3)(S:Ë)(sv:V):Á V:=[.ref<|.inst "Tasking" F.tg,sv,bif S then .none else .ref<|.inst "ProtectedThing" F.pt,.ref<|.dict F.sd,Ai<|F.tk i,.ref<|.dict<|F.cd i]
def A8(F:Fx)(J:Jk)(M:AQ)(tail:Á AC)(i:I3):Ea:=⟨F,i,YJ F Å (J.b i) i<|EF M.now<|AM<|M.cl i,J.bd,BK J M,J.sb,Af F Å ((GN [i]).map<|J.ck M)<|EJ F Å J.bd++tail⟩
def BO(M:AQ)(i:I3):Cr:={EF M.now (AM<|M.cl i)with st:=.fresh}
theorem Ke{now:Í}:(EF now c).st=c.st/\(EF now c).cur=c.cur:=by
 obtain⟨st,B?,cur,E_,ly,lr⟩:=c;rcases cur with _|_|_;.exact ⟨Ä,Ä⟩
 .exact ⟨Ä,Ä⟩
 .induction st<;>exact⟨Ä,Ä⟩
theorem Qg{now:Í}:(EF now c).st=c.st:=Ke.1
theorem NM{now:Í}:(EF now c).cur=c.cur:=Ke.2
theorem DY(hS:M.lu=Å)(h:Hs (O_ F J M tail) s)(hr:Dh (M.cl i).st=Å)(ok:CX<|AM<|M.cl i)(hl:(M.cl i).lr.length<G_)(ls:s.A!=At 106 (A4 F i Å<|Ai F.nM)):Aa ((BP 106 0 3).run TT.A_ (AK TT 16) s) (.ok .none) (Hs<|(A8 F J M tail i).cells<|BO M i) ((A8 F J M tail i).en.oS<|BO M i):=by
 have h:=h.perm<|DM<|EA i;unfold DF DE at h;rw[hS]at h;obtain⟨s1,e1,h1,l1⟩:=NL (e:=⟨F,i,Å,J.b i,J.bd,BK J M,0,HE F J.sb (BK J M)++Af F Å ((GN [i]).map<|J.ck M) (EJ F Å J.bd++tail),Ai F.nM,.none⟩) (c:=AM<|M.cl i) h ls ok (by show((M.cl i).lr.map Bf.v).length<G_;exact AA (Ð ..) hl);refine⟨s1,e1,?_,l1.trans ?_⟩;.unfold En.cells at h1;rw[Lo<|by exact AA Qg hr]at h1;exact h1
 .show AD _ "row" (Ol (AM<|M.cl i).cur)=AD _ "row" (Ol (BO M i).cur);exact AA (show(BO M i).cur=(AM<|M.cl i).cur from NM) Ä
def Jk.a?(J:Jk)(i:I3)(a:Ea):Jk:=⟨λj=>if j=i then a.b else J.b j,a.bd,a.sb⟩
theorem EQ{J:Jk}{i:I3}{a:Ea}:(J.a? i a).b i=a.b:=Î Ä
theorem FS{J:Jk}{i j:I3}{a:Ea}(h:¬j=i):(J.a? i a).b j=J.b j:=Ì h
section
variable{n:Ç}{J:Jk}
theorem B9(ha:Ar (BS 106) as=À ((BS 106).params.zip as))(h1:(BP 106 0 3).run TT.A_ (AK TT 16) {s with A!:=At 106 as}=.ok .none s1)(h2:LF.run TT.A_ (AK TT 16) s1=.ok v s2)(hw:∀l s,EK l (.ok v s)=.ok w {s with A!:=l}):AK TT 17 (.fn "_law_goes") as s=.ok w {s2 with A!:=s.A!}:=Vl (v:=.ok v) 3 ⋯ ha ⋯ h1 (AP (show BP 106 3 (BS 106).body.length=LF from by kernel_rfl) h2) hw
theorem Nw(hS:M.lu=Å)(pU:M'.lu=Å)(same:∀j,¬j=i->M'.cl j=M.cl j)(hF:a'.F=F)(hi:a'.i=i)(ht:a'.tail=(A8 F J M tail i).tail)(mu:a'.bd.H_=J.bd.H_)(hc:AM (M'.cl i)=c')(hd:BK (J.a? i a') M'=a'.d)(nu:Bg (J.a? i a') n)(h:Hs (a'.cells c') s):BA F tail n M' s:=by refine BA.mv (J:=J) (M:=M) (J':=J.a? i a') (EA i) (pU.trans hS.symm) (λj hj=>have ne:¬j=i:=λe=>hj<|AP e<|.head _;⟨FS ne,same j ne⟩) mu nu ?_;unfold DF DE;refine AA hS<|AA pU<|AA hd ?_;obtain⟨F',i',b',W_,d',zZ,t'⟩:=a';dsimp only at hF hi ht;subst hF hi ht;show Hs (TN F' Å (if i'=i' then b' else J.b i') 0 i' (AM<|M'.cl i')++_) s;exact AA (Î Ä)<|AA hc h
theorem HU(e:a.b.ca=(J.b i).ca):(J.a? i a).call=J.call:=ø λj=>by
 unfold Jk.call;by_cases q:j=i;.subst q;exact Â Bj<|(Â Bc.ca EQ).trans e
 .exact Â Bj<|Â Bc.ca<|FS q
theorem RM(hS:M.lu=Å)(r:BA F tail n M s)(hr:Dh (M.cl i).st=Å)(ok:CX<|AM<|M.cl i)(hl:(M.cl i).lr.length<G_)(mB:(M.cl i).B?=[]):Aa (AK TT 17 (.fn "_law_goes") (A4 F i Å<|Ai F.nM) s) (.ok .none) (BA F tail n<|(M.I_ i).mK i .mE) s.A!:=by
 x_go;obtain⟨J,h,nu⟩:=r.open;obtain⟨s1,e1,h1,l1⟩:=DY hS (h.lz<|At 106<|A4 F i Å<|Ai F.nM) hr ok hl Ä;have er:(BO M i).B?=[]:=by show(EF M.now<|AM<|M.cl i).B?=[];refine AP Cp ?_;show((Az M.now<|M.cl i).B?).map Ah.v=[];exact AA (show(Az M.now<|M.cl i).B?=(M.cl i).B? from Cq.1)<|AA mB Ä
 have ec:BO M i=⟨.fresh,[],(BO M i).cur,(BO M i).E_,(BO M i).ly,(BO M i).lr⟩:=by exact AP er Ä
 obtain⟨s2,e2,h2⟩:=YY (a:=A8 F J M tail i) (u:=⟨[],(BO M i).lr,(BO M i).cur,(BO M i).E_,(BO M i).ly⟩) ⟨AP ec h1,AP ec l1⟩;refine zk<|⟨{s2 with A!:=s.A!},B9 (by rfl) e1 e2 λZ Z=>Ä,Nw (J:=J) (i:=i) (a':=(A8 F J M tail i).S? s1.nx) hS hS (λj hj=>?_) Ä Ä Ä Ä ?_ ?_ ?_<|h2.lz _,Ä⟩;.exact (AT hj).trans<|AT hj
 .show AM (Ab (M.I_ i).cl i {(M.I_ i).cl i with st:=.mE} i)=_;refine AA AJ ?_;show({AM ((M.I_ i).cl i)with st:=.mE}:Cr)=_;exact AA (show(M.I_ i).cl i=Az M.now (M.cl i)from AJ)<|AA Cp<|Â (λl=>(⟨_,l,_,_,_,_⟩:Cr)) er
 .unfold BK;exact AA (HU Ä) Ä
 .refine nu.old (λj=>?_) (Ā _) nu.H? nu.mZ Ä;by_cases q:j=i;.subst q;exact(Â Bc.num EQ).trans Ä
  .exact Â Bc.num<|FS q
end
section
variable{n:Ç}
theorem C4(mB:(M.cl i).B?=row::rest):BO M i=fresh row.v (rest.map Ah.v) (BO M i).cur (BO M i).E_ (BO M i).ly (BO M i).lr:=by
 have er:(BO M i).B?=row.v::rest.map Ah.v:=by show(EF M.now<|AM<|M.cl i).B?=_;refine AP Cp ?_;show((Az M.now<|M.cl i).B?).map Ah.v=_;exact AA (show(Az M.now<|M.cl i).B?=(M.cl i).B? from Cq.1)<|AA mB Ä
 unfold fresh;exact AP er Ä
def G3(M:AQ)(i:I3)(rest:Á Ah):Rw:=⟨rest.map Ah.v,(BO M i).lr,(BO M i).cur,(BO M i).E_,(BO M i).ly⟩
theorem Br{st:Ev}:AM ((((M.I_ i).pop i row rest).mK i st).cl i)=after st row (rest.map Ah.v) M.now (BO M i).lr/\∀j,¬j=i->(((M.I_ i).pop i row rest).mK i st).cl j=M.cl j:=by refine⟨?_,λj hj=>(AT hj).trans<|(AT hj).trans<|AT hj⟩;show AM (Ab _ i _ i)=_;refine AA AJ ?_;show({AM (Ab (M.I_ i).cl i _ i)with st:=st}:Cr)=_;refine AA AJ ?_;show(⟨st,rest.map Ah.v,À row,M.now,row.pQ,((M.I_ i).cl i).lr.map Bf.v⟩:Cr)=after st row (rest.map Ah.v) M.now (EF M.now<|AM<|M.cl i).lr;exact AP Cp<|AA (show(M.I_ i).cl i=Az M.now (M.cl i)from AJ) Ä
theorem KK(nu:Bg J n)(h:a.b.num=(J.b i).num)(hb:J.bd.mc<=a.bd.mc)(hh:a.bd.H?=È)(hl:a.bd.mZ=J.bd.mZ)(hs:a.bd.H_=J.bd.H_):Bg (J.a? i a) n:=nu.old (λj=>by
 by_cases q:j=i;.subst q;exact(Â Bc.num EQ).trans h
 .exact Â Bc.num<|FS q) hb hh (AA hl nu.mZ) hs
theorem OT{x:Í}(hx:0<x)(hS:M.lu=Å)(r:BA F tail n M s)(hr:Dh (M.cl i).st=Å)(ok:CX<|AM<|M.cl i)(hl:(M.cl i).lr.length<G_)(mB:(M.cl i).B?=.rest x::rest):Aa (AK TT 17 (.fn "_law_goes") (A4 F i Å<|Ai F.nM) s) (.ok .none) (BA F tail n<|((M.I_ i).pop i (.rest x) rest).wM i<|.rest x) s.A!:=by x_go;obtain⟨J,h,nu⟩:=r.open;obtain⟨s1,e1,h1,l1⟩:=DY hS (h.lz<|At 106<|A4 F i Å<|Ai F.nM) hr ok hl Ä;have ec:=C4 mB;obtain⟨s2,e2,h2⟩:=UG (a:=A8 F J M tail i) (u:=G3 M i rest) hx ⟨AP ec h1,AP ec l1⟩;refine zk<|⟨{s2 with A!:=s.A!},B9 (by rfl) e1 e2 λZ Z=>Ä,Nw (J:=J) (i:=i) (a':=(A8 F J M tail i).mO s1.nx) hS hS Br.2 Ä Ä Ä Ä Br.1 ?_ (KK nu Ä (Ā _) nu.H? Ä Ä)<|h2.lz _,Ä⟩;unfold BK;exact AA (HU Ä) Ä
theorem Jc{m:Í}(hu:Wi M.E?)(pU:mT M.E? k=Æ)(hS:M.lu=Å)(r:BA F tail n M s)(hr:Dh (M.cl i).st=Å)(ok:CX<|AM<|M.cl i)(hl:(M.cl i).lr.length<G_)(mB:(M.cl i).B?=.call k .mr m::rest):Aa (AK TT 17 (.fn "_law_goes") (A4 F i Å<|Ai F.nM) s) (.ok .none) (BA F tail n<|((M.I_ i).pop i (.call k .mr m) rest).mK i<|.lr .I!) s.A!:=by x_go;obtain⟨J,h,nu⟩:=r.open;obtain⟨s1,e1,h1,l1⟩:=DY hS (h.lz<|At 106<|A4 F i Å<|Ai F.nM) hr ok hl Ä;have ec:BO M i=(G3 M i rest).call k .mr m:=C4 mB;have t:JU (A8 F J M tail i) (G3 M i rest) ((G3 M i rest).call k .mr m) s1:=⟨ec▸h1,ec▸l1⟩;replace t:=(A8 F J M tail i).oh▸t;have g:=Ri (E?:=(A8 F J M tail i).d.E?) hu pU t;replace g:=(A8 F J M tail i).oh▸g;obtain⟨s2,e2,h2⟩:=g;refine zk<|⟨{s2 with A!:=s.A!},B9 (by rfl) e1 e2 λZ Z=>Ä,Nw (J:=J) (i:=i) (a':=(A8 F J M tail i).I! s1.nx) hS hS Br.2 Ä Ä Ä Ä Br.1 ?_ (KK nu Ä (by show J.bd.mc<=J.bd.mc+1;lia) nu.H? Ä Ä)<|h2.lz _,Ä⟩;unfold BK;exact AA (HU Ä) Ä
end
section
variable{n:Ç}{J:Jk}{m:Í}
theorem Ir{a:Ea}{l:Á I3}(h:i∉l):l.map (J.a? i a).call=l.map J.call:=Ė λj hj=>Â (λb:Bc=>Bj b.ca)<|FS λe=>h<|AP e hj
theorem Nj:(J.a? i a).call i=Bj a.b.ca:=Â (λb:Bc=>Bj b.ca) EQ
theorem IQ(hw:match w with|.mr=>Ń|.num x=>0<x|.no=>Ŀ)(hq:∀k,i∉M.q k)(ha:¬M.mN=À i)(hlen:(M.q k).length<G_)(hu:Wi M.E?)(pU:mT M.E? k=Æ)(hS:M.lu=Å)(r:BA F tail n M s)(hr:Dh (M.cl i).st=Å)(ok:CX<|AM<|M.cl i)(hl:(M.cl i).lr.length<G_)(mB:(M.cl i).B?=.call k w m::rest):Aa (AK TT 17 (.fn "_law_goes") (A4 F i Å<|Ai F.nM) s) (.ok .none) (BA F tail n<|((M.I_ i).pop i (.call k w m) rest).Z_ i k<|w.dl M.now) s.A!:=by
 x_go;obtain⟨J,h,nu⟩:=r.open;obtain⟨s1,e1,h1,l1⟩:=DY hS (h.lz<|At 106<|A4 F i Å<|Ai F.nM) hr ok hl Ä;have ec:BO M i=(G3 M i rest).call k w m:=C4 mB;have t:JU (A8 F J M tail i) (G3 M i rest) ((G3 M i rest).call k w m) s1:=⟨AP ec h1,AP ec l1⟩;have pe:=(A8 F J M tail i).oh;rw[<-pe]at t;have g:=Wr (E?:=(A8 F J M tail i).d.E?) hw (by induction k<;>(show((M.q _).map J.call).length<G_;exact AA (Ð ..) hlen)) hu pU t;rw[pe]at g;obtain⟨s2,e2,h2⟩:=g;refine zk<|⟨{s2 with A!:=s.A!},B9 (by rfl) e1 e2 λZ Z=>Ä,Nw (J:=J) (i:=i) (a':=(A8 F J M tail i).lq s1.nx k w) hS hS Br.2 Ä Ä Ä Ä Br.1 ?_ (nu.new (λj hj=>FS hj) (Â Bc.num EQ) Ä nu.H? Ä Ä)<|h2.lz _,Ä⟩;have wC:M.mN.map (J.a? i<|(A8 F J M tail i).lq s1.nx k w).call=M.mN.map J.call:=by
  generalize e:M.mN=zc;rcases zc with _|j;.rfl
  .exact Â À<|Â (λb:Bc=>Bj b.ca)<|FS λq=>ha<|by exact AA e<|AA q Ä
 have ru:(λk'=>(Df M.q k (M.q k++[i]) k').map (J.a? i<|(A8 F J M tail i).lq s1.nx k w).call)=Ht (λk'=>(M.q k').map J.call) k ((M.q k).map J.call++[Bj<|s1.nx+2]):=ø λk'=>by
  unfold Df Ht;by_cases e:k'=k;.exact AA (Î e) (AA (Î e) (AA Ø (AA (Ir<|hq k) (Â (_++[·]) Nj))))
  .exact AA (Ì e)<|AA (Ì e)<|AA (Ir<|hq k') Ä
 unfold BK;show(⟨_,_,λk'=>(Df M.q k (M.q k++[i]) k').map _,_,_,_,_,M.mN.map _,(M.mN.map _).toList,_⟩:Dr)=_;exact AA ru<|AA wC Ä
theorem MI(hq:∀k,i∉M.q k)(ha:M.mN=È)(pU:mT M.E? k=Å)(hS:M.lu=Å)(r:BA F tail n M s)(hr:Dh (M.cl i).st=Å)(ok:CX<|AM<|M.cl i)(hl:(M.cl i).lr.length<G_)(mB:(M.cl i).B?=.call k w m::rest):Aa (AK TT 17 (.fn "_law_goes") (A4 F i Å<|Ai F.nM) s) (.ok .none) (BA F tail n<|((M.I_ i).pop i (.call k w m) rest).pX i) s.A!:=by x_go;obtain⟨J,h,nu⟩:=r.open;obtain⟨s1,e1,h1,l1⟩:=DY hS (h.lz<|At 106<|A4 F i Å<|Ai F.nM) hr ok hl Ä;have ec:BO M i=(G3 M i rest).call k w m:=C4 mB;have t:JU (A8 F J M tail i) (G3 M i rest) ((G3 M i rest).call k w m) s1:=⟨AP ec h1,AP ec l1⟩;have pe:=(A8 F J M tail i).oh;rw[<-pe]at t;have ea:(A8 F J M tail i).d.mN=È:=Â (Ã.map J.call) ha;have es:(A8 F J M tail i).d.oA=[]:=Â (λo=>(Ã.map J.call o).toList) ha;rw[ea,es]at t pe;have g:=Uf (E?:=(A8 F J M tail i).d.E?) pU t;rw[pe]at g;obtain⟨s2,e2,h2⟩:=g;refine zk<|⟨{s2 with A!:=s.A!},B9 (by rfl) e1 e2 λZ Z=>Ä,Nw (J:=J) (i:=i) (a':=(A8 F J M tail i).oi s1.nx k w<|TY M.E? k) hS hS Br.2 Ä Ä Ä Ä Br.1 ?_ (nu.new (λj hj=>FS hj) (Â Bc.num EQ) Ä nu.H? Ä Ä)<|h2.lz _,Ä⟩;have ru:(λk'=>(M.q k').map (J.a? i<|(A8 F J M tail i).oi s1.nx k w<|TY M.E? k).call)=λk'=>(M.q k').map J.call:=ø λk'=>Ir<|hq k';unfold BK;show(⟨_,_,λk'=>(M.q k').map _,_,_,_,_,À<|Jk.call _ i,[Jk.call _ i],_⟩:Dr)=_;refine AA ru<|AA Nj ?_;unfold Ea.oi;dsimp only;exact AA es Ä
end
def cQ(x:Ck)(k:Kd):Prop:=kj λi b d w m u=>x=Ck.lq i b d (À<|.call k w m) u
def Jv(x:Ck):Prop:=km λi b d c u=>x=Ck.lq i b d c u
section
variable{a:Eb}{ord:Ë}{wa:Ç}
theorem Tg{α:Type}{P:Á α->Prop}(h0:P [])(h1:∀y,P [y])(h2:∀y z,P [y,z])(h3:∀y z w r,P<|y::z::w::r)(r:Á α):P r:=by
 rcases r with _|⟨y,_|⟨z,_|⟨w,r⟩⟩⟩;.exact h0
 .exact h1 y
 .exact h2 y z
 .exact h3 y z w r
theorem Uq(hx:cQ x .B_)(hr:∀y∈r,Jv y/\¬y.b.num=x.b.num)(len:r.length<=2)(hp:(B!.length:Í)<a.d.room)(t:Cm (a.at ord (AS<|x::r) o B!) wa (x::r) s):∃kN,Bo s (((a.at ord (AS<|x::r) o B!).N! s.nx kN .B_ x r 0).K_<|x.X_::r):=by obtain⟨i,b,d,w,m,u,rfl⟩:=hx;induction r using Tg with|h0=>exact SG hp t|h1 y=>obtain⟨⟨i2,b2,d2,c2,u2,rfl⟩,h2⟩:=hr y<|.head _;exact SE hp h2 t|h2 y z=>obtain⟨⟨i2,b2,d2,c2,u2,rfl⟩,h2⟩:=hr y<|.head _;obtain⟨⟨i3,b3,d3,c3,u3,rfl⟩,h3⟩:=hr z<|.tail _<|.head _;exact SD hp h2 h3 t|h3 y z w r=>exact â len<|ē<|ÿ ..
theorem PA(hx:cQ x .take)(hr:∀y∈r,Jv y/\¬y.b.num=x.b.num)(len:r.length<=2)(hp:((y::ys).length:Í)<a.d.room)(t:Cm (a.at ord [] (AS<|x::r)<|y::ys) wa (x::r) s):∃kN,Bo s (((a.at ord [] (AS<|x::r)<|y::ys).N! s.nx kN .take x r 1).K_<|x.X_::r):=by obtain⟨i,b,d,w,m,u,rfl⟩:=hx;induction r using Tg with|h0=>exact Mu hp t|h1 y=>obtain⟨⟨i2,b2,d2,c2,u2,rfl⟩,h2⟩:=hr y<|.head _;exact Mt hp h2 t|h2 y z=>obtain⟨⟨i2,b2,d2,c2,u2,rfl⟩,h2⟩:=hr y<|.head _;obtain⟨⟨i3,b3,d3,c3,u3,rfl⟩,h3⟩:=hr z<|.tail _<|.head _;exact Ms hp h2 h3 t|h3 y z w r=>exact â len<|ē<|ÿ ..
theorem O'(hx:cQ x .take)(hr:∀y∈r,Jv y/\¬y.b.num=x.b.num)(len:r.length<=2)(hp:¬((y::ys).length:Í)<a.d.room)(t:Cm (a.at ord o (AS<|x::r)<|y::ys) wa (x::r) s):∃kN,Bo s (((a.at ord o (AS<|x::r)<|y::ys).N! s.nx kN .take x r 0).K_<|x.X_::r):=by obtain⟨i,b,d,w,m,u,rfl⟩:=hx;induction r using Tg with|h0=>exact Mr hp t|h1 y=>obtain⟨⟨i2,b2,d2,c2,u2,rfl⟩,h2⟩:=hr y<|.head _;exact Mq hp h2 t|h2 y z=>obtain⟨⟨i2,b2,d2,c2,u2,rfl⟩,h2⟩:=hr y<|.head _;obtain⟨⟨i3,b3,d3,c3,u3,rfl⟩,h3⟩:=hr z<|.tail _<|.head _;exact Mp hp h2 h3 t|h3 y z w r=>exact â len<|ē<|ÿ ..
end
theorem Nc{J:Jk}{M:AQ}{i:I3}{d:Ã Í}(h:(M.cl i).st=.D_ d):J.ck M i=Ck.lq i (J.b i) d (M.cl i).cur ⟨(M.cl i).B?.map Ah.v,(M.cl i).lr.map Bf.v,È,(M.cl i).E_,(M.cl i).ly⟩:=by unfold Jk.ck AM;exact AA h Ä
theorem E5{J:Jk}{M:AQ}(l:Á I3):AS (l.map<|J.ck M)=l.map J.call:=by induction l with|nil=>rfl|cons i r ih=>exact Â (J.call i::·) ih
theorem gK:∀j:I3,j∈([0,1,2]:Á I3):=by decide
theorem Cu(h:q.Nodup):[0,1,2].Perm (q++GN q):=by
 have n0:([0,1,2]:Á I3).Nodup:=by decide
 refine(Á.perm_ext_iff_of_nodup n0<|Á.nodup_append.mpr ⟨h,n0.sublist Á.filter_sublist,λa ha b hb e=>QP hb<|AP e ha⟩).mpr λj=>⟨λZ=>?_,λZ=>?_⟩
 .by_cases e:j∈q;.exact æ _ e
  .refine Ö _<|Á.mem_filter.mpr ⟨gK j,?_⟩;refine AA (Ĕ ..) ?_;rw[Ë.eq_false_iff];exact λc=>e<|bS c
 .exact gK j
def H0(J:Jk)(M:AQ)(x:Ã V):Dr:={BK J M with mN:=x,oA:=[]}
def aR(F:Fx)(J:Jk)(M:AQ)(x:Ã V)(tail:Á AC)(wa:Ç):Á AC:=(.list wa,.list [])::Af F Å [J.ck M 0,J.ck M 1,J.ck M 2] (Gz F Å J.bd (H0 J M x)++(HE F J.sb (H0 J M x)++(EJ F Å J.bd++tail)))
section
variable{n wa:Ç}
theorem GB(p:[0,1,2].Perm<|q++GN q):(aR F J M x tail wa).Perm ((.list wa,.list [])::Af F Å (q.map<|J.ck M) (Gz F Å J.bd (H0 J M x)++(HE F J.sb (H0 J M x)++Af F Å ((GN q).map<|J.ck M) (EJ F Å J.bd++tail)))):=.cons _ (Ql (l:=[0,1,2].map<|J.ck M)<|by exact AP Ø<|p.map _)
structure S9(F:Fx)(tail:Á AC)(n:Ç)(M:AQ)(s:S):Prop where ex:cT (λJ x wa=>Hs (aR F J M x tail wa) s) (λJ x wa=>Bg J n) λJ x wa=>s.A!=K5 F wa
theorem Sc(hS:M.lu=Å)(ha:M.mN=È)(r:BA F tail n M s)(hl:s.A!=At 104 (DR F)):A7 (pA.run TT.A_ (AK TT 16) s) (.ok .none) (S9 F tail n M):=by
 obtain⟨J,h,nu⟩:=r.open;have e:BK J M={BK J M with mN:=È}:=by unfold BK;exact AA ha Ä
 have h:=h.perm (DM (q:=[])<|.refl _);unfold DF DE at h;rw[hS,e]at h;obtain⟨s1,e1,h1,l1⟩:=S0 h hl;refine⟨s1,e1,J,È,s.nx,Hs.perm (l:=_::(Gz F Å J.bd (H0 J M È)++(HE F J.sb (H0 J M È)++Af F Å ((GN []).map<|J.ck M) (EJ F Å J.bd++tail)))) ?_ (GB (q:=[])<|.refl _).symm,nu,l1⟩;have e2:H0 J M È={BK J M with mN:=È}:=by unfold H0 BK;exact AA ha Ä
 exact AA e2<|h1
end
def LO(F:Fx)(J:Jk)(M:AQ)(tail:Á AC)(i:I3):Ea:=⟨F,i,J.b i,J.bd,BK J M,J.sb,Af F Å ((GN [i]).map<|J.ck M)<|EJ F Å J.bd++tail⟩
def Rf(c:Cl):Rw:=⟨c.B?.map Ah.v,c.lr.map Bf.v,È,c.E_,c.ly⟩
section
variable{n wa:Ç}{m:Í}
theorem LN(ha:M.mN=À i)(hs:M.E?=.G!):(LO F J M tail i).T! (M.B!.map .int)=LO F J M tail i:=by unfold LO Ea.T! BK;exact AA ha<|AA hs Ä
theorem KO(hS:M.lu=Å)(h:Hs (O_ F J M tail) s):Hs ((LO F J M tail i).cells<|AM<|M.cl i) s:=by have h:=h.perm<|DM<|EA i;unfold DF DE at h;replace h:=hS▸h;exact h
theorem VZ(same:∀j,¬j=i->M'.cl j=M.cl j)(hq:M'.q=M.q)(hn:M'.now=M.now)(hr:M'.room=M.room)(mu:M'.E?=M.E?)(wB:b'.ca=(J.b i).ca)(nu:Bg J n)(vl:b'.num=(J.b i).num)(hc:AM (M'.cl i)=c')(hl:s.A!=K5 F wa)(h:Hs ((.list wa,.list [])::Ea.cells {LO F J M tail i with b:=b',d:=(BK J M).b_ (M'.B!.map .int) (M'.B_.map .int) (M'.A?.map .int) Å} c') s):S9 F tail n M' s:=by
 have cs:(J.set i b').call=J.call:=ø λj=>Â Bj<|by
  by_cases e:j=i;.subst e;exact AA IW<|wB
  .exact AA (Of e) Ä
 refine⟨J.set i b',M.mN.map J.call,wa,Hs.perm ?_ (GB<|EA i).symm,nu.old (λj=>?_) (Ā _) nu.H? nu.mZ Ä,hl⟩
 .have e1:H0 (J.set i b') M' (M.mN.map J.call)=(BK J M).b_ (M'.B!.map .int) (M'.B_.map .int) (M'.A?.map .int) Å:=by unfold H0 BK;exact AA cs<|AA hq<|AA hn<|AA hr<|AA mu Ä
  have e2:(GN [i]).map ((J.set i b').ck M')=(GN [i]).map (J.ck M):=QT λj hj=>have ne:¬j=i:=λe=>hj<|AP e<|.head _;⟨Of ne,same j ne⟩;refine AA e1<|AA e2 ?_;have e3:[i].map ((J.set i b').ck M')=[⟨i,b',c'⟩]:=Â (λz=>[z]) (by unfold Jk.ck;exact AA IW<|AA hc Ä);refine AA e3 ?_;exact h
 .by_cases e:j=i;.subst e;exact AA IW<|vl
  .exact AA (Of e) Ä
theorem Va(hS:M.lu=Å)(ha:M.mN=À i)(hs:M.E?=.G!)(hm:(M.cl i).st=.mA)(hc:(M.cl i).cur=À (.call .B_ w m))(hr:(M.B!.length:Í)<M.room)(h1:M.B!.length<G_)(h2:M.B_.length<G_)(r:BA F tail n M s)(hl:s.A!=At 104 (DR F)):A7 (pA.run TT.A_ (AK TT 16) s) (.ok .none) (S9 F tail n<|M.after i .B_):=by
 obtain⟨J,h,nu⟩:=r.open;have h:=KO (i:=i) hS h;have ec:AM (M.cl i)=Fe (Rf<|M.cl i) .B_ w m:=by unfold AM;exact AA hm<|AA hc Ä
 rw[ec,<-LN ha hs]at h;obtain⟨s1,e1,g1,l1⟩:=WL (a:=LO F J M tail i) (u:=Rf<|M.cl i) (B!:=M.B!.map .int) ⟨h,hl⟩ (by exact AA (Ð ..) h1) (by show(M.B_.map _).length<G_;exact AA (Ð ..) h2);refine⟨s1,e1,VZ (i:=i) (M:=M) (b':=(J.b i).mf s.nx) (c':=Lb (Rf<|M.cl i) .B_ w m (M.cl i).ly) (λj hj=>AT hj) Ä Ä Ä Ä Ä nu Ä ?_ l1 ?_⟩;.show AM (Ab M.cl i _ i)=_;refine AA AJ ?_;unfold AM;show(⟨_,_,(M.cl i).cur,_,_,_⟩:Cr)=_;exact AA hc Ä
 .have es:(Ê<|((M.B!.map V.int).length:Í)<M.room)=Å:=Ü (by exact AA (Ð ..) hr);rw[LN ha hs]at g1;have el:(M.after i .B_).B!.map V.int=M.B!.map V.int++[.int (M.cl i).ly]:=Ø;have ep:(M.after i .B_).B_.map V.int=M.B_.map V.int++[.int (M.cl i).ly]:=Ø;refine AA el<|AA (ep ..) ?_;rw[show(Ê<|((M.B!.map V.int).length:Í)<(LO F J M tail i).d.room)=Å from es]at g1;exact g1
theorem Sb{v:Í}{X:Á Í}(hS:M.lu=Å)(ha:M.mN=À i)(hs:M.E?=.G!)(hm:(M.cl i).st=.mA)(hc:(M.cl i).cur=À (.call .take w m))(hv:M.B!=v::X)(h1:M.A?.length<G_)(r:BA F tail n M s)(hl:s.A!=At 104 (DR F)):A7 (pA.run TT.A_ (AK TT 16) s) (.ok .none) (S9 F tail n<|M.after i .take):=by
 obtain⟨J,h,nu⟩:=r.open;have h:=KO (i:=i) hS h;have ec:AM (M.cl i)=Fe (Rf<|M.cl i) .take w m:=by unfold AM;exact AA hm<|AA hc Ä
 rw[ec,<-LN ha hs,hv]at h;obtain⟨s1,e1,g1,l1⟩:=Sz (a:=LO F J M tail i) (u:=Rf<|M.cl i) (l:=X.map .int) (y:=v) ⟨h,hl⟩<|by show(M.A?.map _).length<G_;exact AA (Ð ..) h1
 have ea:M.after i .take=({M with B!:=X,A?:=M.A?++[v],cl:=Ab M.cl i {M.cl i with ly:=v}}:AQ).mK i (.lr .G?):=by unfold AQ.after AQ.body;dsimp only;exact AA hv Ä
 refine AA ea ?_;refine⟨s1,e1,VZ (i:=i) (M:=M) (b':=(J.b i).mf<|s.nx+1) (c':=Lb (Rf<|M.cl i) .take w m v) (λj hj=>(AT hj).trans<|AT hj) Ä Ä Ä Ä Ä nu Ä ?_ l1 ?_⟩;.show AM (Ab _ i {Ab M.cl i _ i with st:=_} i)=_;refine AA AJ<|AA AJ ?_;unfold AM;show(⟨_,_,(M.cl i).cur,_,_,_⟩:Cr)=_;exact AA hc Ä
 .rw[show V.int v::X.map V.int=(v::X).map V.int from Ä,<-hv,LN ha hs]at g1;show Hs (_::Ea.cells {LO F J M tail i with b:=_,d:=(BK J M).b_ (X.map .int) (M.B_.map .int) ((M.A?++[v]).map .int) Å} _) s1;refine AA Ø ?_;exact g1
end
def Jp(F:Fx)(J:Jk)(M:AQ)(x:Ã V)(tail:Á AC)(q:Á I3):Eb:=⟨F,J.bd,H0 J M x,J.sb,Af F Å ((GN q).map<|J.ck M)<|EJ F Å J.bd++tail⟩
def Jk.eb(J:Jk)(i:I3)(a:Eb):Jk:=⟨λj=>if j=i then{J.b i with sU:=.str "served"}else J.b j,a.bd,a.sb⟩
structure QW(M:AQ):Prop where
 nd:∀k,(M.q k).Nodup
 at_:∀k,∀i∈M.q k,S' (λd w m=>(M.cl i).st=.D_ d) λd w m=>(M.cl i).cur=À (.call k w m)
section
variable{n wa n0 kN:Ç}{idx:Í}
theorem JR(hs:M.E?=.G!)(e1:qp=(M.q .B_).map J.call)(e2:qt=(M.q .take).map J.call)(e3:B!=M.B!.map .int):(Jp F J M x tail q).at J.bd.ord qp qt B!=Jp F J M x tail q:=by subst e1 e2 e3;unfold Eb.at Jp H0 BK;exact AA hs<|AA (show q2 ((M.q .B_).map J.call) ((M.q .take).map J.call)=λk=>(M.q k).map J.call from ø λk=>by induction k<;>rfl) Ä
theorem GR(nd:(i::r).Nodup):Aj i (i::r)=r:=by unfold Aj;exact AA (Ĉ<|by simp)<|Á.filter_eq_self.mpr λj hj=>Ü λe=>(Hx nd).1<|AP e hj
theorem SC(hS:M.lu=Å)(hs:M.E?=.G!)(e:M.q k=i::r)(nd:(i::r).Nodup)(nu:Bg J n)(h:Hs (((Jp F J M x tail<|i::r).N! n0 kN k (J.ck M i) (r.map<|J.ck M) idx).K_<|(J.ck M i).X_::r.map (J.ck M)) s):BA F tail n (M.T! k i) s:=by
 generalize ea:(Jp F J M x tail<|i::r).N! n0 kN k (J.ck M i) (r.map<|J.ck M) idx=a' at h;have sm:(J.eb i a').b i={J.b i with sU:=.str "served"}:=Î Ä;have cs:(J.eb i a').call=J.call:=ø λj=>Â Bj<|by
  by_cases e:j=i;.subst e;exact(Â Bc.ca sm).trans Ä
  .exact Â Bc.ca<|Ì e
 have ne:∀{j},¬j=i->(J.eb i a').b j=J.b j:=λh=>Ì h;refine BA.mv (J:=J) (M:=M) (J':=J.eb i a') (Cu nd) Ä (λj hj=>have z:¬j=i:=λe=>hj<|e▸.head _;⟨ne z,AT z⟩) (by subst ea;rfl) (nu.old (λj=>?_) (by subst ea;exact Ā _) (by subst ea;exact nu.H?) (by subst ea;exact nu.mZ)<|by subst ea;rfl) ?_
 .by_cases e:j=i;.subst e;exact(Â Bc.num sm).trans Ä
  .exact Â Bc.num<|ne e
 .have e1:(i::r).map ((J.eb i a').ck<|M.T! k i)=(J.ck M i).X_::r.map (J.ck M):=by
   refine congr (Â ν ?_)<|Ė λj hj=>?_;.show (⟨i,_,AM<|Ab M.cl i _ i⟩:Ck)=_;refine AJ▸?_;exact Â (λb=>(⟨i,b,_⟩:Ck)) sm
   .have z:¬j=i:=λe=>(Hx nd).1<|e▸hj;show(⟨j,_,AM<|Ab M.cl i _ j⟩:Ck)=_;rw[AT z,ne z];rfl
  have e2:BK (J.eb i a') (M.T! k i)=a'.d:=by
   subst ea;unfold BK;refine cs▸?_;have:(λk'=>(Df M.q k (Aj i<|M.q k) k').map J.call)=Ht (λk'=>(M.q k').map J.call) k (AS<|r.map<|J.ck M):=ø λk'=>by
    unfold Df Ht;by_cases c:k'=k;.rw[Î c,Î c,e,GR nd,E5]
    .rw[Ì c,Ì c]
   show(⟨_,_,λk'=>(Df M.q k (Aj i<|M.q k) k').map J.call,_,_,_,_,_,_,_⟩:Dr)=_;refine AA this ?_;show _=(⟨_,_,_,_,_,_,M.E?,_,_,_⟩:Dr);rw[hs];rfl
  unfold DF DE;refine AA e1<|AA e2<|AA (show(M.T! k i).lu=Å from hS)<|AA hS ?_;subst ea;exact h
theorem Pd(hS:M.lu=Å)(nu:Bg J n)(h:Hs (((Jp F J M x tail []).Q_ n0 (M.E! .B_)<|M.E! .take).K_ []) s):BA F tail n M.Y? s:=by refine BA.mv (J:=J) (M:=M) (J':=⟨J.b,J.bd,((Jp F J M x tail []).Q_ n0 (M.E! .B_)<|M.E! .take).sb⟩) (q:=[]) (.refl _) Ä (λj Z=>⟨Ä,Ä⟩) Ä (nu.old (λj=>Ä) (Ā _) nu.H? nu.mZ Ä) ?_;unfold DF DE;exact AA (show M.Y?.lu=Å from hS)<|AA hS h
end
section
variable{n wa n0 kN:Ç}{M M':AQ}{J J':Jk}{q r:Á I3}{idx:Í}
theorem EB(hs:M.E?=.G!)(nd:q.Nodup)(e1:qp=(M.q .B_).map J.call)(e2:qt=(M.q .take).map J.call)(e3:B!=M.B!.map .int)(hl:s.A!=K5 F wa)(h:Hs (aR F J M x tail wa) s):Cm ((Jp F J M x tail q).at J.bd.ord qp qt B!) wa (q.map<|J.ck M) s:=by exact AA (JR hs e1 e2 e3) ⟨h.perm<|GB<|Cu nd,hl⟩
theorem cF(Q:QW M)(h:i∈M.q k):cQ (J.ck M i) k:=by x_go;obtain⟨d,w,m,e1,e2⟩:=Q.at_ k i h;exact zk<|⟨i,J.b i,d,w,m,_,(Nc e1).trans<|by exact AA e2 Ä⟩
theorem eh(Q:QW M)(h:i∈M.q k):Jv (J.ck M i):=by obtain⟨i,b,d,w,m,u,e⟩:=cF (J:=J) Q h;exact⟨i,b,d,_,u,e⟩
theorem Xv(nd:q.Nodup):q.length<=3:=by have:=(Cu nd).length_eq;rw[Õ]at this;exact Ç.le_of_add_right_le<|ű this.symm
theorem HK(Q:QW M)(nu:Bg J n)(e:M.q k=i::r):(∀y∈r.map<|J.ck M,Jv y/\¬y.b.num=(J.ck M i).b.num)/\(r.map<|J.ck M).length<=2/\(i::r).Nodup:=by
 have nd:=e▸Q.nd k;refine⟨λy hy=>?_,?_,nd⟩;.obtain ⟨j,hj,rfl⟩:=MD hy;exact⟨eh Q (k:=k)<|AA e<|.tail _ hj,nu.ne j i λz=>(Hx nd).1<|AP z hj⟩
 .exact AA (Ð ..)<|Œ<|Xv nd
theorem KL(h:M.next=À p):M.K!=M.T! p.1 p.2:=by unfold AQ.K!;exact AA h Ä
theorem KM(h:M.next=È):M.K!=M.Y?:=by unfold AQ.K!;exact AA h Ä
theorem Hg(e:M.q k=i::r):AS (J.ck M i::r.map (J.ck M))=(M.q k).map J.call:=(E5<|i::r).trans<|by exact AA e Ä
theorem Hj(Q:QW M)(hS:M.lu=Å)(hs:M.E?=.G!)(h0:0<M.room)(r:S9 F tail n M s):A7 (pB.run TT.A_ (AK TT 16) s) (.ok .none) (BA F tail n M.K!):=by
 x_go;obtain⟨J,x,wa,h,nu,hl⟩:=r.ex;have N!:∀{k i r},M.q k=i::r->M.next=À (k,i)->(OB λidx kN=>Bo s<|((Jp F J M x tail<|i::r).N! s.nx kN k (J.ck M i) (r.map<|J.ck M) idx).K_<|(J.ck M i).X_::r.map (J.ck M))->A7 (pB.run TT.A_ (AK TT 16) s) (.ok .none) (BA F tail n M.K!):=λe en g=>by x_go;obtain⟨idx,kN,s1,e1,g1⟩:=g;refine zk<|AA (KL en) ?_;exact⟨s1,e1,SC hS hs e (HK Q nu e).2.2 nu g1⟩
 have Q_:M.next=È->Bo s (((Jp F J M x tail []).Q_ s.nx (M.E! .B_)<|M.E! .take).K_ [])->A7 (pB.run TT.A_ (AK TT 16) s) (.ok .none) (BA F tail n M.K!):=λen g=>by x_go;obtain⟨s1,e1,g1⟩:=g;refine zk<|AA (KM en) ?_;exact⟨s1,e1,Pd hS nu g1⟩
 have nx:M.next=match if M.E! .B_ then(M.q .B_).head? else È with|À i=>À (.B_,i)|È=>match if M.E! .take then(M.q .take).head? else È with|À i=>À (.take,i)|È=>È:=Ä;have len:(M.B!.map V.int).length=M.B!.length:=Ð ..;refine zk ?_;generalize hp:M.E! .B_=zc;rcases zc with _|_
 .have nF:¬(M.B!.length:Í)<M.room:=ĳ hp;replace nx:=hp▸nx;generalize el:M.B!=zc;rcases zc with _|⟨y,ys⟩;.rw[el]at nF;exact â h0 nF
  .have ht:M.E! .take=Å:=by show(!M.B!.isEmpty)=Å;exact AA el Ä
   rw[ht,Î Ä]at nx;have hq:¬((V.int y::ys.map V.int).length:Í)<M.room:=by exact AA (show V.int y::ys.map V.int=M.B!.map V.int by exact AA el Ä)<|AA len nF
   generalize X?:M.q .take=zc at nx;rcases zc with _|⟨i,r⟩;.have t:=EB hs .nil (qt:=[]) (B!:=.int y::ys.map .int) Ä (by exact AA X? Ä) (by exact AA el Ä) hl h;have g:=Pe hq t;rw[JR hs Ä (by exact AA X? Ä)<|by exact AA el Ä]at g;exact Q_ nx<|by exact AA hp<|AA ht g
   .have o:=HK Q nu X?;have t:=EB hs o.2.2 (qt:=AS<|J.ck M i::r.map (J.ck M)) (B!:=.int y::ys.map .int) Ä (Hg X?) (by exact AA el Ä) hl h;have g:=O' (cF Q (k:=.take)<|AA X?<|.head _) o.1 o.2.1 hq t;rw[JR hs Ä (Hg X?)<|by exact AA el Ä]at g;obtain⟨kN,g⟩:=g;exact N! X? nx ⟨0,kN,g⟩
 .have nF:(M.B!.length:Í)<M.room:=Ù hp;rw[hp,Î Ä]at nx;generalize eq:M.q .B_=zc at nx;rcases zc with _|⟨i,r⟩
  .generalize el:M.B!=zc;rcases zc with _|⟨y,ys⟩
   .have ht:M.E! .take=Æ:=by show(!M.B!.isEmpty)=Æ;exact AA el Ä
    replace nx:=ht▸nx;have t:=EB hs .nil (qp:=[]) (B!:=[]) (by exact AA eq Ä) Ä (by exact AA el Ä) hl h;have g:=Sv (by exact h0) t;rw[JR hs (by exact AA eq Ä) Ä<|by exact AA el Ä]at g;exact Q_ nx<|by exact AA hp<|AA ht g
   .have ht:M.E! .take=Å:=by show(!M.B!.isEmpty)=Å;exact AA el Ä
    rw[ht,Î Ä]at nx;have hq:((V.int y::ys.map V.int).length:Í)<M.room:=by exact AA (show V.int y::ys.map V.int=M.B!.map V.int by exact AA el Ä)<|AA len nF
    generalize X?:M.q .take=zc at nx;rcases zc with _|⟨i,r⟩;.have t:=EB hs .nil (qp:=[]) (qt:=[]) (B!:=.int y::ys.map .int) (by exact AA eq Ä) (by exact AA X? Ä) (by exact AA el Ä) hl h;have g:=Pf hq t;rw[JR hs (by exact AA eq Ä) (by exact AA X? Ä)<|by exact AA el Ä]at g;exact Q_ nx<|by exact AA hp<|AA ht g
    .have o:=HK Q nu X?;have t:=EB hs o.2.2 (qp:=[]) (qt:=AS<|J.ck M i::r.map (J.ck M)) (B!:=.int y::ys.map .int) (by exact AA eq Ä) (Hg X?) (by exact AA el Ä) hl h;have g:=PA (cF Q (k:=.take)<|AA X?<|.head _) o.1 o.2.1 hq t;rw[JR hs (by exact AA eq Ä) (Hg X?)<|by exact AA el Ä]at g;obtain⟨kN,g⟩:=g;exact N! X? nx ⟨1,kN,g⟩
  .have o:=HK Q nu eq;have t:=EB hs o.2.2 (qp:=AS<|J.ck M i::r.map (J.ck M)) (Hg eq) Ä Ä hl h;have g:=Uq (cF Q (k:=.B_)<|AA eq<|.head _) o.1 o.2.1 (by show((M.B!.map V.int).length:Í)<M.room;exact AA len nF) t;replace g:=JR hs (Hg eq) Ä Ä▸g;obtain⟨kN,g⟩:=g;exact N! eq nx ⟨0,kN,g⟩
end
section
variable{n:Ç}{M:AQ}{m:Í}
theorem BA.lz(r:BA F tail n M s)(l:Ï->Ã V):BA F tail n M {s with A!:=l}:=by obtain⟨J,h,a1,a2,a3,a4,a5⟩:=r.ex;exact⟨J,h.lz l,a1,a2,a3,a4,a5⟩
theorem Fj:(M.after i k).q=M.q:=by obtain⟨now,room,cl,q,B!,B_,A?,lu,E?,mN⟩:=M;cases k with|B_=>rfl|take=>induction B!<;>rfl
theorem CB(h:¬j=i):(M.after i k).cl j=M.cl j:=(AT h).trans<|by obtain⟨now,room,cl,q,B!,B_,A?,lu,E?,mN⟩:=M;cases k with|B_=>rfl|take=>induction B!<;>first|rfl|exact AT h
theorem Dq:(M.after i k).lu=M.lu/\(M.after i k).E?=M.E?/\(M.after i k).room=M.room:=by obtain⟨now,room,cl,q,B!,B_,A?,lu,E?,mN⟩:=M;cases k with|B_=>exact⟨Ä,Ä,Ä⟩|take=>induction B!<;>exact⟨Ä,Ä,Ä⟩
theorem Nv(Q:QW M)(h:∀k,i∉M.q k):QW (M.after i k):=⟨λk'=>by refine AA Fj ?_;exact Q.nd k',λk' j hj=>by replace hj:=Fj▸hj;exact AA (CB λe:j=i=>h k'<|by exact AP e hj)<|Q.at_ k' j hj⟩
theorem P3(h1:pA.run TT.A_ (AK TT 16) {s with A!:=At 104<|DR F}=.ok .none s1)(h2:pB.run TT.A_ (AK TT 16) s1=.ok .none s2):AK TT 17 (.fn "_law_tend") (DR F) s=.ok .none {s2 with A!:=s.A!}:=Vl (i:=104) (v:=.ok .none) 2 ⋯ ⋯ ⋯ h1 (AP (show BP 104 2 (BS 104).body.length=pB from by kernel_rfl) h2) λZ Z=>Ä
theorem ON(Q:QW M)(h0:0<M.room)(hs:M.E?=.G!)(hS:M.lu=Å)(ha:M.mN=È)(r:BA F tail n M s):Aa (AK TT 17 (.fn "_law_tend") (DR F) s) (.ok .none) (BA F tail n M.K!) s.A!:=by obtain⟨_,e1,r1⟩:=Sc hS ha (r.lz<|At 104<|DR F) Ä;obtain⟨_,e2,r2⟩:=Hj Q hS hs h0 r1;exact⟨_,P3 e1 e2,r2.lz _,Ä⟩
theorem OM(Q:QW M)(hq:∀k,i∉M.q k)(h0:0<M.room)(hs:M.E?=.G!)(hS:M.lu=Å)(ha:M.mN=À i)(hm:(M.cl i).st=.mA)(hc:(M.cl i).cur=À (.call k w m))(hp:k=.B_->(M.B!.length:Í)<M.room)(ht:k=.take->M.B!≠[])(h1:M.B!.length<G_)(h2:M.B_.length<G_)(h3:M.A?.length<G_)(r:BA F tail n M s):Aa (AK TT 17 (.fn "_law_tend") (DR F) s) (.ok .none) (BA F tail n (M.after i k).K!) s.A!:=by
 have r:=r.lz<|At 104<|DR F;have g:A7 (pA.run TT.A_ (AK TT 16) {s with A!:=At 104<|DR F}) (.ok .none) (S9 F tail n<|M.after i k):=by x_go;induction k with|B_=>exact zk<|Va hS ha hs hm hc (hp Ä) h1 h2 r Ä|take=>
   generalize e:M.B!=zc;rcases zc with _|⟨v,X⟩;.exact (ht Ä e).elim
   .exact zk<|Sb hS ha hs hm hc e h3 r Ä
 x_go;obtain⟨s1,e1,r1⟩:=g;obtain⟨z1,z2,z3⟩:=Dq (M:=M) (i:=i) (k:=k);obtain⟨s2,e2,r2⟩:=Hj (Nv Q hq) (z1.trans hS) (z2.trans hs) (by exact AA z3 h0) r1;exact zk<|⟨_,P3 e1 e2,r2.lz _,Ä⟩
end
def FA(F:Fx)(J:Jk)(M:AQ)(tail:Á AC)(q:Á I3):Eo:=⟨F,J.bd,BK J M,Af F Æ ((GN q).map<|J.ck M)<|EJ F Æ J.bd++tail⟩
def JT(F:Fx)(J:Jk)(M:AQ)(i:I3):Ck:=⟨i,YJ F Æ (J.b i) i<|EF M.now<|AM<|M.cl i,BO M i⟩
theorem R5(nd:(i::r).Nodup):(GN [i]).Perm (r++GN (i::r)):=((EA i).symm.trans<|Cu nd).cons_inv
section
variable{n:Ç}
theorem C3(hS:M.lu=Æ)(nd:(i::r).Nodup)(h:Hs (O_ F J M tail) s)(hh:J.bd.H?=È)(hr:Dh (M.cl i).st=Å)(ok:CX<|AM<|M.cl i)(hl:(M.cl i).lr.length<G_)(ls:s.A!=At 106 (A4 F i Æ sv)):A7 ((BP 106 0 3).run TT.A_ (AK TT 16) s) (.ok .none) (CO (FA F J M tail<|i::r) (JT F J M i) (r.map<|J.ck M) sv):=by
 have h:=h.perm<|DM<|EA i;unfold DF DE at h;replace h:=hS▸h;obtain⟨s1,e1,h1,l1⟩:=NL (e:=⟨F,i,Æ,J.b i,J.bd,BK J M,0,R7 F J.bd++Af F Æ ((GN [i]).map<|J.ck M) (EJ F Æ J.bd++tail),sv,.ref<|.inst "ProtectedThing" F.pt⟩) (c:=AM<|M.cl i) h ls ok (by show((M.cl i).lr.map Bf.v).length<G_;exact AA (Ð ..) hl);refine⟨s1,e1,?_,l1.trans ?_⟩
 .unfold En.cells at h1;rw[Lo<|by exact AA Qg hr]at h1;have p:((GN [i]).map<|J.ck M).Perm (r.map (J.ck M)++(GN<|i::r).map (J.ck M)):=by exact AP Ø<|(R5 nd).map _
  refine Hs.perm (l:=Af F Æ [JT F J M i]<|Gz F Æ J.bd (BK J M)++(R7 F J.bd++Af F Æ ((GN [i]).map<|J.ck M) (EJ F Æ J.bd++tail))) h1 ?_;exact(Ql (l:=[JT F J M i]++(GN [i]).map (J.ck M))<|.refl _).symm.trans (Ql (l1:=JT F J M i::r.map (J.ck M))<|p.cons _)
 .show AD _ "row" (Ol (AM<|M.cl i).cur)=AD _ "row" (Ol (BO M i).cur);refine AP (show(BO M i).cur=(AM<|M.cl i).cur from NM) ?_;rfl
theorem ZC{a':Eo}{x':Ck}{l':Á Ck}{f:I3->Bc}(hS:M.lu=Æ)(pU:M'.lu=Æ)(nd:q.Nodup)(same:∀j,j∉q->f j=J.b j/\M'.cl j=M.cl j)(hF:a'.F=F)(ht:a'.tail=(FA F J M tail q).tail)(mu:a'.bd.H_=J.bd.H_)(hk:q.map (Jk.ck ⟨f,a'.bd,J.sb⟩ M')=x'::l')(hd:BK ⟨f,a'.bd,J.sb⟩ M'=a'.d)(nu:Bg ⟨f,a'.bd,J.sb⟩ n)(h:Hs (a'.cells x' l') s):BA F tail n M' s:=by refine BA.mv (J:=J) (M:=M) (J':=⟨f,a'.bd,J.sb⟩) (Cu nd) (pU.trans hS.symm) same mu nu ?_;unfold DF DE;refine AA hS<|AA pU<|AA hd<|AA hk ?_;unfold Eo.cells at h;rw[hF,ht]at h;exact h
theorem FY{ord:Ë}(ho:ord=J.bd.ord)(hh:J.bd.H?=È)(e1:qp=(M.q .B_).map J.call)(e2:qt=(M.q .take).map J.call)(e3:B!=M.B!.map .int):FA F J M tail q=(FA F J M tail q).at ord qp qt B!:=by subst ho e1 e2 e3;unfold Eo.at FA BK;exact AP hh<|AA (show q2 ((M.q .B_).map J.call) ((M.q .take).map J.call)=λk=>(M.q k).map J.call from ø λk=>by induction k<;>rfl) Ä
def Hu(f:I3->Bc)(i:I3)(b:Bc):I3->Bc:=λj=>if j=i then b else f j
theorem Bh:Hu f i b i=b:=Î Ä
theorem CE(h:¬j=i):Hu f i b j=f j:=Ì h
end
section
variable{x:Í}
theorem Vz(t:CO a (jP i b u) [] sv s):Co s (.D! [.none]) (a.cells ⟨i,{b with o8:=.ref<|.list<|s.nx+5},⟨.mE,[],u.cur,u.E_,u.ly,u.lr⟩⟩ []):=t.K_ (hs:=zi) (m:=29) (r:=Dw 1 6 []) (cs:=[]) .nil ⋯
theorem Rg(hx:0<x)(t:CO a (BL i b u<|Ah.v<|.rest x) [] sv s):Co s .none (a.cells ⟨i,{b with sl:=s.nx+1,L_:=.none,answer:=.none},after (.mF<|a.d.now+mx x) (.rest x) u.B? a.d.now u.lr⟩ []):=t.K_ (hs:=zj) (m:=25) (r:=Dw 1 2 [(7,1)]) (cs:=[(.b<|id<|Ê<|0<x,.b Å)]) (.cons (AU hx) .nil) ⋯
end
section
variable{n:Ç}{J:Jk}
theorem Yo(mB:(M.cl i).B?=[]):BO M i=⟨.fresh,[],(BO M i).cur,(BO M i).E_,(BO M i).ly,(BO M i).lr⟩:=by
 have er:(BO M i).B?=[]:=by show(EF M.now<|AM<|M.cl i).B?=[];refine AP Cp ?_;show((Az M.now<|M.cl i).B?).map Ah.v=[];exact AA (show(Az M.now<|M.cl i).B?=(M.cl i).B? from Cq.1)<|AA mB Ä
 exact AP er Ä
theorem Cz(nu:Bg J n)(h:b'.num=(J.b i).num)(hb:J.bd.mc<=W_.mc)(hh:W_.H?=È)(hl:W_.mZ=J.bd.mZ)(hs:W_.H_=J.bd.H_):Bg ⟨Hu J.b i b',W_,J.sb⟩ n:=nu.old (λj=>by
 by_cases q:j=i;.subst q;exact(Â Bc.num (Bh (f:=J.b))).trans h
 .exact Â Bc.num<|CE q) hb hh (AA hl nu.mZ) hs
theorem Db(e:b'.ca=(J.b i).ca):Jk.call ⟨Hu J.b i b',W_,J.sb⟩=J.call:=ø λj=>Â Bj<|by
 by_cases q:j=i;.subst q;exact(Â Bc.ca (Bh (f:=J.b))).trans e
 .exact Â Bc.ca<|CE q
theorem B6(e:J'.call=J.call):BK J' M=BK J M:=by unfold BK;exact AA e Ä
theorem WF(hc:AM (M'.cl i)=c'):[i].map (Jk.ck ⟨Hu J.b i b',W_,J.sb⟩ M')=[⟨i,b',c'⟩]:=Â (λz=>[z])<|by unfold Jk.ck;exact AA (show(⟨Hu J.b i b',W_,J.sb⟩:Jk).b i=b' from Bh)<|AA hc Ä
theorem G4(e:BO M i=c):JT F J M i=⟨i,(JT F J M i).b,c⟩:=Â (Ck.mk i _) e
theorem Ks{a':Eo}{b':Bc}{c':Cr}(hS:M.lu=Æ)(pU:M'.lu=Æ)(same:∀j,¬j=i->M'.cl j=M.cl j)(hF:a'.F=F)(ht:a'.tail=(FA F J M tail [i]).tail)(mu:a'.bd.H_=J.bd.H_)(hc:AM (M'.cl i)=c')(hd:BK ⟨Hu J.b i b',a'.bd,J.sb⟩ M'=a'.d)(nu:Bg ⟨Hu J.b i b',a'.bd,J.sb⟩ n)(h:Hs (a'.cells ⟨i,b',c'⟩ []) s):BA F tail n M' s:=ZC (q:=[i]) hS pU (by simp) (λj hj=>have ne:¬j=i:=λe=>hj<|AP e<|.head _;⟨CE ne,same j ne⟩) hF ht mu (WF hc) hd nu h
theorem RK(hS:M.lu=Æ)(r:BA F tail n M s)(hr:Dh (M.cl i).st=Å)(ok:CX<|AM<|M.cl i)(hl:(M.cl i).lr.length<G_)(mB:(M.cl i).B?=[]):Aa (AK TT 17 (.fn "_law_goes") (A4 F i Æ sv) s) (.ok .none) (BA F tail n<|(M.I_ i).mK i .mE) s.A!:=by
 x_go;obtain⟨J,h,nu⟩:=r.open;obtain⟨s1,e1,t⟩:=C3 (r:=[]) hS (by simp) (h.lz<|At 106<|A4 F i Æ sv) nu.H? hr ok hl Ä;have ec:=Yo mB;obtain⟨s2,e2,h2⟩:=Vz (i:=i) (u:=⟨[],(BO M i).lr,(BO M i).cur,(BO M i).E_,(BO M i).ly⟩) (b:=(JT F J M i).b)<|G4 ec▸t;refine zk<|⟨{s2 with A!:=s.A!},B9 (by rfl) e1 e2 λZ Z=>Ä,Ks (J:=J) hS hS (λj hj=>(AT hj).trans<|AT hj) Ä Ä Ä ?_ ?_ (by exact Cz nu Ä (Ā _) nu.H? Ä Ä)<|h2.lz _,Ä⟩;.show AM (Ab (M.I_ i).cl i {(M.I_ i).cl i with st:=.mE} i)=_;refine AA AJ ?_;show({AM ((M.I_ i).cl i)with st:=.mE}:Cr)=_;exact AA (show(M.I_ i).cl i=Az M.now (M.cl i)from AJ)<|AA Cp<|Â (λl=>(⟨_,l,_,_,_,_⟩:Cr))<|Â Cr.B? ec
 .exact (B6 (J:=J)<|Db<|by rfl).trans Ä
theorem OS{x:Í}(hx:0<x)(hS:M.lu=Æ)(r:BA F tail n M s)(hr:Dh (M.cl i).st=Å)(ok:CX<|AM<|M.cl i)(hl:(M.cl i).lr.length<G_)(mB:(M.cl i).B?=.rest x::rest):Aa (AK TT 17 (.fn "_law_goes") (A4 F i Æ sv) s) (.ok .none) (BA F tail n<|((M.I_ i).pop i (.rest x) rest).wM i<|.rest x) s.A!:=by x_go;obtain⟨J,h,nu⟩:=r.open;obtain⟨s1,e1,t⟩:=C3 (r:=[]) hS (by simp) (h.lz<|At 106<|A4 F i Æ sv) nu.H? hr ok hl Ä;have ec:=C4 mB;obtain⟨s2,e2,h2⟩:=Rg (i:=i) (u:=G3 M i rest) (b:=(JT F J M i).b) hx<|G4 ec▸t;refine zk<|⟨{s2 with A!:=s.A!},B9 (by rfl) e1 e2 λZ Z=>Ä,Ks (J:=J) hS hS Br.2 Ä Ä Ä Br.1 ?_ (by exact Cz nu Ä (Ā _) nu.H? Ä Ä)<|h2.lz _,Ä⟩;exact(B6 (J:=J)<|Db<|by rfl).trans Ä
end
def OQ(M:AQ):Prop:=∀k,M.E! k=Å->M.q k=[]
section
variable{n:Ç}{M:AQ}{m:Í}
theorem Xj(h0:0<M.room)(h:M.E! .B_=Æ):H5 (λy ys=>M.B!=y::ys) (λy ys=>¬((V.int y::ys.map V.int).length:Í)<M.room) λy ys=>M.E! .take=Å:=by
 have h:¬(M.B!.length:Í)<M.room:=ĳ h;generalize e:M.B!=zc at h;rcases zc with _|⟨y,ys⟩;.exact â h0 h
 .exact ⟨y,ys,Ä,by exact AA ę<|AA (Ð ..) h,by show(!M.B!.isEmpty)=Å;exact AA e Ä⟩
theorem Uh(h0:0<M.room)(h:M.E! .take=Æ):M.B!=[]/\M.E! .B_=Å:=by
 have h:(!M.B!.isEmpty)=Æ:=h;generalize e:M.B!=zc at h;rcases zc with _|⟨y,ys⟩;.exact ⟨Ä,Ü<|by exact AA e h0⟩
 .exact JZ h
theorem ZS(pD:M.E! k=Æ)(Q:OQ M)(h0:0<M.room)(hh:J.bd.H?=È)(t:CO (FA F J M tail [i]) (BL i b u<|Ah.v<|.call k w m) [] sv s):(w=.mr->∃l,Co s .none<|((FA F J M tail [i]).next s.nx l<|BK J M).cells ⟨i,{b with sl:=s.nx+1,call:=.none},after (.lr .I!) (.call k .mr m) u.B? M.now u.lr⟩ [])/\((match(generalizing:=false)w with|.mr=>Ń|.num x=>0<x|.no=>Ŀ)->(M.q k).length<G_->OB λc l=>Co s .none<|((FA F J M tail [i]).lq s.nx c l k).cells (Tc i b u s.nx c J.bd.mc k w m M.now) []):=by induction k with
 |B_=>
  obtain⟨y,ys,el,hp,ht⟩:=Xj h0 pD;have pe:=FY (F:=F) (tail:=tail) (q:=[i]) (ord:=J.bd.ord) (qt:=[]) (B!:=.int y::ys.map .int) Ä hh Ä (by exact AA (Q _ ht) Ä) (by exact AA (el ..) Ä);replace t:=pe▸t;refine⟨λe=>?_,λhw hl=>?_⟩;.subst e;have g:=Ma hp t;rw[<-pe]at g;exact g
  .have g:=Rl hw (by exact AA (Ð ..) hl) hp t;exact AA pe g|take=>
  obtain⟨el,hp⟩:=Uh h0 pD;have pe:=FY (F:=F) (tail:=tail) (q:=[i]) (ord:=J.bd.ord) (qp:=[]) (B!:=[]) Ä hh (by exact AA (Q _ hp) Ä) Ä (by exact AA (el ..) Ä);replace t:=pe▸t;refine⟨λe=>?_,λhw hl=>?_⟩;.subst e;have g:=K2 t;rw[<-pe]at g;exact g
  .have g:=OY hw (by exact AA (Ð ..) hl) t;exact AA pe g
theorem Jb(pD:M.E! k=Æ)(Q:OQ M)(h0:0<M.room)(hS:M.lu=Æ)(r:BA F tail n M s)(hr:Dh (M.cl i).st=Å)(ok:CX<|AM<|M.cl i)(hl:(M.cl i).lr.length<G_)(mB:(M.cl i).B?=.call k .mr m::rest):Aa (AK TT 17 (.fn "_law_goes") (A4 F i Æ sv) s) (.ok .none) (BA F tail n<|((M.I_ i).pop i (.call k .mr m) rest).mK i<|.lr .I!) s.A!:=by x_go;obtain⟨J,h,nu⟩:=r.open;obtain⟨s1,e1,t⟩:=C3 (r:=[]) hS (by simp) (h.lz<|At 106<|A4 F i Æ sv) nu.H? hr ok hl Ä;obtain⟨l,s2,e2,h2⟩:=(ZS pD Q h0 nu.H? (u:=G3 M i rest)<|G4 (C4 mB)▸t).1 Ä;exact zk<|⟨{s2 with A!:=s.A!},B9 (by rfl) e1 e2 λZ Z=>Ä,Ks (J:=J) (a':=(FA F J M tail [i]).next s1.nx l<|BK J M) hS hS Br.2 Ä Ä Ä Br.1 ((B6 (J:=J)<|Db<|by rfl).trans Ä) (by exact Cz nu Ä (by show J.bd.mc<=J.bd.mc+1;lia) nu.H? Ä Ä)<|h2.lz _,Ä⟩
theorem IP(hw:match w with|.mr=>Ń|.num x=>0<x|.no=>Ŀ)(hq:∀k,i∉M.q k)(ha:M.mN=È)(hlen:(M.q k).length<G_)(pD:M.E! k=Æ)(Q:OQ M)(h0:0<M.room)(hS:M.lu=Æ)(r:BA F tail n M s)(hr:Dh (M.cl i).st=Å)(ok:CX<|AM<|M.cl i)(hl:(M.cl i).lr.length<G_)(mB:(M.cl i).B?=.call k w m::rest):Aa (AK TT 17 (.fn "_law_goes") (A4 F i Æ sv) s) (.ok .none) (BA F tail n<|((M.I_ i).pop i (.call k w m) rest).Z_ i k<|w.dl M.now) s.A!:=by
 x_go;obtain⟨J,h,nu⟩:=r.open;obtain⟨s1,e1,t⟩:=C3 (r:=[]) hS (by simp) (h.lz<|At 106<|A4 F i Æ sv) nu.H? hr ok hl Ä;obtain⟨c,l,s2,e2,h2⟩:=(ZS pD Q h0 nu.H? (u:=G3 M i rest)<|G4 (C4 mB)▸t).2 hw hlen;refine zk<|⟨{s2 with A!:=s.A!},B9 (by rfl) e1 e2 λZ Z=>Ä,Ks (J:=J) (a':=(FA F J M tail [i]).lq s1.nx c l k) hS hS Br.2 Ä Ä Ä Br.1 ?_ (by exact nu.new (i:=i) (λj hj=>CE hj) (Â Bc.num (Bh (f:=J.b))) Ä nu.H? Ä Ä)<|h2.lz _,Ä⟩;have wB:∀{b':Bc}{W_:Bd},Jk.call ⟨Hu J.b i b',W_,J.sb⟩ i=Bj b'.ca:=Â (λb:Bc=>Bj b.ca) Bh;have nO:∀{b':Bc}{W_:Bd}{l:Á I3},i∉l->l.map (Jk.call ⟨Hu J.b i b',W_,J.sb⟩)=l.map J.call:=λh=>Ė λj hj=>Â (λb:Bc=>Bj b.ca)<|CE λe=>h<|AP e hj;have ru:∀{b':Bc}{W_:Bd},(λk'=>(Df M.q k (M.q k++[i]) k').map<|Jk.call ⟨Hu J.b i b',W_,J.sb⟩)=Ht (λk'=>(M.q k').map J.call) k ((M.q k).map J.call++[Bj b'.ca]):=ø λk'=>by
  unfold Df Ht;by_cases e:k'=k;.exact AA (Î e) (AA (Î e) (AA Ø (AA (nO<|hq k) (Â (_++[·]) wB))))
  .exact AA (Ì e)<|AA (Ì e)<|AA (nO<|hq k') Ä
 unfold BK;show(⟨_,_,λk'=>(Df M.q k (M.q k++[i]) k').map _,_,_,_,_,M.mN.map _,(M.mN.map _).toList,_⟩:Dr)=Dr.mk _ _ _ _ _ _ _ (M.mN.map _) (M.mN.map _).toList _;exact AA ru<|AA ha Ä
end
def AQ.more(M:AQ):AQ:=match M.next with|À (k,j)=>(M.L? k j).after j k|È=>M
def Ej(M:AQ)(i:I3)(row:Ah)(rest:Á Ah)(ly:Í):Cl:={Az M.now (M.cl i)with st:=.lr .G?,B?:=rest,cur:=À row,E_:=M.now,ly:=ly}
section
variable{M P:AQ}{m v:Í}{X:Á Í}
theorem Bq:Ab (Ab f i a) i b=Ab f i b:=ø λj=>by unfold Ab;split<;>rfl
theorem Rc:(P.L? .B_ j).after j .B_={P with B!:=P.B!++[(P.cl j).ly],B_:=P.B_++[(P.cl j).ly],q:=Df P.q .B_<|Aj j<|P.q .B_,cl:=Ab P.cl j {P.cl j with st:=.lr .G?}}:=by show({P with B!:=P.B!++[(Ab P.cl j _ j).ly],B_:=P.B_++[(Ab P.cl j _ j).ly],q:=_,cl:=Ab (Ab P.cl j _) j {Ab P.cl j _ j with st:=_}}:AQ)=_;exact AA Bq<|AA AJ Ä
theorem Oh(h:P.B!=v::X):(P.L? .take j).after j .take={P with B!:=X,A?:=P.A?++[v],q:=Df P.q .take<|Aj j<|P.q .take,cl:=Ab P.cl j {P.cl j with st:=.lr .G?,ly:=v}}:=by
 have e:(P.L? .take j).body j .take={P.L? .take j with B!:=X,A?:=P.A?++[v],cl:=Ab (P.L? .take j).cl j {(P.L? .take j).cl j with ly:=v}}:=by show(match P.B! with|v::X=>_|[]=>_)=_;exact AA h Ä
 unfold AQ.after;refine AA e ?_;show({P with B!:=X,A?:=_,q:=_,cl:=Ab (Ab (Ab P.cl j _) j _) j {Ab (Ab P.cl j _) j {Ab P.cl j _ j with ly:=v} j with st:=_}}:AQ)=_;exact AA Bq<|AA AJ<|AA AJ<|AA Bq Ä
theorem Oq:(M.I_ i).pop i row rest={M with cl:=Ab M.cl i {Az M.now (M.cl i)with B?:=rest,cur:=À row,E_:=M.now,ly:=row.pQ}}:=by show({M with cl:=Ab (Ab M.cl i _) i {Ab M.cl i _ i with B?:=_,cur:=_,E_:=_,ly:=_}}:AQ)=_;exact AA Bq<|AA AJ Ä
theorem Mh:((M.I_ i).pop i (.call .B_ w m) rest).after i .B_={M with B!:=M.B!++[m],B_:=M.B_++[m],cl:=Ab M.cl i<|Ej M i (.call .B_ w m) rest m}:=by refine AA Oq ?_;show({M with B!:=M.B!++[(Ab M.cl i _ i).ly],B_:=M.B_++[(Ab M.cl i _ i).ly],cl:=Ab (Ab M.cl i _) i {Ab M.cl i _ i with st:=_}}:AQ)=_;exact AA Bq<|AA AJ Ä
theorem KG(h:M.B!=v::X):((M.I_ i).pop i (.call .take w m) rest).after i .take={M with B!:=X,A?:=M.A?++[v],cl:=Ab M.cl i<|Ej M i (.call .take w m) rest v}:=by
 refine AA Oq ?_;generalize ep:({M with cl:=Ab M.cl i {Az M.now (M.cl i)with B?:=rest,cur:=À<|.call .take w m,E_:=M.now,ly:=(Ah.call .take w m).pQ}}:AQ)=P;have e:P.body i .take={P with B!:=X,A?:=P.A?++[v],cl:=Ab P.cl i {P.cl i with ly:=v}}:=by show(match P.B! with|v::X=>_|[]=>_)=_;exact AA (show P.B!=v::X by exact AP ep h) Ä
 unfold AQ.after;refine AA e ?_;subst ep;show({M with B!:=X,A?:=_,cl:=Ab (Ab (Ab M.cl i _) i _) i {Ab (Ab M.cl i _) i {Ab M.cl i _ i with ly:=v} i with st:=_}}:AQ)=_;exact AA Bq<|AA Bq<|AA AJ<|AA AJ Ä
theorem Eh{ly:Í}:AM (Ej M i row rest ly)=⟨.lr .G?,rest.map Ah.v,À row,M.now,ly,(BO M i).lr⟩:=by show(⟨.lr .G?,rest.map Ah.v,À row,M.now,ly,(AM<|Az M.now<|M.cl i).lr⟩:Cr)=_;exact AA Cp Ä
end
section
variable{a:Eo}{ord:Ë}{m y:Í}
theorem Oo(hx:cQ x .take)(hr:∀y∈r,Jv y/\¬y.b.num=x.b.num)(len:r.length<=1)(hp:(([]:Á V).length:Í)<a.d.room)(hq:a.d.B_.length<G_)(ht:a.d.A?.length<G_)(t:CO (a.at ord [] (AS<|x::r) []) (BL i b u<|Ah.v<|.call .B_ w m) (x::r) sv s):b7 λo o2 l r'=>Co s .none<|(((a.at ord [] (AS<|x::r) []).mz .take s.nx r' x r).next s.nx l {((a.at ord [] (AS<|x::r) []).mz .take s.nx r' x r).d with B!:=[],B_:=a.d.B_++[.int m],A?:=a.d.A?++[.int m],M?:=Ê<|(([]:Á V).length:Í)<a.d.room}).cells (DQ i b u s.nx o (.call .B_ w m) a.d.now m)<|x.lr s.nx o2 m::r:=by
 obtain⟨j,b2,d2,w2,m2,u2,rfl⟩:=hx;rcases r with _|⟨z,_|⟨_,_⟩⟩;.exact MY hp hq ht t
 .obtain ⟨⟨_,b3,d3,c3,u3,rfl⟩,h3⟩:=hr z<|.head _;exact MX hp hq ht h3 t
 .exact â len<|ē<|ÿ ..
theorem MP(hx:cQ x .B_)(hr:∀y∈r,Jv y/\¬y.b.num=x.b.num)(len:r.length<=1)(hp:(ys.length:Í)<a.d.room)(hf:¬((ys++[V.int x.c.ly]).length:Í)<a.d.room)(hl:ys.length<G_)(hq:a.d.B_.length<G_)(ht:a.d.A?.length<G_)(t:CO (a.at ord (AS<|x::r) []<|.int y::ys) (BL i b u<|Ah.v<|.call .take w m) (x::r) sv s):b7 λo o2 l r'=>Co s .none<|(((a.at ord (AS<|x::r) []<|.int y::ys).mz .B_ s.nx r' x r).next s.nx l {((a.at ord (AS<|x::r) []<|.int y::ys).mz .B_ s.nx r' x r).d with B!:=ys++[.int x.c.ly],B_:=a.d.B_++[.int x.c.ly],A?:=a.d.A?++[.int y],M?:=Ê<|(ys.length:Í)<a.d.room}).cells (DQ i b u s.nx o (.call .take w m) a.d.now y)<|x.lr s.nx o2 x.c.ly::r:=by
 obtain⟨j,b2,d2,w2,m2,u2,rfl⟩:=hx;rcases r with _|⟨z,_|⟨_,_⟩⟩;.exact K1 hp hf hl hq ht t
 .obtain ⟨⟨_,b3,d3,c3,u3,rfl⟩,h3⟩:=hr z<|.head _;exact K0 hp hf hl hq ht h3 t
 .exact â len<|ē<|ÿ ..
end
section
variable{n:Ç}{M M':AQ}{J:Jk}{m:Í}
theorem Ni(ei:bi.ca=(J.b i).ca)(ej:bj.ca=(J.b j).ca):Jk.call ⟨Hu (Hu J.b i bi) j bj,W_,J.sb⟩=J.call:=ø λh=>Â Bj<|by
 by_cases q:h=j;.subst q;exact(Â Bc.ca (Bh (f:=Hu J.b i bi))).trans ej
 .refine (Â Bc.ca<|CE q).trans ?_;by_cases q:h=i;.subst q;exact(Â Bc.ca (Bh (f:=J.b))).trans ei
  .exact Â Bc.ca<|CE q
theorem ZD{a':Eo}{bi bj:Bc}{ci cj:Cl}(hS:M.lu=Æ)(pU:M'.lu=Æ)(nd:(i::j::r).Nodup)(nf:M'.cl=Ab (Ab M.cl i ci) j cj)(hF:a'.F=F)(ht:a'.tail=(FA F J M tail<|i::j::r).tail)(mu:a'.bd.H_=J.bd.H_)(hd:BK ⟨Hu (Hu J.b i bi) j bj,a'.bd,J.sb⟩ M'=a'.d) (ni:bi.num=(J.b i).num) (nj:bj.num=(J.b j).num) (hb:J.bd.mc<=a'.bd.mc) (hh:a'.bd.H?=È) (hl:a'.bd.mZ=J.bd.mZ) (nu:Bg J n) (h:Hs (a'.cells ⟨i,bi,AM ci⟩<|⟨j,bj,AM cj⟩::r.map (J.ck M)) s):BA F tail n M' s:=by
 have vU:=Hx nd;have gc:=Hx vU.2;have ij:¬i=j:=λe=>vU.1<|AP e<|.head _;have out:∀{h},¬h=i->¬h=j->Hu (Hu J.b i bi) j bj h=J.b h/\M'.cl h=M.cl h:=λa b=>⟨(CE b).trans<|CE a,by exact AA nf<|(AT b).trans<|AT a⟩;refine ZC (f:=Hu (Hu J.b i bi) j bj) hS pU nd (λh hh=>out (λe=>hh<|AP e<|.head _) λe=>hh<|AP e<|.tail _<|.head _) hF ht mu ?_ hd ?_ h
 .refine congr (Â ν ?_)<|congr (Â ν ?_)<|Ė λh hh=>?_;.unfold Jk.ck;exact AA nf<|AA (AT ij)<|AA AJ<|Â (λb=>Ck.mk i b _)<|(CE ij).trans Bh
  .unfold Jk.ck;exact AA nf<|AA AJ<|Â (λb=>Ck.mk j b _) Bh
  .obtain ⟨e1,e2⟩:=out (λe=>vU.1<|AP e<|.tail _ hh) λe=>gc.1<|AP e hh;unfold Jk.ck;refine AA e2 ?_;exact Â (λb=>Ck.mk h b _) e1
 .refine nu.old (λh=>?_) hb hh (AA hl nu.mZ) mu;by_cases q:h=j;.subst q;exact(Â Bc.num (Bh (f:=Hu J.b i bi))).trans nj
  .refine (Â Bc.num<|CE q).trans ?_;by_cases q:h=i;.subst q;exact(Â Bc.num (Bh (f:=J.b))).trans ni
   .exact Â Bc.num<|CE q
theorem dT(e:M.q k=j::r)(nd:(j::r).Nodup):(λk'=>(Df M.q k (Aj j<|M.q k) k').map J.call)=Ht (λk'=>(M.q k').map J.call) k (AS<|r.map<|J.ck M):=ø λk'=>by
 unfold Df Ht;by_cases c:k'=k;.exact AA (Î c)<|AA (Î c)<|AA e<|AA (GR nd)<|AA (E5 ..) Ä
 .exact AA (Ì c)<|AA (Ì c) Ä
theorem Iq(h:∀k,M.q k=[]):M.more=M:=by
 have e:M.next=È:=by unfold AQ.next;refine AA (h ..)<|AA (h ..) ?_;cases M.E! .B_<;>cases M.E! .take<;>rfl
 unfold AQ.more;exact AA e Ä
end
structure bv(F:Fx)(tail:Á AC)(n:Ç)(M:AQ)(i:I3)(s:S):Prop where
 hS:M.lu=Æ
 r:BA F tail n M s
 hr:Dh (M.cl i).st=Å
 ok:CX<|AM<|M.cl i
 hl:(M.cl i).lr.length<G_
 oq:OQ M
 qw:QW M
 hi:∀k,i∉M.q k
 le:(M.B!.length:Í)<=M.room
 h0:0<M.room
 h1:M.B!.length<G_
 h2:M.B_.length<G_
 h3:M.A?.length<G_
def Nx(F:Fx)(tail:Á AC)(n:Ç)(M':AQ)(i:I3)(sv:V)(s:S):Prop:=Aa (AK TT 17 (.fn "_law_goes") (A4 F i Æ sv) s) (.ok .none) (BA F tail n M')<|s.A!
section
variable{n:Ç}{J:Jk}{r:Á I3}{m y:Í}{ys:Á Í}
theorem bv.start(g:bv F tail n M i s)(nd:(i::r).Nodup)(mB:(M.cl i).B?=row::rest):H5 (λJ s1=>Bg J n) (λJ s1=>(BP 106 0 3).run TT.A_ (AK TT 16) {s with A!:=At 106<|A4 F i Æ sv}=.ok .none s1) λJ s1=>CO (FA F J M tail<|i::r) (BL i (JT F J M i).b (G3 M i rest) row.v) (r.map<|J.ck M) sv s1:=by x_go;obtain⟨J,h,nu⟩:=g.r.open;obtain⟨s1,e1,t⟩:=C3 g.hS nd (h.lz<|At 106<|A4 F i Æ sv) nu.H? g.hr g.ok g.hl Ä;exact zk<|⟨J,s1,nu,e1,G4 (C4 mB)▸t⟩
theorem Wq(e1:(BP 106 0 3).run TT.A_ (AK TT 16) {s with A!:=At 106<|A4 F i Æ sv}=.ok .none s1)(e2:LF.run TT.A_ (AK TT 16) s1=.ok .none s2)(r:BA F tail n M' s2):Nx F tail n M' i sv s:=⟨_,B9 (by rfl) e1 e2 λZ Z=>Ä,r.lz _,Ä⟩
theorem ID{x:Í}:x<=x+1:=į<|Í.lt_succ x
theorem RJ(g:bv F tail n M i s)(mB:(M.cl i).B?=.call .B_ w m::rest)(hp:(M.B!.length:Í)<M.room)(q0:∀k,M.q k=[]):Nx F tail n (((M.I_ i).pop i (.call .B_ w m) rest).after i .B_).more i sv s:=by
 refine AA (Mh ..)<|AA (Iq<|by exact q0)<|AG λZ zk=>?_;obtain⟨J,s1,nu,e1,t⟩:=g.start (r:=[]) (by simp) mB;have pe:=FY (F:=F) (J:=J) (M:=M) (tail:=tail) (q:=[i]) (ord:=J.bd.ord) (qp:=[]) (qt:=[]) Ä nu.H? (by exact AA (q0 ..) Ä) (by exact AA (q0 ..) Ä) Ä;rw[pe]at t;obtain⟨o,l,s2,e2,h2⟩:=Rm (by show((M.B!.map V.int).length:Í)<M.room;exact AA (Ð ..) hp) (by exact AA (Ð ..) g.h1) (by show(M.B_.map V.int).length<G_;exact AA (Ð ..) g.h2) (by cases M.B! with|nil=>exact .inl Ä|cons y ys=>exact .inr ⟨y,_,Ä⟩) t;rw[<-pe]at h2;refine zk<|Wq e1 e2 (Ks (J:=J) (M:=M) (a':=(FA F J M tail [i]).next s1.nx l _) g.hS g.hS (λj hj=>AT hj) Ä Ä Ä ((Â AM AJ).trans<|Eh) ?_ (by exact Cz nu Ä ID nu.H? Ä Ä) h2);refine(B6 (J:=J)<|Db<|by rfl).trans ?_;have es:Ê (((M.B!.map V.int).length:Í)<M.room)=Å:=Ü<|by exact AA (Ð ..) hp
 show(⟨_,_,_,(M.B!++[m]).map V.int,(M.B_++[m]).map V.int,_,_,_,_,Å⟩:Dr)=⟨_,_,_,M.B!.map V.int++[.int m],M.B_.map V.int++[.int m],_,_,_,_,Ê<|((M.B!.map V.int).length:Í)<M.room⟩;exact AA es<|AA Ø<|AA Ø Ä
theorem OP(g:bv F tail n M i s)(mB:(M.cl i).B?=.call .take w m::rest)(hy:M.B!=y::ys)(q0:∀k,M.q k=[]):Nx F tail n (((M.I_ i).pop i (.call .take w m) rest).after i .take).more i sv s:=by refine AA (KG hy)<|AA (Iq<|by exact q0)<|AG λZ zk=>?_;obtain⟨J,s1,nu,e1,t⟩:=g.start (r:=[]) (by simp) mB;have pe:=FY (F:=F) (J:=J) (M:=M) (tail:=tail) (q:=[i]) (ord:=J.bd.ord) (qp:=[]) (qt:=[]) (B!:=.int y::ys.map .int) Ä nu.H? (by exact AA (q0 ..) Ä) (by exact AA (q0 ..) Ä) (by exact AA hy Ä);rw[pe]at t;obtain⟨o,l,s2,e2,h2⟩:=OZ (by show(M.A?.map V.int).length<G_;exact AA (Ð ..) g.h3) t;rw[<-pe]at h2;refine zk<|Wq e1 e2 (Ks (J:=J) (M:=M) (a':=(FA F J M tail [i]).next s1.nx l _) g.hS g.hS (λj hj=>AT hj) Ä Ä Ä ((Â AM AJ).trans<|Eh) ?_ (by exact Cz nu Ä ID nu.H? Ä Ä) h2);refine(B6 (J:=J)<|Db<|by rfl).trans ?_;show(⟨_,_,_,_,_,(M.A?++[y]).map V.int,_,_,_,Å⟩:Dr)=⟨_,_,_,_,_,M.A?.map V.int++[.int y],_,_,_,_⟩;exact AA Ø Ä
theorem gc(Q:QW M)(e:M.q k=j::r)(hi:i∉M.q k):(i::j::r).Nodup:=Um ⟨AP e hi,AP e<|Q.nd k⟩
theorem eO(nd:(i::j::r).Nodup):(r.map<|J.ck M).length<=1:=by exact AA (Ð ..)<|Œ<|Œ<|Xv nd
theorem RI(g:bv F tail n M i s)(mB:(M.cl i).B?=.call .B_ w m::rest)(hy:M.B!=[])(qp:M.q .B_=[])(qt:M.q .take=j::r):Nx F tail n (((M.I_ i).pop i (.call .B_ w m) rest).after i .B_).more i sv s:=by
 have z:=gc g.qw qt<|g.hi _;have ji:¬j=i:=λe=>(Hx z).1<|AP e<|.head _;have em:(((M.I_ i).pop i (.call .B_ w m) rest).after i .B_).more={M with B!:=[],B_:=M.B_++[m],A?:=M.A?++[m],q:=Df M.q .take<|Aj j<|M.q .take,cl:=Ab (Ab M.cl i<|Ej M i (.call .B_ w m) rest m) j {M.cl j with st:=.lr .G?,ly:=m}}:=by
  refine AA Mh<|AA hy ?_;have en:AQ.next {M with B!:=[m],B_:=M.B_++[m],cl:=Ab M.cl i<|Ej M i (.call .B_ w m) rest m}=À (.take,j):=by unfold AQ.next;show(match if _ then(M.q .B_).head? else È with|À i=>_|È=>match if _ then(M.q .take).head? else È with|À i=>_|È=>_)=_;refine AA qp<|AA qt ?_;cases AQ.E! _ .B_<;>rfl
  unfold AQ.more;refine AA (show([]:Á Í)++[m]=[m]from Ä)<|AA en<|(Oh<|by rfl).trans ?_;show({M with B!:=[],B_:=_,A?:=_,q:=_,cl:=Ab _ j {Ab M.cl i _ j with st:=_,ly:=_}}:AQ)=_;exact AA (AT ji) Ä
 refine AA em<|AG λZ zk=>?_;obtain⟨J,s1,nu,e1,t⟩:=g.start (r:=j::r) z mB;have pe:=FY (F:=F) (J:=J) (M:=M) (tail:=tail) (q:=i::j::r) (ord:=J.bd.ord) (qp:=[]) (B!:=[]) Ä nu.H? (by exact AA qp Ä) (Hg qt) (by exact AA hy Ä);rw[pe]at t;obtain⟨o,o2,l,r',s2,e2,h2⟩:=Oo (cF g.qw (k:=.take)<|AA qt<|.head _) (HK g.qw nu qt).1 (eO z) (by exact g.h0) (by show(M.B_.map V.int).length<G_;exact AA (Ð ..) g.h2) (by show(M.A?.map V.int).length<G_;exact AA (Ð ..) g.h3) t;rw[<-pe]at h2;refine zk<|Wq e1 e2 (ZD (J:=J) (M:=M) (a':=((FA F J M tail<|i::j::r).mz .take s1.nx r' (J.ck M j)<|r.map<|J.ck M).next s1.nx l _) (bj:=(J.ck M j).b.su s1.nx o2) (bi:=(JT F J M i).b.M_ s1.nx o) g.hS g.hS z Ä Ä Ä Ä ?_ Ä Ä ID nu.H? Ä nu<|by exact AA Eh h2);refine(B6 (J:=J)<|Ni (by rfl)<|by rfl).trans ?_;have es:Ê ((([]:Á V).length:Í)<M.room)=Å:=Ü g.h0;show(⟨_,_,λk'=>(Df M.q .take (Aj j<|M.q .take) k').map J.call,[],(M.B_++[m]).map V.int,(M.A?++[m]).map V.int,_,_,_,Å⟩:Dr)=⟨_,_,Ht (λk'=>(M.q k').map J.call) .take<|AS<|r.map<|J.ck M,[],M.B_.map V.int++[.int m],M.A?.map V.int++[.int m],_,_,_,Ê<|(([]:Á V).length:Í)<M.room⟩;exact AA (dT (J:=J) qt (Hx z).2)<|AA es<|AA Ø<|AA Ø Ä
theorem OO(g:bv F tail n M i s)(mB:(M.cl i).B?=.call .take w m::rest)(hy:M.B!=y::ys)(qt:M.q .take=[])(qp:M.q .B_=j::r):Nx F tail n (((M.I_ i).pop i (.call .take w m) rest).after i .take).more i sv s:=by
 have z:=gc g.qw qp<|g.hi _;have ji:¬j=i:=λe=>(Hx z).1<|AA e<|.head _;have full:¬(M.B!.length:Í)<M.room:=λh=>by have:=g.oq .B_<|Ü h;rw[qp]at this;cases this
 have hp:(ys.length:Í)<M.room:=by have:=g.le;rw[hy,ę]at this;exact Í.lt_of_lt_of_le (Í.lt_succ _) this
 have em:(((M.I_ i).pop i (.call .take w m) rest).after i .take).more={M with B!:=ys++[(M.cl j).ly],B_:=M.B_++[(M.cl j).ly],A?:=M.A?++[y],q:=Df M.q .B_<|Aj j<|M.q .B_,cl:=Ab (Ab M.cl i<|Ej M i (.call .take w m) rest y) j {M.cl j with st:=.lr .G?}}:=by
  refine AA (KG hy) ?_;have en:AQ.next {M with B!:=ys,A?:=M.A?++[y],cl:=Ab M.cl i<|Ej M i (.call .take w m) rest y}=À (.B_,j):=by unfold AQ.next;show(match if Ê ((ys.length:Í)<M.room)=Å then(M.q .B_).head? else È with|À i=>_|È=>_)=_;exact AA qp<|AA (Ü hp) Ä
  unfold AQ.more;refine AA en<|Rc.trans ?_;show({M with B!:=ys++[(Ab M.cl i _ j).ly],B_:=M.B_++[(Ab M.cl i _ j).ly],A?:=_,q:=_,cl:=Ab _ j {Ab M.cl i _ j with st:=_}}:AQ)=_;exact AA (AT ji) Ä
 refine AA em<|AG λZ zk=>?_;obtain⟨J,s1,nu,e1,t⟩:=g.start (r:=j::r) z mB;have pe:=FY (F:=F) (J:=J) (M:=M) (tail:=tail) (q:=i::j::r) (ord:=J.bd.ord) (qt:=[]) (B!:=.int y::ys.map .int) Ä nu.H? (Hg qp) (by exact AA qt Ä) (by exact AA hy Ä);rw[pe]at t;obtain⟨o,o2,l,r',s2,e2,h2⟩:=MP (cF g.qw (k:=.B_)<|AA qp<|.head _) (HK g.qw nu qp).1 (eO z) (by show((ys.map V.int).length:Í)<M.room;exact AA (Ð ..) hp) (by show¬((ys.map V.int++[V.int _]).length:Í)<M.room;refine AA Õ<|AA (Ð ..) ?_;rw[hy]at full;exact full) (by refine AA (Ð ..) ?_;have:=g.h1;rw[hy]at this;exact Ç.lt_of_succ_lt this) (by show(M.B_.map V.int).length<G_;exact AA (Ð ..) g.h2) (by show(M.A?.map V.int).length<G_;exact AA (Ð ..) g.h3) t;rw[<-pe]at h2;refine zk<|Wq e1 e2 (ZD (J:=J) (M:=M) (a':=((FA F J M tail<|i::j::r).mz .B_ s1.nx r' (J.ck M j)<|r.map<|J.ck M).next s1.nx l _) (bj:=(J.ck M j).b.su s1.nx o2) (bi:=(JT F J M i).b.M_ s1.nx o) g.hS g.hS z Ä Ä Ä Ä ?_ Ä Ä ID nu.H? Ä nu<|by exact AA Eh h2);refine(B6 (J:=J)<|Ni (by rfl)<|by rfl).trans ?_;have es:Ê (((ys.map V.int).length:Í)<M.room)=Å:=Ü<|by exact AA (Ð ..) hp
 show(⟨_,_,λk'=>(Df M.q .B_ (Aj j<|M.q .B_) k').map J.call,(ys++[(M.cl j).ly]).map V.int,(M.B_++[(M.cl j).ly]).map V.int,(M.A?++[y]).map V.int,_,_,_,Å⟩:Dr)=⟨_,_,Ht (λk'=>(M.q k').map J.call) .B_<|AS<|r.map<|J.ck M,ys.map V.int++[.int (M.cl j).ly],M.B_.map V.int++[.int (M.cl j).ly],M.A?.map V.int++[.int y],_,_,_,Ê<|((ys.map V.int).length:Í)<M.room⟩;exact AA (dT (J:=J) qp (Hx z).2)<|AA es<|AA Ø<|AA Ø<|AA Ø Ä
end
def Ev.K_:Ev->Ev|.mE=>.done|c=>c
def CJ:Ev->Ë|.done=>Å|_=>Æ
def AV:Ev->Ë|.mE=>Å|_=>Æ
def Fw:GQ->Ë|.lx _ _=>Å|_=>Æ
def GG(c:Cl):Cl:={c with st:=c.st.K_}
def AQ.mX(M:AQ):Ë:=CJ (M.cl 0).st&&CJ (M.cl 1).st&&CJ (M.cl 2).st
def AQ.ends(M:AQ):AQ:={M with cl:=λi=>GG<|M.cl i}
def AQ.mv(M:AQ):AQ:=bif M.lu&&M.mX&&Fw M.E? then{M with E?:=.done}else M
def AQ.settle(M:AQ):AQ:=M.ends.mv
def Bb(F:Fx)(J:Jk)(M:AQ)(tail:Á AC):Ly:=⟨F,J.b 0,J.b 1,J.b 2,AM<|M.cl 0,AM<|M.cl 1,AM<|M.cl 2,J.bd,BK J M,J.sb,tail⟩
structure N6(M:AQ):Prop where
 sc:(M.E?.str=="completed")=Æ
 hu:M.lu=Å->Wi M.E?\/M.E?=.done/\M.mX=Å
 te:M.lu=Å->M.mX=Å->Fw M.E?=Å->(∀k,M.q k=[])/\M.mN=È
section
variable{n k:Ç}{M M':AQ}{S:Ë}
theorem Jt.more(h:Jt k a S Q)(m:Ç):Jt (k+m) a S Q:=λn s a b=>by
 have e:n+(k+m)=n+m+k:=by lia
 exact AA e<|h (n+m) s a b
theorem Yd(h:AV c.st=Æ):Jw (CJ c.st) c:=by obtain⟨st,B?,cur,E_,ly,lr⟩:=c;induction st with|done=>exact Jw.done ⟨.done,B?,cur,E_,ly,lr⟩|mE=>exact JZ h|_=>exact Jw.other _ ⋯ ⋯
theorem QS(h:AV c=Æ):(c.str=="completed")=Æ:=by induction c<;>first|(cases h;done)|kernel_rfl
theorem BA.V_(nu:Bg J n)(h:Hs (O_ F J M tail) s):BA F tail n M s:=⟨J,h,nu.ne,nu.le,nu.H?,nu.mZ,nu.H_⟩
theorem EL(h:CJ c.st=Å):AM c=Dg .done (AM c):=by obtain⟨st,B?,cur,E_,ly,lr⟩:=c;cases st<;>first|rfl|cases h
theorem K7(nc:∀i,AV (M.cl i).st=Æ)(ok:N6 M)(nu:Bg J n)(hq:(M.lu&&M.mX&&Fw M.E?)=Æ)(hQ:∀s,Hs ((Bb F J M tail).cells M.lu) s->Q s):Jt 1 (Bb F J M tail) M.lu Q:=It (a:=Bb F J M tail) (x:=AM<|M.cl 0) (y:=AM<|M.cl 1) (z:=AM<|M.cl 2) (t:=M.E?) (QS<|nc 0) (QS<|nc 1) (QS<|nc 2) ok.sc (Yd<|nc 0) (Yd<|nc 1) (Yd<|nc 2) λh e=>by
   have e:M.mX=Å:=e;rw[h,e]at hq;rcases ok.hu h with u|u;.generalize es:M.E?=zc;induction zc with|G!=>exact .inl Ä|lx p t=>rw[es]at hq;exact JZ hq|_=>rw[es]at u;exact u.elim
   .exact .inr u.1
  (λh=>(ok.hu h).imp id id) hQ
theorem YW(nc:∀i,AV (M.cl i).st=Æ):M.ends=M:=by unfold AQ.ends;exact AA (show(λi=>GG<|M.cl i)=M.cl from ø λi=>by have:=nc i;generalize M.cl i=c at this;obtain⟨st,B?,cur,E_,ly,lr⟩:=c;induction st<;>first|rfl|cases this) Ä
theorem Qe(h:∀k,M.q k=[])(ha:M.mN=È):(Bb F J M tail).R_=Bb F J M tail:=by unfold Ly.R_ Bb BK;exact AA (ha ..)<|AA (show(λk=>(M.q k).map J.call)=q2 [] []from ø λk=>by refine AA (h ..) ?_;induction k<;>rfl) Ä
theorem QB(nc:∀i,AV (M.cl i).st=Æ)(ok:N6 M)(nu:Bg J n):Jt 3 (Bb F J M tail) M.lu (BA F tail n M.mv):=by
 x_go;generalize hq:(M.lu&&M.mX&&Fw M.E?)=zc;rcases zc with _|_
 .refine zk ?_;have e:M.mv=M:=by unfold AQ.mv;exact AA hq Ä
  exact AA e<|(K7 nc ok nu hq λs h=>BA.V_ (J:=J) nu h).more 2
 .refine zk ?_;have e:M.mv={M with E?:=.done}:=by unfold AQ.mv;exact AA hq Ä
  refine AA e<|AG λZ zk=>?_;obtain⟨h1,oO⟩:=S7 hq;obtain⟨hS,xK⟩:=S7 h1;obtain⟨ru,ha⟩:=ok.te hS xK oO;obtain⟨zC,h2⟩:=S7 xK;obtain⟨h0,h1⟩:=S7 zC;generalize es:M.E?=zc;induction zc with|lx p t=>
   have hp:(p||t)=Å:=by
    x_go;rcases ok.hu hS with u|u;.refine zk ?_;rw[es]at u;exact u
    .rw[es]at u;cases u.1
   refine zk<|AA hS ?_;have ea:((((Bb F J M tail).cs (Dg .done<|AM<|M.cl 0) (Dg .done<|AM<|M.cl 1)<|Dg .done<|AM<|M.cl 2).R_).E?<|.lx p t)=Bb F J M tail:=by exact AP (EL h0)<|AP (EL h1)<|AP (EL h2)<|AA (show(Bb F J M tail).cs _ _ _=Bb F J M tail from Ä)<|AA (Qe ru ha)<|AP es Ä
   refine HM (k:=2) λs h hl=>?_;rw[<-ea]at h;x_go;obtain⟨s1,m,e1,g1,l1⟩:=RU hp h hl;refine zk<|⟨s1,_,e1,g1,l1,Ä,?_⟩;refine HM (k:=1) λs h hl=>?_;have qv:∀{x:Cr},((Dg .done x).st.str=="completed")=Æ:=λ{x}=>⋯;x_go;obtain⟨s2,e2,g2,l2⟩:=J5 (S:=Å) (a:=((((Bb F J M tail).cs (Dg .done<|AM<|M.cl 0) (Dg .done<|AM<|M.cl 1)<|Dg .done<|AM<|M.cl 2).R_).S? m p t).Z!) (λs h=>bI (a:=(((Bb F J M tail).R_).S? m p t).Z!) (x:=Dg .done<|AM<|M.cl 0) (y:=Dg .done<|AM<|M.cl 1) (z:=Dg .done<|AM<|M.cl 2) qv qv qv h) h hl;refine zk<|⟨s2,_,e2,g2,l2,Ä,?_⟩;refine It (a:=((((Bb F J M tail).R_).S? m p t).Z!).Z!) (t:=.done) qv qv qv ⋯ (.done _) (.done _) (.done _) (λZ Z=>.inr Ä) (λZ=>.inr ⟨Ä,Ä⟩) λs h=>?_;rw[Qe ru ha,<-EL h0,<-EL h1,<-EL h2]at h;refine BA.V_ (J:=⟨J.b,{J.bd with P_:=J.bd.P_+1+1},((Bb F J M tail).S? m p t).sb⟩) (nu.old (λZ=>Ä) (Ā _) nu.H? nu.mZ Ä) ?_;unfold O_ DF DE;exact h|_=>refine zk ?_;rw[es]at oO;exact CN oO
end
section
variable{n k:Ç}{M M':AQ}{S:Ë}
theorem EM(h:AV c.st=Å):AM c=Dg .mE (AM c)/\AM (GG c)=Dg .done (AM c):=by obtain⟨st,B?,cur,E_,ly,lr⟩:=c;cases st<;>first|exact⟨Ä,Ä⟩|cases h
theorem Fh(h:AV c.st=Æ):AM (GG c)=AM c:=by obtain⟨st,B?,cur,E_,ly,lr⟩:=c;cases st<;>first|rfl|cases h
theorem Vw(hi:AV (M.cl i).st=Å)(ho:∀j,¬j=i->AV (M.cl j).st=Æ)(hs:(M.E?.str=="completed")=Æ)(h:Hs ((Bb F J M tail).cells S) s):AI 15 (.fn "settle_ends") [AH F] s (.bool Å) ((Bb F J M.ends tail).cells S):=by
 have key:∀{x y z x' y' z':Cr},AM (M.cl 0)=x->AM (M.cl 1)=y->AM (M.cl 2)=z->AM (GG<|M.cl 0)=x'->AM (GG<|M.cl 1)=y'->AM (GG<|M.cl 2)=z'->AI 15 (.fn "settle_ends") [AH F] s (.bool Å) (((Bb F J M tail).cs x' y' z').cells S)->AI 15 (.fn "settle_ends") [AH F] s (.bool Å) ((Bb F J M.ends tail).cells S):=λa b c d e f g=>by subst a b c d e f;exact g
 have no:∀j,¬j=i->((AM<|M.cl j).st.str=="completed")=Æ:=λj hj=>QS<|ho j hj;induction i using NK;.refine key Ä Ä Ä (EM hi).2 (Fh<|ho 1<|by decide) (Fh<|ho 2<|by decide) (bL (a:=Bb F J M tail) (no 1<|by decide) (no 2<|by decide) hs ?_);exact AP (EM hi).1<|h
 .refine key Ä Ä Ä (Fh<|ho 0<|by decide) (EM hi).2 (Fh<|ho 2<|by decide) (bK (a:=Bb F J M tail) (no 0<|by decide) (no 2<|by decide) hs ?_);exact AP (EM hi).1<|h
 .refine key Ä Ä Ä (Fh<|ho 0<|by decide) (Fh<|ho 1<|by decide) (EM hi).2 (bJ (a:=Bb F J M tail) (no 0<|by decide) (no 1<|by decide) hs ?_);exact AP (EM hi).1<|h
theorem Qp(c:Cl):AV (GG c).st=Æ:=by obtain⟨st,B?,cur,E_,ly,lr⟩:=c;induction st<;>rfl
theorem Oe(a_:∀i j,AV (M.cl i).st=Å->¬j=i->AV (M.cl j).st=Æ)(ok:N6 M.ends)(r:BA F tail n M s):Aa (AK TT 16 (.fn "settle_tasks") [AH F] s) (.ok .none) (BA F tail n M.settle) s.A!:=by
 x_go;obtain⟨J,h,nu⟩:=r.open;have fin:BM (λk=>k<=CM) λk=>Jt k (Bb F J M tail) M.lu<|BA F tail n M.settle:=by
  by_cases c:∃i,AV (M.cl i).st=Å;.x_go;obtain⟨i,hi⟩:=c;refine zk<|⟨4,by decide,HM (k:=3) λs h hl=>?_⟩;x_go;obtain⟨s1,e1,g1,l1⟩:=J5 (λs h=>Vw (F:=F) hi (a_ i · hi) ok.sc h) h hl;exact zk<|⟨s1,Bb F J M.ends tail,e1,g1,l1,Ä,QB (M:=M.ends) (J:={J with bd:={J.bd with P_:=J.bd.P_+1}}) (λi=>Qp _) ok<|nu.old (λZ=>Ä) (Ā _) nu.H? nu.mZ Ä⟩
  .have nc:∀i,AV (M.cl i).st=Æ:=λi=>by
    generalize e:AV (M.cl i).st=zc;rcases zc with _|_;.rfl
    .exact (c ⟨i,e⟩).elim
   have e:=YW nc;unfold AQ.settle;rw[e]at ok⊢;exact⟨3,by decide,QB nc ok nu⟩
 obtain⟨k,hk,g⟩:=fin;exact zk<|MQ (a:=Bb F J M tail) h hk g λs l r=>r.lz l
end
def UC:GQ->Ë|.G!=>Å|_=>Æ
def UD:GQ->Ë|.done=>Å|_=>Æ
def Po(M:AQ):Prop:=∀i d,(M.cl i).st=.D_ (À d)->¬d<=M.now
def CQ(F:Fx)(M:AQ):Á V:=Au (Dh (M.cl 0).st) (Ai<|F.tk 0)++Au (Dh (M.cl 1).st) (Ai<|F.tk 1)++Au (Dh (M.cl 2).st) (Ai<|F.tk 2)++LG M.lu (UC M.E?) [Ai F.nM]
def Bp(M:AQ):Á V:=Au (!CJ (M.cl 0).st) (V.int 1)++Au (!CJ (M.cl 1).st) (V.int 2)++Au (!CJ (M.cl 2).st) (V.int 3)++LG M.lu (!UD M.E?) [V.int 4]
section
variable{n k:Ç}{S:Ë}
theorem U8{now:Í}(h:∀d,c.st=.D_ (À d)->¬d<=now):Hq now (AM c):=by obtain⟨st,B?,cur,E_,ly,lr⟩:=c;induction st with
 |D_ d=>
  rcases d with _|d;.exact .none<|AM ⟨.D_ È,B?,cur,E_,ly,lr⟩
  .exact .some d (AM ⟨.D_<|À d,B?,cur,E_,ly,lr⟩)<|h d Ä|_=>exact .other _ ⋯
theorem U6(hn:Po M)(h:Hs (O_ F J M tail) s):AI 16 (.fn "end_late") [AH F] s (.bool Æ) (O_ F J M tail):=U5 (a:=Bb F J M tail) (U8<|hn 0) (U8<|hn 1) (U8<|hn 2) h
theorem Uu(h:Hs (O_ F J M tail) s)(nu:Bg J n):BM (λJ'=>AI 16 (.fn "serve_lost") [AH F] s (.bool Æ)<|O_ F J' M tail) λJ'=>Bg J' n:=⟨{J with bd:={J.bd with lo:=s.nx,mZ:=[]}},Ut (a:=Bb F J M tail) h,nu.old (λZ=>Ä) (Ā _) nu.H? (è _) Ä⟩
def fQ(F:Fx)(S:Ë)(b:Bc)(i:I3)(c:Cr):Bc:=bif Dh c.st then YJ F S b i c else b
def YL(c:Cr):Cr:=bif Dh c.st then{c with st:=.fresh}else c
theorem Vp:TN F S b 0 i c=TN F S (fQ F S b i c) 0 i (YL c):=by
 unfold fQ YL;generalize e:Dh c.st=zc;rcases zc with _|_;.rfl
 .exact Lo e
theorem iS:TQ (Dh c.st) (YL c):=by obtain⟨st,B?,cur,E_,ly,lr⟩:=c;induction st with|fresh=>exact TQ.fresh ⟨.fresh,B?,cur,E_,ly,lr⟩|mO=>exact TQ.fresh ⟨.fresh,B?,cur,E_,ly,lr⟩|lr a=>exact TQ.fresh ⟨.fresh,B?,cur,E_,ly,lr⟩|_=>exact TQ.other _ ⋯
theorem lM:cO (UC t) t:=by induction t with|G!=>exact .G!|_=>exact .other _ ⋯
theorem kW:b9 (UD t) t:=by induction t with|done=>exact .done|_=>exact .other _ ⋯
theorem Rk(h:Hs (O_ F J M tail) s):AI 16 (.fn "ready_tasks") [AH F] s (.ref<|.list s.nx) ((.list s.nx,.list<|CQ F M)::O_ F J M tail):=by
 let a:Ly:=⟨F,fQ F M.lu (J.b 0) 0<|AM<|M.cl 0,fQ F M.lu (J.b 1) 1<|AM<|M.cl 1,fQ F M.lu (J.b 2) 2<|AM<|M.cl 2,YL<|AM<|M.cl 0,YL<|AM<|M.cl 1,YL<|AM<|M.cl 2,J.bd,BK J M,J.sb,tail⟩;have e:O_ F J M tail=a.cells M.lu:=by show TN F M.lu (J.b 0) 0 0 (AM<|M.cl 0)++(TN F M.lu (J.b 1) 0 1 (AM<|M.cl 1)++(TN F M.lu (J.b 2) 0 2 (AM<|M.cl 2)++_))=_;exact AA (Vp (i:=0)) (AA (Vp (i:=1)) (AA (Vp (i:=2)) Ä))
 rw[e]at h⊢;exact Rj (a:=a) (x:=YL<|AM<|M.cl 0) (y:=YL<|AM<|M.cl 1) (z:=YL<|AM<|M.cl 2) (t:=M.E?) (iS (c:=AM<|M.cl 0)) (iS (c:=AM<|M.cl 1)) (iS (c:=AM<|M.cl 2)) lM h
theorem MF(nc:∀i,AV (M.cl i).st=Æ)(h:Hs (O_ F J M tail) s):AI 16 (.fn "waiting_tasks") [AH F] s (.ref<|.list s.nx) ((.list s.nx,.list<|Bp M)::O_ F J M tail):=Hd (a:=Bb F J M tail) (x:=AM<|M.cl 0) (y:=AM<|M.cl 1) (z:=AM<|M.cl 2) (t:=M.E?) (Yd (c:=AM<|M.cl 0)<|nc 0) (Yd (c:=AM<|M.cl 1)<|nc 1) (Yd (c:=AM<|M.cl 2)<|nc 2) kW h
def Ha(F:Fx):Prop:=BM (λ(l:Á Í)=>F.oR=l.map .int) λl=>l≠[]
theorem Ga{k:Í}(h0:0<=k)(h1:k<l.length):∃v∈l,BC l k=À v:=by
 have e:seqIndex? k l.length=À k.toNat:=by unfold seqIndex?;simp[h0,h1,show¬k<0 by omega]
 have lt:k.toNat<l.length:=by omega
 exact⟨l[k.toNat],Á.getElem_mem lt,by unfold BC;exact AA e<|Á.getElem?_eq_getElem lt⟩
theorem Pi{ra:Ç}(w:Ha F)(nO:CQ F M≠[])(h:Hs ((.list ra,.list<|CQ F M)::O_ F J M tail) s)(nu:Bg J n)(hn:n<G_):∃x∈CQ F M,BM (λJ'=>AI 16 (.fn "choose_among") [AH F,.ref<|.list ra] s x<|O_ F J' M tail) λJ'=>Bg J'<|n+1:=by
 x_go;obtain⟨l,ew,hl⟩:=w;have pos:(0:Í)<(F.oR.length:Í):=by exact AA ew<|AA (Ð ..)<|Í.ofNat_lt.mpr<|Á.length_pos_iff.mpr hl
 have rp:(0:Í)<((CQ F M).length:Í):=Í.ofNat_lt.mpr<|Á.length_pos_iff.mpr nO;obtain⟨v,hv,e1⟩:=Ga (l:=F.oR) (k:=gx<|Bb F J M tail) (ė _ pos)<|İ _ pos;have hv:=hv;rw[ew]at hv;obtain⟨wv,_,rfl⟩:=MD hv;have b1:=ė wv rp;have b2:=İ wv rp;refine zk ?_;obtain⟨x,hx,e2⟩:=Ga (l:=CQ F M) (k:=dL M.lu (CQ F M).length wv) (by unfold dL;induction M.lu<;>(dsimp only[cond];omega)) (by unfold dL;induction M.lu<;>(dsimp only[cond];omega));refine⟨x,hx,{J with bd:={J.bd with H_:=J.bd.H_++[.int<|Ł wv (CQ F M).length]}},?_,⟨nu.ne,nu.le,nu.H?,ő nu.mZ,?_⟩⟩;.exact Ph (a:=Bb F J M tail) (bx:=Dh (M.cl 0).st) (bb:=Dh (M.cl 1).st) (bz:=Dh (M.cl 2).st) (bs:=UC M.E?) pos e1 (Ò nu.H_ hn) e2 h
 .show (J.bd.H_++[_]).length<=n+1;exact AA Õ<|ú nu.H_
end
def Ei.i?(a:Ei)(ord:Ë)(k:Kd)(qs o:Á V):Ei:=match k with|.B_=>a.at ord qs o|.take=>a.at ord o qs
def AQ.mL(M:AQ)(i:I3):AQ:=Yb M.now (M.cl i).st (M.cl i).cur M (M.mK i .mO) λk=>M.mP k i
def Wj(y z:Ck):Ç->Á Ck×Á Ck|0=>([],[])|1=>([],[y])|2=>([y],[])|3=>([],[y,z])|4=>([y],[z])|_=>([y,z],[])
inductive jo(Q:Ck->Prop)(l1 l2:Á Ck):Prop|mk (y z:Ck) (j:Ç) (hj:j∈ê 6) (hy:Q y) (hz:Q z) (e1:l1=(Wj y z j).1) (e2:l2=(Wj y z j).2)
theorem Zl(x:Ck)(hx:Q x)(l1 l2:Á Ck):(∀y∈l1++l2,Q y)->(l1++l2).length<=2->jo Q l1 l2:=by
 rcases l1 with _|⟨y,_|⟨z,_|⟨_,_⟩⟩⟩
 .rcases l2 with _|⟨y,_|⟨z,_|⟨_,_⟩⟩⟩;.exact λ_ _=>⟨x,x,0,by decide,hx,hx,Ä,Ä⟩
  .exact λh _=>⟨y,x,1,by decide,h y<|.head _,hx,Ä,Ä⟩
  .exact λh _=>⟨y,z,3,by decide,h y<|.head _,h z<|.tail _<|.head _,Ä,Ä⟩
  .exact λ_ len=>â len<|ē<|ÿ ..
 .rcases l2 with _|⟨z,_|⟨_,_⟩⟩;.exact λh _=>⟨y,x,2,by decide,h y<|.head _,hx,Ä,Ä⟩
  .exact λh _=>⟨y,z,4,by decide,h y<|.head _,h z<|.tail _<|.head _,Ä,Ä⟩
  .exact λ_ len=>â len<|ē<|ÿ ..
 .rcases l2 with _|⟨_,_⟩;.exact λh _=>⟨y,z,5,by decide,h y<|.head _,h z<|.tail _<|.head _,Ä,Ä⟩
  .exact λ_ len=>â len<|ē<|ÿ ..
 .exact λ_ len=>â len<|ē<|ÿ ..
def iy(b:Bc)(y:Ck):X×X:=(.b<|!(ñ y.b.num).eqv (.int b.num),.b Å)
theorem ZI{b:Bc}{l:Á Ck}:(∀y∈l,¬y.b.num=b.num)->AL (l.map<|iy b):=by induction l with|nil=>exact λZ=>.nil|cons y r ih=>exact λh=>.cons (aC<|h y<|.head _)<|ih λz hz=>h z<|.tail _ hz
noncomputable abbrev Qc:=Ç×Kd×Ë×Ë×Ë
def jh:Á Qc:=(ê 6).flatMap λj=>[Kd.B_,Kd.take].flatMap λk=>Np.map λq=>(j,k,q)
theorem eB{j:Ç}(h:j∈ê 6)(k:Kd)(q:B3):(j,k,q)∈jh:=YI ⟨j,h,YI ⟨k,by cases k<;>first|exact .head _|exact .tail _<|.head _,Et ⟨q,LQ q,Ä⟩⟩⟩
def Xa:Ç->Á Ç|0=>[16]|1=>[16,34]|2=>[34,16]|3=>[16,34,52]|4=>[34,16,52]|_=>[34,52,16]
def hQ(q:Qc):Ç:=let K:=18*(Xa q.1).length;let z:=match q.2.1 with|.B_=>K+6|.take=>K+8;BV<|[126,K,0,K+2,125,127,126,0,K,K+18,0,16,K+18,127,K+18,0,0,16,K+20,K+4,1,16,K+4,z,z,z]++(Xa q.1).flatMap (λc=>[c,1,16,125,127,z])++[5,7]++(match q.1 with|0=>[K+4]|_=>[])++[1,16,K+4,K+4,K+4,16,16,16]
def rQ(q:Qc):Á Ç:=Zn (Xa q.1).length 5 (match q.1,q.2.1 with|0,_=>0|_,.B_=>1|_,.take=>2) 2
def j9(a:Ei)(S:Ë):V:=bif S then Ai a.F.nM else .ref<|.inst "ProtectedThing" a.F.pt
def fc(a:Ei)(i:I3)(b:Bc)(d:Í)(w:Wt)(m:Í)(u:Rw)(y z:Ck)(v:V)(vs:Á V)(q:Qc):Ei:=a.i? q.2.2.2.2 q.2.1 (AS<|(Wj y z q.1).1++Ck.lq i b (À d) (À<|.call q.2.1 w m) u::(Wj y z q.1).2)<|Xo q.2.2.2.1 v vs
def jY(y z:Ck)(q:Qc):Á Ck:=(Wj y z q.1).1++(Wj y z q.1).2
def kZ(a:Ei)(b:Bc)(d:Í)(lc:PySem.Str->Ã V)(l1 l2:Á Ck):CS:=[(.o<|lc "tasking",.o<|À<|AH a.F),(.b<|Ê<|d<=a.d.now,.b Å),(.o<|lc "tasking",.o<|À<|AH a.F),(.b<|Ê<|a.bd.mZ.length<G_,.b Å)]++l1.map (iy b)++(.b<|!(ñ b.num).eqv (.int b.num),.b Æ)::l2.map (iy b)
section
variable{a:Ei}{S:Ë}{ord:Ë}{d:Í}{m:Í}
theorem U7(l1 l2:Á Ck)(hd:d<=a.d.now)(hl:a.bd.mZ.length<G_)(hr:∀y∈l1++l2,Jv y/\¬y.b.num=b.num)(len:(l1++l2).length<=2)(t:JX (a.i? ord k (AS<|l1++Ck.lq i b (À d) (À<|.call k w m) u::l2) o) S (Ck.lq i b (À d) (À<|.call k w m) u::(l1++l2)) lc s):∃tv,FT (Ai<|a.F.tk i) lc s (((a.i? ord k (AS<|l1++Ck.lq i b (À d) (À<|.call k w m) u::l2) o).h? tv s.nx k (Ck.lq i b (À d) (À<|.call k w m) u)<|l1++l2).cells S<|Ck.mP (Ck.lq i b (À d) (À<|.call k w m) u) s.nx::(l1++l2)):=by
 obtain⟨y,z,j,hj,⟨i2,b2,d2,c2,u2,rfl⟩,⟨i3,b3,d3,c3,u3,rfl⟩,rfl,rfl⟩:=Zl (Q:=Jv) (Ck.lq i b (À d) (À<|.call k w m) u) ⟨i,b,_,_,u,Ä⟩ l1 l2 (λy h=>(hr y h).1) len;obtain⟨bo,v,vs,rfl⟩:=O7 o;have g1:=ZI (b:=b) λy h=>(hr y<|æ _ h).2;have g2:=ZI (b:=b) λy h=>(hr y<|Ö _ h).2;have ht:lc "tasking"=À (AH a.F):=by have:=t.t;cases k<;>exact this
 have g:AL (kZ a b d lc (Wj (Ck.lq i2 b2 d2 c2 u2) (Ck.lq i3 b3 d3 c3 u3) j).1 (Wj (Ck.lq i2 b2 d2 c2 u2) (Ck.lq i3 b3 d3 c3 u3) j).2):=((AL.cons (Â X.o ht)<|.cons (AU hd)<|.cons (Â X.o ht)<|.cons (AU hl) .nil).S! g1).S!<|.cons (Ug b.num) g2;exact⟨j9 a S,X3 (eB hj k (S,bo,ord)) (fc a i b d w m u (Ck.lq i2 b2 d2 c2 u2) (Ck.lq i3 b3 d3 c3 u3) v vs) (λq=>q.2.2.1) (λq=>Ck.lq i b (À d) (À<|.call q.2.1 w m) u::jY (Ck.lq i2 b2 d2 c2 u2) (Ck.lq i3 b3 d3 c3 u3) q) lc (Ai<|a.F.tk i) hQ (λq=>9*(Xa q.1).length+19) rQ (λq=>kZ a b d lc (Wj (Ck.lq i2 b2 d2 c2 u2) (Ck.lq i3 b3 d3 c3 u3) q.1).1 (Wj (Ck.lq i2 b2 d2 c2 u2) (Ck.lq i3 b3 d3 c3 u3) q.1).2) (λq=>((fc a i b d w m u (Ck.lq i2 b2 d2 c2 u2) (Ck.lq i3 b3 d3 c3 u3) v vs q).h? (j9 a q.2.2.1) s.nx q.2.1 (Ck.lq i b (À d) (À<|.call q.2.1 w m) u)<|jY (Ck.lq i2 b2 d2 c2 u2) (Ck.lq i3 b3 d3 c3 u3) q).cells q.2.2.1<|Ck.mP (Ck.lq i b (À d) (À<|.call q.2.1 w m) u) s.nx::jY (Ck.lq i2 b2 d2 c2 u2) (Ck.lq i3 b3 d3 c3 u3) q) t g ⋯⟩
end
def JE(F:Fx)(J:Jk)(M:AQ)(tail:Á AC)(q:Á I3):Ei:=⟨F,J.bd,BK J M,J.sb,Af F M.lu ((GN q).map<|J.ck M)<|EJ F M.lu J.bd++tail⟩
section
variable{n:Ç}{d:Í}
theorem IH(nd:q.Nodup)(ht:lc "tasking"=À (AH F))(h:Hs (O_ F J M tail) s)(hl:s.A!=lc):JX (JE F J M tail q) M.lu (q.map<|J.ck M) lc s:=by exact⟨h.perm<|DM<|Cu nd,hl,ht⟩
theorem Fc{a':Ei}{f:I3->Bc}{l':Á Ck}(nd:q.Nodup)(hS:M'.lu=M.lu)(same:∀j,j∉q->f j=J.b j/\M'.cl j=M.cl j)(hF:a'.F=F)(ht:a'.tail=(JE F J M tail q).tail)(mu:a'.bd.H_=J.bd.H_)(hk:q.map (Jk.ck ⟨f,a'.bd,a'.sb⟩ M')=l')(hd:BK ⟨f,a'.bd,a'.sb⟩ M'=a'.d)(nu:Bg ⟨f,a'.bd,a'.sb⟩ n)(h:Hs (a'.cells M.lu l') s):BA F tail n M' s:=by refine BA.mv (J:=J) (M:=M) (J':=⟨f,a'.bd,a'.sb⟩) (Cu nd) hS same mu nu ?_;unfold Ei.cells at h;rw[hF,ht,<-hk,<-hd]at h;unfold DF DE;exact AA hS h
end
def WQ(M:AQ):Prop:=∀i d,(M.cl i).st=.D_ d->S' (λk w m=>(M.cl i).cur=À (.call k w m)) λk w m=>i∈M.q k
section
variable{n:Ç}{M M':AQ}{d:Í}{m:Í}
def Fk(F:Fx)(tail:Á AC)(n:Ç)(M':AQ)(v:V)(s:S):Prop:=D4 (λs'=>(Cy 92 3 v).run TT.A_ (AK TT 16) s=.ok .none s') (λs'=>BA F tail n M' s') λs'=>s'.A! "tasking"=À (AH F)
theorem Gm(h:lc "tasking"=À (AH F)):AD lc "task" v "tasking"=À (AH F):=by unfold AD;exact AA (Ì<|by decide) h
theorem QQ(h:∀d,(M.cl i).st.wk=À d->¬d<=M.now):M.mL i=M:=by unfold AQ.mL;generalize e:(M.cl i).st=zc;induction zc with
 |mF d=>exact Ì<|h d<|by exact AA e Ä|D_ d=>
  rcases d with _|d;.rfl
  .generalize hc:(M.cl i).cur=zc;rcases zc with _|r;.rfl
   .induction r with|rest x=>rfl|call k w m=>exact Ì<|h _<|by exact AA e Ä
 |_=>rfl
theorem BA.qx{n':Ç}(r:BA F tail n M s)(h:n<=n'):BA F tail n' M s:=by obtain⟨J,a,b,c,d,e,f⟩:=r.ex;exact⟨J,a,b,c,d,Ñ e h,Ñ f h⟩
theorem ST(r:BA F tail n M s)(ht:s.A! "tasking"=À (AH F))(h:∀d,(M.cl i).st.wk=À d->¬d<=M.now):Fk F tail (n+1) (M.mL i) (Ai<|F.tk i) s:=by refine AA (QQ h)<|AG λZ zk=>?_;obtain⟨J,g,nu⟩:=r.open;obtain⟨s',e,g',l'⟩:=SZ h (IH (q:=[i]) (by simp) ht g Ä);exact zk<|⟨s',e,(Fc (J:=J) (f:=J.b) (a':=JE F J M tail [i]) (by simp) Ä (λZ Z=>⟨Ä,Ä⟩) Ä Ä Ä Ä Ä nu g').qx<|Ģ _,by exact AA l'<|Gm ht⟩
theorem SR(r:BA F tail n M s)(ht:s.A! "tasking"=À (AH F))(hs:(M.cl i).st=.mF d)(hd:d<=M.now):Fk F tail (n+1) (M.mL i) (Ai<|F.tk i) s:=by
 x_go;obtain⟨J,g,nu⟩:=r.open;have t:=IH (q:=[i]) (by simp) ht g Ä;refine zk ?_;have ec:AM (M.cl i)=Dg (.mF d) (AM<|M.cl i):=by unfold AM;refine AA hs ?_;rfl
 have ek:[i].map (J.ck M)=[⟨i,J.b i,Dg (.mF d)<|AM<|M.cl i⟩]:=Â (λc=>[Ck.mk i (J.b i) c]) ec;replace t:=ek▸t;x_go;obtain⟨s',e,g',l'⟩:=Rh hd t;refine zk ?_;have em:M.mL i=M.mK i .mO:=by unfold AQ.mL;exact AA hs<|Î hd
 refine AA em ?_;refine⟨s',e,(Fc (J:=J) (M:=M) (M':=M.mK i .mO) (f:=Hu J.b i _) (a':=JE F J M tail [i]) (by simp) Ä (λj hj=>have ne:¬j=i:=λe=>hj<|AA e<|.head _;⟨CE ne,AT ne⟩) Ä Ä Ä (WF ?_) ((B6 (J:=J)<|Db<|by rfl).trans Ä) (by exact Cz nu Ä (Ā _) nu.H? Ä Ä) g').qx<|Ģ _,by exact AA l'<|Gm ht⟩;exact Â AM AJ
theorem RZ(h:i∈l)(nd:l.Nodup):H5 (λl1 l2=>l=l1++i::l2) (λl1 l2=>Aj i l=l1++l2) λl1 l2=>(i::(l1++l2)).Nodup:=by obtain⟨l1,l2,rfl⟩:=Á.append_of_mem h;have p:(l1++i::l2).Perm (i::(l1++l2)):=ŕ;have w3:=p.nodup_iff.mp nd;refine⟨l1,l2,Ä,?_,w3⟩;unfold Aj;have nm:=(Hx w3).1;have f:∀l:Á I3,i∉l->(l.filter λj=>¬j=i)=l:=λl hl=>Á.filter_eq_self.mpr λj hj=>Ü λe=>hl<|AP e hj;refine AA (Μ ..) ?_;rw[Ĉ<|by simp];refine AA (f l1 λh=>nm<|æ _ h) ?_;rw[f l2 λh=>nm<|Ö _ h]
theorem SS(Q:QW M)(hn:n<G_)(r:BA F tail n M s)(ht:s.A! "tasking"=À (AH F))(hs:(M.cl i).st=.D_ (À d))(hc:(M.cl i).cur=À (.call k w m))(hq:i∈M.q k)(hd:d<=M.now):Fk F tail (n+1) (M.mL i) (Ai<|F.tk i) s:=by
 x_go;obtain⟨J,g,nu⟩:=r.open;obtain⟨l1,l2,eq,ew,nd⟩:=RZ hq<|Q.nd k;have t:=IH (q:=i::(l1++l2)) nd ht g Ä;have ek:J.ck M i=Ck.lq i (J.b i) (À d) (À<|.call k w m) ⟨(M.cl i).B?.map Ah.v,(M.cl i).lr.map Bf.v,È,(M.cl i).E_,(M.cl i).ly⟩:=(Nc hs).trans<|by exact AA hc Ä
 have er:AS (l1.map (J.ck M)++J.ck M i::l2.map (J.ck M))=(M.q k).map J.call:=by exact AA eq<|AP (E5 ..)<|AA (Ø ..) Ä
 refine zk ?_;generalize eo:(match k with|.B_=>(M.q .take).map J.call|.take=>(M.q .B_).map J.call)=o;have ea:JE F J M tail (i::(l1++l2))=(JE F J M tail<|i::(l1++l2)).i? J.bd.ord k (AS<|l1.map (J.ck M)++J.ck M i::l2.map (J.ck M)) o:=by
  refine AA er<|AP eo ?_;have e2:(λk=>(M.q k).map J.call)=q2 ((M.q .B_).map J.call) ((M.q .take).map J.call):=ø λk=>by induction k<;>rfl
  unfold JE Ei.i? Ei.at BK;induction k<;>(dsimp only;exact AA e2 Ä)
 have zF:(i::(l1++l2)).map (J.ck M)=J.ck M i::(l1.map (J.ck M)++l2.map (J.ck M)):=by exact AA ģ<|AA Ø Ä
 rw[zF]at t;have t2:JX ((JE F J M tail<|i::(l1++l2)).i? J.bd.ord k (AS<|l1.map (J.ck M)++J.ck M i::l2.map (J.ck M)) o) M.lu (J.ck M i::(l1.map (J.ck M)++l2.map (J.ck M))) s.A! s:=AP ea t;have hr:∀y∈l1.map (J.ck M)++l2.map (J.ck M),Jv y/\¬y.b.num=(J.b i).num:=λy hy=>by rw[<-Ø]at hy;x_go;obtain⟨j,hj,rfl⟩:=MD hy;refine zk<|⟨eh Q (k:=k) ?_,nu.ne j i λz=>(Hx nd).1<|AP z hj⟩;exact AA eq<|Á.perm_middle.mem_iff.mpr<|.tail _ hj
 rw[ek]at t2;x_go;obtain⟨tv,s',e,g',l'⟩:=U7 (a:=JE F J M tail<|i::(l1++l2)) (l1.map<|J.ck M) (l2.map<|J.ck M) hd (Ò nu.mZ hn) hr (by exact AP Ø<|AA (Ð ..)<|Œ<|Xv nd) t2;rw[<-ek,<-ea]at g';refine zk ?_;have em:M.mL i=M.mP k i:=by unfold AQ.mL;exact AA hs<|AA hc<|Î hd
 refine AA em ⟨s',e,Fc (J:=J) (M:=M) (M':=M.mP k i) (f:=Hu J.b i ((J.ck M i).mP s.nx).b) (a':=(JE F J M tail<|i::(l1++l2)).h? tv s.nx k (J.ck M i)<|l1.map (J.ck M)++l2.map (J.ck M)) nd Ä (λj hj=>have ne:¬j=i:=λe=>hj<|AP e<|.head _;⟨CE ne,AT ne⟩) Ä Ä Ä ?_ ?_ ⟨?_,?_,nu.H?,?_,ő nu.H_⟩ g',by exact AA l'<|Gm ht⟩
 .refine AA ģ<|AP Ø<|congr (Â ν ?_)<|Ė λj hj=>?_;.exact (Â (λc=>Ck.mk i (Hu J.b i ((J.ck M i).mP s.nx).b i) c)<|Â AM AJ).trans<|Â (λb=>Ck.mk i b _) Bh
  .have z:¬j=i:=λe=>(Hx nd).1<|AP e hj;exact(Â (λc=>Ck.mk j (Hu J.b i ((J.ck M i).mP s.nx).b j) c)<|Â AM<|AT z).trans<|Â (λb=>Ck.mk j b _)<|CE z
 .refine (B6 (J:=J)<|Db<|by rfl).trans ?_;have:(λk'=>(Df M.q k (Aj i<|M.q k) k').map J.call)=Ht (λk'=>(M.q k').map J.call) k (AS<|l1.map (J.ck M)++l2.map (J.ck M)):=ø λk'=>by
   unfold Df Ht;by_cases c:k'=k;.exact AA (Î c)<|AA (Î c)<|AA ew<|AP Ø<|AA (E5 ..) Ä
   .exact AA (Ì c)<|AA (Ì c) Ä
  show(⟨_,_,λk'=>(Df M.q k (Aj i<|M.q k) k').map J.call,_,_,_,_,_,_,_⟩:Dr)=_;exact AA this Ä
 .exact (Cz (b':=((J.ck M i).mP s.nx).b) (W_:=J.bd) nu Ä (Ā _) nu.H? Ä Ä).ne
 .exact (Cz (b':=((J.ck M i).mP s.nx).b) (W_:=J.bd) nu Ä (Ā _) nu.H? Ä Ä).le
 .show (J.bd.mZ++[tv]).length<=n+1;exact AA Õ<|ú nu.mZ
end
def Hr{α:Type}(x y:AN α):Prop:=x=.C_\/y=x
theorem Hr.bind{α β:Type}{x y:AN α}{f g:α->S->AN β}(h:Hr x y)(k:∀v s,Hr (f v s)<|g v s):Hr (x.bind f) (y.bind g):=by
 rcases h with rfl|rfl;.exact .inl Ä
 .induction y with|ok v s=>exact k v s|exc e s=>exact .inr Ä|C_=>exact .inl Ä
theorem SK{i:GP}{s:S}{x y:AN V}{f g:V->S->AN V}(h:Hr x y)(k:∀v s,Hr (f v s)<|g v s):Hr (C9 (i.J? s x) f) (C9 (i.J? s y) g):=by
 rcases h with rfl|rfl;.exact .inl<|by induction i<;>rfl
 .rcases i.J? s y with _|p;.exact .inl Ä
  .exact k p.1 p.2
theorem XG(h:∀t as s,Hr (C t as s)<|C' t as s)(p:Pr):∀s:S,Hr (p.run G C s) (p.run G C' s):=by induction p with|ret _=>exact λZ=>.inr Ä|exc _=>exact λZ=>.inr Ä|C_=>exact λZ=>.inr Ä|prim _ _ k ih=>exact λZ=>Hr.bind (.inr Ä) ih|ask b k ih=>exact ih b|call t as k ih=>exact λs=>Hr.bind (h t as s) ih|oX i p k ip ih=>exact λs=>SK (ip _) ih
theorem YZ(h:Hr x y):Hr (EK l x) (EK l y):=by
 rcases h with rfl|rfl;.exact .inl Ä
 .exact .inr Ä
theorem Gd(h:∀t as s,Hr (C t as s)<|C' t as s){cells:Á<|Ï×Ad}:Hr (C7 G C f cells as s) (C7 G C' f cells as s):=by
 unfold C7;rcases Ar f as with _|b;.exact .inl Ä
 .exact YZ<|XG h _ _
theorem Hr.on{α:Type}{o:Ã α}{f g:α->AN V}(h:∀x,Hr (f x)<|g x):Hr (As o f) (As o g):=by
 rcases o with _|x;.exact .inl Ä
 .exact h x
theorem Yj{T:Eu}(n:Ç):∀(t:Ny) (as:Á V) (s:S),Hr (AK T n t as s) (AK T (n+1) t as s):=by induction n with|zero=>exact λZ Z Z=>.inl Ä|succ n ih=>intro t as s;induction t with|fn x=>exact Hr.on (o:=T.fn x) λZ=>Gd ih|cls x=>exact Hr.on (o:=T.ml x "__init__") λZ=>Hr.bind (.inr Ä) λo s=>Hr.bind (Gd ih) λZ Z=>.inr Ä|ml c m=>exact Hr.on (o:=T.ml c m) λZ=>Gd ih|mo a=>refine Hr.on (o:=s.h a) λc=>?_;induction c with
   |mo ps b sc cl=>
    show Hr (if Gh ps b sc then _ else _)<|if Gh ps b sc then _ else _;rcases Gh ps b sc with _|_;.exact .inl Ä
    .exact Gd ih|_=>exact .inl Ä
theorem L5{T:Eu}{n:Ç}(h:AK T n t as s=o)(hb:o≠.C_):AK T (n+1) t as s=o:=by
 rcases Yj (T:=T) n t as s with e|e;.exact â (h.symm.trans e) hb
 .exact e.trans h
theorem D8{i a b c:Ç}(e:((BS i).body.take c).drop a=((BS i).body.take b).drop a++((BS i).body.take c).drop b)(h1:(BP i a b).run G C s=.ok .none s1):(BP i a c).run G C s=(BP i b c).run G C s1:=by unfold BP at h1⊢;refine AA e ?_;refine(CR _ _ _).trans ?_;exact Â (AN.bind · _) h1
theorem Lm{T:Eu}{n:Ç}{x:Ï}{i:Ç}(hx:T.fn x=À (BS i))(ha:Ar (BS i) as=À ((BS i).params.zip as))(hc:Ot i=Å)(h:(BP i 0 (BS i).body.length).run T.A_ (AK T n) {s with A!:=At i as}=o):AK T (n+1) (.fn x) as s=EK s.A! o:=by refine AA (Pl hx ha hc ..) ?_;unfold BP at h;rw[μ,Á.drop_zero]at h;exact Â (EK s.A!) h
theorem dP{α:Type}{a:α}{l:Á α}(h:a∈l):∃t,l.Perm (a::t):=by obtain⟨l1,l2,e⟩:=Á.append_of_mem h;exact⟨l1++l2,AA e ŕ⟩
def To(F:Fx)(bd:Bd):AC:=(.inst "Tasking" F.tg,Zh F bd)
def HD(F:Fx)(S:Ë):AC:=(.list F.mV,.list<|BN F S)
section
variable{n:Ç}
theorem eC(h:x∈DF F J M++(DE F J M++(EJ F M.lu J.bd++tail))):x∈O_ F J M tail:=Ö _<|Ö _<|Ö _ h
theorem Zg:To F J.bd∈O_ F J M tail:=eC<|.head _
theorem HC:HD F M.lu∈O_ F J M tail:=eC<|Ö _<|Ö _<|.tail _<|.head _
theorem dO:∃t,(O_ F J M tail).Perm (To F J.bd::HD F M.lu::t):=by
 obtain⟨t,p⟩:=dP (Zg (F:=F) (J:=J) (M:=M) (tail:=tail));have m:HD F M.lu∈t:=by
  rcases Bt (p.mem_iff.mp (HC (F:=F) (J:=J) (M:=M) (tail:=tail)))with e|e;.have:=Â (λx:AC=>x.1) e;cases this
  .exact e
 obtain⟨t2,p2⟩:=dP m;exact⟨t2,p.trans<|p2.cons _⟩
theorem Ia(r:BA F tail n M s):BH (.ref<|.list F.mV) s=À (BN F M.lu):=by x_go;obtain⟨J,h,_⟩:=r.open;have:=(h.at_ _ HC).1;refine zk ?_;show(match s.h (.list F.mV)with|À (.list l)=>À l|À (.dict l)=>_|_=>È)=_;exact AA (show s.h (.list F.mV)=À (.list<|BN F M.lu)from this) Ä
theorem Sf(r:BA F tail n M s)(ht:s.A! "tasking"=À (AH F)):Aa ((Do 92 3).run TT.A_ (AK TT 16) s) (.ok<|.D! [.ref<|.list F.mV,.D!<|BN F M.lu]) (BA F tail n M) s.A!:=by x_go;obtain⟨J,h,nu⟩:=r.open;obtain⟨t,p⟩:=dO (F:=F) (J:=J) (M:=M) (tail:=tail);obtain⟨s',e,h',l'⟩:=Od (S:=M.lu) (h.perm p) ht;exact zk<|⟨s',e,.V_ nu<|h'.perm p.symm,l'⟩
theorem Ll{n:Ç}{body:V->Pr}{all:Á V}(e1:(D1 body H! all all).run TT.A_ (AK TT n) s1=.ok .none s2)(l1:BF H! s1=[])(k1:s1.lk=[])(k2:s2.lk=[]):(NP body<|.D! [H!,.D! all]).run TT.A_ (AK TT n) s1=.ok .none s2:=by
 show C9 ((GP.N? H!).J? s1<|(D1 body H! all all).run TT.A_ (AK TT n)<|(GP.N? H!).M! s1) _=_;have e:(GP.N? H!).M! s1=s1:=by show({s1 with lk:=BF H! s1++s1.lk}:S)=s1;exact AA l1 Ä
 refine AA e<|AA e1 ?_;show AN.ok V.none ({s2 with lk:=s1.lk}:S)=_;exact AA k1<|AP k2 Ä
theorem UJ(r:BA F tail n M s):s.lk=[]:=by obtain⟨_,h,_,_,_,_,_⟩:=r.ex;exact h.lk
theorem UI(r:BA F tail n M s):BF (.ref<|.list F.mV) s=[]:=by obtain⟨J,h,_⟩:=r.open;have:=(h.at_ _ HC).1;show(match s.h (.list F.mV)with|À (.dict _)=>[Ad.list F.mV]|_=>[])=_;exact AA (show s.h (.list F.mV)=À (.list<|BN F M.lu)from this) Ä
end
def AQ.to(M:AQ)(x:Í):AQ:={M with now:=if M.now<x then x else M.now}
def AQ.mn(M:AQ):AQ:=((M.mL 0).mL 1).mL 2
def AQ.mj(M:AQ):Ã Í:=aO (M.cl 0).st.wk (M.cl 1).st.wk (M.cl 2).st.wk
section
variable{n:Ç}{M M':AQ}{d:Í}{m:Í}
theorem Km(W:WQ M):(M.mL i=M/\∀d,(M.cl i).st.wk=À d->¬d<=M.now)\/(D4 (λd=>(M.cl i).st=.mF d) (λd=>d<=M.now) λd=>M.mL i=M.mK i .mO)\/cS (λd k w m=>(M.cl i).st=.D_ (À d)) (λd k w m=>(M.cl i).cur=À (.call k w m)) (λd k w m=>i∈M.q k) (λd k w m=>d<=M.now) λd k w m=>M.mL i=M.mP k i:=by
 by_cases h:∀d,(M.cl i).st.wk=À d->¬d<=M.now;.exact .inl ⟨QQ h,h⟩
 .x_go;obtain⟨d,h⟩:=Classical.not_forall.mp h;have hw:(M.cl i).st.wk=À d:=ě λc=>h λe=>(c e).elim;have hd:d<=M.now:=ě λc=>h λZ=>c;refine zk ?_;cases e:(M.cl i).st with|mF x=>rw[e]at hw;obtain⟨⟩:=hw;exact .inr<|.inl ⟨d,Ä,hd,by unfold AQ.mL;exact AA e<|Î hd⟩|D_ x=>replace hw:=e▸hw;obtain⟨⟩:=hw;x_go;obtain⟨k,w,m,hc,hq⟩:=W i _ e;exact zk<|.inr<|.inr ⟨d,k,w,m,Ä,hc,hq,hd,by unfold AQ.mL;exact AA e<|AA hc<|Î hd⟩|_=>rw[e]at hw;exact nomatch hw
theorem JF(Q:QW M)(W:WQ M)(hn:n<G_)(r:BA F tail n M s)(ht:s.A! "tasking"=À (AH F)):Fk F tail (n+1) (M.mL i) (Ai<|F.tk i) s:=by
 x_go;rcases Km (i:=i) W with⟨_,h⟩|⟨d,hs,hd,_⟩|⟨d,k,w,m,hs,hc,hq,hd,_⟩;.exact zk<|ST r ht h
 .exact zk<|SR r ht hs hd
 .exact zk<|SS Q hn r ht hs hc hq hd
theorem Hi:j∈Aj i q↔j∈q/\¬j=i:=by unfold Aj;rw[Á.mem_filter];exact and_congr_right λZ=>π
theorem QW.out(Q:QW M)(h:∀d,¬(M.cl i).st=.D_ d)(k:Kd):i∉M.q k:=λhi=>by obtain⟨d,_,_,e,_⟩:=Q.at_ k i hi;exact h d e
theorem Gg(Q:QW M)(W:WQ M)(h:∀d,¬(M.cl i).st=.D_ d)(hs:∀d,¬c.st=.D_ d):QW {M with cl:=Ab M.cl i c}/\WQ {M with cl:=Ab M.cl i c}:=⟨⟨Q.nd,λk j hj=>by show S' (λd w m=>(Ab M.cl i c j).st=_) λd w m=>(Ab M.cl i c j).cur=_;exact AA (AT λe:j=i=>Q.out h k<|by exact AP e hj)<|Q.at_ k j hj⟩,λj d hj=>by
  have hj:(Ab M.cl i c j).st=.D_ d:=hj;show S' (λk w m=>(Ab M.cl i c j).cur=_) λk w m=>_;by_cases e:j=i;.subst e;rw[AJ]at hj;exact(hs d hj).elim
  .rw[AT e]at hj⊢;exact W j d hj⟩
theorem HN(Q:QW M)(W:WQ M)(hc:(M.cl i).cur=À (.call k w m))(hs:∀d,¬c.st=.D_ d):QW {M with cl:=Ab M.cl i c,q:=Df M.q k<|Aj i<|M.q k}/\WQ {M with cl:=Ab M.cl i c,q:=Df M.q k<|Aj i<|M.q k}:=by
 have other:∀k' j,j∈Df M.q k (Aj i<|M.q k) k'->¬j=i/\j∈M.q k':=λk' j hj=>by
  unfold Df at hj;by_cases c:k'=k;.rw[Î c]at hj;subst c;exact(Hi.mp hj).symm
  .replace hj:=Ì c▸hj;refine⟨λe=>c ?_,hj⟩;obtain⟨_,_,_,_,e2⟩:=Q.at_ k' j hj;rw[e,hc]at e2;cases e2;rfl
 refine⟨⟨λk'=>?_,λk' j hj=>?_⟩,λj d hj=>?_⟩
 .show (Df M.q k (Aj i<|M.q k) k').Nodup;unfold Df;by_cases c:k'=k;.exact AA (Î c)<|(Q.nd k).sublist Á.filter_sublist
  .exact AA (Ì c)<|Q.nd k'
 .obtain ⟨a,b⟩:=other k' j hj;show S' (λd w m=>(Ab M.cl i c j).st=_) λd w m=>(Ab M.cl i c j).cur=_;exact AT a▸Q.at_ k' j b
 .have hj:(Ab M.cl i c j).st=.D_ d:=hj;have e:¬j=i:=λe=>by subst e;replace hj:=AJ▸hj;exact hs d hj
  show S' (λk' w m=>(Ab M.cl i c j).cur=_) λk' w m=>_;rw[AT e]at hj⊢;obtain⟨k',w',m',a,b⟩:=W j d hj;refine⟨k',w',m',a,?_⟩;show j∈Df M.q k (Aj i<|M.q k) k';unfold Df;by_cases c:k'=k;.exact AA (Î c)<|Hi.mpr ⟨AP c b,e⟩
  .exact AA (Ì c)<|b
theorem Gx(Q:QW M)(W:WQ M):QW (M.mL i)/\WQ (M.mL i):=by
 rcases Km (i:=i) W with⟨e,_⟩|⟨d,hs,hd,e⟩|⟨d,k,w,m,hs,hc,hq,hd,e⟩<;>rw[e];.exact ⟨Q,W⟩
 .exact Gg Q W (λZ h=>by rw[hs]at h;cases h) λZ h=>by cases h
 .exact HN Q W hc λZ h=>by cases h
theorem Hl:(M.mL i).lu=M.lu:=Eg (P:=λ(M':AQ) (_:Η)=>M'.lu=M.lu) (a':=()) (r':=()) (l':=λZ=>()) Ä (λZ Z Z=>Ä) λZ Z Z Z Z Z Z=>Ä
theorem T0(hS:M.lu=Å)(r:BA F tail n M s)(ht:s.A! "tasking"=À (AH F)):Fk F tail n M (Ai F.nM) s:=by x_go;obtain⟨J,g,nu⟩:=r.open;have t:=IH (q:=[]) .nil ht g Ä;rw[hS]at t;obtain⟨s',e,g',l'⟩:=T3 t;exact zk<|⟨s',e,Fc (J:=J) (M:=M) (M':=M) (q:=[]) (f:=J.b) (a':=JE F J M tail []) .nil Ä (λZ Z=>⟨Ä,Ä⟩) Ä Ä Ä Ä Ä nu<|by exact AA hS g',by exact AA l'<|Gm ht⟩
theorem Qj{all l:Á V}(hS:M'.lu=M.lu)(ha:all=BN F M.lu)(r:BA F tail n M s)(t:Fk F tail (n+1) M' v s)(k:∀s1,BA F tail (n+1) M' s1->s1.A! "tasking"=À (AH F)->A7 ((D1 (Cy 92 3) (.ref<|.list F.mV) all l).run TT.A_ (AK TT 16) s1) (.ok .none) P):A7 ((D1 (Cy 92 3) (.ref<|.list F.mV) all<|v::l).run TT.A_ (AK TT 16) s) (.ok .none) P:=by x_go;obtain⟨s1,e1,r1,t1⟩:=t;obtain⟨s2,e2,p⟩:=k s1 r1 t1;exact zk<|⟨s2,(DP (ha▸Ia r) e1).trans e2,p⟩
theorem V2(Q:QW M)(W:WQ M)(hn:n+3<G_)(r:BA F tail n M s)(ht:s.A! "tasking"=À (AH F)):A7 ((BP 92 3 4).run TT.A_ (AK TT 16) s) (.ok .none) (BA F tail (n+4) M.mn):=by
 x_go;obtain⟨s0,e0,r0,l0⟩:=Sf r ht;have yF:s0.A! "tasking"=À (AH F):=AA l0 ht;have N?:A7 ((D1 (Cy 92 3) (.ref<|.list F.mV) (BN F M.lu)<|BN F M.lu).run TT.A_ (AK TT 16) s0) (.ok .none) (BA F tail (n+4) M.mn):=by
  x_go;obtain⟨Q1,W1⟩:=Gx (i:=0) Q W;obtain⟨Q2,W2⟩:=Gx (i:=1) Q1 W1;have S1:(M.mL 0).lu=M.lu:=Hl;have S2:((M.mL 0).mL 1).lu=M.lu:=Hl.trans S1;have S3:M.mn.lu=M.lu:=Hl.trans S2;refine zk<|Qj S1 Ä r0 (JF Q W (by lia) r0 yF) λs1 r1 t1=>?_;refine Qj Hl (by exact AA S1 Ä) r1 (JF Q1 W1 (by lia) r1 t1) λs2 r2 t2=>?_;refine Qj Hl (by exact AA S2 Ä) r2 (JF Q2 W2 (by lia) r2 t2) λs3 r3 t3=>?_;generalize hS:M.lu=zc;rcases zc with _|_;.exact ⟨s3,FK<|(Ia r3).trans<|by exact AP hS<|Â (λb=>À<|BN F b) S3,r3.qx<|Ģ _⟩
  .refine Qj (M:=M.mn) (M':=M.mn) Ä (by exact AA S3<|AA hS Ä) r3 ?_ λs4 r4 t4=>⟨s4,FK<|(Ia r4).trans<|by exact AP hS<|Â (λb=>À<|BN F b) S3,r4⟩;x_go;obtain⟨s4,e4,r4,t4⟩:=T0 (S3.trans hS) r3 t3;exact zk<|⟨s4,e4,r4.qx<|Ģ _,t4⟩
 obtain⟨s2,e2,r2⟩:=N?;refine zk<|⟨s2,?_,r2⟩;refine AA az<|AA (Pr.F_ ..)<|AA (Pr.F_ ..)<|AA (e0 ..) ?_;show AN.bind ((NP (Cy 92 3)<|.D! [.ref<|.list F.mV,.D!<|BN F M.lu]).run TT.A_ (AK TT 16) s0) _=_;refine AA (Ll e2 (UI r0) (UJ r0)<|UJ r2) ?_;rfl
end
section
variable{n:Ç}{x:Í}
theorem QI(e1:HI.run TT.A_ (AK TT 16) {s with A!:=At 92 [AH F]}=.ok .none s1)(e2:(BP 92 1 4).run TT.A_ (AK TT 16) s1=o):AK TT 17 (.fn "pass_time") [AH F] s=EK s.A! o:=Lm (i:=92) ⋯ ⋯ ⋯ ((D8 (b:=1) ⋯ e1).trans e2)
theorem UW(Q:QW M)(W:WQ M)(hn:n+3<G_)(ht:M.mj=À x)(r:BA F tail n M s):Aa (AK TT 17 (.fn "pass_time") [AH F] s) (.ok .none) (BA F tail (n+4) (M.to x).mn) s.A!:=by x_go;obtain⟨J,h,nu⟩:=r.open;obtain⟨s1,e1,h1,l1⟩:=Jz (a:=Bb F J M tail) (h.lz<|At 92 [AH F]) Ä;have l1:s1.A!=AD (At 92 [AH F]) "time" (Am M.mj):=l1;replace l1:=ht▸l1;obtain⟨s2,e2,h2,l2⟩:=Un (a:=Bb F J M tail) h1 l1;have r2:BA F tail n (M.to x) s2:=.V_ (J:=J) nu h2;obtain⟨s3,e3,r3⟩:=V2 (M:=M.to x) ⟨Q.nd,Q.at_⟩ W hn r2 (by exact AA l2 Ä);exact zk<|⟨_,QI e1 ((D8 (b:=3) ⋯ e2).trans e3),r3.lz _,Ä⟩
theorem Rz(nc:∀i,AV (M.cl i).st=Æ)(ht:M.mj=È)(h:Hs (O_ F J M tail) s):H5 (λs' la=>AK TT 17 (.fn "pass_time") [AH F] s=.exc (.ref<|.list la) s') (λs' la=>Hs ((.list la,.list<|Bp M)::O_ F J M tail) s') λs' la=>s'.A!=s.A!:=by x_go;obtain⟨s1,e1,h1,l1⟩:=Jz (a:=Bb F J M tail) (h.lz<|At 92 [AH F]) Ä;have l1:s1.A!=AD (At 92 [AH F]) "time" (Am M.mj):=l1;replace l1:=ht▸l1;obtain⟨s2,la,e2,h2,l2⟩:=V9 (a:=Bb F J M tail) (x:=AM<|M.cl 0) (y:=AM<|M.cl 1) (z:=AM<|M.cl 2) (t:=M.E?) (Yd (c:=AM<|M.cl 0)<|nc 0) (Yd (c:=AM<|M.cl 1)<|nc 1) (Yd (c:=AM<|M.cl 2)<|nc 2) kW h1 l1;refine zk<|⟨{s2 with A!:=s.A!},la,QI e1 (o:=.exc (.ref<|.list la) s2) ?_,h2.lz _,Ä⟩;show(BP 92 1 4).run _ _ _=_;unfold BP at e2⊢;have e:((BS 92).body.take 4).drop 1=((BS 92).body.take 3).drop 1++((BS 92).body.take 4).drop 3:=⋯;refine AA e ?_;refine(CR _ _ _).trans ?_;exact Â (AN.bind · _) e2
end
def Ua(F:Fx):Ï->Ã V:=At 96 [AH F]
def pk(a b:Ç):Pr:=(EU 39<|((Pu<|BZ 96 0).take b).drop a).p ⟨(BS 96).scope,[]⟩
def TJ(F:Fx):Ã Ç->Ï->Ã V|È=>Ua F|À ra=>AD (Ua F) "ready"<|.ref<|.list ra
def BU(F:Fx)(ra:Ç):Ï->Ã V:=AD (Ua F) "ready"<|.ref<|.list ra
def WM(i j k:Ç):Đ:=(Pu<|BZ i j).getD k<|.Pass ⟨0,0,0,0⟩
def X7:Pr:=((OE 38).t<|gw<|WM 96 0 1).p ⟨(BS 96).scope,[]⟩
def fE:Pr:=(EU 38<|Pu<|WM 96 0 1).p ⟨(BS 96).scope,[]⟩
def cnt(n:Ç)(x:Ï)(p:Pr)(lc:Ï->Ã V)(v:V)(tail:Á AC)(nx:Ç):Pr:=Bi (A9 n x p lc tail nx 0 []) v
section
variable{n:Ç}{x x2:Ï}
theorem aJ{R:V->Á AC->Prop}{w:V->Rv}{U!:V->Ï->Ã V}(h:Hs L1 s)(hl:s.A!=lc)(g:∀s,Hs L1 s->Hb (λv L2=>R v L2) λv L2=>AI n (.fn x) as s v L2)(k:∀(tail:Á AC) (nx:Ç),Fu (A9 n x p lc tail nx 0 []) È (Fy.res 0 [])=À ⟨as,tail,lc,Fu (A9 n x p lc tail nx 0 []) [] λz=>z.e.map (·.2)⟩)(k2:∀(v:V) (tail:Á AC) (nx:Ç) (mH:Á AC) (md:Ç),(BD n (cnt n x p lc v tail nx) lc mH md 0 []).res 0 []=À ⟨w v,mH,U! v,(BD n (cnt n x p lc v tail nx) lc mH md 0 []).T?⟩):Ku (λs' v L2=>p.run TT.A_ (AK TT n) s=(w v).out s') (λs' v L2=>R v L2) (λs' v L2=>Hs L2 s') λs' v L2=>s'.A!=U! v:=by x_go;obtain⟨s1,e1,h1,l1⟩:=A3 (T:=TT) Ä h hl .nil<|k L1 s.nx;obtain⟨v,L2,r,s2,e2,h2,l2⟩:=g s1 h1;obtain⟨s3,e3,h3,l3⟩:=AE h2 (l2.trans l1) .nil<|k2 v L1 s.nx L2 s2.nx;exact zk<|⟨s3,v,L2,e1.trans ((Â (AN.bind · _) e2).trans e3),r,h3,l3⟩
theorem i0{R:Á AC->Prop}(h:Hs L1 s)(hl:s.A!=lc)(g:∀s,Hs L1 s->AI n (.fn x) as s v L1)(g2:∀s,Hs L1 s->BM (λL3=>R L3) λL3=>AI n (.fn x2) zT s v2 L3)(k:∀(tail:Á AC) (nx:Ç),Fu (A9 n x p lc tail nx 0 []) È (Fy.res 0 [])=À ⟨as,tail,lc,Fu (A9 n x p lc tail nx 0 []) [] λz=>z.e.map (·.2)⟩)(k2:∀(tail:Á AC) (nx:Ç) (mH:Á AC) (md:Ç),Fu (A9 n x2 (cnt n x p lc v tail nx) lc mH md 0 []) È (Fy.res 0 [])=À ⟨zT,mH,lc,Fu (A9 n x2 (cnt n x p lc v tail nx) lc mH md 0 []) [] λz=>z.e.map (·.2)⟩)(k3:∀(tail:Á AC) (nx:Ç) (mH:Á AC) (md:Ç) (tail3:Á AC) (ri:Ç),(BD n (cnt n x2 (cnt n x p lc v tail nx) lc v2 mH md) lc tail3 ri 0 []).res 0 []=À ⟨w,tail3,U!,(BD n (cnt n x2 (cnt n x p lc v tail nx) lc v2 mH md) lc tail3 ri 0 []).T?⟩):We (λs' L3=>p.run TT.A_ (AK TT n) s=w.out s') (λs' L3=>R L3) (λs' L3=>Hs L3 s') λs' L3=>s'.A!=U!:=by x_go;obtain⟨s1,e1,h1,l1⟩:=A3 (T:=TT) Ä h hl .nil<|k L1 s.nx;obtain⟨s2,e2,h2,l2⟩:=g s1 h1;obtain⟨s3,e3,h3,l3⟩:=A3 (T:=TT) Ä h2 (l2.trans l1) .nil<|k2 L1 s.nx L1 s2.nx;obtain⟨L3,r,s4,e4,h4,l4⟩:=g2 s3 h3;obtain⟨s5,e5,h5,l5⟩:=AE h4 (l4.trans l3) .nil<|k3 L1 s.nx L1 s2.nx L3 s4.nx;exact zk<|⟨s5,L3,e1.trans ((Â (AN.bind · _) e2).trans (e3.trans ((Â (AN.bind · _) e4).trans e5))),r,h5,l5⟩
end
section
variable{ra:Ç}{o:Ã Ç}
theorem HH{a b c:Ç}(e:((Pu<|BZ 96 0).take c).drop a=((Pu<|BZ 96 0).take b).drop a++((Pu<|BZ 96 0).take c).drop b)(h1:(pk a b).run G C s=.ok .none s1):(pk a c).run G C s=(pk b c).run G C s1:=by unfold pk at h1⊢;refine AA e ?_;refine(CR _ _ _).trans ?_;exact Â (AN.bind · _) h1
theorem QG(h:Hs tail s):Aa ((Dk 96 0).run TT.A_ (AK TT 17) s) (.ok<|.bool Å) (Hs tail) s.A!:=Fg (n:=17) (p:=Dk 96 0) (v:=.ok<|.bool Å) h Ä λtail nx=>⋯
theorem HV(g:AI 16 t as s w L1):AI 17 t as s w L1:=by obtain⟨s',e,h,h2⟩:=g;exact⟨s',L5 e (by intro h;cases h),h,h2⟩
theorem Ru{R:V->Á AC->Prop}(h:Hs L1 s)(hl:s.A!=TJ F o)(g:∀s,Hs L1 s->Hb (λv L2=>R v L2) λv L2=>AI 17 (.fn "settle_tasks") [AH F] s v L2):Ku (λs' v L2=>(pk 0 1).run TT.A_ (AK TT 17) s=.ok .none s') (λs' v L2=>R v L2) (λs' v L2=>Hs L2 s') λs' v L2=>s'.A!=TJ F o:=by induction o<;>exact aJ (w:=λZ=>.ok .none) (U!:=λZ=>TJ F _) h hl g (λtail nx=>⋯) λv tail nx mH md=>⋯
theorem VW:pk 1 2=(Bu X7 fE CM).bind λf=>F8 f (.ret .none):=by unfold pk X7 fE;kernel_rfl
theorem UT{R:Á AC->Prop}(h:Hs L1 s)(hl:s.A!=TJ F o)(g1:∀s,Hs L1 s->AI 17 (.fn "end_late") [AH F] s (.bool Æ) L1)(g2:∀s,Hs L1 s->BM (λL3=>R L3) λL3=>AI 17 (.fn "serve_lost") [AH F] s (.bool Æ) L3):We (λs' L3=>(pk 1 2).run TT.A_ (AK TT 17) s=.ok .none s') (λs' L3=>R L3) (λs' L3=>Hs L3 s') λs' L3=>s'.A!=TJ F o:=by
 have key:We (λs' L3=>X7.run TT.A_ (AK TT 17) s=.ok (.bool Æ) s') (λs' L3=>R L3) (λs' L3=>Hs L3 s') λs' L3=>s'.A!=TJ F o:=by induction o<;>exact i0 (p:=X7) (w:=.ok<|.bool Æ) (U!:=TJ F _) h hl g1 g2 (λtail nx=>⋯) (λtail nx mH md=>⋯) λtail nx mH md tail3 ri=>⋯
 x_go;obtain⟨s5,L3,E,r,h5,l5⟩:=key;refine zk<|⟨s5,L3,?_,r,h5,l5⟩;exact AA VW<|AA (Pr.F_ ..)<|AA (show CM=CM-1+1 from by decide)<|AA (ER E ..) Ä
theorem US{R:V->Á AC->Prop}(h:Hs L1 s)(hl:s.A!=TJ F o)(g:∀s,Hs L1 s->Hb (λv L2=>R v L2) λv L2=>AI 17 (.fn "ready_tasks") [AH F] s v L2):Ku (λs' v L2=>(pk 2 3).run TT.A_ (AK TT 17) s=.ok .none s') (λs' v L2=>R v L2) (λs' v L2=>Hs L2 s') λs' v L2=>s'.A!=AD (TJ F o) "ready" v:=by induction o<;>exact aJ (w:=λZ=>.ok .none) (U!:=λv=>AD (TJ F _) "ready" v) h hl g (λtail nx=>⋯) λv tail nx mH md=>⋯
theorem XT{R:V->Á AC->Prop}(h:Hs L1 s)(hl:s.A!=BU F ra)(g:∀s,Hs L1 s->Hb (λv L2=>R v L2) λv L2=>AI 17 (.fn "pass_time") [AH F] s v L2):Ku (λs' v L2=>(pk 5 6).run TT.A_ (AK TT 17) s=.ok .none s') (λs' v L2=>R v L2) (λs' v L2=>Hs L2 s') λs' v L2=>s'.A!=BU F ra:=aJ (w:=λZ=>.ok .none) (U!:=λZ=>BU F ra) h hl g (λtail nx=>⋯) λv tail nx mH md=>⋯
end
section
variable{ra:Ç}
theorem XU(h:Hs ((.list ra,.list [])::tail) s)(hl:s.A!=BU F ra):Aa ((pk 3 4).run TT.A_ (AK TT 17) s) (.ok .none) (Hs<|(.list ra,.list [])::tail) (BU F ra):=AE (hs:=0) (m:=1) (r:=[0]) (cs:=[]) (v:=.ok .none) h hl .nil ⋯
theorem Rx{R:V->Á AC->Prop}(h:Hs ((.list ra,.list<|r::rs)::tail) s)(hl:s.A!=BU F ra)(g:∀s,Hs ((.list ra,.list<|r::rs)::tail) s->Hb (λv L2=>R v L2) λv L2=>AI 17 (.fn "choose_among") [AH F,.ref<|.list ra] s v L2):cT (λs' v L2=>(pk 3 4).run TT.A_ (AK TT 17) s=.ok (.D! [v]) s') (λs' v L2=>R v L2) λs' v L2=>Hs L2 s':=by have key:Fu (A9 17 "choose_among" (pk 3 4) (BU F ra) ((.list ra,.list<|r::rs)::tail) s.nx 0 []) È (Fy.res 1 [0])=À ⟨[AH F,.ref<|.list ra],(.list ra,.list<|r::rs)::tail,BU F ra,Fu (A9 17 "choose_among" (pk 3 4) (BU F ra) ((.list ra,.list<|r::rs)::tail) s.nx 0 []) [] λz=>z.e.map (·.2)⟩:=⋯;have sV:∀(v:V) (mH:Á AC) (md:Ç),(BD 17 (Bi (A9 17 "choose_among" (pk 3 4) (BU F ra) ((.list ra,.list<|r::rs)::tail) s.nx 0 []) v) (BU F ra) mH md 0 []).res 0 []=À ⟨.ok<|.D! [v],mH,BU F ra,(BD 17 (Bi (A9 17 "choose_among" (pk 3 4) (BU F ra) ((.list ra,.list<|r::rs)::tail) s.nx 0 []) v) (BU F ra) mH md 0 []).T?⟩:=λv mH md=>⋯;x_go;obtain⟨s1,e1,h1,l1⟩:=A3 (T:=TT) Ä h hl .nil key;obtain⟨v,L2,q,s2,e2,h2,l2⟩:=g s1 h1;obtain⟨s3,e3,h3,l3⟩:=AE h2 (l2.trans l1) .nil<|sV v L2 s2.nx;exact zk<|⟨s3,v,L2,e1.trans ((Â (AN.bind · _) e2).trans e3),q,h3⟩
def kF(F:Fx)(ra:Ç)(tail:Á AC)(nx:Ç)(v:V):Pr:=cnt 17 "waiting_tasks" (pk 4 5) (BU F ra) v tail nx
def fY:Á V->V|[]=>.D! [.none]|_=>.none
theorem XS(h:Hs L1 s)(hl:s.A!=BU F ra)(g:∀s,Hs L1 s->∃lw,AI 17 (.fn "waiting_tasks") [AH F] s (.ref<|.list lw)<|(.list lw,.list vs)::tail):Aa ((pk 4 5).run TT.A_ (AK TT 17) s) (.ok<|fY vs) (Hs tail) (BU F ra):=by
 have key:∀(tail:Á AC) (nx:Ç),Fu (A9 17 "waiting_tasks" (pk 4 5) (BU F ra) tail nx 0 []) È (Fy.res 0 [])=À ⟨[AH F],tail,BU F ra,Fu (A9 17 "waiting_tasks" (pk 4 5) (BU F ra) tail nx 0 []) [] λz=>z.e.map (·.2)⟩:=λtail nx=>⋯;have sV:∀(qG:Á AC) (vO lw:Ç) (mH:Á AC) (md:Ç),∃hs,(BD 17 (kF F ra qG vO<|.ref<|.list lw) (BU F ra) ((.list lw,.list vs)::mH) md hs []).res 2 []=À ⟨.ok<|fY vs,mH,BU F ra,(BD 17 (kF F ra qG vO<|.ref<|.list lw) (BU F ra) ((.list lw,.list vs)::mH) md hs []).T?⟩:=λqG vO lw mH md=>by
  rcases vs with _|⟨y,ys⟩;.exact ⟨128,⋯⟩
  .exact ⟨128,⋯⟩
 x_go;obtain⟨s1,e1,h1,l1⟩:=A3 (T:=TT) Ä h hl .nil<|key L1 s.nx;obtain⟨lw,s2,e2,h2,l2⟩:=g s1 h1;obtain⟨hs,k2⟩:=sV L1 s.nx lw tail s2.nx;obtain⟨s3,e3,h3,l3⟩:=AE h2 (l2.trans l1) .nil k2;exact zk<|⟨s3,e1.trans ((Â (AN.bind · _) e2).trans e3),h3,l3⟩
end
structure JV(M:AQ):Prop where
 a_:∀i j,AV (M.cl i).st=Å->¬j=i->AV (M.cl j).st=Æ
 ok:N6 M.ends
 mP:Po M.settle
section
variable{n:Ç}{M:AQ}{o:Ã Ç}{x:Í}
theorem QH{a b c:Ç}(e:((Pu<|BZ 96 0).take c).drop a=((Pu<|BZ 96 0).take b).drop a++((Pu<|BZ 96 0).take c).drop b)(h1:(pk a b).run G C s=.ok (.D! l) s1):(pk a c).run G C s=.ok (.D! l) s1:=by unfold pk at h1⊢;refine AA e ?_;refine(CR _ _ _).trans ?_;exact Â (AN.bind · _) h1
theorem QA:M.mv.cl=M.cl:=by unfold AQ.mv;cases M.lu&&M.mX&&Fw M.E?<;>rfl
theorem Bl(i:I3):AV (M.settle.cl i).st=Æ:=by unfold AQ.settle;exact AP QA.symm<|Qp _
theorem K8:AD (AD lc k v) k w=AD lc k w:=ø λj=>by unfold AD;split<;>rfl
theorem Ov(pre:JV M)(r:BA F tail n M s)(hl:s.A!=TJ F o):Ku (λs' ra J=>(pk 0 3).run TT.A_ (AK TT 17) s=.ok .none s') (λs' ra J=>Hs ((.list ra,.list<|CQ F M.settle)::O_ F J M.settle tail) s') (λs' ra J=>Bg J n) λs' ra J=>s'.A!=BU F ra:=by
 x_go;obtain⟨J0,h0,xn⟩:=r.open;obtain⟨s1,v1,L1,e1,⟨J1,rfl,tV⟩,h1,l1⟩:=Ru (R:=λv L=>BM (λJ=>L=O_ F J M.settle tail) λJ=>Bg J n) h0 hl λs h=>by x_go;obtain⟨s',e,r',l'⟩:=Oe pre.a_ pre.ok<|.V_ xn h;obtain⟨J1,h1,tV⟩:=r'.open;exact zk<|⟨_,_,⟨J1,Ä,tV⟩,HV ⟨s',e,h1,l'⟩⟩
 obtain⟨s2,L2,e2,⟨J2,rfl,rA⟩,h2,l2⟩:=UT (R:=λL=>BM (λJ=>L=O_ F J M.settle tail) λJ=>Bg J n) h1 l1 (λs h=>HV<|U6 pre.mP h) λs h=>by x_go;obtain⟨J2,g,rA⟩:=Uu h tV;exact zk<|⟨_,⟨J2,Ä,rA⟩,HV g⟩
 obtain⟨s3,v3,L3,e3,⟨ra,rfl,rfl⟩,h3,l3⟩:=US (R:=λv L=>BM (λra=>v=.ref (.list ra)) λra=>L=(.list ra,.list<|CQ F M.settle)::O_ F J2 M.settle tail) h2 l2 λs h=>⟨_,_,⟨_,Ä,Ä⟩,HV<|Rk h⟩;refine zk<|⟨s3,ra,J2,(HH (b:=1) ⋯ e1).trans ((HH (b:=2) ⋯ e2).trans e3),h3,rA,?_⟩;refine AA l3 ?_;induction o;.rfl
 .exact K8
inductive bg(F:Fx)(tail:Á AC)(n:Ç)(M:AQ)(s:S):Prop where|some (x:V) (s':S) (hx:x∈CQ F M) (e:(pk 0 6).run TT.A_ (AK TT 17) s=.ok (.D! [x]) s') (r:BA F tail (n+1) M s')|none (s':S) (h0:CQ F M=[]) (h1:Bp M=[]) (e:(pk 0 6).run TT.A_ (AK TT 17) s=.ok (.D! [.none]) s') (r:BA F tail n M s')|R! (s':S) (la:Ç) (J:Jk) (h0:CQ F M=[]) (h1:Bp M≠[]) (h2:M.mj=Ã.none) (e:(pk 0 6).run TT.A_ (AK TT 17) s=.exc (.ref<|.list la) s') (h:Hs ((.list la,.list<|Bp M)::O_ F J M tail) s') (nu:Bg J n)|W? (x:Í) (s':S) (ra:Ç) (h0:CQ F M=[]) (h1:Bp M≠[]) (h2:M.mj=Ã.some x) (e:(pk 0 6).run TT.A_ (AK TT 17) s=.ok .none s') (r:BA F tail (n+4) (M.to x).mn s') (l:s'.A!=BU F ra)
theorem Ig(w:Ha F)(hn:n+3<G_)(pre:JV M)(Q:QW M.settle)(W:WQ M.settle)(r:BA F tail n M s)(hl:s.A!=TJ F o):bg F tail n M.settle s:=by
 x_go;obtain⟨s1,ra,J,e1,h1,nu,l1⟩:=Ov pre r hl;generalize er:CQ F M.settle=zc at h1;rcases zc with _|⟨v,vs⟩
 .obtain ⟨s2,e2,h2,l2⟩:=XU h1 l1;have wI:Hs (O_ F J M.settle tail) s2:=⟨λp hp=>h2.at_ p<|.tail _ hp,(Hx h2.nd).2,h2.lk⟩;obtain⟨s3,e3,h3,l3⟩:=XS wI l2 λs h=>⟨_,HV<|MF Bl h⟩;have E3:(pk 0 6).run TT.A_ (AK TT 17) s=(pk 4 6).run TT.A_ (AK TT 17) s2:=(HH (b:=3) ⋯ e1).trans (HH (b:=4) ⋯ e2);generalize ew:Bp M.settle=zc at e3;rcases zc with _|⟨y,ys⟩;.exact zk<|.none s3 er ew (E3.trans (QH (b:=5) ⋯ e3))<|.V_ nu h3
  .have E4:=E3.trans (HH (b:=5) (c:=6) ⋯ e3);generalize vD:M.settle.mj=zc;rcases zc with _|x;.obtain ⟨s4,e4,h4,l4⟩:=A3 (T:=TT) (n:=17) (x:="pass_time") (p:=pk 5 6) (as:=[AH F]) (lc:=BU F ra) (A!:=BU F ra) (L':=O_ F J M.settle tail) (hs:=0) (cs:=[]) (m:=0) (r:=[]) Ä h3 l3 .nil ⋯;obtain⟨s5,la,e5,h5,l5⟩:=Rz Bl vD h4;refine zk<|.R! s5 la J er (by refine AA ew ?_;intro h;cases h) vD (E4.trans (e4.trans (Â (AN.bind · _) e5))) h5 nu
   .obtain ⟨s4,v,L4,e4,⟨J4,rfl,vP⟩,h4,l4⟩:=XT (R:=λv L=>BM (λJ=>L=O_ F J (M.settle.to x).mn tail) λJ=>Bg J<|n+4) h3 l3 λs h=>by x_go;obtain⟨s',e,r',l'⟩:=UW Q W hn vD<|.V_ nu h;obtain⟨J4,h4,vP⟩:=r'.open;exact zk<|⟨_,_,⟨J4,Ä,vP⟩,s',e,h4,l'⟩
    exact zk<|.W? x s4 ra er (by refine AA ew ?_;intro h;cases h) vD (E4.trans e4) (.V_ vP h4) l4
 .obtain ⟨s2,x,L2,e2,⟨hx,J2,rfl,rA⟩,h2⟩:=Rx (R:=λx L=>x∈CQ F M.settle/\BM (λJ=>L=O_ F J M.settle tail) λJ=>Bg J<|n+1) h1 l1 λs h=>by x_go;obtain⟨x,hx,J2,g,rA⟩:=Pi w (by refine AA er ?_;intro h;cases h) (AA er h) nu (by lia);exact zk<|⟨x,_,⟨hx,J2,Ä,rA⟩,HV g⟩
  exact zk<|.some x s2 hx ((HH (b:=3) ⋯ e1).trans (QH (b:=4) ⋯ e2))<|.V_ rA h2
end
section
variable{n:Ç}
theorem HA(ht:t.run G C s=.ok (.bool Å) s1)(hb:b.run G C s1=.ok (.D! [x]) s2):(Bu t b<|n+1).run G C s=.ok (.D! [x]) s2:=by show(t.bind _).run G C s=_;refine AA (Pr.F_ ..)<|AA (ht ..) ?_;show(b.bind _).run G C s1=_;exact AA (Pr.F_ ..)<|AA (hb ..) Ä
theorem Jx(ht:t.run G C s=.ok (.bool Å) s1)(hb:b.run G C s1=.exc e s2):(Bu t b<|n+1).run G C s=.exc e s2:=by show(t.bind _).run G C s=_;refine AA (Pr.F_ ..)<|AA (ht ..) ?_;show(b.bind _).run G C s1=_;exact AA (Pr.F_ ..)<|AA (hb ..) Ä
end
def br(F:Fx)(M M':AQ):Prop:=M'=M.settle\/CQ F M.settle=[]/\BM (λy=>M.settle.mj=À y) λy=>M'=((M.settle.to y).mn).settle
structure RC(F:Fx)(M:AQ):Prop where
 pre:JV M
 Q:QW M.settle
 W:WQ M.settle
 next:∀x,CQ F M.settle=[]->M.settle.mj=À x->JV (M.settle.to x).mn/\QW (M.settle.to x).mn.settle/\WQ (M.settle.to x).mn.settle/\CQ F (M.settle.to x).mn.settle≠[]
inductive gQ(F:Fx)(tail:Á AC)(n:Ç)(M:AQ)(s:S):Prop where|d? (x:V) (s':S) (M':AQ) (e:AK TT 18 (.fn "pick_task") [AH F] s=.ok x s') (hx:x∈CQ F M') (nx:br F M M') (r:BA F tail (n+5) M' s') (l:s'.A!=s.A!)|none (s':S) (e:AK TT 18 (.fn "pick_task") [AH F] s=.ok .none s') (h0:CQ F M.settle=[]) (h1:Bp M.settle=[]) (r:BA F tail (n+5) M.settle s') (l:s'.A!=s.A!)|R! (s':S) (la:Ç) (J:Jk) (e:AK TT 18 (.fn "pick_task") [AH F] s=.exc (.ref<|.list la) s') (h0:CQ F M.settle=[]) (h1:Bp M.settle≠[]) (h2:M.settle.mj=Ã.none) (h:Hs ((.list la,.list<|Bp M.settle)::O_ F J M.settle tail) s') (l:s'.A!=s.A!)
section
variable{n:Ç}
theorem TV:BP 96 0 1=(Bu (Dk 96 0) (pk 0 6) CM).bind λf=>F8 f (.ret .none):=⋯
theorem IB(e:∀m,(Bu (Dk 96 0) (pk 0 6)<|m+1+1).run TT.A_ (AK TT 17) {s with A!:=Ua F}=o):AK TT 18 (.fn "pick_task") [AH F] s=EK s.A! (o.bind λv s=>(F8 v<|.ret .none).run TT.A_ (AK TT 17) s):=by refine Lm (i:=96) ⋯ ⋯ ⋯ ?_;show(BP 96 0 1).run _ _ _=_;exact AA TV (AA (Pr.F_ ..) (Â (AN.bind · _)<|e<|CM-2))
theorem KE(w:Ha F)(hn:n+8<G_)(p:RC F M)(r:BA F tail n M s):gQ F tail n M s:=by have r0:BA F tail n M {s with A!:=Ua F}:=r.lz _;x_go;obtain⟨J,h,nu⟩:=r0.open;obtain⟨s1,t1,h1,l1⟩:=QG h;have r1:BA F tail n M s1:=.V_ nu h1;have g:=Ig (o:=È) w (by lia) p.pre p.Q p.W r1 l1;induction g with|some x s2 hx e r2=>exact zk<|.d? x {s2 with A!:=s.A!} M.settle (IB λm=>HA t1 e) hx (.inl Ä) ((r2.lz _).qx<|by lia) Ä|none s2 h0 h1 e r2=>exact zk<|.none {s2 with A!:=s.A!} (IB λm=>HA t1 e) h0 h1 ((r2.lz _).qx<|by lia) Ä|R! s2 la J h0 h1 h2 e h nu=>exact zk<|.R! {s2 with A!:=s.A!} la J (IB λm=>Jx t1 e) h0 h1 h2 (h.lz _) Ä|W? y s2 ra h0 h1 h2 e r2 l2=>obtain⟨vM,Q2,W2,ne⟩:=p.next y h0 h2;obtain⟨J2,g2,rA⟩:=r2.open;obtain⟨s3,t3,g3,l3⟩:=QG g2;have g:=Ig (o:=À ra) w (by lia) vM Q2 W2 (.V_ rA g3)<|l3.trans l2;induction g with|some x s4 hx e4 r4=>exact zk<|.d? x {s4 with A!:=s.A!} _ (IB λm=>(ET t1 e).trans<|HA t3 e4) hx (.inr ⟨h0,y,h2,Ä⟩) (r4.lz _) Ä|none s4 h0=>exact(ne h0).elim|R! s4 la J h0=>exact(ne h0).elim|W? x s4 ra h0=>exact(ne h0).elim
end
structure Dc where
 kd:I3->Kd
 B?:I3->Á Ah
 room:Í
def A5:Á Ah->Á Í|[]=>[]|.rest _::r=>A5 r|.call _ _ m::r=>m::A5 r
def EY(l:Á Ah):Ç:=(A5 l).length
def Er(k:Kd):Ah->Prop|.rest n=>0<n|.call k' w _=>k'=k/\match w with|.num n=>0<n|_=>Ŀ
def owner(i:I3)(v:Í):Ë:=Ê<|Í.fdiv v 10=(i.val:Í)
structure Ay(P:Dc):Prop where
 room:0<P.room/\P.room<=3
 B?:∀i,∀r∈P.B? i,Er (P.kd i) r
 len:∀i,(P.B? i).length<=4
 nd:∀i,P.kd i=.B_->(A5<|P.B? i).Nodup
 own:∀i,P.kd i=.B_->∀v∈A5<|P.B? i,owner i v=Å
def mf(w:Wt)(a:An)(d:Í):Prop:=match a with
 |.G?=>match w with|.no=>Ŀ|.mr=>d=0|.num n=>d<n
 |.I!=>w=.mr/\d=0|.mP=>w=.num d
def Pw(t:Bf):Ã Í:=match t.a with|.G?=>À t.nS|_=>È
def Cj(c:Cl):Á Í:=c.lr.filterMap Pw
def E7(s:Ev)(v:Í):Á Í:=match s with|.lr .G?=>[v]|_=>[]
def Lj(s:Ev)(v:Í):Á Í:=match s with|.D_ _=>[v]|.mA=>[v]|_=>[]
def D7(s:Ev):Ç:=match s with|.D_ _=>1|.mA=>1|.lr _=>1|_=>0
def BQ(c:Cl):Á Í:=Cj c++E7 c.st c.ly
def Dv(now:Í)(c:Cl):Prop:=match c.st,c.cur with|.fresh,È=>Ŀ|.mO,À (.rest _)=>Ŀ|.mF x,À (.rest _)=>now<x|.D_ d,À (.call _ w _)=>¬w=.mr/\d=w.dl c.E_/\c.E_<=now/\∀x,d=À x->now<x|.mA,À (.call _ w _)=>mf w .G?<|now-c.E_|.lr a,À (.call _ w _)=>mf w a<|now-c.E_|.mE,_=>c.B?=[]|.done,_=>c.B?=[]|_,_=>Ń
structure OH(P:Dc)(i:I3)(now:Í)(c:Cl):Prop where
 B?:∀r∈c.B?,Er (P.kd i) r
 cur:∀r,c.cur=À r->Er (P.kd i) r
 cnt:EY (P.B? i)=c.lr.length+D7 c.st+EY c.B?
 st:Dv now c
 lr:∀t∈c.lr,mf t.w t.a t.mW
 sub:P.kd i=.B_->(BQ c++(Lj c.st c.ly++A5 c.B?)).Sublist (A5<|P.B? i)
def C2(P:Dc)(cl:I3->Cl)(i:I3):Á Í:=match P.kd i with|.take=>BQ<|cl i|.B_=>[]
structure Ci(P:Dc)(now room:Í)(B! B_ A?:Á Í)(cl:I3->Cl):Prop where
 rm:room=P.room
 ll:(B!.length:Í)<=room
 pt:B_=A?++B!
 A!:∀i,OH P i now<|cl i
 o6:∀i,P.kd i=.B_->B_.filter (owner i)=BQ (cl i)oW:∀i,P.kd i=.take->(BQ<|cl i).Sublist A?
 own:∀v∈B_,BM (λi=>P.kd i=.B_) λi=>owner i v=Å
 perm:A?.Perm<|C2 P cl 0++(C2 P cl 1++C2 P cl 2)
def CP(P:Dc)(M:AQ):Prop:=Ci P M.now M.room M.B! M.B_ M.A? M.cl
section
variable{now room:Í}{B! B_ A?:Á Í}{cl:I3->Cl}{c c':Cl}{m v:Í}
theorem P2{α:Type}{f:Cl->α}(h:f c'=f (cl i))(j:I3):f (Ab cl i c' j)=f (cl j):=by
 by_cases e:j=i;.subst e;exact AA AJ<|h
 .exact AA (AT e) Ä
theorem IN{p:I3->Cl->Prop}(h:∀j,p j<|cl j)(hi:p i c')(j:I3):p j (Ab cl i c' j):=by
 by_cases e:j=i;.subst e;exact AA AJ<|hi
 .exact AA (AT e)<|h j
theorem Kg(g:∀j,BQ (vF j)=BQ (cl j)):C2 P vF=C2 P cl:=ø λj=>by unfold C2;exact AA (g ..) Ä
theorem Ci.a_(h:Ci P now room B! B_ A? cl)(g:BQ c'=BQ (cl i))(l:OH P i now c'):Ci P now room B! B_ A? (Ab cl i c'):=have G:=P2 (f:=BQ) g;⟨h.rm,h.ll,h.pt,IN (p:=λj c=>OH P j now c) h.A! l,λj e=>(h.o6 j e).trans (G j).symm,λj e=>AA (G j)<|h.oW j e,h.own,AA (Kg G) h.perm⟩
theorem Ci.all{qL:Í}(h:Ci P now room B! B_ A? cl)(G:∀j,BQ (vF j)=BQ (cl j))(l:∀i,OH P i qL<|vF i):Ci P qL room B! B_ A? vF:=⟨h.rm,h.ll,h.pt,l,λj e=>(h.o6 j e).trans (G j).symm,λj e=>AA (G j)<|h.oW j e,h.own,AA (Kg G) h.perm⟩
theorem J9(h:Dv now c)(rd:Dh c.st=Å):Az now c=c/\(∀v,E7 c.st v=[])/\D7 c.st=0\/kn (λk w m a=>c.cur=À (.call k w m)) (λk w m a=>c.st=.lr a) λk w m a=>mf w a<|now-c.E_:=by obtain⟨st,B?,cur,E_,ly,lr⟩:=c;induction st with
 |fresh=>
  rcases cur with _|q;.exact .inl ⟨Ä,λZ=>Ä,Ä⟩
  .exact h.elim|mO=>
  rcases cur with _|q;.exact h.elim
  .cases q with|rest x=>exact .inl ⟨Ä,λZ=>Ä,Ä⟩|call k w m=>exact h.elim
 |lr a=>
  rcases cur with _|q;.exact h.elim
  .cases q with|rest x=>exact h.elim|call k w m=>exact .inr ⟨k,w,m,a,Ä,Ä,h⟩
 |_=>exact CN rd
theorem QD(r:Dh c.st=Å):Lj c.st v=[]:=by cases e:c.st<;>first|rfl|(rw[e]at r;cases r)
structure gM(P:Dc)(i:I3)(now:Í)(c c1:Cl):Prop where
 w:Cj c1=BQ c
 n:c1.lr.length=c.lr.length+D7 c.st
 lr:∀t∈c1.lr,mf t.w t.a t.mW
theorem Yx(l:OH P i now c)(r:Dh c.st=Å):gM P i now c (Az now c):=by
 rcases J9 l.st r with⟨e,p,n⟩|⟨k,w,m,a,hc,hs,hh⟩;.exact AA e ⟨by unfold BQ;exact AA (p ..)<|AA (å ..) Ä,by exact AA n Ä,l.lr⟩
 .have e:Az now c={c with lr:=c.lr++[⟨w,a,c.ly,now-c.E_⟩]}:=by unfold Az;exact AA hc<|AA hs Ä
  refine AA e ⟨?_,?_,λt ht=>?_⟩;.show (c.lr++[_]).filterMap Pw=_;refine AA Á.filterMap_append ?_;unfold BQ;refine AA hs ?_;induction a<;>rfl
  .show (c.lr++[_]).length=_;exact AA Õ<|AA hs Ä
  .rcases Hy ht with ht|ht;.exact l.lr t ht
   .exact AA (OF ht) hh
def Di(now:Í)(c:Cl)(row:Ah)(rest:Á Ah)(s:Ev):Cl:={Az now c with B?:=rest,cur:=À row,E_:=now,ly:=row.pQ,st:=s}
def dG:Ah->Ç|.rest _=>0|.call _ _ _=>1
theorem Ci.row(h:Ci P now room B! B_ A? cl)(r:Dh (cl i).st=Å){row:Ah}{rest:Á Ah}(hr:(cl i).B?=row::rest){s:Ev}(hs:Dv now<|Di now (cl i) row rest s)(hp:∀v,E7 s v=[])(hn:D7 s=dG row):Ci P now room B! B_ A? (Ab cl i<|Di now (cl i) row rest s):=by
 have l:=h.A! i;have t:=Yx l r;have g:BQ (Di now (cl i) row rest s)=BQ (cl i):=by show Cj (Az now<|cl i)++E7 s _=_;exact AA (hp ..)<|AA (å ..) t.w
 refine h.a_ g ⟨λq hq=>l.B? q<|AA hr<|.tail _ hq,λq e=>?_,?_,hs,t.lr,λhk=>?_⟩;.obtain rfl:=Ak e;exact l.B? row<|AA hr<|.head _
 .show _=(Az now<|cl i).lr.length+D7 s+EY rest;refine AA t.n<|AA hn<|AA l.cnt<|AA hr ?_;rw[ħ<|_+_];induction row with|rest x=>exact Â _ (Ű _).symm|call k w m=>exact Â _<|θ _ 1
 .refine ŭ ?_<|l.sub hk;refine AA g<|AA (QD r)<|AA hr<|Ř ?_ _;induction row with
  |rest x=>cases s<;>first|exact Ě _|cases hn
  |call k w m=>induction s<;>first|exact Ě _|exact Á.sublist_cons_self _ _
theorem Ci.stop(h:Ci P now room B! B_ A? cl)(r:Dh (cl i).st=Å)(hr:(cl i).B?=[]):Ci P now room B! B_ A? (Ab cl i {Az now (cl i)with st:=.mE}):=by
 have l:=h.A! i;have t:=Yx l r;have er:(Az now<|cl i).B?=(cl i).B?:=Cq.1;have ec:(Az now<|cl i).cur=(cl i).cur:=Cq.2;have g:BQ {Az now (cl i)with st:=.mE}=BQ (cl i):=by show Cj (Az now<|cl i)++[]=_;exact AA (å ..) t.w
 refine h.a_ g ⟨λq hq=>l.B? q<|AP er hq,λq e=>l.cur q<|AP ec e,?_,er.trans hr,t.lr,λhk=>?_⟩;.show _=(Az now<|cl i).lr.length+0+EY (Az now<|cl i).B?;exact AA t.n<|AA er l.cnt
 .refine ŭ ?_<|l.sub hk;refine AA g<|AA (QD r) ?_;show(BQ (cl i)++([]++A5 (Az now<|cl i).B?)).Sublist _;exact AP er<|Ě _
end
section
variable{now room:Í}{B! B_ A?:Á Í}{cl:I3->Cl}{m v:Í}
theorem OH.mK{qL:Í}(l:OH P i now c)(g:∀v,E7 s v=[])(g':∀v,E7 c.st v=[])(hs:Dv qL {c with st:=s})(hn:D7 s=D7 c.st)(hf:∀v,Lj s v=Lj c.st v\/Lj s v=[]):OH P i qL {c with st:=s}/\BQ {c with st:=s}=BQ c:=by
 have e:BQ {c with st:=s}=BQ c:=by show Cj c++E7 s c.ly=Cj c++E7 c.st c.ly;exact AA (g ..)<|AA (g' ..) Ä
 refine⟨⟨l.B?,l.cur,?_,hs,l.lr,λhk=>?_⟩,e⟩;.show _=c.lr.length+D7 s+_;exact AA hn<|l.cnt
 .refine ŭ ?_<|l.sub hk;refine AP e ?_;refine Ř ?_ _;show(Lj s c.ly++A5 c.B?).Sublist _;rcases hf c.ly with q|q<;>rw[q];.exact Ě _
  .exact Á.sublist_append_right _ _
theorem Ci.mK(h:Ci P now room B! B_ A? cl)(g:∀v,E7 s v=[])(g':∀v,E7 (cl i).st v=[])(hs:Dv now {cl i with st:=s})(hn:D7 s=D7 (cl i).st)(hf:∀v,Lj s v=Lj (cl i).st v\/Lj s v=[]):Ci P now room B! B_ A? (Ab cl i {cl i with st:=s}):=by obtain⟨a,b⟩:=(h.A! i).mK g g' hs hn hf;exact h.a_ b a
theorem Ih(h1:owner i v=Å)(h2:owner j v=Å):i=j:=by have a:=Ù h1;have b:=Ù h2;exact Fin.ext<|Í.ofNat.inj<|a.symm.trans b
theorem aK{now:Í}(h:Dv now c)(hs:c.st=.mA)(hc:c.cur=À (.call k w m)):mf w .G? (now-c.E_):=by unfold Dv at h;rw[hs,hc]at h;exact h
theorem UV{t:Á Í}{g g':I3->Á Í}(h:t.Perm<|g 0++(g 1++g 2))(hj:g' j=g j++[v])(hn:∀i,¬i=j->g' i=g i):(t++[v]).Perm (g' 0++(g' 1++g' 2)):=by
 have q:(t++[v]).Perm (g 0++(g 1++(g 2++[v]))):=by have:=h.append_right [v];rwa[ô,ô]at this
 induction j using NK;.refine AA hj<|AA (hn 1<|by decide)<|AA (hn 2<|by decide)<|AA (ô ..)<|q.trans<|ŧ _ ?_;exact AP (ô ..) Á.perm_append_comm
 .exact AA hj<|AA (hn 0<|by decide)<|AA (hn 2<|by decide)<|AA (ô ..)<|q.trans<|ŧ _<|ŧ _ Á.perm_append_comm
 .exact AA hj<|AA (hn 0<|by decide)<|AA (hn 1<|by decide) q
theorem Nq(l:OH P i now c)(hs:c.st=.mA)(hc:c.cur=À (.call k w m))(hv:P.kd i=.B_->v=c.ly):OH P i now {c with ly:=v,st:=.lr .G?}/\BQ {c with ly:=v,st:=.lr .G?}=BQ c++[v]:=by
 have g0:BQ c=Cj c:=by unfold BQ;exact AA hs<|å _
 have e:BQ {c with ly:=v,st:=.lr .G?}=BQ c++[v]:=by exact AA g0 Ä
 refine⟨⟨l.B?,l.cur,?_,?_,l.lr,λhk=>?_⟩,e⟩;.have:=l.cnt;rw[hs]at this;exact this
 .unfold Dv;dsimp only;exact AA hc<|aK l.st hs hc
 .have:=l.sub hk;replace this:=hs▸this;exact AA e<|AA (hv hk)<|AA (ô ..) this
theorem Ci.O_(hP:Ay P)(h:Ci P now room B! B_ A? cl)(hs:(cl j).st=.mA)(hc:(cl j).cur=À (.call .B_ w m))(ho:(B!.length:Í)<room):Ci P now room (B!++[(cl j).ly]) (B_++[(cl j).ly]) A? (Ab cl j {cl j with st:=.lr .G?}):=by
 have l:=h.A! j;have hk:P.kd j=.B_:=(l.cur _ hc).1.symm;obtain⟨l',g'⟩:=Nq (v:=(cl j).ly) l hs hc λZ=>Ä;have mem:(cl j).ly∈A5 (P.B? j):=by refine(l.sub hk).subset<|Ö _<|æ _ ?_;exact AA hs<|.head _
 have own:=hP.own j hk _ mem;have gT:C2 P (Ab cl j {cl j with st:=.lr .G?})=C2 P cl:=ø λi=>by
  by_cases e:i=j;.subst e;unfold C2;exact AA hk Ä
  .unfold C2;exact AA (AT e) Ä
 refine⟨h.rm,?_,?_,IN (p:=λj c=>OH P j now c) h.A! l',λi hi=>?_,λi hi=>?_,λv hv=>?_,AA gT h.perm⟩;.exact AA Õ<|ho
 .exact AA h.pt<|AA (ô ..) Ä
 .by_cases e:i=j;.subst e;exact AA AJ<|AA (Μ ..)<|AA (h.o6 i hi)<|AA (g' ..)<|Â _<|Ĩ own
  .refine AA (AT e)<|AA (Μ ..)<|AA (h.o6 i hi) ?_;have:¬owner i (cl j).ly=Å:=λq=>e<|Ih q own;exact(Ĉ this).symm▸å _
 .have e:¬i=j:=λe=>by rw[e,hk]at hi;exact nomatch hi
  exact AA (AT e)<|h.oW i hi
 .rcases Hy hv with hv|hv;.exact h.own v hv
  .exact AA (OF hv)<|⟨j,hk,own⟩
theorem Ci.get(h:Ci P now room (v::B!) B_ A? cl)(hs:(cl j).st=.mA)(hc:(cl j).cur=À (.call .take w m)):Ci P now room B! B_ (A?++[v]) (Ab cl j {cl j with ly:=v,st:=.lr .G?}):=by
 have l:=h.A! j;have hk:P.kd j=.take:=(l.cur _ hc).1.symm;obtain⟨l',g'⟩:=Nq (v:=v) l hs hc λq=>by rw[hk]at q;exact nomatch q
 have hn:∀i,P.kd i=.B_->¬i=j:=λi hi e=>by rw[e,hk]at hi;exact nomatch hi
 refine⟨h.rm,?_,?_,IN (p:=λj c=>OH P j now c) h.A! l',λi hi=>?_,λi hi=>?_,h.own,UV (j:=j) h.perm ?_ λi e=>?_⟩;.exact č (Í.ofNat_le.mpr<|Ģ _) h.ll
 .exact AA h.pt<|AA (ô ..) Ä
 .exact AA (AT<|hn i hi)<|h.o6 i hi
 .by_cases e:i=j;.subst e;exact AA AJ<|AA g'<|(h.oW i hi).append_right _
  .exact AA (AT e)<|(h.oW i hi).trans<|Á.sublist_append_left _ _
 .unfold C2;exact AA hk<|AA AJ g'
 .unfold C2;exact AA (AT e) Ä
end
theorem GH{m:Í}(hP:Ay P)(h:CP P M)(hs:(M.cl j).st=.mA)(hc:(M.cl j).cur=À (.call k w m))(ho:M.E! k=Å):CP P (M.after j k):=by induction k with|B_=>exact Ci.O_ hP h hs hc<|Ù ho|take=>
  have ho:(!M.B!.isEmpty)=Å:=ho;obtain⟨now,room,cl,q,B!,B_,A?,hS,E?,mN⟩:=M;rcases B! with _|⟨v,X⟩;.exact CN ho
  .show Ci P now room X B_ (A?++[v])<|Ab (Ab cl j _) j {Ab cl j {cl j with ly:=v} j with st:=_};exact AA Bq<|AA AJ<|Ci.get h hs hc
def FL(now:Í)(c:Cl):Cl:=Yb now c.st c.cur c {c with st:=.mO} λZ=>{c with st:=.lr .mP}
section
variable{M:AQ}{now x:Í}{m v:Í}
theorem Ko{d:Í}(hs:c.st=.mF d):FL now c=if d<=now then{c with st:=.mO}else c:=by unfold FL;exact AA hs Ä
theorem Kn{d:Í}(hs:c.st=.D_ (À d))(hc:c.cur=À (.call k w m)):FL now c=if d<=now then{c with st:=.lr .mP}else c:=by unfold FL;exact AA hs<|AA hc Ä
theorem Yc(hs:∀d,¬c.st=.mF d)(hw:∀d k w m,c.st=.D_ (À d)->¬c.cur=À (.call k w m)):FL now c=c:=Eg (P:=λ(c':Cl) (_:Η)=>c'=c) (a':=()) (r':=()) (l':=λZ=>()) Ä (λd e Z=>(hs d e).elim) λd k w m e e' Z=>(hw d k w m e e').elim
structure S8(M M':AQ):Prop where
 now:M'.now=M.now
 room:M'.room=M.room
 B!:M'.B!=M.B!
 B_:M'.B_=M.B_
 A?:M'.A?=M.A?
 E?:M'.E?=M.E?
 mN:M'.mN=M.mN
theorem S8.trans(a:S8 M M')(b:S8 M' zU):S8 M zU:=⟨b.now.trans a.now,b.room.trans a.room,b.B!.trans a.B!,b.B_.trans a.B_,b.A?.trans a.A?,b.E?.trans a.E?,b.mN.trans a.mN⟩
theorem PW:(M.mL i).cl=Ab M.cl i (FL M.now<|M.cl i):=Eg (P:=λ(M':AQ) (c:Cl)=>M'.cl=Ab M.cl i c) (ø λj=>(P2 (f:=id) Ä j).symm) (λZ Z Z=>Ä) λZ Z Z Z Z Z Z=>Ä
theorem JG:S8 M (M.mL i):=Eg (P:=λ(M':AQ) (_:Η)=>S8 M M') (a':=()) (r':=()) (l':=λZ=>()) ⟨Ä,Ä,Ä,Ä,Ä,Ä,Ä⟩ (λZ Z Z=>⟨Ä,Ä,Ä,Ä,Ä,Ä,Ä⟩) λZ Z Z Z Z Z Z=>⟨Ä,Ä,Ä,Ä,Ä,Ä,Ä⟩
theorem V3(h:M.q k=[]):(M.mL i).q k=[]:=Eg (P:=λ(M':AQ) (_:Η)=>M'.q k=[]) (a':=()) (r':=()) (l':=λZ=>()) h (λZ Z Z=>h) λZ k' Z Z Z Z Z=>by
  show Df M.q k' (Aj i<|M.q k') k=[];unfold Df;by_cases e:k=k';.subst e;exact AA (Î Ä)<|AA h Ä
  .exact AA (Ì e)<|AA h Ä
structure j0(M M':AQ):Prop where
 cl:∀i,M'.cl i=FL M.now (M.cl i)now:M'.now=M.now
 room:M'.room=M.room
 B!:M'.B!=M.B!
 B_:M'.B_=M.B_
 A?:M'.A?=M.A?
 E?:M'.E?=M.E?
 mN:M'.mN=M.mN
 hS:M'.lu=M.lu
 q:∀k,M.q k=[]->M'.q k=[]
theorem Lr:j0 M M.mn:=by have s0:=JG (M:=M) (i:=0);have s1:=JG (M:=M.mL 0) (i:=1);have s:=s0.trans<|s1.trans (JG (M:=(M.mL 0).mL 1) (i:=2));refine⟨λi=>?_,s.now,s.room,s.B!,s.B_,s.A?,s.E?,s.mN,Hl.trans<|Hl.trans Hl,λk h=>V3<|V3<|V3 h⟩;show(((M.mL 0).mL 1).mL 2).cl i=_;refine AA (PW (M:=(M.mL 0).mL 1)) (AA (PW (M:=M.mL 0)) (AA (PW (M:=M))<|AA s1.now<|AA s0.now ?_));induction i using NK<;>rfl
def bu(s:Ev):Prop:=match s with|.mF _=>Ŀ|.D_ _=>Ŀ|.done=>Ŀ|_=>Ń
theorem LL(h:0<x):mx x=x:=Ì<|Í.not_lt.mpr<|į h
theorem Qt(l:OH P i now c)(hi:bu c.st)(hx:now<=x)(hw:∀d,c.st.wk=À d->x<=d):OH P i x (FL x c)/\BQ (FL x c)=BQ c:=by obtain⟨st,B?,cur,E_,ly,lr⟩:=c;have hs:=l.st;induction st with
 |mF d=>
  have hd:x<=d:=hw d Ä;refine AA (Ko Ä) ?_;rcases cur with _|(y|⟨_,_,_⟩);.exact hs.elim
  .by_cases h:d<=x;.exact AA (Î h) (l.mK (s:=.mO) (λZ=>Ä) (λZ=>Ä) Þ Ä λZ=>.inr Ä)
   .exact AA (Ì h) ⟨⟨l.B?,l.cur,l.cnt,Í.not_le.mp h,l.lr,l.sub⟩,Ä⟩
  .exact hs.elim|D_ d=>
  rcases cur with _|(_|⟨k,w,m⟩);.exact hs.elim
  .exact hs.elim
  .obtain ⟨s1,s2,s3,s4⟩:=hs;rcases d with _|d;.exact ⟨⟨l.B?,l.cur,l.cnt,⟨s1,s2,č s3 hx,λZ q=>by cases q⟩,l.lr,l.sub⟩,Ä⟩
   .have hd:x<=d:=hw d Ä;refine AA (Kn Ä Ä) ?_;by_cases h:d<=x;.refine AA (Î h) (l.mK (s:=.lr .mP) (λZ=>Ä) (λZ=>Ä) ?_ Ä λZ=>.inr Ä);show w=.num (x-E_);induction w with|no=>exact GO s2|mr=>exact(s1 Ä).elim|num n=>have hn:0<n:=(l.cur _ Ä).2;injection s2 with s2;rw[LL hn]at s2;have s2:d=E_+n:=s2;exact AA (Í.le_antisymm hd h)<|AA s2<|AA (Í.add_comm ..)<|AA (Í.add_sub_cancel ..) Ä
    .exact AA (Ì h) ⟨⟨l.B?,l.cur,l.cnt,⟨s1,s2,č s3 hx,λy q=>by cases q;exact Í.not_le.mp h⟩,l.lr,l.sub⟩,Ä⟩|done=>exact⟨⟨l.B?,l.cur,l.cnt,by induction cur<;>exact hs,l.lr,l.sub⟩,Ä⟩|_=>exact hi.elim
theorem Qr(l:OH P i now c):OH P i now (GG c)/\BQ (GG c)=BQ c:=by obtain⟨st,B?,cur,E_,ly,lr⟩:=c;induction st with|mE=>exact l.mK (s:=.done) (λZ=>Ä) (λZ=>Ä) l.st Ä λZ=>.inr Ä|_=>exact⟨l,Ä⟩
theorem So(h:CP P M):CP P M.ends:=Ci.all h (λj=>(Qr<|h.A! j).2) λj=>(Qr<|h.A! j).1
theorem Sp(h:CP P M)(hi:∀i,bu (M.cl i).st)(hx:M.now<x)(hw:∀i d,(M.cl i).st.wk=À d->x<=d):CP P (M.to x).mn:=by
 obtain⟨a,b,c,d,e,f,_⟩:=Lr (M:=M.to x);have en:(M.to x).now=x:=Î hx;unfold CP;refine AA b<|AA c<|AA d<|AA e<|AA f<|AA en<|Ci.all (M.cl|>λZ=>h) (λj=>?_) λj=>?_;.exact AA (a ..)<|AA (en ..)<|(Qt (h.A! j) (hi j) (į hx)<|hw j).2
 .exact AA (a ..)<|AA (en ..)<|(Qt (h.A! j) (hi j) (į hx)<|hw j).1
end
structure N0(M:AQ):Prop where
 m1:∀j,M.mN=À j->(M.cl j).st=.mA/\M.E?=.G!/\∀k w m,(M.cl j).cur=À (.call k w m)->M.E! k=Å
 m2:∀j,(M.cl j).st=.mA->M.mN=À j
 acc:∀p t,M.E?=.lx p t->p=M.E! .B_/\t=M.E! .take/\OQ M
 dn:M.E?=.done->∀i,(M.cl i).st=.done
 nc:¬M.E?=.mE
structure Wb(M:AQ):Prop where
 oq:OQ M
 nm:∀i,¬(M.cl i).st=.mA
 na:M.mN=È
 rd:M.E?=.G!
def MC(M:AQ):Prop:=bif M.lu then N0 M else Wb M
structure D2(P:Dc)(M:AQ):Prop where
 J!:CP P M
 q:QW M
 w:WQ M
 kind:MC M
def AQ.zD(M:AQ)(i:I3):Ah->AQ|.rest x=>M.mK i<|.mF<|M.now+mx x|.call k w _=>bif M.E! k then(M.after i k).more else M.ask i k w
def AQ.go(M:AQ)(i:I3):AQ:=match(M.cl i).B? with|[]=>(M.I_ i).mK i .mE|row::rest=>bif M.lu then((M.I_ i).pop i row rest).wM i row else((M.I_ i).pop i row rest).zD i row
def kindOf(c:Cl):Kd:=match c.cur with|À (.call k _ _)=>k|_=>.B_
def AQ.n9(M:AQ):AQ:=match M.mN with|È=>M.K!|À j=>(M.after j<|kindOf<|M.cl j).K!
def cA:Ev->Ç|.done=>0|.mE=>1|.fresh=>2|.mO=>2|.lr _=>2|.mA=>3|.D_ _=>4|.mF _=>4
def FU(c:Cl):Ç:=8*c.B?.length+cA c.st
def DS(f:I3->Ç):Ç:=f 0+(f 1+f 2)
def TD:GQ->Ç|.G!=>1|_=>0
def weight(M:AQ):Ç:=DS (λi=>FU<|M.cl i)+TD M.E?
section
variable{M:AQ}{m:Í}
theorem B0(h:MC M)(hS:M.lu=Å):N0 M:=by unfold MC at h;rw[hS]at h;exact h
theorem D0(h:MC M)(hS:M.lu=Æ):Wb M:=by unfold MC at h;rw[hS]at h;exact h
theorem Cg(h1:M.lu=Å->N0 M)(h2:M.lu=Æ->Wb M):MC M:=by
 unfold MC;generalize e:M.lu=zc;rcases zc with _|_;.exact h2 e
 .exact h1 e
theorem I4(h:MC M)(h1:¬(M.cl i).st=.mA)(h2:¬c.st=.mA)(h3:¬(M.cl i).st=.done):MC {M with cl:=Ab M.cl i c}:=Cg (λhS=>by
  have h:=B0 h hS;refine⟨λj hj=>?_,λj hj=>?_,h.acc,λhd=>(h3<|h.dn hd i).elim,h.nc⟩;.have ne:¬j=i:=λe=>h1<|AP e<|(h.m1 j hj).1;show(Ab M.cl i c j).st=_/\_/\∀k w m,(Ab M.cl i c j).cur=_->_;exact AA (AT ne)<|h.m1 j hj
  .have hj:(Ab M.cl i c j).st=.mA:=hj;by_cases e:j=i;.subst e;rw[AJ]at hj;exact(h2 hj).elim
   .rw[AT e]at hj;exact h.m2 j hj) λhS=>by have h:=D0 h hS;exact⟨h.oq,IN (p:=λZ c=>¬c.st=.mA) h.nm h2,h.na,h.rd⟩
theorem P4(h:∀j,¬j=i->g j<=f j)(hi:g i<f i):DS g<DS f:=by
 unfold DS;induction i using NK;.exact Ç.add_lt_add_of_lt_of_le hi<|î (h 1<|by decide)<|h 2<|by decide
 .exact Š (h 0<|by decide)<|Ç.add_lt_add_of_lt_of_le hi<|h 2<|by decide
 .exact Š (h 0<|by decide)<|Š (h 1<|by decide) hi
theorem P5(h:∀j,g j<=f j):DS g<=DS f:=î (h 0)<|î (h 1)<|h 2
theorem Za{n:Ç}(hc:FU c+n<FU (M.cl i)):DS (λj=>FU<|Ab M.cl i c j)+n<DS λj=>FU<|M.cl j:=by
 have e:DS (λj=>FU<|Ab M.cl i c j)+n=DS λj=>FU (Ab M.cl i c j)+if j=i then n else 0:=by
  unfold DS;induction i using NK;.exact Φ _ _ n
  .exact (ħ _ _ n).trans<|Â _<|Φ _ _ n
  .exact (ħ _ _ n).trans<|Â _<|ħ _ _ n
 refine AA e (P4 (i:=i) (λj hj=>?_) ?_);.exact AA (AT hj)<|AA (Ì hj)<|ä _
 .exact AA AJ<|AA (Î Ä) hc
theorem Dl:((M.I_ i).pop i row rest).mK i s={M with cl:=Ab M.cl i<|Di M.now (M.cl i) row rest s}:=by refine AA Oq ?_;show({M with cl:=Ab (Ab M.cl i _) i {Ab M.cl i _ i with st:=s}}:AQ)=_;exact AA Bq<|AA AJ Ä
theorem MM:(M.I_ i).mK i s={M with cl:=Ab M.cl i {Az M.now (M.cl i)with st:=s}}:=by show({M with cl:=Ab (Ab M.cl i _) i {Ab M.cl i _ i with st:=s}}:AQ)=_;exact AA Bq<|AA AJ Ä
theorem CU(h:Dh (M.cl i).st=Å):(∀d,¬(M.cl i).st=.D_ d)/\¬(M.cl i).st=.mA/\¬(M.cl i).st=.done/\2<=cA (M.cl i).st:=by
 refine⟨λd e=>?_,λe=>?_,λe=>?_,?_⟩;.rw[e]at h;exact CN h
 .rw[e]at h;exact CN h
 .rw[e]at h;exact CN h
 .cases e:(M.cl i).st<;>first|exact ä _|(rw[e]at h;cases h)
theorem Kb(h:D2 P M)(hr:Dh (M.cl i).st=Å)(mB:(M.cl i).B?=row::rest)(hs:Dv M.now<|Di M.now (M.cl i) row rest s)(hp:∀v,E7 s v=[])(hn:D7 s=dG row)(h1:∀d,¬s=.D_ d)(h2:¬s=.mA):D2 P (((M.I_ i).pop i row rest).mK i s):=by refine AA Dl ?_;x_go;obtain⟨r1,r2,r3,_⟩:=CU hr;obtain⟨a,b⟩:=Gg h.q h.w r1 (c:=Di M.now (M.cl i) row rest s) h1;exact zk<|⟨h.J!.row hr mB hs hp hn,a,b,I4 h.kind r2 h2 r3⟩
theorem VO(h:D2 P M)(hr:Dh (M.cl i).st=Å)(mB:(M.cl i).B?=[]):D2 P ((M.I_ i).mK i .mE):=by
 refine AA MM ?_;x_go;obtain⟨r1,r2,r3,_⟩:=CU hr;obtain⟨a,b⟩:=Gg h.q h.w r1 (c:={Az M.now (M.cl i)with st:=.mE}) λZ h=>by cases h
 exact zk<|⟨h.J!.stop hr mB,a,b,I4 h.kind r2 (λh=>by cases h) r3⟩
end
section
variable{P:Dc}{M:AQ}{m:Í}
theorem Io(h:M.next=À (k,i)):M.E! k=Å/\∃r,M.q k=i::r:=by
 unfold AQ.next at h;have m?:∀{b:Ë}{l:Á I3},(if b=Å then l.head? else È)=À i->b=Å/\∃r,l=i::r:=λ{b l}e=>by
  rcases b with _|_;.exact AY e
  .rcases l with _|⟨a,r⟩;.exact AY e
   .obtain rfl:=Ak e;exact⟨Ä,r,Ä⟩
 generalize e1:(if M.E! .B_=Å then(M.q .B_).head? else È)=zc at h;rcases zc with _|a
 .generalize e2:(if M.E! .take=Å then(M.q .take).head? else È)=zc at h;rcases zc with _|a;.exact AY h
  .cases h;exact m? e2
 .cases h;exact m? e1
theorem Ip(h:M.next=È):OQ M:=by
 unfold AQ.next at h;have m?:∀{b:Ë}{l:Á I3},(if b=Å then l.head? else È)=È->b=Å->l=[]:=λ{b l}e hb=>by
  subst hb;rcases l with _|⟨a,r⟩;.rfl
  .exact GO e
 generalize e1:(if M.E! .B_=Å then(M.q .B_).head? else È)=zc at h;rcases zc with _|a
 .generalize e2:(if M.E! .take=Å then(M.q .take).head? else È)=zc at h;rcases zc with _|a;.intro k;induction k with|B_=>exact m? e1|take=>exact m? e2
  .exact GO h
 .exact GO h
theorem VY(h:Er (P.kd i)<|.call k w m):mf w .G? 0:=by induction w with|no=>trivial|mr=>rfl|num n=>exact h.2
theorem E2(h:D2 P M)(mB:(M.cl i).B?=row::rest):Er (P.kd i) row:=(h.J!.A! i).B? row<|AA mB<|.head _
theorem VM(h:D2 P M)(hr:Dh (M.cl i).st=Å)(mB:(M.cl i).B?=.call k w m::rest)(hw:¬w=.mr)(pD:(M.lu=Æ\/OB λp t=>M.E?=.lx p t)->M.E! k=Æ):D2 P (((M.I_ i).pop i (.call k w m) rest).Z_ i k<|w.dl M.now):=by
 have e:((M.I_ i).pop i (.call k w m) rest).Z_ i k (w.dl M.now)={M with cl:=Ab M.cl i<|Di M.now (M.cl i) (.call k w m) rest<|.D_<|w.dl M.now,q:=Df M.q k<|M.q k++[i]}:=Â (λN:AQ=>{N with q:=Df M.q k<|M.q k++[i]}) Dl;refine AA e ?_;obtain⟨r1,r2,r3,_⟩:=CU hr;have hi:=h.q.out r1;have ok:=E2 h mB;have st:Dv M.now (Di M.now (M.cl i) (.call k w m) rest<|.D_<|w.dl M.now):=by refine⟨hw,Ä,Ā _,λx e=>?_⟩;cases w with|no=>exact AY e|mr=>exact AY e|num n=>obtain rfl:=Ak e;have hn:0<n:=ok.2;exact AA (LL hn)<|Í.lt_add_of_pos_right _ hn
 have kd:=I4 (c:=Di M.now (M.cl i) (.call k w m) rest<|.D_<|w.dl M.now) h.kind r2 (λh=>by cases h) r3;have oq:OQ M->M.E! k=Æ->∀k',M.E! k'=Å->Df M.q k (M.q k++[i]) k'=[]:=λh pD k' ho=>by unfold Df;exact AA (Ì λe=>by rw[e,pD]at ho;cases ho)<|h k' ho
 refine⟨h.J!.row hr mB st (λZ=>Ä) Ä,⟨λk'=>?_,λk' j hj=>?_⟩,λj d hj=>?_,Cg (λhS=>?_) λhS=>?_⟩
 .show (Df M.q k (M.q k++[i]) k').Nodup;unfold Df;by_cases e:k'=k;.exact AA (Î e)<|Á.nodup_append.mpr ⟨h.q.nd k,Um ⟨ã,.nil⟩,λa ha b hb e=>hi k<|AP (OF hb)<|AP e ha⟩
  .exact AA (Ì e)<|h.q.nd k'
 .have hj:j∈Df M.q k (M.q k++[i]) k':=hj;show S' (λd w' m'=>(Ab M.cl i _ j).st=_) λd w' m'=>(Ab M.cl i _ j).cur=_;have old:j∈M.q k'->S' (λd w' m'=>(Ab M.cl i (Di M.now (M.cl i) (.call k w m) rest<|.D_<|w.dl M.now) j).st=.D_ d) λd w' m'=>(Ab M.cl i (Di M.now (M.cl i) (.call k w m) rest<|.D_<|w.dl M.now) j).cur=À (.call k' w' m'):=λhj=>by exact AA (AT λe:j=i=>hi k'<|by exact AP e hj)<|h.q.at_ k' j hj
  unfold Df at hj;by_cases e:k'=k
  .rw[Î e]at hj;rcases Hy hj with q|q;.exact old<|AA e q
   .exact AA (OF q)<|AA AJ<|AA e ⟨_,_,_,Ä,Ä⟩
  .rw[Ì e]at hj;exact old hj
 .have hj:(Ab M.cl i _ j).st=.D_ d:=hj;show S' (λk' w' m'=>(Ab M.cl i _ j).cur=_) λk' w' m'=>j∈Df M.q k (M.q k++[i]) k';by_cases e:j=i;.subst e;refine AA AJ ⟨k,w,m,Ä,?_⟩;unfold Df;exact AA (Î Ä)<|Ö _<|.head _
  .rw[AT e]at hj⊢;obtain⟨k',w',m',a,b⟩:=h.w j d hj;refine⟨k',w',m',a,?_⟩;unfold Df;by_cases e:k'=k;.exact AA (Î e)<|æ _<|AP e b
   .exact AA (Ì e) b
 .have z:=B0 kd hS;exact⟨z.m1,z.m2,λp t e=>⟨(z.acc p t e).1,(z.acc p t e).2.1,oq ((B0 h.kind hS).acc p t e).2.2<|pD<|.inr ⟨p,t,e⟩⟩,z.dn,z.nc⟩
 .have z:=D0 kd hS;exact⟨oq (D0 h.kind hS).oq<|pD<|.inl hS,z.nm,z.na,z.rd⟩
theorem SX(h:D2 P M)(hS:M.lu=Å)(hr:Dh (M.cl i).st=Å)(mB:(M.cl i).B?=.call k w m::rest)(mu:M.mT k=Å):D2 P (((M.I_ i).pop i (.call k w m) rest).pX i):=by
 have e:((M.I_ i).pop i (.call k w m) rest).pX i={M with cl:=Ab M.cl i<|Di M.now (M.cl i) (.call k w m) rest .mA,E?:=.G!,mN:=À i}:=Â (λN:AQ=>{N with E?:=.G!,mN:=À i}) Dl;refine AA e ?_;obtain⟨r1,r2,r3,_⟩:=CU hr;have z:=B0 h.kind hS;have ok:=E2 h mB;have st:Dv M.now (Di M.now (M.cl i) (.call k w m) rest .mA):=by show mf w .G?<|M.now-M.now;rw[Í.sub_self];exact VY ok
 obtain⟨a,b⟩:=Gg h.q h.w r1 (c:=Di M.now (M.cl i) (.call k w m) rest .mA) λZ h=>by cases h
 have acc:OB λp t=>M.E?=.lx p t:=by unfold AQ.mT at mu;generalize e:M.E?=zc at mu;induction zc with|lx p t=>exact⟨p,t,Ä⟩|_=>exact CN mu
 obtain⟨p,t,es⟩:=acc;obtain⟨hp,ht,oq⟩:=z.acc p t es;have ho:M.E! k=Å:=by unfold AQ.mT at mu;replace mu:=es▸mu;induction k with|B_=>exact hp▸mu|take=>exact ht▸mu
 have nm:∀j,¬(M.cl j).st=.mA:=λj hj=>by have:=(z.m1 j<|z.m2 j hj).2.1;rw[es]at this;exact nomatch this
 refine⟨h.J!.row hr mB st (λZ=>Ä) Ä,⟨a.nd,a.at_⟩,b,Cg (λhS=>?_) λhf=>by have hf:M.lu=Æ:=hf;rw[hS]at hf;cases hf⟩;refine⟨λj hj=>?_,λj hj=>?_,(λZ Z e=>by cases e),(λe=>by cases e),λe=>by cases e⟩;.have hj:À i=À j:=hj;obtain rfl:=Ak hj;show(Ab M.cl i _ i).st=_/\_/\∀k' w' m',(Ab M.cl i _ i).cur=_->_;refine AJ▸?_;exact⟨Ä,Ä,λk' w' m' e=>by cases e;exact ho⟩
 .have hj:(Ab M.cl i _ j).st=.mA:=hj;by_cases e:j=i;.exact Â À e.symm
  .rw[AT e]at hj;exact(nm j hj).elim
end
structure lb(P:Dc)(M:AQ):Prop where
 J!:CP P M
 q:QW M
 w:WQ M
 nm:∀i,¬(M.cl i).st=.mA
section
variable{P:Dc}{M:AQ}{m:Í}
theorem TZ{now:Í}{d:Ã Í}(h:Dv now c)(hs:c.st=.D_ d)(hc:c.cur=À (.call k w m))(ok:Er (P.kd i)<|.call k w m):mf w .G? (now-c.E_):=by unfold Dv at h;rw[hs,hc]at h;obtain⟨h1,h2,h3,h4⟩:=h;induction w with|no=>trivial|mr=>exact(h1 Ä).elim|num n=>have hn:0<n:=ok.2;have:=h4 _ h2;rw[LL hn]at this;exact Í.sub_left_lt_of_lt_add this
theorem JI(h:CP P M)(Q:QW M)(hq:i∈M.q k):CP P (M.L? k i):=by
 x_go;obtain⟨d,w,m,hs,hc⟩:=Q.at_ k i hq;refine zk<|Ci.mK (i:=i) (s:=.mA) h (λZ=>Ä) (λv=>by exact AA hs Ä) ?_ (by exact AA hs Ä) λv=>.inl<|by exact AA hs Ä
 have:=TZ (P:=P) (i:=i) (h.A! i).st hs hc<|(h.A! i).cur _ hc;unfold Dv;dsimp only;refine AA hc ?_;exact this
theorem Px(Q:QW M)(hq:i∈M.q k):DS (λj=>FU<|(M.L? k i).cl j)<DS λj=>FU<|M.cl j:=by x_go;obtain⟨d,w,m,hs,hc⟩:=Q.at_ k i hq;refine zk<|Za (n:=0) (c:={M.cl i with st:=.mA}) ?_;unfold FU;refine AA hs ?_;exact Ī _
theorem I8(h:lb P M)(hS:M.lu=Å)(hs:M.E?=.G!):D2 P M.K!/\weight M.K!<weight M:=by
 generalize e:M.next=zc;rcases zc with _|p
 .refine AA (KM e) ?_;have oq:=Ip e;refine⟨⟨h.J!,⟨h.q.nd,h.q.at_⟩,h.w,Cg (λZ=>?_) λhf=>by have hf:M.lu=Æ:=hf;rw[hS]at hf;cases hf⟩,?_⟩;.exact ⟨(λj e=>by cases e),λj hj=>(h.nm j hj).elim,λp t e=>by cases e;exact⟨Ä,Ä,oq⟩,(λe=>by cases e),λe=>by cases e⟩
  .show DS _+0<DS _+TD M.E?;refine AA hs ?_;exact Ī _
 .x_go;obtain⟨k,i⟩:=p;refine zk<|AA (KL e) ?_;x_go;obtain⟨ho,r,hq⟩:=Io e;have hi:i∈M.q k:=hq▸.head _;obtain⟨d,w,m,mu,hc⟩:=h.q.at_ k i hi;obtain⟨a,b⟩:=HN (c:={M.cl i with st:=.mA}) h.q h.w hc λZ h=>by cases h
  refine zk<|⟨⟨JI h.J! h.q hi,⟨a.nd,a.at_⟩,b,Cg (λZ=>?_) λhf=>by have hf:M.lu=Æ:=hf;rw[hS]at hf;cases hf⟩,?_⟩
  .refine ⟨λj hj=>?_,λj hj=>?_,(λZ Z e=>by cases e),(λe=>by cases e),λe=>by cases e⟩;.have hj:À i=À j:=hj;obtain rfl:=Ak hj;show(Ab M.cl i _ i).st=_/\_/\∀k' w' m',(Ab M.cl i _ i).cur=_->M.E! k'=Å;refine AJ▸?_;exact⟨Ä,Ä,λk' w' m' e=>by have e:(M.cl i).cur=_:=e;rw[hc]at e;cases e;exact ho⟩
   .have hj:(Ab M.cl i _ j).st=.mA:=hj;by_cases e:j=i;.exact Â À e.symm
    .rw[AT e]at hj;exact(h.nm j hj).elim
  .show DS (λj=>FU<|(M.L? k i).cl j)+1<_+TD M.E?;refine AA hs ?_;exact Ç.succ_lt_succ<|Px h.q hi
theorem CL:((M.after j k).cl j).st=.lr .G?/\((M.after j k).cl j).B?=(M.cl j).B?:=by obtain⟨now,room,cl,q,B!,B_,A?,hS,E?,mN⟩:=M;induction k with|B_=>show(Ab cl j _ j).st=_/\(Ab cl j _ j).B?=_;exact AA AJ ⟨Ä,Ä⟩|take=>
  rcases B! with _|⟨v,X⟩;.show (Ab cl j _ j).st=_/\(Ab cl j _ j).B?=_;exact AA AJ ⟨Ä,Ä⟩
  .show (Ab (Ab cl j _) j {Ab cl j _ j with st:=_} j).st=_/\(Ab (Ab cl j _) j {Ab cl j _ j with st:=_} j).B?=_;exact AA AJ<|AA AJ ⟨Ä,Ä⟩
theorem HY(Q:QW M)(W:WQ M)(hm:∀d,¬(M.cl j).st=.D_ d):QW (M.after j k)/\WQ (M.after j k):=⟨Nv Q<|Q.out hm,λi d hi=>by
  have e:¬i=j:=λe=>by rw[e,CL.1]at hi;exact nomatch hi
  rw[CB e]at hi⊢;exact AA Fj<|W i d hi⟩
theorem Kw(hm:2<cA (M.cl j).st):DS (λi=>FU<|(M.after j k).cl i)<DS λi=>FU<|M.cl i:=by refine P4 (i:=j) (λi hi=>by exact AA (CB hi)<|ä _) ?_;obtain⟨a,b⟩:=CL (M:=M) (j:=j) (k:=k);unfold FU;exact AA a<|AA b<|Θ hm _
theorem VN(hP:Ay P)(h:D2 P M)(hS:M.lu=Å)(hs:M.E?=.G!):D2 P M.n9/\weight M.n9<weight M:=by
 have z:=B0 h.kind hS;unfold AQ.n9;generalize ea:M.mN=zc;rcases zc with _|j;.exact I8 ⟨h.J!,h.q,h.w,λi hi=>by have:=z.m2 i hi;rw[ea]at this;cases this⟩ hS hs
 .x_go;obtain⟨hm,_,ho⟩:=z.m1 j ea;have st:=(h.J!.A! j).st;have hc:RE λk w m=>(M.cl j).cur=À (.call k w m):=by
   unfold Dv at st;replace st:=hm▸st;generalize e:(M.cl j).cur=zc;rcases zc with _|r;.rw[e]at st;exact st.elim
   .induction r with|rest x=>rw[e]at st;exact st.elim|call k w m=>exact⟨k,w,m,Ä⟩
  obtain⟨k,w,m,hc⟩:=hc;refine zk ?_;show D2 P (M.after j<|kindOf<|M.cl j).K!/\weight (M.after j<|kindOf<|M.cl j).K!<weight M;refine AA (show kindOf (M.cl j)=k by unfold kindOf;exact AA hc Ä)<|AG λZ zk=>?_;obtain⟨a,b⟩:=HY (k:=k) h.q h.w (j:=j) λd e=>by rw[hm]at e;exact nomatch e
  obtain⟨s1,s2,s3⟩:=Dq (M:=M) (i:=j) (k:=k);have nm:∀i,¬((M.after j k).cl i).st=.mA:=λi hi=>by
   by_cases e:i=j;.rw[e,CL.1]at hi;exact nomatch hi
   .replace hi:=CB e▸hi;have:=z.m2 i hi;rw[ea]at this;obtain rfl:=Ak this;exact e Ä
  obtain⟨x,y⟩:=I8 ⟨GH hP h.J! hm hc<|ho k w m hc,a,b,nm⟩ (s1.trans hS)<|s2.trans hs;refine zk<|⟨x,Ņ y ?_⟩;show _+TD _<_+TD _;refine AP s2 ?_;exact ŀ (Kw<|by exact AA hm<|ä _) _
end
section
variable{M N:AQ}{m:Í}
theorem S6:(N.mK i s).after i k=N.after i k:=by
 obtain⟨now,room,cl,q,B!,B_,A?,hS,E?,mN⟩:=N;have e:Ab (Ab cl i {cl i with st:=s}) i {Ab cl i {cl i with st:=s} i with st:=.lr .G?}=Ab cl i {cl i with st:=.lr .G?}:=by exact AA Bq<|AA AJ Ä
 induction k with|B_=>show AQ.mk now room (Ab (Ab cl i _) i {Ab cl i _ i with st:=_}) q (B!++[(Ab cl i _ i).ly]) (B_++[(Ab cl i _ i).ly]) A? hS E? mN=AQ.mk now room _ q (B!++[(cl i).ly]) (B_++[(cl i).ly]) A? hS E? mN;exact AA e<|AA AJ Ä|take=>
  rcases B! with _|⟨v,X⟩;.show AQ.mk now room (Ab (Ab cl i _) i {Ab cl i _ i with st:=_}) q [] B_ A? hS E? mN=AQ.mk now room _ q [] B_ A? hS E? mN;exact AA e Ä
  .show AQ.mk now room (Ab (Ab (Ab cl i _) i {Ab cl i _ i with ly:=v}) i {Ab (Ab cl i _) i {Ab cl i _ i with ly:=v} i with st:=_}) q X B_ (A?++[v]) hS E? mN=AQ.mk now room (Ab (Ab cl i _) i {Ab cl i _ i with st:=_}) q X B_ (A?++[v]) hS E? mN;exact AA AJ<|AA AJ<|AA AJ<|AA Bq<|AA Bq<|AA Bq Ä
theorem KQ:(N.after j .take).B!=N.B!.tail:=by obtain⟨now,room,cl,q,B!,B_,A?,hS,E?,mN⟩:=N;induction B!<;>rfl
theorem HZ:(N.after j k).mN=N.mN:=by obtain⟨now,room,cl,q,B!,B_,A?,hS,E?,mN⟩:=N;induction k with|B_=>rfl|take=>induction B!<;>rfl
theorem Dz(h:M.E! .B_=Æ):¬(M.B!.length:Í)<M.room:=ĳ h
theorem CY(h:M.E! .take=Æ):M.B!=[]:=by
 have h:(!M.B!.isEmpty)=Æ:=h;generalize e:M.B!=zc at h;rcases zc with _|⟨y,ys⟩;.rfl
 .exact JZ h
theorem EV(h:M.E! .take=Å):OB λy ys=>M.B!=y::ys:=by
 have h:(!M.B!.isEmpty)=Å:=h;generalize e:M.B!=zc at h;rcases zc with _|⟨y,ys⟩;.exact CN h
 .exact ⟨y,ys,Ä⟩
theorem Zb(h:¬k'=k):Df q k x k'=q k':=Ì h
theorem Xc(h:OQ N)(hr:∀k,(N.after i k).room=N.room)(ho:N.E! k=Å)(hk:¬k'=k)(hn:N.E! k'=Æ):OQ (((N.after i k).L? k' j).after j k'):=by
 intro k2 h2;refine AP Fj.symm ?_;show Df (N.after i k).q k' (Aj j<|(N.after i k).q k') k2=[];by_cases e:k2=k';.exfalso;subst e;induction k2 with
  |take=>induction k with|take=>exact hk Ä|B_=>have el:(((N.after i .B_).L? .take j).after j .take).B!=(N.B!++[(N.cl i).ly]).tail:=KQ;obtain⟨y,ys,e⟩:=EV h2;rw[el,CY hn]at e;exact nomatch e
  |B_=>induction k with|B_=>exact hk Ä|take=>have h2:(((N.after i .take).B!++[((N.after i .take).L? .B_ j).cl j|>.ly]).length:Í)<(N.after i .take).room:=Ù h2;rw[hr,KQ,Õ]at h2;obtain⟨y,ys,e⟩:=EV ho;refine Dz hn ?_;rw[e]at h2⊢;exact h2
 .refine AA (Zb e)<|AA Fj ?_;have e2:k2=k:=by induction k2<;>induction k<;>induction k'<;>first|rfl|exact(e Ä).elim|exact(hk Ä).elim
  exact AA e2<|h k ho
theorem UE(hr:Dh (M.cl i).st=Å)(mB:(M.cl i).B?=row::rest)(hs:cA s<=4):FU (Di M.now (M.cl i) row rest s)+2<FU (M.cl i):=by have:=(CU hr).2.2.2;show 8*rest.length+cA s+2<8*(M.cl i).B?.length+_;refine AA mB<|AA ę ?_;lia
theorem VQ(hP:Ay P)(h:D2 P M)(hS:M.lu=Æ)(hr:Dh (M.cl i).st=Å)(mB:(M.cl i).B?=.call k w m::rest)(ho:M.E! k=Å):D2 P (((M.I_ i).pop i (.call k w m) rest).after i k).more/\weight (((M.I_ i).pop i (.call k w m) rest).after i k).more<weight M/\∀j,¬j=i->AV (M.cl j).st=Æ->AV (((((M.I_ i).pop i (.call k w m) rest).after i k).more).cl j).st=Æ:=by
 rw[<-S6 (s:=.mA)];refine AA Dl ?_;generalize ec:Di M.now (M.cl i) (.call k w m) rest .mA=c;have u9:c.st=.mA:=by subst ec;rfl
 have so:c.cur=À (.call k w m):=by subst ec;rfl
 x_go;obtain⟨r1,r2,r3,_⟩:=CU hr;have z:=D0 h.kind hS;have st:Dv M.now (Di M.now (M.cl i) (.call k w m) rest .mA):=by show mf w .G?<|M.now-M.now;exact AA (Í.sub_self ..)<|VY<|E2 h mB
 have Y!:=h.J!.row hr mB st (λZ=>Ä) Ä;have w0:=Za (M:=M) (i:=i) (n:=0)<|Ò (ë _ 2) (UE (s:=.mA) hr mB<|by decide);rw[ec]at Y! w0;obtain⟨q0,v0⟩:=Gg h.q h.w r1 (c:=c) λZ h=>by rw[u9]at h;cases h
 refine zk ?_;generalize eN:({M with cl:=Ab M.cl i c}:AQ)=N;have ei:N.cl i=c:=by subst eN;exact AJ
 have en:∀j,¬j=i->N.cl j=M.cl j:=λj hj=>by subst eN;exact AT hj
 have Y!:CP P N:=by subst eN;exact Y!
 have w0:DS (λj=>FU<|N.cl j)<DS λj=>FU<|M.cl j:=by subst eN;exact w0
 have q0:QW N:=AP eN q0;have v0:WQ N:=AP eN v0;have f0:N.lu=Æ/\N.E?=.G!/\N.mN=È/\OQ N/\N.E! k=Å:=by subst eN;exact⟨hS,z.rd,z.na,z.oq,ho⟩
 clear eN;x_go;obtain⟨f1,f2,f3,f4,f5⟩:=f0;have sD:=GH hP Y! (AA ei u9) (AA ei so) f5;obtain⟨qA,vA⟩:=HY (k:=k) q0 v0 (j:=i) λd e=>by rw[ei,u9]at e;cases e
 obtain⟨s1,s2,s3⟩:=Dq (M:=N) (i:=i) (k:=k);have wz:∀j,¬((N.after i k).cl j).st=.mA:=λj hj=>by
  by_cases e:j=i;.rw[e,CL.1]at hj;cases hj
  .rw[CB e,en j e]at hj;exact z.nm j hj
 have wA:DS (λj=>FU<|(N.after i k).cl j)<DS λj=>FU<|M.cl j:=Ņ (Kw<|by exact AA ei<|AA u9<|ä _) w0;have wS:TD N.E?=TD M.E?:=by exact AA f2<|AA z.rd Ä
 refine zk ?_;generalize eA:(N.after i k).next=zc;rcases zc with _|p
 .have em:(N.after i k).more=N.after i k:=by unfold AQ.more;exact AA eA Ä
  refine AA em ⟨⟨sD,qA,vA,Cg (λe=>by rw[s1,f1]at e;cases e) λZ=>⟨Ip eA,wz,HZ.trans f3,s2.trans f2⟩⟩,?_,λj hj hc=>by exact AA (CB hj)<|AA (en j hj) hc⟩;show _+TD _<_+_;exact AA s2<|AA wS<|ŀ wA _
 .x_go;obtain⟨k',j⟩:=p;refine zk ?_;have em:(N.after i k).more=((N.after i k).L? k' j).after j k':=by unfold AQ.more;exact AA eA Ä
  refine AA em<|AG λZ zk=>?_;obtain⟨nY,r,hq⟩:=Io eA;have hj:j∈(N.after i k).q k':=AA hq<|.head _;obtain⟨d,w',m',mu,hc⟩:=qA.at_ k' j hj;have hn:N.E! k'=Æ:=by
   generalize e:N.E! k'=zc;rcases zc with _|_;.rfl
   .have:=f4 k' e;rw[Fj,this]at hj;cases hj
  have hk:¬k'=k:=λe=>by rw[e,f5]at hn;exact JZ hn
  have uy:((N.after i k).L? k' j).cl j={(N.after i k).cl j with st:=.mA}:=AJ;have uN:=GH (M:=(N.after i k).L? k' j) hP (JI sD qA hj) (by exact AA uy Ä) (by exact AA uy hc) nY;obtain⟨qS,vS⟩:=HN (c:={(N.after i k).cl j with st:=.mA}) qA vA hc λZ h=>by cases h
  obtain⟨qB,vB⟩:=HY (M:=(N.after i k).L? k' j) (k:=k') (j:=j) ⟨qS.nd,qS.at_⟩ vS λd e=>by rw[uy]at e;cases e
  obtain⟨t1,t2,t3⟩:=Dq (M:=(N.after i k).L? k' j) (i:=j) (k:=k');refine zk<|⟨⟨uN,qB,vB,Cg (λe=>by rw[t1]at e;have e:(N.after i k).lu=Å:=e;rw[s1,f1]at e;cases e) λZ=>⟨Xc f4 (λk=>Dq.2.2) f5 hk hn,λh hh=>?_,HZ.trans<|HZ.trans f3,t2.trans<|s2.trans f2⟩⟩,?_,λh hh hc=>?_⟩
  .by_cases e:h=j;.rw[e,CL.1]at hh;cases hh
   .rw[CB e]at hh;have hh:(Ab (N.after i k).cl j _ h).st=.mA:=hh;rw[AT e]at hh;exact wz h hh
  .show _+TD _<_+_;refine AA t2<|AA (show((N.after i k).L? k' j).E?=(N.after i k).E? from Ä)<|AA s2<|AA wS<|ŀ (Ņ (Kw<|by exact AA uy<|ä _)<|Ņ (Px qA hj) wA) _
  .by_cases e:h=j;.exact AA e<|AA CL.1 Ä
   .refine AA (CB e) ?_;show AV (Ab (N.after i k).cl j _ h).st=Æ;exact AA (AT e)<|AA (CB hh)<|AA (en h hh) hc
end
def Pm(P:Dc)(M M':AQ)(i:I3):Prop:=D2 P M'/\weight M'<weight M/\∀j,¬j=i->AV (M.cl j).st=Æ->AV (M'.cl j).st=Æ
section
variable{M N:AQ}{m x:Í}
theorem GS(n:Ç)(h:D2 P M')(hc:M'.cl=Ab M.cl i c)(hw:FU c+n<FU (M.cl i))(hs:TD M'.E?<=TD M.E?+n):Pm P M M' i:=by refine⟨h,?_,λj hj h=>by exact AA hc<|AA (AT hj) h⟩;show DS (λj=>FU<|M'.cl j)+_<_;refine AA hc ?_;refine Ò (Ď hs _) ?_;rw[θ<|TD M.E?,<-ħ];exact ŀ (Za hw) _
theorem Oj(hr:Dh (M.cl i).st=Å)(mB:(M.cl i).B?=row::rest)(hs:cA s<=4):FU (Di M.now (M.cl i) row rest s)<FU (M.cl i):=Ò (ë _ 2)<|UE hr mB hs
theorem QZ(h:D2 P M)(hr:Dh (M.cl i).st=Å)(mB:(M.cl i).B?=.call k w m::rest)(pD:(M.lu=Æ\/OB λp t=>M.E?=.lx p t)->M.E! k=Æ):Pm P M (((M.I_ i).pop i (.call k w m) rest).ask i k w) i:=by
 by_cases hw:w=.mr;.subst hw;show Pm P M (((M.I_ i).pop i (.call k .mr m) rest).mK i<|.lr .I!) i;refine GS (c:=Di M.now (M.cl i) (.call k .mr m) rest<|.lr .I!) 0 (Kb h hr mB ?_ (λZ=>Ä) Ä (λZ h=>by cases h) λh=>by cases h) (Â AQ.cl Dl) (Oj hr mB<|by decide)<|ä _;exact⟨Ä,Í.sub_self _⟩
 .have e:((M.I_ i).pop i (.call k w m) rest).ask i k w=((M.I_ i).pop i (.call k w m) rest).Z_ i k (w.dl M.now):=by induction w with|mr=>exact(hw Ä).elim|_=>rfl
  exact AA e (GS (c:=Di M.now (M.cl i) (.call k w m) rest<|.D_<|w.dl M.now) 0 (VM h hr mB hw pD) (Â AQ.cl (Dl (s:=.D_<|w.dl M.now))) (Oj hr mB<|ä _)<|ä _)
theorem NE(h:D2 P M)(hr:Dh (M.cl i).st=Å)(mB:(M.cl i).B?=.rest x::rest):Pm P M (((M.I_ i).pop i (.rest x) rest).mK i<|.mF<|M.now+mx x) i:=by have hx:0<x:=E2 h mB;refine GS (c:=Di M.now (M.cl i) (.rest x) rest<|.mF<|M.now+mx x) 0 (Kb h hr mB ?_ (λZ=>Ä) Ä (λZ h=>by cases h) λh=>by cases h) (Â AQ.cl Dl) (Oj hr mB<|ä _)<|ä _;show M.now<M.now+mx x;exact AP (LL hx).symm<|Í.lt_add_of_pos_right _ hx
theorem RY(z:N0 M)(h:M.mT k=Æ):(OB λp t=>M.E?=.lx p t)->M.E! k=Æ:=λ⟨p,t,e⟩=>by obtain⟨hp,ht,_⟩:=z.acc p t e;unfold AQ.mT at h;replace h:=e▸h;induction k with|B_=>exact AP hp<|h|take=>exact AP ht<|h
theorem VS(hP:Ay P)(h:D2 P M)(hr:Dh (M.cl i).st=Å):Pm P M (M.go i) i:=by
 unfold AQ.go;generalize mB:(M.cl i).B?=zc;rcases zc with _|⟨row,rest⟩;.refine GS (c:={Az M.now (M.cl i)with st:=.mE}) 0 (VO h hr mB) (Â AQ.cl MM) ?_<|ä _;have er:(Az M.now<|M.cl i).B?=(M.cl i).B?:=Cq.1;show 8*(Az M.now<|M.cl i).B?.length+1<8*(M.cl i).B?.length+_;exact AP er<|Θ (CU hr).2.2.2 _
 .dsimp only;generalize hS:M.lu=zc;rcases zc with _|_;.dsimp only[cond];induction row with|rest x=>exact NE h hr mB|call k w m=>
    show Pm P M (bif M.E! k then _ else _) i;generalize ho:M.E! k=zc;rcases zc with _|_;.exact QZ h hr mB λZ=>ho
    .exact VQ hP h hS hr mB ho
  .dsimp only[cond];induction row with|rest x=>exact NE h hr mB|call k w m=>
    show Pm P M (bif M.mT k then _ else _) i;generalize mu:M.mT k=zc;rcases zc with _|_;.exact QZ h hr mB λq=>RY (B0 h.kind hS) mu<|q.resolve_left λe=>by rw[hS]at e;cases e
    .exact GS (c:=Di M.now (M.cl i) (.call k w m) rest .mA) 1 (SX h hS hr mB mu) (Â AQ.cl (Dl (s:=.mA))) (Ç.lt_of_succ_lt (UE (s:=.mA) hr mB<|by decide))<|ÿ _ _
end
section
variable{M N:AQ}{x:Í}
theorem Vx{d:Ã Í}(h:(GG c).st=.D_ d):c.st=.D_ d:=by obtain⟨st,B?,cur,E_,ly,lr⟩:=c;cases st<;>first|exact h|cases h
theorem NW(h:(GG c).st=.mA):c.st=.mA:=by obtain⟨st,B?,cur,E_,ly,lr⟩:=c;cases st<;>first|exact h|cases h
theorem Vy(h:AV c.st=Æ):GG c=c:=by obtain⟨st,B?,cur,E_,ly,lr⟩:=c;cases st<;>first|rfl|cases h
theorem T2(h:D2 P M)(hP:Ay P)(z:N0 M){p t:Ë}(e:M.E?=.lx p t):(p||t)=Å:=by
 obtain⟨hp,ht,_⟩:=z.acc p t e;generalize q:M.E! .B_=zc;rcases zc with _|_
 .have a:=Dz q;have:M.E! .take=Å:=by
   generalize e:M.E! .take=zc;rcases zc with _|_;.rw[CY e,h.J!.rm]at a;exact(a hP.room.1).elim
   .rfl
  refine AA ht<|AA this ?_;induction p<;>rfl
 .exact AA hp<|AA q Ä
theorem NG(h:D2 P M):D2 P M.ends:=by
 refine⟨So h.J!,⟨h.q.nd,λk i hi=>?_⟩,λi d hi=>?_,Cg (λhS=>?_) λhS=>?_⟩;.obtain ⟨d,w,m,a,b⟩:=h.q.at_ k i hi;exact⟨d,w,m,by show(M.cl i).st.K_=_;exact AA a Ä,b⟩
 .exact h.w i d<|Vx hi
 .have z:=B0 h.kind hS;refine⟨λj hj=>?_,λj hj=>z.m2 j<|NW hj,z.acc,λe i=>?_,z.nc⟩;.obtain ⟨a,b,c⟩:=z.m1 j hj;exact⟨by show(M.cl j).st.K_=_;exact AA a Ä,b,c⟩
  .show (M.cl i).st.K_=_;exact AA (z.dn e i) Ä
 .have z:=D0 h.kind hS;exact⟨z.oq,λi hi=>z.nm i<|NW hi,z.na,z.rd⟩
theorem IJ(h:CJ s=Å):s=.done:=by cases s<;>first|rfl|cases h
theorem JS(h:M.mX=Å)(i:I3):(M.cl i).st=.done:=by obtain⟨a,b⟩:=S7 h;obtain⟨a,c⟩:=S7 a;exact NK (P:=λi=>(M.cl i).st=.done) (IJ a) (IJ c) (IJ b) i
theorem VP(h:D2 P M):D2 P M.mv/\weight M.mv<=weight M:=by unfold AQ.mv;cases e:M.lu&&M.mX&&Fw M.E? with|false=>exact⟨h,ä _⟩|true=>
  x_go;obtain⟨a,b⟩:=S7 e;obtain⟨hS,ad⟩:=S7 a;have z:=B0 h.kind hS;have no:∀j,¬M.mN=À j:=λj hj=>by have:=(z.m1 j hj).1;rw[JS ad j]at this;exact nomatch this
  refine zk<|⟨⟨h.J!,⟨h.q.nd,h.q.at_⟩,h.w,Cg (λZ=>⟨λj hj=>(no j hj).elim,z.m2,(λZ Z e=>by cases e),λZ=>JS ad,λe=>by cases e⟩) λe=>by have e:M.lu=Æ:=e;rw[hS]at e;cases e⟩,?_⟩;exact Ď (è _) _
theorem fX:FU (GG c)<=FU c:=by obtain⟨st,B?,cur,E_,ly,lr⟩:=c;induction st<;>first|exact ä _|exact Ģ _
theorem CK(h:D2 P M):D2 P M.settle/\weight M.settle<=weight M:=by obtain⟨a,b⟩:=VP<|NG h;exact⟨a,Ñ b<|ü (P5 λZ=>fX) _⟩
def gR(M:AQ):Prop:=∀i j,AV (M.cl i).st=Å->¬j=i->AV (M.cl j).st=Æ
theorem Xl(h:CP P M):Po M:=λi d hd=>by
 have st:=(h.A! i).st;unfold Dv at st;rw[hd]at st;x_go;generalize e:(M.cl i).cur=zc;rcases zc with _|r;.rw[e]at st;exact st.elim
 .induction r with|rest x=>rw[e]at st;exact st.elim|call k w m=>refine zk ?_;rw[e]at st;exact Í.not_le.mpr<|st.2.2.2 d Ä
theorem Zm(hP:Ay P)(h:D2 P M):N6 M:=by
 have nc:M.lu=Å->(M.E?.str=="completed")=Æ:=λhS=>by have:=(B0 h.kind hS).nc;generalize e:M.E?=zc;induction zc with|mE=>exact(this e).elim|_=>kernel_rfl
 refine⟨?_,λhS=>?_,λhS ad ia=>?_⟩
 .generalize hS:M.lu=zc;rcases zc with _|_;.refine AA (D0 h.kind hS).rd ?_;kernel_rfl
  .exact nc hS
 .have z:=B0 h.kind hS;generalize e:M.E?=zc;induction zc with|G!=>exact .inl Þ|lx p t=>exact .inl<|T2 h hP z e|mE=>exact(z.nc e).elim|done=>exact .inr ⟨Ä,by unfold AQ.mX;exact AA (z.dn e ..)<|AA (z.dn e ..)<|AA (z.dn e ..) Ä⟩
 .have z:=B0 h.kind hS;refine⟨λk=>?_,?_⟩
  .generalize e:M.q k=zc;rcases zc with _|⟨i,r⟩;.rfl
   .x_go;obtain⟨d,w,m,a,_⟩:=h.q.at_ k i<|AA e<|.head _;rw[JS ad i]at a;exact nomatch a
  .generalize e:M.mN=zc;rcases zc with _|j;.rfl
   .rw[(z.m1 j e).2.1]at ia;exact CN ia
theorem QC(hP:Ay P)(h:D2 P M)(o:gR M):JV M:=⟨o,Zm hP<|NG h,Xl (CK h).1.J!⟩
end
section
variable{M N:AQ}{x:Í}
theorem Gi{a b:Ã Í}(h:FD a b=À x):(∀y,a=À y->x<=y)/\(∀y,b=À y->x<=y)/\(a=À x\/b=À x):=by
 have Fl:∀{z y:Í},À z=À y->z<=y:=λ{z y}e=>by cases e;exact Ā _
 rcases b with _|z;.have h:a=À x:=h;exact⟨λy e=>Fl<|h.symm.trans e,λy e=>(nomatch e),.inl h⟩
 .cases a with|none=>exact⟨λy e=>(nomatch e),λy e=>Fl<|h.symm.trans e,.inr h⟩|some y=>
   have h:(if z<y then À z else À y)=À x:=h;by_cases q:z<y;.rw[Î q]at h;obtain rfl:=Ak h;exact⟨λu e=>č (į q)<|Fl e,λu e=>Fl e,.inr Ä⟩
   .rw[Ì q]at h;obtain rfl:=Ak h;exact⟨λu e=>Fl e,λu e=>č (Í.not_lt.mp q)<|Fl e,.inl Ä⟩
theorem Gj{a b:Ã Í}(h:FD a b=È):a=È/\b=È:=by
 rcases b with _|z;.exact ⟨h,Ä⟩
 .rcases a with _|y;.exact GO h
  .have h:(if z<y then À z else À y)=È:=h;by_cases q:z<y;.rw[Î q]at h;exact GO h
   .rw[Ì q]at h;exact GO h
theorem OL(h:M.mj=È)(i:I3):(M.cl i).st.wk=È:=by obtain⟨a,c⟩:=Gj h;obtain⟨a,b⟩:=Gj a;obtain⟨_,a⟩:=Gj a;match i with|0=>exact a|1=>exact b|2=>exact c
theorem OK(h:M.mj=À x):(∀i d,(M.cl i).st.wk=À d->x<=d)/\∃i,(M.cl i).st.wk=À x:=by
 obtain⟨a,b,c⟩:=Gi h;have key:∀{u v:Ã Í}{x:Í},(∀y,FD u v=À y->x<=y)->∀y,u=À y\/v=À y->x<=y:=λ{u v x}g y e=>by
  generalize q:FD u v=zc;rcases zc with _|z;.obtain ⟨a,b⟩:=Gj q;rcases e with e|e<;>(first|rw[a]at e|rw[b]at e)<;>cases e
  .obtain ⟨s1,s2,_⟩:=Gi q;exact č (g z q)<|e.elim (s1 y)<|s2 y
 have a1:=key a;have a0:∀y,(M.cl 0).st.wk=À y->x<=y:=λy e=>a1 y (.inl<|by exact AA e Ä);refine⟨NK (P:=λi=>∀d,(M.cl i).st.wk=À d->x<=d) a0 (λd e=>a1 d<|.inr e) b,?_⟩
 .rcases c with c|c
  .rcases (Gi c).2.2 with c|c
   .rcases (Gi c).2.2 with c|c;.exact AY c
    .exact ⟨0,c⟩
   .exact ⟨1,c⟩
  .exact ⟨2,c⟩
theorem E6(h:CQ F M=[]):(∀i,Dh (M.cl i).st=Æ)/\(M.lu=Å->UC M.E?=Æ):=by
 x_go;obtain⟨a,d⟩:=be h;obtain⟨a,c⟩:=be a;obtain⟨a,b⟩:=be a;refine zk ?_;have key:∀{b:Ë}{v:V},Au b v=[]->b=Æ:=λ{b v}e=>by cases b<;>first|rfl|cases e
 refine⟨λi=>?_,λhS=>?_⟩;.match i with|0=>exact key a|1=>exact key b|2=>exact key c
 .rw[hS]at d;generalize e:UC M.E?=zc at d;rcases zc with _|_;.rfl
  .cases d
theorem UM(h:Dh (M.cl i).st=Å):CQ F M≠[]:=λe=>by have:=(E6 e).1 i;rw[h]at this;exact JZ this
theorem NJ(h:D2 P M)(nc:∀i,AV (M.cl i).st=Æ)(e:CQ F M=[])(i:I3):bu (M.cl i).st:=by
 obtain⟨r,rs⟩:=E6 e;have nm:¬(M.cl i).st=.mA:=λhm=>by
  generalize hS:M.lu=zc;rcases zc with _|_;.exact (D0 h.kind hS).nm i hm
  .have z:=B0 h.kind hS;have a:=(z.m1 i<|z.m2 i hm).2.1;have b:=rs hS;rw[a]at b;exact JZ b
 have a:=r i;have b:=nc i;generalize q:(M.cl i).st=zc;induction zc with|mF _=>trivial|D_ _=>trivial|done=>trivial|mA=>exact nm q|mE=>rw[q]at b;exact JZ b|_=>rw[q]at a;exact JZ a
theorem bN:(FL x c).st=c.st\/(FL x c).st=.mO\/(FL x c).st=.lr .mP:=Eg (P:=λ(c':Cl) (_:Η)=>c'.st=c.st\/c'.st=.mO\/c'.st=.lr .mP) (a':=()) (r':=()) (l':=λZ=>()) (.inl Ä) (λZ Z Z=>.inr<|.inl Ä) λZ Z Z Z Z Z Z=>.inr<|.inr Ä
theorem V4(h1:¬(FL x c).st=.mO)(h2:¬(FL x c).st=.lr .mP):(FL x c).st=c.st:=by
 rcases bN (x:=x) (c:=c)with e|e|e;.exact e
 .exact (h1 e).elim
 .exact (h2 e).elim
theorem fh:FU (FL x c)<=FU c:=Eg (P:=λ(c':Cl) (_:Η)=>FU c'<=FU c) (a':=()) (r':=()) (l':=λZ=>()) (ä _) (λZ e Z=>by unfold FU;exact AA e<|ë _ 2) λZ Z Z Z e Z Z=>by unfold FU;exact AA e<|ë _ 2
structure bh(P:Dc)(F:Fx)(M M':AQ):Prop where
 R?:D2 P M'
 w:weight M'<=weight M
 nc:∀i,AV (M'.cl i).st=Æ
 rd:∃i,Dh (M'.cl i).st=Å
theorem NF(h:D2 P M)(nc:∀i,AV (M.cl i).st=Æ)(e:CQ F M=[])(hx:M.mj=À x):bh P F M (M.to x).mn:=by
 obtain⟨le,i,hi⟩:=OK hx;have R_:=NJ h nc e;have lt:M.now<x:=by have st:=(h.J!.A! i).st;unfold Dv at st;generalize q:(M.cl i).st=zc;induction zc with
  |mF d=>
   rw[q]at hi st;obtain rfl:=Ak hi;generalize q2:(M.cl i).cur=zc;rcases zc with _|r;.rw[q2]at st;exact st.elim
   .cases r<;>rw[q2]at st<;>first|exact st|exact st.elim
  |D_ d=>
   rw[q]at hi st;generalize q2:(M.cl i).cur=zc;rcases zc with _|r;.rw[q2]at st;exact st.elim
   .cases r<;>rw[q2]at st<;>first|exact st.2.2.2 x hi|exact st.elim
  |_=>rw[q]at hi;exact AY hi
 have D:=Lr (M:=M.to x);have en:(M.to x).now=x:=Î lt;have vE:∀i,(M.to x).mn.cl i=FL x (M.cl i):=λi=>by exact AA (D.cl ..)<|AA (en ..) Ä
 have keep:∀i{s:Ev},((M.to x).mn.cl i).st=s->¬s=.mO->¬s=.lr .mP->(M.cl i).st=s:=λi s q a b=>by rw[vE]at q;exact AP (V4 (x:=x) (λe=>a<|AP q e) λe=>b<|AP q e) q
 obtain⟨Q1,W1⟩:=Gx (i:=0) (M:=M.to x) ⟨h.q.nd,h.q.at_⟩ h.w;obtain⟨Q2,W2⟩:=Gx (i:=1) Q1 W1;obtain⟨Q3,W3⟩:=Gx (i:=2) Q2 W2;have op:∀k,(M.to x).mn.E! k=M.E! k:=λk=>by induction k<;>(unfold AQ.E!;exact AA D.B!<|AA D.room Ä)
 have oq:OQ M->OQ (M.to x).mn:=λg k hk=>D.q k<|g k<|by exact AP (op ..) hk
 have nm:∀i,¬((M.to x).mn.cl i).st=.mA:=λi q=>by have:=R_ i;rw[keep i q (λe=>by cases e) λe=>by cases e]at this;exact this
 refine⟨⟨Sp h.J! R_ lt le,Q3,W3,Cg (λhS=>?_) λhS=>?_⟩,?_,λi=>?_,i,?_⟩
 .have hS:M.lu=Å:=D.hS.symm.trans hS;have z:=B0 h.kind hS;have nr:=(E6 e).2 hS;have an:∀j,¬M.mN=À j:=λj hj=>by rw[(z.m1 j hj).2.1]at nr;exact JZ nr
  refine⟨λj hj=>?_,λj hj=>(nm j hj).elim,λp t q=>?_,λq i=>?_,λq=>?_⟩;.rw[D.mN]at hj;exact(an j hj).elim
  .rw[D.E?]at q;obtain⟨a,b,c⟩:=z.acc p t q;exact AA (op ..)<|AA (op ..) ⟨a,b,oq c⟩
  .rw[D.E?]at q;have d:=z.dn q i;refine AA (vE ..) ?_;rw[Yc (λZ q=>by rw[d]at q;cases q) λZ Z Z Z q=>by rw[d]at q;cases q];exact d
  .rw[D.E?]at q;exact z.nc q
 .have hS:M.lu=Æ:=D.hS.symm.trans hS;have z:=D0 h.kind hS;exact⟨oq z.oq,nm,D.mN.trans z.na,D.E?.trans z.rd⟩
 .unfold weight;exact AA D.E?<|ü (P5 λi=>by refine AA (vE ..) ?_;exact fh) _
 .generalize q:AV ((M.to x).mn.cl i).st=zc;rcases zc with _|_;.rfl
  .have q2:((M.to x).mn.cl i).st=.mE:=by cases q3:((M.to x).mn.cl i).st<;>rw[q3]at q<;>first|rfl|cases q
   have:=nc i;rw[keep i q2 (λe=>by cases e) λe=>by cases e]at this;exact JZ this
 .refine AA (vE ..) ?_;generalize q:(M.cl i).st=zc;induction zc with|mF d=>rw[q]at hi;cases hi;refine AA (Ko q ..) ?_;rw[Î<|Ā _];rfl|D_ d=>rw[q]at hi;have hi:d=À x:=hi;obtain⟨k,w,m,hc,_⟩:=h.w i d q;refine AA (Kn (q.trans<|by exact AA hi Ä) hc) ?_;rw[Î<|Ā _];rfl|_=>rw[q]at hi;exact AY hi
end
section
variable{x:Í}
theorem Oy(nc:∀i,AV (M.cl i).st=Æ):gR M:=λZ Z Z Z=>nc _
theorem Md(hP:Ay P)(h:D2 P M)(o:gR M):RC F M:=by
 have s:=(CK h).1;refine⟨QC hP h o,s.q,s.w,λx e hx=>?_⟩;have p:=NF (F:=F) s Bl e hx;have t:=(CK p.R?).1;refine⟨QC hP p.R?<|Oy p.nc,t.q,t.w,?_⟩;obtain⟨i,hi⟩:=p.rd;refine UM (i:=i) ?_;have e2:(M.settle.to x).mn.settle.cl i=GG ((M.settle.to x).mn.cl i):=by unfold AQ.settle;exact AA QA Ä
 exact AA e2<|AA (Vy<|p.nc i) hi
theorem Mn(h:D2 P M)(nx:br F M M'):D2 P M'/\weight M'<=weight M/\∀i,AV (M'.cl i).st=Æ:=by
 x_go;obtain⟨s,w⟩:=CK h;rcases nx with rfl|⟨e,y,hy,rfl⟩;.exact zk<|⟨s,w,Bl⟩
 .have p:=NF (F:=F) s Bl e hy;obtain⟨a,b⟩:=CK p.R?;exact zk<|⟨a,Ñ b<|Ñ p.w w,Bl⟩
theorem MG(l:Á Ah):EY l<=l.length:=by induction l with|nil=>exact ä _|cons y r ih=>induction y with|rest x=>exact ő ih|call k w m=>exact ú ih
theorem Vc:(BQ c).length<=c.lr.length+D7 c.st:=by unfold BQ;refine AA Õ<|î (Ť _ _) ?_;induction c.st with
 |lr a=>induction a<;>first|exact ä _|exact è _
 |_=>exact è _
theorem Pk(hP:Ay P)(h:CP P M)(i:I3):(M.cl i).lr.length+D7 (M.cl i).st<=4:=Ñ (ë _ _)<|AP (h.A! i).cnt<|Ñ (MG _)<|hP.len i
theorem EG(hP:Ay P)(h:CP P M)(i:I3):(C2 P M.cl i).length<=4:=by unfold C2;induction P.kd i with|B_=>exact è _|take=>exact Ñ Vc<|Pk hP h i
theorem J6(hP:Ay P)(h:CP P M):M.B!.length<G_/\M.B_.length<G_/\M.A?.length<G_:=by
 have l3:M.B!.length<=3:=by have:=h.ll;rw[h.rm]at this;exact Í.ofNat_le.mp<|č this hP.room.2
 have t:M.A?.length<=12:=by exact AA h.perm.length_eq<|AA Õ<|AA Õ<|î (EG hP h 0)<|î (EG hP h 1)<|EG hP h 2
 have p:M.B_.length<=12+3:=by exact AA h.pt<|AA Õ<|î t l3
 exact⟨Ò l3<|by decide,Ò p<|by decide,Ò t<|by decide⟩
theorem Tl(hP:Ay P)(h:CP P M)(i:I3):(M.cl i).lr.length<G_:=Ò (Ñ (ë _ _)<|Pk hP h i)<|by decide
theorem Xg(h:CP P M)(hr:Dh (M.cl i).st=Å):CX (AM<|M.cl i):=by
 rcases J9 (h.A! i).st hr with⟨_,_,n⟩|⟨k,w,m,a,hc,hs,_⟩
 .have st:=(h.A! i).st;unfold Dv at st;show match(M.cl i).cur with|À (.call _ _ _)=>∃a,(M.cl i).st=.lr a|_=>Ŀ;generalize e:(M.cl i).cur=zc;rcases zc with _|r;.trivial
  .induction r with|rest x=>trivial|call k w m=>rw[e]at st;generalize q:(M.cl i).st=zc;induction zc with|lr a=>exact⟨a,Ä⟩|fresh=>rw[q]at st;exact st.elim|mO=>rw[q]at st;exact st.elim|_=>rw[q]at hr;exact CN hr
 .show match(M.cl i).cur with|À (.call _ _ _)=>∃a,(M.cl i).st=.lr a|_=>Ŀ;exact AA hc ⟨a,hs⟩
theorem QE(Q:QW M)(k:Kd):(M.q k).length<G_:=Ò (Xv<|Q.nd k)<|by decide
end
section
variable{n:Ç}
theorem Wp(hP:Ay P)(h:D2 P M)(r:BA F tail n M s)(hr:Dh (M.cl i).st=Å)(yH:M.lu=Å->sv=Ai F.nM):Aa (AK TT 17 (.fn "_law_goes") (A4 F i M.lu sv) s) (.ok .none) (BA F tail n<|M.go i) s.A!:=by
 have ok:=Xg h.J! hr;have hl:=Tl hP h.J! i;obtain⟨l1,l2,l3⟩:=J6 hP h.J!;have hi:=h.q.out (CU hr).1;unfold AQ.go;generalize hS:M.lu=zc;rcases zc with _|_
 .have z:=D0 h.kind hS;have h0:0<M.room:=by exact AA h.J!.rm<|hP.room.1
  have g:bv F tail n M i s:=⟨hS,r,hr,ok,hl,z.oq,h.q,hi,h.J!.ll,h0,l1,l2,l3⟩;generalize mB:(M.cl i).B?=zc;rcases zc with _|⟨row,rest⟩;.exact RK hS r hr ok hl mB
  .induction row with|rest x=>exact OS (E2 h mB) hS r hr ok hl mB|call k w m=>
    show Aa _ _ (BA F tail n<|bif M.E! k then _ else _) _;generalize ho:M.E! k=zc;rcases zc with _|_;.induction w with|mr=>exact Jb ho z.oq h0 hS r hr ok hl mB|no=>exact IP (w:=.no) Þ hi z.na (QE h.q k) ho z.oq h0 hS r hr ok hl mB|num x=>exact IP (w:=.num x) (E2 h mB).2 hi z.na (QE h.q k) ho z.oq h0 hS r hr ok hl mB
    .induction k with|B_=>
      have hp:(M.B!.length:Í)<M.room:=Ù ho;have qp:=z.oq .B_ ho;generalize qt:M.q .take=zc;rcases zc with _|⟨j,r⟩;.exact RJ g mB hp λk=>by induction k<;>assumption
      .refine RI g mB (CY ?_) qp qt;generalize e:M.E! .take=zc;rcases zc with _|_;.rfl
       .have:=z.oq .take e;rw[qt]at this;exact nomatch this|take=>
      obtain⟨y,ys,hy⟩:=EV ho;have qt:=z.oq .take ho;generalize qp:M.q .B_=zc;rcases zc with _|⟨j,r⟩;.exact OP g mB hy λk=>by induction k<;>assumption
      .exact OO g mB hy qt qp
 .refine AA (yH hS) ?_;have z:=B0 h.kind hS;have up:Wi M.E?:=by generalize e:M.E?=zc;induction zc with|G!=>trivial|lx p t=>exact T2 h hP z e|mE=>exact z.nc e|done=>exact(CU hr).2.2.1<|z.dn e i
  generalize mB:(M.cl i).B?=zc;rcases zc with _|⟨row,rest⟩;.exact RM hS r hr ok hl mB
  .induction row with|rest x=>exact OT (E2 h mB) hS r hr ok hl mB|call k w m=>
    show Aa _ _ (BA F tail n<|bif M.mT k then _ else _) _;generalize mu:M.mT k=zc;rcases zc with _|_;.induction w with|mr=>exact Jc up mu hS r hr ok hl mB|no=>exact IQ (w:=.no) Þ hi (λe=>(CU hr).2.1 (z.m1 i e).1) (QE h.q k) up mu hS r hr ok hl mB|num x=>exact IQ (w:=.num x) (E2 h mB).2 hi (λe=>(CU hr).2.1 (z.m1 i e).1) (QE h.q k) up mu hS r hr ok hl mB
    .have ha:M.mN=È:=by
      generalize e:M.mN=zc;rcases zc with _|j;.rfl
      .unfold AQ.mT at mu;rw[(z.m1 j e).2.1]at mu;exact CN mu
     exact MI hi ha mu hS r hr ok hl mB
theorem RH(hP:Ay P)(h:D2 P M)(hS:M.lu=Å)(hs:M.E?=.G!)(r:BA F tail n M s):Aa (AK TT 17 (.fn "_law_tend") (DR F) s) (.ok .none) (BA F tail n M.n9) s.A!:=by
 have h0:0<M.room:=by exact AA h.J!.rm hP.room.1
 x_go;obtain⟨l1,l2,l3⟩:=J6 hP h.J!;have z:=B0 h.kind hS;refine zk ?_;unfold AQ.n9;generalize ha:M.mN=zc;rcases zc with _|j;.exact ON h.q h0 hs hS ha r
 .x_go;obtain⟨hm,_,ho⟩:=z.m1 j ha;have st:=(h.J!.A! j).st;have hc:RE λk w m=>(M.cl j).cur=À (.call k w m):=by
   unfold Dv at st;rw[hm]at st;generalize e:(M.cl j).cur=zc;rcases zc with _|r;.rw[e]at st;exact st.elim
   .induction r with|rest x=>rw[e]at st;exact st.elim|call k w m=>exact⟨k,w,m,Ä⟩
  obtain⟨k,w,m,hc⟩:=hc;refine zk ?_;show Aa _ _ (BA F tail n (M.after j<|kindOf<|M.cl j).K!) _;refine AA (show kindOf (M.cl j)=k by unfold kindOf;exact AA hc Ä) ?_;have hk:=ho k w m hc;refine OM h.q (h.q.out λd e=>by rw[hm]at e;cases e) h0 hs hS ha hm hc (λe=>?_) (λe=>?_) l1 l2 l3 r;.subst e;exact Ù hk
  .subst e;x_go;obtain⟨y,ys,hy⟩:=EV hk;refine zk<|AA hy ?_;intro h;cases h
end
def Sl(F:Fx):BJ:=⟨(BS 108).scope,[("steps",.cell F.ot),("tasking",.cell F.wR),("wishes",.cell F.n8),("thing",.cell F.om)]⟩
def MJ:Đ->Á Đ:=P6
def Jq(F:Fx)(a b:Ç):Pr:=(Bv<|((BS 108).body.take b).drop a).p<|Sl F
def tb(F:Fx)(a b:Ç):Pr:=(EU 39<|((MJ<|BZ 108 10).take b).drop a).p<|Sl F
def fq:Đ:=(MJ<|BZ 108 10).getD 1<|.Pass ⟨0,0,0,0⟩
def wT(F:Fx):Pr:=((OE 38).t<|gw fq).p<|Sl F
def wb(F:Fx)(a b:Ç):Pr:=(EU 38<|((Pu fq).take b).drop a).p<|Sl F
def NZ(F:Fx)(room:Í)(wt:Ç):Ï->Ã V:=AD (AD (AD (AD (AD (AD (AD (λZ=>È) "room"<|.int room) "plans"<|.ref<|.list F.nN) "chooser"<|.ref<|.mo F.ch) "crew"<|.ref<|.list F.tB) "store"<|.ref<|.dict F.sd) "clients"<|.ref<|.list F.mY) "waiting"<|.ref<|.list wt
def CT(F:Fx)(room:Í)(wt:Ç)(t:V):Ï->Ã V:=AD (NZ F room wt) "task" t
section
theorem Wy:Jq F 10 11=(Pr.oX (.tr "fault" "waiting") (tb F 0 2) .ret).bind λf=>F8 f (.ret .none):=⋯
theorem ZX:tb F 1 2=(Bu (wT F) (wb F 0 2) CM).bind λf=>F8 f (.ret .none):=⋯
end
section
variable{n:Ç}{x:Ï}{hs m:Ç}{r:Á Ç}
theorem ZB{R:V->Á AC->Prop}{w:V->Rv}{U!:V->Ï->Ã V}(h:Hs L1 s)(hl:s.A!=lc)(g:∀s,Hs L1 s->Hb (λv L2=>R v L2) λv L2=>AI n (.fn x) as s v L2)(k:Fu (A9 n x p lc L1 s.nx hs []) È (Fy.res m r)=À ⟨as,L1,lc,Fu (A9 n x p lc L1 s.nx hs []) [] λz=>z.e.map (·.2)⟩)(k2:∀(v:V) (mH:Á AC) (md:Ç),(BD n (Bi (A9 n x p lc L1 s.nx hs []) v) lc mH md 0 []).res 0 []=À ⟨w v,mH,U! v,(BD n (Bi (A9 n x p lc L1 s.nx hs []) v) lc mH md 0 []).T?⟩):Ku (λs' v L2=>p.run TT.A_ (AK TT n) s=(w v).out s') (λs' v L2=>R v L2) (λs' v L2=>Hs L2 s') λs' v L2=>s'.A!=U! v:=by x_go;obtain⟨s1,e1,h1,l1⟩:=A3 (T:=TT) Ä h hl .nil k;obtain⟨v,L2,r,s2,e2,h2,l2⟩:=g s1 h1;obtain⟨s3,e3,h3,l3⟩:=AE h2 (l2.trans l1) .nil<|k2 v L2 s2.nx;exact zk<|⟨s3,v,L2,e1.trans ((Â (AN.bind · _) e2).trans e3),r,h3,l3⟩
end
section
variable{room:Í}{wt:Ç}{a:Ly}{S:Ë}
theorem Wo(h:Hs tail s)(hl:s.A!=CT F room wt (.ref b)):Aa ((wT F).run TT.A_ (AK TT 18) s) (.ok<|.bool Å) (Hs tail) (CT F room wt<|.ref b):=Fg (n:=18) (v:=.ok<|.bool Å) h hl λtail nx=>⋯
theorem Pt(h:Hs tail s)(hl:s.A!=CT F room wt .none):Aa ((wT F).run TT.A_ (AK TT 18) s) (.ok<|.bool Æ) (Hs tail) (CT F room wt .none):=Fg (n:=18) (v:=.ok<|.bool Æ) h hl λtail nx=>⋯
theorem Sy{R:V->Á AC->Prop}(h:Hs (a.cells S) s)(hl:s.A!=CT a.F room wt (Ai<|a.F.tk i))(g:∀s,Hs (a.cells S) s->Hb (λv L2=>R v L2) λv L2=>AI 18 (.fn "_law_goes") (A4 a.F i S<|bif S then Ai a.F.nM else Ai<|a.F.tk 2) s v L2):Ku (λs' v L2=>(wb a.F 0 1).run TT.A_ (AK TT 18) s=.ok .none s') (λs' v L2=>R v L2) (λs' v L2=>Hs L2 s') λs' v L2=>s'.A!=CT a.F room wt (Ai<|a.F.tk i):=by
 refine ZB (hs:=BV [18*i.val,96,100,88,104,18*i.val,90]) (m:=54) (r:=keep 0 54) (w:=λZ=>.ok .none) (U!:=λZ=>CT a.F room wt<|Ai<|a.F.tk i) h hl g ?_ λv mH md=>?_;.induction i using NK<;>induction S using ċ<;>kernel_rfl
 .induction i using NK<;>induction S using ċ<;>kernel_rfl
theorem Sw{R:V->Á AC->Prop}(h:Hs (a.cells Å) s)(hl:s.A!=CT a.F room wt (Ai a.F.nM))(g:∀s,Hs (a.cells Å) s->Hb (λv L2=>R v L2) λv L2=>AI 18 (.fn "_law_tend") (DR a.F) s v L2):Ku (λs' v L2=>(wb a.F 0 1).run TT.A_ (AK TT 18) s=.ok .none s') (λs' v L2=>R v L2) (λs' v L2=>Hs L2 s') λs' v L2=>s'.A!=CT a.F room wt (Ai a.F.nM):=ZB (hs:=BV [74,96,100]) (m:=54) (r:=keep 0 54) (w:=λZ=>.ok .none) (U!:=λZ=>CT a.F room wt<|Ai a.F.nM) h hl g ⋯ λv mH md=>⋯
end
section
variable{room:Í}{wt:Ç}{a:Ly}{S:Ë}
theorem Tr{x y z:Ç}(e:((MJ<|BZ 108 10).take z).drop x=((MJ<|BZ 108 10).take y).drop x++((MJ<|BZ 108 10).take z).drop y)(h1:(tb F x y).run G C s=.ok .none s1):(tb F x z).run G C s=(tb F y z).run G C s1:=by unfold tb at h1⊢;refine AA e ?_;refine(CR _ _ _).trans ?_;exact Â (AN.bind · _) h1
theorem Zj{x y z:Ç}(e:((MJ<|BZ 108 10).take z).drop x=((MJ<|BZ 108 10).take y).drop x++((MJ<|BZ 108 10).take z).drop y)(h1:(tb F x y).run G C s=.exc v s1):(tb F x z).run G C s=.exc v s1:=by unfold tb at h1⊢;refine AA e ?_;refine(CR _ _ _).trans ?_;exact Â (AN.bind · _) h1
theorem ZY{x y z:Ç}(e:((Pu fq).take z).drop x=((Pu fq).take y).drop x++((Pu fq).take z).drop y)(h1:(wb F x y).run G C s=.ok .none s1):(wb F x z).run G C s=(wb F y z).run G C s1:=by unfold wb at h1⊢;refine AA e ?_;refine(CR _ _ _).trans ?_;exact Â (AN.bind · _) h1
def JW(F:Fx)(p:Pr)(lc:Ï->Ã V)(s:Internal.S)(L:Á AC):Prop:=We (λ(s':Internal.S) (k:V->Pr)=>p.run TT.A_ (AK TT 18) s=(AK TT 18 (.fn "pick_task") [AH F] s').bind λv s=>Pr.run TT.A_ (AK TT 18) (k v) s) (λs' k=>Hs L s') (λs' k=>s'.A!=lc) λs' k=>∀v L2 s2,Hs L2 s2->s2.A!=lc->Aa ((k v).run TT.A_ (AK TT 18) s2) (.ok .none) (Hs L2) (AD lc "task" v)
theorem KD(h:Hs (a.cells S) s)(hl:s.A!=lc)(k1:Fu (A9 18 "pick_task" p lc (a.cells S) s.nx 100 []) È (Fy.res 54<|keep 0 54)=À ⟨[AH a.F],a.cells S,lc,Fu (A9 18 "pick_task" p lc (a.cells S) s.nx 100 []) [] λz=>z.e.map (·.2)⟩)(k2:∀(v:V) (mH:Á AC) (md:Ç),(BD 18 (Bi (A9 18 "pick_task" p lc (a.cells S) s.nx 100 []) v) lc mH md 0 []).res 0 []=À ⟨.ok .none,mH,AD lc "task" v,(BD 18 (Bi (A9 18 "pick_task" p lc (a.cells S) s.nx 100 []) v) lc mH md 0 []).T?⟩):JW a.F p lc s (a.cells S):=by obtain⟨s1,e1,h1,l1⟩:=A3 (T:=TT) Ä h hl .nil k1;exact⟨s1,λv=>Bi _ v,e1,h1,l1,λv L2 s2 h2 l2=>AE h2 l2 .nil<|k2 v L2 s2.nx⟩
theorem XW(h:Hs (a.cells S) s)(hl:s.A!=NZ a.F room wt):JW a.F (tb a.F 0 1) (NZ a.F room wt) s (a.cells S):=by induction S<;>exact KD h hl ⋯ λv mH md=>⋯
theorem XV(h:Hs (a.cells S) s)(hl:s.A!=CT a.F room wt t):JW a.F (wb a.F 1 2) (CT a.F room wt t) s (a.cells S):=by induction S<;>exact KD h hl ⋯ λv mH md=>⋯
end
section
variable{M:AQ}
theorem aG:M.more.lu=M.lu:=by
 unfold AQ.more;rcases M.next with _|p;.rfl
 .exact Dq.1
theorem jJ:(M.go i).lu=M.lu:=by
 have ask:∀{N:AQ}{k:Kd}{w:Wt},(N.ask i k w).lu=N.lu:=λ{N k w}=>by induction w<;>rfl
 unfold AQ.go;rcases(M.cl i).B? with _|⟨row,rest⟩;.rfl
 .generalize hS:M.lu=zc;rcases zc with _|_;.induction row with|rest x=>exact hS|call k w m=>
    show(bif M.E! k then _ else _:AQ).lu=_;rcases M.E! k with _|_;.exact ask.trans hS
    .exact aG.trans<|Dq.1.trans hS
  .induction row with|rest x=>exact hS|call k w m=>
    show(bif M.mT k then _ else _:AQ).lu=_;rcases M.mT k with _|_;.exact ask.trans hS
    .exact hS
theorem MT:M.K!.lu=M.lu:=by
 unfold AQ.K!;rcases M.next with _|p;.rfl
 .rfl
theorem Zi:M.n9.lu=M.lu:=by
 unfold AQ.n9;rcases M.mN with _|j;.exact MT
 .exact MT.trans Dq.1
theorem F7:M.mv.lu=M.lu:=by unfold AQ.mv;cases M.lu&&M.mX&&Fw M.E?<;>rfl
theorem Uj(h:br F M M'):M'.lu=M.lu:=by
 rcases h with rfl|⟨_,y,_,rfl⟩;.exact F7
 .exact F7.trans<|Lr.hS.trans F7
end
structure G9(P:Dc)(F:Fx)(hS:Ë)(M:AQ):Prop where
 R?:D2 P M
 nc:∀i,AV (M.cl i).st=Æ
 rd:CQ F M=[]S:M.lu=hS
 sh:(M.lu&&M.mX&&Fw M.E?)=Æ
 fin:Bp M=[]\/M.mj=È
inductive Wf(P:Dc)(F:Fx)(tail:Á AC)(hS:Ë)(room:Í)(wt:Ç)(o:AN V):Prop where|done (s':S) (M:AQ) (J:Jk) (e:o=.ok .none s') (f:G9 P F hS M) (h0:Bp M=[]) (h:Hs (O_ F J M tail) s') (l:s'.A!=CT F room wt .none)|R! (s':S) (M:AQ) (J:Jk) (la:Ç) (t:Ã V) (e:o=.exc (.ref<|.list la) s') (f:G9 P F hS M) (h:Hs ((.list la,.list<|Bp M)::O_ F J M tail) s') (l:s'.A!=match t with|À t=>CT F room wt t|È=>NZ F room wt)
section
variable{n:Ç}{M:AQ}{room:Í}{wt:Ç}{hS:Ë}
theorem LA(h:x∈CQ F M):(BM (λi=>x=Ai (F.tk i)) λi=>Dh (M.cl i).st=Å)\/x=Ai F.nM/\M.lu=Å/\M.E?=.G!:=by
 have key:∀{b:Ë}{v:V},x∈Au b v->x=v/\b=Å:=λ{b v}h=>by
  rcases b with _|_;.cases h
  .exact ⟨OF h,Ä⟩
 rcases Hy h with h|h
 .rcases Hy h with h|h
  .rcases Hy h with h|h;.exact .inl ⟨0,(key h).1,(key h).2⟩
   .exact .inl ⟨1,(key h).1,(key h).2⟩
  .exact .inl ⟨2,(key h).1,(key h).2⟩
 .refine .inr ?_;generalize e:M.lu=zc at h;rcases zc with _|_;.cases h
  .generalize q:M.E?=zc at h;induction zc with|G!=>exact⟨OF h,Ä,Ä⟩|_=>cases h
theorem WK(e:AK TT 17 t as s=.ok w s'):AK TT 18 t as s=.ok w s':=L5 e<|by intro h;cases h
theorem H8{N:AQ}:(N.mv.lu&&N.mv.mX&&Fw N.mv.E?)=Æ:=by unfold AQ.mv;cases e:N.lu&&N.mX&&Fw N.E? with|true=>exact Ë.and_false _|false=>exact e
theorem J7(nc:∀i,AV (M.cl i).st=Æ)(i:I3):AV (M.K!.cl i).st=Æ:=by
 unfold AQ.K!;rcases M.next with _|p;.exact nc i
 .exact IN (p:=λZ c=>AV c.st=Æ) nc Ä i
theorem W4(nc:∀i,AV (M.cl i).st=Æ)(i:I3):AV (M.n9.cl i).st=Æ:=by
 unfold AQ.n9;rcases M.mN with _|j;.exact J7 nc i
 .refine J7 (λi=>?_) i;by_cases e:i=j;.exact AA e<|AA CL.1 Ä
  .exact AA (CB e)<|nc i
theorem Ti(hP:Ay P)(h:D2 P M)(nc:∀i,AV (M.cl i).st=Æ)(hx:x∈CQ F M)(r:BA F tail n M s)(hl:s.A!=CT F room wt x):ku (λs' M'=>(wb F 0 1).run TT.A_ (AK TT 18) s=.ok .none s') (λs' M'=>BA F tail n M' s') (λs' M'=>s'.A!=CT F room wt x) (λs' M'=>D2 P M') (λs' M'=>weight M'<weight M) (λs' M'=>gR M') λs' M'=>M'.lu=M.lu:=by
 x_go;obtain⟨J,g,nu⟩:=r.open;rcases LA hx with⟨i,rfl,hr⟩|⟨rfl,e,hs⟩
 .obtain ⟨R?,w,GN⟩:=VS hP h hr;obtain⟨s',v,L2,e,⟨J',rfl,sN⟩,h',l'⟩:=Sy (a:=Bb F J M tail) (S:=M.lu) (R:=λv L=>BM (λJ'=>L=O_ F J' (M.go i) tail) λJ'=>Bg J' n) g hl λs g=>by
   obtain⟨s',e,r',l'⟩:=Wp (sv:=bif M.lu then Ai F.nM else Ai<|F.tk 2) hP h (.V_ nu g) hr λe=>by exact AA e Ä
   x_go;obtain⟨J',g',sN⟩:=r'.open;exact zk<|⟨.none,_,⟨J',Ä,sN⟩,s',WK e,g',l'⟩
  refine zk<|⟨s',M.go i,e,.V_ sN h',l',R?,w,λa b ha hb=>?_,jJ⟩;have ea:a=i:=ě λq=>by rw[GN a q<|nc a]at ha;exact CN ha
  exact GN b (λq=>hb<|q.trans ea.symm)<|nc b
 .obtain ⟨R?,w⟩:=VN hP h e hs;refine zk ?_;have g2:Hs ((Bb F J M tail).cells Å) s:=by exact AP e<|g
  x_go;obtain⟨s',v,L2,e',⟨J',rfl,sN⟩,h',l'⟩:=Sw (a:=Bb F J M tail) (R:=λv L=>BM (λJ'=>L=O_ F J' M.n9 tail) λJ'=>Bg J' n) g2 hl λs g=>by
   have g:Hs (O_ F J M tail) s:=by rw[<-e]at g;exact g
   x_go;obtain⟨s',e,r',l'⟩:=RH hP h e hs<|.V_ nu g;obtain⟨J',g',sN⟩:=r'.open;exact zk<|⟨.none,_,⟨J',Ä,sN⟩,s',WK e,g',l'⟩
  refine zk<|⟨s',M.n9,e',.V_ sN h',l',R?,w,?_,Zi⟩;exact Oy<|W4 nc
theorem Uv(hP:Ay P)(w8:Ha F)(w:Ç):∀{M:AQ}{n:Ç}{s:S}{x:V},D2 P M->(∀i,AV (M.cl i).st=Æ)->M.lu=hS->x∈CQ F M->weight M<=w->n+5*w+8<G_->BA F tail n M s->s.A!=CT F room wt x->∀m,Wf P F tail hS room wt ((Bu (wT F) (wb F 0 2)<|m+w+2).run TT.A_ (AK TT 18) s):=by induction w with
 |zero=>
  intro M n s x h nc eS hx hw _ _ _ _;exfalso;have pos:0<weight M:=by
   x_go;rcases LA hx with⟨i,_,hr⟩|⟨_,_,hs⟩;.obtain ⟨_,w,_⟩:=VS hP h hr;exact zk<|Ò (è _) w
   .refine zk ?_;unfold weight;exact AA hs<|Ç.succ_pos _
  exact Ę _<|õ pos hw|succ w ih=>
  intro M n s x h nc eS hx hw hn r hl m;have xr:∃b,x=.ref b:=by rcases LA hx with⟨i,e,_⟩|⟨e,_⟩<;>exact⟨_,e⟩
  x_go;obtain⟨b,rfl⟩:=xr;obtain⟨J,g,nu⟩:=r.open;obtain⟨s0,e0,g0,l0⟩:=Wo g hl;obtain⟨s1,M1,e1,r1,l1,h1,w1,o1,S1⟩:=Ti hP h nc hx (.V_ nu g0) l0;obtain⟨J1,g1,tV⟩:=r1.open;obtain⟨s2,k,e2,g2,l2,kk⟩:=XV (a:=Bb F J1 M1 tail) (S:=M1.lu) g1 l1;have E:=(ZY (z:=2) ⋯ e1).trans e2;have eW:m+(w+1)+2=m+w+2+1:=by omega
  refine zk<|AA eW ?_;have qg:=CK h1;x_go;induction(KE w8 (n:=n) (by omega) (Md hP h1 o1)<|.V_ tV g2)with|d? x' s3 M' e pv nx r3 l3=>obtain⟨h',w',qv⟩:=Mn h1 nx;obtain⟨J3,g3,tU⟩:=r3.open;obtain⟨s4,e4,g4,l4⟩:=kk x' _ s3 g3<|l3.trans l2;have D:=ih h' qv ((Uj nx).trans<|S1.trans eS) pv (Ç.le_of_lt_succ<|Ò w'<|õ w1 hw) (by omega) (.V_ tU g4) (l4.trans K8) m;exact zk<|AA (ET e0 (E.trans ((Â (AN.bind · _) e).trans e4))) D|none s3 e h0 rO r3 l3=>obtain⟨J3,g3,tU⟩:=r3.open;obtain⟨s4,e4,g4,l4⟩:=kk .none _ s3 g3<|l3.trans l2;have l4:s4.A!=CT F room wt .none:=l4.trans K8;obtain⟨s5,e5,g5,l5⟩:=Pt g4 l4;refine zk<|.done s5 M1.settle J3 ?_ ⟨qg.1,Bl,h0,F7.trans<|S1.trans eS,H8,.inl rO⟩ rO g5 l5;exact AA (ET e0 (E.trans ((Â (AN.bind · _) e).trans e4)))<|AA (show m+w+2=m+w+1+1 from Ä)<|ER e5|R! s3 la J3 e h0 rO h2 g3 l3=>refine zk<|.R! s3 M1.settle J3 la (À<|.ref b) ?_ ⟨qg.1,Bl,h0,F7.trans<|S1.trans eS,H8,.inr h2⟩ g3<|l3.trans l2;exact Jx e0 (E.trans (Â (AN.bind · _) e))
end
section
variable{F:Fx}{n:Ç}{room:Í}{wt:Ç}{hS:Ë}
structure RF(P:Dc)(F:Fx)(tail:Á AC)(hS:Ë)(M:AQ)(la:Ç)(s:S):Prop where
 fin:G9 P F hS M
 h:∃J,Hs ((.list la,.list<|Bp M)::O_ F J M tail) s
 l1:s.A! "store"=À (.ref<|.dict F.sd)l2:s.A! "clients"=À (.ref<|.list F.mY)l3:s.A! "waiting"=À (.ref<|.list la)
theorem JH:∀{lc:Ï->Ã V},lc=(match t with|À t=>CT F room wt t|È=>NZ F room wt)->lc "store"=À (.ref<|.dict F.sd)/\lc "clients"=À (.ref<|.list F.mY)/\lc "waiting"=À (.ref<|.list wt)/\lc "fault"=È:=λ{lc}e=>by
 subst e;rcases t with _|t;.exact ⟨⋯,⋯,⋯,⋯⟩
 .exact ⟨⋯,⋯,⋯,⋯⟩
theorem IS:(O_ F J M<|x::tail).Perm (x::O_ F J M tail):=by unfold O_;refine(FP ((ŕ (l₁:=EJ F M.lu J.bd).append_left<|DE F J M).append_left<|DF F J M) _).trans ?_;have e:∀{a b c:Á AC} (x:AC),(a++(b++x::c)).Perm (x::(a++(b++c))):=λ{a b c}x=>(ŕ (l₁:=b).append_left a).trans ŕ;refine(FP (e x) _).trans ?_;exact FQ [x] _
theorem Wx(h:Wf P F ((.list wt,.list [])::tail) hS room wt<|(tb F 0 2).run TT.A_ (AK TT 18) s):S' (λs' M la=>(Jq F 10 11).run TT.A_ (AK TT 18) s=.ok .none s') λs' M la=>RF P F tail hS M la s':=by refine AA Wy<|AA (Pr.F_ ..) ?_;show S' (λs' M la=>AN.bind (C9 ((GP.tr "fault" "waiting").J? s<|(tb F 0 2).run TT.A_ (AK TT 18) s) _) _=_) λs' M la=>_;induction h with|done s' M J e f h0 h l=>refine AA e ?_;x_go;obtain⟨a,b,c,d⟩:=JH (t:=À .none) l;exact zk<|⟨s',M,wt,Ä,f,⟨J,by exact AA h0<|h.perm IS⟩,a,b,c⟩|R! s' M J la t e f h l=>
  refine AA e ?_;x_go;obtain⟨a,b,c,d⟩:=JH l;have e2:(GP.tr "fault" "waiting").J? s (.exc (.ref<|.list la) s')=À (.none,s'.set "waiting"<|.ref<|.list la):=by show(if(s'.A! "fault").isNone then _ else _)=_;rw[d];rfl
  refine zk<|e2▸?_;have h2:Hs ((.list la,.list<|Bp M)::O_ F J M tail) s':=by have q:=h.perm<|IS.cons _;have q2:=q.perm<|Á.Perm.swap _ _ _;exact⟨λp hp=>q2.at_ p<|.tail _ hp,(Hx q2.nd).2,q2.lk⟩
  refine⟨s'.set "waiting"<|.ref<|.list la,M,la,Ä,f,⟨J,h2.lz _⟩,?_,?_,?_⟩;.show AD s'.A! "waiting" (V.ref<|.list la) "store"=_;unfold AD;exact AA (Ì<|by decide) a
  .show AD s'.A! "waiting" (V.ref<|.list la) "clients"=_;unfold AD;exact AA (Ì<|by decide) b
  .show AD s'.A! "waiting" (V.ref<|.list la) "waiting"=_;unfold AD;exact AA (Î Ä) Ä
theorem Ww(hP:Ay P)(w8:Ha F)(h:D2 P M)(o:gR M)(hn:n+5*weight M+20<G_)(hw:weight M<300)(r:BA F ((.list wt,.list [])::tail) n M s)(hl:s.A!=NZ F room wt):S' (λs' M' la=>(Jq F 10 11).run TT.A_ (AK TT 18) s=.ok .none s') λs' M' la=>RF P F tail M.lu M' la s':=by
 refine Wx (room:=room) (wt:=wt) ?_;x_go;obtain⟨J,g,nu⟩:=r.open;obtain⟨s2,k,e2,g2,l2,kk⟩:=XW (a:=Bb F J M<|(.list wt,.list [])::tail) (S:=M.lu) g hl;have qg:=CK h;have e2:(tb F 0 1).run TT.A_ (AK TT 18) s=_:=e2;have e3:∀{s3},∀m,m=CM->(tb F 1 2).run TT.A_ (AK TT 18) s3=((Bu (wT F) (wb F 0 2) m).run TT.A_ (AK TT 18) s3).bind λf s=>(F8 f<|.ret .none).run TT.A_ (AK TT 18) s:=λ{s3}m hm=>by exact AA ZX<|AA (Pr.F_ ..)<|AA (hm ..) Ä
 induction(KE w8 (n:=n) (by lia) (Md hP h o)<|.V_ nu g2)with
 |d? x' s3 M' e pv nx r3 l3=>
  obtain⟨h',w',qv⟩:=Mn h nx;obtain⟨J3,g3,tU⟩:=r3.open;obtain⟨s4,e4,g4,l4⟩:=kk x' _ s3 g3<|l3.trans l2;have E:=(Tr (z:=2) ⋯ (e2.trans ((Â (AN.bind · _) e).trans e4)));have D:=Uv (room:=room) (wt:=wt) hP w8 (weight M) h' qv (Uj nx) pv w' (by lia) (.V_ tU g4) l4<|CM-weight M-2;have el:CM-weight M-2+weight M+2=CM:=by
   have:1000<=CM:=by decide
   lia
  refine zk<|AA E<|AA (e3 _ el)<|AG λZ zk=>?_;induction D with|done s' M J e f h0 h l=>exact zk<|AA e<|.done s' M J Ä f h0 h l|R! s' M J la t e f h l=>exact zk<|AA e<|.R! s' M J la t Ä f h l
 |none s3 e h0 rO r3 l3=>obtain⟨J3,g3,tU⟩:=r3.open;obtain⟨s4,e4,g4,l4⟩:=kk .none _ s3 g3<|l3.trans l2;obtain⟨s5,e5,g5,l5⟩:=Pt (F:=F) g4 l4;have E:=(Tr (z:=2) ⋯ (e2.trans ((Â (AN.bind · _) e).trans e4)));exact zk<|AA E<|AA (e3 _<|show CM-1+1=CM by decide)<|AA (ER e5)<|.done s5 M.settle J3 Ä ⟨qg.1,Bl,h0,F7,H8,.inl rO⟩ rO g5 l5|R! s3 la J3 e h0 rO h2 g3 l3=>refine zk<|AA (Zj (z:=2) ⋯ (e2.trans (Â (AN.bind · _) e))) ?_;exact .R! s3 M.settle J3 la È Ä ⟨qg.1,Bl,h0,F7,H8,.inr h2⟩ g3<|l3.trans l2
end
structure IM where
 n:Ç
 pl:Ç
 p:I3->Ç
 wi:Ç
 pt:Ç
 dq:Ç
 en:Ç
 rd:Ç
 li:Ç
 B?:I3->Á Ah
 wl:Á V
section
variable (a:IM)
def IM.th(S:Ë):V:=bif S then .none else .ref<|.inst "ProtectedThing" a.pt
def IM.ob:Á AC:=[(.inst "ProtectedThing" a.pt,.inst "ProtectedThing" [("number",.int 9),("entries",.ref<|.list a.en),("queues",.ref<|.dict a.dq),("writer",.none),("readers",.ref<|.list a.rd),("line",.ref<|.list a.li),("body",.none),("frame",.none),("cells",.none),("is_making",.bool Æ)]),(.dict a.dq,.dict []),(.list a.en,.list [.str "put",.str "take"]),(.list a.rd,.list []),(.list a.li,.list [])]
def IM.own(S:Ë):Á AC:=[(.cell<|a.n+3,.cell È),(.cell<|a.n+2,.cell È),(.cell<|a.n+1,.cell<|À<|.ref<|.list a.wi),(.cell a.n,.cell<|À<|a.th S)]
def IM.S_:Á AC:=[(.list a.pl,.list [.ref<|.list<|a.p 0,.ref<|.list<|a.p 1,.ref<|.list<|a.p 2]),(.list<|a.p 0,.list<|(a.B? 0).map Ah.v),(.list<|a.p 1,.list<|(a.B? 1).map Ah.v),(.list<|a.p 2,.list<|(a.B? 2).map Ah.v),(.list a.wi,.list a.wl)]
def IM.cells(S:Ë)(tail:Á AC):Á AC:=a.own S++(a.S_++((bif S then[]else a.ob)++tail))
def IM.base(i:I3):Ç:=a.n+4+9+8*i.val
def IM.hi(S:Ë):Ç:=bif S then a.n+4+42 else a.n+4+34
def IM.F(S:Ë):Fx where tk:=λi=>a.base i;dq:=λi=>a.base i+1;sv:=λi=>a.base i+3;ms:=λi=>a.base i+4;cd:=λi=>a.hi S+4+4*i.val+3;ro:=λi=>a.hi S+4+4*i.val;to:=λi=>a.hi S+4+4*i.val+2;nM:=a.n+4+34;wO:=a.n+4+35;vJ:=a.n+4+37;vX:=a.n+4+38;tg:=a.n+4+3;ck:=a.n+4+4;sQ:=a.n+4+6;mV:=a.n+4+5;tA:=a.n+4+7;tB:=a.n+4+33;mY:=a.hi S+16;H_:=a.n+4;pL:=a.wi;sd:=a.hi S+3;B!:=a.hi S;B_:=a.hi S+1;A?:=a.hi S+2;nN:=a.pl;ch:=a.n+4+1;wR:=a.n+2;ot:=a.n+3;om:=a.n;n8:=a.n+1;pt:=a.pt;wQ:=a.dq;entries:=a.en;og:=a.rd;G_:=.ref<|.inst "Limits"<|a.n+4+2;oR:=a.wl;q8:=λi=>.ref<|.list<|a.p i
def IM.J(S:Ë):Jk where b:=λi=>{o8:=.ref<|.list<|a.base i+2,mP:=.none,call:=.none,L_:=.none,answer:=.none,Q?:=.int 0,hf:=.bool Æ,j1:=.ref<|.list<|a.base i+5,j2:=.ref<|.list<|a.base i+6,j3:=.ref<|.list<|a.base i+7,sl:=a.hi S+4+4*i.val+1,ca:=0,slot:=(.list<|a.base i+2,.list []),num:=i.val,sU:=.none,uq:=.none,ur:=.none,uo:=.none};bd:={mc:=bif S then 0+1+1+1+1 else 0+1+1+1,P_:=0,lo:=a.n+4+8,mZ:=[],H_:=[],qa:=λZ=>0,nH:=λk=>match k with|.B_=>(.list<|a.n+4+14,.list [])|.take=>(.list<|a.n+4+15,.list []),ord:=Æ,li:=a.li,H?:=È};sb:={o8:=.ref<|.list<|a.n+4+36,mP:=.none,call:=.none,L_:=.none,Q?:=.int 0,hf:=.bool Æ,j1:=.ref<|.list<|a.n+4+39,j2:=.ref<|.list<|a.n+4+40,j3:=.ref<|.list<|a.n+4+41,oa:=0,o7:=(.list<|a.n+4+36,.list []),idx:=.none}
def IM.wt(S:Ë):Ç:=a.hi S+17
def IM.nN:Á AC:=[(.list<|a.p 0,.list<|(a.B? 0).map Ah.v),(.list<|a.p 1,.list<|(a.B? 1).map Ah.v),(.list<|a.p 2,.list<|(a.B? 2).map Ah.v)]
end
def SB(room:Í)(B?:I3->Á Ah)(S:Ë):AQ:=⟨0,room,λi=>⟨.fresh,B? i,È,0,0,[]⟩,λZ=>[],[],[],[],S,.G!,È⟩
def gd(room:Í)(pl:Ç):Ï->Ã V:=AD (AD (λZ=>È) "room"<|.int room) "plans"<|.ref<|.list pl
def lS(S:Ë):Á Ç:=bif S then[9,10,12,13,49,46,48,47,11,17,18,20,21,53,50,52,51,19,25,26,28,29,57,54,56,55,27,3,4,35,14,15,45,42,43,44,8,34,37,38,36,6,5,7,33,58,0,68,64,1,61,60,63,62,59,65,66,67]else[9,10,12,13,41,38,40,39,11,17,18,20,21,45,42,44,43,19,25,26,28,29,49,46,48,47,27,3,4,62,14,15,37,34,35,36,8,61,63,64,65,6,5,7,33,50,0,60,56,1,53,52,55,54,51,57,58,59]
def kQ(S:Ë):Ç:=bif S then 0x81c2060814204081a3438f8a3d98f463c98f1e3c687050e2c58b162c366cd9b3670d1a3468d1c3264c993270e1c3870c58b161c78f1e362c51b162c58b162c58b162c58b162c58b162c58b162c58b162c58b162c58b162c58b162c58b162c58b162c58b162c58a1c3870e1c287161c382050c308162c5871e3c78d66cc6b366cd9b366cd9b366cd9b366cd9b366cd9b366cd9b366cd9b366cd9b366cd9b366cd9b366cd9b366cd9b366cd9870e1c3870a1c5870e08108162c5871e3c78d468c6a3468d1a3468d1a3468d1a3468d1a3468d1a3468d1a3468d1a3468d1a3468d1a3468d1a3468d1a3468d1a3468d1870e1c3870a1c5870e08108162c5871e3c78d264c693264c993264c993264c993264c993264c993264c993264c993264c993264c993264c993264c993264c993264c9870e1c3870a1c5870e0810810201020e1c3870e1c68d1a3468d1a343870e1c3870e1c4890e1c3870a142850a142850a142850a14000 else 0x207081820508102068d0e3d98f463c98f1e3c687050d9b366cd9c3468d1a3470c993264c9c3870c308162c5871e3c78d66cc6b366cd9b366cd9b366cd9b366cd9b366cd9b366cd9b366cd9b366cd9b366cd9b366cd9b366cd9b366cd9b366cd9870e1c3870a1c5870e08108162c5871e3c78d468c6a3468d1a3468d1a3468d1a3468d1a3468d1a3468d1a3468d1a3468d1a3468d1a3468d1a3468d1a3468d1a3468d1870e1c3870a1c5870e08108162c5871e3c78d264c693264c993264c993264c993264c993264c993264c993264c993264c993264c993264c993264c993264c993264c9870e1c3870a1c5870e0810810201020e1c3870e1c68d1a3468d1a343870e1c3870e1c4890e1c3870a142850a142850a142850a14000
theorem XO{a:IM}{S:Ë}{tail:Á AC}{s:Internal.S}{room:Í}(h:Hs (a.cells S tail) s)(hn:s.nx=a.n+4)(hl:s.A!=gd room a.pl):Aa ((Jq (a.F S) 0 10).run TT.A_ (AK TT 18) s) (.ok .none) (Hs<|O_ (a.F S) (a.J S) (SB room a.B? S)<|(.list<|a.wt S,.list [])::(a.nN++tail)) (NZ (a.F S) room<|a.wt S):=by
 have key:(BD 18 (Jq (a.F S) 0 10) (gd room a.pl) (a.cells S tail) (a.n+4) (kQ S) []).res (bif S then 69 else 66) (lS S)=À ⟨.ok .none,O_ (a.F S) (a.J S) (SB room a.B? S)<|(.list<|a.wt S,.list [])::(a.nN++tail),NZ (a.F S) room<|a.wt S,(BD 18 (Jq (a.F S) 0 10) (gd room a.pl) (a.cells S tail) (a.n+4) (kQ S) []).T?⟩:=by
  rcases S with _|_;.kernel_rfl
  .kernel_rfl
 exact AE h hl .nil<|by exact AA hn<|key
def NV(i:Ç)(as:Á V)(s:S):S:={A!:=At i as,h:=Bx (BI (BS i).scope.names ((BS i).params.zip as) λZ=>È) (AX s.nx (BS i).scope.names []) s.h,nx:=s.nx+(AX s.nx (BS i).scope.names []).length,lk:=s.lk}
def CW(i:Ç)(cl:Á<|Ï×Ad)(a b:Ç):Pr:=(Bv<|((BS i).body.take b).drop a).p ⟨(BS i).scope,cl⟩
theorem Vm{T:Eu}{n:Ç}{x:Ï}{i:Ç}(hx:T.fn x=À (BS i))(ha:Ar (BS i) as=À ((BS i).params.zip as))(h:(CW i (AX s.nx (BS i).scope.names []) 0 (BS i).body.length).run T.A_ (AK T n) (NV i as s)=o):AK T (n+1) (.fn x) as s=EK s.A! o:=by refine(Â (λo=>As o λf=>C7 T.A_ (AK T n) f [] as s) hx).trans ?_;show C7 T.A_ (AK T n) (BS i) [] as s=_;unfold C7;refine AA ha ?_;dsimp only;refine AA (å ..) ?_;unfold CW at h;rw[μ,Á.drop_zero]at h;exact Â (EK s.A!) h
theorem BE{i a b c:Ç}{cl:Á<|Ï×Ad}(e:((BS i).body.take c).drop a=((BS i).body.take b).drop a++((BS i).body.take c).drop b)(h1:(CW i cl a b).run G C s=.ok .none s1):(CW i cl a c).run G C s=(CW i cl b c).run G C s1:=by unfold CW at h1⊢;refine AA e ?_;refine(CR _ _ _).trans ?_;exact Â (AN.bind · _) h1
theorem NU{i:Ç}{nx:Ç}(h:Hs L s)(e:H4 (BI (BS i).scope.names ((BS i).params.zip as) λZ=>È) (BS i).scope.names ⟨L,[],s.nx,[],s.A!⟩=⟨L,N,nx,[],s.A!⟩):Hs (N++L) (NV i as s):=by have r:=Vv (BI (BS i).scope.names ((BS i).params.zip as) λZ=>È) (BS i).scope.names [] (h0:=s.h) (m:=s.nx) h.rp Ä Ä;rw[e]at r;exact(r.hs Ä).lz _
section
variable{a:IM}{S:Ë}{s:Internal.S}{room:Í}
def IM.rest(tail:Á AC)(S:Ë):Á AC:=a.S_++((bif S then[]else a.ob)++tail)
def IM.args(room:Í)(S:Ë):Á V:=[a.th S,.int room,.ref<|.list a.pl,.ref<|.list a.wi]
theorem bH(h:Hs (a.rest tail S) s)(hn:s.nx=a.n):Hs (a.cells S tail) (NV 108 (a.args room S) s)/\(NV 108 (a.args room S) s).nx=a.n+4/\(NV 108 (a.args room S) s).A!=gd room a.pl:=by
 have e:H4 (BI (BS 108).scope.names ((BS 108).params.zip<|a.args room S) λZ=>È) (BS 108).scope.names ⟨a.rest tail S,[],s.nx,[],s.A!⟩=⟨a.rest tail S,(a.own S).reverse,a.n+4,[],s.A!⟩:=by refine AA hn ?_;induction S<;>kernel_rfl
 have g:=NU h e;refine⟨g.perm<|(Á.reverse_perm<|a.own S).append_right _,?_,?_⟩;.refine AP hn ?_;kernel_rfl
 .induction S<;>kernel_rfl
theorem ic(hn:s.nx=a.n):AX s.nx (BS 108).scope.names []=(Sl<|a.F S).cells:=by refine AA hn ?_;kernel_rfl
theorem iR{la:Ç}(h:Hs tail s)(l1:s.A! "store"=À (.ref<|.dict F.sd))(l2:s.A! "clients"=À (.ref<|.list F.mY))(l3:s.A! "waiting"=À (.ref<|.list la)):A7 ((Jq F 11 12).run TT.A_ (AK TT 18) s) (.ok<|.D! [.D! [.ref<|.dict F.sd,.ref<|.list F.mY,.ref<|.list la]]) (Hs tail):=by have key:∀lc nx,(BD 18 (Jq F 11 12) lc tail nx (BV [126,126,126]) [(.o<|lc "store",.o<|À<|.ref<|.dict F.sd),(.o<|lc "clients",.o<|À<|.ref<|.list F.mY),(.o<|lc "waiting",.o<|À<|.ref<|.list la)]).pN 0 []=À (.ok<|.D! [.D! [.ref<|.dict F.sd,.ref<|.list F.mY,.ref<|.list la]],tail,(BD 18 (Jq F 11 12) lc tail nx (BV [126,126,126]) [(.o<|lc "store",.o<|À<|.ref<|.dict F.sd),(.o<|lc "clients",.o<|À<|.ref<|.list F.mY),(.o<|lc "waiting",.o<|À<|.ref<|.list la)]).T?):=λlc nx=>⋯;exact By h Ä (.cons (Â X.o l1)<|.cons (Â X.o l2)<|.cons (Â X.o l3) .nil)<|key _ _
end
section
variable{a:IM}{S:Ë}
theorem jG(hP:Ay P):D2 P (SB P.room P.B? S):=by
 refine⟨⟨Ä,į hP.room.1,Ä,λi=>⟨hP.B? i,(λZ h=>by cases h),?_,Þ,(λZ h=>by cases h),λZ=>Ě _⟩,λZ Z=>Ä,λZ Z=>Ě _,(λZ h=>by cases h),?_⟩,⟨λZ=>.nil,λZ Z h=>by cases h⟩,(λZ Z h=>by cases h),Cg (λZ=>?_) λZ=>?_⟩;.show EY (P.B? i)=0+0+EY (P.B? i);exact AA (Ű ..) Ä
 .have e:∀i,C2 P (SB P.room P.B? S).cl i=[]:=λi=>by unfold C2;cases P.kd i<;>rfl
  exact AA (e ..)<|AA (e ..)<|AA (e ..) .nil
 .exact ⟨(λZ h=>by cases h),(λZ h=>by cases h),(λZ Z h=>by cases h),(λh=>by cases h),λh=>by cases h⟩
 .exact ⟨λZ Z=>Ä,(λZ h=>by cases h),Ä,Ä⟩
theorem w0(hP:Ay P):weight (SB P.room P.B? S)<300:=by
 have h:∀i,FU ((SB P.room P.B? S).cl i)<=34:=λi=>by show 8*(P.B? i).length+2<=34;have:=hP.len i;lia
 exact Ò (ü (î (h 0)<|î (h 1)<|h 2) 1)<|by decide
theorem dg:Bg (a.J S) 0:=by
 refine⟨λi j h e=>h<|Fin.ext<|Í.ofNat.inj e,λi=>?_,Ä,ä _,ä _⟩;have:(i.val:Í)<=2:=Í.ofNat_le.mpr<|Ç.le_of_lt_succ i.isLt;refine č this ?_;induction S;.exact (by decide:(2:Í)<=0+1+1+1)
 .exact (by decide:(2:Í)<=0+1+1+1+1)
theorem V'(hP:Ay P)(hr:a.B?=P.B?)(w8:Ha<|a.F S)(h:Hs (a.rest tail S) s)(hn:s.nx=a.n):jz (λs' M la J=>AK TT 19 (.fn "_law_day") (a.args P.room S) s=.ok (.D! [.ref<|.dict (a.F S).sd,.ref<|.list (a.F S).mY,.ref<|.list la]) s') (λs' M la J=>G9 P (a.F S) S M) (λs' M la J=>Hs ((.list la,.list<|Bp M)::O_ (a.F S) J M (a.nN++tail)) s') λs' M la J=>s'.A!=s.A!:=by x_go;obtain⟨h1,n1,l1⟩:=bH (room:=P.room) h hn;obtain⟨s2,e2,h2,l2⟩:=XO h1 n1 l1;rw[hr]at h2;obtain⟨s3,M,la,e3,d⟩:=Ww (n:=0) (tail:=a.nN++tail) hP w8 (jG hP) (Oy λZ=>Ä) (Ņ (ŀ (Θ (Ç.mul_lt_mul_of_pos_left (w0 (S:=S) hP)<|by decide) 0) 20)<|by decide) (w0 hP) (.V_ dg h2) l2;obtain⟨J,h3⟩:=d.h;obtain⟨s4,e4,h4⟩:=iR (F:=a.F S) h3 d.l1 d.l2 d.l3;refine zk<|⟨{s4 with A!:=s.A!},M,la,J,?_,d.fin,h4.lz _,Ä⟩;have E:∀x y,Jq (a.F S) x y=CW 108 (Sl<|a.F S).cells x y:=λZ Z=>Ä;rw[E]at e2 e3 e4;have e:=Vm (i:=108) (T:=TT) (n:=18) (s:=s) (x:="_law_day") (as:=a.args P.room S) (o:=.ok (.D! [.D! [.ref<|.dict (a.F S).sd,.ref<|.list (a.F S).mY,.ref<|.list la]]) s4) ⋯ ⋯ (by exact AA (ic (S:=S) hn) ((BE (b:=10) ⋯ e2).trans ((BE (b:=11) ⋯ e3).trans e4)));exact e
end
section
variable{all:Á V}{P:(Ï->Ã V)->Prop}
def Ij:Ã V->V|À w=>.D! [w]|È=>.none
theorem Gb(h:BH H! s=À all):(Pr.prim .same [H!,.D! all] k).run G C s=(k .none).run G C s:=by show AN.bind (E1 H! (.D! all) s) _=_;unfold E1;dsimp only;exact AA (Î h) Ä
theorem Na(hi:∀s,Hs L s->BH H! s=À all)(l:Á V):∀(acc:Á V) (s:S),(∀v∈l,∀s,Hs L s->P s.A!->D4 (λs'=>(te v).run G C s=.ok (Ij<|f v) s') (λs'=>Hs L s') λs'=>P s'.A!)->Hs L s->P s.A!->D4 (λs'=>(B' te H! all l acc).run G C s=.ok (.D!<|acc++l.filterMap f) s') (λs'=>Hs L s') λs'=>P s'.A!:=by induction l with|nil=>exact λacc s Z h p=>⟨s,(Gb<|hi s h).trans<|by exact AA Á.filterMap_nil<|AA (å ..) Ä,h,p⟩|cons v r ih=>
  intro acc s hb h p;x_go;obtain⟨s1,e1,h1,p1⟩:=hb v (.head _) s h p;have ih:=λacc=>ih acc s1 (λw hw=>hb w<|.tail _ hw) h1 p1;have e:(B' te H! all (v::r) acc).run G C s=(match f v with|À w=>B' te H! all r<|acc++[w]|È=>B' te H! all r acc).run G C s1:=by refine(Gb<|hi s h).trans ?_;show((te v).bind _).run G C s=_;refine AA (Pr.F_ ..)<|AA (e1 ..) ?_;induction f v using ŵ<;>rfl
  refine zk<|AA e ?_;generalize q:f v=zc;rcases zc with _|w;.rw[ĥ q];exact ih acc
  .refine AA (Ĥ q)<|AA (Á.append_cons ..) ?_;exact ih<|acc++[w]
end
theorem Lh(h:AI 18 t as s v L):AI 19 t as s v L:=by obtain⟨s',e,g,g2⟩:=h;exact⟨s',L5 e (by intro h;cases h),g,g2⟩
theorem Ur{d:Í}(hh:mf w a d)(h:Hs tail s):AI 19 (.fn "_law_may_hear") [w.v,a.v,.none,.int d] s (.bool Å) tail:=by induction a with
 |G?=>induction w with|no=>exact AI.val (v:=.bool V.none.isNone) (Ac h (hs:=0) (m:=0) (r:=[]) (cs:=[]) .nil ⋯) Ä|mr=>have hh:d=0:=hh;subst hh;exact AI.val (v:=.bool<|Ê<|(0:Í)<1) (Ac h (hs:=0) (m:=0) (r:=[]) (cs:=[]) .nil ⋯) Ä|num n=>exact AI.val (v:=.bool<|Ê<|d<n) (Ac h (hs:=0) (m:=0) (r:=[]) (cs:=[]) .nil ⋯)<|Â V.bool (Ü<|show d<n from hh).symm
 |I!=>obtain⟨rfl,rfl⟩:=hh;exact AI.val (v:=.bool<|id<|(ñ 0).eqv<|.int 0) (Ac h (hs:=0) (m:=0) (r:=[]) (cs:=[]) .nil ⋯)<|Â V.bool<|by simp[û]|mP=>have hh:w=.num d:=hh;subst hh;exact AI.val (v:=.bool<|id<|(ñ d).eqv<|.int d) (Ac h (hs:=0) (m:=0) (r:=[]) (cs:=[]) .nil ⋯)<|Â V.bool<|by simp[û]
def Lx(n:Ç):Á (Ï×Ad):=[("well",.cell<|n+2),("kind",.cell<|n+1),("owner",.cell n)]
def sg(n a b:Ç):Pr:=(EU 39<|((Gu<|BZ 109 4).take b).drop a).p ⟨(BS 109).scope,Lx n⟩
structure Re where
 n:Ç
 pl:Ç
 p:I3->Ç
 cl:Ç
 cd:I3->Ç
 cv:I3->V×V×V×V
 to:I3->Ç
 sd:Ç
 li:Ç
 pu:Ç
 ta:Ç
 la:Ç
 wi:Ç
 ma:Ç
 du:Ç
 room:Í
 B?:I3->Á Ah
 lr:I3->Á Bf
 B_:Á Í
 A?:Á Í
 wv:Á V
 wl:Á V
structure Ja where
 ow:Ã V
 ki:Ã V
 we:Ã V
 mp:Í
 mt:Í
 mL:Á V
 go:Ç
 M_:Á V
section
variable (a:Re)
def Re.cells(x:Ja):Á AC:=[(.cell a.n,.cell x.ow),(.cell<|a.n+1,.cell x.ki),(.cell<|a.n+2,.cell x.we),(.list a.pl,.list [.ref<|.list<|a.p 0,.ref<|.list<|a.p 1,.ref<|.list<|a.p 2]),(.list<|a.p 0,.list<|(a.B? 0).map Ah.v),(.list<|a.p 1,.list<|(a.B? 1).map Ah.v),(.list<|a.p 2,.list<|(a.B? 2).map Ah.v),(.list a.cl,.list [.ref<|.dict<|a.cd 0,.ref<|.dict<|a.cd 1,.ref<|.dict<|a.cd 2]),(.dict<|a.cd 0,.dict [(.str "rows",(a.cv 0).1),(.str "row",(a.cv 0).2.1),(.str "slip",(a.cv 0).2.2.1),(.str "since",(a.cv 0).2.2.2),(.str "told",.ref<|.list<|a.to 0)]),(.dict<|a.cd 1,.dict [(.str "rows",(a.cv 1).1),(.str "row",(a.cv 1).2.1),(.str "slip",(a.cv 1).2.2.1),(.str "since",(a.cv 1).2.2.2),(.str "told",.ref<|.list<|a.to 1)]),(.dict<|a.cd 2,.dict [(.str "rows",(a.cv 2).1),(.str "row",(a.cv 2).2.1),(.str "slip",(a.cv 2).2.2.1),(.str "since",(a.cv 2).2.2.2),(.str "told",.ref<|.list<|a.to 2)]),(.list<|a.to 0,.list<|(a.lr 0).map Bf.v),(.list<|a.to 1,.list<|(a.lr 1).map Bf.v),(.list<|a.to 2,.list<|(a.lr 2).map Bf.v),(.dict a.sd,.dict [(.str "room",.int a.room),(.str "lies",.ref<|.list a.li),(.str "put",.ref<|.list a.pu),(.str "taken",.ref<|.list a.ta),(.str "is_sound",.bool Å)]),(.list a.pu,.list<|a.B_.map .int),(.list a.ta,.list<|a.A?.map .int),(.list a.la,.list a.wv),(.list a.wi,.list a.wl),(.dict a.ma,.dict [(.str "put",.int x.mp),(.str "take",.int x.mt)]),(.list a.du,.list x.mL),(.list x.go,.list x.M_)]
structure N9(x:Ja)(lc:Ï->Ã V):Prop where pl:lc "plans"=À (.ref<|.list a.pl)cl:lc "clients"=À (.ref<|.list a.cl)st:lc "store"=À (.ref<|.dict a.sd)ma:lc "many"=À (.ref<|.dict a.ma)du:lc "due"=À (.ref<|.list a.du)go:lc "got"=À (.ref<|.list x.go)wa:lc "waiting"=À (.ref<|.list a.la)rm:lc "room"=À (.int a.room)th:lc "thing"=lc "thing"
end
def gG:Đ->ì:=XA
def je(e:ì):ì:=(X0 e).headD e
def hK(h:jl)(env:BJ)(e:ì)(v:V):Pr:=cN (P:=λZ=>Pr) (λZ=>.C_) (λZ Z Z Z=>.C_) (λZ Z Z=>.C_) (λelt gs sc Z=>match gs with
 |[⟨t,_,fs,_⟩]=>match g8 h elt t fs with|À c=>(match Ch env sc.names with|À cl=>c.p ⟨sc,cl⟩ v|È=>.C_)|È=>.C_
 |_=>.C_) (λZ Z Z Z=>.C_) e
theorem ED{n:Ç}(h:Hs L s)(m:((.list n,.list l):AC)∈L):BH (.ref<|.list n) s=À l:=by show(match s.h (.list n)with|À (.list l)=>À l|À (.dict l)=>_|_=>È)=_;exact AA (h.at_ _ m).1 Ä
theorem JJ{n hs m U? m2:Ç}{r r2:Á Ç}{all:Á V}(h:Hs L s)(hl:s.A!=lc)(hc:AL cs)(yl:AL xU)(hi:∀s,Hs L s->BH H! s=À all) (hb:∀v∈all,∀s,Hs L s->A7 ((te v).run TT.A_ (AK TT n) s) (.ok<|Ij<|f v) (Hs L))(hz:Y9 (Gc n p lc L s.nx hs cs) È (Nz.res m r)=À ⟨.comp,B' te H! all all [],L,lc,Y9 (Gc n p lc L s.nx hs cs) [] λz=>z.e.map (·.2)⟩)(k2:∀md,(BD n (FN (Gc n p lc L s.nx hs cs)<|.D!<|all.filterMap f) lc L md U? xU).res m2 r2=À ⟨v2,L2,vY,(BD n (FN (Gc n p lc L s.nx hs cs)<|.D!<|all.filterMap f) lc L md U? xU).T?⟩):Aa (p.run TT.A_ (AK TT n) s) v2 (Hs L2) vY:=by x_go;obtain⟨s1,e1,h1,l1⟩:=D5 (T:=TT) Ä h hl hc hz;obtain⟨s2,e2,h2,_⟩:=Na (C:=AK TT n) (G:=TT.A_) (P:=λZ=>Ŀ) (te:=te) (f:=f) hi all [] (GP.comp.M! s1) (λv hv s h Z=>by obtain⟨s',e,h'⟩:=hb v hv s h;exact⟨s',e,h',Þ⟩) (h1.lz _) Þ;obtain⟨s3,e3,h3,l3⟩:=AE (s:={s2 with A!:=s1.A!}) (h2.lz _) l1 yl<|k2 s2.nx;refine zk<|⟨s3,e1.trans ?_,h3,l3⟩;refine AA e2 ?_;exact e3
section
variable{a:Re}{m:Í}
def IZ(k:Kd)(v:V):Ã V:=match v with|.D! (.str y::_)=>if y=k.str then À v else È|_=>È
def cf(n:Ç):V->Pr:=hK (OE 36) ⟨(BS 109).scope,Lx n⟩<|je<|gG<|(Gu<|BZ 109 4).getD 1<|.Pass ⟨0,0,0,0⟩
theorem iL(h:Hs (a.cells x++tail) s)(ho:x.ow=À (.int i.val))(hp:s.A! "plans"=À (.ref<|.list a.pl))(hr:BC ((a.B? i).map Ah.v) (-1)=À (Ah.v<|.call k w m)):Aa ((sg a.n 0 1).run TT.A_ (AK TT 19) s) (.ok .none) (Hs<|a.cells {x with ki:=À<|.str k.str}++tail) s.A!:=by obtain⟨ow,ki,we,mp,mt,mL,go,M_⟩:=x;have ho:ow=À (.int i.val):=ho;subst ho;induction i using NK with|h0=>exact AE (hs:=BV [126,0,6,8,126,2,2]) (m:=22) (r:=keep 0 22) (v:=.ok .none) h Ä (.cons (Â X.o hp)<|.cons (Â X.o hr) .nil) ⋯|h1=>exact AE (hs:=BV [126,0,6,10,126,2,2]) (m:=22) (r:=keep 0 22) (v:=.ok .none) h Ä (.cons (Â X.o hp)<|.cons (Â X.o hr) .nil) ⋯|h2=>exact AE (hs:=BV [126,0,6,12,126,2,2]) (m:=22) (r:=keep 0 22) (v:=.ok .none) h Ä (.cons (Â X.o hp)<|.cons (Â X.o hr) .nil) ⋯
theorem Zs(hk:x.ki=À (.str k.str))(ok:Er k row)(h:Hs (a.cells x++tail) s):A7 ((cf a.n row.v).run TT.A_ (AK TT 19) s) (.ok<|Ij<|IZ k row.v) (Hs<|a.cells x++tail):=by obtain⟨ow,ki,we,mp,mt,mL,go,M_⟩:=x;have hk:ki=À (.str k.str):=hk;subst hk;induction row with|rest y=>induction k<;>exact By (hs:=BV [2]) (m:=22) (r:=keep 0 22) (cs:=[]) (v:=.ok .none) h Ä .nil ⋯|call k' w m=>have e:k'=k:=ok.1;subst e;induction k'<;>exact By (hs:=BV [2]) (m:=22) (r:=keep 0 22) (cs:=[]) (v:=.ok<|.D! [Ah.v<|.call _ w m]) h Ä .nil ⋯
theorem iK(h:Hs (a.cells x++tail) s)(ho:x.ow=À (.int i.val))(hk:x.ki=À (.str k.str))(ok:∀r∈a.B? i,Er k r)(hl:(((a.B? i).map Ah.v).filterMap<|IZ k).length<G_)(hp:s.A! "plans"=À (.ref<|.list a.pl)):Aa ((sg a.n 1 2).run TT.A_ (AK TT 19) s) (.ok .none) (Hs<|a.cells x++tail) (AD s.A! "calls"<|.int (((a.B? i).map Ah.v).filterMap<|IZ k).length):=by
 have hb:∀v∈(a.B? i).map Ah.v,∀s,Hs (a.cells x++tail) s->A7 ((cf a.n v).run TT.A_ (AK TT 19) s) (.ok<|Ij<|IZ k v) (Hs<|a.cells x++tail):=λv hv s h=>by obtain⟨r,hr,rfl⟩:=MD hv;exact Zs hk (ok r hr) h
 obtain⟨ow,ki,we,mp,mt,mL,go,M_⟩:=x;have ho:ow=À (.int i.val):=ho;have hk:ki=À (.str k.str):=hk;subst ho hk;have g1:AL [(X.o<|s.A! "plans",X.o<|À<|V.ref<|.list a.pl)]:=.cons (Â X.o hp) .nil;have g2:AL [(X.b<|Ê<|(((a.B? i).map Ah.v).filterMap<|IZ k).length<G_,X.b Å)]:=.cons (AU hl) .nil;induction i using NK with|h0=>exact JJ (te:=cf a.n) (hs:=BV [126,0,6,8,8]) (m:=22) (r:=keep 0 22) (m2:=23) (r2:=keep 1 22) (U?:=BV [127,1]) (v2:=.ok .none) h Ä g1 g2 (λs h=>ED (n:=a.p 0) h<|.tail _<|.tail _<|.tail _<|.tail _<|.head _) hb ⋯ λmd=>⋯|h1=>exact JJ (te:=cf a.n) (hs:=BV [126,0,6,10,10]) (m:=22) (r:=keep 0 22) (m2:=23) (r2:=keep 1 22) (U?:=BV [127,1]) (v2:=.ok .none) h Ä g1 g2 (λs h=>ED (n:=a.p 1) h<|.tail _<|.tail _<|.tail _<|.tail _<|.tail _<|.head _) hb ⋯ λmd=>⋯|h2=>exact JJ (te:=cf a.n) (hs:=BV [126,0,6,12,12]) (m:=22) (r:=keep 0 22) (m2:=23) (r2:=keep 1 22) (U?:=BV [127,1]) (v2:=.ok .none) h Ä g1 g2 (λs h=>ED (n:=a.p 2) h<|.tail _<|.tail _<|.tail _<|.tail _<|.tail _<|.tail _<|.head _) hb ⋯ λmd=>⋯
end
def DL(ns:Á Ï)(lc vc:Ï->Ã V):Prop:=∀y,y∉ns->vc y=lc y
theorem DL.trans{ns:Á Ï}(h:DL ns a b)(g:DL ns b c):DL ns a c:=λy hy=>(g y hy).trans<|h y hy
theorem C1{ns:Á Ï}{x:Ï}(h:DL ns lc vc)(hx:x∈ns):DL ns lc (AD vc x v):=λy hy=>(Ì λe:y=x=>hy<|by exact AA e hx).trans<|h y hy
def RT:Á Ï:=["wait","answer","raised","what","lasted"]
def TM(n:Ç)(v:V):Pr:=(((OE 38).a<|Vi<|(Gu<|BZ 109 4).getD 4<|.Pass ⟨0,0,0,0⟩).p ⟨(BS 109).scope,Lx n⟩ v).bind λZ=>(EU 38<|Gu<|(Gu<|BZ 109 4).getD 4<|.Pass ⟨0,0,0,0⟩).p ⟨(BS 109).scope,Lx n⟩
def SL(lc:Ï->Ã V)(t:Bf):Ï->Ã V:=AD (AD (AD (AD (AD lc "wait" t.w.v) "answer" t.a.v) "raised" .none) "what"<|.int t.nS) "lasted"<|.int t.mW
theorem eZ(h:DL RT xv lc):DL RT xv (SL lc t):=C1 (C1 (C1 (C1 (C1 h<|by decide)<|by decide)<|by decide)<|by decide)<|by decide
def Jy(t:Bf):Ã V:=(Pw t).map .int
section
variable{a:Re}{m:Í}{wl:Ç}
theorem fH(hw:x.we=À (.ref<|.list wl))(hh:mf t.w t.a t.mW)(hl:acc.length<G_)(h:Hs (a.cells x++(.list wl,.list acc)::tail) s)(ls:s.A!=lc):Aa ((TM a.n t.v).run TT.A_ (AK TT 19) s) (.ok .none) (Hs<|a.cells x++(.list wl,.list<|acc++(Jy t).toList)::tail) (SL lc t):=by have key:∀(tail:Á AC) (nx:Ç),Fu (A9 19 "_law_may_hear" (TM a.n t.v) lc tail nx 0 []) È (Fy.res 0 [])=À ⟨[t.w.v,t.a.v,.none,.int t.mW],tail,SL lc t,Fu (A9 19 "_law_may_hear" (TM a.n t.v) lc tail nx 0 []) [] λz=>z.e.map (·.2)⟩:=λtail nx=>⋯;x_go;obtain⟨s1,e1,h1,l1⟩:=A3 (T:=TT) Ä h ls .nil<|key _ _;obtain⟨s2,e2,h2,l2⟩:=Ur hh h1;obtain⟨ow,ki,we,mp,mt,mL,go,M_⟩:=x;have hw:we=À (.ref<|.list wl):=hw;subst hw;obtain⟨tw,ta,nS,mW⟩:=t;have E:=λ{o:AN V} (e3:(Bi (A9 19 "_law_may_hear" (TM a.n<|Bf.v ⟨tw,ta,nS,mW⟩) lc (a.cells ⟨ow,ki,À<|.ref<|.list wl,mp,mt,mL,go,M_⟩++(.list wl,.list acc)::tail) s.nx 0 [])<|.bool Å).run TT.A_ (AK TT 19) s2=o)=>e1.trans ((Â (AN.bind · _) e2).trans e3);induction ta with|G?=>obtain⟨s3,e3,h3,l3⟩:=AE (n:=19) (p:=Bi (A9 19 "_law_may_hear" (TM a.n<|Bf.v ⟨tw,.G?,nS,mW⟩) lc (a.cells ⟨ow,ki,À<|.ref<|.list wl,mp,mt,mL,go,M_⟩++(.list wl,.list acc)::tail) s.nx 0 [])<|.bool Å) (hs:=BV [4,44,44,127,44]) (m:=23) (r:=keep 0 23) (cs:=[(.b<|Ê<|acc.length<G_,.b Å)]) (v:=.ok .none) (L':=a.cells ⟨ow,ki,À<|.ref<|.list wl,mp,mt,mL,go,M_⟩++(.list wl,.list<|acc++[.int nS])::tail) (A!:=SL lc ⟨tw,.G?,nS,mW⟩) h2 (l2.trans l1) (.cons (AU hl) .nil) ⋯;exact zk<|⟨s3,E e3,h3,l3⟩|I!=>obtain⟨s3,e3,h3,l3⟩:=AE (n:=19) (p:=Bi (A9 19 "_law_may_hear" (TM a.n<|Bf.v ⟨tw,.I!,nS,mW⟩) lc (a.cells ⟨ow,ki,À<|.ref<|.list wl,mp,mt,mL,go,M_⟩++(.list wl,.list acc)::tail) s.nx 0 [])<|.bool Å) (hs:=0) (m:=23) (r:=keep 0 23) (cs:=[]) (v:=.ok .none) (L':=a.cells ⟨ow,ki,À<|.ref<|.list wl,mp,mt,mL,go,M_⟩++(.list wl,.list acc)::tail) (A!:=SL lc ⟨tw,.I!,nS,mW⟩) h2 (l2.trans l1) .nil ⋯;exact zk<|⟨s3,E e3,by exact AA (show acc++(Jy ⟨tw,.I!,nS,mW⟩).toList=acc from å _) h3,l3⟩|mP=>obtain⟨s3,e3,h3,l3⟩:=AE (n:=19) (p:=Bi (A9 19 "_law_may_hear" (TM a.n<|Bf.v ⟨tw,.mP,nS,mW⟩) lc (a.cells ⟨ow,ki,À<|.ref<|.list wl,mp,mt,mL,go,M_⟩++(.list wl,.list acc)::tail) s.nx 0 [])<|.bool Å) (hs:=0) (m:=23) (r:=keep 0 23) (cs:=[]) (v:=.ok .none) (L':=a.cells ⟨ow,ki,À<|.ref<|.list wl,mp,mt,mL,go,M_⟩++(.list wl,.list acc)::tail) (A!:=SL lc ⟨tw,.mP,nS,mW⟩) h2 (l2.trans l1) .nil ⋯;exact zk<|⟨s3,E e3,by exact AA (show acc++(Jy ⟨tw,.mP,nS,mW⟩).toList=acc from å _) h3,l3⟩
theorem iJ(h:Hs (a.cells x++tail) s)(ho:x.ow=À (.int i.val))(hp:s.A! "clients"=À (.ref<|.list a.cl)):H5 (λs' wl=>(sg a.n 2 4).run TT.A_ (AK TT 19) s=.ok .none s') (λs' wl=>Hs (a.cells {x with we:=À<|.ref<|.list wl}++(.list wl,.list [])::tail) s') λs' wl=>s'.A!=AD s.A! "told" (.ref<|.list<|a.to i):=by
 obtain⟨ow,ki,we,mp,mt,mL,go,M_⟩:=x;have ho:ow=À (.int i.val):=ho;subst ho;have ix:Aa ((sg a.n 2 4).run TT.A_ (AK TT 19) s) (.ok .none) (Hs<|a.cells ⟨À<|.int i.val,ki,À<|.ref<|.list s.nx,mp,mt,mL,go,M_⟩++(.list s.nx,.list [])::tail) (AD s.A! "told"<|.ref<|.list<|a.to i):=by refine AE (hs:=BV [126,0,14,16+2*i.val,4,4]) (m:=23) (r:=keep 1 22++[0]) (v:=.ok .none) h Ä (.cons (Â X.o hp) .nil) ?_;induction i using NK<;>kernel_rfl
 obtain⟨s',e,h',l'⟩:=ix;exact⟨s',s.nx,e,h',l'⟩
end
section
variable{a:Re}{m:Í}{wl:Ç}
def Fp(l:Á Bf):Á V:=l.filterMap Jy
theorem cb(l:Á Bf):(Fp l).length<=l.length:=Ť _ _
theorem eE(hw:x.we=À (.ref<|.list wl))(hh:∀t∈a.lr i,mf t.w t.a t.mW)(hl:(a.lr i).length<G_)(hi:∀s acc,Hs (a.cells x++(.list wl,.list acc)::tail) s->BH (.ref<|.list<|a.to i) s=À ((a.lr i).map Bf.v))(l:Á Bf):∀(pre:Á Bf) (s:S),pre++l=a.lr i->Hs (a.cells x++(.list wl,.list<|Fp pre)::tail) s->DL RT lc s.A!->D4 (λs'=>(D1 (TM a.n) (.ref<|.list<|a.to i) ((a.lr i).map Bf.v)<|l.map Bf.v).run TT.A_ (AK TT 19) s=.ok .none s') (λs'=>Hs (a.cells x++(.list wl,.list<|Fp<|a.lr i)::tail) s') λs'=>DL RT lc s'.A!:=by induction l with|nil=>exact λpre s e h kp=>⟨s,FK<|hi s _ h,by exact AP (e ..)<|AA (å ..) h,kp⟩|cons t r ih=>
  intro pre s e h kp;have pE:(Fp pre).length<G_:=Ò (cb pre)<|Ò (by exact AP e<|AA Õ<|ë _ _) hl;have ew:Fp pre++(Jy t).toList=Fp (pre++[t]):=by
   unfold Fp;refine AA Á.filterMap_append ?_;generalize q:Jy t=zc;rcases zc with _|v;.exact AA (ĥ q) Ä
   .exact AA (Ĥ q) Ä
  x_go;obtain⟨s1,e1,h1,l1⟩:=fH hw (hh t<|AP e<|Ö _<|.head _) pE h Ä;obtain⟨s2,e2,h2,k2⟩:=ih (pre++[t]) s1 (by exact AP e<|AA (ô ..) Ä) (AP ew h1) (by exact AA l1<|eZ kp);exact zk ⟨s2,(DP (hi s _ h) e1).trans e2,h2,k2⟩
theorem Uw{n:Ç}{p:Pr}{v:V}{s s1 s2:S}{i:Ç}{L:Á AC}{l:Á V}(h:Hs L s)(m:((.list i,.list l):AC)∈L)(e:p.run TT.A_ (AK TT n) s=.ok v s2)(h2:s2.lk=[]):(GP.N?<|.ref<|.list i).J? s (p.run TT.A_ (AK TT n)<|(GP.N?<|.ref<|.list i).M! s)=À (v,s2):=by
 have e0:(GP.N?<|.ref<|.list i).M! s=s:=by show({s with lk:=KP (.list i) (s.h<|.list i)++s.lk}:S)=s;exact AA (h.at_ _ m).1 Ä
 refine AA e0<|AA e ?_;show À (v,({s2 with lk:=s.lk}:S))=_;exact AA h.lk<|AP h2 Ä
theorem iI(hw:x.we=À (.ref<|.list wl))(ho:x.ow=À (.int i.val))(hh:∀t∈a.lr i,mf t.w t.a t.mW)(hl:(a.lr i).length<G_)(h:Hs (a.cells x++(.list wl,.list [])::tail) s)(hp:s.A! "told"=À (.ref<|.list<|a.to i)):D4 (λs'=>(sg a.n 4 5).run TT.A_ (AK TT 19) s=.ok .none s') (λs'=>Hs (a.cells x++(.list wl,.list<|Fp<|a.lr i)::tail) s') λs'=>DL RT s.A! s'.A!:=by
 have mem:∀acc,((.list<|a.to i,.list<|(a.lr i).map Bf.v):AC)∈a.cells x++(.list wl,.list acc)::tail:=λacc=>by refine æ _ ?_;induction i using NK with|h0=>exact BT (i:=11) Ä|h1=>exact BT (i:=12) Ä|h2=>exact BT (i:=13) Ä
 have z:D4 (λs'=>(sg a.n 4 5).run TT.A_ (AK TT 19) s=C9 ((GP.N?<|.ref<|.list<|a.to i).J? s'<|(D1 (TM a.n) (.ref<|.list<|a.to i) ((a.lr i).map Bf.v)<|(a.lr i).map Bf.v).run TT.A_ (AK TT 19)<|(GP.N?<|.ref<|.list<|a.to i).M! s') λv s=>(F8 v<|.ret .none).run TT.A_ (AK TT 19) s) (λs'=>Hs (a.cells x++(.list wl,.list [])::tail) s') λs'=>s'.A!=s.A!:=by obtain⟨ow,ki,we,mp,mt,mL,go,M_⟩:=x;have ho:ow=À (.int i.val):=ho;subst ho;induction i using NK with|h0=>obtain⟨s',e,h',l'⟩:=D5 (T:=TT) (n:=19) (p:=sg a.n 4 5) (i:=.N?<|.ref<|.list<|a.to 0) (q:=D1 (TM a.n) (.ref<|.list<|a.to 0) ((a.lr 0).map Bf.v)<|(a.lr 0).map Bf.v) (L':=a.cells ⟨À<|.int (0:I3).val,ki,we,mp,mt,mL,go,M_⟩++(.list wl,.list [])::tail) (lc:=s.A!) (A!:=s.A!) (hs:=BV [126,22]) (m:=23) (r:=keep 0 23) (cs:=[(X.o<|s.A! "told",X.o<|À<|.ref<|.list<|a.to 0)]) Ä h Ä (.cons (Â X.o hp) .nil) ⋯;exact⟨s',e.trans<|Â (C9 _)<|ø λv=>ø λs=>Â (λp:Pr=>p.run TT.A_ (AK TT 19) s) ⋯,h',l'⟩|h1=>obtain⟨s',e,h',l'⟩:=D5 (T:=TT) (n:=19) (p:=sg a.n 4 5) (i:=.N?<|.ref<|.list<|a.to 1) (q:=D1 (TM a.n) (.ref<|.list<|a.to 1) ((a.lr 1).map Bf.v)<|(a.lr 1).map Bf.v) (L':=a.cells ⟨À<|.int (1:I3).val,ki,we,mp,mt,mL,go,M_⟩++(.list wl,.list [])::tail) (lc:=s.A!) (A!:=s.A!) (hs:=BV [126,24]) (m:=23) (r:=keep 0 23) (cs:=[(X.o<|s.A! "told",X.o<|À<|.ref<|.list<|a.to 1)]) Ä h Ä (.cons (Â X.o hp) .nil) ⋯;exact⟨s',e.trans<|Â (C9 _)<|ø λv=>ø λs=>Â (λp:Pr=>p.run TT.A_ (AK TT 19) s) ⋯,h',l'⟩|h2=>obtain⟨s',e,h',l'⟩:=D5 (T:=TT) (n:=19) (p:=sg a.n 4 5) (i:=.N?<|.ref<|.list<|a.to 2) (q:=D1 (TM a.n) (.ref<|.list<|a.to 2) ((a.lr 2).map Bf.v)<|(a.lr 2).map Bf.v) (L':=a.cells ⟨À<|.int (2:I3).val,ki,we,mp,mt,mL,go,M_⟩++(.list wl,.list [])::tail) (lc:=s.A!) (A!:=s.A!) (hs:=BV [126,26]) (m:=23) (r:=keep 0 23) (cs:=[(X.o<|s.A! "told",X.o<|À<|.ref<|.list<|a.to 2)]) Ä h Ä (.cons (Â X.o hp) .nil) ⋯;exact⟨s',e.trans<|Â (C9 _)<|ø λv=>ø λs=>Â (λp:Pr=>p.run TT.A_ (AK TT 19) s) ⋯,h',l'⟩
 obtain⟨s1,e1,h1,l1⟩:=z;obtain⟨s2,e2,h2,k2⟩:=eE (lc:=s.A!) (tail:=tail) hw hh hl (λs acc h=>ED h<|mem acc) (a.lr i) [] s1 Ä h1 (by exact AP l1 λZ Z=>Ä);refine⟨s2,e1.trans ?_,h2,k2⟩;exact AA (Uw (s1:=s1) h1 (mem []) e2 h2.lk) Ä
end
def Ja.add(x:Ja):Kd->Í->Ja|.B_,d=>{x with mp:=x.mp+d}|.take,d=>{x with mt:=x.mt+d}
def fw(e:ì):ì:=(X0<|(X0 e).getD 1 e).headD e
def lU:Đ->ì:=XA
def TF(q n:Ç):V->Pr:=hK (OE 35) ⟨(BS 109).scope,Lx n⟩<|fw<|lU<|(Gu<|BZ 109 4).getD q<|.Pass ⟨0,0,0,0⟩
theorem Kp{c:Prop}[ğ c](h:¬c):X.b (id<|Ê c)=.b Æ:=Â X.b<|ā h
theorem WG{c:Prop}[ğ c]{b:Ë}(h:Ê c=b):X.b (id<|Ê c)=.b b:=Â X.b h
section
variable{m c:Í}{wl:Ç}
def Jd(a:Re)(i:I3):Í:=((a.lr i).map Bf.v).length
theorem iH(hw:x.we=À (.ref<|.list wl))(ho:x.ow=À (.int i.val))(hk:x.ki=À (.str k.str))(h1:s.A! "told"=À (.ref<|.list<|a.to i))(h2:s.A! "calls"=À (.int c))(h3:s.A! "due"=À (.ref<|.list a.du))(h4:s.A! "many"=À (.ref<|.dict a.ma))(hc:¬c<Jd a i)(hd:x.mL.length<G_)(h:Hs (a.cells x++(.list wl,.list acc)::tail) s):Aa ((sg a.n 5 8).run TT.A_ (AK TT 19) s) (.ok .none) (Hs<|a.cells (({x with mL:=x.mL++Au (Ê<|Jd a i<c) (.int<|i.val+1)}:Ja).add k<|c-Jd a i+acc.length)++(.list wl,.list acc)::tail) s.A!:=by
 obtain⟨ow,ki,we,mp,mt,mL,go,M_⟩:=x;have hw:we=À (.ref<|.list wl):=hw;have ho:ow=À (.int i.val):=ho;have hk:ki=À (.str k.str):=hk;subst hw ho hk;have key:∀(b:Ë) (T:Ç),Ê (Jd a i<c)=b->T=22+2*i.val->Aa ((sg a.n 5 8).run TT.A_ (AK TT 19) s) (.ok .none) (Hs<|a.cells ((⟨À<|.int i.val,À<|.str k.str,À<|.ref<|.list wl,mp,mt,mL++Au b (.int<|i.val+1),go,M_⟩:Ja).add k<|c-Jd a i+acc.length)++(.list wl,.list acc)::tail) s.A!:=by
  intro b T hb hT;subst hT;rcases b with _|_;.refine AA (show mL++Au Æ (V.int<|i.val+1)=mL from å _) ?_;have g:AL [(X.o<|s.A! "told",X.o<|À<|.ref<|.list<|a.to i),(X.o<|s.A! "calls",X.o<|À<|.int c),(X.b<|id<|Ê<|c<Jd a i,X.b Æ),(X.o<|s.A! "told",X.o<|À<|.ref<|.list<|a.to i),(X.o<|s.A! "calls",X.o<|À<|.int c),(X.b<|id<|Ê<|Jd a i<c,X.b Æ),(X.o<|s.A! "many",X.o<|À<|.ref<|.dict a.ma),(X.o<|s.A! "calls",X.o<|À<|.int c),(X.o<|s.A! "told",X.o<|À<|.ref<|.list<|a.to i)]:=.cons (Â X.o h1)<|.cons (Â X.o h2)<|.cons (Kp hc)<|.cons (Â X.o h1)<|.cons (Â X.o h2)<|.cons (WG hb)<|.cons (Â X.o h4)<|.cons (Â X.o h2)<|.cons (Â X.o h1) .nil;induction i using NK with
   |h0=>cases k with|B_=>exact AE (hs:=BV [126,22,126,127,126,22,126,127,126,2,38,125,126,126,22,4,44,38,38,38]) (m:=23) (r:=keep 0 23) (v:=.ok .none) h Ä g ⋯|take=>exact AE (hs:=BV [126,22,126,127,126,22,126,127,126,2,38,125,126,126,22,4,44,38,38,38]) (m:=23) (r:=keep 0 23) (v:=.ok .none) h Ä g ⋯
   |h1=>cases k with|B_=>exact AE (hs:=BV [126,24,126,127,126,24,126,127,126,2,38,125,126,126,24,4,44,38,38,38]) (m:=23) (r:=keep 0 23) (v:=.ok .none) h Ä g ⋯|take=>exact AE (hs:=BV [126,24,126,127,126,24,126,127,126,2,38,125,126,126,24,4,44,38,38,38]) (m:=23) (r:=keep 0 23) (v:=.ok .none) h Ä g ⋯
   |h2=>cases k with|B_=>exact AE (hs:=BV [126,26,126,127,126,26,126,127,126,2,38,125,126,126,26,4,44,38,38,38]) (m:=23) (r:=keep 0 23) (v:=.ok .none) h Ä g ⋯|take=>exact AE (hs:=BV [126,26,126,127,126,26,126,127,126,2,38,125,126,126,26,4,44,38,38,38]) (m:=23) (r:=keep 0 23) (v:=.ok .none) h Ä g ⋯
  .have g:AL [(X.o<|s.A! "told",X.o<|À<|.ref<|.list<|a.to i),(X.o<|s.A! "calls",X.o<|À<|.int c),(X.b<|id<|Ê<|c<Jd a i,X.b Æ),(X.o<|s.A! "told",X.o<|À<|.ref<|.list<|a.to i),(X.o<|s.A! "calls",X.o<|À<|.int c),(X.b<|id<|Ê<|Jd a i<c,X.b Å),(X.o<|s.A! "due",X.o<|À<|.ref<|.list a.du),(X.b<|Ê<|mL.length<G_,X.b Å),(X.o<|s.A! "many",X.o<|À<|.ref<|.dict a.ma),(X.o<|s.A! "calls",X.o<|À<|.int c),(X.o<|s.A! "told",X.o<|À<|.ref<|.list<|a.to i)]:=.cons (Â X.o h1)<|.cons (Â X.o h2)<|.cons (Kp hc)<|.cons (Â X.o h1)<|.cons (Â X.o h2)<|.cons (WG hb)<|.cons (Â X.o h3)<|.cons (AU hd)<|.cons (Â X.o h4)<|.cons (Â X.o h2)<|.cons (Â X.o h1) .nil;induction i using NK with
   |h0=>cases k with|B_=>exact AE (hs:=BV [126,22,126,127,126,22,126,127,126,40,0,40,127,40,126,2,38,125,126,126,22,4,44,38,38,38]) (m:=23) (r:=keep 0 23) (v:=.ok .none) h Ä g ⋯|take=>exact AE (hs:=BV [126,22,126,127,126,22,126,127,126,40,0,40,127,40,126,2,38,125,126,126,22,4,44,38,38,38]) (m:=23) (r:=keep 0 23) (v:=.ok .none) h Ä g ⋯
   |h1=>cases k with|B_=>exact AE (hs:=BV [126,24,126,127,126,24,126,127,126,40,0,40,127,40,126,2,38,125,126,126,24,4,44,38,38,38]) (m:=23) (r:=keep 0 23) (v:=.ok .none) h Ä g ⋯|take=>exact AE (hs:=BV [126,24,126,127,126,24,126,127,126,40,0,40,127,40,126,2,38,125,126,126,24,4,44,38,38,38]) (m:=23) (r:=keep 0 23) (v:=.ok .none) h Ä g ⋯
   |h2=>cases k with|B_=>exact AE (hs:=BV [126,26,126,127,126,26,126,127,126,40,0,40,127,40,126,2,38,125,126,126,26,4,44,38,38,38]) (m:=23) (r:=keep 0 23) (v:=.ok .none) h Ä g ⋯|take=>exact AE (hs:=BV [126,26,126,127,126,26,126,127,126,40,0,40,127,40,126,2,38,125,126,126,26,4,44,38,38,38]) (m:=23) (r:=keep 0 23) (v:=.ok .none) h Ä g ⋯
 exact key _ _ Ä Ä
end
theorem Kc(l:Á Í):HL (Kz 8) (l.map V.int)=À (l.map ñ):=by induction l with|nil=>rfl|cons i r ih=>exact Â (R6 (λx y=>x::y)<|À<|ñ i) ih
theorem Qd(i j:Í):û (.int i) (.int j)=Ê (i=j):=by simp[û];rfl
theorem VT(l:Á Í):Ŕ (l.map ñ) (l.map ñ)=Å:=by induction l with|nil=>simp[Ŕ]|cons i r ih=>simp[Ŕ,û,ih]
theorem NS(l:Á Í):ZP (l.map V.int) (l.map V.int)=À Å:=by unfold ZP;exact AA (Î Ä ..)<|AA (Kc ..)<|Â À<|VT l
theorem WT(j:Í)(l:Á Í):((l.map ñ).any λy=>y.eqv<|.int j)=Ê (j∈l):=by induction l with|nil=>rfl|cons i r ih=>
  show((ñ i).eqv (.int j)||(r.map ñ).any λy=>y.eqv<|.int j)=_;refine AA (Qd ..)<|AA ih ?_;by_cases e:i=j;.refine AA (Ü e ..) ?_;rw[Ü<|show j∈i::r from AP e<|.head _];rfl
  .exact AA (ā e ..)<|decide_eq_decide.mpr ⟨λq=>.tail _ q,λh=>(Bt h).resolve_left λz=>e z.symm⟩
theorem SW(j:Í)(l:Á Í):PK (.int j) (l.map V.int)=À (Ê<|j∈l):=by
 unfold PK;rcases l with _|⟨i,r⟩;.rfl
 .rw[Ì<|by intro h;cases h];exact AA (Kc ..)<|Â À<|WT j<|i::r
theorem Qx{n hs m:Ç}{r:Á Ç}{all:Á V}{wl:Ç}{l:Á Í}(h:Hs L s)(hl:s.A!=lc)(hc:AL cs)(hi:∀s,Hs L s->BH H! s=À all) (hb:∀v∈all,∀s,Hs L s->A7 ((te v).run TT.A_ (AK TT n) s) (.ok<|Ij<|f v) (Hs L)) (hf:all.filterMap f=l.map V.int) (hlen:(l.map V.int).length<G_) (hm:((.list wl,.list<|l.map V.int):AC)∈L)(hz:Y9 (Gc n p lc L s.nx hs cs) È (Nz.res m r)=À ⟨.comp,B' te H! all all [],L,lc,Y9 (Gc n p lc L s.nx hs cs) [] λz=>z.e.map (·.2)⟩)(hx:∀md rs,Wk (Dy n Hz (FN (Gc n p lc L s.nx hs cs)<|.D! rs) lc L md 127 [(.b<|Ê<|rs.length<G_,.b Å)]) È (Js.res 1 [0])=À ⟨(.list md,.list rs)::L,lc,Wk (Dy n Hz (FN (Gc n p lc L s.nx hs cs)<|.D! rs) lc L md 127 [(.b<|Ê<|rs.length<G_,.b Å)]) [] λz=>z.e.map (·.2)⟩)(hn:∀md rs,DD (Dy n Hz (FN (Gc n p lc L s.nx hs cs)<|.D! rs) lc L md 127 [(.b<|Ê<|rs.length<G_,.b Å)])=.prim (.cmp .NotEq) [.ref<|.list wl,.ref<|.list md] (FB<|DD<|Dy n Hz (FN (Gc n p lc L s.nx hs cs)<|.D! rs) lc L md 127 [(.b<|Ê<|rs.length<G_,.b Å)]))(he:∀md rs ri tail,(BD n (FB (DD<|Dy n Hz (FN (Gc n p lc L s.nx hs cs)<|.D! rs) lc L md 127 [(.b<|Ê<|rs.length<G_,.b Å)])<|.bool Æ) lc tail ri 0 []).res 0 []=À ⟨.ok .none,tail,lc,(BD n (FB (DD<|Dy n Hz (FN (Gc n p lc L s.nx hs cs)<|.D! rs) lc L md 127 [(.b<|Ê<|rs.length<G_,.b Å)])<|.bool Æ) lc tail ri 0 []).T?⟩):Aa (p.run TT.A_ (AK TT n) s) (.ok .none) (Hs L) lc:=by x_go;obtain⟨s1,e1,h1,l1⟩:=D5 (T:=TT) Ä h hl hc hz;obtain⟨s2,e2,h2,_⟩:=Na (C:=AK TT n) (G:=TT.A_) (P:=λZ=>Ŀ) (te:=te) (f:=f) hi all [] (GP.comp.M! s1) (λv hv s h Z=>by obtain⟨s',e,h'⟩:=hb v hv s h;exact⟨s',e,h',Þ⟩) (h1.lz _) Þ;rw[hf]at e2;obtain⟨s3,e3,h3,l3⟩:=Gq (T:=TT) (s:={s2 with A!:=s1.A!}) Ä (h2.lz _) l1 (.cons (AU hlen) .nil)<|hx s2.nx<|l.map V.int;have e4:=Ul (G:=TT.A_) (C:=AK TT n) (k:=FB<|DD<|Dy n Hz (FN (Gc n p lc L s.nx hs cs)<|.D!<|l.map V.int) lc L s2.nx 127 [(.b<|Ê<|(l.map V.int).length<G_,.b Å)]) h3 (.tail _ hm) (.head _)<|NS l;obtain⟨s5,e5,h5,l5⟩:=AE h3 l3 .nil<|he s2.nx (l.map V.int) s3.nx _;refine zk<|⟨s5,e1.trans ?_,⟨λp hp=>h5.at_ p<|.tail _ hp,(Hx h5.nd).2,h5.lk⟩,l5⟩;refine AA e2<|e3.trans ?_;exact(Â (λq:Pr=>q.run TT.A_ (AK TT n) s3)<|hn s2.nx<|l.map V.int).trans<|e4.trans e5
section
variable{a:Re}{m c:Í}{wl:Ç}{l:Á Í}
def Ub(i:I3)(v:V):Ã V:=match v with|.int j=>bif owner i j then À v else È|_=>È
theorem Z6{j:Í}(ho:x.ow=À (.int i.val))(hs:Ap j)(h:Hs (a.cells x++tail) s):A7 ((TF 8 a.n<|.int j).run TT.A_ (AK TT 19) s) (.ok<|Ij<|Ub i<|.int j) (Hs<|a.cells x++tail):=by
 obtain⟨ow,ki,we,mp,mt,mL,go,M_⟩:=x;have ho:ow=À (.int i.val):=ho;subst ho;have key:∀b,owner i j=b->A7 ((TF 8 a.n<|.int j).run TT.A_ (AK TT 19) s) (.ok<|match b with|Å=>.D! [.int j]|Æ=>.none) (Hs<|a.cells ⟨À<|.int i.val,ki,we,mp,mt,mL,go,M_⟩++tail):=λb hb=>by
  have g:AL [(X.b<|Ê<|(0:Í)<10/\Ap j/\Ap 10,X.b Å),(X.b<|id<|id<|(ñ<|j.fdiv 10).eqv<|.int i.val,X.b b)]:=.cons (AU ⟨by decide,hs,by decide⟩)<|.cons (Â X.b<|(Qd _ _).trans hb) .nil;rcases b with _|_;.exact By (hs:=BV [125,127,0,125,127]) (m:=22) (r:=keep 0 22) (v:=.ok .none) h Ä g ⋯
  .exact By (hs:=BV [125,127,0,125,127]) (m:=22) (r:=keep 0 22) (v:=.ok<|.D! [.int j]) h Ä g ⋯
 obtain⟨s',e,h'⟩:=key _ Ä;refine⟨s',e.trans ?_,h'⟩;show AN.ok _ s'=AN.ok (Ij<|bif owner i j then À (V.int j)else È) s';cases q:owner i j<;>rfl
theorem XY(r:Á Í):(r.map V.int).filterMap (Ub i)=(r.filter<|owner i).map V.int:=by induction r with|nil=>rfl|cons j r ih=>
  show(V.int j::r.map V.int).filterMap (Ub i)=_;have q:Ub i (.int j)=bif owner i j then À (V.int j)else È:=Ä;generalize e:owner i j=zc at q;rcases zc with _|_;.exact AA (ĥ q)<|AA (Ĉ<|by exact AA e nofun)<|AA ih Ä
  .exact AA (Ĥ q)<|AA (Ĩ<|by exact e)<|AA ih Ä
theorem iG(hw:x.we=À (.ref<|.list wl))(ho:x.ow=À (.int i.val))(hk:x.ki=À (.str "put"))(h1:s.A! "store"=À (.ref<|.dict a.sd))(hs:∀j∈a.B_,Ap j)(hl:(a.B_.filter<|owner i).length<G_)(h:Hs (a.cells x++(.list wl,.list<|(a.B_.filter<|owner i).map V.int)::tail) s):Aa ((sg a.n 8 9).run TT.A_ (AK TT 19) s) (.ok .none) (Hs<|a.cells x++(.list wl,.list<|(a.B_.filter<|owner i).map V.int)::tail) s.A!:=by
 have hb:∀v∈a.B_.map V.int,∀s,Hs (a.cells x++(.list wl,.list<|(a.B_.filter<|owner i).map V.int)::tail) s->A7 ((TF 8 a.n v).run TT.A_ (AK TT 19) s) (.ok<|Ij<|Ub i v) (Hs<|a.cells x++(.list wl,.list<|(a.B_.filter<|owner i).map V.int)::tail):=λv hv s h=>by obtain⟨j,hj,rfl⟩:=MD hv;exact Z6 ho (hs j hj) h
 obtain⟨ow,ki,we,mp,mt,mL,go,M_⟩:=x;have hw:we=À (.ref<|.list wl):=hw;have hk:ki=À (.str "put"):=hk;subst hw hk;exact Qx (te:=TF 8 a.n) (H!:=.ref<|.list a.pu) (hs:=BV [2,4,125,126,28,30,30]) (m:=23) (r:=keep 0 23) (wl:=wl) h Ä (.cons (Â X.o h1) .nil) (λs h=>ED h (BT (i:=15) Ä)) hb (XY a.B_) (by exact AA (Ð ..) hl) (BT (i:=22) Ä) ⋯ (λmd rs=>⋯) (λmd rs=>⋯) λmd rs ri tail=>⋯
end
def M9:Pr->Ë:=O0 λo Z=>Z8 Æ (λc=>é c.ctorIdx 8) (λZ=>Æ) o
theorem ah{b:Ç}{l:Á Í}{j:Í}(h:Hs L s)(mb:((.list b,.list<|l.map V.int):AC)∈L):(Pr.prim (.cmp .In) [.int j,.ref<|.list b] k).run G C s=(k<|.bool<|Ê<|j∈l).run G C s:=by
 have ev:ZH (.int j) (.ref<|.list b) s=À (Ê<|j∈l):=by show(match s.h (.list b)with|À (.list l)=>PK (.int j) l|À (.dict l)=>(AW (.int j) l).map λx:Ã V=>x.isSome|_=>È)=_;exact AA (h.at_ _ mb).1<|SW j l
 show AN.bind (EO (ZH (.int j) (.ref<|.list b) s) s) _=_;exact AA ev Ä
section
variable{a:Re}{m c:Í}{wl:Ç}{l:Á Í}
def fG(l:Á Í)(v:V):Ã V:=match v with|.int j=>bif Ê (j∈l)then À v else È|_=>È
theorem ai{l:Á Í}(r:Á Í):(r.map V.int).filterMap (fG l)=(r.filter λj=>Ê<|j∈l).map V.int:=by induction r with|nil=>rfl|cons j r ih=>
  show(V.int j::r.map V.int).filterMap (fG l)=_;have q:fG l (.int j)=bif Ê (j∈l)then À (V.int j)else È:=Ä;generalize e:Ê (j∈l)=zc at q;rcases zc with _|_;.exact AA (ĥ q)<|AA (Ĉ<|by exact AA e nofun)<|AA ih Ä
  .exact AA (Ĥ q)<|AA (Ĩ<|by exact e)<|AA ih Ä
theorem fF{j:Í}(hw:x.we=À (.ref<|.list wl))(h:Hs (a.cells x++(.list wl,.list<|l.map V.int)::tail) s):A7 ((TF 9 a.n<|.int j).run TT.A_ (AK TT 19) s) (.ok<|Ij<|fG l<|.int j) (Hs<|a.cells x++(.list wl,.list<|l.map V.int)::tail):=by
 obtain⟨ow,ki,we,mp,mt,mL,go,M_⟩:=x;have hw:we=À (.ref<|.list wl):=hw;subst hw;obtain⟨s1,e1,h1,l1⟩:=Gq (T:=TT) (n:=19) (q:=M9) (p:=TF 9 a.n<|.int j) (lc:=s.A!) (A!:=AD s.A! "what"<|.int j) (L':=a.cells ⟨ow,ki,À<|.ref<|.list wl,mp,mt,mL,go,M_⟩++(.list wl,.list<|l.map V.int)::tail) (hs:=BV [4]) (m:=23) (r:=keep 0 23) (cs:=[]) Ä h Ä .nil ⋯;have en:DD (Dy 19 M9 (TF 9 a.n<|.int j) s.A! (a.cells ⟨ow,ki,À<|.ref<|.list wl,mp,mt,mL,go,M_⟩++(.list wl,.list<|l.map V.int)::tail) s.nx (BV [4]) [])=.prim (.cmp .In) [.int j,.ref<|.list wl] (FB<|DD<|Dy 19 M9 (TF 9 a.n<|.int j) s.A! (a.cells ⟨ow,ki,À<|.ref<|.list wl,mp,mt,mL,go,M_⟩++(.list wl,.list<|l.map V.int)::tail) s.nx (BV [4]) []):=⋯;have e2:=ah (G:=TT.A_) (C:=AK TT 19) (j:=j) (k:=FB<|DD<|Dy 19 M9 (TF 9 a.n<|.int j) s.A! (a.cells ⟨ow,ki,À<|.ref<|.list wl,mp,mt,mL,go,M_⟩++(.list wl,.list<|l.map V.int)::tail) s.nx (BV [4]) []) h1 (BT (i:=22) Ä);have E:=e1.trans<|(Â (λq:Pr=>q.run TT.A_ (AK TT 19) s1) en).trans e2;have fin:∀b:Ë,A7 ((FB (DD<|Dy 19 M9 (TF 9 a.n<|.int j) s.A! (a.cells ⟨ow,ki,À<|.ref<|.list wl,mp,mt,mL,go,M_⟩++(.list wl,.list<|l.map V.int)::tail) s.nx (BV [4]) [])<|.bool b).run TT.A_ (AK TT 19) s1) (.ok<|Ij<|bif b then À (V.int j)else È) (Hs<|a.cells ⟨ow,ki,À<|.ref<|.list wl,mp,mt,mL,go,M_⟩++(.list wl,.list<|l.map V.int)::tail):=λb=>by
  rcases b with _|_;.exact By (hs:=0) (m:=0) (r:=[]) (cs:=[]) (v:=.ok .none) h1 l1 .nil ⋯
  .exact By (hs:=0) (m:=0) (r:=[]) (cs:=[]) (v:=.ok<|.D! [.int j]) h1 l1 .nil ⋯
 obtain⟨s2,e3,h3⟩:=fin<|Ê<|j∈l;exact⟨s2,E.trans e3,h3⟩
theorem iF(hw:x.we=À (.ref<|.list wl))(hk:x.ki=À (.str "take"))(h1:s.A! "store"=À (.ref<|.dict a.sd))(hE:(a.A?.filter λj=>Ê<|j∈l)=l)(hl:l.length<G_)(h:Hs (a.cells x++(.list wl,.list<|l.map V.int)::tail) s):Aa ((sg a.n 9 10).run TT.A_ (AK TT 19) s) (.ok .none) (Hs<|a.cells x++(.list wl,.list<|l.map V.int)::tail) s.A!:=by
 have hb:∀v∈a.A?.map V.int,∀s,Hs (a.cells x++(.list wl,.list<|l.map V.int)::tail) s->A7 ((TF 9 a.n v).run TT.A_ (AK TT 19) s) (.ok<|Ij<|fG l v) (Hs<|a.cells x++(.list wl,.list<|l.map V.int)::tail):=λv hv s h=>by obtain⟨j,hj,rfl⟩:=MD hv;exact fF hw h
 obtain⟨ow,ki,we,mp,mt,mL,go,M_⟩:=x;have hw:we=À (.ref<|.list wl):=hw;have hk:ki=À (.str "take"):=hk;subst hw hk;exact Qx (te:=TF 9 a.n) (H!:=.ref<|.list a.ta) (hs:=BV [2,4,125,126,28,32,32]) (m:=23) (r:=keep 0 23) (wl:=wl) h Ä (.cons (Â X.o h1) .nil) (λs h=>ED h (BT (i:=16) Ä)) hb ((ai a.A?).trans<|Â _ hE) (by exact AA (Ð ..) hl) (BT (i:=22) Ä) ⋯ (λmd rs=>⋯) (λmd rs=>⋯) λmd rs ri tail=>⋯
theorem dB(hk:x.ki=À (.str "take"))(h:Hs (a.cells x++tail) s):Aa ((sg a.n 8 9).run TT.A_ (AK TT 19) s) (.ok .none) (Hs<|a.cells x++tail) s.A!:=by obtain⟨ow,ki,we,mp,mt,mL,go,M_⟩:=x;have hk:ki=À (.str "take"):=hk;subst hk;exact AE (hs:=BV [2]) (m:=22) (r:=keep 0 22) (cs:=[]) (v:=.ok .none) h Ä .nil ⋯
theorem dA(hk:x.ki=À (.str "put"))(h:Hs (a.cells x++tail) s):Aa ((sg a.n 9 11).run TT.A_ (AK TT 19) s) (.ok .none) (Hs<|a.cells x++tail) s.A!:=by obtain⟨ow,ki,we,mp,mt,mL,go,M_⟩:=x;have hk:ki=À (.str "put"):=hk;subst hk;exact AE (hs:=BV [2,2]) (m:=22) (r:=keep 0 22) (cs:=[]) (v:=.ok .none) h Ä .nil ⋯
theorem iE(hw:x.we=À (.ref<|.list wl))(hk:x.ki=À (.str "take"))(h1:s.A! "got"=À (.ref<|.list x.go))(hl:x.M_.length+acc.length<G_)(h:Hs (a.cells x++(.list wl,.list acc)::tail) s):H5 (λs' g=>(sg a.n 10 11).run TT.A_ (AK TT 19) s=.ok .none s') (λs' g=>Hs (a.cells {x with go:=g,M_:=x.M_++acc}++(.list wl,.list acc)::tail) s') λs' g=>s'.A!=AD s.A! "got" (.ref<|.list g):=by obtain⟨ow,ki,we,mp,mt,mL,go,M_⟩:=x;have hw:we=À (.ref<|.list wl):=hw;have hk:ki=À (.str "take"):=hk;subst hw hk;obtain⟨s',e,h',l'⟩:=AE (n:=19) (p:=sg a.n 10 11) (hs:=BV [2,125,125,126,4,42,44,127]) (m:=24) (r:=(keep 1 23).set 21 0) (cs:=[(X.o<|s.A! "got",X.o<|À<|.ref<|.list go),(.b<|Ê<|M_.length+acc.length<G_,.b Å)]) (v:=.ok .none) (L':=a.cells ⟨ow,À<|.str "take",À<|.ref<|.list wl,mp,mt,mL,s.nx,M_++acc⟩++(.list wl,.list acc)::tail) (A!:=AD s.A! "got"<|.ref<|.list s.nx) h Ä (.cons (Â X.o h1)<|.cons (AU hl) .nil) ⋯;exact⟨s',s.nx,e,h',l'⟩
end
def GW:Á Ï:=["calls","told","got","wait","answer","raised","what","lasted"]
def FO(a:Re)(i:I3)(k:Kd):Ç:=(((a.B? i).map Ah.v).filterMap<|IZ k).length
structure Wa(a:Re)(i:I3)(k:Kd)(W:Á Í):Prop where
 X!:OB λw m=>BC ((a.B? i).map Ah.v) (-1)=À (Ah.v<|.call k w m)B?:∀r∈a.B? i,Er k r
 len:FO a i k<G_
 vy:∀t∈a.lr i,mf t.w t.a t.mW
 le:(a.lr i).length<=FO a i k
 n_:Fp (a.lr i)=W.map .int
 B_:k=.B_->W=a.B_.filter (owner i)take:k=.take->(a.A?.filter λj=>Ê<|j∈W)=W
structure L9(a:Re)(lc:Ï->Ã V):Prop where pl:lc "plans"=À (.ref<|.list a.pl)cl:lc "clients"=À (.ref<|.list a.cl)st:lc "store"=À (.ref<|.dict a.sd)ma:lc "many"=À (.ref<|.dict a.ma)du:lc "due"=À (.ref<|.list a.du)wa:lc "waiting"=À (.ref<|.list a.la)rm:lc "room"=À (.int a.room)
def Ja.V!(x:Ja)(a:Re)(i:I3)(k:Kd)(W:Á Í)(wl go:Ç):Ja:=let y:Ja:=({x with ow:=À<|.int i.val,ki:=À<|.str k.str,we:=À<|.ref<|.list wl,mL:=x.mL++Au (Ê<|Jd a i<FO a i k) (.int<|i.val+1)}:Ja).add k<|FO a i k-Jd a i+(W.map V.int).length;{y with go:=go,M_:=match k with|.B_=>x.M_|.take=>x.M_++W.map .int}
def Uc(n:Ç)(v:V):Pr:=(((OE 39).a<|Vi<|BZ 109 4).p ⟨(BS 109).scope,Lx n⟩ v).bind λZ=>sg n 0 11
section
variable{a:Re}{i:I3}{W:Á Í}
theorem Ey{n x y z:Ç}(e:((Gu<|BZ 109 4).take z).drop x=((Gu<|BZ 109 4).take y).drop x++((Gu<|BZ 109 4).take z).drop y)(h1:(sg n x y).run G C s=.ok .none s1):(sg n x z).run G C s=(sg n y z).run G C s1:=by unfold sg at h1⊢;refine AA e ?_;refine(CR _ _ _).trans ?_;exact Â (AN.bind · _) h1
theorem XB(h:Hs (a.cells x++tail) s):Aa ((((OE 39).a<|Vi<|BZ 109 4).p ⟨(BS 109).scope,Lx a.n⟩<|.int i.val).run TT.A_ (AK TT 19) s) (.ok .none) (Hs<|a.cells {x with ow:=À<|.int i.val}++tail) s.A!:=AE (hs:=BV [0]) (m:=22) (r:=keep 0 22) (cs:=[]) (v:=.ok .none) h Ä .nil ⋯
theorem Ii(o:Wa a i k W)(lf:L9 a lc)(hp:∀j∈a.B_,Ap j)(hd:x.mL.length<G_)(hg:x.M_.length+W.length<G_)(h:Hs (a.cells x++tail) s)(kp:DL GW lc s.A!)(lg:s.A! "got"=À (.ref<|.list x.go)):Ku (λs' wl go=>(Uc a.n<|.int i.val).run TT.A_ (AK TT 19) s=.ok .none s') (λs' wl go=>Hs (a.cells (x.V! a i k W wl go)++(.list wl,.list<|W.map .int)::tail) s') (λs' wl go=>DL GW lc s'.A!) λs' wl go=>s'.A! "got"=À (.ref<|.list go):=by
 have nm:∀{l:Ï->Ã V}{y:Ï},DL GW lc l->y∉GW->l y=lc y:=λh hy=>h _ hy;have sub:∀{l l'},DL RT l l'->DL GW l l':=λh y hy=>h y λm=>hy<|.tail _<|.tail _<|.tail _ m;x_go;obtain⟨ow,ki,we,mp,mt,mL,go,M_⟩:=x;obtain⟨w,m,hl⟩:=o.X!;obtain⟨s0,e0,h0,l0⟩:=XB (i:=i) h;have k0:DL GW lc s0.A!:=l0▸kp;obtain⟨s1,e1,h1,l1⟩:=iL (i:=i) (x:=⟨À<|.int i.val,ki,we,mp,mt,mL,go,M_⟩) h0 Ä ((nm k0<|by decide).trans lf.pl) hl;have k1:DL GW lc s1.A!:=AA l1 k0;obtain⟨s2,e2,h2,l2⟩:=iK (i:=i) (k:=k) (x:=⟨À<|.int i.val,À<|.str k.str,we,mp,mt,mL,go,M_⟩) h1 Ä Ä o.B? o.len<|(nm k1<|by decide).trans lf.pl;have k2:DL GW lc s2.A!:=AA l2 (C1 k1<|by decide);obtain⟨s3,wl,e3,h3,l3⟩:=iJ (i:=i) (x:=⟨À<|.int i.val,À<|.str k.str,we,mp,mt,mL,go,M_⟩) h2 Ä<|(nm k2<|by decide).trans lf.cl;have k3:DL GW lc s3.A!:=AA l3 (C1 k2<|by decide);refine zk ?_;have t3:s3.A! "told"=À (.ref<|.list<|a.to i):=by exact AA l3<|Î Ä
 x_go;obtain⟨s4,e4,h4,uu⟩:=iI (i:=i) (x:=⟨À<|.int i.val,À<|.str k.str,À<|.ref<|.list wl,mp,mt,mL,go,M_⟩) Ä Ä o.vy (Ò o.le o.len) h3 t3;have k4:DL GW lc s4.A!:=k3.trans<|sub uu;have t4:s4.A! "told"=À (.ref<|.list<|a.to i):=(uu _<|by decide).trans t3;have c4:s4.A! "calls"=À (.int<|FO a i k):=by refine AA (uu _<|by decide)<|AA l3 ?_;show AD s2.A! "told" _ "calls"=_;unfold AD;exact AA (Ì<|by decide)<|AA l2<|Î Ä
 have g4:s4.A! "got"=À (.ref<|.list go):=by refine AA (uu _<|by decide)<|AA l3 ?_;show AD s2.A! "told" _ "got"=_;unfold AD;refine AA (Ì<|by decide)<|AA l2 ?_;show AD s1.A! "calls" _ "got"=_;unfold AD;exact AA (Ì<|by decide)<|AA l1<|AA l0 lg
 obtain⟨s5,e5,h5,l5⟩:=iH (i:=i) (x:=⟨À<|.int i.val,À<|.str k.str,À<|.ref<|.list wl,mp,mt,mL,go,M_⟩) (k:=k) (c:=FO a i k) Ä Ä Ä t4 c4 ((nm k4<|by decide).trans lf.du) ((nm k4<|by decide).trans lf.ma) (by unfold Jd;exact AA (Ð ..)<|Í.not_lt.mpr<|Í.ofNat_le.mpr o.le) hd h4;have k5:DL GW lc s5.A!:=AA l5 k4;have g5:s5.A! "got"=À (.ref<|.list go):=AA l5 g4;replace h5:=o.n_▸h5;have wq:=(nm k5 (y:="store")<|by decide).trans lf.st;have E:∀{o},(sg a.n 8 11).run TT.A_ (AK TT 19) s5=o->(Uc a.n<|.int i.val).run TT.A_ (AK TT 19) s=o:=λ{o}q=>by show(Pr.bind _ _).run TT.A_ (AK TT 19) s=_;refine AA (Pr.F_ ..)<|AA (e0 ..) ?_;show(sg a.n 0 11).run TT.A_ (AK TT 19) s0=_;exact(Ey (y:=1) ⋯ e1).trans ((Ey (y:=2) ⋯ e2).trans ((Ey (y:=4) ⋯ e3).trans ((Ey (y:=5) ⋯ e4).trans ((Ey (y:=8) ⋯ e5).trans q))))
 induction k with|B_=>have ew:=o.B_ Ä;subst ew;obtain⟨s6,e6,h6,l6⟩:=iG (i:=i) Ä Ä Ä wq hp (Ò (ÿ _ _) hg) h5;obtain⟨s7,e7,h7,l7⟩:=dA Ä h6;exact zk<|⟨s7,wl,go,E ((Ey (y:=9) ⋯ e6).trans e7),h7,by exact AA l7<|AA l6 k5,by exact AA l7<|AA l6 g5⟩|take=>obtain⟨s6,e6,h6,l6⟩:=dB Ä h5;obtain⟨s7,e7,h7,l7⟩:=iF Ä Ä (AA l6 wq) (o.take Ä) (Ò (ÿ _ _) hg) h6;obtain⟨s8,g,e8,h8,l8⟩:=iE Ä Ä (AA l7<|l6▸g5) (by exact AA (Ð ..) hg) h7;exact zk<|⟨s8,wl,g,E ((Ey (y:=9) ⋯ e6).trans ((Ey (y:=10) ⋯ e7).trans e8)),h8,by exact AA l8<|C1 (by exact AA l7<|AA l6 k5)<|by decide,by exact AA l8<|Î Ä⟩
end
def kO(n:Ç):Pr:=(cX (OE 39)<|fP<|BZ 109 4).p ⟨(BS 109).scope,Lx n⟩
theorem YE(n:Ç):CW 109 (Lx n) 4 5=((kO n).bind<|NP<|Uc n).bind λf=>F8 f (.ret .none):=⋯
def HJ:Á V:=[.int<|Ý 0,.int<|Ý 1,.int<|Ý 2]
section
variable{x:Ja}
def Ja.all(x:Ja)(a:Re)(kd:I3->Kd)(W:I3->Á Í)(w0 w1 w2 g0 g1 g2:Ç):Ja:=((x.V! a 0 (kd 0) (W 0) w0 g0).V! a 1 (kd 1) (W 1) w1 g1).V! a 2 (kd 2) (W 2) w2 g2
theorem FH{W:Á Í}{wl go:Ç}:(x.V! a i k W wl go).mL=x.mL++Au (Ê<|Jd a i<FO a i k) (.int<|i.val+1):=by induction k<;>rfl
theorem LR{W:Á Í}{wl go:Ç}:(x.V! a i k W wl go).go=go:=by induction k<;>rfl
theorem FE{W:Á Í}{wl go:Ç}:(x.V! a i k W wl go).M_=x.M_++match k with|.B_=>[]|.take=>W.map .int:=by
 induction k;.exact (å _).symm
 .rfl
theorem Xe{b:Ë}:(Au b v).length<=1:=by
 induction b;.exact è _
 .exact ä _
inductive bk(a:Re)(x:Ja)(tail:Á AC)(W:I3->Á Í)(kd:I3->Kd)(lc:Ï->Ã V)(s:S):Prop|mk (s':S) (w0 w1 w2 g0 g1 g2:Ç) (e:(CW 109 (Lx a.n) 4 5).run TT.A_ (AK TT 19) s=.ok .none s') (h:Hs (a.cells (x.all a kd W w0 w1 w2 g0 g1 g2)++tail) s') (k:DL GW lc s'.A!) (l:s'.A! "got"=À (.ref<|.list g2))
theorem Z5(o:∀i,Wa a i (kd i)<|W i)(lf:L9 a lc)(hp:∀j∈a.B_,Ap j)(hW:∀i,(W i).length<=100)(hd:x.mL=[])(hg:x.M_=[])(h:Hs (a.cells x++tail) s)(kp:DL GW lc s.A!)(lg:s.A! "got"=À (.ref<|.list x.go)):bk a x tail W kd lc s:=by
 x_go;obtain⟨sa,ea,ha,la⟩:=AE (n:=19) (p:=kO a.n) (hs:=BV [126,6]) (m:=22) (r:=keep 0 22) (cs:=[(X.o<|s.A! "plans",X.o<|À<|.ref<|.list a.pl)]) (v:=.ok<|.D! [.D! HJ,.D! HJ]) (L':=a.cells x++tail) (A!:=s.A!) h Ä (.cons (Â X.o<|(kp _<|by decide).trans lf.pl) .nil) ⋯;have gl:∀{l:Á V}{k:Kd}{W:Á Í}{n:Ç},l.length<=n->W.length<=100->(l++match k with|.B_=>[]|.take=>W.map V.int).length<=n+100:=λ{l k W n}h1 h2=>by
  refine AA Õ ?_;refine î h1 ?_;induction k;.exact è _
  .refine AA (Ð ..) ?_;exact h2
 have dl:∀{l:Á V}{b:Ë}{v:V}{n:Ç},l.length<=n->(l++Au b v).length<=n+1:=λh1=>by exact AA (Õ ..)<|î h1 Xe
 have pn:∀{n:Ç},n<=300->n<G_:=λh=>Ò h (by decide);refine zk ?_;have d0:x.mL.length<=0:=by exact AA (hd ..)<|ä _
 have q0:x.M_.length<=0:=by exact AA (hg ..)<|ä _
 x_go;obtain⟨s0,w0,g0,e0,h0,k0,l0⟩:=Ii (o 0) lf hp (pn<|Ñ d0<|by decide) (pn<|Ñ (î q0<|hW 0)<|by decide) ha (AA la kp)<|la▸lg;have d1:=dl (b:=Ê<|Jd a 0<FO a 0 (kd 0)) (v:=.int<|(0:I3).val+1) d0;rw[<-FH (k:=kd 0) (W:=W 0) (wl:=w0) (go:=g0)]at d1;have q1:=gl (k:=kd 0) q0<|hW 0;rw[<-FE (a:=a) (i:=0) (wl:=w0) (go:=g0)]at q1;obtain⟨s1,w1,g1,e1,h1,k1,l1⟩:=Ii (o 1) lf hp (pn<|Ñ d1<|by decide) (pn<|Ñ (î q1<|hW 1)<|by decide) h0 k0<|AA LR l0;have d2:=dl (b:=Ê<|Jd a 1<FO a 1 (kd 1)) (v:=.int<|(1:I3).val+1) d1;rw[<-FH (k:=kd 1) (W:=W 1) (wl:=w1) (go:=g1)]at d2;have q2:=gl (k:=kd 1) q1<|hW 1;rw[<-FE (a:=a) (i:=1) (wl:=w1) (go:=g1)]at q2;obtain⟨s2,w2,g2,e2,h2,k2,l2⟩:=Ii (o 2) lf hp (pn<|Ñ d2<|by decide) (pn<|Ñ (î q2<|hW 2)<|by decide) h1 k1<|AA LR l1;have N?:(D1 (Uc a.n) (.D! HJ) HJ HJ).run TT.A_ (AK TT 19) sa=.ok .none s2:=(DP Ä e0).trans<|(DP Ä e1).trans<|(DP Ä e2).trans<|FK Ä;have h3:Hs (a.cells (x.all a kd W w0 w1 w2 g0 g1 g2)++tail) s2:=by have:=h2;exact⟨λp hp=>this.at_ p<|by
   rcases Hy hp with q|q;.exact æ _ q
   .exact Ö _<|.tail _<|.tail _<|.tail _ q,by refine this.nd.sublist<|Á.Sublist.map _<|Ř ?_ _;exact .cons _<|.cons _<|.cons _<|Ě _,this.lk⟩
 refine zk<|⟨s2,w0,w1,w2,g0,g1,g2,?_,h3,k2,l2⟩;refine AA (YE ..)<|AA (Pr.F_ ..)<|AA (Pr.F_ ..)<|AA (ea ..) ?_;show AN.bind ((NP (Uc a.n)<|.D! [.D! HJ,.D! HJ]).run TT.A_ (AK TT 19) sa) _=_;exact AA (Ll N? Ä ha.lk h2.lk) Ä
end
def VK:Pr->Ë:=O0 λo Z=>Z8 Æ (λZ=>Æ) (λx=>Ê<|x="sorted") o
theorem Mk{i:Ç}{l:Á Í}(h:Hs L s)(m:((.list i,.list<|l.map V.int):AC)∈L):EW (.ref<|.list i) s=À l:=by
 have e:∀l:Á Í,B1 (l.map V.int)=À l:=λl=>by induction l with|nil=>rfl|cons j r ih=>have e:B1 (V.int j::r.map V.int)=(B1<|r.map V.int).map (j::·):=Ä;exact e.trans<|by exact AA ih Ä
 have:=(h.at_ _ m).1;unfold EW;dsimp only;refine AA this ?_;exact e l
theorem T4{i:Ç}{l:Á Í}(h:Hs L s)(m:((.list i,.list<|l.map V.int):AC)∈L)(hl:l.length<64)(hs:∀j∈l,Ap j):(Pr.prim (.blt "sorted") [.ref<|.list i] k).run G C s=(Pr.prim .d_ ((Bw l).map V.int) k).run G C s:=by
 have e:builtin "sorted" [.ref<|.list i] s=s.alloc (.list<|(Bw l).map V.int):=by have e1:builtin "sorted" [.ref<|.list i] s=match EW (.ref<|.list i) s with|À is=>if is.length<64/\∀i∈is,Ap i then s.alloc (.list<|(Bw is).map .int)else .C_|È=>.C_:=⋯;exact AA e1<|AA (Mk h m)<|Î ⟨hl,hs⟩
 show(builtin "sorted" [.ref<|.list i] s).bind _=_;exact AA e Ä
section
variable{X:AN V}{n hs m:Ç}{r:Á Ç}{a b:Ç}{l:Á Í}
theorem QR(e0:X=p.run TT.A_ (AK TT n) s)(h:Hs L s)(hl:s.A!=lc)(hc:AL cs)(hr:Wk (Dy n Hz p lc L s.nx hs cs) È (Js.res m r)=À ⟨L',A!,Wk (Dy n Hz p lc L s.nx hs cs) [] λz=>z.e.map (·.2)⟩)(hn:DD (Dy n Hz p lc L s.nx hs cs)=.prim (.cmp .NotEq) [.ref<|.list a,.ref<|.list b] (FB<|DD<|Dy n Hz p lc L s.nx hs cs))(ma:((.list a,.list<|l.map V.int):AC)∈L')(mb:((.list b,.list<|l.map V.int):AC)∈L'):D4 (λs'=>X=(FB (DD<|Dy n Hz p lc L s.nx hs cs)<|.bool Æ).run TT.A_ (AK TT n) s') (λs'=>Hs L' s') λs'=>s'.A!=A!:=by x_go;obtain⟨s1,e1,h1,l1⟩:=Gq (T:=TT) Ä h hl hc hr;exact zk<|⟨s1,e0.trans<|e1.trans<|(Â (λq:Pr=>q.run TT.A_ (AK TT n) s1) hn).trans<|Ul h1 ma mb<|NS l,h1,l1⟩
theorem P'(e0:X=p.run TT.A_ (AK TT n) s)(h:Hs L s)(hl:s.A!=lc)(hc:AL cs)(hr:Wk (Dy n VK p lc L s.nx hs cs) È (Js.res m r)=À ⟨L',A!,Wk (Dy n VK p lc L s.nx hs cs) [] λz=>z.e.map (·.2)⟩)(hn:DD (Dy n VK p lc L s.nx hs cs)=.prim (.blt "sorted") [.ref<|.list a] (FB<|DD<|Dy n VK p lc L s.nx hs cs))(ma:((.list a,.list<|l.map V.int):AC)∈L')(vp:l.length<64)(yI:∀j∈l,Ap j):D4 (λs'=>X=(Pr.prim .d_ ((Bw l).map V.int)<|FB<|DD<|Dy n VK p lc L s.nx hs cs).run TT.A_ (AK TT n) s') (λs'=>Hs L' s') λs'=>s'.A!=A!:=by x_go;obtain⟨s1,e1,h1,l1⟩:=Gq (T:=TT) Ä h hl hc hr;exact zk<|⟨s1,e0.trans<|e1.trans<|(Â (λq:Pr=>q.run TT.A_ (AK TT n) s1) hn).trans<|T4 h1 ma vp yI,h1,l1⟩
end
section
variable{a:Re}{S:Ë}{b0 b1 b2:Ë}{D T:Á Í}
def cc(S:Ë)(pt:Ç):V:=bif S then .none else .ref<|.inst "ProtectedThing" pt
theorem iN{pt:Ç}(hd:x.mL=Au b0 (.int 1)++Au b1 (.int 2)++Au b2 (.int 3))(h1:s.A! "due"=À (.ref<|.list a.du))(h2:s.A! "plans"=À (.ref<|.list a.pl))(h3:s.A! "thing"=À (cc S pt))(h:Hs (a.cells x++tail) s):Aa ((CW 109 (Lx a.n) 5 6).run TT.A_ (AK TT 19) s) (.ok .none) (Hs<|a.cells {x with mL:=Au b0 (.int 1)++Au b1 (.int 2)++Au b2 (.int 3)++LG S (b0||b1||b2) [.int 4]}++tail) s.A!:=by
 obtain⟨ow,ki,we,mp,mt,mL,go,M_⟩:=x;have hd:mL=_:=hd;subst hd;have g0:AL [(X.o<|s.A! "due",X.o<|À<|.ref<|.list a.du)]:=.cons (Â X.o h1) .nil;have g1:AL [(X.o<|s.A! "due",X.o<|À<|.ref<|.list a.du),(X.o<|s.A! "thing",X.o<|À<|cc S pt)]:=.cons (Â X.o h1)<|.cons (Â X.o h3) .nil;have g2:AL [(X.o<|s.A! "due",X.o<|À<|.ref<|.list a.du),(X.o<|s.A! "thing",X.o<|À<|cc S pt),(X.o<|s.A! "due",X.o<|À<|.ref<|.list a.du),(X.o<|s.A! "plans",X.o<|À<|.ref<|.list a.pl)]:=.cons (Â X.o h1)<|.cons (Â X.o h3)<|.cons (Â X.o h1)<|.cons (Â X.o h2) .nil;rcases S with _|_;.induction b0<;>induction b1<;>induction b2<;>first|exact AE (hs:=BV [126,40,1,125,125,126]) (m:=23) (r:=keep 1 22) (v:=.ok .none) h Ä g1<|by kernel_rfl!|exact AE (hs:=BV [126,40,1]) (m:=23) (r:=keep 1 22) (v:=.ok .none) h Ä g0<|by kernel_rfl!
 .induction b0<;>induction b1<;>induction b2<;>first|exact AE (hs:=BV [126,40,1,125,125,126,125,125,126,40,126,6,40,40]) (m:=23) (r:=keep 1 22) (v:=.ok .none) h Ä g2<|by kernel_rfl!|exact AE (hs:=BV [126,40,1]) (m:=23) (r:=keep 1 22) (v:=.ok .none) h Ä g0<|by kernel_rfl!
end
section
variable{a:Re}{D G T:Á Í}
theorem D9{X:AN V}{n:Ç}{hs m:Ç}{r:Á Ç}(e0:X=p.run TT.A_ (AK TT n) s)(h:Hs L s)(hl:s.A!=lc)(hc:AL cs)(hr:(BD n p lc L s.nx hs cs).res m r=À ⟨v,L',A!,(BD n p lc L s.nx hs cs).T?⟩):Aa X v (Hs L') A!:=by obtain⟨s',e,g,g2⟩:=AE h hl hc hr;exact⟨s',e0.trans e,g,g2⟩
theorem iM(hw:a.wv=D.map V.int)(hd:x.mL=D.map V.int)(hg:x.M_=G.map V.int)(hs:Bw G=Bw a.A?)(lG:G.length<64)(lT:a.A?.length<64)(sG:∀j∈G,Ap j)(sT:∀j∈a.A?,Ap j)(h1:s.A! "waiting"=À (.ref<|.list a.la))(h2:s.A! "due"=À (.ref<|.list a.du))(h3:s.A! "store"=À (.ref<|.dict a.sd))(h4:s.A! "got"=À (.ref<|.list x.go))(h:Hs (a.cells x++tail) s):Aa ((CW 109 (Lx a.n) 6 7).run TT.A_ (AK TT 19) s) (.ok .none) (Hs<|a.cells x++tail) s.A!:=by obtain⟨ow,ki,we,mp,mt,mL,go,M_⟩:=x;obtain⟨n,pl,p,cl,cd,cv,to,sd,li,pu,ta,la,wi,ma,du,room,B?,lr,B_,A?,wv,wl⟩:=a;have hd:mL=D.map V.int:=hd;have hg:M_=G.map V.int:=hg;have hw:wv=D.map V.int:=hw;subst hd hg hw;obtain⟨s1,e1,g1,l1⟩:=QR (n:=19) (p:=CW 109 (Lx n) 6 7) (a:=la) (b:=du) (l:=D) (hs:=BV [126,126]) (m:=22) (r:=keep 0 22) (L':=Re.cells ⟨n,pl,p,cl,cd,cv,to,sd,li,pu,ta,la,wi,ma,du,room,B?,lr,B_,A?,D.map V.int,wl⟩ ⟨ow,ki,we,mp,mt,D.map V.int,go,G.map V.int⟩++tail) (A!:=s.A!) Ä h Ä (.cons (Â X.o h1)<|.cons (Â X.o h2) .nil) ⋯ ⋯ (BT (i:=17) Ä) (BT (i:=20) Ä);obtain⟨s2,e2,g2,l2⟩:=P' (n:=19) (a:=go) (l:=G) (hs:=BV [125,126,28,125,125,125,126]) (m:=22) (r:=keep 0 22) (L':=Re.cells ⟨n,pl,p,cl,cd,cv,to,sd,li,pu,ta,la,wi,ma,du,room,B?,lr,B_,A?,D.map V.int,wl⟩ ⟨ow,ki,we,mp,mt,D.map V.int,go,G.map V.int⟩++tail) (A!:=s.A!) e1 g1 l1 (.cons (Â X.o h3)<|.cons (Â X.o h4) .nil) ⋯ ⋯ (BT (i:=21) Ä) lG sG;obtain⟨s3,e3,g3,l3⟩:=P' (n:=19) (a:=ta) (l:=A?) (hs:=BV [126,28]) (m:=23) (r:=keep 0 23) (L':=(.list s2.nx,.list<|(Bw G).map V.int)::(Re.cells ⟨n,pl,p,cl,cd,cv,to,sd,li,pu,ta,la,wi,ma,du,room,B?,lr,B_,A?,D.map V.int,wl⟩ ⟨ow,ki,we,mp,mt,D.map V.int,go,G.map V.int⟩++tail)) (A!:=s.A!) e2 g2 l2 (.cons (Â X.o h3) .nil) ⋯ ⋯ (.tail _ (BT (i:=16) Ä)) lT sT;obtain⟨s4,e4,g4,l4⟩:=QR (n:=19) (a:=s2.nx) (b:=s3.nx) (l:=Bw G) (hs:=0) (m:=24) (r:=keep 0 24) (cs:=[]) (L':=(.list s3.nx,.list<|(Bw A?).map V.int)::(.list s2.nx,.list<|(Bw G).map V.int)::(Re.cells ⟨n,pl,p,cl,cd,cv,to,sd,li,pu,ta,la,wi,ma,du,room,B?,lr,B_,A?,D.map V.int,wl⟩ ⟨ow,ki,we,mp,mt,D.map V.int,go,G.map V.int⟩++tail)) (A!:=s.A!) e3 g3 l3 .nil ⋯ ⋯ (.tail _<|.head _) (by exact AP hs<|.head _);obtain⟨s5,e5,g5,l5⟩:=D9 (n:=19) (hs:=0) (m:=24) (r:=keep 2 22) (cs:=[]) (v:=.ok .none) (A!:=s.A!) (L':=Re.cells ⟨n,pl,p,cl,cd,cv,to,sd,li,pu,ta,la,wi,ma,du,room,B?,lr,B_,A?,D.map V.int,wl⟩ ⟨ow,ki,we,mp,mt,D.map V.int,go,G.map V.int⟩++tail) e4 g4 l4 .nil ⋯;exact⟨s5,e5,g5,l5⟩
theorem dC{mp mt:Í}(hm:x.mp=mp/\x.mt=mt)(hP:(a.B_.length:Í)=if mt+a.room<mp then mt+a.room else mp)(hT:(a.A?.length:Í)=if mp<mt then mp else mt)(h1:s.A! "store"=À (.ref<|.dict a.sd))(h2:s.A! "many"=À (.ref<|.dict a.ma))(h3:s.A! "room"=À (.int a.room))(h:Hs (a.cells x++tail) s):A7 ((CW 109 (Lx a.n) 7 9).run TT.A_ (AK TT 19) s) (.ok<|.D! [.bool Å]) (Hs<|a.cells x++tail):=by
 obtain⟨s1,e1,g1⟩:=By (n:=19) (p:=CW 109 (Lx a.n) 7 9) (hs:=BV [126,28,30,126,28,32,125,126,38,125,126,38,125,126,126,38,125,126,38]) (m:=22) (r:=keep 0 22) (cs:=[(X.o<|s.A! "store",X.o<|À<|.ref<|.dict a.sd),(X.o<|s.A! "store",X.o<|À<|.ref<|.dict a.sd),(X.o<|s.A! "many",X.o<|À<|.ref<|.dict a.ma),(X.o<|s.A! "many",X.o<|À<|.ref<|.dict a.ma),(X.o<|s.A! "room",X.o<|À<|.int a.room),(X.o<|s.A! "many",X.o<|À<|.ref<|.dict a.ma),(X.o<|s.A! "many",X.o<|À<|.ref<|.dict a.ma)]) (v:=.ok<|.D! [.bool<|id<|(Ú.tuple [.int ((a.B_.map V.int).length:Í),.int ((a.A?.map V.int).length:Í)]).eqv<|.tuple [.int<|if x.mt+a.room<x.mp then x.mt+a.room else x.mp,.int<|if x.mp<x.mt then x.mp else x.mt]]) (L':=a.cells x++tail) h Ä (.cons (Â X.o h1)<|.cons (Â X.o h1)<|.cons (Â X.o h2)<|.cons (Â X.o h2)<|.cons (Â X.o h3)<|.cons (Â X.o h2)<|.cons (Â X.o h2) .nil) ⋯;refine⟨s1,e1.trans ?_,g1⟩;have e:id ((Ú.tuple [.int ((a.B_.map V.int).length:Í),.int ((a.A?.map V.int).length:Í)]).eqv<|.tuple [.int<|if x.mt+a.room<x.mp then x.mt+a.room else x.mp,.int<|if x.mp<x.mt then x.mp else x.mt])=Å:=by refine AA (Ð ..)<|AA (Ð ..)<|AA hm.1<|AA hm.2<|AA hP<|AA (hT ..) ?_;simp[û,Ŕ]
 exact AA e Ä
end
def Al(P:Dc)(i:I3):Ç:=EY<|P.B? i
structure jy(P:Dc)(M:AQ)(i:I3):Prop where
 g:BQ (M.cl i)=Cj (M.cl i)le:(M.cl i).lr.length<=Al P i
 lt:(M.cl i).lr.length<Al P i->M.E! (P.kd i)=Æ
 dn:CJ (M.cl i).st=!Ê ((M.cl i).lr.length<Al P i)
section
variable{hS:Ë}
theorem Ta(h:Bp M=[])(i:I3):CJ (M.cl i).st=Å:=by
 obtain⟨a,d⟩:=be h;obtain⟨a,c⟩:=be a;obtain⟨a,b⟩:=be a;have key:∀{b:Ë}{v:V},Au (!b) v=[]->b=Å:=λ{b v}e=>by cases b<;>first|rfl|cases e
 match i with|0=>exact key a|1=>exact key b|2=>exact key c
theorem YX(f:G9 P F hS M)(i:I3):(M.cl i).st=.done\/(M.cl i).st=.D_ È:=by
 rcases f.fin with e|e;.exact .inl<|IJ<|Ta e i
 .have w:=OL e i;have R_:=NJ f.R? f.nc f.rd i;generalize q:(M.cl i).st=zc;induction zc with|done=>exact .inl Ä|D_ d=>rw[q]at w;exact .inr<|Â _ w|mF x=>rw[q]at w;exact GO w|_=>rw[q]at R_;exact R_.elim
theorem bM(f:G9 P F hS M)(h:¬(M.cl i).st=.done):OQ M:=by
 generalize e:M.lu=zc;rcases zc with _|_;.exact (D0 f.R?.kind e).oq
 .have z:=B0 f.R?.kind e;have nr:=(E6 f.rd).2 e;generalize q:M.E?=zc;induction zc with|G!=>rw[q]at nr;exact JZ nr|lx p t=>exact(z.acc p t q).2.2|mE=>exact(z.nc q).elim|done=>exact(h<|z.dn q i).elim
theorem JD(f:G9 P F hS M)(i:I3):jy P M i:=by
 have l:=f.R?.J!.A! i;have cnt:Al P i=_:=l.cnt;rcases YX f i with e|e
 .have g:BQ (M.cl i)=Cj (M.cl i):=by unfold BQ;exact AA e<|å _
  have hr:(M.cl i).B?=[]:=by have st:=l.st;unfold Dv at st;replace st:=e▸st;cases q:(M.cl i).cur<;>rw[q]at st<;>exact st
  rw[e,hr]at cnt;have cnt:Al P i=(M.cl i).lr.length:=cnt;exact⟨g,ű cnt.symm,λq=>â q<|by exact AA cnt<|Ę _,by exact AA e<|AA cnt<|AA (ā<|Ę _) Ä⟩
 .have g:BQ (M.cl i)=Cj (M.cl i):=by unfold BQ;exact AA e<|å _
  replace cnt:=e▸cnt;have lt:(M.cl i).lr.length<Al P i:=by refine AA cnt ?_;exact õ (Ī _)<|ë _ _
  refine⟨g,Ą lt,λZ=>?_,by exact AA e<|AA (Ü lt) Ä⟩;obtain⟨k,w,m,hc,hq⟩:=f.R?.w i _ e;have hk:k=P.kd i:=(l.cur _ hc).1;subst hk;generalize ho:M.E! (P.kd i)=zc;rcases zc with _|_;.rfl
  .have:=bM f (i:=i) (by refine AA e ?_;intro h;cases h) _ ho;rw[this]at hq;exact nomatch hq
theorem Tb(f:G9 P F hS M):Bp M=Au (Ê<|(M.cl 0).lr.length<Al P 0) (V.int 1)++Au (Ê<|(M.cl 1).lr.length<Al P 1) (V.int 2)++Au (Ê<|(M.cl 2).lr.length<Al P 2) (V.int 3)++LG hS (Ê ((M.cl 0).lr.length<Al P 0)||Ê ((M.cl 1).lr.length<Al P 1)||Ê ((M.cl 2).lr.length<Al P 2)) [V.int 4]:=by
 have d:∀i,(!CJ (M.cl i).st)=Ê ((M.cl i).lr.length<Al P i):=λi=>by rw[(JD f i).dn];exact AA (Ë.not_not ..) Ä
 unfold Bp;refine AA (d ..)<|AA (d ..)<|AA (d ..)<|AA (f.S ..) ?_;congr 1;rcases hS with _|_;.rfl
 .have z:=B0 f.R?.kind f.S;have nr:=(E6 f.rd).2 f.S;have e:(!UD M.E?)=(Ê ((M.cl 0).lr.length<Al P 0)||Ê ((M.cl 1).lr.length<Al P 1)||Ê ((M.cl 2).lr.length<Al P 2)):=by refine AP (d ..)<|AP (d ..)<|AP (d ..) ?_;generalize q:M.E?=zc;induction zc with|G!=>rw[q]at nr;exact JZ nr|mE=>exact(z.nc q).elim|done=>exact AA (z.dn q ..)<|AA (z.dn q ..)<|AA (z.dn q ..) Ä|lx p t=>
    show Å=_;rcases f.fin with e|e;.exfalso;have:=(be e).2;rw[f.S,q]at this;cases this
    .generalize a:CJ (M.cl 0).st=zc;rcases zc with _|_;.rfl
     .cases b:CJ (M.cl 1).st with|false=>rfl|true=>cases c:CJ (M.cl 2).st with|false=>rfl|true=>have s:=f.sh;unfold AQ.mX at s;rw[f.S,a,b,c,q]at s;exact JZ s
  exact AA (e ..) Ä
end
section
variable{hS:Ë}
theorem Oc{α:Type}[þ α]{l1 l2:Á α}(x:l1.Sublist l2):l2.Nodup->l2.filter (λv=>Ê<|v∈l1)=l1:=by induction x with|slnil=>exact λZ=>Ä|@cons l1 l2 a s ih=>intro h;have h:=Hx h;exact AA (Ĉ<|by rw[π];exact λe=>h.1<|s.subset e)<|ih h.2|@cons_cons l1 l2 a s ih=>intro h;have h:=Hx h;refine AA (Ĩ (p:=λv=>Ê<|v∈a::l1)<|Ü<|.head _) (Â (a::·)<|Eq.trans (Á.filter_congr λv hv=>?_)<|ih h.2);rw[decide_eq_decide];exact⟨λq=>(Bt q).resolve_left λe=>h.1<|AP e hv,λq=>.tail _ q⟩
theorem Rn(hP:Ay P)(h:CP P M):M.B_.Nodup:=by
 rw[Á.nodup_iff_count];intro v;by_cases hv:v∈M.B_;.obtain ⟨i,hk,ho⟩:=h.own v hv;refine AP (Á.count_filter (p:=owner i) ho)<|AA (h.o6 i hk) ?_;have s:=(h.A! i).sub hk;exact Á.nodup_iff_count.mp ((hP.nd i hk).sublist<|(Á.sublist_append_left _ _).trans s) v
 .exact AA (Á.count_eq_zero_of_not_mem hv)<|è _
theorem MO(hP:Ay P)(h:CP P M):M.A?.Nodup:=by have:=Rn hP h;rw[h.pt]at this;exact(Á.nodup_append.mp this).1
theorem R3{v:Í}(h:owner i v=Å):Ap v:=by
 have a:=Ù h;have b:=i.isLt;have e:=Í.mul_fdiv_add_fmod v 10;have c0:=ė v (b:=10)<|by decide
 have c1:=İ v (b:=10) (by decide);unfold Ap;omega
def C6(P:Dc)(k:Kd)(f:I3->Ç):Ç:=(if P.kd 0=k then f 0 else 0)+((if P.kd 1=k then f 1 else 0)+if P.kd 2=k then f 2 else 0)
theorem LW{c:Prop}[ğ c]{a b:Ç}:(if c then a+b else 0)=(if c then a else 0)+if c then b else 0:=by
 by_cases h:c;.exact AA (Î h)<|AA (Î h)<|AA (Î h) Ä
 .exact AA (Ì h)<|AA (Ì h)<|AA (Ì h) Ä
theorem IU:C6 P k (λi=>f i+g i)=C6 P k f+C6 P k g:=by unfold C6;refine AA (LW ..)<|AA LW<|AA LW ?_;rw[Ç.add_add_add_comm<|if P.kd 1=k then f 1 else 0,Ç.add_add_add_comm<|if P.kd 0=k then f 0 else 0]
theorem Tu(h:¬C6 P k f=0):BM (λi=>P.kd i=k) λi=>¬f i=0:=by
 refine ě λc=>h ?_;have z:∀i,(if P.kd i=k then f i else 0)=0:=λi=>by
  by_cases e:P.kd i=k;.exact AA (Î e)<|ě λq=>c ⟨i,e,q⟩
  .exact Ì e
 unfold C6;exact AA (z ..)<|AA (z ..)<|AA (z ..) Ä
theorem RW:C6 P k (λZ=>0)=0:=by unfold C6;exact AA (ite_self ..)<|AA (ite_self ..)<|AA (ite_self ..) Ä
theorem Tv(hk:P.kd i=.B_):C6 P .B_ (λj=>if j=i then 1 else 0)=1:=by
 unfold C6;induction i using NK;.refine AA hk ?_;generalize P.kd 1=a;generalize P.kd 2=b;induction a<;>induction b<;>rfl
 .refine AA hk ?_;generalize P.kd 0=a;generalize P.kd 2=b;induction a<;>induction b<;>rfl
 .refine AA hk ?_;generalize P.kd 0=a;generalize P.kd 1=b;induction a<;>induction b<;>rfl
theorem SJ(l:Á Í):(∀v∈l,BM (λi=>P.kd i=.B_) λi=>owner i v=Å)->l.length=C6 P .B_ λi=>(l.filter<|owner i).length:=by induction l with|nil=>exact λZ=>RW.symm|cons v r ih=>
  intro h;have ih:=ih λw hw=>h w<|.tail _ hw;obtain⟨i,hk,ho⟩:=h v<|.head _;have e:∀j,((v::r).filter<|owner j).length=(if j=i then 1 else 0)+(r.filter<|owner j).length:=λj=>by
   by_cases q:j=i;.exact AA q<|AA (Ĩ ho)<|AA (Î Ä)<|AA ę<|AA (θ ..) Ä
   .exact AA (Ĉ λz=>q<|Ih z ho)<|AA (Ì q)<|AA (Ű ..) Ä
  exact AA (show(λj=>((v::r).filter<|owner j).length)=λj=>(if j=i then 1 else 0)+(r.filter<|owner j).length from ø e)<|AA IU<|AP ih<|AA (Tv hk)<|AA ę<|AA (θ ..) Ä
def Kv(M:AQ)(i:I3):Ç:=(Cj<|M.cl i).length
def Gk(P:Dc)(M:AQ)(i:I3):Ç:=Al P i-(M.cl i).lr.length
theorem Ob(h:∀i,P.kd i=k->f i=g i):C6 P k f=C6 P k g:=by
 have e:∀i,(if P.kd i=k then f i else 0)=if P.kd i=k then g i else 0:=λi=>by
  by_cases q:P.kd i=k;.exact AA (Î q)<|AA (Î q)<|AA (h i q) Ä
  .exact AA (Ì q)<|AA (Ì q) Ä
 unfold C6;exact AA (e 0)<|AA (e 1)<|AA (e 2) Ä
theorem RO(f:G9 P F hS M):M.B_.length=C6 P .B_ (Kv M):=by exact AA (SJ M.B_ f.R?.J!.own)<|Ob λi hk=>by exact AA (f.R?.J!.o6 i hk)<|AA (JD f i).g Ä
theorem ML(f:G9 P F hS M):M.A?.length=C6 P .take (Kv M):=by
 have e:∀i,(C2 P M.cl i).length=if P.kd i=.take then Kv M i else 0:=λi=>by unfold C2;induction P.kd i with|B_=>rfl|take=>show(BQ<|M.cl i).length=_;exact AA (JD f i).g Ä
 exact AA f.R?.J!.perm.length_eq<|AA Õ<|AA Õ<|AA (e ..)<|AA (e ..)<|AA (e ..) Ä
theorem Q7(f:G9 P F hS M)(hu:¬C6 P k (Gk P M)=0):M.E! k=Æ:=by obtain⟨i,hk,hl⟩:=Tu hu;refine AP hk ?_;exact(JD f i).lt<|Ç.lt_of_sub_ne_zero hl
theorem VG{x a b:Í}(h:a<b->x=a)(h':b<=a->x=b):x=if a<b then a else b:=by
 by_cases q:a<b;.exact AA (Î q)<|h q
 .exact AA (Ì q)<|h'<|Í.not_lt.mp q
theorem RQ{A B p t l:Ç}{room mp mt:Í}(hp:mp=(A+p:Ç))(ht:mt=(B+t:Ç))(h0:0<room)(hl:(l:Í)<=room)(vi:p=t+l)(b1:A=0\/(l:Í)=room)(b2:B=0\/l=0):(p:Í)=(if mt+room<mp then mt+room else mp)/\(t:Í)=if mp<mt then mp else mt:=by subst hp ht vi;refine⟨VG (λq=>?_) λq=>?_,VG (λq=>?_) λq=>?_⟩<;>lia
theorem Zf(hP:Ay P)(f:G9 P F hS M){mp mt:Í}(hp:mp=(C6 P .B_ λi=>Gk P M i+Kv M i:Ç))(ht:mt=(C6 P .take λi=>Gk P M i+Kv M i:Ç)):(M.B_.length:Í)=(if mt+P.room<mp then mt+P.room else mp)/\(M.A?.length:Í)=if mp<mt then mp else mt:=by
 rw[IU,<-RO f]at hp;rw[IU,<-ML f]at ht;have hl:=f.R?.J!.ll;have yL:=f.R?.J!.rm;have vi:M.B_.length=M.A?.length+M.B!.length:=by exact AA f.R?.J!.pt<|AA Õ Ä
 have b1:¬C6 P .B_ (Gk P M)=0->(M.B!.length:Í)=P.room:=λhu=>by have:=Dz<|Q7 f hu;lia
 have b2:¬C6 P .take (Gk P M)=0->M.B!.length=0:=λhu=>by exact AA (CY<|Q7 f hu) Ä
 exact RQ hp ht hP.room.1 (AP yL hl) vi ((Ç.eq_zero_or_pos _).imp id λh=>b1<|Ç.pos_iff_ne_zero.mp h)<|(Ç.eq_zero_or_pos _).imp id λh=>b2<|Ç.pos_iff_ne_zero.mp h
theorem GE{i j:Í}(h:i<j){r:Á Í}:Aw i (j::r)=i::j::r:=Î h
theorem DW{i j:Í}(h:¬i<j){r:Á Í}:Aw i (j::r)=j::Aw i r:=Ì h
theorem NH(i j:Í)(l:Á Í):Aw i (Aw j l)=Aw j (Aw i l):=by
 have a_:∀{i j:Í}{r:Á Í},(∀{x},x=i\/x=j->Aw x r=x::r)->Aw i (Aw j r)=Aw j (Aw i r):=λ{i j r}h=>by
  refine AA (h<|.inl Ä)<|AA (h<|.inr Ä) ?_;by_cases a:i<j;.exact AA (GE a)<|AA (DW<|Í.not_lt.mpr<|į a)<|AA (h<|.inr Ä) Ä
  .by_cases b:j<i;.exact AA (GE b)<|AA (DW a)<|AA (h<|.inl Ä) Ä
   .exact AA (Í.le_antisymm (Í.not_lt.mp b)<|Í.not_lt.mp a) Ä
 induction l with|nil=>exact a_ λZ=>Ä|cons k r ih=>
  by_cases a:i<k<;>by_cases b:j<k;.exact a_ λh=>GE<|h.elim (λe=>e▸a) λe=>e▸b
  .exact AA (DW b)<|AA (GE a)<|AA (GE a)<|AA (DW λh=>b<|Í.lt_trans h a)<|AA (DW b) Ä
  .exact AA (GE b)<|AA (DW λh=>a<|Í.lt_trans h b)<|AA (DW a)<|AA (GE b) Ä
  .exact AA (DW a)<|AA (DW b)<|AA (DW a)<|AA (DW b)<|AA ih Ä
theorem Ra{l k:Á Í}(h:l.Perm k):Bw l=Bw k:=by induction h with|nil=>rfl|cons x _ ih=>exact Â (Aw x) ih|swap x y l=>exact NH y x<|Bw l|trans _ _ a b=>exact a.trans b
end
def EP(b:IM)(room:Í)(S:Ë):Á V:=[b.th S,.int room,.ref<|.list b.pl,.ref<|.list b.wi]
def Ud(n:Ç):Á AC:=[(.cell n,.cell È),(.cell<|n+1,.cell È),(.cell<|n+2,.cell È)]
theorem HT:(∀r∈l,Er k r)->((l.map Ah.v).filterMap<|IZ k).length=EY l:=by induction l with|nil=>exact λZ=>Ä|cons y r ih=>intro h;have ih:=ih λw hw=>h w<|.tail _ hw;induction y with
  |rest x=>
   have q:IZ k (Ah.v<|.rest x)=È:=by
    induction k;.show (if("rest":Ï)=Kd.B_.str then À (Ah.v<|.rest x)else È)=È;exact Ì<|by decide
    .show (if("rest":Ï)=Kd.take.str then À (Ah.v<|.rest x)else È)=È;exact Ì<|by decide
   show((Ah.v (.rest x)::r.map Ah.v).filterMap<|IZ k).length=_;exact AA (ĥ q) ih|call k' w m=>have e:k'=k:=(h _<|.head _).1;subst e;have q:IZ k' (Ah.v<|.call k' w m)=À (Ah.v<|.call k' w m):=Î Ä;show((Ah.v (.call k' w m)::r.map Ah.v).filterMap<|IZ k').length=_;exact AA (Ĥ q)<|AA ę<|AA ih Ä
theorem UA:BC (l++[v]) (-1)=À v:=by
 have e:seqIndex? (-1) (l++[v]).length=À l.length:=by unfold seqIndex?;refine AA Õ ?_;simp;lia
 unfold BC;refine AA e ?_;exact Á.getElem?_concat_length
def MB(P:Dc):Prop:=∀i,RE λpre w m=>P.B? i=pre++[.call (P.kd i) w m]
section
variable{S:Ë}{la ma:Ç}
def XK(F:Fx)(J:Jk)(M:AQ)(b:IM)(n la ma:Ç):Re:=⟨n,b.pl,b.p,F.mY,F.cd,λi=>(.ref<|.list<|F.ro i,Ol (M.cl i).cur,.ref<|.list (J.b i).sl,.int (M.cl i).E_),F.to,F.sd,F.B!,F.B_,F.A?,la,b.wi,ma,ma+1,M.room,b.B?,λi=>(M.cl i).lr,M.B_,M.A?,Bp M,b.wl⟩
def x0(g:Ç):Ja:=⟨È,È,È,0,0,[],g,[]⟩
theorem ay{n:Ç}(h:Hs ([(.dict ma,.dict [(.str "put",.int 0),(.str "take",.int 0)]),(.list<|ma+1,.list []),(.list<|ma+2,.list [])]++(.list la,.list<|Bp M)::O_ (b.F S) J M (b.nN++(Ud n++tail))) s)(hS:M.lu=S):Hs ((XK (b.F S) J M b n la ma).cells (x0<|ma+2)++tail) s:=by unfold O_ DF DE at h;replace h:=hS▸h;induction S<;>exact h.sel (m:=64) (r:=[61,62,63,52,58,59,60,49,8,17,26,10,19,28,36,38,39,3,51,0,1,2])<|by decide
theorem TW(l:Á Bf):Fp l=(l.filterMap Pw).map V.int:=(Á.map_filterMap ..).symm
theorem ib(hP:Ay P)(hL:MB P)(f:G9 P F S M)(hr:a.B?=P.B?)(ht:a.lr=λi=>(M.cl i).lr)(hp:a.B_=M.B_)(hk:a.A?=M.A?)(i:I3):Wa a i (P.kd i) (Cj<|M.cl i):=by
 have e:=JD f i;have l:=f.R?.J!.A! i;have ec:FO a i (P.kd i)=Al P i:=by unfold FO;exact AA hr<|HT<|hP.B? i
 have c4:Al P i<=4:=Ñ (MG _)<|hP.len i;refine⟨?_,by exact AA hr<|hP.B? i,by exact AA ec<|Ò c4<|by decide,by exact AA ht l.lr,by exact AA ec<|AA ht e.le,by exact AA ht<|TW _,λhk=>?_,λyW=>?_⟩;.obtain ⟨pre,w,m,q⟩:=hL i;exact⟨w,m,by exact AA hr<|AA q<|AA Ø UA⟩
 .exact AA hp<|AA (f.R?.J!.o6 i hk)<|AA e.g Ä
 .refine AA hk ?_;refine Oc ?_<|MO hP f.R?.J!;exact e.g▸f.R?.J!.oW i yW
end
section
variable{S:Ë}
def eH(b:IM)(room:Í)(S:Ë)(F:Fx)(la:Ç):Ï->Ã V:=AD (AD (AD (At 109<|EP b room S) "store"<|.ref<|.dict F.sd) "clients"<|.ref<|.list F.mY) "waiting"<|.ref<|.list la
def eG(b:IM)(room:Í)(S:Ë)(F:Fx)(la ma:Ç):Ï->Ã V:=AD (AD (AD (eH b room S F la) "many"<|.ref<|.dict ma) "due"<|.ref<|.list<|ma+1) "got"<|.ref<|.list<|ma+2
theorem bG{room:Í}(h:Hs (b.rest tail S) s):Hs (b.rest (Ud s.nx++tail) S) (NV 109 (EP b room S) s)/\(NV 109 (EP b room S) s).nx=s.nx+3/\(NV 109 (EP b room S) s).A!=At 109 (EP b room S):=by
 have e:H4 (BI (BS 109).scope.names ((BS 109).params.zip<|EP b room S) λZ=>È) (BS 109).scope.names ⟨b.rest tail S,[],s.nx,[],s.A!⟩=⟨b.rest tail S,Ud s.nx,s.nx+3,[],s.A!⟩:=by induction S<;>kernel_rfl
 have g:=NU h e;refine⟨g.perm ?_,⋯,by induction S<;>kernel_rfl⟩;exact(ķ _ _ _).trans<|(ķ _ _ _).append_left _
theorem R0{X:AN V}{n:Ç}(e0:X=p.run TT.A_ (AK TT n) s)(h:Hs L s)(hl:s.A!=lc)(hr:(BD n p lc L s.nx 0 []).res 0 []=À ⟨v,L,A!,(BD n p lc L s.nx 0 []).T?⟩):Aa X v (Hs L) A!:=D9 e0 h hl .nil hr
theorem Fa{a:Re}{x:Ja}{i:I3}{k:Kd}{W:Á Í}{wl go:Ç}:(x.V! a i k W wl go).mp=x.mp+(if k=.B_ then(FO a i k:Í)-Jd a i+(W.map V.int).length else 0)/\(x.V! a i k W wl go).mt=x.mt+if k=.take then(FO a i k:Í)-Jd a i+(W.map V.int).length else 0:=by
 induction k;.exact ⟨Ä,(Í.add_zero _).symm⟩
 .exact ⟨(Í.add_zero _).symm,Ä⟩
theorem FX{b:Ë}{i:Í}:(Au b i).map V.int=Au b (V.int i):=by induction b<;>rfl
theorem QN{S b:Ë}{i:Í}:(LG S b [i]).map V.int=LG S b [V.int i]:=by induction S<;>induction b<;>rfl
theorem Nh{P:Dc}{k:Kd}{f:I3->Ç}{g:I3->Í}(h:∀i,g i=(f i:Í)):(0:Í)+(if P.kd 0=k then g 0 else 0)+(if P.kd 1=k then g 1 else 0)+(if P.kd 2=k then g 2 else 0)=(C6 P k f:Ç):=by
 have e:∀i,(if P.kd i=k then g i else 0)=((if P.kd i=k then f i else 0:Ç):Í):=λi=>by
  by_cases q:P.kd i=k;.exact AA (Î q)<|AA (Î q)<|AA (h ..) Ä
  .exact AA (Ì q)<|AA (Ì q) Ä
 refine AA (e ..)<|AA (e ..)<|AA (e ..) ?_;unfold C6;lia
structure kg(a:Re)(P:Dc)(M:AQ)(lc:Ï->Ã V):Prop where
 B?:a.B?=P.B?
 lr:a.lr=λi=>(M.cl i).lr
 B_:a.B_=M.B_
 A?:a.A?=M.A?
 wv:a.wv=Bp M
 room:a.room=P.room
 L:L9 a lc
theorem SP{go pt:Ç}(hP:Ay P)(hL:MB P)(f:G9 P F S M)(R:kg a P M s5.A!)(g5:s5.A! "got"=À (.ref<|.list go))(xb:s5.A! "thing"=À (cc S pt))(h6:Hs (a.cells (x0 go)++tl) s5):Hb (λqq x=>(CW 109 (Lx a.n) 4 9).run TT.A_ (AK TT 19) s5=.ok (.D! [.bool Å]) qq) λqq x=>Hs (a.cells x++tl) qq:=by
 have O:=ib hP hL f R.B? R.lr R.B_ R.A?;have hp:∀j∈a.B_,Ap j:=λj hj=>by rw[R.B_]at hj;x_go;obtain⟨i,_,ho⟩:=f.R?.J!.own j hj;exact zk<|R3 ho
 have hW:∀i,(Cj<|M.cl i).length<=4:=λi=>by have:=Pk hP f.R?.J! i;exact Ñ (Ť _ _)<|Ñ (ë _ _) this
 x_go;obtain⟨s7,w0,w1,w2,g0,g1,g2,e7,h7,k7,l7⟩:=Z5 (a:=a) (x:=x0 go) O R.L hp λi=>Ñ (hW i)<|by decide Ä Ä h6 (λZ Z=>Ä) g5;have ed:∀i,Ê (Jd a i<FO a i (P.kd i))=Ê ((M.cl i).lr.length<Al P i):=λi=>by rw[decide_eq_decide];unfold Jd FO;exact AA R.B?<|AA R.lr<|AA (HT<|hP.B? i)<|AA (Ð ..) Í.ofNat_lt
 generalize ex:(x0 go).all a P.kd (λi=>Cj<|M.cl i) w0 w1 w2 g0 g1 g2=x at h7;have xd:x.mL=Au (Ê<|(M.cl 0).lr.length<Al P 0) (V.int 1)++Au (Ê<|(M.cl 1).lr.length<Al P 1) (V.int 2)++Au (Ê<|(M.cl 2).lr.length<Al P 2) (V.int 3):=by subst ex;unfold Ja.all;exact AA FH<|AA FH<|AA FH<|AA (ed ..)<|AA (ed ..)<|AA (ed ..) Ä
 have xg:x.M_=(C2 P M.cl 0++(C2 P M.cl 1++C2 P M.cl 2)).map V.int:=by
  have e:∀i,(match P.kd i with|.B_=>[]|.take=>(Cj<|M.cl i).map V.int)=(C2 P M.cl i).map V.int:=λi=>by unfold C2;induction P.kd i with|B_=>rfl|take=>show _=(BQ<|M.cl i).map V.int;exact AA (JD f i).g Ä
  subst ex;unfold Ja.all;refine AA FE<|AA FE<|AA FE<|(congr (Â HAppend.hAppend<|congr (Â HAppend.hAppend<|e 0)<|e 1)<|e 2).trans ?_;exact AA Ø<|AA Ø<|AP (ô ..) Ä
 refine zk ?_;have xX:x.go=g2:=by subst ex;exact LR
 have em:∀i,(FO a i (P.kd i):Í)-Jd a i+((Cj<|M.cl i).map V.int).length=((Gk P M i+Kv M i:Ç):Í):=λi=>by unfold Jd FO Gk Kv;refine AA R.B?<|AA R.lr<|AA (HT<|hP.B? i)<|AA (Ð ..)<|AA (Ð ..) ?_;have h:=(JD f i).le;show(Al P i:Í)-((M.cl i).lr.length:Í)+((Cj<|M.cl i).length:Í)=((Al P i-(M.cl i).lr.length+(Cj<|M.cl i).length:Ç):Í);exact AA (Í.natCast_add ..)<|AA (Í.ofNat_sub h ..) Ä
 have xm:x.mp=(C6 P .B_ λi=>Gk P M i+Kv M i:Ç)/\x.mt=(C6 P .take λi=>Gk P M i+Kv M i:Ç):=by subst ex;unfold Ja.all;exact AA Fa.1<|AA Fa.1<|AA Fa.1<|AA Fa.2<|AA Fa.2<|AA Fa.2 ⟨Nh em,Nh em⟩
 have T:=Zf hP f xm.1 xm.2;have nm:∀{y:Ï},y∉GW->s7.A! y=s5.A! y:=λhy=>k7 _ hy;have th:s7.A! "thing"=À (cc S pt):=(nm<|by decide).trans xb;x_go;obtain⟨s8,e8,h8,l8⟩:=iN (S:=S) (pt:=pt) xd ((nm<|by decide).trans R.L.du) ((nm<|by decide).trans R.L.pl) th h7;have hD:Bp M=(Au (Ê<|(M.cl 0).lr.length<Al P 0) (1:Í)++Au (Ê<|(M.cl 1).lr.length<Al P 1) 2++Au (Ê<|(M.cl 2).lr.length<Al P 2) 3++LG S (Ê ((M.cl 0).lr.length<Al P 0)||Ê ((M.cl 1).lr.length<Al P 1)||Ê ((M.cl 2).lr.length<Al P 2)) [4]).map V.int:=by exact AA (Tb f)<|AA Ø<|AA Ø<|AA Ø<|AA FX<|AA FX<|AA FX<|AA QN Ä
 have w9:M.A?.length<=12:=by exact AA f.R?.J!.perm.length_eq<|AA Õ<|AA Õ<|î (EG hP f.R?.J! 0)<|î (EG hP f.R?.J! 1)<|EG hP f.R?.J! 2
 have sT:∀j∈M.A?,Ap j:=λj hj=>hp j (by exact AA R.B_<|AA f.R?.J!.pt<|æ _ hj);obtain⟨s9,e9,h9,l9⟩:=iM (a:=a) (x:={x with mL:=Au (Ê<|(M.cl 0).lr.length<Al P 0) (V.int 1)++Au (Ê<|(M.cl 1).lr.length<Al P 1) (V.int 2)++Au (Ê<|(M.cl 2).lr.length<Al P 2) (V.int 3)++LG S (Ê ((M.cl 0).lr.length<Al P 0)||Ê ((M.cl 1).lr.length<Al P 1)||Ê ((M.cl 2).lr.length<Al P 2)) [V.int 4]}) (D:=_) (G:=C2 P M.cl 0++(C2 P M.cl 1++C2 P M.cl 2)) (R.wv.trans hD) (by show _++_++_++_=_;exact AA Ø<|AA Ø<|AA Ø<|AA FX<|AA FX<|AA FX<|AA QN Ä) xg (by exact AA R.A?<|Ra f.R?.J!.perm.symm) (by exact AP f.R?.J!.perm.length_eq<|Ò w9<|by decide) (by exact AA R.A?<|Ò w9<|by decide) (λj hj=>sT j<|f.R?.J!.perm.mem_iff.mpr hj) (by exact AA R.A? sT) ((l8▸nm (by decide)).trans R.L.wa) ((l8▸nm (by decide)).trans R.L.du) ((l8▸nm (by decide)).trans R.L.st) (by exact AA l8<|l7.trans<|by exact AA xX Ä) h8;obtain⟨qq,wN,wJ⟩:=dC (a:=a) (x:={x with mL:=Au (Ê<|(M.cl 0).lr.length<Al P 0) (V.int 1)++Au (Ê<|(M.cl 1).lr.length<Al P 1) (V.int 2)++Au (Ê<|(M.cl 2).lr.length<Al P 2) (V.int 3)++LG S (Ê ((M.cl 0).lr.length<Al P 0)||Ê ((M.cl 1).lr.length<Al P 1)||Ê ((M.cl 2).lr.length<Al P 2)) [V.int 4]}) (mp:=x.mp) (mt:=x.mt) ⟨Ä,Ä⟩ (by exact AA R.B_<|AA R.room T.1) (by refine AA R.A? ?_;exact T.2) ((l9▸l8▸nm (by decide)).trans R.L.st) ((l9▸l8▸nm (by decide)).trans R.L.ma) ((l9▸l8▸nm (by decide)).trans R.L.rm) h9;exact zk<|⟨qq,_,(BE (b:=5) ⋯ e7).trans ((BE (b:=6) ⋯ e8).trans ((BE (b:=7) ⋯ e9).trans wN)),wJ⟩
theorem lL{n la ma:Ç}(hr:b.B?=P.B?)(hm:M.room=P.room)(L:L9 (XK F J M b n la ma) lc):kg (XK F J M b n la ma) P M lc:=⟨hr,Ä,Ä,Ä,Ä,hm,L⟩
theorem SQ(hP:Ay P)(hL:MB P)(hr:b.B?=P.B?)(w8:BM (λ(l:Á Í)=>b.wl=l.map .int) λl=>l≠[])(h:Hs (b.rest tail S) s):Aa (AK TT 20 (.fn "_law_is_kept") (EP b P.room S) s) (.ok<|.bool Å) (Hs<|b.S_++tail) s.A!:=by
 x_go;obtain⟨h1,n1,l1⟩:=bG (room:=P.room) h;obtain⟨s2,e2,h2,l2⟩:=A3 (T:=TT) (n:=19) (x:="_law_day") (p:=CW 109 (Lx s.nx) 0 1) (as:=b.args P.room S) (lc:=At 109<|EP b P.room S) (A!:=At 109<|EP b P.room S) (L':=b.rest (Ud s.nx++tail) S) (hs:=0) (cs:=[]) (m:=0) (r:=[]) Ä h1 l1 .nil ⋯;obtain⟨s3,M,la,J,e3,f,h3,l3⟩:=V' (a:={b with n:=s2.nx}) (P:=P) hP hr w8 h2 Ä;refine zk ?_;generalize eF:IM.F {b with n:=s2.nx} S=F at*;x_go;obtain⟨s4,e4,h4,l4⟩:=R0 (A!:=eH b P.room S F la) (v:=.ok .none) (e2.trans (Â (AN.bind · _) e3)) h3 (l3.trans l2) ⋯;obtain⟨s5,e5,h5,l5⟩:=AE (n:=19) (p:=CW 109 (Lx s.nx) 1 4) (hs:=0) (cs:=[]) (m:=3) (r:=[0,1,2]) (v:=.ok .none) (A!:=eG b P.room S F la s4.nx) (L':=[(.dict s4.nx,.dict [(.str "put",.int 0),(.str "take",.int 0)]),(.list<|s4.nx+1,.list []),(.list<|s4.nx+2,.list [])]++(.list la,.list<|Bp M)::O_ F J M (b.nN++(Ud s.nx++tail))) h4 l4 .nil ⋯;subst eF;have h6:=ay (b:={b with n:=s2.nx}) h5 f.S;have zV:L9 (XK (IM.F {b with n:=s2.nx} S) J M {b with n:=s2.nx} s.nx la s4.nx) s5.A!:=by exact AA l5 ⟨⋯,⋯,⋯,⋯,⋯,⋯,Â (λr=>À<|V.int r) f.R?.J!.rm.symm⟩
 obtain⟨qq,x,wN,wJ⟩:=SP hP hL f (lL hr f.R?.J!.rm zV) (go:=s4.nx+2) (pt:=b.pt) (by refine AA l5 ?_;kernel_rfl) (by refine AA l5 ?_;induction S<;>kernel_rfl) h6;refine zk ?_;have hl:=wJ.sel (m:=22) (r:=[3,4,5,6,18]) (by decide);refine⟨{qq with A!:=s.A!},?_,hl.lz _,Ä⟩;have own:AX s.nx (BS 109).scope.names []=Lx s.nx:=⋯;exact Vm (i:=109) (T:=TT) (n:=19) (s:=s) (x:="_law_is_kept") (as:=EP b P.room S) (o:=.ok (.D! [.bool Å]) qq) ⋯ ⋯<|by exact AA own ((BE (b:=1) ⋯ e4).trans ((BE (b:=4) ⋯ e5).trans wN))
end
def GY:Á V:=[.int 0,.int 0,.int 1,.int 0,.int 0,.int 3,.int 0,.int 2,.int 1,.int 1,.int 0,.int 2,.int 0,.int 4,.int 1,.int 5,.int 2]
section
variable{as:Ç}{l:Á Í}{d N_:Í}
theorem bZ(h0:0<N_)(hl:A.length<G_)(hi:A.length<l.length)(hd:BC (l.map V.int) (A.length:Í)=À (.int d))(h:Hs ((.list as,.list A)::tail) s):AI 18 (.fn "_law_ask") [.fl<|l.map .int,.ref<|.list as,.int N_] s (.int<|Ł d N_) ((.list as,.list<|A++[.int N_])::tail):=Ac h (hs:=BV [0,0,0,127,0,125,125,127,125,125,126,125,125,127]) (m:=1) (r:=[0]) (cs:=[(.b<|Ê<|A.length<G_,.b Å),(.b<|id<|Ê<|(A.length:Í)<((l.map V.int).length:Í),.b Å),(.o<|BC (l.map V.int) (A.length:Í),.o<|À<|.int d),(.b<|Ê<|0<N_,.b Å)]) (.cons (Â X.b<|Ü hl)<|.cons (Â X.b<|Ü<|by exact AA (Ð ..)<|Í.ofNat_lt.mpr hi)<|.cons (Â X.o hd)<|.cons (Â X.b<|Ü h0) .nil) ⋯
theorem Yl(h0:0<N_)(hl:A.length<G_)(hi:¬A.length<l.length)(hd:BC GY (Ł (A.length:Í) 17)=À (.int d))(h:Hs ((.list as,.list A)::tail) s):AI 18 (.fn "_law_ask") [.fl<|l.map .int,.ref<|.list as,.int N_] s (.int<|Ł d N_) ((.list as,.list<|A++[.int N_])::tail):=Ac h (hs:=BV [0,0,0,127,0,125,125,127,125,125,125,126,125,125,127]) (m:=1) (r:=[0]) (cs:=[(.b<|Ê<|A.length<G_,.b Å),(.b<|id<|Ê<|(A.length:Í)<((l.map V.int).length:Í),.b Æ),(.o<|BC GY<|Ł (A.length:Í) 17,.o<|À<|.int d),(.b<|Ê<|0<N_,.b Å)]) (.cons (Â X.b<|Ü hl)<|.cons (Â X.b<|ā<|by exact AA (Ð ..) λq=>hi<|Í.ofNat_lt.mp q)<|.cons (Â X.o hd)<|.cons (Â X.b<|Ü h0) .nil) ⋯
def aZ(v:V):Ë:=match v with|.int _=>Å|_=>Æ
theorem G2(h0:0<N_)(hl:A.length<G_)(l:Á Í)(as:Ç)(tail:Á AC):D4 (λx=>0<=x) (λx=>x<N_) λx=>∀s,Hs ((.list as,.list A)::tail) s->AI 18 (.fn "_law_ask") [.fl<|l.map .int,.ref<|.list as,.int N_] s (.int x) ((.list as,.list<|A++[.int N_])::tail):=by
 x_go;by_cases hi:A.length<l.length;.obtain ⟨v,hv,e⟩:=Ga (l:=l.map V.int) (k:=(A.length:Í)) (Í.natCast_nonneg _) (by exact AA (Ð ..)<|Í.ofNat_lt.mpr hi);obtain⟨d,_,rfl⟩:=MD hv;exact zk<|⟨_,ė _ h0,İ _ h0,λs h=>bZ h0 hl hi e h⟩
 .obtain ⟨v,hv,e⟩:=Ga (l:=GY) (k:=Ł (A.length:Í) 17) (ė _<|by decide)<|İ _<|by decide
  have:∃d:Í,v=.int d:=by have:=Hp (show GY.all aZ=Å from Ä) v hv;induction v using Internal.V.casesOn with|int d=>exact⟨d,Ä⟩|_=>exact CN this
  obtain⟨d,rfl⟩:=this;exact zk<|⟨_,ė _ h0,İ _ h0,λs h=>Yl h0 hl hi e h⟩
end
def pl(a b:Ç):Pr:=(EU 39<|((Gu<|BZ 101 3).take b).drop a).p ⟨(BS 101).scope,[]⟩
def gX(v:V):Pr:=((OE 39).a<|Vi<|BZ 101 3).p ⟨(BS 101).scope,[]⟩ v
structure Pv where
 as:Ç
 rw:Ç
 l:Á Í
 k:Kd
 o:Í
 P?:Í
 rest:Í
def Pv.lc(a:Pv):Ï->Ã V:=AD (AD (AD (At 101 [.fl<|a.l.map .int,.ref<|.list a.as,.str a.k.str,.int a.o]) "many"<|.int a.P?) "rest"<|.int a.rest) "rows"<|.ref<|.list a.rw
def Pv.lt(a:Pv)(t:Í):Ï->Ã V:=AD a.lc "turn"<|.int t
def Pv.lw(a:Pv)(t:Í)(w:V):Ï->Ã V:=AD (a.lt t) "wait" w
section
variable{n:Ç}{x:Ï}{hs m:Ç}{r:Á Ç}
theorem KN{U? m2:Ç}{r2:Á Ç}(h:Hs L1 s)(hl:s.A!=lc)(g:∀s,Hs L1 s->AI n (.fn x) as s v L2)(k:Fu (A9 n x p lc L1 s.nx hs []) È (Fy.res m r)=À ⟨as,L1,lc,Fu (A9 n x p lc L1 s.nx hs []) [] λz=>z.e.map (·.2)⟩) (hc:AL cs)(k2:∀md:Ç,(BD n (Bi (A9 n x p lc L1 s.nx hs []) v) lc L2 md U? cs).res m2 r2=À ⟨w,L3,U!,(BD n (Bi (A9 n x p lc L1 s.nx hs []) v) lc L2 md U? cs).T?⟩):Aa (p.run TT.A_ (AK TT n) s) w (Hs L3) U!:=by x_go;obtain⟨s1,e1,h1,l1⟩:=A3 (T:=TT) Ä h hl .nil k;obtain⟨s2,e2,h2,l2⟩:=g s1 h1;obtain⟨s3,e3,h3,l3⟩:=AE h2 (l2.trans l1) hc<|k2 s2.nx;exact zk<|⟨s3,e1.trans ((Â (AN.bind · _) e2).trans e3),h3,l3⟩
end
def Mo:Á V:=[.none,.none,.str "else",.int 1,.int 2,.int 3]
section
variable{a:Pv}{t x:Í}
theorem Z1(hl:s.A!=a.lt t)(hm:BC Mo x=À w)(h:Hs ((.list a.as,.list A)::(.list a.rw,.list R)::tail) s)(g:∀s,Hs ((.list a.as,.list A)::(.list a.rw,.list R)::tail) s->AI 19 (.fn "_law_ask") [.fl<|a.l.map .int,.ref<|.list a.as,.int 6] s (.int x) ((.list a.as,.list<|A++[.int 6])::(.list a.rw,.list R)::tail)):Aa ((pl 0 1).run TT.A_ (AK TT 19) s) (.ok .none) (Hs<|(.list a.as,.list<|A++[.int 6])::(.list a.rw,.list R)::tail) (a.lw t w):=KN (w:=.ok .none) (hs:=0) (m:=0) (r:=[]) (m2:=0) (r2:=[]) (U?:=BV [126]) (cs:=[(.o<|BC Mo x,.o<|À w)]) h hl g ⋯ (.cons (Â X.o hm) .nil) λnx=>⋯
theorem XR{t0:Í}{w0:V}(hl:s.A!=AD (a.lw t0 w0) "turn" (.int t))(hm:BC Mo x=À w)(h:Hs ((.list a.as,.list A)::(.list a.rw,.list R)::tail) s)(g:∀s,Hs ((.list a.as,.list A)::(.list a.rw,.list R)::tail) s->AI 19 (.fn "_law_ask") [.fl<|a.l.map .int,.ref<|.list a.as,.int 6] s (.int x) ((.list a.as,.list<|A++[.int 6])::(.list a.rw,.list R)::tail)):Aa ((pl 0 1).run TT.A_ (AK TT 19) s) (.ok .none) (Hs<|(.list a.as,.list<|A++[.int 6])::(.list a.rw,.list R)::tail) (a.lw t w):=by
 have e:AD (AD (a.lw t0 w0) "turn"<|.int t) "wait" w=a.lw t w:=by
  funext j;unfold Pv.lw Pv.lt AD;split;.rfl
  .split;.rfl
   .rfl
 refine AP e ?_;exact KN (U!:=AD (AD (a.lw t0 w0) "turn"<|.int t) "wait" w) (w:=.ok .none) (hs:=0) (m:=0) (r:=[]) (m2:=0) (r2:=[]) (U?:=BV [126]) (cs:=[(.o<|BC Mo x,.o<|À w)]) h hl g ⋯ (.cons (Â X.o hm) .nil) λnx=>⋯
def XH(a:Pv)(b:Ë):Á V:=bif b then[.D! [.str "rest",.int a.rest,.int 0]]else[]
theorem XQ{b1 b2:Ë}(hl:s.A!=a.lw t w)(hb:Ê (0<a.rest)=b1)(n5:((ñ t).eqv<|.int<|a.P?-1)=b2)(hR:R.length<G_)(h:Hs ((.list a.as,.list A)::(.list a.rw,.list R)::tail) s):Aa ((pl 1 2).run TT.A_ (AK TT 19) s) (.ok .none) (Hs<|(.list a.as,.list A)::(.list a.rw,.list<|R++XH a (b1&&b2))::tail) (a.lw t w):=by
 rcases b1 with _|_;.have g:=AE (n:=19) (p:=pl 1 2) (v:=.ok .none) (hs:=BV [125,127]) (m:=0) (r:=[]) (cs:=[(.b<|id<|Ê<|0<a.rest,.b Æ)]) (L':=(.list a.as,.list A)::(.list a.rw,.list R)::tail) (A!:=a.lw t w) h hl (.cons (Â X.b hb) .nil) ⋯;exact AP (show R++XH a (Æ&&b2)=R from å R).symm<|g
 .cases b2 with|false=>have g:=AE (n:=19) (p:=pl 1 2) (v:=.ok .none) (hs:=BV [125,127,125,125,127]) (m:=0) (r:=[]) (cs:=[(.b<|id<|Ê<|0<a.rest,.b Å),(.b<|id<|id<|(ñ t).eqv<|.int<|a.P?-1,.b Æ)]) (L':=(.list a.as,.list A)::(.list a.rw,.list R)::tail) (A!:=a.lw t w) h hl (.cons (Â X.b hb)<|.cons (Â X.b n5) .nil) ⋯;exact AP (show R++XH a (Å&&Æ)=R from å R).symm<|g|true=>exact AE (n:=19) (p:=pl 1 2) (v:=.ok .none) (hs:=BV [125,127,125,125,127,2,2,127,2]) (m:=2) (r:=[0,1]) (cs:=[(.b<|id<|Ê<|0<a.rest,.b Å),(.b<|id<|id<|(ñ t).eqv<|.int<|a.P?-1,.b Å),(.b<|Ê<|R.length<G_,.b Å)]) (A!:=a.lw t w) h hl (.cons (Â X.b hb)<|.cons (Â X.b n5)<|.cons (Â X.b<|Ü hR) .nil) ⋯
def K9(k:Kd)(o t:Í):Í:=match k with|.B_=>10*o+t|.take=>-1
theorem Z0(hl:s.A!=a.lw t w)(ho:Ap a.o)(hR:R.length<G_)(h:Hs ((.list a.as,.list A)::(.list a.rw,.list R)::tail) s):Aa ((pl 2 3).run TT.A_ (AK TT 19) s) (.ok .none) (Hs<|(.list a.as,.list A)::(.list a.rw,.list<|R++[.D! [.str a.k.str,w,.int<|K9 a.k a.o t]])::tail) (a.lw t w):=by
 obtain⟨as,rw,l,k,o,P?,rest⟩:=a;have qq:Ap 10:=by unfold Ap;decide
 induction k with|B_=>exact AE (n:=19) (p:=pl 2 3) (v:=.ok .none) (hs:=BV [2,125,125,125,125,125,127,2,127,2]) (m:=2) (r:=[0,1]) (cs:=[(.b<|Ê<|Ap 10/\Ap o,.b Å),(.b<|Ê<|R.length<G_,.b Å)]) (A!:=Pv.lw ⟨as,rw,l,.B_,o,P?,rest⟩ t w) h hl (.cons (Â X.b<|Ü ⟨qq,ho⟩)<|.cons (Â X.b<|Ü hR) .nil) ⋯|take=>exact AE (n:=19) (p:=pl 2 3) (v:=.ok .none) (hs:=BV [2,2,127,2]) (m:=2) (r:=[0,1]) (cs:=[(.b<|Ê<|R.length<G_,.b Å)]) (A!:=Pv.lw ⟨as,rw,l,.take,o,P?,rest⟩ t w) h hl (.cons (Â X.b<|Ü hR) .nil) ⋯
theorem Ou(hl:s.A!=lc)(h:Hs tail s):Aa ((gX<|.int t).run TT.A_ (AK TT 19) s) (.ok .none) (Hs tail) (AD lc "turn"<|.int t):=AE (n:=19) (p:=gX<|.int t) (v:=.ok .none) (hs:=0) (m:=0) (r:=[]) (cs:=[]) (L':=tail) (A!:=AD lc "turn"<|.int t) h hl .nil ⋯
end
def dU(v:V):Pr:=Cy 101 3 v
theorem YF:BP 101 3 4=((Do 101 3).bind<|NP dU).bind λf=>F8 f (.ret .none):=⋯
theorem aL{x:Í}(h0:0<=x)(h6:x<6):BM (λ(w:Wt)=>BC Mo x=À w.v) λw=>match w with|.num n=>0<n|_=>Ŀ:=by
 have:x=0\/x=1\/x=2\/x=3\/x=4\/x=5:=by lia
 rcases this with rfl|rfl|rfl|rfl|rfl|rfl;.exact ⟨.no,Ä,Þ⟩
 .exact ⟨.no,Ä,Þ⟩
 .exact ⟨.mr,Ä,Þ⟩
 .exact ⟨.num 1,Ä,(by decide:(0:Í)<1)⟩
 .exact ⟨.num 2,Ä,(by decide:(0:Í)<2)⟩
 .exact ⟨.num 3,Ä,(by decide:(0:Í)<3)⟩
structure Yr(k:Kd)(o rest:Í)(m t:Ç)(L:Á Ah):Prop where
 ok:∀r∈L,Er k r
 len:L.length<=t+if t=m then 1 else 0
 vals:A5 L=(ê t).map λj:Ç=>K9 k o (j:Í)X!:0<t->RE λpre w v=>L=pre++[.call k w v]
theorem MH(l r:Á Ah):A5 (l++r)=A5 l++A5 r:=by induction l with|nil=>rfl|cons y l ih=>induction y with|rest x=>exact ih|call k w m=>exact Â (_::·) ih
theorem Yr.next{k:Kd}{o rest:Í}{m t:Ç}{L:Á Ah}{w:Wt}{b:Ë}(p:Yr k o rest m t L)(ht:t<m)(hb:b=Å->0<rest/\t+1=m)(hw:match w with|.num n=>0<n|_=>Ŀ):Yr k o rest m (t+1) (L++((bif b then[Ah.rest rest]else[])++[.call k w<|K9 k o (t:Í)])):=by
 refine⟨λr hr=>?_,?_,?_,λZ=>⟨L++bif b then[Ah.rest rest]else[],w,_,(ô ..).symm⟩⟩
 .rcases Hy hr with q|q;.exact p.ok r q
  .rcases Hy q with q|q
   .rcases b with _|_;.cases q
    .exact AA (OF q)<|(hb Ä).1
   .exact AA (OF q) ⟨Ä,hw⟩
 .have l0:L.length<=t:=by have:=p.len;rw[Ì<|Č ht]at this;exact this
  refine AA Õ<|AA Õ ?_;rcases b with _|_;.exact Ñ (ü l0 1)<|ë _ _
  .exact AA (Î (hb Ä).2)<|ü l0 2
 .refine AA (MH ..)<|AA (MH ..)<|AA p.vals<|AA Á.range_succ<|AA (Ø ..) ?_;induction b<;>rfl
section
variable{m t:Ç}{all:Á V}
def PI(a:Pv)(tail:Á AC)(m a0 t:Ç)(s:S):Prop:=We (λ(A:Á V) (L:Á Ah)=>s.A!=a.lc\/OB λt0 w0=>s.A!=a.lw t0 w0) (λA L=>Hs ((.list a.as,.list A)::(.list a.rw,.list<|L.map Ah.v)::tail) s) (λA L=>A.length=a0+t) λA L=>Yr a.k a.o a.rest m t L
theorem UQ{i j k:Ç}{G:Ï->Ã V}{C:Dt}{s s1:S}(e:((Gu<|BZ 101 3).take k).drop i=((Gu<|BZ 101 3).take j).drop i++((Gu<|BZ 101 3).take k).drop j)(h1:(pl i j).run G C s=.ok .none s1):(pl i k).run G C s=(pl j k).run G C s1:=by unfold pl at h1⊢;refine AA e ?_;refine(CR _ _ _).trans ?_;exact Â (AN.bind · _) h1
theorem Z2{v:V}:dU v=(gX v).bind λZ=>pl 0 3:=⋯
theorem YV{x y:Í}:(ñ x).eqv (.int y)=Ê (x=y):=by rw[Ë.eq_iff_iff];simp[û]
theorem lZ{t m:Ç}(e:Ý t=(m:Í)-1):t+1=m:=by have:Ý t=(t:Í):=Ä;lia
theorem Wu{a0:Ç}(hm:a.P?=(m:Í))(qX:m<=3)(ha:a0<=30)(ho:Ap a.o)(ht:t<m)(p:PI a tail m a0 t s):A7 ((dU<|.int<|Ý t).run TT.A_ (AK TT 19) s) (.ok .none) (PI a tail m a0<|t+1):=by
 x_go;obtain⟨A,L,hl,h,hA,pr⟩:=p;obtain⟨x,x0,x6,g⟩:=G2 (A:=A) (N_:=6) (by decide) (Ò (by exact AA hA<|î ha<|Ą<|õ ht qX) (by decide:30+3<G_)) a.l a.as<|(.list a.rw,.list<|L.map Ah.v)::tail;obtain⟨w,ew,hw⟩:=aL x0 x6;have xR:=λs h=>Lh<|g s h;have l4:(L.map Ah.v).length<=4:=by refine AA (Ð ..)<|Ñ pr.len ?_;exact AA (Ì<|Č ht)<|Ñ (Ą ht)<|ő qX
 have st:Aa (((gX<|.int<|Ý t).bind λZ=>pl 0 1).run TT.A_ (AK TT 19) s) (.ok .none) (Hs<|(.list a.as,.list<|A++[.int 6])::(.list a.rw,.list<|L.map Ah.v)::tail) (a.lw (Ý t) w.v):=by
  x_go;rcases hl with hl|⟨t0,w0,hl⟩;.obtain ⟨s1,e1,h1,l1⟩:=Ou (t:=Ý t) hl h;obtain⟨s2,e2,g2,g3⟩:=Z1 l1 ew h1 xR;exact zk<|⟨s2,by exact AA (Pr.F_ ..)<|AA (e1 ..) e2,g2,g3⟩
  .obtain ⟨s1,e1,h1,l1⟩:=Ou (t:=Ý t) hl h;obtain⟨s2,e2,g2,g3⟩:=XR l1 ew h1 xR;exact zk<|⟨s2,by refine AA (Pr.F_ ..) ?_;rw[e1];exact e2,g2,g3⟩
 obtain⟨s1,e1,h1,l1⟩:=st;obtain⟨s2,e2,h2,l2⟩:=XQ l1 Ä Ä (Ò l4<|by decide) h1;obtain⟨s3,e3,h3,l3⟩:=Z0 l2 ho (Ò (by
  refine AA Õ ?_;refine î l4 (?_:_<=1);generalize(Ê (0<a.rest)&&_)=b;induction b;.exact è _
  .exact ä _) (by decide:4+1<G_)) h2;refine zk<|⟨s3,?_,A++[.int 6],L++((bif Ê (0<a.rest)&&(ñ<|Ý t).eqv (.int<|a.P?-1)then[Ah.rest a.rest]else[])++[Ah.call a.k w<|K9 a.k a.o (t:Í)]),.inr ⟨_,_,l3⟩,?_,by exact AA Õ<|AA hA Ä,pr.next (b:=Ê (0<a.rest)&&(ñ<|Ý t).eqv (.int<|a.P?-1)) ht (λq=>?_) hw⟩;.refine AA Z2<|AA (Pr.F_ ..) ?_;rw[Pr.F_]at e1;x_go;obtain⟨s0,e0,h0,_⟩:=Ou (t:=Ý t) Ä h;have e0:_=AN.ok V.none s0:=e0;refine zk ?_;rw[e0]at e1⊢;exact(UQ (j:=1) ⋯ e1).trans ((UQ (j:=2) ⋯ e2).trans e3)
 .have e:(L++((bif Ê (0<a.rest)&&(ñ<|Ý t).eqv (.int<|a.P?-1)then[Ah.rest a.rest]else[])++[Ah.call a.k w<|K9 a.k a.o (t:Í)])).map Ah.v=L.map Ah.v++XH a (Ê (0<a.rest)&&(ñ<|Ý t).eqv (.int<|a.P?-1))++[.D! [.str a.k.str,w.v,.int<|K9 a.k a.o<|Ý t]]:=by refine AA Ø<|AA Ø<|AP (ô ..) ?_;generalize(Ê (0<a.rest)&&_)=b;induction b<;>rfl
  exact AA e<|h3
 .rw[ù]at q;refine⟨Ù q.1,?_⟩;have e:=q.2;replace e:=YV▸e;have e:=Ù e;replace e:=hm▸e;exact lZ e
theorem Xr{a0:Ç}(hi:∀s,BH H! s=À all)(hm:a.P?=(m:Í))(qX:m<=3)(ha:a0<=30)(ho:Ap a.o)(k:Ç):∀(t:Ç) (s:S),t+k=m->PI a tail m a0 t s->A7 ((D1 dU H! all<|(Á.range' t k).map λi=>.int<|Ý i).run TT.A_ (AK TT 19) s) (.ok .none) (PI a tail m a0 m):=by induction k with|zero=>exact λt s e p=>⟨s,FK<|hi s,by have e':t=m:=e;exact e'▸p⟩|succ k ih=>intro t s e p;x_go;obtain⟨s1,e1,p1⟩:=Wu hm qX ha ho (by lia) p;obtain⟨s2,e2,p2⟩:=ih (t+1) s1 (by lia) p1;exact zk ⟨s2,(DP (hi s) e1).trans e2,p2⟩
structure CC(k:Kd)(o:Í)(L:Á Ah):Prop where
 ok:∀r∈L,Er k r
 len:L.length<=4
 vals:D4 (λ(m:Ç)=>0<m) (λm=>m<=3) λm=>A5 L=(ê m).map λj:Ç=>K9 k o (j:Í)X!:RE λpre w v=>L=pre++[.call k w v]
theorem Rt(n:Ç):(ê n).map (λi=>V.int<|Ý i)=(Á.range' 0 n).map λi=>V.int (Ý i):=by exact AA Á.range_eq_range' Ä
end
section
variable{as:Ç}{l:Á Í}{o:Í}
def aN(as:Ç)(l:Á Í)(k:Kd)(o:Í):Ï->Ã V:=At 101 [.fl<|l.map .int,.ref<|.list as,.str k.str,.int o]
theorem jd{lc:Ï->Ã V}{x:Í}(hl:s.A!=aN as l k o)(h:Hs ((.list as,.list A)::tail) s)(g:∀s,Hs ((.list as,.list A)::tail) s->AI 19 (.fn "_law_ask") [.fl<|l.map .int,.ref<|.list as,.int 3] s (.int x) ((.list as,.list<|A++[.int 3])::tail)):Aa ((BP 101 0 1).run TT.A_ (AK TT 19) s) (.ok .none) (Hs<|(.list as,.list<|A++[.int 3])::tail) (AD (aN as l k o) "many"<|.int<|1+x):=KN (w:=.ok .none) (hs:=0) (m:=0) (r:=[]) (m2:=0) (r2:=[]) (U?:=0) (cs:=[]) h hl g ⋯ .nil λnx=>⋯
theorem jc{x P?:Í}(hl:s.A!=AD (aN as l k o) "many" (.int P?))(h:Hs ((.list as,.list A)::tail) s)(g:∀s,Hs ((.list as,.list A)::tail) s->AI 19 (.fn "_law_ask") [.fl<|l.map .int,.ref<|.list as,.int 3] s (.int x) ((.list as,.list<|A++[.int 3])::tail)):Aa ((BP 101 1 2).run TT.A_ (AK TT 19) s) (.ok .none) (Hs<|(.list as,.list<|A++[.int 3])::tail) (AD (AD (aN as l k o) "many"<|.int P?) "rest"<|.int x):=KN (w:=.ok .none) (hs:=0) (m:=0) (r:=[]) (m2:=0) (r2:=[]) (U?:=0) (cs:=[]) h hl g ⋯ .nil λnx=>⋯
theorem Xn{a:Pv}{m:Ç}(hm:a.P?=(m:Í))(qX:(m:Í)<=1000)(hl:s.A!=AD (AD (aN a.as a.l a.k a.o) "many"<|.int (m:Í)) "rest" (.int a.rest))(ha:a.rw=s.nx)(h:Hs ((.list a.as,.list A)::tail) s):Aa ((BP 101 2 3).run TT.A_ (AK TT 19) s) (.ok .none) (Hs<|(.list a.as,.list A)::(.list a.rw,.list [])::tail) a.lc:=by obtain⟨as,rw,l,k,o,P?,rest⟩:=a;subst hm;subst ha;exact AE (n:=19) (p:=BP 101 2 3) (v:=.ok .none) (hs:=0) (m:=2) (r:=[1,0]) (cs:=[]) h hl .nil ⋯
theorem Zt{a:Pv}{m:Ç}(hm:a.P?=(m:Í))(qX:m<=3)(hl:s.A!=a.lc)(h:Hs tail s):Aa ((Do 101 3).run TT.A_ (AK TT 19) s) (.ok<|.D! [.D!<|(ê m).map λi=>.int<|Ý i,.D!<|(ê m).map λi=>.int<|Ý i]) (Hs tail) a.lc:=by obtain⟨as,rw,l,k,o,P?,rest⟩:=a;have hm:P?=(m:Í):=hm;subst hm;exact AE (n:=19) (p:=Do 101 3) (v:=.ok<|.D! [.D!<|(ê m).map λi=>.int<|Ý i,.D!<|(ê m).map λi=>.int<|Ý i]) (hs:=BV [127]) (m:=0) (r:=[]) (cs:=[(.b<|Ê<|0<=(m:Í)/\(m:Í)<=1000,.b Å)]) h hl (.cons (Â X.b<|Ü<|by lia) .nil) ⋯
theorem Zv{a:Pv}(hl:s.A!=a.lc\/OB λt0 w0=>s.A!=a.lw t0 w0)(h:Hs tail s):A7 ((BP 101 4 5).run TT.A_ (AK TT 19) s) (.ok<|.D! [.ref<|.list a.rw]) (Hs tail):=by
 x_go;rcases hl with hl|⟨t0,w0,hl⟩;.obtain ⟨s',e,h',_⟩:=AE (n:=19) (p:=BP 101 4 5) (v:=.ok<|.D! [.ref<|.list a.rw]) (hs:=0) (m:=0) (r:=[]) (cs:=[]) (L':=tail) (A!:=a.lc) h hl .nil ⋯;exact zk<|⟨s',e,h'⟩
 .obtain ⟨s',e,h',_⟩:=AE (n:=19) (p:=BP 101 4 5) (v:=.ok<|.D! [.ref<|.list a.rw]) (hs:=0) (m:=0) (r:=[]) (cs:=[]) (L':=tail) (A!:=a.lw t0 w0) h hl .nil ⋯;exact zk<|⟨s',e,h'⟩
theorem iY{x:Í}(h0:0<=x)(h3:x<3):∃m:Ç,1+x=(m:Í)/\0<m/\m<=3:=⟨(1+x).toNat,by lia,by lia,by lia⟩
theorem Rq(ho:Ap o)(hA:A.length<=20)(h:Hs ((.list as,.list A)::tail) s):cS (λs' A' rw L=>AK TT 20 (.fn "_law_plan") [.fl<|l.map .int,.ref<|.list as,.str k.str,.int o] s=.ok (.ref<|.list rw) s') (λs' A' rw L=>Hs ((.list as,.list A')::(.list rw,.list<|L.map Ah.v)::tail) s') (λs' A' rw L=>s'.A!=s.A!) (λs' A' rw L=>A'.length<=A.length+5) λs' A' rw L=>CC k o L:=by
 have a1:∀B:Á V,(A++B).length=A.length+B.length:=λB=>Õ;x_go;obtain⟨x,x0,x3,g1⟩:=G2 (A:=A) (N_:=3) (by decide) (Ò hA<|by decide) l as tail;obtain⟨y,y0,y3,g2⟩:=G2 (A:=A++[.int 3]) (N_:=3) (by decide) (Ò (by exact AA (a1 ..)<|ü hA 1)<|by decide) l as tail;obtain⟨s1,e1,h1,l1⟩:=jd (s:={s with A!:=aN as l k o}) (lc:=aN as l k o) Ä (h.lz _) λs h=>Lh<|g1 s h;obtain⟨s2,e2,h2,l2⟩:=jc l1 h1 λs h=>Lh<|g2 s h;obtain⟨m,hm,ry,qX⟩:=iY x0 x3;rw[hm]at l2;obtain⟨s3,e3,h3,l3⟩:=Xn (a:=⟨as,s2.nx,l,k,o,(m:Í),y⟩) (m:=m) Ä (Í.ofNat_le.mpr<|Ñ qX<|by decide) l2 Ä h2;obtain⟨s4,e4,h4,l4⟩:=Zt (a:=⟨as,s2.nx,l,k,o,(m:Í),y⟩) Ä qX l3 h3;refine zk ?_;have hB:(A++[V.int 3]++[V.int 3]).length=A.length+2:=by exact AA Õ<|AA (a1 ..) Ä
 x_go;obtain⟨s5,e5,A',L,yT,h5,zf,p5⟩:=Xr (a:=⟨as,s2.nx,l,k,o,(m:Í),y⟩) (a0:=A.length+2) (tail:=tail) (m:=m) (H!:=V.D!<|(ê m).map λi=>V.int<|Ý i) (all:=(ê m).map λi=>V.int<|Ý i) (λZ=>Ä) Ä qX (Ñ (ü hA 2)<|by decide) ho m 0 s4 (Ű m) ⟨_,[],.inl l4,h4,hB,(λZ h=>nomatch h),è _,Ä,λh=>â h<|Ę 0⟩;obtain⟨s6,e6,h6⟩:=Zv yT h5;refine zk<|⟨{s6 with A!:=s.A!},A',s2.nx,L,?_,h6.lz _,Ä,by omega,p5.ok,?_,⟨m,ry,qX,p5.vals⟩,p5.X! ry⟩
 .have lp:(BP 101 3 4).run TT.A_ (AK TT 19) s3=.ok .none s5:=by refine AA YF<|AA (Pr.F_ ..)<|AA (Pr.F_ ..)<|AA (e4 ..) ?_;show AN.bind ((NP dU<|.D! [.D! _,.D! _]).run TT.A_ (AK TT 19) s4) _=_;rw[<-Rt]at e5;exact AA (Ll e5 Ä h4.lk h5.lk) Ä
  exact Lm (i:=101) (T:=TT) (n:=19) (s:=s) (x:="_law_plan") (o:=AN.ok (V.D! [V.ref<|.list s2.nx]) s6) ⋯ ⋯ ⋯ ((D8 (b:=1) ⋯ e1).trans ((D8 (b:=2) ⋯ e2).trans ((D8 (b:=3) ⋯ e3).trans ((D8 (b:=4) ⋯ lp).trans e6))))
 .have:=p5.len;rw[Î Ä]at this;omega
end
def Lz(c0 c1 c2:Ç):Á (Ï×Ad):=[("kinds",.cell c2),("asked",.cell c1),("script",.cell c0)]
structure Lw where
 c0:Ç
 c1:Ç
 c2:Ç
 l:Á Í
 as:Ç
 ka:Ç
 k2:Kd
def Lw.p(a:Lw)(x y:Ç):Pr:=CW 110 (Lz a.c0 a.c1 a.c2) x y
def Lw.cells(a:Lw)(A:Á V)(kc:V)(tail:Á AC):Á AC:=(.list a.as,.list A)::(.cell a.c0,.cell<|À<|.fl<|a.l.map .int)::(.cell a.c1,.cell<|À<|.ref<|.list a.as)::(.cell a.c2,.cell<|À kc)::tail
def Lw.m9(a:Lw)(A:Á V)(tail:Á AC):Á AC:=(.list a.as,.list A)::(.cell a.c0,.cell<|À<|.fl<|a.l.map .int)::(.cell a.c1,.cell<|À<|.ref<|.list a.as)::(.cell a.c2,.cell È)::tail
def Lw.Y_(a:Lw):AC:=(.list a.ka,.list [.str "put",.str "take",.str a.k2.str])
theorem AI.up{n:Ç}{x:Ï}(h:AI n (.fn x) as s v L):AI (n+1) (.fn x) as s v L:=by obtain⟨s',e,g,g2⟩:=h;exact⟨s',L5 e (by intro h;cases h),g,g2⟩
def MN(a:Lw):V->Pr:=hK (OE 38) ⟨(BS 110).scope,Lz a.c0 a.c1 a.c2⟩<|gG<|BZ 110 3
section
variable{n:Ç}{x:Ï}{hs m:Ç}{r:Á Ç}
theorem Uo{R:V->Á AC->Prop}{w:V->Rv}{U!:V->Ï->Ã V}(h:Hs L1 s)(hl:s.A!=lc)(g:∀s,Hs L1 s->Hb (λv L2=>R v L2) λv L2=>AI n (.fn x) as s v L2)(k:Fu (A9 n x p lc L1 s.nx hs []) È (Fy.res m r)=À ⟨as,L1,k?,Fu (A9 n x p lc L1 s.nx hs []) [] λz=>z.e.map (·.2)⟩)(k2:∀(v:V) (mH:Á AC) (md:Ç),(BD n (Bi (A9 n x p lc L1 s.nx hs []) v) k? mH md 0 []).res 0 []=À ⟨w v,mH,U! v,(BD n (Bi (A9 n x p lc L1 s.nx hs []) v) k? mH md 0 []).T?⟩):Ku (λs' v L2=>p.run TT.A_ (AK TT n) s=(w v).out s') (λs' v L2=>R v L2) (λs' v L2=>Hs L2 s') λs' v L2=>s'.A!=U! v:=by x_go;obtain⟨s1,e1,h1,l1⟩:=A3 (T:=TT) Ä h hl .nil k;obtain⟨v,L2,r,s2,e2,h2,l2⟩:=g s1 h1;obtain⟨s3,e3,h3,l3⟩:=AE h2 (l2.trans l1) .nil<|k2 v L2 s2.nx;exact zk<|⟨s3,v,L2,e1.trans ((Â (AN.bind · _) e2).trans e3),r,h3,l3⟩
end
section
variable{a:Lw}{x:Í}
theorem jE(hl:s.A!=lc)(ha:a.as=s.nx)(h:Hs ((.cell a.c0,.cell<|À<|.fl<|a.l.map .int)::(.cell a.c1,.cell È)::(.cell a.c2,.cell È)::tail) s):Aa ((a.p 0 1).run TT.A_ (AK TT 20) s) (.ok .none) (Hs<|a.m9 [] tail) lc:=by obtain⟨c0,c1,c2,l,as,ka,k2⟩:=a;subst ha;exact AE (n:=20) (v:=.ok .none) (hs:=BV [2,2]) (m:=4) (r:=[0,1,2,3]) (cs:=[]) h hl .nil ⋯
theorem jD(hl:s.A!=lc)(h:Hs (a.m9 A tail) s)(g:∀s,Hs (a.m9 A tail) s->AI 20 (.fn "_law_ask") [.fl<|a.l.map .int,.ref<|.list a.as,.int 3] s (.int x) (a.m9 (A++[.int 3]) tail)):Aa ((a.p 1 2).run TT.A_ (AK TT 20) s) (.ok .none) (Hs<|a.m9 (A++[.int 3]) tail) (AD lc "room"<|.int<|1+x):=KN (w:=.ok .none) (hs:=BV [2,4]) (m:=4) (r:=[0,1,2,3]) (m2:=0) (r2:=[]) (U?:=0) (cs:=[]) h hl g ⋯ .nil λnx=>⋯
theorem jC(hl:s.A!=lc)(hx:x=match a.k2 with|.B_=>0|.take=>1)(ha:∀s,Hs (a.m9 A tail) s->AI 20 (.fn "_law_ask") [.fl<|a.l.map .int,.ref<|.list a.as,.int 2] s (.int x) (a.m9 (A++[.int 2]) tail))(h:Hs (a.m9 A tail) s):H5 (λs' ka=>(a.p 2 3).run TT.A_ (AK TT 20) s=.ok .none s') (λs' ka=>Hs ({a with ka:=ka}.cells (A++[V.int 2]) (.ref<|.list ka) ({a with ka:=ka}.Y_::tail)) s') λs' ka=>s'.A!=lc:=by x_go;obtain⟨s1,e1,h1,l1⟩:=A3 (T:=TT) (n:=20) (p:=a.p 2 3) (x:="_law_ask") (as:=[.fl<|a.l.map .int,.ref<|.list a.as,.int 2]) (L':=a.m9 A tail) (A!:=lc) (hs:=BV [2,4]) (m:=0) (r:=[]) Ä h hl .nil ⋯;obtain⟨s2,e2,h2,l2⟩:=ha s1 h1;obtain⟨c0,c1,c2,l,as,ka,k2⟩:=a;induction k2 with|B_=>have hx:x=0:=hx;subst hx;obtain⟨s3,e3,h3,l3⟩:=D9 (e1.trans (Â (AN.bind · _) e2)) (v:=.ok .none) (hs:=BV [6,6]) (m:=5) (r:=[1,2,3,4,0]) (L':=(Lw.mk c0 c1 c2 l as s2.nx .B_).cells (A++[V.int 2]) (.ref<|.list s2.nx)<|(Lw.mk c0 c1 c2 l as s2.nx .B_).Y_::tail) (A!:=lc) (cs:=[]) h2 (l2.trans l1) .nil ⋯;exact zk<|⟨s3,s2.nx,e3,h3,l3⟩|take=>have hx:x=1:=hx;subst hx;obtain⟨s3,e3,h3,l3⟩:=D9 (e1.trans (Â (AN.bind · _) e2)) (v:=.ok .none) (hs:=BV [6,6]) (m:=5) (r:=[1,2,3,4,0]) (L':=(Lw.mk c0 c1 c2 l as s2.nx .take).cells (A++[V.int 2]) (.ref<|.list s2.nx)<|(Lw.mk c0 c1 c2 l as s2.nx .take).Y_::tail) (A!:=lc) (cs:=[]) h2 (l2.trans l1) .nil ⋯;exact zk<|⟨s3,s2.nx,e3,h3,l3⟩
def Lw.mh(a:Lw)(A:Á V)(pre:Á AC)(tail:Á AC):Á AC:=(.list a.as,.list A)::(pre++(.cell a.c0,.cell<|À<|.fl<|a.l.map .int)::(.cell a.c1,.cell<|À<|.ref<|.list a.as)::(.cell a.c2,.cell<|À<|.ref<|.list a.ka)::a.Y_::tail)
def QJ(a:Lw)(k:Kd)(o:Í):Á V:=[.fl<|a.l.map .int,.ref<|.list a.as,.str k.str,.int o]
def el(lc:Ï->Ã V)(i:Ç):Ï->Ã V:=AD lc "owner"<|.int<|Ý i
variable{R:V->Á AC->Prop}
theorem lX(h:Hs (a.mh A [] tail) s)(hl:s.A!=lc)(g:∀s,Hs (a.mh A [] tail) s->Hb (λv L2=>R v L2) λv L2=>AI 20 (.fn "_law_plan") (QJ a .B_<|Ý 0) s v L2):cT (λs' v L2=>(MN a<|.int<|Ý 0).run TT.A_ (AK TT 20) s=.ok (.D! [v]) s') (λs' v L2=>R v L2) λs' v L2=>Hs L2 s':=by obtain⟨s',v,L2,e,r,h',l'⟩:=Uo (p:=MN a<|.int<|Ý 0) (hs:=BV [2,4,6,8]) (m:=0) (r:=[]) (w:=λv=>.ok<|.D! [v]) (k?:=el lc 0) (U!:=λZ=>el lc 0) h hl g ⋯ λv mH md=>⋯;exact⟨s',v,L2,e,r,h'⟩
theorem lW(h:Hs (a.mh A [p0] tail) s)(hl:s.A!=lc)(g:∀s,Hs (a.mh A [p0] tail) s->Hb (λv L2=>R v L2) λv L2=>AI 20 (.fn "_law_plan") (QJ a .take<|Ý 1) s v L2):cT (λs' v L2=>(MN a<|.int<|Ý 1).run TT.A_ (AK TT 20) s=.ok (.D! [v]) s') (λs' v L2=>R v L2) λs' v L2=>Hs L2 s':=by obtain⟨s',v,L2,e,r,h',l'⟩:=Uo (p:=MN a<|.int<|Ý 1) (hs:=BV [4,6,8,10]) (m:=0) (r:=[]) (w:=λv=>.ok<|.D! [v]) (k?:=el lc 1) (U!:=λZ=>el lc 1) h hl g ⋯ λv mH md=>⋯;exact⟨s',v,L2,e,r,h'⟩
theorem lV(h:Hs (a.mh A [p1,p0] tail) s)(hl:s.A!=lc)(g:∀s,Hs (a.mh A [p1,p0] tail) s->Hb (λv L2=>R v L2) λv L2=>AI 20 (.fn "_law_plan") (QJ a a.k2<|Ý 2) s v L2):cT (λs' v L2=>(MN a<|.int<|Ý 2).run TT.A_ (AK TT 20) s=.ok (.D! [v]) s') (λs' v L2=>R v L2) λs' v L2=>Hs L2 s':=by obtain⟨s',v,L2,e,r,h',l'⟩:=Uo (p:=MN a<|.int<|Ý 2) (hs:=BV [6,8,10,12]) (m:=0) (r:=[]) (w:=λv=>.ok<|.D! [v]) (k?:=el lc 2) (U!:=λZ=>el lc 2) h hl g ⋯ λv mH md=>⋯;exact⟨s',v,L2,e,r,h'⟩
end
section
variable{all r acc:Á V}
theorem HS(hi:BH H! s=À all)(e:(te v).run G C s=.ok (.D! [w]) s1):(B' te H! all (v::r) acc).run G C s=(B' te H! all r<|acc++[w]).run G C s1:=by refine(Gb hi).trans ?_;show((te v).bind _).run G C s=_;exact AA (Pr.F_ ..)<|AA (e ..) Ä
theorem WB(hi:BH H! s=À all):(B' te H! all [] acc).run G C s=.ok (.D! acc) s:=(Gb hi).trans Ä
end
section
variable{o:Í}{p0 p1 p2:Ç}
def RP(a:Lw)(k:Kd)(o:Í)(A:Á V)(pre tail:Á AC)(v:V)(L2:Á AC):Prop:=Ku (λ(A':Á V) (rw:Ç) (L:Á Ah)=>v=.ref (.list rw)) (λA' rw L=>L2=a.mh A' ((.list rw,.list<|L.map Ah.v)::pre) tail) (λA' rw L=>A'.length<=A.length+5) λA' rw L=>CC k o L
theorem LE(ho:Ap o)(hA:A.length<=20)(h:Hs (a.mh A pre tail) s):Hb (λv L2=>RP a k o A pre tail v L2) λv L2=>AI 20 (.fn "_law_plan") (QJ a k o) s v L2:=by refine AG λP kk=>?_;obtain⟨s',A',rw,L,e,h',l',len,pr⟩:=Rq (k:=k) (l:=a.l) ho hA h;exact kk ⟨_,_,⟨A',rw,L,Ä,Ä,len,pr⟩,s',e,h',l'⟩
inductive jt(a:Lw)(tail:Á AC)(lc:Ï->Ã V)(s:S):Prop|mk (s':S) (A':Á V) (pl p0 p1 p2:Ç) (L0 L1 L2:Á Ah) (e:(a.p 3 4).run TT.A_ (AK TT 20) s=.ok .none s') (h:Hs ((.list pl,.list [.ref<|.list p0,.ref<|.list p1,.ref<|.list p2])::a.mh A' [(.list p2,.list<|L2.map Ah.v),(.list p1,.list<|L1.map Ah.v),(.list p0,.list<|L0.map Ah.v)] tail) s') (l:s'.A!=AD lc "plans" (.ref<|.list pl)) (r0:CC .B_ 0 L0) (r1:CC .take 1 L1) (r2:CC a.k2 2 L2)
theorem jB(hA:A.length<=5)(hl:s.A!=lc)(h:Hs (a.mh A [] tail) s):jt a tail lc s:=by refine AG λP kk=>?_;have sm:∀i:Ç,i<3->Ap (Ý i):=λi hi=>⟨č (by decide)<|Í.ofNat_nonneg i,č (Í.ofNat_le.mpr<|Ą hi)<|by decide⟩;x_go;obtain⟨s1,e1,h1,l1⟩:=D5 (T:=TT) (n:=20) (p:=a.p 3 4) (i:=.comp) (q:=B' (MN a) (.D! HJ) HJ HJ []) (L':=a.mh A [] tail) (A!:=lc) (hs:=0) (m:=0) (r:=[]) Ä h hl .nil ⋯;obtain⟨s2,v0,M0,e2,⟨A0,p0,L0,rfl,rfl,n0,r0⟩,h2⟩:=lX (s:=GP.comp.M! s1) (h1.lz _) Ä λs h=>LE (sm 0<|by decide) (Ñ hA<|by decide) h;obtain⟨s3,v1,M1,e3,⟨A1,p1,L1,rfl,rfl,n1,r1⟩,h3⟩:=lW h2 Ä λs h=>LE (sm 1<|by decide) (by lia) h;obtain⟨s4,v2,M2,e4,⟨A2,p2,L2,rfl,rfl,n2,r2⟩,h4⟩:=lV h3 Ä λs h=>LE (sm 2<|by decide) (by lia) h;have ec:(B' (MN a) (.D! HJ) HJ HJ []).run TT.A_ (AK TT 20) (GP.comp.M! s1)=.ok (.D! [.ref<|.list p0,.ref<|.list p1,.ref<|.list p2]) s4:=(HS Ä e2).trans<|(HS Ä e3).trans<|(HS Ä e4).trans<|WB Ä;replace e1:=ec▸e1;obtain⟨s5,e5,h5,l5⟩:=D9 (n:=20) (p:=FN (Gc 20 (a.p 3 4) lc (a.mh A [] tail) s.nx 0 [])<|.D! [.ref<|.list p0,.ref<|.list p1,.ref<|.list p2]) (s:={s4 with A!:=s1.A!}) e1 (v:=.ok .none) (hs:=0) (m:=1) (r:=[0]) (cs:=[]) (L':=(.list s4.nx,.list [.ref<|.list p0,.ref<|.list p1,.ref<|.list p2])::a.mh A2 [(.list p2,.list<|L2.map Ah.v),(.list p1,.list<|L1.map Ah.v),(.list p0,.list<|L0.map Ah.v)] tail) (A!:=AD lc "plans"<|.ref<|.list s4.nx) (h4.lz _) l1 .nil ⋯;exact zk<|kk ⟨s5,A2,s4.nx,p0,p1,p2,L0,L1,L2,e5,h5,l5,r0,r1,r2⟩
end
def gj{α:Type}(x y z:α):I3->α:=λi=>match i with|0=>x|1=>y|2=>z
def TP(n pl p0 p1 p2 wi:Ç)(L0 L1 L2:Á Ah)(wl:Á V):IM:=⟨0,pl,gj p0 p1 p2,wi,n+1,n+2,n,n+3,n+4,gj L0 L1 L2,wl⟩
section
variable{n:Ç}{x:Ï}{hs m:Ç}{r:Á Ç}
theorem dv(h:Hs L1 s)(hl:s.A!=lc)(g:∀s,Hs p_ s->AI n (.fn x) as s v L2)(k:Fu (A9 n x p lc L1 s.nx hs []) È (Fy.res m r)=À ⟨as,p_,lc,Fu (A9 n x p lc L1 s.nx hs []) [] λz=>z.e.map (·.2)⟩)(k2:∀md:Ç,(BD n (Bi (A9 n x p lc L1 s.nx hs []) v) lc L2 md 0 []).res 0 []=À ⟨w,L2,U!,(BD n (Bi (A9 n x p lc L1 s.nx hs []) v) lc L2 md 0 []).T?⟩):∃s',p.run TT.A_ (AK TT n) s=w.out s':=by x_go;obtain⟨s1,e1,h1,l1⟩:=A3 (T:=TT) Ä h hl .nil k;obtain⟨s2,e2,h2,l2⟩:=g s1 h1;obtain⟨s3,e3,h3,l3⟩:=AE h2 (l2.trans l1) .nil<|k2 s2.nx;exact zk<|⟨s3,e1.trans ((Â (AN.bind · _) e2).trans e3)⟩
end
section
variable{a:Lw}{pl p0 p1 p2:Ç}{room:Í}{n:Ç}
theorem jA(hl:s.A!=lc)(h:Hs ((.list pl,.list [.ref<|.list p0,.ref<|.list p1,.ref<|.list p2])::a.mh A [(.list p2,.list<|L2.map Ah.v),(.list p1,.list<|L1.map Ah.v),(.list p0,.list<|L0.map Ah.v)] tail) s):Ku (λ(s':S) (wi:Ç) (wl:Á Í)=>(a.p 4 5).run TT.A_ (AK TT 20) s=.ok .none s') (λs' wi wl=>wl≠[]) (λs' wi wl=>Hs ((TP n pl p0 p1 p2 wi L0 L1 L2<|wl.map .int).S_++tail) s') λs' wi wl=>s'.A!=AD lc "wishes" (.ref<|.list wi):=by
 by_cases hd:a.l.drop (A.length:Í).toNat=[];.obtain ⟨s1,e1,h1,l1⟩:=AE (n:=20) (p:=a.p 4 5) (v:=.ok .none) (hs:=BV [10,12,2,1,127]) (m:=11) (r:=[2,6,5,4,1]) (L':=(TP n pl p0 p1 p2 (s.nx+1) L0 L1 L2<|([3,0]:Á Í).map .int).S_++tail) (A!:=AD lc "wishes"<|.ref<|.list<|s.nx+1) (cs:=[(.b<|id !(Á.drop (A.length:Í).toNat<|a.l.map V.int).isEmpty,.b Æ)]) h hl (.cons (Â X.b<|by exact AP Ι<|AA hd Ä) .nil) ⋯;exact⟨s1,s.nx+1,[3,0],e1,by decide,h1,l1⟩
 .obtain ⟨s1,e1,h1,l1⟩:=AE (n:=20) (p:=a.p 4 5) (v:=.ok .none) (hs:=BV [10,12,2,1,127]) (m:=10) (r:=[1,5,4,3,0]) (L':=(TP n pl p0 p1 p2 s.nx L0 L1 L2<|Á.drop (A.length:Í).toNat<|a.l.map V.int).S_++tail) (A!:=AD lc "wishes"<|.ref<|.list s.nx) (cs:=[(.b<|id !(Á.drop (A.length:Í).toNat<|a.l.map V.int).isEmpty,.b Å)]) h hl (.cons (Â X.b<|by
   refine AP Ι ?_;generalize q:a.l.drop (A.length:Í).toNat=zc;rcases zc with _|⟨x,r⟩;.exact â q hd
   .rfl) .nil) ⋯;rw[<-Ι]at h1;exact⟨s1,s.nx,_,e1,hd,h1,l1⟩
def gf(lc:Ï->Ã V)(room:Í)(pl wi:Ç):Ï->Ã V:=AD (AD (AD lc "room"<|.int room) "plans"<|.ref<|.list pl) "wishes"<|.ref<|.list wi
theorem i9(hl:s.A!=gf lc room b.pl b.wi)(h:Hs (b.rest tail Å) s)(g:∀s,Hs (b.rest tail Å) s->AI 20 (.fn "_law_is_kept") (EP b room Å) s (.bool Å) (b.S_++tail)):Aa ((a.p 5 6).run TT.A_ (AK TT 20) s) (.ok .none) (Hs<|b.S_++tail) (gf lc room b.pl b.wi):=KN (w:=.ok .none) (hs:=0) (m:=0) (r:=[]) (m2:=0) (r2:=[]) (U?:=0) (cs:=[]) h hl g ⋯ .nil λnx=>⋯
theorem i8{wi:Ç}(hl:s.A!=gf lc room pl wi)(h:Hs ((TP s.nx pl p0 p1 p2 wi L0 L1 L2 wl).S_++tail) s)(g:∀s',Hs ((TP s.nx pl p0 p1 p2 wi L0 L1 L2 wl).rest tail Æ) s'->AI 20 (.fn "_law_is_kept") (EP (TP s.nx pl p0 p1 p2 wi L0 L1 L2 wl) room Æ) s' (.bool Å) ((TP s.nx pl p0 p1 p2 wi L0 L1 L2 wl).S_++tail)):∃s',(a.p 6 7).run TT.A_ (AK TT 20) s=.ok (.D! [.bool Å]) s':=dv (w:=.ok<|.D! [.bool Å]) (hs:=BV [3,3,3,3,3,3,3,3,3,3,3,3,3,3,3,3,3,3,3,3]) (m:=10) (r:=[5,6,7,8,9,1,2,0,3,4]) (p_:=(TP s.nx pl p0 p1 p2 wi L0 L1 L2 wl).rest tail Æ) (U!:=gf lc room pl wi) h hl g ⋯ λnx=>⋯
def Ie(k2:Kd)(room:Í)(L0 L1 L2:Á Ah):Dc:=⟨gj .B_ .take k2,gj L0 L1 L2,room⟩
theorem aM{m:Ç}(h0:0<m)(h3:m<=3):m∈[1,2,3]:=by
 have:m=1\/m=2\/m=3:=by lia
 rcases this with rfl|rfl|rfl<;>decide
theorem XL:∀i:I3,∀m∈[1,2,3],((ê m).map λj:Ç=>K9 .B_ (Ý i.val) (j:Í)).Nodup/\∀v∈(ê m).map λj:Ç=>K9 .B_ (Ý i.val) (j:Í),owner i v=Å:=by decide
theorem MZ(r:CC .B_ (Ý i.val) L):(A5 L).Nodup/\∀v∈A5 L,owner i v=Å:=by x_go;obtain⟨m,m0,m3,e⟩:=r.vals;refine zk<|AA e ?_;exact XL i m<|aM m0 m3
theorem XP(h0:0<room)(h3:room<=3)(r0:CC .B_ 0 L0)(r1:CC .take 1 L1)(r2:CC k2 2 L2):Ay (Ie k2 room L0 L1 L2)/\MB (Ie k2 room L0 L1 L2):=by have all:∀i,CC ((Ie k2 room L0 L1 L2).kd i) (Ý i.val) ((Ie k2 room L0 L1 L2).B? i):=λi=>match i with|0=>r0|1=>r1|2=>r2;exact⟨⟨⟨h0,h3⟩,λi=>(all i).ok,λi=>(all i).len,λi hk=>(MZ (i:=i)<|AP hk<|all i).1,λi hk=>(MZ (i:=i)<|AP hk<|all i).2⟩,λi=>(all i).X!⟩
theorem Xy{c0 c1 c2:Ç}{l:Á Í}(h:Hs ((.cell c0,.cell<|À<|.fl<|l.map .int)::(.cell c1,.cell È)::(.cell c2,.cell È)::tail) s):∃s',(CW 110 (Lz c0 c1 c2) 0 7).run TT.A_ (AK TT 20) s=.ok (.D! [.bool Å]) s':=by
 x_go;obtain⟨s1,e1,h1,l1⟩:=jE (a:=⟨c0,c1,c2,l,s.nx,0,.B_⟩) Ä Ä h;obtain⟨x,x0,x3,g1⟩:=G2 (A:=[]) (N_:=3) (by decide) (by decide) l s.nx<|(.cell c0,.cell<|À<|.fl<|l.map .int)::(.cell c1,.cell<|À<|.ref<|.list s.nx)::(.cell c2,.cell È)::tail;obtain⟨s2,e2,h2,l2⟩:=jD (a:=⟨c0,c1,c2,l,s.nx,0,.B_⟩) l1 h1 λs h=>(g1 s h).up.up;obtain⟨y,y0,y2,g2⟩:=G2 (A:=[]++[.int 3]) (N_:=2) (by decide) (by decide) l s.nx<|(.cell c0,.cell<|À<|.fl<|l.map .int)::(.cell c1,.cell<|À<|.ref<|.list s.nx)::(.cell c2,.cell È)::tail;obtain⟨k2,hk⟩:∃k2:Kd,y=match k2 with|.B_=>0|.take=>1:=by
  have:y=0\/y=1:=by lia
  x_go;rcases this with h|h;.exact zk<|⟨.B_,h⟩
  .exact zk<|⟨.take,h⟩
 obtain⟨s3,ka,e3,h3,l3⟩:=jC (a:=⟨c0,c1,c2,l,s.nx,0,k2⟩) l2 hk (λs h=>(g2 s h).up.up) h2;obtain⟨s4,A,pl,p0,p1,p2,L0,L1,L2,e4,h4,l4,r0,r1,r2⟩:=jB (a:=⟨c0,c1,c2,l,s.nx,ka,k2⟩) (by show 2<=5;decide) l3 h3;obtain⟨s5,wi,wl,e5,hw,h5,l5⟩:=jA (n:=0) l4 h4;obtain⟨ok,X!⟩:=XP (room:=1+x) (Í.add_pos_of_pos_of_nonneg Í.one_pos x0) (AP (Í.add_comm x 1) x3) r0 r1 r2;have kept:∀(n:Ç) (S:Ë) (s:Internal.S),Hs ((TP n pl p0 p1 p2 wi L0 L1 L2<|wl.map .int).rest tail S) s->AI 20 (.fn "_law_is_kept") (EP (TP n pl p0 p1 p2 wi L0 L1 L2<|wl.map .int) (1+x) S) s (.bool Å) ((TP n pl p0 p1 p2 wi L0 L1 L2<|wl.map .int).S_++tail):=λn S s h=>SQ (P:=Ie k2 (1+x) L0 L1 L2) ok X! Ä ⟨wl,Ä,hw⟩ h;obtain⟨s6,e6,h6,l6⟩:=i9 (a:=⟨c0,c1,c2,l,s.nx,ka,k2⟩) (b:=TP 0 pl p0 p1 p2 wi L0 L1 L2<|wl.map .int) (room:=1+x) (lc:=s.A!) l5 h5<|kept 0 Å;obtain⟨s7,e7⟩:=i8 (a:=⟨c0,c1,c2,l,s.nx,ka,k2⟩) (room:=1+x) (wl:=wl.map .int) (lc:=s.A!) l6 h6<|kept _ Æ;exact zk<|⟨s7,(BE (b:=1) ⋯ e1).trans ((BE (b:=2) ⋯ e2).trans ((BE (b:=3) ⋯ e3).trans ((BE (b:=4) ⋯ e4).trans ((BE (b:=5) ⋯ e5).trans ((BE (b:=6) ⋯ e6).trans e7)))))⟩
end
end Mine.Internal
end
section
open PySem PySem.W PyProof.Rows PySem.Calls PyProof.V
namespace Mine.Internal
theorem aY:∀f,IE 50 0 []=À f->DO f:=by
 have h:IE 50 0 []=IE 50 0 []:=Ä;conv at h=>rhs;whnf
 intro f hf;rw[h]at hf;obtain rfl:=Ak hf;exact⟨Ä,Ä,Ä,Ä,_,_,_,_,_,_,_,_,_,_,Ä,Ä⟩
theorem X6:∀f,IE 52 0 []=À f->GD f:=by
 have h:IE 52 0 []=IE 52 0 []:=Ä;conv at h=>rhs;whnf
 intro f hf;rw[h]at hf;obtain rfl:=Ak hf;exact⟨Ä,Ä,Ä,Ä,_,_,_,_,_,_,_,_,_,_,_,_,Ä,Ä⟩
def Zy(o:Ã Fn):Ë:=o.any λf=>LK f
theorem dN:TL (IE 50 0 [])=Å/\Zy (IE 50 0 [])=Å:=by decide+kernel
theorem dM:TL (IE 52 0 [])=Å/\Zy (IE 52 0 [])=Å:=by decide+kernel
theorem P8(h:TL o=Å/\Zy o=Å):D4 (λf=>o=À f) (λf=>KJ f.params f.body f.scope=Å) λf=>LK f=Å:=by
 rcases o with _|f;.exact CN h.2
 .exact ⟨f,Ä,h.1,h.2⟩
theorem PM{K:Ĭ}(kf:KF K)(X:K.In B.base)(ht:B.tabs=Fq){p:(Û×Ï)×Ç×Ç}(hp:p∈La)(hf:IE p.2.1 p.2.2 []=À f):D4 (λfI=>findIn K (.ref p.1.1) p.1.2=À (À<|.ref fI)) (λfI=>PySem.W.isFn K (.ref fI)=Å) λfI=>Wc B K fI f:=by have e:=(IF kf.tZ hp).trans hf;obtain⟨g,e1,e2⟩:=Ho e;obtain⟨e3,rfl⟩:=Hk e2;obtain⟨a,e4,e5⟩:=Ln X e1;rw[e4]at e3;exact⟨a,e4,e3,e5⟩
theorem LM{c m:Ï}{i j:Ç}(h:Us.lookup (c,m)=À (i,j))(hd:(if c="Limits"then Iw else[])=ds):TT.ml c m=IE i j ds:=by show((Us.lookup (c,m)).bind λp=>IE p.1 p.2<|if c="Limits"then Iw else[])=_;exact AA h<|AA hd Ä
def VX:Á (Ï×Û×Ç×Ç):=[("Clock",31,1,0),("EntryCall",87,12,0),("TaskThing",137,32,0),("Master",350,56,0),("ProtectedThing",487,76,0),("Tasking",588,89,0)]
theorem X8:∀q∈VX,Us.lookup (q.1,("__init__":Ï))=À (q.2.2.1,q.2.2.2)/\q.1≠"Limits"/\((q.2.1,("__init__":Ï)),q.2.2.1,q.2.2.2)∈La:=by decide+kernel
theorem Yf:∀p∈GI,p=(("Limits":Ï),329)\/∃q∈VX,p=(q.1,q.2.1):=by decide+kernel
theorem jH:∀q∈VX,TL (IE q.2.2.1 q.2.2.2 [])=Å/\(IE q.2.2.1 q.2.2.2 []).isSome=Å:=by decide+kernel
theorem X9{K:Ĭ}(kf:KF K)(X:K.In B.base)(ht:B.tabs=Fq){p:Ï×Û}(hp:p∈GI):D4 (λfI=>findIn K (.ref p.2) "__init__"=À (À<|.ref fI)) (λfI=>PySem.W.isFn K (.ref fI)=Å) λfI=>∀f,TT.ml p.1 "__init__"=À f->GM B fI f:=by
 rcases Yf p hp with rfl|⟨q,hq,rfl⟩;.exact AA (LM (i:=54) (j:=0) (by decide+kernel)<|Î Ä)<|Xt X kf.G_
 .obtain ⟨d1,d2,d3⟩:=X8 q hq;have em:TT.ml q.1 "__init__"=_:=LM d1<|Ì d2;generalize e:TT.ml q.1 "__init__"=z at em;rcases z with _|f;.have:=IF kf.tZ d3;have h2:TL (IE q.2.2.1 q.2.2.2 [])=Å/\(IE q.2.2.1 q.2.2.2 []).isSome=Å:=jH q hq;rw[<-em]at h2;exact CN h2.2
  .obtain ⟨fI,h1,h2,h3⟩:=PM kf X ht d3 em.symm;exact⟨fI,h1,h2,λf' hf=>by obtain rfl:=Ak hf;exact Lp ht h3<|IC e⟩
theorem a9:PP.all (λp=>(Vn p.2).isSome)=Å:=by decide+kernel
theorem Ws(h:cW v=À (À<|.ref a)):v=À (.val<|.ref a):=by
 rcases v with _|c;.exact AY h
 .induction c with|val w=>exact Â (λz=>À<|CFound.val z)<|Ak<|Ak h|get=>exact AY h
theorem ax{K:Ĭ}(kf:KF K)(X:K.In B.base)(G:B.base.Ns ý mg)(hb:B.cls=λx=>GI.lookup x)(ht:B.tabs=Fq)(rL:∀q∈Fq,CodeHd B.base q.1 q.2.1):kh B K mg where
 cls:=λc C h=>by rw[hb]at h;exact(bQ<|Hp kf.cls _<|Ce h).ok
 c_:=λx h=>by
  obtain⟨i,hi⟩:=NA h;have e:=IF kf.l! hi;have ok:=Hp a9 _ hi;generalize q:Vn i=z at e ok;rcases z with _|f;.exact CN ok
  .obtain ⟨a,h1,h2⟩:=Ln X e;obtain⟨_,_,_,_,_,_,_,_,_,_,_,_,_,_,_,_,h5,_⟩:=h2;exact⟨a,mg_of X G h1,h5⟩
 g_:=λx h=>by obtain⟨C,hC⟩:=ND h;have:=bQ<|Hp kf.cls _<|Ce hC;exact⟨C,mg_of X G this.ns,AA hb hC,this.keep⟩
 tabs:=AA ht rL;R!:=by
  have h:=kf.R!;obtain⟨h,zI⟩:=AB h;obtain⟨h,zJ⟩:=AB h;obtain⟨h,zK⟩:=AB h;obtain⟨h,zL⟩:=AB h;obtain⟨h,zM⟩:=AB h;obtain⟨h,zN⟩:=AB h;obtain⟨h,zO⟩:=AB h;obtain⟨h,zQ⟩:=AB h;obtain⟨h,d9⟩:=AB h;obtain⟨h,d8⟩:=AB h;obtain⟨h,d7⟩:=AB h;obtain⟨h,d6⟩:=AB h;obtain⟨h,d5⟩:=AB h;obtain⟨h,d4⟩:=AB h;obtain⟨h,d3⟩:=AB h;obtain⟨h,d2⟩:=AB h;obtain⟨d0,d1⟩:=AB h;obtain⟨f,e1,e2,e3⟩:=P8 dM;obtain⟨g,g1,g2,g3⟩:=P8 dN;obtain⟨fI,i1,i2,i3⟩:=PM kf X ht (p:=((309,"__init__"),52,0)) (by decide+kernel) e1;obtain⟨fA,a1,a2⟩:=Ln X<|kf.xW.trans g1;have hk:keepIn K (.ref fA)=Å:=by obtain⟨_,_,_,_,_,_,_,_,_,_,_,_,_,_,_,_,h5,_⟩:=a2;exact h5
  refine⟨309,mg_of X G<|à zM,⟨d0,à d1,à d2,à d3,d4,à d5⟩,⟨d6,d7,à d8,d9,à zQ,à zO⟩,zN,⟨fI,f,i1,i2,UN i3 e2 e3,X6 f e1⟩,⟨270,fA,g,mg_of X G<|à zL,à zK,à zJ,zI,Ws a1,hk,UN a2 g2 g3,aY g g1⟩⟩
 l!:=λx f fa h e hm=>by
  obtain⟨i,hi,e'⟩:=Ho (o:=PP.lookup x) e;obtain⟨a,h1,h2⟩:=Ln X<|(IF kf.l!<|Ce hi).trans e';have:=mg_of X G h1;rw[hm]at this;obtain rfl:fa=a:=by injection this with this;injection this
  exact Lp ht h2<|ZA e
 rn:=λx c h e=>by rw[hb]at e;have hm:=Ce e;exact⟨(bQ<|Hp kf.cls _ hm).k!,X9 kf X ht hm⟩
 pP:=by
  have em:TT.ml "Tasking" "next_number"=_:=LM (i:=89) (j:=1) (by decide+kernel)<|Ì<|by decide
  have hs:(IE 89 1 []).isSome=Å:=by decide+kernel
  rw[<-em]at hs;obtain⟨f,e⟩:=cD hs;obtain⟨fI,h1,h2,h3⟩:=PM kf X ht (p:=((588,"next_number"),89,1)) (by decide+kernel)<|em.symm.trans e;have hk:keepIn K (.ref fI)=Å:=by obtain⟨_,_,_,_,_,_,_,_,_,_,_,_,_,_,_,_,h5,_⟩:=h3;exact h5
  exact⟨588,fI,AA hb<|by decide+kernel,h1,h2,hk,λfn vx=>by obtain rfl:=Ak<|e.symm.trans vx;exact Lp ht h3<|IC e⟩
def ke(L:Û):Ad->Û|.cell n=>L+1+n|_=>0
def hJ(ns:Á Í):Ad->Ã BX|.cell 0=>À<|.cell<|À<|.fl<|ns.map .int|.cell 1=>À<|.cell È|.cell 2=>À<|.cell È|_=>È
def Yv(L sc:Û)(items:Á PV)(sa:Û)(ws:Á PV):Wd:=⟨λa=>a=.cell 0\/a=.cell 1\/a=.cell 2,ke L,ke L,λx=>if x=sa then À ws else È,sc,items,λZ=>È⟩
def sJ(ns:Á Í):S:=⟨λZ=>È,hJ ns,3,[]⟩
def gp(p:ō)(w:World)(K:Ĭ)(loose:Á Ï)(mean:ExcName->Ã PV)(mg mb:Ï->Ã PV)(base:ç)(L:Û)(t:Ó):Cx:=⟨⟨p,w,λx=>GI.lookup x,base,Fq⟩,K,topProg,loose,mean,mg,mb,callerA,[],[],L,[],[],È,[],λZ=>È,t⟩
theorem Qa:∀{l:Á Í},Ic ws=À l->mR W (l.map .int) ws:=by induction ws with|nil=>intro l h;obtain rfl:=Ak h;exact .nil|cons w ws ih=>intro l h;induction w using PySem.Value.casesOn with|int j tk=>obtain⟨l',e,rfl⟩:=OG h;exact .cons (.int _ _)<|ih e|_=>exact AY h
theorem WS{l:Á Í}(h:Α ws l):mR W (l.map .int) ws:=by induction h with|nil=>exact .nil|cons n t _ ih=>exact .cons (.int _ _) ih
def M3(L:Û)(o0 o1 o2:ġ):Em:=[(L+1+1+1,o2),(L+1+1,o1),(L+1,o0),(678,tabObj #[]),(699,tabObj #[])]
def XZ(L:Û)(x:Û):Ã Ad:=if x=L+1 then À (.cell 0)else if x=L+2 then À (.cell 1)else if x=L+3 then À (.cell 2)else È
theorem Mf(h:x<=L):XZ L x=È:=(Ì<|by lia).trans<|(Ì<|by lia).trans<|Ì<|by lia
theorem WI{ns:Á Í}(a:Ad):a=.cell 0\/a=.cell 1\/a=.cell 2↔(hJ ns a).isSome=Å:=by
 constructor;.rintro (rfl|rfl|rfl)<;>rfl
 .intro h;rcases a with _|_|_|n|_<;>try exact CN h
  rcases n with _|_|_|n;.exact .inl Ä
  .exact .inr<|.inl Ä
  .exact .inr<|.inr Ä
  .exact CN h
section
variable{K:Ĭ}{loose:Á Ï}{ns:Á Í}
theorem iP(N:ĵ base L t.heap<|M3 L o0 o1 o2)(lt:678<L/\699<L)(c2:o2.data=.cell È)(c1:o1.data=.cell È)(c0:o0.data=.cell (À<|.ref sc))(hi:Α items ns)(hs:base.get? sa=À (BB ws))(hw:ws.length<=B8):RL (gp p w K loose mean mg mb base L t).B [] (Yv L sc items sa ws) (sJ ns) (M3 L o0 o1 o2):=by
 have fr:∀q∈M3 L o0 o1 o2,q.1≠sa:=λq hq e=>by have:=(N q hq).2.2;rw[e,hs]at this;exact AY this.symm
 have yK:sa∉(M3 L o0 o1 o2).map (·.1):=λh=>by obtain⟨q,hq,e⟩:=MD h;exact fr q hq e
 have tp:∀x l,(Yv L sc items sa ws).mG x=À l->x=sa/\l=ws:=λx l h=>by
  by_cases e:x=sa;.exact ⟨e,(Ak<|(Î e).symm.trans h).symm⟩
  .exact AY<|(Ì e).symm.trans h
 refine⟨?_,WI,λa c h=>?_,λx l h=>?_,λa h=>?_,⟨XZ L,λa ha=>?_,λx l h=>?_,λa ha=>?_⟩,λZ h=>Cv h,λZ h=>Cv h,λa ha=>?_,⟨λx o h=>AY h,λq hq=>⟨#[],?_,?_,?_⟩,λZ h=>Cv h,λZ Z=>Ä,(show(Fq.map (·.2.1)).Nodup by decide)⟩⟩;.obtain ⟨l1,l2⟩:=lt;simp only[M3,ģ,Á.map_nil,Ų,ı,ã];refine⟨?_,?_,?_,?_,?_,.nil⟩<;>lia
 .rcases a with _|_|_|n|_<;>try exact AY h
  rcases n with _|_|_|n;.obtain rfl:=Ak h;exact⟨o0,.ref sc,.tail _<|.tail _<|.head _,c0,.fl<|WS hi⟩
  .obtain rfl:=Ak h;exact⟨o1,.tail _<|.head _,c1⟩
  .obtain rfl:=Ak h;exact⟨o2,.head _,c2⟩
  .exact AY h
 .obtain ⟨rfl,rfl⟩:=tp x l h;exact⟨.inr ⟨hs,yK⟩,hw⟩
 .rcases a with _|_|_|n|_<;>try rfl
  rcases n with _|_|_|n<;>first|rfl|exact â (show 3<=_ from h)<|by decide
 .rcases ha with rfl|rfl|rfl;.exact ⟨Î Ä,Î Ä⟩
  .have:XZ L (L+1+1)=À (.cell 1):=(Ì<|by lia).trans<|Î Ä;exact⟨this,this⟩
  .have:XZ L (L+1+2)=À (.cell 2):=(Ì<|by lia).trans<|(Ì<|by lia).trans<|Î<|by lia
   exact⟨this,this⟩
 .obtain ⟨rfl,rfl⟩:=tp x l h;have q1:=fr _<|.tail _<|.tail _<|.head _;have q2:=fr _<|.tail _<|.head _;have q3:=fr _<|.head _;exact(Ì λe=>q1 e.symm).trans<|(Ì λe=>q2 e.symm).trans<|Ì λe=>q3 e.symm
 .rcases ha with ha|⟨o,ha⟩|⟨q,hq,rfl⟩;.exact nomatch ha
  .exact AY ha
  .rcases hq with _|⟨_,_|⟨_,hq⟩⟩;.exact Mf<|Ą lt.1
   .exact Mf<|Ą lt.2
   .exact nomatch hq
 .rcases ha with rfl|rfl|rfl;.exact .tail _<|.tail _<|.head _
  .exact .tail _<|.head _
  .exact .head _
 .rcases hq with _|⟨_,_|⟨_,hq⟩⟩;.exact .tail _<|.tail _<|.tail _<|.head _
  .exact .tail _<|.tail _<|.tail _<|.tail _<|.head _
  .exact nomatch hq
 .trivial
 .intro pos cv h;exact AY h
theorem iO(B:Below callerA base [] base)(F:Fr base L t.heap m)(N:ĵ base L t.heap<|M3 L o0 o1 o2)(lt:678<L/\699<L)(c2:o2.data=.cell È)(c1:o1.data=.cell È)(c0:o0.data=.cell (À<|.ref sc))(hi:Α items ns)(hs:base.get? sa=À (BB ws))(hw:ws.length<=B8):RR (gp p w K loose mean mg mb base L t) (Yv L sc items sa ws) (sJ ns) t:=⟨base,M3 L o0 o1 o2,m,⟨F,N,⟨B,λq hq=>Cv hq⟩,iP N lt c2 c1 c0 hi hs hw,.no Ä λx v h=>AY h,λq hq=>Cv hq,⟨Ä,Ä,Ä⟩,λC h=>AY h,Ä,λb hb=>Cv hb⟩⟩
end
def Cf:Fn:=BS 110
theorem Xx:(Bv<|(Cf.body.take 7).drop 0).p=(Bv Cf.body).p:=⋯
theorem U3:TL (À Cf)=Å:=by decide+kernel
theorem U4:(["chooser","is_open"]:Á Ï).all (λx=>! Cf.scope.names.lookup x==À á.local)=Å:=by decide+kernel
theorem Q5:∀q∈HW,q.1≠"__name__"/\bootBuiltins q.1=À q.2:=by decide+kernel
theorem Yh(L:Û):cellsFrom (L+1) Cf.scope.names []=[(("kinds":Ï),L+1+1+1),("asked",L+1+1),("script",L+1)]:=⋯
theorem gJ{α:Type}{o:Ã α}{f:α->Ë}(h:o.any f=Å):BM (λx=>o=À x) λx=>f x=Å:=by
 rcases o with _|x;.exact CN h
 .exact ⟨x,Ä,h⟩
section
variable{K:Ĭ}{loose:Á Ï}{ns:Á Í}
theorem WH:DB (Yv L sc items sa ws) (Lz 0 1 2) [("kinds",L+1+1+1),("asked",L+1+1),("script",L+1)]:=by intro x a h;unfold Lz at h;rw[ð]at h⊢;cases q:x=="kinds"with|true=>rw[q]at h;obtain rfl:=Ak h;exact⟨.inr<|.inr Ä,Ä⟩|false=>rw[q]at h;dsimp only at h⊢;rw[ð]at h⊢;cases q:x=="asked"with|true=>rw[q]at h;obtain rfl:=Ak h;exact⟨.inr<|.inl Ä,Ä⟩|false=>rw[q]at h;dsimp only at h⊢;rw[ð]at h⊢;cases q:x=="script"with|true=>rw[q]at h;obtain rfl:=Ak h;exact⟨.inl Ä,Ä⟩|false=>rw[q]at h;exact AY h
theorem aw(kf:KF K)(X:K.In base)(G:base.Ns ý mg)(h1:nsIn K ý "_law_silent"=À (À<|.ref sa))(h3:Ic ws=À DN):∀x v,TT.A_ x=À v->BM (λu=>mg x=À u) λu=>VR (Yv L sc items sa ws) v u:=by
 intro x v h;have hm:=Ce<|show YD.lookup x=À v from h;have hk:=Hp kf.V? _ hm;by_cases e:x="_law_silent";.subst e;obtain rfl:=Ak<|(show YD.lookup ("_law_silent":Ï)=À (.D!<|DN.map .int)by kernel_rfl).symm.trans h;exact⟨_,mg_of X G h1,.D! (Î Ä)<|Qa h3⟩
 .unfold Vf at hk;induction v using Internal.V.casesOn with
  |str y=>obtain⟨o,e1,hk⟩:=gJ hk;obtain⟨u,e2,hk⟩:=gJ hk;subst e2;refine⟨u,mg_of X G e1,?_⟩;induction u using PySem.Value.casesOn with|str z tk=>obtain⟨k1,k2⟩:=AB hk;obtain rfl:=à k1;exact .str _ _ k2|_=>exact CN hk
  |_=>exact â (à hk) e
theorem aj(kf:KF K)(X:K.In base)(T:Top topProg loose mean mg mb base)(oH:∃o,base.get? Ő=À o)(hl:base.IsList sc items.toArray)(hn:items.length<=B8)(d1:CodeHd base 682 678)(d2:CodeHd base 701 699)(h1:nsIn K ý "_law_silent"=À (À<|.ref sa))(h3:Ic ws=À DN):Ao (gp p w K loose mean mg mb base L t) TT.A_ 20 (Yv L sc items sa ws) ⟨Cf.scope,Lz 0 1 2⟩ (envX "law" Cf.scope L fa cd [("kinds",L+1+1+1),("asked",L+1+1),("script",L+1)]) (callerA.deeper<|envX "law" Cf.scope L fa cd [("kinds",L+1+1+1),("asked",L+1+1),("script",L+1)]):=by
 have ok:=U3;have ok:KJ Cf.params Cf.body Cf.scope=Å:=ok;unfold KJ at ok;have tH:=Internal.cl<|Internal.cl<|Internal.cl<|Internal.cl ok;unfold DI at tH;have hk:Cf.scope.kind=.function:=à<|cr<|Internal.cl<|Internal.cl tH;refine⟨⟨X,T,ax kf X T.g Ä Ä λq hq=>?_⟩,oH,⟨hl,hn⟩,⟨hk,λx h=>h,λx h=>h,λx h=>.inr h,λx h=>h,WH,Ä,Ä,Ä,Ä,aw kf X T.g h1 h3⟩,⟨Ä,⟨_,Ġ Ä,Ä,hk⟩,show 302+20*20+20<1000 by decide,show 7+100*20+200<9900 by decide⟩,λx kd h=>Hp (Internal.cl<|Internal.cl<|Internal.cl tH) _<|Ce h,?_,λq hq=>⟨mg_none_of X T.g<|à<|Hp kf.blt _ hq,?_⟩,λx hx e=>?_,λZ=>Ġ Ä⟩
 .rcases hq with _|⟨_,_|⟨_,hq⟩⟩;.exact d1
  .exact d2
  .exact nomatch hq
 .unfold interactive;exact AA (show(envX "law" Cf.scope L fa cd [("kinds",L+1+1+1),("asked",L+1+1),("script",L+1)]).scope.kind=.function from hk) Ä
 .exact (T.builtins _<|(Q5 q hq).1).trans (Q5 q hq).2
 .have:=Hp U4 x<|bS (AB hx).1;rw[show Cf.scope.names.lookup x=À .local from e]at this;exact CN this
theorem law_wp{body:Á Đ}(kf:KF K)(X:K.In base)(T:Top topProg loose mean mg mb base)(B:Below callerA base [] base)(F:Fr base L t.heap m)(N:ĵ base L t.heap<|M3 L o0 o1 o2)(oH:∃o,base.get? Ő=À o)(lt:678<L/\699<L)(c2:o2.data=.cell È) (c1:o1.data=.cell È) (c0:o0.data=.cell (À<|.ref sc)) (hl:base.IsList sc items.toArray) (hi:Α items ns) (hn:ns.length<=63) (d1:CodeHd base 682 678) (d2:CodeHd base 701 699) (hf:Cf=⟨["script"],[],body,scope⟩)(k:∀t',(∀b o,base.get? b=À o->t'.heap.get? b=À o)->(∃ps,t'.heap.get? 678=À (tabObj ps))->(∃ps,t'.heap.get? 699=À (tabObj ps))->t'.gens=t.gens->t'.os=t.os->Q (.ret<|.bool Å) t'):wpAny (model p w) (callerA.deeper<|envOfC "law" scope L fa cd) (execs body<|envOfC "law" scope L fa cd) Q E t:=by
 obtain⟨sa,ws,h1,h2,h3⟩:=kf.xc;have hlen:items.length=ns.length:=((WS (W:=Yv L sc items sa ws) hi).length).trans<|Ð _;have tf:ws.length<=B8:=by have:ws.length=DN.length:=((Qa (W:=Yv L sc items sa ws) h3).length).trans<|Ð _;refine AA this ?_;decide
 have r:=iO (K:=K) (p:=p) (w:=w) (loose:=loose) (mean:=mean) (mg:=mg) (mb:=mb) B F N lt c2 c1 c0 hi (X _ _ h2) tf;have H:=aj (p:=p) (w:=w) (L:=L) (fa:=fa) (cd:=cd) (t:=t) kf X T oH hl (AA hlen<|Ñ hn<|by decide) d1 d2 h1 h3;have ok:=U3;have ok:KJ Cf.params Cf.body Cf.scope=Å:=ok;unfold KJ at ok;have hs:∀q∈([(.cell 0,.cell<|À<|.fl<|ns.map .int),(.cell 1,.cell È),(.cell 2,.cell È)]:Á AC),(sJ ns).h q.1=À q.2/\q.1.no<(sJ ns).nx:=λq hq=>by
  rcases hq with _|⟨_,_|⟨_,_|⟨_,hq⟩⟩⟩;.exact ⟨Ä,by show 0<3;decide⟩
  .exact ⟨Ä,by show 1<3;decide⟩
  .exact ⟨Ä,by show 2<3;decide⟩
  .exact nomatch hq
 obtain⟨s',e⟩:=Xy (c0:=0) (c1:=1) (c2:=2) (l:=ns) (tail:=[]) (s:=sJ ns) ⟨hs,show[Ad.cell 0,.cell 1,.cell 2].Nodup by decide,Ä⟩
 .have eb:Cf.body=body:=Â Fn.body hf;have es:Cf.scope=scope:=Â Fn.scope hf;subst eb es;have ec:envOfC "law" Cf.scope L fa cd=envX "law" Cf.scope L fa cd [("kinds",L+1+1+1),("asked",L+1+1),("script",L+1)]:=Â (envX "law" Cf.scope L fa cd)<|Yh L;refine AA ec<|((Bv Cf.body).ok (cr<|Internal.cl<|Internal.cl<|Internal.cl ok) ⟨TR,TT.A_,AK TT 20,20,dF,@ja 20⟩).go (cx:=gp p w K loose mean mg mb base L t) Ä H r ?_;have e':((Bv Cf.body).p ⟨Cf.scope,Lz 0 1 2⟩).run TT.A_ (AK TT 20) (sJ ns)=.ok (.D! [.bool Å]) s':=(Â (λf=>(f ⟨Cf.scope,Lz 0 1 2⟩:Pr).run TT.A_ (AK TT 20)<|sJ ns) Xx).symm.trans e;show AZ TR _ _ (((Bv Cf.body).p ⟨Cf.scope,Lz 0 1 2⟩).run TT.A_ (AK TT 20)<|sJ ns) FR Q E;refine AA e' ?_;intro W' fl t' le r' qD;have:fl=.ret (.bool Å):=by induction fl with|ret v=>obtain⟨u,e,hv⟩:=qD;injection e with e;injection e with e;subst e;obtain⟨⟩:=hv;rfl|_=>cases qD
  subst this;obtain⟨h₀,led,m',x⟩:=r';have keep:=λb o e=>x.F.keep b o<|x.G.stays b o e;have tb:∀q∈Fq,∃ps,t'.heap.get? q.2.1=À (tabObj ps):=λq hq=>by obtain⟨ps,g1,_⟩:=x.R.tab.tabs q hq;exact⟨ps,(x.N _ g1).1⟩
  exact k t' keep (tb _<|.head _) (tb _<|.tail _<|.head _) x.rest.1.1 x.rest.1.2.2
end
end Mine.Internal
end
namespace Mine.Internal
section
open PySem PySem.W PyProof.Rows PySem.Calls
set_option autoImplicit false
set_option maxRecDepth 100000
theorem sys_ghost{p:Program}{loose:List Str}{mean:ExcName→Option PV}{mg mb:Str→Option PV}{h:Heap} (T:Top p loose mean mg mb h) (e:importsNone p=true):∃o,(ghostOf h [(682,678),(701,699)]).get? sysModules=some o:=by obtain⟨mm,⟨o,es,ep,ho,hr⟩,hz⟩:=(T.seer e).mods;exact⟨o,ghost_ne ho<|by decide⟩
end
end Mine.Internal
theorem x.{env_1_42,heap_1_39,heap_1_48,heap_1_833,sts_1_113,sts_1_163,sts_1_173,sts_1_227,sts_1_316,sts_1_342,sts_1_367,sts_1_392,sts_1_419,sts_1_478,sts_1_52,sts_1_566,sts_1_623,sts_1_670,sts_1_730,sts_1_813,tree_1_111,tree_1_161,tree_1_171,tree_1_225,tree_1_314,tree_1_340,tree_1_365,tree_1_390,tree_1_417,tree_1_476,tree_1_50,tree_1_564,tree_1_621,tree_1_668,tree_1_728,tree_1_811,tree_1_831,view_1_40}:True:=trivial
theorem Mine.Internal.all.tw4518757601101998758:True:=trivial
theorem Mine.Internal.all.tw18394051972246309139:True:=trivial
end
open PySem PySem.W PyProof.Rows PySem.Calls in
set_option maxRecDepth 100000 in
set_option tactic.hygienic true in
set_option Elab.async true in
set_option maxHeartbeats 4000000 in
theorem Mine.Internal.all:PySem.Challenge.rw_sz0014_01.Holds:=by w_on;o_law;k_head;(case hw=>w_witness2);k_go0;rename_i w2 w1 w0 e2 e1 e0 X0 X' T' K' F' ch N' l0;refine law_wp ⟨by kernel_rfl,by kernel_rfl,by kernel_rfl,by kernel_rfl,by kernel_rfl,by kernel_rfl,by kernel_rfl,⟨_,319,_,_,_,_,_,_,_,_,_,_,_,_,_,_,_,_,_,_,_,_,_,_,_,_,_,_,_,_,_,_,_,_,_,_,_,_,_,_,_,_,_,by k_is,by k_is,by k_is,by k_is,by kernel_rfl,by k_is,by kernel_rfl⟩,⟨_,_,by k_is,by k_is,by kernel_rfl⟩⟩ X' T' K' F' N' (sys_ghost ‹_›<|by kernel_rfl) l0 e2 e1 e0 lifted (by assumption) (by omega) ch codeHd (by kernel_rfl) fun t' hk g1 g2 hg ho=>?_;exact⟨⟨.inl ⟨.bool true,.bool true,[],rfl,fun _=>rfl,.bool true,by kernel_rfl,fun _=>⟨.nil,fun _ h=>nomatch h⟩⟩,hk,ho,hg.trans<|by assumption⟩,g1,g2,trivial⟩
theorem PySem.Challenge.cw_sz0014_01_holds : PySem.Challenge.rw_sz0014_01.Holds :=
  Mine.Internal.all
