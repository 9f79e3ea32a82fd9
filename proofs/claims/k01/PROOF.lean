import PyProof.Rows.All
import Wide.All
import OpenK.AllK
import Wide.FinOn
import HandS.Dict
import HandS.Base
import HandS.Call
import HandS.List
import HandS.Comp
import HandS.Ends
import HandS.Exc
import HandS.Codes
import HandS.Lambda
import HandS.Flow
import HandS.Style
import HandS.Wide
import HandS.TupAny
import HandS.IsInst
import HandS.Text
import HandS.Iter
import HandS.Deep
import HandS.Words
import HandS.WordsExc
import HandS.EndTab
import HandS.Zip
import HandS.SlotsOwn
import HandS.Gcd
import HandS.ClsMeth
import HandS.SortInts
import HandS.SetFor
import HandS.Strs
import HandS.More
import HandS.WordsDict
import HandS.TupMul
import KE.KEqDict
import HandS.SetKeys
import HandS.SetBool
import PyProof.Rows.SortShellAny
import HandS.Star
import HandS.FStr
import HandS.StrMore
import HandS.RaiseMore
import HandS.DictComp
import HandS.Defaults
import PyProof.Rows.StrMeet
import KE.KExcInit
import KE.KExcSuper
import KE.KTryMore
import HandS.ExcInit
import HandS.HotCalls
import HandS.ExcField
import PyProof.NeKinds
import PyProof.FactsAll.subtypes_5
import HandS.NoneIn
import HandS.Property
import HandS.MakeKw
import PyProof.InstEq
import KE.KExcIs
import KE.KIsAll
import HandS.ExcIs
import KE.KNest
import PySem.Challenge.RW_headhold_k01_errors_by_themselves
set_option Elab.async false
set_option linter.all false
set_option autoImplicit false
set_option maxRecDepth 100000
set_option maxHeartbeats 4000000
section
open PySem PySem.W PyProof.Rows
set_option maxRecDepth 100000 in
set_option maxHeartbeats 0 in
open_top hdk for PySem.Challenge.rw_headhold_k01_errors_by_themselves
end
section
namespace EXX
open PySem PySem.Spec PyProof.Rows L2
/-- a lambda's data;dV:its defaults -/
abbrev lamFd(q:Str)(params:Arguments)(body:Expr)(scope:Scope)(cl:List (Str × Addr))(pm cdv ct dV:Value):FuncData:=
 {PySem.W.kla_fn "<lambda>" q params body scope cl pm cdv ct with defaults:=dV}
abbrev aCu(q:Str)(params:Arguments)(body:Expr)(scope:Scope)(cl:List (Str × Addr))(pm:Value)(c':Addr)(ct dV:Value):Obj:=
 {cls:= .type "function",data:= .func (lamFd q params body scope cl pm (.ref c') ct dV)}
/-- the lambda's function,told -/
def LamO(q:Str)(params:Arguments)(body:Expr)(scope:Scope)(cl:List (Str × Addr))(f c':Addr)(pm ctv dV:Value):HO:= .ext fun h=>h.get? f=some (aCu q params body scope cl pm c' ctv dV)
end EXX
namespace DL
open PySem PySem.Spec PyProof.Rows L2
/-- the lambdas of a def whose frame stands:the qualified name,the cells,each lambda (the flag:it has a default),values of slots -/
structure afg where
 q:Str
 cells:List (Str × Addr)
 lam:Nat→Option (Arguments × Expr × Scope × Bool)
 js:List Nat
 vs:List V
/-- a value as data:what never changes is written out;a mutable object is its address -/
inductive D where
 | non | bl (b:Bool) | int (i:Int) | str (x:Str)
 | lst (xs:List D) | tup (xs:List D)
 | ref (a:Addr)
 | obj (C:Addr)(ns:List Str)(ds:List D)
 | dct (ks:List Key)(ds:List D)
 | ty (n:String)
 /-- a list that is only cut or walked (the script) -/
 | klst (xs:List D)
 /-- an exception -/
 | exc (C:Addr)(ns:List Str)(ds:List D)
 /-- a lambda:its number,the frame that made it,the data of the slots -/
 | fn (k:Nat) (T:afg) (ds:List D)
/-- a mutable object -/
inductive M where
 | lst (ds:List D)
 | ins (C:Addr)(ns:List Str)(ds:List D)
 | dct (ks:List Key)(ds:List D)
abbrev Eta:=Addr→Option M
def Ka(η:Eta)(a:Addr)(m:M):Eta:=fun b=>if b=a then some m else η b
theorem jN{η:Eta}{a:Addr}{m:M}:Ka η a m a=some m:=by unfold Ka;rw [if_pos rfl]
theorem iT{η:Eta}{a b:Addr}{m:M}(h:b≠a):Ka η a m b=η b:=by unfold Ka;rw [if_neg h]
def U3(η:Eta)(a:Addr):Eta:=fun b=>if b=a then none else η b
abbrev vY:=List (Option D)
/-- a text that the model lays out -/
structure SOk(x:Str):Prop where
 cp:PyData.strOk x=true
 len:x.length≤sizeLine
/-- an exception's object,its dict at d -/
def Exv(C d a:Addr):HO:= .ext fun h=> ∃(oe:Obj) (vs:Array Value),h.get? a=some oe∧oe.cls= .ref C∧oe.dict=some d∧oe.data= .fields vs
structure ExOk(R:Addr→Prop)(η:Eta)(H:Hp)(C d a:Addr)(fs:List (Str × V)):Prop where
 at_:H a=some (Exv C d a)
 n:η a=none
 r:¬ R a
 dat:H d=some (.xd fs)
 dn:η d=none
 dr:¬ R d
/-- a lambda's function,its code object,its default -/
def FnAt(R:Addr→Prop)(η:Eta)(H:Hp)(T:afg)(k:Nat)(f:Addr):Prop:=
 ∃(c':Addr) (pm ctv dV:Value) (params:Arguments) (body:Expr) (scope:Scope) (b:Bool),T.lam k=some (params,body,scope,b)∧
  (H f=some (EXX.LamO T.q params body scope (cloFrom T.cells scope.names []) f c' pm ctv dV)∧η f=none∧¬ R f)∧(H c'=some (LamX.CodeO c' T.q)∧η c'=none∧¬ R c')∧
  ((b=false∧dV= .none)∨(b=true∧∃(t:Addr) (i:Int),dV= .ref t∧H t=some (.tup [.int i])∧η t=none∧¬ R t))
theorem FnAt.go{R R':Addr→Prop}{η η':Eta}{H H':Hp}{T:afg}{k:Nat}{f:Addr}(x:FnAt R η H T k f)(h:∀a o,H a=some o→η a=none→¬ R a→(∀ps,o≠ .tbl ps)→H' a=some o∧η' a=none∧¬ R' a):FnAt R' η' H' T k f:=by
 obtain ⟨c',pm,ctv,dV,params,body,scope,b,e,⟨a1,a2,a3⟩,⟨b1,b2,b3⟩,d⟩:=x
 refine ⟨c',pm,ctv,dV,params,body,scope,b,e,h _ _ a1 a2 a3 (fun ps z=>by unfold EXX.LamO at z;cases z),h _ _ b1 b2 b3 (fun ps z=>by unfold LamX.CodeO at z;cases z),?_⟩
 rcases d with d | ⟨d1,t,i,d2,d3,d4,d5⟩
 ·exact .inl d
 ·obtain ⟨g1,g2,g3⟩:=h _ _ d3 d4 d5 (fun ps z=>by cases z)
  exact .inr ⟨d1,t,i,d2,g1,g2,g3⟩
mutual
inductive Rep(K:PySem.W.Frag)(R:Addr→Prop)(η:Eta)(H:Hp):V→D→Prop
 | non:Rep K R η H .non .non
 | bl (b:Bool):Rep K R η H (.bl b) (.bl b)
 | int (i:Int):Rep K R η H (.int i) (.int i)
 | str {x:Str}:SOk x→Rep K R η H (.str x) (.str x)
 | ty (n:String):Rep K R η H (.ty n) (.ty n)
 | ref (a:Addr):Rep K R η H (.ref a) (.ref a)
 | lst {a:Addr} {xs:List V} {ds:List D}:Rd H a (.lst xs)→η a=none→¬ R a→bJ K R η H xs ds→Rep K R η H (.ref a) (.lst ds)
 | klst {a:Addr} {xs:List V} {ds:List D}:Rd H a (.lst xs)→η a=none→¬ R a→bJ K R η H xs ds→Rep K R η H (.ref a) (.klst ds)
 | klstK {a:Addr} {xs:List V} {ds:List D} {o:Obj} {its:Array Value} {n:Nat}:K.lookup a=some o→o.cls= .type "list" →o.dict=none→o.data= .seq its n→its.size≤sizeLine→Vals xs its.toList→bJ K R η H xs ds→Rep K R η H (.ref a) (.klst ds)
 | tup {a:Addr} {xs:List V} {ds:List D}:Rd H a (.tup xs)→η a=none→¬ R a→bJ K R η H xs ds→Rep K R η H (.ref a) (.tup ds)
 | tupK {a:Addr} {xs:List V} {ds:List D} {o:Obj} {its:Array Value} {n:Nat}:K.lookup a=some o→o.cls= .type "tuple" →o.data= .seq its n→its.size≤sizeLine→Vals xs its.toList→bJ K R η H xs ds→Rep K R η H (.ref a) (.tup ds)
 | obj {a C dx:Addr} {fs:List (Str × V)} {ns:List Str} {ds:List D}:H a=some (.ins C dx fs)→η a=none→¬ R a→fs.map (·.1)=ns→bJ K R η H (fs.map (·.2)) ds→Rep K R η H (.ref a) (.obj C ns ds)
 | exc {a C d:Addr} {fs:List (Str × V)} {ns:List Str} {ds:List D}:ExOk R η H C d a fs→fs.map (·.1)=ns→bJ K R η H (fs.map (·.2)) ds→Rep K R η H (.ref a) (.exc C ns ds)
 | fn {f:Addr} {k:Nat} {T:afg} {ds:List D}:FnAt R η H T k f→bJ K R η H T.vs ds→Rep K R η H (.ref f) (.fn k T ds)
 | dct {a:Addr} {o:Obj} {kvs:List (Key × V)} {ks:List Key} {ds:List D}:H a=some (.frz o (.dK kvs))→η a=none→¬ R a→kvs.map (·.1)=ks→bJ K R η H (kvs.map (·.2)) ds→Rep K R η H (.ref a) (.dct ks ds)
inductive bJ(K:PySem.W.Frag)(R:Addr→Prop)(η:Eta)(H:Hp):List V→List D→Prop
 | nil:bJ K R η H [] []
 | cons {v:V} {vs:List V} {d:D} {ds:List D}:Rep K R η H v d→bJ K R η H vs ds→bJ K R η H (v::vs) (d::ds)
end
/-- how the state goes on:what is no mutable object stays;what becomes mutable is new -/
structure Ext(η:Eta)(H:Hp)(η':Eta)(H':Hp):Prop where
 keep:∀a o,η a=none→H a=some o→H' a=some o∨∃ps more,o= .tbl ps∧H' a=some (.tbl (ps ++ more))
 dom:∀a,η' a≠none→η a≠none∨H a=none
theorem Ext.refl(η:Eta)(H:Hp):Ext η H η H:=⟨fun _ _ _ h=> .inl h,fun _ h=> .inl h⟩
theorem Ext.keepN{η η':Eta}{H H':Hp}(e:Ext η H η' H')(a:Addr)(o:HO)(n:η a=none)(h:H a=some o)(t:∀ps,o≠ .tbl ps:=by intro ps z;cases z):H' a=some o:=by
 rcases e.keep a o n h with z | ⟨ps,more,z,_⟩
 ·exact z
 ·exact absurd z (t ps)
theorem Ext.none_of{η η':Eta}{H H':Hp}{a:Addr}{o:HO}(e:Ext η H η' H')(n:η a=none)(h:H a=some o):η' a=none:=by
 cases q:η' a with
 | none=>rfl
 | some m=>
  rcases e.dom a (by rw [q];simp) with z | z
  ·exact absurd n z
  ·rw [h] at z;cases z
theorem Ext.trans{η η1 η2:Eta}{H H1 H2:Hp}(a:Ext η H η1 H1)(b:Ext η1 H1 η2 H2):Ext η H η2 H2 where
 keep:=fun x o n h=>by
  have n1:=a.none_of n h
  rcases a.keep x o n h with h1 | ⟨ps,more,rfl,h1⟩
  ·exact b.keep x o n1 h1
  ·rcases b.keep x _ n1 h1 with h2 | ⟨ps2,more2,e,h2⟩
   ·exact .inr ⟨ps,more,rfl,h2⟩
   ·cases e;exact .inr ⟨ps,more ++ more2,rfl,by rw [← Array.append_assoc];exact h2⟩
 dom:=fun x h=>by
  rcases b.dom x h with z | z
  ·exact a.dom x z
  ·cases e:η x with
   | some m=>exact .inl (by simp)
   | none=>
    refine .inr ?_
    cases q:H x with
    | none=>rfl
    | some o=>
     rcases a.keep x o e q with h1 | ⟨_,_,_,h1⟩ <;> (rw [z] at h1;cases h1)
/-- only new objects were laid -/
theorem Ext.ex{η:Eta}{H H':Hp}(h:∀a o,H a=some o→H' a=some o):Ext η H η H':=⟨fun a o _ e=> .inl (h a o e),fun _ h=> .inl h⟩
theorem Ext.new{η:Eta}{H:Hp}{p:Addr}{o:HO}(h:H p=none):Ext η H η (upd H p o):=Ext.ex fun a u e=>by
 rw [upd_ne (ne_of_none e h)];exact e
theorem ExOk.up{R:Addr→Prop}{η η':Eta}{H H':Hp}{C d a:Addr}{fs:List (Str × V)}(x:ExOk R η H C d a fs)(e:Ext η H η' H'):ExOk R η' H' C d a fs:=
 ⟨e.keepN _ _ x.n x.at_ (by intro ps z;unfold Exv at z;cases z),e.none_of x.n x.at_,x.r,e.keepN _ _ x.dn x.dat,e.none_of x.dn x.dat,x.dr⟩
theorem Ext.rd{η η':Eta}{H H':Hp}{a:Addr}{u:HO}(e:Ext η H η' H')(n:η a=none)(h:Rd H a u)(nt:¬ ∃ps,u= .tbl ps:=by rintro ⟨_,z⟩;cases z):Rd H' a u∧η' a=none:=by
 rcases h with h | ⟨o,h⟩
 ·by_cases t:∀ps,u≠ .tbl ps
  ·exact ⟨.inl (e.keepN a _ n h t),e.none_of n h⟩
  ·exact absurd (by simpa using t) nt
 ·exact ⟨.inr ⟨o,e.keepN a _ n h⟩,e.none_of n h⟩
mutual
theorem Rep.mono{K:PySem.W.Frag}{R:Addr→Prop}{η η':Eta}{H H':Hp}(e:Ext η H η' H'):∀(d:D) (v:V),Rep K R η H v d→Rep K R η' H' v d
 | .non,_,h=>by cases h;exact .non
 | .bl _,_,h=>by cases h;exact .bl _
 | .int _,_,h=>by cases h;exact .int _
 | .str _,_,h=>by cases h with | str a=>exact .str a
 | .ty _,_,h=>by cases h;exact .ty _
 | .ref _,_,h=>by cases h;exact .ref _
 | .lst ds,_,h=>by
  cases h with
  | lst a b r c=>obtain ⟨a',b'⟩:=e.rd b a;exact .lst a' b' r (bJ.mono e ds _ c)
 | .klst ds,_,h=>by
  cases h with
  | klst a b r c=>obtain ⟨a',b'⟩:=e.rd b a;exact .klst a' b' r (bJ.mono e ds _ c)
  | klstK a1 a2 a3 a4 a5 a6 c=>exact .klstK a1 a2 a3 a4 a5 a6 (bJ.mono e ds _ c)
 | .tup ds,_,h=>by
  cases h with
  | tup a b r c=>obtain ⟨a',b'⟩:=e.rd b a;exact .tup a' b' r (bJ.mono e ds _ c)
  | tupK a1 a2 a3 a4 a5 c=>exact .tupK a1 a2 a3 a4 a5 (bJ.mono e ds _ c)
 | .obj C ns ds,_,h=>by
  cases h with
  | obj a b r c d=>exact .obj (e.keepN _ _ b a) (e.none_of b a) r c (bJ.mono e ds _ d)
 | .exc C ns ds,_,h=>by
  cases h with
  | exc x c d=>exact .exc (x.up e) c (bJ.mono e ds _ d)
 | .fn k T ds,_,h=>by
  cases h with
  | fn x d=>exact .fn (x.go fun a o p n r t=>⟨e.keepN a o n p t,e.none_of n p,r⟩) (bJ.mono e ds _ d)
 | .dct ks ds,_,h=>by
  cases h with
  | dct a b r c d=>exact .dct (e.keepN _ _ b a) (e.none_of b a) r c (bJ.mono e ds _ d)
theorem bJ.mono{K:PySem.W.Frag}{R:Addr→Prop}{η η':Eta}{H H':Hp}(e:Ext η H η' H'):∀(ds:List D) (vs:List V),bJ K R η H vs ds→bJ K R η' H' vs ds
 | [],_,h=>by cases h;exact .nil
 | d::ds,_,h=>by
  cases h with
  | cons a b=>exact .cons (Rep.mono e d _ a) (bJ.mono e ds _ b)
end
theorem Rep.up{K:PySem.W.Frag}{R:Addr→Prop}{η η':Eta}{H H':Hp}{v:V}{d:D}(h:Rep K R η H v d)(e:Ext η H η' H'):Rep K R η' H' v d:=Rep.mono e d v h
theorem bJ.up{K:PySem.W.Frag}{R:Addr→Prop}{η η':Eta}{H H':Hp}{v:List V}{d:List D}(h:bJ K R η H v d)(e:Ext η H η' H'):bJ K R η' H' v d:=bJ.mono e d v h
section
variable {K:PySem.W.Frag}{R:Addr→Prop}{η η':Eta}{H H':Hp}
theorem bJ.length:∀ {vs:List V} {ds:List D},bJ K R η H vs ds→vs.length=ds.length
 | _,_, .nil=>rfl
 | _,_, .cons _ t=>congrArg (· + 1) (bJ.length t)
theorem bJ.get:∀ {vs:List V} {ds:List D} {i:Nat} {d:D},bJ K R η H vs ds→ds[i]? =some d→∃v,vs[i]? =some v∧Rep K R η H v d
 | _,_,_,_, .nil,e=>by simp at e
 | _,_,0,_, .cons r _,e=>by simp at e;subst e;exact ⟨_,rfl,r⟩
 | _,_,i + 1,d, .cons _ t,e=>by
  obtain ⟨v,h1,h2⟩:=bJ.get (i:=i) (d:=d) t (by simpa using e)
  exact ⟨v,by simpa using h1,h2⟩
theorem bJ.append:∀ {vs ws:List V} {ds es:List D},bJ K R η H vs ds→bJ K R η H ws es→bJ K R η H (vs ++ ws) (ds ++ es)
 | _,_,_,_, .nil,s=>s
 | _,_,_,_, .cons r t,s=> .cons r (bJ.append t s)
theorem bJ.take:∀ {vs:List V} {ds:List D} (n:Nat),bJ K R η H vs ds→bJ K R η H (vs.take n) (ds.take n)
 | _,_,0,_=> .nil
 | _,_,_ + 1, .nil=> .nil
 | _,_,n + 1, .cons r t=> .cons r (bJ.take n t)
theorem bJ.drop:∀ {vs:List V} {ds:List D} (n:Nat),bJ K R η H vs ds→bJ K R η H (vs.drop n) (ds.drop n)
 | _,_,0,r=>r
 | _,_,_ + 1, .nil=> .nil
 | _,_,n + 1, .cons _ t=>bJ.drop n t
theorem bJ.set{v:V}{d:D}(r:Rep K R η H v d):∀ {vs:List V} {ds:List D} (i:Nat),bJ K R η H vs ds→bJ K R η H (vs.set i v) (ds.set i d)
 | _,_,_, .nil=> .nil
 | _,_,0, .cons _ t=> .cons r t
 | _,_,i + 1, .cons q t=> .cons q (bJ.set r i t)
theorem bJ.reverse{vs:List V}{ds:List D}(h:bJ K R η H vs ds):bJ K R η H vs.reverse ds.reverse:=by
 induction ds generalizing vs with
 | nil=>cases h;exact .nil
 | cons d ds ih=>
  cases h with
  | cons a b=>rw [List.reverse_cons,List.reverse_cons];exact (ih b).append (.cons a .nil)
theorem bJ.nil_iff{vs:List V}{ds:List D}(h:bJ K R η H vs ds):vs= []↔ds= []:=by
 cases h <;> simp
theorem bJ.of_ints:∀(ns:List Int),bJ K R η H (ns.map V.int) (ns.map D.int)
 | []=> .nil
 | n::ns=> .cons (.int n) (bJ.of_ints ns)
theorem bJ.bls:∀ {ns:List Bool} {vs:List V},bJ K R η H vs (ns.map D.bl)→vs=ns.map V.bl
 | [],_,h=>by cases h;rfl
 | n::ns,_,h=>by
  cases h with
  | cons a b=>cases a;rw [bJ.bls b];rfl
/-- a list,a tuple that is data can be read -/
theorem Rep.sqL{v:V}{ds:List D}(h:Rep K R η H v (.lst ds)):∃a xs,v= .ref a∧SqL K H a xs∧bJ K R η H xs ds:=by
 cases h with
 | lst a b r c=>exact ⟨_,_,rfl, .inl a,c⟩
theorem Rep.rdL{v:V}{ds:List D}(h:Rep K R η H v (.lst ds)):∃a xs,v= .ref a∧Rd H a (.lst xs)∧bJ K R η H xs ds:=by
 cases h with
 | lst a b r c=>exact ⟨_,_,rfl,a,c⟩
theorem Rep.sqT{v:V}{ds:List D}(h:Rep K R η H v (.tup ds)):∃a xs,v= .ref a∧SqT K H a xs∧bJ K R η H xs ds:=by
 cases h with
 | tup a b r c=>exact ⟨_,_,rfl, .inl a,c⟩
 | tupK a1 a2 a3 a4 a5 c=>exact ⟨_,_,rfl, .inr ⟨_,_,_,a1,a2,a3,a4,a5⟩,c⟩
end
/-- a mutable object as it stands -/
def MOk(K:PySem.W.Frag)(R:Addr→Prop)(η:Eta)(H:Hp)(a:Addr):M→Prop
 | .lst ds=> ∃xs,H a=some (.lst xs)∧bJ K R η H xs ds
 | .ins C ns ds=> ∃dx fs,H a=some (.ins C dx fs)∧fs.map (·.1)=ns∧bJ K R η H (fs.map (·.2)) ds
 | .dct ks ds=> ∃kvs,H a=some (.dK kvs)∧kvs.map (·.1)=ks∧bJ K R η H (kvs.map (·.2)) ds
/-- the table of code objects of a def that makes lambdas -/
def atG(K:PySem.W.Frag)(P:Addr)(q:Str):Prop:=(K.lookup P=none∧∃g:Addr,PySem.W.nsIn K mainGlobals "_law_try" =some (some (.ref g)))∧∃(nm:Str) (f c:Addr) (oc:Value) (od:Option Addr) (fd:FuncData) (sl:Array (Option Value)) (o:Obj) (vs:Array Value),nm ∈ (["law","_law_deed","_law_apply","_law_kept_so"]:List Str)∧
 PySem.W.nsIn K mainGlobals nm=some (some (.ref f))∧K.lookup f=some ⟨oc,od, .func fd,sl⟩∧fd.code= .ref c∧K.lookup c=some o∧o.data= .fields vs∧vs[11]? =some (.ref P)∧q=nm ++ ".<locals>." ++ "<lambda>"
structure au0(R:Addr→Prop)(η:Eta)(H:Hp)(P:Addr)(q:Str):Prop where
 n:η P=none
 r:¬ R P
 at_:∃ps:Array Value,H P=some (.tbl ps)∧TriplesOk ps.toList∧∀(pos:Pos) (cv:Value),codeAmong pos ps.toList=some cv→∃c,cv= .ref c∧H c=some (LamX.CodeO c q)∧η c=none∧¬ R c
theorem au0.go{R R':Addr→Prop}{η η':Eta}{H H':Hp}{P:Addr}{q:Str}(t:au0 R η H P q)(h:∀a o,H a=some o→η a=none→¬ R a→H' a=some o∧η' a=none∧¬ R' a):au0 R' η' H' P q:=by
 obtain ⟨ps,h1,h2,h3⟩:=t.at_
 obtain ⟨a1,a2,a3⟩:=h P _ h1 t.n t.r
 refine ⟨a2,a3,ps,a1,h2,fun pos cv hc=> ?_⟩
 obtain ⟨c,e,e1,e2,e3⟩:=h3 pos cv hc
 obtain ⟨b1,b2,b3⟩:=h c _ e1 e2 e3
 exact ⟨c,e,b1,b2,b3⟩
/-- the mutable objects stand;what is kept back stands and is none of them -/
structure Lk(K:PySem.W.Frag)(R:Addr→Prop)(η:Eta)(H:Hp):Prop where
 m:∀a m,η a=some m→MOk K R η H a m
 r:∀a,R a→H a≠none∧η a=none
 tb:∀P q,atG K P q→au0 R η H P q
structure Sl(K:PySem.W.Frag)(R:Addr→Prop)(η:Eta)(H:Hp)(δ:vY)(σ:L2.St):Prop where
 len:σ.length=δ.length
 at_:∀(i:Nat) (d:D),δ[i]? =some (some d)→∃v,σ[i]? =some (some v)∧Rep K R η H v d
section
variable {K:PySem.W.Frag}{R:Addr→Prop}{η η':Eta}{H H':Hp}{δ:vY}{σ:L2.St}
theorem Sl.up(s:Sl K R η H δ σ)(e:Ext η H η' H'):Sl K R η' H' δ σ:=⟨s.len,fun i d h=>let ⟨v,a,b⟩:=s.at_ i d h;⟨v,a,b.up e⟩⟩
theorem Sl.set{v:V}{d:D}(s:Sl K R η H δ σ)(r:Rep K R η H v d)(i:Nat):Sl K R η H (δ.set i (some d)) (σ.set i (some v)):=by
 refine ⟨by simp [s.len],fun j d' h=> ?_⟩
 by_cases e:i=j
 ·subst e
  by_cases l:i < δ.length
  ·rw [List.getElem?_set_self l] at h
   cases h
   exact ⟨v,by rw [List.getElem?_set_self (by rw [s.len];exact l)],r⟩
  ·rw [List.getElem?_eq_none (by simpa using l)] at h;cases h
 ·rw [List.getElem?_set_ne e] at h
  obtain ⟨w,h1,h2⟩:=s.at_ j d' h
  exact ⟨w,by rw [List.getElem?_set_ne e];exact h1,h2⟩
theorem Lk.dom(l:Lk K R η H){a:Addr}(h:η a≠none):H a≠none:=by
 cases e:η a with
 | none=>exact absurd e h
 | some m=>
  have:=l.m a m e
  cases m with
  | lst ds=>obtain ⟨xs,q,_⟩:=this;rw [q];simp
  | ins C ns ds=>obtain ⟨dx,fs,q,_⟩:=this;rw [q];simp
  | dct ks ds=>obtain ⟨kvs,q,_⟩:=this;rw [q];simp
theorem Lk.free(l:Lk K R η H){p:Addr}(h:H p=none):η p=none:=by
 cases e:η p with
 | none=>rfl
 | some m=>exact absurd h (l.dom (by rw [e];simp))
/-- the mutable objects as they are,the rest goes on -/
theorem MOk.up{a:Addr}{m:M}(h:MOk K R η H a m)(e:Ext η H η' H')(q:∀o,H a=some o→H' a=some o):MOk K R η' H' a m:=by
 cases m with
 | lst ds=>obtain ⟨xs,a,b⟩:=h;exact ⟨xs,q _ a,b.up e⟩
 | ins C ns ds=>obtain ⟨dx,fs,a,b,c⟩:=h;exact ⟨dx,fs,q _ a,b,c.up e⟩
 | dct ks ds=>obtain ⟨kvs,a,b,c⟩:=h;exact ⟨kvs,q _ a,b,c.up e⟩
theorem Lk.ex(l:Lk K R η H)(h:∀a o,H a=some o→H' a=some o):Lk K R η H':=⟨fun a m e=>(l.m a m e).up (Ext.ex h) (h a),fun a ra=>by
 obtain ⟨h1,h2⟩:=l.r a ra
 refine ⟨?_,h2⟩
 cases q:H a with
 | none=>exact absurd q h1
 | some o=>rw [h a o q];simp,fun P q t=>(l.tb P q t).go fun a o e n r=>⟨h a o e,n,r⟩⟩
theorem Lk.nr(l:Lk K R η H){p:Addr}(h:H p=none):¬ R p:=fun z=>(l.r p z).1 h
theorem Lk.nrm(l:Lk K R η H){p:Addr}(h:η p≠none):¬ R p:=fun z=>h (l.r p z).2
theorem abb{p:Addr}{o:HO}(h:H p=none):∀a u,H a=some u→upd H p o a=some u:=fun a u e=>by rw [upd_ne (ne_of_none e h)];exact e
theorem Lk.new{p:Addr}{o:HO}(l:Lk K R η H)(h:H p=none):Lk K R η (upd H p o):=l.ex (abb h)
/-- a new mutable object -/
theorem Ext.newM{p:Addr}{o:HO}{m:M}(h:H p=none):Ext η H (Ka η p m) (upd H p o):=by
 refine ⟨fun a u _ e=> .inl (abb h a u e),fun a q=> ?_⟩
 by_cases e:a=p
 ·subst e;exact .inr h
 ·rw [iT e] at q;exact .inl q
theorem Lk.newM{p:Addr}{o:HO}{m:M}(l:Lk K R η H)(h:H p=none)(r:MOk K R (Ka η p m) (upd H p o) p m):Lk K R (Ka η p m) (upd H p o):=by
 refine ⟨fun a u e=> ?_,fun a ra=> ?_,fun P q t=>(l.tb P q t).go fun a u e n r=>⟨abb h a u e,by rw [iT (ne_of_none e h)];exact n,r⟩⟩
 ·by_cases q:a=p
  ·subst q;rw [jN] at e;cases e;exact r
  ·rw [iT q] at e
   exact (l.m a u e).up (Ext.newM h) (abb h a)
 ·have ne:a≠p:=by rintro rfl;exact l.nr h ra
  rw [upd_ne ne,iT ne]
  exact l.r a ra
/-- a mutable object is written -/
theorem Ext.wr{p:Addr}{o:HO}{m:M}(h:η p≠none):Ext η H (Ka η p m) (upd H p o):=by
 refine ⟨fun a u n e=> .inl ?_,fun a q=> ?_⟩
 ·rw [upd_ne (by rintro rfl;exact h n)];exact e
 ·by_cases e:a=p
  ·subst e;exact .inl h
  ·rw [iT e] at q;exact .inl q
theorem Lk.wr{p:Addr}{o:HO}{m:M}(l:Lk K R η H)(h:η p≠none)(r:MOk K R (Ka η p m) (upd H p o) p m):Lk K R (Ka η p m) (upd H p o):=by
 refine ⟨fun a u e=> ?_,fun a ra=> ?_,fun P q t=>(l.tb P q t).go fun a u e n r=>by have ne:a≠p:=(by rintro rfl;exact h n);exact ⟨by rw [upd_ne ne];exact e,by rw [iT ne];exact n,r⟩⟩
 ·by_cases q:a=p
  ·subst q;rw [jN] at e;cases e;exact r
  ·rw [iT q] at e
   exact (l.m a u e).up (Ext.wr h) (fun o z=>by rw [upd_ne q];exact z)
 ·have ne:a≠p:=by rintro rfl;exact l.nrm h ra
  rw [upd_ne ne,iT ne]
  exact l.r a ra
/-- one more address is kept back,a new one -/
def rup(R:Addr→Prop)(p:Addr):Addr→Prop:=fun a=>a=p∨R a
theorem ExOk.back{C d a p:Addr}{fs:List (Str × V)}(x:ExOk R η H C d a fs)(hp:H p=none)(e:Ext η H η H'):ExOk (rup R p) η H' C d a fs:=by
 have y:=x.up e
 refine ⟨y.at_,y.n,fun z=> ?_,y.dat,y.dn,fun z=> ?_⟩
 ·rcases z with z | z
  ·subst z;have:=x.at_;rw [hp] at this;cases this
  ·exact x.r z
 ·rcases z with z | z
  ·subst z;have:=x.dat;rw [hp] at this;cases this
  ·exact x.dr z
theorem ExOk.forth{C d a p:Addr}{fs:List (Str × V)}(x:ExOk (rup R p) η H C d a fs)(e:∀a o,a≠p→H a=some o→H' a=some o):ExOk R η H' C d a fs∧ExOk (rup R p) η H' C d a fs:=
 ⟨⟨e _ _ (fun z=>x.r (.inl z)) x.at_,x.n,fun z=>x.r (.inr z),e _ _ (fun z=>x.dr (.inl z)) x.dat,x.dn,fun z=>x.dr (.inr z)⟩,⟨e _ _ (fun z=>x.r (.inl z)) x.at_,x.n,x.r,e _ _ (fun z=>x.dr (.inl z)) x.dat,x.dn,x.dr⟩⟩
end
mutual
theorem Rep.back{K:PySem.W.Frag}{R:Addr→Prop}{η:Eta}{H H':Hp}{p:Addr}(hp:H p=none)(e:Ext η H η H'):∀(d:D) (v:V),Rep K R η H v d→Rep K (rup R p) η H' v d
 | .non,_,h=>by cases h;exact .non
 | .bl _,_,h=>by cases h;exact .bl _
 | .int _,_,h=>by cases h;exact .int _
 | .str _,_,h=>by cases h with | str a=>exact .str a
 | .ty _,_,h=>by cases h;exact .ty _
 | .ref _,_,h=>by cases h;exact .ref _
 | .lst ds,_,h=>by
  cases h with
  | lst a b r c=>exact .lst (e.rd b a).1 b (fun z=>by rcases z with z | z;(· subst z;rcases a with a | ⟨o,a⟩ <;> (rw [hp] at a;cases a));exact r z) (bJ.back hp e ds _ c)
 | .klst ds,_,h=>by
  cases h with
  | klst a b r c=>exact .klst (e.rd b a).1 b (fun z=>by rcases z with z | z;(· subst z;rcases a with a | ⟨o,a⟩ <;> (rw [hp] at a;cases a));exact r z) (bJ.back hp e ds _ c)
  | klstK a1 a2 a3 a4 a5 a6 c=>exact .klstK a1 a2 a3 a4 a5 a6 (bJ.back hp e ds _ c)
 | .tup ds,_,h=>by
  cases h with
  | tup a b r c=>exact .tup (e.rd b a).1 b (fun z=>by rcases z with z | z;(· subst z;rcases a with a | ⟨o,a⟩ <;> (rw [hp] at a;cases a));exact r z) (bJ.back hp e ds _ c)
  | tupK a1 a2 a3 a4 a5 c=>exact .tupK a1 a2 a3 a4 a5 (bJ.back hp e ds _ c)
 | .obj C ns ds,_,h=>by
  cases h with
  | obj a b r c d=>exact .obj (e.keepN _ _ b a) b (fun z=>by rcases z with z | z;(· subst z;rw [hp] at a;cases a);exact r z) c (bJ.back hp e ds _ d)
 | .exc C ns ds,_,h=>by
  cases h with
  | exc x c d=>exact .exc (x.back hp e) c (bJ.back hp e ds _ d)
 | .fn k T ds,_,h=>by
  cases h with
  | fn x d=>exact .fn (x.go fun a o p' n r t=>⟨e.keepN a o n p' t,n,fun z=>by rcases z with z | z;(· subst z;rw [hp] at p';cases p');exact r z⟩) (bJ.back hp e ds _ d)
 | .dct ks ds,_,h=>by
  cases h with
  | dct a b r c d=>exact .dct (e.keepN _ _ b a) b (fun z=>by rcases z with z | z;(· subst z;rw [hp] at a;cases a);exact r z) c (bJ.back hp e ds _ d)
theorem bJ.back{K:PySem.W.Frag}{R:Addr→Prop}{η:Eta}{H H':Hp}{p:Addr}(hp:H p=none)(e:Ext η H η H'):∀(ds:List D) (vs:List V),bJ K R η H vs ds→bJ K (rup R p) η H' vs ds
 | [],_,h=>by cases h;exact .nil
 | d::ds,_,h=>by
  cases h with
  | cons a b=>exact .cons (Rep.back hp e d _ a) (bJ.back hp e ds _ b)
end
mutual
/-- what is kept back may change,and be set free -/
theorem Rep.forth{K:PySem.W.Frag}{R:Addr→Prop}{η:Eta}{H H':Hp}{p:Addr}(e:∀a o,a≠p→H a=some o→H' a=some o):∀(d:D) (v:V),Rep K (rup R p) η H v d→Rep K R η H' v d∧Rep K (rup R p) η H' v d
 | .non,_,h=>by cases h;exact ⟨.non, .non⟩
 | .bl _,_,h=>by cases h;exact ⟨.bl _, .bl _⟩
 | .int _,_,h=>by cases h;exact ⟨.int _, .int _⟩
 | .str _,_,h=>by cases h with | str a=>exact ⟨.str a, .str a⟩
 | .ty _,_,h=>by cases h;exact ⟨.ty _, .ty _⟩
 | .ref _,_,h=>by cases h;exact ⟨.ref _, .ref _⟩
 | .lst ds,_,h=>by
  cases h with
  | @lst a xs _ q b r c=>
   have q':Rd H' a (.lst xs):=by rcases q with q | ⟨o,q⟩;exact .inl (e _ _ (fun z=>r (.inl z)) q);exact .inr ⟨o,e _ _ (fun z=>r (.inl z)) q⟩
   exact ⟨.lst q' b (fun z=>r (.inr z)) (bJ.forth e ds _ c).1, .lst q' b r (bJ.forth e ds _ c).2⟩
 | .klst ds,_,h=>by
  cases h with
  | @klst a xs _ q b r c=>
   have q':Rd H' a (.lst xs):=by rcases q with q | ⟨o,q⟩;exact .inl (e _ _ (fun z=>r (.inl z)) q);exact .inr ⟨o,e _ _ (fun z=>r (.inl z)) q⟩
   exact ⟨.klst q' b (fun z=>r (.inr z)) (bJ.forth e ds _ c).1, .klst q' b r (bJ.forth e ds _ c).2⟩
  | klstK a1 a2 a3 a4 a5 a6 c=>exact ⟨.klstK a1 a2 a3 a4 a5 a6 (bJ.forth e ds _ c).1, .klstK a1 a2 a3 a4 a5 a6 (bJ.forth e ds _ c).2⟩
 | .tup ds,_,h=>by
  cases h with
  | @tup a xs _ q b r c=>
   have q':Rd H' a (.tup xs):=by rcases q with q | ⟨o,q⟩;exact .inl (e _ _ (fun z=>r (.inl z)) q);exact .inr ⟨o,e _ _ (fun z=>r (.inl z)) q⟩
   exact ⟨.tup q' b (fun z=>r (.inr z)) (bJ.forth e ds _ c).1, .tup q' b r (bJ.forth e ds _ c).2⟩
  | tupK a1 a2 a3 a4 a5 c=>exact ⟨.tupK a1 a2 a3 a4 a5 (bJ.forth e ds _ c).1, .tupK a1 a2 a3 a4 a5 (bJ.forth e ds _ c).2⟩
 | .obj C ns ds,_,h=>by
  cases h with
  | obj q b r c d=>exact ⟨.obj (e _ _ (fun z=>r (.inl z)) q) b (fun z=>r (.inr z)) c (bJ.forth e ds _ d).1, .obj (e _ _ (fun z=>r (.inl z)) q) b r c (bJ.forth e ds _ d).2⟩
 | .exc C ns ds,_,h=>by
  cases h with
  | exc x c d=>exact ⟨.exc (x.forth e).1 c (bJ.forth e ds _ d).1, .exc (x.forth e).2 c (bJ.forth e ds _ d).2⟩
 | .fn k T ds,_,h=>by
  cases h with
  | fn x d=>exact ⟨.fn (x.go fun a o p' n r _=>⟨e a o (fun z=>r (.inl z)) p',n,fun z=>r (.inr z)⟩) (bJ.forth e ds _ d).1, .fn (x.go fun a o p' n r _=>⟨e a o (fun z=>r (.inl z)) p',n,r⟩) (bJ.forth e ds _ d).2⟩
 | .dct ks ds,_,h=>by
  cases h with
  | dct q b r c d=>exact ⟨.dct (e _ _ (fun z=>r (.inl z)) q) b (fun z=>r (.inr z)) c (bJ.forth e ds _ d).1, .dct (e _ _ (fun z=>r (.inl z)) q) b r c (bJ.forth e ds _ d).2⟩
theorem bJ.forth{K:PySem.W.Frag}{R:Addr→Prop}{η:Eta}{H H':Hp}{p:Addr}(e:∀a o,a≠p→H a=some o→H' a=some o):∀(ds:List D) (vs:List V),bJ K (rup R p) η H vs ds→bJ K R η H' vs ds∧bJ K (rup R p) η H' vs ds
 | [],_,h=>by cases h;exact ⟨.nil, .nil⟩
 | d::ds,_,h=>by
  cases h with
  | cons a b=>exact ⟨.cons (Rep.forth e d _ a).1 (bJ.forth e ds _ b).1, .cons (Rep.forth e d _ a).2 (bJ.forth e ds _ b).2⟩
end
section
variable {K:PySem.W.Frag}{R:Addr→Prop}{η:Eta}{H H':Hp}{p:Addr}{δ:vY}{σ:L2.St}
theorem MOk.back{a:Addr}{m:M}(hp:H p=none)(e:Ext η H η H')(k:∀o,H a=some o→H' a=some o)(h:MOk K R η H a m):MOk K (rup R p) η H' a m:=by
 cases m with
 | lst ds=>obtain ⟨xs,a,b⟩:=h;exact ⟨xs,k _ a,bJ.back hp e _ _ b⟩
 | ins C ns ds=>obtain ⟨dx,fs,a,b,c⟩:=h;exact ⟨dx,fs,k _ a,b,bJ.back hp e _ _ c⟩
 | dct ks ds=>obtain ⟨kvs,a,b,c⟩:=h;exact ⟨kvs,k _ a,b,bJ.back hp e _ _ c⟩
theorem MOk.forth{a:Addr}{m:M}(e:∀a o,a≠p→H a=some o→H' a=some o)(ne:a≠p)(h:MOk K (rup R p) η H a m):MOk K R η H' a m∧MOk K (rup R p) η H' a m:=by
 cases m with
 | lst ds=>obtain ⟨xs,a,b⟩:=h;exact ⟨⟨xs,e _ _ ne a,(bJ.forth e _ _ b).1⟩,⟨xs,e _ _ ne a,(bJ.forth e _ _ b).2⟩⟩
 | ins C ns ds=>obtain ⟨dx,fs,a,b,c⟩:=h;exact ⟨⟨dx,fs,e _ _ ne a,b,(bJ.forth e _ _ c).1⟩,⟨dx,fs,e _ _ ne a,b,(bJ.forth e _ _ c).2⟩⟩
 | dct ks ds=>obtain ⟨kvs,a,b,c⟩:=h;exact ⟨⟨kvs,e _ _ ne a,b,(bJ.forth e _ _ c).1⟩,⟨kvs,e _ _ ne a,b,(bJ.forth e _ _ c).2⟩⟩
/-- a new object is laid and kept back -/
theorem Lk.back{o:HO}(l:Lk K R η H)(hp:H p=none):Lk K (rup R p) η (upd H p o):=by
 refine ⟨fun a m e=>(l.m a m e).back hp (Ext.new hp) (abb hp a),fun a ra=> ?_,fun P q t=>(l.tb P q t).go fun a u e n r=>⟨abb hp a u e,n,fun z=>by rcases z with z | z;(· subst z;rw [hp] at e;cases e);exact r z⟩⟩
 rcases ra with rfl | ra
 ·exact ⟨by rw [upd_same];simp,l.free hp⟩
 ·have ne:a≠p:=by rintro rfl;exact l.nr hp ra
  rw [upd_ne ne]
  exact l.r a ra
theorem Sl.back{o:HO}(s:Sl K R η H δ σ)(hp:H p=none):Sl K (rup R p) η (upd H p o) δ σ:=
 ⟨s.len,fun i d h=>let ⟨v,a,b⟩:=s.at_ i d h;⟨v,a,Rep.back hp (Ext.new hp) _ _ b⟩⟩
theorem anx{o:HO}:∀a u,a≠p→H a=some u→upd H p o a=some u:=fun a u ne e=>by rw [upd_ne ne];exact e
/-- what is kept back is written -/
theorem Lk.put{o:HO}(l:Lk K (rup R p) η H):Lk K (rup R p) η (upd H p o):=by
 refine ⟨fun a m e=>((l.m a m e).forth anx (by rintro rfl;rw [(l.r a (.inl rfl)).2] at e;cases e)).2,fun a ra=> ?_,fun P q t=>(l.tb P q t).go fun a u e n r=>⟨anx a u (fun z=>r (.inl z)) e,n,r⟩⟩
 by_cases ne:a=p
 ·subst ne;exact ⟨by rw [upd_same];simp,(l.r a ra).2⟩
 ·rw [upd_ne ne];exact l.r a ra
theorem Sl.put{o:HO}(s:Sl K (rup R p) η H δ σ):Sl K (rup R p) η (upd H p o) δ σ:=⟨s.len,fun i d h=>let ⟨v,a,b⟩:=s.at_ i d h;⟨v,a,(Rep.forth anx _ _ b).2⟩⟩
/-- it is set free -/
theorem Lk.forth(l:Lk K (rup R p) η H):Lk K R η H:=⟨fun a m e=>((l.m a m e).forth (fun _ _ _ h=>h) (by rintro rfl;rw [(l.r a (.inl rfl)).2] at e;cases e)).1,fun a ra=>l.r a (.inr ra),fun P q t=>(l.tb P q t).go fun a u e n r=>⟨e,n,fun z=>r (.inr z)⟩⟩
theorem Sl.forth(s:Sl K (rup R p) η H δ σ):Sl K R η H δ σ:=⟨s.len,fun i d h=>let ⟨v,a,b⟩:=s.at_ i d h;⟨v,a,(Rep.forth (fun _ _ _ h=>h) _ _ b).1⟩⟩
end
end DL
end
section
namespace DL
open PySem PySem.Spec PyProof.Rows L2
abbrev Xk:=D→Eta→Prop
abbrev DK:=D→Eta→Prop
abbrev DE:=Xk→vY→Eta→DK→Prop
abbrev DT:=Xk→vY→Eta→(Bool→Eta→Prop)→Prop
abbrev DA:=Xk→vY→Eta→(List D→Eta→Prop)→Prop
abbrev DO:=Xk→vY→Eta→(Option Int→Eta→Prop)→Prop
/-- an exception as data:an instance of its class with the attributes of its own dict -/
def akz(K:PySem.W.Frag)(R:Addr→Prop)(η:Eta)(H:Hp)(C:Addr)(od:Option Addr)(x:D):Prop:=
 ∃ns ds d fs,x= .exc C ns ds∧od=some d∧H d=some (.xd fs)∧η d=none∧¬ R d∧fs.map (·.1)=ns∧bJ K R η H (fs.map (·.2)) ds
/-- what follows,over the heap and over data -/
structure Kn(K:PySem.W.Frag)(R:Addr→Prop)(E:XK)(η:Eta)(H:Hp)(Z:Xk){α β:Type}(Rl:(Addr→Prop)→Eta→Hp→α→β→Prop)(Φ:β→Eta→Prop)(Q:α→Hp→Prop):Prop where
 ok:∀v d H' η',Lk K R η' H'→Ext η H η' H'→Rl R η' H' v d→Φ d η'→Q v H'
 ex:∀C od x H' η',Lk K R η' H'→Ext η H η' H'→akz K R η' H' C od x→Z x η'→E (.ref C) od H'
section
variable {K:PySem.W.Frag}{R:Addr→Prop}{E:XK}{η η1:Eta}{H H1:Hp}{Z:Xk}{α β γ ε:Type}{Rl:(Addr→Prop)→Eta→Hp→α→β→Prop}{Φ:β→Eta→Prop}{Q:α→Hp→Prop}
 {Rl':(Addr→Prop)→Eta→Hp→γ→ε→Prop}{Φ':ε→Eta→Prop}{Q':γ→Hp→Prop}
/-- the same exceptions,another end -/
theorem Kn.to(k:Kn K R E η H Z Rl Φ Q)(h:∀v d H' η',Lk K R η' H'→Ext η H η' H'→Rl' R η' H' v d→Φ' d η'→Q' v H'):Kn K R E η H Z Rl' Φ' Q':=⟨h,k.ex⟩
/-- from a later state -/
theorem Kn.at_(k:Kn K R E η H Z Rl Φ Q)(e:Ext η H η1 H1):Kn K R E η1 H1 Z Rl Φ Q:=
 ⟨fun v d H' η' l x=>k.ok v d H' η' l (e.trans x),fun C od x H' η' l y=>k.ex C od x H' η' l (e.trans y)⟩
end
def j8(K:PySem.W.Frag)(E:XK){α β:Type}(Rl:(Addr→Prop)→Eta→Hp→α→β→Prop)(te:L2.St→Hp→(α→Hp→Prop)→Prop)(t:Xk→vY→Eta→(β→Eta→Prop)→Prop):Prop:=
 ∀(R:Addr→Prop) (σ:L2.St) (H:Hp) (δ:vY) (η:Eta) (Z:Xk) (Φ:β→Eta→Prop) (Q:α→Hp→Prop),Lk K R η H→Sl K R η H δ σ→t Z δ η Φ→Kn K R E η H Z Rl Φ Q→te σ H Q
abbrev REq{α:Type}:(Addr→Prop)→Eta→Hp→α→α→Prop:=fun _ _ _ a b=>a=b
structure PD(X:Cx)(E:XK)(e:Expr)(te:TE)(t:DE):Prop where
 pe:PE X e te
 so:j8 X.K E (Rep X.K) te t
structure PDT(X:Cx)(E:XK)(e:Expr)(tt:TT)(t:DT):Prop where
 pt:PT X e tt
 so:j8 X.K E REq tt t
structure PDW(X:Cx)(E:XK)(e:Expr)(tt:TT)(t:DT):Prop where
 pw:PW X e tt
 so:j8 X.K E REq tt t
structure PDA(X:Cx)(E:XK)(es:List Expr)(ta:TA)(t:DA):Prop where
 pa:PA X es ta
 so:j8 X.K E (bJ X.K) ta t
structure PDO(X:Cx)(E:XK)(e:Option Expr)(to:TO)(t:DO):Prop where
 po:PO X e to
 so:j8 X.K E REq to t
section
variable {X:Cx}{E:XK}{a b c e:Expr}{es:List Expr}{ta tb tc te:TE}{da db dc de:DE}{tr:TA}{dr:DA}{pos:Pos}
def axL(i:Nat):DE:=fun _ δ η Φ=> ∃d,δ[i]? =some (some d)∧Φ d η
def dC(d:D):DE:=fun _ _ η Φ=>Φ d η
theorem ayQ{K:PySem.W.Frag}{i:Nat}:j8 K E (Rep K) (tVar i) (axL i):=fun R σ H δ η Z Φ Q l s h k=>by
 obtain ⟨d,e,h⟩:=h
 obtain ⟨v,hv,r⟩:=s.at_ i d e
 exact ⟨v,hv,k.ok v d H η l (Ext.refl _ _) r h⟩
theorem aoD{K:PySem.W.Frag}{v:V}{d:D}(r:∀R η H,Rep K R η H v d):j8 K E (Rep K) (tC v) (dC d):=fun R σ H δ η Z Φ Q l s h k=>k.ok v d H η l (Ext.refl _ _) (r R η H) h
theorem aN(i:Nat){x:Str}{pos:Pos}(hN:X.N[i]? =some x:=by rfl)(hv:Vis X.env.scope x:=by first | exact Or.inl rfl | exact Or.inr (Or.inl rfl) | exact Or.inr (Or.inr rfl))(hd:(x==("__debug__" :Str))=false:=by decide)
  (hcd:(x==("__classdict__" :Str))=false:=by decide):PD X E (.Name x pos) (tVar i) (axL i):=⟨pe_var hN hv hd hcd,ayQ⟩
theorem cP{i j pos}:PD X E (.Constant (.int i) j pos) (tC (.int i)) (dC (.int i)):=⟨pe_int,aoD fun _ _ _=> .int i⟩
theorem acO{i j pos}:PD X E (.Constant (.bool i) j pos) (tC (.bl i)) (dC (.bl i)):=⟨pe_bl,aoD fun _ _ _=> .bl i⟩
theorem Xb{j pos}:PD X E (.Constant .none j pos) (tC .non) (dC .non):=⟨pe_non,aoD fun _ _ _=> .non⟩
theorem eV{x j pos}(h:SOk x):PD X E (.Constant (.str x) j pos) (tC (.str x)) (dC (.str x)):=⟨pe_str,aoD fun _ _ _=> .str h⟩
theorem at6{x:Str}{v:V}{u:Value}{d:D}{pos:Pos}(hg:Gl X x)(hm:X.mg x=some u)(r:RelV v u)(rd:∀R η H,Rep X.K R η H v d)(hd:(x==("__debug__" :Str))=false:=by decide):PD X E (.Name x pos) (tC v) (dC d):=⟨pe_glob hg hm r hd,aoD rd⟩
/-- a built-in type's name as a value -/
theorem zU{x:Str}{T:String}{pos:Pos}(hg:Gl X x)(hm:X.mg x=none)(hv:bootBuiltins x=some (.type T))(hn:x≠"__name__" :=by decide)(hd:(x==("__debug__" :Str))=false:=by decide):PD X E (.Name x pos) (tC (.ty T)) (dC (.ty T)):=
 ⟨pe_bltn hg hm hv rfl hn hd,aoD fun _ _ _=> .ty T⟩
abbrev DR2:=D→D→Eta→DK→Prop
def agf(K:PySem.W.Frag)(r:R2)(o:DR2):Prop:=∀(R:Addr→Prop) (η:Eta) (H:Hp) (x y:V) (dx dy:D) (Φ:DK) (Q:VK),Lk K R η H→Rep K R η H x dx→Rep K R η H y dy→o dx dy η Φ→
 (∀v d H' η',Lk K R η' H'→Ext η H η' H'→Rep K R η' H' v d→Φ d η'→Q v H')→r x y H Q
structure OpD(X:Cx)(f:Value→Value→Sem Value)(r:R2)(o:DR2):Prop where
 op:OpR X f r
 so:agf X.K r o
structure IxD(X:Cx)(r:R2)(o:DR2):Prop where
 op:IxR X r
 so:agf X.K r o
def dOp(o:DR2)(da db:DE):DE:=fun Z δ η Φ=>da Z δ η fun x η1=>db Z δ η1 fun y η2=>o x y η2 Φ
theorem anB{K:PySem.W.Frag}{r:R2}{o:DR2}(ho:agf K r o)(ha:j8 K E (Rep K) ta da)(hb:j8 K E (Rep K) tb db):j8 K E (Rep K) (tOp r ta tb) (dOp o da db):=fun R σ H δ η Z Φ Q l s h k=>by
 refine ha R σ H δ η Z _ _ l s h (k.to fun v1 d1 H1 η1 l1 e1 r1 h1=> ?_)
 refine hb R σ H1 δ η1 Z _ _ l1 (s.up e1) h1 ((k.at_ e1).to fun v2 d2 H2 η2 l2 e2 r2 h2=> ?_)
 exact ho R η2 H2 v1 v2 d1 d2 Φ Q l2 (r1.up e2) r2 h2 fun v d H' η' l' e' r' h'=>k.ok v d H' η' l' ((e1.trans e2).trans e') r' h'
theorem qm{op:Operator}{r:R2}{o:DR2}(ho:OpD X (binaryOp op) r o)(ha:PD X E a ta da)(hb:PD X E b tb db):PD X E (.BinOp a op b pos) (tOp r ta tb) (dOp o da db):=⟨pe_op ho.op ha.pe hb.pe,anB ho.so ha.so hb.so⟩
theorem QK{op:CmpOp}{r:R2}{o:DR2}(ho:OpD X (compareOp op) r o)(ha:PD X E a ta da)(hb:PD X E b tb db)(hm:behindInMarks op b=false):PD X E (.Compare a [op] [b] pos) (tOp r ta tb) (dOp o da db):=⟨pe_cmpR ho.op ha.pe hb.pe hm,anB ho.so ha.so hb.so⟩
theorem Gz{r:R2}{o:DR2}(ho:IxD X r o)(ha:PD X E a ta da)(hb:PD X E b tb db)(hs:PlainIx b):PD X E (.Subscript a b pos) (tOp r ta tb) (dOp o da db):=⟨pe_ix ho.op ha.pe hb.pe hs,anB ho.so ha.so hb.so⟩
/-- a value as a test -/
def ali(t:DE):DT:=fun Z δ η Φ=>t Z δ η fun d η1=> ∃k,d= .bl k∧Φ k η1
theorem anV{K:PySem.W.Frag}(ha:j8 K E (Rep K) ta da):j8 K E REq (tTest ta) (ali da):=fun R σ H δ η Z Φ Q l s h k=>by
 refine ha R σ H δ η Z _ _ l s h (k.to fun v1 d1 H1 η1 l1 e1 r1 h1=> ?_)
 obtain ⟨c,rfl,h1⟩:=h1
 cases r1
 exact ⟨c,rfl,k.ok c c H1 η1 l1 e1 rfl h1⟩
theorem aDx{K:PySem.W.Frag}(ha:j8 K E (Rep K) ta da):j8 K E REq (tB ta) (ali da):=anV ha
theorem rM{op:CmpOp}{r:R2}{o:DR2}(ho:OpD X (compareOp op) r o)(ha:PD X E a ta da)(hb:PD X E b tb db)(hm:behindInMarks op b=false):PDT X E (.Compare a [op] [b] pos) (tTest (tOp r ta tb)) (ali (dOp o da db)):=⟨pt_cmpR ho.op ha.pe hb.pe hm,anV (anB ho.so ha.so hb.so)⟩
theorem agd(h:PD X E e te de)(he:∀whole,isTrue e X.env whole=(do let v ← whole;standAt e.pos;holding [v] (truthy v)):=by intro _;rfl):PDT X E e (tB te) (ali de):=⟨pt_val h.pe he,aDx h.so⟩
/-- is None,is not None -/
def aCr:R2:=fun x y H Q=>y= .non∧Q (.bl (decide (x= .non))) H
def Ca:D→Bool | .non=>true | _=>false
def aDn:DR2:=fun x y η Φ=>y= .non∧Φ (.bl (Ca x)) η
theorem aoW{K:PySem.W.Frag}{R:Addr→Prop}{η:Eta}{H:Hp}{x:V}{d:D}(r:Rep K R η H x d):decide (x= .non)=Ca d:=by
 cases r <;> simp [Ca]
theorem aiX:OpD X (compareOp .Is) aCr aDn:=⟨op_isN,fun R η H x y dx dy Φ Q l rx ry h k=>by
 obtain ⟨rfl,h⟩:=h
 cases ry
 exact ⟨rfl,k _ _ H η l (Ext.refl _ _) (.bl _) (by rw [aoW rx];exact h)⟩⟩
def aBW(t u:DT):DT:=fun Z δ η Φ=>t Z δ η fun c η1=>if c=true then u Z δ η1 Φ else Φ false η1
def dOr(t u:DT):DT:=fun Z δ η Φ=>t Z δ η fun c η1=>if c=true then Φ true η1 else u Z δ η1 Φ
def aBH(t:DT):DT:=fun Z δ η Φ=>t Z δ η fun c η1=>Φ (!c) η1
variable {tt tu:TT}{dt du:DT}{rest:List Expr}
theorem aqZ(ha:PDT X E a tt dt):PDW X E (.BoolOp .And [a] pos) tt dt:=⟨pw_and1 ha.pt,ha.so⟩
theorem ai8(ha:PDT X E a tt dt):PDW X E (.BoolOp .Or [a] pos) tt dt:=⟨pw_or1 ha.pt,ha.so⟩
theorem avW(ha:PDT X E a tt dt)(hb:PDW X E (.BoolOp .And (b::rest) pos) tu du):PDW X E (.BoolOp .And (a::b::rest) pos) (tAnd tt tu) (aBW dt du):=⟨pw_and ha.pt hb.pw,fun R σ H δ η Z Φ Q l s h k=>by
 refine ha.so R σ H δ η Z _ _ l s h (k.to fun v1 d1 H1 η1 l1 e1 r1 h1=> ?_)
 obtain rfl:v1=d1:=r1
 cases v1 with
 | true=>exact hb.so R σ H1 δ η1 Z Φ Q l1 (s.up e1) h1 (k.at_ e1)
 | false=>exact k.ok false false H1 η1 l1 e1 rfl h1⟩
theorem amM(ha:PDT X E a tt dt)(hb:PDW X E (.BoolOp .Or (b::rest) pos) tu du):PDW X E (.BoolOp .Or (a::b::rest) pos) (tOr tt tu) (dOr dt du):=⟨pw_or ha.pt hb.pw,fun R σ H δ η Z Φ Q l s h k=>by
 refine ha.so R σ H δ η Z _ _ l s h (k.to fun v1 d1 H1 η1 l1 e1 r1 h1=> ?_)
 obtain rfl:v1=d1:=r1
 cases v1 with
 | true=>exact k.ok true true H1 η1 l1 e1 rfl h1
 | false=>exact hb.so R σ H1 δ η1 Z Φ Q l1 (s.up e1) h1 (k.at_ e1)⟩
theorem an6(h:PDW X E e tt dt):PDT X E e tt dt:=⟨h.pw.pt,h.so⟩
theorem anR(ha:PDT X E a tt dt):PDT X E (.UnaryOp .Not a pos) (tNot tt) (aBH dt):=⟨pt_not ha.pt,fun R σ H δ η Z Φ Q l s h k=>by
 refine ha.so R σ H δ η Z _ _ l s h (k.to fun v1 d1 H1 η1 l1 e1 r1 h1=> ?_)
 obtain rfl:v1=d1:=r1
 exact k.ok _ _ H1 η1 l1 e1 rfl h1⟩
/-- and,or,not as values (of bools) -/
def aw7(da db:DE):DE:=fun Z δ η Φ=>da Z δ η fun d η1=> ∃c,d= .bl c∧if c=true then db Z δ η1 Φ else Φ (.bl false) η1
theorem amF{op}(h:PD X E a ta da):PD X E (.BoolOp op [a] pos) ta da:=⟨pe_one h.pe,h.so⟩
theorem ami(ha:PD X E a ta da)(hb:PD X E (.BoolOp .And (b::rest) pos) tb db):PD X E (.BoolOp .And (a::b::rest) pos) (tAndV ta tb) (aw7 da db):=⟨pe_and ha.pe hb.pe,fun R σ H δ η Z Φ Q l s h k=>by
 refine ha.so R σ H δ η Z _ _ l s h (k.to fun v1 d1 H1 η1 l1 e1 r1 h1=> ?_)
 obtain ⟨c,rfl,h1⟩:=h1
 cases r1
 refine ⟨c,rfl,?_⟩
 cases c with
 | true=>exact hb.so R σ H1 δ η1 Z Φ Q l1 (s.up e1) h1 (k.at_ e1)
 | false=>exact k.ok _ _ H1 η1 l1 e1 (.bl false) h1⟩
def dIf(t:DT)(da db:DE):DE:=fun Z δ η Φ=>t Z δ η fun c η1=>if c=true then da Z δ η1 Φ else db Z δ η1 Φ
theorem as5(hc:PDT X E c tt dt)(ha:PD X E a ta da)(hb:PD X E b tb db):PD X E (.IfExp c a b pos) (tIf tt ta tb) (dIf dt da db):=⟨pe_ifExp hc.pt ha.pe hb.pe,fun R σ H δ η Z Φ Q l s h k=>by
 refine hc.so R σ H δ η Z _ _ l s h (k.to fun v1 d1 H1 η1 l1 e1 r1 h1=> ?_)
 obtain rfl:v1=d1:=r1
 cases v1 with
 | true=>exact ha.so R σ H1 δ η1 Z Φ Q l1 (s.up e1) h1 (k.at_ e1)
 | false=>exact hb.so R σ H1 δ η1 Z Φ Q l1 (s.up e1) h1 (k.at_ e1)⟩
def au2:DA:=fun _ _ η Φ=>Φ [] η
def anI(de:DE)(dr:DA):DA:=fun Z δ η Φ=>de Z δ η fun x η1=>dr Z δ η1 fun xs η2=>Φ (x::xs) η2
theorem aZ:PDA X E [] tNil au2:=⟨pa_nil,fun R σ H δ η Z Φ Q l s h k=>k.ok [] [] H η l (Ext.refl _ _) .nil h⟩
theorem aj(he:PD X E e te de)(hr:PDA X E es tr dr)(hs:starEach (e::es) X.env=(false,eval e X.env)::starEach es X.env:=by rfl):PDA X E (e::es) (tCons te tr) (anI de dr):=⟨pa_cons he.pe hr.pa hs,fun R σ H δ η Z Φ Q l s h k=>by
 refine he.so R σ H δ η Z _ _ l s h (k.to fun v1 d1 H1 η1 l1 e1 r1 h1=> ?_)
 refine hr.so R σ H1 δ η1 Z _ _ l1 (s.up e1) h1 ((k.at_ e1).to fun v2 d2 H2 η2 l2 e2 r2 h2=> ?_)
 exact k.ok _ _ H2 η2 l2 (e1.trans e2) (.cons (r1.up e2) r2) h2⟩
def dTup(dr:DA):DE:=fun Z δ η Φ=>dr Z δ η fun ds η1=>ds.length≤sizeLine∧Φ (.tup ds) η1
def aBj(dr:DA):DE:=fun Z δ η Φ=>dr Z δ η fun ds η1=>ds.length≤sizeLine∧Φ (.lst ds) η1
/-- a list that will be changed -/
def awU(dr:DA):DE:=fun Z δ η Φ=>dr Z δ η fun ds η1=>ds.length≤sizeLine∧∀p,η1 p=none→Φ (.ref p) (Ka η1 p (.lst ds))
theorem ni{x1}(h:PDA X E es tr dr):PD X E (.Tuple es x1 pos) (tTup tr) (dTup dr):=⟨pe_tup h.pa,fun R σ H δ η Z Φ Q l s hw k=>by
 refine h.so R σ H δ η Z _ _ l s hw (k.to fun vs ds H1 η1 l1 e1 r1 h1=> ?_)
 refine ⟨by rw [r1.length];exact h1.1,fun p hp=> ?_⟩
 have x:=Ext.new (η:=η1) (o:= .tup vs) hp
 exact k.ok _ _ _ η1 (l1.new hp) (e1.trans x) (.tup (.inl upd_same) (l1.free hp) (l1.nr hp) (r1.up x)) h1.2⟩
theorem Df(h:PDA X E es tr dr):PD X E (.List es pos) (tLst tr) (aBj dr):=⟨pe_lst h.pa,fun R σ H δ η Z Φ Q l s hw k=>by
 refine h.so R σ H δ η Z _ _ l s hw (k.to fun vs ds H1 η1 l1 e1 r1 h1=> ?_)
 refine ⟨by rw [r1.length];exact h1.1,fun p hp=> ?_⟩
 have x:=Ext.new (η:=η1) (o:= .lst vs) hp
 exact k.ok _ _ _ η1 (l1.new hp) (e1.trans x) (.lst (.inl upd_same) (l1.free hp) (l1.nr hp) (r1.up x)) h1.2⟩
theorem anL(h:PDA X E es tr dr):PD X E (.List es pos) (tLst tr) (awU dr):=⟨pe_lst h.pa,fun R σ H δ η Z Φ Q l s hw k=>by
 refine h.so R σ H δ η Z _ _ l s hw (k.to fun vs ds H1 η1 l1 e1 r1 h1=> ?_)
 refine ⟨by rw [r1.length];exact h1.1,fun p hp=> ?_⟩
 have x:=Ext.newM (η:=η1) (o:= .lst vs) (m:= .lst ds) hp
 exact k.ok _ _ _ _ (l1.newM (m:= .lst ds) hp ⟨vs,upd_same,r1.up x⟩) (e1.trans x) (.ref p) (h1.2 p (l1.free hp))⟩
def anQ:DO:=fun _ _ η Φ=>Φ none η
def aw6(de:DE):DO:=fun Z δ η Φ=>de Z δ η fun d η1=> ∃i,d= .int i∧Φ (some i) η1
theorem alf:PDO X E none tNoPart anQ:=⟨po_none,fun R σ H δ η Z Φ Q l s h k=>k.ok _ _ H η l (Ext.refl _ _) rfl h⟩
theorem akM(h:PD X E e te de):PDO X E (some e) (tPart te) (aw6 de):=⟨po_some h.pe,fun R σ H δ η Z Φ Q l s hw k=>by
 refine h.so R σ H δ η Z _ _ l s hw (k.to fun v1 d1 H1 η1 l1 e1 r1 h1=> ?_)
 obtain ⟨i,rfl,h1⟩:=h1
 cases r1
 exact ⟨i,rfl,k.ok _ _ H1 η1 l1 e1 rfl h1⟩⟩
abbrev RSl:=V→Option Int→Option Int→Hp→VK→Prop
abbrev DSl:=D→Option Int→Option Int→Eta→DK→Prop
structure SlD(X:Cx)(r:RSl)(o:DSl):Prop where
 op:SlR X r
 so:∀(R:Addr→Prop) (η:Eta) (H:Hp) (x:V) (dx:D) (lo hi:Option Int) (Φ:DK) (Q:VK),Lk X.K R η H→Rep X.K R η H x dx→o dx lo hi η Φ→(∀v d H' η',Lk X.K R η' H'→Ext η H η' H'→Rep X.K R η' H' v d→Φ d η'→Q v H')→r x lo hi H Q
def dSl(o:DSl)(de:DE)(dl dh:DO):DE:=fun Z δ η Φ=>de Z δ η fun x η1=>dl Z δ η1 fun lo η2=>dh Z δ η2 fun hi η3=>o x lo hi η3 Φ
variable {lo hi:Option Expr}{tl th:TO}{dl dh:DO}{p2:Pos}
theorem ak4{r:RSl}{o:DSl}(hr:SlD X r o)(he:PD X E e te de)(hl:PDO X E lo tl dl)(hu:PDO X E hi th dh):PD X E (.Subscript e (.Slice lo hi none p2) pos) (tSl r te tl th) (dSl o de dl dh):=⟨pe_slice hr.op he.pe hl.po hu.po,fun R σ H δ η Z Φ Q l s h k=>by
 refine he.so R σ H δ η Z _ _ l s h (k.to fun v1 d1 H1 η1 l1 e1 r1 h1=> ?_)
 refine hl.so R σ H1 δ η1 Z _ _ l1 (s.up e1) h1 ((k.at_ e1).to fun v2 d2 H2 η2 l2 e2 r2 h2=> ?_)
 obtain rfl:v2=d2:=r2
 refine hu.so R σ H2 δ η2 Z _ _ l2 ((s.up e1).up e2) h2 ((k.at_ (e1.trans e2)).to fun v3 d3 H3 η3 l3 e3 r3 h3=> ?_)
 obtain rfl:v3=d3:=r3
 exact hr.so R η3 H3 v1 d1 v2 v3 Φ Q l3 ((r1.up e2).up e3) h3 fun v d H' η' l' e' r' h'=>k.ok v d H' η' l' (((e1.trans e2).trans e3).trans e') r' h'⟩
abbrev RCl:=List V→Hp→VK→Prop
abbrev DCl:=List D→Eta→DK→Prop
structure ClD(X:Cx)(f:Value)(r:RCl)(o:DCl):Prop where
 op:CallR X f r
 so:∀(R:Addr→Prop) (η:Eta) (H:Hp) (xs:List V) (ds:List D) (Φ:DK) (Q:VK),Lk X.K R η H→bJ X.K R η H xs ds→o ds η Φ→(∀v d H' η',Lk X.K R η' H'→Ext η H η' H'→Rep X.K R η' H' v d→Φ d η'→Q v H')→r xs H Q
def dCB(o:DCl)(dr:DA):DE:=fun Z δ η Φ=>dr Z δ η fun ds η1=>o ds η1 Φ
theorem awX{r:RCl}{o:DCl}{f:Value}(hc:ClD X f r o)(ha:PDA X E es tr dr):j8 X.K E (Rep X.K) (tCB r tr) (dCB o dr):=fun R σ H δ η Z Φ Q l s h k=>by
 refine ha.so R σ H δ η Z _ _ l s h (k.to fun v1 d1 H1 η1 l1 e1 r1 h1=> ?_)
 exact hc.so R η1 H1 v1 d1 Φ Q l1 r1 h1 fun v d H' η' l' e' r' h'=>k.ok v d H' η' l' (e1.trans e') r' h'
variable {x:Str}{p:Pos}{r:RCl}{o:DCl}{id T:String}
theorem m9(hc:ClD X (.builtin id) r o)(hg:Gl X x)(hm:X.mg x=none)(hv:bootBuiltins x=some (.builtin id))(ha:PDA X E (e::es) tr dr)(hn:x≠"__name__" :=by decide)(hdb:(x==("__debug__" :Str))=false:=by decide)
  (he:starEach (e::es) X.env=(false,eval e X.env)::starEach es X.env:=by rfl)(hpl:(backTo pos (starEach es X.env)).any (·.1)=false:=by rfl):PD X E (.Call (.Name x p) (e::es) [] pos) (tCB r tr) (dCB o dr):=
 ⟨pe_callB hc.op hg hm hv ha.pa hn hdb he hpl,awX hc ha⟩
theorem yW(hc:ClD X (.type T) r o)(hg:Gl X x)(hm:X.mg x=none)(hv:bootBuiltins x=some (.type T))(ha:PDA X E (e::es) tr dr)(hn:x≠"__name__" :=by decide)(hdb:(x==("__debug__" :Str))=false:=by decide)
  (he:starEach (e::es) X.env=(false,eval e X.env)::starEach es X.env:=by rfl)(hpl:(backTo pos (starEach es X.env)).any (·.1)=false:=by rfl):PD X E (.Call (.Name x p) (e::es) [] pos) (tCB r tr) (dCB o dr):=
 ⟨pe_callTy hc.op hg hm hv ha.pa hn hdb he hpl,awX hc ha⟩
end
end DL
end
section
namespace DL
open PySem PySem.Spec PyProof.Rows L2
structure Yn where
 nx:vY→Eta→Prop
 rt:DK
 bk:vY→Eta→Prop
 ct:vY→Eta→Prop
abbrev DS:=Xk→Yn→vY→Eta→Prop
structure SK(K:PySem.W.Frag)(R:Addr→Prop)(E:XK)(η:Eta)(H:Hp)(Z:Xk)(P:Yn)(D:Ends):Prop where
 nx:∀σ' H' δ' η',Lk K R η' H'→Ext η H η' H'→Sl K R η' H' δ' σ'→P.nx δ' η'→D.nx σ' H'
 rt:∀v d H' η',Lk K R η' H'→Ext η H η' H'→Rep K R η' H' v d→P.rt d η'→D.rt v H'
 bk:∀σ' H' δ' η',Lk K R η' H'→Ext η H η' H'→Sl K R η' H' δ' σ'→P.bk δ' η'→D.bk σ' H'
 ct:∀σ' H' δ' η',Lk K R η' H'→Ext η H η' H'→Sl K R η' H' δ' σ'→P.ct δ' η'→D.ct σ' H'
 ex:∀C od x H' η',Lk K R η' H'→Ext η H η' H'→akz K R η' H' C od x→Z x η'→E (.ref C) od H'
theorem SK.at_{K:PySem.W.Frag}{R:Addr→Prop}{E:XK}{η η1:Eta}{H H1:Hp}{Z:Xk}{P:Yn}{D:Ends}(k:SK K R E η H Z P D)(e:Ext η H η1 H1):SK K R E η1 H1 Z P D:=
 ⟨fun σ' H' δ' η' l x=>k.nx σ' H' δ' η' l (e.trans x),fun v d H' η' l x=>k.rt v d H' η' l (e.trans x),fun σ' H' δ' η' l x=>k.bk σ' H' δ' η' l (e.trans x),fun σ' H' δ' η' l x=>k.ct σ' H' δ' η' l (e.trans x),fun C od x H' η' l y=>k.ex C od x H' η' l (e.trans y)⟩
def amj(K:PySem.W.Frag)(E:XK)(ts:TS)(t:DS):Prop:=
 ∀(R:Addr→Prop) (σ:L2.St) (H:Hp) (δ:vY) (η:Eta) (Z:Xk) (P:Yn) (D:Ends),Lk K R η H→Sl K R η H δ σ→t Z P δ η→SK K R E η H Z P D→ts D σ H
structure PDS(X:Cx)(E:XK)(st:Stmt)(ts:TS)(t:DS):Prop where
 ps:PS X st ts
 so:amj X.K E ts t
structure aji(X:Cx)(E:XK)(st:List Stmt)(ts:TS)(t:DS):Prop where
 ps:PSs X st ts
 so:amj X.K E ts t
/-- an expression's continuation within a statement -/
theorem SK.kn{K:PySem.W.Frag}{R:Addr→Prop}{E:XK}{η:Eta}{H:Hp}{Z:Xk}{P:Yn}{D:Ends}(k:SK K R E η H Z P D){α β:Type}{Rl:(Addr→Prop)→Eta→Hp→α→β→Prop}{Φ:β→Eta→Prop}{Q:α→Hp→Prop}
  (h:∀v d H' η',Lk K R η' H'→Ext η H η' H'→Rl R η' H' v d→Φ d η'→Q v H'):Kn K R E η H Z Rl Φ Q:=⟨h,k.ex⟩
abbrev DG:=D→vY→Eta→(vY→Eta→Prop)→Prop
abbrev DGs:=List D→vY→Eta→(vY→Eta→Prop)→Prop
def ai7(K:PySem.W.Frag)(g:TG)(dg:DG):Prop:=
 ∀(R:Addr→Prop) (σ:L2.St) (H:Hp) (δ:vY) (η:Eta) (v:V) (d:D) (Ψ:vY→Eta→Prop) (Q:L2.St→Hp→Prop),Lk K R η H→Sl K R η H δ σ→Rep K R η H v d→dg d δ η Ψ→
  (∀σ' H' δ' η',Lk K R η' H'→Ext η H η' H'→Sl K R η' H' δ' σ'→Ψ δ' η'→Q σ' H')→g v σ H Q
def avf(K:PySem.W.Frag)(g:TGs)(dg:DGs):Prop:=
 ∀(R:Addr→Prop) (σ:L2.St) (H:Hp) (δ:vY) (η:Eta) (v:List V) (d:List D) (Ψ:vY→Eta→Prop) (Q:L2.St→Hp→Prop),Lk K R η H→Sl K R η H δ σ→bJ K R η H v d→dg d δ η Ψ→
  (∀σ' H' δ' η',Lk K R η' H'→Ext η H η' H'→Sl K R η' H' δ' σ'→Ψ δ' η'→Q σ' H')→g v σ H Q
structure PDG(X:Cx)(e:Expr)(g:TG)(dg:DG):Prop where
 pg:PG X e g
 so:ai7 X.K g dg
structure ars(X:Cx)(es:List Expr)(g:TGs)(dg:DGs):Prop where
 pgs:PGs X es g
 so:avf X.K g dg
section
variable {X:Cx}{E:XK}{st:Stmt}{rest:List Stmt}{ts us:TS}{t u:DS}{e:Expr}{te:TE}{de:DE}{pos:Pos}
def awY:DS:=fun _ P δ η=>P.nx δ η
def aBt(t u:DS):DS:=fun Z P δ η=>t Z ⟨fun δ' η'=>u Z P δ' η',P.rt,P.bk,P.ct⟩ δ η
theorem qF:aji X E [] tNext awY:=⟨pss_nil,fun R σ H δ η Z P D l s h k=>k.nx σ H δ η l (Ext.refl _ _) s h⟩
theorem fV(h:PDS X E st ts t):aji X E [st] ts t:=⟨pss_one h.ps,h.so⟩
theorem bZ(h1:PDS X E st ts t)(h2:aji X E rest us u):aji X E (st::rest) (tSeq ts us) (aBt t u):=⟨pss_cons h1.ps h2.ps,fun R σ H δ η Z P D l s h k=>by
 refine h1.so R σ H δ η Z _ _ l s h ⟨fun σ' H' δ' η' l' x s' h'=> ?_,k.rt,k.bk,k.ct,k.ex⟩
 exact h2.so R σ' H' δ' η' Z P D l' s' h' (k.at_ x)⟩
def awW(de:DE):DS:=fun Z P δ η=>de Z δ η fun _ η1=>P.nx δ η1
theorem aqE(he:PD X E e te de)(hs:swapsWith e none pos.line X.env=pure false:=by rfl):PDS X E (.Expr e pos) (tDrop te) (awW de):=⟨ps_expr he.pe hs,fun R σ H δ η Z P D l s h k=>by
 exact he.so R σ H δ η Z _ _ l s h (k.kn fun v d H' η' l' x r h'=>k.nx σ H' δ η' l' x (s.up x) h')⟩
def aDD(de:DE):DS:=fun Z P δ η=>de Z δ η P.rt
theorem m7(he:PD X E e te de):PDS X E (.Return (some e) pos) (tRet te) (aDD de):=⟨ps_ret he.pe,fun R σ H δ η Z P D l s h k=>by
 exact he.so R σ H δ η Z _ _ l s h (k.kn fun v d H' η' l' x r h'=>k.rt v d H' η' l' x r h')⟩
/-- a mutable list is returned for good -/
def frz(d:D)(η:Eta):D × Eta:=match d with
 | .ref p=>match η p with
  | some (.lst ds)=>(.lst ds,U3 η p)
  | _=>(d,η)
 | _=>(d,η)
theorem Ext.del{η:Eta}{H:Hp}{p:Addr}:Ext η H (U3 η p) H:=⟨fun _ _ _ h=> .inl h,fun a h=>by
 unfold U3 at h
 split at h
 ·exact absurd rfl h
 ·exact .inl h⟩
theorem Lk.del{K:PySem.W.Frag}{R:Addr→Prop}{η:Eta}{H:Hp}{p:Addr}(l:Lk K R η H):Lk K R (U3 η p) H:=by
 refine ⟨fun a m e=> ?_,fun a ra=> ?_,fun P q t=>(l.tb P q t).go fun a o e n r=>⟨e,by unfold U3;split;rfl;exact n,r⟩⟩
 ·unfold U3 at e
  split at e
  ·cases e
  ·exact (l.m a m e).up Ext.del fun o h=>h
 ·obtain ⟨h1,h2⟩:=l.r a ra
  refine ⟨h1,?_⟩
  unfold U3
  split
  ·rfl
  ·exact h2
def aA0(c:DT)(t u:DS):DS:=fun Z P δ η=>c Z δ η fun b η1=>if b=true then t Z P δ η1 else u Z P δ η1
theorem zR{c:Expr}{a b:List Stmt}{tc:TT}{dc:DT}(hc:PDT X E c tc dc)(ha:aji X E a ts t)(hb:aji X E b us u):PDS X E (.If c a b pos) (tIfS tc ts us) (aA0 dc t u):=⟨ps_if hc.pt ha.ps hb.ps,fun R σ H δ η Z P D l s h k=>by
 refine hc.so R σ H δ η Z _ _ l s h (k.kn fun v d H' η' l' x r h'=> ?_)
 obtain rfl:v=d:=r
 cases v with
 | true=>exact ha.so R σ H' δ η' Z P D l' (s.up x) h' (k.at_ x)
 | false=>exact hb.so R σ H' δ η' Z P D l' (s.up x) h' (k.at_ x)⟩
def asn:DS:=fun _ _ _ _=>False
theorem al0{sts:List Stmt}:aji X E sts tNever asn:=⟨pss_never,fun R σ H δ η Z P D l s h k=>h.elim⟩
def dName(i:Nat):DG:=fun d δ η Ψ=>Ψ (δ.set i (some d)) η
theorem an9{K:PySem.W.Frag}{i:Nat}:ai7 K (gName i) (dName i):=fun R σ H δ η v d Ψ Q l s r h k=>k _ H _ η l (Ext.refl _ _) (s.set r i) h
theorem El{i:Nat}{x:Str}(hN:X.N.Nodup)(hi:X.N[i]? =some x)(hx:Loc X.env.scope x)(hf:X.fn x=true∨X.env.scope.names.lookup x=some .local:=by first | exact .inl rfl | exact .inr rfl | assumption):PDG X (.Name x pos) (gName i) (dName i):=⟨pg_name hN hi hx hf,an9⟩
def awP:DGs:=fun ds δ η Ψ=>ds= []∧Ψ δ η
def asH(g:DG)(gs:DGs):DGs:=fun ds δ η Ψ=> ∃d r,ds=d::r∧g d δ η fun δ' η'=>gs r δ' η' Ψ
theorem agJ:ars X [] gNil awP:=⟨pgs_nil,fun R σ H δ η v d Ψ Q l s r h k=>by
 obtain ⟨rfl,h⟩:=h
 cases r
 exact ⟨rfl,k σ H δ η l (Ext.refl _ _) s h⟩⟩
theorem Qn{es:List Expr}{g:TG}{gs:TGs}{dg:DG}{dgs:DGs}(h1:PDG X e g dg)(h2:ars X es gs dgs)(hs:(assignEach (e::es) X.env).map (·.2)=assign e X.env::(assignEach es X.env).map (·.2):=by rfl):ars X (e::es) (gCons g gs) (asH dg dgs):=
 ⟨pgs_cons h1.pg h2.pgs hs,fun R σ H δ η v d Ψ Q l s r h k=>by
 obtain ⟨d1,dr,rfl,h⟩:=h
 cases r with
 | cons r1 r2=>
  refine ⟨_,_,rfl,h1.so R σ H δ η _ _ _ _ l s r1 h fun σ' H' δ' η' l' x s' h'=> ?_⟩
  exact h2.so R σ' H' δ' η' _ _ Ψ Q l' s' (r2.up x) h' fun σ2 H2 δ2 η2 l2 x2 s2 q2=>k σ2 H2 δ2 η2 l2 (x.trans x2) s2 q2⟩
def aq0(n:Nat)(gs:DGs):DG:=fun d δ η Ψ=> ∃ds,d= .tup ds∧ds.length=n∧gs ds δ η Ψ
theorem avA{es:List Expr}{k:Nat}{gs:TGs}{dgs:DGs}{n:Nat}(hc:X.calm=true)(h:ars X es gs dgs)(hn:(assignEach es X.env).length=n:=by rfl)(hst:(assignEach es X.env).findIdx? (·.1)=none:=by rfl):PDG X (.Tuple es k pos) (gTup X.K n gs) (aq0 n dgs):=
 ⟨pg_tup hc h.pgs hn hst,fun R σ H δ η v d Ψ Q l s r hw k=>by
 obtain ⟨ds,rfl,hl,hw⟩:=hw
 obtain ⟨a,xs,rfl,hq,rs⟩:=r.sqT
 exact ⟨a,xs,rfl,hq,by rw [rs.length];exact hl,h.so R σ H δ η _ _ Ψ Q l s rs hw k⟩⟩
def avw(de:DE)(g:DG):DS:=fun Z P δ η=>de Z δ η fun d η1=>g d δ η1 P.nx
theorem aqU{K:PySem.W.Frag}{g:TG}{dg:DG}(he:j8 K E (Rep K) te de)(hg:ai7 K g dg):amj K E (tAsg te g) (avw de dg):=fun R σ H δ η Z P D l s h k=>by
 refine he R σ H δ η Z _ _ l s h (k.kn fun v d H' η' l' x r h'=> ?_)
 exact hg R σ H' δ η' v d _ _ l' (s.up x) r h' fun σ2 H2 δ2 η2 l2 x2 s2 q2=>k.nx σ2 H2 δ2 η2 l2 (x.trans x2) s2 q2
theorem Xf{tg:Expr}{g:TG}{dg:DG}(he:PD X E e te de)(hg:PDG X tg g dg)(hs:swapsWithSole [tg] e pos.line X.env=pure false:=by rfl)(hw:swappedStores [tg] e X.env=pure none:=by rfl)
  (h1:(assignEach [tg] X.env).map (·.2)= [assign tg X.env]:=by rfl):PDS X E (.Assign [tg] e pos) (tAsg te g) (avw de dg):=⟨ps_asg he.pe hg.pg hs hw h1,aqU he.so hg.so⟩
theorem vD{i:Nat}{x:Str}{pos':Pos}(hN:X.N.Nodup)(hi:X.N[i]? =some x)(hx:Loc X.env.scope x)(he:PD X E e te de)(hs:swapsWith e (some (.Name x pos')) pos.line X.env=pure false:=by rfl)(hf:X.fn x=true∨X.env.scope.names.lookup x=some .local:=by first | exact .inl rfl | exact .inr rfl | assumption):
  PDS X E (.Assign [.Name x pos'] e pos) (tAsg te (gName i)) (avw de (dName i)):=⟨ps_set hN hi hx he.pe hs hf,aqU he.so an9⟩
/-- o[i]=v -/
abbrev aoC:=D→D→D→Eta→(Eta→Prop)→Prop
structure StD(X:Cx)(r:TSet)(o:aoC):Prop where
 op:PSet X r
 so:∀(R:Addr→Prop) (η:Eta) (H:Hp) (x y z:V) (dx dy dz:D) (Φ:Eta→Prop) (Q:Hp→Prop),Lk X.K R η H→Rep X.K R η H x dx→Rep X.K R η H y dy→Rep X.K R η H z dz→o dx dy dz η Φ→(∀H' η',Lk X.K R η' H'→Ext η H η' H'→Φ η'→Q H')→r x y z H Q
abbrev Z0:Xk:=fun _ _=>False
def aCX(do_ di:DE)(o:aoC):DG:=fun v δ η Ψ=>do_ Z0 δ η fun x η1=>di Z0 δ η1 fun y η2=>o x y v η2 fun η3=>Ψ δ η3
theorem aar{o i:Expr}{to ti:TE}{do_ di:DE}{r:TSet}{ds:aoC}(ho:PD X E o to do_)(hi:PD X E i ti di)(hs:StD X r ds)
  (ha:∀v,assign (.Subscript o i pos) X.env v=(do
   let ov ← holding [v] (eval o X.env)
   let iv ← holding [v,ov] (eval i X.env)
   standAt pos
   holding [v,ov,iv] (setItem ov iv v)
   release [v,ov,iv] []):=by intro _;rfl):PDG X (.Subscript o i pos) (gSub to ti r) (aCX do_ di ds):=⟨pg_sub ho.pe hi.pe hs.op ha,fun R σ H δ η v d Ψ Q l s r h k=>by
 refine ho.so R σ H δ η Z0 _ _ l s h ⟨fun v1 d1 H1 η1 l1 x1 r1 h1=> ?_,fun _ _ _ _ _ _ _ _ z=>z.elim⟩
 refine hi.so R σ H1 δ η1 Z0 _ _ l1 (s.up x1) h1 ⟨fun v2 d2 H2 η2 l2 x2 r2 h2=> ?_,fun _ _ _ _ _ _ _ _ z=>z.elim⟩
 exact hs.so R η2 H2 v1 v2 v d1 d2 d _ _ l2 (r1.up x2) r2 ((r.up x1).up x2) h2 fun H3 η3 l3 x3 h3=>k σ H3 δ η3 l3 ((x1.trans x2).trans x3) ((s.up x1).up (x2.trans x3)) h3⟩
end
/-- the items ds,while G holds -/
def aoR(K:PySem.W.Frag)(R:Addr→Prop)(η0:Eta)(H0:Hp)(J:It)(ds:List D)(G:Eta→Prop):Prop:=
 ∀(η:Eta) (H:Hp),Lk K R η H→Ext η0 H0 η H→G η→J.stop ds.length H∧∀(i:Nat) (d:D),ds[i]? =some d→J.go i H∧∀x H',J.yld i H x H'→Lk K R η H'∧(∀a o,H a=some o→H' a=some o)∧Rep K R η H' x d
abbrev DI:=Xk→vY→Eta→(List D→(Eta→Prop)→Eta→Prop)→Prop
def apx(K:PySem.W.Frag)(E:XK)(wi:TI)(di:DI):Prop:=
 ∀(R:Addr→Prop) (σ:L2.St) (H:Hp) (δ:vY) (η:Eta) (Z:Xk) (Ψ:List D→(Eta→Prop)→Eta→Prop) (Q:It→Hp→Prop),Lk K R η H→Sl K R η H δ σ→di Z δ η Ψ→
  (∀J ds G H' η',Lk K R η' H'→Ext η H η' H'→(∀R',(∀a,R a→R' a)→(∀a,R' a→¬ R a→H' a=none)→aoR K R' η' H' J ds G)→Ψ ds G η'→Q J H')→
  (∀C od x H' η',Lk K R η' H'→Ext η H η' H'→akz K R η' H' C od x→Z x η'→E (.ref C) od H')→wi σ H Q
structure PDI(X:Cx)(E:XK)(tg iter:Expr)(wi:TI)(di:DI):Prop where
 pi:PI X tg iter wi
 so:apx X.K E wi di
def agn(g:DG)(body:DS)(Z:Xk)(P:Yn)(G:Eta→Prop):List D→vY→Eta→Prop
 | [],δ,η=>G η∧P.nx δ η
 | x::xs,δ,η=>G η∧g x δ η fun δ1 η1=>body Z ⟨fun δ2 η2=>agn g body Z P G xs δ2 η2,P.rt,P.nx,fun δ2 η2=>agn g body Z P G xs δ2 η2⟩ δ1 η1
def aDC(di:DI)(g:DG)(body:DS):DS:=fun Z P δ η=>di Z δ η fun ds G η1=>agn g body Z P G ds δ η1
theorem at3{g:DG}{body:DS}{Z:Xk}{P:Yn}{G:Eta→Prop}:∀ {ds:List D} {δ:vY} {η:Eta},agn g body Z P G ds δ η→G η
 | [],_,_,h=>h.1
 | _::_,_,_,h=>h.1
section
variable {X:Cx}{E:XK}{tg iter:Expr}{body:List Stmt}{wi:TI}{di:DI}{g:TG}{dg:DG}{tb:TS}{db:DS}{pos:Pos}
theorem an8(hp:PassesOwn (model X.prog X.w) X.A X.env X.xe)(hc:X.calm=true)(hi:PDI X E tg iter wi di)(hg:PDG X tg g dg)(hb:aji X E body tb db)
  (hs:∀x,foldedSetIterable iter X.env x=pure x:=by intro _;rfl):PDS X E (.For tg iter body [] pos) (tFor wi g tb) (aDC di dg db):=⟨ps_for hp hc hi.pi hg.pg hb.ps hs,fun R σ H δ η Z P D l s h k=>by
 refine hi.so R σ H δ η Z _ _ l s h (fun J ds G H1 η1 l1 x1 it h1=> ?_) k.ex
 have it:=it R (fun _ h=>h) (fun a h1 h2=>absurd h1 h2)
 refine ⟨fun i m σ' H'=>m=ds.length - i∧i≤ds.length∧∃δ' η',Lk X.K R η' H'∧Ext η1 H1 η' H'∧Sl X.K R η' H' δ' σ'∧agn dg db Z P G (ds.drop i) δ' η',⟨ds.length,by simp,Nat.zero_le _,δ,η1,l1,Ext.refl _ _,s.up x1,by simpa using h1⟩,?_⟩
 rintro i m σ' H' ⟨rfl,hi',δ',η',l',x',s',h'⟩
 obtain ⟨st,go⟩:=it η' H' l' x' (at3 h')
 by_cases hlt:i < ds.length
 ·obtain ⟨d,hd⟩:∃d,ds[i]? =some d:=⟨ds[i],by simp [hlt]⟩
  obtain ⟨g1,g2⟩:=go i d hd
  have hdr:ds.drop i=d::ds.drop (i + 1):=by
   rw [List.drop_eq_getElem_cons hlt]
   rw [List.getElem?_eq_getElem hlt] at hd
   rw [Option.some.inj hd]
  rw [hdr] at h'
  refine .inr ⟨g1,fun σ2 H2=> ∃δ2 η2,Lk X.K R η2 H2∧Ext η1 H1 η2 H2∧Sl X.K R η2 H2 δ2 σ2∧agn dg db Z P G (ds.drop (i + 1)) δ2 η2,fun σ2 H2 n=>⟨ds.length - (i + 1),by omega,rfl,hlt,n⟩,fun x H2 y=> ?_⟩
  obtain ⟨l2,ex2,r2⟩:=g2 x H2 y
  have x2:Ext η' H' η' H2:=Ext.ex ex2
  refine hg.so R σ' H2 δ' η' x d _ _ l2 (s'.up x2) r2 h'.2 fun σ3 H3 δ3 η3 l3 x3 s3 h3=> ?_
  have x13:=(x'.trans x2).trans x3
  exact hb.so R σ3 H3 δ3 η3 Z _ _ l3 s3 h3 ⟨fun σ4 H4 δ4 η4 l4 x4 s4 h4=>⟨δ4,η4,l4,x13.trans x4,s4,h4⟩,fun v d H4 η4 l4 x4=>k.rt v d H4 η4 l4 (x1.trans (x13.trans x4)),fun σ4 H4 δ4 η4 l4 x4=>k.nx σ4 H4 δ4 η4 l4 (x1.trans (x13.trans x4)),
   fun σ4 H4 δ4 η4 l4 x4 s4 h4=>⟨δ4,η4,l4,x13.trans x4,s4,h4⟩,fun C od x H4 η4 l4 x4=>k.ex C od x H4 η4 l4 (x1.trans (x13.trans x4))⟩
 ·have e:i=ds.length:=by omega
  subst e
  rw [List.drop_length] at h'
  exact .inl ⟨st,k.nx σ' H' δ' η' l' (x1.trans x') s' h'.2⟩⟩
/-- over a list,a tuple -/
def asL(η:Eta):D→Option (List D)
 | .lst xs=>some xs
 | .ref p=>match η p with
  | some (.lst xs)=>some xs
  | _=>none
 | _=>none
end
mutual
/-- more is kept back:new addresses -/
theorem Rep.more{K:PySem.W.Frag}{R R':Addr→Prop}{η:Eta}{H:Hp}(h2:∀a,R' a→¬ R a→H a=none):∀(d:D) (v:V),Rep K R η H v d→Rep K R' η H v d
 | .non,_,h=>by cases h;exact .non
 | .bl _,_,h=>by cases h;exact .bl _
 | .int _,_,h=>by cases h;exact .int _
 | .str _,_,h=>by cases h with | str a=>exact .str a
 | .ty _,_,h=>by cases h;exact .ty _
 | .ref _,_,h=>by cases h;exact .ref _
 | .lst ds,_,h=>by
  cases h with
  | lst a b r c=>exact .lst a b (fun z=>by have q:=h2 _ z r;rcases a with a | ⟨o,a⟩ <;> (rw [q] at a;cases a)) (bJ.more h2 ds _ c)
 | .klst ds,_,h=>by
  cases h with
  | klst a b r c=>exact .klst a b (fun z=>by have q:=h2 _ z r;rcases a with a | ⟨o,a⟩ <;> (rw [q] at a;cases a)) (bJ.more h2 ds _ c)
  | klstK a1 a2 a3 a4 a5 a6 c=>exact .klstK a1 a2 a3 a4 a5 a6 (bJ.more h2 ds _ c)
 | .tup ds,_,h=>by
  cases h with
  | tup a b r c=>exact .tup a b (fun z=>by have q:=h2 _ z r;rcases a with a | ⟨o,a⟩ <;> (rw [q] at a;cases a)) (bJ.more h2 ds _ c)
  | tupK a1 a2 a3 a4 a5 c=>exact .tupK a1 a2 a3 a4 a5 (bJ.more h2 ds _ c)
 | .obj C ns ds,_,h=>by
  cases h with
  | obj a b r c d=>exact .obj a b (fun z=>by have q:=h2 _ z r;rw [q] at a;cases a) c (bJ.more h2 ds _ d)
 | .exc C ns ds,_,h=>by
  cases h with
  | exc x c d=>exact .exc ⟨x.at_,x.n,(fun z=>by have q:=h2 _ z x.r;rw [x.at_] at q;cases q),x.dat,x.dn,(fun z=>by have q:=h2 _ z x.dr;rw [x.dat] at q;cases q)⟩ c (bJ.more h2 ds _ d)
 | .fn k T ds,_,h=>by
  cases h with
  | fn x d=>exact .fn (x.go fun a o p n r _=>⟨p,n,fun z=>by have q:=h2 _ z r;rw [q] at p;cases p⟩) (bJ.more h2 ds _ d)
 | .dct ks ds,_,h=>by
  cases h with
  | dct a b r c d=>exact .dct a b (fun z=>by have q:=h2 _ z r;rw [q] at a;cases a) c (bJ.more h2 ds _ d)
theorem bJ.more{K:PySem.W.Frag}{R R':Addr→Prop}{η:Eta}{H:Hp}(h2:∀a,R' a→¬ R a→H a=none):∀(ds:List D) (vs:List V),bJ K R η H vs ds→bJ K R' η H vs ds
 | [],_,h=>by cases h;exact .nil
 | d::ds,_,h=>by
  cases h with
  | cons a b=>exact .cons (Rep.more h2 d _ a) (bJ.more h2 ds _ b)
end
theorem MOk.more{K:PySem.W.Frag}{R R':Addr→Prop}{η:Eta}{H:Hp}(h2:∀a,R' a→¬ R a→H a=none){a:Addr}{m:M}(h:MOk K R η H a m):MOk K R' η H a m:=by
 cases m with
 | lst ds=>obtain ⟨xs,a,b⟩:=h;exact ⟨xs,a,bJ.more h2 _ _ b⟩
 | ins C ns ds=>obtain ⟨dx,fs,a,b,c⟩:=h;exact ⟨dx,fs,a,b,bJ.more h2 _ _ c⟩
 | dct ks ds=>obtain ⟨kvs,a,b,c⟩:=h;exact ⟨kvs,a,b,bJ.more h2 _ _ c⟩
section
variable {X:Cx}{E:XK}{tg e:Expr}{te:TE}{de:DE}{pos:Pos}
/-- range(n),range(a,b) -/
def iota(lo:Int)(n:Nat):List D:=(List.range n).map fun (i:Nat)=>D.int (lo + i)
theorem aeZ(lo:Int)(n:Nat):(iota lo n).length=n:=by simp [iota]
theorem asQ{K:PySem.W.Frag}{R:Addr→Prop}{η:Eta}{H:Hp}{lo:Int}{n:Nat}:aoR K R η H (Itr lo n) (iota lo n) (fun _=>True):=fun η' H' l x _=>by
 refine ⟨by show n≤(iota lo n).length;rw [aeZ];exact Nat.le_refl _,fun i d hd=> ?_⟩
 have hi:i < n:=by have:=(List.getElem?_eq_some_iff.mp hd).1;rwa [aeZ] at this
 refine ⟨hi,fun y H2 yl=> ?_⟩
 obtain ⟨rfl,rfl⟩:=yl
 refine ⟨l,fun _ _ h=>h,?_⟩
 unfold iota at hd
 rw [List.getElem?_map,List.getElem?_range hi] at hd
 cases hd
 exact .int _
def aCe(da:DA):DI:=fun Z δ η Ψ=>da Z δ η fun ds η1=> ∃j:Int,ds= [.int j]∧ -(2 ^ 62)≤j∧j < 2 ^ 62∧Ψ (iota 0 j.toNat) (fun _=>True) η1
theorem agE{a:Expr}{ta:TA}{da:DA}{p:Pos}(hg:Gl X "range")(hm:X.mg "range" =none)(ha:PDA X E [a] ta da)(hs:starEach [a] X.env= [(false,eval a X.env)]:=by rfl):PDI X E tg (.Call (.Name "range" p) [a] [] pos) (iRng1 ta) (aCe da):=⟨pi_range1 hg hm ha.pa hs,fun R σ H δ η Z Ψ Q l s hw k kx=>by
 refine ha.so R σ H δ η Z _ _ l s hw ⟨fun v d H1 η1 l1 x1 r1 h1=> ?_,kx⟩
 obtain ⟨j,rfl,q1,q2,h1⟩:=h1
 cases r1 with
 | cons r1 r2=>
  cases r1
  cases r2
  exact ⟨j,rfl,q1,q2,k _ _ _ H1 η1 l1 x1 (fun _ _ _=>asQ) h1⟩⟩
end
def Gy(δ:vY):List Nat→vY
 | []=>δ
 | v::vs=>(Gy δ vs).set v none
def amf(g:DG)(tt:DT)(te:DE)(δ:vY)(Z:Xk)(G:Eta→Prop)(Φ:DK):List D→List D→Eta→Prop
 | [],acc,η=>G η∧Φ (.lst acc) η
 | x::xs,acc,η=>G η∧g x δ η fun δ2 η2=>tt Z0 δ2 η2 fun b η3=>if b=true then te Z0 δ2 η3 fun y η4=>acc.length < sizeLine∧amf g tt te δ Z G Φ xs (acc ++ [y]) η4 else amf g tt te δ Z G Φ xs acc η3
def dLc(di:DI)(g:DG)(tt:DT)(te:DE)(vs:List Nat):DE:=fun Z δ η Φ=>di Z δ η fun ds G η1=>amf g tt te (Gy δ vs) Z G Φ ds [] η1
theorem az4{g:DG}{tt:DT}{te:DE}{δ:vY}{Z:Xk}{G:Eta→Prop}{Φ:DK}:∀ {ds acc:List D} {η:Eta},amf g tt te δ Z G Φ ds acc η→G η
 | [],_,_,h=>h.1
 | _::_,_,_,h=>h.1
theorem Sl.wipe{K:PySem.W.Frag}{R:Addr→Prop}{η:Eta}{H:Hp}{δ:vY}{σ:L2.St}(s:Sl K R η H δ σ):∀vs,Sl K R η H (Gy δ vs) (L2.wipe σ vs)
 | []=>s
 | v::vs=>by
  have t:=Sl.wipe s vs
  refine ⟨by unfold Gy L2.wipe;simp [t.len],fun j d' h=> ?_⟩
  unfold Gy at h
  unfold L2.wipe
  by_cases e:v=j
  ·subst e
   by_cases lt:v < (Gy δ vs).length
   ·rw [List.getElem?_set_self lt] at h;cases h
   ·rw [List.getElem?_eq_none (by simpa using lt)] at h;cases h
  ·rw [List.getElem?_set_ne e] at h
   obtain ⟨w,h1,h2⟩:=t.at_ j d' h
   exact ⟨w,by rw [List.getElem?_set_ne e];exact h1,h2⟩
/-- a target that stores only its own names -/
def aqG(g:TG)(vs:List Nat):Prop:=∀v σ H Q,g v σ H Q→g v σ H fun σ2 H2=>L2.wipe σ2 vs=L2.wipe σ vs∧Q σ2 H2
def anA(g:TGs)(vs:List Nat):Prop:=∀v σ H Q,g v σ H Q→g v σ H fun σ2 H2=>L2.wipe σ2 vs=L2.wipe σ vs∧Q σ2 H2
structure aDv(X:Cx)(E:XK)(ifs:List Expr)(tt:TT)(t:DT):Prop where
 pt:PTs X ifs tt
 so:j8 X.K E REq tt t
def aC4:DT:=fun _ _ η Φ=>Φ true η
theorem agz{X:Cx}{E:XK}:aDv X E [] tYes aC4:=⟨pts_nil,fun R σ H δ η Z Φ Q l s h k=>k.ok true true H η l (Ext.refl _ _) rfl h⟩
theorem acN(τ:L2.St)(ws:List Nat)(j:Nat):(L2.wipe τ ws)[j]? =if j ∈ ws∧j < τ.length then some none else τ[j]? :=by
 induction ws with
 | nil=>simp [L2.wipe]
 | cons w ws ih=>
  unfold L2.wipe
  by_cases e:w=j
  ·subst e
   by_cases lt:w < τ.length
   ·rw [List.getElem?_set_self (by rw [wipe_length];exact lt)];simp [lt]
   ·rw [List.getElem?_eq_none (by simp [wipe_length];omega),if_neg (by omega),List.getElem?_eq_none (by omega)]
  ·rw [List.getElem?_set_ne e,ih]
   have:(j ∈ w::ws)↔j ∈ ws:=by simp [Ne.symm e]
   simp only [this]
theorem aqw{σ:L2.St}{i:Nat}{x:Option V}{vs:List Nat}(hi:i ∈ vs):L2.wipe (σ.set i x) vs=L2.wipe σ vs:=by
 apply List.ext_getElem?
 intro j
 rw [acN,acN,List.length_set]
 by_cases hj:j ∈ vs∧j < σ.length
 ·rw [if_pos hj,if_pos hj]
 ·rw [if_neg hj,if_neg hj]
  by_cases e:i=j
  ·subst e
   have:¬ i < σ.length:=fun z=>hj ⟨hi,z⟩
   rw [List.getElem?_eq_none (by simp;omega),List.getElem?_eq_none (by omega)]
  ·rw [List.getElem?_set_ne e]
theorem aoy{σ:L2.St}{vs:List Nat}:L2.wipe (L2.wipe σ vs) vs=L2.wipe σ vs:=by
 apply List.ext_getElem?
 intro j
 rw [acN,acN,wipe_length]
 split <;> rfl
theorem YZ{i:Nat}{vs:List Nat}(h:i ∈ vs):aqG (gName i) vs:=fun v σ H Q q=>⟨aqw h,q⟩
theorem akL{vs:List Nat}:anA gNil vs:=fun v σ H Q q=>⟨q.1,rfl,q.2⟩
theorem aat{g:TG}{gs:TGs}{vs:List Nat}(h1:aqG g vs)(h2:anA gs vs)(m:∀v σ H Q Q',(∀σ2 H2,Q σ2 H2→Q' σ2 H2)→g v σ H Q→g v σ H Q'):anA (gCons g gs) vs:=fun v σ H Q q=>by
 obtain ⟨a,r,e,q⟩:=q
 refine ⟨a,r,e,m _ _ _ _ _ (fun σ2 H2 z=> ?_) (h1 a σ H _ q)⟩
 have:=h2 r σ2 H2 Q z.2
 rw [z.1] at this
 exact this
theorem aob{K:PySem.W.Frag}{n:Nat}{gs:TGs}{vs:List Nat}(h:anA gs vs):aqG (gTup K n gs) vs:=fun v σ H Q q=>by
 obtain ⟨a,xs,e,h1,h2,q⟩:=q
 exact ⟨a,xs,e,h1,h2,h xs σ H Q q⟩
theorem aau{i:Nat}:∀v σ H (Q Q':L2.St→Hp→Prop),(∀σ2 H2,Q σ2 H2→Q' σ2 H2)→gName i v σ H Q→gName i v σ H Q':=fun _ _ _ _ _ f h=>f _ _ h
section
variable {X:Cx}{E:XK}{elt tg iter:Expr}{ifs:List Expr}{scope:Scope}{own:List (Str × Nat)}{pos:Pos}{wi:TI}{di:DI}{g:TG}{dg:DG}{tt:TT}{dt:DT}{te:TE}{de:DE}
theorem aDN{K:PySem.W.Frag}{E1:XK}(hi:apx K E wi di)(hg:ai7 K g dg)(ho:aqG g (own.map (·.2)))(ht:j8 K E1 REq tt dt)(he:j8 K E1 (Rep K) te de):j8 K E (Rep K) (tLc wi g tt te (own.map (·.2))) (dLc di dg dt de (own.map (·.2))):=fun R σ H δ η Z Φ Q l s h k=>by
 refine hi R σ H δ η Z _ _ l s h (fun J ds G H1 η1 l1 x1 it h1=> ?_) k.ex
 intro D hD
 have itD:=it (rup R D) (fun a ra=> .inr ra) (fun a ra nr=>by rcases ra with rfl | ra;(· exact hD);exact absurd ra nr)
 have sw:=(s.up x1).wipe (own.map (·.2))
 refine ⟨fun i m H'=>m=ds.length - i∧i≤ds.length∧∃η' acc xs,Lk K (rup R D) η' H'∧Ext η1 H1 η' H'∧Sl K (rup R D) η' H' (Gy δ (own.map (·.2))) (L2.wipe σ (own.map (·.2)))∧H' D=some (.lst xs)∧bJ K (rup R D) η' H' xs acc∧amf dg dt de (Gy δ (own.map (·.2))) Z G Φ (ds.drop i) acc η',
  ⟨ds.length,by simp,Nat.zero_le _,η1,[],[],l1.back hD,Ext.new hD,sw.back hD,upd_same, .nil,by simpa using h1⟩,?_⟩
 rintro i m H' ⟨rfl,hi',η',acc,xs,l',x',s',hx,ra,h'⟩
 obtain ⟨st,go⟩:=itD η' H' l' x' (az4 h')
 by_cases hlt:i < ds.length
 ·obtain ⟨d,hd⟩:∃d,ds[i]? =some d:=⟨ds[i],by simp [hlt]⟩
  obtain ⟨g1,g2⟩:=go i d hd
  have hdr:ds.drop i=d::ds.drop (i + 1):=by
   rw [List.drop_eq_getElem_cons hlt]
   rw [List.getElem?_eq_getElem hlt] at hd
   rw [Option.some.inj hd]
  rw [hdr] at h'
  refine .inr ⟨g1,fun H2=> ∃η' acc xs,Lk K (rup R D) η' H2∧Ext η1 H1 η' H2∧Sl K (rup R D) η' H2 (Gy δ (own.map (·.2))) (L2.wipe σ (own.map (·.2)))∧H2 D=some (.lst xs)∧bJ K (rup R D) η' H2 xs acc∧amf dg dt de (Gy δ (own.map (·.2))) Z G Φ (ds.drop (i + 1)) acc η',fun H2 n=>⟨ds.length - (i + 1),by omega,rfl,hlt,n⟩,fun x H2 y=> ?_⟩
  obtain ⟨l2,ex2,r2⟩:=g2 x H2 y
  have x2:Ext η' H' η' H2:=Ext.ex ex2
  have ow:=fun Q' q'=>ho x (L2.wipe σ (own.map (·.2))) H2 Q' q'
  rw [aoy] at ow
  refine ow _ ?_
  refine hg (rup R D) _ H2 _ η' x d _ _ l2 (s'.up x2) r2 h'.2 fun σ3 H3 δ3 η3 l3 x3 s3 h3=> ?_
  have x13:=(x'.trans x2).trans x3
  have nD:η' D=none:=(l'.r D (.inl rfl)).2
  refine ht (rup R D) σ3 H3 δ3 η3 Z0 _ _ l3 s3 h3 ⟨fun b b' H4 η4 l4 x4 eb h4=> ?_,fun _ _ _ _ _ _ _ _ z=>z.elim⟩
  obtain rfl:b=b':=eb
  have x14:=x13.trans x4
  have x24:=(x2.trans x3).trans x4
  cases b with
  | false=>
   have sw4:Sl K (rup R D) η4 H4 (Gy δ (own.map (·.2))) (L2.wipe σ (own.map (·.2))):=s'.up x24
   exact ⟨η4,acc,xs,l4,x14,sw4,x24.keepN D _ nD hx,ra.up x24,h4⟩
  | true=>
   refine he (rup R D) σ3 H4 δ3 η4 Z0 _ _ l4 (s3.up x4) h4 ⟨fun v5 d5 H5 η5 l5 x5 r5 h5=> ?_,fun _ _ _ _ _ _ _ _ z=>z.elim⟩
   have x25:=x24.trans x5
   have hx5:=x25.keepN D _ nD hx
   refine ⟨xs,hx5,by rw [ra.length];exact h5.1,η5,acc ++ [d5],xs ++ [v5],l5.put,?_,(s'.up x25).put,upd_same,?_,h5.2⟩
   ·have x15:=x14.trans x5
    refine ⟨fun a o n e=> ?_,x15.dom⟩
    rw [upd_ne (ne_of_none e hD)]
    exact x15.keep a o n e
   ·exact (bJ.forth anx _ _ ((ra.up x25).append (.cons r5 .nil))).2
 ·have e:i=ds.length:=by omega
  subst e
  rw [List.drop_length] at h'
  refine .inl ⟨st,k.ok _ _ H' η' l'.forth (x1.trans x') (.lst (.inl hx) (l'.r D (.inl rfl)).2 ((l1.nr hD)) (bJ.forth (fun _ _ _ h=>h) _ _ ra).1) h'.2⟩
theorem apz(hc:X.calm=true)(hN:X.N.Nodup)(hi:PDI X E tg iter wi di)(ok:BlkOk X.N X.env.scope scope own)
  (hg:∀(s:Shared) (H:Hp) (C:Addr) (cl:List (Str × Addr)) (fp:List Addr),PDG (X.blk s H scope (compEnvC scope cl C X.env) fp) tg g dg)(ho:aqG g (own.map (·.2)))
  (ht:∀(s:Shared) (H:Hp) (C:Addr) (cl:List (Str × Addr)) (fp:List Addr),aDv (X.blk s H scope (compEnvC scope cl C X.env) fp) E0 ifs tt dt)
  (he:∀(s:Shared) (H:Hp) (C:Addr) (cl:List (Str × Addr)) (fp:List Addr),PD (X.blk s H scope (compEnvC scope cl C X.env) fp) E0 elt te de)(hs:∀x,foldedSetIterable iter X.env x=pure x:=by intro _;rfl):
  PD X E (.ListComp elt [⟨tg,iter,ifs,0⟩] scope pos) (tLc wi g tt te (own.map (·.2))) (dLc di dg dt de (own.map (·.2))):=
 ⟨pe_lc hc hN hi.pi ok (fun s H C cl fp=>(hg s H C cl fp).pg) (fun s H C cl fp=>(ht s H C cl fp).pt) (fun s H C cl fp=>(he s H C cl fp).pe) hs,
  aDN hi.so (hg X.s_0 X.H_0 0 [] []).so ho (ht X.s_0 X.H_0 0 [] []).so (he X.s_0 X.H_0 0 [] []).so⟩
end
end DL
end
section
namespace DL
open PySem PySem.Spec PyProof.Rows L2
/-- what a def does,over data:the arguments,the mutable objects,what an exception comes to,what follows -/
abbrev Ct:=List D→Eta→Xk→DK→Prop
def YS(K:PySem.W.Frag)(c:Ct):Sp:=fun vs H Q E=> ∃(R:Addr→Prop) (η:Eta) (ds:List D) (Z:Xk) (Φ:DK),Lk K R η H∧bJ K R η H vs ds∧c ds η Z Φ∧(∀v d H' η',Lk K R η' H'→Ext η H η' H'→Rep K R η' H' v d→Φ d η'→Q v H')∧
 ∀C od x H' η',Lk K R η' H'→Ext η H η' H'→akz K R η' H' C od x→Z x η'→E (.ref C) od H'
/-- what is raised in X comes to E -/
abbrev TkX(X:Cx)(E:XK):Prop:=Takes X fun cls d _ H=>E cls d H
theorem TkX.pass{X:Cx}{E:XK}(tk:TkX X E):Passes (L2.CX X.prog X.w) X E:=passes_call tk fun _ _ _ _ h=>h
def QF(N:List Str)(ds:List D):vY:=ds.map some ++ List.replicate (N.length - ds.length) none
theorem apJ{K:PySem.W.Frag}{R:Addr→Prop}{η:Eta}{H:Hp}{N:List Str}{vs:List V}{ds:List D}(r:bJ K R η H vs ds):Sl K R η H (QF N ds) (L2.start N vs):=by
 have hl:=r.length
 refine ⟨by simp [QF,L2.start,hl],fun i d h=> ?_⟩
 unfold QF at h
 unfold L2.start
 by_cases hi:i < ds.length
 ·rw [List.getElem?_append_left (by simpa using hi),List.getElem?_map] at h
  cases e:ds[i]? with
  | none=>rw [e] at h;cases h
  | some d'=>
   rw [e] at h
   cases h
   obtain ⟨v,hv,rv⟩:=r.get e
   exact ⟨v,by rw [List.getElem?_append_left (by rw [List.length_map,hl];exact hi),List.getElem?_map,hv];rfl,rv⟩
 ·rw [List.getElem?_append_right (by simpa using hi),List.getElem?_replicate] at h
  split at h <;> cases h
abbrev az6(Φ:DK):Yn:=⟨fun _ η=>Φ .non η,Φ,fun _ _=>False,fun _ _=>False⟩
section
variable {P:Program}{w:World}{K:PySem.W.Frag}{mg:Str→Option Value}{base:Heap}
/-- a def of the text keeps its contract,by its body -/
theorem fn0{x qual:Str}{st:Stmt}{f:Addr}{fd:FuncData}{N ps:List Str}{k:Nat}{c:Ct}(F:Fun K x qual st f fd)(S:FnScope N ps (defScope st))(hlen:∀ds η Z Φ,c ds η Z Φ→ds.length=ps.length)
  (hb:∀(cdv:Value) (A:Around) (outer:List Env) (s:Shared) (H:Hp) (E:XK) (ds:List D) (η:Eta) (Z:Xk) (Φ:DK),Room k (A.deeper (envOfC qual (defScope st) s.heap.objs.size f cdv))→c ds η Z Φ→
   ∃ts t,aji (cxOf (L2.CX P w) P w K mg base N qual (defScope st) f cdv A outer s H E) E (defBody st) ts t∧t Z (az6 Φ) (QF N ds) η):FnOk P w K mg base (L2.CX P w) (k + 1) f fd ps (YS K c):=by
 refine F.okX S (fun vs H Q E h=> ?_) fun cdv A outer s H vs Q E hr h=> ?_
 ·obtain ⟨R,η,ds,Z,Φ,l,r,hc,_⟩:=h
  rw [r.length];exact hlen ds η Z Φ hc
 ·obtain ⟨R,η,ds,Z,Φ,l,r,hc,q,qx⟩:=h
  obtain ⟨ts,t,hp,ht⟩:=hb cdv A outer s H E ds η Z Φ hr hc
  refine ⟨ts,hp.ps,hp.so R _ H _ η Z _ _ l (apJ r) ht ⟨fun σ' H' δ' η' l' x s' h'=>q _ _ H' η' l' x .non h',fun v d H' η' l' x r' h'=>q v d H' η' l' x r' h',fun _ _ _ _ _ _ _ h'=>h'.elim,fun _ _ _ _ _ _ _ h'=>h'.elim,qx⟩⟩
end
section
variable {X:Cx}{E:XK}{k:Nat}{f:Addr}{fd:FuncData}{ps:List Str}{c:Ct}{dvs:List V}{dds:List D}{dsV:List Value}{x:Str}{p pos:Pos}{e:Expr}{es:List Expr}{ta:TA}{da:DA}
def dCall(c:Ct)(dds:List D)(da:DA):DE:=fun Z δ η Φ=>da Z δ η fun ds η1=>c (ds ++ dds) η1 Z Φ
theorem avk{K:PySem.W.Frag}(hd:∀R η H,bJ K R η H dvs dds)(ha:j8 K E (bJ K) ta da):j8 K E (Rep K) (tCall (YS K c) dvs E ta) (dCall c dds da):=fun R σ H δ η Z Φ Q l s h k=>by
 refine ha R σ H δ η Z _ _ l s h (k.to fun vs ds H1 η1 l1 x1 r1 h1=> ?_)
 exact ⟨R,η1,ds ++ dds,Z,Φ,l1,r1.append (hd _ _ _),h1,fun v d H' η' l' x' r' h'=>k.ok v d H' η' l' (x1.trans x') r' h',fun C od x H' η' l' x' r' h'=>k.ex C od x H' η' l' (x1.trans x') r' h'⟩
theorem az8{K:PySem.W.Frag}:j8 K E (bJ K) tNil au2:=fun R σ H δ η Z Φ Q l s h k=>k.ok [] [] H η l (Ext.refl _ _) .nil h
theorem avB(F:FnOk X.prog X.w X.K X.mg X.base (L2.CX X.prog X.w) k f fd ps (YS X.K c))(hr:Room k X.A)(hg:Gl X x)(hm:X.mg x=some (.ref f))(hk:PySem.W.keepIn X.K (.ref f)=true)(hb:Binds X.K fd ps dsV)(hv:Vals dvs dsV)(hd:∀R η H,bJ X.K R η H dvs dds)
  (ha:PDA X E (e::es) ta da)(hdb:(x==("__debug__" :Str))=false:=by decide)(he:starEach (e::es) X.env=(false,eval e X.env)::starEach es X.env:=by rfl)(hpl:(backTo pos (starEach es X.env)).any (·.1)=false:=by rfl)(tk:TkX X E:=by first | assumption | exact takes0 | exact takes_of rfl rfl rfl rfl):
  PD X E (.Call (.Name x p) (e::es) [] pos) (tCall (YS X.K c) dvs E ta) (dCall c dds da):=⟨pe_call F hr hg hm hk hb hv tk.pass ha.pa hdb he hpl,avk hd ha.so⟩
end
end DL
end
section
namespace DL
open PySem PySem.Spec PyProof.Rows L2
theorem amw{a b:Str}(ha:SOk a)(hb:SOk b)(h:a.length + b.length≤sizeLine):SOk (a ++ b):=by
 refine ⟨?_,?_⟩
 ·show PyData.strOk ⟨a.cps ++ b.cps⟩=true
  have h1:=ha.cp
  have h2:=hb.cp
  unfold PyData.strOk at *
  rw [Array.all_append,h1,h2]
  rfl
 ·show (a.cps ++ b.cps).size≤_
  rw [Array.size_append]
  exact h
theorem anZ{a:Str}{l:List Nat}(ha:SOk a)(h:∀c ∈ l,c ∈ a.cps.toList)(hl:l.length≤sizeLine):SOk ⟨l.toArray⟩:=by
 refine ⟨?_,by show l.toArray.size≤_;simpa using hl⟩
 have h1:=ha.cp
 unfold PyData.strOk at *
 rw [Array.all_eq_true'] at *
 intro c hc
 exact h1 c (Array.mem_toList_iff.mp (h c (by simpa using hc)))
theorem anE{a:Str}{c:Nat}(ha:SOk a)(h:c ∈ a.cps.toList):SOk ⟨#[c]⟩:=
 anZ (l:= [c]) ha (fun d hd=>by rw [List.mem_singleton.mp hd];exact h) (by rw [sizeLine_eq];show 1≤16777216;omega)
mutual
def toPy:D→PyData
 | .non=> .none
 | .bl b=> .bool b
 | .int i=> .int i
 | .str x=> .str x
 | .lst xs=> .list (Pu xs)
 | .tup xs=> .tuple (Pu xs)
 | .ref _=> .none
 | .obj _ _ _=> .none
 | .exc _ _ _=> .none
 | .fn _ _ _=> .none
 | .dct _ _=> .none
 | .ty _=> .none
 | .klst _=> .none
def Pu:List D→List PyData
 | []=> []
 | d::ds=>toPy d::Pu ds
end
mutual
def z9:D→Bool
 | .non=>true
 | .bl _=>true
 | .int _=>true
 | .str _=>true
 | .lst xs=>Yo xs
 | .tup xs=>Yo xs
 | .ref _=>false
 | .obj _ _ _=>false
 | .exc _ _ _=>false
 | .fn _ _ _=>false
 | .dct _ _=>false
 | .ty _=>false
 | .klst _=>false
def Yo:List D→Bool
 | []=>true
 | d::ds=>z9 d && Yo ds
end
def vC(η:Eta):D→D
 | .ref p=>match η p with
  | some (.lst ds)=> .lst ds
  | _=> .ref p
 | d=>d
theorem akF:∀ds:List D,Pu ds=ds.map toPy
 | []=>rfl
 | d::ds=>by rw [Pu,List.map_cons,akF ds]
theorem akX:∀ds:List D,Yo ds=ds.all z9
 | []=>rfl
 | d::ds=>by rw [Yo,List.all_cons,akX ds]
section
variable {K:PySem.W.Frag}{R:Addr→Prop}{η:Eta}{H:Hp}
mutual
theorem ap0:∀(d:D) (v:V),Rep K R η H v d→z9 d=true→Dp K H v (toPy d)∧(toPy d).canLay0=true
 | .non,_,h,_=>by cases h;exact ⟨.non,by simp [toPy,PyData.canLay0]⟩
 | .bl _,_,h,_=>by cases h;exact ⟨.bl _,by simp [toPy,PyData.canLay0]⟩
 | .int _,_,h,_=>by cases h;exact ⟨.int _,by simp [toPy,PyData.canLay0]⟩
 | .str _,_,h,_=>by cases h with | str a=>exact ⟨.str _,by simp [toPy,PyData.canLay0,a.cp]⟩
 | .lst ds,_,h,o=>by
  obtain ⟨a,xs,rfl,hq,rs⟩:=h.sqL
  obtain ⟨h1,h2⟩:=acK ds xs rs (by simpa [z9] using o)
  exact ⟨.lst hq h1,by simpa [toPy,PyData.canLay0] using h2⟩
 | .tup ds,_,h,o=>by
  obtain ⟨a,xs,rfl,hq,rs⟩:=h.sqT
  obtain ⟨h1,h2⟩:=acK ds xs rs (by simpa [z9] using o)
  exact ⟨.tup hq h1,by simpa [toPy,PyData.canLay0] using h2⟩
 | .ref _,_,_,o=>by simp [z9] at o
 | .obj _ _ _,_,_,o=>by simp [z9] at o
 | .exc _ _ _,_,_,o=>by simp [z9] at o
 | .fn _ _ _,_,_,o=>by simp [z9] at o
 | .dct _ _,_,_,o=>by simp [z9] at o
 | .ty _,_,_,o=>by simp [z9] at o
 | .klst _,_,_,o=>by simp [z9] at o
theorem acK:∀(ds:List D) (vs:List V),bJ K R η H vs ds→Yo ds=true→DpAll K H vs (Pu ds)∧PyData.canLayAll0 (Pu ds)=true
 | [],_,h,_=>by cases h;exact ⟨.nil,by simp [Pu,PyData.canLayAll0]⟩
 | d::ds,_,h,o=>by
  cases h with
  | cons a b=>
   simp only [Yo,Bool.and_eq_true] at o
   obtain ⟨h1,h2⟩:=ap0 d _ a o.1
   obtain ⟨h3,h4⟩:=acK ds _ b o.2
   exact ⟨.cons h1 h3,by simp [Pu,PyData.canLayAll0,h2,h4]⟩
end
theorem aoY(η:Eta)(p:Addr):(∃ds,η p=some (.lst ds)∧vC η (.ref p)= .lst ds)∨vC η (.ref p)= .ref p:=by
 cases e:η p with
 | none=>exact .inr (by simp [vC,e])
 | some m=>
  cases m with
  | lst ds=>exact .inl ⟨ds,rfl,by simp [vC,e]⟩
  | _=>exact .inr (by simp [vC,e])
theorem akH{v:V}{d:D}(l:Lk K R η H)(r:Rep K R η H v d)(o:z9 (vC η d)=true):Dp K H v (toPy (vC η d))∧(toPy (vC η d)).canLay0=true:=by
 cases d with
 | ref p=>
  rcases aoY η p with ⟨ds,e,e2⟩ | e2
  ·rw [e2] at o ⊢
   cases r
   obtain ⟨xs,h1,h2⟩:=l.m p _ e
   obtain ⟨h3,h4⟩:=acK ds xs h2 (by simpa [z9] using o)
   exact ⟨.lst (SqL.of h1) h3,by simpa [toPy,PyData.canLay0] using h4⟩
  ·rw [e2] at o;simp [z9] at o
 | _=>exact ap0 _ _ r o
/-- what can be walked as a list or a tuple -/
def asS(η:Eta):D→Option (List D)
 | .lst xs=>some xs
 | .tup xs=>some xs
 | .ref p=>match η p with
  | some (.lst xs)=>some xs
  | _=>none
 | _=>none
theorem at5{p:Addr}{ds:List D}(h:asL η (.ref p)=some ds):η p=some (.lst ds):=by
 cases e:η p with
 | none=>simp [asL,e] at h
 | some m=>
  cases m with
  | lst xs=>simp [asL,e] at h;rw [h]
  | _=>simp [asL,e] at h
theorem auB{p:Addr}{ds:List D}(h:asS η (.ref p)=some ds):η p=some (.lst ds):=by
 cases e:η p with
 | none=>simp [asS,e] at h
 | some m=>
  cases m with
  | lst xs=>simp [asS,e] at h;rw [h]
  | _=>simp [asS,e] at h
theorem adz{v:V}{d:D}{ds:List D}(l:Lk K R η H)(r:Rep K R η H v d)(h:asL η d=some ds):∃a xs,v= .ref a∧Rd H a (.lst xs)∧bJ K R η H xs ds:=by
 cases d with
 | lst xs=>cases h;exact r.rdL
 | ref p=>
  cases r
  obtain ⟨ys,h1,h2⟩:=l.m p _ (at5 h)
  exact ⟨p,ys,rfl, .inl h1,h2⟩
 | _=>cases h
theorem ajh{v:V}{d:D}{ds:List D}(l:Lk K R η H)(r:Rep K R η H v d)(h:asS η d=some ds):∃a xs,v= .ref a∧(SqL K H a xs∨SqT K H a xs)∧bJ K R η H xs ds:=by
 cases d with
 | lst xs=>cases h;obtain ⟨a,xs,e,q,s⟩:=r.sqL;exact ⟨a,xs,e, .inl q,s⟩
 | tup xs=>cases h;obtain ⟨a,xs,e,q,s⟩:=r.sqT;exact ⟨a,xs,e, .inr q,s⟩
 | ref p=>
  cases r
  obtain ⟨ys,h1,h2⟩:=l.m p _ (auB h)
  exact ⟨p,ys,rfl, .inl (SqL.of h1),h2⟩
 | _=>cases h
/-- a new list,a new tuple -/
theorem acG{vs:List V}{ds:List D}{Φ:DK}{Q:VK}(l:Lk K R η H)(r:bJ K R η H vs ds)(h:Φ (.lst ds) η)(k:∀v d H' η',Lk K R η' H'→Ext η H η' H'→Rep K R η' H' v d→Φ d η'→Q v H'):∀p,H p=none→Q (.ref p) (upd H p (.lst vs)):=fun p hp=>
 k _ _ _ η (l.new hp) (Ext.new hp) (.lst (.inl upd_same) (l.free hp) (l.nr hp) (r.up (Ext.new hp))) h
theorem apq{vs:List V}{ds:List D}{Φ:DK}{Q:VK}(l:Lk K R η H)(r:bJ K R η H vs ds)(h:∀p,η p=none→Φ (.ref p) (Ka η p (.lst ds)))(k:∀v d H' η',Lk K R η' H'→Ext η H η' H'→Rep K R η' H' v d→Φ d η'→Q v H'):∀p,H p=none→Q (.ref p) (upd H p (.lst vs)):=fun p hp=>
 k _ _ _ _ (l.newM (m:= .lst ds) hp ⟨vs,upd_same,r.up (Ext.newM hp)⟩) (Ext.newM hp) (.ref p) (h p (l.free hp))
theorem anM{vs:List V}{ds:List D}{Φ:DK}{Q:VK}(l:Lk K R η H)(r:bJ K R η H vs ds)(h:Φ (.tup ds) η)(k:∀v d H' η',Lk K R η' H'→Ext η H η' H'→Rep K R η' H' v d→Φ d η'→Q v H'):∀p,H p=none→Q (.ref p) (upd H p (.tup vs)):=fun p hp=>
 k _ _ _ η (l.new hp) (Ext.new hp) (.tup (.inl upd_same) (l.free hp) (l.nr hp) (r.up (Ext.new hp))) h
end
def Gr(a b:D):Bool:=PyData.eqv (toPy a) (toPy b)
def aAf(a b:D):Prop:=min (toPy a).depth (toPy b).depth≤60
theorem OpR.or{X:Cx}{f:Value→Value→Sem Value}{r r':R2}(h:OpR X f r)(h':OpR X f r'):OpR X f (fun x y H Q=>r x y H Q∨r' x y H Q):=by
 intro pins s σ H x y v u Q I rx ry q
 rcases q with q | q
 ·exact h pins s σ H x y v u Q I rx ry q
 ·exact h' pins s σ H x y v u Q I rx ry q
section
variable {X:Cx}
def rEqG(K:PySem.W.Frag):R2:=fun x y H Q=> ∃d e,Dp K H x d∧Dp K H y e∧d.canLay0=true∧e.canLay0=true∧min d.depth e.depth≤60∧Q (.bl (PyData.eqv d e)) H
def ayv(K:PySem.W.Frag):R2:=fun x y H Q=> ∃d e,Dp K H x d∧Dp K H y e∧d.canLay0=true∧e.canLay0=true∧min d.depth e.depth≤60∧Q (.bl (!PyData.eqv d e)) H
theorem op_eqG(hu:X.A.units + 64 < cLine):OpR X (compareOp .Eq) (rEqG X.K):=by
 intro pins s σ H x y v u Q I rx ry h
 obtain ⟨d,e,hd,he,sd,se,hm,q⟩:=h
 obtain ⟨as,r1⟩:=Dp.reads I d x v hd rx
 obtain ⟨bs,r2⟩:=Dp.reads I e y u he ry
 exact SeqAt.compareEq_reads r1 r2 sd se (by omega) ⟨.bl _,H,I,rfl,q⟩
theorem azk(hu:X.A.units + 64 < cLine):OpR X (compareOp .NotEq) (ayv X.K):=by
 intro pins s σ H x y v u Q I rx ry h
 obtain ⟨d,e,hd,he,sd,se,hm,q⟩:=h
 obtain ⟨as,r1⟩:=Dp.reads I d x v hd rx
 obtain ⟨bs,r2⟩:=Dp.reads I e y u he ry
 exact SeqAt.compareNe_reads r1 r2 sd se (by omega) ⟨.bl _,H,I,rfl,q⟩
def oEq:DR2:=fun x y η Φ=>z9 (vC η x)=true∧z9 (vC η y)=true∧aAf (vC η x) (vC η y)∧Φ (.bl (Gr (vC η x) (vC η y))) η
def oNe:DR2:=fun x y η Φ=>z9 (vC η x)=true∧z9 (vC η y)=true∧aAf (vC η x) (vC η y)∧Φ (.bl (!Gr (vC η x) (vC η y))) η
theorem aBb(hu:X.A.units + 64 < cLine):OpD X (compareOp .Eq) (rEqG X.K) oEq:=⟨op_eqG hu,fun R η H x y dx dy Φ Q l rx ry h k=>by
 obtain ⟨o1,o2,o3,h⟩:=h
 obtain ⟨h1,h2⟩:=akH l rx o1
 obtain ⟨h3,h4⟩:=akH l ry o2
 exact ⟨_,_,h1,h3,h2,h4,o3,k _ _ H η l (Ext.refl _ _) (.bl _) h⟩⟩
theorem aCk(hu:X.A.units + 64 < cLine):OpD X (compareOp .NotEq) (ayv X.K) oNe:=⟨azk hu,fun R η H x y dx dy Φ Q l rx ry h k=>by
 obtain ⟨o1,o2,o3,h⟩:=h
 obtain ⟨h1,h2⟩:=akH l rx o1
 obtain ⟨h3,h4⟩:=akH l ry o2
 exact ⟨_,_,h1,h3,h2,h4,o3,k _ _ H η l (Ext.refl _ _) (.bl _) h⟩⟩
def oI(C:Int→Int→Prop)(g:Int→Int→D):DR2:=fun x y η Φ=> ∃i j,x= .int i∧y= .int j∧C i j∧Φ (g i j) η
def CT:Int→Int→Prop:=fun _ _=>True
theorem aml{K:PySem.W.Frag}{C:Int→Int→Prop}{g:Int→Int→V}{gd:Int→Int→D}(hg:∀i j R η H,Rep K R η H (g i j) (gd i j)):agf K (rI C g) (oI C gd):=fun R η H x y dx dy Φ Q l rx ry h k=>by
 obtain ⟨i,j,rfl,rfl,hc,h⟩:=h
 cases rx
 cases ry
 exact ⟨i,j,rfl,rfl,hc,k _ _ H η l (Ext.refl _ _) (hg i j R η H) h⟩
theorem ajl{f:Value→Value→Sem Value}{g:Int→Int→V}(h:OpR X f (rI0 g)):OpR X f (rI CT g):=fun pins s σ H x y v u Q I rx ry q=>by
 obtain ⟨i,j,e1,e2,_,q⟩:=q
 exact h pins s σ H x y v u Q I rx ry ⟨i,j,e1,e2,q⟩
theorem aoe:OpD X (binaryOp .FloorDiv) (rI CDivW fun i j=> .int (i / j)) (oI CDivW fun i j=> .int (i / j)):=⟨op_fdivW,aml fun _ _ _ _ _=> .int _⟩
theorem YT:OpD X (binaryOp .Mod) (rI (fun _ j=>0 < j) fun i j=> .int (i % j)) (oI (fun _ j=>0 < j) fun i j=> .int (i % j)):=⟨op_mod,aml fun _ _ _ _ _=> .int _⟩
theorem amb:OpD X (binaryOp .Pow) (rI CPow fun i j=> .int (i ^ j.toNat)) (oI CPow fun i j=> .int (i ^ j.toNat)):=⟨op_pow,aml fun _ _ _ _ _=> .int _⟩
def anw(i j:Int):Prop:=CMul i j∨CMulW i j
theorem auL:OpR X (binaryOp .Mult) (rI anw fun i j=> .int (i * j)):=fun pins s σ H x y v u Q I rx ry q=>by
 obtain ⟨i,j,e1,e2,hc,q⟩:=q
 rcases hc with hc | hc
 ·exact op_mul pins s σ H x y v u Q I rx ry ⟨i,j,e1,e2,hc,q⟩
 ·exact op_mulW pins s σ H x y v u Q I rx ry ⟨i,j,e1,e2,hc,q⟩
def aCE:DR2:=oI anw fun i j=> .int (i * j)
theorem adx:OpD X (binaryOp .Mult) (rI anw fun i j=> .int (i * j)) aCE:=⟨auL,aml fun _ _ _ _ _=> .int _⟩
theorem arv:OpD X (compareOp .Lt) (rI CT fun i j=> .bl (decide (i < j))) (oI CT fun i j=> .bl (decide (i < j))):=⟨ajl op_lt,aml fun _ _ _ _ _=> .bl _⟩
theorem awH:OpD X (compareOp .Gt) (rI CT fun i j=> .bl (decide (j < i))) (oI CT fun i j=> .bl (decide (j < i))):=⟨ajl op_gt,aml fun _ _ _ _ _=> .bl _⟩
theorem aBN:OpD X (compareOp .GtE) (rI CT fun i j=> .bl (decide (j≤i))) (oI CT fun i j=> .bl (decide (j≤i))):=⟨ajl op_ge,aml fun _ _ _ _ _=> .bl _⟩
def aBT:D→Eta→DK→Prop:=fun x η Φ=> ∃i,x= .int i∧Φ (.int (-i)) η
def dUn(o:D→Eta→DK→Prop)(de:DE):DE:=fun Z δ η Φ=>de Z δ η fun x η1=>o x η1 Φ
theorem aAD{E:XK}{a:Expr}{ta:TE}{da:DE}{pos:Pos}(ha:PD X E a ta da):PD X E (.UnaryOp .USub a pos) (tUn (rU fun i=> .int (-i)) ta) (dUn aBT da):=⟨pe_un un_neg ha.pe,fun R σ H δ η Z Φ Q l s h k=>by
 refine ha.so R σ H δ η Z _ _ l s h (k.to fun v1 d1 H1 η1 l1 e1 r1 h1=> ?_)
 obtain ⟨i,rfl,h1⟩:=h1
 cases r1
 exact ⟨i,rfl,k.ok _ _ H1 η1 l1 e1 (.int _) h1⟩⟩
theorem Inv.lstR{pins:List (Addr × Obj)}{σ:L2.St}{H:Hp}{s:Shared}{l:Addr}{xs:List V}(I:Inv X pins σ H s)(hH:Rd H l (.lst xs)):xs.length≤sizeLine∧∃(its:List Value) (n:Nat),Vals xs its∧xs.length=its.length∧s.heap.get? l=some {cls:= .type "list",data:= .seq its.toArray n}:=by
 obtain ⟨z,its,n,r,e⟩:=hH.ok I.hok
 exact ⟨z,its,n,r,r.length,e⟩
def awT:R2:=fun x y H Q=> ∃l b xs zs,x= .ref l∧y= .ref b∧Rd H l (.lst xs)∧Rd H b (.lst zs)∧xs.length + zs.length≤sizeLine∧∀p,H p=none→Q (.ref p) (upd H p (.lst (xs ++ zs)))
theorem au4:OpR X (binaryOp .Add) awT:=by
 intro pins s σ H x y v u Q I rx ry h
 obtain ⟨l,b,xs,zs,rfl,rfl,hH,hB,hz,q⟩:=h
 cases rx
 cases ry
 obtain ⟨z,its,n,r,hl,e⟩:=Inv.lstR I hH
 obtain ⟨z2,its2,n2,r2,hl2,e2⟩:=Inv.lstR I hB
 refine PySem.P.add_list e e2 ?_ (by rw [List.size_toArray,List.size_toArray];omega)
 have ea:its.toArray ++ its2.toArray=(its ++ its2).toArray:=by simp
 rw [ea]
 exact ⟨.ref _,_,I.lnew (t':=s.toks) (r.append r2) (by rw [List.length_append];omega),rfl,q _ I.fresh⟩
def av9:R2:=fun x y H Q=> ∃i j,x= .str i∧y= .str j∧i.length + j.length≤sizeLine∧Q (.str (i ++ j)) H
def ain(K:PySem.W.Frag):R2:=fun x y H Q=>(((rI CT fun i j=> .int (i + j)) x y H Q∨av9 x y H Q)∨awT x y H Q)∨rCatA K x y H Q
theorem anG:OpR X (binaryOp .Add) (ain X.K):=OpR.or (OpR.or (OpR.or (ajl op_add) op_add_str) au4) op_catA
def arR:DR2:=fun x y η Φ=>match x,y with
 | .int i, .int j=>Φ (.int (i + j)) η
 | .str a, .str b=>a.length + b.length≤sizeLine∧Φ (.str (a ++ b)) η
 | .tup a, .tup b=>a.length + b.length≤sizeLine∧Φ (.tup (a ++ b)) η
 | .lst a, .lst b=>a.length + b.length≤sizeLine∧Φ (.lst (a ++ b)) η
 | x,y=> ∃a b,asL η x=some a∧asL η y=some b∧a.length + b.length≤sizeLine∧Φ (.lst (a ++ b)) η
theorem aqT{K:PySem.W.Frag}{R:Addr→Prop}{η:Eta}{H:Hp}{x y:V}{dx dy:D}{Φ:DK}{Q:VK}(l:Lk K R η H)(rx:Rep K R η H x dx)(ry:Rep K R η H y dy)(h:∃a b,asL η dx=some a∧asL η dy=some b∧a.length + b.length≤sizeLine∧Φ (.lst (a ++ b)) η)
  (k:∀v d H' η',Lk K R η' H'→Ext η H η' H'→Rep K R η' H' v d→Φ d η'→Q v H'):ain K x y H Q:=by
 obtain ⟨a,b,ha,hb,hl,h⟩:=h
 obtain ⟨p,xs,rfl,h1,h2⟩:=adz l rx ha
 obtain ⟨q,ys,rfl,h3,h4⟩:=adz l ry hb
 exact .inl (.inr ⟨p,q,xs,ys,rfl,rfl,h1,h3,by rw [h2.length,h4.length];exact hl,acG l (h2.append h4) h k⟩)
theorem axt:OpD X (binaryOp .Add) (ain X.K) arR:=⟨anG,fun R η H x y dx dy Φ Q l rx ry h k=>by
 unfold arR at h
 split at h
 ·cases rx;cases ry
  exact .inl (.inl (.inl ⟨_,_,rfl,rfl,True.intro,k _ _ H η l (Ext.refl _ _) (.int _) h⟩))
 ·cases rx with
  | str o1=>
   cases ry with
   | str o2=>exact .inl (.inl (.inr ⟨_,_,rfl,rfl,h.1,k _ _ H η l (Ext.refl _ _) (.str (amw o1 o2 h.1)) h.2⟩))
 ·obtain ⟨p,xs,rfl,h1,h2⟩:=rx.sqT
  obtain ⟨q,ys,rfl,h3,h4⟩:=ry.sqT
  refine .inr ⟨p,q,xs,ys,rfl,rfl,h1,h3,by rw [h2.length,h4.length];exact h.1,fun e=> ?_,fun e1 e=> ?_,fun _ _=>anM l (h2.append h4) h.2 k⟩
  ·have:=h2.nil_iff.mp e
   subst this
   exact k _ _ H η l (Ext.refl _ _) ry h.2
  ·have:=h4.nil_iff.mp e
   subst this
   rw [List.append_nil] at h
   exact k _ _ H η l (Ext.refl _ _) rx h.2
 ·exact aqT l rx ry ⟨_,_,rfl,rfl,h⟩ k
 ·exact aqT l rx ry h k⟩
def azQ(K:PySem.W.Frag):R2:=rIx K
def oIx:DR2:=fun x y η Φ=>match x,y with
 | .str a, .int i=> ∃c,atI a.cps.toList i=some c∧Φ (.str ⟨#[c]⟩) η
 | x, .int i=> ∃xs d,asS η x=some xs∧atI xs i=some d∧Φ d η
 | _,_=>False
theorem bJ.atI{K:PySem.W.Frag}{R:Addr→Prop}{η:Eta}{H:Hp}{vs:List V}{ds:List D}{i:Int}{d:D}(r:bJ K R η H vs ds)(h:L2.atI ds i=some d):∃v,L2.atI vs i=some v∧Rep K R η H v d:=by
 unfold L2.atI at *
 rw [r.length]
 cases e:ixN ds.length i with
 | none=>rw [e] at h;cases h
 | some j=>
  rw [e] at h
  obtain ⟨v,h1,h2⟩:=r.get (i:=j) (d:=d) h
  exact ⟨v,h1,h2⟩
theorem ai2{α:Type}{xs:List α}{i:Int}{x:α}(h:L2.atI xs i=some x):x ∈ xs:=by
 obtain ⟨j,_,h,_⟩:=atI_get h
 exact List.mem_of_getElem? h
theorem aDe{K:PySem.W.Frag}{R:Addr→Prop}{η:Eta}{H:Hp}{x:V}{dx:D}{i:Int}{Φ:DK}{Q:VK}(l:Lk K R η H)(rx:Rep K R η H x dx)(h:∃xs d,asS η dx=some xs∧L2.atI xs i=some d∧Φ d η)
  (k:∀v d H' η',Lk K R η' H'→Ext η H η' H'→Rep K R η' H' v d→Φ d η'→Q v H'):azQ K x (.int i) H Q:=by
 obtain ⟨xs,d,h1,h2,h⟩:=h
 obtain ⟨a,vs,rfl,h3,h4⟩:=ajh l rx h1
 obtain ⟨v,h5,h6⟩:=h4.atI h2
 rcases h3 with h3 | h3
 ·exact .inl ⟨a,vs,i,v,rfl,rfl,h3,h5,k _ _ H η l (Ext.refl _ _) h6 h⟩
 ·exact .inr (.inl ⟨a,vs,i,v,rfl,rfl,h3,h5,k _ _ H η l (Ext.refl _ _) h6 h⟩)
theorem ixd:IxD X (azQ X.K) oIx:=⟨ix_seq,fun R η H x y dx dy Φ Q l rx ry h k=>by
 unfold oIx at h
 split at h
 ·obtain ⟨c,hc,h⟩:=h
  cases rx with
  | str o=>
   cases ry
   exact .inr (.inr ⟨_,_,c,rfl,rfl,o.len,hc,k _ _ H η l (Ext.refl _ _) (.str (anE o (ai2 hc))) h⟩)
 ·cases ry
  exact aDe l rx h k
 ·exact h.elim⟩
def cutD(xs:List D)(lo hi:Option Int):List D:=(xs.drop (HT.sIx xs.length 0 lo)).take (HT.sIx xs.length xs.length hi - HT.sIx xs.length 0 lo)
def azp(K:PySem.W.Frag):RSl:=fun x lo hi H Q=>(rSlL K x lo hi H Q∨rSlA K x lo hi H Q)∨∃z,x= .str z∧z.length≤sizeLine∧Q (.str (cutS z lo hi)) H
def oSl:DSl:=fun x lo hi η Φ=>match x with
 | .str z=>Φ (.str (cutS z lo hi)) η
 | .tup xs=>Φ (.tup (cutD xs lo hi)) η
 | .lst xs=>Φ (.lst (cutD xs lo hi)) η
 | .klst xs=>Φ (.lst (cutD xs lo hi)) η
 | x=> ∃xs,asL η x=some xs∧Φ (.lst (cutD xs lo hi)) η
theorem bJ.cut{K:PySem.W.Frag}{R:Addr→Prop}{η:Eta}{H:Hp}{vs:List V}{ds:List D}{lo hi:Option Int}(r:bJ K R η H vs ds):bJ K R η H (cutV vs lo hi) (cutD ds lo hi):=by
 unfold cutV cutD
 rw [r.length]
 exact (r.drop _).take _
theorem asJ{K:PySem.W.Frag}{R:Addr→Prop}{η:Eta}{H:Hp}{x:V}{dx:D}{lo hi:Option Int}{Φ:DK}{Q:VK}(l:Lk K R η H)(rx:Rep K R η H x dx)(h:∃xs,asL η dx=some xs∧Φ (.lst (cutD xs lo hi)) η)
  (k:∀v d H' η',Lk K R η' H'→Ext η H η' H'→Rep K R η' H' v d→Φ d η'→Q v H'):azp K x lo hi H Q:=by
 obtain ⟨xs,h1,h⟩:=h
 obtain ⟨a,vs,rfl,h3,h4⟩:=adz l rx h1
 exact .inl (.inl ⟨a,vs,rfl, .inl h3,acG l h4.cut h k⟩)
theorem apk(z:Str)(lo hi:Option Int):∃l:List Nat,cutS z lo hi=⟨l.toArray⟩∧(∀c ∈ l,c ∈ z.cps.toList)∧l.length≤z.length:=by
 refine ⟨(z.cps.toList.drop (HT.sIx z.length 0 lo)).take (HT.sIx z.length z.length hi - HT.sIx z.length 0 lo),rfl,fun c hc=>List.mem_of_mem_drop (List.mem_of_mem_take hc),?_⟩
 rw [List.length_take,List.length_drop]
 show _≤z.cps.size
 simp only [Array.length_toList]
 omega
theorem sld:SlD X (azp X.K) oSl:=⟨sl_list.or sl_tupA |>.or sl_str,fun R η H x dx lo hi Φ Q l rx h k=>by
 unfold oSl at h
 split at h
 ·cases rx with
  | str o=>
   refine .inr ⟨_,rfl,o.len,k _ _ H η l (Ext.refl _ _) (.str ?_) h⟩
   obtain ⟨l,e,h1,h2⟩:=apk _ lo hi
   rw [e]
   exact anZ o h1 (Nat.le_trans h2 o.len)
 ·obtain ⟨a,vs,rfl,h3,h4⟩:=rx.sqT
  refine .inl (.inr ⟨a,vs,rfl,h3,fun hw=> ?_,fun _=>anM l h4.cut h k⟩)
  refine k _ _ H η l (Ext.refl _ _) rx ?_
  unfold cutD at h
  rw [← h4.length,hw.1,hw.2,h4.length,List.drop_zero,Nat.sub_zero,List.take_length] at h
  exact h
 ·exact asJ l rx ⟨_,rfl,h⟩ k
 ·cases rx with
  | klst a b r c=>exact .inl (.inl ⟨_,_,rfl, .inl a,acG l c.cut h k⟩)
  | klstK a1 a2 a3 a4 a5 a6 c=>exact .inl (.inl ⟨_,_,rfl, .inr ⟨_,_,_,a1,a2,a3,a4,a5,a6⟩,acG l c.cut h k⟩)
 ·exact asJ l rx h k⟩
def aDz(K:PySem.W.Frag):R2:=fun x y H Q=> ∃d ds,Dp K H x d∧(Dp K H y (.list ds)∨Dp K H y (.tuple ds))∧d.canLay0=true∧PyData.canLayAll0 ds=true∧min (PyData.depthAll ds) d.depth≤60∧Q (.bl (ds.any fun z=>PyData.eqv z d)) H
theorem ayC(hu:X.A.units + 64 < cLine):OpR X (compareOp .In) (aDz X.K):=by
 intro pins s σ H x y v u Q I rx ry h
 obtain ⟨d,ds,hd,he,sd,se,hm,q⟩:=h
 obtain ⟨as,r1⟩:=Dp.reads I d x v hd rx
 rcases he with he | he
 ·obtain ⟨bs,r2⟩:=Dp.reads I (.list ds) y u he ry
  exact SeqAt.in_list_reads r2 r1 se sd (by omega) ⟨.bl _,H,I,rfl,q⟩
 ·obtain ⟨bs,r2⟩:=Dp.reads I (.tuple ds) y u he ry
  exact SeqAt.in_tuple_reads r2 r1 se sd (by omega) ⟨.bl _,H,I,rfl,q⟩
def aCJ:R2:=fun x y H Q=> ∃(c:Nat) (z:Str),x= .str ⟨#[c]⟩∧y= .str z∧Q (.bl (decide (c ∈ z.cps.toList))) H
def aBe(K:PySem.W.Frag):R2:=fun x y H Q=>aDz K x y H Q∨aCJ x y H Q
def dIn(x:D)(xs:List D):Bool:=xs.any fun z=>Gr z x
def aoO(neg:Bool):DR2:=fun x y η Φ=>match y with
 | .str z=> ∃c,x= .str ⟨#[c]⟩∧Φ (.bl (neg ^^ decide (c ∈ z.cps.toList))) η
 | y=> ∃xs,asS η y=some xs∧z9 (vC η x)=true∧Yo xs=true∧min (PyData.depthAll (Pu xs)) (toPy (vC η x)).depth≤60∧Φ (.bl (neg ^^ dIn (vC η x) xs)) η
theorem axA(x:D)(xs:List D):dIn x xs=(Pu xs).any fun z=>PyData.eqv z (toPy x):=by
 rw [akF,List.any_map];rfl
theorem ayt{K:PySem.W.Frag}{R:Addr→Prop}{η:Eta}{H:Hp}{v:V}{d:D}{ds:List D}(l:Lk K R η H)(r:Rep K R η H v d)(h:asS η d=some ds)(o:Yo ds=true):(Dp K H v (.list (Pu ds))∨Dp K H v (.tuple (Pu ds)))∧PyData.canLayAll0 (Pu ds)=true:=by
 obtain ⟨a,xs,rfl,h1,h2⟩:=ajh l r h
 obtain ⟨h3,h4⟩:=acK ds xs h2 o
 rcases h1 with h1 | h1
 ·exact ⟨.inl (.lst h1 h3),h4⟩
 ·exact ⟨.inr (.tup h1 h3),h4⟩
theorem aCL{K:PySem.W.Frag}{R:Addr→Prop}{η:Eta}{H:Hp}{x y:V}{dx dy:D}{neg:Bool}{Φ:DK}(l:Lk K R η H)(rx:Rep K R η H x dx)(ry:Rep K R η H y dy)
  (h:∃xs,asS η dy=some xs∧z9 (vC η dx)=true∧Yo xs=true∧min (PyData.depthAll (Pu xs)) (toPy (vC η dx)).depth≤60∧Φ (.bl (neg ^^ dIn (vC η dx) xs)) η):
  ∃d ds,Dp K H x d∧(Dp K H y (.list ds)∨Dp K H y (.tuple ds))∧d.canLay0=true∧PyData.canLayAll0 ds=true∧min (PyData.depthAll ds) d.depth≤60∧Φ (.bl (neg ^^ (ds.any fun z=>PyData.eqv z d))) η:=by
 obtain ⟨xs,h1,h2,h3,h4,h⟩:=h
 obtain ⟨h5,h6⟩:=akH l rx h2
 obtain ⟨h7,h8⟩:=ayt l ry h1 h3
 exact ⟨_,_,h5,h7,h6,h8,h4,by rw [← axA];exact h⟩
theorem aBh(hu:X.A.units + 64 < cLine):OpD X (compareOp .In) (aBe X.K) (aoO false):=⟨OpR.or (ayC hu) op_in_sign,fun R η H x y dx dy Φ Q l rx ry h k=>by
 unfold aoO at h
 split at h
 ·obtain ⟨c,rfl,h⟩:=h
  cases rx;cases ry
  exact .inr ⟨c,_,rfl,rfl,k _ _ H η l (Ext.refl _ _) (.bl _) (by simpa using h)⟩
 ·obtain ⟨d,ds,h1,h2,h3,h4,h5,h⟩:=aCL l rx ry h
  exact .inl ⟨d,ds,h1,h2,h3,h4,h5,k _ _ H η l (Ext.refl _ _) (.bl _) (by simpa using h)⟩⟩
def aw8(K:PySem.W.Frag):RCl:=fun xs H Q=>(∃p ys,xs= [.ref p]∧(SqL K H p ys∨SqT K H p ys)∧Q (.int ys.length) H)∨∃z,xs= [.str z]∧z.length≤sizeLine∧Q (.int z.length) H
def aqM:DCl:=fun ds η Φ=>match ds with
 | [.str z]=>Φ (.int z.length) η
 | [x]=> ∃xs,asS η x=some xs∧Φ (.int xs.length) η
 | _=>False
theorem ayl:ClD X (.builtin "len") (aw8 X.K) aqM:=⟨call_len_seq.or call_len_str,fun R η H xs ds Φ Q l r h k=>by
 unfold aqM at h
 split at h
 ·cases r with
  | cons r1 r2=>
   cases r2
   cases r1 with
   | str o=>exact .inr ⟨_,rfl,o.len,k _ _ H η l (Ext.refl _ _) (.int _) h⟩
 ·cases r with
  | cons r1 r2=>
   cases r2
   obtain ⟨xs,h1,h⟩:=h
   obtain ⟨a,vs,rfl,h2,h3⟩:=ajh l r1 h1
   exact .inl ⟨a,vs,rfl,h2,k _ _ H η l (Ext.refl _ _) (.int _) (by rw [h3.length];exact h)⟩
 ·exact h.elim⟩
def b2I(b:Bool):Int:=if b then 1 else 0
def ayf:DCl:=fun ds η Φ=>match ds with
 | [.int i]=>Φ (.int i) η
 | [.bl k]=>Φ (.int (b2I k)) η
 | _=>False
def aD7:RCl:=fun xs H Q=>(∃i,xs= [.int i]∧Q (.int i) H)∨∃k,xs= [.bl k]∧Q (.int (if k then 1 else 0)) H
theorem Xj:ClD X (.type "int") aD7 ayf:=⟨call_int1,fun R η H xs ds Φ Q l r h k=>by
 unfold ayf at h
 split at h
 ·cases r with
  | cons r1 r2=>cases r2;cases r1;exact .inl ⟨_,rfl,k _ _ H η l (Ext.refl _ _) (.int _) h⟩
 ·cases r with
  | cons r1 r2=>cases r2;cases r1;exact .inr ⟨_,rfl,k _ _ H η l (Ext.refl _ _) (.int _) h⟩
 ·exact h.elim⟩
def apy(K:PySem.W.Frag):RCl:=fun xs H Q=> ∃p ys,xs= [.ref p]∧(SqL K H p ys∨SqT K H p ys)∧∀l,H l=none→Q (.ref l) (upd H l (.lst ys))
def asW:DCl:=fun ds η Φ=> ∃x xs,ds= [x]∧asS η x=some xs∧Φ (.lst xs) η
theorem avT:ClD X (.type "list") (apy X.K) asW:=⟨call_list_of,fun R η H xs ds Φ Q l r h k=>by
 obtain ⟨x,ys,rfl,h1,h⟩:=h
 cases r with
 | cons r1 r2=>
  cases r2
  obtain ⟨a,vs,rfl,h2,h3⟩:=ajh l r1 h1
  exact ⟨a,vs,rfl,h2,acG l h3 h k⟩⟩
def azj:DCl:=fun ds η Φ=> ∃(x:D) (bs:List Bool),ds= [x]∧asL η x=some (bs.map D.bl)∧Φ (.bl (bs.all id)) η
theorem ayK(hc:X.calm=true):ClD X (.builtin "all") (rAll X.K) azj:=⟨cr_all hc,fun R η H xs ds Φ Q l r h k=>by
 obtain ⟨x,bs,rfl,h1,h⟩:=h
 cases r with
 | cons r1 r2=>
  cases r2
  obtain ⟨a,vs,rfl,h2,h3⟩:=adz l r1 h1
  exact ⟨a,bs,rfl,by rw [← h3.bls];exact .inl h2,k _ _ H η l (Ext.refl _ _) (.bl _) h⟩⟩
def tyN(η:Eta):D→Option String
 | .non=>some "NoneType"
 | .bl _=>some "bool"
 | .int _=>some "int"
 | .str _=>some "str"
 | .lst _=>some "list"
 | .tup _=>some "tuple"
 | .dct _ _=>some "dict"
 | .ref p=>match η p with
  | some (.lst _)=>some "list"
  | some (.dct _ _)=>some "dict"
  | _=>none
 | _=>none
def qO(a n:String):Bool:=a==n || (a=="bool" && n=="int")
def rN:List String:= ["int","bool","str","list","tuple","dict"]
theorem aoc:∀a ∈ "NoneType" ::rN,∀n ∈ rN,kitB a n=some (qO a n):=by decide +kernel
theorem arC{K:PySem.W.Frag}{R:Addr→Prop}{η:Eta}{H:Hp}{v:V}{d:D}{a:String}(l:Lk K R η H)(r:Rep K R η H v d)(h:tyN η d=some a):TyX K H v (.type a)∧a ∈ "NoneType" ::rN:=by
 cases r with
 | non=>cases h;exact ⟨.base .non,by decide⟩
 | bl b=>cases h;exact ⟨.base (.bl b),by decide⟩
 | int b=>cases h;exact ⟨.base (.int b),by decide⟩
 | str o=>cases h;exact ⟨.base (.str _),by decide⟩
 | ty n=>cases h
 | obj _ _ _ _ _=>cases h
 | exc _ _ _=>cases h
 | fn _ _=>cases h
 | klst _ _ _ _=>cases h
 | klstK _ _ _ _ _ _ _=>cases h
 | lst q _ _ _=>cases h;rcases q with q | ⟨o,q⟩;exact ⟨.base (.lst q),by decide⟩;exact ⟨.base (.frz q),by decide⟩
 | tup q _ _ _=>cases h;rcases q with q | ⟨o,q⟩;exact ⟨.base (.tup q),by decide⟩;exact ⟨.fTuple q,by decide⟩
 | tupK a1 a2 a3 a4 a5 a6=>cases h;exact ⟨.kTuple a1 a2,by decide⟩
 | dct q _ _ _ _=>cases h;exact ⟨.fDict q,by decide⟩
 | ref p=>
  cases e:η p with
  | none=>simp [tyN,e] at h
  | some m=>
   cases m with
   | lst ds=>
    simp [tyN,e] at h
    subst h
    obtain ⟨xs,q,_⟩:=l.m p _ e
    exact ⟨.base (.lst q),by decide⟩
   | dct ks ds=>
    simp [tyN,e] at h
    subst h
    obtain ⟨xs,q,_⟩:=l.m p _ e
    exact ⟨.base (.dK q),by decide⟩
   | ins C ns ds=>simp [tyN,e] at h
def aw5(K:PySem.W.Frag):RCl:=fun xs H Q=> ∃(x:V) (tp:Addr) (cs:List V) (t:Value) (us:List Value) (b:Bool),xs= [x, .ref tp]∧Rd H tp (.tup cs)∧Paired ClsV cs us∧TyX K H x t∧PySem.W.kitAny K t us=some b∧Q (.bl b) H
theorem aoV:CallR X (.builtin "isinstance") (aw5 X.K):=by
 intro pins s σ H xs us Q I r h
 obtain ⟨x,tp,cs,t,ws,b,rfl,hT,k,ty,e,q⟩:=h
 obtain ⟨u1,u2,rfl,r1,r2⟩:=vals2 r
 cases (show u2=Value.ref tp from r2)
 obtain ⟨P,Z,p,hx⟩:=kit_of I r1 ty
 obtain ⟨_,its,rv,o,h1,h2,n,h3⟩:=(show ObjOk X.prog X.w H s.heap tp (.tup cs) from hT.ok I.hok)
 have e3:=ClsV.all k rv
 subst e3
 obtain ⟨oc,od,dt,sl⟩:=o
 simp only at h2 h3
 subst h2 h3
 exact PySem.W.kia_tup Z I.kIn p h1 e hx fun tk=>⟨.bl b,H,I.tok tk,rfl,q⟩
def aw3(K:PySem.W.Frag):RCl:=fun xs H Q=>(rIsi K xs H Q∨aw5 K xs H Q)∨rIsiK K xs H Q
def avy:DCl:=fun ds η Φ=>match ds with
 | [x, .ty n]=> ∃a,tyN η x=some a∧rN.contains n=true∧Φ (.bl (qO a n)) η
 | [x, .tup ts]=> ∃(a:String) (ns:List String),tyN η x=some a∧ts=ns.map D.ty∧(ns.all fun n=>rN.contains n)=true∧Φ (.bl (ns.any (qO a))) η
 | _=>False
theorem adE{K:PySem.W.Frag}{a:String}(ha:a ∈ "NoneType" ::rN):∀ {ns:List String},(ns.all fun n=>rN.contains n)=true→PySem.W.kitAny K (.type a) (ns.map Value.type)=some (ns.any (qO a))
 | [],_=>kitAny_nil
 | n::ns,h=>by
  rw [List.all_cons,Bool.and_eq_true] at h
  have h1:=aoc a ha n (List.contains_iff_mem.mp h.1)
  rw [List.map_cons,List.any_cons]
  refine kitAny_cons (kit_ty h1) (fun e=> ?_) fun e=> ?_
  ·rw [e,Bool.false_or];exact adE ha h.2
  ·rw [e,Bool.true_or]
theorem agO{K:PySem.W.Frag}{R:Addr→Prop}{η:Eta}{H:Hp}:∀ {ns:List String} {vs:List V},bJ K R η H vs (ns.map D.ty)→Paired ClsV vs (ns.map Value.type)
 | [],_,h=>by cases h;exact .nil
 | n::ns,_,h=>by
  cases h with
  | cons a b=>cases a;exact .cons (.ty n) (agO b)
theorem axJ:ClD X (.builtin "isinstance") (aw3 X.K) avy:=⟨(call_isi.or aoV).or call_isiK,fun R η H xs ds Φ Q l r h k=>by
 unfold avy at h
 split at h
 ·obtain ⟨a,h1,h2,h⟩:=h
  cases r with
  | cons r1 r2=>
   cases r2 with
   | cons r2 r3=>
    cases r3
    cases r2
    obtain ⟨h3,h4⟩:=arC l r1 h1
    exact .inl (.inl ⟨_,_,_,_,_,rfl, .ty _,h3,kit_ty (aoc a h4 _ (List.contains_iff_mem.mp h2)),k _ _ H η l (Ext.refl _ _) (.bl _) h⟩)
 ·obtain ⟨a,ns,h1,rfl,h2,h⟩:=h
  cases r with
  | cons r1 r2=>
   cases r2 with
   | cons r2 r3=>
    cases r3
    obtain ⟨h3,h4⟩:=arC l r1 h1
    cases r2 with
    | tup q _ _ rs=>exact .inl (.inr ⟨_,_,_,_,_,_,rfl,q,agO rs,h3,adE h4 h2,k _ _ H η l (Ext.refl _ _) (.bl _) h⟩)
    | tupK a1 a2 a3 a4 a5 rs=>
     rename_i a' xs' o its n
     obtain ⟨oc,od,dt,sl⟩:=o
     simp only at a2 a3
     subst a2 a3
     have e3:=ClsV.all (agO rs) a5
     exact .inr ⟨_,a',od,ns.map Value.type,n,sl,_,_,rfl,by rw [a1,← e3],h3,adE h4 h2,k _ _ H η l (Ext.refl _ _) (.bl _) h⟩
 ·exact h.elim⟩
def aC2:aoC:=fun x y v η Φ=> ∃p i ds j,x= .ref p∧y= .int i∧η p=some (.lst ds)∧ixN ds.length i=some j∧Φ (Ka η p (.lst (ds.set j v)))
theorem std:StD X rSetL aC2:=⟨set_list,fun R η H x y z dx dy dz Φ Q l rx ry rz h k=>by
 obtain ⟨p,i,ds,j,rfl,rfl,hp,hj,h⟩:=h
 cases rx
 cases ry
 obtain ⟨xs,h1,h2⟩:=l.m p _ hp
 have np:η p≠none:=by rw [hp];simp
 have e:Ext η H (Ka η p (.lst (ds.set j dz))) (upd H p (.lst (xs.set j z))):=Ext.wr np
 exact ⟨p,xs,i,j,rfl,rfl,h1,by rw [h2.length];exact hj,k _ _ (l.wr (m:= .lst (ds.set j dz)) np ⟨_,upd_same,(bJ.set rz j h2).up e⟩) e h⟩⟩
end
end DL
namespace DL
open PySem PySem.Spec PyProof.Rows L2
section
variable {η:Eta}{b:Bool}{i:Int}{x:Str}{xs:List D}{ks:List Key}{p:Addr}
theorem amr:Ca .non=true:=rfl
theorem aoS:Ca (.bl b)=false:=rfl
theorem amD:Ca (.int i)=false:=rfl
theorem amd:Ca (.str x)=false:=rfl
theorem amN:Ca (.lst xs)=false:=rfl
theorem amK:Ca (.tup xs)=false:=rfl
/-- ==of plain values -/
theorem akO{j:Int}:Gr (.int i) (.int j)=decide (i=j):=by simp [Gr,toPy,PyData.eqv,Bool.beq_eq_decide_eq]
theorem agu{y:Str}:Gr (.str x) (.str y)=decide (x=y):=by simp [Gr,toPy,PyData.eqv,Bool.beq_eq_decide_eq]
theorem anK{c:Bool}:Gr (.bl b) (.bl c)=decide (b=c):=by simp [Gr,toPy,PyData.eqv,Bool.beq_eq_decide_eq]
theorem aph:Gr .non .non=true:=by simp [Gr,toPy,PyData.eqv]
theorem acD:Gr .non (.int i)=false:=by simp [Gr,toPy,PyData.eqv]
theorem acE:Gr (.int i) .non=false:=by simp [Gr,toPy,PyData.eqv]
theorem aiS:Gr .non (.str x)=false:=by simp [Gr,toPy,PyData.eqv]
theorem aje:Gr (.str x) .non=false:=by simp [Gr,toPy,PyData.eqv]
theorem aiO:Gr (.int i) (.str x)=false:=by simp [Gr,toPy,PyData.eqv]
theorem aiF:Gr (.str x) (.int i)=false:=by simp [Gr,toPy,PyData.eqv]
theorem Ci{α:Type}(ys:List α)(n:Nat):L2.atI ys (n:Int)=ys[n]? :=by
 unfold L2.atI ixN
 rw [if_pos (by omega)]
 by_cases h:(n:Int) < (ys.length:Int)
 ·rw [if_pos h];simp
 ·rw [if_neg h];simp;omega
theorem aCl{α:Type}(ys:List α):L2.atI ys 0=ys[0]? :=Ci ys 0
theorem aCp{α:Type}(ys:List α):L2.atI ys 1=ys[1]? :=Ci ys 1
theorem aCM{α:Type}(ys:List α):L2.atI ys 2=ys[2]? :=Ci ys 2
theorem aCz{α:Type}(ys:List α):L2.atI ys 3=ys[3]? :=Ci ys 3
theorem aCZ{α:Type}(ys:List α):L2.atI ys 4=ys[4]? :=Ci ys 4
theorem aA2{α:Type}(ys:List α):L2.atI ys 5=ys[5]? :=Ci ys 5
theorem aDA{α:Type}(ys:List α):L2.atI ys 6=ys[6]? :=Ci ys 6
theorem aCP{α:Type}(ys:List α):L2.atI ys 7=ys[7]? :=Ci ys 7
theorem aCU{α:Type}(ys:List α):L2.atI ys 8=ys[8]? :=Ci ys 8
theorem aDl{α:Type}(ys:List α):L2.atI ys 9=ys[9]? :=Ci ys 9
theorem apc{α:Type}(ys:List α):L2.atI ys (-1)=ys[ys.length - 1]? :=by
 unfold L2.atI ixN
 rw [if_neg (by omega)]
 by_cases h: -(ys.length:Int)≤ -1
 ·rw [if_pos h];simp only [Option.bind_some];congr 1;omega
 ·rw [if_neg h];simp;omega
theorem aBM(m:Nat):ixN m 0=if 0 < m then some 0 else none:=by unfold ixN;rw [if_pos (by omega)];by_cases h:0 < m <;> simp [h] <;> omega
theorem aBu(m:Nat):ixN m 1=if 1 < m then some 1 else none:=by unfold ixN;rw [if_pos (by omega)];by_cases h:1 < m <;> simp [h] <;> omega
theorem aB9(m:Nat):ixN m 2=if 2 < m then some 2 else none:=by unfold ixN;rw [if_pos (by omega)];by_cases h:2 < m <;> simp [h] <;> omega
theorem aC9(m:Nat):ixN m 3=if 3 < m then some 3 else none:=by unfold ixN;rw [if_pos (by omega)];by_cases h:3 < m <;> simp [h] <;> omega
theorem aDb(m:Nat):ixN m 4=if 4 < m then some 4 else none:=by unfold ixN;rw [if_pos (by omega)];by_cases h:4 < m <;> simp [h] <;> omega
theorem aDh(m:Nat):ixN m 5=if 5 < m then some 5 else none:=by unfold ixN;rw [if_pos (by omega)];by_cases h:5 < m <;> simp [h] <;> omega
theorem aDG(m:Nat):ixN m 6=if 6 < m then some 6 else none:=by unfold ixN;rw [if_pos (by omega)];by_cases h:6 < m <;> simp [h] <;> omega
theorem aCq(m:Nat):ixN m 7=if 7 < m then some 7 else none:=by unfold ixN;rw [if_pos (by omega)];by_cases h:7 < m <;> simp [h] <;> omega
end
end DL
end
section
namespace DL
open PySem PySem.Spec PyProof.Rows L2
section
variable {X:Cx}{E:XK}{tg e e2:Expr}{te:TE}{de:DE}{ta:TA}{da:DA}{p pos tpos:Pos}{elts:List Expr}{kk:Nat}
def pairs:List D→List D→List D
 | x::xs,y::ys=> .tup [x,y]::pairs xs ys
 | _,_=> []
theorem aas:∀ {xs ys:List D} {i:Nat} {d:D},(pairs xs ys)[i]? =some d→∃x y,xs[i]? =some x∧ys[i]? =some y∧d= .tup [x,y]
 | [],_,_,_,h=>by simp [pairs] at h
 | _::_,[],_,_,h=>by simp [pairs] at h
 | x::xs,y::ys,0,d,h=>by simp [pairs] at h;exact ⟨x,y,rfl,rfl,h.symm⟩
 | x::xs,y::ys,i + 1,d,h=>by simp only [pairs,List.getElem?_cons_succ] at h ⊢;exact aas h
theorem pairs_len:∀xs ys:List D,(pairs xs ys).length=min xs.length ys.length
 | [],_=>by simp [pairs]
 | _::_,[]=>by simp [pairs]
 | x::xs,y::ys=>by simp [pairs,pairs_len xs ys]
theorem agx{K:PySem.W.Frag}{R:Addr→Prop}{η:Eta}{H:Hp}{T:Addr}{x y:V}{dx dy:D}(l:Lk K R η H)(hT:H T=none)(rx:Rep K R η H x dx)(ry:Rep K R η H y dy):
  Lk K R η (upd H T (.tup [x,y]))∧(∀a o,H a=some o→upd H T (.tup [x,y]) a=some o)∧Rep K R η (upd H T (.tup [x,y])) (.ref T) (.tup [dx,dy]):=
 ⟨l.new hT,abb hT, .tup (.inl upd_same) (l.free hT) (l.nr hT) (.cons (rx.up (Ext.new hT)) (.cons (ry.up (Ext.new hT)) .nil))⟩
def dIZ(da:DA):DI:=fun Z δ η Ψ=>da Z δ η fun ds η1=>match ds with
 | [.lst xs, .lst ys]=>Ψ (pairs xs ys) (fun _=>True) η1
 | [.tup xs, .tup ys]=>Ψ (pairs xs ys) (fun _=>True) η1
 | [.ref p, .lst ys]=> ∃xs,η1 p=some (.lst xs)∧Ψ (pairs xs ys) (fun η=>η p=some (.lst xs)) η1
 | _=>False
theorem awl(hg:Gl X "zip")(hm:X.mg "zip" =none)(ha:PDA X E [e,e2] ta da)(hs:starEach [e,e2] X.env=(false,eval e X.env)::starEach [e2] X.env:=by rfl)(hpl:(backTo pos (starEach [e2] X.env)).any (·.1)=false:=by rfl):
  PDI X E (.Tuple elts kk tpos) (.Call (.Name "zip" p) [e,e2] [] pos) (RZ.iZipA X.K ta) (dIZ da):=⟨RZ.pi_zipA hg hm ha.pa hs hpl,fun R σ H δ η Z Ψ Q l s hw k kx=>by
 refine ha.so R σ H δ η Z _ _ l s hw ⟨fun v d H1 η1 l1 x1 r1 h1=> ?_,kx⟩
 split at h1
 ·cases r1 with
  | cons r1 r2=>
   cases r2 with
   | cons r2 r3=>
    cases r3
    obtain ⟨a,vs,rfl,ha1,ha2⟩:=r1.sqL
    obtain ⟨b,ws,rfl,hb1,hb2⟩:=r2.sqL
    refine ⟨a,b,vs,ws,rfl, .inl ⟨ha1,hb1,k _ _ _ H1 η1 l1 x1 (fun R' m1 m2 η H l' x' _=> ?_) h1⟩⟩
    obtain ⟨a',vs',ea,ha1',ha2'⟩:=((Rep.more m2 _ _ r1).up x').sqL
    obtain ⟨b',ws',eb,hb1',hb2'⟩:=((Rep.more m2 _ _ r2).up x').sqL
    cases ea;cases eb
    refine ⟨⟨vs',ws',ha1',hb1',?_⟩,fun i d hd=> ?_⟩
    ·rw [pairs_len,ha2'.length,hb2'.length];omega
    ·obtain ⟨dx,dy,h2,h3,rfl⟩:=aas hd
     obtain ⟨x,hx,rx⟩:=ha2'.get h2
     obtain ⟨y,hy,ry⟩:=hb2'.get h3
     refine ⟨⟨vs',ws',x,y,ha1',hb1',hx,hy⟩,fun z H2 yl=> ?_⟩
     obtain ⟨T,x',y',rfl,hT,rfl,q1,q2⟩:=yl
     have e1:=q1 _ ha1'
     have e2:=q2 _ hb1'
     rw [hx] at e1;rw [hy] at e2
     cases e1;cases e2
     exact agx l' hT rx ry
 ·cases r1 with
  | cons r1 r2=>
   cases r2 with
   | cons r2 r3=>
    cases r3
    obtain ⟨a,vs,rfl,ha1,ha2⟩:=r1.sqT
    obtain ⟨b,ws,rfl,hb1,hb2⟩:=r2.sqT
    refine ⟨a,b,vs,ws,rfl, .inr ⟨ha1,hb1,k _ _ _ H1 η1 l1 x1 (fun R' m1 m2 η H l' x' _=> ?_) h1⟩⟩
    obtain ⟨a',vs',ea,ha1',ha2'⟩:=((Rep.more m2 _ _ r1).up x').sqT
    obtain ⟨b',ws',eb,hb1',hb2'⟩:=((Rep.more m2 _ _ r2).up x').sqT
    cases ea;cases eb
    refine ⟨⟨vs',ws',ha1',hb1',?_⟩,fun i d hd=> ?_⟩
    ·rw [pairs_len,ha2'.length,hb2'.length];omega
    ·obtain ⟨dx,dy,h2,h3,rfl⟩:=aas hd
     obtain ⟨x,hx,rx⟩:=ha2'.get h2
     obtain ⟨y,hy,ry⟩:=hb2'.get h3
     refine ⟨⟨vs',ws',x,y,ha1',hb1',hx,hy⟩,fun z H2 yl=> ?_⟩
     obtain ⟨T,x',y',rfl,hT,rfl,q1,q2⟩:=yl
     have e1:=q1 _ ha1'
     have e2:=q2 _ hb1'
     rw [hx] at e1;rw [hy] at e2
     cases e1;cases e2
     exact agx l' hT rx ry
 ·rename_i p ys
  obtain ⟨xs,hp,h1⟩:=h1
  cases r1 with
  | cons r1 r2=>
   cases r2 with
   | cons r2 r3=>
    cases r3
    cases r1
    obtain ⟨vs,ha1,ha2⟩:=l1.m p _ hp
    obtain ⟨b,ws,rfl,hb1,hb2⟩:=r2.sqL
    refine ⟨p,b,vs,ws,rfl, .inl ⟨SqL.of ha1,hb1,k _ _ _ H1 η1 l1 x1 (fun R' m1 m2 η H l' x' hg=> ?_) h1⟩⟩
    obtain ⟨vs',ha1',ha2'⟩:=l'.m p _ hg
    obtain ⟨b',ws',eb,hb1',hb2'⟩:=((Rep.more m2 _ _ r2).up x').sqL
    cases eb
    refine ⟨⟨vs',ws',SqL.of ha1',hb1',?_⟩,fun i d hd=> ?_⟩
    ·rw [pairs_len,ha2'.length,hb2'.length];omega
    ·obtain ⟨dx,dy,h2,h3,rfl⟩:=aas hd
     obtain ⟨x,hx,rx⟩:=ha2'.get h2
     obtain ⟨y,hy,ry⟩:=hb2'.get h3
     refine ⟨⟨vs',ws',x,y,SqL.of ha1',hb1',hx,hy⟩,fun z H2 yl=> ?_⟩
     obtain ⟨T,x',y',rfl,hT,rfl,q1,q2⟩:=yl
     have e1:=q1 _ (SqL.of ha1')
     have e2:=q2 _ hb1'
     rw [hx] at e1;rw [hy] at e2
     cases e1;cases e2
     exact agx l' hT rx ry
 ·exact h1.elim⟩
def anJ:Int→List D→List D
 | _,[]=> []
 | n,x::xs=> .tup [.int n,x]::anJ (n + 1) xs
end
def pick{α:Type}(idx:List Nat)(l:List α):List α:=idx.filterMap fun i=>l[i]?
def KB(K:PySem.W.Frag)(fd:FuncData)(ps:List Str)(n:Nat)(ks:List Str)(idx:List Nat):Prop:=
 ∀(s:Shared) (us ws:List Value),us.length=n→ws.length=ks.length→BindsTo s fd ⟨us,ks.zip ws⟩ (ps.zip (pick idx (us ++ ws)))
theorem KB.of{K:PySem.W.Frag}{fd:FuncData}{ps:List Str}{n:Nat}{ks:List Str}{idx:List Nat}(h:∀us ws:List Value,us.length=n→ws.length=ks.length→bindArgs fd ⟨us,ks.zip ws⟩=pure (ps.zip (pick idx (us ++ ws)))):KB K fd ps n ks idx:=fun s us ws h1 h2=> .of_eq (h us ws h1 h2)
theorem vals_pick{vs:List V}{us:List Value}(r:Vals vs us):∀idx:List Nat,Vals (pick idx vs) (pick idx us)
 | []=> .nil
 | i::idx=>by
  have t:=vals_pick r idx
  unfold pick at *
  rw [List.filterMap_cons,List.filterMap_cons]
  cases e:vs[i]? with
  | none=>rw [Vals.none_of r e];exact t
  | some v=>
   obtain ⟨u,h1,h2⟩:=r.get e
   rw [h1]
   exact .cons h2 t
structure PDK(X:Cx)(E:XK)(kws:List Keyword)(t:TA)(d:DA):Prop where
 pk:PK X kws t
 so:j8 X.K E (bJ X.K) t d
section
variable {X:Cx}{E:XK}{k n:Nat}{f:Addr}{fd:FuncData}{ps ks:List Str}{idx:List Nat}{c:Ct}{x:Str}{p pos kpos:Pos}{e:Expr}{es:List Expr}{kws:List Keyword}{ta tk:TA}{te:TE}{de:DE}{da dk:DA}{nm:Option Str}
theorem qP:PDK X E [] tNil au2:=⟨pk_nil,az8⟩
theorem ava{K:PySem.W.Frag}(he:j8 K E (Rep K) te de)(hr:j8 K E (bJ K) tk dk):j8 K E (bJ K) (tCons te tk) (anI de dk):=fun R σ H δ η Z Φ Q l s h k=>by
 refine he R σ H δ η Z _ _ l s h (k.to fun v1 d1 H1 η1 l1 e1 r1 h1=> ?_)
 refine hr R σ H1 δ η1 Z _ _ l1 (s.up e1) h1 ((k.at_ e1).to fun v2 d2 H2 η2 l2 e2 r2 h2=> ?_)
 exact k.ok _ _ H2 η2 l2 (e1.trans e2) (.cons (r1.up e2) r2) h2
theorem kW(ha:PD X E e te de)(hr:PDK X E kws tk dk):PDK X E (⟨nm,e,kpos⟩::kws) (tCons te tk) (anI de dk):=⟨pk_cons ha.pe hr.pk,ava ha.so hr.so⟩
end
theorem law_end{l:PySem.W.OpenLaw}{k:Nat}{q:Program}{loose:List Str}{XP:(Str→Option Value)→Heap→Prop}{YP:World→Heap→Prop}{d:DefRec}{K:Params→PySem.W.Frag}{c:Ct}{x:Str}
  (hn:l.most=some 63)(hdf:d.params.defaults= [])(hr:Room k callerA)(hY:∀(w:World) (h:Heap),YP w h→(K w.params).In h)
  (F:∀(w:World) (mg:Str→Option Value) (fa:Addr) (h:Heap),YP w h→(K w.params).In h→h.Ns mainGlobals mg→mg d.name=some (.ref fa)→
   ∃(fd:FuncData) (cs:List (Addr × Addr)),(∀p ∈ cs,h.get? p.2=some {cls:= .none,data:= .fields #[]})∧(∀p ∈ cs,(K w.params).lookup p.2=none)∧(∀p ∈ cs,PySem.W.CodeHd h p.1 p.2)∧(∀P q,atG (K w.params) P q→∃p ∈ cs,p.2=P)∧
    (∀(s:Shared) (u:Value),BindsTo s fd ⟨[u],[]⟩ [(x,u)])∧∀base:Heap,(K w.params).In base→base.Ns mainGlobals mg→(∀p ∈ cs,LamX.TabB base mg p.1 p.2)→FnOk l.prog w (K w.params) mg base (L2.CX l.prog w) k fa fd [x] (YS (K w.params) c))
  (hc:∀(ns:List Int) (Φ:DK),ns.length≤63→(∀η,Φ (.bl true) η)→c [.klst (ns.map D.int)] (fun _=>none) (fun _ _=>False) Φ):
  PySem.W.WalkO q loose XP YP l.row.toRowW d [] (fun f vs=>PySem.call f vs):=
 LamX.walk_ofTs (n:=63) (k:=k) (x:=x) (K:=K) (CX:=fun w=>L2.CX l.prog w) hn (by decide) hdf hr hY (fun w mg fa h Y KX G hm=>by
  obtain ⟨fd,cs,h1,h2,h3,h4,h5,h6⟩:=F w mg fa h Y KX G hm
  refine ⟨fd,cs,YS (K w.params) c,h1,h2,h3,h5,fun H a ns hl _ hT hS=> ?_,h6⟩
  have l0:Lk (K w.params) (fun _=>False) (fun _=>none) H:=Lk.mk (fun a m e=>nomatch e) (fun a z=>False.elim z) (fun P q t=>by
   obtain ⟨p,hp,rfl⟩:=h4 P q t
   refine ⟨rfl,fun z=>z,#[],hT p hp,True.intro,fun pos cv hcv=> ?_⟩
   have z:codeAmong pos []=some cv:=hcv
   simp [codeAmong] at z)
  refine ⟨fun _=>False,fun _=>none,[.klst (ns.map D.int)],fun _ _=>False,fun d _=>d= .bl true,l0, .cons ?_ .nil,hc ns _ hl fun _=>rfl,fun v d H' η' l' x' r' h'=> ?_,fun _ _ _ _ _ _ _ _ z=>z⟩
  ·rcases hS with h | ⟨o,its,n,h1,h2,h3,h4,h5,h6⟩
   ·exact .klst h rfl (fun z=>z) (bJ.of_ints ns)
   ·exact .klstK h1 h2 h3 h4 h5 h6 (bJ.of_ints ns)
  ·subst h';cases r';rfl) fun _ _ _ _ _ ⟨_,_,_,_,_,_,_,_,_,_,_,_,z⟩=>z
end DL
end
section
namespace DL
open PySem PySem.Spec PyProof.Rows L2
section
variable {X:Cx}{K:PySem.W.Frag}(hK:X.K=K)
include hK
theorem aaU(hu:X.A.units + 64 < cLine):OpD X (compareOp .Eq) (rEqG K) oEq:=by subst hK;exact aBb hu
theorem agD(hu:X.A.units + 64 < cLine):OpD X (compareOp .NotEq) (ayv K) oNe:=by subst hK;exact aCk hu
theorem Dg:OpD X (binaryOp .Add) (ain K) arR:=by subst hK;exact axt
theorem kd_in(hu:X.A.units + 64 < cLine):OpD X (compareOp .In) (aBe K) (aoO false):=by subst hK;exact aBh hu
theorem Gv:IxD X (azQ K) oIx:=by subst hK;exact ixd
theorem axf:SlD X (azp K) oSl:=by subst hK;exact sld
theorem ady:ClD X (.builtin "len") (aw8 K) aqM:=by subst hK;exact ayl
theorem awc:ClD X (.type "list") (apy K) asW:=by subst hK;exact avT
theorem ayg(hc:X.calm=true):ClD X (.builtin "all") (rAll K) azj:=by subst hK;exact ayK hc
theorem KC:ClD X (.builtin "isinstance") (aw3 K) avy:=by subst hK;exact axJ
theorem av6{E:XK}{e e2:Expr}{ta:TA}{da:DA}{p pos tpos:Pos}{elts:List Expr}{kk:Nat}(hg:Gl X "zip")(hm:X.mg "zip" =none)(ha:PDA X E [e,e2] ta da)(hs:starEach [e,e2] X.env=(false,eval e X.env)::starEach [e2] X.env:=by rfl)(hpl:(backTo pos (starEach [e2] X.env)).any (·.1)=false:=by rfl):
  PDI X E (.Tuple elts kk tpos) (.Call (.Name "zip" p) [e,e2] [] pos) (RZ.iZipA K ta) (dIZ da):=by subst hK;exact awl hg hm ha hs hpl
theorem aiH{es:List Expr}{k:Nat}{gs:TGs}{dgs:DGs}{n:Nat}{pos:Pos}(hc:X.calm=true)(h:ars X es gs dgs)(hn:(assignEach es X.env).length=n:=by rfl)(hst:(assignEach es X.env).findIdx? (·.1)=none:=by rfl):PDG X (.Tuple es k pos) (gTup K n gs) (aq0 n dgs):=by subst hK;exact avA hc h hn hst
end
/-- where a def's body stands -/
def XIs(X:Cx)(P:Program)(w:World)(K:PySem.W.Frag)(mg:Str→Option Value)(base:Heap):Prop:=X.prog=P∧X.w=w∧X.K=K∧X.mg=mg∧X.base=base
section
variable {X:Cx}{P:Program}{w:World}{K:PySem.W.Frag}{mg:Str→Option Value}{base:Heap}{E:XK}{k n:Nat}{f:Addr}{fd:FuncData}{ps ks:List Str}{idx:List Nat}{c:Ct}{dvs:List V}{dds:List D}{dsV:List Value}{x:Str}{p pos:Pos}{e:Expr}{es:List Expr}{kws:List Keyword}{ta tk:TA}{da dk:DA}
theorem P0(hX:XIs X P w K mg base)(F:FnOk P w K mg base (L2.CX P w) k f fd ps (YS K c))(hr:Room k X.A)(hg:Gl X x)(hm:mg x=some (.ref f))(hk:PySem.W.keepIn K (.ref f)=true)(hb:Binds K fd ps dsV)(hv:Vals dvs dsV)(hd:∀R η H,bJ K R η H dvs dds)
  (ha:PDA X E (e::es) ta da)(hdb:(x==("__debug__" :Str))=false:=by decide)(he:starEach (e::es) X.env=(false,eval e X.env)::starEach es X.env:=by rfl)(hpl:(backTo pos (starEach es X.env)).any (·.1)=false:=by rfl)(tx:TkX X E:=by first | assumption | exact takes0 | exact takes_of rfl rfl rfl rfl):
  PD X E (.Call (.Name x p) (e::es) [] pos) (tCall (YS K c) dvs E ta) (dCall c dds da):=by
 obtain ⟨rfl,rfl,rfl,rfl,rfl⟩:=hX;exact avB F hr hg hm hk hb hv hd ha hdb he hpl tx
end
/-- a contract that asks for nothing is kept -/
theorem arJ{P:Program}{w:World}{K:PySem.W.Frag}{mg:Str→Option Value}{base:Heap}{k:Nat}{f:Addr}{fd:FuncData}{ps:List Str}{c:Ct}(h:∀ds η Z Φ,¬ c ds η Z Φ):FnOk P w K mg base (L2.CX P w) k f fd ps (YS K c):=
 ⟨fun vs H Q E q=>by obtain ⟨R,η,ds,Z,Φ,_,_,z,_⟩:=q;exact (h _ _ _ _ z).elim,fun A outer s H args us vs Q E _ _ _ _ q=>by obtain ⟨R,η,ds,Z,Φ,_,_,z,_⟩:=q;exact (h _ _ _ _ z).elim⟩
end DL
end
section
namespace DL
open PySem PySem.Spec PyProof.Rows L2
abbrev DMt:=D→List D→Eta→DK→Prop
structure MtD(X:Cx)(id:String)(r:V→List V→Hp→VK→Prop)(o:DMt):Prop where
 op:MtR X id r
 so:∀(R:Addr→Prop) (η:Eta) (H:Hp) (x:V) (xs:List V) (dx:D) (ds:List D) (Φ:DK) (Q:VK),Lk X.K R η H→Rep X.K R η H x dx→bJ X.K R η H xs ds→o dx ds η Φ→
  (∀v d H' η',Lk X.K R η' H'→Ext η H η' H'→Rep X.K R η' H' v d→Φ d η'→Q v H')→r x xs H Q
end DL
end
section
namespace DL
open PySem PySem.Spec PyProof.Rows L2
def lkp:List Str→List D→Str→Option D
 | n::ns,d::ds,f=>if f=n then some d else lkp ns ds f
 | _,_,_=>none
def putN:List Str→Str→List Str
 | [],f=> [f]
 | n::ns,f=>if n=f then n::ns else n::putN ns f
def putD:List Str→List D→Str→D→List D
 | [],_,_,d=> [d]
 | n::ns,x::ds,f,d=>if n=f then d::ds else x::putD ns ds f d
 | _::_,[],_,d=> [d]
section
variable {K:PySem.W.Frag}{R:Addr→Prop}{η:Eta}{H:Hp}
theorem ar6:∀ {fs:List (Str × V)} {ds:List D} {f:Str} {d:D},bJ K R η H (fs.map (·.2)) ds→lkp (fs.map (·.1)) ds f=some d→∃v,fs.lookup f=some v∧Rep K R η H v d
 | [],_,_,_,r,h=>by cases r;cases h
 | (n,v)::fs,ds,f,d,r,h=>by
  cases r with
  | @cons _ _ d' ds' r1 r2=>
   have h:(if f=n then some d' else lkp (fs.map (·.1)) ds' f)=some d:=h
   rw [List.lookup_cons]
   by_cases e:f=n
   ·subst e
    rw [if_pos rfl] at h;cases h
    exact ⟨v,by simp,r1⟩
   ·rw [if_neg e] at h
    obtain ⟨v',h1,h2⟩:=ar6 r2 h
    exact ⟨v',by rw [beq_false_of_ne e];exact h1,h2⟩
end
end DL
end
section
namespace DL
open PySem PySem.Spec PyProof.Rows L2
def anY:DMt:=fun x ds η Φ=> ∃p xs d,x= .ref p∧ds= [d]∧η p=some (.lst xs)∧xs.length < sizeLine∧Φ .non (Ka η p (.lst (xs ++ [d])))
theorem amc{X:Cx}:MtD X "list.append" rAppend anY:=⟨mt_append,fun R η H x xs dx ds Φ Q l rx rs h k=>by
 obtain ⟨p,es,d,rfl,rfl,hp,hz,h⟩:=h
 cases rx
 cases rs with
 | @cons u _ _ _ r1 r2=>
  cases r2
  obtain ⟨vs,hH,hr⟩:=l.m p _ hp
  have hne:η p≠none:=by rw [hp];simp
  have x2:Ext η H (Ka η p (.lst (es ++ [d]))) (upd H p (.lst (vs ++ [u]))):=Ext.wr hne
  refine ⟨p,vs,_,rfl,rfl,hH,by rw [hr.length];exact hz,k _ _ _ _ (l.wr (m:= .lst (es ++ [d])) hne ⟨_,by rw [upd_same],(hr.up x2).append (.cons (r1.up x2) .nil)⟩) x2 .non h⟩⟩
def awq(do_:DE)(da:DA):DE:=fun Z δ η Φ=>do_ Z δ η fun x η1=>(∃p xs,x= .ref p∧η1 p=some (.lst xs))∧da Z δ η1 fun ds η2=>anY x ds η2 Φ
section
variable {X:Cx}{E:XK}{o e:Expr}{es:List Expr}{to:TE}{do_:DE}{ta:TA}{da:DA}{apos cpos:Pos}
theorem aAr(ho:j8 X.K E (Rep X.K) to do_)(ha:j8 X.K E (bJ X.K) ta da):j8 X.K E (Rep X.K) (tBM X.K "list" rAppend to ta) (awq do_ da):=fun R σ H δ η Z Φ Q l s h k=>by
 refine ho R σ H δ η Z _ _ l s h (k.to fun v1 d1 H1 η1 l1 x1 r1 h1=> ?_)
 obtain ⟨⟨p,xs,rfl,hp⟩,h1⟩:=h1
 cases r1
 obtain ⟨vs,hH,hr⟩:=l1.m p _ hp
 refine ⟨?_,?_⟩
 ·exact .inl ⟨rfl,_,SqL.of hH⟩
 ·refine ha R σ H1 δ η1 Z _ _ l1 (s.up x1) h1 ((k.at_ x1).to fun us ds H2 η2 l2 x2 r2 h2=> ?_)
  exact amc.so R η2 H2 _ us _ ds Φ Q l2 (.ref p) r2 h2 fun v d H' η' l' e' r' h'=>k.ok v d H' η' l' ((x1.trans x2).trans e') r' h'
theorem az1(ho:PD X E o to do_)(ha:PDA X E (e::es) ta da)
  (hbase:attributeBase o "append" X.env (eval o X.env)=eval o X.env:=by rfl)
  (hfew:((backTo cpos (starEach (e::es) X.env)).all (fun x=> !x.1) && (backToKw cpos (keywordEach [] X.env)).all (fun x=>x.1.isSome)
   && decide ((e::es).length + ([]:List Keyword).length + (if ([]:List Keyword).isEmpty then 0 else 1) < 30))=true:=by rfl)
  (hline:(apos.endLine==cpos.line)=true:=by rfl)(hs:starEach (e::es) X.env=(false,eval e X.env)::starEach es X.env:=by rfl)(hplain:(backTo cpos (starEach es X.env)).any (·.1)=false:=by rfl):
  PD X E (.Call (.Attribute o "append" apos) (e::es) [] cpos) (tBM X.K "list" rAppend to ta) (awq do_ da):=⟨pe_bm PySem.F.plainAttrs_list PySem.F.slot_list_append PySem.F.type_list_append mt_append ho.pe ha.pa hbase hfew hline hs hplain,aAr ho.so ha.so⟩
end
end DL
end
section
namespace DL
open PySem PySem.Spec PyProof.Rows L2
/-- n positional values,the keywords ks,the defaults dvs behind them:which of them each parameter gets -/
def KBD(K:PySem.W.Frag)(fd:FuncData)(ps:List Str)(n:Nat)(ks:List Str)(idx:List Nat)(dvs:List V):Prop:=
 ∃dsV,Vals dvs dsV∧∀(s:Shared) (us ws:List Value),K.In s.heap→us.length=n→ws.length=ks.length→BindsTo s fd ⟨us,ks.zip ws⟩ (ps.zip (pick idx (us ++ (ws ++ dsV))))
theorem KBD.of0{K:PySem.W.Frag}{fd:FuncData}{ps:List Str}{n:Nat}{ks:List Str}{idx:List Nat}(h:∀us ws:List Value,us.length=n→ws.length=ks.length→bindArgs fd ⟨us,ks.zip ws⟩=pure (ps.zip (pick idx (us ++ (ws ++ []))))):KBD K fd ps n ks idx []:=⟨[], .nil,fun s us ws _ h1 h2=> .of_eq (h us ws h1 h2)⟩
end DL
end
section
namespace DL
open PySem PySem.Spec PyProof.Rows L2
section
variable {X:Cx}{K:PySem.W.Frag}{E:XK}{e o:Expr}{es:List Expr}{te to:TE}{de do_:DE}{ta:TA}{da:DA}{f:Str}{pos apos cpos:Pos}(hK:X.K=K)
include hK
theorem az7(ho:PD X E o to do_)(ha:PDA X E (e::es) ta da)
  (hbase:attributeBase o "append" X.env (eval o X.env)=eval o X.env:=by rfl)
  (hfew:((backTo cpos (starEach (e::es) X.env)).all (fun x=> !x.1) && (backToKw cpos (keywordEach [] X.env)).all (fun x=>x.1.isSome)
   && decide ((e::es).length + ([]:List Keyword).length + (if ([]:List Keyword).isEmpty then 0 else 1) < 30))=true:=by rfl)
  (hline:(apos.endLine==cpos.line)=true:=by rfl)(hs:starEach (e::es) X.env=(false,eval e X.env)::starEach es X.env:=by rfl)(hplain:(backTo cpos (starEach es X.env)).any (·.1)=false:=by rfl):
  PD X E (.Call (.Attribute o "append" apos) (e::es) [] cpos) (tBM K "list" rAppend to ta) (awq do_ da):=by subst hK;exact az1 ho ha hbase hfew hline hs hplain
end
end DL
end
section
namespace DL
open PySem PySem.Spec PyProof.Rows L2
section
variable {X:Cx}
def rSetL(K:PySem.W.Frag)(w:World):List V→Hp→VK→Prop:=fun xs H Q=> ∃(l:Addr) (ns:List Int),xs= [.ref l]∧SqL K H l (ns.map V.int)∧ns.length≤1000∧∀p c,H p=none→c≤ns.length→Q (.ref p) (upd H p (SetO w p (fun j=>decide (j ∈ ns)) c))
variable {E:XK}{e:Expr}{ta:TA}{da:DA}{p1 p2 q1 q2:Pos}
end
end DL
namespace DL
open PySem PySem.Spec PyProof.Rows L2
structure IsO(K:PySem.W.Frag)(C:Addr):Prop where
 ha:PySem.W.findIn K (.ref C) "__class__" =some (some (.builtin "object.__class__"))
 hn:PySem.W.specialIn K (.builtin "object.__class__") "__get__" =some (some (.builtin "getset_descriptor.__get__"))
 htk:PySem.W.takesIn K (.builtin "object.__class__")=some true
 hm:PySem.W.mroIn K C (.type "object")=some true
end DL
end
section
namespace DL
open PySem PySem.Spec PyProof.Rows L2
def acL:List Key→List D→Key→Option D
 | k::ks,d::ds,q=>if k=q then some d else acL ks ds q
 | _,_,_=>none
def keyD:D→Option Key
 | .int i=>some (.inl i)
 | .str x=>some (.inr x)
 | _=>none
def kD:Key→D
 | .inl i=> .int i
 | .inr x=> .str x
section
variable {K:PySem.W.Frag}{R:Addr→Prop}{η:Eta}{H:Hp}
theorem avz{v:V}{d:D}{k:Key}(r:Rep K R η H v d)(h:keyD d=some k):v=kV k:=by
 cases d with
 | int i=>cases h;cases r;rfl
 | str x=>cases h;cases r;rfl
 | _=>cases h
end
/-- d[k]=v -/
def J8:List Key→List D→Key→D→List Key × List D
 | k::ks,d::ds,q,z=>if k=q then (k::ks,z::ds) else ((k::(J8 ks ds q z).1),d::(J8 ks ds q z).2)
 | _,_,q,z=>([q],[z])
theorem apY{K:PySem.W.Frag}{R:Addr→Prop}{η:Eta}{H:Hp}{q:Key}{v:V}{d:D}(r:Rep K R η H v d):∀ {kvs:List (Key × V)} {ds:List D},(kvs.map (·.1)).Nodup→bJ K R η H (kvs.map (·.2)) ds→
  ((putK kvs q v).map (·.1))=(J8 (kvs.map (·.1)) ds q d).1∧bJ K R η H ((putK kvs q v).map (·.2)) (J8 (kvs.map (·.1)) ds q d).2:=by
 have nomap:∀(l:List (Key × V)),q ∉ l.map (·.1)→(l.map fun kv=>if kv.1=q then (kv.1,v) else kv)=l:=fun l hl=>by
  induction l with
  | nil=>rfl
  | cons p l ih=>
   have h1:¬ p.1=q:=fun e=>hl (by rw [List.map_cons,e];exact List.mem_cons_self)
   rw [List.map_cons,if_neg h1,ih fun z=>hl (by rw [List.map_cons];exact List.mem_cons_of_mem _ z)]
 intro kvs
 induction kvs with
 | nil=>
  intro ds _ h
  cases h
  exact ⟨rfl, .cons r .nil⟩
 | cons p kvs ih=>
  intro ds nd h
  cases h with
  | @cons _ _ e es a b=>
   obtain ⟨nd1,nd2⟩:=List.nodup_cons.mp nd
   obtain ⟨k,u⟩:=p
   by_cases eq:k=q
   ·subst eq
    have e1:putK ((k,u)::kvs) k v=(k,v)::kvs:=by
     unfold putK
     rw [if_pos (by simp)]
     rw [List.map_cons,nomap kvs nd1];simp
    rw [e1]
    simp only [List.map_cons,J8,if_true]
    exact ⟨trivial, .cons r b⟩
   ·obtain ⟨h1,h2⟩:=ih nd2 b
    have e1:putK ((k,u)::kvs) q v=(k,u)::putK kvs q v:=by
     unfold putK
     have e2:(((k,u)::kvs).any fun kv=>decide (kv.1=q))=kvs.any fun kv=>decide (kv.1=q):=by simp [eq]
     rw [e2]
     split
     ·rw [List.map_cons,if_neg eq]
     ·rfl
    rw [e1]
    simp only [List.map_cons,J8,eq,if_false]
    exact ⟨by rw [h1], .cons a h2⟩
end DL
end
section
namespace DL
open PySem PySem.Spec PyProof.Rows L2
section
variable {P:Program}{w:World}{Ky:Type}[DecidableEq Ky]{knd:KeyKind P w Ky}{A:Around}{E:Value→Shared→Prop}{s:Shared}{a:Addr}
/-- no two entries of one key -/
def Dif(knd:KeyKind P w Ky)(l:List (Int × Value)):Prop:=l.Pairwise fun x y=> ∀k,¬ (knd.is k x.2=true∧knd.is k y.2=true)
/-- what a table must be to be walked -/
structure Walk(w:World)(t:SetTable):Prop where
 ris:Ris t.place.toList
 led:w.params.followText "set-order" =true∨t.led=true
def apW(knd:KeyKind P w Ky)(h:Heap)(a:Addr)(S:Ky→Bool)(n:Nat):Prop:=
 ∃o es ep t,h.get? a=some o∧o.ExactSet∧o.data= .set es ep t∧ElemsOf knd es.toList∧(∀k,S k=true↔∃e ∈ es.toList,knd.is k e.2=true)∧(es.size < scanBound∧t.fits es.size=true∧es.size=n)∧Dif knd es.toList∧Walk w t
theorem apW.at_{h h':Heap}{S:Ky→Bool}{n:Nat}(R:apW knd h a S n)(k:∀o,h.get? a=some o→h'.get? a=some o):apW knd h' a S n:=
 have ⟨o,es,ep,t,h1,r⟩:=R
 ⟨o,es,ep,t,k o h1,r⟩
end
end DL
end
section
namespace DL
open PySem PySem.Spec PyProof.Rows L2
def inK(acc:List Key)(k:Key):Bool:=acc.any fun j=>decide (j=k)
def asK:List Key→Nat
 | []=>0
 | k::ks=>if inK ks k=true then asK ks else asK ks + 1
/-- how many different keys -/
def aqa(acc:List Key):Nat:=asK acc.reverse
def al8(P:Program)(w:World)(h:Heap)(a:Addr)(acc:List Key):Prop:=apW (mixKind P w) h a (inK acc) (aqa acc)
theorem al8.at_{P:Program}{w:World}{h h':Heap}{a:Addr}{acc:List Key}(R:al8 P w h a acc)(k:∀o,h.get? a=some o→h'.get? a=some o):al8 P w h' a acc:=apW.at_ R k
theorem al8.obj{P:Program}{w:World}{h:Heap}{a:Addr}{acc:List Key}(R:al8 P w h a acc):∃o,h.get? a=some o:=by
 have ⟨o,_,_,_,ho,_⟩:=R
 exact ⟨o,ho⟩
abbrev set0(w:World):Obj:= {cls:= .type "set",dict:=none,data:= .set #[] 0 (.fresh 0 0 (!w.params.followText "set-order"))}
theorem al8.new(P:Program)(w:World)(h:Heap):al8 P w (h.push (set0 w)) h.objs.size []:=
 ⟨_,#[],0,_,Heap.get?_push_size _ rfl,⟨rfl,rfl,rfl⟩,rfl,fun e he=>by simp at he,fun k=>by simp [inK],⟨by decide,by rfl,rfl⟩,List.Pairwise.nil,⟨List.Pairwise.nil,by
  cases h:w.params.followText "set-order" with
  | true=>exact .inl rfl
  | false=>exact .inr rfl⟩⟩
def axa(xs:List D):List Key:=xs.filterMap keyD
end DL
end
section
namespace ZM
open PySem PySem.Spec PyProof.Rows L2
section
variable {P:Program}{w:World}{A:Around}{E:Value→Shared→Prop}{s:Shared}{z TI TO i j l m:Addr}{xs ys:Array Value}{k n:Nat}{a b:Value}
/-- the pair's tuple -/
abbrev cell(x y:Value):Obj:= {cls:= .type "tuple",data:= .seq #[x,y]}
end
end ZM
end
section
namespace DL
open PySem PySem.Spec PyProof.Rows L2
/-- the pairs,put one after the other -/
def aye(a:List Key × List D):D→List Key × List D
 | .tup [y,z]=>match keyD y with
  | some k=>J8 a.1 a.2 k z
  | none=>a
 | _=>a
def akJ(ps:List D)(a:List Key × List D):List Key × List D:=ps.foldl aye a
theorem akA{q:Key}{z:D}:∀ {ks:List Key} {ds:List D},ks.length=ds.length→ks.Nodup→(J8 ks ds q z).1.Nodup∧(J8 ks ds q z).1.length=(J8 ks ds q z).2.length∧(∀k ∈ (J8 ks ds q z).1,k=q∨k ∈ ks)∧(J8 ks ds q z).1.length≤ks.length + 1
 | [],[],_,_=>by simp [J8]
 | k::ks,d::ds,hl,nd=>by
  obtain ⟨n1,n2⟩:=List.nodup_cons.mp nd
  by_cases e:k=q
  ·simp only [J8,if_pos e]
   exact ⟨nd,by simpa using hl,fun k' h=> .inr h,by simp⟩
  ·obtain ⟨h1,h2,h3,h4⟩:=akA (q:=q) (z:=z) (by simpa using hl) n2
   simp only [J8,if_neg e]
   refine ⟨List.nodup_cons.mpr ⟨fun hm=> ?_,h1⟩,by simpa using h2,fun k' h=> ?_,by simp only [List.length_cons];omega⟩
   ·rcases h3 k hm with z | z
    ·exact e z
    ·exact n1 z
   ·rcases List.mem_cons.mp h with rfl | h
    ·exact .inr List.mem_cons_self
    ·rcases h3 k' h with z | z
     ·exact .inl z
     ·exact .inr (List.mem_cons_of_mem _ z)
theorem aoH{K:PySem.W.Frag}{R:Addr→Prop}{η:Eta}{H:Hp}{kvs:List (Key × V)}{ds:List D}(r:bJ K R η H (kvs.map (·.2)) ds):(kvs.map (·.1)).length=ds.length:=by
 have:=r.length
 simpa using this
end DL
end
section
namespace DL
open PySem PySem.Spec PyProof.Rows L2
def aqe:List (DE × DE)→Xk→vY→Eta→(List D→Eta→Prop)→Prop
 | [],_,_,η,Q=>Q [] η
 | (dk,dv)::r,Z,δ,η,Q=>dk Z δ η fun y η1=>dv Z δ η1 fun z η2=> ∃k,keyD y=some k∧aqe r Z δ η2 fun ps η3=>Q (.tup [y,z]::ps) η3
inductive arY(X:Cx)(E:XK)(pos:Pos):List (Option Expr)→List Expr→List (TE × TE)→List (DE × DE)→Prop
 | nil:arY X E pos [] [] [] []
 | cons {k v:Expr} {ks:List (Option Expr)} {vs:List Expr} {tk tv:TE} {dk dv:DE} {trs:List (TE × TE)} {drs:List (DE × DE)}:PD X E k tk dk→PD X E v tv dv→arY X E pos ks vs trs drs→arY X E pos (some k::ks) (v::vs) ((tk,tv)::trs) ((dk,dv)::drs)
/-- the pairs as values and as data -/
inductive ao0(K:PySem.W.Frag)(R:Addr→Prop)(η:Eta)(H:Hp):List (V × V)→List (Key × V)→List D→Prop
 | nil:ao0 K R η H [] [] []
 | cons {x y:V} {k:Key} {dx dy:D} {ps:List (V × V)} {kvs:List (Key × V)} {ds:List D}:x=kV k→keyD dx=some k→Rep K R η H y dy→ao0 K R η H ps kvs ds→ao0 K R η H ((x,y)::ps) ((k,y)::kvs) (.tup [dx,dy]::ds)
theorem ao0.put{K:PySem.W.Frag}{R:Addr→Prop}{η:Eta}{H:Hp}{ps:List (V × V)}{kvs:List (Key × V)}{ds:List D}(h:ao0 K R η H ps kvs ds):∀ {acc:List (Key × V)} {a:List Key × List D},acc.map (·.1)=a.1→bJ K R η H (acc.map (·.2)) a.2→(acc.map (·.1)).Nodup→
  (mergeK acc kvs).map (·.1)=(akJ ds a).1∧bJ K R η H ((mergeK acc kvs).map (·.2)) (akJ ds a).2:=by
 induction h with
 | nil=>exact fun h1 h2 _=>⟨h1,h2⟩
 | @cons x y k dx dy ps kvs ds e ek ry _ ih=>
  intro acc a h1 h2 nd
  have step:aye a (.tup [dx,dy])=J8 a.1 a.2 k dy:=by
   show (match keyD dx with
    | some k=>J8 a.1 a.2 k dy
    | none=>a)=_
   rw [ek]
  obtain ⟨g1,g2⟩:=apY (q:=k) ry nd h2
  have n:=akA (q:=k) (z:=dy) (aoH h2) nd
  have:=ih (acc:=putK acc k y) (a:=aye a (.tup [dx,dy])) (by rw [step,g1,h1]) (by rw [step,← h1];exact g2) (by rw [g1];exact n.1)
  exact this
section
variable {X:Cx}{E:XK}{pos:Pos}{ks:List (Option Expr)}{vs:List Expr}{trs:List (TE × TE)}{drs:List (DE × DE)}
theorem arY.so(h:arY X E pos ks vs trs drs):∀(R:Addr→Prop) (σ:L2.St) (H:Hp) (δ:vY) (η:Eta) (Z:Xk) (Φ:List D→Eta→Prop) (Q:List (V × V)→Hp→Prop),Lk X.K R η H→Sl X.K R η H δ σ→aqe drs Z δ η Φ→
  (∀ps kvs ds H' η',Lk X.K R η' H'→Ext η H η' H'→ao0 X.K R η' H' ps kvs ds→Φ ds η'→Q ps H')→(∀C od x H' η',Lk X.K R η' H'→Ext η H η' H'→akz X.K R η' H' C od x→Z x η'→E (.ref C) od H')→tPairs trs σ H Q:=by
 induction h with
 | nil=>exact fun R σ H δ η Z Φ Q l s q k _=>k [] [] [] H η l (Ext.refl _ _) .nil q
 | @cons e1 e2 ks vs tk tv dk dv trs drs a b _ ih=>
  intro R σ H δ η Z Φ Q l s q k kx
  refine a.so R σ H δ η Z _ _ l s q ⟨fun v1 d1 H1 η1 l1 x1 r1 q1=> ?_,kx⟩
  refine b.so R σ H1 δ η1 Z _ _ l1 (s.up x1) q1 ⟨fun v2 d2 H2 η2 l2 x2 r2 q2=> ?_,fun C od x H' η' l' y=>kx C od x H' η' l' (x1.trans y)⟩
  obtain ⟨key,ek,q2⟩:=q2
  have x12:=x1.trans x2
  refine ih R σ H2 δ η2 Z _ _ l2 (s.up x12) q2 (fun ps kvs ds H3 η3 l3 x3 r3 q3=> ?_) fun C od x H' η' l' y=>kx C od x H' η' l' (x12.trans y)
  exact k _ ((key,v2)::kvs) _ H3 η3 l3 (x12.trans x3) (.cons (avz (r1.up x2) ek) ek (r2.up x3) r3) q3
theorem akz.forth{K:PySem.W.Frag}{R:Addr→Prop}{η:Eta}{H:Hp}{p C:Addr}{od:Option Addr}{x:D}(h:akz K (rup R p) η H C od x):akz K R η H C od x:=by
 obtain ⟨ns,ds,d,fs,e0,e1,e2,e3,e4,e5,e6⟩:=h
 exact ⟨ns,ds,d,fs,e0,e1,e2,e3,fun z=>e4 (.inr z),e5,(bJ.forth (fun _ _ _ h=>h) _ _ e6).1⟩
end
end DL
end
section
namespace EXX
open PySem PySem.Spec PyProof.Rows L2 Builtin Builtin.ObjectAttr
/-- what a built-in class of errors brings -/
structure aof(B newId initId:String)(bmB:List Value):Prop where
 F:ExcBaseFacts B newId initId bmB
 S:StoreFacts B bmB "object.__setattr__" "object"
 KF:PySem.W.KxsFacts B initId
theorem eb_VE:aof "ValueError" "ValueError.__new__" "ValueError.__init__" [.type "ValueError", .type "Exception", .type "BaseException", .type "object"]:=⟨PySem.F.excBase_ValueError,PySem.F.store_ValueError,PySem.W.kxs_ValueError⟩
theorem eb_LE:aof "LookupError" "LookupError.__new__" "LookupError.__init__" [.type "LookupError", .type "Exception", .type "BaseException", .type "object"]:=⟨PySem.F.excBase_LookupError,PySem.F.store_LookupError,PySem.W.kxs_LookupError⟩
theorem eb_IE:aof "IndexError" "IndexError.__new__" "IndexError.__init__" [.type "IndexError", .type "LookupError", .type "Exception", .type "BaseException", .type "object"]:=⟨PySem.F.excBase_IndexError,PySem.F.store_IndexError,PySem.W.kxs_IndexError⟩
/-- what the written part says of such a class -/
structure OexG(K:PySem.W.Frag)(B newId initId:String)(bmB:List Value)(C:Addr):Prop where
 eb:aof B newId initId bmB
 ini:PySem.W.excInitIn K C bmB newId=true
 ov:PySem.W.excOver K C bmB=true
 hd:PySem.W.hasDictIn K C=true
 sa:PySem.W.findIn K (.ref C) "__setattr__" =some (some (.builtin "object.__setattr__"))
 exC:PySem.W.subIn K (.ref C) (.type "BaseException")=some true
 exB:PySem.W.subIn K (.ref C) (.type B)=some true
 tyC:PySem.W.typeIn K (.ref C)=some (.type "type")
 kC:PySem.W.keepIn K (.ref C)=true
 su:PySem.W.ks_superIn K C C "__init__" =some (some (.builtin initId))
 op:PySem.W.nsIn K cStatics "thirdparty.any" =some none
section
variable {X:Cx}{pins:List (Addr × Obj)}{σ:L2.St}{H:Hp}{s:Shared}{a C dx:Addr}{f:Str}{y:V}{u:Value}{fs:List (Str × V)}{Q:Unit→Shared→Prop}{E:Value→Shared→Prop}{A:Around}{B newId initId:String}{bmB:List Value}
theorem apV(T:OexG X.K B newId initId bmB C):∃cd,PySem.W.clsIn X.K C=some cd∧cd.hasDict=true:=by
 obtain ⟨cd,h1,h2⟩:=PySem.W.any_some T.hd
 exact ⟨cd,h1,h2⟩
theorem aq4(I:Inv X pins σ H s)(e:H a=some (exo a C (some dx)))(ed:H dx=some (exd dx fs)):∃(t1:Addr) (mA:Str→Option Value),s.heap.get? a=some ({cls:= .ref C,dict:=some dx,data:= .fields #[.ref t1, .none, .none, .none, .bool false, .none]}:Obj)∧s.heap.Ns1 dx mA∧∀f,RelO (fs.lookup f) (mA f):=by
 obtain ⟨t1,ho⟩:=exo_at I.hok e
 obtain ⟨mA,hns,rel⟩:=exd_at I.hok ed
 exact ⟨t1,mA,ho,hns,rel⟩
/-- the first field:a dict is laid,the object names it,the field goes into it -/
theorem ost_new(T:OexG X.K B newId initId bmB C)(I:Inv X pins σ H s)(e:H a=some (exo a C none))(hno:PySem.W.takerIn X.K C f=some none)(ry:L2.RelV y u)
  (h:∀dx s',H dx=none→dx≠a→Inv X pins σ (upd (upd (upd H dx (exd dx [])) a (exo a C (some dx))) dx (exd dx [(f,y)])) s'→Q () s'):wpAny (model X.prog X.w) A (setAttr (.ref a) f u) Q E s:=by
 obtain ⟨cd,hcl,hh⟩:=apV T
 obtain ⟨t1,ho⟩:=exo_at I.hok e
 obtain ⟨hp,g,dr,tk,os⟩:=s
 have fr:H hp.objs.size=none:=I.hok.fresh (Nat.le_refl _)
 have na:a≠hp.objs.size:=Nat.ne_of_lt (Heap.lt_size ho)
 have inst:PySem.W.InstAt hp a {cls:= .ref C,dict:=none,data:= .fields #[.ref t1, .none, .none, .none, .bool false, .none]} C none:=⟨ho,rfl,rfl,trivial⟩
 refine PySem.W.set_plain I.kIn inst T.sa (PySem.W.osa_openX T.eb.S I.kIn inst T.ov hno fun b=> ?_)
 refine wpAny_bind (wpAny_pure (wpAny_bind (PySem.W.instanceDict_exc (c2:= .none) ho (PySem.W.looks_clsIn I.kIn hcl) hh ?_)))
 have em:(hp.push (PySem.W.dictOf [] 0)).Ns hp.objs.size fun _=>none:=⟨_,#[],_,Heap.get?_push_at rfl rfl,rfl,fun e he=>absurd he (by simp),fun _=>rfl⟩
 have I1:Inv X pins σ (upd H hp.objs.size (exd hp.objs.size [])) ⟨hp.push (PySem.W.dictOf [] 0),g,dr,tk,os⟩:=
  I.laid (t':=tk) (fun b o q=>Heap.get?_push_of_some _ q) (Nat.le_refl _) (exd_ok (mA:=fun _=>none) (Heap.Ns1.of_empty em) fun _=>True.intro)
 have ho1:(hp.push (PySem.W.dictOf [] 0)).get? a=some _:=Heap.get?_push_of_some _ ho
 have ho2:=Heap.get?_update_self (fun o:Obj=> {o with dict:=some hp.objs.size}) ho1 rfl
 have kp:∀b o,b≠a→(hp.push (PySem.W.dictOf [] 0)).get? b=some o→((hp.push (PySem.W.dictOf [] 0)).update a fun o=> {o with dict:=some hp.objs.size}).get? b=some o:=fun b o nb q=>(Heap.get?_update_ne _ _ _ _ nb).trans q
 have ea1:upd H hp.objs.size (exd hp.objs.size []) a=some (exo a C none):=by rw [upd_ne na];exact e
 have I2:Inv X pins σ (upd (upd H hp.objs.size (exd hp.objs.size [])) a (exo a C (some hp.objs.size))) ⟨(hp.push (PySem.W.dictOf [] 0)).update a fun o=> {o with dict:=some hp.objs.size},g,dr,tk,os⟩:=
  I1.write (t':=tk) (by rw [ea1];exact True.intro) (.inl rfl) kp ⟨_,ho2⟩ (exo_ok ho2)
 show wpAny _ _ (storeInDict hp.objs.size (.str f tk) f u) _ _ _
 refine PySem.HandSPX.store_in_new ⟨_,#[],_,(Heap.get?_update_ne _ _ _ _ na.symm).trans (Heap.get?_push_at rfl rfl),rfl,fun e he=>absurd he (by simp),fun _=>rfl⟩ fun h' tk' hn' hs=> ?_
 have ed2:upd (upd H hp.objs.size (exd hp.objs.size [])) a (exo a C (some hp.objs.size)) hp.objs.size=some (exd hp.objs.size []):=by rw [upd_ne na.symm,upd_same]
 obtain ⟨od,_,_,hod,_⟩:=id hn'
 exact h hp.objs.size _ fr na.symm (I2.write (t':=tk') (by rw [ed2];exact True.intro) (.inl rfl) (fun b o nb q=>(hs.2 b nb).trans q) ⟨od,hod⟩ (exd_ok hn' (relO_put (fs:= []) ry fun _=>True.intro)))
/-- a further field -/
theorem ost_old(T:OexG X.K B newId initId bmB C)(I:Inv X pins σ H s)(e:H a=some (exo a C (some dx)))(ed:H dx=some (exd dx fs))(hl:fs.length≤900)(hno:PySem.W.takerIn X.K C f=some none)(ry:L2.RelV y u)
  (h:∀s',Inv X pins σ (upd H dx (exd dx ((f,y)::fs))) s'→Q () s'):wpAny (model X.prog X.w) A (setAttr (.ref a) f u) Q E s:=by
 obtain ⟨cd,hcl,hh⟩:=apV T
 obtain ⟨t1,mA,ho,hns,rel⟩:=aq4 I e ed
 obtain ⟨hp,g,dr,tk,os⟩:=s
 obtain ⟨oD,_,_,hoD,_,_⟩:=hns.count (within_of rel)
 have inst:PySem.W.InstAt hp a {cls:= .ref C,dict:=some dx,data:= .fields #[.ref t1, .none, .none, .none, .bool false, .none]} C (some oD):=⟨ho,rfl,rfl,hoD⟩
 refine PySem.W.set_plain I.kIn inst T.sa (PySem.W.osa_openX T.eb.S I.kIn inst T.ov hno fun b=> ?_)
 have lc:PySem.W.Looks (model X.prog X.w) hp (classData C) cd:=PySem.W.looks_clsIn I.kIn hcl
 have hz:(fs.map (·.1)).length≤1000:=by rw [List.length_map];omega
 cases cd
 subst hh
 dsimp only
 unfold storeInOwnDict ownDictForStores
 repeat first | with_reducible refine PySem.OEX.store_in_old hns (within_of rel) hz ?_ | with_reducible refine wpAny_loadPart_at ho ?_ | with_reducible refine lc.at ?_ | wp_step
 intro h' tk' hn' hs
 obtain ⟨od,_,_,hod,_⟩:=id hn'
 exact h _ (I.write (t':=tk') (by rw [ed];exact True.intro) (.inl rfl) (fun b o nb q=>(hs.2 b nb).trans q) ⟨od,hod⟩ (exd_ok hn' (relO_put ry rel)))
end
/-- self.f=v,self an exception that is being made -/
def amg(K:PySem.W.Frag)(B newId initId:String)(bmB:List Value)(f:Str)(to:TE):TG:=fun y σ H Q=>to σ H fun x H2=> ∃a C:Addr,x= .ref a∧OexG K B newId initId bmB C∧PySem.W.takerIn K C f=some none∧
 ((H2 a=some (exo a C none)∧∀dx,H2 dx=none→dx≠a→Q σ (upd (upd (upd H2 dx (exd dx [])) a (exo a C (some dx))) dx (exd dx [(f,y)])))∨
  ∃(dx:Addr) (fs:List (Str × V)),H2 a=some (exo a C (some dx))∧H2 dx=some (exd dx fs)∧fs.length≤900∧Q σ (upd H2 dx (exd dx ((f,y)::fs))))
/-- the store itself,both ways -/
theorem apo{X:Cx}{B newId initId:String}{bmB:List Value}{pins:List (Addr × Obj)}{σ:L2.St}{H:Hp}{s:Shared}{a C:Addr}{f:Str}{y:V}{u:Value}{R:L2.St→Hp→Prop}{Q:Unit→Shared→Prop}{E:Value→Shared→Prop}(I:Inv X pins σ H s)(ry:L2.RelV y u)(T:OexG X.K B newId initId bmB C)(hno:PySem.W.takerIn X.K C f=some none)
  (h:(H a=some (exo a C none)∧∀dx,H dx=none→dx≠a→R σ (upd (upd (upd H dx (exd dx [])) a (exo a C (some dx))) dx (exd dx [(f,y)])))∨∃(dx:Addr) (fs:List (Str × V)),H a=some (exo a C (some dx))∧H dx=some (exd dx fs)∧fs.length≤900∧R σ (upd H dx (exd dx ((f,y)::fs))))
  (k:∀H' s',Inv X pins σ H' s'→R σ H'→Q () s'):wpAny (model X.prog X.w) X.A (setAttr (.ref a) f u) Q E s:=by
 rcases h with h | h
 ·exact ost_new T I h.1 hno ry fun dx s' n ne J=>k _ _ J (h.2 dx n ne)
 ·obtain ⟨dx,fs,h1,h2,h3,h4⟩:=h
  exact ost_old T I h1 h2 h3 hno ry fun s' J=>k _ _ J h4
theorem ari{X:Cx}{B newId initId:String}{bmB:List Value}{o:Expr}{to:TE}{f:Str}{pos:Pos}(ho:PE X o to):PG X (.Attribute o f pos) (amg X.K B newId initId bmB f to):=⟨fun pins s σ H v u Q I r h=>by
 rw [arm_assign_Attribute]
 refine wpAny_bind (wpAny_holding (thn (ho.run pins s σ H _ I h) fun ov s1 w=> ?_))
 obtain ⟨x,H1,I1,rx,a,C,rfl,T,hno,q⟩:=w
 cases (show ov=Value.ref a from rx)
 exact wpAny_bind (wpAny_standAt (wpAny_bind (wpAny_holding (apo I1 r T hno q fun H' s' J z=>wpAny_release ⟨σ,H',J,z⟩))))⟩
end EXX
end
section
namespace EXX
open PySem PySem.Spec PyProof.Rows L2
abbrev pG(qual:Str)(scope:Scope)(L f cda cc:Addr):Env:=PySem.W.ksEnv qual scope L f (.ref cda) cc
def acP(P:Program)(w:World)(K:PySem.W.Frag)(mg:Str→Option Value)(base:Heap)(N:List Str)(qual:Str)(scope:Scope)(f cda cc:Addr)(A:Around)(outer:List Env)(s:Shared)(H:Hp)(xe:Value→Shared→Prop):Cx where
 prog:=P
 w:=w
 K:=K
 mg:=mg
 base:=base
 A:=A.deeper (pG qual scope s.heap.objs.size f cda cc)
 N:=N
 s_0:=s
 H_0:=H
 env:=pG qual scope s.heap.objs.size f cda cc
 outer:=outer
 stack:=pG qual scope s.heap.objs.size f cda cc::outer
 ex:= []
 fn:=fun _=>false
 calm:=true
 pn:= []
 xe:=xe
/-- what the scope of such a def tells -/
structure SupS(N ps:List Str)(scope:Scope):Prop where
 kind:scope.kind= .function
 co:scope.isCoroutine=false
 gen:scope.isGenerator=false
 nd:N.Nodup
 pre:N=ps
 par:∀x ∈ ps,scope.names.lookup x=some .local
 nocell:∀x ∈ scope.names,x.2≠ .cell
 free:∀x ∈ scope.names,x.2= .free→x.1="__class__"
 sup:scope.names.lookup ("super" :Str)=some .globalImplicit
 cls:scope.names.lookup ("__class__" :Str)=some .free
section
variable {P:Program}{w:World}{K:PySem.W.Frag}{mg:Str→Option Value}{base:Heap}{N ps:List Str}{qual:Str}{scope:Scope}{f cda cc C:Addr}{A:Around}{outer:List Env}{s:Shared}{H:Hp}{xe:Value→Shared→Prop}{us:List Value}{vs:List V}{h₀:Heap}{tk:Nat}{cl:Value}{cld:Option Addr}{csl:Array (Option Value)}
theorem asT:∀ {ps:List Str} {us:List Value} {i:Nat} {x:Str} {u:Value},ps.Nodup→ps[i]? =some x→us[i]? =some u→(ps.zip us).reverse.lookup x=some u:=by
 intro ps us i x u nd h1 h2
 have key:∀(l:List (Str × Value)) (x:Str) (u:Value),(l.map (·.1)).Nodup→(x,u) ∈ l→l.lookup x=some u:=by
  intro l
  induction l with
  | nil=>intro x u _ h;cases h
  | cons q r ih=>
   intro x u n h
   obtain ⟨y,z⟩:=q
   rw [List.map_cons,List.nodup_cons] at n
   rw [List.lookup_cons]
   rcases List.mem_cons.mp h with e | e
   ·cases e;simp
   ·have ne:x≠y:=by
     rintro rfl
     exact n.1 (List.mem_map.mpr ⟨_,e,rfl⟩)
    rw [beq_false_of_ne ne]
    exact ih x u n.2 e
 refine key _ x u ?_ ?_
 ·rw [List.map_reverse]
  refine (List.reverse_perm _).nodup_iff.mpr ?_
  exact List.Nodup.sublist (by
   have:∀(a:List Str) (b:List Value),((a.zip b).map (·.1)).Sublist a:=by
    intro a
    induction a with
    | nil=>intro b;simp
    | cons y a ih=>
     intro b
     cases b with
     | nil=>simp
     | cons z b=>simpa using ih b
   exact this ps us) nd
 ·rw [List.mem_reverse]
  refine List.mem_iff_getElem?.mpr ⟨i,?_⟩
  rw [List.getElem?_zip_eq_some]
  exact ⟨h1,h2⟩
theorem aop(S:SupS N ps scope)(hd:A.handled=none)(e0:Env0 P w K mg base A outer s H)(hl:vs.length=ps.length)(r:Vals vs us)(hcell:K.lookup cc=some ⟨cl,cld, .cell (some (.ref C)),csl⟩)
  (hns:h₀.Ns s.heap.objs.size fun x=>(ps.zip us).reverse.lookup x)(kp:∀b o,s.heap.get? b=some o→h₀.get? b=some o):
  Inv (acP P w K mg base N qual scope f cda cc A outer s H xe) [] (L2.start N vs) H {s with heap:=h₀,toks:=tk}:=by
 have noA:∀b:Addr,b ∉ (acP P w K mg base N qual scope f cda cc A outer s H xe).ex:=fun b z=>absurd (show b ∈ ([]:List Addr) from z) (by simp)
 have cce:∀ {y:Str} {c:Addr},(acP P w K mg base N qual scope f cda cc A outer s H xe).env.cells.lookup y=some c→y="__class__" ∧c=cc:=fun {y c} e=>by
  have e:(match y==("__class__" :Str) with | true=>some cc | false=>([]:List (Str × Addr)).lookup y)=some c:=e
  cases q:(y==("__class__" :Str)) with
  | true=>rw [q] at e;cases e;exact ⟨beq_iff_eq.mp q,rfl⟩
  | false=>rw [q] at e;cases e
 have hb:=e0.bs cc _ (e0.mod.kin _ _ hcell)
 refine ⟨⟨e0.mod,S.kind,rfl,rfl,Nat.le_refl _,fun y z c e1 e2=>(cce e1).1.trans (cce e2).1.symm,fun y hy=> ?_,fun y c z _=> ?_,fun _=>hd,Around.frames_deeper e0.frames, .inr ⟨rfl,rfl⟩,fun b z=>absurd z (noA b),e0.bs,e0.bsz,fun b _ _=>noA b,fun b z=>absurd z (noA b),e0.funs,e0.frf⟩,
  rfl,e0.bare,Un.kept kp,⟨_,hns,fun i y v e1 e2 e3=> ?_⟩,fun y c e=> ?_,e0.hok.fresh (Nat.le_refl _),fun y c e=> ?_,fun q hq=>absurd (show q ∈ ([]:List (Addr × Obj)) ++ [] from hq) (by simp),e0.hok.kept kp,?_⟩
 ·have hy:scope.names.lookup y=some .cell∨scope.names.lookup y=some .free:=hy
  rcases hy with hy | hy
  ·exact absurd rfl (S.nocell _ (PySem.mem_of_lookup hy))
  ·have:=S.free _ (PySem.mem_of_lookup hy) rfl
   have e:y="__class__" :=this
   subst e
   exact ⟨cc,rfl⟩
 ·have z:false=true:=z
  cases z
 ·have e1:N[i]? =some y:=e1
  have hN:=S.pre
  subst hN
  have hi:i < vs.length:=by
   unfold L2.start at e2
   by_cases hi:i < vs.length
   ·exact hi
   ·rw [List.getElem?_append_right (by simpa using hi),List.getElem?_replicate] at e2
    split at e2 <;> cases e2
  have ha:vs[i]? =some v:=by
   unfold L2.start at e2
   rw [List.getElem?_append_left (by simpa using hi),List.getElem?_map] at e2
   cases e:vs[i]? with
   | none=>rw [e] at e2;cases e2
   | some a=>rw [e] at e2;cases e2;rfl
  obtain ⟨u,hu,rv⟩:=r.get ha
  exact ⟨u,rv, .inl ⟨S.par y (List.mem_of_getElem? e1),asT S.nd e1 hu⟩⟩
 ·obtain ⟨-,rfl⟩:=cce e
  exact ⟨some (.ref C),_,kp _ _ hb.1,rfl⟩
 ·obtain ⟨-,rfl⟩:=cce e
  exact hb.2
 ·have hN:=S.pre
  subst hN
  unfold L2.start
  show _=N.length
  rw [List.length_append,List.length_map,List.length_replicate]
  omega
/-- super().__init__(..),the end of such a def -/
theorem asC{X:Cx}{B newId initId:String}{bmB:List Value}{pins:List (Addr × Obj)}{σ:L2.St}{H2:Hp}{hp:Heap}{g:Array GenState}{dr:Drawn}{tk:Nat}{os:OsState}{a u:Addr}{d:Option Addr}{rest:List Value}{Q:Value→Shared→Prop}(T:OexG X.K B newId initId bmB C)(I:Inv X pins σ H2 ⟨hp,g,dr,tk,os⟩)(ea:H2 a=some (exo a C d))(hu:hp.get? u=some (PySem.W.kxs_mw initId a))(hz:rest.length≤sizeLine)
  (h:∀s',Inv X pins σ H2 s'→Q .none s'):wpAny (model X.prog X.w) X.A (call (.ref u) rest) Q X.xe ⟨hp,g,dr,tk,os⟩:=by
 obtain ⟨nm,N',qn,bs,bm,hdct,sn,sub,ab,col,dd,k0,k1,k2,k3,k5,hC,hT⟩:=PySem.W.excInit_of I.kIn T.ini
 obtain ⟨t1,he⟩:=exo_at I.hok ea
 refine wpAny_call (codeAny_of_tree ?_)
 show wpAny _ X.A.in1 (callAny (.ref u) ⟨rest,[]⟩) _ _ _
 simp only [callAny]
 refine wpAny_bind (wpAny_load hu ?_)
 simp only [PySem.W.kxs_mw,show (Value.type "method-wrapper" ==Value.type "method" || Value.type "method-wrapper" ==Value.type "builtin_function_or_method" || Value.type "method-wrapper" ==Value.type "method-wrapper")=true by decide,if_true]
 refine PySem.W.KFB.if_so (by decide) ?_
 refine wpAny_bind (PySem.W.check_bound_init T.eb.F.toExcCallFacts hC he rfl ?_)
 refine wpAny_bind (wpAny_pure (wpAny_pure ?_))
 refine ⟨plainId_quiet T.eb.F.init.plain _,codeAny_builtin T.eb.F.initEntry ?_⟩
 refine PySem.W.exc_init_tree (cls:= .ref C) (t0:=t1) (dv:=d) (c2:= .none) (c3:= .none) (b4:= .bool false) he hz fun h' k e' _=> ?_
 have J:=I.write (t':=tk) (x:=a) (e:=a) (o:=exo a C d) (by rw [ea];exact True.intro) (.inl rfl) k ⟨_,e'⟩ (exo_ok e')
 have eu:upd H2 a (exo a C d)=H2:=by
  funext b
  by_cases hb:b=a
  ·rw [hb,upd_same,ea]
  ·rw [upd_ne hb]
 rw [eu] at J
 exact h _ J
/-- the call of the bound __init__ -/
def azg(es:List Expr)(env:Env)(pos:Pos):Prop:=∀(M:Model) (A:Around) (E:Value→Shared→Prop) (s:Shared) (i:String) (u x:Addr) (Q:Value→Shared→Prop),wpAny M A (spliced (backTo pos (starEach es env))) (fun vs s₁=>PySem.W.KxsAt i u x s₁.heap∧wpAny M A (call (.ref u) vs) Q E s₁) E s→
 wpAny M A (callWith pos (.ref u) [] (backTo pos (starEach es env)) []) Q E s
theorem cw0{env:Env}{pos:Pos}:azg [] env pos:=fun M A E s i u x Q h=>PySem.W.kxs_callWith (i:=i) (x:=x) rfl (by
 have h:wpAny M A (pure []:Sem (List Value)) (fun vs s₁=>PySem.W.KxsAt i u x s₁.heap∧wpAny M A (call (.ref u) vs) Q E s₁) E s:=h
 intro Γ p hΓ
 have z:=h Γ p hΓ
 have z:PySem.W.KxsAt i u x s.heap∧wpAny M A (call (.ref u) []) Q E s:=z
 exact PyProof.Rows.evalArgs_empty (M:=M) (A:=A) (E:=E) (f:= .ref u) (Q:=fun ar s₁=>PySem.W.KxsAt i u x s₁.heap∧wpAny M A (call (.ref u) ([] ++ ar.pos) ar.kw) Q E s₁) z Γ p hΓ)
theorem cw1{env:Env}{pos:Pos}{e:Expr}{rest:List Expr}(he:starEach (e::rest) env=(false,eval e env)::starEach rest env:=by rfl)(hplain:(backTo pos (starEach rest env)).any (·.1)=false:=by rfl):azg (e::rest) env pos:=fun M A E s i u x Q h=>by
 rw [he] at h ⊢
 refine PySem.W.kxs_callWith (i:=i) (x:=x) (by show (false || (backTo pos (starEach rest env)).any (·.1))=false;rw [hplain];rfl) ?_
 exact Calls.evalArgs_plain h
/-- the def:one statement on its fields,then super().__init__(..) -/
theorem awL{CX:CXT}{B newId initId:String}{bmB:List Value}{k:Nat}{params:Arguments}{kV doc pm ct oc ccl:Value}{an od cdd:Option Addr}{osl ccs:Array (Option Value)}{vsC:Array Value}{file:Str}{tf:Tok}{ar:Arg}{st1:Stmt}{t1:TS}{es:List Expr}{ta:TA}{p0 p1 p2 p3 p4:Pos}{pl:Addr→Sem Bool}{sp:Sp}
  (lk:K.lookup f=some ⟨oc,od, .func (PySem.W.ksFn "__init__" qual params [st1, .Expr (.Call (.Attribute (.Call (.Name "super" p0) [] [] p1) "__init__" p2) es [] p3) p4] scope .none kV doc pm an (.ref cda) ct cc),osl⟩)
  (hcd:PySem.W.codeIn K (.ref cda) qual=true)(S:SupS N ps scope)(T:OexG K B newId initId bmB C)(hcell:K.lookup cc=some ⟨cl,cld, .cell (some (.ref C)),csl⟩)
  (hcode:K.lookup cda=some ⟨ccl,cdd, .fields vsC,ccs⟩)(hvs:vsC[2]? =some (.str file tf))(hfile:((P.main.file:Str)==file)=true)(htop:(P.main.scope.names.lookup ("super" :Str)).isSome=false)(hsup:mg "super" =none)
  (har:(params.posonlyargs ++ params.args).head?=some ar)(har2:ps[0]? =some ar.arg)
  (len:∀vs H Q E,sp vs H Q E→vs.length=ps.length)
  (hst:∀(A:Around) (outer:List Env) (s:Shared) (H:Hp) (xe:Value→Shared→Prop),PS (acP P w K mg base N qual scope f cda cc A outer s H xe) st1 t1)
  (hes:∀(A:Around) (outer:List Env) (s:Shared) (H:Hp) (xe:Value→Shared→Prop),PA (acP P w K mg base N qual scope f cda cc A outer s H xe) es ta)
  (hpl:∀(L:Addr),azg es (pG qual scope L f cda cc) p3)
  (hcl:∀(L:Addr),eval (.Call (.Attribute (.Call (.Name "super" p0) [] [] p1) "__init__" p2) es [] p3) (pG qual scope L f cda cc)=(do
   let ov ← attributeBase (.Call (.Name "super" p0) [] [] p1) "__init__" (pG qual scope L f cda cc) (eval (.Call (.Name "super" p0) [] [] p1) (pG qual scope L f cda cc))
   standAt p2.atName
   let (g,first) ← holding [ov] (getMethod ov "__init__" (pl L))
   callWith p3 g first (backTo p3 (starEach es (pG qual scope L f cda cc))) []))
  (hsw:∀(L:Addr),swapsWith (.Call (.Attribute (.Call (.Name "super" p0) [] [] p1) "__init__" p2) es [] p3) none p4.line (pG qual scope L f cda cc)=pure false)
  (hsp:∀vs H Q E,sp vs H Q E→∃a,vs[0]? =some (.ref a)∧t1 {nx:=fun σ H2=>(∃d,σ[0]? =some (some (.ref a))∧H2 a=some (exo a C d))∧ta σ H2 fun ws H3=>ws.length≤1000∧(∃d,H3 a=some (exo a C d))∧Q .non H3,rt:=fun _ _=>False} (L2.start N vs) H):
  FnOk P w K mg base CX (k + 1) f (PySem.W.ksFn "__init__" qual params [st1, .Expr (.Call (.Attribute (.Call (.Name "super" p0) [] [] p1) "__init__" p2) es [] p3) p4] scope .none kV doc pm an (.ref cda) ct cc) ps sp:=by
 refine ⟨len,fun A outer s H args us vs Q E hr e0 hb r hsp'=> ?_⟩
 have hl:=len _ _ _ _ hsp'
 obtain ⟨a,ha,ht⟩:=hsp _ _ _ _ hsp'
 have KX:K.In s.heap:=e0.mod.kin.keeps fun b o e=>(e0.bs b o e).1
 have lim:s.heap.NoLimit:=e0.mod.nolimit.keeps fun b o e=>(e0.bs b o e).1
 refine ks_codeAny_call_defAt (fd:=PySem.W.ksFn "__init__" qual params [st1, .Expr (.Call (.Attribute (.Call (.Name "super" p0) [] [] p1) "__init__" p2) es [] p3) p4] scope .none kV doc pm an (.ref cda) ct cc) (binds:=ps.zip us) hr.depth (KX _ _ lk) rfl lim (PySem.W.codeRec_of KX hcd) rfl hb S.nocell (fun y hy=> ?_) (fun h₀ hns kp=> ?_) S.co S.gen S.kind
 ·obtain ⟨n,v⟩:=y
  exact S.par n (List.of_mem_zip hy).1
 show _root_.PySem.wpAt (model P w) (A.deeper (pG qual scope s.heap.objs.size f cda cc)) (.func _ (pG qual scope s.heap.objs.size f cda cc)) (execs _ (pG qual scope s.heap.objs.size f cda cc)) _ _ _
 generalize hX:acP P w K mg base N qual scope f cda cc A outer s H (fun e s'=>wpAny (model P w) (A.deeper (pG qual scope s.heap.objs.size f cda cc)) (leaving (pG qual scope s.heap.objs.size f cda cc) e) (fun _ s''=>CR CX outer P w H s Q E (.error e) s'') (fun e' s''=>CR CX outer P w H s Q E (.error e') s'') s')=X
 have I0:Inv X [] (L2.start N vs) H {s with heap:=h₀,toks:=s.toks + (ps.zip us).length}:=by
  rw [← hX];exact aop S hr.hd e0 hl r hcell hns kp
 have hS1:PS X st1 t1:=by rw [← hX];exact hst _ _ _ _ _
 have hA1:PA X es ta:=by rw [← hX];exact hes _ _ _ _ _
 have hXA:X.A=A.deeper (pG qual scope s.heap.objs.size f cda cc):=by rw [← hX] <;> rfl
 have hXe:X.env=pG qual scope s.heap.objs.size f cda cc:=by rw [← hX] <;> rfl
 have hXx:X.xe=fun e s'=>wpAny (model P w) (A.deeper (pG qual scope s.heap.objs.size f cda cc)) (leaving (pG qual scope s.heap.objs.size f cda cc) e) (fun _ s''=>CR CX outer P w H s Q E (.error e) s'') (fun e' s''=>CR CX outer P w H s Q E (.error e') s'') s':=by rw [← hX] <;> rfl
 have hXP:X.prog=P:=by rw [← hX] <;> rfl
 have hXw:X.w=w:=by rw [← hX] <;> rfl
 have hXK:X.K=K:=by rw [← hX] <;> rfl
 have hXm:X.mg=mg:=by rw [← hX] <;> rfl
 have hXN:X.N=N:=by rw [← hX] <;> rfl
 have fin:∀ {σ':L2.St} {H':Hp} {s':Shared},Inv X [] σ' H' s'→Q .non H'→CR CX outer P w H s Q E (.ok (.ret .none)) s':=fun {σ' H' s'} J q=>by
  have os:=J.os
  have bare:=J.bare
  have un:=J.base
  have ok:=J.hok
  rw [← hX] at os un ok
  exact ⟨.non,H',os,bare,un,ok,rfl,q⟩
 have W1:=hS1.run [] _ _ H _ I0 ht
 rw [hXP,hXw,hXA,hXe,hXx] at W1
 refine ks_wpAt_execs_cons (wpAt_of_wpAny (wpAny_mono W1 (fun fl s1 hs=> ?_) fun e s' x=>x))
 cases fl with
 | ret u=>
  obtain ⟨_,_,_,_,_,z⟩:=hs
  exact False.elim z
 | brk=>
  obtain ⟨_,_,_,z⟩:=hs
  exact False.elim z
 | cont=>
  obtain ⟨_,_,_,z⟩:=hs
  exact False.elim z
 | next=>
  obtain ⟨σ2,H2,I2,⟨d2,hs0,ea⟩,q2⟩:=hs
  refine ks_wpAt_execs_cons (ks_wpAt_Expr_any ?_ (by unfold interactive;simp [S.kind]) (hsw _))
  refine ks_wpAt_MethodCall (pl:=pl _) ?_ (hcl _)
  obtain ⟨hp,g,dr,tk,os⟩:=s1
  have K2:K.In hp:=by have:=I2.kIn;rw [hXK] at this;exact this
  obtain ⟨t0,he⟩:=exo_at I2.hok ea
  obtain ⟨m,hn,hlk⟩:=id I2.loc
  have hm0:m ar.arg=some (.ref a):=by
   have hN:=S.pre
   have e0:X.N[0]? =some ar.arg:=by rw [hXN,hN];exact har2
   have hv:X.env.scope.names.lookup ar.arg=some .local:=by rw [hXe];exact S.par _ (List.mem_of_getElem? har2)
   obtain ⟨u,ru,q⟩:=hlk 0 ar.arg (.ref a) e0 hs0 (.inl hv)
   obtain rfl:u=Value.ref a:=ru
   rcases q with ⟨_,e⟩ | ⟨z,_⟩
   ·exact e
   ·have hv':X.env.kindOf ar.arg=some .local:=hv
    rw [hv'] at z
    rcases z with z | z <;> cases z
  have hn':hp.Ns s.heap.objs.size m:=by have z:=hn;rw [hXe] at z;exact z
  obtain ⟨cdD,hD,hmro⟩:∃cd,PySem.W.clsIn K C=some cd∧True:=by
   obtain ⟨cd,h1,_⟩:=PySem.W.any_some T.hd
   exact ⟨cd,h1,trivial⟩
  obtain ⟨oD,hD1,hD2⟩:∃oD,hp.get? C=some oD∧oD.data= .cls cdD:=by
   unfold PySem.W.clsIn at hD
   split at hD
   ·rename_i c d cd' sl ho
    cases hD
    exact ⟨_,K2 _ _ ho,rfl⟩
   ·cases hD
  have hglob:hp.Ns mainGlobals mg:=by have z:=I2.mod.glob.keeps I2.bk;rw [hXm] at z;exact z
  obtain ⟨mb,hb1,hb2⟩:=I2.mod.blt
  have hb1:hp.Ns builtinsNs mb:=hb1.keeps I2.bk
  have subC:PySem.W.Looks (model P w) hp (isSubtype (.ref C) (.ref C)) true:=by
   refine PySem.W.looks_mroIn K2 ?_
   obtain ⟨cd,h1,h2⟩:=PySem.W.any_some T.ov
   rw [h1] at hD
   cases hD
   unfold PySem.W.mroIn
   rw [h1,Option.bind_some]
   split at h2
   ·rename_i C' bm hm
    rw [Bool.and_eq_true,beq_iff_eq] at h2
    rw [hm,h2.1,if_neg (by simp)]
    simp
   ·cases h2
  refine ks_wpAt_super_base (env:=pG qual scope s.heap.objs.size f cda cc) S.sup S.cls rfl rfl (K2 _ _ lk) rfl har rfl (K2 _ _ hcode) rfl hvs hfile htop ?_
  refine PySem.W.ks_loadName_global S.kind S.sup (Calls.loadGlobal_builtin (env:=pG qual scope s.heap.objs.size f cda cc) hglob hsup hb1 ((hb2 _ (by decide)).trans (by kernel_rfl:bootBuiltins "super" =some (.type "super"))) ⟨rfl,?_⟩)
  refine wpAny_loadName_free S.kind S.cls rfl ⟨_,K2 _ _ hcell,rfl⟩ ?_
  refine wpAny_loadName_local S.kind (S.par _ (List.mem_of_getElem? har2)) hn' hm0 ?_
  refine ks_wpAny_isType_cls hD1 hD2 ⟨rfl,?_⟩
  refine ks_wpAny_call_super hD1 hD2 he rfl (fun c e=>by cases e) subC (fun h' hso k1=> ?_)
  have I3:Inv X [] σ2 H2 ⟨h',g,dr,tk,os⟩:=I2.kept (s:=⟨hp,g,dr,tk,os⟩) (t':=tk) k1
  have he3:=k1 _ _ he
  have K3:K.In h':=K2.keeps k1
  have xC:a≠C:=fun z=>by
   rw [z,hD1] at he
   cases he
   cases hD2
  have LT:PySem.W.Looks (model P w) h' (typeOf (.ref a)) (.ref C):=fun A Q E s k q=>wpAny_typeOf_ref (k _ _ he3) q
  have hsu:=T.su
  unfold PySem.W.ks_superIn at hsu
  rw [hD,Option.bind_some] at hsu
  refine PySem.W.kxs_getMethod T.eb.KF hso (PySem.W.looks_opaque K3 T.op) (l₀:=cdD.mro) (fun A Q E s k q=>wpAny_bind ((PySem.W.looks_clsIn K3 hD) A _ E s k (wpAny_pure q))) rfl K3 hsu (LT.andThen (PySem.W.looks_subIn K3 T.exB)) xC rfl ?_
  have kp4:∀b o,h'.get? b=some o→(h'.push (PySem.W.kxs_mw initId a)).get? b=some o:=fun b o e=>Heap.get?_push_of_some _ e
  have I4:Inv X [] σ2 H2 ⟨h'.push (PySem.W.kxs_mw initId a),g,dr,tk + 1,os⟩:=I3.kept (s:=⟨h',g,dr,tk,os⟩) (t':=tk + 1) kp4
  have hu4:(h'.push (PySem.W.kxs_mw initId a)).get? h'.objs.size=some (PySem.W.kxs_mw initId a):=Heap.get?_push_size _ rfl
  have T':OexG X.K B newId initId bmB C:=by rw [hXK];exact T
  have I4p:Inv X [(h'.objs.size,PySem.W.kxs_mw initId a)] σ2 H2 ⟨h'.push (PySem.W.kxs_mw initId a),g,dr,tk + 1,os⟩:=I4.pins_of fun p hp=>by
   obtain rfl:p=(h'.objs.size,PySem.W.kxs_mw initId a):=by simpa using hp
   refine ⟨hu4,I3.hok.fresh (Nat.le_refl _),fun z=> ?_,I3.nofs (Nat.le_refl _),fun v z=>by cases z⟩
   have h1:=I3.lt
   have z':h'.objs.size=X.env.locals:=z
   have h1':X.env.locals < h'.objs.size:=h1
   rw [z'] at h1'
   exact absurd h1' (Nat.lt_irrefl _)
  refine hpl _ _ _ _ _ initId _ a _ ?_
  have W2:=hA1.run p3 _ _ σ2 H2 _ I4p q2
  rw [hXP,hXw,hXA,hXe,hXx] at W2
  refine wpAny_mono W2 (fun ws s5 h5=> ?_) fun e s' x=>x
  obtain ⟨vs5,H3,I5,r5,hz5,⟨d3,ea3⟩,q3⟩:=h5
  have hu5:=(I5.pin _ (List.mem_append_right _ List.mem_cons_self)).1
  obtain ⟨h5,g5,dr5,tk5,os5⟩:=s5
  refine ⟨hu5,?_⟩
  have W3:=asC (Q:=fun v s'=>v= .none∧Inv X [] σ2 H3 s') T' (I5.unpinned (pins:= [])) ea3 hu5 (by rw [← Paired.length r5,sizeLine_eq];omega) fun s' J=>⟨rfl,J⟩
  rw [hXP,hXw,hXA,hXx] at W3
  refine wpAny_mono W3 (fun v s' hv=> ?_) fun e s' x=>x
  obtain ⟨rfl,J⟩:=hv
  refine wpAt_of_wpAny (wpAny_execs_nil ?_)
  exact fin J q3
end
end EXX
end
section
namespace EXX
open PySem PySem.Spec PyProof.Rows L2
section
variable {X:Cx}{B newId initId:String}{bmB:List Value}{o e:Expr}{to te:TE}{f:Str}{p' pos:Pos}
/-- o.f=e,o an exception that is being made -/
theorem auh(ho:PE X o to)(he:PE X e te)(hs:swapsWith e (some (.Attribute o f p')) pos.line X.env=pure false:=by rfl):PS X (.Assign [.Attribute o f p'] e pos) (tAsg te (amg X.K B newId initId bmB f to)):=⟨fun pins s σ H D I h=>by
 refine plainObj_wpAny_Assign_Attribute (thn (he.run pins s σ H _ I h) fun v s1 w1=> ?_) hs
 obtain ⟨y,H1,I1,ry,g⟩:=w1
 refine thn (ho.run pins s1 σ H1 _ I1 g) fun u s2 w2=> ?_
 obtain ⟨z,H2,I2,rz,a,C,rfl,T,hno,q⟩:=w2
 cases (show u=Value.ref a from rz)
 exact apo I2 ry T hno q fun H' s' J z=>⟨σ,H',J,z⟩⟩
end
/-- what the making of an exception leaves:all but a as it was,a with a new dict of these fields -/
def Stored(C a:Addr)(fs:List (Str × V))(H H':Hp):Prop:=(∀b o,b≠a→H b=some o→H' b=some o)∧∃d,H d=none∧d≠a∧H' a=some (exo a C (some d))∧H' d=some (exd d fs)
/-- the promise of C.__init__(self,x):self.code,self.x=nm,x;super().__init__(x) -/
def spX1(C:Addr)(nm x:Str):Sp:=fun vs H Q _=> ∃a v,vs= [.ref a,v]∧H a=some (exo a C none)∧∀H',Stored C a [(x,v),("code", .str nm)] H H'→Q .non H'
/-- .. of C.__init__(self):self.code=nm;super().__init__() -/
def spX0(C:Addr)(nm:Str):Sp:=fun vs H Q _=> ∃a,vs= [.ref a]∧H a=some (exo a C none)∧∀H',Stored C a [("code", .str nm)] H H'→Q .non H'
theorem agq{C a d:Addr}{H:Hp}{f:Str}{y:V}(ha:H a=some (exo a C none))(hd:H d=none)(da:d≠a):Stored C a [(f,y)] H (upd (upd (upd H d (exd d [])) a (exo a C (some d))) d (exd d [(f,y)])):=
 ⟨fun b o nb e=>by rw [upd_ne (ne_of_none e hd),upd_ne nb,upd_ne (ne_of_none e hd)];exact e,d,hd,da,by rw [upd_ne da.symm,upd_same],upd_same⟩
theorem Stored.more{C a:Addr}{H H':Hp}{fs gs:List (Str × V)}(s:Stored C a fs H H'):∀d,H' a=some (exo a C (some d))→H' d=some (exd d fs)→H d=none→d≠a→Stored C a gs H (upd H' d (exd d gs)):=fun d h1 h2 h3 h4=>
 ⟨fun b o nb e=>by rw [upd_ne (ne_of_none e h3)];exact s.1 b o nb e,d,h3,h4,by rw [upd_ne h4.symm];exact h1,upd_same⟩
section
variable {K:PySem.W.Frag}{C:Addr}{B newId initId:String}{bmB:List Value}{nm x:Str}
theorem aC8{a:Addr}{H:Hp}{v:V}(T:OexG K B newId initId bmB C)(h1:PySem.W.takerIn K C "code" =some none)(h2:PySem.W.takerIn K C x=some none)(ha:H a=some (exo a C none)){Q:L2.St→Hp→Prop}
  (h:∀H',Stored C a [(x,v),("code", .str nm)] H H'→Q (L2.start (["self",x]:List Str) [.ref a,v]) H'):
  tAsg (tTup (tCons (tC (.str nm)) (tCons (tVar 1) tNil))) (gTup K 2 (gCons (amg K B newId initId bmB "code" (tVar 0)) (gCons (amg K B newId initId bmB x (tVar 0)) gNil))) {nx:=Q,rt:=fun _ _=>False} (L2.start (["self",x]:List Str) [.ref a,v]) H:=by
 refine ⟨v,rfl,by show 2≤sizeLine;rw [sizeLine_eq];decide,fun p hp=> ?_⟩
 have pa:p≠a:=fun z=>by rw [z,ha] at hp;cases hp
 have ha':upd H p (.tup [.str nm,v]) a=some (exo a C none):=by rw [upd_ne pa.symm];exact ha
 refine ⟨p,[.str nm,v],rfl, .inl (.inl upd_same),rfl, .str nm,[v],rfl, .ref a,rfl,a,C,rfl,T,h1, .inl ⟨ha',fun d hd da=> ?_⟩⟩
 have st:=agq (f:="code") (y:= .str nm) ha' hd da
 have dp:d≠p:=fun z=>by rw [z,upd_same] at hd;cases hd
 refine ⟨v,[],rfl, .ref a,rfl,a,C,rfl,T,h2, .inr ⟨d,_,by rw [upd_ne da.symm,upd_same],upd_same,by show 1≤900;decide,rfl,h _ ?_⟩⟩
 obtain ⟨m1,d',m2,m3,m4,m5⟩:=st.more (gs:= [(x,v),("code", .str nm)]) d (by rw [upd_ne da.symm,upd_same]) upd_same hd da
 refine ⟨fun b o nb e=>m1 b o nb (by rw [upd_ne (ne_of_none e hp)];exact e),d',?_,m3,m4,m5⟩
 by_cases q:d'=p
 ·rw [q,upd_same] at m2;cases m2
 ·rw [upd_ne q] at m2;exact m2
end
/-- what the written part says of the __init__ at f,its code at cda,its __class__ cell at cc -/
structure SupF(P:Program)(K:PySem.W.Frag)(mg:Str→Option Value)(C f:Addr)(qual:Str)(params:Arguments)(body:List Stmt)(scope:Scope)(cda cc:Addr)(fd:FuncData):Prop where
 ex:∃(oc kV doc pm ct ccl cl:Value) (an od cdd cld:Option Addr) (osl ccs csl:Array (Option Value)) (vsC:Array Value) (file:Str) (tf:Tok),fd=PySem.W.ksFn "__init__" qual params body scope .none kV doc pm an (.ref cda) ct cc∧K.lookup f=some ⟨oc,od, .func fd,osl⟩∧PySem.W.codeIn K (.ref cda) qual=true∧
  K.lookup cc=some ⟨cl,cld, .cell (some (.ref C)),csl⟩∧K.lookup cda=some ⟨ccl,cdd, .fields vsC,ccs⟩∧vsC[2]? =some (.str file tf)∧((P.main.file:Str)==file)=true
 top:(P.main.scope.names.lookup ("super" :Str)).isSome=false
 sup:mg "super" =none
section
variable {P:Program}{w:World}{K:PySem.W.Frag}{mg:Str→Option Value}{base:Heap}{CX:CXT}{C f cda cc:Addr}{B newId initId:String}{bmB:List Value}{nm x qual:Str}{scope:Scope}{k:Nat}{params:Arguments}{fd:FuncData}{ar:Arg}{k1 k2 k3:Nat}{q1 q2 q3 q4 q5 q6 q7 q8 q9 p0 p1 p2 p3 p4 p5:Pos}
theorem fnSup1{pl:Addr→Sem Bool}(F:SupF P K mg C f qual params [.Assign [.Tuple [.Attribute (.Name "self" q1) "code" q2, .Attribute (.Name "self" q3) x q4] k1 q5] (.Tuple [.Constant (.str nm) k2 q6, .Name x q7] k3 q8) p5, .Expr (.Call (.Attribute (.Call (.Name "super" p0) [] [] p1) "__init__" p2) [.Name x q9] [] p3) p4] scope cda cc fd)
  (S:SupS ["self",x] ["self",x] scope)(T:OexG K B newId initId bmB C)(har:(params.posonlyargs ++ params.args).head?=some ar)(hsf:ar.arg="self")(h1:PySem.W.takerIn K C "code" =some none)(h2:PySem.W.takerIn K C x=some none)(hx:(x==("__debug__" :Str))=false)(hx2:(x==("__classdict__" :Str))=false)
  (hcl:∀L:Addr,eval (.Call (.Attribute (.Call (.Name "super" p0) [] [] p1) "__init__" p2) [.Name x q9] [] p3) (pG qual scope L f cda cc)=(do
   let ov ← attributeBase (.Call (.Name "super" p0) [] [] p1) "__init__" (pG qual scope L f cda cc) (eval (.Call (.Name "super" p0) [] [] p1) (pG qual scope L f cda cc))
   standAt p2.atName
   let (g,first) ← holding [ov] (getMethod ov "__init__" (pl L))
   callWith p3 g first (backTo p3 (starEach [.Name x q9] (pG qual scope L f cda cc))) []):=by intro L;rfl):
  FnOk P w K mg base CX (k + 1) f fd ["self",x] (spX1 C nm x):=by
 obtain ⟨oc,kV,doc,pm,ct,ccl,cl,an,od,cdd,cld,osl,ccs,csl,vsC,file,tf,rfl,lk,hcd,hcell,hcode,hvs,hfile⟩:=F.ex
 have px:scope.names.lookup x=some .local:=S.par x (by simp)
 have ps:scope.names.lookup ("self" :Str)=some .local:=S.par "self" (by simp)
 refine awL (t1:=tAsg (tTup (tCons (tC (.str nm)) (tCons (tVar 1) tNil))) (gTup K 2 (gCons (amg K B newId initId bmB "code" (tVar 0)) (gCons (amg K B newId initId bmB x (tVar 0)) gNil)))) (ta:=tCons (tVar 1) tNil) lk hcd S T hcell hcode hvs hfile F.top F.sup har (by rw [hsf];rfl) (fun vs H Q E h=> ?_) (fun A outer s H xe=> ?_) (fun A outer s H xe=> ?_) (fun L=>cw1) hcl (fun L=>by rfl) fun vs H Q E h=> ?_
 ·obtain ⟨a,v,rfl,_⟩:=h;rfl
 ·have hw:swappedStores [.Tuple [.Attribute (.Name "self" q1) "code" q2, .Attribute (.Name "self" q3) x q4] k1 q5] (.Tuple [.Constant (.str nm) k2 q6, .Name x q7] k3 q8) (acP P w K mg base ["self",x] qual scope f cda cc A outer s H xe).env=pure none:=by
   unfold swappedStores
   have hb:(acP P w K mg base ["self",x] qual scope f cda cc A outer s H xe).env.blockKind= .function:=by
    have hk:(acP P w K mg base ["self",x] qual scope f cda cc A outer s H xe).env.scope.kind= .function:=S.kind
    simp [Env.blockKind,hk,ScopeKind.isAnnotationScope]
   simp [hb]
  exact ps_asg (hw:=hw) (pe_tup (pa_cons pe_str (pa_cons (pe_var (i:=1) rfl (.inl px) hx hx2) pa_nil))) (pg_tup rfl (pgs_cons (ari (pe_var (i:=0) rfl (.inl ps))) (pgs_cons (ari (pe_var (i:=0) rfl (.inl ps))) pgs_nil)))
 ·exact pa_cons (pe_var (i:=1) rfl (.inl px) hx hx2) pa_nil
 ·obtain ⟨a,v,rfl,ha,h⟩:=h
  refine ⟨a,rfl,aC8 T h1 h2 ha fun H' st=> ?_⟩
  obtain ⟨_,d,_,_,e1,_⟩:=id st
  exact ⟨⟨some d,rfl,e1⟩,v,rfl,by show 1≤1000;decide,⟨some d,e1⟩,h H' st⟩
theorem fnSup0{pl:Addr→Sem Bool}(F:SupF P K mg C f qual params [.Assign [.Attribute (.Name "self" q1) "code" q2] (.Constant (.str nm) k2 q6) p5, .Expr (.Call (.Attribute (.Call (.Name "super" p0) [] [] p1) "__init__" p2) [] [] p3) p4] scope cda cc fd)
  (S:SupS ["self"] ["self"] scope)(T:OexG K B newId initId bmB C)(har:(params.posonlyargs ++ params.args).head?=some ar)(hsf:ar.arg="self")(h1:PySem.W.takerIn K C "code" =some none)
  (hcl:∀L:Addr,eval (.Call (.Attribute (.Call (.Name "super" p0) [] [] p1) "__init__" p2) [] [] p3) (pG qual scope L f cda cc)=(do
   let ov ← attributeBase (.Call (.Name "super" p0) [] [] p1) "__init__" (pG qual scope L f cda cc) (eval (.Call (.Name "super" p0) [] [] p1) (pG qual scope L f cda cc))
   standAt p2.atName
   let (g,first) ← holding [ov] (getMethod ov "__init__" (pl L))
   callWith p3 g first (backTo p3 (starEach [] (pG qual scope L f cda cc))) []):=by intro L;rfl):
  FnOk P w K mg base CX (k + 1) f fd ["self"] (spX0 C nm):=by
 obtain ⟨oc,kV,doc,pm,ct,ccl,cl,an,od,cdd,cld,osl,ccs,csl,vsC,file,tf,rfl,lk,hcd,hcell,hcode,hvs,hfile⟩:=F.ex
 have ps:scope.names.lookup ("self" :Str)=some .local:=S.par "self" (by simp)
 refine awL (t1:=tAsg (tC (.str nm)) (amg K B newId initId bmB "code" (tVar 0))) (ta:=tNil) lk hcd S T hcell hcode hvs hfile F.top F.sup har (by rw [hsf];rfl) (fun vs H Q E h=> ?_) (fun A outer s H xe=> ?_) (fun A outer s H xe=> ?_) (fun L=>cw0) hcl (fun L=>by rfl) fun vs H Q E h=> ?_
 ·obtain ⟨a,rfl,_⟩:=h;rfl
 ·exact auh (pe_var (i:=0) rfl (.inl ps)) pe_str
 ·exact pa_nil
 ·obtain ⟨a,rfl,ha,h⟩:=h
  refine ⟨a,rfl, .ref a,rfl,a,C,rfl,T,h1, .inl ⟨ha,fun d hd da=> ?_⟩⟩
  have st:=agq (f:="code") (y:= .str nm) ha hd da
  obtain ⟨_,d',_,_,e1,_⟩:=id st
  exact ⟨⟨some d',rfl,e1⟩,by show 0≤1000;decide,⟨some d',e1⟩,h _ st⟩
end
section
variable {X:Cx}{B newId initId:String}{bmB:List Value}{x:Str}{C fI:Addr}{k:Nat}{fd:FuncData}{ps:List Str}{sp:Sp}{p pos:Pos}{es:List Expr}{ta:TA}
/-- the two objects that the making lays first -/
theorem exc_laid{pins:List (Addr × Obj)}{σ:L2.St}{H:Hp}{s:Shared}(I:Inv X pins σ H s)(us:List Value):(∀b o,s.heap.get? b=some o→((s.heap.push (PySem.W.kdv_tup us)).push (PySem.HandSPX.excO C s.heap.objs.size)).get? b=some o)∧H (s.heap.objs.size + 1)=none∧
  Inv X pins σ (upd H (s.heap.objs.size + 1) (exo (s.heap.objs.size + 1) C none)) {s with heap:=(s.heap.push (PySem.W.kdv_tup us)).push (PySem.HandSPX.excO C s.heap.objs.size)}:=by
 have up:∀b o,s.heap.get? b=some o→((s.heap.push (PySem.W.kdv_tup us)).push (PySem.HandSPX.excO C s.heap.objs.size)).get? b=some o:=fun b o e=>Heap.get?_push_of_some _ (Heap.get?_push_of_some _ e)
 refine ⟨up,I.hok.fresh (Nat.le_succ _),I.laid (t':=s.toks) up (Nat.le_succ _) (exo_ok (t1:=s.heap.objs.size) ?_)⟩
 heap_get
end
end EXX
end
section
namespace EXX
open PySem PySem.Spec PyProof.Rows L2
theorem axE{P:Program}{w:World}{H:Hp}{h:Heap}{a C d:Addr}{oe:Obj}{vs:Array Value}(e:h.get? a=some oe)(z:Zc (.ref C) (some d) oe)(q:oe.data= .fields vs):ObjOk P w H h a (DL.Exv C d a):=
 ⟨⟨oe,vs,e,z.1,z.2,q⟩,⟨oe,e⟩,fun _ _ ⟨o,v,e,r⟩ k=>⟨o,v,k o e,r⟩⟩
/-- e.f,e an exception that is told -/
def tXv(K:PySem.W.Frag)(f:Str)(te:TE):TE:=fun σ H Q=>te σ H fun x H1=> ∃(a C d:Addr) (fs:List (Str × V)) (v:V),x= .ref a∧H1 a=some (DL.Exv C d a)∧XfC K C∧PySem.W.findIn K (.ref C) f=some none∧H1 d=some (.xd fs)∧fs.lookup f=some v∧Q v H1
theorem pe_xv{X:Cx}{e:Expr}{te:TE}{pos:Pos}{n:Str}(he:PE X e te)(hb:attributeBase e n X.env (eval e X.env)=eval e X.env:=by rfl):PE X (.Attribute e n pos) (tXv X.K n te):=by
 refine ⟨fun pins s σ H Q I h=> ?_⟩
 refine attr_of hb (thn (he.run pins s σ H _ I h) fun u s1 hh=> ?_)
 obtain ⟨x,H1,I1,rx,a,C,d,fs,v,ex,ha,T,hno,ed,l,q⟩:=hh
 subst ex
 obtain rfl:u=Value.ref a:=rx
 have hA:ObjOk X.prog X.w H1 s1.heap a (DL.Exv C d a):=I1.hok a _ ha
 obtain ⟨⟨oe,vs,ho,hc,hd,hdt⟩,_⟩:=hA
 have hx:ObjOk X.prog X.w H1 s1.heap d (.xd fs):=I1.hok d _ ed
 obtain ⟨mA,hns,hr⟩:=hx
 obtain ⟨od,hod,hl⟩:=lookIn_ns hns
 obtain ⟨u,hu,ru⟩:=RelO.some_of (v:=v) (o:=mA n) (by rw [← l];exact hr n)
 have J:PySem.W.InstAt s1.heap a oe C (some od):=⟨ho,hc,by unfold PySem.W.notCls;rw [hdt] <;> rfl,by rw [hd];exact hod⟩
 exact HandSPX.exc_get I1.kIn J T.ga T.gg T.exC (PySem.W.findObj_own T.hdC hno rfl (by rw [hl,hu])) (handed_of ru) ⟨v,H1,I1.tok _,ru,q⟩
end EXX
end
section
namespace DL
open PySem PySem.Spec PyProof.Rows L2
def dXf(K:PySem.W.Frag)(da:DE)(f:Str):DE:=fun Z δ η Φ=>da Z δ η fun x η1=> ∃C ns ds d,x= .exc C ns ds∧XfC K C∧PySem.W.findIn K (.ref C) f=some none∧lkp ns ds f=some d∧Φ d η1
section
variable {X:Cx}{E:XK}{e:Expr}{te:TE}{de:DE}{f:Str}{pos:Pos}
theorem auq(he:PD X E e te de)(hb:attributeBase e f X.env (eval e X.env)=eval e X.env:=by rfl):PD X E (.Attribute e f pos) (EXX.tXv X.K f te) (dXf X.K de f):=⟨EXX.pe_xv he.pe hb,fun R σ H δ η Z Φ Q l s h k=>by
 refine he.so R σ H δ η Z _ _ l s h (k.to fun v1 d1 H1 η1 l1 e1 r1 h1=> ?_)
 obtain ⟨C,ns,ds,d,rfl,c,n,hl,h1⟩:=h1
 cases r1 with
 | @exc a _ dd fs _ _ x hn hr=>
  subst hn
  obtain ⟨v,hv,rv⟩:=ar6 hr hl
  exact ⟨a,C,dd,fs,v,rfl,x.at_,c,n,x.dat,hv,k.ok v d H1 η1 l1 e1 rv h1⟩⟩
end
end DL
end
section
namespace EXX
open PySem PySem.Spec PyProof.Rows L2 PySem.HandSPX
section
variable {M:Model}{prog:Program}{w:World}{A:Around}{E:Value→Shared→Prop}{R:Result→Shared→Prop}{h:Heap}{g:Array GenState}{d:Drawn}{t:Nat}{os:OsState}
variable {nm q:Str}{C N:Addr}{bs bm bmB:List Value}{hdct:Bool}{sn:List Str}{sub:List Value}{ab:Bool}{col:Option Bool}{dd:Option Addr}{k0 k1 k2 k3 k5:Option Value}{B newId initId:String}{kws:List (Str × Value)}
theorem aEM(F:ExcBaseFacts B newId initId bmB)(hT:∀X:String,bm.contains (.type X)=bmB.contains (.type X)){Q:Unit→Shared→Prop}(hC:h.get? C=some (excClassObj nm q C N bs bm hdct sn sub ab col dd k0 k1 k2 k3 k5 newId))(hq:Q () ⟨h,g,d,t,os⟩):
  wpAny M A (checkBuiltinCall newId ⟨[.ref C],kws⟩) Q E ⟨h,g,d,t,os⟩:=by
 have hc1:(Value.ref C::bm).contains (.type B)=true:=by
  rw [List.contains_cons,hT,F.hasB,Bool.or_true]
 have hs1:=F.noStar
 simp only [checkBuiltinCall,F.newKind,F.newSplit,F.newRow]
 repeat (first
  | refine wpAny_loadPart_at hC ?_
  | (refine wpAny_isSubtype_exc hC ?_;rw [hc1])
  | refine wpAny_staticBase_exc hC ?_
  | refine wpAny_madeBy_exc hC ?_
  | simp only [bne_self_eq_false,Bool.false_eq_true,if_false]
  | wp_step)
 exact hq
theorem aEw(F:ExcBaseFacts B newId initId bmB)(hT:∀X:String,bm.contains (.type X)=bmB.contains (.type X))(hC:h.get? C=some (excClassObj nm q C N bs bm hdct sn sub ab col dd k0 k1 k2 k3 k5 newId))
  (hq:R (.ok (.ret (.ref (h.objs.size + 1)))) ⟨(h.push {cls:= .type "tuple",data:= .seq #[]}).push {cls:= .ref C,data:= .fields #[.ref h.objs.size, .none, .none, .none, .bool false, .none]},g,d,t,os⟩):
  codeAny (model prog w) A (.builtin newId ⟨[.ref C],kws⟩) R ⟨h,g,d,t,os⟩:=by
 have he1:=F.ends
 have hc1:(Value.ref C::bm).contains (.type B)=true:=by
  rw [List.contains_cons,hT,F.hasB,Bool.or_true]
 have hc2:(Value.ref C::bm).contains (.type "AttributeError")=false:=by
  rw [List.contains_cons,hT,F.noAttr];rfl
 have hc3:(Value.ref C::bm).contains (.type "NameError")=false:=by
  rw [List.contains_cons,hT,F.noName];rfl
 refine codeAny_builtinAt F.entry ?_
 unfold Builtin.«BaseException.__new__»
 refine PySem.wpAt_bind ?_
 show PySem.wpAt _ _ _ (stack >>=_) _ _ _
 refine PySem.wpAt_bind (PySem.wpAt_stack fun p0 bl=>PySem.wpAt_of_wpAny ?_)
 wp_walk
 refine PySem.wpAt_of_wpAny ?_
 rw [F.owner]
 repeat (first
  | with_reducible refine wpAny_madeHere_exc F.canon hC ?_
  | with_reducible refine wpAny_loadPart_at hC ?_
  | (with_reducible refine wpAny_isSubtype_exc hC ?_;first | rw [hc1] | rw [hc2] | rw [hc3])
  | wp_step)
 show R _ _
 rw [Heap.size_push]
 exact hq
theorem tcK(F:ExcBaseFacts B newId initId bmB)(hT:∀X:String,bm.contains (.type X)=bmB.contains (.type X)){fI:Addr}{Q:Fin→Shared→Prop}(hC:h.get? C=some (excClassObj nm q C N bs bm hdct sn sub ab col dd k0 k1 k2 k3 k5 newId))
  (hi:W.Looks (model prog w) h (typeLookup (.ref C) "__init__") (some (.ref fI)))(hb:∀self,W.Looks (model prog w) h (bindSpecial (.ref fI) self) (.ref fI,[self]))
  (hq:codeAny (model prog w) A (.call (.ref fI) ⟨[.ref (h.objs.size + 1)],kws⟩) (fun r s'=>match r with | .ok (.ret v)=>v= .none∧Q (.done (.ret (.ref (h.objs.size + 1)))) s' | .ok _=>False | .error e=>E e s') ⟨(h.push (W.kdv_tup [])).push (excO C h.objs.size),g,d,t,os⟩):
  wpAny (model prog w) A (Builtin.«type.__call__» ⟨[.ref C],kws⟩) Q E ⟨h,g,d,t,os⟩:=by
 repeat (first
  | with_reducible refine wpAny_loadPart_at hC ?_
  | with_reducible refine wpAny_madeBy_exc hC ?_
  | wp_step)
 refine codeAny_call_builtin_code (Code.quiet_builtin _ F.quiet) (aEM F hT hC ?_)
 refine aEw F hT hC ?_
 show wpAny _ _ _ _ _ _
 have up:∀b o,h.get? b=some o→((h.push (W.kdv_tup [])).push (excO C h.objs.size)).get? b=some o:=fun b o e=>Heap.get?_push_of_some _ (Heap.get?_push_of_some _ e)
 have hC2:=up _ _ hC
 have hge:((h.push (W.kdv_tup [])).push (excO C h.objs.size)).get? (h.objs.size + 1)=some (excO C h.objs.size):=by
  heap_get
 have hcc:(Value.ref C::bm).contains (.ref C)=true:=by
  simp
 have hi2:=hi.keeps up
 have hb2:=(hb (.ref (h.objs.size + 1))).keeps up
 unfold isInstance
 repeat (first
  | with_reducible refine wpAny_loadPart_at hge ?_
  | (with_reducible refine wpAny_isSubtype_exc hC2 ?_;rw [hcc])
  | wp_step)
 show wpAny _ _ (typeLookup (.ref C) _) _ _ _
 refine hi2.at ?_
 refine wpAny_holding (wpAny_bind (hb2.at ?_))
 refine wpAny_bind (wpAny_call (codeAny_mono hq fun r s2 z=> ?_))
 rcases r with e | (v | _ | _ | _) <;> first | exact z | exact z.elim | skip
 obtain ⟨rfl,z⟩:=z
 first
  | exact wpAny_pure (wpAny_pure z)
  | (wp_walk;exact z)
theorem aA9(F:ExcBaseFacts B newId initId bmB)(hT:∀X:String,bm.contains (.type X)=bmB.contains (.type X)){fI:Addr}(hC:h.get? C=some (excClassObj nm q C N bs bm hdct sn sub ab col dd k0 k1 k2 k3 k5 newId))
  (hi:W.Looks (model prog w) h (typeLookup (.ref C) "__init__") (some (.ref fI)))(hb:∀self,W.Looks (model prog w) h (bindSpecial (.ref fI) self) (.ref fI,[self]))
  (hq:codeAny (model prog w) (A.under (.builtin "type.__call__" ⟨[.ref C],kws⟩)) (.call (.ref fI) ⟨[.ref (h.objs.size + 1)],kws⟩) (W.InitBack (h.objs.size + 1) R) ⟨(h.push (W.kdv_tup [])).push (excO C h.objs.size),g,d,t,os⟩):
  codeAny (model prog w) A (.call (.ref C) ⟨[],kws⟩) R ⟨h,g,d,t,os⟩:=by
 have f1:=tc_lookup
 have f2:=tc_bind (.ref C)
 have hTy:(⟨h,g,d,t,os⟩:Shared).TypeIs (.ref C) "type" :=⟨_,hC,rfl⟩
 refine codeAny_of_tree ?_
 show wpAny _ _ (callAny (.ref C) _) _ _ _
 repeat (any_goals (first
  | assumption
  | with_reducible refine wpAny_loadPart_at hC ?_
  | wp_step))
 refine ⟨rfl,?_⟩
 refine codeAny_call_builtin_at (Code.quiet_builtin _ (by decide +kernel)) entry_typeCall (wpAny_check_type_call_sub hC (tcK F hT hC hi hb ?_))
 refine codeAny_mono hq fun r s2 z=> ?_
 rcases r with e | (v | _ | _ | _) <;> exact z
end
section
variable {X:Cx}{pins:List (Addr × Obj)}{σ:L2.St}{H:Hp}{s:Shared}{a:Addr}{o u:HO}
/-- what stands at a is told in other words -/
theorem asv(I:Inv X pins σ H s)(h:H a=some u)(n1:∀x,u≠ .own x)(n2:∀xs,u≠ .tup xs)(n3:∀ob v,u≠ .frz ob v)(n4:∀ps,u≠ .tbl ps)(new:ObjOk X.prog X.w (upd H a o) s.heap a o):Inv X pins σ (upd H a o) s:=by
 have ne:∀ {b:Addr} {v:HO},H b=some v→v≠u→b≠a:=fun {b v} e q z=>by
  rw [z,h] at e
  cases e;exact q rfl
 have nn:∀ {b:Addr},H b=none→b≠a:=fun {b} e z=>by
  rw [z,h] at e
  cases e
 refine ⟨I.ok,I.os,I.bare,⟨I.base.keep,I.base.slot,fun b v e n hx=> ?_,I.base.there,fun b xs e=> ?_,fun b v x e=> ?_,fun b ps e=> ?_⟩,I.loc,I.cell,?_,fun x c e=> ?_,fun p hp=> ?_,fun b v e=> ?_,I.len⟩
 ·have q:=I.base.free b v e n hx
  rw [upd_ne (nn q)];exact q
 ·have q:=I.base.tups b xs e
  rw [upd_ne (ne q (fun z=>n2 xs z.symm))];exact q
 ·have q:=I.base.frzs b v x e
  rw [upd_ne (ne q (fun z=>n3 v x z.symm))];exact q
 ·obtain ⟨m,q⟩:=I.base.tbls b ps e
  exact ⟨m,by rw [upd_ne (ne q (fun z=>n4 _ z.symm))];exact q⟩
 ·have q:=I.free
  rw [upd_ne (nn q)];exact q
 ·have q:=I.freeC x c e
  rw [upd_ne (nn q)];exact q
 ·obtain ⟨e,n,r⟩:=I.pin p hp
  exact ⟨e,by rw [upd_ne (nn n)];exact n,r⟩
 ·by_cases hb:b=a
  ·subst hb
   rw [upd_same] at e
   cases e;exact new
  ·rw [upd_ne hb] at e
   exact (I.hok b v e).stay (fun _ _ _ q=>q) (fun c q=>by rw [upd_ne (ne q (fun z=>n1 _ z.symm))];exact q) fun c xs q=>by rw [upd_ne (ne q (fun z=>n2 _ z.symm))];exact q
end
/-- C(k=v) or C(),C an exception class of the text:a value -/
def tMkV(C:Addr)(sp:Sp)(idx:List Nat)(m:Nat)(tk:TA):TE:=fun σ H Q=>tk σ H fun zs H1=>zs.length=m∧∀a,H1 a=none→sp (DL.pick idx (.ref a::zs)) (upd H1 a (exo a C none))
 (fun v H2=>v= .non∧∃(d:Addr) (fs:List (Str × V)),H2 a=some (exo a C (some d))∧H2 d=some (exd d fs)∧d≠a∧Q (.ref a) (upd (upd H2 d (.xd fs)) a (DL.Exv C d a))) (fun _ _ _=>False)
section
variable {X:Cx}{B newId initId:String}{bmB:List Value}{x:Str}{C fI:Addr}{k:Nat}{fd:FuncData}{ps ks:List Str}{idx:List Nat}{sp:Sp}{p pos:Pos}{kws:List Keyword}{tk:TA}
theorem pe_mkV(T:OexG X.K B newId initId bmB C)(iC:PySem.W.findIn X.K (.ref C) "__init__" =some (some (.ref fI)))(tI:PySem.W.typeIn X.K (.ref fI)=some (.type "function"))
  (F1:FnOk X.prog X.w X.K X.mg X.base (L2.CX X.prog X.w) k fI fd ps sp)(hr:Room (k + 1) X.A)(hb:DL.KB X.K fd ps 1 ks idx)(hg:Gl X x)(hm:X.mg x=some (.ref C))(hkw:PK X kws tk)
  (hall:(backToKw pos (keywordEach kws X.env)).all (·.1.isSome)=true:=by rfl)(hks:(backToKw pos (keywordEach kws X.env)).filterMap (·.1)=ks:=by rfl)(hdb:(x==("__debug__" :Str))=false:=by decide)
  (hpl:((backTo pos (starEach [] X.env)).any (·.1) || (backToKw pos (keywordEach kws X.env)).any (·.1.isNone))=false:=by rfl):PE X (.Call (.Name x p) [] kws pos) (tMkV C sp idx ks.length tk):=by
 refine ⟨fun pins s σ H Q I h=> ?_⟩
 refine wpAny_Call_Name_kw (ld_glob I hg hm ?_ hdb)
 refine PySem.W.callWith_KW0 (h₀:=X.base) I.ok.mod.kin T.kC hall ?_ hpl
 refine thn (hkw.run pos pins s σ H _ I h) fun ws s2 ⟨zs,H2,I2,rz,l2,q2⟩=>⟨I2.kIn,?_⟩
 rw [hks]
 obtain ⟨-,fr,I3⟩:=exc_laid (C:=C) I2 []
 have pr:=q2 _ fr
 have ra:Vals (V.ref (s2.heap.objs.size + 1)::zs) (Value.ref (s2.heap.objs.size + 1)::ws):= .cons rfl rz
 have lw:ws.length=ks.length:=rz.length.symm.trans l2
 have run:=F1.run _ X.stack _ _ ⟨[Value.ref (s2.heap.objs.size + 1)],ks.zip ws⟩ (DL.pick idx ([Value.ref (s2.heap.objs.size + 1)] ++ ws)) _ _ _ (hr.make C [] (ks.zip ws)) (I3.env0.make C [] (ks.zip ws)) (hb _ [Value.ref (s2.heap.objs.size + 1)] ws rfl lw) (DL.vals_pick ra idx) pr
 obtain ⟨_,_,_,_,_,_,_,_,_,_,_,_,_,_,_,_,hC,hT⟩:=PySem.W.excInit_of I2.kIn T.ini
 obtain ⟨hp,gs,dr,tk0,os⟩:=s2
 refine wpAny_call (aA9 T.eb.F hT hC (PySem.W.looks_findIn I2.kIn iC) (fun self=>PySem.W.bind_fn I2.kIn self tI) (codeAny_mono run fun r s' z=> ?_))
 match r,z with
 | .error er,z=>exact passL pins σ _ _ er s' I3 z
 | .ok (.ret uu),z=>
  obtain ⟨v,H4,I4,rv,ev,d,fs,e1,e2,da,q⟩:=I3.after z
  subst ev
  obtain ⟨t1,g1⟩:=exo_at I4.hok e1
  have I5:=asv (o:= .xd fs) I4 e2 (fun _=>exd_own) (fun _=>exd_tup) (fun _ _ z=>by unfold exd at z;cases z) (fun _ z=>by unfold exd at z;cases z) (exd_at I4.hok e2)
  have e3:upd H4 d (.xd fs) (hp.objs.size + 1)=some (exo (hp.objs.size + 1) C (some d)):=by
   rw [upd_ne da.symm];exact e1
  have I6:=asv (o:=DL.Exv C d (hp.objs.size + 1)) I5 e3 (fun _=>exo_own) (fun _=>exo_tup) (fun _ _=>exo_frz) (fun _=>exo_tbl) (axE g1 ⟨rfl,rfl⟩ rfl)
  exact ⟨rv,⟨V.ref (hp.objs.size + 1),_,I6,rfl,q⟩⟩
 | .ok .next,z=>exact (show False from z).elim
 | .ok .brk,z=>exact (show False from z).elim
 | .ok .cont,z=>exact (show False from z).elim
end
def rIsX(K:PySem.W.Frag):List V→Hp→VK→Prop:=fun xs H Q=> ∃(a C d:Addr) (c:V) (cv:Value) (b:Bool) (fs:List (Str × V)),xs= [.ref a,c]∧H a=some (DL.Exv C d a)∧H d=some (.xd fs)∧XfC K C∧DL.IsO K C∧(∀u,RelV c u→u=cv)∧PySem.W.kitOne K (.ref C) cv=some b∧Q (.bl b) H
theorem call_isX{X:Cx}:CallR X (.builtin "isinstance") (rIsX X.K):=by
 intro pins s σ H xs us Q I r h
 obtain ⟨a,C,d,c,cv,b,fs,rfl,ha,hd,T,IO,hcv,e,q⟩:=h
 cases r with
 | cons rx rr=>
  cases rr with
  | cons rt rr=>
   cases rr
   cases rx
   have ec:=hcv _ rt
   subst ec
   have hA:ObjOk X.prog X.w H s.heap a (DL.Exv C d a):=I.hok a _ ha
   obtain ⟨⟨oe,vs,ho,hc,hdd,hdt⟩,_⟩:=hA
   have hx:ObjOk X.prog X.w H s.heap d (.xd fs):=I.hok d _ hd
   obtain ⟨mA,hns,hr⟩:=hx
   obtain ⟨od,hod,-⟩:=lookIn_ns hns
   have J:PySem.W.InstAt s.heap a oe C (some od):=⟨ho,hc,by unfold PySem.W.notCls;rw [hdt] <;> rfl,by rw [hdd];exact hod⟩
   obtain ⟨cd,hcl,_⟩:=PySem.W.any_some T.hdC
   exact PySem.W.kia_one (PySem.W.kitx_exc (by rw [hcl];rfl) T.ga T.gg T.exC IO.ha IO.hn IO.htk IO.hm) I.kIn J e (fun z=>nomatch z) fun tk=>⟨.bl b,H,I.kept (t':=tk) fun _ _ z=>z,rfl,q⟩
end EXX
end
section
namespace DL
open PySem PySem.Spec PyProof.Rows L2
/-- a def of the text,its code object at c -/
structure aBo(K:PySem.W.Frag)(x qual:Str)(st:Stmt)(f:Addr)(fd:FuncData)(c:Addr):Prop where
 ex:∃(oc:Value) (od:Option Addr) (kV doc pm:Value) (an:Option Addr) (ct:Value) (osl:Array (Option Value)),
  fd=PySem.W.fnOf x qual (defArgs st) (defBody st) (defScope st) .none kV doc pm an (.ref c) ct∧K.lookup f=some ⟨oc,od, .func fd,osl⟩∧PySem.W.codeIn K (.ref c) qual=true
 kp:PySem.W.keepIn K (.ref f)=true
section
variable {P:Program}{w:World}{K:PySem.W.Frag}{mg:Str→Option Value}{base:Heap}{x qual:Str}{st:Stmt}{f cc:Addr}{fd:FuncData}{N ps:List Str}{k:Nat}{c:Ct}
theorem aBo.to(F:aBo K x qual st f fd cc):Fun K x qual st f fd:=by
 obtain ⟨oc,od,kV,doc,pm,an,ct,osl,e,l,h⟩:=F.ex
 exact ⟨⟨oc,od,kV,doc,pm,an, .ref cc,ct,osl,e,l,h⟩,F.kp⟩
end
section
variable {K:PySem.W.Frag}{P c:Addr}{q nm:Str}{ts:List (Str × Addr)}
theorem aos(h:PySem.W.nsIn K mainGlobals "_law_try" =some none)(t:atG K P q):∃p ∈ ([]:List (Addr × Addr)),p.2=P:=by
 obtain ⟨⟨_,g,e⟩,_⟩:=t
 rw [h] at e;cases e
end
end DL
end
section
namespace EXX
open PySem PySem.Spec PyProof.Rows L2
structure LamD(N:List Str)(sc scope:Scope)(ps:List Str):Prop where
 kind:scope.kind= .function
 co:scope.isCoroutine=false
 gen:scope.isGenerator=false
 own:∀y ∈ scope.names,y.2≠ .cell∧(y.2= .local→y.1 ∉ N)
 free:∀y ∈ scope.names,y.2= .free→sc.names.lookup y.1=some .cell∨sc.names.lookup y.1=some .free
 par:∀y ∈ ps,scope.names.lookup y=some .local
section
variable {X:Cx}{base':Heap}{σ:L2.St}
/-- the defaults' tuple stands -/
def DOk(dV:Value)(h:Heap):Prop:=dV= .none∨∃(t:Addr) (i:Int) (tk:Tok),dV= .ref t∧IsTup h t #[.int i tk]
/-- what a lambda's call without arguments binds -/
def BindD(fd:FuncData)(ps:List Str)(dV:Value):Prop:=∀(M:Model) (h:Heap),DOk dV h→∃binds:List (Str × Value),(∀y ∈ binds,y.1 ∈ ps)∧PySem.W.Looks M h (bindArgs fd ⟨[],[]⟩) binds
end
end EXX
end
section
namespace DL
open PySem PySem.Spec PyProof.Rows L2
inductive Sv where
 | d (x:D)
 | m (pr:Bool)(o:M)
 /-- an object that is walked:it may be read -/
 | l (o:M)
abbrev FS:=List (Option Sv)
/-- an expression's value:data,a slot's own object,a new object -/
inductive FV where
 | d (x:D)
 | s (i:Nat)
 | f (o:M)
inductive Rs(α:Type) where
 | ok (a:α)(s:FS)
 | ex (x:D)(s:FS)
 | bad
def Rs.bind{α β:Type}(r:Rs α)(g:α→FS→Rs β):Rs β:=match r with
 | .ok a s=>g a s
 | .ex x s=> .ex x s
 | .bad=> .bad
mutual
/-- nothing in it is an address -/
def nr:D→Bool
 | .ref _=>false
 | .lst xs=>JK xs
 | .tup xs=>JK xs
 | .klst xs=>JK xs
 | .obj _ _ xs=>JK xs
 | .exc _ _ xs=>JK xs
 | .fn _ _ xs=>JK xs
 | .dct _ xs=>JK xs
 | .non=>true
 | .bl _=>true
 | .int _=>true
 | .str _=>true
 | .ty _=>true
def JK:List D→Bool
 | []=>true
 | d::ds=>nr d && JK ds
end
theorem ama:∀ds:List D,JK ds=ds.all nr
 | []=>rfl
 | d::ds=>by rw [JK,List.all_cons,ama ds]
theorem vZ{ds:List D}(h:JK ds=true){d:D}(hd:d ∈ ds):nr d=true:=by
 rw [ama,List.all_eq_true] at h;exact h d hd
theorem Vm{ds:List D}(h:∀d ∈ ds,nr d=true):JK ds=true:=by
 rw [ama,List.all_eq_true];exact h
theorem acB{a b:List D}(ha:JK a=true)(hb:JK b=true):JK (a ++ b)=true:=Vm fun d hd=>by
 rcases List.mem_append.mp hd with h | h
 ·exact vZ ha h
 ·exact vZ hb h
theorem Y7{a:D}{b:List D}(ha:nr a=true)(hb:JK b=true):JK (a::b)=true:=by rw [JK,ha,hb];rfl
def mD:M→D
 | .lst ds=> .lst ds
 | .ins C ns ds=> .obj C ns ds
 | .dct ks ds=> .dct ks ds
def nrM(o:M):Prop:=nr (mD o)=true
def rd(η:Eta):D→D
 | .ref p=>match η p with
  | some o=>mD o
  | none=> .ref p
 | d=>d
theorem aBm{η:Eta}:∀ {x:D},nr x=true→rd η x=x
 | .ref _,h=>by simp [nr] at h
 | .lst _,_ | .tup _,_ | .klst _,_ | .obj _ _ _,_ | .exc _ _ _,_ | .fn _ _ _,_ | .dct _ _,_ | .non,_ | .bl _,_ | .int _,_ | .str _,_ | .ty _,_=>rfl
theorem amB{η:Eta}{p:Addr}{o:M}(h:η p=some o):rd η (.ref p)=mD o:=by simp [rd,h]
def yt(fs:FS)(i:Nat):Option M:=match fs[i]? with
 | some (some (.m _ o))=>some o
 | some (some (.l o))=>some o
 | _=>none
theorem G7{fs:FS}{i:Nat}{o:M}(h:yt fs i=some o):(∃pr,fs[i]? =some (some (.m pr o)))∨fs[i]? =some (some (.l o)):=by
 unfold yt at h
 split at h
 ·rename_i pr o' e;cases h;exact .inl ⟨pr,e⟩
 ·rename_i o' e;cases h;exact .inr e
 ·cases h
def v9(fs:FS):FV→Option D
 | .d x=>some x
 | .f o=>some (mD o)
 | .s i=>(yt fs i).map mD
/-- what the frame does not own,and where its pinned objects stand -/
structure Om where
 b:Eta
 ps:Nat→Option Addr
 lk:Nat→Option Addr
/-- the frame's state by functions and over data -/
structure St(B:Om)(fs:FS)(δ:vY)(η:Eta):Prop where
 len:fs.length=δ.length
 d:∀(i:Nat) (x:D),fs[i]? =some (some (.d x))→δ[i]? =some (some x)∧nr x=true
 m:∀(i:Nat) (pr:Bool) (o:M),fs[i]? =some (some (.m pr o))→∃p,δ[i]? =some (some (.ref p))∧η p=some o∧B.b p=none∧nrM o∧(pr=true→B.ps i=some p)∧(pr=false→∀j,B.ps j≠some p)
 l:∀(i:Nat) (o:M),fs[i]? =some (some (.l o))→∃p,δ[i]? =some (some (.ref p))∧B.b p=some o∧nrM o∧B.lk i=some p
 lk:∀(i:Nat) (p:Addr),B.lk i=some p→(∃o,fs[i]? =some (some (.l o)))∧B.b p≠none
 inj:∀(i j:Nat) (pr pr':Bool) (o o':M) (p:Addr),fs[i]? =some (some (.m pr o))→fs[j]? =some (some (.m pr' o'))→δ[i]? =some (some (.ref p))→δ[j]? =some (some (.ref p))→i=j
 fr:∀(a:Addr) (o:M),B.b a=some o→η a=some o
 pn:∀(i:Nat) (p:Addr),B.ps i=some p→η p≠none
/-- a new object's address -/
structure Frs(B:Om)(fs:FS)(δ:vY)(p:Addr):Prop where
 b:B.b p=none
 sl:∀(i:Nat) (pr:Bool) (o:M),fs[i]? =some (some (.m pr o))→δ[i]? ≠some (some (.ref p))
 ps:∀j,B.ps j≠some p
 lk:∀j,B.lk j≠some p
def VR(B:Om)(fs:FS)(δ:vY)(η:Eta):FV→D→Prop
 | .d x,d=>d=x∧nr x=true
 | .s i,d=>δ[i]? =some (some d)
 | .f o,d=> ∃p,d= .ref p∧η p=some o∧nrM o∧Frs B fs δ p
def ext(B:Om):FV→D→Om
 | .f o, .ref p=>⟨Ka B.b p o,B.ps,B.lk⟩
 | _,_=>B
section
variable {B:Om}{fs fs':FS}{δ δ':vY}{η η':Eta}{v w:FV}{x d:D}{i:Nat}{p:Addr}{o:M}
theorem St.frs(s:St B fs δ η)(h:η p=none):Frs B fs δ p where
 b:=by
  cases e:B.b p with
  | none=>rfl
  | some o=>rw [s.fr p o e] at h;cases h
 sl:=fun i pr o e q=>by
  obtain ⟨q',q1,q2,_⟩:=s.m i pr o e
  rw [q] at q1;cases q1;rw [h] at q2;cases q2
 ps:=fun j e=>s.pn j p e h
 lk:=fun j e=>by
  cases q:B.b p with
  | none=>exact (s.lk j p e).2 q
  | some o=>rw [s.fr p o q] at h;cases h
theorem VR.rd(s:St B fs δ η)(r:VR B fs δ η v d)(h:v9 fs v=some x):rd η d=x∧nr x=true:=by
 cases v with
 | d y=>cases h;obtain ⟨rfl,n⟩:=r;exact ⟨aBm n,n⟩
 | f o=>cases h;obtain ⟨p,rfl,h1,n,_⟩:=r;exact ⟨amB h1,n⟩
 | s i=>
  cases e:yt fs i with
  | none=>simp [v9,e] at h
  | some o=>
   simp [v9,e] at h
   have r:δ[i]? =some (some d):=r
   rcases G7 e with ⟨pr,e2⟩ | e2
   ·obtain ⟨p,h1,h2,_,n,_⟩:=s.m i pr o e2
    rw [h1] at r
    cases r
    rw [← h]
    exact ⟨amB h2,n⟩
   ·obtain ⟨p,h1,h2,n,_⟩:=s.l i o e2
    rw [h1] at r
    cases r
    rw [← h]
    exact ⟨amB (s.fr p o h2),n⟩
theorem St.ext_(s:St B fs δ η)(r:VR B fs δ η v d):St (ext B v d) fs δ η:=by
 cases v with
 | d y=>exact s
 | s i=>exact s
 | f o=>
  obtain ⟨p,rfl,h1,n,h2⟩:=r
  refine ⟨s.len,s.d,fun i pr o' e=> ?_,fun i o' e=> ?_,fun i q e=> ?_,s.inj,fun a o' h=> ?_,s.pn⟩
  ·obtain ⟨q,q1,q2,q3,q4⟩:=s.m i pr o' e
   refine ⟨q,q1,q2,?_,q4⟩
   have ne:q≠p:=by rintro rfl;exact h2.sl i pr o' e q1
   show Ka B.b p o q=none
   rw [iT ne];exact q3
  ·obtain ⟨q,q1,q2,q3⟩:=s.l i o' e
   refine ⟨q,q1,?_,q3⟩
   have ne:q≠p:=by rintro rfl;rw [h2.b] at q2;cases q2
   show Ka B.b p o q=some o'
   rw [iT ne];exact q2
  ·obtain ⟨q1,q2⟩:=s.lk i q e
   refine ⟨q1,?_⟩
   have ne:q≠p:=by rintro rfl;exact h2.lk i e
   show Ka B.b p o q≠none
   rw [iT ne];exact q2
  ·have h:Ka B.b p o a=some o':=h
   by_cases e:a=p
   ·subst e;rw [jN] at h;cases h;exact h1
   ·rw [iT e] at h;exact s.fr a o' h
/-- what holds beside a new object holds without it -/
theorem St.unext{fs1:FS}{η1:Eta}(r:VR B fs1 δ' η1 v d)(s:St (ext B v d) fs δ η):St B fs δ η:=by
 cases v with
 | d y=>exact s
 | s i=>exact s
 | f o=>
  obtain ⟨p,rfl,h1,n,h2⟩:=r
  refine ⟨s.len,s.d,fun i pr o' e=> ?_,fun i o' e=> ?_,fun i q e=> ?_,s.inj,fun a o' h=> ?_,s.pn⟩
  ·obtain ⟨q,q1,q2,q3,q4⟩:=s.m i pr o' e
   have q3:Ka B.b p o q=none:=q3
   by_cases e:q=p
   ·subst e;rw [jN] at q3;cases q3
   ·rw [iT e] at q3;exact ⟨q,q1,q2,q3,q4⟩
  ·obtain ⟨q,q1,q2,q3,q4⟩:=s.l i o' e
   have q2:Ka B.b p o q=some o':=q2
   by_cases e:q=p
   ·subst e;exact absurd q4 (h2.lk i)
   ·rw [iT e] at q2;exact ⟨q,q1,q2,q3,q4⟩
  ·obtain ⟨q1,q2⟩:=s.lk i q e
   have q2:Ka B.b p o q≠none:=q2
   have ne:q≠p:=by rintro rfl;exact h2.lk i e
   rw [iT ne] at q2;exact ⟨q1,q2⟩
  ·have ne:a≠p:=by rintro rfl;rw [h2.b] at h;cases h
   exact s.fr a o' (show Ka B.b p o a=some o' by rw [iT ne];exact h)
/-- a value stays what it is while the next one is reckoned -/
theorem VR.step{fs1:FS}{η1:Eta}(r:VR B fs1 δ η1 v d)(s:St (ext B v d) fs δ η):VR B fs δ η v d:=by
 cases v with
 | d y=>exact r
 | s i=>exact r
 | f o=>
  obtain ⟨p,rfl,h1,n,h2⟩:=r
  refine ⟨p,rfl,s.fr p o (show Ka B.b p o p=some o from jN),n,h2.b,fun i pr o' e q=> ?_,h2.ps,h2.lk⟩
  obtain ⟨q',q1,q2,q3,q4⟩:=s.m i pr o' e
  rw [q] at q1
  cases q1
  have q3:Ka B.b p o p=none:=q3
  rw [jN] at q3;cases q3
theorem VR.unext{fs1:FS}{η1:Eta}(r:VR B fs1 δ η1 v d)(q:VR (ext B v d) fs δ η w x):VR B fs δ η w x:=by
 cases w with
 | d y=>exact q
 | s i=>exact q
 | f o'=>
  obtain ⟨p',rfl,h1,n,h2⟩:=q
  refine ⟨p',rfl,h1,n,?_,h2.sl,?_,?_⟩
  ·cases v with
   | d y=>exact h2.b
   | s i=>exact h2.b
   | f o=>
    obtain ⟨p,rfl,_⟩:=r
    have h2:Ka B.b p o p'=none:=h2.b
    by_cases e:p'=p
    ·subst e;rw [jN] at h2;cases h2
    ·rw [iT e] at h2;exact h2
  ·cases v with
   | d y=>exact h2.ps
   | s i=>exact h2.ps
   | f o=>
    obtain ⟨p,rfl,_⟩:=r
    exact h2.ps
  ·cases v with
   | d y=>exact h2.lk
   | s i=>exact h2.lk
   | f o=>
    obtain ⟨p,rfl,_⟩:=r
    exact h2.lk
end
/-- values one beside the other:new objects are different ones -/
def Vj:Om→FS→vY→Eta→List FV→List D→Prop
 | _,_,_,_,[],[]=>True
 | B,fs,δ,η,v::vs,d::ds=>VR B fs δ η v d∧Vj (ext B v d) fs δ η vs ds
 | _,_,_,_,_,_=>False
def VEq{α:Type}:Om→FS→vY→Eta→α→α→Prop:=fun _ _ _ _ a b=>a=b
/-- what follows holds of the result -/
def Post{α β:Type}(B:Om)(δ:vY)(Rl:Om→FS→vY→Eta→α→β→Prop)(r:Rs α)(Z:Xk)(Φ:β→Eta→Prop):Prop:=match r with
 | .ok v fs'=> ∀d η',St B fs' δ η'→Rl B fs' δ η' v d→Φ d η'
 | .ex x fs'=> ∀η',St B fs' δ η'→nr x=true→Z x η'
 | .bad=>False
def gM{α β:Type}(Rl:Om→FS→vY→Eta→α→β→Prop)(t:Xk→vY→Eta→(β→Eta→Prop)→Prop)(f:FS→Rs α):Prop:=
 ∀(B:Om) (fs:FS) (δ:vY) (η:Eta) (Z:Xk) (Φ:β→Eta→Prop),St B fs δ η→Post B δ Rl (f fs) Z Φ→t Z δ η Φ
abbrev FE:=FS→Rs FV
abbrev FT:=FS→Rs Bool
abbrev FA:=FS→Rs (List FV)
abbrev FO:=FS→Rs (Option Int)
section
variable {α β γ ε:Type}{B:Om}{fs fs1:FS}{δ:vY}{η η1:Eta}{Z:Xk}{Φ:β→Eta→Prop}{Ψ:ε→Eta→Prop}{Rl:Om→FS→vY→Eta→γ→ε→Prop}{Rl':Om→FS→vY→Eta→α→β→Prop}{r:Rs γ}{g:γ→FS→Rs α}
theorem Post.bind(h:Post B δ Rl' (r.bind g) Z Φ)(k:∀v fs1 d η1,St B fs1 δ η1→Rl B fs1 δ η1 v d→Post B δ Rl' (g v fs1) Z Φ→Ψ d η1):Post B δ Rl r Z Ψ:=by
 cases r with
 | ok v fs1=>exact fun d η1 s rl=>k v fs1 d η1 s rl h
 | ex x fs1=>exact h
 | bad=>exact h
theorem Post.bind2{x:FV}{d1:D}(hx:VR B fs1 δ η1 x d1)(h:Post B δ Rl' (r.bind g) Z Φ)(k:∀v fs2 d η2,St B fs2 δ η2→VR B fs2 δ η2 x d1→St (ext B x d1) fs2 δ η2→Rl (ext B x d1) fs2 δ η2 v d→Post B δ Rl' (g v fs2) Z Φ→Ψ d η2):Post (ext B x d1) δ Rl r Z Ψ:=by
 cases r with
 | ok v fs2=>exact fun d η2 s rl=>k v fs2 d η2 (s.unext hx) (hx.step s) s rl h
 | ex x fs1=>exact fun η2 s=>h η2 (s.unext hx)
 | bad=>exact h
end
end DL
end
section
namespace DL
open PySem PySem.Spec PyProof.Rows L2
section
variable {B:Om}{fs fs':FS}{δ δ':vY}{η η':Eta}{v w:FV}{x d:D}{i:Nat}{p:Addr}{o:M}{vs:List FV}{ds:List D}
/-- a new object is laid -/
theorem St.new(s:St B fs δ η)(h:η p=none):St B fs δ (Ka η p o):=by
 refine ⟨s.len,s.d,fun i pr o' e=> ?_,s.l,s.lk,s.inj,fun a o' q=> ?_,fun i q e=> ?_⟩
 ·obtain ⟨q,q1,q2,q3⟩:=s.m i pr o' e
  have ne:q≠p:=by rintro rfl;rw [h] at q2;cases q2
  exact ⟨q,q1,by rw [iT ne];exact q2,q3⟩
 ·have ne:a≠p:=by rintro rfl;rw [s.fr _ _ q] at h;cases h
  rw [iT ne];exact s.fr a o' q
 ·by_cases ne:q=p
  ·subst ne;rw [jN];simp
  ·rw [iT ne];exact s.pn i q e
theorem VR.new(s:St B fs δ η)(h:η p=none)(n:nrM o):VR B fs δ (Ka η p o) (.f o) (.ref p):=⟨p,rfl,jN,n,s.frs h⟩
/-- several values -/
def QC(fs:FS):List FV→Option (List D)
 | []=>some []
 | v::vs=>match v9 fs v,QC fs vs with
  | some x,some xs=>some (x::xs)
  | _,_=>none
theorem Vj.rds{as:List D}(s:St B fs δ η)(r:Vj B fs δ η vs ds)(h:QC fs vs=some as):ds.map (rd η)=as∧JK as=true:=by
 induction vs generalizing ds as B with
 | nil=>
  cases ds with
  | nil=>cases h;exact ⟨rfl,rfl⟩
  | cons _ _=>exact r.elim
 | cons v vs ih=>
  cases ds with
  | nil=>exact r.elim
  | cons d ds=>
   obtain ⟨r1,r2⟩:=r
   cases e1:v9 fs v with
   | none=>simp [QC,e1] at h
   | some x=>
    cases e2:QC fs vs with
    | none=>simp [QC,e1,e2] at h
    | some xs=>
     simp [QC,e1,e2] at h
     obtain ⟨h1,h2⟩:=r1.rd s e1
     obtain ⟨h3,h4⟩:=ih (s.ext_ r1) r2 e2
     subst h
     exact ⟨by rw [List.map_cons,h1,h3],Y7 h2 h4⟩
def allD:List FV→Option (List D)
 | []=>some []
 | .d x::vs=>match allD vs with
  | some xs=>some (x::xs)
  | none=>none
 | _=>none
theorem Vj.allD{as:List D}(r:Vj B fs δ η vs ds)(h:DL.allD vs=some as):ds=as∧JK as=true:=by
 induction vs generalizing ds as B with
 | nil=>
  cases ds with
  | nil=>cases h;exact ⟨rfl,rfl⟩
  | cons _ _=>exact r.elim
 | cons v vs ih=>
  cases ds with
  | nil=>exact r.elim
  | cons d ds=>
   obtain ⟨r1,r2⟩:=r
   cases v with
   | d x=>
    obtain ⟨rfl,n⟩:=r1
    cases e2:DL.allD vs with
    | none=>simp [DL.allD,e2] at h
    | some xs=>
     simp [DL.allD,e2] at h
     obtain ⟨h3,h4⟩:=ih r2 e2
     subst h
     exact ⟨by rw [h3],Y7 n h4⟩
   | s i=>simp [DL.allD] at h
   | f o=>simp [DL.allD] at h
end
def fVar(i:Nat):FE:=fun fs=>match fs[i]? with
 | some (some (.d x))=> .ok (.d x) fs
 | some (some (.m _ _))=> .ok (.s i) fs
 | some (some (.l _))=> .ok (.s i) fs
 | _=> .bad
theorem ak{i:Nat}:gM VR (axL i) (fVar i):=fun B fs δ η Z Φ s h=>by
 unfold fVar at h
 split at h
 ·rename_i x e
  obtain ⟨e1,n⟩:=s.d i x e
  exact ⟨x,e1,h x η s ⟨rfl,n⟩⟩
 ·rename_i pr o e
  obtain ⟨p,e1,_⟩:=s.m i pr o e
  exact ⟨.ref p,e1,h (.ref p) η s e1⟩
 ·rename_i o e
  obtain ⟨p,e1,_⟩:=s.l i o e
  exact ⟨.ref p,e1,h (.ref p) η s e1⟩
 ·exact h.elim
def fC(d:D):FE:=fun fs=> .ok (.d d) fs
theorem bf{d:D}(n:nr d=true:=by rfl):gM VR (dC d) (fC d):=fun B fs δ η Z Φ s h=>h d η s ⟨rfl,n⟩
abbrev FO2:=FS→FV→FV→Rs FV
def JX(do_:DR2)(o:FO2):Prop:=∀(B:Om) (fs:FS) (δ:vY) (η:Eta) (x y:FV) (dx dy:D) (Z:Xk) (Φ:DK),St B fs δ η→VR B fs δ η x dx→VR B fs δ η y dy→Post B δ VR (o fs x y) Z Φ→do_ dx dy η Φ
def tU(o:FO2)(fa fb:FE):FE:=fun fs=>(fa fs).bind fun x fs1=>(fb fs1).bind fun y fs2=>o fs2 x y
def op2(g:D→D→Option D):FO2:=fun fs x y=>match v9 fs x,v9 fs y with
 | some a,some b=>match g a b with
  | some z=> .ok (.d z) fs
  | none=> .bad
 | _,_=> .bad
theorem aa7{do_:DR2}{g:D→D→Option D}(h:∀η dx dy Φ z,nr (rd η dx)=true→nr (rd η dy)=true→g (rd η dx) (rd η dy)=some z→nr z=true∧(Φ z η→do_ dx dy η Φ)):JX do_ (op2 g):=fun B fs δ η x y dx dy Z Φ s rx ry q=>by
 unfold op2 at q
 split at q
 ·rename_i a b ea eb
  obtain ⟨h1,n1⟩:=rx.rd s ea
  obtain ⟨h2,n2⟩:=ry.rd s eb
  split at q
  ·rename_i z ez
   subst h1 h2
   obtain ⟨n,k⟩:=h η dx dy Φ z n1 n2 ez
   exact k (q z η s ⟨rfl,n⟩)
  ·exact q.elim
 ·exact q.elim
section
variable {da db dc:DE}{fa fb fc:FE}{do_ do':DR2}{o o':FO2}
theorem bK(ho:JX do_ o)(ha:gM VR da fa)(hb:gM VR db fb):gM VR (dOp do_ da db) (tU o fa fb):=fun B fs δ η Z Φ s h=>
 ha B fs δ η Z _ s (Post.bind h fun x fs1 d1 η1 s1 r1 h1=>hb (ext B x d1) fs1 δ η1 Z _ (s1.ext_ r1) (Post.bind2 r1 h1 fun y fs2 d2 η2 s2 rx s2' ry h2=>ho B fs2 δ η2 x y d1 d2 Z Φ s2 rx (r1.unext ry) h2))
def yq(fe:FE):FT:=fun fs=>(fe fs).bind fun v fs1=>match v with
 | .d (.bl b)=> .ok b fs1
 | _=> .bad
theorem iz(ha:gM VR da fa):gM VEq (ali da) (yq fa):=fun B fs δ η Z Φ s h=>ha B fs δ η Z _ s (Post.bind h fun v fs1 d1 η1 s1 r1 h1=>by
 split at h1
 ·rename_i b
  obtain ⟨rfl,-⟩:=r1
  exact ⟨b,rfl,h1 b η1 s1 rfl⟩
 ·exact h1.elim)
variable {dt du:DT}{ft fu:FT}
def azR(ft fu:FT):FT:=fun fs=>(ft fs).bind fun c fs1=>if c=true then fu fs1 else .ok false fs1
def fOr(ft fu:FT):FT:=fun fs=>(ft fs).bind fun c fs1=>if c=true then .ok true fs1 else fu fs1
def avq(ft:FT):FT:=fun fs=>(ft fs).bind fun c fs1=> .ok (!c) fs1
theorem imp_and(ht:gM VEq dt ft)(hu:gM VEq du fu):gM VEq (aBW dt du) (azR ft fu):=fun B fs δ η Z Φ s h=>ht B fs δ η Z _ s (Post.bind h fun c fs1 d1 η1 s1 r1 h1=>by
 obtain rfl:c=d1:=r1
 cases c with
 | true=>exact hu B fs1 δ η1 Z Φ s1 h1
 | false=>exact h1 false η1 s1 rfl)
theorem imp_or(ht:gM VEq dt ft)(hu:gM VEq du fu):gM VEq (dOr dt du) (fOr ft fu):=fun B fs δ η Z Φ s h=>ht B fs δ η Z _ s (Post.bind h fun c fs1 d1 η1 s1 r1 h1=>by
 obtain rfl:c=d1:=r1
 cases c with
 | false=>exact hu B fs1 δ η1 Z Φ s1 h1
 | true=>exact h1 true η1 s1 rfl)
theorem anN(ht:gM VEq dt ft):gM VEq (aBH dt) (avq ft):=fun B fs δ η Z Φ s h=>ht B fs δ η Z _ s (Post.bind h fun c fs1 d1 η1 s1 r1 h1=>by
 obtain rfl:c=d1:=r1
 exact h1 (!c) η1 s1 rfl)
def aro:FT:=fun fs=> .ok true fs
theorem aiI:gM VEq aC4 aro:=fun B fs δ η Z Φ s h=>h true η s rfl
/-- and,or,not as values -/
def afd(v:FV):Option Bool:=match v with
 | .d (.bl b)=>some b
 | _=>none
theorem ais{v:FV}{b:Bool}(h:afd v=some b):v= .d (.bl b):=by
 unfold afd at h
 split at h
 ·cases h;rfl
 ·cases h
def ak3(fa fb:FE):FE:=fun fs=>(fa fs).bind fun v fs1=>match afd v with
 | some true=>fb fs1
 | some false=> .ok (.d (.bl false)) fs1
 | none=> .bad
def aEF(fa fb:FE):FE:=fun fs=>(fa fs).bind fun v fs1=>match afd v with
 | some false=>fb fs1
 | some true=> .ok (.d (.bl true)) fs1
 | none=> .bad
def aDL(fa:FE):FE:=fun fs=>(fa fs).bind fun v fs1=>match afd v with
 | some b=> .ok (.d (.bl (!b))) fs1
 | none=> .bad
theorem agC(ha:gM VR da fa)(hb:gM VR db fb):gM VR (aw7 da db) (ak3 fa fb):=fun B fs δ η Z Φ s h=>ha B fs δ η Z _ s (Post.bind h fun v fs1 d1 η1 s1 r1 h1=>by
 split at h1
 ·rename_i e;cases ais e;obtain ⟨rfl,-⟩:=r1;exact ⟨true,rfl,hb B fs1 δ η1 Z Φ s1 h1⟩
 ·rename_i e;cases ais e;obtain ⟨rfl,-⟩:=r1;exact ⟨false,rfl,h1 _ η1 s1 ⟨rfl,rfl⟩⟩
 ·exact h1.elim)
def fIf(ft:FT)(fa fb:FE):FE:=fun fs=>(ft fs).bind fun c fs1=>if c=true then fa fs1 else fb fs1
theorem ayc(ht:gM VEq dt ft)(ha:gM VR da fa)(hb:gM VR db fb):gM VR (dIf dt da db) (fIf ft fa fb):=fun B fs δ η Z Φ s h=>ht B fs δ η Z _ s (Post.bind h fun c fs1 d1 η1 s1 r1 h1=>by
 obtain rfl:c=d1:=r1
 cases c with
 | true=>exact ha B fs1 δ η1 Z Φ s1 h1
 | false=>exact hb B fs1 δ η1 Z Φ s1 h1)
def aAG(o o':FO2)(fa fb fc:FE):FE:=fun fs=>(fa fs).bind fun x fs1=>(fb fs1).bind fun y fs2=>match y with
 | .d yy=>(o fs2 x (.d yy)).bind fun z fs3=>match afd z with
  | some true=>(fc fs3).bind fun w fs4=>o' fs4 (.d yy) w
  | some false=> .ok (.d (.bl false)) fs3
  | none=> .bad
 | _=> .bad
variable {dr ds':DA}{fr:FA}
def cX:FA:=fun fs=> .ok [] fs
def aA(fe:FE)(fr:FA):FA:=fun fs=>(fe fs).bind fun v fs1=>(fr fs1).bind fun vs fs2=> .ok (v::vs) fs2
theorem imp_nil:gM Vj au2 cX:=fun B fs δ η Z Φ s h=>h [] η s True.intro
theorem imp_cons(ha:gM VR da fa)(hr:gM Vj dr fr):gM Vj (anI da dr) (aA fa fr):=fun B fs δ η Z Φ s h=>
 ha B fs δ η Z _ s (Post.bind h fun v fs1 d1 η1 s1 r1 h1=>hr (ext B v d1) fs1 δ η1 Z _ (s1.ext_ r1) (Post.bind2 r1 h1 fun vs fs2 ds2 η2 s2 rx s2' rs h2=>h2 (d1::ds2) η2 s2 ⟨rx,rs⟩))
def most:Nat:=1000000
theorem U7{n:Nat}(h:n≤most):n≤sizeLine:=by rw [sizeLine_eq];exact Nat.le_trans h (by decide)
def Ce(fr:FA):FE:=fun fs=>(fr fs).bind fun vs fs1=>match allD vs with
 | some xs=>if xs.length≤most then .ok (.d (.tup xs)) fs1 else .bad
 | none=> .bad
def YQ(fr:FA):FE:=fun fs=>(fr fs).bind fun vs fs1=>match allD vs with
 | some xs=>if xs.length≤most then .ok (.d (.lst xs)) fs1 else .bad
 | none=> .bad
def akP(fr:FA):FE:=fun fs=>(fr fs).bind fun vs fs1=>match allD vs with
 | some xs=>if xs.length≤most then .ok (.f (.lst xs)) fs1 else .bad
 | none=> .bad
theorem gQ(hr:gM Vj dr fr):gM VR (dTup dr) (Ce fr):=fun B fs δ η Z Φ s h=>hr B fs δ η Z _ s (Post.bind h fun vs fs1 ds1 η1 s1 r1 h1=>by
 split at h1
 ·rename_i xs e
  obtain ⟨rfl,n⟩:=r1.allD e
  split at h1
  ·rename_i l;exact ⟨U7 l,h1 _ η1 s1 ⟨rfl,n⟩⟩
  ·exact h1.elim
 ·exact h1.elim)
theorem yc(hr:gM Vj dr fr):gM VR (aBj dr) (YQ fr):=fun B fs δ η Z Φ s h=>hr B fs δ η Z _ s (Post.bind h fun vs fs1 ds1 η1 s1 r1 h1=>by
 split at h1
 ·rename_i xs e
  obtain ⟨rfl,n⟩:=r1.allD e
  split at h1
  ·rename_i l;exact ⟨U7 l,h1 _ η1 s1 ⟨rfl,n⟩⟩
  ·exact h1.elim
 ·exact h1.elim)
theorem akU(hr:gM Vj dr fr):gM VR (awU dr) (akP fr):=fun B fs δ η Z Φ s h=>hr B fs δ η Z _ s (Post.bind h fun vs fs1 ds1 η1 s1 r1 h1=>by
 split at h1
 ·rename_i xs e
  obtain ⟨rfl,n⟩:=r1.allD e
  split at h1
  ·rename_i l;exact ⟨U7 l,fun p hp=>h1 (.ref p) _ (s1.new hp) (VR.new s1 hp n)⟩
  ·exact h1.elim
 ·exact h1.elim)
variable {dl dh:DO}{fl fh:FO}
def agg:FO:=fun fs=> .ok none fs
def anz(fe:FE):FO:=fun fs=>(fe fs).bind fun v fs1=>match v with
 | .d (.int i)=> .ok (some i) fs1
 | _=> .bad
theorem agN:gM VEq anQ agg:=fun B fs δ η Z Φ s h=>h none η s rfl
theorem akY(ha:gM VR da fa):gM VEq (aw6 da) (anz fa):=fun B fs δ η Z Φ s h=>ha B fs δ η Z _ s (Post.bind h fun v fs1 d1 η1 s1 r1 h1=>by
 split at h1
 ·rename_i i
  obtain ⟨rfl,-⟩:=r1
  exact ⟨i,rfl,h1 _ η1 s1 rfl⟩
 ·exact h1.elim)
def fSl(g:D→Option Int→Option Int→Option D)(fe:FE)(fl fh:FO):FE:=fun fs=>(fe fs).bind fun v fs1=>match v with
 | .f _=> .bad
 | v=>(fl fs1).bind fun lo fs2=>(fh fs2).bind fun hi fs3=>match v9 fs3 v with
  | some x=>match g x lo hi with
   | some z=> .ok (.d z) fs3
   | none=> .bad
  | none=> .bad
def awI(o:DSl)(g:D→Option Int→Option Int→Option D):Prop:=∀η dx lo hi Φ z,nr (rd η dx)=true→g (rd η dx) lo hi=some z→nr z=true∧(Φ z η→o dx lo hi η Φ)
theorem VR.keep{B:Om}{fs fs':FS}{δ:vY}{η η':Eta}{v:FV}{d:D}(r:VR B fs δ η v d)(h:∀o,v≠ .f o):VR B fs' δ η' v d:=by
 cases v with
 | d x=>exact r
 | s i=>exact r
 | f o=>exact absurd rfl (h o)
theorem aqb{o:DSl}{g:D→Option Int→Option Int→Option D}(ho:awI o g)(ha:gM VR da fa)(hl:gM VEq dl fl)(hh:gM VEq dh fh):gM VR (dSl o da dl dh) (fSl g fa fl fh):=fun B fs δ η Z Φ s h=>ha B fs δ η Z _ s (Post.bind h fun v fs1 d1 η1 s1 r1 h1=>by
 have go:(∀o,v≠ .f o)→Post B δ VR ((fl fs1).bind fun lo fs2=>(fh fs2).bind fun hi fs3=>match v9 fs3 v with
  | some x=>match g x lo hi with
   | some z=> .ok (.d z) fs3
   | none=> .bad
  | none=> .bad) Z Φ→dl Z δ η1 fun lo η2=>dh Z δ η2 fun hi η3=>o d1 lo hi η3 Φ:=fun hv h2=>hl B fs1 δ η1 Z _ s1 (Post.bind h2 fun lo fs2 lo' η2 s2 e2 h3=>hh B fs2 δ η2 Z _ s2 (Post.bind h3 fun hi fs3 hi' η3 s3 e3 h4=>by
   obtain rfl:lo=lo':=e2
   obtain rfl:hi=hi':=e3
   split at h4
   ·rename_i x ex
    obtain ⟨q1,q2⟩:=(r1.keep (η':=η3) (fs':=fs3) hv).rd s3 ex
    split at h4
    ·rename_i z ez
     subst q1
     obtain ⟨n,k⟩:=ho η3 d1 lo hi Φ z q2 ez
     exact k (h4 z η3 s3 ⟨rfl,n⟩)
    ·exact h4.elim
   ·exact h4.elim))
 cases v with
 | f _=>exact h1.elim
 | d x=>exact go (fun _ e=>nomatch e) h1
 | s i=>exact go (fun _ e=>nomatch e) h1)
abbrev FOn:=FS→List FV→Rs FV
def agy(o:DCl)(fo:FOn):Prop:=∀(B:Om) (fs:FS) (δ:vY) (η:Eta) (vs:List FV) (ds:List D) (Z:Xk) (Φ:DK),St B fs δ η→Vj B fs δ η vs ds→Post B δ VR (fo fs vs) Z Φ→o ds η Φ
def Y4(fo:FOn)(fr:FA):FE:=fun fs=>(fr fs).bind fun vs fs1=>fo fs1 vs
theorem nq{o:DCl}{fo:FOn}(ho:agy o fo)(hr:gM Vj dr fr):gM VR (dCB o dr) (Y4 fo fr):=fun B fs δ η Z Φ s h=>hr B fs δ η Z _ s (Post.bind h fun vs fs1 ds1 η1 s1 r1 h1=>ho B fs1 δ η1 vs ds1 Z Φ s1 r1 h1)
def Ww(g:List D→Option D):FOn:=fun fs vs=>match QC fs vs with
 | some as=>match g as with
  | some z=> .ok (.d z) fs
  | none=> .bad
 | none=> .bad
theorem agI{o:DCl}{g:List D→Option D}(h:∀η ds Φ z,JK (ds.map (rd η))=true→g (ds.map (rd η))=some z→nr z=true∧(Φ z η→o ds η Φ)):agy o (Ww g):=fun B fs δ η vs ds Z Φ s r q=>by
 unfold Ww at q
 split at q
 ·rename_i as ea
  obtain ⟨h1,n1⟩:=r.rds s ea
  split at q
  ·rename_i z ez
   subst h1
   obtain ⟨n,k⟩:=h η ds Φ z n1 ez
   exact k (q z η s ⟨rfl,n⟩)
  ·exact q.elim
 ·exact q.elim
/-- a new list that may be changed -/
def opm(g:List D→Option M):FOn:=fun fs vs=>match QC fs vs with
 | some as=>match g as with
  | some o=> .ok (.f o) fs
  | none=> .bad
 | none=> .bad
def fUn(g:D→Option D)(fa:FE):FE:=fun fs=>(fa fs).bind fun v fs1=>match v9 fs1 v with
 | some x=>match g x with
  | some z=> .ok (.d z) fs1
  | none=> .bad
 | none=> .bad
theorem aAA{o:D→Eta→DK→Prop}{g:D→Option D}(ho:∀η d Φ z,nr (rd η d)=true→g (rd η d)=some z→nr z=true∧(Φ z η→o d η Φ))(ha:gM VR da fa):gM VR (dUn o da) (fUn g fa):=fun B fs δ η Z Φ s h=>ha B fs δ η Z _ s (Post.bind h fun v fs1 d1 η1 s1 r1 h1=>by
 split at h1
 ·rename_i x ex
  obtain ⟨q1,q2⟩:=r1.rd s1 ex
  split at h1
  ·rename_i z ez
   subst q1
   obtain ⟨n,k⟩:=ho η1 d1 Φ z q2 ez
   exact k (h1 z η1 s1 ⟨rfl,n⟩)
  ·exact h1.elim
 ·exact h1.elim)
/-- methods of texts with one argument -/
def fM1(g:D→List D→Option D)(fa fb:FE):FE:=fun fs=>(fa fs).bind fun v fs1=>match v with
 | .d (.str z)=>(fb fs1).bind fun w fs2=>match v9 fs2 w with
  | some y=>match g (.str z) [y] with
   | some r=> .ok (.d r) fs2
   | none=> .bad
  | none=> .bad
 | _=> .bad
def aA8(cs:List Addr)(f:Str)(fa:FE):FE:=fun fs=>(fa fs).bind fun v fs1=>match v9 fs1 v with
 | some (.obj C ns es)=>if cs.contains C then match lkp ns es f with
  | some d=> .ok (.d d) fs1
  | none=> .bad
  else .bad
 | _=> .bad
end
end DL
end
section
namespace DL
open PySem PySem.Spec PyProof.Rows L2
inductive O where
 | nx (s:FS)
 | rt (v:FV)(s:FS)
 | bk (s:FS)
 | ct (s:FS)
 | ex (x:D)(s:FS)
 | bad
abbrev Gq:=FS→O
def z8(B:Om)(r:O)(Z:Xk)(P:Yn):Prop:=match r with
 | .nx fs'=> ∀δ' η',St B fs' δ' η'→P.nx δ' η'
 | .rt v fs'=> ∀d δ' η',St B fs' δ' η'→VR B fs' δ' η' v d→P.rt d η'
 | .bk fs'=> ∀δ' η',St B fs' δ' η'→P.bk δ' η'
 | .ct fs'=> ∀δ' η',St B fs' δ' η'→P.ct δ' η'
 | .ex x fs'=> ∀δ' η',St B fs' δ' η'→nr x=true→Z x η'
 | .bad=>False
def aaH(t:DS)(f:Gq):Prop:=∀(B:Om) (fs:FS) (δ:vY) (η:Eta) (Z:Xk) (P:Yn),St B fs δ η→z8 B (f fs) Z P→t Z P δ η
def Rs.thn{α:Type}(r:Rs α)(g:α→FS→O):O:=match r with
 | .ok a s=>g a s
 | .ex x s=> .ex x s
 | .bad=> .bad
theorem Post.thn{γ ε:Type}{B:Om}{δ:vY}{Z:Xk}{P:Yn}{Ψ:ε→Eta→Prop}{Rl:Om→FS→vY→Eta→γ→ε→Prop}{r:Rs γ}{g:γ→FS→O}(h:z8 B (r.thn g) Z P)(k:∀v fs1 d η1,St B fs1 δ η1→Rl B fs1 δ η1 v d→z8 B (g v fs1) Z P→Ψ d η1):Post B δ Rl r Z Ψ:=by
 cases r with
 | ok v fs1=>exact fun d η1 s rl=>k v fs1 d η1 s rl h
 | ex x fs1=>exact fun η1 s n=>h δ η1 s n
 | bad=>exact h
section
variable {t u:DS}{f g:Gq}{de:DE}{fe:FE}{dt:DT}{ft:FT}
def Ed:Gq:=fun fs=> .nx fs
def O.seq(o:O)(g:Gq):O:=match o with
 | .nx s=>g s
 | o=>o
def vG(f g:Gq):Gq:=fun fs=>(f fs).seq g
theorem kh:aaH awY Ed:=fun B fs δ η Z P s h=>h δ η s
theorem cU(hf:aaH t f)(hg:aaH u g):aaH (aBt t u) (vG f g):=fun B fs δ η Z P s h=>by
 refine hf B fs δ η Z _ s ?_
 have h:z8 B ((f fs).seq g) Z P:=h
 cases e:f fs with
 | nx fs1=>rw [e] at h;exact fun δ' η' s'=>hg B fs1 δ' η' Z P s' h
 | rt v fs1=>rw [e] at h;exact h
 | bk fs1=>rw [e] at h;exact h
 | ct fs1=>rw [e] at h;exact h
 | ex x fs1=>rw [e] at h;exact h
 | bad=>rw [e] at h;exact h
def ayw:Gq:=fun fs=> .bk fs
def aCQ:Gq:=fun fs=> .ct fs
def apU(fe:FE):Gq:=fun fs=>(fe fs).thn fun _ fs1=> .nx fs1
theorem aoq(he:gM VR de fe):aaH (awW de) (apU fe):=fun B fs δ η Z P s h=>he B fs δ η Z _ s (Post.thn h fun v fs1 d1 η1 s1 r1 h1=>h1 δ η1 s1)
def Ko(fe:FE):Gq:=fun fs=>(fe fs).thn fun v fs1=> .rt v fs1
theorem iy(he:gM VR de fe):aaH (aDD de) (Ko fe):=fun B fs δ η Z P s h=>he B fs δ η Z _ s (Post.thn h fun v fs1 d1 η1 s1 r1 h1=>h1 d1 δ η1 s1 r1)
def aDg:Gq:=fun fs=> .rt (.d .non) fs
def sIf(ft:FT)(f g:Gq):Gq:=fun fs=>(ft fs).thn fun b fs1=>if b=true then f fs1 else g fs1
theorem tY(ht:gM VEq dt ft)(hf:aaH t f)(hg:aaH u g):aaH (aA0 dt t u) (sIf ft f g):=fun B fs δ η Z P s h=>ht B fs δ η Z _ s (Post.thn h fun b fs1 d1 η1 s1 r1 h1=>by
 obtain rfl:b=d1:=r1
 cases b with
 | true=>exact hf B fs1 δ η1 Z P s1 h1
 | false=>exact hg B fs1 δ η1 Z P s1 h1)
def amE:Gq:=fun _=> .bad
theorem amo:aaH asn amE:=fun B fs δ η Z P s h=>h
end
/-- a frame's own object becomes data for good -/
def acA(d:D)(η:Eta):D × Eta:=match d with
 | .ref p=>match η p with
  | some o=>(mD o,U3 η p)
  | none=>(d,η)
 | _=>(d,η)
def aA7(de:DE):DE:=fun Z δ η Φ=>de Z δ η fun d η1=>Φ (acA d η1).1 (acA d η1).2
/-- what comes out may be locked for good -/
def aBy(t:TE):TE:=fun σ H Q=>t σ H fun v H'=>Q v H'∨∃d u,v= .ref d∧H' d=some u∧Mut (some u)∧∀od,Q v (upd H' d (.frz od u))
theorem axn{X:Cx}{e:Expr}{t:TE}(h:PE X e t):PE X e (aBy t):=⟨fun pins s σ H Q I hw=>thn (h.run pins s σ H _ I hw) fun v s1 ⟨x,H1,I1,r,q⟩=>by
 rcases q with q | ⟨d,u,ex,hd,mu,q⟩
 ·exact ⟨x,H1,I1,r,q⟩
 ·obtain ⟨od,I2⟩:=I1.lock hd mu
  exact ⟨x,_,I2,r,q od⟩⟩
theorem ayi{K:PySem.W.Frag}{R:Addr→Prop}{η:Eta}{H:Hp}{p:Addr}{kvs:List (Key × V)}{ks:List Key}{ds:List D}(l:Lk K R η H)(hp:η p=some (.dct ks ds))(g1:H p=some (.dK kvs))(g2:kvs.map (·.1)=ks)(g3:bJ K R η H (kvs.map (·.2)) ds)(od:Obj):
  Lk K R (U3 η p) (upd H p (.frz od (.dK kvs)))∧Ext η H (U3 η p) (upd H p (.frz od (.dK kvs)))∧Rep K R (U3 η p) (upd H p (.frz od (.dK kvs))) (.ref p) (.dct ks ds):=by
 have hne:η p≠none:=by rw [hp];simp
 have e1:∀a,a≠p→U3 η p a=η a:=fun a q=>if_neg q
 have ep:U3 η p p=none:=if_pos rfl
 have x:Ext η H (U3 η p) (upd H p (.frz od (.dK kvs))):=⟨fun a o n e=>by
  have q:a≠p:=by rintro rfl;exact hne n
  exact .inl (by rw [upd_ne q];exact e),fun a q=> .inl fun z=>by
  by_cases h:a=p
  ·rw [h] at q;exact q ep
  ·rw [e1 a h] at q;exact q z⟩
 refine ⟨⟨fun a m e=> ?_,fun a ra=> ?_,fun P q t=>(l.tb P q t).go fun a o e n r=>by have q:a≠p:=(by rintro rfl;exact hne n);exact ⟨by rw [upd_ne q];exact e,by rw [e1 a q];exact n,r⟩⟩,x, .dct upd_same ep (fun ra=>l.nrm hne ra) g2 (g3.up x)⟩
 ·have q:a≠p:=by rintro rfl;rw [ep] at e;cases e
  rw [e1 a q] at e
  exact (l.m a m e).up x fun o z=>by rw [upd_ne q];exact z
 ·have q:a≠p:=by rintro rfl;exact l.nrm hne ra
  rw [upd_ne q,e1 a q]
  exact l.r a ra
theorem avo{K:PySem.W.Frag}{R:Addr→Prop}{η:Eta}{H:Hp}{v:V}{d:D}(l:Lk K R η H)(r:Rep K R η H v d)(hn:∀p ks ds,d= .ref p→η p≠some (.dct ks ds)):Lk K R (acA d η).2 H∧Ext η H (acA d η).2 H∧Rep K R (acA d η).2 H v (acA d η).1:=by
 unfold acA
 split
 ·rename_i p
  split
  ·rename_i o e
   cases r
   have np:U3 η p p=none:=by unfold U3;rw [if_pos rfl]
   have nR:¬ R p:=l.nrm (by rw [e];simp)
   cases o with
   | lst ds=>
    obtain ⟨xs,h1,h2⟩:=l.m p _ e
    exact ⟨l.del,Ext.del, .lst (.inl h1) np nR (h2.up Ext.del)⟩
   | ins C ns ds=>
    obtain ⟨dx,fs,h1,h2,h3⟩:=l.m p _ e
    exact ⟨l.del,Ext.del, .obj h1 np nR h2 (h3.up Ext.del)⟩
   | dct ks ds=>
    exact absurd e (hn p ks ds rfl)
  ·exact ⟨l,Ext.refl _ _,r⟩
 ·exact ⟨l,Ext.refl _ _,r⟩
theorem azY{X:Cx}{E:XK}{e:Expr}{te:TE}{de:DE}(he:PD X E e te de):PD X E e (aBy te) (aA7 de):=⟨axn he.pe,fun R σ H δ η Z Φ Q l s h k=>he.so R σ H δ η Z _ _ l s h (k.to fun v d H1 η1 l1 x1 r1 h1=>by
 by_cases hd:∃p ks ds,d= .ref p∧η1 p=some (.dct ks ds)
 ·obtain ⟨p,ks,ds,rfl,hp⟩:=hd
  cases r1
  obtain ⟨kvs,g1,g2,g3⟩:=l1.m p _ hp
  refine .inr ⟨p, .dK kvs,rfl,g1,trivial,fun od=> ?_⟩
  obtain ⟨f1,f2,f3⟩:=ayi l1 hp g1 g2 g3 od
  have e1:acA (.ref p) η1=(.dct ks ds,U3 η1 p):=by simp [acA,hp,mD]
  rw [e1] at h1
  exact k.ok _ _ _ _ f1 (x1.trans f2) f3 h1
 ·obtain ⟨l2,x2,r2⟩:=avo l1 r1 fun p ks ds q1 q2=>hd ⟨p,ks,ds,q1,q2⟩
  exact .inl (k.ok v _ H1 _ l2 (x1.trans x2) r2 h1))⟩
def awf(fe:FE):FE:=fun fs=>(fe fs).bind fun v fs1=>match v with
 | .d x=> .ok (.d x) fs1
 | .f o=> .ok (.d (mD o)) fs1
 | .s i=>match fs1[i]? with
  | some (some (.m false o))=> .ok (.d (mD o)) (fs1.set i none)
  | _=> .bad
section
variable {B:Om}{fs:FS}{δ:vY}{η:Eta}{i:Nat}{p:Addr}{o o':M}{pr:Bool}{sv:Sv}{x d:D}{v:FV}
theorem get_set{α:Type}{l:List α}{i j:Nat}{a b:α}(h:(l.set i a)[j]? =some b):(i=j∧b=a∧i < l.length)∨(i≠j∧l[j]? =some b):=by
 by_cases e:i=j
 ·subst e
  by_cases lt:i < l.length
  ·rw [List.getElem?_set_self lt] at h;cases h;exact .inl ⟨rfl,rfl,lt⟩
  ·rw [List.getElem?_eq_none (by simpa using lt)] at h;cases h
 ·rw [List.getElem?_set_ne e] at h;exact .inr ⟨e,h⟩
/-- a slot is emptied -/
theorem St.none_(s:St B fs δ η)(h:∀o,fs[i]? ≠some (some (.l o))):St B (fs.set i none) δ η:=by
 refine ⟨by rw [List.length_set];exact s.len,fun j x e=> ?_,fun j pr o e=> ?_,fun j o e=> ?_,fun j p e=> ?_,fun j k pr pr' o o' p e1 e2=> ?_,s.fr,s.pn⟩
 ·rcases get_set e with ⟨-,e,-⟩ | ⟨-,e⟩
  ·cases e
  ·exact s.d j x e
 ·rcases get_set e with ⟨-,e,-⟩ | ⟨-,e⟩
  ·cases e
  ·exact s.m j pr o e
 ·rcases get_set e with ⟨-,e,-⟩ | ⟨-,e⟩
  ·cases e
  ·exact s.l j o e
 ·obtain ⟨⟨o,q⟩,q2⟩:=s.lk j p e
  have ne:i≠j:=by rintro rfl;exact h o q
  exact ⟨⟨o,by rw [List.getElem?_set_ne ne];exact q⟩,q2⟩
 ·rcases get_set e1 with ⟨-,e1,-⟩ | ⟨-,e1⟩
  ·cases e1
  ·rcases get_set e2 with ⟨-,e2,-⟩ | ⟨-,e2⟩
   ·cases e2
   ·exact s.inj j k pr pr' o o' p e1 e2
/-- an object that the frame has no name of is let go -/
theorem St.del(s:St B fs δ η)(f:Frs B fs δ p):St B fs δ (U3 η p):=by
 have q:∀a,a≠p→U3 η p a=η a:=fun a ne=>by unfold U3;rw [if_neg ne]
 refine ⟨s.len,s.d,fun i pr o' e=> ?_,s.l,s.lk,s.inj,fun a o' e=> ?_,fun i a e=> ?_⟩
 ·obtain ⟨a,q1,q2,q3⟩:=s.m i pr o' e
  have ne:a≠p:=by rintro rfl;exact f.sl i pr o' e q1
  exact ⟨a,q1,by rw [q a ne];exact q2,q3⟩
 ·have ne:a≠p:=by rintro rfl;rw [f.b] at e;cases e
  rw [q a ne];exact s.fr a o' e
 ·have ne:a≠p:=by rintro rfl;exact f.ps i e
  rw [q a ne];exact s.pn i a e
/-- a slot's own object loses its name -/
theorem St.frs_slot(s:St B fs δ η)(e:fs[i]? =some (some (.m false o)))(q:δ[i]? =some (some (.ref p))):Frs B (fs.set i none) δ p:=by
 obtain ⟨p',q1,q2,q3,q4,q5,q6⟩:=s.m i false o e
 rw [q] at q1;cases q1
 refine ⟨q3,fun j pr o' e2 q7=> ?_,q6 rfl,fun j e3=> ?_⟩
 ·rcases get_set e2 with ⟨-,e2,-⟩ | ⟨ne,e2⟩
  ·cases e2
  ·exact ne (s.inj i j _ _ _ _ p e e2 q q7)
 ·exact (s.lk j p e3).2 q3
end
theorem atR{de:DE}{fe:FE}(he:gM VR de fe):gM VR (aA7 de) (awf fe):=fun B fs δ η Z Φ s h=>he B fs δ η Z _ s (Post.bind h fun v fs1 d1 η1 s1 r1 h1=>by
 cases v with
 | d x=>
  obtain ⟨rfl,n⟩:=r1
  have e:acA d1 η1=(d1,η1):=by
   cases d1 with
   | ref p=>simp [nr] at n
   | _=>rfl
  rw [e];exact h1 _ η1 s1 ⟨rfl,n⟩
 | f o=>
  obtain ⟨p,rfl,e,n,fr⟩:=r1
  have e2:acA (.ref p) η1=(mD o,U3 η1 p):=by simp [acA,e]
  rw [e2];exact h1 _ _ (s1.del fr) ⟨rfl,n⟩
 | s i=>
  split at h1
  ·rename_i x e;cases e
  ·rename_i o e;cases e
  ·rename_i j e
   cases e
   split at h1
   ·rename_i o eo
    have r1:δ[i]? =some (some d1):=r1
    obtain ⟨p,q1,q2,q3,q4,q5,q6⟩:=s1.m i false o eo
    rw [q1] at r1;cases r1
    have e2:acA (.ref p) η1=(mD o,U3 η1 p):=by simp [acA,q2]
    rw [e2]
    have nl:∀o,fs1[i]? ≠some (some (.l o)):=fun o' z=>by rw [eo] at z;cases z
    exact h1 _ _ ((s1.none_ nl).del (s1.frs_slot eo q1)) ⟨rfl,q4⟩
   ·exact h1.elim)
abbrev FG:=FV→FS→Option FS
abbrev FGs:=List D→FS→Option FS
def Agr(vs:List Nat)(δ' δ:vY):Prop:=δ'.length=δ.length∧∀i,i ∉ vs→δ'[i]? =δ[i]?
def PG'(B:Om)(δ:vY)(vs:List Nat)(r:Option FS)(Ψ:vY→Eta→Prop):Prop:=match r with
 | some fs'=> ∀δ' η',St B fs' δ' η'→Agr vs δ' δ→Ψ δ' η'
 | none=>False
def ajd(vs:List Nat)(dg:DG)(g:FG):Prop:=∀(B:Om) (fs:FS) (δ:vY) (η:Eta) (v:FV) (d:D) (Ψ:vY→Eta→Prop),St B fs δ η→VR B fs δ η v d→PG' B δ vs (g v fs) Ψ→dg d δ η Ψ
def an0(vs:List Nat)(dg:DGs)(g:FGs):Prop:=∀(B:Om) (fs:FS) (δ:vY) (η:Eta) (ds:List D) (Ψ:vY→Eta→Prop),St B fs δ η→JK ds=true→PG' B δ vs (g ds fs) Ψ→dg ds δ η Ψ
def isL(fs:FS)(i:Nat):Bool:=match fs[i]? with
 | some (some (.l _))=>true
 | _=>false
theorem amq{fs:FS}{i:Nat}(h:isL fs i=false):∀o,fs[i]? ≠some (some (.l o)):=fun o e=>by simp [isL,e] at h
def gName(i:Nat):FG:=fun v fs=>if isL fs i=true then none else match v with
 | .d x=>some (fs.set i (some (.d x)))
 | .f o=>some (fs.set i (some (.m false o)))
 | .s j=>match fs[j]? with
  | some (some (.m false o))=>some ((fs.set j none).set i (some (.m false o)))
  | _=>none
section
variable {B:Om}{fs:FS}{δ:vY}{η:Eta}{i j:Nat}{p:Addr}{o o':M}{pr:Bool}{sv:Sv}{x d:D}{v:FV}
theorem St.setD(s:St B fs δ η)(h:isL fs i=false)(n:nr x=true):St B (fs.set i (some (.d x))) (δ.set i (some x)) η:=by
 have hl:=s.len
 refine ⟨by rw [List.length_set,List.length_set];exact s.len,fun j y e=> ?_,fun j pr o e=> ?_,fun j o e=> ?_,fun j p e=> ?_,fun j k pr pr' o o' p e1 e2 h1 h2=> ?_,s.fr,s.pn⟩
 ·rcases get_set e with ⟨rfl,e,lt⟩ | ⟨ne,e⟩
  ·cases e;exact ⟨by rw [List.getElem?_set_self (by omega)],n⟩
  ·rw [List.getElem?_set_ne ne];exact s.d j y e
 ·rcases get_set e with ⟨-,e,-⟩ | ⟨ne,e⟩
  ·cases e
  ·rw [List.getElem?_set_ne ne];exact s.m j pr o e
 ·rcases get_set e with ⟨-,e,-⟩ | ⟨ne,e⟩
  ·cases e
  ·rw [List.getElem?_set_ne ne];exact s.l j o e
 ·obtain ⟨⟨o,q⟩,q2⟩:=s.lk j p e
  have ne:i≠j:=by rintro rfl;exact amq h o q
  exact ⟨⟨o,by rw [List.getElem?_set_ne ne];exact q⟩,q2⟩
 ·rcases get_set e1 with ⟨-,e1,-⟩ | ⟨ne1,e1⟩
  ·cases e1
  ·rcases get_set e2 with ⟨-,e2,-⟩ | ⟨ne2,e2⟩
   ·cases e2
   ·rw [List.getElem?_set_ne ne1] at h1
    rw [List.getElem?_set_ne ne2] at h2
    exact s.inj j k pr pr' o o' p e1 e2 h1 h2
theorem St.setM(s:St B fs δ η)(h:isL fs i=false)(f:Frs B fs δ p)(hp:η p=some o)(n:nrM o):St B (fs.set i (some (.m false o))) (δ.set i (some (.ref p))) η:=by
 have hl:=s.len
 refine ⟨by rw [List.length_set,List.length_set];exact s.len,fun j y e=> ?_,fun j pr o e=> ?_,fun j o e=> ?_,fun j p e=> ?_,fun j k pr pr' o o' p' e1 e2 h1 h2=> ?_,s.fr,s.pn⟩
 ·rcases get_set e with ⟨-,e,-⟩ | ⟨ne,e⟩
  ·cases e
  ·rw [List.getElem?_set_ne ne];exact s.d j y e
 ·rcases get_set e with ⟨rfl,e,lt⟩ | ⟨ne,e⟩
  ·cases e;exact ⟨p,by rw [List.getElem?_set_self (by omega)],hp,f.b,n,(fun z=>by cases z),fun _=>f.ps⟩
  ·rw [List.getElem?_set_ne ne];exact s.m j pr o e
 ·rcases get_set e with ⟨-,e,-⟩ | ⟨ne,e⟩
  ·cases e
  ·rw [List.getElem?_set_ne ne];exact s.l j o e
 ·obtain ⟨⟨o,q⟩,q2⟩:=s.lk j p e
  have ne:i≠j:=by rintro rfl;exact amq h o q
  exact ⟨⟨o,by rw [List.getElem?_set_ne ne];exact q⟩,q2⟩
 ·rcases get_set e1 with ⟨rfl,e1,lt⟩ | ⟨ne1,e1⟩
  ·rw [List.getElem?_set_self (by omega)] at h1
   cases h1
   rcases get_set e2 with ⟨rfl,e2,-⟩ | ⟨ne2,e2⟩
   ·rfl
   ·rw [List.getElem?_set_ne ne2] at h2
    exact absurd h2 (f.sl k _ _ e2)
  ·rw [List.getElem?_set_ne ne1] at h1
   rcases get_set e2 with ⟨rfl,e2,lt⟩ | ⟨ne2,e2⟩
   ·rw [List.getElem?_set_self (by omega)] at h2
    cases h2
    exact absurd h1 (f.sl j _ _ e1)
   ·rw [List.getElem?_set_ne ne2] at h2
    exact s.inj j k pr pr' o o' p' e1 e2 h1 h2
theorem St.name_(s:St B fs δ η)(r:VR B fs δ η v d){fs':FS}(h:gName i v fs=some fs'):St B fs' (δ.set i (some d)) η:=by
 unfold gName at h
 split at h
 ·cases h
 ·rename_i hl
  have hl:isL fs i=false:=by simpa using hl
  split at h
  ·cases h
   obtain ⟨rfl,n⟩:=r
   exact s.setD hl n
  ·cases h
   obtain ⟨p,rfl,h1,n,f⟩:=r
   exact s.setM hl f h1 n
  ·rename_i j
   split at h
   ·rename_i o e
    cases h
    obtain ⟨p,q1,q2,q3,q4,q5,q6⟩:=s.m j false o e
    have r:δ[j]? =some (some d):=r
    rw [q1] at r;cases r
    have nl:∀o,fs[j]? ≠some (some (.l o)):=fun o' z=>by rw [e] at z;cases z
    refine (s.none_ nl).setM ?_ (s.frs_slot e q1) q2 q4
    unfold isL at *
    by_cases ij:j=i
    ·subst ij
     by_cases lt:j < fs.length
     ·rw [List.getElem?_set_self lt]
     ·rw [List.getElem?_eq_none (by simpa using lt)]
    ·rw [List.getElem?_set_ne ij];exact hl
   ·cases h
theorem eY:ajd [i] (dName i) (gName i):=fun B fs δ η v d Ψ s r h=>by
 cases e:gName i v fs with
 | none=>rw [e] at h;exact h.elim
 | some fs'=>
  rw [e] at h
  exact h _ η (s.name_ r e) ⟨by simp,fun j hj=>List.getElem?_set_ne (by rintro rfl;exact hj List.mem_cons_self)⟩
end
def aiv:FGs:=fun ds fs=>match ds with
 | []=>some fs
 | _=>none
def Xc(g:FG)(gs:FGs):FGs:=fun ds fs=>match ds with
 | d::r=>match g (.d d) fs with
  | some fs1=>gs r fs1
  | none=>none
 | _=>none
theorem adB:an0 [] awP aiv:=fun B fs δ η ds Ψ s n h=>by
 unfold aiv at h
 split at h
 ·exact ⟨rfl,h δ η s ⟨rfl,fun _ _=>rfl⟩⟩
 ·exact h.elim
theorem G5{vs ws:List Nat}{dg:DG}{g:FG}{dgs:DGs}{gs:FGs}(h1:ajd vs dg g)(h2:an0 ws dgs gs):an0 (vs ++ ws) (asH dg dgs) (Xc g gs):=fun B fs δ η ds Ψ s n h=>by
 unfold Xc at h
 split at h
 ·rename_i d r
  have n1:nr d=true:=vZ n List.mem_cons_self
  have n2:JK r=true:=Vm fun x hx=>vZ n (List.mem_cons_of_mem _ hx)
  refine ⟨d,r,rfl,h1 B fs δ η (.d d) d _ s ⟨rfl,n1⟩ ?_⟩
  split at h
  ·rename_i fs1 e
   rw [e]
   intro δ1 η1 s1 q1
   refine h2 B fs1 δ1 η1 r Ψ s1 n2 ?_
   cases e2:gs r fs1 with
   | none=>rw [e2] at h;exact h
   | some fs2=>
    rw [e2] at h
    exact fun δ2 η2 s2 q2=>h δ2 η2 s2 ⟨q2.1.trans q1.1,fun i hi=>(q2.2 i fun z=>hi (List.mem_append_right _ z)).trans (q1.2 i fun z=>hi (List.mem_append_left _ z))⟩
  ·exact h.elim
 ·exact h.elim
def gTup(n:Nat)(gs:FGs):FG:=fun v fs=>match v with
 | .d (.tup xs)=>if xs.length=n then gs xs fs else none
 | _=>none
theorem agB{vs:List Nat}{n:Nat}{dgs:DGs}{gs:FGs}(h:an0 vs dgs gs):ajd vs (aq0 n dgs) (gTup n gs):=fun B fs δ η v d Ψ s r q=>by
 unfold gTup at q
 split at q
 ·rename_i xs
  obtain ⟨rfl,nn⟩:=r
  split at q
  ·rename_i l
   exact ⟨xs,rfl,l,h B fs δ η xs Ψ s (by simpa [nr] using nn) q⟩
  ·exact q.elim
 ·exact q.elim
def Eh(fe:FE)(g:FG):Gq:=fun fs=>(fe fs).thn fun v fs1=>match g v fs1 with
 | some fs2=> .nx fs2
 | none=> .bad
theorem gR{vs:List Nat}{de:DE}{fe:FE}{dg:DG}{g:FG}(he:gM VR de fe)(hg:ajd vs dg g):aaH (avw de dg) (Eh fe g):=fun B fs δ η Z P s h=>he B fs δ η Z _ s (Post.thn h fun v fs1 d1 η1 s1 r1 h1=>by
 refine hg B fs1 δ η1 v d1 _ s1 r1 ?_
 split at h1
 ·rename_i fs2 e
  rw [e];exact fun δ' η' s' _=>h1 δ' η' s'
 ·exact h1.elim)
section
variable {B:Om}{fs:FS}{δ:vY}{η:Eta}{i j:Nat}{p:Addr}{o o':M}{pr:Bool}{sv:Sv}{x d:D}{v:FV}
theorem St.put(s:St B fs δ η)(e:fs[i]? =some (some (.m pr o)))(q:δ[i]? =some (some (.ref p)))(n:nrM o'):St B (fs.set i (some (.m pr o'))) δ (Ka η p o'):=by
 have hl:=s.len
 obtain ⟨p',q1,q2,q3,q4,q5,q6⟩:=s.m i pr o e
 rw [q] at q1;cases q1
 have lt:i < fs.length:=(List.getElem?_eq_some_iff.mp e).1
 refine ⟨by rw [List.length_set];exact s.len,fun j y e=> ?_,fun j pr2 o2 e2=> ?_,fun j o2 e2=> ?_,fun j a e2=> ?_,fun j k pr1 pr2 o1 o2 a e1 e2 h1 h2=> ?_,fun a o2 e2=> ?_,fun j a e2=> ?_⟩
 ·rcases get_set e with ⟨-,e,-⟩ | ⟨ne,e⟩
  ·cases e
  ·exact s.d j y e
 ·rcases get_set e2 with ⟨rfl,e2,-⟩ | ⟨ne,e2⟩
  ·cases e2;exact ⟨p,q,jN,q3,n,q5,q6⟩
  ·obtain ⟨a,a1,a2,a3⟩:=s.m j pr2 o2 e2
   have na:a≠p:=by rintro rfl;exact ne (s.inj i j _ _ _ _ _ e e2 q a1)
   exact ⟨a,a1,by rw [iT na];exact a2,a3⟩
 ·rcases get_set e2 with ⟨-,e2,-⟩ | ⟨ne,e2⟩
  ·cases e2
  ·exact s.l j o2 e2
 ·obtain ⟨⟨o3,q8⟩,q9⟩:=s.lk j a e2
  have ne:i≠j:=by rintro rfl;rw [e] at q8;cases q8
  exact ⟨⟨o3,by rw [List.getElem?_set_ne ne];exact q8⟩,q9⟩
 ·have f:∀ {m:Nat} {prx:Bool} {ox:M},(fs.set i (some (Sv.m pr o')))[m]? =some (some (Sv.m prx ox))→∃(pry:Bool) (oy:M),fs[m]? =some (some (Sv.m pry oy)):=fun {m prx ox} z=>by
   rcases get_set z with ⟨rfl,-,-⟩ | ⟨-,z⟩
   ·exact ⟨_,_,e⟩
   ·exact ⟨_,_,z⟩
  obtain ⟨_,_,f1⟩:=f e1
  obtain ⟨_,_,f2⟩:=f e2
  exact s.inj j k _ _ _ _ a f1 f2 h1 h2
 ·have ne:a≠p:=by rintro rfl;rw [q3] at e2;cases e2
  rw [iT ne];exact s.fr a o2 e2
 ·by_cases ne:a=p
  ·subst ne;rw [jN];simp
  ·rw [iT ne];exact s.pn j a e2
end
/-- o[i]=v of an own object -/
def gSub(gs:M→D→D→Option M)(fo fi:FE):FG:=fun v fs=>match v with
 | .d z=>match fo fs with
  | .ok (.s k) fs1=>match fi fs1 with
   | .ok w fs2=>match v9 fs2 w,fs2[k]? with
    | some y,some (some (.m pr o))=>match gs o y z with
     | some o'=>some (fs2.set k (some (.m pr o')))
     | none=>none
    | _,_=>none
   | _=>none
  | _=>none
 | _=>none
def apw(o:aoC)(gs:M→D→D→Option M):Prop:=∀η p dy z m m' Φ,η p=some m→nrM m→nr z=true→gs m (rd η dy) z=some m'→nrM m'∧(Φ (Ka η p m')→o (.ref p) dy z η Φ)
theorem WD{do_ di:DE}{fo fi:FE}{o:aoC}{gs:M→D→D→Option M}(hs:apw o gs)(ho:gM VR do_ fo)(hi:gM VR di fi):ajd [] (aCX do_ di o) (gSub gs fo fi):=fun B fs δ η v d Ψ s r h=>by
 cases v with
 | s _=>exact h.elim
 | f _=>exact h.elim
 | d z=>
  obtain ⟨rfl,nz⟩:=r
  have h:PG' B δ [] (match fo fs with
   | .ok (.s k) fs1=>match fi fs1 with
    | .ok w fs2=>match v9 fs2 w,fs2[k]? with
     | some y,some (some (.m pr o))=>match gs o y d with
      | some o'=>some (fs2.set k (some (.m pr o')))
      | none=>none
     | _,_=>none
    | _=>none
   | _=>none) Ψ:=h
  refine ho B fs δ η Z0 _ s ?_
  split at h
  ·rename_i k fs1 e1
   rw [e1]
   intro d1 η1 s1 r1
   have r1:δ[k]? =some (some d1):=r1
   refine hi B fs1 δ η1 Z0 _ s1 ?_
   split at h
   ·rename_i w fs2 e2
    rw [e2]
    intro d2 η2 s2 r2
    split at h
    ·rename_i y pr o ey eo
     obtain ⟨q1,q2⟩:=r2.rd s2 ey
     obtain ⟨p,p1,p2,p3,p4,p5⟩:=s2.m k pr o eo
     rw [p1] at r1;cases r1
     split at h
     ·rename_i o' eo'
      subst q1
      obtain ⟨n,kk⟩:=hs η2 p d2 d o o' (fun η3=>Ψ δ η3) p2 p4 nz eo'
      exact kk (h δ _ (s2.put eo p1 n) ⟨rfl,fun _ _=>rfl⟩)
     ·exact h.elim
    ·exact h.elim
   ·exact h.elim
  ·exact h.elim
/-- o.f=v of an own object -/
def axe(cs:List Addr)(f:Str)(fo:FE):FG:=fun v fs=>match v with
 | .d z=>match fo fs with
  | .ok (.s k) fs1=>match fs1[k]? with
   | some (some (.m pr (.ins C ns es)))=>if cs.contains C && decide (ns.length < 1000) then some (fs1.set k (some (.m pr (.ins C (putN ns f) (putD ns es f z))))) else none
   | _=>none
  | _=>none
 | _=>none
end DL
end
section
namespace DL
open PySem PySem.Spec PyProof.Rows L2
def FV.isS:FV→Bool
 | .s _=>true
 | _=>false
section
variable {B:Om}{fs fs':FS}{δ:vY}{η:Eta}{i:Nat}{v w:FV}{d e:D}{p:Addr}{o:M}
theorem Vj.one{vs:List FV}{ds:List D}(r:Vj B fs δ η vs ds):vs.length=ds.length∧∀(k:Nat) (v:FV) (d:D),vs[k]? =some v→ds[k]? =some d→VR B fs δ η v d:=by
 induction vs generalizing ds B with
 | nil=>
  cases ds with
  | nil=>exact ⟨rfl,fun k v d h=>by simp at h⟩
  | cons _ _=>exact r.elim
 | cons v vs ih=>
  cases ds with
  | nil=>exact r.elim
  | cons d ds=>
   obtain ⟨r1,r2⟩:=r
   obtain ⟨h1,h2⟩:=ih r2
   refine ⟨by simp [h1],fun k w e hw he=> ?_⟩
   cases k with
   | zero=>cases hw;cases he;exact r1
   | succ k=>exact r1.unext (h2 k w e (by simpa using hw) (by simpa using he))
end
def Xe:List Nat→List FV→FS→Option FS
 | [],[],fs=>some fs
 | i::is,v::vs,fs=>if v.isS=true then none else match gName i v fs with
  | some fs1=>Xe is vs fs1
  | none=>none
 | _,_,_=>none
def aDo(is:List Nat)(fr:FA):Gq:=fun fs=>(fr fs).thn fun vs fs1=>if vs.all (fun v=> !v.isS) then match Xe is vs fs1 with
  | some fs2=> .nx fs2
  | none=> .bad
 else .bad
/-- x op=e -/
def aAW(i:Nat)(fe:FE)(o:FO2):Gq:=fun fs=>match fs[i]? with
 | some (some (.d x))=>(fe fs).thn fun y fs1=>(o fs1 (.d x) y).thn fun z fs2=>match gName i z fs2 with
  | some fs3=> .nx fs3
  | none=> .bad
 | _=> .bad
def Za(k:Gq):O→O
 | .nx s=>k s
 | .ct s=>k s
 | .bk s=> .nx s
 | .rt v s=> .rt v s
 | .ex x s=> .ex x s
 | .bad=> .bad
def yj(g:FG)(body:Gq):List D→Gq
 | []=>fun fs=> .nx fs
 | x::xs=>fun fs=>match g (.d x) fs with
  | none=> .bad
  | some fs1=>Za (yj g body xs) (body fs1)
theorem YW{vs:List Nat}{dg:DG}{g:FG}{db:DS}{body:Gq}(hg:ajd vs dg g)(hb:aaH db body){B:Om}{G:Eta→Prop}(hG:∀fs δ η,St B fs δ η→G η){Z:Xk}{P:Yn}:∀(xs:List D) (fs:FS) (δ:vY) (η:Eta),JK xs=true→St B fs δ η→z8 B (yj g body xs fs) Z P→agn dg db Z P G xs δ η
 | [],fs,δ,η,n,s,h=>⟨hG fs δ η s,h δ η s⟩
 | x::xs,fs,δ,η,n,s,h=>by
  have n1:nr x=true:=vZ n List.mem_cons_self
  have n2:JK xs=true:=Vm fun y hy=>vZ n (List.mem_cons_of_mem _ hy)
  refine ⟨hG fs δ η s,hg B fs δ η (.d x) x _ s ⟨rfl,n1⟩ ?_⟩
  have h:z8 B (match g (.d x) fs with
   | none=> .bad
   | some fs1=>Za (yj g body xs) (body fs1)) Z P:=h
  cases e:g (.d x) fs with
  | none=>rw [e] at h;exact h
  | some fs1=>
   rw [e] at h
   have h:z8 B (Za (yj g body xs) (body fs1)) Z P:=h
   intro δ1 η1 s1 _
   refine hb B fs1 δ1 η1 Z _ s1 ?_
   cases e2:body fs1 with
   | nx fs2=>rw [e2] at h;exact fun δ2 η2 s2=>YW hg hb hG xs fs2 δ2 η2 n2 s2 h
   | ct fs2=>rw [e2] at h;exact fun δ2 η2 s2=>YW hg hb hG xs fs2 δ2 η2 n2 s2 h
   | bk fs2=>rw [e2] at h;exact h
   | rt v fs2=>rw [e2] at h;exact h
   | ex x fs2=>rw [e2] at h;exact h
   | bad=>rw [e2] at h;exact h
/-- what is walked:the items;an own object that must stay -/
abbrev FI:=FS→Rs (List D × Option (Nat × M))
def agm(B:Om)(δ:vY)(r:Rs (List D × Option (Nat × M)))(Z:Xk)(Ψ:List D→(Eta→Prop)→Eta→Prop):Prop:=match r with
 | .ok (ds,none) fs'=>JK ds=true→∀η',St B fs' δ η'→Ψ ds (fun _=>True) η'
 | .ok (ds,some (k,o)) fs'=>JK ds=true→∀η' p,St B fs' δ η'→δ[k]? =some (some (.ref p))→η' p=some o→yt fs' k=some o→Ψ ds (fun η=>η p=some o) η'
 | .ex x fs'=> ∀η',St B fs' δ η'→nr x=true→Z x η'
 | .bad=>False
def aqu(di:DI)(fi:FI):Prop:=∀(B:Om) (fs:FS) (δ:vY) (η:Eta) (Z:Xk) (Ψ:List D→(Eta→Prop)→Eta→Prop),St B fs δ η→agm B δ (fi fs) Z Ψ→di Z δ η Ψ
def Xa(k:Nat)(pr:Bool)(s:FS):Option FS:=match s[k]? with
 | some (some (.l o))=>some (s.set k (some (.m pr o)))
 | _=>none
def JZ(k:Nat)(pr:Bool):O→O
 | .nx s=>match Xa k pr s with | some s'=> .nx s' | none=> .bad
 | .bk s=>match Xa k pr s with | some s'=> .bk s' | none=> .bad
 | .ct s=>match Xa k pr s with | some s'=> .ct s' | none=> .bad
 | .rt v s=>match Xa k pr s with | some s'=>(if v.isS then .bad else .rt v s') | none=> .bad
 | .ex x s=>match Xa k pr s with | some s'=> .ex x s' | none=> .bad
 | .bad=> .bad
def apK(fi:FI)(g:FG)(body:Gq):Gq:=fun fs=>(fi fs).thn fun r fs1=>match r.2 with
 | none=>yj g body r.1 fs1
 | some (k,o)=>match fs1[k]? with
  | some (some (.l _))=>yj g body r.1 fs1
  | some (some (.m pr _))=>JZ k pr (yj g body r.1 (fs1.set k (some (.l o))))
  | _=> .bad
section
variable {B:Om}{fs fs':FS}{δ δ':vY}{η η':Eta}{k:Nat}{pr:Bool}{o:M}{p:Addr}
def ago(B:Om)(k:Nat)(p:Addr)(o:M):Om:=⟨Ka B.b p o,B.ps,fun i=>if i=k then some p else B.lk i⟩
theorem St.lock(s:St B fs δ η)(e:fs[k]? =some (some (.m pr o)))(q:δ[k]? =some (some (.ref p))):St (ago B k p o) (fs.set k (some (.l o))) δ η:=by
 obtain ⟨p',q1,q2,q3,q4,q5,q6⟩:=s.m k pr o e
 rw [q] at q1;cases q1
 have lt:k < fs.length:=(List.getElem?_eq_some_iff.mp e).1
 refine ⟨by rw [List.length_set];exact s.len,fun j y e=> ?_,fun j pr2 o2 e2=> ?_,fun j o2 e2=> ?_,fun j a e2=> ?_,fun j m pr1 pr2 o1 o2 a e1 e2 h1 h2=> ?_,fun a o2 e2=> ?_,s.pn⟩
 ·rcases get_set e with ⟨-,e,-⟩ | ⟨ne,e⟩
  ·cases e
  ·exact s.d j y e
 ·rcases get_set e2 with ⟨-,e2,-⟩ | ⟨ne,e2⟩
  ·cases e2
  ·obtain ⟨a,a1,a2,a3,a4⟩:=s.m j pr2 o2 e2
   have na:a≠p:=by rintro rfl;exact ne (s.inj k j _ _ _ _ _ e e2 q a1)
   exact ⟨a,a1,a2,by show Ka B.b p o a=none;rw [iT na];exact a3,a4⟩
 ·rcases get_set e2 with ⟨rfl,e2,-⟩ | ⟨ne,e2⟩
  ·cases e2;exact ⟨p,q,by show Ka B.b p o p=some o;exact jN,q4,by show (if k=k then some p else B.lk k)=some p;rw [if_pos rfl]⟩
  ·obtain ⟨a,a1,a2,a3,a4⟩:=s.l j o2 e2
   have na:a≠p:=by rintro rfl;rw [q3] at a2;cases a2
   exact ⟨a,a1,by show Ka B.b p o a=some o2;rw [iT na];exact a2,a3,by show (if j=k then some p else B.lk j)=some a;rw [if_neg (Ne.symm ne)];exact a4⟩
 ·have e2:(if j=k then some p else B.lk j)=some a:=e2
  by_cases jk:j=k
  ·subst jk
   rw [if_pos rfl] at e2;cases e2
   exact ⟨⟨o,by rw [List.getElem?_set_self lt]⟩,by show Ka B.b p o p≠none;rw [jN];simp⟩
  ·rw [if_neg jk] at e2
   obtain ⟨⟨o3,a1⟩,a2⟩:=s.lk j a e2
   have na:a≠p:=by rintro rfl;exact a2 q3
   exact ⟨⟨o3,by rw [List.getElem?_set_ne (Ne.symm jk)];exact a1⟩,by show Ka B.b p o a≠none;rw [iT na];exact a2⟩
 ·rcases get_set e1 with ⟨-,e1,-⟩ | ⟨-,e1⟩
  ·cases e1
  ·rcases get_set e2 with ⟨-,e2,-⟩ | ⟨-,e2⟩
   ·cases e2
   ·exact s.inj j m _ _ _ _ a e1 e2 h1 h2
 ·have e2:Ka B.b p o a=some o2:=e2
  by_cases na:a=p
  ·subst na;rw [jN] at e2;cases e2;exact q2
  ·rw [iT na] at e2;exact s.fr a o2 e2
theorem St.unlock{fs0:FS}{δ0:vY}{η0:Eta}(s:St B fs0 δ0 η0)(e:fs0[k]? =some (some (.m pr o)))(q:δ0[k]? =some (some (.ref p)))(s':St (ago B k p o) fs δ η)(h:Xa k pr fs=some fs'):St B fs' δ η:=by
 obtain ⟨p',q1,q2,q3,q4,q5,q6⟩:=s.m k pr o e
 rw [q] at q1;cases q1
 unfold Xa at h
 split at h
 ·rename_i o' e'
  cases h
  have lt:k < fs.length:=(List.getElem?_eq_some_iff.mp e').1
  obtain ⟨a,a1,a2,a3,a4⟩:=s'.l k o' e'
  have a4:(if k=k then some p else B.lk k)=some a:=a4
  rw [if_pos rfl] at a4;cases a4
  have a2':Ka B.b p o p=some o':=a2
  rw [jN] at a2';cases a2'
  have hk:=s'.fr p o a2
  have low:∀ {b:Addr},(ago B k p o).b b=none→b≠p∧B.b b=none:=fun {b} z=>by
   have z:Ka B.b p o b=none:=z
   by_cases e:b=p
   ·subst e;rw [jN] at z;cases z
   ·rw [iT e] at z;exact ⟨e,z⟩
  refine ⟨by rw [List.length_set];exact s'.len,fun j y e=> ?_,fun j pr2 o2 e2=> ?_,fun j o2 e2=> ?_,fun j b e2=> ?_,fun j m pr1 pr2 o1 o2 b e1 e2 h1 h2=> ?_,fun b o2 e2=> ?_,s'.pn⟩
  ·rcases get_set e with ⟨-,e,-⟩ | ⟨ne,e⟩
   ·cases e
   ·exact s'.d j y e
  ·rcases get_set e2 with ⟨rfl,e2,-⟩ | ⟨ne,e2⟩
   ·cases e2;exact ⟨p,a1,hk,q3,q4,q5,q6⟩
   ·obtain ⟨b,b1,b2,b3,b4,b5⟩:=s'.m j pr2 o2 e2
    exact ⟨b,b1,b2,(low b3).2,b4,b5⟩
  ·rcases get_set e2 with ⟨-,e2,-⟩ | ⟨ne,e2⟩
   ·cases e2
   ·obtain ⟨b,b1,b2,b3,b4⟩:=s'.l j o2 e2
    have b4:(if j=k then some p else B.lk j)=some b:=b4
    rw [if_neg (Ne.symm ne)] at b4
    have b2:Ka B.b p o b=some o2:=b2
    have nb:b≠p:=by
     intro eb
     exact (s.lk j b b4).2 (by rw [eb];exact q3)
    rw [iT nb] at b2
    exact ⟨b,b1,b2,b3,b4⟩
  ·have jk:j≠k:=by
    rintro rfl
    obtain ⟨⟨o3,z⟩,-⟩:=s.lk j b e2
    rw [e] at z;cases z
   obtain ⟨⟨o3,c1⟩,c2⟩:=s'.lk j b (show (if j=k then some p else B.lk j)=some b by rw [if_neg jk];exact e2)
   exact ⟨⟨o3,by rw [List.getElem?_set_ne (Ne.symm jk)];exact c1⟩,(s.lk j b e2).2⟩
  ·rcases get_set e1 with ⟨rfl,e1,-⟩ | ⟨ne1,e1⟩
   ·rcases get_set e2 with ⟨rfl,e2,-⟩ | ⟨ne2,e2⟩
    ·rfl
    ·rw [a1] at h1;cases h1
     obtain ⟨b,b1,b2,b3,b4⟩:=s'.m m _ _ e2
     rw [h2] at b1;cases b1
     exact absurd rfl (low b3).1
   ·rcases get_set e2 with ⟨rfl,e2,-⟩ | ⟨ne2,e2⟩
    ·rw [a1] at h2;cases h2
     obtain ⟨b,b1,b2,b3,b4⟩:=s'.m j _ _ e1
     rw [h1] at b1;cases b1
     exact absurd rfl (low b3).1
    ·exact s'.inj j m _ _ _ _ b e1 e2 h1 h2
  ·have nb:b≠p:=by rintro rfl;rw [q3] at e2;cases e2
   exact s'.fr b o2 (show Ka B.b p o b=some o2 by rw [iT nb];exact e2)
 ·cases h
end
theorem alk{vs:List Nat}{di:DI}{fi:FI}{dg:DG}{g:FG}{db:DS}{body:Gq}(hi:aqu di fi)(hg:ajd vs dg g)(hb:aaH db body):aaH (aDC di dg db) (apK fi g body):=fun B fs δ η Z P s h=>by
 have h:z8 B ((fi fs).thn fun r fs1=>match r.2 with
  | none=>yj g body r.1 fs1
  | some (k,o)=>match fs1[k]? with
   | some (some (.l _))=>yj g body r.1 fs1
   | some (some (.m pr _))=>JZ k pr (yj g body r.1 (fs1.set k (some (.l o))))
   | _=> .bad) Z P:=h
 refine hi B fs δ η Z _ s ?_
 cases e:fi fs with
 | bad=>rw [e] at h;exact h
 | ex x fs1=>rw [e] at h;exact fun η' s' n=>h δ η' s' n
 | ok r fs1=>
  rw [e] at h
  obtain ⟨ds,gd⟩:=r
  cases gd with
  | none=>exact fun n η1 s1=>YW hg hb (fun _ _ _ _=>True.intro) ds fs1 δ η1 n s1 h
  | some ko=>
   obtain ⟨k,o⟩:=ko
   intro n η1 p s1 q1 q2 q3
   have h:z8 B (match fs1[k]? with
    | some (some (.l _))=>yj g body ds fs1
    | some (some (.m pr _))=>JZ k pr (yj g body ds (fs1.set k (some (.l o))))
    | _=> .bad) Z P:=h
   rcases G7 q3 with ⟨pr,e2⟩ | e2
   ·rw [e2] at h
    have sl:=s1.lock e2 q1
    refine YW hg hb (B:=ago B k p o) (fun fs2 δ2 η2 s2=>s2.fr p o (show Ka B.b p o p=some o from jN)) ds _ δ η1 n sl ?_
    have h:z8 B (JZ k pr (yj g body ds (fs1.set k (some (.l o))))) Z P:=h
    cases e3:yj g body ds (fs1.set k (some (.l o))) with
    | nx fs2=>
     rw [e3] at h
     intro δ2 η2 s2
     cases e4:Xa k pr fs2 with
     | none=>simp [JZ,e4,z8] at h
     | some fs3=>simp [JZ,e4,z8] at h;exact h δ2 η2 (s1.unlock e2 q1 s2 e4)
    | bk fs2=>
     rw [e3] at h
     intro δ2 η2 s2
     cases e4:Xa k pr fs2 with
     | none=>simp [JZ,e4,z8] at h
     | some fs3=>simp [JZ,e4,z8] at h;exact h δ2 η2 (s1.unlock e2 q1 s2 e4)
    | ct fs2=>
     rw [e3] at h
     intro δ2 η2 s2
     cases e4:Xa k pr fs2 with
     | none=>simp [JZ,e4,z8] at h
     | some fs3=>simp [JZ,e4,z8] at h;exact h δ2 η2 (s1.unlock e2 q1 s2 e4)
    | ex x fs2=>
     rw [e3] at h
     intro δ2 η2 s2 nx
     cases e4:Xa k pr fs2 with
     | none=>simp [JZ,e4,z8] at h
     | some fs3=>simp [JZ,e4,z8] at h;exact h δ2 η2 (s1.unlock e2 q1 s2 e4) nx
    | rt v fs2=>
     rw [e3] at h
     intro d2 δ2 η2 s2 r2
     cases e4:Xa k pr fs2 with
     | none=>simp [JZ,e4,z8] at h
     | some fs3=>
      cases v with
      | s j=>simp [JZ,e4,FV.isS,z8] at h
      | d x=>simp [JZ,e4,FV.isS,z8] at h;exact h d2 δ2 η2 (s1.unlock e2 q1 s2 e4) r2
      | f o2=>
       simp [JZ,e4,FV.isS,z8] at h
       refine h d2 δ2 η2 (s1.unlock e2 q1 s2 e4) ?_
       obtain ⟨p2,rfl,z1,z2,z3⟩:=r2
       have np:p2≠p:=by rintro rfl;have:=z3.b;simp only [ago,jN] at this;cases this
       refine ⟨p2,rfl,z1,z2,?_,fun i pr' o' ei qi=> ?_,z3.ps,fun j ej=> ?_⟩
       ·have:=z3.b;simp only [ago] at this;rw [iT np] at this;exact this
       ·unfold Xa at e4
        split at e4
        ·rename_i o4 e5
         cases e4
         rcases get_set ei with ⟨rfl,-,-⟩ | ⟨ne,ei⟩
         ·obtain ⟨a,a1,a2,a3,a4⟩:=s2.l k o4 e5
          have a4:(if k=k then some p else B.lk k)=some a:=a4
          rw [if_pos rfl] at a4;cases a4
          rw [qi] at a1;cases a1;exact np rfl
         ·exact z3.sl i pr' o' ei qi
        ·cases e4
       ·obtain ⟨⟨o5,z⟩,-⟩:=s1.lk j p2 ej
        have jk:j≠k:=by rintro rfl;rw [e2] at z;cases z
        exact z3.lk j (show (if j=k then some p else B.lk j)=some p2 by rw [if_neg jk];exact ej)
    | bad=>rw [e3] at h;exact h
   ·rw [e2] at h
    have h:z8 B (yj g body ds fs1) Z P:=h
    obtain ⟨a,a1,a2,a3,a4⟩:=s1.l k o e2
    rw [q1] at a1;cases a1
    exact YW hg hb (fun fs2 δ2 η2 s2=>s2.fr p o a2) ds fs1 δ η1 n s1 h
end DL
end
section
namespace DL
open PySem PySem.Spec PyProof.Rows L2
/-- over a list,a tuple,a text,an own list -/
def azH(K:PySem.W.Frag)(tl:TE):TI:=fun σ H R=>tl σ H fun x H1=>(∃a,x= .ref a∧(∃xs,SqL K H1 a xs)∧R (Itl K a) H1)∨(∃a,x= .ref a∧(∃xs,SqT K H1 a xs)∧R (Itt K a) H1)∨∃z,x= .str z∧R (Its z) H1
theorem ays{X:Cx}{tg l:Expr}{tl:TE}(hl:PE X l tl):PI X tg l (azH X.K tl):=⟨fun pins s σ H R I h=>by
 refine thn (hl.run pins s σ H _ I h) fun v s1 w=> ?_
 obtain ⟨x,H1,I1,r1,q1⟩:=w
 have end_:∀ {b},b ∈ [s1.heap.objs.size]→b=s1.heap.objs.size:=fun {b} hb=>by simpa using hb
 rcases q1 with ⟨a,rfl,⟨xs,hq⟩,q⟩ | ⟨a,rfl,⟨xs,hq⟩,q⟩ | ⟨z,rfl,q⟩
 ·cases r1;obtain ⟨its,rv,p,hz⟩:=I1.list hq
  refine wpAny_pyIter_list p.isList ⟨s1.heap.objs.size,[s1.heap.objs.size],_,_,H1,rfl,I1.kept (t':=s1.toks) (fun b o e=>Heap.get?_push_of_some _ e),turn_list a _,⟨_,Heap.get?_push_size _ rfl,rfl,rfl⟩,fun b hb=> ?_,q⟩
  cases end_ hb;exact I1.fpOk (Nat.le_refl _) (I1.hok.fresh (Nat.le_refl _))
 ·cases r1;obtain ⟨its,rv,p,hz⟩:=I1.tuple hq
  refine wpAny_pyIter_tuple (show s1.heap.IsTuple a its.toArray from p) ⟨s1.heap.objs.size,[s1.heap.objs.size],_,_,H1,rfl,I1.kept (t':=s1.toks) (fun b o e=>Heap.get?_push_of_some _ e),turn_tuple a _,⟨_,Heap.get?_push_size _ rfl,rfl,rfl⟩,fun b hb=> ?_,q⟩
  cases end_ hb;exact I1.fpOk (Nat.le_refl _) (I1.hok.fresh (Nat.le_refl _))
 ·obtain ⟨t,rfl⟩:=r1
  cases ha:z.cps.all (· < 128)
  ·exact wpAny_pyIter_wide ha (pi_one (tk:=s1.toks) I1 _ (turn_str _ z t "str_iterator" (.inr rfl)) ⟨_,Heap.get?_push_size _ rfl,rfl,rfl⟩ q)
  ·exact wpAny_pyIter_ascii ha (pi_one (tk:=s1.toks) I1 _ (turn_str _ z t "str_ascii_iterator" (.inl rfl)) ⟨_,Heap.get?_push_size _ rfl,rfl,rfl⟩ q)⟩
def signs(x:Str):List D:=x.cps.toList.map fun c=>D.str ⟨#[c]⟩
def dIA(de:DE):DI:=fun Z δ η Ψ=>de Z δ η fun d η1=>match d with
 | .lst ds=>Ψ ds (fun _=>True) η1
 | .tup ds=>Ψ ds (fun _=>True) η1
 | .str x=>Ψ (signs x) (fun _=>True) η1
 | .ref p=> ∃ds,η1 p=some (.lst ds)∧Ψ ds (fun η=>η p=some (.lst ds)) η1
 | _=>False
theorem ayx{K:PySem.W.Frag}{R:Addr→Prop}{η:Eta}{H:Hp}{a:Addr}{ds:List D}(r:Rep K R η H (.ref a) (.lst ds)):aoR K R η H (Itl K a) ds (fun _=>True):=fun η' H' l' x' _=>by
 obtain ⟨a',xs',e',hq',rs'⟩:=(r.up x').sqL
 cases e'
 refine ⟨⟨xs',hq',by rw [rs'.length];exact Nat.le_refl _⟩,fun i d hd=> ?_⟩
 obtain ⟨w,hw,rw_⟩:=rs'.get hd
 refine ⟨⟨xs',w,hq',hw⟩,fun y H2 yl=> ?_⟩
 obtain ⟨rfl,yl⟩:=yl
 have:=yl xs' hq'
 rw [hw] at this;cases this
 exact ⟨l',fun _ _ h=>h,rw_⟩
theorem aAm{K:PySem.W.Frag}{R:Addr→Prop}{η:Eta}{H:Hp}{a:Addr}{ds:List D}(r:Rep K R η H (.ref a) (.tup ds)):aoR K R η H (Itt K a) ds (fun _=>True):=fun η' H' l' x' _=>by
 obtain ⟨a',xs',e',hq',rs'⟩:=(r.up x').sqT
 cases e'
 refine ⟨⟨xs',hq',by rw [rs'.length];exact Nat.le_refl _⟩,fun i d hd=> ?_⟩
 obtain ⟨w,hw,rw_⟩:=rs'.get hd
 refine ⟨⟨xs',w,hq',hw⟩,fun y H2 yl=> ?_⟩
 obtain ⟨rfl,yl⟩:=yl
 have:=yl xs' hq'
 rw [hw] at this;cases this
 exact ⟨l',fun _ _ h=>h,rw_⟩
theorem azD{K:PySem.W.Frag}{R:Addr→Prop}{η:Eta}{H:Hp}{p:Addr}{ds:List D}:aoR K R η H (Itl K p) ds (fun η=>η p=some (.lst ds)):=fun η' H' l' x' hg=>by
 obtain ⟨xs',hx',rs'⟩:=l'.m p _ hg
 refine ⟨⟨xs',SqL.of hx',by rw [rs'.length];exact Nat.le_refl _⟩,fun i d hd=> ?_⟩
 obtain ⟨w,hw,rw_⟩:=rs'.get hd
 refine ⟨⟨xs',w,SqL.of hx',hw⟩,fun y H2 yl=> ?_⟩
 obtain ⟨rfl,yl⟩:=yl
 have:=yl xs' (SqL.of hx')
 rw [hw] at this;cases this
 exact ⟨l',fun _ _ h=>h,rw_⟩
theorem ayG{K:PySem.W.Frag}{R:Addr→Prop}{η:Eta}{H:Hp}{x:Str}(o:SOk x):aoR K R η H (Its x) (signs x) (fun _=>True):=fun η' H' l' x' _=>by
 refine ⟨by show x.cps.size≤(x.cps.toList.map fun c=>D.str ⟨#[c]⟩).length;simp,fun i d hd=> ?_⟩
 unfold signs at hd
 rw [List.getElem?_map] at hd
 cases e:x.cps.toList[i]? with
 | none=>rw [e] at hd;cases hd
 | some c=>
  rw [e] at hd
  have hi:i < x.cps.size:=by have:=(List.getElem?_eq_some_iff.mp e).1;simpa using this
  refine ⟨hi,fun y H2 yl=> ?_⟩
  obtain ⟨rfl,c',hc,rfl⟩:=yl
  have ec:x.cps[i]? =some c:=by rw [← Array.getElem?_toList];exact e
  rw [ec] at hc
  cases hc
  cases hd
  exact ⟨l',fun _ _ h=>h, .str (anE o (List.mem_of_getElem? e))⟩
theorem atN{X:Cx}{E:XK}{tg e:Expr}{te:TE}{de:DE}(h:PD X E e te de):PDI X E tg e (azH X.K te) (dIA de):=⟨ays h.pe,fun R σ H δ η Z Ψ Q l s hw k kx=>by
 refine h.so R σ H δ η Z _ _ l s hw ⟨fun v d H1 η1 l1 x1 r1 h1=> ?_,kx⟩
 cases d with
 | lst ds=>
  obtain ⟨a,xs,rfl,hq,rs⟩:=r1.sqL
  exact .inl ⟨a,rfl,⟨xs,hq⟩,k _ ds _ H1 η1 l1 x1 (fun R' m1 m2=>ayx (Rep.more m2 _ _ r1)) h1⟩
 | tup ds=>
  obtain ⟨a,xs,rfl,hq,rs⟩:=r1.sqT
  exact .inr (.inl ⟨a,rfl,⟨xs,hq⟩,k _ ds _ H1 η1 l1 x1 (fun R' m1 m2=>aAm (Rep.more m2 _ _ r1)) h1⟩)
 | str x=>
  cases r1 with
  | str o=>exact .inr (.inr ⟨x,rfl,k _ _ _ H1 η1 l1 x1 (fun R' m1 m2=>ayG o) h1⟩)
 | ref p=>
  obtain ⟨ds,hp,h1⟩:=h1
  cases r1
  obtain ⟨xs,h2,h3⟩:=l1.m p _ hp
  exact .inl ⟨p,rfl,⟨xs,SqL.of h2⟩,k _ ds _ H1 η1 l1 x1 (fun R' m1 m2=>azD) h1⟩
 | _=>exact h1.elim⟩
theorem anC{X:Cx}{K:PySem.W.Frag}(hK:X.K=K){E:XK}{tg e:Expr}{te:TE}{de:DE}(h:PD X E e te de):PDI X E tg e (azH K te) (dIA de):=by subst hK;exact atN h
def fIA(fe:FE):FI:=fun fs=>(fe fs).bind fun v fs1=>match v with
 | .d (.lst xs)=> .ok (xs,none) fs1
 | .d (.tup xs)=> .ok (xs,none) fs1
 | .d (.str x)=> .ok (signs x,none) fs1
 | .s k=>match yt fs1 k with
  | some (.lst xs)=> .ok (xs,some (k, .lst xs)) fs1
  | _=> .bad
 | _=> .bad
theorem agm.bind{γ ε:Type}{B:Om}{δ:vY}{Z:Xk}{Ψ:List D→(Eta→Prop)→Eta→Prop}{Ψ':ε→Eta→Prop}{Rl:Om→FS→vY→Eta→γ→ε→Prop}{r:Rs γ}{g:γ→FS→Rs (List D × Option (Nat × M))}(h:agm B δ (r.bind g) Z Ψ)(k:∀v fs1 d η1,St B fs1 δ η1→Rl B fs1 δ η1 v d→agm B δ (g v fs1) Z Ψ→Ψ' d η1):Post B δ Rl r Z Ψ':=by
 cases r with
 | ok v fs1=>exact fun d η1 s rl=>k v fs1 d η1 s rl h
 | ex x fs1=>exact h
 | bad=>exact h
theorem aoT(x:Str):JK (signs x)=true:=Vm fun d hd=>by
 obtain ⟨c,-,rfl⟩:=List.mem_map.mp hd;rfl
section
variable {de:DE}{fe:FE}{dr:DA}{fr:FA}
theorem akQ(he:gM VR de fe):aqu (dIA de) (fIA fe):=fun B fs δ η Z Ψ s h=>he B fs δ η Z _ s (agm.bind h fun v fs1 d1 η1 s1 r1 h1=>by
 split at h1
 ·obtain ⟨rfl,n⟩:=r1;exact h1 (by simpa [nr] using n) η1 s1
 ·obtain ⟨rfl,n⟩:=r1;exact h1 (by simpa [nr] using n) η1 s1
 ·obtain ⟨rfl,n⟩:=r1;exact h1 (aoT _) η1 s1
 ·rename_i k
  split at h1
  ·rename_i xs e
   have r1':δ[k]? =some (some d1):=r1
   obtain ⟨q1,q2⟩:=VR.rd (v:= .s k) s1 r1 (show v9 fs1 (.s k)=some (.lst xs) by simp [v9,e,mD])
   have hp:∃p,d1= .ref p∧η1 p=some (.lst xs):=by
    rcases G7 e with ⟨pr,e2⟩ | e2
    ·obtain ⟨p,p1,p2,_⟩:=s1.m k pr _ e2
     rw [r1'] at p1;cases p1;exact ⟨p,rfl,p2⟩
    ·obtain ⟨p,p1,p2,_⟩:=s1.l k _ e2
     rw [r1'] at p1;cases p1;exact ⟨p,rfl,s1.fr p _ p2⟩
   obtain ⟨p,rfl,hp⟩:=hp
   exact ⟨xs,hp,h1 (by simpa [nr] using q2) η1 p s1 r1' hp e⟩
  ·exact h1.elim
 ·exact h1.elim)
def auc(fr:FA):FI:=fun fs=>(fr fs).bind fun vs fs1=>match vs with
 | [.d (.int j)]=>if decide (-4611686018427387904≤j) && decide (j < 4611686018427387904) then .ok (iota 0 j.toNat,none) fs1 else .bad
 | _=> .bad
def aEn(fr:FA):FI:=fun fs=>(fr fs).bind fun vs fs1=>match vs with
 | [.d (.int i), .d (.int j)]=>if decide (-4611686018427387904≤i) && decide (i < 4611686018427387904) && decide (-4611686018427387904≤j) && decide (j < 4611686018427387904) then .ok (iota i (j - i).toNat,none) fs1 else .bad
 | _=> .bad
theorem arQ(lo:Int)(n:Nat):JK (iota lo n)=true:=Vm fun d hd=>by
 obtain ⟨c,-,rfl⟩:=List.mem_map.mp hd;rfl
theorem Vj.single{B:Om}{fs:FS}{δ:vY}{η:Eta}{v:FV}{ds:List D}(r:Vj B fs δ η [v] ds):∃d,ds= [d]∧VR B fs δ η v d:=by
 match ds,r with
 | [d],r=>exact ⟨d,rfl,r.1⟩
theorem Vj.two{B:Om}{fs:FS}{δ:vY}{η:Eta}{x y:D}{ds:List D}(r:Vj B fs δ η [.d x, .d y] ds):ds= [x,y]∧nr x=true∧nr y=true:=by
 match ds,r with
 | [d,e],r=>
  obtain ⟨⟨h1,n1⟩,⟨h2,n2⟩,-⟩:=r
  subst h1 h2
  exact ⟨rfl,n1,n2⟩
theorem ae3(hr:gM Vj dr fr):aqu (aCe dr) (auc fr):=fun B fs δ η Z Ψ s h=>hr B fs δ η Z _ s (agm.bind h fun v fs1 d1 η1 s1 r1 h1=>by
 split at h1
 ·rename_i j
  obtain ⟨d,rfl,rfl,-⟩:=r1.single
  split at h1
  ·rename_i c
   rw [Bool.and_eq_true,decide_eq_true_eq,decide_eq_true_eq] at c
   exact ⟨j,rfl,c.1,c.2,h1 (arQ _ _) η1 s1⟩
  ·exact h1.elim
 ·exact h1.elim)
def fIZ(fr:FA):FI:=fun fs=>(fr fs).bind fun vs fs1=>match vs with
 | [.d (.lst xs), .d (.lst ys)]=> .ok (pairs xs ys,none) fs1
 | [.d (.tup xs), .d (.tup ys)]=> .ok (pairs xs ys,none) fs1
 | [.s k, .d (.lst ys)]=>match yt fs1 k with
  | some (.lst xs)=> .ok (pairs xs ys,some (k, .lst xs)) fs1
  | _=> .bad
 | _=> .bad
theorem aaq:∀ {xs ys:List D},JK xs=true→JK ys=true→JK (pairs xs ys)=true
 | [],_,_,_=>by simp [pairs,JK]
 | _::_,[],_,_=>by simp [pairs,JK]
 | x::xs,y::ys,h1,h2=>by
  rw [JK,Bool.and_eq_true] at h1 h2
  exact Y7 (by simp [nr,JK,h1.1,h2.1]) (aaq h1.2 h2.2)
theorem apB(hr:gM Vj dr fr):aqu (dIZ dr) (fIZ fr):=fun B fs δ η Z Ψ s h=>hr B fs δ η Z _ s (agm.bind h fun v fs1 d1 η1 s1 r1 h1=>by
 split at h1
 ·obtain ⟨rfl,n1,n2⟩:=r1.two
  exact h1 (aaq (by simpa [nr] using n1) (by simpa [nr] using n2)) η1 s1
 ·obtain ⟨rfl,n1,n2⟩:=r1.two
  exact h1 (aaq (by simpa [nr] using n1) (by simpa [nr] using n2)) η1 s1
 ·rename_i k ys
  split at h1
  ·rename_i xs e
   match d1,r1 with
   | [da,db],r1=>
    obtain ⟨r1,⟨hb,n2⟩,-⟩:=r1
    subst hb
    have r1':δ[k]? =some (some da):=r1
    obtain ⟨q1,q2⟩:=VR.rd (v:= .s k) s1 r1 (show v9 fs1 (.s k)=some (.lst xs) by simp [v9,e,mD])
    have hp:∃p,da= .ref p∧η1 p=some (.lst xs):=by
     rcases G7 e with ⟨pr,e2⟩ | e2
     ·obtain ⟨p,p1,p2,_⟩:=s1.m k pr _ e2
      rw [r1'] at p1;cases p1;exact ⟨p,rfl,p2⟩
     ·obtain ⟨p,p1,p2,_⟩:=s1.l k _ e2
      rw [r1'] at p1;cases p1;exact ⟨p,rfl,s1.fr p _ p2⟩
    obtain ⟨p,rfl,hp⟩:=hp
    exact ⟨xs,hp,h1 (aaq (by simpa [nr] using q2) (by simpa [nr] using n2)) η1 p s1 r1' hp e⟩
  ·exact h1.elim
 ·exact h1.elim)
def fIE(fr:FA):FI:=fun fs=>(fr fs).bind fun vs fs1=>match vs with
 | [.d (.lst xs)]=> .ok (anJ 0 xs,none) fs1
 | _=> .bad
end
def Wy(fs:FS):List Nat→FS
 | []=>fs
 | v::vs=>(Wy fs vs).set v none
def aw4:Option (Option Sv)→Option Sv
 | some (some (.d x))=>some (.d x)
 | _=>none
def Gx(fs0 fs:FS):List Nat→FS
 | []=>fs
 | v::vs=>(Gx fs0 fs vs).set v (aw4 fs0[v]?)
def Rs.noEx{α β:Type}(r:Rs α)(g:α→FS→Rs β):Rs β:=match r with
 | .ok a s=>g a s
 | _=> .bad
def aaG(g:FG)(ft:FT)(fe:FE)(vs:List Nat):List D→List D→FS→Rs (List D)
 | [],acc=>fun fs=> .ok acc fs
 | x::xs,acc=>fun fs=>match g (.d x) (Wy fs vs) with
  | none=> .bad
  | some fs1=>(ft fs1).noEx fun b fs2=>if b=true then (fe fs2).noEx fun v fs3=>match v with
    | .d y=>if acc.length < most then aaG g ft fe vs xs (acc ++ [y]) fs3 else .bad
    | _=> .bad
   else aaG g ft fe vs xs acc fs2
def fLc(fi:FI)(g:FG)(ft:FT)(fe:FE)(vs:List Nat):FE:=fun fs=>if vs.any (isL fs) then .bad else (fi fs).bind fun r fs1=>match r.2 with
 | none=>(aaG g ft fe vs r.1 [] fs1).noEx fun a fs2=> .ok (.d (.lst a)) (Gx fs fs2 vs)
 | some (k,o)=>if vs.contains k then .bad else match fs1[k]? with
  | some (some (.l _))=>(aaG g ft fe vs r.1 [] fs1).noEx fun a fs2=> .ok (.d (.lst a)) (Gx fs fs2 vs)
  | some (some (.m pr _))=>(aaG g ft fe vs r.1 [] (fs1.set k (some (.l o)))).noEx fun a fs2=>match Xa k pr fs2 with
   | some fs3=> .ok (.d (.lst a)) (Gx fs fs3 vs)
   | none=> .bad
  | _=> .bad
section
variable {B:Om}{fs fs0 fs':FS}{δ δ0 δ1:vY}{η η0 η1:Eta}{vs:List Nat}
theorem aoK:(Wy fs vs).length=fs.length:=by
 induction vs with
 | nil=>rfl
 | cons v vs ih=>unfold Wy;rw [List.length_set,ih]
theorem aik:(Gy δ vs).length=δ.length:=by
 induction vs with
 | nil=>rfl
 | cons v vs ih=>unfold Gy;rw [List.length_set,ih]
theorem aoJ:(Gx fs0 fs vs).length=fs.length:=by
 induction vs with
 | nil=>rfl
 | cons v vs ih=>unfold Gx;rw [List.length_set,ih]
theorem aiy{i:Nat}(h:i ∉ vs):(Wy fs vs)[i]? =fs[i]? :=by
 induction vs with
 | nil=>rfl
 | cons v vs ih=>
  unfold Wy
  rw [List.getElem?_set_ne (by rintro rfl;exact h List.mem_cons_self)]
  exact ih fun z=>h (List.mem_cons_of_mem _ z)
theorem Qm{i:Nat}(h:i ∉ vs):(Gy δ vs)[i]? =δ[i]? :=by
 induction vs with
 | nil=>rfl
 | cons v vs ih=>
  unfold Gy
  rw [List.getElem?_set_ne (by rintro rfl;exact h List.mem_cons_self)]
  exact ih fun z=>h (List.mem_cons_of_mem _ z)
theorem aip{i:Nat}(h:i ∉ vs):(Gx fs0 fs vs)[i]? =fs[i]? :=by
 induction vs with
 | nil=>rfl
 | cons v vs ih=>
  unfold Gx
  rw [List.getElem?_set_ne (by rintro rfl;exact h List.mem_cons_self)]
  exact ih fun z=>h (List.mem_cons_of_mem _ z)
theorem asZ{i:Nat}{sv:Sv}(h:i ∈ vs):(Wy fs vs)[i]? ≠some (some sv):=by
 induction vs with
 | nil=>cases h
 | cons v vs ih=>
  unfold Wy
  intro e
  rcases get_set e with ⟨-,e,-⟩ | ⟨ne,e⟩
  ·cases e
  ·rcases List.mem_cons.mp h with rfl | h
   ·exact ne rfl
   ·exact ih h e
theorem asu{i:Nat}{sv:Sv}(h:i ∈ vs)(e:(Gx fs0 fs vs)[i]? =some (some sv)):∃x,sv= .d x∧fs0[i]? =some (some (.d x)):=by
 induction vs with
 | nil=>cases h
 | cons v vs ih=>
  unfold Gx at e
  rcases get_set e with ⟨rfl,e,-⟩ | ⟨ne,e⟩
  ·unfold aw4 at e
   split at e
   ·rename_i x q;cases e;exact ⟨x,rfl,q⟩
   ·cases e
  ·rcases List.mem_cons.mp h with rfl | h
   ·exact absurd rfl ne
   ·exact ih h e
theorem St.wipe_(s:St B fs δ1 η)(ag:∀i,i ∉ vs→δ1[i]? =δ[i]?)(hl:δ1.length=δ.length)(nl:∀i ∈ vs,B.lk i=none):St B (Wy fs vs) (Gy δ vs) η:=by
 have out:∀ {i:Nat} {sv:Sv},(Wy fs vs)[i]? =some (some sv)→i ∉ vs∧fs[i]? =some (some sv):=fun {i sv} e=>by
  by_cases h:i ∈ vs
  ·exact absurd e (asZ h)
  ·exact ⟨h,by rw [aiy h] at e;exact e⟩
 refine ⟨by rw [aoK,aik,s.len,hl],fun i x e=> ?_,fun i pr o e=> ?_,fun i o e=> ?_,fun i p e=> ?_,fun i j pr pr' o o' p e1 e2 h1 h2=> ?_,s.fr,s.pn⟩
 ·obtain ⟨h,e⟩:=out e;rw [Qm h,← ag i h];exact s.d i x e
 ·obtain ⟨h,e⟩:=out e;rw [Qm h,← ag i h];exact s.m i pr o e
 ·obtain ⟨h,e⟩:=out e;rw [Qm h,← ag i h];exact s.l i o e
 ·have h:i ∉ vs:=fun z=>by rw [nl i z] at e;cases e
  obtain ⟨⟨o,q1⟩,q2⟩:=s.lk i p e
  exact ⟨⟨o,by rw [aiy h];exact q1⟩,q2⟩
 ·obtain ⟨n1,e1⟩:=out e1
  obtain ⟨n2,e2⟩:=out e2
  rw [Qm n1,← ag i n1] at h1
  rw [Qm n2,← ag j n2] at h2
  exact s.inj i j pr pr' o o' p e1 e2 h1 h2
theorem St.rest_(s0:St B fs0 δ η0)(s:St B fs δ1 η)(ag:∀i,i ∉ vs→δ1[i]? =δ[i]?)(hl:δ1.length=δ.length)(nl:∀i ∈ vs,B.lk i=none):St B (Gx fs0 fs vs) δ η:=by
 have out:∀ {i:Nat} {sv:Sv},(Gx fs0 fs vs)[i]? =some (some sv)→(i ∉ vs∧fs[i]? =some (some sv))∨∃x,sv= .d x∧fs0[i]? =some (some (.d x)):=fun {i sv} e=>by
  by_cases h:i ∈ vs
  ·exact .inr (asu h e)
  ·exact .inl ⟨h,by rw [aip h] at e;exact e⟩
 refine ⟨by rw [aoJ,s.len,hl],fun i x e=> ?_,fun i pr o e=> ?_,fun i o e=> ?_,fun i p e=> ?_,fun i j pr pr' o o' p e1 e2 h1 h2=> ?_,s.fr,s.pn⟩
 ·rcases out e with ⟨h,e⟩ | ⟨y,e1,e2⟩
  ·rw [← ag i h];exact s.d i x e
  ·cases e1;exact s0.d i _ e2
 ·rcases out e with ⟨h,e⟩ | ⟨y,e1,e2⟩
  ·rw [← ag i h];exact s.m i pr o e
  ·cases e1
 ·rcases out e with ⟨h,e⟩ | ⟨y,e1,e2⟩
  ·rw [← ag i h];exact s.l i o e
  ·cases e1
 ·have h:i ∉ vs:=fun z=>by rw [nl i z] at e;cases e
  obtain ⟨⟨o,q1⟩,q2⟩:=s.lk i p e
  exact ⟨⟨o,by rw [aip h];exact q1⟩,q2⟩
 ·rcases out e1 with ⟨n1,e1⟩ | ⟨y,e1,-⟩
  ·rcases out e2 with ⟨n2,e2⟩ | ⟨y,e2,-⟩
   ·rw [← ag i n1] at h1
    rw [← ag j n2] at h2
    exact s.inj i j pr pr' o o' p e1 e2 h1 h2
   ·cases e2
  ·cases e1
def aix(B:Om)(δ:vY)(vs:List Nat)(r:Rs (List D))(Φ:DK):Prop:=match r with
 | .ok a fs'=> ∀δ' η',St B fs' δ' η'→(∀i,i ∉ vs→δ'[i]? =δ[i]?)→δ'.length=δ.length→JK a=true→Φ (.lst a) η'
 | _=>False
theorem acC{ws:List Nat}{dg:DG}{g:FG}{dt:DT}{ft:FT}{de:DE}{fe:FE}(hg:ajd ws dg g)(ht:gM VEq dt ft)(he:gM VR de fe)(hw:∀i ∈ ws,i ∈ vs){G:Eta→Prop}(hG:∀fs δ η,St B fs δ η→G η)(nl:∀i ∈ vs,B.lk i=none){Z:Xk}{Φ:DK}:
  ∀(xs acc:List D) (fs:FS) (δ1:vY) (η:Eta),JK xs=true→JK acc=true→St B fs δ1 η→(∀i,i ∉ vs→δ1[i]? =δ[i]?)→δ1.length=δ.length→aix B δ vs (aaG g ft fe vs xs acc fs) Φ→amf dg dt de (Gy δ vs) Z G Φ xs acc η
 | [],acc,fs,δ1,η,n,na,s,ag,hl,h=>⟨hG fs δ1 η s,h δ1 η s ag hl na⟩
 | x::xs,acc,fs,δ1,η,n,na,s,ag,hl,h=>by
  have n1:nr x=true:=vZ n List.mem_cons_self
  have n2:JK xs=true:=Vm fun y hy=>vZ n (List.mem_cons_of_mem _ hy)
  have sw:=s.wipe_ ag hl nl
  refine ⟨hG fs δ1 η s,hg B (Wy fs vs) (Gy δ vs) η (.d x) x _ sw ⟨rfl,n1⟩ ?_⟩
  have h:aix B δ vs (match g (.d x) (Wy fs vs) with
   | none=> .bad
   | some fs1=>(ft fs1).noEx fun b fs2=>if b=true then (fe fs2).noEx fun v fs3=>match v with
     | .d y=>if acc.length < most then aaG g ft fe vs xs (acc ++ [y]) fs3 else .bad
     | _=> .bad
    else aaG g ft fe vs xs acc fs2) Φ:=h
  cases e:g (.d x) (Wy fs vs) with
  | none=>rw [e] at h;exact h
  | some fs1=>
   rw [e] at h
   intro δ2 η2 s2 ag2
   have ag3:∀i,i ∉ vs→δ2[i]? =δ[i]? :=fun i hi=>by rw [ag2.2 i (fun z=>hi (hw i z)),Qm hi]
   have hl3:δ2.length=δ.length:=by rw [ag2.1,aik]
   refine ht B fs1 δ2 η2 Z0 _ s2 ?_
   have h:aix B δ vs ((ft fs1).noEx fun b fs2=>if b=true then (fe fs2).noEx fun v fs3=>match v with
     | .d y=>if acc.length < most then aaG g ft fe vs xs (acc ++ [y]) fs3 else .bad
     | _=> .bad
    else aaG g ft fe vs xs acc fs2) Φ:=h
   cases e2:ft fs1 with
   | bad=>rw [e2] at h;exact h.elim
   | ex _ _=>rw [e2] at h;exact h.elim
   | ok b fs2=>
    rw [e2] at h
    intro b' η3 s3 eb
    obtain rfl:b=b':=eb
    cases b with
    | false=>exact acC hg ht he hw hG nl xs acc fs2 δ2 η3 n2 na s3 ag3 hl3 h
    | true=>
     show de Z0 δ2 η3 _
     refine he B fs2 δ2 η3 Z0 _ s3 ?_
     have h:aix B δ vs ((fe fs2).noEx fun v fs3=>match v with
      | .d y=>if acc.length < most then aaG g ft fe vs xs (acc ++ [y]) fs3 else .bad
      | _=> .bad) Φ:=h
     cases e3:fe fs2 with
     | bad=>rw [e3] at h;exact h.elim
     | ex _ _=>rw [e3] at h;exact h.elim
     | ok v fs3=>
      rw [e3] at h
      intro y η4 s4 r4
      cases v with
      | s _=>exact h.elim
      | f _=>exact h.elim
      | d y'=>
       obtain ⟨rfl,ny⟩:=r4
       have h:aix B δ vs (if acc.length < most then aaG g ft fe vs xs (acc ++ [y]) fs3 else .bad) Φ:=h
       split at h
       ·rename_i lt
        refine ⟨by rw [sizeLine_eq];exact Nat.lt_of_lt_of_le lt (by decide),?_⟩
        exact acC hg ht he hw hG nl xs (acc ++ [y]) fs3 δ2 η4 n2 (acB na (Y7 ny rfl)) s4 ag3 hl3 h
       ·exact h.elim
theorem aqt{B:Om}{fs0:FS}{δ:vY}{η0:Eta}{vs:List Nat}{Z:Xk}{Φ:DK}{r:Rs (List D)}(s0:St B fs0 δ η0)(nl:∀i ∈ vs,B.lk i=none)(h:Post B δ VR (r.noEx fun a fs2=> .ok (.d (.lst a)) (Gx fs0 fs2 vs)) Z Φ):aix B δ vs r Φ:=by
 cases r with
 | bad=>exact h
 | ex _ _=>exact h
 | ok a fs2=>exact fun δ' η' s' ag hl n=>h _ η' (s0.rest_ s' ag hl nl) ⟨rfl,by simpa [nr] using n⟩
theorem amm{ws:List Nat}{di:DI}{fi:FI}{dg:DG}{g:FG}{dt:DT}{ft:FT}{de:DE}{fe:FE}(hi:aqu di fi)(hg:ajd ws dg g)(ht:gM VEq dt ft)(he:gM VR de fe)(hw:∀i ∈ ws,i ∈ vs:=by decide):gM VR (dLc di dg dt de vs) (fLc fi g ft fe vs):=fun B fs δ η Z Φ s h=>by
 unfold fLc at h
 split at h
 ·exact h.elim
 ·rename_i hl
  have hl:vs.any (isL fs)=false:=by simpa using hl
  have nl:∀i ∈ vs,B.lk i=none:=fun i hi=>by
   cases e:B.lk i with
   | none=>rfl
   | some p=>
    obtain ⟨⟨o,q⟩,-⟩:=s.lk i p e
    have:isL fs i=false:=by
     cases e2:isL fs i with
     | false=>rfl
     | true=>rw [List.any_eq_false] at hl;exact absurd e2 (hl i hi)
    exact absurd q (amq this o)
  refine hi B fs δ η Z _ s ?_
  cases e:fi fs with
  | bad=>rw [e] at h;exact h
  | ex x fs1=>rw [e] at h;exact h
  | ok r fs1=>
   rw [e] at h
   obtain ⟨ds,gd⟩:=r
   cases gd with
   | none=>exact fun n η1 s1=>acC hg ht he hw (fun _ _ _ _=>True.intro) nl ds [] fs1 δ η1 n rfl s1 (fun _ _=>rfl) rfl (aqt s nl h)
   | some ko=>
    obtain ⟨k,o⟩:=ko
    intro n η1 p s1 q1 q2 q3
    have h:Post B δ VR (if vs.contains k then .bad else match fs1[k]? with
     | some (some (.l _))=>(aaG g ft fe vs ds [] fs1).noEx fun a fs2=> .ok (.d (.lst a)) (Gx fs fs2 vs)
     | some (some (.m pr _))=>(aaG g ft fe vs ds [] (fs1.set k (some (.l o)))).noEx fun a fs2=>match Xa k pr fs2 with
      | some fs3=> .ok (.d (.lst a)) (Gx fs fs3 vs)
      | none=> .bad
     | _=> .bad) Z Φ:=h
    split at h
    ·exact h.elim
    ·rename_i hk
     have hk:k ∉ vs:=fun z=>hk (List.contains_iff_mem.mpr z)
     rcases G7 q3 with ⟨pr,e2⟩ | e2
     ·rw [e2] at h
      have h:Post B δ VR ((aaG g ft fe vs ds [] (fs1.set k (some (.l o)))).noEx fun a fs2=>match Xa k pr fs2 with
       | some fs3=> .ok (.d (.lst a)) (Gx fs fs3 vs)
       | none=> .bad) Z Φ:=h
      have sl:=s1.lock e2 q1
      refine acC hg ht he hw (B:=ago B k p o) (fun fs2 δ2 η2 s2=>s2.fr p o (show Ka B.b p o p=some o from jN)) (fun i hi=> ?_) ds [] _ δ η1 n rfl sl (fun _ _=>rfl) rfl ?_
      ·show (if i=k then some p else B.lk i)=none
       rw [if_neg (by rintro rfl;exact hk hi)];exact nl i hi
      ·cases e3:aaG g ft fe vs ds [] (fs1.set k (some (.l o))) with
       | bad=>rw [e3] at h;exact h
       | ex _ _=>rw [e3] at h;exact h
       | ok a fs2=>
        rw [e3] at h
        intro δ' η' s' ag hl' na
        cases e4:Xa k pr fs2 with
        | none=>
         have h:Post B δ VR (match Xa k pr fs2 with
          | some fs3=> .ok (.d (.lst a)) (Gx fs fs3 vs)
          | none=> .bad) Z Φ:=h
         rw [e4] at h;exact h.elim
        | some fs3=>
         have h:Post B δ VR (match Xa k pr fs2 with
          | some fs3=> .ok (.d (.lst a)) (Gx fs fs3 vs)
          | none=> .bad) Z Φ:=h
         rw [e4] at h
         exact h _ η' (s.rest_ (s1.unlock e2 q1 s' e4) ag hl' nl) ⟨rfl,by simpa [nr] using na⟩
     ·rw [e2] at h
      obtain ⟨a,a1,a2,a3,a4⟩:=s1.l k o e2
      rw [q1] at a1;cases a1
      exact acC hg ht he hw (fun fs2 δ2 η2 s2=>s2.fr p o a2) nl ds [] fs1 δ η1 n rfl s1 (fun _ _=>rfl) rfl (aqt s nl h)
end
end DL
end
section
namespace DL
open PySem PySem.Spec PyProof.Rows L2
/-- an argument:data,or an object that the callee may change -/
inductive Ar where
 | d (x:D)
 | m (o:M)
inductive Rm where
 | ok (v:FV)(as:List Ar)
 | ex (x:D)(as:List Ar)
 | bad
abbrev MF:=List Ar→Rm
def AR(η:Eta):List Ar→List D→Prop
 | [],[]=>True
 | .d x::as,d::ds=>(d=x∧nr x=true)∧AR η as ds
 | .m o::as,d::ds=>(∃p,d= .ref p∧η p=some o∧nrM o)∧AR η as ds
 | _,_=>False
def DY:List D→List Addr
 | []=> []
 | .ref p::ds=>p::DY ds
 | _::ds=>DY ds
theorem J9{p:Addr}:∀ {ds:List D},p ∈ DY ds↔D.ref p ∈ ds
 | []=>by simp [DY]
 | d::ds=>by
  cases d with
  | ref q=>simp [DY,J9 (ds:=ds)]
  | _=>simp [DY,J9 (ds:=ds)]
def RR(η η':Eta):FV→D→Prop
 | .d x,d=>d=x∧nr x=true
 | .f o,d=> ∃p,d= .ref p∧η' p=some o∧η p=none∧nrM o
 | .s _,_=>False
/-- beside the arguments all is as it was -/
def Frm(η:Eta)(ds:List D)(η':Eta):Prop:=∀a,η a≠none→a ∉ DY ds→η' a=η a
def aod(η:Eta)(ds:List D)(r:Rm)(Z:Xk)(Φ:DK):Prop:=match r with
 | .ok v as'=> ∀d η',AR η' as' ds→Frm η ds η'→RR η η' v d→Φ d η'
 | .ex x as'=> ∀η',AR η' as' ds→Frm η ds η'→nr x=true→Z x η'
 | .bad=>False
/-- a def's contract by its function -/
def CtF(mf:MF):Ct:=fun ds η Z Φ=> ∃as,AR η as ds∧(DY ds).Nodup∧aod η ds (mf as) Z Φ
theorem AR.len{η:Eta}:∀ {as:List Ar} {ds:List D},AR η as ds→as.length=ds.length
 | [],[],_=>rfl
 | [],_::_,h=>h.elim
 | .d _::_,[],h=>h.elim
 | .m _::_,[],h=>h.elim
 | .d _::as,_::ds,⟨_,h⟩=>by simp [h.len]
 | .m _::as,_::ds,⟨_,h⟩=>by simp [h.len]
theorem AR.get{η:Eta}:∀ {as:List Ar} {ds:List D} {i:Nat} {a:Ar},AR η as ds→as[i]? =some a→(∃x,a= .d x∧ds[i]? =some x∧nr x=true)∨∃o p,a= .m o∧ds[i]? =some (.ref p)∧η p=some o∧nrM o
 | [],[],_,_,_,h=>by simp at h
 | [],_::_,_,_,h,_=>h.elim
 | .d _::_,[],_,_,h,_=>h.elim
 | .m _::_,[],_,_,h,_=>h.elim
 | .d x::as,_::ds,0,_,⟨⟨h1,h2⟩,_⟩,h=>by cases h;exact .inl ⟨x,rfl,by rw [h1];rfl,h2⟩
 | .m o::as,_::ds,0,_,⟨⟨p,h1,h2,h3⟩,_⟩,h=>by cases h;exact .inr ⟨o,p,rfl,by rw [h1];rfl,h2,h3⟩
 | .d _::as,_::ds,i + 1,_,⟨_,h⟩,e=>h.get (i:=i) (by simpa using e)
 | .m _::as,_::ds,i + 1,_,⟨_,h⟩,e=>h.get (i:=i) (by simpa using e)
theorem AR.ref{η:Eta}{as:List Ar}{ds:List D}{i:Nat}{p:Addr}(h:AR η as ds)(e:ds[i]? =some (.ref p)):∃o,as[i]? =some (.m o)∧η p=some o∧nrM o:=by
 have hl:=h.len
 have lt:i < as.length:=by rw [hl];exact (List.getElem?_eq_some_iff.mp e).1
 have ea:as[i]? =some as[i]:=List.getElem?_eq_getElem lt
 rcases h.get ea with ⟨x,q1,q2,q3⟩ | ⟨o,q,q1,q2,q3,q4⟩
 ·rw [e] at q2;cases q2;simp [nr] at q3
 ·rw [e] at q2;cases q2;exact ⟨o,by rw [ea,q1],q3,q4⟩
theorem akS:∀ {ds:List D} {i j:Nat} {p:Addr},(DY ds).Nodup→ds[i]? =some (.ref p)→ds[j]? =some (.ref p)→i=j
 | [],_,_,_,_,h,_=>by simp at h
 | d::ds,0,0,_,_,_,_=>rfl
 | d::ds,0,j + 1,p,n,h,h'=>by
  simp at h h'
  subst h
  have:p ∈ DY ds:=J9.mpr (List.mem_of_getElem? h')
  have n:(p::DY ds).Nodup:=n
  exact absurd this (List.nodup_cons.mp n).1
 | d::ds,i + 1,0,p,n,h,h'=>by
  simp at h h'
  subst h'
  have:p ∈ DY ds:=J9.mpr (List.mem_of_getElem? h)
  have n:(p::DY ds).Nodup:=n
  exact absurd this (List.nodup_cons.mp n).1
 | d::ds,i + 1,j + 1,p,n,h,h'=>by
  have n':(DY ds).Nodup:=by
   cases d with
   | ref q=>exact (List.nodup_cons.mp (show (q::DY ds).Nodup from n)).2
   | _=>exact n
  have q:i=j:=akS n' (by simpa using h) (by simpa using h')
  rw [q]
def agA:Ar→Option Sv
 | .d x=>some (.d x)
 | .m o=>some (.m true o)
def startF(N:Nat)(as:List Ar):FS:=as.map agA ++ List.replicate (N - as.length) none
def yh(fs:FS):Nat→List Ar→Option (List Ar)
 | _,[]=>some []
 | i, .d x::r=>match yh fs (i + 1) r with
  | some as=>some (.d x::as)
  | none=>none
 | i, .m _::r=>match fs[i]?,yh fs (i + 1) r with
  | some (some (.m true o)),some as=>some (.m o::as)
  | _,_=>none
def alo(fs:FS):FV→Option FV
 | .d x=>some (.d x)
 | .f o=>some (.f o)
 | .s i=>match fs[i]? with
  | some (some (.m false o))=>some (.f o)
  | _=>none
theorem ayR{fs:FS}{i:Nat}{v:FV}(h:alo fs (.s i)=some v):∃o,fs[i]? =some (some (.m false o))∧v= .f o:=by
 have h:(match fs[i]? with
  | some (some (.m false o))=>some (FV.f o)
  | _=>none)=some v:=h
 split at h
 ·rename_i o e;cases h;exact ⟨o,e,rfl⟩
 ·cases h
def acI(as:List Ar):O→Rm
 | .rt v s=>match alo s v,yh s 0 as with
  | some v',some as'=> .ok v' as'
  | _,_=> .bad
 | .nx s=>match yh s 0 as with
  | some as'=> .ok (.d .non) as'
  | none=> .bad
 | .ex x s=>match yh s 0 as with
  | some as'=> .ex x as'
  | none=> .bad
 | _=> .bad
def acQ(N np:Nat)(body:Gq):MF:=fun as=>if as.length=np then acI as (body (startF N as)) else .bad
def startB(η:Eta)(ds:List D):Om:=⟨fun a=>if a ∈ DY ds then none else η a,fun i=>match ds[i]? with
 | some (.ref p)=>some p
 | _=>none,fun _=>none⟩
theorem QD{N:Nat}{as:List Ar}{i:Nat}{sv:Sv}(h:(startF N as)[i]? =some (some sv)):∃a,as[i]? =some a∧agA a=some sv:=by
 unfold startF at h
 by_cases hi:i < as.length
 ·rw [List.getElem?_append_left (by simpa using hi),List.getElem?_map,List.getElem?_eq_getElem hi] at h
  exact ⟨as[i],List.getElem?_eq_getElem hi,by simpa using h⟩
 ·rw [List.getElem?_append_right (by simpa using hi),List.getElem?_replicate] at h
  split at h <;> cases h
theorem arp{names:List Str}{η:Eta}{as:List Ar}{ds:List D}(h:AR η as ds)(n:(DY ds).Nodup):St (startB η ds) (startF names.length as) (QF names ds) η:=by
 have hl:=h.len
 have dget:∀ {i:Nat} {x:D},ds[i]? =some x→(QF names ds)[i]? =some (some x):=fun {i x} e=>by
  unfold QF
  rw [List.getElem?_append_left (by rw [List.length_map];exact (List.getElem?_eq_some_iff.mp e).1),List.getElem?_map,e];rfl
 refine ⟨by simp [startF,QF,hl],fun i x e=> ?_,fun i pr o e=> ?_,fun i o e=> ?_,fun i p e=>(nomatch e),fun i j pr pr' o o' p e1 e2 h1 h2=> ?_,fun a o e=> ?_,fun i p e=> ?_⟩
 ·obtain ⟨a,ea,es⟩:=QD e
  rcases h.get ea with ⟨y,rfl,q2,q3⟩ | ⟨o,p,rfl,_⟩
  ·cases es;exact ⟨dget q2,q3⟩
  ·cases es
 ·obtain ⟨a,ea,es⟩:=QD e
  rcases h.get ea with ⟨y,rfl,_⟩ | ⟨o',p,rfl,q2,q3,q4⟩
  ·cases es
  ·cases es
   refine ⟨p,dget q2,q3,?_,q4,fun _=> ?_,fun z=>by cases z⟩
   ·show (if p ∈ DY ds then none else η p)=none
    rw [if_pos (J9.mpr (List.mem_of_getElem? q2))]
   ·show (match ds[i]? with | some (.ref p)=>some p | _=>none)=some p
    rw [q2]
 ·obtain ⟨a,ea,es⟩:=QD e
  cases a <;> cases es
 ·obtain ⟨a,ea,es⟩:=QD e1
  obtain ⟨b,eb,ec⟩:=QD e2
  rcases h.get ea with ⟨y,rfl,_⟩ | ⟨o1,p1,rfl,q2,q3,q4⟩
  ·cases es
  rcases h.get eb with ⟨y,rfl,_⟩ | ⟨o2,p2,rfl,r2,r3,r4⟩
  ·cases ec
  rw [dget q2] at h1;cases h1
  rw [dget r2] at h2;cases h2
  exact akS n q2 r2
 ·have e:(if a ∈ DY ds then none else η a)=some o:=e
  split at e
  ·cases e
  ·exact e
 ·have e:(match ds[i]? with | some (.ref p)=>some p | _=>none)=some p:=e
  split at e
  ·rename_i q eq
   cases e
   obtain ⟨o,_,q,_⟩:=h.ref eq
   rw [q];simp
  ·cases e
section
variable {η η':Eta}{ds:List D}{fs:FS}{δ:vY}
theorem Y8(s:St (startB η ds) fs δ η'):∀ {as as':List Ar} {es:List D} {k:Nat},(∀i,es[i]? =ds[k + i]?)→AR η as es→yh fs k as=some as'→AR η' as' es
 | [],_,[],k,_,_,h=>by cases h;exact True.intro
 | [],_,_::_,_,_,a,_=>a.elim
 | .d _::_,_,[],_,_,a,_=>a.elim
 | .m _::_,_,[],_,_,a,_=>a.elim
 | .d x::as,as',d::es,k,he,⟨a1,a2⟩,h=>by
  unfold yh at h
  split at h
  ·rename_i as2 e
   cases h
   exact ⟨a1,Y8 s (k:=k + 1) (fun i=>by have:=he (i + 1);rw [show k + 1 + i=k + (i + 1) by omega];simpa using this) a2 e⟩
  ·cases h
 | .m o::as,as',d::es,k,he,⟨⟨p,ed,a1,a3⟩,a2⟩,h=>by
  subst ed
  unfold yh at h
  split at h
  ·rename_i o' as2 e1 e2
   cases h
   refine ⟨?_,Y8 s (k:=k + 1) (fun i=>by have:=he (i + 1);rw [show k + 1 + i=k + (i + 1) by omega];simpa using this) a2 e2⟩
   obtain ⟨q,q1,q2,q3,q4,q5,q6⟩:=s.m k true o' e1
   have q5:(match ds[k]? with | some (.ref p)=>some p | _=>none)=some q:=q5 rfl
   have h0:=he 0
   rw [Nat.add_zero] at h0
   rw [← h0] at q5
   have q5:some p=some q:=q5
   cases q5
   exact ⟨p,rfl,q2,q4⟩
  ·cases h
theorem amA(s:St (startB η ds) fs δ η'):Frm η ds η':=fun a h1 h2=>by
 cases e:η a with
 | none=>exact absurd e h1
 | some o=>
  rw [s.fr a o (show (if a ∈ DY ds then none else η a)=some o by rw [if_neg h2];exact e)]
theorem aun{v v':FV}{d:D}(s:St (startB η ds) fs δ η')(r:VR (startB η ds) fs δ η' v d)(h:alo fs v=some v'):RR η η' v' d:=by
 have low:∀ {p:Addr},(startB η ds).b p=none→(∀j,(startB η ds).ps j≠some p)→η p=none:=fun {p} h1 h2=>by
  have h1:(if p ∈ DY ds then none else η p)=none:=h1
  split at h1
  ·rename_i hm
   obtain ⟨j,hj⟩:=List.mem_iff_getElem?.mp (J9.mp hm)
   exact absurd (show (match ds[j]? with | some (.ref p)=>some p | _=>none)=some p by rw [hj]) (h2 j)
  ·exact h1
 cases v with
 | d x=>cases h;exact r
 | f o=>
  cases h
  obtain ⟨p,rfl,h1,n,f⟩:=r
  exact ⟨p,rfl,h1,low f.b f.ps,n⟩
 | s i=>
  obtain ⟨o,e,rfl⟩:=ayR h
  obtain ⟨p,q1,q2,q3,q4,q5,q6⟩:=s.m i false o e
  have r:δ[i]? =some (some d):=r
  rw [q1] at r;cases r
  exact ⟨p,rfl,q2,low q3 (q6 rfl),q4⟩
end
theorem axH{names:List Str}{N np:Nat}{t:DS}{body:Gq}(hb:aaH t body)(hN:names.length=N){as:List Ar}{ds:List D}{η:Eta}{Z:Xk}{Φ:DK}(h1:AR η as ds)(h2:(DY ds).Nodup)(h3:aod η ds (acQ N np body as) Z Φ):t Z (az6 Φ) (QF names ds) η:=by
 subst hN
 refine hb (startB η ds) (startF names.length as) (QF names ds) η Z _ (arp h1 h2) ?_
 unfold acQ at h3
 split at h3
 case isFalse=>exact h3.elim
 cases e:body (startF names.length as) with
 | bad=>rw [e] at h3;exact h3
 | bk s=>rw [e] at h3;exact h3.elim
 | ct s=>rw [e] at h3;exact h3.elim
 | nx s=>
  rw [e] at h3
  intro δ' η' s'
  unfold acI at h3
  dsimp only at h3
  split at h3
  ·rename_i as' ea
   exact h3 .non η' (Y8 s' (k:=0) (fun i=>by rw [Nat.zero_add]) h1 ea) (amA s') ⟨rfl,rfl⟩
  ·exact h3.elim
 | ex x s=>
  rw [e] at h3
  intro δ' η' s' nx
  unfold acI at h3
  dsimp only at h3
  split at h3
  ·rename_i as' ea
   exact h3 η' (Y8 s' (k:=0) (fun i=>by rw [Nat.zero_add]) h1 ea) (amA s') nx
  ·exact h3.elim
 | rt v s=>
  rw [e] at h3
  intro d δ' η' s' r'
  unfold acI at h3
  dsimp only at h3
  split at h3
  ·rename_i v' as' ev ea
   exact h3 d η' (Y8 s' (k:=0) (fun i=>by rw [Nat.zero_add]) h1 ea) (amA s') (aun s' r' ev)
  ·exact h3.elim
theorem JV{names:List Str}{N np:Nat}{t:DS}{body:Gq}(hb:aaH t body)(hN:names.length=N){ds:List D}{η:Eta}{Z:Xk}{Φ:DK}(h:CtF (acQ N np body) ds η Z Φ):t Z (az6 Φ) (QF names ds) η:=by
 obtain ⟨as,h1,h2,h3⟩:=h
 exact axH hb hN h1 h2 h3
theorem U5{N np:Nat}{body:Gq}{ds:List D}{η:Eta}{Z:Xk}{Φ:DK}(h:CtF (acQ N np body) ds η Z Φ):ds.length=np:=by
 obtain ⟨as,h1,h2,h3⟩:=h
 unfold acQ at h3
 split at h3
 ·rename_i e;rw [← h1.len];exact e
 ·exact h3.elim
theorem auC{ds:List D}{η:Eta}{Z:Xk}{Φ:DK}(h:CtF (fun _=> .bad) ds η Z Φ):False:=by
 obtain ⟨as,h1,h2,h3⟩:=h;exact h3
theorem ctf_law{m:MF}{ns:List Int}{Z:Xk}{Φ:DK}(h:∃as',m [.d (.klst (ns.map D.int))]= .ok (.d (.bl true)) as')(h2:∀η,Φ (.bl true) η):CtF m [.klst (ns.map D.int)] (fun _=>none) Z Φ:=by
 obtain ⟨as',e⟩:=h
 refine ⟨[.d (.klst (ns.map D.int))],⟨⟨rfl,?_⟩,True.intro⟩,List.nodup_nil,?_⟩
 ·show JK (ns.map D.int)=true
  exact Vm fun d hd=>by obtain ⟨i,-,rfl⟩:=List.mem_map.mp hd;rfl
 ·rw [e]
  rintro d η' _ _ ⟨rfl,_⟩
  exact h2 η'
theorem cls_nil{P:Addr→Prop}:∀C ∈ ([]:List Addr),P C:=fun C h=>nomatch h
theorem cls_cons{P:Addr→Prop}{A:Addr}{l:List Addr}(h:P A)(t:∀C ∈ l,P C):∀C ∈ A::l,P C:=fun C hC=>by
 rcases List.mem_cons.mp hC with rfl | hC
 ·exact h
 ·exact t C hC
def akK(fs:FS):FV→Option Ar
 | .d x=>some (.d x)
 | .f o=>some (.m o)
 | .s i=>match fs[i]? with
  | some (some (.m _ o))=>some (.m o)
  | _=>none
theorem ajc{fs:FS}{i:Nat}{a:Ar}(h:akK fs (.s i)=some a):∃pr o,fs[i]? =some (some (.m pr o))∧a= .m o:=by
 have h:(match fs[i]? with
  | some (some (.m _ o))=>some (Ar.m o)
  | _=>none)=some a:=h
 split at h
 ·rename_i pr o e;cases h;exact ⟨pr,o,e,rfl⟩
 ·cases h
def Px(fs:FS):List FV→Option (List Ar)
 | []=>some []
 | v::vs=>match akK fs v,Px fs vs with
  | some a,some as=>some (a::as)
  | _,_=>none
def slotsOf:List FV→List Nat
 | []=> []
 | .s i::vs=>i::slotsOf vs
 | _::vs=>slotsOf vs
theorem agK{fs:FS}{j:Nat}:∀ {vs:List FV} {as:List Ar} {k:Nat},Px fs vs=some as→vs[k]? =some (.s j)→∃pr o,fs[j]? =some (some (.m pr o))
 | [],_,_,_,h=>by simp at h
 | w::ws,as,k,ha,hk=>by
  unfold Px at ha
  split at ha
  ·rename_i a as3 e3 e4
   cases k with
   | zero=>
    cases hk
    obtain ⟨pr,o,e,_⟩:=ajc e3
    exact ⟨pr,o,e⟩
   | succ k=>exact agK e4 (by simpa using hk)
  ·cases ha
theorem ae0{i:Nat}:∀ {vs:List FV} {k:Nat},vs[k]? =some (.s i)→i ∈ slotsOf vs
 | [],_,h=>by simp at h
 | w::ws,0,h=>by cases h;exact List.mem_cons_self
 | w::ws,k + 1,h=>by
  have:=ae0 (vs:=ws) (k:=k) (by simpa using h)
  cases w with
  | s j=>exact List.mem_cons_of_mem _ this
  | d x=>exact this
  | f o=>exact this
def Xd:List Nat→Bool
 | []=>true
 | i::is=> !is.contains i && Xd is
def putBack:FS→List FV→List Ar→Option FS
 | fs,[],[]=>some fs
 | fs, .d _::vs, .d _::as=>putBack fs vs as
 | fs, .f _::vs, .m _::as=>putBack fs vs as
 | fs, .s i::vs, .m o::as=>match fs[i]? with
  | some (some (.m pr _))=>putBack (fs.set i (some (.m pr o))) vs as
  | _=>none
 | _,_,_=>none
/-- the callee's function at the frame's values -/
def Yr(mf:MF)(fs:FS)(vs:List FV):Rs (FV × List Ar):=match Px fs vs with
 | some as=>if Xd (slotsOf vs) then match mf as with
  | .ok v as'=>match putBack fs vs as' with
   | some fs'=> .ok (v,as') fs'
   | none=> .bad
  | .ex x as'=>match putBack fs vs as' with
   | some fs'=> .ex x fs'
   | none=> .bad
  | .bad=> .bad
  else .bad
 | none=> .bad
def BX(mf:MF)(fs:FS)(vs:List FV):Rs FV:=(Yr mf fs vs).bind fun r fs'=>match r.1 with
 | .s _=> .bad
 | v=> .ok v fs'
theorem aiw:∀ {is:List Nat},Xd is=true→is.Nodup
 | [],_=>List.nodup_nil
 | i::is,h=>by
  unfold Xd at h
  rw [Bool.and_eq_true] at h
  refine List.nodup_cons.mpr ⟨fun z=> ?_,aiw h.2⟩
  have:=h.1
  rw [List.contains_iff_mem.mpr z] at this
  cases this
section
variable {B:Om}{fs fs':FS}{δ:vY}{η η':Eta}{vs:List FV}{ds:List D}{as as':List Ar}
theorem arj(s:St B fs δ η)(r:Vj B fs δ η vs ds)(h:Px fs vs=some as):AR η as ds:=by
 induction vs generalizing ds as B with
 | nil=>
  cases ds with
  | nil=>cases h;exact True.intro
  | cons _ _=>exact r.elim
 | cons v vs ih=>
  cases ds with
  | nil=>exact r.elim
  | cons d ds=>
   obtain ⟨r1,r2⟩:=r
   unfold Px at h
   split at h
   ·rename_i a as2 e1 e2
    cases h
    have t:=ih (s.ext_ r1) r2 e2
    cases v with
    | d x=>cases e1;exact ⟨r1,t⟩
    | f o=>cases e1;obtain ⟨p,q1,q2,q3,_⟩:=r1;exact ⟨⟨p,q1,q2,q3⟩,t⟩
    | s i=>
     obtain ⟨pr,o,e,rfl⟩:=ajc e1
     obtain ⟨p,q1,q2,q3,q4,_⟩:=s.m i pr o e
     have r1:δ[i]? =some (some d):=r1
     rw [q1] at r1;cases r1
     exact ⟨⟨p,rfl,q2,q4⟩,t⟩
   ·cases h
/-- whose an argument's address is -/
theorem Vj.addr{p:Addr}{k:Nat}{v:FV}(s:St B fs δ η)(r:Vj B fs δ η vs ds)(hd:ds[k]? =some (.ref p))(hv:vs[k]? =some v):(∃i,v= .s i∧δ[i]? =some (some (.ref p)))∨(∃o,v= .f o∧Frs B fs δ p):=by
 have q:=r.one.2 k v (.ref p) hv hd
 cases v with
 | d x=>obtain ⟨rfl,n⟩:=q;simp [nr] at n
 | s i=>exact .inl ⟨i,rfl,q⟩
 | f o=>obtain ⟨p',e,_,_,f⟩:=q;cases e;exact .inr ⟨o,rfl,f⟩
theorem Vj.nodup(s:St B fs δ η)(r:Vj B fs δ η vs ds)(ha:Px fs vs=some as)(hn:(slotsOf vs).Nodup):(DY ds).Nodup:=by
 induction vs generalizing ds as B with
 | nil=>
  cases ds with
  | nil=>exact List.nodup_nil
  | cons _ _=>exact r.elim
 | cons v vs ih=>
  cases ds with
  | nil=>exact r.elim
  | cons d ds=>
   obtain ⟨r1,r2⟩:=r
   unfold Px at ha
   split at ha
   ·rename_i a as2 e1 e2
    have hn':(slotsOf vs).Nodup:=by
     cases v with
     | s i=>exact (List.nodup_cons.mp (show (i::slotsOf vs).Nodup from hn)).2
     | d x=>exact hn
     | f o=>exact hn
    have t:=ih (s.ext_ r1) r2 e2 hn'
    cases d with
    | ref p=>
     refine List.nodup_cons.mpr ⟨fun hm=> ?_,t⟩
     obtain ⟨k,hk⟩:=List.mem_iff_getElem?.mp (J9.mp hm)
     have lt:k < vs.length:=by rw [r2.one.1];exact (List.getElem?_eq_some_iff.mp hk).1
     have hv:vs[k]? =some vs[k]:=List.getElem?_eq_getElem lt
     rcases r2.addr (s.ext_ r1) hk hv with ⟨j,ej,qj⟩ | ⟨o',eo,f⟩
     ·obtain ⟨pr,o2,q⟩:=agK e2 (show vs[k]? =some (.s j) by rw [hv,ej])
      cases v with
      | d x=>obtain ⟨e,n⟩:=r1;rw [← e] at n;simp [nr] at n
      | f o=>
       obtain ⟨p',e,h1,n,f⟩:=r1
       cases e
       exact f.sl j pr o2 q qj
      | s i=>
       have r1:δ[i]? =some (some (.ref p)):=r1
       obtain ⟨pr',o,qi,_⟩:=ajc e1
       have ij:=s.inj i j pr' pr o o2 p qi q r1 qj
       subst ij
       exact (List.nodup_cons.mp (show (i::slotsOf vs).Nodup from hn)).1 (ae0 (show vs[k]? =some (.s i) by rw [hv,ej]))
     ·cases v with
      | d x=>obtain ⟨e,n⟩:=r1;rw [← e] at n;simp [nr] at n
      | f o=>
       have:=f.b
       have:Ka B.b p o p=none:=this
       rw [jN] at this;cases this
      | s i=>
       have r1:δ[i]? =some (some (.ref p)):=r1
       obtain ⟨pr,o,e6,_⟩:=ajc e1
       exact f.sl i pr o e6 r1
    | _=>exact t
   ·cases ha
theorem Ds:∀ {vs:List FV} {as:List Ar} {fs fs':FS},putBack fs vs as=some fs'→fs'.length=fs.length∧∀i:Nat,(fs'[i]? =fs[i]? ∧∀(k:Nat) (o:M),¬ (vs[k]? =some (FV.s i)∧as[k]? =some (Ar.m o)))∨∃(pr:Bool) (o0 o:M) (k:Nat),fs[i]? =some (some (Sv.m pr o0))∧fs'[i]? =some (some (Sv.m pr o))∧vs[k]? =some (FV.s i)∧as[k]? =some (Ar.m o)
 | [],[],fs,fs',h=>by cases h;exact ⟨rfl,fun i=> .inl ⟨rfl,fun k o z=>by simp at z⟩⟩
 | [],_::_,_,_,h=>by cases h
 | .d _::_,[],_,_,h=>by cases h
 | .f _::_,[],_,_,h=>by cases h
 | .s _::_,[],_,_,h=>by cases h
 | .d _::_, .m _::_,_,_,h=>by cases h
 | .f _::_, .d _::_,_,_,h=>by cases h
 | .s _::_, .d _::_,_,_,h=>by cases h
 | .d x::vs, .d y::as,fs,fs',h=>by
  obtain ⟨h1,h2⟩:=Ds (vs:=vs) (as:=as) h
  refine ⟨h1,fun i=> ?_⟩
  rcases h2 i with ⟨e,n⟩ | ⟨pr,o0,o,k,e1,e2,e3,e4⟩
  ·refine .inl ⟨e,fun k o z=> ?_⟩
   cases k with
   | zero=>simp at z
   | succ k=>exact n k o (by simpa using z)
  ·exact .inr ⟨pr,o0,o,k + 1,e1,e2,by simpa using e3,by simpa using e4⟩
 | .f x::vs, .m y::as,fs,fs',h=>by
  obtain ⟨h1,h2⟩:=Ds (vs:=vs) (as:=as) h
  refine ⟨h1,fun i=> ?_⟩
  rcases h2 i with ⟨e,n⟩ | ⟨pr,o0,o,k,e1,e2,e3,e4⟩
  ·refine .inl ⟨e,fun k o z=> ?_⟩
   cases k with
   | zero=>simp at z
   | succ k=>exact n k o (by simpa using z)
  ·exact .inr ⟨pr,o0,o,k + 1,e1,e2,by simpa using e3,by simpa using e4⟩
 | .s j::vs, .m y::as,fs,fs',h=>by
  unfold putBack at h
  split at h
  ·rename_i pr0 o00 ej
   have lt:j < fs.length:=(List.getElem?_eq_some_iff.mp ej).1
   obtain ⟨h1,h2⟩:=Ds (vs:=vs) (as:=as) h
   refine ⟨by rw [h1,List.length_set],fun i=> ?_⟩
   rcases h2 i with ⟨e,n⟩ | ⟨pr,o0,o,k,e1,e2,e3,e4⟩
   ·by_cases ij:j=i
    ·subst ij
     rw [List.getElem?_set_self lt] at e
     exact .inr ⟨pr0,o00,y,0,ej,e,rfl,rfl⟩
    ·rw [List.getElem?_set_ne ij] at e
     refine .inl ⟨e,fun k o z=> ?_⟩
     cases k with
     | zero=>simp at z;exact ij z.1
     | succ k=>exact n k o (by simpa using z)
   ·rcases get_set e1 with ⟨rfl,e1,-⟩ | ⟨ne,e1⟩
    ·cases e1
     exact .inr ⟨_,o00,o,k + 1,ej,e2,by simpa using e3,by simpa using e4⟩
    ·exact .inr ⟨pr,o0,o,k + 1,e1,e2,by simpa using e3,by simpa using e4⟩
  ·cases h
/-- behind a call -/
theorem St.after(s:St B fs δ η)(r:Vj B fs δ η vs ds)(ha:AR η' as' ds)(hf:Frm η ds η')(hp:putBack fs vs as'=some fs'):St B fs' δ η':=by
 obtain ⟨hl,hg⟩:=Ds hp
 have hlen:=r.one.1
 -- an address that is no argument's
 have keep:∀ {a:Addr},η a≠none→a ∉ DY ds→η' a=η a:=fun {a} h1 h2=>hf a h1 h2
 have touched:∀ {p:Addr},p ∈ DY ds→(∃o,η' p=some o)∧((∃(i k:Nat),vs[k]? =some (FV.s i)∧δ[i]? =some (some (D.ref p))∧∃o:M,as'[k]? =some (Ar.m o)∧η' p=some o∧nrM o)∨Frs B fs δ p):=fun {p} hm=>by
  obtain ⟨k,hk⟩:=List.mem_iff_getElem?.mp (J9.mp hm)
  obtain ⟨o,q1,q2,q3⟩:=ha.ref hk
  have lt:k < vs.length:=by rw [hlen];exact (List.getElem?_eq_some_iff.mp hk).1
  rcases r.addr s hk (List.getElem?_eq_getElem lt) with ⟨i,e,q⟩ | ⟨o',_,f⟩
  ·exact ⟨⟨o,q2⟩, .inl ⟨i,k,by rw [List.getElem?_eq_getElem lt,e],q,o,q1,q2,q3⟩⟩
  ·exact ⟨⟨o,q2⟩, .inr f⟩
 refine ⟨by rw [hl];exact s.len,fun i x e=> ?_,fun i pr o e=> ?_,fun i o e=> ?_,fun i p e=> ?_,fun i j pr pr' o o' p e1 e2 h1 h2=> ?_,fun a o e=> ?_,fun i p e=> ?_⟩
 ·rcases hg i with ⟨q,_⟩ | ⟨pr,o0,o,k,_,q,_⟩
  ·rw [q] at e;exact s.d i x e
  ·rw [q] at e;cases e
 ·rcases hg i with ⟨q,n⟩ | ⟨pr2,o0,o2,k,q1,q2,q3,q4⟩
  ·rw [q] at e
   obtain ⟨p,p1,p2,p3,p4⟩:=s.m i pr o e
   refine ⟨p,p1,?_,p3,p4⟩
   by_cases hm:p ∈ DY ds
   ·rcases (touched hm).2 with ⟨j,k,t1,t2,o3,t3,t4,t5⟩ | f
    ·-- slot j has the same address:is it i?
     rcases hg j with ⟨qj,nj⟩ | ⟨prj,oj0,oj,kj,qj1,_⟩
     ·exact absurd ⟨t1,t3⟩ (nj k o3)
     ·have:=s.inj i j pr prj o oj0 p e qj1 p1 t2
      subst this
      exact absurd ⟨t1,t3⟩ (n k o3)
    ·exact absurd p1 (f.sl i pr o e)
   ·rw [keep (by rw [p2];simp) hm];exact p2
  ·rw [q2] at e;cases e
   obtain ⟨p,p1,p2,p3,p4,p5⟩:=s.m i pr o0 q1
   have lt:k < ds.length:=by rw [← hlen];exact (List.getElem?_eq_some_iff.mp q3).1
   have hd:ds[k]? =some ds[k]:=List.getElem?_eq_getElem lt
   have qv:δ[i]? =some (some ds[k]):=r.one.2 k (.s i) _ q3 hd
   rw [p1] at qv
   have ek:ds[k]= .ref p:=(Option.some.inj (Option.some.inj qv)).symm
   rw [ek] at hd
   obtain ⟨o3,t1,t2,t3⟩:=ha.ref hd
   rw [q4] at t1;cases t1
   exact ⟨p,p1,t2,p3,t3,p5⟩
 ·rcases hg i with ⟨q,_⟩ | ⟨pr,o0,o2,k,_,q,_⟩
  ·rw [q] at e;exact s.l i o e
  ·rw [q] at e;cases e
 ·obtain ⟨⟨o,q1⟩,q2⟩:=s.lk i p e
  rcases hg i with ⟨q,_⟩ | ⟨pr,o0,o2,k,q,_⟩
  ·exact ⟨⟨o,by rw [q];exact q1⟩,q2⟩
  ·rw [q1] at q;cases q
 ·have old:∀ {i:Nat} {pr:Bool} {o:M},fs'[i]? =some (some (Sv.m pr o))→∃(pr:Bool) (o:M),fs[i]? =some (some (Sv.m pr o)):=fun {i pr o} e=>by
   rcases hg i with ⟨q,_⟩ | ⟨pr2,o0,o2,k,q1,_⟩
   ·exact ⟨pr,o,by rw [q] at e;exact e⟩
   ·exact ⟨pr2,o0,q1⟩
  obtain ⟨_,_,f1⟩:=old e1
  obtain ⟨_,_,f2⟩:=old e2
  exact s.inj i j _ _ _ _ p f1 f2 h1 h2
 ·have e0:=s.fr a o e
  by_cases hm:a ∈ DY ds
  ·rcases (touched hm).2 with ⟨j,k,t1,t2,o3,t3,t4,t5⟩ | f
   ·rcases hg j with ⟨qj,nj⟩ | ⟨prj,oj0,oj,kj,qj1,_⟩
    ·exact absurd ⟨t1,t3⟩ (nj k o3)
    ·obtain ⟨p,p1,p2,p3,_⟩:=s.m j prj oj0 qj1
     rw [t2] at p1;cases p1
     rw [p3] at e;cases e
   ·rw [f.b] at e;cases e
  ·rw [keep (by rw [e0];simp) hm];exact e0
 ·have h0:=s.pn i p e
  by_cases hm:p ∈ DY ds
  ·obtain ⟨o,q⟩:=(touched hm).1
   rw [q];simp
  ·rw [keep h0 hm];exact h0
/-- a new object behind a call -/
theorem VR.after{p:Addr}{o:M}(s:St B fs δ η)(s':St B fs' δ η')(h0:η p=none)(h1:η' p=some o)(n:nrM o)(hp:putBack fs vs as'=some fs'):VR B fs' δ η' (.f o) (.ref p):=by
 have f:=s.frs h0
 refine ⟨p,rfl,h1,n,f.b,fun i pr o' e q=> ?_,f.ps,f.lk⟩
 rcases (Ds hp).2 i with ⟨e2,_⟩ | ⟨pr2,o0,o2,k,e2,_⟩
 ·rw [e2] at e;exact f.sl i pr o' e q
 ·exact f.sl i pr2 o0 e2 q
theorem Frs.back{q:Addr}(f:Frs B fs δ q)(hp:putBack fs vs as'=some fs'):Frs B fs' δ q:=by
 refine ⟨f.b,fun i pr o' e z=> ?_,f.ps,f.lk⟩
 rcases (Ds hp).2 i with ⟨e2,_⟩ | ⟨pr2,o0,o2,k,e2,_⟩
 ·rw [e2] at e;exact f.sl i pr o' e z
 ·exact f.sl i pr2 o0 e2 z
/-- the callee's contract at the frame's values -/
theorem awr{mf:MF}{Z:Xk}{Φ:DK}{Ψ:FV × List Ar→FS→Rs FV}(s:St B fs δ η)(r:Vj B fs δ η vs ds)(h:Post B δ VR ((Yr mf fs vs).bind Ψ) Z Φ)
  {Φ':DK}(k:∀v as' fs' d η',St B fs' δ η'→AR η' as' ds→(∀x,v= .d x→d=x∧nr x=true)→(∀o,v= .f o→VR B fs' δ η' (.f o) d)→(∀i,v≠ .s i)→(∀q,Frs B fs δ q→Frs B fs' δ q)→Post B δ VR (Ψ (v,as') fs') Z Φ→Φ' d η'):
  ∃as,AR η as ds∧(DY ds).Nodup∧aod η ds (mf as) Z Φ':=by
 unfold Yr at h
 cases e:Px fs vs with
 | none=>rw [e] at h;exact h.elim
 | some as=>
  rw [e] at h
  dsimp only at h
  split at h
  ·rename_i hn
   refine ⟨as,arj s r e,r.nodup s e (aiw hn),?_⟩
   cases e2:mf as with
   | bad=>rw [e2] at h;exact h
   | ex x as'=>
    rw [e2] at h
    intro η' ha hf nx
    cases e3:putBack fs vs as' with
    | none=>simp [e3,Rs.bind,Post] at h
    | some fs'=>
     simp only [e3] at h
     exact h η' (s.after r ha hf e3) nx
   | ok v as'=>
    rw [e2] at h
    intro d η' ha hf hr
    cases e3:putBack fs vs as' with
    | none=>simp [e3,Rs.bind,Post] at h
    | some fs'=>
     simp only [e3] at h
     have s':=s.after r ha hf e3
     refine k v as' fs' d η' s' ha (fun x ev=> ?_) (fun o ev=> ?_) (fun i ev=> ?_) (fun q f=>f.back e3) h
     ·rw [ev] at hr;exact hr
     ·rw [ev] at hr
      obtain ⟨p,rfl,h1,h2,h3⟩:=hr
      exact VR.after s s' h2 h1 h3 e3
     ·rw [ev] at hr;exact hr
  ·exact h.elim
theorem aqx{mf:MF}{Z:Xk}{Φ:DK}(s:St B fs δ η)(r:Vj B fs δ η vs ds)(h:Post B δ VR (BX mf fs vs) Z Φ):∃as,AR η as ds∧(DY ds).Nodup∧aod η ds (mf as) Z Φ:=by
 refine awr s r h fun v as' fs' d η' s' ha hd hf hs _ h'=> ?_
 cases v with
 | d x=>exact h' d η' s' (hd x rfl)
 | f o=>exact h' d η' s' (hf o rfl)
 | s i=>exact absurd rfl (hs i)
end
end DL
end
section
namespace DL
open PySem PySem.Spec PyProof.Rows L2
/-- where no exception may leave -/
def noX(mf:MF):MF:=fun as=>match mf as with
 | .ok v as'=> .ok v as'
 | _=> .bad
section
variable {B:Om}{fs:FS}{δ:vY}{η:Eta}{v:FV}{d:D}{vs:List FV}{ds dds:List D}
theorem Vj.appD(r:Vj B fs δ η vs ds)(n:JK dds=true):Vj B fs δ η (vs ++ dds.map FV.d) (ds ++ dds):=by
 have base:∀ {B:Om} {dds:List D},JK dds=true→Vj B fs δ η (dds.map FV.d) dds:=by
  intro B dds
  induction dds generalizing B with
  | nil=>exact fun _=>True.intro
  | cons d ds ih=>
   intro n
   exact ⟨⟨rfl,vZ n List.mem_cons_self⟩,ih (Vm fun x hx=>vZ n (List.mem_cons_of_mem _ hx))⟩
 induction vs generalizing ds B with
 | nil=>
  cases ds with
  | nil=>exact base n
  | cons _ _=>exact r.elim
 | cons v vs ih=>
  cases ds with
  | nil=>exact r.elim
  | cons d ds=>exact ⟨r.1,ih r.2⟩
/-- beside a new object -/
theorem Vj.newM{p:Addr}{o:M}(h:η p=none)(r:Vj B fs δ η vs ds):Vj ⟨Ka B.b p o,B.ps,B.lk⟩ fs δ (Ka η p o) vs ds:=by
 have key:∀(vs:List FV) (ds:List D) (B B':Om),(∀q,q≠p→B.b q=none→B'.b q=none)→(∀q,(∀j,B.ps j≠some q)→∀j,B'.ps j≠some q)→(∀q,(∀j,B.lk j≠some q)→∀j,B'.lk j≠some q)→Vj B fs δ η vs ds→Vj B' fs δ (Ka η p o) vs ds:=by
  intro vs
  induction vs with
  | nil=>
   intro ds B B' _ _ _ r
   cases ds with
   | nil=>exact True.intro
   | cons _ _=>exact r.elim
  | cons v vs ih=>
   intro ds B B' hb hp hl r
   cases ds with
   | nil=>exact r.elim
   | cons d ds=>
    obtain ⟨r1,r2⟩:=r
    cases v with
    | d x=>exact ⟨r1,ih ds B B' hb hp hl r2⟩
    | s i=>exact ⟨r1,ih ds B B' hb hp hl r2⟩
    | f o'=>
     obtain ⟨q,rfl,h1,n,f⟩:=r1
     have ne:q≠p:=by rintro rfl;rw [h] at h1;cases h1
     refine ⟨⟨q,rfl,by rw [iT ne];exact h1,n,hb q ne f.b,f.sl,hp q f.ps,hl q f.lk⟩,ih ds (ext B (.f o') (.ref q)) (ext B' (.f o') (.ref q)) (fun a na ha=> ?_) hp hl r2⟩
     have ha:Ka B.b q o' a=none:=ha
     show Ka B'.b q o' a=none
     by_cases e:a=q
     ·subst e;rw [jN] at ha;cases ha
     ·rw [iT e] at ha ⊢;exact hb a na ha
 exact key vs ds B _ (fun q ne hq=>by show Ka B.b p o q=none;rw [iT ne];exact hq) (fun _ h=>h) (fun _ h=>h) r
end
section
variable {mf:MF}{dds:List D}{dr dk:DA}{fr fk:FA}{do_:DE}{fo:FE}
def Yp(mf:MF)(dds:List D)(fr:FA):FE:=fun fs=>(fr fs).bind fun vs fs1=>BX mf fs1 (vs ++ dds.map FV.d)
theorem Ea(hd:JK dds=true:=by rfl)(hr:gM Vj dr fr):gM VR (dCall (CtF mf) dds dr) (Yp mf dds fr):=fun B fs δ η Z Φ s h=>hr B fs δ η Z _ s (Post.bind h fun vs fs1 ds1 η1 s1 r1 h1=>by
 obtain ⟨as,a1,a2,a3⟩:=aqx s1 (r1.appD hd) h1
 exact ⟨as,a1,a2,a3⟩)
def FV.isF:FV→Bool
 | .f _=>true
 | _=>false
def axM(mf:MF)(n m:Nat)(idx:List Nat)(fr fk:FA):FE:=fun fs=>(fr fs).bind fun vs fs1=>if vs.any FV.isF then .bad else (fk fs1).bind fun ws fs2=>if vs.length=n∧ws.length=m∧ws.any FV.isF=false then BX mf fs2 (pick idx (vs ++ ws)) else .bad
theorem Vj.stay{B:Om}{fs fs':FS}{δ:vY}{η η':Eta}{vs:List FV}{ds:List D}(r:Vj B fs δ η vs ds)(hf:vs.any FV.isF=false):vs.length=ds.length∧∀(k:Nat) (v:FV) (d:D),vs[k]? =some v→ds[k]? =some d→VR B fs' δ η' v d:=by
 obtain ⟨h1,h2⟩:=r.one
 refine ⟨h1,fun k v d hv hd=>(h2 k v d hv hd).keep fun o e=> ?_⟩
 rw [List.any_eq_false] at hf
 exact hf v (List.mem_of_getElem? hv) (by rw [e];rfl)
def isObj(C:Addr)(m:Str):Option D→Bool
 | some (.obj C' ns es)=>decide (C'=C) && (lkp ns es m).isNone
 | _=>false
def arN(C:Addr)(m:Str)(mf:MF)(dds:List D)(fo:FE)(fr:FA):FE:=fun fs=>(fo fs).bind fun v fs1=>if v.isF=false∧isObj C m (v9 fs1 v)=true then (fr fs1).bind fun vs fs2=>BX mf fs2 (v::(vs ++ dds.map FV.d)) else .bad
def axT(C:Addr)(m:Str)(mf:MF)(n q:Nat)(idx:List Nat)(dds:List D)(fo:FE)(fr fk:FA):FE:=fun fs=>(fo fs).bind fun v fs1=>if v.isF=false∧isObj C m (v9 fs1 v)=true then (fr fs1).bind fun vs fs2=>if vs.any FV.isF then .bad else (fk fs2).bind fun ws fs3=>if vs.length=n∧ws.length=q∧ws.any FV.isF=false then BX mf fs3 (pick idx ((v::vs) ++ (ws ++ dds.map FV.d))) else .bad else .bad
/-- C.m(..),a static method -/
def aBV(mf:MF)(dds:List D)(fr:FA):FE:=Yp mf dds fr
def ae1(C:Addr):FV × List Ar→Option M
 | (.d .non, .m (.ins C' ns es)::_)=>if C'=C then some (.ins C ns es) else none
 | _=>none
def aBf(C:Addr)(mf:MF)(dds:List D)(fr:FA):FE:=fun fs=>(fr fs).bind fun vs fs1=>(Yr mf fs1 (.f (.ins C [] [])::(vs ++ dds.map FV.d))).bind fun r fs2=>match ae1 C r with
 | some o=> .ok (.d (mD o)) fs2
 | none=> .bad
def ax6(C:Addr)(mf:MF)(dds:List D)(fr:FA):FE:=fun fs=>(fr fs).bind fun vs fs1=>(Yr mf fs1 (.f (.ins C [] [])::(vs ++ dds.map FV.d))).bind fun r fs2=>match ae1 C r with
 | some o=> .ok (.f o) fs2
 | none=> .bad
def agL(C:Addr):Option D→Bool
 | some (.obj C' _ _)=>decide (C'=C)
 | _=>false
def aEQ(C:Addr)(mf:MF):FO2:=fun fs x y=>if x.isF=false∧y.isF=false∧agL C (v9 fs x)=true∧agL C (v9 fs y)=true then BX (noX mf) fs [x,y] else .bad
def agP(fs:FS):FV→Bool
 | .s k=>match yt fs k with
  | some (.lst _)=>true
  | _=>false
 | _=>false
def awk(fo:FE)(fr:FA):FE:=fun fs=>(fo fs).bind fun v fs1=>if agP fs1 v=true then (fr fs1).bind fun vs fs2=>match v,vs with
 | .s k,[.d z]=>match fs2[k]? with
  | some (some (.m pr (.lst xs)))=>if xs.length < most then .ok (.d .non) (fs2.set k (some (.m pr (.lst (xs ++ [z]))))) else .bad
  | _=> .bad
 | _,_=> .bad else .bad
theorem St.at_{B:Om}{fs:FS}{δ:vY}{η:Eta}{k:Nat}{o:M}{d:D}(s:St B fs δ η)(e:yt fs k=some o)(r:δ[k]? =some (some d)):∃p,d= .ref p∧η p=some o:=by
 rcases G7 e with ⟨pr,e2⟩ | e2
 ·obtain ⟨p,p1,p2,_⟩:=s.m k pr o e2
  rw [r] at p1;cases p1;exact ⟨p,rfl,p2⟩
 ·obtain ⟨p,p1,p2,_⟩:=s.l k o e2
  rw [r] at p1;cases p1;exact ⟨p,rfl,s.fr p _ p2⟩
theorem awh(ho:gM VR do_ fo)(hr:gM Vj dr fr):gM VR (awq do_ dr) (awk fo fr):=fun B fs δ η Z Φ s h=>ho B fs δ η Z _ s (Post.bind h fun v fs1 d1 η1 s1 r1 h1=>by
 split at h1
 ·rename_i hv
  cases v with
  | d x=>cases hv
  | f o=>cases hv
  | s k=>
   have r1:δ[k]? =some (some d1):=r1
   have hv:(match yt fs1 k with
    | some (.lst _)=>true
    | _=>false)=true:=hv
   split at hv
   ·rename_i xs0 e0
    obtain ⟨p,rfl,hp⟩:=s1.at_ e0 r1
    refine ⟨⟨p,xs0,rfl,hp⟩,hr B fs1 δ η1 Z _ s1 (Post.bind h1 fun vs fs2 ds2 η2 s2 r2 h2=> ?_)⟩
    split at h2
    ·rename_i k' z ek
     cases ek
     obtain ⟨d,rfl,rfl,nz⟩:=r2.single
     split at h2
     ·rename_i pr xs e1
      split at h2
      ·rename_i lt
       obtain ⟨p',p1,p2,p3,p4,p5⟩:=s2.m k pr _ e1
       rw [r1] at p1;cases p1
       refine ⟨p,xs,d,rfl,rfl,p2,by rw [sizeLine_eq];exact Nat.lt_of_lt_of_le lt (by decide),?_⟩
       exact h2 _ _ (s2.put e1 r1 (by
        have:JK xs=true:=by simpa [nrM,mD,nr] using p4
        simpa [nrM,mD,nr] using acB this (Y7 nz rfl))) ⟨rfl,rfl⟩
      ·exact h2.elim
     ·exact h2.elim
    ·exact h2.elim
   ·cases hv
 ·exact h1.elim)
end
end DL
end
section
namespace DL
open PySem PySem.Spec PyProof.Rows L2
section
variable {η:Eta}{x y a:D}{xs:List D}
theorem Cv:(∃p o,x= .ref p∧η p=some o∧rd η x=mD o)∨(rd η x=x):=by
 cases x with
 | ref p=>
  cases e:η p with
  | none=>exact .inr (by simp [rd,e])
  | some o=>exact .inl ⟨p,o,rfl,e,by simp [rd,e]⟩
 | _=>exact .inr rfl
theorem adA(h:rd η x= .lst xs):asL η x=some xs:=by
 rcases Cv (η:=η) (x:=x) with ⟨p,o,rfl,e,q⟩ | q
 ·rw [q] at h
  cases o with
  | lst ys=>cases h;simp [asL,e]
  | _=>cases h
 ·rw [q] at h;subst h;rfl
theorem ajj(h:rd η x= .lst xs):asS η x=some xs:=by
 rcases Cv (η:=η) (x:=x) with ⟨p,o,rfl,e,q⟩ | q
 ·rw [q] at h
  cases o with
  | lst ys=>cases h;simp [asS,e]
  | _=>cases h
 ·rw [q] at h;subst h;rfl
theorem adC(h:rd η x= .tup xs):x= .tup xs:=by
 rcases Cv (η:=η) (x:=x) with ⟨p,o,rfl,e,q⟩ | q
 ·rw [q] at h;cases o <;> cases h
 ·rw [← q];exact h
theorem Vn{i:Int}(h:rd η x= .int i):x= .int i:=by
 rcases Cv (η:=η) (x:=x) with ⟨p,o,rfl,e,q⟩ | q
 ·rw [q] at h;cases o <;> cases h
 ·rw [← q];exact h
theorem aa6{z:Str}(h:rd η x= .str z):x= .str z:=by
 rcases Cv (η:=η) (x:=x) with ⟨p,o,rfl,e,q⟩ | q
 ·rw [q] at h;cases o <;> cases h
 ·rw [← q];exact h
theorem aBs{b:Bool}(h:rd η x= .bl b):x= .bl b:=by
 rcases Cv (η:=η) (x:=x) with ⟨p,o,rfl,e,q⟩ | q
 ·rw [q] at h;cases o <;> cases h
 ·rw [← q];exact h
theorem avd(h:rd η x= .klst xs):x= .klst xs:=by
 rcases Cv (η:=η) (x:=x) with ⟨p,o,rfl,e,q⟩ | q
 ·rw [q] at h;cases o <;> cases h
 ·rw [← q];exact h
theorem aBS{n:String}(h:rd η x= .ty n):x= .ty n:=by
 rcases Cv (η:=η) (x:=x) with ⟨p,o,rfl,e,q⟩ | q
 ·rw [q] at h;cases o <;> cases h
 ·rw [← q];exact h
theorem aoa(h:rd η x= .tup xs):asS η x=some xs:=by rw [adC h];rfl
/-- data that can be compared is read by vC too -/
theorem Zd(o:z9 (rd η x)=true):vC η x=rd η x:=by
 rcases Cv (η:=η) (x:=x) with ⟨p,m,rfl,e,q⟩ | q
 ·rw [q] at o ⊢
  cases m with
  | lst ys=>simp [vC,e,mD]
  | ins _ _ _=>simp [mD,z9] at o
  | dct _ _=>simp [mD,z9] at o
 ·rw [q]
  cases x with
  | ref p=>rw [q] at o;simp [z9] at o
  | _=>rfl
end
def akW(a b:D):Bool:=z9 a && z9 b && decide (min (toPy a).depth (toPy b).depth≤60)
theorem an7{a b:D}(h:akW a b=true):z9 a=true∧z9 b=true∧aAf a b:=by
 unfold akW at h
 rw [Bool.and_eq_true,Bool.and_eq_true,decide_eq_true_eq] at h
 exact ⟨h.1.1,h.1.2,h.2⟩
def gEq(a b:D):Option D:=if akW a b=true then some (.bl (Gr a b)) else none
def gNe(a b:D):Option D:=if akW a b=true then some (.bl (!Gr a b)) else none
theorem JH:JX oEq (op2 gEq):=aa7 fun η dx dy Φ z n1 n2 h=>by
 unfold gEq at h
 split at h
 ·rename_i c
  obtain ⟨o1,o2,o3⟩:=an7 c
  cases h
  refine ⟨rfl,fun k=> ?_⟩
  unfold oEq
  rw [Zd o1,Zd o2]
  exact ⟨o1,o2,o3,k⟩
 ·cases h
theorem Xg:JX oNe (op2 gNe):=aa7 fun η dx dy Φ z n1 n2 h=>by
 unfold gNe at h
 split at h
 ·rename_i c
  obtain ⟨o1,o2,o3⟩:=an7 c
  cases h
  refine ⟨rfl,fun k=> ?_⟩
  unfold oNe
  rw [Zd o1,Zd o2]
  exact ⟨o1,o2,o3,k⟩
 ·cases h
/-- two ints -/
def gI(c:Int→Int→Bool)(f:Int→Int→D):D→D→Option D
 | .int i, .int j=>if c i j=true then some (f i j) else none
 | _,_=>none
def cT:Int→Int→Bool:=fun _ _=>true
def cPos:Int→Int→Bool:=fun _ j=>decide (0 < j)
def amI:Int→Int→Bool:=fun _ j=>decide (0 < j) && decide (j.natAbs.log2 < 9000)
def aoI:Int→Int→Bool:=fun i j=>(decide (-18446744073709551616 < i) && decide (i < 18446744073709551616)) || (decide (-18446744073709551616 < j) && decide (j < 18446744073709551616))
def ap1:Int→Int→Bool:=fun i j=>decide (0≤j) && decide (j≤1000) && decide (i.natAbs < 18446744073709551616)
theorem aa8{C:Int→Int→Prop}{c:Int→Int→Bool}{f:Int→Int→D}(hc:∀i j,c i j=true→C i j)(hf:∀i j,nr (f i j)=true):JX (oI C f) (op2 (gI c f)):=aa7 fun η dx dy Φ z n1 n2 h=>by
 unfold gI at h
 split at h
 ·rename_i i j e1 e2
  split at h
  ·rename_i cc
   cases h
   exact ⟨hf i j,fun k=>⟨i,j,Vn e1,Vn e2,hc i j cc,k⟩⟩
  ·cases h
 ·cases h
theorem ape:∀i j,cT i j=true→CT i j:=fun _ _ _=>True.intro
theorem atX:∀i j:Int,cPos i j=true→0 < j:=fun _ _ h=>of_decide_eq_true h
theorem atL:∀i j,amI i j=true→CDivW i j:=fun i j h=>by
 unfold amI at h
 rw [Bool.and_eq_true,decide_eq_true_eq,decide_eq_true_eq] at h
 exact ⟨h.1,h.2⟩
theorem atO:∀i j,aoI i j=true→anw i j:=fun i j h=>by
 unfold aoI at h
 rw [Bool.or_eq_true,Bool.and_eq_true,Bool.and_eq_true,decide_eq_true_eq,decide_eq_true_eq,decide_eq_true_eq,decide_eq_true_eq] at h
 rcases h with h | h
 ·exact .inl (.inl ⟨h.1,h.2⟩)
 ·exact .inl (.inr ⟨h.1,h.2⟩)
theorem avt:∀i j,ap1 i j=true→CPow i j:=fun i j h=>by
 unfold ap1 at h
 rw [Bool.and_eq_true,Bool.and_eq_true,decide_eq_true_eq,decide_eq_true_eq,decide_eq_true_eq] at h
 exact ⟨h.1.1,Int.le_trans h.1.2 (by decide),h.2⟩
def aB8:=gI cT fun i j=> .int (i - j)
def akV:=gI amI fun i j=> .int (i / j)
def Qy:=gI cPos fun i j=> .int (i % j)
def Yq:=gI aoI fun i j=> .int (i * j)
def aio:=gI ap1 fun i j=> .int (i ^ j.toNat)
def aq8:=gI cT fun i j=> .bl (decide (i < j))
def aEd:=gI cT fun i j=> .bl (decide (i≤j))
def at9:=gI cT fun i j=> .bl (decide (j < i))
def ayU:=gI cT fun i j=> .bl (decide (j≤i))
def aDu:=gI cT fun i j=> .int (i + j)
theorem akE:JX (oI CDivW fun i j=> .int (i / j)) (op2 akV):=aa8 atL fun _ _=>rfl
theorem JW:JX (oI (fun _ j=>0 < j) fun i j=> .int (i % j)) (op2 Qy):=aa8 atX fun _ _=>rfl
theorem Wz:JX aCE (op2 Yq):=aa8 atO fun _ _=>rfl
theorem agw:JX (oI CPow fun i j=> .int (i ^ j.toNat)) (op2 aio):=aa8 avt fun _ _=>rfl
theorem ai3:JX (oI CT fun i j=> .bl (decide (i < j))) (op2 aq8):=aa8 ape fun _ _=>rfl
theorem anv:JX (oI CT fun i j=> .bl (decide (j < i))) (op2 at9):=aa8 ape fun _ _=>rfl
theorem auX:JX (oI CT fun i j=> .bl (decide (j≤i))) (op2 ayU):=aa8 ape fun _ _=>rfl
/-- + -/
def Ks:D→D→Option D
 | .int i, .int j=>some (.int (i + j))
 | .str a, .str b=>if a.length + b.length≤most then some (.str (a ++ b)) else none
 | .tup a, .tup b=>if a.length + b.length≤most then some (.tup (a ++ b)) else none
 | .lst a, .lst b=>if a.length + b.length≤most then some (.lst (a ++ b)) else none
 | _,_=>none
theorem tV:JX arR (op2 Ks):=aa7 fun η dx dy Φ z n1 n2 h=>by
 unfold Ks at h
 split at h
 ·rename_i i j e1 e2
  cases h
  refine ⟨rfl,fun k=> ?_⟩
  rw [Vn e1,Vn e2];exact k
 ·rename_i a b e1 e2
  split at h
  ·rename_i l
   cases h
   refine ⟨rfl,fun k=> ?_⟩
   rw [aa6 e1,aa6 e2];exact ⟨U7 l,k⟩
  ·cases h
 ·rename_i a b e1 e2
  split at h
  ·rename_i l
   cases h
   rw [e1] at n1;rw [e2] at n2
   refine ⟨by simpa [nr] using acB (by simpa [nr] using n1) (by simpa [nr] using n2),fun k=> ?_⟩
   rw [adC e1,adC e2];exact ⟨U7 l,k⟩
  ·cases h
 ·rename_i a b e1 e2
  split at h
  ·rename_i l
   cases h
   rw [e1] at n1;rw [e2] at n2
   refine ⟨by simpa [nr] using acB (by simpa [nr] using n1) (by simpa [nr] using n2),fun k=> ?_⟩
   have q1:=adA e1
   have q2:=adA e2
   unfold arR
   split
   ·cases q1
   ·cases q1
   ·cases q1
   ·cases q1;cases q2;exact ⟨U7 l,k⟩
   ·exact ⟨a,b,q1,q2,U7 l,k⟩
  ·cases h
 ·cases h
/-- a list,a tuple -/
def alj:D→Option (List D)
 | .lst xs=>some xs
 | .tup xs=>some xs
 | _=>none
theorem anS{η:Eta}{x:D}{xs:List D}(h:alj (rd η x)=some xs):asS η x=some xs:=by
 unfold alj at h
 split at h
 ·rename_i e;cases h;exact ajj e
 ·rename_i e;cases h;exact aoa e
 ·cases h
theorem auZ{d:D}{xs:List D}(n:nr d=true)(h:alj d=some xs):JK xs=true:=by
 unfold alj at h
 split at h
 ·cases h;simpa [nr] using n
 ·cases h;simpa [nr] using n
 ·cases h
def ahK:D→Option (List D)
 | .lst xs=>some xs
 | _=>none
theorem auE{η:Eta}{x:D}{xs:List D}(h:ahK (rd η x)=some xs):asL η x=some xs:=by
 unfold ahK at h
 split at h
 ·rename_i e;cases h;exact adA e
 ·cases h
/-- xs[i] -/
def gIx:D→D→Option D
 | a, .int i=>match a with
  | .str z=>match L2.atI z.cps.toList i with
   | some c=>some (.str ⟨#[c]⟩)
   | none=>none
  | .lst xs=>L2.atI xs i
  | .tup xs=>L2.atI xs i
  | _=>none
 | _,_=>none
theorem tZ:JX oIx (op2 gIx):=aa7 fun η dx dy Φ z n1 n2 h=>by
 unfold gIx at h
 split at h
 ·rename_i i e2
  split at h
  ·rename_i s e1
   split at h
   ·rename_i c e
    cases h
    refine ⟨rfl,fun k=> ?_⟩
    rw [aa6 e1,Vn e2];exact ⟨c,e,k⟩
   ·cases h
  ·rename_i xs e1
   rw [e1] at n1
   refine ⟨vZ (by simpa [nr] using n1) (ai2 h),fun k=> ?_⟩
   have q:=ajj e1
   rw [Vn e2]
   cases dx with
   | str _=>cases q
   | _=>exact ⟨xs,z,q,h,k⟩
  ·rename_i xs e1
   rw [e1] at n1
   refine ⟨vZ (by simpa [nr] using n1) (ai2 h),fun k=> ?_⟩
   rw [Vn e2,adC e1]
   exact ⟨xs,z,rfl,h,k⟩
  ·cases h
 ·cases h
/-- slices -/
def alh:D→Option Int→Option Int→Option D
 | .str z,lo,hi=>some (.str (cutS z lo hi))
 | .tup xs,lo,hi=>some (.tup (cutD xs lo hi))
 | .lst xs,lo,hi=>some (.lst (cutD xs lo hi))
 | .klst xs,lo,hi=>some (.lst (cutD xs lo hi))
 | _,_,_=>none
theorem aiZ{xs:List D}{lo hi:Option Int}(h:JK xs=true):JK (cutD xs lo hi)=true:=Vm fun d hd=>vZ h (List.mem_of_mem_drop (List.mem_of_mem_take hd))
theorem ait:awI oSl alh:=fun η dx lo hi Φ z n h=>by
 unfold alh at h
 split at h
 ·rename_i s e;cases h;exact ⟨rfl,fun k=>by rw [aa6 e];exact k⟩
 ·rename_i xs e;cases h;rw [e] at n;exact ⟨by simpa [nr] using aiZ (by simpa [nr] using n),fun k=>by rw [adC e];exact k⟩
 ·rename_i xs e
  cases h
  rw [e] at n
  refine ⟨by simpa [nr] using aiZ (by simpa [nr] using n),fun k=> ?_⟩
  have q:=adA e
  unfold oSl
  split
  ·cases q
  ·cases q
  ·cases q;exact k
  ·cases q
  ·exact ⟨xs,q,k⟩
 ·rename_i xs e;cases h;rw [e] at n;exact ⟨by simpa [nr] using aiZ (by simpa [nr] using n),fun k=>by rw [avd e];exact k⟩
 ·cases h
def aEH(a:D):Option D:=match ahK a with
 | some xs=>some (.lst xs.reverse)
 | none=>none
def avD:D→Option D
 | .int i=>some (.int (-i))
 | _=>none
theorem ash:∀η d Φ z,nr (rd η d)=true→avD (rd η d)=some z→nr z=true∧(Φ z η→aBT d η Φ):=fun η d Φ z n h=>by
 unfold avD at h
 split at h
 ·rename_i i e;cases h;exact ⟨rfl,fun k=>⟨i,Vn e,k⟩⟩
 ·cases h
/-- in -/
def al5(a:D)(xs:List D):Bool:=z9 a && Yo xs && decide (min (PyData.depthAll (Pu xs)) (toPy a).depth≤60)
def ahL(neg:Bool)(a:D):D→Option D
 | .str z=>match a with
  | .str y=>match y.cps.toList with
   | [c]=>some (.bl (neg ^^ decide (c ∈ z.cps.toList)))
   | _=>none
  | _=>none
 | .lst xs=>if al5 a xs=true then some (.bl (neg ^^ dIn a xs)) else none
 | .tup xs=>if al5 a xs=true then some (.bl (neg ^^ dIn a xs)) else none
 | _=>none
theorem aiL{neg:Bool}:JX (aoO neg) (op2 (ahL neg)):=aa7 fun η dx dy Φ z n1 n2 h=>by
 have go:∀xs,asS η dy=some xs→(if al5 (rd η dx) xs=true then some (D.bl (neg ^^ dIn (rd η dx) xs)) else none)=some z→nr z=true∧(Φ z η→aoO neg dx dy η Φ):=fun xs q h=>by
  split at h
  ·rename_i c
   unfold al5 at c
   rw [Bool.and_eq_true,Bool.and_eq_true,decide_eq_true_eq] at c
   cases h
   refine ⟨rfl,fun k=> ?_⟩
   unfold aoO
   split
   ·cases q
   ·rw [Zd c.1.1];exact ⟨xs,q,c.1.1,c.1.2,c.2,k⟩
  ·cases h
 unfold ahL at h
 split at h
 ·rename_i s e2
  split at h
  ·rename_i y e1
   split at h
   ·rename_i c ec
    cases h
    refine ⟨rfl,fun k=> ?_⟩
    rw [aa6 e1,aa6 e2]
    refine ⟨c,?_,k⟩
    obtain ⟨cps⟩:=y
    have:cps= #[c]:=by rw [← Array.toArray_toList (xs:=cps),ec]
    rw [this]
   ·cases h
  ·cases h
 ·rename_i xs e;exact go xs (ajj e) h
 ·rename_i xs e;exact go xs (aoa e) h
 ·cases h
/-- [x] * n -/
def aD8:D→D→Option D
 | .lst xs, .int k=>if decide (-4611686018427387904≤k) && decide (k < 4611686018427387904) && decide (xs.length * k.toNat≤most) then some (.lst (List.replicate k.toNat xs).flatten) else none
 | _,_=>none
/-- is None -/
def al4:D→D→Option D
 | a, .non=>some (.bl (Ca a))
 | _,_=>none
def aCg:D→D→Option D
 | a, .non=>some (.bl (!Ca a))
 | _,_=>none
theorem aAx{η:Eta}{x:D}(h:rd η x= .non):x= .non:=by
 rcases Cv (η:=η) (x:=x) with ⟨p,o,rfl,e,q⟩ | q
 ·rw [q] at h;cases o <;> cases h
 ·rw [← q];exact h
theorem aqs{η:Eta}{x:D}:Ca (rd η x)=Ca x:=by
 rcases Cv (η:=η) (x:=x) with ⟨p,o,rfl,e,q⟩ | q
 ·rw [q];cases o <;> rfl
 ·rw [q]
theorem acF:JX aDn (op2 al4):=aa7 fun η dx dy Φ z n1 n2 h=>by
 unfold al4 at h
 split at h
 ·rename_i e;cases h;exact ⟨rfl,fun k=>⟨aAx e,by rw [aqs] at k;exact k⟩⟩
 ·cases h
theorem map_one{η:Eta}{ds:List D}{a:D}(h:ds.map (rd η)= [a]):∃x,ds= [x]∧rd η x=a:=by
 match ds,h with
 | [x],h=>exact ⟨x,rfl,by simpa using h⟩
theorem map_two{η:Eta}{ds:List D}{a b:D}(h:ds.map (rd η)= [a,b]):∃x y,ds= [x,y]∧rd η x=a∧rd η y=b:=by
 match ds,h with
 | [x,y],h=>exact ⟨x,y,rfl,by simpa using h⟩
def agM:List D→Option D
 | [.str z]=>some (.int z.length)
 | [a]=>match alj a with
  | some xs=>some (.int xs.length)
  | none=>none
 | _=>none
theorem Wx:agy aqM (Ww agM):=agI fun η ds Φ z n h=>by
 unfold agM at h
 split at h
 ·rename_i s e
  cases h
  obtain ⟨x,rfl,q⟩:=map_one e
  refine ⟨rfl,fun k=> ?_⟩
  rw [aa6 q];exact k
 ·rename_i a hn e
  obtain ⟨x,rfl,q⟩:=map_one e
  split at h
  ·rename_i xs ea
   cases h
   refine ⟨rfl,fun k=> ?_⟩
   subst q
   have q:=anS ea
   unfold aqM
   split
   ·rename_i e9;cases e9;cases q
   ·rename_i e9;cases e9;exact ⟨xs,q,k⟩
   ·rename_i e9;exact absurd rfl (e9 x)
  ·cases h
 ·cases h
def Y0:List D→Option D
 | [.int i]=>some (.int i)
 | [.bl b]=>some (.int (b2I b))
 | _=>none
theorem Ec:agy ayf (Ww Y0):=agI fun η ds Φ z n h=>by
 unfold Y0 at h
 split at h
 ·rename_i i e;cases h;obtain ⟨x,rfl,q⟩:=map_one e;exact ⟨rfl,fun k=>by rw [Vn q];exact k⟩
 ·rename_i i e;cases h;obtain ⟨x,rfl,q⟩:=map_one e;exact ⟨rfl,fun k=>by rw [aBs q];exact k⟩
 ·cases h
theorem avJ{η:Eta}{x:D}(n:JK ([x].map (rd η))=true):nr (rd η x)=true:=vZ n (by simp)
def ale:List D→Option D
 | [a]=>match alj a with
  | some xs=>some (.lst xs)
  | none=>none
 | _=>none
theorem aox:agy asW (Ww ale):=agI fun η ds Φ z n h=>by
 unfold ale at h
 split at h
 ·rename_i a e
  obtain ⟨x,rfl,q⟩:=map_one e
  split at h
  ·rename_i xs ea
   cases h
   subst q
   exact ⟨by simpa [nr] using auZ (avJ n) ea,fun k=>⟨x,xs,rfl,anS ea,k⟩⟩
  ·cases h
 ·cases h
def arA:List D→Option M
 | [a]=>match alj a with
  | some xs=>some (.lst xs)
  | none=>none
 | _=>none
def apZ:List D→Option D
 | [a]=>match alj a with
  | some xs=>some (.tup xs)
  | none=>none
 | _=>none
def aaS:List D→Option (List Bool)
 | []=>some []
 | .bl b::ds=>match aaS ds with
  | some bs=>some (b::bs)
  | none=>none
 | _=>none
theorem akG:∀ {ds:List D} {bs:List Bool},aaS ds=some bs→ds=bs.map D.bl
 | [],_,h=>by cases h;rfl
 | d::ds,bs,h=>by
  cases d with
  | bl b=>
   cases e:aaS ds with
   | none=>simp [aaS,e] at h
   | some r=>simp [aaS,e] at h;subst h;rw [akG e];rfl
  | _=>simp [aaS] at h
def intsOf:List D→Option (List Int)
 | []=>some []
 | .int b::ds=>match intsOf ds with
  | some bs=>some (b::bs)
  | none=>none
 | _=>none
/-- a function of a list's items -/
def acH{α:Type}(f:List D→Option (List α))(g:List α→Option D):List D→Option D
 | [a]=>match ahK a with
  | some xs=>match f xs with
   | some bs=>g bs
   | none=>none
  | none=>none
 | _=>none
theorem axG{α:Type}{f:List D→Option (List α)}{g:List α→Option D}{η:Eta}{ds:List D}{z:D}(h:acH f g (ds.map (rd η))=some z):∃x xs bs,ds= [x]∧asL η x=some xs∧f xs=some bs∧g bs=some z:=by
 unfold acH at h
 split at h
 ·rename_i a e
  obtain ⟨x,rfl,q⟩:=map_one e
  split at h
  ·rename_i xs ea
   split at h
   ·rename_i bs eb
    subst q
    exact ⟨x,xs,bs,rfl,auE ea,eb,h⟩
   ·cases h
  ·cases h
 ·cases h
def auj:=acH aaS fun bs=>some (.bl (bs.all id))
def aBi:=acH aaS fun bs=>some (.bl (bs.any id))
def aA3:=acH intsOf fun ns=>some (.int ns.sum)
theorem aqD:agy azj (Ww auj):=agI fun η ds Φ z n h=>by
 obtain ⟨x,xs,bs,rfl,q1,q2,q3⟩:=axG h
 cases q3
 exact ⟨rfl,fun k=>⟨x,bs,rfl,by rw [q1,akG q2],k⟩⟩
def axC:List Int→Option Int
 | []=>none
 | [a]=>some a
 | a::r=>match axC r with
  | some b=>some (max a b)
  | none=>none
def azO:List Int→Option Int
 | []=>none
 | [a]=>some a
 | a::r=>match azO r with
  | some b=>some (min a b)
  | none=>none
def awd(o:Option Int):Option D:=o.map D.int
def aw1:=acH intsOf fun ns=>awd (axC ns)
def awZ:=acH intsOf fun ns=>awd (azO ns)
def insI(a:Int):List Int→List Int
 | []=> [a]
 | b::r=>if a≤b then a::b::r else b::insI a r
def sortI:List Int→List Int
 | []=> []
 | a::r=>insI a (sortI r)
def asf:=acH intsOf fun ns=>some (.lst ((sortI ns).map D.int))
def aEJ:List D→Option D
 | [.int i]=>some (.int (if i < 0 then -i else i))
 | _=>none
def gI2(f:Int→Int→Int):List D→Option D
 | [.int i, .int j]=>some (.int (f i j))
 | _=>none
def aD6:=gI2 max
def aES:=gI2 min
def aEI:=gI2 fun i j=>((Nat.gcd i.natAbs j.natAbs:Nat):Int)
def abd:D→Option String
 | .non=>some "NoneType"
 | .bl _=>some "bool"
 | .int _=>some "int"
 | .str _=>some "str"
 | .lst _=>some "list"
 | .tup _=>some "tuple"
 | .dct _ _=>some "dict"
 | _=>none
theorem anP{η:Eta}{x:D}{t:String}(h:abd (rd η x)=some t):tyN η x=some t:=by
 rcases Cv (η:=η) (x:=x) with ⟨p,o,rfl,e,q⟩ | q
 ·rw [q] at h
  cases o with
  | lst ys=>cases h;simp [tyN,e]
  | dct _ _=>cases h;simp [tyN,e]
  | ins _ _ _=>cases h
 ·rw [q] at h
  cases x with
  | ref p=>cases h
  | obj _ _ _=>cases h
  | ty _=>cases h
  | klst _=>cases h
  | _=>exact h
def Ys:List D→Option (List String)
 | []=>some []
 | .ty b::ds=>match Ys ds with
  | some bs=>some (b::bs)
  | none=>none
 | _=>none
theorem ak7:∀ {ds:List D} {bs:List String},Ys ds=some bs→ds=bs.map D.ty
 | [],_,h=>by cases h;rfl
 | d::ds,bs,h=>by
  cases d with
  | ty b=>
   cases e:Ys ds with
   | none=>simp [Ys,e] at h
   | some r=>simp [Ys,e] at h;subst h;rw [ak7 e];rfl
  | _=>simp [Ys] at h
def aaI:List D→Option D
 | [x, .ty n]=>match abd x with
  | some a=>if rN.contains n then some (.bl (qO a n)) else none
  | none=>none
 | [x, .tup ts]=>match abd x,Ys ts with
  | some a,some ns=>if (ns.all fun n=>rN.contains n)=true then some (.bl (ns.any (qO a))) else none
  | _,_=>none
 | _=>none
theorem yr:agy avy (Ww aaI):=agI fun η ds Φ z n h=>by
 unfold aaI at h
 split at h
 ·rename_i x m e
  obtain ⟨a,b,rfl,q1,q2⟩:=map_two e
  rw [aBS q2]
  split at h
  ·rename_i t et
   split at h
   ·rename_i c
    cases h
    subst q1
    exact ⟨rfl,fun k=>⟨t,anP et,c,k⟩⟩
   ·cases h
  ·cases h
 ·rename_i x ts e
  obtain ⟨a,b,rfl,q1,q2⟩:=map_two e
  rw [adC q2]
  split at h
  ·rename_i t ns et en
   split at h
   ·rename_i c
    cases h
    subst q1
    exact ⟨rfl,fun k=>⟨t,ns,anP et,ak7 en,c,k⟩⟩
   ·cases h
  ·cases h
 ·cases h
def ae2:M→D→D→Option M
 | .lst ds, .int i,z=>match ixN ds.length i with
  | some j=>some (.lst (ds.set j z))
  | none=>none
 | _,_,_=>none
theorem Ql:apw aC2 ae2:=fun η p dy y m m' Φ hp n nz h=>by
 cases m with
 | ins _ _ _=>cases h
 | dct _ _=>cases h
 | lst ds=>
  cases ei:rd η dy with
  | int i=>
   rw [ei] at h
   have h:(match ixN ds.length i with
    | some j=>some (M.lst (ds.set j y))
    | none=>none)=some m':=h
   split at h
   ·rename_i j ej
    cases h
    have n:JK ds=true:=by simpa [nrM,mD,nr] using n
    refine ⟨?_,fun k=>⟨p,i,ds,j,rfl,Vn ei,hp,ej,k⟩⟩
    show JK (ds.set j y)=true
    exact Vm fun d hd=>by
     rcases List.mem_or_eq_of_mem_set hd with h | h
     ·exact vZ n h
     ·rw [h];exact nz
   ·cases h
  | _=>rw [ei] at h;cases h
end DL
end
section
namespace DL
open PySem PySem.Spec PyProof.Rows L2
section
variable {P:Program}{w:World}{K:PySem.W.Frag}{mg:Str→Option Value}{base:Heap}{x qual:Str}{params:Arguments}{body:List Stmt}{scope:Scope}{dvs:List V}{kws ms:List (Str × V)}{f:Addr}{fd:FuncData}{N ps ks:List Str}{n j k:Nat}{idx:List Nat}{c:Ct}
/-- keyword-only defaults that lack -/
theorem KBD.kw(F:FunD K x qual params body scope [] kws f fd)(hk:kws≠ [])(hms:∀q ∈ ms,q ∈ kws)
  (h:∀(D:Addr) (doc pm:Value) (an:Option Addr) (cdv ct:Value) (us mv ws:List Value),us.length=n→mv.length=ms.length→ws.length=ks.length→
   KwChain D ((ms.map (·.1)).zip mv) (bindArgs (PySem.W.fnOf x qual params body scope .none (.ref D) doc pm an cdv ct) ⟨us,ks.zip ws⟩) (ps.zip (pick idx (us ++ (ws ++ mv))))):KBD K fd ps n ks idx (ms.map (·.2)):=by
 obtain ⟨oc,od,dV,kV,doc,pm,an,cdv,ct,osl,rfl,lk,hcd,hD,hK⟩:=F.ex
 rcases hD with ⟨_,rfl⟩ | ⟨e,_⟩
 ·rcases hK with e | ⟨D,rfl,hq⟩
  ·exact absurd e hk
  ·obtain ⟨mv,hl,rk,hks⟩:=kwd_vals (ms:=ms) fun q hm=>hq q (hms q hm)
   exact ⟨mv,rk,fun s us ws X l1 l2=>BindsTo.of_looks fun M=>KwChain.looks X hks (h D doc pm an cdv ct us mv ws l1 hl l2)⟩
 ·exact absurd rfl e
/-- defaults behind the first j lack -/
theorem KBD.pos(F:FunD K x qual params body scope dvs kws f fd)(hd:dvs≠ [])
  (h:∀(T:Addr) (kV doc pm:Value) (an:Option Addr) (cdv ct:Value) (us its ws:List Value),us.length=n→its.length=dvs.length→ws.length=ks.length→
   ∃q,bindArgs (PySem.W.fnOf x qual params body scope (.ref T) kV doc pm an cdv ct) ⟨us,ks.zip ws⟩=seqItems? (.ref T) >>=q∧q (some its.toArray)=pure (ps.zip (pick idx (us ++ (ws ++ its.drop j))))):KBD K fd ps n ks idx (dvs.drop j):=by
 obtain ⟨oc,od,dV,kV,doc,pm,an,cdv,ct,osl,rfl,lk,hcd,hD,hK⟩:=F.ex
 rcases hD with ⟨e,_⟩ | ⟨_,T,o,its,m,rfl,lT,oT,rT⟩
 ·exact absurd e hd
 ·refine ⟨its.drop j,rT.drop j,fun s us ws X l1 l2=>BindsTo.of_looks fun M=> ?_⟩
  obtain ⟨q,e1,e2⟩:=h T kV doc pm an cdv ct us its ws l1 rT.length.symm l2
  rw [e1]
  exact looks_items X lT oT (.of_pure e2)
/-- nothing lacks -/
theorem KBD.all(F:FunD K x qual params body scope [] kws f fd)(h:∀(kV doc pm:Value) (an:Option Addr) (cdv ct:Value) (us ws:List Value),us.length=n→ws.length=ks.length→bindArgs (PySem.W.fnOf x qual params body scope .none kV doc pm an cdv ct) ⟨us,ks.zip ws⟩=pure (ps.zip (pick idx (us ++ (ws ++ []))))):KBD K fd ps n ks idx []:=by
 obtain ⟨oc,od,dV,kV,doc,pm,an,cdv,ct,osl,rfl,lk,hcd,hD,hK⟩:=F.ex
 rcases hD with ⟨_,rfl⟩ | ⟨e,_⟩
 ·exact KBD.of0 fun us ws=>h kV doc pm an cdv ct us ws
 ·exact absurd rfl e
end
end DL
end
section
namespace DL
open PySem PySem.Spec PyProof.Rows L2
def awQ:D→D→Option D
 | .dct ks ds,y=>match keyD y with
  | some k=>acL ks ds k
  | none=>none
 | _,_=>none
def agt:D→D→Option D
 | .dct ks ds,y=>match keyD y with
  | some k=>some ((acL ks ds k).getD .non)
  | none=>none
 | _,_=>none
/-- d.get(k),the key a plain value -/
def aCy(fo fe:FE):FE:=fun fs=>(fo fs).bind fun v fs1=>match v9 fs1 v with
 | some (.dct _ _)=>(fe fs1).bind fun w fs2=>op2 agt fs2 v w
 | _=> .bad
def aEP(neg:Bool):D→D→Option D
 | .bl a, .bl b=>some (.bl (cond neg (!decide (a=b)) (decide (a=b))))
 | _,_=>none
def aCb:D→D→Option D
 | .tup xs, .int k=>if (decide (xs≠ []) && decide (2≤k) && decide (k≤1000) && decide (xs.length≤1000))=true then some (.tup (List.replicate k.toNat xs).flatten) else none
 | _,_=>none
/-- {} -/
def aBK:FE:=fun fs=> .ok (.f (.dct [] [])) fs
def keyOk:Key→Bool
 | .inl _=>true
 | .inr x=>PyData.strOk x && decide (x.length≤1000)
end DL
end
section
namespace DL
open PySem PySem.Spec PyProof.Rows L2
def aqS(fi:FI):FI:=fun fs=>match fi fs with
 | .ok r fs1=>if r.1.length≤1000 then .ok r fs1 else .bad
 | .ex x fs1=> .ex x fs1
 | .bad=> .bad
def aEm(fe:FE):FE:=fun fs=>(fe fs).bind fun v fs1=>match v with
 | .d x=>if (keyD x).isSome=true then .ok (.d x) fs1 else .bad
 | _=> .bad
end DL
end
section
namespace DL
open PySem PySem.Spec PyProof.Rows L2
section
variable {da:DE}{fa:FE}{dr:DA}{fr:FA}
def aBJ(fe:FE)(fr:FA):FA:=fun fs=>(fe fs).bind fun v fs1=>match v with
 | .d (.tup xs)=>(fr fs1).bind fun vs fs2=> .ok (xs.map .d ++ vs) fs2
 | _=> .bad
end
end DL
end
section
namespace DL
open PySem PySem.Spec PyProof.Rows L2
def aD9(fi:FI)(g:FG)(ft:FT)(fe:FE)(vs:List Nat):FE:=fun fs=>(fLc fi g ft fe vs fs).bind fun v fs1=>match v with
 | .d (.lst xs)=> .ok (.f (.lst xs)) fs1
 | _=> .bad
end DL
end
section
namespace DL
open PySem PySem.Spec PyProof.Rows L2
section
variable {dr:DA}{fr:FA}
def aD4(fr:FA):FI:=fun fs=>(fr fs).bind fun vs fs1=>match vs with
 | [.d (.tup xs), .d (.lst ys)]=> .ok (pairs xs ys,none) fs1
 | [.d (.tup xs), .s k]=>match yt fs1 k with
  | some (.lst ys)=> .ok (pairs xs ys,some (k, .lst ys)) fs1
  | _=> .bad
 | _=> .bad
end
end DL
end
section
namespace DL
open PySem PySem.Spec PyProof.Rows L2
def sFldAug(cs:List Addr)(f:Str)(g:Int→Int→Int)(fo fe:FE):Gq:=fun fs=>(fo fs).thn fun v fs1=>match v with
 | .s k=>match fs1[k]? with
  | some (some (.m _ (.ins C ns es)))=>if cs.contains C=true then match lkp ns es f with
   | some (.int i)=>(fe fs1).thn fun y fs2=>match y with
    | .d (.int j)=>match fs2[k]? with
     | some (some (.m pr (.ins C' ns' es')))=>if C'=C∧ns'.length < 1000 then .nx (fs2.set k (some (.m pr (.ins C (putN ns' f) (putD ns' es' f (.int (g i j))))))) else .bad
     | _=> .bad
    | _=> .bad
   | _=> .bad
   else .bad
  | _=> .bad
 | _=> .bad
def fMA(g:Str→List D→Option D)(fo:FE)(fr:FA):FE:=fun fs=>(fo fs).bind fun v fs1=>match v with
 | .d (.str z)=>(fr fs1).bind fun vs fs2=>match QC fs2 vs with
  | some as=>match g z as with
   | some r=> .ok (.d r) fs2
   | none=> .bad
  | none=> .bad
 | _=> .bad
def aEO(a:Str):List D→Option D
 | [.str b, .int i]=>some (.bl (Txt.startswith3 a b i))
 | _=>none
def axc:List D→Option D
 | [.int i]=>if (decide (-1000000000 < i) && decide (i < 1000000000))=true then some (.str (toString i)) else none
 | [.str a]=>some (.str a)
 | _=>none
def aEL(fe:FE):FE:=fun fs=>(fe fs).bind fun v fs1=>match v with
 | .d (.str y)=> .ok (.d (.str y)) fs1
 | .d (.int i)=>if (decide (-1000000000 < i) && decide (i < 1000000000))=true then .ok (.d (.str (toString i))) fs1 else .bad
 | _=> .bad
def fJs:List FE→Str→FS→Rs Str
 | [],acc=>fun fs=> .ok acc fs
 | t::ts,acc=>fun fs=>(t fs).bind fun v fs1=>match v with
  | .d (.str y)=>if (acc ++ y).length≤most then fJs ts (acc ++ y) fs1 else .bad
  | _=> .bad
def fJ(ts:List FE):FE:=fun fs=>(fJs ts Str.empty fs).bind fun out fs1=> .ok (.d (.str out)) fs1
end DL
end
section
namespace DL
open PySem PySem.Spec PyProof.Rows L2
def arP(fk fv:FE):FE:=fun fs=>(fk fs).bind fun y fs1=>(fv fs1).bind fun z fs2=>match y,z with
 | .d a, .d b=>if (keyD a).isSome=true then .ok (.d (.tup [a,b])) fs2 else .bad
 | _,_=> .bad
section
variable {dk dv de do_ df:DE}{fk fv fe fo ff:FE}{i w:Nat}{vs ws:List Nat}{di:DI}{fi:FI}{dg:DG}{g:FG}{dt:DT}{ft:FT}{da:DA}{fa:FA}
def aBR(fo:FE)(fr:FA):FE:=fun fs=>(fo fs).bind fun v fs1=>if agP fs1 v=true then (fr fs1).bind fun vs fs2=>match v,vs with
 | .s k,[.d (.lst ys)]=>match fs2[k]? with
  | some (some (.m pr (.lst xs)))=>if xs.length + ys.length < most then .ok (.d .non) (fs2.set k (some (.m pr (.lst (xs ++ ys))))) else .bad
  | _=> .bad
 | _,_=> .bad else .bad
def aEv(fo fe ff:FE):FE:=fun fs=>(fo fs).bind fun v fs1=>match v with
 | .d (.dct ks ds)=>(fe fs1).bind fun y fs2=>(ff fs2).bind fun z fs3=>match y,z with
  | .d a, .d b=>match keyD a with
   | some k=> .ok (.d ((acL ks ds k).getD b)) fs3
   | none=> .bad
  | _,_=> .bad
 | _=> .bad
end
end DL
end
section
namespace DL
open PySem PySem.Spec PyProof.Rows L2
def fIK(fe:FE):FI:=fun fs=>(fe fs).bind fun v fs1=>match v with
 | .d (.dct ks _)=>if ks.all keyOk=true then .ok (ks.map kD,none) fs1 else .bad
 | _=> .bad
end DL
end
section
namespace DL
open PySem PySem.Spec PyProof.Rows L2
def aa9:List (FE × FE)→FS→Rs (List D)
 | [],fs=> .ok [] fs
 | (fk,fv)::r,fs=>(arP fk fv fs).bind fun v fs1=>match v with
  | .d p=>(aa9 r fs1).bind fun ps fs2=> .ok (p::ps) fs2
  | _=> .bad
def aCC(frs:List (FE × FE)):FE:=fun fs=>(aa9 frs fs).bind fun ps fs1=>if ps.length≤15 then .ok (.d (.dct (akJ ps ([],[])).1 (akJ ps ([],[])).2)) fs1 else .bad
end DL
end
section
namespace DL
open PySem PySem.Spec PyProof.Rows L2
section
variable {C:Addr}{nm f:Str}{de:DE}{fe:FE}{K:PySem.W.Frag}
def ajg(C:Addr)(nm f:Str):Rs FV→O:=fun r=>r.thn fun v fs1=>match v with
 | .d x=> .ex (.exc C [f,"code"] [x, .str nm]) fs1
 | _=> .bad
def auD(C:Addr)(nm f:Str)(fe:FE):Gq:=fun fs=>ajg C nm f (fe fs)
def auG(C:Addr)(nm:Str):Gq:=fun fs=> .ex (.exc C ["code"] [.str nm]) fs
def xfG(cs:List Addr)(f:Str):Option D→Option D
 | some (.exc C ns ds)=>if cs.contains C then lkp ns ds f else none
 | _=>none
def fXf(cs:List Addr)(f:Str)(fe:FE):FE:=fun fs=>(fe fs).bind fun v fs1=>match xfG cs f (v9 fs1 v) with
 | some d=> .ok (.d d) fs1
 | none=> .bad
theorem axK{cs:List Addr}{x:Option D}{d:D}(h:xfG cs f x=some d):∃C ns ds,x=some (.exc C ns ds)∧C ∈ cs∧lkp ns ds f=some d:=by
 unfold xfG at h
 split at h
 ·rename_i C ns ds
  split at h
  ·rename_i q;exact ⟨C,ns,ds,rfl,by simpa using q,h⟩
  ·cases h
 ·cases h
theorem azG{f:Str}{d:D}:∀ {ns:List Str} {ds:List D},JK ds=true→lkp ns ds f=some d→nr d=true:=by
 intro ns ds n h
 have key:∀ {ns:List Str} {ds:List D},lkp ns ds f=some d→d ∈ ds:=by
  intro ns
  induction ns with
  | nil=>intro ds h;cases ds <;> simp [lkp] at h
  | cons a ns ih=>
   intro ds h
   cases ds with
   | nil=>simp [lkp] at h
   | cons e ds=>
    simp only [lkp] at h
    split at h
    ·cases h;exact List.mem_cons_self
    ·exact List.mem_cons_of_mem _ (ih h)
 exact vZ n (key h)
theorem as8{η:Eta}{d:D}{C:Addr}{ns:List Str}{ds:List D}(h:rd η d= .exc C ns ds):d= .exc C ns ds:=by
 cases d with
 | ref p=>
  have h:(match η p with | some o=>mD o | none=>D.ref p)= .exc C ns ds:=h
  split at h
  ·rename_i o e;cases o <;> cases h
  ·cases h
 | _=>exact h
theorem GJ{cs:List Addr}(hc:∀C ∈ cs,XfC K C∧PySem.W.findIn K (.ref C) f=some none)(he:gM VR de fe):gM VR (dXf K de f) (fXf cs f fe):=fun B fs δ η Z Φ s h=>he B fs δ η Z _ s (Post.bind h fun v fs1 d1 η1 s1 r1 h1=>by
 split at h1
 ·rename_i d e
  obtain ⟨C,ns,ds,e1,hC,hl⟩:=axK e
  obtain ⟨q1,q2⟩:=r1.rd s1 e1
  have n:=azG (show JK ds=true from q2) hl
  exact ⟨C,ns,ds,d,as8 q1,(hc C hC).1,(hc C hC).2,hl,h1 d η1 s1 ⟨rfl,n⟩⟩
 ·exact h1.elim)
def ap3(vc:D)(s:FS):Rm→Rs FV
 | .ok (.d vf) [.d _]=> .ok (.d (.tup [vc,vf])) s
 | _=> .bad
def aq9(mff:MF)(x:D)(s:FS):Option D→Rs FV
 | some vc=>ap3 vc s (mff [.d x])
 | none=> .bad
def avO(cs:List Addr)(mff:MF):Rs FV→Rs FV
 | .ok (.d v) s=> .ok (.d (.tup [.str "",v])) s
 | .ex x s=>aq9 mff x s (xfG cs "code" (some x))
 | _=> .bad
def aA1(cs:List Addr)(mff:MF)(fe:FE):FE:=fun fs=>avO cs mff (fe fs)
end
end DL
end
section
namespace DL
open PySem PySem.Spec PyProof.Rows L2
def apS:DR2:=fun x y η Φ=> ∃a b,asL η x=some a∧asL η y=some b∧a.length + b.length≤sizeLine∧∀p,η p=none→Φ (.ref p) (Ka η p (.lst (a ++ b)))
section
variable {X:Cx}{E:XK}{K:PySem.W.Frag}
theorem auN:OpD X (binaryOp .Add) (ain X.K) apS:=⟨anG,fun R η H x y dx dy Φ Q l rx ry h k=>by
 obtain ⟨a,b,ha,hb,hl,h⟩:=h
 obtain ⟨p,xs,rfl,h1,h2⟩:=adz l rx ha
 obtain ⟨q,ys,rfl,h3,h4⟩:=adz l ry hb
 exact .inl (.inr ⟨p,q,xs,ys,rfl,rfl,h1,h3,by rw [h2.length,h4.length];exact hl,apq l (h2.append h4) h k⟩)⟩
theorem anU(hK:X.K=K):OpD X (binaryOp .Add) (ain K) apS:=by subst hK;exact auN
end
def aDX(n:Nat)(gs:FGs):FG:=fun v fs=>match v with
 | .d (.lst xs)=>if xs.length=n then gs xs fs else none
 | _=>none
theorem aCV{n:Nat}{gs:FGs}{xs:List D}{fs:FS}:aDX n gs (.d (.lst xs)) fs=if xs.length=n then gs xs fs else none:=rfl
def aiq:D→D→Option (List D)
 | .lst a, .lst b=>if a.length + b.length≤most then some (a ++ b) else none
 | _,_=>none
def ant(fs:FS):Option (List D)→Rs FV
 | some z=> .ok (.f (.lst z)) fs
 | none=> .bad
def alc:FO2:=fun fs x y=>match v9 fs x,v9 fs y with
 | some a,some b=>ant fs (aiq a b)
 | _,_=> .bad
theorem aiu:JX apS alc:=fun B fs δ η x y dx dy Z Φ s rx ry q=>by
 unfold alc at q
 split at q
 ·rename_i a b ea eb
  obtain ⟨h1,n1⟩:=rx.rd s ea
  obtain ⟨h2,n2⟩:=ry.rd s eb
  cases ez:aiq a b with
  | none=>rw [ez] at q;exact q.elim
  | some z=>
   rw [ez] at q
   have q:Post B δ VR (.ok (.f (.lst z)) fs) Z Φ:=q
   unfold aiq at ez
   split at ez
   ·rename_i a b
    split at ez
    ·rename_i l
     cases ez
     refine ⟨a,b,adA h1,adA h2,U7 l,fun p hp=> ?_⟩
     have n:nrM (.lst (a ++ b)):=by simpa [nrM,mD,nr] using acB (by simpa [nr] using n1) (by simpa [nr] using n2)
     exact q (.ref p) _ (s.new hp) (VR.new s hp n)
    ·cases ez
   ·cases ez
 ·exact q.elim
def awV(s:FS)(x:Option D)(y:Option D):Rs FV:=match x,y with
 | some a,some b=>ant s (aiq a b)
 | _,_=> .bad
theorem aum{s:FS}{x y:FV}:alc s x y=awV s (v9 s x) (v9 s y):=rfl
theorem auk{s:FS}{a b:D}:awV s (some a) (some b)=ant s (aiq a b):=rfl
theorem auH{s:FS}{z:List D}:ant s (some z)= .ok (.f (.lst z)) s:=rfl
theorem auI{a b:List D}:aiq (.lst a) (.lst b)=if a.length + b.length≤most then some (a ++ b) else none:=rfl
def apd(i:Nat)(f:Gq)(fs:FS):Option (Option Sv)→O
 | some (some (.m false (.dct ks ds)))=>f (fs.set i (some (.d (.dct ks ds))))
 | _=> .bad
def aEs(i:Nat)(f:Gq):Gq:=fun fs=>apd i f fs fs[i]?
theorem aCj{s:FS}{i:Nat}{f:Gq}:aEs i f s=apd i f s s[i]? :=rfl
theorem axD{s:FS}{i:Nat}{f:Gq}{ks:List Key}{ds:List D}:apd i f s (some (some (.m false (.dct ks ds))))=f (s.set i (some (.d (.dct ks ds)))):=rfl
end DL
end
section
namespace DL
open PySem PySem.Spec PyProof.Rows L2
/-- C(k=e) -/
def awK(C:Addr)(nm f:Str)(dk:DA):DE:=fun Z δ η Φ=>dk Z δ η fun ds η1=> ∃d,ds= [d]∧Φ (.exc C [f,"code"] [d, .str nm]) η1
def axb(C:Addr)(nm:Str):DE:=fun _ _ η Φ=>Φ (.exc C ["code"] [.str nm]) η
def au8(K:PySem.W.Frag)(cv:Value)(de:DE):DE:=fun Z δ η Φ=>de Z δ η fun x η1=> ∃C ns ds b,x= .exc C ns ds∧XfC K C∧IsO K C∧PySem.W.kitOne K (.ref C) cv=some b∧Φ (.bl b) η1
section
variable {K:PySem.W.Frag}{R:Addr→Prop}{η:Eta}{H H':Hp}{a C:Addr}{fs:List (Str × V)}{ns:List Str}{ds:List D}
theorem ak5(l:Lk K R η H)(ha:H a=none)(st:EXX.Stored C a fs (upd H a (exo a C none)) H')(hn:fs.map (·.1)=ns)(hr:bJ K R η H (fs.map (·.2)) ds):
  ∃d,H' a=some (exo a C (some d))∧H' d=some (exd d fs)∧d≠a∧Lk K R η (upd (upd H' d (.xd fs)) a (Exv C d a))∧Ext η H η (upd (upd H' d (.xd fs)) a (Exv C d a))∧Rep K R η (upd (upd H' d (.xd fs)) a (Exv C d a)) (.ref a) (.exc C ns ds):=by
 obtain ⟨kp,d,hd,da,h1,h2⟩:=st
 rw [upd_ne da] at hd
 have up:∀b o,H b=some o→upd (upd H' d (.xd fs)) a (Exv C d a) b=some o:=fun b o q=>by
  have nb:b≠a:=ne_of_none q ha
  rw [upd_ne nb,upd_ne (ne_of_none q hd)]
  exact kp b o nb (by rw [upd_ne nb];exact q)
 refine ⟨d,h1,h2,da,l.ex up,Ext.ex up, .exc ⟨upd_same,l.free ha,l.nr ha,?_,l.free hd,l.nr hd⟩ hn (hr.up (Ext.ex up))⟩
 rw [upd_ne da,upd_same]
end
section
variable {X:Cx}{E:XK}{B newId initId:String}{bmB:List Value}{x nm f:Str}{C fI:Addr}{k:Nat}{fd:FuncData}{p pos:Pos}{kws:List Keyword}{tk:TA}{dk:DA}
theorem qQ(T:EXX.OexG X.K B newId initId bmB C)(iC:PySem.W.findIn X.K (.ref C) "__init__" =some (some (.ref fI)))(tI:PySem.W.typeIn X.K (.ref fI)=some (.type "function"))
  (F1:FnOk X.prog X.w X.K X.mg X.base (L2.CX X.prog X.w) k fI fd ["self",f] (EXX.spX1 C nm f))(hr:Room (k + 1) X.A)(hb:KB X.K fd ["self",f] 1 [f] [0,1])(hg:Gl X x)(hm:X.mg x=some (.ref C))(hn:SOk nm)(hkw:PDK X E kws tk dk)
  (hall:(backToKw pos (keywordEach kws X.env)).all (·.1.isSome)=true:=by rfl)(hks:(backToKw pos (keywordEach kws X.env)).filterMap (·.1)= [f]:=by rfl)(hdb:(x==("__debug__" :Str))=false:=by decide)
  (hpl:((backTo pos (starEach [] X.env)).any (·.1) || (backToKw pos (keywordEach kws X.env)).any (·.1.isNone))=false:=by rfl):PD X E (.Call (.Name x p) [] kws pos) (EXX.tMkV C (EXX.spX1 C nm f) [0,1] 1 tk) (awK C nm f dk):=by
 refine ⟨EXX.pe_mkV T iC tI F1 hr hb hg hm hkw.pk hall hks hdb hpl,fun R σ H δ η Z Φ Q l s h kn=> ?_⟩
 refine hkw.so R σ H δ η Z _ _ l s h (kn.to fun vs ds H1 η1 l1 x1 r1 h1=> ?_)
 obtain ⟨d,rfl,h1⟩:=h1
 cases r1 with
 | @cons v _ _ _ r1 r2=>
  cases r2
  refine ⟨rfl,fun a ha=>⟨a,v,rfl,upd_same,fun H' st=> ?_⟩⟩
  obtain ⟨dd,e1,e2,e3,l2,x2,rr⟩:=ak5 (ns:= [f,"code"]) (ds:= [d, .str nm]) l1 ha st rfl (.cons r1 (.cons (.str hn) .nil))
  exact ⟨rfl,dd,_,e1,e2,e3,kn.ok _ _ _ η1 l2 (x1.trans x2) rr h1⟩
theorem ai6(T:EXX.OexG X.K B newId initId bmB C)(iC:PySem.W.findIn X.K (.ref C) "__init__" =some (some (.ref fI)))(tI:PySem.W.typeIn X.K (.ref fI)=some (.type "function"))
  (F1:FnOk X.prog X.w X.K X.mg X.base (L2.CX X.prog X.w) k fI fd ["self"] (EXX.spX0 C nm))(hr:Room (k + 1) X.A)(hb:KB X.K fd ["self"] 1 [] [0])(hg:Gl X x)(hm:X.mg x=some (.ref C))(hn:SOk nm)
  (hdb:(x==("__debug__" :Str))=false:=by decide):PD X E (.Call (.Name x p) [] [] pos) (EXX.tMkV C (EXX.spX0 C nm) [0] 0 tNil) (axb C nm):=by
 refine ⟨EXX.pe_mkV T iC tI F1 hr hb hg hm pk_nil rfl rfl hdb rfl,fun R σ H δ η Z Φ Q l s h kn=> ?_⟩
 refine ⟨rfl,fun a ha=>⟨a,rfl,upd_same,fun H' st=> ?_⟩⟩
 obtain ⟨dd,e1,e2,e3,l2,x2,rr⟩:=ak5 (ns:= ["code"]) (ds:= [.str nm]) l ha st rfl (.cons (.str hn) .nil)
 exact ⟨rfl,dd,_,e1,e2,e3,kn.ok _ _ _ η l2 x2 rr h⟩
end
section
variable {X:Cx}{E:XK}{e:Expr}{te:TE}{de:DE}{p1 p2 q1:Pos}{c:Str}{C:Addr}{T:String}
theorem asp{cv:Value}{v:V}(hc:∀u,RelV v u→u=cv)(he:PD X E e te de):j8 X.K E (Rep X.K) (tCB (EXX.rIsX X.K) (tCons te (tCons (tC v) tNil))) (au8 X.K cv de):=fun R σ H δ η Z Φ Q l s h k=>by
 refine he.so R σ H δ η Z _ _ l s h (k.to fun v1 d1 H1 η1 l1 e1 r1 h1=> ?_)
 obtain ⟨C,ns,ds,b,rfl,t1,t2,t3,h1⟩:=h1
 cases r1 with
 | @exc a _ dd fs _ _ x hn hr=>exact ⟨a,C,dd,v,cv,b,fs,rfl,x.at_,x.dat,t1,t2,hc,t3,k.ok _ _ H1 η1 l1 e1 (.bl b) h1⟩
theorem jU(hg:Gl X "isinstance")(hm:X.mg "isinstance" =none)(hx:Gl X c)(hc:X.mg c=some (.ref C))(he:PD X E e te de)
  (hs:starEach [e, .Name c p2] X.env=(false,eval e X.env)::starEach [.Name c p2] X.env:=by rfl)(hs2:starEach [.Name c p2] X.env=(false,eval (.Name c p2) X.env)::starEach [] X.env:=by rfl)(hpl:(backTo q1 (starEach [.Name c p2] X.env)).any (·.1)=false:=by rfl)(hdb:(c==("__debug__" :Str))=false:=by decide):
  PD X E (.Call (.Name "isinstance" p1) [e, .Name c p2] [] q1) (tCB (EXX.rIsX X.K) (tCons te (tCons (tC (.ref C)) tNil))) (au8 X.K (.ref C) de):=
 ⟨pe_callB EXX.call_isX hg hm (by decide +kernel) (pa_cons he.pe (pa_cons (at6 (E:=E) (v:= .ref C) (d:= .ref C) hx hc rfl (fun _ _ _=> .ref _) hdb).pe pa_nil hs2) hs) (by decide) (by decide) hs hpl,asp (fun u r=>r) he⟩
theorem aiY(hg:Gl X "isinstance")(hm:X.mg "isinstance" =none)(hx:Gl X c)(hc:X.mg c=none)(hv:bootBuiltins c=some (.type T))(he:PD X E e te de)
  (hs:starEach [e, .Name c p2] X.env=(false,eval e X.env)::starEach [.Name c p2] X.env:=by rfl)(hs2:starEach [.Name c p2] X.env=(false,eval (.Name c p2) X.env)::starEach [] X.env:=by rfl)(hpl:(backTo q1 (starEach [.Name c p2] X.env)).any (·.1)=false:=by rfl)(hn:c≠"__name__" :=by decide)(hdb:(c==("__debug__" :Str))=false:=by decide):
  PD X E (.Call (.Name "isinstance" p1) [e, .Name c p2] [] q1) (tCB (EXX.rIsX X.K) (tCons te (tCons (tC (.ty T)) tNil))) (au8 X.K (.type T) de):=
 ⟨pe_callB EXX.call_isX hg hm (by decide +kernel) (pa_cons he.pe (pa_cons (zU (E:=E) hx hc hv hn hdb).pe pa_nil hs2) hs) (by decide) (by decide) hs hpl,asp (fun u r=>r) he⟩
/-- the field of an exception within a comprehension:the table by its name -/
theorem v8{K:PySem.W.Frag}{f:Str}{pos:Pos}(hk:X.K=K)(he:PD X E e te de)(hb:attributeBase e f X.env (eval e X.env)=eval e X.env:=by rfl):PD X E (.Attribute e f pos) (EXX.tXv K f te) (dXf K de f):=by
 subst hk;exact auq he hb
end
section
variable {C:Addr}{nm f:Str}{de:DE}{fe:FE}{dk:DA}{fk:FA}{K:PySem.W.Frag}{cv:Value}
def Cg(C:Addr)(nm f:Str)(fk:FA):FE:=fun fs=>(fk fs).bind fun vs fs1=>match vs with
 | [.d x]=> .ok (.d (.exc C [f,"code"] [x, .str nm])) fs1
 | _=> .bad
theorem j9(hk:gM Vj dk fk):gM VR (awK C nm f dk) (Cg C nm f fk):=fun B fs δ η Z Φ s h=>hk B fs δ η Z _ s (Post.bind h fun vs fs1 ds1 η1 s1 r1 h1=>by
 split at h1
 ·rename_i x
  obtain ⟨d,rfl,rfl,n⟩:=r1.single
  exact ⟨_,rfl,h1 _ η1 s1 ⟨rfl,by simp [nr,JK,n]⟩⟩
 ·exact h1.elim)
def anr(C:Addr)(nm:Str):FE:=fun fs=> .ok (.d (.exc C ["code"] [.str nm])) fs
theorem agr:gM VR (axb C nm) (anr C nm):=fun B fs δ η Z Φ s h=>h _ η s ⟨rfl,rfl⟩
/-- which classes are asked,and what the answer is -/
def aCA(tb:List (Addr × Bool)):Option D→Option Bool
 | some (.exc C _ _)=>tb.lookup C
 | _=>none
def Ef(tb:List (Addr × Bool))(fe:FE):FE:=fun fs=>(fe fs).bind fun v fs1=>match aCA tb (v9 fs1 v) with
 | some b=> .ok (.d (.bl b)) fs1
 | none=> .bad
theorem akI:∀ {tb:List (Addr × Bool)} {C:Addr} {b:Bool},tb.lookup C=some b→(C,b) ∈ tb
 | (a,c)::tb,C,b,h=>by
  rw [List.lookup_cons] at h
  split at h
  ·rename_i q
   cases h
   rw [beq_iff_eq.mp q];exact List.mem_cons_self
  ·exact List.mem_cons_of_mem _ (akI h)
theorem iw{tb:List (Addr × Bool)}(hc:∀p ∈ tb,(XfC K p.1∧IsO K p.1)∧PySem.W.kitOne K (.ref p.1) cv=some p.2)(he:gM VR de fe):gM VR (au8 K cv de) (Ef tb fe):=fun B fs δ η Z Φ s h=>he B fs δ η Z _ s (Post.bind h fun v fs1 d1 η1 s1 r1 h1=>by
 split at h1
 ·rename_i b e
  unfold aCA at e
  split at e
  ·rename_i C ns ds e2
   obtain ⟨q1,q2⟩:=r1.rd s1 e2
   obtain ⟨⟨t1,t2⟩,t3⟩:=hc _ (akI e)
   exact ⟨C,ns,ds,b,as8 q1,t1,t2,t3,h1 _ η1 s1 ⟨rfl,rfl⟩⟩
  ·cases e
 ·exact h1.elim)
/-- the facts of a table -/
theorem auV{l:List (Addr × Bool)}(h1:∀p ∈ l,XfC K p.1∧IsO K p.1)(h2:(l.all fun p=>decide (PySem.W.kitOne K (.ref p.1) cv=some p.2))=true):∀p ∈ l,(XfC K p.1∧IsO K p.1)∧PySem.W.kitOne K (.ref p.1) cv=some p.2:=fun p hp=>⟨h1 p hp,of_decide_eq_true (List.all_eq_true.mp h2 p hp)⟩
theorem fU{cs:List Addr}{bs:List Bool}(h1:∀C ∈ cs,XfC K C∧IsO K C)(h2:((cs.zip bs).all fun p=>decide (PySem.W.kitOne K (.ref p.1) cv=some p.2))=true):∀p ∈ cs.zip bs,(XfC K p.1∧IsO K p.1)∧PySem.W.kitOne K (.ref p.1) cv=some p.2:=auV (fun p hp=>h1 p.1 (List.of_mem_zip hp).1) h2
end
end DL
end
section
namespace DL
open PySem PySem.Spec PyProof.Rows L2
section
variable {s fs:FS}{fe fa fb fc fo:FE}{ft fu:FT}{fr fk:FA}{fl fh:FO}{f g:Gq}{o o':FO2}{fon:FOn}{i j n m k:Nat}{x y z d:D}{v w:FV}{vs ws:List FV}{xs ys:List D}{mf:MF}{as:List Ar}{b c:Bool}{pr:Bool}{mo:M}{C:Addr}{ns:List Str}{fn:Str}
def apE(i:Nat)(s:FS):Option (Option Sv)→Rs FV
 | some (some (.d x))=> .ok (.d x) s
 | some (some (.m _ _))=> .ok (.s i) s
 | some (some (.l _))=> .ok (.s i) s
 | _=> .bad
theorem aDy:fVar i s=apE i s s[i]? :=by unfold fVar apE;rfl
theorem avZ:apE i s (some (some (.d x)))= .ok (.d x) s:=rfl
theorem auA:apE i s (some (some (.m pr mo)))= .ok (.s i) s:=rfl
theorem avc:apE i s (some (some (.l mo)))= .ok (.s i) s:=rfl
theorem c_c:fC d s= .ok (.d d) s:=rfl
def aBD(o:FO2)(fb:FE):Rs FV→Rs FV:=fun r=>r.bind fun x s1=>(fb s1).bind fun y s2=>o s2 x y
def aBZ(o:FO2)(x:FV):Rs FV→Rs FV:=fun r=>r.bind fun y s2=>o s2 x y
theorem aEf:tU o fa fb s=aBD o fb (fa s):=rfl
theorem aDi:aBD o fb (.ok v s)=aBZ o v (fb s):=rfl
theorem aAU:aBZ o v (.ok w s)=o s v w:=rfl
def Qz(s:FS):Option D→Rs FV
 | some z=> .ok (.d z) s
 | none=> .bad
theorem aCa:Qz s (some z)= .ok (.d z) s:=rfl
theorem avi:Qz s none= .bad:=rfl
def kO2(g:D→D→Option D)(s:FS):Option D→Option D→Rs FV
 | some a,some b=>Qz s (g a b)
 | _,_=> .bad
theorem aEe{g:D→D→Option D}:op2 g s v w=kO2 g s (v9 s v) (v9 s w):=by
 unfold op2 kO2 Qz
 cases v9 s v <;> cases v9 s w <;> rfl
theorem aCO{g:D→D→Option D}:kO2 g s (some x) (some y)=Qz s (g x y):=rfl
theorem atF:v9 s (.d x)=some x:=rfl
theorem atQ:v9 s (.f mo)=some (mD mo):=rfl
theorem ave:v9 s (.s i)=(yt s i).map mD:=rfl
def ald:Option (Option Sv)→Option M
 | some (some (.m _ o))=>some o
 | some (some (.l o))=>some o
 | _=>none
theorem ay2:yt s i=ald s[i]? :=by unfold yt ald;rfl
theorem apb:ald (some (some (.m pr mo)))=some mo:=rfl
theorem aqg:ald (some (some (.l mo)))=some mo:=rfl
theorem ar7:ald (some (some (.d x)))=none:=rfl
theorem axP:mD (.lst xs)= .lst xs:=rfl
theorem ayV:mD (.ins C ns xs)= .obj C ns xs:=rfl
theorem azv{ks:List Key}:mD (.dct ks xs)= .dct ks xs:=rfl
def awO:Rs FV→Rs Bool:=fun r=>r.bind fun v fs1=>match v with
 | .d (.bl b)=> .ok b fs1
 | _=> .bad
theorem aAB:yq fe s=awO (fe s):=rfl
theorem aqz:awO (.ok (.d (.bl b)) s)= .ok b s:=rfl
def aBF(fu:FT):Rs Bool→Rs Bool:=fun r=>r.bind fun c fs1=>if c=true then fu fs1 else .ok false fs1
def kOr(fu:FT):Rs Bool→Rs Bool:=fun r=>r.bind fun c fs1=>if c=true then .ok true fs1 else fu fs1
def aBG:Rs Bool→Rs Bool:=fun r=>r.bind fun c fs1=> .ok (!c) fs1
theorem aDH:azR ft fu s=aBF fu (ft s):=rfl
theorem av2:aBF fu (.ok b s)=if b=true then fu s else .ok false s:=rfl
theorem aEt:fOr ft fu s=kOr fu (ft s):=rfl
theorem ayA:kOr fu (.ok b s)=if b=true then .ok true s else fu s:=rfl
theorem aA6:avq ft s=aBG (ft s):=rfl
theorem avH:aBG (.ok b s)= .ok (!b) s:=rfl
theorem aC6:aro s= .ok true s:=rfl
def aw0(fb:FE):Rs FV→Rs FV:=fun r=>r.bind fun v fs1=>match afd v with
 | some true=>fb fs1
 | some false=> .ok (.d (.bl false)) fs1
 | none=> .bad
def aCf(fb:FE):Rs FV→Rs FV:=fun r=>r.bind fun v fs1=>match afd v with
 | some false=>fb fs1
 | some true=> .ok (.d (.bl true)) fs1
 | none=> .bad
def awR:Rs FV→Rs FV:=fun r=>r.bind fun v fs1=>match afd v with
 | some b=> .ok (.d (.bl (!b))) fs1
 | none=> .bad
theorem ayM:ak3 fa fb s=aw0 fb (fa s):=rfl
theorem aq2:aw0 fb (.ok (.d (.bl b)) s)=if b=true then fb s else .ok (.d (.bl false)) s:=by cases b <;> rfl
theorem aB5:aEF fa fb s=aCf fb (fa s):=rfl
theorem avS:aCf fb (.ok (.d (.bl b)) s)=if b=true then .ok (.d (.bl true)) s else fb s:=by cases b <;> rfl
theorem azl:aDL fa s=awR (fa s):=rfl
theorem aqh:awR (.ok (.d (.bl b)) s)= .ok (.d (.bl (!b))) s:=rfl
def aCx(fa fb:FE):Rs Bool→Rs FV:=fun r=>r.bind fun c fs1=>if c=true then fa fs1 else fb fs1
theorem aCN:fIf ft fa fb s=aCx fa fb (ft s):=rfl
theorem avL:aCx fa fb (.ok b s)=if b=true then fa s else fb s:=rfl
def aB1(o':FO2)(yy:D):Rs FV→Rs FV:=fun r=>r.bind fun w fs4=>o' fs4 (.d yy) w
def aDt(o':FO2)(fc:FE)(yy:D):Rs FV→Rs FV:=fun r=>r.bind fun z fs3=>match afd z with
  | some true=>(fc fs3).bind fun w fs4=>o' fs4 (.d yy) w
  | some false=> .ok (.d (.bl false)) fs3
  | none=> .bad
def aBQ(o o':FO2)(fc:FE)(x:FV):Rs FV→Rs FV:=fun r=>r.bind fun y fs2=>match y with
 | .d yy=>(o fs2 x (.d yy)).bind fun z fs3=>match afd z with
  | some true=>(fc fs3).bind fun w fs4=>o' fs4 (.d yy) w
  | some false=> .ok (.d (.bl false)) fs3
  | none=> .bad
 | _=> .bad
def aBY(o o':FO2)(fb fc:FE):Rs FV→Rs FV:=fun r=>r.bind fun x fs1=>(fb fs1).bind fun y fs2=>match y with
 | .d yy=>(o fs2 x (.d yy)).bind fun z fs3=>match afd z with
  | some true=>(fc fs3).bind fun w fs4=>o' fs4 (.d yy) w
  | some false=> .ok (.d (.bl false)) fs3
  | none=> .bad
 | _=> .bad
theorem aEu:aAG o o' fa fb fc s=aBY o o' fb fc (fa s):=rfl
theorem aDj:aBY o o' fb fc (.ok v s)=aBQ o o' fc v (fb s):=rfl
theorem aC7:aBQ o o' fc v (.ok (.d y) s)=aDt o' fc y (o s v (.d y)):=rfl
theorem aCd:aDt o' fc y (.ok (.d (.bl b)) s)=if b=true then aB1 o' y (fc s) else .ok (.d (.bl false)) s:=by cases b <;> rfl
theorem aCF:aB1 o' y (.ok w s)=o' s (.d y) w:=rfl
def apH(fr:FA):Rs FV→Rs (List FV):=fun r=>r.bind fun v fs1=>(fr fs1).bind fun vs fs2=> .ok (v::vs) fs2
def arB(v:FV):Rs (List FV)→Rs (List FV):=fun r=>r.bind fun vs fs2=> .ok (v::vs) fs2
theorem aBg:cX s= .ok [] s:=rfl
theorem azh:aA fe fr s=apH fr (fe s):=rfl
theorem aue:apH fr (.ok v s)=arB v (fr s):=rfl
theorem atY:arB v (.ok vs s)= .ok (v::vs) s:=rfl
def kTup(s:FS):Option (List D)→Rs FV
 | some xs=>if xs.length≤most then .ok (.d (.tup xs)) s else .bad
 | none=> .bad
def as7(s:FS):Option (List D)→Rs FV
 | some xs=>if xs.length≤most then .ok (.d (.lst xs)) s else .bad
 | none=> .bad
def alb(s:FS):Option (List D)→Rs FV
 | some xs=>if xs.length≤most then .ok (.f (.lst xs)) s else .bad
 | none=> .bad
def apL:Rs (List FV)→Rs FV:=fun r=>r.bind fun vs s=>kTup s (allD vs)
def arS:Rs (List FV)→Rs FV:=fun r=>r.bind fun vs s=>as7 s (allD vs)
def amt:Rs (List FV)→Rs FV:=fun r=>r.bind fun vs s=>alb s (allD vs)
theorem aDf:Ce fr s=apL (fr s):=by
 unfold Ce apL;cases fr s with | ok vs s1=>(show (match allD vs with | some xs=>_ | none=>_)=kTup s1 (allD vs);unfold kTup;cases allD vs <;> rfl) | ex _ _=>rfl | bad=>rfl
theorem aDK:YQ fr s=arS (fr s):=by
 unfold YQ arS;cases fr s with | ok vs s1=>(show (match allD vs with | some xs=>_ | none=>_)=as7 s1 (allD vs);unfold as7;cases allD vs <;> rfl) | ex _ _=>rfl | bad=>rfl
theorem axR:akP fr s=amt (fr s):=by
 unfold akP amt;cases fr s with | ok vs s1=>(show (match allD vs with | some xs=>_ | none=>_)=alb s1 (allD vs);unfold alb;cases allD vs <;> rfl) | ex _ _=>rfl | bad=>rfl
theorem az2:apL (.ok vs s)=kTup s (allD vs):=rfl
theorem ayd:arS (.ok vs s)=as7 s (allD vs):=rfl
theorem aus:amt (.ok vs s)=alb s (allD vs):=rfl
theorem aAa:kTup s (some xs)=if xs.length≤most then .ok (.d (.tup xs)) s else .bad:=Eq.trans rfl rfl
theorem azq:as7 s (some xs)=if xs.length≤most then .ok (.d (.lst xs)) s else .bad:=Eq.trans rfl rfl
theorem aul:alb s (some xs)=if xs.length≤most then .ok (.f (.lst xs)) s else .bad:=Eq.trans rfl rfl
def agv(x:D):Option (List D)→Option (List D)
 | some xs=>some (x::xs)
 | none=>none
theorem aoo:allD []=some []:=rfl
theorem auQ:allD (.d x::vs)=agv x (allD vs):=by show (match allD vs with | some xs=>some (x::xs) | none=>none)=_;unfold agv;cases allD vs <;> rfl
theorem aEG:agv x (some xs)=some (x::xs):=rfl
theorem apm:agg s= .ok none s:=rfl
def kPart:Rs FV→Rs (Option Int):=fun r=>r.bind fun v fs1=>match v with
 | .d (.int i)=> .ok (some i) fs1
 | _=> .bad
theorem aAu:anz fe s=kPart (fe s):=rfl
theorem aqA{i:Int}:kPart (.ok (.d (.int i)) s)= .ok (some i) s:=rfl
abbrev GS:=D→Option Int→Option Int→Option D
def az0(g:GS)(v:FV)(lo:Option Int):Rs (Option Int)→Rs FV:=fun r=>r.bind fun hi s=>match v9 s v with
  | some x=>match g x lo hi with
   | some z=> .ok (.d z) s
   | none=> .bad
  | none=> .bad
def avI(g:GS)(fh:FO)(v:FV):Rs (Option Int)→Rs FV:=fun r=>r.bind fun lo fs2=>az0 g v lo (fh fs2)
def auS(g:GS)(fl fh:FO):Rs FV→Rs FV:=fun r=>r.bind fun v fs1=>match v with
 | .f _=> .bad
 | v=>avI g fh v (fl fs1)
def azo(g:GS)(lo hi:Option Int)(s:FS):Option D→Rs FV
 | some x=>Qz s (g x lo hi)
 | none=> .bad
theorem aEj{g:GS}:fSl g fe fl fh s=auS g fl fh (fe s):=by
 unfold fSl auS
 cases fe s with
 | bad=>rfl
 | ex _ _=>rfl
 | ok v s1=>cases v <;> rfl
theorem avj{g:GS}:auS g fl fh (.ok (.d x) s)=avI g fh (.d x) (fl s):=rfl
theorem avX{g:GS}:auS g fl fh (.ok (.s i) s)=avI g fh (.s i) (fl s):=rfl
theorem aB3{g:GS}{lo:Option Int}:avI g fh v (.ok lo s)=az0 g v lo (fh s):=rfl
theorem aDr{g:GS}{lo hi:Option Int}:az0 g v lo (.ok hi s)=azo g lo hi s (v9 s v):=by
 show (match v9 s v with | some x=>_ | none=>_)=_
 unfold azo Qz
 cases v9 s v <;> rfl
theorem aBC{g:GS}{lo hi:Option Int}:azo g lo hi s (some x)=Qz s (g x lo hi):=rfl
def kCB(fon:FOn):Rs (List FV)→Rs FV:=fun r=>r.bind fun vs fs1=>fon fs1 vs
theorem aEc:Y4 fon fr s=kCB fon (fr s):=rfl
theorem aB6:kCB fon (.ok vs s)=fon s vs:=rfl
def azc(g:List D→Option D)(s:FS):Option (List D)→Rs FV
 | some as=>Qz s (g as)
 | none=> .bad
theorem aDO{g:List D→Option D}:Ww g s vs=azc g s (QC s vs):=by unfold Ww azc Qz;cases QC s vs <;> rfl
theorem azn{g:List D→Option D}:azc g s (some xs)=Qz s (g xs):=rfl
def anO(s:FS):Option M→Rs FV
 | some z=> .ok (.f z) s
 | none=> .bad
theorem axr:anO s (some mo)= .ok (.f mo) s:=rfl
def azS(g:List D→Option M)(s:FS):Option (List D)→Rs FV
 | some as=>anO s (g as)
 | none=> .bad
theorem aDQ{g:List D→Option M}:opm g s vs=azS g s (QC s vs):=by unfold opm azS anO;cases QC s vs <;> rfl
theorem ayb{g:List D→Option M}:azS g s (some xs)=anO s (g xs):=rfl
def aqL(o:Option D):Option (List D)→Option (List D)
 | some xs=>match o with | some x=>some (x::xs) | none=>none
 | none=>none
theorem al6:QC s []=some []:=rfl
theorem ayJ:QC s (v::vs)=aqL (v9 s v) (QC s vs):=by
 show (match v9 s v,QC s vs with | some x,some xs=>some (x::xs) | _,_=>none)=_
 unfold aqL;cases v9 s v <;> cases QC s vs <;> rfl
theorem avl:aqL (some x) (some xs)=some (x::xs):=rfl
def kUn(g:D→Option D):Rs FV→Rs FV:=fun r=>r.bind fun v fs1=>match v9 fs1 v with
 | some x=>match g x with
  | some z=> .ok (.d z) fs1
  | none=> .bad
 | none=> .bad
def ayh(g:D→Option D)(s:FS):Option D→Rs FV
 | some x=>Qz s (g x)
 | none=> .bad
theorem aD5{g:D→Option D}:fUn g fe s=kUn g (fe s):=rfl
theorem aCn{g:D→Option D}:kUn g (.ok v s)=ayh g s (v9 s v):=by
 show (match v9 s v with | some x=>_ | none=>_)=_
 unfold ayh Qz;cases v9 s v <;> rfl
theorem aDS{g:D→Option D}:ayh g s (some x)=Qz s (g x):=rfl
abbrev GM:=D→List D→Option D
def asw(g:GM)(z:Str)(s:FS):Option D→Rs FV
 | some y=>Qz s (g (.str z) [y])
 | none=> .bad
def apC(g:GM)(z:Str):Rs FV→Rs FV:=fun r=>r.bind fun w s=>asw g z s (v9 s w)
def azz(g:GM)(fb:FE):Rs FV→Rs FV:=fun r=>r.bind fun v s=>match v with
 | .d (.str z)=>apC g z (fb s)
 | _=> .bad
theorem aEo{g:GM}:fM1 g fa fb s=azz g fb (fa s):=by
 unfold fM1 azz
 cases fa s with
 | bad=>rfl
 | ex _ _=>rfl
 | ok v s1=>
  cases v with
  | s _=>rfl
  | f _=>rfl
  | d x=>
   cases x with
   | str z=>
    show (fb s1).bind _=apC g z (fb s1)
    unfold apC
    cases fb s1 with
    | bad=>rfl
    | ex _ _=>rfl
    | ok w s2=>show (match v9 s2 w with | some y=>_ | none=>_)=asw g z s2 (v9 s2 w);unfold asw Qz;cases v9 s2 w <;> rfl
   | _=>rfl
theorem aBd{g:GM}{z:Str}:azz g fb (.ok (.d (.str z)) s)=apC g z (fb s):=rfl
theorem aDc{g:GM}{z:Str}:apC g z (.ok w s)=asw g z s (v9 s w):=rfl
theorem aB0{g:GM}{z:Str}:asw g z s (some y)=Qz s (g (.str z) [y]):=rfl
def aln(cs:List Addr)(f:Str)(s:FS):Option D→Rs FV
 | some (.obj C ns es)=>if cs.contains C then Qz s (lkp ns es f) else .bad
 | _=> .bad
def axY(cs:List Addr)(f:Str):Rs FV→Rs FV:=fun r=>r.bind fun v s=>aln cs f s (v9 s v)
theorem aDw{cs:List Addr}:aA8 cs fn fa s=axY cs fn (fa s):=by
 unfold aA8 axY
 cases fa s with
 | bad=>rfl
 | ex _ _=>rfl
 | ok v s1=>
  show (match v9 s1 v with | some (.obj C ns es)=>_ | _=>_)=aln cs fn s1 (v9 s1 v)
  unfold aln Qz
  cases v9 s1 v with
  | none=>rfl
  | some x=>cases x <;> rfl
theorem ax4{cs:List Addr}:axY cs fn (.ok v s)=aln cs fn s (v9 s v):=rfl
theorem aAz{cs:List Addr}:aln cs fn s (some (.obj C ns xs))=if cs.contains C then Qz s (lkp ns xs fn) else .bad:=rfl
def kCF:Rs (FV × List Ar)→Rs FV:=fun r=>r.bind fun r fs'=>match r.1 with
 | .s _=> .bad
 | v=> .ok v fs'
theorem aEx:BX mf s vs=kCF (Yr mf s vs):=rfl
theorem azL:kCF (.ok (.d x,as) s)= .ok (.d x) s:=rfl
theorem aAc:kCF (.ok (.f mo,as) s)= .ok (.f mo) s:=rfl
def avV(r:FV × List Ar):Option FS→Rs (FV × List Ar)
 | some s=> .ok r s
 | none=> .bad
def av1(x:D):Option FS→Rs (FV × List Ar)
 | some s=> .ex x s
 | none=> .bad
def ata(s:FS)(vs:List FV):Rm→Rs (FV × List Ar)
 | .ok v as'=>avV (v,as') (putBack s vs as')
 | .ex x as'=>av1 x (putBack s vs as')
 | .bad=> .bad
def aAe(mf:MF)(s:FS)(vs:List FV):Option (List Ar)→Rs (FV × List Ar)
 | some as=>if Xd (slotsOf vs) then ata s vs (mf as) else .bad
 | none=> .bad
theorem aEB:Yr mf s vs=aAe mf s vs (Px s vs):=by
 unfold Yr aAe
 cases Px s vs with
 | none=>rfl
 | some as=>
  dsimp only
  split
  ·unfold ata avV av1
   cases mf as with
   | ok v as'=>(try dsimp only) <;> (cases putBack s vs as' <;> rfl)
   | ex v as'=>(try dsimp only) <;> (cases putBack s vs as' <;> rfl)
   | bad=>rfl
  ·rfl
theorem aCh:aAe mf s vs (some as)=if Xd (slotsOf vs) then ata s vs (mf as) else .bad:=rfl
theorem aCW:ata s vs (.ok v as)=avV (v,as) (putBack s vs as):=rfl
theorem aAY{r:FV × List Ar}:avV r (some s)= .ok r s:=rfl
def kNX:Rm→Rm
 | .ok v as'=> .ok v as'
 | _=> .bad
theorem aDm:noX mf as=kNX (mf as):=by unfold noX kNX;rfl
theorem ar9:kNX (.ok v as)= .ok v as:=rfl
def ayy(a:Option Ar):Option (List Ar)→Option (List Ar)
 | some as=>match a with | some a=>some (a::as) | none=>none
 | none=>none
theorem aoB:Px s []=some []:=rfl
theorem aBl:Px s (v::vs)=ayy (akK s v) (Px s vs):=by
 show (match akK s v,Px s vs with | some a,some as=>some (a::as) | _,_=>none)=_
 unfold ayy;cases akK s v <;> cases Px s vs <;> rfl
theorem ay6{a:Ar}:ayy (some a) (some as)=some (a::as):=rfl
theorem azt:akK s (.d x)=some (.d x):=rfl
theorem azm:akK s (.f mo)=some (.m mo):=rfl
def kAr:Option (Option Sv)→Option Ar
 | some (some (.m _ o))=>some (.m o)
 | _=>none
theorem aAn:akK s (.s i)=kAr s[i]? :=by show (match s[i]? with | some (some (.m _ o))=>some (Ar.m o) | _=>none)=_;unfold kAr;rfl
theorem aAC:kAr (some (some (.m pr mo)))=some (.m mo):=rfl
theorem apM:slotsOf []= []:=rfl
theorem azF:slotsOf (.d x::vs)=slotsOf vs:=rfl
theorem axu:slotsOf (.f mo::vs)=slotsOf vs:=rfl
theorem axO:slotsOf (.s i::vs)=i::slotsOf vs:=rfl
theorem arM:Xd []=true:=rfl
theorem aEN{is:List Nat}:Xd (i::is)=(!is.contains i && Xd is):=rfl
theorem apD:putBack s [] []=some s:=rfl
theorem ayj:putBack s (.d x::vs) (.d y::as)=putBack s vs as:=rfl
theorem ax0{m':M}:putBack s (.f mo::vs) (.m m'::as)=putBack s vs as:=rfl
def kPB(i:Nat)(o:M)(s:FS)(vs:List FV)(as:List Ar):Option (Option Sv)→Option FS
 | some (some (.m pr _))=>putBack (s.set i (some (.m pr o))) vs as
 | _=>none
theorem ayz:putBack s (.s i::vs) (.m mo::as)=kPB i mo s vs as s[i]? :=by
 show (match s[i]? with | some (some (.m pr _))=>putBack (s.set i (some (.m pr mo))) vs as | _=>none)=_
 unfold kPB;rfl
theorem axB{m':M}:kPB i mo s vs as (some (some (.m pr m')))=putBack (s.set i (some (.m pr mo))) vs as:=rfl
def asr(mf:MF)(dds:List D):Rs (List FV)→Rs FV:=fun r=>r.bind fun vs fs1=>BX mf fs1 (vs ++ dds.map FV.d)
theorem aze{dds:List D}:Yp mf dds fr s=asr mf dds (fr s):=rfl
theorem auK{dds:List D}:asr mf dds (.ok vs s)=BX mf s (vs ++ dds.map FV.d):=rfl
theorem az9{dds:List D}:aBV mf dds fr s=asr mf dds (fr s):=rfl
def ajf(mf:MF)(n m:Nat)(idx:List Nat)(vs:List FV):Rs (List FV)→Rs FV:=fun r=>r.bind fun ws fs2=>if vs.length=n∧ws.length=m∧ws.any FV.isF=false then BX mf fs2 (pick idx (vs ++ ws)) else .bad
def arz(mf:MF)(n m:Nat)(idx:List Nat)(fk:FA):Rs (List FV)→Rs FV:=fun r=>r.bind fun vs fs1=>if vs.any FV.isF then .bad else ajf mf n m idx vs (fk fs1)
theorem aup{idx:List Nat}:axM mf n m idx fr fk s=arz mf n m idx fk (fr s):=rfl
theorem arq{idx:List Nat}:arz mf n m idx fk (.ok vs s)=if vs.any FV.isF then .bad else ajf mf n m idx vs (fk s):=rfl
theorem apf{idx:List Nat}:ajf mf n m idx vs (.ok ws s)=if vs.length=n∧ws.length=m∧ws.any FV.isF=false then BX mf s (pick idx (vs ++ ws)) else .bad:=rfl
theorem au6:FV.isF (.d x)=false:=rfl
theorem atV:FV.isF (.s i)=false:=rfl
theorem avr:FV.isF (.f mo)=true:=rfl
theorem avu:FV.isS (.d x)=false:=rfl
theorem aud:FV.isS (.s i)=true:=rfl
theorem avC:FV.isS (.f mo)=false:=rfl
def amH(mf:MF)(dds:List D)(v:FV):Rs (List FV)→Rs FV:=fun r=>r.bind fun vs fs2=>BX mf fs2 (v::(vs ++ dds.map FV.d))
def axg(C:Addr)(m:Str)(mf:MF)(dds:List D)(fr:FA):Rs FV→Rs FV:=fun r=>r.bind fun v fs1=>if v.isF=false∧isObj C m (v9 fs1 v)=true then amH mf dds v (fr fs1) else .bad
theorem azV{dds:List D}:arN C fn mf dds fo fr s=axg C fn mf dds fr (fo s):=rfl
theorem aut{dds:List D}:axg C fn mf dds fr (.ok v s)=if v.isF=false∧isObj C fn (v9 s v)=true then amH mf dds v (fr s) else .bad:=rfl
theorem avM{dds:List D}:amH mf dds v (.ok vs s)=BX mf s (v::(vs ++ dds.map FV.d)):=rfl
theorem auO{C':Addr}:isObj C fn (some (.obj C' ns xs))=(decide (C'=C) && (lkp ns xs fn).isNone):=rfl
def ai1(mf:MF)(n q:Nat)(idx:List Nat)(dds:List D)(v:FV)(vs:List FV):Rs (List FV)→Rs FV:=fun r=>r.bind fun ws fs3=>if vs.length=n∧ws.length=q∧ws.any FV.isF=false then BX mf fs3 (pick idx ((v::vs) ++ (ws ++ dds.map FV.d))) else .bad
def aiE(mf:MF)(n q:Nat)(idx:List Nat)(dds:List D)(fk:FA)(v:FV):Rs (List FV)→Rs FV:=fun r=>r.bind fun vs fs2=>if vs.any FV.isF then .bad else ai1 mf n q idx dds v vs (fk fs2)
def arF(C:Addr)(m:Str)(mf:MF)(n q:Nat)(idx:List Nat)(dds:List D)(fr fk:FA):Rs FV→Rs FV:=fun r=>r.bind fun v fs1=>if v.isF=false∧isObj C m (v9 fs1 v)=true then aiE mf n q idx dds fk v (fr fs1) else .bad
theorem awj{dds:List D}{idx:List Nat}:axT C fn mf n m idx dds fo fr fk s=arF C fn mf n m idx dds fr fk (fo s):=rfl
theorem apg{dds:List D}{idx:List Nat}:arF C fn mf n m idx dds fr fk (.ok v s)=if v.isF=false∧isObj C fn (v9 s v)=true then aiE mf n m idx dds fk v (fr s) else .bad:=rfl
theorem arV{dds:List D}{idx:List Nat}:aiE mf n m idx dds fk v (.ok vs s)=if vs.any FV.isF then .bad else ai1 mf n m idx dds v vs (fk s):=rfl
theorem apu{dds:List D}{idx:List Nat}:ai1 mf n m idx dds v vs (.ok ws s)=if vs.length=n∧ws.length=m∧ws.any FV.isF=false then BX mf s (pick idx ((v::vs) ++ (ws ++ dds.map FV.d))) else .bad:=rfl
def axq(C:Addr):Rs (FV × List Ar)→Rs FV:=fun r=>r.bind fun r fs2=>match ae1 C r with
 | some o=> .ok (.d (mD o)) fs2
 | none=> .bad
def kMk(C:Addr)(mf:MF)(dds:List D):Rs (List FV)→Rs FV:=fun r=>r.bind fun vs fs1=>axq C (Yr mf fs1 (.f (.ins C [] [])::(vs ++ dds.map FV.d)))
theorem aEk{dds:List D}:aBf C mf dds fr s=kMk C mf dds (fr s):=rfl
theorem aCT{dds:List D}:kMk C mf dds (.ok vs s)=axq C (Yr mf s (.f (.ins C [] [])::(vs ++ dds.map FV.d))):=rfl
theorem aAV:axq C (.ok (.d .non, .m (.ins C ns xs)::as) s)= .ok (.d (.obj C ns xs)) s:=by
 show (match ae1 C (.d .non, .m (.ins C ns xs)::as) with | some o=>Rs.ok (FV.d (mD o)) s | none=> .bad)=_
 have:ae1 C (.d .non, .m (.ins C ns xs)::as)=some (.ins C ns xs):=by show (if C=C then some _ else none)=_;rw [if_pos rfl]
 rw [this];rfl
def ao9(C:Addr):Rs (FV × List Ar)→Rs FV:=fun r=>r.bind fun r fs2=>match ae1 C r with
 | some o=> .ok (.f o) fs2
 | none=> .bad
def aBk(C:Addr)(mf:MF)(dds:List D):Rs (List FV)→Rs FV:=fun r=>r.bind fun vs fs1=>ao9 C (Yr mf fs1 (.f (.ins C [] [])::(vs ++ dds.map FV.d)))
theorem aCo{dds:List D}:ax6 C mf dds fr s=aBk C mf dds (fr s):=rfl
theorem aAj{dds:List D}:aBk C mf dds (.ok vs s)=ao9 C (Yr mf s (.f (.ins C [] [])::(vs ++ dds.map FV.d))):=rfl
theorem azZ:ao9 C (.ok (.d .non, .m (.ins C ns xs)::as) s)= .ok (.f (.ins C ns xs)) s:=by
 show (match ae1 C (.d .non, .m (.ins C ns xs)::as) with | some o=>Rs.ok (FV.f o) s | none=> .bad)=_
 have:ae1 C (.d .non, .m (.ins C ns xs)::as)=some (.ins C ns xs):=by show (if C=C then some _ else none)=_;rw [if_pos rfl]
 rw [this]
theorem aBI:aEQ C mf s v w=if v.isF=false∧w.isF=false∧agL C (v9 s v)=true∧agL C (v9 s w)=true then BX (noX mf) s [v,w] else .bad:=rfl
theorem axF{C':Addr}:agL C (some (.obj C' ns xs))=decide (C'=C):=rfl
def asF(k:Nat)(z:D)(s:FS):Option (Option Sv)→Rs FV
 | some (some (.m pr (.lst xs)))=>if xs.length < most then .ok (.d .non) (s.set k (some (.m pr (.lst (xs ++ [z]))))) else .bad
 | _=> .bad
def arL(v:FV):Rs (List FV)→Rs FV:=fun r=>r.bind fun vs fs2=>match v,vs with
 | .s k,[.d z]=>asF k z fs2 fs2[k]?
 | _,_=> .bad
def axk(fr:FA):Rs FV→Rs FV:=fun r=>r.bind fun v fs1=>if agP fs1 v=true then arL v (fr fs1) else .bad
theorem aBa:awk fo fr s=axk fr (fo s):=by
 unfold awk axk
 cases fo s with
 | bad=>rfl
 | ex _ _=>rfl
 | ok v s1=>
  show (if agP s1 v=true then _ else Rs.bad)=(if agP s1 v=true then _ else Rs.bad)
  congr 1
theorem ayX:axk fr (.ok v s)=if agP s v=true then arL v (fr s) else .bad:=rfl
theorem axV:arL (.s k) (.ok [.d z] s)=asF k z s s[k]? :=rfl
theorem ax9:asF k z s (some (some (.m pr (.lst xs))))=if xs.length < most then .ok (.d .non) (s.set k (some (.m pr (.lst (xs ++ [z]))))) else .bad:=Eq.trans rfl rfl
def ard:Option M→Bool
 | some (.lst _)=>true
 | _=>false
theorem aAt:agP s (.s k)=ard (yt s k):=by show (match yt s k with | some (.lst _)=>true | _=>false)=_;unfold ard;rfl
theorem awo:ard (some (.lst xs))=true:=rfl
def aqv(i:Nat)(s:FS):Option (Option Sv)→Rs FV
 | some (some (.m false o))=> .ok (.d (mD o)) (s.set i none)
 | _=> .bad
def aqI:Rs FV→Rs FV:=fun r=>r.bind fun v fs1=>match v with
 | .d x=> .ok (.d x) fs1
 | .f o=> .ok (.d (mD o)) fs1
 | .s i=>aqv i fs1 fs1[i]?
theorem aCc:awf fe s=aqI (fe s):=by
 unfold awf aqI
 cases fe s with
 | bad=>rfl
 | ex _ _=>rfl
 | ok v s1=>cases v <;> rfl
theorem avQ:aqI (.ok (.d x) s)= .ok (.d x) s:=rfl
theorem aub:aqI (.ok (.f mo) s)= .ok (.d (mD mo)) s:=rfl
theorem auf:aqI (.ok (.s i) s)=aqv i s s[i]? :=rfl
theorem ax7:aqv i s (some (some (.m false mo)))= .ok (.d (mD mo)) (s.set i none):=rfl
theorem awS:vG f g s=(f s).seq g:=rfl
theorem arU:(O.nx s).seq g=g s:=rfl
theorem aqd:(O.rt v s).seq g= .rt v s:=rfl
theorem aoQ:(O.bad).seq g= .bad:=rfl
theorem aqK:(O.bk s).seq g= .bk s:=rfl
theorem aqF:(O.ct s).seq g= .ct s:=rfl
theorem aAq:Ed s= .nx s:=rfl
theorem aB4:ayw s= .bk s:=rfl
theorem aCi:aCQ s= .ct s:=rfl
theorem awt:amE s= .bad:=rfl
def kIf(f g:Gq):Rs Bool→O:=fun r=>r.thn fun b fs1=>if b=true then f fs1 else g fs1
theorem aEE:sIf ft f g s=kIf f g (ft s):=rfl
theorem azI:kIf f g (.ok b s)=if b=true then f s else g s:=rfl
def apR:Rs FV→O:=fun r=>r.thn fun _ fs1=> .nx fs1
theorem aAl:apU fe s=apR (fe s):=rfl
theorem avR:apR (.ok v s)= .nx s:=rfl
def kRt:Rs FV→O:=fun r=>r.thn fun v fs1=> .rt v fs1
theorem aEq:Ko fe s=kRt (fe s):=rfl
theorem aC3:kRt (.ok v s)= .rt v s:=rfl
theorem aCG:aDg s= .rt (.d .non) s:=rfl
def kNx:Option FS→O
 | some s=> .nx s
 | none=> .bad
theorem aEp:kNx (some s)= .nx s:=rfl
def au1(g:FG):Rs FV→O:=fun r=>r.thn fun v fs1=>kNx (g v fs1)
theorem aCs{g:FG}:Eh fe g s=au1 g (fe s):=by
 unfold Eh au1 kNx
 cases fe s with
 | bad=>rfl
 | ex _ _=>rfl
 | ok v s1=>show (match g v s1 with | some fs2=>O.nx fs2 | none=> .bad)=_;rfl
theorem ay3{g:FG}:au1 g (.ok v s)=kNx (g v s):=rfl
def azf(is:List Nat):Rs (List FV)→O:=fun r=>r.thn fun vs fs1=>if vs.all (fun v=> !v.isS) then kNx (Xe is vs fs1) else .bad
theorem aB7{is:List Nat}:aDo is fr s=azf is (fr s):=by
 unfold aDo azf kNx
 cases fr s with
 | bad=>rfl
 | ex _ _=>rfl
 | ok v s1=>rfl
theorem aAy{is:List Nat}:azf is (.ok vs s)=if vs.all (fun v=> !v.isS) then kNx (Xe is vs s) else .bad:=rfl
def amy(is:List Nat)(vs:List FV):Option FS→Option FS
 | some s=>Xe is vs s
 | none=>none
theorem ak8:Xe [] [] s=some s:=rfl
theorem aur{is:List Nat}:Xe (i::is) (v::vs) s=if v.isS=true then none else amy is vs (gName i v s):=by
 show (if v.isS=true then none else match gName i v s with | some fs1=>Xe is vs fs1 | none=>none)=_
 unfold amy;rfl
theorem arl{is:List Nat}:amy is vs (some s)=Xe is vs s:=rfl
theorem ak9:gName i (.d x) s=if isL s i=true then none else some (s.set i (some (.d x))):=rfl
theorem aqj:gName i (.f mo) s=if isL s i=true then none else some (s.set i (some (.m false mo))):=rfl
def arb(i j:Nat)(s:FS):Option (Option Sv)→Option FS
 | some (some (.m false o))=>some ((s.set j none).set i (some (.m false o)))
 | _=>none
theorem ar3:gName i (.s j) s=if isL s i=true then none else arb i j s s[j]? :=by
 show (if isL s i=true then none else match s[j]? with | some (some (.m false o))=>some ((s.set j none).set i (some (.m false o))) | _=>none)=_
 unfold arb;rfl
theorem ayW:arb i j s (some (some (.m false mo)))=some ((s.set j none).set i (some (.m false mo))):=rfl
def agG:Option (Option Sv)→Bool
 | some (some (.l _))=>true
 | _=>false
theorem awG:isL s i=agG s[i]? :=by unfold isL agG;rfl
theorem avK:agG (some (some (.d x)))=false:=rfl
theorem avF:agG (some (some (.m pr mo)))=false:=rfl
theorem avh:agG (some (some (.l mo)))=true:=rfl
theorem auW:agG (some none)=false:=rfl
theorem asR:agG none=false:=rfl
theorem ayH{gs:FGs}:DL.gTup n gs (.d (.tup xs)) s=if xs.length=n then gs xs s else none:=rfl
theorem asB:aiv [] s=some s:=rfl
def kFg(gs:FGs)(r:List D):Option FS→Option FS
 | some s=>gs r s
 | none=>none
theorem aD3{g:FG}{gs:FGs}:Xc g gs (x::xs) s=kFg gs xs (g (.d x) s):=by
 show (match g (.d x) s with | some fs1=>gs xs fs1 | none=>none)=_
 unfold kFg;rfl
theorem aDs{gs:FGs}:kFg gs xs (some s)=gs xs s:=rfl
abbrev GT:=M→D→D→Option M
def anu(k:Nat)(pr:Bool)(s:FS):Option M→Option FS
 | some o'=>some (s.set k (some (.m pr o')))
 | none=>none
def anH(gs:GT)(z:D)(k:Nat)(s:FS):Option D→Option (Option Sv)→Option FS
 | some y,some (some (.m pr o))=>anu k pr s (gs o y z)
 | _,_=>none
def anD(gs:GT)(z:D)(k:Nat):Rs FV→Option FS
 | .ok w s=>anH gs z k s (v9 s w) s[k]?
 | _=>none
def arD(gs:GT)(fi:FE)(z:D):Rs FV→Option FS
 | .ok (.s k) s=>anD gs z k (fi s)
 | _=>none
theorem aBq{gs:GT}:DL.gSub gs fo fe (.d z) s=arD gs fe z (fo s):=by
 unfold DL.gSub arD
 dsimp only
 cases fo s with
 | bad=>rfl
 | ex _ _=>rfl
 | ok v s1=>
  cases v with
  | d _=>rfl
  | f _=>rfl
  | s k=>
   dsimp only
   unfold anD
   cases fe s1 with
   | bad=>rfl
   | ex _ _=>rfl
   | ok w s2=>
    dsimp only
    unfold anH anu
    cases v9 s2 w with
    | none=>rfl
    | some y=>rfl
theorem ax2{gs:GT}:arD gs fe z (.ok (.s k) s)=anD gs z k (fe s):=rfl
theorem ayP{gs:GT}:anD gs z k (.ok w s)=anH gs z k s (v9 s w) s[k]? :=rfl
theorem aAv{gs:GT}:anH gs z k s (some y) (some (some (.m pr mo)))=anu k pr s (gs mo y z):=rfl
theorem ayY:anu k pr s (some mo)=some (s.set k (some (.m pr mo))):=rfl
def aym(cs:List Addr)(f:Str)(z:D)(k:Nat)(s:FS):Option (Option Sv)→Option FS
 | some (some (.m pr (.ins C ns es)))=>if cs.contains C && decide (ns.length < 1000) then some (s.set k (some (.m pr (.ins C (putN ns f) (putD ns es f z))))) else none
 | _=>none
def azd(cs:List Addr)(f:Str)(z:D):Rs FV→Option FS
 | .ok (.s k) s=>aym cs f z k s s[k]?
 | _=>none
theorem aEC{cs:List Addr}:axe cs fn fo (.d z) s=azd cs fn z (fo s):=by
 unfold axe azd
 dsimp only
 cases fo s with
 | bad=>rfl
 | ex _ _=>rfl
 | ok v s1=>cases v <;> rfl
theorem aDE{cs:List Addr}:azd cs fn z (.ok (.s k) s)=aym cs fn z k s s[k]? :=rfl
theorem aBB{cs:List Addr}:aym cs fn z k s (some (some (.m pr (.ins C ns xs))))=if cs.contains C && decide (ns.length < 1000) then some (s.set k (some (.m pr (.ins C (putN ns fn) (putD ns xs fn z))))) else none:=rfl
def anT(i:Nat):Rs FV→O:=fun r=>r.thn fun z s=>kNx (gName i z s)
def anF(i:Nat)(o:FO2)(x:D):Rs FV→O:=fun r=>r.thn fun y s=>anT i (o s (.d x) y)
def aq6(i:Nat)(fe:FE)(o:FO2)(s:FS):Option (Option Sv)→O
 | some (some (.d x))=>anF i o x (fe s)
 | _=> .bad
theorem aBp:aAW i fe o s=aq6 i fe o s s[i]? :=by
 unfold aAW aq6 anF anT kNx
 rfl
theorem azy:aq6 i fe o s (some (some (.d x)))=anF i o x (fe s):=rfl
theorem ay7:anF i o x (.ok w s)=anT i (o s (.d x) w):=rfl
theorem aya:anT i (.ok w s)=kNx (gName i w s):=rfl
def kIA:Rs FV→Rs (List D × Option (Nat × M)):=fun r=>r.bind fun v fs1=>match v with
 | .d (.lst xs)=> .ok (xs,none) fs1
 | .d (.tup xs)=> .ok (xs,none) fs1
 | .d (.str x)=> .ok (signs x,none) fs1
 | .s k=>match yt fs1 k with
  | some (.lst xs)=> .ok (xs,some (k, .lst xs)) fs1
  | _=> .bad
 | _=> .bad
theorem aD2:fIA fe s=kIA (fe s):=rfl
theorem ayE:kIA (.ok (.d (.lst xs)) s)= .ok (xs,none) s:=rfl
theorem azW:kIA (.ok (.d (.tup xs)) s)= .ok (xs,none) s:=rfl
theorem ay8{z:Str}:kIA (.ok (.d (.str z)) s)= .ok (signs z,none) s:=rfl
def aDp:Rs (List FV)→Rs (List D × Option (Nat × M)):=fun r=>r.bind fun vs fs1=>match vs with
 | [.d (.int j)]=>if decide (-4611686018427387904≤j) && decide (j < 4611686018427387904) then .ok (iota 0 j.toNat,none) fs1 else .bad
 | _=> .bad
theorem aC0:auc fr s=aDp (fr s):=rfl
theorem auT{j:Int}:aDp (.ok [.d (.int j)] s)=if decide (-4611686018427387904≤j) && decide (j < 4611686018427387904) then .ok (iota 0 j.toNat,none) s else .bad:=Eq.trans rfl rfl
def aDk:Rs (List FV)→Rs (List D × Option (Nat × M)):=fun r=>r.bind fun vs fs1=>match vs with
 | [.d (.int i), .d (.int j)]=>if decide (-4611686018427387904≤i) && decide (i < 4611686018427387904) && decide (-4611686018427387904≤j) && decide (j < 4611686018427387904) then .ok (iota i (j - i).toNat,none) fs1 else .bad
 | _=> .bad
theorem aDF:aEn fr s=aDk (fr s):=rfl
theorem au7{i j:Int}:aDk (.ok [.d (.int i), .d (.int j)] s)=if decide (-4611686018427387904≤i) && decide (i < 4611686018427387904) && decide (-4611686018427387904≤j) && decide (j < 4611686018427387904) then .ok (iota i (j - i).toNat,none) s else .bad:=Eq.trans rfl rfl
def kIZ:Rs (List FV)→Rs (List D × Option (Nat × M)):=fun r=>r.bind fun vs fs1=>match vs with
 | [.d (.lst xs), .d (.lst ys)]=> .ok (pairs xs ys,none) fs1
 | [.d (.tup xs), .d (.tup ys)]=> .ok (pairs xs ys,none) fs1
 | [.s k, .d (.lst ys)]=>match yt fs1 k with
  | some (.lst xs)=> .ok (pairs xs ys,some (k, .lst xs)) fs1
  | _=> .bad
 | _=> .bad
theorem aEy:fIZ fr s=kIZ (fr s):=rfl
def ay0(ys:List D)(k:Nat)(s:FS):Option M→Rs (List D × Option (Nat × M))
 | some (.lst xs)=> .ok (pairs xs ys,some (k, .lst xs)) s
 | _=> .bad
theorem azu:kIZ (.ok [.s k, .d (.lst ys)] s)=ay0 ys k s (yt s k):=by
 show (match yt s k with | some (.lst xs)=>_ | _=>_)=_
 unfold ay0
 cases yt s k with
 | none=>rfl
 | some o=>cases o <;> rfl
theorem avY:ay0 ys k s (some (.lst xs))= .ok (pairs xs ys,some (k, .lst xs)) s:=rfl
theorem axx:kIZ (.ok [.d (.lst xs), .d (.lst ys)] s)= .ok (pairs xs ys,none) s:=rfl
theorem axZ:kIZ (.ok [.d (.tup xs), .d (.tup ys)] s)= .ok (pairs xs ys,none) s:=rfl
def kIE:Rs (List FV)→Rs (List D × Option (Nat × M)):=fun r=>r.bind fun vs fs1=>match vs with
 | [.d (.lst xs)]=> .ok (anJ 0 xs,none) fs1
 | _=> .bad
theorem aEA:fIE fr s=kIE (fr s):=rfl
theorem ayr:kIE (.ok [.d (.lst xs)] s)= .ok (anJ 0 xs,none) s:=rfl
def awM(g:FG)(body:Gq)(xs:List D)(k:Nat)(o:M)(s:FS):Option (Option Sv)→O
 | some (some (.l _))=>yj g body xs s
 | some (some (.m pr _))=>JZ k pr (yj g body xs (s.set k (some (.l o))))
 | _=> .bad
def kFor(g:FG)(body:Gq):Rs (List D × Option (Nat × M))→O:=fun r=>r.thn fun r s=>match r.2 with
 | none=>yj g body r.1 s
 | some (k,o)=>awM g body r.1 k o s s[k]?
theorem aDJ{fi:FI}{g:FG}{body:Gq}:apK fi g body s=kFor g body (fi s):=by
 unfold apK kFor
 cases fi s with
 | bad=>rfl
 | ex _ _=>rfl
 | ok r s1=>
  obtain ⟨xs,q⟩:=r
  cases q with
  | none=>rfl
  | some ko=>obtain ⟨k,o⟩:=ko;rfl
theorem auv{g:FG}{body:Gq}:kFor g body (.ok (xs,none) s)=yj g body xs s:=rfl
theorem awp{g:FG}{body:Gq}:kFor g body (.ok (xs,some (k,mo)) s)=awM g body xs k mo s s[k]? :=rfl
def aru(g:FG)(body:Gq)(xs:List D):Option FS→O
 | some s=>Za (yj g body xs) (body s)
 | none=> .bad
theorem al9{g:FG}{body:Gq}:yj g body [] s= .nx s:=rfl
theorem aql{g:FG}{body:Gq}:yj g body (x::xs) s=aru g body xs (g (.d x) s):=by
 show (match g (.d x) s with | none=>O.bad | some fs1=>Za (yj g body xs) (body fs1))=_
 unfold aru;cases g (.d x) s <;> rfl
theorem aqk{g:FG}{body:Gq}:aru g body xs (some s)=Za (yj g body xs) (body s):=rfl
theorem aow:Za f (.nx s)=f s:=rfl
theorem aoF:Za f (.ct s)=f s:=rfl
theorem aoX:Za f (.bk s)= .nx s:=rfl
theorem aor:Za f (.rt v s)= .rt v s:=rfl
theorem c_def{N np:Nat}:acQ N np f as=if as.length=np then acI as (f (startF N as)) else .bad:=rfl
theorem auF{N:Nat}:startF N as=as.map agA ++ List.replicate (N - as.length) none:=rfl
theorem axp:agA (.d x)=some (.d x):=rfl
theorem aza:agA (.m mo)=some (.m true mo):=rfl
def asq:Option FV→Option (List Ar)→Rm
 | some v,some as=> .ok v as
 | _,_=> .bad
theorem apT:acI as (.rt v s)=asq (alo s v) (yh s 0 as):=by
 show (match alo s v,yh s 0 as with | some v',some as'=>Rm.ok v' as' | _,_=> .bad)=_
 unfold asq;rfl
theorem apr:acI as (.nx s)=asq (some (.d .non)) (yh s 0 as):=by
 show (match yh s 0 as with | some as'=>Rm.ok (.d .non) as' | none=> .bad)=_
 unfold asq;cases yh s 0 as <;> rfl
theorem axj:asq (some v) (some as)= .ok v as:=rfl
theorem aqO:alo s (.d x)=some (.d x):=rfl
theorem ap9:alo s (.f mo)=some (.f mo):=rfl
def kRV:Option (Option Sv)→Option FV
 | some (some (.m false o))=>some (.f o)
 | _=>none
theorem ase:alo s (.s i)=kRV s[i]? :=by show (match s[i]? with | some (some (.m false o))=>some (FV.f o) | _=>none)=_;unfold kRV;rfl
theorem aEh:kRV (some (some (.m false mo)))=some (.f mo):=rfl
theorem amx:yh s i []=some []:=rfl
def kBd(x:D):Option (List Ar)→Option (List Ar)
 | some as=>some (.d x::as)
 | none=>none
def kBm:Option (Option Sv)→Option (List Ar)→Option (List Ar)
 | some (some (.m true o)),some as=>some (.m o::as)
 | _,_=>none
theorem ar4:yh s i (.d x::as)=kBd x (yh s (i + 1) as):=by
 show (match yh s (i + 1) as with | some as=>some (Ar.d x::as) | none=>none)=_
 unfold kBd;cases yh s (i + 1) as <;> rfl
theorem atb:yh s i (.m mo::as)=kBm s[i]? (yh s (i + 1) as):=by
 show (match s[i]?,yh s (i + 1) as with | some (some (.m true o)),some as=>some (Ar.m o::as) | _,_=>none)=_
 unfold kBm;rfl
theorem aEb:kBd x (some as)=some (.d x::as):=rfl
theorem aED:kBm (some (some (.m true mo))) (some as)=some (.m mo::as):=rfl
end
end DL
end
section
namespace DL
open PySem PySem.Spec PyProof.Rows L2
section
variable {i j:Int}{a b:Str}{xs ys:List D}{x y z:D}{p q:Bool}{C:Addr}{ns:List Str}{ks:List Key}{t n m:String}{lo hi:Option Int}
theorem aqN:Ks (.int i) (.int j)=some (.int (i + j)):=rfl
theorem asI:Ks (.str a) (.str b)=if a.length + b.length≤most then some (.str (a ++ b)) else none:=Eq.trans rfl rfl
theorem arW:Ks (.tup xs) (.tup ys)=if xs.length + ys.length≤most then some (.tup (xs ++ ys)) else none:=Eq.trans rfl rfl
theorem ap8:Ks (.lst xs) (.lst ys)=if xs.length + ys.length≤most then some (.lst (xs ++ ys)) else none:=Eq.trans rfl rfl
theorem at4:aDu (.int i) (.int j)=some (.int (i + j)):=rfl
theorem ayI:aB8 (.int i) (.int j)=some (.int (i - j)):=rfl
theorem apt:Yq (.int i) (.int j)=if aoI i j=true then some (.int (i * j)) else none:=Eq.trans rfl rfl
theorem asY:akV (.int i) (.int j)=if amI i j=true then some (.int (i / j)) else none:=Eq.trans rfl rfl
theorem axv:Qy (.int i) (.int j)=if 0 < j then some (.int (i % j)) else none:=by
 show (if decide (0 < j)=true then _ else _)=_;simp
theorem ay4:aio (.int i) (.int j)=if ap1 i j=true then some (.int (i ^ j.toNat)) else none:=Eq.trans rfl rfl
theorem aqX(h1: -18446744073709551616 < j)(h2:j < 18446744073709551616):Yq (.int i) (.int j)=some (.int (i * j)):=by
 rw [apt,if_pos];unfold aoI;simp [h1,h2]
theorem as9(h1: -18446744073709551616 < i)(h2:i < 18446744073709551616):Yq (.int i) (.int j)=some (.int (i * j)):=by
 rw [apt,if_pos];unfold aoI;simp [h1,h2]
theorem ail{n:Int}(h:n.natAbs < 2 ^ 60):n.natAbs.log2 < 9000:=by
 by_cases h0:n.natAbs=0
 ·rw [h0];decide
 ·exact Nat.lt_of_lt_of_le ((Nat.log2_lt h0).mpr h) (by decide)
theorem arH(h1:0 < j)(h2:j < 1152921504606846976):akV (.int i) (.int j)=some (.int (i / j)):=by
 rw [asY,if_pos];unfold amI;have:=ail (n:=j) (by omega);simp [h1,this]
theorem ags(h1:0 < j):Qy (.int i) (.int j)=some (.int (i % j)):=by rw [axv,if_pos h1]
theorem akB(h1:0≤j)(h2:j≤1000)(h3: -1152921504606846976 < i)(h4:i < 1152921504606846976):aio (.int i) (.int j)=some (.int (i ^ j.toNat)):=by
 rw [ay4,if_pos];unfold ap1;have:i.natAbs < 18446744073709551616:=by omega
 simp [h1,h2,this]
theorem aAZ:aq8 (.int i) (.int j)=some (.bl (decide (i < j))):=rfl
theorem aDR:aEd (.int i) (.int j)=some (.bl (decide (i≤j))):=rfl
theorem aDU:at9 (.int i) (.int j)=some (.bl (decide (j < i))):=rfl
theorem aCH:ayU (.int i) (.int j)=some (.bl (decide (j≤i))):=rfl
theorem axw:avD (.int i)=some (.int (-i)):=rfl
theorem av4:gIx (.lst xs) (.int i)=L2.atI xs i:=rfl
theorem avp:gIx (.tup xs) (.int i)=L2.atI xs i:=rfl
def kSg:Option Nat→Option D
 | some c=>some (.str ⟨#[c]⟩)
 | none=>none
theorem atH:gIx (.str a) (.int i)=kSg (L2.atI a.cps.toList i):=by show (match L2.atI a.cps.toList i with | some c=>_ | none=>_)=_;unfold kSg;rfl
theorem aAT{c:Nat}:kSg (some c)=some (.str ⟨#[c]⟩):=rfl
theorem aq1:alh (.lst xs) lo hi=some (.lst (cutD xs lo hi)):=rfl
theorem asi:alh (.tup xs) lo hi=some (.tup (cutD xs lo hi)):=rfl
theorem arO:alh (.klst xs) lo hi=some (.lst (cutD xs lo hi)):=rfl
theorem ap2:alh (.str a) lo hi=some (.str (cutS a lo hi)):=rfl
theorem azE:aEH (.lst xs)=some (.lst xs.reverse):=rfl
theorem aAb:al4 x .non=some (.bl (Ca x)):=by cases x <;> rfl
theorem avn:aCg x .non=some (.bl (!Ca x)):=by cases x <;> rfl
theorem aot:Ca (.obj C ns xs)=false:=rfl
theorem apG:agM [.lst xs]=some (.int xs.length):=rfl
theorem aqR:agM [.tup xs]=some (.int xs.length):=rfl
theorem asU:agM [.str a]=some (.int a.length):=rfl
theorem ap4:Y0 [.int i]=some (.int i):=rfl
theorem aqQ:Y0 [.bl p]=some (.int (b2I p)):=rfl
theorem aoP:ale [.lst xs]=some (.lst xs):=rfl
theorem aoz:ale [.tup xs]=some (.lst xs):=rfl
theorem ame:arA [.lst xs]=some (.lst xs):=rfl
theorem amG:arA [.tup xs]=some (.lst xs):=rfl
theorem al7:apZ [.lst xs]=some (.tup xs):=rfl
theorem al3:apZ [.tup xs]=some (.tup xs):=rfl
theorem aAH:aEJ [.int i]=some (.int (if i < 0 then -i else i)):=rfl
theorem azU:aD6 [.int i, .int j]=some (.int (max i j)):=rfl
theorem azT:aES [.int i, .int j]=some (.int (min i j)):=rfl
theorem axN:aEI [.int i, .int j]=some (.int ((Nat.gcd i.natAbs j.natAbs:Nat):Int)):=rfl
theorem adF:∀bs:List Bool,aaS (bs.map D.bl)=some bs
 | []=>rfl
 | b::bs=>by show (match aaS (bs.map D.bl) with | some bs=>some (b::bs) | none=>none)=_;rw [adF bs]
theorem QG:∀bs:List Int,intsOf (bs.map D.int)=some bs
 | []=>rfl
 | b::bs=>by show (match intsOf (bs.map D.int) with | some bs=>some (b::bs) | none=>none)=_;rw [QG bs]
theorem azN{bs:List Bool}:auj [.lst (bs.map D.bl)]=some (.bl (bs.all id)):=by
 unfold auj acH;simp only [ahK,adF]
theorem ayS{bs:List Bool}:aBi [.lst (bs.map D.bl)]=some (.bl (bs.any id)):=by
 unfold aBi acH;simp only [ahK,adF]
theorem aAw{bs:List Int}:aA3 [.lst (bs.map D.int)]=some (.int bs.sum):=by
 unfold aA3 acH;simp only [ahK,QG]
theorem at7{bs:List Int}:aw1 [.lst (bs.map D.int)]=awd (axC bs):=by
 unfold aw1 acH;simp only [ahK,QG]
theorem atZ{bs:List Int}:awZ [.lst (bs.map D.int)]=awd (azO bs):=by
 unfold awZ acH;simp only [ahK,QG]
theorem arT{bs:List Int}:asf [.lst (bs.map D.int)]=some (.lst ((sortI bs).map D.int)):=by
 unfold asf acH;simp only [ahK,QG]
theorem az3{k:Int}:aD8 (.lst xs) (.int k)=if decide (-4611686018427387904≤k) && decide (k < 4611686018427387904) && decide (xs.length * k.toNat≤most) then some (.lst (List.replicate k.toNat xs).flatten) else none:=Eq.trans rfl rfl
def aqm(ds:List D)(z:D):Option Nat→Option M
 | some j=>some (.lst (ds.set j z))
 | none=>none
theorem avG:ae2 (.lst xs) (.int i) z=aqm xs z (ixN xs.length i):=by show (match ixN xs.length i with | some j=>_ | none=>_)=_;unfold aqm;rfl
theorem asN{k:Nat}:aqm xs z (some k)=some (.lst (xs.set k z)):=rfl
def kIs(n:String):Option String→Option D
 | some a=>if rN.contains n then some (.bl (qO a n)) else none
 | none=>none
theorem azB:aaI [x, .ty n]=kIs n (abd x):=by show (match abd x with | some a=>_ | none=>_)=_;unfold kIs;rfl
theorem aBz:kIs n (some t)=if rN.contains n then some (.bl (qO t n)) else none:=rfl
def aAp(ns:Option (List String)):Option String→Option D
 | some a=>match ns with
  | some ns=>if (ns.all fun n=>rN.contains n)=true then some (.bl (ns.any (qO a))) else none
  | none=>none
 | none=>none
theorem atJ{ts:List D}:aaI [x, .tup ts]=aAp (Ys ts) (abd x):=by
 show (match abd x,Ys ts with | some a,some ns=>_ | _,_=>none)=_
 unfold aAp;cases abd x <;> cases Ys ts <;> rfl
theorem azJ{ns:List String}:aAp (some ns) (some t)=if (ns.all fun n=>rN.contains n)=true then some (.bl (ns.any (qO t))) else none:=rfl
theorem awi:Ys [.ty n, .ty m]=some [n,m]:=rfl
theorem auo:Ys [.ty n]=some [n]:=rfl
theorem aoU:abd .non=some "NoneType" :=rfl
theorem asO:abd (.bl p)=some "bool" :=rfl
theorem aoE:abd (.int i)=some "int" :=rfl
theorem ao2:abd (.str a)=some "str" :=rfl
theorem aov:abd (.lst xs)=some "list" :=rfl
theorem aoG:abd (.tup xs)=some "tuple" :=rfl
theorem aoM:abd (.dct ks xs)=some "dict" :=rfl
theorem Dc(h:z9 x=true)(h1:(toPy x).depth=0)(h2:z9 y=true):akW x y=true:=by
 unfold akW;rw [h,h2,h1];simp
theorem aaT(h:akW x y=true):gEq x y=some (.bl (Gr x y)):=by unfold gEq;rw [if_pos h]
theorem akR(h:akW x y=true):gNe x y=some (.bl (!Gr x y)):=by unfold gNe;rw [if_pos h]
theorem auu:gEq (.int i) (.int j)=some (.bl (decide (i=j))):=by rw [aaT (Dc rfl (by simp [toPy,PyData.depth]) rfl),akO]
theorem awm:gNe (.int i) (.int j)=some (.bl (!decide (i=j))):=by rw [akR (Dc rfl (by simp [toPy,PyData.depth]) rfl),akO]
theorem au9:gEq (.str a) (.str b)=some (.bl (decide (a=b))):=by rw [aaT (Dc rfl (by simp [toPy,PyData.depth]) rfl),agu]
theorem avs:gNe (.str a) (.str b)=some (.bl (!decide (a=b))):=by rw [akR (Dc rfl (by simp [toPy,PyData.depth]) rfl),agu]
theorem av7:gEq (.bl p) (.bl q)=some (.bl (decide (p=q))):=by rw [aaT (Dc rfl (by simp [toPy,PyData.depth]) rfl),anK]
theorem avE:gNe (.bl p) (.bl q)=some (.bl (!decide (p=q))):=by rw [akR (Dc rfl (by simp [toPy,PyData.depth]) rfl),anK]
theorem ap6:gEq .non (.int j)=some (.bl false):=by rw [aaT (Dc rfl (by simp [toPy,PyData.depth]) rfl),acD]
theorem arn:gEq (.int i) .non=some (.bl false):=by rw [aaT (Dc rfl (by simp [toPy,PyData.depth]) rfl),acE]
theorem ar0:gNe .non (.int j)=some (.bl true):=by rw [akR (Dc rfl (by simp [toPy,PyData.depth]) rfl),acD];rfl
theorem aps:gNe (.int i) .non=some (.bl true):=by rw [akR (Dc rfl (by simp [toPy,PyData.depth]) rfl),acE];rfl
theorem aqY:gEq .non .non=some (.bl true):=by rw [aaT (Dc rfl (by simp [toPy,PyData.depth]) rfl),aph]
theorem aqy:gEq .non (.str a)=some (.bl false):=by rw [aaT (Dc rfl (by simp [toPy,PyData.depth]) rfl),aiS]
theorem asz:gEq (.str a) .non=some (.bl false):=by rw [aaT (Dc rfl (by simp [toPy,PyData.depth]) rfl),aje]
theorem asx:gEq (.int i) (.str a)=some (.bl false):=by rw [aaT (Dc rfl (by simp [toPy,PyData.depth]) rfl),aiO]
theorem aqf:gEq (.str a) (.int i)=some (.bl false):=by rw [aaT (Dc rfl (by simp [toPy,PyData.depth]) rfl),aiF]
theorem auy{neg:Bool}:ahL neg x (.tup xs)=if al5 x xs=true then some (.bl (neg ^^ dIn x xs)) else none:=rfl
theorem arK{xs:List D}(h:∀x ∈ xs,z9 x=true):Yo xs=true:=by rw [akX,List.all_eq_true];exact h
/-- a text in a list,a tuple of texts -/
theorem axz(h:∀y ∈ xs,z9 y=true):al5 (.str a) xs=true:=by
 unfold al5
 rw [arK h]
 simp [z9,toPy,PyData.depth]
theorem aq3:dIn x (y::ys)=(Gr y x || dIn x ys):=rfl
end
end DL
end
section
namespace DL
open PySem PySem.Spec PyProof.Rows L2
theorem akT:qO "int" "dict" =false:=by decide
theorem alm:qO "int" "list" =false:=by decide
theorem ai5:qO "int" "tuple" =false:=by decide
theorem amv:qO "int" "int" =true:=by decide
theorem akN:qO "int" "bool" =false:=by decide
theorem amh:qO "int" "str" =false:=by decide
theorem ak1:qO "str" "dict" =false:=by decide
theorem alg:qO "str" "list" =false:=by decide
theorem aiQ:qO "str" "tuple" =false:=by decide
theorem al1:qO "str" "int" =false:=by decide
theorem ak6:qO "str" "bool" =false:=by decide
theorem amJ:qO "str" "str" =true:=by decide
theorem aiJ:qO "list" "dict" =false:=by decide
theorem aja:qO "list" "list" =true:=by decide
theorem ahO:qO "list" "tuple" =false:=by decide
theorem akC:qO "list" "int" =false:=by decide
theorem aiM:qO "list" "bool" =false:=by decide
theorem ala:qO "list" "str" =false:=by decide
theorem ahR:qO "tuple" "dict" =false:=by decide
theorem ahQ:qO "tuple" "list" =false:=by decide
theorem agF:qO "tuple" "tuple" =true:=by decide
theorem ai9:qO "tuple" "int" =false:=by decide
theorem ahP:qO "tuple" "bool" =false:=by decide
theorem aiP:qO "tuple" "str" =false:=by decide
theorem adw:qO "NoneType" "dict" =false:=by decide
theorem adD:qO "NoneType" "list" =false:=by decide
theorem acJ:qO "NoneType" "tuple" =false:=by decide
theorem afh:qO "NoneType" "int" =false:=by decide
theorem adu:qO "NoneType" "bool" =false:=by decide
theorem afe:qO "NoneType" "str" =false:=by decide
theorem aiR:qO "bool" "dict" =false:=by decide
theorem aiG:qO "bool" "list" =false:=by decide
theorem ahM:qO "bool" "tuple" =false:=by decide
theorem akD:qO "bool" "int" =true:=by decide
theorem aiD:qO "bool" "bool" =true:=by decide
theorem ak0:qO "bool" "str" =false:=by decide
theorem aiU:qO "dict" "dict" =true:=by decide
theorem aiW:qO "dict" "list" =false:=by decide
theorem ahN:qO "dict" "tuple" =false:=by decide
theorem ak2:qO "dict" "int" =false:=by decide
theorem ai4:qO "dict" "bool" =false:=by decide
theorem akZ:qO "dict" "str" =false:=by decide
theorem avb:rN.contains "dict" =true:=by decide
theorem auw:rN.contains "list" =true:=by decide
theorem apA:rN.contains "tuple" =true:=by decide
theorem aAs:rN.contains "int" =true:=by decide
theorem auR:rN.contains "bool" =true:=by decide
theorem azs:rN.contains "str" =true:=by decide
end DL
end
section
namespace DL
open PySem PySem.Spec PyProof.Rows L2
section
variable {n f:Str}{ns:List Str}{d x:D}{ds:List D}
theorem aBn:lkp (n::ns) (d::ds) f=if f=n then some d else lkp ns ds f:=rfl
theorem aoZ:lkp [] [] f=none:=rfl
theorem amC:putN [] f= [f]:=rfl
theorem axI:putN (n::ns) f=if n=f then n::ns else n::putN ns f:=rfl
theorem amk:putD [] ds f d= [d]:=by cases ds <;> rfl
theorem axy:putD (n::ns) (x::ds) f d=if n=f then d::ds else x::putD ns ds f d:=rfl
theorem auz{o:Option D}:agG (some (o.map Sv.d))=false:=by cases o <;> rfl
theorem aB2{a b:String}:(Str.ofString a=Str.ofString b)=(a=b):=by
 apply propext
 refine ⟨fun h=> ?_,fun h=>by rw [h]⟩
 have h1:a.toList.map Char.toNat=b.toList.map Char.toNat:=by
  rw [Str.ofString_eq_toList,Str.ofString_eq_toList] at h
  injection h with h
  simpa using h
 have h2:a.toList=b.toList:=by
  have inj:∀(l m:List Char),l.map Char.toNat=m.map Char.toNat→l=m:=by
   intro l
   induction l with
   | nil=>intro m h;cases m with
    | nil=>rfl
    | cons _ _=>simp at h
   | cons c l ih=>
    intro m h
    cases m with
    | nil=>simp at h
    | cons e m=>
     simp at h
     rw [Char.toNat_inj.mp h.1,ih m h.2]
  exact inj _ _ h1
 exact String.toList_inj.mp h2
end
end DL
end
section
namespace DL
open PySem PySem.Spec PyProof.Rows L2
section
variable {s:FS}{fe fo:FE}{ks ls:List Key}{ds es:List D}{x:Str}{i:Int}{z d:D}{v w:FV}{neg p q:Bool}{g:FG}{ft:FT}{fi:FI}{vs:List Nat}{xs:List D}
theorem ayn:aBK s= .ok (.f (.dct [] [])) s:=rfl
theorem ao1:awQ (.dct ks ds) (.str x)=acL ks ds (.inr x):=rfl
theorem aoL:awQ (.dct ks ds) (.int i)=acL ks ds (.inl i):=rfl
theorem amL:agt (.dct ks ds) (.str x)=some ((acL ks ds (.inr x)).getD .non):=rfl
def arZ(fe:FE)(s:FS)(v:FV):Option D→Rs FV
 | some (.dct _ _)=>(fe s).bind fun w fs2=>op2 agt fs2 v w
 | _=> .bad
def azw(fe:FE):Rs FV→Rs FV:=fun r=>r.bind fun v s=>arZ fe s v (v9 s v)
def aBP(v:FV):Rs FV→Rs FV:=fun r=>r.bind fun w fs2=>op2 agt fs2 v w
theorem aEa:aCy fo fe s=azw fe (fo s):=by
 unfold aCy azw
 cases fo s with
 | bad=>rfl
 | ex _ _=>rfl
 | ok v s1=>
  show (match v9 s1 v with | some (.dct _ _)=>_ | _=>_)=arZ fe s1 v (v9 s1 v)
  unfold arZ
  cases v9 s1 v with
  | none=>rfl
  | some x=>cases x <;> rfl
theorem aCD:azw fe (.ok v s)=arZ fe s v (v9 s v):=rfl
theorem aCB:arZ fe s v (some (.dct ks ds))=aBP v (fe s):=rfl
theorem aA5:aBP v (.ok w s)=op2 agt s v w:=rfl
theorem ay1:aEP neg (.bl p) (.bl q)=some (.bl (cond neg (!decide (p=q)) (decide (p=q)))):=rfl
theorem avU:aCb (.tup xs) (.int i)=if (decide (xs≠ []) && decide (2≤i) && decide (i≤1000) && decide (xs.length≤1000))=true then some (.tup (List.replicate i.toNat xs).flatten) else none:=rfl
def ayF:Rs FV→Rs FV:=fun r=>r.bind fun v fs1=>match v with
 | .d (.lst xs)=> .ok (.d (.int (aqa (axa xs):Nat))) fs1
 | _=> .bad
theorem aq7:ayF (.ok (.d (.lst xs)) s)= .ok (.d (.int (aqa (axa xs):Nat))) s:=rfl
def al2:Rs (List D × Option (Nat × M))→Rs (List D × Option (Nat × M))
 | .ok r fs1=>if r.1.length≤1000 then .ok r fs1 else .bad
 | .ex x fs1=> .ex x fs1
 | .bad=> .bad
theorem awn:aqS fi s=al2 (fi s):=by unfold aqS al2;cases fi s <;> rfl
theorem aqi{r:List D × Option (Nat × M)}:al2 (.ok r s)=if r.1.length≤1000 then .ok r s else .bad:=rfl
def axo:Rs FV→Rs FV:=fun r=>r.bind fun v fs1=>match v with
 | .d x=>if (keyD x).isSome=true then .ok (.d x) fs1 else .bad
 | _=> .bad
theorem aDT:aEm fe s=axo (fe s):=rfl
theorem atM:axo (.ok (.d (.int i)) s)= .ok (.d (.int i)) s:=rfl
theorem atU:axo (.ok (.d (.str x)) s)= .ok (.d (.str x)) s:=rfl
theorem aqo{α:Type}{a b:α}:cond true a b=a:=rfl
theorem arI{α:Type}{a b:α}:cond false a b=b:=rfl
theorem aiK(neg:Bool)(x:Str)(ys:List Str):ahL neg (.str x) (.tup (ys.map .str))=some (.bl (neg ^^ ys.any fun y=>decide (y=x))):=by
 rw [auy,if_pos (axz fun y hy=>by obtain ⟨z,_,rfl⟩:=List.mem_map.mp hy;rfl)]
 congr 3
 induction ys with
 | nil=>rfl
 | cons y ys ih=>rw [List.map_cons,aq3,agu,ih,List.any_cons]
theorem ap7{a:Str}:ahL false (.str x) (.tup [.str a])=some (.bl (decide (a=x))):=by
 rw [show ([.str a]:List D)= [a].map D.str from rfl,aiK];simp
theorem apF{a b:Str}:ahL false (.str x) (.tup [.str a, .str b])=some (.bl (decide (a=x) || decide (b=x))):=by
 rw [show ([.str a, .str b]:List D)= [a,b].map D.str from rfl,aiK];simp
theorem aqp{a b c:Str}:ahL false (.str x) (.tup [.str a, .str b, .str c])=some (.bl (decide (a=x) || (decide (b=x) || decide (c=x)))):=by
 rw [show ([.str a, .str b, .str c]:List D)= [a,b,c].map D.str from rfl,aiK];simp
end
end DL
end
section
namespace DL
open PySem PySem.Spec PyProof.Rows L2
section
variable {fe:FE}{fr:FA}{s:FS}{xs:List D}{vs:List FV}
def apP(fr:FA):Rs FV→Rs (List FV):=fun r=>r.bind fun v fs1=>match v with
 | .d (.tup xs)=>(fr fs1).bind fun vs fs2=> .ok (xs.map .d ++ vs) fs2
 | _=> .bad
def ar8(xs:List D):Rs (List FV)→Rs (List FV):=fun r=>r.bind fun vs fs2=> .ok (xs.map .d ++ vs) fs2
theorem ayo:aBJ fe fr s=apP fr (fe s):=rfl
theorem auU:apP fr (.ok (.d (.tup xs)) s)=ar8 xs (fr s):=rfl
theorem av0:ar8 xs (.ok vs s)= .ok (xs.map .d ++ vs) s:=rfl
variable {fi:FI}{g gj:FG}{ft ftj:FT}{fj:FE}{vs' us:List Nat}
def aDP:Rs FV→Rs FV:=fun r=>r.bind fun v fs1=>match v with
 | .d (.lst xs)=> .ok (.f (.lst xs)) fs1
 | _=> .bad
theorem aDq:aD9 fi g ft fe vs' s=aDP (fLc fi g ft fe vs' s):=rfl
theorem ayZ:aDP (.ok (.d (.lst xs)) s)= .ok (.f (.lst xs)) s:=rfl
end
end DL
end
section
namespace DL
open PySem PySem.Spec PyProof.Rows L2
section
variable {fe:FE}{fr:FA}{s s':FS}{xs ys:List D}{k:Nat}
def aAk:Rs (List FV)→Rs (List D × Option (Nat × M)):=fun r=>r.bind fun vs fs1=>match vs with
 | [.d (.tup xs), .d (.lst ys)]=> .ok (pairs xs ys,none) fs1
 | [.d (.tup xs), .s k]=>match yt fs1 k with
  | some (.lst ys)=> .ok (pairs xs ys,some (k, .lst ys)) fs1
  | _=> .bad
 | _=> .bad
theorem aq5{o:Option M}:agG (some (o.map (Sv.m false)))=false:=by cases o <;> rfl
theorem aDW:aD4 fr s=aAk (fr s):=rfl
theorem av3:aAk (.ok [.d (.tup xs), .d (.lst ys)] s)= .ok (pairs xs ys,none) s:=rfl
def aqn(xs:List D)(k:Nat)(s:FS):Option M→Rs (List D × Option (Nat × M))
 | some (.lst ys)=> .ok (pairs xs ys,some (k, .lst ys)) s
 | _=> .bad
theorem auM:aAk (.ok [.d (.tup xs), .s k] s)=aqn xs k s (yt s k):=by
 show (match yt s k with | some (.lst ys)=>_ | _=>_)=_
 unfold aqn
 cases yt s k with
 | none=>rfl
 | some o=>cases o <;> rfl
theorem apn:aqn xs k s (some (.lst ys))= .ok (pairs xs ys,some (k, .lst ys)) s:=rfl
variable {g:FG}{vs:List Nat}
end
end DL
end
section
namespace DL
open PySem PySem.Spec PyProof.Rows L2
section
variable {fe fo:FE}{fr:FA}{ft:FT}{f:Gq}{s s':FS}{k n:Nat}{cs:List Addr}{fn:Str}{g:Int→Int→Int}{C:Addr}{ns:List Str}{es:List D}{pr:Bool}{i j:Int}{z y acc:Str}{vs:List FV}{xs:List D}{ts:List FE}
def ayq(C:Addr)(fn:Str)(g:Int→Int→Int)(k:Nat)(i j:Int)(s:FS):Option (Option Sv)→O
 | some (some (.m pr (.ins C' ns' es')))=>if C'=C∧ns'.length < 1000 then .nx (s.set k (some (.m pr (.ins C (putN ns' fn) (putD ns' es' fn (.int (g i j))))))) else .bad
 | _=> .bad
def axQ(C:Addr)(fn:Str)(g:Int→Int→Int)(k:Nat)(i:Int):Rs FV→O:=fun r=>r.thn fun y s=>match y with
 | .d (.int j)=>ayq C fn g k i j s s[k]?
 | _=> .bad
def ayp(C:Addr)(fn:Str)(g:Int→Int→Int)(k:Nat)(fe:FE)(s:FS):Option D→O
 | some (.int i)=>axQ C fn g k i (fe s)
 | _=> .bad
def aAg(cs:List Addr)(fn:Str)(g:Int→Int→Int)(fe:FE)(k:Nat)(s:FS):Option (Option Sv)→O
 | some (some (.m _ (.ins C ns es)))=>if cs.contains C=true then ayp C fn g k fe s (lkp ns es fn) else .bad
 | _=> .bad
def azP(cs:List Addr)(fn:Str)(g:Int→Int→Int)(fe:FE):Rs FV→O:=fun r=>r.thn fun v s=>match v with
 | .s k=>aAg cs fn g fe k s s[k]?
 | _=> .bad
theorem aAi:sFldAug cs fn g fo fe s=azP cs fn g fe (fo s):=by
 unfold sFldAug azP
 congr 1
theorem au5:azP cs fn g fe (.ok (.s k) s)=aAg cs fn g fe k s s[k]? :=rfl
theorem awv:aAg cs fn g fe k s (some (some (.m pr (.ins C ns es))))=if cs.contains C=true then ayp C fn g k fe s (lkp ns es fn) else .bad:=rfl
theorem avv:ayp C fn g k fe s (some (.int i))=axQ C fn g k i (fe s):=rfl
theorem aua:axQ C fn g k i (.ok (.d (.int j)) s)=ayq C fn g k i j s s[k]? :=rfl
theorem awg:ayq C fn g k i j s (some (some (.m pr (.ins C ns es))))=if ns.length < 1000 then .nx (s.set k (some (.m pr (.ins C (putN ns fn) (putD ns es fn (.int (g i j))))))) else .bad:=by
 show (if C=C∧ns.length < 1000 then _ else _)=_
 by_cases h:ns.length < 1000
 ·rw [if_pos ⟨rfl,h⟩,if_pos h]
 ·rw [if_neg (fun q=>h q.2),if_neg h]
abbrev GMA:=Str→List D→Option D
def asy(gm:GMA)(z:Str)(s:FS):Option (List D)→Rs FV
 | some as=>Qz s (gm z as)
 | none=> .bad
def apj(gm:GMA)(z:Str):Rs (List FV)→Rs FV:=fun r=>r.bind fun vs s=>asy gm z s (QC s vs)
def ax5(gm:GMA)(fr:FA):Rs FV→Rs FV:=fun r=>r.bind fun v s=>match v with
 | .d (.str z)=>apj gm z (fr s)
 | _=> .bad
theorem aER{gm:GMA}:fMA gm fo fr s=ax5 gm fr (fo s):=by
 unfold fMA ax5
 cases fo s with
 | bad=>rfl
 | ex _ _=>rfl
 | ok v s1=>
  cases v with
  | s _=>rfl
  | f _=>rfl
  | d x=>
   cases x with
   | str z=>
    show (fr s1).bind _=apj gm z (fr s1)
    unfold apj
    cases fr s1 with
    | bad=>rfl
    | ex _ _=>rfl
    | ok w s2=>show (match QC s2 w with | some y=>_ | none=>_)=asy gm z s2 (QC s2 w);unfold asy Qz;cases QC s2 w <;> rfl
   | _=>rfl
theorem aDB{gm:GMA}:ax5 gm fr (.ok (.d (.str z)) s)=apj gm z (fr s):=rfl
theorem aA4{gm:GMA}:apj gm z (.ok vs s)=asy gm z s (QC s vs):=rfl
theorem aDa{gm:GMA}:asy gm z s (some xs)=Qz s (gm z xs):=rfl
theorem ayB:aEO z [.str y, .int i]=some (.bl (Txt.startswith3 z y i)):=rfl
theorem avN:axc [.int i]=if (decide (-1000000000 < i) && decide (i < 1000000000))=true then some (.str (toString i)) else none:=rfl
theorem av8:axc [.str z]=some (.str z):=rfl
def ayL:Rs FV→Rs FV:=fun r=>r.bind fun v fs1=>match v with
 | .d (.str y)=> .ok (.d (.str y)) fs1
 | .d (.int i)=>if (decide (-1000000000 < i) && decide (i < 1000000000))=true then .ok (.d (.str (toString i))) fs1 else .bad
 | _=> .bad
theorem aBE:aEL fe s=ayL (fe s):=rfl
theorem avx:ayL (.ok (.d (.str y)) s)= .ok (.d (.str y)) s:=rfl
theorem awu:ayL (.ok (.d (.int i)) s)=if (decide (-1000000000 < i) && decide (i < 1000000000))=true then .ok (.d (.str (toString i))) s else .bad:=rfl
def kJs(ts:List FE)(acc:Str):Rs FV→Rs Str:=fun r=>r.bind fun v fs1=>match v with
 | .d (.str y)=>if (acc ++ y).length≤most then fJs ts (acc ++ y) fs1 else .bad
 | _=> .bad
def kJ:Rs Str→Rs FV:=fun r=>r.bind fun out fs1=> .ok (.d (.str out)) fs1
theorem c_j:fJ ts s=kJ (fJs ts Str.empty s):=rfl
theorem aEg:kJ (.ok y s)= .ok (.d (.str y)) s:=rfl
theorem aqP:fJs [] acc s= .ok acc s:=rfl
theorem aEr:fJs (fe::ts) acc s=kJs ts acc (fe s):=rfl
theorem aCv:kJs ts acc (.ok (.d (.str y)) s)=if (acc ++ y).length≤most then fJs ts (acc ++ y) s else .bad:=Eq.trans rfl rfl
end
end DL
end
section
namespace DL
open PySem PySem.Spec PyProof.Rows L2
section
variable {s s1:FS}{fe fo ff fk fv:FE}{fr:FA}{ks:List Key}{ds xs ys ps:List D}{z d a b:D}{v w:FV}{g:FG}{ft:FT}{fi:FI}{vs:List Nat}{pr:Bool}{k i:Nat}{frs:List (FE × FE)}
def amu(y:FV):Rs FV→Rs FV:=fun r=>r.bind fun z fs2=>match y,z with
 | .d a, .d b=>if (keyD a).isSome=true then .ok (.d (.tup [a,b])) fs2 else .bad
 | _,_=> .bad
def axd(fv:FE):Rs FV→Rs FV:=fun r=>r.bind fun y fs1=>amu y (fv fs1)
theorem azx:arP fk fv s=axd fv (fk s):=rfl
theorem aui:axd fv (.ok v s)=amu v (fv s):=rfl
theorem auP:amu (.d a) (.ok (.d b) s)=if (keyD a).isSome=true then .ok (.d (.tup [a,b])) s else .bad:=rfl
/-- the keys of a dict that is walked -/
def kIK:Rs FV→Rs (List D × Option (Nat × M)):=fun r=>r.bind fun v fs1=>match v with
 | .d (.dct ks _)=>if ks.all keyOk=true then .ok (ks.map kD,none) fs1 else .bad
 | _=> .bad
theorem aEi:fIK fe s=kIK (fe s):=rfl
theorem aCm:kIK (.ok (.d (.dct ks ds)) s)=if ks.all keyOk=true then .ok (ks.map kD,none) s else .bad:=rfl
/-- extend -/
def as6(k:Nat)(ys:List D)(s:FS):Option (Option Sv)→Rs FV
 | some (some (.m pr (.lst xs)))=>if xs.length + ys.length < most then .ok (.d .non) (s.set k (some (.m pr (.lst (xs ++ ys))))) else .bad
 | _=> .bad
def apQ(v:FV):Rs (List FV)→Rs FV:=fun r=>r.bind fun vs fs2=>match v,vs with
 | .s k,[.d (.lst ys)]=>as6 k ys fs2 fs2[k]?
 | _,_=> .bad
def azr(fr:FA):Rs FV→Rs FV:=fun r=>r.bind fun v fs1=>if agP fs1 v=true then apQ v (fr fs1) else .bad
theorem aBO:aBR fo fr s=azr fr (fo s):=by
 unfold aBR azr
 cases fo s with
 | bad=>rfl
 | ex _ _=>rfl
 | ok v s1=>
  show (if agP s1 v=true then _ else Rs.bad)=(if agP s1 v=true then _ else Rs.bad)
  congr 1
theorem ax3:azr fr (.ok v s)=if agP s v=true then apQ v (fr s) else .bad:=rfl
theorem azi:apQ (.s k) (.ok [.d (.lst ys)] s)=as6 k ys s s[k]? :=rfl
theorem aAF:as6 k ys s (some (some (.m pr (.lst xs))))=if xs.length + ys.length < most then .ok (.d .non) (s.set k (some (.m pr (.lst (xs ++ ys))))) else .bad:=Eq.trans rfl rfl
/-- d.get(k,z) -/
def arG(ks:List Key)(ds:List D)(y:FV):Rs FV→Rs FV:=fun r=>r.bind fun z fs3=>match y,z with
 | .d a, .d b=>match keyD a with
  | some k=> .ok (.d ((acL ks ds k).getD b)) fs3
  | none=> .bad
 | _,_=> .bad
def apI(ks:List Key)(ds:List D)(ff:FE):Rs FV→Rs FV:=fun r=>r.bind fun y fs2=>arG ks ds y (ff fs2)
def aw9(fe ff:FE):Rs FV→Rs FV:=fun r=>r.bind fun v fs1=>match v with
 | .d (.dct ks ds)=>apI ks ds ff (fe fs1)
 | _=> .bad
theorem aDM:aEv fo fe ff s=aw9 fe ff (fo s):=rfl
theorem ay5:aw9 fe ff (.ok (.d (.dct ks ds)) s)=apI ks ds ff (fe s):=rfl
theorem axU:apI ks ds ff (.ok v s)=arG ks ds v (ff s):=rfl
theorem ayu{x:Str}:arG ks ds (.d (.str x)) (.ok (.d b) s)= .ok (.d ((acL ks ds (.inr x)).getD b)) s:=rfl
/-- displays -/
def awJ:Rs (List D)→Rs FV:=fun r=>r.bind fun ps fs1=>if ps.length≤15 then .ok (.d (.dct (akJ ps ([],[])).1 (akJ ps ([],[])).2)) fs1 else .bad
theorem aAo:aCC frs s=awJ (aa9 frs s):=rfl
theorem au3:awJ (.ok ps s)=if ps.length≤15 then .ok (.d (.dct (akJ ps ([],[])).1 (akJ ps ([],[])).2)) s else .bad:=rfl
theorem aAd:aa9 [] s= .ok [] s:=rfl
end
end DL
end
section
namespace DL
open PySem PySem.Spec PyProof.Rows L2
section
variable {s s1:FS}{fe:FE}{fr:FA}{C:Addr}{cs:List Addr}{nm f:Str}{x y z d vc vf:D}{v w:FV}{vs:List FV}{as as':List Ar}{ns:List Str}{ds:List D}{mff mf:MF}{g body:Gq}{gg:FG}{xs:List D}
theorem aso:auD C nm f fe s=ajg C nm f (fe s):=rfl
theorem aou:ajg C nm f (.ok (.d x) s)= .ex (.exc C [f,"code"] [x, .str nm]) s:=rfl
theorem arf:auG C nm s= .ex (.exc C ["code"] [.str nm]) s:=rfl
theorem apl:(O.ex x s).seq g= .ex x s:=rfl
def apa(x:D):Option (List Ar)→Rm
 | some as=> .ex x as
 | none=> .bad
theorem ar5:acI as (.ex x s)=apa x (yh s 0 as):=by
 show (match yh s 0 as with | some as'=>Rm.ex x as' | none=> .bad)=_
 unfold apa;cases yh s 0 as <;> rfl
theorem aoN:apa x (some as)= .ex x as:=rfl
theorem axS:ata s vs (.ex x as)=av1 x (putBack s vs as):=rfl
theorem aCR:av1 x (some s)= .ex x s:=rfl
theorem ayT:kCF (.ex x s)= .ex x s:=rfl
theorem aoA:Za g (.ex x s)= .ex x s:=rfl
theorem avP{g:FG}:au1 g (.ex x s)= .ex x s:=rfl
theorem ayk:kRt (.ex x s)= .ex x s:=rfl
theorem asl:apR (.ex x s)= .ex x s:=rfl
theorem azb:kIf g body (.ex x s)= .ex x s:=rfl
def at8(s:FS):Option D→Rs FV
 | some d=> .ok (.d d) s
 | none=> .bad
def kXf(cs:List Addr)(f:Str):Rs FV→Rs FV:=fun r=>r.bind fun v fs1=>at8 fs1 (xfG cs f (v9 fs1 v))
theorem aEK:fXf cs f fe s=kXf cs f (fe s):=by
 unfold fXf kXf at8
 cases fe s with
 | bad=>rfl
 | ex _ _=>rfl
 | ok v s1=>
  show (match xfG cs f (v9 s1 v) with | some d=>Rs.ok (FV.d d) s1 | none=> .bad)=(match xfG cs f (v9 s1 v) with | some d=>_ | none=>_)
  rfl
theorem aAX:kXf cs f (.ok v s)=at8 s (xfG cs f (v9 s v)):=rfl
theorem aC5:at8 s (some d)= .ok (.d d) s:=rfl
theorem aBU:xfG cs f (some (.exc C ns ds))=if cs.contains C then lkp ns ds f else none:=rfl
theorem aDd:aA1 cs mff fe s=avO cs mff (fe s):=rfl
theorem arw:avO cs mff (.ok (.d x) s)= .ok (.d (.tup [.str "",x])) s:=rfl
theorem aqH:avO cs mff (.ex x s)=aq9 mff x s (xfG cs "code" (some x)):=rfl
theorem ayN:aq9 mff x s (some vc)=ap3 vc s (mff [.d x]):=rfl
theorem ax8:ap3 vc s (.ok (.d vf) [.d y])= .ok (.d (.tup [vc,vf])) s:=rfl
end
end DL
end
section
namespace DL
open PySem PySem.Spec PyProof.Rows L2
/-- some slots' names are hidden -/
def awa(N N':List Str)(sc:Scope):Bool:=decide (N'.length=N.length) && (N.zip N').all fun p=>decide (p.2=p.1) || !(decide (sc.names.lookup p.2=some .cell) || decide (sc.names.lookup p.2=some .free))
/-- what is known of the lambdas of a frame -/
structure aiV(X:Cx)(k:Nat)(T:afg)(bodies:Nat→Option DE):Prop where
 q:T.q=X.env.qual ++ "<lambda>"
 cells:T.cells=X.env.cells
 at_:∀kk params body scope b db,T.lam kk=some (params,body,scope,b)→bodies kk=some db→∃(t:XK→TE) (ps N':List Str),awa X.N N' X.env.scope=true∧EXX.LamD N' X.env.scope scope ps∧
  (∀pm c' ctv dV,((b=false∧dV= .none)∨(b=true∧∃a:Addr,dV= .ref a))→EXX.BindD (EXX.lamFd (X.env.qual ++ "<lambda>") params body scope (cloFrom X.env.cells scope.names []) pm (.ref c') ctv dV) ps dV)∧
  ∀(A:Around) (outer:List Env) (s:Shared) (H:Hp) (E:XK) (f c':Addr),Room k (A.deeper (LamX.lamEnv X scope s.heap.objs.size f c'))→PD (LamX.lamCx {X with N:=N'} A outer s H E scope f c') E body (t E) db
end DL
end
section
namespace DL
open PySem PySem.Spec PyProof.Rows L2
def pk:Nat→vY→List (Nat × D)
 | _,[]=> []
 | i,some d::δ=>(i,d)::pk (i + 1) δ
 | i,none::δ=>pk (i + 1) δ
end DL
end
section
namespace DL
open PySem PySem.Spec PyProof.Rows L2
def ao3(isT:afg→Bool):List D→Option (List Nat)
 | []=>some []
 | .fn k T []::xs=>if isT T then (ao3 isT xs).map (k:: ·) else none
 | _=>none
def azA(cs:List Addr)(mff:MF)(fbs:List FE):List Nat→FS→Rs (List D)
 | [],s=> .ok [] s
 | k::ks,s=>match fbs[k]? with
  | some fb=>match aA1 cs mff fb s with
   | .ok (.d v) s1=>match azA cs mff fbs ks s1 with
    | .ok vs s2=> .ok (v::vs) s2
    | _=> .bad
   | _=> .bad
  | none=> .bad
def aiN:Rs (List D)→Rs FV
 | .ok rs s=> .ok (.d (.lst rs)) s
 | _=> .bad
def ai0(n:Nat)(cs:List Addr)(mff:MF)(fbs:List FE)(s:FS):Option (List Nat)→Rs FV
 | some ks=>if s.length=n∧ks.length≤1000 then aiN (azA cs mff fbs ks s) else .bad
 | none=> .bad
def ams(n:Nat)(isT:afg→Bool)(cs:List Addr)(mff:MF)(fbs:List FE):Rs FV→Rs FV:=fun r=>r.bind fun v s=>match v with
 | .d (.lst xs)=>ai0 n cs mff fbs s (ao3 isT xs)
 | _=> .bad
def ayD(n:Nat)(isT:afg→Bool)(cs:List Addr)(mff:MF)(fbs:List FE)(fe:FE):FE:=fun fs=>ams n isT cs mff fbs (fe fs)
inductive arx:List DE→List FE→Prop
 | nil:arx [] []
 | cons {de:DE} {fe:FE} {ds:List DE} {fs:List FE}:gM VR de fe→arx ds fs→arx (de::ds) (fe::fs)
theorem arx.get:∀ {ds:List DE} {fs:List FE} {k:Nat} {fe:FE},arx ds fs→fs[k]? =some fe→∃de,ds[k]? =some de∧gM VR de fe
 | _,_,_,_, .nil,h=>by simp at h
 | _,_,0,_, .cons a _,h=>by simp at h;subst h;exact ⟨_,rfl,a⟩
 | _,_,k + 1,_, .cons _ b,h=>by
  obtain ⟨de,h1,h2⟩:=b.get (k:=k) (by simpa using h)
  exact ⟨de,by simpa using h1,h2⟩
section
variable {s s1 s2:FS}{fe fb:FE}{fbs:List FE}{cs:List Addr}{mff:MF}{n k:Nat}{isT:afg→Bool}{T:afg}{xs vs:List D}{v:D}{ks:List Nat}
theorem awe:ayD n isT cs mff fbs fe s=ams n isT cs mff fbs (fe s):=rfl
theorem aqJ:ams n isT cs mff fbs (.ok (.d (.lst xs)) s)=ai0 n cs mff fbs s (ao3 isT xs):=rfl
theorem arE:ai0 n cs mff fbs s (some ks)=if s.length=n∧ks.length≤1000 then aiN (azA cs mff fbs ks s) else .bad:=rfl
theorem ap5:aiN (.ok vs s)= .ok (.d (.lst vs)) s:=rfl
theorem avm:ao3 isT []=some []:=rfl
theorem awb:ao3 isT (.fn k T []::xs)=if isT T=true then (ao3 isT xs).map (k:: ·) else none:=rfl
end
theorem aAE{q:Str}{params:Arguments}{body:Expr}{scope:Scope}{cl:List (Str × Addr)}{pm cv ctv dV:Value}(hd:dV= .none)(h:bindArgs (PySem.W.kla_fn "<lambda>" q params body scope cl pm cv ctv) ⟨[],[]⟩=pure []):
  EXX.BindD (EXX.lamFd q params body scope cl pm cv ctv dV) [] dV:=fun M hh _=>⟨[],fun y hy=>(by cases hy),by subst hd;exact PySem.W.Looks.of_pure h⟩
theorem az5{q:Str}{params:Arguments}{body:Expr}{scope:Scope}{cl:List (Str × Addr)}{pm cv ctv dV:Value}{a:Str}{t:Addr}(hd:dV= .ref t)(h:∀v:Value,∃k,bindArgs (EXX.lamFd q params body scope cl pm cv ctv (.ref t)) ⟨[],[]⟩=seqItems? (.ref t) >>=k∧k (some #[v])=pure [(a,v)]):
  EXX.BindD (EXX.lamFd q params body scope cl pm cv ctv dV) [a] dV:=fun M hh dok=>by
 subst hd
 rcases dok with e | ⟨t',i,tk,e,o,ho,-,n,hdat⟩
 ·cases e
 cases e
 obtain ⟨k,e1,e2⟩:=h (.int i tk)
 refine ⟨[(a, .int i tk)],fun y hy=>by simpa using congrArg Prod.fst (List.mem_singleton.mp hy),?_⟩
 rw [e1]
 exact fun A Q E s kp q=>wpAny_bind (wpAny_seqItems (kp _ _ ho) hdat (by rw [e2];exact wpAny_pure q))
inductive acM(X:Cx)(k:Nat):List (Option (Arguments × Expr × Scope × Bool))→List DE→Prop
 | nil:acM X k [] []
 | cons0 {params:Arguments} {body:Expr} {scope:Scope} {t:XK→TE} {db:DE} {l:List (Option (Arguments × Expr × Scope × Bool))} {ds:List DE} {N':List Str}:awa X.N N' X.env.scope=true→EXX.LamD N' X.env.scope scope []→(∀(q:Str) (cl:List (Str × Addr)) (pm cv ctv:Value),bindArgs (PySem.W.kla_fn "<lambda>" q params body scope cl pm cv ctv) ⟨[],[]⟩=pure [])→
   (∀(A:Around) (outer:List Env) (s:Shared) (H:Hp) (E:XK) (f c':Addr),Room k (A.deeper (LamX.lamEnv X scope s.heap.objs.size f c'))→PD (LamX.lamCx {X with N:=N'} A outer s H E scope f c') E body (t E) db)→acM X k l ds→acM X k (some (params,body,scope,false)::l) (db::ds)
 | cons1 {params:Arguments} {body:Expr} {scope:Scope} {a:Str} {t:XK→TE} {db:DE} {l:List (Option (Arguments × Expr × Scope × Bool))} {ds:List DE} {N':List Str}:awa X.N N' X.env.scope=true→EXX.LamD N' X.env.scope scope [a]→(∀(q:Str) (cl:List (Str × Addr)) (pm cv ctv:Value) (T:Addr) (v:Value),∃k,bindArgs (EXX.lamFd q params body scope cl pm cv ctv (.ref T)) ⟨[],[]⟩=seqItems? (.ref T) >>=k∧k (some #[v])=pure [(a,v)])→
   (∀(A:Around) (outer:List Env) (s:Shared) (H:Hp) (E:XK) (f c':Addr),Room k (A.deeper (LamX.lamEnv X scope s.heap.objs.size f c'))→PD (LamX.lamCx {X with N:=N'} A outer s H E scope f c') E body (t E) db)→acM X k l ds→acM X k (some (params,body,scope,true)::l) (db::ds)
theorem acM.at_{X:Cx}{k:Nat}:∀ {l:List (Option (Arguments × Expr × Scope × Bool))} {ds:List DE},acM X k l ds→∀(kk:Nat) (params:Arguments) (body:Expr) (scope:Scope) (b:Bool) (db:DE),l[kk]?.join=some (params,body,scope,b)→ds[kk]? =some db→∃(t:XK→TE) (ps N':List Str),awa X.N N' X.env.scope=true∧EXX.LamD N' X.env.scope scope ps∧
  (∀pm c' ctv dV,((b=false∧dV= .none)∨(b=true∧∃a:Addr,dV= .ref a))→EXX.BindD (EXX.lamFd (X.env.qual ++ "<lambda>") params body scope (cloFrom X.env.cells scope.names []) pm (.ref c') ctv dV) ps dV)∧
  ∀(A:Around) (outer:List Env) (s:Shared) (H:Hp) (E:XK) (f c':Addr),Room k (A.deeper (LamX.lamEnv X scope s.heap.objs.size f c'))→PD (LamX.lamCx {X with N:=N'} A outer s H E scope f c') E body (t E) db
 | _,_, .nil,kk,_,_,_,_,_,h,_=>by simp at h
 | _,_, .cons0 z a b c d,0,_,_,_,_,_,h,h2=>by
  simp at h h2
  obtain ⟨rfl,rfl,rfl,rfl⟩:=h
  subst h2
  refine ⟨_,_,_,z,a,fun pm c' ctv dV q=> ?_,c⟩
  rcases q with ⟨-,q⟩ | ⟨q,-⟩
  ·exact aAE q (b _ _ _ _ _)
  ·cases q
 | _,_, .cons1 z a b c d,0,_,_,_,_,_,h,h2=>by
  simp at h h2
  obtain ⟨rfl,rfl,rfl,rfl⟩:=h
  subst h2
  refine ⟨_,_,_,z,a,fun pm c' ctv dV q=> ?_,c⟩
  rcases q with ⟨q,-⟩ | ⟨-,t,q⟩
  ·cases q
  ·exact az5 q (b _ _ _ _ _ t)
 | _,_, .cons0 _ _ _ _ d,kk + 1,_,_,_,_,_,h,h2=>d.at_ kk _ _ _ _ _ (by simpa using h) (by simpa using h2)
 | _,_, .cons1 _ _ _ _ d,kk + 1,_,_,_,_,_,h,h2=>d.at_ kk _ _ _ _ _ (by simpa using h) (by simpa using h2)
abbrev aBL(q:Str)(cells:List (Str × Addr))(l:List (Option (Arguments × Expr × Scope × Bool))):afg:=⟨q,cells,fun k=>l[k]?.join,[],[]⟩
theorem acM.ok{X:Cx}{k:Nat}{l:List (Option (Arguments × Expr × Scope × Bool))}{ds:List DE}(L:acM X k l ds):aiV X k (aBL (X.env.qual ++ "<lambda>") X.env.cells l) (fun k=>ds[k]?):=⟨rfl,rfl,fun kk params body scope b db h1 h2=>L.at_ kk params body scope b db h1 h2⟩
theorem aiV.to{X:Cx}{k:Nat}{T T1:afg}{bodies:Nat→Option DE}(L:aiV X k T bodies)(e1:T1.q=T.q)(e2:T1.cells=T.cells)(e3:T1.lam=T.lam):aiV X k T1 bodies:=⟨e1.trans L.q,e2.trans L.cells,fun kk params body scope b db h1 h2=>L.at_ kk params body scope b db (by rw [← e3];exact h1) h2⟩
end DL
end
section
namespace DL
open PySem PySem.Spec PyProof.Rows L2
section
variable {dr dk:DA}{fr fk:FA}{de do_:DE}{fe fo:FE}{mf:MF}{C:Addr}{m:Str}{neg:Bool}{p:D→Bool}{P:D→Prop}
def as4(n q:Nat)(idx:List Nat)(vs ws:List FV)(s:FS):Rs (List FV):=if vs.length=n∧ws.length=q∧ws.any FV.isF=false then .ok (pick idx (vs ++ ws)) s else .bad
def apO(n q:Nat)(idx:List Nat)(fk:FA):Rs (List FV)→Rs (List FV):=fun r=>r.bind fun vs fs1=>if vs.any FV.isF then .bad else (fk fs1).bind fun ws fs2=>as4 n q idx vs ws fs2
def aBA(n q:Nat)(idx:List Nat)(fr fk:FA):FA:=fun fs=>apO n q idx fk (fr fs)
def aCt(C:Addr)(m:Str)(mf:MF)(fo:FE):FE:=arN C m (noX mf) [] fo cX
def ara(p:D→Bool):Rs FV→Rs FV
 | .ok (.d v) s=>if p v=true then .ok (.d v) s else .bad
 | _=> .bad
def aD1(C:Addr)(mf:MF)(p:D→Bool):FOn:=fun fs vs=>match vs with
 | [x]=>if x.isF=false∧agL C (v9 fs x)=true then ara p (BX (noX mf) fs [x]) else .bad
 | _=> .bad
def azC:D→Bool
 | .str _=>true
 | _=>false
def azK:D→Bool
 | .int i=>decide (0≤i) && decide (i < 9223372036854775808)
 | _=>false
def asj(neg:Bool):Rs FV→Rs FV
 | .ok (.d (.bl b)) s=> .ok (.d (.bl (b !=neg))) s
 | _=> .bad
def aEz(neg:Bool)(C:Addr)(mf:MF):FO2:=fun fs x y=>if x.isF=false∧y.isF=false∧agL C (v9 fs y)=true then asj neg (BX (noX mf) fs [y,x]) else .bad
def ajb(C:Addr):Option D→Bool
 | some (.obj C' _ _)=>decide (C'=C)
 | some d=>(tyN (fun _=>none) d).isSome
 | none=>false
def aDI(neg:Bool)(C:Addr)(mf:MF):FO2:=fun fs x y=>if x.isF=false∧y.isF=false∧agL C (v9 fs x)=true∧ajb C (v9 fs y)=true then asj neg (BX (noX mf) fs [x,y]) else .bad
end
def amn(C:Addr):D→Option D
 | .obj C' _ _=>if C'=C then some (.bl true) else none
 | d=>if (tyN (fun _=>none) d).isSome=true then some (.bl false) else none
def aiT(i:Int):Bool:=decide (-1000000000000000000000000000000000000000000000 < i) && decide (i < 1000000000000000000000000000000000000000000000)
def aBv:List D→Option D
 | [.int i]=>if aiT i=true then some (.str (toString i)) else none
 | _=>none
def anW:Rs FV→Rs FV
 | .ok (.d (.str y)) s=> .ok (.d (.str y)) s
 | .ok (.d (.int i)) s=>if aiT i=true then .ok (.d (.str (toString i))) s else .bad
 | .ex x s=> .ex x s
 | _=> .bad
def aBX(fe:FE):FE:=fun fs=>anW (fe fs)
section
variable {s:FS}{fe:FE}{fr fk:FA}{mf:MF}{C C':Addr}{m:Str}{neg b:Bool}{p:D→Bool}{x y:FV}{d:D}{vs ws:List FV}{n q:Nat}{idx:List Nat}{ns:List Str}{ds:List D}{i:Int}
theorem ayO:aBA n q idx fr fk s=apO n q idx fk (fr s):=rfl
def aqr(n q:Nat)(idx:List Nat)(vs:List FV):Rs (List FV)→Rs (List FV):=fun r=>r.bind fun ws fs2=>as4 n q idx vs ws fs2
theorem auJ:apO n q idx fk (.ok vs s)=if vs.any FV.isF then .bad else aqr n q idx vs (fk s):=rfl
theorem auY:aqr n q idx vs (.ok ws s)=if vs.length=n∧ws.length=q∧ws.any FV.isF=false then .ok (pick idx (vs ++ ws)) s else .bad:=rfl
theorem ay9:aCt C m mf fe s=arN C m (noX mf) [] fe cX s:=rfl
theorem aCY:aD1 C mf p s [x]=if x.isF=false∧agL C (v9 s x)=true then ara p (BX (noX mf) s [x]) else .bad:=rfl
theorem aAh:ara p (.ok (.d d) s)=if p d=true then .ok (.d d) s else .bad:=rfl
theorem arX{z:Str}:azC (.str z)=true:=rfl
theorem aqW:azK (.int i)=(decide (0≤i) && decide (i < 9223372036854775808)):=rfl
theorem aBx:aEz neg C mf s x y=if x.isF=false∧y.isF=false∧agL C (v9 s y)=true then asj neg (BX (noX mf) s [y,x]) else .bad:=rfl
theorem aBw:asj neg (.ok (.d (.bl b)) s)= .ok (.d (.bl (b !=neg))) s:=rfl
theorem axX:aDI neg C mf s x y=if x.isF=false∧y.isF=false∧agL C (v9 s x)=true∧ajb C (v9 s y)=true then asj neg (BX (noX mf) s [x,y]) else .bad:=rfl
theorem aCI:ajb C (some (.obj C' ns ds))=decide (C'=C):=rfl
theorem aDV:ajb C (some (.tup ds))=true:=rfl
theorem aCS:ajb C (some (.lst ds))=true:=rfl
theorem aCK{z:Str}:ajb C (some (.str z))=true:=rfl
theorem aCw{ks:List Key}:ajb C (some (.dct ks ds))=true:=rfl
theorem aC1:ajb C (some (.int i))=true:=rfl
theorem aBr:ajb C (some .non)=true:=rfl
theorem ark{ns:List Str}{ds:List D}:amn C (.obj C' ns ds)=if C'=C then some (.bl true) else none:=rfl
theorem arh{ds:List D}:amn C (.tup ds)=some (.bl false):=rfl
theorem aqV{ds:List D}:amn C (.lst ds)=some (.bl false):=rfl
theorem asM{z:Str}:amn C (.str z)=some (.bl false):=rfl
theorem aqc{ks:List Key}{ds:List D}:amn C (.dct ks ds)=some (.bl false):=rfl
theorem aqq:amn C (.int i)=some (.bl false):=rfl
theorem apv:amn C .non=some (.bl false):=rfl
theorem av5:aBv [.int i]=if aiT i=true then some (.str (toString i)) else none:=rfl
theorem azX:aBX fe s=anW (fe s):=rfl
theorem aqB:anW (.ok (.d (.int i)) s)=if aiT i=true then .ok (.d (.str (toString i))) s else .bad:=rfl
theorem asV{z:Str}:anW (.ok (.d (.str z)) s)= .ok (.d (.str z)) s:=rfl
end
end DL
end
section
namespace DL
open PySem PySem.Spec PyProof.Rows L2
section
variable {s:FS}{fk fv:FE}{frs:List (FE × FE)}{p:D}{ps:List D}
def aw2(frs:List (FE × FE)):Rs FV→Rs (List D):=fun r=>r.bind fun v fs1=>match v with
 | .d p=>(aa9 frs fs1).bind fun ps fs2=> .ok (p::ps) fs2
 | _=> .bad
theorem axW:aa9 ((fk,fv)::frs) s=aw2 frs (arP fk fv s):=rfl
def awN(p:D):Rs (List D)→Rs (List D):=fun r=>r.bind fun ps fs2=> .ok (p::ps) fs2
theorem axl:aw2 frs (.ok (.d p) s)=awN p (aa9 frs s):=rfl
theorem azM:awN p (.ok ps s)= .ok (p::ps) s:=rfl
end
end DL
end
section
namespace Mine
open PySem PySem.Spec PyProof.Rows L2 DL
@[reducible] def aq:Addr:=340
@[reducible] def cW:Addr:=361
@[reducible] def aM:Addr:=256
@[reducible] def ao:Addr:=403
@[reducible] def aG:Addr:=214
@[reducible] def aJ:Addr:=382
@[reducible] def aR:Addr:=46
@[reducible] def au:Addr:=235
@[reducible] def aP:Addr:=424
@[reducible] def aK:Addr:=298
@[reducible] def aH:Addr:=67
@[reducible] def aO:Addr:=193
@[reducible] def aap:Addr:=478
@[reducible] def aX:Addr:=109
@[reducible] def aY:Addr:=466
@[reducible] def aU:Addr:=521
@[reducible] def U4:Addr:=24
@[reducible] def dF:Addr:=445
@[reducible] def bH:Addr:=130
@[reducible] def bB:Addr:=151
@[reducible] def bx:Addr:=319
@[reducible] def bD:Addr:=172
@[reducible] def aQ:Addr:=500
@[reducible] def aV:Addr:=88
@[reducible] def aW:Addr:=277
def xcl:List Addr:= [aR,aH,aV,aX,bH,bB,bD,aO,aG,au,aM,aW,aK,bx,aq,cW,aJ,ao,aP,dF,aY,aQ,aU]
def Qw:List (Addr × Bool):=xcl.zip [false,false,false,false,false,false,false,false,false,false,false,false,false,false,false,false,false,false,false,false,false,false,true]
def Kv:List (Addr × Bool):=xcl.zip [false,false,false,false,false,false,false,false,false,false,false,false,false,false,false,false,false,false,false,false,false,true,true]
def Zb:List (Addr × Bool):=xcl.zip [false,false,false,false,false,false,false,false,false,false,false,false,false,false,false,false,false,false,false,false,false,true,false]
def QL:List (Addr × Bool):=xcl.zip [true,true,true,true,true,true,true,true,true,true,true,true,true,true,true,true,true,true,true,true,true,false,false]
def Vk:List (Addr × Bool):=xcl.zip [true,true,true,true,true,true,true,true,true,true,true,true,true,true,true,true,true,true,true,true,true,false,false]
def Kr:List (Addr × Bool):=xcl.zip [false,false,false,false,false,false,false,false,false,false,false,false,false,false,false,false,false,false,false,false,false,false,true]
def Kw:List (Addr × Bool):=xcl.zip [false,false,false,false,false,false,false,false,false,false,false,false,false,false,false,false,false,false,false,false,false,true,false]
def W9:List (Addr × Bool):=xcl.zip [false,false,false,false,false,false,false,false,false,false,false,false,false,false,false,false,false,false,false,false,true,false,false]
def agH:List (Addr × Bool):=xcl.zip [false,false,false,false,false,false,false,false,false,false,false,false,false,false,false,false,false,false,false,true,false,false,false]
def KD:List (Addr × Bool):=xcl.zip [false,false,false,false,false,false,false,false,false,false,false,false,false,false,false,false,false,false,true,false,false,false,false]
def Dd:List (Addr × Bool):=xcl.zip [false,false,false,false,false,false,false,false,false,false,false,false,false,false,false,false,false,true,false,false,false,false,false]
def GZ:List (Addr × Bool):=xcl.zip [false,false,false,false,false,false,false,false,false,false,false,false,false,false,false,false,true,false,false,false,false,false,false]
def agp:List (Addr × Bool):=xcl.zip [false,false,false,false,false,false,false,false,false,false,false,false,false,false,false,true,false,false,false,false,false,false,false]
def Ei:List (Addr × Bool):=xcl.zip [false,false,false,false,false,false,false,false,false,false,false,false,false,false,true,false,false,false,false,false,false,false,false]
def Y5:List (Addr × Bool):=xcl.zip [false,false,false,false,false,false,false,false,false,false,false,false,false,true,false,false,false,false,false,false,false,false,false]
def GD:List (Addr × Bool):=xcl.zip [false,false,false,false,false,false,false,false,false,false,false,false,true,false,false,false,false,false,false,false,false,false,false]
def QJ:List (Addr × Bool):=xcl.zip [false,false,false,false,false,false,false,false,false,false,false,true,false,false,false,false,false,false,false,false,false,false,false]
def GX:List (Addr × Bool):=xcl.zip [false,false,false,false,false,false,false,false,false,false,true,false,false,false,false,false,false,false,false,false,false,false,false]
def Ek:List (Addr × Bool):=xcl.zip [false,false,false,false,false,false,false,false,false,true,false,false,false,false,false,false,false,false,false,false,false,false,false]
def G6:List (Addr × Bool):=xcl.zip [false,false,false,false,false,false,false,false,true,false,false,false,false,false,false,false,false,false,false,false,false,false,false]
def Kz:List (Addr × Bool):=xcl.zip [false,false,false,false,false,false,false,true,false,false,false,false,false,false,false,false,false,false,false,false,false,false,false]
def YX:List (Addr × Bool):=xcl.zip [false,false,false,false,false,false,true,false,false,false,false,false,false,false,false,false,false,false,false,false,false,false,false]
def Y9:List (Addr × Bool):=xcl.zip [false,false,false,false,false,true,false,false,false,false,false,false,false,false,false,false,false,false,false,false,false,false,false]
def aa5:List (Addr × Bool):=xcl.zip [false,false,false,false,true,false,false,false,false,false,false,false,false,false,false,false,false,false,false,false,false,false,false]
def Vl:List (Addr × Bool):=xcl.zip [false,false,false,true,false,false,false,false,false,false,false,false,false,false,false,false,false,false,false,false,false,false,false]
def QH:List (Addr × Bool):=xcl.zip [false,false,true,false,false,false,false,false,false,false,false,false,false,false,false,false,false,false,false,false,false,false,false]
def G4:List (Addr × Bool):=xcl.zip [false,true,false,false,false,false,false,false,false,false,false,false,false,false,false,false,false,false,false,false,false,false,false]
def Ku:List (Addr × Bool):=xcl.zip [true,false,false,false,false,false,false,false,false,false,false,false,false,false,false,false,false,false,false,false,false,false,false]
def G3:Gq:=
  (vG (Eh (akP (aA (Ef Ku (fVar 0)) (aA (Ef G4 (fVar 0)) (aA (Ef QH (fVar 0)) (aA (Ef Vl (fVar 0)) (aA (Ef aa5 (fVar 0)) (aA (Ef Y9 (fVar 0)) (aA (Ef YX (fVar 0)) (aA (Ef Kz (fVar 0)) cX))))))))) (gName 1))
  (vG (apU (awk (fVar 1) (aA (Ef G6 (fVar 0)) cX)))
  (vG (Eh (tU alc (fVar 1) (YQ (aA (Ef Ek (fVar 0)) (aA (Ef GX (fVar 0)) (aA (Ef QJ (fVar 0)) (aA (Ef GD (fVar 0)) (aA (Ef Y5 (fVar 0)) (aA (Ef Ei (fVar 0)) (aA (Ef agp (fVar 0)) cX))))))))) (gName 1))
  (vG (Eh (tU alc (fVar 1) (YQ (aA (Ef GZ (fVar 0)) (aA (Ef Dd (fVar 0)) (aA (Ef KD (fVar 0)) (aA (Ef agH (fVar 0)) (aA (Ef W9 (fVar 0)) (aA (Ef Kw (fVar 0)) (aA (Ef Kr (fVar 0)) cX))))))))) (gName 1))
  (Ko (awf (fVar 1)))))))
def Cy:MF:=acQ 2 1 (G3)
def iG:MF:=Cy
def Xh(fG:MF):Gq:=
  (vG (sIf (yq (Y4 (Ww aaI) (aA (fVar 1) (aA (fC (.ty "dict")) cX))))
   amE
   Ed)
  (vG (sIf (yq (Y4 (Ww aaI) (aA (fVar 1) (aA (Ce (aA (fC (.ty "list")) (aA (fC (.ty "tuple")) cX))) cX))))
   (vG (sIf (fOr (yq (tU (op2 gNe) (Y4 (Ww aaI) (aA (fVar 0) (aA (fC (.ty "list")) cX))) (Y4 (Ww aaI) (aA (fVar 1) (aA (fC (.ty "list")) cX))))) (yq (tU (op2 gNe) (Y4 (Ww aaI) (aA (fVar 0) (aA (fC (.ty "tuple")) cX))) (Y4 (Ww aaI) (aA (fVar 1) (aA (fC (.ty "tuple")) cX))))))
    (Ko (fC (.bl false)))
    Ed)
   (Ko (ak3 (tU (op2 gEq) (Y4 (Ww agM) (aA (fVar 0) cX)) (Y4 (Ww agM) (aA (fVar 1) cX))) (Y4 (Ww auj) (aA (fLc (fIZ (aA (fVar 0) (aA (fVar 1) cX))) (gTup 2 (Xc (gName 2) (Xc (gName 3) aiv))) aro (Yp fG [] (aA (fVar 2) (aA (fVar 3) cX))) [2,3]) cX)))))
   Ed)
  (vG (sIf (fOr (yq (tU (op2 al4) (fVar 1) (fC .non))) (yq (tU (op2 al4) (fVar 0) (fC .non))))
   (Ko (ak3 (tU (op2 al4) (fVar 1) (fC .non)) (tU (op2 al4) (fVar 0) (fC .non))))
   Ed)
  (vG (sIf (fOr (yq (tU (op2 gNe) (Y4 (Ww aaI) (aA (fVar 0) (aA (fC (.ty "bool")) cX))) (Y4 (Ww aaI) (aA (fVar 1) (aA (fC (.ty "bool")) cX))))) (yq (tU (op2 gNe) (Y4 (Ww aaI) (aA (fVar 0) (aA (fC (.ty "int")) cX))) (Y4 (Ww aaI) (aA (fVar 1) (aA (fC (.ty "int")) cX))))))
   (Ko (fC (.bl false)))
   Ed)
  (Ko (ak3 (tU (op2 gEq) (Y4 (Ww aaI) (aA (fVar 0) (aA (fC (.ty "str")) cX))) (Y4 (Ww aaI) (aA (fVar 1) (aA (fC (.ty "str")) cX)))) (tU (op2 gEq) (fVar 0) (fVar 1))))))))
def U9(fG:MF):MF:=acQ 4 2 (Xh fG)
def Y6:Nat→MF
 | 0=>fun _=> .bad
 | n + 1=>U9 (Y6 n)
def fG:MF:=Y6 6
def Vi:Gq:=
  (vG (sIf (yq (tU (op2 (ahL false)) (fXf [aR,aH,aV,aX,bH,bB,bD,aO,aG,au,aM,aW,aK,bx,aq,cW,aJ,ao,aP,dF,aY,aQ,aU] "code" (fVar 0)) (Ce (aA (fC (.str "InvalidName")) (aA (fC (.str "InvalidNumber")) (aA (fC (.str "InvalidPlace")) (aA (fC (.str "InvalidLimit")) cX)))))))
   (Ko (fXf [aR,aH,aV,aX,bH,bB,bD,aO,aG,au,aM,aW,aK,bx,aq,cW,aJ,ao,aP,dF,aY,aQ,aU] "given" (fVar 0)))
   Ed)
  (vG (sIf (yq (tU (op2 (ahL false)) (fXf [aR,aH,aV,aX,bH,bB,bD,aO,aG,au,aM,aW,aK,bx,aq,cW,aJ,ao,aP,dF,aY,aQ,aU] "code" (fVar 0)) (Ce (aA (fC (.str "InvalidShape")) (aA (fC (.str "UnknownUse")) (aA (fC (.str "NoFilling")) (aA (fC (.str "Silent")) (aA (fC (.str "TooLong")) (aA (fC (.str "TooWide")) (aA (fC (.str "Unreadable")) (aA (fC (.str "DuplicateName")) (aA (fC (.str "UnknownName")) cX))))))))))))
   (Ko (fXf [aR,aH,aV,aX,bH,bB,bD,aO,aG,au,aM,aW,aK,bx,aq,cW,aJ,ao,aP,dF,aY,aQ,aU] "name" (fVar 0)))
   Ed)
  (vG (sIf (yq (tU (op2 (ahL false)) (fXf [aR,aH,aV,aX,bH,bB,bD,aO,aG,au,aM,aW,aK,bx,aq,cW,aJ,ao,aP,dF,aY,aQ,aU] "code" (fVar 0)) (Ce (aA (fC (.str "InvalidText")) (aA (fC (.str "InvalidEvent")) (aA (fC (.str "InvalidBytes")) (aA (fC (.str "InvalidCommand")) cX)))))))
   (Ko (fXf [aR,aH,aV,aX,bH,bB,bD,aO,aG,au,aM,aW,aK,bx,aq,cW,aJ,ao,aP,dF,aY,aQ,aU] "at" (fVar 0)))
   Ed)
  (vG (sIf (yq (tU (op2 gEq) (fXf [aR,aH,aV,aX,bH,bB,bD,aO,aG,au,aM,aW,aK,bx,aq,cW,aJ,ao,aP,dF,aY,aQ,aU] "code" (fVar 0)) (fC (.str "TooMany"))))
   (Ko (fXf [aR,aH,aV,aX,bH,bB,bD,aO,aG,au,aM,aW,aK,bx,aq,cW,aJ,ao,aP,dF,aY,aQ,aU] "most" (fVar 0)))
   Ed)
  (vG (sIf (yq (tU (op2 gEq) (fXf [aR,aH,aV,aX,bH,bB,bD,aO,aG,au,aM,aW,aK,bx,aq,cW,aJ,ao,aP,dF,aY,aQ,aU] "code" (fVar 0)) (fC (.str "Full"))))
   (Ko (fXf [aR,aH,aV,aX,bH,bB,bD,aO,aG,au,aM,aW,aK,bx,aq,cW,aJ,ao,aP,dF,aY,aQ,aU] "limit" (fVar 0)))
   Ed)
  (Ko (fIf (yq (tU (op2 gEq) (fXf [aR,aH,aV,aX,bH,bB,bD,aO,aG,au,aM,aW,aK,bx,aq,cW,aJ,ao,aP,dF,aY,aQ,aU] "code" (fVar 0)) (fC (.str "InvalidPage")))) (fXf [aR,aH,aV,aX,bH,bB,bD,aO,aG,au,aM,aW,aK,bx,aq,cW,aJ,ao,aP,dF,aY,aQ,aU] "line" (fVar 0)) (fC .non))))))))
def PN:MF:=acQ 1 1 (Vi)
def qp:MF:=PN
def BZ:Gq:=
  (vG (Eh (YQ (aA (Ce (aA (Cg aR "InvalidName" "given" (aA (fVar 0) cX)) (aA (fVar 0) cX))) (aA (Ce (aA (Cg aH "InvalidShape" "name" (aA (fVar 0) cX)) (aA (fVar 0) cX))) (aA (Ce (aA (Cg aV "UnknownUse" "name" (aA (fVar 0) cX)) (aA (fVar 0) cX))) (aA (Ce (aA (Cg aX "NoFilling" "name" (aA (fVar 0) cX)) (aA (fVar 0) cX))) (aA (Ce (aA (Cg bH "Silent" "name" (aA (fVar 0) cX)) (aA (fVar 0) cX))) (aA (Ce (aA (Cg bB "TooLong" "name" (aA (fVar 0) cX)) (aA (fVar 0) cX))) (aA (Ce (aA (Cg bD "TooWide" "name" (aA (fVar 0) cX)) (aA (fVar 0) cX))) (aA (Ce (aA (Cg aO "InvalidText" "at" (aA (fVar 0) cX)) (aA (fVar 0) cX))) cX))))))))) (gName 1))
  (vG (Eh (tU (op2 Ks) (fVar 1) (YQ (aA (Ce (aA (Cg aG "InvalidEvent" "at" (aA (fVar 0) cX)) (aA (fVar 0) cX))) (aA (Ce (aA (Cg au "InvalidNumber" "given" (aA (fVar 0) cX)) (aA (fVar 0) cX))) (aA (Ce (aA (Cg aM "InvalidBytes" "at" (aA (fVar 0) cX)) (aA (fVar 0) cX))) (aA (Ce (aA (Cg aW "Unreadable" "name" (aA (fVar 0) cX)) (aA (fVar 0) cX))) (aA (Ce (aA (Cg aK "InvalidPlace" "given" (aA (fVar 0) cX)) (aA (fVar 0) cX))) (aA (Ce (aA (Cg bx "TooMany" "most" (aA (fVar 0) cX)) (aA (fVar 0) cX))) cX)))))))) (gName 1))
  (vG (Eh (tU (op2 Ks) (fVar 1) (YQ (aA (Ce (aA (Cg aq "DuplicateName" "name" (aA (fVar 0) cX)) (aA (fVar 0) cX))) (aA (Ce (aA (Cg cW "Full" "limit" (aA (fVar 0) cX)) (aA (fVar 0) cX))) (aA (Ce (aA (Cg aJ "InvalidLimit" "given" (aA (fVar 0) cX)) (aA (fVar 0) cX))) (aA (Ce (aA (Cg ao "InvalidCommand" "at" (aA (fVar 0) cX)) (aA (fVar 0) cX))) (aA (Ce (aA (Cg aP "InvalidPage" "line" (aA (fVar 0) cX)) (aA (fVar 0) cX))) (aA (Ce (aA (anr dF "Sent") (aA (fC .non) cX))) (aA (Ce (aA (anr aY "NoWriter") (aA (fC .non) cX))) cX))))))))) (gName 1))
  (Ko (tU (op2 Ks) (fVar 1) (YQ (aA (Ce (aA (Cg aQ "UnknownName" "name" (aA (fVar 0) cX)) (aA (fVar 0) cX))) (aA (Ce (aA (anr aU "NothingLeft") (aA (fC .non) cX))) cX))))))))
def yd:MF:=acQ 2 1 (BZ)
def fQ:MF:=yd
def Eb:Gq:=
  (vG (Eh (tU (op2 Ks) (tU (op2 gIx) (fVar 0) (fC (.int 4))) (fC (.int 1))) (gSub ae2 (fVar 0) (fC (.int 4))))
  (vG (sIf (azR (yq (tU (op2 gEq) (tU (op2 gIx) (fVar 0) (fC (.int 2))) (fC (.int 0)))) (yq (tU (op2 aq8) (tU (op2 gIx) (fVar 0) (fC (.int 1))) (Y4 (Ww agM) (aA (tU (op2 gIx) (fVar 0) (fC (.int 0))) cX)))))
   (vG (Eh (tU (op2 gIx) (tU (op2 gIx) (fVar 0) (fC (.int 0))) (tU (op2 gIx) (fVar 0) (fC (.int 1)))) (gName 2))
   (vG (Eh (tU (op2 Ks) (tU (op2 gIx) (fVar 0) (fC (.int 1))) (fC (.int 1))) (gSub ae2 (fVar 0) (fC (.int 1))))
   (sIf (yq (tU (op2 ayU) (fVar 2) (tU (op2 aio) (fC (.int 10)) (fC (.int 18)))))
    (Eh (fVar 2) (gSub ae2 (fVar 0) (fC (.int 2))))
    (Eh (tU (op2 Qy) (Y4 (Ww Y0) (aA (tU (op2 Ks) (tU (op2 Ks) (tU (op2 Yq) (tU (op2 gIx) (fVar 0) (fC (.int 3))) (fC (.int 39041))) (tU (op2 Yq) (tU (op2 Qy) (Y4 (Ww Y0) (aA (fVar 2) cX)) (fC (.int 2147483399))) (fC (.int 733)))) (fC (.int 41))) cX)) (fC (.int 2147483477))) (gSub ae2 (fVar 0) (fC (.int 3)))))))
   Ed)
  (vG (sIf (yq (tU (op2 at9) (tU (op2 gIx) (fVar 0) (fC (.int 2))) (fC (.int 0))))
   (vG (Eh (tU (op2 Qy) (Y4 (Ww Y0) (aA (tU (op2 gIx) (fVar 0) (fC (.int 2))) cX)) (fVar 1)) (gName 3))
   (vG (Eh (tU (op2 akV) (tU (op2 gIx) (fVar 0) (fC (.int 2))) (fVar 1)) (gSub ae2 (fVar 0) (fC (.int 2))))
   (Ko (fVar 3))))
   Ed)
  (vG (Eh (Y4 (Ww Y0) (aA (tU (op2 gIx) (fVar 0) (fC (.int 3))) cX)) (gName 4))
  (vG (Eh (tU (op2 Qy) (Y4 (Ww Y0) (aA (tU (op2 Ks) (tU (op2 Ks) (tU (op2 Ks) (tU (op2 aio) (fVar 4) (fC (.int 3))) (tU (op2 Yq) (fVar 4) (fC (.int 28019)))) (tU (op2 Yq) (tU (op2 gIx) (fVar 0) (fC (.int 4))) (fC (.int 1299721)))) (fC (.int 60013))) cX)) (fC (.int 2147483477))) (gSub ae2 (fVar 0) (fC (.int 3))))
  (Ko (tU (op2 Qy) (Y4 (Ww Y0) (aA (tU (op2 Ks) (tU (op2 akV) (tU (op2 gIx) (fVar 0) (fC (.int 3))) (fC (.int 83))) (tU (op2 Yq) (tU (op2 Qy) (Y4 (Ww Y0) (aA (tU (op2 gIx) (fVar 0) (fC (.int 3))) cX)) (fC (.int 7907))) (fC (.int 59)))) cX)) (fVar 1))))))))
def U6:MF:=acQ 5 2 (Eb)
def qD:MF:=U6
def Xi(qD:MF):Gq:=
  (Ko (tU (op2 gIx) (fVar 1) (Yp qD [] (aA (fVar 0) (aA (Y4 (Ww agM) (aA (fVar 1) cX)) cX)))))
def WK(qD:MF):MF:=acQ 2 2 (Xi qD)
def rY:MF:=WK qD
def U8:Gq:=
  (vG (Eh (fC (.int 10048)) (gName 1))
  (vG (apK (fIA (fSl alh (fVar 0) agg (anz (fC (.int 63))))) (gName 2)
   (Eh (tU (op2 Qy) (Y4 (Ww Y0) (aA (tU (op2 Ks) (tU (op2 Ks) (tU (op2 Yq) (fVar 1) (fC (.int 46183))) (tU (op2 Qy) (Y4 (Ww Y0) (aA (fVar 2) cX)) (fC (.int 2147483399)))) (fC (.int 29))) cX)) (fC (.int 2147483489))) (gName 1)))
  (Ko (akP (aA (Y4 (Ww ale) (aA (fSl alh (fVar 0) agg (anz (fC (.int 63)))) cX)) (aA (fC (.int 0)) (aA (fC (.int 0)) (aA (fVar 1) (aA (fC (.int 0)) cX)))))))))
def Qx:MF:=acQ 3 1 (U8)
def rK:MF:=Qx
def ajk(iG:MF)(fG:MF)(qp:MF)(fQ:MF)(rY:MF)(rK:MF):Gq:=
  (vG (Eh (Yp rK [] (aA (fVar 0) cX)) (gName 1))
  (vG (Eh (Yp rY [] (aA (fVar 1) (aA (YQ (aA (fC .non) (aA (fC (.bl true)) (aA (fC (.int 0)) (aA (fC (.int 7)) (aA (fUn avD (fC (.int 1))) (aA (tU (op2 aio) (fC (.int 10)) (fC (.int 40))) (aA (fC (.str "")) (aA (fC (.str "main")) (aA (Ce cX) (aA (YQ (aA (fC (.str "a")) cX)) (aA (Ce (aA (fC (.str "free")) (aA (fC (.int 2)) cX))) cX)))))))))))) cX))) (gName 2))
  (vG (Eh (YQ (aA (fC (.str "InvalidName")) (aA (fC (.str "InvalidShape")) (aA (fC (.str "UnknownUse")) (aA (fC (.str "NoFilling")) (aA (fC (.str "Silent")) (aA (fC (.str "TooLong")) (aA (fC (.str "TooWide")) (aA (fC (.str "InvalidText")) cX))))))))) (gName 3))
  (vG (Eh (tU (op2 Ks) (fVar 3) (YQ (aA (fC (.str "InvalidEvent")) (aA (fC (.str "InvalidNumber")) (aA (fC (.str "InvalidBytes")) (aA (fC (.str "Unreadable")) (aA (fC (.str "InvalidPlace")) (aA (fC (.str "TooMany")) (aA (fC (.str "DuplicateName")) (aA (fC (.str "Full")) cX)))))))))) (gName 3))
  (vG (Eh (tU (op2 Ks) (fVar 3) (YQ (aA (fC (.str "InvalidLimit")) (aA (fC (.str "InvalidCommand")) (aA (fC (.str "InvalidPage")) (aA (fC (.str "Sent")) (aA (fC (.str "NoWriter")) (aA (fC (.str "UnknownName")) (aA (fC (.str "NothingLeft")) cX))))))))) (gName 3))
  (vG (Eh (Yp fQ [] (aA (fVar 2) cX)) (gName 4))
  (vG (sIf (avq (yq (Yp fG [] (aA (fLc (fIA (fVar 4)) (gTup 2 (Xc (gName 6) (Xc (gName 7) aiv))) aro (fXf [aR,aH,aV,aX,bH,bB,bD,aO,aG,au,aM,aW,aK,bx,aq,cW,aJ,ao,aP,dF,aY,aQ,aU] "code" (fVar 6)) [6,7]) (aA (fVar 3) cX)))))
   (Ko (fC (.bl false)))
   Ed)
  (vG (apK (auc (aA (Y4 (Ww agM) (aA (fVar 4) cX)) cX)) (gName 5)
   (vG (Eh (tU (op2 gIx) (fVar 4) (fVar 5)) (gTup 2 (Xc (gName 6) (Xc (gName 7) aiv))))
   (vG (sIf (avq (yq (Yp fG [] (aA (Yp qp [] (aA (fVar 6) cX)) (aA (fVar 7) cX)))))
    (Ko (fC (.bl false)))
    Ed)
   (vG (sIf (yq (tU (op2 gNe) (Yp iG [] (aA (fVar 6) cX)) (fLc (auc (aA (Y4 (Ww agM) (aA (fVar 4) cX)) cX)) (gName 8) aro (tU (op2 gEq) (fVar 8) (fVar 5)) [8])))
    (Ko (fC (.bl false)))
    Ed)
   (vG (sIf (yq (tU (op2 gNe) (YQ (aA (Ef Vk (fVar 6)) (aA (Ef QL (fVar 6)) cX))) (YQ (aA (tU (op2 aq8) (fVar 5) (fC (.int 21))) (aA (tU (op2 aq8) (fVar 5) (fC (.int 21))) cX)))))
    (Ko (fC (.bl false)))
    Ed)
   (sIf (yq (tU (op2 gNe) (YQ (aA (Ef Zb (fVar 6)) (aA (Ef Kv (fVar 6)) (aA (Ef Qw (fVar 6)) cX)))) (YQ (aA (tU (op2 gEq) (fVar 5) (fC (.int 21))) (aA (tU (op2 at9) (fVar 5) (fC (.int 20))) (aA (tU (op2 gEq) (fVar 5) (fC (.int 22))) cX))))))
    (Ko (fC (.bl false)))
    Ed))))))
  (Ko (fC (.bl true)))))))))))
def aqC(iG:MF)(fG:MF)(qp:MF)(fQ:MF)(rY:MF)(rK:MF):MF:=acQ 9 1 (ajk iG fG qp fQ rY rK)
def m_law:MF:=aqC iG fG qp fQ rY rK
end Mine
end
section
namespace Mine
open PySem PySem.Spec PyProof.Rows L2 DL
def top(i:Nat):Stmt:=PySem.Challenge.pw_headhold_k01_errors_by_themselves.main.body.getD i (.Pass ⟨0,0,0,0⟩)
abbrev uJ:Stmt:=top 33
abbrev afq:List Str:= ["_law_e","_law_found"]
theorem Bs:FnScope afq ["_law_e"] (defScope uJ):=⟨rfl,rfl,rfl,by decide +kernel,rfl,by decide +kernel,by decide +kernel⟩
abbrev Ba:Stmt:=top 30
abbrev ae6:List Str:= ["_law_found","_law_due","_law_one","_law_two"]
theorem Qg:FnScope ae6 ["_law_found","_law_due"] (defScope Ba):=⟨rfl,rfl,rfl,by decide +kernel,rfl,by decide +kernel,by decide +kernel⟩
abbrev BL:Stmt:=top 31
abbrev ajm:List Str:= ["_law_e"]
theorem ah0:FnScope ajm ["_law_e"] (defScope BL):=⟨rfl,rfl,rfl,by decide +kernel,rfl,by decide +kernel,by decide +kernel⟩
abbrev pW:Stmt:=top 32
abbrev ace:List Str:= ["_law_one","_law_found"]
theorem v7:FnScope ace ["_law_one"] (defScope pW):=⟨rfl,rfl,rfl,by decide +kernel,rfl,by decide +kernel,by decide +kernel⟩
abbrev DP:Stmt:=top 28
abbrev alz:List Str:= ["_law_bag_here","_law_many","_law_cell","_law_digit","_law_seed"]
theorem Qe:FnScope alz ["_law_bag_here","_law_many"] (defScope DP):=⟨rfl,rfl,rfl,by decide +kernel,rfl,by decide +kernel,by decide +kernel⟩
abbrev Qv:Stmt:=top 29
abbrev ao6:List Str:= ["_law_bag_here","_law_some"]
theorem amT:FnScope ao6 ["_law_bag_here","_law_some"] (defScope Qv):=⟨rfl,rfl,rfl,by decide +kernel,rfl,by decide +kernel,by decide +kernel⟩
abbrev JF:Stmt:=top 27
abbrev anc:List Str:= ["_law_script","_law_mixed","_law_cell"]
theorem Vd:FnScope anc ["_law_script"] (defScope JF):=⟨rfl,rfl,rfl,by decide +kernel,rfl,by decide +kernel,by decide +kernel⟩
abbrev ae9:Stmt:=top 34
abbrev atu:List Str:= ["_law_script","_law_bag_here","_law_one","_law_codes","_law_rows","_law_k","_law_e","_law_due","_law_j"]
theorem Dm:FnScope atu ["_law_script"] (defScope ae9):=⟨rfl,rfl,rfl,by decide +kernel,rfl,by decide +kernel,by decide +kernel⟩
abbrev cC:Stmt:=inClass (top 2) 0
theorem Aj:EXX.SupS ["self","given"] ["self","given"] (defScope cC):=⟨rfl,rfl,rfl,by decide +kernel,rfl,by decide +kernel,by decide +kernel,by decide +kernel,rfl,rfl⟩
abbrev bU:Stmt:=inClass (top 3) 0
theorem yP:EXX.SupS ["self","name"] ["self","name"] (defScope bU):=⟨rfl,rfl,rfl,by decide +kernel,rfl,by decide +kernel,by decide +kernel,by decide +kernel,rfl,rfl⟩
abbrev cJ:Stmt:=inClass (top 4) 0
theorem Cp:EXX.SupS ["self","name"] ["self","name"] (defScope cJ):=⟨rfl,rfl,rfl,by decide +kernel,rfl,by decide +kernel,by decide +kernel,by decide +kernel,rfl,rfl⟩
abbrev cO:Stmt:=inClass (top 5) 0
theorem Es:EXX.SupS ["self","name"] ["self","name"] (defScope cO):=⟨rfl,rfl,rfl,by decide +kernel,rfl,by decide +kernel,by decide +kernel,by decide +kernel,rfl,rfl⟩
abbrev dW:Stmt:=inClass (top 6) 0
theorem WM:EXX.SupS ["self","name"] ["self","name"] (defScope dW):=⟨rfl,rfl,rfl,by decide +kernel,rfl,by decide +kernel,by decide +kernel,by decide +kernel,rfl,rfl⟩
abbrev dI:Stmt:=inClass (top 7) 0
theorem Ut:EXX.SupS ["self","name"] ["self","name"] (defScope dI):=⟨rfl,rfl,rfl,by decide +kernel,rfl,by decide +kernel,by decide +kernel,by decide +kernel,rfl,rfl⟩
abbrev dJ:Stmt:=inClass (top 8) 0
theorem Us:EXX.SupS ["self","name"] ["self","name"] (defScope dJ):=⟨rfl,rfl,rfl,by decide +kernel,rfl,by decide +kernel,by decide +kernel,by decide +kernel,rfl,rfl⟩
abbrev cA:Stmt:=inClass (top 9) 0
theorem Av:EXX.SupS ["self","at"] ["self","at"] (defScope cA):=⟨rfl,rfl,rfl,by decide +kernel,rfl,by decide +kernel,by decide +kernel,by decide +kernel,rfl,rfl⟩
abbrev bV:Stmt:=inClass (top 10) 0
theorem yu:EXX.SupS ["self","at"] ["self","at"] (defScope bV):=⟨rfl,rfl,rfl,by decide +kernel,rfl,by decide +kernel,by decide +kernel,by decide +kernel,rfl,rfl⟩
abbrev bM:Stmt:=inClass (top 11) 0
theorem wJ:EXX.SupS ["self","given"] ["self","given"] (defScope bM):=⟨rfl,rfl,rfl,by decide +kernel,rfl,by decide +kernel,by decide +kernel,by decide +kernel,rfl,rfl⟩
abbrev bY:Stmt:=inClass (top 12) 0
theorem yE:EXX.SupS ["self","at"] ["self","at"] (defScope bY):=⟨rfl,rfl,rfl,by decide +kernel,rfl,by decide +kernel,by decide +kernel,by decide +kernel,rfl,rfl⟩
abbrev cI:Stmt:=inClass (top 13) 0
theorem Cj:EXX.SupS ["self","name"] ["self","name"] (defScope cI):=⟨rfl,rfl,rfl,by decide +kernel,rfl,by decide +kernel,by decide +kernel,by decide +kernel,rfl,rfl⟩
abbrev bQ:Stmt:=inClass (top 14) 0
theorem yC:EXX.SupS ["self","given"] ["self","given"] (defScope bQ):=⟨rfl,rfl,rfl,by decide +kernel,rfl,by decide +kernel,by decide +kernel,by decide +kernel,rfl,rfl⟩
abbrev dH:Stmt:=inClass (top 15) 0
theorem Uh:EXX.SupS ["self","most"] ["self","most"] (defScope dH):=⟨rfl,rfl,rfl,by decide +kernel,rfl,by decide +kernel,by decide +kernel,by decide +kernel,rfl,rfl⟩
abbrev bO:Stmt:=inClass (top 16) 0
theorem wj:EXX.SupS ["self","name"] ["self","name"] (defScope bO):=⟨rfl,rfl,rfl,by decide +kernel,rfl,by decide +kernel,by decide +kernel,by decide +kernel,rfl,rfl⟩
abbrev fD:Stmt:=inClass (top 17) 0
theorem adb:EXX.SupS ["self","limit"] ["self","limit"] (defScope fD):=⟨rfl,rfl,rfl,by decide +kernel,rfl,by decide +kernel,by decide +kernel,by decide +kernel,rfl,rfl⟩
abbrev bW:Stmt:=inClass (top 18) 0
theorem yJ:EXX.SupS ["self","given"] ["self","given"] (defScope bW):=⟨rfl,rfl,rfl,by decide +kernel,rfl,by decide +kernel,by decide +kernel,by decide +kernel,rfl,rfl⟩
abbrev bL:Stmt:=inClass (top 19) 0
theorem vM:EXX.SupS ["self","at"] ["self","at"] (defScope bL):=⟨rfl,rfl,rfl,by decide +kernel,rfl,by decide +kernel,by decide +kernel,by decide +kernel,rfl,rfl⟩
abbrev cD:Stmt:=inClass (top 20) 0
theorem Ac:EXX.SupS ["self","line"] ["self","line"] (defScope cD):=⟨rfl,rfl,rfl,by decide +kernel,rfl,by decide +kernel,by decide +kernel,by decide +kernel,rfl,rfl⟩
abbrev fB:Stmt:=inClass (top 21) 0
theorem adl:EXX.SupS ["self"] ["self"] (defScope fB):=⟨rfl,rfl,rfl,by decide +kernel,rfl,by decide +kernel,by decide +kernel,by decide +kernel,rfl,rfl⟩
abbrev cV:Stmt:=inClass (top 22) 0
theorem Ke:EXX.SupS ["self"] ["self"] (defScope cV):=⟨rfl,rfl,rfl,by decide +kernel,rfl,by decide +kernel,by decide +kernel,by decide +kernel,rfl,rfl⟩
abbrev cH:Stmt:=inClass (top 24) 0
theorem Ay:EXX.SupS ["self","name"] ["self","name"] (defScope cH):=⟨rfl,rfl,rfl,by decide +kernel,rfl,by decide +kernel,by decide +kernel,by decide +kernel,rfl,rfl⟩
abbrev cG:Stmt:=inClass (top 25) 0
theorem Az:EXX.SupS ["self"] ["self"] (defScope cG):=⟨rfl,rfl,rfl,by decide +kernel,rfl,by decide +kernel,by decide +kernel,by decide +kernel,rfl,rfl⟩
structure Tx(P:Program)(K:PySem.W.Frag)(mg:Str→Option Value) where
 gG:Addr
 rZ:FuncData
 uY:Fun K "_law_kinds_of" "_law_kinds_of" uJ gG rZ
 WL:mg "_law_kinds_of" =some (.ref gG)
 W8:Binds K rZ ["_law_e"] []
 lX:Addr
 vN:FuncData
 xW:Fun K "_law_same" "_law_same" Ba lX vN
 Qh:mg "_law_same" =some (.ref lX)
 Qi:Binds K vN ["_law_found","_law_due"] []
 nO:Addr
 zf:FuncData
 Bl:Fun K "_law_field" "_law_field" BL nO zf
 aaV:mg "_law_field" =some (.ref nO)
 aaW:Binds K zf ["_law_e"] []
 eX:Addr
 oF:FuncData
 pX:Fun K "_law_made_errors" "_law_made_errors" pW eX oF
 PB:mg "_law_made_errors" =some (.ref eX)
 PL:Binds K oF ["_law_one"] []
 qG:Addr
 Bp:FuncData
 Dz:Fun K "_law_pull" "_law_pull" DP qG Bp
 ac5:mg "_law_pull" =some (.ref qG)
 ac0:Binds K Bp ["_law_bag_here","_law_many"] []
 xK:Addr
 Jm:FuncData
 Qu:Fun K "_law_of" "_law_of" Qv xK Jm
 ahe:mg "_law_of" =some (.ref xK)
 ahu:Binds K Jm ["_law_bag_here","_law_some"] []
 tX:Addr
 Dt:FuncData
 Iz:Fun K "_law_bag" "_law_bag" JF tX Dt
 ae8:mg "_law_bag" =some (.ref tX)
 afc:Binds K Dt ["_law_script"] []
 YC:Addr
 ag8:FuncData
 aon:Fun K "law" "law" ae9 YC ag8
 aAO:mg "law" =some (.ref YC)
 Nv:mg "DuplicateName" =some (.ref aq)
 ane:mg "Full" =some (.ref cW)
 Ru:mg "InvalidBytes" =some (.ref aM)
 Ik:mg "InvalidCommand" =some (.ref ao)
 R4:mg "InvalidEvent" =some (.ref aG)
 T6:mg "InvalidLimit" =some (.ref aJ)
 Wd:mg "InvalidName" =some (.ref aR)
 Mv:mg "InvalidNumber" =some (.ref au)
 Wt:mg "InvalidPage" =some (.ref aP)
 Ud:mg "InvalidPlace" =some (.ref aK)
 UW:mg "InvalidShape" =some (.ref aH)
 Vz:mg "InvalidText" =some (.ref aO)
 aiA:mg "Missing" =some (.ref aap)
 Z4:mg "NoFilling" =some (.ref aX)
 abq:mg "NoWriter" =some (.ref aY)
 Ws:mg "NothingLeft" =some (.ref aU)
 afb:mg "PlanError" =some (.ref U4)
 amW:mg "Sent" =some (.ref dF)
 agS:mg "Silent" =some (.ref bH)
 aeC:mg "TooLong" =some (.ref bB)
 aeO:mg "TooMany" =some (.ref bx)
 aeB:mg "TooWide" =some (.ref bD)
 Vt:mg "UnknownName" =some (.ref aQ)
 XM:mg "UnknownUse" =some (.ref aV)
 XQ:mg "Unreadable" =some (.ref aW)
 R9:EXX.OexG K "ValueError" "ValueError.__new__" "ValueError.__init__" [.type "ValueError", .type "Exception", .type "BaseException", .type "object"] aR
 jP:Addr
 yF:FuncData
 j6:Addr
 o9:Addr
 wA:PySem.W.findIn K (.ref aR) "__init__" =some (some (.ref jP))
 xH:PySem.W.typeIn K (.ref jP)=some (.type "function")
 Zh:EXX.SupF P K mg aR jP "InvalidName.__init__" (defArgs cC) (defBody cC) (defScope cC) j6 o9 yF
 Td:Binds K yF ["self","given"] []
 wO:PySem.W.takerIn K aR "code" =some none
 xM:PySem.W.takerIn K aR "given" =some none
 fK:XfC K aR
 qR:PySem.W.findIn K (.ref aR) "at" =some none
 dR:PySem.W.findIn K (.ref aR) "code" =some none
 mK:PySem.W.findIn K (.ref aR) "given" =some none
 lu:PySem.W.findIn K (.ref aR) "limit" =some none
 oJ:PySem.W.findIn K (.ref aR) "line" =some none
 oO:PySem.W.findIn K (.ref aR) "most" =some none
 nW:PySem.W.findIn K (.ref aR) "name" =some none
 qK:KB K yF ["self","given"] 1 ["given"] [0,1]
 Pj:EXX.OexG K "ValueError" "ValueError.__new__" "ValueError.__init__" [.type "ValueError", .type "Exception", .type "BaseException", .type "object"] aH
 iI:Addr
 wg:FuncData
 iZ:Addr
 kZ:Addr
 vm:PySem.W.findIn K (.ref aH) "__init__" =some (some (.ref iI))
 u5:PySem.W.typeIn K (.ref iI)=some (.type "function")
 YJ:EXX.SupF P K mg aH iI "InvalidShape.__init__" (defArgs bU) (defBody bU) (defScope bU) iZ kZ wg
 KR:Binds K wg ["self","name"] []
 uO:PySem.W.takerIn K aH "code" =some none
 uX:PySem.W.takerIn K aH "name" =some none
 eE:XfC K aH
 pY:PySem.W.findIn K (.ref aH) "at" =some none
 dB:PySem.W.findIn K (.ref aH) "code" =some none
 jG:PySem.W.findIn K (.ref aH) "given" =some none
 jJ:PySem.W.findIn K (.ref aH) "limit" =some none
 lU:PySem.W.findIn K (.ref aH) "line" =some none
 lE:PySem.W.findIn K (.ref aH) "most" =some none
 lA:PySem.W.findIn K (.ref aH) "name" =some none
 pq:KB K wg ["self","name"] 1 ["name"] [0,1]
 V2:EXX.OexG K "ValueError" "ValueError.__new__" "ValueError.__init__" [.type "ValueError", .type "Exception", .type "BaseException", .type "object"] aV
 mZ:Addr
 Ab:FuncData
 nJ:Addr
 qN:Addr
 zQ:PySem.W.findIn K (.ref aV) "__init__" =some (some (.ref mZ))
 yX:PySem.W.typeIn K (.ref mZ)=some (.type "function")
 aaX:EXX.SupF P K mg aV mZ "UnknownUse.__init__" (defArgs cJ) (defBody cJ) (defScope cJ) nJ qN Ab
 V8:Binds K Ab ["self","name"] []
 zB:PySem.W.takerIn K aV "code" =some none
 zM:PySem.W.takerIn K aV "name" =some none
 fZ:XfC K aV
 tH:PySem.W.findIn K (.ref aV) "at" =some none
 dZ:PySem.W.findIn K (.ref aV) "code" =some none
 oW:PySem.W.findIn K (.ref aV) "given" =some none
 oH:PySem.W.findIn K (.ref aV) "limit" =some none
 pO:PySem.W.findIn K (.ref aV) "line" =some none
 qd:PySem.W.findIn K (.ref aV) "most" =some none
 pP:PySem.W.findIn K (.ref aV) "name" =some none
 rW:KB K Ab ["self","name"] 1 ["name"] [0,1]
 Xw:EXX.OexG K "ValueError" "ValueError.__new__" "ValueError.__init__" [.type "ValueError", .type "Exception", .type "BaseException", .type "object"] aX
 qu:Addr
 Cq:FuncData
 qC:Addr
 rR:Addr
 Bj:PySem.W.findIn K (.ref aX) "__init__" =some (some (.ref qu))
 Bv:PySem.W.typeIn K (.ref qu)=some (.type "function")
 ado:EXX.SupF P K mg aX qu "NoFilling.__init__" (defArgs cO) (defBody cO) (defScope cO) qC rR Cq
 XF:Binds K Cq ["self","name"] []
 Bq:PySem.W.takerIn K aX "code" =some none
 BR:PySem.W.takerIn K aX "name" =some none
 gW:XfC K aX
 vq:PySem.W.findIn K (.ref aX) "at" =some none
 eG:PySem.W.findIn K (.ref aX) "code" =some none
 pU:PySem.W.findIn K (.ref aX) "given" =some none
 qb:PySem.W.findIn K (.ref aX) "limit" =some none
 rF:PySem.W.findIn K (.ref aX) "line" =some none
 qU:PySem.W.findIn K (.ref aX) "most" =some none
 rC:PySem.W.findIn K (.ref aX) "name" =some none
 vH:KB K Cq ["self","name"] 1 ["name"] [0,1]
 adJ:EXX.OexG K "ValueError" "ValueError.__new__" "ValueError.__init__" [.type "ValueError", .type "Exception", .type "BaseException", .type "object"] bH
 zN:Addr
 Rf:FuncData
 yg:Addr
 Ai:Addr
 Qq:PySem.W.findIn K (.ref bH) "__init__" =some (some (.ref zN))
 Qp:PySem.W.typeIn K (.ref zN)=some (.type "function")
 aiB:EXX.SupF P K mg bH zN "Silent.__init__" (defArgs dW) (defBody dW) (defScope dW) yg Ai Rf
 aeM:Binds K Rf ["self","name"] []
 Qt:PySem.W.takerIn K bH "code" =some none
 Qs:PySem.W.takerIn K bH "name" =some none
 qT:XfC K bH
 BJ:PySem.W.findIn K (.ref bH) "at" =some none
 gH:PySem.W.findIn K (.ref bH) "code" =some none
 uH:PySem.W.findIn K (.ref bH) "given" =some none
 vo:PySem.W.findIn K (.ref bH) "limit" =some none
 xJ:PySem.W.findIn K (.ref bH) "line" =some none
 wR:PySem.W.findIn K (.ref bH) "most" =some none
 wZ:PySem.W.findIn K (.ref bH) "name" =some none
 Du:KB K Rf ["self","name"] 1 ["name"] [0,1]
 ab2:EXX.OexG K "ValueError" "ValueError.__new__" "ValueError.__init__" [.type "ValueError", .type "Exception", .type "BaseException", .type "object"] bB
 vU:Addr
 Kc:FuncData
 vK:Addr
 xZ:Addr
 Ij:PySem.W.findIn K (.ref bB) "__init__" =some (some (.ref vU))
 Ib:PySem.W.typeIn K (.ref vU)=some (.type "function")
 ahD:EXX.SupF P K mg bB vU "TooLong.__init__" (defArgs dI) (defBody dI) (defScope dI) vK xZ Kc
 acz:Binds K Kc ["self","name"] []
 Iw:PySem.W.takerIn K bB "code" =some none
 G9:PySem.W.takerIn K bB "name" =some none
 nQ:XfC K bB
 zj:PySem.W.findIn K (.ref bB) "at" =some none
 fW:PySem.W.findIn K (.ref bB) "code" =some none
 tO:PySem.W.findIn K (.ref bB) "given" =some none
 sS:PySem.W.findIn K (.ref bB) "limit" =some none
 uI:PySem.W.findIn K (.ref bB) "line" =some none
 vp:PySem.W.findIn K (.ref bB) "most" =some none
 uR:PySem.W.findIn K (.ref bB) "name" =some none
 Ad:KB K Kc ["self","name"] 1 ["name"] [0,1]
 abI:EXX.OexG K "ValueError" "ValueError.__new__" "ValueError.__init__" [.type "ValueError", .type "Exception", .type "BaseException", .type "object"] bD
 vX:Addr
 Kd:FuncData
 vI:Addr
 xV:Addr
 Jg:PySem.W.findIn K (.ref bD) "__init__" =some (some (.ref vX))
 Jy:PySem.W.typeIn K (.ref vX)=some (.type "function")
 ag7:EXX.SupF P K mg bD vX "TooWide.__init__" (defArgs dJ) (defBody dJ) (defScope dJ) vI xV Kd
 abz:Binds K Kd ["self","name"] []
 Je:PySem.W.takerIn K bD "code" =some none
 Ig:PySem.W.takerIn K bD "name" =some none
 nA:XfC K bD
 zJ:PySem.W.findIn K (.ref bD) "at" =some none
 fX:PySem.W.findIn K (.ref bD) "code" =some none
 sX:PySem.W.findIn K (.ref bD) "given" =some none
 tR:PySem.W.findIn K (.ref bD) "limit" =some none
 uN:PySem.W.findIn K (.ref bD) "line" =some none
 uV:PySem.W.findIn K (.ref bD) "most" =some none
 u6:PySem.W.findIn K (.ref bD) "name" =some none
 Ah:KB K Kd ["self","name"] 1 ["name"] [0,1]
 Uy:EXX.OexG K "ValueError" "ValueError.__new__" "ValueError.__init__" [.type "ValueError", .type "Exception", .type "BaseException", .type "object"] aO
 jO:Addr
 yV:FuncData
 jZ:Addr
 pF:Addr
 xG:PySem.W.findIn K (.ref aO) "__init__" =some (some (.ref jO))
 xg:PySem.W.typeIn K (.ref jO)=some (.type "function")
 aag:EXX.SupF P K mg aO jO "InvalidText.__init__" (defArgs cA) (defBody cA) (defScope cA) jZ pF yV
 Ux:Binds K yV ["self","at"] []
 wI:PySem.W.takerIn K aO "code" =some none
 wu:PySem.W.takerIn K aO "at" =some none
 fM:XfC K aO
 qX:PySem.W.findIn K (.ref aO) "at" =some none
 dO:PySem.W.findIn K (.ref aO) "code" =some none
 lN:PySem.W.findIn K (.ref aO) "given" =some none
 mH:PySem.W.findIn K (.ref aO) "limit" =some none
 oG:PySem.W.findIn K (.ref aO) "line" =some none
 oA:PySem.W.findIn K (.ref aO) "most" =some none
 oX:PySem.W.findIn K (.ref aO) "name" =some none
 qI:KB K yV ["self","at"] 1 ["at"] [0,1]
 O6:EXX.OexG K "ValueError" "ValueError.__new__" "ValueError.__init__" [.type "ValueError", .type "Exception", .type "BaseException", .type "object"] aG
 iH:Addr
 wL:FuncData
 jc:Addr
 lK:Addr
 uP:PySem.W.findIn K (.ref aG) "__init__" =some (some (.ref iH))
 uz:PySem.W.typeIn K (.ref iH)=some (.type "function")
 YL:EXX.SupF P K mg aG iH "InvalidEvent.__init__" (defArgs bV) (defBody bV) (defScope bV) jc lK wL
 NZ:Binds K wL ["self","at"] []
 vh:PySem.W.takerIn K aG "code" =some none
 uF:PySem.W.takerIn K aG "at" =some none
 eO:XfC K aG
 pJ:PySem.W.findIn K (.ref aG) "at" =some none
 cZ:PySem.W.findIn K (.ref aG) "code" =some none
 ju:PySem.W.findIn K (.ref aG) "given" =some none
 jE:PySem.W.findIn K (.ref aG) "limit" =some none
 lD:PySem.W.findIn K (.ref aG) "line" =some none
 lJ:PySem.W.findIn K (.ref aG) "most" =some none
 mU:PySem.W.findIn K (.ref aG) "name" =some none
 pC:KB K wL ["self","at"] 1 ["at"] [0,1]
 HJ:EXX.OexG K "ValueError" "ValueError.__new__" "ValueError.__init__" [.type "ValueError", .type "Exception", .type "BaseException", .type "object"] au
 gK:Addr
 vL:FuncData
 gU:Addr
 jj:Addr
 sO:PySem.W.findIn K (.ref au) "__init__" =some (some (.ref gK))
 tE:PySem.W.typeIn K (.ref gK)=some (.type "function")
 W6:EXX.SupF P K mg au gK "InvalidNumber.__init__" (defArgs bM) (defBody bM) (defScope bM) gU jj vL
 Jx:Binds K vL ["self","given"] []
 sU:PySem.W.takerIn K au "code" =some none
 tG:PySem.W.takerIn K au "given" =some none
 dY:XfC K au
 oh:PySem.W.findIn K (.ref au) "at" =some none
 cR:PySem.W.findIn K (.ref au) "code" =some none
 je:PySem.W.findIn K (.ref au) "given" =some none
 iU:PySem.W.findIn K (.ref au) "limit" =some none
 jB:PySem.W.findIn K (.ref au) "line" =some none
 jx:PySem.W.findIn K (.ref au) "most" =some none
 jt:PySem.W.findIn K (.ref au) "name" =some none
 mX:KB K vL ["self","given"] 1 ["given"] [0,1]
 Ld:EXX.OexG K "ValueError" "ValueError.__new__" "ValueError.__init__" [.type "ValueError", .type "Exception", .type "BaseException", .type "object"] aM
 iK:Addr
 wN:FuncData
 jg:Addr
 lC:Addr
 vB:PySem.W.findIn K (.ref aM) "__init__" =some (some (.ref iK))
 uo:PySem.W.typeIn K (.ref iK)=some (.type "function")
 YG:EXX.SupF P K mg aM iK "InvalidBytes.__init__" (defArgs bY) (defBody bY) (defScope bY) jg lC wN
 KY:Binds K wN ["self","at"] []
 uQ:PySem.W.takerIn K aM "code" =some none
 uf:PySem.W.takerIn K aM "at" =some none
 d9:XfC K aM
 pZ:PySem.W.findIn K (.ref aM) "at" =some none
 dw:PySem.W.findIn K (.ref aM) "code" =some none
 jA:PySem.W.findIn K (.ref aM) "given" =some none
 jK:PySem.W.findIn K (.ref aM) "limit" =some none
 mO:PySem.W.findIn K (.ref aM) "line" =some none
 lO:PySem.W.findIn K (.ref aM) "most" =some none
 lg:PySem.W.findIn K (.ref aM) "name" =some none
 pA:KB K wN ["self","at"] 1 ["at"] [0,1]
 V4:EXX.OexG K "ValueError" "ValueError.__new__" "ValueError.__init__" [.type "ValueError", .type "Exception", .type "BaseException", .type "object"] aW
 mY:Addr
 Bf:FuncData
 nM:Addr
 qH:Addr
 zp:PySem.W.findIn K (.ref aW) "__init__" =some (some (.ref mY))
 zG:PySem.W.typeIn K (.ref mY)=some (.type "function")
 aa0:EXX.SupF P K mg aW mY "Unreadable.__init__" (defArgs cI) (defBody cI) (defScope cI) nM qH Bf
 Wh:Binds K Bf ["self","name"] []
 zF:PySem.W.takerIn K aW "code" =some none
 zK:PySem.W.takerIn K aW "name" =some none
 gq:XfC K aW
 sE:PySem.W.findIn K (.ref aW) "at" =some none
 d7:PySem.W.findIn K (.ref aW) "code" =some none
 oV:PySem.W.findIn K (.ref aW) "given" =some none
 oN:PySem.W.findIn K (.ref aW) "limit" =some none
 ql:PySem.W.findIn K (.ref aW) "line" =some none
 pH:PySem.W.findIn K (.ref aW) "most" =some none
 pK:PySem.W.findIn K (.ref aW) "name" =some none
 rQ:KB K Bf ["self","name"] 1 ["name"] [0,1]
 M6:EXX.OexG K "ValueError" "ValueError.__new__" "ValueError.__init__" [.type "ValueError", .type "Exception", .type "BaseException", .type "object"] aK
 iJ:Addr
 w6:FuncData
 ji:Addr
 lH:Addr
 ug:PySem.W.findIn K (.ref aK) "__init__" =some (some (.ref iJ))
 uM:PySem.W.typeIn K (.ref iJ)=some (.type "function")
 Yt:EXX.SupF P K mg aK iJ "InvalidPlace.__init__" (defArgs bQ) (defBody bQ) (defScope bQ) ji lH w6
 Lg:Binds K w6 ["self","given"] []
 ux:PySem.W.takerIn K aK "code" =some none
 vA:PySem.W.takerIn K aK "given" =some none
 eU:XfC K aK
 pN:PySem.W.findIn K (.ref aK) "at" =some none
 cY:PySem.W.findIn K (.ref aK) "code" =some none
 jw:PySem.W.findIn K (.ref aK) "given" =some none
 jH:PySem.W.findIn K (.ref aK) "limit" =some none
 mV:PySem.W.findIn K (.ref aK) "line" =some none
 lY:PySem.W.findIn K (.ref aK) "most" =some none
 lV:PySem.W.findIn K (.ref aK) "name" =some none
 pD:KB K w6 ["self","given"] 1 ["given"] [0,1]
 abK:EXX.OexG K "ValueError" "ValueError.__new__" "ValueError.__init__" [.type "ValueError", .type "Exception", .type "BaseException", .type "object"] bx
 vW:Addr
 Kh:FuncData
 vO:Addr
 xY:Addr
 JB:PySem.W.findIn K (.ref bx) "__init__" =some (some (.ref vW))
 Ju:PySem.W.typeIn K (.ref vW)=some (.type "function")
 ag6:EXX.SupF P K mg bx vW "TooMany.__init__" (defArgs dH) (defBody dH) (defScope dH) vO xY Kh
 abT:Binds K Kh ["self","most"] []
 IW:PySem.W.takerIn K bx "code" =some none
 HS:PySem.W.takerIn K bx "most" =some none
 nu:XfC K bx
 zA:PySem.W.findIn K (.ref bx) "at" =some none
 fY:PySem.W.findIn K (.ref bx) "code" =some none
 sV:PySem.W.findIn K (.ref bx) "given" =some none
 sG:PySem.W.findIn K (.ref bx) "limit" =some none
 uw:PySem.W.findIn K (.ref bx) "line" =some none
 uU:PySem.W.findIn K (.ref bx) "most" =some none
 uD:PySem.W.findIn K (.ref bx) "name" =some none
 Ao:KB K Kh ["self","most"] 1 ["most"] [0,1]
 Hr:EXX.OexG K "ValueError" "ValueError.__new__" "ValueError.__init__" [.type "ValueError", .type "Exception", .type "BaseException", .type "object"] aq
 gJ:Addr
 vP:FuncData
 gY:Addr
 jr:Addr
 tK:PySem.W.findIn K (.ref aq) "__init__" =some (some (.ref gJ))
 sJ:PySem.W.typeIn K (.ref gJ)=some (.type "function")
 W7:EXX.SupF P K mg aq gJ "DuplicateName.__init__" (defArgs bO) (defBody bO) (defScope bO) gY jr vP
 Jd:Binds K vP ["self","name"] []
 sY:PySem.W.takerIn K aq "code" =some none
 sH:PySem.W.takerIn K aq "name" =some none
 dX:XfC K aq
 nY:PySem.W.findIn K (.ref aq) "at" =some none
 cQ:PySem.W.findIn K (.ref aq) "code" =some none
 iV:PySem.W.findIn K (.ref aq) "given" =some none
 jh:PySem.W.findIn K (.ref aq) "limit" =some none
 jM:PySem.W.findIn K (.ref aq) "line" =some none
 jL:PySem.W.findIn K (.ref aq) "most" =some none
 jD:PySem.W.findIn K (.ref aq) "name" =some none
 lW:KB K vP ["self","name"] 1 ["name"] [0,1]
 ajn:EXX.OexG K "ValueError" "ValueError.__new__" "ValueError.__init__" [.type "ValueError", .type "Exception", .type "BaseException", .type "object"] cW
 JQ:Addr
 Zm:FuncData
 Fw:Addr
 Kl:Addr
 aax:PySem.W.findIn K (.ref cW) "__init__" =some (some (.ref JQ))
 aav:PySem.W.typeIn K (.ref JQ)=some (.type "function")
 aoh:EXX.SupF P K mg cW JQ "Full.__init__" (defArgs fD) (defBody fD) (defScope fD) Fw Kl Zm
 ajT:Binds K Zm ["self","limit"] []
 aaF:PySem.W.takerIn K cW "code" =some none
 aaw:PySem.W.takerIn K cW "limit" =some none
 zV:XfC K cW
 Ji:PySem.W.findIn K (.ref cW) "at" =some none
 jY:PySem.W.findIn K (.ref cW) "code" =some none
 za:PySem.W.findIn K (.ref cW) "given" =some none
 zP:PySem.W.findIn K (.ref cW) "limit" =some none
 Bw:PySem.W.findIn K (.ref cW) "line" =some none
 Bg:PySem.W.findIn K (.ref cW) "most" =some none
 BK:PySem.W.findIn K (.ref cW) "name" =some none
 Vg:KB K Zm ["self","limit"] 1 ["limit"] [0,1]
 Ny:EXX.OexG K "ValueError" "ValueError.__new__" "ValueError.__init__" [.type "ValueError", .type "Exception", .type "BaseException", .type "object"] aJ
 iQ:Addr
 wX:FuncData
 jf:Addr
 kY:Addr
 uW:PySem.W.findIn K (.ref aJ) "__init__" =some (some (.ref iQ))
 vg:PySem.W.typeIn K (.ref iQ)=some (.type "function")
 Yy:EXX.SupF P K mg aJ iQ "InvalidLimit.__init__" (defArgs bW) (defBody bW) (defScope bW) jf kY wX
 O5:Binds K wX ["self","given"] []
 uK:PySem.W.takerIn K aJ "code" =some none
 uh:PySem.W.takerIn K aJ "given" =some none
 d8:XfC K aJ
 pQ:PySem.W.findIn K (.ref aJ) "at" =some none
 dD:PySem.W.findIn K (.ref aJ) "code" =some none
 jy:PySem.W.findIn K (.ref aJ) "given" =some none
 jC:PySem.W.findIn K (.ref aJ) "limit" =some none
 lQ:PySem.W.findIn K (.ref aJ) "line" =some none
 lB:PySem.W.findIn K (.ref aJ) "most" =some none
 lZ:PySem.W.findIn K (.ref aJ) "name" =some none
 o7:KB K wX ["self","given"] 1 ["given"] [0,1]
 FW:EXX.OexG K "ValueError" "ValueError.__new__" "ValueError.__init__" [.type "ValueError", .type "Exception", .type "BaseException", .type "object"] ao
 gA:Addr
 tW:FuncData
 gD:Addr
 iD:Addr
 rA:PySem.W.findIn K (.ref ao) "__init__" =some (some (.ref gA))
 qW:PySem.W.typeIn K (.ref gA)=some (.type "function")
 Vb:EXX.SupF P K mg ao gA "InvalidCommand.__init__" (defArgs bL) (defBody bL) (defScope bL) gD iD tW
 Ey:Binds K tW ["self","at"] []
 rB:PySem.W.takerIn K ao "code" =some none
 qY:PySem.W.takerIn K ao "at" =some none
 dG:XfC K ao
 mj:PySem.W.findIn K (.ref ao) "at" =some none
 cM:PySem.W.findIn K (.ref ao) "code" =some none
 ig:PySem.W.findIn K (.ref ao) "given" =some none
 g8:PySem.W.findIn K (.ref ao) "limit" =some none
 iW:PySem.W.findIn K (.ref ao) "line" =some none
 iY:PySem.W.findIn K (.ref ao) "most" =some none
 jd:PySem.W.findIn K (.ref ao) "name" =some none
 jo:KB K tW ["self","at"] 1 ["at"] [0,1]
 Ra:EXX.OexG K "ValueError" "ValueError.__new__" "ValueError.__init__" [.type "ValueError", .type "Exception", .type "BaseException", .type "object"] aP
 jQ:Addr
 yD:FuncData
 jW:Addr
 pB:Addr
 wY:PySem.W.findIn K (.ref aP) "__init__" =some (some (.ref jQ))
 xR:PySem.W.typeIn K (.ref jQ)=some (.type "function")
 Zv:EXX.SupF P K mg aP jQ "InvalidPage.__init__" (defArgs cD) (defBody cD) (defScope cD) jW pB yD
 Ua:Binds K yD ["self","line"] []
 xT:PySem.W.takerIn K aP "code" =some none
 wF:PySem.W.takerIn K aP "line" =some none
 fL:XfC K aP
 rD:PySem.W.findIn K (.ref aP) "at" =some none
 dM:PySem.W.findIn K (.ref aP) "code" =some none
 mQ:PySem.W.findIn K (.ref aP) "given" =some none
 lM:PySem.W.findIn K (.ref aP) "limit" =some none
 oY:PySem.W.findIn K (.ref aP) "line" =some none
 nU:PySem.W.findIn K (.ref aP) "most" =some none
 oR:PySem.W.findIn K (.ref aP) "name" =some none
 qL:KB K yD ["self","line"] 1 ["line"] [0,1]
 ajv:EXX.OexG K "ValueError" "ValueError.__new__" "ValueError.__init__" [.type "ValueError", .type "Exception", .type "BaseException", .type "object"] dF
 JR:Addr
 ZS:FuncData
 Gi:Addr
 Km:Addr
 aay:PySem.W.findIn K (.ref dF) "__init__" =some (some (.ref JR))
 aaz:PySem.W.typeIn K (.ref JR)=some (.type "function")
 aok:EXX.SupF P K mg dF JR "Sent.__init__" (defArgs fB) (defBody fB) (defScope fB) Gi Km ZS
 akv:Binds K ZS ["self"] []
 aaD:PySem.W.takerIn K dF "code" =some none
 zW:XfC K dF
 JC:PySem.W.findIn K (.ref dF) "at" =some none
 jX:PySem.W.findIn K (.ref dF) "code" =some none
 zu:PySem.W.findIn K (.ref dF) "given" =some none
 yZ:PySem.W.findIn K (.ref dF) "limit" =some none
 BW:PySem.W.findIn K (.ref dF) "line" =some none
 Bo:PySem.W.findIn K (.ref dF) "most" =some none
 Bx:PySem.W.findIn K (.ref dF) "name" =some none
 Vc:KB K ZS ["self"] 1 [] [0]
 ZV:EXX.OexG K "ValueError" "ValueError.__new__" "ValueError.__init__" [.type "ValueError", .type "Exception", .type "BaseException", .type "object"] aY
 rP:Addr
 Gf:FuncData
 rO:Addr
 vQ:Addr
 DQ:PySem.W.findIn K (.ref aY) "__init__" =some (some (.ref rP))
 DW:PySem.W.typeIn K (.ref rP)=some (.type "function")
 ae5:EXX.SupF P K mg aY rP "NoWriter.__init__" (defArgs cV) (defBody cV) (defScope cV) rO vQ Gf
 ZC:Binds K Gf ["self"] []
 DR:PySem.W.takerIn K aY "code" =some none
 jm:XfC K aY
 wM:PySem.W.findIn K (.ref aY) "at" =some none
 eZ:PySem.W.findIn K (.ref aY) "code" =some none
 rG:PySem.W.findIn K (.ref aY) "given" =some none
 rE:PySem.W.findIn K (.ref aY) "limit" =some none
 tQ:PySem.W.findIn K (.ref aY) "line" =some none
 tL:PySem.W.findIn K (.ref aY) "most" =some none
 tM:PySem.W.findIn K (.ref aY) "name" =some none
 xX:KB K Gf ["self"] 1 [] [0]
 RB:EXX.OexG K "LookupError" "LookupError.__new__" "LookupError.__init__" [.type "LookupError", .type "Exception", .type "BaseException", .type "object"] aQ
 jR:Addr
 yO:FuncData
 jV:Addr
 oZ:Addr
 wG:PySem.W.findIn K (.ref aQ) "__init__" =some (some (.ref jR))
 xU:PySem.W.typeIn K (.ref jR)=some (.type "function")
 Z5:EXX.SupF P K mg aQ jR "UnknownName.__init__" (defArgs cH) (defBody cH) (defScope cH) jV oZ yO
 TY:Binds K yO ["self","name"] []
 xQ:PySem.W.takerIn K aQ "code" =some none
 xP:PySem.W.takerIn K aQ "name" =some none
 fO:XfC K aQ
 qZ:PySem.W.findIn K (.ref aQ) "at" =some none
 dN:PySem.W.findIn K (.ref aQ) "code" =some none
 mW:PySem.W.findIn K (.ref aQ) "given" =some none
 lF:PySem.W.findIn K (.ref aQ) "limit" =some none
 oE:PySem.W.findIn K (.ref aQ) "line" =some none
 oK:PySem.W.findIn K (.ref aQ) "most" =some none
 nZ:PySem.W.findIn K (.ref aQ) "name" =some none
 qM:KB K yO ["self","name"] 1 ["name"] [0,1]
 R5:EXX.OexG K "IndexError" "IndexError.__new__" "IndexError.__init__" [.type "IndexError", .type "LookupError", .type "Exception", .type "BaseException", .type "object"] aU
 jT:Addr
 yG:FuncData
 j5:Addr
 o8:Addr
 wD:PySem.W.findIn K (.ref aU) "__init__" =some (some (.ref jT))
 wH:PySem.W.typeIn K (.ref jT)=some (.type "function")
 ZL:EXX.SupF P K mg aU jT "NothingLeft.__init__" (defArgs cG) (defBody cG) (defScope cG) j5 o8 yG
 Rv:Binds K yG ["self"] []
 wW:PySem.W.takerIn K aU "code" =some none
 fH:XfC K aU
 rJ:PySem.W.findIn K (.ref aU) "at" =some none
 dU:PySem.W.findIn K (.ref aU) "code" =some none
 lG:PySem.W.findIn K (.ref aU) "given" =some none
 mJ:PySem.W.findIn K (.ref aU) "limit" =some none
 oU:PySem.W.findIn K (.ref aU) "line" =some none
 ou:PySem.W.findIn K (.ref aU) "most" =some none
 oM:PySem.W.findIn K (.ref aU) "name" =some none
 qJ:KB K yG ["self"] 1 [] [0]
 zm:∀p ∈ Qw,(XfC K p.1∧IsO K p.1)∧PySem.W.kitOne K (.ref p.1) (.type "IndexError")=some p.2
 wC:∀p ∈ Kv,(XfC K p.1∧IsO K p.1)∧PySem.W.kitOne K (.ref p.1) (.type "LookupError")=some p.2
 HX:∀p ∈ Zb,(XfC K p.1∧IsO K p.1)∧PySem.W.kitOne K (.ref p.1) (.ref aap)=some p.2
 zE:∀p ∈ QL,(XfC K p.1∧IsO K p.1)∧PySem.W.kitOne K (.ref p.1) (.type "ValueError")=some p.2
 Bm:∀p ∈ Vk,(XfC K p.1∧IsO K p.1)∧PySem.W.kitOne K (.ref p.1) (.ref U4)=some p.2
 wU:∀p ∈ Kr,(XfC K p.1∧IsO K p.1)∧PySem.W.kitOne K (.ref p.1) (.ref aU)=some p.2
 xr:∀p ∈ Kw,(XfC K p.1∧IsO K p.1)∧PySem.W.kitOne K (.ref p.1) (.ref aQ)=some p.2
 Dy:∀p ∈ W9,(XfC K p.1∧IsO K p.1)∧PySem.W.kitOne K (.ref p.1) (.ref aY)=some p.2
 aaB:∀p ∈ agH,(XfC K p.1∧IsO K p.1)∧PySem.W.kitOne K (.ref p.1) (.ref dF)=some p.2
 xq:∀p ∈ KD,(XfC K p.1∧IsO K p.1)∧PySem.W.kitOne K (.ref p.1) (.ref aP)=some p.2
 rH:∀p ∈ Dd,(XfC K p.1∧IsO K p.1)∧PySem.W.kitOne K (.ref p.1) (.ref ao)=some p.2
 uL:∀p ∈ GZ,(XfC K p.1∧IsO K p.1)∧PySem.W.kitOne K (.ref p.1) (.ref aJ)=some p.2
 aaC:∀p ∈ agp,(XfC K p.1∧IsO K p.1)∧PySem.W.kitOne K (.ref p.1) (.ref cW)=some p.2
 sW:∀p ∈ Ei,(XfC K p.1∧IsO K p.1)∧PySem.W.kitOne K (.ref p.1) (.ref aq)=some p.2
 Jb:∀p ∈ Y5,(XfC K p.1∧IsO K p.1)∧PySem.W.kitOne K (.ref p.1) (.ref bx)=some p.2
 uZ:∀p ∈ GD,(XfC K p.1∧IsO K p.1)∧PySem.W.kitOne K (.ref p.1) (.ref aK)=some p.2
 zq:∀p ∈ QJ,(XfC K p.1∧IsO K p.1)∧PySem.W.kitOne K (.ref p.1) (.ref aW)=some p.2
 uG:∀p ∈ GX,(XfC K p.1∧IsO K p.1)∧PySem.W.kitOne K (.ref p.1) (.ref aM)=some p.2
 tD:∀p ∈ Ek,(XfC K p.1∧IsO K p.1)∧PySem.W.kitOne K (.ref p.1) (.ref au)=some p.2
 uE:∀p ∈ G6,(XfC K p.1∧IsO K p.1)∧PySem.W.kitOne K (.ref p.1) (.ref aG)=some p.2
 wQ:∀p ∈ Kz,(XfC K p.1∧IsO K p.1)∧PySem.W.kitOne K (.ref p.1) (.ref aO)=some p.2
 Jt:∀p ∈ YX,(XfC K p.1∧IsO K p.1)∧PySem.W.kitOne K (.ref p.1) (.ref bD)=some p.2
 Ir:∀p ∈ Y9,(XfC K p.1∧IsO K p.1)∧PySem.W.kitOne K (.ref p.1) (.ref bB)=some p.2
 Qo:∀p ∈ aa5,(XfC K p.1∧IsO K p.1)∧PySem.W.kitOne K (.ref p.1) (.ref bH)=some p.2
 Br:∀p ∈ Vl,(XfC K p.1∧IsO K p.1)∧PySem.W.kitOne K (.ref p.1) (.ref aX)=some p.2
 zH:∀p ∈ QH,(XfC K p.1∧IsO K p.1)∧PySem.W.kitOne K (.ref p.1) (.ref aV)=some p.2
 u9:∀p ∈ G4,(XfC K p.1∧IsO K p.1)∧PySem.W.kitOne K (.ref p.1) (.ref aH)=some p.2
 wB:∀p ∈ Ku,(XfC K p.1∧IsO K p.1)∧PySem.W.kitOne K (.ref p.1) (.ref aR)=some p.2
 ac3:mg "IndexError" =none
 aa1:mg "LookupError" =none
 adf:mg "ValueError" =none
 axi:mg "all" =none
 anq:mg "bool" =none
 atl:mg "dict" =none
 Yw:mg "int" =none
 bh:mg "isinstance" =none
 agQ:mg "len" =none
 agY:mg "list" =none
 akm:mg "range" =none
 ati:mg "str" =none
 agj:mg "tuple" =none
 axh:mg "zip" =none
section
variable {P:Program}{w:World}{K:PySem.W.Frag}{mg:Str→Option Value}{base:Heap}
theorem afv{k:Nat}(T:Tx P K mg):FnOk P w K mg base (L2.CX P w) (k + 1) T.jP T.yF ["self","given"] (EXX.spX1 aR "InvalidName" "given"):=
 EXX.fnSup1 T.Zh Aj T.R9 rfl rfl T.wO T.xM (by decide) (by decide)
theorem aep{k:Nat}(T:Tx P K mg):FnOk P w K mg base (L2.CX P w) (k + 1) T.iI T.wg ["self","name"] (EXX.spX1 aH "InvalidShape" "name"):=
 EXX.fnSup1 T.YJ yP T.Pj rfl rfl T.uO T.uX (by decide) (by decide)
theorem ahi{k:Nat}(T:Tx P K mg):FnOk P w K mg base (L2.CX P w) (k + 1) T.mZ T.Ab ["self","name"] (EXX.spX1 aV "UnknownUse" "name"):=
 EXX.fnSup1 T.aaX Cp T.V2 rfl rfl T.zB T.zM (by decide) (by decide)
theorem ah1{k:Nat}(T:Tx P K mg):FnOk P w K mg base (L2.CX P w) (k + 1) T.qu T.Cq ["self","name"] (EXX.spX1 aX "NoFilling" "name"):=
 EXX.fnSup1 T.ado Es T.Xw rfl rfl T.Bq T.BR (by decide) (by decide)
theorem ang{k:Nat}(T:Tx P K mg):FnOk P w K mg base (L2.CX P w) (k + 1) T.zN T.Rf ["self","name"] (EXX.spX1 bH "Silent" "name"):=
 EXX.fnSup1 T.aiB WM T.adJ rfl rfl T.Qt T.Qs (by decide) (by decide)
theorem alZ{k:Nat}(T:Tx P K mg):FnOk P w K mg base (L2.CX P w) (k + 1) T.vU T.Kc ["self","name"] (EXX.spX1 bB "TooLong" "name"):=
 EXX.fnSup1 T.ahD Ut T.ab2 rfl rfl T.Iw T.G9 (by decide) (by decide)
theorem alU{k:Nat}(T:Tx P K mg):FnOk P w K mg base (L2.CX P w) (k + 1) T.vX T.Kd ["self","name"] (EXX.spX1 bD "TooWide" "name"):=
 EXX.fnSup1 T.ag7 Us T.abI rfl rfl T.Je T.Ig (by decide) (by decide)
theorem afY{k:Nat}(T:Tx P K mg):FnOk P w K mg base (L2.CX P w) (k + 1) T.jO T.yV ["self","at"] (EXX.spX1 aO "InvalidText" "at"):=
 EXX.fnSup1 T.aag Av T.Uy rfl rfl T.wI T.wu (by decide) (by decide)
theorem aee{k:Nat}(T:Tx P K mg):FnOk P w K mg base (L2.CX P w) (k + 1) T.iH T.wL ["self","at"] (EXX.spX1 aG "InvalidEvent" "at"):=
 EXX.fnSup1 T.YL yu T.O6 rfl rfl T.vh T.uF (by decide) (by decide)
theorem acR{k:Nat}(T:Tx P K mg):FnOk P w K mg base (L2.CX P w) (k + 1) T.gK T.vL ["self","given"] (EXX.spX1 au "InvalidNumber" "given"):=
 EXX.fnSup1 T.W6 wJ T.HJ rfl rfl T.sU T.tG (by decide) (by decide)
theorem aeS{k:Nat}(T:Tx P K mg):FnOk P w K mg base (L2.CX P w) (k + 1) T.iK T.wN ["self","at"] (EXX.spX1 aM "InvalidBytes" "at"):=
 EXX.fnSup1 T.YG yE T.Ld rfl rfl T.uQ T.uf (by decide) (by decide)
theorem ahz{k:Nat}(T:Tx P K mg):FnOk P w K mg base (L2.CX P w) (k + 1) T.mY T.Bf ["self","name"] (EXX.spX1 aW "Unreadable" "name"):=
 EXX.fnSup1 T.aa0 Cj T.V4 rfl rfl T.zF T.zK (by decide) (by decide)
theorem ad7{k:Nat}(T:Tx P K mg):FnOk P w K mg base (L2.CX P w) (k + 1) T.iJ T.w6 ["self","given"] (EXX.spX1 aK "InvalidPlace" "given"):=
 EXX.fnSup1 T.Yt yC T.M6 rfl rfl T.ux T.vA (by decide) (by decide)
theorem als{k:Nat}(T:Tx P K mg):FnOk P w K mg base (L2.CX P w) (k + 1) T.vW T.Kh ["self","most"] (EXX.spX1 bx "TooMany" "most"):=
 EXX.fnSup1 T.ag6 Uh T.abK rfl rfl T.IW T.HS (by decide) (by decide)
theorem acS{k:Nat}(T:Tx P K mg):FnOk P w K mg base (L2.CX P w) (k + 1) T.gJ T.vP ["self","name"] (EXX.spX1 aq "DuplicateName" "name"):=
 EXX.fnSup1 T.W7 wj T.Hr rfl rfl T.sY T.sH (by decide) (by decide)
theorem atx{k:Nat}(T:Tx P K mg):FnOk P w K mg base (L2.CX P w) (k + 1) T.JQ T.Zm ["self","limit"] (EXX.spX1 cW "Full" "limit"):=
 EXX.fnSup1 T.aoh adb T.ajn rfl rfl T.aaF T.aaw (by decide) (by decide)
theorem adP{k:Nat}(T:Tx P K mg):FnOk P w K mg base (L2.CX P w) (k + 1) T.iQ T.wX ["self","given"] (EXX.spX1 aJ "InvalidLimit" "given"):=
 EXX.fnSup1 T.Yy yJ T.Ny rfl rfl T.uK T.uh (by decide) (by decide)
theorem ab7{k:Nat}(T:Tx P K mg):FnOk P w K mg base (L2.CX P w) (k + 1) T.gA T.tW ["self","at"] (EXX.spX1 ao "InvalidCommand" "at"):=
 EXX.fnSup1 T.Vb vM T.FW rfl rfl T.rB T.qY (by decide) (by decide)
theorem afr{k:Nat}(T:Tx P K mg):FnOk P w K mg base (L2.CX P w) (k + 1) T.jQ T.yD ["self","line"] (EXX.spX1 aP "InvalidPage" "line"):=
 EXX.fnSup1 T.Zv Ac T.Ra rfl rfl T.xT T.wF (by decide) (by decide)
theorem ato{k:Nat}(T:Tx P K mg):FnOk P w K mg base (L2.CX P w) (k + 1) T.JR T.ZS ["self"] (EXX.spX0 dF "Sent"):=
 EXX.fnSup0 T.aok adl T.ajv rfl rfl T.aaD
theorem akh{k:Nat}(T:Tx P K mg):FnOk P w K mg base (L2.CX P w) (k + 1) T.rP T.Gf ["self"] (EXX.spX0 aY "NoWriter"):=
 EXX.fnSup0 T.ae5 Ke T.ZV rfl rfl T.DR
theorem afH{k:Nat}(T:Tx P K mg):FnOk P w K mg base (L2.CX P w) (k + 1) T.jR T.yO ["self","name"] (EXX.spX1 aQ "UnknownName" "name"):=
 EXX.fnSup1 T.Z5 Ay T.RB rfl rfl T.xQ T.xP (by decide) (by decide)
theorem afK{k:Nat}(T:Tx P K mg):FnOk P w K mg base (L2.CX P w) (k + 1) T.jT T.yG ["self"] (EXX.spX0 aU "NothingLeft"):=
 EXX.fnSup0 T.ZL Az T.R5 rfl rfl T.wW
theorem adG{k:Nat}(T:Tx P K mg):FnOk P w K mg base (L2.CX P w) (k + 2) T.gG T.rZ ["_law_e"] (YS K (CtF Cy)):=by
 refine fn0 T.uY Bs (fun ds η Z Φ h=>U5 h) fun cdv A outer s H E ds η Z Φ hr hc=> ?_
 have hu:=hr.units
 refine ⟨_,_,(bZ (vD (i:=1) Bs.nd rfl (by first | exact Or.inl rfl | exact Or.inr rfl) (anL (aj (jU (by rfl) T.bh (by rfl) T.Wd (aN 0)) (aj (jU (by rfl) T.bh (by rfl) T.UW (aN 0)) (aj (jU (by rfl) T.bh (by rfl) T.XM (aN 0)) (aj (jU (by rfl) T.bh (by rfl) T.Z4 (aN 0)) (aj (jU (by rfl) T.bh (by rfl) T.agS (aN 0)) (aj (jU (by rfl) T.bh (by rfl) T.aeC (aN 0)) (aj (jU (by rfl) T.bh (by rfl) T.aeB (aN 0)) (aj (jU (by rfl) T.bh (by rfl) T.Vz (aN 0)) aZ))))))))))
  (bZ (aqE (az7 (K:=K) (by rfl) (aN 1) (aj (jU (by rfl) T.bh (by rfl) T.R4 (aN 0)) aZ)))
  (bZ (vD (i:=1) Bs.nd rfl (by first | exact Or.inl rfl | exact Or.inr rfl) (qm (anU (K:=K) (by rfl)) (aN 1) (Df (aj (jU (by rfl) T.bh (by rfl) T.Mv (aN 0)) (aj (jU (by rfl) T.bh (by rfl) T.Ru (aN 0)) (aj (jU (by rfl) T.bh (by rfl) T.XQ (aN 0)) (aj (jU (by rfl) T.bh (by rfl) T.Ud (aN 0)) (aj (jU (by rfl) T.bh (by rfl) T.aeO (aN 0)) (aj (jU (by rfl) T.bh (by rfl) T.Nv (aN 0)) (aj (jU (by rfl) T.bh (by rfl) T.ane (aN 0)) aZ))))))))))
  (bZ (vD (i:=1) Bs.nd rfl (by first | exact Or.inl rfl | exact Or.inr rfl) (qm (anU (K:=K) (by rfl)) (aN 1) (Df (aj (jU (by rfl) T.bh (by rfl) T.T6 (aN 0)) (aj (jU (by rfl) T.bh (by rfl) T.Ik (aN 0)) (aj (jU (by rfl) T.bh (by rfl) T.Wt (aN 0)) (aj (jU (by rfl) T.bh (by rfl) T.amW (aN 0)) (aj (jU (by rfl) T.bh (by rfl) T.abq (aN 0)) (aj (jU (by rfl) T.bh (by rfl) T.Vt (aN 0)) (aj (jU (by rfl) T.bh (by rfl) T.Ws (aN 0)) aZ))))))))))
  (fV (m7 (azY (aN 1)))))))),JV (body:=G3) ?_ rfl hc⟩
 unfold G3
 exact (cU (gR (akU (imp_cons (iw T.wB (ak)) (imp_cons (iw T.u9 (ak)) (imp_cons (iw T.zH (ak)) (imp_cons (iw T.Br (ak)) (imp_cons (iw T.Qo (ak)) (imp_cons (iw T.Ir (ak)) (imp_cons (iw T.Jt (ak)) (imp_cons (iw T.wQ (ak)) imp_nil))))))))) (eY (i:=1)))
  (cU (aoq (awh (ak) (imp_cons (iw T.uE (ak)) imp_nil)))
  (cU (gR (bK aiu (ak) (yc (imp_cons (iw T.tD (ak)) (imp_cons (iw T.uG (ak)) (imp_cons (iw T.zq (ak)) (imp_cons (iw T.uZ (ak)) (imp_cons (iw T.Jb (ak)) (imp_cons (iw T.sW (ak)) (imp_cons (iw T.aaC (ak)) imp_nil))))))))) (eY (i:=1)))
  (cU (gR (bK aiu (ak) (yc (imp_cons (iw T.uL (ak)) (imp_cons (iw T.rH (ak)) (imp_cons (iw T.xq (ak)) (imp_cons (iw T.aaB (ak)) (imp_cons (iw T.Dy (ak)) (imp_cons (iw T.xr (ak)) (imp_cons (iw T.wU (ak)) imp_nil))))))))) (eY (i:=1)))
  (iy (atR (ak)))))))
theorem ajx{k:Nat}(T:Tx P K mg){fG:MF}(DN:FnOk P w K mg base (L2.CX P w) k T.lX T.vN ["_law_found","_law_due"] (YS K (CtF fG))):FnOk P w K mg base (L2.CX P w) (k + 2) T.lX T.vN ["_law_found","_law_due"] (YS K (CtF (U9 fG))):=by
 refine fn0 T.xW Qg (fun ds η Z Φ h=>U5 h) fun cdv A outer s H E ds η Z Φ hr hc=> ?_
 have hu:=hr.units
 refine ⟨_,_,(bZ (zR (agd (m9 (KC (K:=K) (by rfl)) (by rfl) T.bh (by decide +kernel) (aj (aN 1) (aj (zU (T:="dict") (by rfl) T.atl (by decide +kernel)) aZ))))
   al0
   qF)
  (bZ (zR (agd (m9 (KC (K:=K) (by rfl)) (by rfl) T.bh (by decide +kernel) (aj (aN 1) (aj (ni (aj (zU (T:="list") (by rfl) T.agY (by decide +kernel)) (aj (zU (T:="tuple") (by rfl) T.agj (by decide +kernel)) aZ))) aZ))))
   (bZ (zR (an6 (amM (rM (agD (K:=K) (by rfl) hu) (m9 (KC (K:=K) (by rfl)) (by rfl) T.bh (by decide +kernel) (aj (aN 0) (aj (zU (T:="list") (by rfl) T.agY (by decide +kernel)) aZ))) (m9 (KC (K:=K) (by rfl)) (by rfl) T.bh (by decide +kernel) (aj (aN 1) (aj (zU (T:="list") (by rfl) T.agY (by decide +kernel)) aZ))) (nomark _)) (ai8 (rM (agD (K:=K) (by rfl) hu) (m9 (KC (K:=K) (by rfl)) (by rfl) T.bh (by decide +kernel) (aj (aN 0) (aj (zU (T:="tuple") (by rfl) T.agj (by decide +kernel)) aZ))) (m9 (KC (K:=K) (by rfl)) (by rfl) T.bh (by decide +kernel) (aj (aN 1) (aj (zU (T:="tuple") (by rfl) T.agj (by decide +kernel)) aZ))) (nomark _)))))
    (fV (m7 acO))
    qF)
   (fV (m7 (ami (QK (aaU (K:=K) (by rfl) hu) (m9 (ady (K:=K) (by rfl)) (by rfl) T.agQ (by decide +kernel) (aj (aN 0) aZ)) (m9 (ady (K:=K) (by rfl)) (by rfl) T.agQ (by decide +kernel) (aj (aN 1) aZ)) (nomark _)) (amF (m9 (ayg (K:=K) (by rfl) rfl) (by rfl) T.axi (by decide +kernel) (aj (apz (own:= [("_law_one",2),("_law_two",3)]) rfl Qg.nd (av6 (K:=K) (by rfl) (by rfl) T.axh (aj (aN 0) (aj (aN 1) aZ))) (blkOk_by (N:=ae6) (sc:=defScope Ba) (by decide +kernel)) (fun _ _ _ _ _=>(aiH (K:=K) (n:=2) (by rfl) rfl (Qn (El (i:=2) Qg.nd rfl (by first | exact Or.inl rfl | exact Or.inr rfl)) (Qn (El (i:=3) Qg.nd rfl (by first | exact Or.inl rfl | exact Or.inr rfl)) agJ)))) (aob (aat (YZ (by decide)) (aat (YZ (by decide)) akL aau) aau)) (fun _ _ _ _ _=>agz) (fun _ _ _ _ _=>(P0 (by exact ⟨rfl,rfl,rfl,rfl,rfl⟩) DN (hr.mono (by omega)) (by rfl) T.Qh T.xW.kp T.Qi .nil (fun _ _ _=> .nil) (aj (aN 2) (aj (aN 3) aZ))))) aZ)))))))
   qF)
  (bZ (zR (an6 (amM (rM aiX (aN 1) Xb (nomark _)) (ai8 (rM aiX (aN 0) Xb (nomark _)))))
   (fV (m7 (ami (QK aiX (aN 1) Xb (nomark _)) (amF (QK aiX (aN 0) Xb (nomark _))))))
   qF)
  (bZ (zR (an6 (amM (rM (agD (K:=K) (by rfl) hu) (m9 (KC (K:=K) (by rfl)) (by rfl) T.bh (by decide +kernel) (aj (aN 0) (aj (zU (T:="bool") (by rfl) T.anq (by decide +kernel)) aZ))) (m9 (KC (K:=K) (by rfl)) (by rfl) T.bh (by decide +kernel) (aj (aN 1) (aj (zU (T:="bool") (by rfl) T.anq (by decide +kernel)) aZ))) (nomark _)) (ai8 (rM (agD (K:=K) (by rfl) hu) (m9 (KC (K:=K) (by rfl)) (by rfl) T.bh (by decide +kernel) (aj (aN 0) (aj (zU (T:="int") (by rfl) T.Yw (by decide +kernel)) aZ))) (m9 (KC (K:=K) (by rfl)) (by rfl) T.bh (by decide +kernel) (aj (aN 1) (aj (zU (T:="int") (by rfl) T.Yw (by decide +kernel)) aZ))) (nomark _)))))
   (fV (m7 acO))
   qF)
  (fV (m7 (ami (QK (aaU (K:=K) (by rfl) hu) (m9 (KC (K:=K) (by rfl)) (by rfl) T.bh (by decide +kernel) (aj (aN 0) (aj (zU (T:="str") (by rfl) T.ati (by decide +kernel)) aZ))) (m9 (KC (K:=K) (by rfl)) (by rfl) T.bh (by decide +kernel) (aj (aN 1) (aj (zU (T:="str") (by rfl) T.ati (by decide +kernel)) aZ))) (nomark _)) (amF (QK (aaU (K:=K) (by rfl) hu) (aN 0) (aN 1) (nomark _)))))))))),JV (body:=Xh fG) ?_ rfl hc⟩
 unfold Xh
 exact (cU (tY (iz (nq yr (imp_cons (ak) (imp_cons (bf) imp_nil))))
   amo
   kh)
  (cU (tY (iz (nq yr (imp_cons (ak) (imp_cons (gQ (imp_cons (bf) (imp_cons (bf) imp_nil))) imp_nil))))
   (cU (tY (imp_or (iz (bK Xg (nq yr (imp_cons (ak) (imp_cons (bf) imp_nil))) (nq yr (imp_cons (ak) (imp_cons (bf) imp_nil))))) (iz (bK Xg (nq yr (imp_cons (ak) (imp_cons (bf) imp_nil))) (nq yr (imp_cons (ak) (imp_cons (bf) imp_nil))))))
    (iy (bf))
    kh)
   (iy (agC (bK JH (nq Wx (imp_cons (ak) imp_nil)) (nq Wx (imp_cons (ak) imp_nil))) (nq aqD (imp_cons (amm (apB (imp_cons (ak) (imp_cons (ak) imp_nil))) (agB (G5 (eY (i:=2)) (G5 (eY (i:=3)) adB))) aiI (Ea rfl (imp_cons (ak) (imp_cons (ak) imp_nil)))) imp_nil)))))
   kh)
  (cU (tY (imp_or (iz (bK acF (ak) (bf))) (iz (bK acF (ak) (bf))))
   (iy (agC (bK acF (ak) (bf)) (bK acF (ak) (bf))))
   kh)
  (cU (tY (imp_or (iz (bK Xg (nq yr (imp_cons (ak) (imp_cons (bf) imp_nil))) (nq yr (imp_cons (ak) (imp_cons (bf) imp_nil))))) (iz (bK Xg (nq yr (imp_cons (ak) (imp_cons (bf) imp_nil))) (nq yr (imp_cons (ak) (imp_cons (bf) imp_nil))))))
   (iy (bf))
   kh)
  (iy (agC (bK JH (nq yr (imp_cons (ak) (imp_cons (bf) imp_nil))) (nq yr (imp_cons (ak) (imp_cons (bf) imp_nil)))) (bK JH (ak) (ak))))))))
theorem aie{k:Nat}(T:Tx P K mg):FnOk P w K mg base (L2.CX P w) (k + 2) T.nO T.zf ["_law_e"] (YS K (CtF PN)):=by
 refine fn0 T.Bl ah0 (fun ds η Z Φ h=>U5 h) fun cdv A outer s H E ds η Z Φ hr hc=> ?_
 have hu:=hr.units
 refine ⟨_,_,(bZ (zR (rM (kd_in (K:=K) (by rfl) hu) (v8 (K:=K) (by rfl) (aN 0)) (ni (aj (eV ⟨by decide +kernel,by decide +kernel⟩) (aj (eV ⟨by decide +kernel,by decide +kernel⟩) (aj (eV ⟨by decide +kernel,by decide +kernel⟩) (aj (eV ⟨by decide +kernel,by decide +kernel⟩) aZ))))) (by rfl))
   (fV (m7 (v8 (K:=K) (by rfl) (aN 0))))
   qF)
  (bZ (zR (rM (kd_in (K:=K) (by rfl) hu) (v8 (K:=K) (by rfl) (aN 0)) (ni (aj (eV ⟨by decide +kernel,by decide +kernel⟩) (aj (eV ⟨by decide +kernel,by decide +kernel⟩) (aj (eV ⟨by decide +kernel,by decide +kernel⟩) (aj (eV ⟨by decide +kernel,by decide +kernel⟩) (aj (eV ⟨by decide +kernel,by decide +kernel⟩) (aj (eV ⟨by decide +kernel,by decide +kernel⟩) (aj (eV ⟨by decide +kernel,by decide +kernel⟩) (aj (eV ⟨by decide +kernel,by decide +kernel⟩) (aj (eV ⟨by decide +kernel,by decide +kernel⟩) aZ)))))))))) (by rfl))
   (fV (m7 (v8 (K:=K) (by rfl) (aN 0))))
   qF)
  (bZ (zR (rM (kd_in (K:=K) (by rfl) hu) (v8 (K:=K) (by rfl) (aN 0)) (ni (aj (eV ⟨by decide +kernel,by decide +kernel⟩) (aj (eV ⟨by decide +kernel,by decide +kernel⟩) (aj (eV ⟨by decide +kernel,by decide +kernel⟩) (aj (eV ⟨by decide +kernel,by decide +kernel⟩) aZ))))) (by rfl))
   (fV (m7 (v8 (K:=K) (by rfl) (aN 0))))
   qF)
  (bZ (zR (rM (aaU (K:=K) (by rfl) hu) (v8 (K:=K) (by rfl) (aN 0)) (eV ⟨by decide +kernel,by decide +kernel⟩) (nomark _))
   (fV (m7 (v8 (K:=K) (by rfl) (aN 0))))
   qF)
  (bZ (zR (rM (aaU (K:=K) (by rfl) hu) (v8 (K:=K) (by rfl) (aN 0)) (eV ⟨by decide +kernel,by decide +kernel⟩) (nomark _))
   (fV (m7 (v8 (K:=K) (by rfl) (aN 0))))
   qF)
  (fV (m7 (as5 (rM (aaU (K:=K) (by rfl) hu) (v8 (K:=K) (by rfl) (aN 0)) (eV ⟨by decide +kernel,by decide +kernel⟩) (nomark _)) (v8 (K:=K) (by rfl) (aN 0)) Xb)))))))),JV (body:=Vi) ?_ rfl hc⟩
 unfold Vi
 exact (cU (tY (iz (bK aiL (GJ (cls_cons ⟨T.fK,T.dR⟩ (cls_cons ⟨T.eE,T.dB⟩ (cls_cons ⟨T.fZ,T.dZ⟩ (cls_cons ⟨T.gW,T.eG⟩ (cls_cons ⟨T.qT,T.gH⟩ (cls_cons ⟨T.nQ,T.fW⟩ (cls_cons ⟨T.nA,T.fX⟩ (cls_cons ⟨T.fM,T.dO⟩ (cls_cons ⟨T.eO,T.cZ⟩ (cls_cons ⟨T.dY,T.cR⟩ (cls_cons ⟨T.d9,T.dw⟩ (cls_cons ⟨T.gq,T.d7⟩ (cls_cons ⟨T.eU,T.cY⟩ (cls_cons ⟨T.nu,T.fY⟩ (cls_cons ⟨T.dX,T.cQ⟩ (cls_cons ⟨T.zV,T.jY⟩ (cls_cons ⟨T.d8,T.dD⟩ (cls_cons ⟨T.dG,T.cM⟩ (cls_cons ⟨T.fL,T.dM⟩ (cls_cons ⟨T.zW,T.jX⟩ (cls_cons ⟨T.jm,T.eZ⟩ (cls_cons ⟨T.fO,T.dN⟩ (cls_cons ⟨T.fH,T.dU⟩ cls_nil))))))))))))))))))))))) (ak)) (gQ (imp_cons (bf) (imp_cons (bf) (imp_cons (bf) (imp_cons (bf) imp_nil)))))))
   (iy (GJ (cls_cons ⟨T.fK,T.mK⟩ (cls_cons ⟨T.eE,T.jG⟩ (cls_cons ⟨T.fZ,T.oW⟩ (cls_cons ⟨T.gW,T.pU⟩ (cls_cons ⟨T.qT,T.uH⟩ (cls_cons ⟨T.nQ,T.tO⟩ (cls_cons ⟨T.nA,T.sX⟩ (cls_cons ⟨T.fM,T.lN⟩ (cls_cons ⟨T.eO,T.ju⟩ (cls_cons ⟨T.dY,T.je⟩ (cls_cons ⟨T.d9,T.jA⟩ (cls_cons ⟨T.gq,T.oV⟩ (cls_cons ⟨T.eU,T.jw⟩ (cls_cons ⟨T.nu,T.sV⟩ (cls_cons ⟨T.dX,T.iV⟩ (cls_cons ⟨T.zV,T.za⟩ (cls_cons ⟨T.d8,T.jy⟩ (cls_cons ⟨T.dG,T.ig⟩ (cls_cons ⟨T.fL,T.mQ⟩ (cls_cons ⟨T.zW,T.zu⟩ (cls_cons ⟨T.jm,T.rG⟩ (cls_cons ⟨T.fO,T.mW⟩ (cls_cons ⟨T.fH,T.lG⟩ cls_nil))))))))))))))))))))))) (ak)))
   kh)
  (cU (tY (iz (bK aiL (GJ (cls_cons ⟨T.fK,T.dR⟩ (cls_cons ⟨T.eE,T.dB⟩ (cls_cons ⟨T.fZ,T.dZ⟩ (cls_cons ⟨T.gW,T.eG⟩ (cls_cons ⟨T.qT,T.gH⟩ (cls_cons ⟨T.nQ,T.fW⟩ (cls_cons ⟨T.nA,T.fX⟩ (cls_cons ⟨T.fM,T.dO⟩ (cls_cons ⟨T.eO,T.cZ⟩ (cls_cons ⟨T.dY,T.cR⟩ (cls_cons ⟨T.d9,T.dw⟩ (cls_cons ⟨T.gq,T.d7⟩ (cls_cons ⟨T.eU,T.cY⟩ (cls_cons ⟨T.nu,T.fY⟩ (cls_cons ⟨T.dX,T.cQ⟩ (cls_cons ⟨T.zV,T.jY⟩ (cls_cons ⟨T.d8,T.dD⟩ (cls_cons ⟨T.dG,T.cM⟩ (cls_cons ⟨T.fL,T.dM⟩ (cls_cons ⟨T.zW,T.jX⟩ (cls_cons ⟨T.jm,T.eZ⟩ (cls_cons ⟨T.fO,T.dN⟩ (cls_cons ⟨T.fH,T.dU⟩ cls_nil))))))))))))))))))))))) (ak)) (gQ (imp_cons (bf) (imp_cons (bf) (imp_cons (bf) (imp_cons (bf) (imp_cons (bf) (imp_cons (bf) (imp_cons (bf) (imp_cons (bf) (imp_cons (bf) imp_nil))))))))))))
   (iy (GJ (cls_cons ⟨T.fK,T.nW⟩ (cls_cons ⟨T.eE,T.lA⟩ (cls_cons ⟨T.fZ,T.pP⟩ (cls_cons ⟨T.gW,T.rC⟩ (cls_cons ⟨T.qT,T.wZ⟩ (cls_cons ⟨T.nQ,T.uR⟩ (cls_cons ⟨T.nA,T.u6⟩ (cls_cons ⟨T.fM,T.oX⟩ (cls_cons ⟨T.eO,T.mU⟩ (cls_cons ⟨T.dY,T.jt⟩ (cls_cons ⟨T.d9,T.lg⟩ (cls_cons ⟨T.gq,T.pK⟩ (cls_cons ⟨T.eU,T.lV⟩ (cls_cons ⟨T.nu,T.uD⟩ (cls_cons ⟨T.dX,T.jD⟩ (cls_cons ⟨T.zV,T.BK⟩ (cls_cons ⟨T.d8,T.lZ⟩ (cls_cons ⟨T.dG,T.jd⟩ (cls_cons ⟨T.fL,T.oR⟩ (cls_cons ⟨T.zW,T.Bx⟩ (cls_cons ⟨T.jm,T.tM⟩ (cls_cons ⟨T.fO,T.nZ⟩ (cls_cons ⟨T.fH,T.oM⟩ cls_nil))))))))))))))))))))))) (ak)))
   kh)
  (cU (tY (iz (bK aiL (GJ (cls_cons ⟨T.fK,T.dR⟩ (cls_cons ⟨T.eE,T.dB⟩ (cls_cons ⟨T.fZ,T.dZ⟩ (cls_cons ⟨T.gW,T.eG⟩ (cls_cons ⟨T.qT,T.gH⟩ (cls_cons ⟨T.nQ,T.fW⟩ (cls_cons ⟨T.nA,T.fX⟩ (cls_cons ⟨T.fM,T.dO⟩ (cls_cons ⟨T.eO,T.cZ⟩ (cls_cons ⟨T.dY,T.cR⟩ (cls_cons ⟨T.d9,T.dw⟩ (cls_cons ⟨T.gq,T.d7⟩ (cls_cons ⟨T.eU,T.cY⟩ (cls_cons ⟨T.nu,T.fY⟩ (cls_cons ⟨T.dX,T.cQ⟩ (cls_cons ⟨T.zV,T.jY⟩ (cls_cons ⟨T.d8,T.dD⟩ (cls_cons ⟨T.dG,T.cM⟩ (cls_cons ⟨T.fL,T.dM⟩ (cls_cons ⟨T.zW,T.jX⟩ (cls_cons ⟨T.jm,T.eZ⟩ (cls_cons ⟨T.fO,T.dN⟩ (cls_cons ⟨T.fH,T.dU⟩ cls_nil))))))))))))))))))))))) (ak)) (gQ (imp_cons (bf) (imp_cons (bf) (imp_cons (bf) (imp_cons (bf) imp_nil)))))))
   (iy (GJ (cls_cons ⟨T.fK,T.qR⟩ (cls_cons ⟨T.eE,T.pY⟩ (cls_cons ⟨T.fZ,T.tH⟩ (cls_cons ⟨T.gW,T.vq⟩ (cls_cons ⟨T.qT,T.BJ⟩ (cls_cons ⟨T.nQ,T.zj⟩ (cls_cons ⟨T.nA,T.zJ⟩ (cls_cons ⟨T.fM,T.qX⟩ (cls_cons ⟨T.eO,T.pJ⟩ (cls_cons ⟨T.dY,T.oh⟩ (cls_cons ⟨T.d9,T.pZ⟩ (cls_cons ⟨T.gq,T.sE⟩ (cls_cons ⟨T.eU,T.pN⟩ (cls_cons ⟨T.nu,T.zA⟩ (cls_cons ⟨T.dX,T.nY⟩ (cls_cons ⟨T.zV,T.Ji⟩ (cls_cons ⟨T.d8,T.pQ⟩ (cls_cons ⟨T.dG,T.mj⟩ (cls_cons ⟨T.fL,T.rD⟩ (cls_cons ⟨T.zW,T.JC⟩ (cls_cons ⟨T.jm,T.wM⟩ (cls_cons ⟨T.fO,T.qZ⟩ (cls_cons ⟨T.fH,T.rJ⟩ cls_nil))))))))))))))))))))))) (ak)))
   kh)
  (cU (tY (iz (bK JH (GJ (cls_cons ⟨T.fK,T.dR⟩ (cls_cons ⟨T.eE,T.dB⟩ (cls_cons ⟨T.fZ,T.dZ⟩ (cls_cons ⟨T.gW,T.eG⟩ (cls_cons ⟨T.qT,T.gH⟩ (cls_cons ⟨T.nQ,T.fW⟩ (cls_cons ⟨T.nA,T.fX⟩ (cls_cons ⟨T.fM,T.dO⟩ (cls_cons ⟨T.eO,T.cZ⟩ (cls_cons ⟨T.dY,T.cR⟩ (cls_cons ⟨T.d9,T.dw⟩ (cls_cons ⟨T.gq,T.d7⟩ (cls_cons ⟨T.eU,T.cY⟩ (cls_cons ⟨T.nu,T.fY⟩ (cls_cons ⟨T.dX,T.cQ⟩ (cls_cons ⟨T.zV,T.jY⟩ (cls_cons ⟨T.d8,T.dD⟩ (cls_cons ⟨T.dG,T.cM⟩ (cls_cons ⟨T.fL,T.dM⟩ (cls_cons ⟨T.zW,T.jX⟩ (cls_cons ⟨T.jm,T.eZ⟩ (cls_cons ⟨T.fO,T.dN⟩ (cls_cons ⟨T.fH,T.dU⟩ cls_nil))))))))))))))))))))))) (ak)) (bf)))
   (iy (GJ (cls_cons ⟨T.fK,T.oO⟩ (cls_cons ⟨T.eE,T.lE⟩ (cls_cons ⟨T.fZ,T.qd⟩ (cls_cons ⟨T.gW,T.qU⟩ (cls_cons ⟨T.qT,T.wR⟩ (cls_cons ⟨T.nQ,T.vp⟩ (cls_cons ⟨T.nA,T.uV⟩ (cls_cons ⟨T.fM,T.oA⟩ (cls_cons ⟨T.eO,T.lJ⟩ (cls_cons ⟨T.dY,T.jx⟩ (cls_cons ⟨T.d9,T.lO⟩ (cls_cons ⟨T.gq,T.pH⟩ (cls_cons ⟨T.eU,T.lY⟩ (cls_cons ⟨T.nu,T.uU⟩ (cls_cons ⟨T.dX,T.jL⟩ (cls_cons ⟨T.zV,T.Bg⟩ (cls_cons ⟨T.d8,T.lB⟩ (cls_cons ⟨T.dG,T.iY⟩ (cls_cons ⟨T.fL,T.nU⟩ (cls_cons ⟨T.zW,T.Bo⟩ (cls_cons ⟨T.jm,T.tL⟩ (cls_cons ⟨T.fO,T.oK⟩ (cls_cons ⟨T.fH,T.ou⟩ cls_nil))))))))))))))))))))))) (ak)))
   kh)
  (cU (tY (iz (bK JH (GJ (cls_cons ⟨T.fK,T.dR⟩ (cls_cons ⟨T.eE,T.dB⟩ (cls_cons ⟨T.fZ,T.dZ⟩ (cls_cons ⟨T.gW,T.eG⟩ (cls_cons ⟨T.qT,T.gH⟩ (cls_cons ⟨T.nQ,T.fW⟩ (cls_cons ⟨T.nA,T.fX⟩ (cls_cons ⟨T.fM,T.dO⟩ (cls_cons ⟨T.eO,T.cZ⟩ (cls_cons ⟨T.dY,T.cR⟩ (cls_cons ⟨T.d9,T.dw⟩ (cls_cons ⟨T.gq,T.d7⟩ (cls_cons ⟨T.eU,T.cY⟩ (cls_cons ⟨T.nu,T.fY⟩ (cls_cons ⟨T.dX,T.cQ⟩ (cls_cons ⟨T.zV,T.jY⟩ (cls_cons ⟨T.d8,T.dD⟩ (cls_cons ⟨T.dG,T.cM⟩ (cls_cons ⟨T.fL,T.dM⟩ (cls_cons ⟨T.zW,T.jX⟩ (cls_cons ⟨T.jm,T.eZ⟩ (cls_cons ⟨T.fO,T.dN⟩ (cls_cons ⟨T.fH,T.dU⟩ cls_nil))))))))))))))))))))))) (ak)) (bf)))
   (iy (GJ (cls_cons ⟨T.fK,T.lu⟩ (cls_cons ⟨T.eE,T.jJ⟩ (cls_cons ⟨T.fZ,T.oH⟩ (cls_cons ⟨T.gW,T.qb⟩ (cls_cons ⟨T.qT,T.vo⟩ (cls_cons ⟨T.nQ,T.sS⟩ (cls_cons ⟨T.nA,T.tR⟩ (cls_cons ⟨T.fM,T.mH⟩ (cls_cons ⟨T.eO,T.jE⟩ (cls_cons ⟨T.dY,T.iU⟩ (cls_cons ⟨T.d9,T.jK⟩ (cls_cons ⟨T.gq,T.oN⟩ (cls_cons ⟨T.eU,T.jH⟩ (cls_cons ⟨T.nu,T.sG⟩ (cls_cons ⟨T.dX,T.jh⟩ (cls_cons ⟨T.zV,T.zP⟩ (cls_cons ⟨T.d8,T.jC⟩ (cls_cons ⟨T.dG,T.g8⟩ (cls_cons ⟨T.fL,T.lM⟩ (cls_cons ⟨T.zW,T.yZ⟩ (cls_cons ⟨T.jm,T.rE⟩ (cls_cons ⟨T.fO,T.lF⟩ (cls_cons ⟨T.fH,T.mJ⟩ cls_nil))))))))))))))))))))))) (ak)))
   kh)
  (iy (ayc (iz (bK JH (GJ (cls_cons ⟨T.fK,T.dR⟩ (cls_cons ⟨T.eE,T.dB⟩ (cls_cons ⟨T.fZ,T.dZ⟩ (cls_cons ⟨T.gW,T.eG⟩ (cls_cons ⟨T.qT,T.gH⟩ (cls_cons ⟨T.nQ,T.fW⟩ (cls_cons ⟨T.nA,T.fX⟩ (cls_cons ⟨T.fM,T.dO⟩ (cls_cons ⟨T.eO,T.cZ⟩ (cls_cons ⟨T.dY,T.cR⟩ (cls_cons ⟨T.d9,T.dw⟩ (cls_cons ⟨T.gq,T.d7⟩ (cls_cons ⟨T.eU,T.cY⟩ (cls_cons ⟨T.nu,T.fY⟩ (cls_cons ⟨T.dX,T.cQ⟩ (cls_cons ⟨T.zV,T.jY⟩ (cls_cons ⟨T.d8,T.dD⟩ (cls_cons ⟨T.dG,T.cM⟩ (cls_cons ⟨T.fL,T.dM⟩ (cls_cons ⟨T.zW,T.jX⟩ (cls_cons ⟨T.jm,T.eZ⟩ (cls_cons ⟨T.fO,T.dN⟩ (cls_cons ⟨T.fH,T.dU⟩ cls_nil))))))))))))))))))))))) (ak)) (bf))) (GJ (cls_cons ⟨T.fK,T.oJ⟩ (cls_cons ⟨T.eE,T.lU⟩ (cls_cons ⟨T.fZ,T.pO⟩ (cls_cons ⟨T.gW,T.rF⟩ (cls_cons ⟨T.qT,T.xJ⟩ (cls_cons ⟨T.nQ,T.uI⟩ (cls_cons ⟨T.nA,T.uN⟩ (cls_cons ⟨T.fM,T.oG⟩ (cls_cons ⟨T.eO,T.lD⟩ (cls_cons ⟨T.dY,T.jB⟩ (cls_cons ⟨T.d9,T.mO⟩ (cls_cons ⟨T.gq,T.ql⟩ (cls_cons ⟨T.eU,T.mV⟩ (cls_cons ⟨T.nu,T.uw⟩ (cls_cons ⟨T.dX,T.jM⟩ (cls_cons ⟨T.zV,T.Bw⟩ (cls_cons ⟨T.d8,T.lQ⟩ (cls_cons ⟨T.dG,T.iW⟩ (cls_cons ⟨T.fL,T.oY⟩ (cls_cons ⟨T.zW,T.BW⟩ (cls_cons ⟨T.jm,T.tQ⟩ (cls_cons ⟨T.fO,T.oE⟩ (cls_cons ⟨T.fH,T.oU⟩ cls_nil))))))))))))))))))))))) (ak)) (bf))))))))
theorem aaQ{k:Nat}(T:Tx P K mg):FnOk P w K mg base (L2.CX P w) (k + 4) T.eX T.oF ["_law_one"] (YS K (CtF yd)):=by
 refine fn0 T.pX v7 (fun ds η Z Φ h=>U5 h) fun cdv A outer s H E ds η Z Φ hr hc=> ?_
 have hu:=hr.units
 refine ⟨_,_,(bZ (vD (i:=1) v7.nd rfl (by first | exact Or.inl rfl | exact Or.inr rfl) (Df (aj (ni (aj (qQ T.R9 T.wA T.xH (afv (k:=0) T) (hr.mono (by omega)) T.qK (by rfl) T.Wd ⟨by decide +kernel,by decide +kernel⟩ (kW (aN 0) qP)) (aj (aN 0) aZ))) (aj (ni (aj (qQ T.Pj T.vm T.u5 (aep (k:=0) T) (hr.mono (by omega)) T.pq (by rfl) T.UW ⟨by decide +kernel,by decide +kernel⟩ (kW (aN 0) qP)) (aj (aN 0) aZ))) (aj (ni (aj (qQ T.V2 T.zQ T.yX (ahi (k:=0) T) (hr.mono (by omega)) T.rW (by rfl) T.XM ⟨by decide +kernel,by decide +kernel⟩ (kW (aN 0) qP)) (aj (aN 0) aZ))) (aj (ni (aj (qQ T.Xw T.Bj T.Bv (ah1 (k:=0) T) (hr.mono (by omega)) T.vH (by rfl) T.Z4 ⟨by decide +kernel,by decide +kernel⟩ (kW (aN 0) qP)) (aj (aN 0) aZ))) (aj (ni (aj (qQ T.adJ T.Qq T.Qp (ang (k:=0) T) (hr.mono (by omega)) T.Du (by rfl) T.agS ⟨by decide +kernel,by decide +kernel⟩ (kW (aN 0) qP)) (aj (aN 0) aZ))) (aj (ni (aj (qQ T.ab2 T.Ij T.Ib (alZ (k:=0) T) (hr.mono (by omega)) T.Ad (by rfl) T.aeC ⟨by decide +kernel,by decide +kernel⟩ (kW (aN 0) qP)) (aj (aN 0) aZ))) (aj (ni (aj (qQ T.abI T.Jg T.Jy (alU (k:=0) T) (hr.mono (by omega)) T.Ah (by rfl) T.aeB ⟨by decide +kernel,by decide +kernel⟩ (kW (aN 0) qP)) (aj (aN 0) aZ))) (aj (ni (aj (qQ T.Uy T.xG T.xg (afY (k:=0) T) (hr.mono (by omega)) T.qI (by rfl) T.Vz ⟨by decide +kernel,by decide +kernel⟩ (kW (aN 0) qP)) (aj (aN 0) aZ))) aZ))))))))))
  (bZ (vD (i:=1) v7.nd rfl (by first | exact Or.inl rfl | exact Or.inr rfl) (qm (Dg (K:=K) (by rfl)) (aN 1) (Df (aj (ni (aj (qQ T.O6 T.uP T.uz (aee (k:=0) T) (hr.mono (by omega)) T.pC (by rfl) T.R4 ⟨by decide +kernel,by decide +kernel⟩ (kW (aN 0) qP)) (aj (aN 0) aZ))) (aj (ni (aj (qQ T.HJ T.sO T.tE (acR (k:=0) T) (hr.mono (by omega)) T.mX (by rfl) T.Mv ⟨by decide +kernel,by decide +kernel⟩ (kW (aN 0) qP)) (aj (aN 0) aZ))) (aj (ni (aj (qQ T.Ld T.vB T.uo (aeS (k:=0) T) (hr.mono (by omega)) T.pA (by rfl) T.Ru ⟨by decide +kernel,by decide +kernel⟩ (kW (aN 0) qP)) (aj (aN 0) aZ))) (aj (ni (aj (qQ T.V4 T.zp T.zG (ahz (k:=0) T) (hr.mono (by omega)) T.rQ (by rfl) T.XQ ⟨by decide +kernel,by decide +kernel⟩ (kW (aN 0) qP)) (aj (aN 0) aZ))) (aj (ni (aj (qQ T.M6 T.ug T.uM (ad7 (k:=0) T) (hr.mono (by omega)) T.pD (by rfl) T.Ud ⟨by decide +kernel,by decide +kernel⟩ (kW (aN 0) qP)) (aj (aN 0) aZ))) (aj (ni (aj (qQ T.abK T.JB T.Ju (als (k:=0) T) (hr.mono (by omega)) T.Ao (by rfl) T.aeO ⟨by decide +kernel,by decide +kernel⟩ (kW (aN 0) qP)) (aj (aN 0) aZ))) aZ)))))))))
  (bZ (vD (i:=1) v7.nd rfl (by first | exact Or.inl rfl | exact Or.inr rfl) (qm (Dg (K:=K) (by rfl)) (aN 1) (Df (aj (ni (aj (qQ T.Hr T.tK T.sJ (acS (k:=0) T) (hr.mono (by omega)) T.lW (by rfl) T.Nv ⟨by decide +kernel,by decide +kernel⟩ (kW (aN 0) qP)) (aj (aN 0) aZ))) (aj (ni (aj (qQ T.ajn T.aax T.aav (atx (k:=0) T) (hr.mono (by omega)) T.Vg (by rfl) T.ane ⟨by decide +kernel,by decide +kernel⟩ (kW (aN 0) qP)) (aj (aN 0) aZ))) (aj (ni (aj (qQ T.Ny T.uW T.vg (adP (k:=0) T) (hr.mono (by omega)) T.o7 (by rfl) T.T6 ⟨by decide +kernel,by decide +kernel⟩ (kW (aN 0) qP)) (aj (aN 0) aZ))) (aj (ni (aj (qQ T.FW T.rA T.qW (ab7 (k:=0) T) (hr.mono (by omega)) T.jo (by rfl) T.Ik ⟨by decide +kernel,by decide +kernel⟩ (kW (aN 0) qP)) (aj (aN 0) aZ))) (aj (ni (aj (qQ T.Ra T.wY T.xR (afr (k:=0) T) (hr.mono (by omega)) T.qL (by rfl) T.Wt ⟨by decide +kernel,by decide +kernel⟩ (kW (aN 0) qP)) (aj (aN 0) aZ))) (aj (ni (aj (ai6 T.ajv T.aay T.aaz (ato (k:=0) T) (hr.mono (by omega)) T.Vc (by rfl) T.amW ⟨by decide +kernel,by decide +kernel⟩) (aj Xb aZ))) (aj (ni (aj (ai6 T.ZV T.DQ T.DW (akh (k:=0) T) (hr.mono (by omega)) T.xX (by rfl) T.abq ⟨by decide +kernel,by decide +kernel⟩) (aj Xb aZ))) aZ))))))))))
  (fV (m7 (qm (Dg (K:=K) (by rfl)) (aN 1) (Df (aj (ni (aj (qQ T.RB T.wG T.xU (afH (k:=0) T) (hr.mono (by omega)) T.qM (by rfl) T.Vt ⟨by decide +kernel,by decide +kernel⟩ (kW (aN 0) qP)) (aj (aN 0) aZ))) (aj (ni (aj (ai6 T.R5 T.wD T.wH (afK (k:=0) T) (hr.mono (by omega)) T.qJ (by rfl) T.Ws ⟨by decide +kernel,by decide +kernel⟩) (aj Xb aZ))) aZ))))))))),JV (body:=BZ) ?_ rfl hc⟩
 unfold BZ
 exact (cU (gR (yc (imp_cons (gQ (imp_cons (j9 (imp_cons (ak) imp_nil)) (imp_cons (ak) imp_nil))) (imp_cons (gQ (imp_cons (j9 (imp_cons (ak) imp_nil)) (imp_cons (ak) imp_nil))) (imp_cons (gQ (imp_cons (j9 (imp_cons (ak) imp_nil)) (imp_cons (ak) imp_nil))) (imp_cons (gQ (imp_cons (j9 (imp_cons (ak) imp_nil)) (imp_cons (ak) imp_nil))) (imp_cons (gQ (imp_cons (j9 (imp_cons (ak) imp_nil)) (imp_cons (ak) imp_nil))) (imp_cons (gQ (imp_cons (j9 (imp_cons (ak) imp_nil)) (imp_cons (ak) imp_nil))) (imp_cons (gQ (imp_cons (j9 (imp_cons (ak) imp_nil)) (imp_cons (ak) imp_nil))) (imp_cons (gQ (imp_cons (j9 (imp_cons (ak) imp_nil)) (imp_cons (ak) imp_nil))) imp_nil))))))))) (eY (i:=1)))
  (cU (gR (bK tV (ak) (yc (imp_cons (gQ (imp_cons (j9 (imp_cons (ak) imp_nil)) (imp_cons (ak) imp_nil))) (imp_cons (gQ (imp_cons (j9 (imp_cons (ak) imp_nil)) (imp_cons (ak) imp_nil))) (imp_cons (gQ (imp_cons (j9 (imp_cons (ak) imp_nil)) (imp_cons (ak) imp_nil))) (imp_cons (gQ (imp_cons (j9 (imp_cons (ak) imp_nil)) (imp_cons (ak) imp_nil))) (imp_cons (gQ (imp_cons (j9 (imp_cons (ak) imp_nil)) (imp_cons (ak) imp_nil))) (imp_cons (gQ (imp_cons (j9 (imp_cons (ak) imp_nil)) (imp_cons (ak) imp_nil))) imp_nil)))))))) (eY (i:=1)))
  (cU (gR (bK tV (ak) (yc (imp_cons (gQ (imp_cons (j9 (imp_cons (ak) imp_nil)) (imp_cons (ak) imp_nil))) (imp_cons (gQ (imp_cons (j9 (imp_cons (ak) imp_nil)) (imp_cons (ak) imp_nil))) (imp_cons (gQ (imp_cons (j9 (imp_cons (ak) imp_nil)) (imp_cons (ak) imp_nil))) (imp_cons (gQ (imp_cons (j9 (imp_cons (ak) imp_nil)) (imp_cons (ak) imp_nil))) (imp_cons (gQ (imp_cons (j9 (imp_cons (ak) imp_nil)) (imp_cons (ak) imp_nil))) (imp_cons (gQ (imp_cons agr (imp_cons (bf) imp_nil))) (imp_cons (gQ (imp_cons agr (imp_cons (bf) imp_nil))) imp_nil))))))))) (eY (i:=1)))
  (iy (bK tV (ak) (yc (imp_cons (gQ (imp_cons (j9 (imp_cons (ak) imp_nil)) (imp_cons (ak) imp_nil))) (imp_cons (gQ (imp_cons agr (imp_cons (bf) imp_nil))) imp_nil))))))))
theorem ajU{k:Nat}(T:Tx P K mg):FnOk P w K mg base (L2.CX P w) (k + 2) T.qG T.Bp ["_law_bag_here","_law_many"] (YS K (CtF U6)):=by
 refine fn0 T.Dz Qe (fun ds η Z Φ h=>U5 h) fun cdv A outer s H E ds η Z Φ hr hc=> ?_
 have hu:=hr.units
 refine ⟨_,_,(bZ (Xf (qm (Dg (K:=K) (by rfl)) (Gz (Gv (K:=K) (by rfl)) (aN 0) cP (fun _ _=>rfl)) cP) (aar (E:=E0) (aN 0) cP std))
  (bZ (zR (an6 (avW (rM (aaU (K:=K) (by rfl) hu) (Gz (Gv (K:=K) (by rfl)) (aN 0) cP (fun _ _=>rfl)) cP (nomark _)) (aqZ (rM arv (Gz (Gv (K:=K) (by rfl)) (aN 0) cP (fun _ _=>rfl)) (m9 (ady (K:=K) (by rfl)) (by rfl) T.agQ (by decide +kernel) (aj (Gz (Gv (K:=K) (by rfl)) (aN 0) cP (fun _ _=>rfl)) aZ)) (nomark _)))))
   (bZ (vD (i:=2) Qe.nd rfl (by first | exact Or.inl rfl | exact Or.inr rfl) (Gz (Gv (K:=K) (by rfl)) (Gz (Gv (K:=K) (by rfl)) (aN 0) cP (fun _ _=>rfl)) (Gz (Gv (K:=K) (by rfl)) (aN 0) cP (fun _ _=>rfl)) (fun _ _=>rfl)))
   (bZ (Xf (qm (Dg (K:=K) (by rfl)) (Gz (Gv (K:=K) (by rfl)) (aN 0) cP (fun _ _=>rfl)) cP) (aar (E:=E0) (aN 0) cP std))
   (fV (zR (rM aBN (aN 2) (qm amb cP cP) (nomark _))
    (fV (Xf (aN 2) (aar (E:=E0) (aN 0) cP std)))
    (fV (Xf (qm YT (yW Xj (by rfl) T.Yw (by decide +kernel) (aj (qm (Dg (K:=K) (by rfl)) (qm (Dg (K:=K) (by rfl)) (qm adx (Gz (Gv (K:=K) (by rfl)) (aN 0) cP (fun _ _=>rfl)) cP) (qm adx (qm YT (yW Xj (by rfl) T.Yw (by decide +kernel) (aj (aN 2) aZ)) cP) cP)) cP) aZ)) cP) (aar (E:=E0) (aN 0) cP std)))))))
   qF)
  (bZ (zR (rM awH (Gz (Gv (K:=K) (by rfl)) (aN 0) cP (fun _ _=>rfl)) cP (nomark _))
   (bZ (vD (i:=3) Qe.nd rfl (by first | exact Or.inl rfl | exact Or.inr rfl) (qm YT (yW Xj (by rfl) T.Yw (by decide +kernel) (aj (Gz (Gv (K:=K) (by rfl)) (aN 0) cP (fun _ _=>rfl)) aZ)) (aN 1)))
   (bZ (Xf (qm aoe (Gz (Gv (K:=K) (by rfl)) (aN 0) cP (fun _ _=>rfl)) (aN 1)) (aar (E:=E0) (aN 0) cP std))
   (fV (m7 (aN 3)))))
   qF)
  (bZ (vD (i:=4) Qe.nd rfl (by first | exact Or.inl rfl | exact Or.inr rfl) (yW Xj (by rfl) T.Yw (by decide +kernel) (aj (Gz (Gv (K:=K) (by rfl)) (aN 0) cP (fun _ _=>rfl)) aZ)))
  (bZ (Xf (qm YT (yW Xj (by rfl) T.Yw (by decide +kernel) (aj (qm (Dg (K:=K) (by rfl)) (qm (Dg (K:=K) (by rfl)) (qm (Dg (K:=K) (by rfl)) (qm amb (aN 4) cP) (qm adx (aN 4) cP)) (qm adx (Gz (Gv (K:=K) (by rfl)) (aN 0) cP (fun _ _=>rfl)) cP)) cP) aZ)) cP) (aar (E:=E0) (aN 0) cP std))
  (fV (m7 (qm YT (yW Xj (by rfl) T.Yw (by decide +kernel) (aj (qm (Dg (K:=K) (by rfl)) (qm aoe (Gz (Gv (K:=K) (by rfl)) (aN 0) cP (fun _ _=>rfl)) cP) (qm adx (qm YT (yW Xj (by rfl) T.Yw (by decide +kernel) (aj (Gz (Gv (K:=K) (by rfl)) (aN 0) cP (fun _ _=>rfl)) aZ)) cP) cP)) aZ)) (aN 1))))))))),JV (body:=Eb) ?_ rfl hc⟩
 unfold Eb
 exact (cU (gR (bK tV (bK tZ (ak) (bf)) (bf)) (WD Ql (ak) (bf)))
  (cU (tY (imp_and (iz (bK JH (bK tZ (ak) (bf)) (bf))) (iz (bK ai3 (bK tZ (ak) (bf)) (nq Wx (imp_cons (bK tZ (ak) (bf)) imp_nil)))))
   (cU (gR (bK tZ (bK tZ (ak) (bf)) (bK tZ (ak) (bf))) (eY (i:=2)))
   (cU (gR (bK tV (bK tZ (ak) (bf)) (bf)) (WD Ql (ak) (bf)))
   (tY (iz (bK auX (ak) (bK agw (bf) (bf))))
    (gR (ak) (WD Ql (ak) (bf)))
    (gR (bK JW (nq Ec (imp_cons (bK tV (bK tV (bK Wz (bK tZ (ak) (bf)) (bf)) (bK Wz (bK JW (nq Ec (imp_cons (ak) imp_nil)) (bf)) (bf))) (bf)) imp_nil)) (bf)) (WD Ql (ak) (bf))))))
   kh)
  (cU (tY (iz (bK anv (bK tZ (ak) (bf)) (bf)))
   (cU (gR (bK JW (nq Ec (imp_cons (bK tZ (ak) (bf)) imp_nil)) (ak)) (eY (i:=3)))
   (cU (gR (bK akE (bK tZ (ak) (bf)) (ak)) (WD Ql (ak) (bf)))
   (iy (ak))))
   kh)
  (cU (gR (nq Ec (imp_cons (bK tZ (ak) (bf)) imp_nil)) (eY (i:=4)))
  (cU (gR (bK JW (nq Ec (imp_cons (bK tV (bK tV (bK tV (bK agw (ak) (bf)) (bK Wz (ak) (bf))) (bK Wz (bK tZ (ak) (bf)) (bf))) (bf)) imp_nil)) (bf)) (WD Ql (ak) (bf)))
  (iy (bK JW (nq Ec (imp_cons (bK tV (bK akE (bK tZ (ak) (bf)) (bf)) (bK Wz (bK JW (nq Ec (imp_cons (bK tZ (ak) (bf)) imp_nil)) (bf)) (bf))) imp_nil)) (ak))))))))
theorem am1{k:Nat}(T:Tx P K mg){qD:MF}(aah:FnOk P w K mg base (L2.CX P w) k T.qG T.Bp ["_law_bag_here","_law_many"] (YS K (CtF qD))):FnOk P w K mg base (L2.CX P w) (k + 2) T.xK T.Jm ["_law_bag_here","_law_some"] (YS K (CtF (WK qD))):=by
 refine fn0 T.Qu amT (fun ds η Z Φ h=>U5 h) fun cdv A outer s H E ds η Z Φ hr hc=> ?_
 have hu:=hr.units
 refine ⟨_,_,(fV (m7 (Gz (Gv (K:=K) (by rfl)) (aN 1) (P0 (by exact ⟨rfl,rfl,rfl,rfl,rfl⟩) aah (hr.mono (by omega)) (by rfl) T.ac5 T.Dz.kp T.ac0 .nil (fun _ _ _=> .nil) (aj (aN 0) (aj (m9 (ady (K:=K) (by rfl)) (by rfl) T.agQ (by decide +kernel) (aj (aN 1) aZ)) aZ))) (fun _ _=>rfl)))),JV (body:=Xi qD) ?_ rfl hc⟩
 unfold Xi
 exact (iy (bK tZ (ak) (Ea rfl (imp_cons (ak) (imp_cons (nq Wx (imp_cons (ak) imp_nil)) imp_nil)))))
theorem alN{k:Nat}(T:Tx P K mg):FnOk P w K mg base (L2.CX P w) (k + 2) T.tX T.Dt ["_law_script"] (YS K (CtF Qx)):=by
 refine fn0 T.Iz Vd (fun ds η Z Φ h=>U5 h) fun cdv A outer s H E ds η Z Φ hr hc=> ?_
 have hu:=hr.units
 refine ⟨_,_,(bZ (vD (i:=1) Vd.nd rfl (by first | exact Or.inl rfl | exact Or.inr rfl) cP)
  (bZ (an8 (passes_of rfl) rfl (anC (K:=K) (by rfl) (ak4 (axf (K:=K) (by rfl)) (aN 0) alf (akM cP))) (El (i:=2) Vd.nd rfl (by first | exact Or.inl rfl | exact Or.inr rfl))
   (fV (vD (i:=1) Vd.nd rfl (by first | exact Or.inl rfl | exact Or.inr rfl) (qm YT (yW Xj (by rfl) T.Yw (by decide +kernel) (aj (qm (Dg (K:=K) (by rfl)) (qm (Dg (K:=K) (by rfl)) (qm adx (aN 1) cP) (qm YT (yW Xj (by rfl) T.Yw (by decide +kernel) (aj (aN 2) aZ)) cP)) cP) aZ)) cP))))
  (fV (m7 (anL (aj (yW (awc (K:=K) (by rfl)) (by rfl) T.agY (by decide +kernel) (aj (ak4 (axf (K:=K) (by rfl)) (aN 0) alf (akM cP)) aZ)) (aj cP (aj cP (aj (aN 1) (aj cP aZ)))))))))),JV (body:=U8) ?_ rfl hc⟩
 unfold U8
 exact (cU (gR (bf) (eY (i:=1)))
  (cU (alk (akQ (aqb ait (ak) agN (akY (bf)))) (eY (i:=2))
   (gR (bK JW (nq Ec (imp_cons (bK tV (bK tV (bK Wz (ak) (bf)) (bK JW (nq Ec (imp_cons (ak) imp_nil)) (bf))) (bf)) imp_nil)) (bf)) (eY (i:=1))))
  (iy (akU (imp_cons (nq aox (imp_cons (aqb ait (ak) agN (akY (bf))) imp_nil)) (imp_cons (bf) (imp_cons (bf) (imp_cons (ak) (imp_cons (bf) imp_nil)))))))))
theorem ok_law{k:Nat}(T:Tx P K mg){iG:MF}(NP:FnOk P w K mg base (L2.CX P w) k T.gG T.rZ ["_law_e"] (YS K (CtF iG))){fG:MF}(DN:FnOk P w K mg base (L2.CX P w) k T.lX T.vN ["_law_found","_law_due"] (YS K (CtF fG))){qp:MF}(Yj:FnOk P w K mg base (L2.CX P w) k T.nO T.zf ["_law_e"] (YS K (CtF qp))){fQ:MF}(Dq:FnOk P w K mg base (L2.CX P w) k T.eX T.oF ["_law_one"] (YS K (CtF fQ))){rY:MF}(aeo:FnOk P w K mg base (L2.CX P w) k T.xK T.Jm ["_law_bag_here","_law_some"] (YS K (CtF rY))){rK:MF}(acr:FnOk P w K mg base (L2.CX P w) k T.tX T.Dt ["_law_script"] (YS K (CtF rK))):FnOk P w K mg base (L2.CX P w) (k + 2) T.YC T.ag8 ["_law_script"] (YS K (CtF (aqC iG fG qp fQ rY rK))):=by
 refine fn0 T.aon Dm (fun ds η Z Φ h=>U5 h) fun cdv A outer s H E ds η Z Φ hr hc=> ?_
 have hu:=hr.units
 refine ⟨_,_,(bZ (vD (i:=1) Dm.nd rfl (by first | exact Or.inl rfl | exact Or.inr rfl) (P0 (by exact ⟨rfl,rfl,rfl,rfl,rfl⟩) acr (hr.mono (by omega)) (by rfl) T.ae8 T.Iz.kp T.afc .nil (fun _ _ _=> .nil) (aj (aN 0) aZ)))
  (bZ (vD (i:=2) Dm.nd rfl (by first | exact Or.inl rfl | exact Or.inr rfl) (P0 (by exact ⟨rfl,rfl,rfl,rfl,rfl⟩) aeo (hr.mono (by omega)) (by rfl) T.ahe T.Qu.kp T.ahu .nil (fun _ _ _=> .nil) (aj (aN 1) (aj (Df (aj Xb (aj acO (aj cP (aj cP (aj (aAD cP) (aj (qm amb cP cP) (aj (eV ⟨by decide +kernel,by decide +kernel⟩) (aj (eV ⟨by decide +kernel,by decide +kernel⟩) (aj (ni aZ) (aj (Df (aj (eV ⟨by decide +kernel,by decide +kernel⟩) aZ)) (aj (ni (aj (eV ⟨by decide +kernel,by decide +kernel⟩) (aj cP aZ))) aZ)))))))))))) aZ))))
  (bZ (vD (i:=3) Dm.nd rfl (by first | exact Or.inl rfl | exact Or.inr rfl) (Df (aj (eV ⟨by decide +kernel,by decide +kernel⟩) (aj (eV ⟨by decide +kernel,by decide +kernel⟩) (aj (eV ⟨by decide +kernel,by decide +kernel⟩) (aj (eV ⟨by decide +kernel,by decide +kernel⟩) (aj (eV ⟨by decide +kernel,by decide +kernel⟩) (aj (eV ⟨by decide +kernel,by decide +kernel⟩) (aj (eV ⟨by decide +kernel,by decide +kernel⟩) (aj (eV ⟨by decide +kernel,by decide +kernel⟩) aZ))))))))))
  (bZ (vD (i:=3) Dm.nd rfl (by first | exact Or.inl rfl | exact Or.inr rfl) (qm (Dg (K:=K) (by rfl)) (aN 3) (Df (aj (eV ⟨by decide +kernel,by decide +kernel⟩) (aj (eV ⟨by decide +kernel,by decide +kernel⟩) (aj (eV ⟨by decide +kernel,by decide +kernel⟩) (aj (eV ⟨by decide +kernel,by decide +kernel⟩) (aj (eV ⟨by decide +kernel,by decide +kernel⟩) (aj (eV ⟨by decide +kernel,by decide +kernel⟩) (aj (eV ⟨by decide +kernel,by decide +kernel⟩) (aj (eV ⟨by decide +kernel,by decide +kernel⟩) aZ)))))))))))
  (bZ (vD (i:=3) Dm.nd rfl (by first | exact Or.inl rfl | exact Or.inr rfl) (qm (Dg (K:=K) (by rfl)) (aN 3) (Df (aj (eV ⟨by decide +kernel,by decide +kernel⟩) (aj (eV ⟨by decide +kernel,by decide +kernel⟩) (aj (eV ⟨by decide +kernel,by decide +kernel⟩) (aj (eV ⟨by decide +kernel,by decide +kernel⟩) (aj (eV ⟨by decide +kernel,by decide +kernel⟩) (aj (eV ⟨by decide +kernel,by decide +kernel⟩) (aj (eV ⟨by decide +kernel,by decide +kernel⟩) aZ))))))))))
  (bZ (vD (i:=4) Dm.nd rfl (by first | exact Or.inl rfl | exact Or.inr rfl) (P0 (by exact ⟨rfl,rfl,rfl,rfl,rfl⟩) Dq (hr.mono (by omega)) (by rfl) T.PB T.pX.kp T.PL .nil (fun _ _ _=> .nil) (aj (aN 2) aZ)))
  (bZ (zR (anR (agd (P0 (by exact ⟨rfl,rfl,rfl,rfl,rfl⟩) DN (hr.mono (by omega)) (by rfl) T.Qh T.xW.kp T.Qi .nil (fun _ _ _=> .nil) (aj (apz (own:= [("_law_e",6),("_law_due",7)]) rfl Dm.nd (anC (K:=K) (by rfl) (aN 4)) (blkOk_by (N:=atu) (sc:=defScope ae9) (by decide +kernel)) (fun _ _ _ _ _=>(aiH (K:=K) (n:=2) (by rfl) rfl (Qn (El (i:=6) Dm.nd rfl (by first | exact Or.inl rfl | exact Or.inr rfl)) (Qn (El (i:=7) Dm.nd rfl (by first | exact Or.inl rfl | exact Or.inr rfl)) agJ)))) (aob (aat (YZ (by decide)) (aat (YZ (by decide)) akL aau) aau)) (fun _ _ _ _ _=>agz) (fun _ _ _ _ _=>(v8 (K:=K) (by rfl) (aN 6)))) (aj (aN 3) aZ)))))
   (fV (m7 acO))
   qF)
  (bZ (an8 (passes_of rfl) rfl (agE (by rfl) T.akm (aj (m9 (ady (K:=K) (by rfl)) (by rfl) T.agQ (by decide +kernel) (aj (aN 4) aZ)) aZ)) (El (i:=5) Dm.nd rfl (by first | exact Or.inl rfl | exact Or.inr rfl))
   (bZ (Xf (Gz (Gv (K:=K) (by rfl)) (aN 4) (aN 5) (fun _ _=>rfl)) (aiH (K:=K) (n:=2) (by rfl) rfl (Qn (El (i:=6) Dm.nd rfl (by first | exact Or.inl rfl | exact Or.inr rfl)) (Qn (El (i:=7) Dm.nd rfl (by first | exact Or.inl rfl | exact Or.inr rfl)) agJ))))
   (bZ (zR (anR (agd (P0 (by exact ⟨rfl,rfl,rfl,rfl,rfl⟩) DN (hr.mono (by omega)) (by rfl) T.Qh T.xW.kp T.Qi .nil (fun _ _ _=> .nil) (aj (P0 (by exact ⟨rfl,rfl,rfl,rfl,rfl⟩) Yj (hr.mono (by omega)) (by rfl) T.aaV T.Bl.kp T.aaW .nil (fun _ _ _=> .nil) (aj (aN 6) aZ)) (aj (aN 7) aZ)))))
    (fV (m7 acO))
    qF)
   (bZ (zR (rM (agD (K:=K) (by rfl) hu) (P0 (by exact ⟨rfl,rfl,rfl,rfl,rfl⟩) NP (hr.mono (by omega)) (by rfl) T.WL T.uY.kp T.W8 .nil (fun _ _ _=> .nil) (aj (aN 6) aZ)) (apz (own:= [("_law_j",8)]) rfl Dm.nd (agE (by rfl) T.akm (aj (m9 (ady (K:=K) (by rfl)) (by rfl) T.agQ (by decide +kernel) (aj (aN 4) aZ)) aZ)) (blkOk_by (N:=atu) (sc:=defScope ae9) (by decide +kernel)) (fun _ _ _ _ _=>(El (i:=8) Dm.nd rfl (by first | exact Or.inl rfl | exact Or.inr rfl))) (YZ (by decide)) (fun _ _ _ _ _=>agz) (fun _ _ _ _ _=>(QK (aaU (K:=K) (by rfl) hu) (aN 8) (aN 5) (nomark _)))) (nomark _))
    (fV (m7 acO))
    qF)
   (bZ (zR (rM (agD (K:=K) (by rfl) hu) (Df (aj (jU (by rfl) T.bh (by rfl) T.afb (aN 6)) (aj (aiY (T:="ValueError") (by rfl) T.bh (by rfl) T.adf (by decide +kernel) (aN 6)) aZ))) (Df (aj (QK arv (aN 5) cP (nomark _)) (aj (QK arv (aN 5) cP (nomark _)) aZ))) (nomark _))
    (fV (m7 acO))
    qF)
   (fV (zR (rM (agD (K:=K) (by rfl) hu) (Df (aj (jU (by rfl) T.bh (by rfl) T.aiA (aN 6)) (aj (aiY (T:="LookupError") (by rfl) T.bh (by rfl) T.aa1 (by decide +kernel) (aN 6)) (aj (aiY (T:="IndexError") (by rfl) T.bh (by rfl) T.ac3 (by decide +kernel) (aN 6)) aZ)))) (Df (aj (QK (aaU (K:=K) (by rfl) hu) (aN 5) cP (nomark _)) (aj (QK awH (aN 5) cP (nomark _)) (aj (QK (aaU (K:=K) (by rfl) hu) (aN 5) cP (nomark _)) aZ)))) (nomark _))
    (fV (m7 acO))
    qF)))))))
  (fV (m7 acO)))))))))),JV (body:=ajk iG fG qp fQ rY rK) ?_ rfl hc⟩
 unfold ajk
 exact (cU (gR (Ea rfl (imp_cons (ak) imp_nil)) (eY (i:=1)))
  (cU (gR (Ea rfl (imp_cons (ak) (imp_cons (yc (imp_cons (bf) (imp_cons (bf) (imp_cons (bf) (imp_cons (bf) (imp_cons (aAA ash (bf)) (imp_cons (bK agw (bf) (bf)) (imp_cons (bf) (imp_cons (bf) (imp_cons (gQ imp_nil) (imp_cons (yc (imp_cons (bf) imp_nil)) (imp_cons (gQ (imp_cons (bf) (imp_cons (bf) imp_nil))) imp_nil)))))))))))) imp_nil))) (eY (i:=2)))
  (cU (gR (yc (imp_cons (bf) (imp_cons (bf) (imp_cons (bf) (imp_cons (bf) (imp_cons (bf) (imp_cons (bf) (imp_cons (bf) (imp_cons (bf) imp_nil))))))))) (eY (i:=3)))
  (cU (gR (bK tV (ak) (yc (imp_cons (bf) (imp_cons (bf) (imp_cons (bf) (imp_cons (bf) (imp_cons (bf) (imp_cons (bf) (imp_cons (bf) (imp_cons (bf) imp_nil)))))))))) (eY (i:=3)))
  (cU (gR (bK tV (ak) (yc (imp_cons (bf) (imp_cons (bf) (imp_cons (bf) (imp_cons (bf) (imp_cons (bf) (imp_cons (bf) (imp_cons (bf) imp_nil))))))))) (eY (i:=3)))
  (cU (gR (Ea rfl (imp_cons (ak) imp_nil)) (eY (i:=4)))
  (cU (tY (anN (iz (Ea rfl (imp_cons (amm (akQ (ak)) (agB (G5 (eY (i:=6)) (G5 (eY (i:=7)) adB))) aiI (GJ (cls_cons ⟨T.fK,T.dR⟩ (cls_cons ⟨T.eE,T.dB⟩ (cls_cons ⟨T.fZ,T.dZ⟩ (cls_cons ⟨T.gW,T.eG⟩ (cls_cons ⟨T.qT,T.gH⟩ (cls_cons ⟨T.nQ,T.fW⟩ (cls_cons ⟨T.nA,T.fX⟩ (cls_cons ⟨T.fM,T.dO⟩ (cls_cons ⟨T.eO,T.cZ⟩ (cls_cons ⟨T.dY,T.cR⟩ (cls_cons ⟨T.d9,T.dw⟩ (cls_cons ⟨T.gq,T.d7⟩ (cls_cons ⟨T.eU,T.cY⟩ (cls_cons ⟨T.nu,T.fY⟩ (cls_cons ⟨T.dX,T.cQ⟩ (cls_cons ⟨T.zV,T.jY⟩ (cls_cons ⟨T.d8,T.dD⟩ (cls_cons ⟨T.dG,T.cM⟩ (cls_cons ⟨T.fL,T.dM⟩ (cls_cons ⟨T.zW,T.jX⟩ (cls_cons ⟨T.jm,T.eZ⟩ (cls_cons ⟨T.fO,T.dN⟩ (cls_cons ⟨T.fH,T.dU⟩ cls_nil))))))))))))))))))))))) (ak))) (imp_cons (ak) imp_nil)))))
   (iy (bf))
   kh)
  (cU (alk (ae3 (imp_cons (nq Wx (imp_cons (ak) imp_nil)) imp_nil)) (eY (i:=5))
   (cU (gR (bK tZ (ak) (ak)) (agB (G5 (eY (i:=6)) (G5 (eY (i:=7)) adB))))
   (cU (tY (anN (iz (Ea rfl (imp_cons (Ea rfl (imp_cons (ak) imp_nil)) (imp_cons (ak) imp_nil)))))
    (iy (bf))
    kh)
   (cU (tY (iz (bK Xg (Ea rfl (imp_cons (ak) imp_nil)) (amm (ae3 (imp_cons (nq Wx (imp_cons (ak) imp_nil)) imp_nil)) (eY (i:=8)) aiI (bK JH (ak) (ak)))))
    (iy (bf))
    kh)
   (cU (tY (iz (bK Xg (yc (imp_cons (iw T.Bm (ak)) (imp_cons (iw T.zE (ak)) imp_nil))) (yc (imp_cons (bK ai3 (ak) (bf)) (imp_cons (bK ai3 (ak) (bf)) imp_nil)))))
    (iy (bf))
    kh)
   (tY (iz (bK Xg (yc (imp_cons (iw T.HX (ak)) (imp_cons (iw T.wC (ak)) (imp_cons (iw T.zm (ak)) imp_nil)))) (yc (imp_cons (bK JH (ak) (bf)) (imp_cons (bK anv (ak) (bf)) (imp_cons (bK JH (ak) (bf)) imp_nil))))))
    (iy (bf))
    kh))))))
  (iy (bf))))))))))
theorem chain(T:Tx P K mg):FnOk P w K mg base (L2.CX P w) 15 T.YC T.ag8 ["_law_script"] (YS K (CtF m_law)):=by
 have NP:FnOk P w K mg base (L2.CX P w) 3 T.gG T.rZ ["_law_e"] (YS K (CtF iG)):=adG (k:=1) T
 have alp:∀q:Nat,FnOk P w K mg base (L2.CX P w) (1 + 2 * q) T.lX T.vN ["_law_found","_law_due"] (YS K (CtF (Y6 q))):=by
  intro q
  induction q with
  | zero=>exact arJ fun ds η Z Φ h=>auC h
  | succ q ih=>
   exact ajx (k:=1 + 2 * q) T ih
 have DN:FnOk P w K mg base (L2.CX P w) 13 T.lX T.vN ["_law_found","_law_due"] (YS K (CtF fG)):=alp 6
 have Yj:FnOk P w K mg base (L2.CX P w) 3 T.nO T.zf ["_law_e"] (YS K (CtF qp)):=aie (k:=1) T
 have Dq:FnOk P w K mg base (L2.CX P w) 5 T.eX T.oF ["_law_one"] (YS K (CtF fQ)):=aaQ (k:=1) T
 have aah:FnOk P w K mg base (L2.CX P w) 3 T.qG T.Bp ["_law_bag_here","_law_many"] (YS K (CtF qD)):=ajU (k:=1) T
 have aeo:FnOk P w K mg base (L2.CX P w) 5 T.xK T.Jm ["_law_bag_here","_law_some"] (YS K (CtF rY)):=am1 (k:=3) T (aah.mono (by decide))
 have acr:FnOk P w K mg base (L2.CX P w) 3 T.tX T.Dt ["_law_script"] (YS K (CtF rK)):=alN (k:=1) T
 have aDZ:FnOk P w K mg base (L2.CX P w) 15 T.YC T.ag8 ["_law_script"] (YS K (CtF m_law)):=ok_law (k:=13) T (NP.mono (by decide)) (DN.mono (by decide)) (Yj.mono (by decide)) (Dq.mono (by decide)) (aeo.mono (by decide)) (acr.mono (by decide))
 exact aDZ
end
theorem fin_mk{l:PySem.W.OpenLaw}{w:World}{K:PySem.W.Frag}{h:Heap}{mg:Str→Option Value}{fa:Addr}(X:K.In h)(G:h.Ns mainGlobals mg)(hfa:mg "law" =some (.ref fa))
  {gG:Addr}
  {lX:Addr}
  {nO:Addr}
  {eX:Addr}
  {qG:Addr}
  {xK:Addr}
  {tX:Addr}
  {YC:Addr}
  (Jo:PySem.W.nsIn K mainGlobals "DuplicateName" =some (some (.ref aq)))
  (ajy:PySem.W.nsIn K mainGlobals "Full" =some (some (.ref cW)))
  (MJ:PySem.W.nsIn K mainGlobals "InvalidBytes" =some (some (.ref aM)))
  (Et:PySem.W.nsIn K mainGlobals "InvalidCommand" =some (some (.ref ao)))
  (Ma:PySem.W.nsIn K mainGlobals "InvalidEvent" =some (some (.ref aG)))
  (LR:PySem.W.nsIn K mainGlobals "InvalidLimit" =some (some (.ref aJ)))
  (Uu:PySem.W.nsIn K mainGlobals "InvalidName" =some (some (.ref aR)))
  (Jw:PySem.W.nsIn K mainGlobals "InvalidNumber" =some (some (.ref au)))
  (Rw:PySem.W.nsIn K mainGlobals "InvalidPage" =some (some (.ref aP)))
  (Ox:PySem.W.nsIn K mainGlobals "InvalidPlace" =some (some (.ref aK)))
  (Lf:PySem.W.nsIn K mainGlobals "InvalidShape" =some (some (.ref aH)))
  (Uw:PySem.W.nsIn K mainGlobals "InvalidText" =some (some (.ref aO)))
  (abM:PySem.W.nsIn K mainGlobals "Missing" =some (some (.ref aap)))
  (Yl:PySem.W.nsIn K mainGlobals "NoFilling" =some (some (.ref aX)))
  (ZW:PySem.W.nsIn K mainGlobals "NoWriter" =some (some (.ref aY)))
  (Ul:PySem.W.nsIn K mainGlobals "NothingLeft" =some (some (.ref aU)))
  (Xo:PySem.W.nsIn K mainGlobals "PlanError" =some (some (.ref U4)))
  (ajO:PySem.W.nsIn K mainGlobals "Sent" =some (some (.ref dF)))
  (aeb:PySem.W.nsIn K mainGlobals "Silent" =some (some (.ref bH)))
  (abF:PySem.W.nsIn K mainGlobals "TooLong" =some (some (.ref bB)))
  (abX:PySem.W.nsIn K mainGlobals "TooMany" =some (some (.ref bx)))
  (abk:PySem.W.nsIn K mainGlobals "TooWide" =some (some (.ref bD)))
  (Tc:PySem.W.nsIn K mainGlobals "UnknownName" =some (some (.ref aQ)))
  (Wn:PySem.W.nsIn K mainGlobals "UnknownUse" =some (some (.ref aV)))
  (VD:PySem.W.nsIn K mainGlobals "Unreadable" =some (some (.ref aW)))
  (yx:(l.prog.main.scope.names.lookup ("super" :Str)).isSome=false)
  (j7:PySem.W.nsIn K mainGlobals "super" =some none)
  (yL:PySem.W.nsIn K cStatics "thirdparty.any" =some none)
  {jP j6 o9:Addr}{ahI qK SJ Ub xH agX afJ:Value}{R7 afl afp afm:Option Addr}{ahH afT afw:Array (Option Value)}{aaj:Array Value}{ZF:Str}{ag4:Tok}
  (wA:PySem.W.findIn K (.ref aR) "__init__" =some (some (.ref jP)))
  (RL:PySem.W.typeIn K (.ref jP)=some (.type "function"))
  (TV:K.lookup jP=some ⟨ahI,afl, .func (PySem.W.ksFn "__init__" "InvalidName.__init__" (defArgs cC) (defBody cC) (defScope cC) .none qK SJ Ub R7 (.ref j6) xH o9),ahH⟩)
  (Tw:PySem.W.codeIn K (.ref j6) "InvalidName.__init__" =true)
  (RM:K.lookup o9=some ⟨afJ,afm, .cell (some (.ref aR)),afw⟩)
  (Sh:K.lookup j6=some ⟨agX,afp, .fields aaj,afT⟩)
  (SQ:aaj[2]? =some (.str ZF ag4))
  (Q9:((l.prog.main.file:Str)==ZF)=true)
  (Uj:PySem.W.excInitIn K aR [.type "ValueError", .type "Exception", .type "BaseException", .type "object"] "ValueError.__new__" =true)
  (Ue:PySem.W.excOver K aR [.type "ValueError", .type "Exception", .type "BaseException", .type "object"]=true)
  (Bb:PySem.W.hasDictIn K aR=true)
  (Rj:PySem.W.findIn K (.ref aR) "__setattr__" =some (some (.builtin "object.__setattr__")))
  (Aa:PySem.W.subIn K (.ref aR) (.type "BaseException")=some true)
  (Q7:PySem.W.subIn K (.ref aR) (.type "ValueError")=some true)
  (Rb:PySem.W.typeIn K (.ref aR)=some (.type "type"))
  (Uk:PySem.W.keepIn K (.ref aR)=true)
  (Aj:PySem.W.ks_superIn K aR aR "__init__" =some (some (.builtin "ValueError.__init__")))
  (wO:PySem.W.takerIn K aR "code" =some none)
  (xM:PySem.W.takerIn K aR "given" =some none)
  (Fb:PySem.W.findIn K (.ref aR) "__getattribute__" =some (some (.builtin "BaseException.__getattribute__")))
  (Eu:PySem.W.findIn K (.ref aR) "__getattr__" =some none)
  (qR:PySem.W.findIn K (.ref aR) "at" =some none)
  (dR:PySem.W.findIn K (.ref aR) "code" =some none)
  (mK:PySem.W.findIn K (.ref aR) "given" =some none)
  (lu:PySem.W.findIn K (.ref aR) "limit" =some none)
  (oJ:PySem.W.findIn K (.ref aR) "line" =some none)
  (oO:PySem.W.findIn K (.ref aR) "most" =some none)
  (nW:PySem.W.findIn K (.ref aR) "name" =some none)
  (M8:PySem.W.findIn K (.ref aR) "__class__" =some (some (.builtin "object.__class__")))
  (Le:PySem.W.mroIn K aR (.type "object")=some true)
  {iI iZ kZ:Addr}{af6 pq MN NQ u5 af3 ad3:Value}{NK adS adW aey:Option Addr}{afG aeD aeA:Array (Option Value)}{YK:Array Value}{YH:Str}{afk:Tok}
  (vm:PySem.W.findIn K (.ref aH) "__init__" =some (some (.ref iI)))
  (Ly:PySem.W.typeIn K (.ref iI)=some (.type "function"))
  (Nh:K.lookup iI=some ⟨af6,adS, .func (PySem.W.ksFn "__init__" "InvalidShape.__init__" (defArgs bU) (defBody bU) (defScope bU) .none pq MN NQ NK (.ref iZ) u5 kZ),afG⟩)
  (Ls:PySem.W.codeIn K (.ref iZ) "InvalidShape.__init__" =true)
  (Mu:K.lookup kZ=some ⟨ad3,aey, .cell (some (.ref aH)),aeA⟩)
  (Oq:K.lookup iZ=some ⟨af3,adW, .fields YK,aeD⟩)
  (Nq:YK[2]? =some (.str YH afk))
  (Nt:((l.prog.main.file:Str)==YH)=true)
  (KN:PySem.W.excInitIn K aH [.type "ValueError", .type "Exception", .type "BaseException", .type "object"] "ValueError.__new__" =true)
  (Pn:PySem.W.excOver K aH [.type "ValueError", .type "Exception", .type "BaseException", .type "object"]=true)
  (yH:PySem.W.hasDictIn K aH=true)
  (O9:PySem.W.findIn K (.ref aH) "__setattr__" =some (some (.builtin "object.__setattr__")))
  (yw:PySem.W.subIn K (.ref aH) (.type "BaseException")=some true)
  (Ml:PySem.W.subIn K (.ref aH) (.type "ValueError")=some true)
  (LC:PySem.W.typeIn K (.ref aH)=some (.type "type"))
  (N6:PySem.W.keepIn K (.ref aH)=true)
  (yP:PySem.W.ks_superIn K aH aH "__init__" =some (some (.builtin "ValueError.__init__")))
  (uO:PySem.W.takerIn K aH "code" =some none)
  (uX:PySem.W.takerIn K aH "name" =some none)
  (CG:PySem.W.findIn K (.ref aH) "__getattribute__" =some (some (.builtin "BaseException.__getattribute__")))
  (CV:PySem.W.findIn K (.ref aH) "__getattr__" =some none)
  (pY:PySem.W.findIn K (.ref aH) "at" =some none)
  (dB:PySem.W.findIn K (.ref aH) "code" =some none)
  (jG:PySem.W.findIn K (.ref aH) "given" =some none)
  (jJ:PySem.W.findIn K (.ref aH) "limit" =some none)
  (lU:PySem.W.findIn K (.ref aH) "line" =some none)
  (lE:PySem.W.findIn K (.ref aH) "most" =some none)
  (lA:PySem.W.findIn K (.ref aH) "name" =some none)
  (HF:PySem.W.findIn K (.ref aH) "__class__" =some (some (.builtin "object.__class__")))
  (Ht:PySem.W.mroIn K aH (.type "object")=some true)
  {mZ nJ qN:Addr}{aia rW Vr Vw yX ah9 ahs:Value}{VH ahb ag5 ahd:Option Addr}{ahX agV ahB:Array (Option Value)}{aaY:Array Value}{aa4:Str}{ahW:Tok}
  (zQ:PySem.W.findIn K (.ref aV) "__init__" =some (some (.ref mZ)))
  (Wb:PySem.W.typeIn K (.ref mZ)=some (.type "function"))
  (V3:K.lookup mZ=some ⟨aia,ahb, .func (PySem.W.ksFn "__init__" "UnknownUse.__init__" (defArgs cJ) (defBody cJ) (defScope cJ) .none rW Vr Vw VH (.ref nJ) yX qN),ahX⟩)
  (Wq:PySem.W.codeIn K (.ref nJ) "UnknownUse.__init__" =true)
  (Vv:K.lookup qN=some ⟨ahs,ahd, .cell (some (.ref aV)),ahB⟩)
  (VN:K.lookup nJ=some ⟨ah9,ag5, .fields aaY,agV⟩)
  (V6:aaY[2]? =some (.str aa4 ahW))
  (Wm:((l.prog.main.file:Str)==aa4)=true)
  (Vp:PySem.W.excInitIn K aV [.type "ValueError", .type "Exception", .type "BaseException", .type "object"] "ValueError.__new__" =true)
  (Wi:PySem.W.excOver K aV [.type "ValueError", .type "Exception", .type "BaseException", .type "object"]=true)
  (Cm:PySem.W.hasDictIn K aV=true)
  (VJ:PySem.W.findIn K (.ref aV) "__setattr__" =some (some (.builtin "object.__setattr__")))
  (Cr:PySem.W.subIn K (.ref aV) (.type "BaseException")=some true)
  (Vy:PySem.W.subIn K (.ref aV) (.type "ValueError")=some true)
  (V5:PySem.W.typeIn K (.ref aV)=some (.type "type"))
  (VF:PySem.W.keepIn K (.ref aV)=true)
  (Cp:PySem.W.ks_superIn K aV aV "__init__" =some (some (.builtin "ValueError.__init__")))
  (zB:PySem.W.takerIn K aV "code" =some none)
  (zM:PySem.W.takerIn K aV "name" =some none)
  (JM:PySem.W.findIn K (.ref aV) "__getattribute__" =some (some (.builtin "BaseException.__getattribute__")))
  (JL:PySem.W.findIn K (.ref aV) "__getattr__" =some none)
  (tH:PySem.W.findIn K (.ref aV) "at" =some none)
  (dZ:PySem.W.findIn K (.ref aV) "code" =some none)
  (oW:PySem.W.findIn K (.ref aV) "given" =some none)
  (oH:PySem.W.findIn K (.ref aV) "limit" =some none)
  (pO:PySem.W.findIn K (.ref aV) "line" =some none)
  (qd:PySem.W.findIn K (.ref aV) "most" =some none)
  (pP:PySem.W.findIn K (.ref aV) "name" =some none)
  (QW:PySem.W.findIn K (.ref aV) "__class__" =some (some (.builtin "object.__class__")))
  (RQ:PySem.W.mroIn K aV (.type "object")=some true)
  {qu qC rR:Addr}{akn vH X5 X4 Bv aj7 ahT:Value}{Xr ah7 ah6 aii:Option Addr}{ajI aib ahU:Array (Option Value)}{adt:Array Value}{ac4:Str}{ajF:Tok}
  (Bj:PySem.W.findIn K (.ref aX) "__init__" =some (some (.ref qu)))
  (Yd:PySem.W.typeIn K (.ref qu)=some (.type "function"))
  (Xz:K.lookup qu=some ⟨akn,ah7, .func (PySem.W.ksFn "__init__" "NoFilling.__init__" (defArgs cO) (defBody cO) (defScope cO) .none vH X5 X4 Xr (.ref qC) Bv rR),ajI⟩)
  (Ye:PySem.W.codeIn K (.ref qC) "NoFilling.__init__" =true)
  (X3:K.lookup rR=some ⟨ahT,aii, .cell (some (.ref aX)),ahU⟩)
  (Xu:K.lookup qC=some ⟨aj7,ah6, .fields adt,aib⟩)
  (Yh:adt[2]? =some (.str ac4 ajF))
  (XD:((l.prog.main.file:Str)==ac4)=true)
  (Yk:PySem.W.excInitIn K aX [.type "ValueError", .type "Exception", .type "BaseException", .type "object"] "ValueError.__new__" =true)
  (Yc:PySem.W.excOver K aX [.type "ValueError", .type "Exception", .type "BaseException", .type "object"]=true)
  (Gj:PySem.W.hasDictIn K aX=true)
  (Xv:PySem.W.findIn K (.ref aX) "__setattr__" =some (some (.builtin "object.__setattr__")))
  (Eo:PySem.W.subIn K (.ref aX) (.type "BaseException")=some true)
  (Yb:PySem.W.subIn K (.ref aX) (.type "ValueError")=some true)
  (X6:PySem.W.typeIn K (.ref aX)=some (.type "type"))
  (XJ:PySem.W.keepIn K (.ref aX)=true)
  (Es:PySem.W.ks_superIn K aX aX "__init__" =some (some (.builtin "ValueError.__init__")))
  (Bq:PySem.W.takerIn K aX "code" =some none)
  (BR:PySem.W.takerIn K aX "name" =some none)
  (Qa:PySem.W.findIn K (.ref aX) "__getattribute__" =some (some (.builtin "BaseException.__getattribute__")))
  (Qc:PySem.W.findIn K (.ref aX) "__getattr__" =some none)
  (vq:PySem.W.findIn K (.ref aX) "at" =some none)
  (eG:PySem.W.findIn K (.ref aX) "code" =some none)
  (pU:PySem.W.findIn K (.ref aX) "given" =some none)
  (qb:PySem.W.findIn K (.ref aX) "limit" =some none)
  (rF:PySem.W.findIn K (.ref aX) "line" =some none)
  (qU:PySem.W.findIn K (.ref aX) "most" =some none)
  (rC:PySem.W.findIn K (.ref aX) "name" =some none)
  (VP:PySem.W.findIn K (.ref aX) "__class__" =some (some (.builtin "object.__class__")))
  (Wv:PySem.W.mroIn K aX (.type "object")=some true)
  {zN yg Ai:Addr}{ao5 Du aej ael Qp ao7 amS:Value}{aer amZ am5 am9:Option Addr}{ao4 ani amY:Array (Option Value)}{aiC:Array Value}{aiz:Str}{ao8:Tok}
  (Qq:PySem.W.findIn K (.ref bH) "__init__" =some (some (.ref zN)))
  (aeR:PySem.W.typeIn K (.ref zN)=some (.type "function"))
  (aec:K.lookup zN=some ⟨ao5,amZ, .func (PySem.W.ksFn "__init__" "Silent.__init__" (defArgs dW) (defBody dW) (defScope dW) .none Du aej ael aer (.ref yg) Qp Ai),ao4⟩)
  (aea:PySem.W.codeIn K (.ref yg) "Silent.__init__" =true)
  (adI:K.lookup Ai=some ⟨amS,am9, .cell (some (.ref bH)),amY⟩)
  (adV:K.lookup yg=some ⟨ao7,am5, .fields aiC,ani⟩)
  (aev:aiC[2]? =some (.str aiz ao8))
  (aeK:((l.prog.main.file:Str)==aiz)=true)
  (adH:PySem.W.excInitIn K bH [.type "ValueError", .type "Exception", .type "BaseException", .type "object"] "ValueError.__new__" =true)
  (aeP:PySem.W.excOver K bH [.type "ValueError", .type "Exception", .type "BaseException", .type "object"]=true)
  (W4:PySem.W.hasDictIn K bH=true)
  (aeH:PySem.W.findIn K (.ref bH) "__setattr__" =some (some (.builtin "object.__setattr__")))
  (WY:PySem.W.subIn K (.ref bH) (.type "BaseException")=some true)
  (aeY:PySem.W.subIn K (.ref bH) (.type "ValueError")=some true)
  (ad8:PySem.W.typeIn K (.ref bH)=some (.type "type"))
  (aeE:PySem.W.keepIn K (.ref bH)=true)
  (WM:PySem.W.ks_superIn K bH bH "__init__" =some (some (.builtin "ValueError.__init__")))
  (Qt:PySem.W.takerIn K bH "code" =some none)
  (Qs:PySem.W.takerIn K bH "name" =some none)
  (aaE:PySem.W.findIn K (.ref bH) "__getattribute__" =some (some (.builtin "BaseException.__getattribute__")))
  (aaA:PySem.W.findIn K (.ref bH) "__getattr__" =some none)
  (BJ:PySem.W.findIn K (.ref bH) "at" =some none)
  (gH:PySem.W.findIn K (.ref bH) "code" =some none)
  (uH:PySem.W.findIn K (.ref bH) "given" =some none)
  (vo:PySem.W.findIn K (.ref bH) "limit" =some none)
  (xJ:PySem.W.findIn K (.ref bH) "line" =some none)
  (wR:PySem.W.findIn K (.ref bH) "most" =some none)
  (wZ:PySem.W.findIn K (.ref bH) "name" =some none)
  (abU:PySem.W.findIn K (.ref bH) "__class__" =some (some (.builtin "object.__class__")))
  (abY:PySem.W.mroIn K bH (.type "object")=some true)
  {vU vK xZ:Addr}{amV Ad abn acw Ib anm alC:Value}{acg alE alA alw:Option Addr}{ano alv alF:Array (Option Value)}{ahv:Array Value}{agT:Str}{ana:Tok}
  (Ij:PySem.W.findIn K (.ref bB) "__init__" =some (some (.ref vU)))
  (acd:PySem.W.typeIn K (.ref vU)=some (.type "function"))
  (abu:K.lookup vU=some ⟨amV,alE, .func (PySem.W.ksFn "__init__" "TooLong.__init__" (defArgs dI) (defBody dI) (defScope dI) .none Ad abn acw acg (.ref vK) Ib xZ),ano⟩)
  (aby:PySem.W.codeIn K (.ref vK) "TooLong.__init__" =true)
  (aci:K.lookup xZ=some ⟨alC,alw, .cell (some (.ref bB)),alF⟩)
  (abC:K.lookup vK=some ⟨anm,alA, .fields ahv,alv⟩)
  (ab5:ahv[2]? =some (.str agT ana))
  (acs:((l.prog.main.file:Str)==agT)=true)
  (abP:PySem.W.excInitIn K bB [.type "ValueError", .type "Exception", .type "BaseException", .type "object"] "ValueError.__new__" =true)
  (ab8:PySem.W.excOver K bB [.type "ValueError", .type "Exception", .type "BaseException", .type "object"]=true)
  (Rc:PySem.W.hasDictIn K bB=true)
  (abB:PySem.W.findIn K (.ref bB) "__setattr__" =some (some (.builtin "object.__setattr__")))
  (RN:PySem.W.subIn K (.ref bB) (.type "BaseException")=some true)
  (abv:PySem.W.subIn K (.ref bB) (.type "ValueError")=some true)
  (acj:PySem.W.typeIn K (.ref bB)=some (.type "type"))
  (abL:PySem.W.keepIn K (.ref bB)=true)
  (Ut:PySem.W.ks_superIn K bB bB "__init__" =some (some (.builtin "ValueError.__init__")))
  (Iw:PySem.W.takerIn K bB "code" =some none)
  (G9:PySem.W.takerIn K bB "name" =some none)
  (XS:PySem.W.findIn K (.ref bB) "__getattribute__" =some (some (.builtin "BaseException.__getattribute__")))
  (XR:PySem.W.findIn K (.ref bB) "__getattr__" =some none)
  (zj:PySem.W.findIn K (.ref bB) "at" =some none)
  (fW:PySem.W.findIn K (.ref bB) "code" =some none)
  (tO:PySem.W.findIn K (.ref bB) "given" =some none)
  (sS:PySem.W.findIn K (.ref bB) "limit" =some none)
  (uI:PySem.W.findIn K (.ref bB) "line" =some none)
  (vp:PySem.W.findIn K (.ref bB) "most" =some none)
  (uR:PySem.W.findIn K (.ref bB) "name" =some none)
  (aak:PySem.W.findIn K (.ref bB) "__class__" =some (some (.builtin "object.__class__")))
  (Zo:PySem.W.mroIn K bB (.type "object")=some true)
  {vX vI xV:Addr}{am3 Ah abj ab0 Jy amR alH:Value}{abD alM alY alJ:Option Addr}{anl alL alq:Array (Option Value)}{agZ:Array Value}{ahx:Str}{am4:Tok}
  (Jg:PySem.W.findIn K (.ref bD) "__init__" =some (some (.ref vX)))
  (abH:PySem.W.typeIn K (.ref vX)=some (.type "function"))
  (acn:K.lookup vX=some ⟨am3,alM, .func (PySem.W.ksFn "__init__" "TooWide.__init__" (defArgs dJ) (defBody dJ) (defScope dJ) .none Ah abj ab0 abD (.ref vI) Jy xV),anl⟩)
  (abR:PySem.W.codeIn K (.ref vI) "TooWide.__init__" =true)
  (ab1:K.lookup xV=some ⟨alH,alJ, .cell (some (.ref bD)),alq⟩)
  (abG:K.lookup vI=some ⟨amR,alY, .fields agZ,alL⟩)
  (acf:agZ[2]? =some (.str ahx am4))
  (abJ:((l.prog.main.file:Str)==ahx)=true)
  (ach:PySem.W.excInitIn K bD [.type "ValueError", .type "Exception", .type "BaseException", .type "object"] "ValueError.__new__" =true)
  (abr:PySem.W.excOver K bD [.type "ValueError", .type "Exception", .type "BaseException", .type "object"]=true)
  (TJ:PySem.W.hasDictIn K bD=true)
  (ab4:PySem.W.findIn K (.ref bD) "__setattr__" =some (some (.builtin "object.__setattr__")))
  (Rz:PySem.W.subIn K (.ref bD) (.type "BaseException")=some true)
  (abh:PySem.W.subIn K (.ref bD) (.type "ValueError")=some true)
  (acv:PySem.W.typeIn K (.ref bD)=some (.type "type"))
  (acy:PySem.W.keepIn K (.ref bD)=true)
  (Us:PySem.W.ks_superIn K bD bD "__init__" =some (some (.builtin "ValueError.__init__")))
  (Je:PySem.W.takerIn K bD "code" =some none)
  (Ig:PySem.W.takerIn K bD "name" =some none)
  (X7:PySem.W.findIn K (.ref bD) "__getattribute__" =some (some (.builtin "BaseException.__getattribute__")))
  (Xq:PySem.W.findIn K (.ref bD) "__getattr__" =some none)
  (zJ:PySem.W.findIn K (.ref bD) "at" =some none)
  (fX:PySem.W.findIn K (.ref bD) "code" =some none)
  (sX:PySem.W.findIn K (.ref bD) "given" =some none)
  (tR:PySem.W.findIn K (.ref bD) "limit" =some none)
  (uN:PySem.W.findIn K (.ref bD) "line" =some none)
  (uV:PySem.W.findIn K (.ref bD) "most" =some none)
  (u6:PySem.W.findIn K (.ref bD) "name" =some none)
  (Zt:PySem.W.findIn K (.ref bD) "__class__" =some (some (.builtin "object.__class__")))
  (ZG:PySem.W.mroIn K bD (.type "object")=some true)
  {jO jZ pF:Addr}{ag1 qI T8 Q8 xg ahw agb:Value}{TQ afO afN afC:Option Addr}{ahF afX afu:Array (Option Value)}{aan:Array Value}{Z8:Str}{agU:Tok}
  (xG:PySem.W.findIn K (.ref aO) "__init__" =some (some (.ref jO)))
  (RX:PySem.W.typeIn K (.ref jO)=some (.type "function"))
  (T7:K.lookup jO=some ⟨ag1,afO, .func (PySem.W.ksFn "__init__" "InvalidText.__init__" (defArgs cA) (defBody cA) (defScope cA) .none qI T8 Q8 TQ (.ref jZ) xg pF),ahF⟩)
  (SM:PySem.W.codeIn K (.ref jZ) "InvalidText.__init__" =true)
  (Ry:K.lookup pF=some ⟨agb,afC, .cell (some (.ref aO)),afu⟩)
  (Tp:K.lookup jZ=some ⟨ahw,afN, .fields aan,afX⟩)
  (Ur:aan[2]? =some (.str Z8 agU))
  (Ri:((l.prog.main.file:Str)==Z8)=true)
  (Um:PySem.W.excInitIn K aO [.type "ValueError", .type "Exception", .type "BaseException", .type "object"] "ValueError.__new__" =true)
  (S9:PySem.W.excOver K aO [.type "ValueError", .type "Exception", .type "BaseException", .type "object"]=true)
  (Am:PySem.W.hasDictIn K aO=true)
  (Uq:PySem.W.findIn K (.ref aO) "__setattr__" =some (some (.builtin "object.__setattr__")))
  (Ak:PySem.W.subIn K (.ref aO) (.type "BaseException")=some true)
  (QT:PySem.W.subIn K (.ref aO) (.type "ValueError")=some true)
  (UL:PySem.W.typeIn K (.ref aO)=some (.type "type"))
  (R6:PySem.W.keepIn K (.ref aO)=true)
  (Av:PySem.W.ks_superIn K aO aO "__init__" =some (some (.builtin "ValueError.__init__")))
  (wI:PySem.W.takerIn K aO "code" =some none)
  (wu:PySem.W.takerIn K aO "at" =some none)
  (Ge:PySem.W.findIn K (.ref aO) "__getattribute__" =some (some (.builtin "BaseException.__getattribute__")))
  (Fl:PySem.W.findIn K (.ref aO) "__getattr__" =some none)
  (qX:PySem.W.findIn K (.ref aO) "at" =some none)
  (dO:PySem.W.findIn K (.ref aO) "code" =some none)
  (lN:PySem.W.findIn K (.ref aO) "given" =some none)
  (mH:PySem.W.findIn K (.ref aO) "limit" =some none)
  (oG:PySem.W.findIn K (.ref aO) "line" =some none)
  (oA:PySem.W.findIn K (.ref aO) "most" =some none)
  (oX:PySem.W.findIn K (.ref aO) "name" =some none)
  (LQ:PySem.W.findIn K (.ref aO) "__class__" =some (some (.builtin "object.__class__")))
  (Pa:PySem.W.mroIn K aO (.type "object")=some true)
  {iH jc lK:Addr}{afI pC Lz Pg uz afo aeT:Value}{N8 aed aem aeG:Option Addr}{afV ad2 aeU:Array (Option Value)}{YD:Array Value}{YF:Str}{afB:Tok}
  (uP:PySem.W.findIn K (.ref aG) "__init__" =some (some (.ref iH)))
  (La:PySem.W.typeIn K (.ref iH)=some (.type "function"))
  (O4:K.lookup iH=some ⟨afI,aed, .func (PySem.W.ksFn "__init__" "InvalidEvent.__init__" (defArgs bV) (defBody bV) (defScope bV) .none pC Lz Pg N8 (.ref jc) uz lK),afV⟩)
  (Ow:PySem.W.codeIn K (.ref jc) "InvalidEvent.__init__" =true)
  (Nk:K.lookup lK=some ⟨aeT,aeG, .cell (some (.ref aG)),aeU⟩)
  (Ph:K.lookup jc=some ⟨afo,aem, .fields YD,ad2⟩)
  (Mq:YD[2]? =some (.str YF afB))
  (Ov:((l.prog.main.file:Str)==YF)=true)
  (Ol:PySem.W.excInitIn K aG [.type "ValueError", .type "Exception", .type "BaseException", .type "object"] "ValueError.__new__" =true)
  (KQ:PySem.W.excOver K aG [.type "ValueError", .type "Exception", .type "BaseException", .type "object"]=true)
  (yI:PySem.W.hasDictIn K aG=true)
  (Nf:PySem.W.findIn K (.ref aG) "__setattr__" =some (some (.builtin "object.__setattr__")))
  (yM:PySem.W.subIn K (.ref aG) (.type "BaseException")=some true)
  (Nu:PySem.W.subIn K (.ref aG) (.type "ValueError")=some true)
  (Ms:PySem.W.typeIn K (.ref aG)=some (.type "type"))
  (K8:PySem.W.keepIn K (.ref aG)=true)
  (yu:PySem.W.ks_superIn K aG aG "__init__" =some (some (.builtin "ValueError.__init__")))
  (vh:PySem.W.takerIn K aG "code" =some none)
  (uF:PySem.W.takerIn K aG "at" =some none)
  (Cz:PySem.W.findIn K (.ref aG) "__getattribute__" =some (some (.builtin "BaseException.__getattribute__")))
  (CN:PySem.W.findIn K (.ref aG) "__getattr__" =some none)
  (pJ:PySem.W.findIn K (.ref aG) "at" =some none)
  (cZ:PySem.W.findIn K (.ref aG) "code" =some none)
  (ju:PySem.W.findIn K (.ref aG) "given" =some none)
  (jE:PySem.W.findIn K (.ref aG) "limit" =some none)
  (lD:PySem.W.findIn K (.ref aG) "line" =some none)
  (lJ:PySem.W.findIn K (.ref aG) "most" =some none)
  (mU:PySem.W.findIn K (.ref aG) "name" =some none)
  (Jr:PySem.W.findIn K (.ref aG) "__class__" =some (some (.builtin "object.__class__")))
  (Hz:PySem.W.mroIn K aG (.type "object")=some true)
  {gK gU jj:Addr}{ad5 mX JD Jc tE aek adh:Value}{Ja adk ac8 ade:Option Addr}{adX ac2 ac1:Array (Option Value)}{WW:Array Value}{WR:Str}{aei:Tok}
  (sO:PySem.W.findIn K (.ref au) "__init__" =some (some (.ref gK)))
  (Ip:PySem.W.typeIn K (.ref gK)=some (.type "function"))
  (Hg:K.lookup gK=some ⟨ad5,adk, .func (PySem.W.ksFn "__init__" "InvalidNumber.__init__" (defArgs bM) (defBody bM) (defScope bM) .none mX JD Jc Ja (.ref gU) tE jj),adX⟩)
  (IV:PySem.W.codeIn K (.ref gU) "InvalidNumber.__init__" =true)
  (Il:K.lookup jj=some ⟨adh,ade, .cell (some (.ref au)),ac1⟩)
  (Hv:K.lookup gU=some ⟨aek,ac8, .fields WW,ac2⟩)
  (Hq:WW[2]? =some (.str WR aei))
  (Ho:((l.prog.main.file:Str)==WR)=true)
  (Jk:PySem.W.excInitIn K au [.type "ValueError", .type "Exception", .type "BaseException", .type "object"] "ValueError.__new__" =true)
  (Jv:PySem.W.excOver K au [.type "ValueError", .type "Exception", .type "BaseException", .type "object"]=true)
  (wk:PySem.W.hasDictIn K au=true)
  (IK:PySem.W.findIn K (.ref au) "__setattr__" =some (some (.builtin "object.__setattr__")))
  (xO:PySem.W.subIn K (.ref au) (.type "BaseException")=some true)
  (Hi:PySem.W.subIn K (.ref au) (.type "ValueError")=some true)
  (Jz:PySem.W.typeIn K (.ref au)=some (.type "type"))
  (Hu:PySem.W.keepIn K (.ref au)=true)
  (wJ:PySem.W.ks_superIn K au au "__init__" =some (some (.builtin "ValueError.__init__")))
  (sU:PySem.W.takerIn K au "code" =some none)
  (tG:PySem.W.takerIn K au "given" =some none)
  (BP:PySem.W.findIn K (.ref au) "__getattribute__" =some (some (.builtin "BaseException.__getattribute__")))
  (Bh:PySem.W.findIn K (.ref au) "__getattr__" =some none)
  (oh:PySem.W.findIn K (.ref au) "at" =some none)
  (cR:PySem.W.findIn K (.ref au) "code" =some none)
  (je:PySem.W.findIn K (.ref au) "given" =some none)
  (iU:PySem.W.findIn K (.ref au) "limit" =some none)
  (jB:PySem.W.findIn K (.ref au) "line" =some none)
  (jx:PySem.W.findIn K (.ref au) "most" =some none)
  (jt:PySem.W.findIn K (.ref au) "name" =some none)
  (Ez:PySem.W.findIn K (.ref au) "__class__" =some (some (.builtin "object.__class__")))
  (Fo:PySem.W.mroIn K au (.type "object")=some true)
  {iK jg lC:Addr}{afj pA M7 M5 uo afF aeg:Value}{K7 aen ad9 ad0:Option Addr}{af2 adR aeX:Array (Option Value)}{Yu:Array Value}{YB:Str}{afZ:Tok}
  (vB:PySem.W.findIn K (.ref aM) "__init__" =some (some (.ref iK)))
  (Mf:PySem.W.typeIn K (.ref iK)=some (.type "function"))
  (Od:K.lookup iK=some ⟨afj,aen, .func (PySem.W.ksFn "__init__" "InvalidBytes.__init__" (defArgs bY) (defBody bY) (defScope bY) .none pA M7 M5 K7 (.ref jg) uo lC),af2⟩)
  (Mz:PySem.W.codeIn K (.ref jg) "InvalidBytes.__init__" =true)
  (Mw:K.lookup lC=some ⟨aeg,ad0, .cell (some (.ref aM)),aeX⟩)
  (Nb:K.lookup jg=some ⟨afF,ad9, .fields Yu,adR⟩)
  (Mj:Yu[2]? =some (.str YB afZ))
  (Oa:((l.prog.main.file:Str)==YB)=true)
  (KH:PySem.W.excInitIn K aM [.type "ValueError", .type "Exception", .type "BaseException", .type "object"] "ValueError.__new__" =true)
  (Oi:PySem.W.excOver K aM [.type "ValueError", .type "Exception", .type "BaseException", .type "object"]=true)
  (yK:PySem.W.hasDictIn K aM=true)
  (K9:PySem.W.findIn K (.ref aM) "__setattr__" =some (some (.builtin "object.__setattr__")))
  (yS:PySem.W.subIn K (.ref aM) (.type "BaseException")=some true)
  (Lp:PySem.W.subIn K (.ref aM) (.type "ValueError")=some true)
  (Mi:PySem.W.typeIn K (.ref aM)=some (.type "type"))
  (O8:PySem.W.keepIn K (.ref aM)=true)
  (yE:PySem.W.ks_superIn K aM aM "__init__" =some (some (.builtin "ValueError.__init__")))
  (uQ:PySem.W.takerIn K aM "code" =some none)
  (uf:PySem.W.takerIn K aM "at" =some none)
  (CK:PySem.W.findIn K (.ref aM) "__getattribute__" =some (some (.builtin "BaseException.__getattribute__")))
  (CQ:PySem.W.findIn K (.ref aM) "__getattr__" =some none)
  (pZ:PySem.W.findIn K (.ref aM) "at" =some none)
  (dw:PySem.W.findIn K (.ref aM) "code" =some none)
  (jA:PySem.W.findIn K (.ref aM) "given" =some none)
  (jK:PySem.W.findIn K (.ref aM) "limit" =some none)
  (mO:PySem.W.findIn K (.ref aM) "line" =some none)
  (lO:PySem.W.findIn K (.ref aM) "most" =some none)
  (lg:PySem.W.findIn K (.ref aM) "name" =some none)
  (Hf:PySem.W.findIn K (.ref aM) "__class__" =some (some (.builtin "object.__class__")))
  (Ih:PySem.W.mroIn K aM (.type "object")=some true)
  {mY nM qH:Addr}{aic rQ Vu VG zG ahV ahm:Value}{VB ahn ahj ahk:Option Addr}{ahZ ahp ahf:Array (Option Value)}{aa3:Array Value}{aa2:Str}{ahS:Tok}
  (zp:PySem.W.findIn K (.ref aW) "__init__" =some (some (.ref mY)))
  (Wu:PySem.W.typeIn K (.ref mY)=some (.type "function"))
  (Wf:K.lookup mY=some ⟨aic,ahn, .func (PySem.W.ksFn "__init__" "Unreadable.__init__" (defArgs cI) (defBody cI) (defScope cI) .none rQ Vu VG VB (.ref nM) zG qH),ahZ⟩)
  (Wk:PySem.W.codeIn K (.ref nM) "Unreadable.__init__" =true)
  (Vo:K.lookup qH=some ⟨ahm,ahk, .cell (some (.ref aW)),ahf⟩)
  (V1:K.lookup nM=some ⟨ahV,ahj, .fields aa3,ahp⟩)
  (Wr:aa3[2]? =some (.str aa2 ahS))
  (VL:((l.prog.main.file:Str)==aa2)=true)
  (Vs:PySem.W.excInitIn K aW [.type "ValueError", .type "Exception", .type "BaseException", .type "object"] "ValueError.__new__" =true)
  (Wc:PySem.W.excOver K aW [.type "ValueError", .type "Exception", .type "BaseException", .type "object"]=true)
  (Ck:PySem.W.hasDictIn K aW=true)
  (V9:PySem.W.findIn K (.ref aW) "__setattr__" =some (some (.builtin "object.__setattr__")))
  (Cu:PySem.W.subIn K (.ref aW) (.type "BaseException")=some true)
  (Vq:PySem.W.subIn K (.ref aW) (.type "ValueError")=some true)
  (Vx:PySem.W.typeIn K (.ref aW)=some (.type "type"))
  (Wo:PySem.W.keepIn K (.ref aW)=true)
  (Cj:PySem.W.ks_superIn K aW aW "__init__" =some (some (.builtin "ValueError.__init__")))
  (zF:PySem.W.takerIn K aW "code" =some none)
  (zK:PySem.W.takerIn K aW "name" =some none)
  (JN:PySem.W.findIn K (.ref aW) "__getattribute__" =some (some (.builtin "BaseException.__getattribute__")))
  (JT:PySem.W.findIn K (.ref aW) "__getattr__" =some none)
  (sE:PySem.W.findIn K (.ref aW) "at" =some none)
  (d7:PySem.W.findIn K (.ref aW) "code" =some none)
  (oV:PySem.W.findIn K (.ref aW) "given" =some none)
  (oN:PySem.W.findIn K (.ref aW) "limit" =some none)
  (ql:PySem.W.findIn K (.ref aW) "line" =some none)
  (pH:PySem.W.findIn K (.ref aW) "most" =some none)
  (pK:PySem.W.findIn K (.ref aW) "name" =some none)
  (QM:PySem.W.findIn K (.ref aW) "__class__" =some (some (.builtin "object.__class__")))
  (Tj:PySem.W.mroIn K aW (.type "object")=some true)
  {iJ ji lH:Addr}{afx pD LK Ou uM aga ad6:Value}{N5 aeV ad1 adL:Option Addr}{agc adM aeF:Array (Option Value)}{Yz:Array Value}{Yv:Str}{afE:Tok}
  (ug:PySem.W.findIn K (.ref aK) "__init__" =some (some (.ref iJ)))
  (Pr:PySem.W.typeIn K (.ref iJ)=some (.type "function"))
  (Lq:K.lookup iJ=some ⟨afx,aeV, .func (PySem.W.ksFn "__init__" "InvalidPlace.__init__" (defArgs bQ) (defBody bQ) (defScope bQ) .none pD LK Ou N5 (.ref ji) uM lH),agc⟩)
  (NT:PySem.W.codeIn K (.ref ji) "InvalidPlace.__init__" =true)
  (Mp:K.lookup lH=some ⟨ad6,adL, .cell (some (.ref aK)),aeF⟩)
  (Oc:K.lookup ji=some ⟨aga,ad1, .fields Yz,adM⟩)
  (MP:Yz[2]? =some (.str Yv afE))
  (Lj:((l.prog.main.file:Str)==Yv)=true)
  (Ot:PySem.W.excInitIn K aK [.type "ValueError", .type "Exception", .type "BaseException", .type "object"] "ValueError.__new__" =true)
  (Mg:PySem.W.excOver K aK [.type "ValueError", .type "Exception", .type "BaseException", .type "object"]=true)
  (yN:PySem.W.hasDictIn K aK=true)
  (OD:PySem.W.findIn K (.ref aK) "__setattr__" =some (some (.builtin "object.__setattr__")))
  (yU:PySem.W.subIn K (.ref aK) (.type "BaseException")=some true)
  (Ln:PySem.W.subIn K (.ref aK) (.type "ValueError")=some true)
  (Mh:PySem.W.typeIn K (.ref aK)=some (.type "type"))
  (Lr:PySem.W.keepIn K (.ref aK)=true)
  (yC:PySem.W.ks_superIn K aK aK "__init__" =some (some (.builtin "ValueError.__init__")))
  (ux:PySem.W.takerIn K aK "code" =some none)
  (vA:PySem.W.takerIn K aK "given" =some none)
  (CP:PySem.W.findIn K (.ref aK) "__getattribute__" =some (some (.builtin "BaseException.__getattribute__")))
  (CZ:PySem.W.findIn K (.ref aK) "__getattr__" =some none)
  (pN:PySem.W.findIn K (.ref aK) "at" =some none)
  (cY:PySem.W.findIn K (.ref aK) "code" =some none)
  (jw:PySem.W.findIn K (.ref aK) "given" =some none)
  (jH:PySem.W.findIn K (.ref aK) "limit" =some none)
  (mV:PySem.W.findIn K (.ref aK) "line" =some none)
  (lY:PySem.W.findIn K (.ref aK) "most" =some none)
  (lV:PySem.W.findIn K (.ref aK) "name" =some none)
  (Hw:PySem.W.findIn K (.ref aK) "__class__" =some (some (.builtin "object.__class__")))
  (HD:PySem.W.mroIn K aK (.type "object")=some true)
  {vW vO xY:Addr}{anp Ao abm acp Ju anf alB:Value}{abt alQ alD alI:Option Addr}{am8 alK alG:Array (Option Value)}{agW:Array Value}{ag0:Str}{amU:Tok}
  (JB:PySem.W.findIn K (.ref bx) "__init__" =some (some (.ref vW)))
  (abS:PySem.W.typeIn K (.ref vW)=some (.type "function"))
  (acu:K.lookup vW=some ⟨anp,alQ, .func (PySem.W.ksFn "__init__" "TooMany.__init__" (defArgs dH) (defBody dH) (defScope dH) .none Ao abm acp abt (.ref vO) Ju xY),am8⟩)
  (abg:PySem.W.codeIn K (.ref vO) "TooMany.__init__" =true)
  (ab3:K.lookup xY=some ⟨alB,alI, .cell (some (.ref bx)),alG⟩)
  (aco:K.lookup vO=some ⟨anf,alD, .fields agW,alK⟩)
  (ab6:agW[2]? =some (.str ag0 amU))
  (acq:((l.prog.main.file:Str)==ag0)=true)
  (abo:PySem.W.excInitIn K bx [.type "ValueError", .type "Exception", .type "BaseException", .type "object"] "ValueError.__new__" =true)
  (abN:PySem.W.excOver K bx [.type "ValueError", .type "Exception", .type "BaseException", .type "object"]=true)
  (Rr:PySem.W.hasDictIn K bx=true)
  (abE:PySem.W.findIn K (.ref bx) "__setattr__" =some (some (.builtin "object.__setattr__")))
  (Tz:PySem.W.subIn K (.ref bx) (.type "BaseException")=some true)
  (ab9:PySem.W.subIn K (.ref bx) (.type "ValueError")=some true)
  (abA:PySem.W.typeIn K (.ref bx)=some (.type "type"))
  (abV:PySem.W.keepIn K (.ref bx)=true)
  (Uh:PySem.W.ks_superIn K bx bx "__init__" =some (some (.builtin "ValueError.__init__")))
  (IW:PySem.W.takerIn K bx "code" =some none)
  (HS:PySem.W.takerIn K bx "most" =some none)
  (Xn:PySem.W.findIn K (.ref bx) "__getattribute__" =some (some (.builtin "BaseException.__getattribute__")))
  (Yg:PySem.W.findIn K (.ref bx) "__getattr__" =some none)
  (zA:PySem.W.findIn K (.ref bx) "at" =some none)
  (fY:PySem.W.findIn K (.ref bx) "code" =some none)
  (sV:PySem.W.findIn K (.ref bx) "given" =some none)
  (sG:PySem.W.findIn K (.ref bx) "limit" =some none)
  (uw:PySem.W.findIn K (.ref bx) "line" =some none)
  (uU:PySem.W.findIn K (.ref bx) "most" =some none)
  (uD:PySem.W.findIn K (.ref bx) "name" =some none)
  (Zj:PySem.W.findIn K (.ref bx) "__class__" =some (some (.builtin "object.__class__")))
  (Zx:PySem.W.mroIn K bx (.type "object")=some true)
  {gJ gY jr:Addr}{aeL lW Jq Hj sJ aeQ acZ:Value}{Jj acU ac9 adp:Option Addr}{adT ada acX:Array (Option Value)}{WT:Array Value}{WQ:Str}{aeN:Tok}
  (tK:PySem.W.findIn K (.ref aq) "__init__" =some (some (.ref gJ)))
  (JG:PySem.W.typeIn K (.ref gJ)=some (.type "function"))
  (Jp:K.lookup gJ=some ⟨aeL,acU, .func (PySem.W.ksFn "__init__" "DuplicateName.__init__" (defArgs bO) (defBody bO) (defScope bO) .none lW Jq Hj Jj (.ref gY) sJ jr),adT⟩)
  (Hl:PySem.W.codeIn K (.ref gY) "DuplicateName.__init__" =true)
  (G8:K.lookup jr=some ⟨acZ,adp, .cell (some (.ref aq)),acX⟩)
  (Iu:K.lookup gY=some ⟨aeQ,ac9, .fields WT,ada⟩)
  (HY:WT[2]? =some (.str WQ aeN))
  (Im:((l.prog.main.file:Str)==WQ)=true)
  (Hh:PySem.W.excInitIn K aq [.type "ValueError", .type "Exception", .type "BaseException", .type "object"] "ValueError.__new__" =true)
  (HW:PySem.W.excOver K aq [.type "ValueError", .type "Exception", .type "BaseException", .type "object"]=true)
  (wz:PySem.W.hasDictIn K aq=true)
  (Ii:PySem.W.findIn K (.ref aq) "__setattr__" =some (some (.builtin "object.__setattr__")))
  (wV:PySem.W.subIn K (.ref aq) (.type "BaseException")=some true)
  (Io:PySem.W.subIn K (.ref aq) (.type "ValueError")=some true)
  (Ie:PySem.W.typeIn K (.ref aq)=some (.type "type"))
  (Iv:PySem.W.keepIn K (.ref aq)=true)
  (wj:PySem.W.ks_superIn K aq aq "__init__" =some (some (.builtin "ValueError.__init__")))
  (sY:PySem.W.takerIn K aq "code" =some none)
  (sH:PySem.W.takerIn K aq "name" =some none)
  (Bt:PySem.W.findIn K (.ref aq) "__getattribute__" =some (some (.builtin "BaseException.__getattribute__")))
  (Bu:PySem.W.findIn K (.ref aq) "__getattr__" =some none)
  (nY:PySem.W.findIn K (.ref aq) "at" =some none)
  (cQ:PySem.W.findIn K (.ref aq) "code" =some none)
  (iV:PySem.W.findIn K (.ref aq) "given" =some none)
  (jh:PySem.W.findIn K (.ref aq) "limit" =some none)
  (jM:PySem.W.findIn K (.ref aq) "line" =some none)
  (jL:PySem.W.findIn K (.ref aq) "most" =some none)
  (jD:PySem.W.findIn K (.ref aq) "name" =some none)
  (Fv:PySem.W.findIn K (.ref aq) "__class__" =some (some (.builtin "object.__class__")))
  (Gn:PySem.W.mroIn K aq (.type "object")=some true)
  {JQ Fw Kl:Addr}{awB Vg akg aj5 aav awD ate:Value}{ajA atj atn atv:Option Addr}{awy atf atg:Array (Option Value)}{aog:Array Value}{aol:Str}{awx:Tok}
  (aax:PySem.W.findIn K (.ref cW) "__init__" =some (some (.ref JQ)))
  (aj2:PySem.W.typeIn K (.ref JQ)=some (.type "function"))
  (ajC:K.lookup JQ=some ⟨awB,atj, .func (PySem.W.ksFn "__init__" "Full.__init__" (defArgs fD) (defBody fD) (defScope fD) .none Vg akg aj5 ajA (.ref Fw) aav Kl),awy⟩)
  (ajM:PySem.W.codeIn K (.ref Fw) "Full.__init__" =true)
  (aj8:K.lookup Kl=some ⟨ate,atv, .cell (some (.ref cW)),atg⟩)
  (aks:K.lookup Fw=some ⟨awD,atn, .fields aog,atf⟩)
  (ake:aog[2]? =some (.str aol awx))
  (aju:((l.prog.main.file:Str)==aol)=true)
  (ajq:PySem.W.excInitIn K cW [.type "ValueError", .type "Exception", .type "BaseException", .type "object"] "ValueError.__new__" =true)
  (akx:PySem.W.excOver K cW [.type "ValueError", .type "Exception", .type "BaseException", .type "object"]=true)
  (acT:PySem.W.hasDictIn K cW=true)
  (aj6:PySem.W.findIn K (.ref cW) "__setattr__" =some (some (.builtin "object.__setattr__")))
  (ac6:PySem.W.subIn K (.ref cW) (.type "BaseException")=some true)
  (akd:PySem.W.subIn K (.ref cW) (.type "ValueError")=some true)
  (aj0:PySem.W.typeIn K (.ref cW)=some (.type "type"))
  (aj9:PySem.W.keepIn K (.ref cW)=true)
  (adb:PySem.W.ks_superIn K cW cW "__init__" =some (some (.builtin "ValueError.__init__")))
  (aaF:PySem.W.takerIn K cW "code" =some none)
  (aaw:PySem.W.takerIn K cW "limit" =some none)
  (agh:PySem.W.findIn K (.ref cW) "__getattribute__" =some (some (.builtin "BaseException.__getattribute__")))
  (agk:PySem.W.findIn K (.ref cW) "__getattr__" =some none)
  (Ji:PySem.W.findIn K (.ref cW) "at" =some none)
  (jY:PySem.W.findIn K (.ref cW) "code" =some none)
  (za:PySem.W.findIn K (.ref cW) "given" =some none)
  (zP:PySem.W.findIn K (.ref cW) "limit" =some none)
  (Bw:PySem.W.findIn K (.ref cW) "line" =some none)
  (Bg:PySem.W.findIn K (.ref cW) "most" =some none)
  (BK:PySem.W.findIn K (.ref cW) "name" =some none)
  (ahh:PySem.W.findIn K (.ref cW) "__class__" =some (some (.builtin "object.__class__")))
  (ahJ:PySem.W.mroIn K cW (.type "object")=some true)
  {iQ jf kY:Addr}{afz o7 Og Oh vg afi aez:Value}{N7 adZ adK adN:Option Addr}{afP adQ aeJ:Array (Option Value)}{YM:Array Value}{Yx:Str}{afR:Tok}
  (uW:PySem.W.findIn K (.ref aJ) "__init__" =some (some (.ref iQ)))
  (K6:PySem.W.typeIn K (.ref iQ)=some (.type "function"))
  (KJ:K.lookup iQ=some ⟨afz,adZ, .func (PySem.W.ksFn "__init__" "InvalidLimit.__init__" (defArgs bW) (defBody bW) (defScope bW) .none o7 Og Oh N7 (.ref jf) vg kY),afP⟩)
  (Pk:PySem.W.codeIn K (.ref jf) "InvalidLimit.__init__" =true)
  (M9:K.lookup kY=some ⟨aez,adN, .cell (some (.ref aJ)),aeJ⟩)
  (Oz:K.lookup jf=some ⟨afi,adK, .fields YM,adQ⟩)
  (Pq:YM[2]? =some (.str Yx afR))
  (Nm:((l.prog.main.file:Str)==Yx)=true)
  (Pb:PySem.W.excInitIn K aJ [.type "ValueError", .type "Exception", .type "BaseException", .type "object"] "ValueError.__new__" =true)
  (Oj:PySem.W.excOver K aJ [.type "ValueError", .type "Exception", .type "BaseException", .type "object"]=true)
  (yQ:PySem.W.hasDictIn K aJ=true)
  (Lw:PySem.W.findIn K (.ref aJ) "__setattr__" =some (some (.builtin "object.__setattr__")))
  (yR:PySem.W.subIn K (.ref aJ) (.type "BaseException")=some true)
  (Nz:PySem.W.subIn K (.ref aJ) (.type "ValueError")=some true)
  (Oe:PySem.W.typeIn K (.ref aJ)=some (.type "type"))
  (Nr:PySem.W.keepIn K (.ref aJ)=true)
  (yJ:PySem.W.ks_superIn K aJ aJ "__init__" =some (some (.builtin "ValueError.__init__")))
  (uK:PySem.W.takerIn K aJ "code" =some none)
  (uh:PySem.W.takerIn K aJ "given" =some none)
  (CW:PySem.W.findIn K (.ref aJ) "__getattribute__" =some (some (.builtin "BaseException.__getattribute__")))
  (CJ:PySem.W.findIn K (.ref aJ) "__getattr__" =some none)
  (pQ:PySem.W.findIn K (.ref aJ) "at" =some none)
  (dD:PySem.W.findIn K (.ref aJ) "code" =some none)
  (jy:PySem.W.findIn K (.ref aJ) "given" =some none)
  (jC:PySem.W.findIn K (.ref aJ) "limit" =some none)
  (lQ:PySem.W.findIn K (.ref aJ) "line" =some none)
  (lB:PySem.W.findIn K (.ref aJ) "most" =some none)
  (lZ:PySem.W.findIn K (.ref aJ) "name" =some none)
  (Jf:PySem.W.findIn K (.ref aJ) "__class__" =some (some (.builtin "object.__class__")))
  (Jl:PySem.W.mroIn K aJ (.type "object")=some true)
  {gA gD iD:Addr}{ac7 jo Fy FZ qW adn abl:Value}{Fq abW abe abw:Option Addr}{adg abZ abp:Array (Option Value)}{Vh:Array Value}{Vf:Str}{adi:Tok}
  (rA:PySem.W.findIn K (.ref ao) "__init__" =some (some (.ref gA)))
  (EY:PySem.W.typeIn K (.ref gA)=some (.type "function"))
  (Gg:K.lookup gA=some ⟨ac7,abW, .func (PySem.W.ksFn "__init__" "InvalidCommand.__init__" (defArgs bL) (defBody bL) (defScope bL) .none jo Fy FZ Fq (.ref gD) qW iD),adg⟩)
  (Fe:PySem.W.codeIn K (.ref gD) "InvalidCommand.__init__" =true)
  (Gh:K.lookup iD=some ⟨abl,abw, .cell (some (.ref ao)),abp⟩)
  (Gk:K.lookup gD=some ⟨adn,abe, .fields Vh,abZ⟩)
  (Fj:Vh[2]? =some (.str Vf adi))
  (Ew:((l.prog.main.file:Str)==Vf)=true)
  (Fx:PySem.W.excInitIn K ao [.type "ValueError", .type "Exception", .type "BaseException", .type "object"] "ValueError.__new__" =true)
  (Ep:PySem.W.excOver K ao [.type "ValueError", .type "Exception", .type "BaseException", .type "object"]=true)
  (vR:PySem.W.hasDictIn K ao=true)
  (Gm:PySem.W.findIn K (.ref ao) "__setattr__" =some (some (.builtin "object.__setattr__")))
  (vJ:PySem.W.subIn K (.ref ao) (.type "BaseException")=some true)
  (FJ:PySem.W.subIn K (.ref ao) (.type "ValueError")=some true)
  (FQ:PySem.W.typeIn K (.ref ao)=some (.type "type"))
  (Em:PySem.W.keepIn K (.ref ao)=true)
  (vM:PySem.W.ks_superIn K ao ao "__init__" =some (some (.builtin "ValueError.__init__")))
  (rB:PySem.W.takerIn K ao "code" =some none)
  (qY:PySem.W.takerIn K ao "at" =some none)
  (zY:PySem.W.findIn K (.ref ao) "__getattribute__" =some (some (.builtin "BaseException.__getattribute__")))
  (zX:PySem.W.findIn K (.ref ao) "__getattr__" =some none)
  (mj:PySem.W.findIn K (.ref ao) "at" =some none)
  (cM:PySem.W.findIn K (.ref ao) "code" =some none)
  (ig:PySem.W.findIn K (.ref ao) "given" =some none)
  (g8:PySem.W.findIn K (.ref ao) "limit" =some none)
  (iW:PySem.W.findIn K (.ref ao) "line" =some none)
  (iY:PySem.W.findIn K (.ref ao) "most" =some none)
  (jd:PySem.W.findIn K (.ref ao) "name" =some none)
  (Dr:PySem.W.findIn K (.ref ao) "__class__" =some (some (.builtin "object.__class__")))
  (Dh:PySem.W.mroIn K ao (.type "object")=some true)
  {jQ jW pB:Addr}{ahG qL S7 TF xR ahg afA:Value}{Tq aft afs af8:Option Addr}{ag9 afM afL:Array (Option Value)}{aae:Array Value}{Zw:Str}{ahr:Tok}
  (wY:PySem.W.findIn K (.ref aP) "__init__" =some (some (.ref jQ)))
  (Rk:PySem.W.typeIn K (.ref jQ)=some (.type "function"))
  (Tr:K.lookup jQ=some ⟨ahG,aft, .func (PySem.W.ksFn "__init__" "InvalidPage.__init__" (defArgs cD) (defBody cD) (defScope cD) .none qL S7 TF Tq (.ref jW) xR pB),ag9⟩)
  (Uv:PySem.W.codeIn K (.ref jW) "InvalidPage.__init__" =true)
  (Q5:K.lookup pB=some ⟨afA,af8, .cell (some (.ref aP)),afL⟩)
  (Tn:K.lookup jW=some ⟨ahg,afs, .fields aae,afM⟩)
  (T5:aae[2]? =some (.str Zw ahr))
  (RG:((l.prog.main.file:Str)==Zw)=true)
  (Rg:PySem.W.excInitIn K aP [.type "ValueError", .type "Exception", .type "BaseException", .type "object"] "ValueError.__new__" =true)
  (QX:PySem.W.excOver K aP [.type "ValueError", .type "Exception", .type "BaseException", .type "object"]=true)
  (Bc:PySem.W.hasDictIn K aP=true)
  (Ss:PySem.W.findIn K (.ref aP) "__setattr__" =some (some (.builtin "object.__setattr__")))
  (Af:PySem.W.subIn K (.ref aP) (.type "BaseException")=some true)
  (Tg:PySem.W.subIn K (.ref aP) (.type "ValueError")=some true)
  (QV:PySem.W.typeIn K (.ref aP)=some (.type "type"))
  (QS:PySem.W.keepIn K (.ref aP)=true)
  (Ac:PySem.W.ks_superIn K aP aP "__init__" =some (some (.builtin "ValueError.__init__")))
  (xT:PySem.W.takerIn K aP "code" =some none)
  (wF:PySem.W.takerIn K aP "line" =some none)
  (Fd:PySem.W.findIn K (.ref aP) "__getattribute__" =some (some (.builtin "BaseException.__getattribute__")))
  (Fp:PySem.W.findIn K (.ref aP) "__getattr__" =some none)
  (rD:PySem.W.findIn K (.ref aP) "at" =some none)
  (dM:PySem.W.findIn K (.ref aP) "code" =some none)
  (mQ:PySem.W.findIn K (.ref aP) "given" =some none)
  (lM:PySem.W.findIn K (.ref aP) "limit" =some none)
  (oY:PySem.W.findIn K (.ref aP) "line" =some none)
  (nU:PySem.W.findIn K (.ref aP) "most" =some none)
  (oR:PySem.W.findIn K (.ref aP) "name" =some none)
  (Mx:PySem.W.findIn K (.ref aP) "__class__" =some (some (.builtin "object.__class__")))
  (MK:PySem.W.mroIn K aP (.type "object")=some true)
  {JR Gi Km:Addr}{awF Vc ajH ajs aaz awC atp:Value}{aku atm ath atd:Option Addr}{awz atq atE:Array (Option Value)}{aom:Array Value}{aoj:Str}{awE:Tok}
  (aay:PySem.W.findIn K (.ref dF) "__init__" =some (some (.ref JR)))
  (aki:PySem.W.typeIn K (.ref JR)=some (.type "function"))
  (ako:K.lookup JR=some ⟨awF,atm, .func (PySem.W.ksFn "__init__" "Sent.__init__" (defArgs fB) (defBody fB) (defScope fB) .none Vc ajH ajs aku (.ref Gi) aaz Km),awz⟩)
  (akp:PySem.W.codeIn K (.ref Gi) "Sent.__init__" =true)
  (ajX:K.lookup Km=some ⟨atp,atd, .cell (some (.ref dF)),atE⟩)
  (aj3:K.lookup Gi=some ⟨awC,ath, .fields aom,atq⟩)
  (aj1:aom[2]? =some (.str aoj awE))
  (ajV:((l.prog.main.file:Str)==aoj)=true)
  (ajQ:PySem.W.excInitIn K dF [.type "ValueError", .type "Exception", .type "BaseException", .type "object"] "ValueError.__new__" =true)
  (ajB:PySem.W.excOver K dF [.type "ValueError", .type "Exception", .type "BaseException", .type "object"]=true)
  (acY:PySem.W.hasDictIn K dF=true)
  (ajS:PySem.W.findIn K (.ref dF) "__setattr__" =some (some (.builtin "object.__setattr__")))
  (adq:PySem.W.subIn K (.ref dF) (.type "BaseException")=some true)
  (akr:PySem.W.subIn K (.ref dF) (.type "ValueError")=some true)
  (akk:PySem.W.typeIn K (.ref dF)=some (.type "type"))
  (akf:PySem.W.keepIn K (.ref dF)=true)
  (adl:PySem.W.ks_superIn K dF dF "__init__" =some (some (.builtin "ValueError.__init__")))
  (aaD:PySem.W.takerIn K dF "code" =some none)
  (agl:PySem.W.findIn K (.ref dF) "__getattribute__" =some (some (.builtin "BaseException.__getattribute__")))
  (agi:PySem.W.findIn K (.ref dF) "__getattr__" =some none)
  (JC:PySem.W.findIn K (.ref dF) "at" =some none)
  (jX:PySem.W.findIn K (.ref dF) "code" =some none)
  (zu:PySem.W.findIn K (.ref dF) "given" =some none)
  (yZ:PySem.W.findIn K (.ref dF) "limit" =some none)
  (BW:PySem.W.findIn K (.ref dF) "line" =some none)
  (Bo:PySem.W.findIn K (.ref dF) "most" =some none)
  (Bx:PySem.W.findIn K (.ref dF) "name" =some none)
  (ahE:PySem.W.findIn K (.ref dF) "__class__" =some (some (.builtin "object.__class__")))
  (aha:PySem.W.mroIn K dF (.type "object")=some true)
  {rP rO vQ:Addr}{alR xX Ze ZD DW alS akq:Value}{aai ajE akj ajw:Option Addr}{alX ajz aky:Array (Option Value)}{ae7:Array Value}{afa:Str}{alT:Tok}
  (DQ:PySem.W.findIn K (.ref aY) "__init__" =some (some (.ref rP)))
  (Zz:PySem.W.typeIn K (.ref rP)=some (.type "function"))
  (Zr:K.lookup rP=some ⟨alR,ajE, .func (PySem.W.ksFn "__init__" "NoWriter.__init__" (defArgs cV) (defBody cV) (defScope cV) .none xX Ze ZD aai (.ref rO) DW vQ),alX⟩)
  (aam:PySem.W.codeIn K (.ref rO) "NoWriter.__init__" =true)
  (ZP:K.lookup vQ=some ⟨akq,ajw, .cell (some (.ref aY)),aky⟩)
  (aao:K.lookup rO=some ⟨alS,akj, .fields ae7,ajz⟩)
  (Zy:ae7[2]? =some (.str afa alT))
  (Zk:((l.prog.main.file:Str)==afa)=true)
  (aad:PySem.W.excInitIn K aY [.type "ValueError", .type "Exception", .type "BaseException", .type "object"] "ValueError.__new__" =true)
  (ZR:PySem.W.excOver K aY [.type "ValueError", .type "Exception", .type "BaseException", .type "object"]=true)
  (Kf:PySem.W.hasDictIn K aY=true)
  (Zu:PySem.W.findIn K (.ref aY) "__setattr__" =some (some (.builtin "object.__setattr__")))
  (Kg:PySem.W.subIn K (.ref aY) (.type "BaseException")=some true)
  (ZQ:PySem.W.subIn K (.ref aY) (.type "ValueError")=some true)
  (ZX:PySem.W.typeIn K (.ref aY)=some (.type "type"))
  (aal:PySem.W.keepIn K (.ref aY)=true)
  (Ke:PySem.W.ks_superIn K aY aY "__init__" =some (some (.builtin "ValueError.__init__")))
  (DR:PySem.W.takerIn K aY "code" =some none)
  (Ve:PySem.W.findIn K (.ref aY) "__getattribute__" =some (some (.builtin "BaseException.__getattribute__")))
  (Va:PySem.W.findIn K (.ref aY) "__getattr__" =some none)
  (wM:PySem.W.findIn K (.ref aY) "at" =some none)
  (eZ:PySem.W.findIn K (.ref aY) "code" =some none)
  (rG:PySem.W.findIn K (.ref aY) "given" =some none)
  (rE:PySem.W.findIn K (.ref aY) "limit" =some none)
  (tQ:PySem.W.findIn K (.ref aY) "line" =some none)
  (tL:PySem.W.findIn K (.ref aY) "most" =some none)
  (tM:PySem.W.findIn K (.ref aY) "name" =some none)
  (Xy:PySem.W.findIn K (.ref aY) "__class__" =some (some (.builtin "object.__class__")))
  (XC:PySem.W.mroIn K aY (.type "object")=some true)
  {jR jV oZ:Addr}{ahA qM RW UG xU ahc afy:Value}{Sq af7 af0 afD:Option Addr}{aht af4 afQ:Array (Option Value)}{ZJ:Array Value}{Zg:Str}{aho:Tok}
  (wG:PySem.W.findIn K (.ref aQ) "__init__" =some (some (.ref jR)))
  (Sy:PySem.W.typeIn K (.ref jR)=some (.type "function"))
  (Sd:K.lookup jR=some ⟨ahA,af7, .func (PySem.W.ksFn "__init__" "UnknownName.__init__" (defArgs cH) (defBody cH) (defScope cH) .none qM RW UG Sq (.ref jV) xU oZ),aht⟩)
  (Ug:PySem.W.codeIn K (.ref jV) "UnknownName.__init__" =true)
  (UJ:K.lookup oZ=some ⟨afy,afD, .cell (some (.ref aQ)),afQ⟩)
  (Sw:K.lookup jV=some ⟨ahc,af0, .fields ZJ,af4⟩)
  (Rh:ZJ[2]? =some (.str Zg aho))
  (Ro:((l.prog.main.file:Str)==Zg)=true)
  (Tv:PySem.W.excInitIn K aQ [.type "LookupError", .type "Exception", .type "BaseException", .type "object"] "LookupError.__new__" =true)
  (SN:PySem.W.excOver K aQ [.type "LookupError", .type "Exception", .type "BaseException", .type "object"]=true)
  (Ax:PySem.W.hasDictIn K aQ=true)
  (RD:PySem.W.findIn K (.ref aQ) "__setattr__" =some (some (.builtin "object.__setattr__")))
  (Ae:PySem.W.subIn K (.ref aQ) (.type "BaseException")=some true)
  (QZ:PySem.W.subIn K (.ref aQ) (.type "LookupError")=some true)
  (Rp:PySem.W.typeIn K (.ref aQ)=some (.type "type"))
  (RJ:PySem.W.keepIn K (.ref aQ)=true)
  (Ay:PySem.W.ks_superIn K aQ aQ "__init__" =some (some (.builtin "LookupError.__init__")))
  (xQ:PySem.W.takerIn K aQ "code" =some none)
  (xP:PySem.W.takerIn K aQ "name" =some none)
  (En:PySem.W.findIn K (.ref aQ) "__getattribute__" =some (some (.builtin "BaseException.__getattribute__")))
  (Ft:PySem.W.findIn K (.ref aQ) "__getattr__" =some none)
  (qZ:PySem.W.findIn K (.ref aQ) "at" =some none)
  (dN:PySem.W.findIn K (.ref aQ) "code" =some none)
  (mW:PySem.W.findIn K (.ref aQ) "given" =some none)
  (lF:PySem.W.findIn K (.ref aQ) "limit" =some none)
  (oE:PySem.W.findIn K (.ref aQ) "line" =some none)
  (oK:PySem.W.findIn K (.ref aQ) "most" =some none)
  (nZ:PySem.W.findIn K (.ref aQ) "name" =some none)
  (O7:PySem.W.findIn K (.ref aQ) "__class__" =some (some (.builtin "object.__class__")))
  (Mr:PySem.W.mroIn K aQ (.type "object")=some true)
  {jT j5 o8:Addr}{agR qJ Uz Q6 wH ahq afW:Value}{Tf afS af9 af5:Option Addr}{ahC afU afn:Array (Option Value)}{ZK:Array Value}{Z6:Str}{ahy:Tok}
  (wD:PySem.W.findIn K (.ref aU) "__init__" =some (some (.ref jT)))
  (S8:PySem.W.typeIn K (.ref jT)=some (.type "function"))
  (RP:K.lookup jT=some ⟨agR,afS, .func (PySem.W.ksFn "__init__" "NothingLeft.__init__" (defArgs cG) (defBody cG) (defScope cG) .none qJ Uz Q6 Tf (.ref j5) wH o8),ahC⟩)
  (R8:PySem.W.codeIn K (.ref j5) "NothingLeft.__init__" =true)
  (Tt:K.lookup o8=some ⟨afW,af5, .cell (some (.ref aU)),afn⟩)
  (U0:K.lookup j5=some ⟨ahq,af9, .fields ZK,afU⟩)
  (Uo:ZK[2]? =some (.str Z6 ahy))
  (RK:((l.prog.main.file:Str)==Z6)=true)
  (Ui:PySem.W.excInitIn K aU [.type "IndexError", .type "LookupError", .type "Exception", .type "BaseException", .type "object"] "IndexError.__new__" =true)
  (TX:PySem.W.excOver K aU [.type "IndexError", .type "LookupError", .type "Exception", .type "BaseException", .type "object"]=true)
  (Ag:PySem.W.hasDictIn K aU=true)
  (Uc:PySem.W.findIn K (.ref aU) "__setattr__" =some (some (.builtin "object.__setattr__")))
  (Aq:PySem.W.subIn K (.ref aU) (.type "BaseException")=some true)
  (T9:PySem.W.subIn K (.ref aU) (.type "IndexError")=some true)
  (Rq:PySem.W.typeIn K (.ref aU)=some (.type "type"))
  (Rx:PySem.W.keepIn K (.ref aU)=true)
  (Az:PySem.W.ks_superIn K aU aU "__init__" =some (some (.builtin "IndexError.__init__")))
  (wW:PySem.W.takerIn K aU "code" =some none)
  (Gp:PySem.W.findIn K (.ref aU) "__getattribute__" =some (some (.builtin "BaseException.__getattribute__")))
  (Fg:PySem.W.findIn K (.ref aU) "__getattr__" =some none)
  (rJ:PySem.W.findIn K (.ref aU) "at" =some none)
  (dU:PySem.W.findIn K (.ref aU) "code" =some none)
  (lG:PySem.W.findIn K (.ref aU) "given" =some none)
  (mJ:PySem.W.findIn K (.ref aU) "limit" =some none)
  (oU:PySem.W.findIn K (.ref aU) "line" =some none)
  (ou:PySem.W.findIn K (.ref aU) "most" =some none)
  (oM:PySem.W.findIn K (.ref aU) "name" =some none)
  (Oo:PySem.W.findIn K (.ref aU) "__class__" =some (some (.builtin "object.__class__")))
  (O2:PySem.W.mroIn K aU (.type "object")=some true)
  (OJ:PySem.W.specialIn K (.builtin "object.__class__") "__get__" =some (some (.builtin "getset_descriptor.__get__")))
  (KZ:PySem.W.takesIn K (.builtin "object.__class__")=some true)
  (zm:(Qw.all fun p=>decide (PySem.W.kitOne K (.ref p.1) (.type "IndexError")=some p.2))=true)
  (wC:(Kv.all fun p=>decide (PySem.W.kitOne K (.ref p.1) (.type "LookupError")=some p.2))=true)
  (HX:(Zb.all fun p=>decide (PySem.W.kitOne K (.ref p.1) (.ref aap)=some p.2))=true)
  (zE:(QL.all fun p=>decide (PySem.W.kitOne K (.ref p.1) (.type "ValueError")=some p.2))=true)
  (Bm:(Vk.all fun p=>decide (PySem.W.kitOne K (.ref p.1) (.ref U4)=some p.2))=true)
  (wU:(Kr.all fun p=>decide (PySem.W.kitOne K (.ref p.1) (.ref aU)=some p.2))=true)
  (xr:(Kw.all fun p=>decide (PySem.W.kitOne K (.ref p.1) (.ref aQ)=some p.2))=true)
  (Dy:(W9.all fun p=>decide (PySem.W.kitOne K (.ref p.1) (.ref aY)=some p.2))=true)
  (aaB:(agH.all fun p=>decide (PySem.W.kitOne K (.ref p.1) (.ref dF)=some p.2))=true)
  (xq:(KD.all fun p=>decide (PySem.W.kitOne K (.ref p.1) (.ref aP)=some p.2))=true)
  (rH:(Dd.all fun p=>decide (PySem.W.kitOne K (.ref p.1) (.ref ao)=some p.2))=true)
  (uL:(GZ.all fun p=>decide (PySem.W.kitOne K (.ref p.1) (.ref aJ)=some p.2))=true)
  (aaC:(agp.all fun p=>decide (PySem.W.kitOne K (.ref p.1) (.ref cW)=some p.2))=true)
  (sW:(Ei.all fun p=>decide (PySem.W.kitOne K (.ref p.1) (.ref aq)=some p.2))=true)
  (Jb:(Y5.all fun p=>decide (PySem.W.kitOne K (.ref p.1) (.ref bx)=some p.2))=true)
  (uZ:(GD.all fun p=>decide (PySem.W.kitOne K (.ref p.1) (.ref aK)=some p.2))=true)
  (zq:(QJ.all fun p=>decide (PySem.W.kitOne K (.ref p.1) (.ref aW)=some p.2))=true)
  (uG:(GX.all fun p=>decide (PySem.W.kitOne K (.ref p.1) (.ref aM)=some p.2))=true)
  (tD:(Ek.all fun p=>decide (PySem.W.kitOne K (.ref p.1) (.ref au)=some p.2))=true)
  (uE:(G6.all fun p=>decide (PySem.W.kitOne K (.ref p.1) (.ref aG)=some p.2))=true)
  (wQ:(Kz.all fun p=>decide (PySem.W.kitOne K (.ref p.1) (.ref aO)=some p.2))=true)
  (Jt:(YX.all fun p=>decide (PySem.W.kitOne K (.ref p.1) (.ref bD)=some p.2))=true)
  (Ir:(Y9.all fun p=>decide (PySem.W.kitOne K (.ref p.1) (.ref bB)=some p.2))=true)
  (Qo:(aa5.all fun p=>decide (PySem.W.kitOne K (.ref p.1) (.ref bH)=some p.2))=true)
  (Br:(Vl.all fun p=>decide (PySem.W.kitOne K (.ref p.1) (.ref aX)=some p.2))=true)
  (zH:(QH.all fun p=>decide (PySem.W.kitOne K (.ref p.1) (.ref aV)=some p.2))=true)
  (u9:(G4.all fun p=>decide (PySem.W.kitOne K (.ref p.1) (.ref aH)=some p.2))=true)
  (wB:(Ku.all fun p=>decide (PySem.W.kitOne K (.ref p.1) (.ref aR)=some p.2))=true)
  {aew aef:Option Addr}{aeu:Array (Option Value)}{aes aex adU aeW W0 aeI:Value}
  (M4:PySem.W.nsIn K mainGlobals "_law_kinds_of" =some (some (.ref gG)))
  (Lh:K.lookup gG=some ⟨aes,aew, .func (PySem.W.fnOf "_law_kinds_of" "_law_kinds_of" (defArgs uJ) (defBody uJ) (defScope uJ) .none aex adU aeW aef W0 aeI),aeu⟩)
  (Jh:PySem.W.codeIn K W0 "_law_kinds_of" =true)
  (Np:PySem.W.keepIn K (.ref gG)=true)
  {akl ajN:Option Addr}{ajP:Array (Option Value)}{ajW ajL ajo ajt acV ajG:Value}
  (Z7:PySem.W.nsIn K mainGlobals "_law_same" =some (some (.ref lX)))
  (Z9:K.lookup lX=some ⟨ajW,akl, .func (PySem.W.fnOf "_law_same" "_law_same" (defArgs Ba) (defBody Ba) (defScope Ba) .none ajL ajo ajt ajN acV ajG),ajP⟩)
  (Xl:PySem.W.codeIn K acV "_law_same" =true)
  (aaf:PySem.W.keepIn K (.ref lX)=true)
  {ah2 aif:Option Addr}{ah3:Array (Option Value)}{aij ahY ah4 ah5 aaZ ah8:Value}
  (Xm:PySem.W.nsIn K mainGlobals "_law_field" =some (some (.ref nO)))
  (Ym:K.lookup nO=some ⟨aij,ah2, .func (PySem.W.fnOf "_law_field" "_law_field" (defArgs BL) (defBody BL) (defScope BL) .none ahY ah4 ah5 aif aaZ ah8),ah3⟩)
  (Wj:PySem.W.codeIn K aaZ "_law_field" =true)
  (Xp:PySem.W.keepIn K (.ref nO)=true)
  {aaR aaM:Option Addr}{aaP:Array (Option Value)}{aaK aaN aaJ aaO Py aaL:Value}
  (Di:PySem.W.nsIn K mainGlobals "_law_made_errors" =some (some (.ref eX)))
  (Dk:K.lookup eX=some ⟨aaK,aaR, .func (PySem.W.fnOf "_law_made_errors" "_law_made_errors" (defArgs pW) (defBody pW) (defScope pW) .none aaN aaJ aaO aaM Py aaL),aaP⟩)
  (Cd:PySem.W.codeIn K Py "_law_made_errors" =true)
  (Dj:PySem.W.keepIn K (.ref eX)=true)
  {akt ajY:Option Addr}{ajr:Array (Option Value)}{ajZ ajK ajJ akc acW ajD:Value}
  (Zq:PySem.W.nsIn K mainGlobals "_law_pull" =some (some (.ref qG)))
  (Zf:K.lookup qG=some ⟨ajZ,akt, .func (PySem.W.fnOf "_law_pull" "_law_pull" (defArgs DP) (defBody DP) (defScope DP) .none ajK ajJ akc ajY acW ajD),ajr⟩)
  (Yi:PySem.W.codeIn K acW "_law_pull" =true)
  (aac:PySem.W.keepIn K (.ref qG)=true)
  {am2 anh:Option Addr}{amQ:Array (Option Value)}{amX am0 am7 anb ahl amP:Value}
  (aeh:PySem.W.nsIn K mainGlobals "_law_of" =some (some (.ref xK)))
  (ad4:K.lookup xK=some ⟨amX,am2, .func (PySem.W.fnOf "_law_of" "_law_of" (defArgs Qv) (defBody Qv) (defScope Qv) .none am0 am7 anb anh ahl amP),amQ⟩)
  (abx:PySem.W.codeIn K ahl "_law_of" =true)
  (adY:PySem.W.keepIn K (.ref xK)=true)
  {alP alx:Option Addr}{alO:Array (Option Value)}{aly alr alW alu ae4 alV:Value}
  (abQ:PySem.W.nsIn K mainGlobals "_law_bag" =some (some (.ref tX)))
  (abO:K.lookup tX=some ⟨aly,alP, .func (PySem.W.fnOf "_law_bag" "_law_bag" (defArgs JF) (defBody JF) (defScope JF) .none alr alW alu alx ae4 alV),alO⟩)
  (Zi:PySem.W.codeIn K ae4 "_law_bag" =true)
  (abf:PySem.W.keepIn K (.ref tX)=true)
  {aAJ aAN:Option Addr}{aAQ:Array (Option Value)}{aAL aAI aAS aAP atw aAR:Value}
  (aoi:PySem.W.nsIn K mainGlobals "law" =some (some (.ref YC)))
  (aty:K.lookup YC=some ⟨aAL,aAJ, .func (PySem.W.fnOf "law" "law" (defArgs ae9) (defBody ae9) (defScope ae9) .none aAI aAS aAP aAN atw aAR),aAQ⟩)
  (ank:PySem.W.codeIn K atw "law" =true)
  (atk:PySem.W.keepIn K (.ref YC)=true)
  (X8:PySem.W.nsIn K mainGlobals "IndexError" =some none)
  (V7:PySem.W.nsIn K mainGlobals "LookupError" =some none)
  (Xx:PySem.W.nsIn K mainGlobals "ValueError" =some none)
  (atr:PySem.W.nsIn K mainGlobals "all" =some none)
  (anj:PySem.W.nsIn K mainGlobals "bool" =some none)
  (amO:PySem.W.nsIn K mainGlobals "dict" =some none)
  (atA:PySem.W.nsIn K mainGlobals "int" =some none)
  (XH:PySem.W.nsIn K mainGlobals "isinstance" =some none)
  (atz:PySem.W.nsIn K mainGlobals "len" =some none)
  (am6:PySem.W.nsIn K mainGlobals "list" =some none)
  (ajp:PySem.W.nsIn K mainGlobals "range" =some none)
  (atc:PySem.W.nsIn K mainGlobals "str" =some none)
  (ajR:PySem.W.nsIn K mainGlobals "tuple" =some none)
  (atD:PySem.W.nsIn K mainGlobals "zip" =some none)
  (tabs:PySem.W.nsIn K mainGlobals "_law_try" =some none)
  :∃(fd:FuncData) (cs:List (Addr × Addr)),(∀p ∈ cs,h.get? p.2=some {cls:= .none,data:= .fields #[]})∧(∀p ∈ cs,K.lookup p.2=none)∧(∀p ∈ cs,PySem.W.CodeHd h p.1 p.2)∧(∀P q,atG K P q→∃p ∈ cs,p.2=P)∧
   (∀(s:Shared) (u:Value),BindsTo s fd ⟨[u],[]⟩ [("_law_script",u)])∧∀base:Heap,K.In base→base.Ns mainGlobals mg→(∀p ∈ cs,LamX.TabB base mg p.1 p.2)→FnOk l.prog w K mg base (L2.CX l.prog w) 15 fa fd ["_law_script"] (YS K (CtF m_law)):=by
 have e:YC=fa:=by cases hfa.symm.trans (PySem.W.mg_of X G aoi);rfl
 subst e
 have uY:=fun_mk (st:=uJ) Lh Jh Np
 have Cy:=uY.binds (ps:= ["_law_e"]) fun _ _ _ _ _ _ us hl=>match us,hl with | [_],_=>rfl
 have xW:=fun_mk (st:=Ba) Z9 Xl aaf
 have U9:=xW.binds (ps:= ["_law_found","_law_due"]) fun _ _ _ _ _ _ us hl=>match us,hl with | [_,_],_=>rfl
 have Bl:=fun_mk (st:=BL) Ym Wj Xp
 have PN:=Bl.binds (ps:= ["_law_e"]) fun _ _ _ _ _ _ us hl=>match us,hl with | [_],_=>rfl
 have pX:=fun_mk (st:=pW) Dk Cd Dj
 have yd:=pX.binds (ps:= ["_law_one"]) fun _ _ _ _ _ _ us hl=>match us,hl with | [_],_=>rfl
 have Dz:=fun_mk (st:=DP) Zf Yi aac
 have U6:=Dz.binds (ps:= ["_law_bag_here","_law_many"]) fun _ _ _ _ _ _ us hl=>match us,hl with | [_,_],_=>rfl
 have Qu:=fun_mk (st:=Qv) ad4 abx adY
 have WK:=Qu.binds (ps:= ["_law_bag_here","_law_some"]) fun _ _ _ _ _ _ us hl=>match us,hl with | [_,_],_=>rfl
 have Iz:=fun_mk (st:=JF) abO Zi abf
 have Qx:=Iz.binds (ps:= ["_law_script"]) fun _ _ _ _ _ _ us hl=>match us,hl with | [_],_=>rfl
 have aon:=fun_mk (st:=ae9) aty ank atk
 have Td:Binds K (PySem.W.ksFn "__init__" "InvalidName.__init__" (defArgs cC) (defBody cC) (defScope cC) .none qK SJ Ub R7 (.ref j6) xH o9) ["self","given"] []:= .all fun us hl=>match us,hl with | [_,_],_=>rfl
 have KR:Binds K (PySem.W.ksFn "__init__" "InvalidShape.__init__" (defArgs bU) (defBody bU) (defScope bU) .none pq MN NQ NK (.ref iZ) u5 kZ) ["self","name"] []:= .all fun us hl=>match us,hl with | [_,_],_=>rfl
 have V8:Binds K (PySem.W.ksFn "__init__" "UnknownUse.__init__" (defArgs cJ) (defBody cJ) (defScope cJ) .none rW Vr Vw VH (.ref nJ) yX qN) ["self","name"] []:= .all fun us hl=>match us,hl with | [_,_],_=>rfl
 have XF:Binds K (PySem.W.ksFn "__init__" "NoFilling.__init__" (defArgs cO) (defBody cO) (defScope cO) .none vH X5 X4 Xr (.ref qC) Bv rR) ["self","name"] []:= .all fun us hl=>match us,hl with | [_,_],_=>rfl
 have aeM:Binds K (PySem.W.ksFn "__init__" "Silent.__init__" (defArgs dW) (defBody dW) (defScope dW) .none Du aej ael aer (.ref yg) Qp Ai) ["self","name"] []:= .all fun us hl=>match us,hl with | [_,_],_=>rfl
 have acz:Binds K (PySem.W.ksFn "__init__" "TooLong.__init__" (defArgs dI) (defBody dI) (defScope dI) .none Ad abn acw acg (.ref vK) Ib xZ) ["self","name"] []:= .all fun us hl=>match us,hl with | [_,_],_=>rfl
 have abz:Binds K (PySem.W.ksFn "__init__" "TooWide.__init__" (defArgs dJ) (defBody dJ) (defScope dJ) .none Ah abj ab0 abD (.ref vI) Jy xV) ["self","name"] []:= .all fun us hl=>match us,hl with | [_,_],_=>rfl
 have Ux:Binds K (PySem.W.ksFn "__init__" "InvalidText.__init__" (defArgs cA) (defBody cA) (defScope cA) .none qI T8 Q8 TQ (.ref jZ) xg pF) ["self","at"] []:= .all fun us hl=>match us,hl with | [_,_],_=>rfl
 have NZ:Binds K (PySem.W.ksFn "__init__" "InvalidEvent.__init__" (defArgs bV) (defBody bV) (defScope bV) .none pC Lz Pg N8 (.ref jc) uz lK) ["self","at"] []:= .all fun us hl=>match us,hl with | [_,_],_=>rfl
 have Jx:Binds K (PySem.W.ksFn "__init__" "InvalidNumber.__init__" (defArgs bM) (defBody bM) (defScope bM) .none mX JD Jc Ja (.ref gU) tE jj) ["self","given"] []:= .all fun us hl=>match us,hl with | [_,_],_=>rfl
 have KY:Binds K (PySem.W.ksFn "__init__" "InvalidBytes.__init__" (defArgs bY) (defBody bY) (defScope bY) .none pA M7 M5 K7 (.ref jg) uo lC) ["self","at"] []:= .all fun us hl=>match us,hl with | [_,_],_=>rfl
 have Wh:Binds K (PySem.W.ksFn "__init__" "Unreadable.__init__" (defArgs cI) (defBody cI) (defScope cI) .none rQ Vu VG VB (.ref nM) zG qH) ["self","name"] []:= .all fun us hl=>match us,hl with | [_,_],_=>rfl
 have Lg:Binds K (PySem.W.ksFn "__init__" "InvalidPlace.__init__" (defArgs bQ) (defBody bQ) (defScope bQ) .none pD LK Ou N5 (.ref ji) uM lH) ["self","given"] []:= .all fun us hl=>match us,hl with | [_,_],_=>rfl
 have abT:Binds K (PySem.W.ksFn "__init__" "TooMany.__init__" (defArgs dH) (defBody dH) (defScope dH) .none Ao abm acp abt (.ref vO) Ju xY) ["self","most"] []:= .all fun us hl=>match us,hl with | [_,_],_=>rfl
 have Jd:Binds K (PySem.W.ksFn "__init__" "DuplicateName.__init__" (defArgs bO) (defBody bO) (defScope bO) .none lW Jq Hj Jj (.ref gY) sJ jr) ["self","name"] []:= .all fun us hl=>match us,hl with | [_,_],_=>rfl
 have ajT:Binds K (PySem.W.ksFn "__init__" "Full.__init__" (defArgs fD) (defBody fD) (defScope fD) .none Vg akg aj5 ajA (.ref Fw) aav Kl) ["self","limit"] []:= .all fun us hl=>match us,hl with | [_,_],_=>rfl
 have O5:Binds K (PySem.W.ksFn "__init__" "InvalidLimit.__init__" (defArgs bW) (defBody bW) (defScope bW) .none o7 Og Oh N7 (.ref jf) vg kY) ["self","given"] []:= .all fun us hl=>match us,hl with | [_,_],_=>rfl
 have Ey:Binds K (PySem.W.ksFn "__init__" "InvalidCommand.__init__" (defArgs bL) (defBody bL) (defScope bL) .none jo Fy FZ Fq (.ref gD) qW iD) ["self","at"] []:= .all fun us hl=>match us,hl with | [_,_],_=>rfl
 have Ua:Binds K (PySem.W.ksFn "__init__" "InvalidPage.__init__" (defArgs cD) (defBody cD) (defScope cD) .none qL S7 TF Tq (.ref jW) xR pB) ["self","line"] []:= .all fun us hl=>match us,hl with | [_,_],_=>rfl
 have akv:Binds K (PySem.W.ksFn "__init__" "Sent.__init__" (defArgs fB) (defBody fB) (defScope fB) .none Vc ajH ajs aku (.ref Gi) aaz Km) ["self"] []:= .all fun us hl=>match us,hl with | [_],_=>rfl
 have ZC:Binds K (PySem.W.ksFn "__init__" "NoWriter.__init__" (defArgs cV) (defBody cV) (defScope cV) .none xX Ze ZD aai (.ref rO) DW vQ) ["self"] []:= .all fun us hl=>match us,hl with | [_],_=>rfl
 have TY:Binds K (PySem.W.ksFn "__init__" "UnknownName.__init__" (defArgs cH) (defBody cH) (defScope cH) .none qM RW UG Sq (.ref jV) xU oZ) ["self","name"] []:= .all fun us hl=>match us,hl with | [_,_],_=>rfl
 have Rv:Binds K (PySem.W.ksFn "__init__" "NothingLeft.__init__" (defArgs cG) (defBody cG) (defScope cG) .none qJ Uz Q6 Tf (.ref j5) wH o8) ["self"] []:= .all fun us hl=>match us,hl with | [_],_=>rfl
 have qK:KB K (PySem.W.ksFn "__init__" "InvalidName.__init__" (defArgs cC) (defBody cC) (defScope cC) .none qK SJ Ub R7 (.ref j6) xH o9) ["self","given"] 1 ["given"] [0,1]:=KB.of fun us ws h1 h2=>match us,h1,ws,h2 with | [_],_,[_],_=>rfl
 have pq:KB K (PySem.W.ksFn "__init__" "InvalidShape.__init__" (defArgs bU) (defBody bU) (defScope bU) .none pq MN NQ NK (.ref iZ) u5 kZ) ["self","name"] 1 ["name"] [0,1]:=KB.of fun us ws h1 h2=>match us,h1,ws,h2 with | [_],_,[_],_=>rfl
 have rW:KB K (PySem.W.ksFn "__init__" "UnknownUse.__init__" (defArgs cJ) (defBody cJ) (defScope cJ) .none rW Vr Vw VH (.ref nJ) yX qN) ["self","name"] 1 ["name"] [0,1]:=KB.of fun us ws h1 h2=>match us,h1,ws,h2 with | [_],_,[_],_=>rfl
 have vH:KB K (PySem.W.ksFn "__init__" "NoFilling.__init__" (defArgs cO) (defBody cO) (defScope cO) .none vH X5 X4 Xr (.ref qC) Bv rR) ["self","name"] 1 ["name"] [0,1]:=KB.of fun us ws h1 h2=>match us,h1,ws,h2 with | [_],_,[_],_=>rfl
 have Du:KB K (PySem.W.ksFn "__init__" "Silent.__init__" (defArgs dW) (defBody dW) (defScope dW) .none Du aej ael aer (.ref yg) Qp Ai) ["self","name"] 1 ["name"] [0,1]:=KB.of fun us ws h1 h2=>match us,h1,ws,h2 with | [_],_,[_],_=>rfl
 have Ad:KB K (PySem.W.ksFn "__init__" "TooLong.__init__" (defArgs dI) (defBody dI) (defScope dI) .none Ad abn acw acg (.ref vK) Ib xZ) ["self","name"] 1 ["name"] [0,1]:=KB.of fun us ws h1 h2=>match us,h1,ws,h2 with | [_],_,[_],_=>rfl
 have Ah:KB K (PySem.W.ksFn "__init__" "TooWide.__init__" (defArgs dJ) (defBody dJ) (defScope dJ) .none Ah abj ab0 abD (.ref vI) Jy xV) ["self","name"] 1 ["name"] [0,1]:=KB.of fun us ws h1 h2=>match us,h1,ws,h2 with | [_],_,[_],_=>rfl
 have qI:KB K (PySem.W.ksFn "__init__" "InvalidText.__init__" (defArgs cA) (defBody cA) (defScope cA) .none qI T8 Q8 TQ (.ref jZ) xg pF) ["self","at"] 1 ["at"] [0,1]:=KB.of fun us ws h1 h2=>match us,h1,ws,h2 with | [_],_,[_],_=>rfl
 have pC:KB K (PySem.W.ksFn "__init__" "InvalidEvent.__init__" (defArgs bV) (defBody bV) (defScope bV) .none pC Lz Pg N8 (.ref jc) uz lK) ["self","at"] 1 ["at"] [0,1]:=KB.of fun us ws h1 h2=>match us,h1,ws,h2 with | [_],_,[_],_=>rfl
 have mX:KB K (PySem.W.ksFn "__init__" "InvalidNumber.__init__" (defArgs bM) (defBody bM) (defScope bM) .none mX JD Jc Ja (.ref gU) tE jj) ["self","given"] 1 ["given"] [0,1]:=KB.of fun us ws h1 h2=>match us,h1,ws,h2 with | [_],_,[_],_=>rfl
 have pA:KB K (PySem.W.ksFn "__init__" "InvalidBytes.__init__" (defArgs bY) (defBody bY) (defScope bY) .none pA M7 M5 K7 (.ref jg) uo lC) ["self","at"] 1 ["at"] [0,1]:=KB.of fun us ws h1 h2=>match us,h1,ws,h2 with | [_],_,[_],_=>rfl
 have rQ:KB K (PySem.W.ksFn "__init__" "Unreadable.__init__" (defArgs cI) (defBody cI) (defScope cI) .none rQ Vu VG VB (.ref nM) zG qH) ["self","name"] 1 ["name"] [0,1]:=KB.of fun us ws h1 h2=>match us,h1,ws,h2 with | [_],_,[_],_=>rfl
 have pD:KB K (PySem.W.ksFn "__init__" "InvalidPlace.__init__" (defArgs bQ) (defBody bQ) (defScope bQ) .none pD LK Ou N5 (.ref ji) uM lH) ["self","given"] 1 ["given"] [0,1]:=KB.of fun us ws h1 h2=>match us,h1,ws,h2 with | [_],_,[_],_=>rfl
 have Ao:KB K (PySem.W.ksFn "__init__" "TooMany.__init__" (defArgs dH) (defBody dH) (defScope dH) .none Ao abm acp abt (.ref vO) Ju xY) ["self","most"] 1 ["most"] [0,1]:=KB.of fun us ws h1 h2=>match us,h1,ws,h2 with | [_],_,[_],_=>rfl
 have lW:KB K (PySem.W.ksFn "__init__" "DuplicateName.__init__" (defArgs bO) (defBody bO) (defScope bO) .none lW Jq Hj Jj (.ref gY) sJ jr) ["self","name"] 1 ["name"] [0,1]:=KB.of fun us ws h1 h2=>match us,h1,ws,h2 with | [_],_,[_],_=>rfl
 have Vg:KB K (PySem.W.ksFn "__init__" "Full.__init__" (defArgs fD) (defBody fD) (defScope fD) .none Vg akg aj5 ajA (.ref Fw) aav Kl) ["self","limit"] 1 ["limit"] [0,1]:=KB.of fun us ws h1 h2=>match us,h1,ws,h2 with | [_],_,[_],_=>rfl
 have o7:KB K (PySem.W.ksFn "__init__" "InvalidLimit.__init__" (defArgs bW) (defBody bW) (defScope bW) .none o7 Og Oh N7 (.ref jf) vg kY) ["self","given"] 1 ["given"] [0,1]:=KB.of fun us ws h1 h2=>match us,h1,ws,h2 with | [_],_,[_],_=>rfl
 have jo:KB K (PySem.W.ksFn "__init__" "InvalidCommand.__init__" (defArgs bL) (defBody bL) (defScope bL) .none jo Fy FZ Fq (.ref gD) qW iD) ["self","at"] 1 ["at"] [0,1]:=KB.of fun us ws h1 h2=>match us,h1,ws,h2 with | [_],_,[_],_=>rfl
 have qL:KB K (PySem.W.ksFn "__init__" "InvalidPage.__init__" (defArgs cD) (defBody cD) (defScope cD) .none qL S7 TF Tq (.ref jW) xR pB) ["self","line"] 1 ["line"] [0,1]:=KB.of fun us ws h1 h2=>match us,h1,ws,h2 with | [_],_,[_],_=>rfl
 have Vc:KB K (PySem.W.ksFn "__init__" "Sent.__init__" (defArgs fB) (defBody fB) (defScope fB) .none Vc ajH ajs aku (.ref Gi) aaz Km) ["self"] 1 [] [0]:=KB.of fun us ws h1 h2=>match us,h1,ws,h2 with | [_],_,[],_=>rfl
 have xX:KB K (PySem.W.ksFn "__init__" "NoWriter.__init__" (defArgs cV) (defBody cV) (defScope cV) .none xX Ze ZD aai (.ref rO) DW vQ) ["self"] 1 [] [0]:=KB.of fun us ws h1 h2=>match us,h1,ws,h2 with | [_],_,[],_=>rfl
 have qM:KB K (PySem.W.ksFn "__init__" "UnknownName.__init__" (defArgs cH) (defBody cH) (defScope cH) .none qM RW UG Sq (.ref jV) xU oZ) ["self","name"] 1 ["name"] [0,1]:=KB.of fun us ws h1 h2=>match us,h1,ws,h2 with | [_],_,[_],_=>rfl
 have qJ:KB K (PySem.W.ksFn "__init__" "NothingLeft.__init__" (defArgs cG) (defBody cG) (defScope cG) .none qJ Uz Q6 Tf (.ref j5) wH o8) ["self"] 1 [] [0]:=KB.of fun us ws h1 h2=>match us,h1,ws,h2 with | [_],_,[],_=>rfl
 have Gu:∀C ∈ xcl,XfC K C∧IsO K C:=List.forall_mem_cons.mpr ⟨⟨⟨Fb,Eu,Aa,Bb⟩,⟨M8,OJ,KZ,Le⟩⟩,List.forall_mem_cons.mpr ⟨⟨⟨CG,CV,yw,yH⟩,⟨HF,OJ,KZ,Ht⟩⟩,List.forall_mem_cons.mpr ⟨⟨⟨JM,JL,Cr,Cm⟩,⟨QW,OJ,KZ,RQ⟩⟩,List.forall_mem_cons.mpr ⟨⟨⟨Qa,Qc,Eo,Gj⟩,⟨VP,OJ,KZ,Wv⟩⟩,List.forall_mem_cons.mpr ⟨⟨⟨aaE,aaA,WY,W4⟩,⟨abU,OJ,KZ,abY⟩⟩,List.forall_mem_cons.mpr ⟨⟨⟨XS,XR,RN,Rc⟩,⟨aak,OJ,KZ,Zo⟩⟩,List.forall_mem_cons.mpr ⟨⟨⟨X7,Xq,Rz,TJ⟩,⟨Zt,OJ,KZ,ZG⟩⟩,List.forall_mem_cons.mpr ⟨⟨⟨Ge,Fl,Ak,Am⟩,⟨LQ,OJ,KZ,Pa⟩⟩,List.forall_mem_cons.mpr ⟨⟨⟨Cz,CN,yM,yI⟩,⟨Jr,OJ,KZ,Hz⟩⟩,List.forall_mem_cons.mpr ⟨⟨⟨BP,Bh,xO,wk⟩,⟨Ez,OJ,KZ,Fo⟩⟩,List.forall_mem_cons.mpr ⟨⟨⟨CK,CQ,yS,yK⟩,⟨Hf,OJ,KZ,Ih⟩⟩,List.forall_mem_cons.mpr ⟨⟨⟨JN,JT,Cu,Ck⟩,⟨QM,OJ,KZ,Tj⟩⟩,List.forall_mem_cons.mpr ⟨⟨⟨CP,CZ,yU,yN⟩,⟨Hw,OJ,KZ,HD⟩⟩,List.forall_mem_cons.mpr ⟨⟨⟨Xn,Yg,Tz,Rr⟩,⟨Zj,OJ,KZ,Zx⟩⟩,List.forall_mem_cons.mpr ⟨⟨⟨Bt,Bu,wV,wz⟩,⟨Fv,OJ,KZ,Gn⟩⟩,List.forall_mem_cons.mpr ⟨⟨⟨agh,agk,ac6,acT⟩,⟨ahh,OJ,KZ,ahJ⟩⟩,List.forall_mem_cons.mpr ⟨⟨⟨CW,CJ,yR,yQ⟩,⟨Jf,OJ,KZ,Jl⟩⟩,List.forall_mem_cons.mpr ⟨⟨⟨zY,zX,vJ,vR⟩,⟨Dr,OJ,KZ,Dh⟩⟩,List.forall_mem_cons.mpr ⟨⟨⟨Fd,Fp,Af,Bc⟩,⟨Mx,OJ,KZ,MK⟩⟩,List.forall_mem_cons.mpr ⟨⟨⟨agl,agi,adq,acY⟩,⟨ahE,OJ,KZ,aha⟩⟩,List.forall_mem_cons.mpr ⟨⟨⟨Ve,Va,Kg,Kf⟩,⟨Xy,OJ,KZ,XC⟩⟩,List.forall_mem_cons.mpr ⟨⟨⟨En,Ft,Ae,Ax⟩,⟨O7,OJ,KZ,Mr⟩⟩,List.forall_mem_cons.mpr ⟨⟨⟨Gp,Fg,Aq,Ag⟩,⟨Oo,OJ,KZ,O2⟩⟩,fun _ z=>nomatch z⟩⟩⟩⟩⟩⟩⟩⟩⟩⟩⟩⟩⟩⟩⟩⟩⟩⟩⟩⟩⟩⟩⟩
 exact ⟨_,[],(fun _ z=>nomatch z),(fun _ z=>nomatch z),(fun _ z=>nomatch z),(fun P q t=>aos tabs t),fun s v=> .of_eq rfl,fun base _ _ _=>chain {zm:=fU Gu zm,wC:=fU Gu wC,HX:=fU Gu HX,zE:=fU Gu zE,Bm:=fU Gu Bm,wU:=fU Gu wU,xr:=fU Gu xr,Dy:=fU Gu Dy,aaB:=fU Gu aaB,xq:=fU Gu xq,rH:=fU Gu rH,uL:=fU Gu uL,aaC:=fU Gu aaC,sW:=fU Gu sW,Jb:=fU Gu Jb,uZ:=fU Gu uZ,zq:=fU Gu zq,uG:=fU Gu uG,tD:=fU Gu tD,uE:=fU Gu uE,wQ:=fU Gu wQ,Jt:=fU Gu Jt,Ir:=fU Gu Ir,Qo:=fU Gu Qo,Br:=fU Gu Br,zH:=fU Gu zH,u9:=fU Gu u9,wB:=fU Gu wB,Nv:=PySem.W.mg_of X G Jo,ane:=PySem.W.mg_of X G ajy,Ru:=PySem.W.mg_of X G MJ,Ik:=PySem.W.mg_of X G Et,R4:=PySem.W.mg_of X G Ma,T6:=PySem.W.mg_of X G LR,Wd:=PySem.W.mg_of X G Uu,Mv:=PySem.W.mg_of X G Jw,Wt:=PySem.W.mg_of X G Rw,Ud:=PySem.W.mg_of X G Ox,UW:=PySem.W.mg_of X G Lf,Vz:=PySem.W.mg_of X G Uw,aiA:=PySem.W.mg_of X G abM,Z4:=PySem.W.mg_of X G Yl,abq:=PySem.W.mg_of X G ZW,Ws:=PySem.W.mg_of X G Ul,afb:=PySem.W.mg_of X G Xo,amW:=PySem.W.mg_of X G ajO,agS:=PySem.W.mg_of X G aeb,aeC:=PySem.W.mg_of X G abF,aeO:=PySem.W.mg_of X G abX,aeB:=PySem.W.mg_of X G abk,Vt:=PySem.W.mg_of X G Tc,XM:=PySem.W.mg_of X G Wn,XQ:=PySem.W.mg_of X G VD,R9:=⟨EXX.eb_VE,Uj,Ue,Bb,Rj,Aa,Q7,Rb,Uk,Aj,yL⟩,jP:=jP,yF:=_,j6:=j6,o9:=o9,wA:=wA,xH:=RL,Zh:=⟨⟨_,_,_,_,_,_,_,_,_,_,_,_,_,_,_,_,_,rfl,TV,Tw,RM,Sh,SQ,Q9⟩,yx,PySem.W.mg_none_of X G j7⟩,Td:=Td,wO:=wO,xM:=xM,fK:=⟨Fb,Eu,Aa,Bb⟩,qR:=qR,dR:=dR,mK:=mK,lu:=lu,oJ:=oJ,oO:=oO,nW:=nW,qK:=qK,Pj:=⟨EXX.eb_VE,KN,Pn,yH,O9,yw,Ml,LC,N6,yP,yL⟩,iI:=iI,wg:=_,iZ:=iZ,kZ:=kZ,vm:=vm,u5:=Ly,YJ:=⟨⟨_,_,_,_,_,_,_,_,_,_,_,_,_,_,_,_,_,rfl,Nh,Ls,Mu,Oq,Nq,Nt⟩,yx,PySem.W.mg_none_of X G j7⟩,KR:=KR,uO:=uO,uX:=uX,eE:=⟨CG,CV,yw,yH⟩,pY:=pY,dB:=dB,jG:=jG,jJ:=jJ,lU:=lU,lE:=lE,lA:=lA,pq:=pq,V2:=⟨EXX.eb_VE,Vp,Wi,Cm,VJ,Cr,Vy,V5,VF,Cp,yL⟩,mZ:=mZ,Ab:=_,nJ:=nJ,qN:=qN,zQ:=zQ,yX:=Wb,aaX:=⟨⟨_,_,_,_,_,_,_,_,_,_,_,_,_,_,_,_,_,rfl,V3,Wq,Vv,VN,V6,Wm⟩,yx,PySem.W.mg_none_of X G j7⟩,V8:=V8,zB:=zB,zM:=zM,fZ:=⟨JM,JL,Cr,Cm⟩,tH:=tH,dZ:=dZ,oW:=oW,oH:=oH,pO:=pO,qd:=qd,pP:=pP,rW:=rW,Xw:=⟨EXX.eb_VE,Yk,Yc,Gj,Xv,Eo,Yb,X6,XJ,Es,yL⟩,qu:=qu,Cq:=_,qC:=qC,rR:=rR,Bj:=Bj,Bv:=Yd,ado:=⟨⟨_,_,_,_,_,_,_,_,_,_,_,_,_,_,_,_,_,rfl,Xz,Ye,X3,Xu,Yh,XD⟩,yx,PySem.W.mg_none_of X G j7⟩,XF:=XF,Bq:=Bq,BR:=BR,gW:=⟨Qa,Qc,Eo,Gj⟩,vq:=vq,eG:=eG,pU:=pU,qb:=qb,rF:=rF,qU:=qU,rC:=rC,vH:=vH,adJ:=⟨EXX.eb_VE,adH,aeP,W4,aeH,WY,aeY,ad8,aeE,WM,yL⟩,zN:=zN,Rf:=_,yg:=yg,Ai:=Ai,Qq:=Qq,Qp:=aeR,aiB:=⟨⟨_,_,_,_,_,_,_,_,_,_,_,_,_,_,_,_,_,rfl,aec,aea,adI,adV,aev,aeK⟩,yx,PySem.W.mg_none_of X G j7⟩,aeM:=aeM,Qt:=Qt,Qs:=Qs,qT:=⟨aaE,aaA,WY,W4⟩,BJ:=BJ,gH:=gH,uH:=uH,vo:=vo,xJ:=xJ,wR:=wR,wZ:=wZ,Du:=Du,ab2:=⟨EXX.eb_VE,abP,ab8,Rc,abB,RN,abv,acj,abL,Ut,yL⟩,vU:=vU,Kc:=_,vK:=vK,xZ:=xZ,Ij:=Ij,Ib:=acd,ahD:=⟨⟨_,_,_,_,_,_,_,_,_,_,_,_,_,_,_,_,_,rfl,abu,aby,aci,abC,ab5,acs⟩,yx,PySem.W.mg_none_of X G j7⟩,acz:=acz,Iw:=Iw,G9:=G9,nQ:=⟨XS,XR,RN,Rc⟩,zj:=zj,fW:=fW,tO:=tO,sS:=sS,uI:=uI,vp:=vp,uR:=uR,Ad:=Ad,abI:=⟨EXX.eb_VE,ach,abr,TJ,ab4,Rz,abh,acv,acy,Us,yL⟩,vX:=vX,Kd:=_,vI:=vI,xV:=xV,Jg:=Jg,Jy:=abH,ag7:=⟨⟨_,_,_,_,_,_,_,_,_,_,_,_,_,_,_,_,_,rfl,acn,abR,ab1,abG,acf,abJ⟩,yx,PySem.W.mg_none_of X G j7⟩,abz:=abz,Je:=Je,Ig:=Ig,nA:=⟨X7,Xq,Rz,TJ⟩,zJ:=zJ,fX:=fX,sX:=sX,tR:=tR,uN:=uN,uV:=uV,u6:=u6,Ah:=Ah,Uy:=⟨EXX.eb_VE,Um,S9,Am,Uq,Ak,QT,UL,R6,Av,yL⟩,jO:=jO,yV:=_,jZ:=jZ,pF:=pF,xG:=xG,xg:=RX,aag:=⟨⟨_,_,_,_,_,_,_,_,_,_,_,_,_,_,_,_,_,rfl,T7,SM,Ry,Tp,Ur,Ri⟩,yx,PySem.W.mg_none_of X G j7⟩,Ux:=Ux,wI:=wI,wu:=wu,fM:=⟨Ge,Fl,Ak,Am⟩,qX:=qX,dO:=dO,lN:=lN,mH:=mH,oG:=oG,oA:=oA,oX:=oX,qI:=qI,O6:=⟨EXX.eb_VE,Ol,KQ,yI,Nf,yM,Nu,Ms,K8,yu,yL⟩,iH:=iH,wL:=_,jc:=jc,lK:=lK,uP:=uP,uz:=La,YL:=⟨⟨_,_,_,_,_,_,_,_,_,_,_,_,_,_,_,_,_,rfl,O4,Ow,Nk,Ph,Mq,Ov⟩,yx,PySem.W.mg_none_of X G j7⟩,NZ:=NZ,vh:=vh,uF:=uF,eO:=⟨Cz,CN,yM,yI⟩,pJ:=pJ,cZ:=cZ,ju:=ju,jE:=jE,lD:=lD,lJ:=lJ,mU:=mU,pC:=pC,HJ:=⟨EXX.eb_VE,Jk,Jv,wk,IK,xO,Hi,Jz,Hu,wJ,yL⟩,gK:=gK,vL:=_,gU:=gU,jj:=jj,sO:=sO,tE:=Ip,W6:=⟨⟨_,_,_,_,_,_,_,_,_,_,_,_,_,_,_,_,_,rfl,Hg,IV,Il,Hv,Hq,Ho⟩,yx,PySem.W.mg_none_of X G j7⟩,Jx:=Jx,sU:=sU,tG:=tG,dY:=⟨BP,Bh,xO,wk⟩,oh:=oh,cR:=cR,je:=je,iU:=iU,jB:=jB,jx:=jx,jt:=jt,mX:=mX,Ld:=⟨EXX.eb_VE,KH,Oi,yK,K9,yS,Lp,Mi,O8,yE,yL⟩,iK:=iK,wN:=_,jg:=jg,lC:=lC,vB:=vB,uo:=Mf,YG:=⟨⟨_,_,_,_,_,_,_,_,_,_,_,_,_,_,_,_,_,rfl,Od,Mz,Mw,Nb,Mj,Oa⟩,yx,PySem.W.mg_none_of X G j7⟩,KY:=KY,uQ:=uQ,uf:=uf,d9:=⟨CK,CQ,yS,yK⟩,pZ:=pZ,dw:=dw,jA:=jA,jK:=jK,mO:=mO,lO:=lO,lg:=lg,pA:=pA,V4:=⟨EXX.eb_VE,Vs,Wc,Ck,V9,Cu,Vq,Vx,Wo,Cj,yL⟩,mY:=mY,Bf:=_,nM:=nM,qH:=qH,zp:=zp,zG:=Wu,aa0:=⟨⟨_,_,_,_,_,_,_,_,_,_,_,_,_,_,_,_,_,rfl,Wf,Wk,Vo,V1,Wr,VL⟩,yx,PySem.W.mg_none_of X G j7⟩,Wh:=Wh,zF:=zF,zK:=zK,gq:=⟨JN,JT,Cu,Ck⟩,sE:=sE,d7:=d7,oV:=oV,oN:=oN,ql:=ql,pH:=pH,pK:=pK,rQ:=rQ,M6:=⟨EXX.eb_VE,Ot,Mg,yN,OD,yU,Ln,Mh,Lr,yC,yL⟩,iJ:=iJ,w6:=_,ji:=ji,lH:=lH,ug:=ug,uM:=Pr,Yt:=⟨⟨_,_,_,_,_,_,_,_,_,_,_,_,_,_,_,_,_,rfl,Lq,NT,Mp,Oc,MP,Lj⟩,yx,PySem.W.mg_none_of X G j7⟩,Lg:=Lg,ux:=ux,vA:=vA,eU:=⟨CP,CZ,yU,yN⟩,pN:=pN,cY:=cY,jw:=jw,jH:=jH,mV:=mV,lY:=lY,lV:=lV,pD:=pD,abK:=⟨EXX.eb_VE,abo,abN,Rr,abE,Tz,ab9,abA,abV,Uh,yL⟩,vW:=vW,Kh:=_,vO:=vO,xY:=xY,JB:=JB,Ju:=abS,ag6:=⟨⟨_,_,_,_,_,_,_,_,_,_,_,_,_,_,_,_,_,rfl,acu,abg,ab3,aco,ab6,acq⟩,yx,PySem.W.mg_none_of X G j7⟩,abT:=abT,IW:=IW,HS:=HS,nu:=⟨Xn,Yg,Tz,Rr⟩,zA:=zA,fY:=fY,sV:=sV,sG:=sG,uw:=uw,uU:=uU,uD:=uD,Ao:=Ao,Hr:=⟨EXX.eb_VE,Hh,HW,wz,Ii,wV,Io,Ie,Iv,wj,yL⟩,gJ:=gJ,vP:=_,gY:=gY,jr:=jr,tK:=tK,sJ:=JG,W7:=⟨⟨_,_,_,_,_,_,_,_,_,_,_,_,_,_,_,_,_,rfl,Jp,Hl,G8,Iu,HY,Im⟩,yx,PySem.W.mg_none_of X G j7⟩,Jd:=Jd,sY:=sY,sH:=sH,dX:=⟨Bt,Bu,wV,wz⟩,nY:=nY,cQ:=cQ,iV:=iV,jh:=jh,jM:=jM,jL:=jL,jD:=jD,lW:=lW,ajn:=⟨EXX.eb_VE,ajq,akx,acT,aj6,ac6,akd,aj0,aj9,adb,yL⟩,JQ:=JQ,Zm:=_,Fw:=Fw,Kl:=Kl,aax:=aax,aav:=aj2,aoh:=⟨⟨_,_,_,_,_,_,_,_,_,_,_,_,_,_,_,_,_,rfl,ajC,ajM,aj8,aks,ake,aju⟩,yx,PySem.W.mg_none_of X G j7⟩,ajT:=ajT,aaF:=aaF,aaw:=aaw,zV:=⟨agh,agk,ac6,acT⟩,Ji:=Ji,jY:=jY,za:=za,zP:=zP,Bw:=Bw,Bg:=Bg,BK:=BK,Vg:=Vg,Ny:=⟨EXX.eb_VE,Pb,Oj,yQ,Lw,yR,Nz,Oe,Nr,yJ,yL⟩,iQ:=iQ,wX:=_,jf:=jf,kY:=kY,uW:=uW,vg:=K6,Yy:=⟨⟨_,_,_,_,_,_,_,_,_,_,_,_,_,_,_,_,_,rfl,KJ,Pk,M9,Oz,Pq,Nm⟩,yx,PySem.W.mg_none_of X G j7⟩,O5:=O5,uK:=uK,uh:=uh,d8:=⟨CW,CJ,yR,yQ⟩,pQ:=pQ,dD:=dD,jy:=jy,jC:=jC,lQ:=lQ,lB:=lB,lZ:=lZ,o7:=o7,FW:=⟨EXX.eb_VE,Fx,Ep,vR,Gm,vJ,FJ,FQ,Em,vM,yL⟩,gA:=gA,tW:=_,gD:=gD,iD:=iD,rA:=rA,qW:=EY,Vb:=⟨⟨_,_,_,_,_,_,_,_,_,_,_,_,_,_,_,_,_,rfl,Gg,Fe,Gh,Gk,Fj,Ew⟩,yx,PySem.W.mg_none_of X G j7⟩,Ey:=Ey,rB:=rB,qY:=qY,dG:=⟨zY,zX,vJ,vR⟩,mj:=mj,cM:=cM,ig:=ig,g8:=g8,iW:=iW,iY:=iY,jd:=jd,jo:=jo,Ra:=⟨EXX.eb_VE,Rg,QX,Bc,Ss,Af,Tg,QV,QS,Ac,yL⟩,jQ:=jQ,yD:=_,jW:=jW,pB:=pB,wY:=wY,xR:=Rk,Zv:=⟨⟨_,_,_,_,_,_,_,_,_,_,_,_,_,_,_,_,_,rfl,Tr,Uv,Q5,Tn,T5,RG⟩,yx,PySem.W.mg_none_of X G j7⟩,Ua:=Ua,xT:=xT,wF:=wF,fL:=⟨Fd,Fp,Af,Bc⟩,rD:=rD,dM:=dM,mQ:=mQ,lM:=lM,oY:=oY,nU:=nU,oR:=oR,qL:=qL,ajv:=⟨EXX.eb_VE,ajQ,ajB,acY,ajS,adq,akr,akk,akf,adl,yL⟩,JR:=JR,ZS:=_,Gi:=Gi,Km:=Km,aay:=aay,aaz:=aki,aok:=⟨⟨_,_,_,_,_,_,_,_,_,_,_,_,_,_,_,_,_,rfl,ako,akp,ajX,aj3,aj1,ajV⟩,yx,PySem.W.mg_none_of X G j7⟩,akv:=akv,aaD:=aaD,zW:=⟨agl,agi,adq,acY⟩,JC:=JC,jX:=jX,zu:=zu,yZ:=yZ,BW:=BW,Bo:=Bo,Bx:=Bx,Vc:=Vc,ZV:=⟨EXX.eb_VE,aad,ZR,Kf,Zu,Kg,ZQ,ZX,aal,Ke,yL⟩,rP:=rP,Gf:=_,rO:=rO,vQ:=vQ,DQ:=DQ,DW:=Zz,ae5:=⟨⟨_,_,_,_,_,_,_,_,_,_,_,_,_,_,_,_,_,rfl,Zr,aam,ZP,aao,Zy,Zk⟩,yx,PySem.W.mg_none_of X G j7⟩,ZC:=ZC,DR:=DR,jm:=⟨Ve,Va,Kg,Kf⟩,wM:=wM,eZ:=eZ,rG:=rG,rE:=rE,tQ:=tQ,tL:=tL,tM:=tM,xX:=xX,RB:=⟨EXX.eb_LE,Tv,SN,Ax,RD,Ae,QZ,Rp,RJ,Ay,yL⟩,jR:=jR,yO:=_,jV:=jV,oZ:=oZ,wG:=wG,xU:=Sy,Z5:=⟨⟨_,_,_,_,_,_,_,_,_,_,_,_,_,_,_,_,_,rfl,Sd,Ug,UJ,Sw,Rh,Ro⟩,yx,PySem.W.mg_none_of X G j7⟩,TY:=TY,xQ:=xQ,xP:=xP,fO:=⟨En,Ft,Ae,Ax⟩,qZ:=qZ,dN:=dN,mW:=mW,lF:=lF,oE:=oE,oK:=oK,nZ:=nZ,qM:=qM,R5:=⟨EXX.eb_IE,Ui,TX,Ag,Uc,Aq,T9,Rq,Rx,Az,yL⟩,jT:=jT,yG:=_,j5:=j5,o8:=o8,wD:=wD,wH:=S8,ZL:=⟨⟨_,_,_,_,_,_,_,_,_,_,_,_,_,_,_,_,_,rfl,RP,R8,Tt,U0,Uo,RK⟩,yx,PySem.W.mg_none_of X G j7⟩,Rv:=Rv,wW:=wW,fH:=⟨Gp,Fg,Aq,Ag⟩,rJ:=rJ,dU:=dU,lG:=lG,mJ:=mJ,oU:=oU,ou:=ou,oM:=oM,qJ:=qJ,gG:=gG,rZ:=_,uY:=uY,WL:=PySem.W.mg_of X G M4,W8:=Cy,lX:=lX,vN:=_,xW:=xW,Qh:=PySem.W.mg_of X G Z7,Qi:=U9,nO:=nO,zf:=_,Bl:=Bl,aaV:=PySem.W.mg_of X G Xm,aaW:=PN,eX:=eX,oF:=_,pX:=pX,PB:=PySem.W.mg_of X G Di,PL:=yd,qG:=qG,Bp:=_,Dz:=Dz,ac5:=PySem.W.mg_of X G Zq,ac0:=U6,xK:=xK,Jm:=_,Qu:=Qu,ahe:=PySem.W.mg_of X G aeh,ahu:=WK,tX:=tX,Dt:=_,Iz:=Iz,ae8:=PySem.W.mg_of X G abQ,afc:=Qx,YC:=YC,ag8:=_,aon:=aon,aAO:=PySem.W.mg_of X G aoi,ac3:=PySem.W.mg_none_of X G X8,aa1:=PySem.W.mg_none_of X G V7,adf:=PySem.W.mg_none_of X G Xx,axi:=PySem.W.mg_none_of X G atr,anq:=PySem.W.mg_none_of X G anj,atl:=PySem.W.mg_none_of X G amO,Yw:=PySem.W.mg_none_of X G atA,bh:=PySem.W.mg_none_of X G XH,agQ:=PySem.W.mg_none_of X G atz,agY:=PySem.W.mg_none_of X G am6,akm:=PySem.W.mg_none_of X G ajp,ati:=PySem.W.mg_none_of X G atc,agj:=PySem.W.mg_none_of X G ajR,axh:=PySem.W.mg_none_of X G atD}⟩
end Mine
end
section
namespace Mine
open PySem PySem.Spec PyProof.Rows L2 DL
local macro_rules | `(tactic| walk_at "F")=> `(tactic| simp -implicitDefEqProofs only [axW,axl,azM,aCV,aum,auk,auH,auI,aCj,axD,ayO,auJ,auY,ay9,aCY,aAh,arX,aqW,aBx,aBw,axX,aCI,aDV,aCS,aCK,aCw,aC1,aBr,ark,arh,aqV,asM,aqc,aqq,apv,av5,azX,aqB,asV,awe,aqJ,arE,ap5,avm,awb,bne_self_eq_false,azx,aui,auP,aEi,aCm,aBO,ax3,azi,aAF,aDM,ay5,axU,ayu,aAo,au3,aAd,aso,aou,arf,apl,ar5,aoN,axS,aCR,ayT,aoA,avP,ayk,asl,azb,aEK,aAX,aC5,aBU,aDd,arw,aqH,ayN,ax8,Int.cast_ofNat_Int,Int.natCast_one,Int.natCast_zero,ap7,apF,aqp,ayn,ao1,aoL,amL,aEa,aCD,aCB,aA5,ay1,avU,ayo,auU,av0,aDq,ayZ,aq7,awn,aqi,aDT,atM,atU,aqo,arI,aDy,avZ,auA,avc,c_c,aEf,aDi,aAU,aCa,avi,aEe,aCO,atF,atQ,ave,ay2,apb,aqg,ar7,axP,ayV,azv,aAB,aqz,aDH,av2,aEt,ayA,aA6,avH,aC6,ayM,aq2,aB5,avS,azl,aqh,aCN,avL,aEu,aDj,aC7,aCd,aCF,aBg,azh,aue,atY,aDf,aDK,axR,az2,ayd,aus,aAa,azq,aul,aoo,auQ,aEG,apm,aAu,aqA,aEj,avj,avX,aB3,aDr,aBC,aEc,aB6,aDO,azn,axr,aDQ,ayb,al6,ayJ,avl,aD5,aCn,aDS,aEo,aBd,aDc,aB0,aDw,ax4,aAz,aEx,azL,aAc,aEB,aCh,aCW,aAY,aDm,ar9,aoB,aBl,ay6,azt,azm,aAn,aAC,apM,azF,axu,axO,arM,aEN,apD,ayj,ax0,ayz,axB,aze,auK,az9,aup,arq,apf,au6,atV,avr,avu,aud,avC,azV,aut,avM,auO,awj,apg,arV,apu,aEk,aCT,aAV,aCo,aAj,azZ,aBI,axF,aBa,ayX,axV,ax9,aAt,awo,aCc,avQ,aub,auf,ax7,awS,arU,aqd,aoQ,aqK,aqF,aAq,aB4,aCi,awt,aEE,azI,aAl,avR,aEq,aC3,aCG,aEp,aCs,ay3,aB7,aAy,ak8,aur,arl,ak9,aqj,ar3,ayW,awG,avK,avF,avh,auW,asR,ayH,asB,aD3,aDs,aBq,ax2,ayP,aAv,ayY,aEC,aDE,aBB,aBp,azy,ay7,aya,aD2,ayE,azW,ay8,aC0,auT,aDF,au7,aEy,axx,azu,avY,aDW,aAi,au5,awv,avv,aua,awg,aER,aDB,aA4,aDa,ayB,av8,aBE,avx,awu,c_j,aEg,aqP,aEr,aCv,avN,av3,auM,apn,axZ,aEA,ayr,aDJ,auv,awp,al9,aql,aqk,aow,aoF,aoX,aor,c_def,auF,axp,aza,apT,apr,axj,aqO,ap9,ase,aEh,amx,ar4,atb,aEb,aED,aqN,asI,arW,ap8,at4,ayI,aqX,as9,arH,ags,akB,Int.reduceLT,Int.reduceLE,Int.reduceNeg,Int.reduceToNat,Int.reducePow,Int.reduceAdd,Int.reduceSub,Int.reduceMul,Int.reduceDiv,Int.reduceMod,Int.reduceEq,aAZ,aDR,aDU,aCH,axw,av4,avp,atH,aAT,aq1,asi,arO,ap2,azE,aAb,avn,aot,apG,aqR,asU,ap4,aqQ,aoP,aoz,ame,amG,al7,al3,aAH,azU,azT,axN,azN,ayS,aAw,at7,atZ,arT,az3,avG,asN,azB,aBz,atJ,azJ,awi,auo,aoU,asO,aoE,ao2,aov,aoG,aoM,auu,awm,au9,avs,av7,avE,ap6,arn,ar0,aps,aqY,aqy,asz,asx,aqf,akT,alm,ai5,amv,akN,amh,ak1,alg,aiQ,al1,ak6,amJ,aiJ,aja,ahO,akC,aiM,ala,ahR,ahQ,agF,ai9,ahP,aiP,adw,adD,acJ,afh,adu,afe,aiR,aiG,ahM,akD,aiD,ak0,aiU,aiW,ahN,ak2,ai4,akZ,avb,auw,apA,aAs,auR,azs,cT,auz,aq5,aBn,aoZ,amC,axI,amk,axy,aB2,String.reduceEq,List.getElem?_cons_zero,List.getElem?_cons_succ,List.set_cons_zero,List.set_cons_succ,List.length_cons,List.length_nil,List.map_cons,List.map_nil,List.cons_append,List.nil_append,List.append_nil,List.replicate_succ,List.replicate_zero,Nat.reduceAdd,Nat.reduceSub,Nat.reduceLT,Nat.reduceLeDiff,Nat.reduceEqDiff,if_true,ite_true,if_false,ite_false,Bool.false_eq_true,Bool.not_true,Bool.not_false,Bool.and_true,Bool.true_and,Bool.false_and,Bool.and_false,Bool.or_true,Bool.or_false,Bool.true_or,Bool.false_or,decide_true,decide_false,Option.map_some,Option.map_none,most,reduceCtorEq,and_true,true_and,and_false,false_and,and_self,List.any_cons,List.any_nil,List.all_cons,List.all_nil,List.contains_cons,List.contains_nil,List.filterMap_cons,List.filterMap_nil,pick,amr,aoS,amD,amd,amN,amK,beq_self_eq_true,Option.isNone_none,Option.isNone_some,Nat.zero_add,aCl,aCp,aCM,aCz,aCZ,aA2,aDA,aCP,aCU,aDl,apc,aBM,aBu,aB9,aC9,aDb,aDh,aDG,aCq])
structure Bag where
 cs:List Int
 i:Int
 r:Int
 m:Int
 n:Int
abbrev Bag.M(b:Bag):M:= .lst [.lst (b.cs.map D.int), .int b.i, .int b.r, .int b.m, .int b.n]
structure Bag.Ok(b:Bag):Prop where
 len:b.cs.length≤63
 i0:0≤b.i
 r0:0≤b.r
 m0:0≤b.m
 m1:b.m < 2147483489
theorem awA{i j:Int}(h1:0 < j)(h2:j.natAbs.log2 < 9000):amI i j=true:=by
 unfold amI;simp [h1,h2]
theorem atI_nat{α:Type}{xs:List α}{i:Int}(h0:0≤i)(h1:i < xs.length):∃x,L2.atI xs i=some x∧x ∈ xs:=by
 obtain ⟨n,rfl⟩:=Int.eq_ofNat_of_zero_le h0
 have hn:n < xs.length:=by omega
 refine ⟨xs[n],?_,List.getElem_mem hn⟩
 have:ixN xs.length (n:Int)=some n:=by simp [ixN,hn]
 simp [L2.atI,this,hn]
/-- a number was drawn -/
def akb(n:Int)(x:Ar)(r:Rm):Prop:=∃(k:Int) (b:Bag),r= .ok (.d (.int k)) [.m b.M,x]∧0≤k∧k < n∧b.Ok
theorem aj4{f g:Gq}{s:FS}(P:O→Prop)(I:FS→Prop)(h1:∃s',f s= .nx s'∧I s')(h2:∀s',I s'→P (g s')):P (vG f g s):=by
 obtain ⟨s',e,h⟩:=h1
 rw [awS,e];exact h2 s' h
theorem aww(b:Bag)(hb:b.Ok)(n:Int)(h0:0 < n)(h9:n.natAbs.log2 < 9000):akb n (.d (.int n)) (qD [.m b.M, .d (.int n)]):=by
 obtain ⟨cs,i,r,m,k⟩:=b
 obtain ⟨c1,c2,c3,c4,c5⟩:=hb
 dsimp only at c1 c2 c3 c4 c5
 have pw:((10:Int) ^ (18:Int).toNat)=1000000000000000000:=by decide
 show akb n _ (acI [.m (.lst [.lst (cs.map D.int), .int i, .int r, .int m, .int k]), .d (.int n)] (Eb [some (.m true (.lst [.lst (cs.map D.int), .int i, .int r, .int m, .int k])),some (.d (.int n)),none,none,none]))
 generalize hA:([.m (.lst [.lst (cs.map D.int), .int i, .int r, .int m, .int k]), .d (.int n)]:List Ar)=A0
 have hback:∀(o:M) (v w u:Option Sv),yh [some (.m true o),some (.d (.int n)),v,w,u] 0 A0=some [.m o, .d (.int n)]:=fun o v w u=>by
  rw [← hA];walk_at "F"
 unfold Eb
 refine aj4 (fun o=>akb n _ (acI A0 o)) (fun s=>s= [some (.m true (.lst [.lst (cs.map D.int), .int i, .int r, .int m, .int (k + 1)])),some (.d (.int n)),none,none,none]) ⟨_,by walk_at "F",rfl⟩ ?_
 rintro s rfl
 refine aj4 (fun o=>akb n _ (acI A0 o)) (fun s=> ∃(i r m:Int) (v:Option Sv),0≤i∧0≤r∧0≤m∧m < 2147483489∧s= [some (.m true (.lst [.lst (cs.map D.int), .int i, .int r, .int m, .int (k + 1)])),some (.d (.int n)),v,none,none]) ?_ ?_
 ·walk_at "F"
  by_cases hr:r=0
  ·simp only [hr,decide_true]
   walk_at "F"
   by_cases hi:i < (cs.map D.int).length
   ·simp only [hi,decide_true]
    walk_at "F"
    obtain ⟨x,hx,hm⟩:=atI_nat (xs:=cs.map D.int) c2 hi
    obtain ⟨c,-,rfl⟩:=List.mem_map.mp hm
    rw [hx]
    walk_at "F"
    by_cases hc:1000000000000000000≤c
    ·simp only [hc,decide_true]
     walk_at "F"
     exact ⟨_,rfl,i + 1,c,m,_,by omega,by omega,c4,c5,rfl⟩
    ·simp only [hc,decide_false]
     walk_at "F"
     exact ⟨_,rfl,i + 1,0,_,_,by omega,by omega,Int.emod_nonneg _ (by decide),Int.lt_trans (Int.emod_lt_of_pos _ (by decide)) (by decide),rfl⟩
   ·simp only [hi,decide_false]
    walk_at "F"
    exact ⟨_,rfl,i,0,m,_,c2,by omega,c4,c5,rfl⟩
  ·simp only [hr,decide_false]
   walk_at "F"
   exact ⟨_,rfl,i,r,m,_,c2,c3,c4,c5,rfl⟩
 rintro s ⟨i,r,m,v,c2,c3,c4,c5,rfl⟩
 walk_at "F"
 by_cases hr:0 < r
 ·simp only [hr,decide_true]
  walk_at "F"
  rw [ags h0]
  walk_at "F"
  rw [asY,if_pos (awA h0 h9)]
  walk_at "F"
  rw [hback]
  exact ⟨_,⟨cs,i,r / n,m,k + 1⟩,rfl,Int.emod_nonneg _ (by omega),Int.emod_lt_of_pos _ h0,c1,c2,Int.ediv_nonneg (by omega) (by omega),c4,c5⟩
 ·simp only [hr,decide_false]
  walk_at "F"
  rw [akB (by decide) (by decide) (by omega) (by omega)]
  walk_at "F"
  rw [ags h0]
  walk_at "F"
  rw [hback]
  exact ⟨_,⟨cs,i,r,_,k + 1⟩,rfl,Int.emod_nonneg _ (by omega),Int.emod_lt_of_pos _ h0,c1,c2,c3,Int.emod_nonneg _ (by decide),Int.lt_trans (Int.emod_lt_of_pos _ (by decide)) (by decide)⟩
theorem aAM(ns:List Int)(h:ns.length≤63):∃b:Bag,b.Ok∧rK [.d (.klst (ns.map D.int))]= .ok (.f b.M) [.d (.klst (ns.map D.int))]:=by
 have hc:DL.cutD (ns.map D.int) none (some 63)=ns.map D.int:=by
  have e1:HT.sIx (ns.map D.int).length (ns.map D.int).length (some 63)=ns.length:=by
   rw [List.length_map]
   exact (HT.sIx_nat ns.length ns.length 63).trans (Nat.min_eq_right h)
  unfold DL.cutD
  rw [e1]
  show List.take (ns.length - 0) (List.drop 0 (ns.map D.int))=_
  rw [List.drop_zero,Nat.sub_zero,List.take_of_length_le (by rw [List.length_map];exact Nat.le_refl _)]
 have loop:∀(xs:List Int) (m:Int) (v:Option Sv),0≤m→m < 2147483489→isL [some (.d (.klst (ns.map D.int))),some (.d (.int m)),v] 2=false→∃(m':Int) (v':Option Sv),0≤m'∧m' < 2147483489∧yj (DL.gName 2) (Eh (tU (op2 Qy) (Y4 (Ww Y0) (aA (tU (op2 Ks) (tU (op2 Ks) (tU (op2 Yq) (fVar 1) (fC (.int 46183))) (tU (op2 Qy) (Y4 (Ww Y0) (aA (fVar 2) cX)) (fC (.int 2147483399)))) (fC (.int 29))) cX)) (fC (.int 2147483489))) (DL.gName 1)) (xs.map D.int) [some (.d (.klst (ns.map D.int))),some (.d (.int m)),v]= .nx [some (.d (.klst (ns.map D.int))),some (.d (.int m')),v']:=by
  intro xs
  induction xs with
  | nil=>intro m v h1 h2 _;exact ⟨m,v,h1,h2,rfl⟩
  | cons x xs ih=>
   intro m v h1 h2 hl
   have hl:agG (some v)=false:=hl
   obtain ⟨m',v',q1,q2,q3⟩:=ih ((m * 46183 + x % 2147483399 + 29) % 2147483489) (some (.d (.int x))) (Int.emod_nonneg _ (by decide)) (Int.emod_lt_of_pos _ (by decide)) rfl
   refine ⟨m',v',q1,q2,?_⟩
   rw [List.map_cons,aql]
   have e:DL.gName 2 (.d (.int x)) [some (.d (.klst (ns.map D.int))),some (.d (.int m)),v]=some [some (.d (.klst (ns.map D.int))),some (.d (.int m)),some (.d (.int x))]:=by
    rw [ak9,awG]
    show (if agG (some v)=true then none else _)=_
    rw [hl];rfl
   rw [e]
   rw [aqk]
   have e2:∀b1,b1=Eh (tU (op2 Qy) (Y4 (Ww Y0) (aA (tU (op2 Ks) (tU (op2 Ks) (tU (op2 Yq) (fVar 1) (fC (.int 46183))) (tU (op2 Qy) (Y4 (Ww Y0) (aA (fVar 2) cX)) (fC (.int 2147483399)))) (fC (.int 29))) cX)) (fC (.int 2147483489))) (DL.gName 1)→b1 [some (.d (.klst (ns.map D.int))),some (.d (.int m)),some (.d (.int x))]= .nx [some (.d (.klst (ns.map D.int))),some (.d (.int ((m * 46183 + x % 2147483399 + 29) % 2147483489))),some (.d (.int x))]:=by
    rintro b1 rfl
    walk_at "F"
   rw [e2 _ rfl]
   exact q3
 obtain ⟨m',v',q1,q2,q3⟩:=loop ns 10048 none (by decide) (by decide) rfl
 refine ⟨⟨ns,0,0,m',0⟩,⟨h,Int.le_refl 0,Int.le_refl 0,q1,q2⟩,?_⟩
 unfold rK Qx U8
 walk_at "F"
 rw [hc,q3]
 walk_at "F"
 rw [hc]
/-- one of some values was drawn -/
theorem aAK(b:Bag)(hb:b.Ok)(xs:List D)(h0:0 < xs.length)(h1:xs.length < 1000000):∃(y:D) (b':Bag),rY [.m b.M, .d (.lst xs)]= .ok (.d y) [.m b'.M, .d (.lst xs)]∧y ∈ xs∧b'.Ok:=by
 obtain ⟨k,b',e,k0,k1,hb'⟩:=aww b hb xs.length (by omega) (ail (by omega))
 obtain ⟨y,hy,hm⟩:=atI_nat (xs:=xs) k0 k1
 refine ⟨y,b',?_,hm,hb'⟩
 unfold rY WK Xi
 walk_at "F"
 rw [e]
 walk_at "F"
 rw [hy]
 walk_at "F"
abbrev aD0:List D:= [.non, .bl true, .int 0, .int 7, .int (-1), .int (10 ^ 40), .str "", .str "main", .tup [], .lst [.str "a"], .tup [.str "free", .int 2]]
theorem aDY(ns:List Int)(h:ns.length≤63):∃as',m_law [.d (.klst (ns.map D.int))]= .ok (.d (.bl true)) as':=by
 obtain ⟨b0,hb0,e0⟩:=aAM ns h
 obtain ⟨y,b1,e1,hy,-⟩:=aAK b0 hb0 aD0 (by decide) (by decide)
 generalize ns.map D.int=NS at *
 have e1:rY [.m b0.M, .d (.lst [.non, .bl true, .int 0, .int 7, .int (-1), .int 10000000000000000000000000000000000000000, .str "", .str "main", .tup [], .lst [.str "a"], .tup [.str "free", .int 2]])]=_:=e1
 generalize b0.M=B0 at *
 generalize b1.M=B1 at *
 unfold m_law aqC ajk
 refine (show (∃as',acI [.d (.klst NS)] (vG _ _ [some (.d (.klst NS)),none,none,none,none,none,none,none,none])= .ok (.d (.bl true)) as') from ?_)
 refine aj4 (fun o=> ∃as',acI [.d (.klst NS)] o= .ok (.d (.bl true)) as') (fun s=>s= [some (.d (.klst NS)),some (.m false B0),none,none,none,none,none,none,none]) ⟨_,by walk_at "F";rw [e0];walk_at "F",rfl⟩ ?_
 rintro s rfl
 refine aj4 (fun o=> ∃as',acI [.d (.klst NS)] o= .ok (.d (.bl true)) as') (fun s=>s= [some (.d (.klst NS)),some (.m false B1),some (.d y),none,none,none,none,none,none]) ⟨_,by walk_at "F";rw [e1];walk_at "F",rfl⟩ ?_
 rintro s rfl
 simp only [aD0,List.mem_cons,List.not_mem_nil,or_false] at hy
 clear e0 e1
 rcases hy with rfl | rfl | rfl | rfl | rfl | rfl | rfl | rfl | rfl | rfl | rfl <;> exact ⟨[.d (.klst NS)],by kernel_rfl⟩
theorem law_true(ns:List Int)(h:ns.length≤63):∃as',m_law [.d (.klst (ns.map D.int))]= .ok (.d (.bl true)) as':=aDY ns h
end Mine
end
section
open PySem PySem.W PyProof.Rows
set_option maxRecDepth 100000 in
set_option maxHeartbeats 0 in
theorem PySem.Challenge.cw_headhold_k01_errors_by_themselves_holds : PySem.Challenge.rw_headhold_k01_errors_by_themselves.Holds := by
 refine hdk ?_
 k_fill
 refine DL.law_end (l:=PySem.Challenge.rw_headhold_k01_errors_by_themselves) (k:=15) (x:="_law_script") (c:=DL.CtF Mine.m_law) rfl rfl ⟨rfl,by decide,by decide⟩ (fun w h Y=>PySem.W.kIn_of Y) ?F ?hcl
 case F=>
  intro w mg fa h Y KX G hmg
  refine' Mine.fin_mk KX G hmg ?Jo ?ajy ?MJ ?Et ?Ma ?LR ?Uu ?Jw ?Rw ?Ox ?Lf ?Uw ?abM ?Yl ?ZW ?Ul ?Xo ?ajO ?aeb ?abF ?abX ?abk ?Tc ?Wn ?VD ?yx ?j7 ?yL ?wA ?RL ?TV ?Tw ?RM ?Sh ?SQ ?Q9 ?Uj ?Ue ?Bb ?Rj ?Aa ?Q7 ?Rb ?Uk ?Aj ?wO ?xM ?Fb ?Eu ?qR ?dR ?mK ?lu ?oJ ?oO ?nW ?M8 ?Le ?vm ?Ly ?Nh ?Ls ?Mu ?Oq ?Nq ?Nt ?KN ?Pn ?yH ?O9 ?yw ?Ml ?LC ?N6 ?yP ?uO ?uX ?CG ?CV ?pY ?dB ?jG ?jJ ?lU ?lE ?lA ?HF ?Ht ?zQ ?Wb ?V3 ?Wq ?Vv ?VN ?V6 ?Wm ?Vp ?Wi ?Cm ?VJ ?Cr ?Vy ?V5 ?VF ?Cp ?zB ?zM ?JM ?JL ?tH ?dZ ?oW ?oH ?pO ?qd ?pP ?QW ?RQ ?Bj ?Yd ?Xz ?Ye ?X3 ?Xu ?Yh ?XD ?Yk ?Yc ?Gj ?Xv ?Eo ?Yb ?X6 ?XJ ?Es ?Bq ?BR ?Qa ?Qc ?vq ?eG ?pU ?qb ?rF ?qU ?rC ?VP ?Wv ?Qq ?aeR ?aec ?aea ?adI ?adV ?aev ?aeK ?adH ?aeP ?W4 ?aeH ?WY ?aeY ?ad8 ?aeE ?WM ?Qt ?Qs ?aaE ?aaA ?BJ ?gH ?uH ?vo ?xJ ?wR ?wZ ?abU ?abY ?Ij ?acd ?abu ?aby ?aci ?abC ?ab5 ?acs ?abP ?ab8 ?Rc ?abB ?RN ?abv ?acj ?abL ?Ut ?Iw ?G9 ?XS ?XR ?zj ?fW ?tO ?sS ?uI ?vp ?uR ?aak ?Zo ?Jg ?abH ?acn ?abR ?ab1 ?abG ?acf ?abJ ?ach ?abr ?TJ ?ab4 ?Rz ?abh ?acv ?acy ?Us ?Je ?Ig ?X7 ?Xq ?zJ ?fX ?sX ?tR ?uN ?uV ?u6 ?Zt ?ZG ?xG ?RX ?T7 ?SM ?Ry ?Tp ?Ur ?Ri ?Um ?S9 ?Am ?Uq ?Ak ?QT ?UL ?R6 ?Av ?wI ?wu ?Ge ?Fl ?qX ?dO ?lN ?mH ?oG ?oA ?oX ?LQ ?Pa ?uP ?La ?O4 ?Ow ?Nk ?Ph ?Mq ?Ov ?Ol ?KQ ?yI ?Nf ?yM ?Nu ?Ms ?K8 ?yu ?vh ?uF ?Cz ?CN ?pJ ?cZ ?ju ?jE ?lD ?lJ ?mU ?Jr ?Hz ?sO ?Ip ?Hg ?IV ?Il ?Hv ?Hq ?Ho ?Jk ?Jv ?wk ?IK ?xO ?Hi ?Jz ?Hu ?wJ ?sU ?tG ?BP ?Bh ?oh ?cR ?je ?iU ?jB ?jx ?jt ?Ez ?Fo ?vB ?Mf ?Od ?Mz ?Mw ?Nb ?Mj ?Oa ?KH ?Oi ?yK ?K9 ?yS ?Lp ?Mi ?O8 ?yE ?uQ ?uf ?CK ?CQ ?pZ ?dw ?jA ?jK ?mO ?lO ?lg ?Hf ?Ih ?zp ?Wu ?Wf ?Wk ?Vo ?V1 ?Wr ?VL ?Vs ?Wc ?Ck ?V9 ?Cu ?Vq ?Vx ?Wo ?Cj ?zF ?zK ?JN ?JT ?sE ?d7 ?oV ?oN ?ql ?pH ?pK ?QM ?Tj ?ug ?Pr ?Lq ?NT ?Mp ?Oc ?MP ?Lj ?Ot ?Mg ?yN ?OD ?yU ?Ln ?Mh ?Lr ?yC ?ux ?vA ?CP ?CZ ?pN ?cY ?jw ?jH ?mV ?lY ?lV ?Hw ?HD ?JB ?abS ?acu ?abg ?ab3 ?aco ?ab6 ?acq ?abo ?abN ?Rr ?abE ?Tz ?ab9 ?abA ?abV ?Uh ?IW ?HS ?Xn ?Yg ?zA ?fY ?sV ?sG ?uw ?uU ?uD ?Zj ?Zx ?tK ?JG ?Jp ?Hl ?G8 ?Iu ?HY ?Im ?Hh ?HW ?wz ?Ii ?wV ?Io ?Ie ?Iv ?wj ?sY ?sH ?Bt ?Bu ?nY ?cQ ?iV ?jh ?jM ?jL ?jD ?Fv ?Gn ?aax ?aj2 ?ajC ?ajM ?aj8 ?aks ?ake ?aju ?ajq ?akx ?acT ?aj6 ?ac6 ?akd ?aj0 ?aj9 ?adb ?aaF ?aaw ?agh ?agk ?Ji ?jY ?za ?zP ?Bw ?Bg ?BK ?ahh ?ahJ ?uW ?K6 ?KJ ?Pk ?M9 ?Oz ?Pq ?Nm ?Pb ?Oj ?yQ ?Lw ?yR ?Nz ?Oe ?Nr ?yJ ?uK ?uh ?CW ?CJ ?pQ ?dD ?jy ?jC ?lQ ?lB ?lZ ?Jf ?Jl ?rA ?EY ?Gg ?Fe ?Gh ?Gk ?Fj ?Ew ?Fx ?Ep ?vR ?Gm ?vJ ?FJ ?FQ ?Em ?vM ?rB ?qY ?zY ?zX ?mj ?cM ?ig ?g8 ?iW ?iY ?jd ?Dr ?Dh ?wY ?Rk ?Tr ?Uv ?Q5 ?Tn ?T5 ?RG ?Rg ?QX ?Bc ?Ss ?Af ?Tg ?QV ?QS ?Ac ?xT ?wF ?Fd ?Fp ?rD ?dM ?mQ ?lM ?oY ?nU ?oR ?Mx ?MK ?aay ?aki ?ako ?akp ?ajX ?aj3 ?aj1 ?ajV ?ajQ ?ajB ?acY ?ajS ?adq ?akr ?akk ?akf ?adl ?aaD ?agl ?agi ?JC ?jX ?zu ?yZ ?BW ?Bo ?Bx ?ahE ?aha ?DQ ?Zz ?Zr ?aam ?ZP ?aao ?Zy ?Zk ?aad ?ZR ?Kf ?Zu ?Kg ?ZQ ?ZX ?aal ?Ke ?DR ?Ve ?Va ?wM ?eZ ?rG ?rE ?tQ ?tL ?tM ?Xy ?XC ?wG ?Sy ?Sd ?Ug ?UJ ?Sw ?Rh ?Ro ?Tv ?SN ?Ax ?RD ?Ae ?QZ ?Rp ?RJ ?Ay ?xQ ?xP ?En ?Ft ?qZ ?dN ?mW ?lF ?oE ?oK ?nZ ?O7 ?Mr ?wD ?S8 ?RP ?R8 ?Tt ?U0 ?Uo ?RK ?Ui ?TX ?Ag ?Uc ?Aq ?T9 ?Rq ?Rx ?Az ?wW ?Gp ?Fg ?rJ ?dU ?lG ?mJ ?oU ?ou ?oM ?Oo ?O2 ?OJ ?KZ ?zm ?wC ?HX ?zE ?Bm ?wU ?xr ?Dy ?aaB ?xq ?rH ?uL ?aaC ?sW ?Jb ?uZ ?zq ?uG ?tD ?uE ?wQ ?Jt ?Ir ?Qo ?Br ?zH ?u9 ?wB ?M4 ?Lh ?Jh ?Np ?Z7 ?Z9 ?Xl ?aaf ?Xm ?Ym ?Wj ?Xp ?Di ?Dk ?Cd ?Dj ?Zq ?Zf ?Yi ?aac ?aeh ?ad4 ?abx ?adY ?abQ ?abO ?Zi ?abf ?aoi ?aty ?ank ?atk ?X8 ?V7 ?Xx ?atr ?anj ?amO ?atA ?XH ?atz ?am6 ?ajp ?atc ?ajR ?atD ?tabs
  (case Jo=>k_is)
  (case ajy=>k_is)
  (case MJ=>k_is)
  (case Et=>k_is)
  (case Ma=>k_is)
  (case LR=>k_is)
  (case Uu=>k_is)
  (case Jw=>k_is)
  (case Rw=>k_is)
  (case Ox=>k_is)
  (case Lf=>k_is)
  (case Uw=>k_is)
  (case abM=>k_is)
  (case Yl=>k_is)
  (case ZW=>k_is)
  (case Ul=>k_is)
  (case Xo=>k_is)
  (case ajO=>k_is)
  (case aeb=>k_is)
  (case abF=>k_is)
  (case abX=>k_is)
  (case abk=>k_is)
  (case Tc=>k_is)
  (case Wn=>k_is)
  (case VD=>k_is)
  (case yx=>rfl)
  (case j7=>k_is)
  (case yL=>k_is)
  (case wA=>k_is)
  (case RL=>k_is)
  (case TV=>k_is)
  (case Tw=>k_is)
  (case RM=>k_is)
  (case Sh=>k_is)
  (case SQ=>rfl)
  (case Q9=>kernel_rfl)
  (case Uj=>kernel_rfl)
  (case Ue=>kernel_rfl)
  (case Bb=>k_is)
  (case Rj=>k_is)
  (case Aa=>k_is)
  (case Q7=>k_is)
  (case Rb=>k_is)
  (case Uk=>k_is)
  (case Aj=>kernel_rfl)
  (case wO=>k_is)
  (case xM=>k_is)
  (case Fb=>k_is)
  (case Eu=>k_is)
  (case qR=>k_is)
  (case dR=>k_is)
  (case mK=>k_is)
  (case lu=>k_is)
  (case oJ=>k_is)
  (case oO=>k_is)
  (case nW=>k_is)
  (case M8=>k_is)
  (case Le=>k_is)
  (case vm=>k_is)
  (case Ly=>k_is)
  (case Nh=>k_is)
  (case Ls=>k_is)
  (case Mu=>k_is)
  (case Oq=>k_is)
  (case Nq=>rfl)
  (case Nt=>kernel_rfl)
  (case KN=>kernel_rfl)
  (case Pn=>kernel_rfl)
  (case yH=>k_is)
  (case O9=>k_is)
  (case yw=>k_is)
  (case Ml=>k_is)
  (case LC=>k_is)
  (case N6=>k_is)
  (case yP=>kernel_rfl)
  (case uO=>k_is)
  (case uX=>k_is)
  (case CG=>k_is)
  (case CV=>k_is)
  (case pY=>k_is)
  (case dB=>k_is)
  (case jG=>k_is)
  (case jJ=>k_is)
  (case lU=>k_is)
  (case lE=>k_is)
  (case lA=>k_is)
  (case HF=>k_is)
  (case Ht=>k_is)
  (case zQ=>k_is)
  (case Wb=>k_is)
  (case V3=>k_is)
  (case Wq=>k_is)
  (case Vv=>k_is)
  (case VN=>k_is)
  (case V6=>rfl)
  (case Wm=>kernel_rfl)
  (case Vp=>kernel_rfl)
  (case Wi=>kernel_rfl)
  (case Cm=>k_is)
  (case VJ=>k_is)
  (case Cr=>k_is)
  (case Vy=>k_is)
  (case V5=>k_is)
  (case VF=>k_is)
  (case Cp=>kernel_rfl)
  (case zB=>k_is)
  (case zM=>k_is)
  (case JM=>k_is)
  (case JL=>k_is)
  (case tH=>k_is)
  (case dZ=>k_is)
  (case oW=>k_is)
  (case oH=>k_is)
  (case pO=>k_is)
  (case qd=>k_is)
  (case pP=>k_is)
  (case QW=>k_is)
  (case RQ=>k_is)
  (case Bj=>k_is)
  (case Yd=>k_is)
  (case Xz=>k_is)
  (case Ye=>k_is)
  (case X3=>k_is)
  (case Xu=>k_is)
  (case Yh=>rfl)
  (case XD=>kernel_rfl)
  (case Yk=>kernel_rfl)
  (case Yc=>kernel_rfl)
  (case Gj=>k_is)
  (case Xv=>k_is)
  (case Eo=>k_is)
  (case Yb=>k_is)
  (case X6=>k_is)
  (case XJ=>k_is)
  (case Es=>kernel_rfl)
  (case Bq=>k_is)
  (case BR=>k_is)
  (case Qa=>k_is)
  (case Qc=>k_is)
  (case vq=>k_is)
  (case eG=>k_is)
  (case pU=>k_is)
  (case qb=>k_is)
  (case rF=>k_is)
  (case qU=>k_is)
  (case rC=>k_is)
  (case VP=>k_is)
  (case Wv=>k_is)
  (case Qq=>k_is)
  (case aeR=>k_is)
  (case aec=>k_is)
  (case aea=>k_is)
  (case adI=>k_is)
  (case adV=>k_is)
  (case aev=>rfl)
  (case aeK=>kernel_rfl)
  (case adH=>kernel_rfl)
  (case aeP=>kernel_rfl)
  (case W4=>k_is)
  (case aeH=>k_is)
  (case WY=>k_is)
  (case aeY=>k_is)
  (case ad8=>k_is)
  (case aeE=>k_is)
  (case WM=>kernel_rfl)
  (case Qt=>k_is)
  (case Qs=>k_is)
  (case aaE=>k_is)
  (case aaA=>k_is)
  (case BJ=>k_is)
  (case gH=>k_is)
  (case uH=>k_is)
  (case vo=>k_is)
  (case xJ=>k_is)
  (case wR=>k_is)
  (case wZ=>k_is)
  (case abU=>k_is)
  (case abY=>k_is)
  (case Ij=>k_is)
  (case acd=>k_is)
  (case abu=>k_is)
  (case aby=>k_is)
  (case aci=>k_is)
  (case abC=>k_is)
  (case ab5=>rfl)
  (case acs=>kernel_rfl)
  (case abP=>kernel_rfl)
  (case ab8=>kernel_rfl)
  (case Rc=>k_is)
  (case abB=>k_is)
  (case RN=>k_is)
  (case abv=>k_is)
  (case acj=>k_is)
  (case abL=>k_is)
  (case Ut=>kernel_rfl)
  (case Iw=>k_is)
  (case G9=>k_is)
  (case XS=>k_is)
  (case XR=>k_is)
  (case zj=>k_is)
  (case fW=>k_is)
  (case tO=>k_is)
  (case sS=>k_is)
  (case uI=>k_is)
  (case vp=>k_is)
  (case uR=>k_is)
  (case aak=>k_is)
  (case Zo=>k_is)
  (case Jg=>k_is)
  (case abH=>k_is)
  (case acn=>k_is)
  (case abR=>k_is)
  (case ab1=>k_is)
  (case abG=>k_is)
  (case acf=>rfl)
  (case abJ=>kernel_rfl)
  (case ach=>kernel_rfl)
  (case abr=>kernel_rfl)
  (case TJ=>k_is)
  (case ab4=>k_is)
  (case Rz=>k_is)
  (case abh=>k_is)
  (case acv=>k_is)
  (case acy=>k_is)
  (case Us=>kernel_rfl)
  (case Je=>k_is)
  (case Ig=>k_is)
  (case X7=>k_is)
  (case Xq=>k_is)
  (case zJ=>k_is)
  (case fX=>k_is)
  (case sX=>k_is)
  (case tR=>k_is)
  (case uN=>k_is)
  (case uV=>k_is)
  (case u6=>k_is)
  (case Zt=>k_is)
  (case ZG=>k_is)
  (case xG=>k_is)
  (case RX=>k_is)
  (case T7=>k_is)
  (case SM=>k_is)
  (case Ry=>k_is)
  (case Tp=>k_is)
  (case Ur=>rfl)
  (case Ri=>kernel_rfl)
  (case Um=>kernel_rfl)
  (case S9=>kernel_rfl)
  (case Am=>k_is)
  (case Uq=>k_is)
  (case Ak=>k_is)
  (case QT=>k_is)
  (case UL=>k_is)
  (case R6=>k_is)
  (case Av=>kernel_rfl)
  (case wI=>k_is)
  (case wu=>k_is)
  (case Ge=>k_is)
  (case Fl=>k_is)
  (case qX=>k_is)
  (case dO=>k_is)
  (case lN=>k_is)
  (case mH=>k_is)
  (case oG=>k_is)
  (case oA=>k_is)
  (case oX=>k_is)
  (case LQ=>k_is)
  (case Pa=>k_is)
  (case uP=>k_is)
  (case La=>k_is)
  (case O4=>k_is)
  (case Ow=>k_is)
  (case Nk=>k_is)
  (case Ph=>k_is)
  (case Mq=>rfl)
  (case Ov=>kernel_rfl)
  (case Ol=>kernel_rfl)
  (case KQ=>kernel_rfl)
  (case yI=>k_is)
  (case Nf=>k_is)
  (case yM=>k_is)
  (case Nu=>k_is)
  (case Ms=>k_is)
  (case K8=>k_is)
  (case yu=>kernel_rfl)
  (case vh=>k_is)
  (case uF=>k_is)
  (case Cz=>k_is)
  (case CN=>k_is)
  (case pJ=>k_is)
  (case cZ=>k_is)
  (case ju=>k_is)
  (case jE=>k_is)
  (case lD=>k_is)
  (case lJ=>k_is)
  (case mU=>k_is)
  (case Jr=>k_is)
  (case Hz=>k_is)
  (case sO=>k_is)
  (case Ip=>k_is)
  (case Hg=>k_is)
  (case IV=>k_is)
  (case Il=>k_is)
  (case Hv=>k_is)
  (case Hq=>rfl)
  (case Ho=>kernel_rfl)
  (case Jk=>kernel_rfl)
  (case Jv=>kernel_rfl)
  (case wk=>k_is)
  (case IK=>k_is)
  (case xO=>k_is)
  (case Hi=>k_is)
  (case Jz=>k_is)
  (case Hu=>k_is)
  (case wJ=>kernel_rfl)
  (case sU=>k_is)
  (case tG=>k_is)
  (case BP=>k_is)
  (case Bh=>k_is)
  (case oh=>k_is)
  (case cR=>k_is)
  (case je=>k_is)
  (case iU=>k_is)
  (case jB=>k_is)
  (case jx=>k_is)
  (case jt=>k_is)
  (case Ez=>k_is)
  (case Fo=>k_is)
  (case vB=>k_is)
  (case Mf=>k_is)
  (case Od=>k_is)
  (case Mz=>k_is)
  (case Mw=>k_is)
  (case Nb=>k_is)
  (case Mj=>rfl)
  (case Oa=>kernel_rfl)
  (case KH=>kernel_rfl)
  (case Oi=>kernel_rfl)
  (case yK=>k_is)
  (case K9=>k_is)
  (case yS=>k_is)
  (case Lp=>k_is)
  (case Mi=>k_is)
  (case O8=>k_is)
  (case yE=>kernel_rfl)
  (case uQ=>k_is)
  (case uf=>k_is)
  (case CK=>k_is)
  (case CQ=>k_is)
  (case pZ=>k_is)
  (case dw=>k_is)
  (case jA=>k_is)
  (case jK=>k_is)
  (case mO=>k_is)
  (case lO=>k_is)
  (case lg=>k_is)
  (case Hf=>k_is)
  (case Ih=>k_is)
  (case zp=>k_is)
  (case Wu=>k_is)
  (case Wf=>k_is)
  (case Wk=>k_is)
  (case Vo=>k_is)
  (case V1=>k_is)
  (case Wr=>rfl)
  (case VL=>kernel_rfl)
  (case Vs=>kernel_rfl)
  (case Wc=>kernel_rfl)
  (case Ck=>k_is)
  (case V9=>k_is)
  (case Cu=>k_is)
  (case Vq=>k_is)
  (case Vx=>k_is)
  (case Wo=>k_is)
  (case Cj=>kernel_rfl)
  (case zF=>k_is)
  (case zK=>k_is)
  (case JN=>k_is)
  (case JT=>k_is)
  (case sE=>k_is)
  (case d7=>k_is)
  (case oV=>k_is)
  (case oN=>k_is)
  (case ql=>k_is)
  (case pH=>k_is)
  (case pK=>k_is)
  (case QM=>k_is)
  (case Tj=>k_is)
  (case ug=>k_is)
  (case Pr=>k_is)
  (case Lq=>k_is)
  (case NT=>k_is)
  (case Mp=>k_is)
  (case Oc=>k_is)
  (case MP=>rfl)
  (case Lj=>kernel_rfl)
  (case Ot=>kernel_rfl)
  (case Mg=>kernel_rfl)
  (case yN=>k_is)
  (case OD=>k_is)
  (case yU=>k_is)
  (case Ln=>k_is)
  (case Mh=>k_is)
  (case Lr=>k_is)
  (case yC=>kernel_rfl)
  (case ux=>k_is)
  (case vA=>k_is)
  (case CP=>k_is)
  (case CZ=>k_is)
  (case pN=>k_is)
  (case cY=>k_is)
  (case jw=>k_is)
  (case jH=>k_is)
  (case mV=>k_is)
  (case lY=>k_is)
  (case lV=>k_is)
  (case Hw=>k_is)
  (case HD=>k_is)
  (case JB=>k_is)
  (case abS=>k_is)
  (case acu=>k_is)
  (case abg=>k_is)
  (case ab3=>k_is)
  (case aco=>k_is)
  (case ab6=>rfl)
  (case acq=>kernel_rfl)
  (case abo=>kernel_rfl)
  (case abN=>kernel_rfl)
  (case Rr=>k_is)
  (case abE=>k_is)
  (case Tz=>k_is)
  (case ab9=>k_is)
  (case abA=>k_is)
  (case abV=>k_is)
  (case Uh=>kernel_rfl)
  (case IW=>k_is)
  (case HS=>k_is)
  (case Xn=>k_is)
  (case Yg=>k_is)
  (case zA=>k_is)
  (case fY=>k_is)
  (case sV=>k_is)
  (case sG=>k_is)
  (case uw=>k_is)
  (case uU=>k_is)
  (case uD=>k_is)
  (case Zj=>k_is)
  (case Zx=>k_is)
  (case tK=>k_is)
  (case JG=>k_is)
  (case Jp=>k_is)
  (case Hl=>k_is)
  (case G8=>k_is)
  (case Iu=>k_is)
  (case HY=>rfl)
  (case Im=>kernel_rfl)
  (case Hh=>kernel_rfl)
  (case HW=>kernel_rfl)
  (case wz=>k_is)
  (case Ii=>k_is)
  (case wV=>k_is)
  (case Io=>k_is)
  (case Ie=>k_is)
  (case Iv=>k_is)
  (case wj=>kernel_rfl)
  (case sY=>k_is)
  (case sH=>k_is)
  (case Bt=>k_is)
  (case Bu=>k_is)
  (case nY=>k_is)
  (case cQ=>k_is)
  (case iV=>k_is)
  (case jh=>k_is)
  (case jM=>k_is)
  (case jL=>k_is)
  (case jD=>k_is)
  (case Fv=>k_is)
  (case Gn=>k_is)
  (case aax=>k_is)
  (case aj2=>k_is)
  (case ajC=>k_is)
  (case ajM=>k_is)
  (case aj8=>k_is)
  (case aks=>k_is)
  (case ake=>rfl)
  (case aju=>kernel_rfl)
  (case ajq=>kernel_rfl)
  (case akx=>kernel_rfl)
  (case acT=>k_is)
  (case aj6=>k_is)
  (case ac6=>k_is)
  (case akd=>k_is)
  (case aj0=>k_is)
  (case aj9=>k_is)
  (case adb=>kernel_rfl)
  (case aaF=>k_is)
  (case aaw=>k_is)
  (case agh=>k_is)
  (case agk=>k_is)
  (case Ji=>k_is)
  (case jY=>k_is)
  (case za=>k_is)
  (case zP=>k_is)
  (case Bw=>k_is)
  (case Bg=>k_is)
  (case BK=>k_is)
  (case ahh=>k_is)
  (case ahJ=>k_is)
  (case uW=>k_is)
  (case K6=>k_is)
  (case KJ=>k_is)
  (case Pk=>k_is)
  (case M9=>k_is)
  (case Oz=>k_is)
  (case Pq=>rfl)
  (case Nm=>kernel_rfl)
  (case Pb=>kernel_rfl)
  (case Oj=>kernel_rfl)
  (case yQ=>k_is)
  (case Lw=>k_is)
  (case yR=>k_is)
  (case Nz=>k_is)
  (case Oe=>k_is)
  (case Nr=>k_is)
  (case yJ=>kernel_rfl)
  (case uK=>k_is)
  (case uh=>k_is)
  (case CW=>k_is)
  (case CJ=>k_is)
  (case pQ=>k_is)
  (case dD=>k_is)
  (case jy=>k_is)
  (case jC=>k_is)
  (case lQ=>k_is)
  (case lB=>k_is)
  (case lZ=>k_is)
  (case Jf=>k_is)
  (case Jl=>k_is)
  (case rA=>k_is)
  (case EY=>k_is)
  (case Gg=>k_is)
  (case Fe=>k_is)
  (case Gh=>k_is)
  (case Gk=>k_is)
  (case Fj=>rfl)
  (case Ew=>kernel_rfl)
  (case Fx=>kernel_rfl)
  (case Ep=>kernel_rfl)
  (case vR=>k_is)
  (case Gm=>k_is)
  (case vJ=>k_is)
  (case FJ=>k_is)
  (case FQ=>k_is)
  (case Em=>k_is)
  (case vM=>kernel_rfl)
  (case rB=>k_is)
  (case qY=>k_is)
  (case zY=>k_is)
  (case zX=>k_is)
  (case mj=>k_is)
  (case cM=>k_is)
  (case ig=>k_is)
  (case g8=>k_is)
  (case iW=>k_is)
  (case iY=>k_is)
  (case jd=>k_is)
  (case Dr=>k_is)
  (case Dh=>k_is)
  (case wY=>k_is)
  (case Rk=>k_is)
  (case Tr=>k_is)
  (case Uv=>k_is)
  (case Q5=>k_is)
  (case Tn=>k_is)
  (case T5=>rfl)
  (case RG=>kernel_rfl)
  (case Rg=>kernel_rfl)
  (case QX=>kernel_rfl)
  (case Bc=>k_is)
  (case Ss=>k_is)
  (case Af=>k_is)
  (case Tg=>k_is)
  (case QV=>k_is)
  (case QS=>k_is)
  (case Ac=>kernel_rfl)
  (case xT=>k_is)
  (case wF=>k_is)
  (case Fd=>k_is)
  (case Fp=>k_is)
  (case rD=>k_is)
  (case dM=>k_is)
  (case mQ=>k_is)
  (case lM=>k_is)
  (case oY=>k_is)
  (case nU=>k_is)
  (case oR=>k_is)
  (case Mx=>k_is)
  (case MK=>k_is)
  (case aay=>k_is)
  (case aki=>k_is)
  (case ako=>k_is)
  (case akp=>k_is)
  (case ajX=>k_is)
  (case aj3=>k_is)
  (case aj1=>rfl)
  (case ajV=>kernel_rfl)
  (case ajQ=>kernel_rfl)
  (case ajB=>kernel_rfl)
  (case acY=>k_is)
  (case ajS=>k_is)
  (case adq=>k_is)
  (case akr=>k_is)
  (case akk=>k_is)
  (case akf=>k_is)
  (case adl=>kernel_rfl)
  (case aaD=>k_is)
  (case agl=>k_is)
  (case agi=>k_is)
  (case JC=>k_is)
  (case jX=>k_is)
  (case zu=>k_is)
  (case yZ=>k_is)
  (case BW=>k_is)
  (case Bo=>k_is)
  (case Bx=>k_is)
  (case ahE=>k_is)
  (case aha=>k_is)
  (case DQ=>k_is)
  (case Zz=>k_is)
  (case Zr=>k_is)
  (case aam=>k_is)
  (case ZP=>k_is)
  (case aao=>k_is)
  (case Zy=>rfl)
  (case Zk=>kernel_rfl)
  (case aad=>kernel_rfl)
  (case ZR=>kernel_rfl)
  (case Kf=>k_is)
  (case Zu=>k_is)
  (case Kg=>k_is)
  (case ZQ=>k_is)
  (case ZX=>k_is)
  (case aal=>k_is)
  (case Ke=>kernel_rfl)
  (case DR=>k_is)
  (case Ve=>k_is)
  (case Va=>k_is)
  (case wM=>k_is)
  (case eZ=>k_is)
  (case rG=>k_is)
  (case rE=>k_is)
  (case tQ=>k_is)
  (case tL=>k_is)
  (case tM=>k_is)
  (case Xy=>k_is)
  (case XC=>k_is)
  (case wG=>k_is)
  (case Sy=>k_is)
  (case Sd=>k_is)
  (case Ug=>k_is)
  (case UJ=>k_is)
  (case Sw=>k_is)
  (case Rh=>rfl)
  (case Ro=>kernel_rfl)
  (case Tv=>kernel_rfl)
  (case SN=>kernel_rfl)
  (case Ax=>k_is)
  (case RD=>k_is)
  (case Ae=>k_is)
  (case QZ=>k_is)
  (case Rp=>k_is)
  (case RJ=>k_is)
  (case Ay=>kernel_rfl)
  (case xQ=>k_is)
  (case xP=>k_is)
  (case En=>k_is)
  (case Ft=>k_is)
  (case qZ=>k_is)
  (case dN=>k_is)
  (case mW=>k_is)
  (case lF=>k_is)
  (case oE=>k_is)
  (case oK=>k_is)
  (case nZ=>k_is)
  (case O7=>k_is)
  (case Mr=>k_is)
  (case wD=>k_is)
  (case S8=>k_is)
  (case RP=>k_is)
  (case R8=>k_is)
  (case Tt=>k_is)
  (case U0=>k_is)
  (case Uo=>rfl)
  (case RK=>kernel_rfl)
  (case Ui=>kernel_rfl)
  (case TX=>kernel_rfl)
  (case Ag=>k_is)
  (case Uc=>k_is)
  (case Aq=>k_is)
  (case T9=>k_is)
  (case Rq=>k_is)
  (case Rx=>k_is)
  (case Az=>kernel_rfl)
  (case wW=>k_is)
  (case Gp=>k_is)
  (case Fg=>k_is)
  (case rJ=>k_is)
  (case dU=>k_is)
  (case lG=>k_is)
  (case mJ=>k_is)
  (case oU=>k_is)
  (case ou=>k_is)
  (case oM=>k_is)
  (case Oo=>k_is)
  (case O2=>k_is)
  (case OJ=>k_is)
  (case KZ=>k_is)
  (case zm=>kernel_rfl)
  (case wC=>kernel_rfl)
  (case HX=>kernel_rfl)
  (case zE=>kernel_rfl)
  (case Bm=>kernel_rfl)
  (case wU=>kernel_rfl)
  (case xr=>kernel_rfl)
  (case Dy=>kernel_rfl)
  (case aaB=>kernel_rfl)
  (case xq=>kernel_rfl)
  (case rH=>kernel_rfl)
  (case uL=>kernel_rfl)
  (case aaC=>kernel_rfl)
  (case sW=>kernel_rfl)
  (case Jb=>kernel_rfl)
  (case uZ=>kernel_rfl)
  (case zq=>kernel_rfl)
  (case uG=>kernel_rfl)
  (case tD=>kernel_rfl)
  (case uE=>kernel_rfl)
  (case wQ=>kernel_rfl)
  (case Jt=>kernel_rfl)
  (case Ir=>kernel_rfl)
  (case Qo=>kernel_rfl)
  (case Br=>kernel_rfl)
  (case zH=>kernel_rfl)
  (case u9=>kernel_rfl)
  (case wB=>kernel_rfl)
  (case M4=>k_is)
  (case Lh=>k_is)
  (case Jh=>k_is)
  (case Np=>k_is)
  (case Z7=>k_is)
  (case Z9=>k_is)
  (case Xl=>k_is)
  (case aaf=>k_is)
  (case Xm=>k_is)
  (case Ym=>k_is)
  (case Wj=>k_is)
  (case Xp=>k_is)
  (case Di=>k_is)
  (case Dk=>k_is)
  (case Cd=>k_is)
  (case Dj=>k_is)
  (case Zq=>k_is)
  (case Zf=>k_is)
  (case Yi=>k_is)
  (case aac=>k_is)
  (case aeh=>k_is)
  (case ad4=>k_is)
  (case abx=>k_is)
  (case adY=>k_is)
  (case abQ=>k_is)
  (case abO=>k_is)
  (case Zi=>k_is)
  (case abf=>k_is)
  (case aoi=>k_is)
  (case aty=>k_is)
  (case ank=>k_is)
  (case atk=>k_is)
  (case X8=>k_is)
  (case V7=>k_is)
  (case Xx=>k_is)
  (case atr=>k_is)
  (case anj=>k_is)
  (case amO=>k_is)
  (case atA=>k_is)
  (case XH=>k_is)
  (case atz=>k_is)
  (case am6=>k_is)
  (case ajp=>k_is)
  (case atc=>k_is)
  (case ajR=>k_is)
  (case atD=>k_is)
  (case tabs=>k_is)
 case hcl=>exact fun ns Φ h1 h2=>DL.ctf_law (Mine.law_true ns h1) h2
end
