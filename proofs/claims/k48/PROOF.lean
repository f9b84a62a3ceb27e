import PyProof.Rows.All
import Wide.All
import OpenK.AllK
import Wide.FinOn
import HandS.MakeKwOnly
import HandS.ForMost
import HandS.ForExc
import HandS.Wide
import HandS.Flow
import HandS.Steps
import HandS.HeadHook2
import KE.KDictKeyed
import HandS.Nested
import HandS.HeadHook4
import HandS.CallSlots
import HandS.Deep
import HandS.TupAny
import HandS.IsInst
import HandS.Zip
import HandS.SortKw
import HandS.ExcValue
import HandS.Defaults
import HandS.Words
import HandS.HeadWalk
import HandS.HeadHook1
import HandS.ExcInit
import HandS.TryOnly
import HandS.ExcOwn
import HandS.ExcField
import PyProof.Draws
import HandS.Conv
import HandS.TupLe
import HandS.Dict
import HandS.DictComp
import HandS.Keys
import KE.KSortTupG
import KE.KSortTupUse
import HandS.WordsDict
import PyProof.Rows.SeqRoads
import KE.LtData
import KE.SortData
import KE.DataMinMax
import HandS.More
import HandS.CallLocal
import HandS.RevRange
import HandS.Rev
import HandS.Iter
import HandS.List
import KE.KAssignIn
import HandS.Style
import HandS.DictTup
import PyProof.Rows.TupDisplay
import HandS.Flt
import KE.KUnpackStar
import HandS.TryMany
import KE.KStateDown
import HandS.Ends
import HandS.WordsExc
import HandS.Head0
import HandS.Head1
import HandS.Head2
import HandS.HeadEnd
import HandS.HeadHook3
import HandS.EndTab
import PySem.Challenge.RW_edgetally_k48_loops_refused
set_option Elab.async false
set_option linter.all false
set_option maxRecDepth 100000
set_option maxHeartbeats 4000000
theorem Zb (a b:Bool): ((a && b)=true)= (a=true∧b=true):=Bool.and_eq_true a b
theorem Zd {p:Prop} [inst:Decidable p] (h:decide p=true):p:=of_decide_eq_true h
theorem Zt {p:Prop} [inst:Decidable p] (h:p):decide p=true:=decide_eq_true h
theorem Zr {α:Type _} {b:α} (as:List α) {bs:List α} (h:b∈bs):b∈as++bs:=List.mem_append_right as h
theorem Zl {α:Type _} {a:α} {as:List α} (bs:List α) (h:a∈as):a∈as++bs:=List.mem_append_left bs h
theorem Zc {α:Type _} (y:α) {a:α} {l:List α} (h:a∈l):a∈y::l:=List.mem_cons_of_mem y h
theorem Zs {α:Type _} {a:α} {l:List α}:a∈a::l:=List.mem_cons_self
theorem Zp {α:Type _} {a:α} {s t:List α}:a∈s++t↔a∈s∨a∈t:=List.mem_append
theorem Zo {α:Type _} {b:α} {l:List α} {a:α}:a∈b::l↔a=b∨a∈l:=List.mem_cons
theorem Zm {α:Type _} {β:Type _} {b:β} {f:α→β} {l:List α}:b∈List.map f l↔∃a,a∈l∧f a=b:=List.mem_map
theorem Zg {α:Type _} {l:List α} {i:Nat} {a:α}:l.getD i a=l[i]?.getD a:=List.getD_eq_getElem?_getD
theorem Ze {α:Type _} {l:List α} {i:Nat} (h:i < l.length):l[i]? =some l[i]:=List.getElem?_eq_getElem h
noncomputable abbrev Zf:=PySem.W.Frag
noncomputable section
namespace EV
open PySem PySem.Spec PyProof.Rows L2
noncomputable def pairsK:List Str→List (Str × Str)
 | k::f::r=>(k,f)::pairsK r
 | _=> []
noncomputable def Jjn (K:Zf) (C:Addr):Bool:=(match K.lookup C with
 | some ⟨.type "type",_,.cls cd,sl⟩=>(match cd.mro,sl.toList with
  | .ref C'::bm,[_,_,_,_,some (.builtin n),_]=>C' == C && (n == "ValueError.__new__" && (!cd.hasDel && (cd.hasDict && PySem.HandSPX.refsVE bm)))
  | _,_=>false)
 | _=>false) && (decide (PySem.W.findIn K (.ref C) "__setattr__" =some (some (.builtin "object.__setattr__"))) && (decide (PySem.W.subIn K (.ref C) (.type "BaseException")=some true) && (decide (PySem.W.typeIn K (.ref C)=some (.type "type")) && PySem.W.keepIn K (.ref C))))
noncomputable def J6g (K:Zf) (C:Addr):Bool:=decide (PySem.W.findIn K (.ref C) "__init__" =some (some (.ref (He.ma K C "__init__")))) && decide (PySem.W.typeIn K (.ref (He.ma K C "__init__"))=some (.type "function"))
noncomputable def Jfm (K:Zf) (C:Addr) (m:Str):Bool:=PySem.W.readsIn K C (.type "type") && (decide (PySem.W.specialIn K (.ref C) "__getattribute__" =some (some (.builtin "type.__getattribute__"))) && (match PySem.W.findCls K (.ref C) (.type "type") m with
 | some (.val v)=>decide (v= .ref (He.ma K C m))
 | _=>false))
noncomputable abbrev AlX:Type:=He.AlD × Bool
noncomputable def obsX (fa:List He.Fa) (fn:List He.DefD) (ex:List (Zf→Bool)) (K:Zf):AlX:=(He.obsD fa fn K,ex.all fun f=>f K)
noncomputable def SaysX (fa:List He.Fa) (fn:List He.DefD) (ex:List (Zf→Bool)) (K:Zf):Prop:=obsX fa fn ex K= (He.valD fn,true)
noncomputable def Jaw (c:Str) (K:Zf):Bool:=Jjn K (He.ga K c) && (J6g K (He.ga K c) && decide (PySem.W.findIn K (.ref (He.ga K c)) "word" =some none))
noncomputable def Jjo (c:Str) (K:Zf):Bool:=Jfm K (He.ga K c) "__init__" && PySem.W.keepIn K (.ref (He.ma K (He.ga K c) "__init__"))
noncomputable abbrev AlY:Type:=AlX × List (Option (List (Option (Str × Int))))
noncomputable def Jot (fa:List He.Fa) (fn:List He.DefD) (ex:List (Zf→Bool)) (ts:List (Str × List Str)) (K:Zf):AlY:=(obsX fa fn ex K,ts.map fun t=>He.dicW K (He.ga K t.1))
noncomputable def Jou (fn:List He.DefD) (ts:List (Str × List Str)) (w:World):AlY:=((He.valD fn,true),ts.map fun t=>some (He.keysIn w.params t.2))
noncomputable def Jct (fa:List He.Fa) (fn:List He.DefD) (ex:List (Zf→Bool)) (ts:List (Str × List Str)) (w:World) (K:Zf):Prop:=Jot fa fn ex ts K=Jou fn ts w
noncomputable def tabsOf (K:Zf):List (Addr × Str):=(["spread", "mean", "pair_mean"]:List Str).filterMap fun x=>if (PySem.W.codeHdIn K (He.cT K (x,none)).1 (He.cT K (x,none)).2 && (K.lookup (He.cT K (x,none)).2).isNone)=true then some ((He.cT K (x,none)).2,x++ ".<locals>.lead") else none
noncomputable def Jfn (as:List Addr) (fa:List He.Fa) (fn:List He.DefD) (ex:List (Zf→Bool)) (ts:List (Str × List Str)) (g:Addr→Option Obj):AlY:=Jot fa fn ex ts (He.frG g as)
noncomputable def Jhe (as:List Addr) (fa:List He.Fa) (fn:List He.DefD) (ex:List (Zf→Bool)) (ts:List (Str × List Str)):PySem.W.Hook where
 α:=AlY
 obs:=fun s=>Jfn as fa fn ex ts s.heap.get?
 val:=fun w=>Jou fn ts w
 says:=fun w h=>∃K:Zf,K.In h∧Jct fa fn ex ts w K
 of:=fun _ _ e=>⟨_,He.frG_in,e⟩
 keeps:=fun _ _ _ ⟨K,kin,c⟩ k=>⟨K,PySem.W.Frag.In.keeps kin k,c⟩
theorem Jjp {as:List Addr} {fa:List He.Fa} {fn:List He.DefD} {ex:List (Zf→Bool)} {ts:List (Str × List Str)} {g:Addr→Option Obj} {s:Shared} (h:∀a,g a=s.heap.get? a):Jfn as fa fn ex ts g= (Jhe as fa fn ex ts).obs s:=by
 have e:g=s.heap.get?:=funext h
 rw [e] <;> rfl
end EV
namespace K48
open PySem PySem.Spec PyProof.Rows L2 EV
noncomputable def top (i:Nat):Stmt:=PySem.Challenge.pw_edgetally_k48_loops_refused.main.body.getD i (.Pass ⟨0,0,0,0⟩)
noncomputable def J4f (s:Stmt):Stmt:=match s with
 | .ClassDef _ _ _ (b::_) _ _ _ _ _ _ _=>b
 | _=> .Pass ⟨0,0,0,0⟩
noncomputable def mk (x:Str) (i:Nat):He.DefD:=⟨(x,none),x,x,defArgs (top i),defBody (top i),defScope (top i),[],[]⟩
noncomputable def Jfo:He.DefD:=⟨("EdgeError",some "__init__"), "__init__", "EdgeError.__init__",defArgs (J4f (top 1)),defBody (J4f (top 1)),defScope (J4f (top 1)),[.str "refused"],[]⟩
noncomputable def J81:He.DefD:=⟨("BadSums",some "__init__"), "__init__", "BadSums.__init__",defArgs (J4f (top 3)),defBody (J4f (top 3)),defScope (J4f (top 3)),[],[]⟩
noncomputable def J7a:He.DefD:=⟨("BadTable",some "__init__"), "__init__", "BadTable.__init__",defArgs (J4f (top 2)),defBody (J4f (top 2)),defScope (J4f (top 2)),[],[]⟩
noncomputable def J2l:He.DefD:=mk "_law_pull" 18
noncomputable def fn:List He.DefD:= [(mk "_law_bag" 17),J2l,(mk "_law_any" 23),(mk "_law_copied" 22),(mk "_law_wild_rows" 25),(mk "_law_good_rows" 24),(mk "_law_rowsums" 20),(mk "_law_turned" 19),(mk "_law_columnsums" 21),(mk "good_rows" 8),(mk "turned_rows" 10),(mk "first_of" 13),(mk "ring" 14),(mk "walked" 12),(mk "loops" 15),(mk "law" 26),Jfo,J81,J7a]
noncomputable def fa:List He.Fa:= [.glo "_law_bag",.glo "_law_pull",.glo "_law_any",.glo "_law_copied",.glo "_law_wild_rows",.glo "_law_good_rows",.glo "_law_rowsums",.glo "_law_turned",.glo "_law_columnsums",.glo "good_rows",.glo "turned_rows",.glo "first_of",.glo "ring",.glo "walked",.glo "loops",.glo "law",.glo "EdgeError",.glo "BadSums",.glo "BadTable",.exm "BadSums" "BadSums" true,.exm "BadSums" "BadTable" false,.exm "BadTable" "BadSums" false,.exm "BadTable" "BadTable" true,.free "abs",.free "len",.free "range",.free "min",.free "list",.free "sum",.free "enumerate",.free "zip",.free "any",.int "ROWS" 4,.int "COLUMNS" 6,.int "MOST" 40]
noncomputable def J9a:List (Zf→Bool):= [Jjo "EdgeError",Jaw "BadSums",Jaw "BadTable",fun K=>(tabsOf K).isEmpty]
noncomputable def Jjq:List (Str × List Str):= []
noncomputable abbrev R:PySem.W.OpenRow:=PySem.W.OpenLaw.row PySem.Challenge.rw_edgetally_k48_loops_refused
noncomputable def as_:List Addr:= [2,3,32,52,71,78,83,88,95,102,107,112,119,124,129,134,139,144,149,154,159,31,51,70,77,82,87,94,101,106,111,118,123,128,133,138,143,148,153,158,29,49,68,28,22,48,67]
noncomputable abbrev hk:PySem.W.Hook:=Jhe as_ fa fn J9a Jjq
noncomputable def ob (s:PySem.W.SharedT):AlY:=Jfn as_ fa fn J9a Jjq (HandSHeadRun.getT s)
theorem Jrd (s:PySem.W.SharedT):ob s=hk.obs s.abs:=Jjp (HandSHeadRun.getT_eq s)
noncomputable def loose:List Str:= ["__name__", "EdgeError", "BadTable", "BadSums", "MOST", "ROWS", "COLUMNS", "good_rows", "turned_rows", "walked", "first_of", "ring", "loops", "_law_bag", "_law_pull", "_law_turned", "_law_rowsums", "_law_columnsums", "_law_copied", "_law_any", "_law_good_rows", "_law_wild_rows"]
theorem run (w:World):HandSHeadRun.RunEq R (PySem.W.view R.prog [26]) hk ob 4000 loose w:=by
 intro os
 kernel_rfl
theorem Jre (call:PySem.W.WalkO (PySem.W.view (PySem.W.OpenLaw.row PySem.Challenge.rw_edgetally_k48_loops_refused).prog [26]) loose (PySem.W.XL (PySem.W.view (PySem.W.OpenLaw.row PySem.Challenge.rw_edgetally_k48_loops_refused).prog [26]) []) hk.says (PySem.W.OpenLaw.row PySem.Challenge.rw_edgetally_k48_loops_refused).toRowW (HandSHeadRun.topDef (PySem.W.OpenLaw.row PySem.Challenge.rw_edgetally_k48_loops_refused).prog 26) [] fun f vs=>PySem.call f vs):PySem.Challenge.rw_edgetally_k48_loops_refused.Holds:=by
 w_on;o_law
 refine HandSHeadRun.head_any (r:=PySem.W.OpenLaw.row PySem.Challenge.rw_edgetally_k48_loops_refused) (q:=PySem.W.view (PySem.W.OpenLaw.row PySem.Challenge.rw_edgetally_k48_loops_refused).prog [26]) (H:=hk) (ob:=ob) (M:=4000) (loose:=loose) (d:=HandSHeadRun.topDef (PySem.W.OpenLaw.row PySem.Challenge.rw_edgetally_k48_loops_refused).prog 26) (kwd:= []) Jrd (by kernel_rfl) (fun s=>by kernel_rfl) run (by kernel_rfl) (by kernel_rfl) (by kernel_rfl) (by rfl) (by first | assumption | decide +kernel) (by decide +kernel) ⟨rfl,rfl,rfl,rfl,rfl,by decide +kernel⟩ ?hw ?hc
 case hw=>w_witness2
 case hc=>exact call
theorem Jrf: (HandSHeadRun.topDef (PySem.W.OpenLaw.row PySem.Challenge.rw_edgetally_k48_loops_refused).prog 26).name= ("law" :PySem.Str):=by kernel_rfl
theorem Jsb: (HandSHeadRun.topDef (PySem.W.OpenLaw.row PySem.Challenge.rw_edgetally_k48_loops_refused).prog 26).params.defaults= []:=by kernel_rfl
end K48
namespace EV
open PySem PySem.Spec L2
inductive D where
 | non | bl (b:Bool) | int (i:Int) | str (x:Str)
 | lst (ds:List D) | tup (ds:List D)
 | dct (ks vs:List D)
 | obj (c:Str) (ns:List Str) (ds:List D)
inductive Mode where
 | U | Z | F | X | O (m:Mode) | B (n:Str) (m r:Mode) | B0 | K (m:Mode) | L
 deriving DecidableEq
noncomputable def nX (m:Mode):Prop:=m≠ .X∧m≠ .L
noncomputable instance (m:Mode):Decidable (nX m):=inferInstanceAs (Decidable (m≠ .X∧m≠ .L))
noncomputable def kD:Key→D
 | .inl i=> .int i
 | .inr x=> .str x
mutual
noncomputable def numK:NestedKey→Bool
 | .num _=>true
 | .tup ks=>J50 ks
 | _=>false
noncomputable def J50:List NestedKey→Bool
 | []=>true
 | k::ks=>numK k && J50 ks
end
mutual
noncomputable def Ja1:NestedKey→Int
 | .num i=>hashInt i
 | .tup ks=>reduceHash (Builtin.Tuple.tupleHashOf (Jcw ks))
 | _=>0
noncomputable def Jcw:List NestedKey→List Int
 | []=> []
 | k::ks=>Ja1 k::Jcw ks
end
mutual
theorem J9b (w:World):∀k:NestedKey,numK k=true→k.hash w=Ja1 k
 | .num i,_=>rfl
 | .tup ks,h=>by
  show reduceHash (Builtin.Tuple.tupleHashOf (NestedKey.hashes w ks))=_
  rw [Jc2 w ks h];rfl
 | .none,h=>by cases h
 | .text _,h=>by cases h
theorem Jc2 (w:World):∀ks:List NestedKey,J50 ks=true→NestedKey.hashes w ks=Jcw ks
 | [],_=>rfl
 | k::ks,h=>by
  have h': (numK k && J50 ks)=true:=h
  rw [Zb] at h'
  show k.hash w::NestedKey.hashes w ks=_
  rw [J9b w k h'.1,Jc2 w ks h'.2];rfl
end
mutual
noncomputable def kN:NestedKey→D
 | .none=> .non
 | .num i=> .int i
 | .text x=> .str x
 | .tup ks=> .tup (kNs ks)
noncomputable def kNs:List NestedKey→List D
 | []=> []
 | k::ks=>kN k::kNs ks
end
noncomputable def J2d (k:NestedKey):Prop:=numK k=true∧k.depth≤8
noncomputable abbrev NE:=NestedKey × Addr × V
noncomputable def J6u (x:NestedKey × Addr × Value):DictEntry:=⟨Ja1 x.1,.ref x.2.1,x.2.2⟩
noncomputable def NP:List NE→List (NestedKey × Addr × Value)→Prop:=Paired fun p q=>p.1=q.1∧p.2.1=q.2.1∧RelV p.2.2 q.2.2
noncomputable def DNo (a:Addr) (es:List NE):HO:= .ext fun h=>es.length≤sizeLine∧(a == sysModules)=false∧∃xs,NP es xs∧∃o ea ep,h.get? a=some o∧o.ExactDict∧o.data= .dict ea ep∧ea.toList=xs.map J6u∧(xs.map (·.1)).Nodup
noncomputable def J2n (a:Addr) (ks:List D) (us vs:List V) (o:HO):Prop:=
 (∃kvs:List (Key × V),o= .dK kvs∧kvs.map (fun p=>kD p.1)=ks∧kvs.map (fun p=>kV p.1)=us∧kvs.map (·.2)=vs)∨
 (∃es:List NE,o=DNo a es∧es.map (fun p=>kN p.1)=ks∧es.map (fun p=>V.ref p.2.1)=us∧es.map (·.2.2)=vs∧(∀e∈es,J2d e.1)∧es≠ [])
noncomputable abbrev J1o (ns:List Str) (vs:List V):List (Str × V):=ns.zip vs
mutual
noncomputable def R (K:Zf) (B H:Hp):D→Mode→V→List Addr→Prop
 | .non,_,v,fp=>v= .non∧fp= []
 | .bl b,_,v,fp=>v= .bl b∧fp= []
 | .int i,_,v,fp=>v= .int i∧fp= []
 | .str x,_,v,fp=>v= .str x∧fp= []
 | .lst ds,.F,v,fp=>fp= []∧∃a vs,v= .ref a∧SqL K B a vs∧ds.length≤sizeLine∧Rl K B H ds .F vs []
 | .lst ds,.O m,v,fp=>∃a vs fq,v= .ref a∧B a=none∧H a=some (.lst vs)∧ds.length≤sizeLine∧Rl K B H ds m vs fq∧fp=a::fq
 | .tup ds,.F,v,fp=>fp= []∧∃a vs,v= .ref a∧SqT K B a vs∧ds.length≤sizeLine∧Rl K B H ds .F vs []
 | .tup ds,.O m,v,fp=>∃a vs fq,v= .ref a∧B a=none∧H a=some (.tup vs)∧ds.length≤sizeLine∧Rl K B H ds m vs fq∧fp=a::fq
 | .dct ks ds,.F,v,fp=>fp= []∧∃a us vs o,v= .ref a∧B a=some o∧J2n a ks us vs o∧ds.length≤sizeLine∧Rl K B H ks .F us []∧Rl K B H ds .F vs []
 | .dct ks ds,.K m,v,fp=>∃a us vs o fq,v= .ref a∧B a=none∧H a=some o∧J2n a ks us vs o∧ds.length≤sizeLine∧Rl K B H ks .F us []∧Rl K B H ds m vs fq∧fp=a::fq
 | .obj c ns ds,.F,v,fp=>fp= []∧∃a dx vs,v= .ref a∧B a=some (.ins (He.ga K c) dx (J1o ns vs))∧ns.length=ds.length∧Rl K B H ds .F vs []
 | .obj c ns ds,.O m,v,fp=>∃a dx vs fq,v= .ref a∧B a=none∧B dx=none∧H a=some (.ins (He.ga K c) dx (J1o ns vs))∧H dx=some (.own a)∧ns.length=ds.length∧Rl K B H ds m vs fq∧fp=a::dx::fq
 | .obj c ns ds,.B n m r,v,fp=>∃a dx vs fq,v= .ref a∧B a=none∧B dx=none∧H a=some (.ins (He.ga K c) dx (J1o ns vs))∧H dx=some (.own a)∧ns.length=ds.length∧Rf K B H ns ds (.B n m r) vs fq∧fp=a::dx::fq
 | .obj c ns ds,.B0,v,fp=>∃a dx,ns= []∧ds= []∧v= .ref a∧B a=none∧B dx=none∧H a=some (.ins (He.ga K c) dx [])∧H dx=some (.own a)∧fp= [a,dx]
 | _,_,_,_=>False
noncomputable def Rl (K:Zf) (B H:Hp):List D→Mode→List V→List Addr→Prop
 | [],_,vs,fp=>vs= []∧fp= []
 | d::ds,m,vs,fp=>∃v r fp1 fp2,vs=v::r∧R K B H d m v fp1∧Rl K B H ds m r fp2∧fp=fp1++fp2
noncomputable def Rf (K:Zf) (B H:Hp):List Str→List D→Mode→List V→List Addr→Prop
 | [],[],m,vs,fp=>m= .B0∧vs= []∧fp= []
 | n::ns,d::ds,.B n' m r,vs,fp=>n=n'∧∃v vr fp1 fp2,vs=v::vr∧R K B H d m v fp1∧Rf K B H ns ds r vr fp2∧fp=fp1++fp2
 | _,_,_,_,_=>False
end
noncomputable def J7b (q:Str):HO:= .xd [(q,.non)]
structure Lies (K:Zf) (B H:Hp):Prop where
 at_:∀a o,B a=some o→H a=some o∨∃q,o=J7b q∧LamX.TabS H a q
 tags:∀p∈tabsOf K,B p.1=some (J7b p.2)
 tabs:∀p∈tabsOf K,LamX.TabS H p.1 p.2
noncomputable def J8p (o:HO):Prop:=∀q,o≠J7b q
noncomputable def J2g (H:Hp) (a:Addr):Prop:=∀o,H a=some o→(∀ps,o≠ .tbl ps)∧∀c q,o≠LamX.CodeO c q
section
variable {K:Zf} {B B' H H':Hp} {a:Addr} {o:HO} {q:Str} {xs:List V}
theorem Lies.get (l:Lies K B H) (e:B a=some o) (n:J8p o:=by intro q h;cases h):H a=some o:=(l.at_ a o e).elim id fun ⟨q,z,_⟩=>absurd z (n q)
theorem Jfp (t:LamX.TabS H a q):H a≠none:=by
 obtain ⟨ps,h,_⟩:=t
 rw [h];simp
theorem Lies.free (l:Lies K B H) (e:H a=none):B a=none:=by
 cases h:B a with
 | none=>rfl
 | some o=>
  rcases l.at_ a o h with z | ⟨q,_,z⟩
  ·rw [e] at z;cases z
  ·exact absurd e (Jfp z)
theorem J4b (t:LamX.TabS H a q) (h:∀b o,H b=some o→(∃ps,o= .tbl ps)∨(∃c q,o=LamX.CodeO c q)→H' b=some o):LamX.TabS H' a q:=by
 obtain ⟨ps,h1,h2,h3⟩:=t
 exact ⟨ps,h a _ h1 (.inl ⟨ps,rfl⟩),h2,fun pos cv e=>(h3 pos cv e).imp fun c ⟨z,b⟩=>⟨z,h c _ b (.inr ⟨c,q,rfl⟩)⟩⟩
theorem Lies.ext (l:Lies K B H) (k:∀a o,H a=some o→H' a=some o):Lies K B H':=⟨fun a o e=>(l.at_ a o e).imp (k a o) fun ⟨q,z,t⟩=>⟨q,z,J4b t fun b o e _=>k b o e⟩,l.tags,fun p hp=>J4b (l.tabs p hp) fun b o e _=>k b o e⟩
theorem Jc3 (nt:J2g H a):∀b u,H b=some u→(∃ps,u= .tbl ps)∨(∃c q,u=LamX.CodeO c q)→upd H a o b=some u:=fun b u e w=>by
 have nb:b≠a:=fun z=>by
  rw [z] at e
  rcases w with ⟨ps,w⟩ | ⟨c,q,w⟩
  ·exact (nt u e).1 ps w
  ·exact (nt u e).2 c q w
 rw [upd_ne nb];exact e
theorem Lies.put (l:Lies K B H) (b0:B a=none) (nt:J2g H a):Lies K B (upd H a o):=⟨fun c u e=>by
 have n:c≠a:=fun z=>by rw [z,b0] at e;cases e
 exact (l.at_ c u e).imp (fun z=>by rw [upd_ne n];exact z) fun ⟨q,z,t⟩=>⟨q,z,J4b t (Jc3 nt)⟩,l.tags,fun p hp=>J4b (l.tabs p hp) (Jc3 nt)⟩
theorem J2g.none (h:H a=none):J2g H a:=fun o e=>by rw [h] at e;cases e
theorem J2g.lst {vs:List V} (h:H a=some (.lst vs)):J2g H a:=fun o e=>by rw [h] at e;cases e;exact ⟨(fun ps z=>by cases z),(fun c q z=>by cases z)⟩
theorem J2g.ins {C dx:Addr} {fs:List (Str × V)} (h:H a=some (.ins C dx fs)):J2g H a:=fun o e=>by rw [h] at e;cases e;exact ⟨(fun ps z=>by cases z),(fun c q z=>by cases z)⟩
theorem J2g.xd {fs:List (Str × V)} (h:H a=some (.xd fs)):J2g H a:=fun o e=>by rw [h] at e;cases e;exact ⟨(fun ps z=>by cases z),(fun c q z=>by cases z)⟩
theorem Jhf (n:Nat) (vs:Array Value):∃h:Heap,∀a,a≤n→h.get? a=some ({ cls:= .type "code",data:= .fields vs}:Obj):=by
 refine ⟨⟨Array.replicate (n + 1) { cls:= .type "code",data:= .fields vs},{}⟩,fun a ha=>?_⟩
 unfold Heap.get?
 have e: (Array.replicate (n + 1) ({ cls:= .type "code",data:= .fields vs}:Obj))[a]? =some { cls:= .type "code",data:= .fields vs}:=by
  rw [Array.getElem?_replicate,if_pos (by omega)]
 show (match (Array.replicate (n + 1) ({ cls:= .type "code",data:= .fields vs}:Obj))[a]? with
  | some ⟨_,_,.freed,_⟩=>none
  | o=>o)=_
 rw [e]
theorem Jjr {b c:Addr} {es:List NE} {q:Str}:DNo b es≠LamX.CodeO c q:=fun z=>by
 unfold DNo LamX.CodeO at z
 obtain ⟨h2,hh⟩:=Jhf (b + c) #[.none,.str q 0]
 have e:=congrFun (HO.ext.inj z) h2
 have t:∃ (oc:Obj) (vs:Array Value) (t:Tok),h2.get? c=some oc∧oc.data= .fields vs∧vs[1]? =some (.str q t):=⟨_,_,_,hh c (Nat.le_add_left _ _),rfl,rfl⟩
 rw [← e] at t
 obtain ⟨_,_,xs,_,o,ea,ep,g,_,d,_⟩:=t
 rw [hh b (Nat.le_add_right _ _)] at g
 cases g
 cases d
theorem J2g.dct {ks:List D} {us vs:List V} (h:H a=some o) (d:J2n a ks us vs o):J2g H a:=fun o' e=>by
 rw [h] at e;cases e
 rcases d with ⟨kvs,rfl,_⟩ | ⟨es,rfl,_⟩
 ·exact ⟨(fun ps z=>by cases z),(fun c q z=>by cases z)⟩
 ·exact ⟨(fun ps z=>by cases z),fun c q z=>Jjr z⟩
theorem Lies.both (l:Lies K B H) (hp:H a=Option.none):Lies K (upd B a o) (upd H a o):=by
 have bp:=l.free hp
 refine ⟨fun c u e=>?_,fun p h=>?_,(l.put bp (J2g.none hp)).tabs⟩
 ·by_cases z:c=a
  ·subst z;rw [upd_same] at e ⊢;exact .inl e
  ·rw [upd_ne z] at e
   exact (l.put bp (J2g.none hp)).at_ c u e
 ·have:=l.tags p h
  rw [upd_ne (fun z=>by rw [z,bp] at this;cases this)];exact this
theorem Lies.sqL (l:Lies K B H) (x:SqL K B a xs):SqL K H a xs:=by
 rcases x with (h | ⟨o,h⟩) | h
 ·exact .inl (.inl (l.get h))
 ·exact .inl (.inr ⟨o,l.get h⟩)
 ·exact .inr h
theorem Lies.sqT (l:Lies K B H) (x:SqT K B a xs):SqT K H a xs:=by
 rcases x with (h | ⟨o,h⟩) | h
 ·exact .inl (.inl (l.get h))
 ·exact .inl (.inr ⟨o,l.get h⟩)
 ·exact .inr h
theorem Jc4 {ks:List D} {us vs:List V} (h:J2n a ks us vs o):J8p o:=fun q z=>by
 rcases h with ⟨kvs,e,_⟩ | ⟨es,e,_⟩
 ·rw [e] at z;cases z
 ·rw [e] at z;cases z
end
section
variable {K:Zf} {B H B' H':Hp}
theorem _root_.L2.Same.sqL {a:Addr} {xs:List V} (h:Same B B') (x:SqL K B a xs):SqL K B' a xs:=Same.seq h x
theorem _root_.L2.Same.sqT {a:Addr} {xs:List V} (e:Same B B') (h:SqT K B a xs):SqT K B' a xs:=by
 rcases h with (h | ⟨o,h⟩) | h
 ·exact .inl (.inl (e _ _ h))
 ·exact .inl (.inr ⟨o,e _ _ h⟩)
 ·exact .inr h
noncomputable def Kept (B' H H':Hp) (fp:List Addr):Prop:=∀a∈fp,(∀o,H a=some o→H' a=some o)∧B' a=none
theorem Kept.left {a b:List Addr} (k:Kept B' H H' (a++b)):Kept B' H H' a:=fun x h=>k x (Zl _ h)
theorem Kept.right {a b:List Addr} (k:Kept B' H H' (a++b)):Kept B' H H' b:=fun x h=>k x (Zr _ h)
theorem Kept.tail {a:Addr} {b:List Addr} (k:Kept B' H H' (a::b)):Kept B' H H' b:=fun x h=>k x (Zc _ h)
theorem Kept.head {a:Addr} {b:List Addr} (k:Kept B' H H' (a::b)): (∀o,H a=some o→H' a=some o)∧B' a=none:=k a Zs
theorem Kept.nil:Kept B' H H' []:=fun _ h=>nomatch h
mutual
theorem R.mono (hB:Same B B'):∀ (d:D) {m:Mode} {v:V} {fp:List Addr},R K B H d m v fp→Kept B' H H' fp→R K B' H' d m v fp
 | .non,m,v,fp,h,k=>h
 | .bl b,m,v,fp,h,k=>h
 | .int i,m,v,fp,h,k=>h
 | .str x,m,v,fp,h,k=>h
 | .lst ds,m,v,fp,h,k=>by
  cases m with
  | F=>
   obtain ⟨e,a,vs,rfl,hs,hl,hr⟩:=h
   exact ⟨e,a,vs,rfl,(hB).sqL hs,hl,Rl.mono hB ds hr Kept.nil⟩
  | O m=>
   obtain ⟨a,vs,fq,rfl,b0,ha,hl,hr,rfl⟩:=h
   exact ⟨a,vs,fq,rfl,k.head.2,k.head.1 _ ha,hl,Rl.mono hB ds hr k.tail,rfl⟩
  | _=>exact h.elim
 | .tup ds,m,v,fp,h,k=>by
  cases m with
  | F=>
   obtain ⟨e,a,vs,rfl,hs,hl,hr⟩:=h
   exact ⟨e,a,vs,rfl,(hB).sqT hs,hl,Rl.mono hB ds hr Kept.nil⟩
  | O m=>
   obtain ⟨a,vs,fq,rfl,b0,ha,hl,hr,rfl⟩:=h
   exact ⟨a,vs,fq,rfl,k.head.2,k.head.1 _ ha,hl,Rl.mono hB ds hr k.tail,rfl⟩
  | _=>exact h.elim
 | .dct ks ds,m,v,fp,h,k=>by
  cases m with
  | F=>
   obtain ⟨e,a,us,vs,o,rfl,hs,hd,hl,hk,hr⟩:=h
   exact ⟨e,a,us,vs,o,rfl,hB _ _ hs,hd,hl,Rl.mono hB ks hk Kept.nil,Rl.mono hB ds hr Kept.nil⟩
  | K m=>
   obtain ⟨a,us,vs,o,fq,rfl,b0,ha,hd,hl,hk,hr,rfl⟩:=h
   exact ⟨a,us,vs,o,fq,rfl,k.head.2,k.head.1 _ ha,hd,hl,Rl.mono hB ks hk Kept.nil,Rl.mono hB ds hr k.tail,rfl⟩
  | _=>exact h.elim
 | .obj c ns ds,m,v,fp,h,k=>by
  cases m with
  | F=>
   obtain ⟨e,a,dx,vs,rfl,hs,hl,hr⟩:=h
   exact ⟨e,a,dx,vs,rfl,hB _ _ hs,hl,Rl.mono hB ds hr Kept.nil⟩
  | O m=>
   obtain ⟨a,dx,vs,fq,rfl,b0,b1,ha,hx,hl,hr,rfl⟩:=h
   exact ⟨a,dx,vs,fq,rfl,k.head.2,k.tail.head.2,k.head.1 _ ha,k.tail.head.1 _ hx,hl,Rl.mono hB ds hr k.tail.tail,rfl⟩
  | B n m r=>
   obtain ⟨a,dx,vs,fq,rfl,b0,b1,ha,hx,hl,hr,rfl⟩:=h
   exact ⟨a,dx,vs,fq,rfl,k.head.2,k.tail.head.2,k.head.1 _ ha,k.tail.head.1 _ hx,hl,Rf.mono hB ns ds hr k.tail.tail,rfl⟩
  | B0=>
   obtain ⟨a,dx,e1,e2,rfl,b0,b1,ha,hx,rfl⟩:=h
   exact ⟨a,dx,e1,e2,rfl,k.head.2,k.tail.head.2,k.head.1 _ ha,k.tail.head.1 _ hx,rfl⟩
  | _=>exact h.elim
theorem Rl.mono (hB:Same B B'):∀ (ds:List D) {m:Mode} {vs:List V} {fp:List Addr},Rl K B H ds m vs fp→Kept B' H H' fp→Rl K B' H' ds m vs fp
 | [],m,vs,fp,h,k=>h
 | d::ds,m,vs,fp,h,k=>by
  obtain ⟨v,r,fp1,fp2,rfl,h1,h2,rfl⟩:=h
  exact ⟨v,r,fp1,fp2,rfl,R.mono hB d h1 k.left,Rl.mono hB ds h2 k.right,rfl⟩
theorem Rf.mono (hB:Same B B'):∀ (ns:List Str) (ds:List D) {m:Mode} {vs:List V} {fp:List Addr},Rf K B H ns ds m vs fp→Kept B' H H' fp→Rf K B' H' ns ds m vs fp
 | [],[],m,vs,fp,h,k=>h
 | n::ns,d::ds,m,vs,fp,h,k=>by
  cases m with
  | B n' m r=>
   obtain ⟨e,v,vr,fp1,fp2,rfl,h1,h2,rfl⟩:=h
   exact ⟨e,v,vr,fp1,fp2,rfl,R.mono hB d h1 k.left,Rf.mono hB ns ds h2 k.right,rfl⟩
  | _=>exact h.elim
 | [],_::_,m,vs,fp,h,k=>h.elim
 | _::_,[],m,vs,fp,h,k=>h.elim
end
mutual
theorem R.own:∀ (d:D) {m:Mode} {v:V} {fp:List Addr},R K B H d m v fp→∀a∈fp,B a=none∧∃o,H a=some o
 | .non,m,v,fp,h,a,ha=>by rw [h.2] at ha;cases ha
 | .bl b,m,v,fp,h,a,ha=>by rw [h.2] at ha;cases ha
 | .int i,m,v,fp,h,a,ha=>by rw [h.2] at ha;cases ha
 | .str x,m,v,fp,h,a,ha=>by rw [h.2] at ha;cases ha
 | .lst ds,m,v,fp,h,a,ha=>by
  cases m with
  | F=>rw [h.1] at ha;cases ha
  | O m=>
   obtain ⟨b,vs,fq,rfl,b0,hb,hl,hr,rfl⟩:=h
   rcases Zo.mp ha with rfl | ha
   ·exact ⟨b0,_,hb⟩
   ·exact Rl.own ds hr a ha
  | _=>exact h.elim
 | .tup ds,m,v,fp,h,a,ha=>by
  cases m with
  | F=>rw [h.1] at ha;cases ha
  | O m=>
   obtain ⟨b,vs,fq,rfl,b0,hb,hl,hr,rfl⟩:=h
   rcases Zo.mp ha with rfl | ha
   ·exact ⟨b0,_,hb⟩
   ·exact Rl.own ds hr a ha
  | _=>exact h.elim
 | .dct ks ds,m,v,fp,h,a,ha=>by
  cases m with
  | F=>rw [h.1] at ha;cases ha
  | K m=>
   obtain ⟨b,us,vs,o,fq,rfl,b0,hb,hd,hl,hk,hr,rfl⟩:=h
   rcases Zo.mp ha with rfl | ha
   ·exact ⟨b0,_,hb⟩
   ·exact Rl.own ds hr a ha
  | _=>exact h.elim
 | .obj c ns ds,m,v,fp,h,a,ha=>by
  cases m with
  | F=>rw [h.1] at ha;cases ha
  | O m=>
   obtain ⟨b,dx,vs,fq,rfl,b0,b1,hb,hx,hl,hr,rfl⟩:=h
   rcases Zo.mp ha with rfl | ha
   ·exact ⟨b0,_,hb⟩
   rcases Zo.mp ha with rfl | ha
   ·exact ⟨b1,_,hx⟩
   ·exact Rl.own ds hr a ha
  | B n m r=>
   obtain ⟨b,dx,vs,fq,rfl,b0,b1,hb,hx,hl,hr,rfl⟩:=h
   rcases Zo.mp ha with rfl | ha
   ·exact ⟨b0,_,hb⟩
   rcases Zo.mp ha with rfl | ha
   ·exact ⟨b1,_,hx⟩
   ·exact Rf.own ns ds hr a ha
  | B0=>
   obtain ⟨b,dx,e1,e2,rfl,b0,b1,hb,hx,rfl⟩:=h
   rcases Zo.mp ha with rfl | ha
   ·exact ⟨b0,_,hb⟩
   rcases Zo.mp ha with rfl | ha
   ·exact ⟨b1,_,hx⟩
   ·cases ha
  | _=>exact h.elim
theorem Rl.own:∀ (ds:List D) {m:Mode} {vs:List V} {fp:List Addr},Rl K B H ds m vs fp→∀a∈fp,B a=none∧∃o,H a=some o
 | [],m,vs,fp,h,a,ha=>by rw [h.2] at ha;cases ha
 | d::ds,m,vs,fp,h,a,ha=>by
  obtain ⟨v,r,fp1,fp2,rfl,h1,h2,rfl⟩:=h
  rcases Zp.mp ha with ha | ha
  ·exact R.own d h1 a ha
  ·exact Rl.own ds h2 a ha
theorem Rf.own:∀ (ns:List Str) (ds:List D) {m:Mode} {vs:List V} {fp:List Addr},Rf K B H ns ds m vs fp→∀a∈fp,B a=none∧∃o,H a=some o
 | [],[],m,vs,fp,h,a,ha=>by rw [h.2.2] at ha;cases ha
 | n::ns,d::ds,m,vs,fp,h,a,ha=>by
  cases m with
  | B n' m r=>
   obtain ⟨e,v,vr,fp1,fp2,rfl,h1,h2,rfl⟩:=h
   rcases Zp.mp ha with ha | ha
   ·exact R.own d h1 a ha
   ·exact Rf.own ns ds h2 a ha
  | _=>exact h.elim
 | [],_::_,m,vs,fp,h,a,ha=>h.elim
 | _::_,[],m,vs,fp,h,a,ha=>h.elim
end
noncomputable def Jb (B' H:Hp) (fp:List Addr):Prop:=∀a∈fp,∀o,H a=some o→J8p o→B' a=some o
theorem Jb.left {a b:List Addr} (k:Jb B' H (a++b)):Jb B' H a:=fun x h=>k x (Zl _ h)
theorem Jb.right {a b:List Addr} (k:Jb B' H (a++b)):Jb B' H b:=fun x h=>k x (Zr _ h)
theorem Jb.tail {a:Addr} {b:List Addr} (k:Jb B' H (a::b)):Jb B' H b:=fun x h=>k x (Zc _ h)
theorem Jb.head {a:Addr} {b:List Addr} (k:Jb B' H (a::b)):∀o,H a=some o→J8p o→B' a=some o:=k a Zs
theorem Jb.nil:Jb B' H []:=fun _ h=>nomatch h
mutual
theorem R.freeze (hB:Same B B'):∀ (d:D) {m:Mode} {v:V} {fp:List Addr},R K B H d m v fp→Jb B' H fp→R K B' H' d .F v []
 | .non,m,v,fp,h,k=>⟨h.1,rfl⟩
 | .bl b,m,v,fp,h,k=>⟨h.1,rfl⟩
 | .int i,m,v,fp,h,k=>⟨h.1,rfl⟩
 | .str x,m,v,fp,h,k=>⟨h.1,rfl⟩
 | .lst ds,m,v,fp,h,k=>by
  cases m with
  | F=>
   obtain ⟨e,a,vs,rfl,hs,hl,hr⟩:=h
   exact ⟨rfl,a,vs,rfl,(hB).sqL hs,hl,Rl.freeze hB ds hr Jb.nil⟩
  | O m=>
   obtain ⟨a,vs,fq,rfl,b0,ha,hl,hr,rfl⟩:=h
   exact ⟨rfl,a,vs,rfl,SqL.of (k.head _ ha (by intro q z;cases z)),hl,Rl.freeze hB ds hr k.tail⟩
  | _=>exact h.elim
 | .tup ds,m,v,fp,h,k=>by
  cases m with
  | F=>
   obtain ⟨e,a,vs,rfl,hs,hl,hr⟩:=h
   exact ⟨rfl,a,vs,rfl,(hB).sqT hs,hl,Rl.freeze hB ds hr Jb.nil⟩
  | O m=>
   obtain ⟨a,vs,fq,rfl,b0,ha,hl,hr,rfl⟩:=h
   exact ⟨rfl,a,vs,rfl,SqT.of (k.head _ ha (by intro q z;cases z)),hl,Rl.freeze hB ds hr k.tail⟩
  | _=>exact h.elim
 | .dct ks ds,m,v,fp,h,k=>by
  cases m with
  | F=>
   obtain ⟨e,a,us,vs,o,rfl,hs,hd,hl,hk,hr⟩:=h
   exact ⟨rfl,a,us,vs,o,rfl,hB _ _ hs,hd,hl,Rl.freeze hB ks hk Jb.nil,Rl.freeze hB ds hr Jb.nil⟩
  | K m=>
   obtain ⟨a,us,vs,o,fq,rfl,b0,ha,hd,hl,hk,hr,rfl⟩:=h
   exact ⟨rfl,a,us,vs,o,rfl,k.head _ ha (Jc4 hd),hd,hl,Rl.freeze hB ks hk Jb.nil,Rl.freeze hB ds hr k.tail⟩
  | _=>exact h.elim
 | .obj c ns ds,m,v,fp,h,k=>by
  cases m with
  | F=>
   obtain ⟨e,a,dx,vs,rfl,hs,hl,hr⟩:=h
   exact ⟨rfl,a,dx,vs,rfl,hB _ _ hs,hl,Rl.freeze hB ds hr Jb.nil⟩
  | O m=>
   obtain ⟨a,dx,vs,fq,rfl,b0,b1,ha,hx,hl,hr,rfl⟩:=h
   exact ⟨rfl,a,dx,vs,rfl,k.head _ ha (by intro q z;cases z),hl,Rl.freeze hB ds hr k.tail.tail⟩
  | B n m r=>
   obtain ⟨a,dx,vs,fq,rfl,b0,b1,ha,hx,hl,hr,rfl⟩:=h
   exact ⟨rfl,a,dx,vs,rfl,k.head _ ha (by intro q z;cases z),hl,Rf.freeze hB ns ds hr k.tail.tail⟩
  | B0=>
   obtain ⟨a,dx,rfl,rfl,rfl,b0,b1,ha,hx,rfl⟩:=h
   exact ⟨rfl,a,dx,[],rfl,k.head _ ha (by intro q z;cases z),rfl,⟨rfl,rfl⟩⟩
  | _=>exact h.elim
theorem Rl.freeze (hB:Same B B'):∀ (ds:List D) {m:Mode} {vs:List V} {fp:List Addr},Rl K B H ds m vs fp→Jb B' H fp→Rl K B' H' ds .F vs []
 | [],m,vs,fp,h,k=>⟨h.1,rfl⟩
 | d::ds,m,vs,fp,h,k=>by
  obtain ⟨v,r,fp1,fp2,rfl,h1,h2,rfl⟩:=h
  exact ⟨v,r,[],[],rfl,R.freeze hB d h1 k.left,Rl.freeze hB ds h2 k.right,rfl⟩
theorem Rf.freeze (hB:Same B B'):∀ (ns:List Str) (ds:List D) {m:Mode} {vs:List V} {fp:List Addr},Rf K B H ns ds m vs fp→Jb B' H fp→Rl K B' H' ds .F vs []
 | [],[],m,vs,fp,h,k=>⟨h.2.1,rfl⟩
 | n::ns,d::ds,m,vs,fp,h,k=>by
  cases m with
  | B n' m r=>
   obtain ⟨e,v,vr,fp1,fp2,rfl,h1,h2,rfl⟩:=h
   exact ⟨v,vr,[],[],rfl,R.freeze hB d h1 k.left,Rf.freeze hB ns ds h2 k.right,rfl⟩
  | _=>exact h.elim
 | [],_::_,m,vs,fp,h,k=>h.elim
 | _::_,[],m,vs,fp,h,k=>h.elim
end
noncomputable def closed:Mode→Bool
 | .Z=>true
 | .O m=>closed m
 | .B _ m r=>closed m && closed r
 | .B0=>true
 | _=>false
mutual
theorem R.rebase:∀ (d:D) {m:Mode} {v:V} {fp:List Addr},closed m=true→R K B H d m v fp→Kept B' H H' fp→R K B' H' d m v fp
 | .non,m,v,fp,c,h,k=>h
 | .bl b,m,v,fp,c,h,k=>h
 | .int i,m,v,fp,c,h,k=>h
 | .str x,m,v,fp,c,h,k=>h
 | .lst ds,m,v,fp,c,h,k=>by
  cases m with
  | O m=>
   obtain ⟨a,vs,fq,rfl,b0,ha,hl,hr,rfl⟩:=h
   exact ⟨a,vs,fq,rfl,k.head.2,k.head.1 _ ha,hl,Rl.rebase ds c hr k.tail,rfl⟩
  | F=>cases c
  | _=>exact h.elim
 | .tup ds,m,v,fp,c,h,k=>by
  cases m with
  | O m=>
   obtain ⟨a,vs,fq,rfl,b0,ha,hl,hr,rfl⟩:=h
   exact ⟨a,vs,fq,rfl,k.head.2,k.head.1 _ ha,hl,Rl.rebase ds c hr k.tail,rfl⟩
  | F=>cases c
  | _=>exact h.elim
 | .dct ks ds,m,v,fp,c,h,k=>by
  cases m with
  | K m=>cases c
  | F=>cases c
  | _=>exact h.elim
 | .obj c0 ns ds,m,v,fp,c,h,k=>by
  cases m with
  | O m=>
   obtain ⟨a,dx,vs,fq,rfl,b0,b1,ha,hx,hl,hr,rfl⟩:=h
   exact ⟨a,dx,vs,fq,rfl,k.head.2,k.tail.head.2,k.head.1 _ ha,k.tail.head.1 _ hx,hl,Rl.rebase ds c hr k.tail.tail,rfl⟩
  | B n m r=>
   obtain ⟨a,dx,vs,fq,rfl,b0,b1,ha,hx,hl,hr,rfl⟩:=h
   exact ⟨a,dx,vs,fq,rfl,k.head.2,k.tail.head.2,k.head.1 _ ha,k.tail.head.1 _ hx,hl,Rf.rebase ns ds c hr k.tail.tail,rfl⟩
  | B0=>
   obtain ⟨a,dx,e1,e2,rfl,b0,b1,ha,hx,rfl⟩:=h
   exact ⟨a,dx,e1,e2,rfl,k.head.2,k.tail.head.2,k.head.1 _ ha,k.tail.head.1 _ hx,rfl⟩
  | F=>cases c
  | _=>exact h.elim
theorem Rl.rebase:∀ (ds:List D) {m:Mode} {vs:List V} {fp:List Addr},closed m=true→Rl K B H ds m vs fp→Kept B' H H' fp→Rl K B' H' ds m vs fp
 | [],m,vs,fp,c,h,k=>h
 | d::ds,m,vs,fp,c,h,k=>by
  obtain ⟨v,r,fp1,fp2,rfl,h1,h2,rfl⟩:=h
  exact ⟨v,r,fp1,fp2,rfl,R.rebase d c h1 k.left,Rl.rebase ds c h2 k.right,rfl⟩
theorem Rf.rebase:∀ (ns:List Str) (ds:List D) {m:Mode} {vs:List V} {fp:List Addr},closed m=true→Rf K B H ns ds m vs fp→Kept B' H H' fp→Rf K B' H' ns ds m vs fp
 | [],[],m,vs,fp,c,h,k=>h
 | n::ns,d::ds,m,vs,fp,c,h,k=>by
  cases m with
  | B n' m r=>
   obtain ⟨e,v,vr,fp1,fp2,rfl,h1,h2,rfl⟩:=h
   have c': (closed m && closed r)=true:=c
   rw [Zb] at c'
   exact ⟨e,v,vr,fp1,fp2,rfl,R.rebase d c'.1 h1 k.left,Rf.rebase ns ds c'.2 h2 k.right,rfl⟩
  | _=>exact h.elim
 | [],_::_,m,vs,fp,c,h,k=>h.elim
 | _::_,[],m,vs,fp,c,h,k=>h.elim
end
noncomputable def sub:Mode→Mode→Bool
 | .Z,.F=>true
 | .Z,.Z=>true
 | .Z,.O _=>true
 | .Z,.B _ _ _=>true
 | .Z,.B0=>true
 | .F,.F=>true
 | .O m,.O m'=>sub m m'
 | .K m,.K m'=>sub m m'
 | .Z,.K _=>true
 | .B n m r,.B n' m' r'=>decide (n=n') && (sub m m' && sub r r')
 | .B0,.B0=>true
 | _,_=>false
mutual
theorem R.sub:∀ (d:D) {m m':Mode} {v:V} {fp:List Addr},EV.sub m m'=true→R K B H d m v fp→R K B H d m' v fp
 | .non,m,m',v,fp,c,h=>h
 | .bl b,m,m',v,fp,c,h=>h
 | .int i,m,m',v,fp,c,h=>h
 | .str x,m,m',v,fp,c,h=>h
 | .lst ds,m,m',v,fp,c,h=>by
  cases m with
  | O m=>
   cases m' with
   | O m'=>
    obtain ⟨a,vs,fq,rfl,b0,ha,hl,hr,rfl⟩:=h
    exact ⟨a,vs,fq,rfl,b0,ha,hl,Rl.sub ds c hr,rfl⟩
   | _=>cases c
  | F=>
   cases m' with
   | F=>exact h
   | _=>cases c
  | _=>exact h.elim
 | .tup ds,m,m',v,fp,c,h=>by
  cases m with
  | O m=>
   cases m' with
   | O m'=>
    obtain ⟨a,vs,fq,rfl,b0,ha,hl,hr,rfl⟩:=h
    exact ⟨a,vs,fq,rfl,b0,ha,hl,Rl.sub ds c hr,rfl⟩
   | _=>cases c
  | F=>
   cases m' with
   | F=>exact h
   | _=>cases c
  | _=>exact h.elim
 | .dct ks ds,m,m',v,fp,c,h=>by
  cases m with
  | K m=>
   cases m' with
   | K m'=>
    obtain ⟨a,us,vs,o,fq,rfl,b0,ha,hd,hl,hk,hr,rfl⟩:=h
    exact ⟨a,us,vs,o,fq,rfl,b0,ha,hd,hl,hk,Rl.sub ds c hr,rfl⟩
   | _=>cases c
  | F=>
   cases m' with
   | F=>exact h
   | _=>cases c
  | _=>exact h.elim
 | .obj c0 ns ds,m,m',v,fp,c,h=>by
  cases m with
  | O m=>
   cases m' with
   | O m'=>
    obtain ⟨a,dx,vs,fq,rfl,b0,b1,ha,hx,hl,hr,rfl⟩:=h
    exact ⟨a,dx,vs,fq,rfl,b0,b1,ha,hx,hl,Rl.sub ds c hr,rfl⟩
   | _=>cases c
  | F=>
   cases m' with
   | F=>exact h
   | _=>cases c
  | B n m r=>
   cases m' with
   | B n' m' r'=>
    obtain ⟨a,dx,vs,fq,rfl,b0,b1,ha,hx,hl,hr,rfl⟩:=h
    exact ⟨a,dx,vs,fq,rfl,b0,b1,ha,hx,hl,Rf.sub ns ds c hr,rfl⟩
   | _=>cases c
  | B0=>
   cases m' with
   | B0=>exact h
   | _=>cases c
  | _=>exact h.elim
theorem Rl.sub:∀ (ds:List D) {m m':Mode} {vs:List V} {fp:List Addr},EV.sub m m'=true→Rl K B H ds m vs fp→Rl K B H ds m' vs fp
 | [],m,m',vs,fp,c,h=>h
 | d::ds,m,m',vs,fp,c,h=>by
  obtain ⟨v,r,fp1,fp2,rfl,h1,h2,rfl⟩:=h
  exact ⟨v,r,fp1,fp2,rfl,R.sub d c h1,Rl.sub ds c h2,rfl⟩
theorem Rf.sub:∀ (ns:List Str) (ds:List D) {m m':Mode} {vs:List V} {fp:List Addr},EV.sub m m'=true→Rf K B H ns ds m vs fp→Rf K B H ns ds m' vs fp
 | [],[],m,m',vs,fp,c,h=>by
  obtain ⟨rfl,h⟩:=h
  cases m' with
  | B0=>exact ⟨rfl,h⟩
  | _=>cases c
 | n::ns,d::ds,m,m',vs,fp,c,h=>by
  cases m with
  | B n1 m1 r1=>
   cases m' with
   | B n2 m2 r2=>
    obtain ⟨e,v,vr,fp1,fp2,rfl,h1,h2,rfl⟩:=h
    have c': (decide (n1=n2) && (EV.sub m1 m2 && EV.sub r1 r2))=true:=c
    rw [Zb,Zb] at c'
    exact ⟨e.trans (Zd c'.1),v,vr,fp1,fp2,rfl,R.sub d c'.2.1 h1,Rf.sub ns ds c'.2.2 h2,rfl⟩
   | _=>cases c
  | _=>exact h.elim
 | [],_::_,m,m',vs,fp,c,h=>h.elim
 | _::_,[],m,m',vs,fp,c,h=>h.elim
end
theorem Rl.len:∀{ds:List D} {m:Mode} {vs:List V} {fp:List Addr},Rl K B H ds m vs fp→vs.length=ds.length
 | [],m,vs,fp,h=>by rw [h.1];rfl
 | d::ds,m,vs,fp,h=>by
  obtain ⟨v,r,fp1,fp2,rfl,h1,h2,rfl⟩:=h
  rw [List.length_cons,List.length_cons,Rl.len h2]
end
noncomputable abbrev Gam:=List (Option D)
structure Xc where
 c:Str
 ns:List Str
 ds:List D
inductive Rz (α:Type) where
 | ok (a:α) (Γ:Gam) | exc (x:Xc) (Γ:Gam) | bad
noncomputable def Rz.bind {α β:Type} (r:Rz α) (f:α→Gam→Rz β):Rz β:=match r with
 | .ok a Γ=>f a Γ
 | .exc x Γ=> .exc x Γ
 | .bad=> .bad
noncomputable def Rz.opt {α:Type} (o:Option α) (Γ:Gam):Rz α:=match o with
 | some a=> .ok a Γ
 | none=> .bad
structure Stp (B H:Hp) (fp:List Addr) (B' H':Hp) (fp':List Addr):Prop where
 base:Same B B'
 keep:∀a o,a∉fp→H a=some o→H' a=some o∨(B a≠none∧H' a≠none)
 own:∀a∈fp',a∈fp∨H a=none
 new:∀a o,B' a=some o→B a=some o∨a∈fp∨H a=none
theorem Stp.refl (B H:Hp) (fp:List Addr):Stp B H fp B H fp:=⟨Same.refl B,fun _ _ _ h=> .inl h,fun _ h=> .inl h,fun _ _ h=> .inl h⟩
theorem Stp.there {B H B1 H1:Hp} {fp fp1:List Addr} (x:Stp B H fp B1 H1 fp1) {a:Addr} {o:HO} (n:a∉fp) (e:H a=some o):∃o',H1 a=some o':=by
 rcases x.keep a o n e with z | ⟨_,z⟩
 ·exact ⟨o,z⟩
 ·cases h:H1 a with
  | none=>exact absurd h z
  | some o'=>exact ⟨o',rfl⟩
theorem Stp.keepB {B H B1 H1:Hp} {fp fp1:List Addr} (x:Stp B H fp B1 H1 fp1) {a:Addr} {o:HO} (n:a∉fp) (e:H a=some o) (b:B a=none):H1 a=some o:=(x.keep a o n e).resolve_right fun z=>z.1 b
theorem Jcx {B H0:Hp} {a p:Addr} {o x:HO} (h:H0 a=some o∨(B a≠none∧H0 a≠none)) (n:a≠p):upd H0 p x a=some o∨(B a≠none∧upd H0 p x a≠none):=by rw [upd_ne n];exact h
theorem Jcy {B H0:Hp} {a p:Addr} {o x:HO} (h:H0 a=some o∨(B a≠none∧H0 a≠none)) (hp:H0 p=none):upd H0 p x a=some o∨(B a≠none∧upd H0 p x a≠none):=Jcx h fun z=>by
 rw [z,hp] at h
 rcases h with h | h
 ·cases h
 ·exact h.2 rfl
theorem Stp.trans {B H B1 H1 B2 H2:Hp} {fp fp1 fp2:List Addr} (x:Stp B H fp B1 H1 fp1) (y:Stp B1 H1 fp1 B2 H2 fp2):Stp B H fp B2 H2 fp2:=by
 have k:∀a o,a∉fp→H a=some o→a∉fp1:=fun a o n e h=>by
  rcases x.own a h with q | q
  ·exact n q
  ·rw [e] at q;cases q
 have two:∀a o,a∉fp→H a=some o→∃o2,H2 a=some o2:=fun a o n e=>by
  obtain ⟨o1,e1⟩:=x.there n e
  exact y.there (k a o n e) e1
 refine ⟨x.base.trans y.base,fun a o n e=>?_,fun a h=>?_,fun a o h=>?_⟩
 ·have t2:H2 a≠none:=by
   obtain ⟨o2,e2⟩:=two a o n e
   rw [e2];simp
  rcases x.keep a o n e with e1 | ⟨b,_⟩
  ·rcases y.keep a o (k a o n e) e1 with e2 | ⟨b1,_⟩
   ·exact .inl e2
   ·refine .inr ⟨fun b=>b1 ?_,t2⟩
    cases h:B1 a with
    | none=>rfl
    | some u=>
     rcases x.new a u h with z | z | z
     ·rw [b] at z;cases z
     ·exact absurd z n
     ·rw [e] at z;cases z
  ·exact .inr ⟨b,t2⟩
 ·rcases y.own a h with q | q
  ·exact x.own a q
  ·by_cases n:a∈fp
   ·exact .inl n
   ·cases e:H a with
    | none=>exact .inr rfl
    | some o=>
     obtain ⟨o1,e1⟩:=x.there n e
     rw [e1] at q;cases q
 ·rcases y.new a o h with q | q | q
  ·exact x.new a o q
  ·exact (x.own a q).elim (fun z=> .inr (.inl z)) fun z=> .inr (.inr z)
  ·by_cases n:a∈fp
   ·exact .inr (.inl n)
   ·cases e:H a with
    | none=>exact .inr (.inr rfl)
    | some o=>
     obtain ⟨o1,e1⟩:=x.there n e
     rw [e1] at q;cases q
theorem Stp.frame {B H B1 H1:Hp} {fp fp1:List Addr} (x:Stp B H fp B1 H1 fp1) (l:List Addr):Stp B H (l++fp) B1 H1 (l++fp1):=
 ⟨x.base,fun a o n=>x.keep a o fun h=>n (Zr _ h),fun a h=>(Zp.mp h).elim (fun q=> .inl (Zl _ q)) fun q=>(x.own a q).elim (fun z=> .inl (Zr _ z)) .inr,
  fun a o h=>(x.new a o h).elim .inl fun q=>q.elim (fun z=> .inr (.inl (Zr _ z))) fun z=> .inr (.inr z)⟩
theorem Stp.less {B H B1 H1:Hp} {fp fp1 fp2:List Addr} (x:Stp B H fp B1 H1 fp1) (h:∀a∈fp2,a∈fp1):Stp B H fp B1 H1 fp2:=
 ⟨x.base,x.keep,fun a q=>x.own a (h a q),x.new⟩
theorem Stp.more {B H B1 H1:Hp} {fp fp1 fp2:List Addr} (x:Stp B H fp B1 H1 fp1) (h:∀a∈fp,a∈fp2):Stp B H fp2 B1 H1 fp1:=
 ⟨x.base,fun a o n=>x.keep a o fun q=>n (h a q),fun a q=>(x.own a q).imp (h a) id,fun a o q=>(x.new a o q).imp id fun z=>z.imp (h a) id⟩
theorem Stp.seq {B H B1 H1 B2 H2:Hp} {fp l fp1 fp2:List Addr} (x:Stp B H fp B1 H1 (l++fp1)) (y:Stp B1 H1 fp1 B2 H2 fp2):Stp B H fp B2 H2 (l++fp2):=x.trans (y.frame l)
theorem Stp.kept {K:Zf} {B H B1 H1:Hp} {fp fp1 l:List Addr} (x:Stp B H fp B1 H1 fp1) (ho:∀a∈l,B a=none∧∃o,H a=some o) (hd:∀a∈l,a∉fp):Kept B1 H H1 l:=fun a h=>by
 obtain ⟨b0,o,e⟩:=ho a h
 refine ⟨fun o' e'=>x.keepB (hd a h) e' b0,?_⟩
 cases q:B1 a with
 | none=>rfl
 | some o'=>
  rcases x.new a o' q with z | z | z
  ·rw [b0] at z;cases z
  ·exact absurd z (hd a h)
  ·rw [e] at z;cases z
theorem Stp.apart {B H B1 H1:Hp} {fp fp1 l:List Addr} (x:Stp B H fp B1 H1 fp1) (ho:∀a∈l,∃o,H a=some o) (hd:∀a∈l,a∉fp):∀a∈l,a∉fp1:=fun a h q=>by
 rcases x.own a q with z | z
 ·exact hd a h z
 ·obtain ⟨o,e⟩:=ho a h
  rw [e] at z;cases z
theorem J0 {a b:List Addr}: (a++b).Nodup↔a.Nodup∧b.Nodup∧∀x∈a,x∉b:=by
 rw [List.nodup_append]
 constructor
 ·rintro ⟨h1,h2,h3⟩
  exact ⟨h1,h2,fun x hx hb=>h3 x hx x hb rfl⟩
 ·rintro ⟨h1,h2,h3⟩
  exact ⟨h1,h2,fun x hx y hy e=>h3 x hx (e ▸ hy)⟩
structure Lv where
 a:Addr
 c:Addr
 q:Str
 caps:List ((Addr ⊕ Int) × D)
noncomputable def capV:Addr ⊕ Int→V
 | .inl a=> .ref a
 | .inr i=> .int i
noncomputable def J7c: (Addr ⊕ Int) × D→D
 | (.inl a,d)=> .tup [.int a,d]
 | (.inr i,d)=> .lst [.int i,d]
noncomputable def Lv.d (L:Lv):D:= .obj L.q [] (.int L.a:: .int L.c::L.caps.map J7c)
theorem Jcz:∀{l l':List ((Addr ⊕ Int) × D)},l.map J7c=l'.map J7c→l=l'
 | [],[],_=>rfl
 | [],_::_,h=>by cases h
 | _::_,[],h=>by cases h
 | (p,d)::l,(p',d')::l',h=>by
  obtain ⟨h1,h2⟩:=List.cons.inj (show J7c (p,d)::l.map J7c=J7c (p',d')::l'.map J7c from h)
  have e: (p,d)= (p',d'):=by
   cases p <;> cases p'
   ·have:=(List.cons.inj (D.tup.inj h1));have e1:=Int.ofNat.inj (D.int.inj this.1);have e2:=(List.cons.inj this.2).1;rw [e1,e2]
   ·cases h1
   ·cases h1
   ·have:=(List.cons.inj (D.lst.inj h1));have e1:=D.int.inj this.1;have e2:=(List.cons.inj this.2).1;rw [e1,e2]
  rw [e,Jcz h2]
theorem Lv.d_inj {L L':Lv} (h:L.d=L'.d):L=L':=by
 obtain ⟨a,c,q,caps⟩:=L
 obtain ⟨a',c',q',caps'⟩:=L'
 have h':D.obj q [] (.int a:: .int c::caps.map J7c)=D.obj q' [] (.int a':: .int c'::caps'.map J7c):=h
 obtain ⟨e1,_,e2⟩:=D.obj.inj h'
 obtain ⟨e3,e4⟩:=List.cons.inj e2
 obtain ⟨e5,e6⟩:=List.cons.inj e4
 have e7:=Int.ofNat.inj (D.int.inj e3)
 have e8:=Int.ofNat.inj (D.int.inj e5)
 rw [e1,e7,e8,Jcz e6]
noncomputable def XS (K:Zf) (B H:Hp) (d:D) (s:Option V):Prop:=∃L:Lv,d=L.d∧s=some (.ref L.a)∧B L.c=some (LamX.CodeO L.c L.q)∧∀p∈L.caps,R K B H p.2 .F (capV p.1) []
theorem XS.at_ {K:Zf} {B H:Hp} {L:Lv} {s:Option V} (h:XS K B H L.d s):s=some (.ref L.a)∧B L.c=some (LamX.CodeO L.c L.q)∧∀p∈L.caps,R K B H p.2 .F (capV p.1) []:=by
 obtain ⟨L',e,h⟩:=h
 rw [Lv.d_inj e];exact h
theorem XS.mono {K:Zf} {B H B' H':Hp} {d:D} {s:Option V} (hB:Same B B') (h:XS K B H d s):XS K B' H' d s:=by
 obtain ⟨L,e,h1,h2,h3⟩:=h
 exact ⟨L,e,h1,hB _ _ h2,fun p hp=>(h3 p hp).mono hB _ Kept.nil⟩
noncomputable def SlR (K:Zf) (B H:Hp) (g:Option D) (m:Mode) (s:Option V) (fp:List Addr):Prop:=match g with
 | none=>fp= []
 | some d=>(m= .X∧fp= [])∨(m= .L∧fp= []∧XS K B H d s)∨∃v,s=some v∧R K B H d m v fp
theorem SlR.inr {K:Zf} {B H:Hp} {d:D} {m:Mode} {s:Option V} {fp:List Addr} (h:∃v,s=some v∧R K B H d m v fp):SlR K B H (some d) m s fp:=Or.inr (Or.inr h)
theorem SlR.inl {K:Zf} {B H:Hp} {d:D} {m:Mode} {s:Option V} {fp:List Addr} (h:m= .X∧fp= []):SlR K B H (some d) m s fp:=Or.inl h
noncomputable def StR (K:Zf) (B H:Hp):Gam→List Mode→St→List Addr→Prop
 | [],[],[],fp=>fp= []
 | g::Γ,m::μ,s::σ,fp=>∃fp1 fp2,SlR K B H g m s fp1∧StR K B H Γ μ σ fp2∧fp=fp1++fp2
 | _,_,_,_=>False
structure Sta (K:Zf) (B H:Hp) (Γ:Gam) (μ:List Mode) (σ:St) (fp:List Addr):Prop where
 same:Lies K B H
 st:StR K B H Γ μ σ fp
 nd:fp.Nodup
section
variable {K:Zf} {B H B' H':Hp}
theorem SlR.mono {g:Option D} {m:Mode} {s:Option V} {fp:List Addr} (hB:Same B B') (h:SlR K B H g m s fp) (k:Kept B' H H' fp):SlR K B' H' g m s fp:=by
 cases g with
 | none=>exact h
 | some d=>
  rcases h with h | ⟨h1,h2,h⟩ | ⟨v,e,h⟩
  ·exact Or.inl h
  ·exact Or.inr (Or.inl ⟨h1,h2,h.mono hB⟩)
  ·exact Or.inr (Or.inr ⟨v,e,h.mono hB d k⟩)
theorem SlR.own {g:Option D} {m:Mode} {s:Option V} {fp:List Addr} (h:SlR K B H g m s fp):∀a∈fp,B a=none∧∃o,H a=some o:=by
 cases g with
 | none=>
  have h':fp= []:=h
  intro a ha;rw [h'] at ha;cases ha
 | some d=>
  rcases h with ⟨_,h⟩ | ⟨_,h,_⟩ | ⟨v,e,h⟩
  ·intro a ha;rw [h] at ha;cases ha
  ·intro a ha;rw [h] at ha;cases ha
  ·exact R.own d h
theorem StR.mono (hB:Same B B'):∀{Γ:Gam} {μ:List Mode} {σ:St} {fp:List Addr},StR K B H Γ μ σ fp→Kept B' H H' fp→StR K B' H' Γ μ σ fp
 | [],[],[],fp,h,k=>h
 | g::Γ,m::μ,s::σ,fp,h,k=>by
  obtain ⟨fp1,fp2,h1,h2,rfl⟩:=h
  exact ⟨fp1,fp2,h1.mono hB k.left,StR.mono hB h2 k.right,rfl⟩
 | [],_::_,_,_,h,k=>h.elim
 | [],[],_::_,_,h,k=>h.elim
 | _::_,[],_,_,h,k=>h.elim
 | _::_,_::_,[],_,h,k=>h.elim
theorem StR.own:∀{Γ:Gam} {μ:List Mode} {σ:St} {fp:List Addr},StR K B H Γ μ σ fp→∀a∈fp,B a=none∧∃o,H a=some o
 | [],[],[],fp,h,a,ha=>by
  have h':fp= []:=h
  rw [h'] at ha;cases ha
 | g::Γ,m::μ,s::σ,fp,h,a,ha=>by
  obtain ⟨fp1,fp2,h1,h2,rfl⟩:=h
  rcases Zp.mp ha with ha | ha
  ·exact h1.own a ha
  ·exact StR.own h2 a ha
 | [],_::_,_,_,h,_,_=>h.elim
 | [],[],_::_,_,h,_,_=>h.elim
 | _::_,[],_,_,h,_,_=>h.elim
 | _::_,_::_,[],_,h,_,_=>h.elim
theorem StR.len:∀{Γ:Gam} {μ:List Mode} {σ:St} {fp:List Addr},StR K B H Γ μ σ fp→Γ.length=σ.length∧μ.length=σ.length
 | [],[],[],fp,h=>⟨rfl,rfl⟩
 | g::Γ,m::μ,s::σ,fp,h=>by
  obtain ⟨fp1,fp2,h1,h2,rfl⟩:=h
  have:=StR.len h2
  simp [this.1,this.2]
 | [],_::_,_,_,h=>h.elim
 | [],[],_::_,_,h=>h.elim
 | _::_,[],_,_,h=>h.elim
 | _::_,_::_,[],_,h=>h.elim
theorem StR.take:∀{Γ:Gam} {μ:List Mode} {σ:St} {fp:List Addr} {i:Nat} {d:D} {m m0:Mode},StR K B H Γ μ σ fp→Γ[i]? =some (some d)→μ[i]? =some m→nX m→
  ∃v fp1 fp2,σ[i]? =some (some v)∧R K B H d m v fp1∧StR K B H (Γ.set i none) (μ.set i m0) σ fp2∧(fp.Nodup→(fp1++fp2).Nodup)∧∀a,a∈fp1++fp2↔a∈fp
 | g::Γ,m::μ,s::σ,fp,0,d,m1,m0,h,e1,e2,hx=>by
  obtain ⟨fp1,fp2,h1,h2,rfl⟩:=h
  cases e1;cases e2
  rcases h1 with h1 | h1 | ⟨v,rfl,h1⟩
  ·exact absurd h1.1 hx.1
  ·exact absurd h1.1 hx.2
  ·exact ⟨v,fp1,fp2,rfl,h1,⟨[],fp2,rfl,h2,rfl⟩,fun q=>q,fun a=>Iff.rfl⟩
 | g::Γ,m::μ,s::σ,fp,i + 1,d,m1,m0,h,e1,e2,hx=>by
  obtain ⟨fp1,fp2,h1,h2,rfl⟩:=h
  obtain ⟨v,fa,fb,q1,q2,q3,q4,q5⟩:=StR.take (i:=i) (m0:=m0) h2 e1 e2 hx
  refine ⟨v,fa,fp1++fb,q1,q2,⟨fp1,fb,h1,q3,rfl⟩,fun nd=>?_,fun a=>?_⟩
  ·rw [J0] at nd
   have n2:=J0.mp (q4 nd.2.1)
   rw [J0,J0]
   refine ⟨n2.1,⟨nd.1,n2.2.1,fun x hx hb=>nd.2.2 x hx ((q5 x).mp (Zr _ hb))⟩,fun x hx hb=>?_⟩
   rcases Zp.mp hb with hb | hb
   ·exact nd.2.2 x hb ((q5 x).mp (Zl _ hx))
   ·exact n2.2.2 x hx hb
  ·have:=q5 a
   simp only [Zp] at this ⊢
   constructor
   ·rintro (h | h | h)
    ·exact .inr (this.mp (.inl h))
    ·exact .inl h
    ·exact .inr (this.mp (.inr h))
   ·rintro (h | h)
    ·exact .inr (.inl h)
    ·rcases this.mpr h with h | h
     ·exact .inl h
     ·exact .inr (.inr h)
 | [],_::_,_,_,_,_,_,_,h,_,_,_=>h.elim
 | [],[],_::_,_,_,_,_,_,h,_,_,_=>h.elim
 | [],[],[],_,_,_,_,_,h,e,_,_=>by cases e
 | _::_,[],_,_,_,_,_,_,h,_,_,_=>h.elim
 | _::_,_::_,[],_,_,_,_,_,h,_,_,_=>h.elim
theorem StR.put:∀{Γ:Gam} {μ:List Mode} {σ:St} {fp:List Addr} {i:Nat} {d:D} {m:Mode} {v:V} {fd:List Addr},StR K B H Γ μ σ fp→i < σ.length→R K B H d m v fd→
  ∃fp',StR K B H (Γ.set i (some d)) (μ.set i m) (σ.set i (some v)) fp'∧((fd++fp).Nodup→fp'.Nodup)∧∀a,a∈fp'→a∈fd++fp
 | g::Γ,m::μ,s::σ,fp,0,d,m1,v,fd,h,hi,hr=>by
  obtain ⟨fp1,fp2,h1,h2,rfl⟩:=h
  refine ⟨fd++fp2,⟨fd,fp2,.inr ⟨v,rfl,hr⟩,h2,rfl⟩,fun nd=>?_,fun a ha=>?_⟩
  ·rw [J0,J0] at nd
   rw [J0]
   exact ⟨nd.1,nd.2.1.2.1,fun x hx hb=>nd.2.2 x hx (Zr _ hb)⟩
  ·rcases Zp.mp ha with ha | ha
   ·exact Zl _ ha
   ·exact Zr _ (Zr _ ha)
 | g::Γ,m::μ,s::σ,fp,i + 1,d,m1,v,fd,h,hi,hr=>by
  obtain ⟨fp1,fp2,h1,h2,rfl⟩:=h
  obtain ⟨fp',q1,q2,q3⟩:=StR.put (i:=i) h2 (Nat.lt_of_succ_lt_succ hi) hr
  refine ⟨fp1++fp',⟨fp1,fp',h1,q1,rfl⟩,fun nd=>?_,fun a ha=>?_⟩
  ·rw [J0,J0] at nd
   rw [J0]
   refine ⟨nd.2.1.1,q2 (J0.mpr ⟨nd.1,nd.2.1.2.1,fun x hx hb=>nd.2.2 x hx (Zr _ hb)⟩),fun x hx hb=>?_⟩
   rcases Zp.mp (q3 x hb) with hb | hb
   ·exact nd.2.2 x hb (Zl _ hx)
   ·exact nd.2.1.2.2 x hx hb
  ·rcases Zp.mp ha with ha | ha
   ·exact Zr _ (Zl _ ha)
   ·rcases Zp.mp (q3 a ha) with ha | ha
    ·exact Zl _ ha
    ·exact Zr _ (Zr _ ha)
 | [],_::_,_,_,_,_,_,_,_,h,_,_=>h.elim
 | [],[],_::_,_,_,_,_,_,_,h,_,_=>h.elim
 | [],[],[],_,_,_,_,_,_,h,hi,_=>absurd hi (Nat.not_lt_zero _)
 | _::_,[],_,_,_,_,_,_,_,h,_,_=>h.elim
 | _::_,_::_,[],_,_,_,_,_,_,h,_,_=>h.elim
theorem set_same {α:Type}:∀{l:List α} {i:Nat} {x:α},l[i]? =some x→l.set i x=l
 | [],_,_,h=>by cases h
 | a::l,0,x,h=>by cases h;rfl
 | a::l,i + 1,x,h=>by rw [List.set_cons_succ,set_same (l:=l) (by simpa using h)]
end
noncomputable def Ra (K:Zf) (B H:Hp):List D→List Mode→List V→List Addr→Prop
 | [],[],vs,fp=>vs= []∧fp= []
 | d::ds,m::ms,vs,fp=>∃v r fp1 fp2,vs=v::r∧R K B H d m v fp1∧Ra K B H ds ms r fp2∧fp=fp1++fp2
 | _,_,_,_=>False
section
variable {K:Zf} {B H B' H':Hp}
theorem Ra.mono (hB:Same B B'):∀{ds:List D} {ms:List Mode} {vs:List V} {fp:List Addr},Ra K B H ds ms vs fp→Kept B' H H' fp→Ra K B' H' ds ms vs fp
 | [],[],vs,fp,h,k=>h
 | d::ds,m::ms,vs,fp,h,k=>by
  obtain ⟨v,r,fp1,fp2,rfl,h1,h2,rfl⟩:=h
  exact ⟨v,r,fp1,fp2,rfl,h1.mono hB d k.left,Ra.mono hB h2 k.right,rfl⟩
 | [],_::_,_,_,h,_=>h.elim
 | _::_,[],_,_,h,_=>h.elim
theorem Ra.own:∀{ds:List D} {ms:List Mode} {vs:List V} {fp:List Addr},Ra K B H ds ms vs fp→∀a∈fp,B a=none∧∃o,H a=some o
 | [],[],vs,fp,h,a,ha=>by rw [h.2] at ha;cases ha
 | d::ds,m::ms,vs,fp,h,a,ha=>by
  obtain ⟨v,r,fp1,fp2,rfl,h1,h2,rfl⟩:=h
  rcases Zp.mp ha with ha | ha
  ·exact R.own d h1 a ha
  ·exact Ra.own h2 a ha
 | [],_::_,_,_,h,_,_=>h.elim
 | _::_,[],_,_,h,_,_=>h.elim
theorem Ra.len:∀{ds:List D} {ms:List Mode} {vs:List V} {fp:List Addr},Ra K B H ds ms vs fp→vs.length=ms.length∧ds.length=ms.length
 | [],[],vs,fp,h=>by rw [h.1];exact ⟨rfl,rfl⟩
 | d::ds,m::ms,vs,fp,h=>by
  obtain ⟨v,r,fp1,fp2,rfl,h1,h2,rfl⟩:=h
  have:=Ra.len h2
  simp [this.1,this.2]
 | [],_::_,_,_,h=>h.elim
 | _::_,[],_,_,h=>h.elim
end
noncomputable def J6h (K:Zf) (B H:Hp) (x:Xc) (cls:Value) (dd:Option Addr) (fp:List Addr):Prop:=
 cls= .ref (He.ga K x.c)∧∃d fs vs fq,dd=some d∧B d=none∧H d=some (.xd fs)∧Rl K B H x.ds (.O .Z) vs fq∧x.ns.length=x.ds.length∧(∀ (i:Nat) n v,x.ns[i]? =some n→vs[i]? =some v→fs.lookup n=some v)∧fp=d::fq
structure Wh where
 W:WX
 μx:List Mode
noncomputable def J18 (K:Zf) (w:Wh) (B H:Hp) (fp:List Addr) (σ:St) (x:Xc) (Γ':Gam):Prop:=
 ∀B' H' fpe fp' cls dd,Stp B H fp B' H' (fpe++fp')→Sta K B' H' Γ' w.μx σ fp'→J6h K B' H' x cls dd fpe→(fpe++fp').Nodup→w.W cls dd σ H'
noncomputable def tD (K:Zf) (w:Wh) (μ:List Mode) (f:Gam→Rz D) (m:Mode) (μ':List Mode):TE:=fun σ H Q=>∃B Γ fp,Sta K B H Γ μ σ fp∧match f Γ with
 | .ok d Γ'=>∀B' H' v fpv fp',Stp B H fp B' H' (fpv++fp')→Sta K B' H' Γ' μ' σ fp'→R K B' H' d m v fpv→(fpv++fp').Nodup→Q v H'
 | .exc x Γ'=>J18 K w B H fp σ x Γ'
 | .bad=>False
noncomputable def tDT (K:Zf) (w:Wh) (μ:List Mode) (f:Gam→Rz Bool) (μ':List Mode):TT:=fun σ H Q=>∃B Γ fp,Sta K B H Γ μ σ fp∧match f Γ with
 | .ok b Γ'=>∀B' H' fp',Stp B H fp B' H' fp'→Sta K B' H' Γ' μ' σ fp'→Q b H'
 | .exc x Γ'=>J18 K w B H fp σ x Γ'
 | .bad=>False
noncomputable def tDA (K:Zf) (w:Wh) (μ:List Mode) (f:Gam→Rz (List D)) (ms:List Mode) (μ':List Mode):TA:=fun σ H Q=>∃B Γ fp,Sta K B H Γ μ σ fp∧match f Γ with
 | .ok ds Γ'=>∀B' H' vs fpv fp',Stp B H fp B' H' (fpv++fp')→Sta K B' H' Γ' μ' σ fp'→Ra K B' H' ds ms vs fpv→(fpv++fp').Nodup→Q vs H'
 | .exc x Γ'=>J18 K w B H fp σ x Γ'
 | .bad=>False
theorem _root_.L2.PE.imp {X:Cx} {e:Expr} {t t':TE} (h:PE X e t) (i:∀σ H Q,t' σ H Q→t σ H Q):PE X e t':=⟨fun pins s σ H Q I q=>h.run pins s σ H Q I (i σ H Q q)⟩
theorem _root_.L2.PT.imp {X:Cx} {e:Expr} {t t':TT} (h:PT X e t) (i:∀σ H Q,t' σ H Q→t σ H Q):PT X e t':=⟨fun pins s σ H Q I q=>h.run pins s σ H Q I (i σ H Q q)⟩
theorem _root_.L2.PW.imp {X:Cx} {e:Expr} {t t':TT} (h:PW X e t) (i:∀σ H Q,t' σ H Q→t σ H Q):PW X e t':=⟨fun whole pins s σ H Q I q=>h.run whole pins s σ H Q I (i σ H Q q)⟩
theorem _root_.L2.PA.imp {X:Cx} {es:List Expr} {t t':TA} (h:PA X es t) (i:∀σ H Q,t' σ H Q→t σ H Q):PA X es t':=⟨fun pos pins s σ H Q I q=>h.run pos pins s σ H Q I (i σ H Q q)⟩
theorem _root_.L2.PS.imp {X:Cx} {st:Stmt} {t t':TS} (h:PS X st t) (i:∀D σ H,t' D σ H→t D σ H):PS X st t':=⟨fun pins s σ H D I q=>h.run pins s σ H D I (i D σ H q)⟩
theorem _root_.L2.PSs.imp {X:Cx} {st:List Stmt} {t t':TS} (h:PSs X st t) (i:∀D σ H,t' D σ H→t D σ H):PSs X st t':=⟨fun pins s σ H D I q=>h.run pins s σ H D I (i D σ H q)⟩
section
variable {K:Zf} {w:Wh} {B H B1 H1:Hp} {fp l fp1:List Addr} {σ:St}
theorem J18.after {x:Xc} {Γ':Gam} (h:J18 K w B H fp σ x Γ') (s:Stp B H fp B1 H1 (l++fp1)):J18 K w B1 H1 fp1 σ x Γ':=fun B' H' fpe fp' cls dd s1 st ex nd=>
 h B' H' fpe fp' cls dd ((s.less fun a q=>Zr _ q).trans s1) st ex nd
theorem R.over {d:D} {m:Mode} {v:V} {B2 H2:Hp} {fp2:List Addr} (r:R K B1 H1 d m v l) (s:Stp B1 H1 fp1 B2 H2 fp2) (nd: (l++fp1).Nodup):R K B2 H2 d m v l:=
 r.mono s.base d (s.kept (K:=K) (R.own d r) (J0.mp nd).2.2)
theorem J1s {B2 H2:Hp} {fp2:List Addr} (ho:∀a∈l,∃o,H1 a=some o) (s:Stp B1 H1 fp1 B2 H2 fp2) (nd: (l++fp1).Nodup) (nd2:fp2.Nodup): (l++fp2).Nodup:=
 J0.mpr ⟨(J0.mp nd).1,nd2,s.apart ho (J0.mp nd).2.2⟩
end
noncomputable def J4r (B H:Hp) (l:List Addr):Hp:=fun a=>if a∈l then H a else B a
section
variable {K:Zf} {B H:Hp} {l:List Addr}
theorem Jer {a:Addr} (h:a∈l):J4r B H l a=H a:=if_pos h
theorem J42 {a:Addr} (h:a∉l):J4r B H l a=B a:=if_neg h
theorem J23 (h:∀a∈l,B a=none):Same B (J4r B H l):=fun a o e=>by
 by_cases q:a∈l
 ·rw [h a q] at e;cases e
 ·rw [J42 q];exact e
theorem J6v (s:Lies K B H) (hb:∀a∈l,B a=none):Lies K (J4r B H l) H:=⟨fun a o e=>by
 by_cases q:a∈l
 ·rw [Jer q] at e;exact .inl e
 ·rw [J42 q] at e;exact s.at_ a o e,fun p hp=>J23 hb _ _ (s.tags p hp),s.tabs⟩
theorem J6i:Jb (J4r B H l) H l:=fun a h o e _=>by rw [Jer h];exact e
theorem J60 {fp:List Addr} (ho:∀a∈fp,B a=none) (hd:∀a∈fp,a∉l):Kept (J4r B H l) H H fp:=fun a h=>⟨fun o e=>e,by rw [J42 (hd a h)];exact ho a h⟩
theorem J7d {fp fp':List Addr} (h:∀a∈l,a∈fp) (ho:∀a∈l,B a=none) (h':∀a∈fp',a∈fp):Stp B H fp (J4r B H l) H fp':=
 ⟨J23 ho,fun _ _ _ e=> .inl e,fun a q=> .inl (h' a q),fun a o e=>by
  by_cases q:a∈l
  ·exact .inr (.inl (h a q))
  ·rw [J42 q] at e;exact .inl e⟩
theorem R.fpF:∀{d:D} {v:V} {fp:List Addr},R K B H d .F v fp→fp= []
 | .non,_,_,h | .bl _,_,_,h | .int _,_,_,h | .str _,_,_,h=>h.2
 | .lst _,_,_,h | .tup _,_,_,h | .dct _ _,_,_,h | .obj _ _ _,_,_,h=>h.1
theorem R.fpZ:∀{d:D} {v:V} {fp:List Addr},R K B H d .Z v fp→fp= []
 | .non,_,_,h | .bl _,_,_,h | .int _,_,_,h | .str _,_,_,h=>h.2
 | .lst _,_,_,h | .tup _,_,_,h | .dct _ _,_,_,h | .obj _ _ _,_,_,h=>h.elim
theorem R.noX:∀{d:D} {v:V} {fp:List Addr} {m:Mode},R K B H d .X v fp→R K B H d m v fp
 | .non,_,_,_,h | .bl _,_,_,_,h | .int _,_,_,_,h | .str _,_,_,_,h=>h
 | .lst _,_,_,_,h | .tup _,_,_,_,h | .dct _ _,_,_,_,h | .obj _ _ _,_,_,_,h=>h.elim
theorem R.noU:∀{d:D} {v:V} {fp:List Addr} {m:Mode},R K B H d .U v fp→R K B H d m v fp
 | .non,_,_,_,h | .bl _,_,_,_,h | .int _,_,_,_,h | .str _,_,_,_,h=>h
 | .lst _,_,_,_,h | .tup _,_,_,_,h | .dct _ _,_,_,_,h | .obj _ _ _,_,_,_,h=>h.elim
theorem R.frz {d:D} {m:Mode} {v:V} (r:R K B H d m v l):R K (J4r B H l) H d .F v []:=r.freeze (J23 fun a h=>(R.own d r a h).1) d J6i
end
structure DE (X:Cx) (w:Wh) (μ:List Mode) (e:Expr) (f:Gam→Rz D) (m:Mode) (μ':List Mode):Prop where
 pe:PE X e (tD X.K w μ f m μ')
structure DT (X:Cx) (w:Wh) (μ:List Mode) (e:Expr) (f:Gam→Rz Bool) (μ':List Mode):Prop where
 pt:PT X e (tDT X.K w μ f μ')
structure DW (X:Cx) (w:Wh) (μ:List Mode) (e:Expr) (f:Gam→Rz Bool) (μ':List Mode):Prop where
 pw:PW X e (tDT X.K w μ f μ')
structure DA (X:Cx) (w:Wh) (μ:List Mode) (es:List Expr) (f:Gam→Rz (List D)) (ms:List Mode) (μ':List Mode):Prop where
 pa:PA X es (tDA X.K w μ f ms μ')
section
variable {X:Cx} {w:Wh} {μ μ' μ1 μ2:List Mode} {e a b:Expr} {es:List Expr} {f g:Gam→Rz D} {m m' m1 m2:Mode} {pos:Pos}
noncomputable def J4 (Γ:Gam) (i:Nat):Option D:=match Γ[i]? with
 | some (some d)=>some d
 | _=>none
theorem J9 {Γ:Gam} {i:Nat} {d:D} (h:J4 Γ i=some d):Γ[i]? =some (some d):=by
 unfold J4 at h
 split at h
 ·cases h;assumption
 ·cases h
noncomputable def Jax (i:Nat) (Γ:Gam):Rz D:=Rz.opt (J4 Γ i) Γ
noncomputable def eMv (i:Nat) (Γ:Gam):Rz D:=Rz.opt (J4 Γ i) (Γ.set i none)
noncomputable def J1k (m:Mode):Bool:=match m with
 | .F=>true
 | .Z=>true
 | _=>false
theorem J43 {K:Zf} {B H:Hp} {d:D} {v:V} {fp:List Addr} (h:J1k m=true) (r:R K B H d m v fp):fp= []:=by
 cases m with
 | F=>exact r.fpF
 | Z=>exact r.fpZ
 | _=>cases h
theorem DE.var {i:Nat} {x:Str} (hN:X.N[i]? =some x) (hv:Vis X.env.scope x) (hd: (x == ("__debug__" :Str))=false) (hcd: (x == ("__classdict__" :Str))=false) (hm:μ[i]? =some m) (hf:J1k m=true):DE X w μ (.Name x pos) (Jax i) m μ:=by
 refine ⟨(pe_var hN hv hd hcd).imp fun σ H Q ⟨B,Γ,fp,st,q⟩=>?_⟩
 unfold Jax at q
 cases e:J4 Γ i with
 | none=>rw [e] at q;exact q.elim
 | some d=>
  rw [e] at q
  have hx:nX m:=⟨(by rintro rfl;cases hf),(by rintro rfl;cases hf)⟩
  obtain ⟨v,fp1,fp2,h1,h2,h3,h4,h5⟩:=StR.take (m0:=m) st.st (J9 e) hm hx
  have z:=J43 hf h2
  subst z
  exact ⟨v,h1,q B H v [] fp (Stp.refl _ _ _) st h2 st.nd⟩
theorem DE.fv {i:Nat} {x:Str} (hN:X.N[i]? =some x) (hv:Vis X.env.scope x) (hd: (x == ("__debug__" :Str))=false) (hcd: (x == ("__classdict__" :Str))=false) (hm:μ[i]? =some m) (hf:nX m):DE X w μ (.Name x pos) (Jax i) .F (μ.set i .F):=by
 refine ⟨(pe_var hN hv hd hcd).imp fun σ H Q ⟨B,Γ,fp,st,q⟩=>?_⟩
 unfold Jax at q
 cases e:J4 Γ i with
 | none=>rw [e] at q;exact q.elim
 | some d=>
  rw [e] at q
  obtain ⟨v,fp1,fp2,h1,h2,h3,h4,h5⟩:=StR.take (m0:= .U) st.st (J9 e) hm hf
  have n12:=J0.mp (h4 st.nd)
  have b1:∀a∈fp1,B a=none:=fun a h=>(R.own d h2 a h).1
  have r1:=h2.frz
  have s2:=h3.mono (J23 (H:=H) b1) (J60 (H:=H) (fun a h=>(h3.own a h).1) fun a h q=>n12.2.2 a q h)
  have hi:i < σ.length:=(List.getElem?_eq_some_iff.mp h1).1
  obtain ⟨fp',p1,p2,p3⟩:=StR.put (i:=i) s2 hi r1
  rw [List.set_set,List.set_set,set_same h1,set_same (J9 e)] at p1
  refine ⟨v,h1,q (J4r B H fp1) H v [] fp' (J7d (fun a h=>(h5 a).mp (Zl _ h)) b1 fun a h=>(h5 a).mp (Zr _ (by simpa using p3 a h))) ⟨J6v st.same b1,p1,p2 (by simpa using n12.2.1)⟩ r1 (by simpa using p2 (by simpa using n12.2.1))⟩
theorem DE.mv {i:Nat} {x:Str} (hN:X.N[i]? =some x) (hv:Vis X.env.scope x) (hd: (x == ("__debug__" :Str))=false) (hcd: (x == ("__classdict__" :Str))=false) (hm:μ[i]? =some m) (hf:nX m):DE X w μ (.Name x pos) (eMv i) m (μ.set i .U):=by
 refine ⟨(pe_var hN hv hd hcd).imp fun σ H Q ⟨B,Γ,fp,st,q⟩=>?_⟩
 unfold eMv at q
 cases e:J4 Γ i with
 | none=>rw [e] at q;exact q.elim
 | some d=>
  rw [e] at q
  obtain ⟨v,fp1,fp2,h1,h2,h3,h4,h5⟩:=StR.take (m0:= .U) st.st (J9 e) hm hf
  exact ⟨v,h1,q B H v fp1 fp2 ((Stp.refl _ _ _).less fun a h=>(h5 a).mp h) ⟨st.same,h3,(J0.mp (h4 st.nd)).2.1⟩ h2 (h4 st.nd)⟩
noncomputable def eC (d:D) (Γ:Gam):Rz D:= .ok d Γ
theorem DE.int {i:Int} {j:Nat}:DE X w μ (.Constant (.int i) j pos) (eC (.int i)) .Z μ:=⟨pe_int.imp fun σ H Q ⟨B,Γ,fp,st,q⟩=>q B H _ [] fp (Stp.refl _ _ _) st ⟨rfl,rfl⟩ st.nd⟩
theorem DE.bl {i:Bool} {j:Nat}:DE X w μ (.Constant (.bool i) j pos) (eC (.bl i)) .Z μ:=⟨pe_bl.imp fun σ H Q ⟨B,Γ,fp,st,q⟩=>q B H _ [] fp (Stp.refl _ _ _) st ⟨rfl,rfl⟩ st.nd⟩
theorem DE.non {j:Nat}:DE X w μ (.Constant .none j pos) (eC .non) .Z μ:=⟨pe_non.imp fun σ H Q ⟨B,Γ,fp,st,q⟩=>q B H _ [] fp (Stp.refl _ _ _) st ⟨rfl,rfl⟩ st.nd⟩
theorem DE.str {x:Str} {j:Nat}:DE X w μ (.Constant (.str x) j pos) (eC (.str x)) .Z μ:=⟨pe_str.imp fun σ H Q ⟨B,Γ,fp,st,q⟩=>q B H _ [] fp (Stp.refl _ _ _) st ⟨rfl,rfl⟩ st.nd⟩
theorem DE.sub (h:DE X w μ e f m μ') (s:EV.sub m m'=true):DE X w μ e f m' μ':=
 ⟨h.pe.imp fun σ H Q ⟨B,Γ,fp,st,q⟩=>⟨B,Γ,fp,st,by
  revert q
  cases f Γ with
  | ok d Γ'=>exact fun q B' H' v fpv fp' s1 st' r nd=>q B' H' v fpv fp' s1 st' (r.sub d s) nd
  | exc x Γ'=>exact id
  | bad=>exact id⟩⟩
theorem DE.frz (h:DE X w μ e f m μ'):DE X w μ e f .F μ':=
 ⟨h.pe.imp fun σ H Q ⟨B,Γ,fp,st,q⟩=>⟨B,Γ,fp,st,by
  revert q
  cases f Γ with
  | ok d Γ'=>
   intro q B' H' v fpv fp' s1 st' r nd
   have n:=J0.mp nd
   have b1:∀a∈fpv,B' a=none:=fun a h=>(R.own d r a h).1
   exact q (J4r B' H' fpv) H' v [] fp' (s1.trans (J7d (fun a h=>Zl _ h) b1 fun a h=>Zr _ h))
    ⟨J6v st'.same b1,st'.st.mono (J23 b1) (J60 (fun a h=>(st'.st.own a h).1) fun a h q=>n.2.2 a q h),st'.nd⟩ r.frz st'.nd
  | exc x Γ'=>exact id
  | bad=>exact id⟩⟩
noncomputable def Ja2 (m m':Mode):Bool:=EV.sub m m' || (match m' with
 | .X=>true
 | .F=>decide (nX m)
 | .L=>decide (m= .L∨m= .U)
 | _=>decide (m= .U))
noncomputable def J6:List Mode→List Mode→Bool
 | [],[]=>true
 | m::μ,m'::μ'=>Ja2 m m' && J6 μ μ'
 | _,_=>false
theorem SlR.weak {K:Zf} {B H:Hp} {g:Option D} {s:Option V} {fp:List Addr} (h:Ja2 m m'=true) (x:SlR K B H g m s fp):
  ∃l fp',(∀a∈l,a∈fp)∧(∀a∈fp',a∈fp)∧(fp.Nodup→fp'.Nodup∧∀a∈l,a∉fp')∧∀B',Same B B'→Jb B' H l→(∀a∈fp',B' a=none)→SlR K B' H g m' s fp':=by
 cases g with
 | none=>
  have x':fp= []:=x
  exact ⟨[],[],(fun a h=>nomatch h),(fun a h=>nomatch h),(fun _=>⟨List.nodup_nil,fun a h=>nomatch h⟩),fun B' _ _ _=>rfl⟩
 | some d=>
  unfold Ja2 at h
  rw [Bool.or_eq_true] at h
  rcases x with ⟨rfl,rfl⟩ | ⟨rfl,rfl,xs⟩ | ⟨v,rfl,r⟩
  ·rcases h with h | h
   ·cases m' <;> cases h
   ·cases m' with
    | X=>exact ⟨[],[],(fun a h=>nomatch h),(fun a h=>nomatch h),(fun _=>⟨List.nodup_nil,fun a h=>nomatch h⟩),fun B' _ _ _=> .inl ⟨rfl,rfl⟩⟩
    | F=>exact absurd rfl (Zd h).1
    | L=>rcases Zd h with h | h <;> cases h
    | _=>cases Zd h
  ·rcases h with h | h
   ·cases m' <;> cases h
   ·cases m' with
    | X=>exact ⟨[],[],(fun a h=>nomatch h),(fun a h=>nomatch h),(fun _=>⟨List.nodup_nil,fun a h=>nomatch h⟩),fun B' _ _ _=> .inl ⟨rfl,rfl⟩⟩
    | F=>exact absurd rfl (Zd h).2
    | L=>exact ⟨[],[],(fun a h=>nomatch h),(fun a h=>nomatch h),(fun _=>⟨List.nodup_nil,fun a h=>nomatch h⟩),fun B' hB _ _=>Or.inr (Or.inl ⟨rfl,rfl,xs.mono hB⟩)⟩
    | _=>cases Zd h
  ·rcases h with h | h
   ·exact ⟨[],fp,fun a h=>(by cases h),fun a h=>h,fun n=>⟨n,fun a h=>by cases h⟩,fun B' hB _ b=> .inr ⟨v,rfl,(r.sub d h).mono hB d fun a h=>⟨fun o e=>e,b a h⟩⟩⟩
   ·cases m' with
    | X=>exact ⟨fp,[],fun a h=>h,fun a h=>(by cases h),fun n=>⟨List.nodup_nil,fun a h q=>by cases q⟩,fun B' _ _ _=> .inl ⟨rfl,rfl⟩⟩
    | F=>exact ⟨fp,[],fun a h=>h,fun a h=>(by cases h),fun n=>⟨List.nodup_nil,fun a h q=>by cases q⟩,fun B' hB fz _=> .inr ⟨v,rfl,r.freeze hB d fz⟩⟩
    | L=>
     rcases Zd h with z | z
     ·subst z
      exact ⟨[],fp,fun a h=>(by cases h),fun a h=>h,fun n=>⟨n,fun a h=>by cases h⟩,fun B' hB _ b=> .inr ⟨v,rfl,r.mono hB d fun a h=>⟨fun o e=>e,b a h⟩⟩⟩
     ·subst z
      exact ⟨[],fp,fun a h=>(by cases h),fun a h=>h,fun n=>⟨n,fun a h=>by cases h⟩,fun B' hB _ b=> .inr ⟨v,rfl,R.noU (r.mono hB d fun a h=>⟨fun o e=>e,b a h⟩)⟩⟩
    | _=>
     have z:=Zd h
     subst z
     exact ⟨[],fp,fun a h=>(by cases h),fun a h=>h,fun n=>⟨n,fun a h=>by cases h⟩,fun B' hB _ b=> .inr ⟨v,rfl,R.noU (r.mono hB d fun a h=>⟨fun o e=>e,b a h⟩)⟩⟩
theorem StR.weak {K:Zf} {B H:Hp}:∀{Γ:Gam} {μ μ':List Mode} {σ:St} {fp:List Addr},J6 μ μ'=true→StR K B H Γ μ σ fp→
  ∃l fp',(∀a∈l,a∈fp)∧(∀a∈fp',a∈fp)∧(fp.Nodup→fp'.Nodup∧∀a∈l,a∉fp')∧∀B',Same B B'→Jb B' H l→(∀a∈fp',B' a=none)→StR K B' H Γ μ' σ fp'
 | [],[],[],[],fp,_,h=>⟨[],[],(fun a h=>nomatch h),(fun a h=>nomatch h),(fun _=>⟨List.nodup_nil,fun a h=>nomatch h⟩),fun B' _ _ _=>rfl⟩
 | g::Γ,m::μ,m'::μ',s::σ,fp,c,h=>by
  obtain ⟨fp1,fp2,h1,h2,rfl⟩:=h
  have c': (Ja2 m m' && J6 μ μ')=true:=c
  rw [Zb] at c'
  obtain ⟨l1,f1,a1,a2,a3,a4⟩:=h1.weak c'.1
  obtain ⟨l2,f2,b1,b2,b3,b4⟩:=StR.weak c'.2 h2
  refine ⟨l1++l2,f1++f2,fun a h=>?_,fun a h=>?_,fun n=>?_,fun B' hB fz b=>?_⟩
  ·exact (Zp.mp h).elim (fun q=>Zl _ (a1 a q)) fun q=>Zr _ (b1 a q)
  ·exact (Zp.mp h).elim (fun q=>Zl _ (a2 a q)) fun q=>Zr _ (b2 a q)
  ·have n':=J0.mp n
   refine ⟨J0.mpr ⟨(a3 n'.1).1,(b3 n'.2.1).1,fun x hx hy=>n'.2.2 x (a2 x hx) (b2 x hy)⟩,fun a h q=>?_⟩
   rcases Zp.mp h with h | h
   ·rcases Zp.mp q with q | q
    ·exact (a3 n'.1).2 a h q
    ·exact n'.2.2 a (a1 a h) (b2 a q)
   ·rcases Zp.mp q with q | q
    ·exact n'.2.2 a (a2 a q) (b1 a h)
    ·exact (b3 n'.2.1).2 a h q
  ·exact ⟨f1,f2,a4 B' hB fz.left (fun a h=>b a (Zl _ h)),b4 B' hB fz.right (fun a h=>b a (Zr _ h)),rfl⟩
 | [],[],_::_,_,_,c,_=>by cases c
 | _,_::_,[],_,_,c,_=>by cases c
 | [],_::_,_::_,_,_,_,h=>h.elim
 | [],[],[],_::_,_,_,h=>h.elim
 | _::_,[],[],_,_,_,h=>h.elim
 | _::_,[],_::_,_,_,c,_=>by cases c
 | _::_,_::_,_::_,[],_,_,h=>h.elim
theorem Sta.weak {K:Zf} {B H:Hp} {Γ:Gam} {σ:St} {fp l:List Addr} (h:J6 μ μ'=true) (x:Sta K B H Γ μ σ fp) (ho:∀a∈l,B a=none∧∃o,H a=some o) (hd:∀a∈l,a∉fp):
  ∃B' fp',Stp B H fp B' H fp'∧Sta K B' H Γ μ' σ fp'∧Kept B' H H l:=by
 obtain ⟨q,fp',h1,h2,h3,h4⟩:=StR.weak h x.st
 have n:=h3 x.nd
 have b:∀a∈q,B a=none:=fun a h=>(x.st.own a (h1 a h)).1
 exact ⟨J4r B H q,fp',J7d h1 b h2,⟨J6v x.same b,h4 _ (J23 b) J6i fun a h=>by rw [J42 fun z=>n.2 a z h];exact (x.st.own a (h2 a h)).1,n.1⟩,
  J60 (fun a h=>(ho a h).1) fun a h z=>hd a h (h1 a z)⟩
noncomputable def e2 (g:D→D→Option D) (f1 f2:Gam→Rz D) (Γ:Gam):Rz D:=(f1 Γ).bind fun x Γ1=>(f2 Γ1).bind fun y Γ2=>Rz.opt (g x y) Γ2
noncomputable def Comes (K:Zf) (B H:Hp) (fp:List Addr) (d:D) (m:Mode) (Q:VK):Prop:=
 ∀B' H' v fpv,Stp B H fp B' H' fpv→Lies K B' H'→R K B' H' d m v fpv→fpv.Nodup→Q v H'
noncomputable def OpD (K:Zf) (r:R2) (m1 m2:Mode) (g:D→D→Option D) (m:Mode):Prop:=
 ∀ (B H:Hp) (x y d:D) (u v:V) (fp1 fp2:List Addr) (Q:VK),Lies K B H→R K B H x m1 u fp1→R K B H y m2 v fp2→(fp1++fp2).Nodup→g x y=some d→Comes K B H (fp1++fp2) d m Q→r u v H Q
theorem J2o {K:Zf} {B0 H0 B H:Hp} {Γ:Gam} {σ:St} {fp0 l fp:List Addr} {d:D} {Q:VK} (s0:Stp B0 H0 fp0 B H (l++fp)) (st:Sta K B H Γ μ σ fp) (ho:∀a∈l,∃o,H a=some o) (nd: (l++fp).Nodup)
  (q:∀B' H' v fpv fp',Stp B0 H0 fp0 B' H' (fpv++fp')→Sta K B' H' Γ μ σ fp'→R K B' H' d m v fpv→(fpv++fp').Nodup→Q v H'):Comes K B H l d m Q:=fun B' H' v fpv s sm r nv=>by
 have n:=J0.mp nd
 have k:Kept B' H H' fp:=s.kept (K:=K) (st.st.own) fun a h q=>n.2.2 a q h
 have dj:∀a∈fpv,a∉fp:=fun a h q=>by
  rcases s.own a h with z | z
  ·exact n.2.2 a z q
  ·obtain ⟨_,o,e⟩:=st.st.own a q
   rw [e] at z;cases z
 refine q B' H' v fpv fp (s0.trans ?_) ⟨sm,st.st.mono s.base k,st.nd⟩ r (J0.mpr ⟨nv,st.nd,dj⟩)
 have:=s.more (fp2:=l++fp) fun a h=>Zl _ h
 exact ⟨this.base,this.keep,fun a h=>by
  rcases Zp.mp h with h | h
  ·exact this.own a h
  ·exact .inl (Zr _ h),this.new⟩
theorem Ja3 {K:Zf} {r:R2} {h:D→D→Option D} {σ:St} {H:Hp} {Q:VK} (op:OpD K r m1 m2 h m) (q:tD K w μ (e2 h f g) m μ2 σ H Q):tOp r (tD K w μ f m1 μ1) (tD K w μ1 g m2 μ2) σ H Q:=by
 obtain ⟨B,Γ,fp,st,q⟩:=q
 refine ⟨B,Γ,fp,st,?_⟩
 unfold e2 at q
 cases e1:f Γ with
 | bad=>rw [e1] at q;exact q.elim
 | exc x Γ'=>rw [e1] at q;exact q
 | ok x Γ1=>
  rw [e1] at q
  intro B1 H1 u fu fp1 s1 st1 r1 n1
  refine ⟨B1,Γ1,fp1,st1,?_⟩
  show match g Γ1 with
   | .ok d Γ'=>_
   | .exc x Γ'=>_
   | .bad=>_
  simp only [Rz.bind] at q
  cases e2:g Γ1 with
  | bad=>rw [e2] at q;exact q.elim
  | exc x Γ'=>
   rw [e2] at q
   exact J18.after q s1
  | ok y Γ2=>
   rw [e2] at q
   intro B2 H2 v fv fp2 s2 st2 r2 n2
   dsimp only at q
   cases e3:h x y with
   | none=>rw [e3] at q;exact q.elim
   | some d=>
    rw [e3] at q
    have r1':R K B2 H2 x m1 u fu:=r1.over (s2.less fun a h=>Zr _ h) n1
    have nn: (fu++ (fv++fp2)).Nodup:=J1s (fun a h=>(R.own x r1 a h).2) s2 n1 n2
    have nn': ((fu++fv)++fp2).Nodup:=by rw [List.append_assoc];exact nn
    refine op B2 H2 x y d u v fu fv Q st2.same r1' r2 (J0.mp nn').1 e3 (J2o (s0:=?_) st2 (fun a h=>?_) nn' q)
    ·have:=s1.seq s2
     rwa [← List.append_assoc] at this
    ·rcases Zp.mp h with h | h
     ·exact (R.own x r1' a h).2
     ·exact (R.own y r2 a h).2
theorem DE.op2 {op:Operator} {r:R2} {h:D→D→Option D} (ho:OpR X (binaryOp op) r) (od:OpD X.K r m1 m2 h m) (ha:DE X w μ a f m1 μ1) (hb:DE X w μ1 b g m2 μ2):DE X w μ (.BinOp a op b pos) (e2 h f g) m μ2:=
 ⟨(pe_op ho ha.pe hb.pe).imp fun _ _ _ q=>Ja3 od q⟩
theorem DE.cmp {op:CmpOp} {r:R2} {h:D→D→Option D} (ho:OpR X (compareOp op) r) (hm:behindInMarks op b=false) (od:OpD X.K r m1 m2 h m) (ha:DE X w μ a f m1 μ1) (hb:DE X w μ1 b g m2 μ2):DE X w μ (.Compare a [op] [b] pos) (e2 h f g) m μ2:=
 ⟨(pe_cmpR ho ha.pe hb.pe hm).imp fun _ _ _ q=>Ja3 od q⟩
theorem DE.ix {r:R2} {h:D→D→Option D} (hr:IxR X r) (hs:PlainIx b) (od:OpD X.K r m1 m2 h m) (ha:DE X w μ a f m1 μ1) (hb:DE X w μ1 b g m2 μ2):DE X w μ (.Subscript a b pos) (e2 h f g) m μ2:=
 ⟨(pe_ix hr ha.pe hb.pe hs).imp fun _ _ _ q=>Ja3 od q⟩
noncomputable def e1 (g:D→Option D) (f1:Gam→Rz D) (Γ:Gam):Rz D:=(f1 Γ).bind fun x Γ1=>Rz.opt (g x) Γ1
noncomputable def UnD (K:Zf) (r:V→Hp→VK→Prop) (m1:Mode) (g:D→Option D) (m:Mode):Prop:=
 ∀ (B H:Hp) (x d:D) (u:V) (fp1:List Addr) (Q:VK),Lies K B H→R K B H x m1 u fp1→fp1.Nodup→g x=some d→Comes K B H fp1 d m Q→r u H Q
theorem Jrg {K:Zf} {r:V→Hp→VK→Prop} {h:D→Option D} {σ:St} {H:Hp} {Q:VK} (op:UnD K r m1 h m) (q:tD K w μ (e1 h f) m μ1 σ H Q):tD K w μ f m1 μ1 σ H fun x H1=>r x H1 Q:=by
 obtain ⟨B,Γ,fp,st,q⟩:=q
 refine ⟨B,Γ,fp,st,?_⟩
 unfold e1 at q
 cases e1:f Γ with
 | bad=>rw [e1] at q;exact q.elim
 | exc x Γ'=>rw [e1] at q;exact q
 | ok x Γ1=>
  rw [e1] at q
  intro B1 H1 u fu fp1 s1 st1 r1 n1
  simp only [Rz.bind] at q
  cases e3:h x with
  | none=>rw [e3] at q;exact q.elim
  | some d=>
   rw [e3] at q
   exact op B1 H1 x d u fu Q st1.same r1 (J0.mp n1).1 e3 (J2o s1 st1 (fun a h=>(R.own x r1 a h).2) n1 q)
theorem DE.un {op:UnaryOp} {r:V→Hp→VK→Prop} {h:D→Option D} (ho:UnR X (unaryOp op) r) (od:UnD X.K r m1 h m) (ha:DE X w μ a f m1 μ1):DE X w μ (.UnaryOp op a pos) (e1 h f) m μ1:=
 ⟨(pe_un ho ha.pe).imp fun _ _ _ q=>Jrg od q⟩
noncomputable def J1z (Γ:Gam):Rz (List D):= .ok [] Γ
noncomputable def Jj (f:Gam→Rz D) (r:Gam→Rz (List D)) (Γ:Gam):Rz (List D):=(f Γ).bind fun x Γ1=>(r Γ1).bind fun xs Γ2=> .ok (x::xs) Γ2
theorem DA.nil:DA X w μ [] J1z [] μ:=⟨pa_nil.imp fun σ H Q ⟨B,Γ,fp,st,q⟩=>q B H [] [] fp (Stp.refl _ _ _) st ⟨rfl,rfl⟩ st.nd⟩
theorem DA.cons {r:Gam→Rz (List D)} {ms:List Mode} (ha:DE X w μ a f m μ1) (hr:DA X w μ1 es r ms μ2) (hs:starEach (a::es) X.env= (false,eval a X.env)::starEach es X.env):DA X w μ (a::es) (Jj f r) (m::ms) μ2:=by
 refine ⟨(pa_cons ha.pe hr.pa hs).imp fun σ H Q ⟨B,Γ,fp,st,q⟩=>⟨B,Γ,fp,st,?_⟩⟩
 unfold Jj at q
 cases e1:f Γ with
 | bad=>rw [e1] at q;exact q.elim
 | exc x Γ'=>rw [e1] at q;exact q
 | ok x Γ1=>
  rw [e1] at q
  intro B1 H1 u fu fp1 s1 st1 r1 n1
  refine ⟨B1,Γ1,fp1,st1,?_⟩
  simp only [Rz.bind] at q
  show match r Γ1 with
   | .ok d Γ'=>_
   | .exc x Γ'=>_
   | .bad=>_
  cases e2:r Γ1 with
  | bad=>rw [e2] at q;exact q.elim
  | exc x Γ'=>rw [e2] at q;exact J18.after q s1
  | ok xs Γ2=>
   rw [e2] at q
   intro B2 H2 vs fv fp2 s2 st2 r2 n2
   have r1':R X.K B2 H2 x m u fu:=r1.over (s2.less fun a h=>Zr _ h) n1
   have nn: (fu++ (fv++fp2)).Nodup:=J1s (fun a h=>(R.own x r1 a h).2) s2 n1 n2
   refine q B2 H2 (u::vs) (fu++fv) fp2 ?_ st2 ⟨u,vs,fu,fv,rfl,r1',r2,rfl⟩ (by rw [List.append_assoc];exact nn)
   have:=s1.seq s2
   rwa [← List.append_assoc] at this
noncomputable def eN (g:List D→Option D) (r:Gam→Rz (List D)) (Γ:Gam):Rz D:=(r Γ).bind fun xs Γ1=>Rz.opt (g xs) Γ1
noncomputable def NaD (K:Zf) (r:List V→Hp→VK→Prop) (ms:List Mode) (g:List D→Option D) (m:Mode):Prop:=
 ∀ (B H:Hp) (xs:List D) (d:D) (us:List V) (fp1:List Addr) (Q:VK),Lies K B H→Ra K B H xs ms us fp1→fp1.Nodup→g xs=some d→Comes K B H fp1 d m Q→r us H Q
theorem Ja4 {K:Zf} {r:List V→Hp→VK→Prop} {h:List D→Option D} {ms:List Mode} {fa:Gam→Rz (List D)} {σ:St} {H:Hp} {Q:VK} (op:NaD K r ms h m) (q:tD K w μ (eN h fa) m μ1 σ H Q):tDA K w μ fa ms μ1 σ H fun xs H1=>r xs H1 Q:=by
 obtain ⟨B,Γ,fp,st,q⟩:=q
 refine ⟨B,Γ,fp,st,?_⟩
 unfold eN at q
 cases e1:fa Γ with
 | bad=>rw [e1] at q;exact q.elim
 | exc x Γ'=>rw [e1] at q;exact q
 | ok x Γ1=>
  rw [e1] at q
  intro B1 H1 u fu fp1 s1 st1 r1 n1
  simp only [Rz.bind] at q
  cases e3:h x with
  | none=>rw [e3] at q;exact q.elim
  | some d=>
   rw [e3] at q
   exact op B1 H1 x d u fu Q st1.same r1 (J0.mp n1).1 e3 (J2o s1 st1 (fun a h=>(Ra.own r1 a h).2) n1 q)
theorem DE.callB {x:Str} {p:Pos} {id:String} {r:List V→Hp→VK→Prop} {h:List D→Option D} {ms:List Mode} {fa:Gam→Rz (List D)} (hc:CallR X (.builtin id) r) (hg:Gl X x) (hm:X.mg x=none) (hv:bootBuiltins x=some (.builtin id)) (hn:x≠ "__name__") (hdb: (x == ("__debug__" :Str))=false)
  (od:NaD X.K r ms h m) (ha:DA X w μ (a::es) fa ms μ1) (he:starEach (a::es) X.env= (false,eval a X.env)::starEach es X.env) (hpl: (backTo pos (starEach es X.env)).any (·.1)=false):DE X w μ (.Call (.Name x p) (a::es) [] pos) (eN h fa) m μ1:=
 ⟨(pe_callB hc hg hm hv ha.pa hn hdb he hpl).imp fun _ _ _ q=>Ja4 od q⟩
theorem DE.callTy {x:Str} {p:Pos} {T:String} {r:List V→Hp→VK→Prop} {h:List D→Option D} {ms:List Mode} {fa:Gam→Rz (List D)} (hc:CallR X (.type T) r) (hg:Gl X x) (hm:X.mg x=none) (hv:bootBuiltins x=some (.type T)) (hn:x≠ "__name__") (hdb: (x == ("__debug__" :Str))=false)
  (od:NaD X.K r ms h m) (ha:DA X w μ (a::es) fa ms μ1) (he:starEach (a::es) X.env= (false,eval a X.env)::starEach es X.env) (hpl: (backTo pos (starEach es X.env)).any (·.1)=false):DE X w μ (.Call (.Name x p) (a::es) [] pos) (eN h fa) m μ1:=
 ⟨(pe_callTy hc hg hm hv ha.pa hn hdb he hpl).imp fun _ _ _ q=>Ja4 od q⟩
theorem DE.disp {k:Nat} {h:List D→Option D} {ms:List Mode} {fa:Gam→Rz (List D)} (od:NaD X.K (fun xs H1 Q=>xs.length≤sizeLine∧∀p,H1 p=none→Q (.ref p) (upd H1 p (.tup xs))) ms h m) (ha:DA X w μ es fa ms μ1):DE X w μ (.Tuple es k pos) (eN h fa) m μ1:=
 ⟨(pe_tup ha.pa).imp fun _ _ _ q=>Ja4 od q⟩
theorem DE.displ {h:List D→Option D} {ms:List Mode} {fa:Gam→Rz (List D)} (od:NaD X.K (fun xs H1 Q=>xs.length≤sizeLine∧∀p,H1 p=none→Q (.ref p) (upd H1 p (.lst xs))) ms h m) (ha:DA X w μ es fa ms μ1):DE X w μ (.List es pos) (eN h fa) m μ1:=
 ⟨(pe_lst ha.pa).imp fun _ _ _ q=>Ja4 od q⟩
end
noncomputable def subW:Mode→Mode→Bool
 | _,.F=>true
 | .O m,.O m'=>subW m m'
 | m,m'=>EV.sub m m'
section
variable {K:Zf} {B H:Hp}
noncomputable def J20 (fp l fp':List Addr):Prop:=(∀a∈l,a∈fp)∧(∀a∈fp',a∈fp)∧(fp.Nodup→fp'.Nodup∧∀a∈l,a∉fp')
theorem J20.all (fp:List Addr):J20 fp fp []:=⟨fun _ h=>h,(fun _ h=>nomatch h),fun _=>⟨List.nodup_nil,fun _ _ h=>nomatch h⟩⟩
theorem J20.none (fp:List Addr):J20 fp [] fp:=⟨(fun _ h=>nomatch h),fun _ h=>h,fun n=>⟨n,fun _ h=>nomatch h⟩⟩
theorem J20.cons {fp l fp':List Addr} (a:Addr) (h:J20 fp l fp'):J20 (a::fp) l (a::fp'):=by
 obtain ⟨h1,h2,h3⟩:=h
 refine ⟨fun x hx=>Zc _ (h1 x hx),fun x hx=>?_,fun n=>?_⟩
 ·rcases Zo.mp hx with rfl | hx
  ·exact Zs
  ·exact Zc _ (h2 x hx)
 ·have n':=List.nodup_cons.mp n
  obtain ⟨q1,q2⟩:=h3 n'.2
  refine ⟨List.nodup_cons.mpr ⟨fun z=>n'.1 (h2 a z),q1⟩,fun x hx z=>?_⟩
  rcases Zo.mp z with rfl | z
  ·exact n'.1 (h1 _ hx)
  ·exact q2 x hx z
theorem J20.app {a b la lb fa fb:List Addr} (h:J20 a la fa) (k:J20 b lb fb):J20 (a++b) (la++lb) (fa++fb):=by
 obtain ⟨a1,a2,a3⟩:=h
 obtain ⟨b1,b2,b3⟩:=k
 refine ⟨fun x h=>?_,fun x h=>?_,fun n=>?_⟩
 ·exact (Zp.mp h).elim (fun q=>Zl _ (a1 x q)) fun q=>Zr _ (b1 x q)
 ·exact (Zp.mp h).elim (fun q=>Zl _ (a2 x q)) fun q=>Zr _ (b2 x q)
 ·have n':=J0.mp n
  refine ⟨J0.mpr ⟨(a3 n'.1).1,(b3 n'.2.1).1,fun x hx hy=>n'.2.2 x (a2 x hx) (b2 x hy)⟩,fun x h q=>?_⟩
  rcases Zp.mp h with h | h
  ·rcases Zp.mp q with q | q
   ·exact (a3 n'.1).2 x h q
   ·exact n'.2.2 x (a1 x h) (b2 x q)
  ·rcases Zp.mp q with q | q
   ·exact n'.2.2 x (a2 x q) (b1 x h)
   ·exact (b3 n'.2.1).2 x h q
theorem R.subW0 {d:D} {m m':Mode} {v:V} {fp:List Addr} (c:EV.sub m m'=true) (h:R K B H d m v fp):∃l fp',J20 fp l fp'∧∀B',Same B B'→Jb B' H l→(∀a∈fp',B' a=none)→R K B' H d m' v fp':=
 ⟨[],fp,J20.none fp,fun B' hB _ b=>(h.sub d c).mono hB d fun a q=>⟨fun o e=>e,b a q⟩⟩
theorem R.subWF {d:D} {m:Mode} {v:V} {fp:List Addr} (h:R K B H d m v fp):∃l fp',J20 fp l fp'∧∀B',Same B B'→Jb B' H l→(∀a∈fp',B' a=none)→R K B' H d .F v fp':=
 ⟨fp,[],J20.all fp,fun B' hB fz _=>h.freeze hB d fz⟩
theorem subW_cases {m m':Mode} (c:EV.subW m m'=true):m'= .F∨(∃a b,m= .O a∧m'= .O b∧EV.subW a b=true)∨EV.sub m m'=true:=by
 cases m' with
 | F=>exact .inl rfl
 | O b=>
  cases m with
  | O a=>exact .inr (.inl ⟨a,b,rfl,rfl,c⟩)
  | _=>exact .inr (.inr c)
 | _=>cases m <;> exact .inr (.inr c)
mutual
theorem R.subW:∀ (d:D) {m m':Mode} {v:V} {fp:List Addr},EV.subW m m'=true→R K B H d m v fp→∃l fp',J20 fp l fp'∧∀B',Same B B'→Jb B' H l→(∀a∈fp',B' a=none)→R K B' H d m' v fp'
 | .non,m,m',v,fp,c,h=>⟨[],[],by rw [h.2];exact J20.none _,fun _ _ _ _=>⟨h.1,rfl⟩⟩
 | .bl b,m,m',v,fp,c,h=>⟨[],[],by rw [h.2];exact J20.none _,fun _ _ _ _=>⟨h.1,rfl⟩⟩
 | .int i,m,m',v,fp,c,h=>⟨[],[],by rw [h.2];exact J20.none _,fun _ _ _ _=>⟨h.1,rfl⟩⟩
 | .str x,m,m',v,fp,c,h=>⟨[],[],by rw [h.2];exact J20.none _,fun _ _ _ _=>⟨h.1,rfl⟩⟩
 | .lst ds,m,m',v,fp,c,h=>by
  rcases subW_cases c with rfl | ⟨a,b,rfl,rfl,c'⟩ | c'
  ·exact h.subWF
  ·obtain ⟨p,vs,fq,rfl,b0,ha,hl,hr,rfl⟩:=h
   obtain ⟨l,fq',h1,h2⟩:=Rl.subW ds c' hr
   exact ⟨l,p::fq',h1.cons p,fun B' hB fz b=>⟨p,vs,fq',rfl,b p Zs,ha,hl,h2 B' hB fz fun x hx=>b x (Zc _ hx),rfl⟩⟩
  ·exact h.subW0 c'
 | .tup ds,m,m',v,fp,c,h=>by
  rcases subW_cases c with rfl | ⟨a,b,rfl,rfl,c'⟩ | c'
  ·exact h.subWF
  ·obtain ⟨p,vs,fq,rfl,b0,ha,hl,hr,rfl⟩:=h
   obtain ⟨l,fq',h1,h2⟩:=Rl.subW ds c' hr
   exact ⟨l,p::fq',h1.cons p,fun B' hB fz b=>⟨p,vs,fq',rfl,b p Zs,ha,hl,h2 B' hB fz fun x hx=>b x (Zc _ hx),rfl⟩⟩
  ·exact h.subW0 c'
 | .dct ks ds,m,m',v,fp,c,h=>by
  rcases subW_cases c with rfl | ⟨a,b,rfl,rfl,c'⟩ | c'
  ·exact h.subWF
  ·exact h.elim
  ·exact h.subW0 c'
 | .obj k ns ds,m,m',v,fp,c,h=>by
  rcases subW_cases c with rfl | ⟨a,b,rfl,rfl,c'⟩ | c'
  ·exact h.subWF
  ·obtain ⟨p,dx,vs,fq,rfl,b0,b1,ha,hx,hl,hr,rfl⟩:=h
   obtain ⟨l,fq',h1,h2⟩:=Rl.subW ds c' hr
   exact ⟨l,p::dx::fq',(h1.cons dx).cons p,fun B' hB fz b=>⟨p,dx,vs,fq',rfl,b p Zs,b dx (Zc _ Zs),ha,hx,hl,h2 B' hB fz fun x hx=>b x (Zc _ (Zc _ hx)),rfl⟩⟩
  ·exact h.subW0 c'
theorem Rl.subW:∀ (ds:List D) {m m':Mode} {vs:List V} {fp:List Addr},EV.subW m m'=true→Rl K B H ds m vs fp→∃l fp',J20 fp l fp'∧∀B',Same B B'→Jb B' H l→(∀a∈fp',B' a=none)→Rl K B' H ds m' vs fp'
 | [],m,m',vs,fp,c,h=>⟨[],[],by rw [h.2];exact J20.none _,fun _ _ _ _=>⟨h.1,rfl⟩⟩
 | d::ds,m,m',vs,fp,c,h=>by
  obtain ⟨v,r,fp1,fp2,rfl,h1,h2,rfl⟩:=h
  obtain ⟨l1,f1,a1,a2⟩:=R.subW d c h1
  obtain ⟨l2,f2,b1,b2⟩:=Rl.subW ds c h2
  exact ⟨l1++l2,f1++f2,a1.app b1,fun B' hB fz b=>⟨v,r,f1,f2,rfl,a2 B' hB fz.left fun x hx=>b x (Zl _ hx),b2 B' hB fz.right fun x hx=>b x (Zr _ hx),rfl⟩⟩
end
end
section
variable {X:Cx} {w:Wh} {μ μ':List Mode} {e:Expr} {f:Gam→Rz D} {m m':Mode}
theorem DE.subW (h:DE X w μ e f m μ') (s:EV.subW m m'=true):DE X w μ e f m' μ':=
 ⟨h.pe.imp fun σ H Q ⟨B,Γ,fp,st,q⟩=>⟨B,Γ,fp,st,by
  revert q
  cases f Γ with
  | ok d Γ'=>
   intro q B' H' v fpv fp' s1 st' r nd
   have n:=J0.mp nd
   obtain ⟨l,f1,⟨h1,h2,h3⟩,h4⟩:=R.subW d s r
   have b1:∀a∈fpv,B' a=none:=fun a h=>(R.own d r a h).1
   have bl:∀a∈l,B' a=none:=fun a h=>b1 a (h1 a h)
   obtain ⟨n1,n2⟩:=h3 n.1
   refine q (J4r B' H' l) H' v f1 fp' (s1.trans (J7d (fun a h=>Zl _ (h1 a h)) bl fun a h=>?_))
    ⟨J6v st'.same bl,st'.st.mono (J23 bl) (J60 (fun a h=>(st'.st.own a h).1) fun a h q=>n.2.2 a (h1 a q) h),st'.nd⟩
    (h4 _ (J23 bl) J6i fun a h=>by rw [J42 fun z=>n2 a z h];exact b1 a (h2 a h)) (J0.mpr ⟨n1,n.2.1,fun a h q=>n.2.2 a (h2 a h) q⟩)
   exact (Zp.mp h).elim (fun q=>Zl _ (h2 a q)) fun q=>Zr _ q
  | exc x Γ'=>exact id
  | bad=>exact id⟩⟩
end
noncomputable def Jov:Mode→Mode
 | .X=> .X
 | .L=> .L
 | .U=> .U
 | .Z=> .Z
 | _=> .F
noncomputable def J7e:List Bool→List Mode→List Mode
 | b::M,m::μ=>(if b=true then m else Jov m)::J7e M μ
 | _,_=> []
noncomputable def J5j:List Bool→Gam→Gam→Gam
 | b::M,g::Γ,g'::Γ'=>(if b=true then g' else g)::J5j M Γ Γ'
 | _,_,_=> []
noncomputable def J44:List Bool→List Mode→List Mode→List Mode
 | b::M,m::μ,m'::μ'=>(if b=true then m' else m)::J44 M μ μ'
 | _,_,_=> []
noncomputable def Jv:List Bool→List Mode→Bool
 | b::M,m::μ=>(!b || closed m || decide (m= .U) || decide (m= .X)) && Jv M μ
 | _,_=>true
section
variable {K:Zf} {B H B' H':Hp}
theorem SlR.bor {g:Option D} {m:Mode} {s:Option V} {fp:List Addr} (h:SlR K B H g m s fp) (hB:Same B B') (fz:Jb B' H fp):SlR K B' H g (Jov m) s []:=by
 cases g with
 | none=>rfl
 | some d=>
  rcases h with ⟨rfl,h⟩ | ⟨rfl,h,xs⟩ | ⟨v,rfl,r⟩
  ·exact .inl ⟨rfl,rfl⟩
  ·exact Or.inr (Or.inl ⟨rfl,rfl,xs.mono hB⟩)
  ·have z:=r.freeze (H':=H) hB d fz
   cases m with
   | X=>exact .inl ⟨rfl,rfl⟩
   | L=>exact .inr ⟨v,rfl,by cases d <;> first | exact ⟨r.1,rfl⟩ | exact r.elim⟩
   | U=>exact .inr ⟨v,rfl,by cases d <;> first | exact ⟨r.1,rfl⟩ | exact r.elim⟩
   | Z=>exact .inr ⟨v,rfl,by have e:=r.fpZ;subst e;exact r.mono hB d Kept.nil⟩
   | _=>exact .inr ⟨v,rfl,z⟩
theorem SlR.rebase {g:Option D} {m:Mode} {s:Option V} {fp:List Addr} (c: (closed m || decide (m= .U) || decide (m= .X))=true) (h:SlR K B H g m s fp) (k:Kept B' H H' fp):SlR K B' H' g m s fp:=by
 cases g with
 | none=>exact h
 | some d=>
  rcases h with h | ⟨rfl,_,_⟩ | ⟨v,rfl,r⟩
  ·exact .inl h
  ·cases c
  ·rw [Bool.or_eq_true,Bool.or_eq_true] at c
   rcases c with (c | c) | c
   ·exact .inr ⟨v,rfl,r.rebase d c k⟩
   ·have e:=Zd c
    subst e
    have q:closed .Z=true:=rfl
    exact .inr ⟨v,rfl,by cases d <;> first | exact r | exact r.elim⟩
   ·have e:=Zd c
    subst e
    exact .inr ⟨v,rfl,by cases d <;> first | exact r | exact r.elim⟩
theorem StR.bor:∀{M:List Bool} {Γ:Gam} {μ:List Mode} {σ:St} {fp:List Addr},M.length=μ.length→StR K B H Γ μ σ fp→∃fm fr,(∀a∈fm,a∈fp)∧(∀a∈fr,a∈fp)∧(∀a∈fp,a∈fm∨a∈fr)∧(fp.Nodup→fm.Nodup∧fr.Nodup∧∀a∈fm,a∉fr)∧
  (∀B1,Same B B1→Jb B1 H fr→(∀a∈fm,B1 a=none)→StR K B1 H Γ (J7e M μ) σ fm)∧
  (∀B' H' Γ' μ' fm',StR K B' H' Γ' μ' σ fm'→Jv M μ'=true→(∀a∈fm',B a=none)→(∀a∈fr,∀o,H a=some o→H' a=some o)→
   ∃fx,StR K B H' (J5j M Γ Γ') (J44 M μ μ') σ fx∧(fm'.Nodup→fr.Nodup→(∀a∈fm',a∉fr)→fx.Nodup)∧∀a∈fx,a∈fm'∨a∈fr)
 | [],[],[],[],fp,_,h=>by
  have h':fp= []:=h
  subst h'
  refine ⟨[],[],(fun _ h=>h),(fun _ h=>h),(fun _ h=>nomatch h),(fun _=>⟨List.nodup_nil,List.nodup_nil,fun _ h=>nomatch h⟩),(fun _ _ _ _=>rfl),fun B' H' Γ' μ' fm' h c _ _=>?_⟩
  exact ⟨[],rfl,fun _ _ _=>List.nodup_nil,fun _ h=>nomatch h⟩
 | b::M,g::Γ,m::μ,s::σ,fp,hl,h=>by
  obtain ⟨fp1,fp2,h1,h2,rfl⟩:=h
  obtain ⟨fm,fr,a1,a2,a3,a4,a5,a6⟩:=StR.bor (M:=M) (Nat.succ.inj hl) h2
  cases b with
  | true=>
   refine ⟨fp1++fm,fr,fun a h=>?_,fun a h=>Zr _ (a2 a h),fun a h=>?_,fun n=>?_,fun B1 hB fz bn=>?_,fun B' H' Γ' μ' fm' h c bn k=>?_⟩
   ·exact (Zp.mp h).elim (fun q=>Zl _ q) fun q=>Zr _ (a1 a q)
   ·exact (Zp.mp h).elim (fun q=> .inl (Zl _ q)) fun q=>(a3 a q).imp (fun z=>Zr _ z) id
   ·have n':=J0.mp n
    have q:=a4 n'.2.1
    refine ⟨J0.mpr ⟨n'.1,q.1,fun x hx hy=>n'.2.2 x hx (a1 x hy)⟩,q.2.1,fun a h z=>?_⟩
    rcases Zp.mp h with h | h
    ·exact n'.2.2 a h (a2 a z)
    ·exact q.2.2 a h z
   ·exact ⟨fp1,fm,h1.mono hB fun a h=>⟨fun o e=>e,bn a (Zl _ h)⟩,a5 B1 hB fz (fun a h=>bn a (Zr _ h)),rfl⟩
   ·match Γ',μ',h with
    | [],[],h=>exact h.elim
    | [],_::_,h=>exact h.elim
    | _::_,[],h=>exact h.elim
    | g'::Γ',m'::μ',h=>
     obtain ⟨f1,f2,q1,q2,rfl⟩:=h
     have c': ((!true || closed m' || decide (m'= .U) || decide (m'= .X)) && Jv M μ')=true:=c
     rw [Zb] at c'
     obtain ⟨fx,r1,r2,r3⟩:=a6 B' H' Γ' μ' f2 q2 c'.2 (fun a h=>bn a (Zr _ h)) k
     refine ⟨f1++fx,⟨f1,fx,q1.rebase (by simpa using c'.1) fun a h=>⟨fun o e=>e,bn a (Zl _ h)⟩,r1,rfl⟩,fun n1 n2 n3=>?_,fun a h=>?_⟩
     ·have n':=J0.mp n1
      refine J0.mpr ⟨n'.1,r2 n'.2.1 n2 fun a h=>n3 a (Zr _ h),fun x hx hy=>?_⟩
      rcases r3 x hy with z | z
      ·exact n'.2.2 x hx z
      ·exact n3 x (Zl _ hx) z
     ·rcases Zp.mp h with h | h
      ·exact .inl (Zl _ h)
      ·exact (r3 a h).imp (fun z=>Zr _ z) id
  | false=>
   refine ⟨fm,fp1++fr,fun a h=>Zr _ (a1 a h),fun a h=>?_,fun a h=>?_,fun n=>?_,fun B1 hB fz bn=>?_,fun B' H' Γ' μ' fm' h c bn k=>?_⟩
   ·exact (Zp.mp h).elim (fun q=>Zl _ q) fun q=>Zr _ (a2 a q)
   ·exact (Zp.mp h).elim (fun q=> .inr (Zl _ q)) fun q=>(a3 a q).imp id fun z=>Zr _ z
   ·have n':=J0.mp n
    have q:=a4 n'.2.1
    refine ⟨q.1,J0.mpr ⟨n'.1,q.2.1,fun x hx hy=>n'.2.2 x hx (a2 x hy)⟩,fun a h z=>?_⟩
    rcases Zp.mp z with z | z
    ·exact n'.2.2 a z (a1 a h)
    ·exact q.2.2 a h z
   ·exact ⟨[],fm,h1.bor hB fz.left,a5 B1 hB fz.right bn,rfl⟩
   ·match Γ',μ',h with
    | [],[],h=>exact h.elim
    | [],_::_,h=>exact h.elim
    | _::_,[],h=>exact h.elim
    | g'::Γ',m'::μ',h=>
     obtain ⟨f1,f2,q1,q2,rfl⟩:=h
     have c': ((!false || closed m' || decide (m'= .U) || decide (m'= .X)) && Jv M μ')=true:=c
     rw [Zb] at c'
     obtain ⟨fx,r1,r2,r3⟩:=a6 B' H' Γ' μ' f2 q2 c'.2 (fun a h=>bn a (Zr _ h)) fun a h=>k a (Zr _ h)
     refine ⟨fp1++fx,⟨fp1,fx,h1.mono (Same.refl _) fun a h=>⟨k a (Zl _ h),(h1.own a h).1⟩,r1,rfl⟩,fun n1 n2 n3=>?_,fun a h=>?_⟩
     ·have n':=J0.mp n1
      have m':=J0.mp n2
      refine J0.mpr ⟨m'.1,r2 n'.2.1 m'.2.1 (fun a h q=>n3 a (Zr _ h) (Zr _ q)),fun x hx hy=>?_⟩
      rcases r3 x hy with z | z
      ·exact n3 x (Zr _ z) (Zl _ hx)
      ·exact m'.2.2 x hx z
     ·rcases Zp.mp h with h | h
      ·exact .inr (Zl _ h)
      ·exact (r3 a h).imp (fun z=>Zr _ z) fun z=>Zr _ z
 | [],_,_::_,_,_,hl,_=>by cases hl
 | _::_,_,[],_,_,hl,_=>by cases hl
 | [],_::_,[],_,_,_,h=>h.elim
 | [],[],[],_::_,_,_,h=>h.elim
 | _::_,[],_::_,_,_,_,h=>h.elim
 | _::_,_::_,_::_,[],_,_,h=>h.elim
end
noncomputable def J4s {α:Type} (M:List Bool) (f:Gam→Rz α) (Γ:Gam):Rz α:=match f Γ with
 | .ok d Γ'=> .ok d (J5j M Γ Γ')
 | .exc x Γ'=> .exc x (J5j M Γ Γ')
 | .bad=> .bad
noncomputable def Wh.bor (w:Wh) (μ1:List Mode):Wh:=⟨w.W,μ1⟩
section
variable {X:Cx} {w:Wh} {μ μ' μ1 μ2:List Mode} {e a b c:Expr} {es:List Expr} {f g:Gam→Rz D} {m m' m1 m2:Mode} {pos:Pos} {M:List Bool}
theorem J9c {K:Zf} {B H:Hp} {Γ:Gam} {σ:St} {fp:List Addr} (hl:M.length=μ.length) (st:Sta K B H Γ μ σ fp):∃B1 fm,Sta K B1 H Γ (J7e M μ) σ fm∧
  (∀B' H' Γ' μ' fpv fp',Stp B1 H fm B' H' (fpv++fp')→Sta K B' H' Γ' μ' σ fp'→Jv M μ'=true→(fpv++fp').Nodup→∃fx,Stp B H fp B H' (fpv++fx)∧Sta K B H' (J5j M Γ Γ') (J44 M μ μ') σ fx∧(fpv++fx).Nodup∧∀a∈fpv,B a=none):=by
 classical
 obtain ⟨fm,fr,a1,a2,a3,a4,a5,a6⟩:=StR.bor (M:=M) hl st.st
 have n:=a4 st.nd
 have own:=st.st.own
 -- all but fm is frozen (the tables that the base marks stay marked)
 let B1:Hp:=fun a=>if a∈fm then none else match B a with
  | some o=>some o
  | none=>if ∃q,H a=some (J7b q) then none else H a
 have b1in:∀a∈fm,B1 a=none:=fun a h=>if_pos h
 have b1b:∀a o,a∉fm→B a=some o→B1 a=some o:=fun a o h e=>by
  show (if a∈fm then none else match B a with
   | some o=>some o
   | none=>if ∃q,H a=some (J7b q) then none else H a)=_
  rw [if_neg h,e]
 have b1e:∀a,a∉fm→B a=none→B1 a=if ∃q,H a=some (J7b q) then none else H a:=fun a h e=>by
  show (if a∈fm then none else match B a with
   | some o=>some o
   | none=>if ∃q,H a=some (J7b q) then none else H a)=_
  rw [if_neg h,e]
 have b1h:∀a o,a∉fm→B a=none→H a=some o→J8p o→B1 a=some o:=fun a o h e eo n=>by
  rw [b1e a h e,if_neg (fun ⟨q,z⟩=>n q (Option.some.inj (eo.symm.trans z)))];exact eo
 have hB1:Same B B1:=fun a o e=>b1b a o (fun q=>by
   have:=(own a (a1 a q)).1
   rw [this] at e;cases e) e
 have hB1H:Lies K B1 H:=⟨fun a o e=>by
  by_cases q:a∈fm
  ·rw [b1in a q] at e;cases e
  ·cases h:B a with
   | none=>
    rw [b1e a q h] at e
    split at e
    ·cases e
    ·exact .inl e
   | some u=>
    rw [b1b a u q h] at e
    cases e
    exact st.same.at_ a _ h,fun p hp=>hB1 _ _ (st.same.tags p hp),st.same.tabs⟩
 have fz:Jb B1 H fr:=fun a h o e nt=>b1h a o (fun q=>n.2.2 a q h) (own a (a2 a h)).1 e nt
 refine ⟨B1,fm,⟨hB1H,a5 B1 hB1 fz b1in,n.1⟩,fun B' H' Γ' μ' fpv fp' s st' cl nd=>?_⟩
 ·have nB:∀a∈fpv++fp',B a=none:=fun a h=>by
   rcases s.own a h with z | z
   ·exact (own a (a1 a z)).1
   ·exact st.same.free z
  -- what stood in the heap,but for fm and the tables,stands still
  have kp:∀a o,a∉fm→H a=some o→B a=none→H' a=some o:=fun a o h e b=>by
   by_cases tg:∃q,H a=some (J7b q)
   ·exact s.keepB h e (by rw [b1e a h b,if_pos tg])
   ·have nt:J8p o:=fun q z=>tg ⟨q,by rw [e,z]⟩
    exact st'.same.get (s.base a o (b1h a o h b e nt)) nt
  have frk:∀a∈fr,∀o,H a=some o→H' a=some o:=fun a h o e=>kp a o (fun q=>n.2.2 a q h) e (own a (a2 a h)).1
  obtain ⟨fx,r1,r2,r3⟩:=a6 B' H' Γ' μ' fp' st'.st cl (fun a h=>nB a (Zr _ h)) frk
  have n':=J0.mp nd
  have dj:∀a∈fpv++fp',a∉fr:=fun a h q=>by
   rcases s.own a h with z | z
   ·exact n.2.2 a z q
   ·obtain ⟨o,e⟩:=(own a (a2 a q)).2
    rw [e] at z;cases z
  refine ⟨fx,⟨Same.refl _,fun a o na e=>?_,fun a h=>?_,fun a o e=> .inl e⟩,⟨⟨fun a o e=>?_,st.same.tags,st'.same.tabs⟩,r1,r2 n'.2.1 n.2.1 fun a h=>dj a (Zr _ h)⟩,
   J0.mpr ⟨n'.1,r2 n'.2.1 n.2.1 (fun a h=>dj a (Zr _ h)),fun a h q=>?_⟩,fun a h=>nB a (Zl _ h)⟩
  ·cases b:B a with
   | none=>exact .inl (kp a o (fun q=>na (a1 a q)) e b)
   | some u=>
    obtain ⟨o',e'⟩:=s.there (fun q=>na (a1 a q)) e
    exact .inr ⟨by simp,by rw [e'];simp⟩
  ·rcases Zp.mp h with h | h
   ·exact (s.own a (Zl _ h)).imp (a1 a) id
   ·rcases r3 a h with z | z
    ·exact (s.own a (Zr _ z)).imp (a1 a) id
    ·exact .inl (a2 a z)
  ·exact st'.same.at_ a o (s.base a o (hB1 a o e))
  ·rcases r3 a q with z | z
   ·exact n'.2.2 a h z
   ·exact dj a (Zl _ h) z
theorem J6h.rebase {K:Zf} {B B' H:Hp} {x:Xc} {cls:Value} {dd:Option Addr} {fp:List Addr} (h:J6h K B H x cls dd fp) (k:∀a∈fp,B' a=none):J6h K B' H x cls dd fp:=by
 obtain ⟨e,d,fs,vs,fq,e1,b0,hd,r,hl,hf,rfl⟩:=h
 exact ⟨e,d,fs,vs,fq,e1,k d Zs,hd,r.rebase x.ds rfl fun a h=>⟨fun o e=>e,k a (Zc _ h)⟩,hl,hf,rfl⟩
theorem DE.bor (hl:M.length=μ.length) (h:DE X (w.bor μ1) (J7e M μ) e f m μ') (cm:closed m=true) (c1:Jv M μ'=true) (c2:Jv M μ1=true) (wk:J6 (J44 M μ μ1) w.μx=true):DE X w μ e (J4s M f) m (J44 M μ μ'):=by
 refine ⟨h.pe.imp fun σ H Q ⟨B,Γ,fp,st,q⟩=>?_⟩
 obtain ⟨B1,fm,st1,back⟩:=J9c hl st
 refine ⟨B1,Γ,fm,st1,?_⟩
 unfold J4s at q
 revert q
 cases f Γ with
 | ok d Γ'=>
  intro q B' H' v fpv fp' s st' r nd
  obtain ⟨fx,s2,st2,nd2,nB⟩:=back B' H' Γ' μ' fpv fp' s st' c1 nd
  exact q B H' v fpv fx s2 st2 (r.rebase d cm fun a h=>⟨fun o e=>e,nB a h⟩) nd2
 | exc x Γ'=>
  intro q B' H' fpe fp' cls dd s st' ex nd
  obtain ⟨fx,s2,st2,nd2,nB⟩:=back B' H' Γ' μ1 fpe fp' s st' c2 nd
  obtain ⟨B3,fy,s3,st3,k3⟩:=st2.weak (l:=fpe) wk (fun a h=>⟨nB a h,by
   obtain ⟨_,d,fs,vs,fq,_,b0,hd,r,_,_,rfl⟩:=ex
   rcases Zo.mp h with rfl | h
   ·exact ⟨_,hd⟩
   ·exact (Rl.own x.ds r a h).2⟩) (J0.mp nd2).2.2
  have n2:=J0.mp nd2
  refine q B3 H' fpe fy cls dd (s2.seq s3) st3 ((ex.rebase nB).rebase fun a h=>(k3 a h).2) (J0.mpr ⟨n2.1,st3.nd,s3.apart (fun a h=>?_) n2.2.2⟩)
  obtain ⟨_,d,fs,vs,fq,_,b0,hd,r,_,_,rfl⟩:=ex
  rcases Zo.mp h with rfl | h
  ·exact ⟨_,hd⟩
  ·exact (Rl.own x.ds r a h).2
 | bad=>exact id
theorem DT.bor {f:Gam→Rz Bool} (hl:M.length=μ.length) (h:DT X (w.bor μ1) (J7e M μ) e f μ') (c1:Jv M μ'=true) (c2:Jv M μ1=true) (wk:J6 (J44 M μ μ1) w.μx=true):DT X w μ e (J4s M f) (J44 M μ μ'):=by
 refine ⟨h.pt.imp fun σ H Q ⟨B,Γ,fp,st,q⟩=>?_⟩
 obtain ⟨B1,fm,st1,back⟩:=J9c hl st
 refine ⟨B1,Γ,fm,st1,?_⟩
 unfold J4s at q
 revert q
 cases f Γ with
 | ok d Γ'=>
  intro q B' H' fp' s st'
  obtain ⟨fx,s2,st2,nd2,nB⟩:=back B' H' Γ' μ' [] fp' s st' c1 st'.nd
  exact q B H' fx s2 st2
 | exc x Γ'=>
  intro q B' H' fpe fp' cls dd s st' ex nd
  obtain ⟨fx,s2,st2,nd2,nB⟩:=back B' H' Γ' μ1 fpe fp' s st' c2 nd
  obtain ⟨B3,fy,s3,st3,k3⟩:=st2.weak (l:=fpe) wk (fun a h=>⟨nB a h,by
   obtain ⟨_,d,fs,vs,fq,_,b0,hd,r,_,_,rfl⟩:=ex
   rcases Zo.mp h with rfl | h
   ·exact ⟨_,hd⟩
   ·exact (Rl.own x.ds r a h).2⟩) (J0.mp nd2).2.2
  have n2:=J0.mp nd2
  refine q B3 H' fpe fy cls dd (s2.seq s3) st3 ((ex.rebase nB).rebase fun a h=>(k3 a h).2) (J0.mpr ⟨n2.1,st3.nd,s3.apart (fun a h=>?_) n2.2.2⟩)
  obtain ⟨_,d,fs,vs,fq,_,b0,hd,r,_,_,rfl⟩:=ex
  rcases Zo.mp h with rfl | h
  ·exact ⟨_,hd⟩
  ·exact (Rl.own x.ds r a h).2
 | bad=>exact id
noncomputable def eB (f:Gam→Rz D) (Γ:Gam):Rz Bool:=(f Γ).bind fun d Γ1=>match d with
 | .bl b=> .ok b Γ1
 | _=> .bad
theorem Jfq {K:Zf} {σ:St} {H:Hp} {Q:Bool→Hp→Prop} (q:tDT K w μ (eB f) μ' σ H Q):tD K w μ f m μ' σ H fun x H'=>∃k,x= .bl k∧Q k H':=by
 obtain ⟨B,Γ,fp,st,q⟩:=q
 refine ⟨B,Γ,fp,st,?_⟩
 unfold eB at q
 revert q
 cases f Γ with
 | ok d Γ'=>
  cases d with
  | bl b=>
   intro q B' H' v fpv fp' s st' r nd
   obtain ⟨rfl,rfl⟩:=r
   exact ⟨b,rfl,q B' H' fp' s st'⟩
  | _=>exact fun q=>q.elim
 | exc x Γ'=>exact id
 | bad=>exact id
theorem DT.val (h:DE X w μ e f m μ') (he:∀whole,isTrue e X.env whole= (do let v ← whole;standAt e.pos;holding [v] (truthy v))):DT X w μ e (eB f) μ':=
 ⟨(pt_val h.pe he).imp fun _ _ _ q=>Jfq q⟩
theorem DT.cmp {op:CmpOp} {r:R2} {h:D→D→Option D} (ho:OpR X (compareOp op) r) (hm:behindInMarks op b=false) (od:OpD X.K r m1 m2 h m) (ha:DE X w μ a f m1 μ1) (hb:DE X w μ1 b g m2 μ2):DT X w μ (.Compare a [op] [b] pos) (eB (e2 h f g)) μ2:=
 ⟨(pt_cmpR ho ha.pe hb.pe hm).imp fun σ H Q q=>by
  show tOp r _ _ σ H _
  exact Ja3 od (Jfq q)⟩
noncomputable def Jjs (f:Gam→Rz Bool) (Γ:Gam):Rz Bool:=(f Γ).bind fun b Γ1=> .ok (!b) Γ1
theorem DT.not {f:Gam→Rz Bool} (h:DT X w μ a f μ'):DT X w μ (.UnaryOp .Not a pos) (Jjs f) μ':=
 ⟨(pt_not h.pt).imp fun σ H Q ⟨B,Γ,fp,st,q⟩=>⟨B,Γ,fp,st,by
  unfold Jjs at q
  revert q
  cases f Γ with
  | ok d Γ'=>exact id
  | exc x Γ'=>exact id
  | bad=>exact id⟩⟩
noncomputable def Jjt (f g:Gam→Rz Bool) (Γ:Gam):Rz Bool:=(f Γ).bind fun b Γ1=>if b=true then g Γ1 else .ok false Γ1
noncomputable def eOr (f g:Gam→Rz Bool) (Γ:Gam):Rz Bool:=(f Γ).bind fun b Γ1=>if b=true then .ok true Γ1 else g Γ1
theorem DW.and1 {f:Gam→Rz Bool} (h:DT X w μ a f μ'):DW X w μ (.BoolOp .And [a] pos) f μ':=⟨pw_and1 h.pt⟩
theorem DW.or1 {f:Gam→Rz Bool} (h:DT X w μ a f μ'):DW X w μ (.BoolOp .Or [a] pos) f μ':=⟨pw_or1 h.pt⟩
theorem DT.of {f:Gam→Rz Bool} (h:DW X w μ a f μ'):DT X w μ a f μ':=⟨h.pw.pt⟩
theorem DW.and {f g:Gam→Rz Bool} {rest:List Expr} (h:DT X w μ a f μ') (h2:DW X w μ' (.BoolOp .And (b::rest) pos) g μ'):DW X w μ (.BoolOp .And (a::b::rest) pos) (Jjt f g) μ':=by
 refine ⟨(pw_and h.pt h2.pw).imp fun σ H Q ⟨B,Γ,fp,st,q⟩=>⟨B,Γ,fp,st,?_⟩⟩
 unfold Jjt at q
 revert q
 cases f Γ with
 | ok d Γ'=>
  cases d with
  | false=>
   intro q B' H' fp' s st'
   show Q false H'
   exact q B' H' fp' s st'
  | true=>
   intro q B' H' fp' s st'
   show tDT X.K w μ' g μ' σ H' Q
   refine ⟨B',Γ',fp',st',?_⟩
   revert q
   show (match g Γ' with
    | .ok b Γ'=>_
    | .exc x Γ'=>_
    | .bad=>_)→_
   cases g Γ' with
   | ok d Γ2=>exact fun q B2 H2 fp2 s2 st2=>q B2 H2 fp2 (s.trans s2) st2
   | exc x Γ2=>exact fun q=>J18.after (l:= []) q s
   | bad=>exact id
 | exc x Γ'=>exact id
 | bad=>exact id
theorem DW.or {f g:Gam→Rz Bool} {rest:List Expr} (h:DT X w μ a f μ') (h2:DW X w μ' (.BoolOp .Or (b::rest) pos) g μ'):DW X w μ (.BoolOp .Or (a::b::rest) pos) (eOr f g) μ':=by
 refine ⟨(pw_or h.pt h2.pw).imp fun σ H Q ⟨B,Γ,fp,st,q⟩=>⟨B,Γ,fp,st,?_⟩⟩
 unfold eOr at q
 revert q
 cases f Γ with
 | ok d Γ'=>
  cases d with
  | true=>
   intro q B' H' fp' s st'
   show Q true H'
   exact q B' H' fp' s st'
  | false=>
   intro q B' H' fp' s st'
   show tDT X.K w μ' g μ' σ H' Q
   refine ⟨B',Γ',fp',st',?_⟩
   revert q
   show (match g Γ' with
    | .ok b Γ'=>_
    | .exc x Γ'=>_
    | .bad=>_)→_
   cases g Γ' with
   | ok d Γ2=>exact fun q B2 H2 fp2 s2 st2=>q B2 H2 fp2 (s.trans s2) st2
   | exc x Γ2=>exact fun q=>J18.after (l:= []) q s
   | bad=>exact id
 | exc x Γ'=>exact id
 | bad=>exact id
noncomputable def Jlw (f g:Gam→Rz D) (Γ:Gam):Rz D:=(f Γ).bind fun d Γ1=>match d with
 | .bl true=>g Γ1
 | .bl false=> .ok (.bl false) Γ1
 | _=> .bad
noncomputable def Jow (f g:Gam→Rz D) (Γ:Gam):Rz D:=(f Γ).bind fun d Γ1=>match d with
 | .bl false=>g Γ1
 | .bl true=> .ok (.bl true) Γ1
 | _=> .bad
noncomputable def Jlx (f:Gam→Rz D):Gam→Rz D:=e1 (fun d=>match d with | .bl b=>some (.bl (!b)) | _=>none) f
noncomputable def eIf (t:Gam→Rz Bool) (f g:Gam→Rz D) (Γ:Gam):Rz D:=(t Γ).bind fun b Γ1=>if b=true then f Γ1 else g Γ1
theorem J7f {K:Zf} {σ:St} {B0 H0 B H:Hp} {fp0 l fp:List Addr} {Γ:Gam} {Q:VK} (s:Stp B0 H0 fp0 B H (l++fp)) (st:Sta K B H Γ μ σ fp)
  (q:match f Γ with
   | .ok d Γ'=>∀B' H' v fpv fp',Stp B0 H0 fp0 B' H' (fpv++fp')→Sta K B' H' Γ' μ' σ fp'→R K B' H' d m v fpv→(fpv++fp').Nodup→Q v H'
   | .exc x Γ'=>J18 K w B0 H0 fp0 σ x Γ'
   | .bad=>False):tD K w μ f m μ' σ H Q:=by
 refine ⟨B,Γ,fp,st,?_⟩
 revert q
 cases f Γ with
 | ok d Γ2=>exact fun q B2 H2 v fpv fp2 s2 st2=>q B2 H2 v fpv fp2 ((s.less fun a h=>Zr _ h).trans s2) st2
 | exc x Γ2=>exact fun q=>J18.after q s
 | bad=>exact id
theorem DE.one {op:BoolOp} (h:DE X w μ a f m μ'):DE X w μ (.BoolOp op [a] pos) f m μ':=⟨pe_one h.pe⟩
theorem DE.and {rest:List Expr} (h:DE X w μ a f m1 μ') (h2:DE X w μ' (.BoolOp .And (b::rest) pos) g m μ'):DE X w μ (.BoolOp .And (a::b::rest) pos) (Jlw f g) m μ':=by
 refine ⟨(pe_and h.pe h2.pe).imp fun σ H Q ⟨B,Γ,fp,st,q⟩=>⟨B,Γ,fp,st,?_⟩⟩
 unfold Jlw at q
 revert q
 cases f Γ with
 | ok d Γ'=>
  cases d with
  | bl k=>
   intro q B' H' v fpv fp' s st' r nd
   obtain ⟨rfl,rfl⟩:=r
   refine ⟨k,rfl,?_⟩
   cases k with
   | true=>exact J7f s st' q
   | false=>exact q B' H' (.bl false) [] fp' s st' ⟨rfl,rfl⟩ nd
  | _=>exact fun q=>q.elim
 | exc x Γ'=>exact id
 | bad=>exact id
theorem DE.or {rest:List Expr} (h:DE X w μ a f m1 μ') (h2:DE X w μ' (.BoolOp .Or (b::rest) pos) g m μ'):DE X w μ (.BoolOp .Or (a::b::rest) pos) (Jow f g) m μ':=by
 refine ⟨(pe_or h.pe h2.pe).imp fun σ H Q ⟨B,Γ,fp,st,q⟩=>⟨B,Γ,fp,st,?_⟩⟩
 unfold Jow at q
 revert q
 cases f Γ with
 | ok d Γ'=>
  cases d with
  | bl k=>
   intro q B' H' v fpv fp' s st' r nd
   obtain ⟨rfl,rfl⟩:=r
   refine ⟨k,rfl,?_⟩
   cases k with
   | false=>exact J7f s st' q
   | true=>exact q B' H' (.bl true) [] fp' s st' ⟨rfl,rfl⟩ nd
  | _=>exact fun q=>q.elim
 | exc x Γ'=>exact id
 | bad=>exact id
theorem DE.not (h:DE X w μ a f m μ'):DE X w μ (.UnaryOp .Not a pos) (Jlx f) .Z μ':=by
 refine ⟨(pe_not h.pe).imp fun σ H Q ⟨B,Γ,fp,st,q⟩=>⟨B,Γ,fp,st,?_⟩⟩
 unfold Jlx e1 at q
 revert q
 cases f Γ with
 | ok d Γ'=>
  cases d with
  | bl k=>
   intro q B' H' v fpv fp' s st' r nd
   obtain ⟨rfl,rfl⟩:=r
   exact ⟨k,rfl,q B' H' (.bl !k) [] fp' s st' ⟨rfl,rfl⟩ nd⟩
  | _=>exact fun q=>q.elim
 | exc x Γ'=>exact id
 | bad=>exact id
theorem DE.ifE {t:Gam→Rz Bool} (hc:DT X w μ c t μ1) (h:DE X w μ1 a f m μ') (h2:DE X w μ1 b g m μ'):DE X w μ (.IfExp c a b pos) (eIf t f g) m μ':=by
 refine ⟨(pe_ifExp hc.pt h.pe h2.pe).imp fun σ H Q ⟨B,Γ,fp,st,q⟩=>⟨B,Γ,fp,st,?_⟩⟩
 unfold eIf at q
 revert q
 cases t Γ with
 | ok k Γ'=>
  intro q B' H' fp' s st'
  cases k with
  | true=>exact J7f (l:= []) s st' q
  | false=>exact J7f (l:= []) s st' q
 | exc x Γ'=>exact id
 | bad=>exact id
end
inductive Fo where
 | ok (d:D) (io:List (Option D)) | exc (x:Xc) (io:List (Option D)) | bad
noncomputable def Ro (K:Zf) (B H:Hp):List (Option D)→List Mode→List V→List Addr→Prop
 | [],[],vs,fp=>vs= []∧fp= []
 | g::io,m::ms,vs,fp=>∃v r fp1 fp2,vs=v::r∧SlR K B H g m (some v) fp1∧Ro K B H io ms r fp2∧fp=fp1++fp2
 | _,_,_,_=>False
section
variable {K:Zf} {B H B' H':Hp}
theorem Ro.take:∀{io:List (Option D)} {ms:List Mode} {vs:List V} {fp:List Addr} {p:Nat} {m:Mode} {v:V},Ro K B H io ms vs fp→ms[p]? =some m→vs[p]? =some v→
  ∃g fa fb,io[p]? =some g∧SlR K B H g m (some v) fa∧Ro K B H (io.set p none) ms vs fb∧(fp.Nodup→(fa++fb).Nodup)∧∀a,a∈fa++fb↔a∈fp
 | g::io,m::ms,vs,fp,0,m1,v1,h,e1,e2=>by
  obtain ⟨v,r,fp1,fp2,rfl,h1,h2,rfl⟩:=h
  cases e1;cases e2
  exact ⟨g,fp1,fp2,rfl,h1,⟨_,r,[],fp2,rfl,rfl,h2,rfl⟩,fun q=>q,fun a=>Iff.rfl⟩
 | g::io,m::ms,vs,fp,p + 1,m1,v1,h,e1,e2=>by
  obtain ⟨v,r,fp1,fp2,rfl,h1,h2,rfl⟩:=h
  obtain ⟨g',fa,fb,q0,q2,q3,q4,q5⟩:=Ro.take (p:=p) h2 e1 e2
  refine ⟨g',fa,fp1++fb,q0,q2,⟨v,r,fp1,fb,rfl,h1,q3,rfl⟩,fun nd=>?_,fun a=>?_⟩
  ·rw [J0] at nd
   have n2:=J0.mp (q4 nd.2.1)
   rw [J0,J0]
   refine ⟨n2.1,⟨nd.1,n2.2.1,fun x hx hb=>nd.2.2 x hx ((q5 x).mp (Zr _ hb))⟩,fun x hx hb=>?_⟩
   rcases Zp.mp hb with hb | hb
   ·exact nd.2.2 x hb ((q5 x).mp (Zl _ hx))
   ·exact n2.2.2 x hx hb
  ·have:=q5 a
   simp only [Zp] at this ⊢
   constructor
   ·rintro (h | h | h)
    ·exact .inr (this.mp (.inl h))
    ·exact .inl h
    ·exact .inr (this.mp (.inr h))
   ·rintro (h | h)
    ·exact .inr (.inl h)
    ·rcases this.mpr h with h | h
     ·exact .inl h
     ·exact .inr (.inr h)
 | [],_::_,_,_,_,_,_,h,_,_=>h.elim
 | [],[],_,_,_,_,_,h,e,_=>by cases e
 | _::_,[],_,_,_,_,_,h,_,_=>h.elim
end
noncomputable def spD (K:Zf) (pm:List Mode) (rm:Mode) (F:List D→Fo):Sp:=fun vs H Q E=>∃B ds fp,Lies K B H∧Ra K B H ds pm vs fp∧fp.Nodup∧match F ds with
 | .ok d io=>∀B' H' v fpv fp',Stp B H fp B' H' (fpv++fp')→Lies K B' H'→R K B' H' d rm v fpv→Ro K B' H' io pm vs fp'→(fpv++fp').Nodup→Q v H'
 | .exc x io=>∀B' H' fpe fp' cls dd,Stp B H fp B' H' (fpe++fp')→Lies K B' H'→J6h K B' H' x cls dd fpe→Ro K B' H' io pm vs fp'→(fpe++fp').Nodup→E cls dd H'
 | .bad=>False
noncomputable abbrev Ios:=List (Nat × Nat)
noncomputable def Jay (ios:Ios) (vs:List V) (σ:St):Prop:=∀q∈ios,∃v,vs[q.1]? =some v∧σ[q.2]? =some (some v)
noncomputable def Jaz (K:Zf) (w:Wh) (μ:List Mode) (f:Gam→Rz (List D)) (ms:List Mode) (ios:Ios) (μ':List Mode):TA:=fun σ H Q=>∃B Γ fp,Sta K B H Γ μ σ fp∧match f Γ with
 | .ok ds Γ'=>∀B' H' vs fpv fp',Stp B H fp B' H' (fpv++fp')→Sta K B' H' Γ' μ' σ fp'→Ra K B' H' ds ms vs fpv→(fpv++fp').Nodup→Jay ios vs σ→Q vs H'
 | .exc x Γ'=>J18 K w B H fp σ x Γ'
 | .bad=>False
structure DAi (X:Cx) (w:Wh) (μ:List Mode) (es:List Expr) (f:Gam→Rz (List D)) (ms:List Mode) (ios:Ios) (μ':List Mode):Prop where
 pa:PA X es (Jaz X.K w μ f ms ios μ')
noncomputable def shift (ios:Ios):Ios:=ios.map fun q=>(q.1 + 1,q.2)
theorem Jay.shift {ios:Ios} {v:V} {vs:List V} {σ:St} (h:Jay ios vs σ):Jay (shift ios) (v::vs) σ:=fun q hq=>by
 obtain ⟨p,hp,rfl⟩:=Zm.mp hq
 obtain ⟨u,h1,h2⟩:=h p hp
 exact ⟨u,by simpa using h1,h2⟩
section
variable {X:Cx} {w:Wh} {μ μ' μ1 μ2:List Mode} {e a b:Expr} {es:List Expr} {f g:Gam→Rz D} {m m' m1 m2:Mode} {pos:Pos} {r:Gam→Rz (List D)} {ms:List Mode} {ios:Ios}
theorem DAi.nil:DAi X w μ [] J1z [] [] μ:=⟨pa_nil.imp fun σ H Q ⟨B,Γ,fp,st,q⟩=>q B H [] [] fp (Stp.refl _ _ _) st ⟨rfl,rfl⟩ st.nd fun _ h=>nomatch h⟩
theorem DAi.cons (ha:DE X w μ a f m μ1) (hr:DAi X w μ1 es r ms ios μ2) (hs:starEach (a::es) X.env= (false,eval a X.env)::starEach es X.env):DAi X w μ (a::es) (Jj f r) (m::ms) (shift ios) μ2:=by
 refine ⟨(pa_cons ha.pe hr.pa hs).imp fun σ H Q ⟨B,Γ,fp,st,q⟩=>⟨B,Γ,fp,st,?_⟩⟩
 unfold Jj at q
 cases e1:f Γ with
 | bad=>rw [e1] at q;exact q.elim
 | exc x Γ'=>rw [e1] at q;exact q
 | ok x Γ1=>
  rw [e1] at q
  intro B1 H1 u fu fp1 s1 st1 r1 n1
  refine ⟨B1,Γ1,fp1,st1,?_⟩
  simp only [Rz.bind] at q
  show match r Γ1 with
   | .ok d Γ'=>_
   | .exc x Γ'=>_
   | .bad=>_
  cases e2:r Γ1 with
  | bad=>rw [e2] at q;exact q.elim
  | exc x Γ'=>rw [e2] at q;exact J18.after q s1
  | ok xs Γ2=>
   rw [e2] at q
   intro B2 H2 vs fv fp2 s2 st2 r2 n2 io
   have r1':R X.K B2 H2 x m u fu:=r1.over (s2.less fun a h=>Zr _ h) n1
   have nn: (fu++ (fv++fp2)).Nodup:=J1s (fun a h=>(R.own x r1 a h).2) s2 n1 n2
   refine q B2 H2 (u::vs) (fu++fv) fp2 ?_ st2 ⟨u,vs,fu,fv,rfl,r1',r2,rfl⟩ (by rw [List.append_assoc];exact nn) io.shift
   have:=s1.seq s2
   rwa [← List.append_assoc] at this
theorem DAi.io {i:Nat} {x:Str} (hN:X.N[i]? =some x) (hv:Vis X.env.scope x) (hd: (x == ("__debug__" :Str))=false) (hcd: (x == ("__classdict__" :Str))=false) (hm:μ[i]? =some m) (hf:nX m)
  (hr:DAi X w (μ.set i .U) es r ms ios μ2) (hs:starEach (.Name x pos::es) X.env= (false,eval (.Name x pos) X.env)::starEach es X.env):DAi X w μ (.Name x pos::es) (Jj (eMv i) r) (m::ms) ((0,i)::shift ios) μ2:=by
 refine ⟨(pa_cons (pe_var hN hv hd hcd) hr.pa hs).imp fun σ H Q ⟨B,Γ,fp,st,q⟩=>?_⟩
 unfold Jj eMv at q
 cases e:J4 Γ i with
 | none=>rw [e] at q;exact q.elim
 | some x=>
  rw [e] at q
  obtain ⟨u,fu,fp1,h1,r1,h3,h4,h5⟩:=StR.take (m0:= .U) st.st (J9 e) hm hf
  have n1:=h4 st.nd
  have s1:Stp B H fp B H (fu++fp1):=(Stp.refl _ _ _).less fun a h=>(h5 a).mp h
  refine ⟨u,h1,B,Γ.set i none,fp1,⟨st.same,h3,(J0.mp n1).2.1⟩,?_⟩
  simp only [Rz.bind,Rz.opt] at q
  show match r (Γ.set i none) with
   | .ok d Γ'=>_
   | .exc x Γ'=>_
   | .bad=>_
  cases e2:r (Γ.set i none) with
  | bad=>rw [e2] at q;exact q.elim
  | exc x Γ'=>rw [e2] at q;exact J18.after q s1
  | ok xs Γ2=>
   rw [e2] at q
   intro B2 H2 vs fv fp2 s2 st2 r2 n2 io
   have r1':R X.K B2 H2 x m u fu:=r1.over (s2.less fun a h=>Zr _ h) n1
   have nn: (fu++ (fv++fp2)).Nodup:=J1s (fun a h=>(R.own x r1 a h).2) s2 n1 n2
   refine q B2 H2 (u::vs) (fu++fv) fp2 ?_ st2 ⟨u,vs,fu,fv,rfl,r1',r2,rfl⟩ (by rw [List.append_assoc];exact nn) fun p hp=>?_
   ·have:=s1.seq s2
    rwa [← List.append_assoc] at this
   ·rcases Zo.mp hp with rfl | hp
    ·exact ⟨u,rfl,h1⟩
    ·exact io.shift p hp
noncomputable def Jju (i:Nat) (r:Gam→Rz (List D)) (Γ:Gam):Rz (List D):=match J4 Γ i with
 | some _=>(r Γ).bind fun xs Γ2=>(match J4 Γ2 i with
  | some d=> .ok (d::xs) (Γ2.set i none)
  | none=> .bad)
 | none=> .bad
theorem DAi.ioL {i:Nat} {x:Str} {m0:Mode} (hN:X.N[i]? =some x) (hv:Vis X.env.scope x) (hd: (x == ("__debug__" :Str))=false) (hcd: (x == ("__classdict__" :Str))=false) (hm0:μ[i]? =some m0) (hf0:nX m0)
  (hr:DAi X w μ es r ms ios μ2) (hm:μ2[i]? =some m) (hf:nX m) (hs:starEach (.Name x pos::es) X.env= (false,eval (.Name x pos) X.env)::starEach es X.env):DAi X w μ (.Name x pos::es) (Jju i r) (m::ms) ((0,i)::shift ios) (μ2.set i .U):=by
 refine ⟨(pa_cons (pe_var hN hv hd hcd) hr.pa hs).imp fun σ H Q ⟨B,Γ,fp,st,q⟩=>?_⟩
 unfold Jju at q
 cases e:J4 Γ i with
 | none=>rw [e] at q;exact q.elim
 | some x0=>
  rw [e] at q
  obtain ⟨u,_,_,h1,_⟩:=StR.take (m0:= .U) st.st (J9 e) hm0 hf0
  refine ⟨u,h1,B,Γ,fp,st,?_⟩
  show match r Γ with
   | .ok d Γ'=>_
   | .exc x Γ'=>_
   | .bad=>_
  cases e2:r Γ with
  | bad=>rw [e2] at q;exact q.elim
  | exc x Γ'=>rw [e2] at q;exact q
  | ok xs Γ2=>
   rw [e2] at q
   simp only [Rz.bind] at q
   intro B2 H2 vs fv fp2 s2 st2 r2 n2 io
   cases e3:J4 Γ2 i with
   | none=>rw [e3] at q;exact q.elim
   | some d=>
    rw [e3] at q
    obtain ⟨u',fu,fp1,g1,g2,g3,g4,g5⟩:=StR.take (m0:= .U) st2.st (J9 e3) hm hf
    rw [h1] at g1
    cases g1
    have n2':=J0.mp n2
    have n3:=J0.mp (g4 n2'.2.1)
    have fin:∀a,a∈fu→a∈fp2:=fun a h=>(g5 a).mp (Zl _ h)
    have f1n:∀a,a∈fp1→a∈fp2:=fun a h=>(g5 a).mp (Zr _ h)
    refine q B2 H2 (u::vs) (fu++fv) fp1 (s2.less fun a h=>?_) ⟨st2.same,g3,n3.2.1⟩ ⟨u,vs,fu,fv,rfl,g2,r2,rfl⟩ (J0.mpr ⟨J0.mpr ⟨n3.1,n2'.1,fun a h z=>n2'.2.2 a z (fin a h)⟩,n3.2.1,fun a h z=>?_⟩) fun p hp=>?_
    ·rcases Zp.mp h with h | h
     ·rcases Zp.mp h with h | h
      ·exact Zr _ (fin a h)
      ·exact Zl _ h
     ·exact Zr _ (f1n a h)
    ·rcases Zp.mp h with h | h
     ·exact n3.2.2 a h z
     ·exact n2'.2.2 a h (f1n a z)
    ·rcases Zo.mp hp with rfl | hp
     ·exact ⟨u,rfl,h1⟩
     ·exact io.shift p hp
noncomputable def J3f:Ios→List (Option D)→Gam→Gam
 | [],_,Γ=>Γ
 | (p,j)::q,io,Γ=>J3f q (io.set p none) (match io[p]? with
  | some (some d)=>Γ.set j (some d)
  | _=>Γ.set j none)
noncomputable def J6j:Ios→List Mode→List Mode→List Mode
 | [],_,μ=>μ
 | (p,j)::q,pm,μ=>J6j q pm (μ.set j (pm.getD p .U))
theorem StR.putO {K:Zf} {B H:Hp} {Γ:Gam} {μ:List Mode} {σ:St} {fp:List Addr} {i:Nat} {g:Option D} {m:Mode} {v:V} {fd:List Addr} (h:StR K B H Γ μ σ fp) (hi:σ[i]? =some (some v)) (hr:SlR K B H g m (some v) fd):
  ∃fp',StR K B H (Γ.set i g) (μ.set i m) σ fp'∧((fd++fp).Nodup→fp'.Nodup)∧∀a,a∈fp'→a∈fd++fp:=by
 induction Γ generalizing μ σ fp i with
 | nil=>
  cases μ <;> cases σ <;> first | exact h.elim | (cases hi)
 | cons g0 Γ ih=>
  match μ,σ,h with
  | m0::μ,s0::σ,h=>
   obtain ⟨fp1,fp2,h1,h2,rfl⟩:=h
   cases i with
   | zero=>
    have hi':s0=some v:=by simpa using hi
    subst hi'
    refine ⟨fd++fp2,⟨fd,fp2,hr,h2,rfl⟩,fun nd=>?_,fun a ha=>?_⟩
    ·rw [J0,J0] at nd
     rw [J0]
     exact ⟨nd.1,nd.2.1.2.1,fun x hx hb=>nd.2.2 x hx (Zr _ hb)⟩
    ·rcases Zp.mp ha with ha | ha
     ·exact Zl _ ha
     ·exact Zr _ (Zr _ ha)
   | succ i=>
    obtain ⟨fp',q1,q2,q3⟩:=ih h2 (i:=i) (by simpa using hi)
    refine ⟨fp1++fp',⟨fp1,fp',h1,q1,rfl⟩,fun nd=>?_,fun a ha=>?_⟩
    ·rw [J0,J0] at nd
     rw [J0]
     refine ⟨nd.2.1.1,q2 (J0.mpr ⟨nd.1,nd.2.1.2.1,fun x hx hb=>nd.2.2 x hx (Zr _ hb)⟩),fun x hx hb=>?_⟩
     rcases Zp.mp (q3 x hb) with hb | hb
     ·exact nd.2.2 x hb (Zl _ hx)
     ·exact nd.2.1.2.2 x hx hb
    ·rcases Zp.mp ha with ha | ha
     ·exact Zr _ (Zl _ ha)
     ·rcases Zp.mp (q3 a ha) with ha | ha
      ·exact Zl _ ha
      ·exact Zr _ (Zr _ ha)
  | [],_,h=>exact h.elim
  | _::_,[],h=>exact h.elim
theorem J9d {K:Zf} {B H:Hp}:∀{ios:Ios} {io:List (Option D)} {pm:List Mode} {vs:List V} {fp1:List Addr} {Γ:Gam} {μ:List Mode} {σ:St} {fp:List Addr},Ro K B H io pm vs fp1→StR K B H Γ μ σ fp→Jay ios vs σ→(fp1++fp).Nodup→
  ∃fp',StR K B H (J3f ios io Γ) (J6j ios pm μ) σ fp'∧fp'.Nodup∧∀a∈fp',a∈fp1++fp
 | [],io,pm,vs,fp1,Γ,μ,σ,fp,h,st,ok,nd=>⟨fp,st,(J0.mp nd).2.1,fun a h=>Zr _ h⟩
 | (p,j)::ios,io,pm,vs,fp1,Γ,μ,σ,fp,h,st,ok,nd=>by
  obtain ⟨v,e1,e2⟩:=ok (p,j) Zs
  have hlp:∃m,pm[p]? =some m:=by
   have:vs.length=pm.length:=by
    clear nd ok e1 st
    induction io generalizing pm vs fp1 with
    | nil=>cases pm with
     | nil=>rw [h.1];rfl
     | cons=>exact h.elim
    | cons g io ih=>cases pm with
     | nil=>exact h.elim
     | cons m pm=>
      obtain ⟨v,r,f1,f2,rfl,h1,h2,rfl⟩:=h
      simp [ih _ _ _ h2]
   have hp:p < pm.length:=by rw [← this];exact (List.getElem?_eq_some_iff.mp e1).1
   exact ⟨pm[p],Ze hp⟩
  obtain ⟨m,em⟩:=hlp
  obtain ⟨g,fa,fb,q0,q2,q3,q4,q5⟩:=h.take em e1
  have n:=J0.mp nd
  have nab:=J0.mp (q4 n.1)
  obtain ⟨fp2,p1,p2,p3⟩:=st.putO e2 q2
  have nfa: (fa++fp).Nodup:=J0.mpr ⟨nab.1,n.2.1,fun x hx hy=>n.2.2 x ((q5 x).mp (Zl _ hx)) hy⟩
  have nd2: (fb++fp2).Nodup:=J0.mpr ⟨nab.2.1,p2 nfa,fun x hx hy=>by
   rcases Zp.mp (p3 x hy) with z | z
   ·exact nab.2.2 x z hx
   ·exact n.2.2 x ((q5 x).mp (Zr _ hx)) z⟩
  obtain ⟨fp',r1,r2,r3⟩:=J9d q3 p1 (fun q hq=>ok q (Zc _ hq)) nd2
  refine ⟨fp',?_,r2,fun a h=>?_⟩
  ·show StR K B H (J3f ios (io.set p none) _) (J6j ios pm (μ.set j (pm.getD p .U))) σ fp'
   have e:pm.getD p .U=m:=by rw [Zg,em];rfl
   rw [e,q0]
   cases g <;> exact r1
  ·rcases Zp.mp (r3 a h) with z | z
   ·exact Zl _ ((q5 a).mp (Zr _ z))
   ·rcases Zp.mp (p3 a z) with z | z
    ·exact Zl _ ((q5 a).mp (Zl _ z))
    ·exact Zr _ z
noncomputable def J8q (F:List D→Fo) (ios:Ios) (dds:List D) (fa:Gam→Rz (List D)) (Γ:Gam):Rz D:=(fa Γ).bind fun ds Γ1=>match F (ds++dds) with
 | .ok d io=> .ok d (J3f ios io Γ1)
 | .exc x io=> .exc x (J3f ios io Γ1)
 | .bad=> .bad
theorem Ra.append {K:Zf} {B H:Hp}:∀{ds ds':List D} {ms ms':List Mode} {vs vs':List V} {fp fp':List Addr},Ra K B H ds ms vs fp→Ra K B H ds' ms' vs' fp'→Ra K B H (ds++ds') (ms++ms') (vs++vs') (fp++fp')
 | [],_,[],_,vs,_,fp,_,h,h'=>by rw [h.1,h.2];exact h'
 | d::ds,_,m::ms,_,vs,_,fp,_,h,h'=>by
  obtain ⟨v,r,fp1,fp2,rfl,h1,h2,rfl⟩:=h
  exact ⟨v,_,fp1,_,rfl,h1,Ra.append h2 h',by rw [List.append_assoc]⟩
 | [],_,_::_,_,_,_,_,_,h,_=>h.elim
 | _::_,_,[],_,_,_,_,_,h,_=>h.elim
theorem call_of {K:Zf} {F:List D→Fo} {pm:List Mode} {rm:Mode} {dds:List D} {dms:List Mode} {dvs:List V} {fa:Gam→Rz (List D)} {σ:St} {H:Hp} {Q:VK} (hdef:∀B H,Ra K B H dds dms dvs []) (hpm:pm=ms++dms) (wk:J6 (J6j ios pm μ1) w.μx=true)
  (q:tD K w μ (J8q F ios dds fa) rm (J6j ios pm μ1) σ H Q):Jaz K w μ fa ms ios μ1 σ H fun vs H1=>spD K pm rm F (vs++dvs) H1 Q (WE w.W σ):=by
 obtain ⟨B,Γ,fp,st,q⟩:=q
 refine ⟨B,Γ,fp,st,?_⟩
 unfold J8q at q
 cases e1:fa Γ with
 | bad=>rw [e1] at q;exact q.elim
 | exc x Γ'=>rw [e1] at q;exact q
 | ok ds Γ1=>
  rw [e1] at q
  intro B1 H1 vs fv fp1 s1 st1 r1 n1 io1
  simp only [Rz.bind] at q
  have ra:Ra K B1 H1 (ds++dds) pm (vs++dvs) fv:=by
   rw [hpm]
   have:=r1.append (hdef B1 H1)
   rwa [List.append_nil] at this
  have io2:Jay ios (vs++dvs) σ:=fun p hp=>by
   obtain ⟨v,h1,h2⟩:=io1 p hp
   exact ⟨v,by rw [List.getElem?_append_left (List.getElem?_eq_some_iff.mp h1).1];exact h1,h2⟩
  have n:=J0.mp n1
  refine ⟨B1,ds++dds,fv,st1.same,ra,n.1,?_⟩
  -- the state over the call
  have over:∀{B' H':Hp} {l:List Addr},Stp B1 H1 fv B' H' l→StR K B' H' Γ1 μ1 σ fp1∧(∀a∈l,a∉fp1):=fun {B' H' l} s=>by
   refine ⟨st1.st.mono s.base (s.kept (K:=K) st1.st.own fun a h q=>n.2.2 a q h),fun a h q=>?_⟩
   rcases s.own a h with z | z
   ·exact n.2.2 a z q
   ·obtain ⟨_,o,e⟩:=st1.st.own a q
    rw [e] at z;cases z
  have stepAll:∀{B' H':Hp} {l f1 f2:List Addr},Stp B1 H1 fv B' H' (l++f1)→(∀a∈f2,a∈f1++fp1)→Stp B H fp B' H' (l++f2):=fun {B' H' l f1 f2} s hf=>by
   have:=s.more (fp2:=fv++fp1) fun a h=>Zl _ h
   refine s1.trans ⟨this.base,this.keep,fun a h=>?_,this.new⟩
   rcases Zp.mp h with h | h
   ·exact this.own a (Zl _ h)
   ·rcases Zp.mp (hf a h) with h | h
    ·exact this.own a (Zr _ h)
    ·exact .inl (Zr _ h)
  cases e2:F (ds++dds) with
  | bad=>rw [e2] at q;exact q.elim
  | ok d io=>
   rw [e2] at q
   intro B2 H2 v fpv fpo s2 sm r2 ro n2
   have nn:=J0.mp n2
   obtain ⟨st2,dj⟩:=over s2
   obtain ⟨fx,p1,p2,p3⟩:=J9d ro st2 io2 (J0.mpr ⟨nn.2.1,n.2.1,fun x hx hy=>dj x (Zr _ hx) hy⟩)
   refine q B2 H2 v fpv fx (stepAll s2 p3) ⟨sm,p1,p2⟩ r2 (J0.mpr ⟨nn.1,p2,fun x hx hy=>?_⟩)
   rcases Zp.mp (p3 x hy) with z | z
   ·exact nn.2.2 x hx z
   ·exact dj x (Zl _ hx) z
  | exc x io=>
   rw [e2] at q
   intro B2 H2 fpe fpo cls dd s2 sm ex ro n2
   have nn:=J0.mp n2
   obtain ⟨st2,dj⟩:=over s2
   obtain ⟨fx,p1,p2,p3⟩:=J9d ro st2 io2 (J0.mpr ⟨nn.2.1,n.2.1,fun x hx hy=>dj x (Zr _ hx) hy⟩)
   have st3:Sta K B2 H2 (J3f ios io Γ1) (J6j ios pm μ1) σ fx:=⟨sm,p1,p2⟩
   have ownE:∀a∈fpe,B2 a=none∧∃o,H2 a=some o:=fun a h=>by
    obtain ⟨_,d,fs,vs,fq,_,b0,hd,r,_,_,rfl⟩:=ex
    rcases Zo.mp h with rfl | h
    ·exact ⟨b0,_,hd⟩
    ·exact Rl.own x.ds r a h
   have djx:∀a∈fpe,a∉fx:=fun a h q=>by
    rcases Zp.mp (p3 a q) with z | z
    ·exact nn.2.2 a h z
    ·exact dj a (Zl _ h) z
   obtain ⟨B3,fy,s3,st4,k3⟩:=st3.weak (l:=fpe) wk ownE djx
   exact q B3 H2 fpe fy cls dd ((stepAll s2 p3).seq s3) st4 (ex.rebase fun a h=>(k3 a h).2) (J0.mpr ⟨nn.1,st4.nd,s3.apart (fun a h=>(ownE a h).2) djx⟩)
theorem DE.call {F:List D→Fo} {pm:List Mode} {rm:Mode} {dds:List D} {dms:List Mode} {dvs:List V} {ds:List Value} {fa:Gam→Rz (List D)} {k:Nat} {fad:Addr} {fd:FuncData} {ps:List Str} {x:Str} {p:Pos}
  (G:FnOk X.prog X.w X.K X.mg X.base (L2.CX X.prog X.w) k fad fd ps (spD X.K pm rm F)) (hr:Room k X.A) (hg:Gl X x) (hm:X.mg x=some (.ref fad)) (hk:PySem.W.keepIn X.K (.ref fad)=true) (hb:Binds X.K fd ps ds) (hd:Vals dvs ds) (tk:Takes X w.W)
  (hdef:∀B H,Ra X.K B H dds dms dvs []) (hpm:pm=ms++dms) (wk:J6 (J6j ios pm μ1) w.μx=true) (ha:DAi X w μ (a::es) fa ms ios μ1) (hdb: (x == ("__debug__" :Str))=false) (he:starEach (a::es) X.env= (false,eval a X.env)::starEach es X.env) (hpl: (backTo pos (starEach es X.env)).any (·.1)=false):
  DE X w μ (.Call (.Name x p) (a::es) [] pos) (J8q F ios dds fa) rm (J6j ios pm μ1):=
 ⟨(pe_callSD G hr hg hm hk hb hd (fun σ=>passAt tk σ) ha.pa hdb he hpl).imp fun σ H Q q=>call_of hdef hpm wk q⟩
end
structure DK (X:Cx) (w:Wh) (μ:List Mode) (kws:List Keyword) (f:Gam→Rz (List D)) (ms:List Mode) (μ':List Mode):Prop where
 pk:PK X kws (tDA X.K w μ f ms μ')
noncomputable def KBd (K:Zf) (fd:FuncData) (ps:List Str) (n:Nat) (ks:List Str) (ds:List Value):Prop:=∀ (s:Shared) (us ws:List Value),K.In s.heap→us.length=n→ws.length=ks.length→BindsTo s fd ⟨us,ks.zip ws⟩ (ps.zip (us++ws++ds))
section
variable {X:Cx} {w:Wh} {μ μ' μ1 μ2:List Mode} {e a b:Expr} {es:List Expr} {f g:Gam→Rz D} {m m' m1 m2:Mode} {pos:Pos} {r fa fb:Gam→Rz (List D)} {ms ms':List Mode}
theorem DK.nil:DK X w μ [] J1z [] μ:=⟨⟨fun pos pins s σ H Q I h=>pk_nil.run pos pins s σ H Q I (by
 obtain ⟨B,Γ,fp,st,q⟩:=h
 exact q B H [] [] fp (Stp.refl _ _ _) st ⟨rfl,rfl⟩ st.nd)⟩⟩
theorem DK.cons {kws:List Keyword} {nm:Option Str} {kpos:Pos} (ha:DE X w μ a f m μ1) (hr:DK X w μ1 kws r ms μ2):DK X w μ (⟨nm,a,kpos⟩::kws) (Jj f r) (m::ms) μ2:=by
 refine ⟨⟨fun pos pins s σ H Q I q=>(pk_cons (nm:=nm) (kpos:=kpos) ha.pe hr.pk).run pos pins s σ H Q I ?_⟩⟩
 obtain ⟨B,Γ,fp,st,q⟩:=q
 refine ⟨B,Γ,fp,st,?_⟩
 unfold Jj at q
 cases e1:f Γ with
 | bad=>rw [e1] at q;exact q.elim
 | exc x Γ'=>rw [e1] at q;exact q
 | ok x Γ1=>
  rw [e1] at q
  intro B1 H1 u fu fp1 s1 st1 r1 n1
  refine ⟨B1,Γ1,fp1,st1,?_⟩
  simp only [Rz.bind] at q
  show match r Γ1 with
   | .ok d Γ'=>_
   | .exc x Γ'=>_
   | .bad=>_
  cases e2:r Γ1 with
  | bad=>rw [e2] at q;exact q.elim
  | exc x Γ'=>rw [e2] at q;exact J18.after q s1
  | ok xs Γ2=>
   rw [e2] at q
   intro B2 H2 vs fv fp2 s2 st2 r2 n2
   have r1':R X.K B2 H2 x m u fu:=r1.over (s2.less fun a h=>Zr _ h) n1
   have nn: (fu++ (fv++fp2)).Nodup:=J1s (fun a h=>(R.own x r1 a h).2) s2 n1 n2
   refine q B2 H2 (u::vs) (fu++fv) fp2 ?_ st2 ⟨u,vs,fu,fv,rfl,r1',r2,rfl⟩ (by rw [List.append_assoc];exact nn)
   have:=s1.seq s2
   rwa [← List.append_assoc] at this
noncomputable def Jb0 (f r:Gam→Rz (List D)) (Γ:Gam):Rz (List D):=(f Γ).bind fun x Γ1=>(r Γ1).bind fun xs Γ2=> .ok (x++xs) Γ2
theorem Ra.over {K:Zf} {B1 H1 B2 H2:Hp} {fp1 fp2 l:List Addr} {ds:List D} {ms:List Mode} {vs:List V} (r:Ra K B1 H1 ds ms vs l) (s:Stp B1 H1 fp1 B2 H2 fp2) (nd: (l++fp1).Nodup):Ra K B2 H2 ds ms vs l:=
 r.mono s.base (s.kept (K:=K) (fun a h=>Ra.own r a h) fun a h q=>(J0.mp nd).2.2 a h q)
theorem Jox {K:Zf} {σ:St} {H:Hp} {Q:List V→Hp→Prop} (q:tDA K w μ (Jb0 fa fb) (ms++ms') μ2 σ H Q):
  Jaz K w μ fa ms [] μ1 σ H fun vs H1=>tDA K w μ1 fb ms' μ2 σ H1 fun zs H2=>vs.length=ms.length∧zs.length=ms'.length∧Q (vs++zs) H2:=by
 obtain ⟨B,Γ,fp,st,q⟩:=q
 refine ⟨B,Γ,fp,st,?_⟩
 unfold Jb0 at q
 cases e1:fa Γ with
 | bad=>rw [e1] at q;exact q.elim
 | exc x Γ'=>rw [e1] at q;exact q
 | ok x Γ1=>
  rw [e1] at q
  intro B1 H1 us fu fp1 s1 st1 r1 n1 _
  refine ⟨B1,Γ1,fp1,st1,?_⟩
  simp only [Rz.bind] at q
  show match fb Γ1 with
   | .ok d Γ'=>_
   | .exc x Γ'=>_
   | .bad=>_
  cases e2:fb Γ1 with
  | bad=>rw [e2] at q;exact q.elim
  | exc x Γ'=>rw [e2] at q;exact J18.after q s1
  | ok xs Γ2=>
   rw [e2] at q
   intro B2 H2 vs fv fp2 s2 st2 r2 n2
   have r1':Ra K B2 H2 x ms us fu:=r1.over (s2.less fun a h=>Zr _ h) n1
   have nn: (fu++ (fv++fp2)).Nodup:=J1s (fun a h=>(Ra.own r1 a h).2) s2 n1 n2
   refine ⟨r1.len.1,r2.len.1,q B2 H2 (us++vs) (fu++fv) fp2 ?_ st2 (r1'.append r2) (by rw [List.append_assoc];exact nn)⟩
   have:=s1.seq s2
   rwa [← List.append_assoc] at this
end
section
variable {X:Cx} {CX:CXT} {k n:Nat} {f:Addr} {fd:FuncData} {ps ks:List Str} {sp:Sp} {dvs:List V} {ds:List Value} {E:St→XK} {x:Str} {p pos:Pos} {e:Expr} {es:List Expr} {kws:List Keyword} {t tk:TA}
end
section
variable {X:Cx} {w:Wh} {μ μ' μ1 μ2:List Mode} {a:Expr} {es:List Expr} {pos:Pos} {fa fb:Gam→Rz (List D)} {ms ms':List Mode} {kws:List Keyword} {ks:List Str}
end
inductive Sz where
 | nx (Γ:Gam) | rt (d:D) (Γ:Gam) | bk (Γ:Gam) | ct (Γ:Gam) | exc (x:Xc) (Γ:Gam) | bad
structure Ws where
 w:Wh
 rm:Mode
 μr:List Mode
 μb:List Mode
 μc:List Mode
 pin:List (Option V)
noncomputable def PinOk (pin:List (Option V)) (σ:St):Prop:=∀ (i:Nat) (v:V),pin[i]? =some (some v)→σ[i]? =some (some v)
noncomputable def J4g (pin:List (Option V)) (i:Nat):Prop:=∀v:V,pin[i]?≠some (some v)
theorem PinOk.set {pin:List (Option V)} {σ:St} {i:Nat} {s:Option V} (h:PinOk pin σ) (n:J4g pin i):PinOk pin (σ.set i s):=fun j v hp=>by
 by_cases e:i=j
 ·subst e;exact absurd hp (n v)
 ·rw [List.getElem?_set_ne e];exact h j v hp
noncomputable def Jo (K:Zf) (z:Ws) (μ':List Mode) (B H:Hp) (fp:List Addr) (D:Ends):Sz→Prop
 | .nx Γ'=>∀σ' B' H' fp',Stp B H fp B' H' fp'→Sta K B' H' Γ' μ' σ' fp'→PinOk z.pin σ'→D.nx σ' H'
 | .rt d Γ'=>∀σ' B' H' v fpv fp',Stp B H fp B' H' (fpv++fp')→Sta K B' H' Γ' z.μr σ' fp'→R K B' H' d z.rm v fpv→(fpv++fp').Nodup→PinOk z.pin σ'→D.rt v H'
 | .bk Γ'=>∀σ' B' H' fp',Stp B H fp B' H' fp'→Sta K B' H' Γ' z.μb σ' fp'→PinOk z.pin σ'→D.bk σ' H'
 | .ct Γ'=>∀σ' B' H' fp',Stp B H fp B' H' fp'→Sta K B' H' Γ' z.μc σ' fp'→PinOk z.pin σ'→D.ct σ' H'
 | .exc x Γ'=>∀σ' B' H' fpe fp' cls dd,Stp B H fp B' H' (fpe++fp')→Sta K B' H' Γ' z.w.μx σ' fp'→J6h K B' H' x cls dd fpe→(fpe++fp').Nodup→PinOk z.pin σ'→z.w.W cls dd σ' H'
 | .bad=>False
theorem Jo.after {K:Zf} {z:Ws} {μ':List Mode} {B H B1 H1:Hp} {fp fp1:List Addr} {D:Ends} {o:Sz} (h:Jo K z μ' B H fp D o) (s:Stp B H fp B1 H1 fp1):Jo K z μ' B1 H1 fp1 D o:=by
 cases o with
 | nx Γ'=>exact fun σ' B' H' fp' s1=>h σ' B' H' fp' (s.trans s1)
 | rt d Γ'=>exact fun σ' B' H' v fpv fp' s1=>h σ' B' H' v fpv fp' (s.trans s1)
 | bk Γ'=>exact fun σ' B' H' fp' s1=>h σ' B' H' fp' (s.trans s1)
 | ct Γ'=>exact fun σ' B' H' fp' s1=>h σ' B' H' fp' (s.trans s1)
 | exc x Γ'=>exact fun σ' B' H' fpe fp' cls dd s1=>h σ' B' H' fpe fp' cls dd (s.trans s1)
 | bad=>exact h
noncomputable def tS (K:Zf) (z:Ws) (μ:List Mode) (f:Gam→Sz) (μ':List Mode):TS:=fun D σ H=>PinOk z.pin σ∧∃B Γ fp,Sta K B H Γ μ σ fp∧Jo K z μ' B H fp D (f Γ)
structure DS (X:Cx) (z:Ws) (μ:List Mode) (st:Stmt) (f:Gam→Sz) (μ':List Mode):Prop where
 ps:PS X st (tS X.K z μ f μ')
structure DSs (X:Cx) (z:Ws) (μ:List Mode) (st:List Stmt) (f:Gam→Sz) (μ':List Mode):Prop where
 ps:PSs X st (tS X.K z μ f μ')
noncomputable def Rz.s {α:Type} (r:Rz α) (f:α→Gam→Sz):Sz:=match r with
 | .ok a Γ=>f a Γ
 | .exc x Γ=> .exc x Γ
 | .bad=> .bad
section
variable {X:Cx} {z:Ws} {μ μ' μ1 μ2:List Mode} {e a b c:Expr} {es:List Expr} {f g:Gam→Rz D} {m m' m1 m2:Mode} {pos:Pos} {st:Stmt} {rest body orelse:List Stmt} {sf sg:Gam→Sz}
theorem J82 {K:Zf} {En:Ends} {σ:St} {H B:Hp} {Γ:Gam} {fp:List Addr} {Q:VK} {k:D→Gam→Sz} (hp:PinOk z.pin σ) (st:Sta K B H Γ μ σ fp) (q:Jo K z μ2 B H fp En ((f Γ).s k))
  (ok:∀d Γ' B' H' v fpv fp',f Γ= .ok d Γ'→Stp B H fp B' H' (fpv++fp')→Sta K B' H' Γ' μ' σ fp'→R K B' H' d m v fpv→(fpv++fp').Nodup→Q v H'):tD K z.w μ f m μ' σ H Q:=by
 refine ⟨B,Γ,fp,st,?_⟩
 cases e:f Γ with
 | ok d Γ'=>exact fun B' H' v fpv fp' s st' r nd=>ok d Γ' B' H' v fpv fp' e s st' r nd
 | exc x Γ'=>
  rw [e] at q
  exact fun B' H' fpe fp' cls dd s st' ex nd=>q σ B' H' fpe fp' cls dd s st' ex nd hp
 | bad=>rw [e] at q;exact q
theorem Jfr {K:Zf} {D:Ends} {σ:St} {H B:Hp} {Γ:Gam} {fp:List Addr} {f:Gam→Rz Bool} {Q:Bool→Hp→Prop} {k:Bool→Gam→Sz} (hp:PinOk z.pin σ) (st:Sta K B H Γ μ σ fp) (q:Jo K z μ2 B H fp D ((f Γ).s k))
  (ok:∀d Γ' B' H' fp',f Γ= .ok d Γ'→Stp B H fp B' H' fp'→Sta K B' H' Γ' μ' σ fp'→Q d H'):tDT K z.w μ f μ' σ H Q:=by
 refine ⟨B,Γ,fp,st,?_⟩
 cases e:f Γ with
 | ok d Γ'=>exact fun B' H' fp' s st'=>ok d Γ' B' H' fp' e s st'
 | exc x Γ'=>
  rw [e] at q
  exact fun B' H' fpe fp' cls dd s st' ex nd=>q σ B' H' fpe fp' cls dd s st' ex nd hp
 | bad=>rw [e] at q;exact q
theorem DS.weak (h:DS X z μ st sf μ1) (c:J6 μ1 μ2=true):DS X z μ st sf μ2:=
 ⟨h.ps.imp fun D σ H ⟨hp,B,Γ,fp,sta,q⟩=>⟨hp,B,Γ,fp,sta,by
  revert q
  cases sf Γ with
  | nx Γ'=>
   intro q σ' B' H' fp' s st' hp'
   obtain ⟨B2,fp2,s2,st2,k2⟩:=st'.weak (l:= []) c (fun a h=>by cases h) (fun a h=>by cases h)
   exact q σ' B2 H' fp2 (s.trans s2) st2 hp'
  | _=>exact id⟩⟩
theorem DSs.weak (h:DSs X z μ rest sf μ1) (c:J6 μ1 μ2=true):DSs X z μ rest sf μ2:=
 ⟨h.ps.imp fun D σ H ⟨hp,B,Γ,fp,sta,q⟩=>⟨hp,B,Γ,fp,sta,by
  revert q
  cases sf Γ with
  | nx Γ'=>
   intro q σ' B' H' fp' s st' hp'
   obtain ⟨B2,fp2,s2,st2,k2⟩:=st'.weak (l:= []) c (fun a h=>by cases h) (fun a h=>by cases h)
   exact q σ' B2 H' fp2 (s.trans s2) st2 hp'
  | _=>exact id⟩⟩
theorem DS.ahead (h:DS X z μ1 st sf μ2) (c:J6 μ μ1=true):DS X z μ st sf μ2:=
 ⟨h.ps.imp fun D σ H ⟨hp,B,Γ,fp,sta,q⟩=>by
  obtain ⟨B2,fp2,s2,st2,k2⟩:=sta.weak (l:= []) c (fun a h=>by cases h) (fun a h=>by cases h)
  exact ⟨hp,B2,Γ,fp2,st2,q.after s2⟩⟩
noncomputable def J1p (f g:Gam→Sz) (Γ:Gam):Sz:=match f Γ with
 | .nx Γ1=>g Γ1
 | o=>o
noncomputable def Jfs (Γ:Gam):Sz:= .nx Γ
theorem DSs.nil:DSs X z μ [] Jfs μ:=⟨pss_nil.imp fun D σ H ⟨hp,B,Γ,fp,sta,q⟩=>q σ B H fp (Stp.refl _ _ _) sta hp⟩
theorem DSs.cons (h1:DS X z μ st sf μ1) (h2:DSs X z μ1 rest sg μ2):DSs X z μ (st::rest) (J1p sf sg) μ2:=by
 refine ⟨(pss_cons h1.ps h2.ps).imp fun D σ H ⟨hp,B,Γ,fp,sta,q⟩=>?_⟩
 show tS X.K z μ sf μ1 { D with nx:=tS X.K z μ1 sg μ2 D} σ H
 refine ⟨hp,B,Γ,fp,sta,?_⟩
 unfold J1p at q
 revert q
 cases sf Γ with
 | nx Γ'=>exact fun q σ' B' H' fp' s st' hp'=>⟨hp',B',Γ',fp',st',q.after s⟩
 | _=>exact id
theorem DSs.one (h1:DS X z μ st sf μ1):DSs X z μ [st] sf μ1:=⟨pss_one h1.ps⟩
theorem DS.pass:DS X z μ (.Pass pos) Jfs μ:=⟨ps_pass.imp fun D σ H ⟨hp,B,Γ,fp,sta,q⟩=>q σ B H fp (Stp.refl _ _ _) sta hp⟩
theorem DS.brk (wk:J6 μ z.μb=true):DS X z μ (.Break pos) .bk μ':=⟨ps_break.imp fun D σ H ⟨hp,B,Γ,fp,sta,q⟩=>by
 obtain ⟨B2,fp2,s2,st2,k2⟩:=sta.weak (l:= []) wk (fun a h=>by cases h) (fun a h=>by cases h)
 exact q σ B2 H fp2 s2 st2 hp⟩
noncomputable def sE (f:Gam→Rz D) (Γ:Gam):Sz:=(f Γ).s fun _ Γ1=> .nx Γ1
theorem DS.expr (h:DE X z.w μ e f m μ') (hs:swapsWith e none pos.line X.env=pure false):DS X z μ (.Expr e pos) (sE f) μ':=by
 refine ⟨(ps_expr h.pe hs).imp fun D σ H ⟨hp,B,Γ,fp,sta,q⟩=>?_⟩
 refine J82 hp sta q fun d Γ' B' H' v fpv fp' e s st' r nd=>?_
 unfold sE at q
 rw [e] at q
 exact q σ B' H' fp' (s.less fun a h=>Zr _ h) st' hp
noncomputable def Jjv (f:Gam→Rz D) (Γ:Gam):Sz:=(f Γ).s fun d Γ1=> .rt d Γ1
theorem DS.ret (h:DE X z.w μ e f z.rm μ1) (wk:J6 μ1 z.μr=true):DS X z μ (.Return (some e) pos) (Jjv f) μ':=by
 refine ⟨(ps_ret h.pe).imp fun D σ H ⟨hp,B,Γ,fp,sta,q⟩=>?_⟩
 refine J82 hp sta q fun d Γ' B' H' v fpv fp' e s st' r nd=>?_
 unfold Jjv at q
 rw [e] at q
 obtain ⟨B2,fp2,s2,st2,k2⟩:=st'.weak (l:=fpv) wk (R.own d r) (J0.mp nd).2.2
 exact q σ B2 H' v fpv fp2 (s.seq s2) st2 (r.mono s2.base d k2) (J1s (fun a h=>(R.own d r a h).2) s2 nd st2.nd) hp
noncomputable def sIf (c:Gam→Rz Bool) (f g:Gam→Sz) (Γ:Gam):Sz:=(c Γ).s fun b Γ1=>if b=true then f Γ1 else g Γ1
theorem DS.ite {t:Gam→Rz Bool} (hc:DT X z.w μ c t μ1) (h1:DSs X z μ1 body sf μ') (h2:DSs X z μ1 orelse sg μ'):DS X z μ (.If c body orelse pos) (sIf t sf sg) μ':=by
 refine ⟨(ps_if hc.pt h1.ps h2.ps).imp fun D σ H ⟨hp,B,Γ,fp,sta,q⟩=>?_⟩
 refine Jfr hp sta q fun k Γ' B' H' fp' e s st'=>?_
 unfold sIf at q
 rw [e] at q
 cases k with
 | true=>exact ⟨hp,B',Γ',fp',st',Jo.after q s⟩
 | false=>exact ⟨hp,B',Γ',fp',st',Jo.after q s⟩
noncomputable def J24 (c:Gam→Rz Bool) (b:Gam→Sz):Nat→Gam→Sz
 | 0,_=> .bad
 | n + 1,Γ=>(c Γ).s fun k Γ1=>if k=true then (match b Γ1 with
  | .nx Γ2=>J24 c b n Γ2
  | .ct Γ2=>J24 c b n Γ2
  | .bk Γ2=> .nx Γ2
  | .rt d Γ2=> .rt d Γ2
  | .exc x Γ2=> .exc x Γ2
  | .bad=> .bad) else .nx Γ1
noncomputable def Ws.loop (z:Ws) (μ:List Mode):Ws:={ z with μb:=μ,μc:=μ}
theorem DS.whil {t:Gam→Rz Bool} {n:Gam→Nat} (hp:PassesOwn (model X.prog X.w) X.A X.env X.xe) (hc:DT X z.w μ c t μ) (hb:DSs X (z.loop μ) μ body sf μ):DS X z μ (.While c body [] pos) (fun Γ=>J24 t sf (n Γ) Γ) μ:=by
 refine ⟨(ps_while hp hc.pt hb.ps).imp fun D σ H ⟨hpn,B,Γ,fp,sta,q⟩=>?_⟩
 refine ⟨fun k σ H=>PinOk z.pin σ∧∃B Γ fp,Sta X.K B H Γ μ σ fp∧Jo X.K z μ B H fp D (J24 t sf k Γ),⟨n Γ,hpn,B,Γ,fp,sta,q⟩,?_⟩
 rintro k σ H ⟨hpn,B,Γ,fp,sta,q⟩
 cases k with
 | zero=>exact q.elim
 | succ k=>
  refine Jfr hpn sta (k:=fun k' Γ1=>_) (μ2:=μ) q fun b Γ' B' H' fp' e s st'=>?_
  unfold J24 at q
  rw [e] at q
  cases b with
  | false=>exact q σ B' H' fp' s st' hpn
  | true=>
   refine ⟨fun σ' H'=>PinOk z.pin σ'∧∃B Γ fp,Sta X.K B H' Γ μ σ' fp∧Jo X.K z μ B H' fp D (J24 t sf k Γ),fun σ' H' h=>⟨k,Nat.lt_succ_self _,h⟩,hpn,B',Γ',fp',st',?_⟩
   have q2:=Jo.after q s
   revert q2
   show Jo X.K z μ B' H' fp' D (match sf Γ' with
    | .nx Γ2=>J24 t sf k Γ2
    | .ct Γ2=>J24 t sf k Γ2
    | .bk Γ2=> .nx Γ2
    | .rt d Γ2=> .rt d Γ2
    | .exc x Γ2=> .exc x Γ2
    | .bad=> .bad)→_
   cases sf Γ' with
   | nx Γ2=>exact fun q σ2 B2 H2 fp2 s2 st2 hp2=>⟨hp2,B2,Γ2,fp2,st2,q.after s2⟩
   | ct Γ2=>exact fun q σ2 B2 H2 fp2 s2 st2 hp2=>⟨hp2,B2,Γ2,fp2,st2,q.after s2⟩
   | bk Γ2=>exact fun q σ2 B2 H2 fp2 s2 st2 hp2=>q σ2 B2 H2 fp2 s2 st2 hp2
   | rt d Γ2=>exact id
   | exc x Γ2=>exact id
   | bad=>exact id
noncomputable def tG (K:Zf) (P:St→Prop) (μ:List Mode) (m:Mode) (t:D→Gam→Option Gam) (μ':List Mode):TG:=fun v σ H Q=>P σ∧∃B Γ fp fpv d,Sta K B H Γ μ σ fp∧R K B H d m v fpv∧(fpv++fp).Nodup∧match t d Γ with
 | some Γ'=>∀σ' B' H' fp',Stp B H (fpv++fp) B' H' fp'→Sta K B' H' Γ' μ' σ' fp'→P σ'→Q σ' H'
 | none=>False
structure DG (X:Cx) (P:St→Prop) (μ:List Mode) (tg:Expr) (m:Mode) (t:D→Gam→Option Gam) (μ':List Mode):Prop where
 pg:PG X tg (tG X.K P μ m t μ')
noncomputable def tGs (K:Zf) (P:St→Prop) (μ:List Mode) (ms:List Mode) (t:List D→Gam→Option Gam) (μ':List Mode):TGs:=fun vs σ H Q=>P σ∧∃B Γ fp fpv ds,Sta K B H Γ μ σ fp∧Ra K B H ds ms vs fpv∧(fpv++fp).Nodup∧match t ds Γ with
 | some Γ'=>∀σ' B' H' fp',Stp B H (fpv++fp) B' H' fp'→Sta K B' H' Γ' μ' σ' fp'→P σ'→Q σ' H'
 | none=>False
structure DGs (X:Cx) (P:St→Prop) (μ:List Mode) (tgs:List Expr) (ms:List Mode) (t:List D→Gam→Option Gam) (μ':List Mode):Prop where
 pg:PGs X tgs (tGs X.K P μ ms t μ')
theorem _root_.L2.PG.imp {tg:Expr} {t t':TG} (h:PG X tg t) (i:∀v σ H Q,t' v σ H Q→t v σ H Q):PG X tg t':=⟨fun pins s σ H v u Q I r q=>h.run pins s σ H v u Q I r (i v σ H Q q)⟩
theorem _root_.L2.PGs.imp {tg:List Expr} {t t':TGs} (h:PGs X tg t) (i:∀v σ H Q,t' v σ H Q→t v σ H Q):PGs X tg t':=⟨fun pins s σ H v u Q I r q=>h.run pins s σ H v u Q I r (i v σ H Q q)⟩
noncomputable def Jft (i:Nat) (d:D) (Γ:Gam):Option Gam:=some (Γ.set i (some d))
theorem J6w {K:Zf} {B H:Hp} {Γ:Gam} {σ:St} {fp fpv:List Addr} {d:D} {v:V} {i:Nat} (st:Sta K B H Γ μ σ fp) (r:R K B H d m v fpv) (nd: (fpv++fp).Nodup) (hi:i < σ.length):
  ∃fp',Stp B H (fpv++fp) B H fp'∧Sta K B H (Γ.set i (some d)) (μ.set i m) (σ.set i (some v)) fp':=by
 obtain ⟨fp',h1,h2,h3⟩:=st.st.put hi r
 exact ⟨fp',(Stp.refl _ _ _).less h3,st.same,h1,h2 nd⟩
theorem DG.name {P:St→Prop} {i:Nat} {x:Str} (hN:X.N.Nodup) (hi:X.N[i]? =some x) (hx:Loc X.env.scope x) (hf:X.fn x=true∨X.env.scope.names.lookup x=some .local) (hp:∀σ s,P σ→P (σ.set i s)) (hl:i < μ.length):DG X P μ (.Name x pos) m (Jft i) (μ.set i m):=by
 refine ⟨(pg_name hN hi hx hf).imp fun v σ H Q ⟨hpn,B,Γ,fp,fpv,d,st,r,nd,q⟩=>?_⟩
 obtain ⟨fp',s,st'⟩:=J6w (i:=i) st r nd (by rw [← st.st.len.2];exact hl)
 exact q (σ.set i (some v)) B H fp' s st' (hp _ _ hpn)
noncomputable def Jly (ds:List D) (Γ:Gam):Option Gam:=match ds with
 | []=>some Γ
 | _=>none
noncomputable def Jhg (t:D→Gam→Option Gam) (u:List D→Gam→Option Gam) (ds:List D) (Γ:Gam):Option Gam:=match ds with
 | d::ds=>(t d Γ).bind (u ds)
 | _=>none
theorem DGs.nil {P:St→Prop}:DGs X P μ [] [] Jly μ:=by
 refine ⟨pgs_nil.imp fun vs σ H Q ⟨hpn,B,Γ,fp,fpv,ds,st,r,nd,q⟩=>?_⟩
 cases ds with
 | cons d ds=>exact r.elim
 | nil=>
  obtain ⟨rfl,rfl⟩:=r
  exact ⟨rfl,q σ B H fp (Stp.refl _ _ _) st hpn⟩
theorem DGs.cons {P:St→Prop} {t:D→Gam→Option Gam} {u:List D→Gam→Option Gam} {ms:List Mode} (h1:DG X P μ e m t μ1) (h2:DGs X P μ1 es ms u μ2) (hs: (assignEach (e::es) X.env).map (·.2)=assign e X.env:: (assignEach es X.env).map (·.2)):DGs X P μ (e::es) (m::ms) (Jhg t u) μ2:=by
 refine ⟨(pgs_cons h1.pg h2.pg hs).imp fun vs σ H Q ⟨hpn,B,Γ,fp,fpv,ds,st,r,nd,q⟩=>?_⟩
 cases ds with
 | nil=>exact r.elim
 | cons d ds=>
  obtain ⟨v,vr,f1,f2,rfl,r1,r2,rfl⟩:=r
  have n:=J0.mp nd
  have n12:=J0.mp n.1
  refine ⟨v,vr,rfl,hpn,B,Γ,fp,f1,d,st,r1,J0.mpr ⟨n12.1,n.2.1,fun x hx hy=>n.2.2 x (Zl _ hx) hy⟩,?_⟩
  have q':match (t d Γ).bind (u ds) with
   | some Γ'=>∀σ' B' H' fp',Stp B H (f1++f2++fp) B' H' fp'→Sta X.K B' H' Γ' μ2 σ' fp'→P σ'→Q σ' H'
   | none=>False:=q
  revert q'
  cases t d Γ with
  | none=>exact id
  | some Γ1=>
   intro q' σ1 B1 H1 fp1 s1 st1 hp1
   have dj:∀a∈f2,a∉f1++fp:=fun a h z=>by
    rcases Zp.mp z with z | z
    ·exact n12.2.2 a z h
    ·exact n.2.2 a (Zr _ h) z
   have r2':=r2.mono s1.base (s1.kept (K:=X.K) (Ra.own r2) dj)
   refine ⟨hp1,B1,Γ1,fp1,f2,ds,st1,r2',J0.mpr ⟨n12.2.1,st1.nd,s1.apart (fun a h=>(Ra.own r2 a h).2) dj⟩,?_⟩
   revert q'
   show (match u ds Γ1 with
    | some Γ'=>_
    | none=>_)→_
   cases u ds Γ1 with
   | none=>exact id
   | some Γ2=>
    intro q' σ2 B2 H2 fp2 s2 st2 hp2
    refine q' σ2 B2 H2 fp2 (Stp.trans (fp1:=f2++fp1) ?_ s2) st2 hp2
    have:=s1.frame f2
    refine (this.more fun a h=>?_)
    simp only [Zp] at h ⊢
    rcases h with h | h | h
    ·exact .inl (.inr h)
    ·exact .inl (.inl h)
    ·exact .inr h
noncomputable def Jlz (u:List D→Gam→Option Gam) (d:D) (Γ:Gam):Option Gam:=match d with
 | .tup ds=>u ds Γ
 | _=>none
noncomputable def Jm0 (u:List D→Gam→Option Gam) (d:D) (Γ:Gam):Option Gam:=match d with
 | .lst ds=>u ds Γ
 | _=>none
noncomputable def J31:Mode→Mode
 | .O m=>m
 | _=> .F
theorem Rl.toRa {K:Zf} {B H:Hp}:∀{ds:List D} {m:Mode} {vs:List V} {fp:List Addr},Rl K B H ds m vs fp→Ra K B H ds (ds.map fun _=>m) vs fp
 | [],m,vs,fp,h=>h
 | d::ds,m,vs,fp,h=>by
  obtain ⟨v,r,fp1,fp2,rfl,h1,h2,rfl⟩:=h
  exact ⟨v,r,fp1,fp2,rfl,h1,Rl.toRa h2,rfl⟩
theorem DG.tup {P:St→Prop} {u:List D→Gam→Option Gam} {k n:Nat} (hc:X.calm=true) (h:DGs X P μ es (List.replicate n (J31 m)) u μ') (hn: (assignEach es X.env).length=n) (hst: (assignEach es X.env).findIdx? (·.1)=none) (hu:∀ds Γ Γ',u ds Γ=some Γ'→ds.length=n):DG X P μ (.Tuple es k pos) m (Jlz u) μ':=by
 refine ⟨(pg_tup hc h.pg hn hst).imp fun v σ H Q ⟨hpn,B,Γ,fp,fpv,d,st,r,nd,q⟩=>?_⟩
 cases d with
 | tup ds=>
  have q':match u ds Γ with
   | some Γ'=>∀σ' B' H' fp',Stp B H (fpv++fp) B' H' fp'→Sta X.K B' H' Γ' μ' σ' fp'→P σ'→Q σ' H'
   | none=>False:=q
  have hlen:ds.length=n:=by
   cases e:u ds Γ with
   | none=>rw [e] at q';exact q'.elim
   | some Γ'=>exact hu _ _ _ e
  have rep:ds.map (fun _=>J31 m)=List.replicate n (J31 m):=by
   rw [← hlen]
   clear q' q hlen r
   induction ds with
   | nil=>rfl
   | cons d ds ih=>rw [List.map_cons,ih];rfl
  cases m with
  | F=>
   obtain ⟨rfl,a,vs,rfl,hs,hl,hr⟩:=r
   refine ⟨a,vs,rfl,(st.same).sqT hs,by rw [hr.len,hlen],hpn,B,Γ,fp,[],ds,st,?_,nd,q'⟩
   have:=hr.toRa
   rw [← rep];exact this
  | O m=>
   obtain ⟨a,vs,fq,rfl,b0,ha,hl,hr,rfl⟩:=r
   refine ⟨a,vs,rfl,SqT.of ha,by rw [hr.len,hlen],hpn,B,Γ,fp,fq,ds,st,?_,(List.nodup_cons.mp nd).2,?_⟩
   ·have:=hr.toRa
    rw [← rep];exact this
   ·revert q'
    cases u ds Γ with
    | none=>exact id
    | some Γ'=>exact fun q' σ' B' H' fp' s st' hp'=>q' σ' B' H' fp' (s.more fun a h=>Zc _ h) st' hp'
  | _=>exact r.elim
 | _=>exact q.elim
theorem DG.lst {P:St→Prop} {u:List D→Gam→Option Gam} {k n:Nat} (hc:X.calm=true) (h:DGs X P μ es (List.replicate n (J31 m)) u μ') (hn: (assignEach es X.env).length=n) (hst: (assignEach es X.env).findIdx? (·.1)=none) (hu:∀ds Γ Γ',u ds Γ=some Γ'→ds.length=n):DG X P μ (.Tuple es k pos) m (Jm0 u) μ':=by
 refine ⟨(pg_lst hc h.pg hn hst).imp fun v σ H Q ⟨hpn,B,Γ,fp,fpv,d,st,r,nd,q⟩=>?_⟩
 cases d with
 | lst ds=>
  have q':match u ds Γ with
   | some Γ'=>∀σ' B' H' fp',Stp B H (fpv++fp) B' H' fp'→Sta X.K B' H' Γ' μ' σ' fp'→P σ'→Q σ' H'
   | none=>False:=q
  have hlen:ds.length=n:=by
   cases e:u ds Γ with
   | none=>rw [e] at q';exact q'.elim
   | some Γ'=>exact hu _ _ _ e
  have rep:ds.map (fun _=>J31 m)=List.replicate n (J31 m):=by
   rw [← hlen]
   clear q' q hlen r
   induction ds with
   | nil=>rfl
   | cons d ds ih=>rw [List.map_cons,ih];rfl
  cases m with
  | F=>
   obtain ⟨rfl,a,vs,rfl,hs,hl,hr⟩:=r
   refine ⟨a,vs,rfl,(st.same).sqL hs,by rw [hr.len,hlen],hpn,B,Γ,fp,[],ds,st,?_,nd,q'⟩
   have:=hr.toRa
   rw [← rep];exact this
  | O m=>
   obtain ⟨a,vs,fq,rfl,b0,ha,hl,hr,rfl⟩:=r
   refine ⟨a,vs,rfl,SqL.of ha,by rw [hr.len,hlen],hpn,B,Γ,fp,fq,ds,st,?_,(List.nodup_cons.mp nd).2,?_⟩
   ·have:=hr.toRa
    rw [← rep];exact this
   ·revert q'
    cases u ds Γ with
    | none=>exact id
    | some Γ'=>exact fun q' σ' B' H' fp' s st' hp'=>q' σ' B' H' fp' (s.more fun a h=>Zc _ h) st' hp'
  | _=>exact r.elim
 | _=>exact q.elim
noncomputable def Jb1 (f:Gam→Rz D) (t:D→Gam→Option Gam) (Γ:Gam):Sz:=(f Γ).s fun d Γ1=>match t d Γ1 with
 | some Γ2=> .nx Γ2
 | none=> .bad
theorem Jhh {K:Zf} {t:D→Gam→Option Gam} {D:Ends} {σ:St} {H:Hp} (q:tS K z μ (Jb1 f t) μ2 D σ H):tD K z.w μ f m μ1 σ H fun x H1=>tG K (PinOk z.pin) μ1 m t μ2 x σ H1 D.nx:=by
 obtain ⟨hp,B,Γ,fp,sta,q⟩:=q
 refine J82 hp sta q fun d Γ' B' H' v fpv fp' e s st' r nd=>?_
 unfold Jb1 at q
 rw [e] at q
 refine ⟨hp,B',Γ',fp',fpv,d,st',r,nd,?_⟩
 revert q
 show Jo K z μ2 B H fp D (match t d Γ' with
  | some Γ2=> .nx Γ2
  | none=> .bad)→_
 cases t d Γ' with
 | none=>exact id
 | some Γ2=>exact fun q σ2 B2 H2 fp2 s2 st2 hp2=>q σ2 B2 H2 fp2 (s.trans s2) st2 hp2
theorem DS.asg {tg:Expr} {t:D→Gam→Option Gam} (h:DE X z.w μ e f m μ1) (hg:DG X (PinOk z.pin) μ1 tg m t μ2) (hs:swapsWithSole [tg] e pos.line X.env=pure false) (hw:swappedStores [tg] e X.env=pure none) (h1: (assignEach [tg] X.env).map (·.2)= [assign tg X.env]):DS X z μ (.Assign [tg] e pos) (Jb1 f t) μ2:=
 ⟨(ps_asg h.pe hg.pg hs hw h1).imp fun D σ H q=>Jhh q⟩
noncomputable def ItR (K:Zf) (J:It) (B:Hp) (m:Mode) (ds:List D):Prop:=ds.length≤sizeLine∧∀ (i:Nat) (B1 H1:Hp),Same B B1→Lies K B1 H1→
 (∀d,ds[i]? =some d→J.go i H1∧∀x H2,J.yld i H1 x H2→∃Bx fpx,Stp B1 H1 [] Bx H2 fpx∧Lies K Bx H2∧R K Bx H2 d m x fpx∧fpx.Nodup)∧(ds.length≤i→J.stop i H1)
noncomputable def tDI (K:Zf) (w:Wh) (μ:List Mode) (f:Gam→Rz (List D)) (m:Mode) (μ':List Mode):TI:=fun σ H R=>∃B Γ fp,Sta K B H Γ μ σ fp∧match f Γ with
 | .ok ds Γ'=>∀B' H' J fp',Stp B H fp B' H' fp'→Sta K B' H' Γ' μ' σ fp'→ItR K J B' m ds→R J H'
 | .exc x Γ'=>J18 K w B H fp σ x Γ'
 | .bad=>False
structure DI (X:Cx) (w:Wh) (μ:List Mode) (tg iter:Expr) (f:Gam→Rz (List D)) (m:Mode) (μ':List Mode):Prop where
 pi:PI X tg iter (tDI X.K w μ f m μ')
theorem _root_.L2.PI.imp {tg it:Expr} {t t':TI} (h:PI X tg it t) (i:∀σ H Q,t' σ H Q→t σ H Q):PI X tg it t':=⟨fun pins s σ H R I q=>h.run pins s σ H R I (i σ H R q)⟩
noncomputable def J9e (f:Gam→Rz D) (Γ:Gam):Rz (List D):=(f Γ).bind fun d Γ1=>match d with
 | .lst ds=> .ok ds Γ1
 | _=> .bad
noncomputable def Jfu (f:Gam→Rz D) (Γ:Gam):Rz (List D):=(f Γ).bind fun d Γ1=>match d with
 | .tup ds=> .ok ds Γ1
 | _=> .bad
theorem Rl.get {K:Zf} {B H:Hp}:∀{ds:List D} {m:Mode} {vs:List V} {i:Nat} {d:D},Rl K B H ds m vs []→ds[i]? =some d→∃v,vs[i]? =some v∧R K B H d m v []
 | d0::ds,m,vs,i,d,h,e=>by
  obtain ⟨v,r,fp1,fp2,rfl,h1,h2,e2⟩:=h
  have e3:=List.append_eq_nil_iff.mp e2.symm
  rw [e3.1] at h1;rw [e3.2] at h2
  cases i with
  | zero=>
   have z:d0=d:=by simpa using e
   subst z
   exact ⟨v,rfl,h1⟩
  | succ i=>
   obtain ⟨u,q1,q2⟩:=Rl.get (i:=i) h2 (by simpa using e)
   exact ⟨u,by simpa using q1,q2⟩
 | [],m,vs,i,d,h,e=>by simp at e
theorem Jes {K:Zf} {B H:Hp} {a:Addr} {vs:List V} {ds:List D} (hs:SqL K B a vs) (hl:ds.length≤sizeLine) (r:Rl K B H ds .F vs []):ItR K (Itl K a) B .F ds:=⟨hl,fun i B1 H1 s1 s2=>by
 have hs1:SqL K B1 a vs:=(s1).sqL hs
 have hs2:SqL K H1 a vs:=(s2).sqL hs1
 refine ⟨fun d e=>?_,fun h=>⟨vs,hs2,by rw [r.len];exact h⟩⟩
 obtain ⟨v,e1,r1⟩:=r.get e
 refine ⟨⟨vs,v,hs2,e1⟩,fun x H2 hy=>?_⟩
 obtain ⟨rfl,hy⟩:=hy
 have z:=hy vs hs2
 rw [e1] at z;cases z
 exact ⟨_,[],Stp.refl _ _ _,s2,r1.mono s1 d Kept.nil,List.nodup_nil⟩⟩
theorem Jhi {K:Zf} {B H:Hp} {a:Addr} {vs:List V} {ds:List D} (hs:SqT K B a vs) (hl:ds.length≤sizeLine) (r:Rl K B H ds .F vs []):ItR K (Itt K a) B .F ds:=⟨hl,fun i B1 H1 s1 s2=>by
 have hs1:SqT K B1 a vs:=(s1).sqT hs
 have hs2:SqT K H1 a vs:=(s2).sqT hs1
 refine ⟨fun d e=>?_,fun h=>⟨vs,hs2,by rw [r.len];exact h⟩⟩
 obtain ⟨v,e1,r1⟩:=r.get e
 refine ⟨⟨vs,v,hs2,e1⟩,fun x H2 hy=>?_⟩
 obtain ⟨rfl,hy⟩:=hy
 have z:=hy vs hs2
 rw [e1] at z;cases z
 exact ⟨_,[],Stp.refl _ _ _,s2,r1.mono s1 d Kept.nil,List.nodup_nil⟩⟩
theorem DI.list {w:Wh} {tg:Expr} (h:DE X w μ e f .F μ'):DI X w μ tg e (J9e f) .F μ':=by
 refine ⟨(pi_list h.pe).imp fun σ H Q ⟨B,Γ,fp,st,q⟩=>⟨B,Γ,fp,st,?_⟩⟩
 unfold J9e at q
 revert q
 cases f Γ with
 | ok d Γ'=>
  cases d with
  | lst ds=>
   intro q B' H' v fpv fp' s st' r nd
   obtain ⟨rfl,a,vs,rfl,hs,hl,hr⟩:=r
   exact ⟨a,rfl,⟨vs,(st'.same).sqL hs⟩,q B' H' _ fp' s st' (Jes hs hl hr)⟩
  | _=>exact fun q=>q.elim
 | exc x Γ'=>exact id
 | bad=>exact id
theorem DI.tup {w:Wh} {tg:Expr} (h:DE X w μ e f .F μ'):DI X w μ tg e (Jfu f) .F μ':=by
 refine ⟨(pi_tup h.pe).imp fun σ H Q ⟨B,Γ,fp,st,q⟩=>⟨B,Γ,fp,st,?_⟩⟩
 unfold Jfu at q
 revert q
 cases f Γ with
 | ok d Γ'=>
  cases d with
  | tup ds=>
   intro q B' H' v fpv fp' s st' r nd
   obtain ⟨rfl,a,vs,rfl,hs,hl,hr⟩:=r
   exact ⟨a,rfl,⟨vs,(st'.same).sqT hs⟩,q B' H' _ fp' s st' (Jhi hs hl hr)⟩
  | _=>exact fun q=>q.elim
 | exc x Γ'=>exact id
 | bad=>exact id
noncomputable def Joy (f:Gam→Rz D) (Γ:Gam):Rz (List D):=(f Γ).bind fun d Γ1=>match d with
 | .lst ds=> .ok ds Γ1
 | .tup ds=> .ok ds Γ1
 | _=> .bad
theorem Jml {tg l:Expr} {tl:TE} (hl:PE X l tl):PI X tg l (fun σ H R=>tl σ H fun x H1=>∃a,x= .ref a∧(((∃xs,SqL X.K H1 a xs)∧R (Itl X.K a) H1)∨((∃xs,SqT X.K H1 a xs)∧R (Itt X.K a) H1))):=by
 refine ⟨fun pins s σ H R I h=>?_⟩
 refine thn (hl.run pins s σ H _ I h) fun v s1 ⟨x,H1,I1,r1,q1⟩=>?_
 obtain ⟨a,e,q1⟩:=q1
 subst e
 cases r1
 rcases q1 with ⟨⟨xs,hq⟩,q⟩ | ⟨⟨xs,hq⟩,q⟩
 ·obtain ⟨its,rv,p,hz⟩:=I1.list hq
  refine wpAny_pyIter_list p.isList ?_
  refine ⟨s1.heap.objs.size,[s1.heap.objs.size],_,_,H1,rfl,I1.kept (t':=s1.toks) fun b o e=>Heap.get?_push_of_some _ e,turn_list a _,⟨_,Heap.get?_push_size _ rfl,rfl,rfl⟩,fun b hb=>?_,q⟩
  have e:b=s1.heap.objs.size:=by simpa using hb
  subst e
  exact I1.fpOk (Nat.le_refl _) (I1.hok.fresh (Nat.le_refl _))
 ·obtain ⟨its,rv,p,hz⟩:=I1.tuple hq
  refine wpAny_pyIter_tuple (show s1.heap.IsTuple a its.toArray from p) ?_
  refine ⟨s1.heap.objs.size,[s1.heap.objs.size],_,_,H1,rfl,I1.kept (t':=s1.toks) fun b o e=>Heap.get?_push_of_some _ e,turn_tuple a _,⟨_,Heap.get?_push_size _ rfl,rfl,rfl⟩,fun b hb=>?_,q⟩
  have e:b=s1.heap.objs.size:=by simpa using hb
  subst e
  exact I1.fpOk (Nat.le_refl _) (I1.hok.fresh (Nat.le_refl _))
theorem DI.seq {w:Wh} {tg:Expr} (h:DE X w μ e f .F μ'):DI X w μ tg e (Joy f) .F μ':=by
 refine ⟨(Jml h.pe).imp fun σ H Q ⟨B,Γ,fp,st,q⟩=>⟨B,Γ,fp,st,?_⟩⟩
 unfold Joy at q
 revert q
 cases f Γ with
 | ok d Γ'=>
  cases d with
  | lst ds=>
   intro q B' H' v fpv fp' s st' r nd
   obtain ⟨rfl,a,vs,rfl,hs,hl,hr⟩:=r
   exact ⟨a,rfl,.inl ⟨⟨vs,(st'.same).sqL hs⟩,q B' H' _ fp' s st' (Jes hs hl hr)⟩⟩
  | tup ds=>
   intro q B' H' v fpv fp' s st' r nd
   obtain ⟨rfl,a,vs,rfl,hs,hl,hr⟩:=r
   exact ⟨a,rfl,.inr ⟨⟨vs,(st'.same).sqT hs⟩,q B' H' _ fp' s st' (Jhi hs hl hr)⟩⟩
  | _=>exact fun q=>q.elim
 | exc x Γ'=>exact id
 | bad=>exact id
noncomputable def upto (lo:Int):Nat→List D
 | 0=> []
 | n + 1=> .int lo::upto (lo + 1) n
theorem upto_length (lo:Int) (n:Nat): (upto lo n).length=n:=by
 induction n generalizing lo with
 | zero=>rfl
 | succ n ih=>simp [upto,ih]
theorem Jjw (lo:Int) (n i:Nat) (h:i < n): (upto lo n)[i]? =some (.int (lo + i)):=by
 induction n generalizing lo i with
 | zero=>cases h
 | succ n ih=>
  cases i with
  | zero=>simp [upto]
  | succ i=>
   rw [upto,List.getElem?_cons_succ,ih (lo + 1) i (Nat.lt_of_succ_lt_succ h)]
   congr 2
   omega
theorem Jjx {K:Zf} {B:Hp} (lo:Int) (n:Nat) (hl:n≤sizeLine):ItR K (Itr lo n) B .Z (upto lo n):=⟨by rw [upto_length];exact hl,fun i B1 H1 s1 s2=>by
 refine ⟨fun d e=>?_,fun h=>by rw [upto_length] at h;exact h⟩
 have hi:i < n:=by
  have:=(List.getElem?_eq_some_iff.mp e).1
  rwa [upto_length] at this
 rw [Jjw lo n i hi] at e
 cases e
 refine ⟨hi,fun x H2 hy=>?_⟩
 obtain ⟨rfl,rfl⟩:=hy
 exact ⟨_,[],Stp.refl _ _ _,s2,⟨rfl,rfl⟩,List.nodup_nil⟩⟩
noncomputable def J51 (i:Int):Bool:=decide (-(2 ^ 62)≤i) && decide (i < 2 ^ 62)
theorem Jd0 {i:Int} (h:J51 i=true): -(2 ^ 62)≤i∧i < 2 ^ 62:=by
 unfold J51 at h
 rw [Zb] at h
 exact ⟨Zd h.1,Zd h.2⟩
noncomputable def J4t:List D→Option (List D)
 | [.int j]=>if (J51 j && decide (j.toNat≤sizeLine))=true then some (upto 0 j.toNat) else none
 | _=>none
noncomputable def eNi (g:List D→Option (List D)) (r:Gam→Rz (List D)) (Γ:Gam):Rz (List D):=(r Γ).bind fun xs Γ1=>Rz.opt (g xs) Γ1
theorem Jhj {ds l:List D} (h:J4t ds=some l):∃j,ds= [.int j]∧J51 j=true∧j.toNat≤sizeLine∧l=upto 0 j.toNat:=by
 unfold J4t at h
 split at h
 ·split at h
  ·rename_i j hb
   rw [Zb] at hb
   cases h
   exact ⟨j,rfl,hb.1,Zd hb.2,rfl⟩
  ·cases h
 ·cases h
theorem DI.range1 {w:Wh} {tg:Expr} {p:Pos} {fa:Gam→Rz (List D)} (hg:Gl X "range") (hm:X.mg "range" =none) (ha:DA X w μ [a] fa [m] μ') (hs:starEach [a] X.env= [(false,eval a X.env)]):DI X w μ tg (.Call (.Name "range" p) [a] [] pos) (eNi J4t fa) .Z μ':=by
 refine ⟨(pi_range1 hg hm ha.pa hs).imp fun σ H Q ⟨B,Γ,fp,st,q⟩=>⟨B,Γ,fp,st,?_⟩⟩
 unfold eNi at q
 revert q
 cases fa Γ with
 | ok ds Γ'=>
  intro q B' H' vs fpv fp' s st' r nd
  cases e:J4t ds with
  | none=>
   rw [show (Rz.ok ds Γ').bind (fun xs Γ1=>Rz.opt (J4t xs) Γ1)=Rz.bad from by show Rz.opt (J4t ds) Γ'=_;rw [e];rfl] at q
   exact q.elim
  | some l=>
   rw [show (Rz.ok ds Γ').bind (fun xs Γ1=>Rz.opt (J4t xs) Γ1)=Rz.ok l Γ' from by show Rz.opt (J4t ds) Γ'=_;rw [e];rfl] at q
   obtain ⟨j,rfl,b1,hz,rfl⟩:=Jhj e
   obtain ⟨v,r',f1,f2,rfl,r1,r2,rfl⟩:=r
   obtain ⟨rfl,rfl⟩:=r1
   obtain ⟨rfl,rfl⟩:=r2
   exact ⟨j,rfl,(Jd0 b1).1,(Jd0 b1).2,q B' H' _ fp' s st' (Jjx 0 j.toNat hz)⟩
 | exc x Γ'=>exact id
 | bad=>exact id
noncomputable def J14 (t:D→Gam→Option Gam) (b:Gam→Sz):List D→Gam→Sz
 | [],Γ=> .nx Γ
 | d::ds,Γ=>match t d Γ with
  | none=> .bad
  | some Γ1=>match b Γ1 with
   | .nx Γ2=>J14 t b ds Γ2
   | .ct Γ2=>J14 t b ds Γ2
   | .bk Γ2=> .nx Γ2
   | .rt d Γ2=> .rt d Γ2
   | .exc x Γ2=> .exc x Γ2
   | .bad=> .bad
noncomputable def Jfv (i:Gam→Rz (List D)) (t:D→Gam→Option Gam) (b:Gam→Sz) (Γ:Gam):Sz:=(i Γ).s fun ds Γ1=>J14 t b ds Γ1
theorem DS.for_ {tg iter:Expr} {fi:Gam→Rz (List D)} {t:D→Gam→Option Gam} (hp:PassesOwn (model X.prog X.w) X.A X.env X.xe) (hc:X.calm=true) (hi:DI X z.w μ tg iter fi m μ1) (wk:J6 μ1 μ2=true) (hg:DG X (PinOk z.pin) μ2 tg m t μ') (hb:DSs X (z.loop μ2) μ' body sf μ2) (hs:∀x,foldedSetIterable iter X.env x=pure x):DS X z μ (.For tg iter body [] pos) (Jfv fi t sf) μ2:=by
 refine ⟨(ps_for hp hc hi.pi hg.pg hb.ps hs).imp fun D σ H ⟨hpn,B,Γ,fp,sta,q⟩=>⟨B,Γ,fp,sta,?_⟩⟩
 unfold Jfv at q
 revert q
 cases fi Γ with
 | bad=>exact id
 | exc x Γ'=>exact fun q B' H' fpe fp' cls dd s st' ex nd=>q σ B' H' fpe fp' cls dd s st' ex nd hpn
 | ok ds Γ'=>
  intro q B0 H0 J fp0 s0 st0 itr
  have q0:Jo X.K z μ2 B H fp D (J14 t sf ds Γ'):=q
  obtain ⟨B1,fp1,s1,st1,k1⟩:=st0.weak (l:= []) wk (fun a h=>by cases h) (fun a h=>by cases h)
  refine ⟨fun i k σ H=>k + i=ds.length∧PinOk z.pin σ∧∃B Γ fp,Same B0 B∧Sta X.K B H Γ μ2 σ fp∧Jo X.K z μ2 B H fp D (J14 t sf (ds.drop i) Γ),⟨ds.length,by omega,hpn,B1,Γ',fp1,s1.base,st1,q0.after (s0.trans s1)⟩,?_⟩
  rintro i k σ H ⟨hk,hpn,B,Γ,fp,hB,sta,q⟩
  obtain ⟨i1,i2⟩:=itr.2 i B H hB sta.same
  cases k with
  | zero=>
   have e:ds.drop i= []:=List.drop_eq_nil_iff.mpr (by omega)
   rw [e] at q
   exact .inl ⟨i2 (by omega),q σ B H fp (Stp.refl _ _ _) sta hpn⟩
  | succ k=>
   have hi:i < ds.length:=by omega
   have ed:ds.drop i=ds[i]::ds.drop (i + 1):=List.drop_eq_getElem_cons hi
   obtain ⟨g1,g2⟩:=i1 ds[i] (Ze hi)
   refine .inr ⟨g1,fun σ' H'=>PinOk z.pin σ'∧∃B Γ fp,Same B0 B∧Sta X.K B H' Γ μ2 σ' fp∧Jo X.K z μ2 B H' fp D (J14 t sf (ds.drop (i + 1)) Γ),fun σ' H' ⟨h1,h2⟩=>⟨k,Nat.lt_succ_self _,by omega,h1,h2⟩,fun x H2 hy=>?_⟩
   obtain ⟨Bx,fpx,sx,smx,rx,nx⟩:=g2 x H2 hy
   rw [ed] at q
   have kx:Kept Bx H H2 fp:=sx.kept (K:=X.K) sta.st.own fun a h q=>by cases q
   have dj:∀a∈fpx,a∉fp:=fun a h q=>by
    rcases sx.own a h with z | z
    ·cases z
    ·obtain ⟨_,o,e⟩:=sta.st.own a q
     rw [e] at z;cases z
   have st2:Sta X.K Bx H2 Γ μ2 σ fp:=⟨smx,sta.st.mono sx.base kx,sta.nd⟩
   have s2:Stp B H fp Bx H2 (fpx++fp):=by
    have:=sx.more (fp2:=fp) (fun a h=>by cases h)
    exact ⟨this.base,this.keep,fun a h=>(Zp.mp h).elim (fun z=>this.own a z) fun z=> .inl z,this.new⟩
   refine ⟨hpn,Bx,Γ,fp,fpx,ds[i],st2,rx,J0.mpr ⟨nx,sta.nd,dj⟩,?_⟩
   revert q
   show Jo X.K z μ2 B H fp D (match t ds[i] Γ with
    | none=> .bad
    | some Γ1=>match sf Γ1 with
     | .nx Γ2=>J14 t sf (ds.drop (i + 1)) Γ2
     | .ct Γ2=>J14 t sf (ds.drop (i + 1)) Γ2
     | .bk Γ2=> .nx Γ2
     | .rt d Γ2=> .rt d Γ2
     | .exc x Γ2=> .exc x Γ2
     | .bad=> .bad)→_
   cases t ds[i] Γ with
   | none=>exact id
   | some Γ1=>
    intro q σ3 B3 H3 fp3 s3 st3 hp3
    refine ⟨hp3,B3,Γ1,fp3,st3,?_⟩
    have sb:Same B0 B3:=(hB.trans sx.base).trans s3.base
    have q2:=q.after (s2.trans s3)
    revert q2
    show Jo X.K z μ2 B3 H3 fp3 D (match sf Γ1 with
     | .nx Γ2=>J14 t sf (ds.drop (i + 1)) Γ2
     | .ct Γ2=>J14 t sf (ds.drop (i + 1)) Γ2
     | .bk Γ2=> .nx Γ2
     | .rt d Γ2=> .rt d Γ2
     | .exc x Γ2=> .exc x Γ2
     | .bad=> .bad)→_
    cases sf Γ1 with
    | nx Γ2=>exact fun q σ4 B4 H4 fp4 s4 st4 hp4=>⟨hp4,B4,Γ2,fp4,sb.trans s4.base,st4,q.after s4⟩
    | ct Γ2=>exact fun q σ4 B4 H4 fp4 s4 st4 hp4=>⟨hp4,B4,Γ2,fp4,sb.trans s4.base,st4,q.after s4⟩
    | bk Γ2=>exact fun q σ4 B4 H4 fp4 s4 st4 hp4=>q σ4 B4 H4 fp4 s4 st4 hp4
    | rt d Γ2=>exact id
    | exc x Γ2=>exact id
    | bad=>exact id
end
structure DTs (X:Cx) (w:Wh) (μ:List Mode) (ifs:List Expr) (f:Gam→Rz Bool) (μ':List Mode):Prop where
 pt:PTs X ifs (tDT X.K w μ f μ')
theorem _root_.L2.PTs.imp {X:Cx} {e:List Expr} {t t':TT} (h:PTs X e t) (i:∀σ H Q,t' σ H Q→t σ H Q):PTs X e t':=⟨fun pins s σ H Q I q=>h.run pins s σ H Q I (i σ H Q q)⟩
noncomputable def Joz (Γ:Gam):Rz Bool:= .ok true Γ
noncomputable def Jf (Γ:Gam):List Nat→Gam
 | []=>Γ
 | v::vs=>(Jf Γ vs).set v none
noncomputable def J2 (μ:List Mode):List Nat→List Mode
 | []=>μ
 | v::vs=>(J2 μ vs).set v .U
noncomputable def J3w (Γ1 Γ:Gam):List Nat→Gam
 | []=>Γ
 | v::vs=>J3w Γ1 (Γ.set v ((Γ1[v]?).getD none)) vs
noncomputable def J2p (μ1 μ:List Mode):List Nat→List Mode
 | []=>μ
 | v::vs=>J2p μ1 (μ.set v ((μ1[v]?).getD .U)) vs
noncomputable def Jw (t:D→Gam→Option Gam) (tt:Gam→Rz Bool) (fe:Gam→Rz D) (vs:List Nat):List D→Gam→List D→Option (List D × Gam)
 | [],Γ,acc=>some (acc,Γ)
 | d::ds,Γ,acc=>match t d Γ with
  | none=>none
  | some Γ1=>match tt Γ1 with
   | .ok true Γ2=>(match fe Γ2 with
    | .ok y Γ3=>Jw t tt fe vs ds (Jf Γ3 vs) (acc++ [y])
    | _=>none)
   | .ok false Γ2=>Jw t tt fe vs ds (Jf Γ2 vs) acc
   | _=>none
noncomputable def eLc (fi:Gam→Rz (List D)) (t:D→Gam→Option Gam) (tt:Gam→Rz Bool) (fe:Gam→Rz D) (vs:List Nat) (Γ:Gam):Rz D:=(fi Γ).bind fun ds Γ1=>match Jw t tt fe vs ds (Jf Γ1 vs) [] with
 | some (ys,Γ2)=> .ok (.lst ys) (J3w Γ1 Γ2 vs)
 | none=> .bad
section
variable {K:Zf} {B H:Hp}
noncomputable def flM:Mode→Bool
 | .F=>true
 | .Z=>true
 | .U=>true
 | .X=>true
 | _=>false
noncomputable def flO (m:Option Mode):Bool:=match m with
 | some m=>flM m
 | none=>false
noncomputable def Je (μ:List Mode) (vs:List Nat):Bool:=vs.all fun i=>flO μ[i]?
theorem SlR.flat {g:Option D} {m:Mode} {s:Option V} {fp:List Addr} (h:SlR K B H g m s fp) (f:flM m=true):fp= []:=by
 cases g with
 | none=>exact h
 | some d=>
  rcases h with h | h | ⟨v,_,r⟩
  ·exact h.2
  ·exact h.2.1
  ·cases m with
   | F=>exact r.fpF
   | Z=>exact r.fpZ
   | U=>have:=R.noU (m:= .Z) r;exact this.fpZ
   | X=>have:=R.noX (m:= .Z) r;exact this.fpZ
   | _=>cases f
theorem StR.swap:∀{Γ:Gam} {μ:List Mode} {σ:St} {fp:List Addr} {i:Nat} {g:Option D} {m:Mode} {s:Option V},StR K B H Γ μ σ fp→flO μ[i]? =true→SlR K B H g m s []→
  StR K B H (Γ.set i g) (μ.set i m) (σ.set i s) fp
 | g0::Γ,m0::μ,s0::σ,fp,0,g,m,s,h,f,r=>by
  obtain ⟨fp1,fp2,h1,h2,rfl⟩:=h
  have z:fp1= []:=h1.flat f
  subst z
  exact ⟨[],fp2,r,h2,rfl⟩
 | g0::Γ,m0::μ,s0::σ,fp,i + 1,g,m,s,h,f,r=>by
  obtain ⟨fp1,fp2,h1,h2,rfl⟩:=h
  exact ⟨fp1,fp2,h1,StR.swap (i:=i) h2 (by simpa using f) r,rfl⟩
 | [],[],[],_,_,_,_,_,h,f,r=>h
 | [],_::_,_,_,_,_,_,_,h,_,_=>h.elim
 | [],[],_::_,_,_,_,_,_,h,_,_=>h.elim
 | _::_,[],_,_,_,_,_,_,h,_,_=>h.elim
 | _::_,_::_,[],_,_,_,_,_,h,_,_=>h.elim
theorem Jet {μ:List Mode} {i x:Nat} {m:Mode} (h:flO μ[x]? =true) (f:flM m=true):flO (μ.set i m)[x]? =true:=by
 by_cases e:i=x
 ·subst e
  cases q:μ[i]? with
  | none=>rw [q] at h;cases h
  | some m0=>
   have hi:=(List.getElem?_eq_some_iff.mp q).1
   rw [List.getElem?_set_self hi]
   exact f
 ·rw [List.getElem?_set_ne e];exact h
theorem Jjy {μ:List Mode} {i:Nat} {vs:List Nat} {m:Mode} (h:Je μ vs=true) (f:flM m=true):Je (μ.set i m) vs=true:=by
 unfold Je at h ⊢
 rw [List.all_eq_true] at h ⊢
 exact fun x hx=>Jet (h x hx) f
theorem J52 {μ:List Mode} {v:Nat} {vs:List Nat} (h:Je μ (v::vs)=true):flO μ[v]? =true∧Je μ vs=true:=by
 unfold Je at h
 rw [List.all_cons,Zb] at h
 exact h
theorem J83 {μ:List Mode} {x:Nat}:∀{vs:List Nat},flO μ[x]? =true→flO (J2 μ vs)[x]? =true
 | [],h=>h
 | v::vs,h=>Jet (J83 h) rfl
theorem StR.wipe {Γ:Gam} {μ:List Mode} {σ:St} {fp:List Addr}:∀{vs:List Nat},StR K B H Γ μ σ fp→Je μ vs=true→StR K B H (Jf Γ vs) (J2 μ vs) (L2.wipe σ vs) fp
 | [],h,f=>h
 | v::vs,h,f=>StR.swap (StR.wipe (vs:=vs) h (J52 f).2) (J83 (J52 f).1) rfl
theorem StR.slot:∀{Γ:Gam} {μ:List Mode} {σ:St} {fp:List Addr} {i:Nat},StR K B H Γ μ σ fp→i < σ.length→∃fq,SlR K B H ((Γ[i]?).getD none) ((μ[i]?).getD .U) ((σ[i]?).getD none) fq∧∀a∈fq,a∈fp
 | g0::Γ,m0::μ,s0::σ,fp,0,h,hi=>by
  obtain ⟨fp1,fp2,h1,h2,rfl⟩:=h
  exact ⟨fp1,h1,fun a h=>Zl _ h⟩
 | g0::Γ,m0::μ,s0::σ,fp,i + 1,h,hi=>by
  obtain ⟨fp1,fp2,h1,h2,rfl⟩:=h
  obtain ⟨fq,q1,q2⟩:=StR.slot (i:=i) h2 (Nat.lt_of_succ_lt_succ hi)
  exact ⟨fq,by simpa using q1,fun a h=>Zr _ (q2 a h)⟩
 | [],[],[],_,_,h,hi=>absurd hi (Nat.not_lt_zero _)
 | [],_::_,_,_,_,h,_=>h.elim
 | [],[],_::_,_,_,h,_=>h.elim
 | _::_,[],_,_,_,h,_=>h.elim
 | _::_,_::_,[],_,_,h,_=>h.elim
noncomputable def Ja5 (σ0 σ:St):List Nat→St
 | []=>σ
 | v::vs=>Ja5 σ0 (σ.set v ((σ0[v]?).getD none)) vs
theorem StR.back {B1 H1:Hp} {Γ1:Gam} {μ1:List Mode} {σ0:St} {fp1 fp:List Addr} (hB:Same B1 B) (h1:StR K B1 H1 Γ1 μ1 σ0 fp1):∀{vs:List Nat} {Γ:Gam} {μ:List Mode} {σ:St},StR K B H Γ μ σ fp→Je μ1 vs=true→Je μ vs=true→StR K B H (J3w Γ1 Γ vs) (J2p μ1 μ vs) (Ja5 σ0 σ vs) fp
 | [],Γ,μ,σ,h,f1,f=>h
 | v::vs,Γ,μ,σ,h,f1,f=>by
  have f1':=J52 f1
  have f':=J52 f
  have fm:∃m,μ1[v]? =some m∧flM m=true:=by
   have:=f1'.1
   cases q:μ1[v]? with
   | none=>rw [q] at this;cases this
   | some m=>rw [q] at this;exact ⟨m,rfl,this⟩
  obtain ⟨m,em,fm⟩:=fm
  have hv:v < σ0.length:=by
   rw [← h1.len.2];exact (List.getElem?_eq_some_iff.mp em).1
  obtain ⟨fq,q1,q2⟩:=h1.slot hv
  rw [em] at q1
  have z:=q1.flat fm
  subst z
  have e: (μ1[v]?).getD .U=m:=by rw [em];rfl
  have sw:=StR.swap (i:=v) h f'.1 (q1.mono hB Kept.nil)
  show StR K B H (J3w Γ1 (Γ.set v ((Γ1[v]?).getD none)) vs) (J2p μ1 (μ.set v ((μ1[v]?).getD .U)) vs) (Ja5 σ0 (σ.set v ((σ0[v]?).getD none)) vs) fp
  rw [e]
  exact StR.back hB h1 sw f1'.2 (Jjy f'.2 fm)
theorem Jd1 {σ:St}:∀{vs:List Nat} {τ:St},τ.length=σ.length→(∀i:Nat,i∉vs→τ[i]? =σ[i]?)→Ja5 σ τ vs=σ
 | [],τ,hl,h=>List.ext_getElem? fun i=>h i (fun z=>nomatch z)
 | v::vs,τ,hl,h=>by
  refine Jd1 (vs:=vs) (τ:=τ.set v ((σ[v]?).getD none)) (by rw [List.length_set,hl]) fun i hi=>?_
  by_cases e:v=i
  ·subst e
   by_cases hv:v < σ.length
   ·rw [List.getElem?_set_self (by rw [hl];exact hv),Ze hv];rfl
   ·rw [List.getElem?_eq_none (by rw [List.length_set,hl];omega),List.getElem?_eq_none (by omega)]
  ·rw [List.getElem?_set_ne e]
   exact h i fun z=>(Zo.mp z).elim (fun q=>e q.symm) hi
theorem Jfw {σ:St} {vs:List Nat}:Ja5 σ (L2.wipe σ vs) vs=σ:=Jd1 (L2.wipe_length σ vs) fun _ h=>L2.wipe_out h
theorem Rl.snoc {ds:List D} {m:Mode} {vs:List V} {fp fq:List Addr} {d:D} {v:V} (h:Rl K B H ds m vs fp) (r:R K B H d m v fq):Rl K B H (ds++ [d]) m (vs++ [v]) (fp++fq):=by
 induction ds generalizing vs fp with
 | nil=>
  obtain ⟨rfl,rfl⟩:=h
  exact ⟨v,[],fq,[],rfl,r,⟨rfl,rfl⟩,by simp⟩
 | cons d0 ds ih=>
  obtain ⟨v0,r0,f1,f2,rfl,h1,h2,rfl⟩:=h
  exact ⟨v0,r0++ [v],f1,f2++fq,rfl,h1,ih h2,by rw [List.append_assoc]⟩
end
section
variable {X:Cx} {w:Wh} {μ μ' μ1 μ2 μt μe:List Mode} {e a b c:Expr} {m me:Mode} {pos:Pos} {vs:List Nat}
theorem DTs.nil:DTs X w μ [] Joz μ:=⟨pts_nil.imp fun σ H Q ⟨B,Γ,fp,st,q⟩=>q B H fp (Stp.refl _ _ _) st⟩
theorem DTs.one {f:Gam→Rz Bool} (h:DT X w μ c f μ'):DTs X w μ [c] f μ':=⟨pts_one h.pt⟩
noncomputable def wNo (μ:List Mode):Wh:=⟨fun _ _ _ _=>False,μ⟩
theorem J25 {K:Zf} {B H:Hp} {p:Addr} {o:HO} (s:Lies K B H) (np:H p=none):Lies K B (upd H p o):=s.put (s.free np) (.none np)
theorem J54 {K:Zf} {B H:Hp} {p:Addr} {o:HO} (s:Lies K B H) (b0:B p=none) (nt:J2g H p):Lies K B (upd H p o):=s.put b0 nt
theorem Jk {B H:Hp} {p:Addr} {o:HO} {l:List Addr} (ho:∀a∈l,B a=none) (hp:p∉l):Kept B H (upd H p o) l:=fun a h=>⟨fun q e=>by rw [upd_ne (fun z=>by subst z;exact hp h)];exact e,ho a h⟩
theorem J9f {σ:St} {i:Nat} {s:Option V}:∀{vs:List Nat},i∈vs→L2.wipe (σ.set i s) vs=L2.wipe σ vs:=fun {vs} hi=>by
 refine List.ext_getElem? fun j=>?_
 have len:∀ (τ:St),(L2.wipe τ vs).length=τ.length:=fun τ=>L2.wipe_length τ vs
 by_cases e:j∈vs
 ·have key:∀ (τ:St) (ws:List Nat),j∈ws→(L2.wipe τ ws)[j]? =if j < τ.length then some none else none:=by
   intro τ ws
   induction ws with
   | nil=>exact fun h=>nomatch h
   | cons w ws ih=>
    intro h
    rw [L2.wipe]
    by_cases e2:w=j
    ·subst e2
     by_cases q:w < τ.length
     ·rw [List.getElem?_set_self (by rw [L2.wipe_length];exact q),if_pos q]
     ·rw [if_neg q,List.getElem?_eq_none (by rw [List.length_set,L2.wipe_length];omega)]
    ·rw [List.getElem?_set_ne e2]
     exact ih ((Zo.mp h).elim (fun q=>absurd q.symm e2) id)
  rw [key _ vs e,key _ vs e,List.length_set]
 ·rw [L2.wipe_out e,L2.wipe_out e,List.getElem?_set_ne (fun z=>e (by rw [← z];exact hi))]
theorem Jd2 {σ:St} {vs:List Nat}:L2.wipe (L2.wipe σ vs) vs=L2.wipe σ vs:=by
 have key:∀ (ws:List Nat) (τ:St),(∀v∈ws,v∈vs)→L2.wipe (L2.wipe τ ws) vs=L2.wipe τ vs:=by
  intro ws
  induction ws with
  | nil=>exact fun _ _=>rfl
  | cons w ws ih=>
   intro τ h
   rw [L2.wipe,J9f (h w Zs)]
   exact ih τ fun v hv=>h v (Zc _ hv)
 exact key vs σ fun _ h=>h
noncomputable def tGw (K:Zf) (vs:List Nat) (μ:List Mode) (m:Mode) (t:D→Gam→Option Gam) (μ':List Mode):TG:=fun v σ H Q=>tG K (fun τ=>L2.wipe τ vs=L2.wipe σ vs) μ m t μ' v σ H Q
theorem Jfx {K:Zf} {fi:Gam→Rz (List D)} {t:D→Gam→Option Gam} {tt:Gam→Rz Bool} {fe:Gam→Rz D} {σ:St} {H:Hp} {Q:VK} (hf1:Je μ1 vs=true) (hfe:Je μe vs=true) (wk:J6 (J2 μe vs) (J2 μ1 vs)=true) (wk2:J6 (J2 μt vs) (J2 μ1 vs)=true) (hft:Je μt vs=true)
  (q:tD K w μ (eLc fi t tt fe vs) (.O me) (J2p μ1 (J2 μ1 vs) vs) σ H Q):
  tLc (tDI K w μ fi m μ1) (tGw K vs (J2 μ1 vs) m t μt) (tDT K (wNo μt) μt tt μt) (tD K (wNo μt) μt fe me μe) vs σ H Q:=by
 obtain ⟨B,Γ,fp,st,q⟩:=q
 refine ⟨B,Γ,fp,st,?_⟩
 unfold eLc at q
 revert q
 cases fi Γ with
 | bad=>exact id
 | exc x Γ'=>exact id
 | ok ds Γ1=>
  intro q B0 H0 J fp0 s0 st0 itr Dl hDl
  have q0:match (match Jw t tt fe vs ds (Jf Γ1 vs) [] with
    | some (ys,Γ2)=>Rz.ok (D.lst ys) (J3w Γ1 Γ2 vs)
    | none=> .bad) with
   | .ok d Γ'=>∀B' H' v fpv fp',Stp B H fp B' H' (fpv++fp')→Sta K B' H' Γ' (J2p μ1 (J2 μ1 vs) vs) σ fp'→R K B' H' d (.O me) v fpv→(fpv++fp').Nodup→Q v H'
   | .exc x Γ'=>J18 K w B H fp σ x Γ'
   | .bad=>False:=q
  clear q
  have bD:B0 Dl=none:=by
   cases e:B0 Dl with
   | none=>rfl
   | some o=>rw [st0.same.free hDl] at e;cases e
  have nDfp:Dl∉fp0:=fun h=>by
   obtain ⟨_,o,e⟩:=st0.st.own Dl h
   rw [e] at hDl;cases hDl
  -- what holds ahead of the turn i
  let Fin:Option (List D × Gam)→Prop:=fun r=>match (match r with
    | some (ys,Γ2)=>Rz.ok (D.lst ys) (J3w Γ1 Γ2 vs)
    | none=> .bad) with
   | .ok d Γ'=>∀B' H' v fpv fp',Stp B H fp B' H' (fpv++fp')→Sta K B' H' Γ' (J2p μ1 (J2 μ1 vs) vs) σ fp'→R K B' H' d (.O me) v fpv→(fpv++fp').Nodup→Q v H'
   | .exc x Γ'=>J18 K w B H fp σ x Γ'
   | .bad=>False
  let Wv:Nat→Nat→Hp→Prop:=fun i k H1=>k + i=ds.length∧∃B1 Γ2 fp2 acc accD fa,Same B0 B1∧Sta K B1 H1 Γ2 (J2 μ1 vs) (L2.wipe σ vs) fp2∧H1 Dl=some (.lst acc)∧B1 Dl=none∧Rl K B1 H1 accD me acc fa∧(Dl::fa++fp2).Nodup∧accD.length≤i∧Stp B H fp B1 H1 (Dl::fa++fp2)∧
   Fin (Jw t tt fe vs (ds.drop i) Γ2 accD)
  refine ⟨Wv,⟨ds.length,?_⟩,?_⟩
  ·refine ⟨by omega,B0,Jf Γ1 vs,fp0,[],[],[],Same.refl _,⟨J25 st0.same hDl,(st0.st.wipe hf1).mono (Same.refl _) (Jk (fun a h=>(st0.st.own a h).1) nDfp),st0.nd⟩,upd_same,bD,⟨rfl,rfl⟩,List.nodup_cons.mpr ⟨by simpa using nDfp,st0.nd⟩,Nat.le_refl _,?_,q0⟩
   refine ⟨s0.base,fun a o n e=>?_,fun a h=>?_,s0.new⟩
   ·have:=s0.keep a o n e
    exact Jcy this hDl
   ·rcases Zo.mp h with rfl | h
    ·by_cases n:a∈fp
     ·exact .inl n
     ·cases e:H a with
      | none=>exact .inr rfl
      | some o=>obtain ⟨o',e'⟩:=s0.there n e;rw [e'] at hDl;cases hDl
    ·exact s0.own a (by simpa using h)
  ·rintro i k H1 ⟨hk,B1,Γ2,fp2,acc,accD,fa,hB,sta,hD,b1,ra,nd,hlen,stp,fin⟩
   obtain ⟨i1,i2⟩:=itr.2 i B1 H1 hB sta.same
   have ndc:=List.nodup_cons.mp nd
   have nda:=J0.mp ndc.2
   cases k with
   | zero=>
    have e:ds.drop i= []:=List.drop_eq_nil_iff.mpr (by omega)
    rw [e] at fin
    refine .inl ⟨i2 (by omega),?_⟩
    have fin':∀B' H' v fpv fp',Stp B H fp B' H' (fpv++fp')→Sta K B' H' (J3w Γ1 Γ2 vs) (J2p μ1 (J2 μ1 vs) vs) σ fp'→R K B' H' (.lst accD) (.O me) v fpv→(fpv++fp').Nodup→Q v H':=fin
    have bk:=StR.back (vs:=vs) (Γ:=Γ2) (μ:=J2 μ1 vs) (σ:=L2.wipe σ vs) hB st0.st sta.st hf1 (by
     unfold Je at hf1 ⊢
     rw [List.all_eq_true] at hf1 ⊢
     exact fun x hx=>J83 (hf1 x hx))
    rw [Jfw] at bk
    exact fin' B1 H1 (.ref Dl) (Dl::fa) fp2 stp ⟨sta.same,bk,sta.nd⟩ ⟨Dl,acc,fa,rfl,b1,hD,Nat.le_trans hlen (by have:=itr.1;omega),ra,rfl⟩ nd
   | succ k=>
    have hi:i < ds.length:=by omega
    have ed:ds.drop i=ds[i]::ds.drop (i + 1):=List.drop_eq_getElem_cons hi
    obtain ⟨g1,g2⟩:=i1 ds[i] (Ze hi)
    refine .inr ⟨g1,Wv (i + 1) k,fun H' h=>⟨k,Nat.lt_succ_self _,h⟩,fun x H2 hy=>?_⟩
    obtain ⟨Bx,fpx,sx,smx,rx,nx⟩:=g2 x H2 hy
    rw [ed] at fin
    -- all that is owned stands over the iterator's step
    have ownAll:∀a∈Dl::fa++fp2,B1 a=none∧∃o,H1 a=some o:=fun a h=>by
     rcases Zo.mp h with rfl | h
     ·exact ⟨b1,_,hD⟩
     ·rcases Zp.mp h with h | h
      ·exact Rl.own accD ra a h
      ·exact sta.st.own a h
    have kx:Kept Bx H1 H2 (Dl::fa++fp2):=sx.kept (K:=K) ownAll fun a h q=>by cases q
    have djx:∀a∈fpx,a∉Dl::fa++fp2:=fun a h q=>by
     rcases sx.own a h with z | z
     ·cases z
     ·obtain ⟨_,o,e⟩:=ownAll a q
      rw [e] at z;cases z
    have kfp:Kept Bx H1 H2 fp2:=fun a h=>kx a (Zc _ (Zr _ h))
    have st2:Sta K Bx H2 Γ2 (J2 μ1 vs) (L2.wipe σ vs) fp2:=⟨smx,sta.st.mono sx.base kfp,sta.nd⟩
    have hD2:H2 Dl=some (.lst acc):=(kx Dl Zs).1 _ hD
    have ra2:Rl K Bx H2 accD me acc fa:=ra.mono sx.base accD fun a h=>kx a (Zc _ (Zl _ h))
    have sAll:Stp B H fp Bx H2 (Dl::fa++fp2):=by
     have:=sx.more (fp2:=Dl::fa++fp2) fun a h=>by cases h
     exact stp.trans ⟨this.base,this.keep,fun a h=> .inl h,this.new⟩
    refine ⟨rfl,Bx,Γ2,fp2,fpx,ds[i],st2,rx,J0.mpr ⟨nx,sta.nd,fun a h q=>djx a h (Zc _ (Zr _ q))⟩,?_⟩
    revert fin
    show Fin (match t ds[i] Γ2 with
     | none=>none
     | some Γ1'=>match tt Γ1' with
      | .ok true Γ2'=>(match fe Γ2' with
       | .ok y Γ3=>Jw t tt fe vs (ds.drop (i + 1)) (Jf Γ3 vs) (accD++ [y])
       | _=>none)
      | .ok false Γ2'=>Jw t tt fe vs (ds.drop (i + 1)) (Jf Γ2' vs) accD
      | _=>none)→_
    cases t ds[i] Γ2 with
    | none=>exact fun f=>f.elim
    | some Γa=>
     intro fin σa Ba Ha fpa sa sta_a hwa0
     have hwa:L2.wipe σa vs=L2.wipe σ vs:=hwa0.trans Jd2
     refine ⟨hwa,?_⟩
     -- the temporaries over the target's store
     have djT:∀a∈Dl::fa,a∉fpx++fp2:=fun a h q=>by
      rcases Zp.mp q with q | q
      ·exact djx a q (Zl _ h)
      ·rcases Zo.mp h with rfl | h
       ·exact ndc.1 (Zr _ q)
       ·exact nda.2.2 a h q
     have ownT:∀a∈Dl::fa,Bx a=none∧∃o,H2 a=some o:=fun a h=>by
      obtain ⟨b,o,e⟩:=ownAll a (Zl _ h)
      exact ⟨(kx a (Zl _ h)).2,o,(kx a (Zl _ h)).1 o e⟩
     have sAllx:Stp B H fp Bx H2 ((Dl::fa)++ (fpx++fp2)):=by
      refine stp.trans ⟨sx.base,fun a o n e=>sx.keep a o (fun q=>nomatch q) e,fun a h=>?_,fun a o e=>(sx.new a o e).imp id fun q=> .inr (q.elim (fun z=>nomatch z) id)⟩
      rcases Zp.mp h with h | h
      ·exact .inl (Zl _ h)
      ·rcases Zp.mp h with h | h
       ·exact (sx.own a h).elim (fun z=>nomatch z) .inr
       ·exact .inl (Zr _ h)
     -- over one step of the state:what the comprehension holds
     have over:∀{Bn Hn:Hp} {fpn l:List Addr},Stp Bx H2 (fpx++fp2) Bn Hn (l++fpn)→Hn Dl=some (.lst acc)∧Bn Dl=none∧Rl K Bn Hn accD me acc fa∧(∀a∈Dl::fa,a∉l++fpn)∧Stp B H fp Bn Hn ((Dl::fa)++ (l++fpn)):=fun {Bn Hn fpn l} s=>by
      have kT:=s.kept (K:=K) ownT djT
      exact ⟨(kT Dl Zs).1 _ hD2,(kT Dl Zs).2,ra2.mono s.base accD fun a h=>kT a (Zc _ h),s.apart (fun a h=>(ownT a h).2) djT,sAllx.trans (s.frame (Dl::fa))⟩
     -- the end of a turn that leaves the item out
     have skip:∀{Bn Hn:Hp} {Γn:Gam} {fpn:List Addr},Stp Bx H2 (fpx++fp2) Bn Hn fpn→Sta K Bn Hn Γn μt σa fpn→Fin (Jw t tt fe vs (ds.drop (i + 1)) (Jf Γn vs) accD)→Wv (i + 1) k Hn:=fun {Bn Hn Γn fpn} s st f=>by
      obtain ⟨c1,c2,c3,c4,c5⟩:=over (l:= []) s
      have st3:Sta K Bn Hn (Jf Γn vs) (J2 μt vs) (L2.wipe σ vs) fpn:=⟨st.same,by rw [← hwa];exact st.st.wipe hft,st.nd⟩
      obtain ⟨Bz,fpz,sz,stz,kz⟩:=st3.weak (l:=Dl::fa) wk2 (fun a h=>by
       rcases Zo.mp h with rfl | h
       ·exact ⟨c2,_,c1⟩
       ·exact Rl.own accD c3 a h) c4
      refine ⟨by omega,Bz,Jf Γn vs,fpz,acc,accD,fa,((hB.trans sx.base).trans s.base).trans sz.base,stz,c1,(kz Dl Zs).2,c3.mono sz.base accD fun a h=>kz a (Zc _ h),?_,Nat.le_trans hlen (Nat.le_succ _),c5.trans (sz.frame (Dl::fa)),f⟩
      have:=sz.apart (l:=Dl::fa) (fun a h=>by
       rcases Zo.mp h with rfl | h
       ·exact ⟨_,c1⟩
       ·exact (Rl.own accD c3 a h).2) c4
      refine J0.mpr ⟨(J0.mp nd).1,stz.nd,this⟩
     refine ⟨Ba,Γa,fpa,sta_a,?_⟩
     revert fin
     show Fin (match tt Γa with
      | .ok true Γ2'=>(match fe Γ2' with
       | .ok y Γ3=>Jw t tt fe vs (ds.drop (i + 1)) (Jf Γ3 vs) (accD++ [y])
       | _=>none)
      | .ok false Γ2'=>Jw t tt fe vs (ds.drop (i + 1)) (Jf Γ2' vs) accD
      | _=>none)→_
     cases tt Γa with
     | bad=>exact fun f=>f.elim
     | exc x Γ=>exact fun f=>f.elim
     | ok bb Γb=>
      cases bb with
      | false=>exact fun fin Bb Hb fpb sb st_b=>skip (sa.trans sb) st_b fin
      | true=>
       intro fin Bb Hb fpb sb st_b
       show tD K (wNo μt) μt fe me μe σa Hb _
       refine ⟨Bb,Γb,fpb,st_b,?_⟩
       revert fin
       show Fin (match fe Γb with
        | .ok y Γ3=>Jw t tt fe vs (ds.drop (i + 1)) (Jf Γ3 vs) (accD++ [y])
        | _=>none)→_
       cases fe Γb with
       | bad=>exact fun f=>f.elim
       | exc x Γ=>exact fun f=>f.elim
       | ok y Γc=>
        intro fin Bc Hc v fv fpc sc st_c rc nc
        have sAll2:Stp Bx H2 (fpx++fp2) Bc Hc (fv++fpc):=(sa.trans sb).trans sc
        obtain ⟨c1,c2,c3,c4,c5⟩:=over sAll2
        have ncs:=J0.mp nc
        refine ⟨acc,c1,by rw [ra.len];have:=itr.1;omega,?_⟩
        have nDfv:Dl∉fv:=fun q=>c4 Dl Zs (Zl _ q)
        have nDfa:Dl∉fa:=fun q=>ndc.1 (Zl _ q)
        have nDfp:Dl∉fpc:=fun q=>c4 Dl Zs (Zr _ q)
        have st3:Sta K Bc (upd Hc Dl (.lst (acc++ [v]))) (Jf Γc vs) (J2 μe vs) (L2.wipe σ vs) fpc:=⟨J54 st_c.same c2 (.lst c1),by
         rw [← hwa]
         exact (st_c.st.mono (Same.refl _) (Jk (fun a h=>(st_c.st.own a h).1) nDfp)).wipe hfe,st_c.nd⟩
        have r2:R K Bc (upd Hc Dl (.lst (acc++ [v]))) y me v fv:=rc.mono (Same.refl _) y (Jk (fun a h=>(R.own y rc a h).1) nDfv)
        have ra3:Rl K Bc (upd Hc Dl (.lst (acc++ [v]))) accD me acc fa:=c3.mono (Same.refl _) accD (Jk (fun a h=>(Rl.own accD c3 a h).1) nDfa)
        have ra4:=ra3.snoc r2
        have own4:∀a∈Dl:: (fa++fv),Bc a=none∧∃o,upd Hc Dl (.lst (acc++ [v])) a=some o:=fun a h=>by
         rcases Zo.mp h with rfl | h
         ·exact ⟨c2,_,upd_same⟩
         ·exact Rl.own _ ra4 a h
        have dj4:∀a∈Dl:: (fa++fv),a∉fpc:=fun a h q=>by
         rcases Zo.mp h with rfl | h
         ·exact nDfp q
         ·rcases Zp.mp h with h | h
          ·exact c4 a (Zc _ h) (Zr _ q)
          ·exact ncs.2.2 a h q
        obtain ⟨Bz,fpz,sz,stz,kz⟩:=st3.weak (l:=Dl:: (fa++fv)) wk own4 dj4
        have s5:Stp B H fp Bc (upd Hc Dl (.lst (acc++ [v]))) ((Dl:: (fa++fv))++fpc):=by
         refine ⟨c5.base,fun a o n e=>?_,fun a h=>c5.own a ?_,c5.new⟩
         ·have e':=c5.keep a o n e
          have z:a≠Dl:=by
           rintro rfl
           rcases c5.own a (Zl _ Zs) with q | q
           ·exact n q
           ·rw [e] at q;cases q
          exact Jcx e' z
         ·simp only [Zp,Zo] at h ⊢
          rcases h with (h | h | h) | h
          ·exact .inl (.inl h)
          ·exact .inl (.inr h)
          ·exact .inr (.inl h)
          ·exact .inr (.inr h)
        refine ⟨by omega,Bz,Jf Γc vs,fpz,acc++ [v],accD++ [y],fa++fv,((hB.trans sx.base).trans sAll2.base).trans sz.base,stz,upd_same,(kz Dl Zs).2,ra4.mono sz.base _ fun a h=>kz a (Zc _ h),?_,by rw [List.length_append];simpa using hlen,s5.trans (sz.frame _),fin⟩
        refine J0.mpr ⟨List.nodup_cons.mpr ⟨fun q=>(Zp.mp q).elim nDfa nDfv,J0.mpr ⟨nda.1,ncs.1,fun a h q=>c4 a (Zc _ h) (Zl _ q)⟩⟩,stz.nd,sz.apart (fun a h=>(own4 a h).2) dj4⟩
theorem Jeu {wi:TI} {g:TG} {tt:TT} {te:TE} {vs:List Nat} {σ:St} {H:Hp} {Q Q':VK} (h:tLc wi g tt te vs σ H Q) (i:∀x H,Q x H→Q' x H) (im:∀σ H R R',(∀J H,R J H→R' J H)→wi σ H R→wi σ H R'):tLc wi g tt te vs σ H Q':=by
 refine im _ _ _ _ (fun J H1 h D hD=>?_) h
 obtain ⟨W,h0,hW⟩:=h D hD
 exact ⟨W,h0,fun i' m' H' w'=>(hW i' m' H' w').imp (fun q=>⟨q.1,i _ _ q.2⟩) id⟩
theorem Jd3 {K:Zf} {fi:Gam→Rz (List D)} {σ:St} {H:Hp} {R R':It→Hp→Prop} (i:∀J H,R J H→R' J H) (h:tDI K w μ fi m μ1 σ H R):tDI K w μ fi m μ1 σ H R':=by
 obtain ⟨B,Γ,fp,st,q⟩:=h
 refine ⟨B,Γ,fp,st,?_⟩
 revert q
 cases fi Γ with
 | ok d Γ'=>exact fun q B' H' J fp' s st' it=>i _ _ (q B' H' J fp' s st' it)
 | exc x Γ'=>exact id
 | bad=>exact id
theorem DE.lc {elt tg iter:Expr} {ifs:List Expr} {scope:Scope} {own:List (Str × Nat)} {fi:Gam→Rz (List D)} {t:D→Gam→Option Gam} {tt:Gam→Rz Bool} {fe:Gam→Rz D} (hc:X.calm=true) (hN:X.N.Nodup) (ok:BlkOk X.N X.env.scope scope own)
  (hi:DI X w μ tg iter fi m μ1) (hf1:Je μ1 (own.map (·.2))=true) (hfe:Je μe (own.map (·.2))=true) (hft:Je μt (own.map (·.2))=true) (wk:J6 (J2 μe (own.map (·.2))) (J2 μ1 (own.map (·.2)))=true) (wk2:J6 (J2 μt (own.map (·.2))) (J2 μ1 (own.map (·.2)))=true)
  (hg:∀ (s:Shared) (H:Hp) (C:Addr) (cl:List (Str × Addr)) (fp:List Addr) (σ0:St),DG (X.blk s H scope (compEnvC scope cl C X.env) fp) (fun τ=>L2.wipe τ (own.map (·.2))=L2.wipe σ0 (own.map (·.2))) (J2 μ1 (own.map (·.2))) tg m t μt)
  (ht:∀ (s:Shared) (H:Hp) (C:Addr) (cl:List (Str × Addr)) (fp:List Addr),DTs (X.blk s H scope (compEnvC scope cl C X.env) fp) (wNo μt) μt ifs tt μt)
  (he:∀ (s:Shared) (H:Hp) (C:Addr) (cl:List (Str × Addr)) (fp:List Addr),DE (X.blk s H scope (compEnvC scope cl C X.env) fp) (wNo μt) μt elt fe me μe)
  (hs:∀x,foldedSetIterable iter X.env x=pure x):DE X w μ (.ListComp elt [⟨tg,iter,ifs,0⟩] scope pos) (eLc fi t tt fe (own.map (·.2))) (.O me) (J2p μ1 (J2 μ1 (own.map (·.2))) (own.map (·.2))):=
 ⟨(pe_lc hc hN hi.pi ok (fun s H C cl fp=>⟨fun pins s' σ' H' v u Q I r q=>(hg s H C cl fp σ').pg.run pins s' σ' H' v u Q I r q⟩:∀s H C cl fp,PG _ tg (tGw X.K (own.map (·.2)) (J2 μ1 (own.map (·.2))) m t μt)) (fun s H C cl fp=>(ht s H C cl fp).pt) (fun s H C cl fp=>(he s H C cl fp).pe) hs).imp fun σ H Q q=>Jfx hf1 hfe wk wk2 hft q⟩
theorem DS.setLc {z:Ws} {i:Nat} {y:Str} {py:Pos} {spos:Pos} {elt tg iter:Expr} {ifs:List Expr} {scope:Scope} {own:List (Str × Nat)} {fi:Gam→Rz (List D)} {t:D→Gam→Option Gam} {tt:Gam→Rz Bool} {fe:Gam→Rz D} (hc:X.calm=true) (hN:X.N.Nodup) (hy:X.N[i]? =some y) (hyl:X.env.scope.names.lookup y=some .local)
  (hsw:swapsWith (.ListComp elt [⟨tg,iter,ifs,0⟩] scope pos) (some (.Name y py)) spos.line X.env=pure true) (ok:BlkOk X.N X.env.scope scope own)
  (hi:DI X z.w μ tg iter fi m μ1) (hf1:Je μ1 (own.map (·.2))=true) (hfe:Je μe (own.map (·.2))=true) (hft:Je μt (own.map (·.2))=true) (wk:J6 (J2 μe (own.map (·.2))) (J2 μ1 (own.map (·.2)))=true) (wk2:J6 (J2 μt (own.map (·.2))) (J2 μ1 (own.map (·.2)))=true)
  (hg:∀ (s:Shared) (H:Hp) (C:Addr) (cl:List (Str × Addr)) (fp:List Addr) (σ0:St),DG (X.blk s H scope (compEnvC scope cl C X.env) fp) (fun τ=>L2.wipe τ (own.map (·.2))=L2.wipe σ0 (own.map (·.2))) (J2 μ1 (own.map (·.2))) tg m t μt)
  (ht:∀ (s:Shared) (H:Hp) (C:Addr) (cl:List (Str × Addr)) (fp:List Addr),DTs (X.blk s H scope (compEnvC scope cl C X.env) fp) (wNo μt) μt ifs tt μt)
  (he:∀ (s:Shared) (H:Hp) (C:Addr) (cl:List (Str × Addr)) (fp:List Addr),DE (X.blk s H scope (compEnvC scope cl C X.env) fp) (wNo μt) μt elt fe me μe)
  (hs:∀x,foldedSetIterable iter X.env x=pure x) (hp:∀σ s,PinOk z.pin σ→PinOk z.pin (σ.set i s)) (hl:i < (J2p μ1 (J2 μ1 (own.map (·.2))) (own.map (·.2))).length):
  DS X z μ (.Assign [.Name y py] (.ListComp elt [⟨tg,iter,ifs,0⟩] scope pos) spos) (Jb1 (eLc fi t tt fe (own.map (·.2))) (Jft i)) ((J2p μ1 (J2 μ1 (own.map (·.2))) (own.map (·.2))).set i (.O me)):=
 ⟨(ps_setLc hc hN hy hyl hsw hi.pi ok (fun s H C cl fp=>⟨fun pins s' σ' H' v u Q I r q=>(hg s H C cl fp σ').pg.run pins s' σ' H' v u Q I r q⟩:∀s H C cl fp,PG _ tg (tGw X.K (own.map (·.2)) (J2 μ1 (own.map (·.2))) m t μt)) (fun s H C cl fp=>(ht s H C cl fp).pt) (fun s H C cl fp=>(he s H C cl fp).pe) hs).imp fun En σ H q=>by
  have q1:=Jfx (m:=m) (vs:=own.map (·.2)) hf1 hfe wk wk2 hft (Jhh (m:= .O me) (μ1:=J2p μ1 (J2 μ1 (own.map (·.2))) (own.map (·.2))) q)
  refine Jeu q1 (fun x H' hq=>?_) fun σ H R R' i h=>Jd3 i h
  obtain ⟨hpn,B,Γ,fp,fpv,d,st,r,nd,q⟩:=hq
  obtain ⟨fp',s,st'⟩:=J6w (i:=i) st r nd (by rw [← st.st.len.2];exact hl)
  exact q (σ.set i (some x)) B H' fp' s st' (hp _ _ hpn)⟩
end
section
variable {t t1:D→Gam→Option Gam} {tt tt1:Gam→Rz Bool} {fi1:Gam→Rz (List D)} {fe:Gam→Rz D} {vs vs1:List Nat}
end
structure Hold (K:Zf) (B H:Hp) (fp:List Addr) (Dl:Addr) (me:Mode) (B1 H1:Hp) (fpS:List Addr) (acc:List V) (accD:List D) (fa:List Addr):Prop where
 d:H1 Dl=some (.lst acc)
 b:B1 Dl=none
 r:Rl K B1 H1 accD me acc fa
 nd: (Dl::fa).Nodup
 dj:∀a∈Dl::fa,a∉fpS
 stp:Stp B H fp B1 H1 ((Dl::fa)++fpS)
section
variable {K:Zf} {B H B1 H1 B2 H2:Hp} {fp fpS fp2 fa:List Addr} {Dl:Addr} {me:Mode} {acc:List V} {accD:List D}
theorem Hold.own (h:Hold K B H fp Dl me B1 H1 fpS acc accD fa):∀a∈Dl::fa,B1 a=none∧∃o,H1 a=some o:=fun a q=>by
 rcases Zo.mp q with rfl | q
 ·exact ⟨h.b,_,h.d⟩
 ·exact Rl.own accD h.r a q
theorem Hold.step (h:Hold K B H fp Dl me B1 H1 fpS acc accD fa) (s:Stp B1 H1 fpS B2 H2 fp2):Hold K B H fp Dl me B2 H2 fp2 acc accD fa:=by
 have kT:=s.kept (K:=K) h.own h.dj
 exact ⟨(kT Dl Zs).1 _ h.d,(kT Dl Zs).2,h.r.mono s.base accD fun a q=>kT a (Zc _ q),h.nd,s.apart (fun a q=>(h.own a q).2) h.dj,h.stp.trans (s.frame (Dl::fa))⟩
theorem Stp.yld {fpx:List Addr} (sx:Stp B1 H1 [] B2 H2 fpx):Stp B1 H1 fpS B2 H2 (fpx++fpS):=⟨sx.base,fun a o n e=>sx.keep a o (fun q=>nomatch q) e,fun a q=>by
 rcases Zp.mp q with q | q
 ·exact (sx.own a q).elim (fun z=>nomatch z) .inr
 ·exact .inl q,fun a o e=>(sx.new a o e).imp id fun q=> .inr (q.elim (fun z=>nomatch z) id)⟩
theorem Hold.app {y:D} {v:V} {fv:List Addr} (h:Hold K B H fp Dl me B1 H1 (fv++fpS) acc accD fa) (r:R K B1 H1 y me v fv) (nf:fv.Nodup) (ndj:∀a∈fv,a∉fpS):
  Hold K B H fp Dl me B1 (upd H1 Dl (.lst (acc++ [v]))) fpS (acc++ [v]) (accD++ [y]) (fa++fv):=by
 have nDfv:Dl∉fv:=fun q=>h.dj Dl Zs (Zl _ q)
 have nDfa:Dl∉fa:=(List.nodup_cons.mp h.nd).1
 have r2:R K B1 (upd H1 Dl (.lst (acc++ [v]))) y me v fv:=r.mono (Same.refl _) y (Jk (fun a q=>(R.own y r a q).1) nDfv)
 have ra3:Rl K B1 (upd H1 Dl (.lst (acc++ [v]))) accD me acc fa:=h.r.mono (Same.refl _) accD (Jk (fun a q=>(Rl.own accD h.r a q).1) nDfa)
 refine ⟨upd_same,h.b,ra3.snoc r2,?_,fun a q=>?_,?_⟩
 ·refine List.nodup_cons.mpr ⟨fun q=>(Zp.mp q).elim nDfa nDfv,J0.mpr ⟨(List.nodup_cons.mp h.nd).2,nf,fun a q1 q2=>h.dj a (Zc _ q1) (Zl _ q2)⟩⟩
 ·rcases Zo.mp q with rfl | q
  ·exact fun z=>h.dj _ Zs (Zr _ z)
  ·rcases Zp.mp q with q | q
   ·exact fun z=>h.dj _ (Zc _ q) (Zr _ z)
   ·exact ndj a q
 ·refine ⟨h.stp.base,fun a o n e=>?_,fun a q=>h.stp.own a ?_,h.stp.new⟩
  ·have e':=h.stp.keep a o n e
   have z:a≠Dl:=by
    rintro rfl
    rcases h.stp.own a (Zl _ Zs) with q | q
    ·exact n q
    ·rw [e] at q;cases q
   rw [upd_ne z];exact e'
  ·simp only [Zp,Zo] at q ⊢
   rcases q with (q | q | q) | q
   ·exact .inl (.inl q)
   ·exact .inl (.inr q)
   ·exact .inr (.inl q)
   ·exact .inr (.inr q)
end
section
variable {X:Cx} {w:Wh} {μ μ' μ1 μ2 μt μt1 μe:List Mode} {m m1 me:Mode} {pos:Pos} {vs vs1:List Nat}
variable {elt tg iter tg1 iter1:Expr} {ifs ifs1:List Expr} {scope:Scope} {own:List (Str × Nat)} {fi fi1:Gam→Rz (List D)} {t t1:D→Gam→Option Gam} {tt tt1:Gam→Rz Bool} {fe:Gam→Rz D}
end
section
variable {K:Zf} {m1 m2 m:Mode}
theorem Jjz {B H:Hp} {fp:List Addr}:Stp B H fp B H []:=(Stp.refl _ _ _).less fun _ h=>nomatch h
theorem Comes.flat {B H:Hp} {fp:List Addr} {d:D} {v:V} {Q:VK} (c:Comes K B H fp d .Z Q) (s:Lies K B H) (r:R K B H d .Z v []):Q v H:=c B H v [] Jjz s r List.nodup_nil
noncomputable def i2 (g:Int→Int→D):D→D→Option D
 | .int i,.int j=>some (g i j)
 | _,_=>none
noncomputable def i2c (C:Int→Int→Bool) (g:Int→Int→D):D→D→Option D
 | .int i,.int j=>if C i j=true then some (g i j) else none
 | _,_=>none
theorem J84 {g:Int→Int→V} {gD:Int→Int→D} (h:∀i j (B H:Hp),R K B H (gD i j) .Z (g i j) []):OpD K (rI0 g) m1 m2 (i2 gD) .Z:=by
 intro B H x y d u v fp1 fp2 Q s r1 r2 nd e c
 cases x with
 | int i=>
  cases y with
  | int j=>
   obtain ⟨rfl,rfl⟩:=r1
   obtain ⟨rfl,rfl⟩:=r2
   cases e
   exact ⟨i,j,rfl,rfl,c.flat s (h i j B H)⟩
  | _=>cases e
 | _=>cases e
theorem Ja6 {C:Int→Int→Prop} {Cb:Int→Int→Bool} {g:Int→Int→V} {gD:Int→Int→D} (hC:∀i j,Cb i j=true→C i j) (h:∀i j (B H:Hp),R K B H (gD i j) .Z (g i j) []):OpD K (rI C g) m1 m2 (i2c Cb gD) .Z:=by
 intro B H x y d u v fp1 fp2 Q s r1 r2 nd e c
 cases x with
 | int i=>
  cases y with
  | int j=>
   obtain ⟨rfl,rfl⟩:=r1
   obtain ⟨rfl,rfl⟩:=r2
   have e': (if Cb i j=true then some (gD i j) else none)=some d:=e
   by_cases hc:Cb i j=true
   ·rw [if_pos hc] at e'
    cases e'
    exact ⟨i,j,rfl,rfl,hC i j hc,c.flat s (h i j B H)⟩
   ·rw [if_neg hc] at e';cases e'
  | _=>cases e
 | _=>cases e
noncomputable abbrev Jk0:=i2 fun i j=> .int (i + j)
noncomputable abbrev Jk1:=i2 fun i j=> .int (i - j)
noncomputable def Jk2 (i j:Int):Bool:=decide (i.natAbs.log2 + j.natAbs.log2 < 1000000)
noncomputable abbrev Jk3:=i2c Jk2 fun i j=> .int (i * j)
noncomputable def Jp0 (_ j:Int):Bool:=decide (0 < j) && decide (j.natAbs.log2 < 9000)
noncomputable abbrev Jp1:=i2c Jp0 fun i j=> .int (i / j)
noncomputable def Jk4 (_ j:Int):Bool:=decide (0 < j)
noncomputable abbrev Jp2:=i2c Jk4 fun i j=> .int (i % j)
noncomputable def Jp3 (i j:Int):Bool:=decide (0≤j) && (decide (j≤1000000) && decide (i.natAbs < 2 ^ 64))
noncomputable abbrev Jp4:=i2c Jp3 fun i j=> .int (i ^ j.toNat)
noncomputable abbrev ltI:=i2 fun i j=> .bl (decide (i < j))
noncomputable abbrev leI:=i2 fun i j=> .bl (decide (i≤j))
noncomputable abbrev gtI:=i2 fun i j=> .bl (decide (j < i))
theorem Jmm:OpD K (rI0 fun i j=> .int (i + j)) m1 m2 Jk0 .Z:=J84 fun _ _ _ _=>⟨rfl,rfl⟩
theorem Jmn:OpD K (rI0 fun i j=> .int (i - j)) m1 m2 Jk1 .Z:=J84 fun _ _ _ _=>⟨rfl,rfl⟩
theorem Jmo:OpD K (rI CMulW fun i j=> .int (i * j)) m1 m2 Jk3 .Z:=Ja6 (fun i j h=>show i.natAbs.log2 + j.natAbs.log2 < 1000000 from Zd h) fun _ _ _ _=>⟨rfl,rfl⟩
theorem Jmp:OpD K (rI CDivW fun i j=> .int (i / j)) m1 m2 Jp1 .Z:=Ja6 (fun _ _ h=>by
 unfold Jp0 at h;rw [Zb] at h
 exact ⟨Zd h.1,Zd h.2⟩) fun _ _ _ _=>⟨rfl,rfl⟩
theorem Jmq:OpD K (rI (fun _ j=>0 < j) fun i j=> .int (i % j)) m1 m2 Jp2 .Z:=Ja6 (fun _ _ h=>Zd h) fun _ _ _ _=>⟨rfl,rfl⟩
theorem Jmr:OpD K (rI CPow fun i j=> .int (i ^ j.toNat)) m1 m2 Jp4 .Z:=Ja6 (fun _ _ h=>by
 unfold Jp3 at h;rw [Zb,Zb] at h
 exact ⟨Zd h.1,Zd h.2.1,Zd h.2.2⟩) fun _ _ _ _=>⟨rfl,rfl⟩
theorem Jp5:OpD K (rI0 fun i j=> .bl (decide (i < j))) m1 m2 ltI .Z:=J84 fun _ _ _ _=>⟨rfl,rfl⟩
theorem Jp6:OpD K (rI0 fun i j=> .bl (decide (i≤j))) m1 m2 leI .Z:=J84 fun _ _ _ _=>⟨rfl,rfl⟩
theorem Jp7:OpD K (rI0 fun i j=> .bl (decide (j < i))) m1 m2 gtI .Z:=J84 fun _ _ _ _=>⟨rfl,rfl⟩
noncomputable def Jd4:D→Option D
 | .int i=>some (.int (-i))
 | _=>none
theorem Jms:UnD K (rU fun i=> .int (-i)) m1 Jd4 .Z:=by
 intro B H x d u fp1 Q s r1 nd e c
 cases x with
 | int i=>
  obtain ⟨rfl,rfl⟩:=r1
  cases e
  exact ⟨i,rfl,c.flat s ⟨rfl,rfl⟩⟩
 | _=>cases e
noncomputable def Jd5:D→D→Option D
 | .non,.non=>some (.bl true)
 | _,.non=>some (.bl false)
 | _,_=>none
noncomputable def Jb2:D→D→Option D
 | .non,.non=>some (.bl false)
 | _,.non=>some (.bl true)
 | _,_=>none
theorem R.nonV {B H:Hp} {d:D} {v:V} {fp:List Addr} {mm:Mode} (r:R K B H d mm v fp):decide (v= .non)= (match d with | .non=>true | _=>false):=by
 cases d with
 | non=>obtain ⟨rfl,_⟩:=r;rfl
 | bl b=>obtain ⟨rfl,_⟩:=r;rfl
 | int i=>obtain ⟨rfl,_⟩:=r;rfl
 | str x=>obtain ⟨rfl,_⟩:=r;rfl
 | lst ds=>cases mm <;> first | exact r.elim | (obtain ⟨_,a,vs,rfl,_⟩:=r;rfl) | (obtain ⟨a,vs,fq,rfl,_⟩:=r;rfl)
 | tup ds=>cases mm <;> first | exact r.elim | (obtain ⟨_,a,vs,rfl,_⟩:=r;rfl) | (obtain ⟨a,vs,fq,rfl,_⟩:=r;rfl)
 | dct ks ds=>cases mm <;> first | exact r.elim | (obtain ⟨_,a,us,vs,o,rfl,_⟩:=r;rfl) | (obtain ⟨a,us,vs,o,fq,rfl,_⟩:=r;rfl)
 | obj c ns ds=>cases mm <;> first | exact r.elim | (obtain ⟨_,a,dx,vs,rfl,_⟩:=r;rfl) | (obtain ⟨a,dx,vs,fq,rfl,_⟩:=r;rfl) | (obtain ⟨a,dx,_,_,rfl,_⟩:=r;rfl)
theorem Jmt:OpD K (fun x y H Q=>y= .non∧Q (.bl (decide (x= .non))) H) m1 m2 Jd5 .Z:=by
 intro B H x y d u v fp1 fp2 Q s r1 r2 nd e c
 cases y with
 | non=>
  obtain ⟨rfl,rfl⟩:=r2
  refine ⟨rfl,?_⟩
  have z:=r1.nonV
  rw [z]
  cases x <;> cases e <;> exact c.flat s ⟨rfl,rfl⟩
 | _=>cases x <;> cases e
theorem Jk5:OpD K (fun x y H Q=>y= .non∧Q (.bl (!decide (x= .non))) H) m1 m2 Jb2 .Z:=by
 intro B H x y d u v fp1 fp2 Q s r1 r2 nd e c
 cases y with
 | non=>
  obtain ⟨rfl,rfl⟩:=r2
  refine ⟨rfl,?_⟩
  have z:=r1.nonV
  rw [z]
  cases x <;> cases e <;> exact c.flat s ⟨rfl,rfl⟩
 | _=>cases x <;> cases e
mutual
noncomputable def toP:D→PyData
 | .non=> .none
 | .bl b=> .bool b
 | .int i=> .int i
 | .str x=> .str x
 | .lst ds=> .list (J16 ds)
 | .tup ds=> .tuple (J16 ds)
 | .dct _ _=> .none
 | .obj _ _ _=> .none
noncomputable def J16:List D→List PyData
 | []=> []
 | d::ds=>toP d::J16 ds
end
noncomputable def shN:Nat→D→Bool
 | _,.non=>true
 | _,.bl _=>true
 | _,.int _=>true
 | _,.str x=>PyData.strOk x
 | n + 1,.lst ds=>ds.all (shN n)
 | n + 1,.tup ds=>ds.all (shN n)
 | _,_=>false
mutual
theorem Jhk:∀ (n:Nat) (d:D),shN n d=true→(toP d).canLay0=true∧(toP d).depth≤n
 | n,.non,h=>by cases n <;> exact ⟨rfl,Nat.zero_le _⟩
 | n,.bl _,h=>by cases n <;> exact ⟨rfl,Nat.zero_le _⟩
 | n,.int _,h=>by cases n <;> exact ⟨rfl,Nat.zero_le _⟩
 | n,.str x,h=>by
  have h':PyData.strOk x=true:=by cases n <;> exact h
  refine ⟨?_,?_⟩
  ·show PyData.canLay0 (.str x)=true
   simp only [PyData.canLay0];exact h'
  ·show PyData.depth (.str x)≤n
   simp only [PyData.depth];exact Nat.zero_le _
 | n + 1,.lst ds,h=>by
  have q:=Jb3 n ds h
  refine ⟨?_,?_⟩
  ·show PyData.canLay0 (.list (J16 ds))=true
   simp only [PyData.canLay0];exact q.1
  ·show PyData.depth (.list (J16 ds))≤n + 1
   simp only [PyData.depth];exact Nat.succ_le_succ q.2
 | n + 1,.tup ds,h=>by
  have q:=Jb3 n ds h
  refine ⟨?_,?_⟩
  ·show PyData.canLay0 (.tuple (J16 ds))=true
   simp only [PyData.canLay0];exact q.1
  ·show PyData.depth (.tuple (J16 ds))≤n + 1
   simp only [PyData.depth];exact Nat.succ_le_succ q.2
 | 0,.lst ds,h=>by cases h
 | 0,.tup ds,h=>by cases h
 | n,.dct _ _,h=>by cases n <;> cases h
 | n,.obj _ _ _,h=>by cases n <;> cases h
theorem Jb3:∀ (n:Nat) (ds:List D),ds.all (shN n)=true→PyData.canLayAll0 (J16 ds)=true∧PyData.depthAll (J16 ds)≤n
 | n,[],h=>⟨by simp only [J16,PyData.canLayAll0],by simp only [J16,PyData.depthAll];exact Nat.zero_le _⟩
 | n,d::ds,h=>by
  rw [List.all_cons,Zb] at h
  have q1:=Jhk n d h.1
  have q2:=Jb3 n ds h.2
  refine ⟨?_,?_⟩
  ·simp only [J16,PyData.canLayAll0,q1.1,q2.1,Bool.and_self]
  ·simp only [J16,PyData.depthAll];exact Nat.max_le.mpr ⟨q1.2,q2.2⟩
end
theorem J4h {d:D} (h:shN 60 d=true):SeqAt.shaped (toP d)=true:=by
 have q:=Jhk 60 d h
 unfold SeqAt.shaped
 rw [Zb]
 exact ⟨q.1,Zt (Nat.le_trans q.2 (by decide))⟩
mutual
theorem R.dp {B H:Hp} (s:Lies K B H):∀ (n:Nat) (d:D) {m:Mode} {v:V} {fp:List Addr},shN n d=true→R K B H d m v fp→Dp K H v (toP d)
 | n,.non,m,v,fp,h,r=>by obtain ⟨rfl,_⟩:=r;exact .non
 | n,.bl b,m,v,fp,h,r=>by obtain ⟨rfl,_⟩:=r;exact .bl b
 | n,.int i,m,v,fp,h,r=>by obtain ⟨rfl,_⟩:=r;exact .int i
 | n,.str x,m,v,fp,h,r=>by obtain ⟨rfl,_⟩:=r;exact .str x
 | n + 1,.lst ds,m,v,fp,h,r=>by
  cases m with
  | F=>
   obtain ⟨_,a,vs,rfl,hs,hl,hr⟩:=r
   exact .lst ((s).sqL hs) (Rl.dp s n ds h hr)
  | O m=>
   obtain ⟨a,vs,fq,rfl,b0,ha,hl,hr,rfl⟩:=r
   exact .lst (SqL.of ha) (Rl.dp s n ds h hr)
  | _=>exact r.elim
 | n + 1,.tup ds,m,v,fp,h,r=>by
  cases m with
  | F=>
   obtain ⟨_,a,vs,rfl,hs,hl,hr⟩:=r
   exact .tup ((s).sqT hs) (Rl.dp s n ds h hr)
  | O m=>
   obtain ⟨a,vs,fq,rfl,b0,ha,hl,hr,rfl⟩:=r
   exact .tup (SqT.of ha) (Rl.dp s n ds h hr)
  | _=>exact r.elim
 | 0,.lst ds,m,v,fp,h,r=>by cases h
 | 0,.tup ds,m,v,fp,h,r=>by cases h
 | n,.dct _ _,m,v,fp,h,r=>by cases n <;> cases h
 | n,.obj _ _ _,m,v,fp,h,r=>by cases n <;> cases h
theorem Rl.dp {B H:Hp} (s:Lies K B H):∀ (n:Nat) (ds:List D) {m:Mode} {vs:List V} {fp:List Addr},ds.all (shN n)=true→Rl K B H ds m vs fp→DpAll K H vs (J16 ds)
 | n,[],m,vs,fp,h,r=>by obtain ⟨rfl,_⟩:=r;exact .nil
 | n,d::ds,m,vs,fp,h,r=>by
  rw [List.all_cons,Zb] at h
  obtain ⟨v,vr,f1,f2,rfl,r1,r2,rfl⟩:=r
  exact .cons (R.dp s n d h.1 r1) (Rl.dp s n ds h.2 r2)
end
noncomputable def sh2 (d e:D):Bool:=shN 60 d && shN 60 e
noncomputable def eqO (d e:D):Option D:=if sh2 d e=true then some (.bl (PyData.eqv (toP d) (toP e))) else none
noncomputable def neO (d e:D):Option D:=if sh2 d e=true then some (.bl (!PyData.eqv (toP d) (toP e))) else none
theorem Jp8:OpD K (rEqD K) m1 m2 eqO .Z:=by
 intro B H x y d u v fp1 fp2 Q s r1 r2 nd e c
 unfold eqO at e
 split at e
 ·rename_i h
  unfold sh2 at h
  rw [Zb] at h
  cases e
  exact ⟨toP x,toP y,R.dp s 60 x h.1 r1,R.dp s 60 y h.2 r2,J4h h.1,J4h h.2,c.flat s ⟨rfl,rfl⟩⟩
 ·cases e
theorem Jp9:OpD K (rNeD K) m1 m2 neO .Z:=by
 intro B H x y d u v fp1 fp2 Q s r1 r2 nd e c
 unfold neO at e
 split at e
 ·rename_i h
  unfold sh2 at h
  rw [Zb] at h
  cases e
  exact ⟨toP x,toP y,R.dp s 60 x h.1 r1,R.dp s 60 y h.2 r2,J4h h.1,J4h h.2,c.flat s ⟨rfl,rfl⟩⟩
 ·cases e
theorem Rl.at_ {B H:Hp}:∀{ds:List D} {m:Mode} {vs:List V} {fp:List Addr} {i:Nat} {d:D},Rl K B H ds m vs fp→ds[i]? =some d→∃v fq,vs[i]? =some v∧R K B H d m v fq∧(∀a∈fq,a∈fp)∧(fp.Nodup→fq.Nodup)
 | d0::ds,m,vs,fp,i,d,h,e=>by
  obtain ⟨v,r,fp1,fp2,rfl,h1,h2,rfl⟩:=h
  cases i with
  | zero=>
   have z:d0=d:=by simpa using e
   subst z
   exact ⟨v,fp1,rfl,h1,fun a h=>Zl _ h,fun n=>(J0.mp n).1⟩
  | succ i=>
   obtain ⟨u,fq,q1,q2,q3,q4⟩:=Rl.at_ (i:=i) h2 (by simpa using e)
   exact ⟨u,fq,by simpa using q1,q2,fun a h=>Zr _ (q3 a h),fun n=>q4 (J0.mp n).2.1⟩
 | [],m,vs,fp,i,d,h,e=>by simp at e
noncomputable def ixO:D→D→Option D
 | .lst ds,.int i=>atI ds i
 | .tup ds,.int i=>atI ds i
 | _,_=>none
theorem J5g {B H:Hp} {ds:List D} {vs:List V} {fp:List Addr} {i:Int} {d:D} {mm:Mode} (r:Rl K B H ds mm vs fp) (e:atI ds i=some d):∃v fq,atI vs i=some v∧R K B H d mm v fq∧(∀a∈fq,a∈fp)∧(fp.Nodup→fq.Nodup):=by
 unfold atI at e ⊢
 rw [r.len]
 cases q:ixN ds.length i with
 | none=>rw [q] at e;cases e
 | some j=>
  rw [q] at e
  exact r.at_ e
theorem Jmu:OpD K (rIx K) .F m2 ixO .F:=by
 intro B H x y d u v fp1 fp2 Q s r1 r2 nd e c
 cases y with
 | int i=>
  obtain ⟨rfl,rfl⟩:=r2
  cases x with
  | lst ds=>
   obtain ⟨rfl,a,vs,rfl,hs,hl,hr⟩:=r1
   obtain ⟨w,fq,e1,r3,q1,q2⟩:=J5g hr e
   have z:fq= []:=List.eq_nil_iff_forall_not_mem.mpr fun a h=>nomatch q1 a h
   subst z
   exact .inl ⟨a,vs,i,w,rfl,rfl,(s).sqL hs,e1,c B H w [] Jjz s r3 List.nodup_nil⟩
  | tup ds=>
   obtain ⟨rfl,a,vs,rfl,hs,hl,hr⟩:=r1
   obtain ⟨w,fq,e1,r3,q1,q2⟩:=J5g hr e
   have z:fq= []:=List.eq_nil_iff_forall_not_mem.mpr fun a h=>nomatch q1 a h
   subst z
   exact .inr (.inl ⟨a,vs,i,w,rfl,rfl,(s).sqT hs,e1,c B H w [] Jjz s r3 List.nodup_nil⟩)
  | _=>cases e
 | _=>cases x <;> cases e
theorem Jmv:OpD K (rIx K) (.O m) m2 ixO m:=by
 intro B H x y d u v fp1 fp2 Q s r1 r2 nd e c
 cases y with
 | int i=>
  obtain ⟨rfl,rfl⟩:=r2
  cases x with
  | lst ds=>
   obtain ⟨a,vs,fq0,rfl,b0,ha,hl,hr,rfl⟩:=r1
   obtain ⟨w,fq,e1,r3,q1,q2⟩:=J5g hr e
   exact .inl ⟨a,vs,i,w,rfl,rfl,SqL.of ha,e1,c B H w fq ((Stp.refl _ _ _).less fun a h=>Zl _ (Zc _ (q1 a h))) s r3 (q2 (List.nodup_cons.mp (J0.mp nd).1).2)⟩
  | tup ds=>
   obtain ⟨a,vs,fq0,rfl,b0,ha,hl,hr,rfl⟩:=r1
   obtain ⟨w,fq,e1,r3,q1,q2⟩:=J5g hr e
   exact .inr (.inl ⟨a,vs,i,w,rfl,rfl,SqT.of ha,e1,c B H w fq ((Stp.refl _ _ _).less fun a h=>Zl _ (Zc _ (q1 a h))) s r3 (q2 (List.nodup_cons.mp (J0.mp nd).1).2)⟩)
  | _=>cases e
 | _=>cases x <;> cases e
theorem Rl.append {B H:Hp}:∀{ds es:List D} {mm:Mode} {vs us:List V} {fp fq:List Addr},Rl K B H ds mm vs fp→Rl K B H es mm us fq→Rl K B H (ds++es) mm (vs++us) (fp++fq)
 | [],es,mm,vs,us,fp,fq,h,h'=>by rw [h.1,h.2];exact h'
 | d::ds,es,mm,vs,us,fp,fq,h,h'=>by
  obtain ⟨v,r,fp1,fp2,rfl,h1,h2,rfl⟩:=h
  exact ⟨v,_,fp1,_,rfl,h1,Rl.append h2 h',by rw [List.append_assoc]⟩
theorem J3g {B H:Hp} {fp fq:List Addr} {ds:List D} {vs:List V} {Q:VK} (c:Comes K B H fp (.lst ds) (.O m) Q) (s:Lies K B H) (hr:Rl K B H ds m vs fq) (hl:ds.length≤sizeLine) (hq:∀a∈fq,a∈fp) (nq:fq.Nodup) {p:Addr} (hp:H p=none):Q (.ref p) (upd H p (.lst vs)):=by
 have bp:B p=none:=by
  cases e:B p with
  | none=>rfl
  | some o=>rw [s.free hp] at e;cases e
 have npq:p∉fq:=fun h=>by
  obtain ⟨_,o,e⟩:=Rl.own ds hr p h
  rw [e] at hp;cases hp
 refine c B _ (.ref p) (p::fq) ⟨Same.refl _,fun a o n e=> .inl (by rw [upd_ne (ne_of_none e hp)];exact e),fun a h=>?_,fun a o e=> .inl e⟩ (J25 s hp) ⟨p,vs,fq,rfl,bp,upd_same,hl,hr.mono (Same.refl _) ds (Jk (fun a h=>(Rl.own ds hr a h).1) npq),rfl⟩ (List.nodup_cons.mpr ⟨npq,nq⟩)
 rcases Zo.mp h with rfl | h
 ·exact .inr hp
 ·exact .inl (hq a h)
theorem Jev {B H:Hp} {fp fq:List Addr} {ds:List D} {vs:List V} {Q:VK} (c:Comes K B H fp (.tup ds) (.O m) Q) (s:Lies K B H) (hr:Rl K B H ds m vs fq) (hl:ds.length≤sizeLine) (hq:∀a∈fq,a∈fp) (nq:fq.Nodup) {p:Addr} (hp:H p=none):Q (.ref p) (upd H p (.tup vs)):=by
 have bp:B p=none:=by
  cases e:B p with
  | none=>rfl
  | some o=>rw [s.free hp] at e;cases e
 have npq:p∉fq:=fun h=>by
  obtain ⟨_,o,e⟩:=Rl.own ds hr p h
  rw [e] at hp;cases hp
 refine c B _ (.ref p) (p::fq) ⟨Same.refl _,fun a o n e=> .inl (by rw [upd_ne (ne_of_none e hp)];exact e),fun a h=>?_,fun a o e=> .inl e⟩ (J25 s hp) ⟨p,vs,fq,rfl,bp,upd_same,hl,hr.mono (Same.refl _) ds (Jk (fun a h=>(Rl.own ds hr a h).1) npq),rfl⟩ (List.nodup_cons.mpr ⟨npq,nq⟩)
 rcases Zo.mp h with rfl | h
 ·exact .inr hp
 ·exact .inl (hq a h)
noncomputable def Jk6:D→D→Option D
 | .lst ds,.lst es=>if ds.length + es.length≤sizeLine then some (.lst (ds++es)) else none
 | _,_=>none
theorem Jmw:OpD K rCat (.O m) (.O m) Jk6 (.O m):=by
 intro B H x y d u v fp1 fp2 Q s r1 r2 nd e c
 cases x with
 | lst ds=>
  cases y with
  | lst es=>
   have e': (if ds.length + es.length≤sizeLine then some (D.lst (ds++es)) else none)=some d:=e
   split at e'
   ·rename_i h
    cases e'
    obtain ⟨a,vs,fq1,rfl,b0,ha,hl,hr,rfl⟩:=r1
    obtain ⟨b,us,fq2,rfl,b1,hb,hl2,hr2,rfl⟩:=r2
    have n:=J0.mp nd
    refine ⟨a,b,vs,us,rfl,rfl,ha,hb,by rw [hr.len,hr2.len];exact h,fun p hp=>J3g c s (hr.append hr2) (by rw [List.length_append];exact h) (fun a h=>?_) (J0.mpr ⟨(List.nodup_cons.mp n.1).2,(List.nodup_cons.mp n.2.1).2,fun x hx hy=>n.2.2 x (Zc _ hx) (Zc _ hy)⟩) hp⟩
    rcases Zp.mp h with h | h
    ·exact Zl _ (Zc _ h)
    ·exact Zr _ (Zc _ h)
   ·cases e'
  | _=>cases e
 | _=>cases e
theorem Ra.rl {B H:Hp}:∀{ds:List D} {ms:List Mode} {mm:Mode} {vs:List V} {fp:List Addr},Ra K B H ds ms vs fp→(ms.all fun x=>sub x mm)=true→Rl K B H ds mm vs fp
 | [],[],mm,vs,fp,h,_=>h
 | d::ds,m0::ms,mm,vs,fp,h,q=>by
  rw [List.all_cons,Zb] at q
  obtain ⟨v,r,fp1,fp2,rfl,h1,h2,rfl⟩:=h
  exact ⟨v,r,fp1,fp2,rfl,h1.sub d q.1,Ra.rl h2 q.2,rfl⟩
 | [],_::_,_,_,_,h,_=>h.elim
 | _::_,[],_,_,_,h,_=>h.elim
theorem Jmx {ms:List Mode} (q: (ms.all fun x=>sub x m)=true) (hl:ms.length≤sizeLine):NaD K (fun xs H1 Q=>xs.length≤sizeLine∧∀p,H1 p=none→Q (.ref p) (upd H1 p (.tup xs))) ms (fun ds=>some (.tup ds)) (.O m):=by
 intro B H xs d us fp1 Q s r nd e c
 cases e
 have l:=r.len
 exact ⟨by rw [l.1];exact hl,fun p hp=>Jev c s (r.rl q) (by rw [l.2];exact hl) (fun a h=>h) nd hp⟩
theorem Jmy {ms:List Mode} (q: (ms.all fun x=>sub x m)=true) (hl:ms.length≤sizeLine):NaD K (fun xs H1 Q=>xs.length≤sizeLine∧∀p,H1 p=none→Q (.ref p) (upd H1 p (.lst xs))) ms (fun ds=>some (.lst ds)) (.O m):=by
 intro B H xs d us fp1 Q s r nd e c
 cases e
 have l:=r.len
 exact ⟨by rw [l.1];exact hl,fun p hp=>J3g c s (r.rl q) (by rw [l.2];exact hl) (fun a h=>h) nd hp⟩
theorem Ra.one {B H:Hp} {xs:List D} {us:List V} {fp:List Addr} (r:Ra K B H xs [m] us fp):∃d v,xs= [d]∧us= [v]∧R K B H d m v fp:=by
 match xs,r with
 | [d],r=>
  obtain ⟨v,r',f1,f2,rfl,r1,r2,rfl⟩:=r
  obtain ⟨rfl,rfl⟩:=r2
  exact ⟨d,v,rfl,rfl,by rw [List.append_nil];exact r1⟩
 | [],r=>exact r.elim
 | _::_::_,r=>
  obtain ⟨v,r',f1,f2,rfl,r1,r2,rfl⟩:=r
  exact r2.elim
theorem Ra.two {B H:Hp} {xs:List D} {us:List V} {fp:List Addr} (r:Ra K B H xs [m1,m2] us fp):∃d e u v f1 f2,xs= [d,e]∧us= [u,v]∧R K B H d m1 u f1∧R K B H e m2 v f2∧fp=f1++f2:=by
 match xs,r with
 | [d,e],r=>
  obtain ⟨v,r',f1,f2,rfl,r1,⟨v2,r'',f3,f4,rfl,r3,r4,rfl⟩,rfl⟩:=r
  obtain ⟨rfl,rfl⟩:=r4
  exact ⟨d,e,v,v2,f1,f3,rfl,rfl,r1,r3,by rw [List.append_nil]⟩
 | [],r=>exact r.elim
 | [_],r=>
  obtain ⟨v,r',f1,f2,rfl,r1,r2,rfl⟩:=r
  exact r2.elim
 | _::_::_::_,r=>
  obtain ⟨v,r',f1,f2,rfl,r1,⟨v2,r'',f3,f4,rfl,r3,r4,rfl⟩,rfl⟩:=r
  exact r4.elim
theorem R.seq {B H:Hp} {d:D} {v:V} {fp:List Addr} {mm:Mode} (s:Lies K B H) (r:R K B H d mm v fp): (∀ds,d= .lst ds→∃a vs fq,v= .ref a∧SqL K H a vs∧Rl K B H ds (J31 mm) vs fq∧ds.length≤sizeLine∧(∀a∈fq,a∈fp)∧(fp.Nodup→fq.Nodup))∧
  (∀ds,d= .tup ds→∃a vs fq,v= .ref a∧SqT K H a vs∧Rl K B H ds (J31 mm) vs fq∧ds.length≤sizeLine∧(∀a∈fq,a∈fp)∧(fp.Nodup→fq.Nodup)):=by
 refine ⟨fun ds e=>?_,fun ds e=>?_⟩
 ·subst e
  cases mm with
  | F=>
   obtain ⟨rfl,a,vs,rfl,hs,hl,hr⟩:=r
   exact ⟨a,vs,[],rfl,(s).sqL hs,hr,hl,fun a h=>h,fun n=>n⟩
  | O m=>
   obtain ⟨a,vs,fq,rfl,b0,ha,hl,hr,rfl⟩:=r
   exact ⟨a,vs,fq,rfl,SqL.of ha,hr,hl,fun a h=>Zc _ h,fun n=>(List.nodup_cons.mp n).2⟩
  | _=>exact r.elim
 ·subst e
  cases mm with
  | F=>
   obtain ⟨rfl,a,vs,rfl,hs,hl,hr⟩:=r
   exact ⟨a,vs,[],rfl,(s).sqT hs,hr,hl,fun a h=>h,fun n=>n⟩
  | O m=>
   obtain ⟨a,vs,fq,rfl,b0,ha,hl,hr,rfl⟩:=r
   exact ⟨a,vs,fq,rfl,SqT.of ha,hr,hl,fun a h=>Zc _ h,fun n=>(List.nodup_cons.mp n).2⟩
  | _=>exact r.elim
noncomputable def Jpa:List D→Option D
 | [.lst ds]=>some (.int ds.length)
 | [.tup ds]=>some (.int ds.length)
 | _=>none
theorem Jmz:NaD K (fun xs H Q=>∃p ys,xs= [.ref p]∧(SqL K H p ys∨SqT K H p ys)∧Q (.int ys.length) H) [m] Jpa .Z:=by
 intro B H xs d us fp1 Q s r nd e c
 obtain ⟨x,v,rfl,rfl,r1⟩:=r.one
 have q:=r1.seq s
 cases x with
 | lst ds=>
  cases e
  obtain ⟨a,vs,fq,rfl,hs,hr,_⟩:=q.1 ds rfl
  exact ⟨a,vs,rfl,.inl hs,by rw [hr.len];exact c.flat s ⟨rfl,rfl⟩⟩
 | tup ds=>
  cases e
  obtain ⟨a,vs,fq,rfl,hs,hr,_⟩:=q.2 ds rfl
  exact ⟨a,vs,rfl,.inr hs,by rw [hr.len];exact c.flat s ⟨rfl,rfl⟩⟩
 | _=>cases e
noncomputable def intsOf:List D→Option (List Int)
 | []=>some []
 | .int i::ds=>(intsOf ds).map (i:: ·)
 | _=>none
theorem J7g (ns:List Int):intsOf (ns.map D.int)=some ns:=by
 induction ns with
 | nil=>rfl
 | cons n ns ih=>simp [intsOf,ih]
theorem J3h {B H:Hp}:∀{ds:List D} {ns:List Int} {mm:Mode} {vs:List V} {fp:List Addr},intsOf ds=some ns→Rl K B H ds mm vs fp→vs=ns.map V.int
 | [],ns,mm,vs,fp,e,r=>by cases e;exact r.1
 | .int i::ds,ns,mm,vs,fp,e,r=>by
  obtain ⟨v,vr,f1,f2,rfl,r1,r2,rfl⟩:=r
  obtain ⟨rfl,_⟩:=r1
  have e': (intsOf ds).map (i:: ·)=some ns:=e
  cases q:intsOf ds with
  | none=>rw [q] at e';cases e'
  | some ms=>
   rw [q] at e'
   cases e'
   rw [J3h q r2];rfl
 | .non::_,_,_,_,_,e,_ | .bl _::_,_,_,_,_,e,_ | .str _::_,_,_,_,_,e,_ | .lst _::_,_,_,_,_,e,_ | .tup _::_,_,_,_,_,e,_ | .dct _ _::_,_,_,_,_,e,_ | .obj _ _ _::_,_,_,_,_,e,_=>by cases e
noncomputable def Jm1 (K:Zf):List V→Hp→VK→Prop:=fun vs H Q=>∃ (a:Addr) (ns:List Int),vs= [V.ref a]∧(SqL K H a (ns.map V.int)∨SqT K H a (ns.map V.int))∧Q (.int ns.sum) H
theorem Jn0 {X:Cx} (hc:X.calm=true):CallR X (.builtin "sum") (Jm1 X.K):=by
 intro pins s σ H vs us Q I r h
 obtain ⟨a,ns,rfl,hs | hs,q⟩:=h
 ·exact cr_sum hc pins s σ H _ us Q I r ⟨a,ns,rfl,hs,q⟩
 ·obtain ⟨its,rv,p,_⟩:=I.tuple hs
  rw [Vals.ref1 r]
  have hl:s.heap.IsTuple a its.toArray:=p
  have hi:=rv.ints
  obtain ⟨xs,e⟩:=hi.allInts.items
  have hn:numsOf (intItems xs).toList=ns:=by rw [← e];exact hi.numsOf
  rw [nums_intItems] at hn
  rw [e] at hl
  refine PySem.W.ktm_sumG (I.ok.hd hc) hl fun h' tk t' hk=>?_
  rw [preSum_eq,List.take_of_length_le (by simp),hn]
  exact ⟨.int _,H,I.kept hk,⟨_,rfl⟩,q⟩
noncomputable def Jpb:List D→Option D
 | [.lst ds]=>(intsOf ds).map fun ns=> .int ns.sum
 | [.tup ds]=>(intsOf ds).map fun ns=> .int ns.sum
 | _=>none
theorem Jn1:NaD K (Jm1 K) [m] Jpb .Z:=by
 intro B H xs d us fp1 Q s r nd e c
 obtain ⟨x,v,rfl,rfl,r1⟩:=r.one
 have q:=r1.seq s
 cases x with
 | lst ds=>
  obtain ⟨a,vs,fq,rfl,hs,hr,_⟩:=q.1 ds rfl
  have e': (intsOf ds).map (fun ns=>D.int ns.sum)=some d:=e
  cases z:intsOf ds with
  | none=>rw [z] at e';cases e'
  | some ns=>
   rw [z] at e'
   cases e'
   have w:=J3h z hr
   subst w
   exact ⟨a,ns,rfl,.inl hs,c.flat s ⟨rfl,rfl⟩⟩
 | tup ds=>
  obtain ⟨a,vs,fq,rfl,hs,hr,_⟩:=q.2 ds rfl
  have e': (intsOf ds).map (fun ns=>D.int ns.sum)=some d:=e
  cases z:intsOf ds with
  | none=>rw [z] at e';cases e'
  | some ns=>
   rw [z] at e'
   cases e'
   have w:=J3h z hr
   subst w
   exact ⟨a,ns,rfl,.inr hs,c.flat s ⟨rfl,rfl⟩⟩
 | _=>cases e
noncomputable def J10:List Int→Int
 | []=>0
 | [n]=>n
 | n::ns=>min n (J10 ns)
theorem J3p:∀{ns:List Int},0 < ns.length→J10 ns∈ns∧∀y∈ns,J10 ns≤y
 | [],h=>absurd h (Nat.lt_irrefl _)
 | [n],_=>⟨by simp [J10],fun y hy=>by simp [J10] at hy ⊢;omega⟩
 | n::k::ns,_=>by
  have ih:=J3p (ns:=k::ns) (by simp)
  have e:J10 (n::k::ns)=min n (J10 (k::ns)):=rfl
  rw [e]
  refine ⟨?_,fun y hy=>?_⟩
  ·by_cases h:n≤J10 (k::ns)
   ·rw [Int.min_eq_left h];exact Zs
   ·rw [Int.min_eq_right (by omega)];exact Zc _ ih.1
  ·rcases Zo.mp hy with rfl | hy
   ·exact Int.min_le_left _ _
   ·exact Int.le_trans (Int.min_le_right _ _) (ih.2 y hy)
noncomputable def Jk7:List D→Option D
 | [.lst ds]=>(intsOf ds).bind fun ns=>if 0 < ns.length then some (.int (J10 ns)) else none
 | _=>none
theorem Jn2:NaD K (rMin K) [m] Jk7 .Z:=by
 intro B H xs d us fp1 Q s r nd e c
 obtain ⟨x,v,rfl,rfl,r1⟩:=r.one
 have q:=r1.seq s
 cases x with
 | lst ds=>
  obtain ⟨a,vs,fq,rfl,hs,hr,_⟩:=q.1 ds rfl
  have e': ((intsOf ds).bind fun ns=>if 0 < ns.length then some (D.int (J10 ns)) else none)=some d:=e
  cases z:intsOf ds with
  | none=>rw [z] at e';cases e'
  | some ns=>
   rw [z] at e'
   have e2: (if 0 < ns.length then some (D.int (J10 ns)) else none)=some d:=e'
   split at e2
   ·rename_i hn
    cases e2
    have w:=J3h z hr
    subst w
    refine ⟨a,ns,rfl,hs,hn,fun k hk hle=>?_⟩
    have sp:=J3p hn
    have:k=J10 ns:=Int.le_antisymm (hle _ sp.1) (sp.2 k hk)
    rw [this]
    exact c.flat s ⟨rfl,rfl⟩
   ·cases e2
 | _=>cases e
noncomputable def Jpc:List D→Option D
 | [.int i]=>some (.int (if i < 0 then -i else i))
 | _=>none
theorem Jn3:NaD K (fun xs H Q=>∃i,xs= [.int i]∧Q (.int (if i < 0 then -i else i)) H) [m] Jpc .Z:=by
 intro B H xs d us fp1 Q s r nd e c
 obtain ⟨x,v,rfl,rfl,r1⟩:=r.one
 cases x with
 | int i=>
  obtain ⟨rfl,rfl⟩:=r1
  cases e
  exact ⟨i,rfl,c.flat s ⟨rfl,rfl⟩⟩
 | _=>cases e
noncomputable def Jm2:List D→Option D
 | [.int i,.int j]=>some (.int (if j < i then j else i))
 | _=>none
theorem Jk8:NaD K (fun xs H Q=>∃i j,xs= [.int i,.int j]∧Q (.int (if j < i then j else i)) H) [m1,m2] Jm2 .Z:=by
 intro B H xs d us fp1 Q s r nd e c
 obtain ⟨x,y,u,v,f1,f2,rfl,rfl,r1,r2,rfl⟩:=r.two
 cases x with
 | int i=>
  cases y with
  | int j=>
   obtain ⟨rfl,rfl⟩:=r1
   obtain ⟨rfl,rfl⟩:=r2
   cases e
   exact ⟨i,j,rfl,c.flat s ⟨rfl,rfl⟩⟩
  | _=>cases e
 | _=>cases y <;> cases e
noncomputable def Jm3:List D→Option D
 | [.lst ds]=>some (.lst ds)
 | [.tup ds]=>some (.lst ds)
 | _=>none
theorem Jk9:NaD K (fun xs H Q=>∃p ys,xs= [.ref p]∧(SqL K H p ys∨SqT K H p ys)∧∀l,H l=none→Q (.ref l) (upd H l (.lst ys))) [m] Jm3 (.O (J31 m)):=by
 intro B H xs d us fp1 Q s r nd e c
 obtain ⟨x,v,rfl,rfl,r1⟩:=r.one
 have q:=r1.seq s
 cases x with
 | lst ds=>
  cases e
  obtain ⟨a,vs,fq,rfl,hs,hr,hl,q1,q2⟩:=q.1 ds rfl
  exact ⟨a,vs,rfl,.inl hs,fun l hl2=>J3g c s hr hl q1 (q2 nd) hl2⟩
 | tup ds=>
  cases e
  obtain ⟨a,vs,fq,rfl,hs,hr,hl,q1,q2⟩:=q.2 ds rfl
  exact ⟨a,vs,rfl,.inr hs,fun l hl2=>J3g c s hr hl q1 (q2 nd) hl2⟩
 | _=>cases e
end
noncomputable def J3q:D→Bool
 | .non=>true
 | .bl _=>true
 | .int _=>true
 | .str _=>true
 | _=>false
theorem R.flatZ {K:Zf} {B H:Hp} {d:D} {m:Mode} {v:V} {fp:List Addr} (r:R K B H d m v fp) (f:J3q d=true):R K B H d .Z v fp:=by
 cases d <;> first | exact r | cases f
noncomputable def Jfy (f:Gam→Rz D):Gam→Rz D:=e1 (fun d=>if J3q d=true then some d else none) f
theorem DE.flat {X:Cx} {w:Wh} {μ μ':List Mode} {e:Expr} {f:Gam→Rz D} {m:Mode} (h:DE X w μ e f m μ'):DE X w μ e (Jfy f) .Z μ':=
 ⟨h.pe.imp fun σ H Q ⟨B,Γ,fp,st,q⟩=>⟨B,Γ,fp,st,by
  unfold Jfy e1 at q
  revert q
  cases f Γ with
  | ok d Γ'=>
   show (match Rz.opt (if J3q d=true then some d else none) Γ' with
    | .ok d Γ'=>_
    | .exc x Γ'=>_
    | .bad=>_)→_
   by_cases c:J3q d=true
   ·rw [if_pos c]
    exact fun q B' H' v fpv fp' s1 st' r nd=>q B' H' v fpv fp' s1 st' (r.flatZ c) nd
   ·rw [if_neg c]
    exact fun q=>q.elim
  | exc x Γ'=>exact id
  | bad=>exact id⟩⟩
theorem Rl.flatZ {K:Zf} {B H:Hp}:∀{ds:List D} {m:Mode} {vs:List V} {fp:List Addr},Rl K B H ds m vs fp→ds.all J3q=true→Rl K B H ds .Z vs fp
 | [],_,_,_,h,_=>h
 | d::ds,m,vs,fp,h,f=>by
  rw [List.all_cons,Zb] at f
  obtain ⟨v,r,f1,f2,rfl,h1,h2,rfl⟩:=h
  exact ⟨v,r,f1,f2,rfl,h1.flatZ f.1,Rl.flatZ h2 f.2,rfl⟩
inductive Sel where
 | ix (i:Int) | fld (k n:Str)
noncomputable def fIx:List Str→Str→Option Nat
 | [],_=>none
 | x::r,n=>if x=n then some 0 else (fIx r n).map (· + 1)
noncomputable def Jp:D→List Sel→Option D
 | d,[]=>some d
 | .lst ds,.ix i::s=>(atI ds i).bind fun c=>Jp c s
 | .tup ds,.ix i::s=>(atI ds i).bind fun c=>Jp c s
 | .obj k ns ds,.fld k' n::s=>if k=k' then ((fIx ns n).bind fun j=>ds[j]?).bind fun c=>Jp c s else none
 | _,_=>none
noncomputable def J1g:D→List Sel→D→Option D
 | _,[],x=>some x
 | .lst ds,.ix i::s,x=>(ixN ds.length i).bind fun j=>(ds[j]?).bind fun c=>(J1g c s x).map fun c'=> .lst (ds.set j c')
 | .tup ds,.ix i::s,x=>(ixN ds.length i).bind fun j=>(ds[j]?).bind fun c=>(J1g c s x).map fun c'=> .tup (ds.set j c')
 | .obj k ns ds,.fld _ n::s,x=>(fIx ns n).bind fun j=>(ds[j]?).bind fun c=>(J1g c s x).map fun c'=> .obj k ns (ds.set j c')
 | _,_,_=>none
noncomputable def J15:Mode→Str→Option Mode
 | .B n m r,x=>if n=x then some m else J15 r x
 | _,_=>none
noncomputable def J12:Mode→List Sel→Option Mode
 | m,[]=>some m
 | .O m,_::s=>J12 m s
 | .B n m r,.fld _ x::s=>(J15 (.B n m r) x).bind fun q=>J12 q s
 | _,_=>none
noncomputable def Jx (K:Zf) (H:Hp):V→List Sel→V→Prop
 | v,[],v'=>v=v'
 | v,.ix i::s,v'=>∃a xs u,v= .ref a∧(H a=some (.lst xs)∨H a=some (.tup xs))∧atI xs i=some u∧Jx K H u s v'
 | v,.fld k n::s,v'=>∃a dx fs u,v= .ref a∧H a=some (.ins (He.ga K k) dx fs)∧fs.lookup n=some u∧Jx K H u s v'
theorem Jx.inj {K:Zf} {H:Hp}:∀{s:List Sel} {v u w:V},Jx K H v s u→Jx K H v s w→u=w
 | [],v,u,w,h1,h2=>h1.symm.trans h2
 | .ix i::s,v,u,w,h1,h2=>by
  obtain ⟨a,xs,x,rfl,e1,q1,p1⟩:=h1
  obtain ⟨b,ys,y,e,e2,q2,p2⟩:=h2
  cases e
  have z:xs=ys:=by
   rcases e1 with e1 | e1 <;> rcases e2 with e2 | e2 <;> (rw [e1] at e2;cases e2) <;> rfl
  subst z
  rw [q1] at q2;cases q2
  exact Jx.inj p1 p2
 | .fld k n::s,v,u,w,h1,h2=>by
  obtain ⟨a,dx,fs,x,rfl,e1,q1,p1⟩:=h1
  obtain ⟨b,dx',fs',y,e,e2,q2,p2⟩:=h2
  cases e
  rw [e1] at e2;cases e2
  rw [q1] at q2;cases q2
  exact Jx.inj p1 p2
section
variable {K:Zf} {B H:Hp}
noncomputable def Jka (K:Zf) (B H:Hp) (mc:Mode) (u:V) (fq fp:List Addr) (P:Hp→D→List Addr→Prop):Prop:=
 ∀ (H':Hp) (c':D) (fq':List Addr),R K B H' c' mc u fq'→(∀a∈fp,a∉fq→∀o,H a=some o→H' a=some o)→(fp.Nodup→fq'.Nodup→(∀a∈fq',a∈fq∨a∉fp)→∃fp',P H' c' fp'∧fp'.Nodup∧∀a∈fp',(a∈fp∧a∉fq)∨a∈fq')
theorem Rl.focus:∀{ds:List D} {m:Mode} {vs:List V} {fp:List Addr} {j:Nat} {c:D},Rl K B H ds m vs fp→ds[j]? =some c→∃u fq,vs[j]? =some u∧R K B H c m u fq∧(∀a∈fq,a∈fp)∧(fp.Nodup→fq.Nodup)∧
  Jka K B H m u fq fp fun H' c' fp'=>Rl K B H' (ds.set j c') m vs fp'
 | d::ds,m,vs,fp,0,c,h,e=>by
  obtain ⟨v,r,fp1,fp2,rfl,h1,h2,rfl⟩:=h
  have z:d=c:=by simpa using e
  subst z
  refine ⟨v,fp1,rfl,h1,fun a h=>Zl _ h,fun n=>(J0.mp n).1,fun H' c' fq' r' k n nq dj=>?_⟩
  have n':=J0.mp n
  refine ⟨fq'++fp2,⟨v,r,fq',fp2,rfl,r',h2.mono (Same.refl _) ds fun a h=>⟨fun o e=>k a (Zr _ h) (fun q=>n'.2.2 a q h) o e,(Rl.own ds h2 a h).1⟩,rfl⟩,J0.mpr ⟨nq,n'.2.1,fun x hx hy=>?_⟩,fun a h=>?_⟩
  ·rcases dj x hx with q | q
   ·exact n'.2.2 x q hy
   ·exact q (Zr _ hy)
  ·rcases Zp.mp h with h | h
   ·exact .inr h
   ·exact .inl ⟨Zr _ h,fun q=>n'.2.2 a q h⟩
 | d::ds,m,vs,fp,j + 1,c,h,e=>by
  obtain ⟨v,r,fp1,fp2,rfl,h1,h2,rfl⟩:=h
  obtain ⟨u,fq,q1,q2,q3,q4,q5⟩:=Rl.focus (j:=j) h2 (by simpa using e)
  refine ⟨u,fq,by simpa using q1,q2,fun a h=>Zr _ (q3 a h),fun n=>q4 (J0.mp n).2.1,fun H' c' fq' r' k n nq dj=>?_⟩
  have n':=J0.mp n
  obtain ⟨fp',p1,p2,p3⟩:=q5 H' c' fq' r' (fun a h=>k a (Zr _ h)) n'.2.1 nq fun a h=>(dj a h).imp id fun z q=>z (Zr _ q)
  refine ⟨fp1++fp',⟨v,r,fp1,fp',rfl,h1.mono (Same.refl _) d fun a h=>⟨fun o e=>k a (Zl _ h) (fun q=>n'.2.2 a h (q3 a q)) o e,(R.own d h1 a h).1⟩,p1,rfl⟩,J0.mpr ⟨n'.1,p2,fun x hx hy=>?_⟩,fun a h=>?_⟩
  ·rcases p3 x hy with q | q
   ·exact n'.2.2 x hx q.1
   ·rcases dj x q with z | z
    ·exact n'.2.2 x hx (q3 x z)
    ·exact z (Zl _ hx)
  ·rcases Zp.mp h with h | h
   ·exact .inl ⟨Zl _ h,fun q=>n'.2.2 a h (q3 a q)⟩
   ·exact (p3 a h).imp (fun z=>⟨Zr _ z.1,z.2⟩) id
 | [],m,vs,fp,j,c,h,e=>by simp at e
theorem Rf.focus:∀{ns:List Str} {ds:List D} {m mc:Mode} {vs:List V} {fp:List Addr} {j:Nat} {c:D} {n:Str},Rf K B H ns ds m vs fp→fIx ns n=some j→ds[j]? =some c→J15 m n=some mc→∃u fq,vs[j]? =some u∧R K B H c mc u fq∧(∀a∈fq,a∈fp)∧(fp.Nodup→fq.Nodup)∧
  Jka K B H mc u fq fp fun H' c' fp'=>Rf K B H' ns (ds.set j c') m vs fp'
 | x::ns,d::ds,m,mc,vs,fp,j,c,n,h,ej,e,em=>by
  cases m with
  | B n0 m0 r0=>
   obtain ⟨rfl,v,r,fp1,fp2,rfl,h1,h2,rfl⟩:=h
   have ej': (if x=n then some 0 else (fIx ns n).map (· + 1))=some j:=ej
   have em': (if x=n then some m0 else J15 r0 n)=some mc:=em
   by_cases hx:x=n
   ·rw [if_pos hx] at ej' em'
    cases ej';cases em'
    have z:d=c:=by simpa using e
    subst z
    refine ⟨v,fp1,rfl,h1,fun a h=>Zl _ h,fun n=>(J0.mp n).1,fun H' c' fq' r' k n nq dj=>?_⟩
    have n':=J0.mp n
    refine ⟨fq'++fp2,⟨rfl,v,r,fq',fp2,rfl,r',h2.mono (Same.refl _) ns ds fun a h=>⟨fun o e=>k a (Zr _ h) (fun q=>n'.2.2 a q h) o e,(Rf.own ns ds h2 a h).1⟩,rfl⟩,J0.mpr ⟨nq,n'.2.1,fun x hx hy=>?_⟩,fun a h=>?_⟩
    ·rcases dj x hx with q | q
     ·exact n'.2.2 x q hy
     ·exact q (Zr _ hy)
    ·rcases Zp.mp h with h | h
     ·exact .inr h
     ·exact .inl ⟨Zr _ h,fun q=>n'.2.2 a q h⟩
   ·rw [if_neg hx] at ej' em'
    cases ef:fIx ns n with
    | none=>rw [ef] at ej';cases ej'
    | some i=>
     rw [ef] at ej'
     cases ej'
     obtain ⟨u,fq,q1,q2,q3,q4,q5⟩:=Rf.focus (j:=i) h2 ef (by simpa using e) em'
     refine ⟨u,fq,by simpa using q1,q2,fun a h=>Zr _ (q3 a h),fun n=>q4 (J0.mp n).2.1,fun H' c' fq' r' k n nq dj=>?_⟩
     have n':=J0.mp n
     obtain ⟨fp',p1,p2,p3⟩:=q5 H' c' fq' r' (fun a h=>k a (Zr _ h)) n'.2.1 nq fun a h=>(dj a h).imp id fun z q=>z (Zr _ q)
     refine ⟨fp1++fp',⟨rfl,v,r,fp1,fp',rfl,h1.mono (Same.refl _) d fun a h=>⟨fun o e=>k a (Zl _ h) (fun q=>n'.2.2 a h (q3 a q)) o e,(R.own d h1 a h).1⟩,p1,rfl⟩,J0.mpr ⟨n'.1,p2,fun x hx hy=>?_⟩,fun a h=>?_⟩
     ·rcases p3 x hy with q | q
      ·exact n'.2.2 x hx q.1
      ·rcases dj x q with z | z
       ·exact n'.2.2 x hx (q3 x z)
       ·exact z (Zl _ hx)
     ·rcases Zp.mp h with h | h
      ·exact .inl ⟨Zl _ h,fun q=>n'.2.2 a h (q3 a q)⟩
      ·exact (p3 a h).imp (fun z=>⟨Zr _ z.1,z.2⟩) id
  | _=>exact h.elim
 | [],[],_,_,_,_,_,_,_,h,ej,e,_=>by cases ej
 | [],_::_,_,_,_,_,_,_,_,h,_,_,_=>h.elim
 | _::_,[],_,_,_,_,_,_,_,h,_,_,_=>h.elim
theorem J3i:∀{ns:List Str} {vs:List V} {n:Str} {j:Nat} {u:V},fIx ns n=some j→vs[j]? =some u→(ns.zip vs).lookup n=some u
 | x::ns,v::vs,n,j,u,ej,e=>by
  have ej': (if x=n then some 0 else (fIx ns n).map (· + 1))=some j:=ej
  rw [List.zip_cons_cons,List.lookup_cons]
  by_cases hx:x=n
  ·rw [if_pos hx] at ej'
   cases ej'
   have: (n == x)=true:=by rw [hx];exact beq_self_eq_true n
   rw [this]
   simpa using e
  ·rw [if_neg hx] at ej'
   have: (n == x)=false:=beq_eq_false_iff_ne.mpr fun z=>hx z.symm
   rw [this]
   cases ef:fIx ns n with
   | none=>rw [ef] at ej';cases ej'
   | some i=>
    rw [ef] at ej'
    cases ej'
    exact J3i ef (by simpa using e)
 | [],_,_,_,_,ej,_=>by cases ej
 | _::_,[],_,_,_,_,e=>by simp at e
theorem R.path:∀{s:List Sel} {d c:D} {m mc:Mode} {v:V} {fp:List Addr},R K B H d m v fp→Jp d s=some c→J12 m s=some mc→∃u fq,Jx K H v s u∧R K B H c mc u fq∧(∀a∈fq,a∈fp)∧(fp.Nodup→fq.Nodup)∧
  (∀c',∃d',J1g d s c'=some d')∧Jka K B H mc u fq fp fun H' c' fp'=>∃d',J1g d s c'=some d'∧R K B H' d' m v fp'
 | [],d,c,m,mc,v,fp,h,e,em=>by
  cases e;cases em
  exact ⟨v,fp,rfl,h,fun a h=>h,fun n=>n,fun c'=>⟨c',rfl⟩,fun H' c' fq' r' k n nq dj=>⟨fq',⟨c',rfl,r'⟩,nq,fun a h=> .inr h⟩⟩
 | .ix i::s,d,c,m,mc,v,fp,h,e,em=>by
  cases m with
  | O m=>
   cases d with
   | lst ds=>
    obtain ⟨a,vs,fq0,rfl,b0,ha,hl,hr,rfl⟩:=h
    have e': (atI ds i).bind (fun c=>Jp c s)=some c:=e
    cases q:ixN ds.length i with
    | none=>unfold atI at e';rw [q] at e';cases e'
    | some j=>
     unfold atI at e';rw [q] at e'
     have e2: (ds[j]?).bind (fun c=>Jp c s)=some c:=e'
     cases qc:ds[j]? with
     | none=>rw [qc] at e2;cases e2
     | some c0=>
      rw [qc] at e2
      obtain ⟨w,fw,p1,p2,p3,p4,p5⟩:=hr.focus qc
      obtain ⟨u,fq,r1,r2,r3,r4,r6,r5⟩:=R.path (s:=s) p2 e2 em
      refine ⟨u,fq,⟨a,vs,w,rfl,.inl ha,by unfold atI;rw [hr.len,q];exact p1,r1⟩,r2,fun a h=>Zc _ (p3 a (r3 a h)),fun n=>r4 (p4 (List.nodup_cons.mp n).2),fun c'=>?_,fun H' c' fq' r' k n nq dj=>?_⟩
      ·obtain ⟨d',h'⟩:=r6 c'
       exact ⟨.lst (ds.set j d'),by simp only [J1g,q,qc,h',Option.bind_some,Option.map_some]⟩
      ·have nc:=List.nodup_cons.mp n
       have nw:=p4 nc.2
       obtain ⟨f2,⟨c2,s2,rc2⟩,n2,m2⟩:=r5 H' c' fq' r' (fun x hx=>k x (Zc _ (p3 x hx))) nw nq fun x hx=>(dj x hx).imp id fun z y=>z (Zc _ (p3 x y))
       have dj2:∀x∈f2,x∈fw∨x∉fq0:=fun x hx=>by
        rcases m2 x hx with z | z
        ·exact .inl z.1
        ·rcases dj x z with y | y
         ·exact .inl (r3 x y)
         ·exact .inr fun w=>y (Zc _ w)
       obtain ⟨f3,t1,t2,t3⟩:=p5 H' c2 f2 rc2 (fun x hx hn=>k x (Zc _ hx) fun z=>hn (r3 x z)) nc.2 n2 dj2
       have naf:a∉fq:=fun z=>nc.1 (p3 a (r3 a z))
       refine ⟨a::f3,⟨.lst (ds.set j c2),by simp only [J1g,q,qc,s2,Option.bind_some,Option.map_some],a,vs,f3,rfl,b0,k a Zs naf _ ha,by rw [List.length_set];exact hl,t1,rfl⟩,List.nodup_cons.mpr ⟨fun z=>?_,t2⟩,fun x hx=>?_⟩
       ·rcases t3 a z with y | y
        ·exact nc.1 y.1
        ·rcases m2 a y with w | w
         ·exact nc.1 (p3 a w.1)
         ·rcases dj a w with y | y
          ·exact naf y
          ·exact y Zs
       ·rcases Zo.mp hx with rfl | hx
        ·exact .inl ⟨Zs,naf⟩
        ·rcases t3 x hx with y | y
         ·exact .inl ⟨Zc _ y.1,fun z=>y.2 (r3 x z)⟩
         ·rcases m2 x y with w | w
          ·exact .inl ⟨Zc _ (p3 x w.1),w.2⟩
          ·exact .inr w
   | tup ds=>
    obtain ⟨a,vs,fq0,rfl,b0,ha,hl,hr,rfl⟩:=h
    have e': (atI ds i).bind (fun c=>Jp c s)=some c:=e
    cases q:ixN ds.length i with
    | none=>unfold atI at e';rw [q] at e';cases e'
    | some j=>
     unfold atI at e';rw [q] at e'
     have e2: (ds[j]?).bind (fun c=>Jp c s)=some c:=e'
     cases qc:ds[j]? with
     | none=>rw [qc] at e2;cases e2
     | some c0=>
      rw [qc] at e2
      obtain ⟨w,fw,p1,p2,p3,p4,p5⟩:=hr.focus qc
      obtain ⟨u,fq,r1,r2,r3,r4,r6,r5⟩:=R.path (s:=s) p2 e2 em
      refine ⟨u,fq,⟨a,vs,w,rfl,.inr ha,by unfold atI;rw [hr.len,q];exact p1,r1⟩,r2,fun a h=>Zc _ (p3 a (r3 a h)),fun n=>r4 (p4 (List.nodup_cons.mp n).2),fun c'=>?_,fun H' c' fq' r' k n nq dj=>?_⟩
      ·obtain ⟨d',h'⟩:=r6 c'
       exact ⟨.tup (ds.set j d'),by simp only [J1g,q,qc,h',Option.bind_some,Option.map_some]⟩
      ·have nc:=List.nodup_cons.mp n
       have nw:=p4 nc.2
       obtain ⟨f2,⟨c2,s2,rc2⟩,n2,m2⟩:=r5 H' c' fq' r' (fun x hx=>k x (Zc _ (p3 x hx))) nw nq fun x hx=>(dj x hx).imp id fun z y=>z (Zc _ (p3 x y))
       have dj2:∀x∈f2,x∈fw∨x∉fq0:=fun x hx=>by
        rcases m2 x hx with z | z
        ·exact .inl z.1
        ·rcases dj x z with y | y
         ·exact .inl (r3 x y)
         ·exact .inr fun w=>y (Zc _ w)
       obtain ⟨f3,t1,t2,t3⟩:=p5 H' c2 f2 rc2 (fun x hx hn=>k x (Zc _ hx) fun z=>hn (r3 x z)) nc.2 n2 dj2
       have naf:a∉fq:=fun z=>nc.1 (p3 a (r3 a z))
       refine ⟨a::f3,⟨.tup (ds.set j c2),by simp only [J1g,q,qc,s2,Option.bind_some,Option.map_some],a,vs,f3,rfl,b0,k a Zs naf _ ha,by rw [List.length_set];exact hl,t1,rfl⟩,List.nodup_cons.mpr ⟨fun z=>?_,t2⟩,fun x hx=>?_⟩
       ·rcases t3 a z with y | y
        ·exact nc.1 y.1
        ·rcases m2 a y with w | w
         ·exact nc.1 (p3 a w.1)
         ·rcases dj a w with y | y
          ·exact naf y
          ·exact y Zs
       ·rcases Zo.mp hx with rfl | hx
        ·exact .inl ⟨Zs,naf⟩
        ·rcases t3 x hx with y | y
         ·exact .inl ⟨Zc _ y.1,fun z=>y.2 (r3 x z)⟩
         ·rcases m2 x y with w | w
          ·exact .inl ⟨Zc _ (p3 x w.1),w.2⟩
          ·exact .inr w
   | _=>cases e
  | _=>cases em
 | .fld k' n::s,d,c,m,mc,v,fp,h,e,em=>by
  cases d with
  | obj k0 ns ds=>
   have e0: (if k0=k' then ((fIx ns n).bind fun j=>ds[j]?).bind (fun c=>Jp c s) else none)=some c:=e
   by_cases hk0:k0=k'
   case neg=>rw [if_neg hk0] at e0;cases e0
   subst hk0
   rw [if_pos rfl] at e0
   have e': ((fIx ns n).bind fun j=>ds[j]?).bind (fun c=>Jp c s)=some c:=e0
   cases q:fIx ns n with
   | none=>rw [q] at e';cases e'
   | some j=>
    rw [q] at e'
    have e2: (ds[j]?).bind (fun c=>Jp c s)=some c:=e'
    cases qc:ds[j]? with
    | none=>rw [qc] at e2;cases e2
    | some c0=>
     rw [qc] at e2
     cases m with
     | O m=>
      obtain ⟨a,dx,vs,fq0,rfl,b0,b1,ha,hx,hl,hr,rfl⟩:=h
      obtain ⟨w,fw,p1,p2,p3,p4,p5⟩:=hr.focus qc
      obtain ⟨u,fq,r1,r2,r3,r4,r6,r5⟩:=R.path (s:=s) p2 e2 em
      refine ⟨u,fq,⟨a,dx,_,w,rfl,ha,J3i q p1,r1⟩,r2,fun a h=>Zc _ (Zc _ (p3 a (r3 a h))),fun n=>r4 (p4 (List.nodup_cons.mp (List.nodup_cons.mp n).2).2),fun c'=>?_,fun H' c' fq' r' k n nq dj=>?_⟩
      ·obtain ⟨d',h'⟩:=r6 c'
       exact ⟨.obj k0 ns (ds.set j d'),by simp only [J1g,q,qc,h',Option.bind_some,Option.map_some]⟩
      ·have nc:=List.nodup_cons.mp n
       have nc2:=List.nodup_cons.mp nc.2
       have nw:=p4 nc2.2
       have up:∀x,x∈fq0→x∈a::dx::fq0:=fun x hx=>Zc _ (Zc _ hx)
       obtain ⟨f2,⟨c2,s2,rc2⟩,n2,m2⟩:=r5 H' c' fq' r' (fun x hx=>k x (up x (p3 x hx))) nw nq fun x hx=>(dj x hx).imp id fun z y=>z (up x (p3 x y))
       have dj2:∀x∈f2,x∈fw∨x∉fq0:=fun x hx=>by
        rcases m2 x hx with z | z
        ·exact .inl z.1
        ·rcases dj x z with y | y
         ·exact .inl (r3 x y)
         ·exact .inr fun w=>y (up x w)
       obtain ⟨f3,t1,t2,t3⟩:=p5 H' c2 f2 rc2 (fun x hx hn=>k x (up x hx) fun z=>hn (r3 x z)) nc2.2 n2 dj2
       have out:∀y,y∉fq0→y∈a::dx::fq0→y∉f3:=fun y hy hm z=>by
        rcases t3 y z with w | w
        ·exact hy w.1
        ·rcases m2 y w with w | w
         ·exact hy (p3 y w.1)
         ·rcases dj y w with w | w
          ·exact hy (p3 y (r3 y w))
          ·exact w hm
       have naf:a∉fq:=fun z=>nc.1 (Zc _ (p3 a (r3 a z)))
       have ndf:dx∉fq:=fun z=>nc2.1 (p3 dx (r3 dx z))
       refine ⟨a::dx::f3,⟨.obj k0 ns (ds.set j c2),by simp only [J1g,q,qc,s2,Option.bind_some,Option.map_some],a,dx,vs,f3,rfl,b0,b1,k a Zs naf _ ha,k dx (Zc _ Zs) ndf _ hx,by rw [List.length_set];exact hl,t1,rfl⟩,List.nodup_cons.mpr ⟨fun z=>?_,List.nodup_cons.mpr ⟨out dx nc2.1 (Zc _ Zs),t2⟩⟩,fun x hx=>?_⟩
       ·rcases Zo.mp z with rfl | z
        ·exact nc.1 Zs
        ·exact out a (fun w=>nc.1 (Zc _ w)) Zs z
       ·rcases Zo.mp hx with rfl | hx
        ·exact .inl ⟨Zs,naf⟩
        rcases Zo.mp hx with rfl | hx
        ·exact .inl ⟨Zc _ Zs,ndf⟩
        ·rcases t3 x hx with y | y
         ·exact .inl ⟨up x y.1,fun z=>y.2 (r3 x z)⟩
         ·rcases m2 x y with w | w
          ·exact .inl ⟨up x (p3 x w.1),w.2⟩
          ·exact .inr w
     | B n0 m0 r0=>
      obtain ⟨a,dx,vs,fq0,rfl,b0,b1,ha,hx,hl,hr,rfl⟩:=h
      have em': (J15 (.B n0 m0 r0) n).bind (fun q=>J12 q s)=some mc:=em
      cases qm:J15 (.B n0 m0 r0) n with
      | none=>rw [qm] at em';cases em'
      | some mq=>
       rw [qm] at em'
       obtain ⟨w,fw,p1,p2,p3,p4,p5⟩:=hr.focus q qc qm
       obtain ⟨u,fq,r1,r2,r3,r4,r6,r5⟩:=R.path (s:=s) p2 e2 em'
       refine ⟨u,fq,⟨a,dx,_,w,rfl,ha,J3i q p1,r1⟩,r2,fun a h=>Zc _ (Zc _ (p3 a (r3 a h))),fun n=>r4 (p4 (List.nodup_cons.mp (List.nodup_cons.mp n).2).2),fun c'=>?_,fun H' c' fq' r' k n nq dj=>?_⟩
       ·obtain ⟨d',h'⟩:=r6 c'
        exact ⟨.obj k0 ns (ds.set j d'),by simp only [J1g,q,qc,h',Option.bind_some,Option.map_some]⟩
       ·have nc:=List.nodup_cons.mp n
        have nc2:=List.nodup_cons.mp nc.2
        have nw:=p4 nc2.2
        have up:∀x,x∈fq0→x∈a::dx::fq0:=fun x hx=>Zc _ (Zc _ hx)
        obtain ⟨f2,⟨c2,s2,rc2⟩,n2,m2⟩:=r5 H' c' fq' r' (fun x hx=>k x (up x (p3 x hx))) nw nq fun x hx=>(dj x hx).imp id fun z y=>z (up x (p3 x y))
        have dj2:∀x∈f2,x∈fw∨x∉fq0:=fun x hx=>by
         rcases m2 x hx with z | z
         ·exact .inl z.1
         ·rcases dj x z with y | y
          ·exact .inl (r3 x y)
          ·exact .inr fun w=>y (up x w)
        obtain ⟨f3,t1,t2,t3⟩:=p5 H' c2 f2 rc2 (fun x hx hn=>k x (up x hx) fun z=>hn (r3 x z)) nc2.2 n2 dj2
        have out:∀y,y∉fq0→y∈a::dx::fq0→y∉f3:=fun y hy hm z=>by
         rcases t3 y z with w | w
         ·exact hy w.1
         ·rcases m2 y w with w | w
          ·exact hy (p3 y w.1)
          ·rcases dj y w with w | w
           ·exact hy (p3 y (r3 y w))
           ·exact w hm
        have naf:a∉fq:=fun z=>nc.1 (Zc _ (p3 a (r3 a z)))
        have ndf:dx∉fq:=fun z=>nc2.1 (p3 dx (r3 dx z))
        refine ⟨a::dx::f3,⟨.obj k0 ns (ds.set j c2),by simp only [J1g,q,qc,s2,Option.bind_some,Option.map_some],a,dx,vs,f3,rfl,b0,b1,k a Zs naf _ ha,k dx (Zc _ Zs) ndf _ hx,by rw [List.length_set];exact hl,t1,rfl⟩,List.nodup_cons.mpr ⟨fun z=>?_,List.nodup_cons.mpr ⟨out dx nc2.1 (Zc _ Zs),t2⟩⟩,fun x hx=>?_⟩
        ·rcases Zo.mp z with rfl | z
         ·exact nc.1 Zs
         ·exact out a (fun w=>nc.1 (Zc _ w)) Zs z
        ·rcases Zo.mp hx with rfl | hx
         ·exact .inl ⟨Zs,naf⟩
         rcases Zo.mp hx with rfl | hx
         ·exact .inl ⟨Zc _ Zs,ndf⟩
         ·rcases t3 x hx with y | y
          ·exact .inl ⟨up x y.1,fun z=>y.2 (r3 x z)⟩
          ·rcases m2 x y with w | w
           ·exact .inl ⟨up x (p3 x w.1),w.2⟩
           ·exact .inr w
     | _=>cases em
  | _=>cases e
end
noncomputable def tPx (K:Zf) (μ:List Mode) (p:Gam→Option Int):TE:=fun σ H Q=>∃B Γ fp,Sta K B H Γ μ σ fp∧∃j,p Γ=some j∧Q (.int j) H
structure DPx (X:Cx) (μ:List Mode) (e:Expr) (p:Gam→Option Int):Prop where
 pe:PE X e (tPx X.K μ p)
noncomputable def pxC (i:Int) (_:Gam):Option Int:=some i
noncomputable def pxV (i:Nat) (Γ:Gam):Option Int:=match J4 Γ i with
 | some (.int j)=>some j
 | _=>none
noncomputable def px2 (g:Int→Int→Int) (p q:Gam→Option Int) (Γ:Gam):Option Int:=(p Γ).bind fun i=>(q Γ).map fun j=>g i j
noncomputable def tPl (K:Zf) (μ:List Mode) (i:Nat) (g:Gam→Option (List Sel)):TE:=fun σ H Q=>∃B Γ fp v s u,Sta K B H Γ μ σ fp∧g Γ=some s∧σ[i]? =some (some v)∧Jx K H v s u∧Q u H
structure DPl (X:Cx) (μ:List Mode) (e:Expr) (i:Nat) (g:Gam→Option (List Sel)):Prop where
 pe:PE X e (tPl X.K μ i g)
noncomputable def plN (_:Gam):Option (List Sel):=some []
noncomputable def plI (g:Gam→Option (List Sel)) (p:Gam→Option Int) (Γ:Gam):Option (List Sel):=(g Γ).bind fun s=>(p Γ).map fun j=>s++ [.ix j]
noncomputable def plF (g:Gam→Option (List Sel)) (k n:Str) (Γ:Gam):Option (List Sel):=(g Γ).map fun s=>s++ [.fld k n]
theorem Jx.split {K:Zf} {H:Hp}:∀{s t:List Sel} {v u:V},Jx K H v (s++t) u→∃w,Jx K H v s w∧Jx K H w t u
 | [],t,v,u,h=>⟨v,rfl,h⟩
 | .ix i::s,t,v,u,h=>by
  obtain ⟨a,xs,x,rfl,e,q,p⟩:=h
  obtain ⟨w,h1,h2⟩:=Jx.split p
  exact ⟨w,⟨a,xs,x,rfl,e,q,h1⟩,h2⟩
 | .fld k n::s,t,v,u,h=>by
  obtain ⟨a,dx,fs,x,rfl,e,q,p⟩:=h
  obtain ⟨w,h1,h2⟩:=Jx.split p
  exact ⟨w,⟨a,dx,fs,x,rfl,e,q,h1⟩,h2⟩
section
variable {X:Cx} {w:Wh} {z:Ws} {μ μ' μ1 μ2:List Mode} {e a b c o:Expr} {es:List Expr} {f f':Gam→Rz D} {m m' m1 m2:Mode} {pos:Pos} {i:Nat} {x:Str} {g:Gam→Option (List Sel)} {p q:Gam→Option Int}
theorem DPx.int {j:Int} {k:Nat}:DPx X μ (.Constant (.int j) k pos) (pxC j):=⟨pe_int.imp fun σ H Q ⟨B,Γ,fp,st,k,e,q⟩=>by cases e;exact q⟩
theorem DPx.neg {j:Int} {k:Nat} {p2:Pos}:DPx X μ (.UnaryOp .USub (.Constant (.int j) k p2) pos) (pxC (-j)):=⟨(pe_un un_neg pe_int).imp fun σ H Q ⟨B,Γ,fp,st,k,e,q⟩=>by cases e;exact ⟨j,rfl,q⟩⟩
theorem DPx.var (hN:X.N[i]? =some x) (hv:Vis X.env.scope x) (hd: (x == ("__debug__" :Str))=false) (hcd: (x == ("__classdict__" :Str))=false) (hm:∃m,μ[i]? =some m∧nX m):DPx X μ (.Name x pos) (pxV i):=by
 refine ⟨(pe_var hN hv hd hcd).imp fun σ H Q ⟨B,Γ,fp,st,j,e,q⟩=>?_⟩
 unfold pxV at e
 obtain ⟨m,em,hx⟩:=hm
 cases eg:J4 Γ i with
 | none=>rw [eg] at e;cases e
 | some d=>
  rw [eg] at e
  obtain ⟨v,fp1,fp2,h1,h2,h3,h4,h5⟩:=StR.take (m0:= .U) st.st (J9 eg) em hx
  cases d with
  | int k=>
   cases e
   obtain ⟨rfl,_⟩:=h2
   exact ⟨_,h1,q⟩
  | _=>cases e
theorem DPx.add (h1:DPx X μ a p) (h2:DPx X μ b q):DPx X μ (.BinOp a .Add b pos) (px2 (· + ·) p q):=⟨(pe_op op_add h1.pe h2.pe).imp fun σ H Q ⟨B,Γ,fp,st,k,e,r⟩=>by
 unfold px2 at e
 cases e1:p Γ with
 | none=>rw [e1] at e;cases e
 | some i=>
  rw [e1] at e
  have e': (q Γ).map (fun j=>i + j)=some k:=e
  cases e2:q Γ with
  | none=>rw [e2] at e';cases e'
  | some j=>
   rw [e2] at e';cases e'
   exact ⟨B,Γ,fp,st,i,e1,B,Γ,fp,st,j,e2,i,j,rfl,rfl,r⟩⟩
theorem DPx.sub (h1:DPx X μ a p) (h2:DPx X μ b q):DPx X μ (.BinOp a .Sub b pos) (px2 (· - ·) p q):=⟨(pe_op op_sub h1.pe h2.pe).imp fun σ H Q ⟨B,Γ,fp,st,k,e,r⟩=>by
 unfold px2 at e
 cases e1:p Γ with
 | none=>rw [e1] at e;cases e
 | some i=>
  rw [e1] at e
  have e': (q Γ).map (fun j=>i - j)=some k:=e
  cases e2:q Γ with
  | none=>rw [e2] at e';cases e'
  | some j=>
   rw [e2] at e';cases e'
   exact ⟨B,Γ,fp,st,i,e1,B,Γ,fp,st,j,e2,i,j,rfl,rfl,r⟩⟩
theorem DPl.name (hN:X.N[i]? =some x) (hv:Vis X.env.scope x) (hd: (x == ("__debug__" :Str))=false) (hcd: (x == ("__classdict__" :Str))=false):DPl X μ (.Name x pos) i plN:=
 ⟨(pe_var hN hv hd hcd).imp fun σ H Q ⟨B,Γ,fp,v,s,u,st,e,hv,hp,q⟩=>by
  cases e
  have z:v=u:=hp
  subst z
  exact ⟨v,hv,q⟩⟩
theorem DPl.ix (h:DPl X μ o i g) (hi:DPx X μ b p) (hs:PlainIx b):DPl X μ (.Subscript o b pos) i (plI g p):=
 ⟨(pe_ix ix_seq h.pe hi.pe hs).imp fun σ H Q ⟨B,Γ,fp,v,s,u,st,e,hv,hp,q⟩=>by
  unfold plI at e
  cases e1:g Γ with
  | none=>rw [e1] at e;cases e
  | some s0=>
   rw [e1] at e
   have e': (p Γ).map (fun j=>s0++ [.ix j])=some s:=e
   cases e2:p Γ with
   | none=>rw [e2] at e';cases e'
   | some j=>
    rw [e2] at e';cases e'
    obtain ⟨w,p1,a,xs,y,rfl,hk,hy,p2⟩:=hp.split
    have z:y=u:=p2
    subst z
    refine ⟨B,Γ,fp,v,s0,.ref a,st,e1,hv,p1,B,Γ,fp,st,j,e2,?_⟩
    rcases hk with hk | hk
    ·exact .inl ⟨a,xs,j,y,rfl,rfl,SqL.of hk,hy,q⟩
    ·exact .inr (.inl ⟨a,xs,j,y,rfl,rfl,SqT.of hk,hy,q⟩)⟩
theorem DPl.fld {k n:Str} (h:DPl X μ o i g) (hc:Cls X.K (He.ga X.K k)) (hn:NoAttr X.K (He.ga X.K k) n) (hb:attributeBase o n X.env (eval o X.env)=eval o X.env):DPl X μ (.Attribute o n pos) i (plF g k n):=
 ⟨(pe_fld h.pe hb).imp fun σ H Q ⟨B,Γ,fp,v,s,u,st,e,hv,hp,q⟩=>by
  unfold plF at e
  cases e1:g Γ with
  | none=>rw [e1] at e;cases e
  | some s0=>
   rw [e1] at e;cases e
   obtain ⟨w,p1,a,dx,fs,y,rfl,hk,hy,p2⟩:=hp.split
   have z:y=u:=p2
   subst z
   exact ⟨B,Γ,fp,v,s0,.ref a,st,e1,hv,p1,a,_,dx,fs,y,rfl,hk,hc,hn,hy,q⟩⟩
theorem Rl.setAt {K:Zf} {B H:Hp}:∀{ds:List D} {m:Mode} {vs:List V} {fp:List Addr} {j:Nat} {d:D} {v:V} {fd:List Addr},Rl K B H ds m vs fp→j < ds.length→R K B H d m v fd→∃fp',Rl K B H (ds.set j d) m (vs.set j v) fp'∧((fd++fp).Nodup→fp'.Nodup)∧∀a∈fp',a∈fd++fp
 | d0::ds,m,vs,fp,0,d,v,fd,h,hj,r=>by
  obtain ⟨v0,r0,fp1,fp2,rfl,h1,h2,rfl⟩:=h
  refine ⟨fd++fp2,⟨v,r0,fd,fp2,rfl,r,h2,rfl⟩,fun nd=>?_,fun a ha=>?_⟩
  ·rw [J0,J0] at nd
   rw [J0]
   exact ⟨nd.1,nd.2.1.2.1,fun x hx hb=>nd.2.2 x hx (Zr _ hb)⟩
  ·rcases Zp.mp ha with ha | ha
   ·exact Zl _ ha
   ·exact Zr _ (Zr _ ha)
 | d0::ds,m,vs,fp,j + 1,d,v,fd,h,hj,r=>by
  obtain ⟨v0,r0,fp1,fp2,rfl,h1,h2,rfl⟩:=h
  obtain ⟨fp',q1,q2,q3⟩:=Rl.setAt (j:=j) h2 (Nat.lt_of_succ_lt_succ hj) r
  refine ⟨fp1++fp',⟨v0,r0.set j v,fp1,fp',rfl,h1,q1,rfl⟩,fun nd=>?_,fun a ha=>?_⟩
  ·rw [J0,J0] at nd
   rw [J0]
   refine ⟨nd.2.1.1,q2 (J0.mpr ⟨nd.1,nd.2.1.2.1,fun x hx hb=>nd.2.2 x hx (Zr _ hb)⟩),fun x hx hb=>?_⟩
   rcases Zp.mp (q3 x hb) with hb | hb
   ·exact nd.2.2 x hb (Zl _ hx)
   ·exact nd.2.1.2.2 x hx hb
  ·rcases Zp.mp ha with ha | ha
   ·exact Zr _ (Zl _ ha)
   ·rcases Zp.mp (q3 a ha) with ha | ha
    ·exact Zl _ ha
    ·exact Zr _ (Zr _ ha)
theorem J9g {K:Zf} {B H:Hp} {Γ:Gam} {σ:St} {fp fpv:List Addr} {d:D} {ds:List D} {mi mc:Mode} {s:List Sel} (st:Sta K B H Γ μ σ fp) (nd: (fpv++fp).Nodup) (ow:∀a∈fpv,B a=none∧∃o,H a=some o) (eg:J4 Γ i=some d) (em:μ[i]? =some mi) (hx:nX mi) (hp:Jp d s=some (.lst ds)) (hm:J12 mi s=some (.O mc)):
  ∃v a vs fq,σ[i]? =some (some v)∧Jx K H v s (.ref a)∧H a=some (.lst vs)∧B a=none∧Rl K B H ds mc vs fq∧fq.Nodup∧a∉fq∧(∀x∈fq,x∈fp)∧a∈fp∧
   ∀vs' ds' fq' fpr,Rl K B (upd H a (.lst vs')) ds' mc vs' fq'→ds'.length≤sizeLine→(fq'++fpr).Nodup→(∀x∈fq'++fpr,x∈fq∨x∈fpv)→
    ∃d' fp',J1g d s (.lst ds')=some d'∧Stp B H (fpv++fp) B (upd H a (.lst vs')) (fpr++fp')∧Sta K B (upd H a (.lst vs')) (Γ.set i (some d')) μ σ fp'∧(fpr++fp').Nodup:=by
 obtain ⟨v,fi,fr,h1,h2,h3,h4,h5⟩:=StR.take (m0:= .U) st.st (J9 eg) em hx
 have n:=J0.mp nd
 have nir:=J0.mp (h4 n.2.1)
 obtain ⟨u,fc,p1,p2,p3,p4,p5,p6⟩:=R.path h2 hp hm
 obtain ⟨a,vs,fq,rfl,b0,ha,hl,hr,rfl⟩:=p2
 have nc:=List.nodup_cons.mp (p4 nir.1)
 refine ⟨v,a,vs,fq,h1,p1,ha,b0,hr,nc.2,nc.1,fun x hx=>(h5 x).mp (Zl _ (p3 x (Zc _ hx))),(h5 a).mp (Zl _ (p3 a Zs)),fun vs' ds' fq' fpr r' hl' nq dj=>?_⟩
 have nqr:=J0.mp nq
 have inH:∀x∈a::fq,∃o,H x=some o:=fun x hx=>by
  rcases Zo.mp hx with rfl | hx
  ·exact ⟨_,ha⟩
  ·exact (Rl.own ds hr x hx).2
 have naq:∀x,x∈fq'++fpr→x≠a:=fun x hx e=>by
  subst e
  rcases dj x hx with q | q
  ·exact nc.1 q
  ·exact n.2.2 x q ((h5 x).mp (Zl _ (p3 x Zs)))
 have djfi:∀x∈fpv,x∉fi:=fun x hx q=>n.2.2 x hx ((h5 x).mp (Zl _ q))
 obtain ⟨fi',⟨d',sd,rd⟩,n',m'⟩:=p6 (upd H a (.lst vs')) (.lst ds') (a::fq') ⟨a,vs',fq',rfl,b0,upd_same,hl',r',rfl⟩
  (fun x hx hn o e=>by rw [upd_ne (fun q:x=a=>hn (by rw [q];exact Zs))];exact e) nir.1 (List.nodup_cons.mpr ⟨fun q=>naq a (Zl _ q) rfl,nqr.1⟩)
  (fun x hx=>by
   rcases Zo.mp hx with rfl | hx
   ·exact .inl Zs
   ·rcases dj x (Zl _ hx) with q | q
    ·exact .inl (Zc _ q)
    ·exact .inr (djfi x q))
 -- the rest of the state
 have anr:a∉fr:=nir.2.2 a (p3 a Zs)
 have s3:StR K B (upd H a (.lst vs')) (Γ.set i none) (μ.set i .U) σ fr:=h3.mono (Same.refl _) (Jk (fun x hx=>(h3.own x hx).1) anr)
 obtain ⟨fp',q1,q2,q3⟩:=s3.putO h1 (m:=mi) (g:=some d') (.inr ⟨v,rfl,rd⟩)
 rw [List.set_set,List.set_set,set_same em] at q1
 have src:∀x∈fi',x∈fi∨x∈fpv:=fun x hx=>by
  rcases m' x hx with q | q
  ·exact .inl q.1
  ·rcases Zo.mp q with rfl | q
   ·exact .inl (p3 x Zs)
   ·rcases dj x (Zl _ q) with q | q
    ·exact .inl (p3 x (Zc _ q))
    ·exact .inr q
 have djir:∀x∈fi',x∉fr:=fun x hx q=>by
  rcases src x hx with z | z
  ·exact nir.2.2 x z q
  ·exact n.2.2 x z ((h5 x).mp (Zr _ q))
 have nfp:fp'.Nodup:=q2 (J0.mpr ⟨n',nir.2.1,djir⟩)
 have djpr:∀x∈fpr,x∉fp':=fun x hx q=>by
  rcases Zp.mp (q3 x q) with z | z
  ·rcases m' x z with y | y
   ·rcases dj x (Zr _ hx) with w | w
    ·exact y.2 (Zc _ w)
    ·exact djfi x w y.1
   ·rcases Zo.mp y with rfl | y
    ·exact naq x (Zr _ hx) rfl
    ·exact nqr.2.2 x y hx
  ·rcases dj x (Zr _ hx) with w | w
   ·exact nir.2.2 x (p3 x (Zc _ w)) z
   ·exact n.2.2 x w ((h5 x).mp (Zr _ z))
 refine ⟨d',fp',sd,⟨Same.refl _,fun x o hn e=>?_,fun x hx=> .inl ?_,fun x o e=> .inl e⟩,⟨J54 st.same b0 (.lst ha),q1,nfp⟩,J0.mpr ⟨nqr.2.1,nfp,djpr⟩⟩
 ·exact .inl (by rw [upd_ne (fun q:x=a=>hn (Zr _ ((h5 x).mp (Zl _ (by rw [q];exact p3 a Zs)))))];exact e)
 ·rcases Zp.mp hx with hx | hx
  ·rcases dj x (Zr _ hx) with w | w
   ·exact Zr _ ((h5 x).mp (Zl _ (p3 x (Zc _ w))))
   ·exact Zl _ w
  ·rcases Zp.mp (q3 x hx) with z | z
   ·rcases src x z with y | y
    ·exact Zr _ ((h5 x).mp (Zl _ y))
    ·exact Zl _ y
   ·exact Zr _ ((h5 x).mp (Zr _ z))
noncomputable def upL (i:Nat) (g:Gam→Option (List Sel)) (h:List D→Option (List D)) (Γ:Gam):Option Gam:=
 (g Γ).bind fun s=>(J4 Γ i).bind fun d=>(Jp d s).bind fun c=>match c with
  | .lst ds=>(h ds).bind fun ds'=>(J1g d s (.lst ds')).map fun d'=>Γ.set i (some d')
  | _=>none
theorem J9h {h:List D→Option (List D)} {Γ Γ':Gam} (e:upL i g h Γ=some Γ'):∃s d ds ds' d',g Γ=some s∧J4 Γ i=some d∧Jp d s=some (.lst ds)∧h ds=some ds'∧J1g d s (.lst ds')=some d'∧Γ'=Γ.set i (some d'):=by
 unfold upL at e
 cases e1:g Γ with
 | none=>rw [e1] at e;cases e
 | some s=>
  rw [e1,Option.bind_some] at e
  cases e2:J4 Γ i with
  | none=>rw [e2] at e;cases e
  | some d=>
   rw [e2,Option.bind_some] at e
   cases e3:Jp d s with
   | none=>rw [e3] at e;cases e
   | some c=>
    rw [e3,Option.bind_some] at e
    cases c with
    | lst ds=>
     have e4: (h ds).bind (fun ds'=>(J1g d s (.lst ds')).map fun d'=>Γ.set i (some d'))=some Γ':=e
     cases e5:h ds with
     | none=>rw [e5] at e4;cases e4
     | some ds'=>
      rw [e5,Option.bind_some] at e4
      cases e6:J1g d s (.lst ds') with
      | none=>rw [e6] at e4;cases e4
      | some d'=>rw [e6] at e4;cases e4;exact ⟨s,d,ds,ds',d',rfl,rfl,e3,e5,e6,rfl⟩
    | _=>cases e
noncomputable def J55 (y:D) (p:Gam→Option Int) (Γ:Gam) (ds:List D):Option (List D):=(p Γ).bind fun j=>(ixN ds.length j).map fun k=>ds.set k y
noncomputable def Jd6 (f:Gam→Rz D) (i:Nat) (g:Gam→Option (List Sel)) (p:Gam→Option Int) (Γ:Gam):Sz:=(f Γ).s fun y Γ1=>match upL i g (J55 y p Γ1) Γ1 with
 | some Γ2=> .nx Γ2
 | none=> .bad
theorem DS.store {mi mc:Mode} (h:DE X z.w μ e f mc μ1) (ho:DPl X μ1 o i g) (hi:DPx X μ1 b p) (em:μ1[i]? =some mi) (hx:nX mi) (hm:∀Γ s,g Γ=some s→J12 mi s=some (.O mc)) (ha:∀v,assign (.Subscript o b pos) X.env v= (do
   let ov ← holding [v] (eval o X.env)
   let iv ← holding [v,ov] (eval b X.env)
   standAt pos
   holding [v,ov,iv] (setItem ov iv v)
   release [v,ov,iv] [])) {tpos:Pos} (hs:swapsWithSole [.Subscript o b pos] e tpos.line X.env=pure false) (hw:swappedStores [.Subscript o b pos] e X.env=pure none) (h1: (assignEach [.Subscript o b pos] X.env).map (·.2)= [assign (.Subscript o b pos) X.env]):DS X z μ (.Assign [.Subscript o b pos] e tpos) (Jd6 f i g p) μ1:=by
 refine ⟨(ps_asg h.pe (pg_sub ho.pe hi.pe set_list ha) hs hw h1).imp fun D σ H ⟨hp,B,Γ,fp,sta,q⟩=>?_⟩
 refine J82 hp sta q fun y Γ1 B1 H1 v fpv fp1 ef s1 st1 r nd=>?_
 unfold Jd6 at q
 rw [ef] at q
 have q':Jo X.K z μ1 B H fp D (match upL i g (J55 y p Γ1) Γ1 with
  | some Γ2=> .nx Γ2
  | none=> .bad):=q
 cases eu:upL i g (J55 y p Γ1) Γ1 with
 | none=>rw [eu] at q';exact q'.elim
 | some Γ2=>
  rw [eu] at q'
  obtain ⟨s,d,ds,ds',d',e1,e2,e3,e4,e5,rfl⟩:=J9h eu
  obtain ⟨v0,a,vs,fq,n1,n2,n3,n4,n5,n6,n7,n8,n9,n10⟩:=J9g st1 nd (R.own y r) e2 em hx e3 (hm _ _ e1)
  unfold J55 at e4
  cases ep:p Γ1 with
  | none=>rw [ep] at e4;cases e4
  | some j=>
   rw [ep,Option.bind_some] at e4
   cases ek:ixN ds.length j with
   | none=>rw [ek] at e4;cases e4
   | some k=>
    rw [ek] at e4;cases e4
    refine ⟨B1,Γ1,fp1,v0,s,.ref a,st1,e1,n1,n2,B1,Γ1,fp1,st1,j,ep,a,vs,j,k,rfl,rfl,n3,by rw [n5.len];exact ek,?_⟩
    have nn:=J0.mp nd
    have naf:a∉fpv:=fun q=>nn.2.2 a q n9
    have r':R X.K B1 (upd H1 a (.lst (vs.set k v))) y mc v fpv:=r.mono (Same.refl _) y (Jk (fun x hx=>(R.own y r x hx).1) naf)
    have rl':Rl X.K B1 (upd H1 a (.lst (vs.set k v))) ds mc vs fq:=n5.mono (Same.refl _) ds (Jk (fun x hx=>(Rl.own ds n5 x hx).1) n7)
    obtain ⟨fq',t1,t2,t3⟩:=rl'.setAt (ixN_seq ek).2.1 r'
    have nd2: (fpv++fq).Nodup:=J0.mpr ⟨nn.1,n6,fun x hx hy=>nn.2.2 x hx (n8 x hy)⟩
    have hl:ds.length≤sizeLine:=by
     obtain ⟨v1,fi,fr,h1',h2',_,_,_⟩:=StR.take (m0:= .U) st1.st (J9 e2) em hx
     obtain ⟨u,fc,p1,p2,_⟩:=R.path h2' e3 (hm _ _ e1)
     obtain ⟨a',vs',fq',_,_,_,hl,_⟩:=p2
     exact hl
    obtain ⟨d2,fp2,u1,u2,u3,u4⟩:=n10 (vs.set k v) (ds.set k y) fq' [] t1 (by rw [List.length_set];exact hl) (by rw [List.append_nil];exact t2 nd2) (fun x hx=>by
     rw [List.append_nil] at hx
     exact (Zp.mp (t3 x hx)).elim .inr .inl)
    rw [e5] at u1;cases u1
    exact q' σ B1 _ fp2 (s1.trans u2) u3 hp
noncomputable def Jb4 (i:Nat) (f:Gam→Rz D) (Γ:Gam):Rz D:=match J4 Γ i with
 | some (.lst _)=>(f Γ).bind fun y Γ1=>(match upL i plN (fun ds=>if ds.length < sizeLine then some (ds++ [y]) else none) Γ1 with
  | some Γ2=> .ok .non Γ2
  | none=> .bad)
 | _=> .bad
theorem DE.append {mc:Mode} {apos p0:Pos} (hN:X.N[i]? =some x) (hv:Vis X.env.scope x) (hd: (x == ("__debug__" :Str))=false) (hcd: (x == ("__classdict__" :Str))=false) (em0:μ[i]? =some m) (hx0:nX m) (h:DE X w μ e f mc μ1) (em:μ1[i]? =some (.O mc))
  (hbase:attributeBase (.Name x p0) "append" X.env (eval (.Name x p0) X.env)=eval (.Name x p0) X.env)
  (hfew: ((backTo pos (starEach [e] X.env)).all (fun x=>!x.1) && (backToKw pos (keywordEach [] X.env)).all (fun x=>x.1.isSome) && decide (([e]:List Expr).length + ([]:List Keyword).length + (if ([]:List Keyword).isEmpty then 0 else 1) < 30))=true)
  (hline: (apos.endLine == pos.line)=true) (hs:starEach [e] X.env= (false,eval e X.env)::starEach [] X.env) (hplain: (backTo pos (starEach [] X.env)).any (·.1)=false):
  DE X w μ (.Call (.Attribute (.Name x p0) "append" apos) [e] [] pos) (Jb4 i f) .Z μ1:=by
 refine ⟨(pe_bm PySem.F.plainAttrs_list PySem.F.slot_list_append PySem.F.type_list_append mt_append (pe_var hN hv hd hcd) (pa_cons h.pe pa_nil hs) hbase hfew hline hs hplain).imp fun σ H Q ⟨B,Γ,fp,st,q⟩=>?_⟩
 unfold Jb4 at q
 cases eg:J4 Γ i with
 | none=>rw [eg] at q;exact q.elim
 | some d=>
  rw [eg] at q
  cases d with
  | lst ds0=>
   obtain ⟨v0,fi,fr,h1,h2,h3,h4,h5⟩:=StR.take (m0:= .U) st.st (J9 eg) em0 hx0
   obtain ⟨a0,vs0,fq0,rfl,hs0,_⟩:=(h2.seq st.same).1 ds0 rfl
   refine ⟨.ref a0,h1,.inl ⟨rfl,vs0,hs0⟩,B,Γ,fp,st,?_⟩
   revert q
   show (match (f Γ).bind (fun y Γ1=>(match upL i plN (fun ds=>if ds.length < sizeLine then some (ds++ [y]) else none) Γ1 with
    | some Γ2=>Rz.ok D.non Γ2
    | none=> .bad)) with
    | .ok d Γ'=>_
    | .exc x Γ'=>_
    | .bad=>_)→_
   cases f Γ with
   | bad=>exact id
   | exc x Γ'=>exact id
   | ok y Γ1=>
    intro q B1 H1 v fpv fp1 s1 st1 r nd
    have q':match (match upL i plN (fun ds=>if ds.length < sizeLine then some (ds++ [y]) else none) Γ1 with
      | some Γ2=>Rz.ok D.non Γ2
      | none=> .bad) with
     | .ok d Γ'=>∀B' H' v fpv fp',Stp B H fp B' H' (fpv++fp')→Sta X.K B' H' Γ' μ1 σ fp'→R X.K B' H' d .Z v fpv→(fpv++fp').Nodup→Q v H'
     | .exc x Γ'=>J18 X.K w B H fp σ x Γ'
     | .bad=>False:=q
    cases eu:upL i plN (fun ds=>if ds.length < sizeLine then some (ds++ [y]) else none) Γ1 with
    | none=>rw [eu] at q';exact q'.elim
    | some Γ2=>
     rw [eu] at q'
     obtain ⟨s,d,ds,ds',d',e1,e2,e3,e4,e5,rfl⟩:=J9h eu
     cases e1
     obtain ⟨v0,a,vs,fq,n1,n2,n3,n4,n5,n6,n7,n8,n9,n10⟩:=J9g st1 nd (R.own y r) e2 em ⟨nofun,nofun⟩ e3 rfl
     have z:v0= .ref a:=n2
     subst z
     rw [h1] at n1
     cases n1
     have e4': (if ds.length < sizeLine then some (ds++ [y]) else none)=some ds':=e4
     split at e4'
     ·rename_i hlt
      cases e4'
      refine ⟨a0,vs,v,rfl,rfl,n3,by rw [n5.len];exact hlt,?_⟩
      have nn:=J0.mp nd
      have naf:a0∉fpv:=fun q=>nn.2.2 a0 q n9
      have r':R X.K B1 (upd H1 a0 (.lst (vs++ [v]))) y mc v fpv:=r.mono (Same.refl _) y (Jk (fun x hx=>(R.own y r x hx).1) naf)
      have rl':Rl X.K B1 (upd H1 a0 (.lst (vs++ [v]))) ds mc vs fq:=n5.mono (Same.refl _) ds (Jk (fun x hx=>(Rl.own ds n5 x hx).1) n7)
      have nd2: (fq++fpv).Nodup:=J0.mpr ⟨n6,nn.1,fun x hx hy=>nn.2.2 x hy (n8 x hx)⟩
      obtain ⟨d2,fp2,u1,u2,u3,u4⟩:=n10 (vs++ [v]) (ds++ [y]) (fq++fpv) [] (rl'.snoc r') (by rw [List.length_append];exact hlt) (by rw [List.append_nil];exact nd2) (fun x hx=>by
       rw [List.append_nil] at hx
       exact (Zp.mp hx))
      rw [e5] at u1;cases u1
      exact q' B1 _ .non [] fp2 (s1.trans u2) u3 ⟨rfl,rfl⟩ u4
     ·cases e4'
  | _=>exact q.elim
end
noncomputable def cutD (ds:List D) (lo hi:Option Int):List D:=(ds.drop (HT.sIx ds.length 0 lo)).take (HT.sIx ds.length ds.length hi - HT.sIx ds.length 0 lo)
section
variable {K:Zf} {m1 m2 m:Mode}
theorem Rl.drop {B H:Hp}:∀{n:Nat} {ds:List D} {m:Mode} {vs:List V} {fp:List Addr},Rl K B H ds m vs fp→∃fq,Rl K B H (ds.drop n) m (vs.drop n) fq∧(∀a∈fq,a∈fp)∧(fp.Nodup→fq.Nodup)
 | 0,ds,m,vs,fp,h=>⟨fp,h,fun a h=>h,fun h=>h⟩
 | n + 1,[],m,vs,fp,h=>by
  obtain ⟨rfl,rfl⟩:=h
  exact ⟨[],⟨rfl,rfl⟩,fun a h=>h,fun h=>h⟩
 | n + 1,d::ds,m,vs,fp,h=>by
  obtain ⟨v,r,f1,f2,rfl,h1,h2,rfl⟩:=h
  obtain ⟨fq,q1,q2,q3⟩:=Rl.drop (n:=n) h2
  exact ⟨fq,q1,fun a h=>Zr _ (q2 a h),fun nd=>q3 (J0.mp nd).2.1⟩
theorem Rl.take {B H:Hp}:∀{n:Nat} {ds:List D} {m:Mode} {vs:List V} {fp:List Addr},Rl K B H ds m vs fp→∃fq,Rl K B H (ds.take n) m (vs.take n) fq∧(∀a∈fq,a∈fp)∧(fp.Nodup→fq.Nodup)
 | 0,ds,m,vs,fp,h=>⟨[],⟨rfl,rfl⟩,(fun a h=>nomatch h),fun _=>List.nodup_nil⟩
 | n + 1,[],m,vs,fp,h=>by
  obtain ⟨rfl,rfl⟩:=h
  exact ⟨[],⟨rfl,rfl⟩,fun a h=>h,fun h=>h⟩
 | n + 1,d::ds,m,vs,fp,h=>by
  obtain ⟨v,r,f1,f2,rfl,h1,h2,rfl⟩:=h
  obtain ⟨fq,q1,q2,q3⟩:=Rl.take (n:=n) h2
  refine ⟨f1++fq,⟨v,_,f1,fq,rfl,h1,q1,rfl⟩,fun a h=>?_,fun nd=>?_⟩
  ·rcases Zp.mp h with h | h
   ·exact Zl _ h
   ·exact Zr _ (q2 a h)
  ·have n3:=J0.mp nd
   exact J0.mpr ⟨n3.1,q3 n3.2.1,fun a h1 h2=>n3.2.2 a h1 (q2 a h2)⟩
theorem Rl.cut {B H:Hp} {ds:List D} {m:Mode} {vs:List V} {fp:List Addr} (h:Rl K B H ds m vs fp) (lo hi:Option Int):∃fq,Rl K B H (cutD ds lo hi) m (cutV vs lo hi) fq∧(∀a∈fq,a∈fp)∧(fp.Nodup→fq.Nodup):=by
 obtain ⟨f1,a1,a2,a3⟩:=Rl.drop (n:=HT.sIx ds.length 0 lo) h
 obtain ⟨f2,b1,b2,b3⟩:=Rl.take (n:=HT.sIx ds.length ds.length hi - HT.sIx ds.length 0 lo) a1
 refine ⟨f2,?_,fun a h=>a2 a (b2 a h),fun nd=>b3 (a3 nd)⟩
 unfold cutV
 rw [h.len]
 exact b1
theorem J9i (ds:List D) (lo hi:Option Int): (cutD ds lo hi).length≤ds.length:=by
 unfold cutD
 rw [List.length_take,List.length_drop];omega
theorem Comes.frz {B H:Hp} {fp:List Addr} {d:D} {Q:VK} (c:Comes K B H fp d .F Q):Comes K B H fp d m Q:=fun B' H' v fpv s sm r nd=>by
 have b0:∀a∈fpv,B' a=none:=fun a h=>(R.own d r a h).1
 refine c (J4r B' H' fpv) H' v [] (s.trans ⟨J23 b0,fun a o _ h=> .inl h,(fun a h=>nomatch h),fun a o h=>?_⟩) (J6v sm b0) r.frz List.nodup_nil
 by_cases q:a∈fpv
 ·exact .inr (.inl q)
 ·rw [J42 q] at h;exact .inl h
noncomputable def J2v (d:D) (lo hi:Option Int):Option D:=match d with
 | .lst ds=>some (.lst (cutD ds lo hi))
 | _=>none
noncomputable def J85 (d:D) (lo hi:Option Int):Option D:=match d with
 | .tup ds=>some (.tup (cutD ds lo hi))
 | _=>none
noncomputable def oPx (p:Option (Gam→Option Int)) (Γ:Gam):Option (Option Int):=match p with
 | none=>some none
 | some p=>(p Γ).map some
noncomputable def eSl (g:D→Option Int→Option Int→Option D) (f:Gam→Rz D) (lo hi:Option (Gam→Option Int)) (Γ:Gam):Rz D:=(f Γ).bind fun d Γ1=>match oPx lo Γ1,oPx hi Γ1 with
 | some l,some h=>Rz.opt (g d l h) Γ1
 | _,_=> .bad
end
section
variable {X:Cx} {w:Wh} {μ μ1:List Mode} {e:Expr} {f:Gam→Rz D} {m m':Mode} {pos p2:Pos}
noncomputable def tPo (K:Zf) (μ:List Mode) (p:Option (Gam→Option Int)):TO:=fun σ H Q=>∃B Γ fp,Sta K B H Γ μ σ fp∧∃j,oPx p Γ=some j∧Q j H
theorem PO.imp {e:Option Expr} {t t':TO} (h:PO X e t) (i:∀σ H Q,t' σ H Q→t σ H Q):PO X e t':=⟨fun pins s σ H Q I q=>h.run pins s σ H Q I (i σ H Q q)⟩
structure DPo (X:Cx) (μ:List Mode) (e:Option Expr) (p:Option (Gam→Option Int)):Prop where
 po:PO X e (tPo X.K μ p)
theorem DPo.none:DPo X μ Option.none Option.none:=⟨PO.imp po_none fun σ H Q ⟨B,Γ,fp,st,j,e,q⟩=>by cases e;exact q⟩
theorem DPo.some {p:Gam→Option Int} (h:DPx X μ e p):DPo X μ (Option.some e) (Option.some p):=⟨PO.imp (po_some h.pe) fun σ H Q ⟨B,Γ,fp,st,j,e,q⟩=>by
 have e': (p Γ).map Option.some=Option.some j:=e
 cases e1:p Γ with
 | none=>rw [e1] at e';cases e'
 | some i=>
  rw [e1] at e';cases e'
  exact ⟨B,Γ,fp,st,i,e1,i,rfl,q⟩⟩
noncomputable def SlD (K:Zf) (r:V→Option Int→Option Int→Hp→VK→Prop) (m1:Mode) (g:D→Option Int→Option Int→Option D) (m:Mode):Prop:=
 ∀ (B H:Hp) (x d:D) (u:V) (lo hi:Option Int) (fp1:List Addr) (Q:VK),Lies K B H→R K B H x m1 u fp1→fp1.Nodup→g x lo hi=some d→Comes K B H fp1 d m Q→r u lo hi H Q
theorem DE.slice {r:V→Option Int→Option Int→Hp→VK→Prop} {g:D→Option Int→Option Int→Option D} {lo hi:Option Expr} {pl ph:Option (Gam→Option Int)} (hr:L2.SlR X r) (od:SlD X.K r m g m') (h:DE X w μ e f m μ1) (hl:DPo X μ1 lo pl) (hh:DPo X μ1 hi ph):DE X w μ (.Subscript e (.Slice lo hi Option.none p2) pos) (eSl g f pl ph) m' μ1:=by
 refine ⟨(pe_slice hr h.pe hl.po hh.po).imp fun σ H Q ⟨B,Γ,fp,st,q⟩=>⟨B,Γ,fp,st,?_⟩⟩
 unfold eSl at q
 cases e1:f Γ with
 | bad=>rw [e1] at q;exact q.elim
 | exc x Γ'=>rw [e1] at q;exact q
 | ok x Γ1=>
  rw [e1] at q
  intro B1 H1 u fu fp1 s1 st1 r1 n1
  simp only [Rz.bind] at q
  cases e2:oPx pl Γ1 with
  | none=>rw [e2] at q;exact q.elim
  | some l=>
   cases e3:oPx ph Γ1 with
   | none=>rw [e2,e3] at q;exact q.elim
   | some k=>
    rw [e2,e3] at q
    refine ⟨B1,Γ1,fp1,st1,l,e2,B1,Γ1,fp1,st1,k,e3,?_⟩
    dsimp only at q
    cases e4:g x l k with
    | none=>rw [e4] at q;exact q.elim
    | some d=>
     rw [e4] at q
     exact od B1 H1 x d u l k fu Q st1.same r1 (J0.mp n1).1 e4 (J2o s1 st1 (fun a h=>(R.own x r1 a h).2) n1 q)
theorem Jd7 {K:Zf}:SlD K (rSlL K) m J2v (.O (J31 m)):=by
 intro B H x d u lo hi fp1 Q s r1 nd e c
 have q:=r1.seq s
 cases x with
 | lst ds=>
  cases e
  obtain ⟨a,vs,fq,rfl,hs,hr,hl,q1,q2⟩:=q.1 ds rfl
  obtain ⟨f2,a1,a2,a3⟩:=hr.cut lo hi
  exact ⟨a,vs,rfl,hs,fun p hp=>J3g c s a1 (Nat.le_trans (J9i ..) hl) (fun a h=>q1 a (a2 a h)) (a3 (q2 nd)) hp⟩
 | _=>cases e
theorem Jn4 {K:Zf}:SlD K (rSlA K) .F J85 .F:=by
 intro B H x d u lo hi fp1 Q s r1 nd e c
 have q:=r1.seq s
 cases x with
 | tup ds=>
  cases e
  obtain ⟨a,vs,fq,rfl,hs,hr,hl,q1,q2⟩:=q.2 ds rfl
  obtain ⟨f2,a1,a2,a3⟩:=hr.cut lo hi
  refine ⟨a,vs,rfl,hs,fun hw=>?_,fun _ p hp=>Jev (m:= .F) c.frz s a1 (Nat.le_trans (J9i ..) hl) (fun a h=>q1 a (a2 a h)) (a3 (q2 nd)) hp⟩
  have e0:=r1.fpF
  subst e0
  have hl2:=hr.len
  refine c B H _ [] (Stp.refl _ _ _) s ?_ List.nodup_nil
  have:cutD ds lo hi=ds:=by
   unfold cutD
   rw [← hl2,hw.1,hw.2]
   simp [hl2]
  rw [this];exact r1
 | _=>cases e
end
section
variable {X:Cx} {w:Wh} {z:Ws} {μ μ' μ1 μ2:List Mode} {e a b c o:Expr} {es:List Expr} {f f':Gam→Rz D} {m m' m1 m2 m3:Mode} {pos:Pos} {i:Nat} {x:Str} {g:Gam→Option (List Sel)} {p q:Gam→Option Int}
theorem Jkb:PGet X fun o i H Q=>∃a xs k v,o= .ref a∧i= .int k∧H a=some (.lst xs)∧0≤k∧xs[k.toNat]? =some v∧Q v H:=by
 intro pins s σ H o i ov iv Q I ro ri h
 obtain ⟨a,xs,k,v,rfl,rfl,ha,h0,hv,q⟩:=h
 cases ro
 obtain ⟨t,rfl⟩:=ri
 obtain ⟨its,r,pl,hz⟩:=I.list (SqL.of ha)
 obtain ⟨u,eu,ru⟩:=r.get hv
 have hl:=(List.getElem?_eq_some_iff.mp hv).1
 have hn:=line63
 exact PySem.wpAny_getItem_list pl.isList h0 (by omega) (by simpa using eu) ⟨v,H,I,ru,q⟩
theorem Jx.keep {K:Zf} {B H H1:Hp}:∀{s:List Sel} {v u:V} {d:D} {m mc:Mode} {fp:List Addr} {c:D},R K B H d m v fp→Jp d s=some c→J12 m s=some mc→(∀x∈fp,∀o,H x=some o→H1 x=some o)→Jx K H v s u→Jx K H1 v s u:=by
 intro s
 induction s with
 | nil=>exact fun _ _ _ _ h=>h
 | cons hd tl ih=>
  intro v u d m mc fp c hR hg hmm hk hpv
  cases hd with
  | ix ii=>
   obtain ⟨aa,xs,uu,rfl,hh,hat,hrest⟩:=hpv
   cases m with
   | O m=>
    cases d with
    | lst dd=>
     obtain ⟨a9,vs9,fq9,e9,b9,hh9,hl9,hr9,rfl⟩:=hR
     cases e9
     rw [hh9] at hh
     have exs:xs=vs9:=by rcases hh with hh | hh <;> cases hh;rfl
     subst exs
     have hg': (atI dd ii).bind (fun c=>Jp c tl)=some c:=hg
     cases hc:atI dd ii with
     | none=>rw [hc] at hg';cases hg'
     | some c9=>
      rw [hc] at hg'
      obtain ⟨w9,fw9,x1,x2,x3,_⟩:=J5g hr9 hc
      rw [hat] at x1;cases x1
      exact ⟨aa,xs,uu,rfl,.inl (hk aa Zs _ hh9),hat,ih x2 hg' hmm (fun x hx=>hk x (Zc _ (x3 x hx))) hrest⟩
    | tup dd=>
     obtain ⟨a9,vs9,fq9,e9,b9,hh9,hl9,hr9,rfl⟩:=hR
     cases e9
     rw [hh9] at hh
     have exs:xs=vs9:=by rcases hh with hh | hh <;> cases hh;rfl
     subst exs
     have hg': (atI dd ii).bind (fun c=>Jp c tl)=some c:=hg
     cases hc:atI dd ii with
     | none=>rw [hc] at hg';cases hg'
     | some c9=>
      rw [hc] at hg'
      obtain ⟨w9,fw9,x1,x2,x3,_⟩:=J5g hr9 hc
      rw [hat] at x1;cases x1
      exact ⟨aa,xs,uu,rfl,.inr (hk aa Zs _ hh9),hat,ih x2 hg' hmm (fun x hx=>hk x (Zc _ (x3 x hx))) hrest⟩
    | _=>cases hg
   | _=>cases hmm
  | fld kk nn9=>
   obtain ⟨aa,dx9,fs9,uu,rfl,hh,hat,hrest⟩:=hpv
   cases d with
   | obj k0 ns dd=>
    have hg0: (if k0=kk then ((fIx ns nn9).bind fun j=>dd[j]?).bind (fun c=>Jp c tl) else none)=some c:=hg
    by_cases hk0:k0=kk
    case neg=>rw [if_neg hk0] at hg0;cases hg0
    rw [if_pos hk0] at hg0
    subst hk0
    cases hq:fIx ns nn9 with
    | none=>rw [hq] at hg0;cases hg0
    | some j9=>
     rw [hq,Option.bind_some] at hg0
     cases hc:dd[j9]? with
     | none=>rw [hc] at hg0;cases hg0
     | some c9=>
      rw [hc,Option.bind_some] at hg0
      cases m with
      | O m=>
       obtain ⟨a9,dx8,vs9,fq9,e9,b9,b8,hh9,hx9,hl9,hr9,rfl⟩:=hR
       cases e9
       rw [hh9] at hh
       cases hh
       obtain ⟨w9,fw9,x1,x2,x3,_⟩:=Rl.at_ hr9 hc
       have z9:=J3i hq x1
       rw [hat] at z9;cases z9
       exact ⟨aa,_,_,uu,rfl,hk aa Zs _ hh9,hat,ih x2 hg0 hmm (fun x hx=>hk x (Zc _ (Zc _ (x3 x hx)))) hrest⟩
      | B n7 m7 r7=>
       obtain ⟨a9,dx8,vs9,fq9,e9,b9,b8,hh9,hx9,hl9,hr9,rfl⟩:=hR
       cases e9
       rw [hh9] at hh
       cases hh
       have hmm': (J15 (.B n7 m7 r7) nn9).bind (fun q=>J12 q tl)=some mc:=hmm
       cases hcm:J15 (.B n7 m7 r7) nn9 with
       | none=>rw [hcm] at hmm';cases hmm'
       | some mq=>
        rw [hcm,Option.bind_some] at hmm'
        obtain ⟨w9,fw9,x1,x2,x3,_⟩:=hr9.focus hq hc hcm
        have z9:=J3i hq x1
        rw [hat] at z9;cases z9
        exact ⟨aa,_,_,uu,rfl,hk aa Zs _ hh9,hat,ih x2 hg0 hmm' (fun x hx=>hk x (Zc _ (Zc _ (x3 x hx)))) hrest⟩
      | _=>cases hmm
   | _=>cases hg
noncomputable def J3x (op:Int→Int→Int) (y:D) (j:Int) (ds:List D):Option (List D):=if 0≤j then (match ds[j.toNat]?,y with
 | some (.int k),.int n=>some (ds.set j.toNat (.int (op k n)))
 | _,_=>none) else none
noncomputable def Jb5 (op:Int→Int→Int) (f:Gam→Rz D) (i:Nat) (g:Gam→Option (List Sel)) (p:Gam→Option Int) (Γ:Gam):Sz:=match p Γ,g Γ,J4 Γ i with
 | some j,some s,some d=>(match Jp d s with
  | some (.lst ds)=>if 0≤j then (match ds[j.toNat]? with
   | some (.int _)=>(f (Γ.set i none)).s fun y Γ1=>(match upL i (fun _=>some s) (J3x op y j) (Γ1.set i (some d)) with
    | some Γ2=> .nx Γ2
    | none=> .bad)
   | _=> .bad) else .bad
  | _=> .bad)
 | _,_,_=> .bad
theorem DS.aug {op:Operator} {fo:Int→Int→Int} {mi mc:Mode} {tpos:Pos} (hop:PIp X op (ipI fo)) (h:DE X z.w (μ.set i .U) e f m μ1) (ho:DPl X μ o i g) (hi:DPx X μ b p) (em:μ[i]? =some mi) (hx:nX mi) (hm:∀Γ s,g Γ=some s→J12 mi s=some (.O mc)) (hz:mc= .Z∨mc= .F∨∃k,mc= .O k) (hb: (μ1.set i mi).set i mi=μ1.set i mi) (hu:μ1[i]? =some .U)
  (ha:∀ov iv new,augStore b ov iv new= (do holding [new,ov,iv] (setItem ov iv new);release [new,ov,iv] [];pure .next)):DS X z μ (.AugAssign (.Subscript o b tpos) op e pos) (Jb5 fo f i g p) (μ1.set i mi):=by
 refine ⟨(ps_augS ho.pe hi.pe Jkb h.pe hop set_list ha).imp fun En σ H ⟨hp,B,Γ,fp,sta,q⟩=>?_⟩
 unfold Jb5 at q
 cases ep:p Γ with
 | none=>rw [ep] at q;exact q.elim
 | some j=>
 cases es:g Γ with
 | none=>rw [ep,es] at q;exact q.elim
 | some s=>
 cases eg:J4 Γ i with
 | none=>rw [ep,es,eg] at q;exact q.elim
 | some d=>
 rw [ep,es,eg] at q
 have q1:Jo X.K z (μ1.set i mi) B H fp En (match Jp d s with
  | some (.lst ds)=>if 0≤j then (match ds[j.toNat]? with
   | some (.int _)=>(f (Γ.set i none)).s fun y Γ1=>(match upL i (fun _=>some s) (J3x fo y j) (Γ1.set i (some d)) with
    | some Γ2=> .nx Γ2
    | none=> .bad)
   | _=> .bad) else .bad
  | _=> .bad):=q
 cases eP:Jp d s with
 | none=>rw [eP] at q1;exact q1.elim
 | some nd0=>
 rw [eP] at q1
 cases nd0 with
 | lst ds=>
  have q2:Jo X.K z (μ1.set i mi) B H fp En (if 0≤j then (match ds[j.toNat]? with
   | some (.int _)=>(f (Γ.set i none)).s fun y Γ1=>(match upL i (fun _=>some s) (J3x fo y j) (Γ1.set i (some d)) with
    | some Γ2=> .nx Γ2
    | none=> .bad)
   | _=> .bad) else .bad):=q1
  by_cases h0:0≤j
  case neg=>rw [if_neg h0] at q2;exact q2.elim
  rw [if_pos h0] at q2
  cases ek:ds[j.toNat]? with
  | none=>rw [ek] at q2;exact q2.elim
  | some c0=>
  rw [ek] at q2
  cases c0 with
  | int k=>
   have q3:Jo X.K z (μ1.set i mi) B H fp En ((f (Γ.set i none)).s fun y Γ1=>(match upL i (fun _=>some s) (J3x fo y j) (Γ1.set i (some d)) with
    | some Γ2=> .nx Γ2
    | none=> .bad)):=q2
   obtain ⟨v,fi,fr,h1,h2,h3,h4,h5⟩:=StR.take (m0:= .U) sta.st (J9 eg) em hx
   have nir:=J0.mp (h4 sta.nd)
   obtain ⟨u,fc,p1,p2,p3,p4,p5,p6⟩:=R.path h2 eP (hm _ _ es)
   obtain ⟨a,vs,fq,rfl,b0,hA,hl,hr,rfl⟩:=p2
   obtain ⟨vk,fk,hk1,hk2,_,_⟩:=Rl.at_ hr ek
   obtain ⟨rfl,rfl⟩:=hk2
   have sta':Sta X.K B H (Γ.set i none) (μ.set i .U) σ fr:=⟨sta.same,h3,nir.2.1⟩
   refine ⟨B,Γ,fp,v,s,.ref a,sta,es,h1,p1,B,Γ,fp,sta,j,ep,a,vs,j,.int k,rfl,rfl,hA,h0,hk1,?_⟩
   have hj:j.toNat < ds.length:=(List.getElem?_eq_some_iff.mp ek).1
   -- e is evaluated without the slot
   refine J82 hp sta' (μ2:=μ1.set i mi) (k:=fun y Γ1=>(match upL i (fun _=>some s) (J3x fo y j) (Γ1.set i (some d)) with
    | some Γ2=> .nx Γ2
    | none=> .bad)) (q3.after ((Stp.refl _ _ _).less fun x hx=>(h5 x).mp (Zr _ hx))) fun y Γ1 B1 H1 v1 fpv fp1 ef s1 st1 r nd=>?_
   rw [ef] at q3
   have q4:Jo X.K z (μ1.set i mi) B H fp En (match upL i (fun _=>some s) (J3x fo y j) (Γ1.set i (some d)) with
    | some Γ2=> .nx Γ2
    | none=> .bad):=q3
   cases eu:upL i (fun _=>some s) (J3x fo y j) (Γ1.set i (some d)) with
   | none=>rw [eu] at q4;exact q4.elim
   | some Γ2=>
    rw [eu] at q4
    obtain ⟨s',d',ds1,ds2,d2,e1,e2,e3,e4,e5,rfl⟩:=J9h eu
    cases e1
    have hil:i < (Γ1.set i (some d)).length:=by
     unfold J4 at e2
     cases ee: (Γ1.set i (some d))[i]? with
     | none=>rw [ee] at e2;cases e2
     | some _=>exact (List.getElem?_eq_some_iff.mp ee).1
    have e2':d'=d:=by
     have z1: (Γ1.set i (some d))[i]? =some (some d):=List.getElem?_set_self (by simpa using hil)
     have z2:=J9 e2
     rw [z1] at z2;cases z2;rfl
    subst e2'
    rw [eP] at e3;cases e3
    -- the slot comes back
    have ownI:∀x∈fi,B x=none∧∃o,H x=some o:=R.own d' h2
    have djI:∀x∈fi,x∉fr:=nir.2.2
    have kI:=s1.kept (K:=X.K) ownI djI
    have apI:=s1.apart (fun x hx=>(ownI x hx).2) djI
    have h2':R X.K B1 H1 d' mi v fi:=h2.mono s1.base d' kI
    have nn:=J0.mp nd
    obtain ⟨fpB,b1,b2,b3⟩:=st1.st.putO h1 (i:=i) (m:=mi) (g:=some d') (.inr ⟨v,rfl,h2'⟩)
    have stB:Sta X.K B1 H1 (Γ1.set i (some d')) (μ1.set i mi) σ fpB:=⟨st1.same,b1,b2 (J0.mpr ⟨nir.1,nn.2.1,fun x hx hy=>apI x hx (Zr _ hy)⟩)⟩
    have emB: (μ1.set i mi)[i]? =some mi:=List.getElem?_set_self (List.getElem?_eq_some_iff.mp hu).1
    have ndB: (([]:List Addr)++fpB).Nodup:=stB.nd
    obtain ⟨v0,a0,vs0,fq0,n1,n2,n3,n4,n5,n6,n7,n8,n9,n10⟩:=J9g stB ndB (fun x hx=>nomatch hx) e2 emB hx eP (hm _ _ es)
    rw [h1] at n1;cases n1
    -- the same place as before
    have hA1:H1 a=some (.lst vs):=(kI a (p3 a Zs)).1 _ hA
    obtain ⟨u2,fc2,t1,t2,_⟩:=R.path h2' eP (hm _ _ es)
    have same:V.ref a0= .ref a:=by
     exact n2.inj (Jx.keep h2 eP (hm _ _ es) (fun x hx o e=>(kI x hx).1 o e) p1)
    cases same
    rw [hA1] at n3;cases n3
    -- the sum and the store
    unfold J3x at e4
    rw [if_pos h0,ek] at e4
    cases y with
    | int n=>
     have e4':some (ds.set j.toNat (D.int (fo k n)))=some ds2:=e4
     cases e4'
     obtain ⟨rfl,rfl⟩:=r
     refine ⟨k,n,rfl,rfl,a,vs,j,j.toNat,rfl,rfl,hA1,?_,?_⟩
     ·unfold ixN
      rw [if_pos h0,if_pos (by rw [hr.len];omega)]
     ·have rl':Rl X.K B1 (upd H1 a (.lst (vs.set j.toNat (.int (fo k n))))) ds mc vs fq0:=n5.mono (Same.refl _) ds (Jk (fun x hx=>(Rl.own ds n5 x hx).1) n7)
      obtain ⟨fq',y1,y2,y3⟩:=rl'.setAt (d:= .int (fo k n)) (v:= .int (fo k n)) (fd:= []) hj ⟨rfl,rfl⟩
      obtain ⟨d9,fp9,u1,u2,u3,u4⟩:=n10 (vs.set j.toNat (.int (fo k n))) (ds.set j.toNat (.int (fo k n))) fq' [] y1 (by rw [List.length_set];exact hl) (by rw [List.append_nil];exact y2 n6) (fun x hx=>by
       rw [List.append_nil] at hx
       exact .inl (by simpa using y3 x hx))
      rw [e5] at u1;cases u1
      have sAll:Stp B H fp B1 H1 fpB:=by
       have s2:Stp B H (fi++fr) B1 H1 (fi++fp1):=(s1.less fun x hx=>by simpa using hx).frame fi
       refine (s2.more fun x hx=>(h5 x).mp hx).less fun x hx=>?_
       exact b3 x hx
      exact q4 σ B1 _ fp9 (sAll.trans (by simpa using u2)) u3 hp
    | _=>cases e4
  | _=>exact q2.elim
 | _=>exact q1.elim
end
section
variable {X:Cx} {w:Wh} {z:Ws} {μ μ' μ1 μ2:List Mode} {e a b c o:Expr} {es:List Expr} {f f':Gam→Rz D} {m m' m1 m2 m3:Mode} {pos:Pos} {i:Nat} {x:Str} {g:Gam→Option (List Sel)} {p q:Gam→Option Int}
theorem Rl.erase {K:Zf} {B H:Hp}:∀{ds:List D} {m:Mode} {vs:List V} {fp:List Addr} {k:Nat} {d:D},Rl K B H ds m vs fp→ds[k]? =some d→∃v fd fq,vs[k]? =some v∧R K B H d m v fd∧Rl K B H (ds.eraseIdx k) m (vs.eraseIdx k) fq∧(fp.Nodup→(fq++fd).Nodup)∧∀a∈fq++fd,a∈fp
 | d0::ds,m,vs,fp,0,d,h,e=>by
  obtain ⟨v,r,fp1,fp2,rfl,h1,h2,rfl⟩:=h
  have z:d0=d:=by simpa using e
  subst z
  refine ⟨v,fp1,fp2,rfl,h1,h2,fun n=>?_,fun a ha=>?_⟩
  ·have n':=J0.mp n
   exact J0.mpr ⟨n'.2.1,n'.1,fun x hx hy=>n'.2.2 x hy hx⟩
  ·rcases Zp.mp ha with ha | ha
   ·exact Zr _ ha
   ·exact Zl _ ha
 | d0::ds,m,vs,fp,k + 1,d,h,e=>by
  obtain ⟨v,r,fp1,fp2,rfl,h1,h2,rfl⟩:=h
  obtain ⟨u,fd,fq,q1,q2,q3,q4,q5⟩:=Rl.erase (k:=k) h2 (by simpa using e)
  refine ⟨u,fd,fp1++fq,by simpa using q1,q2,⟨v,r.eraseIdx k,fp1,fq,rfl,h1,q3,rfl⟩,fun n=>?_,fun a ha=>?_⟩
  ·have n':=J0.mp n
   have n2:=J0.mp (q4 n'.2.1)
   refine J0.mpr ⟨J0.mpr ⟨n'.1,n2.1,fun x hx hy=>n'.2.2 x hx (q5 x (Zl _ hy))⟩,n2.2.1,fun x hx hy=>?_⟩
   rcases Zp.mp hx with hx | hx
   ·exact n'.2.2 x hx (q5 x (Zr _ hy))
   ·exact n2.2.2 x hx hy
  ·rcases Zp.mp ha with ha | ha
   ·rcases Zp.mp ha with ha | ha
    ·exact Zl _ ha
    ·exact Zr _ (q5 a (Zl _ ha))
   ·exact Zr _ (q5 a (Zr _ ha))
 | [],m,vs,fp,k,d,h,e=>by simp at e
noncomputable def J2q:List D→List D→List D
 | x::xs,y::ys=> .tup [x,y]::J2q xs ys
 | _,_=> []
theorem J7h:∀{xs ys:List D} {i:Nat} {d:D},(J2q xs ys)[i]? =some d→∃x y,xs[i]? =some x∧ys[i]? =some y∧d= .tup [x,y]
 | x::xs,y::ys,0,d,h=>⟨x,y,rfl,rfl,by simpa [J2q] using h.symm⟩
 | x::xs,y::ys,i + 1,d,h=>by
  obtain ⟨u,v,h1,h2,h3⟩:=J7h (xs:=xs) (ys:=ys) (i:=i) (by simpa [J2q] using h)
  exact ⟨u,v,by simpa using h1,by simpa using h2,h3⟩
 | [],ys,i,d,h=>by simp [J2q] at h
 | _::_,[],i,d,h=>by simp [J2q] at h
theorem J2b:∀{xs ys:List D},(J2q xs ys).length=min xs.length ys.length
 | [],_=>by simp [J2q]
 | _::_,[]=>by simp [J2q]
 | x::xs,y::ys=>by
  simp only [J2q,List.length_cons,J2b (xs:=xs) (ys:=ys)]
  omega
theorem J5k {K:Zf} {B1 H1 B0 H0:Hp} {T:Addr} {x y:V} {d e:D} (s1:Same B0 B1) (s2:Lies K B1 H1) (hT:H1 T=none) (r1:R K B0 H0 d .F x []) (r2:R K B0 H0 e .F y []):
  ∃fpx,Stp B1 H1 [] B1 (upd H1 T (.tup [x,y])) fpx∧Lies K B1 (upd H1 T (.tup [x,y]))∧R K B1 (upd H1 T (.tup [x,y])) (.tup [d,e]) (.O .F) (.ref T) fpx∧fpx.Nodup:=by
 have bT:B1 T=none:=by
  cases e:B1 T with
  | none=>rfl
  | some o=>rw [s2.free hT] at e;cases e
 refine ⟨[T],⟨Same.refl _,fun a o _ q=> .inl (by rw [upd_ne (ne_of_none q hT)];exact q),fun a h=> .inr (by rw [List.mem_singleton.mp h];exact hT),fun a o q=> .inl q⟩,J25 s2 hT,?_,by simp⟩
 exact ⟨T,[x,y],[],rfl,bT,upd_same,by show 2≤sizeLine;decide,⟨x,[y],[],[],rfl,r1.mono s1 d Kept.nil,⟨y,[],[],[],rfl,r2.mono s1 e Kept.nil,⟨rfl,rfl⟩,rfl⟩,rfl⟩,rfl⟩
theorem Jn5 {K:Zf} {B H:Hp} {a b:Addr} {us vs:List V} {ds es:List D} (ha:SqL K B a us) (hb:SqL K B b vs) (hl:ds.length≤sizeLine) (r1:Rl K B H ds .F us []) (r2:Rl K B H es .F vs []):ItR K (Itz K a b) B (.O .F) (J2q ds es):=⟨by rw [J2b];omega,fun i B1 H1 s1 s2=>by
 have a2:SqL K H1 a us:=(s2).sqL ((s1).sqL ha)
 have b2:SqL K H1 b vs:=(s2).sqL ((s1).sqL hb)
 refine ⟨fun d e=>?_,fun h=>⟨us,vs,a2,b2,by rw [r1.len,r2.len];rw [J2b] at h;omega⟩⟩
 obtain ⟨x,y,e1,e2,rfl⟩:=J7h e
 obtain ⟨u,f1,q1⟩:=r1.get e1
 obtain ⟨v,f2,q2⟩:=r2.get e2
 refine ⟨⟨us,vs,u,v,a2,b2,f1,f2⟩,fun w H2 hy=>?_⟩
 obtain ⟨T,x',y',rfl,hT,rfl,g1,g2⟩:=hy
 have z1:=g1 us a2
 have z2:=g2 vs b2
 rw [f1] at z1;rw [f2] at z2
 cases z1;cases z2
 exact ⟨_,J5k s1 s2 hT q1 q2⟩⟩
theorem Jn6 {K:Zf} {B H:Hp} {a b:Addr} {us vs:List V} {ds es:List D} (ha:SqT K B a us) (hb:SqT K B b vs) (hl:ds.length≤sizeLine) (r1:Rl K B H ds .F us []) (r2:Rl K B H es .F vs []):ItR K (RZ.ItzT K a b) B (.O .F) (J2q ds es):=⟨by rw [J2b];omega,fun i B1 H1 s1 s2=>by
 have a2:SqT K H1 a us:=(s2).sqT ((s1).sqT ha)
 have b2:SqT K H1 b vs:=(s2).sqT ((s1).sqT hb)
 refine ⟨fun d e=>?_,fun h=>⟨us,vs,a2,b2,by rw [r1.len,r2.len];rw [J2b] at h;omega⟩⟩
 obtain ⟨x,y,e1,e2,rfl⟩:=J7h e
 obtain ⟨u,f1,q1⟩:=r1.get e1
 obtain ⟨v,f2,q2⟩:=r2.get e2
 refine ⟨⟨us,vs,u,v,a2,b2,f1,f2⟩,fun w H2 hy=>?_⟩
 obtain ⟨T,x',y',rfl,hT,rfl,g1,g2⟩:=hy
 have z1:=g1 us a2
 have z2:=g2 vs b2
 rw [f1] at z1;rw [f2] at z2
 cases z1;cases z2
 exact ⟨_,J5k s1 s2 hT q1 q2⟩⟩
noncomputable def Jb6:List D→Option (List D)
 | [.lst ds,.lst es]=>some (J2q ds es)
 | [.tup ds,.tup es]=>some (J2q ds es)
 | _=>none
theorem DI.zip {elts:List Expr} {kk:Nat} {tpos p0:Pos} {fa:Gam→Rz (List D)} (hg:Gl X "zip") (hm:X.mg "zip" =none) (ha:DA X w μ [a,b] fa [.F,.F] μ') (hs:starEach [a,b] X.env= (false,eval a X.env)::starEach [b] X.env) (hpl: (backTo pos (starEach [b] X.env)).any (·.1)=false):
  DI X w μ (.Tuple elts kk tpos) (.Call (.Name "zip" p0) [a,b] [] pos) (eNi Jb6 fa) (.O .F) μ':=by
 refine ⟨(RZ.pi_zipA hg hm ha.pa hs hpl).imp fun σ H Q ⟨B,Γ,fp,st,q⟩=>⟨B,Γ,fp,st,?_⟩⟩
 unfold eNi at q
 revert q
 cases fa Γ with
 | bad=>exact id
 | exc x Γ'=>exact id
 | ok xs Γ'=>
  intro q B' H' vs fpv fp' s st' r nd
  obtain ⟨x,y,u,v,f1,f2,rfl,rfl,r1,r2,rfl⟩:=r.two
  have z1:=r1.fpF
  have z2:=r2.fpF
  subst z1;subst z2
  cases x with
  | lst ds=>
   cases y with
   | lst es=>
    obtain ⟨_,p1,us,rfl,h1,hl,g1⟩:=r1
    obtain ⟨_,p2,ws,rfl,h2,hl2,g2⟩:=r2
    exact ⟨p1,p2,us,ws,rfl,.inl ⟨(st'.same).sqL h1,(st'.same).sqL h2,q B' H' _ fp' s st' (Jn5 h1 h2 hl g1 g2)⟩⟩
   | _=>exact q.elim
  | tup ds=>
   cases y with
   | tup es=>
    obtain ⟨_,p1,us,rfl,h1,hl,g1⟩:=r1
    obtain ⟨_,p2,ws,rfl,h2,hl2,g2⟩:=r2
    exact ⟨p1,p2,us,ws,rfl,.inr ⟨(st'.same).sqT h1,(st'.same).sqT h2,q B' H' _ fp' s st' (Jn6 h1 h2 hl g1 g2)⟩⟩
   | _=>exact q.elim
  | _=>exact q.elim
noncomputable def J2r (k:Nat):List D→List D
 | []=> []
 | d::ds=> .tup [.int (k:Nat),d]::J2r (k + 1) ds
theorem J34:∀{ds:List D} {k:Nat},(J2r k ds).length=ds.length
 | [],_=>rfl
 | d::ds,k=>by simp [J2r,J34]
theorem J86:∀{ds:List D} {k i:Nat} {d:D},(J2r k ds)[i]? =some d→∃x,ds[i]? =some x∧d= .tup [.int ((k + i:Nat):Int),x]
 | d0::ds,k,0,d,h=>⟨d0,rfl,by simpa [J2r] using h.symm⟩
 | d0::ds,k,i + 1,d,h=>by
  obtain ⟨x,h1,h2⟩:=J86 (ds:=ds) (k:=k + 1) (i:=i) (by simpa [J2r] using h)
  exact ⟨x,by simpa using h1,by rw [h2,Nat.add_assoc,Nat.add_comm 1 i]⟩
 | [],k,i,d,h=>by simp [J2r] at h
theorem Jn7 {K:Zf} {B H:Hp} {a:Addr} {us:List V} {ds:List D} (ha:SqL K B a us) (hl:ds.length≤sizeLine) (r1:Rl K B H ds .F us []):ItR K (Ite K a) B (.O .F) (J2r 0 ds):=⟨by rw [J34];exact hl,fun i B1 H1 s1 s2=>by
 have a2:SqL K H1 a us:=(s2).sqL ((s1).sqL ha)
 refine ⟨fun d e=>?_,fun h=>⟨us,a2,by rw [r1.len];rw [J34] at h;exact h⟩⟩
 obtain ⟨x,e1,rfl⟩:=J86 e
 obtain ⟨u,f1,q1⟩:=r1.get e1
 refine ⟨⟨us,u,a2,f1⟩,fun w H2 hy=>?_⟩
 obtain ⟨T,x',rfl,hT,rfl,g1⟩:=hy
 have z1:=g1 us a2
 rw [f1] at z1
 cases z1
 rw [Nat.zero_add]
 exact ⟨_,J5k (d:= .int ((i:Nat):Int)) s1 s2 hT ⟨rfl,rfl⟩ q1⟩⟩
noncomputable def Jrh:List D→Option (List D)
 | [.lst ds]=>some (J2r 0 ds)
 | _=>none
theorem DI.enum {elts:List Expr} {kk:Nat} {tpos p0:Pos} {fa:Gam→Rz (List D)} (hg:Gl X "enumerate") (hm:X.mg "enumerate" =none) (ha:DA X w μ [a] fa [.F] μ') (hs:starEach [a] X.env= [(false,eval a X.env)]):
  DI X w μ (.Tuple elts kk tpos) (.Call (.Name "enumerate" p0) [a] [] pos) (eNi Jrh fa) (.O .F) μ':=by
 refine ⟨(pi_enum hg hm ha.pa hs).imp fun σ H Q ⟨B,Γ,fp,st,q⟩=>⟨B,Γ,fp,st,?_⟩⟩
 unfold eNi at q
 revert q
 cases fa Γ with
 | bad=>exact id
 | exc x Γ'=>exact id
 | ok xs Γ'=>
  intro q B' H' vs fpv fp' s st' r nd
  obtain ⟨x,v,rfl,rfl,r1⟩:=r.one
  have z1:=r1.fpF
  subst z1
  cases x with
  | lst ds=>
   obtain ⟨_,p1,us,rfl,h1,hl,g1⟩:=r1
   exact ⟨p1,us,rfl,(st'.same).sqL h1,q B' H' _ fp' s st' (Jn7 h1 hl g1)⟩
  | _=>exact q.elim
noncomputable def μIn (n:Nat) (pm:List Mode):List Mode:=pm++List.replicate (n - pm.length) .U
noncomputable def μOut:List Bool→List Mode→Nat→List Mode
 | b::io,m::pm,n + 1=>(if b=true then m else .X)::μOut io pm n
 | _,_,n=>List.replicate n .X
noncomputable def J3j:List Bool→List V→List (Option V)
 | b::io,v::vs=>(if b=true then some v else none)::J3j io vs
 | _,_=> []
noncomputable def J45:List Bool→Gam→List (Option D)
 | b::io,g::Γ=>(if b=true then g else none)::J45 io Γ
 | _,_=> []
noncomputable def J21 (N:Nat) (io:List Bool) (fb:Gam→Sz) (ds:List D):Fo:=match fb (ds.map some++List.replicate (N - ds.length) none) with
 | .rt d Γ=> .ok d (J45 io Γ)
 | .nx Γ=> .ok .non (J45 io Γ)
 | .exc x Γ=> .exc x (J45 io Γ)
 | _=> .bad
theorem Jd8 {K:Zf} {B H:Hp}:∀{ds:List D} {pm:List Mode} {vs:List V} {fp:List Addr} {k:Nat},Ra K B H ds pm vs fp→StR K B H (ds.map some++List.replicate k none) (pm++List.replicate k .U) (vs.map some++List.replicate k none) fp
 | [],[],vs,fp,k,h=>by
  obtain ⟨rfl,rfl⟩:=h
  induction k with
  | zero=>rfl
  | succ k ih=>exact ⟨[],[],rfl,ih,rfl⟩
 | d::ds,m::pm,vs,fp,k,h=>by
  obtain ⟨v,r,fp1,fp2,rfl,h1,h2,rfl⟩:=h
  exact ⟨fp1,fp2,.inr ⟨v,rfl,h1⟩,Jd8 h2,rfl⟩
 | [],_::_,_,_,_,h=>h.elim
 | _::_,[],_,_,_,h=>h.elim
theorem Ja7 {K:Zf} {B H:Hp}:∀{io:List Bool} {pm:List Mode} {vs:List V} {n:Nat} {Γ:Gam} {σ:St} {fp:List Addr},io.length=pm.length→vs.length=pm.length→pm.length≤n→StR K B H Γ (μOut io pm n) σ fp→PinOk (J3j io vs) σ→Ro K B H (J45 io Γ) pm vs fp
 | [],[],vs,n,Γ,σ,fp,h1,h2,h3,h,p=>by
  have e1:vs= []:=List.length_eq_zero_iff.mp h2
  subst e1
  have z:fp= []:=by
   have h':StR K B H Γ (List.replicate n .X) σ fp:=by
    cases n <;> exact h
   clear h p h3
   induction n generalizing Γ σ fp with
   | zero=>
    match Γ,σ,h' with
    | [],[],h'=>exact h'
    | [],_::_,h'=>exact h'.elim
    | _::_,_,h'=>exact h'.elim
   | succ n ih=>
    match Γ,σ,h' with
    | g::Γ,s::σ,h'=>
     obtain ⟨f1,f2,q1,q2,rfl⟩:=h'
     rw [ih _ _ _ q2,q1.flat rfl];rfl
    | [],_,h'=>exact h'.elim
    | _::_,[],h'=>exact h'.elim
  subst z
  show Ro K B H [] [] [] []
  exact ⟨rfl,rfl⟩
 | b::io,m::pm,v::vs,n + 1,Γ,σ,fp,h1,h2,h3,h,p=>by
  match Γ,σ,h with
  | g::Γ,s::σ,h=>
   obtain ⟨f1,f2,q1,q2,rfl⟩:=h
   have ih:=Ja7 (io:=io) (pm:=pm) (vs:=vs) (n:=n) (Nat.succ.inj h1) (Nat.succ.inj h2) (Nat.le_of_succ_le_succ h3) q2 fun i u hp=>by
    have:=p (i + 1) u (by simpa [J3j] using hp)
    simpa using this
   cases b with
   | true=>
    have es:s=some v:=by
     have:=p 0 v rfl
     simpa using this
    subst es
    exact ⟨v,vs,f1,f2,rfl,q1,ih,rfl⟩
   | false=>
    have z:f1= []:=q1.flat rfl
    subst z
    exact ⟨v,vs,[],f2,rfl,rfl,ih,rfl⟩
  | [],_,h=>exact h.elim
  | _::_,[],h=>exact h.elim
 | [],_::_,_,_,_,_,_,h1,_,_,_,_=>by cases h1
 | _::_,[],_,_,_,_,_,h1,_,_,_,_=>by cases h1
 | _::_,_::_,[],_,_,_,_,_,h2,_,_,_=>by cases h2
 | _::_,_::_,_::_,0,_,_,_,_,_,h3,_,_=>by cases h3
theorem Jhl {io:List Bool} {vs:List V} {k:Nat}:PinOk (J3j io vs) (vs.map some++List.replicate k none):=by
 induction io generalizing vs with
 | nil=>exact fun i v h=>by cases vs <;> simp [J3j] at h
 | cons b io ih=>
  cases vs with
  | nil=>exact fun i v h=>by simp [J3j] at h
  | cons v vs=>
   intro i u h
   cases i with
   | zero=>
    cases b with
    | true=>simp [J3j] at h;simp [h]
    | false=>simp [J3j] at h
   | succ i=>
    have:=ih (vs:=vs) i u (by simpa [J3j] using h)
    simpa using this
theorem Jn8 {K:Zf} {pm:List Mode} {rm:Mode} {F G:List D→Fo} (h:∀ds,G ds≠ .bad→F ds=G ds) (vs:List V) (H:Hp) (Q:VK) (E:XK) (q:spD K pm rm G vs H Q E):spD K pm rm F vs H Q E:=by
 obtain ⟨B,ds,fp,sm,ra,nd,q⟩:=q
 refine ⟨B,ds,fp,sm,ra,nd,?_⟩
 have e:F ds=G ds:=h ds fun z=>by rw [z] at q;exact q
 rw [e];exact q
end
section
variable {K:Zf} {B H:Hp}
theorem Jd9 {n:Str} {v:V}:∀{ns:List Str} {vs:List V},ns.length=vs.length→n∉ns→putF n v (ns.zip vs)= (ns++ [n]).zip (vs++ [v])
 | [],[],_,_=>rfl
 | [],_::_,h,_=>by cases h
 | _::_,[],h,_=>by cases h
 | x::ns,u::vs,h,hn=>by
  show (if x=n then (x,v)::ns.zip vs else (x,u)::putF n v (ns.zip vs))= (x,u):: (ns++ [n]).zip (vs++ [v])
  have hx:x≠n:=fun z=>hn (by rw [← z];exact Zs)
  rw [if_neg hx,Jd9 (Nat.succ.inj h) fun z=>hn (Zc _ z)]
noncomputable def Jkc (k n:Str):D→Option D
 | .obj c ns ds=>if c=k then (fIx ns n).bind fun j=>ds[j]? else none
 | _=>none
theorem R.fldF {d c:D} {k n:Str} {v:V} {fp:List Addr} (r:R K B H d .F v fp) (e:Jkc k n d=some c):∃a dx fs u,v= .ref a∧B a=some (.ins (He.ga K k) dx fs)∧fs.lookup n=some u∧R K B H c .F u []:=by
 cases d with
 | obj c0 ns ds=>
  obtain ⟨_,a,dx,vs,rfl,ha,hl,hr⟩:=r
  have e': (if c0=k then (fIx ns n).bind fun j=>ds[j]? else none)=some c:=e
  by_cases hk:c0=k
  case neg=>rw [if_neg hk] at e';cases e'
  subst hk
  rw [if_pos rfl] at e'
  cases q:fIx ns n with
  | none=>rw [q] at e';cases e'
  | some j=>
   rw [q] at e'
   have e2:ds[j]? =some c:=e'
   obtain ⟨u,fq,h1,h2,_⟩:=hr.focus e2
   have z:=h2.fpF
   subst z
   exact ⟨a,dx,_,u,rfl,ha,J3i q h1,h2⟩
 | _=>cases e
end
section
variable {X:Cx} {w:Wh} {μ μ' μ1 μ2 μ3:List Mode} {e a b o:Expr} {es:List Expr} {f fo:Gam→Rz D} {m m':Mode} {pos:Pos} {fa fb:Gam→Rz (List D)} {ms ms':List Mode} {kws:List Keyword} {ks:List Str}
theorem DE.fld {k n:Str} (h:DE X w μ o f .F μ') (hc:Cls X.K (He.ga X.K k)) (hn:NoAttr X.K (He.ga X.K k) n) (hb:attributeBase o n X.env (eval o X.env)=eval o X.env):DE X w μ (.Attribute o n pos) (e1 (Jkc k n) f) .F μ':=
 ⟨(pe_fld h.pe hb).imp fun σ H Q ⟨B,Γ,fp,st,q⟩=>⟨B,Γ,fp,st,by
  unfold e1 at q
  revert q
  cases f Γ with
  | bad=>exact id
  | exc x Γ'=>exact id
  | ok d Γ'=>
   intro q B1 H1 v fpv fp1 s1 st1 r nd
   simp only [Rz.bind] at q
   cases e:Jkc k n d with
   | none=>rw [e] at q;exact q.elim
   | some c=>
    rw [e] at q
    obtain ⟨a,dx,fs,u,rfl,ha,hl,r2⟩:=r.fldF e
    have z:=r.fpF
    subst z
    exact ⟨a,_,dx,fs,u,rfl,st1.same.get ha,hc,hn,hl,q B1 H1 u [] fp1 s1 st1 r2 nd⟩⟩⟩
section
variable {CX:CXT} {k n:Nat} {C f:Addr} {fd:FuncData} {ps:List Str} {sp:Sp} {dvs:List V} {ds:List Value} {E:St→XK} {x m:Str} {p apos:Pos} {ta:TE} {t tk:TA}
end
theorem tD.mono {K:Zf} {σ:St} {H:Hp} {Q Q':VK} (q:tD K w μ f m μ' σ H Q) (i:∀v H,Q v H→Q' v H):tD K w μ f m μ' σ H Q':=by
 obtain ⟨B,Γ,fp,st,q⟩:=q
 refine ⟨B,Γ,fp,st,?_⟩
 revert q
 cases f Γ with
 | bad=>exact id
 | exc x Γ'=>exact id
 | ok d Γ'=>exact fun q B' H' v fpv fp' s st r n=>i _ _ (q B' H' v fpv fp' s st r n)
theorem tDA.mono {K:Zf} {σ:St} {H:Hp} {Q Q':List V→Hp→Prop} (q:tDA K w μ fa ms μ' σ H Q) (i:∀v H,Q v H→Q' v H):tDA K w μ fa ms μ' σ H Q':=by
 obtain ⟨B,Γ,fp,st,q⟩:=q
 refine ⟨B,Γ,fp,st,?_⟩
 revert q
 cases fa Γ with
 | bad=>exact id
 | exc x Γ'=>exact id
 | ok d Γ'=>exact fun q B' H' v fpv fp' s st r n=>i _ _ (q B' H' v fpv fp' s st r n)
theorem Jaz.da {K:Zf} {σ:St} {H:Hp} {Q:List V→Hp→Prop} (q:Jaz K w μ fa ms [] μ' σ H Q):tDA K w μ fa ms μ' σ H Q:=by
 obtain ⟨B,Γ,fp,st,q⟩:=q
 refine ⟨B,Γ,fp,st,?_⟩
 revert q
 cases fa Γ with
 | bad=>exact id
 | exc x Γ'=>exact id
 | ok xs Γ'=>exact fun q B' H' vs fpv fp' s st r n=>q B' H' vs fpv fp' s st r n fun _ h=>nomatch h
section
variable {F:List D→Fo} {pm:List Mode} {rm:Mode} {dds:List D} {dms:List Mode} {dvs:List V} {ds:List Value} {k n:Nat} {fad:Addr} {fd:FuncData} {ps:List Str} {c m:Str} {apos:Pos} {pl:Sem Bool}
end
noncomputable def spX (K:Zf) (pm om xm:List Mode) (rm:Mode) (F:List D→Fo):Sp:=fun vs H Q E=>∃B ds fp,Lies K B H∧Ra K B H ds pm vs fp∧fp.Nodup∧match F ds with
 | .ok d io=>∀B' H' v fpv fp',Stp B H fp B' H' (fpv++fp')→Lies K B' H'→R K B' H' d rm v fpv→Ro K B' H' io om vs fp'→(fpv++fp').Nodup→Q v H'
 | .exc x io=>∀B' H' fpe fp' cls dd,Stp B H fp B' H' (fpe++fp')→Lies K B' H'→J6h K B' H' x cls dd fpe→Ro K B' H' io xm vs fp'→(fpe++fp').Nodup→E cls dd H'
 | .bad=>False
noncomputable def Jfz (c:Str) (F:List D→Fo) (dds:List D) (fa:Gam→Rz (List D)) (Γ:Gam):Rz D:=(fa Γ).bind fun ds Γ1=>match F (.obj c [] []::ds++dds) with
 | .ok .non (some o::_)=> .ok o Γ1
 | .exc x _=> .exc x Γ1
 | _=> .bad
noncomputable def Jn9 (C:Addr) (sp:Sp) (dvs:List V) (E:St→XK) (t:TA):TE:=fun σ H Q=>t σ H fun vs H1=>∀x dx,H1 x=none→H1 dx=none→dx≠x→
 sp (.ref x::vs++dvs) (upd (upd H1 dx (.own x)) x (.ins C dx [])) (fun v H3=>v= .non∧Q (.ref x) H3) (E σ)
section
variable {CX:CXT} {k n:Nat} {C f:Addr} {fd:FuncData} {ps:List Str} {sp:Sp} {dvs:List V} {ds:List Value} {E:St→XK} {x:Str} {p:Pos} {t tk:TA}
theorem Jhm {pins:List (Addr × Obj)} {σ:St} {H:Hp} {s:Shared} {Q:VK} {us ws rs:List Value} {vs:List V} (M:Mk X.K C f) (F:FnOk X.prog X.w X.K X.mg X.base CX k f fd ps sp) (hr:Room (k + 1) X.A) (hx:PassesAt CX X σ (E σ))
  (hb:∀ (s:Shared) (x:Value),X.K.In s.heap→BindsTo s fd ⟨x::us,ks.zip ws⟩ (ps.zip (x::rs)))
  (I:Inv X pins σ H s) (r:Vals vs rs)
  (h:∀x dx,H x=none→H dx=none→dx≠x→sp (.ref x::vs) (upd (upd H dx (.own x)) x (.ins C dx [])) (fun v H2=>v= .non∧Q (.ref x) H2) (E σ)):
  wpAny (model X.prog X.w) X.A (call (.ref C) us (ks.zip ws)) (EP X pins σ Q) X.xe s:=by
 have hq:=h (s.heap.objs.size + 1) s.heap.objs.size (I.hok.fresh (Nat.le_succ _)) (I.hok.fresh (Nat.le_refl _)) (Nat.ne_of_lt (Nat.lt_succ_self _))
 have I2:=Inv.made (C:=C) I
 refine wpAny_call (make_map (f:=f) I.kIn M.makes M.init (beq_iff_eq.mp M.fn) (codeAny_mono (F.run _ X.stack _ _ ⟨Value.ref (s.heap.objs.size + 1)::us,ks.zip ws⟩ (Value.ref (s.heap.objs.size + 1)::rs) (V.ref (s.heap.objs.size + 1)::vs) _ (E σ) (hr.make C us (ks.zip ws))
  (I2.env0.make C us (ks.zip ws)) (hb _ _ I2.kIn) (.cons rfl r) hq) fun r s' hq'=>?_))
 cases r with
 | error e=>exact hx pins _ _ e s' I2 hq'
 | ok fl=>
  cases fl with
  | ret u=>
   obtain ⟨v,H',I3,rv,ev,q3⟩:=I2.after hq'
   subst ev
   exact ⟨rv,⟨V.ref (s.heap.objs.size + 1),H',I3,rfl,q3⟩⟩
  | next=>exact False.elim hq'
  | brk=>exact False.elim hq'
  | cont=>exact False.elim hq'
theorem Jhn (M:Mk X.K C f) (F:FnOk X.prog X.w X.K X.mg X.base CX k f fd ps sp) (hr:Room (k + 1) X.A) (hg:Gl X x) (hm:X.mg x=some (.ref C)) (hb:Binds X.K fd ps ds) (hd:Vals dvs ds) (hx:∀σ,PassesAt CX X σ (E σ)) (hl:∀vs H Q E,sp vs H Q E→vs.length=ps.length)
  (ha:PA X (e::es) t) (hdb: (x == ("__debug__" :Str))=false) (he:starEach (e::es) X.env= (false,eval e X.env)::starEach es X.env) (hpl: (backTo pos (starEach es X.env)).any (·.1)=false):
  PE X (.Call (.Name x p) (e::es) [] pos) (Jn9 C sp dvs E t):=by
 refine ⟨fun pins s σ H Q I h=>?_⟩
 refine wpAny_Call_Name_kw (ld_glob I hg hm ?_ hdb)
 refine PySem.W.callWith_K (h₀:=X.base) I.ok.mod.kin M.kp (thn (ha.run pos pins s σ H _ I h) fun us s1 ⟨vs,H1,I1,r,q⟩=>⟨I1.kIn,?_⟩) he hpl
 have len:∀x:Value,(x::us++ds).length=ps.length:=fun x=>by
  have q0:=hl _ _ _ _ (q (s1.heap.objs.size + 1) s1.heap.objs.size (I1.hok.fresh (Nat.le_succ _)) (I1.hok.fresh (Nat.le_refl _)) (Nat.ne_of_lt (Nat.lt_succ_self _)))
  have e1:=(r.append hd).length
  simp only [List.length_cons,List.length_append] at q0 e1 ⊢
  omega
 exact Jhm (ks:= []) (ws:= []) (rs:=us++ds) M F hr (hx σ) (fun s' x hk=>hb s' (x::us) hk (len x)) I1 (r.append hd) q
end
theorem Jna {K:Zf} {c:Str} {F:List D→Fo} {pm om0 xm:List Mode} {om:Mode} {dds:List D} {dms:List Mode} {dvs:List V} {σ:St} {H:Hp} {Q:VK} (hdef:∀B H,Ra K B H dds dms dvs []) (hpm:pm=ms++dms) (hom:nX om) (wk:J6 μ1 w.μx=true)
  (q:tD K w μ (Jfz c F dds fa) om μ1 σ H Q):tDA K w μ fa ms μ1 σ H fun vs H1=>∀x dx,H1 x=none→H1 dx=none→dx≠x→
   spX K (.B0::pm) (om::om0) xm .Z F (.ref x::vs++dvs) (upd (upd H1 dx (.own x)) x (.ins (He.ga K c) dx [])) (fun v H2=>v= .non∧Q (.ref x) H2) (WE w.W σ):=by
 obtain ⟨B,Γ,fp,st,q⟩:=q
 refine ⟨B,Γ,fp,st,?_⟩
 unfold Jfz at q
 cases e1:fa Γ with
 | bad=>rw [e1] at q;exact q.elim
 | exc x Γ'=>rw [e1] at q;exact q
 | ok ds Γ1=>
  rw [e1] at q
  intro B1 H1 vs fv fp1 s1 st1 r1 n1 x dx nx ndx ne
  simp only [Rz.bind] at q
  have bx:B1 x=none:=by
   cases e:B1 x with
   | none=>rfl
   | some o=>rw [st1.same.free nx] at e;cases e
  have bdx:B1 dx=none:=by
   cases e:B1 dx with
   | none=>rfl
   | some o=>rw [st1.same.free ndx] at e;cases e
  let H2:Hp:=upd (upd H1 dx (.own x)) x (.ins (He.ga K c) dx [])
  have hx2:H2 x=some (.ins (He.ga K c) dx []):=upd_same
  have hdx2:H2 dx=some (.own x):=by
   show upd (upd H1 dx (.own x)) x (.ins (He.ga K c) dx []) dx=_
   rw [upd_ne ne,upd_same]
  have keep:∀a o,H1 a=some o→H2 a=some o:=fun a o e=>by
   show upd (upd H1 dx (.own x)) x (.ins (He.ga K c) dx []) a=some o
   rw [upd_ne (fun z=>by subst z;rw [nx] at e;cases e),upd_ne (fun z=>by subst z;rw [ndx] at e;cases e)]
   exact e
  have sm2:Lies K B1 H2:=st1.same.ext keep
  have n:=J0.mp n1
  have outx:∀l:List Addr,(∀a∈l,∃o,H1 a=some o)→x∉l∧dx∉l:=fun l h=>⟨(fun z=>by obtain ⟨o,e⟩:=h x z;rw [nx] at e;cases e),(fun z=>by obtain ⟨o,e⟩:=h dx z;rw [ndx] at e;cases e)⟩
  have ownv:∀a∈fv,B1 a=none∧∃o,H1 a=some o:=fun a h=>Ra.own r1 a h
  have ownf:∀a∈fp1,B1 a=none∧∃o,H1 a=some o:=fun a h=>st1.st.own a h
  have ov:=outx fv fun a h=>(ownv a h).2
  have of_:=outx fp1 fun a h=>(ownf a h).2
  have k2:∀l:List Addr,(∀a∈l,B1 a=none)→Kept B1 H1 H2 l:=fun l h a ha=>⟨fun o e=>keep a o e,h a ha⟩
  have ra:Ra K B1 H2 (.obj c [] []::ds++dds) (.B0::pm) (.ref x::vs++dvs) (x::dx::fv):=by
   have r2:Ra K B1 H2 ds ms vs fv:=r1.mono (Same.refl _) (k2 fv fun a h=>(ownv a h).1)
   have r3:=r2.append (hdef B1 H2)
   rw [List.append_nil] at r3
   rw [hpm]
   exact ⟨.ref x,vs++dvs,[x,dx],fv,rfl,⟨x,dx,rfl,rfl,rfl,bx,bdx,hx2,hdx2,rfl⟩,r3,rfl⟩
  have nd2: (x::dx::fv).Nodup:=List.nodup_cons.mpr ⟨fun z=>by
   rcases Zo.mp z with z | z
   ·exact ne z.symm
   ·exact ov.1 z,List.nodup_cons.mpr ⟨ov.2,n.1⟩⟩
  refine ⟨B1,.obj c [] []::ds++dds,x::dx::fv,sm2,ra,nd2,?_⟩
  -- from the new object on
  have step:∀{B' H':Hp} {l:List Addr},Stp B1 H2 (x::dx::fv) B' H' l→Stp B H fp B' H' (l++fp1)∧StR K B' H' Γ1 μ1 σ fp1∧∀a∈l,a∉fp1:=fun {B' H' l} s=>by
   have s12:Stp B1 H1 fv B1 H2 (x::dx::fv):=⟨Same.refl _,fun a o _ e=> .inl (keep a o e),fun a h=>by
    rcases Zo.mp h with rfl | h
    ·exact .inr nx
    rcases Zo.mp h with rfl | h
    ·exact .inr ndx
    ·exact .inl h,fun a o e=> .inl e⟩
   have sa:=s12.trans s
   refine ⟨?_,st1.st.mono sa.base (sa.kept (K:=K) ownf fun a h q=>n.2.2 a q h),fun a h q=>?_⟩
   ·have:=sa.more (fp2:=fv++fp1) fun a h=>Zl _ h
    refine s1.trans ⟨this.base,this.keep,fun a h=>?_,this.new⟩
    rcases Zp.mp h with h | h
    ·exact this.own a h
    ·exact .inl (Zr _ h)
   ·rcases sa.own a h with z | z
    ·exact n.2.2 a z q
    ·obtain ⟨_,o,e⟩:=ownf a q
     rw [e] at z;cases z
  have excG:∀ (y:Xc),J18 K w B H fp σ y Γ1→∀ (io:List (Option D)) (B' H':Hp) (fpe fp':List Addr) (cls:Value) (dd:Option Addr),Stp B1 H2 (x::dx::fv) B' H' (fpe++fp')→Lies K B' H'→J6h K B' H' y cls dd fpe→Ro K B' H' io xm (.ref x::vs++dvs) fp'→(fpe++fp').Nodup→WE w.W σ cls dd H':=fun y q io B' H' fpe fp' cls dd s sm ex ro nd=>by
   obtain ⟨t1,t2,t3⟩:=step s
   have nn:=J0.mp nd
   have st3:Sta K B' H' Γ1 μ1 σ fp1:=⟨sm,t2,n.2.1⟩
   have ownE:∀a∈fpe,B' a=none∧∃o,H' a=some o:=fun a h=>by
    obtain ⟨_,d,fs,vs,fq,_,b0,hd,r,_,_,rfl⟩:=ex
    rcases Zo.mp h with rfl | h
    ·exact ⟨b0,_,hd⟩
    ·exact Rl.own y.ds r a h
   have djx:∀a∈fpe,a∉fp1:=fun a h z=>t3 a (Zl _ h) z
   obtain ⟨B3,fy,s3,st4,k3⟩:=st3.weak (l:=fpe) wk ownE djx
   have t4:Stp B H fp B' H' (fpe++fp1):=t1.less fun a h=>by
    rcases Zp.mp h with h | h
    ·exact Zl _ (Zl _ h)
    ·exact Zr _ h
   exact q B3 H' fpe fy cls dd (t4.seq s3) st4 (ex.rebase fun a h=>(k3 a h).2) (J0.mpr ⟨nn.1,st4.nd,s3.apart (fun a h=>(ownE a h).2) djx⟩)
  cases e2:F (.obj c [] []::ds++dds) with
  | bad=>rw [e2] at q;exact q.elim
  | exc y io=>
   rw [e2] at q
   exact fun B' H' fpe fp' cls dd s sm ex ro nd=>excG y q _ B' H' fpe fp' cls dd s sm ex ro nd
  | ok d io=>
   rw [e2] at q
   cases d with
   | non=>
    cases io with
    | nil=>exact q.elim
    | cons g io=>
     cases g with
     | none=>exact q.elim
     | some o=>
      intro B' H' v fpv fp' s sm rv ro nd
      obtain ⟨rfl,rfl⟩:=rv
      obtain ⟨u,rr,f1,f2,e3,sl,ro2,rfl⟩:=ro
      have e4:u=V.ref x:=by
       have:=(List.cons.inj e3).1
       exact this.symm
      subst e4
      refine ⟨rfl,?_⟩
      rcases sl with sl | sl | ⟨v',e5,ro⟩
      ·exact absurd sl.1 hom.1
      ·exact absurd sl.1 hom.2
      ·cases e5
       obtain ⟨t1,t2,t3⟩:=step s
       have nn:=J0.mp nd
       have nf:=J0.mp nn.2.1
       refine q B' H' (.ref x) f1 fp1 (t1.less fun a h=>?_) ⟨sm,t2,n.2.1⟩ ro (J0.mpr ⟨nf.1,n.2.1,fun a h z=>t3 a (by simp [h]) z⟩)
       rcases Zp.mp h with h | h
       ·exact Zl _ (by simp [h])
       ·exact Zr _ h
   | _=>exact q.elim
section
variable {F:List D→Fo} {pm om0 xm:List Mode} {om:Mode} {dds:List D} {dms:List Mode} {dvs:List V} {ds:List Value} {k n:Nat} {fad:Addr} {fd:FuncData} {ps:List Str} {c:Str} {p:Pos}
theorem DE.make (G:FnOk X.prog X.w X.K X.mg X.base (L2.CX X.prog X.w) k fad fd ps (spX X.K (.B0::pm) (om::om0) xm .Z F)) (hr:Room (k + 1) X.A) (M:Mk X.K (He.ga X.K c) fad) (hg:Gl X c) (hm:X.mg c=some (.ref (He.ga X.K c))) (hb:Binds X.K fd ps ds) (hd:Vals dvs ds) (tk:Takes X w.W)
  (hdef:∀B H,Ra X.K B H dds dms dvs []) (hpm:pm=ms++dms) (hom:nX om) (wk:J6 μ1 w.μx=true) (ha:DA X w μ (e::es) fa ms μ1) (hdb: (c == ("__debug__" :Str))=false) (he:starEach (e::es) X.env= (false,eval e X.env)::starEach es X.env) (hpl: (backTo pos (starEach es X.env)).any (·.1)=false):
  DE X w μ (.Call (.Name c p) (e::es) [] pos) (Jfz c F dds fa) om μ1:=
 ⟨(Jhn M G hr hg hm hb hd (fun σ=>passAt tk σ) G.len ha.pa hdb he hpl).imp fun σ H Q q=>Jna hdef hpm hom wk q⟩
end
end
noncomputable def J6k:Mode→Str→Mode→Option Mode
 | .B0,n,k=>some (.B n k .B0)
 | .B a b r,n,k=>(J6k r n k).map (.B a b)
 | _,_,_=>none
theorem Rf.snoc {K:Zf} {B H:Hp} {n:Str} {y:D} {my:Mode} {v:V} {fpv:List Addr} (ry:R K B H y my v fpv):∀{ns:List Str} {ds:List D} {M M':Mode} {vs:List V} {fq:List Addr},Rf K B H ns ds M vs fq→J6k M n my=some M'→Rf K B H (ns++ [n]) (ds++ [y]) M' (vs++ [v]) (fq++fpv)
 | [],[],M,M',vs,fq,h,e=>by
  obtain ⟨rfl,rfl,rfl⟩:=h
  cases e
  exact ⟨rfl,v,[],fpv,[],rfl,ry,⟨rfl,rfl,rfl⟩,by simp⟩
 | m::ns,d::ds,M,M',vs,fq,h,e=>by
  cases M with
  | B n' k r=>
   obtain ⟨e1,u,vr,f1,f2,rfl,h1,h2,rfl⟩:=h
   have e': (J6k r n my).map (.B n' k)=some M':=e
   cases e2:J6k r n my with
   | none=>rw [e2] at e';cases e'
   | some r'=>
    rw [e2] at e';cases e'
    exact ⟨e1,u,vr++ [v],f1,f2++fpv,rfl,h1,Rf.snoc ry h2 e2,by simp⟩
  | _=>exact h.elim
 | [],_::_,M,_,_,_,h,_=>by cases M <;> exact h.elim
 | _::_,[],M,_,_,_,h,_=>by cases M <;> exact h.elim
theorem R.open_ {K:Zf} {B H:Hp} {c:Str} {ns:List Str} {ds:List D} {M M' my:Mode} {n:Str} {v:V} {fp:List Addr} (h:R K B H (.obj c ns ds) M v fp) (e:J6k M n my=some M'):∃a dx vs fq,v= .ref a∧B a=none∧B dx=none∧H a=some (.ins (He.ga K c) dx (J1o ns vs))∧H dx=some (.own a)∧ns.length=ds.length∧Rf K B H ns ds M vs fq∧fp=a::dx::fq:=by
 cases M with
 | B n' k r=>exact h
 | B0=>
  obtain ⟨a,dx,rfl,rfl,rfl,b0,b1,ha,hx,rfl⟩:=h
  exact ⟨a,dx,[],[],rfl,b0,b1,ha,hx,rfl,⟨rfl,rfl,rfl⟩,rfl⟩
 | _=>cases e
theorem Rf.len {K:Zf} {B H:Hp}:∀{ns:List Str} {ds:List D} {M:Mode} {vs:List V} {fq:List Addr},Rf K B H ns ds M vs fq→ns.length=vs.length
 | [],[],M,vs,fq,h=>by rw [h.2.1];rfl
 | m::ns,d::ds,M,vs,fq,h=>by
  cases M with
  | B n' k r=>
   obtain ⟨e1,u,vr,f1,f2,rfl,h1,h2,rfl⟩:=h
   simp [Rf.len h2]
  | _=>exact h.elim
 | [],_::_,M,_,_,h=>by cases M <;> exact h.elim
 | _::_,[],M,_,_,h=>by cases M <;> exact h.elim
theorem Jpd {M M' my:Mode} {n:Str} (e:J6k M n my=some M'):∃a b r,M'= .B a b r:=by
 cases M with
 | B a b r=>
  have e': (J6k r n my).map (.B a b)=some M':=e
  cases e2:J6k r n my with
  | none=>rw [e2] at e';cases e'
  | some r'=>rw [e2] at e';cases e';exact ⟨_,_,_,rfl⟩
 | B0=>cases e;exact ⟨_,_,_,rfl⟩
 | _=>cases e
theorem Jda {P:Program} {w:World} {K:Zf} {mg:Str→Option Value} {base:Heap} {x qual:Str} {params:Arguments} {body:List Stmt} {scope:Scope} {dvs:List V} {kws:List (Str × V)} {f:Addr} {fd:FuncData} {N ps:List Str} {k:Nat} {pm om xm:List Mode} {rm:Mode} {io:List Bool} {fb:Gam→Sz} {μe:List Mode}
  (F:FunD K x qual params body scope dvs kws f fd) (S:FnScope N ps scope) (h1:pm.length=ps.length) (h2:io.length=pm.length) (h3:pm.length≤N.length) (h4:om.length=pm.length) (h5:xm.length=pm.length) (wk:J6 μe (μOut io om N.length)=true)
  (hbody:∀ (cdv:Value) (A:Around) (outer:List Env) (s:Shared) (H:Hp) (E:XK) (vs:List V),Room k (A.deeper (PyProof.Rows.envOfC qual scope s.heap.objs.size f cdv))→
   DSs (cxOf (L2.CX P w) P w K mg base N qual scope f cdv A outer s H E) ⟨⟨fun cls d _ H=>E cls d H,μOut io xm N.length⟩,rm,μOut io om N.length,[],[],J3j io vs⟩ (μIn N.length pm) body fb μe):
  FnOk P w K mg base (L2.CX P w) (k + 1) f fd ps (spX K pm om xm rm (J21 N.length io fb)):=by
 refine F.ok S (fun vs H Q E h=>?_) (fun cdv A outer s H vs Q E hr h=>?_)
 ·obtain ⟨B,ds,fp,_,ra,_⟩:=h
  rw [ra.len.1,h1]
 ·obtain ⟨B,ds,fp,sm,ra,nd,q⟩:=h
  have hl:=ra.len
  refine ⟨_,((hbody cdv A outer s H E vs hr).weak wk).ps,Jhl,B,ds.map some++List.replicate (N.length - ds.length) none,fp,⟨sm,?_,nd⟩,?_⟩
  ·unfold μIn L2.start
   rw [hl.1,hl.2]
   exact Jd8 ra
  ·unfold J21 at q
   revert q
   cases fb (ds.map some++List.replicate (N.length - ds.length) none) with
   | nx Γ'=>
    intro q σ' B' H' fp' s st' hp'
    show Q .non H'
    exact q B' H' .non [] fp' s st'.same (by cases rm <;> exact ⟨rfl,rfl⟩) (Ja7 (by rw [h2,h4]) (by rw [hl.1,h4]) (by rw [h4];exact h3) st'.st hp') st'.nd
   | rt d Γ'=>exact fun q σ' B' H' v fpv fp' s st' r nd' hp'=>q B' H' v fpv fp' s st'.same r (Ja7 (by rw [h2,h4]) (by rw [hl.1,h4]) (by rw [h4];exact h3) st'.st hp') nd'
   | exc x Γ'=>exact fun q σ' B' H' fpe fp' cls dd s st' ex nd' hp'=>q B' H' fpe fp' cls dd s st'.same ex (Ja7 (by rw [h2,h5]) (by rw [hl.1,h5]) (by rw [h5];exact h3) st'.st hp') nd'
   | bk Γ'=>exact fun q=>q.elim
   | ct Γ'=>exact fun q=>q.elim
   | bad=>exact id
theorem Jg0 (e o:Expr) (n:Str) (p:Pos) (l:Nat) (env:Env):swapsWith e (some (.Attribute o n p)) l env=pure false:=by
 cases e <;> rfl
theorem Jho (e o i:Expr) (p:Pos) (l:Nat) (env:Env):swapsWithSole [.Subscript o i p] e l env=pure false:=by
 cases e <;> rfl
open PySem.Sem (wp)
noncomputable abbrev kwD (d:Value):List (Str × Value):= [(Str.ofString "default",d)]
theorem Jhp (a d:Value):argsOk "min" ⟨[a],kwD d⟩:=by unfold argsOk;kernel_rfl
section
variable {prog:Program} {w:World} {A:Around} {R:Result→Shared→Prop} {I:Addr} {fp wr:List Addr} {n:Nat} {P:Nat→Value→Prop} {St:Nat→Heap→Prop} {dv:Value}
theorem Jhq (W:Walks prog w A.in1 I fp wr n P St) (bt:Nat→Nat→Bool) (hcmp:CmpOf prog w A.in1 .Lt P bt) (S:Addr) (hSf:S∉fp):
  ∀ (k j:Nat) (s:Shared) (vb:Value) (c:Nat),n - (j + 1)=k→j + 1≤n→St (j + 1) s.heap→P (argBest bt j) vb→
  s.heap.get? S=some { cls:= .type "list",dict:=none,data:= .seq #[vb,vb] c,slots:= #[]}→
  (∀v h' tk,P (argBest bt (n - 1)) v→(∀b o,b∉wr→b≠S→s.heap.get? b=some o→h'.get? b=some o)→R (.ok (.ret v)) { s with heap:=h',toks:=tk})→
  codeAny (model prog w) A (.builtin "min.loop" ⟨[.ref I,.none,.ref S],kwD dv⟩) R s:=by
 have hSw:S∉wr:=fun h=>hSf (W.sub _ h)
 have hname: (toString "min" ++toString ".loop" :String) = "min.loop" :=by decide
 intro k
 induction k with
 | zero=>
  intro j s vb c hk hj hst hPb hS hR
  have hin:j + 1=n:=by omega
  refine codeAny_builtin F.entry_min_loop ?_
  rw [Around.under_plainId F.plain_min_loop _]
  show wpAny _ A.in1 (seqItems? (.ref S) >>= _) _ _ s
  refine wpAny_bind (wpAny_seqItems hS rfl ?_)
  show wpAny _ A.in1 (tryCatch (pyNext (.ref I)) _ >>= _) _ _ s
  refine wpAny_bind (wpAny_tryCatch (W.done s _ _ (hin ▸ hst) fun h' tk hk'=>?_))
  have hS':=hk' S _ hSw hS
  show wpAny _ A.in1 (updateSeq S (fun _=> #[]) >>= _) _ _ _
  refine wpAny_bind ?_
  refine wpAny_updateSeq hS' rfl (wpAny_bind (wpAny_letGo (wpAny_pure ?_)))
  refine hR vb _ tk (by rw [← hin];exact hPb) fun b o hbw hbS e=>(Heap.get?_update_other _ _ (Ne.symm hbS)).trans (hk' b o hbw e)
 | succ k ih=>
  intro j s vb c hk hj hst hPb hS hR
  have hlt:j + 1 < n:=by omega
  refine codeAny_builtin F.entry_min_loop ?_
  rw [Around.under_plainId F.plain_min_loop _]
  show wpAny _ A.in1 (seqItems? (.ref S) >>= _) _ _ s
  refine wpAny_bind (wpAny_seqItems hS rfl ?_)
  show wpAny _ A.in1 (tryCatch (pyNext (.ref I)) _ >>= _) _ _ s
  refine wpAny_bind (wpAny_tryCatch (W.item (j + 1) s _ _ hlt hst fun v h' tk hP hst' hk'=>?_))
  have hS':=hk' S _ hSw hS
  show wpAny _ A.in1 (tryCatch (holding [v,v] (richCompare .Lt v vb >>= _)) _ >>= _) _ _ _
  refine wpAny_bind (wpAny_tryCatch (wpAny_holding (wpAny_bind (hcmp (j + 1) (argBest bt j) v vb _ _ _ hP hPb ?_))))
  refine wpAny_bind (wpAny_holding (wpAny_truthy_bool ?_))
  refine wpAny_bind (wpAny_letGo (wpAny_pure ?_))
  cases hb:bt (j + 1) (argBest bt j) with
  | true=>
   simp only [if_true]
   refine wpAny_bind ?_
   refine wpAny_updateSeq hS' rfl (wpAny_bind (wpAny_letGo ?_))
   rw [hname]
   refine wpAny_pure ⟨plainId_quiet F.plain_min_loop _,ih (j + 1) _ v _ (by omega) hlt (W.frame _ _ _ hst' fun b hbf o e=>?_) (by simp only [argBest,hb,if_true];exact hP) (Heap.get?_update_self _ hS' rfl)
    fun v' h'' tk'' hP' hk''=>?_⟩
   ·exact (Heap.get?_update_other _ _ (fun h:S=b=>hSf (by rw [h];exact hbf))).trans e
   ·exact hR v' h'' tk'' hP' fun b o hbw hbS e=>hk'' b o hbw hbS ((Heap.get?_update_other _ _ (Ne.symm hbS)).trans (hk' b o hbw e))
  | false=>
   simp only [Bool.false_eq_true,if_false]
   refine wpAny_bind (wpAny_letGo ?_)
   rw [hname]
   refine wpAny_pure ⟨plainId_quiet F.plain_min_loop _,ih (j + 1) _ vb c (by omega) hlt hst' (by simp only [argBest,hb,Bool.false_eq_true,if_false];exact hPb) hS' fun v' h'' tk'' hP' hk''=>?_⟩
   exact hR v' h'' tk'' hP' fun b o hbw hbS e=>hk'' b o hbw hbS (hk' b o hbw e)
theorem Jg1 (W:Walks prog w A.in1 I fp wr n P St) (bt:Nat→Nat→Bool) (hcmp:CmpOf prog w A.in1 .Lt P bt) (S:Addr) (hSf:S∉fp) {s:Shared} {c:Nat} (hst:St 0 s.heap)
  (hS:s.heap.get? S=some { cls:= .type "list",dict:=none,data:= .seq #[] c,slots:= #[]})
  (hR0:n=0→∀h' tk,(∀b o,b∉wr→b≠S→s.heap.get? b=some o→h'.get? b=some o)→R (.ok (.ret dv)) { s with heap:=h',toks:=tk})
  (hR:0 < n→∀v h' tk,P (argBest bt (n - 1)) v→(∀b o,b∉wr→b≠S→s.heap.get? b=some o→h'.get? b=some o)→R (.ok (.ret v)) { s with heap:=h',toks:=tk}):
  codeAny (model prog w) A (.builtin "min.loop" ⟨[.ref I,.none,.ref S],kwD dv⟩) R s:=by
 have hSw:S∉wr:=fun h=>hSf (W.sub _ h)
 have hname: (toString "min" ++toString ".loop" :String) = "min.loop" :=by decide
 refine codeAny_builtin F.entry_min_loop ?_
 rw [Around.under_plainId F.plain_min_loop _]
 show wpAny _ A.in1 (seqItems? (.ref S) >>= _) _ _ s
 refine wpAny_bind (wpAny_seqItems hS rfl ?_)
 show wpAny _ A.in1 (tryCatch (pyNext (.ref I)) _ >>= _) _ _ s
 by_cases hn:n=0
 ·subst hn
  refine wpAny_bind (wpAny_tryCatch (W.done s _ _ hst fun h' tk hk'=>?_))
  refine wpAny_bind (wpAny_rule ?_)
  exact wpAny_pure (hR0 rfl h' tk fun b o hbw _ e=>hk' b o hbw e)
 have hn:0 < n:=Nat.pos_of_ne_zero hn
 refine wpAny_bind (wpAny_tryCatch (W.item 0 s _ _ hn hst fun v h' tk hP hst' hk'=>?_))
 have hS':=hk' S _ hSw hS
 show wpAny _ A.in1 (updateSeq S (fun _=> #[v,v]) >>= _) _ _ _
 refine wpAny_bind ?_
 refine wpAny_updateSeq hS' rfl ?_
 rw [hname]
 refine wpAny_pure ⟨plainId_quiet F.plain_min_loop _,Jhq W bt hcmp S hSf _ 0 _ v _ rfl hn (W.frame _ _ _ hst' fun b hbf o e=>?_) hP (Heap.get?_update_self _ hS' rfl) fun v' h'' tk'' hP' hk''=>?_⟩
 ·exact (Heap.get?_update_other _ _ (fun h:S=b=>hSf (by rw [h];exact hbf))).trans e
 ·exact hR hn v' h'' tk'' hP' fun b o hbw hbS e=>hk'' b o hbw hbS ((Heap.get?_update_other _ _ (Ne.symm hbS)).trans (hk' b o hbw e))
end
section
variable {prog:Program} {w:World} {A:Around} {E:Value→Shared→Prop} {s:Shared}
theorem Jb7 {x dv:Value} {Q:Value→Shared→Prop}
  (h:wpAny (model prog w) A.in1 (pyIter x) (fun it s₂=>∃I fp wr n P St bt,it= .ref I∧Walks prog w A.in1 I fp wr n P St∧St 0 s₂.heap∧(∀b∈fp,b < s₂.heap.objs.size)∧CmpOf prog w A.in1 .Lt P bt∧
   (n=0→∀h' tk,(∀b o,b∉wr→s₂.heap.get? b=some o→h'.get? b=some o)→Q dv { s₂ with heap:=h',toks:=tk})∧
   (0 < n→∀v h' tk,P (argBest bt (n - 1)) v→(∀b o,b∉wr→s₂.heap.get? b=some o→h'.get? b=some o)→Q v { s₂ with heap:=h',toks:=tk})) E s):
  wpAny (model prog w) A (call (.builtin "min") [x] (kwD dv)) Q E s:=by
 have hname: (toString "min" ++toString ".loop" :String) = "min.loop" :=by decide
 refine wpAny_call (codeAny_call_builtin F.plain_min F.entry_min ?_)
 have key:wpAny (model prog w) A.in1 (Builtin.«min» ⟨[x],kwD dv⟩) (fun fin s'=>match fin with
   | .done f=>(match (Except.ok f:Result) with | .ok (.ret v)=>Q v s' | .ok _=>False | .error e=>E e s')
   | .again c'=>c'.quiet=true∧codeAny (model prog w) A c' (fun r s'=>match r with | .ok (.ret v)=>Q v s' | .ok _=>False | .error e=>E e s') s') E s:=by
  show wpAny _ A.in1 (Builtin.Builtins.bindParams "min" ["key", "default"] 0 ⟨[],kwD dv⟩ >>= _) _ _ s
  refine wpAny_bind (wpAny_of_eq (show Builtin.Builtins.bindParams "min" ["key", "default"] 0 ⟨[],kwD dv⟩=pure [none,some dv] from by first | rfl | kernel_rfl) ?_)
  refine wpAny_bind (wpAny_pure ?_)
  refine wpAny_bind (wpAny_mono h (fun it s₂ h₂=>?_) fun _ _ e=>e)
  obtain ⟨I,fp,wr,n,P,St,bt,rfl,W,hst,hfp,hcmp,hQ0,hQ⟩:=h₂
  refine wpAny_bind (wpAny_newObj_type ?_)
  have hSf:s₂.heap.objs.size∉fp:=fun hm=>Nat.lt_irrefl _ (hfp _ hm)
  rw [hname]
  refine wpAny_pure ⟨plainId_quiet F.plain_min_loop _,Jg1 W bt hcmp s₂.heap.objs.size hSf (W.frame _ _ _ hst fun b _ o e=>Heap.get?_push_of_some _ e) (Heap.get?_push_size _ rfl) (fun h0 h' tk hk=>?_) fun hn v h' tk hP hk=>?_⟩
  ·exact hQ0 h0 h' tk fun b o hbw e=>hk b o hbw (Nat.ne_of_lt (Heap.lt_size e)) (Heap.get?_push_of_some _ e)
  ·exact hQ hn v h' tk hP fun b o hbw e=>hk b o hbw (Nat.ne_of_lt (Heap.lt_size e)) (Heap.get?_push_of_some _ e)
 simp only [checkBuiltinCall,F.kind_min]
 have ha:=Jhp x dv
 cases hsig:Manifest.signature? "min" with
 | none=>exact wpAny_pure key
 | some sig=>
  have ha':Bind.checkArgs "min" sig ⟨[x],kwD dv⟩=pure ():=by simpa only [argsOk,hsig] using ha
  simp only [ha']
  exact wpAny_pure key
theorem Jkd {l:Addr} {its:List Value} {ns:List Int} {dv:Value} {Q:Value→Shared→Prop} (hh:A.handled=none) (hl:s.heap.IsList l its.toArray) (hi:PyProof.Rows.IntsAre its ns)
  (h0:ns= []→∀h' tk,(∀b o,s.heap.get? b=some o→h'.get? b=some o)→Q dv { s with heap:=h',toks:=tk})
  (h:0 < ns.length→∀h' tk M t',(∀b o,s.heap.get? b=some o→h'.get? b=some o)→M∈ns→(∀a,a∈ns→M≤a)→Q (.int M t') { s with heap:=h',toks:=tk}):wpAny (model prog w) A (call (.builtin "min") [.ref l] (kwD dv)) Q E s:=by
 obtain ⟨xs,e⟩:=hi.allInts.items
 have hn:numsOf (intItems xs).toList=ns:=by rw [← e];exact hi.numsOf
 rw [nums_intItems] at hn
 subst hn
 rw [e] at hl
 refine Jb7 (iter_intList hl fun s₂ e st hfp hlI=>?_)
 subst e
 refine ⟨_,_,_,_,_,_,_,rfl,Walks.list (A:=A.in1) hh _ l hlI (intItems xs),st,hfp,CmpOf.ints_lt (numAt xs) (fun _ _=>intItems_at),fun hz h' tk hk=>?_,fun hp v h' tk hP hk=>?_⟩
 ·exact h0 (by
   have:xs.size=0:=by simpa [intItems] using hz
   have e2:xs= #[]:=by cases xs;simpa using this
   rw [e2];rfl) h' tk (old_kept hk)
 ·have hsz:0 < xs.size:=by simpa [intItems] using hp
  have hP': (intItems xs)[argBest (fun i j=>decide (numAt xs i < numAt xs j)) (xs.size - 1)]? =some v:=by simpa [intItems] using hP
  obtain ⟨t,rfl⟩:=intItems_at hP'
  obtain ⟨h1,h2⟩:=argBest_lt (numAt xs) (xs.size - 1)
  refine h (by simpa using hsz) h' tk _ t (old_kept hk) ?_ fun a ha=>?_
  ·rw [numAt_eq];exact PySem.getD_mem (by rw [List.length_map,Array.length_toList];omega)
  ·obtain ⟨j,hj,rfl⟩:=mem_getD ha
   rw [List.length_map,Array.length_toList] at hj
   rw [← numAt_eq];exact h2 j (by omega)
end
noncomputable def Jg2 (K:Zf):List V→List V→Hp→VK→Prop:=fun vs zs H Q=>∃ (a:Addr) (ns:List Int) (d:Int),vs= [V.ref a]∧zs= [V.int d]∧SqL K H a (ns.map V.int)∧(ns= []→Q (.int d) H)∧(0 < ns.length→∀m,m∈ns→(∀y,y∈ns→m≤y)→Q (.int m) H)
theorem Jnb {X:Cx} (hc:X.calm=true):CallRK X (.builtin "min") [Str.ofString "default"] (Jg2 X.K):=by
 intro pins s σ H vs zs us ws Q I r rz h
 obtain ⟨a,ns,d,rfl,rfl,hs,q0,q⟩:=h
 obtain ⟨its,rv,hl,_⟩:=I.list hs
 rw [Vals.ref1 r]
 cases rz with
 | cons z zz=>
  cases zz
  obtain ⟨t,rfl⟩:=z
  exact Jkd (I.ok.hd hc) hl.isList rv.ints (fun e h' tk hk=>⟨.int _,H,I.kept hk,⟨_,rfl⟩,q0 e⟩) fun hn h' tk m t' hk h1 h2=>⟨.int _,H,I.kept hk,⟨_,rfl⟩,q hn m h1 h2⟩
noncomputable def J7i:List D→Option D
 | [.lst [],.int d]=>some (.int d)
 | [.lst (x::xs),.int _]=>Jk7 [.lst (x::xs)]
 | _=>none
theorem Jke {K:Zf}:NaD K (fun xs H Q=>∃v z,xs= [v,z]∧Jg2 K [v] [z] H Q) [.F,.Z] J7i .Z:=by
 intro B H xs d us fp1 Q s r nd e c
 obtain ⟨x,y,u,v,f1,f2,rfl,rfl,r1,r2,rfl⟩:=r.two
 refine ⟨u,v,rfl,?_⟩
 cases x with
 | lst ds=>
  cases y with
  | int k=>
   obtain ⟨rfl,rfl⟩:=r2
   obtain ⟨rfl,a,vs,rfl,hs,hl,hr⟩:=r1
   cases ds with
   | nil=>
    cases e
    have:vs= []:=hr.1
    subst this
    exact ⟨a,[],k,rfl,rfl,(s).sqL hs,fun _=>c.flat s ⟨rfl,rfl⟩,fun h=>absurd h (by decide)⟩
   | cons d0 ds=>
    have e': ((intsOf (d0::ds)).bind fun ns=>if 0 < ns.length then some (D.int (J10 ns)) else none)=some d:=e
    cases z:intsOf (d0::ds) with
    | none=>rw [z] at e';cases e'
    | some ns=>
     rw [z] at e'
     have e2: (if 0 < ns.length then some (D.int (J10 ns)) else none)=some d:=e'
     split at e2
     ·rename_i hn
      cases e2
      have w:=J3h z hr
      subst w
      refine ⟨a,ns,k,rfl,rfl,(s).sqL hs,fun h=>absurd hn (by rw [h];decide),fun _ m hm hle=>?_⟩
      have sp:=J3p hn
      have:m=J10 ns:=Int.le_antisymm (hle _ sp.1) (sp.2 m hm)
      rw [this]
      exact c.flat s ⟨rfl,rfl⟩
     ·cases e2
  | _=>cases ds <;> cases e
 | _=>cases e
section
variable {X:Cx} {w:Wh} {μ μ1 μ2:List Mode} {a b:Expr} {pos p kp:Pos} {f g:Gam→Rz D}
theorem DE.minD (hc:X.calm=true) (hg:Gl X "min") (hm:X.mg "min" =none) (ha:DE X w μ a f .F μ1) (hb:DE X w μ1 b g .Z μ2) (hs:starEach [a] X.env= [(false,eval a X.env)]):
  DE X w μ (.Call (.Name "min" p) [a] [⟨some (Str.ofString "default"),b,kp⟩] pos) (eN J7i (Jb0 (Jj f J1z) (Jj g J1z))) .Z μ2:=by
 have hA:DAi X w μ [a] (Jj f J1z) [.F] [] μ1:=DAi.cons ha DAi.nil hs
 have hK:DK X w μ1 [⟨some (Str.ofString "default"),b,kp⟩] (Jj g J1z) [.Z] μ2:=DK.cons hb DK.nil
 refine ⟨(pe_callBK (Jnb hc) hg hm (by decide +kernel) hA.pa hK.pk (by decide) (by decide) (by rw [hs];rfl) (by rw [hs];rfl)).imp fun σ H Q q=>?_⟩
 have q2:=Ja4 (r:=fun xs H Q=>∃v z,xs= [v,z]∧Jg2 X.K [v] [z] H Q) (ms:= [.F,.Z]) Jke q
 have q3:=Jox (ms:= [.F]) (ms':= [.Z]) (μ1:=μ1) q2
 show Jaz X.K w μ (Jj f J1z) [.F] [] μ1 σ H _
 obtain ⟨B,Γ,fp,st,q⟩:=q3
 refine ⟨B,Γ,fp,st,?_⟩
 revert q
 cases Jj f J1z Γ with
 | bad=>exact id
 | exc x Γ'=>exact id
 | ok xs Γ'=>
  intro q B' H' vs fpv fp' s st r n io
  have q:=q B' H' vs fpv fp' s st r n io
  obtain ⟨B,Γ,fp,st,q⟩:=q
  refine ⟨B,Γ,fp,st,?_⟩
  revert q
  cases Jj g J1z Γ with
  | bad=>exact id
  | exc x Γ'=>exact id
  | ok ys Γ''=>
   intro q B' H' zs fpv fp' s st r n
   obtain ⟨l1,l2,v,z,e,q9⟩:=q B' H' zs fpv fp' s st r n
   have ev:vs= [v]∧zs= [z]:=by
    match vs,l1,zs,l2,e with
    | [_],_,[_],_,e=>cases e;exact ⟨rfl,rfl⟩
   rw [ev.1,ev.2];exact q9
end
end EV
namespace EV
open PySem PySem.Spec L2
open PySem.Sem (wp)
inductive SK | ls | tp
noncomputable def SK.It:SK→Heap→Addr→Addr→Nat→Prop
 | .ls,h,it,l,i=>h.IsListIter it l i
 | .tp,h,it,l,i=>h.IsTupleIter it l i
noncomputable def SK.Sq:SK→Heap→Addr→Array Value→Prop
 | .ls,h,l,xs=>h.IsList l xs
 | .tp,h,l,xs=>h.IsTuple l xs
theorem SK.It.ext:∀{k:SK} {h h':Heap} {b a l:Addr} {i:Nat},k.It h a l i→Heap.ExtBut b h h'→a≠b→k.It h' a l i
 | .ls,h,h',b,a,l,i,x,s,n=>Heap.IsListIter.extBut (l:=l) (i:=i) (show h.IsListIter a l i from x) s n
 | .tp,h,h',b,a,l,i,x,s,n=>Heap.IsTupleIter.extBut (show h.IsTupleIter a l i from x) s n
theorem SK.It.at:∀{k:SK} {h h':Heap} {a l:Addr} {i:Nat},k.It h a l i→(∀o,h.get? a=some o→h'.get? a=some o)→k.It h' a l i
 | .ls,h,_,a,l,i,x,e=>Heap.IsListIter.at (show h.IsListIter a l i from x) e
 | .tp,h,_,a,l,i,x,e=>Heap.IsTupleIter.at (show h.IsTupleIter a l i from x) e
theorem SK.Sq.ext:∀{k:SK} {h h':Heap} {b a:Addr} {xs:Array Value},k.Sq h a xs→Heap.ExtBut b h h'→a≠b→k.Sq h' a xs
 | .ls,h,_,_,a,xs,x,s,n=>Heap.IsList.extBut (show h.IsList a xs from x) s n
 | .tp,h,_,_,a,xs,x,s,n=>Heap.IsTuple.extBut (show h.IsTuple a xs from x) s n
theorem SK.Sq.push:∀{k:SK} {h:Heap} {a:Addr} {xs:Array Value} (o:Obj),k.Sq h a xs→k.Sq (h.push o) a xs
 | .ls,h,a,xs,o,x=>Heap.IsList.push (show h.IsList a xs from x) o
 | .tp,h,a,xs,o,x=>Heap.IsTuple.push (show h.IsTuple a xs from x) o
theorem SK.It.some:∀{k:SK} {h:Heap} {a l:Addr} {i:Nat},k.It h a l i→∃o,h.get? a=some o∧∀v,o.data≠ .cell v
 | .ls,_,_,_,_,⟨o,e,_,d⟩=>⟨o,e,fun v q=>by rw [d] at q;cases q⟩
 | .tp,_,_,_,_,⟨o,e,_,d⟩=>⟨o,e,fun v q=>by rw [d] at q;cases q⟩
theorem SK.Sq.lt:∀{k:SK} {h:Heap} {a:Addr} {xs:Array Value},k.Sq h a xs→a < h.objs.size
 | .ls,_,_,_,⟨o,e,_⟩=>Heap.lt_size e
 | .tp,_,_,_,⟨o,e,_⟩=>Heap.lt_size e
section
variable {prog:Program} {w:World} {A:Around} {E:Value→Shared→Prop} {s:Shared}
theorem SK.next_item:∀{k:SK} {it l:Addr} {i:Nat} {items:Array Value} {x:Value} {Q:Value→Shared→Prop} (hit:k.It s.heap it l i) (hl:k.Sq s.heap l items) (hx:items[i]? =some x)
  (hQ:∀h',k.It h' it l (i + 1)→Heap.SameBut it s.heap h'→Q x { s with heap:=h'}),wpAny (model prog w) A (Builtin.SmallTypes.nextOf (.ref it)) Q E s
 | .ls,it,l,i,items,_,_,a,b,c,q=>wpAny_nextOf_list_item (show s.heap.IsListIter it l i from a) (show s.heap.IsList l items from b) c q
 | .tp,it,l,i,items,_,_,a,b,c,q=>RZ.nextOf_tuple_item (show s.heap.IsTupleIter it l i from a) (show s.heap.IsTuple l items from b) c q
theorem SK.next_end:∀{k:SK} {it l:Addr} {i:Nat} {items:Array Value} {Q:Value→Shared→Prop} (hh:A.handled=none) (hit:k.It s.heap it l i) (hl:k.Sq s.heap l items) (hx:items[i]? =none)
  (hE:∀h' e,Heap.ExtBut it s.heap h'→(∃o,h'.get? e=some o∧o.cls= .type "StopIteration")→E (.ref e) { s with heap:=h'}),wpAny (model prog w) A (Builtin.SmallTypes.nextOf (.ref it)) Q E s
 | .ls,it,l,i,items,_,hh,a,b,c,q=>wpAny_nextOf_list_end hh (show s.heap.IsListIter it l i from a) (show s.heap.IsList l items from b) c q
 | .tp,it,l,i,items,_,hh,a,b,c,q=>RZ.nextOf_tuple_end hh (show s.heap.IsTupleIter it l i from a) (show s.heap.IsTuple l items from b) c q
end
noncomputable def SK.nm:SK→String
 | .ls=> "list_iterator"
 | .tp=> "tuple_iterator"
section
variable {prog:Program} {w:World} {A:Around} {E:Value→Shared→Prop} {s:Shared}
end
noncomputable def SK.Sv (K:Zf):SK→Hp→Addr→List V→Prop
 | .ls,H,a,xs=>SqL K H a xs
 | .tp,H,a,xs=>SqT K H a xs
theorem SK.inv {X:Cx} {pins:List (Addr × Obj)} {σ:L2.St} {H:Hp} {s:Shared}:∀{k:SK} {a:Addr} {xs:List V},Inv X pins σ H s→k.Sv X.K H a xs→∃its:List Value,Vals xs its∧k.Sq s.heap a its.toArray
 | .ls,a,xs,I,h=>by
  obtain ⟨its,rv,p,_⟩:=I.list (show SqL X.K H a xs from h)
  exact ⟨its,rv,p.isList⟩
 | .tp,a,xs,I,h=>by
  obtain ⟨its,rv,p,_⟩:=I.tuple (show SqT X.K H a xs from h)
  exact ⟨its,rv,p⟩
theorem SK.inj {X:Cx} {pins:List (Addr × Obj)} {σ:L2.St} {H:Hp} {s:Shared}:∀{k:SK} {a:Addr} {xs ys:List V},Inv X pins σ H s→k.Sv X.K H a xs→k.Sv X.K H a ys→xs=ys
 | .ls,_,_,_,I,h,h'=>I.list_inj h h'
 | .tp,_,_,_,I,h,h'=>I.tuple_inj h h'
theorem _root_.L2.Same.sk {K:Zf} {H H':Hp}:∀{k:SK} {a:Addr} {xs:List V},Same H H'→k.Sv K H a xs→k.Sv K H' a xs
 | .ls,_,_,s,h=>(s).sqL h
 | .tp,_,_,s,h=>(s).sqT h
theorem Lies.sk {K:Zf} {H H':Hp}:∀{k:SK} {a:Addr} {xs:List V},Lies K H H'→k.Sv K H a xs→k.Sv K H' a xs
 | .ls,_,_,s,h=>(s).sqL h
 | .tp,_,_,s,h=>(s).sqT h
section
variable {M:Model} {A:Around} {E:Value→Shared→Prop} {s:Shared} {env:Env}
end
noncomputable def Jkf:D→Option (List D)
 | .lst ds=>some ds
 | .tup ds=>some ds
 | _=>none
theorem Jpe {K:Zf} {B H:Hp} {x:D} {v:V} {ds:List D} (h:Jkf x=some ds) (r:R K B H x .F v []):∃ (k:SK) (p:Addr) (us:List V),v= .ref p∧k.Sv K B p us∧ds.length≤sizeLine∧Rl K B H ds .F us []:=by
 cases x with
 | lst es=>
  cases h
  obtain ⟨_,p1,us,rfl,h1,hl,g1⟩:=r
  exact ⟨.ls,p1,us,rfl,h1,hl,g1⟩
 | tup es=>
  cases h
  obtain ⟨_,p1,us,rfl,h1,hl,g1⟩:=r
  exact ⟨.tp,p1,us,rfl,h1,hl,g1⟩
 | _=>cases h
section
variable {X:Cx} {w:Wh} {μ μ':List Mode} {a b:Expr} {pos:Pos}
end
end EV
namespace EV
open PySem PySem.Spec L2
open PySem.Sem (wp)
noncomputable abbrev Jpf (h:Heap) (z TI TO:Addr) (f0 f1:Value):Prop:=
 h.get? z=some { cls:= .type "zip",dict:=none,data:= .fields #[f0,f1,.bool false,.ref TI,.ref TO],slots:= #[]}
noncomputable def Fz (f0:Value):Prop:=f0= .none∨∃T:Addr,f0=rawInt T
section
variable {prog:Program} {w:World} {A:Around} {E:Value→Shared→Prop} {s:Shared}
end
structure ZSt (k k':SK) (h:Heap) (z TI TO i1 i2 l1 l2:Addr) (i:Nat):Prop where
 zz:∃g0 g1,Jpf h z TI TO g0 g1∧Fz g0
 ti:IsPair h TI (.ref i1) (.ref i2)
 to:∃u v,IsPair h TO u v
 a:k.It h i1 l1 i
 b:k'.It h i2 l2 i
theorem ZSt.at {k k':SK} {h h':Heap} {z TI TO i1 i2 l1 l2:Addr} {i:Nat} (x:ZSt k k' h z TI TO i1 i2 l1 l2 i) (q:∀c∈ [z,TI,TO,i1,i2],∀o,h.get? c=some o→h'.get? c=some o):ZSt k k' h' z TI TO i1 i2 l1 l2 i:=by
 obtain ⟨⟨g0,g1,h1,h2⟩,h3,⟨u,v,h4⟩,h5,h6⟩:=x
 exact ⟨⟨g0,g1,q z (by simp) _ h1,h2⟩,q TI (by simp) _ h3,⟨u,v,q TO (by simp) _ h4⟩,h5.at fun o e=>q i1 (by simp) o e,h6.at fun o e=>q i2 (by simp) o e⟩
section
variable {prog:Program} {w:World} {A:Around} {E:Value→Shared→Prop} {s:Shared}
end
end EV
namespace EV
open PySem PySem.Spec L2
open PySem.Sem (wp)
section
variable {prog:Program} {w:World} {A:Around} {E:Value→Shared→Prop} {s:Shared}
end
end EV
namespace EV
open PySem PySem.Spec L2
open PySem.Sem (wp)
section
variable {prog:Program} {w:World} {A:Around} {E:Value→Shared→Prop} {s:Shared}
end
section
variable {X:Cx} {w:Wh} {μ μ':List Mode} {a b:Expr} {pos pos1:Pos}
end
end EV
namespace EV
open PySem PySem.Spec L2
noncomputable def Ji:Expr→Bool
 | .Starred _ _=>false
 | _=>true
theorem J1l {e:Expr} (h:Ji e=true) (es:List Expr) (env:Env):starEach (e::es) env= (false,eval e env)::starEach es env:=by
 cases e <;> first | rfl | cases h
theorem J9j {e:Expr} (h:Ji e=true) (env:Env):starEach [e] env= [(false,eval e env)]:=J1l h [] env
noncomputable def J6x:Expr→Bool
 | .ListComp .. =>true
 | .SetComp .. =>true
 | .DictComp .. =>true
 | _=>false
theorem Jdb {e:Expr} (h:J6x e=false) (t:Option Expr) (l:Nat) (env:Env):swapsWith e t l env=pure false:=by
 cases e <;> first | rfl | cases h
noncomputable def J35:Expr→Bool
 | .Slice .. =>false
 | _=>true
theorem J2c {e:Expr} (h:J35 e=true):PlainIx e:=by
 cases e <;> first | exact fun _ _=>rfl | cases h
noncomputable def Jpg:Expr→Bool
 | .Name .. =>true
 | .Call .. =>true
 | .Attribute .. =>true
 | .Subscript .. =>true
 | .Constant .. =>true
 | _=>false
theorem Jph {e:Expr} (h:Jpg e=true) (env:Env) (whole:Sem Value):isTrue e env whole= (do let v ← whole;standAt e.pos;holding [v] (truthy v)):=by
 cases e <;> first | rfl | cases h
noncomputable def Jcu:Expr→Bool
 | .Name .. =>true
 | .Call .. =>true
 | .Attribute .. =>true
 | .Subscript .. =>true
 | .List .. =>true
 | .Tuple .. =>true
 | .BinOp .. =>true
 | .ListComp .. =>true
 | .IfExp .. =>true
 | _=>false
theorem Jb8 {e:Expr} (h:Jcu e=true) (env:Env) (x:Value):foldedSetIterable e env x=pure x:=by
 cases e <;> first | rfl | cases h
noncomputable def Jm4:Expr→Bool
 | .Name .. =>true
 | .Attribute .. =>true
 | .Subscript .. =>true
 | _=>false
theorem Jnc {e:Expr} (h:Jm4 e=true) (n:Str) (env:Env):attributeBase e n env (eval e env)=eval e env:=by
 cases e <;> first | rfl | cases h
theorem J4u {e:Expr} (h:Ji e=true) (env:Env): (assignEach [e] env).map (·.2)= [assign e env]:=by
 cases e <;> first | rfl | cases h
theorem Ja8 {e:Expr} (h:Ji e=true) (es:List Expr) (env:Env): (assignEach (e::es) env).map (·.2)=assign e env:: (assignEach es env).map (·.2):=by
 cases e <;> first | rfl | cases h
theorem J6y (es:List Expr) (env:Env): (assignEach es env).length=es.length:=by
 induction es with
 | nil=>rfl
 | cons e es ih=>cases e <;> simp [assignEach,ih]
theorem J5c {es:List Expr} (h:es.all Ji=true) (env:Env): (assignEach es env).findIdx? (·.1)=none:=by
 induction es with
 | nil=>rfl
 | cons e es ih=>
  rw [List.all_cons,Zb] at h
  have:=ih h.2
  cases e <;> first | (cases h.1;done) | (simp [assignEach,List.findIdx?_cons] at this ⊢;exact this)
theorem star_any {es:List Expr} (h:es.all Ji=true) (pos:Pos) (env:Env): (backTo pos (starEach es env)).any (·.1)=false:=by
 induction es with
 | nil=>rfl
 | cons e es ih=>
  rw [List.all_cons,Zb] at h
  rw [J1l h.1]
  exact ih h.2
noncomputable def Ja9:Expr→Bool
 | .Tuple .. =>true
 | _=>false
noncomputable def Jhr:Expr→Bool
 | .Tuple .. =>true
 | .List .. =>true
 | _=>false
theorem J5l {t e:Expr} (h:Jhr t=false∨(Ja9 t && !Ja9 e)=true) (env:Env):swappedStores [t] e env=pure none:=by
 rcases h with h | h
 ·cases t <;> first | rfl | cases h
 ·cases t <;> first | (cases h;done) | (cases e <;> first | rfl | cases h)
theorem Jhs {t e:Expr} (h:J6x e=false) (l:Nat) (env:Env):swapsWithSole [t] e l env=pure false:=Jdb h (some t) l env
theorem Jaa {o i:Expr} {p:Pos} (h:J35 i=true) (env:Env) (v:Value):assign (.Subscript o i p) env v= (do
   let ov ← holding [v] (eval o env)
   let iv ← holding [v,ov] (eval i env)
   standAt p
   holding [v,ov,iv] (setItem ov iv v)
   release [v,ov,iv] []):=by
 cases i <;> first | rfl | cases h
theorem Jht {i:Expr} (h:J35 i=true) (ov iv new:Value):augStore i ov iv new= (do holding [new,ov,iv] (setItem ov iv new);release [new,ov,iv] [];pure .next):=by
 cases i <;> first | rfl | cases h
theorem Jnd {e:Expr} (h:Ji e=true) (pos:Pos) (env:Env): ((backTo pos (starEach [e] env)).all (fun x=>!x.1) && (backToKw pos (keywordEach [] env)).all (fun x=>x.1.isSome) && decide (([e]:List Expr).length + ([]:List Keyword).length + (if ([]:List Keyword).isEmpty then 0 else 1) < 30))=true:=by
 rw [J9j h];rfl
end EV
namespace EV
open PySem PySem.Spec PyProof.Rows L2
theorem Jew {K:Zf} {C:Addr} (h:Jjn K C=true):OexC K C:=by
 unfold Jjn at h
 rw [Zb,Zb,Zb,Zb] at h
 obtain ⟨h1,h2,h3,h4,h5⟩:=h
 refine ⟨?_,Zd h2,Zd h3,Zd h4,h5⟩
 split at h1
 ·rename_i dd cd sl ho
  split at h1
  ·rename_i C' bm k0 k1 k2 k3 n k5 hm hs
   simp only [Zb,beq_iff_eq,Bool.not_eq_true'] at h1
   obtain ⟨rfl,rfl,hdel,hdict,hv⟩:=h1
   obtain ⟨nm,bs,mro,ns,qn,hd,sn,sub,ab,col,del⟩:=cd
   dsimp only at hm hdel hdict
   subst hm hdel hdict
   have hsl:sl= #[k0,k1,k2,k3,some (.builtin "ValueError.__new__"),k5]:=by
    obtain ⟨l⟩:=sl
    exact congrArg Array.mk hs
   subst hsl
   exact ⟨_,_,_,_,_,_,_,_,_,_,_,_,_,_,_,ho,hv⟩
  ·cases h1
 ·cases h1
section
variable {X:Cx} {o e:Expr} {es:List Expr} {ta:TA} {p p1 p2 pos:Pos} {x m:Str} {C:Addr} {k:Nat} {fd:FuncData} {ps:List Str} {sp:Sp} {ds:List Value} {dvs:List V} {E:XK}
theorem Jpi {pl:Sem Bool} (ho:Jfm X.K C m=true) (hk:PySem.W.keepIn X.K (.ref (He.ma X.K C m))=true) (G:FnOk X.prog X.w X.K X.mg X.base (L2.CX X.prog X.w) k (He.ma X.K C m) fd ps sp) (hr:Room k X.A) (hb:Binds X.K fd ps ds) (hd:Vals dvs ds) (hx:Passes (L2.CX X.prog X.w) X E) (hg:Gl X x) (hm:X.mg x=some (.ref C)) (ha:PA X (e::es) ta)
  (hdb: (x == ("__debug__" :Str))=false) (he:starEach (e::es) X.env= (false,eval e X.env)::starEach es X.env) (hpl: (backTo pos (starEach es X.env)).any (·.1)=false)
  (hc:eval (.Call (.Attribute (.Name x p1) m p2) (e::es) [] pos) X.env= (do
   let ov ← eval (.Name x p1) X.env
   standAt p2.atName
   let (f,first) ← holding [ov] (getMethod ov m pl)
   callWith pos f first (backTo pos (starEach (e::es) X.env)) (backToKw pos (keywordEach [] X.env)))):PE X (.Call (.Attribute (.Name x p1) m p2) (e::es) [] pos) (tCall sp dvs E ta):=by
 unfold Jfm at ho
 rw [Zb,Zb] at ho
 obtain ⟨o1,o2,o3⟩:=ho
 have o4:PySem.W.findCls X.K (.ref C) (.type "type") m=some (.val (.ref (He.ma X.K C m))):=by
  split at o3
  ·rename_i v hv;rw [hv,Zd o3]
  ·cases o3
 refine ⟨fun pins s σ H Q I h=>?_⟩
 refine PySem.W.methodCall_KW (ld_glob I hg hm ?_ hdb) hc
 refine PySem.W.method_cls I.kIn (Zd o2) (PySem.W.cls_value I.kIn o1 o4 rfl ?_)
 have I':=I.tok (s.toks + 1)
 refine PySem.W.callWith_K (h₀:=X.base) I.ok.mod.kin hk (thn (ha.run pos pins _ σ H _ I' h) fun us s1 ⟨vs,H1,I1,r1,q⟩=>⟨I1.kIn,?_⟩) he hpl
 exact run_fn G hr hb hd hx I1 r1 q
theorem Jkg (T:OexC X.K C) (hi:J6g X.K C=true) (G:FnOk X.prog X.w X.K X.mg X.base (L2.CX X.prog X.w) k (He.ma X.K C "__init__") fd ps sp) (hr:Room (k + 1) X.A) (hb:Binds X.K fd ps ds) (hd:Vals dvs ds) (hx:Passes (L2.CX X.prog X.w) X (fun _ _ _=>False)) (hg:Gl X x) (hm:X.mg x=some (.ref C)) (hdb: (x == ("__debug__" :Str))=false):
  PMk X (.Call (.Name x p) [] [] pos) (tMkO C sp dvs tNil):=by
 unfold J6g at hi
 rw [Zb] at hi
 have iC:=Zd hi.1
 have tI:=Zd hi.2
 intro pins s σ H Q I ⟨_,hs⟩
 obtain ⟨nm,q,N,bs,bm,sn,sub,ab,col,dd,k0,k1,k2,k3,k5,hC,hbm⟩:=T.cls
 refine wpAny_Call_Name_kw (ld_glob I hg hm ?_ hdb)
 refine PySem.W.callWith_K0 I.kIn T.kC ?_
 show wpAny _ _ (call (.ref C) []) _ _ _
 obtain ⟨hp,g,dr,tk,os⟩:=s
 have z1:hp.objs.size≤hp.objs.size + 1:=Nat.le_succ _
 have hq:=hs (hp.objs.size + 1) (I.hok.fresh z1)
 rw [List.nil_append] at hq
 have up:∀b u,hp.get? b=some u→((hp.push (PySem.W.kdv_tup [])).push (PySem.HandSPX.excO C hp.objs.size)).get? b=some u:=fun b u z=>Heap.get?_push_of_some _ (Heap.get?_push_of_some _ z)
 have new: ((hp.push (PySem.W.kdv_tup [])).push (PySem.HandSPX.excO C hp.objs.size)).get? (hp.objs.size + 1)=some (PySem.HandSPX.excO C hp.objs.size):=by heap_get
 have J:Inv X pins σ (upd H (hp.objs.size + 1) (exo (hp.objs.size + 1) C none)) ⟨(hp.push (PySem.W.kdv_tup [])).push (PySem.HandSPX.excO C hp.objs.size),g,dr,tk,os⟩:=
  I.laid (t':=tk) up z1 (exo_ok new)
 have rv:Vals (V.ref (hp.objs.size + 1)::dvs) ([Value.ref (hp.objs.size + 1)]++ds):= .cons rfl hd
 have hl: ([Value.ref (hp.objs.size + 1)]++ds).length=ps.length:=by
  have z:=rv.length
  rw [G.len _ _ _ _ hq] at z
  exact z.symm
 refine wpAny_call (PySem.HandSPX.call_own F.excBase_ValueError (fun Y=>PySem.HandSPX.refsVE_contains Y bm hbm) (I.kIn _ _ hC) (PySem.W.looks_findIn I.kIn iC) (fun self=>PySem.W.bind_fn I.kIn self tI) (Nat.zero_le _)
  (codeAny_mono (G.run _ X.stack _ _ ⟨[Value.ref (hp.objs.size + 1)],[]⟩ ([Value.ref (hp.objs.size + 1)]++ds) (V.ref (hp.objs.size + 1)::dvs) _ (fun _ _ _=>False) (hr.make C [] []) (J.env0.make C [] []) (hb _ [Value.ref (hp.objs.size + 1)] J.kIn hl) rv hq) fun r s' hq'=>?_))
 cases r with
 | error er=>exact hx pins σ _ _ er s' J hq'
 | ok fl=>
  cases fl with
  | ret u=>
   obtain ⟨v,H2,os2,bare2,un2,hok2,r2,ev,d,fs,ea,ed,hd1,q2⟩:=hq'
   subst ev
   obtain ⟨h2,g2,d2,t2,os'⟩:=s'
   exact ⟨r2,mk_end (raises_own T.exC T.tyC) I z1 up un2 hok2 os2 bare2 ea ed hd1 q2⟩
  | next=>exact False.elim hq'
  | brk=>exact False.elim hq'
  | cont=>exact False.elim hq'
end
noncomputable def Jri (p1 p2 p3 p4:Pos):List Stmt:= [.Assign [.Attribute (.Name "self" p1) "word" p2] (.Name "word" p3) p4]
noncomputable def Jsc (b w:Str) (j:Nat) (p1 p2 p3 p4 p5 p6:Pos):List Stmt:= [.Expr (.Call (.Attribute (.Name b p1) "__init__" p2) [.Name "self" p3,.Constant (.str w) j p4] [] p5) p6]
noncomputable def wordAt (a C:Addr) (w:Str) (H:Hp) (Q:VK):Prop:=∀dx,H dx=none→dx≠a→Q .non (upd (upd H dx (exd dx [("word",.str w)])) a (exo a C (some dx)))
noncomputable def Jdc (K:Zf):Sp:=fun vs H Q _=>∃a C w,vs= [.ref a,.str w]∧OexC K C∧PySem.W.findIn K (.ref C) "word" =some none∧H a=some (exo a C none)∧wordAt a C w H Q
noncomputable def J8r (K:Zf) (w:Str):Sp:=fun vs H Q _=>∃a C,vs= [.ref a]∧OexC K C∧PySem.W.findIn K (.ref C) "word" =some none∧H a=some (exo a C none)∧wordAt a C w H Q
theorem Jex {X:Cx}:Passes (L2.CX X.prog X.w) X (fun _ _ _=>False):=fun _ _ _ _ _ _ _ ⟨_,_,_,_,_,_,_,_,_,_,_,_,z⟩=>z.elim
theorem Jne {P:Program} {w:World} {K:Zf} {mg:Str→Option Value} {base:Heap} {x q:Str} {params:Arguments} {scope:Scope} {dvs:List V} {kws:List (Str × V)} {f:Addr} {fd:FuncData} {p1 p2 p3 p4:Pos} (F:FunD K x q params (Jri p1 p2 p3 p4) scope dvs kws f fd) (sc:FnScope ["self", "word"] ["self", "word"] scope):
  FnOk P w K mg base (L2.CX P w) 1 f fd ["self", "word"] (Jdc K):=by
 refine F.ok sc (fun vs H Q E ⟨a,C,w',e,_⟩=>by rw [e];rfl) (fun cdv A outer s H vs Q E hr ⟨a,C,w',e,T,hw,ha,q⟩=>⟨tOst K "word" (tVar 0) (tVar 1),?_,?_⟩)
 ·have v0:Vis scope "self" :=(sc.par "self" (by decide)).elim .inl fun z=> .inr (.inl z)
  have v1:Vis scope "word" :=(sc.par "word" (by decide)).elim .inl fun z=> .inr (.inl z)
  exact pss_one (ps_ost (pv 0 rfl v0) (pv 1 rfl v1))
 ·subst e
  exact ⟨_,rfl,_,rfl,a,C,rfl,T,hw,.inl ⟨ha,fun dx nd ne=>q dx nd ne⟩⟩
theorem Jhu {P:Program} {w:World} {K:Zf} {mg:Str→Option Value} {base:Heap} {x qn b wd:Str} {params:Arguments} {scope:Scope} {dvs:List V} {kws:List (Str × V)} {f:Addr} {fd fdE:FuncData} {j k:Nat} {p1 p2 p3 p4 p5 p6:Pos} (F:FunD K x qn params (Jsc b wd j p1 p2 p3 p4 p5 p6) scope dvs kws f fd) (sc:FnScope ["self"] ["self"] scope)
  (G:FnOk P w K mg base (L2.CX P w) k (He.ma K (He.ga K b) "__init__") fdE ["self", "word"] (Jdc K)) (hb:Binds K fdE ["self", "word"] []) (ho:Jfm K (He.ga K b) "__init__" =true) (hk:PySem.W.keepIn K (.ref (He.ma K (He.ga K b) "__init__"))=true) (hm:mg b=some (.ref (He.ga K b))) (hg:scope.names.lookup b=some .globalImplicit) (hdb: (b == ("__debug__" :Str))=false) (hl: (p2.endLine == p5.line)=true):
  FnOk P w K mg base (L2.CX P w) (k + 1) f fd ["self"] (J8r K wd):=by
 refine F.ok sc (fun vs H Q E ⟨a,C,e,_⟩=>by rw [e];rfl) (fun cdv A outer s H vs Q E hr ⟨a,C,e,T,hw,ha,q⟩=>⟨tDrop (tCall (Jdc K) [] (fun _ _ _=>False) (tCons (tVar 0) (tCons (tC (.str wd)) tNil))),?_,?_⟩)
 ·have v0:Vis scope "self" :=(sc.par "self" (by decide)).elim .inl fun z=> .inr (.inl z)
  refine pss_one (ps_expr (Jpi (pl:=plainOf (.Name b p1) (PyProof.Rows.envOfC qn scope s.heap.objs.size f cdv)) ho hk G hr hb .nil Jex hg hm (pa_cons (pv 0 rfl v0) (pa_cons pe_str pa_nil)) hdb rfl rfl ?_) rfl)
  have m1:=fun ov=>mcall_line (o:= .Name b p1) (m:= "__init__") (apos:=p2) (pos:=p5) (env:=PyProof.Rows.envOfC qn scope s.heap.objs.size f cdv) (ov:=ov) (n:=2) (args:=backTo p5 (starEach [.Name "self" p3,.Constant (.str wd) j p4] (PyProof.Rows.envOfC qn scope s.heap.objs.size f cdv))) (kws:=backToKw p5 (keywordEach [] (PyProof.Rows.envOfC qn scope s.heap.objs.size f cdv))) rfl hl
  show (do
   let ov ← eval (.Name b p1) (PyProof.Rows.envOfC qn scope s.heap.objs.size f cdv)
   standAt p2.atName
   methodCall (.Name b p1) "__init__" p2 p5 (PyProof.Rows.envOfC qn scope s.heap.objs.size f cdv) ov 2 (backTo p5 (starEach [.Name "self" p3,.Constant (.str wd) j p4] (PyProof.Rows.envOfC qn scope s.heap.objs.size f cdv))) (backToKw p5 (keywordEach [] (PyProof.Rows.envOfC qn scope s.heap.objs.size f cdv))))=_
  simp only [m1]
  rfl
 ·subst e
  exact ⟨_,rfl,a,C,wd,rfl,T,hw,ha,fun dx nd ne=>q dx nd ne⟩
noncomputable def ExZ (X:Cx) (c w:Str):Prop:=X.mg c=some (.ref (He.ga X.K c))∧OexC X.K (He.ga X.K c)∧J6g X.K (He.ga X.K c)=true∧PySem.W.findIn X.K (.ref (He.ga X.K c)) "word" =some none∧∃ (k:Nat) (fd:FuncData),FnOk X.prog X.w X.K X.mg X.base (L2.CX X.prog X.w) k (He.ma X.K (He.ga X.K c) "__init__") fd ["self"] (J8r X.K w)∧Room (k + 1) X.A∧Binds X.K fd ["self"] []
theorem ExZ.pmk {X:Cx} {c w:Str} {p pos:Pos} (h:ExZ X c w) (hg:Gl X c) (hdb: (c == ("__debug__" :Str))=false):PMk X (.Call (.Name c p) [] [] pos) (fun _ H Q=>∀d,H d=none→Q (.ref (He.ga X.K c)) (some d) (upd H d (.xd [("word",.str w)]))):=by
 obtain ⟨hm,T,hi,hw,k,fd,G,hr,hb⟩:=h
 intro pins s σ H Q I q
 refine Jkg T hi G hr hb .nil Jex hg hm hdb pins s σ H Q I ⟨Nat.zero_le _,fun a na=>⟨a,_,rfl,T,hw,upd_same,fun dx nd ne=>⟨rfl,dx,[("word",.str w)],upd_same,?_,?_,?_⟩⟩⟩
 ·rw [upd_ne ne,upd_same]
 ·rw [upd_ne ne] at nd;exact nd
 ·have nd':H dx=none:=by rw [upd_ne ne] at nd;exact nd
  have e:upd (del (upd (upd (upd H a (exo a (He.ga X.K c) none)) dx (exd dx [("word",.str w)])) a (exo a (He.ga X.K c) (some dx))) a) dx (.xd [("word",.str w)])=upd H dx (.xd [("word",.str w)]):=by
   funext b
   by_cases hb:b=dx
   ·rw [hb,upd_same,upd_same]
   ·rw [upd_ne hb,upd_ne hb]
    by_cases ha:b=a
    ·rw [ha,del_same,na]
    ·rw [del_ne ha,upd_ne ha,upd_ne hb,upd_ne ha]
  rw [e]
  exact q dx nd'
end EV
namespace EV
open PySem PySem.Spec L2 PyProof.Rows
noncomputable def Jb9 (g1 g2:D→D→Option D) (f1 f2 f3:Gam→Rz D) (Γ:Gam):Rz D:=(f1 Γ).bind fun x Γ1=>(f2 Γ1).bind fun y Γ2=>match g1 x y with
 | some (.bl true)=>(f3 Γ2).bind fun z Γ3=>Rz.opt (g2 y z) Γ3
 | some (.bl false)=> .ok (.bl false) Γ2
 | _=> .bad
section
variable {X:Cx} {w:Wh} {μ μ1 μ2 μ3:List Mode} {a b c d:Expr} {f1 f2 f3 f4:Gam→Rz D} {m1 m3 m4:Mode} {pos:Pos} {g1 g2 g3:D→D→Option D} {r r' r'':R2} {op op' op'':CmpOp}
theorem R.zAny {K:Zf} {B H B' H':Hp} {d:D} {v:V} {fp:List Addr} (h:R K B H d .Z v fp):R K B' H' d .Z v []:=by
 have e:=h.fpZ
 subst e
 cases d <;> first | exact h | exact h.elim
theorem Jnf {K:Zf} {σ:L2.St} {H0 H B0 B:Hp} {Γ:Gam} {fp0 fp:List Addr} {y:D} {v:V} {Q:VK} (od':OpD K r' .Z m3 g2 .Z) (s:Stp B0 H0 fp0 B H fp) (st:Sta K B H Γ μ2 σ fp) (ry:R K B H y .Z v [])
  (q:match (f3 Γ).bind (fun z Γ3=>Rz.opt (g2 y z) Γ3) with
   | .ok d Γ'=>∀B' H' v fpv fp',Stp B0 H0 fp0 B' H' (fpv++fp')→Sta K B' H' Γ' μ2 σ fp'→R K B' H' d .Z v fpv→(fpv++fp').Nodup→Q v H'
   | .exc x Γ'=>J18 K w B0 H0 fp0 σ x Γ'
   | .bad=>False):tD K w μ2 f3 m3 μ2 σ H fun w' H4=>r' v w' H4 Q:=by
 refine ⟨B,Γ,fp,st,?_⟩
 cases e3:f3 Γ with
 | bad=>rw [e3] at q;exact q.elim
 | exc x Γ'=>rw [e3] at q;exact J18.after (l:= []) q s
 | ok z Γ3=>
  rw [e3] at q
  intro B4 H4 u fu fp4 s4 st4 r4 n4
  have q':match Rz.opt (g2 y z) Γ3 with
   | .ok d Γ'=>∀B' H' v fpv fp',Stp B0 H0 fp0 B' H' (fpv++fp')→Sta K B' H' Γ' μ2 σ fp'→R K B' H' d .Z v fpv→(fpv++fp').Nodup→Q v H'
   | .exc x Γ'=>J18 K w B0 H0 fp0 σ x Γ'
   | .bad=>False:=q
  cases e4:g2 y z with
  | none=>rw [e4] at q';exact q'.elim
  | some d=>
   rw [e4] at q'
   refine od' B4 H4 y z d v u [] fu Q st4.same ry.zAny r4 (J0.mp n4).1 e4 ?_
   exact J2o (s.trans s4) st4 (fun a h=>(R.own z r4 a h).2) n4 q'
theorem Jc5 {K:Zf} {σ:L2.St} {H:Hp} {Q:VK} (od:OpD K r m1 .Z g1 .Z) (od':OpD K r' .Z m3 g2 .Z) (q:tD K w μ (Jb9 g1 g2 f1 f2 f3) .Z μ2 σ H Q):
  tChain r r' (tD K w μ f1 m1 μ1) (tD K w μ1 f2 .Z μ2) (tD K w μ2 f3 m3 μ2) σ H Q:=by
 obtain ⟨B,Γ,fp,st,q⟩:=q
 refine ⟨B,Γ,fp,st,?_⟩
 unfold Jb9 at q
 cases e1:f1 Γ with
 | bad=>rw [e1] at q;exact q.elim
 | exc x Γ'=>rw [e1] at q;exact q
 | ok x Γ1=>
  rw [e1] at q
  intro B1 H1 u fu fp1 s1 st1 r1 n1
  refine ⟨B1,Γ1,fp1,st1,?_⟩
  simp only [Rz.bind] at q
  cases e2:f2 Γ1 with
  | bad=>rw [e2] at q;exact q.elim
  | exc x Γ'=>rw [e2] at q;exact J18.after q s1
  | ok y Γ2=>
   rw [e2] at q
   intro B2 H2 v fv fp2 s2 st2 r2 n2
   dsimp only at q
   have ez:=r2.fpZ
   subst ez
   have r1':R K B2 H2 x m1 u fu:=r1.over (s2.less fun a h=>Zr _ h) n1
   have nn: (fu++fp2).Nodup:=J1s (fun a h=>(R.own x r1 a h).2) (by simpa using s2) n1 (by simpa using n2)
   have s12:Stp B H fp B2 H2 (fu++fp2):=by have:=s1.seq (s2.less (fp2:=fp2) fun a h=>by simpa using h);exact this
   cases e3:g1 x y with
   | none=>rw [e3] at q;exact q.elim
   | some dd=>
    rw [e3] at q
    cases dd with
    | bl k=>
     refine od B2 H2 x y (.bl k) u v fu [] _ st2.same r1' r2 (by simpa using (J0.mp nn).1) e3 fun B3 H3 v3 fp3 s3 sm3 r3 n3=>?_
     obtain ⟨rfl,rfl⟩:=r3
     have n:=J0.mp nn
     have s3':Stp B2 H2 fu B3 H3 []:=by simpa using s3
     have kp:Kept B3 H2 H3 fp2:=s3'.kept (K:=K) st2.st.own fun a h q=>n.2.2 a q h
     have st3:Sta K B3 H3 Γ2 μ2 σ fp2:=⟨sm3,st2.st.mono s3'.base kp,st2.nd⟩
     have s13:Stp B H fp B3 H3 fp2:=by
      refine s12.trans ?_
      have:=s3'.more (fp2:=fu++fp2) fun a h=>Zl _ h
      exact ⟨this.base,this.keep,fun a h=> .inl (Zr _ h),this.new⟩
     refine ⟨k,rfl,?_⟩
     cases k with
     | true=>
      rw [if_pos rfl]
      exact Jnf od' s13 st3 r2.zAny q
     | false=>
      rw [if_neg (by decide)]
      exact q B3 H3 _ [] fp2 s13 st3 ⟨rfl,rfl⟩ st3.nd
    | _=>exact q.elim
theorem DE.ch2 (ho:OpR X (compareOp op) r) (od:OpD X.K r m1 .Z g1 .Z) (ho':OpR X (compareOp op') r') (od':OpD X.K r' .Z m3 g2 .Z) (ha:DE X w μ a f1 m1 μ1) (hb:DE X w μ1 b f2 .Z μ2) (hc:DE X w μ2 c f3 m3 μ2) (hm:lastMarks [op,op'] [b,c]=false):DE X w μ (.Compare a [op,op'] [b,c] pos) (Jb9 g1 g2 f1 f2 f3) .Z μ2:=
 ⟨(pe_chain ho ho' ha.pe hb.pe hc.pe hm).imp fun σ H Q q=>Jc5 od od' q⟩
theorem DT.ch2 (ho:OpR X (compareOp op) r) (od:OpD X.K r m1 .Z g1 .Z) (ho':OpR X (compareOp op') r') (od':OpD X.K r' .Z m3 g2 .Z) (ha:DE X w μ a f1 m1 μ1) (hb:DE X w μ1 b f2 .Z μ2) (hc:DE X w μ2 c f3 m3 μ2) (hm:lastMarks [op,op'] [b,c]=false):DT X w μ (.Compare a [op,op'] [b,c] pos) (eB (Jb9 g1 g2 f1 f2 f3)) μ2:=
 ⟨(pt_chain ho ho' ha.pe hb.pe hc.pe hm).imp fun σ H Q q=>by
  show tChain r r' _ _ _ σ H _
  exact Jc5 od od' (Jfq q)⟩
end
section
variable {X:Cx} {w:Wh} {μ μ1 μ2 μ3:List Mode} {a b c d:Expr} {f1 f2 f3 f4:Gam→Rz D} {m1 m3 m4:Mode} {pos:Pos} {g1 g2 g3:D→D→Option D} {r r' r'':R2} {op op' op'':CmpOp}
end
mutual
noncomputable def J3n:D→D→Bool
 | .non,.non=>true
 | .bl a,.bl b=>a == b
 | .int a,.int b=>decide (a=b)
 | .str a,.str b=>decide (a=b)
 | .lst a,.lst b=>J2e a b
 | .tup a,.tup b=>J2e a b
 | .dct k a,.dct l b=>J2e k l && J2e a b
 | .obj c n a,.obj d m b=>decide (c=d) && (decide (n=m) && J2e a b)
 | _,_=>false
noncomputable def J2e:List D→List D→Bool
 | [],[]=>true
 | a::as,b::bs=>J3n a b && J2e as bs
 | _,_=>false
end
mutual
theorem J6z:∀a b:D,J3n a b=true→a=b
 | .non,b,h=>by cases b <;> first | rfl | cases h
 | .bl a,b,h=>by
  cases b <;> first | (cases h;done) | skip
  have h': (a == _)=true:=h
  rw [eq_of_beq h']
 | .int a,b,h=>by
  cases b <;> first | (cases h;done) | skip
  rw [Zd (show decide (a=_)=true from h)]
 | .str a,b,h=>by
  cases b <;> first | (cases h;done) | skip
  rw [Zd (show decide (a=_)=true from h)]
 | .lst a,b,h=>by
  cases b <;> first | (cases h;done) | skip
  rw [J4v a _ h]
 | .tup a,b,h=>by
  cases b <;> first | (cases h;done) | skip
  rw [J4v a _ h]
 | .dct k a,b,h=>by
  cases b <;> first | (cases h;done) | skip
  have h': (J2e k _ && J2e a _)=true:=h
  rw [Zb] at h'
  rw [J4v k _ h'.1,J4v a _ h'.2]
 | .obj c n a,b,h=>by
  cases b <;> first | (cases h;done) | skip
  have h': (decide (c=_) && (decide (n=_) && J2e a _))=true:=h
  rw [Zb,Zb] at h'
  rw [Zd h'.1,Zd h'.2.1,J4v a _ h'.2.2]
theorem J4v:∀a b:List D,J2e a b=true→a=b
 | [],b,h=>by cases b <;> first | rfl | cases h
 | a::as,b,h=>by
  cases b <;> first | (cases h;done) | skip
  have h': (J3n a _ && J2e as _)=true:=h
  rw [Zb] at h'
  rw [J6z a _ h'.1,J4v as _ h'.2]
end
noncomputable def GC (K:Zf) (mg:Str→Option Value) (x:Str) (d:D):Prop:=∃ (u:Value) (v:V),mg x=some u∧RelV v u∧∀B H,R K B H d .F v []
theorem DE.glob {X:Cx} {w:Wh} {μ:List Mode} {x:Str} {d:D} {pos:Pos} (hg:Gl X x) (hd: (x == ("__debug__" :Str))=false) (h:GC X.K X.mg x d):DE X w μ (.Name x pos) (eC d) .F μ:=by
 obtain ⟨u,v,e,r,q⟩:=h
 exact ⟨(pe_glob hg e r hd).imp fun σ H Q ⟨B,Γ,fp,st,k⟩=>k B H _ [] fp (Stp.refl _ _ _) st (q B H) st.nd⟩
noncomputable def J87:D→D→Option D
 | .tup ds,.tup es=>if ds.length + es.length≤sizeLine then some (.tup (ds++es)) else none
 | _,_=>none
theorem Rl.app {K:Zf} {B H:Hp} {m:Mode}:∀{ds es:List D} {vs us:List V},Rl K B H ds m vs []→Rl K B H es m us []→Rl K B H (ds++es) m (vs++us) []
 | [],es,vs,us,h,k=>by rw [h.1];exact k
 | d::ds,es,vs,us,h,k=>by
  obtain ⟨v,r,f1,f2,rfl,h1,h2,e⟩:=h
  have e1:f1= []:=(List.append_eq_nil_iff.mp e.symm).1
  have e2:f2= []:=(List.append_eq_nil_iff.mp e.symm).2
  subst e1 e2
  exact ⟨v,r++us,[],[],rfl,h1,h2.app k,rfl⟩
theorem Jkh {K:Zf}:OpD K (rCatA K) .F .F J87 .F:=by
 intro B H x y d u v fp1 fp2 Q s r1 r2 nd e c
 cases x with
 | tup ds=>
  cases y with
  | tup es=>
   have e': (if ds.length + es.length≤sizeLine then some (D.tup (ds++es)) else none)=some d:=e
   split at e'
   ·rename_i hl
    cases e'
    obtain ⟨rfl,a,vs,rfl,ha,la,ra⟩:=r1
    obtain ⟨rfl,b,us,rfl,hb,lb,rb⟩:=r2
    refine ⟨a,b,vs,us,rfl,rfl,(s).sqT ha,(s).sqT hb,by rw [ra.len,rb.len];exact hl,fun z=>?_,fun z1 z2=>?_,fun z1 z2 p hp=>?_⟩
    ·have:ds= []:=by
      have:=ra.len
      rw [z] at this
      exact List.length_eq_zero_iff.mp this.symm
     subst this
     exact c B H (.ref b) [] (Stp.refl _ _ _) s ⟨rfl,b,us,rfl,hb,lb,rb⟩ List.nodup_nil
    ·have:es= []:=by
      have:=rb.len
      rw [z2] at this
      exact List.length_eq_zero_iff.mp this.symm
     subst this
     exact c B H (.ref a) [] (Stp.refl _ _ _) s ⟨rfl,a,vs,rfl,ha,by rw [List.append_nil];exact la,by rw [List.append_nil];exact ra⟩ List.nodup_nil
    ·have bp:B p=none:=by
      cases e:B p with
      | none=>rfl
      | some o=>rw [s.free hp] at e;cases e
     have sb:Same B (upd B p (.tup (vs++us))):=fun q o e=>by
      rw [upd_ne (ne_of_none e bp)];exact e
     refine c (upd B p (.tup (vs++us))) (upd H p (.tup (vs++us))) (.ref p) [] ⟨sb,fun q o n e=> .inl (by rw [upd_ne (ne_of_none e hp)];exact e),(fun q h=>nomatch h),fun q o e=>?_⟩ (s.both hp) ⟨rfl,p,vs++us,rfl,SqT.of upd_same,by rw [List.length_append];exact hl,(ra.mono sb _ Kept.nil).app (rb.mono sb _ Kept.nil)⟩ List.nodup_nil
     ·by_cases z:q=p
      ·subst z;exact .inr (.inr hp)
      ·rw [upd_ne z] at e;exact .inl e
   ·cases e'
  | _=>cases e
 | _=>cases y <;> cases e
noncomputable def Jpj (i j:Nat) (f:Gam→Rz (List D)) (Γ:Gam):Sz:=(f Γ).s fun ds Γ1=>match ds with
 | [x,y]=> .nx ((Γ1.set i (some x)).set j (some y))
 | _=> .bad
theorem StR.put_flat {K:Zf} {B H:Hp} {Γ:Gam} {μ:List Mode} {σ:L2.St} {fp:List Addr} {d:D} {v:V} {i:Nat} {m:Mode} (st:Sta K B H Γ μ σ fp) (r:R K B H d m v []) (hi:i < σ.length):∃fp',Stp B H fp B H fp'∧Sta K B H (Γ.set i (some d)) (μ.set i m) (σ.set i (some v)) fp':=by
 obtain ⟨fp',s,q⟩:=J6w (i:=i) st r (by simpa using st.nd) hi
 exact ⟨fp',by simpa using s,q⟩
theorem DS.par {X:Cx} {z:Ws} {μ μ2:List Mode} {i j:Nat} {x y:Str} {a b:Expr} {f:Gam→Rz (List D)} {m1 m2:Mode} {px py pt pos:Pos} {kt:_} {k2 pt2:_} (hc:X.calm=true) (hN:X.N.Nodup) (hi:X.N[i]? =some x) (hj:X.N[j]? =some y) (hij:i≠j)
  (hx:X.env.scope.names.lookup x=some .local) (hy:X.env.scope.names.lookup y=some .local) (ha:DA X z.w μ [a,b] f [m1,m2] μ2) (h1:J1k m1=true) (h2:J1k m2=true) (l1:i < μ2.length) (l2:j < μ2.length)
  (hw:swappedStores [.Tuple [.Name x px,.Name y py] kt pt] (.Tuple [a,b] k2 pt2) X.env=pure (some [x,y])) (p1:J4g z.pin i) (p2:J4g z.pin j):
  DS X z μ (.Assign [.Tuple [.Name x px,.Name y py] kt pt] (.Tuple [a,b] k2 pt2) pos) (Jpj i j f) ((μ2.set i m1).set j m2):=by
 refine ⟨(ps_par hc hN hi hj hij hx hy ha.pa hw).imp fun D σ H ⟨hp,B,Γ,fp,st,q⟩=>⟨B,Γ,fp,st,?_⟩⟩
 unfold Jpj at q
 cases e:f Γ with
 | bad=>rw [e] at q;exact q.elim
 | exc x Γ'=>
  rw [e] at q
  exact fun B' H' fpe fp' cls dd s st' ex nd=>q σ B' H' fpe fp' cls dd s st' ex nd hp
 | ok ds Γ1=>
  rw [e] at q
  intro B' H' vs fpv fp' s st' ra nd
  rcases ds with _ | ⟨d1,_ | ⟨d2,_ | ⟨d3,r⟩⟩⟩
  ·exact ra.elim
  ·obtain ⟨_,_,_,_,_,_,q,_⟩:=ra;exact q.elim
  ·obtain ⟨v1,r1,f1,f2,rfl,q1,q2,rfl⟩:=ra
   obtain ⟨v2,r2,f3,f4,rfl,q3,q4,rfl⟩:=q2
   obtain ⟨rfl,rfl⟩:=q4
   have e1:f1= []:=by
    cases m1 with
    | F=>exact q1.fpF
    | Z=>exact q1.fpZ
    | _=>cases h1
   have e3:f3= []:=by
    cases m2 with
    | F=>exact q3.fpF
    | Z=>exact q3.fpZ
    | _=>cases h2
   subst e1 e3
   have s':Stp B H fp B' H' fp':=by simpa using s
   obtain ⟨fp1,s1,st1⟩:=StR.put_flat (i:=i) st' q1 (by rw [← st'.st.len.2];exact l1)
   obtain ⟨fp2,s2,st2⟩:=StR.put_flat (i:=j) st1 q3 (by rw [List.length_set,← st'.st.len.2];exact l2)
   exact ⟨v1,v2,rfl,q _ B' H' fp2 (s'.trans (s1.trans s2)) st2 ((hp.set p1).set p2)⟩
  ·obtain ⟨_,_,_,_,_,_,⟨_,_,_,_,_,_,q,_⟩,_⟩:=ra;exact q.elim
noncomputable def Jpk:List D→Option D
 | [.int i]=>some (.int i)
 | [.bl k]=>some (.int (if k=true then 1 else 0))
 | _=>none
theorem Jng {K:Zf} {m:Mode}:NaD K (fun xs H Q=>(∃i,xs= [.int i]∧Q (.int i) H)∨∃k,xs= [.bl k]∧Q (.int (if k then 1 else 0)) H) [m] Jpk .Z:=by
 intro B H xs d us fp1 Q s r nd e c
 obtain ⟨x,v,rfl,rfl,r1⟩:=r.one
 cases x with
 | int i=>
  obtain ⟨rfl,rfl⟩:=r1
  cases e
  exact .inl ⟨i,rfl,c.flat s ⟨rfl,rfl⟩⟩
 | bl k=>
  obtain ⟨rfl,rfl⟩:=r1
  cases e
  exact .inr ⟨k,rfl,c.flat s ⟨rfl,rfl⟩⟩
 | _=>cases e
noncomputable def Jm5 (K:Zf):R2:=fun x y H Q=>∃a b xs ys,x= .ref a∧y= .ref b∧SqL K H a xs∧SqL K H b ys∧xs.length + ys.length≤sizeLine∧∀p,H p=none→Q (.ref p) (upd H p (.lst (xs++ys)))
theorem Jnh {X:Cx}:OpR X (binaryOp .Add) (Jm5 X.K):=by
 intro pins s σ H x y v u Q I rx ry h
 obtain ⟨a,b,xs,ys,rfl,rfl,ha,hb,hz,q⟩:=h
 cases rx
 cases ry
 obtain ⟨its,r1,p1,_⟩:=I.list ha
 obtain ⟨its2,r2,p2,_⟩:=I.list hb
 have l1:=r1.length
 have l2:=r2.length
 obtain ⟨⟨cls,dd,data,sl⟩,n,ho,hc,hd1,hd⟩:=id p1
 obtain ⟨⟨cls2,dd2,data2,sl2⟩,n2,ho2,hc2,hd3,hd2⟩:=id p2
 simp only at hc hd hc2 hd2
 subst hc hd hc2 hd2
 have e:its.toArray++its2.toArray= (its++its2).toArray:=by simp
 refine concat_meets ⟨_,ho,rfl⟩ ⟨_,ho2,rfl⟩ noFill_list_add seq_list_add PySem.F.slot_list_add PySem.F.entry_list_add (PySem.F.args_list_add_2 _ _) (PyProof.Rows.list_addW a b its.toArray its2.toArray n n2 dd dd2 sl sl2 (by simp;omega)) ⟨ho,ho2,?_⟩
 rw [e]
 exact ⟨.ref _,_,I.lnew (t':=s.toks) (r1.append r2) (by rw [List.length_append];omega),rfl,q _ I.fresh⟩
theorem Jki {K:Zf}:OpD K (Jm5 K) .F .F Jk6 (.O .F):=by
 intro B H x y d u v fp1 fp2 Q s r1 r2 nd e c
 cases x with
 | lst ds=>
  cases y with
  | lst es=>
   have e': (if ds.length + es.length≤sizeLine then some (D.lst (ds++es)) else none)=some d:=e
   split at e'
   ·rename_i hl
    cases e'
    obtain ⟨rfl,a,vs,rfl,ha,la,ra⟩:=r1
    obtain ⟨rfl,b,us,rfl,hb,lb,rb⟩:=r2
    refine ⟨a,b,vs,us,rfl,rfl,(s).sqL ha,(s).sqL hb,by rw [ra.len,rb.len];exact hl,fun p hp=>?_⟩
    exact J3g c s ((ra.app rb).mono (Same.refl _) _ Kept.nil) (by rw [List.length_append];exact hl) (fun a h=>nomatch h) List.nodup_nil hp
   ·cases e'
  | _=>cases e
 | _=>cases e
noncomputable def Jpl:D→D→Option D
 | .lst ds,.int k=>if decide (-(2 ^ 63)≤k) && (decide (k < 2 ^ 63) && decide (ds.length * k.toNat≤sizeLine)) then some (.lst (List.replicate k.toNat ds).flatten) else none
 | _,_=>none
theorem Rl.rep {K:Zf} {B H:Hp} {m:Mode} {ds:List D} {vs:List V} (h:Rl K B H ds m vs []):∀n:Nat,Rl K B H (List.replicate n ds).flatten m (List.replicate n vs).flatten []
 | 0=>⟨rfl,rfl⟩
 | n + 1=>by
  rw [List.replicate_succ,List.replicate_succ,List.flatten_cons,List.flatten_cons]
  exact h.app (Rl.rep h n)
theorem Rl.fp0 {K:Zf} {B H:Hp} {m:Mode} (hm:m= .F∨m= .Z):∀{ds:List D} {vs:List V} {fp:List Addr},Rl K B H ds m vs fp→fp= []
 | [],vs,fp,h=>h.2
 | d::ds,vs,fp,h=>by
  obtain ⟨v,r,f1,f2,rfl,h1,h2,rfl⟩:=h
  have e2:=Rl.fp0 hm h2
  have e1:f1= []:=by
   rcases hm with rfl | rfl
   ·exact h1.fpF
   ·exact h1.fpZ
  rw [e1,e2];rfl
theorem Jey {K:Zf} {m:Mode} (hm:m= .F∨m= .Z):OpD K rRep (.O m) .Z Jpl (.O m):=by
 intro B H x y d u v fp1 fp2 Q s r1 r2 nd e c
 cases x with
 | lst ds=>
  cases y with
  | int k=>
   have e': (if decide (-(2 ^ 63)≤k) && (decide (k < 2 ^ 63) && decide (ds.length * k.toNat≤sizeLine)) then some (D.lst (List.replicate k.toNat ds).flatten) else none)=some d:=e
   split at e'
   ·rename_i h
    rw [Zb,Zb] at h
    cases e'
    obtain ⟨a,vs,fq1,rfl,b0,ha,hl,hr,rfl⟩:=r1
    obtain ⟨rfl,rfl⟩:=r2
    have z:=Rl.fp0 hm hr
    subst z
    have h1:=Zd h.1
    have h2:=Zd h.2.1
    have h3:=Zd h.2.2
    refine ⟨a,k,vs,rfl,rfl,ha,h1,h2,by rw [hr.len];exact h3,fun p hp=>J3g c s (hr.rep k.toNat) ?_ (fun a h=>nomatch h) List.nodup_nil hp⟩
    have: (List.replicate k.toNat ds).flatten.length=k.toNat * ds.length:=by
     induction k.toNat with
     | zero=>simp
     | succ n ih=>rw [List.replicate_succ,List.flatten_cons,List.length_append,ih,Nat.add_mul,Nat.one_mul,Nat.add_comm]
    rw [this,Nat.mul_comm];exact h3
   ·cases e'
  | _=>cases e
 | _=>cases e
end EV
namespace EV
open PySem PySem.Spec PyProof.Rows L2
noncomputable abbrev XFl:=List (Str × Bool)
noncomputable def Jkj (K:Zf) (dx:Addr):XFl→List V→List (Str × V)→Hp→VK→Prop
 | [],[],_,H,Q=>Q .non H
 | (f,false)::fl,v::vs,fs,H,Q=>Jkj K dx fl vs ((f,v)::fs) (upd H dx (exd dx ((f,v)::fs))) Q
 | (f,true)::fl,v::vs,fs,H,Q=>∃p xs,v= .ref p∧(SqL K H p xs∨SqT K H p xs)∧∀n,H n=none→Jkj K dx fl vs ((f,.ref n)::fs) (upd (upd H n (.lst xs)) dx (exd dx ((f,.ref n)::fs))) Q
 | _,_,_,_,_=>False
noncomputable def Jhv (K:Zf) (w:Str) (fl:XFl):Sp:=fun vs H Q _=>∃a C args,vs= .ref a::args∧args.length=fl.length∧fl.length≤800∧OexC K C∧PySem.W.findIn K (.ref C) "word" =some none∧(∀q∈fl,PySem.W.findIn K (.ref C) q.1=some none)∧H a=some (exo a C none)∧
 ∀dx,H dx=none→dx≠a→Jkj K dx fl args [("word",.str w)] (upd (upd H dx (exd dx [("word",.str w)])) a (exo a C (some dx))) Q
noncomputable def ExF (X:Cx) (c w:Str) (fl:XFl):Prop:=X.mg c=some (.ref (He.ga X.K c))∧OexC X.K (He.ga X.K c)∧J6g X.K (He.ga X.K c)=true∧PySem.W.findIn X.K (.ref (He.ga X.K c)) "word" =some none∧(∀q∈fl,PySem.W.findIn X.K (.ref (He.ga X.K c)) q.1=some none)∧(fl.map (·.1)).Nodup∧(("word" :Str)∉fl.map (·.1))∧fl.length≤800∧∃ (k:Nat) (fd:FuncData),FnOk X.prog X.w X.K X.mg X.base (L2.CX X.prog X.w) k (He.ma X.K (He.ga X.K c) "__init__") fd (("self" :Str)::fl.map (·.1)) (Jhv X.K w fl)∧Room (k + 1) X.A∧Binds X.K fd (("self" :Str)::fl.map (·.1)) []
noncomputable def XfF (K:Zf) (c f:Str):Prop:=XfC K (He.ga K c)∧PySem.W.findIn K (.ref (He.ga K c)) f=some none
end EV
namespace EV
open PySem PySem.Spec L2
theorem Rl.fpFlat {K:Zf} {B H:Hp}:∀{ds:List D} {m:Mode} {vs:List V} {fp:List Addr},J1k m=true→Rl K B H ds m vs fp→fp= []
 | [],m,vs,fp,_,h=>h.2
 | d::ds,m,vs,fp,hf,h=>by
  obtain ⟨v,r,f1,f2,rfl,h1,h2,rfl⟩:=h
  rw [J43 hf h1,Rl.fpFlat hf h2];rfl
theorem J9k:∀{s:List Sel} {m k:Mode} {j:Int},J12 m s=some (.O k)→J12 m (s++ [.ix j])=some k
 | [],m,k,j,h=>by
  cases h;rfl
 | y::s,m,k,j,h=>by
  cases m with
  | O a=>cases y <;> exact J9k (s:=s) (m:=a) h
  | B n a r=>
   cases y with
   | ix _=>cases h
   | fld c t=>
    have h': (J15 (.B n a r) t).bind (fun q=>J12 q s)=some (.O k):=h
    cases e:J15 (.B n a r) t with
    | none=>rw [e] at h';cases h'
    | some q=>
     rw [e] at h'
     show (J15 (.B n a r) t).bind (fun q=>J12 q (s++ [.ix j]))=some k
     rw [e]
     exact J9k (s:=s) h'
  | _=>cases y <;> cases h
noncomputable def Jdd (i:Nat) (g:Gam→Option (List Sel)) (lo hi:Option (Gam→Option Int)) (Γ:Gam):Rz D:=match g Γ,J4 Γ i with
 | some s,some d=>(match Jp d s with
  | some (.lst ds)=>(match oPx lo Γ,oPx hi Γ with
   | some l,some h=> .ok (.lst (cutD ds l h)) Γ
   | _,_=> .bad)
  | _=> .bad)
 | _,_=> .bad
noncomputable def catK (ds:List D) (i:Nat) (d y:D) (Γ1:Gam):Rz D:=match y with
 | .lst es=>if ds.length + es.length≤sizeLine then .ok (.lst (ds++es)) (Γ1.set i (some d)) else .bad
 | _=> .bad
noncomputable def Jab (i:Nat) (g:Gam→Option (List Sel)) (f:Gam→Rz D) (Γ:Gam):Rz D:=match g Γ,J4 Γ i with
 | some s,some d=>(match Jp d s with
  | some (.lst ds)=>(f (Γ.set i none)).bind (catK ds i d)
  | _=> .bad)
 | _,_=> .bad
section
variable {X:Cx} {w:Wh} {μ μ' μ1 μ2:List Mode} {e a b c o:Expr} {f f':Gam→Rz D} {m m' m1 m2 mi mc:Mode} {pos p2:Pos} {i:Nat} {x:Str} {g:Gam→Option (List Sel)}
theorem DE.slP {lo hi:Option Expr} {pl ph:Option (Gam→Option Int)} (ho:DPl X μ o i g) (em:μ[i]? =some mi) (hx:nX mi) (hm:∀Γ s,g Γ=some s→J12 mi s=some (.O mc)) (hf:J1k mc=true) (hl:DPo X μ lo pl) (hh:DPo X μ hi ph):DE X w μ (.Subscript o (.Slice lo hi Option.none p2) pos) (Jdd i g pl ph) (.O mc) μ:=by
 refine ⟨(pe_slice sl_list ho.pe hl.po hh.po).imp fun σ H Q ⟨B,Γ,fp,st,q⟩=>?_⟩
 unfold Jdd at q
 cases es:g Γ with
 | none=>rw [es] at q;exact q.elim
 | some s=>
 cases eg:J4 Γ i with
 | none=>rw [es,eg] at q;exact q.elim
 | some d=>
 rw [es,eg] at q
 dsimp only at q
 cases eP:Jp d s with
 | none=>rw [eP] at q;exact q.elim
 | some c=>
 rw [eP] at q
 cases c with
 | lst ds=>
  dsimp only at q
  cases e2:oPx pl Γ with
  | none=>rw [e2] at q;exact q.elim
  | some l=>
  cases e3:oPx ph Γ with
  | none=>rw [e2,e3] at q;exact q.elim
  | some k=>
  rw [e2,e3] at q
  obtain ⟨v,fp1,fp2,h1,h2,h3,h4,h5⟩:=StR.take (m0:= .U) st.st (J9 eg) em hx
  obtain ⟨u,fq,p1,r2,_⟩:=R.path h2 eP (hm _ _ es)
  obtain ⟨a,vs,fq0,rfl,b0,ha,hlen,hr,rfl⟩:=r2
  have z:=hr.fpFlat hf
  subst z
  obtain ⟨f2,a1,a2,a3⟩:=hr.cut l k
  have z2:f2= []:=a1.fpFlat hf
  subst z2
  refine ⟨B,Γ,fp,v,s,.ref a,st,es,h1,p1,B,Γ,fp,st,l,e2,B,Γ,fp,st,k,e3,a,vs,rfl,SqL.of ha,fun p hp=>?_⟩
  have s0:Stp B H fp B H (([]:List Addr)++fp):=Stp.refl _ _ _
  exact J3g (J2o s0 st (fun x hx=>nomatch hx) st.nd q) st.same a1 (Nat.le_trans (J9i ..) hlen) (fun x hx=>nomatch hx) List.nodup_nil hp
 | _=>exact q.elim
theorem DE.catP (ho:DPl X μ o i g) (em:μ[i]? =some mi) (hx:nX mi) (hm:∀Γ s,g Γ=some s→J12 mi s=some (.O mc)) (hf:J1k mc=true) (he:DE X w (μ.set i .U) b f (.O mc) μ1) (hu:μ1[i]? =some .U):DE X w μ (.BinOp o .Add b pos) (Jab i g f) (.O mc) (μ1.set i mi):=by
 refine ⟨(pe_op op_cat ho.pe he.pe).imp fun σ H Q ⟨B,Γ,fp,st,q⟩=>?_⟩
 unfold Jab at q
 cases es:g Γ with
 | none=>rw [es] at q;exact q.elim
 | some s=>
 cases eg:J4 Γ i with
 | none=>rw [es,eg] at q;exact q.elim
 | some d=>
 rw [es,eg] at q
 dsimp only at q
 cases eP:Jp d s with
 | none=>rw [eP] at q;exact q.elim
 | some c=>
 rw [eP] at q
 cases c with
 | lst ds=>
  dsimp only at q
  obtain ⟨v,fi,fr,h1,h2,h3,h4,h5⟩:=StR.take (m0:= .U) st.st (J9 eg) em hx
  have nir:=J0.mp (h4 st.nd)
  obtain ⟨u,fc,p1,r2,p3,_⟩:=R.path h2 eP (hm _ _ es)
  have r2':=r2
  obtain ⟨a,vs,fq0,rfl,b0,ha,hlen,hr,rfl⟩:=r2
  have z:=hr.fpFlat hf
  subst z
  have sta':Sta X.K B H (Γ.set i none) (μ.set i .U) σ fr:=⟨st.same,h3,nir.2.1⟩
  refine ⟨B,Γ,fp,v,s,.ref a,st,es,h1,p1,B,Γ.set i none,fr,sta',?_⟩
  have ownI:∀x∈fi,B x=none∧∃o,H x=some o:=R.own d h2
  have djI:∀x∈fi,x∉fr:=nir.2.2
  have less:Stp B H fp B H (([]:List Addr)++fr):=(Stp.refl _ _ _).less fun x hx=>(h5 x).mp (Zr _ hx)
  revert q
  cases ef:f (Γ.set i none) with
  | bad=>exact id
  | exc x Γ'=>exact fun q=>J18.after (l:= []) q less
  | ok y Γ1=>
   intro q B1 H1 v1 fpv fp1 s1 st1 r nd
   cases y with
   | lst es'=>
    simp only [Rz.bind,catK] at q
    by_cases hc:ds.length + es'.length≤sizeLine
    case neg=>rw [if_neg hc] at q;exact q.elim
    rw [if_pos hc] at q
    obtain ⟨b',us,fq2,rfl,b1,hb,hl2,hr2,rfl⟩:=r
    have z2:=hr2.fpFlat hf
    subst z2
    have kI:=s1.kept (K:=X.K) ownI djI
    have apI:=s1.apart (fun x hx=>(ownI x hx).2) djI
    have h2':R X.K B1 H1 d mi v fi:=h2.mono s1.base d kI
    have nn:=J0.mp nd
    obtain ⟨fpB,c1,c2,c3⟩:=st1.st.putO h1 (i:=i) (m:=mi) (g:=some d) (.inr ⟨v,rfl,h2'⟩)
    have stB:Sta X.K B1 H1 (Γ1.set i (some d)) (μ1.set i mi) σ fpB:=⟨st1.same,c1,c2 (J0.mpr ⟨nir.1,nn.2.1,fun x hx hy=>apI x hx (Zr _ hy)⟩)⟩
    have hA1:H1 a=some (.lst vs):=(kI a (p3 a Zs)).1 _ ha
    have hr1:Rl X.K B1 H1 ds mc vs []:=hr.mono s1.base ds Kept.nil
    refine ⟨a,b',vs,us,rfl,rfl,hA1,hb,by rw [hr.len,hr2.len];exact hc,fun p hp=>?_⟩
    have sAll:Stp B H fp B1 H1 (([]:List Addr)++fpB):=by
     have s2:Stp B H (fi++fr) B1 H1 (fi++ (([b']:List Addr)++fp1)):=s1.frame fi
     refine (s2.more fun x hx=>(h5 x).mp hx).less fun x hx=>?_
     rcases Zp.mp (c3 x hx) with y | y
     ·exact Zl _ y
     ·exact Zr _ (Zr _ y)
    exact J3g (J2o sAll stB (fun x hx=>nomatch hx) stB.nd q) st1.same (hr1.append hr2) (by rw [List.length_append];exact hc) (fun x hx=>nomatch hx) List.nodup_nil hp
   | _=>exact q.elim
 | _=>exact q.elim
end
open PySem.Sem (wp)
theorem SK.Sq.at:∀{k:SK} {h h':Heap} {a:Addr} {xs:Array Value},k.Sq h a xs→(∀o,h.get? a=some o→h'.get? a=some o)→k.Sq h' a xs
 | .ls,_,_,_,_,x,e=>Heap.IsList.at x e
 | .tp,_,_,_,_,x,e=>let ⟨o,ho,r⟩:=x;⟨o,e o ho,r⟩
theorem SK.draws {prog:Program} {w:World} {A:Around} (hh:A.handled=none) (k:SK) (it l:Addr) (hne:l≠it) (items:Array Value):
  Draws prog w A it [it,l] items.size (fun i v=>items[i]? =some v) (fun i h=>k.It h it l i∧k.Sq h l items) where
 live:=fun _ _ st=>let ⟨o,ho,_⟩:=st.1.some;⟨o,ho⟩
 frame:=fun _ _ _ st hk=>⟨st.1.at fun o e=>hk it (by simp) o e,st.2.at fun o e=>hk l (by simp) o e⟩
 item:=fun i s Q E hi st hQ=>by
  refine SK.next_item st.1 st.2 (x:=items[i]) (by simp [hi]) fun h' hit' hs'=>?_
  exact hQ _ h' s.toks (by simp [hi]) ⟨hit',st.2.ext hs'.extBut hne⟩ hs'
 done:=fun s Q E st hE=>SK.next_end hh st.1 st.2 (by simp) hE
section
variable {prog:Program} {w:World} {A:Around} {E:Value→Shared→Prop} {s:Shared}
open AutoSeq1 (wpAny_loadPart')
theorem J80 (l:Addr) (items:Array Value) (n:Nat) (dct:Option Addr) (sl:Array (Option Value)):
  Meets (Builtin.«enumerate.__new__» ⟨[.type "enumerate",.ref l],[]⟩) (fun _ R s=>s.heap.get? l=some { cls:= .type "tuple",dict:=dct,data:= .seq items n,slots:=sl}∧
   R (.ok (.ret (.ref (s.heap.push { cls:= .type "tuple_iterator",data:= .fields #[.ref l,.int 0 0]}).objs.size)))
    { s with heap:=(s.heap.push { cls:= .type "tuple_iterator",data:= .fields #[.ref l,.int 0 0]}).push { cls:= .type "enumerate",data:= .fields #[.none,.bool false,.ref s.heap.objs.size,rawInt 0,.none,.none]}}):=
 .of_wp fun prog w A R s h=>by
  obtain ⟨hp,g,d,tk,os⟩:=s;obtain ⟨hl,h⟩:=h
  have hsub:=sub_enumerate
  have hL:Heap.IsTuple (Shared.heap ⟨hp,g,d,tk,os⟩) l items:=⟨_,hl,rfl,n,rfl⟩
  wp_walk using wpAny_loadPart' hl
  refine wpAny_stack_any fun st=>wpAny_pure ?_
  split
  ·rename_i c _ _ _ _ _
   cases (c == Value.type "enumerate")
   ·wp_walk using wpAny_loadPart' hl,wpAny_pyIter_tuple hL
    exact ⟨_,rfl,h⟩
   ·wp_walk using wpAny_loadPart' hl,wpAny_pyIter_tuple hL
    exact ⟨_,rfl,h⟩
  ·wp_walk using wpAny_loadPart' hl,wpAny_pyIter_tuple hL
   exact ⟨_,rfl,h⟩
theorem J88 {l:Addr} {items:Array Value} {Q:Value→Shared→Prop} (hL:s.heap.IsTuple l items)
  (h:∀h',IsEnum h' (s.heap.objs.size + 1) s.heap.objs.size 0 .none→h'.IsTupleIter s.heap.objs.size l 0→h'.objs.size=s.heap.objs.size + 2→
   (∀b o,s.heap.get? b=some o→h'.get? b=some o)→Q (.ref (s.heap.objs.size + 1)) { s with heap:=h'}):
  wpAny (model prog w) A (call (.type "enumerate") [.ref l]) Q E s:=by
 obtain ⟨⟨c,dct,dt,sl⟩,hl,hc,n,hd⟩:=hL
 replace hc:c= .type "tuple" :=hc
 replace hd:dt= .seq items n:=hd
 subst hc hd
 refine callType_new F.called_enumerate (by decide) (F.typeCall_enumerate_1 _) (F.newCall_enumerate_1 _) (fun obj=>F.args_object_init_2 obj _) F.entry_enumerate_new
  (J80 l items n dct sl) ⟨hl,?_⟩
 have hz: (s.heap.push { cls:= .type "tuple_iterator",data:= .fields #[.ref l,.int 0 0]}).objs.size=s.heap.objs.size + 1:=Heap.size_push ..
 show _∧_
 rw [hz]
 have he:IsEnum ((s.heap.push { cls:= .type "tuple_iterator",data:= .fields #[.ref l,.int 0 0]}).push
   { cls:= .type "enumerate",data:= .fields #[.none,.bool false,.ref s.heap.objs.size,rawInt 0,.none,.none]}) (s.heap.objs.size + 1) s.heap.objs.size 0 .none:=by
  have:=Heap.get?_push_size (s.heap.push { cls:= .type "tuple_iterator",data:= .fields #[.ref l,.int 0 0]})
   (o:={ cls:= .type "enumerate",data:= .fields #[.none,.bool false,.ref s.heap.objs.size,rawInt 0,.none,.none]}) rfl
  rw [hz] at this;exact this
 refine ⟨⟨_,he,rfl⟩,h _ he ⟨_,Heap.get?_push_of_some _ (Heap.get?_push_size _ rfl),rfl,rfl⟩ (by rw [Heap.size_push,hz]) fun b o x=>Heap.get?_push_of_some _ (Heap.get?_push_of_some _ x)⟩
theorem J92:∀{k:SK} {l:Addr} {items:Array Value} {Q:Value→Shared→Prop} (hL:k.Sq s.heap l items)
  (h:∀h',IsEnum h' (s.heap.objs.size + 1) s.heap.objs.size 0 .none→k.It h' s.heap.objs.size l 0→h'.objs.size=s.heap.objs.size + 2→
   (∀b o,s.heap.get? b=some o→h'.get? b=some o)→Q (.ref (s.heap.objs.size + 1)) { s with heap:=h'}),
  wpAny (model prog w) A (call (.type "enumerate") [.ref l]) Q E s
 | .ls,_,_,_,hL,h=>call_enumerate_list hL h
 | .tp,_,_,_,hL,h=>J88 hL h
end
noncomputable def Jkk (K:Zf) (k:SK) (a:Addr):It:=
 ⟨fun i H=>∃ (xs:List V) (x:V),k.Sv K H a xs∧xs[i]? =some x,fun i H v H'=>∃T x,v= .ref T∧H T=none∧H'=upd H T (.tup [.int (i:Nat),x])∧∀xs,k.Sv K H a xs→xs[i]? =some x,fun i H=>∃xs:List V,k.Sv K H a xs∧xs.length≤i⟩
theorem Jg3 {P:Program} {w:World} {K:Zf} {elts:List Expr} {kk:Nat} {tpos:Pos} (k:SK) (a e it:Addr):
  Turn P w K (.Tuple elts kk tpos) (Jkk K k a) [e,it] e (fun i h=>(∃old,IsEnum h e it ((i:Nat):Int) old)∧k.It h it a i∧e≠it∧e≠a∧a≠it) where
 mem:=by simp
 obj:=fun i h st b hb=>by
  obtain ⟨⟨old,he⟩,hit,_⟩:=st
  have e':b=e∨b=it:=by simpa using hb
  rcases e' with z | z
  ·rw [z];exact ⟨_,he,fun v q=>nomatch q⟩
  ·rw [z];exact hit.some
 keep:=fun i h h' st kp=>let ⟨⟨old,he⟩,hi,hne⟩:=st;⟨⟨old,kp e (by simp) _ he⟩,hi.at fun o q=>kp it (by simp) o q,hne⟩
 item:=by
  intro X hP hw hK hc i pins s σ H E I hf st hg
  subst hP hw hK
  obtain ⟨⟨old,he⟩,hit,hne,hea,hai⟩:=st
  obtain ⟨xs,x,hq,hx⟩:=hg
  obtain ⟨its,rv,p⟩:=SK.inv I hq
  obtain ⟨u,hu,ru⟩:=rv.get hx
  have hel:e < s.heap.objs.size:=Heap.lt_size he
  have hil:it < s.heap.objs.size:=by obtain ⟨_,q,_⟩:=hit.some;exact Heap.lt_size q
  have hlt:i < its.toArray.size:=by
   obtain ⟨h1,_⟩:=List.getElem?_eq_some_iff.mp hu
   simpa using h1
  refine wpAny_pyNext_enum_itemD (SK.draws (A:=X.A.in1) (show X.A.in1.handled=none from I.ok.hd hc) k it a hai its.toArray) he ⟨hit,p⟩ hlt hne (by simp [hne,hea]) fun y h' tk hy ho st' hT hsz hk=>?_
  have hyu:y=u:=by
   have h1:its[i]? =some y:=by simpa using hy
   rw [hu] at h1
   exact (Option.some.inj h1).symm
  subst hyu
  refine ⟨_,rfl,wpAny_letOwnedTupleGo_enum (s:={ s with heap:=h',toks:=tk + 1}) ho fun h'' he' sb=>?_⟩
  have hT2:h''.get? s.heap.objs.size=some { cls:= .type "tuple",data:= .seq #[.int i tk,y]}:=(sb.2 _ (Nat.ne_of_gt hel)).trans hT
  have new:ObjOk X.prog X.w (upd H s.heap.objs.size (.tup [.int (i:Nat),x])) h'' s.heap.objs.size (.tup [.int (i:Nat),x]):=
   ⟨by show 2≤sizeLine;decide,[.int i tk,y],.cons ⟨_,rfl⟩ (.cons ru .nil),⟨_,hT2,rfl,_,rfl⟩⟩
  have I1:Inv X pins σ (upd H s.heap.objs.size (.tup [.int (i:Nat),x])) { s with heap:=h'',toks:=tk + 1}:=
   I.turnedNew (ch:= [e,it]) (fun b ob hb q=>(sb.2 b (fun z=>hb (by simp [z]))).trans (hk b ob (fun z=>hb (by simp [z])) (fun z=>hb (by simp [z])) q)) hf (Nat.le_refl _) new
  refine ⟨.ref s.heap.objs.size,_,I1,rfl,⟨_,x,rfl,I.hok.fresh (Nat.le_refl _),rfl,fun ys hy=>by rw [SK.inj I hy hq];exact hx⟩,⟨⟨y,?_⟩,st'.1.at fun o q=>(sb.2 it (Ne.symm hne)).trans q,hne,hea,hai⟩,fun b hb=>?_⟩
  ·have e1: ((i + 1:Nat):Int)= (i:Int) + 1:=by omega
   rw [e1];exact he'
  ·have hb':b < s.heap.objs.size:=by
    have e':b=e∨b=it:=by simpa using hb
    rcases e' with z | z
    ·rw [z];exact hel
    ·rw [z];exact hil
   rw [upd_ne (Nat.ne_of_lt hb')]
   exact (hf b hb).1
 done:=by
  intro X hP hw hK hc i pins s σ H E I hf st hg
  subst hP hw hK
  obtain ⟨⟨old,he⟩,hit,hne,hea,hai⟩:=st
  obtain ⟨xs,hq,hx⟩:=hg
  obtain ⟨its,rv,p⟩:=SK.inv I hq
  obtain ⟨f0,f1,f2,f3,f4,f5⟩:=hf it (by simp)
  have hl:=rv.length
  have hD:Draws X.prog X.w X.A.in1 it [it,a] i (fun _ _=>False) (fun j h=>j=i∧k.It h it a i∧k.Sq h a its.toArray):=
   { live:=fun _ _ st=>let ⟨o,ho,_⟩:=st.2.1.some;⟨o,ho⟩
     frame:=fun _ _ _ st hk=>⟨st.1,st.2.1.at fun o e=>hk it (by simp) o e,st.2.2.at fun o e=>hk a (by simp) o e⟩
     item:=fun j s Q E hi st hQ=>absurd st.1 (Nat.ne_of_lt hi)
     done:=fun s Q E st hE=>SK.next_end (I.ok.hd hc) st.2.1 st.2.2 (by simp;omega) hE}
  exact wpAny_pyNext_enum_endD hD he ⟨rfl,hit,p⟩ fun h' eb=>⟨rfl,I.turned (t':=s.toks) (fun b o hb q=>eb b o hb q) f0 f1 f3 f4 f5⟩
 self:=fun A i s Q E st h=>let ⟨⟨_,he⟩,_⟩:=st;wpAny_pyIter_enum he h
noncomputable def Jpm (K:Zf) (ta:TA):TI:=fun σ H R=>ta σ H fun vs H1=>∃k a xs,vs= [.ref a]∧SK.Sv K k H1 a xs∧R (Jkk K k a) H1
theorem Jkl {X:Cx} {e:Expr} {ta:TA} {p pos tpos:Pos} {elts:List Expr} {kk:Nat} (hg:Gl X "enumerate") (hm:X.mg "enumerate" =none) (ha:PA X [e] ta) (hs:starEach [e] X.env= [(false,eval e X.env)]:=by rfl):
  PI X (.Tuple elts kk tpos) (.Call (.Name "enumerate" p) [e] [] pos) (Jpm X.K ta):=by
 refine ⟨fun pins s σ H R I h=>?_⟩
 refine PyProof.Rows.Call_ (ld_blt I hg hm PyProof.Rows.boot_enumerate (PyProof.Rows.callWith_type1 (thn (ha.run pos pins s σ H _ I h) fun us s1 ⟨vs,H1,I1,r1,q1⟩=>?_) hs rfl))
 obtain ⟨k,a,xs,ex,hq,q⟩:=q1
 subst ex
 cases r1 with
 | cons r rr=>
  cases rr
  cases r
  obtain ⟨its,rv,p'⟩:=SK.inv I1 hq
  refine J92 p' fun h' he hit hsz hk=>wpAny_pyIter_enum he ?_
  have I2:Inv X pins σ H1 { s1 with heap:=h'}:=I1.kept (t':=s1.toks) hk
  have hal:a < s1.heap.objs.size:=p'.lt
  refine ⟨s1.heap.objs.size + 1,[s1.heap.objs.size + 1,s1.heap.objs.size],_,_,H1,rfl,I2,Jg3 k a (s1.heap.objs.size + 1) s1.heap.objs.size,⟨⟨.none,he⟩,hit,Nat.succ_ne_self _,Ne.symm (Nat.ne_of_lt (Nat.lt_succ_of_lt hal)),Nat.ne_of_lt hal⟩,fun b hb=>?_,q⟩
  have e':b=s1.heap.objs.size + 1∨b=s1.heap.objs.size:=by simpa using hb
  have hle:s1.heap.objs.size≤b:=by
   rcases e' with z | z
   ·rw [z];exact Nat.le_add_right _ _
   ·rw [z];exact Nat.le_refl _
  exact I1.fpOk hle (I1.hok.fresh hle)
theorem Jkm {K:Zf} {B H:Hp} {k:SK} {a:Addr} {us:List V} {ds:List D} (ha:k.Sv K B a us) (hl:ds.length≤sizeLine) (r1:Rl K B H ds .F us []):ItR K (Jkk K k a) B (.O .F) (J2r 0 ds):=⟨by rw [J34];exact hl,fun i B1 H1 s1 s2=>by
 have a2:k.Sv K H1 a us:=(s2).sk ((s1).sk ha)
 refine ⟨fun d e=>?_,fun h=>⟨us,a2,by rw [r1.len];rw [J34] at h;exact h⟩⟩
 obtain ⟨x,e1,rfl⟩:=J86 e
 obtain ⟨u,f1,q1⟩:=r1.get e1
 refine ⟨⟨us,u,a2,f1⟩,fun w H2 hy=>?_⟩
 obtain ⟨T,x',rfl,hT,rfl,g1⟩:=hy
 have z1:=g1 us a2
 rw [f1] at z1
 cases z1
 rw [Nat.zero_add]
 exact ⟨_,J5k (d:= .int ((i:Nat):Int)) s1 s2 hT ⟨rfl,rfl⟩ q1⟩⟩
noncomputable def J3r:List D→Option (List D)
 | [a]=>(Jkf a).map (J2r 0)
 | _=>none
section
variable {X:Cx} {w:Wh} {μ μ':List Mode} {a:Expr} {pos:Pos}
theorem DI.enumS {elts:List Expr} {kk:Nat} {tpos p0:Pos} {fa:Gam→Rz (List D)} (hg:Gl X "enumerate") (hm:X.mg "enumerate" =none) (ha:DA X w μ [a] fa [.F] μ') (hs:starEach [a] X.env= [(false,eval a X.env)]):
  DI X w μ (.Tuple elts kk tpos) (.Call (.Name "enumerate" p0) [a] [] pos) (eNi J3r fa) (.O .F) μ':=by
 refine ⟨(Jkl hg hm ha.pa hs).imp fun σ H Q ⟨B,Γ,fp,st,q⟩=>⟨B,Γ,fp,st,?_⟩⟩
 unfold eNi at q
 revert q
 cases fa Γ with
 | bad=>exact id
 | exc x Γ'=>exact id
 | ok xs Γ'=>
  intro q B' H' vs fpv fp' s st' r nd
  obtain ⟨x,v,rfl,rfl,r1⟩:=r.one
  have z1:=r1.fpF
  subst z1
  have key:∀o,J3r [x]=o→(Rz.ok [x] Γ').bind (fun xs Γ1=>Rz.opt (J3r xs) Γ1)=Rz.opt o Γ':=fun o e=>by rw [← e];rfl
  revert q
  cases e1:Jkf x with
  | none=>rw [key none (by simp [J3r,e1])];exact fun q=>q.elim
  | some ds=>
   rw [key (some (J2r 0 ds)) (by simp [J3r,e1])]
   intro q
   obtain ⟨k,p1,us,rfl,h1,hl,g1⟩:=Jpe e1 r1
   exact ⟨k,p1,us,rfl,(st'.same).sk h1,q B' H' _ fp' s st' (Jkm h1 hl g1)⟩
end
end EV
namespace EV
open PySem PySem.Spec L2
section
variable {X:Cx} {w:Wh} {μ μ1:List Mode} {a:Expr} {f:Gam→Rz D} {m:Mode}
end
section
variable {K:Zf} {m1 m2:Mode}
end
noncomputable def Jm6 (K:Zf) (C:Addr):Prop:=Cls K C∧PySem.W.findIn K (.ref C) "__class__" =some (some (.builtin "object.__class__"))∧PySem.W.specialIn K (.builtin "object.__class__") "__get__" =some (some (.builtin "getset_descriptor.__get__"))∧
 PySem.W.takesIn K (.builtin "object.__class__")=some true∧PySem.W.mroIn K C (.type "object")=some true∧PySem.W.kitOne K (.ref C) (.ref C)=some true∧PySem.W.kitOne K (.type "list") (.ref C)=some false
section
variable {X:Cx} {w:Wh} {μ μ':List Mode} {a:Expr} {f:Gam→Rz D} {m:Mode} {pos:Pos}
end
open PyProof.Rows (wpAny_notIn_heap tail_any)
section
variable {K:Zf} {B H H':Hp}
mutual
noncomputable def NkV (K:Zf) (H:Hp):NestedKey→V→Prop
 | .num i,v=>v= .int i
 | .tup ks,v=>∃a vs,v= .ref a∧SqT K H a vs∧NkL K H ks vs
 | _,_=>False
noncomputable def NkL (K:Zf) (H:Hp):List NestedKey→List V→Prop
 | [],vs=>vs= []
 | k::ks,vs=>∃v r,vs=v::r∧NkV K H k v∧NkL K H ks r
end
mutual
theorem NkV.mono (h:∀a xs,SqT K B a xs→SqT K H a xs):∀{k:NestedKey} {v:V},NkV K B k v→NkV K H k v
 | .num i,v,x=>x
 | .tup ks,v,x=>by
  obtain ⟨a,vs,rfl,h1,h2⟩:=x
  exact ⟨a,vs,rfl,h _ _ h1,NkL.mono h h2⟩
 | .none,v,x=>x.elim
 | .text _,v,x=>x.elim
theorem NkL.mono (h:∀a xs,SqT K B a xs→SqT K H a xs):∀{ks:List NestedKey} {vs:List V},NkL K B ks vs→NkL K H ks vs
 | [],vs,x=>x
 | k::ks,vs,x=>by
  obtain ⟨v,r,rfl,h1,h2⟩:=x
  exact ⟨v,r,rfl,NkV.mono h h1,NkL.mono h h2⟩
end
mutual
theorem Jg4:∀{k:NestedKey} {v:V} {fp:List Addr},numK k=true→R K B H (kN k) .F v fp→NkV K B k v
 | .num i,v,fp,_,r=>r.1
 | .tup ks,v,fp,h,r=>by
  obtain ⟨_,a,vs,rfl,h1,_,h2⟩:=r
  exact ⟨a,vs,rfl,h1,Jhw h h2⟩
 | .none,_,_,h,_=>by cases h
 | .text _,_,_,h,_=>by cases h
theorem Jhw:∀{ks:List NestedKey} {vs:List V} {fp:List Addr},J50 ks=true→Rl K B H (kNs ks) .F vs fp→NkL K B ks vs
 | [],vs,fp,_,r=>r.1
 | k::ks,vs,fp,h,r=>by
  obtain ⟨v,q,f1,f2,rfl,h1,h2,_⟩:=r
  have h': (numK k && J50 ks)=true:=h
  rw [Zb] at h'
  exact ⟨v,q,rfl,Jg4 h'.1 h1,Jhw h'.2 h2⟩
end
end
section
variable {X:Cx} {pins:List (Addr × Obj)} {σ:St} {H:Hp} {s:Shared}
mutual
theorem J7j (I:Inv X pins σ H s):∀{k:NestedKey} {v:V} {u:Value},NkV X.K H k v→RelV v u→NestedIs s.heap k u
 | .num i,v,u,x,r=>by
  cases (show v= .int i from x)
  obtain ⟨t,rfl⟩:=r
  exact .int i t
 | .tup ks,v,u,x,r=>by
  obtain ⟨a,vs,rfl,h1,h2⟩:=x
  obtain rfl:u=Value.ref a:=r
  obtain ⟨its,rv,⟨o,e1,e2,n,e3⟩,_⟩:=I.tuple h1
  exact .tup e1 e2 e3 (Jhx I h2 rv)
 | .none,v,u,x,_=>x.elim
 | .text _,v,u,x,_=>x.elim
theorem Jhx (I:Inv X pins σ H s):∀{ks:List NestedKey} {vs:List V} {us:List Value},NkL X.K H ks vs→Vals vs us→NestedAll s.heap ks us
 | [],vs,us,x,r=>by
  cases (show vs= [] from x)
  cases r
  exact .nil
 | k::ks,vs,us,x,r=>by
  obtain ⟨v,q,rfl,h1,h2⟩:=x
  cases r with
  | cons r1 r2=>exact .cons (J7j I h1 r1) (Jhx I h2 r2)
end
end
noncomputable def J3y (es:List NE) (k:NestedKey):Option V:=(es.find? fun e=>decide (e.1=k)).map (·.2.2)
noncomputable def putN (es:List NE) (k:NestedKey) (q:Addr) (v:V):List NE:=
 if (J3y es k).isSome then es.map fun e=>if e.1=k then (e.1,e.2.1,v) else e else es++ [(k,q,v)]
theorem Jhy {k:NestedKey}:J3y [] k=none:=rfl
theorem Jc6 {e:NE} {es:List NE} {k:NestedKey} (h:e.1=k):J3y (e::es) k=some e.2.2:=by simp [J3y,h]
theorem Jc7 {e:NE} {es:List NE} {k:NestedKey} (h:¬e.1=k):J3y (e::es) k=J3y es k:=by simp [J3y,h]
theorem NP.val {es:List NE} {xs:List (NestedKey × Addr × Value)} (r:NP es xs) (k:NestedKey):RelO (J3y es k) ((atKey xs k).map (·.2)):=by
 unfold NP at r
 induction r with
 | nil=>exact True.intro
 | @cons p q ps qs h t ih=>
  obtain ⟨h1,h2,h3⟩:=h
  by_cases e:p.1=k
  ·rw [Jc6 e]
   have:atKey (q::qs) k=some q.2:=by simp [atKey,← h1,e]
   rw [this];exact h3
  ·rw [Jc7 e]
   have:atKey (q::qs) k=atKey qs k:=by simp [atKey,← h1,e]
   rw [this];exact ih
theorem NP.repl {es:List NE} {xs:List (NestedKey × Addr × Value)} (r:NP es xs) (k:NestedKey) {v:V} {u:Value} (rv:RelV v u):NP (es.map fun e=>if e.1=k then (e.1,e.2.1,v) else e) (xs.map (putAt k u)):=by
 unfold NP at r ⊢
 induction r with
 | nil=>exact .nil
 | @cons p q ps qs h t ih=>
  obtain ⟨h1,h2,h3⟩:=h
  rw [List.map_cons,List.map_cons]
  refine .cons ?_ ih
  unfold putAt
  by_cases e:p.1=k
  ·rw [if_pos e,if_pos (h1 ▸ e)];exact ⟨h1,h2,rv⟩
  ·rw [if_neg e,if_neg (h1 ▸ e)];exact ⟨h1,h2,h3⟩
theorem NP.put {es:List NE} {xs:List (NestedKey × Addr × Value)} (r:NP es xs) (k:NestedKey) (q:Addr) {v:V} {u:Value} (rv:RelV v u):NP (putN es k q v) (storedH xs k q u):=by
 have e: (J3y es k).isSome= (atKey xs k).isSome:=by rw [(r.val k).isSome_eq,Option.isSome_map]
 unfold putN storedH
 rw [e]
 by_cases h: (atKey xs k).isSome=true
 ·rw [if_pos h,if_pos h];exact r.repl k rv
 ·rw [if_neg h,if_neg h];exact Paired.snoc r ⟨rfl,rfl,rv⟩
theorem NP.length {es:List NE} {xs:List (NestedKey × Addr × Value)} (r:NP es xs):es.length=xs.length:=Paired.length r
theorem Jkn (es:List NE) (k:NestedKey) (q:Addr) (v:V): (putN es k q v).length≤es.length + 1:=by
 unfold putN;split
 ·rw [List.length_map];omega
 ·rw [List.length_append];exact Nat.le_refl _
theorem Jde {es:List NE} {k:NestedKey} {q:Addr} {v:V} {P:NestedKey→Addr→Prop} (h:∀e∈es,P e.1 e.2.1) (hk:P k q):∀e∈putN es k q v,P e.1 e.2.1:=fun e he=>by
 unfold putN at he
 split at he
 ·obtain ⟨e0,h0,rfl⟩:=Zm.mp he
  split
  ·exact h e0 h0
  ·exact h e0 h0
 ·rcases Zp.mp he with he | he
  ·exact h e he
  ·rw [List.mem_singleton.mp he];exact hk
noncomputable def Jdf (H:Hp) (a:Addr) (es:List NE):Prop:=H a=some (DNo a es)∨(es= []∧H a=some (.dK []))
noncomputable def J4i (K:Zf) (H:Hp) (es:List NE):Prop:=∀e∈es,J2d e.1∧NkV K H e.1 (.ref e.2.1)
noncomputable def DGx (K:Zf) (H:Hp) (a:Addr) (y:V) (o:Option V):Prop:=
 (∃kvs k,H a=some (.dK kvs)∧y=kV k∧o=valV kvs k)∨∃es k q,Jdf H a es∧J4i K H es∧y= .ref q∧J2d k∧NkV K H k (.ref q)∧o=J3y es k
noncomputable def Jba (K:Zf) (H:Hp) (a:Addr) (y v:V) (H':Hp):Prop:=
 (∃kvs k,H a=some (.dK kvs)∧y=kV k∧kvs.length < sizeLine∧H'=upd H a (.dK (putK kvs k v)))∨
 ∃es k q,Jdf H a es∧J4i K H es∧y= .ref q∧J2d k∧NkV K H k (.ref q)∧es.length < sizeLine∧H'=upd H a (DNo a (putN es k q v))
section
variable {X:Cx} {pins:List (Addr × Obj)} {σ:St} {H H':Hp} {s:Shared} {a:Addr} {y v d:V} {u r:Value} {o:Option V} {A:Around} {E:Value→Shared→Prop} {es:List NE}
theorem Jac (I:Inv X pins σ H s) (h:Jdf H a es) (hk:J4i X.K H es):es.length≤sizeLine∧(a == sysModules)=false∧∃xs,NP es xs∧s.heap.DictOfH (nestedKind X.prog X.w) a xs:=by
 rcases h with h | ⟨rfl,h⟩
 ·obtain ⟨⟨z,hs,xs,np,ob,ea,ep,h1,h2,h3,h4,h5⟩,_⟩:=(show ObjOk X.prog X.w H s.heap a (DNo a es) from I.hok a _ h)
  have all:∀{l:List NE} {m:List (NestedKey × Addr × Value)},NP l m→J4i X.K H l→(∀x∈m,(nestedKind X.prog X.w).is s.heap x.1 x.2.1)∧m.map J6u=m.map (entryOfKey (nestedKind X.prog X.w)):=by
   intro l m q
   unfold NP at q
   induction q with
   | nil=>exact fun _=>⟨(fun x hx=>nomatch hx),rfl⟩
   | @cons p q ps qs hq t ih=>
    intro kk
    obtain ⟨e1,e2,e3⟩:=hq
    obtain ⟨g,nk⟩:=kk p Zs
    obtain ⟨i1,i2⟩:=ih fun e he=>kk e (Zc _ he)
    rw [e1] at g
    rw [e1,e2] at nk
    refine ⟨fun x hx=>?_,?_⟩
    ·rcases Zo.mp hx with rfl | hx
     ·exact ⟨J7j I nk rfl,g.2⟩
     ·exact i1 x hx
    ·rw [List.map_cons,List.map_cons,i2]
     have:J6u q=entryOfKey (nestedKind X.prog X.w) q:=by
      show (⟨Ja1 q.1,.ref q.2.1,q.2.2⟩:DictEntry)= ⟨q.1.hash X.w,.ref q.2.1,q.2.2⟩
      rw [J9b X.w _ g.1]
     rw [this]
  obtain ⟨i1,i2⟩:=all np hk
  exact ⟨z,hs,xs,np,ob,ea,ep,h1,h2,h3,by rw [h4,i2],i1,h5⟩
 ·obtain ⟨z,hd,vs,rel,ob,ea,ep,h1,h2,h3,_,h4,h5⟩:=dk_of I.hok h
  cases rel
  have h4:ea.toList= []:=by
   generalize ea.toList=l at h4
   cases h4;rfl
  exact ⟨Nat.zero_le _,hd,[],.nil,ob,ea,ep,h1,h2,h3,h4,(fun x hx=>nomatch hx),List.nodup_nil⟩
theorem Jhz (h:Jdf H a es):Mut (H a):=by
 rcases h with h | ⟨_,h⟩ <;> (rw [h];exact True.intro)
theorem J8s (hu:A.units + 64 < cLine): (nestedKind X.prog X.w).room A.in1:=by
 show A.units + 1 + 8 < cLine
 omega
theorem Jko (hu:A.units + 64 < cLine): (nestedKind X.prog X.w).room A:=by
 show A.units + 8 < cLine
 omega
theorem Jg5 {Q:Value→Shared→Prop} (hu:A.units + 64 < cLine) (I:Inv X pins σ H s) (g:DGx X.K H a y (some v)) (ry:RelV y u) (h:∀w' s',Inv X pins σ H s'→RelV v w'→Q w' s'):
  s.TypeIs (.ref a) "dict" ∧wpAny (model X.prog X.w) A (getItem (.ref a) u) Q E s:=by
 rcases g with ⟨kvs,k,e,ey,l⟩ | ⟨es,k,q,e,hk,ey,gk,nk,l⟩
 ·have g:DGet H a y (some v):= .inl ⟨kvs,k,.inl e,ey,l⟩
  exact ⟨dict_typeIs I g,d_getItem (by omega) I g ry h⟩
 ·subst ey
  obtain rfl:u=Value.ref q:=ry
  obtain ⟨z,hd,xs,np,dd⟩:=Jac I e hk
  obtain ⟨w',hw,rw'⟩:=RelO.some_of (v:=v) (o:=(atKey xs k).map (·.2)) (by rw [l];exact np.val k)
  obtain ⟨p,hp,hp2⟩:=Option.map_eq_some_iff.mp hw
  refine ⟨dd.typeIs,wpAny_getItem_heap (J8s hu) ⟨J7j I nk rfl,gk.2⟩ dd hp ?_⟩
  rw [hp2]
  exact h w' _ (I.tok _) rw'
theorem Jrj {Q:Value→Shared→Prop} (hu:A.units + 64 < cLine) (I:Inv X pins σ H s) (g:DGx X.K H a y o) (ry:RelV y u) (h:∀s',Inv X pins σ H s'→Q (.bool o.isSome) s'):
  wpAny (model X.prog X.w) A (compareOp .In u (.ref a)) Q E s:=by
 rcases g with ⟨kvs,k,e,ey,l⟩ | ⟨es,k,q,e,hk,ey,gk,nk,l⟩
 ·exact d_in (by omega) I (.inl ⟨kvs,k,.inl e,ey,l⟩) ry h
 ·subst ey
  obtain rfl:u=Value.ref q:=ry
  obtain ⟨z,hd,xs,np,dd⟩:=Jac I e hk
  refine wpAny_in_heap (J8s hu) ⟨J7j I nk rfl,gk.2⟩ hd dd ?_
  have q:=(np.val k).isSome_eq
  rw [Option.isSome_map] at q
  rw [← q,← l]
  exact h _ (I.tok _)
theorem Jkp {Q:Value→Shared→Prop} (hu:A.units + 64 < cLine) (I:Inv X pins σ H s) (g:DGx X.K H a y o) (ry:RelV y u) (h:∀s',Inv X pins σ H s'→Q (.bool (!o.isSome)) s'):
  wpAny (model X.prog X.w) A (compareOp .NotIn u (.ref a)) Q E s:=by
 rcases g with ⟨kvs,k,e,ey,l⟩ | ⟨es,k,q,e,hk,ey,gk,nk,l⟩
 ·exact d_notIn (by omega) I (.inl ⟨kvs,k,.inl e,ey,l⟩) ry h
 ·subst ey
  obtain rfl:u=Value.ref q:=ry
  obtain ⟨z,hd,xs,np,dd⟩:=Jac I e hk
  refine wpAny_notIn_heap (J8s hu) ⟨J7j I nk rfl,gk.2⟩ hd dd ?_
  have q:=(np.val k).isSome_eq
  rw [Option.isSome_map] at q
  rw [← q,← l]
  exact h _ (I.tok _)
theorem Ji0 {h':Heap} {k:NestedKey} {q:Addr} {xs:List (NestedKey × Addr × Value)} (hz:es.length < sizeLine) (hs: (a == sysModules)=false) (hk:J4i X.K H es) (gk:J2d k) (np:NP es xs) (rv:RelV v r) (dd:h'.DictOfH (nestedKind X.prog X.w) a (storedH xs k q r)):
  ObjOk X.prog X.w H' h' a (DNo a (putN es k q v)):=by
 have np':=np.put k q rv
 have hl: (putN es k q v).length≤sizeLine:=by have:=Jkn es k q v;omega
 obtain ⟨ob,ea,ep,h1,h2,h3,h4,_,h5⟩:=dd
 have gd:∀e∈putN es k q v,J2d e.1:=Jde (P:=fun k _=>J2d k) (fun e he=>(hk e he).1) gk
 have ent:∀{l:List NE} {m:List (NestedKey × Addr × Value)},NP l m→(∀e∈l,J2d e.1)→m.map (entryOfKey (nestedKind X.prog X.w))=m.map J6u:=by
  intro l m q
  unfold NP at q
  induction q with
  | nil=>exact fun _=>rfl
  | @cons p q ps qs hq t ih=>
   intro kk
   have g:=kk p Zs
   rw [hq.1] at g
   rw [List.map_cons,List.map_cons,ih fun e he=>kk e (Zc _ he)]
   have:entryOfKey (nestedKind X.prog X.w) q=J6u q:=by
    show (⟨q.1.hash X.w,.ref q.2.1,q.2.2⟩:DictEntry)= ⟨Ja1 q.1,.ref q.2.1,q.2.2⟩
    rw [J9b X.w _ g.1]
   rw [this]
 refine ⟨⟨hl,hs,_,np',ob,ea,ep,h1,h2,h3,by rw [h4,ent np' gd],h5⟩,⟨ob,h1⟩,fun g1 g2 ⟨z,y,xs',np2,ob2,ea2,ep2,q1,q2⟩ st=>⟨z,y,xs',np2,ob2,ea2,ep2,st _ q1,q2⟩⟩
theorem Jg6 {Q:Unit→Shared→Prop} (hu:A.units + 64 < cLine) (I:Inv X pins σ H s) (g:Jba X.K H a y v H') (ry:RelV y u) (rv:RelV v r) (h:∀s',Inv X pins σ H' s'→Q () s'):
  wpAny (model X.prog X.w) A (setItem (.ref a) u r) Q E s:=by
 rcases g with ⟨kvs,k,e,ey,l,eH⟩ | ⟨es,k,q,e,hk,ey,gk,nk,l,eH⟩
 ·exact d_setItem (by omega) I (.inl ⟨kvs,k,e,ey,l,eH⟩) ry rv h
 ·subst ey eH
  obtain rfl:u=Value.ref q:=ry
  obtain ⟨z,hd,xs,np,dd⟩:=Jac I e hk
  have hz:xs.length≤sizeLine:=by rw [← np.length];exact z
  refine wpAny_setItem_heap (hsz:=hz) (J8s hu) ⟨J7j I nk rfl,gk.2⟩ dd fun h' dd' hs=>h _ ?_
  have he:∃q,h'.get? a=some q:=let ⟨q,_,_,hq,_⟩:=dd';⟨q,hq⟩
  exact d_write I (Jhz e) hs he (Ji0 l hd hk gk np rv dd')
theorem Jg7 {Q:Unit→Shared→Prop} (hu:A.units + 64 < cLine) (I:Inv X pins σ H s) (g:Jba X.K H a y v H') (ry:RelV y u) (rv:RelV v r) (h:∀s',Inv X pins σ H' s'→Q () s'):
  wpAny (model X.prog X.w) A (dictSet a u r) Q E s:=by
 rcases g with ⟨kvs,k,e,ey,l,eH⟩ | ⟨es,k,q,e,hk,ey,gk,nk,l,eH⟩
 ·subst ey eH
  obtain ⟨z,hd,vs,rel,dd⟩:=dk_of I.hok e
  have hzv:vs.length≤sizeLine:=by rw [← rel.length];exact z
  have hl: (putK kvs k v).length≤sizeLine:=by have:=length_putK kvs k v;omega
  refine wpAny_dictSet_pairs (hsz:=hzv) (kV_is ry) dd fun h' dd' hs=>h _ ?_
  have he:∃q,h'.get? a=some q:=let ⟨q,_,_,hq,_⟩:=dd';⟨q,hq⟩
  exact d_write I (by rw [e];exact True.intro) hs he (dk_new hl hd (rel.put k rv) dd')
 ·subst ey eH
  obtain rfl:u=Value.ref q:=ry
  obtain ⟨z,hd,xs,np,dd⟩:=Jac I e hk
  have hz:xs.length≤sizeLine:=by rw [← np.length];exact z
  refine wpAny_dictSet_heap (hsz:=hz) (Jko hu) ⟨J7j I nk rfl,gk.2⟩ dd fun h' dd' hs=>h _ ?_
  have he:∃q,h'.get? a=some q:=let ⟨q,_,_,hq,_⟩:=dd';⟨q,hq⟩
  exact d_write I (Jhz e) hs he (Ji0 l hd hk gk np rv dd')
end
noncomputable def Jpn (K:Zf):R2:=fun x y H Q=>∃a v,x= .ref a∧DGx K H a y (some v)∧Q v H
noncomputable def Jpo (K:Zf):R2:=fun y x H Q=>∃a o,x= .ref a∧DGx K H a y o∧Q (.bl o.isSome) H
noncomputable def Jez (K:Zf):R2:=fun y x H Q=>∃a o,x= .ref a∧DGx K H a y o∧Q (.bl (!o.isSome)) H
noncomputable def Jrk (K:Zf):V→V→V→Hp→(Hp→Prop)→Prop:=fun o i v H Q=>∃a H',o= .ref a∧Jba K H a i v H'∧Q H'
section
variable {X:Cx}
theorem Jrl (hu:X.A.units + 64 < cLine):IxR X (Jpn X.K):=by
 intro value slice pins s σ H x y v u Q I rx ry h hs
 obtain ⟨a,z,rfl,g,q⟩:=h
 obtain rfl:v=Value.ref a:=rx
 obtain ⟨t,w⟩:=Jg5 (E:=X.xe) hu I g ry fun w' s' I' rw'=>(⟨z,H,I',rw',q⟩:EP X pins σ Q w' s')
 exact tail_any t PySem.F.slot_dict_getitem.lookup w hs
theorem Jpp (hu:X.A.units + 64 < cLine):OpR X (compareOp .In) (Jpo X.K):=by
 intro pins s σ H y x u v Q I ry rx h
 obtain ⟨a,o,rfl,g,q⟩:=h
 obtain rfl:v=Value.ref a:=rx
 exact Jrj hu I g ry fun s3 I3=>⟨.bl o.isSome,H,I3,rfl,q⟩
theorem Ji1 (hu:X.A.units + 64 < cLine):OpR X (compareOp .NotIn) (Jez X.K):=by
 intro pins s σ H y x u v Q I ry rx h
 obtain ⟨a,o,rfl,g,q⟩:=h
 obtain rfl:v=Value.ref a:=rx
 exact Jkp hu I g ry fun s3 I3=>⟨.bl (!o.isSome),H,I3,rfl,q⟩
theorem Jpq (hu:X.A.units + 64 < cLine):PSet X (Jrk X.K):=by
 intro pins s σ H o i v ov iv u Q I ro ri rv h
 obtain ⟨a,H',rfl,g,q⟩:=h
 obtain rfl:ov=Value.ref a:=ro
 exact Jg6 hu I g ri rv fun s' I'=>⟨_,I',q⟩
end
end EV
namespace EV
open PySem PySem.Spec L2
mutual
theorem J61:∀a:D,J3n a a=true
 | .non=>rfl
 | .bl a=>by show (a == a)=true;simp
 | .int a=>Zt rfl
 | .str a=>Zt rfl
 | .lst a=>J3k a
 | .tup a=>J3k a
 | .dct k a=>by
  show (J2e k k && J2e a a)=true
  rw [J3k k,J3k a];rfl
 | .obj c n a=>by
  show (decide (c=c) && (decide (n=n) && J2e a a))=true
  rw [J3k a];simp
theorem J3k:∀a:List D,J2e a a=true
 | []=>rfl
 | a::as=>by
  show (J3n a a && J2e as as)=true
  rw [J61 a,J3k as];rfl
end
mutual
noncomputable def J5m:D→Option NestedKey
 | .int i=>some (.num i)
 | .tup ds=>(Jm ds).map .tup
 | _=>none
noncomputable def Jm:List D→Option (List NestedKey)
 | []=>some []
 | d::ds=>(J5m d).bind fun k=>(Jm ds).map fun r=>k::r
end
mutual
theorem Ji2:∀{d:D} {k:NestedKey},J5m d=some k→kN k=d∧numK k=true
 | .int i,k,h=>by
  cases (show some (NestedKey.num i)=some k from h);exact ⟨rfl,rfl⟩
 | .tup ds,k,h=>by
  have h': (Jm ds).map NestedKey.tup=some k:=h
  obtain ⟨r,e,rfl⟩:=Option.map_eq_some_iff.mp h'
  obtain ⟨h1,h2⟩:=J7k e
  exact ⟨by show D.tup (kNs r)=_;rw [h1],h2⟩
 | .non,_,h=>by cases h
 | .bl _,_,h=>by cases h
 | .str _,_,h=>by cases h
 | .lst _,_,h=>by cases h
 | .dct _ _,_,h=>by cases h
 | .obj _ _ _,_,h=>by cases h
theorem J7k:∀{ds:List D} {ks:List NestedKey},Jm ds=some ks→kNs ks=ds∧J50 ks=true
 | [],ks,h=>by
  cases (show some []=some ks from h);exact ⟨rfl,rfl⟩
 | d::ds,ks,h=>by
  have h': ((J5m d).bind fun k=>(Jm ds).map fun r=>k::r)=some ks:=h
  obtain ⟨k,e1,e2⟩:=Option.bind_eq_some_iff.mp h'
  obtain ⟨r,e3,rfl⟩:=Option.map_eq_some_iff.mp e2
  obtain ⟨a1,a2⟩:=Ji2 e1
  obtain ⟨b1,b2⟩:=J7k e3
  refine ⟨?_,?_⟩
  ·show kN k::kNs r=_
   rw [a1,b1]
  ·show (numK k && J50 r)=true
   rw [a2,b2];rfl
end
mutual
theorem Jbb:∀{k:NestedKey},numK k=true→J5m (kN k)=some k
 | .num i,_=>rfl
 | .tup ks,h=>by
  show (Jm (kNs ks)).map NestedKey.tup=_
  rw [Jdg (ks:=ks) h];rfl
 | .none,h=>by cases h
 | .text _,h=>by cases h
theorem Jdg:∀{ks:List NestedKey},J50 ks=true→Jm (kNs ks)=some ks
 | [],_=>rfl
 | k::ks,h=>by
  have h': (numK k && J50 ks)=true:=h
  rw [Zb] at h'
  show ((J5m (kN k)).bind fun k=>(Jm (kNs ks)).map fun r=>k::r)=_
  rw [Jbb h'.1,Jdg h'.2];rfl
end
noncomputable def J62 (d:D):Option Bool:=match d with
 | .int _=>some true
 | .str _=>some true
 | .tup ds=>(Jm ds).bind fun ks=>if (NestedKey.tup ks).depth≤8 then some false else none
 | _=>none
theorem Jkq (k:Key):J62 (kD k)=some true:=by cases k <;> rfl
theorem Jad {d:D} (h:J62 d=some true):∃k:Key,d=kD k:=by
 cases d with
 | int i=>exact ⟨.inl i,rfl⟩
 | str x=>exact ⟨.inr x,rfl⟩
 | tup ds=>
  have h': ((Jm ds).bind fun ks=>if (NestedKey.tup ks).depth≤8 then some false else none)=some true:=h
  obtain ⟨k,_,e⟩:=Option.bind_eq_some_iff.mp h'
  split at e <;> cases e
 | _=>cases h
theorem Jel {d:D} (h:J62 d=some false):∃ks,d=kN (.tup ks)∧J2d (.tup ks):=by
 cases d with
 | tup ds=>
  have h': ((Jm ds).bind fun ks=>if (NestedKey.tup ks).depth≤8 then some false else none)=some false:=h
  obtain ⟨ks,e0,e⟩:=Option.bind_eq_some_iff.mp h'
  split at e
  ·obtain ⟨e1,e2⟩:=J7k e0
   exact ⟨ks,by show _=D.tup (kNs ks);rw [e1],e2,by assumption⟩
  ·cases e
 | _=>cases h
theorem Jpr {a b:NestedKey} (ha:numK a=true) (hb:numK b=true) (h:kN a=kN b):a=b:=by
 have:=Jbb ha
 rw [h,Jbb hb] at this
 exact (Option.some.inj this).symm
theorem Jps {a b:Key} (h:kD a=kD b):a=b:=by
 cases a <;> cases b <;> cases h <;> rfl
theorem Ji3 (a b:Key):J3n (kD a) (kD b)=decide (a=b):=by
 by_cases h:a=b
 ·rw [h,J61,Zt rfl]
 ·rw [decide_eq_false h]
  cases e:J3n (kD a) (kD b) with
  | false=>rfl
  | true=>exact absurd (Jps (J6z _ _ e)) h
theorem Ji4 {a b:NestedKey} (ha:numK a=true) (hb:numK b=true):J3n (kN a) (kN b)=decide (a=b):=by
 by_cases h:a=b
 ·rw [h,J61,Zt rfl]
 ·rw [decide_eq_false h]
  cases e:J3n (kN a) (kN b) with
  | false=>rfl
  | true=>exact absurd (Jpr ha hb (J6z _ _ e)) h
noncomputable def J4j:List D→List D→D→Option D
 | k::ks,d::ds,y=>if J3n k y=true then some d else J4j ks ds y
 | _,_,_=>none
noncomputable def J63:List D→List D→D→D→List D
 | k::ks,d::ds,y,z=>(if J3n k y=true then z else d)::J63 ks ds y z
 | _,_,_,_=> []
noncomputable def keysOk (ks:List D) (y:D):Bool:=match J62 y with
 | some b=>ks.all fun k=>decide (J62 k=some b)
 | none=>false
noncomputable def J3z (ks ds:List D) (y:D):Option (Option D):=if keysOk ks y=true then some (J4j ks ds y) else none
noncomputable def J2f (ks ds:List D) (y z:D):Option (List D × List D):=if keysOk ks y=true∧ds.length < sizeLine then
  (if (J4j ks ds y).isSome=true then some (ks,J63 ks ds y z) else some (ks++ [y],ds++ [z])) else none
noncomputable def ROp (K:Zf) (B H:Hp) (m:Mode):Option D→Option V→Prop
 | some d,o=>∃w fw,o=some w∧R K B H d m w fw
 | none,o=>o=none
section
variable {K:Zf} {B H:Hp} {m:Mode}
theorem Jdh (k:Key):∀{kvs:List (Key × V)} {ds:List D} {fp:List Addr},Rl K B H ds m (kvs.map (·.2)) fp→ROp K B H m (J4j (kvs.map fun p=>kD p.1) ds (kD k)) (valV kvs k)
 | [],ds,fp,r=>by
  cases ds with
  | nil=>exact valV_nil
  | cons d ds=>obtain ⟨v,q,f1,f2,e,_⟩:=r;cases e
 | p::kvs,ds,fp,r=>by
  cases ds with
  | nil=>obtain ⟨e,_⟩:=r;cases e
  | cons d ds=>
   obtain ⟨v,q,f1,f2,e,r1,r2,_⟩:=r
   cases e
   rw [List.map_cons]
   unfold J4j
   rw [Ji3]
   by_cases h:p.1=k
   ·rw [if_pos (Zt h)]
    exact ⟨p.2,f1,valV_pos h,r1⟩
   ·rw [if_neg (by rw [decide_eq_false h];exact Bool.false_ne_true),valV_neg h]
    exact Jdh k r2
theorem Jdi {k:NestedKey} (hk:numK k=true):∀{es:List NE} {ds:List D} {fp:List Addr},(∀e∈es,J2d e.1)→Rl K B H ds m (es.map (·.2.2)) fp→ROp K B H m (J4j (es.map fun p=>kN p.1) ds (kN k)) (J3y es k)
 | [],ds,fp,_,r=>by
  cases ds with
  | nil=>exact Jhy
  | cons d ds=>obtain ⟨v,q,f1,f2,e,_⟩:=r;cases e
 | p::es,ds,fp,g,r=>by
  cases ds with
  | nil=>obtain ⟨e,_⟩:=r;cases e
  | cons d ds=>
   obtain ⟨v,q,f1,f2,e,r1,r2,_⟩:=r
   cases e
   rw [List.map_cons]
   unfold J4j
   rw [Ji4 (g p Zs).1 hk]
   by_cases h:p.1=k
   ·rw [if_pos (Zt h)]
    exact ⟨p.2.2,f1,Jc6 h,r1⟩
   ·rw [if_neg (by rw [decide_eq_false h];exact Bool.false_ne_true),Jc7 h]
    exact Jdi hk (fun e he=>g e (Zc _ he)) r2
theorem Jdj (k:Key) {z:D} {w:V} (rz:R K B H z m w []):∀{kvs:List (Key × V)} {ds:List D},Rl K B H ds m (kvs.map (·.2)) []→Rl K B H (J63 (kvs.map fun p=>kD p.1) ds (kD k) z) m ((kvs.map fun kv=>if kv.1=k then (kv.1,w) else kv).map (·.2)) []
 | [],ds,r=>by
  cases ds with
  | nil=>exact ⟨rfl,rfl⟩
  | cons d ds=>obtain ⟨v,q,f1,f2,e,_⟩:=r;cases e
 | p::kvs,ds,r=>by
  cases ds with
  | nil=>obtain ⟨e,_⟩:=r;cases e
  | cons d ds=>
   obtain ⟨v,q,f1,f2,e,r1,r2,ef⟩:=r
   cases e
   obtain ⟨rfl,rfl⟩:=List.append_eq_nil_iff.mp ef.symm
   rw [List.map_cons,List.map_cons,List.map_cons]
   unfold J63
   rw [Ji3]
   by_cases h:p.1=k
   ·rw [if_pos (Zt h),if_pos h]
    exact ⟨w,_,[],[],rfl,rz,Jdj k rz r2,rfl⟩
   ·rw [if_neg (by rw [decide_eq_false h];exact Bool.false_ne_true),if_neg h]
    exact ⟨p.2,_,[],[],rfl,r1,Jdj k rz r2,rfl⟩
theorem Ji5 {k:NestedKey} (hk:numK k=true) {z:D} {w:V} (rz:R K B H z m w []):∀{es:List NE} {ds:List D},(∀e∈es,J2d e.1)→Rl K B H ds m (es.map (·.2.2)) []→Rl K B H (J63 (es.map fun p=>kN p.1) ds (kN k) z) m ((es.map fun e=>if e.1=k then (e.1,e.2.1,w) else e).map (·.2.2)) []
 | [],ds,_,r=>by
  cases ds with
  | nil=>exact ⟨rfl,rfl⟩
  | cons d ds=>obtain ⟨v,q,f1,f2,e,_⟩:=r;cases e
 | p::es,ds,g,r=>by
  cases ds with
  | nil=>obtain ⟨e,_⟩:=r;cases e
  | cons d ds=>
   obtain ⟨v,q,f1,f2,e,r1,r2,ef⟩:=r
   cases e
   obtain ⟨rfl,rfl⟩:=List.append_eq_nil_iff.mp ef.symm
   rw [List.map_cons,List.map_cons,List.map_cons]
   unfold J63
   rw [Ji4 (g p Zs).1 hk]
   have ih:=Ji5 hk rz (fun e he=>g e (Zc _ he)) r2
   by_cases h:p.1=k
   ·rw [if_pos (Zt h),if_pos h]
    exact ⟨w,_,[],[],rfl,rz,ih,rfl⟩
   ·rw [if_neg (by rw [decide_eq_false h];exact Bool.false_ne_true),if_neg h]
    exact ⟨p.2.2,_,[],[],rfl,r1,ih,rfl⟩
theorem Ji6:∀{es:List NE},(∀e∈es,J2d e.1)→Rl K B H (es.map fun p=>kN p.1) .F (es.map fun p=>V.ref p.2.1) []→J4i K B es
 | [],_,_=>fun e he=>nomatch he
 | p::es,g,r=>by
  obtain ⟨v,q,f1,f2,e,r1,r2,ef⟩:=r
  cases e
  obtain ⟨rfl,rfl⟩:=List.append_eq_nil_iff.mp ef.symm
  intro e he
  rcases Zo.mp he with rfl | he
  ·exact ⟨g _ Zs,Jg4 (g _ Zs).1 r1⟩
  ·exact Ji6 (fun e he=>g e (Zc _ he)) r2 e he
theorem J4i.mono {es:List NE} (s:Lies K B H) (h:J4i K B es):J4i K H es:=fun e he=>⟨(h e he).1,(h e he).2.mono fun _ _=>s.sqT⟩
theorem dct_kind {a:Addr} {ks:List D} {us vs:List V} {o:HO} {y:D} {v:V} {fy:List Addr} (sm:Lies K B H) (dO:J2n a ks us vs o) (ha:H a=some o) (rk:Rl K B H ks .F us []) (ry:R K B H y .F v fy) (e:keysOk ks y=true):
  (∃ (kvs:List (Key × V)) (k:Key),o= .dK kvs∧H a=some (.dK kvs)∧y=kD k∧v=kV k∧ks=kvs.map (fun p=>kD p.1)∧us=kvs.map (fun p=>kV p.1)∧vs=kvs.map (·.2))∨
  (∃ (es:List NE) (k:NestedKey) (q:Addr),Jdf H a es∧J4i K H es∧y=kN k∧v= .ref q∧J2d k∧NkV K H k (.ref q)∧(∀e∈es,J2d e.1)∧ks=es.map (fun p=>kN p.1)∧us=es.map (fun p=> .ref p.2.1)∧vs=es.map (·.2.2)):=by
 unfold keysOk at e
 cases ek:J62 y with
 | none=>rw [ek] at e;cases e
 | some b=>
  rw [ek] at e
  have e':ks.all (fun k=>decide (J62 k=some b))=true:=e
  cases b with
  | true=>
   obtain ⟨k,rfl⟩:=Jad ek
   have hv:v=kV k:=by cases k <;> exact ry.1
   rcases dO with ⟨kvs,rfl,h1,h2,h3⟩ | ⟨es,rfl,h1,h2,h3,g,ne⟩
   ·exact .inl ⟨kvs,k,rfl,ha,rfl,hv,h1.symm,h2.symm,h3.symm⟩
   ·exfalso
    cases es with
    | nil=>exact ne rfl
    | cons p es=>
     rw [← h1,List.map_cons,List.all_cons,Zb] at e'
     have z:=Zd e'.1
     obtain ⟨k',hk'⟩:=Jad z
     have gp:=g p Zs
     obtain ⟨q,hq⟩:∃u,us= .ref p.2.1::u:=⟨_,by rw [← h2,List.map_cons]⟩
     rw [← h1,hq,List.map_cons,hk'] at rk
     obtain ⟨v',q',f1,f2,e1,r1,_⟩:=rk
     cases e1
     cases k' <;> cases r1.1
  | false=>
   obtain ⟨k,rfl,gk⟩:=Jel ek
   obtain ⟨_,q,ws,rfl,_⟩:=(show R K B H (.tup (kNs k)) .F v fy from ry)
   have nk:NkV K H (.tup k) (.ref q):=(Jg4 gk.1 ry).mono fun _ _=>sm.sqT
   rcases dO with ⟨kvs,rfl,h1,h2,h3⟩ | ⟨es,rfl,h1,h2,h3,g,ne⟩
   ·cases kvs with
    | nil=>exact .inr ⟨[],.tup k,q,.inr ⟨rfl,ha⟩,(fun e he=>nomatch he),rfl,rfl,gk,nk,(fun e he=>nomatch he),h1.symm,h2.symm,h3.symm⟩
    | cons p kvs=>
     rw [← h1,List.map_cons,List.all_cons,Zb] at e'
     have z:=Zd e'.1
     rw [Jkq] at z;cases z
   ·have kn:J4i K B es:=Ji6 g (by rw [h1,h2];exact rk)
    exact .inr ⟨es,.tup k,q,.inl ha,kn.mono sm,rfl,rfl,gk,nk,g,h1.symm,h2.symm,h3.symm⟩
theorem Jdk {a:Addr} {ks ds:List D} {us vs:List V} {o:HO} {y:D} {v:V} {fy fq:List Addr} {r:Option D} (sm:Lies K B H) (dO:J2n a ks us vs o) (ha:H a=some o) (rk:Rl K B H ks .F us []) (rv:Rl K B H ds m vs fq) (ry:R K B H y .F v fy) (e:J3z ks ds y=some r):
  ∃o',DGx K H a v o'∧ROp K B H m r o':=by
 unfold J3z at e
 split at e
 ·rename_i hk
  cases e
  rcases dct_kind sm dO ha rk ry hk with ⟨kvs,k,rfl,h,rfl,rfl,rfl,rfl,rfl⟩ | ⟨es,k,q,h,kn,rfl,rfl,gk,nk,g,rfl,rfl,rfl⟩
  ·refine ⟨valV kvs k,.inl ⟨kvs,k,h,rfl,rfl⟩,?_⟩
   exact Jdh (k:=k) rv
  ·refine ⟨J3y es k,.inr ⟨es,k,q,h,kn,rfl,gk,nk,rfl⟩,?_⟩
   exact Jdi gk.1 g rv
 ·cases e
theorem Rl.snoc0:∀{ds:List D} {vs:List V} {d:D} {v:V},Rl K B H ds m vs []→R K B H d m v []→Rl K B H (ds++ [d]) m (vs++ [v]) []
 | [],vs,d,v,r,q=>by
  rw [r.1];exact ⟨v,[],[],[],rfl,q,⟨rfl,rfl⟩,rfl⟩
 | d0::ds,vs,d,v,r,q=>by
  obtain ⟨w,ws,f1,f2,rfl,r1,r2,ef⟩:=r
  obtain ⟨rfl,rfl⟩:=List.append_eq_nil_iff.mp ef.symm
  exact ⟨w,ws++ [v],[],[],rfl,r1,Rl.snoc0 r2 q,rfl⟩
theorem Ji7 {a:Addr} {ks ds ks' ds':List D} {us vs:List V} {o:HO} {y z:D} {v w:V} {fy:List Addr} (sm:Lies K B H) (dO:J2n a ks us vs o) (ha:H a=some o) (rk:Rl K B H ks .F us []) (rv:Rl K B H ds m vs []) (ry:R K B H y .F v fy) (rz:R K B H z m w []) (e:J2f ks ds y z=some (ks',ds')):
  ∃o' us' vs',Jba K H a v w (upd H a o')∧J2n a ks' us' vs' o'∧Rl K B H ks' .F us' []∧Rl K B H ds' m vs' []∧ds'.length≤sizeLine:=by
 have fy0:=ry.fpF
 subst fy0
 unfold J2f at e
 split at e
 ·rename_i hk
  obtain ⟨hk,hl⟩:=hk
  rcases dct_kind sm dO ha rk ry hk with ⟨kvs,k,rfl,h,rfl,rfl,rfl,rfl,rfl⟩ | ⟨es,k,q,h,kn,rfl,rfl,gk,nk,g,rfl,rfl,rfl⟩
  ·have hlen:kvs.length=ds.length:=by have:=rv.len;rw [List.length_map] at this;exact this
   have hL:=Jdh (k:=k) rv
   refine ⟨.dK (putK kvs k w),(putK kvs k w).map (fun p=>kV p.1),(putK kvs k w).map (·.2),.inl ⟨kvs,k,h,rfl,by omega,rfl⟩,?_⟩
   cases eL:J4j (kvs.map fun p=>kD p.1) ds (kD k) with
   | some d=>
    rw [eL] at hL e
    cases e
    obtain ⟨w0,_,hv,_⟩:=hL
    have hp:putK kvs k w=kvs.map fun kv=>if kv.1=k then (kv.1,w) else kv:=by
     unfold putK;rw [valV_any,hv];rfl
    rw [hp]
    have kk:∀f:Key→D,(kvs.map fun kv=>if kv.1=k then (kv.1,w) else kv).map (fun p=>f p.1)=kvs.map (fun p=>f p.1):=fun f=>by
     rw [List.map_map];refine List.map_congr_left fun p _=>?_
     show f (if p.1=k then (p.1,w) else p).1=f p.1
     split <;> rfl
    have kv: (kvs.map fun kv=>if kv.1=k then (kv.1,w) else kv).map (fun p=>kV p.1)=kvs.map (fun p=>kV p.1):=by
     rw [List.map_map];refine List.map_congr_left fun p _=>?_
     show kV (if p.1=k then (p.1,w) else p).1=kV p.1
     split <;> rfl
    have rr:=Jdj k rz rv
    refine ⟨.inl ⟨_,rfl,kk kD,rfl,rfl⟩,by rw [kv];exact rk,rr,?_⟩
    have:=rr.len
    rw [List.length_map,List.length_map] at this
    omega
   | none=>
    rw [eL] at hL e
    cases e
    rw [putK_new w hL]
    refine ⟨.inl ⟨_,rfl,by rw [List.map_append];rfl,rfl,rfl⟩,?_,?_,?_⟩
    ·rw [List.map_append];exact Rl.snoc0 rk ry
    ·rw [List.map_append];exact Rl.snoc0 rv rz
    ·rw [List.length_append];exact hl
  ·have hlen:es.length=ds.length:=by have:=rv.len;rw [List.length_map] at this;exact this
   have hL:=Jdi gk.1 g rv
   refine ⟨DNo a (putN es k q w),(putN es k q w).map (fun p=> .ref p.2.1),(putN es k q w).map (·.2.2),.inr ⟨es,k,q,h,kn,rfl,gk,nk,by omega,rfl⟩,?_⟩
   have gg:∀e∈putN es k q w,J2d e.1:=Jde (P:=fun k _=>J2d k) g gk
   cases eL:J4j (es.map fun p=>kN p.1) ds (kN k) with
   | some d=>
    rw [eL] at hL e
    cases e
    obtain ⟨w0,_,hv,_⟩:=hL
    have hp:putN es k q w=es.map fun e=>if e.1=k then (e.1,e.2.1,w) else e:=by
     unfold putN;rw [hv];rfl
    have ne:putN es k q w≠ []:=by
     rw [hp]
     intro z
     rw [List.map_eq_nil_iff.mp z] at hv;cases hv
    rw [hp] at gg ne ⊢
    have kk: (es.map fun e=>if e.1=k then (e.1,e.2.1,w) else e).map (fun p=>kN p.1)=es.map (fun p=>kN p.1):=by
     rw [List.map_map];refine List.map_congr_left fun p _=>?_
     show kN (if p.1=k then (p.1,p.2.1,w) else p).1=kN p.1
     split <;> rfl
    have kv: (es.map fun e=>if e.1=k then (e.1,e.2.1,w) else e).map (fun p=>V.ref p.2.1)=es.map (fun p=>V.ref p.2.1):=by
     rw [List.map_map];refine List.map_congr_left fun p _=>?_
     show V.ref (if p.1=k then (p.1,p.2.1,w) else p).2.1=V.ref p.2.1
     split <;> rfl
    have rr:=Ji5 gk.1 rz g rv
    refine ⟨.inr ⟨_,rfl,kk,rfl,rfl,gg,ne⟩,by rw [kv];exact rk,rr,?_⟩
    have:=rr.len
    rw [List.length_map,List.length_map] at this
    omega
   | none=>
    rw [eL] at hL e
    cases e
    have hp:putN es k q w=es++ [(k,q,w)]:=by
     unfold putN;rw [hL];rfl
    rw [hp] at gg ⊢
    refine ⟨.inr ⟨_,rfl,by rw [List.map_append];rfl,rfl,rfl,gg,by simp⟩,?_,?_,?_⟩
    ·rw [List.map_append];exact Rl.snoc0 rk ry
    ·rw [List.map_append];exact Rl.snoc0 rv rz
    ·rw [List.length_append];exact hl
 ·cases e
end
noncomputable def Jae (x y:D):Option D:=match x with
 | .dct ks ds=>(J3z ks ds y).bind id
 | _=>none
noncomputable def Jpt (y x:D):Option D:=match x with
 | .dct ks ds=>(J3z ks ds y).map fun o=> .bl o.isSome
 | _=>none
noncomputable def Jm7 (y x:D):Option D:=match x with
 | .dct ks ds=>(J3z ks ds y).map fun o=> .bl (!o.isSome)
 | _=>none
section
variable {K:Zf} {B H:Hp}
theorem Jkr {ks ds:List D} {u:V} {fp:List Addr} (sm:Lies K B H) (r:R K B H (.dct ks ds) .F u fp):∃a us vs o,u= .ref a∧H a=some o∧J2n a ks us vs o∧Rl K B H ks .F us []∧Rl K B H ds .F vs []∧ds.length≤sizeLine:=by
 obtain ⟨_,a,us,vs,o,rfl,h1,h2,h3,h4,h5⟩:=r
 exact ⟨a,us,vs,o,rfl,sm.get h1 (Jc4 h2),h2,h4,h5,h3⟩
theorem Jni:OpD K (Jpn K) .F .F Jae .F:=by
 intro B H x y d u v fp1 fp2 Q sm rx ry nd e q
 cases x with
 | dct ks ds=>
  have f1:=rx.fpF
  have f2:=ry.fpF
  subst f1 f2
  obtain ⟨a,us,vs,o,rfl,ha,dO,rk,rv,_⟩:=Jkr sm rx
  have e': (J3z ks ds y).bind id=some d:=e
  obtain ⟨r,e1,e2⟩:=Option.bind_eq_some_iff.mp e'
  cases (show r=some d from e2)
  obtain ⟨o',g,w,fw,rfl,rw'⟩:=Jdk sm dO ha rk rv ry e1
  have f3:=rw'.fpF
  subst f3
  exact ⟨a,w,rfl,g,q B H w [] (Stp.refl _ _ _) sm rw' List.nodup_nil⟩
 | _=>cases e
theorem Jpu:OpD K (Jpo K) .F .F Jpt .Z:=by
 intro B H y x d v u fp2 fp1 Q sm ry rx nd e q
 cases x with
 | dct ks ds=>
  have f1:=rx.fpF
  have f2:=ry.fpF
  subst f1 f2
  obtain ⟨a,us,vs,o,rfl,ha,dO,rk,rv,_⟩:=Jkr sm rx
  have e': (J3z ks ds y).map (fun o=>D.bl o.isSome)=some d:=e
  obtain ⟨r,e1,rfl⟩:=Option.map_eq_some_iff.mp e'
  obtain ⟨o',g,w⟩:=Jdk sm dO ha rk rv ry e1
  have es:o'.isSome=r.isSome:=by
   cases r with
   | none=>rw [show o'=none from w];rfl
   | some d=>obtain ⟨w1,fw,rfl,_⟩:=w;rfl
  exact ⟨a,o',rfl,g,by rw [es];exact q B H _ [] (Stp.refl _ _ _) sm ⟨rfl,rfl⟩ List.nodup_nil⟩
 | _=>cases e
theorem Jnj:OpD K (Jez K) .F .F Jm7 .Z:=by
 intro B H y x d v u fp2 fp1 Q sm ry rx nd e q
 cases x with
 | dct ks ds=>
  have f1:=rx.fpF
  have f2:=ry.fpF
  subst f1 f2
  obtain ⟨a,us,vs,o,rfl,ha,dO,rk,rv,_⟩:=Jkr sm rx
  have e': (J3z ks ds y).map (fun o=>D.bl (!o.isSome))=some d:=e
  obtain ⟨r,e1,rfl⟩:=Option.map_eq_some_iff.mp e'
  obtain ⟨o',g,w⟩:=Jdk sm dO ha rk rv ry e1
  have es:o'.isSome=r.isSome:=by
   cases r with
   | none=>rw [show o'=none from w];rfl
   | some d=>obtain ⟨w1,fw,rfl,_⟩:=w;rfl
  exact ⟨a,o',rfl,g,by rw [es];exact q B H _ [] (Stp.refl _ _ _) sm ⟨rfl,rfl⟩ List.nodup_nil⟩
 | _=>cases e
end
section
variable {X:Cx} {w:Wh} {μ μ' μ1 μ2:List Mode} {o e a b:Expr} {es:List Expr} {f g:Gam→Rz D} {fa:Gam→Rz (List D)} {ms:List Mode} {m m' m1 m2:Mode} {pos apos:Pos}
theorem DE.dnew:DE X w μ (.Dict [] [] pos) (eC (.dct [] [])) (.K m) μ:=⟨pe_dnewK.imp fun σ H Q ⟨B,Γ,fp,st,q⟩ p hp=>by
 have b0:B p=none:=by
  cases e:B p with
  | none=>rfl
  | some o=>rw [st.same.free hp] at e;cases e
 have np:p∉fp:=fun h=>by
  obtain ⟨_,o,e⟩:=st.st.own p h
  rw [e] at hp;cases hp
 refine q B (upd H p (.dK [])) (.ref p) [p] fp ⟨Same.refl _,fun a o _ e=>?_,fun a h=>?_,fun a o e=> .inl e⟩ ⟨J25 st.same hp,st.st.mono (Same.refl _) (Jk (fun a h=>(st.st.own a h).1) np),st.nd⟩ ⟨p,[],[],.dK [],[],rfl,b0,upd_same,.inl ⟨[],rfl,rfl,rfl,rfl⟩,Nat.zero_le _,⟨rfl,rfl⟩,⟨rfl,rfl⟩,rfl⟩ (List.nodup_cons.mpr ⟨np,st.nd⟩)
 ·exact .inl (by rw [upd_ne (ne_of_none e hp)];exact e)
 ·rcases Zo.mp h with rfl | h
  ·exact .inr hp
  ·exact .inl h⟩
end
section
variable {K:Zf} {B H:Hp} {μ:List Mode} {i:Nat}
theorem Jks {Γ:Gam} {σ:St} {fp:List Addr} {d:D} {ks ds:List D} {mi mc:Mode} {s:List Sel} (fl:J1k mc=true) (st:Sta K B H Γ μ σ fp) (eg:J4 Γ i=some d) (em:μ[i]? =some mi) (hx:nX mi) (hp:Jp d s=some (.dct ks ds)) (hm:J12 mi s=some (.K mc)):
  ∃v a us vs o,σ[i]? =some (some v)∧Jx K H v s (.ref a)∧H a=some o∧B a=none∧J2n a ks us vs o∧Rl K B H ks .F us []∧Rl K B H ds mc vs []∧
   ∀o' us' vs' ks' ds',J2n a ks' us' vs' o'→Rl K B (upd H a o') ks' .F us' []→Rl K B (upd H a o') ds' mc vs' []→ds'.length≤sizeLine→
    ∃d' fp',J1g d s (.dct ks' ds')=some d'∧Stp B H fp B (upd H a o') fp'∧Sta K B (upd H a o') (Γ.set i (some d')) μ σ fp':=by
 obtain ⟨v,fi,fr,h1,h2,h3,h4,h5⟩:=StR.take (m0:= .U) st.st (J9 eg) em hx
 have nir:=J0.mp (h4 st.nd)
 obtain ⟨u,fc,p1,p2,p3,p4,p5,p6⟩:=R.path h2 hp hm
 obtain ⟨a,us,vs,o,fq,rfl,b0,ha,dO,hl,hk,hr,rfl⟩:=p2
 have fq0:∀{ds:List D} {vs:List V} {fq:List Addr},Rl K B H ds mc vs fq→fq= []:=by
  intro ds
  induction ds with
  | nil=>exact fun r=>r.2
  | cons d ds ih=>
   intro vs fq r
   obtain ⟨v,q,f1,f2,rfl,r1,r2,rfl⟩:=r
   rw [ih r2,J43 fl r1];rfl
 have e0:=fq0 hr
 subst e0
 have anr:a∉fr:=nir.2.2 a (p3 a Zs)
 refine ⟨v,a,us,vs,o,h1,p1,ha,b0,dO,hk,hr,fun o' us' vs' ks' ds' dO' rk' rv' hl'=>?_⟩
 obtain ⟨fi',⟨d',sd,rd⟩,n',m'⟩:=p6 (upd H a o') (.dct ks' ds') [a] ⟨a,us',vs',o',[],rfl,b0,upd_same,dO',hl',rk',rv',rfl⟩
  (fun x hx hn o e=>by rw [upd_ne (fun q:x=a=>hn (by rw [q];exact Zs))];exact e) nir.1 (by simp)
  (fun x hx=> .inl (by simpa using hx))
 have s3:StR K B (upd H a o') (Γ.set i none) (μ.set i .U) σ fr:=h3.mono (Same.refl _) (Jk (fun x hx=>(h3.own x hx).1) anr)
 obtain ⟨fp',q1,q2,q3⟩:=s3.putO h1 (m:=mi) (g:=some d') (.inr ⟨v,rfl,rd⟩)
 rw [List.set_set,List.set_set,set_same em] at q1
 have src:∀x∈fi',x∈fi:=fun x hx=>by
  rcases m' x hx with q | q
  ·exact q.1
  ·exact p3 x q
 have nfp:fp'.Nodup:=q2 (J0.mpr ⟨n',nir.2.1,fun x hx q=>nir.2.2 x (src x hx) q⟩)
 refine ⟨d',fp',sd,⟨Same.refl _,fun x o hn e=>?_,fun x hx=> .inl ?_,fun x o e=> .inl e⟩,⟨J54 st.same b0 (.dct ha dO),q1,nfp⟩⟩
 ·exact .inl (by rw [upd_ne (fun q:x=a=>hn ((h5 x).mp (Zl _ (by rw [q];exact p3 a Zs))))];exact e)
 ·rcases Zp.mp (q3 x hx) with z | z
  ·exact (h5 x).mp (Zl _ (src x z))
  ·exact (h5 x).mp (Zr _ z)
end
noncomputable def Jg8 (f:Gam→Rz D) (i:Nat) (g:Gam→Option (List Sel)) (f2:Gam→Rz D) (Γ:Gam):Sz:=(f Γ).s fun y Γ1=>match g Γ1,J4 Γ1 i with
 | some s,some d=>(match Jp d s with
  | some (.dct ks ds)=>(f2 (Γ1.set i none)).s fun k Γ2=>(match (J2f ks ds k y).bind fun r=>J1g d s (.dct r.1 r.2) with
   | some d'=> .nx (Γ2.set i (some d'))
   | none=> .bad)
  | _=> .bad)
 | _,_=> .bad
section
variable {X:Cx} {z:Ws} {μ μ1 μ2:List Mode} {o b e:Expr} {i:Nat} {g:Gam→Option (List Sel)} {h h2:Gam→Rz D} {mc mi:Mode} {ps pos:Pos}
theorem DS.dput (hroom:X.A.units + 64 < cLine) (he:DE X z.w μ e h mc μ1) (fl:J1k mc=true) (ho:DPl X μ1 o i g) (em:μ1[i]? =some mi) (hx:nX mi) (hm:∀Γ s,g Γ=some s→J12 mi s=some (.K mc)) (hk:DE X z.w (μ1.set i .U) b h2 .F μ2) (hu:μ2[i]? =some .U)
  (hpl:J35 b=true) (hcp:J6x e=false):DS X z μ (.Assign [.Subscript o b ps] e pos) (Jg8 h i g h2) (μ2.set i mi):=by
 refine ⟨(ps_asg he.pe (pg_sub ho.pe hk.pe (Jpq hroom) fun v=>Jaa hpl _ v) (Jhs hcp _ _) (J5l (.inl rfl) _) (J4u rfl _)).imp fun D σ H ⟨hp,B,Γ,fp,sta,q⟩=>?_⟩
 refine J82 hp sta q fun y Γ1 B1 H1 v fpv fp1 ef s1 st1 r nd=>?_
 have f0:=J43 fl r
 subst f0
 unfold Jg8 at q
 rw [ef] at q
 have q1:Jo X.K z (μ2.set i mi) B H fp D (match g Γ1,J4 Γ1 i with
  | some s,some d=>(match Jp d s with
   | some (.dct ks ds)=>(h2 (Γ1.set i none)).s fun k Γ2=>(match (J2f ks ds k y).bind fun r=>J1g d s (.dct r.1 r.2) with
    | some d'=> .nx (Γ2.set i (some d'))
    | none=> .bad)
   | _=> .bad)
  | _,_=> .bad):=q
 clear q
 cases es:g Γ1 with
 | none=>rw [es] at q1;exact q1.elim
 | some s=>
 cases eg:J4 Γ1 i with
 | none=>rw [es,eg] at q1;exact q1.elim
 | some d=>
 rw [es,eg] at q1
 have q2:Jo X.K z (μ2.set i mi) B H fp D (match Jp d s with
   | some (.dct ks ds)=>(h2 (Γ1.set i none)).s fun k Γ2=>(match (J2f ks ds k y).bind fun r=>J1g d s (.dct r.1 r.2) with
    | some d'=> .nx (Γ2.set i (some d'))
    | none=> .bad)
   | _=> .bad):=q1
 clear q1
 cases eP:Jp d s with
 | none=>rw [eP] at q2;exact q2.elim
 | some nd0=>
 rw [eP] at q2
 cases nd0 with
 | dct ks ds=>
  have s1':Stp B H fp B1 H1 fp1:=by simpa using s1
  have q3:Jo X.K z (μ2.set i mi) B1 H1 fp1 D ((h2 (Γ1.set i none)).s fun k Γ2=>(match (J2f ks ds k y).bind fun r=>J1g d s (.dct r.1 r.2) with
    | some d'=> .nx (Γ2.set i (some d'))
    | none=> .bad)):=Jo.after q2 s1'
  clear q2
  obtain ⟨v0,fi,fr,g1,g2,g3,g4,g5⟩:=StR.take (m0:= .U) st1.st (J9 eg) em hx
  have nir:=J0.mp (g4 st1.nd)
  obtain ⟨u,fc,p1,p2,p3,p4,p5,p6⟩:=R.path g2 eP (hm _ _ es)
  obtain ⟨a,us,vs,oo,fq,rfl,b0,hA,_⟩:=p2
  have sta':Sta X.K B1 H1 (Γ1.set i none) (μ1.set i .U) σ fr:=⟨st1.same,g3,nir.2.1⟩
  have sfr:Stp B1 H1 fp1 B1 H1 fr:=(Stp.refl _ _ _).less fun x hx=>(g5 x).mp (Zr _ hx)
  refine ⟨B1,Γ1,fp1,v0,s,.ref a,st1,es,g1,p1,?_⟩
  refine J82 hp sta' (μ2:=μ2.set i mi) (q3.after sfr) fun k Γ2 B2 H2 vk fpk fp2 ek s2 st2 rk nd2=>?_
  have f1:=rk.fpF
  subst f1
  rw [ek] at q3
  have q4:Jo X.K z (μ2.set i mi) B1 H1 fp1 D (match (J2f ks ds k y).bind fun r=>J1g d s (.dct r.1 r.2) with
    | some d'=> .nx (Γ2.set i (some d'))
    | none=> .bad):=q3
  clear q3
  have s2':Stp B1 H1 fr B2 H2 fp2:=by simpa using s2
  cases ep:J2f ks ds k y with
  | none=>rw [ep] at q4;exact q4.elim
  | some rr=>
   rw [ep] at q4
   have q5:Jo X.K z (μ2.set i mi) B1 H1 fp1 D (match J1g d s (.dct rr.1 rr.2) with
    | some d'=> .nx (Γ2.set i (some d'))
    | none=> .bad):=q4
   clear q4
   -- the slot comes back
   have ownI:∀x∈fi,B1 x=none∧∃o,H1 x=some o:=R.own d g2
   have kI:=s2'.kept (K:=X.K) ownI nir.2.2
   have apI:=s2'.apart (fun x hx=>(ownI x hx).2) nir.2.2
   have g2':R X.K B2 H2 d mi v0 fi:=g2.mono s2'.base d kI
   obtain ⟨fpB,b1,b2,b3⟩:=st2.st.putO g1 (i:=i) (m:=mi) (g:=some d) (.inr ⟨v0,rfl,g2'⟩)
   have stB:Sta X.K B2 H2 (Γ2.set i (some d)) (μ2.set i mi) σ fpB:=⟨st2.same,b1,b2 (J0.mpr ⟨nir.1,st2.nd,fun x hx hy=>apI x hx hy⟩)⟩
   have il:i < Γ2.length:=by
    have h1:=(List.getElem?_eq_some_iff.mp g1).1
    rw [(StR.len st2.st).1];exact h1
   have eB:J4 (Γ2.set i (some d)) i=some d:=by
    unfold J4
    rw [List.getElem?_set_self il]
   have emB: (μ2.set i mi)[i]? =some mi:=List.getElem?_set_self (List.getElem?_eq_some_iff.mp hu).1
   obtain ⟨v2,a2,us2,vs2,o2,n1,n2,n3,n4,n5,n6,n7,n8⟩:=Jks fl stB eB emB hx eP (hm _ _ es)
   rw [g1] at n1;cases n1
   have same:V.ref a2= .ref a:=n2.inj (Jx.keep g2 eP (hm _ _ es) (fun x hx o e=>(kI x hx).1 o e) p1)
   cases same
   -- what is stored
   have ry2:R X.K B2 H2 y mc v []:=r.mono (s2'.base) y Kept.nil
   obtain ⟨o',us',vs',dp,dO',rk',rv',hl'⟩:=Ji7 (m:=mc) st2.same n5 n3 n6 n7 rk ry2 ep
   have kU:∀l:List Addr,Kept B2 H2 (upd H2 a o') []:=fun l=>Kept.nil
   obtain ⟨d9,fp9,u1,u2,u3⟩:=n8 o' us' vs' rr.1 rr.2 dO' (Rl.mono (Same.refl _) rr.1 rk' Kept.nil) (Rl.mono (Same.refl _) rr.2 rv' Kept.nil) hl'
   rw [u1] at q5
   refine ⟨a,_,rfl,dp,?_⟩
   have sAll:Stp B1 H1 fp1 B2 H2 fpB:=by
    have s3:Stp B1 H1 (fi++fr) B2 H2 (fi++fp2):=s2'.frame fi
    exact (s3.more fun x hx=>(g5 x).mp hx).less fun x hx=>b3 x hx
   rw [List.set_set] at u3
   exact q5 σ B2 _ fp9 (sAll.trans u2) u3 hp
 | _=>exact q2.elim
end
section
variable {X:Cx} {w:Wh} {μ μ1:List Mode} {b:Expr} {f:Gam→Rz D} {m0:Mode} {pos:Pos} {i:Nat} {x:Str} {p0:Pos}
end
open PyProof.Rows hiding St
section
variable {prog:Program} {w:World} {A:Around} {R:Result→Shared→Prop} {s:Shared} {kx vx t0 i0 t1 i1:Expr} {ifs0 ifs1:List Expr} {scope:Scope} {pos:Pos} {it:Value} {D:Addr} {env:Env}
end
section
variable {X:Cx}
noncomputable def Jkt (K:Zf) (wi:TI) (g:TG) (tt:TT) (tk tv:TE) (vs:List Nat):TE:=fun σ H Q=>wi σ H fun J H1=>∀D,H1 D=none→∃W:Nat→Nat→Hp→Prop,(∃m,W 0 m (upd H1 D (.dK [])))∧∀i m H,W i m H→
 (J.stop i H∧Q (.ref D) H)∨(J.go i H∧∃Nx:Hp→Prop,(∀H',Nx H'→∃m',m' < m∧W (i + 1) m' H')∧∀x H',J.yld i H x H'→g x (wipe σ vs) H' fun σ2 H2=>wipe σ2 vs=wipe σ vs∧tt σ2 H2 fun b H3=>
  if b=true then tk σ2 H3 fun y H4=>tv σ2 H4 fun z H5=>∃H6,Jba K H5 D y z H6∧Nx H6 else Nx H3)
theorem Jku {pins:List (Addr × Obj)} {s:Shared} {σ:St} {H:Hp} {Q:VK} {kx vx tg iter:Expr} {ifs:List Expr} {scope:Scope} {own:List (Str × Nat)} {pos pos':Pos} {wi:TI} {g:TG} {tt:TT} {tk tv:TE} {use:Option (Value→Sem Unit)} {Qf:Value→Shared→Prop}
  (hroom:X.A.units + 64 < cLine) (hc:X.calm=true) (hN:X.N.Nodup) (I:Inv X pins σ H s) (hi:PI X tg iter wi) (ok:BlkOk X.N X.env.scope scope own)
  (hg:∀ (s:Shared) (H:Hp) (C:Addr) (cl:List (Str × Addr)) (fp:List Addr),PG (X.blk s H scope (compEnvC scope cl C X.env) fp) tg g) (ht:∀ (s:Shared) (H:Hp) (C:Addr) (cl:List (Str × Addr)) (fp:List Addr),PTs (X.blk s H scope (compEnvC scope cl C X.env) fp) ifs tt)
  (hk:∀ (s:Shared) (H:Hp) (C:Addr) (cl:List (Str × Addr)) (fp:List Addr),PE (X.blk s H scope (compEnvC scope cl C X.env) fp) kx tk)
  (he:∀ (s:Shared) (H:Hp) (C:Addr) (cl:List (Str × Addr)) (fp:List Addr),PE (X.blk s H scope (compEnvC scope cl C X.env) fp) vx tv) (hs:∀x,foldedSetIterable iter X.env x=pure x)
  (h:Jkt X.K wi g tt tk tv (own.map (·.2)) σ H Q)
  (hRR:∀D C s' m H',Inv X pins σ H' s'→Q (.ref D) H'→s'.heap.Ns C m→FpOk X pins H' C→compPost (model X.prog X.w) X.A X.xe use Qf (.ref D) C (.ok .next) s'):
  wpAny (model X.prog X.w) X.A (comprehension (.DictComp kx vx [⟨tg,iter,ifs,0⟩] scope pos) scope X.env pos' newDict false (eval iter X.env) use) Qf X.xe s:=by
 have hfree:∀y∈scope.names,y.2= .free→∃c,X.env.cells.lookup y.1=some c:=fun y hy e=>by
  rcases ok.free y hy e with k | k
  ·exact I.ok.has _ (.inl k)
  ·exact I.ok.has _ (.inr k)
 refine wpAny_comprehension_free (use:=use) rfl hs (closure_ok hfree) ok.kind (fun y hy e=>by rw [ok.uniq y hy,e])
  (thn (hi.run pins s σ H _ I h) fun xv s1 hx=>thn hx fun itv s2 h2=>?_)
 obtain ⟨it,fp,tn,J,H2,e,I2,T,st2,f2,q⟩:=h2
 subst e
 refine wpAny_newObj_type (newEnv_comp ?_)
 generalize hD:s2.heap.objs.size=D
 have hDn:H2 D=none:=I2.hok.fresh (Nat.le_of_eq hD)
 obtain ⟨W,⟨m0,w0⟩,turn⟩:=q D hDn
 -- the new list
 generalize hs3: ({ s2 with heap:=s2.heap.push { cls:= .type "dict",data:= .dict #[]}}:Shared)=s3
 have I3:Inv X pins σ (upd H2 D (.dK [])) s3:=by
  rw [← hs3]
  refine I2.laid (t':=s2.toks) (fun b o e=>Heap.get?_push_of_some _ e) (Nat.le_of_eq hD) ?_
  rw [← hD]
  exact dk_empty s2.heap I2.big
 have h3:s3.heap=s2.heap.push { cls:= .type "dict",data:= .dict #[]}:=by rw [← hs3]
 have sz:∀b∈fp,b < s2.heap.objs.size:=fun b hb=>by
  obtain ⟨o,e,_⟩:=T.obj _ _ st2 b hb
  exact Heap.lt_size e
 have f3:∀b∈fp,FpOk X pins (upd H2 D (.dK [])) b∧b < s3.heap.objs.size:=fun b hb=>by
  have hlt:=sz b hb
  refine ⟨⟨?_,(f2 b hb).2⟩,by rw [h3,Heap.size_push];exact Nat.lt_succ_of_lt hlt⟩
  rw [upd_ne (by rw [← hD];exact Nat.ne_of_lt hlt)]
  exact (f2 b hb).1
 have st3:tn 0 s3.heap:=T.keep _ _ _ st2 fun b _ o e=>by rw [h3];exact Heap.get?_push_of_some _ e
 have I4:=block_start I3 ok hN f3
 have pg:=hg s3 (upd H2 D (.dK [])) s3.heap.objs.size (cellsFrom (s3.heap.objs.size + 1) scope.names (cloFrom X.env.cells scope.names [])) fp
 have pt:=ht s3 (upd H2 D (.dK [])) s3.heap.objs.size (cellsFrom (s3.heap.objs.size + 1) scope.names (cloFrom X.env.cells scope.names [])) fp
 have pk:=hk s3 (upd H2 D (.dK [])) s3.heap.objs.size (cellsFrom (s3.heap.objs.size + 1) scope.names (cloFrom X.env.cells scope.names [])) fp
 have pe:=he s3 (upd H2 D (.dK [])) s3.heap.objs.size (cellsFrom (s3.heap.objs.size + 1) scope.names (cloFrom X.env.cells scope.names [])) fp
 show codeAny _ _ (.compStart (.DictComp kx vx [⟨tg,iter,ifs,0⟩] scope pos) 0 (.ref it) (.ref D) (compEnvC scope (cellsFrom (s3.heap.objs.size + 1) scope.names (cloFrom X.env.cells scope.names [])) s3.heap.objs.size X.env)) (compPost (model X.prog X.w) X.A X.xe use Qf (.ref D) s3.heap.objs.size) { s3 with heap:=pushCells (s3.heap.push { cls:= .type "dict",data:= .dict #[]}) scope.names}
 have nfp:∀b∈fp,(upd H2 D (.dK [])) b=none:=fun b hb=>(f3 b hb).1.1
 generalize hce:compEnvC scope (cellsFrom (s3.heap.objs.size + 1) scope.names (cloFrom X.env.cells scope.names [])) s3.heap.objs.size X.env=ce at I4 pg pt pk pe ⊢
 have cL:ce.locals=s3.heap.objs.size:=by subst hce;rfl
 generalize hH3:upd H2 D (.dK [])=H3 at I3 I4 pg pt pk pe w0 nfp f3
 generalize hs4: ({ s3 with heap:=pushCells (s3.heap.push { cls:= .type "dict",data:= .dict #[]}) scope.names}:Shared)=s4 at I4 ⊢
 have st4:tn 0 s4.heap:=T.keep _ _ _ st3 fun b _ o e=>by rw [← hs4];exact pushCells_keeps _ _ _ _ (Heap.get?_push_of_some _ e)
 have stat:∀{σ':St} {H':Hp} {s':Shared},Inv (X.blk s3 H3 scope ce fp) [] σ' H' s'→(∀b∈fp,H' b=none)→∀b∈fp,FpOk (X.blk s3 H3 scope ce fp) [] H' b:=fun {σ' H' s'} I' hn b hb=>
  ⟨hn b hb,(I'.ok.exf b hb).1,I'.ok.exfs b hb,.inl hb,fun x c e=>(I'.ok.exf b hb).2 x c e,fun p hp=>absurd (show p∈([]:List (Addr × Obj))++ [] from hp) (by simp)⟩
 have loop:codeAny (model X.prog X.w) X.A (.compLoop (.DictComp kx vx [⟨tg,iter,ifs,0⟩] scope pos) 0 (.ref it) (.ref D) ce) (compPost (model X.prog X.w) X.A X.xe use Qf (.ref D) s3.heap.objs.size) s4:=by
  refine compLoop_anyD (fun n s'=>∃i H',Inv (X.blk s3 H3 scope ce fp) [] (wipe σ (own.map (·.2))) H' s'∧tn i s'.heap∧(∀b∈fp,H' b=none)∧W i n H') ?_ m0 ⟨0,H3,I4,st4,nfp,w0⟩
  rintro n s5 ⟨i,H5,I5,st5,n5,w5⟩
  rcases turn i n H5 w5 with ⟨stop,qq⟩ | ⟨go,Nx,hNx,step⟩
  ·have td:=T.done (X.blk s3 H3 scope ce fp) rfl rfl rfl hc i [] s5 _ H5 (fun _ _=>False) I5 (stat I5 n5) st5 stop
   refine thnF td fun r s6 ⟨hr,I6⟩=>?_
   subst hr
   -- back in the def's context
   have I7:Inv X pins σ H5 s6:=I3.call' (ch:=fp) I6.os I6.base I6.hok I6.bare fun b hb=>⟨(f3 b hb).1.2.2.2.1,(f3 b hb).1.2.1,(f3 b hb).1.2.2.2.2.1,(f3 b hb).1.2.2.2.2.2⟩
   have nC:H5 s3.heap.objs.size=none:=by
    have z:H5 ce.locals=none:=I6.free
    rw [cL] at z
    exact z
   obtain ⟨m,hn,_⟩:=I6.loc
   have hn:s6.heap.Ns ce.locals m:=hn
   rw [cL] at hn
   exact hRR D s3.heap.objs.size s6 m H5 I7 qq hn (I3.fpOk (Nat.le_refl _) nC)
  ·have ti:=T.item (X.blk s3 H3 scope ce fp) rfl rfl rfl hc i [] s5 _ H5 (fun _ _=>False) I5 (stat I5 n5) st5 go
   refine thnF ti fun r s6 ⟨u,hr,h6⟩=>?_
   subst hr
   refine thnF h6 fun _ s7 ⟨x,H7,I7,r7,y7,st7,n7⟩=>?_
   have I7':=I7.pinned (stat I7 n7) (T.obj _ _ st7)
   refine thnF (pg.run _ s7 _ H7 x u _ I7' r7 (step x H7 y7)) fun _ s8 ⟨σ8,H8,I8,hw8,q8⟩=>?_
   refine thnF (pt.run _ s8 σ8 H8 _ I8 q8) fun b s9 ⟨H9,I9,q9⟩=>?_
   -- the turn's end
   have fin:∀{s':Shared} {H':Hp},Inv (X.blk s3 H3 scope ce fp) ([]++pinsAt fp s7.heap) σ8 H' s'→Nx H'→∃m,m < n∧∃i H',Inv (X.blk s3 H3 scope ce fp) [] (wipe σ (own.map (·.2))) H' s'∧tn i s'.heap∧(∀b∈fp,H' b=none)∧W i m H':=fun {s' H'} I' nx=>by
    obtain ⟨m',hm,w'⟩:=hNx H' nx
    have pin':∀b∈fp,∀o,s7.heap.get? b=some o→s'.heap.get? b=some o∧H' b=none:=fun b hb o e=>
     let z:=I'.pin (b,o) (Zr _ (Zr _ (mem_pinsAt hb e)))
     ⟨z.1,z.2.1⟩
    have hl: (wipe σ (own.map (·.2))).length=σ8.length:=by rw [← hw8,wipe_length]
    refine ⟨m',hm,i + 1,H',(I'.unpinned (pins:= [])).weak hl (fun j v e=>?_),T.keep _ _ _ st7 fun b hb o e=>(pin' b hb o e).1,fun b hb=>?_,w'⟩
    ·rw [← hw8] at e
     exact (wipe_some e).1
    ·obtain ⟨o,e,_⟩:=T.obj _ _ st7 b hb
     exact (pin' b hb o e).2
   cases b with
   | false=>
    simp only [Bool.false_eq_true,if_false] at q9 ⊢
    exact fin I9 q9
   | true=>
    simp only [if_true] at q9 ⊢
    refine thnF (pk.run _ s9 σ8 H9 _ I9 q9) fun z s10 ⟨yk,H10,I10,r10,q10⟩=>?_
    refine thnF (pe.run _ s10 σ8 H10 _ I10 q10) fun z2 s11 ⟨yv,H11,I11,r11,H12,dp,nx⟩=>?_
    exact Jg7 (X:=X.blk s3 H3 scope ce fp) hroom I11 dp r10 r11 fun s12 I12=>fin I12 nx
 exact codeAny_compStart_dict loop (T.self X.A 0 _ _ _ st4 loop)
theorem Jpv {kx vx tg iter:Expr} {ifs:List Expr} {scope:Scope} {own:List (Str × Nat)} {pos:Pos} {wi:TI} {g:TG} {tt:TT} {tk tv:TE} (hroom:X.A.units + 64 < cLine) (hc:X.calm=true) (hN:X.N.Nodup) (hi:PI X tg iter wi) (ok:BlkOk X.N X.env.scope scope own)
  (hg:∀ (s:Shared) (H:Hp) (C:Addr) (cl:List (Str × Addr)) (fp:List Addr),PG (X.blk s H scope (compEnvC scope cl C X.env) fp) tg g) (ht:∀ (s:Shared) (H:Hp) (C:Addr) (cl:List (Str × Addr)) (fp:List Addr),PTs (X.blk s H scope (compEnvC scope cl C X.env) fp) ifs tt)
  (hk:∀ (s:Shared) (H:Hp) (C:Addr) (cl:List (Str × Addr)) (fp:List Addr),PE (X.blk s H scope (compEnvC scope cl C X.env) fp) kx tk)
  (he:∀ (s:Shared) (H:Hp) (C:Addr) (cl:List (Str × Addr)) (fp:List Addr),PE (X.blk s H scope (compEnvC scope cl C X.env) fp) vx tv) (hs:∀x,foldedSetIterable iter X.env x=pure x:=by intro _;rfl):
  PE X (.DictComp kx vx [⟨tg,iter,ifs,0⟩] scope pos) (Jkt X.K wi g tt tk tv (own.map (·.2))):=by
 refine ⟨fun pins s σ H Q I h=>?_⟩
 rw [arm_eval_DictComp]
 refine Jku hroom hc hN I hi ok hg ht hk he hs h fun D C s' m H' I' q hn f=>⟨m,hn,fun h'' sb=>?_⟩
 obtain ⟨f0,f1,f2,f3,f4,f5⟩:=f
 exact ⟨.ref D,H',I'.turned (t':=s'.toks) (fun b o hb e=>(sb.2 b hb).trans e) f0 f1 f3 f4 f5,rfl,q⟩
end
end EV
namespace EV
open PySem PySem.Spec L2
noncomputable abbrev Dc2:=List D × List D
structure HoldD (K:Zf) (B H:Hp) (fp:List Addr) (Dl:Addr) (me:Mode) (B1 H1:Hp) (fpS:List Addr) (acc:Dc2):Prop where
 d:∃o us vs,H1 Dl=some o∧J2n Dl acc.1 us vs o∧Rl K B1 H1 acc.1 .F us []∧Rl K B1 H1 acc.2 me vs []∧acc.2.length≤sizeLine
 b:B1 Dl=none
 dj:Dl∉fpS
 stp:Stp B H fp B1 H1 (Dl::fpS)
section
variable {K:Zf} {B H B1 H1 B2 H2:Hp} {fp fpS fp2:List Addr} {Dl:Addr} {me:Mode} {acc:Dc2}
theorem HoldD.own (h:HoldD K B H fp Dl me B1 H1 fpS acc):∀a∈ [Dl],B1 a=none∧∃o,H1 a=some o:=fun a q=>by
 obtain ⟨o,us,vs,e,_⟩:=h.d
 rw [List.mem_singleton.mp q]
 exact ⟨h.b,o,e⟩
theorem HoldD.step (h:HoldD K B H fp Dl me B1 H1 fpS acc) (s:Stp B1 H1 fpS B2 H2 fp2):HoldD K B H fp Dl me B2 H2 fp2 acc:=by
 have dj:∀a∈ [Dl],a∉fpS:=fun a q=>by rw [List.mem_singleton.mp q];exact h.dj
 have kT:=s.kept (K:=K) h.own dj
 obtain ⟨o,us,vs,e,d1,d2,d3,d4⟩:=h.d
 exact ⟨⟨o,us,vs,(kT Dl Zs).1 _ e,d1,d2.mono s.base _ Kept.nil,d3.mono s.base _ Kept.nil,d4⟩,(kT Dl Zs).2,s.apart (fun a q=>(h.own a q).2) dj Dl Zs,h.stp.trans (s.frame [Dl])⟩
theorem HoldD.put {k y:D} {u v:V} {acc':Dc2} (sm:Lies K B1 H1) (h:HoldD K B H fp Dl me B1 H1 fpS acc) (rk:R K B1 H1 k .F u []) (ry:R K B1 H1 y me v []) (e:J2f acc.1 acc.2 k y=some acc'):
  ∃o',Jba K H1 Dl u v (upd H1 Dl o')∧HoldD K B H fp Dl me B1 (upd H1 Dl o') fpS acc':=by
 obtain ⟨o,us,vs,ho,d1,d2,d3,d4⟩:=h.d
 obtain ⟨o',us',vs',g1,g2,g3,g4,g5⟩:=Ji7 (m:=me) sm d1 ho d2 d3 rk ry (show J2f acc.1 acc.2 k y=some (acc'.1,acc'.2) from e)
 refine ⟨o',g1,⟨o',us',vs',upd_same,g2,g3.mono (Same.refl _) _ Kept.nil,g4.mono (Same.refl _) _ Kept.nil,g5⟩,h.b,h.dj,⟨h.stp.base,fun a o n e=>?_,h.stp.own,h.stp.new⟩⟩
 have e':=h.stp.keep a o n e
 have z:a≠Dl:=by
  rintro rfl
  rcases h.stp.own a Zs with q | q
  ·exact n q
  ·rw [e] at q;cases q
 rw [upd_ne z];exact e'
theorem HoldD.new {Γ:Gam} {μ:List Mode} {σ:St} {B0 H0:Hp} {fp0:List Addr} (s0:Stp B H fp B0 H0 fp0) (st0:Sta K B0 H0 Γ μ σ fp0) (hDl:H0 Dl=none):HoldD K B H fp Dl me B0 (upd H0 Dl (.dK [])) fp0 ([],[])∧Sta K B0 (upd H0 Dl (.dK [])) Γ μ σ fp0:=by
 have bD:B0 Dl=none:=by
  cases e:B0 Dl with
  | none=>rfl
  | some o=>rw [st0.same.free hDl] at e;cases e
 have nDfp:Dl∉fp0:=fun h=>by
  obtain ⟨_,o,e⟩:=st0.st.own Dl h
  rw [e] at hDl;cases hDl
 refine ⟨⟨⟨.dK [],[],[],upd_same,.inl ⟨[],rfl,rfl,rfl,rfl⟩,⟨rfl,rfl⟩,⟨rfl,rfl⟩,Nat.zero_le _⟩,bD,nDfp,⟨s0.base,fun a o n e=>?_,fun a h=>?_,s0.new⟩⟩,⟨J25 st0.same hDl,st0.st.mono (Same.refl _) (Jk (fun a h=>(st0.st.own a h).1) nDfp),st0.nd⟩⟩
 ·have:=s0.keep a o n e
  exact Jcy this hDl
 ·rcases Zo.mp h with rfl | h
  ·by_cases n:a∈fp
   ·exact .inl n
   ·cases e:H a with
    | none=>exact .inr rfl
    | some o=>obtain ⟨o',e'⟩:=s0.there n e;rw [e'] at hDl;cases hDl
  ·exact s0.own a h
end
section
variable {X:Cx} {w:Wh} {μ μ' μ1 μ2 μt μt1 μk μe:List Mode} {m m1 me:Mode} {pos:Pos} {vs vs1:List Nat}
end
end EV
namespace EV
open PySem PySem.Spec L2 PySem.W PySem.Calls
open PyProof.Rows hiding St
section
variable {prog:Program} {w:World} {A:Around} {E:Value→Shared→Prop} {s:Shared} {d:Addr} {o:Obj} {es:Array DictEntry} {ep:Nat}
end
section
variable {X:Cx}
end
end EV
namespace EV
open PySem PySem.Spec L2
open PyProof.Rows hiding St
section
variable {X:Cx}
end
section
structure Dc1H (X:Cx) (w:Wh) (μ:List Mode) (kx vx tg iter:Expr) (ifs:List Expr) (scope:Scope) (own:List (Str × Nat)) (fi:Gam→Rz (List D)) (t:D→Gam→Option Gam) (tt:Gam→Rz Bool) (fk fv:Gam→Rz D) (m me:Mode) (μ1 μt μk μe:List Mode):Prop where
 fl:J1k me=true
 room:X.A.units + 64 < cLine
 ok:BlkOk X.N X.env.scope scope own
 hi:DI X w μ tg iter fi m μ1
 hf1:Je μ1 (own.map (·.2))=true
 hft:Je μt (own.map (·.2))=true
 wkt:J6 (J2 μt (own.map (·.2))) (J2 μ1 (own.map (·.2)))=true
 hfe:Je μe (own.map (·.2))=true
 wke:J6 (J2 μe (own.map (·.2))) (J2 μ1 (own.map (·.2)))=true
 hg:∀ (s:Shared) (H:Hp) (C:Addr) (cl:List (Str × Addr)) (fp:List Addr) (σ0:St),DG (X.blk s H scope (compEnvC scope cl C X.env) fp) (fun τ=>L2.wipe τ (own.map (·.2))=L2.wipe σ0 (own.map (·.2))) (J2 μ1 (own.map (·.2))) tg m t μt
 ht:∀ (s:Shared) (H:Hp) (C:Addr) (cl:List (Str × Addr)) (fp:List Addr),DTs (X.blk s H scope (compEnvC scope cl C X.env) fp) (wNo μt) μt ifs tt μt
 hk:∀ (s:Shared) (H:Hp) (C:Addr) (cl:List (Str × Addr)) (fp:List Addr),DE (X.blk s H scope (compEnvC scope cl C X.env) fp) (wNo μt) μt kx fk .F μk
 he:∀ (s:Shared) (H:Hp) (C:Addr) (cl:List (Str × Addr)) (fp:List Addr),DE (X.blk s H scope (compEnvC scope cl C X.env) fp) (wNo μk) μk vx fv me μe
 hs:∀x,foldedSetIterable iter X.env x=pure x
end
section
variable {X:Cx} {w:Wh} {μ μ' μ1 μ2 μt μt1 μk μe:List Mode} {m m1 me:Mode} {pos:Pos} {vs1:List Nat} {kx vx tg iter tg1 iter1:Expr} {ifs ifs1:List Expr} {scope:Scope} {own:List (Str × Nat)} {fi fi1:Gam→Rz (List D)} {t t1:D→Gam→Option Gam} {tt tt1:Gam→Rz Bool} {fk fv:Gam→Rz D}
theorem Dc1H.tr (h:Dc1H X w μ kx vx tg iter ifs scope own fi t tt fk fv m me μ1 μt μk μe):PE X (.DictComp kx vx [⟨tg,iter,ifs,0⟩] scope pos) (Jkt X.K (tDI X.K w μ fi m μ1) (tGw X.K (own.map (·.2)) (J2 μ1 (own.map (·.2))) m t μt) (tDT X.K (wNo μt) μt tt μt) (tD X.K (wNo μt) μt fk .F μk) (tD X.K (wNo μk) μk fv me μe) (own.map (·.2)))∨X.calm=false∨¬X.N.Nodup:=by
 by_cases hc:X.calm=true
 ·by_cases hN:X.N.Nodup
  ·exact .inl (Jpv h.room hc hN h.hi.pi h.ok (fun s H C cl fp=>⟨fun pins s' σ' H' v u Q I r q=>(h.hg s H C cl fp σ').pg.run pins s' σ' H' v u Q I r q⟩) (fun s H C cl fp=>(h.ht s H C cl fp).pt) (fun s H C cl fp=>(h.hk s H C cl fp).pe) (fun s H C cl fp=>(h.he s H C cl fp).pe) h.hs)
  ·exact .inr (.inr hN)
 ·exact .inr (.inl (by simpa using hc))
end
theorem Rl.all {K:Zf} {B H:Hp}:∀{es:List NE},Rl K B H (es.map fun e=>kN e.1) .F (es.map fun e=>V.ref e.2.1) []→∀e∈es,R K B H (kN e.1) .F (.ref e.2.1) []
 | [],_,e,he=>nomatch he
 | p::es,r,e,he=>by
  obtain ⟨v,q,f1,f2,e0,r1,r2,ef⟩:=r
  cases e0
  obtain ⟨rfl,rfl⟩:=List.append_eq_nil_iff.mp ef.symm
  rcases Zo.mp he with rfl | he
  ·exact r1
  ·exact Rl.all r2 e he
theorem Jkv {K:Zf} {B H:Hp} {ds:List D} {us:List V} {Q:VK} {q:Addr} (sm:Lies K B H) (rk:Rl K B H ds .F us []) (hl:ds.length≤sizeLine) (hq:H q=none) (c:Comes K B H [] (.lst ds) (.O .F) Q):Q (.ref q) (upd H q (.lst us)):=by
 have b0:B q=none:=by
  cases e:B q with
  | none=>rfl
  | some o=>rw [sm.free hq] at e;cases e
 refine c B (upd H q (.lst us)) (.ref q) [q] ⟨Same.refl _,fun a o _ e=>?_,fun a h=> .inr ?_,fun a o e=> .inl e⟩ (J25 sm hq) ⟨q,us,[],rfl,b0,upd_same,hl,rk.mono (Same.refl _) _ Kept.nil,rfl⟩ (by simp)
 ·exact .inl (by rw [upd_ne (ne_of_none e hq)];exact e)
 ·rw [List.mem_singleton.mp h];exact hq
theorem J2n.len {a:Addr} {ks:List D} {us vs:List V} {o:HO} (h:J2n a ks us vs o):ks.length=vs.length:=by
 rcases h with ⟨kvs,_,rfl,_,rfl⟩ | ⟨es,_,rfl,_,rfl,_⟩ <;> simp
end EV
namespace EV
open PySem PySem.Spec L2 PySem.W PySem.Calls
open PyProof.Rows hiding St
end EV
namespace EV
open PySem PySem.Spec L2
section
variable {X:Cx} {w:Wh} {μ:List Mode} {mc:Mode} {pos:Pos} {i:Nat} {x:Str}
end
noncomputable def Jf0:PyData→Bool
 | .none=>false
 | _=>true
noncomputable def ltX (x y:D):Option D:=match ltI x y with
 | some r=>some r
 | none=>if (sh2 x y && (PySem.W.alike (toP x) (toP y) && Jf0 (toP x)))=true then some (.bl (PySem.W.dataLt (toP x) (toP y))) else none
noncomputable def Jpw (K:Zf):R2:=fun x y H Q=>rI0 (fun i j=> .bl (decide (i < j))) x y H Q∨∃d e,Dp K H x d∧Dp K H y e∧SeqAt.shaped d=true∧PySem.W.alike d e=true∧d≠ .none∧Q (.bl (PySem.W.dataLt d e)) H
theorem Jpx {X:Cx} (hu:X.A.units + 64 < cLine):OpR X (compareOp .Lt) (Jpw X.K):=by
 intro pins s σ H x y v u Q I rx ry h
 rcases h with h | ⟨d,e,hd,he,sd,ha,hn,q⟩
 ·exact op_lt pins s σ H x y v u Q I rx ry h
 ·obtain ⟨as,r1⟩:=Dp.reads I d x v hd rx
  obtain ⟨bs,r2⟩:=Dp.reads I e y u he ry
  exact PySem.W.rcLt_alike d e X.A s v u as bs r1 r2 ha hn (SeqAt.room_of_shaped sd hu) X.prog X.w _ _ ⟨.bl _,H,I,rfl,q⟩
theorem Jnk {K:Zf} {m1 m2:Mode}:OpD K (Jpw K) m1 m2 ltX .Z:=by
 intro B H x y d u v fp1 fp2 Q s r1 r2 nd e c
 unfold ltX at e
 cases hI:ltI x y with
 | some r=>
  rw [hI] at e
  cases e
  exact .inl (Jp5 B H x y _ u v fp1 fp2 Q s r1 r2 nd hI c)
 | none=>
  rw [hI] at e
  have e': (if (sh2 x y && (PySem.W.alike (toP x) (toP y) && Jf0 (toP x)))=true then some (D.bl (PySem.W.dataLt (toP x) (toP y))) else none)=some d:=e
  split at e'
  ·rename_i h
   rw [Zb,Zb] at h
   obtain ⟨h1,h2,h3⟩:=h
   unfold sh2 at h1
   rw [Zb] at h1
   cases e'
   exact .inr ⟨toP x,toP y,R.dp s 60 x h1.1 r1,R.dp s 60 y h1.2 r2,J4h h1.1,h2,(fun z=>by rw [z] at h3;cases h3),c.flat s ⟨rfl,rfl⟩⟩
  ·cases e'
end EV
namespace EV
open PySem PySem.Spec L2 PySem.W PySem.Calls
open PyProof.Rows hiding St
noncomputable def Jm8:D→Bool
 | .tup (_::_)=>true
 | _=>false
noncomputable def Jf1:D→Bool
 | .int _=>true
 | .str _=>true
 | .bl _=>true
 | .lst _=>true
 | _=>false
noncomputable def Jf2 (ds:List D):Bool:=ds.all (shN 60) && ((ds.all fun d=>ds.all fun e=>alike (toP d) (toP e)) && (ds.all Jm8 || ds.all Jf1))
section
variable {X:Cx}
end
end EV
namespace EV
open PySem PySem.Spec L2
noncomputable def Jsd:D→Option V
 | .non=>some .non
 | .bl b=>some (.bl b)
 | .int i=>some (.int i)
 | .str x=>some (.str x)
 | _=>none
section
variable {K:Zf} {m1 m2:Mode}
end
noncomputable def TabOk (K:Zf) (w:World) (mg:Str→Option Value) (T:Str) (kn:List Str):Prop:=∀p∈pairsK kn,KDct K w (He.ga K T) p.1 (.ref (He.ga K p.2))∧mg p.2=some (.ref (He.ga K p.2))
section
variable {X:Cx} {CX:CXT} {k i:Nat} {f:Addr} {fd:FuncData} {ps:List Str} {sp:Sp} {dvs:List V} {ds:List Value} {E:St→XK} {x:Str} {p pos:Pos} {e:Expr} {es:List Expr} {t:TA}
end
section
variable {X:Cx} {w:Wh} {μ μ':List Mode} {a e:Expr} {f:Gam→Rz D} {m:Mode} {tg:Expr} {p p2 pos pos2:Pos}
end
section
variable {X:Cx} {w:Wh} {μ μ':List Mode} {a b c:Expr} {m1 m2 m3:Mode} {pos:Pos}
end
noncomputable def boolsOf:List D→Option (List Bool)
 | []=>some []
 | .bl b::ds=>(boolsOf ds).map (b:: ·)
 | _=>none
noncomputable def Jpy:List D→Option D
 | [.lst ds]=>(boolsOf ds).map fun bs=> .bl (bs.any id)
 | _=>none
theorem J95 {K:Zf} {B H:Hp} {m:Mode}:∀{ds:List D} {vs:List V} {bs:List Bool} {fp:List Addr},boolsOf ds=some bs→Rl K B H ds m vs fp→vs=bs.map V.bl
 | [],vs,bs,fp,h,r=>by
  cases h
  exact r.1
 | d::ds,vs,bs,fp,h,r=>by
  obtain ⟨v,rest,f1,f2,rfl,r1,r2,rfl⟩:=r
  cases d with
  | bl b=>
   have h': (boolsOf ds).map (b:: ·)=some bs:=h
   obtain ⟨cs,e1,rfl⟩:=Option.map_eq_some_iff.mp h'
   rw [J95 e1 r2]
   have:v=V.bl b:=by
    cases m <;> first | exact r1.1 | exact r1.elim | skip
   rw [this]
   rfl
  | _=>cases h
theorem Jnl {K:Zf} {m:Mode}:NaD K (rAny K) [m] Jpy .Z:=by
 intro B H xs d us fp1 Q s r nd e c
 obtain ⟨x,v,rfl,rfl,r1⟩:=r.one
 have q:=r1.seq s
 cases x with
 | lst ds=>
  obtain ⟨a,vs,fq,rfl,hs,hr,_⟩:=q.1 ds rfl
  have e': (boolsOf ds).map (fun bs=>D.bl (bs.any id))=some d:=e
  cases z:boolsOf ds with
  | none=>rw [z] at e';cases e'
  | some bs=>
   rw [z] at e'
   cases e'
   have w:=J95 z hr
   subst w
   exact ⟨a,bs,rfl,hs,c.flat s ⟨rfl,rfl⟩⟩
 | _=>cases e
section
variable {X:Cx} {w:Wh} {μ μ':List Mode} {e:Expr} {m:Mode}
end
open PySem.Sem (wp)
section
variable {prog:Program} {w:World} {A:Around} {E:Value→Shared→Prop} {s:Shared}
end
section
variable {X:Cx} {w:Wh} {μ μ':List Mode} {a b:Expr} {pos:Pos}
end
end EV
namespace EV
open PySem PySem.Spec L2
section
variable {X:Cx} {w:Wh} {μ μ' μ1 μ2 μt μe:List Mode} {m m' m1 me mi:Mode} {M:List Bool}
theorem Jpz {K:Zf} {f:Gam→Rz D} {σ:St} {H:Hp} {Q:VK} (hl:M.length=μ.length) (cm:closed m=true) (c1:Jv M μ'=true) (c2:Jv M μ1=true) (wk:J6 (J44 M μ μ1) w.μx=true) (q:tD K w μ (J4s M f) m (J44 M μ μ') σ H Q):tD K (w.bor μ1) (J7e M μ) f m μ' σ H Q:=by
 obtain ⟨B,Γ,fp,st,q⟩:=q
 obtain ⟨B1,fm,st1,back⟩:=J9c hl st
 refine ⟨B1,Γ,fm,st1,?_⟩
 unfold J4s at q
 revert q
 cases f Γ with
 | ok d Γ'=>
  intro q B' H' v fpv fp' s st' r nd
  obtain ⟨fx,s2,st2,nd2,nB⟩:=back B' H' Γ' μ' fpv fp' s st' c1 nd
  exact q B H' v fpv fx s2 st2 (r.rebase d cm fun a h=>⟨fun o e=>e,nB a h⟩) nd2
 | exc x Γ'=>
  intro q B' H' fpe fp' cls dd s st' ex nd
  obtain ⟨fx,s2,st2,nd2,nB⟩:=back B' H' Γ' μ1 fpe fp' s st' c2 nd
  obtain ⟨B3,fy,s3,st3,k3⟩:=st2.weak (l:=fpe) wk (fun a h=>⟨nB a h,by
   obtain ⟨_,d,fs,vs,fq,_,b0,hd,r,_,_,rfl⟩:=ex
   rcases Zo.mp h with rfl | h
   ·exact ⟨_,hd⟩
   ·exact (Rl.own x.ds r a h).2⟩) (J0.mp nd2).2.2
  have n2:=J0.mp nd2
  refine q B3 H' fpe fy cls dd (s2.seq s3) st3 ((ex.rebase nB).rebase fun a h=>(k3 a h).2) (J0.mpr ⟨n2.1,st3.nd,s3.apart (fun a h=>?_) n2.2.2⟩)
  obtain ⟨_,d,fs,vs,fq,_,b0,hd,r,_,_,rfl⟩:=ex
  rcases Zo.mp h with rfl | h
  ·exact ⟨_,hd⟩
  ·exact (Rl.own x.ds r a h).2
 | bad=>exact id
structure DCx (X:Cx) (w:Wh) (μ:List Mode) (st:Stmt) (i:Nat) (f:Gam→Rz D) (m:Mode) (μ1:List Mode):Prop where
 ps:PS X st (fun D σ H=>tD X.K w μ f m μ1 σ H fun x H1=>gName i x σ H1 D.nx)
theorem DCx.bor {st:Stmt} {i:Nat} {f:Gam→Rz D} (hl:M.length=μ.length) (h:DCx X (w.bor μ1) (J7e M μ) st i f m μ') (cm:closed m=true) (c1:Jv M μ'=true) (c2:Jv M μ1=true) (wk:J6 (J44 M μ μ1) w.μx=true):DCx X w μ st i (J4s M f) m (J44 M μ μ'):=
 ⟨h.ps.imp fun D σ H q=>Jpz hl cm c1 c2 wk q⟩
theorem DCx.lc {i:Nat} {y:Str} {py:Pos} {pos spos:Pos} {elt tg iter:Expr} {ifs:List Expr} {scope:Scope} {own:List (Str × Nat)} {fi:Gam→Rz (List D)} {t:D→Gam→Option Gam} {tt:Gam→Rz Bool} {fe:Gam→Rz D} (hc:X.calm=true) (hN:X.N.Nodup) (hy:X.N[i]? =some y) (hyl:X.env.scope.names.lookup y=some .local)
  (hsw:swapsWith (.ListComp elt [⟨tg,iter,ifs,0⟩] scope pos) (some (.Name y py)) spos.line X.env=pure true) (ok:BlkOk X.N X.env.scope scope own)
  (hi:DI X w μ tg iter fi m μ1) (hf1:Je μ1 (own.map (·.2))=true) (hfe:Je μe (own.map (·.2))=true) (hft:Je μt (own.map (·.2))=true) (wk:J6 (J2 μe (own.map (·.2))) (J2 μ1 (own.map (·.2)))=true) (wk2:J6 (J2 μt (own.map (·.2))) (J2 μ1 (own.map (·.2)))=true)
  (hg:∀ (s:Shared) (H:Hp) (C:Addr) (cl:List (Str × Addr)) (fp:List Addr) (σ0:St),DG (X.blk s H scope (compEnvC scope cl C X.env) fp) (fun τ=>L2.wipe τ (own.map (·.2))=L2.wipe σ0 (own.map (·.2))) (J2 μ1 (own.map (·.2))) tg m t μt)
  (ht:∀ (s:Shared) (H:Hp) (C:Addr) (cl:List (Str × Addr)) (fp:List Addr),DTs (X.blk s H scope (compEnvC scope cl C X.env) fp) (wNo μt) μt ifs tt μt)
  (he:∀ (s:Shared) (H:Hp) (C:Addr) (cl:List (Str × Addr)) (fp:List Addr),DE (X.blk s H scope (compEnvC scope cl C X.env) fp) (wNo μt) μt elt fe me μe)
  (hs:∀x,foldedSetIterable iter X.env x=pure x):
  DCx X w μ (.Assign [.Name y py] (.ListComp elt [⟨tg,iter,ifs,0⟩] scope pos) spos) i (eLc fi t tt fe (own.map (·.2))) (.O me) (J2p μ1 (J2 μ1 (own.map (·.2))) (own.map (·.2))):=
 ⟨(ps_setLc hc hN hy hyl hsw hi.pi ok (fun s H C cl fp=>⟨fun pins s' σ' H' v u Q I r q=>(hg s H C cl fp σ').pg.run pins s' σ' H' v u Q I r q⟩:∀s H C cl fp,PG _ tg (tGw X.K (own.map (·.2)) (J2 μ1 (own.map (·.2))) m t μt)) (fun s H C cl fp=>(ht s H C cl fp).pt) (fun s H C cl fp=>(he s H C cl fp).pe) hs).imp fun En σ H q=>by
  have q1:=Jfx (m:=m) (vs:=own.map (·.2)) hf1 hfe wk wk2 hft q
  exact Jeu q1 (fun x H' hq=>hq) fun σ H R R' i h=>Jd3 i h⟩
noncomputable def ePk (i:Nat) (g:Gam→Option (List Sel)) (Γ:Gam):Rz D:=match g Γ,J4 Γ i with
 | some s,some d=>(match Jp d s with
  | some c=> .ok c Γ
  | none=> .bad)
 | _,_=> .bad
theorem DE.pk {o:Expr} {i:Nat} {g:Gam→Option (List Sel)} (ho:DPl X μ o i g) (em:μ[i]? =some mi) (hx:nX mi) (hm:∀Γ s,g Γ=some s→J12 mi s=some m) (hf:J1k m=true):DE X w μ o (ePk i g) m μ:=by
 refine ⟨ho.pe.imp fun σ H Q ⟨B,Γ,fp,st,q⟩=>?_⟩
 unfold ePk at q
 cases es:g Γ with
 | none=>rw [es] at q;exact q.elim
 | some s=>
 cases eg:J4 Γ i with
 | none=>rw [es,eg] at q;exact q.elim
 | some d=>
 rw [es,eg] at q
 dsimp only at q
 cases eP:Jp d s with
 | none=>rw [eP] at q;exact q.elim
 | some c=>
 rw [eP] at q
 obtain ⟨v,fp1,fp2,h1,h2,h3,h4,h5⟩:=StR.take (m0:= .U) st.st (J9 eg) em hx
 obtain ⟨u,fq,p1,r2,_⟩:=R.path h2 eP (hm _ _ es)
 have z:=J43 hf r2
 subst z
 exact ⟨B,Γ,fp,v,s,u,st,es,h1,p1,q B H u [] fp (Stp.refl _ _ _) st r2 st.nd⟩
noncomputable def Jg9 (f:Gam→Rz D) (i j:Nat) (Γ:Gam):Sz:=(f Γ).s fun d Γ1=> .nx ((Γ1.set i (some d)).set j (some d))
theorem DS.asg2 {z:Ws} {e:Expr} {f:Gam→Rz D} {i j:Nat} {x y:Str} {p1 p2 pos:Pos} (h:DE X z.w μ e f m μ1) (hf:J1k m=true) (hN:X.N.Nodup) (hi:X.N[i]? =some x) (hx:Loc X.env.scope x) (hfx:X.fn x=true∨X.env.scope.names.lookup x=some .local) (hj:X.N[j]? =some y) (hy:Loc X.env.scope y) (hfy:X.fn y=true∨X.env.scope.names.lookup y=some .local)
  (hpi:∀σ s,PinOk z.pin σ→PinOk z.pin (σ.set i s)) (hpj:∀σ s,PinOk z.pin σ→PinOk z.pin (σ.set j s)) (li:i < μ1.length) (lj:j < μ1.length):DS X z μ (.Assign [.Name x p1,.Name y p2] e pos) (Jg9 f i j) ((μ1.set i m).set j m):=
 ⟨(ps_asg2 h.pe (pg_name hN hi hx hfx) (pg_name hN hj hy hfy)).imp fun D σ H ⟨hp,B,Γ,fp,sta,q⟩=>by
  refine J82 (μ2:=(μ1.set i m).set j m) hp sta q fun d Γ' B' H' v fpv fp' e s st' r nd=>?_
  unfold Jg9 at q
  rw [e] at q
  have fz:=J43 hf r
  subst fz
  have r':R X.K B' H' d m v []:=r
  obtain ⟨f1,s1,st1⟩:=J6w (i:=i) st' r' nd (by rw [← st'.st.len.2];exact li)
  have n1: (([]:List Addr)++f1).Nodup:=st1.nd
  obtain ⟨f2,s2,st2⟩:=J6w (i:=j) st1 r' n1 (by rw [List.length_set,← st'.st.len.2];exact lj)
  exact q _ B' H' f2 ((s.trans s1).trans (by simpa using s2)) st2 (hpj _ _ (hpi _ _ hp))⟩
noncomputable def Jdl (f g:Gam→Rz D) (Γ:Gam):Rz D:=(f Γ).bind fun x Γ1=>(g Γ1).bind fun y Γ2=>match y with
 | .int j=>Rz.opt (J2v x (some j) none) Γ2
 | _=> .bad
theorem DE.slE {a b:Expr} {f g:Gam→Rz D} {pos p2:Pos} (ha:DE X w μ a f .F μ1) (hb:DE X w μ1 b g m' μ2):DE X w μ (.Subscript a (.Slice (some b) none none p2) pos) (Jdl f g) (.O .F) μ2:=
 ⟨(pe_slice sl_list ha.pe (po_some hb.pe) po_none).imp fun σ H Q ⟨B,Γ,fp,st,q⟩=>⟨B,Γ,fp,st,by
  unfold Jdl at q
  revert q
  cases f Γ with
  | bad=>exact id
  | exc x Γ'=>exact id
  | ok x Γ1=>
   intro q B1 H1 u fu fp1 s1 st1 r1 n1
   have z:=r1.fpF
   subst z
   refine ⟨B1,Γ1,fp1,st1,?_⟩
   have q':match ((g Γ1).bind fun y Γ2=>match y with
    | .int j=>Rz.opt (J2v x (some j) none) Γ2
    | _=> .bad) with
    | .ok d Γ'=>∀B' H' v fpv fp',Stp B H fp B' H' (fpv++fp')→Sta X.K B' H' Γ' μ2 σ fp'→R X.K B' H' d (.O .F) v fpv→(fpv++fp').Nodup→Q v H'
    | .exc x Γ'=>J18 X.K w B H fp σ x Γ'
    | .bad=>False:=q
   revert q'
   cases g Γ1 with
   | bad=>exact id
   | exc x Γ'=>exact fun q=>J18.after (l:= []) q s1
   | ok y Γ2=>
    intro q' B2 H2 v2 f2 fp2 s2 st2 r2 n2
    cases y with
    | int j=>
     obtain ⟨rfl,rfl⟩:=r2
     refine ⟨j,rfl,?_⟩
     have q2:match Rz.opt (J2v x (some j) none) Γ2 with
      | .ok d Γ'=>∀B' H' v fpv fp',Stp B H fp B' H' (fpv++fp')→Sta X.K B' H' Γ' μ2 σ fp'→R X.K B' H' d (.O .F) v fpv→(fpv++fp').Nodup→Q v H'
      | .exc x Γ'=>J18 X.K w B H fp σ x Γ'
      | .bad=>False:=q'
     cases e4:J2v x (some j) none with
     | none=>rw [e4] at q2;exact q2.elim
     | some d=>
      rw [e4] at q2
      have rx:R X.K B2 H2 x .F u []:=r1.over (by simpa using s2.less fun a h=>Zr _ h) (by simpa using st1.nd)
      have s3:Stp B H fp B2 H2 ([]++fp2):=by simpa using (by simpa using s1:Stp B H fp B1 H1 fp1).trans (by simpa using s2)
      exact Jd7 (m:= .F) B2 H2 x d u (some j) none [] Q st2.same rx List.nodup_nil e4 (J2o s3 st2 (fun a h=>nomatch h) (by simpa using st2.nd) q2)
    | _=>exact q'.elim⟩⟩
end
noncomputable def Jse (K:Zf) (ta:TE) (f:Str):TG:=fun y σ H Q=>ta σ H fun x H2=>∃a C dx fs,x= .ref a∧H2 a=some (.ins C dx fs)∧Cls K C∧NoAttr K C f∧fs.length < 1000∧Q σ (upd H2 a (.ins C dx (putF f y fs)))
theorem Jf3 {X:Cx} {o:Expr} {ta:TE} {f:Str} {pos:Pos} (ha:PE X o ta):PG X (.Attribute o f pos) (Jse X.K ta f):=by
 refine ⟨fun pins s σ H v u Q I r h=>?_⟩
 refine PySem.W.kas_attr (thn (ha.run pins s σ H _ I h) fun ov s2 ⟨x,H2,I2,rx,a,C,dx,fs,ex,ea,c,n,l,q2⟩=>?_)
 subst ex
 obtain rfl:ov=Value.ref a:=rx
 exact setattr_ok I2 ea c n l r fun s3 I3=>⟨σ,_,I3,q2⟩
noncomputable def Jga (i:Nat) (k n:Str) (y:D) (Γ:Gam):Option Gam:=match J4 Γ i with
 | some (.obj c ns ds)=>if c=k∧(n∉ns∧ns.length < 1000) then some (Γ.set i (some (.obj c (ns++ [n]) (ds++ [y])))) else none
 | _=>none
section
variable {X:Cx} {w:Wh} {μ μ1:List Mode}
theorem DG.fldT {P:St→Prop} {i:Nat} {x k n:Str} {p0 p1:Pos} {M M' my:Mode} (hN:X.N[i]? =some x) (hv:Vis X.env.scope x) (hd: (x == ("__debug__" :Str))=false) (hcd: (x == ("__classdict__" :Str))=false)
  (em:μ1[i]? =some M) (ea:J6k M n my=some M') (hc:Cls X.K (He.ga X.K k)) (hn:NoAttr X.K (He.ga X.K k) n):DG X P μ1 (.Attribute (.Name x p0) n p1) my (Jga i k n) (μ1.set i M'):=by
 refine ⟨(Jf3 (pe_var hN hv hd hcd)).imp fun v σ H Q ⟨hp,B1,Γ1,fp1,fpv,y,st0,r,nd,q1⟩=>?_⟩
 unfold Jga at q1
 cases eg:J4 Γ1 i with
 | none=>rw [eg] at q1;exact q1.elim
 | some d=>
  rw [eg] at q1
  cases d with
  | obj c ns ds=>
   dsimp only at q1
   by_cases hk:c=k∧(n∉ns∧ns.length < 1000)
   case neg=>rw [if_neg hk] at q1;exact q1.elim
   rw [if_pos hk] at q1
   obtain ⟨rfl,hnn,hl⟩:=hk
   have q2:∀σ' B' H' fp',Stp B1 H (fpv++fp1) B' H' fp'→Sta X.K B' H' (Γ1.set i (some (.obj c (ns++ [n]) (ds++ [y])))) (μ1.set i M') σ' fp'→P σ'→Q σ' H':=q1
   have hX:nX M:=⟨(by rintro rfl;cases ea),(by rintro rfl;cases ea)⟩
   obtain ⟨v0,fi,fr,h1,h2,h3,h4,h5⟩:=StR.take (m0:= .U) st0.st (J9 eg) em hX
   obtain ⟨a,dx,vs,fq,rfl,b0,b1,ha,hx,hlen,hrf,rfl⟩:=h2.open_ ea
   have nn:=J0.mp nd
   have nir:=J0.mp (h4 st0.nd)
   have lv:=hrf.len
   have hput:putF n v (J1o ns vs)=J1o (ns++ [n]) (vs++ [v]):=Jd9 lv hnn
   have hz: (J1o ns vs).length < 1000:=by
    show (ns.zip vs).length < 1000
    rw [List.length_zip];omega
   refine ⟨.ref a,h1,a,_,dx,_,rfl,ha,hc,hn,hz,?_⟩
   rw [hput]
   -- the heap behind the store
   have aF:a∈fp1:=(h5 a).mp (Zl _ Zs)
   have adx:a≠dx:=fun z=>(List.nodup_cons.mp nir.1).1 (z ▸ Zs)
   have keepU:∀l:List Addr,(∀x∈l,B1 x=none)→a∉l→Kept B1 H (upd H a (.ins (He.ga X.K c) dx (J1o (ns++ [n]) (vs++ [v])))) l:=fun l ho hp=>Jk ho hp
   have nq:a∉fq:=fun z=>(List.nodup_cons.mp nir.1).1 (Zc _ z)
   have nv:a∉fpv:=fun z=>nn.2.2 a z aF
   have rf':Rf X.K B1 (upd H a (.ins (He.ga X.K c) dx (J1o (ns++ [n]) (vs++ [v])))) ns ds M vs fq:=hrf.mono (Same.refl _) ns ds (keepU fq (fun x hx=>(Rf.own ns ds hrf x hx).1) nq)
   have ry:R X.K B1 (upd H a (.ins (He.ga X.K c) dx (J1o (ns++ [n]) (vs++ [v])))) y my v fpv:=r.mono (Same.refl _) y (keepU fpv (fun x hx=>(R.own y r x hx).1) nv)
   have rf2:=Rf.snoc (n:=n) ry rf' ea
   obtain ⟨a1,a2,a3,rfl⟩:=Jpd ea
   have hdx:upd H a (.ins (He.ga X.K c) dx (J1o (ns++ [n]) (vs++ [v]))) dx=some (.own a):=by rw [upd_ne (fun z=>adx z.symm)];exact hx
   have ro:R X.K B1 (upd H a (.ins (He.ga X.K c) dx (J1o (ns++ [n]) (vs++ [v])))) (.obj c (ns++ [n]) (ds++ [y])) (.B a1 a2 a3) (.ref a) (a::dx:: (fq++fpv)):=
    ⟨a,dx,vs++ [v],fq++fpv,rfl,b0,b1,upd_same,hdx,by simp [hlen],rf2,rfl⟩
   have s3:StR X.K B1 (upd H a (.ins (He.ga X.K c) dx (J1o (ns++ [n]) (vs++ [v])))) (Γ1.set i none) (μ1.set i .U) σ fr:=h3.mono (Same.refl _) (keepU fr (fun x hx=>(h3.own x hx).1) fun z=>nir.2.2 a Zs z)
   obtain ⟨fpB,c1,c2,c3⟩:=s3.putO h1 (i:=i) (m:= .B a1 a2 a3) (g:=some (.obj c (ns++ [n]) (ds++ [y]))) (.inr ⟨.ref a,rfl,ro⟩)
   rw [List.set_set,List.set_set] at c1
   have inF:∀x∈(a::dx:: (fq++fpv))++fr,x∈fpv++fp1:=fun x hx=>by
    simp only [Zp,Zo] at hx ⊢
    have:=(h5 x)
    simp only [Zp,Zo] at this
    rcases hx with (hx | hx | hx | hx) | hx
    ·exact .inr (this.mp (.inl (.inl hx)))
    ·exact .inr (this.mp (.inl (.inr (.inl hx))))
    ·exact .inr (this.mp (.inl (.inr (.inr hx))))
    ·exact .inl hx
    ·exact .inr (this.mp (.inr hx))
   have ndB: ((a::dx:: (fq++fpv))++fr).Nodup:=by
    have n1:=List.nodup_cons.mp nir.1
    have n2:=List.nodup_cons.mp n1.2
    have fin:∀x,x∈a::dx::fq→x∉fpv:=fun x hx z=>nn.2.2 x z ((h5 x).mp (Zl _ hx))
    have frn:∀x,x∈fr→x∉fpv:=fun x hx z=>nn.2.2 x z ((h5 x).mp (Zr _ hx))
    refine J0.mpr ⟨List.nodup_cons.mpr ⟨fun z=>?_,List.nodup_cons.mpr ⟨fun z=>?_,J0.mpr ⟨n2.2,nn.1,fun x hx=>fin x (Zc _ (Zc _ hx))⟩⟩⟩,nir.2.1,fun x hx z=>?_⟩
    ·rcases Zo.mp z with z | z
     ·exact adx z
     ·rcases Zp.mp z with z | z
      ·exact nq z
      ·exact nv z
    ·rcases Zp.mp z with z | z
     ·exact n2.1 z
     ·exact fin dx (Zc _ Zs) z
    ·rcases Zo.mp hx with rfl | hx
     ·exact nir.2.2 _ Zs z
     rcases Zo.mp hx with rfl | hx
     ·exact nir.2.2 _ (Zc _ Zs) z
     rcases Zp.mp hx with hx | hx
     ·exact nir.2.2 _ (Zc _ (Zc _ hx)) z
     ·exact frn x z hx
   refine q2 σ B1 _ fpB ⟨Same.refl _,fun x o hx e=>?_,fun x hx=> .inl (inF x (c3 x hx)),fun x o e=> .inl e⟩ ⟨J54 st0.same b0 (.ins ha),c1,c2 ndB⟩ hp
   have xa:x≠a:=fun z=>hx (by rw [z];exact Zr _ aF)
   exact .inl (by rw [upd_ne xa];exact e)
  | _=>exact q1.elim
end
noncomputable def spL (K:Zf) (L:Lv) (pm:List Mode) (rm:Mode) (F:List D→Fo):Sp:=fun vs H Q E=>∃B ds fp,Lies K B H∧(∀p∈L.caps,R K B H p.2 .F (capV p.1) [])∧Ra K B H ds pm vs fp∧fp.Nodup∧match F ds with
 | .ok d _=>∀B' H' v fpv,Stp B H fp B' H' fpv→Lies K B' H'→R K B' H' d rm v fpv→fpv.Nodup→Q v H'
 | .exc x _=>∀B' H' fpe cls dd,Stp B H fp B' H' fpe→Lies K B' H'→J6h K B' H' x cls dd fpe→fpe.Nodup→E cls dd H'
 | .bad=>False
structure LeadOk (P:Program) (w:World) (K:Zf) (mg:Str→Option Value) (base:Heap) (k:Nat) (L:Lv) (pm:List Mode) (rm:Mode) (F:List D→Fo):Prop where
 fn:PySem.W.FnAt L.a base
 run:∀ (A:Around) (outer:List Env) (s:Shared) (H:Hp) (us:List Value) (vs:List V) (Q:VK) (E:XK),Room k A→Env0 P w K mg base A outer s H→H L.c=some (LamX.CodeO L.c L.q)→Vals vs us→spL K L pm rm F vs H Q E→codeAny (model P w) A (.call (.ref L.a) ⟨us,[]⟩) (CR (L2.CX P w) outer P w H s Q E) s
section
variable {X:Cx} {k i:Nat} {L:Lv} {pm:List Mode} {rm:Mode} {F:List D→Fo} {E:St→XK} {x:Str} {p pos:Pos} {e:Expr} {es:List Expr} {t:TA}
end
section
variable {X:Cx} {w:Wh} {μ μ1:List Mode} {a:Expr} {es:List Expr} {pos p:Pos} {fa:Gam→Rz (List D)} {pm:List Mode} {rm:Mode} {F:List D→Fo} {k i:Nat} {L:Lv} {x:Str}
end
section
variable {X:Cx} {pins:List (Addr × Obj)} {σ:St} {H:Hp} {s:Shared} {d:Addr} {ob:Obj}
theorem Ji8 {P:Program} {w:World} {es:List DictEntry} {kvs:List (Key × Value)} (h:Pairs (mixKind P w) es kvs):∀{i:Nat} {p:Key × Value},kvs[i]? =some p→∃en,es[i]? =some en∧keyIs p.1 en.key=true∧en.val=p.2:=by
 induction h with
 | nil=>intro i p e;simp at e
 | @cons e0 kv es kvs h1 h2 t ih=>
  intro i p e
  cases i with
  | zero=>
   simp only [List.getElem?_cons_zero,Option.some.injEq] at e
   subst e
   exact ⟨e0,rfl,h1,h2⟩
  | succ j=>
   simp only [List.getElem?_cons_succ] at e ⊢
   exact ih e
theorem Jkw {ks:List D} {us vs:List V} {o:HO} (I:Inv X pins σ H s) (h:H d=some (.frz ob o)) (dO:J2n d ks us vs o):
  (d == sysModules)=false∧s.heap.get? d=some ob∧ob.ExactDict∧∃ (es:Array DictEntry) (ep:Nat),ob.data= .dict es ep∧es.size=vs.length∧us.length=vs.length∧
   ∀ (i:Nat) (u v:V),us[i]? =some u→vs[i]? =some v→∃en:DictEntry,es[i]? =some en∧RelV u en.key∧RelV v en.val:=by
 rcases dO with ⟨kvs,rfl,e1,e2,e3⟩ | ⟨es0,rfl,e1,e2,e3,gd,_⟩
 ·subst e2 e3
  obtain ⟨hs,hgd,hx,es,ep,vs0,hdt,hsz,kv,hm⟩:=I.frzK h
  refine ⟨hs,hgd,hx,es,ep,hdt,by rw [List.length_map];exact hsz,by rw [List.length_map,List.length_map],fun i u v eu ev=>?_⟩
  rw [List.getElem?_map] at eu ev
  cases hi:kvs[i]? with
  | none=>rw [hi] at eu;cases eu
  | some e0=>
   rw [hi] at eu ev
   cases eu;cases ev
   obtain ⟨k,v⟩:=e0
   obtain ⟨u,hu,ru⟩:=kv_get kv hi
   obtain ⟨o2,es2,g1,_,g2,_,g3,_⟩:=hm
   rw [hgd] at g1
   cases g1
   rw [hdt] at g2
   cases g2
   obtain ⟨en,q1,q2,q3⟩:=Ji8 g3 hu
   refine ⟨en,by rw [← Array.getElem?_toList];exact q1,relV_key q2,?_⟩
   rw [q3];exact ru
 ·obtain ⟨hgd,⟨hl,hs,xs,np,o',ea,ep,ho,hx,hdt,he,_⟩,_,_⟩:=I.hok d _ h
  rw [hgd] at ho
  cases ho
  have l1:ea.size=xs.length:=by rw [← Array.length_toList,he,List.length_map]
  have l2:es0.length=xs.length:=np.length
  subst e2 e3
  refine ⟨hs,hgd,hx,ea,ep,hdt,by rw [List.length_map];omega,by rw [List.length_map,List.length_map],fun i u v eu ev=>?_⟩
  rw [List.getElem?_map] at eu ev
  cases hi:es0[i]? with
  | none=>rw [hi] at eu;cases eu
  | some e0=>
   rw [hi] at eu ev
   cases eu;cases ev
   obtain ⟨x,hx1,r1,r2,r3⟩:=paired_get np hi
   refine ⟨J6u x,?_,?_,r3⟩
   ·rw [← Array.getElem?_toList,he,List.getElem?_map,hx1];rfl
   ·show RelV (.ref e0.2.1) (.ref x.2.1)
    rw [r2];exact rfl
end
noncomputable def Itm (d:Addr) (ob:Obj) (o:HO) (us vs:List V):It:=
 ⟨fun i H=>H d=some (.frz ob o)∧i < vs.length,fun i H x H'=>∃T u v,us[i]? =some u∧vs[i]? =some v∧x= .ref T∧H T=none∧H'=upd H T (.tup [u,v]),fun i H=>H d=some (.frz ob o)∧vs.length≤i⟩
theorem Jkx {P:Program} {w:World} {K:Zf} {elts:List Expr} {kk:Nat} {tpos:Pos} {d:Addr} {ob:Obj} {o:HO} {ks:List D} {us vs:List V} {es:Array DictEntry} {ep:Nat} (it:Addr) (hod:ob.data= .dict es ep) (dO:J2n d ks us vs o):
  Turn P w K (.Tuple elts kk tpos) (Itm d ob o us vs) [it] it (fun i h=>∃ok ov,IsItemIter h it d i es.size ep ok ov) where
 mem:=by simp
 obj:=fun i h st b hb=>by
  have e:b=it:=by simpa using hb
  subst e
  obtain ⟨ok,ov,e⟩:=st
  exact ⟨_,e,fun v z=>nomatch z⟩
 keep:=fun i h h' st k=>let ⟨ok,ov,e⟩:=st;⟨ok,ov,k it (by simp) _ e⟩
 item:=by
  intro X hP hw hK hc i pins s σ H E I hf st hg
  subst hP hw hK
  obtain ⟨hd,hi⟩:=hg
  obtain ⟨hs,hgd,hx,es',ep',hdt,hsz,hl,ent⟩:=Jkw I hd dO
  obtain ⟨rfl,rfl⟩:=dict_ep hod hdt
  obtain ⟨v,hv⟩:∃v,vs[i]? =some v:=⟨vs[i],Ze hi⟩
  obtain ⟨u,hu⟩:∃u,us[i]? =some u:=⟨us[i]'(by omega),Ze _⟩
  obtain ⟨en,hen,r1,r2⟩:=ent i u v hu hv
  have hie:i < es'.size:=by omega
  have een:es'[i]=en:=by rw [Array.getElem?_eq_getElem hie] at hen;exact Option.some.inj hen
  obtain ⟨ok,ov,he⟩:=st
  have hlt:it < s.heap.objs.size:=Heap.lt_size he
  refine DT.nextI he ⟨ob,hgd,hx,hdt⟩ hie fun h' ho hT hz hk=>?_
  rw [een] at ho hT
  refine ⟨_,rfl,wpAny_letOwnedTupleGo_items (s:={ s with heap:=h'}) ho fun h'' he' sb=>?_⟩
  have hT2:h''.get? s.heap.objs.size=some { cls:= .type "tuple",data:= .seq #[en.key,en.val]}:=(sb.2 _ (Nat.ne_of_gt hlt)).trans hT
  have new:ObjOk X.prog X.w (upd H s.heap.objs.size (.tup [u,v])) h'' s.heap.objs.size (.tup [u,v]):=
   ⟨by show 2≤sizeLine;decide,[en.key,en.val],.cons r1 (.cons r2 .nil),⟨_,hT2,rfl,_,rfl⟩⟩
  have I1:Inv X pins σ (upd H s.heap.objs.size (.tup [u,v])) { s with heap:=h''}:=
   I.turnedNew (t':=s.toks) (ch:= [it]) (fun b ob hb e=>(sb.2 b (by simpa using hb)).trans (hk b ob (by simpa using hb) e)) hf (Nat.le_refl _) new
  refine ⟨.ref s.heap.objs.size,_,I1,rfl,⟨_,u,v,hu,hv,rfl,I.hok.fresh (Nat.le_refl _),rfl⟩,⟨en.key,en.val,he'⟩,fun b hb=>?_⟩
  have e:b=it:=by simpa using hb
  rw [e,upd_ne (Nat.ne_of_lt hlt)]
  exact (hf it (by simp)).1
 done:=by
  intro X hP hw hK hc i pins s σ H E I hf st hg
  subst hP hw hK
  obtain ⟨hd,hi⟩:=hg
  obtain ⟨f0,f1,f2,f3,f4,f5⟩:=hf it (by simp)
  obtain ⟨hs,hgd,hx,es',ep',hdt,hsz,hl,ent⟩:=Jkw I hd dO
  obtain ⟨rfl,rfl⟩:=dict_ep hod hdt
  obtain ⟨ok,ov,he⟩:=st
  exact DT.endI (I.ok.hd hc) he ⟨ob,hgd,hx,hdt⟩ (by omega) fun h' eb=>⟨rfl,I.turned (t':=s.toks) (fun b ob hb e=>eb b ob hb e) f0 f1 f3 f4 f5⟩
 self:=fun A i s Q E st h=>let ⟨_,_,e⟩:=st;PySem.W.kcp_self e h
noncomputable def Jsf (td:TE):TI:=fun σ H R=>td σ H fun x H1=>∃d o ks us vs,x= .ref d∧H1 d=some o∧J2n d ks us vs o∧∀ob,R (Itm d ob o us vs) (upd H1 d (.frz ob o))
theorem Jnm {d:Addr} {ks:List D} {us vs:List V} {o:HO} (h:J2n d ks us vs o):Mut (some o):=by
 rcases h with ⟨kvs,rfl,_⟩ | ⟨es,rfl,_⟩ <;> exact trivial
theorem Jq0 {X:Cx} {elts:List Expr} {kk:Nat} {e:Expr} {td:TE} {apos cpos tpos:Pos} (he:PE X e td) (hbase:attributeBase e "items" X.env (eval e X.env)=eval e X.env:=by rfl) (hline: (apos.endLine == cpos.line)=true:=by rfl):
  PI X (.Tuple elts kk tpos) (.Call (.Attribute e "items" apos) [] [] cpos) (Jsf td):=by
 refine ⟨fun pins s σ H R I h=>?_⟩
 refine wpAny_Call_method (T:= "dict") (id:= "dict.items") hbase rfl hline F.plainAttrs_dict F.slot_dict_items F.type_dict_items (thn (he.run pins s σ H _ I h) fun u s1 ⟨x,H1,I1,rx,d,o,ks,us,vs,ex,hd,dO,q⟩=>?_)
 subst ex
 obtain rfl:u=Value.ref d:=rx
 obtain ⟨ob,I2⟩:=I1.lock hd (Jnm dO)
 obtain ⟨hs,hgd,hx,es,ep,hdt,hsz,hl,ent⟩:=Jkw I2 upd_same dO
 have raw:DT.Raw s1.heap d es ep:=⟨ob,hgd,hx,hdt⟩
 refine ⟨raw.typeIs,fun b q=>?_,?_⟩
 ·cases q
  exact ⟨ob,hgd,hx.2.1⟩
 have I3:Inv X pins σ (upd H1 d (.frz ob o)) { s1 with heap:=s1.heap.push { cls:= .type "dict_items",data:= .fields #[.ref d]}}:=I2.kept (t':=s1.toks) fun b ob q=>Heap.get?_push_of_some _ q
 have fin:wpAny (model X.prog X.w) X.A (pyIter (.ref s1.heap.objs.size)) (PIE X pins σ (.Tuple elts kk tpos) R) X.xe { s1 with heap:=s1.heap.push { cls:= .type "dict_items",data:= .fields #[.ref d]}}:=by
  refine DT.iterI (d:=d) (es:=es) (ep:=ep) ⟨_,Heap.get?_push_size _ rfl,rfl,rfl⟩ (raw.push _) (pi_one (tk:=s1.toks) I3 _ (Jkx _ hdt dO) ⟨.none,.none,?_⟩ (q ob))
  exact Heap.get?_push_size _ rfl
 show wpAny _ _ (callWith cpos (.builtin "dict.items") [.ref d] [] []) _ X.xe s1
 exact method_meetsIn F.slot_dict_items F.entry_dict_items rfl (PySem.evalArgs_none ⟨rfl,raw.typeIs,F.args_dict_items_1 _,_,DT.meetsItems (es:=es) (ep:=ep) hs,raw,fin⟩)
noncomputable def Ji9 (i:Nat) (Γ:Gam):Rz (List D):=match J4 Γ i with
 | some (.dct ks ds)=> .ok (J2q ks ds) (Γ.set i none)
 | _=> .bad
section
variable {X:Cx} {w:Wh} {μ:List Mode}
theorem DI.items {elts:List Expr} {kk:Nat} {tpos apos cpos p0:Pos} {i:Nat} {x:Str} (hN:X.N[i]? =some x) (hv:Vis X.env.scope x) (hd: (x == ("__debug__" :Str))=false) (hcd: (x == ("__classdict__" :Str))=false) (em:μ[i]? =some (.K .F))
  (hb:attributeBase (.Name x p0) "items" X.env (eval (.Name x p0) X.env)=eval (.Name x p0) X.env) (hline: (apos.endLine == cpos.line)=true):
  DI X w μ (.Tuple elts kk tpos) (.Call (.Attribute (.Name x p0) "items" apos) [] [] cpos) (Ji9 i) (.O .F) (μ.set i .U):=by
 refine ⟨(Jq0 (pe_var hN hv hd hcd) hb hline).imp fun σ H R ⟨B,Γ,fp,st,q⟩=>?_⟩
 unfold Ji9 at q
 cases eg:J4 Γ i with
 | none=>rw [eg] at q;exact q.elim
 | some d0=>
  rw [eg] at q
  cases d0 with
  | dct ks ds=>
   dsimp only at q
   obtain ⟨v,fp1,fp2,h1,h2,h3,h4,h5⟩:=StR.take (m0:= .U) st.st (J9 eg) em ⟨nofun,nofun⟩
   obtain ⟨a,us,vs,o,fq,rfl,b0,ha,dO,hl,rk,rv,rfl⟩:=h2
   have z:=Rl.fpFlat (m:= .F) rfl rv
   subst z
   have nd:=h4 st.nd
   have nd2:=J0.mp nd
   have na:a∉fp2:=fun h=>nd2.2.2 a Zs h
   have aF:a∈fp:=(h5 a).mp (Zl _ Zs)
   have sf:J2g H a:= .dct ha dO
   refine ⟨_,h1,a,o,ks,us,vs,rfl,ha,dO,fun ob=>?_⟩
   have bs:Same B (upd B a (.frz ob o)):=fun c u e=>by
    rw [upd_ne fun z=>by rw [z,b0] at e;cases e];exact e
   have ls:Lies X.K (upd B a (.frz ob o)) (upd H a (.frz ob o)):=by
    have l0:=st.same.put (o:= .frz ob o) b0 sf
    refine ⟨fun c u e=>?_,fun p hp=>?_,l0.tabs⟩
    ·by_cases z:c=a
     ·rw [z,upd_same] at e
      rw [z,upd_same];exact .inl e
     ·rw [upd_ne z] at e
      exact l0.at_ c u e
    ·rw [upd_ne fun z=>by
      have:=st.same.tags p hp
      rw [z,b0] at this;cases this]
     exact st.same.tags p hp
   have stp:Stp B H fp (upd B a (.frz ob o)) (upd H a (.frz ob o)) fp2:=by
    refine ⟨bs,fun c u n e=> .inl ?_,fun c h=> .inl ((h5 c).mp (Zr _ h)),fun c u e=>?_⟩
    ·rw [upd_ne fun z=>n (by rw [z];exact aF)];exact e
    ·by_cases z:c=a
     ·exact .inr (.inl (by rw [z];exact aF))
     ·rw [upd_ne z] at e;exact .inl e
   have k2:Kept (upd B a (.frz ob o)) H (upd H a (.frz ob o)) fp2:=fun c h=>by
    have z:c≠a:=fun z=>na (z ▸ h)
    exact ⟨fun u e=>by rw [upd_ne z];exact e,by rw [upd_ne z];exact (h3.own c h).1⟩
   refine q _ _ _ fp2 stp ⟨ls,h3.mono bs k2,nd2.2.1⟩ ⟨?_,fun j B1 H1 s1 s2=>?_⟩
   ·rw [J2b];omega
   have hd1:H1 a=some (.frz ob o):=s2.get (s1 a _ upd_same)
   have lk:us.length=ks.length:=rk.len
   have lv:vs.length=ds.length:=rv.len
   have lz: (J2q ks ds).length=vs.length:=by
    rw [J2b]
    have:=J2n.len dO
    omega
   refine ⟨fun d e=>?_,fun h=>⟨hd1,by rw [lz] at h;exact h⟩⟩
   obtain ⟨x,y,e1,e2,rfl⟩:=J7h e
   obtain ⟨u,f1,q1⟩:=rk.get e1
   obtain ⟨v,f2,q2⟩:=rv.get e2
   refine ⟨⟨hd1,(List.getElem?_eq_some_iff.mp f2).1⟩,fun w H2 hy=>?_⟩
   obtain ⟨T,u',v',g1,g2,rfl,hT,rfl⟩:=hy
   rw [f1] at g1;cases g1
   rw [f2] at g2;cases g2
   exact ⟨_,J5k (H0:=upd H a (.frz ob o)) s1 s2 hT (q1.mono bs _ Kept.nil) (q2.mono bs _ Kept.nil)⟩
  | _=>exact q.elim
end
section
variable {X:Cx} {w:Wh} {μ μ1 μ2:List Mode} {k v:Expr} {f g:Gam→Rz D} {me:Mode} {pos:Pos}
end
noncomputable def Jm9 (l:List (Key × D)) (k:Key) (d:D):List (Key × D):=if (l.any fun kv=>decide (kv.1=k))=true then l.map (fun kv=>if kv.1=k then (kv.1,d) else kv) else l++ [(k,d)]
section
variable {K:Zf} {B H:Hp}
noncomputable abbrev J5n (K:Zf) (B H:Hp):List (Key × D)→List (Key × V)→Prop:=Paired fun p q=>p.1=q.1∧R K B H p.2 .F q.2 []
theorem J5n.any {l:List (Key × D)} {m:List (Key × V)} (r:J5n K B H l m) (k:Key): (l.any fun kv=>decide (kv.1=k))=m.any fun kv=>decide (kv.1=k):=by
 unfold J5n at r
 induction r with
 | nil=>rfl
 | cons h t ih=>rw [List.any_cons,List.any_cons,ih,h.1]
theorem J5n.put {l:List (Key × D)} {m:List (Key × V)} (r:J5n K B H l m) (k:Key) {d:D} {v:V} (rd:R K B H d .F v []):J5n K B H (Jm9 l k d) (putK m k v):=by
 have e:=r.any k
 unfold Jm9 putK
 rw [e]
 by_cases h: (m.any fun kv=>decide (kv.1=k))=true
 ·rw [if_pos h,if_pos h]
  clear e h
  unfold J5n at r ⊢
  induction r with
  | nil=>exact .nil
  | @cons a b l1 l2 h t ih=>
   rw [List.map_cons,List.map_cons]
   refine .cons ?_ ih
   by_cases z:a.1=k
   ·rw [if_pos z,if_pos (h.1 ▸ z)]
    exact ⟨h.1,rd⟩
   ·rw [if_neg z,if_neg (fun y=>z (h.1.trans y))]
    exact h
 ·rw [if_neg h,if_neg h]
  clear e h
  unfold J5n at r ⊢
  induction r with
  | nil=>exact .cons ⟨rfl,rd⟩ .nil
  | cons h t ih=>exact .cons h ih
theorem J5n.out {l:List (Key × D)} {m:List (Key × V)} (r:J5n K B H l m):Rl K B H (l.map fun p=>kD p.1) .F (m.map fun p=>kV p.1) []∧Rl K B H (l.map (·.2)) .F (m.map (·.2)) []∧m.map (fun p=>kD p.1)=l.map fun p=>kD p.1:=by
 unfold J5n at r
 induction r with
 | nil=>exact ⟨⟨rfl,rfl⟩,⟨rfl,rfl⟩,rfl⟩
 | @cons a b l1 l2 h t ih=>
  obtain ⟨i1,i2,i3⟩:=ih
  refine ⟨⟨kV b.1,_,[],[],rfl,?_,i1,rfl⟩,⟨b.2,_,[],[],rfl,h.2,i2,rfl⟩,by rw [List.map_cons,List.map_cons,i3,h.1]⟩
  show R K B H (kD a.1) .F (kV b.1) []
  rw [h.1]
  cases b.1 <;> exact ⟨rfl,rfl⟩
end
section
variable {X:Cx} {w:Wh} {z:Ws} {μ μ' μ1 μ2 μ3:List Mode} {e a b o:Expr} {es:List Expr} {kws:List Keyword} {f fo:Gam→Rz D} {fa fb:Gam→Rz (List D)} {ms ms':List Mode} {pos:Pos} {i:Nat} {x:Str} {M my:Mode}
theorem R.ins {K:Zf} {B H:Hp} {c:Str} {ns:List Str} {ds:List D} {v:V} {fp:List Addr} (sm:Lies K B H) (h:R K B H (.obj c ns ds) M v fp):∃a dx vs,v= .ref a∧H a=some (.ins (He.ga K c) dx (J1o ns vs)):=by
 cases M with
 | F=>
  obtain ⟨_,a,dx,vs,rfl,ha,_,_⟩:=h
  exact ⟨a,dx,vs,rfl,sm.get ha⟩
 | O m=>
  obtain ⟨a,dx,vs,fq,rfl,_,_,ha,_⟩:=h
  exact ⟨a,dx,vs,rfl,ha⟩
 | B n m r=>
  obtain ⟨a,dx,vs,fq,rfl,_,_,ha,_⟩:=h
  exact ⟨a,dx,vs,rfl,ha⟩
 | B0=>
  obtain ⟨a,dx,rfl,rfl,rfl,_,_,ha,_⟩:=h
  exact ⟨a,dx,[],rfl,ha⟩
 | _=>exact h.elim
variable {F:List D→Fo} {pm:List Mode} {rm:Mode} {dds:List D} {dms:List Mode} {dvs:List V} {ds:List Value} {k n:Nat} {fad:Addr} {fd:FuncData} {ps:List Str} {c m:Str} {apos p0:Pos} {pl:Sem Bool}
end
theorem Rf.setAt {K:Zf} {B H:Hp}:∀{ns:List Str} {ds:List D} {m mc:Mode} {vs:List V} {fp:List Addr} {j:Nat} {n:Str} {d:D} {v:V} {fd:List Addr},Rf K B H ns ds m vs fp→fIx ns n=some j→J15 m n=some mc→R K B H d mc v fd→∃fp',Rf K B H ns (ds.set j d) m (vs.set j v) fp'∧((fd++fp).Nodup→fp'.Nodup)∧∀a∈fp',a∈fd++fp
 | x::ns,d0::ds,m,mc,vs,fp,j,n,d,v,fd,h,ej,em,r=>by
  cases m with
  | B n0 m0 r0=>
   obtain ⟨rfl,v0,vr,fp1,fp2,rfl,h1,h2,rfl⟩:=h
   have ej': (if x=n then some 0 else (fIx ns n).map (· + 1))=some j:=ej
   have em': (if x=n then some m0 else J15 r0 n)=some mc:=em
   by_cases hx:x=n
   ·rw [if_pos hx] at ej' em'
    cases ej';cases em'
    refine ⟨fd++fp2,⟨rfl,v,vr,fd,fp2,rfl,r,h2,rfl⟩,fun nd=>?_,fun a ha=>?_⟩
    ·rw [J0,J0] at nd
     rw [J0]
     exact ⟨nd.1,nd.2.1.2.1,fun x hx hb=>nd.2.2 x hx (Zr _ hb)⟩
    ·rcases Zp.mp ha with ha | ha
     ·exact Zl _ ha
     ·exact Zr _ (Zr _ ha)
   ·rw [if_neg hx] at ej' em'
    cases ef:fIx ns n with
    | none=>rw [ef] at ej';cases ej'
    | some i=>
     rw [ef] at ej'
     cases ej'
     obtain ⟨fp',q1,q2,q3⟩:=Rf.setAt h2 ef em' r
     refine ⟨fp1++fp',⟨rfl,v0,vr.set i v,fp1,fp',rfl,h1,q1,rfl⟩,fun nd=>?_,fun a ha=>?_⟩
     ·rw [J0,J0] at nd
      rw [J0]
      refine ⟨nd.2.1.1,q2 (J0.mpr ⟨nd.1,nd.2.1.2.1,fun x hx hb=>nd.2.2 x hx (Zr _ hb)⟩),fun x hx hb=>?_⟩
      rcases Zp.mp (q3 x hb) with hb | hb
      ·exact nd.2.2 x hb (Zl _ hx)
      ·exact nd.2.1.2.2 x hx hb
     ·rcases Zp.mp ha with ha | ha
      ·exact Zr _ (Zl _ ha)
      ·rcases Zp.mp (q3 a ha) with ha | ha
       ·exact Zl _ ha
       ·exact Zr _ (Zr _ ha)
  | _=>exact h.elim
 | [],_,_,_,_,_,_,_,_,_,_,_,ej,_,_=>by cases ej
 | _::_,[],_,_,_,_,_,_,_,_,_,h,_,_,_=>h.elim
theorem Jdm {n:Str} {v:V}:∀{ns:List Str} {vs:List V} {j:Nat},ns.length=vs.length→fIx ns n=some j→putF n v (ns.zip vs)=ns.zip (vs.set j v)
 | [],_,_,_,e=>by cases e
 | _::_,[],_,h,_=>by cases h
 | x::ns,u::vs,j,h,e=>by
  have e': (if x=n then some 0 else (fIx ns n).map (· + 1))=some j:=e
  show (if x=n then (x,v)::ns.zip vs else (x,u)::putF n v (ns.zip vs))=_
  by_cases hx:x=n
  ·rw [if_pos hx] at e' ⊢
   cases e';rfl
  ·rw [if_neg hx] at e' ⊢
   cases ef:fIx ns n with
   | none=>rw [ef] at e';cases e'
   | some i=>
    rw [ef] at e';cases e'
    rw [Jdm (Nat.succ.inj h) ef]
    rfl
noncomputable def Jgb (i:Nat) (k n:Str) (y:D) (Γ:Gam):Option Gam:=match J4 Γ i with
 | some (.obj c ns ds)=>if c=k∧ns.length < 1000 then (fIx ns n).map fun j=>Γ.set i (some (.obj c ns (ds.set j y))) else none
 | _=>none
section
variable {X:Cx} {w:Wh} {μ μ1:List Mode}
theorem Jky {K:Zf} {B1 H:Hp} {Γ1:Gam} {σ:St} {fp1 fpv:List Addr} {i:Nat} {c n:Str} {ns:List Str} {ds:List D} {M my:Mode} {j:Nat} {y:D} {v:V}
  (st0:Sta K B1 H Γ1 μ1 σ fp1) (nd: (fpv++fp1).Nodup) (r:R K B1 H y my v fpv) (eg:J4 Γ1 i=some (.obj c ns ds)) (em:μ1[i]? =some M) (hX:nX M) (ec:J15 M n=some my) (ej:fIx ns n=some j):
  ∃a dx vs,σ[i]? =some (some (.ref a))∧H a=some (.ins (He.ga K c) dx (J1o ns vs))∧ns.length=vs.length∧∃fpB,Stp B1 H (fpv++fp1) B1 (upd H a (.ins (He.ga K c) dx (putF n v (J1o ns vs)))) fpB∧
   Sta K B1 (upd H a (.ins (He.ga K c) dx (putF n v (J1o ns vs)))) (Γ1.set i (some (.obj c ns (ds.set j y)))) μ1 σ fpB:=by
 obtain ⟨v0,fi,fr,h1,h2,h3,h4,h5⟩:=StR.take (m0:= .U) st0.st (J9 eg) em hX
 cases M with
 | B a1 a2 a3=>
  obtain ⟨a,dx,vs,fq,rfl,b0,b1,ha,hx,hlen,hrf,rfl⟩:=h2
  have nn:=J0.mp nd
  have nir:=J0.mp (h4 st0.nd)
  have lv:=hrf.len
  have hput:putF n v (J1o ns vs)=J1o ns (vs.set j v):=Jdm lv ej
  refine ⟨a,dx,vs,h1,ha,lv,?_⟩
  rw [hput]
  have aF:a∈fp1:=(h5 a).mp (Zl _ Zs)
  have adx:a≠dx:=fun z=>(List.nodup_cons.mp nir.1).1 (z ▸ Zs)
  have keepU:∀l:List Addr,(∀x∈l,B1 x=none)→a∉l→Kept B1 H (upd H a (.ins (He.ga K c) dx (J1o ns (vs.set j v)))) l:=fun l ho hp=>Jk ho hp
  have nq:a∉fq:=fun z=>(List.nodup_cons.mp nir.1).1 (Zc _ z)
  have nv:a∉fpv:=fun z=>nn.2.2 a z aF
  have rf':Rf K B1 (upd H a (.ins (He.ga K c) dx (J1o ns (vs.set j v)))) ns ds (.B a1 a2 a3) vs fq:=hrf.mono (Same.refl _) ns ds (keepU fq (fun x hx=>(Rf.own ns ds hrf x hx).1) nq)
  have ry:R K B1 (upd H a (.ins (He.ga K c) dx (J1o ns (vs.set j v)))) y my v fpv:=r.mono (Same.refl _) y (keepU fpv (fun x hx=>(R.own y r x hx).1) nv)
  obtain ⟨fq2,rf2,nd2,sub2⟩:=Rf.setAt rf' ej ec ry
  have hdx:upd H a (.ins (He.ga K c) dx (J1o ns (vs.set j v))) dx=some (.own a):=by rw [upd_ne (fun z=>adx z.symm)];exact hx
  have ro:R K B1 (upd H a (.ins (He.ga K c) dx (J1o ns (vs.set j v)))) (.obj c ns (ds.set j y)) (.B a1 a2 a3) (.ref a) (a::dx::fq2):=
   ⟨a,dx,vs.set j v,fq2,rfl,b0,b1,upd_same,hdx,by rw [List.length_set];exact hlen,rf2,rfl⟩
  have s3:StR K B1 (upd H a (.ins (He.ga K c) dx (J1o ns (vs.set j v)))) (Γ1.set i none) (μ1.set i .U) σ fr:=h3.mono (Same.refl _) (keepU fr (fun x hx=>(h3.own x hx).1) fun z=>nir.2.2 a Zs z)
  obtain ⟨fpB,c1,c2,c3⟩:=s3.putO h1 (i:=i) (m:= .B a1 a2 a3) (g:=some (.obj c ns (ds.set j y))) (.inr ⟨.ref a,rfl,ro⟩)
  rw [List.set_set,List.set_set,set_same em] at c1
  have inF:∀x∈(a::dx::fq2)++fr,x∈fpv++fp1:=fun x hx=>by
   have h5x:=h5 x
   simp only [Zp,Zo] at hx h5x ⊢
   rcases hx with (hx | hx | hx) | hx
   ·exact .inr (h5x.mp (.inl (.inl hx)))
   ·exact .inr (h5x.mp (.inl (.inr (.inl hx))))
   ·rcases Zp.mp (sub2 x hx) with z | z
    ·exact .inl z
    ·exact .inr (h5x.mp (.inl (.inr (.inr z))))
   ·exact .inr (h5x.mp (.inr hx))
  have n1:=List.nodup_cons.mp nir.1
  have n2:=List.nodup_cons.mp n1.2
  have fin:∀x,x∈a::dx::fq→x∉fpv:=fun x hx z=>nn.2.2 x z ((h5 x).mp (Zl _ hx))
  have frn:∀x,x∈fr→x∉fpv:=fun x hx z=>nn.2.2 x z ((h5 x).mp (Zr _ hx))
  have out:∀x,x∈a::dx::fq→x∉fq→x∉fq2:=fun x hm hq z=>by
   rcases Zp.mp (sub2 x z) with z | z
   ·exact fin x hm z
   ·exact hq z
  have ndB: ((a::dx::fq2)++fr).Nodup:=by
   refine J0.mpr ⟨List.nodup_cons.mpr ⟨fun z=>?_,List.nodup_cons.mpr ⟨out dx (Zc _ Zs) n2.1,nd2 (J0.mpr ⟨nn.1,n2.2,fun x hx hy=>fin x (Zc _ (Zc _ hy)) hx⟩)⟩⟩,nir.2.1,fun x hx z=>?_⟩
   ·rcases Zo.mp z with z | z
    ·exact adx z
    ·exact out a Zs nq z
   ·rcases Zo.mp hx with rfl | hx
    ·exact nir.2.2 _ Zs z
    rcases Zo.mp hx with rfl | hx
    ·exact nir.2.2 _ (Zc _ Zs) z
    rcases Zp.mp (sub2 x hx) with hx | hx
    ·exact frn x z hx
    ·exact nir.2.2 _ (Zc _ (Zc _ hx)) z
  refine ⟨fpB,⟨Same.refl _,fun x o hx e=>?_,fun x hx=> .inl (inF x (c3 x hx)),fun x o e=> .inl e⟩,J54 st0.same b0 (.ins ha),c1,c2 ndB⟩
  have xa:x≠a:=fun z=>hx (by rw [z];exact Zr _ aF)
  exact .inl (by rw [upd_ne xa];exact e)
 | _=>cases ec
theorem DG.fldS {P:St→Prop} {i:Nat} {x k n:Str} {p0 p1:Pos} {M my:Mode} (hN:X.N[i]? =some x) (hv:Vis X.env.scope x) (hd: (x == ("__debug__" :Str))=false) (hcd: (x == ("__classdict__" :Str))=false)
  (em:μ1[i]? =some M) (hX:nX M) (ec:J15 M n=some my) (hc:Cls X.K (He.ga X.K k)) (hn:NoAttr X.K (He.ga X.K k) n):DG X P μ1 (.Attribute (.Name x p0) n p1) my (Jgb i k n) μ1:=by
 refine ⟨(Jf3 (pe_var hN hv hd hcd)).imp fun v σ H Q ⟨hp,B1,Γ1,fp1,fpv,y,st0,r,nd,q1⟩=>?_⟩
 unfold Jgb at q1
 cases eg:J4 Γ1 i with
 | none=>rw [eg] at q1;exact q1.elim
 | some d=>
  rw [eg] at q1
  cases d with
  | obj c ns ds=>
   dsimp only at q1
   by_cases hk:c=k∧ns.length < 1000
   case neg=>rw [if_neg hk] at q1;exact q1.elim
   rw [if_pos hk] at q1
   obtain ⟨rfl,hl⟩:=hk
   cases ej:fIx ns n with
   | none=>rw [ej] at q1;exact q1.elim
   | some j=>
    rw [ej] at q1
    have q2:∀σ' B' H' fp',Stp B1 H (fpv++fp1) B' H' fp'→Sta X.K B' H' (Γ1.set i (some (.obj c ns (ds.set j y)))) μ1 σ' fp'→P σ'→Q σ' H':=q1
    obtain ⟨a,dx,vs,h1,ha,lv,fpB,s,st⟩:=Jky st0 nd r eg em hX ec ej
    refine ⟨.ref a,h1,a,_,dx,_,rfl,ha,hc,hn,?_,q2 σ B1 _ fpB s st hp⟩
    show (ns.zip vs).length < 1000
    rw [List.length_zip];omega
  | _=>exact q1.elim
end
section
variable {X:Cx} {z:Ws} {μ μ1:List Mode}
end
noncomputable def Jrm (K:Zf) (t r:TG):TG:=fun v σ H Q=>∃a x xs,v= .ref a∧SqL K H a (x::xs)∧(x::xs).length≤sizeLine∧∀p,H p=none→t x σ (upd H p (.lst xs)) fun σ' H'=>r (.ref p) σ' H' Q
section
open PyProof.Rows PySem.W PySem.Calls
variable {X:Cx} {pos:Pos}
theorem Jnn {t r:TG} {e1 e2:Expr} {k:Nat} {p2:Pos} (hc:X.calm=true) (h1:PG X e1 t) (h2:PG X e2 r) (hs:assignEach [e1,.Starred e2 p2] X.env= [(false,assign e1 X.env),(true,assign e2 X.env)]):PG X (.Tuple [e1,.Starred e2 p2] k pos) (Jrm X.K t r):=by
 refine ⟨fun pins s σ H v u Q I rv0 hw=>?_⟩
 obtain ⟨a,x,xs,e0,hq,hz,hw⟩:=hw
 subst e0
 cases rv0
 obtain ⟨its,rv,pl,_⟩:=I.list hq
 cases rv with
 | cons r1 rr=>
 rename_i u1 us
 rw [assign_Tuple]
 refine wpAny_bind (wpAny_standAt ?_)
 unfold unpack
 rw [hs]
 have hl:=pl.isList
 have hlt:a≠s.heap.objs.size:=by obtain ⟨o,ho,_⟩:=hl;exact Nat.ne_of_lt (Heap.lt_size ho)
 have hh:=I.ok.hd hc
 show wpAny _ _ (holding [Value.ref a] (unpackItems (.ref a) 2 (some 1)) >>= fun r=>assignInOrder [assign e1 X.env,assign e2 X.env] r) _ _ s
 refine wpAny_bind (wpAny_holding ?_)
 unfold unpackItems
 refine wpAny_bind ?_
 unfold notIterableAtAll
 refine wpAny_bind (wpAny_specialOf hl.typeIs slot_list_iter.lookup ?_)
 refine wpAny_pure ?_
 simp only [Bool.false_eq_true,if_false]
 refine wpAny_bind (wpAny_holding (wpAny_pyIter_list hl ?_))
 have hsz: (u1::us).toArray.size=us.length + 1:=by simp
 refine wpAny_bind (wpAny_holding (kun_draw hlt 1 0 _ _ ⟨_,Heap.get?_push_size _ rfl,rfl,rfl⟩ (hl.push _) (by rw [hsz];omega) fun h₁ hit₁ hs₁=>?_))
 have hl₁:h₁.IsList a (u1::us).toArray:=(hl.push _).extBut hs₁.extBut hlt
 rw [Nat.zero_add] at hit₁
 have hit₁':=hit₁
 obtain ⟨oi,hoi,_⟩:=hit₁'
 have hl₁':=hl₁
 obtain ⟨ol,hol,_⟩:=hl₁'
 have hus1:us.length + 1≤sizeLine:=by rw [← rr.length];exact hz
 have hus:us.length≤sizeLine:=Nat.le_of_succ_le hus1
 rw [if_neg (show ¬ ((List.take 1 (List.drop 0 (u1::us).toArray.toList)).length < 1) by simp)]
 refine wpAny_bind (wpAny_holding (kun_collect (s:={ s with heap:=h₁}) (T:= "list_iterator") (.inr (.inr (.inl rfl))) (Walks.list (A:=X.A.in1) hh s.heap.objs.size a hlt (u1::us).toArray) (fun j u st=>st.1.typeIs) (k:=1) (by rw [hsz];omega) ⟨hit₁,hl₁⟩ (Heap.lt_size hoi) (Heap.lt_size hol) (fun h₂ tk hk=>?_) (by rw [hsz];exact hus1)))
 have he:Heap.ExtBut s.heap.objs.size s.heap h₂:=fun b o hb e=>hk b o hb (hs₁.extBut b o hb (Heap.get?_push_of_some _ e))
 have I1:Inv X pins σ H { s with heap:=h₂,toks:=tk}:=I.kept fun b o e=>he b o (Nat.ne_of_lt (Heap.lt_size e)) e
 rw [if_neg (by simp)]
 refine wpAny_bind (wpAny_newList ?_ (by simpa using hus))
 refine wpAny_pure ?_
 have eD:List.take ((List.drop 1 (u1::us).toArray.toList).length - (2 - 1 - 1)) (List.drop 1 (u1::us).toArray.toList)=us:=by simp
 have eR:List.drop ((List.drop 1 (u1::us).toArray.toList).length - (2 - 1 - 1)) (List.drop 1 (u1::us).toArray.toList)= []:=by simp
 rw [eD,eR]
 have I2:Inv X pins σ (upd H h₂.objs.size (.lst xs)) { s with heap:=h₂.push (seqObj "list" us.toArray 0),toks:=tk}:=I1.laid (t':=tk) (fun b u e=>Heap.get?_push_of_some _ e) (Nat.le_refl _)
  (show ObjOk X.prog X.w _ _ _ (.lst xs) from ⟨by rw [rr.length];exact hus,us,0,rr,Heap.get?_push_size _ rfl⟩)
 have q0:=hw h₂.objs.size (I1.hok.fresh (Nat.le_refl _))
 show wpAny _ _ (assignInOrder [assign e1 X.env,assign e2 X.env] [u1,Value.ref h₂.objs.size]) _ _ { s with heap:=h₂.push (seqObj "list" us.toArray 0),toks:=tk}
 refine assignInOrder_cons (thn (h1.run pins _ σ _ _ _ _ I2 r1 q0) fun _ s1 ⟨σ1,H1,I3,q1⟩=>?_)
 refine assignInOrder_cons (thn (h2.run pins s1 σ1 H1 _ _ _ I3 (show L2.RelV (.ref h₂.objs.size) _ from rfl) q1) fun _ s2 ⟨σ2,H2,I4,q2⟩=>?_)
 exact assignInOrder_nil ⟨σ2,H2,I4,q2⟩
end
noncomputable def Jia (t r:D→Gam→Option Gam) (d:D) (Γ:Gam):Option Gam:=match d with
 | .lst (x::xs)=>(t x Γ).bind (r (.lst xs))
 | _=>none
section
variable {X:Cx} {μ μ1 μ2:List Mode} {pos:Pos}
theorem DG.star {P:St→Prop} {t r:D→Gam→Option Gam} {e1 e2:Expr} {k:Nat} {p2:Pos} (hc:X.calm=true) (h1:DG X P μ e1 .F t μ1) (h2:DG X P μ1 e2 (.O .F) r μ2) (hs:assignEach [e1,.Starred e2 p2] X.env= [(false,assign e1 X.env),(true,assign e2 X.env)]):DG X P μ (.Tuple [e1,.Starred e2 p2] k pos) .F (Jia t r) μ2:=by
 refine ⟨(Jnn hc h1.pg h2.pg hs).imp fun v σ H Q ⟨hp,B,Γ,fp,fpv,d,st,rv,nd,q⟩=>?_⟩
 cases d with
 | lst ds=>
  cases ds with
  | nil=>exact q.elim
  | cons x xs=>
   obtain ⟨rfl,a,vs,rfl,hs,hl,v0,vr,f1,f2,rfl,r1,r2,e12⟩:=rv
   obtain ⟨rfl,rfl⟩:=List.append_eq_nil_iff.mp e12.symm
   have hlen: (v0::vr).length≤sizeLine:=by
    rw [List.length_cons,r2.len];exact hl
   have q':match (t x Γ).bind (r (.lst xs)) with
    | some Γ'=>∀σ' B' H' fp',Stp B H ([]++fp) B' H' fp'→Sta X.K B' H' Γ' μ2 σ' fp'→P σ'→Q σ' H'
    | none=>False:=q
   refine ⟨a,v0,vr,rfl,(st.same).sqL hs,hlen,fun p hpn=>?_⟩
   refine Jkv (Q:=fun v H'=>tG X.K P μ .F t μ1 v0 σ H' fun σ' H''=>tG X.K P μ1 (.O .F) r μ2 v σ' H'' Q) st.same r2 (Nat.le_of_succ_le hl) hpn (J2o (Stp.refl B H ([]++fp)) st (fun a h=>nomatch h) nd fun B' H' v fpv fp' s st' rv nv=>?_)
   have nn:=J0.mp nv
   have r1':R X.K B' H' x .F v0 []:=r1.mono s.base x Kept.nil
   refine ⟨hp,B',Γ,fp',[],x,st',r1',by simpa using nn.2.1,?_⟩
   revert q'
   cases t x Γ with
   | none=>exact id
   | some Γ1=>
    intro q' σ1 B1 H1 fp1 s1 st1 hp1
    have dj:∀a∈fpv,a∉ []++fp':=fun a h z=>nn.2.2 a h (by simpa using z)
    have rv':R X.K B1 H1 (.lst xs) (.O .F) v fpv:=rv.mono s1.base _ (s1.kept (K:=X.K) (R.own _ rv) dj)
    refine ⟨hp1,B1,Γ1,fp1,fpv,.lst xs,st1,rv',J0.mpr ⟨nn.1,st1.nd,s1.apart (fun a h=>(R.own _ rv a h).2) dj⟩,?_⟩
    have q3:match r (.lst xs) Γ1 with
     | some Γ'=>∀σ' B' H' fp',Stp B H ([]++fp) B' H' fp'→Sta X.K B' H' Γ' μ2 σ' fp'→P σ'→Q σ' H'
     | none=>False:=q'
    revert q3
    show (match r (.lst xs) Γ1 with
     | some Γ'=>_
     | none=>_)→_
    cases r (.lst xs) Γ1 with
    | none=>exact id
    | some Γ2=>
     intro q3 σ2 B2 H2 fp2 s2 st2 hp2
     refine q3 σ2 B2 H2 fp2 (s.trans (Stp.trans (fp1:=fpv++fp1) ?_ s2)) st2 hp2
     have:=s1.frame fpv
     simpa using this
 | _=>exact q.elim
end
inductive Qa where
 | v (i:Nat) | f (i:Nat) (k n:Str) | n (j:Int) | s (x:Str)
noncomputable def evQ:Qa→Gam→Option D
 | .v i,Γ=>J4 Γ i
 | .f i k n,Γ=>(J4 Γ i).bind fun d=>Jp d [Sel.fld k n]
 | .n j,_=>some (.int j)
 | .s x,_=>some (.str x)
noncomputable def Jkz:List Qa→Gam→Option (List D)
 | [],_=>some []
 | q::qs,Γ=>(evQ q Γ).bind fun d=>(Jkz qs Γ).map (d:: ·)
noncomputable def tQ (K:Zf) (μ:List Mode) (p:Gam→Option D):TE:=fun σ H Q=>∃B Γ fp,Sta K B H Γ μ σ fp∧∃d,p Γ=some d∧∀v,R K B H d .F v []→Q v H
noncomputable def tQs (K:Zf) (μ:List Mode) (p:Gam→Option (List D)):TA:=fun σ H Q=>∃B Γ fp,Sta K B H Γ μ σ fp∧∃ds,p Γ=some ds∧∀vs,Rl K B H ds .F vs []→Q vs H
structure QE (X:Cx) (μ:List Mode) (e:Expr) (q:Qa):Prop where
 pe:PE X e (tQ X.K μ (evQ q))
structure QAs (X:Cx) (μ:List Mode) (es:List Expr) (qs:List Qa):Prop where
 pa:PA X es (tQs X.K μ (Jkz qs))
theorem Jx.ext {K:Zf} {H H':Hp} (k:∀a o,H a=some o→H' a=some o):∀{s:List Sel} {v u:V},Jx K H v s u→Jx K H' v s u
 | [],v,u,h=>h
 | .ix i::s,v,u,⟨a,xs,x,e,h,q,p⟩=>⟨a,xs,x,e,h.imp (k _ _) (k _ _),q,Jx.ext k p⟩
 | .fld _ n::s,v,u,⟨a,dx,fs,x,e,h,q,p⟩=>⟨a,dx,fs,x,e,k _ _ h,q,Jx.ext k p⟩
theorem R.toF {K:Zf} {B H:Hp} {d:D} {m:Mode} {v:V} {fp:List Addr} (h:J1k m=true) (r:R K B H d m v fp):R K B H d .F v []:=by
 have z:=J43 h r
 subst z
 cases m with
 | F=>exact r
 | Z=>cases d <;> first | exact r | exact r.elim
 | _=>cases h
section
variable {X:Cx} {μ:List Mode} {pos:Pos} {i:Nat} {x:Str}
theorem QE.v {m:Mode} (hN:X.N[i]? =some x) (hv:Vis X.env.scope x) (hd: (x == ("__debug__" :Str))=false) (hcd: (x == ("__classdict__" :Str))=false) (em:μ[i]? =some m) (hf:J1k m=true):QE X μ (.Name x pos) (.v i):=by
 refine ⟨(pe_var hN hv hd hcd).imp fun σ H Q ⟨B,Γ,fp,st,d,e,q⟩=>?_⟩
 obtain ⟨v,fp1,fp2,h1,h2,_⟩:=StR.take (m0:= .U) st.st (J9 e) em ⟨(by rintro rfl;cases hf),(by rintro rfl;cases hf)⟩
 exact ⟨v,h1,q v (h2.toF hf)⟩
theorem QE.f {k n:Str} {M m:Mode} {p0:Pos} (hN:X.N[i]? =some x) (hv:Vis X.env.scope x) (hd: (x == ("__debug__" :Str))=false) (hcd: (x == ("__classdict__" :Str))=false) (em:μ[i]? =some M) (hX:nX M) (hm:J12 M [.fld k n]=some m) (hf:J1k m=true)
  (hc:Cls X.K (He.ga X.K k)) (hn:NoAttr X.K (He.ga X.K k) n):QE X μ (.Attribute (.Name x p0) n pos) (.f i k n):=by
 refine ⟨(DPl.fld (μ:=μ) (DPl.name hN hv hd hcd) hc hn rfl).pe.imp fun σ H Q ⟨B,Γ,fp,st,d,e,q⟩=>?_⟩
 have e': (J4 Γ i).bind (fun d=>Jp d [Sel.fld k n])=some d:=e
 obtain ⟨d0,e1,e2⟩:=Option.bind_eq_some_iff.mp e'
 obtain ⟨v,fp1,fp2,h1,h2,_⟩:=StR.take (m0:= .U) st.st (J9 e1) em hX
 obtain ⟨u,fq,p1,r2,_⟩:=R.path h2 e2 hm
 exact ⟨B,Γ,fp,v,_,u,st,rfl,h1,p1,q u (r2.toF hf)⟩
theorem QE.n {j:Int} {k:Nat}:QE X μ (.Constant (.int j) k pos) (.n j):=⟨pe_int.imp fun σ H Q ⟨B,Γ,fp,st,d,e,q⟩=>by cases e;exact q _ ⟨rfl,rfl⟩⟩
theorem QE.s {j:Str} {k:Nat}:QE X μ (.Constant (.str j) k pos) (.s j):=⟨pe_str.imp fun σ H Q ⟨B,Γ,fp,st,d,e,q⟩=>by cases e;exact q _ ⟨rfl,rfl⟩⟩
theorem QAs.nil:QAs X μ [] []:=⟨pa_nil.imp fun σ H Q ⟨B,Γ,fp,st,d,e,q⟩=>by cases e;exact q [] ⟨rfl,rfl⟩⟩
theorem QAs.cons {e:Expr} {es:List Expr} {q:Qa} {qs:List Qa} (h1:QE X μ e q) (h2:QAs X μ es qs) (hs:starEach (e::es) X.env= (false,eval e X.env)::starEach es X.env):QAs X μ (e::es) (q::qs):=by
 refine ⟨(pa_cons h1.pe h2.pa hs).imp fun σ H Q ⟨B,Γ,fp,st,ds,e,k⟩=>?_⟩
 have e': (evQ q Γ).bind (fun d=>(Jkz qs Γ).map (d:: ·))=some ds:=e
 obtain ⟨d,e1,e2⟩:=Option.bind_eq_some_iff.mp e'
 obtain ⟨dr,e3,rfl⟩:=Option.map_eq_some_iff.mp e2
 exact ⟨B,Γ,fp,st,d,e1,fun v r=>⟨B,Γ,fp,st,dr,e3,fun vs rs=>k (v::vs) ⟨v,vs,[],[],rfl,r,rs,rfl⟩⟩⟩
end
section
variable {X:Cx} {w:Wh} {μ μ1:List Mode} {pos:Pos} {i:Nat} {g:Gam→Option (List Sel)} {mi mc:Mode} {o b:Expr} {f:Gam→Rz D}
end
inductive B2 where
 | add | sub | mul | div | mod | pow | cat | J87 | rep
inductive C2 where
  | lt | le | gt | eq | ne | isN | notN
inductive BN where
  | len | sum | min | abs | min2 | list | int | any
inductive Px where
 | int (i:Int) | neg (i:Int) | var (i:Nat) | add (a b:Px) | sub (a b:Px)
noncomputable def Jl:Px→Gam→Option Int
 | .int i=>pxC i
 | .neg i=>pxC (-i)
 | .var i=>pxV i
 | .add a b=>px2 (· + ·) (Jl a) (Jl b)
 | .sub a b=>px2 (· - ·) (Jl a) (Jl b)
noncomputable def Jbc:List Px→Gam→Option (List Sel)
 | []=>plN
 | j::r=>plI (Jbc r) (Jl j)
noncomputable def Jaf (m:Mode):List Px→Option Mode
 | []=>some m
 | _::r=>(Jaf m r).bind fun k=>match k with
  | .O k=>some k
  | _=>none
theorem J89 {m:Mode}:∀{js:List Px} {Γ:Gam} {s:List Sel} {k:Mode},Jbc js Γ=some s→Jaf m js=some k→J12 m s=some k
 | [],Γ,s,k,h1,h2=>by
  cases (show some []=some s from h1);exact h2
 | j::r,Γ,s,k,h1,h2=>by
  have h1': (Jbc r Γ).bind (fun s=>(Jl j Γ).map fun j=>s++ [.ix j])=some s:=h1
  obtain ⟨t,e1,e2⟩:=Option.bind_eq_some_iff.mp h1'
  obtain ⟨u,e3,e4⟩:=Option.bind_eq_some_iff.mp h2
  cases e5:Jl j Γ with
  | none=>rw [e5] at e2;cases e2
  | some v=>
   rw [e5] at e2
   cases e2
   cases u with
   | O q=>cases e4;exact J9k (J89 e1 e3)
   | _=>cases e4
mutual
inductive Ex where
  | var (i:Nat) | fv (i:Nat) | mv (i:Nat) | int (i:Int) | bl (b:Bool) | non | str (x:Str) | neg (a:Ex) | bin (o:B2) (a b:Ex) | cmp (o:C2) (a b:Ex) | ix (a b:Ex) | ifE (t:Tx) (a b:Ex) | tup (m:Mode) (as:Ar) | lst (m:Mode) (as:Ar) | call (g:Nat) (as:Ar) | blt (o:BN) (as:Ar) | lc (own:List Nat) (it:Ix) (t:Tg) (c:Cx1) (e:Ex) | minD (a b:Ex) | app (i:Nat) (a:Ex) | sl (k:Bool) (a:Ex) (lo hi:Option Px) | slP (i:Nat) (js:List Px) (lo hi:Option Px) | catP (i:Nat) (js:List Px) (a:Ex) | ch2 (o1 o2:C2) (a b c:Ex) | glob (x:Str) (d:D) | dnew (m:Mode) | dget (a b:Ex) | din (k:Bool) (a b:Ex) | slE (a b:Ex) | bor (M:List Bool) (a:Ex) | frz (a:Ex) | flat (a:Ex) | sub (m:Mode) (a:Ex)
inductive Ar where
 | nil | e (a:Ex) (r:Ar) | io (i:Nat) (r:Ar) | ioL (i:Nat) (r:Ar)
inductive Tx where
  | val (a:Ex) | cmp (o:C2) (a b:Ex) | ch2 (o1 o2:C2) (a b c:Ex) | not (t:Tx) | and (t u:Tx) | or (t u:Tx) | bor (M:List Bool) (t:Tx) | din (k:Bool) (a b:Ex)
inductive Cx1 where
  | no | one (t:Tx)
inductive Ix where
  | list (a:Ex) | tup (a:Ex) | r1 (a:Ex) | zip (a b:Ex) | enum (a:Ex)
inductive Tg where
 | nm (i:Nat) | tup (ts:Tgs) | lst (ts:Tgs) | fld (i:Nat) (k n:Str) | fldS (i:Nat) (k n:Str) | star (t r:Tg)
inductive Tgs where
 | nil | cons (t:Tg) (r:Tgs)
end
structure Fn where
 name:Str
 pm:List Mode
 rm:Mode
 F:List D→Fo
 dds:List D:= []
 dms:List Mode:= []
 kn:List Str:= []
 cls:Str:= ""
structure Sg where
 name:Str
 pm:List Mode
 rm:Mode
 dms:List Mode:= []
 kn:List Str:= []
 cls:Str:= ""
noncomputable instance:Inhabited Sg:=⟨⟨"",[],.Z,[],[], ""⟩⟩
noncomputable def Fn.sg (f:Fn):Sg:=⟨f.name,f.pm,f.rm,f.dms,f.kn,f.cls⟩
noncomputable instance:Inhabited Fn:=⟨⟨"",[],.Z,fun _=> .bad,[],[],[], ""⟩⟩
noncomputable def B2.op:B2→D→D→Option D
 | .add=>Jk0 | .sub=>Jk1 | .mul=>Jk3 | .div=>Jp1 | .mod=>Jp2 | .pow=>Jp4 | .cat=>Jk6 | .J87=>EV.J87 | .rep=>Jpl
noncomputable def C2.op:C2→D→D→Option D
 | .lt=>ltX | .le=>leI | .gt=>gtI | .eq=>eqO | .ne=>neO | .isN=>Jd5 | .notN=>Jb2
noncomputable def BN.op:BN→List D→Option D
 | .len=>Jpa | .sum=>Jpb | .min=>Jk7 | .abs=>Jpc | .min2=>Jm2 | .list=>Jm3 | .int=>Jpk | .any=>Jpy
noncomputable def J9l (k:Bool):D→D→Option D:=if k=true then Jpt else Jm7
mutual
noncomputable def evG:Tg→D→Gam→Option Gam
 | .nm i=>Jft i
 | .tup ts=>Jlz (J6l ts)
 | .lst ts=>Jm0 (J6l ts)
 | .fld i k n=>Jga i k n
 | .fldS i k n=>Jgb i k n
 | .star t r=>Jia (evG t) (evG r)
noncomputable def J6l:Tgs→List D→Gam→Option Gam
 | .nil=>Jly
 | .cons t r=>Jhg (evG t) (J6l r)
end
mutual
noncomputable def ev (fs:List Fn):Ex→Gam→Rz D
 | .var i=>Jax i
 | .fv i=>Jax i
 | .mv i=>eMv i
 | .int i=>eC (.int i)
 | .bl b=>eC (.bl b)
 | .non=>eC .non
 | .str x=>eC (.str x)
 | .neg a=>e1 Jd4 (ev fs a)
 | .bin o a b=>e2 o.op (ev fs a) (ev fs b)
 | .cmp o a b=>e2 o.op (ev fs a) (ev fs b)
 | .ix a b=>e2 ixO (ev fs a) (ev fs b)
 | .ch2 o1 o2 a b c=>Jb9 o1.op o2.op (ev fs a) (ev fs b) (ev fs c)
 | .glob _ d=>eC d
 | .ifE t a b=>eIf (evT fs t) (ev fs a) (ev fs b)
 | .tup _ as=>eN (fun ds=>some (.tup ds)) (evA fs as)
 | .lst _ as=>eN (fun ds=>some (.lst ds)) (evA fs as)
 | .call g as=>J8q (fs.getD g default).F (J1x as) (fs.getD g default).dds (evA fs as)
 | .blt o as=>eN o.op (evA fs as)
 | .lc own it t c e=>eLc (evI fs it) (evG t) (evC fs c) (ev fs e) own
 | .minD a b=>eN J7i (Jb0 (Jj (ev fs a) J1z) (Jj (ev fs b) J1z))
 | .app i a=>Jb4 i (ev fs a)
 | .sl k a lo hi=>eSl (if k=true then J2v else J85) (ev fs a) (lo.map Jl) (hi.map Jl)
 | .slP i js lo hi=>Jdd i (Jbc js) (lo.map Jl) (hi.map Jl)
 | .catP i js a=>Jab i (Jbc js) (ev fs a)
 | .dnew _=>eC (.dct [] [])
 | .dget a b=>e2 Jae (ev fs a) (ev fs b)
 | .din k a b=>e2 (J9l k) (ev fs a) (ev fs b)
 | .slE a b=>Jdl (ev fs a) (ev fs b)
 | .bor M a=>J4s M (ev fs a)
 | .frz a=>ev fs a
 | .flat a=>Jfy (ev fs a)
 | .sub _ a=>ev fs a
noncomputable def evA (fs:List Fn):Ar→Gam→Rz (List D)
 | .nil=>J1z
 | .e a r=>Jj (ev fs a) (evA fs r)
 | .io i r=>Jj (eMv i) (evA fs r)
 | .ioL i r=>Jju i (evA fs r)
noncomputable def J1x:Ar→Ios
 | .nil=> []
 | .e _ r=>shift (J1x r)
 | .io i r=>(0,i)::shift (J1x r)
 | .ioL i r=>(0,i)::shift (J1x r)
noncomputable def evT (fs:List Fn):Tx→Gam→Rz Bool
 | .val a=>eB (ev fs a)
 | .cmp o a b=>eB (e2 o.op (ev fs a) (ev fs b))
 | .ch2 o1 o2 a b c=>eB (Jb9 o1.op o2.op (ev fs a) (ev fs b) (ev fs c))
 | .not t=>Jjs (evT fs t)
 | .and t u=>Jjt (evT fs t) (evT fs u)
 | .or t u=>eOr (evT fs t) (evT fs u)
 | .bor M t=>J4s M (evT fs t)
 | .din k a b=>eB (e2 (J9l k) (ev fs a) (ev fs b))
noncomputable def evC (fs:List Fn):Cx1→Gam→Rz Bool
 | .no=>Joz
 | .one t=>evT fs t
noncomputable def evI (fs:List Fn):Ix→Gam→Rz (List D)
 | .list a=>J9e (ev fs a)
 | .tup a=>Jfu (ev fs a)
 | .r1 a=>eNi J4t (Jj (ev fs a) J1z)
 | .zip a b=>eNi Jb6 (Jj (ev fs a) (Jj (ev fs b) J1z))
 | .enum a=>eNi J3r (Jj (ev fs a) J1z)
end
structure Sx where
 N:List Str
 sc:Scope
 fnA:Option Scope
 fs:List Sg
 μx:List Mode
 bl:List Str
 fl:List (Str × Str):= []
 calm:Bool:=true
 ex:List (Str × Str):= []
 exm:List (Str × Str × Bool):= []
 gc:List (Str × D):= []
 exf:List (Str × Str × List (Str × Bool)):= []
 xfa:List (Str × Str):= []
noncomputable def Jq1 (sc:Scope) (x:Str):Bool:=match sc.names.lookup x with
 | some .local=>true
 | some .cell=>true
 | some .free=>true
 | _=>false
noncomputable def nmB (S:Sx) (i:Nat) (x:Str):Bool:=decide (S.N[i]? =some x) && (Jq1 S.sc x && (!(x == ("__debug__" :Str)) && !(x == ("__classdict__" :Str))))
noncomputable def J9m (S:Sx) (x:Str):Bool:=(match S.sc.names.lookup x with
 | some .local=>true
 | some .cell=>true
 | _=>false) && (match S.fnA with
 | none=>true
 | some s0=>decide (s0.names.lookup x=some .cell) || decide (S.sc.names.lookup x=some .local))
noncomputable def glB (S:Sx) (x:Str):Bool:=decide (S.sc.names.lookup x=some .globalImplicit) && !(x == ("__debug__" :Str))
noncomputable def J9n (S:Sx) (x:Str):Bool:=glB S x && S.bl.contains x
noncomputable def B2.oper:B2→Operator
 | .add=> .Add | .sub=> .Sub | .mul=> .Mult | .div=> .FloorDiv | .mod=> .Mod | .pow=> .Pow | .cat=> .Add | .J87=> .Add | .rep=> .Mult
noncomputable def C2.oper:C2→CmpOp
 | .lt=> .Lt | .le=> .LtE | .gt=> .Gt | .eq=> .Eq | .ne=> .NotEq | .isN=> .Is | .notN=> .IsNot
noncomputable def B2.md:B2→Mode→Mode→Option Mode
 | .cat,.O m,.O m'=>if m=m' then some (.O m) else none
 | .cat,.F,.F=>some (.O .F)
 | .cat,_,_=>none
 | .J87,.F,.F=>some .F
 | .J87,_,_=>none
 | .rep,.O .F,.Z=>some (.O .F)
 | .rep,.O .Z,.Z=>some (.O .Z)
 | .rep,_,_=>none
 | _,_,_=>some .Z
noncomputable def BN.nm:BN→Str
 | .len=> "len" | .sum=> "sum" | .min=> "min" | .abs=> "abs" | .min2=> "min" | .list=> "list" | .int=> "int" | .any=> "any"
noncomputable def BN.md:BN→List Mode→Option Mode
 | .min2,[_,_]=>some .Z
 | .list,[m]=>some (.O (J31 m))
 | .len,[_]=>some .Z
 | .sum,[_]=>some .Z
 | .min,[_]=>some .Z
 | .abs,[_]=>some .Z
 | .int,[_]=>some .Z
 | .any,[_]=>some .Z
 | _,_=>none
noncomputable def J7l:List Bool→List Mode→List Mode
 | b::M,m::μ=>(if b=true then m else .X)::J7l M μ
 | _,_=> []
noncomputable def J7m (k:Bool):CmpOp:=if k=true then .In else .NotIn
noncomputable def J8t (k:Bool) (b:Expr):Bool:=!behindInMarks (J7m k) b
noncomputable def J70 (o:C2) (b:Expr):Bool:=!behindInMarks o.oper b
noncomputable def J26:Expr→Option Str
 | .Name x _=>some x
 | _=>none
noncomputable def J8a:Expr→Option (List Expr)
 | .Tuple es _ _=>some es
 | _=>none
theorem Jq {e:Expr} {x:Str} (h:J26 e=some x):∃p,e= .Name x p:=by
 unfold J26 at h;split at h
 ·cases h;exact ⟨_,rfl⟩
 ·cases h
theorem J4c {e:Expr} {es:List Expr} (h:J8a e=some es):∃k p,e= .Tuple es k p:=by
 unfold J8a at h;split at h
 ·cases h;exact ⟨_,_,rfl⟩
 ·cases h
noncomputable def Jdn:Expr→Option (Int)
 | .Constant (.int j) _ _=>some j
 | _=>none
theorem J8b {e:Expr} {j:Int} (h:Jdn e=some j):∃k p,e= .Constant (.int j) k p:=by
 unfold Jdn at h;split at h
 ·cases h;exact ⟨_,_,rfl⟩
 ·cases h
noncomputable def pBl:Expr→Option (Bool)
 | .Constant (.bool j) _ _=>some j
 | _=>none
theorem Jl0 {e:Expr} {j:Bool} (h:pBl e=some j):∃k p,e= .Constant (.bool j) k p:=by
 unfold pBl at h;split at h
 ·cases h;exact ⟨_,_,rfl⟩
 ·cases h
noncomputable def Jl1:Expr→Option (Str)
 | .Constant (.str j) _ _=>some j
 | _=>none
theorem Jib {e:Expr} {j:Str} (h:Jl1 e=some j):∃k p,e= .Constant (.str j) k p:=by
 unfold Jl1 at h;split at h
 ·cases h;exact ⟨_,_,rfl⟩
 ·cases h
noncomputable def Jl2:Expr→Option (Unit)
 | .Constant .none _ _=>some ()
 | _=>none
theorem Jic {e:Expr} (h:Jl2 e=some ()):∃k p,e= .Constant .none k p:=by
 unfold Jl2 at h;split at h
 ·cases h;exact ⟨_,_,rfl⟩
 ·cases h
noncomputable def Jgc:Expr→Option (Expr)
 | .UnaryOp .USub x _=>some x
 | _=>none
theorem Jc8 {e:Expr} {x:Expr} (h:Jgc e=some x):∃p,e= .UnaryOp .USub x p:=by
 unfold Jgc at h;split at h
 ·cases h;exact ⟨_,rfl⟩
 ·cases h
noncomputable def Jl3:Expr→Option (Expr)
 | .UnaryOp .Not x _=>some x
 | _=>none
theorem Jid {e:Expr} {x:Expr} (h:Jl3 e=some x):∃p,e= .UnaryOp .Not x p:=by
 unfold Jl3 at h;split at h
 ·cases h;exact ⟨_,rfl⟩
 ·cases h
noncomputable def Jbd:Expr→Option (Expr × Operator × Expr)
 | .BinOp x o y _=>some (x,o,y)
 | _=>none
theorem J64 {e:Expr} {x y:Expr} {o:Operator} (h:Jbd e=some (x,o,y)):∃p,e= .BinOp x o y p:=by
 unfold Jbd at h;split at h
 ·cases h;exact ⟨_,rfl⟩
 ·cases h
noncomputable def Jbe:Expr→Option (Expr × CmpOp × Expr)
 | .Compare x [o] [y] _=>some (x,o,y)
 | _=>none
theorem J65 {e:Expr} {x y:Expr} {o:CmpOp} (h:Jbe e=some (x,o,y)):∃p,e= .Compare x [o] [y] p:=by
 unfold Jbe at h;split at h
 ·cases h;exact ⟨_,rfl⟩
 ·cases h
noncomputable def Jgd:Expr→Option (Expr × CmpOp × Expr × CmpOp × Expr)
 | .Compare x [o,o'] [y,z] _=>some (x,o,y,o',z)
 | _=>none
theorem Jc9 {e:Expr} {x y z:Expr} {o o':CmpOp} (h:Jgd e=some (x,o,y,o',z)):∃p,e= .Compare x [o,o'] [y,z] p:=by
 unfold Jgd at h;split at h
 ·cases h;exact ⟨_,rfl⟩
 ·cases h
noncomputable def J7n:Expr→Option (Expr × Expr)
 | .Subscript x y _=>some (x,y)
 | _=>none
theorem J36 {e:Expr} {x y:Expr} (h:J7n e=some (x,y)):∃p,e= .Subscript x y p:=by
 unfold J7n at h;split at h
 ·cases h;exact ⟨_,rfl⟩
 ·cases h
noncomputable def pBo:Expr→Option (BoolOp × List Expr)
 | .BoolOp o ys _=>some (o,ys)
 | _=>none
theorem Jdo {e:Expr} {o:BoolOp} {ys:List Expr} (h:pBo e=some (o,ys)):∃p,e= .BoolOp o ys p:=by
 unfold pBo at h;split at h
 ·cases h;exact ⟨_,rfl⟩
 ·cases h
noncomputable def pIf:Expr→Option (Expr × Expr × Expr)
 | .IfExp c x y _=>some (c,x,y)
 | _=>none
theorem Jl4 {e:Expr} {c x y:Expr} (h:pIf e=some (c,x,y)):∃p,e= .IfExp c x y p:=by
 unfold pIf at h;split at h
 ·cases h;exact ⟨_,rfl⟩
 ·cases h
noncomputable def Jl5:Expr→Option (List Expr)
 | .List es _=>some es
 | _=>none
theorem Jie {e:Expr} {es:List Expr} (h:Jl5 e=some es):∃p,e= .List es p:=by
 unfold Jl5 at h;split at h
 ·cases h;exact ⟨_,rfl⟩
 ·cases h
noncomputable def J7o:Expr→Option (Str × List Expr)
 | .Call (.Name x _) es [] _=>some (x,es)
 | _=>none
theorem J4k {e:Expr} {x:Str} {es:List Expr} (h:J7o e=some (x,es)):∃p q,e= .Call (.Name x p) es [] q:=by
 unfold J7o at h;split at h
 ·cases h;exact ⟨_,_,rfl⟩
 ·cases h
noncomputable def Jge:Expr→Option (Str × Str × List Expr × Pos × Pos)
 | .Call (.Attribute (.Name x _) n p) es [] q=>some (x,n,es,p,q)
 | _=>none
theorem Jgf {e:Expr} {x n:Str} {es:List Expr} {p q:Pos} (h:Jge e=some (x,n,es,p,q)):∃p0,e= .Call (.Attribute (.Name x p0) n p) es [] q:=by
 unfold Jge at h;split at h
 ·cases h;exact ⟨_,rfl⟩
 ·cases h
noncomputable def pLc:Expr→Option (Expr × Expr × Expr × List Expr × Scope)
 | .ListComp elt [⟨tg,iter,ifs,0⟩] scope _=>some (elt,tg,iter,ifs,scope)
 | _=>none
theorem Jdp {e:Expr} {elt tg iter:Expr} {ifs:List Expr} {scope:Scope} (h:pLc e=some (elt,tg,iter,ifs,scope)):∃p,e= .ListComp elt [⟨tg,iter,ifs,0⟩] scope p:=by
 unfold pLc at h;split at h
 ·cases h;exact ⟨_,rfl⟩
 ·cases h
noncomputable def Jag:Expr→Option (Expr × Str)
 | .Attribute e n _=>some (e,n)
 | _=>none
theorem J7p {e x:Expr} {n:Str} (h:Jag e=some (x,n)):∃p,e= .Attribute x n p:=by
 unfold Jag at h;split at h
 ·cases h;exact ⟨_,rfl⟩
 ·cases h
noncomputable def Jgg:Expr→Option (Str × Expr × Expr)
 | .Call (.Name x _) [a] [⟨some k,b,_⟩] _=>if k=Str.ofString "default" then some (x,a,b) else none
 | _=>none
theorem Jgh {e:Expr} {x:Str} {a b:Expr} (h:Jgg e=some (x,a,b)):∃p kp q,e= .Call (.Name x p) [a] [⟨some (Str.ofString "default"),b,kp⟩] q:=by
 unfold Jgg at h;split at h
 ·split at h
  ·rename_i e0
   subst e0
   cases h;exact ⟨_,_,_,rfl⟩
  ·cases h
 ·cases h
noncomputable def Jdq:Expr→Option Unit
 | .Dict [] [] _=>some ()
 | _=>none
theorem Jem {e:Expr} (h:Jdq e=some ()):∃p,e= .Dict [] [] p:=by
 unfold Jdq at h;split at h
 ·cases h;exact ⟨_,rfl⟩
 ·cases h
noncomputable def grd {α:Type} (b:Bool) (o:Option α):Option α:=if b=true then o else none
theorem J1 {α:Type} {b:Bool} {o:Option α} {r:α} (h:grd b o=some r):b=true∧o=some r:=by
 unfold grd at h;split at h
 ·exact ⟨by assumption,h⟩
 ·cases h
theorem bnd {α β:Type} {o:Option α} {f:α→Option β} {r:β} (h:o.bind f=some r):∃a,o=some a∧f a=some r:=Option.bind_eq_some_iff.mp h
noncomputable def oOk (o:Option Mode):Bool:=match o with
 | some m=>decide (nX m)
 | none=>false
noncomputable def J6m (S:Sx) (μ:List Mode):Px→Expr→Option Unit
 | .int i,e=>(Jdn e).bind fun j=>grd (decide (i=j)) (some ())
 | .neg i,e=>(Jgc e).bind fun x=>(Jdn x).bind fun j=>grd (decide (i=j)) (some ())
 | .var i,e=>(J26 e).bind fun x=>grd (nmB S i x && oOk μ[i]?) (some ())
 | .add a b,e=>(Jbd e).bind fun q=>grd (decide (q.2.1= .Add)) ((J6m S μ a q.1).bind fun _=>J6m S μ b q.2.2)
 | .sub a b,e=>(Jbd e).bind fun q=>grd (decide (q.2.1= .Sub)) ((J6m S μ a q.1).bind fun _=>J6m S μ b q.2.2)
noncomputable def Jgi (S:Sx) (μ:List Mode) (i:Nat):List Px→Expr→Option Unit
 | [],e=>(J26 e).bind fun x=>grd (nmB S i x) (some ())
 | j::r,e=>(J7n e).bind fun q=>grd (J35 q.2) ((Jgi S μ i r q.1).bind fun _=>J6m S μ j q.2)
noncomputable def pSl:Expr→Option (Expr × Option Expr × Option Expr)
 | .Subscript e (.Slice lo hi none _) _=>some (e,lo,hi)
 | _=>none
theorem J9o {e x:Expr} {lo hi:Option Expr} (h:pSl e=some (x,lo,hi)):∃p q,e= .Subscript x (.Slice lo hi none p) q:=by
 unfold pSl at h;split at h
 ·cases h;exact ⟨_,_,rfl⟩
 ·cases h
noncomputable def Jbf (S:Sx) (μ:List Mode) (p:Option Px) (e:Option Expr):Option Unit:=match p,e with
 | none,none=>some ()
 | some p,some e=>J6m S μ p e
 | _,_=>none
noncomputable def slM (k:Bool) (m:Mode):Option Mode:=if k=true then some (.O (J31 m)) else if m= .F then some .F else none
noncomputable def Jq2 (S:Sx) (i:Nat) (k n:Str) (e:Expr):Option Unit:=(Jag e).bind fun q=>(J26 q.1).bind fun x=>grd (decide (q.2=n) && (nmB S i x && S.fl.contains (k,n))) (some ())
noncomputable def Jgj:List Expr→Option (Expr × Expr)
 | [e1,.Starred e2 _]=>some (e1,e2)
 | _=>none
theorem Jgk {es:List Expr} {e1 e2:Expr} (h:Jgj es=some (e1,e2)):∃p,es= [e1,.Starred e2 p]:=by
 unfold Jgj at h;split at h
 ·cases h;exact ⟨_,rfl⟩
 ·cases h
mutual
noncomputable def ckG (S:Sx) (st:Nat→Bool):Tg→Expr→Mode→List Mode→Option (List Mode)
 | .nm i,e,m,μ=>(J26 e).bind fun x=>grd (decide (S.N[i]? =some x) && (J9m S x && (st i && decide (i < μ.length)))) (some (μ.set i m))
 | .tup ts,e,m,μ=>(J8a e).bind fun es=>grd (S.calm && es.all Ji) (Jdr S st ts es (J31 m) μ)
 | .lst ts,e,m,μ=>(J8a e).bind fun es=>grd (S.calm && es.all Ji) (Jdr S st ts es (J31 m) μ)
 | .fld i k n,e,m,μ=>(Jag e).bind fun q=>(J26 q.1).bind fun x=>grd (decide (q.2=n) && (nmB S i x && S.fl.contains (k,n))) ((μ[i]?).bind fun M=>(J6k M n m).bind fun M'=>some (μ.set i M'))
 | .fldS i k n,e,m,μ=>(Jq2 S i k n e).bind fun _=>(μ[i]?).bind fun M=>grd (decide (nX M)) ((J15 M n).bind fun m'=>grd (decide (m'=m)) (some μ))
 | .star t r,e,m,μ=>(J8a e).bind fun es=>(Jgj es).bind fun q=>grd (S.calm && (decide (m= .F) && Ji q.1)) ((ckG S st t q.1 .F μ).bind fun μ1=>ckG S st r q.2 (.O .F) μ1)
noncomputable def Jdr (S:Sx) (st:Nat→Bool):Tgs→List Expr→Mode→List Mode→Option (List Mode)
 | .nil,es,_,μ=>grd es.isEmpty (some μ)
 | .cons t r,es,m,μ=>es.head?.bind fun e=>grd (Ji e) ((ckG S st t e m μ).bind fun μ1=>Jdr S st r es.tail m μ1)
end
noncomputable def Jgl (sc scope:Scope):Scope:={ scope with names:=scope.names.map fun (n,k)=>if (k == .free && sc.kind == .function && sc.names.lookup n == some .cell) then (n,.cell) else (n,k)}
noncomputable def Sx.blk (S:Sx) (scope:Scope) (μx:List Mode):Sx:={ S with sc:=Jgl S.sc scope,fnA:=some scope,μx:=μx,ex:= [],exf:= []}
noncomputable def J6n (N:List Str) (own:List Nat):List (Str × Nat):=own.map fun i=>(N.getD i "",i)
noncomputable def J6o (es:List Expr):Option Expr:=match es with
 | [e]=>some e
 | _=>none
noncomputable def Jl6 (es:List Expr):Option (Expr × Expr):=match es with
 | [e,f]=>some (e,f)
 | _=>none
theorem J2m {es:List Expr} {e:Expr} (h:J6o es=some e):es= [e]:=by
 unfold J6o at h;split at h
 ·cases h;rfl
 ·cases h
theorem Jif {es:List Expr} {e f:Expr} (h:Jl6 es=some (e,f)):es= [e,f]:=by
 unfold Jl6 at h;split at h
 ·cases h;rfl
 ·cases h
noncomputable def ixM:Mode→Option Mode
 | .F=>some .F
 | .O m=>some m
 | _=>none
noncomputable def oM:Option Mode→Option Mode
 | some (.O m)=>some m
 | _=>none
theorem Jbg {o:Option Mode} {m:Mode} (h:oM o=some m):o=some (.O m):=by
 unfold oM at h;split at h
 ·cases h;rfl
 ·cases h
mutual
noncomputable def ckE (S:Sx):Ex→Expr→List Mode→Option (Mode × List Mode)
 | .var i,e,μ=>(J26 e).bind fun x=>(μ[i]?).bind fun m=>grd (nmB S i x && J1k m) (some (m,μ))
 | .fv i,e,μ=>(J26 e).bind fun x=>(μ[i]?).bind fun m=>grd (nmB S i x && decide (nX m)) (some (.F,μ.set i .F))
 | .mv i,e,μ=>(J26 e).bind fun x=>(μ[i]?).bind fun m=>grd (nmB S i x && decide (nX m)) (some (m,μ.set i .U))
 | .int i,e,μ=>(Jdn e).bind fun j=>grd (decide (i=j)) (some (.Z,μ))
 | .bl i,e,μ=>(pBl e).bind fun j=>grd (decide (i=j)) (some (.Z,μ))
 | .non,e,μ=>(Jl2 e).bind fun _=>some (.Z,μ)
 | .str i,e,μ=>(Jl1 e).bind fun j=>grd (decide (i=j)) (some (.Z,μ))
 | .neg a,e,μ=>(Jgc e).bind fun x=>(ckE S a x μ).bind fun r=>some (.Z,r.2)
 | .bin o a b,e,μ=>(Jbd e).bind fun q=>grd (decide (q.2.1=o.oper)) ((ckE S a q.1 μ).bind fun r=>(ckE S b q.2.2 r.2).bind fun t=>(o.md r.1 t.1).bind fun m=>some (m,t.2))
 | .cmp o a b,e,μ=>(Jbe e).bind fun q=>grd (decide (q.2.1=o.oper) && J70 o q.2.2) ((ckE S a q.1 μ).bind fun r=>(ckE S b q.2.2 r.2).bind fun t=>some (.Z,t.2))
 | .ch2 o1 o2 a b c,e,μ=>(Jgd e).bind fun q=>grd (decide (q.2.1=o1.oper) && (decide (q.2.2.2.1=o2.oper) && J70 o2 q.2.2.2.2)) ((ckE S a q.1 μ).bind fun r=>(ckE S b q.2.2.1 r.2).bind fun t=>(ckE S c q.2.2.2.2 t.2).bind fun u=>grd (decide (t.1= .Z) && decide (u.2=t.2)) (some (.Z,t.2)))
 | .glob x d,e,μ=>(J26 e).bind fun y=>grd (decide (y=x) && (glB S x && S.gc.any fun q=>decide (q.1=x) && J3n q.2 d)) (some (.F,μ))
 | .ix a b,e,μ=>(J7n e).bind fun q=>grd (J35 q.2) ((ckE S a q.1 μ).bind fun r=>(ckE S b q.2 r.2).bind fun t=>(ixM r.1).bind fun m=>some (m,t.2))
 | .ifE t a b,e,μ=>(pIf e).bind fun q=>(ckT S t q.1 μ).bind fun μ1=>(ckE S a q.2.1 μ1).bind fun r=>(ckE S b q.2.2 μ1).bind fun s=>grd (decide (r.1=s.1) && decide (r.2=s.2)) (some r)
 | .tup m as,e,μ=>(J8a e).bind fun es=>(ckA S as es μ).bind fun r=>grd ((r.1.all fun x=>EV.sub x m) && (decide (r.2.1= []) && decide (r.1.length≤sizeLine))) (some (.O m,r.2.2))
 | .lst m as,e,μ=>(Jl5 e).bind fun es=>(ckA S as es μ).bind fun r=>grd ((r.1.all fun x=>EV.sub x m) && (decide (r.2.1= []) && decide (r.1.length≤sizeLine))) (some (.O m,r.2.2))
 | .call g as,e,μ=>(J7o e).bind fun q=>grd (glB S q.1 && (decide ((S.fs[g]?).map (·.name)=some q.1) && (q.2.all Ji && !q.2.isEmpty)))
   ((ckA S as q.2 μ).bind fun r=>grd (decide ((S.fs.getD g default).pm=r.1++ (S.fs.getD g default).dms) && decide ((S.fs.getD g default).kn= []) && J6 (J6j r.2.1 (S.fs.getD g default).pm r.2.2) S.μx) (grd (decide ((S.fs.getD g default).cls = "")) (some ((S.fs.getD g default).rm,J6j r.2.1 (S.fs.getD g default).pm r.2.2))))
 | .blt o as,e,μ=>(J7o e).bind fun q=>grd S.calm <| grd (J9n S q.1 && (decide (q.1=o.nm) && (q.2.all Ji && !q.2.isEmpty)))
   ((ckA S as q.2 μ).bind fun r=>grd (decide (r.2.1= [])) ((o.md r.1).bind fun m=>some (m,r.2.2)))
 | .lc own it t c e0,e,μ=>(pLc e).bind fun q=>grd S.calm <| grd (blkC S.N S.sc q.2.2.2.2 (J6n S.N own) && (Jcu q.2.2.1 && decide ((J6n S.N own).map (·.2)=own)))
   ((ckI S it q.2.1 q.2.2.1 μ).bind fun r=>grd (Je r.2 own)
    ((ckG (S.blk q.2.2.2.2 []) (fun i=>own.contains i) t q.2.1 r.1 (J2 r.2 own)).bind fun μt=>grd (Je μt own)
     ((ckC (S.blk q.2.2.2.2 μt) c q.2.2.2.1 μt).bind fun μt'=>grd (decide (μt'=μt))
      ((ckE (S.blk q.2.2.2.2 μt) e0 q.1 μt).bind fun s=>grd (Je s.2 own && (J6 (J2 s.2 own) (J2 r.2 own) && J6 (J2 μt own) (J2 r.2 own))) (some (.O s.1,J2p r.2 (J2 r.2 own) own))))))
 | .minD a b,e,μ=>(Jgg e).bind fun q=>grd S.calm <| grd (J9n S q.1 && (decide (q.1 = "min") && Ji q.2.1)) ((ckE S a q.2.1 μ).bind fun r=>(ckE S b q.2.2 r.2).bind fun t=>grd (decide (r.1= .F) && decide (t.1= .Z)) (some (.Z,t.2)))
 | .app i a,e,μ=>(Jge e).bind fun q=>(J6o q.2.2.1).bind fun y=>grd (nmB S i q.1 && (decide (q.2.1 = "append") && (Ji y && q.2.2.2.1.endLine == q.2.2.2.2.line)))
   ((μ[i]?).bind fun m=>grd (decide (nX m)) ((ckE S a y μ).bind fun r=>grd (decide (r.2[i]? =some (.O r.1))) (some (.Z,r.2))))
 | .sl k a lo hi,e,μ=>(pSl e).bind fun q=>(ckE S a q.1 μ).bind fun r=>(Jbf S r.2 lo q.2.1).bind fun _=>(Jbf S r.2 hi q.2.2).bind fun _=>(slM k r.1).bind fun m=>some (m,r.2)
 | .slP i js lo hi,e,μ=>(pSl e).bind fun q=>(Jgi S μ i js q.1).bind fun _=>(Jbf S μ lo q.2.1).bind fun _=>(Jbf S μ hi q.2.2).bind fun _=>(μ[i]?).bind fun mi=>grd (decide (nX mi)) ((oM (Jaf mi js)).bind fun mc=>grd (J1k mc) (some (.O mc,μ)))
 | .catP i js a,e,μ=>(Jbd e).bind fun q=>grd (decide (q.2.1= .Add)) ((Jgi S μ i js q.1).bind fun _=>(μ[i]?).bind fun mi=>grd (decide (nX mi)) ((oM (Jaf mi js)).bind fun mc=>grd (J1k mc) ((ckE S a q.2.2 (μ.set i .U)).bind fun r=>grd (decide (r.1= .O mc) && decide (r.2[i]? =some .U)) (some (.O mc,r.2.set i mi)))))
 | .dnew m,e,μ=>(Jdq e).bind fun _=>some (.K m,μ)
 | .dget a b,e,μ=>(J7n e).bind fun q=>grd (J35 q.2) ((ckE S a q.1 μ).bind fun r=>(ckE S b q.2 r.2).bind fun t=>grd (decide (r.1= .F) && decide (t.1= .F)) (some (.F,t.2)))
 | .din k a b,e,μ=>(Jbe e).bind fun q=>grd (decide (q.2.1=J7m k) && J8t k q.2.2) ((ckE S a q.1 μ).bind fun r=>(ckE S b q.2.2 r.2).bind fun t=>grd (decide (r.1= .F) && decide (t.1= .F)) (some (.Z,t.2)))
 | .slE a b,e,μ=>(pSl e).bind fun q=>q.2.1.bind fun y=>grd q.2.2.isNone ((ckE S a q.1 μ).bind fun r=>grd (decide (r.1= .F)) ((ckE S b y r.2).bind fun t=>some (.O .F,t.2)))
 | .bor M a,e,μ=>grd (decide (M.length=μ.length)) ((ckE { S with μx:=J7l M μ} a e (J7e M μ)).bind fun r=>grd (closed r.1 && (Jv M r.2 && (Jv M (J7l M μ) && J6 (J44 M μ (J7l M μ)) S.μx))) (some (r.1,J44 M μ r.2)))
 | .frz a,e,μ=>(ckE S a e μ).bind fun r=>some (.F,r.2)
 | .flat a,e,μ=>(ckE S a e μ).bind fun r=>some (.Z,r.2)
 | .sub m a,e,μ=>(ckE S a e μ).bind fun r=>grd (EV.subW r.1 m) (some (m,r.2))
noncomputable def ckV (S:Sx):Ex→Bool→List Expr→List Mode→Option (Mode × List Mode)
 | _,_,_,_=>none
noncomputable def ckA (S:Sx):Ar→List Expr→List Mode→Option (List Mode × Ios × List Mode)
 | .nil,es,μ=>grd es.isEmpty (some ([],[],μ))
 | .e a r,es,μ=>es.head?.bind fun x=>grd (Ji x) ((ckE S a x μ).bind fun p=>(ckA S r es.tail p.2).bind fun q=>some (p.1::q.1,shift q.2.1,q.2.2))
 | .io i r,es,μ=>es.head?.bind fun e=>(J26 e).bind fun x=>(μ[i]?).bind fun m=>grd (nmB S i x && decide (nX m)) ((ckA S r es.tail (μ.set i .U)).bind fun q=>some (m::q.1,(0,i)::shift q.2.1,q.2.2))
 | .ioL i r,es,μ=>es.head?.bind fun e=>(J26 e).bind fun x=>(μ[i]?).bind fun m0=>grd (nmB S i x && decide (nX m0)) ((ckA S r es.tail μ).bind fun q=>(q.2.2[i]?).bind fun m=>grd (decide (nX m)) (some (m::q.1,(0,i)::shift q.2.1,q.2.2.set i .U)))
noncomputable def ckT (S:Sx):Tx→Expr→List Mode→Option (List Mode)
 | .val a,e,μ=>grd (Jpg e) ((ckE S a e μ).bind fun r=>some r.2)
 | .cmp o a b,e,μ=>(Jbe e).bind fun q=>grd (decide (q.2.1=o.oper) && J70 o q.2.2) ((ckE S a q.1 μ).bind fun r=>(ckE S b q.2.2 r.2).bind fun t=>some t.2)
 | .ch2 o1 o2 a b c,e,μ=>(Jgd e).bind fun q=>grd (decide (q.2.1=o1.oper) && (decide (q.2.2.2.1=o2.oper) && J70 o2 q.2.2.2.2)) ((ckE S a q.1 μ).bind fun r=>(ckE S b q.2.2.1 r.2).bind fun t=>(ckE S c q.2.2.2.2 t.2).bind fun u=>grd (decide (t.1= .Z) && decide (u.2=t.2)) (some t.2))
 | .not t,e,μ=>(Jl3 e).bind fun x=>ckT S t x μ
 | .and t u,e,μ=>(pBo e).bind fun q=>grd (decide (q.1= .And)) (q.2.head?.bind fun x=>(ckT S t x μ).bind fun μ1=>match J6o q.2.tail with
  | some y=>(ckT S u y μ1).bind fun μ2=>grd (decide (μ2=μ1)) (some μ2)
  | none=>(ckW S u true q.2.tail μ1).bind fun μ2=>grd (decide (μ2=μ1)) (some μ2))
 | .or t u,e,μ=>(pBo e).bind fun q=>grd (decide (q.1= .Or)) (q.2.head?.bind fun x=>(ckT S t x μ).bind fun μ1=>match J6o q.2.tail with
  | some y=>(ckT S u y μ1).bind fun μ2=>grd (decide (μ2=μ1)) (some μ2)
  | none=>(ckW S u false q.2.tail μ1).bind fun μ2=>grd (decide (μ2=μ1)) (some μ2))
 | .din k a b,e,μ=>(Jbe e).bind fun q=>grd (decide (q.2.1=J7m k) && J8t k q.2.2) ((ckE S a q.1 μ).bind fun r=>(ckE S b q.2.2 r.2).bind fun t=>grd (decide (r.1= .F) && decide (t.1= .F)) (some t.2))
 | .bor M t,e,μ=>grd (decide (M.length=μ.length)) ((ckT { S with μx:=J7l M μ} t e (J7e M μ)).bind fun r=>grd (Jv M r && (Jv M (J7l M μ) && J6 (J44 M μ (J7l M μ)) S.μx)) (some (J44 M μ r)))
noncomputable def ckW (S:Sx):Tx→Bool→List Expr→List Mode→Option (List Mode)
 | .and t u,k,ys,μ=>grd (k && decide (2≤ys.length)) (ys.head?.bind fun x=>(ckT S t x μ).bind fun μ1=>match J6o ys.tail with
  | some y=>(ckT S u y μ1).bind fun μ2=>grd (decide (μ2=μ1)) (some μ2)
  | none=>(ckW S u true ys.tail μ1).bind fun μ2=>grd (decide (μ2=μ1)) (some μ2))
 | .or t u,k,ys,μ=>grd (!k && decide (2≤ys.length)) (ys.head?.bind fun x=>(ckT S t x μ).bind fun μ1=>match J6o ys.tail with
  | some y=>(ckT S u y μ1).bind fun μ2=>grd (decide (μ2=μ1)) (some μ2)
  | none=>(ckW S u false ys.tail μ1).bind fun μ2=>grd (decide (μ2=μ1)) (some μ2))
 | _,_,_,_=>none
noncomputable def ckC (S:Sx):Cx1→List Expr→List Mode→Option (List Mode)
 | .no,es,μ=>grd es.isEmpty (some μ)
 | .one t,es,μ=>(J6o es).bind fun x=>ckT S t x μ
noncomputable def ckI (S:Sx):Ix→Expr→Expr→List Mode→Option (Mode × List Mode)
 | .list a,_,e,μ=>(ckE S a e μ).bind fun r=>grd (decide (r.1= .F)) (some (.F,r.2))
 | .tup a,_,e,μ=>(ckE S a e μ).bind fun r=>grd (decide (r.1= .F)) (some (.F,r.2))
 | .r1 a,_,e,μ=>(J7o e).bind fun q=>(J6o q.2).bind fun y=>grd (J9n S q.1 && (decide (q.1 = "range") && Ji y)) ((ckE S a y μ).bind fun r=>some (.Z,r.2))
 | .zip a b,g,e,μ=>(J8a g).bind fun _=>(J7o e).bind fun q=>(Jl6 q.2).bind fun y=>grd (J9n S q.1 && (decide (q.1 = "zip") && (Ji y.1 && Ji y.2))) ((ckE S a y.1 μ).bind fun r=>(ckE S b y.2 r.2).bind fun t=>grd (decide (r.1= .F) && decide (t.1= .F)) (some (.O .F,t.2)))
 | .enum a,g,e,μ=>(J8a g).bind fun _=>(J7o e).bind fun q=>(J6o q.2).bind fun y=>grd (J9n S q.1 && (decide (q.1 = "enumerate") && Ji y)) ((ckE S a y μ).bind fun r=>grd (decide (r.1= .F)) (some (.O .F,r.2)))
end
noncomputable def Bnd (K:Zf) (fd:FuncData) (ps:List Str) (pm dms:List Mode) (ds:List Value):List Str→Prop
 | []=>Binds K fd ps ds
 | k::r=>KBd K fd ps (pm.length - dms.length - (k::r).length) (k::r) ds
theorem Bnd.nil {K:Zf} {fd:FuncData} {ps:List Str} {pm dms:List Mode} {ds:List Value} {ks:List Str} (h:Bnd K fd ps pm dms ds ks) (e:ks= []):Binds K fd ps ds:=by subst e;exact h
noncomputable def Jno (X:Cx) (f:Fn):Prop:=∃ (k:Nat) (fad:Addr) (fd:FuncData) (ps:List Str) (dvs:List V) (ds:List Value),FnOk X.prog X.w X.K X.mg X.base (L2.CX X.prog X.w) k fad fd ps (spD X.K f.pm f.rm f.F)∧Room k X.A∧X.mg f.name=some (.ref fad)∧PySem.W.keepIn X.K (.ref fad)=true∧Bnd X.K fd ps f.pm f.dms ds f.kn∧Vals dvs ds∧∀B H,Ra X.K B H f.dds f.dms dvs []
noncomputable def Jnp (X:Cx) (f:Fn):Prop:=∃ (k:Nat) (fad:Addr) (fd:FuncData) (ps:List Str) (dvs:List V) (ds:List Value),FnOk X.prog X.w X.K X.mg X.base (L2.CX X.prog X.w) k fad fd ps (spD X.K f.pm f.rm f.F)∧Room k X.A∧Cls X.K (He.ga X.K f.cls)∧Meth X.K (He.ga X.K f.cls) f.name fad∧Bnd X.K fd ps f.pm f.dms ds f.kn∧Vals dvs ds∧∀B H,Ra X.K B H f.dds f.dms dvs []
noncomputable def Jnq (X:Cx) (f:Fn):Prop:=∃ (k:Nat) (fad:Addr) (fd:FuncData) (ps:List Str) (dvs:List V) (ds:List Value) (om0 xm:List Mode),FnOk X.prog X.w X.K X.mg X.base (L2.CX X.prog X.w) k fad fd ps (spX X.K (.B0::f.pm) (f.rm::om0) xm .Z f.F)∧Room (k + 1) X.A∧X.mg f.cls=some (.ref (He.ga X.K f.cls))∧Mk X.K (He.ga X.K f.cls) fad∧Bnd X.K fd ps (.B0::f.pm) f.dms ds f.kn∧Vals dvs ds∧∀B H,Ra X.K B H f.dds f.dms dvs []
noncomputable def Jnr (X:Cx) (f:Fn):Prop:=X.mg f.cls=some (.ref (He.ga X.K f.cls))∧if f.kn= [] then Jm6 X.K (He.ga X.K f.cls) else TabOk X.K X.w X.mg f.cls f.kn
noncomputable def Jns (X:Cx) (f:Fn):Prop:=∃ (k:Nat) (fad:Addr) (fd:FuncData) (ps:List Str) (dvs:List V) (ds:List Value),FnOk X.prog X.w X.K X.mg X.base (L2.CX X.prog X.w) k fad fd ps (spD X.K f.pm f.rm f.F)∧Room (k + 1) X.A∧Cls X.K (He.ga X.K f.cls)∧Meth X.K (He.ga X.K f.cls) f.name fad∧Bnd X.K fd ps f.pm f.dms ds f.kn∧Vals dvs ds∧∀B H,Ra X.K B H f.dds f.dms dvs []
noncomputable def Jnt (X:Cx) (f:Fn):Prop:=∃ (k:Nat) (L:Lv),LeadOk X.prog X.w X.K X.mg X.base k L f.pm f.rm f.F∧Room k X.A∧f.dds= [L.d]
noncomputable def Jah (X:Cx) (f:Fn):Prop:=if f.cls = "" then Jno X f else if f.name = "__init__" then Jnq X f else if f.name = "isinstance" then Jnr X f else if f.name = "__len__" then Jns X f else if f.name = "%lead" then Jnt X f else Jnp X f
structure XOk (S:Sx) (fs:List Fn) (X:Cx) (w:Wh):Prop where
 sg:fs.map Fn.sg=S.fs
 n:X.N=S.N
 nd:S.N.Nodup
 sc:X.env.scope=S.sc
 fnl:∀x,J9m S x=true→X.fn x=true∨X.env.scope.names.lookup x=some .local
 calm:S.calm=true→X.calm=true
 room:X.A.units + 65 < cLine
 fs:∀f∈fs,Jah X f
 bl:∀x∈S.bl,X.mg x=none
 tk:Takes X w.W
 mx:w.μx=S.μx
 ex:∀c w,(c,w)∈S.ex→ExZ X c w
 exm:∀x c b,(x,c,b)∈S.exm→PySem.W.exmOne X.K (.ref (He.ga X.K x)) (.ref (He.ga X.K c))=some b∧X.mg c=some (.ref (He.ga X.K c))
 fl:∀k n,(k,n)∈S.fl→Cls X.K (He.ga X.K k)∧NoAttr X.K (He.ga X.K k) n
 gc:∀x d,(x,d)∈S.gc→GC X.K X.mg x d
 exf:∀c w fl,(c,w,fl)∈S.exf→ExF X c w fl
 xfa:∀c f,(c,f)∈S.xfa→XfF X.K c f
theorem Jds (X:Cx) (μ:List Mode):Takes X (wNo μ).W:=fun u s' ⟨a,B,sI,pins,σ,H,cls,d,e,I,nb,up,sky,na,os,ag,w⟩=>(w:False).elim
section
variable {S:Sx} {fs:List Fn} {X:Cx} {w:Wh}
theorem XOk.bor (o:XOk S fs X w) (μ1:List Mode):XOk { S with μx:=μ1} fs X (w.bor μ1):=⟨o.sg,o.n,o.nd,o.sc,o.fnl,o.calm,o.room,o.fs,o.bl,o.tk,rfl,o.ex,o.exm,o.fl,o.gc,o.exf,o.xfa⟩
theorem Jbh {S:Sx} {x:Str} (h:J9m S x=true):Loc S.sc x:=by
 unfold J9m at h
 rw [Zb] at h
 obtain ⟨h,_⟩:=h
 split at h
 ·exact .inl (by assumption)
 ·exact .inr (by assumption)
 ·cases h
theorem XOk.blk (o:XOk S fs X w) {s:Shared} {H:Hp} {scope:Scope} {C:Addr} {cl:List (Str × Addr)} {fp:List Addr} {μ1:List Mode}:XOk (S.blk scope μ1) fs (X.blk s H scope (compEnvC scope cl C X.env) fp) (wNo μ1):=by
 have e: (compEnvC scope cl C X.env).scope=Jgl S.sc scope:=by rw [← o.sc];rfl
 refine ⟨o.sg,o.n,o.nd,e,fun x h=>?_,o.calm,o.room,o.fs,o.bl,Jds _ _,rfl,(fun _ _ h=>nomatch h),o.exm,o.fl,o.gc,(fun _ _ _ h=>nomatch h),o.xfa⟩
 unfold J9m at h
 rw [Zb] at h
 have h2:=h.2
 change (decide (scope.names.lookup x=some .cell) || decide ((Jgl S.sc scope).names.lookup x=some .local))=true at h2
 rw [Bool.or_eq_true] at h2
 rcases h2 with h2 | h2
 ·exact .inl (by show (scope.names.lookup x == some .cell)=true;rw [Zd h2];rfl)
 ·exact .inr (by show (compEnvC scope cl C X.env).scope.names.lookup x=_;rw [e];exact Zd h2)
theorem J37 (o:XOk S fs X w) {i:Nat} {x:Str} (h:nmB S i x=true):X.N[i]? =some x∧Vis X.env.scope x∧(x == ("__debug__" :Str))=false∧(x == ("__classdict__" :Str))=false:=by
 unfold nmB at h
 rw [Zb,Zb,Zb] at h
 obtain ⟨h1,h2,h3,h4⟩:=h
 refine ⟨by rw [o.n];exact Zd h1,?_,by simpa using h3,by simpa using h4⟩
 rw [o.sc]
 unfold Jq1 at h2
 split at h2
 ·exact .inl (by assumption)
 ·exact .inr (.inl (by assumption))
 ·exact .inr (.inr (by assumption))
 ·cases h2
theorem J8c (o:XOk S fs X w) {x:Str} (h:glB S x=true):Gl X x∧(x == ("__debug__" :Str))=false:=by
 unfold glB at h
 rw [Zb] at h
 refine ⟨?_,by simpa using h.2⟩
 show X.env.scope.names.lookup x=_
 rw [o.sc];exact Zd h.1
theorem J71 (o:XOk S fs X w) {x:Str} (h:J9n S x=true):Gl X x∧X.mg x=none∧(x == ("__debug__" :Str))=false:=by
 unfold J9n at h
 rw [Zb] at h
 have g:=J8c o h.1
 exact ⟨g.1,o.bl x (by simpa using h.2),g.2⟩
theorem DAi.da {μ μ':List Mode} {es:List Expr} {f:Gam→Rz (List D)} {ms:List Mode} (h:DAi X w μ es f ms [] μ'):DA X w μ es f ms μ':=
 ⟨h.pa.imp fun σ H Q ⟨B,Γ,fp,st,q⟩=>⟨B,Γ,fp,st,by
  revert q
  cases f Γ with
  | ok d Γ'=>exact fun q B' H' vs fpv fp' s1 st' r nd _=>q B' H' vs fpv fp' s1 st' r nd
  | exc x Γ'=>exact id
  | bad=>exact id⟩⟩
theorem Jq3 {o:B2} {m1 m2 m:Mode} (h:o.md m1 m2=some m):∃r,OpR X (binaryOp o.oper) r∧OpD X.K r m1 m2 o.op m:=by
 cases o with
 | cat=>
  have: (∃k,m1= .O k∧m2= .O k∧m= .O k)∨(m1= .F∧m2= .F∧m= .O .F):=by
   cases m1 <;> cases m2 <;> first | (cases h;done) | skip
   ·cases h;exact .inr ⟨rfl,rfl,rfl⟩
   ·rename_i a b
    change (if a=b then some (Mode.O a) else none)=some m at h
    split at h
    ·rename_i e;cases h;exact .inl ⟨a,rfl,by rw [e],rfl⟩
    ·cases h
  rcases this with ⟨k,rfl,rfl,rfl⟩ | ⟨rfl,rfl,rfl⟩
  ·exact ⟨_,op_cat,Jmw⟩
  ·exact ⟨_,Jnh,Jki⟩
 | J87=>
  have:m1= .F∧m2= .F∧m= .F:=by
   cases m1 <;> cases m2 <;> first | (cases h;done) | skip
   cases h;exact ⟨rfl,rfl,rfl⟩
  obtain ⟨rfl,rfl,rfl⟩:=this
  exact ⟨_,op_catA,Jkh⟩
 | rep=>
  have: (m1= .O .F∧m2= .Z∧m= .O .F)∨(m1= .O .Z∧m2= .Z∧m= .O .Z):=by
   cases m1 <;> first | (cases h;done) | skip
   rename_i k
   cases k <;> cases m2 <;> first | (cases h;done) | skip
   ·cases h;exact .inr ⟨rfl,rfl,rfl⟩
   ·cases h;exact .inl ⟨rfl,rfl,rfl⟩
  rcases this with ⟨rfl,rfl,rfl⟩ | ⟨rfl,rfl,rfl⟩
  ·exact ⟨_,op_rep,Jey (.inl rfl)⟩
  ·exact ⟨_,op_rep,Jey (.inr rfl)⟩
 | add=>cases h;exact ⟨_,op_add,Jmm⟩
 | sub=>cases h;exact ⟨_,op_sub,Jmn⟩
 | mul=>cases h;exact ⟨_,op_mulW,Jmo⟩
 | div=>cases h;exact ⟨_,op_fdivW,Jmp⟩
 | mod=>cases h;exact ⟨_,op_mod,Jmq⟩
 | pow=>cases h;exact ⟨_,op_pow,Jmr⟩
theorem J72 (hu:X.A.units + 65 < cLine) (o:C2) (m1 m2:Mode):∃r,OpR X (compareOp o.oper) r∧OpD X.K r m1 m2 o.op .Z:=by
 cases o with
 | lt=>exact ⟨_,Jpx (by omega),Jnk⟩
 | le=>exact ⟨_,op_le,Jp6⟩
 | gt=>exact ⟨_,op_gt,Jp7⟩
 | eq=>exact ⟨_,op_eqD (by omega),Jp8⟩
 | ne=>exact ⟨_,op_neD (by omega),Jp9⟩
 | isN=>exact ⟨_,op_isN,Jmt⟩
 | notN=>exact ⟨_,op_notN,Jk5⟩
theorem Jai {k:Bool} {b:Expr} (h:J8t k b=true):behindInMarks (J7m k) b=false:=by
 unfold J8t at h;simpa using h
theorem Jig (hu:X.A.units + 65 < cLine) (k:Bool):∃r,OpR X (compareOp (J7m k)) r∧OpD X.K r .F .F (J9l k) .Z:=by
 cases k with
 | true=>exact ⟨_,Jpp (by omega),Jpu⟩
 | false=>exact ⟨_,Ji1 (by omega),Jnj⟩
theorem J66 {o:C2} {b:Expr} (h:J70 o b=true):behindInMarks o.oper b=false:=by
 unfold J70 at h;simpa using h
theorem Jrn {m1 m2 m:Mode} (h:ixM m1=some m):OpD X.K (rIx X.K) m1 m2 ixO m:=by
 cases m1 <;> first | (cases h;done) | skip
 ·cases h;exact Jmu
 ·cases h;exact Jmv
theorem Jq4 (hu:X.A.units + 65 < cLine) (hc:X.calm=true) {o:BN} {ms:List Mode} {m:Mode} (h:o.md ms=some m):∃r,((∃id,CallR X (.builtin id) r∧bootBuiltins o.nm=some (.builtin id))∨∃T,CallR X (.type T) r∧bootBuiltins o.nm=some (.type T))∧NaD X.K r ms o.op m∧o.nm≠ "__name__" :=by
 have one:∀{k:Mode→Mode},(∃a,ms= [a]∧m=k a)→∃a,ms= [a]∧m=k a:=fun h=>h
 cases o with
 | min2=>
  rcases ms with _ | ⟨a,_ | ⟨b,_ | ⟨c,r⟩⟩⟩ <;> first | (cases h;done) | skip
  cases h
  exact ⟨_,.inl ⟨_,call_min2 hc,rfl⟩,Jk8,by decide⟩
 | len=>
  rcases ms with _ | ⟨a,_ | ⟨b,r⟩⟩ <;> first | (cases h;done) | skip
  cases h
  exact ⟨_,.inl ⟨_,call_len_seq,rfl⟩,Jmz,by decide⟩
 | sum=>
  rcases ms with _ | ⟨a,_ | ⟨b,r⟩⟩ <;> first | (cases h;done) | skip
  cases h
  exact ⟨_,.inl ⟨_,Jn0 hc,rfl⟩,Jn1,by decide⟩
 | min=>
  rcases ms with _ | ⟨a,_ | ⟨b,r⟩⟩ <;> first | (cases h;done) | skip
  cases h
  exact ⟨_,.inl ⟨_,cr_min hc,rfl⟩,Jn2,by decide⟩
 | abs=>
  rcases ms with _ | ⟨a,_ | ⟨b,r⟩⟩ <;> first | (cases h;done) | skip
  cases h
  exact ⟨_,.inl ⟨_,call_abs,rfl⟩,Jn3,by decide⟩
 | int=>
  rcases ms with _ | ⟨a,_ | ⟨b,r⟩⟩ <;> first | (cases h;done) | skip
  cases h
  exact ⟨_,.inr ⟨_,call_int1,rfl⟩,Jng,by decide⟩
 | any=>
  rcases ms with _ | ⟨a,_ | ⟨b,r⟩⟩ <;> first | (cases h;done) | skip
  cases h
  exact ⟨_,.inl ⟨_,cr_any hc,rfl⟩,Jnl,by decide⟩
 | list=>
  rcases ms with _ | ⟨a,_ | ⟨b,r⟩⟩ <;> first | (cases h;done) | skip
  cases h
  exact ⟨_,.inr ⟨_,call_list_of,rfl⟩,Jk9,by decide⟩
noncomputable def Tgs.len:Tgs→Nat
 | .nil=>0
 | .cons _ r=>r.len + 1
theorem J9p:∀{ts:Tgs} {ds:List D} {Γ Γ':Gam},J6l ts ds Γ=some Γ'→ds.length=ts.len
 | .nil,[],_,_,_=>rfl
 | .nil,_::_,_,_,h=>by cases h
 | .cons t r,[],_,_,h=>by cases h
 | .cons t r,d::ds,Γ,Γ',h=>by
  obtain ⟨Γ1,_,h2⟩:=bnd h
  have:=J9p h2
  simp [Tgs.len,this]
theorem J9q {st:Nat→Bool}:∀{ts:Tgs} {es:List Expr} {m:Mode} {μ μ':List Mode},Jdr S st ts es m μ=some μ'→es.length=ts.len
 | .nil,es,m,μ,μ',h=>by
  obtain ⟨c,h⟩:=J1 h
  cases es with
  | nil=>rfl
  | cons _ _=>cases c
 | .cons t r,[],m,μ,μ',h=>by cases h
 | .cons t r,e::es,m,μ,μ',h=>by
  obtain ⟨x,_,h⟩:=bnd h
  obtain ⟨_,h⟩:=J1 h
  obtain ⟨μ1,h1,h⟩:=bnd h
  have:=J9q (es:=es) h
  simp [Tgs.len,this]
theorem Jnu (o:XOk S fs X w) {i:Nat} {k n:Str} {e:Expr} (h:Jq2 S i k n e=some ()):∃z p2 p,e= .Attribute (.Name z p2) n p∧X.N[i]? =some z∧Vis X.env.scope z∧(z == ("__debug__" :Str))=false∧(z == ("__classdict__" :Str))=false∧Cls X.K (He.ga X.K k)∧NoAttr X.K (He.ga X.K k) n:=by
 obtain ⟨⟨x,y⟩,e1,g⟩:=bnd h
 obtain ⟨p,rfl⟩:=J7p e1
 obtain ⟨z,e2,g⟩:=bnd g
 obtain ⟨p2,e3⟩:=Jq e2
 have e3':x= .Name z p2:=e3
 subst e3'
 obtain ⟨c,g⟩:=J1 g
 dsimp only at c
 rw [Zb,Zb] at c
 obtain ⟨c1,c2,c3⟩:=c
 cases Zd c1
 obtain ⟨n1,n2,n3,n4⟩:=J37 o c2
 have f:=o.fl k n (by simpa using c3)
 exact ⟨z,p2,p,rfl,n1,n2,n3,n4,f.1,f.2⟩
theorem Jaj {e1 e2:Expr} {p:Pos} (h:Ji e1=true) (env:Env):assignEach [e1,.Starred e2 p] env= [(false,assign e1 env),(true,assign e2 env)]:=by
 cases e1 <;> first | rfl | cases h
mutual
theorem J5o (o:XOk S fs X w) {P:St→Prop} {st:Nat→Bool} (hp:∀i,st i=true→∀σ s,P σ→P (σ.set i s)):∀ (t:Tg) {e:Expr} {m:Mode} {μ μ':List Mode},ckG S st t e m μ=some μ'→DG X P μ e m (evG t) μ'
 | .nm i,e,m,μ,μ',h=>by
  obtain ⟨x,e1,h⟩:=bnd h
  obtain ⟨p,rfl⟩:=Jq e1
  obtain ⟨c,h⟩:=J1 h
  cases h
  rw [Zb,Zb,Zb] at c
  obtain ⟨c1,c2,c3,c4⟩:=c
  exact DG.name (by rw [o.n];exact o.nd) (by rw [o.n];exact Zd c1) (by rw [o.sc];exact Jbh c2) (o.fnl x c2) (hp i c3) (Zd c4)
 | .tup ts,e,m,μ,μ',h=>by
  obtain ⟨es,e1,h⟩:=bnd h
  obtain ⟨k,p,rfl⟩:=J4c e1
  obtain ⟨c,h⟩:=J1 h
  rw [Zb] at c
  obtain ⟨cc,c⟩:=c
  have hn:=J9q h
  exact DG.tup (o.calm cc) (n:=ts.len) (by rw [← hn];exact Jbi o hp ts h) (by rw [J6y];exact hn) (J5c c _) fun ds Γ Γ' q=>J9p q
 | .lst ts,e,m,μ,μ',h=>by
  obtain ⟨es,e1,h⟩:=bnd h
  obtain ⟨k,p,rfl⟩:=J4c e1
  obtain ⟨c,h⟩:=J1 h
  rw [Zb] at c
  obtain ⟨cc,c⟩:=c
  have hn:=J9q h
  exact DG.lst (o.calm cc) (n:=ts.len) (by rw [← hn];exact Jbi o hp ts h) (by rw [J6y];exact hn) (J5c c _) fun ds Γ Γ' q=>J9p q
 | .fld i k n,e,m,μ,μ',h=>by
  obtain ⟨⟨x,y⟩,e1,g1⟩:=bnd h
  obtain ⟨p,rfl⟩:=J7p e1
  obtain ⟨z,e2,g2⟩:=bnd g1
  obtain ⟨p2,e3⟩:=Jq e2
  have e3':x= .Name z p2:=e3
  subst e3'
  obtain ⟨c,g3⟩:=J1 g2
  obtain ⟨M,hM,g4⟩:=bnd g3
  obtain ⟨M',ea,g5⟩:=bnd g4
  cases g5
  dsimp only at c
  rw [Zb,Zb] at c
  obtain ⟨c1,c2,c3⟩:=c
  cases Zd c1
  obtain ⟨n1,n2,n3,n4⟩:=J37 o c2
  have f:=o.fl k n (by simpa using c3)
  exact DG.fldT n1 n2 n3 n4 hM ea f.1 f.2
 | .fldS i k n,e,m,μ,μ',h=>by
  obtain ⟨_,h0,h⟩:=bnd h
  obtain ⟨M,hM,h⟩:=bnd h
  obtain ⟨cM,h⟩:=J1 h
  obtain ⟨m',hm,h⟩:=bnd h
  obtain ⟨cm,h⟩:=J1 h
  cases h
  cases Zd cm
  obtain ⟨z,p2,p,rfl,n1,n2,n3,n4,f1,f2⟩:=Jnu o h0
  exact DG.fldS n1 n2 n3 n4 hM (Zd cM) hm f1 f2
 | .star t r,e,m,μ,μ',h=>by
  obtain ⟨es,e1,g1⟩:=bnd h
  obtain ⟨k,p,rfl⟩:=J4c e1
  obtain ⟨⟨x1,x2⟩,e2,g2⟩:=bnd g1
  obtain ⟨p2,rfl⟩:=Jgk e2
  obtain ⟨c,g3⟩:=J1 g2
  obtain ⟨μ1,h1,g4⟩:=bnd g3
  rw [Zb,Zb] at c
  cases Zd c.2.1
  exact DG.star (o.calm c.1) (J5o o hp t h1) (J5o o hp r g4) (Jaj c.2.2 _)
theorem Jbi (o:XOk S fs X w) {P:St→Prop} {st:Nat→Bool} (hp:∀i,st i=true→∀σ s,P σ→P (σ.set i s)):∀ (ts:Tgs) {es:List Expr} {m:Mode} {μ μ':List Mode},Jdr S st ts es m μ=some μ'→DGs X P μ es (List.replicate es.length m) (J6l ts) μ'
 | .nil,es,m,μ,μ',h=>by
  obtain ⟨c,h⟩:=J1 h
  cases h
  cases es with
  | nil=>exact DGs.nil
  | cons _ _=>cases c
 | .cons t r,[],m,μ,μ',h=>by cases h
 | .cons t r,e::es,m,μ,μ',h=>by
  obtain ⟨x,e1,h⟩:=bnd h
  cases e1
  obtain ⟨c,h⟩:=J1 h
  obtain ⟨μ1,h1,h⟩:=bnd h
  exact DGs.cons (J5o o hp t h1) (Jbi o hp r h) (Ja8 c es _)
end
end
theorem Jq5 {o:Option Mode} (h:oOk o=true):∃m,o=some m∧nX m:=by
 unfold oOk at h;split at h
 ·exact ⟨_,rfl,Zd h⟩
 ·cases h
section
variable {S:Sx} {fs:List Fn} {X:Cx} {w:Wh}
theorem J3l (o:XOk S fs X w) {μ:List Mode}:∀{p:Px} {e:Expr},J6m S μ p e=some ()→DPx X μ e (Jl p)
 | .int i,e,h=>by
  obtain ⟨x,e1,g⟩:=bnd h
  obtain ⟨k,p,rfl⟩:=J8b e1
  obtain ⟨c,g⟩:=J1 g
  cases Zd c
  exact DPx.int
 | .neg i,e,h=>by
  obtain ⟨x,e1,g0⟩:=bnd h
  obtain ⟨p,rfl⟩:=Jc8 e1
  obtain ⟨y,e2,g⟩:=bnd g0
  obtain ⟨k,p2,rfl⟩:=J8b e2
  obtain ⟨c,g⟩:=J1 g
  cases Zd c
  exact DPx.neg
 | .var i,e,h=>by
  obtain ⟨x,e1,g⟩:=bnd h
  obtain ⟨p,rfl⟩:=Jq e1
  obtain ⟨c,g⟩:=J1 g
  rw [Zb] at c
  obtain ⟨n1,n2,n3,n4⟩:=J37 o c.1
  exact DPx.var n1 n2 n3 n4 (Jq5 c.2)
 | .add a b,e,h=>by
  obtain ⟨⟨x,op,y⟩,e1,g⟩:=bnd h
  obtain ⟨p,rfl⟩:=J64 e1
  obtain ⟨c,g⟩:=J1 g
  obtain ⟨_,h1,g⟩:=bnd g
  have c':op= .Add:=Zd c
  subst c'
  exact DPx.add (J3l o h1) (J3l o g)
 | .sub a b,e,h=>by
  obtain ⟨⟨x,op,y⟩,e1,g⟩:=bnd h
  obtain ⟨p,rfl⟩:=J64 e1
  obtain ⟨c,g⟩:=J1 g
  obtain ⟨_,h1,g⟩:=bnd g
  have c':op= .Sub:=Zd c
  subst c'
  exact DPx.sub (J3l o h1) (J3l o g)
theorem Jbj (o:XOk S fs X w) {μ:List Mode} {i:Nat}:∀{js:List Px} {e:Expr},Jgi S μ i js e=some ()→DPl X μ e i (Jbc js)
 | [],e,h=>by
  obtain ⟨x,e1,g⟩:=bnd h
  obtain ⟨p,rfl⟩:=Jq e1
  obtain ⟨c,g⟩:=J1 g
  obtain ⟨n1,n2,n3,n4⟩:=J37 o c
  exact DPl.name n1 n2 n3 n4
 | j::r,e,h=>by
  obtain ⟨⟨x,y⟩,e1,g⟩:=bnd h
  obtain ⟨p,rfl⟩:=J36 e1
  obtain ⟨c,g⟩:=J1 g
  obtain ⟨_,h1,g⟩:=bnd g
  exact DPl.ix (Jbj o h1) (J3l o g) (J2c c)
theorem J8u (o:XOk S fs X w) {μ:List Mode} {p:Option Px} {e:Option Expr} (h:Jbf S μ p e=some ()):DPo X μ e (p.map Jl):=by
 unfold Jbf at h
 split at h
 ·exact DPo.none
 ·exact DPo.some (J3l o h)
 ·cases h
theorem Jq6 {k:Bool} {m m':Mode} (h:slM k m=some m'):∃r,L2.SlR X r∧SlD X.K r m (if k=true then J2v else J85) m':=by
 unfold slM at h
 split at h
 ·rename_i e
  cases h
  exact ⟨_,sl_list,by rw [if_pos e];exact Jd7⟩
 ·rename_i e0
  split at h
  ·rename_i e;cases e;cases h
   exact ⟨_,sl_tupA,by rw [if_neg e0];exact Jn4⟩
  ·cases h
end
theorem J7q {es:List Expr} {x:Expr} (h:es.head? =some x):es=x::es.tail:=by
 cases es with
 | nil=>cases h
 | cons a r=>cases h;rfl
section
mutual
theorem J3:∀ (x:Ex) {S:Sx} {fs:List Fn} {X:Cx} {w:Wh} {e:Expr} {μ:List Mode} {r:Mode × List Mode},XOk S fs X w→ckE S x e μ=some r→DE X w μ e (ev fs x) r.1 r.2
 | .var i,S,fs,X,w,e,μ,r,o,h=>by
  obtain ⟨x,e1,g⟩:=bnd h
  obtain ⟨p,rfl⟩:=Jq e1
  obtain ⟨m,hm,g⟩:=bnd g
  obtain ⟨c,g⟩:=J1 g
  cases g
  rw [Zb] at c
  obtain ⟨n1,n2,n3,n4⟩:=J37 o c.1
  exact DE.var n1 n2 n3 n4 hm c.2
 | .fv i,S,fs,X,w,e,μ,r,o,h=>by
  obtain ⟨x,e1,g⟩:=bnd h
  obtain ⟨p,rfl⟩:=Jq e1
  obtain ⟨m,hm,g⟩:=bnd g
  obtain ⟨c,g⟩:=J1 g
  cases g
  rw [Zb] at c
  obtain ⟨n1,n2,n3,n4⟩:=J37 o c.1
  exact DE.fv n1 n2 n3 n4 hm (Zd c.2)
 | .mv i,S,fs,X,w,e,μ,r,o,h=>by
  obtain ⟨x,e1,g⟩:=bnd h
  obtain ⟨p,rfl⟩:=Jq e1
  obtain ⟨m,hm,g⟩:=bnd g
  obtain ⟨c,g⟩:=J1 g
  cases g
  rw [Zb] at c
  obtain ⟨n1,n2,n3,n4⟩:=J37 o c.1
  exact DE.mv n1 n2 n3 n4 hm (Zd c.2)
 | .int i,S,fs,X,w,e,μ,r,o,h=>by
  obtain ⟨x,e1,g⟩:=bnd h
  obtain ⟨k,p,rfl⟩:=J8b e1
  obtain ⟨c,g⟩:=J1 g
  cases g
  cases Zd c
  exact DE.int
 | .bl i,S,fs,X,w,e,μ,r,o,h=>by
  obtain ⟨x,e1,g⟩:=bnd h
  obtain ⟨k,p,rfl⟩:=Jl0 e1
  obtain ⟨c,g⟩:=J1 g
  cases g
  cases Zd c
  exact DE.bl
 | .non,S,fs,X,w,e,μ,r,o,h=>by
  obtain ⟨x,e1,g⟩:=bnd h
  obtain ⟨k,p,rfl⟩:=Jic e1
  cases g
  exact DE.non
 | .str i,S,fs,X,w,e,μ,r,o,h=>by
  obtain ⟨x,e1,g⟩:=bnd h
  obtain ⟨k,p,rfl⟩:=Jib e1
  obtain ⟨c,g⟩:=J1 g
  cases g
  cases Zd c
  exact DE.str
 | .neg a,S,fs,X,w,e,μ,r,o,h=>by
  obtain ⟨x,e1,g⟩:=bnd h
  obtain ⟨p,rfl⟩:=Jc8 e1
  obtain ⟨r1,h1,g⟩:=bnd g
  cases g
  have q:=J3 a o h1
  exact DE.un un_neg Jms q
 | .bin b2 a b,S,fs,X,w,e,μ,r,o,h=>by
  obtain ⟨⟨x,op,y⟩,e1,g⟩:=bnd h
  obtain ⟨p,rfl⟩:=J64 e1
  obtain ⟨c,g⟩:=J1 g
  obtain ⟨r1,h1,g⟩:=bnd g
  obtain ⟨r2,h2,g⟩:=bnd g
  obtain ⟨m,h3,g⟩:=bnd g
  cases g
  have c':op=b2.oper:=Zd c
  subst c'
  obtain ⟨q,q1,q2⟩:=Jq3 (X:=X) h3
  exact DE.op2 q1 q2 (J3 a o h1) (J3 b o h2)
 | .cmp c2 a b,S,fs,X,w,e,μ,r,o,h=>by
  obtain ⟨⟨x,op,y⟩,e1,g⟩:=bnd h
  obtain ⟨p,rfl⟩:=J65 e1
  obtain ⟨c,g⟩:=J1 g
  obtain ⟨r1,h1,g⟩:=bnd g
  obtain ⟨r2,h2,g⟩:=bnd g
  cases g
  rw [Zb] at c
  have c':op=c2.oper:=Zd c.1
  subst c'
  obtain ⟨q,q1,q2⟩:=J72 (X:=X) o.room c2 r1.1 r2.1
  exact DE.cmp q1 (J66 c.2) q2 (J3 a o h1) (J3 b o h2)
 | .ch2 o1 o2 a b cc,S,fs,X,w,e,μ,r,o,h=>by
  obtain ⟨⟨x,op,y,op',z⟩,e1,g⟩:=bnd h
  obtain ⟨p,rfl⟩:=Jc9 e1
  obtain ⟨c,g⟩:=J1 g
  obtain ⟨r1,h1,g⟩:=bnd g
  obtain ⟨⟨m2,μ2⟩,h2,g⟩:=bnd g
  obtain ⟨⟨m3,μ3⟩,h3,g⟩:=bnd g
  obtain ⟨c2,g⟩:=J1 g
  cases g
  rw [Zb,Zb] at c
  rw [Zb] at c2
  have c1':op=o1.oper:=Zd c.1
  have c2':op'=o2.oper:=Zd c.2.1
  have d1:m2= .Z:=Zd c2.1
  have d2:μ3=μ2:=Zd c2.2
  subst c1' c2' d1 d2
  obtain ⟨q,q1,q2⟩:=J72 (X:=X) o.room o1 r1.1 .Z
  obtain ⟨q',q1',q2'⟩:=J72 (X:=X) o.room o2 .Z m3
  exact DE.ch2 q1 q2 q1' q2' (J3 a o h1) (J3 b o h2) (J3 cc o h3) (J66 c.2.2)
 | .glob x d,S,fs,X,w,e,μ,r,o,h=>by
  obtain ⟨y,e1,g⟩:=bnd h
  obtain ⟨p,rfl⟩:=Jq e1
  obtain ⟨c,g⟩:=J1 g
  cases g
  rw [Zb,Zb,List.any_eq_true] at c
  obtain ⟨c1,c2,⟨q,d'⟩,hq,c3⟩:=c
  rw [Zb] at c3
  have c1':y=x:=Zd c1
  have c3':q=x:=Zd c3.1
  have c4:=J6z _ _ c3.2
  dsimp only at c3' c4
  subst c1' c3' c4
  obtain ⟨g1,g2⟩:=J8c o c2
  exact DE.glob g1 g2 (o.gc _ _ hq)
 | .ix a b,S,fs,X,w,e,μ,r,o,h=>by
  obtain ⟨⟨x,y⟩,e1,g⟩:=bnd h
  obtain ⟨p,rfl⟩:=J36 e1
  obtain ⟨c,g⟩:=J1 g
  obtain ⟨r1,h1,g⟩:=bnd g
  obtain ⟨r2,h2,g⟩:=bnd g
  obtain ⟨m,h3,g⟩:=bnd g
  cases g
  have q1:=J3 a o h1
  have q2:=J3 b o h2
  exact DE.ix ix_seq (J2c c) (Jrn h3) q1 q2
 | .ifE t a b,S,fs,X,w,e,μ,r,o,h=>by
  obtain ⟨⟨c0,x,y⟩,e1,g⟩:=bnd h
  obtain ⟨p,rfl⟩:=Jl4 e1
  obtain ⟨μ1,h0,g⟩:=bnd g
  obtain ⟨r1,h1,g⟩:=bnd g
  obtain ⟨r2,h2,g⟩:=bnd g
  obtain ⟨c,g⟩:=J1 g
  cases g
  rw [Zb] at c
  have q:=J3 b o h2
  rw [← Zd c.1,← Zd c.2] at q
  exact DE.ifE (J1a t o h0) (J3 a o h1) q
 | .tup m as,S,fs,X,w,e,μ,r,o,h=>by
  obtain ⟨es,e1,g⟩:=bnd h
  obtain ⟨k,p,rfl⟩:=J4c e1
  obtain ⟨⟨ms,ios,μ1⟩,h1,g⟩:=bnd g
  obtain ⟨c,g⟩:=J1 g
  cases g
  rw [Zb,Zb] at c
  have q:=(J5p as o h1).1
  rw [show ios= [] from Zd c.2.1] at q
  exact DE.disp (Jmx c.1 (Zd c.2.2)) q.da
 | .lst m as,S,fs,X,w,e,μ,r,o,h=>by
  obtain ⟨es,e1,g⟩:=bnd h
  obtain ⟨p,rfl⟩:=Jie e1
  obtain ⟨⟨ms,ios,μ1⟩,h1,g⟩:=bnd g
  obtain ⟨c,g⟩:=J1 g
  cases g
  rw [Zb,Zb] at c
  have q:=(J5p as o h1).1
  rw [show ios= [] from Zd c.2.1] at q
  exact DE.displ (Jmy c.1 (Zd c.2.2)) q.da
 | .call gi as,S,fs,X,w,e,μ,r,o,h=>by
  obtain ⟨⟨x,es⟩,e1,g⟩:=bnd h
  obtain ⟨p,q,rfl⟩:=J4k e1
  obtain ⟨c,g⟩:=J1 g
  obtain ⟨⟨ms,ios,μ1⟩,h1,g⟩:=bnd g
  obtain ⟨c2,g⟩:=J1 g
  obtain ⟨cc,g⟩:=J1 g
  cases g
  rw [Zb,Zb,Zb] at c
  obtain ⟨c0,cn,cs,ce⟩:=c
  rw [Zb,Zb] at c2
  obtain ⟨g1,g2⟩:=J8c o c0
  have cn':=Zd cn
  obtain ⟨q1,q2⟩:=J5p as o h1
  cases es with
  | nil=>cases ce
  | cons a es=>
   cases hg:S.fs[gi]? with
   | none=>rw [hg] at cn';cases cn'
   | some sg=>
    rw [hg] at cn'
    have cx0:sg.name=x:=by simpa using cn'
    have hd0:S.fs.getD gi default=sg:=by rw [Zg,hg];rfl
    rw [← o.sg,List.getElem?_map] at hg
    cases hf:fs[gi]? with
    | none=>rw [hf] at hg;cases hg
    | some f=>
    rw [hf] at hg
    have ef:f.sg=sg:=by simpa using hg
    subst ef
    have cx:f.name=x:=cx0
    have hd:fs.getD gi default=f:=by rw [Zg,hf];rfl
    have hcl:f.cls = "" :=by rw [hd0] at cc;exact Zd cc
    have hgood:=o.fs f (List.mem_of_getElem? hf)
    unfold Jah at hgood
    rw [if_pos hcl] at hgood
    obtain ⟨k,fad,fd,ps,dvs,ds,F,hr,hm,hk,hb,hv,hdef⟩:=hgood
    dsimp only at c2 ⊢
    rw [hd0] at c2 ⊢
    have he:=J1l (by simpa using (List.all_eq_true.mp cs) a (Zs ..)) es X.env
    have hp:es.all Ji=true:=by
     rw [List.all_cons,Zb] at cs;exact cs.2
    have:=DE.call (X:=X) (w:=w) F hr g1 (by rw [← cx];exact hm) hk (hb.nil (Zd c2.1.2)) hv o.tk hdef (Zd c2.1.1) (by rw [o.mx];exact c2.2) q1 (p:=p) g2 he (star_any hp q X.env)
    show DE X w μ _ (J8q (fs.getD gi default).F (J1x as) (fs.getD gi default).dds (evA fs as)) _ _
    rw [hd,q2]
    exact this
 | .slP i js lo hi,S,fs,X,w,e,μ,r,o,h=>by
  obtain ⟨⟨x,l,k⟩,e1,g⟩:=bnd h
  obtain ⟨p,q,rfl⟩:=J9o e1
  obtain ⟨_,h1,g⟩:=bnd g
  obtain ⟨_,h2,g⟩:=bnd g
  obtain ⟨_,h3,g⟩:=bnd g
  obtain ⟨mi,em,g⟩:=bnd g
  obtain ⟨c,g⟩:=J1 g
  obtain ⟨mc,g1,g⟩:=bnd g
  obtain ⟨c2,g⟩:=J1 g
  cases g
  exact DE.slP (Jbj o h1) em (Zd c) (fun Γ s e=>J89 e (Jbg g1)) c2 (J8u o h2) (J8u o h3)
 | .catP i js a,S,fs,X,w,e,μ,r,o,h=>by
  obtain ⟨⟨x,op,y⟩,e1,g⟩:=bnd h
  obtain ⟨p,rfl⟩:=J64 e1
  obtain ⟨c0,g⟩:=J1 g
  obtain ⟨_,h1,g⟩:=bnd g
  obtain ⟨mi,em,g⟩:=bnd g
  obtain ⟨c,g⟩:=J1 g
  obtain ⟨mc,g1,g⟩:=bnd g
  obtain ⟨c2,g⟩:=J1 g
  obtain ⟨⟨m1,μ1⟩,h2,g⟩:=bnd g
  obtain ⟨c3,g⟩:=J1 g
  cases g
  rw [Zb] at c3
  cases Zd c0
  cases Zd c3.1
  exact DE.catP (Jbj o h1) em (Zd c) (fun Γ s e=>J89 e (Jbg g1)) c2 (J3 a o h2) (Zd c3.2)
 | .minD a b,S,fs,X,w,e,μ,r,o,h=>by
  obtain ⟨⟨x,ea,eb⟩,e1,g⟩:=bnd h
  obtain ⟨p,kp,q,rfl⟩:=Jgh e1
  obtain ⟨cc,g⟩:=J1 g
  obtain ⟨c,g⟩:=J1 g
  obtain ⟨⟨m1,μ1⟩,h1,g⟩:=bnd g
  obtain ⟨⟨m2,μ2⟩,h2,g⟩:=bnd g
  obtain ⟨c2,g⟩:=J1 g
  cases g
  dsimp only at *
  rw [Zb,Zb] at c
  rw [Zb] at c2
  obtain ⟨g1,g2,g3⟩:=J71 o c.1
  cases Zd c.2.1
  cases Zd c2.1
  cases Zd c2.2
  exact DE.minD (o.calm cc) g1 g2 (J3 a o h1) (J3 b o h2) (J1l c.2.2 _ _)
 | .dnew m,S,fs,X,w,e,μ,r,o,h=>by
  obtain ⟨_,e1,g⟩:=bnd h
  obtain ⟨p,rfl⟩:=Jem e1
  cases g
  exact DE.dnew
 | .dget a b,S,fs,X,w,e,μ,r,o,h=>by
  obtain ⟨⟨x,y⟩,e1,g⟩:=bnd h
  obtain ⟨p,rfl⟩:=J36 e1
  obtain ⟨c,g⟩:=J1 g
  obtain ⟨⟨m1,μ1⟩,h1,g⟩:=bnd g
  obtain ⟨⟨m2,μ2⟩,h2,g⟩:=bnd g
  obtain ⟨c2,g⟩:=J1 g
  cases g
  dsimp only at *
  rw [Zb] at c2
  cases Zd c2.1
  cases Zd c2.2
  have q1:=J3 a o h1
  have q2:=J3 b o h2
  exact DE.ix (Jrl (by have:=o.room;omega)) (J2c c) Jni q1 q2
 | .din k a b,S,fs,X,w,e,μ,r,o,h=>by
  obtain ⟨⟨x,op,y⟩,e1,g⟩:=bnd h
  obtain ⟨p,rfl⟩:=J65 e1
  obtain ⟨c,g⟩:=J1 g
  obtain ⟨⟨m1,μ1⟩,h1,g⟩:=bnd g
  obtain ⟨⟨m2,μ2⟩,h2,g⟩:=bnd g
  obtain ⟨c2,g⟩:=J1 g
  cases g
  dsimp only at *
  rw [Zb] at c c2
  cases Zd c2.1
  cases Zd c2.2
  have c':op=J7m k:=Zd c.1
  subst c'
  obtain ⟨q,q1,q2⟩:=Jig (X:=X) o.room k
  exact DE.cmp q1 (Jai c.2) q2 (J3 a o h1) (J3 b o h2)
 | .slE a b,S,fs,X,w,e,μ,r,o,h=>by
  obtain ⟨⟨x,l,k⟩,e1,g⟩:=bnd h
  obtain ⟨p,q,rfl⟩:=J9o e1
  obtain ⟨y,e2,g⟩:=bnd g
  obtain ⟨c,g⟩:=J1 g
  obtain ⟨⟨m1,μ1⟩,h1,g⟩:=bnd g
  obtain ⟨c1,g⟩:=J1 g
  obtain ⟨⟨m2,μ2⟩,h2,g⟩:=bnd g
  cases g
  dsimp only at *
  subst e2
  cases Zd c1
  cases k with
  | some _=>cases c
  | none=>exact DE.slE (J3 a o h1) (J3 b o h2)
 | .blt b as,S,fs,X,w,e,μ,r,o,h=>by
  obtain ⟨⟨x,es⟩,e1,g⟩:=bnd h
  obtain ⟨p,q,rfl⟩:=J4k e1
  obtain ⟨cc,g⟩:=J1 g
  obtain ⟨c,g⟩:=J1 g
  obtain ⟨⟨ms,ios,μ1⟩,h1,g⟩:=bnd g
  obtain ⟨c2,g⟩:=J1 g
  obtain ⟨m,h3,g⟩:=bnd g
  cases g
  rw [Zb,Zb,Zb] at c
  obtain ⟨c0,cn,cs,ce⟩:=c
  obtain ⟨g1,g2,g3⟩:=J71 o c0
  have cn':x=b.nm:=Zd cn
  subst cn'
  have q1:=(J5p as o h1).1
  rw [show ios= [] from Zd c2] at q1
  cases es with
  | nil=>cases ce
  | cons a es=>
   have he:=J1l (by simpa using (List.all_eq_true.mp cs) a (Zs ..)) es X.env
   have hp:es.all Ji=true:=by
    rw [List.all_cons,Zb] at cs;exact cs.2
   obtain ⟨r,hr,nd,nn⟩:=Jq4 o.room (o.calm cc) h3
   rcases hr with ⟨id,cr,hb⟩ | ⟨T,cr,hb⟩
   ·exact DE.callB cr g1 g2 hb nn g3 nd q1.da he (star_any hp q X.env)
   ·exact DE.callTy cr g1 g2 hb nn g3 nd q1.da he (star_any hp q X.env)
 | .lc own it t c e0,S,fs,X,w,e,μ,r,o,h=>by
  obtain ⟨⟨elt,tg,iter,ifs,scope⟩,e1,g⟩:=bnd h
  obtain ⟨p,rfl⟩:=Jdp e1
  obtain ⟨cc,g⟩:=J1 g
  obtain ⟨c1,g⟩:=J1 g
  obtain ⟨⟨m,μ1⟩,h1,g⟩:=bnd g
  obtain ⟨c2,g⟩:=J1 g
  obtain ⟨μt,h2,g⟩:=bnd g
  obtain ⟨c3,g⟩:=J1 g
  obtain ⟨μt',h3,g⟩:=bnd g
  obtain ⟨c4,g⟩:=J1 g
  obtain ⟨⟨me,μe⟩,h4,g⟩:=bnd g
  obtain ⟨c5,g⟩:=J1 g
  cases g
  dsimp only at *
  rw [Zd c4] at h3
  rw [Zb,Zb] at c1 c5
  have eo: (J6n S.N own).map (·.2)=own:=Zd c1.2.2
  have ok:BlkOk X.N X.env.scope scope (J6n S.N own):=by rw [o.n,o.sc];exact blkOk_by c1.1
  have:=DE.lc (X:=X) (w:=w) (own:=J6n S.N own) (pos:=p) (μ:=μ) (t:=evG t) (m:=m) (μt:=μt) (me:=me) (μe:=μe) (fe:=ev fs e0) (tt:=evC fs c) (μ1:=μ1) (o.calm cc) (by rw [o.n];exact o.nd) ok (Jdt it o h1) (by rw [eo];exact c2) (by rw [eo];exact c5.1) (by rw [eo];exact c3) (by rw [eo];exact c5.2.1) (by rw [eo];exact c5.2.2)
   (fun s H C cl fp σ0=>by rw [eo];exact J5o (S:=S.blk scope []) (w:=wNo []) o.blk (st:=fun i=>own.contains i) (P:=fun τ=>L2.wipe τ own=L2.wipe σ0 own) (fun i hi σ s hq=>by show L2.wipe (σ.set i s) own=_;rw [J9f (by simpa using hi)];exact hq) t h2)
   (fun s H C cl fp=>Jih c (S:=S.blk scope μt) o.blk h3) (fun s H C cl fp=>J3 e0 (S:=S.blk scope μt) o.blk h4) (Jb8 c1.2.1 _)
  rw [eo] at this
  exact this
 | .app i a,S,fs,X,w,e,μ,r,o,h=>by
  obtain ⟨⟨x,n,es,p,q⟩,e1,g⟩:=bnd h
  obtain ⟨p0,rfl⟩:=Jgf e1
  obtain ⟨y,e2,g⟩:=bnd g
  obtain ⟨c,g⟩:=J1 g
  obtain ⟨m,hm,g⟩:=bnd g
  obtain ⟨cm,g⟩:=J1 g
  obtain ⟨r1,h1,g⟩:=bnd g
  obtain ⟨cr,g⟩:=J1 g
  cases g
  dsimp only at *
  rw [Zb,Zb,Zb] at c
  obtain ⟨c0,cn,cy,cl⟩:=c
  obtain ⟨n1,n2,n3,n4⟩:=J37 o c0
  cases Zd cn
  cases J2m e2
  exact DE.append n1 n2 n3 n4 hm (Zd cm) (J3 a o h1) (Zd cr) rfl (Jnd cy q X.env) cl (J1l cy [] X.env) rfl
 | .sl k a lo hi,S,fs,X,w,e,μ,r,o,h=>by
  obtain ⟨⟨x,elo,ehi⟩,e1,g⟩:=bnd h
  obtain ⟨p,p2,rfl⟩:=J9o e1
  obtain ⟨r1,h1,g⟩:=bnd g
  obtain ⟨_,h2,g⟩:=bnd g
  obtain ⟨_,h3,g⟩:=bnd g
  obtain ⟨m,h4,g⟩:=bnd g
  cases g
  obtain ⟨rr,q1,q2⟩:=Jq6 (X:=X) h4
  exact DE.slice q1 q2 (J3 a o h1) (J8u o h2) (J8u o h3)
 | .bor M a,S,fs,X,w,e,μ,r,o,h=>by
  obtain ⟨c,g⟩:=J1 h
  obtain ⟨r1,h1,g⟩:=bnd g
  obtain ⟨c2,g⟩:=J1 g
  cases g
  rw [Zb,Zb,Zb] at c2
  exact DE.bor (Zd c) (J3 a (S:={ S with μx:=J7l M μ}) (o.bor _) h1) c2.1 c2.2.1 c2.2.2.1 (by rw [o.mx];exact c2.2.2.2)
 | .frz a,S,fs,X,w,e,μ,r,o,h=>by
  obtain ⟨r1,h1,g⟩:=bnd h
  cases g
  have q:=J3 a o h1
  exact DE.frz q
 | .flat a,S,fs,X,w,e,μ,r,o,h=>by
  obtain ⟨r1,h1,g⟩:=bnd h
  cases g
  have q:=J3 a o h1
  exact DE.flat q
 | .sub m a,S,fs,X,w,e,μ,r,o,h=>by
  obtain ⟨r1,h1,g⟩:=bnd h
  obtain ⟨c,g⟩:=J1 g
  cases g
  have q:=J3 a o h1
  exact DE.subW q c
theorem Jt5:∀ (x:Ex) {S:Sx} {fs:List Fn} {X:Cx} {w:Wh} {k:Bool} {ys:List Expr} {μ:List Mode} {r:Mode × List Mode},XOk S fs X w→∀pos,ckV S x k ys μ=some r→∃y ys',ys=y::ys'∧True∧DE X w μ (.BoolOp (if k=true then .And else .Or) (y::ys') pos) (ev fs x) r.1 r.2
 | .var _,_,_,_,_,_,_,_,_,_,_,h=>by cases h
 | .fv _,_,_,_,_,_,_,_,_,_,_,h=>by cases h
 | .mv _,_,_,_,_,_,_,_,_,_,_,h=>by cases h
 | .int _,_,_,_,_,_,_,_,_,_,_,h=>by cases h
 | .bl _,_,_,_,_,_,_,_,_,_,_,h=>by cases h
 | .non,_,_,_,_,_,_,_,_,_,_,h=>by cases h
 | .str _,_,_,_,_,_,_,_,_,_,_,h=>by cases h
 | .neg _,_,_,_,_,_,_,_,_,_,_,h=>by cases h
 | .bin _ _ _,_,_,_,_,_,_,_,_,_,_,h=>by cases h
 | .cmp _ _ _,_,_,_,_,_,_,_,_,_,_,h=>by cases h
 | .ix _ _,_,_,_,_,_,_,_,_,_,_,h=>by cases h
 | .ch2 _ _ _ _ _,_,_,_,_,_,_,_,_,_,_,h=>by cases h
 | .glob _ _,_,_,_,_,_,_,_,_,_,_,h=>by cases h
 | .ifE _ _ _,_,_,_,_,_,_,_,_,_,_,h=>by cases h
 | .tup _ _,_,_,_,_,_,_,_,_,_,_,h=>by cases h
 | .lst _ _,_,_,_,_,_,_,_,_,_,_,h=>by cases h
 | .call _ _,_,_,_,_,_,_,_,_,_,_,h=>by cases h
 | .blt _ _,_,_,_,_,_,_,_,_,_,_,h=>by cases h
 | .lc _ _ _ _ _,_,_,_,_,_,_,_,_,_,_,h=>by cases h
 | .minD _ _,_,_,_,_,_,_,_,_,_,_,h=>by cases h
 | .slP _ _ _ _,_,_,_,_,_,_,_,_,_,_,h=>by cases h
 | .catP _ _ _,_,_,_,_,_,_,_,_,_,_,h=>by cases h
 | .app _ _,_,_,_,_,_,_,_,_,_,_,h=>by cases h
 | .dnew _,_,_,_,_,_,_,_,_,_,_,h=>by cases h
 | .dget _ _,_,_,_,_,_,_,_,_,_,_,h=>by cases h
 | .din _ _ _,_,_,_,_,_,_,_,_,_,_,h=>by cases h
 | .slE _ _,_,_,_,_,_,_,_,_,_,_,h=>by cases h
 | .bor _ _,_,_,_,_,_,_,_,_,_,_,h=>by cases h
 | .sl _ _ _ _,_,_,_,_,_,_,_,_,_,_,h=>by cases h
 | .frz _,_,_,_,_,_,_,_,_,_,_,h=>by cases h
 | .flat _,_,_,_,_,_,_,_,_,_,_,h=>by cases h
 | .sub _ _,_,_,_,_,_,_,_,_,_,_,h=>by cases h
theorem J5p:∀ (x:Ar) {S:Sx} {fs:List Fn} {X:Cx} {w:Wh} {es:List Expr} {μ:List Mode} {r:List Mode × Ios × List Mode},XOk S fs X w→ckA S x es μ=some r→DAi X w μ es (evA fs x) r.1 r.2.1 r.2.2∧J1x x=r.2.1
 | .nil,S,fs,X,w,es,μ,r,o,h=>by
  obtain ⟨c,g⟩:=J1 h
  cases g
  cases es with
  | nil=>exact ⟨DAi.nil,rfl⟩
  | cons _ _=>cases c
 | .e a q,S,fs,X,w,es,μ,r,o,h=>by
  obtain ⟨x,hx,g⟩:=bnd h
  obtain ⟨c,g⟩:=J1 g
  obtain ⟨p,h1,g⟩:=bnd g
  obtain ⟨t,h2,g⟩:=bnd g
  cases g
  have k:=J5p q o h2
  rw [J7q hx]
  exact ⟨DAi.cons (J3 a o h1) k.1 (J1l c _ _),by show shift (J1x q)=_;rw [k.2]⟩
 | .io i q,S,fs,X,w,es,μ,r,o,h=>by
  obtain ⟨x,hx,g0⟩:=bnd h
  obtain ⟨y,e1,g⟩:=bnd g0
  obtain ⟨p,rfl⟩:=Jq e1
  obtain ⟨m,hm,g⟩:=bnd g
  obtain ⟨c,g⟩:=J1 g
  obtain ⟨t,h2,g⟩:=bnd g
  cases g
  have k:=J5p q o h2
  rw [J7q hx]
  rw [Zb] at c
  obtain ⟨n1,n2,n3,n4⟩:=J37 o c.1
  exact ⟨DAi.io n1 n2 n3 n4 hm (Zd c.2) k.1 (J1l rfl _ _),by show (0,i)::shift (J1x q)=_;rw [k.2]⟩
 | .ioL i q,S,fs,X,w,es,μ,r,o,h=>by
  obtain ⟨x,hx,g0⟩:=bnd h
  obtain ⟨y,e1,g⟩:=bnd g0
  obtain ⟨p,rfl⟩:=Jq e1
  obtain ⟨m0,hm0,g⟩:=bnd g
  obtain ⟨c,g⟩:=J1 g
  obtain ⟨t,h2,g⟩:=bnd g
  obtain ⟨m,hm,g⟩:=bnd g
  obtain ⟨c2,g⟩:=J1 g
  cases g
  have k:=J5p q o h2
  rw [J7q hx]
  rw [Zb] at c
  obtain ⟨n1,n2,n3,n4⟩:=J37 o c.1
  exact ⟨DAi.ioL n1 n2 n3 n4 hm0 (Zd c.2) k.1 hm (Zd c2) (J1l rfl _ _),by show (0,i)::shift (J1x q)=_;rw [k.2]⟩
theorem Jq7:∀ (x:Ar) {S:Sx} {fs:List Fn} {X:Cx} {w:Wh} {es:List Expr} {μ:List Mode} {ms:List Mode} {μ':List Mode},XOk S fs X w→∀ (kws:List Keyword),ckA S x es μ=some (ms,[],μ')→kws.map (·.value)=es→DK X w μ kws (evA fs x) ms μ'
 | .nil,S,fs,X,w,es,μ,ms,μ',o,kws,h,hk=>by
  obtain ⟨c,g⟩:=J1 h
  cases g
  cases kws with
  | nil=>exact DK.nil
  | cons _ _=>subst hk;cases c
 | .e a q,S,fs,X,w,es,μ,ms,μ',o,kws,h,hk=>by
  obtain ⟨x,hx,g⟩:=bnd h
  obtain ⟨c,g⟩:=J1 g
  obtain ⟨p,h1,g⟩:=bnd g
  obtain ⟨⟨tm,ti,tμ⟩,h2,g⟩:=bnd g
  cases kws with
  | nil=>subst hk;cases hx
  | cons kw kws=>
   obtain ⟨nm,v,kp⟩:=kw
   subst hk
   have ex:v=x:=by simpa using hx
   subst ex
   have et:ti= []:=by
    cases ti with
    | nil=>rfl
    | cons _ _=>cases g
   subst et
   cases g
   exact DK.cons (J3 a o h1) (Jq7 q o kws h2 rfl)
 | .io i q,S,fs,X,w,es,μ,ms,μ',o,kws,h,hk=>by
  obtain ⟨x,hx,g0⟩:=bnd h
  obtain ⟨y,e1,g⟩:=bnd g0
  obtain ⟨m,hm,g⟩:=bnd g
  obtain ⟨c,g⟩:=J1 g
  obtain ⟨t,h2,g⟩:=bnd g
  cases g
 | .ioL i q,S,fs,X,w,es,μ,ms,μ',o,kws,h,hk=>by
  obtain ⟨x,hx,g0⟩:=bnd h
  obtain ⟨y,e1,g⟩:=bnd g0
  obtain ⟨m0,hm0,g⟩:=bnd g
  obtain ⟨c,g⟩:=J1 g
  obtain ⟨t,h2,g⟩:=bnd g
  obtain ⟨m,hm,g⟩:=bnd g
  obtain ⟨c2,g⟩:=J1 g
  cases g
theorem J1a:∀ (x:Tx) {S:Sx} {fs:List Fn} {X:Cx} {w:Wh} {e:Expr} {μ r:List Mode},XOk S fs X w→ckT S x e μ=some r→DT X w μ e (evT fs x) r
 | .val a,S,fs,X,w,e,μ,r,o,h=>by
  obtain ⟨c,g⟩:=J1 h
  obtain ⟨r1,h1,g⟩:=bnd g
  cases g
  exact DT.val (J3 a o h1) (Jph c _)
 | .cmp c2 a b,S,fs,X,w,e,μ,r,o,h=>by
  obtain ⟨⟨x,op,y⟩,e1,g⟩:=bnd h
  obtain ⟨p,rfl⟩:=J65 e1
  obtain ⟨c,g⟩:=J1 g
  obtain ⟨r1,h1,g⟩:=bnd g
  obtain ⟨r2,h2,g⟩:=bnd g
  cases g
  rw [Zb] at c
  have c':op=c2.oper:=Zd c.1
  subst c'
  obtain ⟨q,q1,q2⟩:=J72 (X:=X) o.room c2 r1.1 r2.1
  exact DT.cmp q1 (J66 c.2) q2 (J3 a o h1) (J3 b o h2)
 | .ch2 o1 o2 a b cc,S,fs,X,w,e,μ,r,o,h=>by
  obtain ⟨⟨x,op,y,op',z⟩,e1,g⟩:=bnd h
  obtain ⟨p,rfl⟩:=Jc9 e1
  obtain ⟨c,g⟩:=J1 g
  obtain ⟨r1,h1,g⟩:=bnd g
  obtain ⟨⟨m2,μ2⟩,h2,g⟩:=bnd g
  obtain ⟨⟨m3,μ3⟩,h3,g⟩:=bnd g
  obtain ⟨c2,g⟩:=J1 g
  cases g
  rw [Zb,Zb] at c
  rw [Zb] at c2
  have c1':op=o1.oper:=Zd c.1
  have c2':op'=o2.oper:=Zd c.2.1
  have d1:m2= .Z:=Zd c2.1
  have d2:μ3=μ2:=Zd c2.2
  subst c1' c2' d1 d2
  obtain ⟨q,q1,q2⟩:=J72 (X:=X) o.room o1 r1.1 .Z
  obtain ⟨q',q1',q2'⟩:=J72 (X:=X) o.room o2 .Z m3
  exact DT.ch2 q1 q2 q1' q2' (J3 a o h1) (J3 b o h2) (J3 cc o h3) (J66 c.2.2)
 | .not t,S,fs,X,w,e,μ,r,o,h=>by
  obtain ⟨x,e1,g⟩:=bnd h
  obtain ⟨p,rfl⟩:=Jid e1
  exact DT.not (J1a t o g)
 | .and t u,S,fs,X,w,e,μ,r,o,h=>by
  obtain ⟨⟨op,ys⟩,e1,g⟩:=bnd h
  obtain ⟨p,rfl⟩:=Jdo e1
  obtain ⟨c,g⟩:=J1 g
  have c':op= .And:=Zd c
  subst c'
  obtain ⟨x,hx,g⟩:=bnd g
  obtain ⟨μ1,h1,g⟩:=bnd g
  have ey:ys=x::ys.tail:=J7q hx
  dsimp only at g
  split at g
  ·rename_i y hy
   obtain ⟨μ2,h2,g⟩:=bnd g
   obtain ⟨c,g⟩:=J1 g
   cases g
   cases Zd c
   rw [ey,J2m hy]
   exact DT.of (DW.and (J1a t o h1) (DW.and1 (J1a u o h2)))
  ·obtain ⟨μ2,h2,g⟩:=bnd g
   obtain ⟨c,g⟩:=J1 g
   cases g
   cases Zd c
   obtain ⟨y,ys',e2,q⟩:=Jak u o p h2
   rw [ey,e2]
   exact DT.of (DW.and (J1a t o h1) q)
 | .or t u,S,fs,X,w,e,μ,r,o,h=>by
  obtain ⟨⟨op,ys⟩,e1,g⟩:=bnd h
  obtain ⟨p,rfl⟩:=Jdo e1
  obtain ⟨c,g⟩:=J1 g
  have c':op= .Or:=Zd c
  subst c'
  obtain ⟨x,hx,g⟩:=bnd g
  obtain ⟨μ1,h1,g⟩:=bnd g
  have ey:ys=x::ys.tail:=J7q hx
  dsimp only at g
  split at g
  ·rename_i y hy
   obtain ⟨μ2,h2,g⟩:=bnd g
   obtain ⟨c,g⟩:=J1 g
   cases g
   cases Zd c
   rw [ey,J2m hy]
   exact DT.of (DW.or (J1a t o h1) (DW.or1 (J1a u o h2)))
  ·obtain ⟨μ2,h2,g⟩:=bnd g
   obtain ⟨c,g⟩:=J1 g
   cases g
   cases Zd c
   obtain ⟨y,ys',e2,q⟩:=Jak u o p h2
   rw [ey,e2]
   exact DT.of (DW.or (J1a t o h1) q)
 | .din k a b,S,fs,X,w,e,μ,r,o,h=>by
  obtain ⟨⟨x,op,y⟩,e1,g⟩:=bnd h
  obtain ⟨p,rfl⟩:=J65 e1
  obtain ⟨c,g⟩:=J1 g
  obtain ⟨⟨m1,μ1⟩,h1,g⟩:=bnd g
  obtain ⟨⟨m2,μ2⟩,h2,g⟩:=bnd g
  obtain ⟨c2,g⟩:=J1 g
  cases g
  dsimp only at *
  rw [Zb] at c c2
  cases Zd c2.1
  cases Zd c2.2
  have c':op=J7m k:=Zd c.1
  subst c'
  obtain ⟨q,q1,q2⟩:=Jig (X:=X) o.room k
  exact DT.cmp q1 (Jai c.2) q2 (J3 a o h1) (J3 b o h2)
 | .bor M t,S,fs,X,w,e,μ,r,o,h=>by
  obtain ⟨c,g⟩:=J1 h
  obtain ⟨r1,h1,g⟩:=bnd g
  obtain ⟨c2,g⟩:=J1 g
  cases g
  rw [Zb,Zb] at c2
  exact DT.bor (Zd c) (J1a t (S:={ S with μx:=J7l M μ}) (o.bor _) h1) c2.1 c2.2.1 (by rw [o.mx];exact c2.2.2)
theorem Jak:∀ (x:Tx) {S:Sx} {fs:List Fn} {X:Cx} {w:Wh} {k:Bool} {ys:List Expr} {μ r:List Mode},XOk S fs X w→∀pos,ckW S x k ys μ=some r→∃y ys',ys=y::ys'∧DW X w μ (.BoolOp (if k=true then .And else .Or) (y::ys') pos) (evT fs x) r
 | .and t u,S,fs,X,w,k,ys,μ,r,o,pos,h=>by
  obtain ⟨c,g⟩:=J1 h
  rw [Zb] at c
  cases c.1
  obtain ⟨x,hx,g⟩:=bnd g
  obtain ⟨μ1,h1,g⟩:=bnd g
  refine ⟨x,ys.tail,J7q hx,?_⟩
  split at g
  ·rename_i y hy
   obtain ⟨μ2,h2,g⟩:=bnd g
   obtain ⟨c,g⟩:=J1 g
   cases g
   cases Zd c
   rw [J2m hy]
   exact DW.and (J1a t o h1) (DW.and1 (J1a u o h2))
  ·obtain ⟨μ2,h2,g⟩:=bnd g
   obtain ⟨c,g⟩:=J1 g
   cases g
   cases Zd c
   obtain ⟨y,ys',e2,q⟩:=Jak u o pos h2
   rw [e2]
   exact DW.and (J1a t o h1) q
 | .or t u,S,fs,X,w,k,ys,μ,r,o,pos,h=>by
  obtain ⟨c,g⟩:=J1 h
  rw [Zb] at c
  cases (by simpa using c.1:k=false)
  obtain ⟨x,hx,g⟩:=bnd g
  obtain ⟨μ1,h1,g⟩:=bnd g
  refine ⟨x,ys.tail,J7q hx,?_⟩
  split at g
  ·rename_i y hy
   obtain ⟨μ2,h2,g⟩:=bnd g
   obtain ⟨c,g⟩:=J1 g
   cases g
   cases Zd c
   rw [J2m hy]
   exact DW.or (J1a t o h1) (DW.or1 (J1a u o h2))
  ·obtain ⟨μ2,h2,g⟩:=bnd g
   obtain ⟨c,g⟩:=J1 g
   cases g
   cases Zd c
   obtain ⟨y,ys',e2,q⟩:=Jak u o pos h2
   rw [e2]
   exact DW.or (J1a t o h1) q
 | .val _,_,_,_,_,_,_,_,_,_,_,h=>by cases h
 | .cmp _ _ _,_,_,_,_,_,_,_,_,_,_,h=>by cases h
 | .ch2 _ _ _ _ _,_,_,_,_,_,_,_,_,_,_,h=>by cases h
 | .not _,_,_,_,_,_,_,_,_,_,_,h=>by cases h
 | .din _ _ _,_,_,_,_,_,_,_,_,_,_,h=>by cases h
 | .bor _ _,_,_,_,_,_,_,_,_,_,_,h=>by cases h
theorem Jih:∀ (x:Cx1) {S:Sx} {fs:List Fn} {X:Cx} {w:Wh} {es:List Expr} {μ r:List Mode},XOk S fs X w→ckC S x es μ=some r→DTs X w μ es (evC fs x) r
 | .no,S,fs,X,w,es,μ,r,o,h=>by
  obtain ⟨c,g⟩:=J1 h
  cases g
  cases es with
  | nil=>exact DTs.nil
  | cons _ _=>cases c
 | .one t,S,fs,X,w,es,μ,r,o,h=>by
  obtain ⟨x,e1,g⟩:=bnd h
  rw [J2m e1]
  exact DTs.one (J1a t o g)
theorem Jdt:∀ (x:Ix) {S:Sx} {fs:List Fn} {X:Cx} {w:Wh} {g e:Expr} {μ:List Mode} {r:Mode × List Mode},XOk S fs X w→ckI S x g e μ=some r→DI X w μ g e (evI fs x) r.1 r.2
 | .list a,S,fs,X,w,g,e,μ,r,o,h=>by
  obtain ⟨r1,h1,g⟩:=bnd h
  obtain ⟨c,g⟩:=J1 g
  cases g
  have q:=J3 a o h1
  rw [Zd c] at q
  exact DI.list q
 | .tup a,S,fs,X,w,g,e,μ,r,o,h=>by
  obtain ⟨r1,h1,g⟩:=bnd h
  obtain ⟨c,g⟩:=J1 g
  cases g
  have q:=J3 a o h1
  rw [Zd c] at q
  exact DI.tup q
 | .r1 a,S,fs,X,w,g,e,μ,r,o,h=>by
  obtain ⟨⟨x,es⟩,e1,g⟩:=bnd h
  obtain ⟨p,q,rfl⟩:=J4k e1
  obtain ⟨y,e2,g⟩:=bnd g
  obtain ⟨c,g⟩:=J1 g
  obtain ⟨r1,h1,g⟩:=bnd g
  cases g
  dsimp only at *
  rw [Zb,Zb] at c
  obtain ⟨g1,g2,g3⟩:=J71 o c.1
  cases Zd c.2.1
  cases J2m e2
  exact DI.range1 g1 g2 (DA.cons (J3 a o h1) DA.nil (J1l c.2.2 _ _)) (J9j c.2.2 _)
 | .zip a b,S,fs,X,w,tt,e,μ,r,o,h=>by
  obtain ⟨gs,e0,u0⟩:=bnd h
  obtain ⟨k,p0,rfl⟩:=J4c e0
  obtain ⟨⟨x,es⟩,e1,u⟩:=bnd u0
  obtain ⟨p,q,rfl⟩:=J4k e1
  obtain ⟨⟨y,z⟩,e2,g⟩:=bnd u
  obtain ⟨c,g⟩:=J1 g
  obtain ⟨⟨m1,μ1⟩,h1,g⟩:=bnd g
  obtain ⟨⟨m2,μ2⟩,h2,g⟩:=bnd g
  obtain ⟨c2,g⟩:=J1 g
  cases g
  dsimp only at *
  rw [Zb,Zb,Zb] at c
  rw [Zb] at c2
  obtain ⟨g1,g2,g3⟩:=J71 o c.1
  cases Zd c.2.1
  cases Jif e2
  cases Zd c2.1
  cases Zd c2.2
  exact DI.zip g1 g2 (DA.cons (J3 a o h1) (DA.cons (J3 b o h2) DA.nil (J1l c.2.2.2 _ _)) (J1l c.2.2.1 _ _)) (J1l c.2.2.1 _ _) (star_any (by simpa using c.2.2.2) _ _)
 | .enum a,S,fs,X,w,tt,e,μ,r,o,h=>by
  obtain ⟨gs,e0,u0⟩:=bnd h
  obtain ⟨k,p0,rfl⟩:=J4c e0
  obtain ⟨⟨x,es⟩,e1,u⟩:=bnd u0
  obtain ⟨p,q,rfl⟩:=J4k e1
  obtain ⟨y,e2,g⟩:=bnd u
  obtain ⟨c,g⟩:=J1 g
  obtain ⟨⟨m1,μ1⟩,h1,g⟩:=bnd g
  obtain ⟨c2,g⟩:=J1 g
  cases g
  dsimp only at *
  rw [Zb,Zb] at c
  obtain ⟨g1,g2,g3⟩:=J71 o c.1
  cases Zd c.2.1
  cases J2m e2
  cases Zd c2
  exact DI.enumS g1 g2 (DA.cons (J3 a o h1) DA.nil (J1l c.2.2 _ _)) (J9j c.2.2 _)
end
end
noncomputable def Jii (c w:Str) (Γ:Gam):Sz:= .exc ⟨c,["word"],[.str w]⟩ Γ
section
variable {X:Cx} {z:Ws} {μ μ' μt:List Mode} {f g:Gam→Sz} {pos pos' p:Pos} {c w:Str}
theorem DS.raise (hc:X.calm=true) (tk:Takes X z.w.W) (E:ExZ X c w) (hg:Gl X c) (hdb: (c == ("__debug__" :Str))=false) (wk:J6 μ z.w.μx=true):DS X z μ (.Raise (some (.Call (.Name c p) [] [] pos)) none pos') (Jii c w) μ':=by
 refine ⟨(ps_raise hc tk (E.pmk hg hdb)).imp fun D σ H ⟨hp,B,Γ,fp,st,q⟩=>?_⟩
 intro d nd
 obtain ⟨B2,fp2,s2,st2,_⟩:=st.weak (l:= []) wk (fun a h=>by cases h) (fun a h=>by cases h)
 have bd:B2 d=none:=by
  cases e:B2 d with
  | none=>rfl
  | some o=>rw [st2.same.free nd] at e;cases e
 have ndf:d∉fp2:=fun h=>by
  obtain ⟨_,o,e⟩:=st2.st.own d h
  rw [e] at nd;cases nd
 refine q σ B2 (upd H d (.xd [("word",.str w)])) [d] fp2 (.ref (He.ga X.K c)) (some d) (s2.trans ⟨Same.refl _,fun a o _ e=> .inl (by rw [upd_ne (ne_of_none e nd)];exact e),fun a h=>?_,fun a o e=> .inl e⟩) ⟨J25 st2.same nd,st2.st.mono (Same.refl _) (Jk (fun a h=>(st2.st.own a h).1) ndf),st2.nd⟩ ⟨rfl,d,[("word",.str w)],[.str w],[],rfl,bd,upd_same,⟨.str w,[],[],[],rfl,⟨rfl,rfl⟩,⟨rfl,rfl⟩,rfl⟩,rfl,?_,rfl⟩ (List.nodup_cons.mpr ⟨by simpa using ndf,st2.nd⟩) hp
 ·rcases Zp.mp h with h | h
  ·rw [List.mem_singleton.mp h];exact .inr nd
  ·exact .inl h
 ·intro i n v h1 h2
  cases i with
  | zero=>cases h1;cases h2;rfl
  | succ i=>cases h1
noncomputable def noX:Sz→Sz
 | .exc _ _=> .bad
 | o=>o
theorem Jo.noX {K:Zf} {z z':Ws} {μ':List Mode} {B H:Hp} {fp:List Addr} {D:Ends} {o:Sz} (h1:z'.rm=z.rm) (h2:z'.μr=z.μr) (h3:z'.μb=z.μb) (h4:z'.μc=z.μc) (h5:z'.pin=z.pin) (h:Jo K z μ' B H fp D (EV.noX o)):Jo K z' μ' B H fp D o:=by
 cases o with
 | nx Γ=>intro σ' B' H' fp' s st hp;exact h σ' B' H' fp' s st (by rw [← h5];exact hp)
 | rt d Γ=>intro σ' B' H' v fpv fp' s st r nd hp;exact h σ' B' H' v fpv fp' s (by rw [← h2];exact st) (by rw [← h1];exact r) nd (by rw [← h5];exact hp)
 | bk Γ=>intro σ' B' H' fp' s st hp;exact h σ' B' H' fp' s (by rw [← h3];exact st) (by rw [← h5];exact hp)
 | ct Γ=>intro σ' B' H' fp' s st hp;exact h σ' B' H' fp' s (by rw [← h4];exact st) (by rw [← h5];exact hp)
 | exc x Γ=>exact h.elim
 | bad=>exact h
noncomputable def Ws.try_ (z:Ws) (W:WX) (μt:List Mode):Ws:={ z with w:=⟨W,μt⟩}
end
noncomputable abbrev Hnd:=Str × List (Str × Bool) × (Gam→Sz)
noncomputable def Jbk:List Hnd→Xc→Gam→Sz
 | [],x,Γ=> .exc x Γ
 | q::r,x,Γ=>match q.2.1.lookup x.c with
  | some true=>noX (q.2.2 Γ)
  | some false=>Jbk r x Γ
  | none=> .bad
noncomputable def Jal (f:Gam→Sz) (l:List Hnd) (Γ:Gam):Sz:=match f Γ with
 | .exc x Γ'=>Jbk l x Γ'
 | o=>o
inductive DHs (X:Cx) (z:Ws) (μt μ':List Mode):List ExceptHandler→List Hnd→Prop
 | nil:DHs X z μt μ' [] []
 | cons {c:Str} {tab:List (Str × Bool)} {g:Gam→Sz} {b₀:Stmt} {suite:List Stmt} {np pos':Pos} {hds:List ExceptHandler} {l:List Hnd} (hg:Gl X c) (hdb: (c == ("__debug__" :Str))=false) (hm:X.mg c=some (.ref (He.ga X.K c)))
   (hsu:∀ (a:Addr) (pn:List (Addr × Obj)),DSs (X.suite a pn) (z.try_ (fun _ _ _ _=>False) μt) μt (b₀::suite) g μ')
   (ht:∀n b,tab.lookup n=some b→PySem.W.exmOne X.K (.ref (He.ga X.K n)) (.ref (He.ga X.K c))=some b) (r:DHs X z μt μ' hds l):
   DHs X z μt μ' (.ExceptHandler (some (.Name c np)) none (b₀::suite) pos'::hds) ((c,tab,g)::l)
section
variable {X:Cx} {z:Ws} {μ μ' μt:List Mode} {f:Gam→Sz} {pos:Pos}
noncomputable def hnW (X:Cx) (z:Ws) (μt μ':List Mode) (q:Hnd):Value × (Addr→Value→Option Addr→TS):=(.ref (He.ga X.K q.1),fun _ _ _=>tS X.K (z.try_ (fun _ _ _ _=>False) μt) μt q.2.2 μ')
theorem DHs.ok {hds:List ExceptHandler} {l:List Hnd} (h:DHs X z μt μ' hds l):HdsOk X hds (l.map (hnW X z μt μ')):=by
 induction h with
 | nil=>exact .nil
 | cons hg hdb hm hsu ht r ih=>exact .cons ⟨hg,hdb,.inl hm⟩ (fun a oe cls d pn _ _=>(hsu a _).ps) ih
theorem DS.tryM {body:List Stmt} {h₀:ExceptHandler} {hds:List ExceptHandler} {l:List Hnd} (hs:X.stack=X.env::X.outer) (hf:X.env.frame=some X.env.locals) (tk:Takes X z.w.W)
  (hb:∀ (W:WX) (pn:List (Addr × Obj)) (xe:Value→Shared→Prop),Takes (X.tr pn xe) W→PassesOwn (model X.prog X.w) X.A X.env xe→DSs (X.tr pn xe) (z.try_ W μt) μ body f μ')
  (hh:DHs X z μt μ' (h₀::hds) l) (wk:J6 μt z.w.μx=true):DS X z μ (.Try body (h₀::hds) [] [] pos) (Jal f l) μ':=by
 refine ⟨(ps_try_many (tb:=fun W=>tS X.K (z.try_ W μt) μ f μ') (Wout:=z.w.W) hs hf tk (fun W pn xe t o=>(hb W pn xe t o).ps) hh.ok).imp fun D σ H ⟨hp,B,Γ,fp,st,q⟩=>⟨hp,B,Γ,fp,st,?_⟩⟩
 revert q
 unfold Jal
 cases f Γ with
 | nx Γ'=>exact fun q=>q
 | rt d Γ'=>exact fun q=>q
 | bk Γ'=>exact fun q=>q
 | ct Γ'=>exact fun q=>q
 | bad=>exact fun q=>q
 | exc x Γ'=>
  intro q σ' B' H' fpe fp' cls dd s st' ex nd hp'
  have ecls:cls= .ref (He.ga X.K x.c):=ex.1
  have go:∀{hds':List ExceptHandler} {l':List Hnd},DHs X z μt μ' hds' l'→Jo X.K z μ' B H fp D (Jbk l' x Γ')→wMany X.K z.w.W D (l'.map (hnW X z μt μ')) cls dd σ' H':=by
   intro hds' l' h
   induction h with
   | nil=>
    intro q1
    have own:∀a∈fpe,B' a=none∧∃o,H' a=some o:=by
     obtain ⟨_,d,fs,vs,fq,rfl,b0,hd,rl,_,_,rfl⟩:=ex
     intro a ha
     rcases Zo.mp ha with rfl | ha
     ·exact ⟨b0,_,hd⟩
     ·exact Rl.own _ rl a ha
    obtain ⟨B2,fp2,s2,st2,k2⟩:=st'.weak (l:=fpe) wk own (J0.mp nd).2.2
    exact q1 σ' B2 H' fpe fp2 cls dd (s.seq s2) st2 (ex.rebase fun a h=>(k2 a h).2) (J1s (fun a h=>(own a h).2) s2 nd st2.nd) hp'
   | @cons c tab g b₀ suite np pos' hds l hg hdb hm hsu ht r ih=>
    intro q1
    have q2:Jo X.K z μ' B H fp D (match tab.lookup x.c with
     | some true=>noX (g Γ')
     | some false=>Jbk l x Γ'
     | none=> .bad):=q1
    cases e:tab.lookup x.c with
    | none=>rw [e] at q2;exact q2.elim
    | some b=>
     rw [e] at q2
     refine ⟨b,by rw [ecls];exact ht _ _ e,fun hb a na=>?_,fun hb=>?_⟩
     ·subst hb
      refine ⟨hp',B',Γ',fp',st',?_⟩
      exact Jo.noX (z:=z) rfl rfl rfl rfl rfl (q2.after (s.less fun a h=>Zr _ h))
     ·subst hb
      exact ih q2
  exact go hh q
end
end EV
namespace EV
open PySem PySem.Spec PyProof.Rows L2
end EV
namespace EV
open PySem PySem.Spec PyProof.Rows L2
section
variable {X:Cx} {z:Ws} {μ μ' μ1:List Mode} {e:Expr} {es:List Expr} {fa:Gam→Rz (List D)} {ms:List Mode} {pos pos' p:Pos} {c w:Str} {fl:XFl}
end
theorem DAi.plain {X:Cx} {w:Wh} {μ μ':List Mode} {es:List Expr} {f:Gam→Rz (List D)} {ms:List Mode} (h:DAi X w μ es f ms [] μ'):DA X w μ es f ms μ':=
 ⟨h.pa.imp fun σ H Q ⟨B,Γ,fp,st,q⟩=>⟨B,Γ,fp,st,by
  revert q
  cases f Γ with
  | ok ds Γ'=>exact fun q B' H' vs fpv fp' s st' r nd _=>q B' H' vs fpv fp' s st' r nd
  | exc x Γ'=>exact id
  | bad=>exact id⟩⟩
end EV
namespace EV
open PySem PySem.Spec PyProof.Rows L2
noncomputable def asT (i:Nat) (a:Addr) (t:TS):TS:=fun D σ H=>t { nx:=fun σ' H'=>D.nx (σ'.set i none) H',rt:=D.rt,bk:=fun σ' H'=>D.bk (σ'.set i none) H',ct:=fun σ' H'=>D.ct (σ'.set i none) H'} (σ.set i (some (.ref a))) H
inductive HdsA (X:Cx):List ExceptHandler→List (Value × (Addr→Value→Option Addr→TS))→Prop
 | nil:HdsA X [] []
 | cons {x:Str} {c:Value} {ts:Addr→Value→Option Addr→TS} {b₀:Stmt} {suite:List Stmt} {np pos':Pos} {hds:List ExceptHandler} {l:List (Value × (Addr→Value→Option Addr→TS))} (hc:Names X x c)
   (hsu:∀ (a:Addr) (oe:Obj) (cls:Value) (d:Option Addr) (pn:List (Addr × Obj)),Zc cls d oe→(∃vs,oe.data= .fields vs)→PSs (X.suite a ((a,oe)::pn)) (b₀::suite) (ts a cls d)) (r:HdsA X hds l):
   HdsA X (.ExceptHandler (some (.Name x np)) none (b₀::suite) pos'::hds) ((c,ts)::l)
 | consAs {x n:Str} {c:Value} {i:Nat} {ts:Addr→Value→Option Addr→TS} {b₀:Stmt} {suite:List Stmt} {np pos':Pos} {hds:List ExceptHandler} {l:List (Value × (Addr→Value→Option Addr→TS))} (hN:X.N.Nodup) (hi:X.N[i]? =some n) (hln:X.env.kindOf n=some .local) (hc:Names X x c)
   (hsu:∀ (a:Addr) (oe:Obj) (cls:Value) (d:Option Addr) (pn:List (Addr × Obj)),Zc cls d oe→(∃vs,oe.data= .fields vs)→PSs (X.suite a ((a,oe)::pn)) (b₀::suite) (ts a cls d)) (r:HdsA X hds l):
   HdsA X (.ExceptHandler (some (.Name x np)) (some n) (b₀::suite) pos'::hds) ((c,fun a cls d=>asT i a (ts a cls d))::l)
section
variable {X:Cx} {body:List Stmt} {h₀:ExceptHandler} {hds:List ExceptHandler} {l:List (Value × (Addr→Value→Option Addr→TS))} {pos:Pos} {tb:WX→TS} {Wout:WX}
end
end EV
namespace EV
open PySem PySem.Spec PyProof.Rows L2
theorem StR.drop1 {K:Zf} {B H:Hp}:∀{Γ:Gam} {μ:List Mode} {σ:L2.St} {fp:List Addr} {i:Nat} {m:Mode},StR K B H Γ μ σ fp→∃fp',StR K B H (Γ.set i none) (μ.set i m) σ fp'∧fp'.Sublist fp
 | [],[],[],fp,i,m,h=>⟨fp,h,List.Sublist.refl _⟩
 | g::Γ,m0::μ,s::σ,fp,0,m,h=>by
  obtain ⟨fp1,fp2,h1,h2,rfl⟩:=h
  exact ⟨fp2,⟨[],fp2,rfl,h2,rfl⟩,List.sublist_append_right _ _⟩
 | g::Γ,m0::μ,s::σ,fp,i + 1,m,h=>by
  obtain ⟨fp1,fp2,h1,h2,rfl⟩:=h
  obtain ⟨fp3,h3,s3⟩:=StR.drop1 (i:=i) (m:=m) h2
  exact ⟨fp1++fp3,⟨fp1,fp3,h1,h3,rfl⟩,List.Sublist.append_left s3 _⟩
 | [],_::_,_,_,_,_,h=>h.elim
 | [],[],_::_,_,_,_,h=>h.elim
 | _::_,[],_,_,_,_,h=>h.elim
 | _::_,_::_,[],_,_,_,h=>h.elim
theorem StR.drop {K:Zf} {B H:Hp} {Γ:Gam} {μ:List Mode} {σ:L2.St} {fp:List Addr} (h:StR K B H Γ μ σ fp):∀vs:List Nat,∃fp',StR K B H (Jf Γ vs) (J2 μ vs) σ fp'∧fp'.Sublist fp
 | []=>⟨fp,h,List.Sublist.refl _⟩
 | v::vs=>by
  obtain ⟨fp1,h1,s1⟩:=StR.drop h vs
  obtain ⟨fp2,h2,s2⟩:=StR.drop1 (i:=v) (m:= .U) h1
  exact ⟨fp2,h2,s2.trans s1⟩
noncomputable def Jq8 (K:Zf) (i:Nat) (a:Addr) (cls:Value) (d:Option Addr) (f:Str):TE:=fun σ H Q=>∃ (C dd:Addr) (fs:List (Str × V)) (v:V),σ[i]? =some (some (.ref a))∧cls= .ref C∧XfC K C∧PySem.W.findIn K (.ref C) f=some none∧d=some dd∧H dd=some (.xd fs)∧fs.lookup f=some v∧Q v H
noncomputable def Jgm (K:Zf) (i:Nat) (a:Addr) (cls:Value) (d:Option Addr):List (Nat × Str)→TS→TS
 | [],t=>t
 | (j,f)::l,t=>fun D σ H=>Jq8 K i a cls d f σ H fun v H1=>Jgm K i a cls d l t D (σ.set j (some v)) H1
inductive ProOk (X:Cx) (n:Str):List (Nat × Str)→List Stmt→Prop
 | nil:ProOk X n [] []
 | cons {j:Nat} {f y:Str} {l:List (Nat × Str)} {sts:List Stmt} {p1 p2 p3 p4:Pos} (hj:X.N[j]? =some y) (hl:X.env.scope.names.lookup y=some .local) (r:ProOk X n l sts):ProOk X n ((j,f)::l) (.Assign [.Name y p1] (.Attribute (.Name n p2) f p3) p4::sts)
theorem Jij {X:Cx} {n:Str} {i:Nat} {a:Addr} {oe:Obj} {cls:Value} {d:Option Addr} {pn:List (Addr × Obj)} {rest:List Stmt} {t:TS} (hz:Zc cls d oe) (hf:∃vs,oe.data= .fields vs) (hN:X.N.Nodup) (hi:X.N[i]? =some n) (hv:Vis X.env.scope n) (hd: (n == ("__debug__" :Str))=false) (hcd: (n == ("__classdict__" :Str))=false) (hr:PSs (X.suite a ((a,oe)::pn)) rest t):∀{pro:List (Nat × Str)} {sts:List Stmt},ProOk X n pro sts→PSs (X.suite a ((a,oe)::pn)) (sts++rest) (Jgm X.K i a cls d pro t)
 | _,_,.nil=>hr
 | _,_,.cons (f:=f) (y:=y) (p2:=p2) (p3:=p3) hj hl r=>by
  have he:PE (X.suite a ((a,oe)::pn)) (.Attribute (.Name n p2) f p3) (Jq8 X.K i a cls d f):=⟨fun pins s σ H Q I ⟨C,dd,fs,v,hs,ec,T,hno,ed,ha,lk,q⟩=>
   (pe_xf T hno hz hf (pe_var (X:=X.suite a ((a,oe)::pn)) hi hv hd hcd)).run pins s σ H Q I ⟨.ref a,hs,rfl,ec,dd,fs,v,ed,ha,lk,q⟩⟩
  exact pss_cons (ps_set (X:=X.suite a ((a,oe)::pn)) hN hj (.inl hl) he rfl (.inr hl)) (Jij hz hf hN hi hv hd hcd hr r)
noncomputable abbrev Jbl:=Str × List (Str × Bool) × Option (Nat × List Nat × List (Nat × Str)) × (Gam→Sz)
noncomputable def Jl7 (pro:List (Nat × Str)) (μ:List Mode):List Mode:=pro.foldl (fun μ q=>μ.set q.1 .F) μ
inductive DHsA (X:Cx) (z:Ws) (μt μ':List Mode):List ExceptHandler→List Jbl→Prop
 | nil:DHsA X z μt μ' [] []
 | cons {c:Str} {tab:List (Str × Bool)} {g:Gam→Sz} {b₀:Stmt} {suite:List Stmt} {np pos':Pos} {hds:List ExceptHandler} {l:List Jbl} (hg:Gl X c) (hdb: (c == ("__debug__" :Str))=false) (hm:X.mg c=some (.ref (He.ga X.K c)))
   (hsu:∀ (a:Addr) (pn:List (Addr × Obj)),DSs (X.suite a pn) (z.try_ (fun _ _ _ _=>False) μt) μt (b₀::suite) g μ')
   (ht:∀n b,tab.lookup n=some b→PySem.W.exmOne X.K (.ref (He.ga X.K n)) (.ref (He.ga X.K c))=some b) (r:DHsA X z μt μ' hds l):
   DHsA X z μt μ' (.ExceptHandler (some (.Name c np)) none (b₀::suite) pos'::hds) ((c,tab,none,g)::l)
 | consAs {c n:Str} {i:Nat} {ws:List Nat} {pro:List (Nat × Str)} {tab:List (Str × Bool)} {g:Gam→Sz} {b₀:Stmt} {suite sts rest:List Stmt} {np pos':Pos} {hds:List ExceptHandler} {l:List Jbl} (hg:Gl X c) (hdb: (c == ("__debug__" :Str))=false) (hm:X.mg c=some (.ref (He.ga X.K c)))
   (hN:X.N.Nodup) (hi:X.N[i]? =some n) (hln:X.env.kindOf n=some .local) (hd: (n == ("__debug__" :Str))=false) (hcd: (n == ("__classdict__" :Str))=false) (hp:J4g z.pin i) (hil:i < μt.length) (hiw:i∈ws)
   (es:b₀::suite=sts++rest) (hpro:ProOk X n pro sts) (hpl:∀q∈pro,q.1≠i∧q.1 < μt.length∧J4g z.pin q.1)
   (hsu:∀ (a:Addr) (pn:List (Addr × Obj)),DSs (X.suite a pn) (z.try_ (fun _ _ _ _=>False) μt) (Jl7 pro (J2 μt ws)) rest g μ')
   (hxf:∀x,tab.lookup x=some true→XfC X.K (He.ga X.K x)∧∀q∈pro,PySem.W.findIn X.K (.ref (He.ga X.K x)) q.2=some none)
   (ht:∀n b,tab.lookup n=some b→PySem.W.exmOne X.K (.ref (He.ga X.K n)) (.ref (He.ga X.K c))=some b) (r:DHsA X z μt μ' hds l):
   DHsA X z μt μ' (.ExceptHandler (some (.Name c np)) (some n) (b₀::suite) pos'::hds) ((c,tab,some (i,ws,pro),g)::l)
section
variable {X:Cx} {z:Ws} {μ μ' μt:List Mode} {f:Gam→Sz} {pos:Pos}
noncomputable def Jsg (X:Cx) (z:Ws) (μt μ':List Mode) (q:Jbl):Value × (Addr→Value→Option Addr→TS):=(.ref (He.ga X.K q.1),match q.2.2.1 with
 | none=>fun _ _ _=>tS X.K (z.try_ (fun _ _ _ _=>False) μt) μt q.2.2.2 μ'
 | some (i,ws,pro)=>fun a cls d=>asT i a (Jgm X.K i a cls d pro (tS X.K (z.try_ (fun _ _ _ _=>False) μt) (Jl7 pro (J2 μt ws)) q.2.2.2 μ')))
theorem DHsA.ok {hds:List ExceptHandler} {l:List Jbl} (h:DHsA X z μt μ' hds l):HdsA X hds (l.map (Jsg X z μt μ')):=by
 induction h with
 | nil=>exact .nil
 | cons hg hdb hm hsu ht r ih=>exact .cons ⟨hg,hdb,.inl hm⟩ (fun a oe cls d pn _ _=>(hsu a _).ps) ih
 | @consAs c n i ws pro tab g b₀ suite sts rest np pos' hds l hg hdb hm hN hi hln hd hcd hp hil hiw es hpro hpl hsu hxf ht r ih=>
  refine .consAs (ts:=fun a cls d=>Jgm X.K i a cls d pro (tS X.K (z.try_ (fun _ _ _ _=>False) μt) (Jl7 pro (J2 μt ws)) g μ')) hN hi hln ⟨hg,hdb,.inl hm⟩ (fun a oe cls d pn hz hf=>?_) ih
  rw [es]
  exact Jij hz hf hN hi (.inl hln) hd hcd (hsu a _).ps hpro
end
end EV
namespace EV
open PySem PySem.Spec PyProof.Rows L2
section
variable {X:Cx} {z:Ws} {μ μ' μt:List Mode} {f:Gam→Sz} {pos:Pos}
end
end EV
namespace EV
open PySem PySem.Spec L2 PyProof.Rows
section
variable {X:Cx} {z:Ws} {μ μ' μ1 μa μb:List Mode} {c:Expr} {pos:Pos} {rest body orelse:List Stmt} {sa sb ra rb:Gam→Sz}
theorem PSs.or {sts:List Stmt} {t1 t2:TS} (h1:PSs X sts t1) (h2:PSs X sts t2):PSs X sts (fun D σ H=>t1 D σ H∨t2 D σ H):=
 ⟨fun pins s σ H D I q=>q.elim (h1.1 pins s σ H D I) (h2.1 pins s σ H D I)⟩
theorem DSs.iteD {t:Gam→Rz Bool} (hc:DT X z.w μ c t μ1) (h1:DSs X z μ1 body sa μa) (k1:DSs X z μa rest ra μ') (h2:DSs X z μ1 orelse sb μb) (k2:DSs X z μb rest rb μ'):DSs X z μ (.If c body orelse pos::rest) (sIf t (J1p sa ra) (J1p sb rb)) μ':=by
 refine ⟨(pss_cons (ps_if hc.pt h1.ps h2.ps) (PSs.or k1.ps k2.ps)).imp fun D σ H ⟨hp,B,Γ,fp,sta,q⟩=>?_⟩
 refine Jfr hp sta q fun k Γ' B' H' fp' e s st'=>?_
 unfold sIf at q
 rw [e] at q
 cases k with
 | true=>
  refine ⟨hp,B',Γ',fp',st',?_⟩
  have q':Jo X.K z μ' B' H' fp' D (J1p sa ra Γ'):=Jo.after q s
  unfold J1p at q'
  revert q'
  cases sa Γ' with
  | nx Γ2=>exact fun q σ' B2 H2 fp2 s2 st2 hp2=> .inl ⟨hp2,B2,Γ2,fp2,st2,q.after s2⟩
  | _=>exact id
 | false=>
  refine ⟨hp,B',Γ',fp',st',?_⟩
  have q':Jo X.K z μ' B' H' fp' D (J1p sb rb Γ'):=Jo.after q s
  unfold J1p at q'
  revert q'
  cases sb Γ' with
  | nx Γ2=>exact fun q σ' B2 H2 fp2 s2 st2 hp2=> .inr ⟨hp2,B2,Γ2,fp2,st2,q.after s2⟩
  | _=>exact id
end
end EV
namespace EV
open PySem PySem.Spec L2
inductive AO where
 | add | sub | mul | cat
inductive Pl where
 | nm (i:Nat) | ix (p:Pl) (j:Px) | fld (p:Pl) (k n:Str)
noncomputable def Pl.root:Pl→Nat
 | .nm i=>i
 | .ix p _=>p.root
 | .fld p _ _=>p.root
noncomputable def J46:Pl→Gam→Option (List Sel)
 | .nm _=>plN
 | .ix p j=>plI (J46 p) (Jl j)
 | .fld p k n=>plF (J46 p) k n
noncomputable def Jbm (S:Sx) (μ:List Mode):Pl→Expr→Option Unit
 | .nm i,e=>(J26 e).bind fun x=>grd (nmB S i x) (some ())
 | .ix p j,e=>(J7n e).bind fun q=>grd (J35 q.2) ((Jbm S μ p q.1).bind fun _=>J6m S μ j q.2)
 | .fld p k n,e=>(Jag e).bind fun q=>grd (decide (q.2=n) && (Jm4 q.1 && S.fl.contains (k,n))) (Jbm S μ p q.1)
noncomputable def Jgn:Mode→Option Str→Option Mode
 | .O m,_=>some m
 | .B n m r,some x=>J15 (.B n m r) x
 | _,_=>none
noncomputable def J73 (m:Mode):Pl→Option Mode
 | .nm _=>some m
 | .ix p _=>(J73 m p).bind fun k=>Jgn k none
 | .fld p _ n=>(J73 m p).bind fun k=>Jgn k (some n)
noncomputable def Jsh:Sel→Option Str
 | .ix _=>none
 | .fld _ n=>some n
theorem J5d:∀{s:List Sel} {m k:Mode} {x:Sel} {q:Mode},J12 m s=some k→Jgn k (Jsh x)=some q→J12 m (s++ [x])=some q
 | [],m,k,x,q,h1,h2=>by
  cases (show some m=some k from h1)
  cases m with
  | O a=>cases (show some a=some q from h2);cases x <;> rfl
  | B n a r=>
   cases x with
   | ix _=>cases h2
   | fld c y=>
    have h3:J15 (.B n a r) y=some q:=h2
    show (J15 (.B n a r) y).bind (fun t=>J12 t [])=some q
    rw [h3];rfl
  | _=>cases h2
 | y::s,m,k,x,q,h1,h2=>by
  cases m with
  | O a=>cases y <;> exact J5d (s:=s) (m:=a) h1 h2
  | B n a r=>
   cases y with
   | ix _=>cases h1
   | fld c t=>
    have h1': (J15 (.B n a r) t).bind (fun q=>J12 q s)=some k:=h1
    obtain ⟨u,e1,e2⟩:=bnd h1'
    show (J15 (.B n a r) t).bind (fun q=>J12 q (s++ [x]))=some q
    rw [e1]
    exact J5d (s:=s) e2 h2
  | _=>cases y <;> cases h1
theorem J56 {m:Mode}:∀{p:Pl} {Γ:Gam} {s:List Sel} {k:Mode},J46 p Γ=some s→J73 m p=some k→J12 m s=some k
 | .nm i,Γ,s,k,h1,h2=>by
  cases (show some []=some s from h1);exact h2
 | .ix p j,Γ,s,k,h1,h2=>by
  have h1': (J46 p Γ).bind (fun s=>(Jl j Γ).map fun j=>s++ [.ix j])=some s:=h1
  obtain ⟨t,e1,e2⟩:=bnd h1'
  obtain ⟨u,e3,e4⟩:=bnd h2
  cases e5:Jl j Γ with
  | none=>rw [e5] at e2;cases e2
  | some v=>
   rw [e5] at e2
   cases e2
   exact J5d (J56 e1 e3) e4
 | .fld p c n,Γ,s,k,h1,h2=>by
  have h1': (J46 p Γ).map (fun s=>s++ [Sel.fld c n])=some s:=h1
  obtain ⟨u,e3,e4⟩:=bnd h2
  cases e5:J46 p Γ with
  | none=>rw [e5] at h1';cases h1'
  | some v=>
   rw [e5] at h1'
   cases h1'
   exact J5d (J56 e5 e3) e4
section
variable {S:Sx} {fs:List Fn} {X:Cx} {w:Wh}
theorem J74 (o:XOk S fs X w) {μ:List Mode}:∀{p:Pl} {e:Expr},Jbm S μ p e=some ()→DPl X μ e p.root (J46 p)
 | .nm i,e,h=>by
  obtain ⟨x,e1,g⟩:=bnd h
  obtain ⟨p,rfl⟩:=Jq e1
  obtain ⟨c,g⟩:=J1 g
  obtain ⟨n1,n2,n3,n4⟩:=J37 o c
  exact DPl.name n1 n2 n3 n4
 | .ix q j,e,h=>by
  obtain ⟨⟨x,y⟩,e1,g⟩:=bnd h
  obtain ⟨p,rfl⟩:=J36 e1
  obtain ⟨c,g⟩:=J1 g
  obtain ⟨_,h1,g⟩:=bnd g
  exact DPl.ix (J74 o h1) (J3l o g) (J2c c)
 | .fld q k n,e,h=>by
  obtain ⟨⟨x,y⟩,e1,g⟩:=bnd h
  obtain ⟨p,rfl⟩:=J7p e1
  obtain ⟨c,g2⟩:=J1 g
  rw [Zb,Zb] at c
  have c':y=n:=Zd c.1
  subst c'
  have f:=o.fl k y (by simpa using c.2.2)
  exact DPl.fld (J74 o g2) f.1 f.2 (Jnc c.2.1 _ _)
end
noncomputable def AO.oper:AO→Operator
 | .add=> .Add | .sub=> .Sub | .mul=> .Mult | .cat=> .Add
noncomputable def AO.op:AO→D→D→Option D
 | .add=>Jk0 | .sub=>Jk1 | .mul=>Jk3 | .cat=>fun _ _=>none
noncomputable def AO.fn:AO→Option (Int→Int→Int)
 | .add=>some fun i j=>i + j
 | .sub=>some fun i j=>i - j
 | _=>none
mutual
inductive Sm where
  | pass | brk | expr (e:Ex) | ret (e:Ex) | ite (t:Tx) (a b:Sms) | whl (n:Gam→Nat) (t:Tx) (b:Sms) | for_ (it:Ix) (t:Tg) (b:Sms) | asg (t:Tg) (e:Ex) | setLc (i:Nat) (own:List Nat) (it:Ix) (t:Tg) (c:Cx1) (e:Ex) | store (p:Pl) (j:Px) (e:Ex) | aug (o:AO) (p:Pl) (j:Px) (e:Ex) | at_ (μ:List Mode) (s:Sm) | dput (p:Pl) (j e:Ex) | asg2 (i j:Nat) (e:Ex) | raise (c w:Str) | tryM (μt:List Mode) (b:Sms) (hs:Hs)
inductive Sms where
  | nil | cons (s:Sm) (r:Sms) | wipe (vs:List Nat) (r:Sms) | iteD (t:Tx) (a b ra rb:Sms) | deadS
inductive Hs where
  | nil | cons (c:Str) (tab:List (Str × Bool)) (s:Sms) (r:Hs)
inductive HsA where
  | nil | cons (c:Str) (tab:List (Str × Bool)) (s:Sms) (r:HsA)
end
mutual
noncomputable def ex (fs:List Fn):Sm→Gam→Sz
 | .pass=>Jfs
 | .brk=> .bk
 | .expr e=>sE (ev fs e)
 | .ret e=>Jjv (ev fs e)
 | .ite t a b=>sIf (evT fs t) (exs fs a) (exs fs b)
 | .whl n t b=>fun Γ=>J24 (evT fs t) (exs fs b) (n Γ) Γ
 | .for_ it t b=>Jfv (evI fs it) (evG t) (exs fs b)
 | .asg t e=>Jb1 (ev fs e) (evG t)
 | .setLc i own it t c e=>Jb1 (eLc (evI fs it) (evG t) (evC fs c) (ev fs e) own) (Jft i)
 | .store p j e=>Jd6 (ev fs e) p.root (J46 p) (Jl j)
 | .aug o p j e=>Jb5 ((o.fn).getD fun i _=>i) (ev fs e) p.root (J46 p) (Jl j)
 | .at_ _ s=>ex fs s
 | .dput p j e=>Jg8 (ev fs e) p.root (J46 p) (ev fs j)
 | .asg2 i j e=>Jg9 (ev fs e) i j
 | .raise c w=>Jii c w
 | .tryM _ b hs=>Jal (exs fs b) (exH fs hs)
noncomputable def exs (fs:List Fn):Sms→Gam→Sz
 | .nil=>Jfs
 | .cons s .nil=>ex fs s
 | .cons s r=>J1p (ex fs s) (exs fs r)
 | .wipe vs r=>fun Γ=>exs fs r (Jf Γ vs)
 | .deadS=>fun _=> .bad
 | .iteD t a b ra rb=>sIf (evT fs t) (J1p (exs fs a) (exs fs ra)) (J1p (exs fs b) (exs fs rb))
noncomputable def exH (fs:List Fn):Hs→List Hnd
 | .nil=> []
 | .cons c tab s r=>(c,tab,exs [] s)::exH fs r
noncomputable def Jgo (fs:List Fn):HsA→List Jbl
 | .nil=> []
 | .cons c tab s r=>(c,tab,none,exs [] s)::Jgo fs r
end
theorem DSs.wipe {X:Cx} {z:Ws} {μ μ':List Mode} {sts:List Stmt} {f:Gam→Sz} {vs:List Nat} (h:DSs X z (J2 μ vs) sts f μ'):DSs X z μ sts (fun Γ=>f (Jf Γ vs)) μ':=by
 refine ⟨h.ps.imp fun D σ H ⟨hp,B,Γ,fp,st,q⟩=>?_⟩
 obtain ⟨fp',st',sb⟩:=st.st.drop vs
 exact ⟨hp,B,Jf Γ vs,fp',⟨st.same,st',sb.nodup st.nd⟩,q.after ((Stp.refl B H fp).less fun a h=>sb.subset h)⟩
structure Zx where
 rm:Mode
 μr:List Mode
 μb:List Mode
 μc:List Mode
 io:List Bool
noncomputable def Zx.loop (Y:Zx) (μ:List Mode):Zx:={ Y with μb:=μ,μc:=μ}
structure ZOk (S:Sx) (fs:List Fn) (Y:Zx) (X:Cx) (z:Ws):Prop where
 x:XOk S fs X z.w
 rm:z.rm=Y.rm
 r:z.μr=Y.μr
 b:z.μb=Y.μb
 c:z.μc=Y.μc
 pin:∀i,Y.io.getD i false=false→J4g z.pin i
 own:S.calm=true→PassesOwn (model X.prog X.w) X.A X.env X.xe
 stk:X.stack=X.env::X.outer
 frm:X.env.frame=some X.env.locals
 kind:X.env.scope.kind= .function
theorem ZOk.loop {S:Sx} {fs:List Fn} {Y:Zx} {X:Cx} {z:Ws} (o:ZOk S fs Y X z) (μ:List Mode):ZOk S fs (Y.loop μ) X (z.loop μ):=⟨o.x,o.rm,o.r,rfl,rfl,o.pin,o.own,o.stk,o.frm,o.kind⟩
noncomputable def joinM (m m':Mode):Mode:=if m=m' then m else match m,m' with
 | .U,k=>if k= .X then .X else k
 | k,.U=>if k= .X then .X else k
 | .X,_=> .X
 | _,.X=> .X
 | _,_=> .F
noncomputable def joinL:List Mode→List Mode→List Mode
 | m::μ,m'::μ'=>joinM m m'::joinL μ μ'
 | _,_=> []
noncomputable abbrev Om:=Option (List Mode)
noncomputable def okM (r:Om) (μ':List Mode):Bool:=match r with
 | none=>true
 | some μ=>J6 μ μ'
noncomputable def Jdu:Hs→Bool
 | .nil=>true
 | _=>false
noncomputable def Jgp:Stmt→Option (List Stmt × ExceptHandler × List ExceptHandler)
 | .Try body (h::hs) [] [] _=>some (body,h,hs)
 | _=>none
theorem Jgq {st:Stmt} {body:List Stmt} {hd:ExceptHandler} {hs:List ExceptHandler} (h:Jgp st=some (body,hd,hs)):∃p,st= .Try body (hd::hs) [] [] p:=by
 unfold Jgp at h;split at h
 ·cases h;exact ⟨_,rfl⟩
 ·cases h
noncomputable def Jgr:ExceptHandler→Option (Str × Stmt × List Stmt)
 | .ExceptHandler (some (.Name x _)) none (b0::suite) _=>some (x,b0,suite)
 | _=>none
theorem Jca {hd:ExceptHandler} {x:Str} {b0:Stmt} {suite:List Stmt} (h:Jgr hd=some (x,b0,suite)):∃np p1,hd= .ExceptHandler (some (.Name x np)) none (b0::suite) p1:=by
 unfold Jgr at h;split at h
 ·cases h;exact ⟨_,_,rfl⟩
 ·cases h
noncomputable def Jbn:HsA→Bool
 | .nil=>true
 | _=>false
noncomputable def Jam (r1 r2:Om):Option Om:=match r1,r2 with
 | none,r=>some r
 | r,none=>some r
 | some m1,some m2=>grd (J6 m1 (joinL m1 m2) && J6 m2 (joinL m1 m2)) (some (some (joinL m1 m2)))
noncomputable def Jgs (f:List Mode→Option Om):Nat→List Mode→Option (List Mode)
 | 0,μ=>some μ
 | n + 1,μ=>(f μ).bind fun r=>match r with
  | none=>some μ
  | some μ'=>if J6 μ' μ=true then some μ else Jgs f n (joinL μ μ')
noncomputable def swB (sc:Scope) (t e:Expr):Bool:=!J6x e || (match t,e with
 | .Attribute _ _ _,_=>true
 | .Name x p,.ListComp _ _ _ q=>!(p.line == q.line) || decide (sc.names.lookup x=some .cell)
 | .Name x p,.DictComp _ _ _ _ q=>!(p.line == q.line) || decide (sc.names.lookup x=some .cell)
 | _,_=>false)
noncomputable def Jma:Expr→Nat
 | .Name _ p=>p.line
 | .ListComp _ _ _ p=>p.line
 | .DictComp _ _ _ _ p=>p.line
 | _=>0
noncomputable def Jq9:Mode→Bool
 | .Z=>true
 | .F=>true
 | .O _=>true
 | _=>false
noncomputable def Jl8:List Stmt→Option (Expr × List Stmt × List Stmt × List Stmt)
 | .If c body orelse _::rest=>some (c,body,orelse,rest)
 | _=>none
theorem Jik {l:List Stmt} {c:Expr} {body orelse rest:List Stmt} (h:Jl8 l=some (c,body,orelse,rest)):∃p,l= .If c body orelse p::rest:=by
 unfold Jl8 at h
 split at h
 ·cases h;exact ⟨_,rfl⟩
 ·cases h
mutual
noncomputable def ckS (S:Sx):Zx→Sm→Stmt→List Mode→Option Om
 | Y,.pass,st,μ=>match st with
  | .Pass _=>some (some μ)
  | _=>none
 | Y,.brk,st,μ=>match st with
  | .Break _=>grd (J6 μ Y.μb) (some none)
  | _=>none
 | Y,.expr e,st,μ=>match st with
  | .Expr x _=>grd (!J6x x) ((ckE S e x μ).bind fun r=>some (some r.2))
  | _=>none
 | Y,.ret e,st,μ=>match st with
  | .Return (some x) _=>(ckE S e x μ).bind fun r=>grd (EV.sub r.1 Y.rm && J6 r.2 Y.μr) (some none)
  | _=>none
 | Y,.ite t a b,st,μ=>match st with
  | .If c body orelse _=>(ckT S t c μ).bind fun μ1=>(J2s S Y a body μ1).bind fun r1=>(J2s S Y b orelse μ1).bind fun r2=>Jam r1 r2
  | _=>none
 | Y,.whl n t b,st,μ=>match st with
  | .While c body [] _=>grd S.calm <| (Jgs (fun k=>(ckT S t c k).bind fun k1=>J2s S (Y.loop k1) b body k1) 3 μ).bind fun k=>grd (J6 μ k) ((ckT S t c k).bind fun k1=>grd (decide (k1=k)) ((J2s S (Y.loop k) b body k).bind fun r=>grd (okM r k) (some (some k))))
  | _=>none
 | Y,.for_ it t b,st,μ=>match st with
  | .For tg iter body [] _=>grd S.calm <| grd (Jcu iter) ((ckI S it tg iter μ).bind fun r0=>(Jgs (fun k=>(ckG S (fun i=>!(Y.io.getD i false)) t tg r0.1 k).bind fun k1=>J2s S (Y.loop k) b body k1) 3 r0.2).bind fun k=>grd (J6 r0.2 k) ((ckG S (fun i=>!(Y.io.getD i false)) t tg r0.1 k).bind fun k1=>(J2s S (Y.loop k) b body k1).bind fun r=>grd (okM r k) (some (some k))))
  | _=>none
 | Y,.asg t e,st,μ=>match st with
  | .Assign [tg] x _=>grd (swB S.sc tg x && (Ji tg && (!Jhr tg || (Ja9 tg && !Ja9 x)))) ((ckE S e x μ).bind fun r=>(ckG S (fun i=>!(Y.io.getD i false)) t tg r.1 r.2).bind fun k=>some (some k))
  | _=>none
 | Y,.setLc i own it t c e0,st,μ=>match st with
  | .Assign [tgt] x _=>(J26 tgt).bind fun y=>(pLc x).bind fun q=>grd S.calm <| grd (decide (S.N[i]? =some y) && (decide (S.sc.names.lookup y=some .local) && (!(Y.io.getD i false) && (Jma tgt == Jma x && !(q.2.2.2.2.names.any fun (n,k)=>n == y && (k == .local || k == .cell))))))
   (grd (blkC S.N S.sc q.2.2.2.2 (J6n S.N own) && (Jcu q.2.2.1 && decide ((J6n S.N own).map (·.2)=own)))
   ((ckI S it q.2.1 q.2.2.1 μ).bind fun r=>grd (Je r.2 own)
    ((ckG (S.blk q.2.2.2.2 []) (fun i=>own.contains i) t q.2.1 r.1 (J2 r.2 own)).bind fun μt=>grd (Je μt own)
     ((ckC (S.blk q.2.2.2.2 μt) c q.2.2.2.1 μt).bind fun μt'=>grd (decide (μt'=μt))
      ((ckE (S.blk q.2.2.2.2 μt) e0 q.1 μt).bind fun s=>grd (Je s.2 own && (J6 (J2 s.2 own) (J2 r.2 own) && (J6 (J2 μt own) (J2 r.2 own) && decide (i < (J2p r.2 (J2 r.2 own) own).length)))) (some (some ((J2p r.2 (J2 r.2 own) own).set i (.O s.1)))))))))
  | _=>none
 | Y,.store p j e,st,μ=>match st with
  | .Assign [tgt] x _=>(J7n tgt).bind fun q=>grd (true && J35 q.2) ((ckE S e x μ).bind fun r=>(Jbm S r.2 p q.1).bind fun _=>(J6m S r.2 j q.2).bind fun _=>(r.2[p.root]?).bind fun mi=>grd (decide (nX mi)) ((J73 mi p).bind fun k=>grd (decide (k= .O r.1)) (some (some r.2))))
  | _=>none
 | Y,.aug o p j e,st,μ=>match st with
  | .AugAssign tgt op x _=>(J7n tgt).bind fun q=>grd (decide (op=o.oper) && (o.fn.isSome && J35 q.2)) ((Jbm S μ p q.1).bind fun _=>(J6m S μ j q.2).bind fun _=>(μ[p.root]?).bind fun mi=>grd (decide (nX mi)) ((J73 mi p).bind fun k=>(oM (some k)).bind fun mc=>grd (Jq9 mc) ((ckE S e x (μ.set p.root .U)).bind fun r=>grd (decide (r.2[p.root]? =some .U)) (some (some (r.2.set p.root mi))))))
  | _=>none
 | Y,.at_ μ1 s,st,μ=>grd (J6 μ μ1) (ckS S Y s st μ1)
 | Y,.dput p j e,st,μ=>match st with
  | .Assign [tgt] x _=>(J7n tgt).bind fun q=>grd (!J6x x && J35 q.2) ((ckE S e x μ).bind fun r=>(Jbm S r.2 p q.1).bind fun _=>(r.2[p.root]?).bind fun mi=>grd (decide (nX mi) && J1k r.1) ((J73 mi p).bind fun k=>grd (decide (k= .K r.1)) ((ckE S j q.2 (r.2.set p.root .U)).bind fun t=>grd (decide (t.1= .F) && decide (t.2[p.root]? =some .U)) (some (some (t.2.set p.root mi))))))
  | _=>none
 | Y,.asg2 i j ex,st,μ=>match st with
  | .Assign [t1,t2] x _=>(J26 t1).bind fun y1=>(J26 t2).bind fun y2=>grd (decide (S.N[i]? =some y1) && (decide (S.N[j]? =some y2) && (J9m S y1 && (J9m S y2 && (!(Y.io.getD i false) && !(Y.io.getD j false))))))
   ((ckE S ex x μ).bind fun r=>grd (J1k r.1 && (decide (i < r.2.length) && decide (j < r.2.length))) (some (some ((r.2.set i r.1).set j r.1))))
  | _=>none
 | Y,.raise c w,st,μ=>match st with
  | .Raise (some (.Call (.Name x _) [] [] _)) none _=>grd (S.calm && (decide (x=c) && (glB S c && (S.ex.contains (c,w) && J6 μ S.μx)))) (some none)
  | _=>none
 | Y,.tryM μt b hs,st,μ=>(Jgp st).bind fun q=>grd (S.calm && J6 μt S.μx)
   ((J2s { S with μx:=μt} Y b q.1 μ).bind fun r1=>(ckH { S with μx:=μt,calm:=false,fs:= [],ex:= [],exf:= []} Y hs (q.2.1::q.2.2) μt).bind fun r2=>Jam r1 r2)
noncomputable def ckH (S:Sx):Zx→Hs→List ExceptHandler→List Mode→Option Om
 | _,.nil,_,_=>none
 | Y,.cons c tab s r,hds,μt=>hds.head?.bind fun hd=>(Jgr hd).bind fun q=>grd (decide (q.1=c) && (glB S c && (!tab.isEmpty && tab.all fun z=>S.exm.contains (z.1,c,z.2))))
   ((J2s S Y s (q.2.1::q.2.2) μt).bind fun r2=>if Jdu r=true then grd hds.tail.isEmpty (some r2)
    else (ckH S Y r hds.tail μt).bind fun r3=>grd (decide (r3=r2)) (some r2))
noncomputable def Jl9 (S:Sx):Zx→HsA→List ExceptHandler→List Mode→Option Om
 | _,.nil,_,_=>none
 | Y,.cons c tab s r,hds,μt=>hds.head?.bind fun hd=>(Jgr hd).bind fun q=>grd (decide (q.1=c) && (glB S c && (!tab.isEmpty && tab.all fun z=>S.exm.contains (z.1,c,z.2))))
   ((J2s S Y s (q.2.1::q.2.2) μt).bind fun r2=>if Jbn r=true then grd hds.tail.isEmpty (some r2)
    else (Jl9 S Y r hds.tail μt).bind fun r3=>grd (decide (r3=r2)) (some r2))
noncomputable def J2s (S:Sx):Zx→Sms→List Stmt→List Mode→Option Om
 | Y,.nil,sts,μ=>grd sts.isEmpty (some (some μ))
 | Y,.wipe vs r,sts,μ=>J2s S Y r sts (J2 μ vs)
 | Y,.deadS,sts,μ=>some none
 | Y,.iteD t a b ra rb,sts,μ=>(Jl8 sts).bind fun q=>(ckT S t q.1 μ).bind fun μ1=>(J2s S Y a q.2.1 μ1).bind fun o1=>o1.bind fun μa=>(J2s S Y b q.2.2.1 μ1).bind fun o2=>o2.bind fun μb=>
   (J2s S Y ra q.2.2.2 μa).bind fun r1=>(J2s S Y rb q.2.2.2 μb).bind fun r2=>Jam r1 r2
 | Y,.cons s r,sts,μ=>(match sts with
  | st::_=>some st
  | []=>none).bind fun st=>(ckS S Y s st μ).bind fun o=>(match o with
  | some μ1=>J2s S Y r sts.tail μ1
  | none=>grd sts.tail.isEmpty (match r with
   | .nil=>some none
   | _=>none))
end
theorem Jqa {sc:Scope} {t e:Expr} (h:swB sc t e=true) (l:Nat) (env:Env) (hs:env.scope=sc):swapsWithSole [t] e l env=pure false:=by
 show swapsWith e (some t) l env=pure false
 unfold swB at h
 rw [Bool.or_eq_true] at h
 rcases h with h | h
 ·exact Jdb (by simpa using h) _ _ _
 ·split at h
  ·exact Jg0 _ _ _ _ _ _
  ·rename_i x c p a b s q
   rw [Bool.or_eq_true] at h
   rcases h with h | h
   ·have h': (p.line == q.line)=false:=by simpa using h
    unfold swapsWith
    simp only [Expr.pos,h',Bool.and_false,Bool.false_and]
   ·have h':env.kindOf c=some .cell:=by unfold Env.kindOf;rw [hs];exact Zd h
    have e0: (env.kindOf c == some NameKind.local)=false:=by rw [h'];rfl
    unfold swapsWith
    simp only [e0,Bool.and_false,Bool.false_and]
  ·rename_i x c p a b k s q
   rw [Bool.or_eq_true] at h
   rcases h with h | h
   ·have h': (p.line == q.line)=false:=by simpa using h
    unfold swapsWith
    simp only [Expr.pos,h',Bool.and_false,Bool.false_and]
   ·have h':env.kindOf c=some .cell:=by unfold Env.kindOf;rw [hs];exact Zd h
    have e0: (env.kindOf c == some NameKind.local)=false:=by rw [h'];rfl
    unfold swapsWith
    simp only [e0,Bool.and_false,Bool.false_and]
  ·cases h
theorem Jnv {m:Mode} (h:Jq9 m=true):m= .Z∨m= .F∨∃k,m= .O k:=by
 cases m with
 | Z=>exact .inl rfl
 | F=>exact .inr (.inl rfl)
 | O k=>exact .inr (.inr ⟨k,rfl⟩)
 | _=>cases h
theorem Jqb {X:Cx} {o:AO} {f:Int→Int→Int} (h:o.fn=some f):PIp X o.oper (ipI f):=by
 cases o with
 | add=>cases h;exact ip_add
 | sub=>cases h;exact ip_sub
 | mul=>cases h
 | cat=>cases h
theorem Jil {X:Cx} {z:Ws} {μ k:List Mode} {sts:List Stmt} {f:Gam→Sz} {r:Om} (h:∀μ',(∀μ1,r=some μ1→μ1=μ')→DSs X z μ sts f μ') (c:okM r k=true):DSs X z μ sts f k:=by
 cases r with
 | none=>exact h k fun _ e=>nomatch e
 | some m=>exact (h m fun _ e=>by cases e;rfl).weak c
theorem J4d {μ':List Mode}:∀μ1,(none:Om)=some μ1→μ1=μ':=fun _ e=>nomatch e
theorem J2w {μ:List Mode}:∀μ1,(some μ:Om)=some μ1→μ1=μ:=fun _ e=>by cases e;rfl
theorem Jdv {X:Cx} {z:Ws} {μ:List Mode} {st:Stmt} {f:Gam→Sz} {r1 r2 r:Om} (h:Jam r1 r2=some r)
  (H:∀μ'',(∀{X1:Cx} {z1:Ws} {μa:List Mode} {sts:List Stmt} {fa:Gam→Sz},(∀μ',(∀μ1,r1=some μ1→μ1=μ')→DSs X1 z1 μa sts fa μ')→DSs X1 z1 μa sts fa μ'')→(∀{X1:Cx} {z1:Ws} {μa:List Mode} {sts:List Stmt} {fa:Gam→Sz},(∀μ',(∀μ1,r2=some μ1→μ1=μ')→DSs X1 z1 μa sts fa μ')→DSs X1 z1 μa sts fa μ'')→DS X z μ st f μ'')
  (_:∀{μ1 μ2:List Mode},DS X z μ st f μ1→J6 μ1 μ2=true→DS X z μ st f μ2) (μ':List Mode) (k:∀μ1,r=some μ1→μ1=μ'):DS X z μ st f μ':=by
 cases r1 with
 | none=>
  cases r2 with
  | none=>exact H μ' (fun h=>h μ' J4d) (fun h=>h μ' J4d)
  | some m2=>
   cases h
   cases k _ rfl
   exact H _ (fun h=>h _ J4d) (fun h=>h _ J2w)
 | some m1=>
  cases r2 with
  | none=>
   cases h
   cases k _ rfl
   exact H _ (fun h=>h _ J2w) (fun h=>h _ J4d)
  | some m2=>
   obtain ⟨c,g⟩:=J1 h
   cases g
   cases k _ rfl
   rw [Zb] at c
   exact H _ (fun h=>(h m1 J2w).weak c.1) (fun h=>(h m2 J2w).weak c.2)
theorem Jim {X:Cx} {z:Ws} {μ:List Mode} {st:List Stmt} {f:Gam→Sz} {r1 r2 r:Om} (h:Jam r1 r2=some r)
  (H:∀μ'',(∀{X1:Cx} {z1:Ws} {μa:List Mode} {sts:List Stmt} {fa:Gam→Sz},(∀μ',(∀μ1,r1=some μ1→μ1=μ')→DSs X1 z1 μa sts fa μ')→DSs X1 z1 μa sts fa μ'')→(∀{X1:Cx} {z1:Ws} {μa:List Mode} {sts:List Stmt} {fa:Gam→Sz},(∀μ',(∀μ1,r2=some μ1→μ1=μ')→DSs X1 z1 μa sts fa μ')→DSs X1 z1 μa sts fa μ'')→DSs X z μ st f μ'')
  (_:∀{μ1 μ2:List Mode},DSs X z μ st f μ1→J6 μ1 μ2=true→DSs X z μ st f μ2) (μ':List Mode) (k:∀μ1,r=some μ1→μ1=μ'):DSs X z μ st f μ':=by
 cases r1 with
 | none=>
  cases r2 with
  | none=>exact H μ' (fun h=>h μ' J4d) (fun h=>h μ' J4d)
  | some m2=>
   cases h
   cases k _ rfl
   exact H _ (fun h=>h _ J4d) (fun h=>h _ J2w)
 | some m1=>
  cases r2 with
  | none=>
   cases h
   cases k _ rfl
   exact H _ (fun h=>h _ J2w) (fun h=>h _ J4d)
  | some m2=>
   obtain ⟨c,g⟩:=J1 h
   cases g
   cases k _ rfl
   rw [Zb] at c
   exact H _ (fun h=>(h m1 J2w).weak c.1) (fun h=>(h m2 J2w).weak c.2)
theorem lookup_mem {α β:Type} [BEq α] [LawfulBEq α] {a:α} {b:β}:∀{l:List (α × β)},l.lookup a=some b→(a,b)∈l
 | (x,y)::l,h=>by
  rw [List.lookup_cons] at h
  split at h
  ·rename_i e
   cases h
   rw [eq_of_beq e]
   exact Zs
  ·exact Zc _ (lookup_mem h)
theorem Jmb {hds:List ExceptHandler} {x:ExceptHandler} (h:hds.head? =some x):hds=x::hds.tail:=by
 cases hds with
 | nil=>cases h
 | cons a r=>cases h;rfl
mutual
theorem J5q:∀ (s:Sm) {S:Sx} {fs:List Fn} {Y:Zx} {X:Cx} {z:Ws} {st:Stmt} {μ:List Mode} {r:Om},ZOk S fs Y X z→ckS S Y s st μ=some r→∀μ',(∀μ1,r=some μ1→μ1=μ')→DS X z μ st (ex fs s) μ'
 | .pass,S,fs,Y,X,z,st,μ,r,o,h,μ',k=>by
  cases st <;> first | (cases h;done) | skip
  cases h
  cases k _ rfl
  exact DS.pass
 | .brk,S,fs,Y,X,z,st,μ,r,o,h,μ',k=>by
  cases st <;> first | (cases h;done) | skip
  obtain ⟨c,g⟩:=J1 h
  exact DS.brk (by rw [o.b];exact c)
 | .expr e,S,fs,Y,X,z,st,μ,r,o,h,μ',k=>by
  cases st <;> first | (cases h;done) | skip
  obtain ⟨c,g⟩:=J1 h
  obtain ⟨r1,h1,g⟩:=bnd g
  cases g
  cases k _ rfl
  exact (DS.expr (J3 e o.x h1) (Jdb (by simpa using c) _ _ _))
 | .ret e,S,fs,Y,X,z,st,μ,r,o,h,μ',k=>by
  cases st <;> first | (cases h;done) | skip
  rename_i v p
  cases v with
  | none=>cases h
  | some x=>
   obtain ⟨r1,h1,g⟩:=bnd h
   obtain ⟨c,g⟩:=J1 g
   rw [Zb] at c
   have q:=J3 e o.x h1
   exact DS.ret (by rw [o.rm];exact q.sub c.1) (by rw [o.r];exact c.2)
 | .ite t a b,S,fs,Y,X,z,st,μ,r,o,h,μ',k=>by
  cases st <;> first | (cases h;done) | skip
  obtain ⟨μ1,h0,g⟩:=bnd h
  obtain ⟨r1,h1,g⟩:=bnd g
  obtain ⟨r2,h2,g⟩:=bnd g
  have q0:=J1a t o.x h0
  exact Jdv g (fun μ'' w1 w2=>DS.ite q0 (w1 (Jy a o h1)) (w2 (Jy b o h2))) (fun d c=>d.weak c) μ' k
 | .whl n t b,S,fs,Y,X,z,st,μ,r,o,h,μ',k=>by
  cases st <;> first | (cases h;done) | skip
  rename_i c body orelse p
  cases orelse with
  | cons _ _=>cases h
  | nil=>
   obtain ⟨cc,g⟩:=J1 h
   obtain ⟨k0,_,g⟩:=bnd g
   obtain ⟨c1,g⟩:=J1 g
   obtain ⟨k1,h1,g⟩:=bnd g
   obtain ⟨c2,g⟩:=J1 g
   obtain ⟨r1,h2,g⟩:=bnd g
   obtain ⟨c3,g⟩:=J1 g
   cases g
   rw [Zd c2] at h1
   have q:=Jil (Jy b (o.loop k0) h2) c3
   cases k _ rfl
   exact ((DS.whil (o.own cc) (J1a t o.x h1) q).ahead c1)
 | .for_ it t b,S,fs,Y,X,z,st,μ,r,o,h,μ',k=>by
  cases st <;> first | (cases h;done) | skip
  rename_i tg iter body orelse p
  cases orelse with
  | cons _ _=>cases h
  | nil=>
   obtain ⟨cc,g⟩:=J1 h
   obtain ⟨c0,g⟩:=J1 g
   obtain ⟨r0,h0,g⟩:=bnd g
   obtain ⟨k0,_,g⟩:=bnd g
   obtain ⟨c1,g⟩:=J1 g
   obtain ⟨k1,h1,g⟩:=bnd g
   obtain ⟨r1,h2,g⟩:=bnd g
   obtain ⟨c3,g⟩:=J1 g
   cases g
   have q:=Jil (Jy b (o.loop k0) h2) c3
   cases k _ rfl
   refine (DS.for_ (o.own cc) (o.x.calm cc) (Jdt it o.x h0) c1 (J5o o.x (fun i hi σ s hq=>PinOk.set hq (o.pin i (by simpa using hi))) t h1) q (Jb8 c0 _))
 | .asg t e,S,fs,Y,X,z,st,μ,r,o,h,μ',k=>by
  cases st <;> first | (cases h;done) | skip
  rename_i tgs x p
  rcases tgs with _ | ⟨tg,_ | ⟨_,_⟩⟩ <;> first | (cases h;done) | skip
  obtain ⟨c0,g⟩:=J1 h
  obtain ⟨r0,h0,g⟩:=bnd g
  obtain ⟨k1,h1,g⟩:=bnd g
  cases g
  rw [Zb,Zb] at c0
  cases k _ rfl
  refine (DS.asg (J3 e o.x h0) (J5o o.x (fun i hi σ s hq=>PinOk.set hq (o.pin i (by simpa using hi))) t h1) (Jqa c0.1 _ _ o.x.sc) (J5l ?_ _) (J4u c0.2.1 _))
  have c:=c0.2.2
  rw [Bool.or_eq_true] at c
  rcases c with c | c
  ·exact .inl (by simpa using c)
  ·exact .inr c
 | .setLc i own it t c e0,S,fs,Y,X,z,st,μ,r,o,h,μ',k=>by
  cases st <;> first | (cases h;done) | skip
  rename_i tgs x p
  rcases tgs with _ | ⟨tgt,_ | ⟨_,_⟩⟩ <;> first | (cases h;done) | skip
  obtain ⟨y,e1,g0⟩:=bnd h
  obtain ⟨py,rfl⟩:=Jq e1
  obtain ⟨⟨elt,tg,iter,ifs,scope⟩,e2,g1⟩:=bnd g0
  obtain ⟨px,rfl⟩:=Jdp e2
  obtain ⟨cc,g⟩:=J1 g1
  obtain ⟨c0,g⟩:=J1 g
  obtain ⟨c1,g⟩:=J1 g
  obtain ⟨⟨m,μ1⟩,h1,g⟩:=bnd g
  obtain ⟨c2,g⟩:=J1 g
  obtain ⟨μt,h2,g⟩:=bnd g
  obtain ⟨c3,g⟩:=J1 g
  obtain ⟨μt',h3,g⟩:=bnd g
  obtain ⟨c4,g⟩:=J1 g
  obtain ⟨⟨me,μe⟩,h4,g⟩:=bnd g
  obtain ⟨c5,g⟩:=J1 g
  cases g
  dsimp only at *
  rw [Zd c4] at h3
  rw [Zb,Zb,Zb,Zb] at c0
  rw [Zb,Zb] at c1
  rw [Zb,Zb,Zb] at c5
  obtain ⟨a1,a2,a3,a4,a5⟩:=c0
  have eo: (J6n S.N own).map (·.2)=own:=Zd c1.2.2
  have ok:BlkOk X.N X.env.scope scope (J6n S.N own):=by rw [o.x.n,o.x.sc];exact blkOk_by c1.1
  have yl:X.env.scope.names.lookup y=some .local:=by rw [o.x.sc];exact Zd a2
  have pin:J4g z.pin i:=o.pin i (by simpa using a3)
  have:=DS.setLc (X:=X) (z:=z) (i:=i) (y:=y) (py:=py) (spos:=p) (own:=J6n S.N own) (pos:=px) (μ:=μ) (t:=evG t) (m:=m) (μt:=μt) (me:=me) (μe:=μe) (fe:=ev fs e0) (tt:=evC fs c) (μ1:=μ1) (o.x.calm cc) (by rw [o.x.n];exact o.x.nd) (by rw [o.x.n];exact Zd a1) yl
   (sw_true o.kind yl a4 (by simpa using a5)) ok (Jdt it o.x h1) (by rw [eo];exact c2) (by rw [eo];exact c5.1) (by rw [eo];exact c3) (by rw [eo];exact c5.2.1) (by rw [eo];exact c5.2.2.1)
   (fun s H C cl fp σ0=>by rw [eo];exact J5o (S:=S.blk scope []) (w:=wNo []) o.x.blk (st:=fun i=>own.contains i) (P:=fun τ=>L2.wipe τ own=L2.wipe σ0 own) (fun i hi σ s hq=>by show L2.wipe (σ.set i s) own=_;rw [J9f (by simpa using hi)];exact hq) t h2)
   (fun s H C cl fp=>Jih c (S:=S.blk scope μt) o.x.blk h3) (fun s H C cl fp=>J3 e0 (S:=S.blk scope μt) o.x.blk h4) (Jb8 c1.2.1 _) (fun σ s hq=>PinOk.set hq pin) (by rw [eo];exact Zd c5.2.2.2)
  rw [eo] at this
  cases k _ rfl
  exact this
 | .store pl j e,S,fs,Y,X,z,st,μ,r,o,h,μ',k=>by
  cases st <;> first | (cases h;done) | skip
  rename_i tgs x p
  rcases tgs with _ | ⟨tgt,_ | ⟨_,_⟩⟩ <;> first | (cases h;done) | skip
  obtain ⟨⟨ob,ib⟩,e1,g0⟩:=bnd h
  obtain ⟨ps,rfl⟩:=J36 e1
  obtain ⟨c0,g⟩:=J1 g0
  obtain ⟨r0,h0,g⟩:=bnd g
  obtain ⟨_,h1,g⟩:=bnd g
  obtain ⟨_,h2,g⟩:=bnd g
  obtain ⟨mi,h3,g⟩:=bnd g
  obtain ⟨c1,g⟩:=J1 g
  obtain ⟨mk,h4,g⟩:=bnd g
  obtain ⟨c2,g⟩:=J1 g
  cases g
  rw [Zb] at c0
  have c2':mk= .O r0.1:=Zd c2
  cases k _ rfl
  refine (DS.store (J3 e o.x h0) (J74 o.x h1) (J3l o.x h2) h3 (Zd c1) (fun Γ s hs=>by rw [← c2'];exact J56 hs h4) (fun v=>Jaa c0.2 _ v) (Jho ..) (J5l (.inl rfl) _) (J4u rfl _))
 | .aug op pl j e,S,fs,Y,X,z,st,μ,r,o,h,μ',k=>by
  cases st <;> first | (cases h;done) | skip
  rename_i tgt aop x p
  obtain ⟨⟨ob,ib⟩,e1,g0⟩:=bnd h
  obtain ⟨ps,rfl⟩:=J36 e1
  obtain ⟨c0,g⟩:=J1 g0
  obtain ⟨_,h1,g⟩:=bnd g
  obtain ⟨_,h2,g⟩:=bnd g
  obtain ⟨mi,h3,g⟩:=bnd g
  obtain ⟨c1,g⟩:=J1 g
  obtain ⟨mk,h4,g⟩:=bnd g
  obtain ⟨mc,h5,g⟩:=bnd g
  obtain ⟨c2,g⟩:=J1 g
  obtain ⟨r0,h6,g⟩:=bnd g
  obtain ⟨c3,g⟩:=J1 g
  cases g
  rw [Zb,Zb] at c0
  have e5:mk= .O mc:=by simpa using Jbg h5
  obtain ⟨f,hf⟩:=Option.isSome_iff_exists.mp c0.2.1
  have e6:aop=op.oper:=Zd c0.1
  subst e6
  have:=DS.aug (X:=X) (z:=z) (pos:=p) (tpos:=ps) (Jqb (X:=X) hf) (J3 e o.x h6) (J74 o.x h1) (J3l o.x h2) h3 (Zd c1) (fun Γ s hs=>by rw [← e5];exact J56 hs h4) (Jnv c2) (List.set_set ..) (Zd c3) (fun ov iv new=>Jht c0.2.2 ov iv new)
  show DS X z μ _ (Jb5 ((op.fn).getD fun i _=>i) (ev fs e) pl.root (J46 pl) (Jl j)) μ'
  rw [hf]
  cases k _ rfl
  exact this
 | .at_ μ1 s,S,fs,Y,X,z,st,μ,r,o,h,μ',k=>by
  obtain ⟨c0,g⟩:=J1 h
  exact (J5q s o g μ' k).ahead c0
 | .asg2 i j ex,S,fs,Y,X,z,st,μ,r,o,h,μ',k=>by
  cases st <;> first | (cases h;done) | skip
  rename_i tgs x p
  rcases tgs with _ | ⟨t1,_ | ⟨t2,_ | ⟨_,_⟩⟩⟩ <;> first | (cases h;done) | skip
  obtain ⟨y1,e1,g0⟩:=bnd h
  obtain ⟨p1,rfl⟩:=Jq e1
  obtain ⟨y2,e2,g1⟩:=bnd g0
  obtain ⟨p2,rfl⟩:=Jq e2
  obtain ⟨c0,g⟩:=J1 g1
  obtain ⟨r0,h0,g⟩:=bnd g
  obtain ⟨c9,g⟩:=J1 g
  cases g
  rw [Zb,Zb,Zb,Zb,Zb] at c0
  obtain ⟨a0,a1,a2,a3,a4,a5⟩:=c0
  rw [Zb,Zb] at c9
  have pi:J4g z.pin i:=o.pin i (by simpa using a4)
  have pj:J4g z.pin j:=o.pin j (by simpa using a5)
  cases k _ rfl
  exact DS.asg2 (J3 ex o.x h0) c9.1 (by rw [o.x.n];exact o.x.nd) (by rw [o.x.n];exact Zd a0) (by rw [o.x.sc];exact Jbh a2) (o.x.fnl y1 a2) (by rw [o.x.n];exact Zd a1) (by rw [o.x.sc];exact Jbh a3) (o.x.fnl y2 a3) (fun σ s hq=>PinOk.set hq pi) (fun σ s hq=>PinOk.set hq pj) (Zd c9.2.1) (Zd c9.2.2)
 | .dput pl j e,S,fs,Y,X,z,st,μ,r,o,h,μ',k=>by
  cases st <;> first | (cases h;done) | skip
  rename_i tgs x p
  rcases tgs with _ | ⟨tgt,_ | ⟨_,_⟩⟩ <;> first | (cases h;done) | skip
  obtain ⟨⟨ob,ib⟩,e1,g0⟩:=bnd h
  obtain ⟨ps,rfl⟩:=J36 e1
  obtain ⟨c0,g⟩:=J1 g0
  obtain ⟨⟨m0,μ1⟩,h0,g⟩:=bnd g
  obtain ⟨_,h1,g⟩:=bnd g
  obtain ⟨mi,h3,g⟩:=bnd g
  obtain ⟨c1,g⟩:=J1 g
  obtain ⟨kk,h4,g⟩:=bnd g
  obtain ⟨c2,g⟩:=J1 g
  obtain ⟨⟨m5,μ2⟩,h5,g⟩:=bnd g
  obtain ⟨c3,g⟩:=J1 g
  cases g
  dsimp only at *
  rw [Zb] at c0 c1 c3
  have c2':=Zd c2
  cases Zd c3.1
  cases k _ rfl
  exact DS.dput (by have:=o.x.room;omega) (J3 e o.x h0) c1.2 (J74 o.x h1) h3 (Zd c1.1) (fun Γ s hs=>by rw [← c2'];exact J56 hs h4) (J3 j o.x h5) (Zd c3.2) c0.2 (by simpa using c0.1)
 | .raise c w,S,fs,Y,X,z,st,μ,r,o,h,μ',k=>by
  cases st <;> first | (cases h;done) | skip
  rename_i e cause p
  cases e with
  | none=>cases cause <;> cases h
  | some e=>
  cases e <;> first | (cases cause <;> cases h;done) | skip
  rename_i fn args kws p2
  cases fn <;> first | (cases args <;> cases kws <;> cases cause <;> cases h;done) | skip
  rename_i x p3
  rcases args with _ | ⟨_,_⟩
  case cons=>cases kws <;> cases cause <;> cases h
  rcases kws with _ | ⟨_,_⟩
  case cons=>cases cause <;> cases h
  cases cause with
  | some _=>cases h
  | none=>
   obtain ⟨c0,g⟩:=J1 h
   rw [Zb,Zb,Zb,Zb] at c0
   obtain ⟨cc,c1,c2,c3,c4⟩:=c0
   have e1:x=c:=Zd c1
   subst e1
   obtain ⟨g1,g2⟩:=J8c o.x c2
   exact DS.raise (o.x.calm cc) o.x.tk (o.x.ex _ _ (by simpa using c3)) g1 g2 (by rw [o.x.mx];exact c4)
 | .tryM μt b hs,S,fs,Y,X,z,st,μ,r,o,h,μ',k=>by
  obtain ⟨⟨body,hd,hds⟩,e0,g0⟩:=bnd h
  obtain ⟨p,rfl⟩:=Jgq e0
  obtain ⟨c0,g⟩:=J1 g0
  obtain ⟨r1,h1,g⟩:=bnd g
  obtain ⟨r2,h2,g⟩:=bnd g
  dsimp only at c0 h1 h2
  rw [Zb] at c0
  refine Jdv g (fun μ'' w1 w2=>DS.tryM o.stk o.frm o.x.tk (fun W pn xe tk po=>w1 (Jy b (S:={ S with μx:=μt}) (fs:=fs) (Y:=Y) (X:=X.tr pn xe) (z:=z.try_ W μt) ?_ h1)) (Jin hs fs (S:={ S with μx:=μt,calm:=false,fs:= [],ex:= [],exf:= []}) (fun a pn=>?_) (fun c hc=>J8c (S:=S) o.x (show glB S c=true from hc)) o.x.exm h2 w2) (by rw [o.x.mx];exact c0.2)) (fun d c=>d.weak c) μ' k
  ·exact ⟨⟨o.x.sg,o.x.n,o.x.nd,o.x.sc,o.x.fnl,o.x.calm,o.x.room,o.x.fs,o.x.bl,tk,rfl,o.x.ex,o.x.exm,o.x.fl,o.x.gc,o.x.exf,o.x.xfa⟩,o.rm,o.r,o.b,o.c,o.pin,fun _=>po,o.stk,o.frm,o.kind⟩
  ·exact ⟨⟨rfl,o.x.n,o.x.nd,o.x.sc,o.x.fnl,(fun h=>nomatch h),o.x.room,(fun _ h=>nomatch h),o.x.bl,Jds _ μt,rfl,(fun _ _ h=>nomatch h),o.x.exm,o.x.fl,o.x.gc,(fun _ _ _ h=>nomatch h),o.x.xfa⟩,o.rm,o.r,o.b,o.c,o.pin,(fun h=>nomatch h),o.stk,o.frm,o.kind⟩
theorem Jnw:∀ (hs:HsA) (fs:List Fn) {S:Sx} {Y:Zx} {X:Cx} {z:Ws} {μt:List Mode} {hds:List ExceptHandler} {r2:Om} {μ'':List Mode},(∀a pn,ZOk S [] Y (X.suite a pn) (z.try_ (fun _ _ _ _=>False) μt))→(∀c,glB S c=true→Gl X c∧(c == ("__debug__" :Str))=false)→
  (∀i x,nmB S i x=true→X.N[i]? =some x∧Vis X.env.scope x∧(x == ("__debug__" :Str))=false∧(x == ("__classdict__" :Str))=false)→X.N=S.N→S.N.Nodup→X.env.scope=S.sc→(∀i,Y.io.getD i false=false→J4g z.pin i)→
  (∀x c b,(x,c,b)∈S.exm→PySem.W.exmOne X.K (.ref (He.ga X.K x)) (.ref (He.ga X.K c))=some b∧X.mg c=some (.ref (He.ga X.K c)))→(∀c f,(c,f)∈S.xfa→XfF X.K c f)→Jl9 S Y hs hds μt=some r2→
  (∀{X1:Cx} {z1:Ws} {μa:List Mode} {sts:List Stmt} {fa:Gam→Sz},(∀μ',(∀μ1,r2=some μ1→μ1=μ')→DSs X1 z1 μa sts fa μ')→DSs X1 z1 μa sts fa μ'')→DHsA X z μt μ'' hds (Jgo fs hs)
 | .nil,fs,S,Y,X,z,μt,hds,r2,μ'',o,hG,hM,eN,nN,eS,hP,hE,hX,h,w2=>by cases h
 | .cons c tab s rr,fs,S,Y,X,z,μt,hds,r2,μ'',o,hG,hM,eN,nN,eS,hP,hE,hX,h,w2=>by
  obtain ⟨hd,e1,g⟩:=bnd h
  obtain ⟨⟨x,b0,suite⟩,e2,g⟩:=bnd g
  obtain ⟨np,p1,rfl⟩:=Jca e2
  obtain ⟨c0,g⟩:=J1 g
  obtain ⟨r0,h2,g9⟩:=bnd g
  have gg: (if Jbn rr=true then grd hds.tail.isEmpty (some r0) else (Jl9 S Y rr hds.tail μt).bind fun r3=>grd (decide (r3=r0)) (some r0))=some r2:=g9
  clear g9
  dsimp only at c0 h2
  rw [Zb,Zb,Zb] at c0
  obtain ⟨c1,c2,c3,c4⟩:=c0
  have e3:x=c:=Zd c1
  subst e3
  obtain ⟨g1,g2⟩:=hG _ c2
  have ht:∀n b,tab.lookup n=some b→PySem.W.exmOne X.K (.ref (He.ga X.K n)) (.ref (He.ga X.K x))=some b:=fun n b hl=>by
   have:=List.all_eq_true.mp c4 (n,b) (lookup_mem hl)
   exact (hE n x b (by simpa using this)).1
  have hm:X.mg x=some (.ref (He.ga X.K x)):=by
   cases tab with
   | nil=>cases c3
   | cons q l=>
    have:=List.all_eq_true.mp c4 q Zs
    exact (hE q.1 x q.2 (by simpa using this)).2
  rw [Jmb e1]
  by_cases hn:Jbn rr=true
  ·rw [if_pos hn] at gg
   obtain ⟨c5,g8⟩:=J1 gg
   have g7:=Option.some.inj g8
   subst g7
   have e5:hds.tail= []:=by simpa using c5
   have e6:Jgo fs rr= []:=by
    cases rr with
    | nil=>rfl
    | _=>exact absurd (show false=true from hn) (by decide)
   rw [e5]
   show DHsA X z μt μ'' _ ((x,tab,none,exs [] s)::Jgo fs rr)
   rw [e6]
   exact .cons g1 g2 hm (fun a pn=>w2 (Jy s (o a pn) h2)) ht .nil
  ·rw [if_neg hn] at gg
   obtain ⟨r3,h3,g6⟩:=bnd gg
   obtain ⟨c5,g8⟩:=J1 g6
   have g7:=Option.some.inj g8
   subst g7
   have e5:r3=r0:=Zd c5
   subst e5
   exact .cons g1 g2 hm (fun a pn=>w2 (Jy s (o a pn) h2)) ht (Jnw rr fs o hG hM eN nN eS hP hE hX h3 w2)
theorem Jin:∀ (hs:Hs) (fs:List Fn) {S:Sx} {Y:Zx} {X:Cx} {z:Ws} {μt:List Mode} {hds:List ExceptHandler} {r2:Om} {μ'':List Mode},(∀a pn,ZOk S [] Y (X.suite a pn) (z.try_ (fun _ _ _ _=>False) μt))→(∀c,glB S c=true→Gl X c∧(c == ("__debug__" :Str))=false)→
  (∀x c b,(x,c,b)∈S.exm→PySem.W.exmOne X.K (.ref (He.ga X.K x)) (.ref (He.ga X.K c))=some b∧X.mg c=some (.ref (He.ga X.K c)))→ckH S Y hs hds μt=some r2→
  (∀{X1:Cx} {z1:Ws} {μa:List Mode} {sts:List Stmt} {fa:Gam→Sz},(∀μ',(∀μ1,r2=some μ1→μ1=μ')→DSs X1 z1 μa sts fa μ')→DSs X1 z1 μa sts fa μ'')→DHs X z μt μ'' hds (exH fs hs)
 | .nil,fs,S,Y,X,z,μt,hds,r2,μ'',o,hG,hE,h,w2=>by cases h
 | .cons c tab s rr,fs,S,Y,X,z,μt,hds,r2,μ'',o,hG,hE,h,w2=>by
  obtain ⟨hd,e1,g⟩:=bnd h
  obtain ⟨⟨x,b0,suite⟩,e2,g⟩:=bnd g
  obtain ⟨np,p1,rfl⟩:=Jca e2
  obtain ⟨c0,g⟩:=J1 g
  obtain ⟨r0,h2,g9⟩:=bnd g
  have gg: (if Jdu rr=true then grd hds.tail.isEmpty (some r0) else (ckH S Y rr hds.tail μt).bind fun r3=>grd (decide (r3=r0)) (some r0))=some r2:=g9
  clear g9
  dsimp only at c0 h2
  rw [Zb,Zb,Zb] at c0
  obtain ⟨c1,c2,c3,c4⟩:=c0
  have e3:x=c:=Zd c1
  subst e3
  obtain ⟨g1,g2⟩:=hG _ c2
  have ht:∀n b,tab.lookup n=some b→PySem.W.exmOne X.K (.ref (He.ga X.K n)) (.ref (He.ga X.K x))=some b:=fun n b hl=>by
   have:=List.all_eq_true.mp c4 (n,b) (lookup_mem hl)
   exact (hE n x b (by simpa using this)).1
  have hm:X.mg x=some (.ref (He.ga X.K x)):=by
   cases tab with
   | nil=>cases c3
   | cons q l=>
    have:=List.all_eq_true.mp c4 q Zs
    exact (hE q.1 x q.2 (by simpa using this)).2
  rw [Jmb e1]
  by_cases hn:Jdu rr=true
  ·rw [if_pos hn] at gg
   obtain ⟨c5,g8⟩:=J1 gg
   have g7:=Option.some.inj g8
   subst g7
   have e5:hds.tail= []:=by simpa using c5
   have e6:exH fs rr= []:=by
    cases rr with
    | nil=>rfl
    | cons _ _ _ _=>exact absurd (show false=true from hn) (by decide)
   rw [e5]
   show DHs X z μt μ'' _ ((x,tab,exs [] s)::exH fs rr)
   rw [e6]
   exact .cons g1 g2 hm (fun a pn=>w2 (Jy s (o a pn) h2)) ht .nil
  ·rw [if_neg hn] at gg
   obtain ⟨r3,h3,g6⟩:=bnd gg
   obtain ⟨c5,g8⟩:=J1 g6
   have g7:=Option.some.inj g8
   subst g7
   have e5:r3=r0:=Zd c5
   subst e5
   exact .cons g1 g2 hm (fun a pn=>w2 (Jy s (o a pn) h2)) ht (Jin rr fs o hG hE h3 w2)
theorem Jy:∀ (s:Sms) {S:Sx} {fs:List Fn} {Y:Zx} {X:Cx} {z:Ws} {sts:List Stmt} {μ:List Mode} {r:Om},ZOk S fs Y X z→J2s S Y s sts μ=some r→∀μ',(∀μ1,r=some μ1→μ1=μ')→DSs X z μ sts (exs fs s) μ'
 | .nil,S,fs,Y,X,z,sts,μ,r,o,h,μ',k=>by
  obtain ⟨c,g⟩:=J1 h
  cases g
  cases sts with
  | nil=>
   cases k _ rfl
   exact DSs.nil
  | cons _ _=>cases c
 | .wipe vs q,S,fs,Y,X,z,sts,μ,r,o,h,μ',k=>DSs.wipe (Jy q o h μ' k)
 | .deadS,S,fs,Y,X,z,sts,μ,r,o,h,μ',k=>⟨⟨fun pins s σ H D I ⟨hp,B,Γ,fp,st,q⟩=>q.elim⟩⟩
 | .iteD t a b ra rb,S,fs,Y,X,z,sts,μ,r,o,h,μ',k=>by
  obtain ⟨⟨c,body,orelse,rest⟩,e1,g⟩:=bnd h
  obtain ⟨p,rfl⟩:=Jik e1
  obtain ⟨μ1,h0,g⟩:=bnd g
  obtain ⟨o1,h1,g⟩:=bnd g
  obtain ⟨μa,ea,g⟩:=bnd g
  obtain ⟨o2,h2,g⟩:=bnd g
  obtain ⟨μb,eb,g⟩:=bnd g
  obtain ⟨r1,h3,g⟩:=bnd g
  obtain ⟨r2,h4,g⟩:=bnd g
  rw [ea] at h1
  rw [eb] at h2
  exact Jim g (fun μ'' w1 w2=>DSs.iteD (J1a t o.x h0) (Jy a o h1 μa J2w) (w1 (Jy ra o h3)) (Jy b o h2 μb J2w) (w2 (Jy rb o h4))) (fun d c=>d.weak c) μ' k
 | .cons s q,S,fs,Y,X,z,sts,μ,r,o,h,μ',k=>by
  cases sts with
  | nil=>cases h
  | cons st sts=>
   obtain ⟨st',e1,g⟩:=bnd h
   cases e1
   obtain ⟨r1,h1,g⟩:=bnd g
   cases r1 with
   | none=>
    obtain ⟨c,g⟩:=J1 g
    cases q with
    | cons _ _=>cases g
    | wipe _ _=>cases g
    | iteD _ _ _ _ _=>cases g
    | deadS=>cases g
    | nil=>
     cases sts with
     | cons _ _=>cases c
     | nil=>exact DSs.one (J5q s o h1 μ' (fun _ e=>nomatch e))
   | some μ1=>
    cases q with
    | nil=>
     obtain ⟨c,g⟩:=J1 g
     cases g
     cases sts with
     | cons _ _=>cases c
     | nil=>
      cases k _ rfl
      exact DSs.one (J5q s o h1 _ (fun _ e=>by cases e;rfl))
    | cons s2 q2=>
     exact DSs.cons (J5q s o h1 μ1 (fun _ e=>by cases e;rfl)) (Jy (.cons s2 q2) o g μ' k)
    | wipe vs q2=>
     exact DSs.cons (J5q s o h1 μ1 (fun _ e=>by cases e;rfl)) (Jy (.wipe vs q2) o g μ' k)
    | deadS=>
     exact DSs.cons (J5q s o h1 μ1 (fun _ e=>by cases e;rfl)) (Jy .deadS o g μ' k)
    | iteD a1 a2 a3 a4 a5=>
     exact DSs.cons (J5q s o h1 μ1 (fun _ e=>by cases e;rfl)) (Jy (.iteD a1 a2 a3 a4 a5) o g μ' k)
end
noncomputable def Jmc (P:Program) (w:World) (K:Zf) (mg:Str→Option Value) (base:Heap) (k:Nat) (f:Fn):Prop:=∃ (fad:Addr) (fd:FuncData) (ps:List Str) (dvs:List V) (ds:List Value),FnOk P w K mg base (L2.CX P w) k fad fd ps (spD K f.pm f.rm f.F)∧mg f.name=some (.ref fad)∧PySem.W.keepIn K (.ref fad)=true∧Bnd K fd ps f.pm f.dms ds f.kn∧Vals dvs ds∧∀B H,Ra K B H f.dds f.dms dvs []
noncomputable def Jro (P:Program) (w:World) (K:Zf) (mg:Str→Option Value) (base:Heap) (k:Nat) (f:Fn):Prop:=∃ (fad:Addr) (fd:FuncData) (ps:List Str) (dvs:List V) (ds:List Value),FnOk P w K mg base (L2.CX P w) k fad fd ps (spD K f.pm f.rm f.F)∧Cls K (He.ga K f.cls)∧Meth K (He.ga K f.cls) f.name fad∧Bnd K fd ps f.pm f.dms ds f.kn∧Vals dvs ds∧∀B H,Ra K B H f.dds f.dms dvs []
noncomputable def Jrp (P:Program) (w:World) (K:Zf) (mg:Str→Option Value) (base:Heap) (k:Nat) (f:Fn):Prop:=∃ (j:Nat) (fad:Addr) (fd:FuncData) (ps:List Str) (dvs:List V) (ds:List Value) (om0 xm:List Mode),j + 1≤k∧FnOk P w K mg base (L2.CX P w) j fad fd ps (spX K (.B0::f.pm) (f.rm::om0) xm .Z f.F)∧mg f.cls=some (.ref (He.ga K f.cls))∧Mk K (He.ga K f.cls) fad∧Bnd K fd ps (.B0::f.pm) f.dms ds f.kn∧Vals dvs ds∧∀B H,Ra K B H f.dds f.dms dvs []
noncomputable def Jrq (P:Program) (w:World) (K:Zf) (mg:Str→Option Value) (base:Heap) (k:Nat) (f:Fn):Prop:=∃ (j:Nat) (fad:Addr) (fd:FuncData) (ps:List Str) (dvs:List V) (ds:List Value),j + 1≤k∧FnOk P w K mg base (L2.CX P w) j fad fd ps (spD K f.pm f.rm f.F)∧Cls K (He.ga K f.cls)∧Meth K (He.ga K f.cls) f.name fad∧Bnd K fd ps f.pm f.dms ds f.kn∧Vals dvs ds∧∀B H,Ra K B H f.dds f.dms dvs []
noncomputable def Jrr (P:Program) (w:World) (K:Zf) (mg:Str→Option Value) (base:Heap) (k:Nat) (f:Fn):Prop:=∃ (j:Nat) (L:Lv),j≤k∧LeadOk P w K mg base j L f.pm f.rm f.F∧f.dds= [L.d]
noncomputable def FnAt (P:Program) (w:World) (K:Zf) (mg:Str→Option Value) (base:Heap) (k:Nat) (f:Fn):Prop:=if f.cls = "" then Jmc P w K mg base k f else if f.name = "__init__" then Jrp P w K mg base k f else if f.name = "isinstance" then mg f.cls=some (.ref (He.ga K f.cls))∧(if f.kn= [] then Jm6 K (He.ga K f.cls) else TabOk K w mg f.cls f.kn) else if f.name = "__len__" then Jrq P w K mg base k f else if f.name = "%lead" then Jrr P w K mg base k f else Jro P w K mg base k f
theorem FnAt.plain {P:Program} {w:World} {K:Zf} {mg:Str→Option Value} {base:Heap} {k:Nat} {f:Fn} (c:f.cls = "") (h:Jmc P w K mg base k f):FnAt P w K mg base k f:=by
 unfold FnAt;rw [if_pos c];exact h
theorem FnAt.mono {P:Program} {w:World} {K:Zf} {mg:Str→Option Value} {base:Heap} {j k:Nat} {f:Fn} (h:FnAt P w K mg base j f) (l:j≤k):FnAt P w K mg base k f:=by
 unfold FnAt at h ⊢
 split at h
 ·rename_i c
  rw [if_pos c]
  obtain ⟨a,b,c,d,e,F,r⟩:=h
  exact ⟨a,b,c,d,e,F.mono l,r⟩
 ·rename_i c
  rw [if_neg c]
  split at h
  ·rename_i c
   rw [if_pos c]
   obtain ⟨i,a,b,c,d,e,m,x,q,r⟩:=h
   exact ⟨i,a,b,c,d,e,m,x,Nat.le_trans q l,r⟩
  ·rename_i c
   rw [if_neg c]
   split at h
   ·rename_i c
    rw [if_pos c]
    exact h
   ·rename_i c
    rw [if_neg c]
    split at h
    ·rename_i c
     rw [if_pos c]
     obtain ⟨i,a,b,c,d,e,q,r⟩:=h
     exact ⟨i,a,b,c,d,e,Nat.le_trans q l,r⟩
    ·rename_i c
     rw [if_neg c]
     split at h
     ·rename_i c
      rw [if_pos c]
      obtain ⟨i,L,q,r⟩:=h
      exact ⟨i,L,Nat.le_trans q l,r⟩
     ·rename_i c
      rw [if_neg c]
      obtain ⟨a,b,c,d,e,F,r⟩:=h
      exact ⟨a,b,c,d,e,F.mono l,r⟩
theorem FnAt.good {X:Cx} {k:Nat} {f:Fn} (h:FnAt X.prog X.w X.K X.mg X.base k f) (r:Room k X.A):Jah X f:=by
 unfold FnAt at h
 unfold Jah
 split at h
 ·rename_i c
  rw [if_pos c]
  obtain ⟨a,b,c,d,e,F,g1,g2,g3,g4,g5⟩:=h
  exact ⟨k,a,b,c,d,e,F,r,g1,g2,g3,g4,g5⟩
 ·rename_i c
  rw [if_neg c]
  split at h
  ·rename_i c
   rw [if_pos c]
   obtain ⟨i,a,b,c,d,e,m,x,q,F,g1,g2,g3,g4,g5⟩:=h
   exact ⟨i,a,b,c,d,e,m,x,F,r.mono q,g1,g2,g3,g4,g5⟩
  ·rename_i c
   rw [if_neg c]
   split at h
   ·rename_i c
    rw [if_pos c]
    exact h
   ·rename_i c
    rw [if_neg c]
    split at h
    ·rename_i c
     rw [if_pos c]
     obtain ⟨i,a,b,c,d,e,q,F,g1,g2,g3,g4,g5⟩:=h
     exact ⟨i,a,b,c,d,e,F,r.mono q,g1,g2,g3,g4,g5⟩
    ·rename_i c
     rw [if_neg c]
     split at h
     ·rename_i c
      rw [if_pos c]
      obtain ⟨i,L,q,G,g⟩:=h
      exact ⟨i,L,G,r.mono q,g⟩
     ·rename_i c
      rw [if_neg c]
      obtain ⟨a,b,c,d,e,F,g1,g2,g3,g4,g5⟩:=h
      exact ⟨k,a,b,c,d,e,F,r,g1,g2,g3,g4,g5⟩
structure Df where
 d:He.DefD
 N:List Str
 ps:List Str
 pm:List Mode
 rm:Mode
 io:List Bool
 ir:Sms
 bl:List Str
 fl:List (Str × Str):= []
 ex:List (Str × Str):= []
 exm:List (Str × Str × Bool):= []
 gc:List (Str × D):= []
 exf:List (Str × Str × List (Str × Bool)):= []
 xfa:List (Str × Str):= []
 om:Option (List Mode):=none
 xm:Option (List Mode):=none
noncomputable def Df.out (a:Df):List Mode:=a.om.getD a.pm
noncomputable def Df.xout (a:Df):List Mode:=a.xm.getD a.pm
noncomputable def Df.sx (a:Df) (fs:List Sg):Sx:={ N:=a.N,sc:=a.d.scope,fnA:=none,fs:=fs,μx:=μOut a.io a.xout a.N.length,bl:=a.bl,fl:=a.fl,ex:=a.ex,exm:=a.exm,gc:=a.gc,exf:=a.exf,xfa:=a.xfa}
noncomputable def Df.zx (a:Df):Zx:={ rm:=a.rm,μr:=μOut a.io a.out a.N.length,μb:= [],μc:= [],io:=a.io}
noncomputable def Df.ck (a:Df) (fs:List Sg):Bool:=decide (a.pm.length=a.ps.length) && (decide (a.io.length=a.pm.length) && (decide (a.pm.length≤a.N.length) && (decide (a.out.length=a.pm.length) && (decide (a.xout.length=a.pm.length) && (match J2s (a.sx fs) a.zx a.ir a.d.body (μIn a.N.length a.pm) with
 | some r=>okM r (μOut a.io a.out a.N.length)
 | none=>false)))))
noncomputable def Df.run (a:Df) (fs:List Fn):List D→Fo:=J21 a.N.length a.io (exs fs a.ir)
theorem Jio:∀{io:List Bool} {vs:List V} {i:Nat},io.getD i false=false→J4g (J3j io vs) i
 | [],_,i,_=>fun v e=>by cases e
 | b::io,[],i,_=>fun v e=>by cases e
 | b::io,v::vs,0,h=>fun u e=>by
  have h':b=false:=h
  subst h'
  cases e
 | b::io,v::vs,i + 1,h=>fun u e=>Jio (io:=io) (vs:=vs) (i:=i) h u e
theorem Jf4:∀l:List Mode,J6 (l.map fun _=>Mode.U) l=true
 | []=>rfl
 | m::l=>by
  show (Ja2 .U m && J6 (l.map fun _=>Mode.U) l)=true
  rw [Jf4 l,Bool.and_true]
  cases m <;> rfl
noncomputable def Jmd (P:Program) (w:World) (K:Zf) (mg:Str→Option Value) (base:Heap) (k:Nat) (c wd:Str) (fl:List (Str × Bool)):Prop:=mg c=some (.ref (He.ga K c))∧OexC K (He.ga K c)∧J6g K (He.ga K c)=true∧PySem.W.findIn K (.ref (He.ga K c)) "word" =some none∧(∀q∈fl,PySem.W.findIn K (.ref (He.ga K c)) q.1=some none)∧(fl.map (·.1)).Nodup∧(("word" :Str)∉fl.map (·.1))∧fl.length≤800∧∃ (j:Nat) (fd:FuncData),j + 1≤k∧FnOk P w K mg base (L2.CX P w) j (He.ma K (He.ga K c) "__init__") fd (("self" :Str)::fl.map (·.1)) (Jhv K wd fl)∧Binds K fd (("self" :Str)::fl.map (·.1)) []
structure Fx (P:Program) (w:World) (K:Zf) (mg:Str→Option Value) (base:Heap) (k:Nat) (a:Df):Prop where
 bl:∀x∈a.bl,mg x=none
 fl:∀c n,(c,n)∈a.fl→Cls K (He.ga K c)∧NoAttr K (He.ga K c) n
 ex:∀c wd,(c,wd)∈a.ex→mg c=some (.ref (He.ga K c))∧OexC K (He.ga K c)∧J6g K (He.ga K c)=true∧PySem.W.findIn K (.ref (He.ga K c)) "word" =some none∧∃ (j:Nat) (fd:FuncData),j + 1≤k∧FnOk P w K mg base (L2.CX P w) j (He.ma K (He.ga K c) "__init__") fd ["self"] (J8r K wd)∧Binds K fd ["self"] []
 exm:∀x c b,(x,c,b)∈a.exm→PySem.W.exmOne K (.ref (He.ga K x)) (.ref (He.ga K c))=some b∧mg c=some (.ref (He.ga K c))
 gc:∀x d,(x,d)∈a.gc→GC K mg x d
 exf:∀c wd fl,(c,wd,fl)∈a.exf→Jmd P w K mg base k c wd fl
 xfa:∀c f,(c,f)∈a.xfa→XfF K c f
theorem Df.body0 {P:Program} {w:World} {K:Zf} {mg:Str→Option Value} {base:Heap} {a:Df} {fs:List Fn} {f:Addr} {k:Nat} {r:Om} (sc:FnScope a.N a.ps a.d.scope) (hfs:∀g∈fs,FnAt P w K mg base k g) (hx:Fx P w K mg base k a)
  {μ0:List Mode} (hr:J2s (a.sx (fs.map Fn.sg)) a.zx a.ir a.d.body μ0=some r) (μ':List Mode) (e:∀μ1,r=some μ1→μ1=μ') (cdv:Value) (A:Around) (outer:List Env) (s:Shared) (H:Hp) (E:XK) (vs:List V) (room:Room k (A.deeper (PyProof.Rows.envOfC a.d.qual a.d.scope s.heap.objs.size f cdv))):
  DSs (cxOf (L2.CX P w) P w K mg base a.N a.d.qual a.d.scope f cdv A outer s H E) ⟨⟨fun cls d _ H=>E cls d H,μOut a.io a.xout a.N.length⟩,a.rm,μOut a.io a.out a.N.length,[],[],J3j a.io vs⟩ μ0 a.d.body (exs fs a.ir) μ':=by
 have hu: (A.deeper (PyProof.Rows.envOfC a.d.qual a.d.scope s.heap.objs.size f cdv)).units + 65 < cLine:=by
  have:=room.un
  omega
 have exz:∀c wd,(c,wd)∈a.ex→ExZ (cxOf (L2.CX P w) P w K mg base a.N a.d.qual a.d.scope f cdv A outer s H E) c wd:=fun c wd h=>by
  obtain ⟨e1,e2,e3,e4,j,fd,e5,e6,e7⟩:=hx.ex c wd h
  exact ⟨e1,e2,e3,e4,j,fd,e6,room.mono e5,e7⟩
 have o:XOk (a.sx (fs.map Fn.sg)) fs (cxOf (L2.CX P w) P w K mg base a.N a.d.qual a.d.scope f cdv A outer s H E) ⟨fun cls d _ H=>E cls d H,μOut a.io a.xout a.N.length⟩:=
  { sg:=rfl,n:=rfl,nd:=sc.nd,sc:=rfl,fnl:=fun x _=> .inl rfl,calm:=fun _=>rfl,room:=hu,fs:=fun g hg=>FnAt.good (X:=cxOf (L2.CX P w) P w K mg base a.N a.d.qual a.d.scope f cdv A outer s H E) (hfs g hg) room,bl:=hx.bl,tk:=takes_of rfl rfl rfl rfl,mx:=rfl,fl:=hx.fl,exm:=hx.exm,gc:=hx.gc,ex:=fun c wd h=>exz c wd h,xfa:=hx.xfa,exf:=fun c wd fl h=>by
     obtain ⟨e1,e2,e3,e4,e8,e9,e10,e11,j,fd,e5,e6,e7⟩:=hx.exf c wd fl h
     exact ⟨e1,e2,e3,e4,e8,e9,e10,e11,j,fd,e6,room.mono e5,e7⟩}
 exact Jy a.ir (S:=a.sx (fs.map Fn.sg)) (fs:=fs) (Y:=a.zx) ⟨o,rfl,rfl,rfl,rfl,fun i hi=>Jio hi,fun _=>passes_of rfl,rfl,rfl,sc.kind⟩ hr μ' e
theorem Df.body {P:Program} {w:World} {K:Zf} {mg:Str→Option Value} {base:Heap} {a:Df} {fs:List Fn} {f:Addr} {k:Nat} {r:Om} (sc:FnScope a.N a.ps a.d.scope) (hfs:∀g∈fs,FnAt P w K mg base k g) (hx:Fx P w K mg base k a)
  (hr:J2s (a.sx (fs.map Fn.sg)) a.zx a.ir a.d.body (μIn a.N.length a.pm)=some r) (μ':List Mode) (e:∀μ1,r=some μ1→μ1=μ') (cdv:Value) (A:Around) (outer:List Env) (s:Shared) (H:Hp) (E:XK) (vs:List V) (room:Room k (A.deeper (PyProof.Rows.envOfC a.d.qual a.d.scope s.heap.objs.size f cdv))):
  DSs (cxOf (L2.CX P w) P w K mg base a.N a.d.qual a.d.scope f cdv A outer s H E) ⟨⟨fun cls d _ H=>E cls d H,μOut a.io a.xout a.N.length⟩,a.rm,μOut a.io a.out a.N.length,[],[],J3j a.io vs⟩ (μIn a.N.length a.pm) a.d.body (exs fs a.ir) μ':=
 Df.body0 sc hfs hx hr μ' e cdv A outer s H E vs room
theorem Df.okX {P:Program} {w:World} {K:Zf} {mg:Str→Option Value} {base:Heap} {a:Df} {fs:List Fn} {fd:FuncData} {f:Addr} {k:Nat} {dvs:List V} {kws:List (Str × V)} (F:FunD K a.d.name a.d.qual a.d.params a.d.body a.d.scope dvs kws f fd) (sc:FnScope a.N a.ps a.d.scope) (ck:a.ck (fs.map Fn.sg)=true)
  (hfs:∀g∈fs,FnAt P w K mg base k g) (hx:Fx P w K mg base k a):
  FnOk P w K mg base (L2.CX P w) (k + 1) f fd a.ps (spX K a.pm a.out a.xout a.rm (a.run fs)):=by
 unfold Df.ck at ck
 rw [Zb,Zb,Zb,Zb,Zb] at ck
 obtain ⟨c1,c2,c3,c5,c6,c4⟩:=ck
 split at c4
 ·rename_i r hr
  cases r with
  | some μ=>exact Jda (μe:=μ) F sc (Zd c1) (Zd c2) (Zd c3) (Zd c5) (Zd c6) c4 fun cdv A outer s H E vs room=>Df.body sc hfs hx hr μ (fun _ e=>by cases e;rfl) cdv A outer s H E vs room
  | none=>exact Jda (μe:=(μOut a.io a.out a.N.length).map fun _=> .U) F sc (Zd c1) (Zd c2) (Zd c3) (Zd c5) (Zd c6) (Jf4 _) fun cdv A outer s H E vs room=>Df.body sc hfs hx hr _ (fun _ e=>nomatch e) cdv A outer s H E vs room
 ·cases c4
theorem Df.ok {P:Program} {w:World} {K:Zf} {mg:Str→Option Value} {base:Heap} {a:Df} {fs:List Fn} {fd:FuncData} {f:Addr} {k:Nat} {dvs:List V} {kws:List (Str × V)} (F:FunD K a.d.name a.d.qual a.d.params a.d.body a.d.scope dvs kws f fd) (sc:FnScope a.N a.ps a.d.scope) (ck:a.ck (fs.map Fn.sg)=true)
  (hfs:∀g∈fs,FnAt P w K mg base k g) (hx:Fx P w K mg base k a) (hom:a.om=none:=by rfl) (hxm:a.xm=none:=by rfl):
  FnOk P w K mg base (L2.CX P w) (k + 1) f fd a.ps (spD K a.pm a.rm (a.run fs)):=by
 have h:=Df.okX (a:=a) F sc ck hfs hx
 have e1:a.out=a.pm:=by unfold Df.out;rw [hom];rfl
 have e2:a.xout=a.pm:=by unfold Df.xout;rw [hxm];rfl
 rw [e1,e2] at h
 exact h
theorem Df.at {P:Program} {w:World} {K:Zf} {mg:Str→Option Value} {base:Heap} {a:Df} {fs:List Fn} {fd:FuncData} {f:Addr} {k:Nat} {F:List D→Fo} {kws:List (Str × V)} (hF:FunD K a.d.name a.d.qual a.d.params a.d.body a.d.scope [] kws f fd) (hg:mg a.d.name=some (.ref f)) (sc:FnScope a.N a.ps a.d.scope) (ck:a.ck (fs.map Fn.sg)=true)
  (hb:∀ (kV doc pm:Value) (an:Option Addr) (cdv ct:Value) (us:List Value),us.length=a.ps.length→bindArgs (PySem.W.fnOf a.d.name a.d.qual a.d.params a.d.body a.d.scope .none kV doc pm an cdv ct) ⟨us,[]⟩=pure (a.ps.zip us))
  (hfs:∀g∈fs,FnAt P w K mg base k g) (hx:Fx P w K mg base k a) (i:∀ds,F ds≠ .bad→a.run fs ds=F ds) (hom:a.om=none:=by rfl) (hxm:a.xm=none:=by rfl):FnAt P w K mg base (k + 1) ⟨a.d.name,a.pm,a.rm,F,[],[],[], ""⟩:=
 FnAt.plain rfl ⟨f,fd,a.ps,[],[],(Df.ok hF sc ck hfs hx hom hxm).imp fun vs H Q E q=>Jn8 i vs H Q E q,hg,hF.kp,hF.bindsN hb,.nil,fun B H=>⟨rfl,rfl⟩⟩
noncomputable def J67 (K:Zf) (H:Hp):Hp:=fun b=>match (tabsOf K).lookup b with
 | some q=>some (J7b q)
 | none=>H b
theorem Jcb {α β:Type} [BEq α] [LawfulBEq α]:∀{l:List (α × β)} {p:α × β},(l.map (·.1)).Nodup→p∈l→l.lookup p.1=some p.2
 | (a,b)::l,p,nd,h=>by
  have nd':=List.nodup_cons.mp (show (a::l.map (·.1)).Nodup from nd)
  rw [List.lookup_cons]
  rcases Zo.mp h with rfl | h
  ·simp
  ·have:p.1≠a:=fun z=>nd'.1 (z ▸ List.mem_map_of_mem h)
   split
   ·rename_i e;exact absurd (beq_iff_eq.mp e) this
   ·exact Jcb nd'.2 h
theorem J6p {β:Type} {k:Addr} {v:β}:∀{l:List (Addr × β)},l.lookup k=some v→(k,v)∈l
 | [],h=>by cases h
 | (a,b)::l,h=>by
  rw [List.lookup_cons] at h
  split at h
  ·rename_i e
   cases h
   rw [beq_iff_eq.mp e];exact Zs
  ·exact Zc _ (J6p h)
theorem Jgt {K:Zf} {H:Hp} (nd: ((tabsOf K).map (·.1)).Nodup) (hT:∀p∈tabsOf K,H p.1=some (.tbl #[])):Lies K (J67 K H) H:=by
 refine ⟨fun a o e=>?_,fun p hp=>?_,fun p hp=>LamX.TabS.nil (hT p hp)⟩
 ·unfold J67 at e
  cases h: (tabsOf K).lookup a with
  | none=>rw [h] at e;exact .inl e
  | some q=>
   rw [h] at e
   cases e
   exact .inr ⟨q,rfl,LamX.TabS.nil (hT (a,q) (J6p h))⟩
 ·unfold J67
  rw [Jcb nd hp]
theorem Jla {K:Zf} {H:Hp} {a:Addr} {xs:List V} (hT:∀p∈tabsOf K,H p.1=some (.tbl #[])) (h:SqL K H a xs):SqL K (J67 K H) a xs:=by
 have key:∀o,H a=some o→(∀ps,o≠ .tbl ps)→J67 K H a=some o:=fun o e n=>by
  unfold J67
  cases h: (tabsOf K).lookup a with
  | none=>exact e
  | some q=>
   have:=hT (a,q) (J6p h)
   rw [e] at this
   exact absurd (Option.some.inj this) (n _)
 rcases h with (h | ⟨o,h⟩) | h
 ·exact .inl (.inl (key _ h fun ps z=>by cases z))
 ·exact .inl (.inr ⟨o,key _ h fun ps z=>by cases z⟩)
 ·exact .inr h
theorem Jqc {K:Zf} {F:List D→Fo} {ns:List Int} {io:List (Option D)} (h:F [.lst (ns.map D.int)]= .ok (.bl true) io) (hl:ns.length≤sizeLine) (nd: ((tabsOf K).map (·.1)).Nodup) (H:Hp) (hT:∀p∈tabsOf K,H p.1=some (.tbl #[])) (a:Addr) (hS:SqL K H a (ns.map V.int)):spD K [.F] .Z F [.ref a] H (fun v _=>v= .bl true) fun _ _ _=>False:=by
 have rl:∀ns:List Int,Rl K (J67 K H) H (ns.map D.int) .F (ns.map V.int) []:=fun ns=>by
  induction ns with
  | nil=>exact ⟨rfl,rfl⟩
  | cons n ns ih=>exact ⟨.int n,ns.map V.int,[],[],rfl,⟨rfl,rfl⟩,ih,rfl⟩
 refine ⟨J67 K H,[.lst (ns.map D.int)],[],Jgt nd hT,⟨.ref a,[],[],[],rfl,⟨rfl,a,ns.map V.int,rfl,Jla hT hS,by rw [List.length_map];exact hl,rl ns⟩,⟨rfl,rfl⟩,rfl⟩,List.nodup_nil,?_⟩
 rw [h]
 intro B' H' v fpv fp' _ _ r _ _
 exact r.1
theorem Jqd {P:Program} {w:World} (H:Hp) (s:Shared) (e:Value) (s':Shared) (z:L2.CX P w [] H s (fun _ _ _=>False) e s'):False:=by
 obtain ⟨_,_,_,_,_,_,_,_,_,_,_,_,z⟩:=z
 exact z
section
variable {P:Program} {w:World} {K:Zf} {mg:Str→Option Value} {base:Heap} {a:Df} {fs:List Fn} {k:Nat} {F:NdefX.NF} {L:Lv} {fr:List Str}
end
section
variable {X:Cx} {pins:List (Addr × Obj)} {σ:L2.St} {H:Hp} {s:Shared}
end
section
variable {P:Program} {w:World} {H:Hp} {h:Heap} {f:Addr} {φ:Heap→Prop}
end
section
variable {K:Zf} {B B' H:Hp}
end
section
variable {X:Cx} {k j i:Nat} {fad:Addr} {fd:FuncData} {ps fr:List Str} {x:Str} {js:List Nat} {mk:Addr→NdefX.NF} {q:Str} {pm:List Mode} {rm:Mode} {cl:List (Str × Addr)} {G:List D→List D→Fo} {E:St→XK} {t:TA} {p pos:Pos} {e:Expr} {es:List Expr}
end
section
variable {K:Zf} {B H B' H':Hp}
end
structure Mk1 (K:Zf) (B H H1:Hp) (P c' f:Addr) (q:Str) (F:NdefX.NF):Prop where
 l:Lies K B H
 p: (P,q)∈tabsOf K
 k:∀b o,b≠P→H b=some o→H1 b=some o
 t:LamX.TabS H1 P q
 f0:H f=none
 f1:H1 f=some (NdefX.FnO f F)
 c1:H1 c'=some (LamX.CodeO c' q)
section
variable {K:Zf} {B H H1:Hp} {P c' f:Addr} {q:Str} {F:NdefX.NF}
theorem Mk1.tbl (m:Mk1 K B H H1 P c' f q F):∃ps,H P=some (.tbl ps):=by
 obtain ⟨ps,h,_⟩:=m.l.tabs _ m.p
 exact ⟨ps,h⟩
end
section
variable {X:Cx} {w:Wh} {μ μ1 μ2:List Mode} {i:Nat} {js:List Nat} {G:List D→List D→Fo} {f0 f1:Gam→Rz D} {m0 m1 rm:Mode} {P:Addr} {q:Str} {mk:Addr→NdefX.NF}
end
section
variable {X:Cx} {z:Ws} {μ μ1 μ2 μ':List Mode} {i:Nat} {js:List Nat} {fr:List Str} {nm x:Str} {params:Arguments} {body:List Stmt} {scope:Scope} {P c:Addr} {G:List D→List D→Fo} {f0 f1:Gam→Rz D} {m0 m1 rm:Mode} {a0 a1:Expr} {pos1 pos p pn p2 pt:Pos} {rest:List Stmt} {sg:Gam→Sz}
end
theorem Jdw {K:Zf} {h:Heap} {mg:Str→Option Value} {x:Str} {i:Int} (X:K.In h) (G:h.Ns mainGlobals mg) (c: (He.Fa.int x i).ok K=true):GC K mg x (.int i):=by
 obtain ⟨t,e⟩:=He.int_ok X G c
 exact ⟨_,.int i,e,⟨_,rfl⟩,fun B H=>⟨rfl,rfl⟩⟩
structure Bag where
 cs:List Int
 p:Int
 q:Int
noncomputable def Bag.d (b:Bag):D:= .lst [.lst (b.cs.map .int),.int b.p,.int b.q]
noncomputable def J8v:D→Option Bag
 | .lst [.lst cs,.int p,.int q]=>(intsOf cs).map fun cs=>⟨cs,p,q⟩
 | _=>none
theorem Jnx (b:Bag):J8v b.d=some b:=by
 show (intsOf (b.cs.map D.int)).map _=_
 rw [J7g];rfl
noncomputable def Bag.good (b:Bag):Prop:=0 < b.cs.length∧b.cs.length≤64∧0≤b.q∧b.q < 2147483629
noncomputable instance (b:Bag):Decidable b.good:=by unfold Bag.good;infer_instance
noncomputable def Bag.at_ (b:Bag):Nat:=(b.p % b.cs.length).toNat
noncomputable def Bag.cell (b:Bag):Int:=b.cs.getD b.at_ 0
noncomputable def Bag.nq (b:Bag):Int:=(b.q + b.cell % 2147483629 + 77) * 48271 % 2147483629
noncomputable def J1t (b:Bag) (lot:Int):Int × Bag:=if (10:Int) ^ 18≤b.cell then (b.cell % lot,⟨b.cs.set b.at_ (b.cell / lot),b.p,b.q⟩) else (b.nq / 64 % lot,⟨b.cs,b.p + 1,b.nq⟩)
noncomputable def J8w:List D→Fo
 | [bd,.int lot]=>match J8v bd with
  | some b=>if b.good∧0 < lot∧lot < 2 ^ 64 then .ok (.int (J1t b lot).1) [some (J1t b lot).2.d,none] else .bad
  | none=> .bad
 | _=> .bad
theorem Jgu {b:Bag} {lot:Int} (h:b.good): (J1t b lot).2.good:=by
 unfold J1t
 obtain ⟨h1,h2,h3,h4⟩:=h
 split
 ·exact ⟨by rw [List.length_set];exact h1,by rw [List.length_set];exact h2,h3,h4⟩
 ·refine ⟨h1,h2,?_,?_⟩
  ·exact Int.emod_nonneg _ (by decide)
  ·exact Int.emod_lt_of_pos _ (by decide)
theorem Jlb {b:Bag} {lot:Int} (h:0 < lot):0≤(J1t b lot).1∧(J1t b lot).1 < lot:=by
 unfold J1t
 split
 ·exact ⟨Int.emod_nonneg _ (by omega),Int.emod_lt_of_pos _ h⟩
 ·exact ⟨Int.emod_nonneg _ (by omega),Int.emod_lt_of_pos _ h⟩
theorem Jlc {b:Bag} {lot:Int} (h:b.good) (h1:0 < lot) (h2:lot < 2 ^ 64):J8w [b.d,.int lot]= .ok (.int (J1t b lot).1) [some (J1t b lot).2.d,none]:=by
 unfold J8w
 dsimp only
 rw [Jnx]
 exact if_pos ⟨h,h1,h2⟩
noncomputable def Jqe:Fn:=⟨"_law_pull",[.O (.O .Z),.Z],.Z,J8w,[],[],[], ""⟩
noncomputable abbrev rModP:R2:=rI (fun _ j=>0 < j) fun i j=> .int (i % j)
noncomputable def rLenS (K:Zf):List V→Hp→VK→Prop:=fun xs H Q=>∃p ys,xs= [.ref p]∧(SqL K H p ys∨SqT K H p ys)∧Q (.int ys.length) H
noncomputable def Jip (K:Zf):TS:=
 tSeq (tAsg (tOp (rIx K) (tVar 0) (tC (.int 0))) (gName 2)) <|
 tSeq (tAsg (tOp rModP (tOp (rIx K) (tVar 0) (tC (.int 1))) (tCB (rLenS K) (tCons (tVar 2) tNil))) (gName 3)) <|
 tSeq (tAsg (tOp (rIx K) (tVar 2) (tVar 3)) (gName 4)) <|
 tSeq (tIfS (tTest (tOp (rI0 fun i j=> .bl (decide (j≤i))) (tVar 4) (tOp (rI CPow fun i j=> .int (i ^ j.toNat)) (tC (.int 10)) (tC (.int 18)))))
  (tSeq (tAsg (tOp (rI CDivW fun i j=> .int (i / j)) (tVar 4) (tVar 1)) (gSub (tVar 2) (tVar 3) rSetL)) (tRet (tOp rModP (tVar 4) (tVar 1)))) tNext) <|
 tSeq (tAsg (tOp (rI0 fun i j=> .int (i + j)) (tOp (rIx K) (tVar 0) (tC (.int 1))) (tC (.int 1))) (gSub (tVar 0) (tC (.int 1)) rSetL)) <|
 tSeq (tAsg (tOp rModP (tOp (rI CMulW fun i j=> .int (i * j)) (tOp (rI0 fun i j=> .int (i + j)) (tOp (rI0 fun i j=> .int (i + j)) (tOp (rIx K) (tVar 0) (tC (.int 2))) (tOp rModP (tVar 4) (tC (.int 2147483629)))) (tC (.int 77))) (tC (.int 48271))) (tC (.int 2147483629))) (gSub (tVar 0) (tC (.int 2)) rSetL)) <|
 tRet (tOp rModP (tOp (rI CDivW fun i j=> .int (i / j)) (tOp (rIx K) (tVar 0) (tC (.int 2))) (tC (.int 64))) (tVar 1))
theorem Jf5 {K:Zf} {B H:Hp} {m:Mode}:∀ns:List Int,Rl K B H (ns.map D.int) m (ns.map V.int) []
 | []=>⟨rfl,rfl⟩
 | n::ns=>⟨.int n,ns.map V.int,[],[],rfl,⟨rfl,rfl⟩,Jf5 ns,rfl⟩
theorem Jcc:∀{ds:List D} {ns:List Int},intsOf ds=some ns→ds=ns.map D.int
 | [],ns,h=>by cases h;rfl
 | .int i::ds,ns,h=>by
  have h': (intsOf ds).map (i:: ·)=some ns:=h
  cases q:intsOf ds with
  | none=>rw [q] at h';cases h'
  | some ms=>rw [q] at h';cases h';rw [Jcc q];rfl
 | .non::_,_,h=>by cases h
 | .bl _::_,_,h=>by cases h
 | .str _::_,_,h=>by cases h
 | .lst _::_,_,h=>by cases h
 | .tup _::_,_,h=>by cases h
 | .dct _ _::_,_,h=>by cases h
 | .obj _ _ _::_,_,h=>by cases h
theorem Jgv {d:D} {b:Bag} (h:J8v d=some b):d=b.d:=by
 unfold J8v at h
 split at h
 ·rename_i cs p q
  cases e:intsOf cs with
  | none=>rw [e] at h;cases h
  | some ns=>
   rw [e] at h
   cases h
   rw [Jcc e];rfl
 ·cases h
theorem Jrs {K:Zf} {B H:Hp} {b:Bag} {v:V} {fp:List Addr} (r:R K B H b.d (.O (.O .Z)) v fp):∃a c,v= .ref a∧fp= [a,c]∧B a=none∧B c=none∧H a=some (.lst [.ref c,.int b.p,.int b.q])∧H c=some (.lst (b.cs.map V.int)):=by
 obtain ⟨a,vs,fq,rfl,b0,ha,_,hr,rfl⟩:=r
 obtain ⟨v1,r1,f1,f2,rfl,h1,hr,rfl⟩:=hr
 obtain ⟨c,ws,fr,rfl,c0,hc,_,hw,rfl⟩:=h1
 obtain ⟨v2,r2,f3,f4,rfl,⟨rfl,rfl⟩,hr,rfl⟩:=hr
 obtain ⟨v3,r3,f5,f6,rfl,⟨rfl,rfl⟩,⟨rfl,rfl⟩,rfl⟩:=hr
 have e:=J3h (J7g b.cs) hw
 have z:=hw.flatZ (by simp [J3q])
 have ez:fr= []:=by
  have:∀{ds:List D} {vs:List V} {fp:List Addr},Rl K B H ds .Z vs fp→fp= []:=fun {ds}=>by
   induction ds with
   | nil=>intro vs fp h;exact h.2
   | cons d ds ih=>
    intro vs fp h
    obtain ⟨v,r,g1,g2,rfl,k1,k2,rfl⟩:=h
    rw [k1.fpZ,ih k2];rfl
  exact this z
 subst ez;subst e
 exact ⟨a,c,rfl,rfl,b0,c0,ha,hc⟩
theorem Jrt {K:Zf} {B H:Hp} {b:Bag} {a c:Addr} (hl:b.cs.length≤64) (ba:B a=none) (bc:B c=none) (ha:H a=some (.lst [.ref c,.int b.p,.int b.q])) (hc:H c=some (.lst (b.cs.map V.int))):R K B H b.d (.O (.O .Z)) (.ref a) [a,c]:=
 ⟨a,_,[c],rfl,ba,ha,(by show 3≤sizeLine;decide),⟨.ref c,_,[c],[],rfl,⟨c,_,[],rfl,bc,hc,by rw [List.length_map];exact Nat.le_trans hl (by decide),Jf5 _,rfl⟩,⟨.int b.p,_,[],[],rfl,⟨rfl,rfl⟩,⟨.int b.q,_,[],[],rfl,⟨rfl,rfl⟩,⟨rfl,rfl⟩,rfl⟩,rfl⟩,rfl⟩,rfl⟩
theorem Jiq {K:Zf} (vs:List V) (H:Hp) (Q:VK) (E:XK) (h:spD K [.O (.O .Z),.Z] .Z J8w vs H Q E):Jip K { nx:=fun _ H'=>Q .non H',rt:=Q} (start ["_law_bag_here", "_law_lot", "_law_cells", "_law_at", "_law_cell"] vs) H:=by
 obtain ⟨B,ds,fp,sm,ra,nd,q⟩:=h
 rcases ds with _ | ⟨bd,_ | ⟨ld,_ | ⟨_,_⟩⟩⟩
 ·exact q.elim
 ·exact q.elim
 case cons.cons.cons=>
  obtain ⟨_,_,_,_,_,_,⟨_,_,_,_,_,_,z,_⟩,_⟩:=ra
  exact z.elim
 cases ld with
 | int lot=>
  have q1:match (match J8v bd with
   | some b=>if b.good∧0 < lot∧lot < 2 ^ 64 then Fo.ok (.int (J1t b lot).1) [some (J1t b lot).2.d,none] else .bad
   | none=> .bad) with
   | .ok d io=>∀B' H' v fpv fp',Stp B H fp B' H' (fpv++fp')→Lies K B' H'→R K B' H' d .Z v fpv→Ro K B' H' io [.O (.O .Z),.Z] vs fp'→(fpv++fp').Nodup→Q v H'
   | .exc x io=>∀B' H' fpe fp' cls dd,Stp B H fp B' H' (fpe++fp')→Lies K B' H'→J6h K B' H' x cls dd fpe→Ro K B' H' io [.O (.O .Z),.Z] vs fp'→(fpe++fp').Nodup→E cls dd H'
   | .bad=>False:=q
  cases eb:J8v bd with
  | none=>rw [eb] at q1;exact q1.elim
  | some b=>
   rw [eb] at q1
   dsimp only at q1
   by_cases hg:b.good∧0 < lot∧lot < 2 ^ 64
   case neg=>rw [if_neg hg] at q1;exact q1.elim
   rw [if_pos hg] at q1
   obtain ⟨⟨g1,g2,g3,g4⟩,l1,l2⟩:=hg
   have e1:=Jgv eb
   subst e1
   obtain ⟨bv,r1,f1,f2,rfl,rb,⟨lv,r2,f3,f4,rfl,⟨rfl,rfl⟩,⟨rfl,rfl⟩,rfl⟩,rfl⟩:=ra
   obtain ⟨a,c,rfl,rfl,b0,c0,ha,hc⟩:=Jrs rb
   have hac:a≠c:=fun e=>by
    subst e
    have:=(List.nodup_cons.mp nd).1
    simp at this
   have at0:0≤b.p % (b.cs.length:Int):=Int.emod_nonneg _ (by omega)
   have at1:b.p % (b.cs.length:Int) < b.cs.length:=Int.emod_lt_of_pos _ (by omega)
   have atn: ((b.at_:Nat):Int)=b.p % (b.cs.length:Int):=Int.toNat_of_nonneg at0
   have atl:b.at_ < b.cs.length:=by omega
   have cellE:b.cs[b.at_]? =some b.cell:=by
    unfold Bag.cell
    rw [Zg,Ze atl];rfl
   have cellV:atI (b.cs.map V.int) (b.p % (b.cs.length:Int))=some (.int b.cell):=by
    rw [← atn]
    exact atI_nat (by rw [List.getElem?_map,cellE];rfl)
   -- the end of each way
   have fin:∀ (nb:Bag) (H':Hp),J1t b lot= ((J1t b lot).1,nb)→nb.cs.length≤64→H' a=some (.lst [.ref c,.int nb.p,.int nb.q])→H' c=some (.lst (nb.cs.map V.int))→(∀x,x≠a→x≠c→H' x=H x)→Q (.int (J1t b lot).1) H':=fun nb H' en hl h1 h2 h3=>by
    have e2: (J1t b lot).2=nb:=by rw [en]
    rw [e2] at q1
    refine q1 B H' (.int (J1t b lot).1) [] [a,c] ⟨Same.refl _,fun x o n e=>?_,fun x h=> .inl ?_,fun x o e=> .inl e⟩ ⟨fun x o e=>?_,sm.tags,fun p hp=>J4b (sm.tabs p hp) fun y u ey k=>?_⟩ ⟨rfl,rfl⟩ ⟨.ref a,[.int lot],[a,c],[],rfl,.inr ⟨.ref a,rfl,Jrt hl b0 c0 h1 h2⟩,⟨.int lot,[],[],[],rfl,rfl,⟨rfl,rfl⟩,rfl⟩,rfl⟩ (by simpa using nd)
    ·have n':x≠a∧x≠c:=by simpa using n
     exact .inl (by rw [h3 x n'.1 n'.2];exact e)
    ·simpa using h
    ·have hx:x≠a∧x≠c:=⟨(fun z=>by rw [z,b0] at e;cases e),(fun z=>by rw [z,c0] at e;cases e)⟩
     refine (sm.at_ x o e).imp (fun z=>by rw [h3 x hx.1 hx.2];exact z) fun ⟨q,z,w⟩=>⟨q,z,J4b w fun y u ey k=>?_⟩
     have n1:y≠a:=fun z=>by
      rw [z] at ey
      have s:=J2g.lst ha u ey
      rcases k with ⟨ps,k⟩ | ⟨c,q,k⟩
      ·exact s.1 ps k
      ·exact s.2 c q k
     have n2:y≠c:=fun z=>by
      rw [z] at ey
      have s:=J2g.lst hc u ey
      rcases k with ⟨ps,k⟩ | ⟨c,q,k⟩
      ·exact s.1 ps k
      ·exact s.2 c q k
     rw [h3 y n1 n2];exact ey
    ·have n1:y≠a:=fun z=>by
      rw [z] at ey
      have s:=J2g.lst ha u ey
      rcases k with ⟨ps,k⟩ | ⟨c,q,k⟩
      ·exact s.1 ps k
      ·exact s.2 c q k
     have n2:y≠c:=fun z=>by
      rw [z] at ey
      have s:=J2g.lst hc u ey
      rcases k with ⟨ps,k⟩ | ⟨c,q,k⟩
      ·exact s.1 ps k
      ·exact s.2 c q k
     rw [h3 y n1 n2];exact ey
   have lg:lot.natAbs.log2 < 9000:=Nat.lt_trans ((Nat.log2_lt (by omega)).mpr (show lot.natAbs < 2 ^ 64 by omega)) (by decide:64 < 9000)
   have hlen: ((b.cs.map V.int).length:Int)= (b.cs.length:Int):=by rw [List.length_map]
   refine ⟨_,rfl,.inl ⟨a,_,0,.ref c,rfl,rfl,SqL.of ha,rfl,?_⟩⟩
   refine ⟨_,rfl,.inl ⟨a,_,1,.int b.p,rfl,rfl,SqL.of ha,rfl,?_⟩⟩
   refine ⟨_,rfl,c,b.cs.map V.int,rfl,.inl (SqL.of hc),b.p,_,rfl,rfl,(by rw [hlen];omega),?_⟩
   rw [hlen]
   refine ⟨_,rfl,_,rfl,.inl ⟨c,_,b.p % (b.cs.length:Int),.int b.cell,rfl,rfl,SqL.of hc,cellV,?_⟩⟩
   refine ⟨_,rfl,10,18,rfl,rfl,⟨by decide,by decide,by decide⟩,b.cell,_,rfl,rfl,_,rfl,?_⟩
   have ten: (10:Int) ^ (18:Int).toNat=10 ^ 18:=rfl
   rw [ten]
   by_cases hb: (10:Int) ^ 18≤b.cell
   ·show (if decide ((10:Int) ^ 18≤b.cell)=true then _ else _)
    rw [if_pos (Zt hb)]
    refine ⟨_,rfl,_,rfl,b.cell,lot,rfl,rfl,⟨l1,lg⟩,?_⟩
    refine ⟨_,rfl,_,rfl,c,_,b.p % (b.cs.length:Int),b.at_,rfl,rfl,hc,?_,?_⟩
    ·rw [← atn,List.length_map]
     show ixN b.cs.length ((b.at_:Nat):Int)=some b.at_
     unfold ixN
     rw [if_pos (by omega),if_pos (by omega)];rfl
    refine ⟨_,rfl,_,rfl,b.cell,lot,rfl,rfl,l1,?_⟩
    have e2:J1t b lot= (b.cell % lot,⟨b.cs.set b.at_ (b.cell / lot),b.p,b.q⟩):=if_pos hb
    have f2:=fin ⟨b.cs.set b.at_ (b.cell / lot),b.p,b.q⟩ (upd H c (.lst ((b.cs.map V.int).set b.at_ (.int (b.cell / lot))))) (by rw [e2]) (by rw [List.length_set];exact g2) (by rw [upd_ne hac];exact ha) (by rw [upd_same,List.map_set]) (fun x h1 h2=>upd_ne h2)
    rw [e2] at f2
    exact f2
   ·show (if decide ((10:Int) ^ 18≤b.cell)=true then _ else _)
    rw [if_neg (by simpa using hb)]
    refine ⟨_,rfl,.inl ⟨a,_,1,.int b.p,rfl,rfl,SqL.of ha,rfl,?_⟩⟩
    refine ⟨b.p,1,rfl,rfl,?_⟩
    refine ⟨_,rfl,a,_,1,1,rfl,rfl,ha,rfl,?_⟩
    have ha1:upd H a (.lst ([V.ref c,.int b.p,.int b.q].set 1 (.int (b.p + 1)))) a=some (.lst [V.ref c,.int (b.p + 1),.int b.q]):=upd_same
    refine ⟨_,rfl,.inl ⟨a,_,2,.int b.q,rfl,rfl,SqL.of ha1,rfl,?_⟩⟩
    refine ⟨_,rfl,b.cell,2147483629,rfl,rfl,(by show (0:Int) < 2147483629;decide),b.q,_,rfl,rfl,_,77,rfl,rfl,_,48271,rfl,rfl,?_,?_⟩
    ·have h1:0≤b.cell % 2147483629:=Int.emod_nonneg _ (by decide)
     have h2:b.cell % 2147483629 < 2147483629:=Int.emod_lt_of_pos _ (by decide)
     exact wide_mul (a:=40) (b:=40) (by omega) (by decide) (by decide) (by decide) (by decide)
    refine ⟨_,2147483629,rfl,rfl,(by show (0:Int) < 2147483629;decide),?_⟩
    refine ⟨_,rfl,a,_,2,2,rfl,rfl,ha1,rfl,?_⟩
    have ha2:upd (upd H a (.lst ([V.ref c,.int b.p,.int b.q].set 1 (.int (b.p + 1))))) a (.lst ([V.ref c,.int (b.p + 1),.int b.q].set 2 (.int b.nq))) a=some (.lst [V.ref c,.int (b.p + 1),.int b.nq]):=upd_same
    refine ⟨_,rfl,.inl ⟨a,_,2,.int b.nq,rfl,rfl,SqL.of ha2,rfl,?_⟩⟩
    refine ⟨_,64,rfl,rfl,⟨by decide,by decide⟩,?_⟩
    refine ⟨_,rfl,_,lot,rfl,rfl,l1,?_⟩
    have e2:J1t b lot= (b.nq / 64 % lot,⟨b.cs,b.p + 1,b.nq⟩):=if_neg hb
    have f2:=fin ⟨b.cs,b.p + 1,b.nq⟩ (upd (upd H a (.lst ([V.ref c,.int b.p,.int b.q].set 1 (.int (b.p + 1))))) a (.lst ([V.ref c,.int (b.p + 1),.int b.q].set 2 (.int b.nq)))) (by rw [e2]) g2 ha2 (by rw [upd_ne (Ne.symm hac),upd_ne (Ne.symm hac)];exact hc) (fun x h1 h2=>by rw [upd_ne h1,upd_ne h1])
    rw [e2] at f2
    exact f2
 | _=>exact q.elim
section
variable {fs:List Fn} {Γ Γ1:Gam} {α β:Type}
@[simp] theorem bind_ok (a:α) (f:α→Gam→Rz β): (Rz.ok a Γ).bind f=f a Γ:=rfl
@[simp] theorem Jsi (x:Xc) (f:α→Gam→Rz β): (Rz.exc x Γ:Rz α).bind f= .exc x Γ:=rfl
@[simp] theorem Jqf (a:α):Rz.opt (some a) Γ= .ok a Γ:=rfl
@[simp] theorem Jqg (a:α) (f:α→Gam→Sz): (Rz.ok a Γ).s f=f a Γ:=rfl
@[simp] theorem Jtf (x:Xc) (f:α→Gam→Sz): (Rz.exc x Γ:Rz α).s f= .exc x Γ:=rfl
@[simp] theorem Jt6 (d:D):J4 (some d::Γ) 0=some d:=rfl
@[simp] theorem Jt7 (g:Option D) (i:Nat):J4 (g::Γ) (i + 1)=J4 Γ i:=rfl
@[simp] theorem ev_var (i:Nat):ev fs (.var i) Γ=Rz.opt (J4 Γ i) Γ:=rfl
@[simp] theorem Jtg (i:Nat):ev fs (.fv i) Γ=Rz.opt (J4 Γ i) Γ:=rfl
@[simp] theorem Jth (i:Nat):ev fs (.mv i) Γ=Rz.opt (J4 Γ i) (Γ.set i none):=rfl
@[simp] theorem Jqh (i:Int):ev fs (.int i) Γ= .ok (.int i) Γ:=rfl
@[simp] theorem Jti (i:Bool):ev fs (.bl i) Γ= .ok (.bl i) Γ:=rfl
@[simp] theorem Jt8:ev fs .non Γ= .ok .non Γ:=rfl
@[simp] theorem Jt9 (i:Str):ev fs (.str i) Γ= .ok (.str i) Γ:=rfl
@[simp] theorem Jqi (a:Ex):ev fs (.neg a) Γ= (ev fs a Γ).bind fun x Γ1=>Rz.opt (Jd4 x) Γ1:=rfl
@[simp] theorem Jir (o:B2) (a b:Ex):ev fs (.bin o a b) Γ= (ev fs a Γ).bind fun x Γ1=>(ev fs b Γ1).bind fun y Γ2=>Rz.opt (o.op x y) Γ2:=rfl
@[simp] theorem Jqj (o:C2) (a b:Ex):ev fs (.cmp o a b) Γ= (ev fs a Γ).bind fun x Γ1=>(ev fs b Γ1).bind fun y Γ2=>Rz.opt (o.op x y) Γ2:=rfl
@[simp] theorem Jru (a b:Ex):ev fs (.ix a b) Γ= (ev fs a Γ).bind fun x Γ1=>(ev fs b Γ1).bind fun y Γ2=>Rz.opt (ixO x y) Γ2:=rfl
@[simp] theorem ev_if (t:Tx) (a b:Ex):ev fs (.ifE t a b) Γ= (evT fs t Γ).bind fun c Γ1=>if c=true then ev fs a Γ1 else ev fs b Γ1:=rfl
@[simp] theorem Jqk (m:Mode) (as:Ar):ev fs (.tup m as) Γ= (evA fs as Γ).bind fun xs Γ1=> .ok (.tup xs) Γ1:=rfl
@[simp] theorem Jis (m:Mode) (as:Ar):ev fs (.lst m as) Γ= (evA fs as Γ).bind fun xs Γ1=> .ok (.lst xs) Γ1:=rfl
@[simp] theorem ev_call (g:Nat) (as:Ar):ev fs (.call g as) Γ=J8q (fs.getD g default).F (J1x as) (fs.getD g default).dds (evA fs as) Γ:=rfl
@[simp] theorem Jql (o:BN) (as:Ar):ev fs (.blt o as) Γ= (evA fs as Γ).bind fun xs Γ1=>Rz.opt (o.op xs) Γ1:=rfl
@[simp] theorem Jrv (own:List Nat) (it:Ix) (t:Tg) (c:Cx1) (e:Ex):ev fs (.lc own it t c e) Γ=eLc (evI fs it) (evG t) (evC fs c) (ev fs e) own Γ:=rfl
@[simp] theorem Jta (i:Nat) (a:Ex):ev fs (.app i a) Γ=Jb4 i (ev fs a) Γ:=rfl
@[simp] theorem Jqm (a:Ex):ev fs (.frz a) Γ=ev fs a Γ:=rfl
@[simp] theorem Jtb (m:Mode) (a:Ex):ev fs (.sub m a) Γ=ev fs a Γ:=rfl
@[simp] theorem Jny (a:Ex):ev fs (.flat a) Γ= (ev fs a Γ).bind fun x Γ1=>Rz.opt (if J3q x=true then some x else none) Γ1:=rfl
@[simp] theorem Jqn (M:List Bool) (a:Ex):ev fs (.bor M a) Γ=J4s M (ev fs a) Γ:=rfl
@[simp] theorem Jme (k:Bool) (a:Ex) (lo hi:Option Px):ev fs (.sl k a lo hi) Γ=eSl (if k=true then J2v else J85) (ev fs a) (lo.map Jl) (hi.map Jl) Γ:=rfl
@[simp] theorem Jnz:evA fs .nil Γ= .ok [] Γ:=rfl
@[simp] theorem Jmf (a:Ex) (r:Ar):evA fs (.e a r) Γ= (ev fs a Γ).bind fun x Γ1=>(evA fs r Γ1).bind fun xs Γ2=> .ok (x::xs) Γ2:=rfl
@[simp] theorem Jqo (i:Nat) (r:Ar):evA fs (.io i r) Γ= (Rz.opt (J4 Γ i) (Γ.set i none)).bind fun x Γ1=>(evA fs r Γ1).bind fun xs Γ2=> .ok (x::xs) Γ2:=rfl
@[simp] theorem Jrw:J1x .nil= []:=rfl
@[simp] theorem Jsx (a:Ex) (r:Ar):J1x (.e a r)=shift (J1x r):=rfl
@[simp] theorem Jsj (i:Nat) (r:Ar):J1x (.io i r)= (0,i)::shift (J1x r):=rfl
@[simp] theorem Js6:shift []= []:=rfl
@[simp] theorem Jrx (q:Nat × Nat) (r:Ios):shift (q::r)= (q.1 + 1,q.2)::shift r:=rfl
@[simp] theorem Jo0 (a:Ex):evT fs (.val a) Γ=eB (ev fs a) Γ:=rfl
@[simp] theorem Jo1 (o:C2) (a b:Ex):evT fs (.cmp o a b) Γ=eB (ev fs (.cmp o a b)) Γ:=rfl
@[simp] theorem Jo2 (t:Tx):evT fs (.not t) Γ= (evT fs t Γ).bind fun b Γ1=> .ok (!b) Γ1:=rfl
@[simp] theorem Jo3 (t u:Tx):evT fs (.and t u) Γ= (evT fs t Γ).bind fun b Γ1=>if b=true then evT fs u Γ1 else .ok false Γ1:=rfl
@[simp] theorem Jqp (t u:Tx):evT fs (.or t u) Γ= (evT fs t Γ).bind fun b Γ1=>if b=true then .ok true Γ1 else evT fs u Γ1:=rfl
@[simp] theorem Jo4 (M:List Bool) (t:Tx):evT fs (.bor M t) Γ=J4s M (evT fs t) Γ:=rfl
@[simp] theorem Jtc:evC fs .no Γ= .ok true Γ:=rfl
@[simp] theorem Jsy (t:Tx):evC fs (.one t) Γ=evT fs t Γ:=rfl
@[simp] theorem Jld (a:Ex):evI fs (.list a) Γ=J9e (ev fs a) Γ:=rfl
@[simp] theorem Jsz (a:Ex):evI fs (.tup a) Γ=Jfu (ev fs a) Γ:=rfl
@[simp] theorem Jqq (a:Ex):evI fs (.r1 a) Γ= (ev fs a Γ).bind fun x Γ1=>Rz.opt (J4t [x]) Γ1:=by
 show eNi J4t (Jj (ev fs a) J1z) Γ=_
 unfold eNi Jj
 cases ev fs a Γ <;> rfl
@[simp] theorem Jo5 (a b:Ex):evI fs (.zip a b) Γ= (ev fs a Γ).bind fun x Γ1=>(ev fs b Γ1).bind fun y Γ2=>Rz.opt (Jb6 [x,y]) Γ2:=by
 show eNi Jb6 (Jj (ev fs a) (Jj (ev fs b) J1z)) Γ=_
 unfold eNi Jj
 cases ev fs a Γ with
 | ok x Γ1=>
  simp only [bind_ok]
  cases ev fs b Γ1 <;> rfl
 | _=>rfl
@[simp] theorem Jle (a:Ex):evI fs (.enum a) Γ= (ev fs a Γ).bind fun x Γ1=>Rz.opt (J3r [x]) Γ1:=by
 show eNi J3r (Jj (ev fs a) J1z) Γ=_
 unfold eNi Jj
 cases ev fs a Γ <;> rfl
@[simp] theorem Jtd (i:Nat) (d:D):evG (.nm i) d Γ=some (Γ.set i (some d)):=rfl
@[simp] theorem Jt0 (ts:Tgs) (ds:List D):evG (.tup ts) (.tup ds) Γ=J6l ts ds Γ:=rfl
@[simp] theorem Jt1 (ts:Tgs) (ds:List D):evG (.lst ts) (.lst ds) Γ=J6l ts ds Γ:=rfl
@[simp] theorem Jsk:J6l .nil [] Γ=some Γ:=rfl
@[simp] theorem Js7 (t:Tg) (r:Tgs) (d:D) (ds:List D):J6l (.cons t r) (d::ds) Γ= (evG t d Γ).bind fun Γ1=>J6l r ds Γ1:=rfl
@[simp] theorem Jt2:ex fs .pass Γ= .nx Γ:=rfl
@[simp] theorem Jte:ex fs .brk Γ= .bk Γ:=rfl
@[simp] theorem Jo6 (e:Ex):ex fs (.expr e) Γ= (ev fs e Γ).s fun _ Γ1=> .nx Γ1:=rfl
@[simp] theorem Jit (e:Ex):ex fs (.ret e) Γ= (ev fs e Γ).s fun d Γ1=> .rt d Γ1:=rfl
@[simp] theorem Jqr (t:Tx) (a b:Sms):ex fs (.ite t a b) Γ= (evT fs t Γ).s fun c Γ1=>if c=true then exs fs a Γ1 else exs fs b Γ1:=rfl
@[simp] theorem Jqs (t:Tg) (e:Ex):ex fs (.asg t e) Γ= (ev fs e Γ).s fun d Γ1=>match evG t d Γ1 with
 | some Γ2=> .nx Γ2
 | none=> .bad:=rfl
@[simp] theorem Jsl (i:Nat) (own:List Nat) (it:Ix) (t:Tg) (c:Cx1) (e:Ex):ex fs (.setLc i own it t c e) Γ= (eLc (evI fs it) (evG t) (evC fs c) (ev fs e) own Γ).s fun d Γ1=> .nx (Γ1.set i (some d)):=rfl
@[simp] theorem Jtj (μ:List Mode) (s:Sm):ex fs (.at_ μ s) Γ=ex fs s Γ:=rfl
@[simp] theorem Jqt (it:Ix) (t:Tg) (b:Sms):ex fs (.for_ it t b) Γ= (evI fs it Γ).s fun ds Γ1=>J14 (evG t) (exs fs b) ds Γ1:=rfl
@[simp] theorem Jt3:exs fs .nil Γ= .nx Γ:=rfl
@[simp] theorem Jt4 (s:Sm):exs fs (.cons s .nil) Γ=ex fs s Γ:=rfl
end
theorem Jan {t:D→Gam→Option Gam} {tt:Gam→Rz Bool} {fe:Gam→Rz D} {vs:List Nat} {Γ:Gam} (g:D→D):∀ (ds:List D) (acc:List D),
  (∀d∈ds,∃Γ1 Γ2 Γ3,t d Γ=some Γ1∧tt Γ1= .ok true Γ2∧fe Γ2= .ok (g d) Γ3∧Jf Γ3 vs=Γ)→Jw t tt fe vs ds Γ acc=some (acc++ds.map g,Γ)
 | [],acc,_=>by simp [Jw]
 | d::ds,acc,h=>by
  obtain ⟨Γ1,Γ2,Γ3,e1,e2,e3,e4⟩:=h d (Zs ..)
  unfold Jw
  rw [e1];dsimp only;rw [e2];dsimp only;rw [e3];dsimp only
  rw [e4,Jan g ds (acc++ [g d]) fun d hd=>h d (Zc _ hd)]
  simp
theorem Jqu {fi:Gam→Rz (List D)} {t:D→Gam→Option Gam} {tt:Gam→Rz Bool} {fe:Gam→Rz D} {vs:List Nat} {Γ Γ1 Γ2:Gam} {ds ys:List D} (h1:fi Γ= .ok ds Γ1) (h2:Jw t tt fe vs ds (Jf Γ1 vs) []=some (ys,Γ2)):eLc fi t tt fe vs Γ= .ok (.lst ys) (J3w Γ1 Γ2 vs):=by
 unfold eLc
 rw [h1];simp only [bind_ok];rw [h2]
theorem Jdx:∀{n:Nat} {d:D},shN n d=true→shN (n + 1) d=true
 | n,.non,_=>by cases n <;> rfl
 | n,.bl _,_=>by cases n <;> rfl
 | n,.int _,_=>by cases n <;> rfl
 | n,.str x,h=>by cases n <;> exact h
 | n + 1,.lst ds,h=>by
  have h':ds.all (shN n)=true:=h
  show ds.all (shN (n + 1))=true
  rw [List.all_eq_true] at h' ⊢
  exact fun d hd=>Jdx (h' d hd)
 | n + 1,.tup ds,h=>by
  have h':ds.all (shN n)=true:=h
  show ds.all (shN (n + 1))=true
  rw [List.all_eq_true] at h' ⊢
  exact fun d hd=>Jdx (h' d hd)
 | 0,.lst _,h=>by cases h
 | 0,.tup _,h=>by cases h
 | n,.dct _ _,h=>by cases n <;> cases h
 | n,.obj _ _ _,h=>by cases n <;> cases h
theorem J1h {m n:Nat} {d:D} (h:shN m d=true) (l:m≤n):shN n d=true:=by
 induction l with
 | refl=>exact h
 | step _ ih=>exact Jdx ih
theorem Jiu {n a:Nat} (h:a < n):ixN n (a:Int)=some a:=by
 unfold ixN
 rw [if_pos (by omega),if_pos (by omega)];rfl
end EV
namespace EV
open PySem PySem.Spec PyProof.Rows L2
theorem Jqv {lw:PySem.W.OpenLaw} {cap lvl:Nat} {pr:Program} {lo:List Str} {XP: (Str→Option Value)→Heap→Prop} {YP:World→Heap→Prop} {dr:DefRec} {x:Str} (e1:lw.most=some cap) (e2:cap≤sizeLine) (e3:dr.params.defaults= []) (e4:Room lvl callerA)
  (F:∀ (w:World) (mg:Str→Option Value) (ad:Addr) (h:Heap),YP w h→h.Ns mainGlobals mg→mg dr.name=some (.ref ad)→∃ (K:Zf) (fd:FuncData) (fo:List D→Fo),K.In h∧(∀ (s:Shared) (u:Value),BindsTo s fd ⟨[u],[]⟩ [(x,u)])∧tabsOf K= []∧
   (∀ns:List Int,ns.length≤cap→∃io,fo [.lst (ns.map D.int)]= .ok (.bl true) io)∧∀base:Heap,K.In base→base.Ns mainGlobals mg→FnOk lw.prog w K mg base (L2.CX lw.prog w) lvl ad fd [x] (spD K [.F] .Z fo)):
  PySem.W.WalkO pr lo XP YP lw.row.toRowW dr [] (fun f vs=>PySem.call f vs):=
 Att.attach_call e1 e3 fun w t0 t1 mg mb ad ob pm cd doc a vs ns G Y i1 i2 i3 i4 i5 i6 i7 i8=>by
  obtain ⟨K,fd,fo,kin,bnds,tb,says,ok⟩:=F w mg ad _ Y G.T.g i4
  refine law_call kin G.T.g G.T.b G.T.builtins G.T.nolimit i8 i5 i6 (Nat.le_trans i7 e2) e4 ok bnds (fun H _ sq=>?_) fun H e t=>Jqd H t1 e t
  obtain ⟨io,hio⟩:=says ns i7
  exact Jqc hio (Nat.le_trans i7 e2) (by rw [tb];exact List.nodup_nil) H (fun p hp=>by rw [tb] at hp;cases hp) a sq
theorem SaysX.d {fa:List He.Fa} {fn:List He.DefD} {ex:List (Zf→Bool)} {K:Zf} (c:SaysX fa fn ex K):He.SaysD fa fn K:=congrArg (fun z:AlX=>z.1) c
theorem SaysX.more {fa:List He.Fa} {fn:List He.DefD} {ex:List (Zf→Bool)} {K:Zf} (c:SaysX fa fn ex K) (f:Zf→Bool) (h:f∈ex):f K=true:=
 List.all_eq_true.mp (show (ex.all fun f=>f K)=true from congrArg (fun z:AlX=>z.2) c) f h
section
variable {fa:List He.Fa} {fn:List He.DefD} {ex:List (Zf→Bool)} {ts:List (Str × List Str)} {w:World} {K:Zf}
theorem Jct.x (c:Jct fa fn ex ts w K):SaysX fa fn ex K:=congrArg (fun z:AlY=>z.1) c
end
end EV
namespace EV
open PySem PySem.Spec L2
inductive M (α:Type) where
 | ok (a:α) | exc (x:Xc) | bad
namespace M
variable {α β γ:Type}
noncomputable def bind (m:M α) (f:α→M β):M β:=match m with
 | .ok a=>f a
 | .exc x=> .exc x
 | .bad=> .bad
@[simp] theorem ok_bind (a:α) (f:α→M β): (M.ok a).bind f=f a:=rfl
@[simp] theorem exc_bind (x:Xc) (f:α→M β): (M.exc x:M α).bind f= .exc x:=rfl
@[simp] theorem Jsm (f:α→M β): (M.bad:M α).bind f= .bad:=rfl
@[simp] theorem bind_ok (m:M α):m.bind M.ok=m:=by cases m <;> rfl
theorem bind_assoc (m:M α) (f:α→M β) (g:β→M γ): (m.bind f).bind g=m.bind fun a=>(f a).bind g:=by cases m <;> rfl
noncomputable def opt (o:Option α):M α:=match o with
 | some a=> .ok a
 | none=> .bad
@[simp] theorem opt_some (a:α):M.opt (some a)= .ok a:=rfl
noncomputable def fold {σ:Type} (xs:List α) (s:σ) (f:σ→α→M σ):M σ:=match xs with
 | []=> .ok s
 | x::xs=>(f s x).bind fun s=>fold xs s f
@[simp] theorem Jsn {σ:Type} (s:σ) (f:σ→α→M σ):M.fold [] s f= .ok s:=rfl
@[simp] theorem fold_cons {σ:Type} (x:α) (xs:List α) (s:σ) (f:σ→α→M σ):M.fold (x::xs) s f= (f s x).bind fun s=>M.fold xs s f:=rfl
noncomputable def mapM (xs:List α) (f:α→M β):M (List β):=match xs with
 | []=> .ok []
 | x::xs=>(f x).bind fun y=>(mapM xs f).bind fun ys=> .ok (y::ys)
@[simp] theorem Jso (f:α→M β):M.mapM [] f= .ok []:=rfl
@[simp] theorem mapM_cons (x:α) (xs:List α) (f:α→M β):M.mapM (x::xs) f= (f x).bind fun y=>(M.mapM xs f).bind fun ys=> .ok (y::ys):=rfl
theorem mapM_ok (g:α→β) {f:α→M β}:∀{xs:List α},(∀x∈xs,f x= .ok (g x))→M.mapM xs f= .ok (xs.map g)
 | [],_=>rfl
 | x::xs,h=>by
  rw [mapM_cons,h x Zs,ok_bind,mapM_ok g fun y hy=>h y (Zc _ hy)];rfl
noncomputable def fmapM (xs:List α) (f:α→M (Option β)):M (List β):=match xs with
 | []=> .ok []
 | x::xs=>(f x).bind fun y=>(fmapM xs f).bind fun ys=> .ok (match y with
  | some y=>y::ys
  | none=>ys)
@[simp] theorem Js8 (f:α→M (Option β)):M.fmapM [] f= .ok []:=rfl
theorem fmapM_cons (x:α) (xs:List α) (f:α→M (Option β)):M.fmapM (x::xs) f= (f x).bind fun y=>(M.fmapM xs f).bind fun ys=> .ok (match y with
  | some y=>y::ys
  | none=>ys):=rfl
noncomputable def smapM {σ:Type} (xs:List α) (s:σ) (f:σ→α→M (β × σ)):M (List β × σ):=match xs with
 | []=> .ok ([],s)
 | x::xs=>(f s x).bind fun y=>(smapM xs y.2 f).bind fun ys=> .ok (y.1::ys.1,ys.2)
@[simp] theorem Js9 {σ:Type} (s:σ) (f:σ→α→M (β × σ)):M.smapM [] s f= .ok ([],s):=rfl
@[simp] theorem Jry {σ:Type} (x:α) (xs:List α) (s:σ) (f:σ→α→M (β × σ)):M.smapM (x::xs) s f= (f s x).bind fun y=>(M.smapM xs y.2 f).bind fun ys=> .ok (y.1::ys.1,ys.2):=rfl
noncomputable def Ens (m:M α) (P:α→Prop):Prop:=∃a,m= .ok a∧P a
theorem Ens.bind {m:M α} {f:α→M β} {P:α→Prop} {Q:β→Prop} (h:m.Ens P) (k:∀a,P a→(f a).Ens Q): (m.bind f).Ens Q:=by
 obtain ⟨a,rfl,p⟩:=h
 exact k a p
theorem Ens.ok {a:α} {P:α→Prop} (h:P a): (M.ok a).Ens P:=⟨a,rfl,h⟩
theorem Ens.imp {m:M α} {P Q:α→Prop} (h:m.Ens P) (i:∀a,P a→Q a):m.Ens Q:=by
 obtain ⟨a,e,p⟩:=h
 exact ⟨a,e,i a p⟩
end M
class Enc (α:Type) where
 d:α→D
noncomputable abbrev E {α:Type} [Enc α] (a:α):D:=Enc.d a
noncomputable abbrev sZ {α:Type} [Enc α] (a:α):Option D:=some (E a)
structure Tu (α:Type) where
 l:List α
 deriving DecidableEq
structure T3 (α β γ:Type) where
 a:α
 b:β
 c:γ
 deriving DecidableEq
structure T4 (α β γ δ:Type) where
 a:α
 b:β
 c:γ
 d:δ
 deriving DecidableEq
structure T5 (α β γ δ ε:Type) where
 a:α
 b:β
 c:γ
 d:δ
 e:ε
 deriving DecidableEq
noncomputable instance:Enc Int:=⟨.int⟩
noncomputable instance:Enc Bool:=⟨.bl⟩
noncomputable instance:Enc Str:=⟨.str⟩
noncomputable instance:Enc Unit:=⟨fun _=> .non⟩
noncomputable instance:Enc D:=⟨fun d=>d⟩
noncomputable instance {α:Type} [Enc α]:Enc (List α):=⟨fun xs=> .lst (xs.map Enc.d)⟩
noncomputable instance {α:Type} [Enc α]:Enc (Tu α):=⟨fun xs=> .tup (xs.l.map Enc.d)⟩
noncomputable instance {α β:Type} [Enc α] [Enc β]:Enc (α × β):=⟨fun p=> .tup [Enc.d p.1,Enc.d p.2]⟩
noncomputable instance {α β γ:Type} [Enc α] [Enc β] [Enc γ]:Enc (T3 α β γ):=⟨fun p=> .tup [Enc.d p.a,Enc.d p.b,Enc.d p.c]⟩
noncomputable instance {α β γ δ:Type} [Enc α] [Enc β] [Enc γ] [Enc δ]:Enc (T4 α β γ δ):=⟨fun p=> .tup [Enc.d p.a,Enc.d p.b,Enc.d p.c,Enc.d p.d]⟩
noncomputable instance {α β γ δ ε:Type} [Enc α] [Enc β] [Enc γ] [Enc δ] [Enc ε]:Enc (T5 α β γ δ ε):=⟨fun p=> .tup [Enc.d p.a,Enc.d p.b,Enc.d p.c,Enc.d p.d,Enc.d p.e]⟩
noncomputable instance {α:Type} [Enc α]:Enc (Option α):=⟨fun o=>match o with
 | none=> .non
 | some a=>Enc.d a⟩
noncomputable instance:Enc Bag:=⟨Bag.d⟩
class Tgt (T:Type) where
 exc:Xc→Gam→T
 bad:T
noncomputable instance:Tgt Sz:=⟨.exc,.bad⟩
noncomputable instance {α:Type}:Tgt (Rz α):=⟨.exc,.bad⟩
noncomputable def Rz.to {α T:Type} [Tgt T] (r:Rz α) (K:α→Gam→T):T:=match r with
 | .ok a Γ=>K a Γ
 | .exc x Γ=>Tgt.exc x Γ
 | .bad=>Tgt.bad
noncomputable def Sz.seq (z:Sz) (r:Gam→Sz):Sz:=match z with
 | .nx Γ=>r Γ
 | o=>o
section
variable {α β γ T:Type} [Tgt T]
theorem J5 (r:Rz α) (f:α→Gam→Rz β) (K:β→Gam→T): (r.bind f).to K=r.to fun a Γ=>(f a Γ).to K:=by cases r <;> rfl
theorem J7r (r:Rz α):r.to Rz.ok=r:=by cases r <;> rfl
theorem J47 (r:Rz α) (f:α→Gam→Sz):r.s f=r.to f:=by cases r <;> rfl
theorem J9r (r:Rz α) (f:α→Gam→Rz β):r.bind f=r.to f:=by cases r <;> rfl
theorem J27 (r:Rz α) (f:α→Gam→Sz) (k:Gam→Sz): (r.to f).seq k=r.to fun a Γ=>(f a Γ).seq k:=by cases r <;> rfl
theorem Jo7 (z:Sz) (f g:Gam→Sz): (z.seq f).seq g=z.seq fun Γ=>(f Γ).seq g:=by cases z <;> rfl
noncomputable def Tie (z:T) (m:M β) (fin:β→T→Prop) (X:Xc→Gam→Prop):Prop:=match m with
 | .ok b=>fin b z
 | .exc x=>∃Γ,z=Tgt.exc x Γ∧X x Γ
 | .bad=>True
noncomputable def Jd (o:Fo) (m:M β) (v:β→D) (io:β→List (Option D)):Prop:=match m with
 | .ok b=>o= .ok (v b) (io b)
 | .exc x=>∃io,o= .exc x io
 | .bad=>True
noncomputable def OpM (o:Option D) (m:M β) (v:β→D):Prop:=match m with
 | .ok b=>o=some (v b)
 | .exc _=>False
 | .bad=>True
variable {z:T} {m:M β} {fin:β→T→Prop} {X:Xc→Gam→Prop} {fs:List Fn} {Γ Γ1 Γ2:Gam}
theorem T2x:Tie z (.bad:M β) fin X:=trivial
theorem T2 {b:β} (h:fin b z):Tie z (.ok b) fin X:=h
theorem T1b {δ:Type} {r:Rz α} {K:α→Gam→T} {n:M δ} {k:δ→M β} {v:δ→α} {g:δ→Gam} (h:Tie r n (fun b z=>z= .ok (v b) (g b)) X) (hk:∀b,Tie (K (v b) (g b)) (k b) fin X):Tie (r.to K) (n.bind k) fin X:=by
 cases n with
 | ok b=>
  have e:r= .ok (v b) (g b):=h
  rw [e];exact hk b
 | exc x=>
  obtain ⟨Γ,e,q⟩:=h
  rw [e];exact ⟨Γ,rfl,q⟩
 | bad=>trivial
theorem T1k {δ:Type} {z1:Sz} {K:Gam→Sz} {n:M δ} {k:δ→M β} {g:δ→Gam} {fin:β→Sz→Prop} (h:Tie z1 n (fun b z=>z= .nx (g b)) X) (hk:∀b,Tie (K (g b)) (k b) fin X):Tie (z1.seq K) (n.bind k) fin X:=by
 cases n with
 | ok b=>
  have e:z1= .nx (g b):=h
  rw [e];exact hk b
 | exc x=>
  obtain ⟨Γ,e,q⟩:=h
  rw [e];exact ⟨Γ,rfl,q⟩
 | bad=>trivial
theorem Ti {r:Rz α} {m:M β} {fin:β→Rz α→Prop} (h:Tie (r.to Rz.ok) m fin X):Tie r m fin X:=by rw [J7r] at h;exact h
variable {K:D→Gam→T} {KL:List D→Gam→T} {KB:Bool→Gam→T}
theorem T0 {i:Nat} {d:D} (h:J4 Γ i=some d) (k:Tie (K d Γ) m fin X):Tie ((ev fs (.var i) Γ).to K) m fin X:=by
 have e:ev fs (.var i) Γ= .ok d Γ:=by show Rz.opt (J4 Γ i) Γ=_;rw [h];rfl
 rw [e];exact k
theorem T16 {i:Nat} {d:D} (h:J4 Γ i=some d) (k:Tie (K d Γ) m fin X):Tie ((ev fs (.fv i) Γ).to K) m fin X:=T0 (fs:=fs) h k
theorem T24 {i:Nat} {d:D} (h:J4 Γ i=some d) (hg:Γ.set i none=Γ1) (k:Tie (K d Γ1) m fin X):Tie ((ev fs (.mv i) Γ).to K) m fin X:=by
 have e:ev fs (.mv i) Γ= .ok d Γ1:=by show Rz.opt (J4 Γ i) (Γ.set i none)=_;rw [h,hg];rfl
 rw [e];exact k
theorem T8 {i:Int} (k:Tie (K (E i) Γ) m fin X):Tie ((ev fs (.int i) Γ).to K) m fin X:=k
theorem T1i {i:Bool} (k:Tie (K (E i) Γ) m fin X):Tie ((ev fs (.bl i) Γ).to K) m fin X:=k
theorem Tz {i:Str} (k:Tie (K (E i) Γ) m fin X):Tie ((ev fs (.str i) Γ).to K) m fin X:=k
theorem T1e (k:Tie (K .non Γ) m fin X):Tie ((ev fs .non Γ).to K) m fin X:=k
theorem T25 {a:Ex} (k:Tie ((ev fs a Γ).to fun x Γ1=>(Rz.opt (Jd4 x) Γ1).to K) m fin X):Tie ((ev fs (.neg a) Γ).to K) m fin X:=by
 rw [Jqi,J5];exact k
theorem Tn {o:B2} {a b:Ex} (k:Tie ((ev fs a Γ).to fun x Γ1=>(ev fs b Γ1).to fun y Γ2=>(Rz.opt (o.op x y) Γ2).to K) m fin X):Tie ((ev fs (.bin o a b) Γ).to K) m fin X:=by
 rw [Jir,J5];simp only [J5];exact k
theorem T1f {o:C2} {a b:Ex} (k:Tie ((ev fs a Γ).to fun x Γ1=>(ev fs b Γ1).to fun y Γ2=>(Rz.opt (o.op x y) Γ2).to K) m fin X):Tie ((ev fs (.cmp o a b) Γ).to K) m fin X:=by
 rw [Jqj,J5];simp only [J5];exact k
theorem T1n {α:Type} [Enc α] {x:Str} {d:D} {a:α} (h:d=E a) (k:Tie (K (E a) Γ) m fin X):Tie ((ev fs (.glob x d) Γ).to K) m fin X:=by rw [h];exact k
noncomputable def chK (g1 g2:D→D→Option D) (f3:Gam→Rz D) (x y:D) (Γ2:Gam):Rz D:=match g1 x y with
 | some (.bl true)=>(f3 Γ2).bind fun z Γ3=>Rz.opt (g2 y z) Γ3
 | some (.bl false)=> .ok (.bl false) Γ2
 | _=> .bad
theorem T1u {o1 o2:C2} {a b c:Ex} (k:Tie ((ev fs a Γ).to fun x Γ1=>(ev fs b Γ1).to fun y Γ2=>(chK o1.op o2.op (ev fs c) x y Γ2).to K) m fin X):Tie ((ev fs (.ch2 o1 o2 a b c) Γ).to K) m fin X:=by
 have e:ev fs (.ch2 o1 o2 a b c) Γ= (ev fs a Γ).bind fun x Γ1=>(ev fs b Γ1).bind fun y Γ2=>chK o1.op o2.op (ev fs c) x y Γ2:=rfl
 rw [e,J5];simp only [J5];exact k
theorem T1v {γ:Type} [Enc γ] {g1 g2:D→D→Option D} {f3:Gam→Rz D} {x y:D} {b1 b2:Bool} {z:γ} (h:g1 x y=some (E b1)) (hc:Tie ((f3 Γ).to Rz.ok) (.ok z) (fun z r=>r= .ok (E z) Γ) X) (h2:g2 y (E z)=some (E b2)) (k:Tie (K (E (b1 && b2)) Γ) m fin X):Tie ((chK g1 g2 f3 x y Γ).to K) m fin X:=by
 rw [J7r] at hc
 have e3:f3 Γ= .ok (E z) Γ:=hc
 unfold chK
 rw [h]
 cases b1 with
 | false=>exact k
 | true=>
  show Tie (((f3 Γ).bind _).to K) m fin X
  rw [e3,EV.bind_ok,h2];exact k
theorem Tj {a b:Ex} (k:Tie ((ev fs a Γ).to fun x Γ1=>(ev fs b Γ1).to fun y Γ2=>(Rz.opt (ixO x y) Γ2).to K) m fin X):Tie ((ev fs (.ix a b) Γ).to K) m fin X:=by
 rw [Jru,J5];simp only [J5];exact k
theorem Ta {a:Ex} (k:Tie ((ev fs a Γ).to K) m fin X):Tie ((ev fs (.frz a) Γ).to K) m fin X:=k
theorem T26 {mo:Mode} {a:Ex} (k:Tie ((ev fs a Γ).to K) m fin X):Tie ((ev fs (.sub mo a) Γ).to K) m fin X:=k
theorem T1c {a:Ex} (k:Tie ((ev fs a Γ).to fun x Γ1=>(Rz.opt (if J3q x=true then some x else none) Γ1).to K) m fin X):Tie ((ev fs (.flat a) Γ).to K) m fin X:=by
 rw [Jny,J5];exact k
theorem T1l {mo:Mode} {as:Ar} (k:Tie ((evA fs as Γ).to fun xs Γ1=>(Rz.opt (some (D.tup xs)) Γ1).to K) m fin X):Tie ((ev fs (.tup mo as) Γ).to K) m fin X:=by
 rw [Jqk,J5];exact k
theorem T14 {mo:Mode} {as:Ar} (k:Tie ((evA fs as Γ).to fun xs Γ1=>(Rz.opt (some (D.lst xs)) Γ1).to K) m fin X):Tie ((ev fs (.lst mo as) Γ).to K) m fin X:=by
 rw [Jis,J5];exact k
theorem Td {o:BN} {as:Ar} (k:Tie ((evA fs as Γ).to fun xs Γ1=>(Rz.opt (o.op xs) Γ1).to K) m fin X):Tie ((ev fs (.blt o as) Γ).to K) m fin X:=by
 rw [Jql,J5];exact k
theorem T7 (k:Tie (KL [] Γ) m fin X):Tie ((evA fs .nil Γ).to KL) m fin X:=k
theorem T6 {a:Ex} {r:Ar} (k:Tie ((ev fs a Γ).to fun x Γ1=>(evA fs r Γ1).to fun xs Γ2=>KL (x::xs) Γ2) m fin X):Tie ((evA fs (.e a r) Γ).to KL) m fin X:=by
 rw [Jmf,J5];simp only [J5];exact k
theorem Tq {i:Nat} {r:Ar} {d:D} (h:J4 Γ i=some d) (hg:Γ.set i none=Γ1) (k:Tie ((evA fs r Γ1).to fun xs Γ2=>KL (d::xs) Γ2) m fin X):Tie ((evA fs (.io i r) Γ).to KL) m fin X:=by
 rw [Jqo,h,hg,Jqf,EV.bind_ok,J5];exact k
theorem T1 {o:Option α} {a:α} {K:α→Gam→T} (h:o=some a) (k:Tie (K a Γ) m fin X):Tie ((Rz.opt o Γ).to K) m fin X:=by
 rw [h];exact k
theorem Tc {δ:Type} {o:Option D} {n:M δ} {v:δ→D} {k:δ→M β} (h:OpM o n v) (hk:∀b,Tie (K (v b) Γ) (k b) fin X):Tie ((Rz.opt o Γ).to K) (n.bind k) fin X:=by
 cases n with
 | ok b=>
  have e:o=some (v b):=h
  rw [e];exact hk b
 | exc x=>exact h.elim
 | bad=>trivial
noncomputable def Fo.r (o:Fo) (ios:Ios) (Γ:Gam):Rz D:=match o with
 | .ok d io=> .ok d (J3f ios io Γ)
 | .exc x io=> .exc x (J3f ios io Γ)
 | .bad=> .bad
theorem Tw {g:Nat} {as:Ar} {f:Fn} (hf:fs.getD g default=f) (k:Tie ((evA fs as Γ).to fun ds Γ1=>((f.F (ds++f.dds)).r (J1x as) Γ1).to K) m fin X):Tie ((ev fs (.call g as) Γ).to K) m fin X:=by
 have e:ev fs (.call g as) Γ= (evA fs as Γ).bind fun ds Γ1=>(f.F (ds++f.dds)).r (J1x as) Γ1:=by
  rw [ev_call,hf];rfl
 rw [e,J5];exact k
theorem Te {δ:Type} {o:Fo} {ios:Ios} {n:M δ} {v:δ→D} {io:δ→List (Option D)} {g:δ→Gam} {k:δ→M β} (h:Jd o n v io) (hg:∀b,J3f ios (io b) Γ=g b) (hx:∀x io',X x (J3f ios io' Γ)) (hk:∀b,Tie (K (v b) (g b)) (k b) fin X):Tie ((o.r ios Γ).to K) (n.bind k) fin X:=by
 cases n with
 | ok b=>
  have e:o= .ok (v b) (io b):=h
  rw [e]
  show Tie (K (v b) (J3f ios (io b) Γ)) _ _ _
  rw [hg];exact hk b
 | exc x=>
  obtain ⟨io',e⟩:=h
  rw [e];exact ⟨_,rfl,hx x io'⟩
 | bad=>trivial
theorem T1d {a:Ex} (k:Tie ((ev fs a Γ).to fun d Γ1=>(Rz.opt (match d with | .bl b=>some b | _=>none) Γ1).to KB) m fin X):Tie ((evT fs (.val a) Γ).to KB) m fin X:=by
 have e:evT fs (.val a) Γ= (ev fs a Γ).bind fun d Γ1=>Rz.opt (match d with | .bl b=>some b | _=>none) Γ1:=by
  rw [Jo0];unfold eB;congr;funext d Γ1;cases d <;> rfl
 rw [e,J5];exact k
theorem Th {o:C2} {a b:Ex} (k:Tie ((ev fs a Γ).to fun x Γ1=>(ev fs b Γ1).to fun y Γ2=>(Rz.opt (o.op x y) Γ2).to fun d Γ3=>(Rz.opt (match d with | .bl b=>some b | _=>none) Γ3).to KB) m fin X):Tie ((evT fs (.cmp o a b) Γ).to KB) m fin X:=by
 have e:evT fs (.cmp o a b) Γ= (ev fs (.cmp o a b) Γ).bind fun d Γ1=>Rz.opt (match d with | .bl b=>some b | _=>none) Γ1:=by
  rw [Jo1];unfold eB;congr;funext d Γ1;cases d <;> rfl
 rw [e,J5];exact T1f k
theorem T17 {t:Tx} (k:Tie ((evT fs t Γ).to fun b Γ1=>KB (!b) Γ1) m fin X):Tie ((evT fs (.not t) Γ).to KB) m fin X:=by
 rw [Jo2,J5];exact k
theorem Tb {b:Bool} (k:Tie (KB b Γ) m fin X):Tie ((Rz.opt (match E b with | .bl b=>some b | _=>none) Γ).to KB) m fin X:=k
theorem T1w {o1 o2:C2} {a b c:Ex} (k:Tie ((ev fs (.ch2 o1 o2 a b c) Γ).to fun d Γ3=>(Rz.opt (match d with | .bl b=>some b | _=>none) Γ3).to KB) m fin X):Tie ((evT fs (.ch2 o1 o2 a b c) Γ).to KB) m fin X:=by
 have e:evT fs (.ch2 o1 o2 a b c) Γ= (ev fs (.ch2 o1 o2 a b c) Γ).bind fun d Γ1=>Rz.opt (match d with | .bl b=>some b | _=>none) Γ1:=by
  show eB (ev fs (.ch2 o1 o2 a b c)) Γ=_
  unfold eB;congr;funext d Γ1;cases d <;> rfl
 rw [e,J5];exact k
theorem T1x {t u:Tx} {n n2:M Bool} {k:Bool→M β} (h:Tie (evT fs t Γ) n (fun b z=>z= .ok b Γ) X) (h2:Tie (evT fs u Γ) n2 (fun b z=>z= .ok b Γ) X) (hk:∀b,Tie (KB b Γ) (k b) fin X):Tie ((evT fs (.and t u) Γ).to KB) ((n.bind fun b=>if b=true then n2 else .ok false).bind k) fin X:=by
 refine T1b (v:=fun b=>b) (g:=fun _=>Γ) ?_ hk
 rw [Jo3,J9r]
 refine T1b (v:=fun b=>b) (g:=fun _=>Γ) h fun b=>?_
 cases b
 ·rfl
 ·exact h2
theorem T11 {t u:Tx} {n n2:M Bool} {k:Bool→M β} (h:Tie (evT fs t Γ) n (fun b z=>z= .ok b Γ) X) (h2:Tie (evT fs u Γ) n2 (fun b z=>z= .ok b Γ) X) (hk:∀b,Tie (KB b Γ) (k b) fin X):Tie ((evT fs (.or t u) Γ).to KB) ((n.bind fun b=>if b=true then .ok true else n2).bind k) fin X:=by
 refine T1b (v:=fun b=>b) (g:=fun _=>Γ) ?_ hk
 rw [Jqp,J9r]
 refine T1b (v:=fun b=>b) (g:=fun _=>Γ) h fun b=>?_
 cases b
 ·exact h2
 ·rfl
theorem T18 {a:Ex} {Mk:List Bool} {n:M γ} {v:γ→D} {g g2:γ→Gam} {k:γ→M β} (h:Tie (ev fs a Γ) n (fun b z=>z= .ok (v b) (g b)) fun x Γ'=>X x (J5j Mk Γ Γ')) (hg:∀b,J5j Mk Γ (g b)=g2 b) (hk:∀b,Tie (K (v b) (g2 b)) (k b) fin X):Tie ((ev fs (.bor Mk a) Γ).to K) (n.bind k) fin X:=by
 refine T1b (v:=v) (g:=g2) ?_ hk
 rw [Jqn];unfold J4s
 cases n with
 | ok b=>
  have e:ev fs a Γ= .ok (v b) (g b):=h
  rw [e]
  show Rz.ok (v b) (J5j Mk Γ (g b))=_
  rw [hg]
 | exc x=>
  obtain ⟨Γ',e,q⟩:=h
  have e':ev fs a Γ= .exc x Γ':=e
  rw [e'];exact ⟨_,rfl,q⟩
 | bad=>trivial
end
end EV
namespace EV
open PySem PySem.Spec L2
noncomputable def Jbo (x y:Int):M Int:=if Jk2 x y=true then .ok (x * y) else .bad
noncomputable def Jbp (x y:Int):M Int:=if Jk4 x y=true then .ok (x % y) else .bad
theorem op_add {x y:Int}:B2.op .add (E x) (E y)=some (E (x + y)):=rfl
theorem op_sub {x y:Int}:B2.op .sub (E x) (E y)=some (E (x - y)):=rfl
theorem Jf6 {C:Int→Int→Bool} {g:Int→Int→Int} {x y:Int}:OpM (i2c C (fun i j=> .int (g i j)) (E x) (E y)) (if C x y=true then .ok (g x y) else .bad) (E (α:=Int)):=by
 show OpM (if C x y=true then some (D.int (g x y)) else none) _ _
 by_cases h:C x y=true
 ·rw [if_pos h,if_pos h];rfl
 ·rw [if_neg h,if_neg h];trivial
theorem Jo8 {x y:Int}:OpM (B2.op .mul (E x) (E y)) (Jbo x y) E:=Jf6
theorem Jo9 {x y:Int}:OpM (B2.op .mod (E x) (E y)) (Jbp x y) E:=Jf6
theorem op_lt {x y:Int}:C2.op .lt (E x) (E y)=some (E (decide (x < y))):=rfl
theorem op_le {x y:Int}:C2.op .le (E x) (E y)=some (E (decide (x≤y))):=rfl
theorem op_gt {x y:Int}:C2.op .gt (E x) (E y)=some (E (decide (y < x))):=rfl
theorem Jqw {x:Int}:Jd4 (E x)=some (E (-x)):=rfl
theorem J38 {α:Type} [Enc α] {a:α} (h:J3q (E a)=true): (if J3q (E a)=true then some (E a) else none)=some (E a):=if_pos h
class Dat (α:Type) extends Enc α where
 dec:DecidableEq α
 eqv:∀a b:α,PyData.eqv (toP (Enc.d a)) (toP (Enc.d b))=decide (a=b)
 dep:Nat
 good:α→Bool
 sh:∀a:α,good a=true→shN dep (Enc.d a)=true
noncomputable instance {α:Type} [h:Dat α]:DecidableEq α:=h.dec
class Plain (α:Type) [Dat α]:Prop where
 all:∀a:α,Dat.good a=true
noncomputable def eqM {α:Type} [Dat α] (a b:α):M Bool:=if (decide (Dat.dep α≤60) && (Dat.good a && Dat.good b))=true then .ok (decide (a=b)) else .bad
theorem Jdy {α:Type} [Dat α] {a b:α} (h: (decide (Dat.dep α≤60) && (Dat.good a && Dat.good b))=true):sh2 (E a) (E b)=true:=by
 rw [Zb,Zb] at h
 unfold sh2
 rw [J1h (Dat.sh a h.2.1) (Zd h.1),J1h (Dat.sh b h.2.2) (Zd h.1)];rfl
theorem Jdz {α:Type} [Dat α] {a b:α}:OpM (C2.op .eq (E a) (E b)) (eqM a b) E:=by
 show OpM (eqO (E a) (E b)) _ _
 unfold eqO eqM
 by_cases h: (decide (Dat.dep α≤60) && (Dat.good a && Dat.good b))=true
 ·rw [if_pos h,if_pos (Jdy h),Dat.eqv];rfl
 ·rw [if_neg h];trivial
noncomputable def neM {α:Type} [Dat α] (a b:α):M Bool:=(eqM a b).bind fun b=> .ok (!b)
theorem Jqx {α:Type} [Dat α] {a b:α}:OpM (C2.op .ne (E a) (E b)) (neM a b) E:=by
 show OpM (neO (E a) (E b)) _ _
 unfold neO neM eqM
 by_cases h: (decide (Dat.dep α≤60) && (Dat.good a && Dat.good b))=true
 ·rw [if_pos h,if_pos (Jdy h),Dat.eqv];rfl
 ·rw [if_neg h];trivial
theorem Jiv {α:Type} [Dat α] [Plain α] {a b:α} (h:Dat.dep α≤60:=by decide):eqM a b= .ok (decide (a=b)):=by
 unfold eqM
 rw [Zt h,Plain.all,Plain.all];rfl
theorem op_eq {α:Type} [Dat α] [Plain α] {a b:α} (h:Dat.dep α≤60:=by decide):C2.op .eq (E a) (E b)=some (E (decide (a=b))):=by
 have q:=Jdz (a:=a) (b:=b)
 rw [Jiv h] at q;exact q
theorem op_ne {α:Type} [Dat α] [Plain α] {a b:α} (h:Dat.dep α≤60:=by decide):C2.op .ne (E a) (E b)=some (E (!decide (a=b))):=by
 have q:=Jqx (a:=a) (b:=b)
 unfold neM at q
 rw [Jiv h] at q;exact q
noncomputable instance:Dat Int where
 dec:=inferInstance
 eqv a b:=by show PyData.eqv (.int a) (.int b)=_;simp only [PyData.eqv];exact Bool.eq_iff_iff.mpr (by simp)
 dep:=0
 good _:=true
 sh _ _:=rfl
noncomputable instance:Plain Int:=⟨fun _=>rfl⟩
noncomputable instance:Dat Bool where
 dec:=inferInstance
 eqv a b:=by show PyData.eqv (.bool a) (.bool b)=_;simp only [PyData.eqv];exact Bool.eq_iff_iff.mpr (by simp)
 dep:=0
 good _:=true
 sh _ _:=rfl
noncomputable instance:Plain Bool:=⟨fun _=>rfl⟩
noncomputable instance:Dat Str where
 dec:=inferInstance
 eqv a b:=by show PyData.eqv (.str a) (.str b)=_;simp only [PyData.eqv];exact Bool.eq_iff_iff.mpr (by simp)
 dep:=0
 good x:=PyData.strOk x
 sh _ h:=h
theorem eqvAll_map {α:Type} [Dat α]:∀xs ys:List α,PyData.eqvAll (J16 (xs.map Enc.d)) (J16 (ys.map Enc.d))=decide (xs=ys)
 | [],[]=>rfl
 | x::xs,y::ys=>by
  show (PyData.eqv (toP (Enc.d x)) (toP (Enc.d y)) && PyData.eqvAll (J16 (xs.map Enc.d)) (J16 (ys.map Enc.d)))=_
  rw [Dat.eqv,eqvAll_map xs ys,← Bool.decide_and]
  congr 1;simp
 | [],_::_=>rfl
 | _::_,[]=>rfl
theorem Jf7 {α:Type} [Dat α] {xs:List α} (h:xs.all Dat.good=true): (xs.map Enc.d).all (shN (Dat.dep α))=true:=by
 rw [List.all_eq_true] at h ⊢
 intro d hd
 obtain ⟨x,hx,rfl⟩:=Zm.mp hd
 exact Dat.sh x (h x hx)
noncomputable instance {α:Type} [Dat α]:Dat (List α) where
 dec:=inferInstance
 eqv a b:=eqvAll_map a b
 dep:=Dat.dep α + 1
 good xs:=xs.all Dat.good
 sh xs h:=Jf7 h
noncomputable instance {α:Type} [Dat α] [Plain α]:Plain (List α):=⟨fun xs=>List.all_eq_true.mpr fun x _=>Plain.all x⟩
noncomputable instance {α:Type} [Dat α]:Dat (Tu α) where
 dec:=inferInstance
 eqv a b:=by
  show PyData.eqvAll (J16 (a.l.map Enc.d)) (J16 (b.l.map Enc.d))=_
  rw [eqvAll_map]
  cases a;cases b;simp
 dep:=Dat.dep α + 1
 good xs:=xs.l.all Dat.good
 sh xs h:=Jf7 h
noncomputable instance {α:Type} [Dat α] [Plain α]:Plain (Tu α):=⟨fun xs=>List.all_eq_true.mpr fun x _=>Plain.all x⟩
noncomputable instance {α β:Type} [Dat α] [Dat β]:Dat (α × β) where
 dec:=inferInstance
 eqv a b:=by
  show (PyData.eqv (toP (Enc.d a.1)) (toP (Enc.d b.1)) && (PyData.eqv (toP (Enc.d a.2)) (toP (Enc.d b.2)) && true))=_
  rw [Dat.eqv,Dat.eqv,Bool.and_true,← Bool.decide_and]
  cases a;cases b;congr 1;simp
 dep:=max (Dat.dep α) (Dat.dep β) + 1
 good p:=Dat.good p.1 && Dat.good p.2
 sh p h:=by
  rw [Zb] at h
  show (shN _ (Enc.d p.1) && (shN _ (Enc.d p.2) && true))=true
  rw [J1h (Dat.sh p.1 h.1) (Nat.le_max_left _ _),J1h (Dat.sh p.2 h.2) (Nat.le_max_right _ _)];rfl
noncomputable instance {α β:Type} [Dat α] [Dat β] [Plain α] [Plain β]:Plain (α × β):=⟨fun p=>by show (Dat.good p.1 && Dat.good p.2)=true;rw [Plain.all,Plain.all];rfl⟩
noncomputable instance {α β γ:Type} [Dat α] [Dat β] [Dat γ]:Dat (T3 α β γ) where
 dec:=inferInstance
 eqv a b:=by
  show (PyData.eqv (toP (Enc.d a.a)) (toP (Enc.d b.a)) && (PyData.eqv (toP (Enc.d a.b)) (toP (Enc.d b.b)) && (PyData.eqv (toP (Enc.d a.c)) (toP (Enc.d b.c)) && true)))=_
  rw [Dat.eqv,Dat.eqv,Dat.eqv,Bool.and_true,← Bool.decide_and,← Bool.decide_and]
  cases a;cases b;congr 1;simp
 dep:=max (Dat.dep α) (max (Dat.dep β) (Dat.dep γ)) + 1
 good p:=Dat.good p.a && (Dat.good p.b && Dat.good p.c)
 sh p h:=by
  rw [Zb,Zb] at h
  show (shN _ (Enc.d p.a) && (shN _ (Enc.d p.b) && (shN _ (Enc.d p.c) && true)))=true
  rw [J1h (Dat.sh p.a h.1) (by omega),J1h (Dat.sh p.b h.2.1) (by omega),J1h (Dat.sh p.c h.2.2) (by omega)];rfl
noncomputable instance {α β γ:Type} [Dat α] [Dat β] [Dat γ] [Plain α] [Plain β] [Plain γ]:Plain (T3 α β γ):=⟨fun p=>by show (Dat.good p.a && (Dat.good p.b && Dat.good p.c))=true;rw [Plain.all,Plain.all,Plain.all];rfl⟩
noncomputable instance {α β γ δ:Type} [Dat α] [Dat β] [Dat γ] [Dat δ]:Dat (T4 α β γ δ) where
 dec:=inferInstance
 eqv a b:=by
  show (PyData.eqv (toP (Enc.d a.a)) (toP (Enc.d b.a)) && (PyData.eqv (toP (Enc.d a.b)) (toP (Enc.d b.b)) && (PyData.eqv (toP (Enc.d a.c)) (toP (Enc.d b.c)) && (PyData.eqv (toP (Enc.d a.d)) (toP (Enc.d b.d)) && true))))=_
  rw [Dat.eqv,Dat.eqv,Dat.eqv,Dat.eqv,Bool.and_true,← Bool.decide_and,← Bool.decide_and,← Bool.decide_and]
  cases a;cases b;congr 1;simp
 dep:=max (Dat.dep α) (max (Dat.dep β) (max (Dat.dep γ) (Dat.dep δ))) + 1
 good p:=Dat.good p.a && (Dat.good p.b && (Dat.good p.c && Dat.good p.d))
 sh p h:=by
  rw [Zb,Zb,Zb] at h
  show (shN _ (Enc.d p.a) && (shN _ (Enc.d p.b) && (shN _ (Enc.d p.c) && (shN _ (Enc.d p.d) && true))))=true
  rw [J1h (Dat.sh p.a h.1) (by omega),J1h (Dat.sh p.b h.2.1) (by omega),J1h (Dat.sh p.c h.2.2.1) (by omega),J1h (Dat.sh p.d h.2.2.2) (by omega)];rfl
noncomputable instance {α β γ δ:Type} [Dat α] [Dat β] [Dat γ] [Dat δ] [Plain α] [Plain β] [Plain γ] [Plain δ]:Plain (T4 α β γ δ):=⟨fun p=>by show (Dat.good p.a && (Dat.good p.b && (Dat.good p.c && Dat.good p.d)))=true;rw [Plain.all,Plain.all,Plain.all,Plain.all];rfl⟩
theorem op_isN {α:Type} [Enc α] {o:Option α} (h:∀a:α,Jd5 (Enc.d a) .non=some (.bl false)):C2.op .isN (E o) .non=some (E o.isNone):=by
 cases o with
 | none=>rfl
 | some a=>exact h a
theorem op_notN {α:Type} [Enc α] {o:Option α} (h:∀a:α,Jb2 (Enc.d a) .non=some (.bl true)):C2.op .notN (E o) .non=some (E o.isSome):=by
 cases o with
 | none=>rfl
 | some a=>exact h a
section
variable {α β γ δ:Type} [Enc α] [Enc β] [Enc γ] [Enc δ]
theorem Jc {xs:List α}:BN.op .len [E xs]=some (E (xs.length:Int)):=by
 show some (D.int ((xs.map Enc.d).length:Int))=_
 rw [List.length_map];rfl
theorem Jmg (xs:List Int):intsOf (xs.map Enc.d)=some xs:=J7g xs
theorem J4l {xs:List Int}:BN.op .sum [E xs]=some (E xs.sum):=by
 show (intsOf (xs.map Enc.d)).map _=_
 rw [Jmg];rfl
noncomputable def J9s (xs:List Int):M Int:=if 0 < xs.length then .ok (J10 xs) else .bad
theorem Jf8 {xs:List Int}:OpM (BN.op .min [E xs]) (J9s xs) E:=by
 show OpM ((intsOf (xs.map Enc.d)).bind _) _ _
 rw [Jmg];unfold J9s
 show OpM (if 0 < xs.length then some (D.int (J10 xs)) else none) _ _
 by_cases h:0 < xs.length
 ·rw [if_pos h,if_pos h];rfl
 ·rw [if_neg h,if_neg h];trivial
noncomputable def J30 (x:Int):Int:=if x < 0 then -x else x
theorem Jqy {x:Int}:BN.op .abs [E x]=some (E (J30 x)):=rfl
noncomputable def J68 (i j:Int):Int:=if j < i then j else i
theorem Joa {x y:Int}:BN.op .min2 [E x,E y]=some (E (J68 x y)):=rfl
theorem Jf9 {xs:List α}:BN.op .list [E xs]=some (E xs):=rfl
noncomputable def atM (xs:List α) (i:Int):M α:=M.opt (atI xs i)
theorem J8 {xs:List α} {i:Int}:OpM (ixO (E xs) (E i)) (atM xs i) E:=by
 show OpM (atI (xs.map Enc.d) i) _ _
 unfold atM atI
 rw [List.length_map]
 cases ixN xs.length i with
 | none=>trivial
 | some k=>
  show OpM ((xs.map Enc.d)[k]?) (M.opt xs[k]?) E
  rw [List.getElem?_map]
  cases xs[k]? with
  | none=>trivial
  | some a=>rfl
noncomputable def J6q (xs ys:List α):M (List α):=if xs.length + ys.length≤sizeLine then .ok (xs++ys) else .bad
theorem J8x {xs ys:List α}:OpM (B2.op .cat (E xs) (E ys)) (J6q xs ys) E:=by
 show OpM (if (xs.map Enc.d).length + (ys.map Enc.d).length≤sizeLine then some (D.lst (xs.map Enc.d++ys.map Enc.d)) else none) _ _
 rw [List.length_map,List.length_map];unfold J6q
 by_cases h:xs.length + ys.length≤sizeLine
 ·rw [if_pos h,if_pos h]
  show some _=some _
  rw [← List.map_append];rfl
 ·rw [if_neg h,if_neg h];trivial
noncomputable def J59 (xs:List α) (lo hi:Option Int):List α:=(xs.drop (HT.sIx xs.length 0 lo)).take (HT.sIx xs.length xs.length hi - HT.sIx xs.length 0 lo)
theorem Jiw {xs:List α} {lo hi:Option Int}:J2v (E xs) lo hi=some (E (J59 xs lo hi)):=by
 show some (D.lst (cutD (xs.map Enc.d) lo hi))=_
 unfold cutD J59
 rw [List.length_map,← List.map_drop,← List.map_take];rfl
noncomputable def Jlf (d:D):Option (List D):=match d with
 | .lst ds=>some ds
 | _=>none
theorem J1i {xs:List α}:Jlf (E xs)=some (xs.map Enc.d):=rfl
noncomputable def J28 (lo:Int):Nat→List Int
 | 0=> []
 | n + 1=>lo::J28 (lo + 1) n
theorem Jrz (lo:Int) (n:Nat):upto lo n= (J28 lo n).map Enc.d:=by
 induction n generalizing lo with
 | zero=>rfl
 | succ n ih=>show .int lo::upto (lo + 1) n=_;rw [ih];rfl
@[irreducible] noncomputable def J2h (i j:Int):M (List Int):=if (J51 i && (J51 j && decide ((j - i).toNat≤sizeLine)))=true then .ok (J28 i (j - i).toNat) else .bad
theorem J69 {i j:Int} (h1: -1000000≤i) (h2:i≤1000000) (h3: -1000000≤j) (h4:j≤1000000):J2h i j= .ok (J28 i (j - i).toNat):=by
 have z: (2:Int) ^ 62=4611686018427387904:=by decide +kernel
 have z2:sizeLine=16777216:=by decide +kernel
 unfold J2h J51
 rw [if_pos]
 rw [z,z2,Zb,Zb,Zb,Zb]
 exact ⟨⟨Zt (by omega),Zt (by omega)⟩,⟨Zt (by omega),Zt (by omega)⟩,Zt (by omega)⟩
noncomputable def OpG {γ β:Type} (o:Option γ) (m:M β) (v:β→γ):Prop:=match m with
 | .ok b=>o=some (v b)
 | .exc _=>False
 | .bad=>True
theorem J75 {j:Int}:OpG (J4t [E j]) (J2h 0 j) (List.map Enc.d):=by
 show OpG (if (J51 j && decide (j.toNat≤sizeLine))=true then some (upto 0 j.toNat) else none) _ _
 unfold J2h
 have b:J51 0=true:=by decide +kernel
 rw [b,Bool.true_and,Int.sub_zero]
 by_cases h: (J51 j && decide (j.toNat≤sizeLine))=true
 ·rw [if_pos h,if_pos h,Jrz];rfl
 ·rw [if_neg h,if_neg h];trivial
theorem Jqz:∀ (xs:List α) (ys:List β),J2q (xs.map Enc.d) (ys.map Enc.d)= (xs.zip ys).map Enc.d
 | [],_=>rfl
 | _::_,[]=>rfl
 | x::xs,y::ys=>by show .tup [Enc.d x,Enc.d y]::J2q (xs.map Enc.d) (ys.map Enc.d)=_;rw [Jqz xs ys];rfl
theorem Jix {xs:List α} {ys:List β}:Jb6 [E xs,E ys]=some ((xs.zip ys).map Enc.d):=by
 show some (J2q (xs.map Enc.d) (ys.map Enc.d))=_
 rw [Jqz]
noncomputable def J1d (k:Nat):List α→List (Int × α)
 | []=> []
 | x::xs=>((k:Int),x)::J1d (k + 1) xs
theorem Jmh:∀ (k:Nat) (xs:List α),J2r k (xs.map Enc.d)= (J1d k xs).map Enc.d
 | _,[]=>rfl
 | k,x::xs=>by show .tup [.int (k:Nat),Enc.d x]::J2r (k + 1) (xs.map Enc.d)=_;rw [Jmh (k + 1) xs];rfl
theorem Jbq {xs:List α}:J3r [E xs]=some ((J1d 0 xs).map Enc.d):=by
 show some (J2r 0 (xs.map Enc.d))=_
 rw [Jmh]
end
section
variable {α β γ δ σ ρ T:Type} [Tgt T] {m:M β} {fin:β→T→Prop} {X:Xc→Gam→Prop} {fs:List Fn} {Γ Γ1 Γ2:Gam} {KI:List D→Gam→T}
theorem Tr {a:Ex} (k:Tie ((ev fs a Γ).to fun d Γ1=>(Rz.opt (Jlf d) Γ1).to KI) m fin X):Tie ((evI fs (.list a) Γ).to KI) m fin X:=by
 have e:evI fs (.list a) Γ= (ev fs a Γ).bind fun d Γ1=>Rz.opt (Jlf d) Γ1:=by
  rw [Jld];unfold J9e;congr;funext d Γ1;cases d <;> rfl
 rw [e,J5];exact k
theorem T1g {a:Ex} (k:Tie ((ev fs a Γ).to fun x Γ1=>(Rz.opt (J4t [x]) Γ1).to KI) m fin X):Tie ((evI fs (.r1 a) Γ).to KI) m fin X:=by
 rw [Jqq,J5];exact k
theorem T1y {a b:Ex} (k:Tie ((ev fs a Γ).to fun x Γ1=>(ev fs b Γ1).to fun y Γ2=>(Rz.opt (Jb6 [x,y]) Γ2).to KI) m fin X):Tie ((evI fs (.zip a b) Γ).to KI) m fin X:=by
 rw [Jo5,J5];simp only [J5];exact k
theorem T1o {a:Ex} (k:Tie ((ev fs a Γ).to fun x Γ1=>(Rz.opt (J3r [x]) Γ1).to KI) m fin X):Tie ((evI fs (.enum a) Γ).to KI) m fin X:=by
 rw [Jle,J5];exact k
theorem T1h {o:Option γ} {n:M δ} {v:δ→γ} {K:γ→Gam→T} {k:δ→M β} (h:OpG o n v) (hk:∀b,Tie (K (v b) Γ) (k b) fin X):Tie ((Rz.opt o Γ).to K) (n.bind k) fin X:=by
 cases n with
 | ok b=>
  have e:o=some (v b):=h
  rw [e];exact hk b
 | exc x=>exact h.elim
 | bad=>trivial
noncomputable def lcR (t:D→Gam→Option Gam) (tt:Gam→Rz Bool) (fe:Gam→Rz D) (vs:List Nat) (ds:List D) (Γ1:Gam):Rz D:=match Jw t tt fe vs ds (Jf Γ1 vs) [] with
 | some (ys,Γ2)=> .ok (.lst ys) (J3w Γ1 Γ2 vs)
 | none=> .bad
theorem Ts {own:List Nat} {it:Ix} {t:Tg} {c:Cx1} {e:Ex} {K:D→Gam→T} (k:Tie ((evI fs it Γ).to fun ds Γ1=>(lcR (evG t) (evC fs c) (ev fs e) own ds Γ1).to K) m fin X):Tie ((ev fs (.lc own it t c e) Γ).to K) m fin X:=by
 have e0:ev fs (.lc own it t c e) Γ= (evI fs it Γ).bind fun ds Γ1=>lcR (evG t) (evC fs c) (ev fs e) own ds Γ1:=rfl
 rw [e0,J5];exact k
theorem Jbr [Enc α] [Enc γ] {t:D→Gam→Option Gam} {tt:Gam→Rz Bool} {fe:Gam→Rz D} {vs:List Nat} {Γw:Gam} {f:α→M (Option γ)} {tg:α→Gam}
  (ht:∀x,t (E x) Γw=some (tg x)) (hw:∀x,Jf (tg x) vs=Γw)
  (hf:∀x,match f x with
   | .ok none=>tt (tg x)= .ok false (tg x)
   | .ok (some y)=>tt (tg x)= .ok true (tg x)∧fe (tg x)= .ok (E y) (tg x)
   | .exc _=>False
   | .bad=>True):∀ (xs:List α) (acc:List D),match M.fmapM xs f with
  | .ok ys=>Jw t tt fe vs (xs.map Enc.d) Γw acc=some (acc++ys.map Enc.d,Γw)
  | .exc _=>False
  | .bad=>True
 | [],acc=>by show some (acc,Γw)=_;rw [List.map_nil,List.append_nil]
 | x::xs,acc=>by
  have h:=hf x
  rw [M.fmapM_cons]
  cases e:f x with
  | bad=>trivial
  | exc _=>rw [e] at h;exact h.elim
  | ok o=>
   rw [e] at h
   cases o with
   | none=>
    have h':tt (tg x)= .ok false (tg x):=h
    have ih:=Jbr ht hw hf xs acc
    show match (M.fmapM xs f).bind fun ys=>M.ok ys with
     | .ok ys=>_
     | .exc _=>_
     | .bad=>_
    cases e2:M.fmapM xs f with
    | bad=>trivial
    | exc _=>rw [e2] at ih;exact ih
    | ok ys=>
     rw [e2] at ih
     show Jw t tt fe vs (E x::xs.map Enc.d) Γw acc=_
     unfold Jw
     rw [ht];dsimp only;rw [h'];dsimp only;rw [hw];exact ih
   | some y=>
    have h':tt (tg x)= .ok true (tg x)∧fe (tg x)= .ok (E y) (tg x):=h
    have ih:=Jbr ht hw hf xs (acc++ [E y])
    show match (M.fmapM xs f).bind fun ys=>M.ok (y::ys) with
     | .ok ys=>_
     | .exc _=>_
     | .bad=>_
    cases e2:M.fmapM xs f with
    | bad=>trivial
    | exc _=>rw [e2] at ih;exact ih
    | ok ys=>
     rw [e2] at ih
     show Jw t tt fe vs (E x::xs.map Enc.d) Γw acc=_
     unfold Jw
     rw [ht];dsimp only;rw [h'.1];dsimp only;rw [h'.2];dsimp only;rw [hw]
     have ih':Jw t tt fe vs (xs.map Enc.d) Γw (acc++ [E y])=some (acc++ [E y]++ys.map Enc.d,Γw):=ih
     rw [ih',List.append_assoc];rfl
theorem T27 [Enc α] [Enc γ] {t:D→Gam→Option Gam} {tt:Gam→Rz Bool} {fe:Gam→Rz D} {vs:List Nat} {xs:List α} (Γw:Gam) {f:α→M (Option γ)} {tg:α→Gam} {K:D→Gam→T} {k:List γ→M β} (h0:Jf Γ vs=Γw) (hb:J3w Γ Γw vs=Γ)
  (ht:∀x,t (E x) Γw=some (tg x)) (hw:∀x,Jf (tg x) vs=Γw)
  (hf:∀x,match f x with
   | .ok none=>tt (tg x)= .ok false (tg x)
   | .ok (some y)=>tt (tg x)= .ok true (tg x)∧fe (tg x)= .ok (E y) (tg x)
   | .exc _=>False
   | .bad=>True) (hk:∀ys,Tie (K (E ys) Γ) (k ys) fin X):Tie ((lcR t tt fe vs (xs.map Enc.d) Γ).to K) ((M.fmapM xs f).bind k) fin X:=by
 have h:=Jbr (vs:=vs) ht hw hf xs []
 cases e:M.fmapM xs f with
 | bad=>trivial
 | exc _=>rw [e] at h;exact h.elim
 | ok ys=>
  rw [e] at h
  have h':Jw t tt fe vs (xs.map Enc.d) Γw []=some ([]++ys.map Enc.d,Γw):=h
  have e2:lcR t tt fe vs (xs.map Enc.d) Γ= .ok (E ys) Γ:=by
   unfold lcR
   rw [h0,h'];dsimp only;rw [hb];rfl
  rw [e2];exact hk ys
theorem Jao (f:α→M γ):∀xs:List α,M.fmapM xs (fun x=>(f x).bind fun y=> .ok (some y))=M.mapM xs f
 | []=>rfl
 | x::xs=>by
  rw [M.fmapM_cons,M.mapM_cons,Jao f xs]
  cases f x <;> rfl
theorem T15 [Enc α] [Enc γ] {t:D→Gam→Option Gam} {tt:Gam→Rz Bool} {fe:Gam→Rz D} {vs:List Nat} {xs:List α} (Γw:Gam) {f:α→M γ} {tg:α→Gam} {K:D→Gam→T} {k:List γ→M β} (h0:Jf Γ vs=Γw) (hb:J3w Γ Γw vs=Γ)
  (ht:∀x,t (E x) Γw=some (tg x)) (hw:∀x,Jf (tg x) vs=Γw) (hc:∀x,tt (tg x)= .ok true (tg x))
  (hf:∀x,Tie ((fe (tg x)).to Rz.ok) (f x) (fun y z=>z= .ok (E y) (tg x)) fun _ _=>False) (hk:∀ys,Tie (K (E ys) Γ) (k ys) fin X):Tie ((lcR t tt fe vs (xs.map Enc.d) Γ).to K) ((M.mapM xs f).bind k) fin X:=by
 rw [← Jao f xs]
 refine T27 Γw h0 hb ht hw (fun x=>?_) hk
 have h:=hf x
 rw [J7r] at h
 cases e:f x with
 | bad=>trivial
 | exc _=>rw [e] at h;obtain ⟨_,_,q⟩:=h;exact q
 | ok y=>
  rw [e] at h
  exact ⟨hc x,h⟩
theorem Jcd (f:α→γ):∀xs:List α,M.mapM xs (fun x=> .ok (f x))= .ok (xs.map f)
 | []=>rfl
 | x::xs=>by rw [M.mapM_cons,Jcd f xs];rfl
theorem T12 [Enc α] [Enc γ] {t:D→Gam→Option Gam} {tt:Gam→Rz Bool} {fe:Gam→Rz D} {vs:List Nat} {xs:List α} (Γw:Gam) {f:α→γ} {tg:α→Gam} {K:D→Gam→T} (h0:Jf Γ vs=Γw) (hb:J3w Γ Γw vs=Γ)
  (ht:∀x,t (E x) Γw=some (tg x)) (hw:∀x,Jf (tg x) vs=Γw) (hc:∀x,tt (tg x)= .ok true (tg x))
  (hf:∀x,Tie ((fe (tg x)).to Rz.ok) (.ok (f x)) (fun y z=>z= .ok (E y) (tg x)) fun _ _=>False) (hk:Tie (K (E (xs.map f)) Γ) m fin X):Tie ((lcR t tt fe vs (xs.map Enc.d) Γ).to K) m fin X:=by
 have h:=T15 (k:=M.ok) (T:=Rz D) (K:=Rz.ok) (fin:=fun ys z=>z= .ok (E ys) Γ) (X:=fun _ _=>False) (xs:=xs) Γw h0 hb ht hw hc hf (fun ys=>rfl)
 rw [Jcd,J7r] at h
 have h':lcR t tt fe vs (xs.map Enc.d) Γ= .ok (E (xs.map f)) Γ:=h
 rw [h'];exact hk
end
inductive Ctl (σ ρ:Type) where
 | nx (s:σ) | bk (s:σ) | rt (r:ρ)
namespace M
variable {α β σ ρ:Type}
noncomputable def foldC (xs:List α) (s:σ) (f:σ→α→M (Ctl σ ρ)):M (Ctl σ ρ):=match xs with
 | []=> .ok (.nx s)
 | x::xs=>(f s x).bind fun c=>match c with
  | .nx s=>foldC xs s f
  | .bk s=> .ok (.bk s)
  | .rt r=> .ok (.rt r)
@[simp] theorem Jsa (s:σ) (f:σ→α→M (Ctl σ ρ)):M.foldC [] s f= .ok (.nx s):=rfl
theorem foldC_cons (x:α) (xs:List α) (s:σ) (f:σ→α→M (Ctl σ ρ)):M.foldC (x::xs) s f= (f s x).bind fun c=>match c with
  | .nx s=>M.foldC xs s f
  | .bk s=> .ok (.bk s)
  | .rt r=> .ok (.rt r):=rfl
noncomputable def whl (n:Nat) (s:σ) (c:σ→M Bool) (f:σ→M σ):M σ:=match n with
 | 0=> .bad
 | n + 1=>(c s).bind fun b=>if b=true then (f s).bind fun s=>whl n s c f else .ok s
theorem whl_succ (n:Nat) (s:σ) (c:σ→M Bool) (f:σ→M σ):M.whl (n + 1) s c f= (c s).bind fun b=>if b=true then (f s).bind fun s=>M.whl n s c f else .ok s:=rfl
end M
section
variable {α β γ δ σ ρ:Type} {m:M β} {fin:β→Sz→Prop} {X:Xc→Gam→Prop} {fs:List Fn} {Γ Γ1 Γ2:Gam} {r:Gam→Sz}
theorem Jce (s:Sm) (q:Sms):exs fs (.cons s q) Γ= (ex fs s Γ).seq fun Γ1=>exs fs q Γ1:=by
 cases q with
 | nil=>
  show ex fs s Γ=_
  cases ex fs s Γ <;> rfl
 | cons s2 q2=>show J1p (ex fs s) (exs fs (.cons s2 q2)) Γ=_;unfold J1p;cases ex fs s Γ <;> rfl
 | wipe vs q2=>show J1p (ex fs s) (exs fs (.wipe vs q2)) Γ=_;unfold J1p;cases ex fs s Γ <;> rfl
 | deadS=>show J1p (ex fs s) (exs fs .deadS) Γ=_;unfold J1p;cases ex fs s Γ <;> rfl
 | iteD a1 a2 a3 a4 a5=>show J1p (ex fs s) (exs fs (.iteD a1 a2 a3 a4 a5)) Γ=_;unfold J1p;cases ex fs s Γ <;> rfl
theorem T28 (h:Tie ((exs fs s Γ).seq Sz.nx) m fin X):Tie (exs fs s Γ) m fin X:=by
 have e: (exs fs s Γ).seq Sz.nx=exs fs s Γ:=by cases exs fs s Γ <;> rfl
 rw [e] at h;exact h
theorem T9 (k:Tie (r Γ) m fin X):Tie ((exs fs .nil Γ).seq r) m fin X:=k
theorem T10 {vs:List Nat} {q:Sms} (h:Jf Γ vs=Γ1) (k:Tie ((exs fs q Γ1).seq r) m fin X):Tie ((exs fs (.wipe vs q) Γ).seq r) m fin X:=by
 show Tie ((exs fs q (Jf Γ vs)).seq r) m fin X
 rw [h];exact k
theorem Ty {s:Sm} {q:Sms} (k:Tie ((ex fs s Γ).seq fun Γ1=>(exs fs q Γ1).seq r) m fin X):Tie ((exs fs (.cons s q) Γ).seq r) m fin X:=by
 rw [Jce,Jo7];exact k
theorem T1z {t:Tg} {e:Ex} {q:Sms} (k:Tie ((ev fs e Γ).to fun d Γ1=>(Rz.opt (evG t d Γ1) Γ1).to fun Γ2 _=>(exs fs q Γ2).seq r) m fin X):Tie ((exs fs (.cons (.asg t e) q) Γ).seq r) m fin X:=by
 refine Ty ?_
 have e0:ex fs (.asg t e) Γ= (ev fs e Γ).s fun d Γ1=>(Rz.opt (evG t d Γ1) Γ1).s fun Γ2 _=> .nx Γ2:=by
  rw [Jqs];congr;funext d Γ1;cases evG t d Γ1 <;> rfl
 rw [e0,J47,J27]
 have e1:∀d Γ1,((Rz.opt (evG t d Γ1) Γ1).s fun Γ2 _=>Sz.nx Γ2).seq (fun Γ1=>(exs fs q Γ1).seq r)= (Rz.opt (evG t d Γ1) Γ1).to fun Γ2 _=>(exs fs q Γ2).seq r:=fun d Γ1=>by rw [J47,J27];rfl
 simp only [e1];exact k
theorem Tf {i:Nat} {e:Ex} {q:Sms} (k:Tie ((ev fs e Γ).to fun d Γ1=>(exs fs q (Γ1.set i (some d))).seq r) m fin X):Tie ((exs fs (.cons (.asg (.nm i) e) q) Γ).seq r) m fin X:=T1z k
theorem T20 {e:Ex} {q:Sms} (k:Tie ((ev fs e Γ).to fun _ Γ1=>(exs fs q Γ1).seq r) m fin X):Tie ((exs fs (.cons (.expr e) q) Γ).seq r) m fin X:=by
 refine Ty ?_
 rw [Jo6,J47,J27];exact k
theorem To {e:Ex} {q:Sms} (k:Tie ((ev fs e Γ).to fun d Γ1=>Sz.rt d Γ1) m fin X):Tie ((exs fs (.cons (.ret e) q) Γ).seq r) m fin X:=by
 refine Ty ?_
 rw [Jit,J47,J27];exact k
theorem T29 {q:Sms} (k:Tie (Sz.bk Γ) m fin X):Tie ((exs fs (.cons .brk q) Γ).seq r) m fin X:=Ty k
theorem T1p {c w:Str} {q:Sms} (h:X ⟨c,["word"],[.str w]⟩ Γ):Tie ((exs fs (.cons (.raise c w) q) Γ).seq r) (.exc ⟨c,["word"],[.str w]⟩:M β) fin X:=Ty (r:=r) ⟨Γ,rfl,h⟩
theorem Tk {t:Tx} {a b q:Sms} (k:Tie ((evT fs t Γ).to fun c Γ1=>(if c=true then exs fs a Γ1 else exs fs b Γ1).seq fun Γ2=>(exs fs q Γ2).seq r) m fin X):Tie ((exs fs (.cons (.ite t a b) q) Γ).seq r) m fin X:=by
 refine Ty ?_
 rw [Jqr,J47,J27];exact k
theorem Tt {z1 z2:Sz} {b:Bool} {m1 m2:M β} {R:Gam→Sz} (h1:Tie (z1.seq R) m1 fin X) (h2:Tie (z2.seq R) m2 fin X):Tie ((if b=true then z1 else z2).seq R) (if b=true then m1 else m2) fin X:=by
 cases b
 ·exact h2
 ·exact h1
theorem Tv {z1 z2:Sz} {b:Bool} {n1 n2:M σ} {R:Gam→Sz} {k:σ→M β} (g:σ→Gam) (h1:Tie (z1.seq Sz.nx) n1 (fun s z=>z= .nx (g s)) X) (h2:Tie (z2.seq Sz.nx) n2 (fun s z=>z= .nx (g s)) X) (hk:∀s,Tie (R (g s)) (k s) fin X):Tie ((if b=true then z1 else z2).seq R) ((if b=true then n1 else n2).bind k) fin X:=by
 refine T1k (g:=g) ?_ hk
 have e:∀z:Sz,z.seq Sz.nx=z:=fun z=>by cases z <;> rfl
 rw [e] at h1 h2
 cases b
 ·exact h2
 ·exact h1
theorem T19 {it:Ix} {t:Tg} {b q:Sms} (k:Tie ((evI fs it Γ).to fun ds Γ1=>(J14 (evG t) (exs fs b) ds Γ1).seq fun Γ2=>(exs fs q Γ2).seq r) m fin X):Tie ((exs fs (.cons (.for_ it t b) q) Γ).seq r) m fin X:=by
 refine Ty ?_
 rw [Jqt,J47,J27];exact k
theorem Je0 [Enc α] {t:D→Gam→Option Gam} {b:Gam→Sz} {g:σ→Gam} {step:σ→α→M σ} {tg:σ→α→Gam} (ht:∀s x,t (E x) (g s)=some (tg s x))
  (hb:∀s x,Tie (b (tg s x)) (step s x) (fun s' z=>z= .nx (g s')∨z= .ct (g s')) X):∀ (xs:List α) (s:σ),Tie (J14 t b (xs.map Enc.d) (g s)) (M.fold xs s step) (fun s' z=>z= .nx (g s')) X
 | [],s=>rfl
 | x::xs,s=>by
  have h:=hb s x
  have e0:J14 t b ((x::xs).map Enc.d) (g s)=match b (tg s x) with
   | .nx Γ2=>J14 t b (xs.map Enc.d) Γ2
   | .ct Γ2=>J14 t b (xs.map Enc.d) Γ2
   | .bk Γ2=> .nx Γ2
   | .rt d Γ2=> .rt d Γ2
   | .exc x Γ2=> .exc x Γ2
   | .bad=> .bad:=by
   show J14 t b (E x::xs.map Enc.d) (g s)=_
   first
    | (rw [J14,ht];done)
    | (rw [J14,ht];rfl)
    | (rw [J14,ht];dsimp only;done)
    | (rw [J14,ht];dsimp only;cases b (tg s x) <;> rfl)
  rw [e0,M.fold_cons]
  cases e:step s x with
  | ok s'=>
   rw [e] at h
   have h':b (tg s x)= .nx (g s')∨b (tg s x)= .ct (g s'):=h
   rcases h' with h' | h' <;> rw [h'] <;> exact Je0 ht hb xs s'
  | exc y=>
   rw [e] at h
   obtain ⟨Γ',e2,q⟩:=h
   have e3:b (tg s x)= .exc y Γ':=e2
   rw [e3];exact ⟨Γ',rfl,q⟩
  | bad=>trivial
theorem T1q [Enc α] {t:D→Gam→Option Gam} {b:Gam→Sz} {xs:List α} {s0:σ} (g:σ→Gam) {step:σ→α→M σ} {tg:σ→α→Gam} {R:Gam→Sz} {k:σ→M β} (h0:Γ=g s0) (ht:∀s x,t (E x) (g s)=some (tg s x))
  (hb:∀s x,Tie ((b (tg s x)).seq Sz.nx) (step s x) (fun s' z=>z= .nx (g s')∨z= .ct (g s')) X) (hk:∀s,Tie (R (g s)) (k s) fin X):Tie ((J14 t b (xs.map Enc.d) Γ).seq R) ((M.fold xs s0 step).bind k) fin X:=by
 rw [h0]
 refine T1k (g:=g) (Je0 ht (fun s x=>?_) xs s0) hk
 have e:∀z:Sz,z.seq Sz.nx=z:=fun z=>by cases z <;> rfl
 have h:=hb s x
 rw [e] at h;exact h
noncomputable def Jr0 (g:σ→Gam) (P:ρ→D→Gam→Prop):Ctl σ ρ→Sz→Prop
 | .nx s,z=>z= .nx (g s)∨z= .ct (g s)
 | .bk s,z=>z= .bk (g s)
 | .rt r,z=>∃d Γ,z= .rt d Γ∧P r d Γ
noncomputable def Jr1 (g:σ→Gam) (P:ρ→D→Gam→Prop):Ctl σ ρ→Sz→Prop
 | .nx s,z=>z= .nx (g s)
 | .bk s,z=>z= .nx (g s)
 | .rt r,z=>∃d Γ,z= .rt d Γ∧P r d Γ
theorem Jcf [Enc α] {t:D→Gam→Option Gam} {b:Gam→Sz} {g:σ→Gam} {P:ρ→D→Gam→Prop} {step:σ→α→M (Ctl σ ρ)} {tg:σ→α→Gam} (ht:∀s x,t (E x) (g s)=some (tg s x))
  (hb:∀s x,Tie (b (tg s x)) (step s x) (Jr0 g P) X):∀ (xs:List α) (s:σ),Tie (J14 t b (xs.map Enc.d) (g s)) (M.foldC xs s step) (Jr1 g P) X
 | [],s=>rfl
 | x::xs,s=>by
  have h:=hb s x
  have e0:J14 t b ((x::xs).map Enc.d) (g s)=match b (tg s x) with
   | .nx Γ2=>J14 t b (xs.map Enc.d) Γ2
   | .ct Γ2=>J14 t b (xs.map Enc.d) Γ2
   | .bk Γ2=> .nx Γ2
   | .rt d Γ2=> .rt d Γ2
   | .exc x Γ2=> .exc x Γ2
   | .bad=> .bad:=by
   show J14 t b (E x::xs.map Enc.d) (g s)=_
   first
    | (rw [J14,ht];done)
    | (rw [J14,ht];rfl)
    | (rw [J14,ht];dsimp only;done)
    | (rw [J14,ht];dsimp only;cases b (tg s x) <;> rfl)
  rw [e0,M.foldC_cons]
  cases e:step s x with
  | ok c=>
   rw [e] at h
   cases c with
   | nx s'=>
    have h':b (tg s x)= .nx (g s')∨b (tg s x)= .ct (g s'):=h
    rcases h' with h' | h' <;> rw [h'] <;> exact Jcf ht hb xs s'
   | bk s'=>
    have h':b (tg s x)= .bk (g s'):=h
    rw [h'];exact (rfl:Sz.nx (g s')= .nx (g s'))
   | rt q=>
    have h':∃d Γ,b (tg s x)= .rt d Γ∧P q d Γ:=h
    obtain ⟨d,Γ',e2,p⟩:=h'
    rw [e2];exact ⟨d,Γ',rfl,p⟩
  | exc y=>
   rw [e] at h
   obtain ⟨Γ',e2,q⟩:=h
   have e3:b (tg s x)= .exc y Γ':=e2
   rw [e3];exact ⟨Γ',rfl,q⟩
  | bad=>trivial
noncomputable def Ctl.go (c:Ctl σ ρ) (k:σ→M β) (kr:ρ→M β):M β:=match c with
 | .nx s=>k s
 | .bk s=>k s
 | .rt r=>kr r
@[simp] theorem Ctl.go_nx (s:σ) (k:σ→M β) (kr:ρ→M β): (Ctl.nx s:Ctl σ ρ).go k kr=k s:=rfl
@[simp] theorem Ctl.go_bk (s:σ) (k:σ→M β) (kr:ρ→M β): (Ctl.bk s:Ctl σ ρ).go k kr=k s:=rfl
@[simp] theorem Ctl.go_rt (r:ρ) (k:σ→M β) (kr:ρ→M β): (Ctl.rt r:Ctl σ ρ).go k kr=kr r:=rfl
theorem T2a {z:Sz} {n:M (Ctl σ ρ)} {g:σ→Gam} {P:ρ→D→Gam→Prop} {R:Gam→Sz} {k:σ→M β} {kr:ρ→M β} (h:Tie z n (Jr1 g P) X) (hk:∀s,Tie (R (g s)) (k s) fin X) (hr:∀q d Γ,P q d Γ→Tie (Sz.rt d Γ) (kr q) fin X):Tie (z.seq R) (n.bind fun c=>c.go k kr) fin X:=by
 cases n with
 | ok c=>
  cases c with
  | nx s=>have e:z= .nx (g s):=h;rw [e];exact hk s
  | bk s=>have e:z= .nx (g s):=h;rw [e];exact hk s
  | rt q=>
   have e:∃d Γ,z= .rt d Γ∧P q d Γ:=h
   obtain ⟨d,Γ',e,p⟩:=e
   rw [e];exact hr q d Γ' p
 | exc y=>
  obtain ⟨Γ',e,q⟩:=h
  have e':z= .exc y Γ':=e
  rw [e'];exact ⟨Γ',rfl,q⟩
 | bad=>trivial
theorem T1j [Enc α] {t:D→Gam→Option Gam} {b:Gam→Sz} {xs:List α} {s0:σ} (g:σ→Gam) (P:ρ→D→Gam→Prop) {step:σ→α→M (Ctl σ ρ)} {tg:σ→α→Gam} {R:Gam→Sz} {k:σ→M β} {kr:ρ→M β} (h0:Γ=g s0) (ht:∀s x,t (E x) (g s)=some (tg s x))
  (hb:∀s x,Tie ((b (tg s x)).seq Sz.nx) (step s x) (Jr0 g P) X) (hr:∀q d Γ,P q d Γ→Tie (Sz.rt d Γ) (kr q) fin X) (hk:∀s,Tie (R (g s)) (k s) fin X):Tie ((J14 t b (xs.map Enc.d) Γ).seq R) ((M.foldC xs s0 step).bind fun c=>c.go k kr) fin X:=by
 rw [h0]
 refine T2a (Jcf ht (fun s x=>?_) xs s0) hk hr
 have e:∀z:Sz,z.seq Sz.nx=z:=fun z=>by cases z <;> rfl
 have h:=hb s x
 rw [e] at h;exact h
theorem Jcg {c:Gam→Rz Bool} {b:Gam→Sz} {g:σ→Gam} {cm:σ→M Bool} {step:σ→M σ} (hc:∀s,Tie (c (g s)) (cm s) (fun b z=>z= .ok b (g s)) X) (hb:∀s,Tie (b (g s)) (step s) (fun s' z=>z= .nx (g s')∨z= .ct (g s')) X):∀ (n:Nat) (s:σ),Tie (J24 c b n (g s)) (M.whl n s cm step) (fun s' z=>z= .nx (g s')) X
 | 0,s=>trivial
 | n + 1,s=>by
  have h:=hc s
  rw [M.whl_succ]
  have e0:J24 c b (n + 1) (g s)= (c (g s)).s fun k Γ1=>if k=true then (match b Γ1 with
   | .nx Γ2=>J24 c b n Γ2
   | .ct Γ2=>J24 c b n Γ2
   | .bk Γ2=> .nx Γ2
   | .rt d Γ2=> .rt d Γ2
   | .exc x Γ2=> .exc x Γ2
   | .bad=> .bad) else .nx Γ1:=rfl
  rw [e0]
  cases e:cm s with
  | bad=>trivial
  | exc y=>
   rw [e] at h
   obtain ⟨Γ',e2,q⟩:=h
   have e3:c (g s)= .exc y Γ':=e2
   rw [e3];exact ⟨Γ',rfl,q⟩
  | ok k=>
   rw [e] at h
   have h':c (g s)= .ok k (g s):=h
   rw [h',Jqg,M.ok_bind]
   cases k with
   | false=>exact (rfl:Sz.nx (g s)= .nx (g s))
   | true=>
    rw [if_pos rfl,if_pos rfl]
    have hb':=hb s
    cases e2:step s with
    | bad=>trivial
    | exc y=>
     rw [e2] at hb'
     obtain ⟨Γ',e3,q⟩:=hb'
     have e4:b (g s)= .exc y Γ':=e3
     rw [e4];exact ⟨Γ',rfl,q⟩
    | ok s'=>
     rw [e2] at hb'
     have hb'':b (g s)= .nx (g s')∨b (g s)= .ct (g s'):=hb'
     rw [M.ok_bind]
     rcases hb'' with h3 | h3 <;> rw [h3] <;> exact Jcg hc hb n s'
theorem T21 {n:Gam→Nat} {N:Nat} {t:Tx} {b q:Sms} {s0:σ} (g:σ→Gam) {cm:σ→M Bool} {step:σ→M σ} {k:σ→M β} (hn:n Γ=N) (h0:Γ=g s0) (hc:∀s,Tie ((evT fs t (g s)).to Rz.ok) (cm s) (fun b z=>z= .ok b (g s)) X)
  (hb:∀s,Tie ((exs fs b (g s)).seq Sz.nx) (step s) (fun s' z=>z= .nx (g s')∨z= .ct (g s')) X) (hk:∀s,Tie ((exs fs q (g s)).seq r) (k s) fin X):Tie ((exs fs (.cons (.whl n t b) q) Γ).seq r) ((M.whl N s0 cm step).bind k) fin X:=by
 refine Ty ?_
 show Tie ((J24 (evT fs t) (exs fs b) (n Γ) Γ).seq _) _ _ _
 rw [hn,h0]
 refine T1k (g:=g) (Jcg (fun s=>?_) (fun s=>?_) N s0) hk
 ·have h:=hc s;rw [J7r] at h;exact h
 ·have e:∀z:Sz,z.seq Sz.nx=z:=fun z=>by cases z <;> rfl
  have h:=hb s;rw [e] at h;exact h
noncomputable def putO {α:Type} (xs:List α) (i:Int) (y:α):Option (List α):=(ixN xs.length i).map fun k=>xs.set k y
noncomputable def J39 {α:Type} (xs:List α) (y:α):Option (List α):=if xs.length < sizeLine then some (xs++ [y]) else none
noncomputable def J4w (op:Int→Int→Int) (j y:Int) (xs:List Int):Option (List Int):=if 0≤j then (xs[j.toNat]?).map fun k=>xs.set j.toNat (op k y) else none
noncomputable def up2 {α:Type} (t:List α) (a:Int) (h:α→Option α):Option (List α):=(ixN t.length a).bind fun p=>(t[p]?).bind fun row=>(h row).map fun row'=>t.set p row'
theorem Jap [Enc α] {i:Nat} {xs:List α} {g:Gam→Option (List Sel)} {h:List D→Option (List D)} {h':List α→Option (List α)} (hg:g Γ=some []) (e:J4 Γ i=some (E xs)) (hh:∀xs:List α,h (xs.map Enc.d)= (h' xs).map (List.map Enc.d)):upL i g h Γ= (h' xs).map fun ys=>Γ.set i (some (E ys)):=by
 unfold upL
 rw [hg,Option.bind_some,e,Option.bind_some]
 show (h (xs.map Enc.d)).bind _=_
 rw [hh]
 cases h' xs <;> rfl
theorem J7s [Enc α] {i:Nat} {a:Int} {t:List (List α)} {g:Gam→Option (List Sel)} {h:List D→Option (List D)} {h':List α→Option (List α)} (hg:g Γ=some [.ix a]) (e:J4 Γ i=some (E t)) (hh:∀xs:List α,h (xs.map Enc.d)= (h' xs).map (List.map Enc.d)):upL i g h Γ= (up2 t a h').map fun ys=>Γ.set i (some (E ys)):=by
 unfold upL up2
 rw [hg,Option.bind_some,e,Option.bind_some]
 show ((atI (t.map Enc.d) a).bind fun c=>some c).bind _=_
 unfold atI
 rw [List.length_map]
 cases e1:ixN t.length a with
 | none=>rfl
 | some p=>
  rw [Option.bind_some,List.getElem?_map]
  cases e2:t[p]? with
  | none=>show (none:Option D).bind _=_;rw [Option.bind_some,e2];rfl
  | some row=>
   show (some (E row)).bind _=_
   rw [Option.bind_some,Option.bind_some,e2,Option.bind_some]
   show (h (row.map Enc.d)).bind _=_
   rw [hh]
   cases e3:h' row with
   | none=>rfl
   | some row'=>
    show ((ixN (t.map Enc.d).length a).bind fun j=>((t.map Enc.d)[j]?).bind fun c=>(some (D.lst (row'.map Enc.d))).map fun c'=>D.lst ((t.map Enc.d).set j c')).map _=_
    rw [List.length_map,e1,Option.bind_some,List.getElem?_map,e2]
    show some (Γ.set i (some (.lst ((t.map Enc.d).set p (Enc.d row')))))=some (Γ.set i (some (.lst ((t.set p row').map Enc.d))))
    rw [List.map_set]
theorem J4e [Enc α] {y:α} {p:Gam→Option Int} {z:Int} (hz:p Γ=some z) (xs:List α):J55 (E y) p Γ (xs.map Enc.d)= (putO xs z y).map (List.map Enc.d):=by
 unfold J55 putO
 rw [hz,Option.bind_some,List.length_map]
 cases ixN xs.length z with
 | none=>rfl
 | some k=>show some _=some _;rw [List.map_set]
theorem Jgw [Enc α] {y:α} (xs:List α): (if (xs.map Enc.d).length < sizeLine then some (xs.map Enc.d++ [E y]) else none)= (J39 xs y).map (List.map Enc.d):=by
 unfold J39
 rw [List.length_map]
 by_cases h:xs.length < sizeLine
 ·rw [if_pos h,if_pos h];show some _=some _;rw [List.map_append];rfl
 ·rw [if_neg h,if_neg h];rfl
theorem Job {op:Int→Int→Int} {y j:Int} (xs:List Int):J3x op (E y) j (xs.map Enc.d)= (J4w op j y xs).map (List.map Enc.d):=by
 unfold J3x J4w
 by_cases h:0≤j
 ·rw [if_pos h,if_pos h,List.getElem?_map]
  cases xs[j.toNat]? with
  | none=>rfl
  | some k=>show some _=some _;rw [List.map_set];rfl
 ·rw [if_neg h,if_neg h];rfl
noncomputable def upZ (o:Option Gam):Sz:=match o with
 | some Γ=> .nx Γ
 | none=> .bad
theorem T13 {o:Option Gam} {R:Gam→Sz} {p:Option γ} {G:γ→Gam} {k:γ→M β} (h:o=p.map G) (hk:∀y,Tie (R (G y)) (k y) fin X):Tie ((upZ o).seq R) ((M.opt p).bind k) fin X:=by
 rw [h]
 cases p with
 | none=>trivial
 | some y=>exact hk y
theorem T1a {pl:Pl} {j:Px} {e:Ex} {q:Sms} (k:Tie ((ev fs e Γ).to fun y Γ1=>(upZ (upL pl.root (J46 pl) (J55 y (Jl j) Γ1) Γ1)).seq fun Γ1=>(exs fs q Γ1).seq r) m fin X):Tie ((exs fs (.cons (.store pl j e) q) Γ).seq r) m fin X:=by
 refine Ty ?_
 have e0:ex fs (.store pl j e) Γ= (ev fs e Γ).s fun y Γ1=>upZ (upL pl.root (J46 pl) (J55 y (Jl j) Γ1) Γ1):=rfl
 rw [e0,J47,J27];exact k
theorem T1r [Enc α] {i:Nat} {e:Ex} {q:Sms} {xs:List α} (h:J4 Γ i=some (E xs)) (k:Tie ((ev fs e Γ).to fun y Γ1=>(upZ (upL i plN (fun ds=>if ds.length < sizeLine then some (ds++ [y]) else none) Γ1)).seq fun Γ1=>(exs fs q Γ1).seq r) m fin X):Tie ((exs fs (.cons (.expr (.app i e)) q) Γ).seq r) m fin X:=by
 refine Ty ?_
 have e0:ex fs (.expr (.app i e)) Γ= (ev fs e Γ).s fun y Γ1=>upZ (upL i plN (fun ds=>if ds.length < sizeLine then some (ds++ [y]) else none) Γ1):=by
  show (Jb4 i (ev fs e) Γ).s (fun _ Γ1=> .nx Γ1)=_
  unfold Jb4
  rw [h]
  show ((ev fs e Γ).bind _).s _=_
  rw [J47,J5,J47]
  congr;funext y Γ1
  cases upL i plN (fun ds=>if ds.length < sizeLine then some (ds++ [y]) else none) Γ1 <;> rfl
 rw [e0,J47,J27];exact k
end
section
variable {α β:Type} {fs:List Fn}
noncomputable def Jr2 (v:β→D) (N:List Bool) (io:β→List (Option D)) (b:β) (z:Sz):Prop:=(∃Γ,z= .rt (v b) Γ∧J45 N Γ=io b)∨(∃Γ,z= .nx Γ∧v b= .non∧J45 N Γ=io b)
theorem Jd.of {n:Nat} {N:List Bool} {ir:Sms} {ds:List D} {Γ:Gam} {m:M β} {v:β→D} {io:β→List (Option D)} (h0:ds.map some++List.replicate (n - ds.length) none=Γ) (h:Tie ((exs fs ir Γ).seq Sz.nx) m (Jr2 v N io) fun _ _=>True):Jd (J21 n N (exs fs ir) ds) m v io:=by
 have h:=T28 h
 unfold J21
 rw [h0]
 cases m with
 | bad=>trivial
 | exc x=>
  obtain ⟨Γ',e,_⟩:=h
  have e':exs fs ir Γ= .exc x Γ':=e
  rw [e'];exact ⟨_,rfl⟩
 | ok b=>
  have h':Jr2 v N io b (exs fs ir Γ):=h
  rcases h' with ⟨Γ',e,q⟩ | ⟨Γ',e,e2,q⟩
  ·rw [e];show Fo.ok _ _=_;rw [q]
  ·rw [e];show Fo.ok _ _=_;rw [q,e2]
theorem Jd.ok {o:Fo} {m:M β} {v:β→D} {io:β→List (Option D)} {b:β} (h:Jd o m v io) (e:m= .ok b):o= .ok (v b) (io b):=by rw [e] at h;exact h
noncomputable def J5e (b:Bag) (lot:Int):M (Int × Bag):=if 0 < b.cs.length∧b.cs.length≤64∧0≤b.q∧b.q < 2147483629∧0 < lot∧lot < 2 ^ 64 then .ok (J1t b lot) else .bad
theorem Jlg {b:Bag} {lot:Int}:Jd (J8w [E b,E lot]) (J5e b lot) (fun p=>E p.1) (fun p=> [some (E p.2),none]):=by
 unfold J5e
 by_cases h:0 < b.cs.length∧b.cs.length≤64∧0≤b.q∧b.q < 2147483629∧0 < lot∧lot < 2 ^ 64
 ·rw [if_pos h]
  exact Jlc ⟨h.1,h.2.1,h.2.2.1,h.2.2.2.1⟩ h.2.2.2.2.1 h.2.2.2.2.2
 ·rw [if_neg h];trivial
theorem Jlh {b:Bag} {lot:Int} (hb:b.good) (h1:0 < lot) (h2:lot < 2 ^ 64): (J5e b lot).Ens fun p=>(0≤p.1∧p.1 < lot)∧p.2.good:=by
 unfold J5e
 rw [if_pos ⟨hb.1,hb.2.1,hb.2.2.1,hb.2.2.2,h1,h2⟩]
 exact .ok ⟨Jlb h1,Jgu hb⟩
noncomputable def Jgx {α:Type} [Dat α] (a b:α):M Bool:=if (decide (Dat.dep α≤5) && (Dat.good a && decide (a=b)))=true then .ok true else .bad
end
end EV
namespace EV
open PySem PySem.Spec L2
noncomputable def J6r (i:Int):Int:=if i < 0 then -i else i
noncomputable def Jcv (ns:List Int):Bag:=⟨(ns.take 63).map J6r++ [1],0,0⟩
theorem Jgy (ns:List Int): (Jcv ns).good:=by
 refine ⟨?_,?_,Int.le_refl 0,by show (0:Int) < 2147483629;decide⟩
 ·show 0 < ((ns.take 63).map J6r++ [1]).length
  simp
 ·show ((ns.take 63).map J6r++ [1]).length≤64
  simp;omega
theorem Jli (ds:List D) (k:Nat):cutD ds none (some (k:Int))=ds.take k:=by
 unfold cutD
 rw [HT.sIx_nat,HT.sIx_none]
 simp only [List.drop_zero,Nat.sub_zero]
 rw [List.take_eq_take_iff];omega
noncomputable def J4m:Sms:= .cons (.ret (.lst (.O .Z) (.e (.bin .cat (.lc [1] (.list (.frz (.sl true (.var 0) none (some (.int 63))))) (.nm 1) .no (.blt .abs (.e (.var 1) .nil))) (.lst .Z (.e (.int 1) .nil))) (.e (.int 0) (.e (.int 0) .nil))))) .nil
noncomputable def J8d:List D→Fo:=J21 2 [false] (exs [] J4m)
noncomputable def J5f:Fn:=⟨"_law_bag",[.F],.O (.O .Z),J8d,[],[],[], ""⟩
noncomputable def J7:Fn:=Jqe
theorem Joc (ns:List Int):J8d [.lst (ns.map .int)]= .ok (Jcv ns).d [none]:=by
 have lc:eLc (evI [] (.list (.frz (.sl true (.var 0) none (some (.int 63)))))) (evG (.nm 1)) (evC [] .no) (ev [] (.blt .abs (.e (.var 1) .nil))) [1] [some (.lst (ns.map .int)),none]= .ok (.lst (((ns.map D.int).take 63).map fun d=>match d with
   | .int i=> .int (J6r i)
   | d=>d)) [some (.lst (ns.map .int)),none]:=by
  refine Jqu (ds:=(ns.map D.int).take 63) (Γ1:= [some (.lst (ns.map .int)),none]) ?_ (Jan (fun d=>match d with
   | .int i=> .int (J6r i)
   | d=>d) _ _ fun d hd=>?_)
  ·show J9e (ev [] (.frz (.sl true (.var 0) none (some (.int 63))))) _=_
   unfold J9e
   rw [Jqm,Jme,if_pos rfl]
   show (Rz.opt (some (D.lst (cutD (ns.map D.int) none (some ((63:Nat):Int))))) _).bind _=_
   rw [Jli];rfl
  ·have:d∈ns.map D.int:=List.mem_of_mem_take hd
   obtain ⟨n,_,rfl⟩:=Zm.mp this
   exact ⟨_,_,_,rfl,rfl,rfl,rfl⟩
 have key:exs [] J4m [some (.lst (ns.map .int)),none]= .rt (Jcv ns).d [some (.lst (ns.map .int)),none]:=by
  show ex [] (.ret (.lst (.O .Z) (.e (.bin .cat (.lc [1] (.list (.frz (.sl true (.var 0) none (some (.int 63))))) (.nm 1) .no (.blt .abs (.e (.var 1) .nil))) (.lst .Z (.e (.int 1) .nil))) (.e (.int 0) (.e (.int 0) .nil))))) _=_
  simp only [Jit,Jis,Jmf,Jnz,Jir,Jrv,lc,EV.bind_ok,Jqh,Jqg]
  have e: (((ns.map D.int).take 63).map fun d=>match d with
   | .int i=> .int (J6r i)
   | d=>d)= (((ns.take 63).map J6r).map D.int):=by
   rw [← List.map_take,List.map_map,List.map_map];rfl
  rw [e]
  have ce:B2.cat.op (.lst (((ns.take 63).map J6r).map D.int)) (.lst [.int 1])=some (.lst (((ns.take 63).map J6r++ [1]).map D.int)):=by
   show (if _ then some (D.lst (((ns.take 63).map J6r).map D.int++ [D.int 1])) else none)=_
   rw [if_pos]
   ·simp
   ·simp only [List.length_map,List.length_take,List.length_cons,List.length_nil]
    have:64≤sizeLine:=by decide
    omega
  rw [ce]
  rfl
 show J21 2 [false] (exs [] J4m) _=_
 unfold J21
 show (match exs [] J4m [some (.lst (ns.map .int)),none] with | .rt d Γ=>Fo.ok d (J45 [false] Γ) | .nx Γ=> .ok .non (J45 [false] Γ) | .exc x Γ=> .exc x (J45 [false] Γ) | _=> .bad)=_
 rw [key]
 rfl
noncomputable def Jch (ns:List Int):M Bag:= .ok (Jcv ns)
theorem Jiy (ns:List Int):Jd (J8d [E ns]) (Jch ns) (fun b=>E b) (fun _=> [none]):=Joc ns
noncomputable abbrev Jt:=J5e
theorem Jz (b:Bag) (lot:Int):Jd (J7.F [E b,E lot]) (Jt b lot) (fun p=>E p.1) (fun p=> [some (E p.2),none]):=Jlg
section
variable {α β σ:Type} {T:Type} [Tgt T] {m:M β} {fin:β→Sz→Prop} {X:Xc→Gam→Prop} {fs:List Fn} {Γ Γ1 Γ2:Gam} {r:Gam→Sz}
theorem Tm {q:Sms} (h:Γ1=Γ) (k:Tie ((exs fs q Γ).seq r) m fin X):Tie ((exs fs q Γ1).seq r) m fin X:=by rw [h];exact k
theorem Tp {q:Sms} {a:α} {k:α→M β} (g:α→Gam) (h:Γ1=g a) (hk:∀x,Tie ((exs fs q (g x)).seq r) (k x) fin X):Tie ((exs fs q Γ1).seq r) ((M.ok a).bind k) fin X:=by rw [h];exact hk a
theorem T2b {μ:List Mode} {s:Sm} {q:Sms} (k:Tie ((exs fs (.cons s q) Γ).seq r) m fin X):Tie ((exs fs (.cons (.at_ μ s) q) Γ).seq r) m fin X:=by
 rw [Jce] at k ⊢;exact k
theorem T1s {i:Nat} {own:List Nat} {it:Ix} {t:Tg} {c:Cx1} {e:Ex} {q:Sms} (k:Tie ((evI fs it Γ).to fun ds Γ1=>(lcR (evG t) (evC fs c) (ev fs e) own ds Γ1).to fun d Γ1=>(exs fs q (Γ1.set i (some d))).seq r) m fin X):Tie ((exs fs (.cons (.setLc i own it t c e) q) Γ).seq r) m fin X:=by
 refine Ty ?_
 have e0:ex fs (.setLc i own it t c e) Γ= ((evI fs it Γ).bind fun ds Γ1=>lcR (evG t) (evC fs c) (ev fs e) own ds Γ1).s fun d Γ1=> .nx (Γ1.set i (some d)):=rfl
 rw [e0,J47,J5,J27]
 have e1:∀ds Γ1,((lcR (evG t) (evC fs c) (ev fs e) own ds Γ1).to fun d Γ1=>Sz.nx (Γ1.set i (some d))).seq (fun Γ1=>(exs fs q Γ1).seq r)= (lcR (evG t) (evC fs c) (ev fs e) own ds Γ1).to fun d Γ1=>(exs fs q (Γ1.set i (some d))).seq r:=fun ds Γ1=>by rw [J27];rfl
 simp only [e1];exact k
theorem T2y {K:D→Gam→T} {m:M β} {fin:β→T→Prop} {a:Ex} {kk:Bool} {lo hi:Option Px} {l h:Option Int} (k:Tie ((ev fs a Γ).to fun d Γ1=>(match oPx (lo.map Jl) Γ1,oPx (hi.map Jl) Γ1 with
 | some l,some h=>Rz.opt ((if kk=true then J2v else J85) d l h) Γ1
 | _,_=> .bad).to K) m fin X):Tie ((ev fs (.sl kk a lo hi) Γ).to K) m fin X:=by
 rw [Jme];unfold eSl;rw [J5];exact k
theorem T2c {K:D→Gam→T} {fin:β→T→Prop} {t:Tx} {a b:Ex} {n1:M σ} {v:σ→D} {k:σ→M β} (h:Tie ((evT fs t Γ).to fun c Γ1=>(if c=true then ev fs a Γ1 else ev fs b Γ1)) n1 (fun s z=>z= .ok (v s) Γ) X) (hk:∀s,Tie (K (v s) Γ) (k s) fin X):Tie ((ev fs (.ifE t a b) Γ).to K) (n1.bind k) fin X:=by
 refine T1b (v:=v) (g:=fun _=>Γ) ?_ hk
 rw [ev_if,J9r];exact h
theorem T2d {z1 z2:Rz D} {c:Bool} {n1 n2:M σ} {fin:σ→Rz D→Prop} (h1:Tie (z1.to Rz.ok) n1 fin X) (h2:Tie (z2.to Rz.ok) n2 fin X):Tie (if c=true then z1 else z2) (if c=true then n1 else n2) fin X:=by
 rw [J7r] at h1 h2
 cases c
 ·exact h2
 ·exact h1
end
noncomputable def M.nox {α:Type} (m:M α):M α:=match m with
 | .exc _=> .bad
 | o=>o
@[simp] theorem M.nox_ok {α:Type} (a:α):M.nox (M.ok a)= .ok a:=rfl
@[simp] theorem Jsp (b:Bag) (lot:Int):M.nox (J5e b lot)=J5e b lot:=by
 unfold J5e;split <;> rfl
@[simp] theorem Jsq {α:Type} [Dat α] (a b:α):M.nox (Jgx a b)=Jgx a b:=by
 unfold Jgx;split <;> rfl
theorem T1m {β δ T:Type} [Tgt T] {fin:β→T→Prop} {X:Xc→Gam→Prop} {Γ:Gam} {K:D→Gam→T} {o:Fo} {ios:Ios} {n:M δ} {v:δ→D} {io:δ→List (Option D)} {g:δ→Gam} {k:δ→M β} (h:Jd o n v io) (hg:∀b,J3f ios (io b) Γ=g b) (hk:∀b,Tie (K (v b) (g b)) (k b) fin X):Tie ((o.r ios Γ).to K) ((M.nox n).bind k) fin X:=by
 cases n with
 | ok b=>
  have e:o= .ok (v b) (io b):=h
  rw [e]
  show Tie (K (v b) (J3f ios (io b) Γ)) _ _ _
  rw [hg];exact hk b
 | exc x=>trivial
 | bad=>trivial
noncomputable abbrev xc (c w:Str):Xc:=⟨c,["word"],[.str w]⟩
theorem T22 {β T:Type} [Tgt T] {fin:β→T→Prop} {X:Xc→Gam→Prop} {fs:List Fn} {Γ:Gam} {KB:Bool→Gam→T} {a:Tx} {Mk:List Bool} {n:M Bool} {g2:Bool→Gam} {k:Bool→M β} (h:Tie (evT fs a Γ) n (fun b z=>z= .ok b Γ) fun x Γ'=>X x (J5j Mk Γ Γ')) (hg:∀b,J5j Mk Γ Γ=g2 b) (hk:∀b,Tie (KB b (g2 b)) (k b) fin X):Tie ((evT fs (.bor Mk a) Γ).to KB) (n.bind k) fin X:=by
 refine T1b (v:=fun b=>b) (g:=g2) ?_ hk
 rw [Jo4];unfold J4s
 cases n with
 | ok b=>
  have e:evT fs a Γ= .ok b Γ:=h
  rw [e]
  show Rz.ok b (J5j Mk Γ Γ)=_
  rw [hg]
 | exc x=>
  obtain ⟨Γ',e,q⟩:=h
  have e':evT fs a Γ= .exc x Γ':=e
  rw [e'];exact ⟨_,rfl,q⟩
 | bad=>trivial
section
variable {α β γ δ σ ρ T:Type} [Tgt T] {m:M β} {fin:β→T→Prop} {X:Xc→Gam→Prop} {fs:List Fn} {Γ Γ1 Γ2:Gam} {K:D→Gam→T} {KI:List D→Gam→T}
theorem T2e {a b:Ex} (k:Tie ((ev fs a Γ).to fun x Γ1=>(ev fs b Γ1).to fun y Γ2=>(Rz.opt (J7i [x,y]) Γ2).to K) m fin X):Tie ((ev fs (.minD a b) Γ).to K) m fin X:=by
 have e:ev fs (.minD a b) Γ= (ev fs a Γ).bind fun x Γ1=>(ev fs b Γ1).bind fun y Γ2=>Rz.opt (J7i [x,y]) Γ2:=by
  show eN J7i (Jb0 (Jj (ev fs a) J1z) (Jj (ev fs b) J1z)) Γ=_
  unfold eN Jb0 Jj
  cases ev fs a Γ with
  | bad=>rfl
  | exc x Γ=>rfl
  | ok x Γ1=>
   dsimp only [Rz.bind,J1z]
   cases ev fs b Γ1 with
   | bad=>rfl
   | exc x Γ=>rfl
   | ok y Γ2=>rfl
 rw [e,J5];simp only [J5];exact k
noncomputable def Jgz (xs:List Int) (d:Int):M Int:=match xs with
 | []=> .ok d
 | x::xs=>J9s (x::xs)
theorem Jlj {xs:List Int} {d:Int}:OpM (J7i [E xs,E d]) (Jgz xs d) E:=by
 cases xs with
 | nil=>rfl
 | cons x xs=>exact Jf8 (xs:=x::xs)
@[irreducible] noncomputable def J6s (xs:List α) (k:Int):M (List α):=if decide (-(2 ^ 63)≤k) && (decide (k < 2 ^ 63) && decide (xs.length * k.toNat≤sizeLine)) then .ok (List.replicate k.toNat xs).flatten else .bad
theorem Jbs [Enc α] {xs:List α} {k:Int}:OpM (B2.op .rep (E xs) (E k)) (J6s xs k) E:=by
 show OpM (if decide (-(2 ^ 63)≤k) && (decide (k < 2 ^ 63) && decide ((xs.map Enc.d).length * k.toNat≤sizeLine)) then some (D.lst (List.replicate k.toNat (xs.map Enc.d)).flatten) else none) _ _
 rw [List.length_map]
 unfold J6s
 split
 ·show some (D.lst (List.replicate k.toNat (xs.map Enc.d)).flatten)=some (D.lst ((List.replicate k.toNat xs).flatten.map Enc.d))
  congr 2
  induction k.toNat with
  | zero=>rfl
  | succ n ih=>rw [List.replicate_succ,List.replicate_succ,List.flatten_cons,List.flatten_cons,List.map_append,ih]
 ·trivial
noncomputable def M.optc (o:Option α) (a:M β) (f:α→M β):M β:=match o with
 | none=>a
 | some v=>f v
@[simp] theorem M.optc_none (a:M β) (f:α→M β):M.optc none a f=a:=rfl
@[simp] theorem M.optc_some (v:α) (a:M β) (f:α→M β):M.optc (some v) a f=f v:=rfl
end
section
variable {α β σ:Type} {fin:β→Sz→Prop} {X:Xc→Gam→Prop}
theorem T2f {z1 z2:Sz} {o:Option α} {m1:M β} {m2:α→M β} {R:Gam→Sz} (h1:o=none→Tie (z1.seq R) m1 fin X) (h2:∀v,o=some v→Tie (z2.seq R) (m2 v) fin X):Tie ((if o.isNone=true then z1 else z2).seq R) (M.optc o m1 m2) fin X:=by
 cases o with
 | none=>exact h1 rfl
 | some v=>exact h2 v rfl
theorem T2g {z1 z2:Sz} {o:Option α} {m1:M β} {m2:α→M β} {R:Gam→Sz} (h2:∀v,o=some v→Tie (z1.seq R) (m2 v) fin X) (h1:o=none→Tie (z2.seq R) m1 fin X):Tie ((if o.isSome=true then z1 else z2).seq R) (M.optc o m1 m2) fin X:=by
 cases o with
 | none=>exact h1 rfl
 | some v=>exact h2 v rfl
end
noncomputable def Jh0 {σ:Type} (x:Xc):List (List (Str × Bool) × M σ)→M σ
 | []=> .exc x
 | q::r=>match q.1.lookup x.c with
  | some true=>q.2
  | some false=>Jh0 x r
  | none=> .bad
noncomputable def J6a {σ:Type} (n:M σ) (l:List (List (Str × Bool) × M σ)):M σ:=match n with
 | .exc x=>Jh0 x l
 | o=>o
inductive HTie {σ:Type} (Γh:Gam) (vs:List Nat) (g:σ→Gam):Hs→List (List (Str × Bool) × M σ)→Prop
 | nil:HTie Γh vs g .nil []
 | cons {c:Str} {tab:List (Str × Bool)} {s:Sms} {r:Hs} {n2:M σ} {l:List (List (Str × Bool) × M σ)} (h:Tie ((exs [] s Γh).seq Sz.nx) n2 (fun s z=>z= .nx (g s)) (fun _ _=>False)) (h2:HTie Γh vs g r l):HTie Γh vs g (.cons c tab (.wipe vs s) r) ((tab,n2)::l)
theorem HTie.sel {σ:Type} {fs:List Fn} {Γh Γx:Gam} {vs:List Nat} {g:σ→Gam} {hs:Hs} {l:List (List (Str × Bool) × M σ)} {X:Xc→Gam→Prop} {x:Xc} (h:HTie Γh vs g hs l) (w:Jf Γx vs=Γh) (hx:X x Γx):Tie (Jbk (exH fs hs) x Γx) (Jh0 x l) (fun s z=>z= .nx (g s)) X:=by
 induction h with
 | nil=>exact ⟨Γx,rfl,hx⟩
 | @cons c tab s r n2 l h h2 ih=>
  show Tie (match tab.lookup x.c with
   | some true=>noX (exs [] s (Jf Γx vs))
   | some false=>Jbk (exH fs r) x Γx
   | none=> .bad) (match tab.lookup x.c with
   | some true=>n2
   | some false=>Jh0 x l
   | none=> .bad) _ _
  cases tab.lookup x.c with
  | none=>trivial
  | some bb=>
   cases bb with
   | false=>exact ih
   | true=>
    have e:∀z:Sz,z.seq Sz.nx=z:=fun z=>by cases z <;> rfl
    rw [e] at h
    dsimp only
    rw [w]
    cases n2 with
    | ok s1=>
     have e1:exs [] s Γh= .nx (g s1):=h
     rw [e1];exact (rfl:Sz.nx (g s1)=_)
    | bad=>trivial
    | exc y=>obtain ⟨_,_,q⟩:=h;exact q.elim
theorem T23 {β σ:Type} {fs:List Fn} {Γ Γh:Gam} {r:Gam→Sz} {fin:β→Sz→Prop} {X:Xc→Gam→Prop} {μt:List Mode} {b q:Sms} {hs:Hs} {vs:List Nat} {n1:M σ} {l:List (List (Str × Bool) × M σ)} {k:σ→M β} (g:σ→Gam) (h1:Tie ((exs fs b Γ).seq Sz.nx) n1 (fun s z=>z= .nx (g s)) (fun x Γx=>Jf Γx vs=Γh∧X x Γx)) (h2:HTie Γh vs g hs l) (hk:∀s,Tie ((exs fs q (g s)).seq r) (k s) fin X):Tie ((exs fs (.cons (.tryM μt b hs) q) Γ).seq r) ((J6a n1 l).bind k) fin X:=by
 refine Ty (T1k (g:=g) ?_ hk)
 have e:∀z:Sz,z.seq Sz.nx=z:=fun z=>by cases z <;> rfl
 rw [e] at h1
 show Tie (Jal (exs fs b) (exH fs hs) Γ) _ _ _
 unfold Jal J6a
 cases n1 with
 | ok s1=>
  have e1:exs fs b Γ= .nx (g s1):=h1
  rw [e1];exact (rfl:Sz.nx (g s1)=_)
 | bad=>trivial
 | exc x=>
  obtain ⟨Γx,e1,w,hx⟩:=h1
  have e1':exs fs b Γ= .exc x Γx:=e1
  rw [e1']
  exact h2.sel w hx
section
variable {α β γ T:Type} [Tgt T] {fs:List Fn} {Γ:Gam} {m:M β} {fin:β→T→Prop} {X:Xc→Gam→Prop} {K:D→Gam→T}
theorem cutE [Enc α] {xs:List α} {lo hi:Option Int}:D.lst (cutD (xs.map Enc.d) lo hi)=E (J59 xs lo hi):=by
 exact Option.some.inj (Jiw (xs:=xs) (lo:=lo) (hi:=hi))
theorem Jiz [Enc α] {rows:List α} {j:Int}:Jp (E rows) [.ix j]= (atI rows j).map Enc.d:=by
 show (atI (rows.map Enc.d) j).bind (fun c=>some c)=_
 unfold atI
 rw [List.length_map]
 cases ixN rows.length j with
 | none=>rfl
 | some k=>
  show ((rows.map Enc.d)[k]?).bind _= (rows[k]?).map _
  rw [List.getElem?_map]
  cases rows[k]? <;> rfl
theorem T2h [Enc α] {i:Nat} {p:Px} {lo hi:Option Px} {l h:Option Int} {k:List α→M β} (rows:List (List α)) {j:Int} (e1:Jl p Γ=some j) (e2:J4 Γ i=some (E rows)) (e4:oPx (lo.map Jl) Γ=some l) (e5:oPx (hi.map Jl) Γ=some h) (hk:∀row,Tie (K (E (J59 row l h)) Γ) (k row) fin X):Tie ((ev fs (.slP i [p] lo hi) Γ).to K) ((atM rows j).bind k) fin X:=by
 have e:ev fs (.slP i [p] lo hi) Γ=Jdd i (plI plN (Jl p)) (lo.map Jl) (hi.map Jl) Γ:=rfl
 have eg:plI plN (Jl p) Γ=some [.ix j]:=by
  unfold plI plN;rw [e1];rfl
 rw [e]
 unfold Jdd atM
 rw [eg,e2]
 dsimp only
 rw [Jiz]
 cases atI rows j with
 | none=>trivial
 | some row=>
  have z: (some row).map Enc.d=some (.lst (row.map Enc.d)):=rfl
  rw [z]
  dsimp only
  rw [e4,e5]
  dsimp only
  rw [cutE]
  exact hk row
theorem T2i [Enc α] {i:Nat} {p:Px} {a:Ex} {k:List α→M β} (rows:List (List α)) {j:Int} (e1:Jl p Γ=some j) (e2:J4 Γ i=some (E rows)) (hk:∀row,Tie ((ev fs a (Γ.set i none)).to fun y Γ1=>(catK (row.map Enc.d) i (E rows) y Γ1).to K) (k row) fin X):Tie ((ev fs (.catP i [p] a) Γ).to K) ((atM rows j).bind k) fin X:=by
 have e:ev fs (.catP i [p] a) Γ=Jab i (plI plN (Jl p)) (ev fs a) Γ:=rfl
 have eg:plI plN (Jl p) Γ=some [.ix j]:=by
  unfold plI plN;rw [e1];rfl
 rw [e]
 unfold Jab atM
 rw [eg,e2]
 dsimp only
 rw [Jiz]
 cases atI rows j with
 | none=>trivial
 | some row=>
  have z: (some row).map Enc.d=some (.lst (row.map Enc.d)):=rfl
  rw [z]
  dsimp only
  rw [J5]
  exact hk row
theorem T2j [Enc α] {i:Nat} {d:D} {xs ys:List α} {Γ2:Gam} {k:List α→M β} (e:Γ.set i (some d)=Γ2) (hk:∀zs,Tie (K (E zs) Γ2) (k zs) fin X):Tie ((catK (xs.map Enc.d) i d (E ys) Γ).to K) ((J6q xs ys).bind k) fin X:=by
 subst e
 unfold EV.J6q
 show Tie (((if (xs.map Enc.d).length + (ys.map Enc.d).length≤sizeLine then Rz.ok (D.lst (xs.map Enc.d++ys.map Enc.d)) (Γ.set i (some d)) else .bad):Rz D).to K) _ _ _
 rw [List.length_map,List.length_map]
 by_cases h:xs.length + ys.length≤sizeLine
 ·rw [if_pos h,if_pos h,← List.map_append]
  exact hk (xs++ys)
 ·rw [if_neg h,if_neg h];trivial
theorem Tl {F:List D→Fo} {dds:List D} {g:Nat} {as:Ar} {f:Fn} (hf:fs.getD g default=f) (hF:f.F=F) (hd:f.dds=dds) (k:Tie ((evA fs as Γ).to fun ds Γ1=>((F (ds++dds)).r (J1x as) Γ1).to K) m fin X):Tie ((ev fs (.call g as) Γ).to K) m fin X:=by
 subst hF hd
 exact Tw hf k
end
section
variable {α β γ T:Type} [Tgt T] {fs:List Fn} {Γ:Gam} {m:M β} {fin:β→T→Prop} {X:Xc→Gam→Prop} {K:D→Gam→T}
end
section
variable {β:Type} {fs:List Fn} {Γ:Gam} {m:M β} {fin:β→Sz→Prop} {X:Xc→Gam→Prop} {r:Gam→Sz}
end
section
variable {β T:Type} [Tgt T] {fs:List Fn} {Γ:Gam} {m:M β} {fin:β→T→Prop} {X:Xc→Gam→Prop} {KL:List D→Gam→T}
end
section
variable {β σ T:Type} [Tgt T] {fs:List Fn} {Γ:Gam} {fin:β→T→Prop} {X:Xc→Gam→Prop} {K:D→Gam→T} {KB:Bool→Gam→T}
end
class NN (α:Type) [Enc α]:Prop where
 l:∀a:α,PyData.eqv (toP .non) (toP (E a))=false
 r:∀a:α,PyData.eqv (toP (E a)) (toP .non)=false
noncomputable instance:NN Int:=⟨fun _=>by show PyData.eqv .none (.int _)=false;simp only [PyData.eqv],fun _=>by show PyData.eqv (.int _) .none=false;simp only [PyData.eqv]⟩
noncomputable instance:NN Bool:=⟨fun _=>by show PyData.eqv .none (.bool _)=false;simp only [PyData.eqv],fun _=>by show PyData.eqv (.bool _) .none=false;simp only [PyData.eqv]⟩
noncomputable instance:NN Str:=⟨fun _=>by show PyData.eqv .none (.str _)=false;simp only [PyData.eqv],fun _=>by show PyData.eqv (.str _) .none=false;simp only [PyData.eqv]⟩
noncomputable instance {α:Type} [Enc α]:NN (List α):=⟨fun _=>by show PyData.eqv .none (.list _)=false;simp only [PyData.eqv],fun _=>by show PyData.eqv (.list _) .none=false;simp only [PyData.eqv]⟩
noncomputable instance {α:Type} [Enc α]:NN (Tu α):=⟨fun _=>by show PyData.eqv .none (.tuple _)=false;simp only [PyData.eqv],fun _=>by show PyData.eqv (.tuple _) .none=false;simp only [PyData.eqv]⟩
noncomputable instance {α β:Type} [Enc α] [Enc β]:NN (α × β):=⟨fun _=>by show PyData.eqv .none (.tuple _)=false;simp only [PyData.eqv],fun _=>by show PyData.eqv (.tuple _) .none=false;simp only [PyData.eqv]⟩
theorem Jod (n:Nat):shN n .non=true:=by cases n <;> rfl
noncomputable instance {α:Type} [Dat α] [NN α]:Dat (Option α) where
 dec:=inferInstance
 eqv a b:=by
  cases a with
  | none=>
   cases b with
   | none=>show PyData.eqv .none .none=_;simp [PyData.eqv]
   | some b=>exact (NN.l b).trans (by simp)
  | some a=>
   cases b with
   | none=>exact (NN.r a).trans (by simp)
   | some b=>exact (Dat.eqv a b).trans (by simp)
 dep:=Dat.dep α
 good o:=match o with
  | none=>true
  | some a=>Dat.good a
 sh o h:=by
  cases o with
  | none=>exact Jod _
  | some a=>exact Dat.sh a h
noncomputable instance {α:Type} [Dat α] [NN α] [Plain α]:Plain (Option α):=⟨fun o=>by cases o with
 | none=>rfl
 | some a=>exact Plain.all a⟩
section
variable {β:Type} {fs:List Fn} {Γ Γ0:Gam} {q:Sms} {r:Gam→Sz} {fin:β→Sz→Prop} {X:Xc→Gam→Prop}
theorem Joe {γ:Type} [Enc γ] {e:Ex} {y:γ} (he:Tie ((ev fs e Γ0).to Rz.ok) (.ok y) (fun y z=>z= .ok (E y) Γ0) fun _ _=>False):ev fs e Γ0= .ok (E y) Γ0:=by
 rw [J7r] at he;exact he
theorem Jj0 {op:Int→Int→Int} {j y:Int} {xs ys:List Int} (h:J4w op j y xs=some ys):0≤j∧∃k,xs[j.toNat]? =some k∧ys=xs.set j.toNat (op k y):=by
 unfold J4w at h
 by_cases h0:0≤j
 ·rw [if_pos h0] at h
  cases e:xs[j.toNat]? with
  | none=>rw [e] at h;cases h
  | some k=>rw [e] at h;cases h;exact ⟨h0,k,rfl,rfl⟩
 ·rw [if_neg h0] at h;cases h
theorem Je1 {i:Nat} {d:Option D} (h0:Γ.set i none=Γ0):Γ0.set i d=Γ.set i d:=by rw [← h0,List.set_set]
theorem Jlk {i:Nat} {d x:D} (h:J4 Γ i=some x) (h0:Γ.set i none=Γ0):J4 (Γ0.set i (some d)) i=some d:=by
 have l:i < Γ.length:=by
  have:=J9 h
  obtain ⟨hl,_⟩:=List.getElem?_eq_some_iff.mp this
  exact hl
 rw [Je1 h0]
 unfold J4
 rw [List.getElem?_set_self l]
theorem T2k {o:AO} {op:Int→Int→Int} {i:Nat} {p:Px} {j:Px} {e:Ex} {t:List (List Int)} {a z y:Int} {k:List (List Int)→M β} (ho:o.fn=some op) (hp:Jl p Γ=some a) (hj:Jl j Γ=some z) (h:J4 Γ i=some (E t)) (h0:Γ.set i none=Γ0)
  (he:Tie ((ev fs e Γ0).to Rz.ok) (.ok y) (fun y z=>z= .ok (E y) Γ0) fun _ _=>False) (G:List (List Int)→Gam) (hG:∀ys,Γ0.set i (some (E ys))=G ys) (hk:∀ys,Tie ((exs fs q (G ys)).seq r) (k ys) fin X):Tie ((exs fs (.cons (.aug o (.ix (.nm i) p) j e) q) Γ).seq r) ((M.opt (up2 t a (J4w op z y))).bind k) fin X:=by
 refine Ty ?_
 cases e1:up2 t a (J4w op z y) with
 | none=>trivial
 | some t'=>
  have e1':=e1
  unfold up2 at e1'
  cases a1:ixN t.length a with
  | none=>rw [a1] at e1';cases e1'
  | some n=>
   rw [a1,Option.bind_some] at e1'
   cases a2:t[n]? with
   | none=>rw [a2] at e1';cases e1'
   | some row=>
    rw [a2,Option.bind_some] at e1'
    cases a3:J4w op z y row with
    | none=>rw [a3] at e1';cases e1'
    | some row'=>
     obtain ⟨z0,kk,e2,_⟩:=Jj0 a3
     have hpl:J46 (.ix (.nm i) p) Γ=some [.ix a]:=by
      show (plN Γ).bind (fun s=>(Jl p Γ).map fun j=>s++ [.ix j])=_
      rw [hp];rfl
     have hgp:Jp (E t) [.ix a]=some (E row):=by
      show ((atI (t.map Enc.d) a).bind fun c=>some c)=_
      unfold atI
      rw [List.length_map,a1,Option.bind_some,List.getElem?_map,a2];rfl
     have e3:ex fs (.aug o (.ix (.nm i) p) j e) Γ=Jb5 ((o.fn).getD fun i _=>i) (ev fs e) i (J46 (.ix (.nm i) p)) (Jl j) Γ:=rfl
     have e4:ex fs (.aug o (.ix (.nm i) p) j e) Γ= .nx (G t'):=by
      rw [e3,ho]
      unfold Jb5
      rw [hj,hpl,h]
      dsimp only
      rw [hgp]
      show (if 0≤z then (match ((row.map Enc.d)[z.toNat]?) with
       | some (D.int _)=>(ev fs e (Γ.set i none)).s fun y Γ1=>(match upL i (fun _=>some [.ix a]) (J3x op y z) (Γ1.set i (some (E t))) with
        | some Γ2=>Sz.nx Γ2
        | none=>Sz.bad)
       | _=>Sz.bad) else Sz.bad)=_
      rw [if_pos z0,List.getElem?_map,e2,h0,Joe he]
      show (match upL i (fun _=>some [.ix a]) (J3x op (E y) z) (Γ0.set i (some (E t))) with
        | some Γ2=>Sz.nx Γ2
        | none=>Sz.bad)=_
      rw [J7s (t:=t) (a:=a) (h':=J4w op z y) rfl (Jlk h h0) fun xs=>Job xs,e1]
      show Sz.nx ((Γ0.set i _).set i _)=_
      rw [List.set_set,hG]
     rw [e4]
     exact hk _
end
section
variable {T β:Type} [Tgt T] {m:M β} {fin:β→T→Prop} {X:Xc→Gam→Prop} {fs:List Fn} {Γ:Gam} {K:D→Gam→T}
end
structure Dc (α β:Type) where
 l:List (α × β)
 deriving DecidableEq
noncomputable instance {α β:Type} [Enc α] [Enc β]:Enc (Dc α β):=⟨fun d=> .dct (d.l.map fun p=>Enc.d p.1) (d.l.map fun p=>Enc.d p.2)⟩
class DKey (α:Type) [Enc α] where
 kd:Bool
 ok:∀a:α,J62 (Enc.d a)=some kd
 inj:∀a b:α,(Enc.d a:D)=Enc.d b→a=b
theorem J3m:∀l:List Int,Jm (l.map Enc.d)=some (l.map .num)
 | []=>rfl
 | i::l=>by
  show ((J5m (.int i)).bind fun k=>(Jm (l.map Enc.d)).map fun r=>k::r)=_
  rw [J3m l];rfl
theorem J2x:∀l:List Int,NestedKey.depthAll (l.map .num)≤1
 | []=>by decide
 | i::l=>by
  have:=J2x l
  show max (NestedKey.depth (.num i)) (NestedKey.depthAll (l.map .num))≤1
  have h:NestedKey.depth (.num i)≤1:=Nat.zero_le _
  omega
theorem J4x:∀{a b:List Int},(a.map Enc.d:List D)=b.map Enc.d→a=b
 | [],[],_=>rfl
 | [],_::_,h=>by cases h
 | _::_,[],h=>by cases h
 | x::a,y::b,h=>by
  have h1: (D.int x)= .int y:=(List.cons.inj h).1
  cases h1
  rw [J4x (List.cons.inj h).2]
noncomputable instance:DKey Int:=⟨true,fun _=>rfl,fun a b h=>by cases h;rfl⟩
noncomputable instance:DKey (Tu Int):=⟨false,fun a=>by
  show ((Jm (a.l.map Enc.d)).bind fun ks=>if (NestedKey.tup ks).depth≤8 then some false else none)=_
  rw [J3m]
  have:=J2x a.l
  have h: (NestedKey.tup (a.l.map .num)).depth≤8:=by
   show NestedKey.depthAll (a.l.map .num) + 1≤8
   omega
  show (if (NestedKey.tup (a.l.map .num)).depth≤8 then some false else none)=_
  rw [if_pos h],fun a b h=>by
  have h': (a.l.map Enc.d:List D)=b.l.map Enc.d:=by injection h
  obtain ⟨a1⟩:=a;obtain ⟨b1⟩:=b
  rw [J4x (a:=a1) (b:=b1) h']⟩
noncomputable instance:DKey (Int × Tu Int):=⟨false,fun a=>by
  show ((Jm [.int a.1,.tup (a.2.l.map Enc.d)]).bind fun ks=>if (NestedKey.tup ks).depth≤8 then some false else none)=_
  have e:Jm [.int a.1,.tup (a.2.l.map Enc.d)]=some [.num a.1,.tup (a.2.l.map .num)]:=by
   show ((J5m (.int a.1)).bind fun k=>((((Jm (a.2.l.map Enc.d)).map NestedKey.tup).bind fun k=>(Jm []).map fun r=>k::r)).map fun r=>k::r)=_
   rw [J3m];rfl
  rw [e]
  have:=J2x a.2.l
  have h: (NestedKey.tup [.num a.1,.tup (a.2.l.map .num)]).depth≤8:=by
   show max (NestedKey.depth (.num a.1)) (max (NestedKey.depthAll (a.2.l.map .num) + 1) (NestedKey.depthAll [])) + 1≤8
   have h1:NestedKey.depth (.num a.1)≤1:=Nat.zero_le _
   have h2:NestedKey.depthAll []≤1:=by decide
   omega
  show (if (NestedKey.tup [.num a.1,.tup (a.2.l.map .num)]).depth≤8 then some false else none)=_
  rw [if_pos h],fun a b h=>by
  have h': [D.int a.1,.tup (a.2.l.map Enc.d)]= [.int b.1,.tup (b.2.l.map Enc.d)]:=by injection h
  obtain ⟨a1,⟨a2⟩⟩:=a;obtain ⟨b1,⟨b2⟩⟩:=b
  have h1:=(List.cons.inj h').1
  have h2:=(List.cons.inj (List.cons.inj h').2).1
  cases h1
  have h3: (a2.map Enc.d:List D)=b2.map Enc.d:=by injection h2
  rw [J4x h3]⟩
section
variable {α β γ T:Type} [Enc α] [Enc β] [DecidableEq α]
noncomputable def Dc.lk:List (α × β)→α→Option β
 | [],_=>none
 | p::r,y=>if p.1=y then some p.2 else Dc.lk r y
noncomputable def Dc.rp:List (α × β)→α→β→List (α × β)
 | [],_,_=> []
 | p::r,y,z=>(if p.1=y then (p.1,z) else p)::Dc.rp r y z
noncomputable def Dc.putL (l:List (α × β)) (y:α) (z:β):List (α × β):=if (Dc.lk l y).isSome=true then Dc.rp l y z else l++ [(y,z)]
noncomputable def J8y (d:Dc α β) (y:α) (z:β):M (Dc α β):=if d.l.length < sizeLine then .ok ⟨Dc.putL d.l y z⟩ else .bad
variable [DKey α]
theorem Jmi (a b:α):J3n (Enc.d a) (Enc.d b)=decide (a=b):=by
 by_cases h:a=b
 ·subst h;rw [J61];simp
 ·rw [decide_eq_false h]
  cases e:J3n (Enc.d a) (Enc.d b) with
  | false=>rfl
  | true=>exact absurd (DKey.inj _ _ (J6z _ _ e)) h
theorem Je2 (y:α):∀l:List (α × β),J4j (l.map fun p=>Enc.d p.1) (l.map fun p=>Enc.d p.2) (Enc.d y)= (Dc.lk l y).map Enc.d
 | []=>rfl
 | p::l=>by
  show (if J3n (Enc.d p.1) (Enc.d y)=true then some (Enc.d p.2) else J4j (l.map fun p=>Enc.d p.1) (l.map fun p=>Enc.d p.2) (Enc.d y))=_
  rw [Jmi,Je2 y l]
  conv=>rhs;unfold Dc.lk
  by_cases h:p.1=y
  ·rw [if_pos (by simpa using h),if_pos h];rfl
  ·rw [if_neg (by simpa using h),if_neg h]
theorem Jj1 (y:α) (z:β):∀l:List (α × β),J63 (l.map fun p=>Enc.d p.1) (l.map fun p=>Enc.d p.2) (Enc.d y) (Enc.d z)= (Dc.rp l y z).map fun p=>Enc.d p.2
 | []=>rfl
 | p::l=>by
  show (if J3n (Enc.d p.1) (Enc.d y)=true then Enc.d z else Enc.d p.2)::J63 (l.map fun p=>Enc.d p.1) (l.map fun p=>Enc.d p.2) (Enc.d y) (Enc.d z)=_
  rw [Jmi,Jj1 y z l]
  show _=Enc.d (if p.1=y then (p.1,z) else p).2::_
  by_cases h:p.1=y
  ·rw [if_pos (by simpa using h),if_pos h]
  ·rw [if_neg (by simpa using h),if_neg h]
theorem Jfa (y:α) (z:β):∀l:List (α × β),(Dc.rp l y z).map (fun p=>p.1)=l.map fun p=>p.1
 | []=>rfl
 | p::l=>by
  show (if p.1=y then (p.1,z) else p).1:: (Dc.rp l y z).map (fun p=>p.1)=_
  rw [Jfa y z l]
  by_cases h:p.1=y
  ·rw [if_pos h];rfl
  ·rw [if_neg h];rfl
theorem Jj2 (y:α) (l:List (α × β)):keysOk (l.map fun p=>Enc.d p.1) (Enc.d y)=true:=by
 unfold keysOk
 rw [DKey.ok y]
 dsimp only
 rw [List.all_eq_true]
 intro k hk
 obtain ⟨p,_,rfl⟩:=Zm.mp hk
 rw [DKey.ok p.1];simp
theorem Jj3 (y:α) (l:List (α × β)):J3z (l.map fun p=>Enc.d p.1) (l.map fun p=>Enc.d p.2) (Enc.d y)=some ((Dc.lk l y).map Enc.d):=by
 unfold J3z
 rw [if_pos (Jj2 y l),Je2]
theorem Jr3 (y:α) (z:β) (l:List (α × β)):J2f (l.map fun p=>Enc.d p.1) (l.map fun p=>Enc.d p.2) (Enc.d y) (Enc.d z)=if l.length < sizeLine then some ((Dc.putL l y z).map (fun p=>Enc.d p.1),(Dc.putL l y z).map fun p=>Enc.d p.2) else none:=by
 unfold J2f
 rw [Jj2 y l,Je2,List.length_map]
 by_cases h:l.length < sizeLine
 ·rw [if_pos ⟨rfl,h⟩,if_pos h,Option.isSome_map]
  unfold Dc.putL
  by_cases h2: (Dc.lk l y).isSome=true
  ·rw [if_pos h2,if_pos h2,Jj1]
   have e: (Dc.rp l y z).map (fun p=>Enc.d p.1)=l.map fun p=>Enc.d p.1:=by
    have:=congrArg (fun r=>r.map (Enc.d:α→D)) (Jfa y z l)
    simpa [List.map_map,Function.comp_def] using this
   rw [e]
  ·rw [if_neg h2,if_neg h2];simp
 ·rw [if_neg fun q=>h q.2,if_neg h]
theorem Jll {d:Dc α β} {k:α}:OpM (Jae (E d) (E k)) (M.opt (Dc.lk d.l k)) (E (α:=β)):=by
 show OpM ((J3z _ _ _).bind id) _ _
 rw [Jj3]
 cases Dc.lk d.l k with
 | none=>trivial
 | some z=>rfl
theorem Jof {d:Dc α β} {k:α}:J9l false (E k) (E d)=some (E (!(Dc.lk d.l k).isSome)):=by
 show (J3z _ _ _).map (fun o=>D.bl (!o.isSome))=_
 rw [Jj3]
 show some (D.bl (!((Dc.lk d.l k).map Enc.d).isSome))=_
 rw [Option.isSome_map];rfl
end
section
variable {t t1:D→Gam→Option Gam} {tt tt1:Gam→Rz Bool} {fi1:Gam→Rz (List D)} {fk fv:Gam→Rz D} {vs vs1:List Nat}
end
section
variable {α β γ δ σ ρ T:Type} [Tgt T] {m:M β} {fin:β→T→Prop} {X:Xc→Gam→Prop} {fs:List Fn} {Γ Γ1 Γ2:Gam} {K:D→Gam→T}
end
section
variable {α β γ:Type} [Enc α] [Enc β] [DecidableEq α] [DKey α]
end
section
variable {α β γ δ σ ρ T:Type} [Tgt T] {m:M β} {fin:β→T→Prop} {X:Xc→Gam→Prop} {fs:List Fn} {Γ Γ1 Γ2:Gam} {K:D→Gam→T} {KB:Bool→Gam→T} {KI:List D→Gam→T}
theorem T2l [Enc α] [Enc γ] {mo:Mode} (k:Tie (K (E (⟨[]⟩:Dc α γ)) Γ) m fin X):Tie ((ev fs (.dnew mo) Γ).to K) m fin X:=k
theorem T2m {a b:Ex} (k:Tie ((ev fs a Γ).to fun x Γ1=>(ev fs b Γ1).to fun y Γ2=>(Rz.opt (Jae x y) Γ2).to K) m fin X):Tie ((ev fs (.dget a b) Γ).to K) m fin X:=by
 have e0:ev fs (.dget a b) Γ= (ev fs a Γ).bind fun x Γ1=>(ev fs b Γ1).bind fun y Γ2=>Rz.opt (Jae x y) Γ2:=rfl
 rw [e0,J5];simp only [J5];exact k
theorem T2n {b0:Bool} {a b:Ex} (k:Tie ((ev fs a Γ).to fun x Γ1=>(ev fs b Γ1).to fun y Γ2=>(Rz.opt (J9l b0 x y) Γ2).to K) m fin X):Tie ((ev fs (.din b0 a b) Γ).to K) m fin X:=by
 have e0:ev fs (.din b0 a b) Γ= (ev fs a Γ).bind fun x Γ1=>(ev fs b Γ1).bind fun y Γ2=>Rz.opt (J9l b0 x y) Γ2:=rfl
 rw [e0,J5];simp only [J5];exact k
theorem T2o {b0:Bool} {a b:Ex} (k:Tie ((ev fs a Γ).to fun x Γ1=>(ev fs b Γ1).to fun y Γ2=>(Rz.opt (J9l b0 x y) Γ2).to fun d Γ3=>(Rz.opt (match d with | .bl b=>some b | _=>none) Γ3).to KB) m fin X):Tie ((evT fs (.din b0 a b) Γ).to KB) m fin X:=by
 have e:evT fs (.din b0 a b) Γ= (ev fs (.din b0 a b) Γ).bind fun d Γ1=>Rz.opt (match d with | .bl b=>some b | _=>none) Γ1:=by
  show eB (ev fs (.din b0 a b)) Γ=_
  unfold eB;congr;funext d Γ1;cases d <;> rfl
 rw [e,J5];exact T2n k
theorem T2z {q:Sms} {z:Sz} {fin:β→Sz→Prop}:Tie z (.bad:M β) fin X:=trivial
class Alk (α:Type) [Enc α]:Prop where
 al:∀a b:α,PySem.W.alike (toP (Enc.d a)) (toP (Enc.d b))=true
noncomputable instance:Alk Int:=⟨fun a b=>by show PySem.W.alike (.int a) (.int b)=true;simp only [PySem.W.alike]⟩
theorem J8e {α:Type} [Enc α] [Alk α]:∀xs ys:List α,PySem.W.alikeAll (J16 (xs.map Enc.d)) (J16 (ys.map Enc.d))=true
 | [],ys=>by show PySem.W.alikeAll [] _=true;simp only [PySem.W.alikeAll]
 | _::_,[]=>by show PySem.W.alikeAll (_::_) []=true;simp only [PySem.W.alikeAll]
 | x::xs,y::ys=>by
  show PySem.W.alikeAll (toP (Enc.d x)::J16 (xs.map Enc.d)) (toP (Enc.d y)::J16 (ys.map Enc.d))=true
  rw [PySem.W.alikeAll,Alk.al,J8e xs ys];rfl
noncomputable instance {α:Type} [Enc α] [Alk α]:Alk (List α):=⟨fun xs ys=>by
 show PySem.W.alike (.list (J16 (xs.map Enc.d))) (.list (J16 (ys.map Enc.d)))=true
 rw [PySem.W.alike];exact J8e xs ys⟩
theorem T1t {o:Option α} {z:T} {k:α→M β} (h:∀j,o=some j→Tie z (k j) fin X):Tie z ((M.opt o).bind k) fin X:=by
 cases o with
 | none=>trivial
 | some j=>exact h j rfl
end
theorem Jfb:∀bs:List Bool,boolsOf (bs.map Enc.d)=some bs
 | []=>rfl
 | b::bs=>by
  show (boolsOf (bs.map Enc.d)).map (b:: ·)=_
  rw [Jfb bs];rfl
theorem Jr4 {bs:List Bool}:BN.any.op [E bs]=some (E (bs.any id)):=by
 show (boolsOf (bs.map Enc.d)).map (fun bs=>D.bl (bs.any id))=_
 rw [Jfb];rfl
section
variable {β:Type} [Enc β]
end
noncomputable def Jaq (i:Nat) (q:Gam→Sz) (x y k:D) (Γ2:Gam):Sz:=match x with
 | .dct ks ds=>(match J2f ks ds k y with
  | some r=>q (Γ2.set i (some (.dct r.1 r.2)))
  | none=> .bad)
 | _=> .bad
noncomputable def Jar (i:Nat) (f2:Gam→Rz D) (q:Gam→Sz) (y:D) (Γ1:Gam):Sz:=match J4 Γ1 i with
 | some (.dct ks ds)=>(f2 (Γ1.set i none)).to fun k Γ2=>Jaq i q (.dct ks ds) y k Γ2
 | _=> .bad
section
variable {α β γ δ σ ρ:Type} {m:M β} {fin:β→Sz→Prop} {X:Xc→Gam→Prop} {fs:List Fn} {Γ Γ1 Γ2 Γ0:Gam}
theorem T2p {i:Nat} {j e:Ex} {q:Sms} {r:Gam→Sz} (k:Tie ((ev fs e Γ).to fun y Γ1=>Jar i (ev fs j) (fun Γ=>(exs fs q Γ).seq r) y Γ1) m fin X):Tie ((exs fs (.cons (.dput (.nm i) j e) q) Γ).seq r) m fin X:=by
 refine Ty ?_
 have e0: (ex fs (.dput (.nm i) j e) Γ).seq (fun Γ=>(exs fs q Γ).seq r)= (ev fs e Γ).to fun y Γ1=>Jar i (ev fs j) (fun Γ=>(exs fs q Γ).seq r) y Γ1:=by
  show (((ev fs e Γ).s _).seq _)=_
  rw [J47,J27]
  congr 1
  funext y Γ1
  unfold Jar
  show (match (some []:Option (List Sel)),J4 Γ1 i with
   | some s,some d=>_
   | _,_=>Sz.bad).seq _=_
  cases J4 Γ1 i with
  | none=>rfl
  | some d=>
   show (match Jp d [] with
    | some (.dct ks ds)=>_
    | _=>Sz.bad).seq _=_
   have e1:Jp d []=some d:=by cases d <;> rfl
   rw [e1]
   cases d with
   | dct ks ds=>
    dsimp only
    rw [J47,J27]
    congr 1
    funext k Γ2
    show (match (J2f ks ds k y).bind fun r=>J1g (.dct ks ds) [] (.dct r.1 r.2) with
     | some d'=>Sz.nx (Γ2.set i (some d'))
     | none=> .bad).seq _=_
    unfold Jaq
    dsimp only
    cases J2f ks ds k y with
    | none=>rfl
    | some r=>rfl
   | _=>rfl
 rw [e0];exact k
theorem T2q [Enc α] [Enc γ] {i:Nat} {f2:Gam→Rz D} {q:Gam→Sz} {y:D} {d:Dc α γ} (h:J4 Γ i=some (E d)) (h0:Γ.set i none=Γ0) (k:Tie ((f2 Γ0).to fun k Γ2=>Jaq i q (E d) y k Γ2) m fin X):Tie (Jar i f2 q y Γ) m fin X:=by
 unfold Jar
 rw [h,h0];exact k
theorem T2r [Enc α] [Enc γ] [DecidableEq α] [DKey α] {i:Nat} {q:Gam→Sz} {d:Dc α γ} {y:γ} {kk:α} {g:Dc α γ→Gam} {k:Dc α γ→M β} {yD kD:D} (hy:yD=E y) (hq:kD=E kk) (hg:∀d':Dc α γ,Γ2.set i (some (E d'))=g d') (hk:∀d',Tie (q (g d')) (k d') fin X):Tie (Jaq i q (E d) yD kD Γ2) ((EV.J8y d kk y).bind k) fin X:=by
 subst hy hq
 unfold Jaq
 show Tie (match J2f (d.l.map fun p=>Enc.d p.1) (d.l.map fun p=>Enc.d p.2) (Enc.d kk) (Enc.d y) with
  | some r=>q (Γ2.set i (some (.dct r.1 r.2)))
  | none=> .bad) _ _ _
 rw [Jr3]
 unfold EV.J8y
 by_cases h:d.l.length < sizeLine
 ·rw [if_pos h,if_pos h]
  show Tie (q (Γ2.set i (some (E (⟨Dc.putL d.l kk y⟩:Dc α γ))))) _ _ _
  rw [hg];exact hk _
 ·rw [if_neg h,if_neg h];trivial
end
section
variable {α β γ δ σ ρ T:Type} [Tgt T] {m:M β} {fin:β→T→Prop} {X:Xc→Gam→Prop} {fs:List Fn} {Γ Γ1 Γ2:Gam} {K:D→Gam→T} {KI:List D→Gam→T}
theorem T2s {a b:Ex} (k:Tie ((ev fs a Γ).to fun x Γ1=>(ev fs b Γ1).to fun y Γ2=>(Rz.opt (match y with | .int j=>J2v x (some j) none | _=>none) Γ2).to K) m fin X):Tie ((ev fs (.slE a b) Γ).to K) m fin X:=by
 have e:ev fs (.slE a b) Γ= (ev fs a Γ).bind fun x Γ1=>(ev fs b Γ1).bind fun y Γ2=>Rz.opt (match y with | .int j=>J2v x (some j) none | _=>none) Γ2:=by
  show Jdl (ev fs a) (ev fs b) Γ=_
  unfold Jdl
  congr 1;funext x Γ1;congr 1;funext y Γ2;cases y <;> rfl
 rw [e,J5];simp only [J5];exact k
end
section
variable {β:Type} {m:M β} {fin:β→Sz→Prop} {X:Xc→Gam→Prop} {fs:List Fn} {Γ:Gam}
theorem T2t {i j:Nat} {e:Ex} {q:Sms} {r:Gam→Sz} (k:Tie ((ev fs e Γ).to fun d Γ1=>(exs fs q ((Γ1.set i (some d)).set j (some d))).seq r) m fin X):Tie ((exs fs (.cons (.asg2 i j e) q) Γ).seq r) m fin X:=by
 refine Ty ?_
 have e0:ex fs (.asg2 i j e) Γ= (ev fs e Γ).s fun d Γ1=> .nx ((Γ1.set i (some d)).set j (some d)):=rfl
 rw [e0,J47,J27];exact k
end
section
variable {β:Type} {fin:β→Sz→Prop} {X:Xc→Gam→Prop} {fs:List Fn} {Γ Γ0:Gam} {q:Sms} {r:Gam→Sz}
theorem T2u {o:AO} {op:Int→Int→Int} {i:Nat} {p:Px} {j:Px} {e:Ex} {t:List (List Int)} {a z:Int} {n:M Int} {k:Int→List (List Int)→M β} (ho:o.fn=some op) (hp:Jl p Γ=some a) (hj:Jl j Γ=some z) (h:J4 Γ i=some (E t)) (h0:Γ.set i none=Γ0)
  (he:Tie ((ev fs e Γ0).to Rz.ok) n (fun y z=>z= .ok (E y) Γ0) fun _ _=>False) (G:List (List Int)→Gam) (hG:∀ys,Γ0.set i (some (E ys))=G ys) (hk:∀y ys,Tie ((exs fs q (G ys)).seq r) (k y ys) fin X):Tie ((exs fs (.cons (.aug o (.ix (.nm i) p) j e) q) Γ).seq r) (n.bind fun y=>(M.opt (up2 t a (J4w op z y))).bind (k y)) fin X:=by
 cases n with
 | ok y=>exact T2k (y:=y) ho hp hj h h0 he G hG (hk y)
 | exc x=>
  obtain ⟨_,_,f⟩:=he
  exact f.elim
 | bad=>trivial
end
section
variable {β T:Type} [Tgt T] {m:M β} {fin:β→T→Prop} {X:Xc→Gam→Prop} {fs:List Fn} {Γ Γ2:Gam} {K:D→Gam→T}
end
section
variable {α β T:Type} [Tgt T] {m:M β} {fin:β→T→Prop} {X:Xc→Gam→Prop} {fs:List Fn} {Γ:Gam} {K:D→Gam→T}
end
section
variable {α β γ δ:Type} [Enc α] [Enc β] [Enc γ] [Enc δ]
end
noncomputable instance {α:Type} [Enc α] [Alk α]:Alk (Tu α):=⟨fun xs ys=>by
 show PySem.W.alike (.tuple (J16 (xs.l.map Enc.d))) (.tuple (J16 (ys.l.map Enc.d)))=true
 rw [PySem.W.alike];exact J8e xs.l ys.l⟩
noncomputable instance {α β:Type} [Enc α] [Enc β] [Alk α] [Alk β]:Alk (α × β):=⟨fun p q=>by
 show PySem.W.alike (.tuple [toP (Enc.d p.1),toP (Enc.d p.2)]) (.tuple [toP (Enc.d q.1),toP (Enc.d q.2)])=true
 simp only [PySem.W.alike,PySem.W.alikeAll,Alk.al];rfl⟩
class SrtK (α:Type) [Dat α]:Prop where
 g:∀xs:List α,Jf2 (xs.map Enc.d)=true
theorem J5h {α:Type} [Dat α] [Plain α] [Alk α] (h:Dat.dep α≤60) (k: (∀a:α,Jm8 (Enc.d a)=true)∨∀a:α,Jf1 (Enc.d a)=true):SrtK α:=⟨fun xs=>by
 unfold Jf2
 have h1: (xs.map Enc.d:List D).all (shN 60)=true:=by
  rw [List.all_eq_true]
  intro d hd
  obtain ⟨a,_,rfl⟩:=Zm.mp hd
  exact J1h (Dat.sh a (Plain.all a)) h
 have h2: ((xs.map Enc.d:List D).all fun d=>(xs.map Enc.d:List D).all fun e=>PySem.W.alike (toP d) (toP e))=true:=by
  rw [List.all_eq_true]
  intro d hd
  rw [List.all_eq_true]
  intro e he
  obtain ⟨a,_,rfl⟩:=Zm.mp hd
  obtain ⟨b,_,rfl⟩:=Zm.mp he
  exact Alk.al a b
 rw [h1,h2,Bool.true_and,Bool.true_and,Bool.or_eq_true,List.all_eq_true,List.all_eq_true]
 rcases k with k | k
 ·refine .inl fun d hd=>?_
  obtain ⟨a,_,rfl⟩:=Zm.mp hd
  exact k a
 ·refine .inr fun d hd=>?_
  obtain ⟨a,_,rfl⟩:=Zm.mp hd
  exact k a⟩
noncomputable instance:SrtK Int:=J5h (Nat.zero_le _) (.inr fun _=>rfl)
noncomputable instance:SrtK (Int × Int):=J5h (by decide) (.inl fun _=>rfl)
noncomputable instance:SrtK (Int × Tu Int):=J5h (by decide) (.inl fun _=>rfl)
noncomputable instance:SrtK ((Int × Int) × Int):=J5h (by decide) (.inl fun _=>rfl)
class Flt (α:Type) [Dat α] where
 v:α→V
 ok:∀a:α,Jsd (Enc.d a)=some (v a)
 eqv:∀a b:α,eqV (v a) (v b)=decide (a=b)
noncomputable instance:Flt Str where
 v:= .str
 ok _:=rfl
 eqv a b:=by
  show (a == b)=_
  exact Bool.eq_iff_iff.mpr (by simp)
noncomputable instance:Flt Int where
 v:= .int
 ok _:=rfl
 eqv a b:=by
  show (a == b)=_
  exact Bool.eq_iff_iff.mpr (by simp)
section
variable {α β γ δ T:Type} [Tgt T] {m:M β} {fin:β→T→Prop} {X:Xc→Gam→Prop} {fs:List Fn} {Γ Γ1 Γ2 Γ0:Gam} {K:D→Gam→T}
end
section
variable {α β γ δ:Type} {m:M β} {fin:β→Sz→Prop} {X:Xc→Gam→Prop} {fs:List Fn} {Γ Γ1 Γ2 Γ0:Gam} {q:Sms} {r:Gam→Sz}
end
noncomputable instance:SrtK (Tu Int × Int):=J5h (by decide) (.inl fun _=>rfl)
section
variable {α β γ δ ε:Type} [Enc α] [Enc β] [Enc γ] [Enc δ] [Enc ε]
end
section
variable {β:Type} {m m1 m2:M β} {fin:β→Sz→Prop} {X:Xc→Gam→Prop} {fs:List Fn} {Γ Γ1 Γ2:Gam} {r:Gam→Sz}
end
section
variable {β T:Type} [Tgt T] {m:M β} {fin:β→T→Prop} {X:Xc→Gam→Prop} {fs:List Fn} {Γ:Gam} {K:D→Gam→T}
end
class Dec (α:Type) [Enc α] where
 dec:D→Option α
 inj:∀d a,dec d=some a→d=E a
 ok:∀a:α,dec (E a)=some a
noncomputable def Jsr:D→Option Int
 | .int i=>some i
 | _=>none
noncomputable def Jss:D→Option Str
 | .str i=>some i
 | _=>none
noncomputable def J9t:List D→Option (List Int)
 | []=>some []
 | .int i::l=>(J9t l).map (i:: ·)
 | _=>none
theorem Je3:∀{ds:List D} {l:List Int},J9t ds=some l→ds=l.map Enc.d
 | [],l,h=>by cases h;rfl
 | d::ds,l,h=>by
  cases d with
  | int i=>
   have h': (J9t ds).map (i:: ·)=some l:=h
   cases e:J9t ds with
   | none=>rw [e] at h';cases h'
   | some m=>rw [e] at h';cases h';rw [Je3 e];rfl
  | _=>cases h
theorem Jfc:∀l:List Int,J9t (l.map Enc.d)=some l
 | []=>rfl
 | i::l=>by
  show (J9t (l.map Enc.d)).map (i:: ·)=_
  rw [Jfc l];rfl
noncomputable instance:Dec Int:=⟨Jsr,(fun d a h=>by cases d <;> first | (cases h;rfl) | cases h),fun _=>rfl⟩
noncomputable instance:Dec Str:=⟨Jss,(fun d a h=>by cases d <;> first | (cases h;rfl) | cases h),fun _=>rfl⟩
noncomputable instance:Dec (List Int):=⟨fun d=>match d with
 | .lst ds=>J9t ds
 | _=>none,(fun d a h=>by
  cases d with
  | lst ds=>rw [Je3 h];rfl
  | _=>cases h),fun a=>Jfc a⟩
section
variable {β:Type} {fs:List Fn} {Γ:Gam} {r:Gam→Sz} {m:M β} {fin:β→Sz→Prop} {X:Xc→Gam→Prop}
end
noncomputable def Jmj {σ:Type} (x:Xc):List (List (Str × Bool) × (Xc→M σ))→M σ
 | []=> .exc x
 | q::r=>match q.1.lookup x.c with
  | some true=>q.2 x
  | some false=>Jmj x r
  | none=> .bad
noncomputable def Js0 {σ:Type} (n:M σ) (l:List (List (Str × Bool) × (Xc→M σ))):M σ:=match n with
 | .exc x=>Jmj x l
 | o=>o
@[simp] theorem Jst {σ:Type} (a:σ) (l:List (List (Str × Bool) × (Xc→M σ))):Js0 (.ok a) l= .ok a:=rfl
structure Hl (τ:Type) where
 t:τ
noncomputable def Js1:D→D
 | .tup ds=> .lst ds
 | d=>d
noncomputable instance {τ:Type} [Enc τ]:Enc (Hl τ):=⟨fun x=>Js1 (Enc.d x.t)⟩
noncomputable instance {τ:Type} [DecidableEq τ]:DecidableEq (Hl τ):=fun a b=>if h:a.t=b.t then isTrue (by cases a;cases b;cases h;rfl) else isFalse fun e=>h (by rw [e])
theorem Je4 {τ:Type} [DecidableEq τ] (a b:Hl τ):decide (a=b)=decide (a.t=b.t):=by
 cases a;cases b;congr 1;simp
section
variable {α β γ δ:Type}
noncomputable instance [Dat α] [Dat β]:Dat (Hl (α × β)) where
 dec:=inferInstance
 eqv a b:=by rw [Je4];exact Dat.eqv a.t b.t
 dep:=Dat.dep (α × β)
 good p:=Dat.good p.t
 sh p h:=Dat.sh p.t h
noncomputable instance [Dat α] [Dat β] [Plain α] [Plain β]:Plain (Hl (α × β)):=⟨fun p=>Plain.all p.t⟩
noncomputable instance [Dat α] [Dat β] [Dat γ]:Dat (Hl (T3 α β γ)) where
 dec:=inferInstance
 eqv a b:=by rw [Je4];exact Dat.eqv a.t b.t
 dep:=Dat.dep (T3 α β γ)
 good p:=Dat.good p.t
 sh p h:=Dat.sh p.t h
noncomputable instance [Dat α] [Dat β] [Dat γ] [Plain α] [Plain β] [Plain γ]:Plain (Hl (T3 α β γ)):=⟨fun p=>Plain.all p.t⟩
noncomputable instance [Dat α] [Dat β] [Dat γ] [Dat δ]:Dat (Hl (T4 α β γ δ)) where
 dec:=inferInstance
 eqv a b:=by rw [Je4];exact Dat.eqv a.t b.t
 dep:=Dat.dep (T4 α β γ δ)
 good p:=Dat.good p.t
 sh p h:=Dat.sh p.t h
noncomputable instance [Dat α] [Dat β] [Dat γ] [Dat δ] [Plain α] [Plain β] [Plain γ] [Plain δ]:Plain (Hl (T4 α β γ δ)):=⟨fun p=>Plain.all p.t⟩
variable [Enc α] [Enc β] [Enc γ] [Enc δ]
end
noncomputable instance {α β γ δ ε:Type} [Dat α] [Dat β] [Dat γ] [Dat δ] [Dat ε]:Dat (T5 α β γ δ ε) where
 dec:=inferInstance
 eqv a b:=by
  show (PyData.eqv (toP (Enc.d a.a)) (toP (Enc.d b.a)) && (PyData.eqv (toP (Enc.d a.b)) (toP (Enc.d b.b)) && (PyData.eqv (toP (Enc.d a.c)) (toP (Enc.d b.c)) && (PyData.eqv (toP (Enc.d a.d)) (toP (Enc.d b.d)) && (PyData.eqv (toP (Enc.d a.e)) (toP (Enc.d b.e)) && true)))))=_
  rw [Dat.eqv,Dat.eqv,Dat.eqv,Dat.eqv,Dat.eqv,Bool.and_true,← Bool.decide_and,← Bool.decide_and,← Bool.decide_and,← Bool.decide_and]
  cases a;cases b;congr 1;simp
 dep:=max (Dat.dep α) (max (Dat.dep β) (max (Dat.dep γ) (max (Dat.dep δ) (Dat.dep ε)))) + 1
 good p:=Dat.good p.a && (Dat.good p.b && (Dat.good p.c && (Dat.good p.d && Dat.good p.e)))
 sh p h:=by
  rw [Zb,Zb,Zb,Zb] at h
  show (shN _ (Enc.d p.a) && (shN _ (Enc.d p.b) && (shN _ (Enc.d p.c) && (shN _ (Enc.d p.d) && (shN _ (Enc.d p.e) && true)))))=true
  rw [J1h (Dat.sh p.a h.1) (by omega),J1h (Dat.sh p.b h.2.1) (by omega),J1h (Dat.sh p.c h.2.2.1) (by omega),J1h (Dat.sh p.d h.2.2.2.1) (by omega),J1h (Dat.sh p.e h.2.2.2.2) (by omega)];rfl
section
variable {β:Type} {m m1 m2:M β} {fin:β→Sz→Prop} {X:Xc→Gam→Prop} {fs:List Fn} {Γ Γ1 Γ2:Gam} {r:Gam→Sz}
theorem T2v {t:Tx} {a b ra rb:Sms} (k:Tie ((evT fs t Γ).to fun c Γ1=>if c=true then (exs fs a Γ1).seq (fun Γ2=>(exs fs ra Γ2).seq r) else (exs fs b Γ1).seq fun Γ2=>(exs fs rb Γ2).seq r) m fin X):Tie ((exs fs (.iteD t a b ra rb) Γ).seq r) m fin X:=by
 have e0:exs fs (.iteD t a b ra rb) Γ= (evT fs t Γ).s fun c Γ1=>if c=true then J1p (exs fs a) (exs fs ra) Γ1 else J1p (exs fs b) (exs fs rb) Γ1:=rfl
 have e1:∀ (f g:Gam→Sz) (Γ1:Gam),(J1p f g Γ1).seq r= (f Γ1).seq fun Γ2=>(g Γ2).seq r:=fun f g Γ1=>by
  unfold J1p
  cases f Γ1 <;> rfl
 rw [e0,J47,J27]
 have e2: (fun (c:Bool) (Γ1:Gam)=>(if c=true then J1p (exs fs a) (exs fs ra) Γ1 else J1p (exs fs b) (exs fs rb) Γ1).seq r)=fun c Γ1=>if c=true then (exs fs a Γ1).seq (fun Γ2=>(exs fs ra Γ2).seq r) else (exs fs b Γ1).seq fun Γ2=>(exs fs rb Γ2).seq r:=by
  funext c Γ1
  cases c
  ·exact e1 _ _ _
  ·exact e1 _ _ _
 exact (congrArg (fun K=>Tie ((evT fs t Γ).to K) m fin X) e2).mpr k
theorem T2w {z1 z2:Sz} {b:Bool} (h1:Tie z1 m1 fin X) (h2:Tie z2 m2 fin X):Tie (if b=true then z1 else z2) (if b=true then m1 else m2) fin X:=by
 cases b
 ·exact h2
 ·exact h1
end
section
variable {α β T:Type} [Tgt T] {m:M β} {fin:β→T→Prop} {X:Xc→Gam→Prop} {fs:List Fn} {Γ:Gam} {K:D→Gam→T}
end
section
noncomputable abbrev H4:Type:=Hl (T4 Int (Tu Int) Int Int)
end
noncomputable abbrev H5:Type:=Hl (T5 Int (Tu Int) Int Int Str)
section
variable {Γ:Gam}
end
end EV
namespace EV
open PySem
theorem ln1 {us:List Value} (h:us.length=1):∃a,us= [a]:=match us,h with | [a],_=>⟨a,rfl⟩
theorem ln2 {us:List Value} (h:us.length=2):∃a b,us= [a,b]:=match us,h with | [a,b],_=>⟨a,b,rfl⟩
end EV
namespace EV
open PySem PySem.Spec L2
noncomputable instance:DKey (Int × Int):=⟨false,fun a=>by
  show ((Jm [.int a.1,.int a.2]).bind fun ks=>if (NestedKey.tup ks).depth≤8 then some false else none)=_
  have e:Jm [.int a.1,.int a.2]=some [.num a.1,.num a.2]:=rfl
  rw [e]
  have h: (NestedKey.tup [.num a.1,.num a.2]).depth≤8:=by
   show max (NestedKey.depth (.num a.1)) (max (NestedKey.depth (.num a.2)) (NestedKey.depthAll [])) + 1≤8
   have h1:NestedKey.depth (.num a.1)≤1:=Nat.zero_le _
   have h3:NestedKey.depth (.num a.2)≤1:=Nat.zero_le _
   have h2:NestedKey.depthAll []≤1:=by decide
   omega
  show (if (NestedKey.tup [.num a.1,.num a.2]).depth≤8 then some false else none)=_
  rw [if_pos h],fun a b h=>by
  have h': [D.int a.1,.int a.2]= [.int b.1,.int b.2]:=by injection h
  obtain ⟨a1,a2⟩:=a;obtain ⟨b1,b2⟩:=b
  have h1:=(List.cons.inj h').1
  have h2:=(List.cons.inj (List.cons.inj h').2).1
  cases h1;cases h2;rfl⟩
noncomputable instance:DKey (Tu Int × Int):=⟨false,fun a=>by
  show ((Jm [.tup (a.1.l.map Enc.d),.int a.2]).bind fun ks=>if (NestedKey.tup ks).depth≤8 then some false else none)=_
  have e:Jm [.tup (a.1.l.map Enc.d),.int a.2]=some [.tup (a.1.l.map .num),.num a.2]:=by
   show ((((Jm (a.1.l.map Enc.d)).map NestedKey.tup).bind fun k=>((J5m (.int a.2)).bind fun k=>(Jm []).map fun r=>k::r).map fun r=>k::r))=_
   rw [J3m];rfl
  rw [e]
  have:=J2x a.1.l
  have h: (NestedKey.tup [.tup (a.1.l.map .num),.num a.2]).depth≤8:=by
   show max (NestedKey.depthAll (a.1.l.map .num) + 1) (max (NestedKey.depth (.num a.2)) (NestedKey.depthAll [])) + 1≤8
   have h1:NestedKey.depth (.num a.2)≤1:=Nat.zero_le _
   have h2:NestedKey.depthAll []≤1:=by decide
   omega
  show (if (NestedKey.tup [.tup (a.1.l.map .num),.num a.2]).depth≤8 then some false else none)=_
  rw [if_pos h],fun a b h=>by
  have h': [D.tup (a.1.l.map Enc.d),.int a.2]= [.tup (b.1.l.map Enc.d),.int b.2]:=by injection h
  obtain ⟨⟨a1⟩,a2⟩:=a;obtain ⟨⟨b1⟩,b2⟩:=b
  have h1:=(List.cons.inj h').1
  have h2:=(List.cons.inj (List.cons.inj h').2).1
  cases h2
  have h3: (a1.map Enc.d:List D)=b1.map Enc.d:=by injection h1
  rw [J4x h3]⟩
noncomputable instance:DKey (Tu Int × (Int × Int)):=⟨false,fun a=>by
  show ((Jm [.tup (a.1.l.map Enc.d),.tup [.int a.2.1,.int a.2.2]]).bind fun ks=>if (NestedKey.tup ks).depth≤8 then some false else none)=_
  have e:Jm [.tup (a.1.l.map Enc.d),.tup [.int a.2.1,.int a.2.2]]=some [.tup (a.1.l.map .num),.tup [.num a.2.1,.num a.2.2]]:=by
   show ((((Jm (a.1.l.map Enc.d)).map NestedKey.tup).bind fun k=>((J5m (.tup [.int a.2.1,.int a.2.2])).bind fun k=>(Jm []).map fun r=>k::r).map fun r=>k::r))=_
   rw [J3m];rfl
  rw [e]
  have:=J2x a.1.l
  have h: (NestedKey.tup [.tup (a.1.l.map .num),.tup [.num a.2.1,.num a.2.2]]).depth≤8:=by
   show max (NestedKey.depthAll (a.1.l.map .num) + 1) (max (max (NestedKey.depth (.num a.2.1)) (max (NestedKey.depth (.num a.2.2)) (NestedKey.depthAll [])) + 1) (NestedKey.depthAll [])) + 1≤8
   have h1:NestedKey.depth (.num a.2.1)≤1:=Nat.zero_le _
   have h3:NestedKey.depth (.num a.2.2)≤1:=Nat.zero_le _
   have h2:NestedKey.depthAll []≤1:=by decide
   omega
  show (if (NestedKey.tup [.tup (a.1.l.map .num),.tup [.num a.2.1,.num a.2.2]]).depth≤8 then some false else none)=_
  rw [if_pos h],fun a b h=>by
  have h': [D.tup (a.1.l.map Enc.d),.tup [.int a.2.1,.int a.2.2]]= [.tup (b.1.l.map Enc.d),.tup [.int b.2.1,.int b.2.2]]:=by injection h
  obtain ⟨⟨a1⟩,a2,a3⟩:=a;obtain ⟨⟨b1⟩,b2,b3⟩:=b
  have h1:=(List.cons.inj h').1
  have h2:=(List.cons.inj (List.cons.inj h').2).1
  cases h2
  have h3: (a1.map Enc.d:List D)=b1.map Enc.d:=by injection h1
  rw [J4x h3]⟩
section
variable {α β γ T:Type} [Tgt T] {m:M β} {fin:β→T→Prop} {X:Xc→Gam→Prop} {fs:List Fn} {Γ Γ1 Γ2 Γ0:Gam} {K:D→Gam→T} {KI:List D→Gam→T}
end
section
variable {β:Type} {m:M β} {fin:β→Sz→Prop} {X:Xc→Gam→Prop} {fs:List Fn} {Γ Γ1 Γ2 Γ0:Gam} {r:Gam→Sz}
end
noncomputable instance {α β γ:Type} [Enc α] [Enc β] [Enc γ] [Alk α] [Alk β] [Alk γ]:Alk (T3 α β γ):=⟨fun p q=>by
 show PySem.W.alike (.tuple (J16 [Enc.d p.a,Enc.d p.b,Enc.d p.c])) (.tuple (J16 [Enc.d q.a,Enc.d q.b,Enc.d q.c]))=true
 have h1:=Alk.al p.a q.a
 have h2:=Alk.al p.b q.b
 have h3:=Alk.al p.c q.c
 simp only [J16,PySem.W.alike,PySem.W.alikeAll,h1,h2,h3];rfl⟩
noncomputable instance:DKey (T3 Int (Tu Int) Int):=⟨false,fun a=>by
  show ((Jm [.int a.a,.tup (a.b.l.map Enc.d),.int a.c]).bind fun ks=>if (NestedKey.tup ks).depth≤8 then some false else none)=_
  have e:Jm [.int a.a,.tup (a.b.l.map Enc.d),.int a.c]=some [.num a.a,.tup (a.b.l.map .num),.num a.c]:=by
   show ((J5m (.int a.a)).bind fun k=>((((Jm (a.b.l.map Enc.d)).map NestedKey.tup).bind fun k=>((J5m (.int a.c)).bind fun k=>(Jm []).map fun r=>k::r).map fun r=>k::r)).map fun r=>k::r)=_
   rw [J3m];rfl
  rw [e]
  have:=J2x a.b.l
  have h: (NestedKey.tup [.num a.a,.tup (a.b.l.map .num),.num a.c]).depth≤8:=by
   show max (NestedKey.depth (.num a.a)) (max (NestedKey.depthAll (a.b.l.map .num) + 1) (max (NestedKey.depth (.num a.c)) (NestedKey.depthAll []))) + 1≤8
   have h1:NestedKey.depth (.num a.a)≤1:=Nat.zero_le _
   have h3:NestedKey.depth (.num a.c)≤1:=Nat.zero_le _
   have h2:NestedKey.depthAll []≤1:=by decide
   omega
  show (if (NestedKey.tup [.num a.a,.tup (a.b.l.map .num),.num a.c]).depth≤8 then some false else none)=_
  rw [if_pos h],fun a b h=>by
  have h': [D.int a.a,.tup (a.b.l.map Enc.d),.int a.c]= [.int b.a,.tup (b.b.l.map Enc.d),.int b.c]:=by injection h
  obtain ⟨a1,⟨a2⟩,a3⟩:=a;obtain ⟨b1,⟨b2⟩,b3⟩:=b
  have h1:=(List.cons.inj h').1
  have h2:=(List.cons.inj (List.cons.inj h').2).1
  have h3:=(List.cons.inj (List.cons.inj (List.cons.inj h').2).2).1
  cases h1;cases h3
  have h4: (a2.map Enc.d:List D)=b2.map Enc.d:=by injection h2
  rw [J4x h4]⟩
noncomputable instance:SrtK (T3 Int (Tu Int) Int):=J5h (by decide) (.inl fun _=>rfl)
end EV
namespace EV
open PySem PySem.Spec PyProof.Rows L2
end EV
namespace EV
open PySem PySem.Spec PyProof.Rows L2
end EV
namespace EV
open PySem PySem.Spec PyProof.Rows L2
theorem gm2 {α β:Type} {Q:α→β→Prop} {x:α} {y:β} {l:List (α × β)} (h:Q x y) (t:∀a b,(a,b)∈l→Q a b):∀a b,(a,b)∈(x,y)::l→Q a b:=fun a b m=>by
 rcases Zo.mp m with e | e
 ·cases e;exact h
 ·exact t a b e
theorem gn2 {α β:Type} {Q:α→β→Prop}:∀a b,(a,b)∈([]:List (α × β))→Q a b:=fun _ _ h=>nomatch h
theorem gm3 {α β γ:Type} {Q:α→β→γ→Prop} {x:α} {y:β} {z:γ} {l:List (α × β × γ)} (h:Q x y z) (t:∀a b c,(a,b,c)∈l→Q a b c):∀a b c,(a,b,c)∈(x,y,z)::l→Q a b c:=fun a b c m=>by
 rcases Zo.mp m with e | e
 ·cases e;exact h
 ·exact t a b c e
theorem gn3 {α β γ:Type} {Q:α→β→γ→Prop}:∀a b c,(a,b,c)∈([]:List (α × β × γ))→Q a b c:=fun _ _ _ h=>nomatch h
theorem fre {mg:Str→Option Value} {L l:List Str} (h:∀x∈L,mg x=none) (s:∀x∈l,x∈L:=by decide):∀x∈l,mg x=none:=fun x m=>h x (s x m)
theorem fxA {P:Program} {w:World} {K:Zf} {mg:Str→Option Value} {base:Heap} {k:Nat} {a:Df} (bl:∀x∈a.bl,mg x=none)
  (fl:∀c n,(c,n)∈a.fl→Cls K (He.ga K c)∧NoAttr K (He.ga K c) n:=by exact gn2)
  (ex:∀c wd,(c,wd)∈a.ex→mg c=some (.ref (He.ga K c))∧OexC K (He.ga K c)∧J6g K (He.ga K c)=true∧PySem.W.findIn K (.ref (He.ga K c)) "word" =some none∧∃ (j:Nat) (fd:FuncData),j + 1≤k∧FnOk P w K mg base (L2.CX P w) j (He.ma K (He.ga K c) "__init__") fd ["self"] (J8r K wd)∧Binds K fd ["self"] []:=by exact gn2)
  (exm:∀x c b,(x,c,b)∈a.exm→PySem.W.exmOne K (.ref (He.ga K x)) (.ref (He.ga K c))=some b∧mg c=some (.ref (He.ga K c)):=by exact gn3)
  (gc:∀x d,(x,d)∈a.gc→GC K mg x d:=by exact gn2)
  (exf:∀c wd fl,(c,wd,fl)∈a.exf→Jmd P w K mg base k c wd fl:=by exact gn3)
  (xfa:∀c f,(c,f)∈a.xfa→XfF K c f:=by exact gn2):Fx P w K mg base k a:=⟨bl,fl,ex,exm,gc,exf,xfa⟩
theorem bA1 {Q:Value→Value→Value→Option Addr→Value→Value→List Value→Prop} (h:∀k d p an c t a0,Q k d p an c t [a0]:=by exact fun _ _ _ _ _ _ _=>rfl):∀k d p an c t us,us.length=1→Q k d p an c t us:=fun _ _ _ _ _ _ us e=>match us,e with | [a0],_=>h _ _ _ _ _ _ _
theorem bA2 {Q:Value→Value→Value→Option Addr→Value→Value→List Value→Prop} (h:∀k d p an c t a0 a1,Q k d p an c t [a0,a1]:=by exact fun _ _ _ _ _ _ _ _=>rfl):∀k d p an c t us,us.length=2→Q k d p an c t us:=fun _ _ _ _ _ _ us e=>match us,e with | [a0,a1],_=>h _ _ _ _ _ _ _ _
theorem dAt {P:Program} {w:World} {K:Zf} {mg:Str→Option Value} {base:Heap} {fa:List He.Fa} {fn:List He.DefD} (c:He.SaysD fa fn K) {a:Df} {fs:List Fn} {k:Nat} {F:List D→Fo} (i:Nat) (hg:mg a.d.name=some (.ref (He.fAd K a.d.at_))) (sc:FnScope a.N a.ps a.d.scope) (ck:a.ck (fs.map Fn.sg)=true)
  (hb:∀ (kV doc pm:Value) (an:Option Addr) (cdv ct:Value) (us:List Value),us.length=a.ps.length→bindArgs (PySem.W.fnOf a.d.name a.d.qual a.d.params a.d.body a.d.scope .none kV doc pm an cdv ct) ⟨us,[]⟩=pure (a.ps.zip us))
  (hfs:∀g∈fs,FnAt P w K mg base k g) (hx:Fx P w K mg base k a) (e:fn[i]? =some a.d:=by exact rfl) (dv:a.d.dvs K= []:=by exact rfl) (j:∀ds,F ds≠ .bad→a.run fs ds=F ds:=by exact fun _ _=>rfl) (hom:a.om=none:=by rfl) (hxm:a.xm=none:=by rfl):FnAt P w K mg base (k + 1) ⟨a.d.name,a.pm,a.rm,F,[],[],[], ""⟩:=by
 obtain ⟨fd,h⟩:=c.def_ i e
 rw [dv] at h
 exact Df.at h hg sc ck hb hfs hx j hom hxm
end EV
namespace EV
open PySem PySem.Spec L2
theorem Jh1 {α:Type} (a:α):M.opt (some a)= .ok a:=Eq.trans rfl rfl
theorem Jfd {x a:Nat} (h:x≤2 ^ a):x.log2≤a:=by
 by_cases z:x=0
 ·subst z;exact Nat.zero_le _
 ·have:x.log2 < a + 1:=(Nat.log2_lt z).mpr (Nat.lt_of_le_of_lt h (Nat.pow_lt_pow_right (by decide) (Nat.lt_succ_self a)))
  omega
theorem Jog {a b:Int} (h1:a.natAbs≤2 ^ 400000) (h2:b.natAbs≤2 ^ 400000):Jbo a b= .ok (a * b):=by
 unfold Jbo Jk2
 rw [if_pos]
 have:=Jfd h1
 have:=Jfd h2
 exact Zt (by omega)
theorem Js2 {x a b:Nat} (h:x≤2 ^ a) (l:a≤b):x≤2 ^ b:=Nat.le_trans h (Nat.pow_le_pow_right (by decide) l)
theorem Jmk {x b:Nat} (h:x≤1000000000000000000) (l:60≤b):x≤2 ^ b:=Js2 (Nat.le_trans h (by decide: (1000000000000000000:Nat)≤2 ^ 60)) l
theorem Joh {a b:Int} (h1: -1000000000000≤a) (h2:a≤1000000000000) (h3: -1000000000000≤b) (h4:b≤1000000000000):Jbo a b= .ok (a * b):=
 Jog (Jmk (by omega) (by decide)) (Jmk (by omega) (by decide))
theorem Joi {a b:Int} (h:0 < b):Jbp a b= .ok (a % b):=by
 unfold Jbp Jk4
 rw [if_pos (Zt h)]
theorem J8f {n:Nat} {i:Int} (h0:0≤i) (h:i < n):ixN n i=some i.toNat:=by
 unfold ixN
 rw [if_pos h0,if_pos h]
theorem J3s {α:Type} {xs:List α} {i:Nat} (h:i < xs.length):atM xs (i:Int)= .ok xs[i]:=by
 unfold atM atI
 rw [Jiu h,Option.bind_some,Ze h];rfl
theorem J22 {α:Type} {xs:List α} {i:Int} {x:α} (h0:0≤i) (h:xs[i.toNat]? =some x):atM xs i= .ok x:=by
 have l:i.toNat < xs.length:=by
  rcases Nat.lt_or_ge i.toNat xs.length with l | l
  ·exact l
  ·rw [List.getElem?_eq_none l] at h;cases h
 unfold atM atI
 rw [J8f h0 (by omega),Option.bind_some,h];rfl
theorem J5r (lo:Int) (n:Nat): (J28 lo n).length=n:=by
 induction n generalizing lo with
 | zero=>rfl
 | succ n ih=>simp [J28,ih]
theorem Jci (lo:Int):∀ (n i:Nat),i < n→(J28 lo n)[i]? =some (lo + i)
 | n + 1,0,_=>by simp [J28]
 | n + 1,i + 1,h=>by
  rw [J28,List.getElem?_cons_succ,Jci (lo + 1) n i (by omega)]
  congr 1;omega
theorem J6b {lo x:Int}:∀{n:Nat},x∈J28 lo n↔lo≤x∧x < lo + n
 | 0=>by
  constructor
  ·exact fun h=>nomatch h
  ·intro h;omega
 | n + 1=>by
  rw [J28,Zo,J6b]
  omega
theorem Joj {α:Type} {xs:List α} {i:Nat} {y:α} (h:i < xs.length):putO xs (i:Int) y=some (xs.set i y):=by
 unfold putO;rw [Jiu h];rfl
theorem Jbt {α:Type} {xs:List α} {y:α} (h:xs.length < 16777216):J39 xs y=some (xs++ [y]):=if_pos h
theorem J76 {α:Type} {xs ys:List α} (h:xs.length + ys.length≤16777216):J6q xs ys= .ok (xs++ys):=if_pos h
theorem M.Ens.eq {α:Type} {m:M α} {a:α} (h:m.Ens fun x=>x=a):m= .ok a:=by
 obtain ⟨b,e,rfl⟩:=h;exact e
theorem M.Ens.of {α:Type} {m:M α} {a:α} {P:α→Prop} (e:m= .ok a) (p:P a):m.Ens P:=⟨a,e,p⟩
theorem J1u {b:Bag} {lot:Int} (hb:b.good) (h1:0 < lot:=by decide) (h2:lot < 18446744073709551616:=by decide): (J5e b lot).Ens fun p=>0≤p.1∧p.1 < lot∧p.2.good:=by
 have z: (2:Int) ^ 64=18446744073709551616:=by decide +kernel
 exact (Jlh hb h1 (by omega)).imp fun p h=>⟨h.1.1,h.1.2,h.2⟩
noncomputable def J7t:Sms:=(.cons (.asg (.nm 1) (.frz (.bin .add (.int 1) (.call 0 (.io 0 (.e (.int 4) .nil)))))) (.cons (.asg (.nm 2) (.frz (.bin .add (.int 1) (.call 0 (.io 0 (.e (.int 6) .nil)))))) (.cons (.asg (.nm 3) (.frz (.call 0 (.io 0 (.e (.int 41) .nil))))) (.cons (.asg (.nm 4) (.frz (.ix (.lst .Z (.e (.int 12) (.e (.int 12) (.e (.int 12) (.e (.int 12) (.e (.int 12) (.e (.int 40) .nil))))))) (.call 0 (.io 0 (.e (.int 6) .nil)))))) (.cons (.setLc 5 [6] (.r1 (.var 1)) (.nm 6) .no (.bin .rep (.lst .Z (.e (.int 0) .nil)) (.flat (.var 2)))) (.cons (.for_ (.r1 (.var 1)) (.nm 6) (.cons (.for_ (.r1 (.var 2)) (.nm 7) (.cons (.store (.ix (.nm 5) (.var 6)) (.var 7) (.call 0 (.io 0 (.e (.bin .add (.blt .min2 (.e (.var 3) (.e (.var 4) .nil))) (.int 1)) .nil)))) (.cons (.asg (.nm 3) (.frz (.bor [false,false,false,false,false,false,false,false] (.bin .sub (.var 3) (.ix (.ix (.var 5) (.var 6)) (.var 7)))))) (.wipe [7] .nil)))) (.wipe [6] .nil))) (.cons (.ret (.mv 5)) .nil)))))))
noncomputable def J57:List D→Fo:=J21 8 [true] (exs [J7] J7t)
noncomputable def J29:Fn:=⟨"_law_any",[.O (.O .Z)],.O (.O .Z),J57,[],[],[], ""⟩
@[irreducible] noncomputable def J3a (j_:Bag):M ((List (List Int)) × Bag):=
 M.bind (Jt j_ 4) fun p_=>
 M.bind (.ok ((1 + p_.1):Int)) fun a_=>
 M.bind (Jt p_.2 6) fun p_1=>
 M.bind (.ok ((1 + p_1.1):Int)) fun e_=>
 M.bind (Jt p_1.2 41) fun p_2=>
 M.bind (Jt p_2.2 6) fun p_3=>
 M.bind (atM ([12,12,12,12,12,40]:List Int) p_3.1) fun v_=>
 M.bind (J2h 0 a_) fun xs_=>
 M.bind (M.mapM xs_ (fun (x_:Int)=>M.bind (J6s ([0]:List Int) e_) fun v_1=>
 .ok v_1)) fun ys_=>
 M.bind (J2h 0 a_) fun xs_1=>
 M.bind (M.fold xs_1 (ys_,p_3.2,p_2.1) fun (s_: (List (List Int)) × Bag × Int) (x_1:Int)=>M.bind (J2h 0 e_) fun xs_2=>
 M.bind (M.fold xs_2 (s_.1,s_.2.1,s_.2.2) fun (s_1: (List (List Int)) × Bag × Int) (x_2:Int)=>M.bind (Jt s_1.2.1 ((J68 s_1.2.2 v_) + 1)) fun p_4=>
 M.bind (M.opt (up2 s_1.1 x_1 (fun row=>putO row x_2 p_4.1))) fun i_=>
 M.bind (M.bind (atM i_ x_1) fun v_2=>
 M.bind (atM v_2 x_2) fun v_3=>
 .ok (s_1.2.2 - v_3)) fun v_4=>
 .ok (i_,p_4.2,v_4)) fun s_2=>
 .ok (s_2.1,s_2.2.1,s_2.2.2)) fun s_3=>
 .ok (s_3.1,s_3.2.1)
theorem J8g (j_:Bag):Jd (J57 [E j_]) (J3a j_) (fun b=>E b.1) (fun b=> [some (E b.2)]):=by
 refine Jd.of (Γ:= [some (E j_),none,none,none,none,none,none,none]) rfl ?_
 unfold J3a J7t
 refine Tf (Ta (Tn (T8 (Tw (g:=0) (f:=J7) rfl (Tq (i:=0) (Γ1:= [none,none,none,none,none,none,none,none]) rfl rfl (T6 (T8 ?_)))))))
 refine T7 (Te (Jz j_ 4) (g:=fun p_=> [sZ p_.2,none,none,none,none,none,none,none]) (fun _=>rfl) (fun _ _=>trivial) fun p_=>?_)
 refine T1 op_add (Tp (a:=((1 + p_.1):Int)) (fun a_=> [sZ p_.2,sZ a_,none,none,none,none,none,none]) rfl fun a_=>?_)
 refine Tf (Ta (Tn (T8 (Tw (g:=0) (f:=J7) rfl (Tq (i:=0) (Γ1:= [none,sZ a_,none,none,none,none,none,none]) rfl rfl (T6 (T8 ?_)))))))
 refine T7 (Te (Jz p_.2 6) (g:=fun p_1=> [sZ p_1.2,sZ a_,none,none,none,none,none,none]) (fun _=>rfl) (fun _ _=>trivial) fun p_1=>?_)
 refine T1 op_add (Tp (a:=((1 + p_1.1):Int)) (fun e_=> [sZ p_1.2,sZ a_,sZ e_,none,none,none,none,none]) rfl fun e_=>?_)
 refine Tf (Ta (Tw (g:=0) (f:=J7) rfl (Tq (i:=0) (Γ1:= [none,sZ a_,sZ e_,none,none,none,none,none]) rfl rfl (T6 (T8 (T7 (Te (Jz p_1.2 41) (g:=fun p_2=> [sZ p_2.2,sZ a_,sZ e_,none,none,none,none,none]) (fun _=>rfl) (fun _ _=>trivial) fun p_2=>?_)))))))
 refine Tm (Γ:= [sZ p_2.2,sZ a_,sZ e_,sZ p_2.1,none,none,none,none]) rfl (Tf (Ta (Tj (T14 (T6 (T8 (T6 ?_)))))))
 refine T8 (T6 (T8 (T6 (T8 (T6 (T8 (T6 ?_)))))))
 refine T8 (T7 (T1 (a:=E ([12,12,12,12,12,40]:List Int)) rfl (Tw (g:=0) (f:=J7) rfl (Tq (i:=0) (Γ1:= [none,sZ a_,sZ e_,sZ p_2.1,none,none,none,none]) rfl rfl (T6 (T8 (T7 ?_)))))))
 refine Te (Jz p_2.2 6) (g:=fun p_3=> [sZ p_3.2,sZ a_,sZ e_,sZ p_2.1,none,none,none,none]) (fun _=>rfl) (fun _ _=>trivial) fun p_3=>?_
 refine Tc J8 fun v_=>?_
 refine Tm (Γ:= [sZ p_3.2,sZ a_,sZ e_,sZ p_2.1,sZ v_,none,none,none]) rfl (T1s (T1g (T0 rfl (T1h J75 fun xs_=>?_))))
 refine T15 [sZ p_3.2,sZ a_,sZ e_,sZ p_2.1,sZ v_,none,none,none] rfl rfl (tg:=fun x_=> [sZ p_3.2,sZ a_,sZ e_,sZ p_2.1,sZ v_,none,sZ x_,none]) (fun _=>rfl) (fun _=>rfl) (fun _=>rfl) (fun x_=>?_) fun ys_=>?_
 ·refine Tn (T14 (T6 (T8 (T7 (T1 (a:=E ([0]:List Int)) rfl (T1c (T0 rfl ?_)))))))
  refine T1 (J38 rfl) (Tc Jbs fun v_1=>?_)
  exact T2 rfl
 refine Tm (Γ:= [sZ p_3.2,sZ a_,sZ e_,sZ p_2.1,sZ v_,sZ ys_,none,none]) rfl (T19 (T1g (T0 rfl (T1h J75 fun xs_1=>?_))))
 refine T1q (fun (s_: (List (List Int)) × Bag × Int)=> [sZ s_.2.1,sZ a_,sZ e_,sZ s_.2.2,sZ v_,sZ s_.1,none,none]) (tg:=fun (s_: (List (List Int)) × Bag × Int) (x_1:Int)=> [sZ s_.2.1,sZ a_,sZ e_,sZ s_.2.2,sZ v_,sZ s_.1,sZ x_1,none]) rfl (fun _ _=>rfl) (fun s_ x_1=>?_) fun s_3=>?_
 ·refine T19 (T1g (T0 rfl (T1h J75 fun xs_2=>?_)))
  refine T1q (fun (s_1: (List (List Int)) × Bag × Int)=> [sZ s_1.2.1,sZ a_,sZ e_,sZ s_1.2.2,sZ v_,sZ s_1.1,sZ x_1,none]) (tg:=fun (s_1: (List (List Int)) × Bag × Int) (x_2:Int)=> [sZ s_1.2.1,sZ a_,sZ e_,sZ s_1.2.2,sZ v_,sZ s_1.1,sZ x_1,sZ x_2]) rfl (fun _ _=>rfl) (fun s_1 x_2=>?_) fun s_2=>?_
  ·refine T1a (Tw (g:=0) (f:=J7) rfl (Tq (i:=0) (Γ1:= [none,sZ a_,sZ e_,sZ s_1.2.2,sZ v_,sZ s_1.1,sZ x_1,sZ x_2]) rfl rfl (T6 (Tn (Td (T6 (T0 rfl ?_)))))))
   refine T6 (T0 rfl (T7 (T1 Joa (T8 (T1 op_add (T7 (Te (Jz s_1.2.1 ((J68 s_1.2.2 v_) + 1)) (g:=fun p_4=> [sZ p_4.2,sZ a_,sZ e_,sZ s_1.2.2,sZ v_,sZ s_1.1,sZ x_1,sZ x_2]) (fun _=>rfl) (fun _ _=>trivial) fun p_4=>?_)))))))
   refine T13 (p:=up2 s_1.1 x_1 (fun row=>putO row x_2 p_4.1)) (G:=fun i_=> [sZ p_4.2,sZ a_,sZ e_,sZ s_1.2.2,sZ v_,sZ i_,sZ x_1,sZ x_2]) (J7s (h':=fun row=>putO row x_2 p_4.1) rfl rfl fun _=>J4e rfl _) fun i_=>?_
   refine Tf (Ta (T18 (v:=fun b=>E b) (g:=fun _=> [sZ p_4.2,sZ a_,sZ e_,sZ s_1.2.2,sZ v_,sZ i_,sZ x_1,sZ x_2]) (g2:=fun _=> [sZ p_4.2,sZ a_,sZ e_,sZ s_1.2.2,sZ v_,sZ i_,sZ x_1,sZ x_2]) ?_ (fun _=>rfl) fun v_4=>?_))
   ·refine Ti (Tn (T0 rfl (Tj (Tj (T0 rfl (T0 rfl (Tc J8 fun v_2=>?_)))))))
    refine T0 rfl (Tc J8 fun v_3=>?_)
    exact T1 op_sub (T2 rfl)
   exact Tm (Γ:= [sZ p_4.2,sZ a_,sZ e_,sZ v_4,sZ v_,sZ i_,sZ x_1,sZ x_2]) rfl (T10 (Γ1:= [sZ p_4.2,sZ a_,sZ e_,sZ v_4,sZ v_,sZ i_,sZ x_1,none]) rfl (T9 (T2 (.inl rfl))))
  exact T10 (Γ1:= [sZ s_2.2.1,sZ a_,sZ e_,sZ s_2.2.2,sZ v_,sZ s_2.1,none,none]) rfl (T9 (T2 (.inl rfl)))
 exact To (T24 (i:=5) (Γ1:= [sZ s_3.2.1,sZ a_,sZ e_,sZ s_3.2.2,sZ v_,none,none,none]) rfl rfl (T2 (.inl ⟨_,rfl,rfl⟩)))
noncomputable def J5a:Sms:=(.cons (.ret (.lc [1] (.list (.var 0)) (.nm 1) .no (.blt .list (.e (.var 1) .nil)))) .nil)
noncomputable def J1v:List D→Fo:=J21 2 [false] (exs [] J5a)
noncomputable def J1c:Fn:=⟨"_law_copied",[.F],.O (.O .F),J1v,[],[],[], ""⟩
@[irreducible] noncomputable def Js {α:Type} [Enc α] (a_:List (List α)):M ((List (List α))):=
 .ok (a_.map fun (x_:List α)=>x_)
theorem J3b {α:Type} [Enc α] (a_:List (List α)):Jd (J1v [E a_]) (Js a_) (fun b=>E b) (fun _=> [none]):=by
 refine Jd.of (Γ:= [some (E a_),none]) rfl ?_
 unfold Js J5a
 refine To (Ts (Tr (T0 rfl (T1 J1i (T12 [sZ a_,none] rfl rfl (f:=fun (x_:List α)=>x_) (tg:=fun x_=> [sZ a_,sZ x_]) (fun _=>rfl) (fun _=>rfl) (fun _=>rfl) (fun x_=>?_) ?_)))))
 ·exact Td (T6 (T0 rfl (T7 (T1 Jf9 (T2 rfl)))))
 exact T2 (.inl ⟨_,rfl,rfl⟩)
noncomputable def J5s:Sms:=(.cons (.ite (.or (.not (.ch2 .le .le (.int 1) (.blt .len (.e (.var 0) .nil)) (.glob "ROWS" (.int 4)))) (.not (.ch2 .le .le (.int 1) (.blt .len (.e (.ix (.var 0) (.int 0)) .nil)) (.glob "COLUMNS" (.int 6))))) (.cons (.ret (.bl false)) .nil) .nil) (.cons (.for_ (.list (.var 0)) (.nm 1) (.cons (.ite (.or (.cmp .ne (.blt .len (.e (.var 1) .nil)) (.blt .len (.e (.ix (.var 0) (.int 0)) .nil))) (.cmp .lt (.minD (.var 1) (.int 0)) (.int 0))) (.cons (.ret (.bl false)) .nil) .nil) (.wipe [1] .nil))) (.cons (.ret (.cmp .le (.blt .sum (.e (.lc [1] (.list (.var 0)) (.nm 1) .no (.blt .sum (.e (.var 1) .nil))) .nil)) (.glob "MOST" (.int 40)))) .nil)))
noncomputable def J53:List D→Fo:=J21 2 [false] (exs [] J5s)
noncomputable def J3c:Fn:=⟨"good_rows",[.F],.Z,J53,[],[],[], ""⟩
@[irreducible] noncomputable def J19 (f_:List (List Int)):M (Bool):=
 M.bind (M.bind (.ok (!((decide (1≤(f_.length:Int))) && (decide ((f_.length:Int)≤4))))) fun b=>if b=true then .ok true else (M.bind (atM f_ 0) fun v_=>
 .ok (!((decide (1≤(v_.length:Int))) && (decide ((v_.length:Int)≤6)))))) fun b_=>
 if b_=true then
 (.ok false)
 else
 (M.bind (M.foldC f_ () fun (s_:Unit) (x_:List Int)=>M.bind (M.bind (M.bind (atM f_ 0) fun v_1=>
 .ok (!decide ((x_.length:Int)= (v_1.length:Int)))) fun b=>if b=true then .ok true else (M.bind (Jgz x_ 0) fun v_2=>
 .ok (decide (v_2 < 0)))) fun b_1=>
 if b_1=true then
 (.ok (.rt false))
 else
 (.ok (.nx ()))) fun c=>c.go (fun s_1=> .ok (decide (((f_.map fun (x_1:List Int)=>x_1.sum).sum)≤40))) (M.ok))
theorem J96 (f_:List (List Int)):Jd (J53 [E f_]) (J19 f_) (fun b=>E b) (fun _=> [none]):=by
 refine Jd.of (Γ:= [some (E f_),none]) rfl ?_
 unfold J19 J5s
 refine Tk (T11 ?_ ?_ fun b_=>?_)
 ·refine Ti (T17 (T1w (T1u (T8 (Td (T6 (T0 rfl ?_)))))))
  refine T7 (T1 Jc (T1v (z:=(4:Int)) (b1:=decide (1≤(f_.length:Int))) (b2:=decide ((f_.length:Int)≤4)) op_le ?_ op_le ?_))
  ·exact T1n (a:=(4:Int)) rfl (T2 rfl)
  exact Tb (T2 rfl)
 ·refine Ti (T17 (T1w (T1u (T8 (Td (T6 (Tj ?_)))))))
  refine T0 rfl (T8 (Tc J8 fun v_=>?_))
  refine T7 (T1 Jc (T1v (z:=(6:Int)) (b1:=decide (1≤(v_.length:Int))) (b2:=decide ((v_.length:Int)≤6)) op_le ?_ op_le ?_))
  ·exact T1n (a:=(6:Int)) rfl (T2 rfl)
  exact Tb (T2 rfl)
 refine Tt ?_ ?_
 ·exact To (T1i (T2 (.inl ⟨_,rfl,rfl⟩)))
 ·refine T9 (T19 (Tr (T0 rfl (T1 J1i (T1j (fun (s_:Unit)=> [sZ f_,none]) (fun (q:Bool) d Γ=>d=E q∧J45 [false] Γ= [none]) (tg:=fun (s_:Unit) (x_:List Int)=> [sZ f_,sZ x_]) rfl (fun _ _=>rfl) (fun s_ x_=>?_) (fun q d Γ h=>T2 (.inl ⟨Γ,by rw [h.1],h.2⟩)) fun s_1=>?_)))))
  ·refine Tk (T11 ?_ ?_ fun b_1=>?_)
   ·refine Ti (Th (Td (T6 (T0 rfl (T7 (T1 Jc (Td ?_)))))))
    refine T6 (Tj (T0 rfl (T8 (Tc J8 fun v_1=>?_))))
    exact T7 (T1 Jc (T1 op_ne (Tb (T2 rfl))))
   ·refine Ti (Th (T2e (T0 rfl (T8 (Tc Jlj fun v_2=>?_)))))
    exact T8 (T1 op_lt (Tb (T2 rfl)))
   refine Tt ?_ ?_
   ·exact To (T1i (T2 ⟨_,_,rfl,rfl,rfl⟩))
   ·exact T9 (T10 (Γ1:= [sZ f_,none]) rfl (T9 (T2 (.inl rfl))))
  refine To (T1f (Td (T6 (Ts (Tr (T0 rfl (T1 J1i ?_)))))))
  refine T12 [sZ f_,none] rfl rfl (f:=fun (x_1:List Int)=>x_1.sum) (tg:=fun x_1=> [sZ f_,sZ x_1]) (fun _=>rfl) (fun _=>rfl) (fun _=>rfl) (fun x_1=>?_) ?_
  ·exact Td (T6 (T0 rfl (T7 (T1 J4l (T2 rfl)))))
  exact T7 (T1 J4l (T1n (a:=(40:Int)) rfl (T1 op_le (T2 (.inl ⟨_,rfl,rfl⟩)))))
structure C_Table where
 grid:List (List Int)
 deriving DecidableEq
noncomputable instance:Enc C_Table:=⟨fun t=> .obj "Table" ["grid"] [E t.grid]⟩
noncomputable def J4y:Sms:=(.cons (.ret (.frz (.lc [1] (.r1 (.blt .len (.e (.ix (.var 0) (.int 0)) .nil))) (.nm 1) .no (.frz (.lc [2] (.list (.var 0)) (.nm 2) .no (.ix (.var 2) (.var 1))))))) .nil)
noncomputable def J40:List D→Fo:=J21 3 [false] (exs [] J4y)
noncomputable def J1e:Fn:=⟨"turned_rows",[.F],.F,J40,[],[],[], ""⟩
@[irreducible] noncomputable def J1q {α:Type} [Enc α] (f_:List (List α)):M ((List (List α))):=
 M.bind (atM f_ 0) fun v_=>
 M.bind (J2h 0 (v_.length:Int)) fun xs_=>
 M.bind (M.mapM xs_ (fun (x_:Int)=>M.bind (M.mapM f_ (fun (x_1:List α)=>M.bind (atM x_1 x_) fun v_1=>
 .ok v_1)) fun ys_=>
 .ok ys_)) fun ys_1=>
 .ok ys_1
theorem J7z {α:Type} [Enc α] (f_:List (List α)):Jd (J40 [E f_]) (J1q f_) (fun b=>E b) (fun _=> [none]):=by
 refine Jd.of (Γ:= [some (E f_),none,none]) rfl ?_
 unfold J1q J4y
 refine To (Ta (Ts (T1g (Td (T6 (Tj (T0 rfl ?_)))))))
 refine T8 (Tc J8 fun v_=>?_)
 refine T7 (T1 Jc (T1h J75 fun xs_=>?_))
 refine T15 [sZ f_,none,none] rfl rfl (tg:=fun x_=> [sZ f_,sZ x_,none]) (fun _=>rfl) (fun _=>rfl) (fun _=>rfl) (fun x_=>?_) fun ys_1=>?_
 ·refine Ta (Ts (Tr (T0 rfl (T1 J1i (T15 [sZ f_,sZ x_,none] rfl rfl (tg:=fun x_1=> [sZ f_,sZ x_,sZ x_1]) (fun _=>rfl) (fun _=>rfl) (fun _=>rfl) (fun x_1=>?_) fun ys_=>?_)))))
  ·refine Tj (T0 rfl (T0 rfl (Tc J8 fun v_1=>?_)))
   exact T2 rfl
  exact T2 rfl
 exact T2 (.inl ⟨_,rfl,rfl⟩)
noncomputable def J5b:Sms:=(.cons (.ret (.lc [1] (.r1 (.blt .len (.e (.ix (.var 0) (.int 0)) .nil))) (.nm 1) .no (.lc [2] (.list (.var 0)) (.nm 2) .no (.ix (.var 2) (.var 1))))) .nil)
noncomputable def J5t:List D→Fo:=J21 3 [false] (exs [] J5b)
noncomputable def J41:Fn:=⟨"_law_turned",[.F],.O (.O .F),J5t,[],[],[], ""⟩
@[irreducible] noncomputable def J3d {α:Type} [Enc α] (a_:List (List α)):M ((List (List α))):=
 M.bind (atM a_ 0) fun v_=>
 M.bind (J2h 0 (v_.length:Int)) fun xs_=>
 M.bind (M.mapM xs_ (fun (x_:Int)=>M.bind (M.mapM a_ (fun (x_1:List α)=>M.bind (atM x_1 x_) fun v_1=>
 .ok v_1)) fun ys_=>
 .ok ys_)) fun ys_1=>
 .ok ys_1
theorem Je5 {α:Type} [Enc α] (a_:List (List α)):Jd (J5t [E a_]) (J3d a_) (fun b=>E b) (fun _=> [none]):=by
 refine Jd.of (Γ:= [some (E a_),none,none]) rfl ?_
 unfold J3d J5b
 refine To (Ts (T1g (Td (T6 (Tj (T0 rfl (T8 ?_)))))))
 refine Tc J8 fun v_=>?_
 refine T7 (T1 Jc (T1h J75 fun xs_=>?_))
 refine T15 [sZ a_,none,none] rfl rfl (tg:=fun x_=> [sZ a_,sZ x_,none]) (fun _=>rfl) (fun _=>rfl) (fun _=>rfl) (fun x_=>?_) fun ys_1=>?_
 ·refine Ts (Tr (T0 rfl (T1 J1i (T15 [sZ a_,sZ x_,none] rfl rfl (tg:=fun x_1=> [sZ a_,sZ x_,sZ x_1]) (fun _=>rfl) (fun _=>rfl) (fun _=>rfl) (fun x_1=>?_) fun ys_=>?_))))
  ·refine Tj (T0 rfl (T0 rfl (Tc J8 fun v_1=>?_)))
   exact T2 rfl
  exact T2 rfl
 exact T2 (.inl ⟨_,rfl,rfl⟩)
noncomputable def J3o:Sms:=(.cons (.ret (.frz (.lc [1] (.list (.var 0)) (.nm 1) .no (.blt .sum (.e (.var 1) .nil))))) .nil)
noncomputable def J1f:List D→Fo:=J21 2 [false] (exs [] J3o)
noncomputable def J11:Fn:=⟨"_law_rowsums",[.F],.F,J1f,[],[],[], ""⟩
@[irreducible] noncomputable def Jh (i_:List (List Int)):M ((List Int)):=
 .ok (i_.map fun (x_:List Int)=>x_.sum)
theorem J2t (i_:List (List Int)):Jd (J1f [E i_]) (Jh i_) (fun b=>E b) (fun _=> [none]):=by
 refine Jd.of (Γ:= [some (E i_),none]) rfl ?_
 unfold Jh J3o
 refine To (Ta (Ts (Tr (T0 rfl (T1 J1i (T12 [sZ i_,none] rfl rfl (f:=fun (x_:List Int)=>x_.sum) (tg:=fun x_=> [sZ i_,sZ x_]) (fun _=>rfl) (fun _=>rfl) (fun _=>rfl) (fun x_=>?_) ?_))))))
 ·exact Td (T6 (T0 rfl (T7 (T1 J4l (T2 rfl)))))
 exact T2 (.inl ⟨_,rfl,rfl⟩)
noncomputable def J2u:Sms:=(.cons (.ret (.frz (.lc [1] (.list (.frz (.call 0 (.e (.var 0) .nil)))) (.nm 1) .no (.blt .sum (.e (.var 1) .nil))))) .nil)
noncomputable def J13:List D→Fo:=J21 2 [false] (exs [J41] J2u)
noncomputable def Jr:Fn:=⟨"_law_columnsums",[.F],.F,J13,[],[],[], ""⟩
@[irreducible] noncomputable def Ja (i_:List (List Int)):M ((List Int)):=
 M.bind (J3d i_) fun v_=>
 .ok (v_.map fun (x_:List Int)=>x_.sum)
theorem J1y (i_:List (List Int)):Jd (J13 [E i_]) (Ja i_) (fun b=>E b) (fun _=> [none]):=by
 refine Jd.of (Γ:= [some (E i_),none]) rfl ?_
 unfold Ja J2u
 refine To (Ta (Ts (Tr (Ta (Tl (F:=J5t) (dds:= []) (g:=0) (f:=J41) rfl rfl rfl (T6 (T0 rfl ?_)))))))
 refine T7 (Te (Je5 i_) (g:=fun _=> [sZ i_,none]) (fun _=>rfl) (fun _ _=>trivial) fun v_=>?_)
 refine T1 J1i (T12 [sZ i_,none] rfl rfl (f:=fun (x_:List Int)=>x_.sum) (tg:=fun x_=> [sZ i_,sZ x_]) (fun _=>rfl) (fun _=>rfl) (fun _=>rfl) (fun x_=>?_) ?_)
 ·exact Td (T6 (T0 rfl (T7 (T1 J4l (T2 rfl)))))
 exact T2 (.inl ⟨_,rfl,rfl⟩)
noncomputable def J48:Sms:=(.cons (.asg (.nm 1) (.call 0 (.io 0 .nil))) (.cons (.asg (.nm 2) (.frz (.bor [true,false,false,false,false,false,false] (.call 1 (.io 0 (.e (.blt .len (.e (.var 1) .nil)) .nil)))))) (.cons (.asg (.nm 3) (.frz (.bor [true,false,false,false,false,false,false] (.call 1 (.io 0 (.e (.blt .len (.e (.ix (.var 1) (.int 0)) .nil)) .nil)))))) (.cons (.asg (.nm 4) (.frz (.call 1 (.io 0 (.e (.int 9) .nil))))) (.cons (.ite (.cmp .eq (.var 4) (.int 0)) (.cons (.ret (.frz (.lst .F .nil))) .nil) .nil) (.cons (.ite (.cmp .eq (.var 4) (.int 1)) (.cons (.ret (.frz (.lc [5] (.list (.fv 1)) (.nm 5) .no (.frz (.lst .F .nil))))) .nil) .nil) (.cons (.ite (.cmp .eq (.var 4) (.int 2)) (.cons (.at_ [.O (.O .Z),.F,.F,.F,.F,.X,.X] (.ret (.frz (.bin .cat (.var 1) (.frz (.lc [6] (.r1 (.bin .sub (.int 5) (.blt .len (.e (.var 1) .nil)))) (.nm 6) .no (.frz (.bin .rep (.lst .Z (.e (.int 0) .nil)) (.blt .len (.e (.ix (.var 1) (.int 0)) .nil)))))))))) .nil) .nil) (.cons (.ite (.cmp .eq (.var 4) (.int 3)) (.cons (.ret (.frz (.lc [5] (.list (.fv 1)) (.nm 5) .no (.frz (.bin .cat (.var 5) (.frz (.bin .rep (.lst .Z (.e (.int 0) .nil)) (.bin .sub (.int 7) (.blt .len (.e (.var 5) .nil)))))))))) .nil) .nil) (.cons (.ite (.cmp .eq (.var 4) (.int 4)) (.cons (.store (.nm 1) (.var 2) (.catP 1 [(.var 2)] (.lst .Z (.e (.int 0) .nil)))) .nil) .nil) (.cons (.ite (.cmp .eq (.var 4) (.int 5)) (.cons (.store (.nm 1) (.var 2) (.slP 1 [(.var 2)] none (some (.neg 1)))) .nil) .nil) (.cons (.ite (.cmp .eq (.var 4) (.int 6)) (.cons (.store (.ix (.nm 1) (.var 2)) (.var 3) (.bin .sub (.bin .sub (.int 0) (.int 1)) (.call 1 (.io 0 (.e (.int 3) .nil))))) .nil) .nil) (.cons (.ite (.cmp .eq (.var 4) (.int 7)) (.cons (.store (.ix (.nm 1) (.var 2)) (.var 3) (.bor [true,false,false,false,false,false,false] (.bin .add (.bin .sub (.bin .add (.ix (.ix (.var 1) (.var 2)) (.var 3)) (.int 40)) (.blt .sum (.e (.lc [5] (.list (.var 1)) (.nm 5) .no (.blt .sum (.e (.var 5) .nil))) .nil))) (.call 1 (.io 0 (.e (.int 3) .nil)))))) .nil) .nil) (.cons (.ret (.fv 1)) .nil)))))))))))))
noncomputable def J32:List D→Fo:=J21 7 [true] (exs [J29,J7] J48)
noncomputable def J1w:Fn:=⟨"_law_wild_rows",[.O (.O .Z)],.F,J32,[],[],[], ""⟩
@[irreducible] noncomputable def J1m (j_:Bag):M ((List (List Int)) × Bag):=
 M.bind (J3a j_) fun p_=>
 M.bind (M.bind (Jt p_.2 (p_.1.length:Int)) fun p_1=>
 .ok (p_1.1,p_1.2)) fun p_2=>
 M.bind (M.bind (atM p_.1 0) fun v_=>
 M.bind (Jt p_2.2 (v_.length:Int)) fun p_3=>
 .ok (p_3.1,p_3.2)) fun p_4=>
 M.bind (Jt p_4.2 9) fun p_5=>
 if decide (p_5.1=0)=true then
 (.ok (([]:List (List Int)),p_5.2))
 else
 (if decide (p_5.1=1)=true then
 (.ok ((p_.1.map fun (x_:List Int)=>([]:List Int)),p_5.2))
 else
 (if decide (p_5.1=2)=true then
 (M.bind (J2h 0 (5 - (p_.1.length:Int))) fun xs_=>
 M.bind (M.mapM xs_ (fun (x_1:Int)=>M.bind (atM p_.1 0) fun v_1=>
 M.bind (J6s ([0]:List Int) (v_1.length:Int)) fun v_2=>
 .ok v_2)) fun ys_=>
 M.bind (J6q p_.1 ys_) fun v_3=>
 .ok (v_3,p_5.2))
 else
 (if decide (p_5.1=3)=true then
 (M.bind (M.mapM p_.1 (fun (x_2:List Int)=>M.bind (J6s ([0]:List Int) (7 - (x_2.length:Int))) fun v_4=>
 M.bind (J6q x_2 v_4) fun v_5=>
 .ok v_5)) fun ys_1=>
 .ok (ys_1,p_5.2))
 else
 (M.bind (if decide (p_5.1=4)=true then (M.bind (atM p_.1 p_2.1) fun l_=>
 M.bind (J6q l_ ([0]:List Int)) fun zs_=>
 M.bind (M.opt (putO p_.1 p_2.1 zs_)) fun a_=>
 .ok a_) else (.ok p_.1)) fun s_=>
 M.bind (if decide (p_5.1=5)=true then (M.bind (atM s_ p_2.1) fun row_1=>
 M.bind (M.opt (putO s_ p_2.1 (J59 row_1 none (some (-1))))) fun block_1=>
 .ok block_1) else (.ok s_)) fun s_1=>
 M.bind (if decide (p_5.1=6)=true then (M.bind (Jt p_5.2 3) fun p_6=>
 M.bind (M.opt (up2 s_1 p_2.1 (fun row=>putO row p_4.1 ((0 - 1) - p_6.1)))) fun block_2=>
 .ok (block_2,p_6.2)) else (.ok (s_1,p_5.2))) fun s_2=>
 M.bind (if decide (p_5.1=7)=true then (M.bind (M.bind (atM s_2.1 p_2.1) fun v_6=>
 M.bind (atM v_6 p_4.1) fun v_7=>
 M.bind (Jt s_2.2 3) fun p_7=>
 .ok ((((v_7 + 40) - ((s_2.1.map fun (x_3:List Int)=>x_3.sum).sum)) + p_7.1),p_7.2)) fun p_8=>
 M.bind (M.opt (up2 s_2.1 p_2.1 (fun row=>putO row p_4.1 p_8.1))) fun block_3=>
 .ok (block_3,p_8.2)) else (.ok (s_2.1,s_2.2))) fun s_3=>
 .ok (s_3.1,s_3.2)))))
theorem J6c (j_:Bag):Jd (J32 [E j_]) (J1m j_) (fun b=>E b.1) (fun b=> [some (E b.2)]):=by
 refine Jd.of (Γ:= [some (E j_),none,none,none,none,none,none]) rfl ?_
 unfold J1m J48
 refine Tf (Tl (F:=J57) (dds:= []) (g:=0) (f:=J29) rfl rfl rfl (Tq (i:=0) (Γ1:= [none,none,none,none,none,none,none]) rfl rfl (T7 (Te (J8g j_) (g:=fun p_=> [sZ p_.2,none,none,none,none,none,none]) (fun _=>rfl) (fun _ _=>trivial) fun p_=>?_))))
 refine Tm (Γ:= [sZ p_.2,sZ p_.1,none,none,none,none,none]) rfl (Tf (Ta (T18 (v:=fun b=>E b.1) (g:=fun b=> [sZ b.2,sZ p_.1,none,none,none,none,none]) (g2:=fun b=> [sZ b.2,sZ p_.1,none,none,none,none,none]) ?_ (fun _=>rfl) fun p_2=>?_)))
 ·refine Ti (Tw (g:=1) (f:=J7) rfl (Tq (i:=0) (Γ1:= [none,sZ p_.1,none,none,none,none,none]) rfl rfl (T6 (Td (T6 (T0 rfl (T7 ?_)))))))
  refine T1 Jc (T7 (Te (Jz p_.2 (p_.1.length:Int)) (g:=fun p_1=> [sZ p_1.2,sZ p_.1,none,none,none,none,none]) (fun _=>rfl) (fun _ _=>trivial) fun p_1=>?_))
  exact T2 rfl
 refine Tm (Γ:= [sZ p_2.2,sZ p_.1,sZ p_2.1,none,none,none,none]) rfl (Tf (Ta (T18 (v:=fun b=>E b.1) (g:=fun b=> [sZ b.2,sZ p_.1,sZ p_2.1,none,none,none,none]) (g2:=fun b=> [sZ b.2,sZ p_.1,sZ p_2.1,none,none,none,none]) ?_ (fun _=>rfl) fun p_4=>?_)))
 ·refine Ti (Tw (g:=1) (f:=J7) rfl (Tq (i:=0) (Γ1:= [none,sZ p_.1,sZ p_2.1,none,none,none,none]) rfl rfl (T6 (Td (T6 (Tj (T0 rfl ?_)))))))
  refine T8 (Tc J8 fun v_=>?_)
  refine T7 (T1 Jc (T7 (Te (Jz p_2.2 (v_.length:Int)) (g:=fun p_3=> [sZ p_3.2,sZ p_.1,sZ p_2.1,none,none,none,none]) (fun _=>rfl) (fun _ _=>trivial) fun p_3=>?_)))
  exact T2 rfl
 refine Tm (Γ:= [sZ p_4.2,sZ p_.1,sZ p_2.1,sZ p_4.1,none,none,none]) rfl (Tf (Ta (Tw (g:=1) (f:=J7) rfl (Tq (i:=0) (Γ1:= [none,sZ p_.1,sZ p_2.1,sZ p_4.1,none,none,none]) rfl rfl (T6 (T8 (T7 ?_)))))))
 refine Te (Jz p_4.2 9) (g:=fun p_5=> [sZ p_5.2,sZ p_.1,sZ p_2.1,sZ p_4.1,none,none,none]) (fun _=>rfl) (fun _ _=>trivial) fun p_5=>?_
 refine Tm (Γ:= [sZ p_5.2,sZ p_.1,sZ p_2.1,sZ p_4.1,sZ p_5.1,none,none]) rfl (Tk (Th (T0 rfl (T8 (T1 op_eq (Tb (Tt ?_ ?_)))))))
 ·exact To (Ta (T14 (T7 (T1 (a:=E ([]:List (List Int))) rfl (T2 (.inl ⟨_,rfl,rfl⟩))))))
 ·refine T9 (Tk (Th (T0 rfl (T8 (T1 op_eq (Tb (Tt ?_ ?_)))))))
  ·refine To (Ta (Ts (Tr (T16 rfl (T1 J1i (T12 [sZ p_5.2,sZ p_.1,sZ p_2.1,sZ p_4.1,sZ p_5.1,none,none] rfl rfl (f:=fun (x_:List Int)=>([]:List Int)) (tg:=fun x_=> [sZ p_5.2,sZ p_.1,sZ p_2.1,sZ p_4.1,sZ p_5.1,sZ x_,none]) (fun _=>rfl) (fun _=>rfl) (fun _=>rfl) (fun x_=>?_) ?_))))))
   ·exact Ta (T14 (T7 (T1 (a:=E ([]:List Int)) rfl (T2 rfl))))
   exact T2 (.inl ⟨_,rfl,rfl⟩)
  ·refine T9 (Tk (Th (T0 rfl (T8 (T1 op_eq (Tb (Tt ?_ ?_)))))))
   ·refine T2b (To (Ta (Tn (T0 rfl (Ta (Ts (T1g ?_)))))))
    refine Tn (T8 (Td (T6 (T0 rfl (T7 (T1 Jc (T1 op_sub ?_)))))))
    refine T1h J75 fun xs_=>?_
    refine T15 [sZ p_5.2,sZ p_.1,sZ p_2.1,sZ p_4.1,sZ p_5.1,none,none] rfl rfl (tg:=fun x_1=> [sZ p_5.2,sZ p_.1,sZ p_2.1,sZ p_4.1,sZ p_5.1,none,sZ x_1]) (fun _=>rfl) (fun _=>rfl) (fun _=>rfl) (fun x_1=>?_) fun ys_=>?_
    ·refine Ta (Tn (T14 (T6 (T8 (T7 (T1 (a:=E ([0]:List Int)) rfl (Td ?_)))))))
     refine T6 (Tj (T0 rfl (T8 (Tc J8 fun v_1=>?_))))
     refine T7 (T1 Jc (Tc Jbs fun v_2=>?_))
     exact T2 rfl
    refine Tc J8x fun v_3=>?_
    exact T2 (.inl ⟨_,rfl,rfl⟩)
   ·refine T9 (Tk (Th (T0 rfl (T8 (T1 op_eq (Tb (Tt ?_ ?_)))))))
    ·refine To (Ta (Ts (Tr (T16 rfl (T1 J1i (T15 [sZ p_5.2,sZ p_.1,sZ p_2.1,sZ p_4.1,sZ p_5.1,none,none] rfl rfl (tg:=fun x_2=> [sZ p_5.2,sZ p_.1,sZ p_2.1,sZ p_4.1,sZ p_5.1,sZ x_2,none]) (fun _=>rfl) (fun _=>rfl) (fun _=>rfl) (fun x_2=>?_) fun ys_1=>?_))))))
     ·refine Ta (Tn (T0 rfl (Ta (Tn (T14 (T6 (T8 ?_)))))))
      refine T7 (T1 (a:=E ([0]:List Int)) rfl (Tn (T8 (Td (T6 (T0 rfl (T7 ?_)))))))
      refine T1 Jc (T1 op_sub (Tc Jbs fun v_4=>?_))
      refine Tc J8x fun v_5=>?_
      exact T2 rfl
     exact T2 (.inl ⟨_,rfl,rfl⟩)
    ·refine T9 (Tk (Th (T0 rfl (T8 (T1 op_eq (Tb (Tv (fun (s_: (List (List Int)))=> [sZ p_5.2,sZ s_,sZ p_2.1,sZ p_4.1,sZ p_5.1,none,none]) ?_ ?_ fun s_=>?_)))))))
     ·refine T1a (T2i p_.1 rfl rfl fun l_=>?_)
      refine T14 (T6 (T8 (T7 (T1 (a:=E ([0]:List Int)) rfl (T2j (Γ2:= [sZ p_5.2,sZ p_.1,sZ p_2.1,sZ p_4.1,sZ p_5.1,none,none]) rfl fun zs_=>?_)))))
      refine T13 (p:=putO p_.1 p_2.1 zs_) (G:=fun a_=> [sZ p_5.2,sZ a_,sZ p_2.1,sZ p_4.1,sZ p_5.1,none,none]) (Jap (h':=fun row=>putO row p_2.1 zs_) rfl rfl fun _=>J4e rfl _) fun a_=>?_
      exact T9 (T2 rfl)
     ·exact T9 (T2 rfl)
     refine Tk (Th (T0 rfl (T8 (T1 op_eq (Tb (Tv (fun (s_1: (List (List Int)))=> [sZ p_5.2,sZ s_1,sZ p_2.1,sZ p_4.1,sZ p_5.1,none,none]) ?_ ?_ fun s_1=>?_))))))
     ·refine T1a (T2h (l:=none) (h:=(some (-1))) s_ rfl rfl rfl rfl fun row_1=>?_)
      refine T13 (p:=putO s_ p_2.1 (J59 row_1 none (some (-1)))) (G:=fun block_1=> [sZ p_5.2,sZ block_1,sZ p_2.1,sZ p_4.1,sZ p_5.1,none,none]) (Jap (h':=fun row=>putO row p_2.1 (J59 row_1 none (some (-1)))) rfl rfl fun _=>J4e rfl _) fun block_1=>?_
      exact T9 (T2 rfl)
     ·exact T9 (T2 rfl)
     refine Tk (Th (T0 rfl (T8 (T1 op_eq (Tb (Tv (fun (s_2: (List (List Int)) × Bag)=> [sZ s_2.2,sZ s_2.1,sZ p_2.1,sZ p_4.1,sZ p_5.1,none,none]) ?_ ?_ fun s_2=>?_))))))
     ·refine T1a (Tn (Tn (T8 (T8 (T1 op_sub (Tw (g:=1) (f:=J7) rfl (Tq (i:=0) (Γ1:= [none,sZ s_1,sZ p_2.1,sZ p_4.1,sZ p_5.1,none,none]) rfl rfl ?_)))))))
      refine T6 (T8 (T7 (Te (Jz p_5.2 3) (g:=fun p_6=> [sZ p_6.2,sZ s_1,sZ p_2.1,sZ p_4.1,sZ p_5.1,none,none]) (fun _=>rfl) (fun _ _=>trivial) fun p_6=>?_)))
      refine T1 op_sub (T13 (p:=up2 s_1 p_2.1 (fun row=>putO row p_4.1 ((0 - 1) - p_6.1))) (G:=fun block_2=> [sZ p_6.2,sZ block_2,sZ p_2.1,sZ p_4.1,sZ p_5.1,none,none]) (J7s (h':=fun row=>putO row p_4.1 ((0 - 1) - p_6.1)) rfl rfl fun _=>J4e rfl _) fun block_2=>?_)
      exact T9 (T2 rfl)
     ·exact T9 (T2 rfl)
     refine Tk (Th (T0 rfl (T8 (T1 op_eq (Tb (Tv (fun (s_3: (List (List Int)) × Bag)=> [sZ s_3.2,sZ s_3.1,sZ p_2.1,sZ p_4.1,sZ p_5.1,none,none]) ?_ ?_ fun s_3=>?_))))))
     ·refine T1a (T18 (v:=fun b=>E b.1) (g:=fun b=> [sZ b.2,sZ s_2.1,sZ p_2.1,sZ p_4.1,sZ p_5.1,none,none]) (g2:=fun b=> [sZ b.2,sZ s_2.1,sZ p_2.1,sZ p_4.1,sZ p_5.1,none,none]) ?_ (fun _=>rfl) fun p_8=>?_)
      ·refine Ti (Tn (Tn (Tn (Tj (Tj (T0 rfl (T0 rfl ?_)))))))
       refine Tc J8 fun v_6=>?_
       refine T0 rfl (Tc J8 fun v_7=>?_)
       refine T8 (T1 op_add (Td (T6 (Ts (Tr (T0 rfl (T1 J1i ?_)))))))
       refine T12 [sZ s_2.2,sZ s_2.1,sZ p_2.1,sZ p_4.1,sZ p_5.1,none,none] rfl rfl (f:=fun (x_3:List Int)=>x_3.sum) (tg:=fun x_3=> [sZ s_2.2,sZ s_2.1,sZ p_2.1,sZ p_4.1,sZ p_5.1,sZ x_3,none]) (fun _=>rfl) (fun _=>rfl) (fun _=>rfl) (fun x_3=>?_) ?_
       ·exact Td (T6 (T0 rfl (T7 (T1 J4l (T2 rfl)))))
       refine T7 (T1 J4l (T1 op_sub (Tw (g:=1) (f:=J7) rfl (Tq (i:=0) (Γ1:= [none,sZ s_2.1,sZ p_2.1,sZ p_4.1,sZ p_5.1,none,none]) rfl rfl (T6 (T8 (T7 ?_)))))))
       refine Te (Jz s_2.2 3) (g:=fun p_7=> [sZ p_7.2,sZ s_2.1,sZ p_2.1,sZ p_4.1,sZ p_5.1,none,none]) (fun _=>rfl) (fun _ _=>trivial) fun p_7=>?_
       exact T1 op_add (T2 rfl)
      refine T13 (p:=up2 s_2.1 p_2.1 (fun row=>putO row p_4.1 p_8.1)) (G:=fun block_3=> [sZ p_8.2,sZ block_3,sZ p_2.1,sZ p_4.1,sZ p_5.1,none,none]) (J7s (h':=fun row=>putO row p_4.1 p_8.1) rfl rfl fun _=>J4e rfl _) fun block_3=>?_
      exact T9 (T2 rfl)
     ·exact T9 (T2 rfl)
     exact To (T16 rfl (T2 (.inl ⟨_,rfl,rfl⟩)))
noncomputable def J49:Sms:=(.cons (.ite (.or (.cmp .lt (.blt .len (.e (.var 0) .nil)) (.int 1)) (.or (.cmp .gt (.blt .len (.e (.var 0) .nil)) (.int 4)) (.or (.cmp .lt (.blt .len (.e (.ix (.var 0) (.int 0)) .nil)) (.int 1)) (.cmp .gt (.blt .len (.e (.ix (.var 0) (.int 0)) .nil)) (.int 6))))) (.cons (.ret (.bl false)) .nil) .nil) (.cons (.for_ (.list (.var 0)) (.nm 1) (.cons (.ite (.cmp .ne (.blt .len (.e (.var 1) .nil)) (.blt .len (.e (.ix (.var 0) (.int 0)) .nil))) (.cons (.ret (.bl false)) .nil) .nil) (.cons (.for_ (.list (.var 1)) (.nm 2) (.cons (.ite (.cmp .lt (.var 2) (.int 0)) (.cons (.ret (.bl false)) .nil) .nil) (.wipe [2] .nil))) (.wipe [1] .nil)))) (.cons (.ret (.cmp .le (.blt .sum (.e (.lc [1] (.list (.var 0)) (.nm 1) .no (.blt .sum (.e (.var 1) .nil))) .nil)) (.int 40))) .nil)))
noncomputable def J1n:List D→Fo:=J21 3 [false] (exs [] J49)
noncomputable def J17:Fn:=⟨"_law_good_rows",[.F],.Z,J1n,[],[],[], ""⟩
@[irreducible] noncomputable def Jg (a_:List (List Int)):M (Bool):=
 M.bind (M.bind (.ok (decide ((a_.length:Int) < 1))) fun b=>if b=true then .ok true else (M.bind (M.bind (.ok (decide (4 < (a_.length:Int)))) fun b=>if b=true then .ok true else (M.bind (M.bind (M.bind (atM a_ 0) fun v_=>
 .ok (decide ((v_.length:Int) < 1))) fun b=>if b=true then .ok true else (M.bind (atM a_ 0) fun v_1=>
 .ok (decide (6 < (v_1.length:Int))))) fun b_=>
 .ok b_)) fun b_1=>
 .ok b_1)) fun b_2=>
 if b_2=true then
 (.ok false)
 else
 (M.bind (M.foldC a_ () fun (s_:Unit) (x_:List Int)=>M.bind (atM a_ 0) fun v_2=>
 if (!decide ((x_.length:Int)= (v_2.length:Int)))=true then
 (.ok (.rt false))
 else
 (M.bind (M.foldC x_ () fun (s_1:Unit) (x_1:Int)=>if decide (x_1 < 0)=true then
 (.ok (.rt false))
 else
 (.ok (.nx ()))) fun c=>c.go (fun s_2=> .ok (.nx ())) (fun q=> .ok (.rt q)))) fun c=>c.go (fun s_3=> .ok (decide (((a_.map fun (x_2:List Int)=>x_2.sum).sum)≤40))) (M.ok))
theorem J33 (a_:List (List Int)):Jd (J1n [E a_]) (Jg a_) (fun b=>E b) (fun _=> [none]):=by
 refine Jd.of (Γ:= [some (E a_),none,none]) rfl ?_
 unfold Jg J49
 refine Tk (T11 ?_ ?_ fun b_2=>?_)
 ·refine Ti (Th (Td (T6 (T0 rfl (T7 (T1 Jc (T8 ?_)))))))
  exact T1 op_lt (Tb (T2 rfl))
 ·refine Ti (T11 ?_ ?_ fun b_1=>?_)
  ·refine Ti (Th (Td (T6 (T0 rfl (T7 (T1 Jc (T8 ?_)))))))
   exact T1 op_gt (Tb (T2 rfl))
  ·refine Ti (T11 ?_ ?_ fun b_=>?_)
   ·refine Ti (Th (Td (T6 (Tj (T0 rfl (T8 (Tc J8 fun v_=>?_)))))))
    exact T7 (T1 Jc (T8 (T1 op_lt (Tb (T2 rfl)))))
   ·refine Ti (Th (Td (T6 (Tj (T0 rfl (T8 (Tc J8 fun v_1=>?_)))))))
    exact T7 (T1 Jc (T8 (T1 op_gt (Tb (T2 rfl)))))
   exact T2 rfl
  exact T2 rfl
 refine Tt ?_ ?_
 ·exact To (T1i (T2 (.inl ⟨_,rfl,rfl⟩)))
 ·refine T9 (T19 (Tr (T0 rfl (T1 J1i (T1j (fun (s_:Unit)=> [sZ a_,none,none]) (fun (q:Bool) d Γ=>d=E q∧J45 [false] Γ= [none]) (tg:=fun (s_:Unit) (x_:List Int)=> [sZ a_,sZ x_,none]) rfl (fun _ _=>rfl) (fun s_ x_=>?_) (fun q d Γ h=>T2 (.inl ⟨Γ,by rw [h.1],h.2⟩)) fun s_3=>?_)))))
  ·refine Tk (Th (Td (T6 (T0 rfl (T7 (T1 Jc (Td ?_)))))))
   refine T6 (Tj (T0 rfl (T8 (Tc J8 fun v_2=>?_))))
   refine T7 (T1 Jc (T1 op_ne (Tb (Tt ?_ ?_))))
   ·exact To (T1i (T2 ⟨_,_,rfl,rfl,rfl⟩))
   ·refine T9 (T19 (Tr (T0 rfl (T1 J1i (T1j (fun (s_1:Unit)=> [sZ a_,sZ x_,none]) (fun (q:Bool) d Γ=>d=E q∧J45 [false] Γ= [none]) (tg:=fun (s_1:Unit) (x_1:Int)=> [sZ a_,sZ x_,sZ x_1]) rfl (fun _ _=>rfl) (fun s_1 x_1=>?_) (fun q d Γ h=>T2 ⟨d,Γ,rfl,h⟩) fun s_2=>?_)))))
    ·refine Tk (Th (T0 rfl (T8 (T1 op_lt (Tb (Tt ?_ ?_))))))
     ·exact To (T1i (T2 ⟨_,_,rfl,rfl,rfl⟩))
     ·exact T9 (T10 (Γ1:= [sZ a_,sZ x_,none]) rfl (T9 (T2 (.inl rfl))))
    exact T10 (Γ1:= [sZ a_,none,none]) rfl (T9 (T2 (.inl rfl)))
  refine To (T1f (Td (T6 (Ts (Tr (T0 rfl (T1 J1i ?_)))))))
  refine T12 [sZ a_,none,none] rfl rfl (f:=fun (x_2:List Int)=>x_2.sum) (tg:=fun x_2=> [sZ a_,sZ x_2,none]) (fun _=>rfl) (fun _=>rfl) (fun _=>rfl) (fun x_2=>?_) ?_
  ·exact Td (T6 (T0 rfl (T7 (T1 J4l (T2 rfl)))))
  exact T7 (T1 J4l (T8 (T1 op_le (T2 (.inl ⟨_,rfl,rfl⟩)))))
noncomputable def J6t:Sms:=(.cons (.for_ (.enum (.var 0)) (.tup (.cons (.nm 2) (.cons (.nm 3) .nil))) (.cons (.ite (.cmp .gt (.bin .mul (.var 3) (.var 1)) (.int 0)) (.cons (.ret (.flat (.var 2))) .nil) .nil) (.wipe [2,3] .nil))) (.cons (.ret .non) .nil))
noncomputable def J4n:List D→Fo:=J21 4 [false,false] (exs [] J6t)
noncomputable def J2y:Fn:=⟨"first_of",[.F,.F],.Z,J4n,[],[],[], ""⟩
@[irreducible] noncomputable def J1b (l_:List Int) (m_:Int):M ((Option Int)):=
 M.bind (M.foldC (J1d 0 l_) () fun (s_:Unit) (x_:Int × Int)=>M.bind (Jbo x_.2 m_) fun v_=>
 if decide (0 < v_)=true then
 (.ok (.rt (some x_.1)))
 else
 (.ok (.nx ()))) fun c=>c.go (fun s_1=> .ok (none:Option Int)) (M.ok)
theorem J7u (l_:List Int) (m_:Int):Jd (J4n [E l_,E m_]) (J1b l_ m_) (fun b=>E b) (fun _=> [none,none]):=by
 refine Jd.of (Γ:= [some (E l_),some (E m_),none,none]) rfl ?_
 unfold J1b J6t
 refine T19 (T1o (T0 rfl (T1 Jbq (T1j (fun (s_:Unit)=> [sZ l_,sZ m_,none,none]) (fun (q:Option Int) d Γ=>d=E q∧J45 [false,false] Γ= [none,none]) (tg:=fun (s_:Unit) (x_:Int × Int)=> [sZ l_,sZ m_,sZ x_.1,sZ x_.2]) rfl (fun _ _=>rfl) (fun s_ x_=>?_) (fun q d Γ h=>T2 (.inl ⟨Γ,by rw [h.1],h.2⟩)) fun s_1=>?_))))
 ·refine Tk (Th (Tn (T0 rfl (T0 rfl (Tc Jo8 fun v_=>?_)))))
  refine T8 (T1 op_gt (Tb (Tt ?_ ?_)))
  ·exact To (T1c (T0 rfl (T1 (J38 rfl) (T2 ⟨_,_,rfl,rfl,rfl⟩))))
  ·exact T9 (T10 (Γ1:= [sZ l_,sZ m_,none,none]) rfl (T9 (T2 (.inl rfl))))
 exact To (T1e (T2 (.inl ⟨_,rfl,rfl⟩)))
noncomputable def Jbu:Sms:=(.cons (.asg2 1 2 (.frz .non)) (.wipe [2] (.cons (.for_ (.enum (.var 0)) (.tup (.cons (.nm 3) (.cons (.nm 4) .nil))) (.cons (.asg (.nm 2) (.frz (.call 0 (.e (.var 4) (.e (.frz (.int 1)) .nil))))) (.cons (.ite (.cmp .notN (.var 2) .non) (.cons (.asg (.nm 1) (.var 3)) (.wipe [2,3,4] (.cons .brk .nil))) .nil) (.wipe [2,3,4] .nil)))) (.cons (.ite (.cmp .isN (.var 1) .non) (.cons (.ret (.frz .non)) .nil) .nil) (.cons (.asg (.nm 5) (.call 1 (.e (.var 0) .nil))) (.cons (.asg (.nm 6) (.dnew .F)) (.cons (.asg (.nm 7) (.lst .F .nil)) (.cons (.whl (fun _=>1000000000000) (.bor [false,false,false,false,false,false,false,false] (.din false (.var 1) (.var 6))) (.cons (.dput (.nm 6) (.var 1) (.frz (.bor [false,false,false,false,false,false,false,false] (.blt .len (.e (.var 7) .nil))))) (.cons (.asg (.nm 2) (.frz (.call 0 (.e (.ix (.var 0) (.var 1)) (.e (.frz (.int 1)) .nil))))) (.cons (.expr (.app 7 (.frz (.tup .Z (.e (.flat (.var 1)) (.e (.flat (.var 2)) .nil)))))) (.cons (.asg (.nm 1) (.frz (.call 0 (.e (.ix (.var 5) (.var 2)) (.e (.frz (.neg (.int 1))) .nil))))) (.cons (.expr (.app 7 (.frz (.tup .Z (.e (.flat (.var 1)) (.e (.flat (.var 2)) .nil)))))) (.wipe [2] .nil))))))) (.cons (.ret (.frz (.slE (.fv 7) (.dget (.fv 6) (.var 1))))) .nil)))))))))
noncomputable def Jas:List D→Fo:=J21 8 [false] (exs [J2y,J1e] Jbu)
noncomputable def J77:Fn:=⟨"ring",[.F],.F,Jas,[],[],[], ""⟩
@[irreducible] noncomputable def J4o (c_:List (List Int)):M ((Option (List (Int × Int)))):=
 M.bind (M.foldC (J1d 0 c_) (none:Option Int) fun (s_: (Option Int)) (x_:Int × (List Int))=>M.bind (J1b x_.2 1) fun v_=>
 M.optc v_ (.ok (.nx s_)) (fun to_=>M.bind (.ok ((some x_.1):Option Int)) fun at_=>
 .ok (.bk at_))) fun c=>c.go (fun s_1=>M.optc s_1 (.ok (none:Option (List (Int × Int)))) (fun at_1=>M.bind (J1q c_) fun v_1=>
 M.bind (.ok ((Dc.mk []:Dc Int Int):Dc Int Int)) fun n_=>
 M.bind (.ok (([]:List (Int × Int)):List (Int × Int))) fun g_=>
 M.bind (M.whl 1000000000000 (n_,g_,at_1) (fun (s_2: (Dc Int Int) × (List (Int × Int)) × Int)=>M.bind (.ok (!(Dc.lk s_2.1.l s_2.2.2).isSome)) fun b_=>
 .ok b_) (fun (s_2: (Dc Int Int) × (List (Int × Int)) × Int)=>M.bind (.ok (s_2.2.1.length:Int)) fun v_2=>
 M.bind (J8y s_2.1 (s_2.2.2:Int) (v_2:Int)) fun seen_1=>
 M.bind (atM c_ s_2.2.2) fun v_3=>
 M.bind (J1b v_3 1) fun v_4=>
 M.bind (M.opt v_4) fun to_1=>
 M.bind (M.opt (J39 s_2.2.1 (s_2.2.2,to_1))) fun cells_1=>
 M.bind (atM v_1 to_1) fun v_5=>
 M.bind (J1b v_5 (-1)) fun v_6=>
 M.bind (M.opt v_6) fun at_2=>
 M.bind (M.opt (J39 cells_1 (at_2,to_1))) fun cells_2=>
 .ok (seen_1,cells_2,at_2))) fun s_3=>
 M.bind (M.opt (Dc.lk s_3.1.l s_3.2.2)) fun v_7=>
 .ok (some (J59 s_3.2.1 (some v_7) none)))) (M.ok)
theorem Jj4 (c_:List (List Int)):Jd (Jas [E c_]) (J4o c_) (fun b=>E b) (fun _=> [none]):=by
 refine Jd.of (Γ:= [some (E c_),none,none,none,none,none,none,none]) rfl ?_
 unfold J4o Jbu
 refine T2t (Ta (T1e (Tm (Γ:= [sZ c_,some (E (none:Option Int)),some (E (none:Option Int)),none,none,none,none,none]) rfl (T10 (Γ1:= [sZ c_,some (E (none:Option Int)),none,none,none,none,none,none]) rfl (T19 (T1o (T0 rfl ?_)))))))
 refine T1 Jbq (T1j (fun (s_: (Option Int))=> [sZ c_,sZ s_,none,none,none,none,none,none]) (fun (q:Option (List (Int × Int))) d Γ=>d=E q∧J45 [false] Γ= [none]) (tg:=fun (s_: (Option Int)) (x_:Int × (List Int))=> [sZ c_,sZ s_,none,sZ x_.1,sZ x_.2,none,none,none]) rfl (fun _ _=>rfl) (fun s_ x_=>?_) (fun q d Γ h=>T2 (.inl ⟨Γ,by rw [h.1],h.2⟩)) fun s_1=>?_)
 ·refine Tf (Ta (Tl (F:=J4n) (dds:= []) (g:=0) (f:=J2y) rfl rfl rfl (T6 (T0 rfl (T6 (Ta (T8 ?_)))))))
  refine T7 (Te (J7u x_.2 1) (g:=fun _=> [sZ c_,sZ s_,none,sZ x_.1,sZ x_.2,none,none,none]) (fun _=>rfl) (fun _ _=>trivial) fun v_=>?_)
  refine Tm (Γ:= [sZ c_,sZ s_,sZ v_,sZ x_.1,sZ x_.2,none,none,none]) rfl (Tk (Th (T0 rfl (T1e (T1 (op_notN fun _=>rfl) (Tb (T2g ?_ ?_)))))))
  ·intro to_ e__
   subst e__
   refine Tf (T0 rfl (Tp (a:=((some x_.1):Option Int)) (fun at_=> [sZ c_,sZ at_,sZ to_,sZ x_.1,sZ x_.2,none,none,none]) rfl fun at_=>?_))
   exact T10 (Γ1:= [sZ c_,sZ at_,none,none,none,none,none,none]) rfl (T29 (T2 rfl))
  ·intro e__
   subst e__
   exact T9 (T10 (Γ1:= [sZ c_,sZ s_,none,none,none,none,none,none]) rfl (T9 (T2 (.inl rfl))))
 refine Tk (Th (T0 rfl (T1e (T1 (op_isN fun _=>rfl) (Tb (T2f ?_ ?_))))))
 ·intro e__
  subst e__
  exact To (Ta (T1e (T2 (.inl ⟨_,rfl,rfl⟩))))
 ·intro at_1 e__
  subst e__
  refine T9 (Tf (Tl (F:=J40) (dds:= []) (g:=1) (f:=J1e) rfl rfl rfl (T6 (T0 rfl (T7 (Te (J7z c_) (g:=fun _=> [sZ c_,sZ at_1,none,none,none,none,none,none]) (fun _=>rfl) (fun _ _=>trivial) fun v_1=>?_))))))
  refine Tm (Γ:= [sZ c_,sZ at_1,none,none,none,sZ v_1,none,none]) rfl (Tf (T2l (α:=Int) (γ:=Int) (Tp (a:=((Dc.mk []:Dc Int Int):Dc Int Int)) (fun n_=> [sZ c_,sZ at_1,none,none,none,sZ v_1,sZ n_,none]) rfl fun n_=>?_)))
  refine Tf (T14 (T7 (T1 (a:=E ([]:List (Int × Int))) rfl (Tp (a:=(([]:List (Int × Int)):List (Int × Int))) (fun g_=> [sZ c_,sZ at_1,none,none,none,sZ v_1,sZ n_,sZ g_]) rfl fun g_=>?_))))
  refine T21 (N:=1000000000000) (fun (s_2: (Dc Int Int) × (List (Int × Int)) × Int)=> [sZ c_,sZ s_2.2.2,none,none,none,sZ v_1,sZ s_2.1,sZ s_2.2.1]) rfl rfl (fun s_2=>?_) (fun s_2=>?_) fun s_3=>?_
  ·refine T22 (g2:=fun _=> [sZ c_,sZ s_2.2.2,none,none,none,sZ v_1,sZ s_2.1,sZ s_2.2.1]) ?_ (fun _=>rfl) fun b_=>?_
   ·exact Ti (T2o (T0 rfl (T0 rfl (T1 Jof (Tb (T2 rfl))))))
   exact T2 rfl
  ·refine T2p (Ta (T18 (v:=fun b=>E b) (g:=fun _=> [sZ c_,sZ s_2.2.2,none,none,none,sZ v_1,sZ s_2.1,sZ s_2.2.1]) (g2:=fun _=> [sZ c_,sZ s_2.2.2,none,none,none,sZ v_1,sZ s_2.1,sZ s_2.2.1]) ?_ (fun _=>rfl) fun v_2=>?_))
   ·exact Ti (Td (T6 (T0 rfl (T7 (T1 Jc (T2 rfl))))))
   refine T2q (d:=s_2.1) (Γ0:= [sZ c_,sZ s_2.2.2,none,none,none,sZ v_1,none,sZ s_2.2.1]) rfl rfl (T0 rfl (T2r (y:=(v_2:Int)) (kk:=(s_2.2.2:Int)) rfl rfl (fun seen_1=>rfl) fun seen_1=>?_))
   refine Tf (Ta (Tl (F:=J4n) (dds:= []) (g:=0) (f:=J2y) rfl rfl rfl (T6 (Tj (T0 rfl (T0 rfl (Tc J8 fun v_3=>?_)))))))
   refine T6 (Ta (T8 (T7 (Te (J7u v_3 1) (g:=fun _=> [sZ c_,sZ s_2.2.2,none,none,none,sZ v_1,sZ seen_1,sZ s_2.2.1]) (fun _=>rfl) (fun _ _=>trivial) fun v_4=>?_))))
   refine Tm (Γ:= [sZ c_,sZ s_2.2.2,sZ v_4,none,none,sZ v_1,sZ seen_1,sZ s_2.2.1]) rfl (T1t (o:=v_4) fun to_1 hto_1=>?_)
   rw [hto_1]
   refine T1r (xs:=s_2.2.1) rfl (Ta (T1l (T6 (T1c (T0 rfl (T1 (J38 rfl) (T6 ?_)))))))
   refine T1c (T0 rfl (T1 (J38 rfl) (T7 (T1 (a:=E ((s_2.2.2,to_1):Int × Int)) rfl (T13 (p:=J39 s_2.2.1 (s_2.2.2,to_1)) (G:=fun cells_1=> [sZ c_,sZ s_2.2.2,sZ to_1,none,none,sZ v_1,sZ seen_1,sZ cells_1]) (Jap (h':=fun xs=>J39 xs (s_2.2.2,to_1)) rfl rfl fun _=>Jgw _) fun cells_1=>?_)))))
   refine Tf (Ta (Tl (F:=J4n) (dds:= []) (g:=0) (f:=J2y) rfl rfl rfl (T6 (Tj (T0 rfl (T0 rfl (Tc J8 fun v_5=>?_)))))))
   refine T6 (Ta (T25 (T8 (T1 Jqw (T7 (Te (J7u v_5 (-1)) (g:=fun _=> [sZ c_,sZ s_2.2.2,sZ to_1,none,none,sZ v_1,sZ seen_1,sZ cells_1]) (fun _=>rfl) (fun _ _=>trivial) fun v_6=>?_))))))
   refine Tm (Γ:= [sZ c_,sZ v_6,sZ to_1,none,none,sZ v_1,sZ seen_1,sZ cells_1]) rfl (T1t (o:=v_6) fun at_2 hat_2=>?_)
   rw [hat_2]
   refine T1r (xs:=cells_1) rfl (Ta (T1l (T6 (T1c (T0 rfl (T1 (J38 rfl) (T6 ?_)))))))
   refine T1c (T0 rfl (T1 (J38 rfl) (T7 (T1 (a:=E ((at_2,to_1):Int × Int)) rfl (T13 (p:=J39 cells_1 (at_2,to_1)) (G:=fun cells_2=> [sZ c_,sZ at_2,sZ to_1,none,none,sZ v_1,sZ seen_1,sZ cells_2]) (Jap (h':=fun xs=>J39 xs (at_2,to_1)) rfl rfl fun _=>Jgw _) fun cells_2=>?_)))))
   exact T10 (Γ1:= [sZ c_,sZ at_2,none,none,none,sZ v_1,sZ seen_1,sZ cells_2]) rfl (T9 (T2 (.inl rfl)))
  refine To (Ta (T2s (T16 rfl (T2m (T16 rfl (T0 rfl (Tc Jll fun v_7=>?_)))))))
  exact T1 Jiw (T2 (.inl ⟨_,rfl,rfl⟩))
noncomputable def J8h:Sms:=(.cons (.asg (.tup (.cons (.nm 2) (.cons (.nm 3) .nil))) (.var 1)) (.cons (.setLc 4 [5] (.list (.var 0)) (.nm 5) .no (.blt .list (.e (.var 5) .nil))) (.cons (.for_ (.enum (.var 3)) (.tup (.cons (.nm 6) (.cons (.tup (.cons (.nm 7) (.cons (.nm 8) .nil))) .nil))) (.cons (.aug .add (.ix (.nm 4) (.var 7)) (.var 8) (.ifE (.cmp .eq (.bin .mod (.var 6) (.int 2)) (.int 0)) (.flat (.var 2)) (.bin .sub (.int 0) (.var 2)))) (.wipe [6,7,8] .nil))) (.cons (.ret (.fv 4)) .nil))))
noncomputable def J9u:List D→Fo:=J21 9 [false,false] (exs [] J8h)
noncomputable def J6d:Fn:=⟨"walked",[.F,.F],.F,J9u,[],[],[], ""⟩
@[irreducible] noncomputable def J4a (f_:List (List Int)) (h_:Int × (List (Int × Int))):M ((List (List Int))):=
 M.bind (.ok ((f_.map fun (x_:List Int)=>x_):List (List Int))) fun told_=>
 M.bind (M.fold (J1d 0 h_.2) told_ fun (s_: (List (List Int))) (x_1:Int × (Int × Int))=>M.bind (M.bind (M.bind (Jbp x_1.1 2) fun v_=>
 if decide (v_=0)=true then (.ok h_.1) else (.ok (0 - h_.1))) fun v_1=>
 .ok v_1) fun y_=>
 M.bind (M.opt (up2 s_ x_1.2.1 (J4w (fun i j=>i + j) x_1.2.2 y_))) fun told_1=>
 .ok told_1) fun s_1=>
 .ok s_1
theorem Jlm (f_:List (List Int)) (h_:Int × (List (Int × Int))):Jd (J9u [E f_,E h_]) (J4a f_ h_) (fun b=>E b) (fun _=> [none,none]):=by
 refine Jd.of (Γ:= [some (E f_),some (E h_),none,none,none,none,none,none,none]) rfl ?_
 unfold J4a J8h
 refine T1z (T0 rfl (T1 (a:= [sZ f_,sZ h_,sZ h_.1,sZ h_.2,none,none,none,none,none]) rfl (T1s (Tr (T0 rfl (T1 J1i (T12 [sZ f_,sZ h_,sZ h_.1,sZ h_.2,none,none,none,none,none] rfl rfl (f:=fun (x_:List Int)=>x_) (tg:=fun x_=> [sZ f_,sZ h_,sZ h_.1,sZ h_.2,none,sZ x_,none,none,none]) (fun _=>rfl) (fun _=>rfl) (fun _=>rfl) (fun x_=>?_) ?_)))))))
 ·exact Td (T6 (T0 rfl (T7 (T1 Jf9 (T2 rfl)))))
 refine Tp (a:=((f_.map fun (x_:List Int)=>x_):List (List Int))) (fun told_=> [sZ f_,sZ h_,sZ h_.1,sZ h_.2,sZ told_,none,none,none,none]) rfl fun told_=>?_
 refine T19 (T1o (T0 rfl (T1 Jbq (T1q (fun (s_: (List (List Int)))=> [sZ f_,sZ h_,sZ h_.1,sZ h_.2,sZ s_,none,none,none,none]) (tg:=fun (s_: (List (List Int))) (x_1:Int × (Int × Int))=> [sZ f_,sZ h_,sZ h_.1,sZ h_.2,sZ s_,none,sZ x_1.1,sZ x_1.2.1,sZ x_1.2.2]) rfl (fun _ _=>rfl) (fun s_ x_1=>?_) fun s_1=>?_))))
 ·refine T2u rfl rfl rfl rfl rfl ?_ (fun told_1=> [sZ f_,sZ h_,sZ h_.1,sZ h_.2,sZ told_1,none,sZ x_1.1,sZ x_1.2.1,sZ x_1.2.2]) (fun _=>rfl) fun y_ told_1=>?_
  ·refine T2c (v:=fun s=>E s) ?_ fun v_1=>?_
   ·refine Th (Tn (T0 rfl (T8 (Tc Jo9 fun v_=>?_))))
    refine T8 (T1 op_eq (Tb (T2d ?_ ?_)))
    ·exact T1c (T0 rfl (T1 (J38 rfl) (T2 rfl)))
    ·exact Tn (T8 (T0 rfl (T1 op_sub (T2 rfl))))
   exact T2 rfl
  exact T10 (Γ1:= [sZ f_,sZ h_,sZ h_.1,sZ h_.2,sZ told_1,none,none,none,none]) rfl (T9 (T2 (.inl rfl)))
 exact To (T16 rfl (T2 (.inl ⟨_,rfl,rfl⟩)))
noncomputable def J9v:Sms:=(.cons (.ite (.or (.not (.val (.call 0 (.e (.var 0) .nil)))) (.not (.val (.call 0 (.e (.var 1) .nil))))) (.cons (.raise "BadTable" "table") .nil) .nil) (.cons (.ite (.or (.cmp .ne (.blt .len (.e (.var 0) .nil)) (.blt .len (.e (.var 1) .nil))) (.cmp .ne (.blt .len (.e (.ix (.var 0) (.int 0)) .nil)) (.blt .len (.e (.ix (.var 1) (.int 0)) .nil)))) (.cons (.raise "BadSums" "sums") .nil) .nil) (.cons (.asg (.nm 2) (.frz (.lc [3,4] (.zip (.var 0) (.var 1)) (.tup (.cons (.nm 3) (.cons (.nm 4) .nil))) .no (.frz (.lc [5,6] (.zip (.var 3) (.var 4)) (.tup (.cons (.nm 5) (.cons (.nm 6) .nil))) .no (.bin .sub (.var 6) (.var 5))))))) (.cons (.ite (.val (.blt .any (.e (.lc [3] (.list (.frz (.bin .cat (.var 2) (.call 1 (.e (.var 2) .nil))))) (.nm 3) .no (.cmp .ne (.blt .sum (.e (.var 3) .nil)) (.int 0))) .nil))) (.cons (.raise "BadSums" "sums") .nil) .nil) (.cons (.asg (.nm 7) (.lst .F .nil)) (.cons (.asg (.nm 8) (.call 2 (.e (.var 2) .nil))) (.cons (.whl (fun _=>1000000000000) (.cmp .notN (.var 8) .non) (.cons (.asg (.nm 9) (.frz (.blt .min (.e (.lc [10,11] (.list (.var 8)) (.tup (.cons (.nm 10) (.cons (.nm 11) .nil))) .no (.blt .abs (.e (.ix (.ix (.var 2) (.var 10)) (.var 11)) .nil))) .nil)))) (.cons (.expr (.app 7 (.frz (.tup .F (.e (.var 9) (.e (.var 8) .nil)))))) (.cons (.asg (.nm 2) (.call 3 (.e (.var 2) (.e (.frz (.tup .F (.e (.frz (.bin .sub (.int 0) (.var 9))) (.e (.var 8) .nil)))) .nil)))) (.cons (.asg (.nm 8) (.call 2 (.e (.var 2) .nil))) (.wipe [9] .nil)))))) (.cons (.ret (.fv 7)) .nil))))))))
noncomputable def J8z:List D→Fo:=J21 12 [false,false] (exs [J3c,J1e,J77,J6d] J9v)
noncomputable def J5u:Fn:=⟨"loops",[.F,.F],.F,J8z,[],[],[], ""⟩
@[irreducible] noncomputable def J2z (one_:List (List Int)) (d_:List (List Int)):M ((List (Int × (List (Int × Int))))):=
 M.bind (M.bind (M.bind (J19 one_) fun v_=>
 .ok (!v_)) fun b=>if b=true then .ok true else (M.bind (J19 d_) fun v_1=>
 .ok (!v_1))) fun b_=>
 if b_=true then
 (.exc (xc "BadTable" "table"))
 else
 (M.bind (M.bind (.ok (!decide ((one_.length:Int)= (d_.length:Int)))) fun b=>if b=true then .ok true else (M.bind (atM one_ 0) fun v_2=>
 M.bind (atM d_ 0) fun v_3=>
 .ok (!decide ((v_2.length:Int)= (v_3.length:Int))))) fun b_1=>
 if b_1=true then
 (.exc (xc "BadSums" "sums"))
 else
 (M.bind (.ok (((one_.zip d_).map fun (x_: (List Int) × (List Int))=>((x_.1.zip x_.2).map fun (x_1:Int × Int)=>(x_1.2 - x_1.1))):List (List Int))) fun c_=>
 M.bind (J1q c_) fun v_4=>
 M.bind (J6q c_ v_4) fun v_5=>
 if ((v_5.map fun (x_2:List Int)=>(!decide (x_2.sum=0))).any id)=true then
 (.exc (xc "BadSums" "sums"))
 else
 (M.bind (.ok (([]:List (Int × (List (Int × Int)))):List (Int × (List (Int × Int))))) fun k_=>
 M.bind (J4o c_) fun v_6=>
 M.bind (M.whl 1000000000000 (k_,c_,v_6) (fun (s_: (List (Int × (List (Int × Int)))) × (List (List Int)) × (Option (List (Int × Int))))=> .ok s_.2.2.isSome) (fun (s_: (List (Int × (List (Int × Int)))) × (List (List Int)) × (Option (List (Int × Int))))=>M.bind (M.opt s_.2.2) fun g_=>
 M.bind (M.mapM g_ (fun (x_3:Int × Int)=>M.bind (atM s_.2.1 x_3.1) fun v_7=>
 M.bind (atM v_7 x_3.2) fun v_8=>
 .ok (J30 v_8))) fun ys_=>
 M.bind (J9s ys_) fun v_9=>
 M.bind (M.opt (J39 s_.1 (v_9,g_))) fun found_1=>
 M.bind (J4a s_.2.1 ((0 - v_9),g_)) fun v_10=>
 M.bind (J4o v_10) fun v_11=>
 .ok (found_1,v_10,v_11))) fun s_1=>
 .ok s_1.1)))
theorem Jfe (one_:List (List Int)) (d_:List (List Int)):Jd (J8z [E one_,E d_]) (J2z one_ d_) (fun b=>E b) (fun _=> [none,none]):=by
 refine Jd.of (Γ:= [some (E one_),some (E d_),none,none,none,none,none,none,none,none,none,none]) rfl ?_
 unfold J2z J9v
 refine Tk (T11 ?_ ?_ fun b_=>?_)
 ·refine Ti (T17 (T1d (Tl (F:=J53) (dds:= []) (g:=0) (f:=J3c) rfl rfl rfl (T6 (T0 rfl (T7 (Te (J96 one_) (g:=fun _=> [sZ one_,sZ d_,none,none,none,none,none,none,none,none,none,none]) (fun _=>rfl) (fun _ _=>trivial) fun v_=>?_)))))))
  exact Tb (T2 rfl)
 ·refine Ti (T17 (T1d (Tl (F:=J53) (dds:= []) (g:=0) (f:=J3c) rfl rfl rfl (T6 (T0 rfl (T7 (Te (J96 d_) (g:=fun _=> [sZ one_,sZ d_,none,none,none,none,none,none,none,none,none,none]) (fun _=>rfl) (fun _ _=>trivial) fun v_1=>?_)))))))
  exact Tb (T2 rfl)
 refine Tt ?_ ?_
 ·exact T1p (trivial)
 ·refine T9 (Tk (T11 ?_ ?_ fun b_1=>?_))
  ·refine Ti (Th (Td (T6 (T0 rfl (T7 (T1 Jc (Td ?_)))))))
   exact T6 (T0 rfl (T7 (T1 Jc (T1 op_ne (Tb (T2 rfl))))))
  ·refine Ti (Th (Td (T6 (Tj (T0 rfl (T8 (Tc J8 fun v_2=>?_)))))))
   refine T7 (T1 Jc (Td (T6 (Tj (T0 rfl (T8 (Tc J8 fun v_3=>?_)))))))
   exact T7 (T1 Jc (T1 op_ne (Tb (T2 rfl))))
  refine Tt ?_ ?_
  ·exact T1p (trivial)
  ·refine T9 (Tf (Ta (Ts (T1y (T0 rfl (T0 rfl (T1 Jix ?_)))))))
   refine T12 [sZ one_,sZ d_,none,none,none,none,none,none,none,none,none,none] rfl rfl (f:=fun (x_: (List Int) × (List Int))=>((x_.1.zip x_.2).map fun (x_1:Int × Int)=>(x_1.2 - x_1.1))) (tg:=fun x_=> [sZ one_,sZ d_,none,sZ x_.1,sZ x_.2,none,none,none,none,none,none,none]) (fun _=>rfl) (fun _=>rfl) (fun _=>rfl) (fun x_=>?_) ?_
   ·refine Ta (Ts (T1y (T0 rfl (T0 rfl (T1 Jix (T12 [sZ one_,sZ d_,none,sZ x_.1,sZ x_.2,none,none,none,none,none,none,none] rfl rfl (f:=fun (x_1:Int × Int)=>(x_1.2 - x_1.1)) (tg:=fun x_1=> [sZ one_,sZ d_,none,sZ x_.1,sZ x_.2,sZ x_1.1,sZ x_1.2,none,none,none,none,none]) (fun _=>rfl) (fun _=>rfl) (fun _=>rfl) (fun x_1=>?_) ?_))))))
    ·exact Tn (T0 rfl (T0 rfl (T1 op_sub (T2 rfl))))
    exact T2 rfl
   refine Tp (a:=(((one_.zip d_).map fun (x_: (List Int) × (List Int))=>((x_.1.zip x_.2).map fun (x_1:Int × Int)=>(x_1.2 - x_1.1))):List (List Int))) (fun c_=> [sZ one_,sZ d_,sZ c_,none,none,none,none,none,none,none,none,none]) rfl fun c_=>?_
   refine Tk (T1d (Td (T6 (Ts (Tr (Ta (Tn ?_)))))))
   refine T0 rfl (Tl (F:=J40) (dds:= []) (g:=1) (f:=J1e) rfl rfl rfl (T6 (T0 rfl (T7 (Te (J7z c_) (g:=fun _=> [sZ one_,sZ d_,sZ c_,none,none,none,none,none,none,none,none,none]) (fun _=>rfl) (fun _ _=>trivial) fun v_4=>?_)))))
   refine Tc J8x fun v_5=>?_
   refine T1 J1i (T12 [sZ one_,sZ d_,sZ c_,none,none,none,none,none,none,none,none,none] rfl rfl (f:=fun (x_2:List Int)=>(!decide (x_2.sum=0))) (tg:=fun x_2=> [sZ one_,sZ d_,sZ c_,sZ x_2,none,none,none,none,none,none,none,none]) (fun _=>rfl) (fun _=>rfl) (fun _=>rfl) (fun x_2=>?_) ?_)
   ·refine T1f (Td (T6 (T0 rfl (T7 (T1 J4l (T8 (T1 op_ne ?_)))))))
    exact T2 rfl
   refine T7 (T1 Jr4 (Tb (Tt ?_ ?_)))
   ·exact T1p (trivial)
   ·refine T9 (Tf (T14 (T7 (T1 (a:=E ([]:List (Int × (List (Int × Int))))) rfl (Tp (a:=(([]:List (Int × (List (Int × Int)))):List (Int × (List (Int × Int))))) (fun k_=> [sZ one_,sZ d_,sZ c_,none,none,none,none,sZ k_,none,none,none,none]) rfl fun k_=>?_)))))
    refine Tf (Tl (F:=Jas) (dds:= []) (g:=2) (f:=J77) rfl rfl rfl (T6 (T0 rfl (T7 (Te (Jj4 c_) (g:=fun _=> [sZ one_,sZ d_,sZ c_,none,none,none,none,sZ k_,none,none,none,none]) (fun _=>rfl) (fun _ _=>trivial) fun v_6=>?_)))))
    refine Tm (Γ:= [sZ one_,sZ d_,sZ c_,none,none,none,none,sZ k_,sZ v_6,none,none,none]) rfl (T21 (N:=1000000000000) (fun (s_: (List (Int × (List (Int × Int)))) × (List (List Int)) × (Option (List (Int × Int))))=> [sZ one_,sZ d_,sZ s_.2.1,none,none,none,none,sZ s_.1,sZ s_.2.2,none,none,none]) rfl rfl (fun s_=>?_) (fun s_=>?_) fun s_1=>?_)
    ·exact Th (T0 rfl (T1e (T1 (op_notN fun _=>rfl) (Tb (T2 rfl)))))
    ·refine T1t (o:=s_.2.2) fun g_ o_=>?_
     rw [o_]
     refine Tf (Ta (Td (T6 (Ts (Tr (T0 rfl (T1 J1i ?_)))))))
     refine T15 [sZ one_,sZ d_,sZ s_.2.1,none,none,none,none,sZ s_.1,sZ g_,none,none,none] rfl rfl (tg:=fun x_3=> [sZ one_,sZ d_,sZ s_.2.1,none,none,none,none,sZ s_.1,sZ g_,none,sZ x_3.1,sZ x_3.2]) (fun _=>rfl) (fun _=>rfl) (fun _=>rfl) (fun x_3=>?_) fun ys_=>?_
     ·refine Td (T6 (Tj (Tj (T0 rfl (T0 rfl (Tc J8 fun v_7=>?_))))))
      refine T0 rfl (Tc J8 fun v_8=>?_)
      exact T7 (T1 Jqy (T2 rfl))
     refine T7 (Tc Jf8 fun v_9=>?_)
     refine Tm (Γ:= [sZ one_,sZ d_,sZ s_.2.1,none,none,none,none,sZ s_.1,sZ g_,sZ v_9,none,none]) rfl (T1r (xs:=s_.1) rfl (Ta (T1l (T6 (T0 rfl (T6 (T0 rfl ?_)))))))
     refine T7 (T1 (a:=E ((v_9,g_):Int × (List (Int × Int)))) rfl (T13 (p:=J39 s_.1 (v_9,g_)) (G:=fun found_1=> [sZ one_,sZ d_,sZ s_.2.1,none,none,none,none,sZ found_1,sZ g_,sZ v_9,none,none]) (Jap (h':=fun xs=>J39 xs (v_9,g_)) rfl rfl fun _=>Jgw _) fun found_1=>?_))
     refine Tf (Tl (F:=J9u) (dds:= []) (g:=3) (f:=J6d) rfl rfl rfl (T6 (T0 rfl (T6 (Ta (T1l (T6 ?_)))))))
     refine Ta (Tn (T8 (T0 rfl (T1 op_sub (T6 (T0 rfl (T7 ?_)))))))
     refine T1 (a:=E (((0 - v_9),g_):Int × (List (Int × Int)))) rfl (T7 (Te (Jlm s_.2.1 ((0 - v_9),g_)) (g:=fun _=> [sZ one_,sZ d_,sZ s_.2.1,none,none,none,none,sZ found_1,sZ g_,sZ v_9,none,none]) (fun _=>rfl) (fun _ _=>trivial) fun v_10=>?_))
     refine Tm (Γ:= [sZ one_,sZ d_,sZ v_10,none,none,none,none,sZ found_1,sZ g_,sZ v_9,none,none]) rfl (Tf (Tl (F:=Jas) (dds:= []) (g:=2) (f:=J77) rfl rfl rfl (T6 (T0 rfl (T7 (Te (Jj4 v_10) (g:=fun _=> [sZ one_,sZ d_,sZ v_10,none,none,none,none,sZ found_1,sZ g_,sZ v_9,none,none]) (fun _=>rfl) (fun _ _=>trivial) fun v_11=>?_))))))
     exact Tm (Γ:= [sZ one_,sZ d_,sZ v_10,none,none,none,none,sZ found_1,sZ v_11,sZ v_9,none,none]) rfl (T10 (Γ1:= [sZ one_,sZ d_,sZ v_10,none,none,none,none,sZ found_1,sZ v_11,none,none,none]) rfl (T9 (T2 (.inl rfl))))
    exact To (T16 rfl (T2 (.inl ⟨_,rfl,rfl⟩)))
noncomputable def J7v:Sms:=(.cons (.asg (.nm 1) (.call 0 (.e (.var 0) .nil))) (.cons (.asg (.nm 2) (.frz (.call 1 (.io 1 .nil)))) (.cons (.asg (.nm 3) (.call 2 (.e (.var 2) .nil))) (.cons (.asg (.nm 4) (.frz (.call 3 (.io 1 (.e (.blt .len (.e (.var 2) .nil)) .nil))))) (.cons (.asg (.nm 5) (.frz (.call 3 (.io 1 (.e (.blt .len (.e (.ix (.var 2) (.int 0)) .nil)) .nil))))) (.cons (.asg (.nm 6) (.frz (.call 3 (.io 1 (.e (.int 7) .nil))))) (.iteD (.cmp .eq (.var 6) (.int 0)) (.cons (.asg (.nm 3) (.call 4 (.io 1 .nil))) .nil) .nil (.cons (.ite (.cmp .eq (.var 6) (.int 1)) .deadS .nil) (.cons (.ite (.cmp .eq (.var 6) (.int 2)) .deadS .nil) (.cons (.ite (.and (.cmp .gt (.var 6) (.int 2)) (.cmp .gt (.ix (.ix (.var 3) (.var 4)) (.var 5)) (.int 0))) .deadS .nil) (.cons (.ite (.cmp .eq (.var 6) (.int 5)) .deadS .nil) (.cons (.asg (.nm 8) (.frz (.str "told"))) (.cons (.ite (.or (.not (.val (.call 5 (.e (.var 2) .nil)))) (.not (.val (.call 5 (.e (.var 3) .nil))))) (.cons (.asg (.nm 8) (.frz (.str "table"))) .nil) (.cons (.ite (.or (.cmp .ne (.blt .len (.e (.var 2) .nil)) (.blt .len (.e (.var 3) .nil))) (.cmp .ne (.blt .len (.e (.ix (.var 2) (.int 0)) .nil)) (.blt .len (.e (.ix (.var 3) (.int 0)) .nil)))) (.cons (.asg (.nm 8) (.frz (.str "sums"))) .nil) (.cons (.ite (.or (.cmp .ne (.call 6 (.e (.var 2) .nil)) (.call 6 (.e (.var 3) .nil))) (.cmp .ne (.call 7 (.e (.var 2) .nil)) (.call 7 (.e (.var 3) .nil)))) (.cons (.asg (.nm 8) (.frz (.str "sums"))) .nil) .nil) .nil)) .nil)) (.cons (.asg (.nm 9) (.frz (.str "told"))) (.cons (.tryM [.F,.O (.O .Z),.F,.F,.F,.F,.F,.X,.F,.F] (.cons (.expr (.call 8 (.e (.frz (.call 2 (.e (.var 2) .nil))) (.e (.frz (.call 2 (.e (.var 3) .nil))) .nil)))) .nil) (.cons "BadTable" [("BadTable",true),("BadSums",false)] (.wipe [7] (.cons (.asg (.nm 9) (.frz (.str "table"))) .nil)) (.cons "BadSums" [("BadTable",false),("BadSums",true)] (.wipe [7] (.cons (.asg (.nm 9) (.frz (.str "sums"))) .nil)) .nil))) (.cons (.ret (.cmp .eq (.var 9) (.var 8))) .nil))))))))) (.cons (.ite (.cmp .eq (.var 6) (.int 1)) (.cons (.asg (.nm 2) (.call 4 (.io 1 .nil))) .nil) .nil) (.cons (.ite (.cmp .eq (.var 6) (.int 2)) (.cons (.asg (.nm 3) (.sub (.O (.O .F)) (.call 1 (.io 1 .nil)))) (.wipe [1] .nil)) (.wipe [1] .nil)) (.cons (.ite (.and (.cmp .gt (.var 6) (.int 2)) (.bor [false,false,false,false,false,false,false,false,false,false] (.cmp .gt (.ix (.ix (.var 3) (.var 4)) (.var 5)) (.int 0)))) (.cons (.store (.ix (.nm 3) (.var 4)) (.var 5) (.frz (.bor [false,false,false,false,false,false,false,false,false,false] (.bin .sub (.ix (.ix (.var 3) (.var 4)) (.var 5)) (.int 1))))) (.cons (.ite (.cmp .eq (.var 6) (.int 3)) (.cons (.store (.ix (.nm 3) (.var 4)) (.sub (.var 5) (.int 1)) (.frz (.bor [false,false,false,false,false,false,false,false,false,false] (.bin .add (.ix (.ix (.var 3) (.var 4)) (.bin .sub (.var 5) (.int 1))) (.int 1))))) .nil) .nil) (.cons (.ite (.cmp .eq (.var 6) (.int 4)) (.cons (.store (.ix (.nm 3) (.sub (.var 4) (.int 1))) (.var 5) (.frz (.bor [false,false,false,false,false,false,false,false,false,false] (.bin .add (.ix (.ix (.var 3) (.bin .sub (.var 4) (.int 1))) (.var 5)) (.int 1))))) .nil) .nil) .nil))) .nil) (.cons (.ite (.cmp .eq (.var 6) (.int 5)) (.cons (.setLc 3 [7] (.list (.fv 3)) (.nm 7) .no (.frz (.bin .cat (.var 7) (.frz (.lst .Z (.e (.int 0) .nil)))))) .nil) .nil) (.cons (.asg (.nm 8) (.frz (.str "told"))) (.cons (.ite (.or (.not (.val (.call 5 (.e (.var 2) .nil)))) (.not (.val (.call 5 (.e (.var 3) .nil))))) (.cons (.asg (.nm 8) (.frz (.str "table"))) .nil) (.cons (.ite (.or (.cmp .ne (.blt .len (.e (.var 2) .nil)) (.blt .len (.e (.var 3) .nil))) (.cmp .ne (.blt .len (.e (.ix (.var 2) (.int 0)) .nil)) (.blt .len (.e (.ix (.var 3) (.int 0)) .nil)))) (.cons (.asg (.nm 8) (.frz (.str "sums"))) .nil) (.cons (.ite (.or (.cmp .ne (.call 6 (.e (.var 2) .nil)) (.call 6 (.e (.var 3) .nil))) (.cmp .ne (.call 7 (.e (.var 2) .nil)) (.call 7 (.e (.var 3) .nil)))) (.cons (.asg (.nm 8) (.frz (.str "sums"))) .nil) .nil) .nil)) .nil)) (.cons (.asg (.nm 9) (.frz (.str "told"))) (.cons (.tryM [.F,.X,.F,.F,.F,.F,.F,.X,.F,.F] (.cons (.expr (.call 8 (.e (.frz (.call 2 (.e (.var 2) .nil))) (.e (.frz (.call 2 (.e (.var 3) .nil))) .nil)))) .nil) (.cons "BadTable" [("BadTable",true),("BadSums",false)] (.wipe [1,7] (.cons (.asg (.nm 9) (.frz (.str "table"))) .nil)) (.cons "BadSums" [("BadTable",false),("BadSums",true)] (.wipe [1,7] (.cons (.asg (.nm 9) (.frz (.str "sums"))) .nil)) .nil))) (.cons (.ret (.cmp .eq (.var 9) (.var 8))) .nil))))))))))))))))
noncomputable def Jcj:List D→Fo:=J21 10 [false] (exs [J5f,J29,J1c,J7,J1w,J17,J11,Jr,J5u] J7v)
@[irreducible] noncomputable def J6e (script_:List Int):M (Bool):=
 M.bind (Jch script_) fun v_=>
 M.bind (J3a v_) fun p_=>
 M.bind (Js p_.1) fun v_1=>
 M.bind (Jt p_.2 (p_.1.length:Int)) fun p_1=>
 M.bind (atM p_.1 0) fun v_2=>
 M.bind (Jt p_1.2 (v_2.length:Int)) fun p_2=>
 M.bind (Jt p_2.2 7) fun p_3=>
 if decide (p_3.1=0)=true then
 (M.bind (J1m p_3.2) fun p_4=>
 if decide (p_3.1=1)=true then
 .bad
 else
 (if decide (p_3.1=2)=true then
 .bad
 else
 (M.bind (M.bind (.ok (decide (2 < p_3.1))) fun b=>if b=true then (M.bind (atM p_4.1 p_1.1) fun v_3=>
 M.bind (atM v_3 p_2.1) fun v_4=>
 .ok (decide (0 < v_4))) else .ok false) fun b_=>
 if b_=true then
 .bad
 else
 (if decide (p_3.1=5)=true then
 .bad
 else
 (M.bind (.ok ("told" :Str)) fun due_=>
 M.bind (M.bind (M.bind (Jg p_.1) fun v_5=>
 .ok (!v_5)) fun b=>if b=true then .ok true else (M.bind (Jg p_4.1) fun v_6=>
 .ok (!v_6))) fun b_1=>
 M.bind (if b_1=true then (M.bind (.ok ("table" :Str)) fun due_1=>
 .ok due_1) else (M.bind (M.bind (.ok (!decide ((p_.1.length:Int)= (p_4.1.length:Int)))) fun b=>if b=true then .ok true else (M.bind (atM p_.1 0) fun v_7=>
 M.bind (atM p_4.1 0) fun v_8=>
 .ok (!decide ((v_7.length:Int)= (v_8.length:Int))))) fun b_2=>
 M.bind (if b_2=true then (M.bind (.ok ("sums" :Str)) fun due_2=>
 .ok due_2) else (M.bind (M.bind (M.bind (Jh p_.1) fun v_9=>
 M.bind (Jh p_4.1) fun v_10=>
 .ok (!decide (v_9=v_10))) fun b=>if b=true then .ok true else (M.bind (Ja p_.1) fun v_11=>
 M.bind (Ja p_4.1) fun v_12=>
 .ok (!decide (v_11=v_12)))) fun b_3=>
 M.bind (if b_3=true then (M.bind (.ok ("sums" :Str)) fun due_3=>
 .ok due_3) else (.ok due_)) fun s_=>
 .ok s_)) fun s_1=>
 .ok s_1)) fun s_2=>
 M.bind (.ok ("told" :Str)) fun told_=>
 M.bind (J6a (M.bind (M.nox (Js p_.1)) fun v_13=>
 M.bind (M.nox (Js p_4.1)) fun v_14=>
 M.bind (J2z v_13 v_14) fun v_15=>
 .ok told_) [([("BadTable",true),("BadSums",false)],M.bind (.ok ("table" :Str)) fun told_1=>
 .ok told_1),([("BadTable",false),("BadSums",true)],M.bind (.ok ("sums" :Str)) fun told_2=>
 .ok told_2)]) fun s_3=>
 M.bind (eqM s_3 s_2) fun b_4=>
 .ok b_4)))))
 else
 (M.bind (if decide (p_3.1=1)=true then (M.bind (J1m p_3.2) fun p_5=>
 .ok (p_5.1,p_5.2)) else (.ok (p_.1,p_3.2))) fun s_4=>
 M.bind (if decide (p_3.1=2)=true then (M.bind (J3a s_4.2) fun p_6=>
 .ok p_6.1) else (.ok v_1)) fun s_5=>
 M.bind (M.bind (.ok (decide (2 < p_3.1))) fun b=>if b=true then (M.bind (M.bind (atM s_5 p_1.1) fun v_16=>
 M.bind (atM v_16 p_2.1) fun v_17=>
 .ok (decide (0 < v_17))) fun b_5=>
 .ok b_5) else .ok false) fun b_6=>
 M.bind (if b_6=true then (M.bind (M.bind (atM s_5 p_1.1) fun v_18=>
 M.bind (atM v_18 p_2.1) fun v_19=>
 .ok (v_19 - 1)) fun v_20=>
 M.bind (M.opt (up2 s_5 p_1.1 (fun row=>putO row p_2.1 v_20))) fun d_=>
 M.bind (if decide (p_3.1=3)=true then (M.bind (M.bind (atM d_ p_1.1) fun v_21=>
 M.bind (atM v_21 (p_2.1 - 1)) fun v_22=>
 .ok (v_22 + 1)) fun v_23=>
 M.bind (M.opt (up2 d_ p_1.1 (fun row=>putO row (p_2.1 - 1) v_23))) fun other_1=>
 .ok other_1) else (.ok d_)) fun s_6=>
 M.bind (if decide (p_3.1=4)=true then (M.bind (M.bind (atM s_6 (p_1.1 - 1)) fun v_24=>
 M.bind (atM v_24 p_2.1) fun v_25=>
 .ok (v_25 + 1)) fun v_26=>
 M.bind (M.opt (up2 s_6 (p_1.1 - 1) (fun row=>putO row p_2.1 v_26))) fun other_2=>
 .ok other_2) else (.ok s_6)) fun s_7=>
 .ok s_7) else (.ok s_5)) fun s_8=>
 M.bind (if decide (p_3.1=5)=true then (M.bind (M.mapM s_8 (fun (x_:List Int)=>M.bind (J6q x_ ([0]:List Int)) fun v_27=>
 .ok v_27)) fun ys_=>
 .ok ys_) else (.ok s_8)) fun s_9=>
 M.bind (.ok ("told" :Str)) fun due_4=>
 M.bind (M.bind (M.bind (Jg s_4.1) fun v_28=>
 .ok (!v_28)) fun b=>if b=true then .ok true else (M.bind (Jg s_9) fun v_29=>
 .ok (!v_29))) fun b_7=>
 M.bind (if b_7=true then (M.bind (.ok ("table" :Str)) fun due_5=>
 .ok due_5) else (M.bind (M.bind (.ok (!decide ((s_4.1.length:Int)= (s_9.length:Int)))) fun b=>if b=true then .ok true else (M.bind (atM s_4.1 0) fun v_30=>
 M.bind (atM s_9 0) fun v_31=>
 .ok (!decide ((v_30.length:Int)= (v_31.length:Int))))) fun b_8=>
 M.bind (if b_8=true then (M.bind (.ok ("sums" :Str)) fun due_6=>
 .ok due_6) else (M.bind (M.bind (M.bind (Jh s_4.1) fun v_32=>
 M.bind (Jh s_9) fun v_33=>
 .ok (!decide (v_32=v_33))) fun b=>if b=true then .ok true else (M.bind (Ja s_4.1) fun v_34=>
 M.bind (Ja s_9) fun v_35=>
 .ok (!decide (v_34=v_35)))) fun b_9=>
 M.bind (if b_9=true then (M.bind (.ok ("sums" :Str)) fun due_7=>
 .ok due_7) else (.ok due_4)) fun s_10=>
 .ok s_10)) fun s_11=>
 .ok s_11)) fun s_12=>
 M.bind (.ok ("told" :Str)) fun told_3=>
 M.bind (J6a (M.bind (M.nox (Js s_4.1)) fun v_36=>
 M.bind (M.nox (Js s_9)) fun v_37=>
 M.bind (J2z v_36 v_37) fun v_38=>
 .ok told_3) [([("BadTable",true),("BadSums",false)],M.bind (.ok ("table" :Str)) fun told_4=>
 .ok told_4),([("BadTable",false),("BadSums",true)],M.bind (.ok ("sums" :Str)) fun told_5=>
 .ok told_5)]) fun s_13=>
 M.bind (eqM s_13 s_12) fun b_10=>
 .ok b_10)
theorem Jj5 (script_:List Int):Jd (Jcj [E script_]) (J6e script_) (fun b=>E b) (fun _=> [none]):=by
 refine Jd.of (Γ:= [some (E script_),none,none,none,none,none,none,none,none,none]) rfl ?_
 unfold J6e J7v
 refine Tf (Tw (g:=0) (f:=J5f) rfl (T6 (T0 rfl (T7 (Te (Jiy script_) (g:=fun _=> [sZ script_,none,none,none,none,none,none,none,none,none]) (fun _=>rfl) (fun _ _=>trivial) fun v_=>?_)))))
 refine Tm (Γ:= [sZ script_,sZ v_,none,none,none,none,none,none,none,none]) rfl (Tf (Ta (Tl (F:=J57) (dds:= []) (g:=1) (f:=J29) rfl rfl rfl (Tq (i:=1) (Γ1:= [sZ script_,none,none,none,none,none,none,none,none,none]) rfl rfl (T7 (Te (J8g v_) (g:=fun p_=> [sZ script_,sZ p_.2,none,none,none,none,none,none,none,none]) (fun _=>rfl) (fun _ _=>trivial) fun p_=>?_))))))
 refine Tm (Γ:= [sZ script_,sZ p_.2,sZ p_.1,none,none,none,none,none,none,none]) rfl (Tf (Tl (F:=J1v) (dds:= []) (g:=2) (f:=J1c) rfl rfl rfl (T6 (T0 rfl (T7 (Te (J3b p_.1) (g:=fun _=> [sZ script_,sZ p_.2,sZ p_.1,none,none,none,none,none,none,none]) (fun _=>rfl) (fun _ _=>trivial) fun v_1=>?_))))))
 refine Tm (Γ:= [sZ script_,sZ p_.2,sZ p_.1,sZ v_1,none,none,none,none,none,none]) rfl (Tf (Ta (Tw (g:=3) (f:=J7) rfl (Tq (i:=1) (Γ1:= [sZ script_,none,sZ p_.1,sZ v_1,none,none,none,none,none,none]) rfl rfl (T6 (Td (T6 ?_)))))))
 refine T0 rfl (T7 (T1 Jc (T7 (Te (Jz p_.2 (p_.1.length:Int)) (g:=fun p_1=> [sZ script_,sZ p_1.2,sZ p_.1,sZ v_1,none,none,none,none,none,none]) (fun _=>rfl) (fun _ _=>trivial) fun p_1=>?_))))
 refine Tm (Γ:= [sZ script_,sZ p_1.2,sZ p_.1,sZ v_1,sZ p_1.1,none,none,none,none,none]) rfl (Tf (Ta (Tw (g:=3) (f:=J7) rfl (Tq (i:=1) (Γ1:= [sZ script_,none,sZ p_.1,sZ v_1,sZ p_1.1,none,none,none,none,none]) rfl rfl (T6 (Td (T6 ?_)))))))
 refine Tj (T0 rfl (T8 (Tc J8 fun v_2=>?_)))
 refine T7 (T1 Jc (T7 (Te (Jz p_1.2 (v_2.length:Int)) (g:=fun p_2=> [sZ script_,sZ p_2.2,sZ p_.1,sZ v_1,sZ p_1.1,none,none,none,none,none]) (fun _=>rfl) (fun _ _=>trivial) fun p_2=>?_)))
 refine Tm (Γ:= [sZ script_,sZ p_2.2,sZ p_.1,sZ v_1,sZ p_1.1,sZ p_2.1,none,none,none,none]) rfl (Tf (Ta (Tw (g:=3) (f:=J7) rfl (Tq (i:=1) (Γ1:= [sZ script_,none,sZ p_.1,sZ v_1,sZ p_1.1,sZ p_2.1,none,none,none,none]) rfl rfl (T6 (T8 (T7 ?_)))))))
 refine Te (Jz p_2.2 7) (g:=fun p_3=> [sZ script_,sZ p_3.2,sZ p_.1,sZ v_1,sZ p_1.1,sZ p_2.1,none,none,none,none]) (fun _=>rfl) (fun _ _=>trivial) fun p_3=>?_
 refine Tm (Γ:= [sZ script_,sZ p_3.2,sZ p_.1,sZ v_1,sZ p_1.1,sZ p_2.1,sZ p_3.1,none,none,none]) rfl (T2v (Th (T0 rfl (T8 (T1 op_eq (Tb (T2w ?_ ?_)))))))
 ·refine Tf (Tl (F:=J32) (dds:= []) (g:=4) (f:=J1w) rfl rfl rfl (Tq (i:=1) (Γ1:= [sZ script_,none,sZ p_.1,sZ v_1,sZ p_1.1,sZ p_2.1,sZ p_3.1,none,none,none]) rfl rfl (T7 (Te (J6c p_3.2) (g:=fun p_4=> [sZ script_,sZ p_4.2,sZ p_.1,sZ v_1,sZ p_1.1,sZ p_2.1,sZ p_3.1,none,none,none]) (fun _=>rfl) (fun _ _=>trivial) fun p_4=>?_))))
  refine Tm (Γ:= [sZ script_,sZ p_4.2,sZ p_.1,sZ p_4.1,sZ p_1.1,sZ p_2.1,sZ p_3.1,none,none,none]) rfl (T9 (Tk (Th (T0 rfl (T8 (T1 op_eq (Tb ?_)))))))
  refine Tt ?_ ?_
  ·exact trivial
  ·refine T9 (Tk (Th (T0 rfl (T8 (T1 op_eq (Tb (Tt ?_ ?_)))))))
   ·exact trivial
   ·refine T9 (Tk (T1x ?_ ?_ fun b_=>?_))
    ·exact Ti (Th (T0 rfl (T8 (T1 op_gt (Tb (T2 rfl))))))
    ·refine Ti (Th (Tj (Tj (T0 rfl (T0 rfl (Tc J8 fun v_3=>?_))))))
     refine T0 rfl (Tc J8 fun v_4=>?_)
     exact T8 (T1 op_gt (Tb (T2 rfl)))
    refine Tt ?_ ?_
    ·exact trivial
    ·refine T9 (Tk (Th (T0 rfl (T8 (T1 op_eq (Tb (Tt ?_ ?_)))))))
     ·exact trivial
     ·refine T9 (Tf (Ta (Tz (Tp (a:=("told" :Str)) (fun due_=> [sZ script_,sZ p_4.2,sZ p_.1,sZ p_4.1,sZ p_1.1,sZ p_2.1,sZ p_3.1,none,sZ due_,none]) rfl fun due_=>?_))))
      refine Tk (T11 ?_ ?_ fun b_1=>?_)
      ·refine Ti (T17 (T1d (Tl (F:=J1n) (dds:= []) (g:=5) (f:=J17) rfl rfl rfl (T6 (T0 rfl (T7 (Te (J33 p_.1) (g:=fun _=> [sZ script_,sZ p_4.2,sZ p_.1,sZ p_4.1,sZ p_1.1,sZ p_2.1,sZ p_3.1,none,sZ due_,none]) (fun _=>rfl) (fun _ _=>trivial) fun v_5=>?_)))))))
       exact Tb (T2 rfl)
      ·refine Ti (T17 (T1d (Tl (F:=J1n) (dds:= []) (g:=5) (f:=J17) rfl rfl rfl (T6 (T0 rfl (T7 (Te (J33 p_4.1) (g:=fun _=> [sZ script_,sZ p_4.2,sZ p_.1,sZ p_4.1,sZ p_1.1,sZ p_2.1,sZ p_3.1,none,sZ due_,none]) (fun _=>rfl) (fun _ _=>trivial) fun v_6=>?_)))))))
       exact Tb (T2 rfl)
      refine Tv (fun (s_2:Str)=> [sZ script_,sZ p_4.2,sZ p_.1,sZ p_4.1,sZ p_1.1,sZ p_2.1,sZ p_3.1,none,sZ s_2,none]) ?_ ?_ fun s_2=>?_
      ·refine Tf (Ta (Tz (Tp (a:=("table" :Str)) (fun due_1=> [sZ script_,sZ p_4.2,sZ p_.1,sZ p_4.1,sZ p_1.1,sZ p_2.1,sZ p_3.1,none,sZ due_1,none]) rfl fun due_1=>?_)))
       exact T9 (T2 rfl)
      ·refine Tk (T11 ?_ ?_ fun b_2=>?_)
       ·refine Ti (Th (Td (T6 (T0 rfl (T7 (T1 Jc (Td ?_)))))))
        exact T6 (T0 rfl (T7 (T1 Jc (T1 op_ne (Tb (T2 rfl))))))
       ·refine Ti (Th (Td (T6 (Tj (T0 rfl (T8 (Tc J8 fun v_7=>?_)))))))
        refine T7 (T1 Jc (Td (T6 (Tj (T0 rfl (T8 (Tc J8 fun v_8=>?_)))))))
        exact T7 (T1 Jc (T1 op_ne (Tb (T2 rfl))))
       refine Tv (fun (s_1:Str)=> [sZ script_,sZ p_4.2,sZ p_.1,sZ p_4.1,sZ p_1.1,sZ p_2.1,sZ p_3.1,none,sZ s_1,none]) ?_ ?_ fun s_1=>?_
       ·refine Tf (Ta (Tz (Tp (a:=("sums" :Str)) (fun due_2=> [sZ script_,sZ p_4.2,sZ p_.1,sZ p_4.1,sZ p_1.1,sZ p_2.1,sZ p_3.1,none,sZ due_2,none]) rfl fun due_2=>?_)))
        exact T9 (T2 rfl)
       ·refine Tk (T11 ?_ ?_ fun b_3=>?_)
        ·refine Ti (Th (Tl (F:=J1f) (dds:= []) (g:=6) (f:=J11) rfl rfl rfl (T6 (T0 rfl (T7 (Te (J2t p_.1) (g:=fun _=> [sZ script_,sZ p_4.2,sZ p_.1,sZ p_4.1,sZ p_1.1,sZ p_2.1,sZ p_3.1,none,sZ due_,none]) (fun _=>rfl) (fun _ _=>trivial) fun v_9=>?_))))))
         refine Tl (F:=J1f) (dds:= []) (g:=6) (f:=J11) rfl rfl rfl (T6 (T0 rfl (T7 (Te (J2t p_4.1) (g:=fun _=> [sZ script_,sZ p_4.2,sZ p_.1,sZ p_4.1,sZ p_1.1,sZ p_2.1,sZ p_3.1,none,sZ due_,none]) (fun _=>rfl) (fun _ _=>trivial) fun v_10=>?_))))
         exact T1 op_ne (Tb (T2 rfl))
        ·refine Ti (Th (Tl (F:=J13) (dds:= []) (g:=7) (f:=Jr) rfl rfl rfl (T6 (T0 rfl (T7 (Te (J1y p_.1) (g:=fun _=> [sZ script_,sZ p_4.2,sZ p_.1,sZ p_4.1,sZ p_1.1,sZ p_2.1,sZ p_3.1,none,sZ due_,none]) (fun _=>rfl) (fun _ _=>trivial) fun v_11=>?_))))))
         refine Tl (F:=J13) (dds:= []) (g:=7) (f:=Jr) rfl rfl rfl (T6 (T0 rfl (T7 (Te (J1y p_4.1) (g:=fun _=> [sZ script_,sZ p_4.2,sZ p_.1,sZ p_4.1,sZ p_1.1,sZ p_2.1,sZ p_3.1,none,sZ due_,none]) (fun _=>rfl) (fun _ _=>trivial) fun v_12=>?_))))
         exact T1 op_ne (Tb (T2 rfl))
        refine Tv (fun (s_:Str)=> [sZ script_,sZ p_4.2,sZ p_.1,sZ p_4.1,sZ p_1.1,sZ p_2.1,sZ p_3.1,none,sZ s_,none]) ?_ ?_ fun s_=>?_
        ·refine Tf (Ta (Tz (Tp (a:=("sums" :Str)) (fun due_3=> [sZ script_,sZ p_4.2,sZ p_.1,sZ p_4.1,sZ p_1.1,sZ p_2.1,sZ p_3.1,none,sZ due_3,none]) rfl fun due_3=>?_)))
         exact T9 (T2 rfl)
        ·exact T9 (T2 rfl)
        exact T9 (T2 rfl)
       exact T9 (T2 rfl)
      refine Tf (Ta (Tz (Tp (a:=("told" :Str)) (fun told_=> [sZ script_,sZ p_4.2,sZ p_.1,sZ p_4.1,sZ p_1.1,sZ p_2.1,sZ p_3.1,none,sZ s_2,sZ told_]) rfl fun told_=>?_)))
      refine T23 (Γh:= [sZ script_,sZ p_4.2,sZ p_.1,sZ p_4.1,sZ p_1.1,sZ p_2.1,sZ p_3.1,none,sZ s_2,sZ told_]) (vs:= [7]) (fun (s_3:Str)=> [sZ script_,sZ p_4.2,sZ p_.1,sZ p_4.1,sZ p_1.1,sZ p_2.1,sZ p_3.1,none,sZ s_2,sZ s_3]) ?_ ?_ fun s_3=>?_
      ·refine T20 (Tl (F:=J8z) (dds:= []) (g:=8) (f:=J5u) rfl rfl rfl (T6 (Ta (Tl (F:=J1v) (dds:= []) (g:=2) (f:=J1c) rfl rfl rfl (T6 (T0 rfl (T7 ?_)))))))
       refine T1m (J3b p_.1) (g:=fun _=> [sZ script_,sZ p_4.2,sZ p_.1,sZ p_4.1,sZ p_1.1,sZ p_2.1,sZ p_3.1,none,sZ s_2,sZ told_]) (fun _=>rfl) fun v_13=>?_
       refine T6 (Ta (Tl (F:=J1v) (dds:= []) (g:=2) (f:=J1c) rfl rfl rfl (T6 (T0 rfl (T7 (T1m (J3b p_4.1) (g:=fun _=> [sZ script_,sZ p_4.2,sZ p_.1,sZ p_4.1,sZ p_1.1,sZ p_2.1,sZ p_3.1,none,sZ s_2,sZ told_]) (fun _=>rfl) fun v_14=>?_))))))
       refine T7 (Te (Jfe v_13 v_14) (g:=fun _=> [sZ script_,sZ p_4.2,sZ p_.1,sZ p_4.1,sZ p_1.1,sZ p_2.1,sZ p_3.1,none,sZ s_2,sZ told_]) (fun _=>rfl) (fun _ _=>⟨rfl,trivial⟩) fun v_15=>?_)
       exact Tm (Γ:= [sZ script_,sZ p_4.2,sZ p_.1,sZ p_4.1,sZ p_1.1,sZ p_2.1,sZ p_3.1,none,sZ s_2,sZ told_]) rfl (T9 (T2 rfl))
      ·refine HTie.cons ?_ ?_
       ·refine Tf (Ta (Tz (Tp (a:=("table" :Str)) (fun told_1=> [sZ script_,sZ p_4.2,sZ p_.1,sZ p_4.1,sZ p_1.1,sZ p_2.1,sZ p_3.1,none,sZ s_2,sZ told_1]) rfl fun told_1=>?_)))
        exact T9 (T2 rfl)
       refine HTie.cons ?_ ?_
       ·refine Tf (Ta (Tz (Tp (a:=("sums" :Str)) (fun told_2=> [sZ script_,sZ p_4.2,sZ p_.1,sZ p_4.1,sZ p_1.1,sZ p_2.1,sZ p_3.1,none,sZ s_2,sZ told_2]) rfl fun told_2=>?_)))
        exact T9 (T2 rfl)
       exact HTie.nil
      refine To (T1f (T0 rfl (T0 rfl (Tc Jdz fun b_4=>?_))))
      exact T2 (.inl ⟨_,rfl,rfl⟩)
 ·refine T9 (Tk (Th (T0 rfl (T8 (T1 op_eq (Tb (Tv (fun (s_4: (List (List Int)) × Bag)=> [sZ script_,sZ s_4.2,sZ s_4.1,sZ v_1,sZ p_1.1,sZ p_2.1,sZ p_3.1,none,none,none]) ?_ ?_ fun s_4=>?_)))))))
  ·refine Tf (Tl (F:=J32) (dds:= []) (g:=4) (f:=J1w) rfl rfl rfl (Tq (i:=1) (Γ1:= [sZ script_,none,sZ p_.1,sZ v_1,sZ p_1.1,sZ p_2.1,sZ p_3.1,none,none,none]) rfl rfl (T7 (Te (J6c p_3.2) (g:=fun p_5=> [sZ script_,sZ p_5.2,sZ p_.1,sZ v_1,sZ p_1.1,sZ p_2.1,sZ p_3.1,none,none,none]) (fun _=>rfl) (fun _ _=>trivial) fun p_5=>?_))))
   exact Tm (Γ:= [sZ script_,sZ p_5.2,sZ p_5.1,sZ v_1,sZ p_1.1,sZ p_2.1,sZ p_3.1,none,none,none]) rfl (T9 (T2 rfl))
  ·exact T9 (T2 rfl)
  refine Tk (Th (T0 rfl (T8 (T1 op_eq (Tb (Tv (fun (s_5: (List (List Int)))=> [sZ script_,none,sZ s_4.1,sZ s_5,sZ p_1.1,sZ p_2.1,sZ p_3.1,none,none,none]) ?_ ?_ fun s_5=>?_))))))
  ·refine Tf (T26 (Tl (F:=J57) (dds:= []) (g:=1) (f:=J29) rfl rfl rfl (Tq (i:=1) (Γ1:= [sZ script_,none,sZ s_4.1,sZ v_1,sZ p_1.1,sZ p_2.1,sZ p_3.1,none,none,none]) rfl rfl (T7 (Te (J8g s_4.2) (g:=fun p_6=> [sZ script_,sZ p_6.2,sZ s_4.1,sZ v_1,sZ p_1.1,sZ p_2.1,sZ p_3.1,none,none,none]) (fun _=>rfl) (fun _ _=>trivial) fun p_6=>?_)))))
   exact Tm (Γ:= [sZ script_,sZ p_6.2,sZ s_4.1,sZ p_6.1,sZ p_1.1,sZ p_2.1,sZ p_3.1,none,none,none]) rfl (T10 (Γ1:= [sZ script_,none,sZ s_4.1,sZ p_6.1,sZ p_1.1,sZ p_2.1,sZ p_3.1,none,none,none]) rfl (T9 (T2 rfl)))
  ·exact T10 (Γ1:= [sZ script_,none,sZ s_4.1,sZ v_1,sZ p_1.1,sZ p_2.1,sZ p_3.1,none,none,none]) rfl (T9 (T2 rfl))
  refine Tk (T1x ?_ ?_ fun b_6=>?_)
  ·exact Ti (Th (T0 rfl (T8 (T1 op_gt (Tb (T2 rfl))))))
  ·refine Ti (T22 (g2:=fun _=> [sZ script_,none,sZ s_4.1,sZ s_5,sZ p_1.1,sZ p_2.1,sZ p_3.1,none,none,none]) ?_ (fun _=>rfl) fun b_5=>?_)
   ·refine Ti (Th (Tj (Tj (T0 rfl (T0 rfl (Tc J8 fun v_16=>?_))))))
    refine T0 rfl (Tc J8 fun v_17=>?_)
    exact T8 (T1 op_gt (Tb (T2 rfl)))
   exact T2 rfl
  refine Tv (fun (s_8: (List (List Int)))=> [sZ script_,none,sZ s_4.1,sZ s_8,sZ p_1.1,sZ p_2.1,sZ p_3.1,none,none,none]) ?_ ?_ fun s_8=>?_
  ·refine T1a (Ta (T18 (v:=fun b=>E b) (g:=fun _=> [sZ script_,none,sZ s_4.1,sZ s_5,sZ p_1.1,sZ p_2.1,sZ p_3.1,none,none,none]) (g2:=fun _=> [sZ script_,none,sZ s_4.1,sZ s_5,sZ p_1.1,sZ p_2.1,sZ p_3.1,none,none,none]) ?_ (fun _=>rfl) fun v_20=>?_))
   ·refine Ti (Tn (Tj (Tj (T0 rfl (T0 rfl (Tc J8 fun v_18=>?_))))))
    refine T0 rfl (Tc J8 fun v_19=>?_)
    exact T8 (T1 op_sub (T2 rfl))
   refine T13 (p:=up2 s_5 p_1.1 (fun row=>putO row p_2.1 v_20)) (G:=fun d_=> [sZ script_,none,sZ s_4.1,sZ d_,sZ p_1.1,sZ p_2.1,sZ p_3.1,none,none,none]) (J7s (h':=fun row=>putO row p_2.1 v_20) rfl rfl fun _=>J4e rfl _) fun d_=>?_
   refine Tk (Th (T0 rfl (T8 (T1 op_eq (Tb (Tv (fun (s_6: (List (List Int)))=> [sZ script_,none,sZ s_4.1,sZ s_6,sZ p_1.1,sZ p_2.1,sZ p_3.1,none,none,none]) ?_ ?_ fun s_6=>?_))))))
   ·refine T1a (Ta (T18 (v:=fun b=>E b) (g:=fun _=> [sZ script_,none,sZ s_4.1,sZ d_,sZ p_1.1,sZ p_2.1,sZ p_3.1,none,none,none]) (g2:=fun _=> [sZ script_,none,sZ s_4.1,sZ d_,sZ p_1.1,sZ p_2.1,sZ p_3.1,none,none,none]) ?_ (fun _=>rfl) fun v_23=>?_))
    ·refine Ti (Tn (Tj (Tj (T0 rfl (T0 rfl (Tc J8 fun v_21=>?_))))))
     refine Tn (T0 rfl (T8 (T1 op_sub (Tc J8 fun v_22=>?_))))
     exact T8 (T1 op_add (T2 rfl))
    refine T13 (p:=up2 d_ p_1.1 (fun row=>putO row (p_2.1 - 1) v_23)) (G:=fun other_1=> [sZ script_,none,sZ s_4.1,sZ other_1,sZ p_1.1,sZ p_2.1,sZ p_3.1,none,none,none]) (J7s (h':=fun row=>putO row (p_2.1 - 1) v_23) rfl rfl fun _=>J4e rfl _) fun other_1=>?_
    exact T9 (T2 rfl)
   ·exact T9 (T2 rfl)
   refine Tk (Th (T0 rfl (T8 (T1 op_eq (Tb (Tv (fun (s_7: (List (List Int)))=> [sZ script_,none,sZ s_4.1,sZ s_7,sZ p_1.1,sZ p_2.1,sZ p_3.1,none,none,none]) ?_ ?_ fun s_7=>?_))))))
   ·refine T1a (Ta (T18 (v:=fun b=>E b) (g:=fun _=> [sZ script_,none,sZ s_4.1,sZ s_6,sZ p_1.1,sZ p_2.1,sZ p_3.1,none,none,none]) (g2:=fun _=> [sZ script_,none,sZ s_4.1,sZ s_6,sZ p_1.1,sZ p_2.1,sZ p_3.1,none,none,none]) ?_ (fun _=>rfl) fun v_26=>?_))
    ·refine Ti (Tn (Tj (Tj (T0 rfl (Tn (T0 rfl (T8 ?_)))))))
     refine T1 op_sub (Tc J8 fun v_24=>?_)
     refine T0 rfl (Tc J8 fun v_25=>?_)
     exact T8 (T1 op_add (T2 rfl))
    refine T13 (p:=up2 s_6 (p_1.1 - 1) (fun row=>putO row p_2.1 v_26)) (G:=fun other_2=> [sZ script_,none,sZ s_4.1,sZ other_2,sZ p_1.1,sZ p_2.1,sZ p_3.1,none,none,none]) (J7s (h':=fun row=>putO row p_2.1 v_26) rfl rfl fun _=>J4e rfl _) fun other_2=>?_
    exact T9 (T2 rfl)
   ·exact T9 (T2 rfl)
   exact T9 (T2 rfl)
  ·exact T9 (T2 rfl)
  refine Tk (Th (T0 rfl (T8 (T1 op_eq (Tb (Tv (fun (s_9: (List (List Int)))=> [sZ script_,none,sZ s_4.1,sZ s_9,sZ p_1.1,sZ p_2.1,sZ p_3.1,none,none,none]) ?_ ?_ fun s_9=>?_))))))
  ·refine T1s (Tr (T16 rfl (T1 J1i (T15 [sZ script_,none,sZ s_4.1,sZ s_8,sZ p_1.1,sZ p_2.1,sZ p_3.1,none,none,none] rfl rfl (tg:=fun x_=> [sZ script_,none,sZ s_4.1,sZ s_8,sZ p_1.1,sZ p_2.1,sZ p_3.1,sZ x_,none,none]) (fun _=>rfl) (fun _=>rfl) (fun _=>rfl) (fun x_=>?_) fun ys_=>?_))))
   ·refine Ta (Tn (T0 rfl (Ta (T14 (T6 (T8 (T7 ?_)))))))
    refine T1 (a:=E ([0]:List Int)) rfl (Tc J8x fun v_27=>?_)
    exact T2 rfl
   exact Tm (Γ:= [sZ script_,none,sZ s_4.1,sZ ys_,sZ p_1.1,sZ p_2.1,sZ p_3.1,none,none,none]) rfl (T9 (T2 rfl))
  ·exact T9 (T2 rfl)
  refine Tf (Ta (Tz (Tp (a:=("told" :Str)) (fun due_4=> [sZ script_,none,sZ s_4.1,sZ s_9,sZ p_1.1,sZ p_2.1,sZ p_3.1,none,sZ due_4,none]) rfl fun due_4=>?_)))
  refine Tk (T11 ?_ ?_ fun b_7=>?_)
  ·refine Ti (T17 (T1d (Tl (F:=J1n) (dds:= []) (g:=5) (f:=J17) rfl rfl rfl (T6 (T0 rfl (T7 (Te (J33 s_4.1) (g:=fun _=> [sZ script_,none,sZ s_4.1,sZ s_9,sZ p_1.1,sZ p_2.1,sZ p_3.1,none,sZ due_4,none]) (fun _=>rfl) (fun _ _=>trivial) fun v_28=>?_)))))))
   exact Tb (T2 rfl)
  ·refine Ti (T17 (T1d (Tl (F:=J1n) (dds:= []) (g:=5) (f:=J17) rfl rfl rfl (T6 (T0 rfl (T7 (Te (J33 s_9) (g:=fun _=> [sZ script_,none,sZ s_4.1,sZ s_9,sZ p_1.1,sZ p_2.1,sZ p_3.1,none,sZ due_4,none]) (fun _=>rfl) (fun _ _=>trivial) fun v_29=>?_)))))))
   exact Tb (T2 rfl)
  refine Tv (fun (s_12:Str)=> [sZ script_,none,sZ s_4.1,sZ s_9,sZ p_1.1,sZ p_2.1,sZ p_3.1,none,sZ s_12,none]) ?_ ?_ fun s_12=>?_
  ·refine Tf (Ta (Tz (Tp (a:=("table" :Str)) (fun due_5=> [sZ script_,none,sZ s_4.1,sZ s_9,sZ p_1.1,sZ p_2.1,sZ p_3.1,none,sZ due_5,none]) rfl fun due_5=>?_)))
   exact T9 (T2 rfl)
  ·refine Tk (T11 ?_ ?_ fun b_8=>?_)
   ·refine Ti (Th (Td (T6 (T0 rfl (T7 (T1 Jc (Td ?_)))))))
    exact T6 (T0 rfl (T7 (T1 Jc (T1 op_ne (Tb (T2 rfl))))))
   ·refine Ti (Th (Td (T6 (Tj (T0 rfl (T8 (Tc J8 fun v_30=>?_)))))))
    refine T7 (T1 Jc (Td (T6 (Tj (T0 rfl (T8 (Tc J8 fun v_31=>?_)))))))
    exact T7 (T1 Jc (T1 op_ne (Tb (T2 rfl))))
   refine Tv (fun (s_11:Str)=> [sZ script_,none,sZ s_4.1,sZ s_9,sZ p_1.1,sZ p_2.1,sZ p_3.1,none,sZ s_11,none]) ?_ ?_ fun s_11=>?_
   ·refine Tf (Ta (Tz (Tp (a:=("sums" :Str)) (fun due_6=> [sZ script_,none,sZ s_4.1,sZ s_9,sZ p_1.1,sZ p_2.1,sZ p_3.1,none,sZ due_6,none]) rfl fun due_6=>?_)))
    exact T9 (T2 rfl)
   ·refine Tk (T11 ?_ ?_ fun b_9=>?_)
    ·refine Ti (Th (Tl (F:=J1f) (dds:= []) (g:=6) (f:=J11) rfl rfl rfl (T6 (T0 rfl (T7 (Te (J2t s_4.1) (g:=fun _=> [sZ script_,none,sZ s_4.1,sZ s_9,sZ p_1.1,sZ p_2.1,sZ p_3.1,none,sZ due_4,none]) (fun _=>rfl) (fun _ _=>trivial) fun v_32=>?_))))))
     refine Tl (F:=J1f) (dds:= []) (g:=6) (f:=J11) rfl rfl rfl (T6 (T0 rfl (T7 (Te (J2t s_9) (g:=fun _=> [sZ script_,none,sZ s_4.1,sZ s_9,sZ p_1.1,sZ p_2.1,sZ p_3.1,none,sZ due_4,none]) (fun _=>rfl) (fun _ _=>trivial) fun v_33=>?_))))
     exact T1 op_ne (Tb (T2 rfl))
    ·refine Ti (Th (Tl (F:=J13) (dds:= []) (g:=7) (f:=Jr) rfl rfl rfl (T6 (T0 rfl (T7 (Te (J1y s_4.1) (g:=fun _=> [sZ script_,none,sZ s_4.1,sZ s_9,sZ p_1.1,sZ p_2.1,sZ p_3.1,none,sZ due_4,none]) (fun _=>rfl) (fun _ _=>trivial) fun v_34=>?_))))))
     refine Tl (F:=J13) (dds:= []) (g:=7) (f:=Jr) rfl rfl rfl (T6 (T0 rfl (T7 (Te (J1y s_9) (g:=fun _=> [sZ script_,none,sZ s_4.1,sZ s_9,sZ p_1.1,sZ p_2.1,sZ p_3.1,none,sZ due_4,none]) (fun _=>rfl) (fun _ _=>trivial) fun v_35=>?_))))
     exact T1 op_ne (Tb (T2 rfl))
    refine Tv (fun (s_10:Str)=> [sZ script_,none,sZ s_4.1,sZ s_9,sZ p_1.1,sZ p_2.1,sZ p_3.1,none,sZ s_10,none]) ?_ ?_ fun s_10=>?_
    ·refine Tf (Ta (Tz (Tp (a:=("sums" :Str)) (fun due_7=> [sZ script_,none,sZ s_4.1,sZ s_9,sZ p_1.1,sZ p_2.1,sZ p_3.1,none,sZ due_7,none]) rfl fun due_7=>?_)))
     exact T9 (T2 rfl)
    ·exact T9 (T2 rfl)
    exact T9 (T2 rfl)
   exact T9 (T2 rfl)
  refine Tf (Ta (Tz (Tp (a:=("told" :Str)) (fun told_3=> [sZ script_,none,sZ s_4.1,sZ s_9,sZ p_1.1,sZ p_2.1,sZ p_3.1,none,sZ s_12,sZ told_3]) rfl fun told_3=>?_)))
  refine T23 (Γh:= [sZ script_,none,sZ s_4.1,sZ s_9,sZ p_1.1,sZ p_2.1,sZ p_3.1,none,sZ s_12,sZ told_3]) (vs:= [1,7]) (fun (s_13:Str)=> [sZ script_,none,sZ s_4.1,sZ s_9,sZ p_1.1,sZ p_2.1,sZ p_3.1,none,sZ s_12,sZ s_13]) ?_ ?_ fun s_13=>?_
  ·refine T20 (Tl (F:=J8z) (dds:= []) (g:=8) (f:=J5u) rfl rfl rfl (T6 (Ta (Tl (F:=J1v) (dds:= []) (g:=2) (f:=J1c) rfl rfl rfl (T6 (T0 rfl (T7 ?_)))))))
   refine T1m (J3b s_4.1) (g:=fun _=> [sZ script_,none,sZ s_4.1,sZ s_9,sZ p_1.1,sZ p_2.1,sZ p_3.1,none,sZ s_12,sZ told_3]) (fun _=>rfl) fun v_36=>?_
   refine T6 (Ta (Tl (F:=J1v) (dds:= []) (g:=2) (f:=J1c) rfl rfl rfl (T6 (T0 rfl (T7 (T1m (J3b s_9) (g:=fun _=> [sZ script_,none,sZ s_4.1,sZ s_9,sZ p_1.1,sZ p_2.1,sZ p_3.1,none,sZ s_12,sZ told_3]) (fun _=>rfl) fun v_37=>?_))))))
   refine T7 (Te (Jfe v_36 v_37) (g:=fun _=> [sZ script_,none,sZ s_4.1,sZ s_9,sZ p_1.1,sZ p_2.1,sZ p_3.1,none,sZ s_12,sZ told_3]) (fun _=>rfl) (fun _ _=>⟨rfl,trivial⟩) fun v_38=>?_)
   exact Tm (Γ:= [sZ script_,none,sZ s_4.1,sZ s_9,sZ p_1.1,sZ p_2.1,sZ p_3.1,none,sZ s_12,sZ told_3]) rfl (T9 (T2 rfl))
  ·refine HTie.cons ?_ ?_
   ·refine Tf (Ta (Tz (Tp (a:=("table" :Str)) (fun told_4=> [sZ script_,none,sZ s_4.1,sZ s_9,sZ p_1.1,sZ p_2.1,sZ p_3.1,none,sZ s_12,sZ told_4]) rfl fun told_4=>?_)))
    exact T9 (T2 rfl)
   refine HTie.cons ?_ ?_
   ·refine Tf (Ta (Tz (Tp (a:=("sums" :Str)) (fun told_5=> [sZ script_,none,sZ s_4.1,sZ s_9,sZ p_1.1,sZ p_2.1,sZ p_3.1,none,sZ s_12,sZ told_5]) rfl fun told_5=>?_)))
    exact T9 (T2 rfl)
   exact HTie.nil
  refine To (T1f (T0 rfl (T0 rfl (Tc Jdz fun b_10=>?_))))
  exact T2 (.inl ⟨_,rfl,rfl⟩)
end EV
namespace K48
open PySem PySem.Spec PyProof.Rows L2 EV
noncomputable def J5v:Df where
 d:=mk "_law_bag" 17
 N:= ["_law_script", "_law_cell"]
 ps:= ["_law_script"]
 pm:= [.F]
 rm:= .O (.O .Z)
 io:= [false]
 bl:= ["abs"]
 ir:=J4m
theorem Jh2:J5v.ck []=true:=by decide +kernel
noncomputable def J5w:Df where
 d:=mk "_law_any" 23
 N:= ["_law_bag_here", "_law_block", "_law_columns", "_law_left", "_law_utmost", "_law_grid", "_law_at", "_law_to"]
 ps:= ["_law_bag_here"]
 pm:= [.O (.O .Z)]
 rm:= .O (.O .Z)
 io:= [true]
 bl:= ["range", "min"]
 ex:= []
 exm:= []
 gc:= []
 fl:= []
 ir:=J7t
theorem Jh3:J5w.ck [⟨"_law_pull",[.O (.O .Z),.Z],.Z,[],[], ""⟩]=true:=by decide +kernel
noncomputable def J3t:Df where
 d:=mk "_law_copied" 22
 N:= ["_law_block", "_law_row"]
 ps:= ["_law_block"]
 pm:= [.F]
 rm:= .O (.O .F)
 io:= [false]
 bl:= ["list"]
 ex:= []
 exm:= []
 gc:= []
 fl:= []
 ir:=J5a
theorem Jco:J3t.ck []=true:=by decide +kernel
noncomputable def J2i:Df where
 d:=mk "_law_wild_rows" 25
 N:= ["_law_bag_here", "_law_block", "_law_at", "_law_to", "_law_way", "_law_row", "_law_k"]
 ps:= ["_law_bag_here"]
 pm:= [.O (.O .Z)]
 rm:= .F
 io:= [true]
 bl:= ["len", "range", "sum"]
 ex:= []
 exm:= []
 gc:= []
 fl:= []
 ir:=J48
theorem J9w:J2i.ck [⟨"_law_any",[.O (.O .Z)],.O (.O .Z),[],[], ""⟩,⟨"_law_pull",[.O (.O .Z),.Z],.Z,[],[], ""⟩]=true:=by decide +kernel
noncomputable def J2j:Df where
 d:=mk "_law_good_rows" 24
 N:= ["_law_block", "_law_row", "_law_count"]
 ps:= ["_law_block"]
 pm:= [.F]
 rm:= .Z
 io:= [false]
 bl:= ["len", "sum"]
 ex:= []
 exm:= []
 gc:= []
 fl:= []
 ir:=J49
theorem J9x:J2j.ck []=true:=by decide +kernel
noncomputable def J2a:Df where
 d:=mk "_law_rowsums" 20
 N:= ["_law_grid", "_law_row"]
 ps:= ["_law_grid"]
 pm:= [.F]
 rm:= .F
 io:= [false]
 bl:= ["sum"]
 ex:= []
 exm:= []
 gc:= []
 fl:= []
 ir:=J3o
theorem J93:J2a.ck []=true:=by decide +kernel
noncomputable def J3u:Df where
 d:=mk "_law_turned" 19
 N:= ["_law_block", "_law_to", "_law_row"]
 ps:= ["_law_block"]
 pm:= [.F]
 rm:= .O (.O .F)
 io:= [false]
 bl:= ["range", "len"]
 ex:= []
 exm:= []
 gc:= []
 fl:= []
 ir:=J5b
theorem Jcp:J3u.ck []=true:=by decide +kernel
noncomputable def J1j:Df where
 d:=mk "_law_columnsums" 21
 N:= ["_law_grid", "_law_column"]
 ps:= ["_law_grid"]
 pm:= [.F]
 rm:= .F
 io:= [false]
 bl:= ["sum"]
 ex:= []
 exm:= []
 gc:= []
 fl:= []
 ir:=J2u
theorem J7w:J1j.ck [⟨"_law_turned",[.F],.O (.O .F),[],[], ""⟩]=true:=by decide +kernel
noncomputable def J4p:Df where
 d:=mk "good_rows" 8
 N:= ["rows", "row"]
 ps:= ["rows"]
 pm:= [.F]
 rm:= .Z
 io:= [false]
 bl:= ["len", "min", "sum"]
 ex:= []
 exm:= []
 gc:= [("ROWS",(.int 4)),("COLUMNS",(.int 6)),("MOST",(.int 40))]
 fl:= []
 ir:=J5s
theorem Je6:J4p.ck []=true:=by decide +kernel
noncomputable def J3e:Df where
 d:=mk "turned_rows" 10
 N:= ["rows", "to", "row"]
 ps:= ["rows"]
 pm:= [.F]
 rm:= .F
 io:= [false]
 bl:= ["range", "len"]
 ex:= []
 exm:= []
 gc:= []
 fl:= []
 ir:=J4y
theorem Jbv:J3e.ck []=true:=by decide +kernel
noncomputable def J58:Df where
 d:=mk "first_of" 13
 N:= ["row", "sign", "to", "count"]
 ps:= ["row", "sign"]
 pm:= [.F,.F]
 rm:= .Z
 io:= [false,false]
 bl:= ["enumerate"]
 ex:= []
 exm:= []
 gc:= []
 fl:= []
 ir:=J6t
theorem Jen:J58.ck []=true:=by decide +kernel
noncomputable def Jat:Df where
 d:=mk "ring" 14
 N:= ["apart", "at", "to", "row", "counts", "columns", "seen", "cells"]
 ps:= ["apart"]
 pm:= [.F]
 rm:= .F
 io:= [false]
 bl:= ["enumerate", "len"]
 ex:= []
 exm:= []
 gc:= []
 fl:= []
 ir:=Jbu
theorem Jok:Jat.ck [⟨"first_of",[.F,.F],.Z,[],[], ""⟩,⟨"turned_rows",[.F],.F,[],[], ""⟩]=true:=by decide +kernel
noncomputable def J78:Df where
 d:=mk "walked" 12
 N:= ["rows", "loop", "many", "cells", "told", "row", "place", "at", "to"]
 ps:= ["rows", "loop"]
 pm:= [.F,.F]
 rm:= .F
 io:= [false,false]
 bl:= ["list", "enumerate"]
 ex:= []
 exm:= []
 gc:= []
 fl:= []
 ir:=J8h
theorem Jj6:J78.ck []=true:=by decide +kernel
noncomputable def J8i:Df where
 d:=mk "loops" 15
 N:= ["one", "other", "apart", "row", "goal", "here", "there", "found", "cells", "many", "at", "to"]
 ps:= ["one", "other"]
 pm:= [.F,.F]
 rm:= .F
 io:= [false,false]
 bl:= ["len", "zip", "any", "sum", "min", "abs"]
 ex:= [("BadTable", "table"),("BadSums", "sums")]
 exm:= []
 gc:= []
 fl:= []
 ir:=J9v
theorem Jln:J8i.ck [⟨"good_rows",[.F],.Z,[],[], ""⟩,⟨"turned_rows",[.F],.F,[],[], ""⟩,⟨"ring",[.F],.F,[],[], ""⟩,⟨"walked",[.F,.F],.F,[],[], ""⟩]=true:=by decide +kernel
noncomputable def J4z:Df where
 d:=mk "law" 26
 N:= ["_law_script", "_law_bag_here", "_law_one", "_law_other", "_law_at", "_law_to", "_law_way", "_law_row", "_law_due", "_law_told"]
 ps:= ["_law_script"]
 pm:= [.F]
 rm:= .Z
 io:= [false]
 bl:= ["len"]
 ex:= []
 exm:= [("BadTable", "BadTable",true),("BadSums", "BadTable",false),("BadTable", "BadSums",false),("BadSums", "BadSums",true)]
 gc:= []
 fl:= []
 ir:=J7v
theorem Jh4:J4z.ck [⟨"_law_bag",[.F],.O (.O .Z),[],[], ""⟩,⟨"_law_any",[.O (.O .Z)],.O (.O .Z),[],[], ""⟩,⟨"_law_copied",[.F],.O (.O .F),[],[], ""⟩,⟨"_law_pull",[.O (.O .Z),.Z],.Z,[],[], ""⟩,⟨"_law_wild_rows",[.O (.O .Z)],.F,[],[], ""⟩,⟨"_law_good_rows",[.F],.Z,[],[], ""⟩,⟨"_law_rowsums",[.F],.F,[],[], ""⟩,⟨"_law_columnsums",[.F],.F,[],[], ""⟩,⟨"loops",[.F,.F],.F,[],[], ""⟩]=true:=by decide +kernel
theorem Jh5:FnScope J5v.N J5v.ps J5v.d.scope:=⟨rfl,rfl,rfl,by decide +kernel,rfl,by decide +kernel,by decide +kernel⟩
theorem J97:FnScope ["_law_bag_here", "_law_lot", "_law_cells", "_law_at", "_law_cell"] ["_law_bag_here", "_law_lot"] J2l.scope:=⟨rfl,rfl,rfl,by decide +kernel,rfl,by decide +kernel,by decide +kernel⟩
theorem Jh6:FnScope J5w.N J5w.ps J5w.d.scope:=⟨rfl,rfl,rfl,by decide +kernel,rfl,by decide +kernel,by decide +kernel⟩
theorem Jcq:FnScope J3t.N J3t.ps J3t.d.scope:=⟨rfl,rfl,rfl,by decide +kernel,rfl,by decide +kernel,by decide +kernel⟩
theorem J9y:FnScope J2i.N J2i.ps J2i.d.scope:=⟨rfl,rfl,rfl,by decide +kernel,rfl,by decide +kernel,by decide +kernel⟩
theorem J9z:FnScope J2j.N J2j.ps J2j.d.scope:=⟨rfl,rfl,rfl,by decide +kernel,rfl,by decide +kernel,by decide +kernel⟩
theorem J94:FnScope J2a.N J2a.ps J2a.d.scope:=⟨rfl,rfl,rfl,by decide +kernel,rfl,by decide +kernel,by decide +kernel⟩
theorem Jcr:FnScope J3u.N J3u.ps J3u.d.scope:=⟨rfl,rfl,rfl,by decide +kernel,rfl,by decide +kernel,by decide +kernel⟩
theorem J7x:FnScope J1j.N J1j.ps J1j.d.scope:=⟨rfl,rfl,rfl,by decide +kernel,rfl,by decide +kernel,by decide +kernel⟩
theorem Je7:FnScope J4p.N J4p.ps J4p.d.scope:=⟨rfl,rfl,rfl,by decide +kernel,rfl,by decide +kernel,by decide +kernel⟩
theorem Jbw:FnScope J3e.N J3e.ps J3e.d.scope:=⟨rfl,rfl,rfl,by decide +kernel,rfl,by decide +kernel,by decide +kernel⟩
theorem Jeo:FnScope J58.N J58.ps J58.d.scope:=⟨rfl,rfl,rfl,by decide +kernel,rfl,by decide +kernel,by decide +kernel⟩
theorem Jol:FnScope Jat.N Jat.ps Jat.d.scope:=⟨rfl,rfl,rfl,by decide +kernel,rfl,by decide +kernel,by decide +kernel⟩
theorem Jj7:FnScope J78.N J78.ps J78.d.scope:=⟨rfl,rfl,rfl,by decide +kernel,rfl,by decide +kernel,by decide +kernel⟩
theorem Jlo:FnScope J8i.N J8i.ps J8i.d.scope:=⟨rfl,rfl,rfl,by decide +kernel,rfl,by decide +kernel,by decide +kernel⟩
theorem Jh7:FnScope J4z.N J4z.ps J4z.d.scope:=⟨rfl,rfl,rfl,by decide +kernel,rfl,by decide +kernel,by decide +kernel⟩
theorem Jom:FnScope ["self", "word"] ["self", "word"] Jfo.scope:=⟨rfl,rfl,rfl,by decide +kernel,rfl,by decide +kernel,by decide +kernel⟩
theorem Jep:FnScope ["self"] ["self"] J81.scope:=⟨rfl,rfl,rfl,by decide +kernel,rfl,by decide +kernel,by decide +kernel⟩
theorem Je8:FnScope ["self"] ["self"] J7a.scope:=⟨rfl,rfl,rfl,by decide +kernel,rfl,by decide +kernel,by decide +kernel⟩
theorem Jon {P:Program} {w:World} {K:Zf} {mg:Str→Option Value} {base:Heap} {f:Addr} {fd:FuncData} (F:FunD K J2l.name J2l.qual J2l.params J2l.body J2l.scope [] [] f fd) (gL:mg "len" =none):FnOk P w K mg base (L2.CX P w) 1 f fd ["_law_bag_here", "_law_lot"] (spD K [.O (.O .Z),.Z] .Z J8w):=by
 refine F.ok J97 (fun vs H Q E h=>?_) (fun cdv A outer s H vs Q E hr h=>⟨Jip K,?_,Jiq vs H Q E h⟩)
 ·obtain ⟨B,ds,fp,_,ra,_⟩:=h
  rw [ra.len.1];rfl
 ·have nd:=J97.nd
  exact pss_cons (ps_set (i:=2) nd rfl (Or.inl rfl) (pe_ix ix_seq (pv 0) pe_int (J2c rfl)))
   (pss_cons (ps_set (i:=3) nd rfl (Or.inl rfl) (pe_op op_mod (pe_ix ix_seq (pv 0) pe_int (J2c rfl)) (pe_callB call_len_seq rfl gL boot_len (pa_cons (pv 2) pa_nil))))
   (pss_cons (ps_set (i:=4) nd rfl (Or.inl rfl) (pe_ix ix_seq (pv 2) (pv 3) (J2c rfl)))
   (pss_cons (ps_if (pt_cmpR op_ge (pv 4) (pe_op op_pow pe_int pe_int) (nobehind _ (by decide) (by decide))) (pss_cons (ps_asg (pe_op op_fdivW (pv 4) (pv 1)) (pg_sub (pv 2) (pv 3) set_list)) (pss_one (ps_ret (pe_op op_mod (pv 4) (pv 1))))) pss_nil)
   (pss_cons (ps_asg (pe_op op_add (pe_ix ix_seq (pv 0) pe_int (J2c rfl)) pe_int) (pg_sub (pv 0) pe_int set_list))
   (pss_cons (ps_asg (pe_op op_mod (pe_op op_mulW (pe_op op_add (pe_op op_add (pe_ix ix_seq (pv 0) pe_int (J2c rfl)) (pe_op op_mod (pv 4) pe_int)) pe_int) pe_int) pe_int) (pg_sub (pv 0) pe_int set_list))
   (pss_one (ps_ret (pe_op op_mod (pe_op op_fdivW (pe_ix ix_seq (pv 0) pe_int (J2c rfl)) pe_int) (pv 1)))))))))
theorem fm {P:Program} {w:World} {K:Zf} {mg:Str→Option Value} {base:Heap} {n k:Nat} {a:Fn} {l:List Fn} (h:FnAt P w K mg base k a) (t:∀f∈l,FnAt P w K mg base n f) (hk:k≤n:=by decide):∀f∈a::l,FnAt P w K mg base n f:=fun f hf=>(Zo.mp hf).elim (fun e=>by rw [e];exact h.mono hk) (t f)
theorem fnl {P:Program} {w:World} {K:Zf} {mg:Str→Option Value} {base:Heap} {n:Nat}:∀f∈([]:List Fn),FnAt P w K mg base n f:=fun _ h=>nomatch h
section
variable {P:Program} {w:World} {K:Zf} {mg:Str→Option Value} {base:Heap} {k j:Nat}
theorem fx0 {a:Df} {l:List Str} (free:∀x∈l,mg x=none) (h:∀x,x∈a.bl→x∈l) (e1:a.fl= []:=by rfl) (e2:a.ex= []:=by rfl) (e3:a.exm= []:=by rfl) (e4:a.gc= []:=by rfl) (e5:a.exf= []:=by rfl) (e6:a.xfa= []:=by rfl):Fx P w K mg base k a:=⟨fun x hx=>free x (h x hx),by rw [e1];exact (fun _ _ h=>nomatch h),by rw [e2];exact (fun _ _ h=>nomatch h),by rw [e3];exact (fun _ _ _ h=>nomatch h),by rw [e4];exact (fun _ _ h=>nomatch h),by rw [e5];exact (fun _ _ _ h=>nomatch h),by rw [e6];exact (fun _ _ h=>nomatch h)⟩
theorem fan:∀g∈([]:List Fn),FnAt P w K mg base k g:=fun _ h=>nomatch h
theorem fac {g:Fn} {l:List Fn} (h:FnAt P w K mg base j g) (t:∀z∈l,FnAt P w K mg base k z) (e:j≤k:=by decide):∀z∈g::l,FnAt P w K mg base k z:=fun z hz=>by
 rcases Zo.mp hz with rfl | hz
 ·exact h.mono e
 ·exact t z hz
end
theorem facts {P:Program} {w:World} {K:Zf} {h:Heap} {mg:Str→Option Value} {f:Addr} (X:K.In h) (G:h.Ns mainGlobals mg) (hfa:mg ("law" :Str)=some (.ref f)) (cy:Jct fa fn J9a Jjq w K):
  ∃fd:FuncData,(∀ (s:Shared) (v:Value),BindsTo s fd ⟨[v],[]⟩ [("_law_script",v)])∧∀base:Heap,K.In base→base.Ns mainGlobals mg→FnOk P w K mg base (L2.CX P w) 7 f fd ["_law_script"] (spD K [.F] .Z Jcj):=by
 have cx:=cy.x
 have c:=cx.d
 obtain ⟨fd1,F1⟩:=c.def_ 1 (d:=J2l) rfl
 obtain ⟨fd15,F15⟩:=c.def_ 15 (d:=J4z.d) rfl
 obtain ⟨fd16,F16⟩:=c.def_ 16 (d:=Jfo) rfl
 obtain ⟨fd17,F17⟩:=c.def_ 17 (d:=J81) rfl
 obtain ⟨fd18,F18⟩:=c.def_ 18 (d:=J7a) rfl
 have gl:∀ (i:Nat) (x:Str),fa[i]? =some (.glo x)→mg x=some (.ref (He.ga K x)):=fun i x e=>He.glo_ok X G (c.fact i (f:= .glo x) e)
 have fr:∀ (i:Nat) (x:Str),fa[i]? =some (.free x)→mg x=none:=fun i x e=>He.free_ok X G (c.fact i (f:= .free x) e)
 have Y6:=gl 1 "_law_pull" rfl
 have Y7:=gl 15 "law" rfl
 have Y3:=gl 16 "EdgeError" rfl
 have Y0:=gl 17 "BadSums" rfl
 have Y1:=gl 18 "BadTable" rfl
 have e:=hfa.symm.trans Y7
 cases e
 have free:∀x∈(["abs", "len", "range", "min", "list", "sum", "enumerate", "zip", "any"]:List Str),mg x=none:=fun x hx=>by
  simp only [Zo,List.not_mem_nil,or_false] at hx
  rcases hx with rfl | rfl | rfl | rfl | rfl | rfl | rfl | rfl | rfl
  ·exact fr 23 _ rfl
  ·exact fr 24 _ rfl
  ·exact fr 25 _ rfl
  ·exact fr 26 _ rfl
  ·exact fr 27 _ rfl
  ·exact fr 28 _ rfl
  ·exact fr 29 _ rfl
  ·exact fr 30 _ rfl
  ·exact fr 31 _ rfl
 have xE:=cx.more (Jjo "EdgeError") (by simp [J9a])
 unfold Jjo at xE
 rw [Zb] at xE
 have okE:=fun base:Heap=>Jne (P:=P) (w:=w) (mg:=mg) (base:=base) F16 Jom
 obtain ⟨dsE,vE,bE⟩:=F16.binds1 (ps:= ["self", "word"]) 2 1 (List.cons_ne_nil _ _) rfl fun T kV doc pm an cdv ct us its hu hi=>match us,hu,its,hi with | [_,_],_,[_],_=>⟨_,rfl,rfl⟩
 have dsE0:dsE= []:=by cases vE;rfl
 subst dsE0
 have xBadSums:=cx.more (Jaw "BadSums") (by simp [J9a])
 unfold Jaw at xBadSums
 rw [Zb,Zb] at xBadSums
 have okBadSums:=fun base:Heap=>Jhu (P:=P) (w:=w) (mg:=mg) (base:=base) F17 Jep (okE base) bE xE.1 xE.2 Y3 rfl (by decide +kernel) (by decide +kernel)
 have bBadSums:=F17.bindsN (ps:= ["self"]) fun _ _ _ _ _ _ us hl=>by obtain ⟨a0,rfl⟩:=ln1 hl;exact rfl
 have exBadSums:∀ (base:Heap) (k:Nat),3≤k→mg "BadSums" =some (.ref (He.ga K "BadSums"))∧OexC K (He.ga K "BadSums")∧J6g K (He.ga K "BadSums")=true∧PySem.W.findIn K (.ref (He.ga K "BadSums")) "word" =some none∧∃ (j:Nat) (fd:FuncData),j + 1≤k∧FnOk P w K mg base (L2.CX P w) j (He.ma K (He.ga K "BadSums") "__init__") fd ["self"] (J8r K "sums")∧Binds K fd ["self"] []:=fun base k hk=>⟨Y0,Jew xBadSums.1,xBadSums.2.1,Zd xBadSums.2.2,2,_,hk,okBadSums base,bBadSums⟩
 have xBadTable:=cx.more (Jaw "BadTable") (by simp [J9a])
 unfold Jaw at xBadTable
 rw [Zb,Zb] at xBadTable
 have okBadTable:=fun base:Heap=>Jhu (P:=P) (w:=w) (mg:=mg) (base:=base) F18 Je8 (okE base) bE xE.1 xE.2 Y3 rfl (by decide +kernel) (by decide +kernel)
 have bBadTable:=F18.bindsN (ps:= ["self"]) fun _ _ _ _ _ _ us hl=>by obtain ⟨a0,rfl⟩:=ln1 hl;exact rfl
 have exBadTable:∀ (base:Heap) (k:Nat),3≤k→mg "BadTable" =some (.ref (He.ga K "BadTable"))∧OexC K (He.ga K "BadTable")∧J6g K (He.ga K "BadTable")=true∧PySem.W.findIn K (.ref (He.ga K "BadTable")) "word" =some none∧∃ (j:Nat) (fd:FuncData),j + 1≤k∧FnOk P w K mg base (L2.CX P w) j (He.ma K (He.ga K "BadTable") "__init__") fd ["self"] (J8r K "table")∧Binds K fd ["self"] []:=fun base k hk=>⟨Y1,Jew xBadTable.1,xBadTable.2.1,Zd xBadTable.2.2,2,_,hk,okBadTable base,bBadTable⟩
 have exm0:PySem.W.exmOne K (.ref (He.ga K "BadSums")) (.ref (He.ga K "BadSums"))=some true∧mg "BadSums" =some (.ref (He.ga K "BadSums")):=⟨He.exm_ok (c.fact 19 (f:= .exm "BadSums" "BadSums" true) rfl),Y0⟩
 have exm1:PySem.W.exmOne K (.ref (He.ga K "BadSums")) (.ref (He.ga K "BadTable"))=some false∧mg "BadTable" =some (.ref (He.ga K "BadTable")):=⟨He.exm_ok (c.fact 20 (f:= .exm "BadSums" "BadTable" false) rfl),Y1⟩
 have exm2:PySem.W.exmOne K (.ref (He.ga K "BadTable")) (.ref (He.ga K "BadSums"))=some false∧mg "BadSums" =some (.ref (He.ga K "BadSums")):=⟨He.exm_ok (c.fact 21 (f:= .exm "BadTable" "BadSums" false) rfl),Y0⟩
 have exm3:PySem.W.exmOne K (.ref (He.ga K "BadTable")) (.ref (He.ga K "BadTable"))=some true∧mg "BadTable" =some (.ref (He.ga K "BadTable")):=⟨He.exm_ok (c.fact 22 (f:= .exm "BadTable" "BadTable" true) rfl),Y1⟩
 have gc_ROWS:GC K mg "ROWS" (.int 4):=Jdw X G (c.fact 32 (f:= .int "ROWS" 4) rfl)
 have gc_COLUMNS:GC K mg "COLUMNS" (.int 6):=Jdw X G (c.fact 33 (f:= .int "COLUMNS" 6) rfl)
 have gc_MOST:GC K mg "MOST" (.int 40):=Jdw X G (c.fact 34 (f:= .int "MOST" 40) rfl)
 have bl:=FunD.bindsA (ps:= ["_law_script"]) F15 fun _ _ _ _ _ _ us hl=>by obtain ⟨a0,rfl⟩:=ln1 hl;exact rfl
 refine ⟨fd15,fun s v=>bl s [v] rfl,fun base _ _=>?_⟩
 have Y8:FnAt P w K mg base 4 J5f:=dAt (a:=J5v) (fs:= []) c 0 (gl 0 _ rfl) Jh5 Jh2 bA1 fan (fxA (fre free))
 have Y2:FnAt P w K mg base 1 J7:=FnAt.plain rfl ⟨_,fd1,["_law_bag_here", "_law_lot"],[],[],Jon F1 (free _ (by decide)),Y6,F1.kp,F1.bindsN (fun _ _ _ _ _ _ us hl=>by obtain ⟨a0,a1,rfl⟩:=ln2 hl;exact rfl),.nil,fun B H=>⟨rfl,rfl⟩⟩
 have Y4:FnAt P w K mg base 4 J29:=dAt (a:=J5w) (fs:= [J7]) c 2 (gl 2 _ rfl) Jh6 Jh3 bA1 (fm Y2 fnl) (fxA (fre free))
 have Y9:FnAt P w K mg base 4 J1c:=dAt (a:=J3t) (fs:= []) c 3 (gl 3 _ rfl) Jcq Jco bA1 fan (fxA (fre free))
 have Ya:FnAt P w K mg base 5 J1w:=dAt (a:=J2i) (fs:= [J29,J7]) c 4 (gl 4 _ rfl) J9y J9w bA1 (fm Y4 (fm Y2 fnl)) (fxA (fre free))
 have Yb:FnAt P w K mg base 4 J17:=dAt (a:=J2j) (fs:= []) c 5 (gl 5 _ rfl) J9z J9x bA1 fan (fxA (fre free))
 have Yc:FnAt P w K mg base 4 J11:=dAt (a:=J2a) (fs:= []) c 6 (gl 6 _ rfl) J94 J93 bA1 fan (fxA (fre free))
 have Yd:FnAt P w K mg base 4 J41:=dAt (a:=J3u) (fs:= []) c 7 (gl 7 _ rfl) Jcr Jcp bA1 fan (fxA (fre free))
 have Ye:FnAt P w K mg base 5 Jr:=dAt (a:=J1j) (fs:= [J41]) c 8 (gl 8 _ rfl) J7x J7w bA1 (fm Yd fnl) (fxA (fre free))
 have Yf:FnAt P w K mg base 4 J3c:=dAt (a:=J4p) (fs:= []) c 9 (gl 9 _ rfl) Je7 Je6 bA1 fan (fxA (fre free) (gc:=(gm2 gc_ROWS (gm2 gc_COLUMNS (gm2 gc_MOST gn2)))))
 have Y5:FnAt P w K mg base 4 J1e:=dAt (a:=J3e) (fs:= []) c 10 (gl 10 _ rfl) Jbw Jbv bA1 fan (fxA (fre free))
 have Yg:FnAt P w K mg base 4 J2y:=dAt (a:=J58) (fs:= []) c 11 (gl 11 _ rfl) Jeo Jen bA2 fan (fxA (fre free))
 have Yh:FnAt P w K mg base 5 J77:=dAt (a:=Jat) (fs:= [J2y,J1e]) c 12 (gl 12 _ rfl) Jol Jok bA1 (fm Yg (fm Y5 fnl)) (fxA (fre free))
 have Yi:FnAt P w K mg base 4 J6d:=dAt (a:=J78) (fs:= []) c 13 (gl 13 _ rfl) Jj7 Jj6 bA2 fan (fxA (fre free))
 have Yj:FnAt P w K mg base 6 J5u:=dAt (a:=J8i) (fs:= [J3c,J1e,J77,J6d]) c 14 (gl 14 _ rfl) Jlo Jln bA2 (fm Yf (fm Y5 (fm Yh (fm Yi fnl)))) (fxA (fre free) (ex:=(gm2 (exBadTable base 5 (by decide)) (gm2 (exBadSums base 5 (by decide)) gn2))))
 exact Df.ok (a:=J4z) (fs:= [J5f,J29,J1c,J7,J1w,J17,J11,Jr,J5u]) (k:=6) F15 Jh7 Jh4 (fm Y8 (fm Y4 (fm Y9 (fm Y2 (fm Ya (fm Yb (fm Yc (fm Ye (fm Yj fnl))))))))) (fxA (fre free) (exm:=(gm3 exm3 (gm3 exm1 (gm3 exm2 (gm3 exm0 gn3))))))
end K48
namespace EV
open PySem PySem.Spec L2
theorem M.Ens.foldI {α σ:Type} {f:σ→α→M σ} (P:σ→Prop) {xs:List α} {s:σ} (h:P s) (k:∀x∈xs,∀s,P s→(f s x).Ens P): (M.fold xs s f).Ens P:=by
 induction xs generalizing s with
 | nil=>exact .ok h
 | cons x xs ih=>
  rw [M.fold_cons]
  exact (k x Zs s h).bind fun s' h'=>ih h' fun y hy=>k y (Zc _ hy)
theorem sum_set:∀{l:List Int} {i:Nat} (v:Int) (h:i < l.length),(l.set i v).sum=l.sum - l[i] + v
 | x::l,0,v,_=>by
  show v + l.sum=x + l.sum - x + v
  omega
 | x::l,i + 1,v,h=>by
  have h':i < l.length:=Nat.lt_of_succ_lt_succ h
  have ih:=sum_set (l:=l) (i:=i) v h'
  show x + (l.set i v).sum=x + l.sum - l[i] + v
  rw [ih];omega
theorem J8j:∀{l:List Int},(∀x∈l,0≤x)→0≤l.sum
 | [],_=>Int.le_refl 0
 | x::l,h=>by
  show 0≤x + l.sum
  have:=h x Zs
  have:=J8j (l:=l) fun y hy=>h y (Zc _ hy)
  omega
theorem Je9:∀{l:List Int} {y:Int},(∀x∈l,0≤x)→y∈l→y≤l.sum
 | x::l,y,h,m=>by
  show y≤x + l.sum
  have h0:=h x Zs
  have hl:∀z∈l,0≤z:=fun z hz=>h z (Zc _ hz)
  rcases Zo.mp m with rfl | m
  ·have:=J8j hl;omega
  ·have:=Je9 hl m;omega
structure Shape {α:Type} (g:List (List α)) (r c:Nat):Prop where
 len:g.length=r
 row:∀x∈g,x.length=c
theorem Shape.set {α:Type} {g:List (List α)} {r c i:Nat} {x:List α} (h:Shape g r c) (hx:x.length=c):Shape (g.set i x) r c:=
 ⟨by rw [List.length_set];exact h.len,fun y hy=>by
  rcases List.mem_or_eq_of_mem_set hy with q | rfl
  ·exact h.row y q
  ·exact hx⟩
theorem Shape.at_ {α:Type} {g:List (List α)} {r c i:Nat} (h:Shape g r c) (hi:i < g.length):g[i].length=c:=h.row _ (List.getElem_mem hi)
structure Tab (g:List (List Int)) (r c:Nat):Prop where
 sh:Shape g r c
 r1:1≤r
 r4:r≤4
 c1:1≤c
 c6:c≤6
 nn:∀x∈g,∀y∈x,0≤y
 tot: (g.map List.sum).sum≤40
noncomputable def setC {α:Type} (g:List (List α)) (i j:Nat) (v:α):List (List α):=match g[i]? with
 | some row=>g.set i (row.set j v)
 | none=>g
theorem J5i {α:Type} {g:List (List α)} {i j:Nat} {v:α} (hi:i < g.length):setC g i j v=g.set i (g[i].set j v):=by
 unfold setC
 rw [Ze hi]
theorem Joo {α:Type} {g:List (List α)} {r c:Nat} {i j:Int} {v:α} (h:Shape g r c) (i0:0≤i) (i1:i < r) (j0:0≤j) (j1:j < c):up2 g i (fun row=>putO row j v)=some (setC g i.toNat j.toNat v):=by
 have hi:i.toNat < g.length:=by rw [h.len];omega
 unfold up2
 rw [J8f i0 (by rw [h.len];exact i1),Option.bind_some,Ze hi,Option.bind_some]
 have hl:=h.at_ hi
 unfold putO
 dsimp only
 rw [J8f j0 (by rw [hl];exact j1),J5i hi]
 rfl
theorem Shape.setC {α:Type} {g:List (List α)} {r c i j:Nat} {v:α} (h:Shape g r c):Shape (setC g i j v) r c:=by
 unfold EV.setC
 split
 ·rename_i row e
  refine h.set ?_
  rw [List.length_set]
  exact h.row _ (List.mem_of_getElem? e)
 ·exact h
theorem Jlp {α:Type} {g:List (List α)} {r c i j:Nat} {v:α} {P:α→Prop} (h:∀x∈g,∀y∈x,P y) (hv:P v):∀x∈setC g i j v,∀y∈x,P y:=by
 intro x hx y hy
 unfold setC at hx
 split at hx
 ·rename_i row e
  rcases List.mem_or_eq_of_mem_set hx with q | rfl
  ·exact h x q y hy
  ·rcases List.mem_or_eq_of_mem_set hy with q | rfl
   ·exact h row (List.mem_of_getElem? e) y q
   ·exact hv
 ·exact h x hx y hy
theorem Jlq {g:List (List Int)} {i j:Nat} {v:Int} (hi:i < g.length) (hj:j < g[i].length): ((setC g i j v).map List.sum).sum= (g.map List.sum).sum - g[i][j] + v:=by
 rw [J5i hi,List.map_set,sum_set _ (by rw [List.length_map];exact hi),List.getElem_map,sum_set v hj]
 omega
theorem Js3 {α:Type} {g:List α} {i:Int} (i0:0≤i) (i1:i < g.length):∃hi:i.toNat < g.length,atM g i= .ok g[i.toNat]:=by
 have hi:i.toNat < g.length:=by omega
 exact ⟨hi,J22 i0 (Ze hi)⟩
theorem Jlr {α:Type} {g:List (List α)} {i j:Nat} {v:α} (hi:i < g.length) (hj:j < g[i].length):∃ (h1:i < (setC g i j v).length) (h2:j < (setC g i j v)[i].length),(setC g i j v)[i][j]=v:=by
 have e:=J5i (j:=j) (v:=v) hi
 refine ⟨by rw [e,List.length_set];exact hi,?_,?_⟩
 ·simp only [e,List.getElem_set_self,List.length_set];exact hj
 ·simp only [e,List.getElem_set_self]
structure AnyI (r c:Nat) (s:List (List Int) × Bag × Int):Prop where
 sh:Shape s.1 r c
 nn:∀x∈s.1,∀y∈x,0≤y
 tot: (s.1.map List.sum).sum + s.2.2≤40
 left:0≤s.2.2
 bag:s.2.1.good
theorem AnyI.le {r c:Nat} {s:List (List Int) × Bag × Int} (h:AnyI r c s):s.2.2≤40:=by
 have:=J8j (l:=s.1.map List.sum) fun x hx=>by
  obtain ⟨y,hy,rfl⟩:=Zm.mp hx
  exact J8j (h.nn y hy)
 have:=h.tot
 omega
theorem Jj8 (r:Nat) (row:List Int) (h:row.sum=0): ((List.replicate r row).map List.sum).sum=0:=by
 induction r with
 | zero=>rfl
 | succ r ih=>
  rw [List.replicate_succ,List.map_cons,List.sum_cons,ih,h];rfl
theorem Jea {b:Bag} (hb:b.good): (J3a b).Ens fun p=>(∃r c,Tab p.1 r c)∧p.2.good:=by
 unfold J3a
 refine (J1u hb).bind fun p hp=>?_
 rw [M.ok_bind]
 refine (J1u hp.2.2).bind fun p1 hp1=>?_
 rw [M.ok_bind]
 refine (J1u hp1.2.2).bind fun p2 hp2=>?_
 refine (J1u hp2.2.2).bind fun p3 hp3=>?_
 obtain ⟨h3,e3⟩:=Js3 (g:=([12,12,12,12,12,40]:List Int)) hp3.1 (by have:=hp3.2.1;simpa using this)
 rw [e3,M.ok_bind]
 have hu:0≤([12,12,12,12,12,40]:List Int)[p3.1.toNat]:=by
  have:∀x∈([12,12,12,12,12,40]:List Int),0≤x:=by decide
  exact this _ (List.getElem_mem h3)
 generalize ([12,12,12,12,12,40]:List Int)[p3.1.toNat]=u at hu
 obtain ⟨r,hr⟩:∃r:Nat,1 + p.1= (r:Int):=⟨(1 + p.1).toNat,by have:=hp.1;omega⟩
 obtain ⟨c,hc⟩:∃c:Nat,1 + p1.1= (c:Int):=⟨(1 + p1.1).toNat,by have:=hp1.1;omega⟩
 rw [hr,hc]
 have r1:1≤r:=by have:=hp.1;omega
 have r4:r≤4:=by have:=hp.2.1;omega
 have c1:1≤c:=by have:=hp1.1;omega
 have c6:c≤6:=by have:=hp1.2.1;omega
 have er:J2h 0 (r:Int)= .ok (J28 0 r):=by rw [J69 (by decide) (by decide) (by omega) (by omega)];simp
 have ec:J2h 0 (c:Int)= .ok (J28 0 c):=by rw [J69 (by decide) (by decide) (by omega) (by omega)];simp
 have em:J6s ([0]:List Int) (c:Int)= .ok (List.replicate c [0]).flatten:=by
  unfold J6s
  have z:sizeLine=16777216:=by decide +kernel
  rw [if_pos]
  ·rfl
  rw [z,Zb,Zb]
  exact ⟨Zt (by omega),Zt (by omega),Zt (by simp;omega)⟩
 have ez: (List.replicate c [(0:Int)]).flatten=List.replicate c 0:=by
  clear em ec c1 c6 hc
  induction c with
  | zero=>rfl
  | succ c ih=>rw [List.replicate_succ,List.flatten_cons,ih];rfl
 rw [er,M.ok_bind,M.mapM_ok (fun _=>List.replicate c (0:Int)) (fun x _=>by rw [em,M.ok_bind,ez]),M.ok_bind,M.ok_bind]
 have eg: (J28 0 r).map (fun _=>List.replicate c (0:Int))=List.replicate r (List.replicate c 0):=by
  rw [List.eq_replicate_iff]
  exact ⟨by rw [List.length_map,J5r],fun x hx=>by obtain ⟨_,_,rfl⟩:=Zm.mp hx;rfl⟩
 rw [eg]
 refine M.Ens.bind (P:=AnyI r c) ?_ fun s hs=> .ok ⟨⟨r,c,hs.sh,r1,r4,c1,c6,hs.nn,by
  have a:=hs.tot
  have b:=hs.left
  show (s.1.map List.sum).sum≤40
  omega⟩,hs.bag⟩
 refine M.Ens.foldI (AnyI r c) ⟨⟨by simp,fun x hx=>by rw [(List.mem_replicate.mp hx).2];simp⟩,fun x hx y hy=>?_,?_,hp2.1,hp3.2.2⟩ fun x hx s hs=>?_
 ·rw [(List.mem_replicate.mp hx).2] at hy
  rw [(List.mem_replicate.mp hy).2];exact Int.le_refl 0
 ·show ((List.replicate r (List.replicate c (0:Int))).map List.sum).sum + p2.1≤40
  rw [Jj8 r _ (by clear em ec c1 c6 hc ez eg;induction c with
   | zero=>rfl
   | succ c ih=>rw [List.replicate_succ,List.sum_cons,ih];rfl)]
  have:=hp2.2.1;omega
 ·have hx':=J6b.mp hx
  rw [ec,M.ok_bind]
  refine M.Ens.bind (P:=AnyI r c) ?_ fun s h=> .ok h
  refine M.Ens.foldI (AnyI r c) hs fun y hy s hs=>?_
  have hy':=J6b.mp hy
  have hle:=hs.le
  have hleft:=hs.left
  have hlot: (0:Int) < J68 s.2.2 u + 1∧J68 s.2.2 u + 1≤41∧J68 s.2.2 u≤s.2.2:=by
   unfold J68
   split <;> omega
  refine (J1u hs.bag hlot.1 (by omega)).bind fun p4 hp4=>?_
  rw [Joo hs.sh hx'.1 (by omega) hy'.1 (by omega),M.opt_some,M.ok_bind]
  have hi:x.toNat < s.1.length:=by rw [hs.sh.len];omega
  have hj:y.toNat < s.1[x.toNat].length:=by rw [hs.sh.at_ hi];omega
  obtain ⟨g1,g2,g3⟩:=Jlr (v:=p4.1) hi hj
  rw [J22 hx'.1 (Ze g1),M.ok_bind,J22 hy'.1 (Ze g2),M.ok_bind,M.ok_bind,g3]
  refine .ok ⟨hs.sh.setC,Jlp (r:=r) (c:=c) hs.nn hp4.1,?_,?_,hp4.2.2⟩
  ·show ((setC s.1 x.toNat y.toNat p4.1).map List.sum).sum + (s.2.2 - p4.1)≤40
   rw [Jlq hi hj]
   have:=hs.nn _ (List.getElem_mem hi) _ (List.getElem_mem hj)
   have:=hs.tot
   omega
  ·show 0≤s.2.2 - p4.1
   have:=hp4.2.1
   omega
theorem Tab.cell {g:List (List Int)} {r c:Nat} (h:Tab g r c):∀x∈g,∀y∈x,0≤y∧y≤40:=fun x hx y hy=>by
 refine ⟨h.nn x hx y hy,?_⟩
 have a:=Je9 (h.nn x hx) hy
 have b:=Je9 (l:=g.map List.sum) (y:=x.sum) (fun z hz=>by
  obtain ⟨w,hw,rfl⟩:=Zm.mp hz
  exact J8j (h.nn w hw)) (Zm.mpr ⟨x,hx,rfl⟩)
 have:=h.tot
 omega
noncomputable def sN:Nat→(Nat→Int)→Int
 | 0,_=>0
 | n + 1,f=>sN n f + f n
theorem Ju (n:Nat) (f:Nat→Int):sN (n + 1) f=sN n f + f n:=rfl
theorem J1r {f g:Nat→Int}:∀{n:Nat},(∀i,i < n→f i=g i)→sN n f=sN n g
 | 0,_=>rfl
 | n + 1,h=>by rw [Ju,Ju,J1r fun i hi=>h i (by omega),h n (by omega)]
theorem J8k (f g:Nat→Int):∀n:Nat,sN n (fun i=>f i + g i)=sN n f + sN n g
 | 0=>rfl
 | n + 1=>by rw [Ju,Ju,Ju,J8k f g n];omega
theorem J79 (a:Int) (f:Nat→Int):∀n:Nat,sN n (fun i=>a * f i)=a * sN n f
 | 0=>by show (0:Int)=a * 0;simp
 | n + 1=>by rw [Ju,Ju,J79 a f n,Int.mul_add]
theorem J90:∀n:Nat,sN n (fun _=>0)=0
 | 0=>rfl
 | n + 1=>by rw [Ju,J90 n];rfl
theorem Jbx (f:Nat→Nat→Int):∀m n:Nat,sN m (fun i=>sN n (f i))=sN n fun j=>sN m fun i=>f i j
 | 0,n=>by
  show (0:Int)=sN n fun j=>0
  rw [J90]
 | m + 1,n=>by
  rw [Ju,Jbx f m n,← J8k]
  rfl
theorem Jj9:∀xs:List Int,xs.sum=sN xs.length (fun i=>xs.getD i 0):=fun xs=>by
 have h:∀ (n:Nat) (xs:List Int),xs.length=n→xs.sum=sN n fun i=>xs.getD i 0:=by
  intro n
  induction n with
  | zero=>
   intro xs h
   cases xs with
   | nil=>rfl
   | cons _ _=>cases h
  | succ n ih=>
   intro xs h
   have e:xs=xs.take n++ [xs.getD n 0]:=by
    have hn:n < xs.length:=by omega
    rw [Zg,Ze hn,Option.getD_some]
    have:=List.take_append_drop n xs
    rw [List.drop_eq_getElem_cons hn,List.drop_of_length_le (by omega)] at this
    exact this.symm
   rw [Ju]
   have h1:=ih (xs.take n) (by rw [List.length_take];omega)
   have h2:sN n (fun i=>(xs.take n).getD i 0)=sN n fun i=>xs.getD i 0:=J1r fun i hi=>by
    rw [Zg,Zg,List.getElem?_take,if_pos hi]
   have h3:xs.sum= (xs.take n++ [xs.getD n 0]).sum:=congrArg List.sum e
   rw [h3,List.sum_append,h1,h2]
   simp
 exact h _ xs rfl
noncomputable def cl (g:List (List Int)) (i j:Nat):Int:=(g.getD i []).getD j 0
theorem Jja {g:List (List Int)} {i j:Nat} (hi:i < g.length) (hj:j < g[i].length):cl g i j=g[i][j]:=by
 unfold cl
 have e1:g.getD i []=g[i]:=by rw [Zg,Ze hi,Option.getD_some]
 rw [e1,Zg,Ze hj,Option.getD_some]
theorem cl_row {g:List (List Int)} {i:Nat} (hi:i < g.length):g[i].sum=sN g[i].length (cl g i):=by
 rw [Jj9]
 refine J1r fun j hj=>?_
 rw [Jja hi hj,Zg,Ze hj,Option.getD_some]
theorem Shape.cl_row {g:List (List Int)} {r c i:Nat} (h:Shape g r c) (hi:i < r): (g.getD i []).sum=sN c (cl g i):=by
 have hi':i < g.length:=by rw [h.len];exact hi
 rw [Zg,Ze hi',Option.getD_some,EV.cl_row hi',h.at_ hi']
theorem Jr5 {g:List (List Int)} {r c i j:Nat} {v:Int} (h:Shape g r c) (hi:i < r) (hj:j < c) (i' j':Nat):cl (setC g i j v) i' j'=if i'=i∧j'=j then v else cl g i' j':=by
 have hi':i < g.length:=by rw [h.len];exact hi
 have hj':j < g[i].length:=by rw [h.at_ hi'];exact hj
 rw [J5i hi']
 unfold cl
 by_cases e:i=i'
 ·subst e
  have e1: (g.set i (g[i].set j v)).getD i []=g[i].set j v:=by rw [Zg,List.getElem?_set,if_pos rfl,if_pos hi',Option.getD_some]
  have e0:g.getD i []=g[i]:=by rw [Zg,Ze hi',Option.getD_some]
  rw [e1,e0,Zg,List.getElem?_set]
  by_cases e2:j=j'
  ·subst e2
   rw [if_pos rfl,if_pos hj',Option.getD_some,if_pos ⟨rfl,rfl⟩]
  ·rw [if_neg e2,if_neg fun q=>e2 q.2.symm,Zg]
 ·have e1: (g.set i (g[i].set j v)).getD i' []=g.getD i' []:=by rw [Zg,List.getElem?_set,if_neg e,Zg]
  rw [e1,if_neg fun q=>e q.1.symm]
theorem Jby {σ:Type} {c:σ→M Bool} {f:σ→M σ} (P:Nat→σ→Prop) (step:∀k s,P k s→c s= .ok false∨(c s= .ok true∧(f s).Ens fun s'=>∃k',k' < k∧P k' s')):∀{n k:Nat} {s:σ},P k s→k < n→(M.whl n s c f).Ens fun s'=>(∃k',P k' s')∧c s'= .ok false
 | 0,k,s,_,hk=>absurd hk (by omega)
 | n + 1,k,s,h,hk=>by
  rw [M.whl_succ]
  rcases step k s h with e | ⟨e,q⟩
  ·rw [e,M.ok_bind,if_neg (by decide)]
   exact .ok ⟨⟨k,h⟩,e⟩
  ·rw [e,M.ok_bind,if_pos rfl]
   obtain ⟨s',e',k',hk',h'⟩:=q
   rw [e',M.ok_bind]
   exact Jby P step h' (by omega)
section
variable {α β:Type} [DecidableEq α]
end
noncomputable abbrev Duo:=Int × Int
theorem M.foldC_all {α ρ:Type} (p:α→Bool) (q:ρ) (f:Unit→α→M (Ctl Unit ρ)):∀ (xs:List α),(∀x∈xs,f () x= .ok (if p x=true then .nx () else .rt q))→M.foldC xs () f= .ok (if xs.all p=true then .nx () else .rt q)
 | [],_=>rfl
 | x::xs,h=>by
  rw [M.foldC_cons,h x Zs,M.ok_bind,List.all_cons]
  cases p x with
  | true=>
   simp only [if_true,Bool.true_and]
   exact M.foldC_all p q f xs fun y hy=>h y (Zc _ hy)
  | false=>rfl
theorem Jjb {xs:List Int} (h:0 < xs.length): (decide (J10 xs < 0))=!(xs.all fun y=>decide (0≤y)):=by
 obtain ⟨m,le⟩:=J3p h
 by_cases q:J10 xs < 0
 ·rw [Zt q]
  symm
  rw [Bool.not_eq_true',List.all_eq_false]
  exact ⟨_,m,by simpa using q⟩
 ·rw [decide_eq_false q]
  symm
  rw [Bool.not_eq_false',List.all_eq_true]
  exact fun y hy=>Zt (by have:=le y hy;omega)
theorem Jff (xs:List Int):∃v,Jgz xs 0= .ok v∧(decide (v < 0))=!(xs.all fun y=>decide (0≤y)):=by
 cases xs with
 | nil=>exact ⟨0,rfl,rfl⟩
 | cons x xs=>exact ⟨J10 (x::xs),rfl,Jjb (Nat.zero_lt_succ _)⟩
theorem Jeb {g:List (List Int)} {r c:Nat} (h:Shape g r c) (r1:1≤r) (r4:r≤4) (c1:1≤c) (c6:c≤6):J19 g= .ok ((g.all fun x=>x.all fun y=>decide (0≤y)) && decide ((g.map List.sum).sum≤40)):=by
 have h0:0 < g.length:=by rw [h.len];omega
 have e0:atM g 0= .ok g[0]:=J3s (i:=0) h0
 have l0:g[0].length=c:=h.at_ h0
 unfold J19
 rw [M.ok_bind]
 have b1: (!(decide (1≤(g.length:Int)) && decide ((g.length:Int)≤4)))=false:=by
  rw [h.len,Zt (by omega),Zt (by omega)];rfl
 rw [b1]
 simp only [Bool.false_eq_true,if_false]
 rw [e0,M.ok_bind,M.ok_bind,l0]
 have b2: (!(decide (1≤(c:Int)) && decide ((c:Int)≤6)))=false:=by
  rw [Zt (by omega),Zt (by omega)];rfl
 rw [b2]
 simp only [Bool.false_eq_true,if_false]
 rw [M.foldC_all (fun x:List Int=>x.all fun y=>decide (0≤y)) false _ g fun x hx=>?_]
 ·rw [M.ok_bind]
  cases (g.all fun x=>x.all fun y=>decide (0≤y)) <;> rfl
 ·rw [M.ok_bind,M.ok_bind,l0,h.row x hx]
  rw [Zt rfl]
  simp only [Bool.not_true,Bool.false_eq_true,if_false]
  obtain ⟨v,e,ev⟩:=Jff x
  rw [e,M.ok_bind,M.ok_bind,ev]
  cases (x.all fun y=>decide (0≤y)) <;> rfl
theorem Jck {α:Type} [Enc α] (L:List (List α)):Js L= .ok L:=by
 unfold Js
 rw [show (L.map fun x_:List α=>x_)=L from List.map_id' L]
theorem Jr6 {c:Nat} (h:c≤1000):J2h 0 (c:Int)= .ok (J28 0 c):=by rw [J69 (by decide) (by decide) (by omega) (by omega)];simp
noncomputable def tr {α:Type} (d:α) (g:List (List α)) (c:Nat):List (List α):=(List.range c).map fun j=>g.map fun row=>row.getD j d
theorem Jeq (n:Nat):J28 0 n= (List.range n).map fun i:Nat=>(i:Int):=by
 apply List.ext_getElem?
 intro i
 by_cases h:i < n
 ·rw [Jci 0 n i h,List.getElem?_map,List.getElem?_range h];simp
 ·rw [List.getElem?_eq_none (by rw [J5r];omega),List.getElem?_eq_none (by simp;omega)]
theorem J8l {α:Type} [Enc α] (d:α) {g:List (List α)} {r c:Nat} (h:Shape g r c) (r1:1≤r) (hc:c≤1000):J1q g= .ok (tr d g c):=by
 have h0:0 < g.length:=by rw [h.len];omega
 have e0:atM g 0= .ok g[0]:=J3s (i:=0) h0
 unfold J1q
 rw [e0,M.ok_bind,h.at_ h0,Jr6 hc,M.ok_bind]
 rw [M.mapM_ok (fun x:Int=>g.map fun row=>row.getD x.toNat d) fun x hx=>?_,M.ok_bind]
 ·rw [Jeq]
  unfold tr
  rw [List.map_map]
  congr 1
 ·have hx':=J6b.mp hx
  rw [M.mapM_ok (fun row:List α=>row.getD x.toNat d) fun row hrow=>?_,M.ok_bind]
  have hl:x.toNat < row.length:=by rw [h.row row hrow];omega
  rw [J22 hx'.1 (Ze hl),M.ok_bind,Zg,Ze hl];rfl
theorem Jcs {α:Type} [Enc α] (d:α) {g:List (List α)} {r c:Nat} (h:Shape g r c) (r1:1≤r) (hc:c≤1000):J3d g= .ok (tr d g c):=by
 have e:=J8l d h r1 hc
 unfold J1q at e
 unfold J3d
 exact e
theorem J5x {α:Type} {d:α} {g:List (List α)} {r c:Nat} (h:Shape g r c):Shape (tr d g c) c r:=by
 refine ⟨by unfold tr;simp,fun x hx=>?_⟩
 unfold tr at hx
 obtain ⟨j,_,rfl⟩:=Zm.mp hx
 rw [List.length_map,h.len]
noncomputable def tot (g:List (List Int)):Int:=(g.map List.sum).sum
theorem Jr7 {n:Nat} {d:Nat} {i:Int} (h0:0≤i) (h1:i≤n):HT.sIx n d (some i)=i.toNat:=by
 show (if i < 0 then (i + (n:Int)).toNat else min i.toNat n)=i.toNat
 rw [if_neg (by omega)]
 omega
theorem Jls {α:Type} {xs:List α} {i:Int} (h0:0≤i) (h1:i≤xs.length):J59 xs (some i) none=xs.drop i.toNat:=by
 unfold J59
 rw [Jr7 h0 h1]
 have e2:HT.sIx xs.length xs.length none=xs.length:=rfl
 rw [e2,List.take_of_length_le (by rw [List.length_drop];omega)]
noncomputable abbrev Fx1:=Int × (Int × Int)
noncomputable def Js4 (x:Fx1):List Int:=J28 x.2.1 (J68 x.2.2 x.1 + 1 - x.2.1).toNat
noncomputable def ext (x:Fx1) (one:List Int):List (List Int):=(Js4 x).map fun c=>one++ [c]
noncomputable def Jsu (xs:List Fx1) (found:List (List Int)):List (List Int):=xs.foldl (fun f x=>f.flatMap (ext x)) found
noncomputable def fills (rests:List Int) (many:Int) (pairs:List (Int × Int)):List (Tu Int):=((Jsu (rests.zip pairs) [[]]).filter fun o=>decide (o.sum=many)).map Tu.mk
noncomputable def pr (P:List (List Duo)) (i j:Nat):Duo:=(P.getD i []).getD j (0,0)
noncomputable abbrev Cm:=List (Int × Option Int)
section
variable {N:Nat} {src:Int→Prop} {E:Int→Int→Prop} {l:Cm}
end
section
variable {m n:Nat} {g:List (List Int)} {P:List (List Duo)} {over:List Int}
end
theorem Jop {g:List (List Int)} {r c:Nat} {i j:Int} {op:Int→Int→Int} {y:Int} (h:Shape g r c) (i0:0≤i) (i1:i < r) (j0:0≤j) (j1:j < c):up2 g i (J4w op j y)=some (setC g i.toNat j.toNat (op (cl g i.toNat j.toNat) y)):=by
 have hi:i.toNat < g.length:=by rw [h.len];omega
 have hj:j.toNat < g[i.toNat].length:=by rw [h.at_ hi];omega
 unfold up2 J4w
 rw [J8f i0 (by rw [h.len];exact i1),Option.bind_some,Ze hi,Option.bind_some,if_pos j0,Ze hj,J5i hi,Jja hi hj];rfl
noncomputable def rs (n:Nat) (g:List (List Int)) (i:Nat):Int:=sN n (cl g i)
noncomputable def cs (m:Nat) (g:List (List Int)) (j:Nat):Int:=sN m fun i=>cl g i j
noncomputable def J2k (s:Int):List Int→Option Nat
 | []=>none
 | x::xs=>if 0 < x * s then some 0 else (J2k s xs).map (· + 1)
theorem J8m {s:Int}:∀{xs:List Int},J2k s xs=none→∀x∈xs,¬0 < x * s
 | [],_,x,hx=>by cases hx
 | y::xs,h,x,hx=>by
  have h': (if 0 < y * s then some 0 else (J2k s xs).map (· + 1))=none:=h
  by_cases q:0 < y * s
  ·rw [if_pos q] at h';cases h'
  ·rw [if_neg q,Option.map_eq_none_iff] at h'
   rcases Zo.mp hx with rfl | hx
   ·exact q
   ·exact J8m h' x hx
theorem J6f {s:Int}:∀{xs:List Int} {n:Nat},J2k s xs=some n→∃x,xs[n]? =some x∧0 < x * s
 | [],n,h=>by cases h
 | y::xs,n,h=>by
  have h': (if 0 < y * s then some 0 else (J2k s xs).map (· + 1))=some n:=h
  by_cases q:0 < y * s
  ·rw [if_pos q] at h'
   cases h'
   exact ⟨y,rfl,q⟩
  ·rw [if_neg q] at h'
   obtain ⟨m,hm,rfl⟩:=Option.map_eq_some_iff.mp h'
   obtain ⟨x,e,z⟩:=J6f hm
   exact ⟨x,by rw [List.getElem?_cons_succ];exact e,z⟩
theorem J98 {s:Int} (hs:s=1∨s= -1):∀{row:List Int} {k:Nat},(∀x∈row, -1000≤x∧x≤1000)→
  M.foldC (J1d k row) () (fun (s_:Unit) (x_:Int × Int)=>M.bind (Jbo x_.2 s) fun v_=>if decide (0 < v_)=true then (.ok (.rt (some x_.1))) else (.ok (.nx ())))= .ok (match J2k s row with
   | none=> .nx ()
   | some n=> .rt (some (((k + n:Nat):Int))):Ctl Unit (Option Int))
 | [],k,_=>rfl
 | x::row,k,h=>by
  have hx:=h x Zs
  show M.foldC (((k:Int),x)::J1d (k + 1) row) () _=_
  rw [M.foldC_cons,Joh (by omega) (by omega) (by omega) (by omega),M.ok_bind]
  show M.bind (if decide (0 < x * s)=true then _ else _) _= .ok (match (if 0 < x * s then some 0 else (J2k s row).map (· + 1)) with
   | none=>Ctl.nx ()
   | some n=>Ctl.rt (some (((k + n:Nat):Int))))
  by_cases q:0 < x * s
  ·rw [if_pos (Zt q),if_pos q,M.ok_bind];rfl
  ·rw [if_neg (by rw [decide_eq_true_eq];exact q),if_neg q,M.ok_bind]
   refine (J98 hs (row:=row) (k:=k + 1) fun y hy=>h y (Zc _ hy)).trans ?_
   cases J2k s row with
   | none=>rfl
   | some n=>
    show M.ok (Ctl.rt (some (((k + 1 + n:Nat):Int))))=M.ok (Ctl.rt (some (((k + (n + 1):Nat):Int))))
    rw [show k + 1 + n=k + (n + 1) by omega]
theorem J8n {s:Int} (hs:s=1∨s= -1) {row:List Int} (h:∀x∈row, -1000≤x∧x≤1000):J1b row s= .ok ((J2k s row).map fun n=>(n:Int)):=by
 unfold J1b
 have f:=J98 hs (row:=row) (k:=0) h
 show M.bind (M.foldC (J1d 0 row) () _) _=_
 rw [f,M.ok_bind]
 cases J2k s row with
 | none=>rfl
 | some n=>
  show M.ok (some (((0 + n:Nat):Int)))=M.ok (some ((n:Int)))
  rw [Nat.zero_add]
structure Apt (A:List (List Int)) (r c:Nat):Prop where
 sh:Shape A r c
 r1:1≤r
 r4:r≤4
 c1:1≤c
 c6:c≤6
 bd:∀i j, -40≤cl A i j∧cl A i j≤40
 row:∀i,i < r→(sN c fun j=>cl A i j)=0
 col:∀j,j < c→(sN r fun i=>cl A i j)=0
theorem Jjc {f:Nat→Int}:∀{n:Nat},(∀i,i < n→0≤f i)→0≤sN n f∧(∀i,i < n→f i≤sN n f)
 | 0,_=>⟨Int.le_refl _,fun i hi=>absurd hi (Nat.not_lt_zero _)⟩
 | n + 1,h=>by
  obtain ⟨a,b⟩:=Jjc (n:=n) fun i hi=>h i (by omega)
  have:=h n (by omega)
  rw [Ju]
  refine ⟨by omega,fun i hi=>?_⟩
  by_cases e:i=n
  ·subst e;omega
  ·have:=b i (by omega)
   omega
theorem Jfg {f:Nat→Int} {n:Nat} (h:sN n f=0) {i:Nat} (hi:i < n) (s:Int) (hs:s=1∨s= -1) (hneg:f i * s < 0):∃j,j < n∧0 < f j * s:=by
 apply Classical.byContradiction
 intro no
 have nn:∀j,j < n→0≤ -(f j * s):=fun j hj=>by
  have:¬0 < f j * s:=fun z=>no ⟨j,hj,z⟩
  omega
 obtain ⟨_,b⟩:=Jjc nn
 have e:sN n (fun j=> -(f j * s))= -s * sN n f:=by
  rw [← J79]
  refine J1r fun j _=>?_
  rw [Int.neg_mul,Int.mul_comm]
 have:=b i hi
 rw [e,h,Int.mul_zero] at this
 omega
theorem Apt.rowG {A:List (List Int)} {r c:Nat} (h:Apt A r c) {i:Nat} (hi:i < r):A[i]? =some (A.getD i [])∧(A.getD i []).length=c∧(∀x∈A.getD i [], -1000≤x∧x≤1000)∧∀j,j < c→(A.getD i [])[j]? =some (cl A i j):=by
 have hl:i < A.length:=by rw [h.sh.len];exact hi
 have e:A[i]? =some (A.getD i []):=by
  rw [Zg,Ze hl];rfl
 have l:=h.sh.row _ (List.mem_of_getElem? e)
 have g:∀j,j < c→(A.getD i [])[j]? =some (cl A i j):=fun j hj=>by
  unfold cl
  rw [Zg (l:=A.getD i []),Ze (by omega)];rfl
 refine ⟨e,l,fun x hx=>?_,g⟩
 obtain ⟨j,hj,ej⟩:=List.getElem_of_mem hx
 have:=g j (by omega)
 rw [Ze hj,ej] at this
 have b:=h.bd i j
 rw [← Option.some.inj this] at b
 omega
theorem Apt.colG {A:List (List Int)} {r c:Nat} (h:Apt A r c) {j:Nat} (hj:j < c): (tr 0 A c)[j]? =some (A.map fun row=>row.getD j 0)∧(A.map fun row=>row.getD j 0).length=r∧(∀x∈A.map fun row=>row.getD j 0, -1000≤x∧x≤1000)∧∀i,i < r→(A.map fun row=>row.getD j 0)[i]? =some (cl A i j):=by
 have g:∀i,i < r→(A.map fun row=>row.getD j 0)[i]? =some (cl A i j):=fun i hi=>by
  rw [List.getElem?_map,(h.rowG hi).1];rfl
 have l: (A.map fun row=>row.getD j 0).length=r:=by rw [List.length_map,h.sh.len]
 refine ⟨?_,l,fun x hx=>?_,g⟩
 ·unfold tr
  rw [List.getElem?_map,List.getElem?_range hj];rfl
 ·obtain ⟨i,hi,ei⟩:=List.getElem_of_mem hx
  have:=g i (by omega)
  rw [Ze hi,ei] at this
  have b:=h.bd i j
  rw [← Option.some.inj this] at b
  omega
noncomputable def toN (A:List (List Int)) (i:Nat):Nat:=(J2k 1 (A.getD i [])).getD 0
noncomputable def nxN (A:List (List Int)) (i:Nat):Nat:=(J2k (-1) (A.map fun row=>row.getD (toN A i) 0)).getD 0
noncomputable def Jec (A:List (List Int)) (r c i:Nat):Prop:=i < r∧∃j,j < c∧0 < cl A i j
theorem Apt.step {A:List (List Int)} {r c:Nat} (h:Apt A r c) {i:Nat} (hp:Jec A r c i):J2k 1 (A.getD i [])=some (toN A i)∧toN A i < c∧0 < cl A i (toN A i)∧J2k (-1) (A.map fun row=>row.getD (toN A i) 0)=some (nxN A i)∧nxN A i < r∧cl A (nxN A i) (toN A i) < 0∧Jec A r c (nxN A i):=by
 obtain ⟨hi,j,hj,hpos⟩:=hp
 obtain ⟨g1,g2,g3,g4⟩:=h.rowG hi
 have e1:J2k 1 (A.getD i [])=some (toN A i):=by
  cases e:J2k 1 (A.getD i []) with
  | none=>exact absurd (by rw [Int.mul_one];exact hpos) (J8m e _ (List.mem_of_getElem? (g4 j hj)))
  | some n=>unfold toN;rw [e];rfl
 obtain ⟨x,ex,px⟩:=J6f e1
 have lt:toN A i < c:=by
  have:=(List.getElem?_eq_some_iff.mp ex).1
  omega
 have c1:0 < cl A i (toN A i):=by
  have:=g4 _ lt
  rw [ex] at this
  rw [← Option.some.inj this];omega
 obtain ⟨_,k2,k3,k4⟩:=h.colG lt
 have e2:J2k (-1) (A.map fun row=>row.getD (toN A i) 0)=some (nxN A i):=by
  cases e:J2k (-1) (A.map fun row=>row.getD (toN A i) 0) with
  | none=>
   obtain ⟨m,hm,z⟩:=Jfg (f:=fun m=>cl A m (toN A i)) (h.col _ lt) hi (-1) (.inr rfl) (by omega)
   exact absurd z (J8m e _ (List.mem_of_getElem? (k4 m hm)))
  | some n=>unfold nxN;rw [e];rfl
 obtain ⟨y,ey,py⟩:=J6f e2
 have lt2:nxN A i < r:=by
  have:=(List.getElem?_eq_some_iff.mp ey).1
  omega
 have c2:cl A (nxN A i) (toN A i) < 0:=by
  have:=k4 _ lt2
  rw [ey] at this
  rw [← Option.some.inj this];omega
 refine ⟨e1,lt,c1,e2,lt2,c2,lt2,?_⟩
 obtain ⟨m,hm,z⟩:=Jfg (f:=fun j=>cl A (nxN A i) j) (h.row _ lt2) lt 1 (.inl rfl) (by omega)
 exact ⟨m,hm,by omega⟩
noncomputable def orb (A:List (List Int)) (a:Nat):Nat→Nat
 | 0=>a
 | k + 1=>nxN A (orb A a k)
noncomputable def Jn (b T:Nat→Nat):Nat→List (Int × Int)
 | 0=> []
 | m + 1=>Jn b T m++ [((b m:Int),(T m:Int)),((b (m + 1):Int),(T m:Int))]
theorem pairs_len (b T:Nat→Nat):∀m,(Jn b T m).length=2 * m
 | 0=>rfl
 | m + 1=>by
  show (Jn b T m++_).length=_
  rw [List.length_append,pairs_len b T m,List.length_cons,List.length_cons,List.length_nil];omega
theorem Jau (b T:Nat→Nat) (t:Nat):∀m,(Jn b T (t + m)).drop (2 * t)=Jn (fun s=>b (t + s)) (fun s=>T (t + s)) m
 | 0=>by
  rw [Nat.add_zero]
  exact List.drop_eq_nil_of_le (by rw [pairs_len];omega)
 | m + 1=>by
  show (Jn b T (t + m)++_).drop (2 * t)=_
  rw [List.drop_append_of_le_length (by rw [pairs_len];omega),Jau b T t m];rfl
structure Ring (A:List (List Int)) (r c:Nat) (b T:Nat→Nat) (m:Nat):Prop where
 m1:1≤m
 back:b m=b 0
 in_:∀s,s < m→b s < r∧T s < c∧b (s + 1) < r∧0 < cl A (b s) (T s)∧cl A (b (s + 1)) (T s) < 0
 inj:∀s s',s < m→s' < m→b s=b s'→s=s'
noncomputable def seenL (A:List (List Int)) (a k:Nat):List (Int × Int):=(List.range k).map fun t=>((orb A a t:Int),((2 * t:Nat):Int))
theorem seen_lk {A:List (List Int)} {a:Nat} (x:Nat):∀k,(∀s s',s < k→s' < k→orb A a s=orb A a s'→s=s')→(Dc.lk (seenL A a k) (x:Int)=none∧∀t,t < k→orb A a t≠x)∨∃t,t < k∧orb A a t=x∧Dc.lk (seenL A a k) (x:Int)=some ((2 * t:Nat):Int):=by
 have key:∀ (l:List Nat),(l.Pairwise fun s s'=>orb A a s≠orb A a s')→(Dc.lk (l.map fun t=>((orb A a t:Int),((2 * t:Nat):Int))) (x:Int)=none∧∀t∈l,orb A a t≠x)∨∃t∈l,orb A a t=x∧Dc.lk (l.map fun t=>((orb A a t:Int),((2 * t:Nat):Int))) (x:Int)=some ((2 * t:Nat):Int):=by
  intro l
  induction l with
  | nil=>intro _;exact .inl ⟨rfl,fun t ht=>nomatch ht⟩
  | cons y l ih=>
   intro hp
   obtain ⟨_,hp2⟩:=List.pairwise_cons.mp hp
   rw [List.map_cons]
   by_cases q:orb A a y=x
   ·refine .inr ⟨y,Zs,q,?_⟩
    show (if ((orb A a y:Int))= (x:Int) then some _ else _)=_
    rw [if_pos (by omega)]
   ·have e:Dc.lk (((orb A a y:Int),((2 * y:Nat):Int))::l.map fun t=>((orb A a t:Int),((2 * t:Nat):Int))) (x:Int)=Dc.lk (l.map fun t=>((orb A a t:Int),((2 * t:Nat):Int))) (x:Int):=by
     show (if ((orb A a y:Int))= (x:Int) then some _ else _)=_
     rw [if_neg (by omega)]
    rw [e]
    rcases ih hp2 with ⟨h1,h2⟩ | ⟨t,h1,h2,h3⟩
    ·refine .inl ⟨h1,fun t ht=>?_⟩
     rcases Zo.mp ht with rfl | ht
     ·exact q
     ·exact h2 t ht
    ·exact .inr ⟨t,Zc _ h1,h2,h3⟩
 intro k hd
 have pw: (List.range k).Pairwise fun s s'=>orb A a s≠orb A a s':=by
  refine (List.nodup_iff_pairwise_ne.mp List.nodup_range).imp_of_mem fun {s s'} hs hs' n e=>n ?_
  exact hd s s' (List.mem_range.mp hs) (List.mem_range.mp hs') e
 rcases key (List.range k) pw with ⟨h1,h2⟩ | ⟨t,h1,h2,h3⟩
 ·exact .inl ⟨h1,fun t ht=>h2 t (List.mem_range.mpr ht)⟩
 ·exact .inr ⟨t,List.mem_range.mp h1,h2,h3⟩
theorem Apt.orbP {A:List (List Int)} {r c a:Nat} (h:Apt A r c) (hp:Jec A r c a):∀k,Jec A r c (orb A a k)
 | 0=>hp
 | k + 1=>(h.step (h.orbP hp k)).2.2.2.2.2.2
theorem Jed:∀{r:Nat} {l:List Nat},l.Nodup→(∀x∈l,x < r)→l.length≤r
 | 0,[],_,_=>Nat.le_refl _
 | 0,x::l,_,h=>absurd (h x Zs) (Nat.not_lt_zero _)
 | r + 1,l,nd,h=>by
  have ih:=Jed (r:=r) (l:=l.erase r) (nd.erase r) fun x hx=>by
   have h1:=h x (List.mem_of_mem_erase hx)
   have h2:x≠r:=fun e=>by
    subst e
    exact (nd.not_mem_erase) hx
   omega
  by_cases q:r∈l
  ·rw [List.length_erase_of_mem q] at ih
   omega
  ·rw [List.erase_of_not_mem q] at ih
   omega
theorem Jr8 {f:Nat→Nat} {r:Nat}:∀{k:Nat},(∀s,s < k→f s < r)→(∀s s',s < k→s' < k→f s=f s'→s=s')→k≤r:=by
 intro k h1 h2
 have nd: ((List.range k).map f).Nodup:=by
  rw [List.nodup_iff_pairwise_ne,List.pairwise_map]
  refine (List.nodup_iff_pairwise_ne.mp List.nodup_range).imp_of_mem fun {s s'} hs hs' n e=>n ?_
  exact h2 s s' (List.mem_range.mp hs) (List.mem_range.mp hs') e
 have:=Jed nd fun x hx=>by
  obtain ⟨s,hs,rfl⟩:=Zm.mp hx
  exact h1 s (List.mem_range.mp hs)
 rw [List.length_map,List.length_range] at this
 exact this
theorem start_fold:∀{rows:List (List Int)} {k:Nat},(∀row∈rows,∀x∈row, -1000≤x∧x≤1000)→
  (M.foldC (J1d k rows) (none:Option Int) (fun (s_: (Option Int)) (x_:Int × (List Int))=>M.bind (J1b x_.2 1) fun v_=>
   M.optc v_ (.ok (.nx s_)) (fun to_=>M.bind (.ok ((some x_.1):Option Int)) fun at_=> .ok (.bk at_)))= .ok (Ctl.nx none:Ctl (Option Int) (Option (List (Int × Int)))))∨
  ∃n row,rows[n]? =some row∧(∃m,J2k 1 row=some m)∧(M.foldC (J1d k rows) (none:Option Int) (fun (s_: (Option Int)) (x_:Int × (List Int))=>M.bind (J1b x_.2 1) fun v_=>
   M.optc v_ (.ok (.nx s_)) (fun to_=>M.bind (.ok ((some x_.1):Option Int)) fun at_=> .ok (.bk at_)))= .ok (Ctl.bk (some (((k + n:Nat):Int))):Ctl (Option Int) (Option (List (Int × Int)))))
 | [],k,_=> .inl rfl
 | row::rows,k,h=>by
  rw [show J1d k (row::rows)= ((k:Int),row)::J1d (k + 1) rows from rfl,M.foldC_cons,J8n (.inl rfl) (h row Zs)]
  cases q:J2k 1 row with
  | none=>
   rcases start_fold (rows:=rows) (k:=k + 1) fun r hr=>h r (Zc _ hr) with z | ⟨n,r',z1,z2,z3⟩
   ·exact .inl z
   ·refine .inr ⟨n + 1,r',by rw [List.getElem?_cons_succ];exact z1,z2,?_⟩
    rw [show k + (n + 1)=k + 1 + n by omega]
    exact z3
  | some m=>exact .inr ⟨0,row,rfl,⟨m,q⟩,rfl⟩
theorem Jfh {A:List (List Int)} {r c:Nat} (h:Apt A r c): (J4o A).Ens fun o=>o=none∨∃b T m,o=some (Jn b T m)∧Ring A r c b T m:=by
 have r4:=h.r4
 have c6:=h.c6
 have bd:∀row∈A,∀x∈row, -1000≤x∧x≤1000:=fun row hr=>by
  obtain ⟨i,hi,e⟩:=List.getElem_of_mem hr
  obtain ⟨g1,_,g3,_⟩:=h.rowG (i:=i) (by rw [← h.sh.len];exact hi)
  rw [Ze hi,e] at g1
  rw [Option.some.inj g1];exact g3
 unfold J4o
 rcases start_fold (rows:=A) (k:=0) bd with z | ⟨a,row,z1,⟨m0,z2⟩,z3⟩
 ·rw [z,M.ok_bind,Ctl.go_nx,M.optc_none]
  exact .ok (.inl rfl)
 rw [z3,M.ok_bind,Ctl.go_bk,M.optc_some,J8l 0 h.sh h.r1 (by omega),M.ok_bind,M.ok_bind,M.ok_bind,Nat.zero_add]
 have ha:a < r:=by
  have:=(List.getElem?_eq_some_iff.mp z1).1
  rw [h.sh.len] at this;exact this
 have hp:Jec A r c a:=by
  obtain ⟨g1,g2,g3,g4⟩:=h.rowG ha
  rw [z1] at g1
  have er:=Option.some.inj g1
  obtain ⟨x,ex,px⟩:=J6f z2
  rw [er] at ex
  have lt:m0 < c:=by
   have:=(List.getElem?_eq_some_iff.mp ex).1
   omega
  refine ⟨ha,m0,lt,?_⟩
  have:=g4 m0 lt
  rw [ex] at this
  rw [← Option.some.inj this];omega
 have hP:=h.orbP hp
 let T:Nat→Nat:=fun t=>toN A (orb A a t)
 let St:Nat→(Dc Int Int) × (List (Int × Int)) × Int:=fun k=>(⟨seenL A a k⟩,Jn (orb A a) T k,(orb A a k:Int))
 let Inj:Nat→Prop:=fun k=>∀s s',s < k→s' < k→orb A a s=orb A a s'→s=s'
 have kr:∀k,Inj k→k≤r:=fun k hk=>Jr8 (fun s hs=>(hP s).1) hk
 have W:=Jby (c:=fun (s_2: (Dc Int Int) × (List (Int × Int)) × Int)=>M.bind (.ok (!(Dc.lk s_2.1.l s_2.2.2).isSome)) fun b_=> .ok b_) (f:=fun (s_2: (Dc Int Int) × (List (Int × Int)) × Int)=>M.bind (.ok (s_2.2.1.length:Int)) fun v_2=>
  M.bind (J8y s_2.1 (s_2.2.2:Int) (v_2:Int)) fun seen_1=>
  M.bind (atM A s_2.2.2) fun v_3=>
  M.bind (J1b v_3 1) fun v_4=>
  M.bind (M.opt v_4) fun to_1=>
  M.bind (M.opt (J39 s_2.2.1 (s_2.2.2,to_1))) fun cells_1=>
  M.bind (atM (tr 0 A c) to_1) fun v_5=>
  M.bind (J1b v_5 (-1)) fun v_6=>
  M.bind (M.opt v_6) fun at_2=>
  M.bind (M.opt (J39 cells_1 (at_2,to_1))) fun cells_2=>
  .ok (seen_1,cells_2,at_2)) (fun n s=>∃k,n=r + 1 - k∧s=St k∧Inj k) (fun n s ⟨k,hn,hs,hk⟩=>by
   subst hs
   have hkr:=kr k hk
   have pl:=pairs_len (orb A a) T k
   rcases seen_lk (A:=A) (a:=a) (orb A a k) k hk with ⟨q1,q2⟩ | ⟨t,q1,q2,q3⟩
   ·right
    refine ⟨by
     show M.bind (.ok (!(Dc.lk (seenL A a k) ((orb A a k:Nat):Int)).isSome)) _=_
     rw [q1];rfl,?_⟩
    obtain ⟨s1,s2,s3,s4,s5,s6,_⟩:=h.step (hP k)
    obtain ⟨g1,g2,g3,_⟩:=h.rowG (hP k).1
    obtain ⟨k1,k2,k3,_⟩:=h.colG s2
    have e1:J8y (⟨seenL A a k⟩:Dc Int Int) ((orb A a k:Nat):Int) ((2 * k:Nat):Int)= .ok ⟨seenL A a (k + 1)⟩:=by
     have sz: (seenL A a k).length < sizeLine:=by
      rw [sizeLine_eq]
      unfold seenL
      rw [List.length_map,List.length_range];omega
     refine (if_pos sz).trans ?_
     have:Dc.putL (seenL A a k) ((orb A a k:Nat):Int) ((2 * k:Nat):Int)=seenL A a (k + 1):=by
      unfold Dc.putL
      rw [q1]
      unfold seenL
      rw [List.range_succ,List.map_append];rfl
     rw [this]
    have e2:atM A ((orb A a k:Nat):Int)= .ok (A.getD (orb A a k) []):=J22 (by omega) (by rw [Int.toNat_natCast];exact g1)
    have e3:atM (tr 0 A c) ((toN A (orb A a k):Nat):Int)= .ok (A.map fun row=>row.getD (toN A (orb A a k)) 0):=J22 (by omega) (by rw [Int.toNat_natCast];exact k1)
    show (M.bind (.ok (((Jn (orb A a) T k).length:Nat):Int)) _).Ens _
    rw [M.ok_bind,pl]
    show (M.bind (J8y (⟨seenL A a k⟩:Dc Int Int) ((orb A a k:Nat):Int) ((2 * k:Nat):Int)) _).Ens _
    rw [e1,M.ok_bind]
    show (M.bind (atM A ((orb A a k:Nat):Int)) _).Ens _
    rw [e2,M.ok_bind,J8n (.inl rfl) g3,M.ok_bind,s1]
    show (M.bind (M.opt (some ((toN A (orb A a k):Nat):Int))) _).Ens _
    rw [M.opt_some,M.ok_bind]
    show (M.bind (M.opt (J39 (Jn (orb A a) T k) (((orb A a k:Nat):Int),((toN A (orb A a k):Nat):Int)))) _).Ens _
    rw [Jbt (by omega),M.opt_some,M.ok_bind,e3,M.ok_bind,J8n (.inr rfl) k3,M.ok_bind,s4]
    show (M.bind (M.opt (some ((nxN A (orb A a k):Nat):Int))) _).Ens _
    rw [M.opt_some,M.ok_bind,Jbt (by rw [List.length_append,List.length_cons,List.length_nil];omega),M.opt_some,M.ok_bind]
    refine .ok ⟨r + 1 - (k + 1),by omega,k + 1,rfl,?_,?_⟩
    ·show (_,_,_)= (_,Jn (orb A a) T k++_,_)
     rw [List.append_assoc];rfl
    ·intro s s' hs hs' e
     by_cases x1:s=k
     ·by_cases x2:s'=k
      ·omega
      ·exact absurd (by rw [← e,x1]) (q2 s' (by omega))
     ·by_cases x2:s'=k
      ·exact absurd (by rw [e,x2]) (q2 s (by omega))
      ·exact hk s s' (by omega) (by omega) e
   ·left
    show M.bind (.ok (!(Dc.lk (seenL A a k) ((orb A a k:Nat):Int)).isSome)) _=_
    rw [q3];rfl) (n:=1000000000000) (k:=r + 1 - 0) (s:=St 0) ⟨0,rfl,rfl,fun s s' hs=>absurd hs (Nat.not_lt_zero _)⟩ (by omega)
 show (M.bind (M.whl 1000000000000 (St 0) _ _) _).Ens _
 refine W.bind fun s hs=>?_
 obtain ⟨⟨n,k,_,rfl,hk⟩,hc⟩:=hs
 have pl:=pairs_len (orb A a) T k
 have hkr:=kr k hk
 rcases seen_lk (A:=A) (a:=a) (orb A a k) k hk with ⟨q1,q2⟩ | ⟨t,q1,q2,q3⟩
 ·exfalso
  have hc':M.bind (.ok (!(Dc.lk (seenL A a k) ((orb A a k:Nat):Int)).isSome)) (fun b_=> .ok b_)= .ok false:=hc
  rw [q1] at hc'
  cases hc'
 ·show (M.bind (M.opt (Dc.lk (seenL A a k) ((orb A a k:Nat):Int))) _).Ens _
  rw [q3,M.opt_some,M.ok_bind]
  refine .ok (.inr ⟨fun s=>orb A a (t + s),fun s=>T (t + s),k - t,?_,?_⟩)
  ·show some (J59 (Jn (orb A a) T k) (some ((2 * t:Nat):Int)) none)=_
   rw [Jls (by omega) (by rw [pl];omega),Int.toNat_natCast]
   have:=Jau (orb A a) T t (k - t)
   rw [show t + (k - t)=k by omega] at this
   rw [this]
  ·refine ⟨by omega,?_,fun s hs=>?_,fun s s' hs hs' e=>?_⟩
   ·show orb A a (t + (k - t))=orb A a (t + 0)
    rw [show t + (k - t)=k by omega,Nat.add_zero,q2]
   ·obtain ⟨s1,s2,s3,s4,s5,s6,_⟩:=h.step (hP (t + s))
    exact ⟨(hP (t + s)).1,s2,s5,s3,s6⟩
   ·have:=hk (t + s) (t + s') (by omega) (by omega) e
    omega
noncomputable def ch:Nat→Nat→Nat
 | _,0=>1
 | 0,_ + 1=>0
 | n + 1,k + 1=>ch n k + ch n (k + 1)
theorem J99 {α σ:Type} (f:σ→α→M σ):∀ (xs ys:List α) (s:σ),M.fold (xs++ys) s f= (M.fold xs s f).bind fun s=>M.fold ys s f
 | [],ys,s=>rfl
 | x::xs,ys,s=>by
  rw [List.cons_append,M.fold_cons,M.fold_cons,M.bind_assoc]
  congr;funext s;exact J99 f xs ys s
theorem Jee {α:Type}:∀ (xs ys:List α) (k:Nat),J1d k (xs++ys)=J1d k xs++J1d (k + xs.length) ys
 | [],ys,k=>rfl
 | x::xs,ys,k=>by
  show ((k:Int),x)::J1d (k + 1) (xs++ys)= ((k:Int),x):: (J1d (k + 1) xs++J1d (k + (xs.length + 1)) ys)
  rw [Jee xs ys (k + 1),show k + 1 + xs.length=k + (xs.length + 1) by omega]
noncomputable def eqI (a b:Nat):Int:=if a=b then 1 else 0
noncomputable def eqP (a b i j:Nat):Int:=if a=i∧b=j then 1 else 0
noncomputable def eE (b T:Nat→Nat) (m i j:Nat):Int:=sN m fun s=>eqP (b s) (T s) i j - eqP (b (s + 1)) (T s) i j
noncomputable def wkF (many:Int) (s_:List (List Int)) (x_1:Int × (Int × Int)):M (List (List Int)):=M.bind (M.bind (M.bind (Jbp x_1.1 2) fun v_=>
 if decide (v_=0)=true then (.ok many) else (.ok (0 - many))) fun v_1=> .ok v_1) fun y_=>
 M.bind (M.opt (up2 s_ x_1.2.1 (J4w (fun i j=>i + j) x_1.2.2 y_))) fun told_1=> .ok told_1
theorem Jjd {B:List (List Int)} {r c i j:Nat} {many:Int} (h:Shape B r c) (hi:i < r) (hj:j < c) (n:Nat):∃B',wkF many B ((n:Int),((i:Int),(j:Int)))= .ok B'∧Shape B' r c∧∀i' j',cl B' i' j'=cl B i' j' + (if n % 2=0 then many else 0 - many) * eqP i j i' j':=by
 have e0:Jbp (n:Int) 2= .ok (((n % 2:Nat)):Int):=by
  rw [Joi (by decide)];rfl
 have sel: (if decide ((((n % 2:Nat)):Int)=0)=true then (M.ok many) else (.ok (0 - many)))= .ok (if n % 2=0 then many else 0 - many):=by
  by_cases q:n % 2=0
  ·rw [if_pos q,if_pos (by rw [decide_eq_true_eq];omega)]
  ·rw [if_neg q,if_neg (by rw [decide_eq_true_eq];omega)]
 refine ⟨setC B i j (cl B i j + (if n % 2=0 then many else 0 - many)),?_,?_,fun i' j'=>?_⟩
 ·unfold wkF
  dsimp only
  rw [e0,M.ok_bind,sel,M.ok_bind,M.ok_bind,Jop h (by omega) (by omega) (by omega) (by omega),Int.toNat_natCast,Int.toNat_natCast,M.opt_some,M.ok_bind]
 ·have hl:i < B.length:=by rw [h.len];exact hi
  rw [J5i hl]
  refine h.set ?_
  rw [List.length_set]
  exact h.row _ (List.getElem_mem hl)
 ·rw [Jr5 h hi hj]
  generalize (if n % 2=0 then many else 0 - many)=y
  unfold eqP
  by_cases q:i'=i∧j'=j
  ·rw [if_pos q,if_pos ⟨q.1.symm,q.2.symm⟩,q.1,q.2,Int.mul_one]
  ·rw [if_neg q,if_neg fun z=>q ⟨z.1.symm,z.2.symm⟩,Int.mul_zero,Int.add_zero]
theorem Jfi {A:List (List Int)} {r c:Nat} {many:Int} {b T:Nat→Nat} (h:Shape A r c):∀{m:Nat},(∀s,s < m→b s < r∧T s < c∧b (s + 1) < r)→∃B,M.fold (J1d 0 (Jn b T m)) A (wkF many)= .ok B∧Shape B r c∧∀i j,cl B i j=cl A i j + many * eE b T m i j
 | 0,_=>⟨A,rfl,h,fun i j=>by
  show _=cl A i j + many * 0
  rw [Int.mul_zero,Int.add_zero]⟩
 | m + 1,hs=>by
  obtain ⟨B,e,sB,cB⟩:=Jfi h (m:=m) fun s hs'=>hs s (by omega)
  obtain ⟨h1,h2,h3⟩:=hs m (by omega)
  obtain ⟨B1,e1,s1,c1⟩:=Jjd (many:=many) sB h1 h2 (2 * m)
  obtain ⟨B2,e2,s2,c2⟩:=Jjd (many:=many) s1 h3 h2 (2 * m + 1)
  refine ⟨B2,?_,s2,fun i j=>?_⟩
  ·show M.fold (J1d 0 (Jn b T m++ [((b m:Int),(T m:Int)),((b (m + 1):Int),(T m:Int))])) A (wkF many)=_
   rw [Jee,J99,e,M.ok_bind,pairs_len,Nat.zero_add]
   show M.fold [(((2 * m:Nat):Int),((b m:Int),(T m:Int))),(((2 * m + 1:Nat):Int),((b (m + 1):Int),(T m:Int)))] B (wkF many)=_
   rw [M.fold_cons,e1,M.ok_bind,M.fold_cons,e2,M.ok_bind];rfl
  ·rw [c2,c1,cB,if_pos (by omega),if_neg (by omega)]
   show _=cl A i j + many * (eE b T m i j + (eqP (b m) (T m) i j - eqP (b (m + 1)) (T m) i j))
   rw [Int.mul_add,Int.mul_sub,Int.sub_mul,Int.zero_mul]
   omega
theorem Jje {t:Nat}:∀{n:Nat},n≤t→sN n (fun j=>eqI t j)=0
 | 0,_=>rfl
 | n + 1,h=>by
  rw [Ju,Jje (n:=n) (by omega)]
  unfold eqI
  rw [if_neg (by omega)];rfl
theorem Jh8 {t:Nat}:∀{n:Nat},t < n→sN n (fun j=>eqI t j)=1
 | 0,h=>absurd h (Nat.not_lt_zero _)
 | n + 1,h=>by
  rw [Ju]
  by_cases q:t=n
  ·subst q
   rw [Jje (Nat.le_refl _)]
   unfold eqI
   rw [if_pos rfl];rfl
  ·rw [Jh8 (n:=n) (by omega)]
   unfold eqI
   rw [if_neg q];rfl
theorem Jfj (a t i:Nat) {n:Nat} (ht:t < n):sN n (fun j=>eqP a t i j)=eqI a i:=by
 have e:∀j,eqP a t i j=eqI a i * eqI t j:=fun j=>by
  unfold eqP eqI
  by_cases q:a=i
  ·by_cases p:t=j
   ·rw [if_pos ⟨q,p⟩,if_pos q,if_pos p];rfl
   ·rw [if_neg fun z=>p z.2,if_neg p,Int.mul_zero]
  ·rw [if_neg fun z=>q z.1,if_neg q,Int.zero_mul]
 rw [J1r fun j _=>e j,J79,Jh8 ht,Int.mul_one]
theorem Jfk (a t j:Nat) {n:Nat} (ha:a < n):sN n (fun i=>eqP a t i j)=eqI t j:=by
 have e:∀i,eqP a t i j=eqI t j * eqI a i:=fun i=>by
  unfold eqP eqI
  by_cases q:a=i
  ·by_cases p:t=j
   ·rw [if_pos ⟨q,p⟩,if_pos q,if_pos p];rfl
   ·rw [if_neg fun z=>p z.2,if_neg p,Int.zero_mul]
  ·rw [if_neg fun z=>q z.1,if_neg q,Int.mul_zero]
 rw [J1r fun i _=>e i,J79,Jh8 ha,Int.mul_one]
theorem Jbz (f g:Nat→Int) (n:Nat):sN n (fun i=>f i - g i)=sN n f - sN n g:=by
 have:=J8k (fun i=>f i - g i) g n
 have e:sN n (fun i=>f i - g i + g i)=sN n f:=J1r fun i _=>by omega
 rw [e] at this
 omega
theorem Jr9 (f:Nat→Int):∀m,sN m (fun s=>f s - f (s + 1))=f 0 - f m
 | 0=>by show (0:Int)=f 0 - f 0;omega
 | m + 1=>by rw [Ju,Jr9 f m];omega
theorem Jra {b T:Nat→Nat} {m r c:Nat} (hs:∀s,s < m→b s < r∧T s < c∧b (s + 1) < r) (hb:b m=b 0) (i:Nat):sN c (fun j=>eE b T m i j)=0:=by
 unfold eE
 rw [Jbx]
 have:sN m (fun s=>sN c fun j=>eqP (b s) (T s) i j - eqP (b (s + 1)) (T s) i j)=sN m fun s=>eqI (b s) i - eqI (b (s + 1)) i:=J1r fun s hs'=>by
  obtain ⟨_,h2,_⟩:=hs s hs'
  rw [Jbz,Jfj _ _ _ h2,Jfj _ _ _ h2]
 rw [this,Jr9 (fun s=>eqI (b s) i),hb];omega
theorem Jrb {b T:Nat→Nat} {m r c:Nat} (hs:∀s,s < m→b s < r∧T s < c∧b (s + 1) < r) (j:Nat):sN r (fun i=>eE b T m i j)=0:=by
 unfold eE
 rw [Jbx]
 have:sN m (fun s=>sN r fun i=>eqP (b s) (T s) i j - eqP (b (s + 1)) (T s) i j)=sN m fun _=>0:=J1r fun s hs'=>by
  obtain ⟨h1,_,h3⟩:=hs s hs'
  rw [Jbz,Jfk _ _ _ h1,Jfk _ _ _ h3];omega
 rw [this,J90]
theorem Jfl {f:Nat→Int} {m:Nat} (h01:∀s,s < m→f s=0∨f s=1) (uq:∀s s',s < m→s' < m→f s=1→f s'=1→s=s'): (sN m f=0∧∀s,s < m→f s=0)∨(sN m f=1∧∃s,s < m∧f s=1):=by
 induction m with
 | zero=>exact .inl ⟨rfl,fun s hs=>absurd hs (Nat.not_lt_zero _)⟩
 | succ m ih=>
  rw [Ju]
  rcases ih (fun s hs=>h01 s (by omega)) (fun s s' a b=>uq s s' (by omega) (by omega)) with ⟨a,b⟩ | ⟨a,t,b,d⟩
  ·rcases h01 m (by omega) with z | z
   ·refine .inl ⟨by omega,fun s hs=>?_⟩
    by_cases e:s=m
    ·rw [e];exact z
    ·exact b s (by omega)
   ·exact .inr ⟨by omega,m,by omega,z⟩
  ·rcases h01 m (by omega) with z | z
   ·exact .inr ⟨by omega,t,by omega,d⟩
   ·have:=uq t m (by omega) (by omega) d z
    omega
theorem Jjf (a t i j:Nat):eqP a t i j=0∨eqP a t i j=1:=by
 unfold eqP
 split
 ·exact .inr rfl
 ·exact .inl rfl
theorem J3v {a t i j:Nat} (h:eqP a t i j=1):a=i∧t=j:=by
 unfold eqP at h
 split at h
 ·assumption
 ·cases h
theorem eE_cases {A:List (List Int)} {r c m:Nat} {b T:Nat→Nat} (R:Ring A r c b T m) (i j:Nat): (eE b T m i j=0∧∀s,s < m→¬ (b s=i∧T s=j))∨(eE b T m i j=1∧∃s,s < m∧b s=i∧T s=j)∨(eE b T m i j= -1∧∃s,s < m∧b (s + 1)=i∧T s=j):=by
 have e:eE b T m i j=sN m (fun s=>eqP (b s) (T s) i j) - sN m (fun s=>eqP (b (s + 1)) (T s) i j):=Jbz _ _ _
 have p:=Jfl (f:=fun s=>eqP (b s) (T s) i j) (m:=m) (fun s _=>Jjf _ _ _ _) fun s s' a d x y=>R.inj s s' a d (by rw [(J3v x).1,(J3v y).1])
 have q:=Jfl (f:=fun s=>eqP (b (s + 1)) (T s) i j) (m:=m) (fun s _=>Jjf _ _ _ _) fun s s' a d x y=>by
  have z:b (s + 1)=b (s' + 1):=by rw [(J3v x).1,(J3v y).1]
  by_cases u:s + 1=m
  ·by_cases v:s' + 1=m
   ·omega
   ·rw [u,R.back] at z
    have:=R.inj 0 (s' + 1) R.m1 (by omega) z
    omega
  ·by_cases v:s' + 1=m
   ·rw [v,R.back] at z
    have:=R.inj (s + 1) 0 (by omega) R.m1 z
    omega
   ·have:=R.inj (s + 1) (s' + 1) (by omega) (by omega) z
    omega
 rcases p with ⟨p1,p2⟩ | ⟨p1,s,p2,p3⟩
 ·rcases q with ⟨q1,q2⟩ | ⟨q1,s',q2,q3⟩
  ·refine .inl ⟨by rw [e,p1,q1];rfl,fun s hs z=>?_⟩
   have:=p2 s hs
   unfold eqP at this
   rw [if_pos z] at this
   cases this
  ·exact .inr (.inr ⟨by rw [e,p1,q1];rfl,s',q2,(J3v q3).1,(J3v q3).2⟩)
 ·rcases q with ⟨q1,q2⟩ | ⟨q1,s',q2,q3⟩
  ·exact .inr (.inl ⟨by rw [e,p1,q1];rfl,s,p2,(J3v p3).1,(J3v p3).2⟩)
  ·exfalso
   obtain ⟨x1,x2⟩:=J3v p3
   obtain ⟨y1,y2⟩:=J3v q3
   obtain ⟨_,_,_,u,_⟩:=R.in_ s p2
   obtain ⟨_,_,_,_,v⟩:=R.in_ s' q2
   rw [x1,x2] at u
   rw [y1,y2] at v
   omega
noncomputable def mu (A:List (List Int)) (r c:Nat):Int:=sN r fun i=>sN c fun j=>J30 (cl A i j)
theorem J5y {f g:Nat→Int}:∀{n:Nat},(∀i,i < n→f i≤g i)→sN n f≤sN n g
 | 0,_=>Int.le_refl _
 | n + 1,h=>by
  have:=J5y (n:=n) fun i hi=>h i (by omega)
  have:=h n (by omega)
  rw [Ju,Ju];omega
theorem Jef {f g:Nat→Int}:∀{n:Nat},(∀i,i < n→f i≤g i)→(∃i,i < n∧f i < g i)→sN n f < sN n g
 | 0,_,⟨i,hi,_⟩=>absurd hi (Nat.not_lt_zero _)
 | n + 1,h,⟨i,hi,hlt⟩=>by
  have hn:=h n (by omega)
  rw [Ju,Ju]
  by_cases e:i=n
  ·subst e
   have:=J5y (n:=i) fun k hk=>h k (by omega)
   omega
  ·have:=Jef (n:=n) (fun k hk=>h k (by omega)) ⟨i,by omega,hlt⟩
   omega
theorem absI_cases (x:Int): (0≤x∧J30 x=x)∨(x < 0∧J30 x= -x):=by
 unfold J30
 by_cases q:x < 0
 ·rw [if_pos q];exact .inr ⟨q,rfl⟩
 ·rw [if_neg q];exact .inl ⟨by omega,rfl⟩
theorem Jh9 {A B:List (List Int)} {r c m:Nat} {b T:Nat→Nat} {many:Int} (h:Apt A r c) (R:Ring A r c b T m) (m1:1≤many) (hm:∀s,s < m→many≤cl A (b s) (T s)∧cl A (b (s + 1)) (T s)≤ -many) (sB:Shape B r c) (cB:∀i j,cl B i j=cl A i j + (0 - many) * eE b T m i j):Apt B r c∧mu B r c < mu A r c:=by
 have hs:∀s,s < m→b s < r∧T s < c∧b (s + 1) < r:=fun s hs'=>by
  obtain ⟨x,y,z,_⟩:=R.in_ s hs'
  exact ⟨x,y,z⟩
 have each:∀i j,(-40≤cl B i j∧cl B i j≤40)∧J30 (cl B i j)≤J30 (cl A i j)∧((∃s,s < m∧b s=i∧T s=j)→J30 (cl B i j) < J30 (cl A i j)):=fun i j=>by
  have bd:=h.bd i j
  rcases eE_cases R i j with ⟨e,no⟩ | ⟨e,s,hs',x,y⟩ | ⟨e,s,hs',x,y⟩
  ·have cb:=cB i j
   rw [e,Int.mul_zero,Int.add_zero] at cb
   rw [cb]
   exact ⟨bd,Int.le_refl _,fun ⟨s,hs',z⟩=>absurd z (no s hs')⟩
  ·have k:=(hm s hs').1
   rw [x,y] at k
   have cb:=cB i j
   rw [e,Int.mul_one] at cb
   rcases absI_cases (cl A i j) with ⟨u1,u2⟩ | ⟨u1,u2⟩ <;> rcases absI_cases (cl B i j) with ⟨v1,v2⟩ | ⟨v1,v2⟩ <;> rw [u2,v2] <;> refine ⟨?_,?_,fun _=>?_⟩ <;> omega
  ·have k:=(hm s hs').2
   rw [x,y] at k
   have cb:=cB i j
   rw [e] at cb
   have cb':cl B i j=cl A i j + many:=by rw [cb];omega
   rcases absI_cases (cl A i j) with ⟨u1,u2⟩ | ⟨u1,u2⟩ <;> rcases absI_cases (cl B i j) with ⟨v1,v2⟩ | ⟨v1,v2⟩ <;> rw [u2,v2] <;> refine ⟨?_,?_,fun _=>?_⟩ <;> omega
 refine ⟨⟨sB,h.r1,h.r4,h.c1,h.c6,fun i j=>(each i j).1,fun i hi=>?_,fun j hj=>?_⟩,?_⟩
 ·rw [J1r fun j _=>cB i j,J8k,J79,h.row i hi,Jra hs R.back i];omega
 ·rw [J1r fun i _=>cB i j,J8k,J79,h.col j hj,Jrb hs j];omega
 ·refine Jef (fun i _=>J5y fun j _=>(each i j).2.1) ?_
  obtain ⟨x,y,_⟩:=R.in_ 0 R.m1
  exact ⟨b 0,x,Jef (fun j _=>(each (b 0) j).2.1) ⟨T 0,y,(each (b 0) (T 0)).2.2 ⟨0,R.m1,rfl,rfl⟩⟩⟩
structure C_Net where
 sides: (Tu Int) × (Tu Int)
 pairs:Tu (Tu (Int × Int))
 levels:List (List (Tu Int))
 counted:Dc (Int × (Tu Int)) (Int × Int)
 deriving DecidableEq
noncomputable instance:Enc C_Net:=⟨fun t=> .obj "Net" ["sides", "pairs", "levels", "counted"] [E t.sides,E t.pairs,E t.levels,E t.counted]⟩
section
variable {m n:Nat} {R C:List Int} {P:List (List Duo)} {T g:List (List Int)}
theorem getD_map {α β:Type} (f:α→β) (d:α) (xs:List α) (i:Nat): (xs.map f).getD i (f d)=f (xs.getD i d):=by
 rw [Zg,Zg,List.getElem?_map]
 cases xs[i]? <;> rfl
theorem Joq {f:Nat→Int} {xs:List Int} (hl:xs.length=m) (h:∀i,i < m→xs.getD i 0=f i):xs.sum=sN m f:=by
 rw [Jj9,hl];exact J1r h
end
theorem Jor {α:Type} {x:α} {n:Nat} (h:n≤1000):J6s [x] (n:Int)= .ok (List.replicate n x):=by
 unfold J6s
 have z:sizeLine=16777216:=by decide +kernel
 rw [if_pos]
 ·congr 1
  rw [Int.toNat_natCast]
  clear h
  induction n with
  | zero=>rfl
  | succ n ih=>rw [List.replicate_succ,List.flatten_cons,ih];rfl
 ·rw [z,Zb,Zb]
  exact ⟨Zt (by omega),Zt (by omega),Zt (by simp;omega)⟩
noncomputable def J4q (g:List (List Int)) (c:Nat):List Int:=(tr 0 g c).map List.sum
theorem Jlt (g:List (List Int)) (c:Nat): (J4q g c).length=c:=by
 unfold J4q tr
 rw [List.length_map,List.length_map,List.length_range]
theorem Jlu {g:List (List Int)} {r c j:Nat} (h:Shape g r c) (hj:j < c): (J4q g c).getD j 0=cs r g j:=by
 unfold J4q
 have e0: (tr 0 g c)[j]? =some (g.map fun row=>row.getD j 0):=by
  unfold tr;rw [List.getElem?_map,List.getElem?_range hj];rfl
 rw [Zg,List.getElem?_map,e0]
 show (g.map fun row=>row.getD j 0).sum=_
 exact Joq (by rw [List.length_map,h.len]) fun i hi=>getD_map (fun row:List Int=>row.getD j 0) [] g i
noncomputable def behind (rests x:Tu Int):Tu Int:=Tu.mk ((rests.l.zip x.l).map fun (x_2:Int × Int)=>(x_2.1 - x_2.2))
noncomputable def Jsv (L:List (List Duo)) (j:Nat):List Duo:=L.map fun row=>row.getD j (0,0)
noncomputable def nxt (C:List Int) (L:List (List Duo)) (j:Nat) (rests:Tu Int):List (Tu Int × Tu Int):=(fills rests.l (C.getD j 0) (Jsv L j)).map fun x=>(x,behind rests x)
noncomputable def tt (x:Tu Int):Tu Int × Bool:=(x,true)
section
variable {r c N:Nat} {R C:List Int} {L:List (List Duo)}
end
section
variable {r c N:Nat} {R C:List Int} {L:List (List Duo)}
end
section
variable {α β:Type} [DecidableEq α]
end
section
variable {r c N:Nat} {R C:List Int} {L:List (List Duo)}
end
noncomputable def ms:List Nat→Nat→(List Nat→List Nat→Int)→Int
 | [],m,f=>if m=0 then f [] [] else 0
 | a::x,m,f=>sN (a + 1) fun k=>if k≤m then ms x (m - k) (fun p y=>f (k::p) ((a - k)::y)) else 0
noncomputable def cc:List Nat→List Nat→Nat
 | a::x,k::p=>ch a k * cc x p
 | _,_=>1
section
variable {r c N:Nat} {R C:List Int} {L:List (List Duo)}
end
noncomputable abbrev Fd:=List (List Int) × List Int
section
variable {r c N:Nat} {R C:List Int} {L:List (List Duo)}
noncomputable def stp (C:List Int) (L:List (List Duo)) (j:Nat) (p:Fd):List Fd:=(nxt C L j (Tu.mk p.2)).map fun q=>(p.1++ [q.1.l],q.2.l)
end
section
variable {r c N:Nat} {R C:List Int} {L:List (List Duo)}
end
section
variable {r c N:Nat} {R C:List Int} {L:List (List Duo)}
end
section
variable {r c N:Nat} {R C:List Int} {L:List (List Duo)}
end
section
variable {r c N:Nat} {R C:List Int} {L:List (List Duo)}
end
section
variable {r c N:Nat} {R C:List Int} {L:List (List Duo)}
end
section
variable {r c N:Nat} {R C:List Int} {L:List (List Duo)}
theorem J7y (g:List (List Int)):∃b,J19 g= .ok b∧(b=true↔∃r c,Tab g r c):=by
 by_cases hl:1≤g.length∧g.length≤4
 ·have h0:0 < g.length:=by omega
  have e0:atM g 0= .ok g[0]:=J3s (i:=0) h0
  by_cases hc:1≤g[0].length∧g[0].length≤6
  ·by_cases hs:∀x∈g,x.length=g[0].length
   ·refine ⟨_,Jeb ⟨rfl,hs⟩ hl.1 hl.2 hc.1 hc.2,?_⟩
    rw [Zb,List.all_eq_true,decide_eq_true_iff]
    constructor
    ·rintro ⟨h1,h2⟩
     refine ⟨g.length,g[0].length,⟨rfl,hs⟩,hl.1,hl.2,hc.1,hc.2,fun x hx y hy=>?_,h2⟩
     have:=List.all_eq_true.mp (h1 x hx) y hy
     exact Zd this
    ·rintro ⟨r,c,ht⟩
     exact ⟨fun x hx=>List.all_eq_true.mpr fun y hy=>Zt (ht.nn x hx y hy),ht.tot⟩
   ·refine ⟨false,?_,⟨(fun z=>by cases z),fun ⟨r,c,ht⟩=>absurd (fun x hx=>by rw [ht.sh.row x hx,ht.sh.row _ (List.getElem_mem h0)]) hs⟩⟩
    unfold J19
    rw [M.ok_bind]
    have b1: (!(decide ((1:Int)≤(g.length:Int)) && decide ((g.length:Int)≤4)))=false:=by
     rw [Zt (by omega),Zt (by omega)];rfl
    rw [b1]
    simp only [Bool.false_eq_true,if_false]
    rw [e0,M.ok_bind,M.ok_bind]
    have b2: (!(decide ((1:Int)≤(g[0].length:Int)) && decide ((g[0].length:Int)≤6)))=false:=by
     rw [Zt (by omega),Zt (by omega)];rfl
    rw [b2]
    simp only [Bool.false_eq_true,if_false]
    rw [M.foldC_all (fun x:List Int=>decide (x.length=g[0].length) && x.all fun y=>decide (0≤y)) false _ g fun x hx=>?_]
    ·have: (g.all fun x:List Int=>decide (x.length=g[0].length) && x.all fun y=>decide (0≤y))=false:=by
      rw [Bool.eq_false_iff]
      intro q
      rw [List.all_eq_true] at q
      exact hs fun x hx=>by
       have:=q x hx
       rw [Zb] at this
       exact Zd this.1
     rw [this];rfl
    ·rw [M.ok_bind,M.ok_bind]
     by_cases e:x.length=g[0].length
     ·rw [Zt (by omega: ((x.length:Int)= (g[0].length:Int))),Zt e]
      simp only [Bool.not_true,Bool.false_eq_true,if_false,Bool.true_and]
      obtain ⟨v,e,ev⟩:=Jff x
      rw [e,M.ok_bind,M.ok_bind,ev]
      cases (x.all fun y=>decide (0≤y)) <;> rfl
     ·rw [decide_eq_false (by omega:¬ ((x.length:Int)= (g[0].length:Int))),decide_eq_false e]
      rfl
  ·refine ⟨false,?_,⟨(fun z=>by cases z),fun ⟨r,c,ht⟩=>absurd (by rw [ht.sh.row _ (List.getElem_mem h0)];exact ⟨ht.c1,ht.c6⟩) hc⟩⟩
   unfold J19
   rw [M.ok_bind]
   have b1: (!(decide ((1:Int)≤(g.length:Int)) && decide ((g.length:Int)≤4)))=false:=by
    rw [Zt (by omega),Zt (by omega)];rfl
   rw [b1]
   simp only [Bool.false_eq_true,if_false]
   rw [e0,M.ok_bind,M.ok_bind]
   have b2: (!(decide ((1:Int)≤(g[0].length:Int)) && decide ((g[0].length:Int)≤6)))=true:=by
    by_cases e1:1≤g[0].length
    ·rw [decide_eq_false (p:=((g[0].length:Int)≤6)) (by omega),Bool.and_false];rfl
    ·rw [decide_eq_false (p:=((1:Int)≤(g[0].length:Int))) (by omega)];rfl
   rw [b2,if_pos rfl]
 ·refine ⟨false,?_,⟨(fun z=>by cases z),fun ⟨r,c,ht⟩=>absurd (by rw [ht.sh.len];exact ⟨ht.r1,ht.r4⟩) hl⟩⟩
  unfold J19
  rw [M.ok_bind]
  have b1: (!(decide ((1:Int)≤(g.length:Int)) && decide ((g.length:Int)≤4)))=true:=by
   by_cases e1:1≤g.length
   ·rw [decide_eq_false (p:=((g.length:Int)≤4)) (by omega),Bool.and_false];rfl
   ·rw [decide_eq_false (p:=((1:Int)≤(g.length:Int))) (by omega)];rfl
  rw [b1,if_pos rfl,M.ok_bind,if_pos rfl]
end
section
variable {r c N:Nat} {R C:List Int} {L:List (List Duo)}
variable {fit:Tu Int→Int→List Duo→M (List (List Int))} {less:Tu Int→List Int→M (List Int)} {ways:List Int→M Int}
end
noncomputable def Bd (k:Nat) (x:Int):Prop:=x.natAbs≤2 ^ k
theorem Bd.mul {i j:Nat} {x y:Int} (h:Bd i x) (k:Bd j y):Bd (i + j) (x * y):=by
 unfold Bd at *
 rw [Int.natAbs_mul,Nat.pow_add];exact Nat.mul_le_mul h k
structure C_Measure where
 sides: (Tu Int) × (Tu Int)
 kind:Str
 spot:Int × Int
 even:Int
 product:Bool
 greater:Bool
 deriving DecidableEq
noncomputable instance:Enc C_Measure:=⟨fun t=> .obj "Measure" ["sides", "kind", "spot", "even", "product", "greater"] [E t.sides,E t.kind,E t.spot,E t.even,E t.product,E t.greater]⟩
theorem le2 {x m n:Nat} (h:x≤2 ^ m) (l:m≤n):x≤2 ^ n:=Nat.le_trans h (Nat.pow_le_pow_right (by decide) l)
theorem Js5 {x:Int} (h:0≤x∧x≤40):x.natAbs≤2 ^ 6:=by omega
theorem b6 {x:Int} (h:0≤x∧x≤40):x.natAbs≤2 ^ 400000:=le2 (Js5 h) (by decide)
theorem Jc0 {a b:Str} (ha:PyData.strOk a=true) (hb:PyData.strOk b=true:=by decide +kernel):eqM a b= .ok (decide (a=b)):=by
 unfold eqM
 rw [if_pos]
 ·rw [Zb,Zb]
  exact ⟨rfl,ha,hb⟩
theorem Jeg (g:List (List Int)):Jh g= .ok (g.map List.sum):=by
 unfold Jh;rfl
theorem Jeh {g:List (List Int)} {r c:Nat} (h:Shape g r c) (r1:1≤r) (hc:c≤1000):Ja g= .ok (J4q g c):=by
 unfold Ja
 rw [Jcs 0 h r1 hc];rfl
section
variable {r c N:Nat} {R C:List Int} {L:List (List Duo)} {k:Str} {p:Int × Int}
end
theorem Jos {xs:List Int} (h:0 < xs.length):J9s xs= .ok (J10 xs):=if_pos h
section
variable {r c N:Nat} {R C:List Int} {L:List (List Duo)} {k:Str} {p:Int × Int}
end
theorem J8o {b T:Nat→Nat} {x:Int × Int}:∀{m:Nat},x∈Jn b T m→∃s,s < m∧(x= ((b s:Int),(T s:Int))∨x= ((b (s + 1):Int),(T s:Int)))
 | 0,h=>by cases h
 | m + 1,h=>by
  have h':x∈Jn b T m++ [((b m:Int),(T m:Int)),((b (m + 1):Int),(T m:Int))]:=h
  rcases Zp.mp h' with h' | h'
  ·obtain ⟨s,a,d⟩:=J8o h'
   exact ⟨s,by omega,d⟩
  ·rcases Zo.mp h' with rfl | h'
   ·exact ⟨m,by omega,.inl rfl⟩
   ·rw [List.mem_singleton.mp h']
    exact ⟨m,by omega,.inr rfl⟩
theorem Jei {b T:Nat→Nat} {s:Nat}:∀{m:Nat},s < m→((b s:Int),(T s:Int))∈Jn b T m∧((b (s + 1):Int),(T s:Int))∈Jn b T m
 | 0,h=>absurd h (Nat.not_lt_zero _)
 | m + 1,h=>by
  show _∈Jn b T m++_∧_∈Jn b T m++_
  by_cases e:s=m
  ·subst e
   exact ⟨Zr _ Zs,Zr _ (Zc _ Zs)⟩
  ·obtain ⟨a,d⟩:=Jei (b:=b) (T:=T) (s:=s) (m:=m) (by omega)
   exact ⟨Zl _ a,Zl _ d⟩
theorem Jjg {A:List (List Int)} {r c m:Nat} {many:Int} {b T:Nat→Nat} (h:Shape A r c) (hs:∀s,s < m→b s < r∧T s < c∧b (s + 1) < r):∃B,J4a A (many,Jn b T m)= .ok B∧Shape B r c∧∀i j,cl B i j=cl A i j + many * eE b T m i j:=by
 obtain ⟨B,e,sB,cB⟩:=Jfi (many:=many) h hs
 refine ⟨B,?_,sB,cB⟩
 unfold J4a
 have id': (A.map fun (x_:List Int)=>x_)=A:=List.map_id' _
 rw [id',M.ok_bind]
 show M.bind (M.fold (J1d 0 (Jn b T m)) A (wkF many)) _=_
 rw [e,M.ok_bind]
noncomputable def Jha (A:List (List Int)) (r c:Nat) (o:Option (List (Int × Int))):Prop:=o=none∨∃b T m,o=some (Jn b T m)∧Ring A r c b T m
theorem Jhb (A:List (List Int)) (r c:Nat):0≤mu A r c:=by
 have z:∀n:Nat,sN n (fun _=>(0:Int))=0:=J90
 have a:sN r (fun _=>(0:Int))≤mu A r c:=J5y fun i _=>by
  have:sN c (fun _=>(0:Int))≤sN c fun j=>J30 (cl A i j):=J5y fun j _=>by
   rcases absI_cases (cl A i j) with ⟨x,y⟩ | ⟨x,y⟩ <;> omega
  rw [z] at this
  exact this
 rw [z] at a
 exact a
theorem Jjh {A:List (List Int)} {r c m:Nat} {b T:Nat→Nat} (h:Apt A r c) (R:Ring A r c b T m) {found:List (Int × (List (Int × Int)))} (hf:found.length < 16777216):
  (M.bind (M.opt (some (Jn b T m))) fun g_=>
 M.bind (M.mapM g_ (fun (x_3:Int × Int)=>M.bind (atM A x_3.1) fun v_7=>
 M.bind (atM v_7 x_3.2) fun v_8=>
 .ok (J30 v_8))) fun ys_=>
 M.bind (J9s ys_) fun v_9=>
 M.bind (M.opt (J39 found (v_9,g_))) fun found_1=>
 M.bind (J4a A ((0 - v_9),g_)) fun v_10=>
 M.bind (J4o v_10) fun v_11=>
 .ok (found_1,v_10,v_11)).Ens fun s=>∃x B,s.1=found++ [x]∧s.2.1=B∧Apt B r c∧mu B r c < mu A r c∧Jha B r c s.2.2:=by
 have hs:∀s,s < m→b s < r∧T s < c∧b (s + 1) < r:=fun s hs'=>by
  obtain ⟨x,y,z,_⟩:=R.in_ s hs'
  exact ⟨x,y,z⟩
 have get:∀i j:Nat,i < r→j < c→(M.bind (atM A (i:Int)) fun v_7=>M.bind (atM v_7 (j:Int)) fun v_8=> .ok (J30 v_8))= .ok (J30 (cl A i j)):=fun i j hi hj=>by
  obtain ⟨g1,g2,_,g4⟩:=h.rowG hi
  rw [show atM A (i:Int)= .ok (A.getD i []) from J22 (by omega) (by rw [Int.toNat_natCast];exact g1),M.ok_bind,show atM (A.getD i []) (j:Int)= .ok (cl A i j) from J22 (by omega) (by rw [Int.toNat_natCast];exact g4 j hj),M.ok_bind]
 rw [M.opt_some,M.ok_bind,M.mapM_ok (fun x=>J30 (cl A x.1.toNat x.2.toNat)) (fun x hx=>by
  obtain ⟨s,hs',e⟩:=J8o hx
  obtain ⟨x1,x2,x3⟩:=hs s hs'
  rcases e with rfl | rfl
  ·rw [get _ _ x1 x2,Int.toNat_natCast,Int.toNat_natCast]
  ·rw [get _ _ x3 x2,Int.toNat_natCast,Int.toNat_natCast]),M.ok_bind]
 have pl:=pairs_len b T m
 have ne:0 < ((Jn b T m).map fun x=>J30 (cl A x.1.toNat x.2.toNat)).length:=by
  rw [List.length_map,pl]
  have:=R.m1
  omega
 obtain ⟨l1,l2⟩:=J3p ne
 rw [Jos ne,M.ok_bind,Jbt hf,M.opt_some,M.ok_bind]
 generalize J10 ((Jn b T m).map fun x=>J30 (cl A x.1.toNat x.2.toNat))=many at l1 l2
 have hm:∀s,s < m→many≤cl A (b s) (T s)∧cl A (b (s + 1)) (T s)≤ -many:=fun s hs'=>by
  obtain ⟨_,_,_,u,v⟩:=R.in_ s hs'
  obtain ⟨p1,p2⟩:=Jei (b:=b) (T:=T) hs'
  have a1:=l2 _ (Zm.mpr ⟨_,p1,rfl⟩)
  have a2:=l2 _ (Zm.mpr ⟨_,p2,rfl⟩)
  dsimp only at a1 a2
  rw [Int.toNat_natCast,Int.toNat_natCast] at a1 a2
  rcases absI_cases (cl A (b s) (T s)) with ⟨x,y⟩ | ⟨x,y⟩
  ·rcases absI_cases (cl A (b (s + 1)) (T s)) with ⟨x',y'⟩ | ⟨x',y'⟩ <;> omega
  ·omega
 have m1:1≤many:=by
  obtain ⟨x,hx,e⟩:=Zm.mp l1
  obtain ⟨s,hs',e2⟩:=J8o hx
  obtain ⟨_,_,_,u,v⟩:=R.in_ s hs'
  rcases e2 with rfl | rfl
  ·dsimp only at e
   rw [Int.toNat_natCast,Int.toNat_natCast] at e
   rcases absI_cases (cl A (b s) (T s)) with ⟨x,y⟩ | ⟨x,y⟩ <;> omega
  ·dsimp only at e
   rw [Int.toNat_natCast,Int.toNat_natCast] at e
   rcases absI_cases (cl A (b (s + 1)) (T s)) with ⟨x,y⟩ | ⟨x,y⟩ <;> omega
 obtain ⟨B,e,sB,cB⟩:=Jjg (many:=0 - many) h.sh hs
 obtain ⟨aB,lt⟩:=Jh9 h R m1 hm sB cB
 rw [e,M.ok_bind]
 exact (Jfh aB).bind fun o ho=> .ok ⟨_,B,rfl,rfl,aB,lt,ho⟩
theorem Jji {A:List (List Int)} {r c:Nat} (h:Apt A r c):
  (M.bind (.ok (([]:List (Int × (List (Int × Int)))):List (Int × (List (Int × Int))))) fun k_=>
 M.bind (J4o A) fun v_6=>
 M.bind (M.whl 1000000000000 (k_,A,v_6) (fun (s_: (List (Int × (List (Int × Int)))) × (List (List Int)) × (Option (List (Int × Int))))=> .ok s_.2.2.isSome) (fun (s_: (List (Int × (List (Int × Int)))) × (List (List Int)) × (Option (List (Int × Int))))=>M.bind (M.opt s_.2.2) fun g_=>
 M.bind (M.mapM g_ (fun (x_3:Int × Int)=>M.bind (atM s_.2.1 x_3.1) fun v_7=>
 M.bind (atM v_7 x_3.2) fun v_8=>
 .ok (J30 v_8))) fun ys_=>
 M.bind (J9s ys_) fun v_9=>
 M.bind (M.opt (J39 s_.1 (v_9,g_))) fun found_1=>
 M.bind (J4a s_.2.1 ((0 - v_9),g_)) fun v_10=>
 M.bind (J4o v_10) fun v_11=>
 .ok (found_1,v_10,v_11))) fun s_1=>
 .ok s_1.1).Ens fun _=>True:=by
 have mb:mu A r c≤960:=by
  have r4:=h.r4
  have c6:=h.c6
  have a:mu A r c≤sN r fun _=>sN c fun _=>(40:Int):=J5y fun i _=>J5y fun j _=>by
   have:=h.bd i j
   rcases absI_cases (cl A i j) with ⟨x,y⟩ | ⟨x,y⟩ <;> omega
  have k:∀ (v:Int) (n:Nat),sN n (fun _=>v)=n * v:=fun v n=>by
   induction n with
   | zero=>show (0:Int)= (0:Nat) * v;simp
   | succ n ih=>rw [Ju,ih,Int.natCast_succ,Int.add_mul,Int.one_mul]
  rw [k,k] at a
  have u1: (c:Int) * 40≤240:=by omega
  have u2: (r:Int) * ((c:Int) * 40)≤4 * ((c:Int) * 40):=Int.mul_le_mul_of_nonneg_right (by omega) (by omega)
  omega
 rw [M.ok_bind]
 refine (Jfh h).bind fun o ho=>?_
 refine (Jby (fun (n:Nat) (s: (List (Int × (List (Int × Int)))) × (List (List Int)) × (Option (List (Int × Int))))=>∃B,s.2.1=B∧Apt B r c∧n= (mu B r c).toNat∧Jha B r c s.2.2∧(s.1.length:Int) + mu B r c≤960) (fun n s ⟨B,e,aB,en,ro,hl⟩=>?_) (k:=(mu A r c).toNat) ⟨A,rfl,h,rfl,(show Jha A r c o from ho),by
  show ((0:Nat):Int) + mu A r c≤960
  omega⟩ (by have:=Jhb A r c;omega)).bind fun s _=> .ok trivial
 obtain ⟨found,A',o'⟩:=s
 dsimp only at e ro hl ⊢
 subst e
 rcases ro with rfl | ⟨b,T,m,rfl,R⟩
 ·exact .inl rfl
 ·refine .inr ⟨rfl,?_⟩
  have nn:=Jhb A' r c
  refine (Jjh aB R (found:=found) (by omega)).imp fun s hs=>?_
  obtain ⟨x,B',e1,e2,aB',lt,ro'⟩:=hs
  have nn':=Jhb B' r c
  refine ⟨(mu B' r c).toNat,by omega,B',e2,aB',rfl,ro',?_⟩
  rw [e1,List.length_append,List.length_cons,List.length_nil]
  omega
theorem Jcl (g:List (List Int)):∃b,Jg g= .ok b∧(b=true↔∃r c,Tab g r c):=by
 unfold Jg
 rw [M.ok_bind]
 by_cases l1: (g.length:Int) < 1
 ·rw [Zt l1,if_pos rfl,M.ok_bind,if_pos rfl]
  refine ⟨false,rfl,(fun z=>by cases z),fun ⟨r,c,ht⟩=>?_⟩
  have:=ht.sh.len
  have:=ht.r1
  omega
 rw [decide_eq_false l1,if_neg (by decide),M.ok_bind]
 by_cases l4:4 < (g.length:Int)
 ·rw [Zt l4,if_pos rfl,M.ok_bind,M.ok_bind,if_pos rfl]
  refine ⟨false,rfl,(fun z=>by cases z),fun ⟨r,c,ht⟩=>?_⟩
  have:=ht.sh.len
  have:=ht.r4
  omega
 have h0:0 < g.length:=by omega
 have e0:atM g 0= .ok g[0]:=J3s (i:=0) h0
 rw [decide_eq_false l4,if_neg (by decide),e0,M.ok_bind,M.ok_bind,M.ok_bind]
 by_cases c1: (g[0].length:Int) < 1
 ·rw [Zt c1,if_pos rfl,M.ok_bind,M.ok_bind,M.ok_bind,if_pos rfl]
  refine ⟨false,rfl,(fun z=>by cases z),fun ⟨r,c,ht⟩=>?_⟩
  have:=ht.sh.row _ (List.getElem_mem h0)
  have:=ht.c1
  omega
 rw [decide_eq_false c1,if_neg (by decide)]
 by_cases c6: (6:Int) < (g[0].length:Int)
 ·rw [Zt c6,M.ok_bind,M.ok_bind,M.ok_bind,if_pos rfl]
  refine ⟨false,rfl,(fun z=>by cases z),fun ⟨r,c,ht⟩=>?_⟩
  have:=ht.sh.row _ (List.getElem_mem h0)
  have:=ht.c6
  omega
 rw [decide_eq_false c6,M.ok_bind,M.ok_bind,M.ok_bind,if_neg (by decide)]
 have inner:∀x:List Int,(M.bind (M.foldC x () fun (s_1:Unit) (x_1:Int)=>if decide (x_1 < 0)=true then (.ok (.rt false)) else (.ok (.nx ()))) fun c=>c.go (fun s_2=> .ok (.nx ())) (fun q=> .ok (.rt q)):M (Ctl Unit Bool))= .ok (if (x.all fun y=>decide (0≤y))=true then .nx () else .rt false):=fun x=>by
  rw [M.foldC_all (fun y:Int=>decide (0≤y)) false _ x fun y hy=>?_,M.ok_bind]
  ·by_cases q: (x.all fun y=>decide (0≤y))=true
   ·rw [if_pos q];rfl
   ·rw [if_neg q];rfl
  ·by_cases q:y < 0
   ·rw [if_pos (Zt q),if_neg (by rw [decide_eq_true_eq];omega)]
   ·rw [if_neg (by rw [decide_eq_true_eq];exact q),if_pos (by rw [decide_eq_true_eq];omega)]
 rw [M.foldC_all (fun x:List Int=>decide (x.length=g[0].length) && x.all fun y=>decide (0≤y)) false _ g fun x hx=>?_,M.ok_bind]
 ·by_cases q: (g.all fun x:List Int=>decide (x.length=g[0].length) && x.all fun y=>decide (0≤y))=true
  ·rw [if_pos q,Ctl.go_nx]
   refine ⟨_,rfl,?_⟩
   rw [decide_eq_true_eq]
   have q':=List.all_eq_true.mp q
   constructor
   ·intro h2
    refine ⟨g.length,g[0].length,⟨rfl,fun x hx=>?_⟩,by omega,by omega,by omega,by omega,fun x hx y hy=>?_,h2⟩
    ·have:=q' x hx
     rw [Zb] at this
     exact Zd this.1
    ·have:=q' x hx
     rw [Zb] at this
     exact Zd (List.all_eq_true.mp this.2 y hy)
   ·rintro ⟨r,c,ht⟩
    exact ht.tot
  ·rw [if_neg q,Ctl.go_rt]
   refine ⟨false,rfl,(fun z=>by cases z),fun ⟨r,c,ht⟩=>absurd (List.all_eq_true.mpr fun x hx=>?_) q⟩
   rw [Zb]
   exact ⟨Zt (by rw [ht.sh.row x hx,ht.sh.row _ (List.getElem_mem h0)]),List.all_eq_true.mpr fun y hy=>Zt (ht.nn x hx y hy)⟩
 ·rw [M.ok_bind]
  by_cases q:x.length=g[0].length
  ·rw [if_neg (by rw [Zt (show (x.length:Int)= (g[0].length:Int) by omega)];decide),inner,Zt q,Bool.true_and]
  ·rw [if_pos (by rw [decide_eq_false (show ¬ (x.length:Int)= (g[0].length:Int) by omega)];rfl),decide_eq_false q,Bool.false_and,if_neg (by decide)]
noncomputable def dfL (A B:List (List Int)):List (List Int):=(A.zip B).map fun x=>(x.1.zip x.2).map fun y=>(y.2 - y.1)
theorem Ja0:∀{x y:List Int} (j:Nat),x.length=y.length→((x.zip y).map fun (q:Int × Int)=>(q.2 - q.1)).getD j 0=y.getD j 0 - x.getD j 0
 | [],[],j,_=>by simp
 | a::x,b::y,0,_=>rfl
 | a::x,b::y,j + 1,h=>by
  have:=Ja0 (x:=x) (y:=y) j (by simpa using h)
  simpa using this
theorem Jej:∀{x y:List Int},x.length=y.length→((x.zip y).map fun (q:Int × Int)=>(q.2 - q.1)).sum=y.sum - x.sum
 | [],[],_=>rfl
 | a::x,b::y,h=>by
  have:=Jej (x:=x) (y:=y) (by simpa using h)
  show (b - a) + ((x.zip y).map fun (q:Int × Int)=>(q.2 - q.1)).sum=_
  rw [this,List.sum_cons,List.sum_cons]
  omega
theorem Jcm {A B:List (List Int)} {r c:Nat} (hA:Shape A r c) (hB:Shape B r c):Shape (dfL A B) r c:=by
 refine ⟨by unfold dfL;rw [List.length_map,List.length_zip,hA.len,hB.len,Nat.min_self],fun x hx=>?_⟩
 unfold dfL at hx
 obtain ⟨⟨a,b⟩,hq,rfl⟩:=Zm.mp hx
 rw [List.length_map,List.length_zip,hA.row _ (List.of_mem_zip hq).1,hB.row _ (List.of_mem_zip hq).2,Nat.min_self]
theorem Jjj:∀{A B:List (List Int)} {r c:Nat},Shape A r c→Shape B r c→∀i j,cl (dfL A B) i j=cl B i j - cl A i j
 | [],[],_,_,_,_,i,j=>by unfold cl dfL;simp
 | [],b::B,r,c,hA,hB,i,j=>by have:=hA.len;have:=hB.len;simp at *;omega
 | a::A,[],r,c,hA,hB,i,j=>by have:=hA.len;have:=hB.len;simp at *;omega
 | a::A,b::B,r,c,hA,hB,0,j=>Ja0 j (by rw [hA.row _ Zs,hB.row _ Zs])
 | a::A,b::B,r,c,hA,hB,i + 1,j=>Jjj (A:=A) (B:=B) (r:=A.length) (c:=c) ⟨rfl,fun x hx=>hA.row x (Zc _ hx)⟩ ⟨by have:=hA.len;have:=hB.len;simp at *;omega,fun x hx=>hB.row x (Zc _ hx)⟩ i j
theorem J5z:∀{A B:List (List Int)} {r c:Nat},Shape A r c→Shape B r c→((∀x∈dfL A B,x.sum=0)↔A.map List.sum=B.map List.sum)
 | [],[],_,_,_,_=>by simp [dfL]
 | [],b::B,r,c,hA,hB=>by have:=hA.len;have:=hB.len;simp at *;omega
 | a::A,[],r,c,hA,hB=>by have:=hA.len;have:=hB.len;simp at *;omega
 | a::A,b::B,r,c,hA,hB=>by
  have ih:=J5z (A:=A) (B:=B) (r:=A.length) (c:=c) ⟨rfl,fun x hx=>hA.row x (Zc _ hx)⟩ ⟨by have:=hA.len;have:=hB.len;simp at *;omega,fun x hx=>hB.row x (Zc _ hx)⟩
  have s:=Jej (x:=a) (y:=b) (by rw [hA.row _ Zs,hB.row _ Zs])
  have e:dfL (a::A) (b::B)= ((a.zip b).map fun (q:Int × Int)=>(q.2 - q.1))::dfL A B:=rfl
  rw [e,List.forall_mem_cons,ih,s,List.map_cons,List.map_cons,List.cons.injEq]
  constructor
  ·rintro ⟨x,y⟩
   exact ⟨by omega,y⟩
  ·rintro ⟨x,y⟩
   exact ⟨by omega,y⟩
theorem Jjk {A B:List (List Int)} {r c:Nat} (hA:Shape A r c) (hB:Shape B r c):tr 0 (dfL A B) c=dfL (tr 0 A c) (tr 0 B c):=by
 have key:∀j,((A.zip B).map fun (x:List Int × List Int)=>((x.1.zip x.2).map fun (y:Int × Int)=>(y.2 - y.1)).getD j 0)= (((A.map fun row=>row.getD j 0).zip (B.map fun row=>row.getD j 0)).map fun (y:Int × Int)=>(y.2 - y.1)):=fun j=>by
  rw [List.zip_map,List.map_map]
  refine List.map_congr_left fun x hx=>?_
  exact Ja0 j (by rw [hA.row _ (List.of_mem_zip hx).1,hB.row _ (List.of_mem_zip hx).2])
 unfold tr dfL
 rw [List.zip_map',List.map_map]
 refine List.map_congr_left fun j _=>?_
 rw [List.map_map]
 exact key j
theorem Tab.clB {g:List (List Int)} {r c:Nat} (h:Tab g r c) (i j:Nat):0≤cl g i j∧cl g i j≤40:=by
 unfold cl
 rw [Zg,Zg]
 cases e:g[i]? with
 | none=>exact ⟨Int.le_refl 0,(show (0:Int)≤40 by decide)⟩
 | some x=>
  show 0≤(x[j]?).getD 0∧(x[j]?).getD 0≤40
  cases e2:x[j]? with
  | none=>exact ⟨by decide,by decide⟩
  | some y=>exact h.cell x (List.mem_of_getElem? e) y (List.mem_of_getElem? e2)
noncomputable def J91 (A B:List (List Int)) (c:Nat):Prop:=A.map List.sum=B.map List.sum∧J4q A c=J4q B c
theorem Jrc {A B:List (List Int)} {r c:Nat} (hA:Tab A r c) (hB:Tab B r c) (hs:J91 A B c):Apt (dfL A B) r c:=by
 have sh:=Jcm hA.sh hB.sh
 refine ⟨sh,hA.r1,hA.r4,hA.c1,hA.c6,fun i j=>?_,fun i hi=>?_,fun j hj=>?_⟩
 ·rw [Jjj hA.sh hB.sh]
  have a:=hA.clB i j
  have b:=hB.clB i j
  omega
 ·have e:=(J5z hA.sh hB.sh).mpr hs.1
  show sN c (cl (dfL A B) i)=0
  rw [← sh.cl_row hi]
  have hl:i < (dfL A B).length:=by rw [sh.len];exact hi
  rw [Zg,Ze hl]
  exact e _ (List.getElem_mem hl)
 ·have e:=(J5z (J5x (d:=0) hA.sh) (J5x (d:=0) hB.sh)).mpr hs.2
  rw [← Jjk hA.sh hB.sh] at e
  have k:=Jlu sh hj
  show cs r (dfL A B) j=0
  rw [← k]
  have hl:j < (J4q (dfL A B) c).length:=by rw [Jlt];exact hj
  rw [Zg,Ze hl]
  have: (J4q (dfL A B) c)[j]∈(tr 0 (dfL A B) c).map List.sum:=List.getElem_mem hl
  obtain ⟨x,hx,e2⟩:=Zm.mp this
  show (J4q (dfL A B) c)[j]=0
  rw [← e2]
  exact e x hx
theorem Jcn {A B:List (List Int)} {r c:Nat} (hA:Tab A r c) (hB:Tab B r c): (((dfL A B++tr 0 (dfL A B) c).map fun (x_2:List Int)=>(!decide (x_2.sum=0))).any id)=true↔¬J91 A B c:=by
 have e1:=J5z hA.sh hB.sh
 have e2:=J5z (J5x (d:=0) hA.sh) (J5x (d:=0) hB.sh)
 rw [← Jjk hA.sh hB.sh] at e2
 constructor
 ·intro h hs
  rw [List.any_map,List.any_eq_true] at h
  obtain ⟨x,hx,q⟩:=h
  have:x.sum=0:=by
   rcases Zp.mp hx with hx | hx
   ·exact e1.mpr hs.1 x hx
   ·exact e2.mpr hs.2 x hx
  have q': (!decide (x.sum=0))=true:=q
  rw [this] at q'
  cases q'
 ·intro hs
  apply Classical.byContradiction
  intro no
  have all:∀x∈dfL A B++tr 0 (dfL A B) c,x.sum=0:=fun x hx=>by
   apply Classical.byContradiction
   intro nz
   refine no ?_
   rw [List.any_map,List.any_eq_true]
   exact ⟨x,hx,by show (!decide (x.sum=0))=true;rw [decide_eq_false nz];rfl⟩
  exact hs ⟨e1.mp fun x hx=>all x (Zl _ hx),e2.mp fun x hx=>all x (Zr _ hx)⟩
theorem Jjl {A B:List (List Int)} (h:¬ ((∃r c,Tab A r c)∧∃r c,Tab B r c)):J2z A B= .exc (xc "BadTable" "table"):=by
 unfold J2z
 obtain ⟨a,a1,a2⟩:=J7y A
 obtain ⟨b,b1,b2⟩:=J7y B
 rw [a1,M.ok_bind,M.ok_bind]
 cases a with
 | false=>rw [if_pos (show (!false)=true from rfl),M.ok_bind,if_pos rfl]
 | true=>
  rw [if_neg (by decide),b1,M.ok_bind,M.ok_bind]
  cases b with
  | false=>rw [if_pos (show (!false)=true from rfl)]
  | true=>exact absurd ⟨a2.mp rfl,b2.mp rfl⟩ h
theorem Jhc {A B:List (List Int)} {r c r' c':Nat} (hA:Tab A r c) (hB:Tab B r' c'): (J2z A B= .exc (xc "BadSums" "sums")∧¬ (r=r'∧c=c'∧J91 A B c))∨(J2z A B).Ens (fun _=>True)∧(r=r'∧c=c'∧J91 A B c):=by
 unfold J2z
 obtain ⟨a,a1,a2⟩:=J7y A
 obtain ⟨b,b1,b2⟩:=J7y B
 rw [a1,M.ok_bind,M.ok_bind,a2.mpr ⟨_,_,hA⟩,if_neg (by decide),b1,M.ok_bind,b2.mpr ⟨_,_,hB⟩,M.ok_bind,if_neg (by decide)]
 have hA0:0 < A.length:=by rw [hA.sh.len];exact hA.r1
 have hB0:0 < B.length:=by rw [hB.sh.len];exact hB.r1
 have eA:atM A 0= .ok A[0]:=J3s (i:=0) hA0
 have eB:atM B 0= .ok B[0]:=J3s (i:=0) hB0
 have lA:A[0].length=c:=hA.sh.at_ hA0
 have lB:B[0].length=c':=hB.sh.at_ hB0
 rw [eA,eB,M.ok_bind,M.ok_bind,M.ok_bind,hA.sh.len,hB.sh.len,lA,lB]
 by_cases er:r=r'
 ·subst er
  rw [Zt (show (r:Int)= (r:Int) from rfl),if_neg (by decide),M.ok_bind]
  by_cases ec:c=c'
  ·subst ec
   rw [Zt (show (c:Int)= (c:Int) from rfl),if_neg (by decide),M.ok_bind]
   have hd: (((A.zip B).map fun (x_: (List Int) × (List Int))=>((x_.1.zip x_.2).map fun (x_1:Int × Int)=>(x_1.2 - x_1.1))):List (List Int))=dfL A B:=rfl
   have sh:=Jcm hA.sh hB.sh
   have c6:=hA.c6
   have r4:=hA.r4
   rw [hd,J8l 0 sh hA.r1 (by omega),M.ok_bind,J76 (by rw [sh.len,(J5x (d:=0) sh).len];omega),M.ok_bind]
   by_cases hs:J91 A B c
   ·rw [if_neg (fun z=>(Jcn hA hB).mp z hs)]
    exact .inr ⟨Jji (Jrc hA hB hs),rfl,rfl,hs⟩
   ·rw [if_pos ((Jcn hA hB).mpr hs)]
    exact .inl ⟨rfl,fun z=>hs z.2.2⟩
  ·rw [decide_eq_false (show ¬ (c:Int)= (c':Int) by omega),if_pos (show (!false)=true from rfl)]
   exact .inl ⟨rfl,fun z=>ec z.2.1⟩
 ·rw [decide_eq_false (show ¬ (r:Int)= (r':Int) by omega),if_pos (show (!false)=true from rfl),M.ok_bind,if_pos rfl]
  exact .inl ⟨rfl,fun z=>er z.1⟩
end EV
namespace K48
open PySem PySem.Spec L2 EV
noncomputable abbrev Jav:List (List (Str × Bool) × M Str):= [([("BadTable",true),("BadSums",false)],M.bind (.ok ("table" :Str)) fun told_1=>
 .ok told_1),([("BadTable",false),("BadSums",true)],M.bind (.ok ("sums" :Str)) fun told_2=>
 .ok told_2)]
theorem tr0:J6a (M.bind (.exc (xc "BadTable" "table"):M (List (Int × List (Int × Int)))) fun _=> .ok ("told" :Str)) Jav= .ok "table" :=rfl
theorem tr1:J6a (M.bind (.exc (xc "BadSums" "sums"):M (List (Int × List (Int × Int)))) fun _=> .ok ("told" :Str)) Jav= .ok "sums" :=rfl
theorem Jsw (a:List (Int × List (Int × Int))):J6a (M.bind (.ok a:M (List (Int × List (Int × Int)))) fun _=> .ok ("told" :Str)) Jav= .ok "told" :=rfl
theorem eq0: (M.bind (eqM ("table" :Str) ("table" :Str)) fun b_4=> .ok b_4:M Bool)= .ok true:=by rw [Jc0 (by decide +kernel),Zt rfl];rfl
theorem eq1: (M.bind (eqM ("sums" :Str) ("sums" :Str)) fun b_4=> .ok b_4:M Bool)= .ok true:=by rw [Jc0 (by decide +kernel),Zt rfl];rfl
theorem eq2: (M.bind (eqM ("told" :Str) ("told" :Str)) fun b_4=> .ok b_4:M Bool)= .ok true:=by rw [Jc0 (by decide +kernel),Zt rfl];rfl
theorem tail_ok (one other:List (List Int)): (M.bind (.ok ("told" :Str)) fun due_=>
 M.bind (M.bind (M.bind (Jg one) fun v_5=>
 .ok (!v_5)) fun b=>if b=true then .ok true else (M.bind (Jg other) fun v_6=>
 .ok (!v_6))) fun b_1=>
 M.bind (if b_1=true then (M.bind (.ok ("table" :Str)) fun due_1=>
 .ok due_1) else (M.bind (M.bind (.ok (!decide ((one.length:Int)= (other.length:Int)))) fun b=>if b=true then .ok true else (M.bind (atM one 0) fun v_7=>
 M.bind (atM other 0) fun v_8=>
 .ok (!decide ((v_7.length:Int)= (v_8.length:Int))))) fun b_2=>
 M.bind (if b_2=true then (M.bind (.ok ("sums" :Str)) fun due_2=>
 .ok due_2) else (M.bind (M.bind (M.bind (Jh one) fun v_9=>
 M.bind (Jh other) fun v_10=>
 .ok (!decide (v_9=v_10))) fun b=>if b=true then .ok true else (M.bind (Ja one) fun v_11=>
 M.bind (Ja other) fun v_12=>
 .ok (!decide (v_11=v_12)))) fun b_3=>
 M.bind (if b_3=true then (M.bind (.ok ("sums" :Str)) fun due_3=>
 .ok due_3) else (.ok due_)) fun s_=>
 .ok s_)) fun s_1=>
 .ok s_1)) fun s_2=>
 M.bind (.ok ("told" :Str)) fun told_=>
 M.bind (J6a (M.bind (M.nox (Js one)) fun v_13=>
 M.bind (M.nox (Js other)) fun v_14=>
 M.bind (J2z v_13 v_14) fun v_15=>
 .ok told_) Jav) fun s_3=>
 M.bind (eqM s_3 s_2) fun b_4=>
 .ok b_4:M Bool)= .ok true:=by
 have nc:∀l:List (List Int),M.nox (Js l)= .ok l:=fun l=>by rw [Jck];rfl
 obtain ⟨a,a1,a2⟩:=Jcl one
 obtain ⟨b,b1,b2⟩:=Jcl other
 rw [M.ok_bind,a1,M.ok_bind,M.ok_bind]
 by_cases h: (∃r c,Tab one r c)∧∃r c,Tab other r c
 ·obtain ⟨⟨r,c,hA⟩,r',c',hB⟩:=h
  have hA0:0 < one.length:=by rw [hA.sh.len];exact hA.r1
  have hB0:0 < other.length:=by rw [hB.sh.len];exact hB.r1
  have eA:atM one 0= .ok one[0]:=J3s (i:=0) hA0
  have eB:atM other 0= .ok other[0]:=J3s (i:=0) hB0
  have lA:one[0].length=c:=hA.sh.at_ hA0
  have lB:other[0].length=c':=hB.sh.at_ hB0
  rw [a2.mpr ⟨_,_,hA⟩,if_neg (by decide),b1,M.ok_bind,b2.mpr ⟨_,_,hB⟩,M.ok_bind,if_neg (by decide),eA,eB,M.ok_bind,M.ok_bind,M.ok_bind,hA.sh.len,hB.sh.len,lA,lB,nc,nc]
  have k:=Jhc hA hB
  by_cases er:r=r'
  ·subst er
   rw [Zt (show (r:Int)= (r:Int) from rfl),if_neg (by decide),M.ok_bind]
   by_cases ec:c=c'
   ·subst ec
    have c6:=hA.c6
    rw [Zt (show (c:Int)= (c:Int) from rfl),if_neg (by decide),Jeg,Jeg,Jeh hA.sh hA.r1 (by omega),Jeh hB.sh hB.r1 (by omega),M.ok_bind,M.ok_bind,M.ok_bind,M.ok_bind,M.ok_bind]
    by_cases hs:J91 one other c
    ·rcases k with ⟨_,z⟩ | ⟨⟨v,hv,_⟩,_⟩
     ·exact absurd ⟨rfl,rfl,hs⟩ z
     ·rw [Zt hs.1,if_neg (by decide),Zt hs.2,M.ok_bind,if_neg (by decide),M.ok_bind,M.ok_bind,M.ok_bind,M.ok_bind,M.ok_bind,M.ok_bind,hv,Jsw,M.ok_bind]
      exact eq2
    ·rcases k with ⟨hv,_⟩ | ⟨_,z⟩
     ·have e3: (if (!decide (one.map List.sum=other.map List.sum))=true then (.ok true:M Bool) else .ok (!decide (J4q one c=J4q other c)))= .ok true:=by
       by_cases h1:one.map List.sum=other.map List.sum
       ·by_cases h2:J4q one c=J4q other c
        ·exact absurd ⟨h1,h2⟩ hs
        ·rw [Zt h1,if_neg (by decide),decide_eq_false h2];rfl
       ·rw [decide_eq_false h1];rfl
      rw [e3,M.ok_bind,if_pos rfl,M.ok_bind,M.ok_bind,M.ok_bind,M.ok_bind,M.ok_bind,M.ok_bind,M.ok_bind,hv,tr1,M.ok_bind]
      exact eq1
     ·exact absurd z.2.2 hs
   ·rcases k with ⟨hv,_⟩ | ⟨_,z⟩
    ·rw [decide_eq_false (show ¬ (c:Int)= (c':Int) by omega),if_pos (show (!false)=true from rfl),M.ok_bind,M.ok_bind,M.ok_bind,M.ok_bind,M.ok_bind,M.ok_bind,hv,tr1,M.ok_bind]
     exact eq1
    ·exact absurd z.2.1 ec
  ·rcases k with ⟨hv,_⟩ | ⟨_,z⟩
   ·rw [decide_eq_false (show ¬ (r:Int)= (r':Int) by omega),if_pos (show (!false)=true from rfl),M.ok_bind,if_pos rfl,M.ok_bind,M.ok_bind,M.ok_bind,M.ok_bind,M.ok_bind,M.ok_bind,hv,tr1,M.ok_bind]
    exact eq1
   ·exact absurd z.1 er
 ·have hv:=Jjl h
  have e: (if (!a)=true then (.ok true:M Bool) else (M.bind (Jg other) fun v_6=> .ok (!v_6)))= .ok true:=by
   cases a with
   | false=>rfl
   | true=>
    rw [if_neg (by decide),b1,M.ok_bind]
    cases b with
    | false=>rfl
    | true=>exact absurd ⟨a2.mp rfl,b2.mp rfl⟩ h
  rw [e,M.ok_bind,if_pos rfl,M.ok_bind,M.ok_bind,M.ok_bind,nc,nc,M.ok_bind,M.ok_bind,hv,tr0,M.ok_bind]
  exact eq0
theorem Jhd {n:Nat} {i:Int} (h0: -(n:Int)≤i) (h1:i < n):∃k,ixN n i=some k∧k < n:=by
 by_cases h:0≤i
 ·exact ⟨i.toNat,J8f h h1,by omega⟩
 ·refine ⟨(i + n).toNat,?_,by omega⟩
  unfold ixN
  rw [if_neg h]
  first
   | (rw [if_pos (by omega)];congr 1;omega)
   | (rw [if_pos (by omega),if_pos (by omega)];congr 1;omega)
   | (simp;omega)
theorem atAny {α:Type} {xs:List α} {i:Int} (h0: -(xs.length:Int)≤i) (h1:i < xs.length):∃x∈xs,atM xs i= .ok x:=by
 obtain ⟨k,e,hk⟩:=Jhd h0 h1
 refine ⟨xs[k],List.getElem_mem hk,?_⟩
 unfold atM atI
 rw [e,Option.bind_some,Ze hk];rfl
theorem Jek {g:List (List Int)} {r c:Nat} {i j y:Int} (h:Shape g r c) (i0: -(r:Int)≤i) (i1:i < r) (j0: -(c:Int)≤j) (j1:j < c):∃g',up2 g i (fun row=>putO row j y)=some g'∧Shape g' r c:=by
 obtain ⟨k,e,hk⟩:=Jhd (n:=g.length) (by rw [h.len];exact i0) (by rw [h.len];exact i1)
 have hr:=h.row _ (List.getElem_mem hk)
 obtain ⟨l,e2,hl⟩:=Jhd (n:=g[k].length) (i:=j) (by rw [hr];exact j0) (by rw [hr];exact j1)
 refine ⟨g.set k (g[k].set l y),?_,h.set (by rw [List.length_set];exact hr)⟩
 unfold up2
 rw [e,Option.bind_some,Ze hk,Option.bind_some]
 show (putO g[k] j y).map (fun row'=>g.set k row')=_
 unfold putO
 rw [e2];rfl
theorem Jc1 {g:List (List Int)} {r c:Nat} {i j:Int} (d:Int→Int) (h:Shape g r c) (i0: -(r:Int)≤i) (i1:i < r) (j0: -(c:Int)≤j) (j1:j < c):∃g',Shape g' r c∧∀{β:Type} (k:List (List Int)→M β),(M.bind (M.bind (atM g i) fun x=>M.bind (atM x j) fun y=> .ok (d y)) fun v=>M.bind (M.opt (up2 g i (fun row=>putO row j v))) k)=k g':=by
 obtain ⟨x,hx,e⟩:=atAny (xs:=g) (by rw [h.len];exact i0) (by rw [h.len];exact i1)
 obtain ⟨y,_,e2⟩:=atAny (xs:=x) (by rw [h.row x hx];exact j0) (by rw [h.row x hx];exact j1)
 obtain ⟨g',e3,hs⟩:=Jek (y:=d y) h i0 i1 j0 j1
 exact ⟨g',hs,fun k=>by rw [e,M.ok_bind,e2,M.ok_bind,M.ok_bind,e3,Jh1,M.ok_bind]⟩
theorem no {p:Prop} [Decidable p] (h:¬p):¬decide p=true:=fun z=>h (Zd z)
theorem Jjm {b:Bag} (hb:b.good): (J1m b).Ens fun _=>True:=by
 unfold J1m
 refine (Jea hb).bind fun p hp=>?_
 obtain ⟨⟨r,c,ht⟩,hpb⟩:=hp
 obtain ⟨g,bag⟩:=p
 dsimp only at ht hpb ⊢
 have r1:=ht.r1
 have c1:=ht.c1
 have c6:=ht.c6
 have r4:=ht.r4
 have sh:=ht.sh
 have h0:0 < g.length:=by rw [sh.len];exact r1
 have e0:atM g 0= .ok g[0]:=J3s (i:=0) h0
 have l0:g[0].length=c:=sh.at_ h0
 rw [sh.len,e0]
 refine M.Ens.bind (P:=fun p:Int × Bag=>0≤p.1∧p.1 < r∧p.2.good) ((J1u hpb (by omega) (by omega)).bind fun p hp=> .ok hp) fun p2 hp2=>?_
 refine M.Ens.bind (P:=fun p:Int × Bag=>0≤p.1∧p.1 < c∧p.2.good) (by
  rw [M.ok_bind,l0]
  exact (J1u hp2.2.2 (by omega) (by omega)).bind fun p hp=> .ok hp) fun p4 hp4=>?_
 refine (J1u hp4.2.2).bind fun p5 hp5=>?_
 by_cases w0:p5.1=0
 ·rw [if_pos (Zt w0)];exact .ok trivial
 rw [if_neg (no w0)]
 by_cases w1:p5.1=1
 ·rw [if_pos (Zt w1)];exact .ok trivial
 rw [if_neg (no w1)]
 have rp:∀k:Int,0≤k→k≤7→∃zs,J6s ([0]:List Int) k= .ok zs∧zs.length≤7:=fun k k0 k7=>by
  obtain ⟨n,rfl⟩:=Int.eq_ofNat_of_zero_le k0
  exact ⟨_,Jor (by omega),by rw [List.length_replicate];omega⟩
 by_cases w2:p5.1=2
 ·rw [if_pos (Zt w2),J69 (by omega) (by omega) (by omega) (by omega),M.ok_bind]
  obtain ⟨zs,z1,_⟩:=rp c (by omega) (by omega)
  rw [M.mapM_ok (fun _=>zs) (fun x _=>by rw [M.ok_bind,l0,z1];rfl),M.ok_bind,J76 (by rw [List.length_map,J5r,sh.len];omega)]
  exact .ok trivial
 rw [if_neg (no w2)]
 by_cases w3:p5.1=3
 ·rw [if_pos (Zt w3)]
  obtain ⟨zs,z1,z2⟩:=rp (7 - (c:Int)) (by omega) (by omega)
  rw [M.mapM_ok (fun x=>x++zs) (fun x hx=>by rw [sh.row x hx,z1,M.ok_bind,J76 (by rw [sh.row x hx];omega)];rfl)]
  exact .ok trivial
 rw [if_neg (no w3)]
 obtain ⟨i0,i1,_⟩:=hp2
 obtain ⟨j0,j1,_⟩:=hp4
 have hi:p2.1.toNat < g.length:=by rw [sh.len];omega
 have ei: ((p2.1.toNat:Nat):Int)=p2.1:=by omega
 have ea:atM g p2.1= .ok g[p2.1.toNat]:=J22 i0 (Ze hi)
 have hl:g[p2.1.toNat].length=c:=sh.at_ hi
 have hput:∀zs,∃g',M.opt (putO g p2.1 zs)= .ok g':=fun zs=>⟨g.set p2.1.toNat zs,by
  have:=Joj (xs:=g) (y:=zs) hi
  rw [ei] at this
  rw [this,Jh1]⟩
 by_cases w4:p5.1=4
 ·obtain ⟨g',eg⟩:=hput (g[p2.1.toNat]++ [0])
  rw [if_pos (Zt w4),ea,M.ok_bind,J76 (by rw [hl];show c + 1≤_;omega),M.ok_bind,eg,M.ok_bind,M.ok_bind,if_neg (no (by omega)),M.ok_bind,if_neg (no (by omega)),M.ok_bind,if_neg (no (by omega)),M.ok_bind]
  exact .ok trivial
 rw [if_neg (no w4),M.ok_bind]
 by_cases w5:p5.1=5
 ·obtain ⟨g',eg⟩:=hput (J59 g[p2.1.toNat] none (some (-1)))
  rw [if_pos (Zt w5),ea,M.ok_bind,eg,M.ok_bind,M.ok_bind,if_neg (no (by omega)),M.ok_bind,if_neg (no (by omega)),M.ok_bind]
  exact .ok trivial
 rw [if_neg (no w5),M.ok_bind]
 by_cases w6:p5.1=6
 ·rw [if_pos (Zt w6)]
  refine M.Ens.bind (P:=fun _=>True) ((J1u hp5.2.2).bind fun p6 hp6=>?_) fun s _=>?_
  ·obtain ⟨g',e,_⟩:=Jek (y:=(0 - 1) - p6.1) sh (i:=p2.1) (j:=p4.1) (by omega) (by omega) (by omega) (by omega)
   rw [e,Jh1]
   exact .ok trivial
  ·rw [if_neg (no (by omega))]
   exact .ok trivial
 rw [if_neg (no w6),M.ok_bind]
 by_cases w7:p5.1=7
 ·rw [if_pos (Zt w7)]
  have hj:p4.1.toNat < g[p2.1.toNat].length:=by rw [hl];omega
  have eb:atM g[p2.1.toNat] p4.1= .ok g[p2.1.toNat][p4.1.toNat]:=J22 j0 (Ze hj)
  refine M.Ens.bind (P:=fun _=>True) (M.Ens.bind (P:=fun _=>True) ?_ fun p8 _=>?_) fun s _=> .ok trivial
  ·rw [ea,M.ok_bind,eb,M.ok_bind]
   exact (J1u hp5.2.2).bind fun p _=> .ok trivial
  ·obtain ⟨g',e,_⟩:=Jek (y:=p8.1) sh (i:=p2.1) (j:=p4.1) (by omega) (by omega) (by omega) (by omega)
   rw [e,Jh1]
   exact .ok trivial
 rw [if_neg (no w7)]
 exact .ok trivial
theorem Jlv (ns:List Int) (hn:ns.length≤63):J6e ns= .ok true:=by
 refine M.Ens.eq ?_
 unfold J6e
 refine M.Ens.bind (M.Ens.of (P:=Bag.good) rfl (Jgy ns)) fun b hb=>?_
 refine (Jea hb).bind fun p hp=>?_
 obtain ⟨⟨r,c,ht⟩,hpb⟩:=hp
 obtain ⟨g,bag⟩:=p
 dsimp only at ht hpb ⊢
 have r1:=ht.r1
 have c1:=ht.c1
 have c6:=ht.c6
 have r4:=ht.r4
 have sh:=ht.sh
 have h0:0 < g.length:=by rw [sh.len];exact r1
 have e0:atM g 0= .ok g[0]:=J3s (i:=0) h0
 have l0:g[0].length=c:=sh.at_ h0
 refine M.Ens.bind (M.Ens.of (P:=fun v=>g=v) (Jck g) rfl) fun v1 hv=>?_
 subst hv
 rw [sh.len,e0]
 refine (J1u hpb (by omega) (by omega)).bind fun p1 hp1=>?_
 rw [M.ok_bind,l0]
 refine (J1u hp1.2.2 (by omega) (by omega)).bind fun p2 hp2=>?_
 refine (J1u hp2.2.2).bind fun p3 hp3=>?_
 obtain ⟨i0,i1,_⟩:=hp1
 obtain ⟨j0,j1,_⟩:=hp2
 by_cases w0:p3.1=0
 ·rw [if_pos (Zt w0)]
  refine (Jjm hp3.2.2).bind fun p4 _=>?_
  rw [if_neg (no (by omega)),if_neg (no (by omega)),M.ok_bind,if_neg (no (by omega)),M.ok_bind,if_neg (by decide),if_neg (no (by omega)),← e0,← sh.len]
  exact M.Ens.of (tail_ok g p4.1) rfl
 rw [if_neg (no w0)]
 refine M.Ens.bind (P:=fun s:List (List Int) × Bag=>p3.1≠1→s= (g,p3.2)) ?_ fun s4 h4=>?_
 ·by_cases w1:p3.1=1
  ·rw [if_pos (Zt w1)]
   exact (Jjm hp3.2.2).bind fun p5 _=> .ok fun z=>absurd w1 z
  ·rw [if_neg (no w1)]
   exact .ok fun _=>rfl
 refine M.Ens.bind (P:=fun s:List (List Int)=>2 < p3.1→s=g) ?_ fun s5 h5=>?_
 ·by_cases w2:p3.1=2
  ·rw [if_pos (Zt w2),h4 (by omega)]
   exact (Jea hp3.2.2).bind fun p6 _=> .ok fun z=>absurd z (by omega)
  ·rw [if_neg (no w2)]
   exact .ok fun _=>rfl
 have hi:p1.1.toNat < g.length:=by rw [sh.len];omega
 have ea:atM g p1.1= .ok g[p1.1.toNat]:=J22 i0 (Ze hi)
 have hl:g[p1.1.toNat].length=c:=sh.at_ hi
 have hj:p2.1.toNat < g[p1.1.toNat].length:=by rw [hl];omega
 have eb:atM g[p1.1.toNat] p2.1= .ok g[p1.1.toNat][p2.1.toNat]:=J22 j0 (Ze hj)
 refine M.Ens.bind (P:=fun b:Bool=>b=true→2 < p3.1) ?_ fun b6 h6=>?_
 ·rw [M.ok_bind]
  by_cases w:2 < p3.1
  ·rw [if_pos (Zt w),h5 w,ea,M.ok_bind,eb,M.ok_bind]
   exact .ok fun _=>w
  ·rw [if_neg (no w)]
   exact .ok fun z=>by cases z
 refine M.Ens.bind (P:=fun s:List (List Int)=>2 < p3.1→Shape s r c) ?_ fun s8 h8=>?_
 ·by_cases w:b6=true
  ·have w':=h6 w
   have e5:=h5 w'
   subst e5
   rw [if_pos w]
   obtain ⟨g1,sh1,k1⟩:=Jc1 (fun y=>y - 1) sh (i:=p1.1) (j:=p2.1) (by omega) (by omega) (by omega) (by omega)
   rw [k1]
   refine M.Ens.bind (P:=fun s:List (List Int)=>Shape s r c) ?_ fun s6 h6=>M.Ens.bind (P:=fun s:List (List Int)=>Shape s r c) ?_ fun s7 h7=> .ok fun _=>h7
   ·by_cases w3:p3.1=3
    ·obtain ⟨g2,sh2,k2⟩:=Jc1 (fun y=>y + 1) sh1 (i:=p1.1) (j:=p2.1 - 1) (by omega) (by omega) (by omega) (by omega)
     rw [if_pos (Zt w3),k2]
     exact .ok sh2
    ·rw [if_neg (no w3)]
     exact .ok sh1
   ·by_cases w4:p3.1=4
    ·obtain ⟨g2,sh2,k2⟩:=Jc1 (fun y=>y + 1) h6 (i:=p1.1 - 1) (j:=p2.1) (by omega) (by omega) (by omega) (by omega)
     rw [if_pos (Zt w4),k2]
     exact .ok sh2
    ·rw [if_neg (no w4)]
     exact .ok h6
  ·rw [if_neg w]
   exact .ok fun z=>by rw [h5 z];exact sh
 refine M.Ens.bind (P:=fun _=>True) ?_ fun s9 _=>?_
 ·by_cases w5:p3.1=5
  ·have sh8:=h8 (by omega)
   rw [if_pos (Zt w5),M.mapM_ok (fun x=>x++ [0]) (fun x hx=>by rw [J76 (by rw [sh8.row x hx];show c + 1≤_;omega)];rfl)]
   exact .ok trivial
  ·rw [if_neg (no w5)]
   exact .ok trivial
 exact M.Ens.of (tail_ok s4.1 s9) rfl
end K48
namespace K48
end K48
open PySem PySem.W PySem.Calls PyProof.Rows
theorem PySem.Challenge.cw_edgetally_k48_loops_refused_holds : PySem.Challenge.rw_edgetally_k48_loops_refused.Holds := by
 refine K48.Jre ?hc
 case hc =>
  refine EV.Jqv (lw := PySem.Challenge.rw_edgetally_k48_loops_refused) (cap := 63) (lvl := 7) (x := "_law_script") rfl (by decide) K48.Jsb ⟨rfl, by decide, by decide⟩ ?F
  intro w mg fa h Y G hmg0
  obtain ⟨K, KX, c⟩ := Y
  have hmg : mg ("law" : PySem.Str) = some (.ref fa) := by
   rw [← K48.Jrf]
   exact hmg0
  obtain ⟨fd, hb, hF⟩ := K48.facts (P := (PySem.Challenge.rw_edgetally_k48_loops_refused).prog) (w := w) KX G hmg c
  exact ⟨K, fd, _, KX, hb, List.isEmpty_iff.mp (c.x.more (fun K => (EV.tabsOf K).isEmpty) (by simp [K48.J9a])), fun ns hn => ⟨_, EV.Jd.ok (EV.Jj5 ns) (K48.Jlv ns hn)⟩, hF⟩
