import PyProof.Rows.All
import Wide.All
import OpenK.AllK
import Wide.FinOn
import KE.KSortAsk
import KE.KRevIter
import PyProof.InstStoreFacts
import PyProof.ExcBaseAll.Exception
import PySem.Challenge.RW_pq0555_01
set_option Elab.async false
set_option maxRecDepth 100000
set_option genSizeOf false
set_option genInjectivity false
set_option bootstrap.genMatcherCode false
set_option linter.all false
set_option tactic.hygienic false
namespace Mine
open PySem PySem.Calls PyProof.Rows
theorem no1 {α:Type} {a:α} {G:Prop} (h:none=some a):G:=by injection h
theorem no2 {α:Type} {a:α} {G:Prop} (h:some a=none):G:=by injection h
theorem geq {α:Type} {x:Option α} {a b:α} (h:x=some a) (h':x=some b):a=b:=Option.some.inj (h.symm.trans h')
theorem gno {α:Type} {x:Option α} {a:α} {G:Prop} (h:x=none) (h':x=some a):G:=no1 (h.symm.trans h')
theorem rt:true=true:=rfl
theorem rf:false=false:=rfl
theorem ff {G:Prop} (h:false=true):G:=by injection h
theorem tf {G:Prop} (h:true=false):G:=by injection h
theorem aE {α:Type} {a:α} {G:Prop} (h:a∈[]):G:=absurd h List.not_mem_nil
theorem u4 {α:Type} {P:α→Prop} (a:α) (h:a∈[]):P a:=aE h
theorem wk {α:Type} {i:Nat} {a:α} {G:Prop} (h:([]:List α)[i]? = some a):G:=no1 (List.getElem?_nil.symm.trans h)
theorem pl_c (v:Option Value):Data.plain≠.cell v:=(fun h=>by cases h)
theorem pl_f (v:Array Value):Data.plain≠.fields v:=(fun h=>by cases h)
theorem dc_c {es n} (v:Option Value):Data.dict es n≠.cell v:=(fun h=>by cases h)
theorem dc_f {es n} (v:Array Value):Data.dict es n≠.fields v:=(fun h=>by cases h)
theorem sq_c {es n} (v:Option Value):Data.seq es n≠.cell v:=(fun h=>by cases h)
theorem sq_f {es n} (v:Array Value):Data.seq es n≠.fields v:=(fun h=>by cases h)
noncomputable abbrev Txt:=List Nat
inductive Cls | rule | gram
 deriving DecidableEq
inductive Key | int (i:Int) | str (s:Txt) | tup (is:List Int)
 deriving DecidableEq
inductive Kd | tup | lst | dct (ks:List Key) | ins (c:Cls) (ns:List Txt)
inductive D | nul | bool (b:Bool) | int (i:Int) | str (s:Txt) | node (k:Kd) (xs:List D)
inductive O | leaf (d:D) | node (k:Kd) (xs:List O)
inductive Sl | undef | im (d:D) | vw (d:D) | own (o:O) | pen
inductive Fn
 | bits | ruleInit | gramInit | symbolCount | isTerminal | number | rulesOf | lastTerminal | plainGrammar
 | spread | nullable | productive | firstOf | firstMasks | followMasks | rowsJoined | allWords | wordsUpTo
 | unitOrder | wordsOver | treeCounts | lawPen | lawDraw | lawRules | lawOpened | lawNamed | lawWords | lawTold | law
noncomputable abbrev D.lst (xs:List D):D:=.node .lst xs
noncomputable abbrev D.tup (xs:List D):D:=.node .tup xs
noncomputable abbrev D.dct (ks:List Key) (xs:List D):D:=.node (.dct ks) xs
noncomputable def Key.toD:Key→D
 | .int i=>.int i
 | .str s=>.str s
 | .tup is=>.node .tup (is.map .int)
mutual
noncomputable def O.toD:O→D
 | .leaf d=>d
 | .node k xs=>.node k (O.xv xs)
noncomputable def O.xv:List O→List D
 | []=>[]
 | x::xs=>x.toD::O.xv xs
end
noncomputable def strV (s:Txt):Str:=⟨s.toArray⟩
theorem gw {s t:Txt} (h:strV s=strV t):s=t:=by
 have:=congrArg (fun x:Str=>x.cps.toList) h
 simpa [strV] using this
structure Wd where
 prog:Program
 w:World
 base:Heap
 os:OsState
 ca:Cls→Addr
 fa:Fn→Addr
 excA:Addr
 exN:∀ k,ca k≠excA
 sm:∃ a o,sysModules < a∧base.get? a=some o
 qt:Bool
 mg:Str→Option Value
 mb:Str→Option Value
 K:PySem.W.Frag
noncomputable def mW:List Int→List Value→Prop
 | [],vs=>vs=[]
 | i::is,vs=>∃ t r,vs=.int i t::r∧mW is r
noncomputable abbrev dN (vs:List Value) (n:Nat):Obj:=⟨.type "tuple",none,.seq vs.toArray n,#[]⟩
noncomputable abbrev fP (vs:List Value) (n:Nat):Obj:=⟨.type "list",none,.seq vs.toArray n,#[]⟩
noncomputable abbrev bH (es:List DictEntry) (n:Nat):Obj:=⟨.type "dict",none,.dict es.toArray n,#[]⟩
noncomputable def aU (h:Heap):Key→Value→Prop
 | .int i,v=>∃ t,v=.int i t
 | .str s,v=>∃ t,v=.str (strV s) t
 | .tup is,v=>∃ a vs n,v=.ref a∧h.get? a=some (dN vs n)∧mW is vs
noncomputable def jQ (w:World):Key→Int
 | .int i=>hashInt i
 | .str s=>hashStr w (strV s)
 | .tup is=>reduceHash (Builtin.Tuple.tupleHashOf (is.map hashInt))
inductive aM (w:World) (h:Heap):List DictEntry→List Key→List Value→Prop
 | nil:aM w h [] [] []
 | cons {e:DictEntry} {k:Key} {es ks vs}:aU h k e.key→e.hash=jQ w k→aM w h es ks vs→aM w h (e::es) (k::ks) (e.val::vs)
inductive bf:List DictEntry→List Txt→List Value→Prop
 | nil:bf [] [] []
 | cons {e:DictEntry} {k:Txt} {es ks vs}:(∃ t,e.key=.str (strV k) t)→bf es ks vs→bf (e::es) (k::ks) (e.val::vs)
inductive DctO (w:World) (h:Heap) (ks:List Key) (a:Addr) (vs:List Value):Prop
 | mk (es:List DictEntry) (n:Nat) (e:h.get? a=some (bH es n)) (f:aM w h es ks vs) (g:ks.Nodup)
inductive InsO (h:Heap) (C:Addr) (ns:List Txt) (a:Addr) (vs:List Value) (as:List Addr):Prop
 | mk (dx:Addr) (es:List DictEntry) (n:Nat) (sl:Array (Option Value)) (q:as=[a,dx]) (e:h.get? a=some ⟨.ref C,some dx,.plain,sl⟩) (f:h.get? dx=some (bH es n)) (g:bf es ns vs) (nd:ns.Nodup)
noncomputable def KR (W:Wd) (h:Heap) (k:Kd) (a:Addr) (vs:List Value) (as:List Addr):Prop:=match k with
 | .tup=>as=[]∧∃ n,h.get? a=some (dN vs n)
 | .lst=>as=[a]∧∃ n,h.get? a=some (fP vs n)
 | .dct ks=>as=[a]∧(a == sysModules)=false∧DctO W.w h ks a vs
 | .ins c ns=>InsO h (W.ca c) ns a vs as
inductive wj (K:Addr→List Value→List Addr→Prop) (P:Addr→Prop) (B:List Value→Prop) (v:Value):Prop
 | mk (a:Addr) (vs:List Value) (as:List Addr) (e:v=.ref a) (k:K a vs as) (p:∀ b∈as,P b) (b:B vs)
inductive wN (A:Value→Prop) (B:List Value→Prop) (vs:List Value):Prop
 | mk (v:Value) (r:List Value) (e:vs=v::r) (a:A v) (b:B r)
inductive wH (K:Addr→List Value→List Addr→Prop) (B:List Value→List Addr→Prop) (v:Value) (F:List Addr):Prop
 | mk (a:Addr) (vs:List Value) (as F':List Addr) (e:v=.ref a) (k:K a vs as) (b:B vs F') (q:F=as++F')
inductive wW (A:Value→List Addr→Prop) (B:List Value→List Addr→Prop) (vs:List Value) (F:List Addr):Prop
 | mk (v:Value) (r:List Value) (F1 F2:List Addr) (e:vs=v::r) (a:A v F1) (b:B r F2) (q:F=F1++F2)
mutual
noncomputable def VR (W:Wd) (h:Heap) (P:Addr→Prop):D→Value→Prop
 | .nul,v=>v=.none
 | .bool b,v=>v=.bool b
 | .int i,v=>∃ t,v=.int i t
 | .str s,v=>∃ t,v=.str (strV s) t
 | .node k xs,v=>wj (KR W h k) P (VRs W h P xs) v
noncomputable def VRs (W:Wd) (h:Heap) (P:Addr→Prop):List D→List Value→Prop
 | [],vs=>vs=[]
 | d::ds,vs=>wN (VR W h P d) (VRs W h P ds) vs
end
mutual
noncomputable def VO (W:Wd) (h:Heap) (P:Addr→Prop):O→Value→List Addr→Prop
 | .leaf d,v,F=>VR W h P d v∧F=[]
 | .node k xs,v,F=>wH (KR W h k) (VOs W h P xs) v F
noncomputable def VOs (W:Wd) (h:Heap) (P:Addr→Prop):List O→List Value→List Addr→Prop
 | [],vs,F=>vs=[]∧F=[]
 | x::xs,vs,F=>wW (VO W h P x) (VOs W h P xs) vs F
end
section
variable {W:Wd} {h h':Heap} {P P':Addr→Prop}
inductive kU (ca:Cls→Addr) (h:Heap) (a:Addr):Prop
 | mk (o:Obj) (e:h.get? a=some o) (c:o.cls=.type "list"∨o.cls=.type "dict"∨∃ k,o.cls=.ref (ca k)) (n1:∀ v,o.data≠.cell v) (n2:∀ v,o.data≠.fields v)
noncomputable abbrev ak (W:Wd) (h:Heap) (a:Addr):Prop:=kU W.ca h a
theorem kU.keep {a} (x:ak W h a) (k:∀ o,h.get? a=some o→h'.get? a=some o):ak W h' a:=by
 obtain ⟨o,e,c,n1,n2⟩:=x
 exact ⟨o,k o e,c,n1,n2⟩
theorem kU.nf {a} (x:ak W h a):∃ o,h.get? a=some o∧o.cls≠.type "frame"∧o.cls≠.type "tuple"∧o.cls≠.type "cell":=by
 obtain ⟨o,e,c,_⟩:=x
 refine ⟨o,e,?_⟩
 rcases c with c | c | ⟨k,c⟩ <;> rw [c] <;> simp
noncomputable def be (S:Addr→Prop) (h h':Heap):Prop:=∀ b o,h.get? b=some o→(S b∨o.cls=.type "tuple")→h'.get? b=some o
theorem be.mono {S T:Addr→Prop} (x:be S h h') (hT:∀ a,T a→S a):be T h h':=fun b o e c=>x b o e (c.imp (hT b) id)
theorem be.all (x:∀ b o,h.get? b=some o→h'.get? b=some o) (S):be S h h':=fun b o e u0=>x b o e
theorem aU.xl {S} (x:be S h h'):∀ {k:Key} {v:Value},aU h k v→aU h' k v
 | .int _,_,r=>r
 | .str _,_,r=>r
 | .tup _,_,yy0x0=>by obtain ⟨a,vs,n,e,g,f⟩:=yy0x0;exact ⟨a,vs,n,e,x _ _ g (.inr rfl),f⟩
theorem aM.xl {S w es ks vs} (x:be S h h') (r:aM w h es ks vs):aM w h' es ks vs:=by
 induction r with
 | nil=>exact .nil
 | cons a b _ ih=>exact .cons (a.xl x) b ih
theorem KR.xl {S k a vs as} (x:be S h h') (r:KR W h k a vs as) (hS:∀ b∈as,S b):KR W h' k a vs as:=by
 cases k with
 | tup=>exact ⟨r.1,r.2.imp fun u0 e=>x _ _ e (.inr rfl)⟩
 | lst=>exact ⟨r.1,r.2.imp fun u0 e=>x _ _ e (.inl (hS _ (r.1▸List.mem_cons_self)))⟩
 | dct ks=>
  obtain ⟨rfl,r2,es,n,e,f,g⟩:=r
  exact ⟨rfl,r2,es,n,x _ _ e (.inl (hS _ List.mem_cons_self)),f.xl x,g⟩
 | ins c ns=>
  obtain ⟨dx,es,n,sl,rfl,e,f,g,nd⟩:=r
  exact ⟨dx,es,n,sl,rfl,x _ _ e (.inl (hS _ List.mem_cons_self)),x _ _ f (.inl (hS _ (List.mem_cons_of_mem _ List.mem_cons_self))),g,nd⟩
theorem kU.lst {a vs n} (e:h.get? a=some (fP vs n)):ak W h a:=⟨_,e,.inl rfl,fun u0 q=>(nomatch q),fun u0 q=>(nomatch q)⟩
theorem kU.dct {a es n} (e:h.get? a=some (bH es n)):ak W h a:=⟨_,e,.inr (.inl rfl),fun u0 q=>(nomatch q),fun u0 q=>(nomatch q)⟩
theorem KR.live {k a vs as} (r:KR W h k a vs as):∀ b∈as,ak W h b:=by
 cases k with
 | tup=>rw [r.1];exact fun u0 q=>(aE q)
 | lst=>rw [r.1];obtain ⟨n,e⟩:=r.2;exact List.forall_mem_singleton.mpr (.lst e)
 | dct ks=>rw [r.1];obtain ⟨es,n,e,_⟩:=r.2.2;exact List.forall_mem_singleton.mpr (.dct e)
 | ins c ns=>
  obtain ⟨dx,es,n,sl,q,e,f,g⟩:=r
  rw [q]
  exact List.forall_mem_cons.mpr ⟨⟨_,e,.inr (.inr ⟨c,rfl⟩),fun u0 q=>(nomatch q),fun u0 q=>(nomatch q)⟩,List.forall_mem_singleton.mpr (.dct f)⟩
theorem D.ind {P:D→Prop} {Q:List D→Prop} (h1:P .nul) (h2:∀ b,P (.bool b)) (h3:∀ i,P (.int i)) (h4:∀ s,P (.str s)) (h5:∀ k xs,Q xs→P (.node k xs)) (h6:Q []) (h7:∀ x xs,P x→Q xs→Q (x::xs)):(∀ d,P d)∧∀ ds,Q ds:=⟨fun d=>D.rec h1 h2 h3 h4 h5 h6 h7 d,fun d=>D.rec_1 h1 h2 h3 h4 h5 h6 h7 d⟩
theorem O.ind {P:O→Prop} {Q:List O→Prop} (h1:∀ d,P (.leaf d)) (h5:∀ k xs,Q xs→P (.node k xs)) (h6:Q []) (h7:∀ x xs,P x→Q xs→Q (x::xs)):(∀ d,P d)∧∀ ds,Q ds:=⟨fun d=>O.rec h1 h5 h6 h7 d,fun d=>O.rec_1 h1 h5 h6 h7 d⟩
theorem VR.xK (x:be (fun b=>P b∧ak W h b) h h') (hP:∀ a,P a→ak W h a→P' a):(∀ d v,VR W h P d v→VR W h' P' d v)∧∀ ds vs,VRs W h P ds vs→VRs W h' P' ds vs:=
 D.ind (fun u0 r=>r) (fun u0 u0 r=>r) (fun u0 u0 r=>r) (fun u0 u0 r=>r) (fun u0 u0 ih u0 y=>by obtain ⟨a,vs,as,e,kr,p,rs⟩:=y;exact ⟨a,vs,as,e,kr.xl x fun b hb=>⟨p b hb,kr.live b hb⟩,fun b hb=>hP b (p b hb) (kr.live b hb),ih _ rs⟩) (fun u0 r=>r) fun u0 u0 i1 i2 u0 y=>by obtain ⟨v,r,e,a,b⟩:=y;exact ⟨v,r,e,i1 _ a,i2 _ b⟩
theorem VR.xl (x:be (fun b=>P b∧ak W h b) h h') (hP:∀ a,P a→ak W h a→P' a) {d v}:VR W h P d v→VR W h' P' d v:=(VR.xK x hP).1 d v
theorem VRs.xl (x:be (fun b=>P b∧ak W h b) h h') (hP:∀ a,P a→ak W h a→P' a) {ds vs}:VRs W h P ds vs→VRs W h' P' ds vs:=(VR.xK x hP).2 ds vs
theorem VR.mono (hP:∀ a,P a→P' a) {d v} (r:VR W h P d v):VR W h P' d v:=r.xl (fun u0 u0 e u0=>e) fun a q u0=>hP a q
theorem VR.live (r:VR W h P d v):VR W h (fun a=>P a∧ak W h a) d v:=r.xl (fun u0 u0 e u0=>e) fun u0 q l=>⟨q,l⟩
theorem VR.grow (x:∀ b o,h.get? b=some o→h'.get? b=some o) {d v} (r:VR W h P d v):VR W h' P d v:=r.xl (.all x _) fun u0 q u0=>q
theorem VRs.grow (x:∀ b o,h.get? b=some o→h'.get? b=some o) {d v} (r:VRs W h P d v):VRs W h' P d v:=r.xl (.all x _) fun u0 q u0=>q
theorem VRs.mono (hP:∀ a,P a→P' a) {d v} (r:VRs W h P d v):VRs W h P' d v:=r.xl (fun u0 u0 e u0=>e) fun a q u0=>hP a q
theorem VO.xK (x:be (fun b=>P b∧ak W h b) h h') (hP:∀ a,P a→ak W h a→P' a):(∀ o v F,VO W h P o v F→(∀ a∈F,∀ o,h.get? a=some o→h'.get? a=some o)→VO W h' P' o v F)∧∀ os v F,VOs W h P os v F→(∀ a∈F,∀ o,h.get? a=some o→h'.get? a=some o)→VOs W h' P' os v F:=
 O.ind (fun u0 u0 u0 y u0=>⟨y.1.xl x hP,y.2⟩) (fun u0 u0 ih u0 u0 y hF=>by
  obtain ⟨a,vs,as,F',e,kr,rs,q⟩:=y
  exact ⟨a,vs,as,F',e,kr.xl (S:=(·∈as)) (fun b o e c=>c.elim (fun hb=>hF b (q▸List.mem_append_left _ hb) o e) fun c=>x b o e (.inr c)) fun u0 hb=>hb,ih _ _ rs fun b hb=>hF b (q▸List.mem_append_right _ hb),q⟩) (fun u0 u0 r u0=>r)
  fun u0 u0 i1 i2 u0 u0 y hF=>by obtain ⟨v,r,F1,F2,e,a,b,q⟩:=y;exact ⟨v,r,F1,F2,e,i1 _ _ a fun b hb=>hF b (q▸List.mem_append_left _ hb),i2 _ _ b fun b hb=>hF b (q▸List.mem_append_right _ hb),q⟩
theorem VO.xl (x:be (fun b=>P b∧ak W h b) h h') (hP:∀ a,P a→ak W h a→P' a) {o v F}:VO W h P o v F→(∀ a∈F,∀ o,h.get? a=some o→h'.get? a=some o)→VO W h' P' o v F:=(VO.xK x hP).1 o v F
theorem VOs.xl (x:be (fun b=>P b∧ak W h b) h h') (hP:∀ a,P a→ak W h a→P' a) {o v F}:VOs W h P o v F→(∀ a∈F,∀ o,h.get? a=some o→h'.get? a=some o)→VOs W h' P' o v F:=(VO.xK x hP).2 o v F
theorem VO.yg:(∀ o v F,VO W h P o v F→∀ a∈F,ak W h a)∧∀ o v F,VOs W h P o v F→∀ a∈F,ak W h a:=
 O.ind (fun u0 u0 u0 y a ha=>aE (y.2▸ha)) (fun u0 u0 ih u0 u0 y a ha=>by
  obtain ⟨_,_,_,_,_,kr,rs,q⟩:=y
  exact (List.mem_append.mp (q▸ha)).elim (kr.live a) (ih _ _ rs a)) (fun u0 u0 y a ha=>aE (y.2▸ha)) fun u0 u0 i1 i2 u0 u0 y a ha=>by
  obtain ⟨_,_,_,_,_,x,y,q⟩:=y
  exact (List.mem_append.mp (q▸ha)).elim (i1 _ _ x a) (i2 _ _ y a)
theorem VO.live {o v F}:VO W h P o v F→∀ a∈F,ak W h a:=VO.yg.1 o v F
theorem VOs.live {o v F}:VOs W h P o v F→∀ a∈F,ak W h a:=VO.yg.2 o v F
theorem VO.yh (hP:∀ a,P a→P' a):(∀ o v F,VO W h P o v F→(∀ a∈F,P' a)→VR W h P' o.toD v)∧∀ o v F,VOs W h P o v F→(∀ a∈F,P' a)→VRs W h P' (O.xv o) v:=
 O.ind (fun u0 u0 u0 y u0=>y.1.mono hP) (fun u0 u0 ih u0 u0 y hF=>by obtain ⟨a,vs,as,_,e,kr,rs,q⟩:=y;exact ⟨a,vs,as,e,kr,fun b hb=>hF b (q▸List.mem_append_left _ hb),ih _ _ rs fun b hb=>hF b (q▸List.mem_append_right _ hb)⟩) (fun u0 u0 y u0=>y.1)
  fun u0 u0 i1 i2 u0 u0 y hF=>by obtain ⟨v,r,_,_,e,a,b,q⟩:=y;exact ⟨v,r,e,i1 _ _ a fun b hb=>hF b (q▸List.mem_append_left _ hb),i2 _ _ b fun b hb=>hF b (q▸List.mem_append_right _ hb)⟩
theorem VO.view (hP:∀ a,P a→P' a) {o v F}:VO W h P o v F→(∀ a∈F,P' a)→VR W h P' o.toD v:=(VO.yh hP).1 o v F
theorem VOs.view (hP:∀ a,P a→P' a) {o v F}:VOs W h P o v F→(∀ a∈F,P' a)→VRs W h P' (O.xv o) v:=(VO.yh hP).2 o v F
theorem VRs.length:∀ {ds vs},VRs W h P ds vs→ds.length=vs.length:=by
 intro ds
 induction ds with
 | nil=>exact @fun u0 e=>by rw [show _=[] from e];rfl
 | cons _ _ ihq=>exact @fun u0 yy14x0=>by obtain ⟨_,_,e,_,b⟩:=yy14x0;rw [e,List.length_cons,List.length_cons,ihq b]
theorem VRs.append:∀ {ds vs es ws},VRs W h P ds vs→VRs W h P es ws→VRs W h P (ds++es) (vs++ws):=by
 intro ds
 induction ds with
 | nil=>exact @fun u0 u0 u0 e s=>by rw [show _=[] from e];exact s
 | cons _ _ ihq=>exact @fun u0 u0 u0 yy15x0 s=>by obtain ⟨v,r,e,a,b⟩:=yy15x0;exact ⟨v,r++_,by rw [e];rfl,a,ihq b s⟩
theorem VRs.one {d v} (r:VR W h P d v):VRs W h P [d] [v]:=⟨v,[],rfl,r,rfl⟩
theorem VRs.at {d}:∀ {ds vs} {i:Nat},VRs W h P ds vs→ds[i]? = some d→∃ v,vs[i]? = some v∧VR W h P d v:=by
 intro ds
 induction ds with
 | nil=>exact fun u0 h=>wk h
 | cons x ds ih=>
  intro vs i r h
  obtain ⟨v,r,e,a,b⟩:=r
  subst e
  cases i with
  | zero=>exact ⟨v,rfl,Option.some.inj h▸a⟩
  | succ i=>exact ih (i:=i) b h
theorem VRs.take:∀ {ds vs},VRs W h P ds vs→∀ n,VRs W h P (ds.take n) (vs.take n):=by
 intro ds
 induction ds with
 | nil=>exact fun e n=>by rw [show _=[] from e,List.take_nil,List.take_nil];rfl
 | cons x ds ih=>
  intro vs r n
  obtain ⟨v,r,e,a,b⟩:=r
  subst e
  cases n with
  | zero=>rfl
  | succ n=>exact ⟨v,r.take n,rfl,a,ih b n⟩
theorem VRs.drop:∀ {ds vs},VRs W h P ds vs→∀ n,VRs W h P (ds.drop n) (vs.drop n):=by
 intro ds
 induction ds with
 | nil=>exact fun e n=>by rw [show _=[] from e,List.drop_nil,List.drop_nil];rfl
 | cons x ds ih=>
  intro vs r n
  cases n with
  | zero=>exact r
  | succ n=>
   obtain ⟨v,r,e,a,b⟩:=r
   subst e
   exact ih b n
theorem VRs.snoc {ds vs d v} (r:VRs W h P ds vs) (a:VR W h P d v):VRs W h P (ds++[d]) (vs++[v]):=r.append (.one a)
end
end Mine
namespace Mine
open PySem PySem.Calls PyProof.Rows PySem.W
noncomputable def vc (W:Wd) (c:Value):Prop:=c=.type "list"∨c=.type "dict"∨c=.type "frame"∨c=.type "cell"∨∃ k,c=.ref (W.ca k)
inductive Fr1 (h base:Heap) (env:Env):Prop
 | mk (L:Addr) (o:Obj) (es:Array DictEntry) (n:Nat) (b1:env.frame=some L) (b2:base.get? L=none) (b3:h.get? L=some o) (b4:o.cls=.type "frame") (b5:o.data=.dict es n)
noncomputable def iB (h base:Heap):List Env→Prop
 | []=>True
 | env::rest=>env.scope.kind≠.module∧Fr1 h base env∧iB h base rest
inductive HndO (M:Value→Prop) (hd:Option Value) (h:Heap):Prop
 | mk (e:Addr) (o:Obj) (vs:Array Value) (h1:hd=some (.ref e)) (h2:h.get? e=some o) (h3:o.data=.fields vs) (h4:vs[2]? = some .none) (h5:¬ M o.cls)
noncomputable def HOK (W:Wd) (A:Around) (h:Heap):Prop:=(W.qt=true→A.handled=none)∧(A.handled=none∨HndO (vc W) A.handled h)
structure W0 (W:Wd) (A:Around) (s:Shared):Prop where
 base:W.base.StaysIn s.heap
 gens:s.gens = #[]
 os:s.os=W.os
 outer:∃ l,A.frames=some l∧iB s.heap W.base l
 hand:HOK W A s.heap
inductive PenO (h:Heap) (a:Addr) (k:Nat):Prop
 | mk (x y:Int) (t u:Tok) (n:Nat) (e:h.get? a=some (fP [.int x t,.int y u] n)) (l:0≤y) (r:y≤(k:Int))
noncomputable def c9 (h:Heap) (p:Option Addr) (k:Nat):Prop:=∀ a,p=some a→PenO h a k
noncomputable def av (p:Option Addr) (h h':Heap):Prop:=
 ∀ b o,h.get? b=some o→p≠some b→(o.cls≠.type "frame"→h'.get? b=some o)∧∃ sl,h'.get? b=some { o with slots:=sl }
noncomputable def bj (h:Heap) (env:Env) (x:Str) (v:Value):Prop:=
 (env.kindOf x=some .local∧∃ m,h.Ns env.locals m∧m x=some v)∨
 ((env.kindOf x=some .cell∨env.kindOf x=some .free)∧∃ ce,env.cells.lookup x=some ce∧h.IsCell ce (some v))
structure oZ (env:Env) (names:List (Str × NameKind)):Prop where
 kind:env.scope.kind=.function
 globals:env.globals=mainGlobals
 builtins:env.builtins=builtinsNs
 glob:∀ x,names.lookup x=some .globalImplicit→env.kindOf x=some .globalImplicit
 loc:∀ x,names.lookup x=some .local→env.kindOf x=some .local
 apart:∀ x y c,env.cells.lookup x=some c→env.cells.lookup y=some c→x=y
 cells:∀ x,(names.lookup x=some .cell∨names.lookup x=some .free)→(∃ c,env.cells.lookup x=some c)∧(env.kindOf x=some .cell∨env.kindOf x=some .free)
structure EnvF (A:Around) (env:Env) (names:List (Str × NameKind)):Prop where
 fr:env.frame=some env.locals
 frs:∃ outer,A.frames=some (env::outer)
 cel:∀ x,names.lookup x=some .cell→env.kindOf x=some .cell
noncomputable def i5 (n:Nat) (A:Around):Prop:=A.depth+3 * n+10 < recursionLimit∧A.units+20 * n+100 < cLine
structure Cx where
 W:Wd
 n:Nat
 A:Around
 env:Env
 sl:List (Str × Nat)
 names:List (Str × NameKind)
 S0:Addr→Prop
 h0:Heap
 pen:Option Addr
 pin:Option Value
 fr:Bool
 acc:Option (Nat × Addr)
noncomputable abbrev Cx.M (c:Cx):Model:=model c.W.prog c.W.w
noncomputable def dP:List (Str × Value):=[("len",.builtin "len"),("abs",.builtin "abs"),("int",.type "int"),("max",.builtin "max"),("list",.type "list"),("tuple",.type "tuple"),("sorted",.builtin "sorted"),("range",.type "range"),("reversed",.type "reversed"),("enumerate",.type "enumerate")]
noncomputable def aI:Cls→List Txt
 | .rule=>[[110,117,109,98,101,114],[108,101,102,116],[114,105,103,104,116],[108,101,118,101,108,95,111,102],[97,99,116,105,111,110],[108,105,110,101],[98,101,102,111,114,101]]
 | .gram=>[[110,97,109,101,115],[116,101,114,109,105,110,97,108,95,99,111,117,110,116],[114,117,108,101,115],[108,101,118,101,108,115],[101,120,112,101,99,116],[115,116,97,114,116],[98,121,95,108,101,102,116],[111,102,102,115,101,116,115],[111,119,110,101,114,115],[105,116,101,109,95,99,111,117,110,116]]
structure uw (K:Frag) (C:Addr) (attrs:List Txt):Prop where
 gg:findIn K (.ref C) "__getattribute__" = some (some (.builtin "object.__getattribute__"))
 ga:findIn K (.ref C) "__getattr__" = some none
 hd:hasDictIn K C=true
 at_:∀ a∈attrs,findIn K (.ref C) (strV a)=some none
 sa:findIn K (.ref C) "__setattr__" = some (some (.builtin "object.__setattr__"))
 po:plainOver K C=true
 tk:∀ a∈attrs,takerIn K C (strV a)=some none
noncomputable def fv (W:Wd) (f:Fn):Value:=bif f.ctorIdx == 1 then .ref (W.ca .rule) else bif f.ctorIdx == 2 then .ref (W.ca .gram) else .ref (W.fa f)
noncomputable def aX:Fn→Txt
 | .bits=>[98,105,116,115] | .ruleInit=>[82,117,108,101] | .gramInit=>[71,114,97,109,109,97,114]
 | .symbolCount=>[115,121,109,98,111,108,95,99,111,117,110,116] | .isTerminal=>[105,115,95,116,101,114,109,105,110,97,108]
 | .number=>[110,117,109,98,101,114] | .rulesOf=>[114,117,108,101,115,95,111,102]
 | .lastTerminal=>[108,97,115,116,95,116,101,114,109,105,110,97,108] | .plainGrammar=>[112,108,97,105,110,95,103,114,97,109,109,97,114]
 | .spread=>[115,112,114,101,97,100] | .nullable=>[110,117,108,108,97,98,108,101] | .productive=>[112,114,111,100,117,99,116,105,118,101]
 | .firstOf=>[102,105,114,115,116,95,111,102] | .firstMasks=>[102,105,114,115,116,95,109,97,115,107,115] | .followMasks=>[102,111,108,108,111,119,95,109,97,115,107,115]
 | .rowsJoined=>[114,111,119,115,95,106,111,105,110,101,100] | .allWords=>[97,108,108,95,119,111,114,100,115] | .wordsUpTo=>[119,111,114,100,115,95,117,112,95,116,111]
 | .unitOrder=>[117,110,105,116,95,111,114,100,101,114] | .wordsOver=>[119,111,114,100,115,95,111,118,101,114] | .treeCounts=>[116,114,101,101,95,99,111,117,110,116,115]
 | .lawPen=>[95,108,97,119,95,112,101,110] | .lawDraw=>[95,108,97,119,95,100,114,97,119] | .lawRules=>[95,108,97,119,95,114,117,108,101,115] | .lawOpened=>[95,108,97,119,95,111,112,101,110,101,100]
 | .lawNamed=>[95,108,97,119,95,110,97,109,101,100] | .lawWords=>[95,108,97,119,95,119,111,114,100,115] | .lawTold=>[95,108,97,119,95,116,111,108,100] | .law=>[108,97,119]
noncomputable def bF (f:Fn):Bool:=Nat.ble 3 f.ctorIdx && Nat.ble f.ctorIdx 6
noncomputable def allF:List Fn:=[.bits,.ruleInit,.gramInit,.symbolCount,.isTerminal,.number,.rulesOf,.lastTerminal,.plainGrammar,.spread,.nullable,.productive,.firstOf,.firstMasks,.followMasks,.rowsJoined,.allWords,.wordsUpTo,.unitOrder,.wordsOver,.treeCounts,.lawPen,.lawDraw,.lawRules,.lawOpened,.lawNamed,.lawWords,.lawTold,.law]
theorem mH:∀ f,f∈allF:=fun f=>List.mem_of_getElem? (i:=f.ctorIdx) (by cases f <;> rfl)
theorem cI {p:Fn→Bool} (h:allF.all p=true) (f:Fn):p f=true:=List.all_eq_true.mp h f (mH f)
theorem te {W:Wd} {f:Fn} (h:bF f=true):fv W f=.ref (W.fa f):=by
 have h:=Nat.le_of_ble_eq_true (Bool.and_eq_true_iff.mp h).1
 unfold fv
 rw [beq_eq_false_iff_ne.mpr (Nat.ne_of_gt (Nat.lt_of_lt_of_le (by decide:1 < 3) h)),beq_eq_false_iff_ne.mpr (Nat.ne_of_gt (Nat.lt_of_lt_of_le (by decide:2 < 3) h))]
 rfl
structure WOK (W:Wd):Prop where
 g:W.base.Ns mainGlobals W.mg
 b:W.base.Ns builtinsNs W.mb
 bb:∀ x:Str,x≠"__name__"→W.mb x=bootBuiltins x
 noB:∀ y∈dP,W.mg y.1=none
 inb:W.K.In W.base
 cls:∀ c,uw W.K (W.ca c) (aI c)
 name:∀ f,bF f=false→W.mg (strV (aX f))=some (fv W f)
 keep:∀ f,keepIn W.K (fv W f)=true
 meth:∀ f,bF f=true→findIn W.K (.ref (W.ca .gram)) (strV (aX f))=some (some (.ref (W.fa f)))∧typeIn W.K (.ref (W.fa f))=some (.type "function")
structure aJ (c:Cx):Prop where
 wok:WOK c.W
 room:i5 c.n c.A
 env:oZ c.env c.names
 frm:c.fr=true→EnvF c.A c.env c.names
 inj:∀ x y i,c.sl.lookup x=some i→c.sl.lookup y=some i→x=y
 s0:∀ a,c.S0 a→ak c.W c.h0 a
 bh:∀ b o,c.W.base.get? b=some o→∃ o',c.h0.get? b=some o'
 pn:∀ a,c.pen=some a→c.W.base.get? a=none
inductive Lv | im | vw | any
noncomputable abbrev Fp:=Nat→List Addr
noncomputable def Cx.S (c:Cx) (F:Fp) (l:Lv) (a:Addr):Prop:=(match l with
 | .im=>(c.S0 a∨c.h0.get? a=none)∧∀ i,a∉F i
 | .vw=>∀ i,a∉F i
 | .any=>True)∧c.pen≠some a∧a≠c.env.locals
noncomputable def ee (c:Cx) (h:Heap) (F:Fp) (x:Str) (i:Nat):Sl→Prop
 | .undef=>True
 | .im d=>∃ v,bj h c.env x v∧VR c.W h (c.S F .im) d v
 | .vw d=>∃ v,bj h c.env x v∧VR c.W h (c.S F .vw) d v
 | .own o=>∃ v,bj h c.env x v∧VO c.W h (c.S F .im) o v (F i)∧∀ q,c.pin=some q→i=0→v=q
 | .pen=>∃ p,c.pen=some p∧bj h c.env x (.ref p)
noncomputable def LoC (c:Cx) (v:Value):Prop:=v=.type "frame"∧c.fr=true∨v=.type "dict"∧c.fr=false
theorem LoC.ne {c:Cx} {v:Value} (h:LoC c v):v≠.type "list"∧v≠.type "tuple"∧v≠.type "cell":=by
 rcases h with h | h <;> rw [h.1] <;> simp
inductive CelO (h:Heap) (a:Addr):Prop
 | mk (o:Obj) (v:Option Value) (e:h.get? a=some o) (d:o.data=.cell v) (c:o.cls=.type "cell")
structure tD (c:Cx) (h:Heap):Prop where
 ns:∃ m,h.Ns c.env.locals m
 lo:∃ o,h.get? c.env.locals=some o∧LoC c o.cls
 cell:∀ x a,c.env.cells.lookup x=some a→CelO h a
 locN:c.h0.get? c.env.locals=none
 cellN:c.fr=true→∀ x a,c.env.cells.lookup x=some a→c.h0.get? a=none
structure SR (c:Cx) (ρ:List Sl) (k:Nat) (F:Fp) (s:Shared):Prop where
 w0:W0 c.W c.A s
 keep:av c.pen c.h0 s.heap
 pen:c9 s.heap c.pen k
 vals:∀ x i,c.sl.lookup x=some i→ee c s.heap F x i (ρ[i]?.getD .undef)
 nd:∀ i,(F i).Nodup
 dj:∀ i j a,i≠j→a∈F i→a∉F j
 own:∀ i a,a∈F i→c.h0.get? a=none∧ak c.W s.heap a∧c.pen≠some a∧a≠c.env.locals
 env:tD c s.heap
 acc:∀ i a,c.acc=some (i,a)→∃ o,ρ[i]? = some (.own o)∧VO c.W s.heap (c.S F .im) o (.ref a) (F i)
section
variable {p:Option Addr} {h h' h'':Heap} {k:Nat}
theorem av.refl:av p h h:=fun u0 o e u0=>⟨fun u0=>e,o.slots,e⟩
theorem av.trans (x:av p h h') (y:av p h' h''):av p h h'':=fun b o hb hp=>
 by
 obtain ⟨x1,_,x2⟩:=x b o hb hp
 exact ⟨fun hc=>(y b o (x1 hc) hp).1 hc,(y b _ x2 hp).2⟩
theorem av.xp (x:∀ b o,h.get? b=some o→h'.get? b=some o):av p h h':=fun b o e u0=>⟨fun u0=>x b o e,o.slots,x b o e⟩
theorem c9.ne (x:c9 h p k) {a o} (e:h.get? a=some o) (hc:o.cls≠.type "list"):p≠some a:=fun q=>by
 obtain ⟨_,_,_,_,_,e',_⟩:=x a q
 obtain rfl:=geq e e';exact hc rfl
theorem av.fresh (x:av p h h') (y:c9 h' p k) {a} (e:h'.get? a=none):h.get? a=none:=by
 cases q:h.get? a with
 | none=>rfl
 | some o=>
  by_cases hp:p=some a
  ·obtain ⟨_,_,_,_,_,e',_⟩:=y a hp
   exact gno e e'
  ·obtain ⟨_,_,e'⟩:=x a o q hp
   exact gno e e'
theorem av.xl (x:av p h h') (y:c9 h p k) {W:Wd} {P:Addr→Prop} (hP:∀ a,P a→p≠some a):be (fun b=>P b∧ak W h b) h h':=fun b o e c=>by
 rcases c with ⟨c1,c2⟩ | c
 ·obtain ⟨o',e',f,_⟩:=c2.nf
  obtain rfl:=geq e e'
  exact (x b o e (hP b c1)).1 f
 ·exact (x b o e (y.ne e (by rw [c];simp))).1 (by rw [c];simp)
theorem av.xR (x:av p h h') {W:Wd} {a} (hp:p≠some a) (l:ak W h a):ak W h' a:=by
 obtain ⟨o,e,f,_⟩:=l.nf
 obtain ⟨o',e',r,r1,r2⟩:=l
 obtain rfl:=geq e e'
 exact ⟨o,(x a o e hp).1 f,r,r1,r2⟩
theorem av.ns (x:av p h h') (y:c9 h p k) {a m} (n:h.Ns a m):h'.Ns a m:=by
 obtain ⟨o,es,ep,ho,hd,r⟩:=n
 obtain ⟨_,sl,e⟩:=x a o ho fun q=>by
  obtain ⟨_,_,_,_,_,e',_⟩:=y a q
  obtain rfl:=geq ho e';injection hd
 exact ⟨_,es,ep,e,hd,r⟩
theorem av.cell (x:av p h h') (y:c9 h p k) {a m} (n:h.IsCell a m):h'.IsCell a m:=by
 obtain ⟨o,ho,hd⟩:=n
 obtain ⟨_,sl,e⟩:=x a o ho fun q=>by
  obtain ⟨_,_,_,_,_,e',_⟩:=y a q
  obtain rfl:=geq ho e';injection hd
 exact ⟨_,e,hd⟩
theorem bj.keep {env x v} (r:bj h env x v) (q:av p h h') (y:c9 h p k):bj h' env x v:=
 r.imp (fun zz0=>by obtain ⟨a,m,b,c⟩:=zz0;exact ⟨a,m,q.ns y b,c⟩) fun zz1=>by obtain ⟨a,ce,b,c⟩:=zz1;exact ⟨a,ce,b,q.cell y c⟩
theorem iB.step {base:Heap} (k:∀ b o,h.get? b=some o→o.cls=.type "frame"→∃ sl,h'.get? b=some { o with slots:=sl }):∀ {l},iB h base l→iB h' base l:=by
 intro l
 induction l with
 | nil=>
  exact @fun u0=>trivial
 | cons env rest ihq=>
  exact @fun yy0x0=>by obtain ⟨a,⟨L,o,es,n,b1,b2,b3,b4,b5⟩,c⟩:=yy0x0;exact by obtain ⟨_,e⟩:=k L o b3 b4;exact ⟨a,⟨L,_,es,n,b1,b2,e,b4,b5⟩,ihq c⟩
end
section
variable {c:Cx} {ρ:List Sl} {k k':Nat} {F:Fp} {s s' s'':Shared} {l:Lv}
theorem Cx.S.any {a} (x:c.S F l a):c.S F .any a:=⟨trivial,x.2⟩
theorem Cx.S.im {a} (x:c.S F .im a):c.S F l a:=by
 cases l
 ·exact x
 ·exact ⟨x.1.2,x.2⟩
 ·exact ⟨trivial,x.2⟩
theorem Cx.S.xu {a} (x:c.S F l a):c.pen≠some a:=x.2.1
theorem SR.fresh (x:SR c ρ k F s) {a} (e:s.heap.get? a=none):c.h0.get? a=none:=x.keep.fresh x.pen e
noncomputable def Cx.Nu (c:Cx) (a:Addr):Prop:=c.h0.get? a=none∧c.A.handled≠some (.ref a)
theorem SR.nu (x:SR c ρ k F s) {a} (e:s.heap.get? a=none):c.Nu a:=⟨x.fresh e,fun q=>by
 rcases x.w0.hand.2 with h | ⟨b,o,_,h,e',_⟩
 ·exact gno h q
 ·have z:=Eq.trans (Eq.symm h) q;have z0:=Option.some.inj z;injection z0 with z1a;try subst z1a;exact gno e e'⟩
theorem SR.xm (x:SR c ρ k F s) {a} (e:s.heap.get? a=none):c.S F l a:=by
 refine Cx.S.im ⟨⟨.inr (x.fresh e),fun i h=>?_⟩,fun q=>?_,fun q=>?_⟩
 ·obtain ⟨o,e',_⟩:=(x.own i a h).2.1;exact gno e e'
 ·obtain ⟨_,_,_,_,_,e',_⟩:=x.pen a q;exact gno e e'
 ·obtain ⟨o,e',_⟩:=x.env.lo;rw [← q] at e';exact gno e e'
theorem SR.vr (x:SR c ρ k F s) (q:av c.pen s.heap s'.heap) {d v} (r:VR c.W s.heap (c.S F l) d v):VR c.W s'.heap (c.S F l) d v:=
 r.xl (q.xl x.pen fun u0 h=>h.xu) fun u0 h u0=>h
theorem SR.vo (x:SR c ρ k F s) (q:av c.pen s.heap s'.heap) {o v i} (r:VO c.W s.heap (c.S F .im) o v (F i)):VO c.W s'.heap (c.S F .im) o v (F i):=
 r.xl (q.xl x.pen fun u0 h=>h.xu) (fun u0 h u0=>h) fun a ha o e=>by
  obtain ⟨_,l,p,_⟩:=x.own i a ha
  obtain ⟨o',e',f,_⟩:=l.nf
  obtain rfl:=geq e e'
  exact (q a o e p).1 f
theorem tD.keep (x:SR c ρ k F s) (q:av c.pen s.heap s'.heap):tD c s'.heap where
 ns:=x.env.ns.imp fun u0 h=>q.ns x.pen h
 lo:=by
  obtain ⟨o,e,h1⟩:=x.env.lo
  obtain ⟨_,sl,e'⟩:=q _ o e (x.pen.ne e h1.ne.1)
  exact ⟨_,e',h1⟩
 cell:=fun y a h=>by
  obtain ⟨o,v,e,d,f⟩:=x.env.cell y a h
  exact ⟨o,v,(q _ o e (x.pen.ne e (by rw [f];simp))).1 (by rw [f];simp),d,f⟩
 locN:=x.env.locN
 cellN:=x.env.cellN
theorem SR.step (x:SR c ρ k F s) (q:av c.pen s.heap s'.heap) (w:W0 c.W c.A s') (pn:c9 s'.heap c.pen k'):SR c ρ k' F s' where
 w0:=w
 keep:=x.keep.trans q
 pen:=pn
 vals:=fun y i h=>by
  have:=x.vals y i h
  generalize ρ[i]?.getD .undef=z at this
  cases z with
  | undef=>trivial
  | im d=>exact this.imp fun v r=>⟨r.1.keep q x.pen,x.vr q r.2⟩
  | vw d=>exact this.imp fun v r=>⟨r.1.keep q x.pen,x.vr q r.2⟩
  | own o=>exact this.imp fun v r=>⟨r.1.keep q x.pen,x.vo q r.2.1,r.2.2⟩
  | pen=>exact this.imp fun v r=>⟨r.1,r.2.keep q x.pen⟩
 nd:=x.nd
 dj:=x.dj
 own:=fun i a h=>by obtain ⟨a1,a2,a3,a4⟩:=x.own i a h;exact ⟨a1,q.xR a3 a2,a3,a4⟩
 env:=.keep x q
 acc:=fun i a h=>(x.acc i a h).imp fun u0 r=>⟨r.1,x.vo q r.2⟩
inductive bP (s s':Shared):Prop
 | mk (h':Heap) (t:Nat) (e:s'={ s with heap:=h',toks:=t }) (k:∀ b o,s.heap.get? b=some o→h'.get? b=some o)
theorem bP.toks (t:Nat):bP s { s with toks:=t }:=⟨s.heap,t,rfl,fun u0 u0 e=>e⟩
theorem bP.refl:bP s s:=⟨s.heap,s.toks,rfl,fun u0 u0 e=>e⟩
theorem bP.push (o:Obj) (t:Nat):bP s { s with heap:=s.heap.push o,toks:=t }:=⟨_,t,rfl,fun u0 u0 e=>Heap.get?_push_of_some _ e⟩
theorem bP.keep (x:bP s s') {b o} (e:s.heap.get? b=some o):s'.heap.get? b=some o:=by
 obtain ⟨h,t,rfl,k⟩:=x;exact k b o e
theorem bP.trans (x:bP s s') (y:bP s' s''):bP s s'':=by
 obtain ⟨h,t,rfl,k⟩:=x
 obtain ⟨h',t',rfl,k'⟩:=y
 exact ⟨h',t',rfl,fun b o e=>k' b o (k b o e)⟩
theorem bP.w0 {W A} (g:bP s s') (x:W0 W A s):W0 W A s':=by
 obtain ⟨h',t,rfl,k⟩:=g
 obtain ⟨l,a,b⟩:=x.outer
 exact ⟨fun b o e=>k b o (x.base b o e),x.gens,x.os,⟨l,a,b.step fun b o e u0=>⟨o.slots,k b o e⟩⟩,x.hand.1,x.hand.2.imp id fun zz2=>by obtain ⟨e,o,vs,a,b,c1,c2,c3⟩:=zz2;exact ⟨e,o,vs,a,k _ _ b,c1,c2,c3⟩⟩
theorem SR.grow (x:SR c ρ k F s) (g:bP s s'):SR c ρ k F s':=
 x.step (.xp fun u0 u0 e=>g.keep e) (g.w0 x.w0) fun a e=>by obtain ⟨x1,y,t,u,n,e',r,r1⟩:=x.pen a e;exact ⟨x1,y,t,u,n,g.keep e',r,r1⟩
end
end Mine
namespace Mine
open PySem PySem.Calls PyProof.Rows PySem.SeqAt
noncomputable abbrev NoE:Value→Shared→Prop:=fun u0 u0=>False
inductive Res (c:Cx) (ρ:List Sl) (F:Fp) (l:Lv) (Q:D→Nat→Prop) (s:Shared) (v:Value) (s':Shared):Prop
 | mk (d:D) (k:Nat) (q:Q d k) (r:VR c.W s'.heap (c.S F l) d v) (x:SR c ρ k F s') (st:av c.pen s.heap s'.heap)
inductive Ress (c:Cx) (ρ:List Sl) (F:Fp) (l:Lv) (Q:List D→Nat→Prop) (s:Shared) (v:List Value) (s':Shared):Prop
 | mk (d:List D) (k:Nat) (q:Q d k) (r:VRs c.W s'.heap (c.S F l) d v) (x:SR c ρ k F s') (st:av c.pen s.heap s'.heap)
inductive Two (c:Cx) (ρ:List Sl) (F:Fp) (l l':Lv) (Q:D→D→Nat→Prop) (s:Shared) (v w:Value) (s':Shared):Prop
 | mk (d e:D) (k:Nat) (q:Q d e k) (r:VR c.W s'.heap (c.S F l) d v) (r':VR c.W s'.heap (c.S F l') e w) (x:SR c ρ k F s') (st:av c.pen s.heap s'.heap)
inductive n7 (c:Cx) (ρ:List Sl) (F:Fp) (Q:Bool→Nat→Prop) (s:Shared) (b:Bool) (s':Shared):Prop
 | mk (k:Nat) (q:Q b k) (x:SR c ρ k F s') (st:av c.pen s.heap s'.heap)
noncomputable def Ev (c:Cx) (ρ:List Sl) (k:Nat) (l:Lv) (e:Expr) (Q:D→Nat→Prop):Prop:=aJ c→∀ F s,SR c ρ k F s→wpAny c.M c.A (eval e c.env) (Res c ρ F l Q s) NoE s
noncomputable def Evs (c:Cx) (ρ:List Sl) (k:Nat) (l:Lv):List Expr→(List D→Nat→Prop)→Prop
 | [],Q=>Q [] k
 | e::es,Q=>Ev c ρ k l e fun d k'=>Evs c ρ k' l es fun ds k''=>Q (d::ds) k''
noncomputable def Tt (c:Cx) (ρ:List Sl) (k:Nat) (e:Expr) (Q:Bool→Nat→Prop):Prop:=aJ c→∀ F s,SR c ρ k F s→wpAny c.M c.A (isTrue e c.env (eval e c.env)) (n7 c ρ F Q s) NoE s
section
variable {c:Cx} {ρ:List Sl} {k:Nat} {F:Fp} {s s' s1:Shared} {l l':Lv} {Q Q':D→Nat→Prop}
theorem noE {M:Model} {A:Around} {α:Type} {m:Sem α} {Q Q':α→Shared→Prop} {E:Value→Shared→Prop} (h:wpAny M A m Q NoE s) (hq:∀ v s',Q v s'→Q' v s'):wpAny M A m Q' E s:=wpAny_mono h hq fun u0 u0 x=>x.elim
theorem Res.after (st:av c.pen s.heap s1.heap) {v} (h:Res c ρ F l Q s1 v s'):Res c ρ F l Q s v s':=by obtain ⟨d,k,q,r,x,st'⟩:=h;exact ⟨d,k,q,r,x,st.trans st'⟩
theorem n7.after {Q:Bool→Nat→Prop} (st:av c.pen s.heap s1.heap) {v} (h:n7 c ρ F Q s1 v s'):n7 c ρ F Q s v s':=by obtain ⟨k,q,x,st'⟩:=h;exact ⟨k,q,x,st.trans st'⟩
theorem Res.prim {d v} (x:SR c ρ k F s1) (st:av c.pen s.heap s1.heap) (q:Q d k) (g:bP s1 s') (r:VR c.W s'.heap (c.S F l) d v):Res c ρ F l Q s v s':=
 ⟨d,k,q,r,x.grow g,st.trans (.xp fun u0 u0 e=>g.keep e)⟩
theorem Res.tok {d v} (x:SR c ρ k F s1) (st:av c.pen s.heap s1.heap) (q:Q d k) (t:Nat) (r:VR c.W s1.heap (c.S F l) d v):Res c ρ F l Q s v { s1 with toks:=t }:=.prim x st q (.toks t) r
theorem Res.node {kd ds vs} {o:Obj} {t:Nat} (x:SR c ρ k F s1) (st:av c.pen s.heap s1.heap) (q:Q (.node kd ds) k) (r:VRs c.W s1.heap (c.S F l) ds vs)
  (hk:∃ as,KR c.W (s1.heap.push o) kd s1.heap.objs.size vs as∧∀ a∈as,a=s1.heap.objs.size):Res c ρ F l Q s (.ref s1.heap.objs.size) { s1 with heap:=s1.heap.push o,toks:=t }:=
 .prim x st q (.push o t) (by obtain ⟨as,h,ha⟩:=hk;exact ⟨_,vs,as,rfl,h,fun b hb=>ha b hb▸x.xm (Heap.get?_none_of_le (Nat.le_refl _)),r.grow fun u0 u0 e=>Heap.get?_push_of_some _ e⟩)
theorem Res.list {ds vs} {t:Nat} (x:SR c ρ k F s1) (st:av c.pen s.heap s1.heap) (q:Q (.lst ds) k) (r:VRs c.W s1.heap (c.S F l) ds vs) :
  Res c ρ F l Q s (.ref s1.heap.objs.size) { s1 with heap:=s1.heap.push { cls:=.type "list",data:=.seq vs.toArray },toks:=t }:=
 .node x st q r ⟨_,⟨rfl,0,Heap.get?_push_size _ rfl⟩,fun u0=>List.mem_singleton.mp⟩
theorem Res.tuple {ds vs} {t:Nat} (x:SR c ρ k F s1) (st:av c.pen s.heap s1.heap) (q:Q (.tup ds) k) (r:VRs c.W s1.heap (c.S F l) ds vs) :
  Res c ρ F l Q s (.ref s1.heap.objs.size) { s1 with heap:=s1.heap.push { cls:=.type "tuple",data:=.seq vs.toArray },toks:=t }:=
 .node x st q r ⟨_,⟨rfl,0,Heap.get?_push_size _ rfl⟩,fun u0 h=>aE h⟩
theorem Ev.mono (h:Ev c ρ k l e Q) (hq:∀ d k,Q d k→Q' d k):Ev c ρ k l e Q':=fun ok F s x=>noE (h ok F s x) fun u0 u0 zz0=>by obtain ⟨d,k,q,r,x,st⟩:=zz0;exact ⟨d,k,hq d k q,r,x,st⟩
noncomputable def D.flat:D→Bool
 | .node .tup xs=>flats xs
 | .node _ _=>false
 | _=>true
where flats:List D→Bool
 | []=>true
 | x::xs=>x.flat && flats xs
theorem VR.yi {W:Wd} {h:Heap} {P P':Addr→Prop}:(∀ d v,d.flat=true→VR W h P d v→VR W h P' d v)∧∀ d v,D.flat.flats d=true→VRs W h P d v→VRs W h P' d v:=
 D.ind (fun u0 u0 r=>r) (fun u0 u0 u0 r=>r) (fun u0 u0 u0 r=>r) (fun u0 u0 u0 r=>r) (fun k xs ih v f r=>by
  cases k with
  | tup=>obtain ⟨a,vs,as,e,kr,_,rs⟩:=r;exact ⟨a,vs,as,e,kr,fun b hb=>aE (kr.1▸hb),ih _ f rs⟩
  | _=>exact ff f) (fun u0 u0 r=>r) fun x xs i1 i2 u0 f y=>by
  obtain ⟨v,r,e,a,b⟩:=y
  have f:=Bool.and_eq_true_iff.mp (show (x.flat && D.flat.flats xs)=true from f)
  exact ⟨v,r,e,i1 _ f.1 a,i2 _ f.2 b⟩
theorem VR.flat {W:Wd} {h:Heap} {P P':Addr→Prop} {d v}:d.flat=true→VR W h P d v→VR W h P' d v:=VR.yi.1 d v
theorem VRs.flat {W:Wd} {h:Heap} {P P':Addr→Prop} {d v}:D.flat.flats d=true→VRs W h P d v→VRs W h P' d v:=VR.yi.2 d v
theorem oM (h:Ev c ρ k .any e fun d k=>d.flat=true∧Q d k):Ev c ρ k l e Q:=fun ok F s x=>noE (h ok F s x) fun u0 u0 zz1=>by obtain ⟨d,k,q,r,x,st⟩:=zz1;exact ⟨d,k,q.2,r.flat q.1,x,st⟩
theorem ux (h:Ev c ρ k .im e Q):Ev c ρ k l e Q:=fun ok F s x=>noE (h ok F s x) fun u0 u0 zz2=>by obtain ⟨d,k,q,r,x,st⟩:=zz2;exact ⟨d,k,q,r.mono fun u0=>Cx.S.im,x,st⟩
theorem uu {kk pos} (q:Q .nul k):Ev c ρ k l (.Constant .none kk pos) Q:=fun u0 u0 u0 x=>wpAny_Constant_none (.tok x .refl q _ rfl)
theorem t7 {b kk pos} (q:Q (.bool b) k):Ev c ρ k l (.Constant (.bool b) kk pos) Q:=fun u0 u0 u0 x=>wpAny_Constant_bool (.tok x .refl q _ rfl)
theorem j5 {i kk pos} (q:Q (.int i) k):Ev c ρ k l (.Constant (.int i) kk pos) Q:=fun u0 u0 u0 x=>wpAny_Constant_int (.tok x .refl q _ ⟨_,rfl⟩)
theorem vk {i:Int} {kk pos pos'} (q:Q (.int (-i)) k):Ev c ρ k l (.UnaryOp .USub (.Constant (.int i) kk pos) pos') Q:=fun u0 u0 u0 x=>wpAny_UnaryOp (wpAny_Constant_int (P.neg_int (.tok x .refl q _ ⟨_,rfl⟩)))
theorem uV {t:Str} {kk pos} (q:Q (.str t.cps.toList) k):Ev c ρ k l (.Constant (.str t) kk pos) Q:=fun u0 u0 u0 x=>wpAny_Constant_str (.tok x .refl q _ ⟨_,rfl⟩)
theorem bj.load {A:Around} {E:Value→Shared→Prop} {env:Env} {x:Str} {v:Value} {Q:Value→Shared→Prop} {M:Model} (h:bj s.heap env x v) (hk:env.scope.kind=.function) (hq:Q v s)
  (hn:(x == ("__classdict__" : Str))=false):wpAny M A (loadName env x) Q E s:=by
 rcases h with ⟨a,m,b,c⟩ | ⟨a,ce,b,c⟩
 ·exact wpAny_loadName_local hk a b c hq
 ·rcases a with a | a
  ·exact wpAny_loadName_cell hk a b c hq
  ·exact wpAny_loadName_free hk a b c hq hn
noncomputable def aO (c:Cx) (x:Str) (i:Nat):Bool:=decide (c.sl.lookup x=some i) && !(x == ("__classdict__" : Str)) && !(x == ("__debug__" : Str))
structure SlO (c:Cx) (x:Str) (i:Nat):Prop where
 a:c.sl.lookup x=some i
 b:(x == ("__classdict__" : Str))=false
 d:(x == ("__debug__" : Str))=false
theorem bB {x:Str} {i:Nat} (h:aO c x i=true):SlO c x i:=
 have h1:=Bool.and_eq_true_iff.mp h
 have h2:=Bool.and_eq_true_iff.mp h1.1
 ⟨of_decide_eq_true h2.1,(Bool.not_eq_true' _).mp h2.2,(Bool.not_eq_true' _).mp h1.2⟩
theorem mf {x:Str} {i:Nat} {pos d} (hs:aO c x i=true) (hz:∀ F s,SR c ρ k F s→∃ v,bj s.heap c.env x v∧VR c.W s.heap (c.S F l) d v) (q:Q d k):Ev c ρ k l (.Name x pos) Q:=fun ok F s x1=>
 by obtain ⟨_,h1,h2⟩:=bB hs;exact by obtain ⟨_,hv,r⟩:=hz F s x1;exact wpAny_Name (hv.load ok.env.kind (.tok x1 .refl q _ r) h1) h2
theorem vP {x:Str} {i:Nat} {pos d} (hs:aO c x i=true) (hz:ρ[i]? = some (.im d)) (q:Q d k):Ev c ρ k l (.Name x pos) Q:=
 mf hs (fun F s x1=>by have:=x1.vals x i (bB hs).1;rw [hz] at this;exact this.imp fun u0 r=>⟨r.1,r.2.mono fun u0=>Cx.S.im⟩) q
theorem wZ {x:Str} {i:Nat} {pos d} (hs:aO c x i=true) (hz:ρ[i]? = some (.vw d)) (hl:l≠.im) (q:Q d k):Ev c ρ k l (.Name x pos) Q:=
 mf hs (fun F s x1=>by
  have:=x1.vals x i (bB hs).1;rw [hz] at this
  refine this.imp fun u0 r=>⟨r.1,?_⟩
  cases l
  ·exact absurd rfl hl
  ·exact r.2
  ·exact r.2.mono fun u0=>Cx.S.any) q
theorem sH {x:Str} {i:Nat} {pos o} (hs:aO c x i=true) (hz:ρ[i]? = some (.own o)) (q:Q o.toD k):Ev c ρ k .any (.Name x pos) Q:=
 mf hs (fun F s x1=>by
  have:=x1.vals x i (bB hs).1;rw [hz] at this
  exact this.imp fun u0 r=>⟨r.1,r.2.1.view (fun u0=>Cx.S.any) fun a ha=>⟨trivial,(x1.own i a ha).2.2⟩⟩) q
theorem ev2 {a b:Expr} {P:D→D→Nat→Prop} (h:Ev c ρ k l a fun x k1=>Ev c ρ k1 l' b fun y k2=>P x y k2) (ok:aJ c) (x:SR c ρ k F s) :
  wpAny c.M c.A (eval a c.env) (fun v s1=>wpAny c.M c.A (eval b c.env) (Two c ρ F l l' P s v) NoE s1) NoE s:=
 noE (h ok F s x) fun u0 u0 zz3=>by obtain ⟨d,_,q,r,x1,st⟩:=zz3;exact noE (q ok F _ x1) fun u0 u0 zz4=>by obtain ⟨e,k2,q2,r2,x2,st2⟩:=zz4;exact ⟨d,e,k2,q2,x1.vr st2 r,r2,x2,st.trans st2⟩
theorem pN {a b:Int} (ha:0≤a) (hb:0≤b):Builtin.bitOr a b=((a.toNat ||| b.toNat:Nat):Int):=by
 unfold Builtin.bitOr Builtin.bitAnd Builtin.bitNot
 simp only [show ¬ (0≤-a - 1) by lia,show ¬ (0≤-b - 1) by lia,decide_false]
 rw [show -(-a - 1) - 1=a by lia,show -(-b - 1) - 1=b by lia];lia
theorem nD {a b:Int} (ha:0≤a) (hb:0≤b):Builtin.bitAnd a b=((a.toNat &&& b.toNat:Nat):Int):=by
 unfold Builtin.bitAnd
 simp only [ha,hb,decide_true]
noncomputable def eU (i:Int):Nat:=if i.natAbs == 0 then 0 else i.natAbs.log2+1
noncomputable def kR (a b:Int):Prop:=eU a≤64∨eU b≤64∨eU a+eU b≤2 ^ 27
theorem rI {a b:Int} (h:kR a b):IntMulOk a b:=by
 have e:∀ i:Int,Builtin.Int.intBits i=eU i:=by
  intro i;unfold Builtin.Int.intBits eU;first | rfl | (split <;> simp_all)
 unfold IntMulOk
 rw [e,e]
 unfold kR at h
 simp only [shortFactorBits,Builtin.Int.intTooBig,bitsLine]
 intro hc
 simp at hc
 lia
inductive IOp:Operator→Int→Int→Int→Prop
 | add {i j}:IOp .Add i j (i+j)
 | sub {i j}:IOp .Sub i j (i - j)
 | mul {i j}:kR i j→IOp .Mult i j (i * j)
 | fdiv {i j}:0 < j→j < 2 ^ 30→IOp .FloorDiv i j (i / j)
 | mod {i j}:0 < j→IOp .Mod i j (i % j)
 | pow {i}:0≤i→i < 2 ^ 60→IOp .Pow i 5 (i ^ 5)
 | shl {j}:0≤j→j < 64→IOp .LShift 1 j (2 ^ j.toNat)
 | shr {i}:0≤i→IOp .RShift i 1 (i / 2)
 | bor {i j}:0≤i→0≤j→IOp .BitOr i j ((i.toNat ||| j.toNat:Nat):Int)
 | band {i j}:0≤i→0≤j→IOp .BitAnd i j ((i.toNat &&& j.toNat:Nat):Int)
theorem rN {W:Wd} {A:Around} {E Q:Value→Shared→Prop} {op i j r t u} (h:IOp op i j r) (q:∀ t s',(∃ k,s'={ s with toks:=k })→Q (.int r t) s'):wpAny (model W.prog W.w) A (binaryOp op (.int i t) (.int j u)) Q E s:=by
 have q:=fun t k=>q t { s with toks:=k } ⟨k,rfl⟩
 cases h with
 | add=>exact P.add_int (q _ _)
 | sub=>exact P.sub_int (q _ _)
 | mul h=>exact P.mul_int (q _ _) (rI h)
 | fdiv h h'=>
  refine floordiv_int (by lia) ?_ (.inl (PyProof.noPylong_small (by lia)))
  rw [Int.fdiv_eq_ediv_of_nonneg _ (by lia)];exact q _ _
 | mod h=>
  refine mod_int' (by lia) ?_
  rw [Int.fmod_eq_emod_of_nonneg _ (by lia)];exact q _ _
 | pow h h'=>exact pow_int_small (by lia) (by lia) (by lia) (q _ _)
 | shl h h'=>
  refine lshift_int_small (by lia) (by lia) (by decide) ?_
  rw [Int.one_mul];exact q _ _
 | shr h=>
  refine rshift_int (by lia) ?_
  rw [show (2:Int) ^ (1:Int).toNat=2 from rfl,Int.fdiv_eq_ediv_of_nonneg _ (by lia)];exact q _ _
 | bor h h'=>refine or_int ?_;rw [pN h h'];exact q _ _
 | band h h'=>refine and_int ?_;rw [nD h h'];exact q _ _
theorem dZ {a b:Expr} {op pos} (h:Ev c ρ k .any a fun x k1=>Ev c ρ k1 .any b fun y k2=>∃ i j r,x=.int i∧y=.int j∧IOp op i j r∧Q (.int r) k2):Ev c ρ k l (.BinOp a op b pos) Q:=fun ok F s x=>
 wpAny_BinOp (noE (ev2 h ok x) fun u0 u0 h1=>noE h1 fun u0 u0 zz5=>by
  obtain ⟨_,_,_,q,r1,r2,x2,st⟩:=zz5
  obtain ⟨i,j,r,rfl,rfl,hr,q⟩:=q
  obtain ⟨t,rfl⟩:=r1
  obtain ⟨u,rfl⟩:=r2
  refine rN hr fun t s' ⟨tk,e⟩=>?_
  subst e
  exact .tok x2 st q tk ⟨t,rfl⟩)
noncomputable def Pr2 (c:Cx) (f:Value→Value→Sem Value) (x y r:D):Prop:=aJ c→∀ (P:Addr→Prop) s v w,(∀ a,s.heap.get? a=none→P a)→VR c.W s.heap P x v→VR c.W s.heap P y w→W0 c.W c.A s→
 ∀ Q E,(∀ v' s',bP s s'→VR c.W s'.heap P r v'→Q v' s')→wpAny c.M c.A (f v w) Q E s
noncomputable def Pr1 (c:Cx) (f:Value→Sem Value) (x r:D):Prop:=aJ c→∀ (P:Addr→Prop) s v,(∀ a,s.heap.get? a=none→P a)→VR c.W s.heap P x v→W0 c.W c.A s→
 ∀ Q E,(∀ v' s',bP s s'→VR c.W s'.heap P r v'→Q v' s')→wpAny c.M c.A (f v) Q E s
noncomputable def Cmp (c:Cx) (op:CmpOp) (x y:D) (b:Bool):Prop:=∀ (P P':Addr→Prop) s v w,VR c.W s.heap P x v→VR c.W s.heap P' y w→c.A.units+20 < cLine→
 ∀ Q E,(∀ t,Q (.bool b) { s with toks:=t })→wpAny c.M c.A (compareOp op v w) Q E s
theorem u7 {a b:Expr} {op pos} (h:Ev c ρ k l a fun x k1=>Ev c ρ k1 l b fun y k2=>∃ r,Pr2 c (binaryOp op) x y r∧Q r k2):Ev c ρ k l (.BinOp a op b pos) Q:=fun ok F s x=>
 wpAny_BinOp (noE (ev2 h ok x) fun u0 u0 h1=>noE h1 fun u0 s2 zz7=>by obtain ⟨_,_,_,⟨r,p,q⟩,r1,r2,x2,st⟩:=zz7;exact p ok _ s2 _ _ (fun u0=>x2.xm) r1 r2 x2.w0 _ _ fun u0 u0 g r=>.prim x2 st q g r)
theorem i5.u20 {n A} (h:i5 n A):A.units+20 < cLine:=by have:=h.2;lia
theorem i5.u0 {n A} (h:i5 n A):A.units < cLine:=by have:=h.2;lia
theorem i5.in1 {n A} (h:i5 n A):A.in1.units < cLine:=by have:=h.2;simp;lia
theorem rZ {a b:Expr} {op pos} (hm:behindInMarks op b=false) (h:Ev c ρ k .any a fun x k1=>Ev c ρ k1 .any b fun y k2=>∃ r,Cmp c op x y r∧Q (.bool r) k2):Ev c ρ k l (.Compare a [op] [b] pos) Q:=fun ok F s x=>
 wpAny_Compare1 (noE (ev2 h ok x) fun u0 u0 h1=>noE h1 fun u0 s2 zz8=>by obtain ⟨_,_,_,⟨_,p,q⟩,r1,r2,x2,st⟩:=zz8;exact p _ _ s2 _ _ r1 r2 ok.room.u20 _ _ fun t=>.tok x2 st q t rfl) hm
theorem nr {a b:Expr} {op pos} {Q:Bool→Nat→Prop} (hm:behindInMarks op b=false) (h:Ev c ρ k .any a fun x k1=>Ev c ρ k1 .any b fun y k2=>∃ r,Cmp c op x y r∧Q r k2):Tt c ρ k (.Compare a [op] [b] pos) Q:=fun ok F s x=>
 wpAny_isTrue_Compare1 (noE (ev2 h ok x) fun u0 u0 h1=>noE h1 fun u0 s2 zz9=>by obtain ⟨_,_,k2,⟨_,p,q⟩,r1,r2,x2,st⟩:=zz9;exact p _ _ s2 _ _ r1 r2 ok.room.u20 _ _ fun t=>wpAny_truthy_bool ⟨k2,q,x2.grow (.toks t),st⟩) hm
noncomputable def g8 (e:Expr):Bool:=!(Nat.beq e.ctorIdx 0 || Nat.beq e.ctorIdx 3 || Nat.beq e.ctorIdx 5 || Nat.beq e.ctorIdx 15)
theorem sM {e:Expr} {Q:Bool→Nat→Prop} (hp:g8 e=true) (h:Ev c ρ k .any e fun d k'=>∃ b,d=.bool b∧Q b k'):Tt c ρ k e Q:=fun ok F s x=>
 wpAny_isTrue_value (noE (h ok F s x) fun u0 u0 zz10=>by
  obtain ⟨d,k',q,r,x1,st⟩:=zz10
  obtain ⟨b,rfl,q⟩:=q
  rw [show _=Value.bool b from r]
  exact wpAny_truthy_bool ⟨k',q,x1,st⟩) (by cases e <;> first | rfl | exact (Bool.false_ne_true hp).elim)
theorem vF {e:Expr} {pos} {Q:Bool→Nat→Prop} (h:Tt c ρ k e fun b=>Q !b):Tt c ρ k (.UnaryOp .Not e pos) Q:=fun ok F s x=>
 wpAny_isTrue_Not (noE (h ok F s x) fun u0 u0 zz11=>by obtain ⟨k',q,x1,st⟩:=zz11;exact ⟨k',q,x1,st⟩)
noncomputable def gW (b:Bool) (T E:Prop):Prop:=(b=true→T)∧(b=false→E)
noncomputable def cW (c:Cx) (ρ:List Sl) (k:Nat):List Expr→(Bool→Nat→Prop)→Prop
 | [],Q=>Q true k
 | e::es,Q=>Tt c ρ k e fun b k'=>gW b (cW c ρ k' es Q) (Q false k')
noncomputable def tx (c:Cx) (ρ:List Sl) (k:Nat):List Expr→(Bool→Nat→Prop)→Prop
 | [],Q=>Q false k
 | e::es,Q=>Tt c ρ k e fun b k'=>gW b (Q true k') (tx c ρ k' es Q)
theorem cW.run {Q:Bool→Nat→Prop}:∀ {es k s},cW c ρ k es Q→aJ c→SR c ρ k F s→wpAny c.M c.A (allTrue .And es c.env) (n7 c ρ F Q s) NoE s:=by
 intro es
 induction es with
 | nil=>
  exact @fun k u0 h u0 x=>wpAny_allTrue_And_nil ⟨k,h,x,.refl⟩
 | cons _ _ ihq=>
  exact @fun u0 s h ok x=>wpAny_allTrue_And_cons (noE (h ok F s x) fun b u0 zz12=>by
   obtain ⟨k',q,x1,st⟩:=zz12
   cases b with
   | true=>exact noE (ihq (q.1 rfl) ok x1) fun u0 u0 r=>r.after st
   | false=>exact ⟨k',q.2 rfl,x1,st⟩)
theorem tx.run {Q:Bool→Nat→Prop}:∀ {es k s},tx c ρ k es Q→aJ c→SR c ρ k F s→wpAny c.M c.A (allTrue .Or es c.env) (n7 c ρ F Q s) NoE s:=by
 intro es
 induction es with
 | nil=>
  exact @fun k u0 h u0 x=>wpAny_allTrue_Or_nil ⟨k,h,x,.refl⟩
 | cons _ _ ihq=>
  exact @fun u0 s h ok x=>wpAny_allTrue_Or_cons (noE (h ok F s x) fun b u0 zz13=>by
   obtain ⟨k',q,x1,st⟩:=zz13
   cases b with
   | false=>exact noE (ihq (q.2 rfl) ok x1) fun u0 u0 r=>r.after st
   | true=>exact ⟨k',q.1 rfl,x1,st⟩)
theorem vM {es pos} {Q:Bool→Nat→Prop} (h:cW c ρ k es Q):Tt c ρ k (.BoolOp .And es pos) Q:=fun ok u0 u0 x=>wpAny_isTrue_BoolOp (h.run ok x)
theorem w6 {es pos} {Q:Bool→Nat→Prop} (h:tx c ρ k es Q):Tt c ρ k (.BoolOp .Or es pos) Q:=fun ok u0 u0 x=>wpAny_isTrue_BoolOp (h.run ok x)
noncomputable def oO (c:Cx) (ρ:List Sl) (k:Nat):List Expr→(Bool→Nat→Prop)→Prop
 | [],_=>False
 | [e],Q=>Ev c ρ k .any e fun d k'=>∃ b,d=.bool b∧Q b k'
 | e::f::es,Q=>Ev c ρ k .any e fun d k'=>∃ b,d=.bool b∧gW b (oO c ρ k' (f::es) Q) (Q false k')
theorem oO.run {pos} {Q:D→Nat→Prop}:∀ {es k s},oO c ρ k es (fun b=>Q (.bool b))→aJ c→SR c ρ k F s→wpAny c.M c.A (eval (.BoolOp .And es pos) c.env) (Res c ρ F l Q s) NoE s:=by
 intro es
 induction es with
 | nil=>exact fun h u0 u0=>h.elim
 | cons a es ih=>
  intro k s h ok x
  cases es with
  | nil=>exact BoolOp_one (noE (h ok F s x) fun u0 u0 y=>by obtain ⟨_,k',⟨b,e,q⟩,r,x1,st⟩:=y;subst e;exact ⟨.bool b,k',q,r,x1,st⟩)
  | cons b es=>
   refine BoolOp_and (noE (h ok F s x) fun u0 u0 y=>?_)
   obtain ⟨_,k',⟨b,e,q⟩,r,x1,st⟩:=y
   subst e
   rw [show _=Value.bool b from r]
   refine wpAny_truthy_bool ?_
   cases b with
   | true=>exact noE (ih (q.1 rfl) ok x1) fun u0 u0 r=>r.after st
   | false=>exact ⟨.bool false,k',q.2 rfl,rfl,x1,st⟩
theorem vL {es pos} (h:oO c ρ k es fun b=>Q (.bool b)):Ev c ρ k l (.BoolOp .And es pos) Q:=fun ok u0 u0 x=>h.run ok x
theorem v9 {t a b pos} (h:Tt c ρ k t fun r k'=>gW r (Ev c ρ k' l a Q) (Ev c ρ k' l b Q)):Ev c ρ k l (.IfExp t a b pos) Q:=fun ok F s x=>
 wpAny_IfExp (noE (h ok F s x) fun r s1 zz16=>by
  obtain ⟨_,q,x1,st⟩:=zz16
  cases r with
  | true=>exact noE (q.1 rfl ok F s1 x1) fun u0 u0 h=>h.after st
  | false=>exact noE (q.2 rfl ok F s1 x1) fun u0 u0 h=>h.after st)
theorem Cmp.isNone:Cmp c .IsNot .nul .nul false:=fun P u0 s v w r r' u0 Q E q=>by
 obtain rfl:w=.none:=r'
 obtain rfl:v=.none:=r
 exact isNot_none (q s.toks)
noncomputable def ah (e:Expr):Bool:=!(Nat.beq e.ctorIdx 22)
theorem ag {e:Expr} {rest:List Expr} {env:Env} (h:ah e=true):starEach (e::rest) env=(false,eval e env)::starEach rest env:=by
 cases e <;> first | rfl | cases h
theorem Evs.run {Q:List D→Nat→Prop} {pos:Pos}:∀ {es k s},Evs c ρ k l es Q→es.all ah=true→aJ c→SR c ρ k F s→wpAny c.M c.A (spliced (backTo pos (starEach es c.env))) (Ress c ρ F l Q s) NoE s:=by
 intro es
 induction es generalizing Q pos with
 | nil=>
  exact @fun k u0 h u0 u0 x=>wpAny_items_nil ⟨[],k,h,rfl,x,.refl⟩
 | cons _ _ ihq=>
  intro _ s h hs ok x
  rw [List.all_cons,Bool.and_eq_true] at hs
  exact wpAny_items_cons (noE (h ok F s x) fun v u0 zz17=>by obtain ⟨d,_,q,r,x1,st⟩:=zz17;exact noE (ihq q hs.2 ok x1) fun vs u0 zz18=>by obtain ⟨ds,k2,q2,r2,x2,st2⟩:=zz18;exact ⟨d::ds,k2,q2,⟨v,vs,rfl,x1.vr st2 r,r2⟩,x2,st.trans st2⟩) (ag hs.1)
theorem jf {es pos} (hs:es.all ah=true) (h:Evs c ρ k l es fun ds k'=>ds.length≤2 ^ 24∧Q (.lst ds) k'):Ev c ρ k l (.List es pos) Q:=fun ok u0 u0 x=>
 wpAny_List (noE (h.run hs ok x) fun u0 u0 zz19=>by obtain ⟨_,_,q,r,x1,st⟩:=zz19;exact ⟨r.length▸q.1,.list x1 st q.2 r⟩)
theorem f7 {es kk pos} (hs:es.all ah=true) (h:Evs c ρ k l es fun ds k'=>ds.length≤2 ^ 24∧Q (.tup ds) k'):Ev c ρ k l (.Tuple es kk pos) Q:=fun ok u0 u0 x=>
 wpAny_Tuple (noE (h.run hs ok x) fun u0 u0 zz20=>by obtain ⟨_,_,q,r,x1,st⟩:=zz20;exact ⟨r.length▸q.1,.tuple x1 st q.2 r⟩)
end
end Mine
namespace Mine
open PySem PySem.Calls PyProof.Rows
noncomputable def Key.kind:Key→Nat
 | .int _=>0
 | .str _=>1
 | .tup _=>2
noncomputable def aD (ks:List Key) (k:Key):Option Nat:=ks.findIdx? (· == k)
noncomputable def bk (ks:List Key) (k:Key):Bool:=ks.all fun x=>x.kind == k.kind
theorem eS (a b:Txt):(a == b)=(strV a == strV b):=by
 rw [Bool.eq_iff_iff];simp only [beq_iff_eq]
 exact ⟨fun h=>by rw [h],gw⟩
theorem l5 {c:Value} {vs vs':List Value} {k k':Nat} (h:some (⟨c,none,.seq vs.toArray k,#[]⟩:Obj)=some ⟨c,none,.seq vs'.toArray k',#[]⟩):vs=vs':=by
 injection h with h;injection h with _ _ h _;injection h with h _;simpa using congrArg Array.toList h
section
variable {W:Wd} {A:Around} {s:Shared} {d:Addr} {es:List DictEntry} {m:Nat} {ks:List Key} {vs:List Value} {k:Key} {key:Value} {E:Value→Shared→Prop}
theorem mr {prog w}:∀ {is vs},mW is vs→ItemsAre (intKind prog w) is vs:=by
 intro is
 induction is generalizing prog w with
 | nil=>
  exact @fun u0 h=>by rw [h];exact .nil
 | cons i is ihq=>
  exact @fun u0 yy0x0=>by obtain ⟨t,r,e,h⟩:=yy0x0;rw [e];exact .cons (by simp [intKind,Value.isInt]) (ihq h)
theorem aU.xO {prog w h is a vs k} (e:h.get? a=some ⟨.type "tuple",none,.seq (vs:List Value).toArray k,#[]⟩) (r:mW is vs):IsTupleKey (intKind prog w) h is a:=
 ⟨_,_,_,e,rfl,rfl,by simpa using mr r⟩
theorem j8 {h:Heap} (hs:s.heap=h) {k:Key} {v:Value} (r:aU h k v) (hu:A.units < cLine) {Q:Int→Shared→Prop} {E} (hq:∀ t,Q (jQ W.w k) { s with toks:=t }):wpAny (model W.prog W.w) A (pyHash v) Q E s:=by
 subst hs
 cases k with
 | int i=>obtain ⟨t,rfl⟩:=r;exact wpAny_pyHash_int (hq _)
 | str x=>obtain ⟨t,rfl⟩:=r;exact wpAny_pyHash_str (hq _)
 | tup is=>
  obtain ⟨a,vs,k,rfl,e,i⟩:=r
  exact wpAny_pyHash_tuple (prog:=W.prog) (w:=W.w) (knd:=intKind W.prog W.w) hu (aU.xO e i) (hq _)
theorem aM.length {w h es ks vs} (r:aM w h es ks vs):es.length=ks.length∧vs.length=ks.length:=by
 induction r with
 | nil=>exact ⟨rfl,rfl⟩
 | cons _ _ _ ih=>simp [ih.1,ih.2]
theorem aM.get {w h es ks vs} (r:aM w h es ks vs):∀ {i:Nat} {k:Key},ks[i]? = some k→∃ e:DictEntry,es[i]? = some e∧aU h k e.key∧e.hash=jQ w k∧vs[i]? = some e.val:=by
 induction r with
 | nil=>intro i k h;simp at h
 | cons a b c ih=>
  intro i k h
  cases i with
  | zero=>simp at h;subst h;exact ⟨_,rfl,a,b,rfl⟩
  | succ i=>simpa using ih (by simpa using h)
theorem bW {ks:List Key} {k i} (h:aD ks k=some i):ks[i]? = some k∧∀ j,j < i→ks[j]?≠some k:=by
 unfold aD at h
 obtain ⟨h1,h2,h3⟩:=List.findIdx?_eq_some_iff_getElem.mp h
 refine ⟨by rw [List.getElem?_eq_getElem h1];simpa using h2,fun j hj e=>?_⟩
 have hjl:j < ks.length:=by lia
 have:=h3 j hj
 rw [List.getElem?_eq_getElem hjl] at e
 simp at e
 simp [e] at this
theorem jY {ks:List Key} {k} (h:aD ks k=none):k∉ks:=by
 unfold aD at h
 rw [List.findIdx?_eq_none_iff] at h
 intro hm
 have:=h k hm
 simp at this
theorem hY {ks:List Key} (hn:ks.Nodup) {k i} (h:ks[i]? = some k):aD ks k=some i:=by
 cases hd:aD ks k with
 | none=>exact absurd (List.mem_of_getElem? h) (jY hd)
 | some j=>
  have:=(bW hd).1
  have hi:=(List.getElem?_inj (List.getElem?_eq_some_iff.mp h).1 hn).mp (h.trans this.symm)
  rw [hi]
theorem oJ {ks:List Key} {k} (h:bk ks k=true) {x} (hx:x∈ks):x.kind=k.kind:=by
 unfold bk at h
 simpa using List.all_eq_true.mp h x hx
theorem aM.findIdx {w h es ks vs} {P:DictEntry→Bool} {k:Key} (r:aM w h es ks vs) (hP:∀ x e,x∈ks→aU h x e.key→P e=(x == k)):es.findIdx? P=aD ks k:=by
 unfold aD
 induction r with
 | nil=>rfl
 | cons a b c ih=>rw [List.findIdx?_cons,List.findIdx?_cons,hP _ _ List.mem_cons_self a,ih fun x e hx=>hP x e (List.mem_cons_of_mem _ hx)]
theorem aM.each {w h es ks vs} {P:DictEntry→Prop} (r:aM w h es ks vs) (hP:∀ x e,x∈ks→aU h x e.key→e.hash=jQ w x→P e):∀ e∈es,P e:=by
 induction r with
 | nil=>exact u4
 | cons a b c ih=>exact List.forall_mem_cons.mpr ⟨hP _ _ List.mem_cons_self a b,ih fun x e hx=>hP x e (List.mem_cons_of_mem _ hx)⟩
theorem Key.k0 {x:Key} (h:x.kind=0):∃ z,x=.int z:=by
 cases x with
 | int z=>exact ⟨z,rfl⟩
 | _=>injection h
theorem Key.k1 {x:Key} (h:x.kind=1):∃ z,x=.str z:=by
 cases x with
 | str z=>exact ⟨z,rfl⟩
 | int=>injection h
 | tup=>injection h with h;injection h
theorem Key.k2 {x:Key} (h:x.kind=2):∃ z,x=.tup z:=by
 cases x with
 | tup z=>exact ⟨z,rfl⟩
 | int=>injection h
 | str=>injection h with h;injection h
theorem wI {a b:Int} (h:Key.int a=.int b):a=b:=by injection h
theorem vX {a b:Txt} (h:Key.str a=.str b):a=b:=by injection h
theorem dint {a b:Int} (h:D.int a=.int b):a=b:=by injection h
theorem wC {a b:List Int} (h:Key.tup a=.tup b):a=b:=by injection h
theorem aM.ya {prog w h es ks vs} (r:aM w h es ks vs) (hall:∀ x∈ks,x.kind=2):∃ xs:List (List Int × Addr × Value),es=xs.map (entryOfKey (tupleKind (intKind prog w)))∧ks=xs.map (fun x=>Key.tup x.1)∧
  ∀ x∈xs,IsTupleKey (intKind prog w) h x.1 x.2.1:=by
 induction r with
 | nil=>exact ⟨[],rfl,rfl,u4⟩
 | @cons en k es ks vs a b c ih=>
  obtain ⟨xs,rfl,rfl,h3⟩:=ih fun x hx=>hall x (List.mem_cons_of_mem _ hx)
  obtain ⟨js,rfl⟩:=Key.k2 (hall k List.mem_cons_self)
  obtain ⟨b',ws,k',hb',e',i'⟩:=a
  refine ⟨(js,b',en.val)::xs,?_,rfl,List.forall_mem_cons.mpr ⟨aU.xO e' i',h3⟩⟩
  obtain ⟨hsh,ky,vl⟩:=en
  obtain rfl:ky=.ref b':=hb'
  obtain rfl:hsh=_:=b
  rfl
theorem gH {d:Addr} {es:List DictEntry} {m:Nat} {ks:List Key} {vs:List Value} {k:Key} {key:Value} {Q:Option Nat→Shared→Prop} {E} (hu:A.units < cLine)
  (ho:s.heap.get? d=some ⟨.type "dict",none,.dict es.toArray m,#[]⟩) (r:aM W.w s.heap es ks vs) (hn:ks.Nodup) (hk:aU s.heap k key) (ok:bk ks k=true) (h:Q (aD ks k) s) :
  wpAny (model W.prog W.w) A (dictFind d key (jQ W.w k)) Q E s:=by
 have hm:=fun x=>oJ ok (x:=x)
 cases k with
 | int i=>
  obtain ⟨t,rfl⟩:=hk
  refine wpAny_dictFind_of (knd:=intKind W.prog W.w) (k:=i) (beq_self_eq_true i) ho rfl (fun e he=>r.each (P:=fun e=>∃ k,(intKind W.prog W.w).is k e.key=true∧e.hash=(intKind W.prog W.w).hash k) (fun x e hx a b=>?_) e (List.mem_toArray.mp he)) ?_
  ·obtain ⟨z,rfl⟩:=Key.k0 (hm x hx)
   obtain ⟨u,hu⟩:=a
   exact ⟨z,hu▸beq_self_eq_true z,b⟩
  ·rw [List.findIdx?_toArray,r.findIdx fun x e hx a=>?_]
   ·exact h
   ·obtain ⟨z,rfl⟩:=Key.k0 (hm x hx)
    obtain ⟨u,hu⟩:=a
    rw [hu]
    exact Bool.eq_iff_iff.mpr (beq_iff_eq.trans (Iff.trans ⟨congrArg _,wI⟩ beq_iff_eq.symm))
 | str y=>
  obtain ⟨t,rfl⟩:=hk
  refine wpAny_dictFind_of (knd:=strKind W.prog W.w) (k:=strV y) (beq_self_eq_true (strV y)) ho rfl (fun e he=>r.each (P:=fun e=>∃ k,(strKind W.prog W.w).is k e.key=true∧e.hash=(strKind W.prog W.w).hash k) (fun x e hx a b=>?_) e (List.mem_toArray.mp he)) ?_
  ·obtain ⟨z,rfl⟩:=Key.k1 (hm x hx)
   obtain ⟨u,hu⟩:=a
   exact ⟨strV z,hu▸beq_self_eq_true (strV z),b⟩
  ·rw [List.findIdx?_toArray,r.findIdx fun x e hx a=>?_]
   ·exact h
   ·obtain ⟨z,rfl⟩:=Key.k1 (hm x hx)
    obtain ⟨u,hu⟩:=a
    rw [hu]
    exact Bool.eq_iff_iff.mpr (beq_iff_eq.trans (Iff.trans ⟨fun h=>congrArg _ (gw h),fun h=>congrArg _ (vX h)⟩ beq_iff_eq.symm))
 | tup is=>
  obtain ⟨a,kvs,kk,rfl,e,i⟩:=hk
  obtain ⟨xs,rfl,rfl,h3⟩:=r.ya (prog:=W.prog) hm
  refine wpAny_dictFind_heap (knd:=tupleKind (intKind W.prog W.w)) (k:=is) (xs:=xs) hu (aU.xO e i) ho rfl rfl h3 (List.pairwise_map.mpr ((List.pairwise_map.mp hn).imp fun hne e=>hne (congrArg _ e))) (fun hno=>?_) (fun j q hj=>?_)
  ·cases hd:aD (xs.map fun x=>Key.tup x.1) (.tup is) with
   | none=>exact hd▸h
   | some j=>
    have h1:=(bW hd).1
    rw [List.getElem?_map] at h1
    obtain ⟨⟨_,b'⟩,hj,h1⟩:=Option.map_eq_some_iff.mp h1
    obtain rfl:=wC h1
    exact absurd hj (hno j b')
  ·exact hY hn (i:=j) (by rw [List.getElem?_map,hj];rfl)▸h
noncomputable def eh (ks:List Key) (vs:List Value) (k:Key):Option Value:=(aD ks k).bind fun i=>vs[i]?
noncomputable def mo (ks:List Key) (vs:List Value) (k:Key) (v:Value):List Value:=match aD ks k with
 | some i=>vs.set i v
 | none=>vs++[v]
noncomputable def fK (ks:List Key) (k:Key):List Key:=match aD ks k with
 | some _=>ks
 | none=>ks++[k]
theorem fk {Q:Option Value→Shared→Prop} (hu:A.units < cLine) (ho:s.heap.get? d=some (bH es m)) (r:aM W.w s.heap es ks vs) (hn:ks.Nodup) (hk:aU s.heap k key) (ok:bk ks k=true)
  (h:∀ t,Q (eh ks vs k) { s with toks:=t }):wpAny (model W.prog W.w) A (dictGet d key) Q E s:=by
 unfold dictGet
 refine wpAny_holding (wpAny_bind (j8 rfl hk hu fun t=>wpAny_bind (gH (s:={ s with toks:=t }) hu ho r hn hk ok ?_)))
 have h:=h t
 unfold eh at h
 cases hd:aD ks k with
 | none=>rw [hd] at h;exact wpAny_pure h
 | some i=>
  rw [hd] at h
  obtain ⟨e,h1,_,_,h4⟩:=r.get (bW hd).1
  refine wpAny_bind (wpAny_dictEntries (s:={ s with toks:=t }) ho rfl (wpAny_pure ?_))
  simp only [Option.bind_some,h4] at h
  simp only [List.getElem?_toArray,h1,Option.map_some]
  exact h
theorem aA (ho:s.heap.get? d=some (bH es m)):s.TypeIs (.ref d) "dict":=⟨_,ho,rfl⟩
theorem iC {Q:Value→Shared→Prop} {v:Value} (hu:A.in1.units < cLine) (ho:s.heap.get? d=some (bH es m)) (r:aM W.w s.heap es ks vs) (hn:ks.Nodup) (hk:aU s.heap k key) (ok:bk ks k=true)
  (hv:eh ks vs k=some v) (h:∀ t,Q v { s with toks:=t }):wpAny (model W.prog W.w) A (getItem (.ref d) key) Q E s:=by
 unfold getItem
 refine wpAny_holding (wpAny_bind (wpAny_sequenceKey (aA ho) (by decide) ?_))
 refine wpAny_bind (wpAny_callSpecial?_slot (name:=Str.ofString "__getitem__") (aA ho) slot_dict_getitem
  (wpAny_call_entry slot_dict_getitem (aA ho) entry_dict_getitem ?_ (args_dict_getitem _ _)))
 show wpAny _ _ (dictGet d key >>= _) _ _ s
 refine wpAny_bind (fk hu ho r hn hk ok fun t=>?_)
 rw [hv]
 exact wpAny_pure ⟨v,rfl,wpAny_pure (h t)⟩
theorem gT {Q:Bool→Shared→Prop} (hu:A.in1.units < cLine) (hd:(d == sysModules)=false) (ho:s.heap.get? d=some (bH es m)) (r:aM W.w s.heap es ks vs) (hn:ks.Nodup) (hk:aU s.heap k key) (ok:bk ks k=true)
  (h:∀ t,Q (eh ks vs k).isSome { s with toks:=t }):wpAny (model W.prog W.w) A (contains (.ref d) key) Q E s:=by
 unfold contains
 refine wpAny_holding (wpAny_bind (wpAny_specialOf (aA ho) slot_dict_contains.lookup ?_))
 show wpAny _ _ (if (some (Value.builtin "dict.__contains__") == some Value.none)=true then _ else _) _ E s
 rw [if_neg (by rw [beq_builtin_none];exact Bool.false_ne_true)]
 refine wpAny_bind (wpAny_callSpecialUnlessNone?_slot (name:=Str.ofString "__contains__") (aA ho) slot_dict_contains
  (wpAny_call_entry slot_dict_contains (aA ho) entry_dict_contains ?_ (args_dict_contains _ _)))
 show wpAny _ _ (dictGet d key >>= _) _ _ s
 refine wpAny_bind (fk hu ho r hn hk ok fun t=>?_)
 have h:=h t
 cases hf:eh ks vs k with
 | some v=>
  rw [hf] at h
  show wpAny _ _ (ret (.bool true)) _ _ _
  exact wpAny_pure ⟨_,rfl,wpAny_truthy_bool h⟩
 | none=>
  rw [hf] at h
  show wpAny _ _ (Builtin.Dict.pendingKey? d key >>= _) _ _ _
  exact wpAny_bind (wpAny_pendingKey_other hd (wpAny_pure ⟨_,rfl,wpAny_truthy_bool h⟩))
theorem u5 {Q:Value→Shared→Prop} (hu:A.in1.units < cLine) (hd:(d == sysModules)=false) (ho:s.heap.get? d=some (bH es m)) (r:aM W.w s.heap es ks vs) (hn:ks.Nodup) (hk:aU s.heap k key) (ok:bk ks k=true)
  (h:∀ t,Q (.bool (eh ks vs k).isSome) { s with toks:=t }):wpAny (model W.prog W.w) A (compareOp .In key (.ref d)) Q E s:=by
 show wpAny _ _ (do return .bool (← contains (.ref d) key)) Q E s
 exact wpAny_bind (gT hu hd ho r hn hk ok fun t=>wpAny_pure (h t))
theorem p9 {Q:Value→Shared→Prop} (hu:A.in1.units < cLine) (hd:(d == sysModules)=false) (ho:s.heap.get? d=some (bH es m)) (r:aM W.w s.heap es ks vs) (hn:ks.Nodup) (hk:aU s.heap k key) (ok:bk ks k=true)
  (h:∀ t,Q (.bool (!(eh ks vs k).isSome)) { s with toks:=t }):wpAny (model W.prog W.w) A (compareOp .NotIn key (.ref d)) Q E s:=by
 show wpAny _ _ (do return .bool (!(← contains (.ref d) key))) Q E s
 exact wpAny_bind (gT hu hd ho r hn hk ok fun t=>wpAny_pure (h t))
theorem ly {dflt:Value} {Q:Value→Shared→Prop} (hu:A.in1.units < cLine) (hd:(d == sysModules)=false) (ho:s.heap.get? d=some (bH es m)) (r:aM W.w s.heap es ks vs) (hn:ks.Nodup) (hk:aU s.heap k key) (ok:bk ks k=true)
  (h:∀ t,Q ((eh ks vs k).getD dflt) { s with toks:=t }):wpAny (model W.prog W.w) A (call (.builtin "dict.get") [.ref d,key,dflt]) Q E s:=by
 refine wpAny_call_entry PySem.F.slot_dict_get (aA ho) PySem.F.entry_dict_get ?_ (PySem.F.args_dict_get_3 _ _ _)
 show wpAny _ _ (dictGet d key >>= _) _ _ s
 refine wpAny_bind (fk hu ho r hn hk ok fun t=>?_)
 have h:=h t
 cases hf:eh ks vs k with
 | some v=>rw [hf] at h;exact wpAny_pure ⟨v,rfl,h⟩
 | none=>
  rw [hf] at h
  show wpAny _ _ (Builtin.Dict.missed d key >>= _) _ _ _
  exact wpAny_bind (wpAny_missed_other hd (wpAny_pure ⟨dflt,rfl,h⟩))
theorem aM.modify {w h es ks vs} (r:aM w h es ks vs) (v:Value):∀ (i:Nat),aM w h (es.modify i fun e=>{ e with val:=v }) ks (vs.set i v):=by
 induction r with
 | nil=>intro i;simp only [List.modify_nil,List.set_nil];exact .nil
 | @cons e k es ks vs a b c ih=>
  intro i
  cases i with
  | zero=>rw [List.modify_zero_cons];exact .cons (e:={ e with val:=v }) a b c
  | succ i=>rw [List.modify_succ_cons];exact .cons a b (ih i)
theorem aM.snoc {w h es ks vs} (r:aM w h es ks vs) {e:DictEntry} {k:Key} (a:aU h k e.key) (b:e.hash=jQ w k):aM w h (es++[e]) (ks++[k]) (vs++[e.val]):=by
 induction r with
 | nil=>exact .cons a b .nil
 | cons a' b' c ih=>exact .cons a' b' ih
theorem i7 (hn:ks.Nodup):(fK ks k).Nodup:=by
 unfold fK
 cases hd:aD ks k with
 | some i=>exact hn
 | none=>
  rw [List.nodup_append]
  exact ⟨hn,by simp,fun a ha b hb e=>by simp at hb;subst hb;subst e;exact jY hd ha⟩
theorem gU {h h':Heap} (hs:Heap.SameBut d h h') (ho:∃ o,h.get? d=some o∧o.cls≠.type "tuple"):be (fun b=>b≠d) h h':=fun b o e c=>by
 refine (hs.2 b ?_).trans e
 rcases c with c | c
 ·exact c
 ·rintro rfl
  obtain ⟨o',e',hc⟩:=ho
  obtain rfl:=geq e e';exact hc c
theorem fj {v:Value} {Q:Unit→Shared→Prop} (hu:A.units < cLine) (ho:s.heap.get? d=some (bH es m)) (r:aM W.w s.heap es ks vs) (hn:ks.Nodup) (hk:aU s.heap k key) (ok:bk ks k=true) (hz:ks.length≤sizeLine)
  (h:∀ h' t es' m',h'.get? d=some (bH es' m')→aM W.w h' es' (fK ks k) (mo ks vs k v)→Heap.SameBut d s.heap h'→Q () { s with heap:=h',toks:=t }) :
  wpAny (model W.prog W.w) A (dictSet d key v) Q E s:=by
 unfold dictSet
 refine wpAny_holding (wpAny_bind (j8 rfl hk hu fun t=>?_))
 unfold dictSetHashed
 refine wpAny_holding (wpAny_bind (gH (s:={ s with toks:=t }) hu ho r hn hk ok ?_))
 have pr:∀ f,be (fun b=>b≠d) s.heap (s.heap.update d f):=fun f=>gU (Heap.SameBut.update ..) ⟨_,ho,by simp⟩
 cases hd:aD ks k with
 | none=>
  refine wpAny_bind (wpAny_rule (wpAny_updateDictKeys (s:={ s with toks:=t }) ho rfl ?_ (by rw [List.size_toArray,r.length.1];exact hz)))
  refine h _ t (es++[⟨jQ W.w k,key,v⟩]) (m+1) ?_ ?_ (Heap.SameBut.update ..)
  ·rw [Heap.get?_update_self _ ho rfl]
   exact congrArg (fun z=>some (⟨.type "dict",none,.dict z (m+1),#[]⟩:Obj)) (List.push_toArray ..)
  ·unfold fK mo
   rw [hd]
   exact (r.xl (pr _)).snoc (hk.xl (pr _)) rfl
 | some i=>
  refine wpAny_bind (wpAny_rule (wpAny_bind (wpAny_updateDict (s:={ s with toks:=t }) ho rfl (wpAny_point ?_))))
  refine h _ t (es.modify i fun e=>{ e with val:=v }) m ?_ ?_ (Heap.SameBut.update ..)
  ·rw [Heap.get?_update_self _ ho rfl]
   exact congrArg (fun z=>some (⟨.type "dict",none,.dict z m,#[]⟩:Obj)) (List.modify_toArray ..)
  ·unfold fK mo
   rw [hd]
   exact (r.xl (pr _)).modify v i
theorem mO {v:Value} {Q:Unit→Shared→Prop} (hu:A.in1.units < cLine) (ho:s.heap.get? d=some (bH es m)) (r:aM W.w s.heap es ks vs) (hn:ks.Nodup) (hk:aU s.heap k key) (ok:bk ks k=true) (hz:ks.length≤sizeLine)
  (h:∀ h' t es' m',h'.get? d=some (bH es' m')→aM W.w h' es' (fK ks k) (mo ks vs k v)→Heap.SameBut d s.heap h'→Q () { s with heap:=h',toks:=t }) :
  wpAny (model W.prog W.w) A (setItem (.ref d) key v) Q E s:=by
 unfold setItem
 refine wpAny_holding (wpAny_bind (wpAny_sequenceKey (aA ho) (by decide) ?_))
 refine wpAny_bind (wpAny_callSpecial?_slot (name:=Str.ofString "__setitem__") (aA ho) slot_dict_setitem
  (wpAny_call_entry slot_dict_setitem (aA ho) entry_dict_setitem ?_ (args_dict_setitem _ _ _)))
 show wpAny _ _ (Builtin.Dict.notOrdered "__setitem__" ⟨[.ref d,key,v],[]⟩ >>= _) _ _ s
 refine wpAny_bind (wpAny_notOrdered_dict (aA ho) ?_)
 show wpAny _ _ (dictSet d key v >>= _) _ _ s
 exact wpAny_bind (fj hu ho r hn hk ok hz fun h' t es' m' a b c=>wpAny_pure ⟨.none,rfl,wpAny_pure (h h' t es' m' a b c)⟩)
end
end Mine
namespace Mine
open PySem PySem.Calls PyProof.Rows PySem.SeqAt PySem.W
inductive EqL (R:D→D→Bool→Prop):List D→List D→Bool→Prop
 | nil:EqL R [] [] true
 | cons {x y a xs ys b}:R x y a→EqL R xs ys b→EqL R (x::xs) (y::ys) (a && b)
inductive EqS (R:D→D→Bool→Prop):D→D→Bool→Prop
 | nul:EqS R .nul .nul true
 | bool {a b}:EqS R (.bool a) (.bool b) (a == b)
 | int {a b}:EqS R (.int a) (.int b) (a == b)
 | str {a b}:EqS R (.str a) (.str b) (a == b)
 | tup {xs ys b}:EqL R xs ys b→EqS R (.tup xs) (.tup ys) b
 | lst {xs ys b}:EqL R xs ys b→EqS R (.lst xs) (.lst ys) b
 | len {xs ys}:xs.length≠ys.length→EqS R (.lst xs) (.lst ys) false
noncomputable def EqN:Nat→D→D→Bool→Prop
 | 0=>fun u0 u0 u0=>False
 | n+1=>EqS (EqN n)
section
variable {W:Wd} {P P':Addr→Prop} {A:Around} {s:Shared} {h:Heap} {v w:Value} {x y:D} {b:Bool} {n:Nat}
theorem EqL.same {R:D→D→Bool→Prop} (hR:∀ {x y a v},R x y a→VR W h P x v→VR W h P' y v→a=true) {xs ys b} (q:EqL R xs ys b):∀ {vs},VRs W h P xs vs→VRs W h P' ys vs→b=true:=by
 induction q with
 | nil=>exact fun u0 u0=>rfl
 | cons h1 _ ih=>
  rintro _ ⟨v,r,rfl,a1,a2⟩ ⟨_,_,e,b1,b2⟩
  injection e with z0a z0b;try subst z0a;try subst z0b
  rw [hR h1 a1 b1,ih a2 b2];rfl
theorem EqN.same {n x y v b} (q:EqN n x y b) (r1:VR W h P x v) (r2:VR W h P' y v):b=true:=by
 induction n generalizing x y v b with
 | zero=>exact q.elim
 | succ n ih=>
  have q0:EqS (EqN n) x y b:=q;clear q
  cases q0 with
  | nul=>rfl
  | bool=>obtain rfl:=r1;cases r2;exact beq_self_eq_true _
  | int=>obtain ⟨_,rfl⟩:=r1;obtain ⟨_,e⟩:=r2;injection e with z0a z0b;try subst z0a;try subst z0b;exact beq_self_eq_true _
  | str=>obtain ⟨_,rfl⟩:=r1;obtain ⟨_,e⟩:=r2;injection e with e;rw [gw e];exact beq_self_eq_true _
  | tup q=>
   obtain ⟨a,vs,_,rfl,⟨_,_,e1⟩,_,q1⟩:=r1
   obtain ⟨_,vs',_,e,⟨_,_,e2⟩,_,q2⟩:=r2
   injection e with z0a;try subst z0a
   obtain rfl:=l5 (e1.symm.trans e2)
   exact q.same ih q1 q2
  | lst q=>
   obtain ⟨a,vs,_,rfl,⟨_,_,e1⟩,_,q1⟩:=r1
   obtain ⟨_,vs',_,e,⟨_,_,e2⟩,_,q2⟩:=r2
   injection e with z0a;try subst z0a
   obtain rfl:=l5 (e1.symm.trans e2)
   exact q.same ih q1 q2
  | len q=>
   obtain ⟨a,vs,_,rfl,⟨_,_,e1⟩,_,q1⟩:=r1
   obtain ⟨_,vs',_,e,⟨_,_,e2⟩,_,q2⟩:=r2
   injection e with z0a;try subst z0a
   obtain rfl:=l5 (e1.symm.trans e2)
   exact absurd (q1.length.trans q2.length.symm) q
theorem EqL.items {R:D→D→Bool→Prop} (hR:∀ {x y a v w},R x y a→VR W s.heap P x v→VR W s.heap P' y w→EqAt A s v w a) {xs ys b} (q:EqL R xs ys b):∀ {vs ws},VRs W s.heap P xs vs→VRs W s.heap P' ys ws→
  ∃ e:Nat→Bool,b=(List.range vs.length).all e∧vs.length=ws.length∧∀ j (h1:j < vs.length) (h2:j < ws.length),EqAt A s vs[j] ws[j] (e j):=by
 induction q with
 | nil=>rintro _ _ rfl rfl;exact ⟨fun u0=>true,rfl,rfl,fun u0 h=>nomatch h⟩
 | @cons x y a xs ys b h1 _ ih=>
  rintro _ _ ⟨v,vs,rfl,a1,a2⟩ ⟨w,ws,rfl,b1,b2⟩
  obtain ⟨e,rfl,hl,he⟩:=ih a2 b2
  refine ⟨fun i=>Nat.casesOn i a e,?_,by rw [List.length_cons,List.length_cons,hl],fun j=>?_⟩
  ·rw [List.length_cons,List.range_succ_eq_map,List.all_cons,List.all_map];rfl
  ·cases j with
   | zero=>exact fun u0 u0=>hR h1 a1 b1
   | succ j=>exact fun p q=>he j (Nat.lt_of_succ_lt_succ p) (Nat.lt_of_succ_lt_succ q)
theorem iV {R:D→D→Bool→Prop} {xs ys vs ws b} (hR:∀ {x y a v w},R x y a→VR W s.heap P x v→VR W s.heap P' y w→EqAt A.in1 s v w a) (q:EqL R xs ys b) (r1:VRs W s.heap P xs vs) (r2:VRs W s.heap P' ys ws) :
  ∃ e:Nat→Bool,b=(List.range vs.length).all e∧vs.length=ws.length∧∀ j (h1:j < vs.toArray.size) (h2:j < ws.toArray.size),EqAt A.in1 s vs.toArray[j] ws.toArray[j] (e j):=by
 obtain ⟨e,h1,h2,h3⟩:=q.items hR r1 r2
 exact ⟨e,h1,h2,fun j p q=>by rw [List.getElem_toArray,List.getElem_toArray];exact h3 j p q⟩
theorem EqN.at {n x y v w b} {A:Around} (q:EqN n x y b) (r1:VR W s.heap P x v) (r2:VR W s.heap P' y w) (hu:A.units+n < cLine):RcAt A s v w b∧EqAt A s v w b:=by
 induction n generalizing x y v w b A with
 | zero=>exact q.elim
 | succ n ih=>
  have hsame:=fun e:v=w=>EqN.same q r1 (e▸r2)
  have fin:∀ {a1 a2:Addr},v=.ref a1→w=.ref a2→RcAt A s v w b→RcAt A s v w b∧EqAt A s v w b:=by
   rintro a1 a2 rfl rfl hr
   refine ⟨hr,?_⟩
   by_cases e:a1=a2
   ·subst e;rw [hsame rfl];exact EqAt.same _
   ·exact EqAt.of_refs e hr
  have hrec:=fun {x y a v w} (q:EqN n x y a) (r1:VR W s.heap P x v) (r2:VR W s.heap P' y w)=>(ih (A:=A.in1) q r1 r2 (by simp;lia)).2
  have q0:EqS (EqN n) x y b:=q;clear q
  cases q0 with
  | nul=>obtain rfl:=r1;obtain rfl:=r2;exact ⟨.none_none,EqAt.same _⟩
  | bool=>obtain rfl:=r1;obtain rfl:=r2;exact ⟨.bool_bool _ _,.bool_bool _ _⟩
  | int=>obtain ⟨_,rfl⟩:=r1;obtain ⟨_,rfl⟩:=r2;exact ⟨.int_int _ _ _ _,.int_int _ _ _ _⟩
  | str=>obtain ⟨_,rfl⟩:=r1;obtain ⟨_,rfl⟩:=r2;rw [eS];exact ⟨.str_str _ _ _ _,.str_str _ _ _ _⟩
  | tup q=>
   obtain ⟨a,vs,_,rfl,⟨_,k1,e1⟩,_,q1⟩:=r1
   obtain ⟨a',ws,_,rfl,⟨_,k2,e2⟩,_,q2⟩:=r2
   obtain ⟨e,he,hl,hj⟩:=iV hrec q q1 q2
   refine fin rfl rfl ?_
   have:=RcAt.tuples (e:=e) ⟨_,e1,rfl,k1,rfl⟩ ⟨_,e2,rfl,k2,rfl⟩ (by lia:A.units < cLine) hj
   simpa [hl,he] using this
  | lst q=>
   obtain ⟨a,vs,_,rfl,⟨_,k1,e1⟩,_,q1⟩:=r1
   obtain ⟨a',ws,_,rfl,⟨_,k2,e2⟩,_,q2⟩:=r2
   obtain ⟨e,he,hl,hj⟩:=iV hrec q q1 q2
   refine fin rfl rfl ?_
   have:=RcAt.lists (e:=e) ⟨_,e1,rfl,k1,rfl⟩ ⟨_,e2,rfl,k2,rfl⟩ (by simpa using hl) (by lia:A.units < cLine) hj
   simpa [hl,he] using this
  | len q=>
   obtain ⟨a,vs,_,rfl,⟨_,k1,e1⟩,_,q1⟩:=r1
   obtain ⟨a',ws,_,rfl,⟨_,k2,e2⟩,_,q2⟩:=r2
   refine fin rfl rfl (RcAt.lists_lengths ⟨_,e1,rfl,k1,rfl⟩ ⟨_,e2,rfl,k2,rfl⟩ ?_ (by lia))
   rw [List.size_toArray,List.size_toArray,← q1.length,← q2.length]
   exact bne_iff_ne.mpr q
theorem EqN.ne {n x y v w b} (q:EqN (n+1) x y b) (r1:VR W s.heap P x v) (r2:VR W s.heap P' y w) (hu:A.units+n+1 < cLine):RcNeAt A s v w (!b):=by
 have hrec:=fun {x y a v w} (q:EqN n x y a) (r1:VR W s.heap P x v) (r2:VR W s.heap P' y w)=>(EqN.at (A:=A.in1) q r1 r2 (by simp;lia)).2
 cases q with
 | nul=>obtain rfl:=r1;obtain rfl:=r2;exact .none_none
 | bool=>obtain rfl:=r1;obtain rfl:=r2;exact .bool_bool _ _
 | int=>obtain ⟨_,rfl⟩:=r1;obtain ⟨_,rfl⟩:=r2;exact .int_int _ _ _ _
 | str=>obtain ⟨_,rfl⟩:=r1;obtain ⟨_,rfl⟩:=r2;rw [eS];exact .str_str _ _ _ _
 | tup q=>
  obtain ⟨a,vs,_,rfl,⟨_,k1,e1⟩,_,q1⟩:=r1
  obtain ⟨a',ws,_,rfl,⟨_,k2,e2⟩,_,q2⟩:=r2
  obtain ⟨e,he,hl,hj⟩:=iV hrec q q1 q2
  have:=RcNeAt.tuples (e:=e) ⟨_,e1,rfl,k1,rfl⟩ ⟨_,e2,rfl,k2,rfl⟩ (by lia:A.units < cLine) hj
  simpa [hl,he] using this
 | lst q=>
  obtain ⟨a,vs,_,rfl,⟨_,k1,e1⟩,_,q1⟩:=r1
  obtain ⟨a',ws,_,rfl,⟨_,k2,e2⟩,_,q2⟩:=r2
  obtain ⟨e,he,hl,hj⟩:=iV hrec q q1 q2
  have:=RcNeAt.lists (e:=e) ⟨_,e1,rfl,k1,rfl⟩ ⟨_,e2,rfl,k2,rfl⟩ (hl) (by lia:A.units < cLine) hj
  simpa [hl,he] using this
 | len q=>
  obtain ⟨a,vs,_,rfl,⟨_,k1,e1⟩,_,q1⟩:=r1
  obtain ⟨a',ws,_,rfl,⟨_,k2,e2⟩,_,q2⟩:=r2
  refine RcNeAt.lists_lengths ⟨_,e1,rfl,k1,rfl⟩ ⟨_,e2,rfl,k2,rfl⟩ ?_ (by lia)
  rw [List.size_toArray,List.size_toArray,← q1.length,← q2.length]
  exact bne_iff_ne.mpr q
theorem Cmp.eq {c:Cx} (q:EqN 4 x y b):Cmp c .Eq x y b:=fun u0 u0 s u0 u0 r1 r2 hu u0 u0 h=>(q.at (A:=c.A) r1 r2 (by lia)).1 _ _ _ _ (h s.toks)
theorem Cmp.ne {c:Cx} (q:EqN 4 x y b):Cmp c .NotEq x y (!b):=fun u0 u0 s u0 u0 r1 r2 hu u0 u0 h=>q.ne (A:=c.A) r1 r2 (by lia) _ _ _ _ (h s.toks)
theorem Cmp.lt {c:Cx} {i j}:Cmp c .Lt (.int i) (.int j) (decide (i < j)):=fun u0 u0 s u0 u0 zz0x0 zz0x1 u0 u0 u0 h=>by obtain ⟨_,e1⟩:=zz0x0;obtain ⟨_,e2⟩:=zz0x1;exact by subst e1 e2;exact P.lt_int (h s.toks)
theorem Cmp.gt {c:Cx} {i j}:Cmp c .Gt (.int i) (.int j) (decide (j < i)):=fun u0 u0 s u0 u0 zz1x0 zz1x1 u0 u0 u0 h=>by obtain ⟨_,e1⟩:=zz1x0;obtain ⟨_,e2⟩:=zz1x1;exact by subst e1 e2;exact P.gt_int (h s.toks)
theorem Cmp.le {c:Cx} {i j}:Cmp c .LtE (.int i) (.int j) (decide (i≤j)):=fun u0 u0 s u0 u0 zz2x0 zz2x1 u0 u0 u0 h=>by obtain ⟨_,e1⟩:=zz2x0;obtain ⟨_,e2⟩:=zz2x1;exact by subst e1 e2;exact P.le_int (h s.toks)
noncomputable def strOf:Key→Str
 | .str s=>strV s
 | _=>strV []
noncomputable def bV (ks:List Key) (vs:List Value):List (Str × Value):=(ks.zip vs).map fun x=>(strOf x.1,x.2)
theorem kT {a b:Key} (ha:a.kind=1) (hb:b.kind=1) (h:strOf a=strOf b):a=b:=by
 cases a <;> simp [Key.kind] at ha
 cases b <;> simp [Key.kind] at hb
 exact congrArg Key.str (gw h)
theorem aM.pairs {h es ks vs} (r:aM W.w h es ks vs) (hk:∀ k∈ks,k.kind=1):Pairs (PySem.strKind W.prog W.w) es (bV ks vs)∧∀ e∈es,∃ k,(PySem.strKind W.prog W.w).is k e.key=true∧e.hash=(PySem.strKind W.prog W.w).hash k:=by
 induction r with
 | nil=>exact ⟨.nil,fun u0 h=>absurd h List.not_mem_nil⟩
 | @cons e k es ks vs a b c ih=>
  obtain ⟨i1,i2⟩:=ih fun x hx=>hk x (List.mem_cons_of_mem _ hx)
  have hk1:=hk k List.mem_cons_self
  cases k with
  | str x=>
   obtain ⟨t,ht⟩:=a
   have his:(PySem.strKind W.prog W.w).is (strV x) e.key=true:=by rw [ht];simp [PySem.strKind,Value.isStrOf]
   exact ⟨.cons his rfl i1,fun e' he=>by
    rcases List.mem_cons.mp he with rfl | he
    ·exact ⟨strV x,his,b⟩
    ·exact i2 e' he⟩
  | _=>simp [Key.kind] at hk1
theorem lM {ks:List Key} {vs:List Value} (hl:vs.length=ks.length):(bV ks vs).map (·.1)=ks.map strOf:=by
 unfold bV
 rw [List.map_map]
 show (ks.zip vs).map (strOf ∘ Prod.fst)=_
 rw [← List.map_map,List.map_fst_zip (by lia)]
theorem gq {α β:Type} {f:α→β}:∀ {l:List α},(∀ a∈l,∀ b∈l,f a=f b→a=b)→l.Nodup→(l.map f).Nodup:=by
 intro l
 induction l with
 | nil=>
  exact @fun u0 u0=>List.nodup_nil
 | cons a l ihq=>
  intro h hn
  rw [List.map_cons,List.nodup_cons]
  have hn:=List.nodup_cons.mp hn
  refine ⟨fun hm=>?_,ihq (fun x hx y hy=>h x (List.mem_cons_of_mem _ hx) y (List.mem_cons_of_mem _ hy)) hn.2⟩
  obtain ⟨b,hb,e⟩:=List.mem_map.mp hm
  have:=h b (List.mem_cons_of_mem _ hb) a List.mem_cons_self e
  subst this
  exact hn.1 hb
theorem aM.dictOf {h es ks vs d m} (r:aM W.w h es ks vs) (hk:∀ k∈ks,k.kind=1) (hn:ks.Nodup) (ho:h.get? d=some (bH es m)):h.DictOf (PySem.strKind W.prog W.w) d (bV ks vs):=by
 obtain ⟨i1,i2⟩:=r.pairs hk
 refine ⟨_,es.toArray,m,ho,⟨rfl,rfl,rfl⟩,rfl,fun e he=>i2 e (by simpa using he),i1,?_⟩
 rw [lM r.length.2]
 exact gq (fun a ha b hb=>kT (hk a ha) (hk b hb)) hn
theorem gP {ks:List Key} {vs:List Value} (hl:vs.length=ks.length) (hk:∀ k∈ks,k.kind=1) {k:Key} (hk1:k.kind=1):valueAt (bV ks vs) (strOf k)=eh ks vs k:=by
 induction ks generalizing vs with
 | nil=>cases vs <;> simp at hl;rfl
 | cons x ks ih=>
  cases vs with
  | nil=>cases hl
  | cons v vs=>
   have ih:=ih (vs:=vs) (Nat.succ.inj hl) fun y hy=>hk y (List.mem_cons_of_mem _ hy)
   unfold valueAt eh aD bV at ih ⊢
   simp only [List.zip_cons_cons,List.map_cons,List.find?_cons,List.findIdx?_cons]
   by_cases hx:x=k
   ·subst hx;simp
   ·have h1:¬ strOf x=strOf k:=fun e=>hx (kT (hk x List.mem_cons_self) hk1 e)
    have h2:(x == k)=false:=by simpa using hx
    simp only [h1,decide_false,h2]
    rw [ih]
    cases List.findIdx? (fun x=>x == k) ks <;> rfl
inductive EqK (R:D→D→Bool→Prop) (ks':List Key) (ys:List D):List Key→List D→Bool→Prop
 | nil:EqK R ks' ys [] [] true
 | miss {k ks x xs}:aD ks' k=none→EqK R ks' ys (k::ks) (x::xs) false
 | hit {k ks x xs i y a b}:aD ks' k=some i→ys[i]? = some y→R x y a→EqK R ks' ys ks xs b→EqK R ks' ys (k::ks) (x::xs) (a && b)
theorem EqK.hits {ks':List Key} {ys:List D} {ws:List Value} (hu:A.units+n < cLine) (q2:VRs W s.heap P' ys ws) (hl2:ws.length=ks'.length) (hk2:∀ k∈ks',k.kind=1) {ks xs b} (q:EqK (EqN n) ks' ys ks xs b) :
  ∀ {vs},VRs W s.heap P xs vs→(∀ k∈ks,k.kind=1)→KeqHits A s (bV ks' ws) (bV ks vs) b:=by
 induction q with
 | nil=>rintro _ rfl _;exact .nil
 | miss h=>
  rintro _ ⟨v,r,rfl,_,_⟩ hk
  exact .miss ((gP hl2 hk2 (hk _ List.mem_cons_self)).trans (by unfold eh;refine h▸?_;rfl))
 | hit h hy hR _ ih=>
  rintro _ ⟨v,r,rfl,a1,a2⟩ hk
  obtain ⟨w,ew,rw'⟩:=q2.at hy
  exact .hit ((gP hl2 hk2 (hk _ List.mem_cons_self)).trans (by unfold eh;exact h▸ew)) (EqN.at hR a1 rw' hu).2 (ih a2 fun z hz=>hk z (List.mem_cons_of_mem _ hz))
theorem Cmp.yy {c:Cx} {ks ks' xs ys r} (q:EqK (EqN 4) ks' ys ks xs r) (hk:∀ k∈ks,k.kind=1) (hk':∀ k∈ks',k.kind=1) :
  Cmp c .NotEq (.dct ks xs) (.dct ks' ys) !(ks.length == ks'.length && r):=fun u0 u0 s u0 u0 r1 r2 hu u0 u0 h=>by
 obtain ⟨a,vs,_,rfl,⟨_,hd1,es1,k1,e1,t1,n1⟩,_,q1⟩:=r1
 obtain ⟨a',ws,_,rfl,⟨_,hd2,es2,k2,e2,t2,n2⟩,_,q2⟩:=r2
 have l1:(bV ks vs).length=ks.length:=by simp [bV,t1.length.2]
 have l2:(bV ks' ws).length=ks'.length:=by simp [bV,t2.length.2]
 refine keq_ne hd1 hd2 (t1.dictOf hk n1 e1) (t2.dictOf hk' n2 e2) (by lia) (fun u0=>q.hits (A:=c.A.in1) (by simp;lia) q2 t2.length.2 hk' q1 hk) ?_
 rw [l1,l2];exact h s.toks
theorem VRs.strs:∀ {ss:List Txt} {vs},VRs W h P (ss.map .str) vs→∃ ts:List Tok,ts.length=ss.length∧vs=(ss.zip ts).map fun x=>.str (strV x.1) x.2:=by
 intro ss
 induction ss with
 | nil=>
  exact @fun u0 e=>⟨[],rfl,e⟩
 | cons _ _ ihq=>
  intro _ yy0x0
  obtain ⟨_,_,e,⟨t,ev⟩,r⟩:=yy0x0
  obtain ⟨ts,hl,e2⟩:=ihq r
  exact ⟨t::ts,by rw [List.length_cons,List.length_cons,hl],by rw [e,ev,e2];rfl⟩
theorem VRs.ints:∀ {is:List Int} {vs},VRs W h P (is.map .int) vs→mW is vs:=by
 intro is
 induction is with
 | nil=>
  exact @fun u0 e=>e
 | cons _ _ ihq=>
  exact @fun u0 yy1x0=>by obtain ⟨_,r,e,⟨t,ev⟩,q⟩:=yy1x0;exact ⟨t,r,by rw [e,ev],ihq q⟩
noncomputable def dR (x:Txt):Value→Bool
 | .str t _=>t == strV x
 | _=>false
theorem jw {x:Txt} {t:Str} {u:Tok}:dR x (.str t u)=(t == strV x):=rfl
theorem sO (x:Txt) (ss:List Txt):∀ (ts:List Tok),ts.length=ss.length→((ss.zip ts).map fun y=>Value.str (strV y.1) y.2).any (dR x)=ss.contains x:=by
 induction ss with
 | nil=>exact fun u0 u0=>rfl
 | cons s ss ih=>
  intro ts h
  cases ts with
  | nil=>injection h
  | cons t ts=>
   simp only [List.zip_cons_cons,List.map_cons,List.any_cons,ih ts (Nat.succ.inj h),jw,List.contains_cons]
   refine (eS ..)▸?_
   congr 1
   exact Bool.beq_comm ..
theorem gJ {x:Txt} {u:Tok} {ss:List Txt} {ts:List Tok} {A:Around} {s:Shared}:∀ y∈((ss.zip ts).map fun y=>Value.str (strV y.1) y.2).toArray,EqAt A s y (.str (strV x) u) (dR x y):=by
 intro y hy
 obtain ⟨z,_,rfl⟩:=List.mem_map.mp (List.mem_toArray.mp hy)
 exact .str_str _ _ _ _
theorem VR.key {k v} (r:VR W h P (Key.toD k) v):aU h k v:=by
 cases k with
 | int i=>exact r
 | str i=>exact r
 | tup is=>
  obtain ⟨a,vs,_,rfl,⟨_,n,e⟩,_,q⟩:=r
  exact ⟨a,vs,n,rfl,e,q.ints⟩
theorem Cmp.xq {c:Cx} {t:Txt} {ss:List Txt} {kd} (hkd:kd=.lst∨kd=.tup):Cmp c .In (.str t) (.node kd (ss.map .str)) (ss.contains t)∧Cmp c .NotIn (.str t) (.node kd (ss.map .str)) !ss.contains t:=by
 constructor
 all_goals
  rintro _ _ s _ _ ⟨u,rfl⟩ ⟨a,vs,_,rfl,kr,_,q⟩ hu _ _ h
  obtain ⟨ts,hts,rfl⟩:=q.strs
  rw [← sO t ss ts hts] at h
  rcases hkd with rfl | rfl
 ·exact in_listAt (dR t) ⟨_,kr.2.choose_spec,rfl,_,rfl⟩ gJ (by rw [List.any_toArray];exact h s.toks)
 ·exact in_tupleAt (dR t) ⟨_,kr.2.choose_spec,rfl,_,rfl⟩ gJ (by rw [List.any_toArray];exact h s.toks)
 ·exact notIn_listAt (dR t) ⟨_,kr.2.choose_spec,rfl,_,rfl⟩ gJ (by rw [List.any_toArray];exact h s.toks)
 ·exact notIn_tupleAt (dR t) ⟨_,kr.2.choose_spec,rfl,_,rfl⟩ gJ (by rw [List.any_toArray];exact h s.toks)
theorem oo {ks:List Key} {vs:List Value} (hl:vs.length=ks.length) (k:Key):(eh ks vs k).isSome=(aD ks k).isSome:=by
 unfold eh
 cases hd:aD ks k with
 | none=>rfl
 | some j=>
  have:=(List.getElem?_eq_some_iff.mp (bW hd).1).1
  rw [Option.bind_some,List.getElem?_eq_getElem (hl▸this)];rfl
theorem Cmp.yz {c:Cx} {k:Key} {ks xs} (ok:bk ks k=true):Cmp c .In k.toD (.dct ks xs) (aD ks k).isSome∧Cmp c .NotIn k.toD (.dct ks xs) !(aD ks k).isSome:=by
 constructor
 all_goals
  rintro _ _ s _ _ r1 ⟨a,vs,_,rfl,⟨_,hd,es,m,e,t,nd⟩,_,q⟩ hu _ _ h
  rw [← oo t.length.2 k] at h
 ·exact u5 (by simp;lia) hd e t nd r1.key ok h
 ·exact p9 (by simp;lia) hd e t nd r1.key ok h
end
end Mine
namespace Mine
open PySem PySem.Calls PyProof.Rows PySem.SeqAt
section
variable {c:Cx} {ρ:List Sl} {k:Nat} {F:Fp} {s s':Shared} {l:Lv} {Q:D→Nat→Prop} {e:Expr} {W:Wd} {A:Around} {E:Value→Shared→Prop} {P:Addr→Prop}
theorem VR.node1 {kd ds vs} {o:Obj} {t:Nat} (hf:∀ a,s.heap.get? a=none→P a) (r:VRs W s.heap P ds vs) (hk:∃ as,KR W (s.heap.push o) kd s.heap.objs.size vs as∧∀ a∈as,a=s.heap.objs.size) :
  VR W { s with heap:=s.heap.push o,toks:=t }.heap P (.node kd ds) (.ref s.heap.objs.size):=
 by obtain ⟨as,h,ha⟩:=hk;exact ⟨_,vs,as,rfl,h,fun b hb=>ha b hb▸hf _ (Heap.get?_none_of_le (Nat.le_refl _)),r.grow fun u0 u0 e=>Heap.get?_push_of_some _ e⟩
theorem VR.list1 {ds vs} {t:Nat} (hf:∀ a,s.heap.get? a=none→P a) (r:VRs W s.heap P ds vs):VR W { s with heap:=s.heap.push { cls:=.type "list",data:=.seq vs.toArray },toks:=t }.heap P (.lst ds) (.ref s.heap.objs.size):=
 .node1 (t:=t) hf r ⟨_,⟨rfl,0,Heap.get?_push_size _ rfl⟩,fun u0=>List.mem_singleton.mp⟩
theorem VR.tuple1 {ds vs} {t:Nat} (r:VRs W s.heap P ds vs):VR W { s with heap:=s.heap.push { cls:=.type "tuple",data:=.seq vs.toArray },toks:=t }.heap P (.tup ds) (.ref s.heap.objs.size):=
 ⟨_,vs,[],rfl,⟨rfl,0,Heap.get?_push_size _ rfl⟩,fun u0 h=>(aE h),r.grow fun u0 u0 e=>Heap.get?_push_of_some _ e⟩
theorem pL (vs ws:List Value):vs.toArray++ws.toArray=(vs++ws).toArray:=List.append_toArray ..
theorem Pr2.xA {xs ys} (hl:xs.length+ys.length≤2 ^ 24):Pr2 c (binaryOp .Add) (.tup xs) (.tup ys) (.tup (xs++ys)):=by
 rintro _ P s _ _ hf ⟨t,vs,_,rfl,⟨_,k1,ht⟩,p1,r1⟩ ⟨b,ws,_,rfl,⟨_,k2,hb⟩,p2,r2⟩ _ Q E h
 rw [r1.length,r2.length] at hl
 have e:=pL vs ws
 by_cases hv:vs=[]
 ·subst hv
  obtain rfl:=List.length_eq_zero_iff.mp r1.length
  exact concat_meets ⟨_,ht,rfl⟩ ⟨_,hb,rfl⟩ noFill_tuple_add seq_tuple_add PySem.F.slot_tuple_add PySem.F.entry_tuple_add (PySem.F.args_tuple_add_2 _ _)
   (tuple_addW0 t b [].toArray ws.toArray k1 k2 none none #[] #[] (by simp)) ⟨ht,hb,h _ _ .refl ⟨_,ws,[],rfl,⟨rfl,k2,hb⟩,fun u0 h=>(aE h),r2⟩⟩
 ·by_cases hw:ws=[]
  ·subst hw
   obtain rfl:=List.length_eq_zero_iff.mp r2.length
   rw [List.append_nil] at h
   exact concat_meets ⟨_,ht,rfl⟩ ⟨_,hb,rfl⟩ noFill_tuple_add seq_tuple_add PySem.F.slot_tuple_add PySem.F.entry_tuple_add (PySem.F.args_tuple_add_2 _ _)
    (tuple_addW1 t b vs.toArray [].toArray k1 k2 none none #[] #[] (by simpa using hv) (by simp)) ⟨ht,hb,h _ _ .refl ⟨_,vs,[],rfl,⟨rfl,k1,ht⟩,fun u0 h=>(aE h),r1⟩⟩
  ·refine concat_meets ⟨_,ht,rfl⟩ ⟨_,hb,rfl⟩ noFill_tuple_add seq_tuple_add PySem.F.slot_tuple_add PySem.F.entry_tuple_add (PySem.F.args_tuple_add_2 _ _)
    (tuple_addW2 t b vs.toArray ws.toArray k1 k2 none none #[] #[] (by simpa using hv) (by simpa using hw) (by simpa [sizeLine] using hl)) ⟨ht,hb,?_⟩
   rw [e]
   exact h _ _ (.push _ s.toks) (.tuple1 (r1.append r2))
theorem Pr2.xB {xs ys} (hl:xs.length+ys.length≤2 ^ 24):Pr2 c (binaryOp .Add) (.lst xs) (.lst ys) (.lst (xs++ys)):=by
 rintro _ P s _ _ hf ⟨t,vs,_,rfl,⟨_,k1,ht⟩,p1,r1⟩ ⟨b,ws,_,rfl,⟨_,k2,hb⟩,p2,r2⟩ _ Q E h
 rw [r1.length,r2.length] at hl
 refine concat_meets ⟨_,ht,rfl⟩ ⟨_,hb,rfl⟩ noFill_list_add seq_list_add PySem.F.slot_list_add PySem.F.entry_list_add (PySem.F.args_list_add_2 _ _)
  (list_addW t b vs.toArray ws.toArray k1 k2 none none #[] #[] (by simpa [sizeLine] using hl)) ⟨ht,hb,?_⟩
 rw [pL]
 exact h _ _ (.push _ s.toks) (.list1 hf (r1.append r2))
theorem oV (v:Value):∀ (m:Nat) (acc:Array Value),List.foldl (fun x1 x2=>x1++x2) acc (List.replicate m [v].toArray)=acc++(List.replicate m v).toArray:=by
 intro m
 induction m with
 | zero=>
  exact @fun acc=>by simp
 | succ m ihq=>
  exact @fun acc=>by rw [List.replicate_succ,List.foldl_cons,ihq,List.replicate_succ];apply Array.toList_inj.mp;simp
theorem VRs.rep {h:Heap} {d v} (r:VR W h P d v):∀ m,VRs W h P (List.replicate m d) (List.replicate m v):=by
 intro m
 induction m with
 | zero=>
  exact rfl
 | succ m ihq=>
  exact ⟨v,_,rfl,r,ihq⟩
theorem Pr2.rep {x:D} {m:Int} (h0:0≤m) (hm:m.toNat≤2 ^ 24):Pr2 c (binaryOp .Mult) (.lst [x]) (.int m) (.lst (List.replicate m.toNat x)):=by
 rintro _ P s _ _ hf ⟨a,_,_,rfl,⟨_,k1,e1⟩,_,v,_,rfl,r1,rfl⟩ ⟨u,rfl⟩ _ Q E h
 refine wpAny_binaryOp_repeat_ref (T:="list") (U:="int") (by decide) ⟨_,e1,rfl⟩ (fun s'=>typeIs_int s' _ u) noFill_list_mul F.fills_int_mul F.slot_int_rmul repeat_list F.slot_int_index.lookup
  (call_meets F.slot_int_rmul (typeIs_int s _ u) F.entry_int_rmul (F.args_int_rmul_2 _ _) (int___rmul___int_list _ u a [v].toArray k1)
   ⟨e1,rfl,⟨_,e1,rfl⟩,call_meets F.slot_list_mul ⟨_,e1,rfl⟩ F.entry_list_mul (F.args_list_mul_2 _ _)
    (AutoListH.list___mul___list_int_3 a [v].toArray k1 _ u (by simp [Builtin.List.listFitsIndex];lia) (by simp;lia) (by simp [Builtin.List.listTooLong,sizeLine];lia)) ⟨e1,?_⟩⟩)
 rw [if_neg (by simp),oV,Array.empty_append]
 exact h _ _ (.push _ s.toks) (.list1 hf (.rep r1 m.toNat))
theorem gF {i n:Nat} (hk:i < n):seqIndex? (i:Int) n=some i:=by
 unfold seqIndex?
 have h1:¬ (i:Int) < 0:=by lia
 have h2:(i:Int) < (n:Int):=by lia
 simp [h1,h2]
noncomputable def bQ (e:Expr):Bool:=!(Nat.beq e.ctorIdx 26)
theorem bX {slice:Expr} {o i:Value} (h:bQ slice=true):subscripted slice false o i=operate [o,i] (getItem o i):=by
 cases slice <;> first | rfl | exact (Bool.false_ne_true h).elim
noncomputable def iQ (c:Cx) (x y r:D):Prop:=∀ (P P':Addr→Prop) s v w value slice,bQ slice=true→VR c.W s.heap P x v→VR c.W s.heap P' y w→c.A.in1.units < cLine→
 ∀ Q E,(∀ v' t,VR c.W s.heap P r v'→Q v' { s with toks:=t })→wpAny c.M c.A (subscriptTail value slice v w) Q E s
theorem iQ.lst {xs:List D} {i:Nat} {d} (hi:i < 2 ^ 62) (h:xs[i]? = some d):iQ c (.lst xs) (.int i) d:=by
 rintro P _ s _ _ _ _ hs ⟨a,vs,_,rfl,⟨_,n,e⟩,_,r⟩ ⟨t,rfl⟩ _ Q E q
 obtain ⟨v,hv,rv⟩:=r.at h
 exact tail_any (T:="list") ⟨_,e,rfl⟩ slot_list_getitem.lookup (wpAny_getItem_list (x:=v) ⟨_,e,rfl,n,rfl⟩ (Int.natCast_nonneg i) (by lia) (by simpa using hv) (q v s.toks rv)) (bX hs)
theorem iQ.tup {xs:List D} {i:Nat} {d} (hi:i < 2 ^ 62) (h:xs[i]? = some d):iQ c (.tup xs) (.int i) d:=by
 rintro P _ s _ _ _ _ hs ⟨a,vs,_,rfl,⟨_,n,e⟩,_,r⟩ ⟨t,rfl⟩ _ Q E q
 obtain ⟨v,hv,rv⟩:=r.at h
 exact tail_any (T:="tuple") ⟨_,e,rfl⟩ slot_tuple_getitem.lookup (getItem_tuple (x:=v) (items:=vs.toArray) ⟨_,e,rfl,n,rfl⟩ (by lia) (by lia) (gF (by have:=(List.getElem?_eq_some_iff.mp hv).1;simpa using this)) (by simpa using hv) (q v s.toks rv)) (bX hs)
theorem iQ.dct {ks xs} {kk:Key} {i:Nat} {d} (ok:bk ks kk=true) (hi:aD ks kk=some i) (h:xs[i]? = some d):iQ c (.dct ks xs) kk.toD d:=by
 rintro P _ s _ _ _ _ hs ⟨a,vs,_,rfl,⟨_,hsm,es,m,e,kr,hn⟩,_,r⟩ r2 hu Q E q
 obtain ⟨v,hv,rv⟩:=r.at h
 exact tail_any (aA e) slot_dict_getitem.lookup (iC (v:=v) hu e kr hn r2.key ok (by unfold eh;rw [hi];exact hv) fun t=>q v t rv) (bX hs)
theorem oG {a b:Expr} {pos l'} (hs:bQ b=true) (h:Ev c ρ k l a fun x k1=>Ev c ρ k1 l' b fun y k2=>∃ r,iQ c x y r∧Q r k2):Ev c ρ k l (.Subscript a b pos) Q:=fun ok F s x=>
 Subscript_ (noE (ev2 h ok x) fun u0 u0 h1=>noE h1 fun u0 s2 zz0=>by obtain ⟨_,_,_,⟨r,p,q⟩,r1,r2,x2,st⟩:=zz0;exact p _ _ s2 _ _ _ _ hs r1 r2 ok.room.in1 _ _ fun u0 t r=>.tok x2 st q t r)
theorem pR:∀ y∈dP,bootBuiltins y.1=some y.2:=by
 intro y hy
 simp only [dP,List.mem_cons,List.not_mem_nil,or_false] at hy
 rcases hy with rfl | rfl | rfl | rfl | rfl | rfl | rfl | rfl | rfl | rfl <;> decide +kernel
theorem eK {x:Str} {v:Value} {pos:Pos} {Q:Value→Shared→Prop} (ok:aJ c) (w0:W0 c.W c.A s) (hm:(x,v)∈dP) (hn:(x == ("__name__" : Str))=false) (hn':(x == ("__debug__" : Str))=false) (hx:c.names.lookup x=some .globalImplicit) (h:Q v s):wpAny c.M c.A (eval (.Name x pos) c.env) Q E s:=
 Name_function_global ok.env.kind (ok.env.glob x hx) (loadGlobal_builtin (env:=c.env) (by rw [ok.env.globals];exact ok.wok.g.keeps w0.base) (ok.wok.noB _ hm) (by rw [ok.env.builtins];exact ok.wok.b.keeps w0.base)
  ((ok.wok.bb x (by simpa using hn)).trans (pR _ hm)) h) hn'
theorem fD {pos:Pos} {env:Env}:∀ (es:List Expr),es.all ah=true→(backTo pos (starEach es env)).any (·.1)=false∧(backTo pos (starEach es env)).all (!·.1)=true:=by
 intro es
 induction es generalizing pos env with
 | nil=>
  exact @fun u0=>⟨rfl,rfl⟩
 | cons x r ihq=>
  intro hs
  rw [List.all_cons,Bool.and_eq_true] at hs
  rw [ag hs.1]
  exact ihq hs.2
noncomputable def o5:Value→Bool | .builtin _=>true | .type _=>true | _=>false
theorem bK {env:Env} {fv:Value} {pos:Pos} {e:Expr} {es:List Expr} {Q:Value→Shared→Prop} {M:Model} (hf:o5 fv=true)
  (hs:(e::es).all ah=true) (h:wpAny M A (spliced (backTo pos (starEach (e::es) env))) (fun vs s₁=>wpAny M A (PySem.call fv vs) Q E s₁) E s) :
  wpAny M A (callWith pos fv [] (backTo pos (starEach (e::es) env)) []) Q E s:=by
 rw [List.all_cons,Bool.and_eq_true] at hs
 have hp:=(fD (pos:=pos) (env:=env) es hs.2).1
 cases fv <;> first | cases hf | skip
 ·rw [ag hs.1] at h ⊢
  exact PyProof.Rows.callWith_type (show (false || (backTo pos (starEach es env)).any (·.1))=false by rw [hp];rfl) (evalArgs_plain h)
 ·exact callWith_builtin1 h (ag hs.1) hp
theorem mn {x:Str} {fv:Value} {pos pos'} (hm:(x,fv)∈dP) (hb:(x == ("__name__" : Str))=false∧(x == ("__debug__" : Str))=false) (hf:o5 fv=true) (hx:c.names.lookup x=some .globalImplicit) (hs:ah e=true)
  (h:Ev c ρ k l e fun d k'=>∃ r,Pr1 c (fun v=>PySem.call fv [v]) d r∧Q r k'):Ev c ρ k l (.Call (.Name x pos') [e] [] pos) Q:=fun ok F s x0=>
 Call_ (eK ok x0.w0 hm hb.1 hb.2 hx (bK hf (by rw [List.all_cons,hs];rfl) (args_cons (noE (h ok F s x0) fun u0 s1 zz1=>by obtain ⟨_,_,⟨r,p,q⟩,r1,x1,st⟩:=zz1;exact args_nil (p ok _ s1 _ (fun u0=>x1.xm) r1 x1.w0 _ _ fun u0 u0 g r=>.prim x1 st q g r)) (ag hs))))
noncomputable def cF (c:Cx) (x:Str):Bool:=decide (c.names.lookup x=some .globalImplicit)
theorem u3 {pos pos'} (hx:cF c "len" = true) (hs:ah e=true) (h:Ev c ρ k .any e fun d k'=>∃ r,Pr1 c (fun v=>PySem.call (.builtin "len") [v]) d (.int r)∧Q (.int r) k'):Ev c ρ k l (.Call (.Name "len" pos') [e] [] pos) Q:=
 oM (mn (.head _) (by decide +kernel) rfl (of_decide_eq_true hx) hs (h.mono fun u0 u0 zz2=>by obtain ⟨r,p,q⟩:=zz2;exact ⟨_,p,rfl,q⟩))
theorem vC {pos pos'} (hx:cF c "abs" = true) (hs:ah e=true) (h:Ev c ρ k l e fun d k'=>∃ i,d=.int i∧Q (.int i.natAbs) k'):Ev c ρ k l (.Call (.Name "abs" pos') [e] [] pos) Q:=
 mn (.tail _ (.head _)) (by decide +kernel) rfl (of_decide_eq_true hx) hs (h.mono fun _ _ ⟨i,e,q⟩=>⟨_,fun u0 P s v u0 r u0 Q E q=>by
  subst e;obtain ⟨t,rfl⟩:=r
  refine call_abs_int fun u tk=>?_
  rw [show (if i < 0 then -i else i)=(i.natAbs:Int) by split <;> lia]
  exact q _ _ (.toks tk) ⟨u,rfl⟩,q⟩)
theorem rV {pos pos'} (hx:cF c "int" = true) (hs:ah e=true) (h:Ev c ρ k l e fun d k'=>∃ i,d=.int i∧Q (.int i) k'):Ev c ρ k l (.Call (.Name "int" pos') [e] [] pos) Q:=
 mn (.tail _ (.tail _ (.head _))) (by decide +kernel) rfl (of_decide_eq_true hx) hs (h.mono fun u0 u0 yq1=>by obtain ⟨i,e,q⟩:=yq1;exact ⟨_,fun u0 P s v u0 r u0 Q E q=>by
  subst e;obtain ⟨t,rfl⟩:=r
  exact call_int_int (q _ _ .refl ⟨t,rfl⟩),q⟩)
theorem Pr1.xn {xs} (hl:xs.length≤2 ^ 24):Pr1 c (fun v=>PySem.call (.builtin "len") [v]) (.lst xs) (.int xs.length):=by
 rintro _ P s _ hf ⟨a,vs,_,rfl,⟨_,n,e⟩,_,r⟩ _ Q E h
 rw [r.length] at hl h
 exact len_list (items:=vs.toArray) ⟨_,e,rfl,n,rfl⟩ (by simp;lia) (h _ _ (.toks _) ⟨s.toks+1,by simp⟩)
theorem Pr1.xC {xs} (hl:xs.length≤2 ^ 24):Pr1 c (fun v=>PySem.call (.builtin "len") [v]) (.tup xs) (.int xs.length):=by
 rintro _ P s _ hf ⟨a,vs,_,rfl,⟨_,n,e⟩,_,r⟩ _ Q E h
 rw [r.length] at hl h
 exact len_tuple (items:=vs.toArray) ⟨_,e,rfl,n,rfl⟩ (by simp;lia) (h _ _ (.toks _) ⟨s.toks+1,by simp⟩)
theorem Pr1.yl {ks xs} (hl:ks.length≤2 ^ 24):Pr1 c (fun v=>PySem.call (.builtin "len") [v]) (.dct ks xs) (.int ks.length):=by
 rintro _ P s _ hf ⟨a,vs,_,rfl,⟨_,hsm,es,m,e,kr,hn⟩,_,r⟩ _ Q E h
 rw [← kr.length.1] at hl h
 refine call_len_slot (n:=(es.length:Int)) (aA e) F.slot_dict_len (fun Q' hq=>wpAny_call_entry F.slot_dict_len (aA e) F.entry_dict_len ?_ (F.args_dict_len_1 _)) (by lia) (by lia) (h _ _ (.toks _) ⟨_,rfl⟩)
 show wpAny _ _ (dictSize a >>= _) _ _ s
 unfold dictSize
 refine wpAny_bind (wpAny_bind (wpAny_dictEntries e rfl (wpAny_pure ?_)))
 show wpAny _ _ (Builtin.Dict.pendingCount a >>= _) _ _ s
 refine wpAny_bind (wpAny_pendingCount_other hsm ?_)
 exact wpAny_bind (wpAny_mkInt (wpAny_pure ⟨_,rfl,by simpa using hq⟩))
theorem t9 {pos pos'} (hx:cF c "list" = true) (hs:ah e=true) (h:Ev c ρ k l e fun d k'=>∃ kd xs,d=.node kd xs∧(kd=.lst∨kd=.tup)∧xs.length≤2 ^ 24∧Q (.lst xs) k'):Ev c ρ k l (.Call (.Name "list" pos') [e] [] pos) Q:=
 mn (.tail _ (.tail _ (.tail _ (.tail _ (.head _))))) (by decide +kernel) rfl (of_decide_eq_true hx) hs (h.mono fun _ _ ⟨kd,xs,e,hk,hl,q⟩=>⟨_,fun u0 P s v hf r u0 Q E q=>by
  subst e
  obtain ⟨a,vs,_,rfl,kr,_,r⟩:=r
  rw [r.length] at hl
  have fin:∀ h' c',(∀ b o,s.heap.get? b=some o→h'.get? b=some o)→h'.get? s.heap.objs.size=some (fP vs c')→Q (.ref s.heap.objs.size) { s with heap:=h' }:=fun h' c' hk he=>
   q _ _ ⟨h',s.toks,rfl,hk⟩ ⟨_,vs,_,rfl,⟨rfl,c',he⟩,List.forall_mem_singleton.mpr (hf _ (Heap.get?_none_of_le (Nat.le_refl _))),r.grow hk⟩
  rcases hk with rfl | rfl
  ·obtain ⟨_,n,e⟩:=kr
   exact call_list_seq a (.inl rfl) e rfl rfl fin (by simpa [sizeLine] using hl)
  ·obtain ⟨_,n,e⟩:=kr
   exact call_list_seq a (.inr rfl) e rfl rfl fin (by simpa [sizeLine] using hl),q⟩)
theorem qD {pos pos'} (hx:cF c "tuple" = true) (hs:ah e=true) (h:Ev c ρ k l e fun d k'=>∃ xs,d=.lst xs∧xs.length≤2 ^ 24∧Q (.tup xs) k'):Ev c ρ k l (.Call (.Name "tuple" pos') [e] [] pos) Q:=
 mn (.tail _ (.tail _ (.tail _ (.tail _ (.tail _ (.head _)))))) (by decide +kernel) rfl (of_decide_eq_true hx) hs (h.mono fun _ _ ⟨xs,e,hl,q⟩=>⟨_,fun u0 P s v hf r u0 Q E q=>by
  subst e
  obtain ⟨a,vs,_,rfl,⟨_,n,e⟩,_,r⟩:=r
  rw [r.length] at hl
  refine call_tuple_list ⟨_,e,rfl,n,rfl⟩ (fun h' hk=>?_) (by simpa [sizeLine] using hl)
  have hk':=fun b o e=>Heap.get?_push_of_some { cls:=.type "tuple",data:=.seq vs.toArray } (hk b o e)
  exact q _ _ ⟨_,s.toks,rfl,hk'⟩ ⟨_,vs,[],rfl,⟨rfl,0,Heap.get?_push_size _ rfl⟩,fun u0 h=>(aE h),r.grow hk'⟩,q⟩)
theorem vV {a b:Expr} {pos pos'} (hq:c.W.qt=true) (hx:cF c "max" = true) (hs:[a,b].all ah=true) (h:Ev c ρ k l a fun x k1=>Ev c ρ k1 l b fun y k2=>∃ i j,x=.int i∧y=.int j∧Q (.int (if j > i then j else i)) k2):Ev c ρ k l (.Call (.Name "max" pos') [a,b] [] pos) Q:=fun ok F s x0=>by
 have hs':=hs
 simp only [List.all_cons,List.all_nil,Bool.and_true,Bool.and_eq_true] at hs
 refine Call_ (eK ok x0.w0 (v:=.builtin "max") (.tail _ (.tail _ (.tail _ (.head _)))) (by decide +kernel) (by decide +kernel) (of_decide_eq_true hx) (bK rfl hs' (args_cons (noE (ev2 h ok x0) fun v u0 h1=>args_cons (noE h1 fun w s2 zr0=>?_) (ag hs.2)) (ag hs.1))))
 obtain ⟨_,_,_,⟨i,j,e1,e2,q⟩,r1,r2,x2,st⟩:=zr0;refine args_nil ?_
 subst e1 e2
 obtain ⟨t,rfl⟩:=r1
 obtain ⟨u,rfl⟩:=r2
 refine max_two_ints (x2.w0.hand.1 hq) fun h' tk hk=>.prim x2 st q ⟨h',tk,rfl,hk⟩ ?_
 split
 ·exact ⟨u,rfl⟩
 ·exact ⟨t,rfl⟩
end
end Mine
namespace Mine
open PySem PySem.Calls PyProof.Rows PySem.SeqAt PySem.W
section
variable {prog:Program} {w:World} {A:Around} {E:Value→Shared→Prop} {s:Shared}
theorem mM (b n:Nat) (hb:b≤n):Builtin.Slice.sliceAdjust none (some (b:Int)) 1 (n:Int)=(0,(b:Int)):=by
 unfold Builtin.Slice.sliceAdjust
 have h1:¬ ((1:Int) < 0):=by lia
 have h2:¬ ((b:Int) < 0):=by lia
 simp only [h1,h2,if_false]
 congr 1
 lia
theorem nk (b:Nat):Builtin.Slice.slicePlaces 0 (b:Int) 1=b:=by
 unfold Builtin.Slice.slicePlaces
 have h1:(1:Int) > 0:=by lia
 simp only [h1,if_true,Int.ediv_one]
 split <;> lia
theorem gK {sl:Addr} {b n:Nat} {u:Tok} {Q:Int × Int × Nat→Shared→Prop} (hs:s.heap.IsSliceOf sl .none (.int b u) .none) (hb:b≤n) (h:Q (0,1,b) s) :
  wpAny (model prog w) A (Builtin.Slice.sliceApplied (.ref sl) (pure (n:Int))) Q E s:=by
 obtain ⟨os,hos,hcs,hds⟩:=id hs
 unfold Builtin.Slice.sliceApplied Builtin.Slice.sliceFields
 refine wpAny_bind (wpAny_bind (wpAny_field hos hds (x:=.none) rfl (wpAny_bind (wpAny_field hos hds (x:=.int b u) rfl (wpAny_bind (wpAny_field hos hds (x:=.none) rfl (wpAny_pure ?_)))))))
 refine wpAny_bind (slicePart_none ?_)
 show wpAny _ _ (if ((1:Int) == 0)=true then _ else _) _ _ s
 rw [if_neg (by decide)]
 refine wpAny_bind (slicePart_none (wpAny_bind (slicePart_int (wpAny_bind (wpAny_pure ?_)))))
 show wpAny _ _ (match Builtin.Slice.sliceAdjust none (some (b:Int)) 1 (n:Int) with | (lo,hi)=>pure (lo,(1:Int),Builtin.Slice.slicePlaces lo hi 1)) _ _ s
 rw [mM b n hb]
 show wpAny _ _ (pure ((0:Int),(1:Int),Builtin.Slice.slicePlaces (0:Int) (b:Int) 1)) _ _ s
 rw [nk b]
 exact wpAny_pure h
theorem pT (xs:Array Value) (b:Nat):((List.range b).filterMap fun (k:Nat)=>xs[((0:Int)+(k:Int) * 1).toNat]?).toArray=(xs.toList.take b).toArray:=by
 have e:(fun (k:Nat)=>xs[((0:Int)+(k:Int) * 1).toNat]?)=fun k=>xs[0+k]?:=by
  funext k
  have:((0:Int)+(k:Int) * 1).toNat=0+k:=by lia
  rw [this]
 rw [e]
 have:=pick_run xs 0 b
 rw [List.filterMap_map] at this
 have e2:((fun x=>xs[x]?) ∘ fun x=>0+x)=fun k=>xs[0+k]?:=rfl
 rw [e2] at this
 rw [this,List.drop_zero]
theorem gc {t sl:Addr} {items:Array Value} {b:Nat} {u:Tok} {Q:Value→Shared→Prop} (ht:IsTup s.heap t items) (hs:s.heap.IsSliceOf sl .none (.int b u) .none) (hb:b < items.size)
  (h:Q (.ref s.heap.objs.size) { s with heap:=s.heap.push { cls:=.type "tuple",data:=.seq (items.toList.take b).toArray } })
  (hsz:items.size≤sizeLine):wpAny (model prog w) A (getItem (.ref t) (.ref sl)) Q E s:=by
 have hdrop:sizeOk (.seq (items.toList.take b).toArray):=by
  show (items.toList.take b).toArray.size≤sizeLine
  rw [List.size_toArray,List.length_take,Array.length_toList]
  lia
 obtain ⟨os,hos,hcs,hds⟩:=id hs
 have hTs:s.TypeIs (.ref sl) "slice":=⟨os,hos,hcs⟩
 unfold getItem
 try with_reducible refine wpAny_holding ?_
 first | refine wpAny_bind (wpAny_pure ?_) | skip
 refine wpAny_bind (wpAny_sequenceKey ht.typeIs (by decide) ?_)
 refine wpAny_bind (wpAny_callSpecial?_slot (name:=Str.ofString "__getitem__") ht.typeIs slot_tuple_getitem
  (wpAny_call_entry slot_tuple_getitem ht.typeIs entry_tuple_getitem ?_ (args_tuple_getitem _ _)))
 show wpAny _ _ (Builtin.Tuple.tupleItemsOf (.ref t) >>= _) _ _ s
 refine wpAny_bind (tupleItemsOf_ ht ?_)
 refine wpAny_bind (wpAny_typeOf hTs ?_)
 rw [if_pos (by decide)]
 refine wpAny_bind (gK hs (Nat.le_of_lt hb) ?_)
 have hno:¬ (((0:Int) == 0 && (1:Int) == 1 && (b == items.size))=true):=by
  have:(b == items.size)=false:=by rw [beq_eq_false_iff_ne];lia
  rw [this];simp
 show wpAny _ _ (if ((0:Int) == 0 && (1:Int) == 1 && (b == items.size))=true then _ else _) _ _ s
 rw [if_neg hno,pT items b]
 first
  | exact wpAny_bind (m:=Builtin.Tuple.tupleExact _) (wpAny_newObj_type (wpAny_pure ⟨_,rfl,wpAny_pure h⟩) hdrop)
  | exact wpAny_bind (m:=Builtin.Tuple.tupleExact _) (wpAny_newObj_type (wpAny_bind (wpAny_pure (wpAny_pure ⟨_,rfl,wpAny_pure h⟩))) hdrop)
  | exact wpAny_bind (wpAny_bind (m:=Builtin.Tuple.tupleExact _) (wpAny_newObj_type (wpAny_pure (wpAny_pure ⟨_,rfl,wpAny_pure h⟩)) hdrop))
  | exact wpAny_bind (wpAny_bind (m:=Builtin.Tuple.tupleExact _) (wpAny_newObj_type (wpAny_pure ⟨_,rfl,wpAny_pure h⟩) hdrop))
end
theorem iN (k n:Nat):Builtin.Str.strSliceIndices none (some (k:Int)) 1 n=Builtin.Str.strSliceIndices (some ((0:Nat):Int)) (some ((min k n:Nat):Int)) 1 n:=by
 have h1:¬ ((k:Int) < 0):=by lia
 have h2:¬ (((min k n:Nat):Int) < 0):=by lia
 have h3:max (0:Int) (min 0 (n:Int))=0:=by lia
 have h4:max (0:Int) (min (k:Int) (n:Int))=max (0:Int) (min ((min k n:Nat):Int) (n:Int)):=by lia
 unfold Builtin.Str.strSliceIndices
 simp only [h1,h2,if_false]
 simp [h3,h4]
theorem i6 {x:Txt} {t u:Tok} {k:Nat} {Q:Value→Shared→Prop} {s:Shared} (hl:x.length≤sizeLine) (h:∀ t tk,Q (.str (strV (x.take k)) t) { s with toks:=tk }):(sliceMade (strV x) t none (some ((k:Int),u)) none).post Q s:=by
 unfold sliceMade
 have e:(slicePicked (strV x) none (some ((k:Int),u)) none).filterMap ((strV x).cps[·]?)=x.take k:=by
  show (Builtin.Str.strSliceIndices none (some (k:Int)) 1 (strV x).length).filterMap _=_
  rw [iN,StrLaws.sliced_plain (strV x) (Nat.zero_le _) (Nat.min_le_right _ _)]
  simp [strV,Str.length,List.take_eq_take_iff]
 split
 ·rename_i hc
  simp only [Bool.and_eq_true,beq_iff_eq] at hc
  have:x.take k=x:=by
   have h2:=hc.2
   change (Builtin.Str.strSliceIndices none (some (k:Int)) 1 (strV x).length).length=_ at h2
   rw [iN,StrLaws.strSliceIndices_plain (Nat.zero_le _) (Nat.min_le_right _ _)] at h2
   simp [strV,Str.length] at h2
   exact List.take_of_length_le (by lia)
  have q:=h t s.toks
  rw [this] at q
  exact q
 ·have q:=h s.toks (s.toks+1)
  refine ⟨?_,?_⟩
  ·rw [e];simp [Str.length];lia
  ·rw [e];exact q
section
variable {M:Model} {A:Around} {E:Value→Shared→Prop} {s:Shared} {env:Env}
noncomputable def a0 (e:Expr):Bool:=!(Nat.beq e.ctorIdx 16)
theorem cK {o:Expr} {attr:Str} {env:Env} {whole:Sem Value} (h:a0 o=true):attributeBase o attr env whole=whole:=by
 cases o <;> first | rfl | exact (Bool.false_ne_true h).elim
theorem bA {o:Expr} {name:Str} {apos pos:Pos} {args:List Expr} {Q:Value→Shared→Prop} (hb:a0 o=true) (hs:args.all ah=true) (hn:args.length < 30) (hl:(apos.endLine == pos.line)=true)
  (h:wpAny M A (eval o env) (fun ov s₁=>wpAny M A (getMethod ov name (do return (← importBound o env).getD true)) (fun fx s₂=>wpAny M A (callWith pos fx.1 fx.2 (backTo pos (starEach args env)) []) Q E s₂) E s₁) E s) :
  wpAny M A (eval (.Call (.Attribute o name apos) args [] pos) env) Q E s:=by
 rw [arm_eval_Call,cK hb]
 refine wpAny_bind (wpAny_mono h (fun ov s₁ h₁=>wpAny_bind (wpAny_standAt ?_)) fun u0 u0 x=>x)
 have hform:methodCallForm (args.length+([]:List Keyword).length) (backTo pos (starEach args env)) (backToKw pos (keywordEach [] env))=true:=by
  unfold methodCallForm
  rw [(fD _ hs).2]
  show (true && true && decide (args.length+0+0 < 30))=true
  simpa using hn
 have hpos:methodCallPos true o env apos pos=pure pos:=by unfold methodCallPos;simp [hl]
 unfold methodCall
 rw [hform]
 refine wpAny_bind (wpAny_holding (show wpAny M A (getMethod ov name (do return (← importBound o env).getD true)) _ _ _ from wpAny_mono h₁ (fun fx s₂ h₂=>?_) fun u0 u0 x=>x))
 exact wpAny_bind (wpAny_of_eq hpos h₂)
end
section
variable {c:Cx} {ρ:List Sl} {k:Nat} {F:Fp} {s s':Shared} {l:Lv} {Q:D→Nat→Prop} {W:Wd} {A:Around} {E:Value→Shared→Prop} {P:Addr→Prop} {a e:Expr}
noncomputable def mj (c:Cx) (x:D) (lo hi:Value) (r:D):Prop:=∀ (P:Addr→Prop) s v value l' h' pos,(∀ a,s.heap.get? a=none→P a)→VR c.W s.heap P x v→
 ∀ Q E,(∀ v' s',bP s s'→VR c.W s'.heap P r v'→Q v' s')→wpAny c.M c.A (subscriptTail value (.Slice l' h' none pos) v (.ref s.heap.objs.size)) Q E { s with heap:=s.heap.push { cls:=.type "slice",data:=.fields #[lo,hi,.none] } }
theorem i9 {o:Obj} (hf:∀ a,s.heap.get? a=none→P a):∀ a,({ s with heap:=s.heap.push o }:Shared).heap.get? a=none→P a:=fun a h=>hf a (by
 cases e:s.heap.get? a with
 | none=>rfl
 | some o'=>rw [show ({ s with heap:=s.heap.push o }:Shared).heap.get? a=some o' from Heap.get?_push_of_some _ e] at h;exact no2 h)
theorem mj.lst {xs:List D} {lo hi:Value} {r:List D} (hlo:(lo=.none∧∃ (n:Nat) (t:Tok),hi=.int n t∧r=xs.take n)∨(hi=.none∧∃ (n:Nat) (t:Tok),lo=.int n t∧r=xs.drop n)) (hl:xs.length≤2 ^ 24):mj c (.lst xs) lo hi (.lst r):=by
 rintro P s _ value l' h' pos hf ⟨a,vs,_,rfl,⟨_,n0,e⟩,_,q⟩ Q E h
 rw [q.length] at hl
 have gr:=bP.push (s:=s) { cls:=.type "slice",data:=.fields #[lo,hi,.none] } s.toks
 have e':=gr.keep e
 have hsl:=Heap.IsSliceOf.new s.heap lo hi .none
 have hsz:vs.toArray.size≤sizeLine:=by simpa [sizeLine] using hl
 rcases hlo with ⟨rfl,n,t,rfl,rfl⟩ | ⟨rfl,n,t,rfl,rfl⟩
 ·refine tail_any (T:="list") ⟨_,e',rfl⟩ slot_list_getitem.lookup (wpAny_getItem_list_slice (items:=vs.toArray) ⟨_,e',rfl,n0,rfl⟩ hsl .none (.int _ _) .none (by simp) ?_ hsz) rfl
  rw [slicePick_upto' vs.toArray n]
  exact h _ _ (gr.trans (.push _ s.toks)) (.list1 (i9 hf) ((q.take n).grow fun u0 u0 e=>gr.keep e))
 ·refine tail_any (T:="list") ⟨_,e',rfl⟩ slot_list_getitem.lookup (wpAny_getItem_list_slice (items:=vs.toArray) ⟨_,e',rfl,n0,rfl⟩ hsl (.int _ _) .none .none (by simp) ?_ hsz) rfl
  rw [slicePick_from' vs.toArray n]
  exact h _ _ (gr.trans (.push _ s.toks)) (.list1 (i9 hf) ((q.drop n).grow fun u0 u0 e=>gr.keep e))
theorem mj.tup {xs:List D} {lo hi:Value} {r:List D} (hlo:(lo=.none∧∃ (n:Nat) (t:Tok),hi=.int n t∧n < xs.length∧r=xs.take n)∨(hi=.none∧∃ (n:Nat) (t:Tok),lo=.int n t∧1≤n∧n≤xs.length∧r=xs.drop n)) (hl:xs.length≤2 ^ 24):mj c (.tup xs) lo hi (.tup r):=by
 rintro P s _ value l' h' pos hf ⟨a,vs,_,rfl,⟨_,n0,e⟩,_,q⟩ Q E h
 rw [q.length] at hl hlo
 have gr:=bP.push (s:=s) { cls:=.type "slice",data:=.fields #[lo,hi,.none] } s.toks
 have e':=gr.keep e
 have hsl:=Heap.IsSliceOf.new s.heap lo hi .none
 have hsz:vs.toArray.size≤sizeLine:=by simpa [sizeLine] using hl
 rcases hlo with ⟨rfl,n,t,rfl,hn,rfl⟩ | ⟨rfl,n,t,rfl,h1,h2,rfl⟩
 ·refine tail_any (T:="tuple") ⟨_,e',rfl⟩ slot_tuple_getitem.lookup (gc (items:=vs.toArray) ⟨_,e',rfl,n0,rfl⟩ hsl (by simpa using hn) ?_ hsz) rfl
  exact h _ _ (gr.trans (.push _ s.toks)) (.tuple1 ((q.take n).grow fun u0 u0 e=>gr.keep e))
 ·refine tail_any (T:="tuple") ⟨_,e',rfl⟩ slot_tuple_getitem.lookup (getItem_tuple_from (items:=vs.toArray) ⟨_,e',rfl,n0,rfl⟩ hsl (by lia) (by simpa using h2) ?_ hsz) rfl
  exact h _ _ (gr.trans (.push _ s.toks)) (.tuple1 ((q.drop n).grow fun u0 u0 e=>gr.keep e))
theorem mj.str {x:Txt} {n:Nat} {t:Tok} (hl:x.length≤2 ^ 24):mj c (.str x) .none (.int n t) (.str (x.take n)):=by
 rintro P s _ value l' h' pos hf ⟨u,rfl⟩ Q E h
 refine tail_any (typeIs_str _ _ _) PySem.F.slot_str_getitem.lookup (wpAny_getItem_str_slice (l:=none) (u:=some ((n:Int),t)) (st:=none) ⟨_,Heap.get?_push_size _ rfl,rfl,rfl⟩ rfl ?_) rfl
 exact i6 (by simpa [sizeLine] using hl) fun t tk=>h _ _ (.push _ tk) ⟨t,rfl⟩
theorem gV {b:Expr} {pos pos'} (h:Ev c ρ k l a fun x k1=>Ev c ρ k1 l b fun y k2=>∃ (i:Nat) (r:D),y=.int i∧(∀ t:Tok,mj c x .none (.int i t) r)∧Q r k2):Ev c ρ k l (.Subscript a (.Slice none (some b) none pos') pos) Q:=fun ok F s x=>
 Subscript_ (noE (ev2 h ok x) fun v s1 h1=>wpAny_Slice (wpAny_pure (by
  rw [evalPart_some]
  exact noE h1 fun u0 s2 zz0=>by
   obtain ⟨_,_,_,⟨i,r,e,p,q⟩,r1,r2,x2,st⟩:=zz0
   subst e;obtain ⟨t,rfl⟩:=r2
   exact wpAny_pure (p t _ s2 _ _ _ _ _ (fun u0=>x2.xm) r1 _ _ fun u0 u0 g r=>.prim x2 st q g r))))
theorem pI {b:Expr} {pos pos'} (h:Ev c ρ k l a fun x k1=>Ev c ρ k1 l b fun y k2=>∃ (i:Nat) (r:D),y=.int i∧(∀ t:Tok,mj c x (.int i t) .none r)∧Q r k2):Ev c ρ k l (.Subscript a (.Slice (some b) none none pos') pos) Q:=fun ok F s x=>
 Subscript_ (noE (ev2 h ok x) fun v s1 h1=>wpAny_Slice (by
  rw [evalPart_some]
  exact noE h1 fun u0 s2 zz1=>by
   obtain ⟨_,_,_,⟨i,r,e,p,q⟩,r1,r2,x2,st⟩:=zz1
   subst e;obtain ⟨t,rfl⟩:=r2
   exact wpAny_pure (wpAny_pure (p t _ s2 _ _ _ _ _ (fun u0=>x2.xm) r1 _ _ fun u0 u0 g r=>.prim x2 st q g r))))
theorem kC {α:Type} {q:α→Bool}:∀ {l:List α} {j:Nat},l.findIdx? q=some j→∃ hj:j < l.length,q l[j]=true∧∀ m (hm:m < l.length),m < j→q l[m]=false:=by
 intro l j h
 obtain ⟨hj,h1,h2⟩:=List.findIdx?_eq_some_iff_getElem.mp h
 exact ⟨hj,h1,fun m hm hmj=>by have:=h2 m hmj;simpa using this⟩
theorem rr {o e:Expr} {apos pos} (ho:a0 o=true) (hs:ah e=true) (hl:(apos.endLine == pos.line)=true) (h:Ev c ρ k .any o fun x k1=>∃ ss:List Txt,x=.lst (ss.map .str)∧ss.length≤2 ^ 24∧Ev c ρ k1 .any e fun y k2=>∃ (t:Txt) (j:Nat),y=.str t∧ss.findIdx? (· == t)=some j∧Q (.int j) k2) :
  Ev c ρ k l (.Call (.Attribute o "index" apos) [e] [] pos) Q:=fun ok F s x0=>
 bA ho (by rw [List.all_cons,hs];rfl) (Nat.le_of_ble_eq_true rfl) hl (noE (h ok F s x0) fun v1 s1 zz2=>by
  obtain ⟨d1,k1,⟨ss,e1,hsz,h1⟩,r1,x1,st1⟩:=zz2
  subst e1
  have r1':=r1
  obtain ⟨a,vs,_,rfl,⟨_,n,eo⟩,_⟩:=r1
  refine getMethod_builtin (T:="list") (⟨_,eo,rfl⟩) PySem.F.plainAttrs_list PySem.F.slot_list_index PySem.F.type_list_index (fun a ha=>by injection ha with z0a;try subst z0a;exact ⟨_,eo,rfl⟩) ?_
  refine callWith_method1 (args_cons (noE (h1 ok F s1 x1) fun v2 s2 zr2=>?_) (ag hs)) (ag hs) rfl
  obtain ⟨d2,k2,⟨t,j,e2,hj,q⟩,r2,x2,st2⟩:=zr2;refine args_nil ?_
  subst e2
  obtain ⟨u,rfl⟩:=r2
  obtain ⟨a',vs',_,ea,⟨_,n',eo'⟩,_,r'⟩:=x1.vr st2 r1'
  injection ea with z0a;try subst z0a
  obtain ⟨ts,htl,rfl⟩:=r'.strs
  obtain ⟨hjl,g1,g2⟩:=kC hj
  have hz:((ss.zip ts).map fun y=>Value.str (strV y.1) y.2).toArray.size=ss.length:=by simp [htl]
  have hb:∀ m (hm:m < ((ss.zip ts).map fun y=>Value.str (strV y.1) y.2).toArray.size),dR t (((ss.zip ts).map fun y=>Value.str (strV y.1) y.2).toArray[m])=(ss[m]'(hz▸hm) == t):=fun m hm=>by
   simp only [List.getElem_toArray,List.getElem_map,List.getElem_zip,jw]
   exact (eS _ _).symm
  exact call_meets PySem.F.slot_list_index ⟨_,eo',rfl⟩ PySem.F.entry_list_index (PySem.F.args_list_index_2 _ _) (list_indexAt a _ n' none #[] _ (dR t) j (by rw [hz];exact hjl) (by lia) (by rw [hb];exact g1) (fun m hm hmj=>by rw [hb];exact g2 m (hz▸hm) hmj))
   ⟨eo',gJ,.tok x2 (st1.trans st2) q _ ⟨_,rfl⟩⟩)
theorem vG {o e f:Expr} {apos pos} (ho:a0 o=true) (hs:[e,f].all ah=true) (hl:(apos.endLine == pos.line)=true) (h:Ev c ρ k l o fun x k1=>∃ ks xs,x=.dct ks xs∧Ev c ρ k1 .any e fun y k2=>Ev c ρ k2 l f fun z k3=>∃ kk:Key,y=kk.toD∧bk ks kk=true∧(∀ i,aD ks kk=some i→∃ d,xs[i]? = some d∧Q d k3)∧(aD ks kk=none→Q z k3)) :
  Ev c ρ k l (.Call (.Attribute o "get" apos) [e,f] [] pos) Q:=fun ok F s x0=>
 bA ho hs (Nat.le_of_ble_eq_true rfl) hl (noE (h ok F s x0) fun v1 s1 zz4=>by
  obtain ⟨d1,k1,⟨ks,xs,e1,h1⟩,r1,x1,st1⟩:=zz4
  subst e1
  have r1':=r1
  obtain ⟨a,vs,_,rfl,⟨_,hsm,es,m,eo,kr,hn⟩,_⟩:=r1
  have hs':=hs
  simp only [List.all_cons,List.all_nil,Bool.and_true,Bool.and_eq_true] at hs'
  refine getMethod_builtin (T:="dict") (⟨_,eo,rfl⟩) PySem.F.plainAttrs_dict PySem.F.slot_dict_get PySem.F.type_dict_get (fun a ha=>by injection ha with z0a;try subst z0a;exact ⟨_,eo,rfl⟩) ?_
  refine callWith_method1 (args_cons (noE (ev2 h1 ok x1) fun v2 u0 h2=>args_cons (noE h2 fun v3 s3 zr1=>?_) (ag hs'.2)) (ag hs'.1)) (ag hs'.1) (fD _ (by rw [List.all_cons,hs'.2];rfl)).1
  obtain ⟨y,z,k3,⟨kk,e2,hok,q1,q2⟩,r2,r3,x3,st3⟩:=zr1;refine args_nil ?_
  subst e2
  obtain ⟨a',vs',_,ea,⟨_,hsm',es',m',eo',kr',hn'⟩,_,r'⟩:=x1.vr st3 r1'
  injection ea with z0a;try subst z0a
  refine ly ok.room.in1 hsm' eo' kr' hn' r2.key hok fun t=>?_
  unfold eh
  cases hf:aD ks kk with
  | none=>exact .tok x3 (st1.trans st3) (q2 hf) t r3
  | some i=>
   obtain ⟨d,hd,q⟩:=q1 i hf
   obtain ⟨v,hv,rv⟩:=r'.at hd
   rw [Option.bind_some,hv]
   exact .tok x3 (st1.trans st3) q t rv)
theorem n6:("" : Str)=strV []:=by decide +kernel
theorem kq:∀ (ss:List Txt) (acc:Nat),(ss.map strV).foldl (fun a x=>a+x.length+(strV []).length) acc=acc+ss.flatten.length:=by
 intro ss
 induction ss with
 | nil=>
  exact @fun acc=>by simp
 | cons s ss ihq=>
  intro acc
  rw [List.map_cons,List.foldl_cons,ihq]
  simp [strV,Str.length]
  lia
theorem iH (a b:Txt):strV a++strV b=strV (a++b):=by
 show Str.append (strV a) (strV b)=strV (a++b)
 unfold Str.append strV
 simp
theorem nA:∀ (ss:List Txt),Txt.join (strV []) (ss.map strV)=strV ss.flatten:=by
 intro ss
 unfold Txt.join
 rw [StrLaws.glued_eq_join]
 induction ss with
 | nil=>show Str.empty=_;simp;decide +kernel
 | cons s r ih=>
  cases r with
  | nil=>simp [Str.join]
  | cons q r=>
   show strV s++strV []++Str.join (strV []) ((q::r).map strV)=_
   rw [ih,iH,iH]
   simp
theorem ug {e:Expr} {kk apos pos pos'} (hs:ah e=true) (hl:(apos.endLine == pos.line)=true) (h:Ev c ρ k .any e fun x k1=>∃ ss:List Txt,x=.lst (ss.map .str)∧ss.flatten.length≤2 ^ 24∧Q (.str ss.flatten) k1) :
  Ev c ρ k l (.Call (.Attribute (.Constant (.str "") kk pos') "join" apos) [e] [] pos) Q:=fun ok F s x0=>
 bA rfl (by rw [List.all_cons,hs];rfl) (Nat.le_of_ble_eq_true rfl) hl (wpAny_Constant_str (GM.join (callWith_method1 (args_cons (noE (h ok F _ (x0.grow (.toks _))) fun v2 s2 zr0=>by obtain ⟨d2,k2,⟨ss,e1,hsz,q⟩,r2,x2,st2⟩:=zr0;exact args_nil (by
  subst e1
  obtain ⟨a,vs,_,rfl,⟨_,n,eo⟩,_,r⟩:=r2
  obtain ⟨ts,htl,rfl⟩:=r.strs
  have hlist:s2.heap.IsList a (strValues ((ss.map strV).zip ts)).toArray:=⟨_,eo,rfl,n,by simp [strValues,List.zip_map_left,Function.comp_def]⟩
  rw [n6]
  refine SC.join (texts:=ss.map strV) hlist (by rw [List.map_fst_zip];simp [htl]) ?_ fun t' tk=>?_
  ·unfold JoinOk
   rw [List.foldl_toArray,kq,Nat.zero_add]
   simpa [Builtin.Str.tooLong,sizeLine] using hsz
  ·rw [nA]
   exact Res.tok (s:=s) x2 st2 q tk ⟨t',rfl⟩)) (ag hs)) (ag hs) rfl)))
theorem jq {A:Around} {E:Value→Shared→Prop} {s:Shared} {env:Env} {value:Expr} {attr:Str} {pos:Pos} {Q:Value→Shared→Prop} (hb:a0 value=true)
  (h:wpAny (model W.prog W.w) A (eval value env) (fun o s₁=>wpAny (model W.prog W.w) A (getAttr o attr true) Q E s₁) E s):wpAny (model W.prog W.w) A (eval (.Attribute value attr pos) env) Q E s:=by
 rw [arm_eval_Attribute,cK hb]
 exact wpAny_bind (wpAny_mono h (fun o s₁ h₁=>wpAny_bind (wpAny_standAt (wpAny_bind (wpAny_holding (wpAny_mono h₁ (fun r s₂ h₂=>wpAny_bind (wpAny_letTemporaryGo (wpAny_pure h₂))) fun u0 u0 x=>x))))) fun u0 u0 x=>x)
theorem VR.handed {d v h} (r:VR W h P d v):handedIn v=true:=by
 cases d with
 | nul=>rw [show v=_ from r];rfl
 | bool b=>rw [show v=_ from r];rfl
 | int i=>obtain ⟨t,rfl⟩:=r;rfl
 | str i=>obtain ⟨t,rfl⟩:=r;rfl
 | node k xs=>obtain ⟨a,_,_,rfl,_⟩:=r;rfl
theorem fW {k n:Txt} {t:Tok}:(Value.str (strV k) t).isStr (strV n)=(k == n):=by
 show (strV k == strV n)=_
 rw [eS]
theorem bf.find {es ns vs} (r:bf es ns vs) {n:Txt}:∀ {i:Nat},ns.findIdx? (· == n)=some i→∃ e:DictEntry,es.find? (·.key.isStr (strV n))=some e∧vs[i]? = some e.val:=by
 induction r with
 | nil=>intro i h;exact no1 h
 | @cons e k es ks vs hk _ ih=>
  intro i h
  obtain ⟨t,hk⟩:=hk
  rw [List.findIdx?_cons] at h
  rw [List.find?_cons,hk,fW]
  cases hb:(k == n) with
  | true=>rw [hb] at h;simp at h;subst h;exact ⟨e,rfl,rfl⟩
  | false=>
   rw [hb] at h
   simp only [Bool.false_eq_true,if_false,Option.map_eq_some_iff] at h
   obtain ⟨j,hj,rfl⟩:=h
   exact ih hj
theorem bf.find_none {es ns vs} (r:bf es ns vs) {n:Txt} (h:ns.findIdx? (· == n)=none):es.find? (·.key.isStr (strV n))=none∧es.any (·.refKey)=false:=by
 induction r with
 | nil=>exact ⟨rfl,rfl⟩
 | @cons e k es ks vs hk _ ih=>
  obtain ⟨t,hk⟩:=hk
  rw [List.findIdx?_cons] at h
  cases hb:(k == n) with
  | true=>rw [hb] at h;exact no2 h
  | false=>
   rw [hb] at h
   simp only [Bool.false_eq_true,if_false,Option.map_eq_none_iff] at h
   obtain ⟨a,b⟩:=ih h
   refine ⟨by rw [List.find?_cons,hk,fW,hb];exact a,?_⟩
   rw [List.any_cons,b]
   unfold DictEntry.refKey
   rw [hk];rfl
theorem bf.getL {es ns vs} (r:bf es ns vs) {n:Txt} {i:Nat} {v} (h:ns.findIdx? (· == n)=some i) (hv:vs[i]? = some v):PySem.W.getL (strV n) es=some (some v):=by
 obtain ⟨e,e1,e2⟩:=r.find h
 unfold PySem.W.getL
 refine e1▸?_
 obtain rfl:=geq hv e2;rfl
theorem bf.xF {es ns vs} (r:bf es ns vs) {n:Txt} (h:ns.findIdx? (· == n)=none):PySem.W.getL (strV n) es=some none:=by
 obtain ⟨e1,e2⟩:=r.find_none h
 unfold PySem.W.getL
 refine e1▸?_
 simp [e2]
inductive iR (c:Cx) (x:D) (n:Str) (r:D):Prop
 | mk (cl:Cls) (ns:List Txt) (xs:List D) (i:Nat) (e:x=.node (.ins cl ns) xs) (nm:Txt) (hn:n=strV nm) (hm:nm∈aI cl) (hi:ns.findIdx? (· == nm)=some i) (hx:xs[i]? = some r)
theorem ib {cl ns vs as v i} {a:Addr} {nm:Txt} {n:Str} {Q:Value→Shared→Prop} (ok:aJ c) (w0:W0 c.W c.A s) (kr:KR c.W s.heap (.ins cl ns) a vs as) (hn:n=strV nm) (hm:nm∈aI cl) (hi:ns.findIdx? (· == nm)=some i) (hv:vs[i]? = some v) (hh:handedIn v=true) (q:Q v { s with toks:=s.toks+1 }) :
  wpAny c.M c.A (getAttr (.ref a) n true) Q E s:=by
 obtain ⟨dx,es,m,sl,rfl,eo,ed,fr,_⟩:=kr
 subst hn
 have C:=ok.wok.cls cl
 exact get_value (ok.wok.inb.keeps w0.base) (⟨eo,rfl,rfl,ed⟩:InstAt s.heap a ⟨.ref (c.W.ca cl),some dx,.plain,sl⟩ (c.W.ca cl) (some (dictOf es m))) C.gg (findObj_own C.hd (C.at_ nm hm) rfl (fr.getL hi hv)) hh q
theorem tB {o:Expr} {n:Str} {pos} (hb:a0 o=true) (h:Ev c ρ k l o fun d k'=>∃ r,iR c d n r∧Q r k'):Ev c ρ k l (.Attribute o n pos) Q:=fun ok F s x=>
 jq hb (noE (h ok F s x) fun v s1 zz7=>by
  obtain ⟨d,k1,⟨r,⟨cl,ns,xs,i,e,nm,hn,hm,hi,hx⟩,q⟩,r1,x1,st⟩:=zz7
  subst e
  obtain ⟨a,vs,as,rfl,kr,_,rs⟩:=r1
  obtain ⟨v,hv,rv⟩:=rs.at hx
  exact ib ok x1.w0 kr hn hm hi hv rv.handed (.tok x1 st q _ rv))
theorem VOs.at {h:Heap} {o}:∀ {os vs F} {i:Nat},VOs W h P os vs F→os[i]? = some o→∃ v F',vs[i]? = some v∧VO W h P o v F'∧∀ a∈F',a∈F:=by
 intro os
 induction os with
 | nil=>exact fun u0 h=>wk h
 | cons x os ih=>
  intro vs F i y h
  obtain ⟨v,r,F1,F2,e,a,b,q⟩:=y
  subst e q
  cases i with
  | zero=>exact ⟨v,F1,rfl,Option.some.inj h▸a,fun x hx=>List.mem_append_left _ hx⟩
  | succ i=>
   obtain ⟨v',F',e1,e2,e3⟩:=ih (i:=i) b h
   exact ⟨v',F',e1,e2,fun x hx=>List.mem_append_right _ (e3 x hx)⟩
theorem ny {x n:Str} {i j:Nat} {cl ns xs d pos pos'} {nm:Txt} (hs:aO c x i=true) (hz:ρ[i]? = some (.own (.node (.ins cl ns) xs))) (hn:n=strV nm) (hm:nm∈aI cl) (hi:ns.findIdx? (· == nm)=some j) (hx:xs[j]? = some (.leaf d)) (q:Q d k) :
  Ev c ρ k l (.Attribute (.Name x pos') n pos) Q:=fun ok F s x1=>by
 obtain ⟨h0,h1,h2⟩:=bB hs
 have:=x1.vals x i h0
 rw [hz] at this
 obtain ⟨v,hv,⟨a,vs,as,F',rfl,kr,rs,_⟩,_⟩:=this
 obtain ⟨v,_,hv',⟨rv,_⟩,_⟩:=rs.at hx
 exact jq rfl (wpAny_Name (hv.load ok.env.kind (ib ok x1.w0 kr hn hm hi hv' rv.handed (.tok x1 .refl q _ (rv.mono fun u0=>Cx.S.im))) h1) h2)
theorem tH {x:Str} {v pos d} (hk:c.names.lookup x=some .globalImplicit) (hd:(x == ("__debug__" : Str))=false) (hv:c.W.mg x=some v) (r:VR c.W c.W.base (fun u0=>False) d v) (q:Q d k):Ev c ρ k l (.Name x pos) Q:=fun ok F s x1=>
 Name_function_global ok.env.kind (ok.env.glob x hk) (loadGlobal_global (env:=c.env) (ok.env.globals▸ok.wok.g.keeps x1.w0.base) hv (.tok x1 .refl q s.toks ((r.grow x1.w0.base).mono fun u0 h=>h.elim))) hd
theorem il {x:Str} {i j:Nat} {kk pos pos' pos''} (hs:aO c x i=true) (hz:ρ[i]? = some .pen) (hj:j=0∨j=1) (q:∀ n,(j=1→0≤n∧n≤(k:Int))→Q (.int n) k):Ev c ρ k l (.Subscript (.Name x pos) (.Constant (.int j) kk pos') pos'') Q:=fun ok F s x1=>by
 obtain ⟨h0,h1,h2⟩:=bB hs
 have:=x1.vals x i h0
 rw [hz] at this
 obtain ⟨p,hp,hv⟩:=this
 refine Subscript_ (wpAny_Name (hv.load ok.env.kind (wpAny_Constant_int ?_) h1) h2)
 obtain ⟨n,m,t,u,z,e,m1,m2⟩:=x1.pen p hp
 have hl:({ s with toks:=s.toks+1 }:Shared).heap.IsList p #[.int n t,.int m u]:=⟨_,e,rfl,z,rfl⟩
 rcases hj with rfl | rfl
 ·exact tail_any hl.typeIs slot_list_getitem.lookup (wpAny_getItem_list (x:=.int n t) hl (by decide) (by decide) rfl (.tok x1 .refl (q n (fun h=>by cases h)) _ ⟨t,rfl⟩)) (bX rfl)
 ·exact tail_any hl.typeIs slot_list_getitem.lookup (wpAny_getItem_list (x:=.int m u) hl (by decide) (by decide) rfl (.tok x1 .refl (q m fun u0=>⟨m1,m2⟩) _ ⟨u,rfl⟩)) (bX rfl)
end
end Mine
namespace Mine
open PySem PySem.Calls PyProof.Rows PySem.SeqAt
theorem kG:entryFor table "proto.unchain" = some Builtin.«proto.unchain»:=entryFor_of_tree (by kernel_rfl)
section
variable {W:Wd} {A:Around} {s:Shared} {E:Value→Shared→Prop}
theorem HOK.in1 {h:Heap} (H:HOK W A h):HOK W A.in1 h:=H
theorem HOK.step {h h':Heap} (r:HOK W A h) (k:∀ b o,h.get? b=some o→¬ vc W o.cls→h'.get? b=some o):HOK W A h':=
 ⟨r.1,r.2.imp id fun zz0=>by obtain ⟨e,o,vs,a,b,c1,c2,c3⟩:=zz0;exact ⟨e,o,vs,a,k _ _ b c3,c1,c2,c3⟩⟩
theorem l6 {α:Type} {a:Addr} {Q:α→Shared→Prop} {o:Obj} {vs} (H:HOK W A s.heap) (ho:s.heap.get? a=some o) (hd:o.data=.fields vs) (h2:2 < vs.size) (hne:∀ e,A.handled=some (.ref e)→e≠a)
  (h:∀ h',Heap.SameBut a s.heap h'→(∃ o',h'.get? a=some o'∧o'.cls=o.cls)→E (.ref a) { s with heap:=h' }) :
  wpAny (model W.prog W.w) A (raiseNew (.ref a):Sem α) Q E s:=by
 unfold raiseNew
 refine wpAny_bind (wpAny_handled ?_)
 rcases H.2 with H | ⟨e,oe,ws,h1,he,hf,hw,_⟩
 ·rw [H];exact wpAny_bind (wpAny_pure (wpAny_throw (h s.heap (Heap.SameBut.refl ..) ⟨o,ho,rfl⟩)))
 ·rw [h1]
  have hea:(Value.ref e != Value.ref a)=true:=by
   have:=hne e h1
   simp only [bne_iff_ne,ne_eq,Value.ref.injEq]
   exact this
  dsimp only
  rw [if_pos hea]
  refine wpAny_bind (wpAny_holding (wpAny_runValue (codeAny_builtin kG ?_)))
  unfold Builtin.«proto.unchain»
  refine wpAny_bind (wpAny_field he hf (x:=.none) hw ?_)
  show wpAny _ _ (ret .none) _ _ _
  refine wpAny_pure ?_
  refine wpAny_bind (wpAny_setField ho hd h2 (wpAny_throw (h _ (Heap.SameBut.update ..) ⟨_,Heap.get?_update_self _ ho ?_,?_⟩)))
  ·exact Obj.isFreed_of_fields (Obj.data_mapFields hd _)
  ·exact Obj.cls_mapFields ..
theorem eI {α:Type} {Q:α→Shared→Prop} (H:HOK W A s.heap) (h:∀ a h',(∀ b o,s.heap.get? b=some o→h'.get? b=some o)→(∃ o,h'.get? a=some o∧o.cls=.type "StopIteration")→E (.ref a) { s with heap:=h' }) :
  wpAny (model W.prog W.w) A (newExc (.type "StopIteration") [] >>= fun e=>(raiseNew e:Sem α)) Q E s:=by
 refine wpAny_bind ?_
 simp only [newExc,newTuple]
 refine wpAny_bind (wpAny_newObj_type ?_ (by size_fits))
 refine wpAny_bind (m:=firstArgMember _ _) (wpAny_of_eq (a:=Value.none) (by first | rfl | (simp only [firstArgMember];rfl)) ?_)
 refine wpAny_newObj_type ?_ (by size_fits)
 have k1:∀ b o,s.heap.get? b=some o→((s.heap.push { cls:=.type "tuple",data:=.seq ([]:List Value).toArray }).push
   { cls:=.type "StopIteration",data:=.fields (#[Value.ref s.heap.objs.size,.none,.none,.none,.bool false,.none]++ownMembersOf (.type "StopIteration") []) }).get? b=some o:=fun b o e=>Heap.get?_push_of_some _ (Heap.get?_push_of_some _ e)
 have hz:(s.heap.push { cls:=.type "tuple",data:=.seq ([]:List Value).toArray }).objs.size=s.heap.objs.size+1:=by rw [Heap.size_push]
 refine l6 (H.step fun b o e u0=>k1 b o e) (Heap.get?_push_size _ rfl) rfl (by simp;lia) (fun e he q=>?_) fun h' hs ho=>?_
 ·rcases H.2 with H | ⟨e',oe,ws,h1,h2,_⟩
  ·exact gno H he
  ·have z:=Eq.trans (Eq.symm h1) he;have z0:=Option.some.inj z;injection z0 with z1a;try subst z1a
   have:=Heap.lt_size h2
   rw [q,hz] at this;exact Nat.not_lt_of_le (Nat.le_succ _) this
 ·obtain ⟨o',e1,e2⟩:=ho
  refine h _ h' (fun b o e=>?_) ⟨o',e1,e2⟩
  rw [hs.2 b ?_]
  ·exact k1 b o e
  ·intro q
   have:=Heap.lt_size e
   rw [q,hz] at this;exact Nat.not_lt_of_le (Nat.le_succ _) this
end
inductive Upd (wr:List Addr) (s s':Shared):Prop
 | mk (h':Heap) (t:Nat) (e:s'={ s with heap:=h',toks:=t }) (k:be (·∉wr) s.heap h')
theorem Upd.refl {wr s}:Upd wr s s:=⟨s.heap,s.toks,rfl,fun u0 u0 e u0=>e⟩
theorem Upd.xl {wr s s'} (x:Upd wr s s'):be (·∉wr) s.heap s'.heap:=by obtain ⟨h,t,rfl,k⟩:=x;exact k
theorem Upd.mono {wr wr' s s'} (x:Upd wr s s') (h:∀ a∈wr,a∈wr'):Upd wr' s s':=by
 obtain ⟨h',t,rfl,k⟩:=x
 exact ⟨h',t,rfl,fun b o e c=>k b o e (c.imp (fun q z=>q (h _ z)) id)⟩
noncomputable def cV (e:Expr):Bool:=Nat.beq e.ctorIdx 25
section
variable {W:Wd} {A:Around} {s:Shared} {E:Value→Shared→Prop}
theorem qC {a:Addr} {s:Shared} {h':Heap} {t:Nat} (hs:Heap.SameBut a s.heap h') (ho:∃ o,s.heap.get? a=some o∧o.cls≠.type "tuple"):Upd [a] s { s with heap:=h',toks:=t }:=
 ⟨h',t,rfl,fun b o e c=>gU hs ho b o e (c.imp (fun q z=>q (by simp [z])) id)⟩
theorem HOK.upd {a:Addr} {h h':Heap} (H:HOK W A h) (hs:Heap.SameBut a h h') {o:Obj} {vs} (ho:h.get? a=some o) (hd:o.data=.fields vs) (h2:vs[2]?≠some .none):HOK W A h':=by
 refine ⟨H.1,H.2.imp id fun ⟨e,oe,ws,a1,a2,a3,a4,a5⟩=>⟨e,oe,ws,a1,(hs.2 e ?_).trans a2,a3,a4,a5⟩⟩
 rintro rfl
 obtain rfl:=geq ho a2
 have z:=Eq.trans (Eq.symm hd) a3;injection z with z0a;try subst z0a
 exact h2 a4
theorem kB {it l:Addr} {i:Nat} {items} {Q:Option Value→Shared→Prop} (H:HOK W A s.heap)
  (hit:s.heap.IsListIter it l i) (hl:s.heap.IsList l items) (hx:items[i]? = none)
  (hQ:∀ h',(∀ b o,b≠it→s.heap.get? b=some o→h'.get? b=some o)→Q none { s with heap:=h' }):wpAny (model W.prog W.w) A (pyNext (.ref it)) Q E s:=by
 obtain ⟨o,ho,hc,hd⟩:=id hit
 obtain ⟨ol,hol,_,nl,hdl⟩:=hl
 unfold pyNext
 refine wpAny_bind (wpAny_attempt (wpAny_callSpecial?_slot (name:=Str.ofString "__next__") hit.typeIs slot_listiter_next
  (wpAny_call_entry slot_listiter_next hit.typeIs entry_listiter_next ?_ (args_listiter_next _))))
 show wpAny _ _ (field (.ref it) 0 >>= _) _ _ s
 refine wpAny_bind (wpAny_field ho hd (x:=.ref l) rfl ?_)
 show wpAny _ _ (if (Value.ref l == Value.none)=true then _ else _) _ _ s
 rw [if_neg (show ¬ ((Value.ref l == Value.none)=true) from Bool.false_ne_true)]
 show wpAny _ _ (field (.ref it) 1 >>= _) _ _ s
 refine wpAny_bind (wpAny_field ho hd (x:=.int i 0) rfl ?_)
 show wpAny _ _ (seqItems? (.ref l) >>= _) _ _ s
 refine wpAny_bind (wpAny_seqItems hol hdl ?_)
 simp only [Int.toNat_natCast,hx]
 refine wpAny_bind (wpAny_rule (wpAny_bind (wpAny_setField ho hd (by simp) ?_)))
 refine eI (W:=W) (H.in1.upd (Heap.SameBut.update ..) ho hd (by simp)) fun a h' hk hs=>?_
 obtain ⟨o',e1,e2⟩:=hs
 refine wpAny_bind (wpAny_isInstance (T:="StopIteration") (b:=true) ⟨o',e1,e2⟩ isSubtype_stop ?_)
 exact wpAny_pure (hQ _ fun b o hb e=>hk b o (((Heap.SameBut.update ..).2 b hb).trans e))
theorem iS {it t:Addr} {i:Nat} {items} {Q:Option Value→Shared→Prop} (H:HOK W A s.heap)
  (hit:s.heap.IsTupleIter it t i) (ht:s.heap.IsTuple t items) (hx:items[i]? = none)
  (hQ:∀ h',(∀ b o,b≠it→s.heap.get? b=some o→h'.get? b=some o)→Q none { s with heap:=h' }):wpAny (model W.prog W.w) A (pyNext (.ref it)) Q E s:=by
 obtain ⟨o,ho,hc,hd⟩:=id hit
 obtain ⟨ol,hol,_,nl,hdl⟩:=ht
 unfold pyNext
 refine wpAny_bind (wpAny_attempt (wpAny_callSpecial?_slot (name:=Str.ofString "__next__") hit.typeIs slot_tupleiter_next
  (wpAny_call_entry slot_tupleiter_next hit.typeIs entry_tupleiter_next ?_ (args_tupleiter_next _))))
 show wpAny _ _ (field (.ref it) 0 >>= _) _ _ s
 refine wpAny_bind (wpAny_field ho hd (x:=.ref t) rfl ?_)
 show wpAny _ _ (if (Value.ref t == Value.none)=true then _ else _) _ _ s
 rw [if_neg (show ¬ ((Value.ref t == Value.none)=true) from Bool.false_ne_true)]
 show wpAny _ _ (field (.ref it) 1 >>= _) _ _ s
 refine wpAny_bind (wpAny_field ho hd (x:=.int i 0) rfl ?_)
 show wpAny _ _ (seqItems? (.ref t) >>= _) _ _ s
 refine wpAny_bind (wpAny_seqItems hol hdl ?_)
 simp only [Int.toNat_natCast,hx]
 refine wpAny_bind (wpAny_rule (wpAny_bind (wpAny_setField ho hd (by simp) ?_)))
 refine eI (W:=W) (H.in1.upd (Heap.SameBut.update ..) ho hd (by simp)) fun a h' hk hs=>?_
 obtain ⟨o',e1,e2⟩:=hs
 refine wpAny_bind (wpAny_isInstance (T:="StopIteration") (b:=true) ⟨o',e1,e2⟩ isSubtype_stop ?_)
 exact wpAny_pure (hQ _ fun b o hb e=>hk b o (((Heap.SameBut.update ..).2 b hb).trans e))
theorem jc {it:Addr} {x left step:Int} {Q:Option Value→Shared→Prop} (H:HOK W A s.heap) (hit:IsRangeIter s.heap it x left step) (hleft:left≤0)
  (hQ:∀ h',(∀ b o,b≠it→s.heap.get? b=some o→h'.get? b=some o)→Q none { s with heap:=h' }):wpAny (model W.prog W.w) A (pyNext (.ref it)) Q E s:=by
 have hT:s.TypeIs (.ref it) "range_iterator":=⟨_,hit,rfl⟩
 unfold pyNext
 refine wpAny_bind (wpAny_attempt (wpAny_callSpecial?_slot (name:=Str.ofString "__next__") hT F.slot_range_iterator_next
  (wpAny_call_entry F.slot_range_iterator_next hT F.entry_range_iterator_next ?_ (F.args_range_iterator_next_1 _))))
 show wpAny _ _ (field (.ref it) 0 >>= _) _ _ s
 refine wpAny_bind (wpAny_field hit rfl (x:=rawInt x) rfl ?_)
 show wpAny _ _ (field (.ref it) 1 >>= _) _ _ s
 refine wpAny_bind (wpAny_field hit rfl (x:=rawInt left) rfl ?_)
 show wpAny _ _ (field (.ref it) 2 >>= _) _ _ s
 refine wpAny_bind (wpAny_field hit rfl (x:=rawInt step) rfl ?_)
 show wpAny _ _ (if left≤0 then _ else _) _ _ s
 rw [if_pos hleft]
 refine wpAny_bind (wpAny_rule ?_)
 refine wpAny_bind ?_
 refine eI (W:=W) H.in1 fun a h' hk hs=>?_
 obtain ⟨o',e1,e2⟩:=hs
 refine wpAny_bind (wpAny_isInstance (T:="StopIteration") (b:=true) ⟨o',e1,e2⟩ isSubtype_stop ?_)
 exact wpAny_pure (hQ _ fun b o hb e=>hk b o e)
theorem iK {d:Addr} {es:List DictEntry} {m:Nat} {Q:Value→Shared→Prop} (hd:(d == sysModules)=false) (ho:s.heap.get? d=some (bH es m))
  (hQ:Q (.ref s.heap.objs.size) { s with heap:=s.heap.push { cls:=.type "dict_keyiterator",data:=.fields #[.ref d,.int 0 0,.int es.length 0,.int m 0] } }) :
  wpAny (model W.prog W.w) A (pyIter (.ref d)) Q E s:=by
 have hT:s.TypeIs (.ref d) "dict":=aA ho
 refine wpAny_pyIter_slot hT F.slot_dict_iter (wpAny_call_entry F.slot_dict_iter hT F.entry_dict_iter ?_ (F.args_dict_iter_1 _))
 unfold Builtin.«dict.__iter__»
 refine wpAny_bind ?_
 unfold Builtin.Dict.dictSlotNone
 refine wpAny_bind (wpAny_notOrdered_dict hT ?_)
 show wpAny _ _ (pure (Value.ref d)) _ _ s
 refine wpAny_pure ?_
 show wpAny _ _ (Builtin.Dict.showsAll d >>= _) _ _ s
 unfold Builtin.Dict.showsAll
 rw [if_neg (by rw [hd];exact Bool.false_ne_true)]
 refine wpAny_bind (wpAny_pure ?_)
 refine wpAny_bind (wpAny_dictEntries ho rfl ?_)
 refine wpAny_bind (wpAny_dictEpoch ho rfl ?_)
 refine wpAny_bind (wpAny_newObj_type (wpAny_pure ⟨_,rfl,"dict_keyiterator",_,⟨_,Heap.get?_push_size _ rfl,rfl⟩,F.slot_dict_keyiterator_next.lookup,?_⟩))
 simpa [rawInt] using hQ
theorem ez {it d:Addr} {i:Nat} {es:List DictEntry} {m:Nat} {en:DictEntry} {Q:Option Value→Shared→Prop} (hit:s.heap.IsKeyIter it d i es.length m)
  (hod:s.heap.get? d=some (bH es m)) (hx:es[i]? = some en)
  (hQ:∀ h',h'.IsKeyIter it d (i+1) es.length m→Heap.SameBut it s.heap h'→Q (some en.key) { s with heap:=h' }) :
  wpAny (model W.prog W.w) A (pyNext (.ref it)) Q E s:=by
 obtain ⟨o,ho,hc,hd⟩:=id hit
 unfold pyNext
 refine wpAny_bind (wpAny_attempt (wpAny_callSpecial?_slot (name:=Str.ofString "__next__") hit.typeIs F.slot_dict_keyiterator_next
  (wpAny_call_entry F.slot_dict_keyiterator_next hit.typeIs F.entry_dict_keyiterator_next ?_ (F.args_dict_keyiterator_next_1 _))))
 refine wpAny_bind (wpAny_pure ?_)
 refine wpAny_bind ?_
 refine wpAny_bind ?_
 first | refine wpAny_bind (wpAny_typeNameOfWhole_keyiter hit.typeIs (wpAny_pure ?_)) | refine wpAny_bind (wpAny_typeNameOf_keyiter hit.typeIs (wpAny_pure ?_))
 refine wpAny_bind (wpAny_fieldsOf ho hd ?_)
 show wpAny _ _ (if (Value.ref d == Value.none)=true then _ else _) _ _ s
 rw [if_neg (show ¬ ((Value.ref d == Value.none)=true) from Bool.false_ne_true)]
 refine wpAny_bind (wpAny_pure ?_)
 refine wpAny_bind (wpAny_dictEntries hod rfl ?_)
 rw [if_neg (by simp)]
 refine wpAny_bind (wpAny_pure ?_)
 refine wpAny_bind (wpAny_dictEpoch hod rfl ?_)
 rw [if_neg (by simp)]
 refine wpAny_pure ?_
 dsimp only
 rw [show (if (i:Int) < 0 then none else es.toArray[(i:Int).toNat]?)=some en by rw [if_neg (Int.not_lt.mpr (Int.natCast_nonneg i)),Int.toNat_natCast,List.getElem?_toArray,hx]]
 refine wpAny_bind ?_
 first | refine wpAny_bind (wpAny_typeNameOfWhole_keyiter hit.typeIs (wpAny_pure ?_)) | refine wpAny_bind (wpAny_typeNameOf_keyiter hit.typeIs (wpAny_pure ?_))
 refine wpAny_bind (wpAny_isOneOf_keyiter hit.typeIs ?_)
 show wpAny _ _ (setField (.ref it) 1 (rawInt ((i:Int)+1)) >>= _) _ _ s
 refine wpAny_bind (wpAny_setField ho hd (by simp) ?_)
 have hit':(s.heap.update it (Obj.mapFields (·.setIfInBounds 1 (rawInt ((i:Int)+1))))).IsKeyIter it d (i+1) es.length m:=
  ⟨_,Heap.get?_update_self _ ho (Obj.isFreed_of_fields (Obj.data_mapFields hd _)),(Obj.cls_mapFields ..).trans hc,by rw [Obj.data_mapFields hd];simp [rawInt]⟩
 refine wpAny_bind (wpAny_holding ?_)
 refine wpAny_bind (wpAny_isOneOf_keyiter (s:={ s with heap:=s.heap.update it (Obj.mapFields (·.setIfInBounds 1 (rawInt ((i:Int)+1)))) }) hit'.typeIs ?_)
 show wpAny _ _ (pure en.key) _ _ _
 exact wpAny_pure (wpAny_pure ⟨_,rfl,wpAny_pure (hQ _ hit' (Heap.SameBut.update ..))⟩)
theorem fV {it d:Addr} {i:Nat} {es:List DictEntry} {m:Nat} {Q:Option Value→Shared→Prop} (H:HOK W A s.heap) (hit:s.heap.IsKeyIter it d i es.length m)
  (hod:s.heap.get? d=some (bH es m)) (hx:es[i]? = none)
  (hQ:∀ h',(∀ b o,b≠it→s.heap.get? b=some o→h'.get? b=some o)→Q none { s with heap:=h' }):wpAny (model W.prog W.w) A (pyNext (.ref it)) Q E s:=by
 obtain ⟨o,ho,hc,hd⟩:=id hit
 unfold pyNext
 refine wpAny_bind (wpAny_attempt (wpAny_callSpecial?_slot (name:=Str.ofString "__next__") hit.typeIs F.slot_dict_keyiterator_next
  (wpAny_call_entry F.slot_dict_keyiterator_next hit.typeIs F.entry_dict_keyiterator_next ?_ (F.args_dict_keyiterator_next_1 _))))
 refine wpAny_bind (wpAny_pure ?_)
 refine wpAny_bind ?_
 refine wpAny_bind ?_
 first | refine wpAny_bind (wpAny_typeNameOfWhole_keyiter hit.typeIs (wpAny_pure ?_)) | refine wpAny_bind (wpAny_typeNameOf_keyiter hit.typeIs (wpAny_pure ?_))
 refine wpAny_bind (wpAny_fieldsOf ho hd ?_)
 show wpAny _ _ (if (Value.ref d == Value.none)=true then _ else _) _ _ s
 rw [if_neg (show ¬ ((Value.ref d == Value.none)=true) from Bool.false_ne_true)]
 refine wpAny_bind (wpAny_pure ?_)
 refine wpAny_bind (wpAny_dictEntries hod rfl ?_)
 rw [if_neg (by simp)]
 refine wpAny_bind (wpAny_pure ?_)
 refine wpAny_bind (wpAny_dictEpoch hod rfl ?_)
 rw [if_neg (by simp)]
 refine wpAny_pure ?_
 dsimp only
 rw [show (if (i:Int) < 0 then none else es.toArray[(i:Int).toNat]?)=none by rw [if_neg (Int.not_lt.mpr (Int.natCast_nonneg i)),Int.toNat_natCast,List.getElem?_toArray,hx]]
 refine wpAny_bind ?_
 first | refine wpAny_bind (wpAny_typeNameOfWhole_keyiter hit.typeIs (wpAny_pure ?_)) | refine wpAny_bind (wpAny_typeNameOf_keyiter hit.typeIs (wpAny_pure ?_))
 show wpAny _ _ (setField (.ref it) 0 .none >>= _) _ _ s
 refine wpAny_bind (wpAny_setField ho hd (by simp) ?_)
 refine eI (W:=W) (H.in1.upd (Heap.SameBut.update ..) ho hd (by simp)) fun a h' hk hs=>?_
 obtain ⟨o',e1,e2⟩:=hs
 refine wpAny_bind (wpAny_isInstance (T:="StopIteration") (b:=true) ⟨o',e1,e2⟩ isSubtype_stop ?_)
 exact wpAny_pure (hQ _ fun b o hb e=>hk b o (((Heap.SameBut.update ..).2 b hb).trans e))
theorem iv {Q:Unit→Shared→Prop} {target:Expr} {I:Addr} {v:Value} (h:Q () s) (hT:∀ a,wpAny (model W.prog W.w) A (letOwnedTupleGo (.Tuple [] 0 default) (.ref I) (.ref a)) Q E s):wpAny (model W.prog W.w) A (letOwnedTupleGo target (.ref I) v) Q E s:=by
 cases target with
 | Tuple=>cases v with
  | ref a=>exact hT a
  | _=>exact wpAny_pure h
 | List=>cases v with
  | ref a=>exact hT a
  | _=>exact wpAny_pure h
 | _=>exact wpAny_pure h
theorem mT {Q:Unit→Shared→Prop} {target:Expr} {I:Addr} {v:Value} {x l st:Int} (hit:IsRangeIter s.heap I x l st) (h:Q () s):wpAny (model W.prog W.w) A (letOwnedTupleGo target (.ref I) v) Q E s:=by
 exact iv h fun a=>wpAny_bind (wpAny_load hit (wpAny_pure h))
end
end Mine
namespace Mine
open PySem PySem.Calls PyProof.Rows PySem.SeqAt
theorem kD:Slot "reversed" "__init__" "object.__init__":=
 .of (owner:="object") (n:="__init__") (by rw [typeLookup_type,builtinLookup_eq_fast];kernel_rfl) (by decide +kernel) (by decide +kernel) (by decide +kernel)
  (by first | exact .inl (by decide +kernel) | exact .inr (by decide +kernel)) (by rw [isSubtype_type];kernel_rfl)
theorem iP:TypeCalled "reversed" "reversed.__new__" "object.__init__":=
 ⟨by decide +kernel,by decide +kernel,⟨_,_,F.mro_reversed⟩,madeBy_type F.mro_reversed F.lookup_reversed_new (by decide +kernel),by decide +kernel,by rw [isSubtype_type];kernel_rfl,kD⟩
theorem aW:Slot "reversed" "__next__" "reversed.__next__":=
 .of (owner:="reversed") (n:="__next__") (by rw [typeLookup_type,builtinLookup_eq_fast];kernel_rfl) (by decide +kernel) (by decide +kernel) (by decide +kernel)
  (by first | exact .inl (by decide +kernel) | exact .inr (by decide +kernel)) (by rw [isSubtype_type];kernel_rfl)
theorem cJ:entryFor table "reversed.__next__" = some Builtin.«reversed.__next__»:=entryFor_of_tree (by kernel_rfl)
theorem c0:Slot "reversed" "__iter__" "reversed.__iter__":=
 .of (owner:="reversed") (n:="__iter__") (by rw [typeLookup_type,builtinLookup_eq_fast];kernel_rfl) (by decide +kernel) (by decide +kernel) (by decide +kernel)
  (by first | exact .inl (by decide +kernel) | exact .inr (by decide +kernel)) (by rw [isSubtype_type];kernel_rfl)
theorem fM:entryFor table "reversed.__iter__" = some Builtin.«dict_keyiterator.__iter__»:=
 entryFor_alias (id':="dict_keyiterator.__iter__") (by kernel_rfl) (by first | rfl | decide +kernel | (unfold String.splitOn;simp +decide [String.splitOnAux])) (by decide +kernel) (by kernel_rfl)
theorem eA:Manifest.owners.lookup (String.ofList ['d','e','s','r','e','v','e','r'].reverse)=some Manifest.sig_reversed:=by kernel_rfl
theorem da (a:Value):argsOk "reversed.__next__" ⟨[a],[]⟩:=by
 unfold argsOk;rw [signature?_of (id:="reversed.__next__") (n:=['_','_','t','x','e','n','_','_']) (o:=['d','e','s','r','e','v','e','r']) (by kernel_rfl) eA];kernel_rfl
theorem fZ (a:Value):argsOk "reversed.__iter__" ⟨[a],[]⟩:=by
 unfold argsOk;rw [signature?_of (id:="reversed.__iter__") (n:=['_','_','r','e','t','i','_','_']) (o:=['d','e','s','r','e','v','e','r']) (by kernel_rfl) eA];kernel_rfl
theorem g7:typeLookup (.type "tuple") "__reversed__" = pure none:=by rw [typeLookup_type,builtinLookup_eq_fast];kernel_rfl
theorem jG:isSubtype (.type "tuple") (.type "dict")=pure false:=by rw [isSubtype_type];kernel_rfl
noncomputable def jK (t:Addr) (i:Int):Obj:={ cls:=.type "reversed",data:=.fields #[.ref t,rawInt i] }
section
variable {prog:Program} {w:World} {A:Around} {E:Value→Shared→Prop} {s:Shared}
theorem k9 {α:Type} {Q:α→Shared→Prop} (hh:A.handled=none) (h:∀ a h',(∀ b o,s.heap.get? b=some o→h'.get? b=some o)→(∃ o,h'.get? a=some o∧o.cls=.type "StopIteration")→E (.ref a) { s with heap:=h' }) :
  wpAny (model prog w) A (newExc (.type "StopIteration") [] >>= fun e=>(raiseNew e:Sem α)) Q E s:=by
 refine wpAny_bind ?_
 unfold newExc newTuple
 refine wpAny_bind (wpAny_newObj_type ?_ (by size_fits))
 refine wpAny_bind (m:=firstArgMember _ _) (wpAny_of_eq (a:=Value.none) rfl ?_)
 refine wpAny_newObj_type ?_ (by size_fits)
 unfold raiseNew
 refine wpAny_bind (wpAny_handled ?_)
 rw [hh]
 exact wpAny_bind (wpAny_pure (wpAny_throw (h _ _ (fun b o e=>Heap.get?_push_of_some _ (Heap.get?_push_of_some _ e)) ⟨_,Heap.get?_push_size _ rfl,rfl⟩)))
theorem f5 {t:Addr} {items:Array Value} {Q:Fin→Shared→Prop} (ht:IsTup s.heap t items) (hfit:(items.size:Int) < 2 ^ 63)
  (h:Q (.done (.ret (.ref s.heap.objs.size))) { s with heap:=s.heap.push (jK t ((items.size:Int) - 1)),toks:=s.toks+1+1 }) :
  wpAny (model prog w) A (Builtin.«reversed.__new__» ⟨[.type "reversed",.ref t],[]⟩) Q E s:=by
 unfold Builtin.«reversed.__new__»
 refine wpAny_bind (wpAny_of_eq (newClass_reversed _) ?_)
 try dsimp only
 refine wpAny_bind (wpAny_of_eq (a:=()) (by first | rfl | kernel_rfl) ?_)
 refine wpAny_bind (wpAny_of_eq (a:=()) (by first | rfl | kernel_rfl) ?_)
 try dsimp only
 refine wpAny_bind (wpAny_specialOf ht.typeIs g7 ?_)
 try dsimp only
 show wpAny _ _ ((isInstance (.ref t) (.type "dict") >>= _) >>= _) _ _ s
 refine wpAny_bind (wpAny_bind (wpAny_isInstance ht.typeIs jG ?_))
 rw [if_neg Bool.false_ne_true]
 refine wpAny_bind (wpAny_specialOf ht.typeIs slot_tuple_getitem.lookup ?_)
 try dsimp only
 rw [if_pos (by decide)]
 refine wpAny_pure ?_
 rw [if_neg (show ¬ (!true)=true from Bool.false_ne_true)]
 refine wpAny_bind (len_tuple ht hfit ?_)
 refine wpAny_bind (wpAny_of_eq (a:=some (items.size:Int)) (by first | rfl | kernel_rfl) ?_)
 try dsimp only
 refine wpAny_bind ?_
 show wpAny _ _ (newObj (.type "reversed") (.fields #[.ref t,rawInt ((items.size:Int) - 1)])) _ _ _
 exact wpAny_newObj_type (wpAny_pure h) (by size_fits)
theorem fH {t:Addr} {items:Array Value} {Q:Value→Shared→Prop} (ht:IsTup s.heap t items) (hfit:(items.size:Int) < 2 ^ 63)
  (h:Q (.ref s.heap.objs.size) { s with heap:=s.heap.push (jK t ((items.size:Int) - 1)),toks:=s.toks+1+1 }) :
  wpAny (model prog w) A (call (.type "reversed") [.ref t]) Q E s:=by
 refine callType_new iP (by decide) (F.typeCall_reversed_1 _) (F.newCall_reversed_1 _) (fun obj=>F.args_object_init_2 obj _) F.entry_reversed_new
  (S:=fun A R s=>IsTup s.heap t items∧R (.ok (.ret (.ref s.heap.objs.size))) { s with heap:=s.heap.push (jK t ((items.size:Int) - 1)),toks:=s.toks+1+1 }) ?_ ⟨ht,?_⟩
 ·exact .of_wp fun prog w A R s yq0=>by obtain ⟨h1,h2⟩:=yq0;exact f5 h1 hfit ⟨_,rfl,h2⟩
 ·exact ⟨⟨_,Heap.get?_push_size _ rfl,rfl⟩,h⟩
theorem iO {I t:Addr} {i:Int} {Q:Value→Shared→Prop} (hit:s.heap.get? I=some (jK t i)) (h:Q (.ref I) s):wpAny (model prog w) A (pyIter (.ref I)) Q E s:=by
 have hT:s.TypeIs (.ref I) "reversed":=⟨_,hit,rfl⟩
 refine wpAny_pyIter_slot hT c0 (wpAny_call_entry c0 hT fM ?_ (fZ _))
 show wpAny _ _ (ret (.ref I)) _ _ s
 exact wpAny_pure ⟨_,rfl,"reversed",_,hT,aW.lookup,h⟩
theorem kj {I t:Addr} {i:Nat} {items:Array Value} {x:Value} {Q:Option Value→Shared→Prop} (hit:s.heap.get? I=some (jK t (i:Int))) (ht:IsTup s.heap t items) (hx:items[i]? = some x) (hi:i < 2 ^ 62)
  (hQ:∀ h',h'.get? I=some (jK t ((i:Int) - 1))→Heap.SameBut I s.heap h'→Q (some x) { s with heap:=h',toks:=s.toks+1 }):wpAny (model prog w) A (pyNext (.ref I)) Q E s:=by
 have hT:s.TypeIs (.ref I) "reversed":=⟨_,hit,rfl⟩
 unfold pyNext
 refine wpAny_bind (wpAny_attempt (wpAny_callSpecial?_slot (name:=Str.ofString "__next__") hT aW
  (wpAny_call_entry aW hT cJ ?_ (da _))))
 unfold Builtin.«reversed.__next__»
 refine wpAny_bind (wpAny_of_eq (a:=(Value.ref I,[])) rfl ?_)
 try dsimp only
 refine wpAny_bind (wpAny_field hit rfl (x:=.ref t) rfl ?_)
 refine wpAny_bind (wpAny_field hit rfl (x:=rawInt (i:Int)) rfl ?_)
 show wpAny _ _ (if (i:Int) < 0 then _ else _) _ _ s
 rw [if_neg (by lia)]
 refine wpAny_bind (wpAny_specialOf ht.typeIs slot_tuple_getitem.lookup ?_)
 try dsimp only
 rw [if_neg (by simp)]
 refine wpAny_bind (wpAny_mkInt ?_)
 have hlt:=(Array.getElem?_eq_some_iff.mp hx).1
 refine wpAny_bind (wpAny_attempt (getItem_tuple (x:=x) ht (by lia) (by lia) (gF (by simpa using hlt)) (by simpa using hx) ?_))
 try dsimp only
 refine wpAny_bind (wpAny_field (s:={ s with toks:=s.toks+1 }) hit rfl (x:=rawInt (i:Int)) rfl ?_)
 try dsimp only
 refine wpAny_bind (wpAny_setField (s:={ s with toks:=s.toks+1 }) hit rfl (by simp) (wpAny_pure ⟨x,rfl,wpAny_pure (hQ _ ?_ (Heap.SameBut.update ..))⟩))
 rw [Heap.get?_update_self _ hit rfl]
 simp [jK,Obj.mapFields]
theorem kA {I t:Addr} {Q:Option Value→Shared→Prop} (hh:A.handled=none) (hit:s.heap.get? I=some (jK t (-1)))
  (hQ:∀ h',(∀ b o,b≠I→s.heap.get? b=some o→h'.get? b=some o)→Q none { s with heap:=h' }):wpAny (model prog w) A (pyNext (.ref I)) Q E s:=by
 have hT:s.TypeIs (.ref I) "reversed":=⟨_,hit,rfl⟩
 unfold pyNext
 refine wpAny_bind (wpAny_attempt (wpAny_callSpecial?_slot (name:=Str.ofString "__next__") hT aW
  (wpAny_call_entry aW hT cJ ?_ (da _))))
 unfold Builtin.«reversed.__next__»
 refine wpAny_bind (wpAny_of_eq (a:=(Value.ref I,[])) rfl ?_)
 try dsimp only
 refine wpAny_bind (wpAny_field hit rfl (x:=.ref t) rfl ?_)
 refine wpAny_bind (wpAny_field hit rfl (x:=rawInt (-1)) rfl ?_)
 show wpAny _ _ (if (-1:Int) < 0 then _ else _) _ _ s
 rw [if_pos (by decide)]
 refine wpAny_bind (wpAny_rule ?_)
 show wpAny _ _ ((setField (.ref I) 1 (rawInt (-1)) >>= fun u0=>setField (.ref I) 0 .none) >>= _) _ _ s
 have h1:(s.heap.update I (Obj.mapFields (·.setIfInBounds 1 (rawInt (-1))))).get? I=some _:=Heap.get?_update_self _ hit rfl
 refine wpAny_bind (wpAny_bind (wpAny_setField hit rfl (by simp) (wpAny_setField (s:={ s with heap:=s.heap.update I (Obj.mapFields (·.setIfInBounds 1 (rawInt (-1)))) }) h1 (by rfl) (by simp) ?_)))
 refine wpAny_bind ?_
 refine k9 hh fun a h' hk hs=>?_
 obtain ⟨o',e1,e2⟩:=hs
 refine wpAny_bind (wpAny_isInstance (T:="StopIteration") (b:=true) ⟨o',e1,e2⟩ isSubtype_stop ?_)
 exact wpAny_pure (hQ _ fun b o hb e=>hk b o (((Heap.SameBut.update ..).2 b hb).trans (((Heap.SameBut.update ..).2 b hb).trans e)))
end
end Mine
namespace Mine
open PySem PySem.Calls PyProof.Rows PySem.SeqAt Builtin Builtin.Str
open AutoSeq1 (wpAny_loadPart')
section
variable {prog:Program} {w:World} {A:Around} {E:Value→Shared→Prop} {s:Shared}
theorem dE {it l:Addr} {i:Nat} {items} {x:Value} {Q:Value→Shared→Prop} (hit:s.heap.IsTupleIter it l i)
  (hl:s.heap.IsTuple l items) (hx:items[i]? = some x)
  (hQ:∀ h',h'.IsTupleIter it l (i+1)→Heap.SameBut it s.heap h'→Q x { s with heap:=h' }) :
  wpAny (model prog w) A (Builtin.SmallTypes.nextOf (.ref it)) Q E s:=by
 obtain ⟨o,ho,hc,hd⟩:=id hit
 obtain ⟨ol,hol,_,nl,hdl⟩:=hl
 unfold Builtin.SmallTypes.nextOf
 refine wpAny_bind (wpAny_callSpecial?_slot (name:=Str.ofString "__next__") hit.typeIs slot_tupleiter_next
  (wpAny_call_entry slot_tupleiter_next hit.typeIs entry_tupleiter_next ?_ (args_tupleiter_next _)))
 show wpAny _ _ (field (.ref it) 0 >>= _) _ _ s
 refine wpAny_bind (wpAny_field ho hd (x:=.ref l) rfl ?_)
 show wpAny _ _ (if (Value.ref l == Value.none)=true then _ else _) _ _ s
 rw [if_neg (show ¬ ((Value.ref l == Value.none)=true) from Bool.false_ne_true)]
 show wpAny _ _ (field (.ref it) 1 >>= _) _ _ s
 refine wpAny_bind (wpAny_field ho hd (x:=.int i 0) rfl ?_)
 show wpAny _ _ (seqItems? (.ref l) >>= _) _ _ s
 refine wpAny_bind (wpAny_seqItems hol hdl ?_)
 simp only [Int.toNat_natCast,hx]
 refine wpAny_bind (wpAny_setField ho hd (by simp) (wpAny_pure ⟨x,rfl,wpAny_pure (hQ _ ?_ (Heap.SameBut.update ..))⟩))
 exact ⟨_,Heap.get?_update_self _ ho (Obj.isFreed_of_fields (Obj.data_mapFields hd _)),(Obj.cls_mapFields ..).trans hc,by
  rw [Obj.data_mapFields hd];simp [rawInt]⟩
theorem dU {it l:Addr} {i:Nat} {items} {Q:Value→Shared→Prop} (hh:A.handled=none)
  (hit:s.heap.IsTupleIter it l i) (hl:s.heap.IsTuple l items) (hx:items[i]? = none)
  (hE:∀ h' e,Heap.ExtBut it s.heap h'→(∃ o,h'.get? e=some o∧o.cls=.type "StopIteration")→E (.ref e) { s with heap:=h' }) :
  wpAny (model prog w) A (Builtin.SmallTypes.nextOf (.ref it)) Q E s:=by
 obtain ⟨o,ho,hc,hd⟩:=id hit
 obtain ⟨ol,hol,_,nl,hdl⟩:=hl
 unfold Builtin.SmallTypes.nextOf
 refine wpAny_bind (wpAny_callSpecial?_slot (name:=Str.ofString "__next__") hit.typeIs slot_tupleiter_next
  (wpAny_call_entry slot_tupleiter_next hit.typeIs entry_tupleiter_next ?_ (args_tupleiter_next _)))
 show wpAny _ _ (field (.ref it) 0 >>= _) _ _ s
 refine wpAny_bind (wpAny_field ho hd (x:=.ref l) rfl ?_)
 show wpAny _ _ (if (Value.ref l == Value.none)=true then _ else _) _ _ s
 rw [if_neg (show ¬ ((Value.ref l == Value.none)=true) from Bool.false_ne_true)]
 show wpAny _ _ (field (.ref it) 1 >>= _) _ _ s
 refine wpAny_bind (wpAny_field ho hd (x:=.int i 0) rfl ?_)
 show wpAny _ _ (seqItems? (.ref l) >>= _) _ _ s
 refine wpAny_bind (wpAny_seqItems hol hdl ?_)
 simp only [Int.toNat_natCast,hx]
 refine wpAny_bind (wpAny_rule (wpAny_bind (wpAny_setField ho hd (by simp) ?_)))
 exact k9 hh fun a h' hk hs=>hE h' a (fun b o hb e=>hk b o (((Heap.SameBut.update ..).2 b hb).trans e)) hs
theorem Draws.tuple (hh:A.handled=none) (it l:Addr) (hne:l≠it) (items:Array Value) :
  Draws prog w A it [it,l] items.size (fun i v=>items[i]? = some v) (fun i h=>h.IsTupleIter it l i∧h.IsTuple l items) where
 live:=fun u0 u0 st=>by obtain ⟨o,ho,_⟩:=st.1;exact ⟨o,ho⟩
 frame:=fun u0 u0 u0 st hk=>⟨st.1.at fun o e=>hk it (by simp) o e,st.2.at fun o e=>hk l (by simp) o e⟩
 item:=fun i s Q E hi st hQ=>by
  refine dE st.1 st.2 (x:=items[i]) (by simp [hi]) fun h' hit' hs'=>?_
  exact hQ _ h' s.toks (by simp [hi]) ⟨hit',st.2.extBut hs'.extBut hne⟩ hs'
 done:=fun s Q E st hE=>dU hh st.1 st.2 (by simp) hE
theorem s8 {M:Model} {Q:Bool→Shared→Prop} (b:Bool) (h:∀ b,Q b s):wpAny M A (pure b) Q E s:=wpAny_pure (h b)
theorem eX (l:Addr) (items:Array Value) (n:Nat) (dct:Option Addr) (sl:Array (Option Value)) :
  Meets (Builtin.«enumerate.__new__» ⟨[.type "enumerate",.ref l],[]⟩) (fun u0 R s=>s.heap.get? l=some { cls:=.type "tuple",dict:=dct,data:=.seq items n,slots:=sl }∧
   R (.ok (.ret (.ref (s.heap.push { cls:=.type "tuple_iterator",data:=.fields #[.ref l,.int 0 0] }).objs.size)))
    { s with heap:=(s.heap.push { cls:=.type "tuple_iterator",data:=.fields #[.ref l,.int 0 0] }).push { cls:=.type "enumerate",data:=.fields #[.none,.bool false,.ref s.heap.objs.size,rawInt 0,.none,.none] } }):=
 .of_wp fun prog w A R s h=>by
  obtain ⟨hp,g,d,tk,os⟩:=s;obtain ⟨hl,h⟩:=h
  have hsub:=sub_enumerate
  have hL:Heap.IsTuple (Shared.heap ⟨hp,g,d,tk,os⟩) l items:=⟨_,hl,rfl,n,rfl⟩
  wp_walk using wpAny_loadPart' hl
  refine wpAny_stack_any fun st=>s8 _ ?_
  intro b
  cases b
  ·wp_walk using wpAny_loadPart' hl,wpAny_pyIter_tuple hL
   exact ⟨_,rfl,h⟩
  ·wp_walk using wpAny_loadPart' hl,wpAny_pyIter_tuple hL
   exact ⟨_,rfl,h⟩
theorem fg {l:Addr} {items:Array Value} {Q:Value→Shared→Prop} (hL:s.heap.IsTuple l items)
  (h:∀ h',IsEnum h' (s.heap.objs.size+1) s.heap.objs.size 0 .none→h'.IsTupleIter s.heap.objs.size l 0→h'.objs.size=s.heap.objs.size+2→
   (∀ b o,s.heap.get? b=some o→h'.get? b=some o)→Q (.ref (s.heap.objs.size+1)) { s with heap:=h' }) :
  wpAny (model prog w) A (call (.type "enumerate") [.ref l]) Q E s:=by
 obtain ⟨⟨c,dct,dt,sl⟩,hl,hc,n,hd⟩:=hL
 replace hc:c=.type "tuple":=hc
 replace hd:dt=.seq items n:=hd
 subst hc hd
 refine callType_new F.called_enumerate (by decide) (F.typeCall_enumerate_1 _) (F.newCall_enumerate_1 _) (fun obj=>F.args_object_init_2 obj _) F.entry_enumerate_new
  (eX l items n dct sl) ⟨hl,?_⟩
 have hz:(s.heap.push { cls:=.type "tuple_iterator",data:=.fields #[.ref l,.int 0 0] }).objs.size=s.heap.objs.size+1:=Heap.size_push ..
 show _∧_
 rw [hz]
 have he:IsEnum ((s.heap.push { cls:=.type "tuple_iterator",data:=.fields #[.ref l,.int 0 0] }).push
   { cls:=.type "enumerate",data:=.fields #[.none,.bool false,.ref s.heap.objs.size,rawInt 0,.none,.none] }) (s.heap.objs.size+1) s.heap.objs.size 0 .none:=by
  have:=Heap.get?_push_size (s.heap.push { cls:=.type "tuple_iterator",data:=.fields #[.ref l,.int 0 0] })
   (o:={ cls:=.type "enumerate",data:=.fields #[.none,.bool false,.ref s.heap.objs.size,rawInt 0,.none,.none] }) rfl
  rw [hz] at this;exact this
 refine ⟨⟨_,he,rfl⟩,h _ he ⟨_,Heap.get?_push_of_some _ (Heap.get?_push_size _ rfl),rfl,rfl⟩ (by rw [Heap.size_push,hz]) fun b o x=>Heap.get?_push_of_some _ (Heap.get?_push_of_some _ x)⟩
end
section
variable {W:Wd} {A:Around} {s:Shared} {E:Value→Shared→Prop}
theorem qk {Q:Unit→Shared→Prop} {target:Expr} {I:Addr} {v:Value} {x:Str} {t:Tok} {i:Nat} (hit:s.heap.IsStrIter I "str_ascii_iterator" x t i) (h:Q () s):wpAny (model W.prog W.w) A (letOwnedTupleGo target (.ref I) v) Q E s:=by
 obtain ⟨o,ho,hc,hd⟩:=hit
 refine iv h fun a=>wpAny_bind (wpAny_load ho ?_)
 rw [hc,hd]
 exact wpAny_pure h
theorem kl {it:Addr} {x:Str} {t:Tok} {i:Nat} {Q:Option Value→Shared→Prop} (H:HOK W A s.heap)
  (hit:s.heap.IsStrIter it "str_ascii_iterator" x t i) (hx:x.cps[i]? = none)
  (hQ:∀ h',(∀ b o,b≠it→s.heap.get? b=some o→h'.get? b=some o)→Q none { s with heap:=h' }):wpAny (model W.prog W.w) A (pyNext (.ref it)) Q E s:=by
 obtain ⟨o,ho,hc,hd⟩:=id hit
 unfold pyNext
 refine wpAny_bind (wpAny_attempt (wpAny_callSpecial?_slot (name:=Str.ofString "__next__") hit.typeIs F.slot_str_ascii_iterator_next
  (wpAny_call_entry F.slot_str_ascii_iterator_next hit.typeIs F.entry_str_ascii_iterator_next ?_ (F.args_str_ascii_iterator_next_1 _))))
 show wpAny _ _ (field (.ref it) 0 >>= _) _ _ s
 refine wpAny_bind (wpAny_field ho hd (x:=.str x t) rfl ?_)
 show wpAny _ _ (field (.ref it) 1 >>= _) _ _ s
 refine wpAny_bind (wpAny_field ho hd (x:=.int i 0) rfl ?_)
 simp only [Int.toNat_natCast,hx]
 refine wpAny_bind (wpAny_rule (wpAny_bind (wpAny_setField ho hd (by simp) (wpAny_bind (wpAny_letGo ?_)))))
 refine eI (W:=W) (H.in1.upd (Heap.SameBut.update ..) ho hd (by simp)) fun a h' hk hs=>?_
 obtain ⟨o',e1,e2⟩:=hs
 refine wpAny_bind (wpAny_isInstance (T:="StopIteration") (b:=true) ⟨o',e1,e2⟩ isSubtype_stop ?_)
 exact wpAny_pure (hQ _ fun b o hb e=>hk b o (((Heap.SameBut.update ..).2 b hb).trans e))
theorem oz {Q:Unit→Shared→Prop} {target:Expr} {I t:Addr} {v:Value} {i:Int} (hit:s.heap.get? I=some (jK t i)) (h:Q () s):wpAny (model W.prog W.w) A (letOwnedTupleGo target (.ref I) v) Q E s:=by
 exact iv h fun a=>wpAny_bind (wpAny_load hit (wpAny_pure h))
end
end Mine
namespace Mine
open PySem PySem.Calls PyProof.Rows PySem.SeqAt
inductive ItO (h:Heap) (a:Addr):Prop
 | mk (o:Obj) (T:String) (e:h.get? a=some o) (c:o.cls=.type T) (n:(["list","dict","cell","frame","tuple"].contains T)=false)
structure ck (W:Wd) (A:Around) (tt:Bool) (I:Addr) (wr:List Addr) (fp:Addr→Prop) (n:Nat) (St:Nat→Option Value→Heap→Prop):Prop where
 frame:∀ {i v h h'},St i v h→be (fun a=>a∈wr∨fp a) h h'→St i v h'
 item:∀ {i s} {Q:Option Value→Shared→Prop} {E},HOK W A s.heap→i < n→St i none s.heap→(∀ v s',Upd wr s s'→St i (some v) s'.heap→Q (some v) s')→wpAny (model W.prog W.w) A (pyNext (.ref I)) Q E s
 go:∀ {i t v s} {Q:Unit→Shared→Prop} {E},(tt=true→cV t=true)→St i (some v) s.heap→(∀ s',Upd wr s s'→St (i+1) none s'.heap→Q () s')→wpAny (model W.prog W.w) A (letOwnedTupleGo t (.ref I) v) Q E s
 done:∀ {s} {Q:Option Value→Shared→Prop} {E},HOK W A s.heap→St n none s.heap→(∀ s',Upd wr s s'→Q none s')→wpAny (model W.prog W.w) A (pyNext (.ref I)) Q E s
 cls:∀ {i v h},St i v h→∀ a∈wr,ItO h a
 self:∀ {i s} {Q:Value→Shared→Prop} {E},St i none s.heap→Q (.ref I) s→wpAny (model W.prog W.w) A (pyIter (.ref I)) Q E s
theorem be.at {S:Addr→Prop} {h h':Heap} (x:be S h h') {a o} (e:h.get? a=some o) (hs:S a):h'.get? a=some o:=x a o e (.inl hs)
noncomputable def St1 (it:Nat→Heap→Prop) (ct:Heap→Prop) (vs:Nat→Value→Prop) (i:Nat):Option Value→Heap→Prop
 | none,h=>it i h∧ct h
 | some v,h=>it (i+1) h∧ct h∧vs i v
section
variable {W:Wd} {A:Around} {I:Addr} {s:Shared} {E:Value→Shared→Prop}
theorem Upd.xS {T} (hi:∃ o,s.heap.get? I=some o∧o.cls=.type T) (hT:(["list","dict","cell","frame","tuple"].contains T)=false) {h':Heap} {t:Nat} (k:∀ b o,b≠I→s.heap.get? b=some o→h'.get? b=some o):Upd [I] s { s with heap:=h',toks:=t }:=by
 refine ⟨h',t,rfl,fun b o e c=>k b o (fun q=>?_) e⟩
 subst q
 rcases c with c | c
 ·exact c List.mem_cons_self
 ·obtain ⟨o',e',c'⟩:=hi
  obtain rfl:=geq e e'
  have z:=Eq.trans (Eq.symm c) c';injection z with z0a;try subst z0a
  cases hT
theorem ck.simple {fp:Addr→Prop} {n:Nat} {T:String} {it:Nat→Heap→Prop} {ct:Heap→Prop} {vs:Nat→Value→Prop} (hT:(["list","dict","cell","frame","tuple"].contains T)=false)
  (hi:∀ {i h},it i h→∃ o,h.get? I=some o∧o.cls=.type T) (fi:∀ {i h h'},it i h→h'.get? I=h.get? I→it i h') (fc:∀ {h h'},ct h→be fp h h'→ct h') (hfp:∀ a,fp a→a≠I)
  (next:∀ {i s} {Q:Option Value→Shared→Prop} {E},HOK W A s.heap→i < n→it i s.heap→ct s.heap→(∀ v h' t,it (i+1) h'→Heap.SameBut I s.heap h'→vs i v→Q (some v) { s with heap:=h',toks:=t })→wpAny (model W.prog W.w) A (pyNext (.ref I)) Q E s)
  (fin:∀ {s} {Q:Option Value→Shared→Prop} {E},HOK W A s.heap→it n s.heap→ct s.heap→(∀ h',(∀ b o,b≠I→s.heap.get? b=some o→h'.get? b=some o)→Q none { s with heap:=h' })→wpAny (model W.prog W.w) A (pyNext (.ref I)) Q E s)
  (lg:∀ {i s t v} {Q:Unit→Shared→Prop} {E},it i s.heap→Q () s→wpAny (model W.prog W.w) A (letOwnedTupleGo t (.ref I) v) Q E s)
  (slf:∀ {i s} {Q:Value→Shared→Prop} {E},it i s.heap→Q (.ref I) s→wpAny (model W.prog W.w) A (pyIter (.ref I)) Q E s):ck W A false I [I] fp n (St1 it ct vs):=by
 have fi':∀ {i h h'},it i h→be (fun a=>a∈[I]∨fp a) h h'→it i h':=fun a x=>by obtain ⟨_,e,_⟩:=hi a;exact fi a ((x.at e (.inl List.mem_cons_self)).trans e.symm)
 have fc':∀ {h h'},ct h→be (fun a=>a∈[I]∨fp a) h h'→ct h':=fun a x=>fc a (x.mono fun u0=>.inr)
 constructor
 ·intro i v h h' st x
  cases v with
  | none=>exact ⟨fi' st.1 x,fc' st.2 x⟩
  | some v=>exact ⟨fi' st.1 x,fc' st.2.1 x,st.2.2⟩
 ·intro i s Q E H hn st q
  exact next H hn st.1 st.2 fun v h' t a b c=>by
   have U:=Upd.xS (t:=t) (hi st.1) hT fun b' o hb e=>(b.2 b' hb).trans e
   exact q v _ U ⟨a,fc st.2 (U.xl.mono fun a ha hm=>hfp a ha (List.mem_singleton.mp hm)),c⟩
 ·intro i t v s Q E _ st q
  exact lg st.1 (q s .refl ⟨st.1,st.2.1⟩)
 ·intro s Q E H st q
  exact fin H st.1 st.2 fun h' k=>q _ (Upd.xS (t:=s.toks) (hi st.1) hT k)
 ·intro i v h st a ha
  rw [List.mem_singleton.mp ha]
  cases v with
  | none=>have ⟨o,e,c⟩:=hi st.1;exact ⟨o,T,e,c,hT⟩
  | some v=>have ⟨o,e,c⟩:=hi st.1;exact ⟨o,T,e,c,hT⟩
 ·intro i s Q E st q
  exact slf st.1 q
theorem ck.list {a:Addr} {vs:List Value} {n:Nat} (ha:a≠I):ck W A false I [I] (· = a) vs.length (St1 (fun i h=>h.IsListIter I a i) (fun h=>h.get? a=some (fP vs n)) fun i v=>vs[i]? = some v):=
 .simple (T:="list_iterator") (by decide) (fun zz0=>by obtain ⟨o,e,c,_⟩:=zz0;exact ⟨o,e,c⟩) (fun zz1 q=>by obtain ⟨o,e,r⟩:=zz1;exact ⟨o,q.trans e,r⟩) (fun c x=>x.at c rfl) (fun u0 h=>h▸ha)
  (fun u0 hn st c q=>wpAny_pyNext_list_item st ⟨_,c,rfl,n,rfl⟩ (x:=vs[_]) (by simp [hn]) fun h' x y=>q _ h' _ x y (List.getElem?_eq_getElem hn))
  (fun H st c q=>kB H st ⟨_,c,rfl,n,rfl⟩ (by simp) q) (fun st q=>letGo_listiter st q) fun st q=>wpAny_pyIter_listiter st q
theorem ck.tuple {a:Addr} {vs:List Value} {n:Nat}:ck W A false I [I] (fun u0=>False) vs.length (St1 (fun i h=>h.IsTupleIter I a i) (fun h=>h.get? a=some (dN vs n)) fun i v=>vs[i]? = some v):=
 .simple (T:="tuple_iterator") (by decide) (fun zz2=>by obtain ⟨o,e,c,_⟩:=zz2;exact ⟨o,e,c⟩) (fun zz3 q=>by obtain ⟨o,e,r⟩:=zz3;exact ⟨o,q.trans e,r⟩) (fun c x=>x a _ c (.inr rfl)) (fun u0 h=>h.elim)
  (fun u0 hn st c q=>wpAny_pyNext_tuple_item st ⟨_,c,rfl,n,rfl⟩ (x:=vs[_]) (by simp [hn]) fun h' x y=>q _ h' _ x y (List.getElem?_eq_getElem hn))
  (fun H st c q=>iS H st ⟨_,c,rfl,n,rfl⟩ (by simp) q) (fun st q=>letGo_tupleiter st q) fun st q=>wpAny_pyIter_tupleiter st q
theorem ck.dict {a:Addr} {es:List DictEntry} {m:Nat} (ha:a≠I):ck W A false I [I] (· = a) es.length (St1 (fun i h=>h.IsKeyIter I a i es.length m) (fun h=>h.get? a=some (bH es m)) fun i v=>∃ e,es[i]? = some e∧v=e.key):=
 .simple (T:="dict_keyiterator") (by decide) (fun zz4=>by obtain ⟨o,e,c,_⟩:=zz4;exact ⟨o,e,c⟩) (fun zz5 q=>by obtain ⟨o,e,r⟩:=zz5;exact ⟨o,q.trans e,r⟩) (fun c x=>x.at c rfl) (fun u0 h=>h▸ha)
  (fun u0 hn st c q=>ez st c (en:=es[_]) (List.getElem?_eq_getElem hn) fun h' x y=>q _ h' _ x y ⟨_,List.getElem?_eq_getElem hn,rfl⟩)
  (fun H st c q=>fV H st c (List.getElem?_eq_none (Nat.le_refl _)) q) (fun st q=>letGo_keyiter st q) fun st q=>wpAny_pyIter_keyiter st q
theorem ck.range {a:Int} {n:Nat}:ck W A false I [I] (fun u0=>False) n (St1 (fun i h=>IsRangeIter h I (a+(i:Int)) ((n:Int) - (i:Int)) 1) (fun u0=>True) fun i v=>∃ t,v=.int (a+(i:Int)) t):=
 .simple (T:="range_iterator") (by decide) (fun e=>⟨_,e,rfl⟩) (fun e q=>q.trans e) (fun u0 u0=>trivial) (fun u0 h=>h.elim)
  (fun {i _ _ _} _ hn st _ q=>wpAny_pyNext_range_item st (by omega) fun h' x y=>q _ h' _ (by
   rw [show a+(i:Int)+1=a+((i+1:Nat):Int) by omega,show (n:Int) - (i:Int) - 1=(n:Int) - ((i+1:Nat):Int) by omega] at x;exact x) y ⟨_,rfl⟩)
  (fun H st u0 q=>jc H st (by omega) q) (fun st q=>mT st q) fun st q=>wpAny_pyIter_rangeiter st q
theorem ck.str {x:Txt} {t:Tok}:ck W A false I [I] (fun u0=>False) x.length (St1 (fun i h=>h.IsStrIter I "str_ascii_iterator" (strV x) t i) (fun u0=>True) fun i v=>∃ c t,x[i]? = some c∧v=.str (strV [c]) t):=
 .simple (T:="str_ascii_iterator") (by decide) (fun zz6=>by obtain ⟨o,e,c,_⟩:=zz6;exact ⟨o,e,c⟩) (fun zz7 q=>by obtain ⟨o,e,r⟩:=zz7;exact ⟨o,q.trans e,r⟩) (fun u0 u0=>trivial) (fun u0 h=>h.elim)
  (fun u0 hn st u0 q=>wpAny_pyNext_ascii_item st (c:=x[_]) (by simp [strV,hn]) fun h' a b=>q _ h' _ a b ⟨_,_,List.getElem?_eq_getElem hn,rfl⟩)
  (fun H st u0 q=>kl H st (by simp [strV]) q) (fun st q=>qk st q) fun st q=>wpAny_pyIter_striter_ascii st q
theorem ck.revT {a:Addr} {vs:List Value} {n:Nat} (hq:W.qt=true) (hsz:vs.length < 2 ^ 62):ck W A false I [I] (fun u0=>False) vs.length (St1 (fun i h=>h.get? I=some (jK a ((vs.length:Int) - 1 - (i:Int)))) (fun h=>h.get? a=some (dN vs n)) fun i v=>vs.reverse[i]? = some v):=
 .simple (T:="reversed") (by decide) (fun e=>⟨_,e,rfl⟩) (fun e q=>q.trans e) (fun c x=>x a _ c (.inr rfl)) (fun u0 h=>h.elim)
  (fun {i _ _ _} _ hn st c q=>by
   rw [show (vs.length:Int) - 1 - (i:Int)=((vs.length - 1 - i:Nat):Int) by omega] at st
   refine kj st ⟨_,c,rfl,n,rfl⟩ (x:=vs[vs.length - 1 - i]) (by simp) (by omega) fun h' x y=>q _ h' _ ?_ y ?_
   ·rw [show ((vs.length - 1 - i:Nat):Int) - 1=(vs.length:Int) - 1 - ((i+1:Nat):Int) by omega] at x;exact x
   ·rw [List.getElem?_reverse hn];exact List.getElem?_eq_getElem _)
  (fun H st u0 q=>by
   rw [show (vs.length:Int) - 1 - (vs.length:Int) = -1 by omega] at st
   exact kA (H.1 hq) st q) (fun st q=>oz st q) fun st q=>iO st q
noncomputable def StE (e it:Addr) (vs:List Value) (St:Nat→Heap→Prop) (i:Nat):Option Value→Heap→Prop
 | none,h=>(∃ old,IsEnum h e it (i:Int) old)∧St i h
 | some v,h=>(∃ x a,v=.ref a∧IsEnumOut h e it ((i:Int)+1) x a)∧St (i+1) h∧∃ a t x,v=.ref a∧vs[i]? = some x∧h.get? a=some (dN [.int (i:Int) t,x] 0)
theorem tupE {P:Expr→Prop} {t:Expr} (h:cV t=true) (k:∀ a b c,P (.Tuple a b c)):P t:=Expr.Tuple.elim (motive_1:=P) t (Nat.eq_of_beq_eq_true h) k
theorem ck.enum {e it l:Addr} {fp:Addr→Prop} {vs:List Value} {St:Nat→Heap→Prop} (hq:W.qt=true) (hei:e≠it) (hel:e≠l) (hfe:∀ a,fp a→a≠e)
  (hfr:∀ {i h h'},St i h→be (fun b=>b=it∨fp b) h h'→St i h') (hDr:∀ A:Around,A.handled=none→Draws W.prog W.w A it [it,l] vs.toArray.size (fun i v=>vs.toArray[i]? = some v) St)
  (hcls:∀ {i h},St i h→ItO h it):ck W A true e [e,it] fp vs.length (StE e it vs St):=by
 have ne:∀ {h:Heap} {b o} {i:Int} {old},IsEnum h e it i old→h.get? b=some o→o.cls=.type "tuple"→b≠e:=fun a eo hc q=>by
  subst q
  have a':_=_:=a
  obtain rfl:=geq eo a';exact absurd (Value.type.inj hc) (by decide)
 have ni:∀ {h:Heap} {b o} {i},St i h→h.get? b=some o→o.cls=.type "tuple"→b≠it:=fun a eo hc q=>by
  subst q
  obtain ⟨o',T,e1,e2,e3⟩:=hcls a
  obtain rfl:=geq eo e1
  have z:=Eq.trans (Eq.symm hc) e2;injection z with z0a;try subst z0a;cases e3
 constructor
 ·intro i v h h' st x
  have hs:∀ {i},St i h→St i h':=fun s=>hfr s (x.mono fun a ha=>ha.imp (fun q=>List.mem_cons_of_mem _ (List.mem_singleton.mpr q)) id)
  cases v with
  | none=>exact ⟨st.1.imp fun u0 a=>x.at a (.inl List.mem_cons_self),hs st.2⟩
  | some v=>
   obtain ⟨⟨y,a,hv,ho⟩,s2,a',t,y',hv',hy,ht⟩:=st
   exact ⟨⟨y,a,hv,x.at ho (.inl List.mem_cons_self)⟩,hs s2,a',t,y',hv',hy,x _ _ ht (.inr rfl)⟩
 ·intro i s Q E H hn y q
  obtain ⟨⟨old,a⟩,b⟩:=y
  refine wpAny_pyNext_enum_itemD (hDr A.in1 (H.1 hq)) a b (by simpa using hn) hei (by simp;exact ⟨hei,hel⟩) fun x h' tk hP ho hst ht hz hk=>?_
  exact q _ _ ⟨h',tk+1,rfl,fun r o eo hc=>hk r o (fun z=>hc.elim (fun c=>c (z▸List.mem_cons_self)) fun c=>ne a eo c z) (fun z=>hc.elim (fun c=>c (z▸List.mem_cons_of_mem _ List.mem_cons_self)) fun c=>ni b eo c z) eo⟩
   ⟨⟨x,_,rfl,ho⟩,hst,_,tk,x,rfl,by simpa using hP,ht⟩
 ·intro i t v s Q E htt y q
  obtain ⟨⟨x,a,hv,ho⟩,hst,_⟩:=y
  subst hv
  refine tupE (P:=fun t=>wpAny (model W.prog W.w) A (letOwnedTupleGo t (.ref e) (.ref a)) Q E s) (htt rfl) fun u0 u0 u0=>?_
  refine wpAny_letOwnedTupleGo_enum ho fun h' he hs=>?_
  have U:Upd [e] s { s with heap:=h',toks:=s.toks }:=qC (t:=s.toks) hs ⟨_,ho,by simp⟩
  exact q _ (U.mono fun a ha=>List.mem_singleton.mp ha▸List.mem_cons_self) ⟨⟨x,by have:=he;rwa [show ((i:Int)+1)=((i+1:Nat):Int) by omega] at this⟩,hfr hst (U.xl.mono fun a ha hm=>by
   rw [List.mem_singleton.mp hm] at ha
   exact ha.elim (fun q=>hei q) fun q=>hfe _ q rfl)⟩
 ·intro s Q E H y q
  obtain ⟨⟨old,a⟩,b⟩:=y
  refine wpAny_pyNext_enum_endD (hDr A.in1 (H.1 hq)) (by simpa using a) (by simpa using b) fun h' hk=>?_
  exact q _ ⟨h',s.toks,rfl,fun r o eo hc=>hk r o (fun z=>hc.elim (fun c=>c (z▸List.mem_cons_of_mem _ List.mem_cons_self)) fun c=>ni b eo c z) eo⟩
 ·intro i v h st x hx
  rcases List.mem_cons.mp hx with rfl | hx
  ·cases v with
   | none=>obtain ⟨_,a⟩:=st.1;exact ⟨_,"enumerate",a,rfl,by decide⟩
   | some v=>obtain ⟨_,_,_,a⟩:=st.1;exact ⟨_,"enumerate",a,rfl,by decide⟩
  ·rw [List.mem_singleton.mp hx]
   cases v with
   | none=>exact hcls st.2
   | some v=>exact hcls st.2.1
 ·intro i s Q E y q
  obtain ⟨⟨old,a⟩,_⟩:=y
  exact wpAny_pyIter_enum a q
end
end Mine
namespace Mine
open PySem PySem.Calls PyProof.Rows PySem.SeqAt
inductive ItR (c:Cx) (ρ:List Sl) (F:Fp) (l:Lv) (tt:Bool) (Q:List D→Nat→Prop) (s:Shared) (v:Value) (s':Shared):Prop
 | mk (ds:List D) (k:Nat) (q:Q ds k) (I:Addr) (wr:List Addr) (fp:Addr→Prop) (St:Nat→Option Value→Heap→Prop) (src:List D) (vs:List Value) (hv:v=.ref I) (hw:ck c.W c.A tt I wr fp ds.length St) (h0:St 0 none s'.heap)
  (hr:VRs c.W s'.heap (c.S F l) src vs) (hd:∀ {i v h P d},St i (some v) h→ds[i]? = some d→VRs c.W h P src vs→VR c.W h P d v) (x:SR c ρ k F s') (st:av c.pen s.heap s'.heap)
  (hwr:∀ a∈wr,s.heap.get? a=none) (hfp:∀ a,fp a→c.S F l a∧ak c.W s'.heap a)
noncomputable def et (c:Cx) (ρ:List Sl) (k:Nat) (l:Lv) (tt:Bool) (e:Expr) (Q:List D→Nat→Prop):Prop:=aJ c→∀ F s,SR c ρ k F s→
 wpAny c.M c.A (eval e c.env) (fun v s1=>wpAny c.M c.A (pyIter v) (ItR c ρ F l tt Q s) NoE s1) NoE s
inductive fS:D→List D→Prop
 | lst {xs}:fS (.lst xs) xs
 | tup {xs}:fS (.tup xs) xs
 | dct {ks xs}:fS (.dct ks xs) (ks.map Key.toD)
 | str {s}:s.all (· < 128)=true→fS (.str s) (s.map fun c=>.str [c])
section
variable {c:Cx} {ρ:List Sl} {k:Nat} {F:Fp} {s s1 s2:Shared} {l:Lv} {tt:Bool} {Q:List D→Nat→Prop} {e:Expr} {W:Wd} {P:Addr→Prop} {h:Heap}
theorem ItR.of {ds:List D} {I:Addr} {wr:List Addr} {fp:Addr→Prop} {St} {src:List D} {vs:List Value} (x:SR c ρ k F s1) (st:av c.pen s.heap s1.heap) (q:Q ds k) (g:bP s1 s2) {n:Nat} (hn:ds.length=n) (hw:ck c.W c.A tt I wr fp n St) (h0:St 0 none s2.heap)
  (hr:VRs c.W s1.heap (c.S F l) src vs) (hd:∀ {i v h P d},St i (some v) h→ds[i]? = some d→VRs c.W h P src vs→VR c.W h P d v) (hwr:∀ a∈wr,s1.heap.get? a=none) (hfp:∀ a,fp a→c.S F l a∧ak c.W s1.heap a):ItR c ρ F l tt Q s (.ref I) s2:=
 ⟨ds,k,q,I,wr,fp,St,src,vs,rfl,hn▸hw,h0,hr.grow fun u0 u0 e=>g.keep e,hd,x.grow g,st.trans (.xp fun u0 u0 e=>g.keep e),fun a ha=>st.fresh x.pen (hwr a ha),fun a ha=>⟨(hfp a ha).1,by obtain ⟨o,e,r,r1,r2⟩:=(hfp a ha).2;exact ⟨o,g.keep e,r,r1,r2⟩⟩⟩
theorem fY (h:Heap):h.get? h.objs.size=none:=Heap.get?_none_of_le (Nat.le_refl _)
theorem VR.yA:∀ {k:Key} {v:Value},aU h k v→VR W h P k.toD v
 | .int _,_,r=>r
 | .str _,_,r=>r
 | .tup is,v,yy0x0=>by
  obtain ⟨a,vs,n,e,g,f⟩:=yy0x0
  refine ⟨a,vs,[],e,⟨rfl,n,g⟩,fun u0 h=>(aE h),?_⟩
  clear g e
  induction is generalizing vs with
  | nil=>exact f
  | cons i is ih=>obtain ⟨t,r,rfl,f⟩:=f;exact ⟨_,r,rfl,⟨t,rfl⟩,ih r f⟩
theorem VRs.ofKeys {es ks vs} (r:aM W.w h es ks vs):VRs W h P (ks.map Key.toD) (es.map (·.key)):=by
 induction r with
 | nil=>rfl
 | cons a _ _ ih=>exact ⟨_,_,rfl,.yA a,ih⟩
theorem so {v:Value} (r:Res c ρ F l (fun d k'=>∃ ds,fS d ds∧Q ds k') s v s1):wpAny c.M c.A (pyIter v) (ItR c ρ F l false Q s) NoE s1:=by
 obtain ⟨d,k',⟨ds,hi,q⟩,r,x1,st⟩:=r
 have one:∀ a∈[s1.heap.objs.size],s1.heap.get? a=none:=List.forall_mem_singleton.mpr (fY _)
 cases hi with
 | lst=>
  obtain ⟨a,vs,as,rfl,kr,hp,r⟩:=r
  have hl:=kr.live a (by rw [kr.1];exact List.mem_singleton.mpr rfl)
  have hS:=hp a (by rw [kr.1];exact List.mem_singleton.mpr rfl)
  obtain ⟨_,n,e⟩:=kr
  have hne:a≠s1.heap.objs.size:=fun q=>by rw [q,fY] at e;exact no1 e
  refine wpAny_pyIter_list ⟨_,e,rfl,n,rfl⟩ (.of x1 st q (.push _ s1.toks) r.length (ck.list (vs:=vs) (n:=n) hne) ⟨⟨_,Heap.get?_push_size _ rfl,rfl,rfl⟩,Heap.get?_push_of_some _ e⟩ r (fun st hd hr=>?_) one fun b hb=>hb▸⟨hS,hl⟩)
  obtain ⟨v,hv,rv⟩:=hr.at hd
  obtain rfl:=geq st.2.2 hv;exact rv
 | tup=>
  obtain ⟨a,vs,as,rfl,⟨_,n,e⟩,hp,r⟩:=r
  refine wpAny_pyIter_tuple ⟨_,e,rfl,n,rfl⟩ (.of x1 st q (.push _ s1.toks) r.length (ck.tuple (a:=a) (vs:=vs) (n:=n)) ⟨⟨_,Heap.get?_push_size _ rfl,rfl,rfl⟩,Heap.get?_push_of_some _ e⟩ r (fun st hd hr=>?_) one fun b hb=>hb.elim)
  obtain ⟨v,hv,rv⟩:=hr.at hd
  obtain rfl:=geq st.2.2 hv;exact rv
 | @dct ks xs=>
  obtain ⟨a,vs,as,rfl,kr,hp,r⟩:=r
  have hl:=kr.live a (by rw [kr.1];exact List.mem_singleton.mpr rfl)
  have hS:=hp a (by rw [kr.1];exact List.mem_singleton.mpr rfl)
  obtain ⟨_,hsm,es,m,e,kr,_⟩:=kr
  have hne:a≠s1.heap.objs.size:=fun q=>by rw [q,fY] at e;exact no1 e
  have hlen:(ks.map Key.toD).length=es.length:=by rw [List.length_map,kr.length.1]
  refine iK hsm e (.of x1 st q (.push _ s1.toks) hlen (ck.dict (es:=es) (m:=m) hne) ⟨⟨_,Heap.get?_push_size _ rfl,rfl,rfl⟩,Heap.get?_push_of_some _ e⟩ (VRs.ofKeys kr) (fun st hd hr=>?_) one fun b hb=>hb▸⟨hS,hl⟩)
  obtain ⟨v,hv,rv⟩:=hr.at hd
  obtain ⟨_,_,en,he,rfl⟩:=st
  rw [List.getElem?_map,he] at hv;cases hv;exact rv
 | @str t ha=>
  obtain ⟨tk,rfl⟩:=r
  refine wpAny_pyIter_ascii (by simpa [strV] using ha) (.of x1 st q (.push _ s1.toks) (List.length_map ..) (ck.str (x:=t) (t:=tk)) ⟨⟨_,Heap.get?_push_size _ rfl,rfl,rfl⟩,trivial⟩ (src:=[]) (vs:=[]) rfl (fun st hd u0=>?_) one fun b hb=>hb.elim)
  obtain ⟨_,_,cc,u,hc,rfl⟩:=st
  rw [List.getElem?_map,hc] at hd;cases hd;exact ⟨u,rfl⟩
theorem rY (h:Ev c ρ k l e fun d k'=>∃ ds,fS d ds∧Q ds k'):et c ρ k l false e Q:=fun ok F s x=>noE (h ok F s x) fun u0 u0=>so
theorem r5 {a b:Int} (h : -(2 ^ 60)≤a∧a≤2 ^ 60∧-(2 ^ 60)≤b∧b≤2 ^ 60):Builtin.Range.small a b 1=true∧Builtin.Range.rangeSize a b 1=((b - a).toNat:Int):=by
 have e:Builtin.Range.rangeSize a b 1=((b - a).toNat:Int):=by
  unfold Builtin.Range.rangeSize
  simp only [show (1:Int) > 0 by decide,if_true,Int.ediv_one]
  split <;> lia
 refine ⟨?_,e⟩
 unfold Builtin.Range.small
 refine e▸?_
 simp only [Builtin.Range.rangeFitsLong,Bool.and_eq_true,Bool.or_eq_true,decide_eq_true_eq,show (1:Int) > 0 by decide,if_true]
 refine ⟨⟨⟨⟨?_,?_⟩,?_⟩,?_⟩,.inr ?_⟩ <;> constructor <;> lia
noncomputable def cj (a:Int) (n:Nat):List D:=(List.range n).map fun (i:Nat)=>D.int (a+(i:Int))
theorem jH {a b:Int} {t u v:Tok} {tk:Nat} (x1:SR c ρ k F s1) (st:av c.pen s.heap s1.heap) (h : -(2 ^ 60)≤a∧a≤2 ^ 60∧-(2 ^ 60)≤b∧b≤2 ^ 60) (q:Q (cj a (b - a).toNat) k) :
  wpAny c.M c.A (pyIter (.ref s1.heap.objs.size)) (ItR c ρ F l false Q s) NoE { s1 with heap:=s1.heap.push { cls:=.type "range",data:=.fields #[.int a t,.int b u,.int 1 v] },toks:=tk }:=by
 obtain ⟨h1,h2⟩:=r5 h
 have hz:(s1.heap.push { cls:=.type "range",data:=.fields #[.int a t,.int b u,.int 1 v] }).objs.size=s1.heap.objs.size+1:=Heap.size_push ..
 refine wpAny_pyIter_range (s:={ s1 with heap:=s1.heap.push { cls:=.type "range",data:=.fields #[.int a t,.int b u,.int 1 v] },toks:=tk }) (Heap.get?_push_size _ rfl) h1
  (.of (ds:=cj a (b - a).toNat) x1 st q ((bP.push _ tk).trans (.push _ tk)) (by rw [cj,List.length_map,List.length_range]) (ck.range (a:=a)) ⟨?_,trivial⟩ (src:=[]) (vs:=[]) rfl (fun st hd u0=>?_) (List.forall_mem_singleton.mpr ?_) fun u0 h=>h.elim)
 ·show Heap.get? _ _=_
  rw [Heap.get?_push_size _ rfl,h2]
  simp
 ·obtain ⟨_,_,t,rfl⟩:=st
  rw [cj,List.getElem?_map,Option.map_eq_some_iff] at hd
  obtain ⟨j,hj,rfl⟩:=hd
  obtain ⟨_,rfl⟩:=List.getElem?_eq_some_iff.mp hj
  exact (List.getElem_range ..)▸⟨t,rfl⟩
 ·show s1.heap.get? (s1.heap.push _).objs.size=none
  rw [hz]
  exact Heap.get?_none_of_le (Nat.le_succ _)
theorem kW {pos pos'} (hx:cF c "range" = true) (hs:ah e=true) (h:Ev c ρ k .any e fun d k'=>∃ b:Int,d=.int b∧0≤b∧b≤2 ^ 60∧Q (cj 0 b.toNat) k'):et c ρ k l false (.Call (.Name "range" pos') [e] [] pos) Q:=fun ok F s x0=>
 Call_ (eK ok x0.w0 (v:=.type "range") (.tail _ (.tail _ (.tail _ (.tail _ (.tail _ (.tail _ (.tail _ (.head _)))))))) (by decide +kernel) (by decide +kernel) (of_decide_eq_true hx) (bK rfl (by rw [List.all_cons,hs];rfl) (args_cons (noE (h ok F s x0) fun u0 s1 zr3=>by obtain ⟨_,_,⟨b,e,h1,h2,q⟩,r1,x1,st⟩:=zr3;exact args_nil (by
  subst e;obtain ⟨t,rfl⟩:=r1
  exact call_range_1 (jH x1 st (by lia) (Eq.symm (show b - 0=b by lia)▸q)))) (ag hs))))
theorem qu {a b:Expr} {pos pos'} (hx:cF c "range" = true) (hs:[a,b].all ah=true) (h:Ev c ρ k .any a fun x k1=>Ev c ρ k1 .any b fun y k2=>∃ i j:Int,x=.int i∧y=.int j∧(0≤i∧i≤2 ^ 60∧0≤j∧j≤2 ^ 60)∧Q (cj i (j - i).toNat) k2):et c ρ k l false (.Call (.Name "range" pos') [a,b] [] pos) Q:=fun ok F s x0=>by
 have hs':=hs
 simp only [List.all_cons,List.all_nil,Bool.and_true,Bool.and_eq_true] at hs
 refine Call_ (eK ok x0.w0 (v:=.type "range") (.tail _ (.tail _ (.tail _ (.tail _ (.tail _ (.tail _ (.tail _ (.head _)))))))) (by decide +kernel) (by decide +kernel) (of_decide_eq_true hx) (bK rfl hs' (args_cons (noE (ev2 h ok x0) fun v u0 h1=>args_cons (noE h1 fun w s2 zr2=>?_) (ag hs.2)) (ag hs.1))))
 obtain ⟨_,_,_,⟨i,j,e1,e2,hb,q⟩,r1,r2,x2,st⟩:=zr2;refine args_nil ?_
 subst e1 e2
 obtain ⟨t,rfl⟩:=r1
 obtain ⟨u,rfl⟩:=r2
 exact call_range_2 (jH x2 st (by lia) q)
theorem VRs.reverse:∀ {ds vs},VRs W h P ds vs→VRs W h P ds.reverse vs.reverse:=by
 intro ds
 induction ds with
 | nil=>
  exact @fun u0 e=>by rw [show _=[] from e];rfl
 | cons _ _ ihq=>
  exact @fun u0 yy1x0=>by obtain ⟨v,r,e,a,b⟩:=yy1x0;rw [e,List.reverse_cons,List.reverse_cons];exact (ihq b).append (.one a)
theorem vf {pos pos'} (hq:c.W.qt=true) (hx:cF c "reversed" = true) (hs:ah e=true) (h:Ev c ρ k l e fun d k'=>∃ xs,d=.tup xs∧xs.length≤2 ^ 24∧Q xs.reverse k'):et c ρ k l false (.Call (.Name "reversed" pos') [e] [] pos) Q:=fun ok F s x0=>
 Call_ (eK ok x0.w0 (v:=.type "reversed") (.tail _ (.tail _ (.tail _ (.tail _ (.tail _ (.tail _ (.tail _ (.tail _ (.head _))))))))) (by decide +kernel) (by decide +kernel) (of_decide_eq_true hx) (bK rfl (by rw [List.all_cons,hs];rfl) (args_cons (noE (h ok F s x0) fun u0 s1 zr1=>by obtain ⟨_,_,⟨xs,e,hl,q⟩,r1,x1,st⟩:=zr1;exact args_nil (by
  subst e
  obtain ⟨a,vs,_,rfl,⟨_,n,eo⟩,_,r⟩:=r1
  rw [r.length] at hl
  refine fH (items:=vs.toArray) ⟨_,eo,rfl,n,rfl⟩ (by simp;lia) (iO (s:={ s1 with heap:=s1.heap.push (jK a ((vs.toArray.size:Int) - 1)),toks:=s1.toks+1+1 }) (Heap.get?_push_size _ rfl)
   (.of x1 st q (.push _ _) (by rw [List.length_reverse,r.length]) (ck.revT (a:=a) (vs:=vs) (n:=n) hq (by lia)) ⟨?_,Heap.get?_push_of_some _ eo⟩ r.reverse (fun st hd hr=>?_) (List.forall_mem_singleton.mpr (fY _)) fun u0 h=>h.elim))
  ·show Heap.get? _ _=_
   rw [Heap.get?_push_size _ rfl];simp
  ·obtain ⟨v,hv,rv⟩:=hr.at hd
   obtain rfl:=geq st.2.2 hv;exact rv)) (ag hs))))
noncomputable def fU (xs:List D):List D:=xs.zipIdx.map fun x=>.tup [.int (x.2:Int),x.1]
theorem ir {xs:List D} {i:Nat} {d:D} (h:(fU xs)[i]? = some d):∃ x,xs[i]? = some x∧d=.tup [.int (i:Int),x]:=by
 unfold fU at h
 rw [List.getElem?_map,Option.map_eq_some_iff] at h
 obtain ⟨⟨x,j⟩,hj,rfl⟩:=h
 rw [List.getElem?_zipIdx] at hj
 simp only [Option.map_eq_some_iff] at hj
 obtain ⟨y,hy,e⟩:=hj
 simp at e
 obtain ⟨rfl,rfl⟩:=e
 exact ⟨y,hy,rfl⟩
theorem kZ {e it:Addr} {vs:List Value} {St xs} {i v d} (st:StE e it vs St i (some v) h) (hd:(fU xs)[i]? = some d) (hr:VRs W h P xs vs):VR W h P d v:=by
 obtain ⟨_,_,a,t,x,rfl,hx,ht⟩:=st
 obtain ⟨y,hy,rfl⟩:=ir hd
 obtain ⟨v,hv,rv⟩:=hr.at hy
 obtain rfl:=geq hx hv
 exact ⟨a,_,[],rfl,⟨rfl,0,ht⟩,fun u0 h=>(aE h),_,_,rfl,⟨t,rfl⟩,.one rv⟩
theorem pE {pos pos'} (hq:c.W.qt=true) (hx:cF c "enumerate" = true) (hs:ah e=true) (h:Ev c ρ k l e fun d k'=>∃ kd xs,d=.node kd xs∧(kd=.lst∨kd=.tup)∧Q (fU xs) k'):et c ρ k l true (.Call (.Name "enumerate" pos') [e] [] pos) Q:=fun ok F s x0=>
 Call_ (eK ok x0.w0 (v:=.type "enumerate") (.tail _ (.tail _ (.tail _ (.tail _ (.tail _ (.tail _ (.tail _ (.tail _ (.tail _ (.head _)))))))))) (by decide +kernel) (by decide +kernel) (of_decide_eq_true hx) (bK rfl (by rw [List.all_cons,hs];rfl) (args_cons (noE (h ok F s x0) fun u0 s1 zr0=>by obtain ⟨_,_,⟨kd,xs,e,hk,q⟩,r1,x1,st⟩:=zr0;exact args_nil (by
  subst e
  obtain ⟨a,vs,as,rfl,kr,hp,r⟩:=r1
  have hnew:=fY s1.heap
  have hnew1:s1.heap.get? (s1.heap.objs.size+1)=none:=Heap.get?_none_of_le (Nat.le_succ _)
  have hne1:s1.heap.objs.size+1≠s1.heap.objs.size:=Nat.succ_ne_self _
  have two:∀ a∈[s1.heap.objs.size+1,s1.heap.objs.size],s1.heap.get? a=none:=List.forall_mem_cons.mpr ⟨hnew1,List.forall_mem_singleton.mpr hnew⟩
  have hlen:(fU xs).length=vs.length:=by rw [fU,List.length_map,List.length_zipIdx,r.length]
  rcases hk with rfl | rfl
  ·have hl:=kr.live a (by rw [kr.1];exact List.mem_singleton.mpr rfl)
   have hS:=hp a (by rw [kr.1];exact List.mem_singleton.mpr rfl)
   obtain ⟨_,n,eo⟩:=kr
   have ha:a≠s1.heap.objs.size:=fun q=>by rw [q] at eo;exact gno hnew eo
   have ha1:s1.heap.objs.size+1≠a:=fun q=>by rw [← q] at eo;exact gno hnew1 eo
   refine call_enumerate_list (items:=vs.toArray) ⟨_,eo,rfl,n,rfl⟩ fun h' he hi hz hk=>wpAny_pyIter_enum (s:={ s1 with heap:=h' }) he (.of x1 st q ⟨h',s1.toks,rfl,hk⟩ hlen (ck.enum (l:=a) (fp:=(· = a)) (vs:=vs) (St:=fun i h=>h.IsListIter s1.heap.objs.size a i∧h.IsList a vs.toArray) hq hne1 ha1 (fun u0 q=>q▸ha1.symm)
    (fun zz4 x=>by obtain ⟨⟨o,e1,e2⟩,o',e3,e4⟩:=zz4;exact ⟨⟨o,x.at e1 (.inl rfl),e2⟩,o',x.at e3 (.inr rfl),e4⟩) (fun A hh=>Draws.list hh _ _ ha _) fun zz5=>by obtain ⟨⟨o,e1,e2,_⟩,_⟩:=zz5;exact ⟨o,"list_iterator",e1,e2,by decide⟩) ⟨⟨_,he⟩,hi,_,hk _ _ eo,rfl,n,rfl⟩ r kZ two fun b hb=>hb▸⟨hS,hl⟩)
  ·obtain ⟨_,n,eo⟩:=kr
   have ha:a≠s1.heap.objs.size:=fun q=>by rw [q] at eo;exact gno hnew eo
   have ha1:s1.heap.objs.size+1≠a:=fun q=>by rw [← q] at eo;exact gno hnew1 eo
   refine fg (items:=vs.toArray) ⟨_,eo,rfl,n,rfl⟩ fun h' he hi hz hk=>wpAny_pyIter_enum (s:={ s1 with heap:=h' }) he (.of x1 st q ⟨h',s1.toks,rfl,hk⟩ hlen (ck.enum (l:=a) (fp:=fun u0=>False) (vs:=vs) (St:=fun i h=>h.IsTupleIter s1.heap.objs.size a i∧h.IsTuple a vs.toArray) hq hne1 ha1 (fun u0 q=>q.elim)
    (fun zz6 x=>by obtain ⟨⟨o,e1,e2⟩,o',e3,e4,e5⟩:=zz6;exact ⟨⟨o,x.at e1 (.inl rfl),e2⟩,o',x _ _ e3 (.inr e4),e4,e5⟩) (fun A hh=>Draws.tuple hh _ _ ha _) fun zz7=>by obtain ⟨⟨o,e1,e2,_⟩,_⟩:=zz7;exact ⟨o,"tuple_iterator",e1,e2,by decide⟩) ⟨⟨_,he⟩,hi,_,hk _ _ eo,rfl,n,rfl⟩ r kZ two fun b hb=>hb.elim))) (ag hs))))
end
end Mine
namespace Mine
open PySem PySem.Calls PyProof.Rows PySem.SeqAt PySem.W
structure Stp (c:Cx) (F:Fp) (s:Shared) (F':Fp) (s':Shared):Prop where
 keep:∀ b o,s.heap.get? b=some o→(∀ i,b∉F i)→c.pen≠some b→b≠c.env.locals→(c.fr=true→∀ x,c.env.cells.lookup x≠some b)→(o.cls≠.type "frame"→s'.heap.get? b=some o)∧∃ sl,s'.heap.get? b=some { o with slots:=sl }
 sub:∀ i a,a∈F' i→(∃ j,a∈F j)∨s.heap.get? a=none
 live:∀ b,s'.heap.get? b=none→s.heap.get? b=none
section
variable {c:Cx} {ρ:List Sl} {k k':Nat} {F F' F'':Fp} {s s' s'':Shared} {i:Nat}
theorem Stp.refl:Stp c F s F s:=⟨fun u0 o e u0 u0 u0 u0=>⟨fun u0=>e,o.slots,e⟩,fun i u0 h=>.inl ⟨i,h⟩,fun u0 h=>h⟩
theorem Stp.trans (x:Stp c F s F' s') (y:Stp c F' s' F'' s''):Stp c F s F'' s'' where
 keep:=fun b o e h1 h2 h3 h4=>by
  have h1':∀ i,b∉F' i:=fun i h=>(x.sub i b h).elim (fun zz0=>by obtain ⟨j,hj⟩:=zz0;exact h1 j hj) fun q=>by exact gno q e
  obtain ⟨a,_,b'⟩:=x.keep b o e h1 h2 h3 h4
  exact ⟨fun hf=>(y.keep b o (a hf) h1' h2 h3 h4).1 hf,(y.keep b _ b' h1' h2 h3 h4).2⟩
 sub:=fun i a h=>(y.sub i a h).elim (fun zz1=>by obtain ⟨j,hj⟩:=zz1;exact x.sub j a hj) fun q=>.inr (x.live a q)
 live:=fun b h=>x.live b (y.live b h)
theorem Stp.of_keep (q:av c.pen s.heap s'.heap) (pn:c9 s'.heap c.pen k):Stp c F s F s':=⟨fun b o e u0 h u0 u0=>q b o e h,fun i u0 h=>.inl ⟨i,h⟩,fun u0 h=>q.fresh pn h⟩
theorem ee.xl {h h':Heap} {x:Str} {z:Sl} (r:ee c h F x i z) (hh:∀ v,bj h c.env x v→bj h' c.env x v) (hp:∀ l,be (fun a=>c.S F l a∧ak c.W h a) h h') (hS:∀ l a,c.S F l a→ak c.W h a→c.S F' l a)
  (ho:∀ o,z=.own o→F' i=F i∧∀ a∈F i,∀ o,h.get? a=some o→h'.get? a=some o):ee c h' F' x i z:=by
 cases z with
 | undef=>trivial
 | im d=>exact r.imp fun v q=>⟨hh v q.1,q.2.xl (hp .im) (hS .im)⟩
 | vw d=>exact r.imp fun v q=>⟨hh v q.1,q.2.xl (hp .vw) (hS .vw)⟩
 | own o=>exact r.imp fun v q=>⟨hh v q.1,(ho o rfl).1▸q.2.1.xl (hp .im) (hS .im) (ho o rfl).2,q.2.2⟩
 | pen=>exact r.imp fun v q=>⟨q.1,hh _ q.2⟩
theorem cU {z:Sl} {j:Nat}:(ρ.set i z)[j]?.getD .undef=if j=i∧i < ρ.length then z else ρ[j]?.getD .undef:=by
 by_cases h:j=i
 ·subst h
  rw [List.getElem?_set_self']
  by_cases hl:j < ρ.length
  ·rw [List.getElem?_eq_getElem hl,if_pos ⟨rfl,hl⟩];rfl
  ·rw [List.getElem?_eq_none (Nat.le_of_not_lt hl),if_neg fun q=>hl q.2];rfl
 ·rw [List.getElem?_set_ne (Ne.symm h),if_neg fun q=>h q.1]
theorem SR.undef (x:SR c ρ k F s) (ha:∀ a,c.acc≠some (i,a)):SR c (ρ.set i .undef) k F s where
 w0:=x.w0
 keep:=x.keep
 pen:=x.pen
 vals:=fun y j h=>by
  refine cU▸?_
  split
  ·trivial
  ·exact x.vals y j h
 nd:=x.nd
 dj:=x.dj
 own:=x.own
 env:=x.env
 acc:=fun j a h=>by
  have hj:j≠i:=fun q=>ha a (q▸h)
  exact Eq.symm (List.getElem?_set_ne (Ne.symm hj))▸x.acc j a h
noncomputable def bp (F:Fp) (i:Nat) (N:List Addr):Fp:=fun j=>if j=i then N else F j
theorem aq {N}:bp F i N i=N:=if_pos rfl
theorem aK {N j} (h:j≠i):bp F i N j=F j:=if_neg h
theorem SR.xG {s0:Shared} {k0:Nat} {N:List Addr} (x:SR c ρ k F s) (x0:SR c ρ k0 F s0) (st:av c.pen s0.heap s.heap) (hi:ρ[i]?.getD .undef=.undef) (hN:∀ a∈N,a∈F i∨s0.heap.get? a=none∧ak c.W s.heap a∧a≠c.env.locals) (nd:N.Nodup):SR c ρ k (bp F i N) s∧Stp c F s0 (bp F i N) s:=by
 have hz:∀ j a,a∈bp F i N j→(j≠i∧a∈F j)∨(j=i∧a∈N):=fun j a h=>by
  by_cases hj:j=i
  ·subst hj;rw [aq] at h;exact .inr ⟨rfl,h⟩
  ·rw [aK hj] at h;exact .inl ⟨hj,h⟩
 have hS:∀ l a,c.S F l a→ak c.W s0.heap a→c.S (bp F i N) l a:=fun l a q lv=>by
  have key:(∀ j,a∉F j)→∀ j,a∉bp F i N j:=fun q j h=>by
   rcases hz j a h with ⟨_,h⟩ | ⟨_,h⟩
   ·exact q j h
   ·rcases hN a h with h | h
    ·exact q i h
    ·obtain ⟨o,e,_⟩:=lv;exact gno h.1 e
  cases l with
  | im=>exact ⟨⟨q.1.1,key q.1.2⟩,q.2⟩
  | vw=>exact ⟨key q.1,q.2⟩
  | any=>exact q
 have pr:∀ l,be (fun a=>c.S F l a∧ak c.W s0.heap a) s0.heap s.heap:=fun l=>st.xl x0.pen fun u0 q=>q.xu
 have ownP:∀ j,∀ a∈F j,∀ o,s0.heap.get? a=some o→s.heap.get? a=some o:=fun j a ha o e=>by
  obtain ⟨_,l,p,_⟩:=x0.own j a ha
  obtain ⟨o',e',f,_⟩:=l.nf
  obtain rfl:=geq e e'
  exact (st a o e p).1 f
 refine ⟨⟨x.w0,x.keep,x.pen,fun y j h=>?_,fun j=>?_,fun j j' a hj h h'=>?_,fun j a h=>?_,x.env,fun j a h=>?_⟩,fun b o e u0 h2 u0 u0=>st b o e h2,fun j a h=>?_,fun u0 h=>st.fresh x.pen h⟩
 ·refine (x0.vals y j h).xl (fun v q=>q.keep st x0.pen) pr hS fun o e=>⟨aK fun q=>?_,ownP j⟩
  rw [q] at e;have z:=Eq.trans (Eq.symm hi) e;injection z
 ·by_cases hj:j=i
  ·rw [hj,aq];exact nd
  ·rw [aK hj];exact x.nd j
 ·rcases hz j a h with ⟨a1,a2⟩ | ⟨a1,a2⟩ <;> rcases hz j' a h' with ⟨b1,b2⟩ | ⟨b1,b2⟩
  ·exact x.dj j j' a hj a2 b2
  ·rcases hN a b2 with q | q
   ·exact x.dj j i a a1 a2 q
   ·obtain ⟨_,⟨o,e,_⟩,_⟩:=x0.own j a a2;exact gno q.1 e
  ·rcases hN a a2 with q | q
   ·exact x.dj j' i a b1 b2 q
   ·obtain ⟨_,⟨o,e,_⟩,_⟩:=x0.own j' a b2;exact gno q.1 e
  ·exact hj (a1.trans b1.symm)
 ·rcases hz j a h with ⟨_,a2⟩ | ⟨_,a2⟩
  ·exact x.own j a a2
  ·rcases hN a a2 with q | ⟨q1,q2,q3⟩
   ·exact x.own i a q
   ·exact ⟨x0.fresh q1,q2,(x0.xm (l:=.im) q1).xu,q3⟩
 ·obtain ⟨o,e,r⟩:=x0.acc j a h
  have hj:j≠i:=fun q=>by rw [← q,e] at hi;cases hi
  exact ⟨o,e,(aK hj:bp F i N j=_)▸r.xl (pr .im) (hS .im) (ownP j)⟩
 ·rcases hz j a h with ⟨_,a2⟩ | ⟨_,a2⟩
  ·exact .inl ⟨j,a2⟩
  ·exact (hN a a2).imp (fun q=>⟨i,q⟩) fun q=>q.1
theorem iB.chg {base:Heap} {h h':Heap} (k:∀ b o,h.get? b=some o→o.cls=.type "frame"→∃ o',h'.get? b=some o'∧o'.cls=.type "frame"∧((∃ es n,o.data=.dict es n)→∃ es n,o'.data=.dict es n)):∀ {l},iB h base l→iB h' base l:=by
 intro l
 induction l with
 | nil=>
  exact @fun u0=>trivial
 | cons env rest ihq=>
  intro yy0x0
  obtain ⟨a,⟨L,o,es,n,b1,b2,b3,b4,b5⟩,c⟩:=yy0x0
  obtain ⟨o',e1,e2,e3⟩:=k L o b3 b4
  obtain ⟨es',n',e4⟩:=e3 ⟨es,n,b5⟩
  exact ⟨a,⟨L,o',es',n',b1,b2,e1,e2,e4⟩,ihq c⟩
theorem SR.yb (ok:aJ c) (x:SR c ρ k F s) {a:Addr} {h':Heap} (t:Nat) {o:Obj} (hs:Heap.SameBut a s.heap h') (eo:s.heap.get? a=some o) (hf:o.cls=.type "frame"→∃ o',h'.get? a=some o'∧o'.cls=.type "frame"∧∃ es n,o'.data=.dict es n)
  (hd:∀ v,o.data≠.fields v) (hp:c.pen≠some a) (hn:c.h0.get? a=none):W0 c.W c.A { s with heap:=h',toks:=t }∧av c.pen c.h0 h'∧c9 h' c.pen k:=by
 have same:∀ b o,b≠a→s.heap.get? b=some o→h'.get? b=some o:=fun b o hb e=>(hs.2 b hb).trans e
 have h0:∀ b o,c.h0.get? b=some o→b≠a:=fun b o e q=>by rw [q] at e;exact gno hn e
 have hB:∀ b o2,c.W.base.get? b=some o2→b≠a:=fun b o2 e=>by obtain ⟨_,e'⟩:=ok.bh b o2 e;exact h0 b _ e'
 have hF:∀ b o2 vs,s.heap.get? b=some o2→o2.data=.fields vs→b≠a:=fun b o2 vs e d q=>by subst q;obtain rfl:=geq eo e;exact hd _ d
 refine ⟨⟨fun b o2 e=>same b o2 (hB b o2 e) (x.w0.base b o2 e),x.w0.gens,x.w0.os,?_,x.w0.hand.1,x.w0.hand.2.imp id fun zz2=>by obtain ⟨e,o2,vs,q1,q2,q3,q4,q5⟩:=zz2;exact ⟨e,o2,vs,q1,same _ _ (hF _ _ _ q2 q3) q2,q3,q4,q5⟩⟩,fun b o2 e h2=>?_,fun b hb=>?_⟩
 ·obtain ⟨l,e,f⟩:=x.w0.outer
  refine ⟨l,e,f.chg fun b o2 e2 c2=>?_⟩
  by_cases hb:b=a
  ·subst hb;obtain rfl:=geq eo e2
   exact (hf c2).imp fun u0 q=>⟨q.1,q.2.1,fun u0=>q.2.2⟩
  ·exact ⟨o2,same b o2 hb e2,c2,id⟩
 ·obtain ⟨k1,sl',k2⟩:=x.keep b o2 e h2
  exact ⟨fun h=>same _ _ (h0 b o2 e) (k1 h),sl',same _ _ (h0 b o2 e) k2⟩
 ·obtain ⟨u,v,m,n,z,e,r,r1⟩:=x.pen b hb
  exact ⟨u,v,m,n,z,same _ _ (fun q=>hp (q▸hb)) e,r,r1⟩
theorem SR.yB (x:SR c ρ k F s) {a:Addr} {h':Heap} {t:Nat} {o':Obj} (hs:Heap.SameBut a s.heap h') (eo':h'.get? a=some o') (hC:(∃ i,a∈F i)∨a=c.env.locals∨(c.fr=true∧∃ y,c.env.cells.lookup y=some a)):Stp c F s F { s with heap:=h',toks:=t } where
 keep:=fun b o e h1 u0 h3 h4=>by
  have hb:b≠a:=fun q=>by
   subst q
   rcases hC with ⟨i,h⟩ | h | ⟨h,y,h'⟩
   ·exact h1 i h
   ·exact h3 h
   ·exact h4 h y h'
  exact ⟨fun u0=>(hs.2 b hb).trans e,o.slots,(hs.2 b hb).trans e⟩
 sub:=fun i u0 h=>.inl ⟨i,h⟩
 live:=fun b h=>by
  by_cases hb:b=a
  ·subst hb;have h:=(Eq.symm (show h'.get? b=_ from eo')).trans h;exact no2 h
  ·exact (hs.2 b hb).symm.trans h
theorem SR.but (ok:aJ c) (x:SR c ρ k F s) {a:Addr} {h':Heap} (t:Nat) (hs:Heap.SameBut a s.heap h') (hi:ρ[i]?.getD .undef=.undef) (ha:a∈F i) (hsub:∀ j b,b∈F' j→b∈F j∧(b=a→ak c.W h' b)) (hnd:∀ j,(F' j).Nodup) (hF':∀ j,j≠i→F' j=F j):SR c ρ k F' { s with heap:=h',toks:=t }:=by
 obtain ⟨h1,lv,h2,h3⟩:=x.own i a ha
 obtain ⟨o,eo,f1,f2,f3⟩:=lv.nf
 have hfl:∀ v,o.data≠.fields v:=by obtain ⟨o',e',_,_,r⟩:=lv;obtain rfl:=geq eo e';exact r
 obtain ⟨w,kp,pn⟩:=x.yb ok t hs eo (fun q=>absurd q f1) hfl h2 h1
 have same:∀ b o,b≠a→s.heap.get? b=some o→h'.get? b=some o:=fun b o hb e=>(hs.2 b hb).trans e
 have pr:∀ l,l≠.any→be (fun b=>c.S F l b∧ak c.W s.heap b) s.heap h':=fun l hl b o e c'=>same b o (fun q=>by
  subst q
  rcases c' with c' | c'
  ·cases l with
   | im=>exact c'.1.1.2 i ha
   | vw=>exact c'.1.1 i ha
   | any=>exact hl rfl
  ·obtain rfl:=geq eo e;exact f2 c') e
 have hS:∀ l b,c.S F l b→ak c.W s.heap b→c.S F' l b:=fun l b q u0=>by
  cases l with
  | im=>exact ⟨⟨q.1.1,fun j h=>q.1.2 j (hsub j b h).1⟩,q.2⟩
  | vw=>exact ⟨fun j h=>q.1 j (hsub j b h).1,q.2⟩
  | any=>exact q
 have hns:∀ {m},s.heap.Ns c.env.locals m→h'.Ns c.env.locals m:=fun yq0=>by obtain ⟨o,es,ep,e,r⟩:=yq0;exact ⟨o,es,ep,same _ _ (Ne.symm h3) e,r⟩
 have hcell:∀ {y d},c.env.cells.lookup y=some d→d≠a:=fun {y d} hy q=>by
  obtain ⟨o2,_,e2,_,c2⟩:=x.env.cell y d hy
  rw [q] at e2;obtain rfl:=geq eo e2;exact f3 c2
 have hh:∀ y v,bj s.heap c.env y v→bj h' c.env y v:=fun y v r=>r.imp (fun zz4=>by obtain ⟨a1,m,b1,c1⟩:=zz4;exact ⟨a1,m,hns b1,c1⟩) fun yq1=>by obtain ⟨a1,d,b1,o2,e2,d2⟩:=yq1;exact ⟨a1,d,b1,o2,same _ _ (hcell b1) e2,d2⟩
 have own':∀ j,j≠i→∀ b∈F j,∀ o,s.heap.get? b=some o→h'.get? b=some o:=fun j hj b hb o e=>same b o (fun q=>x.dj j i b hj hb (q▸ha)) e
 refine ⟨w,kp,pn,fun y j hy=>?_,hnd,fun j1 j2 b hj h1 h2=>x.dj j1 j2 b hj (hsub _ _ h1).1 (hsub _ _ h2).1,fun j b hb=>?_,⟨x.env.ns.imp fun u0=>hns,?_,fun y d hy=>?_,x.env.locN,x.env.cellN⟩,fun j b hb=>?_⟩
 ·have r:=x.vals y j hy
  generalize hz:ρ[j]?.getD .undef=z at r
  cases z with
  | undef=>trivial
  | im d=>exact r.imp fun v q=>⟨hh y v q.1,q.2.xl (pr .im nofun) (hS .im)⟩
  | vw d=>exact r.imp fun v q=>⟨hh y v q.1,q.2.xl (pr .vw (fun h=>by cases h)) (hS .vw)⟩
  | own o=>
   have hj:j≠i:=fun q=>by rw [q] at hz;have z:=Eq.trans (Eq.symm hi) hz;injection z
   exact r.imp fun v q=>⟨hh y v q.1,hF' j hj▸q.2.1.xl (pr .im nofun) (hS .im) (own' j hj),q.2.2⟩
  | pen=>exact r.imp fun v q=>⟨q.1,hh y _ q.2⟩
 ·obtain ⟨b0,b00⟩:=hsub j b hb
  obtain ⟨b1,b2,b3,b4⟩:=x.own j b b0
  refine ⟨b1,?_,b3,b4⟩
  by_cases q:b=a
  ·exact b00 q
  ·obtain ⟨o2,e2,r2,r3,r4⟩:=b2;exact ⟨o2,same b o2 q e2,r2,r3,r4⟩
 ·obtain ⟨oL,eL,r⟩:=x.env.lo
  exact ⟨oL,same _ _ (Ne.symm h3) eL,r⟩
 ·obtain ⟨o2,v2,e2,r,r1⟩:=x.env.cell y d hy
  exact ⟨o2,v2,same _ _ (hcell hy) e2,r,r1⟩
 ·obtain ⟨o2,e2,r⟩:=x.acc j b hb
  have hj:j≠i:=fun q=>by rw [← q,e2] at hi;cases hi
  exact ⟨o2,e2,hF' j hj▸r.xl (pr .im nofun) (hS .im) (own' j hj)⟩
theorem SR.ym (ok:aJ c) (x:SR c ρ k F s) {a:Addr} {h':Heap} (t:Nat) (hs:Heap.SameBut a s.heap h') (hi:ρ[i]?.getD .undef=.undef) (ha:a∈F i) (hl:ak c.W h' a) :
  SR c ρ k F { s with heap:=h',toks:=t }∧Stp c F s F { s with heap:=h',toks:=t }:=by
 obtain ⟨o',eo',_⟩:=id hl
 exact ⟨x.but ok t hs hi ha (fun u0 u0 h=>⟨h,fun q=>q▸hl⟩) x.nd fun u0 u0=>rfl,x.yB hs eo' (.inl ⟨i,ha⟩)⟩
theorem SR.lose (ok:aJ c) {F0:Fp} {s0:Shared} (x:SR c ρ k F s) (st:Stp c F0 s0 F s) {a:Addr} {h':Heap} (t:Nat) (hs:Heap.SameBut a s.heap h') (hi:ρ[i]?.getD .undef=.undef) (hF:F i=[a]) (hn:s0.heap.get? a=none):SR c ρ k (bp F i []) { s with heap:=h',toks:=t }∧Stp c F0 s0 (bp F i []) { s with heap:=h',toks:=t }:=by
 have mem:∀ j b,b∈bp F i [] j→j≠i∧b∈F j:=fun j b h=>by
  by_cases hj:j=i
  ·subst hj;have h:=aq▸h;cases h
  ·rw [aK hj] at h;exact ⟨hj,h⟩
 have ha:a∈F i:=by rw [hF];exact List.mem_singleton.mpr rfl
 have same:∀ b,b≠a→∀ o,s.heap.get? b=some o→h'.get? b=some o:=fun b hb o e=>(hs.2 b hb).trans e
 refine ⟨x.but ok t hs hi ha (fun j b h=>⟨(mem j b h).2,fun q=>absurd ha (x.dj j i a (mem j b h).1 (q▸(mem j b h).2))⟩) (fun j=>?_) fun j hj=>aK hj,fun b o e h1 h2 h3 h4=>?_,fun j b h=>st.sub j b (mem j b h).2,fun b h=>?_⟩
 ·by_cases hj:j=i
  ·subst hj;rw [aq];exact .nil
  ·rw [aK hj];exact x.nd j
 ·have hb:b≠a:=fun q=>by rw [q] at e;exact gno hn e
  obtain ⟨a1,_,b1⟩:=st.keep b o e h1 h2 h3 h4
  exact ⟨fun hf=>same b hb o (a1 hf),_,same b hb _ b1⟩
 ·by_cases hb:b=a
  ·exact hb▸hn
  ·exact st.live b ((hs.2 b hb).symm.trans h)
theorem SR.fill (x:SR c ρ k F s) {z:Sl} (hz:∀ y,c.sl.lookup y=some i→ee c s.heap F y i z) (ha:∀ a,c.acc=some (i,a)→∃ o,z=.own o∧VO c.W s.heap (c.S F .im) o (.ref a) (F i)∧i < ρ.length):SR c (ρ.set i z) k F s where
 w0:=x.w0
 keep:=x.keep
 pen:=x.pen
 vals:=fun y j h=>by
  refine cU▸?_
  split
  ·rename_i q;rw [q.1] at h ⊢;exact hz y h
  ·exact x.vals y j h
 nd:=x.nd
 dj:=x.dj
 own:=x.own
 env:=x.env
 acc:=fun j a h=>by
  by_cases hj:j=i
  ·subst hj
   obtain ⟨o,rfl,r,hl⟩:=ha a h
   exact ⟨o,List.getElem?_set_self hl,r⟩
  ·exact Eq.symm (List.getElem?_set_ne (Ne.symm hj))▸x.acc j a h
theorem SR.freeze (x:SR c ρ k F s) {o:O} (hi:ρ[i]? = some (.own o)) (hacc:∀ a,c.acc≠some (i,a)):SR c (ρ.set i (.im o.toD)) k (bp F i []) s∧Stp c F s (bp F i []) s:=by
 have x1:=x.undef (i:=i) hacc
 have hl:=(List.getElem?_eq_some_iff.mp hi).1
 obtain ⟨x2,st⟩:=x1.xG x1 .refl (i:=i) (N:=[]) (by rw [cU,if_pos ⟨rfl,hl⟩]) (fun u0 h=>aE h) .nil
 have:=x2.fill (i:=i) (z:=.im o.toD) (fun y hy=>?_) fun a h=>absurd h (hacc a)
 ·rw [List.set_set] at this;exact ⟨this,st⟩
 ·have r:=x.vals y i hy
  rw [hi] at r
  obtain ⟨v,hv,r,_⟩:=r
  have sub:∀ j a,a∈bp F i [] j→j≠i∧a∈F j:=fun j a h=>by
   by_cases hj:j=i
   ·subst hj;have h:=aq▸h;cases h
   ·rw [aK hj] at h;exact ⟨hj,h⟩
  exact ⟨v,hv,r.view (fun a q=>⟨⟨q.1.1,fun j h=>q.1.2 j (sub j a h).2⟩,q.2⟩) fun a ha=>⟨⟨.inr (x.own i a ha).1,fun j h=>x.dj j i a (sub j a h).1 (sub j a h).2 ha⟩,(x.own i a ha).2.2⟩⟩
end
end Mine
namespace Mine
open PySem PySem.Calls PyProof.Rows PySem.SeqAt PySem.W
section
variable {s:Shared}
theorem qp (M:Model) (Γ:Ctx) (E:Value→Pos→Shared→Prop) (p:Pos) {s:Shared} {a:Addr} {m} {o:Obj} (ho:s.heap.get? a=some o) (hn:s.heap.Ns a m) (name:Str) (v:Value) (Q:Unit→Pos→Shared→Prop)
  (hQ:∀ h' o',h'.Ns a (fun x=>if x=name then some v else m x)→Heap.SameBut a s.heap h'→h'.get? a=some o'→o'.cls=o.cls→(∃ es n,o'.data=.dict es n)→
   Q () p { s with heap:=h',toks:=s.toks+1 }):Sem.wp M Γ (nsSet a name v) Q E p s:=by
 obtain ⟨o₁,es,ep,ho₁,hd,hk,hm⟩:=hn
 obtain rfl:=geq ho ho₁
 simp only [nsSet,strHash,Sem.wp_bind',Sem.wp_cmd_ask,Sem.wp_pure',Sem.wp_cmd_mkText]
 rw [Sem.wp_loadPart_of M Γ E p { s with toks:=s.toks+1 } (o:=o) _ ho]
 have hany:es.any (·.refKey)=false:=by
  rw [Array.any_eq_false'];intro e he;obtain ⟨n,t,h⟩:=hk e he;simp [DictEntry.refKey,h]
 obtain ⟨c,d,dt,sl⟩:=o
 subst hd
 dsimp only
 simp only [aRefKeyMayBeTheName_eq,aRefKeyMayBeTheNameByArray,hany,Bool.and_false,Bool.false_eq_true,if_false,Sem.wp_cmd_updatePart]
 cases hi:es.findIdx? (·.key.isStr name) with
 | some i=>
  refine ⟨by rw [ho];rfl,hQ _ _ ⟨_,_,ep,Heap.get?_update_self _ ho (by simp only [Obj.putName_eq,Obj.putNameByArray,hi];rfl),by simp only [Obj.putName_eq,Obj.putNameByArray,hi];rfl,hk.modify _ _,fun x=>?_⟩ (Heap.SameBut.update ..)
   (Heap.get?_update_self _ ho (by simp only [Obj.putName_eq,Obj.putNameByArray,hi];rfl)) (by simp only [Obj.putName_eq,Obj.putNameByArray,hi]) ⟨_,_,by simp only [Obj.putName_eq,Obj.putNameByArray,hi];rfl⟩⟩
  show _=if x=name then some v else m x
  rw [← hm];exact findBy_modify (fun n v=>v.isStr n) Value.isStr_inj es name x v i hi
 | none=>
  refine ⟨by rw [ho];rfl,hQ _ _ ⟨_,_,ep+1,Heap.get?_update_self _ ho (by simp only [Obj.putName_eq,Obj.putNameByArray,hi];rfl),by simp only [Obj.putName_eq,Obj.putNameByArray,hi];rfl,hk.push _ _ _ _,fun x=>?_⟩ (Heap.SameBut.update ..)
   (Heap.get?_update_self _ ho (by simp only [Obj.putName_eq,Obj.putNameByArray,hi];rfl)) (by simp only [Obj.putName_eq,Obj.putNameByArray,hi]) ⟨_,_,by simp only [Obj.putName_eq,Obj.putNameByArray,hi];rfl⟩⟩
  show _=if x=name then some v else m x
  rw [← hm]
  exact findBy_push (fun n v=>v.isStr n) es name x _ _ v (fun y=>by
   show (name == y)=decide (y=name)
   by_cases h:y=name
   ·subst h;simp
   ·have:¬ name=y:=fun e=>h e.symm
    simp [h,this]) hi
theorem mv {M:Model} {A:Around} {E:Value→Shared→Prop} {s:Shared} {env:Env} {name:Str} {m} {v:Value} {o:Obj} {Q:Unit→Shared→Prop} (hl:env.kindOf name=some .local) (hk:env.scope.kind=.function)
  (ho:s.heap.get? env.locals=some o) (hn:s.heap.Ns env.locals m)
  (h:∀ h' o',h'.Ns env.locals (fun x=>if x=name then some v else m x)→Heap.SameBut env.locals s.heap h'→h'.get? env.locals=some o'→o'.cls=o.cls→(∃ es n,o'.data=.dict es n)→
   Q () { s with heap:=h',toks:=s.toks+1 }):wpAny M A (storeName env name v) Q E s:=by
 rw [storeName_local hl (by rw [hk];rfl)]
 exact fun Γ p u0=>qp M Γ _ p ho hn name v _ h
theorem jW {env:Env} {name:Str} {v:Value} (hl:env.kindOf name=some .cell) (hk:env.scope.kind=.function):storeName env name v=(cellOf env name >>= fun c=>cellSet c (some v)):=by
 unfold storeName
 rw [hl,hk];rfl
theorem rh {M:Model} {E:Value→Shared→Prop} {c:Addr} {o:Obj} {v₀ v:Option Value} {Q:Unit→Shared→Prop} (e:s.heap.get? c=some o) (d:o.data=.cell v₀)
  (h:∀ h',h'.get? c=some { o with data:=.cell v }→Heap.SameBut c s.heap h'→Q () { s with heap:=h' }):wpAny M A (cellSet c v) Q E s:=by
 unfold cellSet
 refine wpAny_bind (wpAny_load e ?_)
 rw [d]
 exact wpAny_update e (h _ (Heap.get?_update_self _ e rfl) (Heap.SameBut.update ..))
end
section
variable {c:Cx} {ρ:List Sl} {k k':Nat} {F F':Fp} {s s':Shared} {i:Nat} {E:Value→Shared→Prop}
noncomputable def pb (c:Cx) (x:Str):Prop:=c.env.kindOf x=some .local∨(c.fr=true∧c.env.kindOf x=some .cell∧∃ d,c.env.cells.lookup x=some d)
theorem SR.put (ok:aJ c) (x:SR c ρ k F s) {M:Model} {A:Around} {name:Str} {v:Value} {z:Sl} {Q:Unit→Shared→Prop} (hi:ρ[i]?.getD .undef=.undef) (hsl:c.sl.lookup name=some i) (hk:pb c name) (hacc:∀ a,c.acc≠some (i,a))
  (hz:∀ h',bj h' c.env name v→be (fun b=>b≠c.env.locals∧ak c.W s.heap b) s.heap h'→ee c h' F name i z)
  (q:∀ s',SR c (ρ.set i z) k F s'→Stp c F s F s'→be (fun b=>b≠c.env.locals∧ak c.W s.heap b) s.heap s'.heap→Q () s'):wpAny M A (storeName c.env name v) Q E s:=by
 obtain ⟨m,hm⟩:=x.env.ns
 obtain ⟨oL,eL,cL⟩:=x.env.lo
 obtain ⟨oL',esL,epL,eL',dL,_⟩:=id hm
 obtain rfl:=geq eL eL'
 have mm:∀ m',s.heap.Ns c.env.locals m'→m'=m:=fun m' a2=>by
  obtain ⟨o,es,ep,ho,hd,_,hf⟩:=a2
  obtain ⟨o',es',ep',ho',hd',_,hf'⟩:=hm
  obtain rfl:=geq ho ho'
  have z:=Eq.trans (Eq.symm hd) hd';injection z with z0a z0b;try subst z0a;try subst z0b
  funext z;rw [← hf z,← hf' z]
 have fin:∀ {a h' t o o'},Heap.SameBut a s.heap h'→s.heap.get? a=some o→h'.get? a=some o'→(o.cls=.type "frame"→o'.cls=.type "frame"∧∃ es n,o'.data=.dict es n)→(∀ v,o.data≠.fields v)→o.cls≠.type "list"→o.cls≠.type "tuple"→c.h0.get? a=none→
   (a=c.env.locals∨(c.fr=true∧∃ y,c.env.cells.lookup y=some a))→(∀ b,b≠c.env.locals→ak c.W s.heap b→b≠a)→tD c h'→bj h' c.env name v→(∀ y u,y≠name→bj s.heap c.env y u→bj h' c.env y u)→Q () { s with heap:=h',toks:=t }:=by
  intro a h' t o o' hs eo eo' hf hd hl ht hn hC hne hE hh hother
  obtain ⟨w,kp,pn⟩:=x.yb ok t hs eo (fun q=>⟨o',eo',hf q⟩) hd (x.pen.ne eo hl) hn
  have pr:be (fun b=>b≠c.env.locals∧ak c.W s.heap b) s.heap h':=fun b o2 e2 c2=>(hs.2 b fun q=>by
   subst q
   rcases c2 with c2 | c2
   ·exact hne _ c2.1 c2.2 rfl
   ·obtain rfl:=geq eo e2;exact ht c2).trans e2
  have pr':∀ l,be (fun b=>c.S F l b∧ak c.W s.heap b) s.heap h':=fun l=>pr.mono fun b hb=>⟨hb.1.2.2,hb.2⟩
  have own':∀ j,∀ b∈F j,∀ o,s.heap.get? b=some o→h'.get? b=some o:=fun j b hb o e=>pr.at e ⟨(x.own j b hb).2.2.2,(x.own j b hb).2.1⟩
  have X:SR c (ρ.set i z) k F { s with heap:=h',toks:=t }:=by
   refine ⟨w,kp,pn,fun y j hy=>?_,x.nd,x.dj,fun j b hb=>?_,hE,fun j b hb=>?_⟩
   ·rw [cU]
    split
    ·rename_i q
     rw [q.1] at hy ⊢
     rw [ok.inj y name i hy hsl]
     exact hz _ hh pr
    ·rename_i q
     by_cases hj:j=i
     ·rw [hj,hi];trivial
     ·exact (x.vals y j hy).xl (fun u=>hother y u fun q=>hj (by rw [q,hsl] at hy;exact (Option.some.inj hy).symm)) pr' (fun u0 u0 q u0=>q) fun u0 u0=>⟨rfl,own' j⟩
   ·obtain ⟨b1,⟨o2,e2,r2,r3,r4⟩,b3,b4⟩:=x.own j b hb
    exact ⟨b1,⟨o2,own' j b hb o2 e2,r2,r3,r4⟩,b3,b4⟩
   ·obtain ⟨o2,e2,r⟩:=x.acc j b hb
    have hj:j≠i:=fun q=>hacc b (q▸hb)
    rw [List.getElem?_set_ne (Ne.symm hj)]
    exact ⟨o2,e2,r.xl (pr' .im) (fun u0 q u0=>q) (own' j)⟩
  exact q _ X (x.yB hs eo' (.inr hC)) pr
 rcases hk with hl | ⟨hfr,hl,d,hc⟩
 ·refine mv hl ok.env.kind eL hm fun h' o' hn' hsb eo' hcl hdd=>?_
  have nc:∀ y d,c.env.cells.lookup y=some d→d≠c.env.locals:=fun y d hd q=>by
   obtain ⟨o,v,e,d',_⟩:=x.env.cell y _ hd
   rw [q] at e;obtain rfl:=geq eL e;have z:=Eq.trans (Eq.symm dL) d';injection z
  refine fin hsb eL eo' (fun hf=>⟨hcl.trans hf,hdd⟩) (fun v hv=>by have z:=Eq.trans (Eq.symm dL) hv;injection z) cL.ne.1 cL.ne.2.1 x.env.locN (.inl rfl) (fun u0 h u0=>h) ⟨⟨_,hn'⟩,⟨o',eo',hcl▸cL⟩,fun y d hd=>?_,x.env.locN,x.env.cellN⟩ (.inl ⟨hl,_,hn',by simp⟩) fun y u hy hh=>?_
  ·obtain ⟨o,v,e,r,r1⟩:=x.env.cell y d hd
   exact ⟨o,v,(hsb.2 d (nc y d hd)).trans e,r,r1⟩
  ·rcases hh with ⟨a1,m',a2,a3⟩ | ⟨a1,ce,a2,a3⟩
   ·obtain rfl:=mm _ a2
    exact .inl ⟨a1,_,hn',by rw [if_neg hy];exact a3⟩
   ·exact .inr ⟨a1,ce,a2,a3.sameBut hsb (nc y ce a2)⟩
 ·obtain ⟨o,v0,e,d',kc⟩:=x.env.cell name d hc
  have hcL:d≠c.env.locals:=fun q=>by rw [q] at e;obtain rfl:=geq eL e;have z:=Eq.trans (Eq.symm dL) d';injection z
  rw [jW hl ok.env.kind]
  refine wpAny_bind (wpAny_cellOf hc (rh e d' fun h' eo' hsb=>?_))
  refine fin (t:=s.toks) hsb e eo' (fun hf=>absurd (kc.symm.trans hf) (by simp)) (fun v hv=>by have z:=Eq.trans (Eq.symm d') hv;injection z) (by rw [kc];simp) (by rw [kc];simp) (x.env.cellN hfr name d hc) (.inr ⟨hfr,name,hc⟩) (fun b u0 hb q=>?_)
   ⟨⟨m,hm.sameBut hsb (Ne.symm hcL)⟩,⟨oL,(hsb.2 _ (Ne.symm hcL)).trans eL,cL⟩,fun y d2 hd2=>?_,x.env.locN,x.env.cellN⟩ (.inr ⟨.inl hl,d,hc,_,eo',rfl⟩) fun y u hy hh=>?_
  ·obtain ⟨o2,e2,_,_,f⟩:=hb.nf
   rw [q] at e2;obtain rfl:=geq e e2;exact f kc
  ·by_cases hcc:d2=d
   ·subst hcc;exact ⟨_,_,eo',rfl,kc⟩
   ·obtain ⟨o2,v2,e2,r2,r3⟩:=x.env.cell y d2 hd2
    exact ⟨o2,v2,(hsb.2 d2 hcc).trans e2,r2,r3⟩
  ·rcases hh with ⟨a1,m',a2,a3⟩ | ⟨a1,ce,a2,a3⟩
   ·exact .inl ⟨a1,m',a2.sameBut hsb (Ne.symm hcL),a3⟩
   ·exact .inr ⟨a1,ce,a2,a3.sameBut hsb fun q=>hy (ok.env.apart y name d (q▸a2) hc)⟩
end
end Mine
namespace Mine
open PySem PySem.Calls PyProof.Rows PySem.SeqAt PySem.W
theorem iB.fun {h base:Heap}:∀ {l},iB h base l→h.FunFrames base l:=by
 intro l
 induction l with
 | nil=>
  exact @fun u0=>trivial
 | cons env rest ihq=>
  exact @fun yy0x0=>by obtain ⟨a,⟨L,o,es,n,b1,b2,b3,b4,b5⟩,c⟩:=yy0x0;exact ⟨a,⟨L,o,b1,b2,b3,fun vs q=>by have z:=Eq.trans (Eq.symm b5) q;injection z⟩,ihq c⟩
theorem iB.mem {h base:Heap}:∀ {l},iB h base l→∀ {b},b∈l.filterMap (·.frame)→base.get? b=none∧∃ o,h.get? b=some o∧o.cls=.type "frame"∧∃ es n,o.data=.dict es n:=by
 intro l
 induction l with
 | nil=>
  exact @fun u0 b hb=>by simp at hb
 | cons env rest ihq=>
  intro yy1x0 b hb
  obtain ⟨a,⟨L,o,es,n,b1,b2,b3,b4,b5⟩,c⟩:=yy1x0
  rw [List.filterMap_cons,b1] at hb
  rcases List.mem_cons.mp hb with e | hb
  ·subst e;exact ⟨b2,o,b3,b4,es,n,b5⟩
  ·exact ihq c hb
section
variable {M:Model} {A:Around} {E:Value→Shared→Prop} {s:Shared}
theorem rK {base:Heap} {env:Env} {outer:List Env} {L e:Addr} {oe:Obj} {vs:Array Value} {head:Value} {hadNext:Bool} {Q:Unit→Shared→Prop}
  (hfr:A.frames=some (env::outer)) (hl:iB s.heap base (env::outer)) (hf:env.frame=some L) (he:s.heap.get? e=some oe) (hd:oe.data=.fields vs) (hsz:1 < vs.size)
  (h:∀ h' T,s.heap.get? T=none→T≠e→h'.get? e=some (oe.mapFields (·.setIfInBounds 1 (.ref T)))→(∃ oT ts,h'.get? T=some oT∧oT.data=.fields ts∧ts[3]? = some (rawInt L)∧oT.cls=.type "traceback")→
   (∀ b o,b≠e→s.heap.get? b=some o→(b∉(env::outer).filterMap (·.frame)→h'.get? b=some o)∧∃ sl,h'.get? b=some { o with slots:=sl })→Q () { s with heap:=h' }) :
  wpAny M A (do let a ← frameOf env;let pl ← entryPlaceOf L hadNext;let b ← EntryCells.newEntry head a .none (rawInt L) .none pl;setField (.ref e) 1 b) Q E s:=by
 have hene:e∉(env::outer).filterMap (·.frame):=fun hm=>by
  obtain ⟨_,o,ho,hnf⟩:=hl.fun.mem hm
  rw [he] at ho;injection ho with ho;subst ho;exact hnf vs hd
 refine wpAny_bind (wpAny_frameOf_fun hfr hl.fun hf fun h₁ hs₁=>?_)
 refine wpAny_bind (wpAny_entryPlaceOf fun pl hpl=>?_)
 unfold EntryCells.newEntry newFields
 refine wpAny_bind (wpAny_newObj_type ?_ (hpl.sizeOk5 _ _ _ _ _))
 have he₁:h₁.get? e=some oe:=(hs₁.2.1 e hene).trans he
 have he₂:=Heap.get?_push_of_some (h:=h₁) { cls:=.type "traceback",dict:=none,data:=.fields ([head,.ref L,.none,rawInt L,.none]++(if pl.isEmpty then List.replicate 6 Value.none else pl)).toArray } he₁
 refine wpAny_setField he₂ hd hsz ?_
 have hTe:h₁.objs.size≠e:=Nat.ne_of_gt (Heap.lt_size he₁)
 have hd₃:=Obj.data_mapFields hd (·.setIfInBounds 1 (Value.ref h₁.objs.size))
 refine h _ h₁.objs.size (Heap.get?_none_of_le (by rw [hs₁.1];exact Nat.le_refl _)) hTe (Heap.get?_update_self _ he₂ (Obj.isFreed_of_fields hd₃)) ⟨{ cls:=.type "traceback",dict:=none,data:=.fields ([head,.ref L,.none,rawInt L,.none]++(if pl.isEmpty then List.replicate 6 Value.none else pl)).toArray },_,?_,rfl,by simp,rfl⟩ fun b o hb eb=>?_
 ·rw [Heap.get?_update_other _ _ (Ne.symm hTe)]
  exact Heap.get?_push_size h₁ rfl
 ·have up:∀ o,h₁.get? b=some o→_:=fun o e=>(Heap.get?_update_other _ (Obj.mapFields (·.setIfInBounds 1 (Value.ref h₁.objs.size))) (Ne.symm hb)).trans (Heap.get?_push_of_some { cls:=.type "traceback",dict:=none,data:=.fields ([head,.ref L,.none,rawInt L,.none]++(if pl.isEmpty then List.replicate 6 Value.none else pl)).toArray } e)
  refine ⟨fun hc=>up _ ((hs₁.2.1 b hc).trans eb),?_⟩
  obtain ⟨sl,e'⟩:=hs₁.2.2 b o eb
  exact ⟨sl,up _ e'⟩
end
inductive Fly0 (W:Wd) (h:Heap) (a:Addr):Prop
 | mk (oe:Obj) (vs:Array Value) (e1:h.get? a=some oe) (e2:oe.cls=.ref W.excA) (e3:oe.data=.fields vs) (e4:vs[1]? = some .none) (e5:vs[2]? = some .none)
inductive Fly1 (W:Wd) (h:Heap) (fr:Addr→Prop) (a:Addr) (fl:Value):Prop
 | mk (T:Addr) (hT:fr T) (hne:T≠a) (oe:Obj) (vs:Array Value) (oT:Obj) (ts:Array Value) (e1:h.get? a=some oe) (e2:oe.cls=.ref W.excA) (e3:oe.data=.fields vs) (e4:vs[1]? = some (.ref T)) (e5:vs[2]? = some .none)
  (e6:h.get? T=some oT) (e7:oT.data=.fields ts) (e8:ts[3]? = some fl) (e9:oT.cls=.type "traceback")
noncomputable def EFl (W:Wd) (h:Heap) (fr:Addr→Prop) (a:Addr):Option Value→Prop
 | none=>Fly0 W h a
 | some f=>Fly1 W h fr a f
noncomputable def wX (env:Env) (fl:Option Value):Prop:=fl=none∨fl=some .none∨fl=some (rawInt env.locals)
inductive Fl | next | cont | ret (d:D) | exc
noncomputable def Cx.R (c:Cx) (a:Addr):Prop:=(c.S0 a∨c.h0.get? a=none)∧c.pen≠some a
noncomputable def FlR (c:Cx) (h:Heap):Fl→Flow→Prop
 | .next,f=>f=.next
 | .cont,f=>f=.cont
 | .ret d,f=>∃ v,f=.ret v∧VR c.W h c.R d v
 | .exc,_=>False
noncomputable abbrev Post:=Fl→List Sl→Nat→Prop
inductive Out (c:Cx) (F:Fp) (Q:Post) (s:Shared) (fv:Flow) (s':Shared):Prop
 | mk (f:Fl) (ρ':List Sl) (k':Nat) (F':Fp) (q:Q f ρ' k') (r:FlR c s'.heap f fv) (x:SR c ρ' k' F' s') (st:Stp c F s F' s')
inductive fO (c:Cx) (F:Fp) (Q:Post) (s:Shared) (fl:Option Value) (a:Addr) (s':Shared):Prop
 | mk (ρ':List Sl) (k':Nat) (F':Fp) (q:Q .exc ρ' k') (hn:s.heap.get? a=none) (ef:EFl c.W s'.heap (fun b=>s.heap.get? b=none) a fl) (x:SR c ρ' k' F' s') (st:Stp c F s F' s')
inductive Pas (c:Cx) (F:Fp) (Q:Post) (s:Shared) (e:Value) (s':Shared):Prop
 | mk (a:Addr) (fl:Option Value) (h1:e=.ref a) (h2:wX c.env fl) (h3:fO c F Q s fl a s')
noncomputable def TrS (c:Cx) (ρ:List Sl) (k:Nat) (e:Stmt) (Q:Post):Prop:=aJ c→c.fr=true→∀ F s,SR c ρ k F s→wpAny c.M c.A (exec e c.env) (Out c F Q s) (Pas c F Q s) s
noncomputable def TrB (c:Cx) (ρ:List Sl) (k:Nat) (es:List Stmt) (Q:Post):Prop:=aJ c→c.fr=true→∀ F s,SR c ρ k F s→wpAny c.M c.A (execs es c.env) (Out c F Q s) (Pas c F Q s) s
noncomputable def dG (W:Wd) (v:Value):Prop:=¬ vc W v∧v≠.type "tuple"
noncomputable def v8 (ex:Addr→Prop) (h h':Heap):Prop:=∀ b o,h.get? b=some o→¬ ex b→(o.cls≠.type "frame"→h'.get? b=some o)∧∃ sl,h'.get? b=some { o with slots:=sl }
section
variable {c:Cx} {ρ:List Sl} {k k':Nat} {F F' F0:Fp} {s s' s0:Shared} {i:Nat} {E:Value→Shared→Prop} {h':Heap} {t:Nat} {ex:Addr→Prop} {Q Q':Post}
theorem dG.mut {W:Wd} {v:Value} (h:dG W v):v≠.type "list"∧v≠.type "dict"∧v≠.type "frame"∧v≠.type "cell"∧v≠.type "tuple"∧∀ k,v≠.ref (W.ca k):=
 ⟨fun q=>h.1 (.inl q),fun q=>h.1 (.inr (.inl q)),fun q=>h.1 (.inr (.inr (.inl q))),fun q=>h.1 (.inr (.inr (.inr (.inl q)))),h.2,fun k q=>h.1 (.inr (.inr (.inr (.inr ⟨k,q⟩))))⟩
theorem dG.type {W:Wd} {T:String} (hT:(["list","dict","cell","frame","tuple"].contains T)=false):dG W (.type T):=
 ⟨fun m=>(by rcases m with m | m | m | m | ⟨k,m⟩ <;> cases m <;> cases hT),fun m=>(by injection m with z0a;try subst z0a;cases hT)⟩
theorem ItO.xo {W:Wd} {h:Heap} {a} (x:ItO h a):∃ o,h.get? a=some o∧dG W o.cls:=by
 obtain ⟨o,T,e,c,hT⟩:=x
 exact ⟨o,e,c▸.type hT⟩
theorem SR.xo (x:SR c ρ k F s) (hx:∀ b,ex b→c.Nu b∧(∃ o,s.heap.get? b=some o∧dG c.W o.cls)) (hk:v8 ex s.heap h') (hb:c.W.base.StaysIn h'):SR c ρ k F { s with heap:=h',toks:=t }:=by
 have nx:∀ {b o},s.heap.get? b=some o→¬ dG c.W o.cls→¬ ex b:=fun e h q=>by
  obtain ⟨_,o',e',a⟩:=hx _ q
  obtain rfl:=geq e e';exact h a
 have h0x:∀ {b o},c.h0.get? b=some o→¬ ex b:=fun e q=>by exact gno ((hx _ q).1.1) e
 have lv:∀ {b},ak c.W s.heap b→∀ o,s.heap.get? b=some o→h'.get? b=some o:=fun {b} l o e=>by
  obtain ⟨o',e',f,_⟩:=l.nf
  obtain ⟨o'',e'',g,_⟩:=l
  rw [e] at e' e'';have z0:=Option.some.inj e';try subst z0;have z0:=Option.some.inj e'';try subst z0
  exact (hk b o e (nx e fun a=>by rcases g with g | g | ⟨k,g⟩;exact a.mut.1 g;exact a.mut.2.1 g;exact a.mut.2.2.2.2.2 k g)).1 f
 have pr:∀ l,be (fun a=>c.S F l a∧ak c.W s.heap a) s.heap h':=fun l b o e h=>h.elim (fun h=>lv h.2 o e) fun h=>(hk b o e (nx e fun a=>a.mut.2.2.2.2.1 h)).1 (by rw [h];simp)
 have fr:∀ {b o},s.heap.get? b=some o→(o.cls=.type "frame"∨o.cls=.type "dict")→∃ sl,h'.get? b=some { o with slots:=sl }:=fun {b o} e h=>(hk b o e (nx e fun a=>h.elim a.mut.2.2.1 a.mut.2.1)).2
 have locf:∀ o,s.heap.get? c.env.locals=some o→∃ sl,h'.get? c.env.locals=some { o with slots:=sl }:=fun o e=>fr e (by
  obtain ⟨oL,eL,r⟩:=x.env.lo
  obtain rfl:=geq e eL;exact r.imp And.left And.left)
 have hns:∀ {m},s.heap.Ns c.env.locals m→h'.Ns c.env.locals m:=fun yq0=>by obtain ⟨o,es,ep,e,d,r⟩:=yq0;exact by obtain ⟨_,e'⟩:=locf o e;exact ⟨_,es,ep,e',d,r⟩
 have hcell:∀ {y d o},c.env.cells.lookup y=some d→s.heap.get? d=some o→o.cls=.type "cell"→h'.get? d=some o:=fun u0 e c'=>(hk _ _ e (nx e fun a=>a.mut.2.2.2.1 c')).1 (by rw [c'];simp)
 have hh:∀ y v,bj s.heap c.env y v→bj h' c.env y v:=fun y v r=>r.imp (fun zz1=>by obtain ⟨a1,m,b1,c1⟩:=zz1;exact ⟨a1,m,hns b1,c1⟩) fun zz2=>by
  obtain ⟨a1,d,b1,o2,e2,d2⟩:=zz2
  obtain ⟨o3,_,e3,_,c3⟩:=x.env.cell y d b1
  obtain rfl:=geq e2 e3
  exact ⟨a1,d,b1,o2,hcell b1 e2 c3,d2⟩
 have hF:∀ j,∀ b∈F j,∀ o,s.heap.get? b=some o→h'.get? b=some o:=fun j b hb=>lv (x.own j b hb).2.1
 refine ⟨⟨hb,x.w0.gens,x.w0.os,?_,x.w0.hand.1,?_⟩,fun b o e hp=>?_,fun b hb=>?_,fun y j hy=>(x.vals y j hy).xl (hh y) pr (fun u0 u0 q u0=>q) fun u0 u0=>⟨rfl,hF j⟩,x.nd,x.dj,fun j b hb=>?_,⟨x.env.ns.imp fun u0=>hns,?_,fun y d hy=>?_,x.env.locN,x.env.cellN⟩,fun j b hb=>?_⟩
 ·obtain ⟨l,e,f⟩:=x.w0.outer
  exact ⟨l,e,f.step fun b o e2 c2=>fr e2 (.inl c2)⟩
 ·exact x.w0.hand.2.imp id fun yq1=>by obtain ⟨e,o2,vs,q1,q2,q3,q4,q5⟩:=yq1;exact ⟨e,o2,vs,q1,(hk _ _ q2 fun q=>(hx _ q).1.2 q1).1 fun q=>q5 (.inr (.inr (.inl q))),q3,q4,q5⟩
 ·obtain ⟨k1,sl',k2⟩:=x.keep b o e hp
  refine ⟨fun h=>(hk b o (k1 h) (h0x e)).1 h,?_⟩
  obtain ⟨_,sl'',e'⟩:=hk b _ k2 (h0x e)
  exact ⟨sl'',e'⟩
 ·obtain ⟨u,v,m,n,z,e,r,r1⟩:=x.pen b hb
  exact ⟨u,v,m,n,z,lv (.lst e) _ e,r,r1⟩
 ·obtain ⟨b1,b2,b3⟩:=x.own j b hb
  have lb:=lv b2
  obtain ⟨o,e,r,r1,r2⟩:=b2
  exact ⟨b1,⟨o,lb o e,r,r1,r2⟩,b3⟩
 ·obtain ⟨oL,eL,r⟩:=x.env.lo
  obtain ⟨sl,e'⟩:=locf oL eL
  exact ⟨_,e',r⟩
 ·obtain ⟨o2,v2,e2,d2,c2⟩:=x.env.cell y d hy
  exact ⟨o2,v2,hcell hy e2 c2,d2,c2⟩
 ·obtain ⟨o2,e2,r⟩:=x.acc j b hb
  exact ⟨o2,e2,r.xl (pr .im) (fun u0 q u0=>q) (hF j)⟩
theorem Stp.xo (x:Stp c F0 s0 F s) (hx:∀ b,ex b→s0.heap.get? b=none) (hk:v8 ex s.heap h'):Stp c F0 s0 F { s with heap:=h',toks:=t } where
 keep:=fun b o e h1 h2 h3 h4=>by
  have nx:¬ ex b:=fun q=>by exact gno (hx b q) e
  obtain ⟨k1,_,k2⟩:=x.keep b o e h1 h2 h3 h4
  exact ⟨fun h=>(hk b o (k1 h) nx).1 h,(hk b _ k2 nx).2⟩
 sub:=x.sub
 live:=fun b h=>by
  by_cases q:ex b
  ·exact hx b q
  ·refine x.live b ?_
   cases e:s.heap.get? b with
   | none=>rfl
   | some o=>obtain ⟨_,_,e'⟩:=hk b o e q;rw [show h'.get? b=none from h] at e';exact no1 e'
theorem SR.iter (ok:aJ c) (x:SR c ρ k F s) {wr:List Addr} (hn:∀ a∈wr,c.Nu a) (hi:∀ a∈wr,ItO s.heap a) (U:Upd wr s s'):SR c ρ k F s':=by
 obtain ⟨h',t,rfl,hk⟩:=U
 refine x.xo (ex:=(·∈wr)) (fun b hb=>⟨hn b hb,(hi b hb).xo⟩) (fun b o e hb=>⟨fun u0=>hk b o e (.inl hb),o.slots,hk b o e (.inl hb)⟩) fun b o e=>hk b o (x.w0.base b o e) (.inl fun h=>?_)
 obtain ⟨_,e'⟩:=ok.bh b o e
 exact gno ((hn b h).1) e'
theorem Stp.iter (x:Stp c F0 s0 F s) {wr:List Addr} (hn:∀ a∈wr,s0.heap.get? a=none) (U:Upd wr s s'):Stp c F0 s0 F s':=by
 obtain ⟨h',t,rfl,hk⟩:=U
 exact x.xo (ex:=(·∈wr)) hn fun b o e hb=>⟨fun u0=>hk b o e (.inl hb),o.slots,hk b o e (.inl hb)⟩
theorem fO.xo {fl fl':Option Value} {a:Addr} {ρ0 k0} (x0:SR c ρ0 k0 F0 s0) (x:fO c F0 Q s0 fl a s) (hx:∀ b,ex b→s0.heap.get? b=none∧(∃ o,s.heap.get? b=some o∧dG c.W o.cls)) (hk:v8 ex s.heap h') (hb:c.W.base.StaysIn h')
  (ef:EFl c.W h' (fun b=>s0.heap.get? b=none) a fl'):fO c F0 Q s0 fl' a { s with heap:=h' }:=
 by obtain ⟨ρ',k',F',q,hn,_,x,st⟩:=x;exact ⟨ρ',k',F',q,hn,ef,x.xo (t:=s.toks) (fun b hb=>⟨x0.nu (hx b hb).1,(hx b hb).2⟩) hk hb,st.xo (t:=s.toks) (fun b hb=>(hx b hb).1) hk⟩
theorem EFl.mono {W:Wd} {h:Heap} {P P':Addr→Prop} {a fl} (hP:∀ b,P b→P' b) (x:EFl W h P a fl):EFl W h P' a fl:=by
 cases fl with
 | none=>exact x
 | some f=>obtain ⟨T,hT,hne,oe,vs,oT,ts,e1,e2,e3,e4,e5,e6,e7,e8,e9⟩:=x;exact ⟨T,hP T hT,hne,oe,vs,oT,ts,e1,e2,e3,e4,e5,e6,e7,e8,e9⟩
theorem fO.after {F1:Fp} {s1:Shared} {fl a} (st:Stp c F0 s0 F1 s1) (x:fO c F1 Q s1 fl a s):fO c F0 Q s0 fl a s:=
 by obtain ⟨ρ',k',F',q,hn,ef,x,st'⟩:=x;exact ⟨ρ',k',F',q,st.live a hn,ef.mono fun b=>st.live b,x,st.trans st'⟩
theorem Pas.after {F1:Fp} {s1:Shared} {e} (st:Stp c F0 s0 F1 s1) (x:Pas c F1 Q s1 e s):Pas c F0 Q s0 e s:=by obtain ⟨a,fl,e,h,x⟩:=x;exact ⟨a,fl,e,h,x.after st⟩
theorem Out.after {F1:Fp} {s1:Shared} {fv} (st:Stp c F0 s0 F1 s1) (x:Out c F1 Q s1 fv s):Out c F0 Q s0 fv s:=
 by obtain ⟨f,ρ',k',F',q,r,x,st'⟩:=x;exact ⟨f,ρ',k',F',q,r,x,st.trans st'⟩
theorem dG.tb {W:Wd}:dG W (.type "traceback"):=.type (by decide)
theorem dG.exc {W:Wd}:dG W (.ref W.excA):=⟨fun h=>(by rcases h with h | h | h | h | ⟨k,h⟩ <;> first | exact W.exN k (Value.ref.inj h).symm | injection h),(fun h=>by cases h)⟩
theorem fO.xH (ok:aJ c) {ρ0 k0} (x0:SR c ρ0 k0 F0 s0) {A1:Around} {f:Value} {frame:Option Addr} {a:Addr} {R:Unit→Shared→Prop} (x:fO c F0 Q s0 (some f) a s)
  (h:∀ s',fO c F0 Q s0 (some (frame.elim Value.none fun f=>rawInt f)) a s'→R () s'):wpAny c.M A1 (setFlight (.ref a) frame) R E s:=by
 have x':=x
 obtain ⟨_,_,_,_,hn,⟨T,hT,hne,oe,vs,oT,ts,e1,e2,e3,e4,e5,e6,e7,e8,e9⟩,xx,_⟩:=x
 unfold setFlight
 refine wpAny_bind (wpAny_field e1 e3 e4 ?_)
 rw [if_pos (show (Value.ref T != Value.none)=true from by simp)]
 refine wpAny_setField e6 e7 (Array.getElem?_eq_some_iff.mp e8).1 ?_
 have other:∀ b,b≠T→(s.heap.update T (Obj.mapFields (·.setIfInBounds 3 (frame.elim Value.none fun f=>rawInt f)))).get? b=s.heap.get? b:=fun b hb=>Heap.get?_update_other _ _ (Ne.symm hb)
 have hTT:=Heap.get?_update_self (Obj.mapFields (·.setIfInBounds 3 (frame.elim Value.none fun f=>rawInt f))) e6 (Obj.isFreed_of_fields (Obj.data_mapFields e7 _))
 refine h _ (x'.xo x0 (ex:=(· = T)) (fun b hb=>by obtain rfl:=hb;exact ⟨hT,_,e6,e9▸.tb⟩) (fun b o e hb=>⟨fun u0=>(other b hb).trans e,o.slots,(other b hb).trans e⟩) (fun b o e=>(other b fun q=>?_).trans (xx.w0.base b o e))
  ⟨T,hT,hne,oe,vs,_,_,(other a (Ne.symm hne)).trans e1,e2,e3,e4,e5,hTT,Obj.data_mapFields e7 _,by simp [(Array.getElem?_eq_some_iff.mp e8).1],(Obj.cls_mapFields ..).trans e9⟩)
 rw [q] at e
 have:=x0.w0.base _ _ e
 exact gno hT this
theorem fO.note (ok:aJ c) (hfr:c.fr=true) {ρ0 k0} (x0:SR c ρ0 k0 F0 s0) {fl a} (hfl:wX c.env fl) {R:Unit→Shared→Prop} (x:fO c F0 Q s0 fl a s)
  (h:∀ s',fO c F0 Q s0 (some (rawInt c.env.locals)) a s'→R () s'):wpAny c.M c.A (noteFrame (.ref a) c.env) R E s:=by
 have EF:=ok.frm hfr
 obtain ⟨outer,hfrs⟩:=EF.frs
 have nb:∀ b,s0.heap.get? b=none→c.W.base.get? b=none:=fun b hb=>by
  cases e:c.W.base.get? b with
  | none=>rfl
  | some o=>have:=x0.w0.base _ _ e;exact gno hb this
 have key:∀ {s:Shared} {fl} {oe:Obj} {vs:Array Value} {head:Value} {b:Bool},fO c F0 Q s0 fl a s→s.heap.get? a=some oe→oe.cls=.ref c.W.excA→oe.data=.fields vs→1 < vs.size→vs[2]? = some .none→(∀ s',fO c F0 Q s0 (some (rawInt c.env.locals)) a s'→R () s')→
   wpAny c.M c.A (do let a' ← frameOf c.env;let pl ← entryPlaceOf c.env.locals b;let b ← EntryCells.newEntry head a' .none (rawInt c.env.locals) .none pl;setField (.ref a) 1 b) R E s:=by
  intro s fl oe vs head b x e1 e2 e3 hsz e5 h
  have x':=x
  obtain ⟨_,_,_,_,hn,_,xx,st⟩:=x
  obtain ⟨l,hl,hF⟩:=xx.w0.outer
  obtain rfl:=geq hfrs hl
  refine rK hfrs hF EF.fr e1 e3 hsz fun h' T hT hne ea eT hk=>h _ (x'.xo x0 (ex:=(· = a)) (fun b hb=>by obtain rfl:=hb;exact ⟨hn,_,e1,e2▸.exc⟩) (fun b o e hb=>⟨fun hf=>(hk b o hb e).1 fun hm=>?_,(hk b o hb e).2⟩) (fun b o e=>(hk b o (fun q=>?_) (xx.w0.base b o e)).1 fun hm=>?_) ?_)
  ·obtain ⟨_,o',e',c',_⟩:=hF.mem hm
   obtain rfl:=geq e e';exact hf c'
  ·rw [q] at e;exact gno (nb a hn) e
  ·exact gno ((hF.mem hm).1) e
  ·obtain ⟨oT,ts,t1,t2,t3,t4⟩:=eT
   exact ⟨T,st.live T hT,hne,_,_,oT,ts,ea,(Obj.cls_mapFields ..).trans e2,Obj.data_mapFields e3 _,by simp [hsz],by rw [Array.getElem?_setIfInBounds_ne (by decide)];exact e5,t1,t2,t3,t4⟩
 unfold noteFrame
 simp only [EF.fr]
 have x':=x
 obtain ⟨_,_,_,_,hn,ef,xx,_⟩:=x
 rcases hfl with rfl | rfl | rfl
 ·obtain ⟨oe,vs,e1,e2,e3,e4,e5⟩:=ef
  refine wpAny_bind (wpAny_field e1 e3 e4 ?_)
  rw [if_neg (by decide)]
  exact key x' e1 e2 e3 (Array.getElem?_eq_some_iff.mp e4).1 e5 h
 ·obtain ⟨T,hT,hne,oe,vs,oT,ts,e1,e2,e3,e4,e5,e6,e7,e8,e9⟩:=ef
  refine wpAny_bind (wpAny_field e1 e3 e4 ?_)
  rw [if_pos (show (Value.ref T != Value.none)=true from by simp)]
  refine wpAny_bind (wpAny_field e6 e7 e8 ?_)
  rw [if_neg (show ¬ ((Value.none == rawInt c.env.locals)=true) from by simp [rawInt])]
  refine wpAny_bind (wpAny_setField e6 e7 (Array.getElem?_eq_some_iff.mp e8).1 ?_)
  have other3:∀ b,b≠T→(s.heap.update T (Obj.mapFields (·.setIfInBounds 3 Value.none))).get? b=s.heap.get? b:=fun b hb=>Heap.get?_update_other _ _ (Ne.symm hb)
  have hTT:=Heap.get?_update_self (Obj.mapFields (·.setIfInBounds 3 Value.none)) e6 (Obj.isFreed_of_fields (Obj.data_mapFields e7 _))
  refine key (x'.xo x0 (fl':=some .none) (ex:=(· = T)) (fun b hb=>by obtain rfl:=hb;exact ⟨hT,_,e6,e9▸.tb⟩) (fun b o e hb=>⟨fun u0=>(other3 b hb).trans e,o.slots,(other3 b hb).trans e⟩) (fun b o e=>(other3 b fun q=>?_).trans (xx.w0.base b o e))
   ⟨T,hT,hne,oe,vs,_,_,(other3 a (Ne.symm hne)).trans e1,e2,e3,e4,e5,hTT,Obj.data_mapFields e7 _,by simp [(Array.getElem?_eq_some_iff.mp e8).1],(Obj.cls_mapFields ..).trans e9⟩) ((other3 a (Ne.symm hne)).trans e1) e2 e3 (Array.getElem?_eq_some_iff.mp e4).1 e5 h
  rw [q] at e;exact gno (nb T hT) e
 ·obtain ⟨T,hT,hne,oe,vs,oT,ts,e1,e2,e3,e4,e5,e6,e7,e8,e9⟩:=ef
  refine wpAny_bind (wpAny_field e1 e3 e4 ?_)
  rw [if_pos (show (Value.ref T != Value.none)=true from by simp)]
  refine wpAny_bind (wpAny_field e6 e7 e8 ?_)
  rw [if_pos (show (rawInt c.env.locals == rawInt c.env.locals)=true from by simp)]
  exact wpAny_pure (h s x')
theorem Pas.yj (ok:aJ c) (hfr:c.fr=true) {ρ0 k0} (x0:SR c ρ0 k0 F0 s0) {e:Value} (x:Pas c F0 Q s0 e s) (h:∀ s',Pas c F0 Q s0 e s'→E e s') :
  notedBy c.M c.A c.env (fun e s'=>cameBackBy c.M c.A c.env E e s') e s:=by
 obtain ⟨a,fl,rfl,hfl,x⟩:=x
 refine x.note ok hfr x0 hfl fun s' x'=>?_
 show cameBackBy c.M c.A c.env E (.ref a) s'
 unfold cameBackBy
 have x2:=x'
 obtain ⟨_,_,_,_,_,⟨T,hT,hne,oe,vs,oT,ts,e1,e2,e3,e4,_⟩,_,_⟩:=x2
 refine wpAny_bind (wpAny_field e1 e3 e4 ?_)
 rw [if_neg (show ¬ ((Value.ref T == Value.none)=true) from by simp)]
 refine x'.xH ok x0 fun s'' x''=>h s'' ⟨a,_,rfl,.inr (.inr ?_),x''⟩
 rw [(ok.frm hfr).fr];rfl
theorem Pas.xD (ok:aJ c) (hfr:c.fr=true) {ρ0 k0} (x0:SR c ρ0 k0 F0 s0) {e:Value} {R:Unit→Shared→Prop} (x:Pas c F0 Q s0 e s) (h:∀ a s',e=.ref a→fO c F0 Q s0 (some .none) a s'→R () s') :
  wpAny c.M c.A (leaving c.env e) R E s:=by
 obtain ⟨a,fl,rfl,hfl,x⟩:=x
 unfold leaving
 refine wpAny_bind (x.note ok hfr x0 hfl fun s' x'=>?_)
 exact x'.xH ok x0 (frame:=none) fun s'' x''=>h a s'' rfl x''
end
end Mine
namespace Mine
open PySem PySem.Calls PyProof.Rows PySem.SeqAt PySem.W
section
variable {A:Around} {s:Shared} {env:Env} {E:Value→Shared→Prop}
theorem ub {M:Model} {test:Expr} {body orelse:List Stmt} {pos:Pos} {Q:PySem.Flow→Shared→Prop} (h:wpAny M A (isTrue test env (eval test env)) (fun b s₁=>if b then wpAny M A (execs body env) Q E s₁ else wpAny M A (execs orelse env) Q E s₁) E s) :
  wpAny M A (exec (.If test body orelse pos) env) Q E s:=by
 show wpAny M A (do standAt pos;if ← isTrue test env (eval test env) then execs body env else execs orelse env) Q E s
 refine wpAny_bind (wpAny_standAt (wpAny_bind (wpAny_mono h (fun b s₁ h₁=>?_) fun u0 u0 x=>x)))
 cases b <;> exact h₁
noncomputable def bE (e:Expr):Bool:=!(Nat.ble 8 e.ctorIdx && Nat.ble e.ctorIdx 10)
theorem bD {value:Expr} {t:Option Expr} {l:Nat} (h:bE value=true):swapsWith value t l env=pure false:=by
 cases value <;> first | rfl | exact (Bool.false_ne_true h).elim
theorem cB {x:Str} {px:Pos} {value:Expr}:swappedStores [.Name x px] value env=pure none:=rfl
theorem bg {t value:Expr} {pos:Pos} {Q:PySem.Flow→Shared→Prop} {prog w} (hs:swapsWith value (some t) pos.line env=pure false) (hw:swappedStores [t] value env=pure none) (ht:(assignEach [t] env).map (·.2)=[assign t env])
  (h:wpAny (model prog w) A (eval value env) (fun v s₁=>wpAny (model prog w) A (assign t env v) (fun u0=>Q .next) E s₁) E s):wpAny (model prog w) A (exec (.Assign [t] value pos) env) Q E s:=by
 rw [exec_Assign]
 refine wpAny_bind (wpAny_standAt ?_)
 show wpAny _ _ (swapsWith value (some t) pos.line env >>= _) _ _ _
 rw [hs]
 refine wpAny_bind (wpAny_pure ?_)
 rw [if_neg (by decide)]
 refine wpAny_bind (wpAny_mono h (fun v s₁ h₁=>?_) fun u0 u0 x=>x)
 rw [hw]
 refine wpAny_bind (wpAny_pure ?_)
 rw [ht]
 show wpAny _ A (do assignAll v [assign t env];pure .next) Q E s₁
 exact wpAny_bind (wpAny_mono h₁ (fun u0 u0 x=>wpAny_pure x) fun u0 u0 x=>x)
end
section
variable {c:Cx} {ρ:List Sl} {k k':Nat} {F F' F0:Fp} {s s' s0:Shared} {i:Nat} {E:Value→Shared→Prop} {Q Q':Post} {e:Expr} {l:Lv}
theorem Out.here {f:Fl} {fv:Flow} (x:SR c ρ k F' s) (st:Stp c F0 s0 F' s) (q:Q f ρ k) (r:FlR c s.heap f fv):Out c F0 Q s0 fv s:=⟨f,ρ,k,F',q,r,x,st⟩
theorem i8 (q:Q .next ρ k):TrB c ρ k [] Q:=fun u0 u0 u0 u0 x=>wpAny_pure (.here x .refl q rfl)
theorem lU {e es} (h:TrS c ρ k e fun f ρ' k'=>match f with | .next=>TrB c ρ' k' es Q | f=>Q f ρ' k'):TrB c ρ k (e::es) Q:=fun ok hf F s x=>by
 have ex:execs (e::es) c.env=(exec e c.env >>= fun f=>match f with | PySem.Flow.next=>execs es c.env | f=>pure f):=rfl
 rw [ex]
 refine wpAny_bind (wpAny_mono (h ok hf F s x) (fun fv s1 ⟨f,ρ1,k1,F1,q,r,x1,st⟩=>?_) fun e s1 zz1=>by obtain ⟨a,fl,he,hfl,ρ1,k1,F1,q,hn,ef,x1,st⟩:=zz1;exact ⟨a,fl,he,hfl,ρ1,k1,F1,q,hn,ef,x1,st⟩)
 cases f with
 | next=>
  obtain rfl:fv=.next:=r
  exact wpAny_mono (q ok hf F1 s1 x1) (fun u0 u0 o=>o.after st) fun u0 u0 o=>o.after st
 | cont=>obtain rfl:fv=.cont:=r;exact wpAny_pure (.here x1 st q rfl)
 | ret d=>obtain ⟨v,rfl,r⟩:=r;exact wpAny_pure (.here (f:=.ret d) x1 st q ⟨v,rfl,r⟩)
 | exc=>exact r.elim
theorem tW {pos} (q:Q .cont ρ k):TrS c ρ k (.Continue pos) Q:=fun u0 u0 u0 u0 x=>wpAny_Continue (.here x .refl q rfl)
theorem Cx.S.toR {a} (h:c.S F .im a):c.R a:=⟨h.1.1,h.2.1⟩
theorem qQ {pos} (h:Ev c ρ k .im e fun d k'=>Q (.ret d) ρ k'):TrS c ρ k (.Return (some e) pos) Q:=fun ok u0 F s x=>
 wpAny_Return_some (noE (h ok F s x) fun u0 u0 zz2=>by obtain ⟨_,_,q,r,x1,st⟩:=zz2;exact .here x1 (.of_keep st x1.pen) q ⟨_,rfl,r.mono fun u0 h=>h.toR⟩)
theorem pj {t a b pos} (h:Tt c ρ k t fun r k'=>gW r (TrB c ρ k' a Q) (TrB c ρ k' b Q)):TrS c ρ k (.If t a b pos) Q:=fun ok hf F s x=>
 ub (noE (h ok F s x) fun r s1 zz3=>by
  obtain ⟨_,q,x1,st⟩:=zz3
  have st':Stp c F s F s1:=.of_keep st x1.pen
  cases r with
  | true=>exact wpAny_mono (q.1 rfl ok hf F s1 x1) (fun u0 u0 o=>o.after st') fun u0 u0 o=>o.after st'
  | false=>exact wpAny_mono (q.2 rfl ok hf F s1 x1) (fun u0 u0 o=>o.after st') fun u0 u0 o=>o.after st')
theorem uC {i:Nat} {o:O} {es} (hi:ρ[i]? = some (.own o)) (ha:c.acc=none) (h:TrB c (ρ.set i (.im o.toD)) k es Q):TrB c ρ k es Q:=fun ok hf F s x=>
 by
 obtain ⟨x1,st⟩:=x.freeze hi fun a=>ha▸(fun h=>no1 h)
 exact wpAny_mono (h ok hf _ s x1) (fun u0 u0 o=>o.after st) fun u0 u0 o=>o.after st
noncomputable def bL (c:Cx) (x:Str) (i:Nat):Bool:=decide (c.sl.lookup x=some i) && (decide (c.names.lookup x=some .local) || decide (c.names.lookup x=some .cell) && c.fr) && c.acc.all (·.1 != i)
structure StO (c:Cx) (x:Str) (i:Nat):Prop where
 a:c.sl.lookup x=some i
 b:pb c x
 d:∀ a,c.acc≠some (i,a)
theorem eC {x:Str} (h:bL c x i=true) (ok:aJ c):StO c x i:=by
 simp only [bL,Bool.and_eq_true,Bool.or_eq_true,decide_eq_true_eq] at h
 exact ⟨h.1.1,h.1.2.imp (ok.env.loc x) fun q=>⟨q.2,(ok.frm q.2).cel x q.1,(ok.env.cells x (.inl q.1)).1⟩,fun a q=>by rw [q] at h;simp at h⟩
theorem Stp.xE (st:Stp c F s F' s') (x:SR c ρ k F s) (hl:l≠.any):be (fun a=>c.S F l a∧ak c.W s.heap a) s.heap s'.heap∧∀ a,c.S F l a→ak c.W s.heap a→c.S F' l a:=by
 have nF:∀ a,c.S F l a→∀ i,a∉F i:=fun a h=>by
  cases l with
  | im=>exact h.1.2
  | vw=>exact h.1
  | any=>exact absurd rfl hl
 constructor
 ·intro b o e h
  have key:o.cls≠.type "frame"→o.cls≠.type "cell"→(∀ i,b∉F i)→c.pen≠some b→b≠c.env.locals→s'.heap.get? b=some o:=fun h1 h2 h3 h4 h5=>(st.keep b o e h3 h4 h5 fun u0 y hy=>by
   obtain ⟨o2,_,e2,_,c2⟩:=x.env.cell y b hy
   obtain rfl:=geq e e2;exact h2 c2).1 h1
  rcases h with ⟨h1,h2⟩ | h
  ·obtain ⟨o2,e2,f1,_,f2⟩:=h2.nf
   obtain rfl:=geq e e2
   exact key f1 f2 (nF b h1) h1.2.1 h1.2.2
  ·refine key (by rw [h];simp) (by rw [h];simp) (fun i hi=>?_) (x.pen.ne e (by rw [h];simp)) fun q=>?_
   ·obtain ⟨o2,e2,_,f2,_⟩:=(x.own i b hi).2.1.nf
    obtain rfl:=geq e e2;exact f2 h
   ·obtain ⟨o2,e2,r⟩:=x.env.lo
    rw [← q] at e2;obtain rfl:=geq e e2;exact r.ne.2.1 h
 ·intro a h lv
  have n':∀ i,a∉F' i:=fun i hi=>(st.sub i a hi).elim (fun zz4=>by obtain ⟨j,hj⟩:=zz4;exact nF a h j hj) fun q=>by obtain ⟨o,e,_⟩:=lv;exact gno q e
  cases l with
  | im=>exact ⟨⟨h.1.1,n'⟩,h.2⟩
  | vw=>exact ⟨n',h.2⟩
  | any=>exact absurd rfl hl
theorem Stp.vr (st:Stp c F s F' s') (x:SR c ρ k F s) (hl:l≠.any) {d v} (r:VR c.W s.heap (c.S F l) d v):VR c.W s'.heap (c.S F' l) d v:=r.xl (st.xE x hl).1 (st.xE x hl).2
theorem Stp.vrs (st:Stp c F s F' s') (x:SR c ρ k F s) (hl:l≠.any) {d v} (r:VRs c.W s.heap (c.S F l) d v):VRs c.W s'.heap (c.S F' l) d v:=r.xl (st.xE x hl).1 (st.xE x hl).2
inductive jC (d:D):Lv→Sl→Prop
 | im:jC d .im (.im d)
 | vw:jC d .vw (.vw d)
theorem jC.ne {d l z} (h:jC d l z):l≠.any:=by cases h <;> nofun
theorem SR.xM (ok:aJ c) (x:SR c ρ k F s) {M:Model} {A:Around} {name:Str} {v:Value} {z:Sl} {d:D} {R:Unit→Shared→Prop} (hs:bL c name i=true) (hz:jC d l z) (r:VR c.W s.heap (c.S F l) d v)
  (q:∀ s',SR c (ρ.set i z) k F s'→Stp c F s F s'→R () s'):wpAny M A (storeName c.env name v) R E s:=by
 obtain ⟨h1,h2,h3⟩:=eC hs ok
 refine (x.undef (i:=i) h3).put ok (by rw [cU];split;rfl;rw [List.getElem?_eq_none (by lia)];rfl) h1 h2 h3 (fun h' hh pr=>?_) fun s' x' st u0=>q s' (by rw [List.set_set] at x';exact x') st
 cases hz with
 | im=>exact ⟨v,hh,r.xl (pr.mono fun a q=>⟨q.1.2.2,q.2⟩) fun u0 q u0=>q⟩
 | vw=>exact ⟨v,hh,r.xl (pr.mono fun a q=>⟨q.1.2.2,q.2⟩) fun u0 q u0=>q⟩
theorem nB {x:Str} {i:Nat} {px pos} (hs:bL c x i=true) (hc:bE e=true) (h:Ev c ρ k .im e fun d k'=>Q .next (ρ.set i (.im d)) k'):TrS c ρ k (.Assign [.Name x px] e pos) Q:=fun ok u0 F s x0=>
 bg (bD hc) cB rfl (noE (h ok F s x0) fun u0 u0 zz5=>by obtain ⟨_,_,q,r,x1,st⟩:=zz5;exact wpAny_assign_Name (x1.xM ok hs .im r fun u0 x2 st2=>.here x2 ((Stp.of_keep st x1.pen).trans st2) q rfl))
theorem rR {x:Str} {i:Nat} {px pos} (hs:bL c x i=true) (hc:bE e=true) (h:Ev c ρ k .vw e fun d k'=>Q .next (ρ.set i (.vw d)) k'):TrS c ρ k (.Assign [.Name x px] e pos) Q:=fun ok u0 F s x0=>
 bg (bD hc) cB rfl (noE (h ok F s x0) fun u0 u0 zz6=>by obtain ⟨_,_,q,r,x1,st⟩:=zz6;exact wpAny_assign_Name (x1.xM ok hs .vw r fun u0 x2 st2=>.here x2 ((Stp.of_keep st x1.pen).trans st2) q rfl))
inductive wG (lv:Lv) (c:Cx) (ρ:List Sl) (F:Fp) (Q:O→Nat→Prop) (s:Shared) (v:Value) (s':Shared):Prop
 | mk (o:O) (k:Nat) (N:List Addr) (q:Q o k) (r:VO c.W s'.heap (fun a=>c.S F lv a∧a∉N) o v N) (nd:N.Nodup) (hN:∀ a∈N,s.heap.get? a=none∧ak c.W s'.heap a∧a≠c.env.locals) (x:SR c ρ k F s') (st:av c.pen s.heap s'.heap)
noncomputable abbrev nE:=wG .im
noncomputable def EvO (c:Cx) (ρ:List Sl) (k:Nat) (e:Expr) (Q:O→Nat→Prop):Prop:=aJ c→∀ F s,SR c ρ k F s→wpAny c.M c.A (eval e c.env) (nE c ρ F Q s) NoE s
noncomputable abbrev O.lst (xs:List D):O:=.node .lst (xs.map .leaf)
noncomputable abbrev O.dct (ks:List Key) (xs:List D):O:=.node (.dct ks) (xs.map .leaf)
theorem VOs.xD {W:Wd} {h:Heap} {P:Addr→Prop}:∀ {ds vs},VRs W h P ds vs→VOs W h P (ds.map .leaf) vs []:=by
 intro ds
 induction ds with
 | nil=>
  exact @fun u0 e=>⟨e,rfl⟩
 | cons _ _ ihq=>
  exact @fun u0 yy0x0=>by obtain ⟨v,r,e,a,b⟩:=yy0x0;exact ⟨v,r,[],[],e,⟨a,rfl⟩,ihq b,rfl⟩
theorem nP {N:List Addr} {a} (h:c.S F .im a∧a∉N):c.S (bp F i N) .im a:=⟨⟨h.1.1.1,fun j q=>by
 by_cases hj:j=i
 ·rw [hj,aq] at q;exact h.2 q
 ·rw [aK hj] at q;exact h.1.1.2 j q⟩,h.1.2⟩
theorem cE:(ρ.set i Sl.undef)[i]?.getD .undef=.undef:=by rw [cU];split;rfl;rw [List.getElem?_eq_none (by lia)];rfl
theorem SR.yC (ok:aJ c) {k0:Nat} (x0:SR c ρ k0 F s0) (x:SR c ρ k F s) (st:av c.pen s0.heap s.heap) {M:Model} {A:Around} {name:Str} {v:Value} {o:O} {N:List Addr} {R:Unit→Shared→Prop} (hs:bL c name i=true) (hp:c.pin=none∨i≠0)
  (r:VO c.W s.heap (fun a=>c.S F .im a∧a∉N) o v N) (nd:N.Nodup) (hN:∀ a∈N,s0.heap.get? a=none∧ak c.W s.heap a∧a≠c.env.locals) (q:∀ s',SR c (ρ.set i (.own o)) k (bp F i N) s'→Stp c F s0 (bp F i N) s'→R () s'):wpAny M A (storeName c.env name v) R E s:=by
 obtain ⟨h1,h2,h3⟩:=eC hs ok
 obtain ⟨x2,st2⟩:=(x.undef (i:=i) h3).xG (x0.undef (i:=i) h3) st cE (fun a ha=>.inr (hN a ha)) nd
 refine x2.put (z:=.own o) ok cE h1 h2 h3 (fun h' hh pr=>⟨v,hh,?_,fun q hq hi=>hp.elim (fun h=>by exact gno h hq) fun h=>absurd hi h⟩) fun s' x' st' u0=>q s' (by rw [List.set_set] at x';exact x') (st2.trans st')
 rw [aq]
 exact r.xl (pr.mono fun a q=>⟨q.1.1.2.2,q.2⟩) (fun a q u0=>nP q) fun a ha o e=>pr.at e ⟨(hN a ha).2.2,(hN a ha).2.1⟩
theorem tN {x:Str} {i:Nat} {px pos} (hs:bL c x i=true) (hp:c.pin=none∨i≠0) (hc:bE e=true) (h:EvO c ρ k e fun o k'=>Q .next (ρ.set i (.own o)) k'):TrS c ρ k (.Assign [.Name x px] e pos) Q:=fun ok u0 F s x0=>
 bg (bD hc) cB rfl (noE (h ok F s x0) fun u0 u0 zz7=>by obtain ⟨_,_,_,q,r,nd,hN,x1,st⟩:=zz7;exact wpAny_assign_Name (x0.yC ok x1 st hs hp r nd hN fun u0 x2 st2=>.here x2 st2 q rfl))
theorem nE.node {kd:Kd} {ds:List D} {vs:List Value} {h':Heap} {a:Addr} {t:Nat} {Q:O→Nat→Prop} (x:SR c ρ k F s) (st:av c.pen s0.heap s.heap) (q:Q (.node kd (ds.map .leaf)) k) (r:VRs c.W s.heap (c.S F .im) ds vs) (hk:KR c.W h' kd a vs [a]) (g:∀ b o,s.heap.get? b=some o→h'.get? b=some o) (hn:s.heap.get? a=none) :
  nE c ρ F Q s0 (.ref a) { s with heap:=h',toks:=t }:=by
 have gr:bP s { s with heap:=h',toks:=t }:=⟨h',t,rfl,g⟩
 have fa:=x.xm (l:=.im) hn
 refine ⟨_,k,[a],q,⟨a,vs,[a],[],rfl,hk,VOs.xD (r.xl (.all g _) fun b h lv=>⟨h,fun q=>?_⟩),by simp⟩,(by simp),List.forall_mem_singleton.mpr ⟨st.fresh x.pen hn,hk.live a (List.mem_singleton.mpr rfl),fa.2.2⟩,x.grow gr,st.trans (.xp g)⟩
 obtain ⟨o,e,_⟩:=lv
 rw [List.mem_singleton.mp q] at e;exact gno hn e
theorem sx {es pos} {Q:O→Nat→Prop} (hs:es.all ah=true) (h:Evs c ρ k .im es fun ds k'=>ds.length≤2 ^ 24∧Q (.lst ds) k'):EvO c ρ k (.List es pos) Q:=fun ok u0 u0 x=>
 wpAny_List (noE (h.run hs ok x) fun u0 u0 zz8=>by obtain ⟨_,_,q,r,x1,st⟩:=zz8;exact ⟨r.length▸q.1,.node x1 st q.2 r ⟨rfl,0,Heap.get?_push_size _ rfl⟩ (fun u0 u0 e=>Heap.get?_push_of_some _ e) (fY _)⟩)
theorem W0.xT {W A} (x:W0 W A s):((s.heap.objs.size:Addr) == sysModules)=false:=by
 obtain ⟨a,o,h1,e⟩:=W.sm
 have:=Heap.lt_size (x.base _ _ e)
 rw [beq_eq_false_iff_ne]
 intro h;rw [h] at this;exact Nat.lt_asymm h1 this
theorem qN {pos} {Q:O→Nat→Prop} (q:Q (.dct [] []) k):EvO c ρ k (.Dict [] [] pos) Q:=fun u0 u0 s x=>
 wpAny_Dict_empty (.node (t:=s.toks) (ds:=[]) (vs:=[]) x .refl q rfl ⟨rfl,x.w0.xT,[],0,Heap.get?_push_size _ rfl,.nil,.nil⟩ (fun u0 u0 e=>Heap.get?_push_of_some _ e) (fY _))
theorem pD {pos pos'} {Q:O→Nat→Prop} (hx:cF c "list" = true) (hs:ah e=true) (h:Ev c ρ k .im e fun d k'=>∃ kd xs,d=.node kd xs∧(kd=.lst∨kd=.tup)∧xs.length≤2 ^ 24∧Q (.lst xs) k'):EvO c ρ k (.Call (.Name "list" pos') [e] [] pos) Q:=fun ok F s x0=>
 Call_ (eK ok x0.w0 (v:=.type "list") (.tail _ (.tail _ (.tail _ (.tail _ (.head _))))) (by decide +kernel) (by decide +kernel) (of_decide_eq_true hx) (bK rfl (by rw [List.all_cons,hs];rfl) (args_cons (noE (h ok F s x0) fun u0 s1 zr0=>by obtain ⟨_,_,⟨kd,xs,e,hk,hl,q⟩,r1,x1,st⟩:=zr0;exact args_nil (by
  subst e
  obtain ⟨a,vs,_,rfl,kr,_,r⟩:=r1
  rw [r.length] at hl
  rcases hk with rfl | rfl
  ·obtain ⟨_,n,e⟩:=kr
   exact call_list_seq a (.inl rfl) e rfl rfl (fun h' c' hk he=>.node (t:=s1.toks) x1 st q r ⟨rfl,c',he⟩ hk (fY _)) (by simpa [sizeLine] using hl)
  ·obtain ⟨_,n,e⟩:=kr
   exact call_list_seq a (.inr rfl) e rfl rfl (fun h' c' hk he=>.node (t:=s1.toks) x1 st q r ⟨rfl,c',he⟩ hk (fY _)) (by simpa [sizeLine] using hl))) (ag hs))))
theorem vU {t a b pos} {Q:O→Nat→Prop} (h:Tt c ρ k t fun r k'=>gW r (EvO c ρ k' a Q) (EvO c ρ k' b Q)):EvO c ρ k (.IfExp t a b pos) Q:=fun ok F s x=>
 wpAny_IfExp (noE (h ok F s x) fun r s1 zz10=>by
  obtain ⟨_,q,x1,st⟩:=zz10
  have fin:∀ {v s2},nE c ρ F Q s1 v s2→nE c ρ F Q s v s2:=fun yq1=>by obtain ⟨o,k',N,q,r,nd,hN,x2,st2⟩:=yq1;exact ⟨o,k',N,q,r,nd,fun a ha=>⟨st.fresh x1.pen (hN a ha).1,(hN a ha).2⟩,x2,st.trans st2⟩
  cases r with
  | true=>exact noE (q.1 rfl ok F s1 x1) fun u0 u0 h=>fin h
  | false=>exact noE (q.2 rfl ok F s1 x1) fun u0 u0 h=>fin h)
end
end Mine
namespace Mine
open PySem PySem.Calls PyProof.Rows PySem.SeqAt PySem.W
theorem mX {h h':Heap} (x:Heap.ExtBut h.objs.size h h'):∀ b o,h.get? b=some o→h'.get? b=some o:=fun b o e=>x b o (Nat.ne_of_lt (Heap.lt_size e)) e
inductive Tg (c:Cx) (l:Lv):Expr→D→List Sl→List Sl→Prop
 | one {x p i d z ρ}:bL c x i=true→jC d l z→Tg c l (.Name x p) d ρ (ρ.set i z)
 | two {x px y py i j a b z z' kk p ρ}:c.W.qt=true→bL c x i=true→bL c y j=true→jC a l z→jC b l z'→Tg c l (.Tuple [.Name x px,.Name y py] kk p) (.tup [a,b]) ρ ((ρ.set i z).set j z')
section
variable {c:Cx} {ρ ρ':List Sl} {k k':Nat} {F F' F0:Fp} {s s' s0:Shared} {i:Nat} {E:Value→Shared→Prop} {Q Q':Post} {e:Expr} {l:Lv}
theorem Stp.grow (x:SR c ρ k F s) (g:bP s s'):Stp c F s F s':=.of_keep (.xp fun u0 u0 e=>g.keep e) (x.grow g).pen
theorem Tg.run (ok:aJ c) {t:Expr} {d:D} {v:Value} {R:Unit→Shared→Prop} {prog w} (h:Tg c l t d ρ ρ') (x:SR c ρ k F s) (r:VR c.W s.heap (c.S F l) d v) (q:∀ s',SR c ρ' k F s'→Stp c F s F s'→R () s'):wpAny (model prog w) c.A (assign t c.env v) R E s:=by
 cases h with
 | one hs hz=>exact wpAny_assign_Name (x.xM ok hs hz r q)
 | two hq h1 h2 z1 z2=>
  obtain ⟨ad,vs,as,rfl,⟨_,kk,eo⟩,_,v1,_,rfl,ra,v2,_,rfl,rb,rfl⟩:=r
  refine wpAny_assign_Tuple (items:=#[v1,v2]) (x.w0.hand.1 hq) ⟨_,eo,rfl,kk,rfl⟩ rfl rfl fun h' he=>?_
  have g:bP s { s with heap:=h' }:=⟨h',s.toks,rfl,mX he⟩
  refine wpAny_bind (wpAny_holding (wpAny_assign_Name ((x.grow g).xM ok h1 z1 (ra.grow fun u0 u0 e=>g.keep e) fun s1 x1 st1=>?_)))
  refine wpAny_bind (wpAny_holding (wpAny_assign_Name (x1.xM ok h2 z2 (st1.vr (x.grow g) z2.ne (rb.grow fun u0 u0 e=>g.keep e)) fun s2 x2 st2=>?_)))
  exact wpAny_pure (q s2 x2 (((Stp.grow x g).trans st1).trans st2))
theorem tS {x y:Str} {i j:Nat} {px py kk pt pos} (hq:c.W.qt=true) (h1:bL c x i=true) (h2:bL c y j=true) (hij:i≠j) (hsw:∀ env,swapsWith e (some (.Tuple [.Name x px,.Name y py] kk pt)) pos.line env=pure false)
  (hw:aJ c→swappedStores [.Tuple [.Name x px,.Name y py] kk pt] e c.env=pure (some [x,y])) (h:Ev c ρ k .im e fun d k'=>∃ a b,d=.tup [a,b]∧Q .next ((ρ.set i (.im a)).set j (.im b)) k'):TrS c ρ k (.Assign [.Tuple [.Name x px,.Name y py] kk pt] e pos) Q:=fun ok u0 F s x0=>
 Assign_Tuple_swapped (names:=[x,y]) (noE (h ok F s x0) fun u0 s1 zz0=>by
  obtain ⟨_,_,⟨a,b,ed,q⟩,r,x1,st⟩:=zz0
  subst ed
  obtain ⟨ad,vs,as,rfl,⟨_,kk,eo⟩,_,v1,_,rfl,ra,v2,_,rfl,rb,rfl⟩:=r
  refine unpackItems_tuple (items:=#[v1,v2]) (x1.w0.hand.1 hq) ⟨_,eo,rfl,kk,rfl⟩ fun h' he=>?_
  have g:bP s1 { s1 with heap:=h' }:=⟨h',s1.toks,rfl,mX he⟩
  refine wpAny_bind (wpAny_holding (wpAny_bindName ((x1.grow g).xM ok h2 .im (rb.grow fun u0 u0 e=>g.keep e) fun s2 x2 st2=>?_)))
  refine wpAny_bind (wpAny_holding (wpAny_bindName (x2.xM ok h1 .im (st2.vr (x1.grow g) (l:=.im) (fun h=>by cases h) (ra.grow fun u0 u0 e=>g.keep e)) fun s3 x3 st3=>wpAny_pure ?_)))
  rw [List.set_comm _ _ (Ne.symm hij)] at x3
  exact .here x3 ((((Stp.of_keep st x1.pen).trans (.grow x1 g)).trans st2).trans st3) q rfl) (hsw c.env) (hw ok)
noncomputable def Lp (I:List Sl→Nat→Prop) (Q:Post):Post:=fun f ρ k=>match f with
 | .next=>I ρ k
 | .cont=>I ρ k
 | f=>Q f ρ k
theorem Out.turn {I:List Sl→Nat→Prop} {s1:Shared} {F1:Fp} {G:Prop} {fv:PySem.Flow} (o:Out c F1 (Lp I Q) s1 fv s) (st:Stp c F0 s0 F1 s1) (hi:∀ ρ' k' F',I ρ' k'→SR c ρ' k' F' s→Stp c F1 s1 F' s→G):(fv=.next∨fv=.cont)∧G∨∃ v,fv=.ret v∧Out c F0 Q s0 (.ret v) s:=by
 obtain ⟨f,ρ',k',F',q,r,x,st'⟩:=o
 cases f with
 | next=>exact .inl ⟨.inl r,hi _ _ _ q x st'⟩
 | cont=>exact .inl ⟨.inr r,hi _ _ _ q x st'⟩
 | ret d=>obtain ⟨v,rfl,r⟩:=r;exact .inr ⟨v,rfl,.here (f:=.ret d) x (st.trans st') q ⟨v,rfl,r⟩⟩
 | exc=>exact r.elim
theorem Pas.turn {I:List Sl→Nat→Prop} {e:Value} (x:Pas c F (Lp I Q) s0 e s):Pas c F Q s0 e s:=by obtain ⟨a,fl,e,h,⟨ρ',k',F',q,r1,r2,r3,r4⟩⟩:=x;exact ⟨a,fl,e,h,⟨ρ',k',F',q,r1,r2,r3,r4⟩⟩
theorem sZ {t b pos} (I:Nat→List Sl→Nat→Prop) {m:Nat} (h0:I m ρ k) (h:∀ m ρ k,I m ρ k→Tt c ρ k t fun r k'=>gW r (TrB c ρ k' b (Lp (fun ρ k=>∃ m',m' < m∧I m' ρ k) Q)) (Q .next ρ k')):TrS c ρ k (.While t b [] pos) Q:=fun ok hf F s x0=>
 wpAny_While (codeAny_whileLoop (fun m s'=>∃ ρ' k' F',I m ρ' k'∧SR c ρ' k' F' s'∧Stp c F s F' s') (fun m s1 ⟨ρ1,k1,F1,hI,x1,st1⟩=>noE (h m ρ1 k1 hI ok F1 s1 x1) fun r s2 zz2=>by
  obtain ⟨k2,q,x2,st⟩:=zz2
  have st2:=st1.trans (.of_keep st x2.pen)
  cases r with
  | false=>exact wpAny_pure (.here x2 st2 (q.2 rfl) rfl)
  | true=>exact wpAny_mono (q.1 rfl ok hf F1 s2 x2) (fun fv s3 o=>by
   rcases o.turn st2 fun ρ' k' F' yq1 x st=>by obtain ⟨m',hm,hI⟩:=yq1;exact (⟨m',hm,ρ',k',F',hI,x,st2.trans st⟩:∃ m',m' < m∧∃ ρ' k' F',I m' ρ' k'∧SR c ρ' k' F' s3∧Stp c F s F' s3) with ⟨rfl | rfl,g⟩ | ⟨v,rfl,o⟩ <;> assumption) fun e s3 p=>(p.turn.after st2).yj ok hf x0 fun u0 p=>p) m ⟨ρ,k,F,h0,x0,.refl⟩)
noncomputable def qG (c:Cx) (ρ:List Sl) (k:Nat) (l:Lv) (tt:Bool) (e:Expr) (Q:List D→Nat→Prop) (X:Post):Prop:=aJ c→c.fr=true→∀ F s,SR c ρ k F s→
 wpAny c.M c.A (eval e c.env) (fun v s1=>wpAny c.M c.A (pyIter v) (ItR c ρ F l tt Q s) (Pas c F X s) s1) (Pas c F X s) s
theorem et.x {tt} {Q:List D→Nat→Prop} {X:Post} (h:et c ρ k l tt e Q):qG c ρ k l tt e Q X:=fun ok u0 F s x=>noE (h ok F s x) fun u0 u0 h=>noE h fun u0 u0 h=>h
theorem Stp.yD (x:SR c ρ k F s) (st:Stp c F s F' s') (hl:l≠.any) {wr:List Addr} {fp:Addr→Prop} (hi:∀ a∈wr,ItO s.heap a) (hfp:∀ a,fp a→c.S F l a∧ak c.W s.heap a):be (fun a=>a∈wr∨fp a) s.heap s'.heap:=fun b o e hc=>by
 rcases hc with (hc | hc) | hc
 ·obtain ⟨o',e',al⟩:=(hi b hc).xo (W:=c.W)
  obtain rfl:=geq e e'
  have m:=al.mut
  refine (st.keep b o e (fun i h=>?_) (x.pen.ne e m.1) (fun q=>?_) fun u0 y hy=>?_).1 m.2.2.1
  ·obtain ⟨o',e',f,_⟩:=(x.own i b h).2.1
   obtain rfl:=geq e e'
   rcases f with f | f | ⟨k,f⟩
   ·exact m.1 f
   ·exact m.2.1 f
   ·exact m.2.2.2.2.2 k f
  ·obtain ⟨o',e',r⟩:=x.env.lo
   rw [← q] at e';obtain rfl:=geq e e'
   exact r.elim (fun r=>m.2.2.1 r.1) fun r=>m.2.1 r.1
  ·obtain ⟨o',_,e',_,r⟩:=x.env.cell y b hy
   obtain rfl:=geq e e';exact m.2.2.2.1 r
 ·exact (st.xE x hl).1 b o e (.inl (hfp b hc))
 ·exact (st.xE x hl).1 b o e (.inr hc)
structure ItS (c:Cx) (l:Lv) (wr:List Addr) (fp:Addr→Prop) (St:Nat→Option Value→Heap→Prop) (src:List D) (vs:List Value) (F0:Fp) (s0:Shared) (i:Nat) (v:Option Value) (ρ:List Sl) (k:Nat) (F:Fp) (s:Shared):Prop where
 x:SR c ρ k F s
 st:Stp c F0 s0 F s
 it:St i v s.heap
 fp:∀ a,fp a→c.S F l a∧ak c.W s.heap a
 r:VRs c.W s.heap (c.S F l) src vs
 wn:∀ a∈wr,s0.heap.get? a=none
 io:∀ a∈wr,ItO s.heap a
section
variable {I:Addr} {wr:List Addr} {fp:Addr→Prop} {n:Nat} {St:Nat→Option Value→Heap→Prop} {src:List D} {vs:List Value} {v:Option Value} {tt:Bool}
theorem ItS.step (hw:ck c.W c.A tt I wr fp n St) (hl:l≠.any) (y:ItS c l wr fp St src vs F0 s0 i v ρ k F s) (x':SR c ρ' k' F' s') (st:Stp c F s F' s'):ItS c l wr fp St src vs F0 s0 i v ρ' k' F' s':=by
 have pr:=Stp.yD y.x st hl y.io y.fp
 have it':=hw.frame y.it pr
 exact ⟨x',y.st.trans st,it',fun a ha=>⟨(st.xE y.x hl).2 a (y.fp a ha).1 (y.fp a ha).2,(y.fp a ha).2.keep fun o q=>pr.at q (.inr ha)⟩,st.vrs y.x hl y.r,y.wn,hw.cls it'⟩
theorem ItS.move (hw:ck c.W c.A tt I wr fp n St) (ok:aJ c) (hf:∀ a,s0.heap.get? a=none→c.Nu a) (y:ItS c l wr fp St src vs F0 s0 i v ρ k F s) (U:Upd wr s s') {j:Nat} {u:Option Value} (it':St j u s'.heap):ItS c l wr fp St src vs F0 s0 j u ρ k F s':=by
 have x':=y.x.iter ok (fun a ha=>hf a (y.wn a ha)) y.io U
 have ke:∀ a,ak c.W s.heap a→∀ o,s.heap.get? a=some o→s'.heap.get? a=some o:=fun a lv o e=>U.xl a o e (.inl fun hm=>by
  obtain ⟨o1,e1,al⟩:=(y.io a hm).xo (W:=c.W)
  obtain ⟨o2,e2,f,_⟩:=lv
  obtain rfl:=geq e1 e2
  rcases f with f | f | ⟨k,f⟩
  ·exact al.mut.1 f
  ·exact al.mut.2.1 f
  ·exact al.mut.2.2.2.2.2 k f)
 refine ⟨x',y.st.iter y.wn U,it',fun a ha=>⟨(y.fp a ha).1,(y.fp a ha).2.keep (ke a (y.fp a ha).2)⟩,y.r.xl (fun b o e hc=>?_) fun u0 h u0=>h,y.wn,hw.cls it'⟩
 rcases hc with hc | hc
 ·exact ke b hc.2 o e
 ·exact U.xl b o e (.inr hc)
theorem ItS.item (y:ItS c l wr fp St src vs F0 s0 i v ρ k F s) (U:Upd wr s s') {d:D} {w:Value} (r:VR c.W s.heap (c.S F l) d w):VR c.W s'.heap (c.S F l) d w:=r.xl (fun b o e hc=>U.xl b o e (hc.imp (fun hc hm=>by
 obtain ⟨o1,e1,al⟩:=(y.io b hm).xo (W:=c.W)
 obtain ⟨o2,e2,f,_⟩:=hc.2
 obtain rfl:=geq e1 e2
 rcases f with f | f | ⟨k,f⟩
 ·exact al.mut.1 f
 ·exact al.mut.2.1 f
 ·exact al.mut.2.2.2.2.2 k f) id)) fun u0 h u0=>h
end
theorem pJ {t it b pos} {tt:Bool} (htt:tt=true→cV t=true) (hfs:∀ x,foldedSetIterable it c.env x=pure x) (hl:l≠.any) (J:List D→Nat→List Sl→Nat→Prop)
  (h:qG c ρ k l tt it (fun ds k'=>J ds 0 ρ k') Q) (hJ:∀ ds i d ρ k,ds[i]? = some d→J ds i ρ k→∃ ρ',Tg c l t d ρ ρ'∧TrB c ρ' k b (Lp (J ds (i+1)) Q)) (hQ:∀ ds ρ k,J ds ds.length ρ k→Q .next ρ k):TrS c ρ k (.For t it b [] pos) Q:=fun ok hf F s x0=>by
 refine wpAny_For (wpAny_mono (h ok hf F s x0) (fun v s1 h1=>wpAny_mono h1 (fun v s2 ⟨ds,k2,q,I,wr,fp,St,src,vs,hv,hw,h0,hr,hd,x2,st,hwr,hfp⟩=>?_) fun u0 u0 p=>p) fun u0 u0 p=>p) hfs
 subst hv
 refine codeAny_forLoop_any (fun m s'=>∃ i ρ' k' F',m=ds.length - i∧i≤ds.length∧J ds i ρ' k'∧ItS c l wr fp St src vs F s i none ρ' k' F' s') (fun m s1 ⟨i,ρ1,k1,F1,em,hi,hI,y⟩=>?_) ds.length ⟨0,ρ,k2,F,rfl,Nat.zero_le _,q,x2,.of_keep st x2.pen,h0,hfp,hr,hwr,hw.cls h0⟩
 by_cases hlt:i < ds.length
 ·refine hw.item y.x.w0.hand hlt y.it fun v s3 U hst=>?_
  refine hw.go htt hst fun s4 U4 hst4=>?_
  have y3:=y.move hw ok (fun u0=>x0.nu) U hst
  have y4:=y3.move hw ok (fun u0=>x0.nu) U4 hst4
  have rv4:=y3.item U4 (hd hst (List.getElem?_eq_getElem hlt) y3.r)
  obtain ⟨ρ',tg,tb⟩:=hJ ds i _ ρ1 k1 (List.getElem?_eq_getElem hlt) hI
  refine tg.run ok y4.x rv4 fun s5 x5 st5=>?_
  have y5:=y4.step hw hl x5 st5
  refine wpAny_mono (tb ok hf F1 s5 x5) (fun fv s6 o=>by
    rcases o.turn y5.st fun ρ' k' F' hI x st=>(⟨ds.length - (i+1),by omega,i+1,ρ',k',F',rfl,hlt,hI,y5.step hw hl x st⟩:∃ m',m' < m∧∃ i ρ' k' F',m'=ds.length - i∧i≤ds.length∧J ds i ρ' k'∧ItS c l wr fp St src vs F s i none ρ' k' F' s6) with ⟨rfl | rfl,g⟩ | ⟨v,rfl,o⟩ <;> assumption) fun e s6 p=>(p.turn.after y5.st).yj ok hf x0 fun u0 p=>p
 ·obtain rfl:i=ds.length:=by omega
  refine hw.done y.x.w0.hand y.it fun s3 U=>wpAny_pure (.here (y.x.iter ok (fun a ha=>x0.nu (y.wn a ha)) y.io U) (y.st.iter y.wn U) (hQ ds ρ1 k1 hI) rfl)
end
end Mine
namespace Mine
open PySem PySem.Calls PyProof.Rows PySem.SeqAt PySem.W
section
variable {c:Cx} {ρ ρ':List Sl} {k k':Nat} {F F' F0:Fp} {s s' s0:Shared} {i:Nat} {E:Value→Shared→Prop} {Q Q':Post} {e:Expr} {l:Lv}
theorem TrB.mono {es} (h:TrB c ρ k es Q) (hq:∀ f ρ k,Q f ρ k→Q' f ρ k):TrB c ρ k es Q':=fun ok hf F s x=>wpAny_mono (h ok hf F s x) (fun u0 u0 o=>by obtain ⟨f,ρ',k',F',q,r,x,st⟩:=o;exact ⟨f,ρ',k',F',hq _ _ _ q,r,x,st⟩) fun u0 u0 p=>by
 obtain ⟨a,fl,e,h,⟨ρ',k',F',q,r1,r2,r3,r4⟩⟩:=p;exact ⟨a,fl,e,h,⟨ρ',k',F',hq _ _ _ q,r1,r2,r3,r4⟩⟩
theorem TrS.mono {e} (h:TrS c ρ k e Q) (hq:∀ f ρ k,Q f ρ k→Q' f ρ k):TrS c ρ k e Q':=fun ok hf F s x=>wpAny_mono (h ok hf F s x) (fun u0 u0 o=>by obtain ⟨f,ρ',k',F',q,r,x,st⟩:=o;exact ⟨f,ρ',k',F',hq _ _ _ q,r,x,st⟩) fun u0 u0 p=>by
 obtain ⟨a,fl,e,h,⟨ρ',k',F',q,r1,r2,r3,r4⟩⟩:=p;exact ⟨a,fl,e,h,⟨ρ',k',F',hq _ _ _ q,r1,r2,r3,r4⟩⟩
theorem Lp.mono {I I':List Sl→Nat→Prop} (hi:∀ ρ k,I ρ k→I' ρ k):∀ f ρ k,Lp I Q f ρ k→Lp I' Q f ρ k:=fun f=>by cases f <;> first | exact hi | exact fun u0 u0 h=>h
theorem va {t it b pos} {tt:Bool} (htt:tt=true→cV t=true) (hfs:∀ x,foldedSetIterable it c.env x=pure x) (hl:l≠.any) (ds:List D) (J:Nat→List Sl→Nat→Prop)
  (h:et c ρ k l tt it fun ds' k'=>ds'=ds∧J 0 ρ k') (hJ:∀ i d ρ k,ds[i]? = some d→J i ρ k→∃ ρ',Tg c l t d ρ ρ'∧TrB c ρ' k b (Lp (J (i+1)) Q)) (hQ:∀ ρ k,J ds.length ρ k→Q .next ρ k):TrS c ρ k (.For t it b [] pos) Q:=
 pJ htt hfs hl (fun ds' i ρ k=>ds'=ds∧J i ρ k) h.x (fun _ i d ρ k hd ⟨e,hi⟩=>by
  subst e
  exact (hJ i d ρ k hd hi).imp fun ρ' q=>⟨q.1,q.2.mono (Lp.mono fun u0 u0 h=>⟨rfl,h⟩)⟩) fun u0 ρ k h=>hQ ρ k (h.1▸h.2)
theorem du {prog w} {A:Around} {l:Addr} {vs:List Value} {m j:Nat} {z:Int} {t:Tok} {v:Value} {Q:Unit→Shared→Prop} (e:s.heap.get? l=some (fP vs m)) (hz:z=(j:Int)) (hfit:vs.length≤2 ^ 24) (hn:j < vs.length)
  (hQ:∀ h' m',h'.get? l=some (fP (vs.set j v) m')→Heap.SameBut l s.heap h'→Q () { s with heap:=h' }):wpAny (model prog w) A (setItem (.ref l) (.int z t) v) Q E s:=by
 have hT:s.TypeIs (.ref l) "list":=⟨_,e,rfl⟩
 unfold setItem
 refine wpAny_holding (wpAny_bind (wpAny_sequenceKey hT (by decide) ?_))
 refine wpAny_bind (wpAny_callSpecial?_slot (name:=Str.ofString "__setitem__") hT slot_list_setitem (wpAny_call_entry slot_list_setitem hT entry_list_setitem ?_ (args_list_setitem _ _ _)))
 have hf:Builtin.List.listFitsIndex z=true:=fitsIndex_of (by lia) (by lia)
 clear hfit
 show wpAny _ _ (Builtin.List.listSubscript? (.int z t) >>= _) _ _ s
 refine wpAny_bind (wpAny_listSubscript_int hf ?_)
 subst hz
 have hx':vs.toArray[j]? = some vs[j]:=by rw [List.getElem?_toArray];exact List.getElem?_eq_getElem hn
 show wpAny _ _ ((seqItemAt l j >>= fun r=>pure (r.map (j,·))) >>= _) _ _ s
 refine wpAny_bind (wpAny_bind (wpAny_seqItemAt e rfl (wpAny_pure ?_)))
 rw [hx']
 show wpAny _ _ (setSeqItemAt l j v >>= _) _ _ s
 have hup:=PySem.IsL.update e (·.setIfInBounds j v)
 refine wpAny_bind (wpAny_setSeqItemAt e rfl ?_)
 have q:=hQ _ _ (by rw [hup,List.setIfInBounds_toArray]) (Heap.SameBut.update ..)
 first
  | exact wpAny_bind (wpAny_pure (wpAny_pure ⟨.none,rfl,wpAny_pure q⟩))
  | exact wpAny_pure ⟨.none,rfl,wpAny_pure q⟩
theorem SR.xU (ok:aJ c) (x:SR c ρ k F s) {p:Addr} {h':Heap} {t:Nat} (hp:c.pen=some p) (hsb:Heap.SameBut p s.heap h') (hr:c9 h' c.pen k'):SR c ρ k' F { s with heap:=h',toks:=t }∧Stp c F s F { s with heap:=h',toks:=t }:=by
 obtain ⟨_,_,_,_,_,ep,_⟩:=x.pen p hp
 obtain ⟨_,_,_,_,_,ep',_⟩:=hr p hp
 have ke:∀ b o,s.heap.get? b=some o→o.cls≠.type "list"→h'.get? b=some o:=fun b o e hc=>(hsb.2 b fun q=>by rw [q] at e;obtain rfl:=geq ep e;exact hc rfl).trans e
 have kp:∀ b o,s.heap.get? b=some o→c.pen≠some b→h'.get? b=some o:=fun b o e hc=>(hsb.2 b fun q=>hc (q▸hp)).trans e
 have pr:∀ l,be (fun a=>c.S F l a∧ak c.W s.heap a) s.heap h':=fun l b o e h=>h.elim (fun h=>kp b o e h.1.xu) fun h=>ke b o e (by rw [h];simp)
 have hns:∀ {m},s.heap.Ns c.env.locals m→h'.Ns c.env.locals m:=fun yq1=>by obtain ⟨o,es,epp,e,d,r⟩:=yq1;exact ⟨o,es,epp,ke _ o e (by
  obtain ⟨oL,eL,r⟩:=x.env.lo
  obtain rfl:=geq e eL;exact r.ne.1),d,r⟩
 have hcell:∀ {y d o},c.env.cells.lookup y=some d→s.heap.get? d=some o→h'.get? d=some o:=fun {y d o} hy e=>ke d o e (by
  obtain ⟨o2,_,e2,_,c2⟩:=x.env.cell y d hy
  obtain rfl:=geq e e2;rw [c2];simp)
 have own':∀ j,∀ b∈F j,∀ o,s.heap.get? b=some o→h'.get? b=some o:=fun j b hb o e=>kp b o e (x.own j b hb).2.2.1
 refine ⟨⟨⟨fun b o e=>kp b o (x.w0.base b o e) fun q=>(by exact gno (ok.pn b q) e),x.w0.gens,x.w0.os,?_,x.w0.hand.1,?_⟩,fun b o e h2=>?_,hr,fun y j hy=>(x.vals y j hy).xl (fun v h=>h.imp (fun zz1=>by obtain ⟨a1,m,b1,c1⟩:=zz1;exact ⟨a1,m,hns b1,c1⟩) fun zz2=>by obtain ⟨a1,d,b1,o2,e2,d2⟩:=zz2;exact ⟨a1,d,b1,o2,hcell b1 e2,d2⟩) pr (fun u0 u0 q u0=>q) fun u0 u0=>⟨rfl,own' j⟩,x.nd,x.dj,fun j b hb=>?_,
  ⟨x.env.ns.imp fun u0=>hns,?_,fun y d hy=>?_,x.env.locN,x.env.cellN⟩,fun j b hb=>?_⟩,⟨fun b o e u0 h2 u0 u0=>⟨fun u0=>kp b o e h2,o.slots,kp b o e h2⟩,fun j u0 h=>.inl ⟨j,h⟩,fun b h=>?_⟩⟩
 ·obtain ⟨l,e,f⟩:=x.w0.outer
  exact ⟨l,e,f.step fun b o e2 c2=>⟨o.slots,ke b o e2 (by rw [c2];simp)⟩⟩
 ·exact x.w0.hand.2.imp id fun yq2=>by obtain ⟨e,o,vs,a,b,d,g,nm⟩:=yq2;exact ⟨e,o,vs,a,ke e o b fun q=>nm (.inl q),d,g,nm⟩
 ·obtain ⟨k1,sl',k2⟩:=x.keep b o e h2
  exact ⟨fun h=>kp b o (k1 h) h2,sl',kp b _ k2 h2⟩
 ·obtain ⟨b1,⟨o,e,r,r1,r2⟩,b3⟩:=x.own j b hb
  exact ⟨b1,⟨o,kp b o e b3.1,r,r1,r2⟩,b3⟩
 ·obtain ⟨oL,eL,r⟩:=x.env.lo
  exact ⟨oL,ke _ oL eL r.ne.1,r⟩
 ·obtain ⟨o2,v2,e2,r,r1⟩:=x.env.cell y d hy
  exact ⟨o2,v2,hcell hy e2,r,r1⟩
 ·obtain ⟨o2,e2,r⟩:=x.acc j b hb
  exact ⟨o2,e2,r.xl (pr .im) (fun u0 q u0=>q) (own' j)⟩
 ·by_cases q:b=p
  ·rw [q,show h'.get? p=_ from ep'] at h;exact no2 h
  ·exact (hsb.2 b q).symm.trans h
theorem oh {x:Str} {j:Nat} {px kk pc ps pos} (hs:aO c x i=true) (hz:ρ[i]? = some .pen) (hj:j=0∨j=1) (hc:bE e=true) (h:Ev c ρ k .any e fun d k'=>∃ n,d=.int n∧(j=0→Q .next ρ k')∧(j=1→∃ k2:Nat,0≤n∧n≤(k2:Int)∧Q .next ρ k2)) :
  TrS c ρ k (.Assign [.Subscript (.Name x px) (.Constant (.int (j:Int)) kk pc) ps] e pos) Q:=fun ok u0 F s x0=>
 wpAny_Assign_Subscript (noE (h ok F s x0) fun u0 s1 zz4=>by
  obtain ⟨_,k1,⟨n,ed,q0,q1⟩,r,x1,st⟩:=zz4
  subst ed
  obtain ⟨u,rfl⟩:=r
  obtain ⟨h0,h1,h2⟩:=bB hs
  have:=x1.vals x i h0
  rw [hz] at this
  obtain ⟨p,hp,hv⟩:=this
  obtain ⟨a,b,ta,tb,m,ep,b1,b2⟩:=x1.pen p hp
  refine wpAny_Name (hv.load ok.env.kind (wpAny_Constant_int ?_) h1) h2
  have hp':∀ {h'':Heap} {z},h''.get? p=z→∀ q,c.pen=some q→h''.get? q=z:=fun e q hq=>by obtain rfl:=geq hp hq;exact e
  rcases hj with rfl | rfl
  ·refine du (s:={ s1 with toks:=s1.toks+1 }) ep rfl (by simp) (by simp) fun h' m' e' hsb=>?_
   obtain ⟨x2,st2⟩:=x1.xU (t:=s1.toks+1) ok hp hsb fun q hq=>⟨n,b,u,tb,m',hp' e' q hq,b1,b2⟩
   exact .here x2 ((Stp.of_keep st x1.pen).trans st2) (q0 rfl) rfl
  ·obtain ⟨k2,n1,n2,q⟩:=q1 rfl
   refine du (s:={ s1 with toks:=s1.toks+1 }) ep rfl (by simp) (by simp) fun h' m' e' hsb=>?_
   obtain ⟨x2,st2⟩:=x1.xU (t:=s1.toks+1) ok hp hsb fun q hq=>⟨a,n,ta,u,m',hp' e' q hq,n1,n2⟩
   exact .here x2 ((Stp.of_keep st x1.pen).trans st2) q rfl) (bD hc)
end
end Mine
namespace Mine
open PySem PySem.Calls PyProof.Rows PySem.SeqAt PySem.W
inductive AtO (c:Cx) (h:Heap) (F:Fp) (i:Nat) (v:Value) (x:O) (pl:O→O) (u:Value):Prop
 | mk (N1 Nx N2:List Addr) (hv:∀ y,c.sl.lookup y=some i→bj h c.env y v) (pin:∀ q,c.pin=some q→i=0→v=q) (hF:F i=N1++(Nx++N2)) (sub:VO c.W h (c.S F .im) x u Nx)
  (plug:∀ {P' h' y Ny},VO c.W h' P' y u Ny→be (fun b=>c.S F .im b∧ak c.W h b) h h'→(∀ a,c.S F .im a→ak c.W h a→P' a)→(∀ a∈N1++N2,∀ o,h.get? a=some o→h'.get? a=some o)→VO c.W h' P' (pl y) v (N1++(Ny++N2)))
theorem VOs.plug {W:Wd} {h:Heap} {P:Addr→Prop} {os vs F} {j:Nat} {o} (r0:VOs W h P os vs F) (hj:os[j]? = some o):∃ w M1 M2 M3,vs[j]? = some w∧F=M1++(M2++M3)∧VO W h P o w M2∧
  ∀ {P' h' y w' My},VO W h' P' y w' My→be (fun b=>P b∧ak W h b) h h'→(∀ a,P a→ak W h a→P' a)→(∀ a∈M1++M3,∀ o,h.get? a=some o→h'.get? a=some o)→VOs W h' P' (os.set j y) (vs.set j w') (M1++(My++M3)):=by
 induction os generalizing vs F j with
 | nil=>exact no1 hj
 | cons x os ih=>
  obtain ⟨v,r,F1,F2,e,a,b,q⟩:=r0
  subst e q
  cases j with
  | zero=>
   obtain rfl:=Option.some.inj hj
   exact ⟨v,[],F1,F2,rfl,rfl,a,fun ry p1 p2 p3=>⟨_,r,_,F2,rfl,ry,b.xl p1 p2 p3,rfl⟩⟩
  | succ j=>
  obtain ⟨w,M1,M2,M3,e1,e2,e3,e4⟩:=ih (j:=j) b hj
  subst e2
  refine ⟨w,F1++M1,M2,M3,e1,by rw [List.append_assoc],e3,fun ry p1 p2 p3=>⟨v,_,F1,_,rfl,a.xl p1 p2 fun x hx=>p3 x ?_,e4 ry p1 p2 fun x hx=>p3 x ?_,List.append_assoc ..⟩⟩
  ·exact List.mem_append_left _ (List.mem_append_left _ hx)
  ·rw [List.append_assoc];exact List.mem_append_right _ hx
theorem jm {α:Type} {l:List α} {j:Nat} {w:α} (h:l[j]? = some w):l.set j w=l:=by
 obtain ⟨_,rfl⟩:=List.getElem?_eq_some_iff.mp h
 exact List.set_getElem_self _
section
variable {c:Cx} {ρ ρ':List Sl} {k k':Nat} {F F' F0:Fp} {s s' s0:Shared} {i:Nat} {E:Value→Shared→Prop} {Q Q':Post} {e:Expr} {l:Lv} {x:O} {pl:O→O} {u v:Value} {h h':Heap}
theorem AtO.step (x0:SR c ρ k F s) (at':AtO c s.heap F i v x pl u) (st:av c.pen s.heap s'.heap) (hF':F' i=F i) (hS:∀ a,c.S F .im a→ak c.W s.heap a→c.S F' .im a):AtO c s'.heap F' i v x pl u:=by
 obtain ⟨N1,Nx,N2,hv,pin,hF,sub,plug⟩:=at'
 have pr:=st.xl x0.pen (W:=c.W) (P:=c.S F .im) fun u0 h=>h.xu
 have kF:∀ a∈F i,∀ o,s.heap.get? a=some o→s'.heap.get? a=some o:=fun a ha o e=>by
  obtain ⟨_,l,p,_⟩:=x0.own i a ha
  obtain ⟨o',e',f,_⟩:=l.nf
  obtain rfl:=geq e e'
  exact (st a o e p).1 f
 have sub12:∀ a∈N1++N2,a∈F i:=fun a ha=>by
  rw [hF];exact (List.mem_append.mp ha).elim (List.mem_append_left _) fun h=>List.mem_append_right _ (List.mem_append_right _ h)
 refine ⟨N1,Nx,N2,fun y h=>(hv y h).keep st x0.pen,pin,hF'.trans hF,sub.xl pr hS fun a ha=>kF a (by rw [hF];exact List.mem_append_right _ (List.mem_append_left _ ha)),fun ry p1 p2 p3=>plug ry (fun b o e hc=>p1 b o (pr b o e hc) (hc.imp (fun hc=>⟨hS b hc.1 hc.2,st.xR hc.1.xu hc.2⟩) id)) (fun a h1 h2=>p2 a (hS a h1 h2) (st.xR h1.xu h2)) fun a ha o e=>p3 a ha o (kF a (sub12 a ha) o e)⟩
theorem AtO.child {kd:Kd} {xs:List O} (at':AtO c h F i v (.node kd xs) pl u) {j:Nat} {x':O} (hj:xs[j]? = some x'):∃ a vs as w,u=.ref a∧KR c.W h kd a vs as∧vs[j]? = some w∧AtO c h F i v x' (fun y=>pl (.node kd (xs.set j y))) w:=by
 obtain ⟨N1,Nx,N2,hv,pin,hF,⟨a,vs,as,F',rfl,kr,rs,eN⟩,plug⟩:=at'
 obtain ⟨w,M1,M2,M3,e1,e2,e3,e4⟩:=rs.plug hj
 subst eN e2
 have eF:N1++((as++(M1++(M2++M3)))++N2)=(N1++(as++M1))++(M2++(M3++N2)):=by simp only [List.append_assoc]
 refine ⟨a,vs,as,w,rfl,kr,e1,N1++(as++M1),M2,M3++N2,hv,pin,hF.trans eF,e3,fun {P' h' y Ny} ry p1 p2 p3=>?_⟩
 have m:∀ b,(b∈as∨b∈M1++M3∨b∈N1++N2)→∀ o,h.get? b=some o→h'.get? b=some o:=fun b hb=>p3 b (by
  simp only [List.mem_append] at hb ⊢
  rcases hb with hb | (hb | hb) | (hb | hb) <;> simp [hb])
 have r:=plug (y:=.node kd (xs.set j y)) ⟨a,vs,as,M1++(Ny++M3),rfl,kr.xl (S:=(·∈as)) (fun b o e hc=>hc.elim (fun hb=>m b (.inl hb) o e) fun hc=>p1 b o e (.inr hc)) fun u0 hb=>hb,jm e1▸e4 ry p1 p2 fun b hb=>m b (.inr (.inl hb)),rfl⟩ p1 p2 fun b hb=>m b (.inr (.inr hb))
 simpa only [List.append_assoc] using r
theorem SR.xV (x:SR c ρ k F s) (hu:∀ j,F' j=F j∨ρ[j]?.getD .undef=.undef) (hsub:∀ j a,a∈F' j→∃ j',a∈F j') (nd:∀ j,(F' j).Nodup) (dj:∀ i j a,i≠j→a∈F' i→a∉F' j):SR c ρ k F' s∧Stp c F s F' s:=by
 have hS:∀ l a,c.S F l a→c.S F' l a:=fun l a q=>by
  have key:(∀ j,a∉F j)→∀ j,a∉F' j:=fun q j h=>(hsub j a h).elim q
  cases l with
  | im=>exact ⟨⟨q.1.1,key q.1.2⟩,q.2⟩
  | vw=>exact ⟨key q.1,q.2⟩
  | any=>exact q
 have pr:∀ S,be S s.heap s.heap:=fun u0 u0 u0 e u0=>e
 have hF:∀ j o,ρ[j]?.getD .undef=.own o→F' j=F j:=fun j o e=>(hu j).resolve_right fun q=>by have z:=Eq.trans (Eq.symm e) q;injection z
 refine ⟨⟨x.w0,x.keep,x.pen,fun y j h=>(x.vals y j h).xl (fun u0 h=>h) (fun l=>pr _) (fun l a q u0=>hS l a q) fun o e=>⟨hF j o e,fun u0 u0 u0 e=>e⟩,nd,dj,fun j a h=>(hsub j a h).elim fun j' h=>x.own j' a h,x.env,fun j a h=>?_⟩,fun b o e u0 u0 u0 u0=>⟨fun u0=>e,o.slots,e⟩,fun j a h=>.inl (hsub j a h),fun u0 h=>h⟩
 obtain ⟨o,e,r⟩:=x.acc j a h
 exact ⟨o,e,hF j o (by rw [e];rfl)▸r.xl (pr _) (fun a q u0=>hS .im a q) fun u0 u0 u0 e=>e⟩
theorem nE.yn {T:Nat} {Q:O→Nat→Prop} {v:Value} (x0:SR c ρ k F s) (hT:ρ[T]?.getD .undef=.undef) (r:nE c ρ F Q s v s'):∃ o k' N,Q o k'∧SR c ρ k' (bp F T N) s'∧Stp c F s (bp F T N) s'∧VO c.W s'.heap (c.S (bp F T N) .im) o v N∧av c.pen s.heap s'.heap∧∀ a∈N,s.heap.get? a=none:=by
 obtain ⟨o,k',N,q,r,nd,hN,x,st⟩:=r
 obtain ⟨x2,st2⟩:=x.xG x0 st hT (fun a ha=>.inr (hN a ha)) nd
 exact ⟨o,k',N,q,x2,st2,r.xl (fun u0 u0 e u0=>e) (fun a q u0=>nP q) fun u0 u0 u0 e=>e,st,fun a ha=>(hN a ha).1⟩
theorem bj.sameBut {env:Env} {y:Str} {v:Value} {a:Addr} (r:bj h env y v) (hs:Heap.SameBut a h h') (hl:env.locals≠a) (hc:∀ d,env.cells.lookup y=some d→d≠a):bj h' env y v:=
 r.imp (fun zz0=>by obtain ⟨a1,m,b1,c1⟩:=zz0;exact ⟨a1,m,b1.sameBut hs hl,c1⟩) fun zz1=>by obtain ⟨a1,d,b1,c1⟩:=zz1;exact ⟨a1,d,b1,c1.sameBut hs (hc d b1)⟩
theorem AtO.mut (ok:aJ c) (x:SR c ρ k F s) {T:Nat} (hTi:T≠i) (hT:ρ[T]?.getD .undef=.undef) (hacc:∀ a,c.acc≠some (i,a)) (hi:i < ρ.length) {kd:Kd} {xs:List O} {a:Addr} {N:List Addr} (at':AtO c s.heap F i v (.node kd xs) pl (.ref a)) (nd:N.Nodup) (hN:∀ b∈N,b∈F T) {G:Prop}
  (q:∀ vs as Fx,KR c.W s.heap kd a vs as→VOs c.W s.heap (c.S F .im) xs vs Fx→(∀ {kd' xs' vs' h' t a' Fy},a'∈as→Heap.SameBut a' s.heap h'→KR c.W h' kd' a vs' as→VOs c.W s.heap (c.S F .im) xs' vs' Fy→Fy.Perm (Fx++N)→
   ∃ F',SR c (ρ.set i (.own (pl (.node kd' xs')))) k F' { s with heap:=h',toks:=t }∧Stp c F s F' { s with heap:=h',toks:=t }∧VO c.W h' (c.S F' .im) (pl (.node kd' xs')) v (F' i))→G):G:=by
 obtain ⟨N1,Nx,N2,hv,pin,hF,⟨_,vs,as,Fx,e,kr,rs,eN⟩,plug⟩:=at'
 injection e with z0a;try subst z0a
 subst eN
 refine q vs as Fx kr rs fun {kd' xs' vs' h' t a' Fy} ha' hsb kr' rs' hp=>?_
 have hpm:(N1++((as++Fy)++N2)).Perm (F i++N):=by
  rw [hF,List.perm_iff_count]
  intro b
  have:=List.perm_iff_count.mp hp b
  simp only [List.count_append] at this ⊢
  lia
 have hnd:(N1++((as++Fy)++N2)).Nodup:=hpm.nodup_iff.mpr (List.nodup_append.mpr ⟨x.nd i,nd,fun b h1 d h2 e=>x.dj T i d hTi (hN d h2) (e▸h1)⟩)
 have hm:∀ b,b∈N1++((as++Fy)++N2)→b∈F i∨b∈N:=fun b hb=>List.mem_append.mp (hpm.mem_iff.mp hb)
 have haM:a'∈N1++((as++Fy)++N2):=List.mem_append_right _ (List.mem_append_left _ (List.mem_append_left _ ha'))
 have haF:a'∈F i:=by rw [hF];exact List.mem_append_right _ (List.mem_append_left _ (List.mem_append_left _ ha'))
 have ne:∀ b,b∈N1++N2∨b∈Fy→b≠a':=fun b hb q=>by
  subst q
  obtain ⟨_,d2,d3⟩:=List.nodup_append.mp hnd
  obtain ⟨d4,_,d5⟩:=List.nodup_append.mp d2
  have d6:=(List.nodup_append.mp d4).2.2
  rcases hb with hb | hb
  ·rcases List.mem_append.mp hb with hb | hb
   ·exact d3 b hb b (List.mem_append_left _ (List.mem_append_left _ ha')) rfl
   ·exact d5 b (List.mem_append_left _ ha') b hb rfl
  ·exact d6 b ha' b hb rfl
 have mem:∀ j b,b∈bp (bp F T []) i (N1++((as++Fy)++N2)) j→(j=i∧(b∈F i∨b∈N))∨(j≠i∧j≠T∧b∈F j):=fun j b h=>by
  by_cases hj:j=i
  ·subst hj;rw [aq] at h;exact .inl ⟨rfl,hm b h⟩
  ·rw [aK hj] at h
   by_cases hjT:j=T
   ·subst hjT;rw [aq] at h;cases h
   ·rw [aK hjT] at h;exact .inr ⟨hj,hjT,h⟩
 have rp:SR c (ρ.set i .undef) k (bp (bp F T []) i (N1++((as++Fy)++N2))) s∧Stp c F s (bp (bp F T []) i (N1++((as++Fy)++N2))) s:=by
  refine (x.undef (i:=i) hacc).xV (fun j=>?_) (fun j b h=>?_) (fun j=>?_) fun j1 j2 b hj h1 h2=>?_
  ·by_cases hj:j=i
   ·subst hj;exact .inr cE
   ·by_cases hjT:j=T
    ·subst hjT;exact .inr (by rw [List.getElem?_set_ne (Ne.symm hj)];exact hT)
    ·exact .inl (by rw [aK hj,aK hjT])
  ·rcases mem j b h with ⟨_,h | h⟩ | ⟨_,_,h⟩
   ·exact ⟨i,h⟩
   ·exact ⟨T,hN b h⟩
   ·exact ⟨j,h⟩
  ·by_cases hj:j=i
   ·subst hj;rw [aq];exact hnd
   ·rw [aK hj]
    by_cases hjT:j=T
    ·subst hjT;rw [aq];exact .nil
    ·rw [aK hjT];exact x.nd j
  ·rcases mem j1 b h1 with ⟨e1,h1⟩ | ⟨n1,t1,h1⟩ <;> rcases mem j2 b h2 with ⟨e2,h2⟩ | ⟨n2,t2,h2⟩
   ·exact hj (e1.trans e2.symm)
   ·exact h1.elim (fun h1=>x.dj i j2 b (Ne.symm n2) h1 h2) fun h1=>x.dj T j2 b (Ne.symm t2) (hN b h1) h2
   ·exact h2.elim (fun h2=>x.dj j1 i b n1 h1 h2) fun h2=>x.dj j1 T b t1 h1 (hN b h2)
   ·exact x.dj j1 j2 b hj h1 h2
 obtain ⟨x2,st2⟩:=rp
 have lvA:=kr'.live a' ha'
 obtain ⟨x3,st3⟩:=x2.ym (i:=i) ok t hsb cE (by rw [aq];exact haM) lvA
 have hS:∀ b,c.S F .im b→c.S (bp (bp F T []) i (N1++((as++Fy)++N2))) .im b:=fun b q=>⟨⟨q.1.1,fun j h=>(mem j b h).elim (fun h=>h.2.elim (q.1.2 i) fun h=>q.1.2 T (hN b h)) fun h=>q.1.2 j h.2.2⟩,q.2⟩
 obtain ⟨_,⟨oa,ea,fa,fa2,fa3⟩,_,hl⟩:=(x.own i a' haF).imp id fun h=>h.imp kU.nf id
 have pr:be (fun b=>c.S F .im b∧ak c.W s.heap b) s.heap h':=fun b o e hc=>(hsb.2 b fun q=>by
  subst q
  rcases hc with hc | hc
  ·exact hc.1.1.2 i haF
  ·obtain rfl:=geq ea e;exact fa2 hc).trans e
 have vo:=plug (P':=c.S (bp (bp F T []) i (N1++((as++Fy)++N2))) .im) (y:=.node kd' xs') ⟨a,vs',as,Fy,rfl,kr',rs'.xl pr (fun b q u0=>hS b q) fun b hb o e=>(hsb.2 b (ne b (.inr hb))).trans e,rfl⟩ pr (fun b q u0=>hS b q) fun b hb o e=>(hsb.2 b (ne b (.inl hb))).trans e
 refine ⟨_,?_,st2.trans st3,by rw [aq];exact vo⟩
 have:=x3.fill (z:=.own (pl (.node kd' xs'))) (i:=i) (fun y hy=>⟨v,(hv y hy).sameBut hsb (Ne.symm hl) fun d hd q=>?_,by rw [aq];exact vo,pin⟩) fun b hb=>absurd hb (hacc b)
 ·rwa [List.set_set] at this
 ·obtain ⟨o2,_,e2,_,c2⟩:=x.env.cell y d hd
  rw [q] at e2;obtain rfl:=geq ea e2;exact fa3 c2
end
end Mine
namespace Mine
open PySem PySem.Calls PyProof.Rows PySem.SeqAt PySem.W
inductive ResP (c:Cx) (ρ:List Sl) (F:Fp) (i:Nat) (Q:O→(O→O)→Nat→Prop) (s:Shared) (v:Value) (s':Shared):Prop
 | mk (x:O) (pl:O→O) (k:Nat) (v0:Value) (q:Q x pl k) (a:AtO c s'.heap F i v0 x pl v) (x':SR c ρ k F s') (st:av c.pen s.heap s'.heap)
noncomputable def EvP (c:Cx) (ρ:List Sl) (k i:Nat) (e:Expr) (Q:O→(O→O)→Nat→Prop):Prop:=aJ c→∀ F s,SR c ρ k F s→wpAny c.M c.A (eval e c.env) (ResP c ρ F i Q s) NoE s
section
variable {c:Cx} {ρ ρ':List Sl} {k k':Nat} {F F' F0:Fp} {s s' s0 s1:Shared} {i j:Nat} {E:Value→Shared→Prop} {Q Q':Post} {e o:Expr} {l:Lv} {x:O} {pl:O→O} {u v:Value} {h h':Heap}
theorem bI {x:Str} {z:O} {pos} {Q:O→(O→O)→Nat→Prop} (hs:aO c x i=true) (hz:ρ[i]? = some (.own z)) (q:Q z id k):EvP c ρ k i (.Name x pos) Q:=fun ok F s x1=>by
 obtain ⟨h0,h1,h2⟩:=bB hs
 have:=x1.vals x i h0
 rw [hz] at this
 obtain ⟨v,hv,r,pin⟩:=this
 exact wpAny_Name (hv.load ok.env.kind ⟨z,id,k,v,q,⟨[],F i,[],fun y hy=>ok.inj x y i h0 hy▸hv,pin,(List.append_nil _).symm,r,fun ry u0 u0 u0=>by simpa using ry⟩,x1,.refl⟩ h1) h2
theorem nQ {b:Expr} {pos} {Q:O→(O→O)→Nat→Prop} (hs:bQ b=true) (h:EvP c ρ k i o fun x pl k1=>∃ xs,x=.node .lst xs∧Ev c ρ k1 .any b fun y k2=>∃ (j:Nat) (x':O),y=.int j∧j < 2 ^ 62∧xs[j]? = some x'∧Q x' (fun y=>pl (.node .lst (xs.set j y))) k2):EvP c ρ k i (.Subscript o b pos) Q:=fun ok F s x0=>
 Subscript_ (noE (h ok F s x0) fun v s1 r=>by
  obtain ⟨_,pl,k1,v0,⟨xs,rfl,hb⟩,at1,x1,st1⟩:=r
  refine noE (hb ok F s1 x1) fun w s2 r=>?_
  obtain ⟨_,k2,⟨j,x',rfl,h1,hj,q⟩,⟨t,rfl⟩,x2,st2⟩:=r
  obtain ⟨a,vs,as,w,rfl,⟨_,n,eo⟩,hv,at2⟩:=(at1.step x1 st2 rfl fun u0 h u0=>h).child hj
  exact tail_any (T:="list") ⟨_,eo,rfl⟩ slot_list_getitem.lookup (wpAny_getItem_list (x:=w) ⟨_,eo,rfl,n,rfl⟩ (Int.natCast_nonneg j) (by lia) (by simpa using hv) ⟨x',_,k2,v0,q,at2,x2,st1.trans st2⟩) (bX hs))
theorem vQ {b:Expr} {pos} {Q:O→(O→O)→Nat→Prop} (hs:bQ b=true) (h:EvP c ρ k i o fun x pl k1=>∃ ks xs,x=.node (.dct ks) xs∧Ev c ρ k1 .any b fun y k2=>∃ (kk:Key) (j:Nat) (x':O),y=kk.toD∧bk ks kk=true∧aD ks kk=some j∧xs[j]? = some x'∧Q x' (fun y=>pl (.node (.dct ks) (xs.set j y))) k2):EvP c ρ k i (.Subscript o b pos) Q:=fun ok F s x0=>
 Subscript_ (noE (h ok F s x0) fun v s1 r=>by
  obtain ⟨_,pl,k1,v0,⟨ks,xs,rfl,hb⟩,at1,x1,st1⟩:=r
  refine noE (hb ok F s1 x1) fun w s2 r=>?_
  obtain ⟨_,k2,⟨kk,j,x',rfl,hk,hf,hj,q⟩,r2,x2,st2⟩:=r
  obtain ⟨a,vs,as,w,rfl,⟨_,hsm,es,m,eo,kr,hn⟩,hv,at2⟩:=(at1.step x1 st2 rfl fun u0 h u0=>h).child hj
  exact tail_any (aA eo) slot_dict_getitem.lookup (iC (v:=w) ok.room.in1 eo kr hn r2.key hk (by unfold eh;rw [hf];exact hv) fun t=>⟨x',_,k2,v0,q,at2,x2.grow (.toks t),st1.trans st2⟩) (bX hs))
theorem VO.handed {W:Wd} {P:Addr→Prop} {N} (r:VO W h P x v N):handedIn v=true:=by
 cases x with
 | leaf d=>exact r.1.handed
 | node k xs=>obtain ⟨a,_,_,_,rfl,_⟩:=r;rfl
theorem lX {n:Str} {nm:Txt} {pos} {Q:O→(O→O)→Nat→Prop} (hb:a0 o=true) (hn:n=strV nm) (h:EvP c ρ k i o fun x pl k1=>∃ cl ns xs j x',x=.node (.ins cl ns) xs∧nm∈aI cl∧ns.findIdx? (· == nm)=some j∧xs[j]? = some x'∧Q x' (fun y=>pl (.node (.ins cl ns) (xs.set j y))) k1):EvP c ρ k i (.Attribute o n pos) Q:=fun ok F s x0=>
 jq hb (noE (h ok F s x0) fun v s1 r=>by
  obtain ⟨_,pl,k1,v0,⟨cl,ns,xs,j,x',rfl,hm,hi,hj,q⟩,at1,x1,st1⟩:=r
  obtain ⟨a,vs,as,w,rfl,kr,hv,at2⟩:=at1.child hj
  refine ib ok x1.w0 kr hn hm hi hv ?_ ⟨x',_,k1,v0,q,at2,x1.grow (.toks _),st1⟩
  obtain ⟨_,_,_,_,_,_,sub,_⟩:=at2
  exact sub.handed)
theorem bO {Q:O→Nat→Prop} (h:Ev c ρ k .im e fun d k'=>Q (.leaf d) k'):EvO c ρ k e Q:=fun ok F s x=>noE (h ok F s x) fun u0 u0 zz0=>by obtain ⟨d,k',q,r,x1,st⟩:=zz0;exact ⟨.leaf d,k',[],q,⟨r.mono fun u0 h=>⟨h,fun q=>aE q⟩,rfl⟩,.nil,fun u0 h=>(aE h),x1,st⟩
theorem VOs.length {W:Wd} {P:Addr→Prop}:∀ {os vs N},VOs W h P os vs N→os.length=vs.length:=by
 intro os
 induction os with
 | nil=>
  exact @fun u0 u0 r=>by rw [r.1];rfl
 | cons _ _ ihq=>
  exact @fun u0 u0 yy0x0=>by obtain ⟨_,_,_,_,e,_,b,_⟩:=yy0x0;rw [e,List.length_cons,List.length_cons,ihq b]
theorem VOs.snoc {W:Wd} {P:Addr→Prop}:∀ {os vs N o w M},VOs W h P os vs N→VO W h P o w M→VOs W h P (os++[o]) (vs++[w]) (N++M):=by
 intro os
 induction os with
 | nil=>
  exact @fun u0 u0 u0 w M r a=>by rw [r.1,r.2];exact ⟨w,[],M,[],rfl,a,⟨rfl,rfl⟩,(List.append_nil _).symm⟩
 | cons _ _ ihq=>
  exact @fun u0 u0 u0 u0 u0 yy1x0 z=>by obtain ⟨v,r,F1,F2,e,a,b,q⟩:=yy1x0;rw [e,q];exact ⟨v,_,F1,_,rfl,a,ihq b z,List.append_assoc ..⟩
theorem dg:ρ[ρ.length]?.getD .undef=.undef:=by rw [List.getElem?_eq_none (Nat.le_refl _)];rfl
theorem qq {T:Nat} {N:List Addr} (hN:∀ a∈N,s.heap.get? a=none):∀ a,c.S F .im a→ak c.W s.heap a→c.S (bp F T N) .im a:=fun a h lv=>nP ⟨h,fun q=>by obtain ⟨o,e,_⟩:=lv;exact gno (hN a q) e⟩
inductive eB (c:Cx) (ρ:List Sl) (k i:Nat) (F0:Fp) (s0:Shared) (x:O) (pl:O→O) (z:O) (u w:Value) (s:Shared):Prop
 | mk (F:Fp) (N:List Addr) (x':SR c ρ k F s) (st:Stp c F0 s0 F s) (v0:Value) (at':AtO c s.heap F i v0 x pl u) (rz:VO c.W s.heap (c.S F .im) z w N) (nd:N.Nodup) (hN:∀ b∈N,b∈F ρ.length)
theorem eB.mut (ok:aJ c) {kd:Kd} {xs:List O} {z:O} {a:Addr} {w:Value} (H:eB c ρ k i F0 s0 (.node kd xs) pl z (.ref a) w s) (hf:c.fr=true) (hacc:c.acc=none) (hi:i < ρ.length) {G:Prop} (q:∀ vs as (P:Addr→Prop) Fx N,KR c.W s.heap kd a vs as→VOs c.W s.heap P xs vs Fx→VO c.W s.heap P z w N→(∀ {kd' xs' vs' h' t a' Fy},a'∈as→Heap.SameBut a' s.heap h'→KR c.W h' kd' a vs' as→VOs c.W s.heap P xs' vs' Fy→Fy.Perm (Fx++N)→
   (Q .next (ρ.set i (.own (pl (.node kd' xs')))) k→Out c F0 Q s0 .next { s with heap:=h',toks:=t }))→G):G:=by
 obtain ⟨F,N,x,st,v0,at',rz,nd,hN⟩:=H
 refine at'.mut ok x (T:=ρ.length) (by lia) dg (fun a=>hacc▸(fun h=>no1 h)) hi nd hN fun vs as Fx kr rs fin=>q vs as _ Fx N kr rs rz fun h1 h2 h3 h4 h5 hq=>?_
 obtain ⟨F',x',st',_⟩:=fin h1 h2 h3 h4 h5
 exact .here x' (st.trans st') hq rfl
theorem eB.of1 (ok:aJ c) (hi:i < ρ.length) {v0:Value} (at1:AtO c s1.heap F0 i v0 x pl u) (x1:SR c ρ k F0 s1) (st1:av c.pen s0.heap s1.heap) {P:O→Nat→Prop} (h:EvO c ρ k e P):wpAny c.M c.A (eval e c.env) (fun w s2=>∃ z k2,P z k2∧eB c ρ k2 i F0 s0 x pl z u w s2) NoE s1:=noE (h ok F0 s1 x1) fun w s2 r=>by
 obtain ⟨z,k2,N,q,x2,st2,rz,ke,hN⟩:=r.yn x1 (T:=ρ.length) dg
 have nd:=x2.nd ρ.length
 rw [aq] at nd
 exact ⟨z,k2,q,_,N,x2,(Stp.of_keep st1 x1.pen).trans st2,v0,at1.step x1 ke (aK (by lia)) (qq hN),rz,nd,fun b hb=>by rw [aq];exact hb⟩
theorem AtO.node {kd xs} {v0:Value} (at':AtO c h F i v0 (.node kd xs) pl u):∃ a vs as,u=.ref a∧KR c.W h kd a vs as:=by
 obtain ⟨_,_,_,_,_,_,⟨a,vs,as,_,e,kr,_⟩,_⟩:=at'
 exact ⟨a,vs,as,e,kr⟩
theorem eB.node {z:O} {w:Value} {kd xs} (H:eB c ρ k i F0 s0 (.node kd xs) pl z u w s):∃ a vs as,u=.ref a∧KR c.W s.heap kd a vs as:=by
 obtain ⟨_,_,_,_,_,at',_⟩:=H;exact at'.node
theorem dI {apos cpos pos} (hb:a0 o=true) (hs:ah e=true) (hl:(apos.endLine == cpos.line)=true) (hacc:c.acc=none) (hi:i < ρ.length)
  (h:EvP c ρ k i o fun x pl k1=>∃ xs,x=.node .lst xs∧xs.length < 2 ^ 24∧EvO c ρ k1 e fun z k2=>Q .next (ρ.set i (.own (pl (.node .lst (xs++[z]))))) k2):TrS c ρ k (.Expr (.Call (.Attribute o "append" apos) [e] [] cpos) pos) Q:=fun ok hf F s x0=>
 wpAny_Expr (bA hb (by rw [List.all_cons,hs];rfl) (Nat.le_of_ble_eq_true rfl) hl (wpAny_mono (h ok F s x0) (fun v1 s1 r=>by
  obtain ⟨_,pl,k1,v0,⟨xs,rfl,hz,h1⟩,at1,x1,st1⟩:=r
  obtain ⟨a,_,_,rfl,_,n,eo⟩:=at1.node
  refine getMethod_builtin (T:="list") (⟨_,eo,rfl⟩) PySem.F.plainAttrs_list PySem.F.slot_list_append PySem.F.type_list_append (fun a ha=>by injection ha with z0a;try subst z0a;exact ⟨_,eo,rfl⟩) ?_
  refine callWith_method1 (args_cons (wpAny_mono (eB.of1 ok hi at1 x1 st1 h1) (fun w s2 r=>args_nil ?_) fun u0 u0 f=>f.elim) (ag hs)) (ag hs) rfl
  obtain ⟨z,k2,q,H⟩:=r
  refine H.mut (Q:=Q) ok hf hacc hi fun vs as P Fx N kr rs rz fin=>?_
  obtain ⟨rfl,n,eo⟩:=kr
  have hlen:=rs.length
  exact append_at eo (fun h3 hsb e3=>fin (kd':=.lst) (vs':=vs++[w]) (List.mem_singleton.mpr rfl) hsb ⟨rfl,n+1,by rw [e3];simp⟩ (rs.snoc rz) (.refl _) q) (by simp [sizeLine];lia)) fun u0 u0 f=>f.elim)) (by unfold interactive;rw [ok.env.kind];rfl) (bD rfl)
theorem VOs.yc {W:Wd} {P:Addr→Prop}:∀ {os vs N ds ws},VOs W h P os vs N→VRs W h P ds ws→VOs W h P (os++ds.map .leaf) (vs++ws) N:=by
 intro os
 induction os with
 | nil=>
  exact @fun u0 u0 u0 u0 r a=>by rw [r.1,r.2];exact .xD a
 | cons _ _ ihq=>
  exact @fun u0 u0 u0 u0 yy2x0 z=>by obtain ⟨v,r,F1,F2,e,a,b,q⟩:=yy2x0;rw [e,q];exact ⟨v,_,F1,_,rfl,a,ihq b z,rfl⟩
theorem p8 {apos cpos pos} (hb:a0 o=true) (hs:ah e=true) (hl:(apos.endLine == cpos.line)=true) (hacc:c.acc=none) (hi:i < ρ.length)
  (h:EvP c ρ k i o fun x pl k1=>∃ xs,x=.node .lst xs∧Ev c ρ k1 .im e fun d k2=>∃ zs,d=.lst zs∧xs.length+zs.length≤2 ^ 24∧Q .next (ρ.set i (.own (pl (.node .lst (xs++zs.map .leaf))))) k2):TrS c ρ k (.Expr (.Call (.Attribute o "extend" apos) [e] [] cpos) pos) Q:=fun ok hf F s x0=>
 wpAny_Expr (bA hb (by rw [List.all_cons,hs];rfl) (Nat.le_of_ble_eq_true rfl) hl (wpAny_mono (h ok F s x0) (fun v1 s1 r=>by
  obtain ⟨_,pl,k1,v0,⟨xs,rfl,h1⟩,at1,x1,st1⟩:=r
  obtain ⟨a,_,_,rfl,_,n,eo⟩:=at1.node
  refine getMethod_builtin (T:="list") (⟨_,eo,rfl⟩) PySem.F.plainAttrs_list PySem.F.slot_list_extend PySem.F.type_list_extend (fun a ha=>by injection ha with z0a;try subst z0a;exact ⟨_,eo,rfl⟩) ?_
  refine callWith_method1 (args_cons (wpAny_mono (eB.of1 (P:=fun z k2=>∃ d,z=.leaf d∧∃ zs,d=.lst zs∧xs.length+zs.length≤2 ^ 24∧Q .next (ρ.set i (.own (pl (.node .lst (xs++zs.map .leaf))))) k2) ok hi at1 x1 st1 (bO (h1.mono fun d k q=>⟨d,rfl,q⟩))) (fun w s2 r=>args_nil ?_) fun u0 u0 f=>f.elim) (ag hs)) (ag hs) rfl
  obtain ⟨_,k2,⟨_,rfl,zs,rfl,hz,q⟩,H⟩:=r
  refine H.mut (Q:=Q) ok hf hacc hi fun vs as P Fx N kr rs rz fin=>?_
  obtain ⟨rfl,n,eo⟩:=kr
  obtain ⟨⟨b,us,_,rfl,⟨_,m,eb⟩,_,rz⟩,rfl⟩:=rz
  have hlen:=rs.length
  have hlen':=rz.length
  obtain ⟨n',hup⟩:∃ n',(s2.heap.update a (Obj.mapSeq fun x=>x++us.toArray)).get? a=some (fP (vs++us) n'):=by
   rw [PySem.IsL.update eo (fun x=>x++us.toArray),List.append_toArray];exact ⟨_,rfl⟩
  exact call_meets PySem.F.slot_list_extend ⟨_,eo,rfl⟩ PySem.F.entry_list_extend (PySem.F.args_list_extend_2 _ _) (AutoSeq1.list_extend_list_list_0 a vs.toArray n b us.toArray m (extend_door (by simp [sizeLine];lia)) (by simp [sizeLine];lia) (by simp [sizeLine];lia)) ⟨eo,eb,fin (kd':=.lst) (vs':=vs++us) (List.mem_singleton.mpr rfl) (Heap.SameBut.update ..) ⟨rfl,n',hup⟩ (rs.yc rz) (by simp) q⟩) fun u0 u0 f=>f.elim)) (by unfold interactive;rw [ok.env.kind];rfl) (bD rfl)
theorem VOs.ins {W:Wd} {P:Addr→Prop} {z w M} (a:VO W h P z w M):∀ {os vs N} (j:Nat),VOs W h P os vs N→∃ N',VOs W h P (os.take j++z::os.drop j) (vs.take j++w::vs.drop j) N'∧N'.Perm (N++M):=by
 intro os vs N j
 induction j generalizing os vs N with
 | zero=>exact fun r=>⟨M++N,⟨w,vs,M,N,rfl,a,r,rfl⟩,List.perm_append_comm⟩
 | succ j ih=>
  intro r
  cases os with
  | nil=>rw [r.1,r.2];exact ⟨M,⟨w,[],M,[],rfl,a,⟨rfl,rfl⟩,(List.append_nil _).symm⟩,.refl _⟩
  | cons o os=>
   obtain ⟨v,r,F1,F2,e,x,b,q⟩:=r
   obtain ⟨N',h1,h2⟩:=ih b
   subst e q
   exact ⟨F1++N',⟨v,_,F1,N',rfl,x,h1,rfl⟩,List.append_assoc ..▸h2.append_left F1⟩
theorem pO {b:Expr} {apos cpos pos} (hb:a0 o=true) (hs:[b,e].all ah=true) (hl:(apos.endLine == cpos.line)=true) (hacc:c.acc=none) (hi:i < ρ.length)
  (h:EvP c ρ k i o fun x pl k1=>∃ xs,x=.node .lst xs∧Ev c ρ k1 .any b fun y k2=>∃ j:Nat,y=.int j∧j≤xs.length∧xs.length < 2 ^ 24∧EvO c ρ k2 e fun z k3=>Q .next (ρ.set i (.own (pl (.node .lst (xs.take j++z::xs.drop j))))) k3):TrS c ρ k (.Expr (.Call (.Attribute o "insert" apos) [b,e] [] cpos) pos) Q:=fun ok hf F s x0=>
 wpAny_Expr (bA hb hs (Nat.le_of_ble_eq_true rfl) hl (wpAny_mono (h ok F s x0) (fun v1 s1 r=>by
  obtain ⟨_,pl,k1,v0,⟨xs,rfl,h1⟩,at1,x1,st1⟩:=r
  obtain ⟨a,_,_,rfl,_,n,eo⟩:=at1.node
  simp only [List.all_cons,List.all_nil,Bool.and_true,Bool.and_eq_true] at hs
  refine getMethod_builtin (T:="list") (⟨_,eo,rfl⟩) PySem.F.plainAttrs_list PySem.F.slot_list_insert PySem.F.type_list_insert (fun a ha=>by injection ha with z0a;try subst z0a;exact ⟨_,eo,rfl⟩) ?_
  refine callWith_method1 (args_cons (wpAny_mono (h1 ok F s1 x1) (fun wi s2 r=>?_) fun u0 u0 f=>f.elim) (ag hs.1)) (ag hs.1) (fD _ (by rw [List.all_cons,hs.2];rfl)).1
  obtain ⟨d,k2,⟨j,e,hj,hz,h2⟩,r,x2,st2⟩:=r
  generalize hzj:(j:Int)=zj at e
  subst e
  obtain ⟨ti,rfl⟩:=r
  refine args_cons (wpAny_mono (eB.of1 ok hi (at1.step x1 st2 rfl fun u0 h u0=>h) x2 (st1.trans st2) h2) (fun w s3 r=>args_nil ?_) fun u0 u0 f=>f.elim) (ag hs.2)
  obtain ⟨z,k3,q,H⟩:=r
  refine H.mut (Q:=Q) ok hf hacc hi fun vs as P Fx N kr rs rz fin=>?_
  obtain ⟨rfl,n,eo⟩:=kr
  have hlen:=rs.length
  obtain ⟨n',hup⟩:∃ n',(s3.heap.update a (Obj.mapSeq fun xs=>have k:=if zj < 0 then (zj+((xs.size:Nat):Int)).toNat else min zj.toNat xs.size;(xs.extract 0 k).push w++xs.extract k)).get? a=some (fP (vs.take j++w::vs.drop j) n'):=by
   rw [PySem.IsL.update eo (fun xs=>have k:=if zj < 0 then (zj+((xs.size:Nat):Int)).toNat else min zj.toNat xs.size;(xs.extract 0 k).push w++xs.extract k)]
   dsimp only
   rw [if_neg (by lia),List.size_toArray,show min zj.toNat vs.length=j by lia,show (vs.toArray.extract 0 j).push w++vs.toArray.extract j vs.length=(vs.take j++w::vs.drop j).toArray by simp [List.take_of_length_le]]
   exact ⟨_,rfl⟩
  obtain ⟨Fy,ri,hp⟩:=rs.ins rz j
  exact call_meets PySem.F.slot_list_insert ⟨_,eo,rfl⟩ PySem.F.entry_list_insert (PySem.F.args_list_insert_3 _ _ _) (AutoListH.list_insert_list_int_val_1 a vs.toArray n zj ti w (by simp [Builtin.List.listFitsIndex];lia) (by simp [sizeLine];lia)) ⟨eo,fin (kd':=.lst) (List.mem_singleton.mpr rfl) (Heap.SameBut.update ..) ⟨rfl,n',hup⟩ ri hp q⟩) fun u0 u0 f=>f.elim)) (by unfold interactive;rw [ok.env.kind];rfl) (bD rfl)
theorem VOs.yo {W:Wd} {P:Addr→Prop} {os vs N j d0 z w M} (r:VOs W h P os vs N) (hj:os[j]? = some (.leaf d0)) (a:VO W h P z w M):∃ N',VOs W h P (os.set j z) (vs.set j w) N'∧N'.Perm (N++M):=by
 obtain ⟨w',M1,M2,M3,e1,rfl,⟨_,rfl⟩,e4⟩:=r.plug hj
 refine ⟨_,e4 a (fun u0 u0 e u0=>e) (fun u0 h u0=>h) fun u0 u0 u0 e=>e,?_⟩
 rw [List.perm_iff_count]
 intro b
 simp only [List.count_append,List.count_nil]
 lia
theorem eB.of2 (ok:aJ c) (x0:SR c ρ k F0 s0) (hi:i < ρ.length) {P:O→Nat→Prop} {R:O→O→(O→O)→Nat→Prop} (h:EvO c ρ k e P) (hp:∀ z k,P z k→EvP c ρ k i o (R z)):wpAny c.M c.A (eval e c.env) (fun w s1=>wpAny c.M c.A (eval o c.env) (fun u s2=>∃ x pl z k2,R z x pl k2∧eB c ρ k2 i F0 s0 x pl z u w s2) NoE s1) NoE s0:=noE (h ok F0 s0 x0) fun w s1 r=>by
 obtain ⟨z,k1,N,q,x1,st1,rz,ke,hN⟩:=r.yn x0 (T:=ρ.length) dg
 have nd:=x1.nd ρ.length
 rw [aq] at nd
 refine noE (hp z k1 q ok _ s1 x1) fun u s2 r=>?_
 obtain ⟨x,pl,k2,v0,q2,at2,x2,st2⟩:=r
 refine ⟨x,pl,z,k2,q2,_,N,x2,st1.trans (.of_keep st2 x2.pen),v0,at2,?_,nd,fun b hb=>by rw [aq];exact hb⟩
 have:=x1.vo (i:=ρ.length) st2 (o:=z) (v:=w)
 rw [aq] at this
 exact this rz
theorem eB.step (x0:SR c ρ k F0 s0) {z:O} {w:Value} {Q:D→Nat→Prop} (ok:aJ c) {b:Expr} (H:eB c ρ k' i F0 s0 x pl z u w s) (h:Ev c ρ k' .any b Q):wpAny c.M c.A (eval b c.env) (fun y s2=>∃ d k2,Q d k2∧(∃ P,VR c.W s2.heap P d y)∧eB c ρ k2 i F0 s0 x pl z u w s2) NoE s:=by
 obtain ⟨F,N,x1,st,v0,at',rz,nd,hN⟩:=H
 refine noE (h ok F s x1) fun y s2 r=>?_
 obtain ⟨d,k2,q,r2,x2,st2⟩:=r
 refine ⟨d,k2,q,⟨_,r2⟩,F,N,x2,st.trans (.of_keep st2 x2.pen),v0,at'.step x1 st2 rfl fun u0 h u0=>h,rz.xl (st2.xl x1.pen fun u0 h=>h.xu) (fun u0 h u0=>h) fun a ha o e=>?_,nd,hN⟩
 obtain ⟨_,l,p,_⟩:=x1.own _ a (hN a ha)
 obtain ⟨o',e',f,_⟩:=l.nf
 obtain rfl:=geq e e'
 exact (st2 a o e p).1 f
theorem qj {b:Expr} {ps pos} (hc:bE e=true) (hacc:c.acc=none) (hi:i < ρ.length)
  (h:EvO c ρ k e fun z k1=>EvP c ρ k1 i o fun x pl k2=>∃ xs,x=.node .lst xs∧Ev c ρ k2 .any b fun y k3=>∃ (j:Nat) (d0:D),y=.int j∧xs[j]? = some (.leaf d0)∧xs.length≤2 ^ 24∧Q .next (ρ.set i (.own (pl (.node .lst (xs.set j z))))) k3):TrS c ρ k (.Assign [.Subscript o b ps] e pos) Q:=fun ok hf F s x0=>
 wpAny_Assign_Subscript (noE (eB.of2 ok x0 hi h fun u0 u0 q=>q) fun w s1 r=>noE r fun u s2 r=>by
  obtain ⟨_,pl,z,k2,⟨xs,rfl,h1⟩,H⟩:=r
  refine noE (H.step x0 ok h1) fun y s3 r=>?_
  obtain ⟨_,k3,⟨j,d0,rfl,hj,hz,q⟩,⟨_,tj,rfl⟩,H⟩:=r
  obtain ⟨a,_,_,rfl,_⟩:=H.node
  refine H.mut (Q:=Q) ok hf hacc hi fun vs as P Fx N kr rs rz fin=>?_
  obtain ⟨rfl,n,eo⟩:=kr
  have hlen:=rs.length
  have hjl:=(List.getElem?_eq_some_iff.mp hj).1
  obtain ⟨Fy,ri,hp⟩:=rs.yo hj rz
  exact du eo rfl (by lia) (by lia) fun h' m' e' hsb=>fin (kd':=.lst) (t:=s3.toks) (List.mem_singleton.mpr rfl) hsb ⟨rfl,m',e'⟩ ri hp q) (bD hc)
noncomputable def fR (ks:List Key) (xs:List O) (kk:Key) (z:O):List O:=match aD ks kk with
 | some j=>xs.set j z
 | none=>xs++[z]
theorem hZ {b:Expr} {ps pos} (hc:bE e=true) (hacc:c.acc=none) (hi:i < ρ.length)
  (h:EvO c ρ k e fun z k1=>EvP c ρ k1 i o fun x pl k2=>∃ ks xs,x=.node (.dct ks) xs∧Ev c ρ k2 .any b fun y k3=>∃ kk:Key,y=kk.toD∧bk ks kk=true∧ks.length≤2 ^ 24∧(∀ j,aD ks kk=some j→∃ d0,xs[j]? = some (.leaf d0))∧Q .next (ρ.set i (.own (pl (.node (.dct (fK ks kk)) (fR ks xs kk z))))) k3):TrS c ρ k (.Assign [.Subscript o b ps] e pos) Q:=fun ok hf F s x0=>
 wpAny_Assign_Subscript (noE (eB.of2 ok x0 hi h fun u0 u0 q=>q) fun w s1 r=>noE r fun u s2 r=>by
  obtain ⟨_,pl,z,k2,⟨ks,xs,rfl,h1⟩,H⟩:=r
  refine noE (H.step x0 ok h1) fun y s3 r=>?_
  obtain ⟨_,k3,⟨kk,rfl,hk,hz,hj,q⟩,⟨_,ry⟩,H⟩:=r
  obtain ⟨a,_,_,rfl,_⟩:=H.node
  refine H.mut (Q:=Q) ok hf hacc hi fun vs as P Fx N kr rs rz fin=>?_
  obtain ⟨rfl,hsm,es,m,eo,kr,hn⟩:=kr
  refine mO ok.room.in1 eo kr hn ry.key hk (by simp [sizeLine];lia) fun h4 t4 es4 m4 e4 kr4 hsb=>?_
  have:∃ Fy,VOs c.W s3.heap P (fR ks xs kk z) (mo ks vs kk w) Fy∧Fy.Perm (Fx++N):=by
   unfold fR mo
   cases hf:aD ks kk with
   | none=>exact ⟨_,rs.snoc rz,.refl _⟩
   | some j=>obtain ⟨d0,hj⟩:=hj j hf;exact rs.yo hj rz
  obtain ⟨Fy,ri,hp⟩:=this
  exact fin (kd':=.dct (fK ks kk)) (List.mem_singleton.mpr rfl) hsb ⟨rfl,hsm,es4,m4,e4,kr4,i7 hn⟩ ri hp q) (bD hc)
end
end Mine
namespace Mine
open PySem PySem.Calls PyProof.Rows PySem.SeqAt PySem.W
theorem bf.xQ {es ns vs} (r:bf es ns vs) {m:Txt} {hsh:Int} {key v:Value} (hkey:∃ t,key=.str (strV m) t) (h:ns.findIdx? (· == m)=none):bf (putL (strV m) hsh key v es) (ns++[m]) (vs++[v]):=by
 induction r with
 | nil=>exact .cons (e:=⟨hsh,key,v⟩) hkey .nil
 | @cons e k es ks vs hk r ih=>
  obtain ⟨t,hk⟩:=hk
  rw [List.findIdx?_cons] at h
  unfold putL
  rw [hk,fW]
  cases hb:(k == m) with
  | true=>rw [hb] at h;simp at h
  | false=>
   rw [hb] at h
   simp only [Bool.false_eq_true,if_false,Option.map_eq_none_iff] at h
   exact .cons ⟨t,hk⟩ (ih h)
theorem bf.length {es ns vs} (r:bf es ns vs):es.length=ns.length∧vs.length=ns.length:=by
 induction r with
 | nil=>exact ⟨rfl,rfl⟩
 | cons _ _ ih=>simp [ih]
theorem mK {name:Str} {hsh:Int} {key v:Value}:∀ es:List DictEntry,(putL name hsh key v es).length≤es.length+1:=by
 intro es
 induction es generalizing name hsh key v with
 | nil=>
  exact by simp [putL]
 | cons e r ihq=>
  have:=ihq (name:=name) (hsh:=hsh) (key:=key) (v:=v)
  unfold putL
  split <;> simp
  exact this
set_option tactic.hygienic true in
theorem p7 {prog:Program} {w:World} {A:Around} {Ex:Value→Shared→Prop} {s:Shared} {K:Frag} {x C dx:Addr} {sl:Array (Option Value)} {es:List DictEntry} {n:Nat} {name:Str} {v:Value} {Q:Unit→Shared→Prop} (X:K.In s.heap)
  (hx:s.heap.get? x=some ⟨.ref C,some dx,.plain,sl⟩) (hD:s.heap.get? dx=some (dictOf es n))
  (hs:findIn K (.ref C) "__setattr__" = some (some (.builtin "object.__setattr__"))) (hp:plainOver K C=true) (ht:takerIn K C name=some none) (hh:hasDictIn K C=true) (hl:(getL name es).isSome=true) (hz:es.length < sizeLine)
  (h:∀ h' hsh tk n',Heap.SameBut dx s.heap h'→h'.get? dx=some (dictOf (putL name hsh (.str name tk) v es) n')→Q () { s with heap:=h',toks:=s.toks+2 }) :
  wpAny (model prog w) A (setAttr (.ref x) name v) Q Ex s:=by
 obtain ⟨hp',g,d,t,os⟩:=s
 dsimp only at X hx hD h
 have I:InstAt hp' x ⟨.ref C,some dx,.plain,sl⟩ C (some (dictOf es n)):=⟨hx,rfl,rfl,hD⟩
 refine set_plain (s:=⟨hp',g,d,t,os⟩) X I hs (osa_open (s:=⟨hp',g,d,t+1,os⟩) X I hp ht fun b=>?_)
 obtain ⟨cd,hc,hd'⟩:=any_some hh
 refine wpAny_bind (wpAny_pure (wpAny_bind (wpAny_bind (wpAny_loadPart hx (wpAny_bind ((looks_clsIn X hc).here ?_))))))
 rw [hd']
 refine wpAny_pure (a:=some dx) (wpAny_bind (wpAny_pure (wpAny_bind ?_)))
 unfold nsSet
 refine wpAny_bind (wpAny_bind (wpAny_askSetting (wpAny_pure (wpAny_bind (wpAny_mkText (wpAny_bind (wpAny_loadPart hD ?_)))))))
 dsimp only
 have c:(!es.any (·.key.isStr name) && es.any (·.refKey))=false:=by
  unfold getL at hl
  split at hl
  ·rename_i en he
   rw [List.any_eq_true.mpr ⟨en,List.mem_of_find?_eq_some he,List.find?_some he⟩];rfl
  ·split at hl
   ·cases hl
   ·rename_i z;rw [Bool.not_eq_true] at z;rw [z,Bool.and_false]
 have c':(!es.toArray.any (·.key.isStr name) && es.toArray.any (·.refKey))=false:=by simpa using c
 rw [aRefKeyMayBeTheName_at,c']
 refine wpAny_updatePart hD ?_
 have up:(hp'.update dx (Obj.putName name (PyData.keyHash w.params name) (.str name (t+1)) v)).get? dx=some (dictOf (putL name (PyData.keyHash w.params name) (.str name (t+1)) v es) (putN name es n)):=by
  rw [Heap.get?_update_self _ hD (by rw [putName_dict];rfl),putName_dict]
 refine wpAny_bind (wpAny_lookBehind up (pastItsLine_dict (by rw [List.size_toArray];have:=mK (name:=name) (hsh:=PyData.keyHash w.params name) (key:=.str name (t+1)) (v:=v) es;lia)) ?_)
 exact wpAny_pure (h _ _ _ _ (Heap.SameBut.update ..) up)
section
variable {c:Cx} {ρ ρ':List Sl} {k k':Nat} {F F' F0:Fp} {s s' s0 s1:Shared} {i j:Nat} {E:Value→Shared→Prop} {Q Q':Post} {e o:Expr} {l:Lv}
theorem oA {y:Str} {nm:Txt} {ps pos} (hsw:∀ env,swapsWith e (some (.Attribute o y ps)) pos.line env=pure false) (hy:y=strV nm) (hacc:c.acc=none) (hi:i < ρ.length)
  (h:EvO c ρ k e fun z k1=>EvP c ρ k1 i o fun x pl k2=>∃ cl ns xs,x=.node (.ins cl ns) xs∧nm∈aI cl∧ns.length < 2 ^ 24∧ns.findIdx? (· == nm)=none∧Q .next (ρ.set i (.own (pl (.node (.ins cl (ns++[nm])) (xs++[z]))))) k2):TrS c ρ k (.Assign [.Attribute o y ps] e pos) Q:=fun ok hf F s x0=>
 plainObj_wpAny_Assign_Attribute (noE (eB.of2 ok x0 hi h fun u0 u0 q=>q) fun w s1 r=>noE r fun u s2 r=>by
  subst hy
  obtain ⟨_,pl,z,k2,⟨cl,ns,xs,rfl,hm,hz,hj,q⟩,H⟩:=r
  obtain ⟨a,_,_,rfl,_⟩:=H.node
  have w0:W0 c.W c.A s2:=by obtain ⟨_,_,x,_⟩:=H;exact x.w0
  refine H.mut (Q:=Q) ok hf hacc hi fun vs as P Fx N kr rs rz fin=>?_
  obtain ⟨dx,es,n,sl,rfl,eo,ed,fr,hnd⟩:=kr
  have C:=ok.wok.cls cl
  have hne:a≠dx:=fun h=>by rw [h,ed] at eo;simp at eo
  refine p7 (ok.wok.inb.keeps w0.base) eo ed C.sa C.po (C.tk nm hm) C.hd (by rw [fr.xF hj];rfl) (by rw [fr.length.1,sizeLine_eq];lia) fun h4 hsh tk n4 hsb e4=>?_
  refine fin (kd':=.ins cl (ns++[nm])) (List.mem_cons_of_mem _ (List.mem_singleton.mpr rfl)) hsb ⟨dx,_,_,sl,rfl,(hsb.2 a hne).trans eo,e4,fr.xQ ⟨_,rfl⟩ hj,?_⟩ (rs.snoc rz) (.refl _) q
  rw [List.nodup_append]
  refine ⟨hnd,by simp,fun b hb d hd e=>?_⟩
  rw [List.mem_singleton] at hd
  have:=List.findIdx?_eq_none_iff.mp hj b hb
  rw [e,hd] at this;simp at this) (hsw _)
end
end Mine
namespace Mine
open PySem PySem.Calls PyProof.Rows PySem.SeqAt PySem.W
section
variable {A:Around} {env:Env} {s:Shared}
noncomputable def nY (env:Env):Expr→Bool→Sem (ForInStep Bool):=fun c r=>if r=true then do let ok ← isTrue c env (eval c env);pure (ForInStep.yield ok) else pure (ForInStep.yield r)
theorem pZ {M:Model} {E:Value→Shared→Prop} {Q:Bool→Shared→Prop}:∀ (ifs:List Expr) (h:Q false s),wpAny M A (forIn ifs false (nY env)) Q E s:=by
 intro ifs
 induction ifs with
 | nil=>
  exact @fun h=>by rw [List.forIn_nil];exact wpAny_pure h
 | cons c r ihq=>
  intro h
  rw [List.forIn_cons]
  exact wpAny_bind (wpAny_pure (ihq h))
noncomputable def cm (pos:Pos) (target:Expr) (it:Value) (ifs:List Expr) (env:Env) (body:Sem Unit) (c:Code):Sem PySem.Fin:=do
 standAt pos
 match ← pyNext it with
 | none=>pure (.done .next)
 | some v=>
  letOwnedTupleGo target it v
  assign target env v
  let ok ← forIn ifs true (nY env)
  if ok then body
  again c
theorem mN {M:Model} (hM:∃ prog w,M=model prog w) {e:Expr} {d:Nat} {it acc:Value} {env:Env} (hf:(Code.compLoop e d it acc env).isFrame=false) :
  M.den (.compLoop e d it acc env)=(compTurn e d it acc env).onRaise (fun x=>do noteFrame x env;theTreesLotGoes x):=by
 obtain ⟨prog,w,rfl⟩:=hM
 show (if (Code.compLoop e d it acc env).isFrame=true then _ else _)=_
 rw [hf];rfl
theorem eG {elt target iter:Expr} {ifs:List Expr} {gens:List Comprehension} {scope:Scope} {pos:Pos} {d:Nat} {it acc:Value} {env:Env} (hg:gens[d]? = some ⟨target,iter,ifs,0⟩) (hn:gens[d+1]? = none) :
  compTurn (.ListComp elt gens scope pos) d it acc env=cm iter.pos target it ifs env (do let _ ← PySem.call (.builtin "list.append") [acc,← eval elt env]) (.compLoop (.ListComp elt gens scope pos) d it acc env):=by
 unfold compTurn cm
 simp only [hg,hn]
 rfl
theorem jI {kx vx target iter:Expr} {ifs:List Expr} {gens:List Comprehension} {scope:Scope} {pos:Pos} {d:Nat} {it:Value} {dd:Addr} {env:Env} (hg:gens[d]? = some ⟨target,iter,ifs,0⟩) (hn:gens[d+1]? = none) :
  compTurn (.DictComp kx vx gens scope pos) d it (.ref dd) env=cm iter.pos target it ifs env (do
    let kv ← eval kx env
    let vv ← holding [kv] (eval vx env)
    standAt { kx.pos with endLine:=vx.pos.endLine,endCol:=vx.pos.endCol }
    holding [kv,vv] (dictSet dd kv vv)) (.compLoop (.DictComp kx vx gens scope pos) d it (.ref dd) env):=by
 unfold compTurn cm
 simp only [hg,hn]
 rfl
theorem jP {elt target iter target' iter':Expr} {ifs ifs':List Expr} {gens:List Comprehension} {scope:Scope} {pos:Pos} {d:Nat} {it acc:Value} {env:Env} (hg:gens[d]? = some ⟨target,iter,ifs,0⟩) (hn:gens[d+1]? = some ⟨target',iter',ifs',0⟩) :
  compTurn (.ListComp elt gens scope pos) d it acc env=cm iter.pos target it ifs env (do
    let x ← eval iter' env
    standAt iter'.pos
    let x ← foldedSetIterable iter' env x
    let _ ← runOwn (.compStart (.ListComp elt gens scope pos) (d+1) (← holding [x] (pyIter x)) acc env) env) (.compLoop (.ListComp elt gens scope pos) d it acc env):=by
 unfold compTurn cm
 simp only [hg,hn,bind_assoc,pure_bind,bne_self_eq_false,Bool.false_eq_true,if_false]
 rfl
theorem kg {prog:Program} {w:World} {A:Around} {R:Result→Shared→Prop} {s:Shared} {e target iter:Expr} {ifs:List Expr} {d:Nat} {it acc:Value} {env:Env} (hg:(clausesOf e)[d]? = some ⟨target,iter,ifs,0⟩) (hf:(Code.compStart e d it acc env).isFrame=false)
  (hun:A.under (.compStart e d it acc env)=A) (hq:(Code.compLoop e d it acc env).quiet=true) (hq':∀ it',(Code.compLoop e d it' acc env).quiet=true)
  (h0:codeAny (model prog w) A (.compLoop e d it acc env) R s)
  (h:wpAny (model prog w) A (pyIter it) (fun it' s'=>codeAny (model prog w) A (.compLoop e d it' acc env) R s') (notedBy (model prog w) A env fun x s'=>R (.error x) s') s):codeAny (model prog w) A (.compStart e d it acc env) R s:=by
 refine codeAny_of_tree ?_
 have e1:(model prog w).den (.compStart e d it acc env)=(compStart e d it acc env).onRaise (fun x=>do noteFrame x env;standAt theWindowsPlace):=by
  show (if (Code.compStart e d it acc env).isFrame=true then _ else _)=_
  rw [hf];rfl
 rw [e1,hun]
 refine wpAny_notedAt ?_
 unfold compStart
 rw [hg]
 show wpAny _ _ (ask >>= _) _ _ s
 refine wpAny_bind (wpAny_askSetting (wpAny_ite ?_))
 split
 ·first
   | exact wpAny_bind (wpAny_pure (wpAny_pure (And.intro hq h0)))
   | exact wpAny_pure (And.intro hq h0)
 ·first
   | exact wpAny_bind (wpAny_rule (wpAny_bind (wpAny_standAt (wpAny_bind (wpAny_mono h (fun it' s' h'=>wpAny_pure (And.intro (hq' it') h')) fun u0 u0 x=>x)))))
   | (refine wpAny_bind (wpAny_rule ?_);show wpAny _ _ (standAt iter.pos >>= _) _ _ s;exact wpAny_bind (wpAny_standAt (wpAny_bind (wpAny_mono h (fun it' s' h'=>wpAny_pure (And.intro (hq' it') h')) fun u0 u0 x=>x))))
theorem qg {l:List (Str × NameKind)} (h:∀ y∈l,y.2=.free→∃ c,env.cells.lookup y.1=some c):∀ acc:List (Str × Addr),(∀ x c,acc.lookup x=some c→env.cells.lookup x=some c)→
  ∃ cl,(forIn l acc (fun x cs=>if (x.2 == NameKind.free)=true then do let a ← cellOf env x.1;pure (ForInStep.yield ((x.1,a)::cs)) else pure (ForInStep.yield cs)):Sem (List (Str × Addr)))=pure cl∧
   (∀ x c,cl.lookup x=some c→env.cells.lookup x=some c)∧(∀ x,(∃ c,acc.lookup x=some c)→∃ c,cl.lookup x=some c)∧∀ y∈l,y.2=.free→∃ c,cl.lookup y.1=some c:=by
 induction l with
 | nil=>exact fun acc ha=>⟨acc,by rw [List.forIn_nil],ha,fun u0 h=>h,by simp⟩
 | cons y l ih=>
  intro acc ha
  obtain ⟨z,k⟩:=y
  rw [List.forIn_cons]
  by_cases hk:k=.free
  ·subst hk
   obtain ⟨c,hc⟩:=h (z,.free) List.mem_cons_self rfl
   have e:cellOf env z=pure c:=by unfold cellOf;rw [show env.cells.lookup z=some c from hc]
   simp only [beq_self_eq_true,if_true,e,pure_bind]
   obtain ⟨cl,e1,e2,e3,e4⟩:=ih (fun y hy=>h y (List.mem_cons_of_mem _ hy)) ((z,c)::acc) fun x c' hx=>by
    rw [List.lookup_cons] at hx
    cases hb:x == z with
    | true=>rw [hb] at hx;have z0:=Option.some.inj hx;try subst z0;rw [beq_iff_eq.mp hb];exact hc
    | false=>rw [hb] at hx;exact ha x c' hx
   refine ⟨cl,e1,e2,fun x hx=>e3 x ?_,fun y hy hf=>?_⟩
   ·rw [List.lookup_cons]
    cases hb:x == z with
    | true=>exact ⟨c,rfl⟩
    | false=>exact hx
   ·rcases List.mem_cons.mp hy with rfl | hy
    ·exact e3 z ⟨c,by simp⟩
    ·exact e4 y hy hf
  ·have hb:(k == NameKind.free)=false:=by simpa using hk
   simp only [hb,Bool.false_eq_true,if_false,pure_bind]
   obtain ⟨cl,e1,e2,e3,e4⟩:=ih (fun y hy=>h y (List.mem_cons_of_mem _ hy)) acc ha
   refine ⟨cl,e1,e2,e3,fun y hy hf=>?_⟩
   rcases List.mem_cons.mp hy with rfl | hy
   ·exact absurd hf hk
   ·exact e4 y hy hf
theorem rU {scope:Scope}:closureFor scope env=(forIn scope.names ([]:List (Str × Addr)) (fun x cs=>if (x.2 == NameKind.free)=true then do let a ← cellOf env x.1;pure (ForInStep.yield ((x.1,a)::cs)) else pure (ForInStep.yield cs)):Sem (List (Str × Addr))):=by
 unfold closureFor
 simp only [bind_pure]
theorem mR {g:Str→NameKind→NameKind} {x:Str} {l:List (Str × NameKind)}:(l.map fun y=>(y.1,g y.1 y.2)).lookup x=(l.lookup x).map (g x):=by
 induction l with
 | nil=>rfl
 | cons y l ih=>
  rw [List.map_cons,List.lookup_cons,List.lookup_cons]
  cases hx:x == y.1 with
  | true=>exact eq_of_beq hx▸rfl
  | false=>exact ih
theorem cf {x:Str} {k:NameKind} {l:List (Str × NameKind)} (h:l.lookup x=some k) :
  ((l.map fun (n,k)=>if (k == NameKind.free && env.scope.kind == .function && env.kindOf n == some .cell) then (n,NameKind.cell) else (n,k)).lookup x=some k∨
   (k=.free∧(l.map fun (n,k)=>if (k == NameKind.free && env.scope.kind == .function && env.kindOf n == some .cell) then (n,NameKind.cell) else (n,k)).lookup x=some .cell)):=by
 rw [List.map_congr_left (g:=fun y=>(y.1,if (y.2 == NameKind.free && env.scope.kind == .function && env.kindOf y.1 == some .cell) then NameKind.cell else y.2)) fun y u0=>by obtain ⟨n,k⟩:=y;exact (apply_ite (Prod.mk n) _ _ _).symm,mR (g:=fun n k=>if (k == NameKind.free && env.scope.kind == .function && env.kindOf n == some .cell) then NameKind.cell else k),h]
 by_cases hc:(k == NameKind.free && env.scope.kind == .function && env.kindOf x == some .cell)=true
 ·exact .inr ⟨eq_of_beq (Bool.and_eq_true_iff.mp (Bool.and_eq_true_iff.mp hc).1).1,congrArg some (if_pos hc)⟩
 ·exact .inl (congrArg some (if_neg hc))
theorem mF {M:Model} {A:Around} {E:Value→Shared→Prop} {s:Shared} {scope:Scope} {env:Env} {cl:List (Str × Addr)} {Q:Env→Shared→Prop} (hc:∀ x∈scope.names,x.2≠.cell)
  (h:Q { scope:=scope,locals:=s.heap.objs.size,globals:=env.globals,cells:=cl,qual:=env.qual,func:=none,code:=env.code,frame:=env.frame,builtins:=env.builtins } { s with heap:=s.heap.push { cls:=.type "dict",data:=.dict #[] } }) :
  wpAny M A (newFunctionEnv scope env.globals cl [] env.qual none .none (some env)) Q E s:=by
 simp only [newFunctionEnv,Option.isSome_some,if_true]
 refine wpAny_bind (wpAny_alloc ?_)
 rw [forIn_yield_id cl (fun x hx c=>by
  obtain ⟨name,kind⟩:=x
  have:(kind == NameKind.cell)=false:=by simpa using hc _ hx
  simp only [this,Bool.false_eq_true,if_false])]
 refine wpAny_bind (wpAny_pure (wpAny_bind ?_))
 rw [List.forIn_nil]
 exact wpAny_pure (wpAny_pure h)
theorem iI {M:Model} (Q E:Value→Shared→Prop) (s:Shared) (h:Q (.ref s.heap.objs.size) { s with heap:=s.heap.push { cls:=.type "list",data:=.seq #[] } }):wpAny M A (newList []) Q E s:=
 wpAny_newObj_type (hd:=by size_fits) h
theorem mJ {M:Model} (Q E:Value→Shared→Prop) (s:Shared) (h:Q (.ref s.heap.objs.size) { s with heap:=s.heap.push { cls:=.type "dict",data:=.dict #[] } }):wpAny M A newDict Q E s:=
 wpAny_newObj_type (hd:=by size_fits) h
noncomputable def fQ (elt:Expr) (gens:List Comprehension) (scope:Scope) (pos:Pos) (env:Env) (use:Option (Value→Sem Unit)):Sem Value:=comprehension (.ListComp elt gens scope pos) scope env (firstIterPos gens pos) (newList []) (firstAsync gens) (firstIter gens env) use
noncomputable def sj (k v:Expr) (gens:List Comprehension) (scope:Scope) (pos:Pos) (env:Env) (use:Option (Value→Sem Unit)):Sem Value:=comprehension (.DictComp k v gens scope pos) scope env (firstIterPos gens pos) newDict (firstAsync gens) (firstIter gens env) use
end
end Mine
namespace Mine
open PySem PySem.Calls PyProof.Rows PySem.SeqAt PySem.W
noncomputable def Lv.inn:Lv→Lv→Lv
 | _,.im=>.im
 | .any,_=>.im
 | _,_=>.vw
noncomputable def Lv.sl:Lv→D→Sl
 | .im,d=>.im d
 | _,d=>.vw d
noncomputable def Cx.inn (c:Cx) (lv:Lv) (F:Fp) (s:Shared) (scope:Scope) (cl:List (Str × Addr)) (C dd:Addr) (sl:List (Str × Nat)) (m:Nat):Cx:=
 { c with env:=compEnvC scope cl C c.env,sl:=sl,names:=scope.names,S0:=fun a=>c.S F lv a∧ak c.W s.heap a,h0:=s.heap,pin:=none,fr:=false,acc:=some (m,dd) }
noncomputable def Sl.view (lv:Lv):Sl→Sl
 | .own o=>(lv.inn .any).sl o.toD
 | .vw d=>(lv.inn .vw).sl d
 | z=>z
noncomputable def er (lv:Lv) (ρ:List Sl) (n:Nat):List Sl:=ρ.map (Sl.view lv)++List.replicate (n+1) .undef
noncomputable def cA (c:Cx) (scope:Scope) (sl:List (Str × Nat)) (m:Nat):Bool:=
 decide (scope.kind=.function) && scope.names.all (fun y=>match y.2 with
  | .cell=>false
  | .local=>decide (scope.names.lookup y.1=some .local)
  | .free=>decide (c.names.lookup y.1=some .cell) || decide (c.names.lookup y.1=some .free)
  | _=>true) && sl.all (fun y=>decide (scope.names.lookup y.1=some .free) && decide (c.sl.lookup y.1=some y.2) && decide (y.2 < m) || decide (m < y.2)) && sl.all fun y=>sl.all fun z=>y.2 != z.2 || decide (y.1=z.1)
structure iF (c:Cx) (scope:Scope) (sl:List (Str × Nat)) (m:Nat):Prop where
 kind:scope.kind=.function
 noCell:∀ y∈scope.names,y.2≠.cell
 locs:∀ y∈scope.names,y.2=.local→scope.names.lookup y.1=some .local
 free:∀ y∈scope.names,y.2=.free→c.names.lookup y.1=some .cell∨c.names.lookup y.1=some .free
 slots:∀ z i,sl.lookup z=some i→(scope.names.lookup z=some .free∧c.sl.lookup z=some i∧i < m)∨m < i
 inj:∀ x y i,sl.lookup x=some i→sl.lookup y=some i→x=y
section
variable {c:Cx} {ρ ρ':List Sl} {k k':Nat} {F F' F0:Fp} {s s' s0 s1 s2:Shared} {i j:Nat} {l lw:Lv} {scope:Scope} {sl:List (Str × Nat)} {m n:Nat} {cl:List (Str × Addr)} {C dd:Addr}
theorem jS (h:cA c scope sl m=true):iF c scope sl m:=by
 unfold cA at h
 have a:=Bool.and_eq_true_iff.mp h
 have b:=Bool.and_eq_true_iff.mp a.1
 have d:=Bool.and_eq_true_iff.mp b.1
 have h2:=List.all_eq_true.mp d.2
 have h3:=List.all_eq_true.mp b.2
 have h4:=List.all_eq_true.mp a.2
 refine ⟨of_decide_eq_true d.1,fun y hy e=>?_,fun y hy e=>?_,fun y hy e=>?_,fun z i hz=>?_,fun x y i hx hy=>?_⟩
 ·have:=h2 y hy;rw [e] at this;injection this
 ·have:=h2 y hy;rw [e] at this;exact of_decide_eq_true this
 ·have:=h2 y hy;rw [e] at this;simpa using this
 ·have:=h3 (z,i) (mem_of_lookup hz)
  simp only [Bool.or_eq_true,Bool.and_eq_true,decide_eq_true_eq,and_assoc] at this
  exact this
 ·have:=List.all_eq_true.mp (h4 (x,i) (mem_of_lookup hx)) (y,i) (mem_of_lookup hy)
  simpa using this
theorem iF.close (K:iF c scope sl m) (ok:aJ c):∃ cl,closureFor scope c.env=pure cl∧(∀ x a,cl.lookup x=some a→c.env.cells.lookup x=some a)∧∀ y∈scope.names,y.2=.free→∃ a,cl.lookup y.1=some a:=by
 obtain ⟨cl,e1,e2,_,e4⟩:=qg (env:=c.env) (l:=scope.names) (fun y hy hf=>(ok.env.cells y.1 (K.free y hy hf)).1) [] (by simp)
 exact ⟨cl,by rw [rU];exact e1,e2,e4⟩
theorem iF.ok (K:iF c scope sl m) (ok:aJ c) (x:SR c ρ k F s) (h2:∀ x a,cl.lookup x=some a→c.env.cells.lookup x=some a) (h4:∀ y∈scope.names,y.2=.free→∃ a,cl.lookup y.1=some a):aJ (c.inn lw F s scope cl C dd sl m) where
 wok:=ok.wok
 room:=ok.room
 env:=by
  refine ⟨K.kind,ok.env.globals,ok.env.builtins,fun x h=>(cf h).elim id fun q=>(nomatch q.1),fun x h=>(cf h).elim id fun q=>(nomatch q.1),fun x y c a b=>ok.env.apart x y c (h2 x c a) (h2 y c b),fun x h=>?_⟩
  rcases h with h | h
  ·exact absurd rfl (K.noCell _ (mem_of_lookup h))
  ·exact ⟨h4 _ (mem_of_lookup h) rfl,(cf h).elim .inr fun zz0=>by obtain ⟨_,b⟩:=zz0;exact .inl b⟩
 frm:=(fun h=>ff h)
 inj:=K.inj
 s0:=fun a h=>h.2
 bh:=fun b o e=>⟨o,x.w0.base b o e⟩
 pn:=ok.pn
theorem iF.holds (K:iF c scope sl m) (ok:aJ c) (h2:∀ x a,cl.lookup x=some a→c.env.cells.lookup x=some a) (h4:∀ y∈scope.names,y.2=.free→∃ a,cl.lookup y.1=some a) {h:Heap} {z:Str} {v:Value} (hz:scope.names.lookup z=some .free) (hh:bj h c.env z v):bj h (compEnvC scope cl C c.env) z v:=by
 obtain ⟨_,hk⟩:=ok.env.cells z (K.free _ (mem_of_lookup hz) rfl)
 obtain ⟨c',hc'⟩:=h4 _ (mem_of_lookup hz) rfl
 have e:=h2 _ _ hc'
 rcases hh with ⟨a,_⟩ | ⟨_,ce,b,d⟩
 ·rw [a] at hk;simp at hk
 ·refine .inr ⟨(cf hz).elim .inr fun zz1=>by obtain ⟨_,b⟩:=zz1;exact .inl b,c',hc',?_⟩
  obtain rfl:=geq b e;exact d
theorem rM (h:i < ρ.length):(er lw ρ n)[i]?.getD .undef=(ρ[i]?.getD .undef).view lw:=by
 rw [er,List.getElem?_append_left (by simpa using h),List.getElem?_map,List.getElem?_eq_getElem h];rfl
theorem qM (h:ρ.length≤i):(er lw ρ n)[i]?.getD .undef=.undef:=by
 rw [er,List.getElem?_append_right (by simpa using h),List.getElem?_replicate]
 split <;> rfl
theorem dB:ρ.length < (er lw ρ n).length:=by simp [er]
theorem xe {a:Addr} {G:Fp} (x:SR c ρ k F s) (hn:∀ b j,b∈G j→s.heap.get? b=none) (hC:s.heap.get? C=none) (h:c.S F l a) (lv:ak c.W s.heap a):(c.inn lw F s scope cl C dd sl m).S G (lw.inn l) a:=by
 have hs:∀ b,s.heap.get? b=none→a≠b:=fun b hb q=>by obtain ⟨o,e,_⟩:=lv;rw [q] at e;exact gno hb e
 have ng:∀ j,a∉G j:=fun j hj=>hs a (hn a j hj) rfl
 cases l with
 | im=>exact ⟨⟨.inl ⟨h.im,lv⟩,ng⟩,h.2.1,hs C hC⟩
 | _=>cases lw with
  | any=>exact ⟨⟨.inl ⟨h.any,lv⟩,ng⟩,h.2.1,hs C hC⟩
  | _=>exact ⟨ng,h.2.1,hs C hC⟩
theorem w3 {a:Addr} {G:Fp} (x:SR c ρ k F s) (h:(c.inn lw F s scope cl C dd sl m).S G .im a):c.S F lw a:=by
 rcases h.1.1 with q | q
 ·exact q.1
 ·exact x.xm q
theorem qh (K:iF c scope sl ρ.length) (ok:aJ c) (h2:∀ x a,cl.lookup x=some a→c.env.cells.lookup x=some a) (h4:∀ y∈scope.names,y.2=.free→∃ a,cl.lookup y.1=some a) (x0:SR c ρ k F s) (x2:SR c ρ k' F s2) (st:av c.pen s.heap s2.heap) (g:bP s2 s') (hd:s2.heap.get? dd=none) (hC:s2.heap.get? C=none) (hne:dd≠C)
  {kd:Kd} (ha:KR c.W s'.heap kd dd [] [dd]) (hl:s'.heap.get? C=some { cls:=.type "dict",data:=.dict #[] }):SR (c.inn lw F s scope cl C dd sl ρ.length) ((er lw ρ n).set ρ.length (.own (.node kd []))) k' (fun i=>if i=ρ.length then [dd] else []) s':=by
 have x3:=x2.grow g
 have st3:av c.pen s.heap s'.heap:=st.trans (.xp fun u0 u0 e=>g.keep e)
 have fd:=st.fresh x2.pen hd
 have fC:=st.fresh x2.pen hC
 have G0:∀ b j,b∈(if j=ρ.length then [dd] else [])→b=dd:=fun b j h=>by
  split at h
  ·exact List.mem_singleton.mp h
  ·cases h
 have pr:∀ l,be (fun a=>c.S F l a∧ak c.W s.heap a) s.heap s'.heap:=fun l=>st3.xl x0.pen fun u0 h=>h.xu
 have hS:∀ l a,c.S F l a→ak c.W s.heap a→(c.inn lw F s scope cl C dd sl ρ.length).S (fun i=>if i=ρ.length then [dd] else []) (lw.inn l) a:=fun l a h lv=>xe x0 (fun b j hb=>G0 b j hb▸fd) fC h lv
 have vo:VO c.W s'.heap ((c.inn lw F s scope cl C dd sl ρ.length).S (fun i=>if i=ρ.length then [dd] else []) .im) (.node kd []) (.ref dd) [dd]:=⟨dd,[],[dd],[],rfl,ha,⟨rfl,rfl⟩,rfl⟩
 refine ⟨x3.w0,st3,x3.pen,fun y i hy=>?_,fun i=>?_,fun i j a hij h h'=>?_,fun i a h=>?_,⟨⟨_,_,#[],0,hl,rfl,fun e he=>by simp at he,fun u0=>rfl⟩,⟨_,hl,.inr ⟨rfl,rfl⟩⟩,fun y a h=>?_,fC,(fun h=>ff h)⟩,fun i a h=>?_⟩
 ·rw [cU]
  split
  ·rename_i q
   rcases K.slots y i hy with h | h
   ·exact absurd q.1 (Nat.ne_of_lt h.2.2)
   ·exact absurd q.1 (Nat.ne_of_gt h)
  ·rcases K.slots y i hy with ⟨h,h',hi⟩ | h
   ·rw [rM hi]
    have r:=x0.vals y i h'
    have hh:∀ v,bj s.heap c.env y v→bj s'.heap (compEnvC scope cl C c.env) y v:=fun v q=>K.holds ok h2 h4 h (q.keep st3 x0.pen)
    generalize ρ[i]?.getD .undef=z at r
    cases z with
    | undef=>trivial
    | im d=>exact r.imp fun v q=>⟨hh v q.1,q.2.xl (pr .im) (hS .im)⟩
    | vw d=>cases lw <;> exact r.imp fun v q=>⟨hh v q.1,q.2.xl (pr .vw) (hS .vw)⟩
    | own o=>cases lw <;> exact r.imp fun v q=>⟨hh v q.1,(q.2.1.view (P':=c.S F .any) (fun u0=>Cx.S.any) fun a ha=>⟨trivial,(x0.own i a ha).2.2⟩).xl (pr .any) (hS .any)⟩
    | pen=>exact r.imp fun v q=>⟨q.1,hh _ q.2⟩
   ·rw [qM (Nat.le_of_lt h)];trivial
 ·split <;> simp
 ·split at h
  ·rw [if_neg fun q=>hij (by rename_i e;rw [e,q])] at h';cases h'
  ·cases h
 ·obtain rfl:=G0 a i h
  exact ⟨fd,ha.live a (List.mem_singleton.mpr rfl),(x2.xm (l:=.im) hd).xu,hne⟩
 ·exact x3.env.cell y a (h2 y a h)
 ·cases h
  exact ⟨_,List.getElem?_set_self dB,by rw [if_pos rfl];exact vo⟩
end
end Mine
namespace Mine
open PySem PySem.Calls PyProof.Rows PySem.SeqAt PySem.W
inductive TgC (c:Cx) (l:Lv):Expr→D→List Sl→List Sl→Prop
 | one {x p i d z ρ}:bL c x i=true→ρ[i]?.getD .undef=.undef→jC d l z→TgC c l (.Name x p) d ρ (ρ.set i z)
 | two {x px y py i j a b z z' kk p ρ}:c.W.qt=true→bL c x i=true→bL c y j=true→ρ[i]?.getD .undef=.undef→ρ[j]?.getD .undef=.undef→jC a l z→jC b l z'→TgC c l (.Tuple [.Name x px,.Name y py] kk p) (.tup [a,b]) ρ ((ρ.set i z).set j z')
inductive ResK (c:Cx) (F:Fp) (K:List Sl→Nat→Prop) (s s':Shared):Prop
 | mk (ρ':List Sl) (k':Nat) (F':Fp) (q:K ρ' k') (x:SR c ρ' k' F' s') (st:Stp c F s F' s')
noncomputable def Bd (c:Cx) (ρ:List Sl) (k:Nat) (body:Sem Unit) (K:List Sl→Nat→Prop):Prop:=aJ c→∀ F s,SR c ρ k F s→wpAny c.M c.A body (fun u0 s'=>ResK c F K s s') NoE s
section
variable {c:Cx} {ρ ρ' B:List Sl} {k k':Nat} {F F' F0:Fp} {s s' s0 s1 s2:Shared} {i j:Nat} {l:Lv} {m n:Nat} {dd:Addr} {a a':O} {t e:Expr} {d:D} {ifs:List Expr}
inductive TgE (c:Cx) (l:Lv) (t:Expr) (d:D) (B:List Sl) (K:List Sl→Prop):Prop
 | mk (ρ':List Sl) (tg:TgC c l t d B ρ') (k:K ρ')
theorem TgC.tg (h:TgC c l t d ρ ρ'):Tg c l t d ρ ρ':=by
 cases h with
 | one a _ b=>exact .one a b
 | two a b c _ _ d e=>exact .two a b c d e
theorem jn (h:(B.set m (.own a))[i]?.getD .undef=.undef) (hm:m < B.length):i≠m:=fun q=>by
 subst q;rw [List.getElem?_set_self hm] at h;cases h
theorem ft {ρ:List Sl} (h:ρ[i]?.getD .undef=.undef):ρ.set i .undef=ρ:=by
 refine List.ext_getElem? fun j=>?_
 rw [List.getElem?_set]
 split
 ·rename_i q
  subst q
  split
  ·rename_i hl;rw [List.getElem?_eq_getElem hl] at h ⊢;exact congrArg some h.symm
  ·rename_i hl;rw [List.getElem?_eq_none (Nat.le_of_not_lt hl)]
 ·rfl
theorem de (h:(B.set m (.own a))[i]?.getD .undef=.undef) (hi:i≠m):(B.set m (.own a'))[i]?.getD .undef=.undef:=by
 rw [List.getElem?_set_ne (Ne.symm hi)] at h ⊢;exact h
theorem TgC.reset (h:TgC c l t d (B.set m (.own a)) ρ') (hacc:c.acc=some (m,dd)) (hm:m < B.length):ρ'[m]? = some (.own a)∧∀ a' k F s,SR c (ρ'.set m (.own a')) k F s→SR c (B.set m (.own a')) k F s:=by
 have ha:∀ i,i≠m→∀ b,c.acc≠some (i,b):=fun i hi b q=>by have z:=Eq.trans (Eq.symm hacc) q;have z0:=Option.some.inj z;have z1a:=congrArg Prod.fst z0;try subst z1a;have z1b:=congrArg Prod.snd z0;try subst z1b;exact hi rfl
 cases h with
 | @one x p i _ z _ _ hu=>
  have hi:=jn hu hm
  refine ⟨by rw [List.getElem?_set_ne hi];exact List.getElem?_set_self hm,fun a' k F s x=>?_⟩
  have:=x.undef (i:=i) (ha i hi)
  rwa [List.set_comm _ _ hi,List.set_set,List.set_set,ft (de hu hi)] at this
 | @two x px y py i j _ _ z z' _ _ _ _ _ _ hu hv=>
  have hi:=jn hu hm
  have hj:=jn hv hm
  refine ⟨by rw [List.getElem?_set_ne hj,List.getElem?_set_ne hi];exact List.getElem?_set_self hm,fun a' k F s x=>?_⟩
  have:=(x.undef (i:=j) (ha j hj)).undef (i:=i) (ha i hi)
  rw [List.set_comm _ _ hj,List.set_set,List.set_comm _ _ hi,List.set_set] at this
  have e:((((B.set m (.own a')).set i z).set j .undef).set i .undef)=B.set m (.own a'):=by
   by_cases hij:i=j
   ·subst hij;rw [List.set_set,List.set_set,ft (de hu hi)]
   ·rw [List.set_comm _ _ (Ne.symm hij),List.set_set,ft (de hu hi),ft (de hv hj)]
  rwa [e] at this
theorem qb {Q:Bool→Nat→Prop}:∀ {ifs k s},cW c ρ k ifs Q→aJ c→SR c ρ k F s→wpAny c.M c.A (forIn ifs true (nY c.env)) (n7 c ρ F Q s) NoE s:=by
 intro ifs
 induction ifs with
 | nil=>
  exact @fun k u0 h u0 x=>by rw [List.forIn_nil];exact wpAny_pure ⟨k,h,x,.refl⟩
 | cons _ _ ihq=>
  intro _ s h ok x
  rw [List.forIn_cons]
  refine wpAny_bind (wpAny_bind (noE (h ok F s x) fun b u0 r=>wpAny_pure ?_))
  obtain ⟨k',q,x1,st⟩:=r
  cases b with
  | true=>exact noE (ihq (q.1 rfl) ok x1) fun u0 u0 r=>r.after st
  | false=>exact pZ _ ⟨k',q.2 rfl,x1,st⟩
theorem jA (ok:aJ c) (hacc:c.acc=some (m,dd)) (hm:m < B.length) {I:Addr} {wr:List Addr} {fp:Addr→Prop} {St:Nat→Option Value→Heap→Prop} {src ds:List D} {vs:List Value} {tt:Bool} {body:Sem Unit} {code:Code} {pos:Pos} {R:Result→Shared→Prop}
  (htt:tt=true→cV t=true) (hw:ck c.W c.A tt I wr fp ds.length St) (hd:∀ {i v h P d},St i (some v) h→ds[i]? = some d→VRs c.W h P src vs→VR c.W h P d v) (hl:l≠.any)
  (hq:code.quiet=true) (hun:c.A.under code=c.A) (hden:c.M.den code=(cm pos t (.ref I) ifs c.env body code).onRaise (fun x=>do noteFrame x c.env;theTreesLotGoes x)) (J:Nat→O→Nat→Prop)
  (hJ:∀ i d a k,ds[i]? = some d→J i a k→TgE c l t d (B.set m (.own a)) fun ρ'=>cW c ρ' k ifs fun b k'=>gW b (Bd c ρ' k' body fun ρ'' k''=>∃ a',ρ''=ρ'.set m (.own a')∧J (i+1) a' k'') (J (i+1) a k')) (hf:∀ a,s0.heap.get? a=none→c.Nu a)
  (hR:∀ a k F t,J ds.length a k→SR c (B.set m (.own a)) k F t→Stp c F0 s0 F t→R (.ok .next) t):∀ r i a k F s,ds.length - i=r→i≤ds.length→J i a k→ItS c l wr fp St src vs F0 s0 i none (B.set m (.own a)) k F s→codeAny c.M c.A code R s:=by
 intro r
 induction r with
 | zero=>
  intro i a k F s hi hle hj y
  obtain rfl:i=ds.length:=by omega
  refine codeAny_of_tree ?_
  rw [hden,hun]
  refine wpAny_noted ?_
  unfold cm
  exact wpAny_bind (wpAny_standAt (wpAny_bind (hw.done y.x.w0.hand y.it fun s1 U=>wpAny_pure (hR a k F s1 hj (y.x.iter ok (fun b hb=>hf b (y.wn b hb)) y.io U) (y.st.iter y.wn U)))))
 | succ r ih=>
  intro i a k F s hi hle hj y
  have hlt:i < ds.length:=by omega
  have hx:=List.getElem?_eq_getElem hlt
  obtain ⟨ρ',tg,ts⟩:=hJ i _ a k hx hj
  obtain ⟨hm',rs⟩:=tg.reset hacc hm
  refine codeAny_of_tree ?_
  rw [hden,hun]
  refine wpAny_noted ?_
  unfold cm
  refine wpAny_bind (wpAny_standAt (wpAny_bind (hw.item y.x.w0.hand hlt y.it fun v s3 U hst=>wpAny_bind (hw.go htt hst fun s4 U4 hst4=>?_))))
  have y3:=y.move hw ok hf U hst
  have y4:=y3.move hw ok hf U4 hst4
  refine wpAny_bind (tg.tg.run ok y4.x (y3.item U4 (hd hst hx y3.r)) fun s5 x5 st5=>?_)
  have y5:=y4.step hw hl x5 st5
  refine wpAny_bind (noE (qb ts ok x5) fun b s6 r=>?_)
  obtain ⟨k6,q,x6,st6⟩:=r
  have y6:=y5.step hw hl x6 (.of_keep st6 x6.pen)
  cases b with
  | false=>
   refine wpAny_bind (wpAny_pure ?_)
   exact wpAny_pure ⟨hq,ih (i+1) a k6 F s6 (by omega) hlt (q.2 rfl) (y6.step hw hl (rs a k6 F s6 (by rw [jm hm'];exact x6)) .refl)⟩
  | true=>
   refine wpAny_bind (noE (q.1 rfl ok F s6 x6) fun u0 s7 r=>?_)
   obtain ⟨_,k7,F7,⟨a',rfl,hj'⟩,x7,st7⟩:=r
   exact wpAny_pure ⟨hq,ih (i+1) a' k7 F7 s7 (by omega) hlt hj' (y6.step hw hl (rs a' k7 F7 s7 x7) st7)⟩
theorem SR.xW (ok:aJ c) (hacc:c.acc=some (m,dd)) (hnm:∀ y,c.sl.lookup y≠some m) (hpin:c.pin=none) (x:SR c ρ k F s) {T:Nat} (hT:T≠m) (hu:ρ[T]?.getD .undef=.undef) {kd:Kd} {xs:List O} (hm:ρ[m]? = some (.own (.node kd xs))) {N:List Addr} (nd:N.Nodup) (hN:∀ b∈N,b∈F T) {G:Prop}
  (q:∀ vs as Fx,KR c.W s.heap kd dd vs as→VOs c.W s.heap (c.S F .im) xs vs Fx→(∀ {kd' xs' vs' h' t a' Fy},a'∈as→Heap.SameBut a' s.heap h'→KR c.W h' kd' dd vs' as→VOs c.W s.heap (c.S F .im) xs' vs' Fy→Fy.Perm (Fx++N)→
   ∃ F',SR c (ρ.set m (.own (.node kd' xs'))) k F' { s with heap:=h',toks:=t }∧Stp c F s F' { s with heap:=h',toks:=t })→G):G:=by
 obtain ⟨o,e,vo⟩:=x.acc m dd hacc
 have z:=Eq.trans (Eq.symm hm) e;have z0:=Option.some.inj z;injection z0 with z1a;try subst z1a
 have hl:=(List.getElem?_eq_some_iff.mp hm).1
 have at':AtO { c with acc:=none } s.heap F m (.ref dd) (.node kd xs) id (.ref dd):=⟨[],F m,[],fun y hy=>absurd hy (hnm y),fun z hz=>(by rw [show c.pin=some z from hz] at hpin;exact no2 hpin),(List.append_nil _).symm,vo,fun ry u0 u0 u0=>by simpa using ry⟩
 refine at'.mut (c:={ c with acc:=none }) ⟨ok.wok,ok.room,ok.env,ok.frm,ok.inj,ok.s0,ok.bh,ok.pn⟩ ⟨x.w0,x.keep,x.pen,x.vals,x.nd,x.dj,x.own,⟨x.env.ns,x.env.lo,x.env.cell,x.env.locN,x.env.cellN⟩,(fun u0 u0 h=>no1 h)⟩ hT hu (fun u0=>(fun h=>no1 h)) hl nd hN fun vs as Fx kr rs fin=>q vs as Fx kr rs fun h1 h2 h3 h4 h5=>?_
 obtain ⟨F',x',st',vo'⟩:=fin h1 h2 h3 h4 h5
 exact ⟨F',⟨x'.w0,x'.keep,x'.pen,x'.vals,x'.nd,x'.dj,x'.own,⟨x'.env.ns,x'.env.lo,x'.env.cell,x'.env.locN,x'.env.cellN⟩,fun i b h=>by have z:=Eq.trans (Eq.symm hacc) h;have z0:=Option.some.inj z;have z1a:=congrArg Prod.fst z0;try subst z1a;have z1b:=congrArg Prod.snd z0;try subst z1b;exact ⟨_,List.getElem?_set_self hl,vo'⟩⟩,st'.keep,st'.sub,st'.live⟩
theorem tw (hacc:c.acc=some (m,dd)) (hnm:∀ y,c.sl.lookup y≠some m) (hpin:c.pin=none) {xs:List O} {K:List Sl→Nat→Prop} (hm:ρ[m]? = some (.own (.node .lst xs))) (hz:xs.length < 2 ^ 24) (h:EvO c ρ k e fun z k'=>K (ρ.set m (.own (.node .lst (xs++[z])))) k') :
  Bd c ρ k (do let _ ← PySem.call (.builtin "list.append") [.ref dd,← eval e c.env]) K:=fun ok F s x=>by
 have hl:=(List.getElem?_eq_some_iff.mp hm).1
 refine wpAny_bind (noE (h ok F s x) fun v s1 r=>?_)
 obtain ⟨z,k1,N,q,x1,st1,rz,_,_⟩:=r.yn x (T:=ρ.length) dg
 have nd:=x1.nd ρ.length
 rw [aq] at nd
 refine x1.xW ok hacc hnm hpin (T:=ρ.length) (by omega) dg hm nd (fun b hb=>by rw [aq];exact hb) fun vs as Fx kr rs fin=>?_
 obtain ⟨rfl,n,eo⟩:=kr
 have hlen:=rs.length
 refine wpAny_bind (append_at eo (fun h3 hsb e3=>?_) (by simp [sizeLine];omega))
 obtain ⟨F',x',st'⟩:=fin (kd':=.lst) (t:=s1.toks) (vs':=vs++[v]) (List.mem_singleton.mpr rfl) hsb ⟨rfl,n+1,by rw [e3];simp⟩ (rs.snoc rz) (.refl _)
 exact wpAny_pure ⟨_,k1,F',q,x',st1.trans st'⟩
theorem uf (hacc:c.acc=some (m,dd)) (hnm:∀ y,c.sl.lookup y≠some m) (hpin:c.pin=none) {kx vx:Expr} {cpos:Pos} {ks:List Key} {xs:List O} {K:List Sl→Nat→Prop} (hm:ρ[m]? = some (.own (.node (.dct ks) xs)))
  (h:Ev c ρ k .any kx fun y k1=>Ev c ρ k1 .im vx fun z k2=>∃ kk:Key,y=kk.toD∧bk ks kk=true∧ks.length≤2 ^ 24∧(∀ j,aD ks kk=some j→∃ d0,xs[j]? = some (.leaf d0))∧K (ρ.set m (.own (.node (.dct (fK ks kk)) (fR ks xs kk (.leaf z))))) k2) :
  Bd c ρ k (do
    let kv ← eval kx c.env
    let vv ← holding [kv] (eval vx c.env)
    standAt cpos
    holding [kv,vv] (dictSet dd kv vv)) K:=fun ok F s x=>by
 have hl:=(List.getElem?_eq_some_iff.mp hm).1
 refine wpAny_bind (noE (ev2 h ok x) fun v1 s1 h1=>wpAny_bind (wpAny_holding (noE h1 fun v2 s2 r=>wpAny_bind (wpAny_standAt (wpAny_holding ?_)))))
 obtain ⟨_,z,k2,⟨kk,rfl,hk,hz,hj,q⟩,r1,r2,x2,st⟩:=r
 refine x2.xW ok hacc hnm hpin (T:=ρ.length) (N:=[]) (by omega) dg hm .nil (fun b hb=>aE hb) fun vs as Fx kr rs fin=>?_
 obtain ⟨rfl,hsm,es,c',eo,kr,hn⟩:=kr
 have rz:VO c.W s2.heap (c.S F .im) (.leaf z) v2 []:=⟨r2,rfl⟩
 refine fj ok.room.u0 eo kr hn r1.key hk (by simp [sizeLine];omega) fun h' tk es' m' a1 a2 a3=>?_
 have:∃ Fy,VOs c.W s2.heap (c.S F .im) (fR ks xs kk (.leaf z)) (mo ks vs kk v2) Fy∧Fy.Perm (Fx++[]):=by
  unfold fR mo
  cases hf:aD ks kk with
  | none=>exact ⟨_,rs.snoc rz,.refl _⟩
  | some j=>obtain ⟨d0,hj⟩:=hj j hf;exact rs.yo hj rz
 obtain ⟨Fy,ri,hp⟩:=this
 obtain ⟨F',x',st'⟩:=fin (kd':=.dct (fK ks kk)) (List.mem_singleton.mpr rfl) a3 ⟨rfl,hsm,es',m',a1,a2,i7 hn⟩ ri hp
 exact ⟨_,k2,F',q,x',(Stp.of_keep st x2.pen).trans st'⟩
end
end Mine
namespace Mine
open PySem PySem.Calls PyProof.Rows PySem.SeqAt PySem.W
inductive CV (c:Cx) (lv:Lv) (ρ:List Sl) (F:Fp) (Q:O→Nat→Prop) (s:Shared) (dd C:Addr) (t:Shared):Prop
 | mk (a:O) (k:Nat) (N:List Addr) (q:Q a k) (r:VO c.W t.heap (fun b=>(c.S F lv b∧b∉N)∧b≠C) a (.ref dd) N) (nd:N.Nodup) (hN:∀ b∈N,(s.heap.get? b=none∧ak c.W t.heap b∧b≠c.env.locals)∧b≠C) (x:SR c ρ k F t) (st:av c.pen s.heap t.heap) (nC:s.heap.get? C=none) (lC:ak c.W t.heap C) (ns:∃ m,t.heap.Ns C m)
noncomputable def EvC (c:Cx) (lv:Lv) (ρ:List Sl) (k:Nat) (e:Expr) (fe:Env→Option (Value→Sem Unit)→Sem Value) (Q:O→Nat→Prop):Prop:=aJ c→∀ F s,SR c ρ k F s→∀ (use:Option (Value→Sem Unit)) (Qf Ex:Value→Shared→Prop),(∀ dd C t,CV c lv ρ F Q s dd C t→compPost c.M c.A Ex use Qf (.ref dd) C (.ok .next) t)→wpAny c.M c.A (fe c.env use) Qf Ex s
section
variable {c:Cx} {ρ ρ' B:List Sl} {k k':Nat} {F F' F0:Fp} {s s' s0 s1 s2 t:Shared} {i j:Nat} {l lw:Lv} {m n:Nat} {C dd:Addr} {a a':O} {tg e iter elt:Expr} {d:D} {ifs:List Expr} {tt:Bool} {scope:Scope} {sl:List (Str × Nat)} {Q:O→Nat→Prop} {P:Post}
theorem CV.of {cl:List (Str × Addr)} {F1:Fp} (x0:SR c ρ k F s) (hm:m < B.length) (y:SR (c.inn lw F s scope cl C dd sl m) (B.set m (.own a)) k' F1 t) (q:Q a k'):CV c lw ρ F Q s dd C t:=by
 obtain ⟨o,e,r⟩:=y.acc m dd rfl
 have z:=Eq.trans (Eq.symm (List.getElem?_set_self hm)) e;have z0:=Option.some.inj z;injection z0 with z1a;try subst z1a
 have hl:∀ b,s.heap.get? b=none→b≠c.env.locals:=fun b hb q=>by obtain ⟨o,e,_⟩:=x0.env.lo;rw [← q] at e;exact gno hb e
 refine ⟨a,k',F1 m,q,r.xl (fun u0 u0 e u0=>e) (fun b h u0=>⟨⟨w3 x0 h,h.1.2 m⟩,h.2.2⟩) fun u0 u0 u0 e=>e,y.nd m,fun b hb=>?_,x0.step y.keep y.w0 y.pen,y.keep,y.env.locN,?_,y.env.ns⟩
 ·obtain ⟨h1,h2,_,h4⟩:=y.own m b hb
  exact ⟨⟨h1,h2,hl b h1⟩,h4⟩
 ·obtain ⟨o,eo,h⟩:=y.env.lo
  obtain ⟨_,o',es,n,e',hd,_⟩:=y.env.ns
  obtain rfl:=geq eo e'
  rcases h with h | h
  ·cases h.2
  ·exact ⟨o,eo,.inr (.inl h.1),fun v q=>(by have z:=Eq.trans (Eq.symm hd) q;injection z),fun v q=>(by have z:=Eq.trans (Eq.symm hd) q;injection z)⟩
theorem CV.res (ok:aJ c) (x0:SR c ρ k F s) (v:CV c lw ρ F Q s dd C t) {h':Heap} (hs:Heap.SameBut C t.heap h'):wG lw c ρ F Q s (.ref dd) { t with heap:=h' }:=by
 obtain ⟨a,k',N,q,r,nd,hN,x,st,nC,lC,_⟩:=v
 obtain ⟨o,eo,f1,f2,f3⟩:=lC.nf
 have nf:∀ v,o.data≠.fields v:=by obtain ⟨o',e',_,_,r⟩:=lC;obtain rfl:=geq eo e';exact r
 have same:∀ b,b≠C→∀ o,t.heap.get? b=some o→h'.get? b=some o:=fun b hb o e=>(hs.2 b hb).trans e
 have hp:c.pen≠some C:=fun q=>by obtain ⟨_,_,_,_,_,e,_⟩:=x0.pen C q;exact gno nC e
 obtain ⟨w,kp,pn⟩:=x.yb ok t.toks hs eo (fun q=>absurd q f1) nf hp (x0.fresh nC)
 have st':av c.pen s.heap h':=fun b o e h=>by
  have hb:b≠C:=fun q=>by rw [q] at e;exact gno nC e
  obtain ⟨a1,_,b1⟩:=st b o e h
  exact ⟨fun hf=>same b hb o (a1 hf),_,same b hb _ b1⟩
 refine ⟨a,k',N,q,r.xl (fun b o e hc=>same b (fun q=>?_) o e) (fun b h u0=>h.1) fun b hb o e=>same b (hN b hb).2 o e,nd,fun b hb=>⟨(hN b hb).1.1,?_,(hN b hb).1.2.2⟩,x0.step st' w pn,st'⟩
 ·subst q
  rcases hc with hc | hc
  ·exact hc.1.2 rfl
  ·obtain rfl:=geq eo e;exact f2 hc
 ·obtain ⟨o,e,r,r1,r2⟩:=(hN b hb).1.2.1
  exact ⟨o,same b (hN b hb).2 o e,r,r1,r2⟩
theorem CV.ns (v:CV c lw ρ F Q s dd C t):∃ m,t.heap.Ns C m:=by obtain ⟨_,_,_,_,_,_,_,_,_,_,_,h⟩:=v;exact h
theorem EvC.evA {elt:Expr} {gens pos} {Q:D→Nat→Prop} (h:EvC c .any ρ k (.ListComp elt gens scope pos) (fQ elt gens scope pos) fun o k'=>Q o.toD k'):Ev c ρ k .any (.ListComp elt gens scope pos) Q:=fun ok F s x=>h ok F s x none _ _ fun u0 u0 u0 v=>⟨_,v.ns.choose_spec,fun u0 hs=>by
 obtain ⟨o,k',N,q,r,nd,hN,x1,st⟩:=v.res ok x hs
 exact ⟨o.toD,k',q,r.view (fun u0 h=>h.1) fun a ha=>have f:=x.xm (l:=.any) (hN a ha).1;⟨trivial,f.2.1,(hN a ha).2.2⟩,x1,st⟩⟩
theorem EvC.eo {elt:Expr} {gens pos} (h:EvC c .im ρ k (.ListComp elt gens scope pos) (fQ elt gens scope pos) Q):EvO c ρ k (.ListComp elt gens scope pos) Q:=fun ok F s x=>h ok F s x none _ _ fun u0 u0 u0 v=>⟨_,v.ns.choose_spec,fun u0 hs=>v.res ok x hs⟩
theorem EvC.eoD {kx vx:Expr} {gens pos} (h:EvC c .im ρ k (.DictComp kx vx gens scope pos) (sj kx vx gens scope pos) Q):EvO c ρ k (.DictComp kx vx gens scope pos) Q:=fun ok F s x=>h ok F s x none _ _ fun u0 u0 u0 v=>⟨_,v.ns.choose_spec,fun u0 hs=>v.res ok x hs⟩
theorem EvO.ev {Q:D→Nat→Prop} (h:EvO c ρ k e fun o k'=>Q o.toD k'):Ev c ρ k l e Q:=ux fun ok F s x=>noE (h ok F s x) fun u0 u0 r=>by
 obtain ⟨o,k',N,q,r,nd,hN,x1,st⟩:=r
 exact ⟨o.toD,k',q,r.view (fun u0 h=>h.1) fun a ha=>have f:=x.xm (l:=.im) (hN a ha).1;⟨f.1,f.2.1,(hN a ha).2.2⟩,x1,st⟩
theorem tP {y:Str} {px pos} {fe:Env→Option (Value→Sem Unit)→Sem Value} (hs:bL c y i=true) (hp:c.pin=none∨i≠0) (hsw:aJ c→swapsWith e (some (.Name y px)) pos.line c.env=pure true) (hev:∀ env u,evalThenUse e env u=(fe env (some u) >>= fun u0=>pure ())) (hi:i < ρ.length)
  (h:EvC c .im ρ k e fe fun o k'=>P .next (ρ.set i (.own o)) k'):TrS c ρ k (.Assign [.Name y px] e pos) P:=fun ok u0 F s x0=>by
 rw [exec_Assign]
 refine wpAny_bind (wpAny_standAt ?_)
 show wpAny _ _ (swapsWith e (some (.Name y px)) pos.line c.env >>= _) _ _ _
 rw [hsw ok]
 refine wpAny_bind (wpAny_pure ?_)
 rw [if_pos rfl,hev]
 refine wpAny_bind (wpAny_bind (h ok F s x0 _ _ _ fun dd C t v=>?_))
 obtain ⟨a,k',N,q,r,nd,hN,x,st,nC,lC,ns⟩:=v
 obtain ⟨h1,h2,h3⟩:=eC hs ok
 have hCl:C≠c.env.locals:=fun q=>by obtain ⟨o,e,_⟩:=x0.env.lo;rw [← q] at e;exact gno nC e
 have hCc:∀ y,c.env.cells.lookup y≠some C:=fun y q=>by obtain ⟨o,_,e,_⟩:=x0.env.cell y C q;exact gno nC e
 have hT:ρ.length≠i:=by lia
 obtain ⟨x1,st1⟩:=(x.undef (i:=i) h3).xG (x0.undef (i:=i) h3) st cE (N:=C::N) (fun b hb=>.inr (by
  rcases List.mem_cons.mp hb with rfl | hb
  ·exact ⟨nC,lC,hCl⟩
  ·exact (hN b hb).1)) (List.nodup_cons.mpr ⟨fun h=>(hN C h).2 rfl,nd⟩)
 have mem:∀ j b,b∈bp (bp F i N) ρ.length [C] j→j=ρ.length∧b=C∨j≠ρ.length∧(j=i∧b∈N∨j≠i∧b∈F j):=fun j b h=>by
  by_cases hj:j=ρ.length
  ·rw [hj,aq] at h;exact .inl ⟨hj,List.mem_singleton.mp h⟩
  ·rw [aK hj] at h
   by_cases hji:j=i
   ·rw [hji,aq] at h;exact .inr ⟨hj,.inl ⟨hji,h⟩⟩
   ·rw [aK hji] at h;exact .inr ⟨hj,.inr ⟨hji,h⟩⟩
 have nF:∀ j,C∉F j:=fun j h=>by obtain ⟨o,e,_⟩:=(x0.own j C h).2.1;exact gno nC e
 have nN:∀ j b,b∈N→b∉F j:=fun j b hb h=>by obtain ⟨o,e,_⟩:=(x0.own j b h).2.1;exact gno ((hN b hb).1.1) e
 have rp:SR c (ρ.set i .undef) k' (bp (bp F i N) ρ.length [C]) t∧Stp c (bp F i (C::N)) t (bp (bp F i N) ρ.length [C]) t:=by
  refine x1.xV (fun j=>?_) (fun j b h=>?_) (fun j=>?_) fun j1 j2 b hj h1 h2=>?_
  ·by_cases hj:j=ρ.length
   ·subst hj;exact .inr (by rw [List.getElem?_set_ne (Ne.symm hT)];exact dg)
   ·by_cases hji:j=i
    ·subst hji;exact .inr cE
    ·exact .inl (by rw [aK hj,aK hji,aK hji])
  ·rcases mem j b h with ⟨_,rfl⟩ | ⟨_,⟨_,h⟩ | ⟨hji,h⟩⟩
   ·exact ⟨i,by rw [aq];exact List.mem_cons_self⟩
   ·exact ⟨i,by rw [aq];exact List.mem_cons_of_mem _ h⟩
   ·exact ⟨j,by rw [aK hji];exact h⟩
  ·by_cases hj:j=ρ.length
   ·rw [hj,aq];simp
   ·rw [aK hj]
    by_cases hji:j=i
    ·rw [hji,aq];exact nd
    ·rw [aK hji];exact x.nd j
  ·rcases mem j1 b h1 with ⟨e1,q1⟩ | ⟨_,⟨e1,q1⟩ | ⟨n1,q1⟩⟩ <;> rcases mem j2 b h2 with ⟨e2,q2⟩ | ⟨_,⟨e2,q2⟩ | ⟨n2,q2⟩⟩
   ·exact hj (e1.trans e2.symm)
   ·exact (hN b q2).2 q1
   ·exact nF j2 (q1▸q2)
   ·exact (hN b q1).2 q2
   ·exact hj (e1.trans e2.symm)
   ·exact nN j2 b q1 q2
   ·exact nF j1 (q2▸q1)
   ·exact nN j1 b q2 q1
   ·exact x.dj j1 j2 b hj q1 q2
 obtain ⟨x2,st2⟩:=rp
 show wpAny _ _ (assign (.Name y px) c.env (.ref dd)) _ _ _
 have hS:∀ b,(c.S F .im b∧b∉N)∧b≠C→c.S (bp (bp F i N) ρ.length [C]) .im b:=fun b h=>⟨⟨h.1.1.1.1,fun j hj=>by
  rcases mem j b hj with ⟨_,q⟩ | ⟨_,⟨_,q⟩ | ⟨_,q⟩⟩
  ·exact h.2 q
  ·exact h.1.2 q
  ·exact h.1.1.1.2 j q⟩,h.1.1.2⟩
 have eN:bp (bp F i N) ρ.length [C] i=N:=by rw [aK (Ne.symm hT),aq]
 refine wpAny_assign_Name (x2.put (z:=.own a) ok cE h1 h2 h3 (fun h' hh pr=>⟨_,hh,?_,fun q hq hi=>hp.elim (fun h=>by exact gno h hq) fun h=>absurd hi h⟩) fun s3 x3 st3 pr3=>?_)
 ·rw [eN]
  exact r.xl (pr.mono fun b q=>⟨q.1.1.1.2.2,q.2⟩) (fun b q u0=>hS b q) fun b hb o e=>pr.at e ⟨(hN b hb).1.2.2,(hN b hb).1.2.1⟩
 ·rw [List.set_set] at x3
  have ns3:∃ m,s3.heap.Ns C m:=by
   obtain ⟨m,o,es,n,e,hd,r⟩:=ns
   exact ⟨m,_,es,n,pr3.at e ⟨hCl,lC⟩,hd,r⟩
  obtain ⟨m,hm⟩:=ns3
  refine ⟨m,hm,fun h' hsb=>wpAny_pure (wpAny_pure ?_)⟩
  obtain ⟨x4,st4⟩:=x3.lose (i:=ρ.length) ok ((st1.trans st2).trans st3) s3.toks hsb (by rw [List.getElem?_set_ne (Ne.symm hT)];exact dg) aq nC
  exact .here x4 st4 q rfl
end
end Mine
namespace Mine
open PySem PySem.Calls PyProof.Rows PySem.SeqAt PySem.W
structure kM (A:Around) (e:Expr) (d:Nat):Prop where
 f1:∀ it acc env,(Code.compLoop e d it acc env).isFrame=false
 f2:∀ it acc env,(Code.compStart e d it acc env).isFrame=false
 u1:∀ it acc env,A.under (.compLoop e d it acc env)=A
 u2:∀ it acc env,A.under (.compStart e d it acc env)=A
 q:∀ it acc env,(Code.compLoop e d it acc env).quiet=true
theorem kM.list {A:Around} {elt gens scope pos d}:kM A (.ListComp elt gens scope pos) d:=⟨fun u0 u0 u0=>rfl,fun u0 u0 u0=>rfl,fun u0 u0 u0=>rfl,fun u0 u0 u0=>rfl,fun u0 u0 u0=>rfl⟩
theorem kM.dict {A:Around} {kx vx gens scope pos d}:kM A (.DictComp kx vx gens scope pos) d:=⟨fun u0 u0 u0=>rfl,fun u0 u0 u0=>rfl,fun u0 u0 u0=>rfl,fun u0 u0 u0=>rfl,fun u0 u0 u0=>rfl⟩
section
variable {c:Cx} {ρ ρ' B:List Sl} {k k':Nat} {F F' F0:Fp} {s s' s0 s1 s2:Shared} {i j:Nat} {l lw:Lv} {m n:Nat} {C dd:Addr} {a a':O} {t e iter elt:Expr} {d:D} {ifs:List Expr} {tt:Bool} {scope:Scope} {sl:List (Str × Nat)} {Q:O→Nat→Prop} {P:Post}
theorem Lv.yp:lw.inn l≠.any:=by cases lw <;> cases l <;> nofun
theorem iq (ok:aJ c) (x0:SR c ρ k F s) (n:Nat) (hc:cA c scope sl ρ.length=true) {gs:List Comprehension} {pos:Pos} {newAcc:Sem Value} {o0:Obj} {kd:Kd} {body:Addr→Env→Sem Unit} {use:Option (Value→Sem Unit)} {Qf Ex:Value→Shared→Prop}
  (hcl:clausesOf e=⟨t,iter,ifs,0⟩::gs) (hE:kM c.A e 0) (hfs:∀ x,foldedSetIterable iter c.env x=pure x) (htt:tt=true→cV t=true)
  (hnew:∀ (Q E:Value→Shared→Prop) (s:Shared),Q (.ref s.heap.objs.size) { s with heap:=s.heap.push o0 }→wpAny c.M c.A newAcc Q E s) (hfr:o0.isFreed=false) (hkr:∀ (h:Heap) a,h.get? a=some o0→(a == sysModules)=false→KR c.W h kd a [] [a])
  (hturn:∀ I dd cenv,compTurn e 0 (.ref I) (.ref dd) cenv=cm iter.pos t (.ref I) ifs cenv (body dd cenv) (.compLoop e 0 (.ref I) (.ref dd) cenv)) (J:List D→Nat→O→Nat→Prop)
  (hi:et c ρ k l tt iter fun ds k'=>J ds 0 (.node kd []) k') (hJ:∀ F s cl C dd ds i d a k,ds[i]? = some d→J ds i a k→TgE (c.inn lw F s scope cl C dd sl ρ.length) (lw.inn l) t d ((er lw ρ n).set ρ.length (.own a)) fun ρ'=>
   cW (c.inn lw F s scope cl C dd sl ρ.length) ρ' k ifs fun b k'=>gW b (Bd (c.inn lw F s scope cl C dd sl ρ.length) ρ' k' (body dd (c.inn lw F s scope cl C dd sl ρ.length).env) fun ρ'' k''=>∃ a',ρ''=ρ'.set ρ.length (.own a')∧J ds (i+1) a' k'') (J ds (i+1) a k'))
  (hQ:∀ ds a k,J ds ds.length a k→Q a k) (hfin:∀ dd C t,CV c lw ρ F Q s dd C t→compPost c.M c.A Ex use Qf (.ref dd) C (.ok .next) t):wpAny c.M c.A (comprehension e scope c.env pos newAcc false (eval iter c.env) use) Qf Ex s:=by
 have K:=jS hc
 obtain ⟨cl,hclos,h2,h4⟩:=K.close ok
 refine wpAny_comprehension_free hcl hfs hclos K.kind K.locs (noE (hi ok F s x0) fun v s1 h=>noE h fun it s2 r=>hnew _ _ _ (mF K.noCell ?_))
 obtain ⟨ds,k2,q,I,wr,fp,St,src,vs,rfl,hw,h0,hr,hd,x2,st,hwr,hfp⟩:=r
 dsimp only
 have hC:(s2.heap.push o0).objs.size=s2.heap.objs.size+1:=Heap.size_push ..
 rw [hC]
 have nd:=fY s2.heap
 have nC:s2.heap.get? (s2.heap.objs.size+1)=none:=Heap.get?_none_of_le (Nat.le_succ _)
 have gD:=Heap.get?_push_of_some (h:=s2.heap.push o0) { cls:=.type "dict",data:=.dict #[] } (Heap.get?_push_size s2.heap hfr)
 have gC:((s2.heap.push o0).push { cls:=.type "dict",data:=.dict #[] }).get? (s2.heap.objs.size+1)=some { cls:=.type "dict",data:=.dict #[] }:=by rw [← hC];exact Heap.get?_push_size _ rfl
 have g:bP s2 { s2 with heap:=(s2.heap.push o0).push { cls:=.type "dict",data:=.dict #[] } }:=⟨_,s2.toks,rfl,fun b o e=>Heap.get?_push_of_some _ (Heap.get?_push_of_some _ e)⟩
 have y:=qh (lw:=lw) (n:=n) (sl:=sl) K ok h2 h4 x0 x2 st g nd nC (Nat.ne_of_lt (Nat.lt_succ_self _)) (kd:=kd) (hkr _ _ gD x2.w0.xT) gC
 have okI:=K.ok (lw:=lw) (C:=s2.heap.objs.size+1) (dd:=s2.heap.objs.size) ok x0 h2 h4
 have st3:av c.pen s.heap ((s2.heap.push o0).push { cls:=.type "dict",data:=.dict #[] }):=st.trans (.xp fun u0 u0 e=>g.keep e)
 generalize s2.heap.objs.size=dd at y okI nd nC gD gC
 have fd:=st.fresh x2.pen nd
 have fC:=st.fresh x2.pen nC
 have G0:∀ b j,b∈(if j=ρ.length then [dd] else [])→b=dd:=fun b j h=>by
  split at h
  ·exact List.mem_singleton.mp h
  ·cases h
 have hS:∀ a,c.S F l a→ak c.W s2.heap a→(c.inn lw F s scope cl (dd+1) dd sl ρ.length).S (fun i=>if i=ρ.length then [dd] else []) (lw.inn l) a:=fun a h lv=>by
  have hs:∀ b,s2.heap.get? b=none→a≠b:=fun b hb q=>by obtain ⟨o,e,_⟩:=lv;rw [q] at e;exact gno hb e
  have ng:∀ j,a∉(if j=ρ.length then [dd] else []):=fun j hj=>hs _ nd (G0 a j hj)
  have old:∀ lv',c.S F lv' a→s.heap.get? a≠none→ak c.W s.heap a:=fun lv' h hn=>by
   cases e:s.heap.get? a with
   | none=>exact absurd e hn
   | some o=>
    obtain ⟨o2,e2,f,r,r1⟩:=lv
    obtain ⟨_,sl,e3⟩:=st a o e h.xu
    obtain rfl:=geq e2 e3
    exact ⟨o,e,f,r,r1⟩
  have im:∀ lv',c.S F lv' a→c.S F lw a→(c.inn lw F s scope cl (dd+1) dd sl ρ.length).S (fun i=>if i=ρ.length then [dd] else []) .im a:=fun lv' h h'=>⟨⟨Classical.or_iff_not_imp_right.mpr fun hn=>⟨h',old lv' h hn⟩,ng⟩,h.2.1,hs _ nC⟩
  cases l with
  | im=>exact im _ h h.im
  | _=>cases lw with
   | any=>exact im _ h h.any
   | _=>exact ⟨ng,h.2.1,hs _ nC⟩
 have hst0:St 0 none ((s2.heap.push o0).push { cls:=.type "dict",data:=.dict #[] }):=hw.frame h0 fun b o e u0=>g.keep e
 have it0:ItS (c.inn lw F s scope cl (dd+1) dd sl ρ.length) (lw.inn l) wr fp St src vs (fun u0=>[]) s 0 none ((er lw ρ n).set ρ.length (.own (.node kd []))) k2 _ { s2 with heap:=(s2.heap.push o0).push { cls:=.type "dict",data:=.dict #[] } }:=
  ⟨y,⟨fun b o e u0 h u0 u0=>st3 b o e h,fun j b h=>.inr (G0 b j h▸fd),fun b h=>st3.fresh y.pen h⟩,hst0,fun a ha=>⟨hS a (hfp a ha).1 (hfp a ha).2,(hfp a ha).2.keep fun u0 h=>g.keep h⟩,hr.xl (.all (fun u0 u0 e=>g.keep e) _) hS,hwr,hw.cls hst0⟩
 refine kg (env:=compEnvC scope cl (dd+1) c.env) (by rw [hcl];rfl) (hE.f2 _ _ _) (hE.u2 _ _ _) (hE.q _ _ _) (fun u0=>hE.q _ _ _) ?_ (hw.self hst0 ?_) <;>
 exact jA (c:=c.inn lw F s scope cl (dd+1) dd sl ρ.length) okI rfl dB htt hw hd Lv.yp (hE.q _ _ _) (hE.u1 _ _ _) ((mN ⟨_,_,rfl⟩ (hE.f1 _ _ _)).trans (by rw [hturn];rfl)) (J ds) (fun i d a k=>hJ F s cl (dd+1) dd ds i d a k) (fun u0 h=>⟨h,(x0.nu h).2⟩) (fun a k F' t hj x u0=>hfin dd (dd+1) t (.of x0 dB x (hQ ds a k hj))) _ 0 _ k2 _ _ rfl (Nat.zero_le _) q it0
theorem Tt.mono {e:Expr} {Q Q':Bool→Nat→Prop} (h:Tt c ρ k e Q) (hq:∀ b k,Q b k→Q' b k):Tt c ρ k e Q':=fun ok F s x=>noE (h ok F s x) fun u0 u0 r=>by obtain ⟨k',q,x1,st⟩:=r;exact ⟨k',hq _ _ q,x1,st⟩
theorem cW.mono {Q Q':Bool→Nat→Prop} (hq:∀ b k,Q b k→Q' b k):∀ {ifs k},cW c ρ k ifs Q→cW c ρ k ifs Q'
 | [],_,h=>hq _ _ h
 | _::_,_,h=>Tt.mono h fun u0 u0 w=>⟨fun e=>(w.1 e).mono hq,fun e=>hq _ _ (w.2 e)⟩
theorem EvO.mono {Q':O→Nat→Prop} (h:EvO c ρ k e Q) (hq:∀ o k,Q o k→Q' o k):EvO c ρ k e Q':=fun ok F s x=>noE (h ok F s x) fun u0 u0 r=>by obtain ⟨o,k',N,q,r,nd,hN,x1,st⟩:=r;exact ⟨o,k',N,hq _ _ q,r,nd,hN,x1,st⟩
theorem et.mono {Q Q':List D→Nat→Prop} (h:et c ρ k l tt e Q) (hq:∀ o k,Q o k→Q' o k):et c ρ k l tt e Q':=fun ok F s x=>noE (h ok F s x) fun u0 u0 h=>noE h fun u0 u0 r=>by
 obtain ⟨ds,k,q,I,wr,fp,St,src,vs,hv,hw,h0,hr,hd,x,st,hwr,hfp⟩:=r;exact ⟨ds,k,hq _ _ q,I,wr,fp,St,src,vs,hv,hw,h0,hr,hd,x,st,hwr,hfp⟩
noncomputable def pC (c:Cx) (B:List Sl) (m k:Nat) (l:Lv) (t:Expr) (ifs:List Expr) (elt:Expr) (d:D) (zs:List O) (J:List O→Nat→Prop):Prop:=
 zs.length < 2 ^ 24∧TgE c l t d (B.set m (.own (.node .lst zs))) fun ρ'=>cW c ρ' k ifs fun b k'=>gW b (EvO c ρ' k' elt fun z k''=>J (zs++[z]) k'') (J zs k')
inductive isL (J:List O→Nat→Prop) (a:O) (k:Nat):Prop
 | mk (zs:List O) (e:a=.node .lst zs) (j:J zs k)
theorem pC.run (hacc:c.acc=some (m,dd)) (hnm:∀ y,c.sl.lookup y≠some m) (hpin:c.pin=none) (hm:m < B.length) {zs:List O} {J:List O→Nat→Prop} (h:pC c B m k l t ifs elt d zs J):TgE c l t d (B.set m (.own (.node .lst zs))) fun ρ'=>
  cW c ρ' k ifs fun b k'=>gW b (Bd c ρ' k' (do let _ ← PySem.call (.builtin "list.append") [.ref dd,← eval elt c.env]) fun ρ'' k''=>∃ a',ρ''=ρ'.set m (.own a')∧isL J a' k'') (isL J (.node .lst zs) k'):=by
 obtain ⟨hz,ρ',tg,ts⟩:=h
 exact ⟨ρ',tg,ts.mono fun b k' w=>⟨fun e=>tw hacc hnm hpin (tg.reset hacc hm).1 hz ((w.1 e).mono fun z k q=>⟨_,rfl,_,rfl,q⟩),fun e=>⟨_,rfl,w.2 e⟩⟩⟩
theorem iy (hc:cA c scope sl m=true):∀ y,sl.lookup y≠some m:=fun y h=>by
 rcases (jS hc).slots y m h with h | h
 ·exact Nat.lt_irrefl _ h.2.2
 ·exact Nat.lt_irrefl _ h
theorem g5 {pos:Pos} (n:Nat) (sl:List (Str × Nat)) (hc:cA c scope sl ρ.length=true) (hfs:∀ x,foldedSetIterable iter c.env x=pure x) (htt:tt=true→cV t=true) (J:List D→Nat→List O→Nat→Prop) (hi:et c ρ k l tt iter fun ds k'=>J ds 0 [] k')
  (hJ:∀ F s cl C dd ds i d zs k,ds[i]? = some d→J ds i zs k→pC (c.inn lw F s scope cl C dd sl ρ.length) (er lw ρ n) ρ.length k (lw.inn l) t ifs elt d zs (J ds (i+1))) (hQ:∀ ds zs k,J ds ds.length zs k→Q (.node .lst zs) k):EvC c lw ρ k (.ListComp elt [⟨t,iter,ifs,0⟩] scope pos) (fQ elt [⟨t,iter,ifs,0⟩] scope pos) Q:=fun ok F s x use Qf Ex hfin=>by
 show wpAny _ _ (comprehension (.ListComp elt [⟨t,iter,ifs,0⟩] scope pos) scope c.env _ (newList []) false (eval iter c.env) use) _ _ _
 exact iq (kd:=.lst) (gs:=[]) (body:=fun dd cenv=>do let _ ← PySem.call (.builtin "list.append") [.ref dd,← eval elt cenv]) ok x n hc rfl .list hfs htt iI rfl (fun h a e u0=>⟨rfl,0,e⟩) (fun I dd cenv=>eG rfl rfl) (fun ds i=>isL (J ds i)) (hi.mono fun u0 u0 q=>⟨_,rfl,q⟩)
  (fun F s cl C dd ds i d a k hd hj=>by
   obtain ⟨zs,rfl,hj⟩:=hj
   exact (hJ F s cl C dd ds i d zs k hd hj).run rfl (iy hc) rfl dB)
  (fun ds a k h=>by obtain ⟨zs,rfl,h⟩:=h;exact hQ ds zs k h) hfin
theorem tE (hacc:c.acc=some (m,dd)) (hm:ρ[m]? = some (.own a)) {lev:Nat} {body:Sem Unit} {K:List Sl→Nat→Prop} (hl:l≠.any) (hE:kM c.A e lev) (hmk:c.A.mark none=c.A) (hg:(clausesOf e)[lev]? = some ⟨t,iter,ifs,0⟩) (hfs:∀ x,foldedSetIterable iter c.env x=pure x) (htt:tt=true→cV t=true)
  (hturn:∀ I,compTurn e lev (.ref I) (.ref dd) c.env=cm iter.pos t (.ref I) ifs c.env body (.compLoop e lev (.ref I) (.ref dd) c.env)) (J:List D→Nat→O→Nat→Prop) (hi:et c ρ k l tt iter fun ds k'=>J ds 0 a k')
  (hJ:∀ ds i d a k,ds[i]? = some d→J ds i a k→TgE c l t d (ρ.set m (.own a)) fun ρ'=>cW c ρ' k ifs fun b k'=>gW b (Bd c ρ' k' body fun ρ'' k''=>∃ a',ρ''=ρ'.set m (.own a')∧J ds (i+1) a' k'') (J ds (i+1) a k')) (hK:∀ ds a k,J ds ds.length a k→K (ρ.set m (.own a)) k) :
  Bd c ρ k (do
    let x ← eval iter c.env
    standAt iter.pos
    let x ← foldedSetIterable iter c.env x
    let _ ← runOwn (.compStart e lev (← holding [x] (pyIter x)) (.ref dd) c.env) c.env) K:=fun ok F s x=>by
 refine wpAny_bind (noE (hi ok F s x) fun v s1 h1=>wpAny_bind (wpAny_standAt (wpAny_bind (wpAny_of_eq (hfs v) (wpAny_bind (wpAny_holding (noE h1 fun u s2 r=>wpAny_bind ?_)))))))
 obtain ⟨ds,k2,q,I,wr,fp,St,src,vs,rfl,hw,h0,hr,hd,x2,st,hwr,hfp⟩:=r
 refine wpAny_runOwn (h:=none) ?_
 rw [hmk]
 have it0:ItS c l wr fp St src vs F s 0 none (ρ.set m (.own a)) k2 F s2:=by
  rw [jm hm];exact ⟨x2,.of_keep st x2.pen,h0,hfp,hr,hwr,hw.cls h0⟩
 refine kg hg (hE.f2 _ _ _) (hE.u2 _ _ _) (hE.q _ _ _) (fun u0=>hE.q _ _ _) ?_ (hw.self h0 ?_) <;>
 exact jA ok hacc (List.getElem?_eq_some_iff.mp hm).1 htt hw hd hl (hE.q _ _ _) (hE.u1 _ _ _) ((mN ⟨_,_,rfl⟩ (hE.f1 _ _ _)).trans (by rw [hturn])) (J ds) (fun i d a k=>hJ ds i d a k) (fun u0=>x.nu) (fun a k F' t hj x st=>wpAny_pure ⟨_,k,F',hK ds a k hj,x,st⟩) _ 0 _ k2 _ _ rfl (Nat.zero_le _) q it0
theorem qW {pos:Pos} {t2 iter2:Expr} {ifs2:List Expr} {tt2:Bool} (n:Nat) (sl:List (Str × Nat)) (hc:cA c scope sl ρ.length=true) (hfs:∀ x,foldedSetIterable iter c.env x=pure x) (hfs2:∀ env x,foldedSetIterable iter2 env x=pure x) (htt:tt=true→cV t=true) (htt2:tt2=true→cV t2=true)
  (J:List D→Nat→List O→Nat→Prop) (hi:et c ρ k l tt iter fun ds k'=>J ds 0 [] k')
  (hJ:∀ F s cl C dd ds i d zs k,ds[i]? = some d→J ds i zs k→TgE (c.inn lw F s scope cl C dd sl ρ.length) (lw.inn l) t d ((er lw ρ n).set ρ.length (.own (.node .lst zs))) fun ρ'=>cW (c.inn lw F s scope cl C dd sl ρ.length) ρ' k ifs fun b k'=>gW b
   (∃ J2:List D→Nat→List O→Nat→Prop,(et (c.inn lw F s scope cl C dd sl ρ.length) ρ' k' .im tt2 iter2 fun ds2 k2=>J2 ds2 0 zs k2)∧(∀ ds2 j d2 zs2 k2,ds2[j]? = some d2→J2 ds2 j zs2 k2→pC (c.inn lw F s scope cl C dd sl ρ.length) ρ' ρ.length k2 .im t2 ifs2 elt d2 zs2 (J2 ds2 (j+1)))∧∀ ds2 zs2 k2,J2 ds2 ds2.length zs2 k2→J ds (i+1) zs2 k2) (J ds (i+1) zs k'))
  (hQ:∀ ds zs k,J ds ds.length zs k→Q (.node .lst zs) k):EvC c lw ρ k (.ListComp elt [⟨t,iter,ifs,0⟩,⟨t2,iter2,ifs2,0⟩] scope pos) (fQ elt [⟨t,iter,ifs,0⟩,⟨t2,iter2,ifs2,0⟩] scope pos) Q:=fun ok F s x use Qf Ex hfin=>by
 show wpAny _ _ (comprehension (.ListComp elt [⟨t,iter,ifs,0⟩,⟨t2,iter2,ifs2,0⟩] scope pos) scope c.env _ (newList []) false (eval iter c.env) use) _ _ _
 refine iq (kd:=.lst) (gs:=[⟨t2,iter2,ifs2,0⟩]) (body:=fun dd cenv=>do
    let x ← eval iter2 cenv
    standAt iter2.pos
    let x ← foldedSetIterable iter2 cenv x
    let _ ← runOwn (.compStart (.ListComp elt [⟨t,iter,ifs,0⟩,⟨t2,iter2,ifs2,0⟩] scope pos) 1 (← holding [x] (pyIter x)) (.ref dd) cenv) cenv) ok x n hc rfl .list hfs htt iI rfl (fun h a e u0=>⟨rfl,0,e⟩) (fun I dd cenv=>jP rfl rfl) (fun ds i=>isL (J ds i)) (hi.mono fun u0 u0 q=>⟨_,rfl,q⟩)
  (fun F s cl C dd ds i d a k hd hj=>?_) (fun ds a k h=>by obtain ⟨zs,rfl,h⟩:=h;exact hQ ds zs k h) hfin
 obtain ⟨zs,rfl,hj⟩:=hj
 obtain ⟨ρ',tg,ts⟩:=hJ F s cl C dd ds i d zs k hd hj
 have hm:=(tg.reset (dd:=dd) rfl dB).1
 refine ⟨ρ',tg,ts.mono fun b k' w=>⟨fun e=>?_,fun e=>⟨_,rfl,w.2 e⟩⟩⟩
 obtain ⟨J2,hi2,hJ2,hQ2⟩:=w.1 e
 exact tE (l:=.im) rfl hm (fun h=>by cases h) .list rfl rfl (hfs2 _) htt2 (body:=do let _ ← PySem.call (.builtin "list.append") [.ref dd,← eval elt _]) (fun I=>eG rfl rfl) (fun ds2 j=>isL (J2 ds2 j)) (hi2.mono fun u0 u0 q=>⟨_,rfl,q⟩) (fun ds2 j d2 a k2 hd2 hj2=>by
  obtain ⟨zs2,rfl,hj2⟩:=hj2
  exact (hJ2 ds2 j d2 zs2 k2 hd2 hj2).run rfl (iy hc) rfl (List.getElem?_eq_some_iff.mp hm).1) fun ds2 a k2 h=>by
  obtain ⟨zs2,rfl,h⟩:=h
  exact ⟨_,rfl,_,rfl,hQ2 ds2 zs2 k2 h⟩
inductive isD (J:List Key→List D→Nat→Prop) (a:O) (k:Nat):Prop
 | mk (ks:List Key) (xs:List D) (e:a=.dct ks xs) (l:ks.length=xs.length) (j:J ks xs k)
noncomputable def kf (ks:List Key) (xs:List D) (kk:Key) (z:D):List D:=match aD ks kk with
 | some j=>xs.set j z
 | none=>xs++[z]
theorem j6 {ks:List Key} {xs:List D} {kk:Key} {z:D}:fR ks (xs.map .leaf) kk (.leaf z)=(kf ks xs kk z).map .leaf:=by
 unfold fR kf
 cases aD ks kk with
 | none=>rw [List.map_append];rfl
 | some j=>rw [List.map_set]
theorem qA {ks:List Key} {xs:List D} {kk:Key} {z:D} (h:ks.length=xs.length):(fK ks kk).length=(kf ks xs kk z).length:=by
 unfold fK kf
 cases aD ks kk with
 | none=>simp [h]
 | some j=>simp [h]
theorem q7 {pos:Pos} {kx vx:Expr} (n:Nat) (sl:List (Str × Nat)) (hc:cA c scope sl ρ.length=true) (hfs:∀ x,foldedSetIterable iter c.env x=pure x) (htt:tt=true→cV t=true) (J:List D→Nat→List Key→List D→Nat→Prop) (hi:et c ρ k l tt iter fun ds k'=>J ds 0 [] [] k')
  (hJ:∀ F s cl C dd ds i d ks xs k,ds[i]? = some d→J ds i ks xs k→ks.length=xs.length→ks.length≤2 ^ 24∧TgE (c.inn lw F s scope cl C dd sl ρ.length) (lw.inn l) t d ((er lw ρ n).set ρ.length (.own (.dct ks xs))) fun ρ'=>cW (c.inn lw F s scope cl C dd sl ρ.length) ρ' k ifs fun b k'=>gW b
   (Ev (c.inn lw F s scope cl C dd sl ρ.length) ρ' k' .any kx fun y k1=>Ev (c.inn lw F s scope cl C dd sl ρ.length) ρ' k1 .im vx fun z k2=>∃ kk:Key,y=kk.toD∧bk ks kk=true∧J ds (i+1) (fK ks kk) (kf ks xs kk z) k2) (J ds (i+1) ks xs k'))
  (hQ:∀ ds ks xs k,J ds ds.length ks xs k→Q (.dct ks xs) k):EvC c lw ρ k (.DictComp kx vx [⟨t,iter,ifs,0⟩] scope pos) (sj kx vx [⟨t,iter,ifs,0⟩] scope pos) Q:=fun ok F s x use Qf Ex hfin=>by
 show wpAny _ _ (comprehension (.DictComp kx vx [⟨t,iter,ifs,0⟩] scope pos) scope c.env _ newDict false (eval iter c.env) use) _ _ _
 refine iq (kd:=.dct []) (gs:=[]) ok x n hc rfl .dict hfs htt mJ rfl (fun h a e hs=>⟨rfl,hs,[],0,e,.nil,.nil⟩) (fun I dd cenv=>jI rfl rfl) (fun ds i=>isD (J ds i)) (hi.mono fun u0 u0 q=>⟨_,_,rfl,rfl,q⟩)
  (fun F s cl C dd ds i d a k hd hj=>?_) (fun ds a k h=>by obtain ⟨ks,xs,rfl,_,h⟩:=h;exact hQ ds ks xs k h) hfin
 obtain ⟨ks,xs,rfl,hlen,hj⟩:=hj
 obtain ⟨hz,ρ',tg,ts⟩:=hJ F s cl C dd ds i d ks xs k hd hj hlen
 have hm:=(tg.reset (dd:=dd) rfl dB).1
 refine ⟨ρ',tg,ts.mono fun b k' w=>⟨fun e=>?_,fun e=>⟨_,_,rfl,hlen,w.2 e⟩⟩⟩
 refine uf rfl (iy hc) rfl hm ((w.1 e).mono fun y k1 h=>h.mono fun z k2 q=>?_)
 obtain ⟨kk,e1,h2,q⟩:=q
 refine ⟨kk,e1,h2,hz,fun j hf=>?_,_,by rw [j6],_,_,rfl,qA hlen,q⟩
 have:=(List.getElem?_eq_some_iff.mp (bW hf).1).1
 exact ⟨xs[j],by rw [List.getElem?_map,List.getElem?_eq_getElem (by omega)];rfl⟩
end
end Mine
namespace Mine
open PySem PySem.Calls PyProof.Rows PySem.SeqAt PySem.W
noncomputable def sr (W:Wd) (h:Heap) (P Pv:Addr→Prop) (pen:Option Addr):Sl→Value→Prop
 | .im d,v=>VR W h P d v
 | .vw d,v=>VR W h Pv d v
 | .pen,v=>∃ p,pen=some p∧v=.ref p
 | _,_=>False
noncomputable def cX (W:Wd) (h:Heap) (P Pv:Addr→Prop) (pen:Option Addr):List Sl→List Value→Prop
 | [],vs=>vs=[]
 | z::zs,vs=>∃ v r,vs=v::r∧sr W h P Pv pen z v∧cX W h P Pv pen zs r
inductive ui (W:Wd) (A:Around) (pen:Option Addr) (P:Addr→Prop) (s:Shared) (Q:D→Nat→Prop) (v:Value) (s':Shared):Prop
 | mk (d:D) (k:Nat) (q:Q d k) (r:VR W s'.heap (fun a=>(P a∨s.heap.get? a=none)∧pen≠some a) d v) (w:W0 W A s') (pn:c9 s'.heap pen k) (st:av pen s.heap s'.heap)
inductive vR (W:Wd) (A:Around) (pen:Option Addr) (s:Shared) (X:Nat→Prop) (v:Value) (s':Shared):Prop
 | mk (a:Addr) (k:Nat) (e:v=.ref a) (q:X k) (hn:s.heap.get? a=none) (ef:EFl W s'.heap (fun b=>s.heap.get? b=none) a (some .none)) (w:W0 W A s') (pn:c9 s'.heap pen k) (st:av pen s.heap s'.heap)
noncomputable def b9 (W:Wd) (n:Nat) (f:Fn) (as:List Sl) (k:Nat) (Q:D→Nat→Prop) (X:Nat→Prop):Prop:=
 ∀ A pen P Pv s vs,i5 n A→W0 W A s→c9 s.heap pen k→(∀ a,pen=some a→W.base.get? a=none)→(∀ a,P a∨Pv a→pen≠some a)→cX W s.heap P Pv pen as vs→wpAny (model W.prog W.w) A (PySem.call (fv W f) vs) (ui W A pen P s Q) (vR W A pen s X) s
noncomputable abbrev NoX:Nat→Prop:=fun u0=>False
inductive ResS (c:Cx) (ρ:List Sl) (F:Fp) (R:Sl→Nat→Prop) (s:Shared) (v:Value) (s':Shared):Prop
 | mk (z:Sl) (k':Nat) (q:R z k') (a:sr c.W s'.heap (c.S F .im) (c.S F .any) c.pen z v) (x:SR c ρ k' F s') (st:av c.pen s.heap s'.heap)
noncomputable def tQ (c:Cx) (ρ:List Sl) (k:Nat) (e:Expr) (R:Sl→Nat→Prop):Prop:=aJ c→∀ F s,SR c ρ k F s→wpAny c.M c.A (eval e c.env) (ResS c ρ F R s) NoE s
noncomputable def gX (c:Cx) (ρ:List Sl) (k:Nat):List Expr→(List Sl→Nat→Prop)→Prop
 | [],R=>R [] k
 | e::es,R=>tQ c ρ k e fun z k'=>gX c ρ k' es fun zs k''=>R (z::zs) k''
section
variable {c:Cx} {ρ:List Sl} {k k':Nat} {F:Fp} {s s' s1:Shared} {i:Nat} {l:Lv} {e o:Expr} {es:List Expr} {f:Fn} {Q:D→Nat→Prop} {X:Nat→Prop} {as:List Sl} {vs:List Value}
theorem wB {R:Sl→Nat→Prop} (h:Ev c ρ k .im e fun d k'=>R (.im d) k'):tQ c ρ k e R:=fun ok F s x=>noE (h ok F s x) fun u0 u0 r=>by obtain ⟨d,k',q,r,x1,st⟩:=r;exact ⟨_,k',q,r,x1,st⟩
theorem uL {R:Sl→Nat→Prop} (h:Ev c ρ k .any e fun d k'=>R (.vw d) k'):tQ c ρ k e R:=fun ok F s x=>noE (h ok F s x) fun u0 u0 r=>by obtain ⟨d,k',q,r,x1,st⟩:=r;exact ⟨_,k',q,r,x1,st⟩
theorem vB {R:Sl→Nat→Prop} {x:Str} {pos} (hs:aO c x i=true) (hz:ρ[i]? = some .pen) (h:R .pen k):tQ c ρ k (.Name x pos) R:=fun ok F s x1=>by
 obtain ⟨h0,h1,h2⟩:=bB hs
 have:=x1.vals x i h0
 rw [hz] at this
 obtain ⟨p,hp,hv⟩:=this
 exact wpAny_Name (hv.load ok.env.kind ⟨.pen,k,h,⟨p,hp,rfl⟩,x1,.refl⟩ h1) h2
theorem sr.keep (x:SR c ρ k F s) (st:av c.pen s.heap s'.heap):∀ {z v},sr c.W s.heap (c.S F .im) (c.S F .any) c.pen z v→sr c.W s'.heap (c.S F .im) (c.S F .any) c.pen z v
 | .im _,_,r=>x.vr st r
 | .vw _,_,r=>x.vr st r
 | .pen,_,r=>r
 | .undef,_,r=>r
 | .own _,_,r=>r
theorem gX.run {R:List Sl→Nat→Prop} {pos:Pos}:∀ {es k s},gX c ρ k es R→es.all ah=true→aJ c→SR c ρ k F s→wpAny c.M c.A (spliced (backTo pos (starEach es c.env))) (fun vs s'=>∃ zs k',R zs k'∧cX c.W s'.heap (c.S F .im) (c.S F .any) c.pen zs vs∧SR c ρ k' F s'∧av c.pen s.heap s'.heap) NoE s:=by
 intro es
 induction es generalizing R pos with
 | nil=>
  exact @fun k u0 h u0 u0 x=>wpAny_items_nil ⟨[],k,h,rfl,x,.refl⟩
 | cons _ _ ihq=>
  intro _ s h hs ok x
  rw [List.all_cons,Bool.and_eq_true] at hs
  refine wpAny_items_cons (noE (h ok F s x) fun v s1 r=>?_) (ag hs.1)
  obtain ⟨z,k1,q,rz,x1,st⟩:=r
  refine noE (ihq q hs.2 ok x1) fun vs s2 r=>?_
  obtain ⟨zs,k2,q2,rs,x2,st2⟩:=r
  exact ⟨z::zs,k2,q2,⟨v,vs,rfl,rz.keep x1 st2,rs⟩,x2,st.trans st2⟩
noncomputable def g6 (ρ:List Sl) (X:Nat→Prop):Post:=fun f ρ' k=>f=.exc∧ρ'=ρ∧X k
theorem ue (ok:aJ c) (x1:SR c ρ k F s1) (st1:av c.pen s.heap s1.heap) (ra:cX c.W s1.heap (c.S F .im) (c.S F .any) c.pen as vs) (hC:b9 c.W c.n f as k Q X):wpAny c.M c.A (PySem.call (fv c.W f) vs) (Res c ρ F .im Q s) (Pas c F (g6 ρ X) s1) s1:=
 wpAny_mono (hC c.A c.pen _ _ s1 vs ok.room x1.w0 x1.pen ok.pn (fun a h=>h.elim Cx.S.xu Cx.S.xu) ra) (fun v s2 r=>by
  obtain ⟨d,k2,q,r,w,pn,st⟩:=r
  exact ⟨d,k2,q,r.mono fun a h=>h.1.elim id fun h=>x1.xm h,x1.step st w pn,st1.trans st⟩) fun v s2 r=>by
  obtain ⟨a,k2,e,q,hn,ef,w,pn,st⟩:=r
  exact ⟨a,some .none,e,.inr (.inl rfl),ρ,k2,F,⟨rfl,rfl,q⟩,hn,ef,x1.step st w pn,.of_keep st pn⟩
theorem b9.mono {n m:Nat} {W:Wd} (h:b9 W n f as k Q X) (hn:n≤m):b9 W m f as k Q X:=fun A pen P Pv s vs hr=>h A pen P Pv s vs ⟨by have:=hr.1;lia,by have:=hr.2;lia⟩
noncomputable def EvX (c:Cx) (ρ:List Sl) (k:Nat) (e:Expr) (Q:D→Nat→Prop) (X:Nat→Prop):Prop:=aJ c→∀ F s,SR c ρ k F s→wpAny c.M c.A (eval e c.env) (Res c ρ F .im Q s) (Pas c F (g6 ρ X) s) s
theorem kY (ok:aJ c) (x0:SR c ρ k F s) {first:List Value} {zs0:List Sl} {pos:Pos} {k1:Nat} (x1:SR c ρ k1 F s1) (st1:av c.pen s.heap s1.heap) (ra:cX c.W s1.heap (c.S F .im) (c.S F .any) c.pen zs0 first) (hs:es.all ah=true)
  (h:gX c ρ k1 es fun as k2=>b9 c.W c.n f (zs0++as) k2 Q X):wpAny c.M c.A (callWith pos (fv c.W f) first (backTo pos (starEach es c.env)) []) (Res c ρ F .im Q s) (Pas c F (g6 ρ X) s) s1:=by
 have body:wpAny c.M c.A (spliced (backTo pos (starEach es c.env))) (fun vs s₁=>c.W.K.In s₁.heap∧wpAny c.M c.A (PySem.call (fv c.W f) (first++vs)) (Res c ρ F .im Q s) (Pas c F (g6 ρ X) s) s₁) (Pas c F (g6 ρ X) s) s1:=noE (h.run hs ok x1) fun vs s2 r=>by
  obtain ⟨as,k2,q,rs,x2,st2⟩:=r
  refine ⟨ok.wok.inb.keeps x2.w0.base,wpAny_mono (ue ok x2 (st1.trans st2) ?_ q) (fun u0 u0 h=>h) fun u0 u0 h=>h.after (.of_keep (st1.trans st2) x2.pen)⟩
  clear h q
  induction zs0 generalizing first with
  | nil=>rw [show first=_ from ra];exact rs
  | cons z zs ih=>obtain ⟨v,r,rfl,a,b⟩:=ra;exact ⟨v,_,rfl,a.keep x1 st2,ih b⟩
 cases es with
 | nil=>
  refine callWith_of rfl (keeps_K (ok.wok.keep f)) ?_
  unfold evalArgs
  show wpAny _ _ (spliced (backTo pos (starEach [] c.env)) >>= _) _ _ _
  exact wpAny_bind (wpAny_mono body (fun vs s1 h=>wpAny_bind (wpAny_pure (wpAny_holding (wpAny_bind (wpAny_pure (wpAny_bind (wpAny_pure (wpAny_pure h)))))))) fun u0 u0 x=>x)
 | cons e rest=>
  rw [List.all_cons,Bool.and_eq_true] at hs
  exact callWith_K (ok.wok.inb.keeps x1.w0.base) (ok.wok.keep f) body (ag hs.1) (fD _ hs.2).1
theorem jr (f:Fn):(strV (aX f) == ("__debug__" : Str))=false:=(Bool.not_eq_true' _).mp (cI (p:=fun f=>!(strV (aX f) == ("__debug__" : Str))) (by decide +kernel) f)
theorem oN {x:Str} {pos pos':Pos} (hm:bF f=false) (hx:x=strV (aX f)) (hk:c.names.lookup x=some .globalImplicit) (hs:es.all ah=true) (h:gX c ρ k es fun as k1=>b9 c.W c.n f as k1 Q X):EvX c ρ k (.Call (.Name x pos') es [] pos) Q X:=fun ok F s x0=>
 Call_ (Name_function_global ok.env.kind (ok.env.glob x hk) (loadGlobal_global (env:=c.env) (by rw [ok.env.globals];exact ok.wok.g.keeps x0.w0.base) (hx▸ok.wok.name f hm) (kY ok x0 x0 .refl (zs0:=[]) rfl hs h)) (by rw [hx];exact jr f))
theorem EvX.ev (h:EvX c ρ k e Q NoX):Ev c ρ k l e Q:=ux fun ok F s x=>wpAny_mono (h ok F s x) (fun u0 u0 h=>h) fun u0 u0 p=>by obtain ⟨_,_,_,_,_,_,_,q,_⟩:=p;exact q.2.2
theorem oX {x:Str} {pos pos':Pos} (hm:bF f=false) (hx:x=strV (aX f)) (hk:c.names.lookup x=some .globalImplicit) (hs:es.all ah=true) (h:gX c ρ k es fun as k1=>b9 c.W c.n f as k1 Q NoX):Ev c ρ k l (.Call (.Name x pos') es [] pos) Q:=(oN hm hx hk hs h).ev
theorem rG {x:Str} {apos pos:Pos} (hm:bF f=true) (hx:x=strV (aX f)) (hb:a0 o=true) (hs:es.all ah=true) (hlen:es.length < 30) (hl:(apos.endLine == pos.line)=true)
  (h:Ev c ρ k .im o fun d k1=>∃ ns xs,d=.node (.ins .gram ns) xs∧ns.findIdx? (· == aX f)=none∧gX c ρ k1 es fun as k2=>b9 c.W c.n f (.im d::as) k2 Q NoX):Ev c ρ k l (.Call (.Attribute o x apos) es [] pos) Q:=EvX.ev fun ok F s x0=>
 bA hb hs hlen hl (noE (h ok F s x0) fun v s1 r=>by
  obtain ⟨d,k1,⟨ns,xs,rfl,hi,h1⟩,r,x1,st1⟩:=r
  have r':=r
  obtain ⟨a,vs,as,rfl,⟨dx,dEs,n,sl,rfl,eo,ed,fr,_⟩,_⟩:=r
  obtain ⟨h2,h3⟩:=ok.wok.meth f hm
  have C:=ok.wok.cls .gram
  subst hx
  refine method_fn (ok.wok.inb.keeps x1.w0.base) (⟨eo,rfl,rfl,ed⟩:InstAt s1.heap a ⟨.ref (c.W.ca .gram),some dx,.plain,sl⟩ (c.W.ca .gram) (some (dictOf dEs n))) C.gg C.ga h2 h3 (by show (lookIn (strV (aX f)) (dictOf dEs n)).map _=_;rw [lookIn_dict,fr.xF hi];rfl) ?_
  rw [← te hm]
  exact kY ok x0 x1 st1 (zs0:=[.im (.node (.ins .gram ns) xs)]) ⟨_,[],rfl,r',rfl⟩ hs h1)
end
end Mine
namespace Mine
open PySem PySem.Calls PyProof.Rows PySem.SeqAt PySem.W
structure rL (fd:FuncData) (body:List Stmt):Prop where
 kind:fd.scope.kind=.function
 co:fd.scope.isCoroutine=false
 gen:fd.scope.isGenerator=false
 body:fd.body=.stmts body
 glob:fd.globals=mainGlobals
 bui:fd.builtins=builtinsNs
 clo:fd.closure=[]
 noFree:∀ x,fd.scope.names.lookup x≠some .free
theorem ko {lo:Nat} (names:List (Str × NameKind)):∀ (h:Heap) (acc:List (Str × Addr)),(∀ n c,(n,c)∈acc→h.get? c=some { cls:=.type "cell",data:=.cell none }∧lo≤c)→lo≤h.objs.size→
  ∀ n c,(n,c)∈cellsFrom h.objs.size names acc→(pushCells h names).get? c=some { cls:=.type "cell",data:=.cell none }∧lo≤c:=by
 induction names with
 | nil=>exact fun u0 u0 x u0=>x
 | cons y r ih=>
  intro h acc x hlo
  obtain ⟨name,kind⟩:=y
  unfold pushCells cellsFrom
  split
  ·have:=ih (h.push { cls:=.type "cell",data:=.cell none }) ((name,h.objs.size)::acc) (fun n c hm=>(List.mem_cons.mp hm).elim (fun e=>by obtain rfl:c=h.objs.size:=congrArg Prod.snd e;exact ⟨Heap.get?_push_size _ rfl,hlo⟩) fun hm=>⟨Heap.get?_push_of_some _ (x n c hm).1,(x n c hm).2⟩) (Heap.size_push ..▸Nat.le_succ_of_le hlo)
   rwa [Heap.size_push] at this
  ·exact ih h acc x hlo
theorem rL.yE {fd body} (F:rL fd body) {a:Addr} {hp:Heap}:oZ (callEnvC fd hp.objs.size a) fd.scope.names where
 kind:=F.kind
 globals:=F.glob
 builtins:=F.bui
 glob:=fun u0 h=>h
 loc:=fun u0 h=>h
 apart:=fun x y c h1 h2=>by
  have ok:=cellsFrom_ok fd.scope.names (hp.push { cls:=.type "frame",data:=.dict #[] }) (hp.objs.size+1) [] ⟨fun u0 u0 hm=>(aE hm),List.Pairwise.nil⟩ (by rw [Heap.size_push];exact Nat.le_refl _)
  rw [Heap.size_push] at ok
  exact name_of_addr ok.apart (PySem.mem_of_lookup h1) (PySem.mem_of_lookup h2)
 cells:=fun x h=>by
  rcases h with h | h
  ·exact ⟨Option.isSome_iff_exists.mp (cellsFrom_some _ _ _ (.inl h)),.inl h⟩
  ·exact absurd h (F.noFree x)
noncomputable def lh (c:Cx) (h:Heap) (F:Fp) (i:Nat):Sl→Value→Prop
 | .undef,_=>True
 | .im d,v=>VR c.W h (c.S F .im) d v
 | .vw d,v=>VR c.W h (c.S F .vw) d v
 | .own o,v=>VO c.W h (c.S F .im) o v (F i)∧∀ q,c.pin=some q→i=0→v=q
 | .pen,v=>∃ p,c.pen=some p∧v=.ref p
inductive lJ (c:Cx) (h:Heap) (F:Fp):Nat→List (Str × Value)→List Sl→Prop
 | nil {i}:lJ c h F i [] []
 | cons {i x v z b zs}:bL c x i=true→lh c h F i z v→lJ c h F (i+1) b zs→lJ c h F i ((x,v)::b) (z::zs)
section
variable {c:Cx} {h h':Heap} {F:Fp} {i k:Nat} {z:Sl} {v:Value} {s:Shared}
theorem lh.xl (r:lh c h F i z v) (pr:be (fun b=>b≠c.env.locals∧ak c.W h b) h h') (ho:∀ a∈F i,a≠c.env.locals∧ak c.W h a):lh c h' F i z v:=by
 have p:∀ l,be (fun a=>c.S F l a∧ak c.W h a) h h':=fun l=>pr.mono fun a q=>⟨q.1.2.2,q.2⟩
 cases z with
 | undef=>trivial
 | im d=>exact VR.xl (p .im) (fun u0 q u0=>q) r
 | vw d=>exact VR.xl (p .vw) (fun u0 q u0=>q) r
 | own o=>exact ⟨VO.xl (p .im) (fun u0 q u0=>q) r.1 fun a ha o e=>pr.at e (ho a ha),r.2⟩
 | pen=>exact r
theorem lh.slot {x:Str} (r:lh c h F i z v) (hh:bj h c.env x v):ee c h F x i z:=by
 cases z with
 | undef=>trivial
 | im d=>exact ⟨v,hh,r⟩
 | vw d=>exact ⟨v,hh,r⟩
 | own o=>exact ⟨v,hh,r⟩
 | pen=>obtain ⟨p,e,q⟩:=r;exact ⟨p,e,q▸hh⟩
theorem lJ.xl {b zs} (r:lJ c h F i b zs) (pr:be (fun b=>b≠c.env.locals∧ak c.W h b) h h') (ho:∀ j,∀ a∈F j,a≠c.env.locals∧ak c.W h a):lJ c h' F i b zs:=by
 induction r with
 | nil=>exact .nil
 | cons a b _ ih=>exact .cons a (b.xl pr (ho _)) ih
theorem rH {ρ:List Sl} {m:Nat}:(ρ++List.replicate (m+1) Sl.undef).set ρ.length z=(ρ++[z])++List.replicate m .undef:=by
 rw [List.set_append_right _ _ (Nat.le_refl _)];simp [List.replicate_succ]
theorem mL (ok:aJ c) {M:Model} {A:Around} {Ex:Value→Shared→Prop} (f:Str × Value→PUnit→Sem (ForInStep PUnit)) (hf:∀ n v u,f (n,v) u=(do storeName c.env n v;pure (.yield ⟨⟩))) (m:Nat) {Q:PUnit→Shared→Prop}:∀ {zs:List Sl} {i:Nat} {binds:List (Str × Value)} (ρ:List Sl) (s:Shared),ρ.length=i→SR c (ρ++List.replicate (zs.length+m) .undef) k F s→lJ c s.heap F i binds zs→
   (∀ s',SR c (ρ++zs++List.replicate m .undef) k F s'→Q ⟨⟩ s')→wpAny M A (forIn binds ⟨⟩ f) Q Ex s:=by
 intro zs
 induction zs with
 | nil=>
  intro i b ρ s _ x a h
  cases a
  rw [List.forIn_nil]
  exact wpAny_pure (h s (by simpa using x))
 | cons z zs ih=>
  intro i b ρ s hi x a h
  cases a with
  | cons c1 c2 c3=>
  rw [List.forIn_cons,hf]
  obtain ⟨h1,h2,h3⟩:=eC c1 ok
  have e:(zs.length+1)+m=(zs.length+m)+1:=by lia
  rw [List.length_cons,e] at x
  refine wpAny_bind (wpAny_bind (x.put ok (i:=i) (z:=z) ?_ h1 h2 h3 (fun h' hv pr=>(c2.xl pr fun a ha=>⟨(x.own i a ha).2.2.2,(x.own i a ha).2.1⟩).slot hv) fun s' x' st pr=>wpAny_pure ?_))
  ·rw [← hi,List.getElem?_append_right (Nat.le_refl _)];simp
  ·rw [← hi,rH] at x'
   exact ih (ρ++[z]) s' (by simp [hi]) x' (c3.xl pr fun j a ha=>⟨(x.own j a ha).2.2.2,(x.own j a ha).2.1⟩) (fun s2 x2=>h s2 (by simpa using x2))
noncomputable abbrev gp (W:Wd) (n:Nat) (sl:List (Str × Nat)) (names:List (Str × NameKind)) (S0:Addr→Prop) (h0:Heap) (pen:Option Addr) (pin:Option Value) (A:Around) (env:Env):Cx:=⟨W,n,A,env,sl,names,S0,h0,pen,pin,true,none⟩
theorem W0.leave {W:Wd} {A:Around} {env:Env} (x:W0 W (A.deeper env) s):W0 W A s:=by
 refine ⟨x.base,x.gens,x.os,?_,x.hand⟩
 obtain ⟨l,hl,f⟩:=x.outer
 have hl':A.frames.map (env::·)=some l:=hl
 cases hA:A.frames with
 | none=>rw [hA] at hl';cases hl'
 | some l0=>
  rw [hA] at hl';cases hl'
  exact ⟨l0,rfl,f.2.2⟩
theorem c9.grow {p:Option Addr} (x:c9 h p k) (g:∀ b o,h.get? b=some o→h'.get? b=some o):c9 h' p k:=fun a e=>by obtain ⟨x1,y,t,u,n,e',r,r1⟩:=x a e;exact ⟨x1,y,t,u,n,g _ _ e',r,r1⟩
theorem jx {W:Wd} {n:Nat} {sl:List (Str × Nat)} {S0:Addr→Prop} {h0:Heap} {pen:Option Addr} {pin:Option Value} {A:Around} {a:Addr} {o:Obj} {fd:FuncData} {body:List Stmt} {vs:List Value} {binds:List (Str × Value)} {zs:List Sl} {Q:Post} {R:Result→Shared→Prop} (m:Nat)
  (wok:WOK W) (hr:i5 (n+1) A) (w0:W0 W A s) (pn:c9 s.heap pen k) (hpn:∀ a,pen=some a→W.base.get? a=none) (hs0:∀ a,S0 a→ak W h0 a) (k0:av pen h0 s.heap) (bh:∀ b o,W.base.get? b=some o→∃ o',h0.get? b=some o')
  (inj:∀ x y i,sl.lookup x=some i→sl.lookup y=some i→x=y) (ho:s.heap.get? a=some o) (hd:o.data=.func fd) (lim:W.base.NoLimit) (FO:rL fd body) (hcd:s.heap.CodeRec fd.code fd.qualname) (hbind:BindsTo s fd ⟨vs,[]⟩ binds)
  (own:∀ i a,a∈F i→h0.get? a=none∧ak W s.heap a∧pen≠some a) (nd:∀ i,(F i).Nodup) (dj:∀ i j a,i≠j→a∈F i→a∉F j)
  (args:∀ A' env,s.heap.get? env.locals=none→lJ (gp W n sl fd.scope.names S0 h0 pen pin A' env) s.heap F 0 binds zs)
  (hbody:∀ A' env,TrB (gp W n sl fd.scope.names S0 h0 pen pin A' env) (zs++List.replicate m .undef) k body Q)
  (hQ:∀ f ρ' k' F' fv s' A' env,Q f ρ' k'→FlR (gp W n sl fd.scope.names S0 h0 pen pin A' env) s'.heap f fv→SR (gp W n sl fd.scope.names S0 h0 pen pin A' env) ρ' k' F' s'→W0 W A s'→R (.ok (.ret (match fv with | .ret v=>v | _=>.none))) s')
  (hX:∀ ρ' k' a s',Q .exc ρ' k'→h0.get? a=none→EFl W s'.heap (fun b=>h0.get? b=none) a (some .none)→W0 W A s'→c9 s'.heap pen k'→av pen h0 s'.heap→R (.error (.ref a)) s') :
  codeAny (model W.prog W.w) A (.call (.ref a) ⟨vs,[]⟩) R s:=by
 refine codeAny_call_function (by have:=hr.1;lia) ho hd FO.co FO.gen FO.body hcd (hbind _ _ _ _ ?_)
 rw [FO.clo]
 simp only [newFunctionEnv,Option.isSome_none,Bool.false_eq_true,if_false]
 refine wpAny_bind (wpAny_alloc (wpAny_bind (wpAny_layCells _ (fun name kind cells=>by cases hkc:kind == NameKind.cell <;> simp [hkc]) _ _ _ _ ?_)))
 rw [show ({ s with heap:=s.heap.push { cls:=.type "frame",data:=.dict #[] } }:Shared).heap.objs.size=s.heap.objs.size+1 from Heap.size_push ..]
 have up:∀ b o,s.heap.get? b=some o→(pushCells (s.heap.push { cls:=.type "frame",data:=.dict #[] }) fd.scope.names).get? b=some o:=fun b o e=>pushCells_keeps _ _ b o (Heap.get?_push_of_some _ e)
 have nL:=fY s.heap
 have gL:(pushCells (s.heap.push { cls:=.type "frame",data:=.dict #[] }) fd.scope.names).get? s.heap.objs.size=some { cls:=.type "frame",data:=.dict #[] }:=pushCells_keeps _ _ _ _ (Heap.get?_push_size _ rfl)
 have cells:=ko (lo:=s.heap.objs.size+1) fd.scope.names (s.heap.push { cls:=.type "frame",data:=.dict #[] }) [] (fun u0 u0 hm=>aE hm) (by rw [Heap.size_push];exact Nat.le_refl _)
 rw [Heap.size_push] at cells
 have ns:=(Heap.Ns.new s.heap (.type "frame")).keeps (pushCells_keeps fd.scope.names (s.heap.push { cls:=.type "frame",data:=.dict #[] }))
 have fr0:∀ b,s.heap.get? b=none→h0.get? b=none:=fun b hb=>k0.fresh pn hb
 have EO:oZ (callEnvC fd s.heap.objs.size a) fd.scope.names:=FO.yE
 have EL:(callEnvC fd s.heap.objs.size a).locals=s.heap.objs.size:=rfl
 have EFr:(callEnvC fd s.heap.objs.size a).frame=some (callEnvC fd s.heap.objs.size a).locals:=rfl
 have EC:∀ x c,(callEnvC fd s.heap.objs.size a).cells.lookup x=some c→(pushCells (s.heap.push { cls:=.type "frame",data:=.dict #[] }) fd.scope.names).get? c=some { cls:=.type "cell",data:=.cell none }∧s.heap.objs.size+1≤c:=fun x c hc=>cells x c (PySem.mem_of_lookup hc)
 have EK:∀ x,fd.scope.names.lookup x=some .cell→(callEnvC fd s.heap.objs.size a).kindOf x=some .cell:=fun x h=>h
 show wpAny _ _ (forIn binds PUnit.unit (fun x u0=>do storeName (callEnvC fd s.heap.objs.size a) x.1 x.2;pure (.yield ⟨⟩)) >>= fun u0=>pure (callEnvC fd s.heap.objs.size a)) _ _ _
 generalize callEnvC fd s.heap.objs.size a=env at EO EL EFr EC EK ⊢
 generalize pushCells (s.heap.push { cls:=.type "frame",data:=.dict #[] }) fd.scope.names=h1 at up gL ns EC ⊢
 have g:bP s { s with heap:=h1 }:=⟨h1,s.toks,rfl,up⟩
 rw [← EL] at nL gL ns
 obtain ⟨l0,hl0,hF0⟩:=w0.outer
 have w1:=g.w0 w0
 obtain ⟨_,hl1,hF1⟩:=w1.outer
 obtain rfl:=geq hl0 hl1
 have hb0:W.base.get? env.locals=none:=by
  cases e:W.base.get? env.locals with
  | none=>rfl
  | some o=>have:=w0.base _ _ e;exact gno nL this
 have w2:W0 W (A.deeper env) { s with heap:=h1 }:=⟨w1.base,w1.gens,w1.os,⟨env::l0,by show A.frames.map (env::·)=_;rw [hl0];rfl,by rw [EO.kind];decide,⟨env.locals,_,#[],0,EFr,hb0,gL,rfl,rfl⟩,hF1⟩,w1.hand⟩
 have ok:aJ (gp W n sl fd.scope.names S0 h0 pen pin (A.deeper env) env):=⟨wok,⟨by have:=hr.1;show A.depth+1+3 * n+10 < _;lia,by have:=hr.2;show A.units+3+20 * n+100 < _;lia⟩,EO,fun u0=>⟨EFr,⟨l0,by show A.frames.map (env::·)=_;rw [hl0];rfl⟩,EK⟩,inj,hs0,bh,hpn⟩
 have nl:∀ a,ak W s.heap a→a≠env.locals:=fun a lv q=>by obtain ⟨o,e,_⟩:=lv;rw [q] at e;exact gno nL e
 have nlt:∀ c,s.heap.objs.size+1≤c→s.heap.get? c=none:=fun c hc=>Heap.get?_none_of_le (Nat.le_of_succ_le hc)
 have x1:SR (gp W n sl fd.scope.names S0 h0 pen pin (A.deeper env) env) ([]++List.replicate (zs.length+m) .undef) k F { s with heap:=h1 }:=by
  refine ⟨w2,k0.trans (.xp up),pn.grow up,fun x i h=>?_,nd,dj,fun i a h=>⟨(own i a h).1,(own i a h).2.1.keep fun o q=>up _ _ q,(own i a h).2.2,nl a (own i a h).2.1⟩,⟨⟨_,ns⟩,⟨_,gL,.inl ⟨rfl,rfl⟩⟩,fun x c hc=>⟨_,_,(EC x c hc).1,rfl,rfl⟩,fr0 _ nL,fun u0 x c hc=>fr0 _ (nlt c (EC x c hc).2)⟩,fun i a h=>no1 h⟩
  rw [List.nil_append,List.getElem?_replicate]
  split <;> trivial
 refine wpAny_bind (mL ok _ (fun u0 u0 u0=>rfl) m [] _ rfl x1 ((args _ env nL).xl (.all up _) fun j a ha=>⟨nl a (own j a ha).2.1,(own j a ha).2.1⟩) fun s2 x2=>wpAny_pure ⟨lim.keeps x2.w0.base,codeAny_func ?_⟩)
 refine wpAny_mono (hbody (A.deeper env) env ok rfl F s2 x2) (fun fv s3 r=>?_) fun e s3 p=>?_
 ·obtain ⟨f,ρ',k',F',q,r,x3,st⟩:=r
  exact hQ f ρ' k' F' fv s3 _ _ q r x3 x3.w0.leave
 ·refine p.xD ok rfl x2 fun a s4 ea x4=>?_
  obtain ⟨ρ',k',F',q,hn,ef,x4,st⟩:=x4
  subst ea
  exact hX ρ' k' a s4 q (x2.fresh hn) (ef.mono fun b hb=>x2.fresh hb) x4.w0.leave x4.pen x4.keep
end
end Mine
namespace Mine
open PySem PySem.Calls PyProof.Rows PySem.SeqAt PySem.W
structure FnC (W:Wd) (a:Addr) (fd:FuncData) (body:List Stmt):Prop where
 get:∃ o,W.base.get? a=some o∧o.data=.func fd
 code:W.base.CodeRec fd.code fd.qualname
 lim:W.base.NoLimit
 ok:rL fd body
structure ie (W:Wd) (fd:FuncData) (ps:List Str) (sl:List (Str × Nat)) (na:Nat) (dd:List D):Prop where
 len:na+dd.length=ps.length
 slots:∀ j x,ps[j]? = some x→sl.lookup x=some j∧(fd.scope.names.lookup x=some .local∨fd.scope.names.lookup x=some .cell)
 inj:∀ x y i,sl.lookup x=some i→sl.lookup y=some i→x=y
 bind:∀ (s:Shared) (vs:List Value),W.base.StaysIn s.heap→vs.length=na→∃ dv,VRs W W.base (fun u0=>False) dd dv∧BindsTo s fd ⟨vs,[]⟩ (ps.zip (vs++dv))
noncomputable def ot (Q:D→Nat→Prop) (X:Nat→Prop):Post:=fun f u0 k=>match f with
 | .ret d=>Q d k
 | .next=>Q .nul k
 | .cont=>False
 | .exc=>X k
noncomputable def sU (Q:D→Nat→Prop):Post:=fun f ρ k=>match f with
 | .next=>∃ o,ρ[0]? = some (.own o)∧Q o.toD k
 | _=>False
section
variable {W:Wd} {n k:Nat} {A:Around} {s:Shared} {f:Fn} {fd:FuncData} {body:List Stmt} {ps:List Str} {sl:List (Str × Nat)} {as:List Sl} {dd:List D} {Q:D→Nat→Prop} {X:Nat→Prop} {P Pv:Addr→Prop} {pen:Option Addr} {vs dv:List Value}
theorem cX.length {h:Heap}:∀ {zs vs},cX W h P Pv pen zs vs→zs.length=vs.length:=by
 intro zs
 induction zs with
 | nil=>exact fun e=>by rw [show _=[] from e];rfl
 | cons z zs ih=>exact fun e=>by obtain ⟨_,_,e,_,b⟩:=e;rw [e];exact congrArg Nat.succ (ih b)
theorem mz {c:Cx} {h:Heap} {F:Fp} (hfr:c.fr=true) (hacc:c.acc=none):∀ {ps:List Str} {as vs} {dd:List D} {dv:List Value} (j:Nat),VRs c.W h (c.S F .im) dd dv→(∀ i x,ps[i]? = some x→c.sl.lookup x=some (j+i)∧(c.names.lookup x=some .local∨c.names.lookup x=some .cell))→ps.length=as.length+dd.length→
  cX c.W h (c.S F .im) (c.S F .vw) c.pen as vs→lJ c h F j (ps.zip (vs++dv)) (as++dd.map .im):=by
 intro ps
 induction ps with
 | nil=>
  intro as vs dd dv j _ _ hl r
  obtain ⟨rfl,rfl⟩:as=[]∧dd=[]:=⟨List.length_eq_zero_iff.mp (by simp at hl;lia),List.length_eq_zero_iff.mp (by simp at hl;lia)⟩
  exact .nil
 | cons x ps ih=>
  intro as vs dd dv j b2 hs hl r
  have h0:=hs 0 x rfl
  have st:bL c x j=true:=by
   unfold bL
   rw [hacc,hfr]
   rcases h0.2 with q | q <;> simp [q,h0.1]
  have hs':∀ i y,ps[i]? = some y→c.sl.lookup y=some (j+1+i)∧(c.names.lookup y=some .local∨c.names.lookup y=some .cell):=fun i y q=>by have:=hs (i+1) y q;rwa [show j+(i+1)=j+1+i by lia] at this
  cases as with
  | cons z as=>
   obtain ⟨v,r',rfl,a,b⟩:=r
   refine .cons st ?_ (ih (j+1) b2 hs' (by simp at hl;lia) b)
   cases z with
   | undef=>trivial
   | im d=>exact a
   | vw d=>exact a
   | own o=>exact a.elim
   | pen=>exact a
  | nil=>
   obtain rfl:vs=[]:=r
   cases dd with
   | nil=>simp at hl
   | cons d dd=>
    obtain ⟨v,r',rfl,a,b⟩:=b2
    exact .cons st a (ih (as:=[]) (vs:=[]) (j+1) b hs' (by simpa using hl) rfl)
theorem cX.mono {h h':Heap} {P' Pv':Addr→Prop} (f1:∀ d v,VR W h P d v→VR W h' P' d v) (f2:∀ d v,VR W h Pv d v→VR W h' Pv' d v) {zs vs} (r:cX W h P Pv pen zs vs):cX W h' P' Pv' pen zs vs:=by
 induction zs generalizing vs with
 | nil=>exact r
 | cons z zs ih=>
  obtain ⟨v,r,e,a,b⟩:=r
  refine ⟨v,r,e,?_,ih b⟩
  cases z with
  | im d=>exact f1 d v a
  | vw d=>exact f2 d v a
  | _=>exact a
theorem pG {h h':Heap} {S0:Addr→Prop} {pin:Option Value} {A':Around} {env:Env} {F:Fp} (hS:S0=fun a=>P a∧ak W h a) (up:∀ b o,h.get? b=some o→h'.get? b=some o) (hL:h'.get? env.locals=none) (hF:∀ i a,a∈F i→h.get? a=none) (hp:∀ a,P a∨Pv a→pen≠some a) (base:W.base.StaysIn h) (hpb:∀ a,pen=some a→W.base.get? a=none)
  (r:cX W h P Pv pen as vs) (rd:VRs W W.base (fun u0=>False) dd dv):cX W h' ((gp W n sl fd.scope.names S0 h pen pin A' env).S F .im) ((gp W n sl fd.scope.names S0 h pen pin A' env).S F .vw) pen as vs∧VRs W h' ((gp W n sl fd.scope.names S0 h pen pin A' env).S F .im) dd dv:=by
 have nl:∀ a,ak W h a→a≠env.locals∧∀ i,a∉F i:=fun a lv=>by
  obtain ⟨o,e,_⟩:=lv
  exact ⟨fun q=>(by rw [← q] at hL;exact gno hL (up _ _ e)),fun i q=>by exact gno (hF i a q) e⟩
 refine ⟨r.mono (fun d v r=>r.xl (.all up _) fun a q lv=>⟨⟨.inl (hS▸⟨q,lv⟩),(nl a lv).2⟩,hp a (.inl q),(nl a lv).1⟩) fun d v r=>r.xl (.all up _) fun a q lv=>⟨(nl a lv).2,hp a (.inr q),(nl a lv).1⟩,(rd.grow fun b o e=>up b o (base b o e)).mono fun u0 q=>q.elim⟩
theorem pv {pen:Option Addr} (wok:WOK W) (hfv:fv W f=.ref (W.fa f)) (FC:FnC W (W.fa f) fd body) (B:ie W fd ps sl as.length dd) (m:Nat)
  (h:∀ S0 h0 A' env,TrB (gp W n sl fd.scope.names S0 h0 pen none A' env) (as++dd.map .im++List.replicate m .undef) k body (ot Q X)):∀ A P Pv s vs,i5 (n+1) A→W0 W A s→c9 s.heap pen k→(∀ a,pen=some a→W.base.get? a=none)→(∀ a,P a∨Pv a→pen≠some a)→cX W s.heap P Pv pen as vs→wpAny (model W.prog W.w) A (PySem.call (fv W f) vs) (ui W A pen P s Q) (vR W A pen s X) s:=fun A P Pv s vs hr w0 pn hpb hp r=>by
 obtain ⟨dv,rd,hb⟩:=B.bind s vs w0.base r.length.symm
 obtain ⟨o,eo,hd⟩:=FC.get
 have hl:=B.len
 rw [hfv]
 refine wpAny_call (jx (S0:=fun a=>P a∧ak W s.heap a) (h0:=s.heap) (pin:=none) (F:=fun u0=>[]) (zs:=as++dd.map .im) m wok hr w0 pn hpb (fun u0 q=>q.2) .refl (fun b o e=>⟨o,w0.base b o e⟩) B.inj (w0.base _ _ eo) hd FC.lim FC.ok (FC.code.keeps w0.base) hb (fun u0 u0 q=>nomatch q) (fun u0=>.nil) (fun u0 u0 u0 u0 q=>nomatch q) (fun A' env hL=>?_) (fun A' env=>h _ _ _ _) (fun f ρ' k' F' fv' s' A' env q r' x w=>?_) fun ρ' k' a s' q hn ef w pn st=>⟨a,k',rfl,q,hn,ef,w,pn,st⟩)
 ·have:=pG (n:=n) (sl:=sl) (fd:=fd) (pin:=none) (A':=A') (F:=fun u0=>[]) rfl (fun u0 u0 e=>e) hL (fun u0 u0 q=>nomatch q) hp w0.base hpb r rd
  exact mz rfl rfl 0 this.2 (fun i x e=>by rw [Nat.zero_add];exact B.slots i x e) (by lia) this.1
 ·have fin:∀ {d v},Q d k'→VR W s'.heap (gp W n sl fd.scope.names (fun a=>P a∧ak W s.heap a) s.heap pen none A' env).R d v→ui W A pen P s Q v s':=fun q r=>⟨_,k',q,r.mono fun a z=>⟨z.1.imp And.left id,z.2⟩,w,x.pen,x.keep⟩
  cases f with
  | next=>obtain rfl:fv'=.next:=r';exact fin q rfl
  | cont=>exact q.elim
  | ret d=>obtain ⟨v,rfl,r⟩:=r';exact fin q r
  | exc=>exact r'.elim
theorem b9.yq (wok:WOK W) (hfv:fv W f=.ref (W.fa f)) (FC:FnC W (W.fa f) fd body) (B:ie W fd ps sl as.length dd) (m:Nat)
  (h:∀ S0 h0 pen A' env,TrB (gp W n sl fd.scope.names S0 h0 pen none A' env) (as++dd.map .im++List.replicate m .undef) k body (ot Q X)):b9 W (n+1) f as k Q X:=fun A pen=>pv wok hfv FC B m (fun S0 h0=>h S0 h0 pen) A
structure vh (W:Wd) (c:Cls) (a:Addr):Prop where
 makes:makesIn W.K (W.ca c)=true
 init:findIn W.K (.ref (W.ca c)) "__init__" = some (some (.ref a))
 fn:typeIn W.K (.ref a)=some (.type "function")
theorem b9.yd (wok:WOK W) {cl:Cls} {a:Addr} (hfv:fv W f=.ref (W.ca cl)) (CC:vh W cl a) (FC:FnC W a fd body) (B:ie W fd ps sl (as.length+1) dd) {x0:Str} (hx0:ps[0]? = some x0) (m:Nat)
  (h:∀ S0 h0 pen q A' env,TrB (gp W n sl fd.scope.names S0 h0 pen (some q) A' env) (.own (.node (.ins cl []) [])::(as++dd.map .im)++List.replicate m .undef) k body (sU Q)):b9 W (n+2) f as k Q X:=fun A pen P Pv s vs hr w0 pn hpb hp r=>by
 rw [hfv]
 obtain ⟨hh,gg,dr,tk,os⟩:=s
 have X0:=wok.inb.keeps w0.base
 have hl:=r.length
 refine wpAny_call (make_core (makes_of X0 CC.makes) (looks_findIn X0 CC.init) (fun self=>bind_fn X0 self CC.fn) (.inl rfl) ?_)
 dsimp only at *
 generalize hA1:A.under (.builtin "type.__call__" ⟨.ref (W.ca cl)::vs,[]⟩)=A1
 have d1:A1.depth=A.depth+1:=by rw [← hA1];rfl
 have d2:A1.units=A.units+1:=by rw [← hA1];rfl
 have d3:A1.frames=A.frames:=by rw [← hA1];rfl
 have d4:A1.handled=A.handled:=by rw [← hA1];rfl
 have up:∀ b o,hh.get? b=some o→((hh.push emptyDict).push (instObj (W.ca cl) hh.objs.size)).get? b=some o:=fun b o e=>Heap.get?_push_of_some _ (Heap.get?_push_of_some _ e)
 have gx:((hh.push emptyDict).push (instObj (W.ca cl) hh.objs.size)).get? (hh.objs.size+1)=some (instObj (W.ca cl) hh.objs.size):=by
  have:=Heap.get?_push_size (hh.push emptyDict) (o:=instObj (W.ca cl) hh.objs.size) rfl
  rwa [Heap.size_push] at this
 have gd:((hh.push emptyDict).push (instObj (W.ca cl) hh.objs.size)).get? hh.objs.size=some emptyDict:=Heap.get?_push_of_some _ (Heap.get?_push_size _ rfl)
 have nx:hh.get? (hh.objs.size+1)=none:=Heap.get?_none_of_le (Nat.le_succ _)
 have nd:=fY hh
 have hne:hh.objs.size+1≠hh.objs.size:=Nat.succ_ne_self _
 generalize hh.objs.size+1=x at gx nx hne ⊢
 generalize hh.objs.size=dx at gx gd nd up hne ⊢
 generalize (hh.push emptyDict).push (instObj (W.ca cl) dx)=h2 at up gx gd ⊢
 have w2:∀ {A2:Around} {h3:Heap} {t:Nat},A2.frames=A.frames→A2.handled=A.handled→W0 W A ⟨h3,gg,dr,t,os⟩→W0 W A2 ⟨h3,gg,dr,t,os⟩:=fun e1 e2 w=>⟨w.base,w.gens,w.os,e1▸w.outer,by have:=w.hand;unfold HOK at this ⊢;rw [e2];exact this⟩
 have g:bP ⟨hh,gg,dr,tk,os⟩ ⟨h2,gg,dr,tk,os⟩:=⟨h2,tk,rfl,up⟩
 have w1:=w2 d3 d4 (g.w0 w0)
 obtain ⟨dv,rd,hb⟩:=B.bind ⟨h2,gg,dr,tk,os⟩ (.ref x::vs) w1.base (by rw [List.length_cons,hl])
 obtain ⟨o,eo,hd⟩:=FC.get
 have np:∀ b,hh.get? b=none→pen≠some b:=fun b hb q=>by obtain ⟨_,_,_,_,_,e,_⟩:=pn b q;rw [show hh.get? b=some _ from e] at hb;exact no2 hb
 have own:∀ b∈[x,dx],hh.get? b=none∧ak W h2 b∧pen≠some b:=List.forall_mem_cons.mpr ⟨⟨nx,⟨_,gx,.inr (.inr ⟨cl,rfl⟩),pl_c,pl_f⟩,np _ nx⟩,List.forall_mem_singleton.mpr ⟨nd,⟨_,gd,.inr (.inl rfl),dc_c,dc_f⟩,np _ nd⟩⟩
 have hF:∀ i b,b∈(if i=0 then [x,dx] else [])→b∈[x,dx]:=fun i b q=>by split at q;exact q;cases q
 cases ps with
 | nil=>cases hx0
 | cons z0 ps=>
 cases hx0
 refine jx (S0:=fun a=>P a∧ak W hh a) (h0:=hh) (pen:=pen) (pin:=some (.ref x)) (F:=fun i=>if i=0 then [x,dx] else []) (zs:=.own (.node (.ins cl []) [])::(as++dd.map .im)) (s:=⟨h2,gg,dr,tk,os⟩) m wok ⟨by have:=hr.1;lia,by have:=hr.2;lia⟩ w1 (c9.grow pn up) hpb (fun u0 q=>q.2) (.xp up) (fun b o e=>⟨o,w0.base b o e⟩) B.inj (w1.base _ _ eo) hd FC.lim FC.ok (FC.code.keeps w1.base) hb (fun i b q=>own b (hF i b q)) (fun i=>?_) (fun i j b hij q q'=>?_) (fun A' env hL=>?_) (fun A' env=>h _ _ _ _ _ _) (fun f ρ' k' F' fv' s' A' env q r' y w=>?_) fun ρ' k' a s' q=>q.elim
 ·split
  ·simp [hne]
  ·exact .nil
 ·by_cases e1:i=0
  ·rw [if_neg fun e2=>hij (e1.trans e2.symm)] at q';cases q'
  ·rw [if_neg e1] at q;cases q
 ·have:=pG (n:=n) (sl:=sl) (fd:=fd) (pin:=some (.ref x)) (A':=A') (F:=fun i=>if i=0 then [x,dx] else []) rfl up hL (fun i b q=>(own b (hF i b q)).1) hp w0.base hpb r rd
  have hlen:=B.len
  have s0:=B.slots 0 _ rfl
  refine .cons ?_ ⟨⟨x,[],[x,dx],[],rfl,⟨dx,[],0,#[],rfl,gx,gd,.nil,.nil⟩,⟨rfl,rfl⟩,rfl⟩,fun q e u0=>by have z0:=Option.some.inj e;try subst z0;rfl⟩ (mz rfl rfl 1 this.2 (fun i x e=>by rw [Nat.add_comm];exact B.slots (i+1) x e) (by simp at hlen;lia) this.1)
  unfold bL
  rcases s0.2 with q | q <;> simp [q,s0.1]
 ·cases f with
  | next=>
   obtain rfl:fv'=.next:=r'
   obtain ⟨o,ho,q⟩:=q
   have sl0:=y.vals x0 0 (B.slots 0 _ rfl).1
   rw [ho] at sl0
   obtain ⟨v,_,rv,hpin⟩:=sl0
   obtain rfl:=hpin _ rfl rfl
   have w':W0 W A s':=⟨w.base,w.gens,w.os,d3▸w.outer,by have:=w.hand;unfold HOK at this ⊢;rw [← d4];exact this⟩
   exact ⟨rfl,_,k',q,rv.view (P':=fun a=>(P a∨hh.get? a=none)∧pen≠some a) (fun a z=>⟨z.1.1.imp And.left id,z.2.1⟩) fun a ha=>⟨.inr (y.own 0 a ha).1,(y.own 0 a ha).2.2.1⟩,w',y.pen,y.keep⟩
  | cont=>exact q.elim
  | ret d=>exact q.elim
  | exc=>exact r'.elim
end
end Mine
namespace Mine
open PySem PySem.Calls PyProof.Rows PySem.SeqAt PySem.W
section
variable {M:Model} {A:Around} {E:Value→Shared→Prop} {h:Heap} {g:Array GenState} {d:Drawn} {t:Nat} {os:OsState}
variable {nm q:Str} {C N:Addr} {bs bm:List Value} {hdct:Bool} {sn:List Str} {sub:List Value} {ab:Bool} {col:Option Bool} {dd:Option Addr} {k0 k1 k2 k3 k5:Option Value} {Bn newId inN:String} {bmN:List Value}
theorem kE (Fn:ExcBaseFacts Bn newId inN bmN) (hBn:bm.contains (.type Bn)=true) {rest:List Value} {Q:Unit→Shared→Prop} (hC:h.get? C=some (excClassObj nm q C N bs bm hdct sn sub ab col dd k0 k1 k2 k3 k5 newId))
  (hq:Q () ⟨h,g,d,t,os⟩):wpAny M A (checkBuiltinCall newId ⟨.ref C::rest,[]⟩) Q E ⟨h,g,d,t,os⟩:=by
 have hcont:(Value.ref C::bm).contains (.type Bn)=true:=by rw [List.contains_cons,hBn,Bool.or_true]
 have hstar:=Fn.noStar
 unfold checkBuiltinCall
 rw [Fn.newKind,Fn.newSplit,Fn.newRow]
 repeat (first | refine wpAny_loadPart_at hC ?_ | (refine wpAny_isSubtype_exc hC ?_;rw [hcont]) | refine wpAny_staticBase_exc hC ?_ | refine wpAny_madeBy_exc hC ?_ | wp_step | simp only [bne_self_eq_false,Bool.false_eq_true,if_false])
 exact hq
end
section
variable {prog:Program} {w:World} {A:Around} {R:Result→Shared→Prop} {E:Value→Shared→Prop} {h:Heap} {g:Array GenState} {d:Drawn} {t:Nat} {os:OsState}
variable {nm q:Str} {C N:Addr} {bs bm:List Value} {hdct:Bool} {sn:List Str} {sub:List Value} {ab:Bool} {col:Option Bool} {dd:Option Addr} {k0 k1 k2 k3 k5:Option Value} {Bn newId inN:String} {bmN:List Value}
noncomputable abbrev br (C t:Addr):Obj:={ cls:=.ref C,data:=.fields #[.ref t,.none,.none,.none,.bool false,.none] }
theorem uk (Fn:ExcBaseFacts Bn newId inN bmN) (hBn:bm.contains (.type Bn)=true) (hAt:bm.contains (.type "AttributeError")=false) (hNa:bm.contains (.type "NameError")=false) {rest:List Value} (hC:h.get? C=some (excClassObj nm q C N bs bm hdct sn sub ab col dd k0 k1 k2 k3 k5 newId))
  (hq:R (.ok (.ret (.ref (h.objs.size+1)))) ⟨(h.push { cls:=.type "tuple",data:=.seq rest.toArray }).push (br C h.objs.size),g,d,t,os⟩) (hrest:rest.length≤sizeLine:=by size_fits) :
  codeAny (model prog w) A (.builtin newId ⟨.ref C::rest,[]⟩) R ⟨h,g,d,t,os⟩:=by
 have hends:=Fn.ends
 have hcB:(Value.ref C::bm).contains (.type Bn)=true:=by rw [List.contains_cons,hBn,Bool.or_true]
 have hcA:(Value.ref C::bm).contains (.type "AttributeError")=false:=by rw [List.contains_cons,hAt];rfl
 have hcN:(Value.ref C::bm).contains (.type "NameError")=false:=by rw [List.contains_cons,hNa];rfl
 refine codeAny_builtinAt Fn.entry ?_
 unfold Builtin.«BaseException.__new__»
 refine PySem.wpAt_bind ?_
 show PySem.wpAt _ _ _ (stack >>= _) _ _ _
 refine PySem.wpAt_bind (PySem.wpAt_stack fun p below=>PySem.wpAt_of_wpAny ?_)
 wp_walk
 refine PySem.wpAt_of_wpAny ?_
 rw [Fn.owner]
 repeat (first | with_reducible refine wpAny_madeHere_exc Fn.canon hC ?_ | with_reducible refine wpAny_loadPart_at hC ?_ | (with_reducible refine wpAny_isSubtype_exc hC ?_;first | rw [hcB] | rw [hcA] | rw [hcN]) | wp_step)
 show R _ _
 rw [Heap.size_push]
 exact hq
theorem ku {K:Frag} (X:K.In h) (Fn:ExcBaseFacts Bn newId inN bmN) (hBn:bm.contains (.type Bn)=true) (hAt:bm.contains (.type "AttributeError")=false) (hNa:bm.contains (.type "NameError")=false) {rest:List Value} {fI:Addr} {Q:Fin→Shared→Prop}
  (hC:h.get? C=some (excClassObj nm q C N bs bm hdct sn sub ab col dd k0 k1 k2 k3 k5 newId)) (hi:findIn K (.ref C) "__init__" = some (some (.ref fI))) (hf:typeIn K (.ref fI)=some (.type "function"))
  (hq:codeAny (model prog w) A (.call (.ref fI) ⟨.ref (h.objs.size+1)::rest,[]⟩) (InitBack (h.objs.size+1) fun r s'=>match r with | .ok (.ret v)=>Q (.done (.ret v)) s' | .ok _=>False | .error e=>E e s') ⟨(h.push { cls:=.type "tuple",data:=.seq rest.toArray }).push (br C h.objs.size),g,d,t,os⟩)
  (hrest:rest.length≤sizeLine:=by size_fits) :
  wpAny (model prog w) A (Builtin.«type.__call__» ⟨.ref C::rest,[]⟩) Q E ⟨h,g,d,t,os⟩:=by
 repeat (first | with_reducible refine wpAny_loadPart_at hC ?_ | with_reducible refine wpAny_madeBy_exc hC ?_ | wp_step)
 refine codeAny_call_builtin_code (Code.quiet_builtin _ Fn.quiet) (kE Fn hBn hC ?_)
 refine uk Fn hBn hAt hNa hC ?_ hrest
 show wpAny _ _ _ _ _ _
 have k:∀ b o,h.get? b=some o→((h.push { cls:=.type "tuple",data:=.seq rest.toArray }).push (br C h.objs.size)).get? b=some o:=fun b o e=>Heap.get?_push_of_some _ (Heap.get?_push_of_some _ e)
 have hC₁:=k _ _ hC
 have X₁:=X.keeps k
 have hget:((h.push { cls:=.type "tuple",data:=.seq rest.toArray }).push (br C h.objs.size)).get? (h.objs.size+1)=some (br C h.objs.size):=by heap_get
 have hcC:(Value.ref C::bm).contains (.ref C)=true:=by simp
 unfold isInstance
 repeat (first | with_reducible refine wpAny_loadPart_at hget ?_ | (with_reducible refine wpAny_isSubtype_exc hC₁ ?_;rw [hcC]) | wp_step)
 show wpAny _ _ (typeLookup (.ref C) _) _ _ _
 refine (looks_findIn X₁ hi).here ?_
 refine wpAny_holding (wpAny_bind ((bind_fn X₁ _ hf).here ?_))
 refine wpAny_bind (wpAny_call (codeAny_mono hq fun r s' z=>?_))
 rcases r with e | (v | _ | _ | _) <;> first | exact z | exact z.elim | skip
 obtain ⟨rfl,z⟩:=z
 exact wpAny_pure (wpAny_pure z)
theorem l4 {K:Frag} (X:K.In h) (Fn:ExcBaseFacts Bn newId inN bmN) (hBn:bm.contains (.type Bn)=true) (hAt:bm.contains (.type "AttributeError")=false) (hNa:bm.contains (.type "NameError")=false) {rest:List Value} {fI:Addr} {Q:Value→Shared→Prop}
  (hC:h.get? C=some (excClassObj nm q C N bs bm hdct sn sub ab col dd k0 k1 k2 k3 k5 newId)) (hi:findIn K (.ref C) "__init__" = some (some (.ref fI))) (hf:typeIn K (.ref fI)=some (.type "function"))
  (hq:codeAny (model prog w) (A.under (.builtin "type.__call__" ⟨.ref C::rest,[]⟩)) (.call (.ref fI) ⟨.ref (h.objs.size+1)::rest,[]⟩) (InitBack (h.objs.size+1) fun r s'=>match r with | .ok (.ret v)=>Q v s' | .ok _=>False | .error e=>E e s') ⟨(h.push { cls:=.type "tuple",data:=.seq rest.toArray }).push (br C h.objs.size),g,d,t,os⟩)
  (hrest:rest.length≤sizeLine:=by size_fits):wpAny (model prog w) A (PySem.call (.ref C) rest) Q E ⟨h,g,d,t,os⟩:=by
 have f1:=tc_lookup
 have f2:=tc_bind (.ref C)
 have hT:(⟨h,g,d,t,os⟩:Shared).TypeIs (.ref C) "type":=⟨_,hC,rfl⟩
 refine wpAny_call (codeAny_of_tree ?_)
 show wpAny _ _ (callAny (.ref C) _) _ _ _
 repeat (any_goals (first | assumption | with_reducible refine wpAny_loadPart_at hC ?_ | wp_step))
 refine ⟨rfl,?_⟩
 refine codeAny_call_builtin_at (Code.quiet_builtin _ (by decide +kernel)) entry_typeCall (wpAny_check_type_call_sub hC (ku X Fn hBn hAt hNa hC hi hf (codeAny_mono hq fun r s' z=>?_) hrest))
 rcases r with e | (v | _ | _ | _) <;> exact z
end
open Builtin Builtin.ObjectAttr
inductive ExcO (K:Frag) (C T:Addr):Prop
 | mk (nm q:Str) (N:Addr) (bs:List Value) (sn:List Str) (sub:List Value) (ab:Bool) (col:Option Bool) (dd:Option Addr) (k0 k1 k2 k3 k5:Option Value) (e:K.lookup C=some (excClassObj nm q C N bs [.ref T,.type "Exception",.type "BaseException",.type "object"] true sn sub ab col dd k0 k1 k2 k3 k5 "Exception.__new__"))
structure lW (K:Frag) (C T fI:Addr):Prop where
 obj:ExcO K C T
 init:findIn K (.ref C) "__init__" = some (some (.ref fI))
 fn:typeIn K (.ref fI)=some (.type "function")
 sa:findIn K (.ref C) "__setattr__" = some (some (.builtin "object.__setattr__"))
 a1:findIn K (.ref C) "what" = some none
 a2:findIn K (.ref C) "at" = some none
 keep:keepIn K (.ref C)=true
 top:subIn K (.ref C) (.type "object")=some true
 isx:subIn K (.ref C) (.type "Exception")=some true
noncomputable abbrev iz (t:Addr):Data:=.fields #[.ref t,.none,.none,.none,.bool false,.none]
section
variable {prog:Program} {w:World} {A:Around} {R:Result→Shared→Prop} {E:Value→Shared→Prop} {h:Heap} {g:Array GenState} {d:Drawn} {t:Nat} {os:OsState} {K:Frag} {C T fI e t0:Addr} {sl:Array (Option Value)} {name:Str} {v:Value}
theorem oQ {od:Option Addr} {odo:Option Obj} {tk:Tok} (X:K.In h) (EK:lW K C T fI) (I:InstAt h e ⟨.ref C,od,iz t0,sl⟩ C odo) (ht:findIn K (.ref C) name=some none)
  (hq:wpAny (model prog w) A.in1 (storeInOwnDict (.ref e) (.ref C) (.str name tk) name v false) (fun fin s'=>match fin with | .done f=>R (.ok f) s' | .again c'=>c'.quiet=true∧codeAny (model prog w) A c' R s') (fun e s'=>R (.error e) s') ⟨h,g,d,t,os⟩) :
  codeAny (model prog w) A (.call (.builtin "object.__setattr__") ⟨[.ref e,.str name tk,v],[]⟩) R ⟨h,g,d,t,os⟩:=by
 have SF:=PySem.F.store_Exception
 obtain ⟨nm,q,N,bs,sn,sub,ab,col,dd,k0,k1,k2,k3,k5,hC⟩:=EK.obj
 have hcl:clsIn K C=some { name:=nm,bases:=bs,mro:=.ref C::[.ref T,.type "Exception",.type "BaseException",.type "object"],ns:=N,qualname:=q,hasDict:=true,slotNames:=sn,subclasses:=sub,abstract:=ab,collection:=col,hasDel:=false }:=by unfold clsIn;rw [hC]
 have hm:Looks (model prog w) h (mroOf (.ref C)) (.ref C::[.ref T,.type "Exception",.type "BaseException",.type "object"]):=(looks_clsIn X hcl).andThen .now
 refine codeAny_call_builtin SF.slot.plain SF.entry (@check_slot (model prog w) _ _ ⟨h,g,d,t,os⟩ "object.__setattr__" "object" "__setattr__" (.ref e) [.str name tk,v] [] _ SF.kind SF.split (I.type.andThen (looks_subIn X EK.top)) (SF.args (.ref e) (.str name tk) v) ?_)
 rw [osa_eq,refuse_eq]
 refine wpAny_bind (wpAny_bind (I.type.here (wpAny_bind (hm.here ?_))))
 rw [refuseLoop_ref,refuseLoop_ref,SF.passes]
 have L3:Looks (model prog w) h (storeTaker? none) none:=.now
 refine wpAny_pure (wpAny_bind (I.type.here (wpAny_bind ((looks_findIn X ht).here (wpAny_bind (L3.here ?_))))))
 exact hq
set_option tactic.hygienic true in
theorem jJ {M:Model} {dx:Addr} {es:List DictEntry} {n:Nat} {tk:Tok} {Q:Fin→Shared→Prop} (hl:(getL name es).isSome=true) (hz:es.length < sizeLine) (hD:h.get? dx=some (dictOf es n))
  (hq:∀ h' hsh tk n',Heap.SameBut dx h h'→h'.get? dx=some (dictOf (putL name hsh (.str name tk) v es) n')→Q (.done (.ret .none)) ⟨h',g,d,t+1,os⟩):wpAny M A (storeInDict dx (.str name tk) name v) Q E ⟨h,g,d,t,os⟩:=by
 unfold storeInDict newKeyGuard
 refine wpAny_bind (wpAny_pure (wpAny_bind ?_))
 unfold nsSet
 refine wpAny_bind (wpAny_bind (wpAny_askSetting (wpAny_pure (wpAny_bind (wpAny_mkText (wpAny_bind (wpAny_loadPart hD ?_)))))))
 dsimp only
 have c:(!es.any (·.key.isStr name) && es.any (·.refKey))=false:=by
  unfold getL at hl
  split at hl
  ·rename_i en he
   rw [List.any_eq_true.mpr ⟨en,List.mem_of_find?_eq_some he,List.find?_some he⟩];rfl
  ·split at hl
   ·cases hl
   ·rename_i z;rw [Bool.not_eq_true] at z;rw [z,Bool.and_false]
 have c':(!es.toArray.any (·.key.isStr name) && es.toArray.any (·.refKey))=false:=by simpa using c
 rw [aRefKeyMayBeTheName_at,c']
 refine wpAny_updatePart hD ?_
 have up:∀ hsh,(h.update dx (Obj.putName name hsh (.str name t) v)).get? dx=some (dictOf (putL name hsh (.str name t) v es) (putN name es n)):=fun hsh=>by
  rw [Heap.get?_update_self _ hD (by rw [putName_dict];rfl),putName_dict]
 refine wpAny_bind (wpAny_lookBehind (up _) (pastItsLine_dict (by rw [List.size_toArray];exact Nat.le_trans (mK es) (Nat.le_succ_of_le hz))) ?_)
 exact wpAny_pure (hq _ _ _ _ (Heap.SameBut.update ..) (up _))
theorem sJ {Q:Unit→Shared→Prop} (X:K.In h) (EK:lW K C T fI) (he:h.get? e=some ⟨.ref C,none,iz t0,sl⟩) (ht:findIn K (.ref C) name=some none)
  (hq:∀ h' tk dx en m,h.get? dx=none→(∀ b o,b≠e→h.get? b=some o→h'.get? b=some o)→h'.get? e=some ⟨.ref C,some dx,iz t0,sl⟩→h'.get? dx=some ⟨.type "dict",none,.dict #[en] m,#[]⟩→(∃ k,en.key=.str name k)→Q () ⟨h',g,d,tk,os⟩) :
  wpAny (model prog w) A (setAttr (.ref e) name v) Q E ⟨h,g,d,t,os⟩:=by
 have I:InstAt h e ⟨.ref C,none,iz t0,sl⟩ C none:=⟨he,rfl,rfl,trivial⟩
 refine set_plain X I EK.sa (oQ (t:=t+1) X EK I ht ?_)
 obtain ⟨nm,q,N,bs,sn,sub,ab,col,dd,k0,k1,k2,k3,k5,hC⟩:=EK.obj
 have hcl:clsIn K C=some { name:=nm,bases:=bs,mro:=.ref C::[.ref T,.type "Exception",.type "BaseException",.type "object"],ns:=N,qualname:=q,hasDict:=true,slotNames:=sn,subclasses:=sub,abstract:=ab,collection:=col,hasDel:=false }:=by unfold clsIn;rw [hC]
 have he1:(h.push { cls:=.type "dict",data:=.dict #[] }).get? e=some ⟨.ref C,none,iz t0,sl⟩:=Heap.get?_push_of_some _ he
 have hne:e≠h.objs.size:=Nat.ne_of_lt (Heap.lt_size he)
 have gd:((h.push { cls:=.type "dict",data:=.dict #[] }).update e fun o=>{ o with dict:=some h.objs.size }).get? h.objs.size=some (dictOf [] 0):=(Heap.get?_update_other _ _ hne).trans (Heap.get?_push_size _ rfl)
 have ge:((h.push { cls:=.type "dict",data:=.dict #[] }).update e fun o=>{ o with dict:=some h.objs.size }).get? e=some ⟨.ref C,some h.objs.size,iz t0,sl⟩:=Heap.get?_update_self _ he1 rfl
 have go:∀ b o,b≠e→h.get? b=some o→((h.push { cls:=.type "dict",data:=.dict #[] }).update e fun o=>{ o with dict:=some h.objs.size }).get? b=some o:=fun b o hb eb=>(Heap.get?_update_other _ _ (Ne.symm hb)).trans (Heap.get?_push_of_some _ eb)
 refine wpAny_bind (wpAny_pure (wpAny_bind (wpAny_bind (wpAny_loadPart he (wpAny_bind ((looks_clsIn X hcl).here ?_))))))
 dsimp only
 refine wpAny_bind (wpAny_alloc (wpAny_bind (wpAny_update he1 ?_)))
 generalize (h.push { cls:=.type "dict",data:=.dict #[] }).update e (fun o=>{ o with dict:=some h.objs.size })=h2 at gd ge go ⊢
 have nd:h.get? h.objs.size=none:=fY _
 show wpAny _ _ (pure (some h.objs.size)) _ _ _
 refine wpAny_pure (jJ (by rfl) (by rw [sizeLine_eq];decide) gd fun h' hsh tk n' hs e'=>?_)
 exact hq h' _ h.objs.size _ _ nd (fun b o hb eb=>(hs.2 b (Nat.ne_of_lt (Heap.lt_size eb))).trans (go b o hb eb)) ((hs.2 e hne).trans ge) e' ⟨_,rfl⟩
theorem sF {dx:Addr} {en:DictEntry} {m:Nat} {n0:Str} {Q:Unit→Shared→Prop} (X:K.In h) (EK:lW K C T fI) (he:h.get? e=some ⟨.ref C,some dx,iz t0,sl⟩) (hD:h.get? dx=some ⟨.type "dict",none,.dict #[en] m,#[]⟩) (hen:∃ k,en.key=.str n0 k) (ht:findIn K (.ref C) name=some none)
  (hq:∀ h' tk,(∀ b o,b≠dx→h.get? b=some o→h'.get? b=some o)→Q () ⟨h',g,d,tk,os⟩) :
  wpAny (model prog w) A (setAttr (.ref e) name v) Q E ⟨h,g,d,t,os⟩:=by
 have I:InstAt h e ⟨.ref C,some dx,iz t0,sl⟩ C (some (dictOf [en] m)):=⟨he,rfl,rfl,hD⟩
 refine set_plain X I EK.sa (oQ (t:=t+1) X EK I ht ?_)
 obtain ⟨nm,q,N,bs,sn,sub,ab,col,dd,k0,k1,k2,k3,k5,hC⟩:=EK.obj
 have hcl:clsIn K C=some { name:=nm,bases:=bs,mro:=.ref C::[.ref T,.type "Exception",.type "BaseException",.type "object"],ns:=N,qualname:=q,hasDict:=true,slotNames:=sn,subclasses:=sub,abstract:=ab,collection:=col,hasDel:=false }:=by unfold clsIn;rw [hC]
 refine wpAny_bind (wpAny_pure (wpAny_bind (wpAny_bind (wpAny_loadPart he (wpAny_bind ((looks_clsIn X hcl).here ?_))))))
 dsimp only
 refine wpAny_pure (a:=some dx) (jJ (es:=[en]) ?_ (by rw [sizeLine_eq,List.length_singleton];decide) hD fun h' hsh tk n' hs e'=>hq h' _ fun b o hb eb=>(hs.2 b hb).trans eb)
 obtain ⟨k,hk⟩:=hen
 unfold getL
 split
 ·rfl
 ·have:DictEntry.refKey en=false:=by unfold DictEntry.refKey;rw [hk]
  simp [this]
end
section
variable {prog:Program} {w:World} {A:Around} {R:Result→Shared→Prop} {E:Value→Shared→Prop} {h:Heap} {g:Array GenState} {d:Drawn} {t:Nat} {os:OsState} {K:Frag} {C T fI e t0:Addr} {sl:Array (Option Value)} {name:Str} {v:Value}
theorem jN {M:Model} {oe:Obj} {rest:List Value} {Q:Unit→Shared→Prop} (X:K.In h) (EK:lW K C T fI) (he:h.get? e=some oe) (hcls:oe.cls=.ref C) (hq:Q () ⟨h,g,d,t,os⟩) :
  wpAny M A (checkBuiltinCall "Exception.__init__" ⟨.ref e::rest,[]⟩) Q E ⟨h,g,d,t,os⟩:=by
 have F:=PySem.F.excBase_Exception
 obtain ⟨nm,q,N,bs,sn,sub,ab,col,dd,k0,k1,k2,k3,k5,hC⟩:=EK.obj
 have hC:=X _ _ hC
 have hcB:(Value.ref C::[Value.ref T,.type "Exception",.type "BaseException",.type "object"]).contains (.type "Exception")=true:=by simp
 have hshort:=F.noStar
 unfold checkBuiltinCall
 rw [F.initKind,F.initSplit,F.initRow]
 repeat (first | (with_reducible refine wpAny_loadPart_at he ?_;rw [hcls]) | with_reducible refine wpAny_loadPart_at hC ?_ | (with_reducible refine wpAny_isSubtype_exc hC ?_;rw [hcB]) | wp_step)
 refine wpAny_onRaise ?_
 rw [show ∀ (a b:String) (n:Nat),Bind.check ⟨.positional,"*","Exception",.self,[⟨"args",.varPos,false⟩]⟩ a b n (List.map (fun x=>x.fst) ({ pos:=Value.ref e::rest }:Args).kw)=pure () from fun a b n=>check_star_args _ _ _ _ _ _]
 exact wpAny_pure hq
theorem si {od:Option Addr} {Q:Value→Shared→Prop} (X:K.In h) (EK:lW K C T fI) (he:h.get? e=some ⟨.ref C,od,iz t0,sl⟩)
  (hq:∀ h' t1,(∀ b o,b≠e→h.get? b=some o→h'.get? b=some o)→h'.get? e=some ⟨.ref C,od,iz t1,sl⟩→Q .none ⟨h',g,d,t,os⟩) :
  wpAny (model prog w) A (PySem.call (.builtin "Exception.__init__") [.ref e,v]) Q E ⟨h,g,d,t,os⟩:=by
 have F:=PySem.F.excBase_Exception
 refine wpAny_call (codeAny_call_builtin F.init.plain F.initEntry (jN X EK he rfl ?_))
 unfold Builtin.«BaseException.__init__»
 wp_walk
 refine hq _ h.objs.size (fun b o hb eb=>(Heap.get?_update_other _ _ (Ne.symm hb)).trans (Heap.get?_push_of_some _ eb)) ?_
 rw [Heap.get?_update_self _ (Heap.get?_push_of_some _ he) rfl]
 rfl
theorem nH {s:Shared} {X':String} {name:Str} {v:Value} {pl:Sem Bool} {Q:Value × List Value→Shared→Prop} (X:K.In s.heap) (ht:typeOf (.type X')=pure (.type "type")) (hs:Manifest.isStub X'=false)
  (e:findCls K (.type X') (.type "type") name=some (.val v)) (hh:handedIn v=true) (hq:Q (v,[]) { s with toks:=s.toks+1 }):wpAny (model prog w) A (getMethod (.type X') name pl) Q E s:=by
 have LO:Looks (model prog w) s.heap (opaqueClassAbove (.type X')) none:=Looks.of_pure (by unfold opaqueClassAbove;dsimp only;rw [hs];rfl)
 have L0:Looks (model prog w) s.heap (typeOf (.type X')) (.type "type"):=Looks.of_pure ht
 have hg:findIn K (.type "type") "__getattribute__" = some (some (.builtin "type.__getattribute__")):=type_tga
 unfold getMethod specialOf
 refine wpAny_bind (wpAny_bind (L0.here ((looks_findIn X hg).here ?_)))
 dsimp only
 rw [if_pos canon_tga]
 refine wpAny_bind (wpAny_mono (Q:=fun v=>Q (v,[])) (E:=E) (cls_open X LO L0 hg (looks_hook X (r:=none) (by rfl)) (by show subIn K _ _=_;rfl) e ?_) (fun u0 u0 z=>wpAny_pure z) fun u0 u0 z=>z)
 exact wpAny_pure (handed_on hh hq)
inductive km:List Stmt→Prop
 | mk {p1 p2 p3 p4 p5 p6 q1 q2 q3 q4 r1 r2 r3 r4}:(p2.endLine == p5.line)=true→km [.Expr (.Call (.Attribute (.Name "Exception" p1) "__init__" p2) [.Name "self" p3,.Name "what" p4] [] p5) p6,
   .Assign [.Attribute (.Name "self" q1) "what" q2] (.Name "what" q3) q4,.Assign [.Attribute (.Name "self" r1) "at" r2] (.Name "at" r3) r4]
theorem pd {h h':Heap} {L x:Addr} {m:Str→Option Value} (n:h.Ns L m) (hL:L≠x) (k:∀ b o,b≠x→h.get? b=some o→h'.get? b=some o):h'.Ns L m:=by
 obtain ⟨o,es,ep,e,r⟩:=n
 exact ⟨o,es,ep,k L o hL e,r⟩
set_option tactic.hygienic true in
theorem lE {s:Shared} {fd:FuncData} {o:Obj} {body:List Stmt} {mg mb:Str→Option Value} (X:K.In s.heap) (EK:lW K C T fI) (hroom:A.depth < recursionLimit) (ho:s.heap.get? fI=some o) (hd:o.data=.func fd) (lim:s.heap.NoLimit) (hcd:s.heap.CodeRec fd.code fd.qualname)
  (hbody:fd.body=.stmts body) (hT:km body) (hbind:BindsTo s fd ⟨[.ref e,v],[]⟩ [("self",.ref e),("what",v),("at",.none)]) (hcell:∀ x∈fd.scope.names,x.2≠.cell)
  (h1:fd.scope.names.lookup ("self" : Str)=some .local) (h2:fd.scope.names.lookup ("what" : Str)=some .local) (h3:fd.scope.names.lookup ("at" : Str)=some .local) (h4:fd.scope.names.lookup ("Exception" : Str)=some .globalImplicit)
  (hgl:fd.globals=mainGlobals) (hbu:fd.builtins=builtinsNs) (hg:s.heap.Ns mainGlobals mg) (hb:s.heap.Ns builtinsNs mb) (hKe:∀ b o,K.lookup b=some o→b≠e) (hge:mg "Exception" = none) (hbe:mb "Exception" = some (.type "Exception"))
  (hco:fd.scope.isCoroutine=false) (hgen:fd.scope.isGenerator=false) (hk:fd.scope.kind=.function) (he:s.heap.get? e=some ⟨.ref C,none,iz t0,sl⟩) (hfc:findCls K (.type "Exception") (.type "type") "__init__" = some (.val (.builtin "Exception.__init__")))
  (hq:∀ h' tk,(∀ b o,b≠e→s.heap.get? b=some o→h'.get? b=some o)→(∃ od t1,h'.get? e=some ⟨.ref C,od,iz t1,sl⟩)→R (.ok (.ret .none)) { s with heap:=h',toks:=tk }) :
  codeAny (model prog w) A (.call (.ref fI) ⟨[.ref e,v],[]⟩) R s:=by
 obtain ⟨hp,g,d,t,os⟩:=s
 dsimp only at *
 refine codeAny_call_def hroom ho hd lim hcd hbody hbind hcell (fun x hx=>?_) (fun ha hns hka=>?_) hco hgen hk
 ·simp only [List.mem_cons,List.not_mem_nil,or_false] at hx
  rcases hx with rfl | rfl | rfl
  ·exact h1
  ·exact h2
  ·exact h3
 dsimp only at hns hka ⊢
 generalize hL:hp.objs.size=L at hns ⊢
 have hLe:L≠e:=by rw [← hL];exact (Nat.ne_of_lt (Heap.lt_size he)).symm
 have m1:(fun x=>([("self",Value.ref e),("what",v),("at",Value.none)]:List (Str × Value)).reverse.lookup x) "self" = some (.ref e):=by rfl
 have m2:(fun x=>([("self",Value.ref e),("what",v),("at",Value.none)]:List (Str × Value)).reverse.lookup x) "what" = some v:=by rfl
 have m3:(fun x=>([("self",Value.ref e),("what",v),("at",Value.none)]:List (Str × Value)).reverse.lookup x) "at" = some .none:=by rfl
 generalize (fun x=>([("self",Value.ref e),("what",v),("at",Value.none)]:List (Str × Value)).reverse.lookup x)=m at hns m1 m2 m3
 generalize hen:callEnv fd L fI=env
 have ek:env.scope.kind=.function:=by rw [← hen];exact hk
 have el:env.locals=L:=by rw [← hen];rfl
 have k1:env.kindOf "self" = some .local:=by rw [← hen];exact h1
 have k2:env.kindOf "what" = some .local:=by rw [← hen];exact h2
 have k3:env.kindOf "at" = some .local:=by rw [← hen];exact h3
 have k4:env.kindOf "Exception" = some .globalImplicit:=by rw [← hen];exact h4
 have eg:env.globals=mainGlobals:=by rw [← hen];exact hgl
 have eb:env.builtins=builtinsNs:=by rw [← hen];exact hbu
 have ei:interactive env=false:=by unfold interactive;rw [ek];rfl
 cases hT with
 | mk hline=>
 rename_i p1 p2 p3 p4 p5 p6 q1 q2 q3 q4 r1 r2 r3 r4
 have X1:=X.keeps hka
 have nm:∀ {x:Str} {vv:Value} {pos:Pos} {hh:Heap} {tk:Nat} {Q:Value→Shared→Prop} {E':Value→Shared→Prop} {A':Around},env.kindOf x=some .local→m x=some vv→hh.Ns L m→(x == ("__debug__" : Str))=false→Q vv ⟨hh,g,d,tk,os⟩→wpAny (model prog w) A' (eval (.Name x pos) env) Q E' ⟨hh,g,d,tk,os⟩:=fun hk1 hv hn hdb h=>wpAny_Name (wpAny_loadName_local ek hk1 (by rw [el];exact hn) hv h) hdb
 have ex:∀ (e:Stmt) (es:List Stmt),execs (e::es) env=(exec e env >>= fun f=>match f with | PySem.Flow.next=>execs es env | f=>pure f):=fun u0 u0=>rfl
 rw [ex]
 refine wpAny_bind (wpAny_Expr (bA rfl rfl (by simp) hline ?_) ei (bD rfl))
 refine Name_function_global ek k4 (loadGlobal_builtin (env:=env) (by rw [eg];exact hg.keeps hka) hge (by rw [eb];exact hb.keeps hka) hbe ?_) (by decide)
 refine nH X1 (by rfl) (by decide +kernel) hfc rfl ?_
 refine callWith_method1 (args_cons (nm k1 m1 hns (by decide) (args_cons (nm k2 m2 hns (by decide) (args_nil ?_)) (ag rfl))) (ag rfl)) (ag rfl) rfl
 refine si (v:=v) X1 EK (hka _ _ he) fun hc t1 hkc hec=>?_
 dsimp only
 rw [ex]
 have X2:K.In hc:=fun b o eb=>hkc b o (hKe b o eb) (X1 b o eb)
 have n2:=pd hns hLe hkc
 refine wpAny_bind (plainObj_wpAny_Assign_Attribute (nm k2 m2 n2 (by decide) (nm k1 m1 n2 (by decide) ?_)) rfl)
 refine sJ X2 EK hec EK.a1 fun hd tk2 dx en m4 hdx hkd hed hdd hen=>?_
 dsimp only
 rw [ex]
 have X3:K.In hd:=fun b o eb=>hkd b o (hKe b o eb) (X2 b o eb)
 have n3:=pd n2 hLe hkd
 have hLdx:L≠dx:=by
  rintro rfl
  obtain ⟨o,es,ep,e',_⟩:=n2
  exact gno hdx e'
 refine wpAny_bind (plainObj_wpAny_Assign_Attribute (nm k3 m3 n3 (by decide) (nm k1 m1 n3 (by decide) ?_)) rfl)
 refine sF X3 EK hed hdd hen EK.a2 fun hf tk3 hkf=>?_
 dsimp only
 show wpAny _ _ (pure PySem.Flow.next) _ _ _
 have hedx:e≠dx:=by
  rintro rfl
  exact gno hdx hec
 refine wpAny_pure (hq hf tk3 (fun b o hb eb=>?_) ⟨some dx,t1,hkf e _ hedx hed⟩)
 have e1:=hkc b o hb (hka b o eb)
 refine hkf b o ?_ (hkd b o hb e1)
 rintro rfl
 exact gno hdx e1
end
end Mine
namespace Mine
open PySem PySem.Calls PyProof.Rows PySem.SeqAt PySem.W
inductive ExcF (W:Wd) (fI:Addr):Prop
 | mk (o:Obj) (fd:FuncData) (body:List Stmt) (e1:W.base.get? fI=some o) (e2:o.data=.func fd) (e3:W.base.CodeRec fd.code fd.qualname) (e4:fd.body=.stmts body) (e5:km body) (e6:∀ x∈fd.scope.names,x.2≠.cell)
  (e7:fd.scope.names.lookup ("self" : Str)=some .local) (e8:fd.scope.names.lookup ("what" : Str)=some .local) (e9:fd.scope.names.lookup ("at" : Str)=some .local) (e10:fd.scope.names.lookup ("Exception" : Str)=some .globalImplicit)
  (e11:fd.globals=mainGlobals) (e12:fd.builtins=builtinsNs) (e13:fd.scope.isCoroutine=false) (e14:fd.scope.isGenerator=false) (e15:fd.scope.kind=.function)
  (e16:∀ (s:Shared) e v,W.base.StaysIn s.heap→BindsTo s fd ⟨[.ref e,v],[]⟩ [("self",.ref e),("what",v),("at",.none)])
structure tC (W:Wd) (T fI:Addr):Prop where
 ek:lW W.K W.excA T fI
 nm:W.mg "GrammarError" = some (.ref W.excA)
 nb:W.mg "Exception" = none
 bb:W.mb "Exception" = some (.type "Exception")
 fc:findCls W.K (.type "Exception") (.type "type") "__init__" = some (.val (.builtin "Exception.__init__"))
 lim:W.base.NoLimit
 fn:ExcF W fI
noncomputable def Wd.loud (W:Wd):Wd:={ W with qt:=false }
noncomputable def Cx.loud (c:Cx) (a:Addr):Cx:={ c with W:=c.W.loud,A:=c.A.mark (some (.ref a)) }
section
variable {c:Cx} {ρ ρ':List Sl} {k k':Nat} {F F' F0:Fp} {s s' s0 s1:Shared} {i j:Nat} {Q Q':Post} {T fI:Addr}
theorem og {M:Model} {A:Around} {env:Env} {E:Value→Shared→Prop} {K:Frag} {C:Addr} {s:Shared} {x:Sem Value} {Q:PySem.Flow→Shared→Prop} (EK:lW K C T fI) (hh:A.handled=none)
  (h:wpAny M A x (fun v s₁=>∃ e od t1 sl,v=.ref e∧K.In s₁.heap∧s₁.heap.get? e=some ⟨.ref C,od,iz t1,sl⟩∧E (.ref e) s₁) E s):wpAny M A (raiseStmt env (some x) none) Q E s:=by
 obtain ⟨nm,q,N,bs,sn,sub,ab,col,dd,k0,k1,k2,k3,k5,hC⟩:=EK.obj
 have hcB:(Value.ref C::[Value.ref T,.type "Exception",.type "BaseException",.type "object"]).contains (.type "BaseException")=true:=by simp
 unfold raiseStmt
 refine wpAny_bind (wpAny_mono h (fun v s₁ h₁=>?_) fun u0 u0 x=>x)
 obtain ⟨e,od,t1,sl,rfl,X,he,hE⟩:=h₁
 have hC:=X _ _ hC
 obtain ⟨hp,g,d,tk,os⟩:=s₁
 repeat (first | with_reducible refine wpAny_loadPart_at he ?_ | with_reducible refine wpAny_loadPart_at hC ?_ | (with_reducible refine wpAny_isSubtype_exc hC ?_;rw [hcB]) | wp_step)
 exact wpAny_raiseNew_none hh hE
theorem qI {txt:Str} {kk p1 p2 p3 pos} {x:Str} (hx:x=("GrammarError" : Str)) (EC:tC c.W T fI) (hq:c.W.qt=true) (hk:c.names.lookup x=some .globalImplicit) (q:Q .exc ρ k):TrS c ρ k (.Raise (some (.Call (.Name x p1) [.Constant (.str txt) kk p2] [] p3)) none pos) Q:=fun ok u0 F s x0=>by
 subst hx
 have hh:=x0.w0.hand.1 hq
 have hr:=ok.room
 rw [arm_exec_Raise]
 refine wpAny_bind (wpAny_standAt (og EC.ek hh ?_))
 show wpAny _ _ (eval (.Call (.Name "GrammarError" p1) [.Constant (.str txt) kk p2] [] p3) c.env >>= fun v=>standAt pos >>= fun u0=>pure v) _ _ _
 refine wpAny_bind ?_
 refine Call_ (Name_function_global ok.env.kind (ok.env.glob _ hk) (loadGlobal_global (env:=c.env) (by rw [ok.env.globals];exact ok.wok.g.keeps x0.w0.base) EC.nm ?_) (by decide +kernel))
 refine callWith_K (ok.wok.inb.keeps x0.w0.base) EC.ek.keep (args_cons (wpAny_Constant_str (args_nil ⟨ok.wok.inb.keeps x0.w0.base,?_⟩)) (ag rfl)) (ag rfl) rfl
 have w0:=x0.w0
 obtain ⟨nm',q',N',bs,sn,sub,ab,col,dd,k0,k1,k2,k3,k5,hC⟩:=EC.ek.obj
 have X:=ok.wok.inb.keeps w0.base
 have gr:∀ h' t,(∀ b o,s.heap.get? b=some o→h'.get? b=some o)→SR c ρ k F { s with heap:=h',toks:=t }∧Stp c F s F { s with heap:=h',toks:=t }:=fun h' t hk=>⟨x0.grow ⟨h',t,rfl,hk⟩,.grow x0 ⟨h',t,rfl,hk⟩⟩
 obtain ⟨hp,g,dr,tk,os⟩:=s
 show wpAny _ _ (PySem.call (.ref c.W.excA) [.str txt _]) _ _ ⟨hp,g,dr,_,os⟩
 refine l4 (K:=c.W.K) (rest:=[.str txt _]) X PySem.F.excBase_Exception (by simp) (by simp) (by simp) (X _ _ hC) EC.ek.init EC.ek.fn ?_ (by simp [sizeLine_eq])
 obtain ⟨o,fd,body,e1,e2,e3,e4,e5,e6,e7,e8,e9,e10,e11,e12,e13,e14,e15,e16⟩:=EC.fn
 have up:∀ b o,hp.get? b=some o→((hp.push { cls:=.type "tuple",data:=.seq [Value.str txt tk].toArray }).push (br c.W.excA hp.objs.size)).get? b=some o:=fun b o e=>Heap.get?_push_of_some _ (Heap.get?_push_of_some _ e)
 have ge:((hp.push { cls:=.type "tuple",data:=.seq [Value.str txt tk].toArray }).push (br c.W.excA hp.objs.size)).get? (hp.objs.size+1)=some (br c.W.excA hp.objs.size):=by
  have:=Heap.get?_push_size (hp.push { cls:=.type "tuple",data:=.seq [Value.str txt tk].toArray }) (o:=br c.W.excA hp.objs.size) rfl
  rwa [Heap.size_push] at this
 have ne:hp.get? (hp.objs.size+1)=none:=Heap.get?_none_of_le (Nat.le_succ _)
 have nlt:∀ b o,hp.get? b=some o→b≠hp.objs.size+1:=fun b o e h=>by rw [h] at e;exact gno ne e
 generalize hp.objs.size+1=ex at ge ne nlt ⊢
 generalize hp.objs.size=t0 at up ge ⊢
 generalize (hp.push { cls:=.type "tuple",data:=.seq [Value.str txt tk].toArray }).push (br c.W.excA t0)=h2 at up ge ⊢
 have b2:∀ b o,c.W.base.get? b=some o→h2.get? b=some o:=fun b o e=>up b o (w0.base b o e)
 have hd:(c.A.under (.builtin "type.__call__" ⟨.ref c.W.excA::[.str txt tk],[]⟩)).depth=c.A.depth+1:=rfl
 refine lE (s:=⟨h2,g,dr,tk+1,os⟩) (ok.wok.inb.keeps b2) EC.ek (by rw [hd];have:=hr.1;lia) (b2 _ _ e1) e2 (EC.lim.keeps b2) (e3.keeps b2) e4 e5 (e16 ⟨h2,g,dr,tk+1,os⟩ _ _ b2) e6 e7 e8 e9 e10 e11 e12 (ok.wok.g.keeps b2) (ok.wok.b.keeps b2) (fun b o e=>nlt b o (X b o e)) EC.nb EC.bb e13 e14 e15 ge EC.fc fun h' tk' hk' hex=>⟨rfl,?_⟩
 obtain ⟨od,t1,he'⟩:=hex
 have kk:∀ b o,hp.get? b=some o→h'.get? b=some o:=fun b o e=>hk' b o (nlt b o e) (up b o e)
 obtain ⟨x1,st⟩:=gr h' tk' kk
 exact wpAny_bind (wpAny_standAt (wpAny_pure ⟨ex,od,t1,_,rfl,ok.wok.inb.keeps fun b o e=>kk b o (w0.base b o e),he',ex,none,rfl,.inl rfl,ρ,k,F,q,ne,⟨_,_,he',rfl,rfl,rfl,rfl⟩,x1,st⟩))
theorem WOK.loud {W:Wd} (x:WOK W):WOK W.loud:=⟨x.g,x.b,x.bb,x.noB,x.inb,x.cls,x.name,x.keep,x.meth⟩
theorem KR.loud {W:Wd} {h:Heap}:∀ k,KR W.loud h k=KR W h k:=fun k=>by cases k <;> rfl
mutual
theorem VR.xr {W:Wd} {h:Heap} {P:Addr→Prop}:∀ d,VR W.loud h P d=VR W h P d
 | .nul=>rfl
 | .bool _=>rfl
 | .int _=>rfl
 | .str _=>rfl
 | .node k xs=>by have e:=congr (congrArg (fun z=>wj z P) (KR.loud (W:=W) (h:=h) k)) (VRs.xr (W:=W) (h:=h) (P:=P) xs);exact e
theorem VRs.xr {W:Wd} {h:Heap} {P:Addr→Prop}:∀ d,VRs W.loud h P d=VRs W h P d
 | []=>rfl
 | x::xs=>by have e:=congr (congrArg wN (VR.xr (W:=W) (h:=h) (P:=P) x)) (VRs.xr (W:=W) (h:=h) (P:=P) xs);exact e
end
theorem VR.loud {W:Wd} {h:Heap} {P:Addr→Prop} {d v}:VR W.loud h P d v↔VR W h P d v:=iff_of_eq (congrFun (VR.xr d) v)
mutual
theorem VO.xr {W:Wd} {h:Heap} {P:Addr→Prop}:∀ d,VO W.loud h P d=VO W h P d
 | .leaf d=>funext fun v=>funext fun F=>by have e:=congrArg (fun z:Value→Prop=>z v∧F=[]) (VR.xr (W:=W) (h:=h) (P:=P) d);exact e
 | .node k xs=>by have e:=congr (congrArg wH (KR.loud (W:=W) (h:=h) k)) (VOs.xr (W:=W) (h:=h) (P:=P) xs);exact e
theorem VOs.xr {W:Wd} {h:Heap} {P:Addr→Prop}:∀ d,VOs W.loud h P d=VOs W h P d
 | []=>rfl
 | x::xs=>by have e:=congr (congrArg wW (VO.xr (W:=W) (h:=h) (P:=P) x)) (VOs.xr (W:=W) (h:=h) (P:=P) xs);exact e
end
theorem VO.loud {W:Wd} {h:Heap} {P:Addr→Prop} {d v F}:VO W.loud h P d v F↔VO W h P d v F:=iff_of_eq (congrFun (congrFun (VO.xr d) v) F)
theorem ee.loud {a:Addr} {h:Heap} {x:Str} {z:Sl}:ee (c.loud a) h F x i z↔ee c h F x i z:=by
 cases z with
 | undef=>rfl
 | im d=>exact exists_congr fun v=>and_congr .rfl VR.loud
 | vw d=>exact exists_congr fun v=>and_congr .rfl VR.loud
 | own o=>exact exists_congr fun v=>and_congr .rfl (and_congr VO.loud .rfl)
 | pen=>rfl
theorem SR.loud {a:Addr} (x:SR c ρ k F s) (w:W0 c.W.loud (c.A.mark (some (.ref a))) s):SR (c.loud a) ρ k F s:=
 ⟨w,x.keep,x.pen,fun y i h=>ee.loud.mpr (x.vals y i h),x.nd,x.dj,x.own,⟨x.env.ns,x.env.lo,x.env.cell,x.env.locN,x.env.cellN⟩,fun i a h=>(x.acc i a h).imp fun u0 q=>⟨q.1,VO.loud.mpr q.2⟩⟩
theorem SR.quiet {a:Addr} (x:SR (c.loud a) ρ k F s) (w:W0 c.W c.A s):SR c ρ k F s:=
 ⟨w,x.keep,x.pen,fun y i h=>ee.loud.mp (x.vals y i h),x.nd,x.dj,x.own,⟨x.env.ns,x.env.lo,x.env.cell,x.env.locN,x.env.cellN⟩,fun i a h=>(x.acc i a h).imp fun u0 q=>⟨q.1,VO.loud.mp q.2⟩⟩
theorem vY {bs hs:List Stmt} {b₀:Stmt} {x:Str} {np hpos pos:Pos} (hx:x=("GrammarError" : Str)) (EC:tC c.W T fI) (hq:c.W.qt=true) (hk:c.names.lookup x=some .globalImplicit)
  (B:TrB c ρ k bs fun f ρ' k'=>match f with | .exc=>∀ a,TrB (c.loud a) ρ' k' (b₀::hs) (fun f ρ k=>f≠.exc∧Q f ρ k) | f=>Q f ρ' k'):TrS c ρ k (.Try bs [.ExceptHandler (some (.Name x np)) none (b₀::hs) hpos] [] [] pos) Q:=fun ok hf F s x0=>by
 subst hx
 have hh:=x0.w0.hand.1 hq
 refine wpAny_Try_except (wpAny_mono (B ok hf F s x0) (fun fv s1 o=>?_) fun v s1 p=>?_)
 ·obtain ⟨f,ρ',k',F',q,r,x1,st⟩:=o
  have fin:Out c F Q s fv s1:=⟨f,ρ',k',F',by cases f <;> first | exact q | exact r.elim,r,x1,st⟩
  cases fv with
  | next=>exact wpAny_pure fin
  | _=>exact fin
 ·obtain ⟨a,fl,rfl,hfl,x1⟩:=p
  refine x1.note ok hf x0 hfl fun s2 x2=>x2.xH ok x0 (frame:=none) fun s3 x3=>?_
  refine wpAny_handleBy_cons (codeAny_handlers_test ?_) (by intro q;cases q)
  obtain ⟨_,_,_,_,_,⟨_,_,_,oe,vs,_,_,c1,c2,c3,_⟩,y3,_⟩:=id x3
  refine Name_function_global ok.env.kind (ok.env.glob _ hk) (loadGlobal_global (env:=c.env) (by rw [ok.env.globals];exact ok.wok.g.keeps y3.w0.base) EC.nm ?_) (by decide +kernel)
  obtain ⟨nm',q',N',cbs,sn,sub,ab,col,dd,k0,k1,k2,k3,k5,hC⟩:=EC.ek.obj
  have hC:=ok.wok.inb.keeps y3.w0.base _ _ hC
  have fin:codeAny c.M (c.A.mark (some (.ref a))) (.handlers (.ref a) [.ExceptHandler none none (b₀::hs) hpos] c.env) (fun r s₂=>match r with | .ok f=>Out c F Q s f s₂ | .error x=>cameBackBy c.M c.A c.env (Pas c F Q s) x s₂) s3:=by
   refine codeAny_handlers_suite (x3.xH (frame:=none) ok x0 fun s4 x4=>?_)
   obtain ⟨ρ4,k4,F4,q4,n4,⟨T4,_,_,oe,vs,_,_,c1,c2,c3,_,c4,_⟩,y4,st4⟩:=x4
   have hand:HOK c.W.loud (c.A.mark (some (.ref a))) s4.heap:=⟨fun h=>(by cases h),.inr ⟨a,oe,vs,rfl,c1,c3,c4,fun hm=>(by rw [c2] at hm;exact (dG.exc (W:=c.W)).1 hm)⟩⟩
   have w4:W0 c.W.loud (c.A.mark (some (.ref a))) s4:=⟨y4.w0.base,y4.w0.gens,y4.w0.os,y4.w0.outer,hand⟩
   have ok4:aJ (c.loud a):=⟨ok.wok.loud,ok.room,⟨ok.env.kind,ok.env.globals,ok.env.builtins,ok.env.glob,ok.env.loc,ok.env.apart,ok.env.cells⟩,fun h=>⟨(ok.frm h).fr,(ok.frm h).frs,(ok.frm h).cel⟩,ok.inj,ok.s0,ok.bh,ok.pn⟩
   refine wpAny_mono (q4 a ok4 hf F4 s4 (y4.loud w4)) (fun fv s5 o=>?_) fun e s5 p=>?_
   ·obtain ⟨f,ρ',k',F',q,r,x5,st⟩:=o
    have w5:W0 c.W c.A s5:=⟨x5.w0.base,x5.w0.gens,x5.w0.os,x5.w0.outer,fun u0=>hh,.inl hh⟩
    refine ⟨f,ρ',k',F',q.2,?_,x5.quiet w5,st4.trans ⟨st.keep,st.sub,st.live⟩⟩
    cases f with
    | ret d=>obtain ⟨v,e,r⟩:=r;exact ⟨v,e,VR.loud.mp r⟩
    | _=>exact r
   ·obtain ⟨_,_,_,_,_,_,_,q,_⟩:=p
    exact absurd rfl q.1
  obtain ⟨h3,g3,d3,t3,os3⟩:=s3
  exact wpAny_excMatches_sub_self hC c1 c2 (by simp) fin
end
end Mine
namespace Mine
open PySem PySem.Calls PyProof.Rows PySem.SeqAt PySem.W PySem.Spec
noncomputable def LeT (a b:Txt):Prop:=¬ b < a
theorem nq {l m:List Txt} (hp:l.Perm m) (h:l.Pairwise LeT) (h':m.Pairwise LeT):l=m:=
 List.Perm.eq_of_pairwise (le:=LeT) (fun a b u0 u0 h1 h2=>List.le_antisymm (List.not_lt.mp h1) (List.not_lt.mp h2)) h h' hp
theorem ma {ss:List Txt}:sortedS (ss.map strV)=true→ss.Pairwise LeT:=by
 induction ss with
 | nil=>exact fun u0=>.nil
 | cons a ss ih=>
  intro h
  cases ss with
  | nil=>exact List.pairwise_singleton ..
  | cons b r=>
   have h':(!ltCps (strV b).cps.toList (strV a).cps.toList && risingS (strV b) (r.map strV))=true:=h
   rw [Bool.and_eq_true,Bool.not_eq_true'] at h'
   have hba:LeT a b:=of_decide_eq_false (show decide (b < a)=false from ltCps_eq ..▸h'.1)
   have ih:=ih h'.2
   exact List.pairwise_cons.mpr ⟨List.forall_mem_cons.mpr ⟨hba,fun c hc hl=>(List.pairwise_cons.mp ih).1 c hc (Decidable.byContradiction fun hn=>hba (List.lt_of_le_of_lt (List.not_lt.mp hn) hl))⟩,ih⟩
theorem iD:∀ {ts:List Txt} {us:List Tok},us.length=ts.length→StrsAre ((ts.zip us).map fun x=>Value.str (strV x.1) x.2) (ts.map strV)
 | [],_,_=>.nil
 | _::_,[],h=>nomatch h
 | _::_,_::_,h=>.cons _ _ (iD (Nat.succ.inj h))
theorem q6 {W:Wd} {h:Heap} {P:Addr→Prop} {ts:List Txt} {ws:List Value} (r:StrsAre ws (ts.map strV)):VRs W h P (ts.map .str) ws:=by
 induction ts generalizing ws with
 | nil=>cases r;rfl
 | cons t ts ih=>cases r with | cons _ u a=>exact ⟨_,_,rfl,⟨u,rfl⟩,ih a⟩
theorem sv (t:Txt):(strV t).cps.toList=t:=rfl
theorem hV {W:Wd} {A:Around} {s:Shared} {l:Addr} {vs:List Value} {k:Nat} {ts:List Txt} {Q E:Value→Shared→Prop} (e:s.heap.get? l=some (fP vs k)) (hs:∃ us:List Tok,us.length=ts.length∧vs=(ts.zip us).map fun x=>Value.str (strV x.1) x.2) (h64:ts.length < 64)
  (h:∀ (h':Heap) (ws:List Value) (ts':List Txt),(∀ b o,s.heap.get? b=some o→h'.get? b=some o)→(∃ e,h'.get? (s.heap.objs.size+1)=some (fP ws e))→ts'.Perm ts→ts'.Pairwise LeT→StrsAre ws (ts'.map strV)→Q (.ref (s.heap.objs.size+1)) { s with heap:=h' }) :
  wpAny (model W.prog W.w) A (PySem.call (.builtin "sorted") [.ref l]) Q E s:=by
 obtain ⟨us,hl,rfl⟩:=hs
 refine sorted_strs ⟨_,e,rfl,k,rfl⟩ (iD hl) (by rw [List.length_map,List.length_zip,hl,Nat.min_self];exact h64) fun out ss' a1 a2 a3=>?_
 have e:ss'=(ss'.map fun x=>x.cps.toList).map strV:=by
  rw [List.map_map]
  exact ((List.map_congr_left fun x u0=>(rfl:strV x.cps.toList=x)).trans (List.map_id _)).symm
 have hp:=a2.map fun x:Str=>x.cps.toList
 rw [List.map_map,show List.map ((fun x:Str=>x.cps.toList) ∘ strV) ts=ts from (List.map_congr_left fun x u0=>sv x).trans (List.map_id _)] at hp
 rw [e] at a1 a3
 exact h _ out.toList _ (fun b o=>sortedAll_old) (sortedAll_at _ _ _) hp (ma a3) a1
section
variable {c:Cx} {ρ:List Sl} {k:Nat} {F:Fp} {s:Shared} {l:Lv} {Q:D→Nat→Prop} {e:Expr}
noncomputable def pP (c:Cx) (f:Value→Sem Value) (x:D) (R:D→Prop):Prop:=aJ c→∀ (P:Addr→Prop) s v,(∀ a,s.heap.get? a=none→P a)→VR c.W s.heap P x v→W0 c.W c.A s→
 ∀ Q E,(∀ r v' s',R r→bP s s'→VR c.W s'.heap P r v'→Q v' s')→wpAny c.M c.A (f v) Q E s
theorem qz {pos pos'} (hx:cF c "sorted" = true) (hs:ah e=true) (h:Ev c ρ k l e fun d k'=>pP c (fun v=>PySem.call (.builtin "sorted") [v]) d fun r=>Q r k'):Ev c ρ k l (.Call (.Name "sorted" pos') [e] [] pos) Q:=fun ok F s x0=>
 Call_ (eK ok x0.w0 (v:=.builtin "sorted") (.tail _ (.tail _ (.tail _ (.tail _ (.tail _ (.tail _ (.head _))))))) (by decide +kernel) (by decide +kernel) (of_decide_eq_true hx) (bK rfl (by rw [List.all_cons,hs];rfl) (args_cons (noE (h ok F s x0) fun u0 s1 r=>args_nil (by
  obtain ⟨_,k1,p,r1,x1,st⟩:=r
  exact p ok _ s1 _ (fun u0=>x1.xm) r1 x1.w0 _ _ fun u0 u0 u0 q g r=>.prim x1 st q g r)) (ag hs))))
theorem pP.strs {ts:List Txt} {R:D→Prop} (hl:ts.length < 64) (q:∀ ts':List Txt,ts'.Perm ts→ts'.Pairwise LeT→R (.lst (ts'.map .str))):pP c (fun v=>PySem.call (.builtin "sorted") [v]) (.lst (ts.map .str)) R:=by
 rintro _ P s _ hf ⟨a,vs,_,rfl,⟨_,n,e⟩,_,r⟩ _ Q E h
 exact hV e r.strs hl fun h' ws ts' k he hp hw hs=>h _ _ _ (q ts' hp hw) ⟨h',s.toks,rfl,k⟩ ⟨_,ws,_,rfl,⟨rfl,he⟩,List.forall_mem_singleton.mpr (hf _ (Heap.get?_none_of_le (Nat.le_succ _))),q6 hs⟩
end
end Mine
namespace Mine
open PySem PySem.Calls PyProof.Rows PySem.SeqAt PySem.W
noncomputable def cN {α:Type} (P:α→Prop) (n:Nat):KasT α→Prop
 | .ret a=>P a
 | .ask i j k=>i < n∧j < n∧∀ b,cN P n (k b)
theorem cN.bind {α β:Type} {P:α→Prop} {Q:β→Prop} {n:Nat} {f:α→KasT β} (hf:∀ a,P a→cN Q n (f a)):∀ {t:KasT α},cN P n t→cN Q n (t.bind f)
 | .ret a,h=>hf a h
 | .ask _ _ k,h=>⟨h.1,h.2.1,fun b=>cN.bind hf (h.2.2 b)⟩
noncomputable def bx (n:Nat) (p:Array Nat):Prop:=p.Perm (List.range n).toArray
theorem bx.get {n:Nat} {p:Array Nat} (h:bx n p) (hn:0 < n) (i:Nat):p.getD i 0 < n:=by
 unfold Array.getD
 split
 ·rename_i hi
  have hm:p[i]∈(List.range n).toArray:=(h.mem_iff).mp (Array.getElem_mem hi)
  exact List.mem_range.mp (List.mem_toArray.mp hm)
 ·exact hn
theorem bx.rev {n:Nat} {p:Array Nat} (h:bx n p) (i j:Nat):bx n (kas_rev p i j):=(mirror_perm p i j _).trans h
section
variable {n:Nat} (hn:0 < n)
include hn
theorem cN.ite {α:Type} {P:α→Prop} {c:Prop} [Decidable c] {a b:KasT α} (x:cN P n a) (y:cN P n b):cN P n (if c then a else b):=by split <;> assumption
theorem pK {p:Array Nat} (h:bx n p):∀ (f k:Nat),cN (fun u0=>True) n (kas_asc p f k):=by
 intro f
 induction f with
 | zero=>
  exact @fun k=>trivial
 | succ f ihq=>
  exact @fun k=>⟨h.get hn _,h.get hn _,fun b=>.ite hn trivial (ihq (k+1))⟩
theorem rS:∀ (f:Nat) {p:Array Nat},bx n p→∀ (k q:Nat),cN (fun r=>bx n r.1) n (kas_desc f p k q):=by
 intro f
 induction f with
 | zero=>
  exact @fun p h k q=>h
 | succ f ihq=>
  exact @fun p h k q=>⟨h.get hn _,h.get hn _,fun b=>.ite hn (.ite hn (ihq (h.rev _ _) _ _) (ihq h _ _)) ⟨h.get hn _,h.get hn _,fun b=>.ite hn h (ihq h _ _)⟩⟩
theorem kX {p:Array Nat} (h:bx n p) (m nrem:Nat):cN (fun r=>bx n r.2) n (kas_tail3 m nrem p):=
 cN.bind (P:=fun u0=>True) (Q:=fun r:Nat × Array Nat=>bx n r.2) (n:=n) (f:=fun k=>KasT.ret (k,kas_rev p 0 m)) (fun u0 u0=>show bx n _ from h.rev 0 m) (pK hn (h.rev 0 m) _ _)
theorem gz {p:Array Nat} (h:bx n p) (m nrem:Nat):cN (fun r=>bx n r.2) n (kas_descPart m nrem p):=
 cN.bind (P:=fun r:Array Nat × Nat × Nat=>bx n r.1) (fun r hr=>.ite hn (kX hn (bx.rev hr _ _) _ _) (kX hn hr _ _)) (rS hn _ h _ _)
theorem pV {p:Array Nat} (h:bx n p) (nrem:Nat):cN (fun r=>bx n r.2) n (kas_count nrem p):=
 cN.bind (P:=fun u0=>True) (fun k u0=>by
  split
  ·exact h
  ·split
   ·exact ⟨h.get hn _,h.get hn _,fun b=>by cases b with
    | true=>exact h
    | false=>exact gz hn (h.rev _ _) _ _⟩
   ·exact gz hn h _ _) (pK hn h _ _)
theorem qm {p:Array Nat} (h:bx n p) (k:Nat):∀ (f l r:Nat),cN (fun u0=>True) n (kas_place p k f l r):=by
 intro f
 induction f with
 | zero=>
  exact @fun u0 u0=>trivial
 | succ f ihq=>
  intro l r
  exact .ite hn trivial ⟨h.get hn _,h.get hn _,fun b=>.ite hn (ihq _ _) (ihq _ _)⟩
theorem tT:∀ (f:Nat) {p:Array Nat},bx n p→∀ (k:Nat),cN (bx n) n (kas_bin f p k):=by
 intro f
 induction f with
 | zero=>
  exact @fun u0 h u0=>h
 | succ f ihq=>
  exact @fun u0 h k=>cN.bind (P:=fun u0=>True) (fun u0 u0=>ihq ((bubble_perm _ _ _).trans h) _) (qm hn h k _ _ _)
theorem qY:cN (bx n) n (kas_sort n):=
 cN.bind (P:=fun r:Nat × Array Nat=>bx n r.2) (fun r hr=>by split <;> first | exact hr | exact tT hn _ hr _) (pV hn (Array.Perm.refl _) n)
end
theorem k8 {α:Type} {P:α→Prop} {n:Nat} {cmp:Nat→Nat→(Bool→Shared→Prop)→Shared→Prop} {s:Shared} (hc:∀ i j C,i < n→j < n→(∀ b,C b s)→cmp i j C s) {Q:α→Shared→Prop} :
  ∀ {t:KasT α},cN P n t→(∀ a,P a→Q a s)→t.kasWp cmp Q s
 | .ret a,h,q=>q a h
 | .ask i j k,a,q=>hc i j _ a.1 a.2.1 fun b=>k8 hc (t:=k b) (a.2.2 b) q
section
variable {prog:Program} {w:World} {A:Around} {E:Value→Shared→Prop} {s:Shared}
noncomputable def IsI (v:Value):Prop:=∃ i t,v=.int i t
inductive eZ (h:Heap):Value→Prop
 | mk {a vs n}:h.get? a=some (dN vs n)→(∀ v∈vs,IsI v)→eZ h (.ref a)
theorem eZ.is {h:Heap} {v} (r:eZ h v):(∀ s:Shared,s.heap=h→s.TypeIs v "tuple"):=by
 obtain ⟨e,_⟩:=r;exact fun s hs=>⟨_,hs▸e,rfl⟩
theorem je {v u:Value} {Q:Bool→Shared→Prop} (hv:IsI v) (hu:IsI u) (h:∀ b,Q b s):wpAny (model prog w) A (eqBool v u) Q E s:=by
 obtain ⟨_,_,rfl⟩:=hv;obtain ⟨_,_,rfl⟩:=hu;exact EqAt.int_int _ _ _ _ prog w E Q (h _)
theorem l8 {a b:Addr} {vs us:List Value} {n k:Nat} {P:Fin→Shared→Prop} (ha:s.heap.get? a=some (dN vs n)) (hx:∀ v∈vs,IsI v) (hb:s.heap.get? b=some (dN us k)) (hy:∀ v∈us,IsI v)
  (h:∀ r,P (.done (.ret (.bool r))) s):wpAny (model prog w) A (Builtin.«tuple.__lt__» ⟨[.ref a,.ref b],[]⟩) P E s:=by
 show wpAny _ _ (isInstance (.ref b) (.type "tuple") >>= _) _ _ s
 refine wpAny_bind (wpAny_isInstance ⟨_,hb,rfl⟩ isSubtype_tuple_tuple ?_)
 simp only [Bool.not_true,Bool.false_eq_true,if_false]
 refine wpAny_bind (wpAny_tupleItemsOf ha rfl (wpAny_bind (wpAny_tupleItemsOf hb rfl (wpAny_bind ?_))))
 refine wpAny_forIn_list _ (fun rest r s'=>r.1=none∧s'=s∧∀ p∈rest,IsI p.1∧IsI p.2) _ ?_ ?_ _ _ ⟨rfl,rfl,fun p hp=>?_⟩
 ·rintro ⟨u,v⟩ rest r s' ⟨hr,rfl,hall⟩
  obtain ⟨h1,h2⟩:=hall _ List.mem_cons_self
  refine wpAny_bind (je h1 h2 fun b=>?_)
  cases b with
  | true=>exact wpAny_pure ⟨rfl,rfl,fun p hp=>hall p (List.mem_cons_of_mem _ hp)⟩
  | false=>
   obtain ⟨_,_,e1⟩:=h1
   obtain ⟨_,_,e2⟩:=h2
   dsimp only at e1 e2
   subst e1 e2
   exact wpAny_bind (wpAny_rule (wpAny_bind (wpAny_lt_int (wpAny_bind (wpAny_pure (wpAny_pure (wpAny_pure (h _))))))))
 ·rintro ⟨r1,r2⟩ s' ⟨hr,rfl,_⟩
  obtain rfl:r1=none:=hr
  exact wpAny_pure (h _)
 ·have:=List.of_mem_zip (a:=p.1) (b:=p.2) (by simpa using hp)
  exact ⟨hx _ this.1,hy _ this.2⟩
theorem kP {v u:Value} {b:Bool} {Q:Bool→Shared→Prop} (hu:A.units < cLine) (hx:eZ s.heap v) (hy:eZ s.heap u) (h:∀ r,Q r s):wpAny (model prog w) A (oneLt' b v u) Q E s:=by
 have call:∀ {Q:Value→Shared→Prop} {A:Around},(∀ r,Q (.bool r) s)→wpAny (model prog w) A (PySem.call (.builtin "tuple.__lt__") [v,u]) Q E s:=fun h=>by
  obtain ⟨e1,h1⟩:=hx;obtain ⟨e2,h2⟩:=hy
  exact wpAny_call_entry F.slot_tuple_lt ⟨_,e1,rfl⟩ F.entry_tuple_lt (l8 e1 h1 e2 h2 fun r=>⟨_,rfl,h r⟩) (F.args_tuple_lt_2 _ _)
 rw [oneLt'_eq]
 cases b with
 | true=>exact wpAny_bind (wpAny_cRoomFor hu (wpAny_bind (wpAny_callSpecialIfBound?_slot (T:="tuple") (hx.is s rfl) F.slot_tuple_lt (call fun r=>wpAny_truthy_bool (h r)))))
 | false=>exact wpAny_bind (wpAny_richCompare_same_room (op:=.Lt) (T:="tuple") (hx.is s rfl) (hy.is s rfl) F.slot_tuple_lt (call fun r=>⟨by simp,wpAny_truthy_bool (h r)⟩) hu)
theorem tZ {b fin:Bool} {Q:Bool→Shared→Prop} (h:∀ r,Q r s):∀ {ps:List (Value × Value)} (i:Nat),(∀ p∈ps,IsI p.1∧IsI p.2)→KatLex prog w A b fin Q ps i s:=by
 intro ps
 induction ps with
 | nil=>exact fun u0 u0=>kat_nil (h _)
 | cons p ps ih=>
  intro i hp
  obtain ⟨_,_⟩:=p
  obtain ⟨h1,h2⟩:=hp _ List.mem_cons_self
  refine kat_cons (je h1 h2 fun r=>kat_go (fun e=>kat_yes (ih (i+1) fun p q=>hp p (List.mem_cons_of_mem _ q))) fun e=>kat_no ?_)
  obtain ⟨_,_,e1⟩:=h1
  obtain ⟨_,_,e2⟩:=h2
  dsimp only at e1 e2
  subst e1 e2
  cases hb:(b && i == 0) with
  | true=>exact oneLt_int (h _)
  | false=>exact kat_one _ _ (wpAny_lt_int (h _))
noncomputable def uz (κ:SortKind):Prop:=κ=tuples' true∨κ=general'∨κ=oneType'
theorem qe {κ:SortKind} (hk:uz κ) {v u:Value} {Q:Bool→Shared→Prop} (hu:A.units < cLine) (hx:eZ s.heap v) (hy:eZ s.heap u) (h:∀ r,Q r s):wpAny (model prog w) A (keyLt' κ v u) Q E s:=by
 rcases hk with rfl | rfl | rfl
 ·obtain ⟨e1,h1⟩:=hx;obtain ⟨e2,h2⟩:=hy
  exact kat_lt e1 rfl e2 rfl (tZ h 0 fun p hp=>have:=List.of_mem_zip (a:=p.1) (b:=p.2) hp;⟨h1 _ this.1,h2 _ this.2⟩)
 ·show wpAny _ _ (oneLt' false v u) _ _ _;exact kP hu hx hy h
 ·rw [keyLt'_oneType];exact kP hu hx hy h
set_option tactic.hygienic true in
theorem qi:∀ {vs:List Value} {Q:List (Option Value)→Shared→Prop},(∀ v∈vs,eZ s.heap v)→(∀ fs:List (Option Value),fs.length=vs.length→(∀ f∈fs,f=none∨∃ v,f=some v∧IsI v)→Q fs s)→wpAny (model prog w) A (vs.mapM firstOfTuple') Q E s:=by
 intro vs
 induction vs with
 | nil=>
  exact @fun Q u0 h=>by rw [List.mapM_nil];exact wpAny_pure (h [] rfl fun u0 q=>aE q)
 | cons v vs ihq=>
  intro Q ht h
  rw [List.mapM_cons]
  obtain ⟨ea,ia⟩:=ht v List.mem_cons_self
  refine wpAny_bind ?_
  rw [kas_first_eq]
  refine wpAny_bind (wpAny_typeOf (T:="tuple") ⟨_,ea,rfl⟩ ?_)
  rw [if_neg (by simp)]
  refine wpAny_bind (listItems_at ea rfl (wpAny_pure (wpAny_bind (ihq (fun v hv=>ht v (List.mem_cons_of_mem _ hv)) fun fs h1 h2=>wpAny_pure (h _ (congrArg Nat.succ h1) (List.forall_mem_cons.mpr ⟨?_,h2⟩))))))
  rw [List.getElem?_toArray]
  rename_i vs' _
  cases vs' with
  | nil=>exact .inl rfl
  | cons u r=>exact .inr ⟨u,rfl,ia u List.mem_cons_self⟩
theorem pM {T:Value} {vs:List Value} {Q:List Value→Shared→Prop} (hv:∀ v∈vs,∀ (Q':Value→Shared→Prop),Q' T s→wpAny (model prog w) A (typeOf v) Q' E s) (h:Q (vs.map fun u0=>T) s):wpAny (model prog w) A (vs.mapM typeOf) Q E s:=kas_mapM _ hv h
theorem m6 {T:Value} (hT:(T == T)=true) {vs:List Value} {Q:Option Value→Shared→Prop} (h0:vs≠[]) (hv:∀ v∈vs,∀ (Q':Value→Shared→Prop),Q' T s→wpAny (model prog w) A (typeOf v) Q' E s) (h:Q (some T) s):wpAny (model prog w) A (oneTypeOnly' vs.toArray) Q E s:=by
 rw [oneTypeOnly'_eq,List.mapM_toArray,map_eq_pure_bind]
 refine wpAny_bind (wpAny_bind (pM hv (wpAny_pure ?_)))
 cases vs with
 | nil=>exact absurd rfl h0
 | cons v vs=>
  have:((List.map (fun u0=>T) (v::vs)).toArray.all fun x=>x == T)=true:=by
   rw [List.all_toArray,List.all_map,List.all_eq_true];exact fun u0 u0=>hT
  exact wpAny_pure (show Q (if ((List.map (fun u0=>T) (v::vs)).toArray.all fun x=>x == T)=true then some T else none) s by rw [if_pos this];exact h)
theorem mG {vs:List Value} {Q:SortKind→Shared→Prop} (ht:∀ v∈vs,eZ s.heap v) (h0:vs≠[]) (h:∀ κ,uz κ→Q κ s):wpAny (model prog w) A (keyKind' vs.toArray) Q E s:=by
 rw [kat_kind_eq,List.mapM_toArray,map_eq_pure_bind]
 refine wpAny_bind (wpAny_bind (qi ht fun fs hl hf=>wpAny_pure ?_))
 by_cases hall:(fs.toArray.all fun x=>x.isSome)=true
 ·rw [if_pos hall]
  rw [List.all_toArray,List.all_eq_true] at hall
  refine wpAny_bind (wpAny_rule ?_)
  rw [List.filterMap_toArray]
  refine wpAny_bind (m6 (T:=.type "int") (by decide) (fun e=>?_) (fun v hv Q' hq=>?_) (wpAny_pure (h _ (.inl rfl))))
  ·cases fs with
   | nil=>exact h0 (List.length_eq_zero_iff.mp hl.symm)
   | cons f fs=>
    obtain ⟨v,rfl⟩:=Option.isSome_iff_exists.mp (hall f List.mem_cons_self)
    cases e
  ·obtain ⟨f,hm,e⟩:=List.mem_filterMap.mp hv
   rcases hf f hm with rfl | ⟨_,rfl,i,t,rfl⟩
   ·cases e
   ·cases e;exact wpAny_typeOf (typeIs_int s i t) hq
 ·rw [if_neg hall]
  split
  ·exact wpAny_pure (h _ (.inr (.inl rfl)))
  ·exact wpAny_bind (m6 (T:=.type "tuple") (by decide) h0 (fun v hv Q' hq=>wpAny_typeOf ((ht v hv).is s rfl) hq) (wpAny_pure (h _ (.inr (.inr rfl)))))
end
end Mine
namespace Mine
open PySem PySem.Calls PyProof.Rows PySem.SeqAt PySem.W
section
variable {prog:Program} {w:World} {A:Around} {E:Value→Shared→Prop} {s:Shared}
theorem eZ.keep {h h':Heap} (k:∀ b o,h.get? b=some o→o.cls=.type "tuple"→h'.get? b=some o) {v} (r:eZ h v):eZ h' v:=by
 obtain ⟨e,i⟩:=r
 exact ⟨k _ _ e rfl,i⟩
theorem ql {vs:List Value} {p:Array Nat} (h:bx vs.length p):(p.toList.map fun i=>vs.getD i Value.none).Perm vs:=by
 refine ((Array.perm_iff_toList_perm.mp h).map fun i=>vs.getD i Value.none).trans ?_
 have e:(List.range vs.length).map (fun i=>vs.getD i Value.none)=vs:=by
  refine List.ext_getElem (by simp) fun i h1 h2=>?_
  simp at h1
  simp [h1]
 show (List.map (fun i=>vs.getD i Value.none) (List.range vs.length)).Perm vs
 rw [e]
theorem iw {a:Addr} {vs:List Value} {n:Nat} {P:PySem.Fin→Shared→Prop} (hu:A.units < cLine) (ho:s.heap.get? a=some (seqObj "list" vs.toArray n)) (ht:∀ v∈vs,eZ s.heap v) (h64:vs.length < 64)
  (h:∀ (h':Heap) (out:List Value) e,(∀ b o,b≠a→s.heap.get? b=some o→h'.get? b=some o)→h'.get? a=some (seqObj "list" out.toArray e)→out.Perm vs→P (.done (.ret .none)) { s with heap:=h' }) :
  wpAny (model prog w) A (Builtin.«list.sort» ⟨[.ref a],[]⟩) P E s:=by
 have hz:vs.length≤sizeLine:=by rw [sizeLine_eq];lia
 obtain ⟨e1,ho1⟩:∃ e1,(s.heap.update a (Obj.mapSeq fun u0=>(#[]:Array Value))).get? a=some (seqObj "list" #[] e1):=⟨_,get?_update_seq ho fun u0=>#[]⟩
 generalize hH:((s.heap.update a (Obj.mapSeq fun u0=>(#[]:Array Value))).push (seqObj "tuple" vs.toArray 0)).push (seqObj "list" #[] 0)=H
 have hoH:H.get? a=some (seqObj "list" #[] e1):=by rw [← hH];exact Heap.get?_push_of_some _ (Heap.get?_push_of_some _ ho1)
 have keep:∀ b o,b≠a→s.heap.get? b=some o→H.get? b=some o:=fun b o hb e=>by
  rw [← hH]
  exact Heap.get?_push_of_some _ (Heap.get?_push_of_some _ ((Heap.get?_update_other _ _ (Ne.symm hb)).trans e))
 have htH:∀ v∈vs,eZ H v:=fun v hv=>(ht v hv).keep fun b o e c=>keep b o (by rintro rfl;obtain rfl:=geq ho e;simp at c) e
 have fin:∀ out:List Value,out.Perm vs→wpAny (model prog w) A (do
   let touched:=(← seqEpoch a) != e1
   Builtin.List.listUpdate (.ref a) fun u0=>out.toArray
   if touched then rule "list.sort.modified";raiseError "ValueError" "list modified during sort"
   ret .none) P E { s with heap:=H }:=fun out hout=>by
  refine wpAny_bind (seqEpoch_at hoH rfl ?_)
  refine wpAny_bind (listUpdate_at hoH rfl ?_ (Nat.zero_le _) (by rw [List.size_toArray,hout.length_eq];lia))
  simp only [bne_self_eq_false,Bool.false_eq_true,if_false]
  exact wpAny_pure (h _ out _ (fun b o hb e=>(Heap.get?_update_other _ _ (Ne.symm hb)).trans (keep b o hb e)) (get?_update_seq hoH _) hout)
 rw [list_sort_plain]
 refine wpAny_bind (listItems_at ho rfl ?_)
 refine wpAny_bind (listUpdate_at ho rfl ?_ (by simpa using hz) (Nat.zero_le _))
 refine wpAny_bind (seqEpoch_at ho1 rfl ?_)
 refine wpAny_bind (wpAny_newTuple ?_ hz)
 refine wpAny_bind (wpAny_newList ?_ (Nat.zero_le _))
 refine wpAny_holding ?_
 show wpAny (model prog w) A _ P E { s with heap:=((s.heap.update a (Obj.mapSeq fun u0=>(#[]:Array Value))).push (seqObj "tuple" vs.toArray 0)).push (seqObj "list" #[] 0) }
 rw [hH]
 dsimp only
 by_cases h2:vs.toArray.size < 2
 ·rw [if_pos h2,if_pos h2]
  refine wpAny_bind (wpAny_pure ?_)
  rw [StateT.run_pure]
  refine wpAny_bind (wpAny_pure ?_)
  dsimp only
  have e:(arrOf (SortSt.mk' general' (vs.toArray.zip vs.toArray) #[] 7 none)).map (·.2)=vs.toArray:=by
   show (vs.toArray.zip vs.toArray).map (·.2)=_
   apply Array.toList_inj.mp
   simp [List.map_snd_zip]
  rw [e]
  exact fin vs (.refl _)
 ·rw [if_neg h2,if_neg h2]
  have hn2:2≤vs.length:=by simpa using h2
  refine wpAny_bind (mG (s:={ s with heap:=H }) htH (fun e=>by rw [e] at hn2;cases hn2) fun κ hκ=>?_)
  refine wpAny_bind (wpAny_mono (kat_run (vs:=vs) (ks:=vs) (Q:=fun st' s'=>∃ p:Array Nat,s'={ s with heap:=H }∧bx vs.length p∧arrOf st'=p.map (kas_item (vs.toArray.zip vs.toArray))∧failedOf st'=none)
   (G:=fun p s'=>s'={ s with heap:=H }∧bx vs.length p) rfl hn2 (by lia) (fun p st' s' u0 a2 a3 a4=>⟨p,a4.1,a4.2,a2,a3⟩) ?_) ?_ fun u0 u0 e=>e)
  ·exact k8 (cmp:=kas_ask prog w A κ vs) (s:={ s with heap:=H }) (fun i j C hi hj hc=>qe hκ hu (htH _ (by simp [hi])) (htH _ (by simp [hj])) hc) (qY (n:=vs.length) (by lia)) fun p hp=>⟨rfl,hp⟩
  ·rintro ⟨⟨⟩,st'⟩ s' ⟨p,rfl,hp,har,hf⟩
   dsimp only
   rw [kat_snds rfl har,hf]
   exact fin _ (ql hp)
end
section
variable {W:Wd} {A:Around} {s:Shared} {E:Value→Shared→Prop}
noncomputable def hFp (A:Around):List Addr:=match A.handled with | some (.ref e)=>[e] | _=>[]
theorem HOK.fp {h h':Heap} (H:HOK W A h) (k:∀ b∈hFp A,∀ o,h.get? b=some o→h'.get? b=some o):HOK W A h':=
 ⟨H.1,H.2.imp id fun zz0=>by obtain ⟨e,o,vs,a,b,c1,c2,c3⟩:=zz0;exact ⟨e,o,vs,a,k e (by unfold hFp;rw [a];simp) _ b,c1,c2,c3⟩⟩
theorem HOK.yk {h:Heap} (H:HOK W A h):∀ b∈hFp A,b < h.objs.size:=fun b hb=>by
 unfold hFp at hb
 rcases H.2 with h0 | ⟨e,o,vs,a,eo,_⟩
 ·rw [h0] at hb;simp at hb
 ·rw [a] at hb;simp at hb;subst hb;exact Heap.lt_size eo
theorem mA {I d:Addr} {es:List DictEntry} {m:Nat} (hne:I≠d) (hI:I∉hFp A):WalksS W.prog W.w A.in1 I (I::d::hFp A) [I] (fun a b=>b=a) es.length (fun i v=>∃ en,es[i]? = some en∧v=en.key)
  (fun i s=>HOK W A s.heap∧s.heap.IsKeyIter I d i es.length m∧s.heap.get? d=some (bH es m)) where
 sub:=fun b hb=>by simp at hb;simp [hb]
 grefl:=fun u0=>rfl
 gtrans:=fun u0 u0 u0 x y=>y.trans x
 frame:=fun i s h' tk yq0 u0 k=>by obtain ⟨H,⟨o,a,b⟩,c⟩:=yq0;exact ⟨H.fp fun b hb=>k b (by simp [hb]),⟨o,k I (by simp) _ a,b⟩,k d (by simp) _ c⟩
 item:=fun i s Q E hi zz2 hQ=>by
  obtain ⟨H,a,c⟩:=zz2
  obtain ⟨en,hen⟩:∃ en,es[i]? = some en:=⟨_,List.getElem?_eq_getElem hi⟩
  refine ez a c hen fun h' hit hs=>hQ _ _ ⟨en,hen,rfl⟩ ⟨H.fp fun b hb o e=>(hs.2 b (fun q=>hI (q▸hb))).trans e,hit,(hs.2 d (Ne.symm hne)).trans c⟩ ⟨fun b o hb e=>(hs.2 b (fun q=>hb (by simp [q]))).trans e,rfl,rfl,rfl,Nat.le_refl _⟩
 done:=fun s Q E yq1 hQ=>by obtain ⟨H,a,c⟩:=yq1;exact fV H.in1 a c (by simp) fun h' k=>hQ _ ⟨fun b o hb e=>k b o (fun q=>hb (by simp [q])) e,rfl,rfl,rfl,Nat.le_refl _⟩
 self:=fun i s Q E zz4 hQ=>by obtain ⟨H,a,c⟩:=zz4;exact wpAny_pyIter_keyiter a hQ
inductive u9 (s:Shared) (S:Addr) (es:List DictEntry) (q:Result) (s':Shared):Prop
 | mk (h':Heap) (tk:Nat) (acc':Array Value) (c':Nat) (e:q=.ok (.ret (.ref S))) (e':s'={ s with heap:=h',toks:=tk }) (k:∀ b o,s.heap.get? b=some o→h'.get? b=some o)
  (l:h'.get? S=some { cls:=.type "list",dict:=none,data:=.seq acc' c',slots:=#[] }) (i:ItemsOf (fun i v=>∃ en,es[i]? = some en∧v=en.key) acc' es.length)
theorem lI {d:Addr} {es:List DictEntry} {m:Nat} {Q:List Value→Shared→Prop} (H:HOK W A s.heap) (hd:(d == sysModules)=false) (ho:s.heap.get? d=some (bH es m)) (hn:es.length≤sizeLine)
  (h:∀ (h':Heap) (tk:Nat),(∀ b o,s.heap.get? b=some o→h'.get? b=some o)→Q (es.map (·.key)) { s with heap:=h',toks:=tk }) :
  wpAny (model W.prog W.w) A (collect (.ref d)) Q E s:=by
 have hlt:=Heap.lt_size ho
 unfold collect
 refine wpAny_bind (wpAny_runValue (codeAny_builtin entry_proto_collect' ?_))
 rw [Around.under_plainId PySem.F.plain_proto_collect _]
 show wpAny _ A.in1 (newList [] >>= fun l=>again (.builtin "list.__iadd__" ⟨[l,.ref d],[]⟩)) _ _ s
 refine wpAny_bind (wpAny_newObj_type ?_)
 refine wpAny_pure ⟨plainId_quiet PySem.F.plain_list_iadd _,codeAny_builtin entry_list_iadd' ?_⟩
 rw [Around.under_plainId PySem.F.plain_list_iadd _]
 generalize hS:s.heap.objs.size=S
 have hSd:S≠d:=by rw [← hS];exact Nat.ne_of_gt hlt
 have hS₁:(s.heap.push { cls:=.type "list",data:=.seq ([]:List Value).toArray }).get? S=some { cls:=.type "list",data:=.seq #[] }:=by rw [← hS];exact Heap.get?_push_size _ rfl
 have k1:∀ b o,s.heap.get? b=some o→(s.heap.push { cls:=.type "list",data:=.seq ([]:List Value).toArray }).get? b=some o:=fun b o e=>Heap.get?_push_of_some _ e
 have ltS:∀ b o,s.heap.get? b=some o→b≠S:=fun b o e=>by rw [← hS];exact Nat.ne_of_lt (Heap.lt_size e)
 have hsz1:(s.heap.push { cls:=.type "list",data:=.seq ([]:List Value).toArray }).objs.size=S+1:=by rw [size_push',hS]
 generalize hH1:s.heap.push { cls:=.type "list",data:=.seq ([]:List Value).toArray }=H1 at hS₁ k1 hsz1
 show wpAny _ A.in1 (Builtin.List.listExtendWith (.ref S) (.ref d) (.ref S)) _ _ { s with heap:=H1 }
 have fin:∀ (h':Heap) (tk:Nat) (acc:Array Value) c,(∀ b o,s.heap.get? b=some o→h'.get? b=some o)→h'.get? S=some { cls:=.type "list",dict:=none,data:=.seq acc c,slots:=#[] }→
   ItemsOf (fun i v=>∃ en,es[i]? = some en∧v=en.key) acc es.length→wpAny (model W.prog W.w) A (do
    match (← load S).data with
    | .seq xs _=>pure xs.toList
    | _=>unsupported "internal:collect") Q E { s with heap:=h',toks:=tk }:=fun h' tk acc c k hS' hacc=>by
  refine wpAny_bind (wpAny_load hS' ?_)
  have e:acc.toList=es.map (·.key):=by
   refine List.ext_getElem? fun j=>?_
   by_cases hj:j < acc.size
   ·have hg:acc[j]? = some acc[j]:=Array.getElem?_eq_getElem hj
    obtain ⟨en,h1,h2⟩:=hacc.2 j _ hg
    rw [Array.getElem?_toList,hg,List.getElem?_map,h1,h2];rfl
   ·have hj2:es.length≤j:=by have:=hacc.1;lia
    rw [List.getElem?_eq_none (by simpa using hj),List.getElem?_eq_none (by simpa using hj2)]
  show wpAny _ _ (pure acc.toList) _ _ _
  rw [e]
  exact wpAny_pure (h h' tk k)
 have key:∀ (h1:Heap) (c₁ tk:Nat),HOK W A h1→h1.IsKeyIter (S+1) d 0 es.length m→h1.get? d=some (bH es m)→(∀ b o,s.heap.get? b=some o→h1.get? b=some o)→
   h1.get? S=some { cls:=.type "list",data:=.seq #[] c₁ }→codeAny (model W.prog W.w) A (.builtin "list.extend.loop" ⟨[.ref S,.ref (S+1),.ref S],[]⟩)
    (u9 s S es) { s with heap:=h1,toks:=tk }:=by
  intro h1 c₁ tk HH hit hdd hk hS1
  have hI:S+1∉hFp A:=fun hm=>by
   have:=H.yk _ hm
   rw [hS] at this;exact absurd this (by simp)
  have hne:(S+1:Addr)≠d:=by
   intro e
   have:d < S:=hS▸hlt
   rw [← e] at this
   exact absurd this (by simp)
  refine codeAny_extend_loopS (mA (W:=W) (A:=A) (es:=es) (m:=m) hne hI) hn S ?_ (.ref S) es.length 0 _ #[] c₁ rfl (Nat.zero_le _) ⟨HH,hit,hdd⟩ hS1 (ItemsOf.nil _) fun s' acc' c' hm hS' hacc=>?_
  ·intro hm
   rcases List.mem_cons.mp hm with e | hm
   ·exact absurd e (by simp)
   ·rcases List.mem_cons.mp hm with e | hm
    ·exact hSd e
    ·have:=H.yk _ hm
     rw [hS] at this;exact Nat.lt_irrefl _ this
  ·refine ⟨s'.heap,s'.toks,acc',c',rfl,?_,fun b o e=>hm.heap b o (fun hmem=>?_) (hk b o e),hS',hacc⟩
   ·have e1:=hm.gens;have e2:=hm.drawn;have e3:=hm.os
    obtain ⟨_,_,_,_,_⟩:=s'
    dsimp only at e1 e2 e3
    subst e1 e2 e3;rfl
   ·rcases List.mem_cons.mp hmem with e' | hmem
    ·exact ltS _ _ e e'
    ·have hb:=Heap.lt_size e
     simp at hmem
     rw [hmem,hS] at hb;exact absurd hb (by simp)
 have body:wpAny (model W.prog W.w) A.in1 (Builtin.List.listExtendWith (.ref S) (.ref d) (.ref S))
   (fun fn s'=>match fn with | .done f=>u9 s S es (.ok f) s' | .again c'=>c'.quiet=true∧codeAny (model W.prog W.w) A c' (u9 s S es) s') (fun u0 u0=>False) { s with heap:=H1 }:=by
  unfold Builtin.List.listExtendWith
  have hdT:({ s with heap:=H1 }:Shared).TypeIs (.ref d) "dict":=aA (k1 _ _ ho)
  refine wpAny_bind (wpAny_typeOf (T:="dict") hdT ?_)
  have h1:Builtin.List.listSameRef (.ref S) (.ref d)=false:=by simp [Builtin.List.listSameRef,hSd]
  have h2:(Value.type "dict" == Value.type "list")=false:=by decide
  have h3:(Value.type "dict" == Value.type "tuple")=false:=by decide
  simp only [h1,h2,h3,Bool.or_false,Bool.false_eq_true,if_false]
  refine wpAny_bind (iK (W:=W) (s:={ s with heap:=H1 }) hd (k1 _ _ ho) ?_)
  show wpAny _ _ _ _ _ { s with heap:=H1.push _ }
  rw [hsz1]
  generalize hH2:H1.push { cls:=.type "dict_keyiterator",data:=.fields #[.ref d,.int 0 0,.int es.length 0,.int m 0] }=H2
  have k2:∀ b o,H1.get? b=some o→H2.get? b=some o:=fun b o e=>by rw [← hH2];exact Heap.get?_push_of_some _ e
  have hI2:H2.IsKeyIter (S+1) d 0 es.length m:=⟨_,by rw [← hH2,← hsz1];exact Heap.get?_push_size _ rfl,rfl,rfl⟩
  have hS2:=k2 _ _ hS₁
  have hd2:=k2 _ _ (k1 _ _ ho)
  have HH2:HOK W A H2:=H.fp fun b u0 o e=>k2 _ _ (k1 _ _ e)
  refine wpAny_bind (wpAny_holding (kdl_hint_dict (s:={ s with heap:=H2 }) (aA hd2) ?_))
  refine wpAny_ite_split (fun u0=>?_) (fun u0=>wpAny_pure ⟨plainId_quiet PySem.F.plain_extend_loop _,key _ _ _ HH2 hI2 hd2 (fun b o e=>k2 _ _ (k1 _ _ e)) hS2⟩)
  refine wpAny_bind (wpAny_rule ?_)
  refine wpAny_bind ?_
  show wpAny _ _ (updateSeq S (·.push .none) >>= fun u0=>updateSeq S (·.pop)) _ _ _
  refine wpAny_bind (wpAny_updateSeq hS2 rfl ?_)
  have hS3:=Heap.get?_update_self (Obj.mapSeq (·.push Value.none)) hS2 rfl
  refine wpAny_updateSeq (hz:=by seq_fits) hS3 rfl ?_
  have hS4:=Heap.get?_update_self (Obj.mapSeq (·.pop)) hS3 rfl
  have k4:∀ b o,b≠S→H2.get? b=some o→((H2.update S (Obj.mapSeq (·.push Value.none))).update S (Obj.mapSeq (·.pop))).get? b=some o:=fun b o hb e=>
   (Heap.get?_update_other _ _ (Ne.symm hb)).trans ((Heap.get?_update_other _ _ (Ne.symm hb)).trans e)
  refine wpAny_pure ⟨plainId_quiet PySem.F.plain_extend_loop _,key _ _ _ (H.fp fun b u0 o e=>k4 _ _ (ltS _ _ e) (k2 _ _ (k1 _ _ e))) ?_ (k4 _ _ (Ne.symm hSd) hd2) (fun b o e=>k4 _ _ (ltS _ _ e) (k2 _ _ (k1 _ _ e))) hS4⟩
  obtain ⟨o,a,b⟩:=hI2
  exact ⟨o,k4 _ _ (by simp) a,b⟩
 refine wpAny_mono body (fun fn s' x=>?_) fun e s' x=>x.elim
 cases fn with
 | done f=>
  obtain ⟨h',tk,acc',c',e,rfl,hk,hS',hacc⟩:=x
  injection e with z0a;try subst z0a
  exact fin _ _ _ _ hk hS' hacc
 | again c₁=>
  refine ⟨x.1,codeAny_mono x.2 fun q s₂ y=>?_⟩
  obtain ⟨h',tk,acc',c',rfl,rfl,hk,hS',hacc⟩:=y
  exact fin _ _ _ _ hk hS' hacc
end
end Mine
namespace Mine
open PySem PySem.Calls PyProof.Rows PySem.SeqAt PySem.W
theorem VRs.perm {W:Wd} {h:Heap} {P:Addr→Prop} {vs out:List Value} (p:out.Perm vs):∀ {ds},VRs W h P ds vs→∃ ds',ds'.Perm ds∧VRs W h P ds' out:=by
 induction p with
 | nil=>exact fun r=>⟨_,.refl _,r⟩
 | cons v _ ih=>
  intro ds r
  cases ds with
  | nil=>cases r
  | cons d ds=>
   obtain ⟨_,_,e,a,b⟩:=r
   injection e with z0a z0b;try subst z0a;try subst z0b
   obtain ⟨ds',p,q⟩:=ih b
   exact ⟨d::ds',p.cons d,_,_,rfl,a,q⟩
 | swap v w l=>
  intro ds r
  match ds,r with
  | d::e::ds,⟨_,_,e1,a,_,_,e2,b,r⟩=>injection e1 with z0a z0b;try subst z0a;try subst z0b;injection e2 with z0a z0b;try subst z0a;try subst z0b;exact ⟨e::d::ds,.swap ..,_,_,rfl,b,_,_,rfl,a,r⟩
  | [_],⟨_,_,e1,_,e2⟩=>injection e1 with z0a z0b;try subst z0a;try subst z0b;cases e2
  | [],r=>cases r
 | trans _ _ ih1 ih2=>
  intro ds r
  obtain ⟨ds1,p1,q1⟩:=ih2 r
  obtain ⟨ds2,p2,q2⟩:=ih1 q1
  exact ⟨ds2,p2.trans p1,q2⟩
theorem aM.yr {W:Wd} {h:Heap} {es ks vs} (r:aM W.w h es ks vs) (hk:∀ k∈ks,k.kind=2):∀ v∈es.map (·.key),eZ h v:=by
 induction r with
 | nil=>exact fun u0 q=>aE q
 | @cons e k es ks vs a b _ ih=>
  refine List.forall_mem_cons.mpr ⟨?_,ih fun x hx=>hk x (List.mem_cons_of_mem _ hx)⟩
  have:=hk k List.mem_cons_self
  cases k with
  | tup is=>
   obtain ⟨a',us,n,e1,e2,e3⟩:=a
   show eZ h e.key;rw [e1]
   refine ⟨e2,?_⟩
   clear e1 e2 b this hk ih
   induction is generalizing us with
   | nil=>rw [show us=[] from e3];exact fun u0 q=>aE q
   | cons i is ih=>obtain ⟨t,r,rfl,q⟩:=e3;exact List.forall_mem_cons.mpr ⟨⟨i,t,rfl⟩,ih _ q⟩
  | _=>cases this
section
variable {c:Cx} {ρ:List Sl} {k:Nat} {F:Fp} {s:Shared} {l:Lv} {Q:D→Nat→Prop} {X:Nat→Prop} {e:Expr} {P:Post}
theorem ij {W:Wd} {A:Around} {s:Shared} {E:Value→Shared→Prop} {d:Addr} {es:List DictEntry} {m:Nat} {Q:Value→Shared→Prop} (H:HOK W A s.heap) (hu:A.units+100 < cLine) (hd:(d == sysModules)=false) (ho:s.heap.get? d=some (bH es m))
  (ht:∀ v∈es.map (·.key),eZ s.heap v) (h64:es.length < 64)
  (h:∀ l h' tk (out:List Value) e,s.heap.get? l=none→(∀ b o,s.heap.get? b=some o→h'.get? b=some o)→h'.get? l=some (fP out e)→out.Perm (es.map (·.key))→Q (.ref l) { s with heap:=h',toks:=tk }) :
  wpAny (model W.prog W.w) A (PySem.call (.builtin "sorted") [.ref d]) Q E s:=by
 have hlen:(es.map (·.key)).length < 64:=by rwa [List.length_map]
 refine Calls.call_function_entry kind_sorted plain_sorted entry_sorted (args_sorted1 _) ?_
 unfold Builtin.«sorted»
 refine wpAny_bind (m:=checkCount "sorted" 1 1 _) (wpAny_pure ?_)
 refine wpAny_bind (lI (W:=W) (A:=A.in1) H.in1 hd ho (by rw [sizeLine_eq];lia) fun h1 tk k1=>?_)
 refine wpAny_bind (wpAny_newList ?_ (by rw [sizeLine_eq];lia))
 show wpAny _ _ _ _ _ { s with heap:=h1.push (seqObj "list" (es.map (·.key)).toArray 0),toks:=tk }
 have k2:∀ b o,s.heap.get? b=some o→(h1.push (seqObj "list" (es.map (·.key)).toArray 0)).get? b=some o:=fun b o e=>Heap.get?_push_of_some _ (k1 _ _ e)
 have hoL:(h1.push (seqObj "list" (es.map (·.key)).toArray 0)).get? h1.objs.size=some (seqObj "list" (es.map (·.key)).toArray 0):=Heap.get?_push_size _ rfl
 have hn:s.heap.get? h1.objs.size=none:=by
  cases e:s.heap.get? h1.objs.size with
  | none=>rfl
  | some o=>exact absurd (Heap.lt_size (k1 _ _ e)) (Nat.lt_irrefl _)
 refine wpAny_bind (wpAny_holding (wpAny_call_entry slot_list_sort ⟨_,hoL,rfl⟩ entry_list_sort ?body (args_list_sort _)))
 case body=>
  refine iw (s:={ s with heap:=h1.push (seqObj "list" (es.map (·.key)).toArray 0),toks:=tk }) (by have:=hu;simp;lia) hoL (fun v hv=>(ht v hv).keep fun b o e u0=>k2 b o e) hlen fun h' out e kk hl' hout=>?_
  refine ⟨_,rfl,wpAny_pure ⟨_,rfl,h _ h' tk out e hn (fun b o q=>kk b o ?_ (k2 b o q)) hl' hout⟩⟩
  rintro rfl
  exact gno hn q
theorem pP.yr {ks xs} {R:D→Prop} (hk:∀ k∈ks,k.kind=2) (hl:ks.length < 64) (q:∀ ds,ds.Perm (ks.map Key.toD)→R (.lst ds)):pP c (fun v=>PySem.call (.builtin "sorted") [v]) (.dct ks xs) R:=by
 rintro ok P s _ hf ⟨a,vs,_,rfl,⟨_,hsm,es,n,e,kr,_⟩,_,_⟩ w0 Q E h
 refine ij w0.hand (by have:=ok.room.2;lia) hsm e (kr.yr hk) (by rw [kr.length.1];exact hl) fun l h' tk out e' hn k hl' hp=>?_
 obtain ⟨ds,p,r⟩:=VRs.perm hp (VRs.ofKeys (P:=P) kr)
 exact h _ _ _ (q ds p) ⟨h',tk,rfl,k⟩ ⟨_,out,_,rfl,⟨rfl,_,hl'⟩,List.forall_mem_singleton.mpr (hf _ hn),r.grow k⟩
theorem g6.pas {e:Value} {s':Shared} (hX:∀ k,X k→P .exc ρ k) (p:Pas c F (g6 ρ X) s e s'):Pas c F P s e s':=by
 obtain ⟨a,fl,e,h,⟨ρ',k',F',⟨_,rfl,q⟩,r1,r2,r3,r4⟩⟩:=p
 exact ⟨a,fl,e,h,ρ',k',F',hX _ q,r1,r2,r3,r4⟩
theorem tz {x:Str} {i:Nat} {px pos} (hs:bL c x i=true) (hc:bE e=true) (h:EvX c ρ k e (fun d k'=>P .next (ρ.set i (.im d)) k') fun k'=>P .exc ρ k'):TrS c ρ k (.Assign [.Name x px] e pos) P:=fun ok u0 F s x0=>
 bg (bD hc) cB rfl (wpAny_mono (h ok F s x0) (fun u0 u0 r=>by
  obtain ⟨_,_,q,r,x1,st⟩:=r
  exact wpAny_assign_Name (x1.xM ok hs .im r fun u0 x2 st2=>.here x2 ((Stp.of_keep st x1.pen).trans st2) q rfl)) fun u0 u0=>g6.pas fun u0 h=>h)
theorem wg {R:List D→Nat→Prop} (h:EvX c ρ k e (fun d k'=>∃ ds,fS d ds∧R ds k') fun k'=>P .exc ρ k'):qG c ρ k .im false e R P:=fun ok u0 F s x=>
 wpAny_mono (h ok F s x) (fun u0 u0 r=>noE (so r) fun u0 u0 q=>q) fun u0 u0=>g6.pas fun u0 h=>h
end
end Mine
namespace Mine
open PySem PySem.Calls PyProof.Rows PySem.SeqAt PySem.W
section
variable {c:Cx} {ρ:List Sl} {k:Nat}
theorem kz {k v:Expr} {env:Env} {pos:Pos}:pairTrees [some k] [v] env pos=[(eval k env,do let x ← eval v env;standAt pos;pure x)]:=rfl
theorem sP {kx vx:Expr} {pos:Pos} {Q:O→Nat→Prop} (h:Ev c ρ k .any kx fun y k1=>Ev c ρ k1 .any vx fun z k2=>∃ kk:Key,y=kk.toD∧z.flat=true∧Q (.dct [kk] [z]) k2):EvO c ρ k (.Dict [some kx] [vx] pos) Q:=fun ok F s x=>by
 refine wpAny_Dict_any rfl rfl (List.cons_ne_nil _ _) (Nat.le_of_ble_eq_true rfl) ?_
 have g:bP s { s with heap:=s.heap.push { cls:=.type "dict",data:=.dict #[] } }:=.push _ s.toks
 have hd0:(s.heap.push { cls:=.type "dict",data:=.dict #[] }).get? s.heap.objs.size=some (bH [] 0):=Heap.get?_push_size _ rfl
 have nd:=fY s.heap
 have hsm:=x.w0.xT
 generalize s.heap.objs.size=d at hd0 nd hsm ⊢
 have np:c.pen≠some d:=(x.xm (l:=.im) nd).2.1
 rw [kz]
 refine evalPairs_cons (noE (h ok F _ (x.grow g)) fun v1 s1 r=>?_)
 obtain ⟨y,k1,h1,r1,x1,st1⟩:=r
 refine wpAny_bind (noE (h1 ok F s1 x1) fun v2 s2 r=>?_)
 obtain ⟨z,k2,⟨kk,rfl,hf,q⟩,r2,x2,st2⟩:=r
 have st12:=st1.trans st2
 have hd2:=(st12 _ _ hd0 np).1 (by simp)
 refine wpAny_bind (wpAny_standAt (wpAny_pure (evalPairs_nil ?_)))
 unfold storeAll
 rw [List.forIn_cons]
 refine wpAny_bind (wpAny_bind (fj (k:=kk) (ks:=[]) (vs:=[]) ok.room.u0 hd2 .nil .nil (x1.vr st2 r1).key rfl (Nat.zero_le _) fun h' t es' m' a1 a2 a3=>wpAny_pure ?_))
 show wpAny _ _ (pure PUnit.unit) _ _ _
 refine wpAny_pure ?_
 obtain ⟨w,_,pn⟩:=x2.yb ok t a3 hd2 nofun (fun u0 h=>by cases h) np (x.fresh nd)
 have st:av c.pen s.heap h':=fun b o e hp=>by
  have hb:b≠d:=fun q=>by rw [q] at e;exact gno nd e
  obtain ⟨k1,sl,k2⟩:=st12 b o (g.keep e) hp
  exact ⟨fun hc=>(a3.2 b hb).trans (k1 hc),sl,(a3.2 b hb).trans k2⟩
 have kr:KR c.W h' (.dct [kk]) d [v2] [d]:=⟨rfl,hsm,es',m',a1,a2,List.pairwise_singleton ..⟩
 exact ⟨_,k2,[d],q,⟨d,[v2],[d],[],rfl,kr,VOs.xD (.one ((VR.flat hf r2).xl (P:=fun u0=>False) (fun b o e c'=>(a3.2 b fun q=>(by
  rcases c' with c' | c'
  ·exact c'.1
  ·rw [q] at e;obtain rfl:=geq hd2 e;simp at c')).trans e) fun u0 q u0=>q.elim)),rfl⟩,List.pairwise_singleton ..,List.forall_mem_singleton.mpr ⟨nd,kr.live d (List.mem_singleton.mpr rfl),(x.xm (l:=.im) nd).2.2⟩,x.step st w pn,st⟩
theorem sf {a b:Expr} {pos pos':Pos} {Q:O→Nat→Prop} (hs:[a].all ah=true) (h:Ev c ρ k .im a fun x k1=>Ev c ρ k1 .any b fun y k2=>∃ m:Int,y=.int m∧0≤m∧m.toNat≤2 ^ 24∧Q (.lst (List.replicate m.toNat x)) k2):EvO c ρ k (.BinOp (.List [a] pos') .Mult b pos) Q:=fun ok F s x=>
 wpAny_BinOp (noE (ev2 (P:=fun x y k2=>∃ (d:D) (m:Int),x=.lst [d]∧y=.int m∧0≤m∧m.toNat≤2 ^ 24∧Q (.lst (List.replicate m.toNat d)) k2) (jf hs (h.mono fun d k1 h=>⟨Nat.le_of_ble_eq_true rfl,h.mono fun y k2 w=>by
  obtain ⟨m,e,hm0,hm,q⟩:=w
  exact ⟨d,m,rfl,e,hm0,hm,q⟩⟩)) ok x) fun u0 u0 h1=>noE h1 fun u0 s2 w=>by
  obtain ⟨_,_,k2,⟨d,m,rfl,rfl,h0,hm,q⟩,r1,r2,x2,st⟩:=w
  obtain ⟨a,_,_,rfl,⟨_,k1,e1⟩,_,v,_,rfl,r1,rfl⟩:=r1
  obtain ⟨u,rfl⟩:=r2
  refine wpAny_binaryOp_repeat_ref (T:="list") (U:="int") (by decide) ⟨_,e1,rfl⟩ (fun s'=>typeIs_int s' _ u) noFill_list_mul PySem.F.fills_int_mul PySem.F.slot_int_rmul repeat_list PySem.F.slot_int_index.lookup
   (call_meets PySem.F.slot_int_rmul (typeIs_int s2 _ u) PySem.F.entry_int_rmul (PySem.F.args_int_rmul_2 _ _) (int___rmul___int_list _ u a [v].toArray k1)
    ⟨e1,rfl,⟨_,e1,rfl⟩,call_meets PySem.F.slot_list_mul ⟨_,e1,rfl⟩ PySem.F.entry_list_mul (PySem.F.args_list_mul_2 _ _)
     (AutoListH.list___mul___list_int_3 a [v].toArray k1 _ u (by simp [Builtin.List.listFitsIndex];lia) (by simp;lia) (by simp [Builtin.List.listTooLong,sizeLine];lia)) ⟨e1,?_⟩⟩)
  rw [if_neg (by simp),oV,Array.empty_append]
  exact .node (t:=s2.toks) x2 st q (.rep r1 m.toNat) ⟨rfl,0,Heap.get?_push_size _ rfl⟩ (fun u0 u0 e=>Heap.get?_push_of_some _ e) (fY _))
end
end Mine
namespace Mine
open PySem PySem.Calls PyProof.Rows PySem.SeqAt PySem.W
section
variable {c:Cx} {ρ:List Sl} {k k' i j:Nat} {F F':Fp} {s s0 s1 s2 s3:Shared} {Q:Post} {f:Fn} {d:D} {a:Addr}
noncomputable def Cx.take (c:Cx) (a:Addr):Cx:={ c with pen:=some a }
theorem kL:(List.replicate j Sl.undef)[i]?.getD .undef=.undef:=by
 rw [List.getElem?_replicate];split <;> rfl
theorem SR.take (x0:SR c ρ k F s0) (x1:SR c ρ k' F s1) (hn:s0.heap.get? a=none) (hp:c.pen=none) (hacc:c.acc=none) {n t u m} (e:s1.heap.get? a=some (fP [.int n t,.int 0 u] m)):SR (c.take a) (List.replicate j .undef) 0 (fun u0=>[]) s1 where
 w0:=x1.w0
 keep:=fun b o h u0=>x1.keep b o h (by rw [hp];exact (fun h=>no1 h))
 pen:=fun b q=>by cases q;exact ⟨_,_,_,_,_,e,Int.le_refl _,Int.le_refl _⟩
 vals:=fun x i h=>by rw [kL];trivial
 nd:=fun u0=>.nil
 dj:=fun u0 u0 u0 u0 h=>aE h
 own:=fun u0 u0 h=>aE h
 env:=⟨x1.env.ns,x1.env.lo,x1.env.cell,x1.env.locN,x1.env.cellN⟩
 acc:=fun i b h=>by rw [show (c.take a).acc=c.acc from rfl] at h;exact gno hacc h
theorem aJ.take (ok:aJ c) (x0:SR c ρ k F s0) (hn:s0.heap.get? a=none):aJ (c.take a):=⟨ok.wok,ok.room,ok.env,ok.frm,ok.inj,ok.s0,ok.bh,fun b q=>by
 cases q
 cases e:c.W.base.get? a with
 | none=>exact e
 | some o=>exact gno hn (x0.w0.base _ _ e)⟩
theorem Out.yt (x0:SR c ρ k F s0) (hn:s0.heap.get? a=none) (hp:c.pen=none) (hacc:c.acc=none) (st:av c.pen s0.heap s1.heap) (hQ:∀ f ρ k,Q f ρ k→Q f [] k) {fv} (o:Out (c.take a) (fun u0=>[]) Q s1 fv s3):Out c F Q s0 fv s3:=by
 obtain ⟨f,ρ',k',F',q,r,x,s⟩:=o
 have ha:∀ b o,s0.heap.get? b=some o→(c.take a).pen≠some b:=fun b o e h=>by cases h;exact gno hn e
 have h0:c.h0.get? a=none:=x0.fresh hn
 refine ⟨f,[],k',fun u0=>[],hQ _ _ _ q,?_,⟨x.w0,fun b o e u0=>x.keep b o e fun h=>(by cases h;exact gno h0 e),fun b h=>(by exact gno hp h),fun u0 u0 u0=>trivial,fun u0=>.nil,fun u0 u0 u0 u0 h=>(aE h),fun u0 u0 h=>(aE h),⟨x.env.ns,x.env.lo,x.env.cell,x.env.locN,x.env.cellN⟩,fun i b h=>(by exact gno hacc h)⟩,⟨fun b o e h1 h2 h3 h4=>?_,fun u0 u0 h=>(aE h),fun b h=>?_⟩⟩
 ·cases f with
  | ret d=>exact r.imp fun v w=>⟨w.1,w.2.mono fun b h=>⟨h.1,(by rw [hp];exact (fun h=>no1 h))⟩⟩
  | _=>exact r
 ·obtain ⟨g1,sl,g2⟩:=st b o e h2
  obtain ⟨g3,g4⟩:=s.keep b _ g2 (fun u0 h=>aE h) (ha b o e) h3 h4
  refine ⟨fun hc=>(s.keep b o (g1 hc) (fun u0 h=>aE h) (ha b o e) h3 h4).1 hc,g4⟩
 ·have:=s.live b h
  cases e:s0.heap.get? b with
  | none=>rfl
  | some o=>obtain ⟨_,sl,g⟩:=st b o e (by rw [hp];exact (fun h=>no1 h));exact gno this g
theorem sd (ok:aJ c) (x0:SR c ρ k F s0) {x y:Str} {pos pos' p2:Pos} (hm:bF f=false) (hx:x=strV (aX f)) (hk:c.names.lookup x=some .globalImplicit) (hp:c.pen=none) (h:Ev c ρ k .any (.Name y p2) fun d k1=>b9 c.W c.n f [.vw d] k1 (fun r u0=>∃ n:Int,r=.lst [.int n,.int 0]) NoX) :
  wpAny c.M c.A (eval (.Call (.Name x pos') [.Name y p2] [] pos) c.env) (fun v s1=>∃ a k1 n t u m,v=.ref a∧s0.heap.get? a=none∧s1.heap.get? a=some (fP [.int n t,.int 0 u] m)∧SR c ρ k1 F s1∧av c.pen s0.heap s1.heap) NoE s0:=by
 have hv:gX c ρ k [.Name y p2] fun as k1=>b9 c.W c.n f as k1 (fun r u0=>∃ n:Int,r=.lst [.int n,.int 0]) NoX∧∃ d,as=[.vw d]:=uL (h.mono fun d k1 q=>⟨q,_,rfl⟩)
 refine Call_ (Name_function_global ok.env.kind (ok.env.glob x hk) (loadGlobal_global (env:=c.env) (by rw [ok.env.globals];exact ok.wok.g.keeps x0.w0.base) (hx▸ok.wok.name f hm) ?_) (by rw [hx];exact jr f))
 refine callWith_K (ok.wok.inb.keeps x0.w0.base) (ok.wok.keep f) (noE (hv.run rfl ok x0) fun vs s1 r=>?_) (ag rfl) (fD _ rfl).1
 obtain ⟨as,k2,⟨hC,d,rfl⟩,rs,x1,st⟩:=r
 refine ⟨ok.wok.inb.keeps x1.w0.base,wpAny_mono (hC c.A c.pen (fun u0=>False) (c.S F .any) s1 vs ok.room x1.w0 x1.pen ok.pn (fun a h=>h.elim False.elim Cx.S.xu) ?_) (fun v s2 r=>?_) fun v s2 r=>?_⟩
 ·obtain ⟨v,r,e,h1,h2⟩:=rs
  exact ⟨v,r,e,h1,h2⟩
 ·obtain ⟨d,k3,⟨n,rfl⟩,r,w,pn,st2⟩:=r
  obtain ⟨a,vs,as,rfl,⟨rfl,m,eo⟩,hP,rs⟩:=r
  obtain ⟨v1,_,rfl,⟨t,rfl⟩,v2,_,rfl,⟨u,rfl⟩,rfl⟩:=rs
  exact ⟨a,k3,n,t,u,m,rfl,st.fresh x1.pen ((hP a (List.mem_singleton.mpr rfl)).1.elim False.elim id),eo,x1.step st2 w pn,st.trans st2⟩
 ·obtain ⟨a,k3,_,q,_⟩:=r
  exact q.elim
theorem vI {es:List Stmt} {x y z:Str} {px p1 p2 p3 pos:Pos} (i j:Nat) (hp:c.pen=none) (hacc:c.acc=none) (hs:bL c x i=true) (hm:bF f=false) (hz:z=strV (aX f)) (hk:c.names.lookup z=some .globalImplicit) (hQ:∀ f ρ k,Q f ρ k→Q f [] k) (hX:∀ ρ k,¬ Q .exc ρ k)
  (hC:Ev c ρ k .any (.Name y p2) fun d k1=>b9 c.W c.n f [.vw d] k1 (fun r u0=>∃ n:Int,r=.lst [.int n,.int 0]) NoX) (h:∀ a,TrB (c.take a) ((List.replicate j .undef).set i .pen) 0 es Q):TrB c ρ k (.Assign [.Name x px] (.Call (.Name z p1) [.Name y p2] [] p3) pos::es) Q:=fun ok hf F s x0=>by
 have ex:execs (.Assign [.Name x px] (.Call (.Name z p1) [.Name y p2] [] p3) pos::es) c.env=(exec (.Assign [.Name x px] (.Call (.Name z p1) [.Name y p2] [] p3) pos) c.env >>= fun f=>match f with | PySem.Flow.next=>execs es c.env | f=>pure f):=rfl
 rw [ex]
 refine wpAny_bind (bg (bD rfl) cB rfl (noE (sd ok x0 hm hz hk hp hC) fun v s1 r=>?_))
 obtain ⟨a,k1,n,t,u,m,rfl,hn,eo,x1,st⟩:=r
 have ok':=ok.take x0 hn
 have y1:=x0.take (j:=j) x1 hn hp hacc eo
 obtain ⟨h1,h2,h3⟩:=eC (c:=c.take a) (i:=i) hs ok'
 refine wpAny_assign_Name (y1.put (z:=.pen) ok' kL h1 h2 h3 (fun h' hh pr=>⟨a,rfl,hh⟩) fun s2 x2 st2 u0=>?_)
 refine wpAny_mono (h a ok' hf _ s2 x2) (fun fv s3 o=>Out.yt x0 hn hp hacc st hQ (o.after st2)) fun e s3 o=>?_
 obtain ⟨_,_,_,_,_,_,_,q,_⟩:=o
 exact (hX _ _ q).elim
end
end Mine
namespace Mine
open PySem PySem.Calls PyProof.Rows PySem.SeqAt PySem.W
noncomputable abbrev pw:=PySem.Challenge.pw_pq0555_01
noncomputable def a6 (i:Nat):Stmt:=pw.main.body.getD i (.Pass ⟨0,0,0,0⟩)
noncomputable def a8 (s:Stmt):Arguments × List Stmt × Scope:=if h:s.ctorIdx=0 then Stmt.FunctionDef.elim (motive_2:=fun u0=>Arguments × List Stmt × Scope) s h fun u0 a b u0 u0 u0 s u0 u0 u0=>(a,b,s) else default
noncomputable def jE (s:Stmt) (i:Nat):Stmt:=if h:s.ctorIdx=2 then Stmt.ClassDef.elim (motive_2:=fun u0=>Stmt) s h fun u0 u0 u0 b u0 u0 u0 u0 u0 u0 u0=>b.getD i (.Pass ⟨0,0,0,0⟩) else s
noncomputable def dfT:Fn→Arguments × List Stmt × Scope
 | .bits=>a8 (a6 4) | .ruleInit=>a8 (jE (a6 9) 0) | .gramInit=>a8 (jE (a6 10) 0) | .symbolCount=>a8 (jE (a6 10) 1) | .isTerminal=>a8 (jE (a6 10) 2) | .number=>a8 (jE (a6 10) 4) | .rulesOf=>a8 (jE (a6 10) 5)
 | .lastTerminal=>a8 (a6 11) | .plainGrammar=>a8 (a6 12) | .spread=>a8 (a6 14) | .nullable=>a8 (a6 15) | .productive=>a8 (a6 16) | .firstOf=>a8 (a6 17) | .firstMasks=>a8 (a6 18) | .followMasks=>a8 (a6 19)
 | .rowsJoined=>a8 (a6 20) | .allWords=>a8 (a6 21) | .wordsUpTo=>a8 (a6 22) | .unitOrder=>a8 (a6 24) | .wordsOver=>a8 (a6 25) | .treeCounts=>a8 (a6 26) | .lawPen=>a8 (a6 28) | .lawDraw=>a8 (a6 29) | .lawRules=>a8 (a6 30)
 | .lawOpened=>a8 (a6 31) | .lawNamed=>a8 (a6 32) | .lawWords=>a8 (a6 33) | .lawTold=>a8 (a6 34) | .law=>a8 (a6 35)
noncomputable def boT (f:Fn):List Stmt:=(dfT f).2.1
noncomputable def nmT (f:Fn):List (Str × NameKind):=(dfT f).2.2.names
noncomputable def slT:Fn→List (Str × Nat)
 | .bits=>[("mask",0),("found",1),("at",2),("left",3)]
 | .ruleInit=>[("self",0),("number",1),("left",2),("right",3),("level_of",4),("action",5),("line",6),("before",7)]
 | .gramInit=>[("self",0),("names",1),("terminal_count",2),("rules",3),("levels",4),("expect",5),("start",6),("rule",7)]
 | .symbolCount=>[("self",0)]
 | .isTerminal=>[("self",0),("symbol",1)]
 | .number=>[("self",0),("name",1)]
 | .rulesOf=>[("self",0),("symbol",1)]
 | .lastTerminal=>[("right",0),("terminal_count",1),("found",2),("symbol",3)]
 | .plainGrammar=>[("pairs",0),("start",1),("lefts",2),("left",3),("parts",4),("begin",5),("names",6),("name",7),("count",8),("rules",9),("right",10)]
 | .spread=>[("grammar",0),("known",1),("found",2),("lacking",3),("users",4),("queue",5),("rule",6),("missing",7),("symbol",8),("at",9),("number",10),("left",11)]
 | .nullable=>[("grammar",0)]
 | .productive=>[("grammar",0)]
 | .firstOf=>[("symbols",0),("nullables",1),("firsts",2),("mask",3),("symbol",4)]
 | .firstMasks=>[("grammar",0),("nullables",1),("firsts",2),("symbol",3),("is_grown",4),("rule",5),("mask",6)]
 | .followMasks=>[("grammar",0),("nullables",1),("firsts",2),("follows",3),("is_grown",4),("rule",5),("behind",6),("symbol",7)]
 | .rowsJoined=>[("parts",0),("length",1),("found",2),("part",3),("longer",4),("begin",5),("word",6)]
 | .allWords=>[("grammar",0),("length",1),("words",2),("symbol",3),("is_word",4),("is_grown",5),("rule",6),("word",7)]
 | .wordsUpTo=>[("grammar",0),("length",1)]
 | .unitOrder=>[("grammar",0),("nullables",1),("needs",2),("symbol",3),("rule",4),("solid",5),("others",6),("order",7),("placed",8),("many",9)]
 | .wordsOver=>[("grammar",0),("right",1),("length",2),("words",3),("reach",4),("symbol",5),("later",6),("ahead",7),("left",8),("longer",9),("many",10),("some",11),("word",12)]
 | .treeCounts=>[("grammar",0),("length",1),("order",2),("words",3),("many",4),("symbol",5),("found",6),("rule",7),("some",8),("word",9),("start",10)]
 | .lawPen=>[("script",0),("number",1),("cell",2)]
 | .lawDraw=>[("pen",0),("many",1),("digit",2)]
 | .lawRules=>[("pen",0),("names",1),("is_plain",2),("pairs",3),("name",4),("many",5),("at",6),("some",7),("row",8)]
 | .lawOpened=>[("pairs",0),("number",1),("place",2),("left",3),("right",4),("some",5)]
 | .lawNamed=>[("grammar",0),("mask",1)]
 | .lawWords=>[("grammar",0),("found",1),("some",2),("word",3)]
 | .lawTold=>[("grammar",0),("names",1),("empties",2),("having",3),("firsts",4),("follows",5),("found",6),("name",7),("spot",8),("begins",9)]
 | .law=>[("script",0),("pen",1),("pairs",2),("names",3),("spots",4),("number",5),("place",6),("plain",7),("other",8),("due",9),("heard",10),("name",11)]
noncomputable def paT (f:Fn):Nat:=[1,8,7,1,2,2,2,2,2,2,1,1,3,1,1,2,2,2,1,4,2,1,2,1,3,2,1,2,1].getD f.ctorIdx 2
noncomputable def psT (f:Fn):List Str:=((slT f).take (paT f)).map (·.1)
noncomputable def ddT (f:Fn):List D:=bif f.ctorIdx == 1 then [.nul,.int 0,.int 0] else bif f.ctorIdx == 8 then [.nul] else []
noncomputable def jV:Cls→Fn | .rule=>.ruleInit | .gram=>.gramInit
structure Prg (W:Wd):Prop where
 wok:WOK W
 fn:∀ f,∃ fd,FnC W (W.fa f) fd (boT f)∧fd.scope.names=nmT f∧ie W fd (psT f) (slT f) (paT f - (ddT f).length) (ddT f)
 cls:∀ c,vh W c (W.fa (jV c))
 exc:∃ T fI,tC W T fI
 gE:∃ v,W.mg "END" = some v∧VR W W.base (fun u0=>False) (.int 0) v
 gR:∃ v,W.mg "ERROR" = some v∧VR W W.base (fun u0=>False) (.int 1) v
 gO:∃ v,W.mg "OWN_TERMINALS" = some v∧VR W W.base (fun u0=>False) (.tup [.str [36,101,110,100],.str [101,114,114,111,114],.str [36,117,110,100,101,102,105,110,101,100]]) v
theorem ltL {i:Nat} {l:List Sl} (h:Nat.ble (i+1) l.length=true):i < l.length:=Nat.le_of_ble_eq_true h
theorem eM:∀ {xs:List D},O.xv (xs.map .leaf)=xs:=by
 intro xs
 induction xs with
 | nil=>
  exact rfl
 | cons _ _ ihq=>
  exact congrArg _ ihq
theorem aH {kd:Kd} {xs:List D}:O.toD (.node kd (xs.map .leaf))=.node kd xs:=congrArg _ eM
theorem vW {c:Cx} {ρ:List Sl} {k i:Nat} {kd:Kd} {xs:List D} {es:List Stmt} {Q:Post} (hi:ρ[i]? = some (.own (.node kd (xs.map .leaf)))) (ha:c.acc=none) (h:TrB c (ρ.set i (.im (.node kd xs))) k es Q):TrB c ρ k es Q:=uC hi ha (aH▸h)
section
variable {W:Wd} {n k:Nat} {as:List Sl} {Q:D→Nat→Prop} {X:Nat→Prop}
theorem vJ {c:Cls}:fv W (jV c)=.ref (W.ca c):=by cases c <;> rfl
noncomputable abbrev fnC (W:Wd) (n:Nat) (f:Fn) (S0:Addr→Prop) (h0:Heap) (pen:Option Addr) (pin:Option Value) (A:Around) (env:Env):Cx:=gp W n (slT f) (nmT f) S0 h0 pen pin A env
theorem Prg.def_ (p:Prg W) (f:Fn) (hf:fv W f=.ref (W.fa f)) (hl:as.length=paT f - (ddT f).length) (m:Nat)
  (h:∀ S0 h0 pen A env,TrB (fnC W n f S0 h0 pen none A env) (as++(ddT f).map .im++List.replicate m .undef) k (boT f) (ot Q X)):b9 W (n+1) f as k Q X:=by
 obtain ⟨fd,FC,e,B⟩:=p.fn f
 exact b9.yq p.wok hf FC (hl▸B) m fun S0 h0 pen A env=>e▸h S0 h0 pen A env
theorem Prg.defP (p:Prg W) (f:Fn) {pen:Option Addr} (hf:fv W f=.ref (W.fa f)) (hl:as.length=paT f - (ddT f).length) (m:Nat)
  (h:∀ S0 h0 A env,TrB (fnC W n f S0 h0 pen none A env) (as++(ddT f).map .im++List.replicate m .undef) k (boT f) (ot Q X)):∀ A P Pv s vs,i5 (n+1) A→W0 W A s→c9 s.heap pen k→(∀ a,pen=some a→W.base.get? a=none)→(∀ a,P a∨Pv a→pen≠some a)→cX W s.heap P Pv pen as vs→wpAny (model W.prog W.w) A (PySem.call (fv W f) vs) (ui W A pen P s Q) (vR W A pen s X) s:=by
 obtain ⟨fd,FC,e,B⟩:=p.fn f
 exact pv p.wok hf FC (hl▸B) m fun S0 h0 A env=>e▸h S0 h0 A env
theorem Prg.yF (p:Prg W) (f:Fn) {c:Cls} {x0:Str} (hf:jV c=f) (hl:as.length+1=paT f - (ddT f).length) (hx:(psT f)[0]? = some x0) (m:Nat)
  (h:∀ S0 h0 pen q A env,TrB (fnC W n f S0 h0 pen (some q) A env) (.own (.node (.ins c []) [])::(as++(ddT f).map .im)++List.replicate m .undef) k (boT f) (sU Q)):b9 W (n+2) f as k Q X:=by
 subst hf
 obtain ⟨fd,FC,e,B⟩:=p.fn (jV c)
 exact b9.yd p.wok vJ (p.cls c) FC (hl▸B) hx m fun S0 h0 pen q A env=>e▸h S0 h0 pen q A env
end
end Mine
namespace Mine
open PySem PySem.Calls PyProof.Rows PySem.SeqAt PySem.W
noncomputable def mD:Program:=view pw [35]
noncomputable def lo:List PySem.Str:=["_wall","ToolError","GrammarError","bits","END","ERROR","OWN_TERMINALS","Rule","Grammar","last_terminal","plain_grammar","spread","nullable","productive","first_of","first_masks","follow_masks","rows_joined","all_words","words_up_to","unit_order","words_over","tree_counts","_law_pen","_law_draw","_law_rules","_law_opened","_law_named","_law_words","_law_told"]
noncomputable def faT:Fn→Addr
 | .bits=>68 | .ruleInit=>84 | .gramInit=>103 | .symbolCount=>110 | .isTerminal=>117 | .number=>131 | .rulesOf=>138 | .lastTerminal=>180
 | .plainGrammar=>186 | .spread=>191 | .nullable=>198 | .productive=>203 | .firstOf=>210 | .firstMasks=>217 | .followMasks=>224
 | .rowsJoined=>231 | .allWords=>236 | .wordsUpTo=>243 | .unitOrder=>248 | .wordsOver=>253 | .treeCounts=>258
 | .lawPen=>265 | .lawDraw=>272 | .lawRules=>277 | .lawOpened=>282 | .lawNamed=>287 | .lawWords=>292 | .lawTold=>299 | .law=>304
noncomputable def caT:Cls→Addr | .rule=>87 | .gram=>169
noncomputable def fvT (f:Fn):Value:=bif f.ctorIdx == 1 then .ref (caT .rule) else bif f.ctorIdx == 2 then .ref (caT .gram) else .ref (faT f)
noncomputable def q9 (h:Heap):Frag:=([3,87,86,169,168,59,58,46,45,69,77,181,29,36,35,68,67,84,83,103,102,110,109,117,116,131,130,138,137,180,179,186,185,191,190,198,197,203,202,210,209,217,216,224,223,231,230,236,235,243,242,248,247,253,252,258,257,265,264,272,271,277,276,282,281,287,286,292,291,299,298,304,303]:List Addr).filterMap fun a=>(h.get? a).map fun o=>(a,o)
noncomputable def qV:Data→Option FuncData | .func fd=>some fd | _=>none
noncomputable def fdK (K:Frag) (a:Addr):Option FuncData:=(K.lookup a).bind fun o=>qV o.data
noncomputable abbrev Obs:=FuncBody × Arguments × Scope × Addr × List (Str × Addr) × Addr × Value × Value
noncomputable def mZ (fd:FuncData):Obs:=(fd.body,fd.params,fd.scope,fd.globals,fd.closure,fd.builtins,fd.defaults,fd.kwdefaults)
noncomputable def dvT (f:Fn):Value:=bif f.ctorIdx == 1 then .ref 77 else bif f.ctorIdx == 8 then .ref 181 else .none
noncomputable def qZ (t:Arguments × List Stmt × Scope) (dv:Value):Obs:=(.stmts t.2.1,t.1,t.2.2,mainGlobals,[],builtinsNs,dv,.none)
noncomputable def exB:Arguments × List Stmt × Scope:=a8 (jE (a6 2) 0)
noncomputable abbrev OOV:=Option (Option Value)
noncomputable abbrev FdS:=Option (Obs × Bool)
noncomputable def fdS (K:Frag) (a:Addr):FdS:=(fdK K a).map fun fd=>(mZ fd,codeIn K fd.code fd.qualname)
noncomputable abbrev ClS:=OOV × OOV × Bool × List OOV × OOV × Bool × List OOV × Bool × OOV
noncomputable def clS (K:Frag) (c:Cls):ClS:=(findIn K (.ref (caT c)) "__getattribute__",findIn K (.ref (caT c)) "__getattr__",hasDictIn K (caT c),(aI c).map fun a=>findIn K (.ref (caT c)) (strV a),findIn K (.ref (caT c)) "__setattr__",plainOver K (caT c),(aI c).map fun a=>takerIn K (caT c) (strV a),makesIn K (caT c),findIn K (.ref (caT c)) "__init__")
noncomputable def clW (c:Cls):ClS:=(some (some (.builtin "object.__getattribute__")),some none,true,(aI c).map fun u0=>some none,some (some (.builtin "object.__setattr__")),true,(aI c).map fun u0=>some none,true,some (some (.ref (faT (jV c)))))
noncomputable abbrev DfS:=FdS × Option Value × Bool × OOV
noncomputable def dfS (K:Frag) (f:Fn):DfS:=(fdS K (faT f),typeIn K (.ref (faT f)),keepIn K (fvT f),if bF f then findIn K (.ref (caT .gram)) (strV (aX f)) else nsIn K mainGlobals (strV (aX f)))
noncomputable def dfW (f:Fn):DfS:=(some (qZ (dfT f) (dvT f),true),some (.type "function"),true,some (some (if bF f then .ref (faT f) else fvT f)))
noncomputable abbrev GlS:=List OOV × OOV × OOV × OOV × Option Obj × Option Obj × Option Obj × Option Obj
noncomputable def glS (K:Frag):GlS:=(dP.map fun y=>nsIn K mainGlobals y.1,nsIn K mainGlobals "END",nsIn K mainGlobals "ERROR",nsIn K mainGlobals "OWN_TERMINALS",K.lookup 69,K.lookup 77,K.lookup 181,K.lookup 29)
noncomputable def glW:GlS:=(dP.map fun u0=>some none,some (some (.int 0 262)),some (some (.int 1 264)),some (some (.ref 69)),some (dN [.str (strV [36,101,110,100]) 266,.str (strV [101,114,114,111,114]) 267,.str (strV [36,117,110,100,101,102,105,110,101,100]) 268] 0),some (dN [.int (-1) 283,.none,.int 0 284,.int 0 285] 0),some (dN [.none] 0),some (dN [.none] 0))
noncomputable abbrev ExS:=Option Obj × OOV × Option Value × OOV × OOV × OOV × Bool × Option Bool × Option Bool × OOV × OOV × Option CFound × FdS
noncomputable def exS (K:Frag):ExS:=(K.lookup 59,findIn K (.ref 59) "__init__",typeIn K (.ref 36),findIn K (.ref 59) "__setattr__",findIn K (.ref 59) "what",findIn K (.ref 59) "at",keepIn K (.ref 59),subIn K (.ref 59) (.type "object"),subIn K (.ref 59) (.type "Exception"),nsIn K mainGlobals "GrammarError",nsIn K mainGlobals "Exception",findCls K (.type "Exception") (.type "type") "__init__",fdS K 36)
noncomputable def exW:ExS:=(some (excClassObj "GrammarError" "GrammarError" 59 58 [.ref 46] [.ref 46,.type "Exception",.type "BaseException",.type "object"] true [] [] false none none (some (.ref 50)) none (some (.str "GrammarError" 234)) (some (.str "GrammarError" 242)) (some (.bool true)) "Exception.__new__"),some (some (.ref 36)),some (.type "function"),some (some (.builtin "object.__setattr__")),some none,some none,true,some true,some true,some (some (.ref 59)),some none,some (.val (.builtin "Exception.__init__")),some (qZ exB (.ref 29),true))
noncomputable abbrev Seen:=GlS × ClS × ClS × ExS × List DfS
noncomputable def uE (K:Frag):Seen:=(glS K,clS K .rule,clS K .gram,exS K,allF.map (dfS K))
noncomputable def uI:Seen:=(glW,clW .rule,clW .gram,exW,allF.map dfW)
noncomputable def Yf (s:Shared):Seen:=uE (q9 s.heap)
noncomputable def Ya (_:World):Seen:=uI
end Mine
namespace Mine
open PySem PySem.W PyProof.Rows
theorem left:LeftO pw mD lo (fun s=>xlAt mD [] s && recOk [] s) Yf Ya 4200:=fun w=>by kernel_rfl
theorem vp:namesResolve pw=true:=by kernel_rfl
theorem wJ:looksOpen pw=true:=by
 unfold looksOpen
 rw [vp]
 kernel_rfl
theorem wo:PySem.Challenge.rw_pq0555_01.row.wellSaid=true:=by
 show (looksOpen pw && _ && _ && _ && _ && _ && _ && _ && _ && _ && _ && _ && _ && _ && _ && _)=true
 rw [wJ]
 kernel_rfl
theorem said:PySem.Challenge.rw_pq0555_01.wellSaid=true:=by
 unfold OpenLaw.wellSaid
 rw [wo]
 kernel_rfl
end Mine
namespace Mine
open PySem PySem.Calls PyProof.Rows PySem.SeqAt PySem.W
structure V (c:Cx) (ρ:List Sl) (k:Nat) (l:Lv) (e:Expr) (d:D):Prop where
 go:∀ Q:D→Nat→Prop,Q d k→Ev c ρ k l e Q
structure TV (c:Cx) (ρ:List Sl) (k:Nat) (e:Expr) (b:Bool):Prop where
 go:∀ Q:Bool→Nat→Prop,Q b k→Tt c ρ k e Q
structure E1 (c:Cx) (ρ:List Sl) (k:Nat) (l:Lv) (e:Expr) (Q:D→Nat→Prop):Prop where
 go:Ev c ρ k l e Q
structure EO (c:Cx) (ρ:List Sl) (k:Nat) (e:Expr) (Q:O→Nat→Prop):Prop where
 go:EvO c ρ k e Q
structure EX (c:Cx) (ρ:List Sl) (k:Nat) (e:Expr) (Q:D→Nat→Prop) (X:Nat→Prop):Prop where
 go:EvX c ρ k e Q X
structure EC (c:Cx) (lw:Lv) (ρ:List Sl) (k:Nat) (e:Expr) (fe:Env→Option (Value→Sem Unit)→Sem Value) (Q:O→Nat→Prop):Prop where
 go:EvC c lw ρ k e fe Q
structure TB (c:Cx) (ρ:List Sl) (k:Nat) (es:List Stmt) (Q:Post):Prop where
 go:TrB c ρ k es Q
structure a7 (W:Wd) (n:Nat) (f:Fn) (as:List Sl) (k:Nat) (Q:D→Nat→Prop) (X:Nat→Prop):Prop where
 go:b9 W n f as k Q X
structure di (W:Wd) (n:Nat) (f:Fn) (as:List Sl) (k:Nat) (d:D):Prop where
 go:∀ (Q:D→Nat→Prop) (X:Nat→Prop),Q d k→a7 W n f as k Q X
inductive dH (c:Cx) (ρ:List Sl) (k:Nat):List Expr→List Sl→Prop
 | nil:dH c ρ k [] []
 | im {e d es as}:V c ρ k .im e d→dH c ρ k es as→dH c ρ k (e::es) (.im d::as)
 | vw {e d es as}:V c ρ k .any e d→dH c ρ k es as→dH c ρ k (e::es) (.vw d::as)
 | pen {z i pos es as}:aO c z i=true→ρ[i]? = some .pen→dH c ρ k es as→dH c ρ k (.Name z pos::es) (.pen::as)
noncomputable def uj (I:List Sl→Nat→Prop):Post:=fun f ρ k=>match f with | .next=>I ρ k | _=>False
noncomputable def Seq (c:Cx) (es:List Stmt) (Q:Post):Post:=fun f ρ k=>match f with | .next=>TB c ρ k es Q | f=>Q f ρ k
section
variable {W:Wd} {n:Nat} {as:List Sl} {X:Nat→Prop}
theorem a7.mono {m:Nat} {f:Fn} {k:Nat} {Q:D→Nat→Prop} (h:a7 W n f as k Q X) (hn:n≤m):a7 W m f as k Q X:=⟨h.go.mono hn⟩
theorem di.mono {m:Nat} {f:Fn} {k:Nat} {d:D} (h:di W n f as k d) (hn:n≤m):di W m f as k d:=⟨fun Q X q=>(h.go Q X q).mono hn⟩
theorem Prg.run (p:Prg W) (f:Fn) {k:Nat} {Q:D→Nat→Prop} (hf:fv W f=.ref (W.fa f)) (hl:as.length=paT f - (ddT f).length) (m:Nat)
  (h:∀ S0 h0 pen A env,TB (fnC W n f S0 h0 pen none A env) (as++(ddT f).map .im++List.replicate m .undef) k (boT f) (ot Q X)):a7 W (n+1) f as k Q X:=⟨p.def_ f hf hl m fun S0 h0 pen A env=>(h S0 h0 pen A env).go⟩
theorem Prg.xP (p:Prg W) (f:Fn) {k:Nat} {d:D} (hf:fv W f=.ref (W.fa f)) (hl:as.length=paT f - (ddT f).length) (m:Nat)
  (h:∀ (Q:D→Nat→Prop) (X:Nat→Prop) S0 h0 pen A env,Q d k→TB (fnC W n f S0 h0 pen none A env) (as++(ddT f).map .im++List.replicate m .undef) k (boT f) (ot Q X)):di W (n+1) f as k d:=⟨fun Q X q=>p.run f hf hl m fun S0 h0 pen A env=>h Q X S0 h0 pen A env q⟩
theorem Prg.yG (p:Prg W) (f:Fn) {k:Nat} {Q:D→Nat→Prop} {c:Cls} {x0:Str} (hf:jV c=f) (hl:as.length+1=paT f - (ddT f).length) (hx:(psT f)[0]? = some x0) (m:Nat)
  (h:∀ S0 h0 pen q A env,TB (fnC W n f S0 h0 pen (some q) A env) (.own (.node (.ins c []) [])::(as++(ddT f).map .im)++List.replicate m .undef) k (boT f) (sU Q)):a7 W (n+2) f as k Q X:=⟨p.yF f hf hl hx m fun S0 h0 pen q A env=>(h S0 h0 pen q A env).go⟩
end
section
variable {c:Cx} {ρ ρ':List Sl} {k i j:Nat} {l l':Lv} {e a b:Expr} {d x y r:D} {Q:Post} {es:List Stmt} {op:Operator} {cop:CmpOp} {pos px pos':Pos} {z:Str} {t:Bool}
theorem aa (hs:aO c z i=true) (hz:ρ[i]? = some (.im d)):V c ρ k l (.Name z pos) d:=⟨fun u0=>vP hs hz⟩
theorem fJ (hs:aO c z i=true) (hz:ρ[i]? = some (.vw d)) (hl:l≠.im:=by nofun):V c ρ k l (.Name z pos) d:=⟨fun u0=>wZ hs hz hl⟩
theorem aZ {kd:Kd} {xs:List D} (hs:aO c z i=true) (hz:ρ[i]? = some (.own (.node kd (xs.map .leaf)))):V c ρ k .any (.Name z pos) (.node kd xs):=⟨fun u0 q=>sH hs hz (aH▸q)⟩
theorem oc {o:O} (hs:aO c z i=true) (hz:ρ[i]? = some (.own o)) (h:o.toD=d):V c ρ k .any (.Name z pos) d:=⟨fun u0 q=>sH hs hz (h▸q)⟩
theorem ar {m:Int} {kk}:V c ρ k l (.Constant (.int m) kk pos) (.int m):=⟨fun u0=>j5⟩
theorem vt {m:Int} {kk}:V c ρ k l (.UnaryOp .USub (.Constant (.int m) kk pos') pos) (.int (-m)):=⟨fun u0=>vk⟩
theorem bl {m:Bool} {kk}:V c ρ k l (.Constant (.bool m) kk pos) (.bool m):=⟨fun u0=>t7⟩
theorem sE {kk}:V c ρ k l (.Constant .none kk pos) .nul:=⟨fun u0=>uu⟩
theorem cZ {m:Str} {kk}:V c ρ k l (.Constant (.str m) kk pos) (.str m.cps.toList):=⟨fun u0=>uV⟩
theorem mh {v:Value} (hv:c.W.mg z=some v) (r:VR c.W c.W.base (fun u0=>False) d v) (hk:c.names.lookup z=some .globalImplicit) (hd:(z == ("__debug__" : Str))=false):V c ρ k l (.Name z pos) d:=⟨fun u0=>tH hk hd hv r⟩
theorem aV {m m' r:Int} (h1:V c ρ k .any a (.int m)) (h2:V c ρ k .any b (.int m')) (h:IOp op m m' r):V c ρ k l (.BinOp a op b pos) (.int r):=⟨fun u0 q=>dZ (h1.go _ (h2.go _ ⟨_,_,_,rfl,rfl,h,q⟩))⟩
theorem eW (h1:V c ρ k l a x) (h2:V c ρ k l b y) (h:Pr2 c (binaryOp op) x y r):V c ρ k l (.BinOp a op b pos) r:=⟨fun u0 q=>u7 (h1.go _ (h2.go _ ⟨_,h,q⟩))⟩
theorem rF (h1:V c ρ k .any a x) (h2:V c ρ k .any b y) (h:Cmp c cop x y t) (hm:behindInMarks cop b=false):V c ρ k l (.Compare a [cop] [b] pos) (.bool t):=⟨fun u0 q=>rZ hm (h1.go _ (h2.go _ ⟨_,h,q⟩))⟩
theorem aC (h1:V c ρ k .any a x) (h2:V c ρ k .any b y) (h:Cmp c cop x y t) (hm:behindInMarks cop b=false):TV c ρ k (.Compare a [cop] [b] pos) t:=⟨fun u0 q=>nr hm (h1.go _ (h2.go _ ⟨_,h,q⟩))⟩
theorem ay (h1:V c ρ k l a x) (h2:V c ρ k .any b y) (h:iQ c x y r) (hs:bQ b=true):V c ρ k l (.Subscript a b pos) r:=⟨fun u0 q=>oG hs (h1.go _ (h2.go _ ⟨_,h,q⟩))⟩
theorem ax {n:Str} (h1:V c ρ k l a x) (h:iR c x n r) (hb:a0 a=true):V c ρ k l (.Attribute a n pos) r:=⟨fun u0 q=>tB hb (h1.go _ ⟨_,h,q⟩)⟩
theorem cy {m:Int} (h1:V c ρ k .any e x) (h:Pr1 c (fun v=>PySem.call (.builtin "len") [v]) x (.int m)) (hx:cF c "len" = true) (hs:ah e=true):V c ρ k l (.Call (.Name "len" pos') [e] [] pos) (.int m):=⟨fun u0 q=>u3 hx hs (h1.go _ ⟨_,h,q⟩)⟩
theorem gN {o:Expr} {apos:Pos} {ss:List Txt} {t:Txt} (h1:V c ρ k .any o (.lst (ss.map .str))) (h2:V c ρ k .any e (.str t)) (hi:ss.findIdx? (· == t)=some j) (hl:ss.length≤2 ^ 24) (ho:a0 o=true) (hs:ah e=true) (hp:(apos.endLine == pos.line)=true):V c ρ k l (.Call (.Attribute o "index" apos) [e] [] pos) (.int j):=⟨fun u0 q=>rr ho hs hp (h1.go _ ⟨ss,rfl,hl,h2.go _ ⟨t,j,rfl,hi,q⟩⟩)⟩
theorem vS {xs:List D} (h:V c ρ k l e (.lst xs)) (hl:xs.length≤2 ^ 24) (hx:cF c "list" = true) (hs:ah e=true):V c ρ k l (.Call (.Name "list" pos') [e] [] pos) (.lst xs):=⟨fun u0 q=>t9 hx hs (h.go _ ⟨_,xs,rfl,.inl rfl,hl,q⟩)⟩
theorem V.fl (h:V c ρ k .any e d) (hf:d.flat=true):V c ρ k l e d:=⟨fun u0 q=>oM (h.go _ ⟨hf,q⟩)⟩
theorem ey (h:V c ρ k .any e (.bool t)) (hp:g8 e=true):TV c ρ k e t:=⟨fun u0 q=>sM hp (h.go _ ⟨_,rfl,q⟩)⟩
theorem V.tv (h:V c ρ k .any e (.bool t)) (hp:g8 e=true:=by rfl):TV c ρ k e t:=ey h hp
theorem iA (h:TV c ρ k e t):TV c ρ k (.UnaryOp .Not e pos) !t:=⟨fun u0 q=>vF (h.go _ q)⟩
theorem fh {t':Bool} (h1:TV c ρ k a t) (h2:t=true→TV c ρ k b t'):TV c ρ k (.BoolOp .And [a,b] pos) (t && t'):=⟨fun u0 q=>vM (h1.go _ ⟨fun e=>(h2 e).go _ ⟨fun e'=>by rw [e,e'] at q;exact q,fun e'=>by rw [e,e'] at q;exact q⟩,fun e=>by rw [e] at q;exact q⟩)⟩
theorem dQ {kk} (h1:V c ρ k l a x) (h2:V c ρ k l b y) (hs:[a,b].all ah=true):V c ρ k l (.Tuple [a,b] kk pos) (.tup [x,y]):=⟨fun u0 q=>f7 hs (h1.go _ (h2.go _ ⟨Nat.le_of_ble_eq_true rfl,q⟩))⟩
theorem uW {kk} {f:Expr} {w:D} (h1:V c ρ k l a x) (h2:V c ρ k l b y) (h3:V c ρ k l f w) (hs:[a,b,f].all ah=true):V c ρ k l (.Tuple [a,b,f] kk pos) (.tup [x,y,w]):=⟨fun u0 q=>f7 hs (h1.go _ (h2.go _ (h3.go _ ⟨Nat.le_of_ble_eq_true rfl,q⟩)))⟩
theorem qJ {kk} (h1:V c ρ k l a x) (hs:[a].all ah=true):V c ρ k l (.Tuple [a] kk pos) (.tup [x]):=⟨fun u0 q=>f7 hs (h1.go _ ⟨Nat.le_of_ble_eq_true rfl,q⟩)⟩
theorem r7 {kk}:V c ρ k l (.Tuple [] kk pos) (.tup []):=⟨fun u0 q=>f7 rfl ⟨Nat.le_of_ble_eq_true rfl,q⟩⟩
theorem iG {u} (h:TV c ρ k u t) (h1:t=true→V c ρ k l a x) (h2:t=false→V c ρ k l b x):V c ρ k l (.IfExp u a b pos) x:=⟨fun u0 q=>v9 (h.go _ ⟨fun e=>(h1 e).go _ q,fun e=>(h2 e).go _ q⟩)⟩
theorem sI (h:V c ρ k l a x) (hs:[a].all ah=true):V c ρ k l (.List [a] pos) (.lst [x]):=⟨fun u0 q=>jf hs (h.go _ ⟨Nat.le_of_ble_eq_true rfl,q⟩)⟩
theorem nv (h:V c ρ k l a x) (h2:V c ρ k l b y) (hs:[a,b].all ah=true):V c ρ k l (.List [a,b] pos) (.lst [x,y]):=⟨fun u0 q=>jf hs (h.go _ (h2.go _ ⟨Nat.le_of_ble_eq_true rfl,q⟩))⟩
theorem ox:V c ρ k l (.List [] pos) (.lst []):=⟨fun u0 q=>jf rfl ⟨Nat.le_of_ble_eq_true rfl,q⟩⟩
theorem V.e1 {Q:D→Nat→Prop} (h:V c ρ k l e d) (q:Q d k):E1 c ρ k l e Q:=⟨h.go _ q⟩
theorem V.eo {Q:O→Nat→Prop} (h:V c ρ k .im e d) (q:Q (.leaf d) k):EO c ρ k e Q:=⟨bO (h.go _ q)⟩
theorem EO.e1 {Q:D→Nat→Prop} (h:EO c ρ k e fun o k'=>Q o.toD k'):E1 c ρ k l e Q:=⟨EvO.ev h.go⟩
theorem bS {Q:O→Nat→Prop} (q:Q (.lst []) k):EO c ρ k (.List [] pos) Q:=⟨sx rfl ⟨Nat.zero_le _,q⟩⟩
theorem cn {Q:O→Nat→Prop} (q:Q (.dct [] []) k):EO c ρ k (.Dict [] [] pos) Q:=⟨qN q⟩
theorem mc {Q:O→Nat→Prop} {kk:Key} (h1:V c ρ k .any a kk.toD) (h2:V c ρ k .any b d) (hf:d.flat=true) (q:Q (.dct [kk] [d]) k):EO c ρ k (.Dict [some a] [b] pos) Q:=⟨sP (h1.go _ (h2.go _ ⟨kk,rfl,hf,q⟩))⟩
theorem rP {xs:List D} {Q:O→Nat→Prop} (h:V c ρ k .im e (.lst xs)) (hl:xs.length≤2 ^ 24) (q:Q (.lst xs) k) (hx:cF c "list" = true) (hs:ah e=true):EO c ρ k (.Call (.Name "list" pos') [e] [] pos) Q:=⟨pD hx hs (h.go _ ⟨_,xs,rfl,.inl rfl,hl,q⟩)⟩
theorem qP {xs:List D} {Q:O→Nat→Prop} (h:V c ρ k .im e (.tup xs)) (hl:xs.length≤2 ^ 24) (q:Q (.lst xs) k) (hx:cF c "list" = true) (hs:ah e=true):EO c ρ k (.Call (.Name "list" pos') [e] [] pos) Q:=⟨pD hx hs (h.go _ ⟨_,xs,rfl,.inr rfl,hl,q⟩)⟩
theorem xi {u} {Q:O→Nat→Prop} (h:TV c ρ k u t) (h1:t=true→EO c ρ k a Q) (h2:t=false→EO c ρ k b Q):EO c ρ k (.IfExp u a b pos) Q:=⟨vU (h.go _ ⟨fun e=>(h1 e).go,fun e=>(h2 e).go⟩)⟩
theorem dH.run {es:List Expr} {as:List Sl} (h:dH c ρ k es as) {R:List Sl→Nat→Prop} (q:R as k):gX c ρ k es R:=by
 induction h generalizing R with
 | nil=>exact q
 | im h _ ih=>exact wB (h.go _ (ih q))
 | vw h _ ih=>exact uL (h.go _ (ih q))
 | pen hs hz _ ih=>exact vB hs hz (ih q)
theorem jD {f:Fn} {es:List Expr} {as:List Sl} {Q:D→Nat→Prop} {X:Nat→Prop} (h:dH c ρ k es as) (hC:a7 c.W c.n f as k Q X) (hx:z=strV (aX f)) (hk:c.names.lookup z=some .globalImplicit) (hm:bF f=false) (hs:es.all ah=true):EX c ρ k (.Call (.Name z pos') es [] pos) Q X:=⟨oN hm hx hk hs (h.run hC.go)⟩
theorem aS {f:Fn} {es:List Expr} {as:List Sl} {Q:D→Nat→Prop} (h:dH c ρ k es as) (hC:a7 c.W c.n f as k Q NoX) (hx:z=strV (aX f)) (hk:c.names.lookup z=some .globalImplicit) (hm:bF f=false) (hs:es.all ah=true):E1 c ρ k l (.Call (.Name z pos') es [] pos) Q:=⟨oX hm hx hk hs (h.run hC.go)⟩
theorem jh {f:Fn} {es:List Expr} {as:List Sl} (h:dH c ρ k es as) (hC:di c.W c.n f as k d) (hx:z=strV (aX f)) (hk:c.names.lookup z=some .globalImplicit) (hm:bF f=false) (hs:es.all ah=true):V c ρ k l (.Call (.Name z pos') es [] pos) d:=⟨fun u0 q=>oX hm hx hk hs (h.run (hC.go _ _ q).go)⟩
theorem i0 {f:Fn} {o:Expr} {ns:List Txt} {xs:List D} {es:List Expr} {as:List Sl} (h0:V c ρ k .im o (.node (.ins .gram ns) xs)) (h:dH c ρ k es as) (hC:di c.W c.n f (.im (.node (.ins .gram ns) xs)::as) k d) (hx:z=strV (aX f)) (hm:bF f=true) (hb:a0 o=true) (hs:es.all ah=true) (hlen:es.length < 30) (hl:(px.endLine == pos.line)=true)
  (hi:ns.findIdx? (· == aX f)=none):V c ρ k l (.Call (.Attribute o z px) es [] pos) d:=⟨fun u0 q=>rG hm hx hb hs hlen hl (h0.go _ ⟨_,_,rfl,hi,h.run (hC.go _ _ q).go⟩)⟩
theorem TB.seq {e:Stmt} (h:TrS c ρ k e (Seq c es Q)):TB c ρ k (e::es) Q:=⟨lU (TrS.mono h fun f ρ k=>by cases f <;> first | exact fun w=>w.go | exact id)⟩
theorem TB.mono {Q':Post} (h:TB c ρ k es Q) (hq:∀ f ρ k,Q f ρ k→Q' f ρ k):TB c ρ k es Q':=⟨TrB.mono h.go hq⟩
theorem aj (q:Q .next ρ k):TB c ρ k [] Q:=⟨i8 q⟩
theorem cb {kd:Kd} {xs:List D} (i:Nat) (hi:ρ[i]? = some (.own (.node kd (xs.map .leaf)))) (ha:c.acc=none) (h:TB c (ρ.set i (.im (.node kd xs))) k es Q):TB c ρ k es Q:=⟨vW hi ha h.go⟩
theorem nW {o:O} (i:Nat) (hi:ρ[i]? = some (.own o)) (ha:c.acc=none) (h:TB c (ρ.set i (.im o.toD)) k es Q):TB c ρ k es Q:=⟨uC hi ha h.go⟩
theorem az (i:Nat) (h:V c ρ k .im e d) (q:TB c (ρ.set i (.im d)) k es Q) (hs:bL c z i=true) (hc:bE e=true):TB c ρ k (.Assign [.Name z px] e pos::es) Q:=.seq (nB hs hc (h.go _ q))
theorem bU (i:Nat) (h:E1 c ρ k .im e fun d k'=>TB c (ρ.set i (.im d)) k' es Q) (hs:bL c z i=true) (hc:bE e=true):TB c ρ k (.Assign [.Name z px] e pos::es) Q:=.seq (nB hs hc h.go)
theorem uh (i:Nat) (h:EX c ρ k e (fun d k'=>TB c (ρ.set i (.im d)) k' es Q) fun k'=>Q .exc ρ k') (hs:bL c z i=true) (hc:bE e=true):TB c ρ k (.Assign [.Name z px] e pos::es) Q:=.seq (tz hs hc h.go)
theorem aQ (i:Nat) (h:EO c ρ k e fun o k'=>TB c (ρ.set i (.own o)) k' es Q) (hp:c.pin=none∨i≠0) (hs:bL c z i=true) (hc:bE e=true):TB c ρ k (.Assign [.Name z px] e pos::es) Q:=.seq (tN hs hp hc h.go)
theorem pA (i:Nat) (h:V c ρ k .vw e d) (q:TB c (ρ.set i (.vw d)) k es Q) (hs:bL c z i=true) (hc:bE e=true):TB c ρ k (.Assign [.Name z px] e pos::es) Q:=.seq (rR hs hc (h.go _ q))
noncomputable def swB (t:Bool) (z:Str) (px p:Pos) (s:Scope):Bool:=t && px.line == p.line && !(s.names.any fun (n,k)=>n == z && (k == .local || k == .cell))
theorem jO {elt:Expr} {gens scope p line} (ok:aJ c) (hf:c.fr=true) (hl:c.names.lookup z=some .local∨c.names.lookup z=some .cell):swapsWith (.ListComp elt gens scope p) (some (.Name z px)) line c.env=pure (swB (decide (c.names.lookup z=some .local)) z px p scope):=by
 have hk:(c.env.kindOf z == some .local)=decide (c.names.lookup z=some .local):=by
  rcases hl with h | h
  ·rw [ok.env.loc z h,h];rfl
  ·rw [(ok.frm hf).cel z h,h];rfl
 have hb:c.env.blockKind=.function:=by unfold Env.blockKind;refine Eq.symm ok.env.kind▸?_;rfl
 show pure (c.env.blockKind == .function && c.env.kindOf z == some .local && px.line == p.line && _)=_
 rw [hb,hk];rfl
theorem gZ {elt:Expr} {gens scope p} (i:Nat) (h:EC c .im ρ k (.ListComp elt gens scope p) (fQ elt gens scope p) fun o k'=>TB c (ρ.set i (.own o)) k' es Q) (hp:c.pin=none∨i≠0) (hs:bL c z i=true) (hfr:c.fr=true) (hl:c.names.lookup z=some .local) (hsw:swB true z px p scope=true) (hi:i < ρ.length):TB c ρ k (.Assign [.Name z px] (.ListComp elt gens scope p) pos::es) Q:=
 .seq (tP hs hp (fun ok=>(jO ok hfr (.inl hl)).trans (by rw [hl,decide_eq_true rfl,hsw])) (fun u0 u0=>rfl) hi h.go)
theorem rT {elt:Expr} {gens scope p} (i:Nat) (h:EO c ρ k (.ListComp elt gens scope p) fun o k'=>TB c (ρ.set i (.own o)) k' es Q) (hp:c.pin=none∨i≠0) (hs:bL c z i=true) (hfr:c.fr=true) (hl:c.names.lookup z=some .cell):TB c ρ k (.Assign [.Name z px] (.ListComp elt gens scope p) pos::es) Q:=
 .seq fun ok u0 F s x0=>bg ((jO ok hfr (.inr hl)).trans (by rw [hl];rfl)) cB rfl (noE (h.go ok F s x0) fun u0 u0 w=>by
  obtain ⟨_,_,_,q,r,nd,hN,x1,st⟩:=w
  exact wpAny_assign_Name (x0.yC ok x1 st hs hp r nd hN fun u0 x2 st2=>Out.here (f:=.next) x2 st2 q rfl))
theorem c6 {u} {a b:List Stmt} (I:List Sl→Nat→Prop) (h:TV c ρ k u t) (h1:t=true→TB c ρ k a (uj I)) (h2:t=false→TB c ρ k b (uj I)) (q:∀ ρ k,I ρ k→TB c ρ k es Q):TB c ρ k (.If u a b pos::es) Q:=
 .seq (TrS.mono (pj (h.go _ ⟨fun e=>(h1 e).go,fun e=>(h2 e).go⟩)) fun f ρ k w=>by cases f <;> first | exact q _ _ w | exact w.elim)
theorem dW {u} {a:List Stmt} (h:TV c ρ k u t) (h1:t=true→TB c ρ k a (Seq c es Q)) (h2:t=false→TB c ρ k es Q):TB c ρ k (.If u a [] pos::es) Q:=.seq (pj (h.go _ ⟨fun e=>(h1 e).go,fun q=>i8 (h2 q)⟩))
theorem a9 (h:V c ρ k .im e d) (q:Q (.ret d) ρ k):TB c ρ k (.Return (some e) pos::es) Q:=.seq (qQ (h.go _ q))
theorem d7 (h:E1 c ρ k .im e fun d k'=>Q (.ret d) ρ k'):TB c ρ k (.Return (some e) pos::es) Q:=.seq (qQ h.go)
theorem pB (q:Q .cont ρ k):TB c ρ k (.Continue pos::es) Q:=.seq (tW q)
inductive Turn (c:Cx) (u:Expr) (b:List Stmt) (es:List Stmt) (Q:Post) (I:Nat→List Sl→Nat→Prop) (m:Nat) (ρ:List Sl) (k:Nat):Prop
 | mk (t:Bool) (h:TV c ρ k u t) (h1:t=true→TB c ρ k b (Lp (fun ρ k=>∃ m',m' < m∧I m' ρ k) Q)) (h2:t=false→TB c ρ k es Q)
theorem gI {u} {b:List Stmt} (I:Nat→List Sl→Nat→Prop) {m:Nat} (h0:I m ρ k) (h:∀ m ρ k,I m ρ k→Turn c u b es Q I m ρ k):TB c ρ k (.While u b [] pos::es) Q:=.seq (sZ I h0 fun m ρ k hi=>by
 obtain ⟨t,h,h1,h2⟩:=h m ρ k hi
 exact h.go _ ⟨fun e=>((h1 e).mono fun f ρ k=>by cases f <;> exact id).go,h2⟩)
structure Src (c:Cx) (ρ:List Sl) (k:Nat) (l:Lv) (it:Expr) (ds:List D):Prop where
 go:∀ Q:List D→Nat→Prop,Q ds k→et c ρ k l false it Q
theorem V.src {it:Expr} {ds:List D} (h:V c ρ k l it d) (hi:fS d ds):Src c ρ k l it ds:=⟨fun u0 q=>rY (h.go _ ⟨ds,hi,q⟩)⟩
theorem cC {m:Nat} (h:V c ρ k .any e (.int m)) (hm:m≤2 ^ 24) (hx:cF c "range" = true) (hs:ah e=true):Src c ρ k l (.Call (.Name "range" pos') [e] [] pos) (cj 0 m):=⟨fun u0 q=>kW hx hs (h.go _ ⟨m,rfl,Int.natCast_nonneg _,by lia,q⟩)⟩
theorem oD {m m':Nat} (h:V c ρ k .any a (.int m)) (h':V c ρ k .any b (.int m')) (hm:m≤2 ^ 24) (hm':m'≤2 ^ 24) (hx:cF c "range" = true) (hs:[a,b].all ah=true):Src c ρ k l (.Call (.Name "range" pos') [a,b] [] pos) (cj m (m' - m)):=⟨fun u0 q=>qu hx hs (h.go _ (h'.go _ ⟨m,m',rfl,rfl,by lia,by rw [Int.toNat_sub];exact q⟩))⟩
theorem td {xs:List D} (h:V c ρ k l e (.tup xs)) (hl:xs.length≤2 ^ 24) (hq:c.W.qt=true) (hx:cF c "reversed" = true) (hs:ah e=true):Src c ρ k l (.Call (.Name "reversed" pos') [e] [] pos) xs.reverse:=⟨fun u0 q=>vf hq hx hs (h.go _ ⟨xs,rfl,hl,q⟩)⟩
theorem gG {m i:Nat} {a:Nat} (h:(cj a m)[i]? = some d):i < m∧d=.int ((a+i:Nat):Int):=by
 unfold cj at h
 have h:=(Eq.symm List.getElem?_map).trans h
 by_cases q:i < m
 ·rw [List.getElem?_range q] at h;cases h;exact ⟨q,rfl⟩
 ·rw [List.getElem?_eq_none (List.length_range▸Nat.le_of_not_lt q)] at h;cases h
theorem hU {m i:Nat} (h:(cj 0 m)[i]? = some d) {P:D→Prop} (k:i < m→P (.int (i:Int))):P d:=by
 obtain ⟨h1,rfl⟩:=gG (a:=0) h
 rw [Nat.zero_add];exact k h1
theorem aT {α:Type} {f:α→D} {xs:List α} {i:Nat} (h:(xs.map f)[i]? = some d) {P:D→Prop} (k:∀ x,xs[i]? = some x→P (f x)):P d:=by
 rw [List.getElem?_map] at h
 obtain ⟨x,hx,rfl⟩:=Option.map_eq_some_iff.mp h
 exact k x hx
theorem iY {α β:Type} {f:α→D} {g:α→β} {xs:List α} {i:Nat} {y:β} (h:(xs.map f)[i]? = some d) (h':(xs.map g)[i]? = some y) {P:D→β→Prop} (k:∀ x,xs[i]? = some x→P (f x) (g x)):P d y:=aT h (P:=fun d=>P d y) fun x hx=>by
 rw [List.getElem?_map,hx] at h'
 cases h'
 exact k x hx
theorem bq {m:Nat} {a:Int}:(cj a m).length=m:=by unfold cj;rw [List.length_map,List.length_range]
inductive Bdy (c:Cx) (l:Lv) (u:Expr) (d:D) (ρ:List Sl) (k:Nat) (b:List Stmt) (P:Post):Prop
 | mk (ρ':List Sl) (tg:Tg c l u d ρ ρ') (tb:TB c ρ' k b P)
theorem Bdy.go {u b I} (h:Bdy c l u d ρ k b (Lp I Q)):∃ ρ',Tg c l u d ρ ρ'∧TrB c ρ' k b (Lp I (Seq c es Q)):=by
 obtain ⟨ρ',tg,tb⟩:=h
 exact ⟨ρ',tg,(tb.mono fun f ρ k=>by cases f <;> exact id).go⟩
theorem cO {u it b} {ds:List D} (J:Nat→List Sl→Nat→Prop) (h:Src c ρ k l it ds) (h0:J 0 ρ k) (hl:l≠.any) (hfs:∀ x,foldedSetIterable it c.env x=pure x) (hJ:∀ i d ρ k,ds[i]? = some d→J i ρ k→Bdy c l u d ρ k b (Lp (J (i+1)) Q)) (hQ:∀ ρ k,J ds.length ρ k→TB c ρ k es Q):TB c ρ k (.For u it b [] pos::es) Q:=
 .seq (va (tt:=false) (fun h=>ff h) hfs hl ds J (h.go _ ⟨rfl,h0⟩) (fun i d ρ k hd hj=>(hJ i d ρ k hd hj).go) hQ)
theorem aN {u it b} {ds:List D} (J:Nat→List Sl→Nat→Prop) (h:V c ρ k l it d) (hi:fS d ds) (h0:J 0 ρ k) (hl:l≠.any) (hfs:∀ x,foldedSetIterable it c.env x=pure x) (hJ:∀ i d ρ k,ds[i]? = some d→J i ρ k→Bdy c l u d ρ k b (Lp (J (i+1)) Q)) (hQ:∀ ρ k,J ds.length ρ k→TB c ρ k es Q):TB c ρ k (.For u it b [] pos::es) Q:=cO J (h.src hi) h0 hl hfs hJ hQ
theorem lO {u it b} (J:List D→Nat→List Sl→Nat→Prop) (h:EX c ρ k it (fun d k'=>∃ ds,fS d ds∧J ds 0 ρ k') fun k'=>Q .exc ρ k') (hfs:∀ x,foldedSetIterable it c.env x=pure x) (hJ:∀ ds i d ρ k,ds[i]? = some d→J ds i ρ k→Bdy c .im u d ρ k b (Lp (J ds (i+1)) Q)) (hQ:∀ ds ρ k,J ds ds.length ρ k→TB c ρ k es Q):TB c ρ k (.For u it b [] pos::es) Q:=
 .seq (pJ (l:=.im) (tt:=false) (fun h=>ff h) hfs (fun h=>by cases h) J (wg (P:=Seq c es Q) h.go) (fun ds i d ρ k hd hj=>(hJ ds i d ρ k hd hj).go) hQ)
theorem E1.ex {Q:D→Nat→Prop} {X:Nat→Prop} (h:E1 c ρ k .im e Q):EX c ρ k e Q X:=⟨fun ok F s x=>noE (h.go ok F s x) fun u0 u0 w=>w⟩
theorem dw {xs:List D} {p1 apos cpos} (i:Nat) (hz:ρ[i]? = some (.own (.lst xs))) (hx:xs.length < 2 ^ 24) (h:V c ρ k .im e d) (q:TB c (ρ.set i (.own (.lst (xs++[d])))) k es Q) (hs:aO c z i=true) (hacc:c.acc=none) (hn:ah e=true) (hl:(apos.endLine == cpos.line)=true) :
  TB c ρ k (.Expr (.Call (.Attribute (.Name z p1) "append" apos) [e] [] cpos) pos::es) Q:=
 .seq (dI rfl hn hl hacc (List.getElem?_eq_some_iff.mp hz).1 (bI hs hz ⟨_,rfl,by rwa [List.length_map],bO (h.go _ (by
  have q:TB c (ρ.set i (.own (.node .lst ((xs++[d]).map .leaf)))) k es Q:=q
  rw [List.map_append] at q;exact q))⟩))
theorem tu {xs:List O} {p1 apos cpos} (i:Nat) (hz:ρ[i]? = some (.own (.node .lst xs))) (hx:xs.length < 2 ^ 24) (h:EO c ρ k e fun o k'=>TB c (ρ.set i (.own (.node .lst (xs++[o])))) k' es Q) (hs:aO c z i=true) (hacc:c.acc=none) (hn:ah e=true) (hl:(apos.endLine == cpos.line)=true) :
  TB c ρ k (.Expr (.Call (.Attribute (.Name z p1) "append" apos) [e] [] cpos) pos::es) Q:=
 .seq (dI rfl hn hl hacc (List.getElem?_eq_some_iff.mp hz).1 (bI hs hz ⟨_,rfl,hx,h.go⟩))
end
end Mine
namespace Mine
open PySem PySem.Calls PyProof.Rows PySem.SeqAt PySem.W
section
variable {W:Wd} {n k:Nat} {Q:D→Nat→Prop} {X:Nat→Prop}
noncomputable abbrev ao (l:List Nat):List D:=l.map fun (i:Nat)=>.int (i:Int)
theorem ai {l:List Nat}:(ao l).length=l.length:=List.length_map _
theorem b8 {l:List Nat} {i:Nat}:ao l++[.int (i:Int)]=ao (l++[i]):=(List.map_append (l₂:=[i])).symm
structure cz (m a l:Nat) (ts:List Nat):Prop where
 hl:l=m / 2 ^ a
 nd:ts.Nodup
 len:ts.length≤a
 mem:∀ t,t∈ts↔t < a∧m.testBit t
inductive uF (m k:Nat):Nat→List Sl→Nat→Prop
 | mk {l a ts}:cz m a l ts→uF m k l [.im (.int m),.own (.lst (ao ts)),.im (.int a),.im (.int l)] k
section
variable {m a l:Nat} {ts:List Nat}
theorem cz.start:cz m 0 m []:=⟨(Nat.div_one m).symm,.nil,Nat.le_refl _,fun t=>⟨(fun h=>aE h),fun h=>absurd h.1 (Nat.not_lt_zero _)⟩⟩
theorem cz.bit (h:cz m a l ts):l &&& 1=1↔m.testBit a=true:=by rw [Nat.testBit_eq_decide_div_mod_eq,← h.hl,Nat.and_one_is_mod,decide_eq_true_eq]
theorem cz.lt (h:cz m a l ts) (hm:m < 2 ^ 20) (hp:0 < l):a < 20:=Nat.lt_of_not_le fun q=>by
 have:=Nat.div_eq_of_lt (Nat.lt_of_lt_of_le hm (Nat.pow_le_pow_right (n:=2) (by decide) q))
 rw [h.hl,this] at hp;exact Nat.lt_irrefl _ hp
theorem cz.half (h:cz m a l ts):l / 2=m / 2 ^ (a+1):=by rw [h.hl,Nat.div_div_eq_div_mul,Nat.pow_succ]
theorem cz.yes (h:cz m a l ts) (hb:l &&& 1=1):cz m (a+1) (l / 2) (ts++[a]):=by
 refine ⟨h.half,List.nodup_append.mpr ⟨h.nd,List.pairwise_singleton ..,fun x hx y hy=>?_⟩,by rw [List.length_append];exact Nat.succ_le_succ h.len,fun t=>?_⟩
 ·rw [List.mem_singleton.mp hy];exact Nat.ne_of_lt ((h.mem x).mp hx).1
 ·rw [List.mem_append,h.mem,List.mem_singleton,Nat.lt_succ_iff_lt_or_eq]
  exact ⟨fun q=>q.elim (fun q=>⟨.inl q.1,q.2⟩) fun q=>⟨.inr q,q▸h.bit.mp hb⟩,fun q=>q.1.imp (fun e=>⟨e,q.2⟩) id⟩
theorem cz.no (h:cz m a l ts) (hb:¬ l &&& 1=1):cz m (a+1) (l / 2) ts:=
 ⟨h.half,h.nd,Nat.le_succ_of_le h.len,fun t=>by
  rw [h.mem,Nat.lt_succ_iff_lt_or_eq]
  exact ⟨fun q=>⟨.inl q.1,q.2⟩,fun q=>⟨q.1.elim id fun e=>absurd (h.bit.mpr (e▸q.2)) hb,q.2⟩⟩⟩
theorem cz.done (h:cz m a 0 ts) (t:Nat):t∈ts↔m.testBit t:=(h.mem t).trans ⟨And.right,fun q=>⟨Nat.lt_of_not_le fun r=>(by
 rw [Nat.testBit_eq_decide_div_mod_eq,Nat.div_eq_of_lt (Nat.lt_of_lt_of_le (Nat.lt_of_div_eq_zero (Nat.two_pow_pos a) h.hl.symm) (Nat.pow_le_pow_right (by decide) r))] at q
 exact (ff q)),q⟩⟩
end
inductive uP (m k l a:Nat):List Sl→Nat→Prop
 | mk {ts}:cz m (a+1) (l / 2) ts→uP m k l a [.im (.int m),.own (.lst (ao ts)),.im (.int a),.im (.int l)] k
theorem iu {a b:Nat} (h:decide ((a:Int) < b)=true):a < b:=Int.ofNat_lt.mp (of_decide_eq_true h)
theorem fF {a b:Nat} (h:((a:Int) == b)=true):a=b:=Int.ofNat.inj (beq_iff_eq.mp h)
theorem qs (p:Prg W) {m:Nat} (hm:m < 2 ^ 20) (q:∀ ts:List Nat,ts.Nodup→(∀ t,t∈ts↔m.testBit t)→Q (.lst (ao ts)) k):a7 W (n+1) .bits [.im (.int m)] k Q X:=
 p.run .bits rfl rfl 3 fun S0 h0 pen A env=>aQ 1 (bS (az 2 ar (az 3 (aa (i:=0) rfl rfl) (gI (uF m k) (.mk .start) (fun l ρ k' h=>by
  induction h with
  | @mk a ts h=>
  refine ⟨_,aC (aa (i:=3) rfl rfl) ar .gt rfl,fun hp=>?_,fun hp=>?_⟩
  ·have hp:=iu (a:=0) hp
   refine c6 (uP m k l a) (aC (aV (aa (i:=3) rfl rfl) ar (.band (Int.natCast_nonneg _) (Int.natCast_nonneg 1))) ar (.eq .int) rfl) (fun hb=>?_) (fun hb=>?_) fun ρ k h=>?_
   ·exact dw 1 rfl (Nat.lt_of_le_of_lt (ai▸h.len) (Nat.lt_trans (h.lt hm hp) (Nat.le_of_ble_eq_true rfl))) (aa (i:=2) rfl rfl) (aj (b8▸.mk (h.yes (fF hb)))) rfl rfl rfl rfl
   ·exact aj (.mk (h.no fun q=>Bool.false_ne_true (hb.symm.trans (beq_iff_eq.mpr (congrArg Int.ofNat q)))))
   ·induction h with
    | mk h=>exact az 3 (aV (aa (i:=3) rfl rfl) ar (.shr (Int.natCast_nonneg _))) (az 2 (aV (aa (i:=2) rfl rfl) ar .add) (aj ⟨l / 2,Nat.div_lt_self hp (Nat.le_of_ble_eq_true rfl),.mk h⟩) rfl rfl) rfl rfl
  ·obtain rfl:l=0:=Nat.eq_zero_of_not_pos fun q=>Bool.false_ne_true (hp.symm.trans (decide_eq_true (Int.ofNat_lt.mpr q)))
   exact cb 1 rfl rfl (a9 (aa (i:=1) rfl rfl) (q ts h.nd h.done)))) rfl rfl) rfl rfl)) (.inl rfl) rfl rfl
end
end Mine
namespace Mine
open PySem PySem.Calls PyProof.Rows PySem.SeqAt PySem.W
structure R where
 l:Nat
 r:List Nat
 lv:Int
structure Gr where
 names:List Txt
 tc:Nat
 rules:List R
 start:Nat
 of_:List D
 ow:List D
 ic:D
noncomputable def R.D (r:R) (i:Nat):D:=.node (.ins .rule (aI .rule)) [.int i,.int r.l,.tup (ao r.r),.int r.lv,.nul,.int 0,.int 0]
noncomputable def bc (rs:List R):List D:=rs.zipIdx.map fun x=>x.1.D x.2
noncomputable def aP (rs:List R) (s:Nat):List Nat:=(rs.zipIdx.filter fun x=>x.1.l == s).map (·.2)
noncomputable def Gr.xs (g:Gr):List Mine.D:=[.lst (g.names.map .str),.int g.tc,.lst (bc g.rules),.dct [] [],.nul,.int g.start,.lst ((List.range g.names.length).map fun s=>.lst (ao (aP g.rules s))),.lst g.of_,.lst g.ow,g.ic]
noncomputable abbrev Gr.D (g:Gr):Mine.D:=.node (.ins .gram (aI .gram)) g.xs
structure Gr.Ok (g:Gr):Prop where
 n:g.names.length≤16
 tc:g.tc≤g.names.length
 rs:g.rules.length≤64
 l:∀ r∈g.rules,r.l < g.names.length
 lt:∀ r∈g.rules,g.tc≤r.l
 r:∀ r∈g.rules,∀ x∈r.r,x < g.names.length
 len:∀ r∈g.rules,r.r.length≤8
section
variable {c:Cx} {W:Wd} {n k:Nat} {Q:D→Nat→Prop} {X:Nat→Prop} {g:Gr} {s:Nat} {r:R} {i:Nat} {rs:List R}
theorem bY (h:(bc rs)[i]? = some d):∃ r,rs[i]? = some r∧d=r.D i:=by
 unfold bc at h
 rw [List.getElem?_map,List.getElem?_zipIdx] at h
 cases e:rs[i]? with
 | none=>have h:=e▸h;cases h
 | some r=>have h:=e▸h;cases h;exact ⟨r,rfl,congrArg _ (Nat.zero_add i)⟩
theorem bC:(bc rs).length=rs.length:=by unfold bc;rw [List.length_map,List.length_zipIdx]
theorem ig (h:rs[i]? = some r):(bc rs)[i]? = some (r.D i):=by
 unfold bc
 rw [List.getElem?_map,List.getElem?_zipIdx,h];exact congrArg (fun j=>some (r.D j)) (Nat.zero_add i)
theorem dh {cl:Cls} {xs:List D} {d:D} {n:Str} {nm:Txt} (i:Nat) (hn:n=strV nm) (hm:nm∈aI cl) (hi:(aI cl).findIdx? (· == nm)=some i) (hx:xs[i]? = some d):iR c (.node (.ins cl (aI cl)) xs) n d:=⟨cl,_,xs,i,rfl,nm,hn,hm,hi,hx⟩
theorem dJ:iR c g.D "names" (.lst (g.names.map .str)):=dh 0 rfl (.head _) rfl rfl
theorem uO:iR c g.D "terminal_count" (.int g.tc):=dh 1 rfl (.tail _ (.head _)) rfl rfl
theorem cq:iR c g.D "rules" (.lst (bc g.rules)):=dh 2 rfl (.tail _ (.tail _ (.head _))) rfl rfl
theorem qR:iR c g.D "start" (.int g.start):=dh 5 rfl (.tail _ (.tail _ (.tail _ (.tail _ (.tail _ (.head _)))))) rfl rfl
theorem xb:iR c g.D "by_left" (.lst ((List.range g.names.length).map fun s=>.lst (ao (aP g.rules s)))):=dh 6 rfl (.tail _ (.tail _ (.tail _ (.tail _ (.tail _ (.tail _ (.head _))))))) rfl rfl
theorem fE:iR c (r.D i) "number" (.int i):=dh 0 rfl (.head _) rfl rfl
theorem bT:iR c (r.D i) "left" (.int r.l):=dh 1 rfl (.tail _ (.head _)) rfl rfl
theorem cg:iR c (r.D i) "right" (.tup (ao r.r)):=dh 2 rfl (.tail _ (.tail _ (.head _))) rfl rfl
theorem kI (p:Prg W) (h:g.Ok):di W (n+1) .symbolCount [.im g.D] k (.int g.names.length):=p.xP .symbolCount rfl rfl 0 fun Q X S0 h0 pen A env q=>
 a9 (cy (ax (aa (i:=0) rfl rfl) dJ rfl) (List.length_map (f:=D.str) (as:=g.names)▸.xn (by rw [List.length_map];exact Nat.le_trans h.n (Nat.le_of_ble_eq_true rfl))) rfl rfl) q
theorem lG (p:Prg W):di W (n+1) .isTerminal [.im g.D,.im (.int s)] k (.bool (decide (s < g.tc))):=p.xP .isTerminal rfl rfl 0 fun Q X S0 h0 pen A env q=>
 a9 (rF (aa (i:=1) rfl rfl) (ax (aa (i:=0) rfl rfl) uO rfl) .lt rfl) (decide_eq_decide.mpr (Int.ofNat_lt (m:=g.tc))▸q)
end
end Mine
namespace Mine
open PySem PySem.Calls PyProof.Rows PySem.SeqAt PySem.W
section
variable {c:Cx} {ρ:List Sl} {W:Wd} {n k i j s:Nat} {l:Lv} {Q:D→Nat→Prop} {X:Nat→Prop} {g:Gr} {r:R} {rs:List R} {o e:Expr} {apos pos pos' px:Pos} {z:Str}
theorem bR {xs:List Nat} (h:xs[i]? = some j):(ao xs)[i]? = some (.int (j:Int)):=by rw [List.getElem?_map,h];rfl
theorem nats_at {xs:List Nat} {d:D} (h:(ao xs)[i]? = some d):∃ j,xs[i]? = some j∧d=.int (j:Int):=by
 have h:=(Eq.symm List.getElem?_map).trans h
 cases e:xs[i]? with
 | none=>have h:=e▸h;cases h
 | some j=>have h:=e▸h;cases h;exact ⟨j,rfl,rfl⟩
theorem cx {m:Nat} (h:m≤64):m < 2 ^ 24:=Nat.lt_of_le_of_lt h (Nat.le_of_ble_eq_true rfl)
theorem cP {m:Nat} (h:m≤64):m < 2 ^ 62:=Nat.lt_of_le_of_lt h (Nat.le_of_ble_eq_true rfl)
theorem rx (p:Prg W) (h:g.Ok) {t:Txt} (hi:g.names.findIdx? (· == t)=some i):di W (n+1) .number [.im g.D,.im (.str t)] k (.int i):=p.xP .number rfl rfl 0 fun Q X S0 h0 pen A env q=>
 have hc:g.names.contains t=true:=List.contains_iff_mem.mpr (by
  obtain ⟨h1,h2,_⟩:=List.findIdx?_eq_some_iff_getElem.mp hi
  exact eq_of_beq h2▸List.getElem_mem h1)
 a9 (iG (aC (aa (i:=1) rfl rfl) (ax (aa (i:=0) rfl rfl) dJ rfl) (Cmp.xq (.inl rfl)).1 rfl) (fun u0=>gN (ax (aa (i:=0) rfl rfl) dJ rfl) (aa (i:=1) rfl rfl) hi (Nat.le_of_lt (cx (Nat.le_trans h.n (Nat.le_of_ble_eq_true rfl)))) rfl rfl rfl) fun q=>absurd (q.symm.trans hc) Bool.false_ne_true) q
theorem iJ:(aP rs s).length≤rs.length:=by
 unfold aP
 rw [List.length_map]
 exact Nat.le_trans (List.length_filter_le ..) (Nat.le_of_eq List.length_zipIdx)
theorem pS (p:Prg W) (h:g.Ok) (hs:s < g.names.length):di W (n+1) .rulesOf [.im g.D,.im (.int s)] k (.lst (ao (aP g.rules s))):=p.xP .rulesOf rfl rfl 0 fun Q X S0 h0 pen A env q=>
 a9 (vS (ay (ax (aa (i:=0) rfl rfl) xb rfl) (aa (i:=1) rfl rfl) (.lst (cP (Nat.le_trans (Nat.le_of_lt hs) (Nat.le_trans h.n (Nat.le_of_ble_eq_true rfl)))) (by rw [List.getElem?_map,List.getElem?_range hs];rfl)) rfl) (by rw [ai];exact Nat.le_of_lt (cx (Nat.le_trans iJ h.rs))) rfl rfl) q
noncomputable def ltm (tc:Nat) (r:List Nat):Int:=r.foldl (fun m x=>if x < tc then (x:Int) else m) (-1)
inductive rC (r:List Nat) (tc:Nat) (k i:Nat):List Sl→Nat→Prop
 | mk {m} (x:Sl):m=ltm tc (r.take i)→rC r tc k i [.im (.tup (ao r)),.im (.int tc),.im (.int m),x] k
theorem jU (p:Prg W) {r:List Nat} {tc:Nat}:di W (n+1) .lastTerminal [.im (.tup (ao r)),.im (.int tc)] k (.int (ltm tc r)):=p.xP .lastTerminal rfl rfl 2 fun Q X S0 h0 pen A env q=>
 az 2 vt (aN (rC r tc k) (aa (i:=0) rfl rfl) .tup (.mk _ rfl) (l:=.im) (fun h=>by cases h) (fun u0=>rfl) (fun i d ρ k' hd h=>by
  apply aT hd;intro j hj
  have e:ltm tc (r.take (i+1))=if j < tc then (j:Int) else ltm tc (r.take i):=by unfold ltm;rw [List.take_add_one,hj,List.foldl_append];rfl
  induction h with
  | mk x hm=>
  exact ⟨_,.one (i:=3) rfl .im,c6 (rC r tc k (i+1)) (aC (aa (i:=3) rfl rfl) (aa (i:=1) rfl rfl) .lt rfl) (fun h=>az 2 (aa (i:=3) rfl rfl) (aj (.mk _ (by rw [e,if_pos (iu h)]))) rfl rfl) (fun h=>aj (.mk _ (by rw [e,if_neg fun q=>of_decide_eq_false h (Int.ofNat_lt.mpr q)];exact hm))) fun u0 u0 h=>aj h⟩) fun ρ k' h=>by
  rw [ai] at h
  generalize hi:r.length=i at h
  induction h with
  | mk x hm=>exact a9 (aa (i:=2) rfl rfl) (by rw [hm,← hi,List.take_length];exact q)) rfl rfl
noncomputable def foA (nl:List Bool) (F:List Nat):Nat→List Nat→Nat × Bool
 | m,[]=>(m,true)
 | m,x::xs=>if nl.getD x false then foA nl F (m ||| F.getD x 0) xs else (m ||| F.getD x 0,false)
inductive FoJ (a:List Sl) (nl:List Bool) (F sy:List Nat) (k i:Nat):List Sl→Nat→Prop
 | mk {m} (x:Sl):foA nl F m (sy.drop i)=foA nl F 0 sy→FoJ a nl F sy k i (a++[.im (.int (m:Nat)),x]) k
theorem aw {α:Type} {xs:List α} {d:α} (h:i < xs.length):xs[i]? = some (xs.getD i d):=by rw [List.getD_eq_getElem?_getD,List.getElem?_eq_getElem h];rfl
theorem lY {α:Type} {xs:List α} {x:α} (h:xs[i]? = some x):xs.drop i=x::xs.drop (i+1):=by
 obtain ⟨h1,rfl⟩:=List.getElem?_eq_some_iff.mp h
 exact List.drop_eq_getElem_cons h1
theorem qx (p:Prg W) {nl:List Bool} {F sy:List Nat} (h:∀ x∈sy,x < nl.length∧x < F.length) (h64:nl.length≤64) {zf:Sl} (hz:zf=.vw (.lst (ao F))):di W (n+1) .firstOf [.im (.tup (ao sy)),.im (.lst (nl.map .bool)),zf] k (.tup [.int (foA nl F 0 sy).1,.bool (foA nl F 0 sy).2]):=p.xP .firstOf rfl rfl 2 fun Q X S0 h0 pen A env q=>by
 subst hz
 refine az 3 ar (aN (FoJ [.im (.tup (ao sy)),.im (.lst (nl.map .bool)),.vw (.lst (ao F))] nl F sy k) (aa (i:=0) rfl rfl) .tup (.mk (m:=0) _ rfl) (l:=.im) (fun h=>by cases h) (fun u0=>rfl) (fun i d ρ k' hd h'=>?_) fun ρ k' h'=>?_) rfl rfl
 ·apply aT hd;intro x hx
  obtain ⟨h1,h2⟩:=h x (List.mem_of_getElem? hx)
  have l62:=cP (Nat.le_trans (Nat.le_of_lt h1) h64)
  induction h' with
  | @mk m _ e=>
  rw [lY hx,foA] at e
  refine ⟨_,.one (i:=4) rfl .im,az 3 (aV (aa (i:=3) rfl rfl) (ay (fJ (i:=2) rfl rfl) (aa (i:=4) rfl rfl) (.lst l62 (bR (aw (d:=0) h2))) rfl) (.bor (Int.natCast_nonneg _) (Int.natCast_nonneg _)))
   (dW (iA (ey (ay (aa (i:=1) rfl rfl) (aa (i:=4) rfl rfl) (.lst l62 (by rw [List.getElem?_map,aw (d:=false) h1];rfl)) rfl) rfl)) (fun hb=>a9 (dQ (aa (i:=3) rfl rfl) bl rfl) ?_) fun hb=>aj (.mk (m:=m ||| F.getD x 0) _ ?_)) rfl rfl⟩
  ·rw [if_neg (by rw [Bool.not_eq_true',] at hb;exact Eq.symm hb▸Bool.false_ne_true)] at e
   have q:=e▸q;exact q
  ·rw [if_pos (by rwa [Bool.not_eq_false'] at hb)] at e
   exact e
 ·rw [ai] at h'
  induction h' with
  | @mk m _ e=>
  rw [List.drop_length,foA] at e
  have q:=e▸q
  exact a9 (dQ (aa (i:=3) rfl rfl) bl rfl) q
end
end Mine
namespace Mine
open PySem PySem.Calls PyProof.Rows PySem.SeqAt PySem.W
noncomputable abbrev AL:=List (Key × D)
noncomputable def dD (ps:AL):D:=.dct (ps.map (·.1)) (ps.map (·.2))
noncomputable def dO (ps:AL):O:=.node (.dct (ps.map (·.1))) ((ps.map (·.2)).map .leaf)
noncomputable def aY (ps:AL) (k:Key):Option D:=(ps.find? (·.1 == k)).map (·.2)
noncomputable def cw:AL→Key→D→AL
 | [],k,d=>[(k,d)]
 | p::ps,k,d=>bif p.1 == k then (p.1,d)::ps else p::cw ps k d
noncomputable def KdA (ps:AL) (k:Key):Prop:=∀ p∈ps,p.1.kind=k.kind
theorem vz {ps:AL}:(dO ps).toD=dD ps:=aH
section
variable {ps:AL} {k k':Key} {d d':D} {p:Key × D}
theorem b6:aY (p::ps) k=bif p.1 == k then some p.2 else aY ps k:=by
 unfold aY;refine List.find?_cons▸?_;cases p.1 == k <;> rfl
theorem ip:cw (p::ps) k d=bif p.1 == k then (p.1,d)::ps else p::cw ps k d:=rfl
theorem lu:aY (cw ps k d) k'=bif k == k' then some d else aY ps k':=by
 induction ps with
 | nil=>exact b6
 | cons p ps ih=>
  refine ip▸?_
  cases h:p.1 == k with
  | true=>
   refine (eq_of_beq h)▸?_
   refine b6.trans (Eq.trans ?_ (congrArg (cond (p.1 == k') (some d)) b6.symm))
   cases p.1 == k' <;> rfl
  | false=>
   refine b6.trans ((congrArg (cond _ _) ih).trans (Eq.trans ?_ (congrArg (cond (k == k') (some d)) b6.symm)))
   cases h':p.1 == k' with
   | true=>refine (show (k == k')=false from beq_eq_false_iff_ne.mpr fun e=>ne_of_beq_false h (e▸eq_of_beq h'))▸?_;rfl
   | false=>rfl
theorem fz:aY (cw ps k d) k=some d:=by rw [lu,beq_self_eq_true];rfl
theorem iX (h:k≠k'):aY (cw ps k d) k'=aY ps k':=by rw [lu,beq_eq_false_iff_ne.mpr h];rfl
theorem qv:aY ps k=none↔k∉ps.map (·.1):=by
 unfold aY
 rw [Option.map_eq_none_iff,List.find?_eq_none]
 exact ⟨fun h q=>by obtain ⟨p,hp,e⟩:=List.mem_map.mp q;exact h p hp (beq_iff_eq.mpr e),fun h p hp q=>h (eq_of_beq q▸List.mem_map_of_mem hp)⟩
theorem bz:(aY ps k).isSome=true↔k∈ps.map (·.1):=by
 rw [← Decidable.not_not (p:=k∈_),← qv];cases aY ps k <;> simp
theorem fu:(cw ps k d).map (·.1)=if k∈ps.map (·.1) then ps.map (·.1) else ps.map (·.1)++[k]:=by
 induction ps with
 | nil=>rfl
 | cons p ps ih=>
  refine ip▸?_
  cases h:p.1 == k with
  | true=>exact (if_pos (eq_of_beq h▸List.mem_cons_self)).symm
  | false=>
   refine (congrArg (p.1::·) ih).trans ?_
   by_cases q:k∈ps.map (·.1)
   ·exact (congrArg _ (if_pos q)).trans (if_pos (List.mem_cons_of_mem _ q)).symm
   ·exact (congrArg _ (if_neg q)).trans (if_neg fun r=>(List.mem_cons.mp r).elim (fun e=>ne_of_beq_false h e.symm) q).symm
theorem jl:k'∈(cw ps k d).map (·.1)↔k'=k∨k'∈ps.map (·.1):=by
 rw [fu];split
 ·exact ⟨.inr,fun h=>h.elim (fun e=>e▸‹_›) id⟩
 ·rw [List.mem_append,List.mem_singleton];exact Or.comm
theorem kh (h:(ps.map (·.1)).Nodup):((cw ps k d).map (·.1)).Nodup:=by
 rw [fu];split
 ·exact h
 ·exact List.nodup_append.mpr ⟨h,List.pairwise_singleton ..,fun x hx y hy e=>‹k∉_› (List.mem_singleton.mp hy▸e▸hx)⟩
theorem sV:(cw ps k d).length≤ps.length+1:=by
 have h:=congrArg List.length (fu (ps:=ps) (k:=k) (d:=d))
 rw [List.length_map] at h
 refine h▸?_;split
 ·rw [List.length_map];exact Nat.le_succ _
 ·rw [List.length_append,List.length_map];exact Nat.le_refl _
theorem KdA.set (h:KdA ps k') (hk:k.kind=k'.kind):KdA (cw ps k d) k':=fun p hp=>by
 have:=jl.mp (List.mem_map_of_mem (f:=(·.1)) hp)
 rcases this with e | e
 ·exact e▸hk
 ·obtain ⟨q,hq,e⟩:=List.mem_map.mp e;exact e▸h q hq
theorem KdA.ok (h:KdA ps k):bk (ps.map (·.1)) k=true:=List.all_eq_true.mpr fun x hx=>by
 obtain ⟨q,hq,e⟩:=List.mem_map.mp hx
 exact beq_iff_eq.mpr (e▸h q hq)
theorem jF:fK (ps.map (·.1)) k=(cw ps k d).map (·.1)∧kf (ps.map (·.1)) (ps.map (·.2)) k d=(cw ps k d).map (·.2):=by
 induction ps with
 | nil=>exact ⟨rfl,rfl⟩
 | cons p ps ih=>
  unfold fK kf aD at ih ⊢
  rw [List.map_cons,List.findIdx?_cons,ip]
  cases p.1 == k with
  | true=>exact ⟨rfl,rfl⟩
  | false=>
   rw [cond_false,List.map_cons,List.map_cons,List.map_cons,← ih.1,← ih.2]
   cases List.findIdx? (· == k) (ps.map (·.1)) <;> exact ⟨rfl,rfl⟩
theorem gh:(∀ i,aD (ps.map (·.1)) k=some i→∃ d,(ps.map (·.2))[i]? = some d∧aY ps k=some d)∧(aD (ps.map (·.1)) k=none→aY ps k=none):=by
 induction ps with
 | nil=>exact ⟨fun u0 h=>no1 h,fun u0=>rfl⟩
 | cons p ps ih=>
  unfold aD at ih ⊢
  rw [List.map_cons,List.findIdx?_cons,b6]
  cases p.1 == k with
  | true=>exact ⟨fun i h=>Option.some.inj h▸⟨p.2,rfl,rfl⟩,fun h=>no2 h⟩
  | false=>
   cases e:List.findIdx? (· == k) (ps.map (·.1)) with
   | none=>exact ⟨fun u0 h=>no1 h,fun u0=>ih.2 e⟩
   | some i=>exact ⟨fun j h=>Option.some.inj h▸ih.1 i e,fun h=>no2 h⟩
theorem qo:(aD (ps.map (·.1)) k).isSome=(aY ps k).isSome:=by
 obtain ⟨h1,h2⟩:=gh (ps:=ps) (k:=k)
 cases e:aD (ps.map (·.1)) k with
 | none=>rw [h2 e];rfl
 | some i=>obtain ⟨d,_,q⟩:=h1 i e;rw [q];rfl
end
section
variable {c:Cx} {ρ:List Sl} {n i:Nat} {l:Lv} {ps:AL} {k:Key} {d x:D} {o e f:Expr} {Q:Post} {es:List Stmt} {z:Str} {px p1 pos apos:Pos}
theorem Cmp.xI (h:KdA ps k):Cmp c .NotIn k.toD (dD ps) !(aY ps k).isSome:=qo (ps:=ps)▸(Cmp.yz h.ok).2
theorem iQ.al (h:KdA ps k) (hg:aY ps k=some d):iQ c (dD ps) k.toD d:=by
 obtain ⟨h1,h2⟩:=gh (ps:=ps) (k:=k)
 cases e:aD (ps.map (·.1)) k with
 | none=>exact gno (h2 e) hg
 | some i=>
  obtain ⟨d',q1,q2⟩:=h1 i e
  obtain rfl:=geq q2 hg
  exact .dct h.ok e q1
theorem uN (h1:V c ρ n l o (dD ps)) (h2:V c ρ n .any e k.toD) (h3:V c ρ n l f x) (hk:KdA ps k) (ho:a0 o=true) (hs:[e,f].all ah=true) (hl:(apos.endLine == pos.line)=true):V c ρ n l (.Call (.Attribute o "get" apos) [e,f] [] pos) ((aY ps k).getD x):=⟨fun Q q=>
 vG ho hs hl (h1.go _ ⟨_,_,rfl,h2.go _ (h3.go _ ⟨k,rfl,hk.ok,fun i hi=>by
  obtain ⟨d,q1,q2⟩:=gh.1 i hi
  rw [q2] at q;exact ⟨d,q1,q⟩,fun hi=>by rw [gh.2 hi] at q;exact q⟩)⟩)⟩
theorem m7:fR (ps.map (·.1)) ((ps.map (·.2)).map .leaf) k (.leaf d)=((cw ps k d).map (·.2)).map .leaf:=by rw [j6,jF.2]
theorem pe {ks:List Key} {xs:List D} {j:Nat} (hl:ks.length=xs.length) (h:aD ks k=some j):∃ d0,(xs.map O.leaf)[j]? = some (.leaf d0):=by
 have:=(List.getElem?_eq_some_iff.mp (bW h).1).1
 exact ⟨xs[j],by rw [List.getElem?_map,List.getElem?_eq_getElem (hl▸this)];rfl⟩
theorem nX {b:Expr} (h:V c ρ n .im e d) (hp:∀ Q:O→(O→O)→Nat→Prop,Q (dO ps) pl n→EvP c ρ n i o Q) (hb:V c ρ n .any b k.toD) (hk:KdA ps k) (hz:ps.length≤2 ^ 24) (q:TB c (ρ.set i (.own (pl (dO (cw ps k d))))) n es Q) (hi:i < ρ.length) (hacc:c.acc=none) (hc:bE e=true):TB c ρ n (.Assign [.Subscript o b px] e pos::es) Q:=
 .seq (hZ hc hacc hi (bO (h.go _ (hp _ ⟨_,_,rfl,hb.go _ ⟨k,rfl,hk.ok,by rwa [List.length_map],fun j hj=>pe (by rw [List.length_map,List.length_map]) hj,by
  rw [m7,(jF (d:=d)).1];exact q⟩⟩))))
theorem b7 {b:Expr} (i:Nat) (hz:ρ[i]? = some (.own (dO ps))) (h:V c ρ n .im e d) (hb:V c ρ n .any b k.toD) (hk:KdA ps k) (hl:ps.length≤2 ^ 24) (q:TB c (ρ.set i (.own (dO (cw ps k d)))) n es Q) (hs:aO c z i=true) (hacc:c.acc=none) (hc:bE e=true):TB c ρ n (.Assign [.Subscript (.Name z p1) b px] e pos::es) Q:=
 nX (pl:=id) h (fun u0 q=>bI hs hz q) hb hk hl q (List.getElem?_eq_some_iff.mp hz).1 hacc hc
theorem qU (hs:aO c z i=true) (hz:ρ[i]? = some (.own (dO ps))):V c ρ n .any (.Name z pos) (dD ps):=aZ hs hz
theorem dS (i:Nat) (hi:ρ[i]? = some (.own (dO ps))) (ha:c.acc=none) (h:TB c (ρ.set i (.im (dD ps))) n es Q):TB c ρ n es Q:=cb i hi ha h
end
end Mine
namespace Mine
open PySem PySem.Calls PyProof.Rows PySem.SeqAt PySem.W
noncomputable abbrev Word:=List Nat
noncomputable def tk (w:Word):Key:=.tup (w.map fun (i:Nat)=>(i:Int))
theorem bZ {w:Word}:(tk w).toD=.tup (ao w):=congrArg (D.node .tup) List.map_map
theorem eQ {u v:Word} (h:tk u=tk v):u=v:=(List.map_inj_right (f:=fun (i:Nat)=>(i:Int)) fun u0 u0=>Int.ofNat.inj).mp (wC h)
noncomputable def shortWords:List Word:=[]::((List.range 16).map fun a=>[a])++(List.range 16).flatMap fun a=>(List.range 16).map fun b=>[a,b]
noncomputable def cu (w:Word):Prop:=w.length≤2∧∀ x∈w,x < 16
theorem wK {α:Type} {P:List α→Prop} {w:List α} (h:w.length≤2) (h0:P []) (h1:∀ a,P [a]) (h2:∀ a b,P [a,b]):P w:=by
 cases w with
 | nil=>exact h0
 | cons a w=>
  cases w with
  | nil=>exact h1 a
  | cons b w=>
   cases w with
   | nil=>exact h2 a b
   | cons c w=>exact absurd h (Nat.not_le_of_gt (Nat.succ_lt_succ (Nat.succ_lt_succ (Nat.succ_pos _))))
theorem cu.mem {w:Word} (h:cu w):w∈shortWords:=
 wK (P:=fun w=>(∀ x∈w,x < 16)→w∈shortWords) h.1 (fun u0=>List.mem_cons_self) (fun a h2=>List.mem_append_left _ (List.mem_cons_of_mem _ (List.mem_map_of_mem (List.mem_range.mpr (h2 a List.mem_cons_self)))))
  (fun a b h2=>List.mem_append_right _ (List.mem_flatMap.mpr ⟨a,List.mem_range.mpr (h2 a List.mem_cons_self),List.mem_map_of_mem (List.mem_range.mpr (h2 b (List.mem_cons_of_mem _ List.mem_cons_self)))⟩)) h.2
structure dz {α:Type} (κ:α→Key) (ps:AL) (S:α→Prop):Prop where
 inj:∀ {a b},κ a=κ b→a=b
 kd':∀ a b,(κ a).kind=(κ b).kind
 nd:(ps.map (·.1)).Nodup
 mem:∀ k,k∈ps.map (·.1)↔∃ w,S w∧k=κ w
noncomputable abbrev dc:=dz tk
theorem dc.of {ps:AL} {S:Word→Prop} (nd:(ps.map (·.1)).Nodup) (mem:∀ k,k∈ps.map (·.1)↔∃ w,S w∧k=tk w):dc ps S:=⟨eQ,fun u0 u0=>rfl,nd,mem⟩
section
variable {α:Type} {κ:α→Key} {ps:AL} {S T:α→Prop} {w:α} {d:D}
theorem dz.kd (h:dz κ ps S):KdA ps (κ w):=fun p hp=>by
 obtain ⟨_,_,e⟩:=(h.mem p.1).mp (List.mem_map_of_mem hp)
 rw [e];exact h.kd' _ _
theorem dz.has (h:dz κ ps S):(aY ps (κ w)).isSome=true↔S w:=by
 rw [bz,h.mem]
 exact ⟨fun zz0=>by obtain ⟨u,hu,e⟩:=zz0;exact h.inj e▸hu,fun q=>⟨w,q,rfl⟩⟩
theorem dz.lenOf (h:dz κ ps S) {l:List α} (hg:∀ w,S w→w∈l):ps.length≤l.length:=by
 have:=h.nd.length_le_of_subset (l₂:=l.map κ) fun k hk=>by
  obtain ⟨w,hw,rfl⟩:=(h.mem k).mp hk
  exact List.mem_map_of_mem (hg w hw)
 rwa [List.length_map,List.length_map] at this
theorem dz.congr (h:dz κ ps S) (e:∀ w,S w↔T w):dz κ ps T:=⟨h.inj,h.kd',h.nd,fun k=>(h.mem k).trans (exists_congr fun w=>and_congr_left fun u0=>e w)⟩
theorem dz.add (h:dz κ ps S):dz κ (cw ps (κ w) d) fun v=>S v∨v=w:=⟨h.inj,h.kd',kh h.nd,fun k=>by
 rw [jl,h.mem]
 exact ⟨fun q=>q.elim (fun e=>⟨w,.inr rfl,e⟩) fun zz1=>by obtain ⟨u,hu,e⟩:=zz1;exact ⟨u,.inl hu,e⟩,fun zz2=>by obtain ⟨u,hu,e⟩:=zz2;exact hu.elim (fun q=>.inr ⟨u,q,e⟩) fun q=>.inl (q▸e)⟩⟩
theorem dz.at' (h:dz κ ps S) {i:Nat} {d:D} (hd:((ps.map (·.1)).map Key.toD)[i]? = some d):∃ w,d=(κ w).toD∧S w∧(ps.map (·.1))[i]? = some (κ w):=by
 have hd:=(Eq.symm List.getElem?_map).trans hd
 cases e:(ps.map (·.1))[i]? with
 | none=>have hd:=e▸hd;cases hd
 | some k=>
  rw [e] at hd;cases hd
  obtain ⟨w,hw,rfl⟩:=(h.mem k).mp (List.mem_of_getElem? e)
  exact ⟨w,rfl,hw,rfl⟩
end
theorem dz.at {ps:AL} {S:Word→Prop} (h:dc ps S) {i:Nat} {d:D} (hd:((ps.map (·.1)).map Key.toD)[i]? = some d):∃ w,d=.tup (ao w)∧S w∧(ps.map (·.1))[i]? = some (tk w):=by
 obtain ⟨w,e,q⟩:=h.at' hd
 exact ⟨w,e.trans bZ,q⟩
theorem dz.len {ps:AL} {S:Word→Prop} (h:dc ps S) (hg:∀ w,S w→cu w):ps.length≤273:=h.lenOf fun w hw=>(hg w hw).mem
theorem dc.nil:dc [] fun u0=>False:=.of .nil fun k=>⟨(fun h=>aE h),nofun⟩
noncomputable def cY (ks:List Key) (i:Nat) (w:Word):Prop:=tk w∈ks.take i
theorem cQ {ks:List Key} {i:Nat} {u w:Word} (h:ks[i]? = some (tk u)):cY ks (i+1) w↔cY ks i w∨w=u:=by
 unfold cY
 rw [List.take_add_one,h,List.mem_append]
 exact or_congr_right ⟨fun q=>eQ (List.mem_singleton.mp q),fun q=>List.mem_singleton.mpr (q▸rfl)⟩
theorem eV {ps:AL} {S:Word→Prop} {w:Word} (h:dc ps S):cY (ps.map (·.1)) ((ps.map (·.1)).map Key.toD).length w↔S w:=by
 unfold cY
 rw [List.length_map,List.take_length,h.mem]
 exact ⟨fun zz3=>by obtain ⟨u,hu,e⟩:=zz3;exact eQ e▸hu,fun q=>⟨w,q,rfl⟩⟩
noncomputable def ec (T S:Word→Prop) (w:Word):Prop:=w.length≤2∧∃ u v,T u∧S v∧w=u++v
noncomputable def c7 (Ss:List (Word→Prop)):Word→Prop:=Ss.foldl ec (· = [])
end Mine
namespace Mine
open PySem PySem.Calls PyProof.Rows PySem.SeqAt PySem.W
section
variable {W:Wd} {n k:Nat} {Q:D→Nat→Prop} {X:Nat→Prop} {S T:Word→Prop} {u w:Word} {Ss:List (Word→Prop)}
theorem ou:c7 (Ss++[S])=ec (c7 Ss) S:=List.foldl_append
theorem cu.app {v:Word} (hl:(u++v).length≤2) (hu:cu u) (hv:cu v):cu (u++v):=⟨hl,fun x hx=>(List.mem_append.mp hx).elim (hu.2 x) (hv.2 x)⟩
theorem nK (hT:∀ w,T w→cu w) (hS:∀ w,S w→cu w) (h:ec T S w):cu w:=by
 obtain ⟨hl,u,v,h1,h2,rfl⟩:=h
 exact .app hl (hT u h1) (hS v h2)
theorem jb (h:∀ S∈Ss,∀ w,S w→cu w):∀ w,c7 Ss w→cu w:=by
 have:∀ (Ss:List (Word→Prop)) (T:Word→Prop),(∀ S∈Ss,∀ w,S w→cu w)→(∀ w,T w→cu w)→∀ w,Ss.foldl ec T w→cu w:=fun Ss=>by
  induction Ss with
  | nil=>exact fun u0 u0 h=>h
  | cons S Ss ih=>exact fun T h hT=>ih _ (fun S' hS=>h S' (List.mem_cons_of_mem _ hS)) fun w=>nK hT (h S List.mem_cons_self)
 exact this Ss _ h fun w e=>e▸⟨Nat.zero_le _,(fun u0 h=>aE h)⟩
theorem ju {α β:Type} {f:α→β} {l:List α} {i:Nat} {x:α} (h:l[i]? = some x):(l.take (i+1)).map f=(l.take i).map f++[f x]:=by rw [List.take_succ,h,List.map_append];rfl
inductive RjI (a:List Sl) (r:List Nat) (S:Nat→Word→Prop) (k i:Nat):List Sl→Nat→Prop
 | mk {f} (x y z v:Sl):dc f (c7 ((r.take i).map S))→RjI a r S k i (a++[.im (dD f),x,y,z,v]) k
inductive RjL (a:List Sl) (T:Word→Prop) (k:Nat):List Sl→Nat→Prop
 | mk {g} (x y:Sl):dc g T→RjL a T k (a++[.own (dO g),x,y]) k
inductive RjM (a:List Sl) (u:Word) (T:Word→Prop) (k:Nat):List Sl→Nat→Prop
 | mk {g} (y:Sl):dc g T→RjM a u T k (a++[.own (dO g),.im (.tup (ao u)),y]) k
noncomputable def gy (A:Word→Prop) (u:Word) (B S:Word→Prop) (w:Word):Prop:=(w.length≤2∧∃ a b,A a∧S b∧w=a++b)∨(w.length≤2∧∃ b,B b∧w=u++b)
theorem w8 {u:Word} (h:cu u):(ao u).length≤2 ^ 24:=by rw [ai];exact Nat.le_trans h.1 (Nat.le_of_ble_eq_true rfl)
theorem uS {u:Word} (h:cu u):(ao u).length≤2:=by rw [ai];exact h.1
theorem sq {u v:Word}:ao u++ao v=ao (u++v):=List.map_append.symm
theorem V.word {c:Cx} {ρ:List Sl} {l:Lv} {e:Expr} {u v:Word} (h:V c ρ k l e (.tup (ao u++ao v))):V c ρ k l e (tk (u++v)).toD:=by rw [bZ,← sq];exact h
theorem om {A S:Word→Prop} (h:∀ u,¬ A u):gy A u (fun u0=>False) S w↔False:=⟨fun h'=>h'.elim (fun zz0=>by obtain ⟨_,a,_,ha,_⟩:=zz0;exact h a ha) fun zz1=>by obtain ⟨_,_,hb,_⟩:=zz1;exact hb,False.elim⟩
theorem sY {A B S:Word→Prop} {v:Word} (hB:∀ b,¬ B b):gy A v (fun u0=>False) S w↔gy A u B S w:=or_congr_right ⟨fun zz2=>by obtain ⟨_,_,hb,_⟩:=zz2;exact hb.elim,fun zz3=>by obtain ⟨_,b,hb,_⟩:=zz3;exact (hB b hb).elim⟩
theorem pW {A A' B S:Word→Prop} (hA:∀ a,A' a↔A a∨a=u) (hB:∀ b,B b↔S b):gy A u B S w↔gy A' [] (fun u0=>False) S w:=
 ⟨fun h=>.inl (h.elim (fun zz4=>by obtain ⟨l,a,b,ha,hb,e⟩:=zz4;exact ⟨l,a,b,(hA a).mpr (.inl ha),hb,e⟩) fun zz5=>by obtain ⟨l,b,hb,e⟩:=zz5;exact ⟨l,u,b,(hA u).mpr (.inr rfl),(hB b).mp hb,e⟩),
  fun h=>h.elim (fun zz6=>by obtain ⟨l,a,b,ha,hb,e⟩:=zz6;exact ((hA a).mp ha).elim (fun ha=>.inl ⟨l,a,b,ha,hb,e⟩) fun ea=>.inr ⟨l,b,(hB b).mpr hb,ea▸e⟩) fun zz7=>by obtain ⟨_,_,hb,_⟩:=zz7;exact hb.elim⟩
theorem qO {A S:Word→Prop} (hA:∀ a,A a↔T a):gy A u (fun u0=>False) S w↔ec T S w:=
 ⟨fun h=>h.elim (fun zz8=>by obtain ⟨l,a,b,ha,hb,e⟩:=zz8;exact ⟨l,a,b,(hA a).mp ha,hb,e⟩) fun zz9=>by obtain ⟨_,_,hb,_⟩:=zz9;exact hb.elim,fun zz10=>by obtain ⟨l,a,b,ha,hb,e⟩:=zz10;exact .inl ⟨l,a,b,(hA a).mpr ha,hb,e⟩⟩
theorem sT {A B B' S:Word→Prop} {v:Word} (hB:∀ b,B' b↔B b∨b=v) (hl:(u++v).length≤2):(gy A u B S w∨w=u++v)↔gy A u B' S w:=
 ⟨fun h=>h.elim (fun h=>h.imp_right fun zz11=>by obtain ⟨l,b,hb,e⟩:=zz11;exact ⟨l,b,(hB b).mpr (.inl hb),e⟩) fun e=>.inr ⟨e▸hl,v,(hB v).mpr (.inr rfl),e⟩,
  fun h=>h.elim (fun h=>.inl (.inl h)) fun zz12=>by obtain ⟨l,b,hb,e⟩:=zz12;exact ((hB b).mp hb).elim (fun hb=>.inl (.inr ⟨l,b,hb,e⟩)) fun eb=>.inr (eb▸e)⟩
theorem tI {A B B' S:Word→Prop} {v:Word} (hB:∀ b,B' b↔B b∨b=v) (hl:¬ (u++v).length≤2):gy A u B S w↔gy A u B' S w:=
 or_congr_right ⟨fun zz13=>by obtain ⟨l,b,hb,e⟩:=zz13;exact ⟨l,b,(hB b).mpr (.inl hb),e⟩,fun zz14=>by obtain ⟨l,b,hb,e⟩:=zz14;exact ((hB b).mp hb).elim (fun hb=>⟨l,b,hb,e⟩) fun eb=>absurd (eb▸e▸l) hl⟩
theorem qf {A B S:Word→Prop} (hA:∀ w,A w→cu w) (hu:cu u) (hB:∀ w,B w→cu w) (hS:∀ w,S w→cu w) (h:gy A u B S w):cu w:=by
 rcases h with ⟨l,a,b,ha,hb,rfl⟩ | ⟨l,b,hb,rfl⟩
 ·exact .app l (hA a ha) (hS b hb)
 ·exact .app l hu (hB b hb)
theorem cY.good {ps:AL} {i:Nat} (h:dc ps S) (hS:∀ w,S w→cu w):∀ w,cY (ps.map (·.1)) i w→cu w:=fun w q=>by
 obtain ⟨v,hv,e⟩:=(h.mem _).mp (List.mem_of_mem_take q)
 exact eQ e▸hS v hv
theorem o9 {u v:Word}:(decide (((ao u).length:Int)+((ao v).length:Int)≤2))=decide ((u++v).length≤2):=by
 rw [ai,ai,List.length_append];exact decide_eq_decide.mpr (Int.ofNat_le (n:=2))
theorem lS (p:Prg W) (r:List Nat) (P:Nat→AL) (S:Nat→Word→Prop) (hW:∀ x∈r,dc (P x) (S x)) (hG:∀ x w,S x w→cu w) (q:∀ f,dc f (c7 (r.map S))→Q (dD f) k):a7 W (n+1) .rowsJoined [.vw (.lst (r.map fun x=>dD (P x))),.im (.int 2)] k Q X:=p.run .rowsJoined rfl rfl 5 fun S0 h0 pen A env=>by
 refine bU 2 (EO.e1 (mc (kk:=tk []) r7 bl rfl ?_)) rfl rfl
 refine aN (RjI [.vw (.lst (r.map fun x=>dD (P x))),.im (.int 2)] r S k) (fJ (l:=.vw) (i:=0) rfl rfl) .lst (.mk (f:=[(tk [],.bool true)]) _ _ _ _ (.of (List.pairwise_singleton ..) fun k=>?_)) nofun (fun u0=>rfl) (fun i d ρ k' hd h=>?_) fun ρ k' h=>?_
 ·exact List.mem_singleton.trans ⟨fun e=>⟨[],rfl,e⟩,fun zz15=>by obtain ⟨w,hw,e⟩:=zz15;exact hw▸e⟩
 ·rw [List.getElem?_map] at hd
  obtain ⟨x,hx,rfl⟩:=Option.map_eq_some_iff.mp hd
  have wx:=hW x (List.mem_of_getElem? hx)
  have gx:=hG x
  induction h with
  | @mk f _ _ _ _ hf=>
  have gf:∀ w,c7 ((r.take i).map S) w→cu w:=jb fun S' hS=>by obtain ⟨y,_,rfl⟩:=List.mem_map.mp hS;exact hG y
  have hn:=ou (Ss:=(r.take i).map S) (S:=S x)
  rw [← ju hx] at hn
  generalize c7 ((r.take i).map S)=J at hf gf hn
  refine ⟨_,.one (i:=3) rfl .vw,aQ 4 (cn ?_) (.inl rfl) rfl rfl⟩
  refine aN (fun j=>RjL [.vw (.lst (r.map fun x=>dD (P x))),.im (.int 2),.im (dD f),.vw (dD (P x))] (gy (cY (f.map (·.1)) j) [] (fun u0=>False) (S x)) k) (aa (l:=.im) (i:=2) rfl rfl) .dct (.mk (g:=[]) _ _ (dz.congr dc.nil fun w=>(om (fun u0 h=>aE h)).symm)) (fun h=>by cases h) (fun u0=>rfl) (fun j d ρ k' hd h=>?_) fun ρ k' h=>?_
  ·obtain ⟨u,rfl,hu,hk⟩:=hf.at hd
   have gA:=cY.good (i:=j) hf gf
   induction h with
   | @mk g _ _ hg=>
   refine ⟨_,.one (i:=5) rfl .im,?_⟩
   refine aN (fun j'=>RjM [.vw (.lst (r.map fun x=>dD (P x))),.im (.int 2),.im (dD f),.vw (dD (P x))] u (gy (cY (f.map (·.1)) j) u (cY ((P x).map (·.1)) j') (S x)) k) (fJ (l:=.vw) (i:=3) rfl rfl) .dct (.mk _ (hg.congr fun w=>sY (fun u0 h=>aE h))) nofun (fun u0=>rfl) (fun j' d ρ k' hd h=>?_) fun ρ k' h=>?_
   ·obtain ⟨v,rfl,hv,hk'⟩:=wx.at hd
    have gB:=cY.good (i:=j') wx gx
    have gu:=gf u hu
    have gv:=gx v hv
    induction h with
    | @mk g _ hg=>
    have lg:=hg.len fun w=>qf gA gu gB gx
    refine ⟨_,.one (i:=6) rfl .vw,?_⟩
    refine c6 (RjM [.vw (.lst (r.map fun x=>dD (P x))),.im (.int 2),.im (dD f),.vw (dD (P x))] u (gy (cY (f.map (·.1)) j) u (cY ((P x).map (·.1)) (j'+1)) (S x)) k) (aC (aV (cy (aa (i:=5) rfl rfl) (.xC (w8 gu)) rfl rfl) (cy (fJ (i:=6) rfl rfl) (.xC (w8 gv)) rfl rfl) .add) (aa (i:=1) rfl rfl) .le rfl) (fun hl=>?_) (fun hl=>aj (.mk _ (hg.congr fun w=>tI (fun b=>cQ hk') fun q=>?_))) fun ρ k h=>aj h
    ·rw [o9] at hl
     exact b7 (k:=tk (u++v)) 4 rfl bl (V.word<|eW (aa (i:=5) rfl rfl) (fJ (i:=6) rfl rfl) (.xA (Nat.le_trans (Nat.add_le_add (uS gu) (uS gv)) (Nat.le_of_ble_eq_true rfl)))) hg.kd (Nat.le_trans lg (Nat.le_of_ble_eq_true rfl)) (aj (.mk _ (hg.add.congr fun w=>sT (fun b=>cQ hk') (of_decide_eq_true hl)))) rfl rfl rfl
    ·rw [o9] at hl;have z:=Eq.trans (Eq.symm (decide_eq_true q)) hl;injection z
   ·induction h with
    | @mk g _ hg=>exact aj (.mk _ _ (hg.congr fun w=>pW (fun a=>cQ hk) fun b=>eV wx))
  ·induction h with
   | @mk g _ _ hg=>exact dS 4 rfl rfl (az 2 (aa (i:=4) rfl rfl) (aj (.mk _ _ _ _ (hn▸hg.congr fun w=>qO fun a=>eV hf))) rfl rfl)
 ·induction h with
  | @mk f _ _ _ _ hf=>exact a9 (aa (i:=2) rfl rfl) (q f (by rw [List.length_map,List.take_length] at hf;exact hf))
end
end Mine
namespace Mine
open PySem PySem.Calls PyProof.Rows PySem.SeqAt PySem.W
structure fN {α:Type} (Inv:α→Prop) (sz:α→Nat) (Cl:α→Nat→Prop) (a:α) (i:Nat) (a':α) (gr:Bool):Prop where
 inv:Inv a'
 le:sz a≤sz a'
 up:gr=true→sz a < sz a'
 cl:gr=false→a'=a∧∀ j,j < i→Cl a j
section
variable {α:Type} {Inv:α→Prop} {sz:α→Nat} {Cl:α→Nat→Prop} {a b:α} {i:Nat} {gr:Bool}
theorem fN.start (h:Inv a):fN Inv sz Cl a 0 a false:=⟨h,Nat.le_refl _,(fun h=>ff h),fun u0=>⟨rfl,(fun u0 h=>by cases h)⟩⟩
theorem fN.same (h:fN Inv sz Cl a i b gr) (hc:Cl b i):fN Inv sz Cl a (i+1) b gr:=⟨h.inv,h.le,h.up,fun e=>⟨(h.cl e).1,fun j hj=>(Nat.lt_succ_iff_lt_or_eq.mp hj).elim ((h.cl e).2 j) fun q=>q▸(h.cl e).1▸hc⟩⟩
theorem fN.grow {j:Nat} {d:α} (h:fN Inv sz Cl a i b gr) (hi:Inv d) (hl:sz b < sz d):fN Inv sz Cl a j d true:=⟨hi,Nat.le_of_lt (Nat.lt_of_le_of_lt h.le hl),fun u0=>Nat.lt_of_le_of_lt h.le hl,(fun h=>tf h)⟩
end
section
variable {α:Type} {c:Cx} {ρ:List Sl} {k:Nat} {Q:Post} {es b:List Stmt} {u:Expr} {pos:Pos}
inductive uH (Inv:α→Prop) (sz:α→Nat) (Cl:α→Nat→Prop) (N cap:Nat) (R:α→Bool→List Sl→Prop) (k:Nat) (m:Nat):List Sl→Nat→Prop
 | mk {ρ a gr}:Inv a→R a gr ρ→(gr=false→∀ j,j < N→Cl a j)→m=2 * (cap - sz a)+gr.toNat→uH Inv sz Cl N cap R k m ρ k
inductive uQ (Inv:α→Prop) (sz:α→Nat) (Cl:α→Nat→Prop) (N:Nat) (R:α→Bool→List Sl→Prop) (k:Nat) (a:α):List Sl→Nat→Prop
 | mk {ρ a' gr}:fN Inv sz Cl a N a' gr→R a' gr ρ→uQ Inv sz Cl N R k a ρ k
set_option tactic.hygienic true in
theorem ji (Inv:α→Prop) (sz:α→Nat) (Cl:α→Nat→Prop) (N cap:Nat) (R:α→Bool→List Sl→Prop) {a:α} (h0:Inv a) (r0:R a true ρ) (hcap:∀ a,Inv a→sz a≤cap) (ht:∀ a gr ρ,R a gr ρ→TV c ρ k u gr)
  (hp:∀ a ρ,Inv a→R a true ρ→TB c ρ k b (uj (uQ Inv sz Cl N R k a))) (hQ:∀ a ρ,Inv a→(∀ j,j < N→Cl a j)→R a false ρ→TB c ρ k es Q):TB c ρ k (.While u b [] pos::es) Q:=by
 refine gI (uH Inv sz Cl N cap R k) (m:=2 * (cap - sz a)+1) (.mk h0 r0 (fun h=>tf h) rfl) fun m ρ k' h=>?_
 induction h with
 | @mk a gr hi hr hc hm=>
 refine ⟨gr,ht a gr ρ hr,fun e=>(hp a ρ hi (e▸hr)).mono fun f ρ k' w=>?_,fun e=>hQ a ρ hi (hc e) (e▸hr)⟩
 cases f with
 | next=>
  obtain ⟨p,r⟩:=w
  rename_i a' gr'
  refine ⟨_,?_,.mk p.inv r (fun e=>by have:=p.cl e;exact this.1▸this.2) rfl⟩
  have c1:=hcap a hi
  have c2:=hcap a' p.inv
  rw [hm,e]
  cases gr' with
  | true=>have:=p.up rfl;show 2 * (cap - sz a')+1 < 2 * (cap - sz a)+1;lia
  | false=>exact (p.cl rfl).1▸Nat.lt_succ_self _
 | _=>exact w.elim
theorem dK {c:Cx} {ρ:List Sl} {k j:Nat} {Q:Post} {es:List Stmt} {z:Str} {p1 px pos:Pos} {b e:Expr} {d:D} {xs:List D} (i:Nat) (hz:ρ[i]? = some (.own (.lst xs))) (h:V c ρ k .im e d) (hb:V c ρ k .any b (.int j)) (hj:j < xs.length) (hl:xs.length≤2 ^ 24) (q:TB c (ρ.set i (.own (.lst (xs.set j d)))) k es Q) (hs:aO c z i=true) (hacc:c.acc=none) (hc:bE e=true):TB c ρ k (.Assign [.Subscript (.Name z p1) b px] e pos::es) Q:=
 .seq (qj hc hacc (List.getElem?_eq_some_iff.mp hz).1 (bO (h.go _ (bI hs hz ⟨_,rfl,hb.go _ ⟨j,xs[j],rfl,by rw [List.getElem?_map,List.getElem?_eq_getElem hj];rfl,by rwa [List.length_map],by
  have q:TB c (ρ.set i (.own (.node .lst ((xs.set j d).map .leaf)))) k es Q:=q
  rw [List.map_set] at q;exact q⟩⟩))))
theorem ua {c:Cx} {ρ:List Sl} {k j:Nat} {Q:Post} {es:List Stmt} {z:Str} {p1 px apos cpos pos:Pos} {b e:Expr} {d:D} {xs ys:List O} (i:Nat) (hz:ρ[i]? = some (.own (.node .lst xs))) (hb:V c ρ k .any b (.int j)) (hj:xs[j]? = some (.node .lst ys)) (h62:j < 2 ^ 62) (hl:ys.length < 2 ^ 24) (h:V c ρ k .im e d) (q:TB c (ρ.set i (.own (.node .lst (xs.set j (.node .lst (ys++[.leaf d])))))) k es Q) (hs:aO c z i=true) (hacc:c.acc=none) (hn:ah e=true) (hns:bQ b=true) (hp:(apos.endLine == cpos.line)=true):TB c ρ k (.Expr (.Call (.Attribute (.Subscript (.Name z p1) b px) "append" apos) [e] [] cpos) pos::es) Q:=
 .seq (dI rfl hn hp hacc (List.getElem?_eq_some_iff.mp hz).1 (nQ hns (bI hs hz ⟨_,rfl,hb.go _ ⟨j,_,rfl,h62,hj,_,rfl,hl,bO (h.go _ q)⟩⟩)))
end
end Mine
namespace Mine
open PySem PySem.Calls PyProof.Rows PySem.SeqAt PySem.W
section
variable {c:Cx} {ρ:List Sl} {k:Nat} {l lw:Lv} {iter elt t test:Expr} {d:D} {ds:List D} {scope:Scope} {pos:Pos} {Q:O→Nat→Prop}
theorem EC.eo {gens} (h:EC c .im ρ k (.ListComp elt gens scope pos) (fQ elt gens scope pos) Q):EO c ρ k (.ListComp elt gens scope pos) Q:=⟨EvC.eo h.go⟩
theorem EC.eoD {kx vx gens} (h:EC c .im ρ k (.DictComp kx vx gens scope pos) (sj kx vx gens scope pos) Q):EO c ρ k (.DictComp kx vx gens scope pos) Q:=⟨EvC.eoD h.go⟩
theorem EC.evA {gens} {Q:D→Nat→Prop} (h:EC c .any ρ k (.ListComp elt gens scope pos) (fQ elt gens scope pos) fun o k'=>Q o.toD k'):E1 c ρ k .any (.ListComp elt gens scope pos) Q:=⟨EvC.evA h.go⟩
inductive CmE (c:Cx) (l:Lv) (t:Expr) (d:D) (B:List Sl) (k:Nat) (elt:Expr) (Q:O→Nat→Prop):Prop
 | mk (ρ':List Sl):TgC c l t d B ρ'→EO c ρ' k elt Q→CmE c l t d B k elt Q
inductive CmV (c:Cx) (l:Lv) (t:Expr) (d:D) (B:List Sl) (k:Nat) (l':Lv) (elt:Expr) (f:D):Prop
 | mk (ρ':List Sl):TgC c l t d B ρ'→V c ρ' k l' elt f→CmV c l t d B k l' elt f
inductive CmT (c:Cx) (l:Lv) (t:Expr) (d:D) (B:List Sl) (k:Nat) (test elt:Expr) (f:D × Bool):Prop
 | mk (ρ':List Sl):TgC c l t d B ρ'→TV c ρ' k test f.2→(f.2=true→V c ρ' k .im elt f.1)→CmT c l t d B k test elt f
theorem sW (n:Nat) (sl:List (Str × Nat)) (hsrc:Src c ρ k l iter ds) (hlen:ds.length≤2 ^ 20) (G:Nat→List O→Prop) (h0:G 0 [])
  (hJ:∀ F s cl C dd (i:Nat) d zs,ds[i]? = some d→G i zs→CmE (c.inn lw F s scope cl C dd sl ρ.length) (lw.inn l) t d ((er lw ρ n).set ρ.length (.own (.node .lst zs))) k elt fun z k'=>k'=k∧G (i+1) (zs++[z]))
  (q:∀ zs,G ds.length zs→Q (.node .lst zs) k) (hc:cA c scope sl ρ.length=true) (hfs:∀ x,foldedSetIterable iter c.env x=pure x):EC c lw ρ k (.ListComp elt [⟨t,iter,[],0⟩] scope pos) (fQ elt [⟨t,iter,[],0⟩] scope pos) Q:=
 ⟨g5 (tt:=false) n sl hc hfs (fun h=>ff h) (fun ds' i zs k'=>ds'=ds∧k'=k∧zs.length≤i∧G i zs) (hsrc.go _ ⟨rfl,rfl,Nat.le_refl _,h0⟩) (fun F s cl C dd ds' i d zs k' hd h=>by
  obtain ⟨rfl,rfl,hz,hg⟩:=h
  obtain ⟨ρ',tg,e⟩:=hJ F s cl C dd i d zs hd hg
  have hlt:=(List.getElem?_eq_some_iff.mp hd).1
  exact ⟨Nat.lt_of_le_of_lt (Nat.le_trans hz (Nat.le_trans (Nat.le_of_lt hlt) hlen)) (Nat.le_of_ble_eq_true rfl),ρ',tg,fun u0=>e.go.mono fun z k'' w=>⟨rfl,w.1,by rw [List.length_append];exact Nat.succ_le_succ hz,w.2⟩,(fun h=>tf h)⟩) fun ds' zs k' h=>by
  obtain ⟨rfl,rfl,_,hg⟩:=h
  exact q zs hg⟩
theorem nj {α β:Type} {f:α→β} {xs:List α} {i:Nat} {x:α} (h:xs[i]? = some x):(xs.take i).map f++[f x]=(xs.take (i+1)).map f:=(ju h).symm
theorem oq (fs:List D) (n:Nat) (sl:List (Str × Nat)) (hsrc:Src c ρ k l iter ds) (hlen:ds.length≤2 ^ 20) (hf:fs.length=ds.length)
  (hJ:∀ F s cl C dd (i:Nat) d f zs,ds[i]? = some d→fs[i]? = some f→CmV (c.inn lw F s scope cl C dd sl ρ.length) (lw.inn l) t d ((er lw ρ n).set ρ.length (.own (.node .lst zs))) k .im elt f)
  (q:Q (.lst fs) k) (hc:cA c scope sl ρ.length=true) (hfs:∀ x,foldedSetIterable iter c.env x=pure x):EC c lw ρ k (.ListComp elt [⟨t,iter,[],0⟩] scope pos) (fQ elt [⟨t,iter,[],0⟩] scope pos) Q:=
 sW n sl hsrc hlen (fun i zs=>zs=(fs.take i).map .leaf) rfl (fun F s cl C dd i d zs hd hz=>by
  have hlt:=(List.getElem?_eq_some_iff.mp hd).1
  have hfi:=List.getElem?_eq_getElem (hf▸hlt:i < fs.length)
  obtain ⟨ρ',tg,v⟩:=hJ F s cl C dd i d _ zs hd hfi
  exact ⟨ρ',tg,v.eo ⟨rfl,by rw [hz,nj hfi]⟩⟩) (fun zs hz=>by rw [hz,← hf,List.take_length];exact q) hc hfs
theorem iW (fs:List (D × Bool)) (n:Nat) (sl:List (Str × Nat)) (hsrc:Src c ρ k l iter ds) (hlen:ds.length≤2 ^ 20) (hf:fs.length=ds.length)
  (hJ:∀ F s cl C dd (i:Nat) d (f:D × Bool) zs,ds[i]? = some d→fs[i]? = some f→CmT (c.inn lw F s scope cl C dd sl ρ.length) (lw.inn l) t d ((er lw ρ n).set ρ.length (.own (.node .lst zs))) k test elt f)
  (q:Q (.lst ((fs.filter (·.2)).map (·.1))) k) (hc:cA c scope sl ρ.length=true) (hfs:∀ x,foldedSetIterable iter c.env x=pure x):EC c lw ρ k (.ListComp elt [⟨t,iter,[test],0⟩] scope pos) (fQ elt [⟨t,iter,[test],0⟩] scope pos) Q:=
 ⟨g5 (tt:=false) n sl hc hfs (fun h=>ff h) (fun ds' i zs k'=>ds'=ds∧k'=k∧zs.length≤i∧zs=((fs.take i).filter (·.2)).map fun f=>.leaf f.1) (hsrc.go _ ⟨rfl,rfl,Nat.le_refl _,rfl⟩) (fun F s cl C dd ds' i d zs k' hd h=>by
  obtain ⟨rfl,rfl,hz,hg⟩:=h
  have hlt:=(List.getElem?_eq_some_iff.mp hd).1
  have hfi:=List.getElem?_eq_getElem (hf▸hlt:i < fs.length)
  obtain ⟨ρ',tg,tv,v⟩:=hJ F s cl C dd i d _ zs hd hfi
  have e:fs.take (i+1)=fs.take i++[fs[i]'(hf▸hlt)]:=by rw [List.take_add_one,hfi];rfl
  refine ⟨Nat.lt_of_le_of_lt (Nat.le_trans hz (Nat.le_trans (Nat.le_of_lt hlt) hlen)) (Nat.le_of_ble_eq_true rfl),ρ',tg,tv.go _ ⟨fun hb=>⟨fun u0=>bO ((v hb).go _ ⟨rfl,rfl,by rw [List.length_append];exact Nat.succ_le_succ hz,?_⟩),(fun h=>tf h)⟩,fun hb=>⟨(fun h=>ff h),fun u0=>⟨rfl,rfl,Nat.le_succ_of_le hz,?_⟩⟩⟩⟩
  ·rw [hg,e,List.filter_append,List.filter_cons_of_pos hb,List.map_append];rfl
  ·rw [hg,e,List.filter_append,List.filter_cons_of_neg (hb▸Bool.false_ne_true),List.filter_nil,List.append_nil]) fun ds' zs k' h=>by
  obtain ⟨rfl,rfl,_,hg⟩:=h
  rw [hg,← hf,List.take_length]
  have:O.node .lst ((fs.filter (·.2)).map fun f=>.leaf f.1)=.lst ((fs.filter (·.2)).map (·.1)):=by rw [O.lst,List.map_map];rfl
  exact this▸q⟩
theorem ll (fs:List D) (n:Nat) (sl:List (Str × Nat)) (hsrc:Src c ρ k l iter ds) (hlen:ds.length≤2 ^ 20) (hf:fs.length=ds.length)
  (hJ:∀ F s cl C dd (i:Nat) d f zs,ds[i]? = some d→fs[i]? = some f→CmV (c.inn .im F s scope cl C dd sl ρ.length) (Lv.im.inn l) t d ((er .im ρ n).set ρ.length (.own (.node .lst zs))) k .im elt f)
  (hc:cA c scope sl ρ.length=true) (hfs:∀ x,foldedSetIterable iter c.env x=pure x) {l':Lv}:V c ρ k l' (.ListComp elt [⟨t,iter,[],0⟩] scope pos) (.lst fs):=
 ⟨fun Q q=>(EO.e1 (Q:=Q) (oq fs n sl hsrc hlen hf hJ (Q:=fun o k'=>Q o.toD k') (aH▸q) hc hfs).eo).go⟩
theorem rQ (fs:List (D × Bool)) (n:Nat) (sl:List (Str × Nat)) (hsrc:Src c ρ k l iter ds) (hlen:ds.length≤2 ^ 20) (hf:fs.length=ds.length)
  (hJ:∀ F s cl C dd (i:Nat) d (f:D × Bool) zs,ds[i]? = some d→fs[i]? = some f→CmT (c.inn .im F s scope cl C dd sl ρ.length) (Lv.im.inn l) t d ((er .im ρ n).set ρ.length (.own (.node .lst zs))) k test elt f)
  (hc:cA c scope sl ρ.length=true) (hfs:∀ x,foldedSetIterable iter c.env x=pure x) {l':Lv}:V c ρ k l' (.ListComp elt [⟨t,iter,[test],0⟩] scope pos) (.lst ((fs.filter (·.2)).map (·.1))):=
 ⟨fun Q q=>(EO.e1 (Q:=Q) (iW fs n sl hsrc hlen hf hJ (Q:=fun o k'=>Q o.toD k') (aH▸q) hc hfs).eo).go⟩
end
end Mine
namespace Mine
open PySem PySem.Calls PyProof.Rows PySem.SeqAt PySem.W
inductive Der (rs:List R) (kn:Nat→Prop):Nat→Prop
 | known {s}:kn s→Der rs kn s
 | rule {r:R}:r∈rs→(∀ x∈r.r,Der rs kn x)→Der rs kn r.l
noncomputable abbrev isB (kn:List Bool) (s:Nat):Prop:=kn.getD s false=true
noncomputable def miss (kn:List Bool) (P r:List Nat):Nat:=r.countP fun x=>!kn.getD x false && !P.contains x
section
variable {kn:List Bool} {P r:List Nat} {x y n i j:Nat}
theorem kQ (h:miss kn P r=0) (hx:x∈r):isB kn x∨x∈P:=by
 have:=List.countP_eq_zero.mp h x hx
 rw [Bool.and_eq_true,Bool.not_eq_true',Bool.not_eq_true'] at this
 by_cases q:isB kn x
 ·exact .inl q
 ·exact .inr (List.contains_iff_mem.mp (Bool.not_eq_false _▸fun e=>this ⟨Bool.not_eq_true _▸q,e⟩))
theorem lp (hy:y∉P) (hk:¬ isB kn y):miss kn P r=miss kn (P++[y]) r+r.count y:=by
 induction r with
 | nil=>rfl
 | cons a r ih=>
  unfold miss at ih ⊢
  rw [List.countP_cons,List.countP_cons,List.count_cons,ih]
  by_cases e:a=y
  ·subst e
   have h1:P.contains a=false:=Bool.not_eq_true _▸fun q=>hy (List.contains_iff_mem.mp q)
   have h2:(P++[a]).contains a=true:=List.contains_iff_mem.mpr (List.mem_append_right _ (List.mem_singleton.mpr rfl))
   rw [h1,h2,Bool.eq_false_iff.mpr hk,beq_self_eq_true];exact (Nat.add_assoc ..)
  ·have:(P++[y]).contains a=P.contains a:=by
    rw [Bool.eq_iff_iff,List.contains_iff_mem,List.contains_iff_mem,List.mem_append,List.mem_singleton]
    exact ⟨fun q=>q.elim id fun q=>absurd q e,.inl⟩
   rw [this,beq_eq_false_iff_ne.mpr e];exact Nat.add_right_comm ..
noncomputable def row (rs:List R) (i j n:Nat):List Nat:=if n < i then (rs[n]?.map (·.r)).getD [] else if n=i then ((rs[n]?.map (·.r)).getD []).take j else []
theorem m9 {rs:List R} {r:R} (h:rs[i]? = some r) (hx:r.r[j]? = some x):(row rs i (j+1) n).count y=(row rs i j n).count y+if n=i∧y=x then 1 else 0:=by
 unfold row
 by_cases h1:n < i
 ·rw [if_pos h1,if_pos h1,if_neg fun q=>Nat.ne_of_lt h1 q.1];rfl
 ·rw [if_neg h1,if_neg h1]
  by_cases h2:n=i
  ·subst h2
   rw [if_pos rfl,if_pos rfl,h,Option.map_some,Option.getD_some,List.take_add_one,hx,List.count_append,Option.toList_some,List.count_singleton]
   by_cases e:y=x
   ·rw [if_pos (beq_iff_eq.mpr e.symm),if_pos ⟨rfl,e⟩]
   ·rw [if_neg fun q=>e (eq_of_beq q).symm,if_neg fun q=>e q.2]
  ·rw [if_neg h2,if_neg h2,if_neg fun q=>h2 q.1];rfl
theorem rW {rs:List R} {r:R} (h:rs[i]? = some r):row rs i r.r.length=row rs (i+1) 0:=by
 funext n
 unfold row
 by_cases h1:n < i
 ·rw [if_pos h1,if_pos (Nat.lt_succ_of_lt h1)]
 ·rw [if_neg h1]
  by_cases h2:n=i
  ·rw [if_pos h2,if_pos (Nat.lt_succ_of_le (Nat.le_of_eq h2)),h2,h];exact List.take_length
  ·rw [if_neg h2,if_neg fun q=>(Nat.lt_succ_iff_lt_or_eq.mp q).elim h1 h2]
   split <;> rfl
structure Us (kn:List Bool) (rw_:Nat→List Nat) (b:Nat) (us:List (List Nat)):Prop where
 len:us.length=kn.length
 ct:∀ x n,x < kn.length→(us.getD x []).count n=if isB kn x then 0 else (rw_ n).count x
 sz:∀ x,(us.getD x []).length≤b
theorem bt {α:Type} {xs:List α} {a d:α}:(xs.set i a).getD j d=if j=i∧i < xs.length then a else xs.getD j d:=by
 rw [List.getD_eq_getElem?_getD,List.getD_eq_getElem?_getD]
 by_cases h:j=i
 ·subst h
  rw [List.getElem?_set_self']
  by_cases hl:j < xs.length
  ·rw [List.getElem?_eq_getElem hl,if_pos ⟨rfl,hl⟩];rfl
  ·rw [List.getElem?_eq_none (Nat.le_of_not_lt hl),if_neg fun q=>hl q.2];rfl
 ·rw [List.getElem?_set_ne (Ne.symm h),if_neg fun q=>h q.1]
section
variable {rs:List R} {r':R} {us:List (List Nat)} {b:Nat}
theorem Us.start:Us kn (row rs 0 0) 0 (List.replicate kn.length []):=⟨List.length_replicate,fun x n h=>by
 rw [List.getD_eq_getElem?_getD,List.getElem?_replicate,if_pos h]
 have:row rs 0 0 n=[]:=by unfold row;rw [if_neg (Nat.not_lt_zero n)];split <;> rfl
 rw [this];split <;> rfl,fun x=>by rw [List.getD_eq_getElem?_getD,List.getElem?_replicate];split <;> exact Nat.le_refl _⟩
theorem Us.yes (h:Us kn (row rs i j) b us) (hr:rs[i]? = some r') (hx:r'.r[j]? = some x) (hl:x < kn.length) (hk:¬ isB kn x):Us kn (row rs i (j+1)) (b+1) (us.set x (us.getD x []++[i])):=by
 refine ⟨(List.length_set ..).trans h.len,fun y n hy=>?_,fun y=>?_⟩
 ·rw [m9 hr hx,bt,h.len]
  by_cases e:y=x
  ·rw [if_pos ⟨e,hl⟩,List.count_append,← e,h.ct y n hy,if_neg (e▸hk),if_neg (e▸hk),List.count_singleton]
   by_cases q:n=i
   ·rw [if_pos (beq_iff_eq.mpr q.symm),if_pos ⟨q,rfl⟩]
   ·rw [if_neg fun p=>q (eq_of_beq p).symm,if_neg fun p=>q p.1]
  ·rw [if_neg (fun p=>e p.1),h.ct y n hy,if_neg (fun p=>e p.2:¬ (n=i∧y=x))];rfl
 ·refine bt▸?_
  split
  ·rw [List.length_append];exact Nat.succ_le_succ (h.sz x)
  ·exact Nat.le_succ_of_le (h.sz y)
theorem Us.no (h:Us kn (row rs i j) b us) (hr:rs[i]? = some r') (hx:r'.r[j]? = some x) (hk:isB kn x):Us kn (row rs i (j+1)) (b+1) us:=
 ⟨h.len,fun y n hy=>by
  rw [m9 hr hx,h.ct y n hy]
  by_cases e:y=x
  ·rw [if_pos (e▸hk),if_pos (e▸hk)]
  ·rw [if_neg (fun p=>e p.2:¬ (n=i∧y=x))];rfl,fun y=>Nat.le_succ_of_le (h.sz y)⟩
theorem Us.all (h:Us kn (row rs rs.length 0) b us) (hl:x < kn.length) (hk:¬ isB kn x) (hr:rs[n]? = some r'):(us.getD x []).count n=r'.r.count x:=by
 rw [h.ct x n hl,if_neg hk,row,if_pos (List.getElem?_eq_some_iff.mp hr).1,hr];rfl
theorem Us.lt (h:Us kn (row rs rs.length 0) b us) (hl:x < kn.length) (hm:n∈us.getD x []):n < rs.length:=Nat.lt_of_not_le fun q=>by
 have:=List.count_pos_iff.mpr hm
 rw [h.ct x n hl,row,if_neg (Nat.not_lt_of_le q),List.getElem?_eq_none q] at this
 split at this
 ·exact Nat.lt_irrefl _ this
 ·split at this <;> exact Nat.lt_irrefl _ this
end
structure Sp (rs:List R) (kn:List Bool) (la:Nat→Prop) (i:Nat) (fo:List Bool) (q:List Nat):Prop where
 len:fo.length=kn.length
 f:∀ s,s < kn.length→(isB fo s↔isB kn s∨s∈q)
 nd:q.Nodup
 k:∀ s∈q,s < kn.length∧¬ isB kn s
 d:∀ s∈q,Der rs (isB kn) s
 z:∀ n r,n < i→rs[n]? = some r→la n→isB fo r.l
section
variable {rs:List R} {la la':Nat→Prop} {fo:List Bool} {q:List Nat} {r':R} {s:Nat}
theorem Sp.start:Sp rs kn la 0 kn []:=⟨rfl,fun s u0=>⟨.inl,fun q=>q.elim id (fun h=>aE h)⟩,.nil,(fun u0 h=>aE h),(fun u0 h=>aE h),fun u0 u0 h=>absurd h (Nat.not_lt_zero _)⟩
theorem Sp.add (h:Sp rs kn la i fo q) (hs:s < kn.length) (hn:¬ isB fo s) (hd:Der rs (isB kn) s):Sp rs kn la i (fo.set s true) (q++[s]):=by
 have hk:¬ isB kn s:=fun e=>hn ((h.f s hs).mpr (.inl e))
 have hq:s∉q:=fun e=>hn ((h.f s hs).mpr (.inr e))
 have fs:∀ y,isB (fo.set s true) y↔isB fo y∨y=s:=fun y=>by
  unfold isB
  rw [bt]
  by_cases e:y=s
  ·rw [if_pos ⟨e,h.len▸hs⟩];exact ⟨fun u0=>.inr e,fun u0=>rfl⟩
  ·rw [if_neg fun p=>e p.1];exact ⟨.inl,fun p=>p.elim id fun p=>absurd p e⟩
 refine ⟨(List.length_set ..).trans h.len,fun y hy=>?_,?_,fun y hy=>?_,fun y hy=>?_,fun n r hn' hr hla=>(fs _).mpr (.inl (h.z n r hn' hr hla))⟩
 ·rw [fs,h.f y hy,List.mem_append,List.mem_singleton,or_assoc]
 ·exact List.nodup_append.mpr ⟨h.nd,List.pairwise_singleton ..,fun a ha b hb e=>hq (List.mem_singleton.mp hb▸e▸ha)⟩
 ·exact (List.mem_append.mp hy).elim (h.k y) fun e=>List.mem_singleton.mp e▸⟨hs,hk⟩
 ·exact (List.mem_append.mp hy).elim (h.d y) fun e=>List.mem_singleton.mp e▸hd
theorem Sp.mono (h:Sp rs kn la i fo q) {i':Nat} (hz:∀ n r,n < i'→rs[n]? = some r→la' n→isB fo r.l):Sp rs kn la' i' fo q:=⟨h.len,h.f,h.nd,h.k,h.d,hz⟩
theorem Sp.der (h:Sp rs kn la i fo q) (hs:s < kn.length) (hf:isB fo s):Der rs (isB kn) s:=((h.f s hs).mp hf).elim .known (h.d s)
theorem Sp.yu (h:Sp rs kn la i fo q):q.length≤kn.length:=by
 have:=h.nd.length_le_of_subset (l₂:=List.range kn.length) fun s hs=>List.mem_range.mpr (h.k s hs).1
 rwa [List.length_range] at this
end
end
end Mine
namespace Mine
open PySem PySem.Calls PyProof.Rows PySem.SeqAt PySem.W
section
variable {W:Wd} {n k i j:Nat} {Q:D→Nat→Prop} {X:Nat→Prop} {g:Gr} {kn fo:List Bool} {c:Cx} {ρ:List Sl} {l:Lv}
noncomputable abbrev au (l:List Bool):List D:=l.map .bool
noncomputable abbrev ja (l:List Int):List D:=l.map .int
noncomputable abbrev gi (us:List (List Nat)):O:=.node .lst (us.map fun u=>.node .lst ((ao u).map .leaf))
theorem cG {s:Nat} (h:s < kn.length):(au kn)[s]? = some (.bool (kn.getD s false)):=by rw [List.getElem?_map,aw (d:=false) h];rfl
noncomputable def gb (kn:List Bool) (r:List Nat) (j:Nat):Nat:=miss kn [] (r.take j)
theorem iE {r:List Nat} {x:Nat} (h:r[j]? = some x):gb kn r (j+1)=gb kn r j+if isB kn x then 0 else 1:=by
 unfold gb miss
 rw [List.take_add_one,h,List.countP_append]
 refine congrArg _ ?_
 show List.countP _ [x]=_
 rw [List.countP_cons,List.countP_nil]
 by_cases e:isB kn x
 ·rw [if_pos e,show kn.getD x false=true from e];rfl
 ·rw [if_neg e,Bool.eq_false_iff.mpr e];rfl
inductive SpA (a:List Sl) (rs:List R) (kn:List Bool) (k i:Nat):List Sl→Nat→Prop
 | mk {us b} (x y z r1 r2 r3:Sl):Us kn (row rs i 0) b us→b≤8 * i→SpA a rs kn k i (a++[.own (.lst (au kn)),.own (.lst (ao ((rs.take i).map fun r=>miss kn [] r.r))),.own (gi us),.own (.lst []),x,y,z,r1,r2,r3]) k
inductive SpB (a:List Sl) (rs:List R) (kn:List Bool) (r:R) (k i j:Nat):List Sl→Nat→Prop
 | mk {us b} (z r1 r2 r3:Sl):Us kn (row rs i j) b us→b≤8 * i+j→SpB a rs kn r k i j (a++[.own (.lst (au kn)),.own (.lst (ao ((rs.take i).map fun r=>miss kn [] r.r))),.own (gi us),.own (.lst []),.im (r.D i),.im (.int (gb kn r.r j:Nat)),z,r1,r2,r3]) k
theorem qw {us:List (List Nat)} {x:Nat} {v:List Nat}:(us.map fun u=>O.node .lst ((ao u).map .leaf)).set x (.node .lst ((ao v).map .leaf))=(us.set x v).map fun u=>O.node .lst ((ao u).map .leaf):=(List.map_set ..).symm
structure LaM (rs:List R) (kn:List Bool) (P u:List Nat) (t:Nat) (la:List Int):Prop where
 len:la.length=rs.length
 at_:∀ n r,rs[n]? = some r→la.getD n 0=(miss kn P r.r:Int) - ((u.take t).count n:Int)
section
variable {rs:List R} {P u q:List Nat} {t m y s:Nat} {la:List Int} {Z Z':Nat→Prop} {r:R}
theorem LaM.start:LaM rs kn [] [] 0 ((rs.map fun r=>miss kn [] r.r).map fun (i:Nat)=>(i:Int)):=⟨by rw [List.length_map,List.length_map],fun n r h=>by
 rw [List.getD_eq_getElem?_getD,List.getElem?_map,List.getElem?_map,h];exact (Int.sub_zero _).symm⟩
theorem LaM.step (h:LaM rs kn P u t la) (hu:u[t]? = some m) (hm:m < rs.length):LaM rs kn P u (t+1) (la.set m (la.getD m 0 - 1)):=⟨(List.length_set ..).trans h.len,fun n r hr=>by
 rw [bt,h.len,List.take_add_one,hu,List.count_append,Option.toList_some,List.count_singleton]
 by_cases e:n=m
 ·rw [if_pos ⟨e,hm⟩,← e,h.at_ n r hr,if_pos (beq_iff_eq.mpr rfl),Int.natCast_add];lia
 ·rw [if_neg fun p=>e p.1,h.at_ n r hr,if_neg fun p=>e (eq_of_beq p).symm];rfl⟩
theorem LaM.next (h:LaM rs kn P u u.length la) (hu:∀ n r,rs[n]? = some r→u.count n=r.r.count y) (hy:y∉P) (hk:¬ isB kn y):LaM rs kn (P++[y]) [] 0 la:=⟨h.len,fun n r hr=>by
 rw [h.at_ n r hr,List.take_length,hu n r hr,lp hy hk,Int.natCast_add,Int.add_sub_cancel];exact (Int.sub_zero _).symm⟩
theorem LaM.begin (h:LaM rs kn P [] 0 la):LaM rs kn P u 0 la:=⟨h.len,h.at_⟩
theorem LaM.der (h:LaM rs kn P u (t+1) la) (hu:∀ n r,rs[n]? = some r→u.count n=r.r.count y) (hy:y∉P) (hk:¬ isB kn y) (hr:rs[m]? = some r) (hz:la.getD m 0=0) (hq:∀ x∈P++[y],Der rs (isB kn) x):Der rs (isB kn) r.l:=by
 have e:=h.at_ m r hr
 rw [hz,lp hy hk,← hu m r hr] at e
 have hc:(u.take (t+1)).count m≤u.count m:=(List.take_sublist ..).count_le _
 have h0:miss kn (P++[y]) r.r=0:=by lia
 exact .rule (List.mem_of_getElem? hr) fun x hx=>(kQ h0 hx).elim .known (hq x)
theorem Sp.done (h:Sp rs kn (fun n=>la.getD n 0=0) rs.length fo q) (hl:LaM rs kn q [] 0 la) (hr:∀ r∈rs,r.l < kn.length∧∀ x∈r.r,x < kn.length) (hs:s < kn.length):isB fo s↔Der rs (isB kn) s:=by
 refine ⟨h.der hs,fun d=>?_⟩
 induction d with
 | known hk=>exact (h.f _ hs).mpr (.inl hk)
 | @rule r hm _ ih=>
  obtain ⟨m,hm'⟩:=List.mem_iff_getElem?.mp hm
  refine h.z m r (List.getElem?_eq_some_iff.mp hm').1 hm' ?_
  have:miss kn q r.r=0:=List.countP_eq_zero.mpr fun x hx e=>by
   rw [Bool.and_eq_true,Bool.not_eq_true',Bool.not_eq_true'] at e
   have hxl:=(hr r hm).2 x hx
   rcases (h.f x hxl).mp (ih x hx hxl) with q1 | q1
   ·rw [show kn.getD x false=true from q1] at e;injection e.1
   ·rw [List.contains_iff_mem.mpr q1] at e;injection e.2
  rw [hl.at_ m r hm',this];rfl
end
noncomputable abbrev nM (rs:List R) (kn:List Bool) (n:Nat):Prop:=((rs.map fun r=>miss kn [] r.r).map fun (i:Nat)=>(i:Int)).getD n 0=0
theorem pU {rs:List R} {r:R} (h:rs[i]? = some r):(nM rs kn i↔miss kn [] r.r=0)∧(ao (rs.map fun r=>miss kn [] r.r))[i]? = some (.int (miss kn [] r.r:Nat)):=by
 have e:(rs.map fun r=>miss kn [] r.r)[i]? = some (miss kn [] r.r):=by rw [List.getElem?_map,h];rfl
 refine ⟨?_,bR e⟩
 unfold nM
 rw [List.getD_eq_getElem?_getD,List.getElem?_map,e]
 exact Int.ofNat_inj (n:=0)
theorem mC {s:Nat}:(au fo).set s (.bool true)=au (fo.set s true):=(List.map_set ..).symm
theorem Sp.turn {rs:List R} {r:R} {Z:Nat→Prop} {q:List Nat} (h:Sp rs kn Z i fo q) (hr:rs[i]? = some r) (hz:Z i→isB fo r.l):Sp rs kn Z (i+1) fo q:=h.mono fun n r' hn hr' z=>(Nat.lt_succ_iff_lt_or_eq.mp hn).elim (fun hn=>h.z n r' hn hr' z) fun e=>by
 subst e;obtain rfl:=geq hr hr';exact hz z
theorem oU {s:Nat} (h:s < fo.length):isB (fo.set s true) s:=by unfold isB;rw [bt,if_pos ⟨rfl,h⟩]
theorem oC {q:List Nat} {t y:Nat} (h:q.Nodup) (hy:q[t]? = some y):y∉q.take t:=fun hm=>by
 rw [← List.take_append_drop t q,lY hy] at h
 exact (List.nodup_append.mp h).2.2 y hm y List.mem_cons_self rfl
theorem sG {la:List Int} {m:Nat} {z:Int}:(ja la).set m (.int z)=ja (la.set m z):=(List.map_set ..).symm
theorem o6 {la:List Int} {m:Nat} (h:m < la.length):(ja la)[m]? = some (.int (la.getD m 0)):=by rw [List.getElem?_map,aw (d:=0) h];rfl
theorem Sp.down {rs:List R} {r:R} {la:List Int} {z:Int} {q:List Nat} {m:Nat} (h:Sp rs kn (fun n=>la.getD n 0=0) rs.length fo q) (hr:rs[m]? = some r) (hz:z=0→isB fo r.l):Sp rs kn (fun n=>(la.set m z).getD n 0=0) rs.length fo q:=h.mono fun n r' hn hr' hla=>by
 rw [bt] at hla
 split at hla
 ·rename_i e;rw [e.1] at hr';obtain rfl:=geq hr hr';exact hz hla
 ·exact h.z n r' hn hr' hla
theorem oF {us:List (List Nat)}:(gi us).toD=.lst (us.map fun u=>.lst (ao u)):=by
 have:∀ us:List (List Nat),O.xv (us.map fun u=>O.node .lst ((ao u).map .leaf))=us.map fun u=>.lst (ao u):=fun us=>by
  induction us with
  | nil=>rfl
  | cons u us ih=>exact congr (congrArg _ aH) ih
 exact congrArg _ (this us)
inductive SpC (a:List Sl) (rs:List R) (kn:List Bool) (us:List (List Nat)) (k i:Nat):List Sl→Nat→Prop
 | mk {fo q} (x y z r1 r2 r3:Sl):Sp rs kn (nM rs kn) i fo q→SpC a rs kn us k i (a++[.own (.lst (au fo)),.own (.lst (ao (rs.map fun r=>miss kn [] r.r))),.own (gi us),.own (.lst (ao q)),x,y,z,r1,r2,r3]) k
inductive SpD (a:List Sl) (rs:List R) (kn:List Bool) (us:List (List Nat)) (k m:Nat):List Sl→Nat→Prop
 | mk {fo q la t} (x y z r2 r3:Sl):Sp rs kn (fun n=>la.getD n 0=0) rs.length fo q→LaM rs kn (q.take t) [] 0 la→t≤q.length→m=kn.length - t→SpD a rs kn us k m (a++[.own (.lst (au fo)),.own (.lst (ja la)),.im (.lst (us.map fun u=>.lst (ao u))),.own (.lst (ao q)),x,y,z,.im (.int (t:Nat)),r2,r3]) k
inductive SpE (a:List Sl) (rs:List R) (kn:List Bool) (us:List (List Nat)) (k t y i:Nat) (P:List Nat):List Sl→Nat→Prop
 | mk {fo q la} (x w z r2 r3:Sl):Sp rs kn (fun n=>la.getD n 0=0) rs.length fo q→LaM rs kn P (us.getD y []) i la→P=q.take t→q[t]? = some y→SpE a rs kn us k t y i P (a++[.own (.lst (au fo)),.own (.lst (ja la)),.im (.lst (us.map fun u=>.lst (ao u))),.own (.lst (ao q)),x,w,z,.im (.int (t:Nat)),r2,r3]) k
theorem mB (p:Prg W) (hg:g.Ok) (hk:kn.length=g.names.length) (q0:∀ fo:List Bool,fo.length=g.names.length→(∀ s,s < g.names.length→(isB fo s↔Der g.rules (isB kn) s))→Q (.lst (au fo)) k):a7 W (n+1) .spread [.im g.D,.im (.lst (au kn))] k Q X:=p.run .spread rfl rfl 10 fun S0 h0 pen A env=>by
 have k64:kn.length≤64:=hk▸Nat.le_trans hg.n (Nat.le_of_ble_eq_true rfl)
 refine aQ 2 (rP (aa (i:=1) rfl rfl) (by rw [List.length_map];exact Nat.le_of_lt (cx k64)) ?_ rfl rfl) (.inl rfl) rfl rfl
 refine aQ 3 (bS ?_) (.inl rfl) rfl rfl
 refine gZ 4 (sW (l:=.any) 1 [("symbol",13)] ((aZ (i:=2) rfl rfl).src .lst) (by rw [List.length_map];exact Nat.le_trans k64 (Nat.le_of_ble_eq_true rfl)) (fun i zs=>zs=List.replicate i (.node .lst [])) rfl (fun F s cl C dd i d zs hd hz=>?_) (fun zs hz=>?_) rfl (fun u0=>rfl)) (.inl rfl) rfl rfl rfl rfl (ltL rfl)
 ·exact ⟨_,.one (i:=13) rfl rfl .vw,bS ⟨rfl,by rw [hz,List.replicate_succ'];rfl⟩⟩
 rw [List.length_map] at hz
 have hz:O.node .lst zs=gi (List.replicate kn.length []):=by rw [hz,gi,List.map_replicate];rfl
 refine hz▸?_
 refine aQ 5 (bS ?_) (.inl rfl) rfl rfl
 refine aN (SpA [.im g.D,.im (.lst (au kn))] g.rules kn k) (ax (aa (l:=.im) (i:=0) rfl rfl) cq rfl) .lst (.mk _ _ _ _ _ _ .start (Nat.le_refl _)) nofun (fun u0=>rfl) (fun i d ρ k' hd h=>?_) fun ρ k' h=>?_
 ·obtain ⟨r,hr,rfl⟩:=bY hd
  have hi:=(List.getElem?_eq_some_iff.mp hr).1
  have hrm:=List.mem_of_getElem? hr
  induction h with
  | @mk us b x y z r1 r2 r3 hu hb=>
  refine ⟨_,.one (i:=6) rfl .im,az 7 ar ?_ rfl rfl⟩
  refine aN (SpB [.im g.D,.im (.lst (au kn))] g.rules kn r k i) (ax (aa (l:=.im) (i:=6) rfl rfl) cg rfl) .tup (.mk z r1 r2 r3 hu hb) nofun (fun u0=>rfl) (fun j d ρ k' hd h=>?_) fun ρ k' h=>?_
  ·apply aT hd;intro x hx
   have hxl:x < kn.length:=hk▸hg.r r hrm x (List.mem_of_getElem? hx)
   have hj:=(List.getElem?_eq_some_iff.mp hx).1
   induction h with
   | @mk us b z r1 r2 r3 hu hb=>
   have hb':b+1≤8 * i+(j+1):=Nat.succ_le_succ hb
   refine ⟨_,.one (i:=8) rfl .im,?_⟩
   refine c6 (SpB [.im g.D,.im (.lst (au kn))] g.rules kn r k i (j+1)) (iA (ey (ay (aZ (i:=2) rfl rfl) (aa (i:=8) rfl rfl) (.lst (cP (Nat.le_of_lt (Nat.lt_of_lt_of_le hxl k64))) (cG hxl)) rfl) rfl)) (fun h1=>?_) (fun h1=>?_) fun u0 u0 h=>aj h
   ·have h1:¬ isB kn x:=fun e=>by have h1:=(show kn.getD x false=true from e)▸h1;cases h1
    refine az 7 (aV (aa (i:=7) rfl rfl) ar .add) ?_ rfl rfl
    have hu2:=hu.yes hr hx hxl h1
    refine ua 4 rfl (aa (i:=8) rfl rfl) (ys:=(ao (us.getD x [])).map .leaf) (by rw [List.getElem?_map,aw (d:=[]) (hu.len▸hxl)];rfl) (cP (Nat.le_of_lt (Nat.lt_of_lt_of_le hxl k64))) (by rw [List.length_map,ai];refine Nat.lt_of_le_of_lt (Nat.le_trans (hu.sz x) hb) ?_;have:=hg.len r hrm;have:=hg.rs;lia) (ax (aa (i:=6) rfl rfl) fE rfl) ?_ rfl rfl rfl rfl rfl
    have e:(us.map fun u=>O.node .lst ((ao u).map .leaf)).set x (.node .lst ((ao (us.getD x [])).map .leaf++[.leaf (.int i)]))=(us.set x (us.getD x []++[i])).map fun u=>O.node .lst ((ao u).map .leaf):=by rw [← qw,← b8,List.map_append];rfl
    have fin:SpB [.im g.D,.im (.lst (au kn))] g.rules kn r k i (j+1) _ k:=.mk (.im (.int x)) r1 r2 r3 hu2 hb'
    rw [iE hx,if_neg h1,gi,← e] at fin
    exact aj fin
   ·have h1:isB kn x:=by rwa [Bool.not_eq_false'] at h1
    have fin:SpB [.im g.D,.im (.lst (au kn))] g.rules kn r k i (j+1) _ k:=.mk (.im (.int x)) r1 r2 r3 (hu.no hr hx h1) hb'
    rw [iE hx,if_pos h1] at fin
    exact aj fin
  ·rw [ai] at h
   induction h with
   | @mk us b z r1 r2 r3 hu hb=>
   have e:(g.rules.take (i+1)).map (fun r=>miss kn [] r.r)=(g.rules.take i).map (fun r=>miss kn [] r.r)++[gb kn r.r r.r.length]:=by rw [ju hr,gb,List.take_length]
   have fin:SpA [.im g.D,.im (.lst (au kn))] g.rules kn k (i+1) _ k:=.mk (.im (r.D i)) (.im (.int (gb kn r.r r.r.length:Nat))) z r1 r2 r3 (rW hr▸hu) (by have:=hg.len r hrm;lia)
   rw [e,← b8] at fin
   exact dw 3 rfl (by rw [ai,List.length_map,List.length_take];have:=hg.rs;lia) (aa (i:=7) rfl rfl) (aj fin) rfl rfl rfl rfl
 ·rw [bC] at h
  induction h with
  | @mk us b x y z r1 r2 r3 hu hb=>
  refine List.take_length▸?_
  refine aN (SpC [.im g.D,.im (.lst (au kn))] g.rules kn us k) (ax (aa (l:=.im) (i:=0) rfl rfl) cq rfl) .lst (.mk (q:=[]) _ _ _ _ _ _ .start) nofun (fun u0=>rfl) (fun i d ρ k' hd h=>?_) fun ρ k' h=>?_
  ·obtain ⟨r,hr,rfl⟩:=bY hd
   have hi:=(List.getElem?_eq_some_iff.mp hr).1
   have hrm:=List.mem_of_getElem? hr
   have hll:r.l < kn.length:=hk▸hg.l r hrm
   induction h with
   | @mk fo q x y z r1 r2 r3 hs=>
   have hlf:r.l < fo.length:=hs.len.symm▸hll
   obtain ⟨nl,la⟩:=pU (kn:=kn) hr
   refine ⟨_,.one (i:=6) rfl .im,?_⟩
   refine c6 (SpC [.im g.D,.im (.lst (au kn))] g.rules kn us k (i+1)) (fh (aC (ay (aZ (i:=3) rfl rfl) (ax (aa (i:=6) rfl rfl) fE rfl) (.lst (cP (Nat.le_trans (Nat.le_of_lt hi) hg.rs)) la) rfl) ar (.eq .int) rfl) fun u0=>iA (ey (ay (aZ (i:=2) rfl rfl) (ax (aa (i:=6) rfl rfl) bT rfl) (.lst (cP (Nat.le_of_lt (Nat.lt_of_lt_of_le hll k64))) (cG hlf)) rfl) rfl)) (fun h1=>?_) (fun h1=>?_) fun u0 u0 h=>aj h
   ·rw [Bool.and_eq_true,Bool.not_eq_true'] at h1
    have hm:miss kn [] r.r=0:=fF h1.1
    have h2:=hs.add (s:=r.l) hll (Bool.eq_false_iff.mp h1.2) (.rule hrm fun x hx=>(kQ hm hx).elim .known (fun h=>aE h))
    have fin:SpC [.im g.D,.im (.lst (au kn))] g.rules kn us k (i+1) _ k:=.mk (.im (r.D i)) y z r1 r2 r3 (h2.turn hr fun u0=>oU hlf)
    rw [← mC,← b8] at fin
    exact dK 2 rfl bl (ax (aa (i:=6) rfl rfl) bT rfl) (by rw [List.length_map];exact hlf) (by rw [List.length_map,hs.len];exact Nat.le_of_lt (cx k64)) (dw 5 rfl (by rw [ai];exact cx (Nat.le_trans hs.yu k64)) (ax (aa (i:=6) rfl rfl) bT rfl) (aj fin) rfl rfl rfl rfl) rfl rfl rfl
   ·refine aj (.mk _ y z r1 r2 r3 (hs.turn hr fun hz=>?_))
    rw [nl.mp hz] at h1
    exact (Bool.not_eq_false' (b:=fo.getD r.l false)).mp h1
  ·rw [bC] at h
   induction h with
   | @mk fo q x y z r1 r2 r3 hs=>
   refine nW 4 rfl rfl (az 9 ar ?_ rfl rfl)
   refine oF▸?_
   have hrr:∀ r∈g.rules,r.l < kn.length∧∀ x∈r.r,x < kn.length:=fun r hr=>hk▸⟨hg.l r hr,hg.r r hr⟩
   have l0:ao (g.rules.map fun r=>miss kn [] r.r)=ja ((g.rules.map fun r=>miss kn [] r.r).map fun (i:Nat)=>(i:Int)):=by rw [ja,List.map_map];rfl
   refine l0▸?_
   refine gI (SpD [.im g.D,.im (.lst (au kn))] g.rules kn us k) (m:=kn.length) (.mk (t:=0) x y z r2 r3 hs .start (Nat.zero_le _) rfl) fun m ρ k' h=>?_
   induction h with
   | @mk fo q la t x y z r2 r3 hs hla htq hm=>
   have hqn:=hs.yu
   refine ⟨_,aC (aa (i:=9) rfl rfl) (cy (aZ (i:=5) rfl rfl) (.xn (by rw [ai];exact Nat.le_of_lt (cx (Nat.le_trans hqn k64)))) rfl rfl) .lt rfl,fun h1=>?_,fun h1=>?_⟩
   ·have htl:t < q.length:=by have h1:=ai▸h1;exact iu h1
    obtain ⟨y',hy⟩:∃ y',q[t]? = some y':=⟨_,List.getElem?_eq_getElem htl⟩
    obtain ⟨hyl,hyk⟩:=hs.k y' (List.mem_of_getElem? hy)
    have hyP:=oC hs.nd hy
    have hyu:(us.map fun u=>D.lst (ao u))[y']? = some (.lst (ao (us.getD y' []))):=by rw [List.getElem?_map,aw (d:=[]) (hu.len▸hyl)];rfl
    have t62:=cP (Nat.le_trans htq (Nat.le_trans hqn k64))
    have all:=fun n r (hr:g.rules[n]? = some r)=>hu.all hyl hyk hr
    generalize hP:q.take t=P at hla hyP
    refine aN (SpE [.im g.D,.im (.lst (au kn))] g.rules kn us k t y' · P) (ay (aa (l:=.im) (i:=4) rfl rfl) (ay (aZ (i:=5) rfl rfl) (aa (i:=9) rfl rfl) (.lst t62 (bR hy)) rfl) (.lst (cP (Nat.le_of_lt (Nat.lt_of_lt_of_le hyl k64))) hyu) rfl) .lst (.mk x y z r2 r3 hs hla.begin hP.symm hy) nofun (fun u0=>rfl) (fun i d ρ k' hd h=>?_) fun ρ k' h=>?_
    ·apply aT hd;intro m hm
     have hml:=hu.lt hyl (List.mem_of_getElem? hm)
     obtain ⟨r,hr⟩:∃ r,g.rules[m]? = some r:=⟨_,List.getElem?_eq_getElem hml⟩
     obtain ⟨hll,_⟩:=hrr r (List.mem_of_getElem? hr)
     have m62:=cP (Nat.le_trans (Nat.le_of_lt hml) hg.rs)
     induction h with
     | @mk fo q la x w z r2 r3 hs hla hP hy=>
     have hmla:m < la.length:=hla.len.symm▸hml
     have hla':=hla.step hm hml
     have hlf:r.l < fo.length:=hs.len.symm▸hll
     have hlt:=(List.getElem?_eq_some_iff.mp hy).1
     refine ⟨_,.one (i:=10) rfl .im,dK 3 rfl (aV (ay (aZ (i:=3) rfl rfl) (aa (i:=10) rfl rfl) (.lst m62 (o6 hmla)) rfl) ar .sub) (aa (i:=10) rfl rfl) (by rw [List.length_map];exact hmla) (by rw [List.length_map,hla.len];exact Nat.le_of_lt (cx hg.rs)) ?_ rfl rfl rfl⟩
     rw [sG]
     generalize hz:la.getD m 0 - 1=zz at hla'
     refine az 11 (ax (ay (ax (aa (i:=0) rfl rfl) cq rfl) (aa (i:=10) rfl rfl) (.lst m62 (ig hr)) rfl) bT rfl) ?_ rfl rfl
     have hzz:(la.set m zz).getD m 0=zz:=by rw [bt,if_pos ⟨rfl,hmla⟩]
     refine c6 (SpE [.im g.D,.im (.lst (au kn))] g.rules kn us k t y' (i+1) P) (fh (aC (ay (aZ (i:=3) rfl rfl) (aa (i:=10) rfl rfl) (.lst m62 (o6 (hla'.len.symm▸hml))) rfl) ar (.eq .int) rfl) fun u0=>iA (ey (ay (aZ (i:=2) rfl rfl) (aa (i:=11) rfl rfl) (.lst (cP (Nat.le_of_lt (Nat.lt_of_lt_of_le hll k64))) (cG hlf)) rfl) rfl)) (fun h1=>?_) (fun h1=>?_) fun u0 u0 h=>aj h
     ·rw [Bool.and_eq_true,Bool.not_eq_true'] at h1
      have hz0:=eq_of_beq h1.1
      have hq':∀ x∈P++[y'],Der g.rules (isB kn) x:=fun x hx=>hs.d x ((List.mem_append.mp hx).elim (fun hx=>List.mem_of_mem_take (hP▸hx)) fun e=>List.mem_singleton.mp e▸List.mem_of_getElem? hy)
      have h2:=(hs.add hll (Bool.eq_false_iff.mp h1.2) (hla'.der all hyP hyk hr hz0 hq')).down (z:=zz) hr fun u0=>oU hlf
      have fin:SpE [.im g.D,.im (.lst (au kn))] g.rules kn us k t y' (i+1) P _ k:=.mk x w z (.im (.int m)) (.im (.int r.l)) h2 hla' ((List.take_append_of_le_length (Nat.le_of_lt hlt))▸hP) (by rw [List.getElem?_append_left hlt];exact hy)
      rw [← mC,← b8] at fin
      exact dK 2 rfl bl (aa (i:=11) rfl rfl) (by rw [List.length_map];exact hlf) (by rw [List.length_map,hs.len];exact Nat.le_of_lt (cx k64)) (dw 5 rfl (by rw [ai];exact cx (Nat.le_trans hs.yu k64)) (aa (i:=11) rfl rfl) (aj fin) rfl rfl rfl rfl) rfl rfl rfl
     ·refine aj (.mk x w z _ _ (hs.down hr fun e=>?_) hla' hP hy)
      rw [hzz,e] at h1
      exact (Bool.not_eq_false' (b:=fo.getD r.l false)).mp h1
    ·rw [ai] at h
     induction h with
     | @mk fo q la x w z r2 r3 hs hla hP hy=>
     have e:q.take (t+1)=P++[y']:=by rw [List.take_add_one,hy,← hP];rfl
     exact az 9 (aV (aa (i:=9) rfl rfl) ar .add) (aj ⟨kn.length - (t+1),by lia,.mk (t:=t+1) x w z r2 r3 hs (e▸hla.next all hyP hyk) (List.getElem?_eq_some_iff.mp hy).1 rfl⟩) rfl rfl
   ·have e:t=q.length:=by
     rw [ai] at h1
     exact Nat.le_antisymm htq (Nat.le_of_not_lt fun q'=>Bool.false_ne_true (h1.symm.trans (decide_eq_true (Int.ofNat_lt.mpr q'))))
    rw [e,List.take_length] at hla
    exact cb 2 rfl rfl (a9 (aa (i:=2) rfl rfl) (q0 fo (hs.len.trans hk) fun s hs'=>hs.done hla hrr (hk▸hs')))
end
end Mine
namespace Mine
open PySem PySem.Calls PyProof.Rows PySem.SeqAt PySem.W
theorem Der.congr {rs:List R} {kn kn':Nat→Prop} (h:∀ s,kn s→kn' s) {s:Nat} (d:Der rs kn s):Der rs kn' s:=by
 induction d with
 | known q=>exact .known (h _ q)
 | rule hr _ ih=>exact .rule hr ih
section
variable {W:Wd} {n k i j:Nat} {Q:D→Nat→Prop} {X:Nat→Prop} {g:Gr} {c:Cx} {ρ:List Sl} {l:Lv} {e:Expr}
theorem fw {px pos:Pos} {es:List Expr} (p:Prg c.W) (h:g.Ok) (h0:V c ρ k .im e g.D) (hn:1≤c.n) (he:es=[]) (hb:a0 e=true) (hl:(px.endLine == pos.line)=true):V c ρ k l (.Call (.Attribute e "symbol_count" px) es [] pos) (.int g.names.length):=he▸i0 h0 .nil ((kI (n:=0) p h).mono hn) rfl rfl hb rfl (Nat.le_of_ble_eq_true rfl) hl rfl
theorem lk {px pos:Pos} {s:Nat} {o:Expr} (p:Prg c.W) (h0:V c ρ k .im e g.D) (h1:V c ρ k .im o (.int s)) (hn:1≤c.n) (hb:a0 e=true) (hs:ah o=true) (hl:(px.endLine == pos.line)=true):V c ρ k l (.Call (.Attribute e "is_terminal" px) [o] [] pos) (.bool (decide (s < g.tc))):=i0 h0 (.im h1 .nil) ((lG (n:=0) p).mono hn) rfl rfl hb (by rw [List.all_cons,hs];rfl) (Nat.le_of_ble_eq_true rfl) hl rfl
theorem g64 (h:g.Ok):g.names.length≤64:=Nat.le_trans h.n (Nat.le_of_ble_eq_true rfl)
theorem d8 (p:Prg W) (hg:g.Ok) (q:∀ fo:List Bool,fo.length=g.names.length→(∀ s,s < g.names.length→(isB fo s↔Der g.rules (fun u0=>False) s))→Q (.lst (au fo)) k):a7 W (n+2) .nullable [.im g.D] k Q X:=p.run .nullable rfl rfl 0 fun S0 h0 pen A env=>by
 have hr:List.replicate (g.names.length:Int).toNat (D.bool false)=au (List.replicate g.names.length false):=List.map_replicate.symm
 have hn:∀ s,¬ isB (List.replicate g.names.length false) s:=fun s h=>by
  unfold isB at h
  rw [List.getD_eq_getElem?_getD,List.getElem?_replicate] at h
  split at h <;> cases h
 refine d7 (aS (f:=.spread) (.im (aa (i:=0) rfl rfl) (.im (eW (sI bl rfl) (fw p hg (aa (i:=0) rfl rfl) (Nat.le_add_left ..) rfl rfl rfl) (.rep (Int.natCast_nonneg _) (Nat.le_of_lt (cx (g64 hg))))) .nil)) ?_ rfl rfl rfl rfl)
 exact hr▸mB p hg List.length_replicate fun fo hl h=>q fo hl fun s hs=>(h s hs).trans ⟨.congr fun s=>hn s,.congr fun s=>False.elim⟩
theorem lP (p:Prg W) (hg:g.Ok) (q:∀ fo:List Bool,fo.length=g.names.length→(∀ s,s < g.names.length→(isB fo s↔Der g.rules (· < g.tc) s))→Q (.lst (au fo)) k):a7 W (n+2) .productive [.im g.D] k Q X:=p.run .productive rfl rfl 0 fun S0 h0 pen A env=>by
 have hb:∀ s,isB ((List.range g.names.length).map fun s=>decide (s < g.tc)) s↔s < g.tc:=fun s=>by
  unfold isB
  rw [List.getD_eq_getElem?_getD,List.getElem?_map]
  by_cases h:s < g.names.length
  ·rw [List.getElem?_range h];exact decide_eq_true_iff
  ·rw [List.getElem?_eq_none (by rw [List.length_range];exact Nat.le_of_not_lt h)]
   exact ⟨(fun h=>ff h),fun q=>absurd (Nat.lt_of_lt_of_le q hg.tc) h⟩
 refine d7 (aS (f:=.spread) (.im (aa (i:=0) rfl rfl) (.im (ll (l:=.im) (au ((List.range g.names.length).map fun s=>decide (s < g.tc))) 1 [("grammar",0),("symbol",2)] (cC (fw p hg (aa (i:=0) rfl rfl) (Nat.le_add_left ..) rfl rfl rfl) (Nat.le_of_lt (cx (g64 hg))) rfl rfl) (by rw [bq];exact Nat.le_trans (g64 hg) (Nat.le_of_ble_eq_true rfl)) (by rw [bq,List.length_map,List.length_map,List.length_range]) (fun F s cl C dd i d f zs hd hf=>?_) rfl (fun u0=>rfl)) .nil)) (mB p hg ((List.length_map ..).trans List.length_range) fun fo hl h=>q fo hl fun s hs=>(h s hs).trans ⟨.congr fun s=>(hb s).mp,.congr fun s=>(hb s).mpr⟩) rfl rfl rfl rfl)
 obtain ⟨hi,rfl⟩:=gG (a:=0) hd
 rw [Nat.zero_add,List.getElem?_map,List.getElem?_map,List.getElem?_range hi] at *
 cases hf
 exact ⟨_,.one (i:=2) rfl rfl .im,lk p (aa (i:=0) rfl rfl) (aa (i:=2) rfl rfl) (Nat.le_add_left ..) rfl rfl rfl⟩
noncomputable def Fb (nl F:Nat→Prop) (β:Prop):List Nat→Prop
 | []=>β
 | x::xs=>F x∨(nl x∧Fb nl F β xs)
noncomputable abbrev Fs (nl F:Nat→Prop):List Nat→Prop:=Fb nl F False
theorem Fb.mono {nl nl' F F':Nat→Prop} {β β':Prop}:∀ {xs},(∀ x∈xs,nl x→nl' x)→(∀ x∈xs,F x→F' x)→(β→β')→Fb nl F β xs→Fb nl' F' β' xs
 | [],_,_,hb,h=>hb h
 | _::_,hn,hf,hb,h=>h.imp (hf _ List.mem_cons_self) fun q=>⟨hn _ List.mem_cons_self q.1,q.2.mono (fun x hx=>hn x (List.mem_cons_of_mem _ hx)) (fun x hx=>hf x (List.mem_cons_of_mem _ hx)) hb⟩
theorem Fs.mono {nl nl' F F':Nat→Prop} {xs:List Nat} (hn:∀ x∈xs,nl x→nl' x) (hf:∀ x∈xs,F x→F' x) (h:Fs nl F xs):Fs nl' F' xs:=Fb.mono hn hf id h
noncomputable def FiS (rs:List R) (tc:Nat) (nl:Nat→Prop) (P:Nat→Nat→Prop) (s t:Nat):Prop:=(s < tc∧t=s)∨∃ r∈rs,r.l=s∧Fs nl (P · t) r.r
noncomputable def Fi (rs:List R) (tc:Nat) (nl:Nat→Prop) (s t:Nat):Prop:=∀ P:Nat→Nat→Prop,(∀ s t,FiS rs tc nl P s t→P s t)→P s t
theorem FiS.mono {rs:List R} {tc:Nat} {nl nl':Nat→Prop} {P P':Nat→Nat→Prop} {s t:Nat} (hn:∀ s,nl s→nl' s) (hP:∀ s,P s t→P' s t) (h:FiS rs tc nl P s t):FiS rs tc nl' P' s t:=
 h.imp_right fun zz0=>by obtain ⟨r,hr,e,q⟩:=zz0;exact ⟨r,hr,e,Fs.mono (fun x u0=>hn x) (fun x u0=>hP x) q⟩
theorem Fi.fold {rs:List R} {tc:Nat} {nl:Nat→Prop} {s t:Nat} (h:FiS rs tc nl (Fi rs tc nl) s t):Fi rs tc nl s t:=fun P hP=>hP s t (h.mono (fun u0=>id) fun u0 q=>q P hP)
theorem tV {nl:List Bool} {F:List Nat} {t:Nat}:∀ {xs m},(foA nl F m xs).1.testBit t=true↔m.testBit t=true∨Fs (isB nl) (fun x=>(F.getD x 0).testBit t=true) xs:=by
 intro xs
 induction xs with
 | nil=>
  exact @fun m=>⟨.inl,fun h=>h.elim id False.elim⟩
 | cons x xs ihq=>
  intro m
  have e:(m ||| F.getD x 0).testBit t=true↔m.testBit t=true∨(F.getD x 0).testBit t=true:=by rw [Nat.testBit_or,Bool.or_eq_true]
  rw [foA]
  by_cases h:isB nl x
  ·rw [if_pos h,ihq,e,or_assoc];exact or_congr_right (or_congr_right ⟨fun q=>⟨h,q⟩,And.right⟩)
  ·rw [if_neg h];exact e.trans (or_congr_right ⟨.inl,fun q=>q.elim id fun q=>absurd q.1 h⟩)
theorem vD {nl:List Bool} {F:List Nat} (hF:∀ x,F.getD x 0 < 2 ^ 16):∀ {xs m},m < 2 ^ 16→(foA nl F m xs).1 < 2 ^ 16:=by
 intro xs
 induction xs with
 | nil=>
  exact @fun m h=>h
 | cons x xs ihq=>
  intro m h
  rw [foA]
  split
  ·exact ihq (Nat.or_lt_two_pow h (hF x))
  ·exact Nat.or_lt_two_pow h (hF x)
structure FiM (S:Nat→Nat→Prop) (tc N:Nat) (F:List Nat):Prop where
 tm:∀ s,s < tc→(F.getD s 0).testBit s=true
 len:F.length=N
 lt:∀ x,F.getD x 0 < 2 ^ 16
 sound:∀ s t,s < N→(F.getD s 0).testBit t=true→S s t
noncomputable def dT (F:List Nat):Nat:=F.foldl (· + ·) 0
theorem qH:∀ {F:List Nat} {a:Nat},F.foldl (· + ·) a=a+dT F:=by
 intro F
 induction F with
 | nil=>
  exact @fun u0=>rfl
 | cons x F ihq=>
  exact @fun a=>by unfold dT;rw [List.foldl_cons,List.foldl_cons,ihq,ihq,Nat.zero_add,Nat.add_assoc]
theorem cS {x:Nat} {F:List Nat}:dT (x::F)=x+dT F:=by show F.foldl (· + ·) (0+x)=_;rw [qH,Nat.zero_add]
theorem jZ {x y:Nat}:∀ {F:List Nat},x < F.length→dT (F.set x y)+F.getD x 0=dT F+y
 | a::F,h=>by
  cases x with
  | zero=>rw [List.set_cons_zero,cS,cS];show _+a=_;lia
  | succ x=>
   have:=jZ (F:=F) (x:=x) (y:=y) (Nat.lt_of_succ_lt_succ h)
   rw [List.set_cons_succ,cS,cS];show a+dT (F.set x y)+F.getD x 0=_;lia
theorem FiM.cap {S:Nat→Nat→Prop} {tc N:Nat} {F:List Nat} (h:FiM S tc N F):dT F≤N * 2 ^ 16:=by
 have:∀ {F:List Nat},(∀ x,F.getD x 0 < 2 ^ 16)→dT F≤F.length * 2 ^ 16:=fun {F}=>by
  induction F with
  | nil=>exact fun u0=>Nat.zero_le _
  | cons a F ih=>
   intro h
   have h1:=h 0
   have h2:=ih fun x=>h (x+1)
   rw [cS,List.length_cons,Nat.succ_mul]
   have h1:a < 2 ^ 16:=h1
   lia
 exact h.len▸this h.lt
theorem FiM.set {S:Nat→Nat→Prop} {tc N s m:Nat} {F:List Nat} (h:FiM S tc N F) (hs:s < N) (hm:m < 2 ^ 16) (hb:∀ t,m.testBit t=true→S s t) (hu:∀ t,(F.getD s 0).testBit t=true→m.testBit t=true):FiM S tc N (F.set s m):=by
 refine ⟨fun x hx=>?_,(List.length_set ..).trans h.len,fun x=>?_,fun x t hx=>?_⟩ <;> refine bt▸?_
 ·split
  ·rename_i e;rw [e.1] at hx ⊢;exact hu s (h.tm s hx)
  ·exact h.tm x hx
 ·split
  ·exact hm
  ·exact h.lt x
 ·split
  ·rename_i e;rw [e.1];exact hb t
  ·exact h.sound x t hx
noncomputable def tM (rs:List R) (nl:List Bool) (F:List Nat) (j:Nat):Prop:=∀ r,rs[j]? = some r→∀ t,Fs (isB nl) (fun x=>(F.getD x 0).testBit t=true) r.r→(F.getD r.l 0).testBit t=true
theorem m8 {F:List Nat} {s m:Nat}:(ao F).set s (.int (m:Int))=ao (F.set s m):=(List.map_set ..).symm
theorem mI {a b:Nat} (h:a ||| b≠a):a < a ||| b:=Nat.lt_of_le_of_ne Nat.left_le_or (Ne.symm h)
theorem j9 {F:List Nat} {s m:Nat} (hs:s < F.length) (h:F.getD s 0 < m):dT F < dT (F.set s m):=by have:=jZ (y:=m) hs;lia
theorem FiM.done {rs:List R} {nl:List Bool} {tc N s t:Nat} {F:List Nat} {nl':Nat→Prop} (h:FiM (Fi rs tc nl') tc N F) (hc:∀ j,j < rs.length→tM rs nl F j) (hr:∀ r∈rs,∀ x∈r.r,x < N) (hn:∀ x,x < N→nl' x→isB nl x) (hs:s < N):(F.getD s 0).testBit t=true↔Fi rs tc nl' s t:=by
 refine ⟨h.sound s t hs,fun q=>q (fun s t=>s < N→(F.getD s 0).testBit t=true) (fun s t q hs=>?_) hs⟩
 rcases q with ⟨h1,rfl⟩ | ⟨r,hm,rfl,h2⟩
 ·exact h.tm _ h1
 ·obtain ⟨j,hj⟩:=List.mem_iff_getElem?.mp hm
  exact hc j (List.getElem?_eq_some_iff.mp hj).1 r hj t (Fs.mono (fun x hx=>hn x (hr r hm x hx)) (fun x hx q=>q (hr r hm x hx)) h2)
inductive FmA (a:List Sl) (tc k i:Nat):List Sl→Nat→Prop
 | mk (x y z w:Sl):FmA a tc k i (a++[.own (.lst (ao ((List.range i).map fun s=>if s < tc then 2 ^ s else 0))),x,y,z,w]) k
inductive FmR (a:List Sl):List Nat→Bool→List Sl→Prop
 | mk {F gr} (x y z:Sl):FmR a F gr (a++[.own (.lst (ao F)),x,.im (.bool gr),y,z])
inductive FmJ (a:List Sl) (Inv:List Nat→Prop) (Cl:List Nat→Nat→Prop) (F0:List Nat) (k i:Nat):List Sl→Nat→Prop
 | mk {F gr ρ}:fN Inv dT Cl F0 i F gr→FmR a F gr ρ→FmJ a Inv Cl F0 k i ρ k
theorem gj (p:Prg W) (hg:g.Ok) (q:∀ F:List Nat,F.length=g.names.length→(∀ x,F.getD x 0 < 2 ^ 16)→(∀ s t,s < g.names.length→((F.getD s 0).testBit t=true↔Fi g.rules g.tc (Der g.rules fun u0=>False) s t))→Q (.lst (ao F)) k):a7 W (n+3) .firstMasks [.im g.D] k Q X:=p.run .firstMasks rfl rfl 6 fun S0 h0 pen A env=>by
 refine bU 1 (aS (f:=.nullable) (.im (aa (i:=0) rfl rfl) .nil) (d8 p hg fun nl hnl hn=>?_) rfl rfl rfl rfl) rfl rfl
 refine aQ 2 (bS ?_) (.inl rfl) rfl rfl
 have n64:=g64 hg
 refine cO (FmA [.im g.D,.im (.lst (au nl))] g.tc k) (cC (l:=.im) (fw p hg (aa (i:=0) rfl rfl) (Nat.le_add_left ..) rfl rfl rfl) (Nat.le_of_lt (cx n64)) rfl rfl) (.mk ..) nofun (fun u0=>rfl) (fun i d ρ k' hd h=>?_) fun ρ k' h=>?_
 ·apply hU hd;intro hi
  induction h with
  | mk x y z w=>
  refine ⟨_,.one (i:=3) rfl .im,dw 2 rfl (by rw [ai,List.length_map,List.length_range];exact cx (Nat.le_trans (Nat.le_of_lt hi) n64)) (d:=.int ((if i < g.tc then 2 ^ i else 0:Nat):Int)) (iG (lk p (aa (i:=0) rfl rfl) (aa (i:=3) rfl rfl) (Nat.le_add_left ..) rfl rfl rfl).tv (fun h=>?_) fun h=>?_) ?_ rfl rfl rfl rfl⟩
  ·rw [if_pos (of_decide_eq_true h)]
   exact aV ar (aa (i:=3) rfl rfl) (.shl (Int.natCast_nonneg i) (by lia))
  ·rw [if_neg (of_decide_eq_false h)];exact ar
  ·have fin:FmA [.im g.D,.im (.lst (au nl))] g.tc k (i+1) _ k:=.mk (.im (.int i)) y z w
   rw [List.range_succ,List.map_append,List.map_singleton,← b8] at fin
   exact aj fin
 ·rw [bq] at h
  induction h with
  | mk x y z w=>
  have f0:FiM (Fi g.rules g.tc (Der g.rules fun u0=>False)) g.tc g.names.length ((List.range g.names.length).map fun s=>if s < g.tc then 2 ^ s else 0):=by
   have at_:∀ s,s < g.names.length→((List.range g.names.length).map fun s=>if s < g.tc then 2 ^ s else 0).getD s 0=if s < g.tc then 2 ^ s else 0:=fun s hs=>by
    rw [List.getD_eq_getElem?_getD,List.getElem?_map,List.getElem?_range hs];rfl
   refine ⟨fun s hs=>by rw [at_ s (Nat.lt_of_lt_of_le hs hg.tc),if_pos hs,Nat.testBit_two_pow_self],(List.length_map ..).trans List.length_range,fun s=>?_,fun s t hs h=>?_⟩
   ·by_cases hs:s < g.names.length
    ·rw [at_ s hs]
     split
     ·exact Nat.pow_lt_pow_right (by decide) (Nat.lt_of_lt_of_le hs hg.n)
     ·decide
    ·rw [List.getD_eq_getElem?_getD,List.getElem?_eq_none (by rw [List.length_map,List.length_range];exact Nat.le_of_not_lt hs)];decide
   ·rw [at_ s hs] at h
    split at h
    ·rw [Nat.testBit_two_pow,decide_eq_true_eq] at h
     exact .fold (.inl ⟨‹_›,h.symm⟩)
    ·rw [Nat.zero_testBit] at h;injection h
  refine az 4 bl ?_ rfl rfl
  refine ji (FiM (Fi g.rules g.tc (Der g.rules fun u0=>False)) g.tc g.names.length) dT (tM g.rules nl) g.rules.length _ (FmR [.im g.D,.im (.lst (au nl))]) f0 (.mk x z w) (fun F h=>h.cap) (fun F gr ρ h=>?_) (fun F ρ hi h=>?_) fun F ρ hi hc h=>?_
  ·induction h with
   | mk x y z=>exact (aa (i:=4) rfl rfl).tv
  ·induction h with
   | mk x y z=>
   refine az 4 bl ?_ rfl rfl
   refine aN (FmJ [.im g.D,.im (.lst (au nl))] (FiM (Fi g.rules g.tc (Der g.rules fun u0=>False)) g.tc g.names.length) (tM g.rules nl) F k) (ax (aa (l:=.im) (i:=0) rfl rfl) cq rfl) .lst (.mk (.start hi) (.mk x y z)) nofun (fun u0=>rfl) (fun i d ρ k' hd h=>?_) fun ρ k' h=>?_
   ·obtain ⟨r,hr,rfl⟩:=bY hd
    have hrm:=List.mem_of_getElem? hr
    have hl:=hg.l r hrm
    induction h with
    | @mk F1 gr ρ hp hR=>
    induction hR with
    | mk x y z=>
    have hI:=hp.inv
    have l62:=cP (Nat.le_trans (Nat.le_of_lt hl) n64)
    have hlF:r.l < F1.length:=hI.len.symm▸hl
    have at_:=bR (aw (d:=0) hlF)
    have hfx:∀ x∈r.r,x < nl.length∧x < F1.length:=fun x hx=>hnl.symm▸hI.len.symm▸⟨hg.r r hrm x hx,hg.r r hrm x hx⟩
    have hb:=fun t=>tV (nl:=nl) (F:=F1) (t:=t) (xs:=r.r) (m:=0)
    have hlt:=vD (nl:=nl) hI.lt (xs:=r.r) (m:=0) (by decide)
    refine ⟨_,.one (i:=5) rfl .im,az 6 (aV (ay (aZ (i:=2) rfl rfl) (ax (aa (i:=5) rfl rfl) bT rfl) (.lst l62 at_) rfl) (ay (jh (f:=.firstOf) (.im (ax (aa (i:=5) rfl rfl) cg rfl) (.im (aa (i:=1) rfl rfl) (.vw (aZ (i:=2) rfl rfl) .nil))) ((qx (n:=n+1) p hfx (hnl.symm▸n64) rfl).mono (Nat.le_refl _)) rfl rfl rfl rfl) ar (.tup (i:=0) (by decide) rfl) rfl) (.bor (Int.natCast_nonneg _) (Int.natCast_nonneg _))) ?_ rfl rfl⟩
    generalize foA nl F1 0 r.r=fo at hb hlt
    obtain ⟨fm,fb⟩:=fo
    refine c6 (FmJ [.im g.D,.im (.lst (au nl))] (FiM (Fi g.rules g.tc (Der g.rules fun u0=>False)) g.tc g.names.length) (tM g.rules nl) F k (i+1)) (aC (aa (i:=6) rfl rfl) (ay (aZ (i:=2) rfl rfl) (ax (aa (i:=5) rfl rfl) bT rfl) (.lst l62 at_) rfl) (.ne .int) rfl) (fun h1=>?_) (fun h1=>?_) fun u0 u0 h=>aj h
    ·have hne:F1.getD r.l 0 ||| fm≠F1.getD r.l 0:=fun e=>by
      rw [Bool.not_eq_true',beq_eq_false_iff_ne] at h1;exact h1 (congrArg Int.ofNat e)
     have hI2:=hI.set hl (Nat.or_lt_two_pow (hI.lt r.l) hlt) (fun t ht=>by
      rw [Nat.testBit_or,Bool.or_eq_true] at ht
      refine ht.elim (hI.sound r.l t hl) fun ht=>.fold (.inr ⟨r,hrm,rfl,((hb t).mp ht).elim (fun e=>by rw [Nat.zero_testBit] at e;injection e) fun q=>Fs.mono (fun x hx=>(hn x (hg.r r hrm x hx)).mp) (fun x hx=>hI.sound x t (hg.r r hrm x hx)) q⟩)) fun t ht=>by rw [Nat.testBit_or,ht];rfl
     have fin:FmR [.im g.D,.im (.lst (au nl))] (F1.set r.l (F1.getD r.l 0 ||| fm)) true _:=.mk x (.im (r.D i)) (.im (.int (F1.getD r.l 0 ||| fm:Nat)))
     rw [← m8] at fin
     exact dK 2 rfl (aa (i:=6) rfl rfl) (ax (aa (i:=5) rfl rfl) bT rfl) (by rw [ai];exact hlF) (by rw [ai,hI.len];exact Nat.le_of_lt (cx n64)) (az 4 bl (aj (.mk (hp.grow hI2 (j9 hlF (mI hne))) fin)) rfl rfl) rfl rfl rfl
    ·have he:F1.getD r.l 0 ||| fm=F1.getD r.l 0:=fF ((Bool.not_eq_false' ..).mp h1)
     refine aj (.mk (hp.same fun r' hr' t ht=>?_) (.mk x _ _))
     obtain rfl:=geq hr hr'
     rw [← he,Nat.testBit_or,(hb t).mpr (.inr ht),Bool.or_true]
   ·rw [bC] at h
    induction h with
    | @mk F1 gr ρ hp hR=>exact aj (.mk hp hR)
  ·induction h with
   | mk x y z=>exact cb 2 rfl rfl (a9 (aa (i:=2) rfl rfl) (q F hi.len hi.lt fun s t hs=>hi.done hc hg.r (fun x hx=>(hn x hx).mpr) hs))
end
end Mine
namespace Mine
open PySem PySem.Calls PyProof.Rows PySem.SeqAt PySem.W
noncomputable def FoS (rs:List R) (tc:Nat) (nl:Nat→Prop) (F P:Nat→Nat→Prop) (s t:Nat):Prop:=∃ r∈rs,∃ a b,r.r=a++s::b∧tc≤s∧Fb nl (F · t) (P r.l t) b
noncomputable def Fo (rs:List R) (tc:Nat) (nl:Nat→Prop) (F:Nat→Nat→Prop) (s t:Nat):Prop:=∀ P:Nat→Nat→Prop,(∀ s t,FoS rs tc nl F P s t→P s t)→P s t
theorem Fo.fold {rs:List R} {tc:Nat} {nl:Nat→Prop} {F:Nat→Nat→Prop} {s t:Nat} (h:FoS rs tc nl F (Fo rs tc nl F) s t):Fo rs tc nl F s t:=fun P hP=>hP s t (by
 obtain ⟨r,hr,a,b,e,hs,q⟩:=h
 exact ⟨r,hr,a,b,e,hs,q.mono (fun u0 u0=>id) (fun u0 u0=>id) fun q=>q P hP⟩)
noncomputable abbrev bit (F:List Nat) (t x:Nat):Prop:=(F.getD x 0).testBit t=true
noncomputable def ClB (tc:Nat) (nl:List Bool) (F G:List Nat) (l:Nat) (b:List Nat):Prop:=∀ a s b',b=a++s::b'→tc≤s→∀ t,Fb (isB nl) (bit F t) (bit G t l) b'→bit G t s
noncomputable def qL (rs:List R) (tc:Nat) (nl:List Bool) (F G:List Nat) (j:Nat):Prop:=∀ r,rs[j]? = some r→ClB tc nl F G r.l r.r
inductive FwR (a:List Sl) (G:List Nat) (gr:Bool):List Sl→Prop
 | mk (x y z:Sl):FwR a G gr (a++[.own (.lst (ao G)),.im (.bool gr),x,y,z])
inductive FwJ (a:List Sl) (Inv:List Nat→Prop) (Cl:List Nat→Nat→Prop) (G0:List Nat) (k i:Nat):List Sl→Nat→Prop
 | mk {G gr ρ}:fN Inv dT Cl G0 i G gr→FwR a G gr ρ→FwJ a Inv Cl G0 k i ρ k
structure InR (Inv:List Nat→Prop) (Cl:List Nat→Nat→Prop) (G0 Gs:List Nat) (tc:Nat) (nl:List Bool) (F:List Nat) (l i:Nat) (b:List Nat) (G:List Nat) (gr:Bool) (m:Nat):Prop where
 ps:fN Inv dT Cl G0 i G gr
 same:gr=false→Gs=G0
 cl:gr=false→ClB tc nl F G0 l b
 mb:∀ t,m.testBit t=true↔Fb (isB nl) (bit F t) (bit Gs t l) b
 lt:m < 2 ^ 16
inductive FwK (a:List Sl) (I:List Nat→List Nat→Bool→Nat→Prop) (r:R) (i k j:Nat):List Sl→Nat→Prop
 | mk {pre b G gr m} (y:Sl):r.r=pre++b→b.length=j→I b G gr m→FwK a I r i k j (a++[.own (.lst (ao G)),.im (.bool gr),.im (r.D i),.im (.int (m:Nat)),y]) k
section
variable {Inv:List Nat→Prop} {Cl:List Nat→Nat→Prop} {G0 Gs G F b:List Nat} {tc l i x m:Nat} {nl:List Bool} {gr:Bool}
theorem ClB.nil:ClB tc nl F G l []:=fun a s b' e=>by cases a <;> cases e
theorem ClB.cons (h:ClB tc nl F G l b) (hx:tc≤x→∀ t,Fb (isB nl) (bit F t) (bit G t l) b→bit G t x):ClB tc nl F G l (x::b):=fun a s b' e hs t q=>by
 cases a with
 | nil=>cases e;exact hx hs t q
 | cons y a=>cases e;exact h a s b' rfl hs t q
theorem InR.term (h:InR Inv Cl G0 Gs tc nl F l i b G gr m) (hx:x < tc) (hn:¬ isB nl x) (hF:F.getD x 0 < 2 ^ 16):InR Inv Cl G0 Gs tc nl F l i (x::b) G gr (F.getD x 0):=
 ⟨h.ps,h.same,fun e=>(h.cl e).cons fun q=>absurd hx (Nat.not_lt_of_le q),fun t=>⟨.inl,fun q=>q.elim id fun q=>absurd q.1 hn⟩,hF⟩
theorem InR.name (h:InR Inv Cl G0 Gs tc nl F l i b G gr m) (hF:F.getD x 0 < 2 ^ 16) {G':List Nat} {gr':Bool} (hp:fN Inv dT Cl G0 i G' gr') (hg:gr'=false→gr=false∧∀ t,m.testBit t=true→bit G0 t x):InR Inv Cl G0 Gs tc nl F l i (x::b) G' gr' (if isB nl x then m ||| F.getD x 0 else F.getD x 0):=
 ⟨hp,fun e=>h.same (hg e).1,fun e=>(h.cl (hg e).1).cons fun u0 t q=>(hg e).2 t ((h.mb t).mpr (h.same (hg e).1▸q)),fun t=>by
  by_cases e:isB nl x
  ·rw [if_pos e,Nat.testBit_or,Bool.or_eq_true,h.mb];exact Or.comm.trans (or_congr_right ⟨fun q=>⟨e,q⟩,And.right⟩)
  ·rw [if_neg e];exact ⟨.inl,fun q=>q.elim id fun q=>absurd q.1 e⟩,by
  split
  ·exact Nat.or_lt_two_pow h.lt hF
  ·exact hF⟩
end
inductive FwM (a:List Sl) (P:List Nat→Bool→Prop) (z:Sl) (m x k:Nat):List Sl→Nat→Prop
 | mk {G gr}:P G gr→FwM a P z m x k (a++[.own (.lst (ao G)),.im (.bool gr),z,.im (.int m),.im (.int x)]) k
noncomputable def FwP (Inv:List Nat→Prop) (Cl:List Nat→Nat→Prop) (G0:List Nat) (i:Nat) (gr:Bool) (m x:Nat) (G:List Nat) (gr':Bool):Prop:=fN Inv dT Cl G0 i G gr'∧(gr'=false→gr=false∧∀ t,m.testBit t=true→bit G0 t x)
theorem Der.nt {rs:List R} {tc s:Nat} (h:∀ r∈rs,tc≤r.l) (d:Der rs (fun u0=>False) s):tc≤s:=by
 cases d with
 | known h=>exact h.elim
 | rule hr _=>exact h _ hr
theorem vb {α:Type} {xs pre b:List α} {x:α} (h:xs=pre++b) (hx:xs.reverse[b.length]? = some x):∃ pre',pre=pre'++[x]∧xs=pre'++x::b:=by
 rw [h,List.reverse_append,List.getElem?_append_right (Eq.symm List.length_reverse▸Nat.le_refl _),List.length_reverse,Nat.sub_self] at hx
 rcases List.eq_nil_or_concat pre with e | ⟨pre',y,e⟩
 ·have hx:=e▸hx;cases hx
 ·rw [List.concat_eq_append] at e
  rw [e,List.reverse_append] at hx
  cases hx
  exact ⟨pre',e,by rw [h,e,List.append_assoc];rfl⟩
section
variable {W:Wd} {n k i j:Nat} {Q:D→Nat→Prop} {X:Nat→Prop} {g:Gr}
theorem kH (p:Prg W) (hq:W.qt=true) (hg:g.Ok) (q:∀ G:List Nat,G.length=g.names.length→(∀ x,G.getD x 0 < 2 ^ 16)→(∀ s t,s < g.names.length→((G.getD s 0).testBit t=true↔Fo g.rules g.tc (Der g.rules fun u0=>False) (Fi g.rules g.tc (Der g.rules fun u0=>False)) s t))→Q (.lst (ao G)) k):a7 W (n+4) .followMasks [.im g.D] k Q X:=p.run .followMasks rfl rfl 7 fun S0 h0 pen A env=>by
 have n64:=g64 hg
 refine bU 1 (aS (f:=.nullable) (.im (aa (i:=0) rfl rfl) .nil) ((d8 (n:=n) p hg fun nl hnl hn=>?_).mono (Nat.le_succ _)) rfl rfl rfl rfl) rfl rfl
 refine bU 2 (aS (f:=.firstMasks) (.im (aa (i:=0) rfl rfl) .nil) (gj p hg fun F hFl hFt hF=>?_) rfl rfl rfl rfl) rfl rfl
 refine aQ 3 ⟨sf rfl (ar.go _ ((fw p hg (aa (i:=0) rfl rfl) (Nat.le_add_left ..) rfl rfl rfl).go _ ⟨_,rfl,Int.natCast_nonneg _,Nat.le_of_lt (cx n64),?_⟩))⟩ (.inl rfl) rfl rfl
 refine az 4 bl ?_ rfl rfl
 have r0:(List.replicate (g.names.length:Int).toNat (D.int 0))=ao (List.replicate g.names.length 0):=(List.map_replicate (f:=fun (i:Nat)=>D.int (i:Int)) (a:=0)).symm
 refine r0▸?_
 have z0:∀ x,(List.replicate g.names.length 0).getD x 0=0:=fun x=>by rw [List.getD_eq_getElem?_getD,List.getElem?_replicate];split <;> rfl
 generalize hS:Fo g.rules g.tc (Der g.rules fun u0=>False) (Fi g.rules g.tc (Der g.rules fun u0=>False))=S at q
 have f0:FiM S 0 g.names.length (List.replicate g.names.length 0):=⟨(fun u0 h=>by cases h),List.length_replicate,fun x=>by rw [z0];decide,fun s t u0 h=>by rw [z0,Nat.zero_testBit] at h;injection h⟩
 refine ji (FiM S 0 g.names.length) dT (qL g.rules g.tc nl F) g.rules.length _ (FwR [.im g.D,.im (.lst (au nl)),.im (.lst (ao F))]) f0 (.mk _ _ _) (fun G h=>h.cap) (fun G gr ρ h=>?_) (fun G ρ hi h=>?_) fun G ρ hi hc h=>?_
 ·induction h with
  | mk x y z=>exact (aa (i:=4) rfl rfl).tv
 ·induction h with
  | mk x y z=>
  refine az 4 bl ?_ rfl rfl
  refine aN (FwJ [.im g.D,.im (.lst (au nl)),.im (.lst (ao F))] (FiM S 0 g.names.length) (qL g.rules g.tc nl F) G k) (ax (aa (l:=.im) (i:=0) rfl rfl) cq rfl) .lst (.mk (.start hi) (.mk x y z)) nofun (fun u0=>rfl) (fun i d ρ k' hd h=>?_) fun ρ k' h=>?_
  ·obtain ⟨r,hr,rfl⟩:=bY hd
   have hrm:=List.mem_of_getElem? hr
   have hl:=hg.l r hrm
   induction h with
   | @mk Gs gr ρ hp hR=>
   induction hR with
   | mk x y z=>
   have hI:=hp.inv
   have l62:=cP (Nat.le_trans (Nat.le_of_lt hl) n64)
   have hb0:=bR (aw (d:=0) (hI.len.symm▸hl:r.l < Gs.length))
   refine ⟨_,.one (i:=5) rfl .im,az 6 ((ay (aZ (i:=3) rfl rfl) (ax (aa (i:=5) rfl rfl) bT rfl) (.lst l62 hb0) rfl).fl rfl) ?_ rfl rfl⟩
   have hrl:=hg.len r hrm
   refine cO (FwK [.im g.D,.im (.lst (au nl)),.im (.lst (ao F))] (InR (FiM S 0 g.names.length) (qL g.rules g.tc nl F) G Gs g.tc nl F r.l i) r i k) (td (ax (aa (l:=.im) (i:=5) rfl rfl) cg rfl) (by rw [ai];exact Nat.le_trans hrl (Nat.le_of_ble_eq_true rfl)) hq rfl rfl) (.mk (pre:=r.r) (b:=[]) z (List.append_nil _).symm rfl ⟨hp,fun e=>(hp.cl e).1,fun u0=>.nil,fun t=>.rfl,hI.lt r.l⟩) nofun (fun u0=>rfl) (fun j d ρ k' hd h=>?_) fun ρ k' h=>?_
   ·induction h with
    | @mk pre b G1 gr m y e hb hin=>
    rw [← List.map_reverse] at hd
    apply aT hd;intro x hx
    have hx:=hb▸hx
    obtain ⟨pre',rfl,e'⟩:=vb e hx
    have hxm:x∈r.r:=e'▸List.mem_append_right _ List.mem_cons_self
    have hxN:=hg.r r hrm x hxm
    have x62:=cP (Nat.le_trans (Nat.le_of_lt hxN) n64)
    have hF1:=hFt x
    have hJ:(x::b).length=j+1:=congrArg Nat.succ hb
    have hxG:x < G1.length:=hin.ps.inv.len.symm▸hxN
    have atF:(ao F)[x]? = some (.int (F.getD x 0:Nat)):=bR (aw (d:=0) (hFl.symm▸hxN))
    have atG:=bR (aw (d:=0) hxG)
    refine ⟨_,.one (i:=7) rfl .im,?_⟩
    refine dW (lk p (aa (i:=0) rfl rfl) (aa (i:=7) rfl rfl) (Nat.le_add_left ..) rfl rfl rfl).tv (fun ht=>?_) (fun ht=>?_)
    ·exact az 6 (ay (aa (i:=2) rfl rfl) (aa (i:=7) rfl rfl) (.lst x62 atF) rfl) (pB (.mk (.im (.int x)) e' hJ (hin.term (of_decide_eq_true ht) (fun q=>Nat.not_lt_of_le (((hn x hxN).mp q).nt hg.lt) (of_decide_eq_true ht)) hF1))) rfl rfl
    ·have hxt:g.tc≤x:=Nat.le_of_not_lt (of_decide_eq_false ht)
     refine c6 (FwM [.im g.D,.im (.lst (au nl)),.im (.lst (ao F))] (FwP (FiM S 0 g.names.length) (qL g.rules g.tc nl F) G i gr m x) (.im (r.D i)) m x k) (aC (aV (ay (aZ (i:=3) rfl rfl) (aa (i:=7) rfl rfl) (.lst x62 atG) rfl) (aa (i:=6) rfl rfl) (.bor (Int.natCast_nonneg _) (Int.natCast_nonneg _))) (ay (aZ (i:=3) rfl rfl) (aa (i:=7) rfl rfl) (.lst x62 atG) rfl) (.ne .int) rfl) (fun h1=>?_) (fun h1=>?_) fun ρ k' h=>?_
     ·have hne:G1.getD x 0 ||| m≠G1.getD x 0:=fun e=>by
       rw [Bool.not_eq_true',beq_eq_false_iff_ne] at h1;exact h1 (congrArg Int.ofNat e)
      have hI1:=hin.ps.inv
      have hI2:=hI1.set hxN (Nat.or_lt_two_pow (hI1.lt x) hin.lt) (fun t ht=>by
       rw [Nat.testBit_or,Bool.or_eq_true] at ht
       refine ht.elim (hI1.sound x t hxN) fun ht=>hS▸.fold ⟨r,hrm,pre',b,e',hxt,((hin.mb t).mp ht).mono (fun y hy=>(hn y (hg.r r hrm y ?_)).mp) (fun y hy=>(hF y t (hg.r r hrm y ?_)).mp) fun q=>hS▸hI.sound r.l t hl q⟩ <;>
       exact e'▸List.mem_append_right _ (List.mem_cons_of_mem _ hy)) fun t ht=>by rw [Nat.testBit_or,ht];rfl
      have fin:FwM [.im g.D,.im (.lst (au nl)),.im (.lst (ao F))] (FwP (FiM S 0 g.names.length) (qL g.rules g.tc nl F) G i gr m x) (.im (r.D i)) m x k _ k:=.mk (G:=G1.set x (G1.getD x 0 ||| m)) (gr:=true) ⟨hin.ps.grow hI2 (j9 hxG (mI hne)),(fun h=>tf h)⟩
      rw [← m8] at fin
      exact dK 3 rfl (aV (ay (aZ (i:=3) rfl rfl) (aa (i:=7) rfl rfl) (.lst x62 atG) rfl) (aa (i:=6) rfl rfl) (.bor (Int.natCast_nonneg _) (Int.natCast_nonneg _))) (aa (i:=7) rfl rfl) (by rw [ai];exact hxG) (by rw [ai,hI1.len];exact Nat.le_of_lt (cx n64)) (az 4 bl (aj fin) rfl rfl) rfl rfl rfl
     ·have he:G1.getD x 0 ||| m=G1.getD x 0:=fF ((Bool.not_eq_false' ..).mp h1)
      refine aj (.mk ⟨hin.ps,fun e=>⟨e,fun t ht=>?_⟩⟩)
      refine (hin.ps.cl e).1▸?_
      show (G1.getD x 0).testBit t=true
      rw [← he,Nat.testBit_or,ht,Bool.or_true]
     ·induction h with
      | @mk G2 gr2 h=>
      refine az 6 (d:=.int ((if isB nl x then m ||| F.getD x 0 else F.getD x 0:Nat):Int)) (iG (t:=nl.getD x false) (ay (aa (i:=1) rfl rfl) (aa (i:=7) rfl rfl) (.lst x62 (cG (hnl.symm▸hxN))) rfl).tv (fun e=>?_) fun e=>?_) (aj (.mk (.im (.int x)) e' hJ (hin.name hF1 h.1 h.2))) rfl rfl
      ·rw [if_pos e];exact aV (aa (i:=6) rfl rfl) (ay (aa (i:=2) rfl rfl) (aa (i:=7) rfl rfl) (.lst x62 atF) rfl) (.bor (Int.natCast_nonneg _) (Int.natCast_nonneg _))
      ·rw [if_neg (Bool.eq_false_iff.mp e)];exact ay (aa (i:=2) rfl rfl) (aa (i:=7) rfl rfl) (.lst x62 atF) rfl
   ·rw [List.length_reverse,ai] at h
    induction h with
    | @mk pre b G1 gr m y e hb hin=>
    have hp0:pre=[]:=List.length_eq_zero_iff.mp (by have:=congrArg List.length e;rw [List.length_append] at this;lia)
    subst hp0
    cases gr with
    | true=>exact aj (.mk ⟨hin.ps.inv,hin.ps.le,hin.ps.up,(fun h=>tf h)⟩ (.mk _ _ _))
    | false=>exact aj (.mk (hin.ps.same fun r' hr'=>by
      obtain rfl:=geq hr hr'
      rw [(hin.ps.cl rfl).1,e];exact hin.cl rfl) (.mk _ _ _))
  ·rw [bC] at h
   induction h with
   | @mk G1 gr ρ hp hR=>exact aj (.mk hp hR)
 ·induction h with
  | mk x y z=>
  refine cb 3 rfl rfl (a9 (aa (i:=3) rfl rfl) (q G hi.len hi.lt fun s t hs=>⟨hi.sound s t hs,fun hf=>?_⟩))
  subst hS
  refine hf (fun s t=>s < g.names.length→bit G t s) (fun s t h hs=>?_) hs
  obtain ⟨r,hr,a,b,e,hst,hb⟩:=h
  obtain ⟨j,hj⟩:=List.mem_iff_getElem?.mp hr
  have hb':∀ y∈b,y < g.names.length:=fun y hy=>hg.r r hr y (e▸List.mem_append_right _ (List.mem_cons_of_mem _ hy))
  exact hc j (List.getElem?_eq_some_iff.mp hj).1 r hj a s b e hst t (hb.mono (fun y hy=>(hn y (hb' y hy)).mpr) (fun y hy=>(hF y t (hb' y hy)).mpr) fun q=>q (hg.l r hr))
end
end Mine
namespace Mine
open PySem PySem.Calls PyProof.Rows PySem.SeqAt PySem.W
noncomputable def LgS (rs:List R) (tc:Nat) (P:Nat→Word→Prop) (s:Nat) (w:Word):Prop:=(s < tc∧s≠1∧w=[s])∨∃ r∈rs,r.l=s∧c7 (r.r.map P) w
noncomputable def Lg (rs:List R) (tc:Nat) (s:Nat) (w:Word):Prop:=∀ P:Nat→Word→Prop,(∀ s w,LgS rs tc P s w→P s w)→P s w
theorem oI {T T' S S':Word→Prop} {w:Word} (h1:∀ w,T w→T' w) (h2:∀ w,S w→S' w) (h:ec T S w):ec T' S' w:=⟨h.1,h.2.imp fun u0=>.imp fun u0 q=>⟨h1 _ q.1,h2 _ q.2.1,q.2.2⟩⟩
theorem jR {P P':Nat→Word→Prop} {r:List Nat} (h:∀ x∈r,∀ w,P x w→P' x w) {w:Word} (hw:c7 (r.map P) w):c7 (r.map P') w:=by
 have:∀ (r:List Nat) (T T':Word→Prop),(∀ x∈r,∀ w,P x w→P' x w)→(∀ w,T w→T' w)→∀ w,(r.map P).foldl ec T w→(r.map P').foldl ec T' w:=fun r=>by
  induction r with
  | nil=>exact fun u0 u0 u0 hT=>hT
  | cons x r ih=>exact fun T T' h hT=>ih _ _ (fun y hy=>h y (List.mem_cons_of_mem _ hy)) fun w=>oI hT (h x List.mem_cons_self)
 exact this r _ _ h (fun u0=>id) w hw
theorem Lg.fold {rs:List R} {tc s:Nat} {w:Word} (h:LgS rs tc (Lg rs tc) s w):Lg rs tc s w:=fun P hP=>hP s w (h.imp_right fun zz0=>by obtain ⟨r,hr,e,q⟩:=zz0;exact ⟨r,hr,e,jR (fun u0 u0 u0 q=>q P hP) q⟩)
noncomputable def Wh (wss:List AL) (s:Nat) (w:Word):Prop:=(aY (wss.getD s []) (tk w)).isSome=true
structure AwM (L:Nat→Word→Prop) (tc N:Nat) (wss:List AL):Prop where
 len:wss.length=N
 w:∀ s,dc (wss.getD s []) (Wh wss s)
 sound:∀ s w,Wh wss s w→L s w∧cu w
 tm:∀ s,s < tc→s≠1→Wh wss s [s]
noncomputable def szA (wss:List AL):Nat:=dT (wss.map List.length)
section
variable {L:Nat→Word→Prop} {tc N s i:Nat} {wss:List AL} {w v:Word} {d:D}
theorem AwM.cap (h:AwM L tc N wss):szA wss≤N * 273:=by
 have:∀ {wss:List AL},(∀ s,(wss.getD s []).length≤273)→szA wss≤wss.length * 273:=fun {wss}=>by
  induction wss with
  | nil=>exact fun u0=>Nat.zero_le _
  | cons a wss ih=>
   intro h
   have h1:a.length≤273:=h 0
   have h2:=ih fun x=>h (x+1)
   unfold szA at h2 ⊢
   rw [List.map_cons,cS,List.length_cons,Nat.succ_mul];lia
 exact h.len▸this fun s=>(h.w s).len fun w hw=>(h.sound s w hw).2
theorem AwM.add (h:AwM L tc N wss) (hs:s < N) (hL:L s w) (hg:cu w) (hn:¬ Wh wss s w):AwM L tc N (wss.set s (cw (wss.getD s []) (tk w) d))∧szA wss < szA (wss.set s (cw (wss.getD s []) (tk w) d)):=by
 have hW:∀ x v,Wh (wss.set s (cw (wss.getD s []) (tk w) d)) x v↔Wh wss x v∨(x=s∧v=w):=fun x v=>by
  unfold Wh
  rw [bt,h.len]
  by_cases e:x=s
  ·rw [if_pos ⟨e,hs⟩,bz,jl,← bz,e]
   exact ⟨fun q=>q.elim (fun q=>.inr ⟨rfl,eQ q⟩) .inl,fun q=>q.elim .inr fun q=>.inl (congrArg tk q.2)⟩
  ·rw [if_neg fun q=>e q.1];exact ⟨.inl,fun q=>q.elim id fun q=>absurd q.1 e⟩
 refine ⟨⟨(List.length_set ..).trans h.len,fun x=>?_,fun x v hv=>?_,fun x h1 h2=>(hW x _).mpr (.inl (h.tm x h1 h2))⟩,?_⟩
 ·by_cases e:x=s
  ·subst e
   refine dz.congr (S:=fun v=>Wh wss x v∨v=w) ?_ fun v=>((hW x v).trans (or_congr_right ⟨And.right,fun q=>⟨rfl,q⟩⟩)).symm
   rw [bt,if_pos ⟨rfl,h.len▸hs⟩]
   exact (h.w x).add
  ·refine dz.congr (S:=Wh wss x) ?_ fun v=>((hW x v).trans ⟨fun q=>q.elim id fun q=>absurd q.1 e,.inl⟩).symm
   rw [bt,if_neg fun q=>e q.1];exact h.w x
 ·exact ((hW x v).mp hv).elim (h.sound x v) fun q=>q.1▸q.2▸⟨hL,hg⟩
 ·have hk:(cw (wss.getD s []) (tk w) d).length=(wss.getD s []).length+1:=by
   have:=congrArg List.length (fu (ps:=wss.getD s []) (k:=tk w) (d:=d))
   rw [List.length_map,if_neg fun q=>hn (bz.mpr q),List.length_append,List.length_map] at this
   exact this
  unfold szA
  rw [List.map_set,hk]
  have:=jZ (F:=wss.map List.length) (x:=s) (y:=(wss.getD s []).length+1) (by rw [List.length_map,h.len];exact hs)
  have e:(wss.map List.length).getD s 0=(wss.getD s []).length:=by rw [List.getD_eq_getElem?_getD,List.getD_eq_getElem?_getD,List.getElem?_map];cases wss[s]? <;> rfl
  rw [e] at this;lia
end
noncomputable def qr (rs:List R) (wss:List AL) (j:Nat):Prop:=∀ r,rs[j]? = some r→∀ w,c7 (r.r.map (Wh wss)) w→Wh wss r.l w
theorem AwM.done {rs:List R} {tc N s:Nat} {wss:List AL} (h:AwM (Lg rs tc) tc N wss) (hc:∀ j,j < rs.length→qr rs wss j):dc (wss.getD s []) (Lg rs tc s):=(h.w s).congr fun w=>⟨fun q=>(h.sound s w q).1,fun q=>q (Wh wss) fun s w q=>by
 rcases q with ⟨h1,h2,rfl⟩ | ⟨r,hr,rfl,q⟩
 ·exact h.tm s h1 h2
 ·obtain ⟨j,hj⟩:=List.mem_iff_getElem?.mp hr
  exact hc j (List.getElem?_eq_some_iff.mp hj).1 r hj w q⟩
noncomputable abbrev wsO (wss:List AL):O:=.node .lst (wss.map dO)
theorem lR {wss:List AL}:(wsO wss).toD=.lst (wss.map dD):=by
 have:∀ wss:List AL,O.xv (wss.map dO)=wss.map dD:=fun wss=>by
  induction wss with
  | nil=>rfl
  | cons u us ih=>exact congr (congrArg _ aH) ih
 exact congrArg _ (this wss)
section
variable {W:Wd} {n k i j:Nat} {Q:D→Nat→Prop} {X:Nat→Prop} {g:Gr} {c:Cx} {ρ:List Sl} {l:Lv}
theorem vn {a b f:Expr} {pos:Pos} {t1 t2 t3:Bool} (h1:V c ρ k .any a (.bool t1)) (h2:V c ρ k .any b (.bool t2)) (h3:V c ρ k .any f (.bool t3)):V c ρ k l (.BoolOp .And [a,b,f] pos) (.bool (t1 && (t2 && t3))):=
 ⟨fun Q q=>vL (h1.go _ ⟨t1,rfl,fun e=>h2.go _ ⟨t2,rfl,fun e2=>h3.go _ ⟨t3,rfl,by rw [e,e2] at q;exact q⟩,fun e2=>by rw [e,e2] at q;exact q⟩,fun e=>by rw [e] at q;exact q⟩)⟩
theorem dp {z:Str} {pos:Pos} {d d':D} (hs:aO c z i=true) (hz:ρ[i]? = some (.im d')) (h:d'=d):V c ρ k l (.Name z pos) d:=h▸aa hs hz
theorem vN {scope:Scope} {pos:Pos} {t iter elt:Expr} {ds:List D} (fs:List D) (n:Nat) (sl:List (Str × Nat)) (hsrc:Src c ρ k l iter ds) (hlen:ds.length≤2 ^ 20) (hf:fs.length=ds.length)
  (hJ:∀ F s cl C dd (i:Nat) d f zs,ds[i]? = some d→fs[i]? = some f→CmV (c.inn .any F s scope cl C dd sl ρ.length) (Lv.any.inn l) t d ((er .any ρ n).set ρ.length (.own (.node .lst zs))) k .im elt f)
  (hc:cA c scope sl ρ.length=true) (hfs:∀ x,foldedSetIterable iter c.env x=pure x):V c ρ k .any (.ListComp elt [⟨t,iter,[],0⟩] scope pos) (.lst fs):=
 ⟨fun Q q=>(EC.evA (Q:=Q) (oq fs n sl hsrc hlen hf hJ (Q:=fun o k'=>Q o.toD k') (aH▸q) hc hfs)).go⟩
inductive AwA (a:List Sl) (tc k i:Nat):List Sl→Nat→Prop
 | mk (x y z w v:Sl):AwA a tc k i (a++[.own (wsO ((List.range i).map fun s=>if s < tc∧s≠1 then [(tk [s],.bool true)] else [])),x,y,z,w,v]) k
inductive AwR (a:List Sl) (wss:List AL) (gr:Bool):List Sl→Prop
 | mk (x y z w:Sl):AwR a wss gr (a++[.own (wsO wss),x,y,.im (.bool gr),z,w])
inductive AwJ (a:List Sl) (Inv:List AL→Prop) (Cl:List AL→Nat→Prop) (W0:List AL) (k i:Nat):List Sl→Nat→Prop
 | mk {wss gr ρ}:fN Inv szA Cl W0 i wss gr→AwR a wss gr ρ→AwJ a Inv Cl W0 k i ρ k
structure InA (Inv:List AL→Prop) (Cl:List AL→Nat→Prop) (W0 Ws:List AL) (l i:Nat) (T:Word→Prop) (wss:List AL) (gr:Bool):Prop where
 ps:fN Inv szA Cl W0 i wss gr
 s:gr=false→Ws=W0
 t:gr=false→∀ w,T w→Wh W0 l w
inductive AwK (a:List Sl) (I:(Word→Prop)→List AL→Bool→Prop) (S:Word→Prop) (z:Sl) (k:Nat) (ds:List D) (j:Nat):List Sl→Nat→Prop
 | mk {f wss gr} (x y w:Sl):dc f S→ds=(f.map (·.1)).map Key.toD→I (cY (f.map (·.1)) j) wss gr→AwK a I S z k ds j (a++[.own (wsO wss),x,y,.im (.bool gr),z,w]) k
inductive AwL (a:List Sl) (I:List AL→Bool→Prop) (z w:Sl) (k:Nat):List Sl→Nat→Prop
 | mk {wss gr} (x y:Sl):I wss gr→AwL a I z w k (a++[.own (wsO wss),x,y,.im (.bool gr),z,w]) k
theorem tU {wss:List AL} {s:Nat} {a:AL}:wsO (wss.set s a)=.node .lst ((wss.map dO).set s (dO a)):=congrArg (O.node .lst) List.map_set
theorem sL {wss:List AL} {a:AL}:wsO (wss++[a])=.node .lst (wss.map dO++[dO a]):=congrArg (O.node .lst) List.map_append
theorem oi (p:Prg W) (hg:g.Ok) (q:∀ wss:List AL,wss.length=g.names.length→(∀ s,dc (wss.getD s []) (Lg g.rules g.tc s))→(∀ s w,Lg g.rules g.tc s w→cu w)→Q (.lst (wss.map dD)) k):a7 W (n+2) .allWords [.im g.D,.im (.int 2)] k Q X:=p.run .allWords rfl rfl 6 fun S0 h0 pen A env=>by
 have n64:=g64 hg
 obtain ⟨ve,he,re⟩:=p.gR
 refine aQ 2 (bS ?_) (.inl rfl) rfl rfl
 refine cO (AwA [.im g.D,.im (.int 2)] g.tc k) (cC (l:=.im) (fw p hg (aa (i:=0) rfl rfl) (Nat.le_add_left ..) rfl rfl rfl) (Nat.le_of_lt (cx n64)) rfl rfl) (.mk ..) nofun (fun u0=>rfl) (fun i d ρ k' hd h=>?_) fun ρ k' h=>?_
 ·apply hU hd;intro hi
  induction h with
  | mk x y z w v=>
  refine ⟨_,.one (i:=3) rfl .im,az 4 (vn (lk p (aa (i:=0) rfl rfl) (aa (i:=3) rfl rfl) (Nat.le_add_left ..) rfl rfl rfl) (rF (aa (i:=3) rfl rfl) (mh he re rfl rfl) (.ne .int) rfl) (rF (aa (i:=1) rfl rfl) ar .gt rfl)) ?_ rfl rfl⟩
  refine tu 2 rfl (by rw [List.length_map,List.length_map,List.length_range];exact cx (Nat.le_trans (Nat.le_of_lt hi) n64)) (xi (aa (i:=4) rfl rfl).tv (fun e=>mc (kk:=tk [i]) (qJ (aa (i:=3) rfl rfl) rfl) bl rfl ?_) fun e=>cn ?_) rfl rfl rfl rfl
  all_goals
   refine aj ?_
   have fin:∀ b,AwA [.im g.D,.im (.int 2)] g.tc k (i+1) _ k:=fun b=>.mk (.im (.int i)) (.im (.bool b)) z w v
   rw [List.range_succ,List.map_append,List.map_singleton,sL] at fin
  ·rw [if_pos (by
    rw [Bool.and_eq_true,Bool.and_eq_true,decide_eq_true_eq,Bool.not_eq_true',beq_eq_false_iff_ne] at e
    exact ⟨e.1,fun h=>e.2.1 (congrArg Int.ofNat h)⟩)] at fin
   exact fin _
  ·rw [if_neg (fun h=>by
    rw [decide_eq_true h.1,show ((i:Int) == 1)=false from beq_eq_false_iff_ne.mpr fun q=>h.2 (Int.ofNat.inj q)] at e
    cases e)] at fin
   exact fin _
 ·rw [bq] at h
  induction h with
  | mk x y z w v=>
  have f0:AwM (Lg g.rules g.tc) g.tc g.names.length ((List.range g.names.length).map fun s=>if s < g.tc∧s≠1 then [(tk [s],.bool true)] else []):=by
   have at_:∀ s,((List.range g.names.length).map fun s=>if s < g.tc∧s≠1 then [(tk [s],D.bool true)] else []).getD s []=if s < g.tc∧s≠1 then [(tk [s],.bool true)] else []:=fun s=>by
    rw [List.getD_eq_getElem?_getD,List.getElem?_map]
    by_cases hs:s < g.names.length
    ·rw [List.getElem?_range hs];rfl
    ·rw [List.getElem?_eq_none (List.length_range▸Nat.le_of_not_lt hs),if_neg fun q=>hs (Nat.lt_of_lt_of_le q.1 hg.tc)];rfl
   have wh:∀ s w,Wh ((List.range g.names.length).map fun s=>if s < g.tc∧s≠1 then [(tk [s],.bool true)] else []) s w↔(s < g.tc∧s≠1)∧w=[s]:=fun s w=>by
    unfold Wh
    refine (at_ ..)▸?_
    split
    ·rw [bz];exact List.mem_singleton.trans ⟨fun e=>⟨‹_›,eQ e⟩,fun e=>congrArg tk e.2⟩
    ·exact ⟨(fun h=>ff h),fun e=>absurd e.1 ‹_›⟩
   refine ⟨(List.length_map ..).trans List.length_range,fun s=>.of ?_ fun k=>?_,fun s w h=>?_,fun s h1 h2=>(wh s _).mpr ⟨⟨h1,h2⟩,rfl⟩⟩
   ·refine (at_ ..)▸?_;split
    ·exact List.pairwise_singleton ..
    ·exact .nil
   ·refine (at_ ..)▸?_
    by_cases h:s < g.tc∧s≠1
    ·rw [if_pos h];exact List.mem_singleton.trans ⟨fun e=>⟨[s],(wh s _).mpr ⟨h,rfl⟩,e⟩,fun zz1=>by obtain ⟨w,hw,e⟩:=zz1;exact e.trans (congrArg tk ((wh s w).mp hw).2)⟩
    ·rw [if_neg h];exact ⟨(fun h=>aE h),fun zz2=>by obtain ⟨w,hw,_⟩:=zz2;exact absurd ((wh s w).mp hw).1 h⟩
   ·obtain ⟨h1,rfl⟩:=(wh s w).mp h
    exact ⟨.fold (.inl ⟨h1.1,h1.2,rfl⟩),Nat.le_succ _,fun x hx=>by rw [List.mem_singleton.mp hx];exact Nat.lt_of_lt_of_le h1.1 (Nat.le_trans hg.tc hg.n)⟩
  refine az 5 bl ?_ rfl rfl
  refine ji (AwM (Lg g.rules g.tc) g.tc g.names.length) szA (qr g.rules) g.rules.length _ (AwR [.im g.D,.im (.int 2)]) f0 (.mk x y w v) (fun F h=>h.cap) (fun F gr ρ h=>?_) (fun F ρ hi h=>?_) fun F ρ hi hc h=>?_
  ·induction h with
   | mk x y z w=>exact (aa (i:=5) rfl rfl).tv
  ·induction h with
   | mk x y z w=>
   refine az 5 bl ?_ rfl rfl
   refine aN (AwJ [.im g.D,.im (.int 2)] (AwM (Lg g.rules g.tc) g.tc g.names.length) (qr g.rules) F k) (ax (aa (l:=.im) (i:=0) rfl rfl) cq rfl) .lst (.mk (.start hi) (.mk x y z w)) nofun (fun u0=>rfl) (fun i d ρ k' hd h=>?_) fun ρ k' h=>?_
   ·obtain ⟨r,hr,rfl⟩:=bY hd
    have hrm:=List.mem_of_getElem? hr
    have hl:=hg.l r hrm
    have l62:=cP (Nat.le_trans (Nat.le_of_lt hl) n64)
    induction h with
    | @mk Ws gr0 ρ hp hR=>
    induction hR with
    | mk x y z w=>
    have hI:=hp.inv
    have hG:=fun x w h=>(hI.sound x w h).2
    refine ⟨_,.one (i:=6) rfl .im,lO (AwK [.im g.D,.im (.int 2)] (InA (AwM (Lg g.rules g.tc) g.tc g.names.length) (qr g.rules) F Ws r.l i) (c7 (r.r.map (Wh Ws))) (.im (r.D i)) k) (jD (f:=.rowsJoined) (.vw (vN (l:=.im) (r.r.map fun x=>dD (Ws.getD x [])) 1 [("words",2),("symbol",9)] ((ax (aa (i:=6) rfl rfl) cg rfl).src .tup) (ai▸Nat.le_trans (hg.len r hrm) (Nat.le_of_ble_eq_true rfl)) (by rw [List.length_map,ai]) (fun F' s cl C dd j d f zs hd hf=>?_) rfl (fun u0=>rfl)) (.im (aa (i:=1) rfl rfl) .nil)) (lS p r.r (fun x=>Ws.getD x []) (Wh Ws) (fun x u0=>hI.w x) hG fun f hf=>⟨_,.dct,.mk x y w hf rfl ⟨hp,fun e=>(hp.cl e).1,fun u0 u0 h=>aE h⟩⟩) rfl rfl rfl rfl) (fun u0=>rfl) (fun ds j d ρ k' hd h=>?_) fun ds ρ k' h=>?_⟩
    ·apply iY hd hf;intro x hx
     have hxN:=hg.r r hrm x (List.mem_of_getElem? hx)
     exact ⟨_,.one (i:=9) rfl rfl .im,ay (dp (i:=2) rfl rfl lR) (aa (i:=9) rfl rfl) (.lst (cP (Nat.le_trans (Nat.le_of_lt hxN) n64)) (by rw [List.getElem?_map,aw (d:=[]) (hI.len.symm▸hxN)];rfl)) rfl⟩
    ·induction h with
     | @mk f wss gr x y w hf e hin=>
     subst e
     obtain ⟨u,rfl,hu,hk⟩:=hf.at hd
     have hI1:=hin.ps.inv
     have hlw:r.l < wss.length:=hI1.len.symm▸hl
     have wl:=hI1.w r.l
     refine ⟨_,.one (i:=7) rfl .im,c6 (AwL [.im g.D,.im (.int 2)] (InA (AwM (Lg g.rules g.tc) g.tc g.names.length) (qr g.rules) F Ws r.l i (cY (f.map (·.1)) (j+1))) (.im (r.D i)) (.im (.tup (ao u))) k) (aC (dp (i:=7) rfl rfl bZ.symm) (ay (oc (i:=2) rfl rfl lR) (ax (aa (i:=6) rfl rfl) bT rfl) (.lst l62 (by rw [List.getElem?_map,aw (d:=[]) hlw];rfl)) rfl) (.xI wl.kd) rfl) (fun h1=>?_) (fun h1=>?_) fun ρ k' h=>?_⟩
     ·have hn:¬ Wh wss r.l u:=fun q=>by rw [show (aY (wss.getD r.l []) (tk u)).isSome=true from q] at h1;cases h1
      obtain ⟨a1,a2⟩:=hI1.add (d:=.bool true) hl (.fold (.inr ⟨r,hrm,rfl,jR (fun x u0 w h=>(hI.sound x w h).1) hu⟩)) (jb (fun S' hS w hw=>by obtain ⟨x,_,rfl⟩:=List.mem_map.mp hS;exact hG x w hw) u hu) hn
      have fin:AwL [.im g.D,.im (.int 2)] (InA (AwM (Lg g.rules g.tc) g.tc g.names.length) (qr g.rules) F Ws r.l i (cY (f.map (·.1)) (j+1))) (.im (r.D i)) (.im (.tup (ao u))) k _ k:=.mk x y ⟨hin.ps.grow a1 a2,(fun h=>tf h),(fun h=>tf h)⟩
      rw [tU] at fin
      exact nX (pl:=fun y=>.node .lst ((wss.map dO).set r.l y)) bl (fun Q q=>nQ rfl (bI (i:=2) rfl rfl ⟨_,rfl,(ax (aa (i:=6) rfl rfl) bT rfl).go _ ⟨r.l,_,rfl,l62,by rw [List.getElem?_map,aw (d:=[]) hlw];rfl,q⟩⟩)) (dp (i:=7) rfl rfl bZ.symm) wl.kd (Nat.le_trans (wl.len fun w hw=>(hI1.sound r.l w hw).2) (Nat.le_of_ble_eq_true rfl)) (az 5 bl (aj fin) rfl rfl) (ltL rfl) rfl rfl
     ·rw [Bool.not_eq_false'] at h1
      exact aj (.mk x y ⟨hin.ps,hin.s,fun e w hw=>((cQ hk).mp hw).elim (hin.t e w) fun q=>q▸(hin.ps.cl e).1▸h1⟩)
     ·induction h with
      | mk x y h=>exact aj (.mk x y _ hf rfl h)
    ·induction h with
     | @mk f wss gr x y w hf e hin=>
     subst e
     cases gr with
     | true=>exact aj (.mk ⟨hin.ps.inv,hin.ps.le,hin.ps.up,(fun h=>tf h)⟩ (.mk x y _ _))
     | false=>exact aj (.mk (hin.ps.same fun r' hr' v hv=>by
       obtain rfl:=geq hr hr'
       rw [(hin.ps.cl rfl).1] at hv ⊢
       exact hin.t rfl v ((eV hf).mpr (hin.s rfl▸hv))) (.mk x y _ _))
   ·rw [bC] at h
    induction h with
    | @mk F1 gr ρ hp hR=>exact aj (.mk hp hR)
  ·induction h with
   | mk x y z w=>
   refine nW 2 rfl rfl ?_
   exact lR▸a9 (aa (i:=2) rfl rfl) (q F hi.len (fun s=>hi.done hc) fun s w hw=>(hi.sound s w ((hi.done hc).congr (fun u0=>.rfl) |>.has.mpr hw)).2)
theorem w9 {a b:Expr} {pos:Pos} {Q:D→Nat→Prop} (h:E1 c ρ k l a fun x k1=>∃ y r,V c ρ k1 .any b y∧iQ c x y r∧Q r k1) (hs:bQ b=true):E1 c ρ k l (.Subscript a b pos) Q:=⟨oG hs (h.go.mono fun x k1 w=>by
 obtain ⟨y,r,v,hi,q⟩:=w
 exact v.go _ ⟨r,hi,q⟩)⟩
theorem mu {e:Expr} {pos pos':Pos} {Q:D→Nat→Prop} (h:E1 c ρ k l e fun d k'=>pP c (fun v=>PySem.call (.builtin "sorted") [v]) d fun r=>Q r k') (hx:cF c "sorted" = true) (hs:ah e=true):E1 c ρ k l (.Call (.Name "sorted" pos') [e] [] pos) Q:=⟨qz hx hs h.go⟩
theorem mQ (p:Prg W) (hg:g.Ok) (hst:g.start < g.names.length) (W7:List Word) (h7:W7.length < 64) (hw:∀ w,Lg g.rules g.tc g.start w→w∈W7) (q:∀ ds:List D,(∀ d,d∈ds↔∃ w,Lg g.rules g.tc g.start w∧d=.tup (ao w))→Q (.lst ds) k):a7 W (n+3) .wordsUpTo [.im g.D,.im (.int 2)] k Q X:=p.run .wordsUpTo rfl rfl 0 fun S0 h0 pen A env=>by
 refine d7 (mu (w9 (aS (f:=.allWords) (.im (aa (i:=0) rfl rfl) (.im (aa (i:=1) rfl rfl) .nil)) (oi p hg fun wss hl hW u0=>?_) rfl rfl rfl rfl) rfl) rfl rfl)
 have ws:=hW g.start
 refine ⟨_,_,ax (aa (i:=0) rfl rfl) qR rfl,.lst (cP (Nat.le_trans (Nat.le_of_lt hst) (g64 hg))) (by rw [List.getElem?_map,aw (d:=[]) (hl.symm▸hst)];rfl),.yr (fun k hk=>?_) ?_ fun ds hp=>q ds fun d=>?_⟩
 ·obtain ⟨w,_,rfl⟩:=(ws.mem k).mp hk;rfl
 ·refine Nat.lt_of_le_of_lt ?_ h7
  have:=ws.nd.length_le_of_subset (l₂:=W7.map tk) fun k hk=>by
   obtain ⟨w,h,rfl⟩:=(ws.mem k).mp hk
   exact List.mem_map_of_mem (hw w h)
  rwa [List.length_map (as:=W7)] at this
 ·rw [hp.mem_iff,List.mem_map]
  exact ⟨fun zz3=>by
   obtain ⟨k,hk,e⟩:=zz3
   obtain ⟨w,h,rfl⟩:=(ws.mem k).mp hk
   exact ⟨w,h,e.symm.trans bZ⟩,fun zz4=>by obtain ⟨w,h,e⟩:=zz4;exact ⟨tk w,(ws.mem _).mpr ⟨w,h,rfl⟩,bZ.trans e.symm⟩⟩
end
end Mine
namespace Mine
open PySem PySem.Calls PyProof.Rows PySem.SeqAt PySem.W
noncomputable def ik (m:Nat):Key:=.int m
theorem oE {a b:Nat} (h:ik a=ik b):a=b:=Int.ofNat.inj (wI h)
noncomputable abbrev jd:=dz ik
theorem jd.nil:jd [] fun u0=>False:=⟨oE,fun u0 u0=>rfl,.nil,fun k=>⟨(fun h=>aE h),nofun⟩⟩
noncomputable def solid (nl:List Bool) (r:List Nat):List Nat:=r.filter fun x=>!nl.getD x false
noncomputable def jo (nl:List Bool) (tc:Nat) (r:List Nat) (m:Nat):Prop:=m∈r∧tc≤m∧(solid nl r).length=if isB nl m then 0 else 1
noncomputable def fG (rs:List R) (nl:List Bool) (tc s m:Nat):Prop:=∃ r∈rs,r.l=s∧jo nl tc r.r m
noncomputable def v7 (rs:List R) (nl:List Bool) (tc N:Nat):Prop:=∃ Q:Nat→Prop,(∃ s,Q s)∧∀ s,Q s→(tc≤s∧s < N)∧∃ m,fG rs nl tc s m∧Q m
structure UoM (Nd:Nat→Nat→Prop) (tc N:Nat) (o:List Nat):Prop where
 nd:o.Nodup
 rg:∀ s∈o,tc≤s∧s < N
 ord:∀ i s,o[i]? = some s→∀ m,Nd s m→m∈o.take i
section
variable {Nd:Nat→Nat→Prop} {tc N s:Nat} {o:List Nat}
theorem UoM.add (h:UoM Nd tc N o) (hs:s∉o) (hr:tc≤s∧s < N) (hn:∀ m,Nd s m→m∈o):UoM Nd tc N (o++[s]):=by
 refine ⟨List.nodup_append.mpr ⟨h.nd,List.pairwise_singleton ..,fun a ha b hb e=>hs (List.mem_singleton.mp hb▸e▸ha)⟩,fun x hx=>(List.mem_append.mp hx).elim (h.rg x) fun e=>List.mem_singleton.mp e▸hr,fun i x hx m hm=>?_⟩
 by_cases hi:i < o.length
 ·rw [List.getElem?_append_left hi] at hx
  exact (List.take_append_of_le_length (Nat.le_of_lt hi))▸h.ord i x hx m hm
 ·have hi':=(List.getElem?_eq_some_iff.mp hx).1
  rw [List.length_append] at hi'
  have e:i=o.length:=by have:i < o.length+1:=hi';lia
  rw [List.getElem?_append_right (Nat.le_of_not_lt hi),e,Nat.sub_self] at hx
  cases hx
  rw [e,List.take_append_of_le_length (Nat.le_refl _),List.take_length];exact hn m hm
theorem UoM.sub (h:UoM Nd tc N o):o ⊆ (List.range (N - tc)).map (tc + ·):=fun x hx=>List.mem_map.mpr ⟨x - tc,List.mem_range.mpr (by have:=h.rg x hx;lia),by have:=h.rg x hx;lia⟩
theorem UoM.len (h:UoM Nd tc N o):o.length≤N - tc:=by
 have:=h.nd.length_le_of_subset h.sub
 rwa [List.length_map,List.length_range] at this
theorem UoM.free (h:UoM Nd tc N o) (hl:o.length < N - tc):∃ s,(tc≤s∧s < N)∧s∉o:=Classical.byContradiction fun q=>by
 have nd:((List.range (N - tc)).map (tc + ·)).Nodup:=List.pairwise_map.mpr (List.nodup_range.imp fun h e=>h (Nat.add_left_cancel e))
 have:=nd.length_le_of_subset (l₂:=o) fun x hx=>by
  obtain ⟨i,hi,rfl⟩:=List.mem_map.mp hx
  exact Classical.byContradiction fun hn=>q ⟨tc+i,⟨Nat.le_add_right ..,by have:=List.mem_range.mp hi;lia⟩,hn⟩
 rw [List.length_map,List.length_range] at this
 exact Nat.lt_irrefl _ (Nat.lt_of_lt_of_le hl this)
theorem UoM.all (h:UoM Nd tc N o) (hl:¬ o.length < N - tc):s∈o↔tc≤s∧s < N:=⟨h.rg s,fun hs=>Classical.byContradiction fun hn=>by
 have:=(h.nd.length_le_of_subset h.sub)
 have h2:(s::o).length≤_:=(List.nodup_cons.mpr ⟨hn,h.nd⟩).length_le_of_subset (l₂:=(List.range (N - tc)).map (tc + ·)) (List.cons_subset.mpr ⟨List.mem_map.mpr ⟨s - tc,List.mem_range.mpr (by lia),by lia⟩,h.sub⟩)
 rw [List.length_map,List.length_range,List.length_cons] at h2
 lia⟩
end
noncomputable def ndK (tc n:Nat):List Key:=(List.range n).map fun i=>ik (tc+i)
noncomputable def ndO (tc n:Nat) (f:Nat→AL):O:=.node (.dct (ndK tc n)) ((List.range n).map fun i=>dO (f (tc+i)))
noncomputable def ndA (tc n:Nat) (f:Nat→AL):AL:=(List.range n).map fun i=>(ik (tc+i),dD (f (tc+i)))
theorem tL {tc n:Nat} {f:Nat→AL}:(ndO tc n f).toD=dD (ndA tc n f):=by
 have:∀ l:List Nat,O.xv (l.map fun i=>dO (f (tc+i)))=l.map fun i=>dD (f (tc+i)):=fun l=>by
  induction l with
  | nil=>rfl
  | cons u us ih=>exact congr (congrArg _ aH) ih
 show D.node _ (O.xv _)=D.node _ _
 rw [this,ndA,List.map_map,List.map_map];rfl
theorem kJ {tc n:Nat}:(ndK tc n).Nodup:=List.pairwise_map.mpr (List.nodup_range.imp fun h e=>h (Nat.add_left_cancel (oE e)))
theorem sS {tc n s:Nat} (h1:tc≤s) (h2:s < tc+n):(ndK tc n)[s - tc]? = some (ik s):=by
 unfold ndK
 rw [List.getElem?_map,List.getElem?_range (by lia)]
 show some (ik (tc+(s - tc)))=_
 rw [Nat.add_sub_cancel' h1]
theorem tF {tc n s:Nat} {f:Nat→AL} {a:AL} (h1:tc≤s) (h2:s < tc+n):((List.range n).map fun i=>dO (f (tc+i))).set (s - tc) (dO a)=(List.range n).map fun i=>dO (if tc+i=s then a else f (tc+i)):=by
 refine List.ext_getElem? fun i=>?_
 rw [List.getElem?_map]
 by_cases e:i=s - tc
 ·subst e
  rw [List.getElem?_set_self (by rw [List.length_map,List.length_range];lia),List.getElem?_range (by lia)]
  exact congrArg some (congrArg dO (if_pos (Nat.add_sub_cancel' h1)).symm)
 ·rw [List.getElem?_set_ne (Ne.symm e),List.getElem?_map]
  by_cases hi:i < n
  ·rw [List.getElem?_range hi];exact congrArg some (congrArg dO (if_neg (by lia)).symm)
  ·rw [List.getElem?_eq_none (by rw [List.length_range];exact Nat.le_of_not_lt hi)];rfl
theorem s9 {tc n:Nat} {f:Nat→AL}:ndO tc (n+1) f=.node (.dct (ndK tc n++[ik (tc+n)])) (((List.range n).map fun i=>dO (f (tc+i)))++[dO (f (tc+n))]):=by
 unfold ndO ndK
 rw [List.range_succ,List.map_append,List.map_append];rfl
theorem qK {tc n s:Nat}:bk (ndK tc n) (ik s)=true:=List.all_eq_true.mpr fun x hx=>by obtain ⟨_,_,rfl⟩:=List.mem_map.mp hx;rfl
theorem tK {tc n:Nat}:(ndK tc n).length=n:=(List.length_map ..).trans List.length_range
theorem nJ {c:Cx} {ρ:List Sl} {k:Nat} {Q:Post} {es:List Stmt} {z:Str} {p1 px pos:Pos} {b e:Expr} {ks:List Key} {xs:List O} {kk:Key} (i:Nat) (hz:ρ[i]? = some (.own (.node (.dct ks) xs))) (hb:∀ k,V c ρ k .any b kk.toD) (ok:bk ks kk=true) (hl:ks.length≤2 ^ 24) (hn:aD ks kk=none) (h:EO c ρ k e fun z k'=>TB c (ρ.set i (.own (.node (.dct (ks++[kk])) (xs++[z])))) k' es Q) (hs:aO c z i=true) (hacc:c.acc=none) (hc:bE e=true):TB c ρ k (.Assign [.Subscript (.Name z p1) b px] e pos::es) Q:=
 .seq (hZ hc hacc (List.getElem?_eq_some_iff.mp hz).1 (h.go.mono fun o k' q=>bI hs hz ⟨_,_,rfl,(hb k').go _ ⟨kk,rfl,ok,hl,fun j hj=>(by exact gno hn hj),by
  unfold fK fR;exact hn▸q⟩⟩))
section
variable {W:Wd} {n k i j:Nat} {Q:D→Nat→Prop} {X:Nat→Prop} {g:Gr} {c:Cx} {ρ:List Sl} {l:Lv}
inductive UoA (a:List Sl) (tc k i:Nat):List Sl→Nat→Prop
 | mk (x:Sl):UoA a tc k i (a++[.own (ndO tc i fun u0=>[]),x,.undef,.undef,.undef,.undef,.undef,.undef]) k
noncomputable def NdS (Nd:Nat→Nat→Prop) (tc N:Nat) (f:Nat→AL):Prop:=∀ s,jd (f s) (Nd s)∧∀ m,Nd s m→tc≤m∧m < N
inductive UoB (a:List Sl) (Nd:Nat→Nat→Prop) (tc N k:Nat):List Sl→Nat→Prop
 | mk {f} (x y z w:Sl):NdS Nd tc N f→UoB a Nd tc N k (a++[.own (ndO tc (N - tc) f),x,y,z,w,.undef,.undef,.undef]) k
inductive UoC (a:List Sl) (Nd:Nat→Nat→Prop) (tc N:Nat) (y:Sl) (z:List Nat) (k:Nat):List Sl→Nat→Prop
 | mk {f} (x w:Sl):NdS Nd tc N f→UoC a Nd tc N y z k (a++[.own (ndO tc (N - tc) f),x,y,.own (.lst (ao z)),w,.undef,.undef,.undef]) k
theorem nT {nl:List Bool} {r:List Nat}:((r.map fun x=>(D.int (x:Nat),!nl.getD x false)).filter (·.2)).map (·.1)=ao (solid nl r):=by
 unfold solid
 induction r with
 | nil=>rfl
 | cons x r ih=>
  refine List.map_cons▸?_
  cases h:nl.getD x false with
  | true=>rw [List.filter_cons_of_neg (by nofun),List.filter_cons_of_neg (by rw [h];nofun)];exact ih
  | false=>rw [List.filter_cons_of_pos rfl,List.filter_cons_of_pos (congrArg _ h)];exact congrArg _ ih
theorem NdS.congr {Nd Nd':Nat→Nat→Prop} {tc N:Nat} {f:Nat→AL} (h:NdS Nd tc N f) (e:∀ s m,Nd s m↔Nd' s m):NdS Nd' tc N f:=fun s=>⟨(h s).1.congr (e s),fun m q=>(h s).2 m ((e s m).mpr q)⟩
theorem NdS.add {Nd:Nat→Nat→Prop} {tc N s m:Nat} {f:Nat→AL} {d:D} (h:NdS Nd tc N f) (hm:tc≤m∧m < N):NdS (fun s' m'=>Nd s' m'∨s'=s∧m'=m) tc N fun s'=>if s'=s then cw (f s) (ik m) d else f s':=fun s'=>by
 by_cases e:s'=s
 ·subst e
  show jd (if s'=s' then cw (f s') (ik m) d else f s') _∧_
  rw [if_pos rfl]
  exact ⟨(h s').1.add.congr fun w=>or_congr_right ⟨fun q=>⟨rfl,q⟩,fun q=>q.2⟩,fun m' q=>q.elim ((h s').2 m') fun q=>q.2▸hm⟩
 ·show jd (if s'=s then cw (f s) (ik m) d else f s') _∧_
  rw [if_neg e]
  exact ⟨(h s').1.congr fun w=>⟨.inl,fun q=>q.resolve_right fun q=>e q.1⟩,fun m' q=>(h s').2 m' (q.resolve_right fun q=>e q.1)⟩
theorem NdS.len {Nd:Nat→Nat→Prop} {tc N:Nat} {f:Nat→AL} (h:NdS Nd tc N f) (s:Nat):(f s).length≤N:=List.length_range (n:=N)▸(h s).1.lenOf (l:=List.range N) fun m q=>List.mem_range.mpr ((h s).2 m q).2
noncomputable def NdJ (rs:List R) (nl:List Bool) (tc i:Nat) (r:R) (j s m:Nat):Prop:=fG (rs.take i) nl tc s m∨s=r.l∧jo nl tc r.r m∧m∈r.r.take j
theorem NdJ.zero {rs:List R} {nl:List Bool} {tc i s m:Nat} {r:R}:fG (rs.take i) nl tc s m↔NdJ rs nl tc i r 0 s m:=⟨.inl,fun q=>q.resolve_right fun q=>aE q.2.2⟩
theorem NdJ.done {rs:List R} {nl:List Bool} {tc i s m:Nat} {r:R} (hr:rs[i]? = some r):NdJ rs nl tc i r r.r.length s m↔fG (rs.take (i+1)) nl tc s m:=by
 have e:rs.take (i+1)=rs.take i++[r]:=by rw [List.take_add_one,hr];rfl
 unfold fG
 exact e▸⟨fun h=>h.elim (fun zz0=>by obtain ⟨r',h1,h2⟩:=zz0;exact ⟨r',List.mem_append_left _ h1,h2⟩) fun h=>⟨r,List.mem_append_right _ List.mem_cons_self,h.1.symm,h.2.1⟩,fun zz1=>by obtain ⟨r',h1,h2,h3⟩:=zz1;exact (List.mem_append.mp h1).elim (fun q=>.inl ⟨r',q,h2,h3⟩) fun q=>List.mem_singleton.mp q▸.inr ⟨h2▸(List.mem_singleton.mp q)▸rfl,h3,List.take_length▸h3.1⟩⟩
theorem NdJ.skip {rs:List R} {nl:List Bool} {tc i j x s m:Nat} {r:R} (hx:r.r[j]? = some x) (ha:¬ jo nl tc r.r x):NdJ rs nl tc i r j s m↔NdJ rs nl tc i r (j+1) s m:=by
 refine or_congr_right (and_congr_right fun u0=>and_congr_right fun q=>?_)
 rw [List.take_add_one,hx,List.mem_append]
 exact ⟨.inl,fun h=>h.elim id fun h=>absurd q (List.mem_singleton.mp h▸ha)⟩
theorem NdJ.add {rs:List R} {nl:List Bool} {tc i j x s m:Nat} {r:R} (hx:r.r[j]? = some x) (ha:jo nl tc r.r x):(NdJ rs nl tc i r j s m∨s=r.l∧m=x)↔NdJ rs nl tc i r (j+1) s m:=by
 unfold NdJ
 rw [List.take_add_one,hx,List.mem_append,or_assoc]
 refine or_congr_right ?_
 exact ⟨fun h=>h.elim (fun h=>⟨h.1,h.2.1,.inl h.2.2⟩) fun h=>⟨h.1,h.2▸ha,.inr (List.mem_singleton.mpr h.2)⟩,fun h=>h.2.2.elim (fun q=>.inl ⟨h.1,h.2.1,q⟩) fun q=>.inr ⟨h.1,List.mem_singleton.mp q⟩⟩
structure UoP (Nd:Nat→Nat→Prop) (tc N:Nat) (o0 o:List Nat) (i:Nat):Prop where
 um:UoM Nd tc N o
 le:o0.length≤o.length
 st:o.length=o0.length→o=o0∧∀ j,j < i→tc+j∈o0∨∃ m,Nd (tc+j) m∧m∉o0
theorem UoP.same {Nd:Nat→Nat→Prop} {tc N i:Nat} {o0 o:List Nat} (h:UoP Nd tc N o0 o i) (q:tc+i∈o∨∃ m,Nd (tc+i) m∧m∉o):UoP Nd tc N o0 o (i+1):=⟨h.um,h.le,fun e=>by
 obtain ⟨rfl,h2⟩:=h.st e
 exact ⟨rfl,fun j hj=>(Nat.lt_succ_iff_lt_or_eq.mp hj).elim (h2 j) fun e=>e▸q⟩⟩
theorem UoP.grow {Nd:Nat→Nat→Prop} {tc N i:Nat} {o0 o:List Nat} (h:UoP Nd tc N o0 o i) (hi:tc+i < N) (h1:tc+i∉o) (h2:∀ m,Nd (tc+i) m→m∈o):UoP Nd tc N o0 (o++[tc+i]) (i+1):=⟨h.um.add h1 ⟨Nat.le_add_right ..,hi⟩ h2,List.length_append▸Nat.le_succ_of_le h.le,fun e=>by
 rw [List.length_append] at e
 exact absurd (e▸h.le) (Nat.not_succ_le_self _)⟩
theorem UoP.ring {rs:List R} {nl:List Bool} {tc N:Nat} {o0 o:List Nat} (h:UoP (fG rs nl tc) tc N o0 o (N - tc)) (hl:o0.length < N - tc) (hr:∀ s m,fG rs nl tc s m→tc≤m∧m < N) (e:o.length=o0.length):v7 rs nl tc N:=by
 obtain ⟨rfl,h2⟩:=h.st e
 obtain ⟨s,hs,hn⟩:=h.um.free hl
 refine ⟨fun s=>(tc≤s∧s < N)∧s∉o,⟨s,hs,hn⟩,fun s q=>⟨q.1,?_⟩⟩
 have:=h2 (s - tc) (Nat.sub_lt_sub_right q.1.1 q.1.2)
 rw [Nat.add_sub_cancel' q.1.1] at this
 obtain ⟨m,hm,hn⟩:=this.resolve_left q.2
 exact ⟨m,hm,hr s m hm,hn⟩
inductive UoW (a:List Sl) (Nd:Nat→Nat→Prop) (tc N k:Nat) (m:Nat):List Sl→Nat→Prop
 | mk {o pl} (x y z w v:Sl):UoM Nd tc N o→jd pl (·∈o)→m=N - tc - o.length→UoW a Nd tc N k m (a++[x,y,z,w,.own (.lst (ao o)),.own (dO pl),v]) k
inductive UoQ (a:List Sl) (Nd:Nat→Nat→Prop) (tc N k:Nat) (o0:List Nat) (v:Sl) (i:Nat):List Sl→Nat→Prop
 | mk {o pl} (x y z w:Sl):UoP Nd tc N o0 o i→jd pl (·∈o)→UoQ a Nd tc N k o0 v i (a++[x,y,z,w,.own (.lst (ao o)),.own (dO pl),v]) k
theorem jt {e:Expr} {pos pos':Pos} {xs:List Nat} (h:V c ρ k .any e (.lst (ao xs))) (hl:xs.length≤2 ^ 24) (hx:cF c "len" = true) (hs:ah e=true):V c ρ k l (.Call (.Name "len" pos') [e] [] pos) (.int xs.length):=cy h (ai (l:=xs)▸.xn (ai.symm▸hl)) hx hs
theorem vg {e:Expr} {pos pos':Pos} {ps:AL} {m:Nat} (h:V c ρ k .any e (dD ps)) (em:(ps.map (·.1)).length=m) (hl:m≤2 ^ 24) (hx:cF c "len" = true) (hs:ah e=true):V c ρ k l (.Call (.Name "len" pos') [e] [] pos) (.int m):=by
 subst em;exact cy h (.yl hl) hx hs
theorem uK {z:Str} {pos:Pos} {d d':D} (hs:aO c z i=true) (hz:ρ[i]? = some (.vw d')) (h:d'=d) (hl:l≠.im:=by nofun):V c ρ k l (.Name z pos) d:=h▸fJ hs hz hl
theorem tA {es:List Stmt} {Q:Post} {o:O} {d:D} (i:Nat) (hi:ρ[i]? = some (.own o)) (e:o.toD=d) (ha:c.acc=none) (h:TB c (ρ.set i (.im d)) k es Q):TB c ρ k es Q:=nW i hi ha (e▸h)
theorem ro {xs:List D}:EqN 4 (.lst xs) (.lst []) xs.isEmpty:=by
 cases xs with
 | nil=>exact .lst .nil
 | cons _ _=>exact .len (fun h=>by cases h)
theorem kO {nl:List Bool} {tc x:Nat} {r:List Nat} (hx:x∈r):(((if nl.getD x false=true then ((solid nl r).length:Int) else (solid nl r).length - 1) == 0) && !decide (x < tc))=true↔jo nl tc r x:=by
 unfold jo isB
 rw [Bool.and_eq_true,beq_iff_eq,Bool.not_eq_true',decide_eq_false_iff_not]
 split <;> exact ⟨fun h=>⟨hx,by lia,by lia⟩,fun h=>⟨by lia,by lia⟩⟩
theorem tX {tc n s:Nat} {f:Nat→AL} (h1:tc≤s) (h2:s < tc+n):aY (ndA tc n f) (ik s)=some (dD (f s)):=by
 have e:(ndA tc n f).map (·.1)=ndK tc n:=by unfold ndA ndK;rw [List.map_map];rfl
 obtain ⟨q,_⟩:=gh (ps:=ndA tc n f) (k:=ik s)
 rw [e] at q
 obtain ⟨d,h3,h4⟩:=q _ (hY kJ (sS h1 h2))
 rw [h4]
 unfold ndA at h3
 rw [List.map_map,List.getElem?_map,List.getElem?_range (by lia)] at h3
 rw [← h3]
 show some (dD (f (tc+(s - tc))))=_
 rw [Nat.add_sub_cancel' h1]
theorem mw {al pl:AL} {Nd:Nat→Prop} {o:List Nat} (h1:jd al Nd) (h2:jd pl (·∈o)):(((((al.map (·.1)).map fun k=>(k.toD,!(aY pl k).isSome)).filter (·.2)).map (·.1)).isEmpty=true)↔∀ m,Nd m→m∈o:=by
 rw [List.isEmpty_iff,List.map_eq_nil_iff,List.filter_eq_nil_iff]
 refine ⟨fun h m hm=>h2.has.mp ?_,fun h x hx=>?_⟩
 ·have:=h _ (List.mem_map_of_mem ((h1.mem (ik m)).mpr ⟨m,hm,rfl⟩))
  exact Decidable.of_not_not fun q=>this (Bool.not_eq_true' _▸Bool.eq_false_iff.mpr q)
 ·obtain ⟨k,hk,rfl⟩:=List.mem_map.mp hx
  obtain ⟨m,hm,rfl⟩:=(h1.mem k).mp hk
  show ¬ (!(aY pl (ik m)).isSome)=true
  rw [h2.has.mpr (h m hm)];exact Bool.false_ne_true
theorem mq (p:Prg W) (hq:W.qt=true) (hg:g.Ok) (nd:Nat→Prop) (hnd:nd=Der g.rules fun u0=>False) (q:∀ (nl:List Bool) (o:List Nat),nl.length=g.names.length→(∀ s,s < g.names.length→(isB nl s↔nd s))→UoM (fG g.rules nl g.tc) g.tc g.names.length o→(∀ s,s∈o↔g.tc≤s∧s < g.names.length)→Q (.lst (ao o)) k) (hX:∀ nl:List Bool,nl.length=g.names.length→(∀ s,s < g.names.length→(isB nl s↔nd s))→v7 g.rules nl g.tc g.names.length→X k):a7 W (n+3) .unitOrder [.im g.D] k Q X:=p.run .unitOrder rfl rfl 9 fun S0 h0 pen A env=>by
 have n64:=g64 hg
 refine bU 1 (aS (f:=.nullable) (.im (aa (i:=0) rfl rfl) .nil) (d8 (n:=n) p hg fun nl hnl hn=>?_) rfl rfl rfl rfl) rfl rfl
 rw [← hnd] at hn
 have q:=fun o=>q nl o hnl hn
 have hX:=hX nl hnl hn
 refine aQ 2 (cn ?_) (.inl rfl) rfl rfl
 refine cO (UoA [.im g.D,.im (.lst (au nl))] g.tc k) (oD (l:=.im) (ax (aa (i:=0) rfl rfl) uO rfl) (fw p hg (aa (i:=0) rfl rfl) (Nat.le_add_left ..) rfl rfl rfl) (Nat.le_of_lt (cx (Nat.le_trans hg.tc n64))) (Nat.le_of_lt (cx n64)) rfl rfl) (.mk ..) nofun (fun u0=>rfl) (fun i d ρ k' hd h=>?_) fun ρ k' h=>?_
 ·obtain ⟨hi,rfl⟩:=gG hd
  induction h with
  | mk x=>
  have hfind:aD (ndK g.tc i) (ik (g.tc+i))=none:=by
   cases e:aD (ndK g.tc i) (ik (g.tc+i)) with
   | none=>rfl
   | some j=>
    have:=(bW e).1
    unfold ndK at this
    rw [List.getElem?_map] at this
    obtain ⟨m,hm,e⟩:=Option.map_eq_some_iff.mp this
    have h1:=List.mem_range.mp (List.mem_of_getElem? hm)
    have h2:=oE e
    lia
  refine ⟨_,.one (i:=3) rfl .im,nJ (kk:=ik (g.tc+i)) 2 rfl (fun u0=>aa (i:=3) rfl rfl) qK (tK▸Nat.le_of_lt (cx (Nat.le_trans (Nat.le_of_lt hi) (Nat.le_trans (Nat.sub_le ..) n64)))) hfind (cn (aj ?_)) rfl rfl rfl⟩
  have fin:UoA [.im g.D,.im (.lst (au nl))] g.tc k (i+1) _ k:=.mk (.im (.int (g.tc+i:Nat)))
  rw [s9] at fin
  exact fin
 ·have h:=bq▸h
  induction h with
  | mk x=>
  refine aN (fun i=>UoB [.im g.D,.im (.lst (au nl))] (fG (g.rules.take i) nl g.tc) g.tc g.names.length k) (ax (aa (l:=.im) (i:=0) rfl rfl) cq rfl) .lst (.mk (f:=fun u0=>[]) x _ _ _ fun s=>⟨jd.nil.congr fun m=>⟨(fun h=>by cases h),fun zz2=>by obtain ⟨_,h,_⟩:=zz2;exact nomatch h⟩,fun m zz3=>by obtain ⟨_,h,_⟩:=zz3;exact nomatch h⟩) nofun (fun u0=>rfl) (fun i d ρ k' hd h=>?_) fun ρ k' h=>?_
  ·obtain ⟨r,hr,rfl⟩:=bY hd
   have hrm:=List.mem_of_getElem? hr
   have hl:=hg.l r hrm
   induction h with
   | @mk f x y z w hf=>
   refine ⟨_,.one (i:=4) rfl .im,gZ 5 (iW (l:=.im) (r.r.map fun x=>(D.int (x:Nat),!nl.getD x false)) 1 [("nullables",1),("symbol",11)] ((ax (aa (i:=4) rfl rfl) cg rfl).src .tup) (by rw [ai];exact Nat.le_trans (hg.len r hrm) (Nat.le_of_ble_eq_true rfl)) (by rw [List.length_map,ai]) (fun F s cl C dd i d f zs hd hf=>?_) ?_ rfl (fun u0=>rfl)) (.inl rfl) rfl rfl rfl rfl (Nat.le_of_ble_eq_true rfl)⟩
   ·apply iY hd hf;intro x hx
    have hxN:=hg.r r hrm x (List.mem_of_getElem? hx)
    exact ⟨_,.one (i:=11) rfl rfl .im,iA (ay (aa (i:=1) rfl rfl) (aa (i:=11) rfl rfl) (.lst (cP (Nat.le_trans (Nat.le_of_lt hxN) n64)) (cG (hnl.symm▸hxN))) rfl).tv,fun u0=>aa (i:=11) rfl rfl⟩
   refine nT▸?_
   have hso:(solid nl r.r).length≤8:=Nat.le_trans (List.length_filter_le ..) (hg.len r hrm)
   refine aN (fun j=>UoC [.im g.D,.im (.lst (au nl))] (NdJ g.rules nl g.tc i r j) g.tc g.names.length (.im (r.D i)) (solid nl r.r) k) (ax (aa (l:=.im) (i:=4) rfl rfl) cg rfl) .tup (.mk x w (hf.congr fun u0 u0=>NdJ.zero)) nofun (fun u0=>rfl) (fun j d ρ k' hd h=>?_) fun ρ k' h=>?_
   ·apply aT hd;intro x hx
    have hxN:=hg.r r hrm x (List.mem_of_getElem? hx)
    induction h with
    | @mk f x' w hf=>
    refine ⟨_,.one (i:=3) rfl .im,az 6 (d:=.int (if nl.getD x false=true then ((solid nl r.r).length:Int) else (solid nl r.r).length - 1)) (iG (t:=nl.getD x false) (ay (aa (i:=1) rfl rfl) (aa (i:=3) rfl rfl) (.lst (cP (Nat.le_trans (Nat.le_of_lt hxN) n64)) (cG (hnl.symm▸hxN))) rfl).tv (fun e=>?_) fun e=>?_) ?_ rfl rfl⟩
    ·rw [if_pos e];exact jt (aZ (i:=5) rfl rfl) (Nat.le_trans hso (Nat.le_of_ble_eq_true rfl)) rfl rfl
    ·rw [if_neg (Bool.eq_false_iff.mp e)];exact aV (jt (aZ (i:=5) rfl rfl) (Nat.le_trans hso (Nat.le_of_ble_eq_true rfl)) rfl rfl) ar .sub
    refine c6 (UoC [.im g.D,.im (.lst (au nl))] (NdJ g.rules nl g.tc i r (j+1)) g.tc g.names.length (.im (r.D i)) (solid nl r.r) k) (fh (aC (aa (i:=6) rfl rfl) ar (.eq .int) rfl) fun u0=>iA (lk p (aa (i:=0) rfl rfl) (aa (i:=3) rfl rfl) (Nat.le_add_left ..) rfl rfl rfl).tv) (fun h1=>?_) (fun h1=>?_) fun ρ k' h=>aj h
    ·have ha:=(kO (List.mem_of_getElem? hx)).mp h1
     have hlt:r.l < g.tc+(g.names.length - g.tc):=by have:=hg.tc;lia
     refine nX (i:=2) (k:=ik x) (ps:=f r.l) (d:=.bool true) bl (fun Q q=>vQ rfl (bI rfl rfl ⟨_,_,rfl,(ax (aa (i:=4) rfl rfl) bT rfl).go _ ⟨ik r.l,r.l - g.tc,dO (f r.l),rfl,qK,hY kJ (sS (hg.lt r hrm) hlt),?_,q⟩⟩)) (aa (i:=3) rfl rfl) (hf r.l).1.kd (Nat.le_trans (hf.len _) (Nat.le_of_lt (cx n64))) ?_ (Nat.le_of_ble_eq_true rfl) rfl rfl
     ·rw [List.getElem?_map,List.getElem?_range (by have:=hg.lt r hrm;lia)]
      show some (dO (f (g.tc+(r.l - g.tc))))=_
      rw [Nat.add_sub_cancel' (hg.lt r hrm)]
     ·have fin:UoC [.im g.D,.im (.lst (au nl))] (NdJ g.rules nl g.tc i r (j+1)) g.tc g.names.length (.im (r.D i)) (solid nl r.r) k _ k:=.mk (.im (.int x)) (.im (.int (if nl.getD x false=true then ((solid nl r.r).length:Int) else (solid nl r.r).length - 1))) ((hf.add (s:=r.l) (d:=.bool true) ⟨ha.2.1,hxN⟩).congr fun s m=>NdJ.add hx ha)
      unfold ndO at fin
      rw [← tF (hg.lt r hrm) hlt] at fin
      exact aj fin
    ·exact aj (.mk (.im (.int x)) (.im (.int _)) (hf.congr fun s m=>NdJ.skip hx fun q=>by have z:=Eq.trans (Eq.symm ((kO (List.mem_of_getElem? hx)).mpr q)) h1;injection z))
   ·rw [ai] at h
    induction h with
    | mk x w hf=>exact aj (.mk x _ _ w (hf.congr fun u0 u0=>NdJ.done hr))
  ·rw [bC,List.take_length] at h
   induction h with
   | @mk f x y z w hf=>
   have hndl:((ndA g.tc (g.names.length - g.tc) f).map (·.1)).length=g.names.length - g.tc:=by unfold ndA;rw [List.length_map,List.length_map,List.length_range]
   have n24:=Nat.le_trans (Nat.sub_le g.names.length g.tc) (Nat.le_of_lt (cx n64))
   refine tA 2 rfl tL rfl (aQ 7 (bS (aQ 8 (cn ?_) (.inl rfl) rfl rfl)) (.inl rfl) rfl rfl)
   refine gI (UoW [.im g.D,.im (.lst (au nl)),.im (dD (ndA g.tc (g.names.length - g.tc) f))] (fG g.rules nl g.tc) g.tc g.names.length k) (.mk (o:=[]) (pl:=[]) x y z w _ ⟨.nil,(fun u0 h=>aE h),(fun u0 u0 h=>no1 h)⟩ (jd.nil.congr fun u0=>⟨False.elim,(fun h=>aE h)⟩) rfl) fun m ρ k' h=>?_
   induction h with
   | @mk o pl x y z w v um hpl hm=>
   have o24:=Nat.le_trans um.len n24
   refine .mk (decide ((o.length:Int) < (g.names.length - g.tc:Nat))) (aC (jt (aZ (i:=7) rfl rfl) o24 rfl rfl) (vg (aa (i:=2) rfl rfl) hndl n24 rfl rfl) .lt rfl) (fun ht=>?_) fun ht=>?_
   ·have hlt:o.length < g.names.length - g.tc:=Int.ofNat_lt.mp (of_decide_eq_true ht)
    refine az 9 (jt (aZ (i:=7) rfl rfl) o24 rfl rfl) ?_ rfl rfl
    refine aN (UoQ [.im g.D,.im (.lst (au nl)),.im (dD (ndA g.tc (g.names.length - g.tc) f))] (fG g.rules nl g.tc) g.tc g.names.length k o (.im (.int o.length))) (aa (l:=.im) (i:=2) rfl rfl) .dct (.mk x y z w ⟨um,Nat.le_refl _,fun u0=>⟨rfl,(fun u0 h=>by cases h)⟩⟩ hpl) nofun (fun u0=>rfl) (fun i d ρ k' hd h=>?_) fun ρ k' h=>?_
    ·have him:i < g.names.length - g.tc:=by have:=(List.getElem?_eq_some_iff.mp hd).1;rw [List.length_map] at this;exact hndl▸this
     have hd':d=.int (g.tc+i:Nat):=by
      unfold ndA at hd
      rw [List.map_map,List.map_map,List.getElem?_map,List.getElem?_range him] at hd
      exact (Option.some.inj hd).symm
     subst hd'
     induction h with
     | @mk o' pl' x y z w hp hpl'=>
     have hiN:g.tc+i < g.names.length:=by lia
     have hfi:=hf (g.tc+i)
     refine ⟨_,.one (i:=3) rfl .im,c6 (UoQ [.im g.D,.im (.lst (au nl)),.im (dD (ndA g.tc (g.names.length - g.tc) f))] (fG g.rules nl g.tc) g.tc g.names.length k o (.im (.int o.length)) (i+1)) (fh (aC (aa (i:=3) rfl rfl) (qU (i:=8) rfl rfl) (.xI (k:=ik (g.tc+i)) hpl'.kd) rfl) fun u0=>aC (rQ (l:=.im) (((f (g.tc+i)).map (·.1)).map fun k=>(k.toD,!(aY pl' k).isSome)) 1 [("placed",8),("one",11)] ((ay (aa (i:=2) rfl rfl) (aa (i:=3) rfl rfl) (.al (k:=ik (g.tc+i)) (d:=dD (f (g.tc+i))) ?_ (tX (Nat.le_add_right ..) ?_)) rfl).src .dct) ?_ ?_ (fun F s cl C dd j d f' zs hd hf'=>?_) rfl (fun u0=>rfl)) ox (.eq ro) rfl) (fun h1=>?_) (fun h1=>?_) fun ρ k' h=>aj h⟩
     ·exact fun q hq=>by
       obtain ⟨_,_,rfl⟩:=List.mem_map.mp hq;rfl
     ·lia
     ·rw [List.length_map,List.length_map];exact Nat.le_trans (hf.len _) (Nat.le_trans n64 (Nat.le_of_ble_eq_true rfl))
     ·rw [List.length_map,List.length_map,List.length_map,List.length_map]
     ·obtain ⟨m,rfl,hm,hk⟩:=hfi.1.at' hd
      rw [List.getElem?_map,hk] at hf'
      cases hf'
      exact ⟨_,.one (i:=11) rfl rfl .im,aC (aa (i:=11) rfl rfl) (uK (i:=8) rfl rfl vz) (.xI hpl'.kd) rfl,fun u0=>aa (i:=11) rfl rfl⟩
     ·rw [Bool.and_eq_true,mw hfi.1 hpl',Bool.not_eq_true',Bool.eq_false_iff,ne_eq,hpl'.has] at h1
      have l1:=hp.um.len
      refine b7 8 rfl bl (aa (i:=3) rfl rfl) hpl'.kd ?_ (dw 7 rfl ?_ (aa (i:=3) rfl rfl) ?_ rfl rfl rfl rfl) rfl rfl rfl
      ·exact Nat.le_trans (hpl'.lenOf fun u0=>id) (Nat.le_trans l1 n24)
      ·exact ai▸cx (Nat.le_trans l1 (Nat.le_trans (Nat.sub_le ..) n64))
      ·have fin:UoQ [.im g.D,.im (.lst (au nl)),.im (dD (ndA g.tc (g.names.length - g.tc) f))] (fG g.rules nl g.tc) g.tc g.names.length k o (.im (.int o.length)) (i+1) _ k:=.mk (.im (.int (g.tc+i:Nat))) y z w (hp.grow hiN h1.1 h1.2) (hpl'.add (d:=.bool true) |>.congr fun m=>(by rw [List.mem_append,List.mem_singleton]))
       rw [← b8] at fin
       exact aj fin
     ·refine aj (.mk (.im (.int (g.tc+i:Nat))) y z w (hp.same ?_) hpl')
      rw [Bool.and_eq_false_iff,Bool.not_eq_false',hpl'.has] at h1
      refine h1.imp id fun h1=>Classical.byContradiction fun q=>?_
      rw [(mw hfi.1 hpl').mpr fun m hm=>Classical.byContradiction fun hn=>q ⟨m,hm,hn⟩] at h1
      injection h1
    ·rw [List.length_map,hndl] at h
     induction h with
     | @mk o' pl' x y z w hp hpl'=>
     have o24:=Nat.le_trans hp.um.len n24
     refine dW (aC (jt (aZ (i:=7) rfl rfl) o24 rfl rfl) (aa (i:=9) rfl rfl) (.eq .int) rfl) (fun h1=>?_) fun h1=>aj ⟨_,?_,.mk x y z w (.im (.int o.length)) hp.um hpl' rfl⟩
     ·obtain ⟨T,fI,EC⟩:=p.exc
      exact .seq (qI rfl EC hq rfl (hX (hp.ring hlt (fun s m hm=>(hf s).2 m hm) (fF h1))))
     ·have:=hp.le
      have:o'.length≠o.length:=fun e=>by rw [e,beq_self_eq_true] at h1;injection h1
      have:=hp.um.len
      lia
   ·exact cb 7 rfl rfl (a9 (aa (i:=7) rfl rfl) (q o um fun s=>um.all fun q=>by have z:=Eq.trans (Eq.symm (decide_eq_true (Int.ofNat_lt.mpr q))) ht;injection z))
end
end Mine
namespace Mine
open PySem PySem.Calls PyProof.Rows PySem.SeqAt PySem.W
noncomputable abbrev WF:=Word→Nat
noncomputable def cv (f g:WF):WF
 | []=>f [] * g []
 | a::w=>f [] * g (a::w)+cv (fun u=>f (a::u)) g w
noncomputable def dl:WF:=fun w=>if w=[] then 1 else 0
noncomputable def tm (x:Nat):WF:=fun w=>if w=[x] then 1 else 0
noncomputable def cs (c:Nat→WF) (r:List Nat):WF:=r.foldl (fun f x=>cv f (c x)) dl
noncomputable def pre:Word→Nat→WF→WF
 | [],n,g,w=>n * g w
 | _::_,_,_,[]=>0
 | a::u,n,g,b::w=>if a=b then pre u n g w else 0
noncomputable def lim (L:Nat) (f:WF):WF:=fun w=>if w.length≤L then f w else 0
section
variable {f g f' g':WF} {u v w:Word} {n m L x:Nat} {c:Nat→WF} {r:List Nat}
theorem m2 {a b c d:Nat} (h:a=b) (k:c=d):a * c=b * d:=h▸k▸rfl
theorem p2 {a b c d:Nat} (h:a=b) (k:c=d):a+c=b+d:=h▸k▸rfl
theorem m0 {a c:Nat} (h:a=0):a * c=0:=h▸Nat.zero_mul c
theorem i2 {p:Prop} [Decidable p] {a b:Nat} (h:p→a=b):(if p then a else 0)=if p then b else 0:=by split;exact h ‹_›;rfl
theorem i3 {p q:Prop} [Decidable p] [Decidable q] {a:Nat} (h:p↔q):(if p then a else 0)=if q then a else 0:=ite_congr (propext h) (fun u0=>rfl) fun u0=>rfl
theorem xa {p:Prop} [Decidable p] {a b:Nat}:(if p then a+b else 0)=(if p then a else 0)+if p then b else 0:=by split <;> rfl
theorem wO {p:Prop} [Decidable p] {a:Nat}:n * (if p then a else 0)=if p then n * a else 0:=by split <;> rfl
theorem ncl {a:Nat} {u:Word}:([]:Word)≠a::u:=(fun h=>by cases h)
theorem cnl {a:Nat} {u:Word}:a::u≠[]:=List.cons_ne_nil _ _
theorem pf {a:Nat} {u v:Word}:a::u=a::v↔u=v:=⟨fun q=>(List.cons.inj q).2,congrArg _⟩
theorem dY:cs c (r++[x])=cv (cs c r) (c x):=List.foldl_append
theorem c5 {w:Word}:∀ {f f':WF},(∀ u,u.length≤w.length→f u=f' u)→(∀ u,u.length≤w.length→g u=g' u)→cv f g w=cv f' g' w:=by
 induction w with
 | nil=>exact fun h1 h2=>m2 (h1 _ (Nat.le_refl _)) (h2 _ (Nat.le_refl _))
 | cons a w ih=>exact fun h1 h2=>p2 (m2 (h1 _ (Nat.zero_le _)) (h2 _ (Nat.le_refl _))) (ih (fun u h=>h1 (a::u) (Nat.succ_le_succ h)) fun u h=>h2 u (Nat.le_succ_of_le h))
theorem n8 {w:Word}:∀ {f f':WF},cv (fun u=>f u+f' u) g w=cv f g w+cv f' g w:=by
 induction w with
 | nil=>exact Nat.add_mul ..
 | cons a w ih=>exact (p2 (Nat.add_mul ..) ih).trans (Nat.add_add_add_comm ..)
theorem d9 {w:Word}:∀ {f:WF},(∀ u,f u=0)→cv f g w=0:=by
 induction w with
 | nil=>exact fun h=>m0 (h _)
 | cons a w ih=>exact fun h=>p2 (m0 (h _)) (ih fun u=>h _)
theorem vZ {w:Word}:∀ {u:Word},cv (fun v=>if v=u then n else 0) g w=pre u n g w:=by
 induction w with
 | nil=>
  intro u
  cases u with
  | nil=>exact m2 (if_pos rfl) rfl
  | cons a u=>exact m0 (if_neg ncl)
 | cons b w ih=>
  intro u
  cases u with
  | nil=>exact p2 (m2 (if_pos rfl) rfl) (d9 fun u=>if_neg cnl)
  | cons a u=>
   refine (p2 (m0 (if_neg ncl)) ?_).trans (Nat.zero_add _)
   by_cases e:a=b
   ·subst e
    exact (c5 (fun v u0=>i3 pf) fun u0 u0=>rfl).trans (ih.trans (if_pos rfl).symm)
   ·exact (d9 fun v=>if_neg fun q=>e (List.cons.inj q).1.symm).trans (if_neg e).symm
theorem o4 {u:Word}:∀ {w:Word},pre u n (fun v=>g v+g' v) w=pre u n g w+pre u n g' w:=by
 induction u with
 | nil=>exact Nat.mul_add ..
 | cons a u ih=>
  intro w
  cases w with
  | nil=>rfl
  | cons b w=>exact (i2 fun u0=>ih).trans xa
theorem oS {u:Word}:∀ {w:Word},pre u n (fun v'=>if v'=v then m else 0) w=if w=u++v then n * m else 0:=by
 induction u with
 | nil=>exact wO
 | cons a u ih=>
  intro w
  cases w with
  | nil=>exact (if_neg ncl).symm
  | cons b w=>
   by_cases e:a=b
   ·subst e
    exact (if_pos rfl).trans (ih.trans (i3 pf.symm))
   ·exact (if_neg e).trans (if_neg fun q=>e (List.cons.inj q).1.symm).symm
theorem dA {u:Word}:∀ {w:Word},(∀ v,w=u++v→g v=g' v)→pre u n g w=pre u n g' w:=by
 induction u with
 | nil=>exact fun h=>m2 rfl (h _ rfl)
 | cons a u ih=>
  intro w h
  cases w with
  | nil=>rfl
  | cons b w=>exact i2 fun e=>ih fun v q=>h v (e▸congrArg _ q)
theorem jv (h:∀ v,g v=0) {u:Word}:∀ {w:Word},pre u n g w=0:=by
 induction u with
 | nil=>exact m2 rfl (h _)
 | cons a u ih=>
  intro w
  cases w with
  | nil=>rfl
  | cons b w=>exact (i2 fun u0=>ih).trans (ite_self _)
theorem uZ:lim L (cv (lim L f) g)=lim L (cv f g):=funext fun w=>by
 unfold lim
 split
 ·exact c5 (fun u h=>if_pos (Nat.le_trans h ‹_›)) fun u0 u0=>rfl
 ·rfl
theorem pq (h:w.length≤L):lim L f w=f w:=if_pos h
theorem ur (h:¬ w.length≤L):lim L f w=0:=if_neg h
end
structure bJ (ps:AL) (f:WF):Prop where
 ks:dc ps fun w=>f w≠0
 vl:∀ w,f w≠0→aY ps (tk w)=some (.int (f w))
noncomputable def tkF (ks:List Key) (j:Nat) (f:WF):WF:=fun u=>open Classical in if cY ks j u then f u else 0
section
variable {ps:AL} {f g:WF} {u v w:Word} {n j:Nat} {ks:List Key}
theorem bJ.congr (h:bJ ps f) (e:∀ w,f w=g w):bJ ps g:=funext e▸h
theorem bJ.nil (h:∀ w,f w=0):bJ [] f:=⟨dc.nil.congr fun w=>⟨False.elim,fun q=>q (h w)⟩,fun w q=>absurd (h w) q⟩
theorem bJ.get (h:bJ ps f):(aY ps (tk w)).getD (.int 0)=.int (f w):=by
 by_cases e:f w=0
 ·have:aY ps (tk w)=none:=by
   cases q:aY ps (tk w) with
   | none=>rfl
   | some d=>exact absurd e (h.ks.has.mp (congrArg _ q))
  rw [this,e];rfl
 ·rw [h.vl w e];rfl
theorem bJ.add (h:bJ ps f) (hn:n≠0):bJ (cw ps (tk u) (.int (f u+n:Nat))) fun w=>f w+if w=u then n else 0:=by
 refine ⟨h.ks.add.congr fun w=>?_,fun w q=>?_⟩
 ·by_cases e:w=u
  ·rw [if_pos e];exact ⟨fun u0 q=>hn (Nat.add_eq_zero_iff.mp q).2,fun u0=>.inr e⟩
  ·rw [if_neg e];exact ⟨fun q=>q.resolve_right e,.inl⟩
 ·by_cases e:w=u
  ·subst e;rw [fz,if_pos rfl]
  ·rw [if_neg e] at q ⊢
   rw [iX fun q'=>e (eQ q').symm];exact h.vl w q
theorem g0:tkF ks 0 f w=0:=if_neg (fun h=>aE h)
theorem eJ (nd:ks.Nodup) (h:ks[j]? = some (tk u)):tkF ks (j+1) f v=tkF ks j f v+if v=u then f u else 0:=by
 unfold tkF
 have:cY ks (j+1) v↔_:=cQ h
 by_cases e:v=u
 ·subst e
  have hn:¬ cY ks j v:=fun q=>by
   obtain ⟨i,hi⟩:=List.mem_iff_getElem?.mp q
   have hj:=(List.getElem?_eq_some_iff.mp hi).1
   have hj:=List.length_take▸hj
   rw [List.getElem?_take_of_lt (by lia)] at hi
   have:=(List.getElem?_inj (by lia) nd).mp (hi.trans h.symm)
   lia
  rw [if_pos (this.mpr (.inr rfl)),if_neg hn,if_pos rfl,Nat.zero_add]
 ·rw [if_neg e]
  by_cases q:cY ks j v
  ·rw [if_pos (this.mpr (.inl q)),if_pos q];rfl
  ·rw [if_neg fun q'=>(this.mp q').elim q e,if_neg q]
theorem iZ (h:bJ ps f):tkF (ps.map (·.1)) ((ps.map (·.1)).map Key.toD).length f w=f w:=by
 unfold tkF
 by_cases e:f w=0
 ·rw [e,ite_self]
 ·rw [if_pos ((eV h.ks).mpr e)]
theorem lD (h:tkF ks j f w≠0):f w≠0:=fun e=>h (by unfold tkF;rw [e,ite_self])
end
end Mine
namespace Mine
open PySem PySem.Calls PyProof.Rows PySem.SeqAt PySem.W
noncomputable def ws3:Nat→List Word
 | 0=>[[]]
 | n+1=>[]::(List.range 16).flatMap fun a=>(ws3 n).map (a::·)
theorem l7:∀ {n:Nat} {w:Word},w.length≤n→(∀ x∈w,x < 16)→w∈ws3 n
 | 0,[],_,_=>List.mem_cons_self
 | _+1,[],_,_=>List.mem_cons_self
 | n+1,a::w,h,q=>List.mem_cons_of_mem _ (List.mem_flatMap.mpr ⟨a,List.mem_range.mpr (q a List.mem_cons_self),List.mem_map_of_mem (l7 (Nat.le_of_succ_le_succ h) fun x hx=>q x (List.mem_cons_of_mem _ hx))⟩)
noncomputable def Sup (f:WF):Prop:=∀ w,f w≠0→w.length≤3∧∀ x∈w,x < 16
theorem bJ.len {ps:AL} {f:WF} (h:bJ ps f) (hs:Sup f):ps.length≤2 ^ 24:=Nat.le_trans (h.ks.lenOf (l:=ws3 3) fun w hw=>l7 (hs w hw).1 (hs w hw).2) (by decide +kernel)
structure WT (tc L:Nat) (pw:AL) (c:Nat→WF):Prop where
 kd:∀ p∈pw,p.1.kind=(tk []).kind
 at_:∀ s m,tc≤s→m≤L→∃ ps,(aY pw (tk [s,m])).getD (dD [])=dD ps∧bJ ps fun w=>if w.length=m then c s w else 0
 tm:∀ x,x < tc→c x=tm x
section
variable {W:Wd} {n k i j:Nat} {Q:D→Nat→Prop} {X:Nat→Prop} {g:Gr} {c:Cx} {ρ:List Sl} {l:Lv} {tc L:Nat} {C:Nat→WF}
inductive WoI (a:List Sl) (F:Nat→WF) (k i:Nat):List Sl→Nat→Prop
 | mk {f} (x5 x6 x7 x8 x9 x10 x11 x12:Sl):bJ f (F i)→WoI a F k i (a++[.im (dD f),x5,x6,x7,x8,x9,x10,x11,x12]) k
inductive WoL (a:List Sl) (F:WF) (k:Nat):List Sl→Nat→Prop
 | mk {f} (x7 x8 x9 x10 x11 x12:Sl):bJ f F→WoL a F k (a++[.own (dO f),x7,x8,x9,x10,x11,x12]) k
inductive WoM (a:List Sl) (z7 z8:Sl) (F:WF) (k:Nat):List Sl→Nat→Prop
 | mk {f} (x9 x10 x11 x12:Sl):bJ f F→WoM a z7 z8 F k (a++[.own (dO f),z7,z8,x9,x10,x11,x12]) k
inductive WoN (a:List Sl) (z7 z8 z10 z11:Sl) (F:WF) (k:Nat):List Sl→Nat→Prop
 | mk {f} (x9 x12:Sl):bJ f F→WoN a z7 z8 z10 z11 F k (a++[.own (dO f),z7,z8,x9,z10,z11,x12]) k
noncomputable def Low (f:WF):Prop:=∀ w,f w≠0→∀ y∈w,y < 16
theorem sX {w:Word}:∀ {f g:WF},Low f→Low g→cv f g w≠0→∀ y∈w,y < 16:=by
 induction w with
 | nil=>exact fun u0 u0 u0=>u4
 | cons a w ih=>
  intro f g hf hg h
  by_cases e:f [] * g (a::w)=0
  ·have h:¬ cv (fun u=>f (a::u)) g w=0:=fun q=>h (p2 e q)
   have ha:a < 16:=Classical.byContradiction fun q=>h (d9 fun u=>Classical.byContradiction fun q'=>q (hf _ q' a List.mem_cons_self))
   exact List.forall_mem_cons.mpr ⟨ha,ih (fun w hw y hy=>hf _ hw y (List.mem_cons_of_mem _ hy)) hg h⟩
  ·exact hg _ fun q=>e (m2 rfl q)
theorem vq:Low dl:=fun w h=>by
 unfold dl at h
 split at h
 ·subst w;exact (fun u0 h=>aE h)
 ·exact absurd rfl h
theorem ki (hC:∀ x,Low (C x)) {r:List Nat}:Low (cs C r):=by
 have:∀ (r:List Nat) (f:WF),Low f→Low (r.foldl (fun f x=>cv f (C x)) f):=fun r=>by
  induction r with
  | nil=>exact fun u0 h=>h
  | cons x r ih=>exact fun f hf=>ih _ fun w=>sX hf (hC x)
 exact this r dl vq
theorem mi {f:WF} (hL:L≤3) (h:Low f):Sup (lim L f):=fun w q=>by
 unfold lim at q
 split at q
 ·exact ⟨Nat.le_trans ‹_› hL,h w q⟩
 ·exact absurd rfl q
theorem Sup.add {f g:WF} (hf:Sup f) (hg:Sup g):Sup fun w=>f w+g w:=fun w h=>by
 by_cases e:f w=0
 ·exact hg w fun q=>h (by show f w+g w=0;rw [e,q])
 ·exact hf w e
theorem vA {n:Nat} {g:WF} {u:Word}:∀ {w:Word},pre u n g w≠0→∃ v,w=u++v∧g v≠0:=by
 induction u with
 | nil=>exact fun h=>⟨_,rfl,fun q=>h (m2 rfl q)⟩
 | cons a u ih=>
  intro w h
  cases w with
  | nil=>exact absurd rfl h
  | cons b w=>
   by_cases e:a=b
   ·obtain ⟨v,e',q⟩:=ih fun q=>h ((if_pos e).trans q)
    exact ⟨v,e▸congrArg _ e',q⟩
   ·exact absurd (if_neg e) h
theorem oP {n:Nat} {g:WF} {u:Word} (hu:∀ x∈u,x < 16) (hg:∀ v,g v≠0→u.length+v.length≤3∧∀ x∈v,x < 16):Sup (pre u n g):=fun w h=>by
 obtain ⟨v,rfl,q⟩:=vA h
 exact ⟨by rw [List.length_append];exact (hg v q).1,fun x hx=>(List.mem_append.mp hx).elim (hu x) ((hg v q).2 x)⟩
theorem sg {f g:WF} {ks:List Key} {u w:Word} (nd:ks.Nodup) (h:ks[j]? = some (tk u)):lim L (cv (tkF ks (j+1) f) g) w=lim L (cv (tkF ks j f) g) w+lim L (pre u (f u) g) w:=by
 unfold lim
 split
 ·rw [← vZ,← n8]
  exact c5 (fun u0 u0=>eJ nd h) fun u0 u0=>rfl
 ·rfl
theorem se {n x:Nat} {u w:Word}:lim L (pre u n (tm x)) w=if u.length < L then (if w=u++[x] then n else 0) else 0:=by
 unfold lim
 have e:pre u n (tm x) w=if w=u++[x] then n * 1 else 0:=oS
 rw [e,Nat.mul_one]
 by_cases q:w=u++[x]
 ·rw [if_pos q]
  have:w.length=u.length+1:=by rw [q,List.length_append];rfl
  rw [this];rfl
 ·rw [if_neg q,ite_self,ite_self]
theorem tG {n:Nat} {g:WF} {u w:Word} (hu:u.length≤L):pre u n (fun v=>if v.length < L - u.length+1 then g v else 0) w=lim L (pre u n g) w:=by
 unfold lim
 split
 ·exact dA fun v e=>if_pos (by have:=congrArg List.length e;rw [List.length_append] at this;lia)
 ·refine (dA fun v e=>if_neg ?_).trans (jv (g:=fun u0=>0) fun u0=>rfl)
  have:=congrArg List.length e;rw [List.length_append] at this;lia
theorem r8 {f:WF} {ks:List Key} {u v w:Word} {n:Nat} (nd:ks.Nodup) (h:ks[j]? = some (tk v)):pre u n (tkF ks (j+1) f) w=pre u n (tkF ks j f) w+if w=u++v then n * f v else 0:=by
 rw [← oS,← o4]
 exact dA fun u0 u0=>eJ nd h
theorem q8 {pos:Pos}:V c ρ k l (.Dict [] [] pos) (dD []):=⟨fun Q q=>(cn (Q:=fun o k=>Q o.toD k) q).e1.go⟩
theorem nI {ps:AL} {F:WF} {w:Word} {o e:Expr} {apos pos p0:Pos} {kk} (h:bJ ps F) (h1:V c ρ k l o (dD ps)) (h2:V c ρ k .any e (tk w).toD) (ho:a0 o=true) (hs:ah e=true) (hl:(apos.endLine == pos.line)=true):V c ρ k l (.Call (.Attribute o "get" apos) [e,.Constant (.int 0) kk p0] [] pos) (.int (F w)):=h.get▸uN h1 h2 ar h.ks.kd ho (by rw [List.all_cons,hs];rfl) hl
theorem lj {ps:AL} {F:WF} {w:Word} {o e:Expr} {pos:Pos} (h:bJ ps F) (hw:F w≠0) (h1:V c ρ k l o (dD ps)) (h2:V c ρ k .any e (tk w).toD) (hs:bQ e=true):V c ρ k l (.Subscript o e pos) (.int (F w)):=ay h1 h2 (.al h.ks.kd (h.vl w hw)) hs
theorem wq {p:Prop} [Decidable p] {a:Nat} (h:(if p then a else 0)≠0):a≠0:=fun e=>h (by rw [e,ite_self])
theorem tR {ks:List Key} {f:WF} {u:Word} (nd:ks.Nodup) (h:ks[j]? = some (tk u)):tkF ks j f u=0:=if_neg fun q=>by
 obtain ⟨i,hi⟩:=List.mem_iff_getElem?.mp q
 have hj:=(List.getElem?_eq_some_iff.mp hi).1
 have hj:=List.length_take▸hj
 rw [List.getElem?_take_of_lt (by lia)] at hi
 have:=(List.getElem?_inj (by lia) nd).mp (hi.trans h.symm)
 lia
inductive DcJ (f:AL) (L:Nat) (F:WF) (k:Nat):List D→Nat→List Key→List D→Nat→Prop
 | mk (ps:AL) {i}:bJ ps (fun w=>if w.length=L then tkF (f.map (·.1)) i F w else 0)→DcJ f L F k ((f.map (·.1)).map Key.toD) i (ps.map (·.1)) (ps.map (·.2)) k
theorem my (p:Prg W) (hg:g.Ok) (hL:L≤3) {pw:AL} (wt:WT g.tc L pw C) (r:List Nat) (hr:∀ x∈r,x < g.names.length) (hm:∀ a x b,r=a++x::b→∀ u v,u.length≤L→v.length≤L→kR (cs C a u:Nat) (C x v:Nat)) (hC:∀ x,Low (C x))
  (q:∀ ps,bJ ps (fun w=>if w.length=L then cs C r w else 0)→Q (dD ps) k):a7 W (n+2) .wordsOver [.im g.D,.im (.tup (ao r)),.im (.int L),.vw (dD pw)] k Q X:=p.run .wordsOver rfl rfl 9 fun S0 h0 pen A env=>by
 have n64:=g64 hg
 refine bU 4 (EO.e1 (mc (kk:=tk []) r7 ar rfl ?_)) rt rt
 refine aN (WoI [.im g.D,.im (.tup (ao r)),.im (.int L),.vw (dD pw)] (fun i=>lim L (cs C (r.take i))) k) (aa (l:=.im) (i:=1) rt rfl) .tup (.mk (f:=[(tk [],.int 1)]) _ _ _ _ _ _ _ _ ?_) nofun (fun u0=>rfl) (fun i d ρ k' hd h=>?_) fun ρ k' h=>?_
 ·have h0:lim L (cs C (r.take 0))=dl:=funext fun w=>by
   unfold lim
   split
   ·rfl
   ·exact (if_neg fun e=>by subst e;exact absurd (Nat.zero_le _) ‹¬ _›).symm
  refine h0▸?_
  refine ⟨.of (List.pairwise_singleton ..) fun k=>List.mem_singleton.trans ⟨fun e=>⟨[],(fun h=>by cases h),e⟩,fun ⟨w,hw,e⟩=>?_⟩,fun w hw=>?_⟩ <;>
  by_cases q:w=[]
  ·exact e.trans (q▸rfl)
  ·exact absurd (if_neg q) hw
  ·subst q;exact b6.trans (by rw [beq_self_eq_true];rfl)
  ·exact absurd (if_neg q) hw
 ·apply aT hd;intro x hx
  have hxm:=List.mem_of_getElem? hx
  have hxN:=hr x hxm
  have hcs:cs C (r.take (i+1))=cv (cs C (r.take i)) (C x):=List.take_add_one▸hx▸dY
  have hsp:r=r.take i++x::r.drop (i+1):=by rw [← lY hx,List.take_append_drop]
  have hmx:=hm _ x _ hsp
  have hlow:Low (cs C (r.take i)):=ki hC
  have hlm:=uZ (L:=L) (f:=cs C (r.take i)) (g:=C x)
  have hlm:=hcs▸hlm
  induction h with
  | @mk f x5 x6 x7 x8 x9 x10 x11 x12 hf=>
  have hf:bJ f (lim L (cs C (r.take i))):=hf
  have fin:∀ {f':AL},bJ f' (lim L (cv (lim L (cs C (r.take i))) (C x)))→bJ f' (lim L (cs C (r.take (i+1)))):=hlm▸id
  generalize cs C (r.take i)=f0 at hmx hlow fin hf
  have hfl:Low (lim L f0):=fun w h=>(mi hL hlow w h).2
  have hmx:∀ u v,u.length≤L→v.length≤L→kR (lim L f0 u:Nat) (C x v:Nat):=fun u v h1 h2=>by rw [pq h1];exact hmx u v h1 h2
  have hle:∀ u,lim L f0 u≠0→u.length≤L:=fun u h=>Decidable.by_contra fun q=>h (ur q)
  generalize lim L f0=fL at hf fin hfl hmx hle
  refine ⟨_,.one (i:=5) rt .im,aQ 6 (cn ?_) (.inl rfl) rt rt⟩
  refine aN (fun j=>WoL [.im g.D,.im (.tup (ao r)),.im (.int L),.vw (dD pw),.im (dD f),.im (.int x)] (lim L (cv (tkF (f.map (·.1)) j fL) (C x))) k) (aa (l:=.im) (i:=4) rt rfl) .dct (.mk (f:=[]) x7 x8 x9 x10 x11 x12 (.nil fun w=>?_)) nofun (fun u0=>rfl) (fun j d ρ k' hd h=>?_) fun ρ k' h=>?_
  ·unfold lim
   rw [d9 fun u=>g0,ite_self]
  ·obtain ⟨u,rfl,hu,hk⟩:=hf.ks.at hd
   have hul:=hle u hu
   have hlo:Low (cv (tkF (f.map (·.1)) j fL) (C x)):=fun w=>sX (fun w h=>hfl w (lD h)) (hC x)
   have hst:=fun w=>sg (L:=L) (f:=fL) (g:=C x) (w:=w) hf.ks.nd hk
   have hs0:=mi hL hlo
   generalize lim L (cv (tkF (f.map (·.1)) j fL) (C x))=F0 at h hst hs0
   generalize lim L (cv (tkF (f.map (·.1)) (j+1) fL) (C x))=F1 at hst
   have ht24:∀ {w:Word},w.length≤L→(ao w).length≤2 ^ 20:=fun h=>by rw [ai];exact Nat.le_trans h (Nat.le_trans hL (Nat.le_of_ble_eq_true rt))
   induction h with
   | @mk f1 x7 x8 x9 x10 x11 x12 hf1=>
   have eL:((L:Int) - ((ao u).length:Int))=((L - u.length:Nat):Int):=by rw [ai];lia
   refine ⟨_,.one (i:=7) rt .im,az 8 (eL▸aV (aa (i:=2) rfl rfl) (cy (aa (i:=7) rfl rfl) (.xC (Nat.le_trans (ht24 hul) (Nat.le_of_ble_eq_true rt))) rfl rt) .sub) ?_ rt rt⟩
   refine dW (lk p (aa (i:=0) rfl rfl) (aa (i:=5) rfl rfl) (Nat.le_add_left ..) rt rt rfl).tv (fun ht=>?_) fun ht=>?_
   ·have hst:=(wt.tm x (of_decide_eq_true ht))▸hst
    refine c6 (WoM [.im g.D,.im (.tup (ao r)),.im (.int L),.vw (dD pw),.im (dD f),.im (.int x)] (.im (.tup (ao u))) (.im (.int (L - u.length:Nat))) F1 k) (aC (aa (i:=8) rt rfl) ar .gt rfl) (fun hl=>?_) (fun hl=>?_) fun ρ k h=>?_
    ·have hl:u.length < L:=by have:=Int.ofNat_lt.mp (of_decide_eq_true hl);lia
     refine az 9 (V.word (v:=[x])<|eW (aa (i:=7) rt rfl) (qJ (aa (i:=5) rt rfl) rt) (.xA (Nat.le_trans (Nat.add_le_add_right (ht24 hul) 1) (Nat.le_of_ble_eq_true rt)))) (b7 (k:=tk (u++[x])) (d:=.int (F0 (u++[x])+fL u:Nat)) 6 rfl (aV (nI hf1 (qU (i:=6) rt rfl) (aa (i:=9) rt rfl) rt rt rt) (lj hf hu (aa (i:=4) rt rfl) (dp (i:=7) rt rfl bZ.symm) rt) .add) (aa (i:=9) rt rfl) hf1.ks.kd (hf1.len hs0) (aj (.mk _ _ _ _ (hf1.add hu |>.congr fun w=>?_))) rt rfl rt) rt rt
     rw [hst,se,if_pos hl]
    ·have hl:¬ u.length < L:=fun q=>of_decide_eq_false hl (Int.ofNat_lt.mpr (Nat.sub_pos_of_lt q))
     exact aj (.mk _ _ _ _ (hf1.congr fun w=>by rw [hst,se,if_neg hl];rfl))
    ·induction h with
     | mk x9 x10 x11 x12 h=>exact pB (.mk _ _ _ _ _ _ h)
   ·have hup:=fun w (hw:C x w≠0)=>hC x w hw
    have huf:∀ y∈u,y < 16:=hfl u hu
    refine cO (fun m=>WoM [.im g.D,.im (.tup (ao r)),.im (.int L),.vw (dD pw),.im (dD f),.im (.int x)] (.im (.tup (ao u))) (.im (.int (L - u.length:Nat))) (fun w=>F0 w+pre u (fL u) (fun v=>if v.length < m then C x v else 0) w) k) (cC (l:=.im) (m:=L - u.length+1) (aV (aa (i:=8) rt rfl) ar .add) (by lia) rt rt) (.mk x9 x10 x11 x12 (hf1.congr fun w=>?_)) nofun (fun u0=>rfl) (fun m d ρ k' hd h=>?_) fun ρ k' h=>?_
    ·rw [jv fun v=>if_neg (Nat.not_lt_zero _)];rfl
    ·apply hU hd;intro hm
     obtain ⟨ps,hps,hpc⟩:=wt.at_ x m (Nat.le_of_not_lt (of_decide_eq_false ht)) (by lia)
     induction h with
     | @mk f2 x9 x10 x11 x12 hf2=>
     refine ⟨_,.one (i:=10) rt .im,pA 11 (hps▸uN (k:=tk [x,m]) (fJ (i:=3) rfl rfl) (dQ (aa (i:=5) rfl rfl) (aa (i:=10) rfl rfl) rt) q8 wt.kd rt rt rfl) ?_ rt rt⟩
     have hgm:∀ v,(if v.length=m then C x v else 0)≠0→v.length=m∧C x v≠0∧(if v.length=m then C x v else 0)=C x v:=fun v q=>by
      by_cases e:v.length=m
      ·rw [if_pos e] at q ⊢;exact ⟨e,q,rfl⟩
      ·rw [if_neg e] at q;exact absurd rfl q
     have hs2:Sup fun w=>F0 w+pre u (fL u) (fun v=>if v.length < m then C x v else 0) w:=hs0.add (oP huf fun v q=>by
      by_cases e:v.length < m
      ·rw [if_pos e] at q;exact ⟨by lia,hC x v q⟩
      ·rw [if_neg e] at q;exact absurd rfl q)
     have hs3:∀ i,Sup fun w=>F0 w+pre u (fL u) (fun v=>if v.length < m then C x v else 0) w+pre u (fL u) (tkF (ps.map (·.1)) i fun v=>if v.length=m then C x v else 0) w:=fun i=>hs2.add (oP huf fun v q=>by
      have:=hgm v (lD q);exact ⟨by lia,hC x v this.2.1⟩)
     have hfn:∀ w,F0 w+pre u (fL u) (fun v=>if v.length < m then C x v else 0) w+pre u (fL u) (fun v=>if v.length=m then C x v else 0) w=F0 w+pre u (fL u) (fun v=>if v.length < m+1 then C x v else 0) w:=fun w=>by
      rw [Nat.add_assoc,← o4]
      refine congrArg _ (dA fun v u0=>?_)
      show (if v.length < m then C x v else 0)+(if v.length=m then C x v else 0)=_
      by_cases e:v.length < m
      ·rw [if_pos e,if_neg (Nat.ne_of_lt e),if_pos (Nat.lt_succ_of_lt e)];rfl
      ·rw [if_neg e,Nat.zero_add]
       by_cases q:v.length=m
       ·rw [if_pos q,if_pos (q▸Nat.lt_succ_self _)]
       ·rw [if_neg q,if_neg (by lia)]
     generalize hG:(fun w=>F0 w+pre u (fL u) (fun v=>if v.length < m then C x v else 0) w)=G at hf2 hs2
     have hG:=fun w=>congrFun hG w
     simp only [hG] at hs3 hfn
     generalize hgg:(fun v:Word=>if v.length=m then C x v else 0)=gm at hpc hs3 hfn
     have hgm:∀ v,gm v≠0→v.length=m∧gm v=C x v:=fun v q=>by
      subst hgg;exact ⟨(hgm v q).1,(hgm v q).2.2⟩
     refine aN (fun i=>WoN [.im g.D,.im (.tup (ao r)),.im (.int L),.vw (dD pw),.im (dD f),.im (.int x)] (.im (.tup (ao u))) (.im (.int (L - u.length:Nat))) (.im (.int m)) (.vw (dD ps)) (fun w=>G w+pre u (fL u) (tkF (ps.map (·.1)) i gm) w) k) (fJ (l:=.vw) (i:=11) rfl rfl) .dct (.mk x9 x12 (hf2.congr fun w=>?_)) (fun h=>by cases h) (fun u0=>rfl) (fun i d ρ k' hd h=>?_) fun ρ k' h=>?_
     ·refine Eq.symm (jv fun v=>g0)▸?_;rfl
     ·obtain ⟨v,rfl,hv,hkv⟩:=hpc.ks.at hd
      obtain ⟨hvm,hvc⟩:=hgm v hv
      have hvl:v.length≤L:=by lia
      induction h with
      | @mk f3 x9 x12 hf3=>
      refine ⟨_,.one (i:=12) rt .vw,pA 9 (V.word<|eW (aa (i:=7) rt rfl) (fJ (i:=12) rt rfl) (.xA (Nat.le_trans (Nat.add_le_add (ht24 hul) (ht24 hvl)) (Nat.le_of_ble_eq_true rt)))) (b7 (k:=tk (u++v)) (d:=.int (G (u++v)+pre u (fL u) (tkF (ps.map (·.1)) i gm) (u++v)+fL u * gm v:Nat)) 6 rfl (aV (nI hf3 (qU (i:=6) rt rfl) (fJ (i:=9) rt rfl) rt rt rt) (aV (lj hf hu (aa (i:=4) rt rfl) (dp (i:=7) rt rfl bZ.symm) rt) (lj hpc hv (fJ (i:=11) rt rfl) (uK (i:=12) rt rfl bZ.symm) rt) (.mul (hvc▸hmx u v hul hvl))) .add) (fJ (i:=9) rt rfl) hf3.ks.kd (hf3.len (hs3 i)) (aj (.mk _ _ (hf3.add (Nat.mul_ne_zero hu hv) |>.congr fun w=>?_))) rt rfl rt) rt rt⟩
      rw [r8 hpc.ks.nd hkv,← Nat.add_assoc]
     ·induction h with
      | mk x9 x12 h=>exact aj (.mk _ _ _ _ (h.congr fun w=>by
        exact (hfn ..)▸congrArg _ (dA fun v u0=>iZ hpc)))
    ·rw [bq] at h
     induction h with
     | mk x9 x10 x11 x12 h=>exact aj (.mk _ _ _ _ _ _ (h.congr fun w=>by rw [hst,← tG hul]))
  ·induction h with
   | @mk f1 x7 x8 x9 x10 x11 x12 hf1=>exact dS 6 rfl rfl (az 4 (aa (i:=6) rt rfl) (aj (.mk _ _ _ _ _ _ _ _ (fin (hf1.congr fun w=>by
     unfold lim;split
     ·exact c5 (fun u u0=>iZ hf) fun u0 u0=>rfl
     ·rfl)))) rt rt)
 ·rw [ai] at h
  induction h with
  | @mk f x5 x6 x7 x8 x9 x10 x11 x12 hf=>
  have hf:bJ f (lim L (cs C (r.take r.length))):=hf
  have hf:=List.take_length▸hf
  have hq:∀ ps,bJ ps (fun w=>if w.length=L then lim L (cs C r) w else 0)→Q (dD ps) k:=fun ps h=>q ps (h.congr fun w=>by
   by_cases e:w.length=L
   ·rw [if_pos e,if_pos e,pq (Nat.le_of_eq e)]
   ·rw [if_neg e,if_neg e])
  have hs:=mi hL (ki (r:=r) hC)
  generalize lim L (cs C r)=F at hf hq hs
  refine d7 (EO.e1 (EC.eoD ⟨q7 (tt:=false) 1 [("reach",4),("length",2),("word",14)] rt (fun u0=>rfl) (fun h=>ff h) (DcJ f L F k) ((aa (l:=.im) (i:=4) rfl rfl).src .dct |>.go _ (.mk [] (.nil fun w=>?_))) (fun F' s cl C' dd ds i d ks xs k' hd h hlen=>?_) fun ds ks xs k' h=>?_⟩))
  ·rw [g0,ite_self]
  ·induction h with
   | @mk ps i hps=>
   obtain ⟨w,rfl,hw,hk⟩:=hf.ks.at hd
   have hl:=hps.len fun w q=>hs w (lD (wq q))
   refine ⟨(List.length_map (as:=ps) (·.1)).symm▸hl,_,.one (i:=14) rt rfl .im,(aC (cy (aa (i:=14) rfl rfl) (.xC ?_) rfl rt) (aa (i:=2) rfl rfl) (.eq .int) rfl).go _ ⟨fun hb=>⟨fun u0=>(aa (i:=14) rfl rfl).go _ ((lj hf hw (aa (i:=4) rfl rfl) (dp (i:=14) rfl rfl bZ.symm) rt).go _ ⟨tk w,bZ.symm,hps.ks.kd.ok,?_⟩),(fun h=>tf h)⟩,fun hb=>⟨(fun h=>ff h),fun u0=>.mk ps ?_⟩⟩⟩
   ·exact ai▸Nat.le_trans (hs w hw).1 (Nat.le_of_ble_eq_true rt)
   ·have hb:w.length=L:=ai (l:=w)▸fF hb
    rw [(jF (d:=.int (F w))).1,jF.2]
    have h2:=hps.add (u:=w) hw
    have e0:tkF (f.map (·.1)) i F w=0:=tR hf.ks.nd hk
    rw [if_pos hb,e0,Nat.zero_add] at h2
    refine .mk _ (h2.congr fun v=>?_)
    rw [eJ hf.ks.nd hk]
    by_cases e:v=w
    ·rw [if_pos e,e,if_pos hb,if_pos hb]
    ·rw [if_neg e];rfl
   ·have hb:¬ w.length=L:=fun e=>by rw [ai,e,beq_self_eq_true] at hb;injection hb
    refine hps.congr fun v=>?_
    rw [eJ hf.ks.nd hk]
    by_cases e:v=w
    ·rw [e,if_neg hb,if_neg hb]
    ·refine (if_neg e)▸?_;rfl
  ·generalize hi:ds.length=i at h
   induction h with
   | @mk ps i hps=>
   subst hi
   exact aH (xs:=ps.map (·.2))▸hq ps (hps.congr fun w=>by rw [iZ hf])
end
end Mine
namespace Mine
open PySem PySem.Calls PyProof.Rows PySem.SeqAt PySem.W
noncomputable def nx (rs:List R) (c:Nat→WF) (s:Nat):WF:=fun w=>((rs.filter (·.l == s)).map fun r=>cs c r.r w).sum
noncomputable def upd (c:Nat→WF) (s m:Nat) (d:WF):Nat→WF:=fun x w=>if x=s∧w.length=m then d w else c x w
inductive Jn (P:Nat→Word→Prop):List Nat→Word→Prop
 | nil:Jn P [] []
 | cons {x xs u v}:P x u→Jn P xs v→Jn P (x::xs) (u++v)
noncomputable def LgU (rs:List R) (tc s:Nat) (w:Word):Prop:=∀ P:Nat→Word→Prop,(∀ s,s < tc→P s [s])→(∀ r∈rs,∀ w,Jn P r.r w→P r.l w)→P s w
noncomputable def ej (o:List Nat) (m i s m':Nat):Prop:=s∈o∧(m' < m∨m'=m∧s∈o.take i)
structure Bnd (c:Nat→WF) (m a b:Nat):Prop where
 lt:∀ x w,w.length < m→c x w≤2 ^ a
 eq:∀ x w,w.length=m→c x w≤2 ^ b
noncomputable def ml:Nat→Nat→Nat→Nat
 | 0,_,b=>5 * (b+2)+6
 | _+1,a,b=>b+5 * (a+2)+6
noncomputable def gn (m a:Nat):Nat→Nat
 | 0=>0
 | i+1=>ml m a (gn m a i)
noncomputable def gQ:Nat→Nat
 | 0=>0
 | m+1=>gn m (gQ m) 4
structure TcI (rs:List R) (nl:List Bool) (tc:Nat) (o:List Nat) (m i:Nat) (c:Nat→WF):Prop where
 tm:∀ x,x < tc→c x=tm x
 z:∀ s w,tc≤s→c s w≠0→ej o m i s w.length
 eq:∀ s w,ej o m i s w.length→c s w=nx rs c s w
 nul:∀ s,c s []≠0→isB nl s
 low:∀ x,Low (c x)
 lg:∀ s w,c s w≠0→LgU rs tc s w
 bd:Bnd c m (gQ m) (gn m (gQ m) i)
section
variable {f g f' g':WF} {u v w:Word} {n m L x s a b tc:Nat} {c c':Nat→WF} {r:List Nat} {nl:List Bool} {rs:List R}
theorem su {w:Word}:∀ {f f':WF},cv f g w≠cv f' g' w→∃ u v,w=u++v∧f u * g v≠f' u * g' v:=by
 induction w with
 | nil=>exact fun h=>⟨[],[],rfl,h⟩
 | cons a w ih=>
  intro f f' h
  by_cases e:f [] * g (a::w)=f' [] * g' (a::w)
  ·obtain ⟨u,v,e',q⟩:=ih fun q=>h (p2 e q)
   exact ⟨a::u,v,congrArg _ e',q⟩
  ·exact ⟨[],_,rfl,e⟩
theorem sN (h:∀ x∈r,∀ v,v.length≤w.length→c x v=c' x v):cs c r w=cs c' r w:=by
 have:∀ (r:List Nat) (f f':WF),(∀ x∈r,∀ v,v.length≤w.length→c x v=c' x v)→(∀ u,u.length≤w.length→f u=f' u)→∀ u,u.length≤w.length→r.foldl (fun f x=>cv f (c x)) f u=r.foldl (fun f x=>cv f (c' x)) f' u:=fun r=>by
  induction r with
  | nil=>exact fun u0 u0 u0 h=>h
  | cons x r ih=>exact fun f f' h hf=>ih _ _ (fun y hy=>h y (List.mem_cons_of_mem _ hy)) fun u hu=>c5 (fun v hv=>hf v (Nat.le_trans hv hu)) fun v hv=>h x List.mem_cons_self v (Nat.le_trans hv hu)
 exact this r dl dl h (fun u0 u0=>rfl) w (Nat.le_refl _)
theorem qX:cv f g []=f [] * g []:=rfl
theorem gS {α:Type} {P:List α→Prop} (h0:P []) (h1:∀ l a,P l→P (l++[a])) (l:List α):P l:=by
 refine (List.reverse_reverse l)▸?_
 induction l.reverse with
 | nil=>exact h0
 | cons a l ih=>rw [List.reverse_cons];exact h1 _ _ ih
section
variable {P P':Nat→Word→Prop} {xs ys:List Nat}
theorem Jn.mono (h:Jn P xs w) (hP:∀ x w,P x w→P' x w):Jn P' xs w:=by
 induction h with
 | nil=>exact .nil
 | cons h _ ih=>exact .cons (hP _ _ h) ih
theorem Jn.app (h1:Jn P xs u) (h2:Jn P ys v):Jn P (xs++ys) (u++v):=by
 induction h1 with
 | nil=>exact h2
 | cons h _ ih=>rw [List.append_assoc];exact .cons h ih
end
theorem wU:∀ w,cs c r w≠0→Jn (fun x u=>c x u≠0) r w:=by
 induction r using gS with
 | h0=>
  intro w h
  cases w with
  | nil=>exact .nil
  | cons a w=>exact absurd (show dl (a::w)=0 from if_neg cnl) h
 | h1 l x ih=>
  intro w h
  rw [dY] at h
  obtain ⟨u,v,rfl,q⟩:=su (f':=fun u0=>0) (g':=fun u0=>0) fun e=>h (e.trans (d9 fun u0=>rfl))
  rw [← List.append_nil v]
  exact (ih u fun e=>q (by rw [e,Nat.zero_mul])).app (.cons (fun e=>q (congrArg _ e)) .nil)
theorem LgU.rule {r:R} (hr:r∈rs) (h:Jn (LgU rs tc) r.r w):LgU rs tc r.l w:=fun P h1 h2=>h2 r hr w (h.mono fun u0 u0 q=>q P h1 h2)
theorem j0:solid nl (r++[x])=if isB nl x then solid nl r else solid nl r++[x]:=by
 unfold solid
 rw [List.filter_append]
 by_cases e:isB nl x
 ·rw [if_pos e,List.filter_cons_of_neg (by rw [e];exact Bool.false_ne_true)];exact List.append_nil _
 ·rw [if_neg e,List.filter_cons_of_pos (congrArg _ (Bool.eq_false_iff.mpr e))];rfl
theorem sQ (hn:∀ s,c s []≠0→isB nl s):cs c r []≠0→solid nl r=[]:=by
 induction r using gS with
 | h0=>exact fun u0=>rfl
 | h1 l x ih=>
  rw [dY,qX,j0]
  intro h
  rw [if_pos (hn x fun e=>h (congrArg _ e))]
  exact ih fun e=>h (by rw [e,Nat.zero_mul])
theorem uq (h:∀ x v,¬ (x=s∧v.length=m)→c x v=c' x v) (hn:∀ s,c s []≠0→isB nl s) (hn':∀ s,c' s []≠0→isB nl s):∀ w:Word,w.length≤m→cs c r w≠cs c' r w→w.length=m∧s∈r∧(solid nl r).length=if isB nl s then 0 else 1:=by
 induction r using gS with
 | h0=>exact fun u0 u0 h=>absurd rfl h
 | h1 l x ih=>
  intro w hw q0
  rw [dY,dY] at q0
  obtain ⟨u,v,rfl,q⟩:=su q0
  rw [List.length_append] at hw ⊢
  rw [j0]
  by_cases e:cs c l u=cs c' l u
  ·have hx:c x v≠c' x v:=fun e'=>q (by rw [e,e'])
   obtain ⟨rfl,hv⟩:=Decidable.not_not.mp fun q=>hx (h x v q)
   have hu:u=[]:=List.length_eq_zero_iff.mp (by lia)
   subst hu
   have hs:solid nl l=[]:=by
    by_cases e0:cs c l []=0
    ·rw [← e,e0,Nat.zero_mul,Nat.zero_mul] at q;exact absurd rfl q
    ·exact sQ hn e0
   refine ⟨hv▸Nat.zero_add _,List.mem_append_right _ List.mem_cons_self,?_⟩
   rw [hs]
   split <;> rfl
  ·obtain ⟨hu,hs,hl⟩:=ih u (Nat.le_trans (Nat.le_add_right ..) hw) e
   have hv:v=[]:=List.length_eq_zero_iff.mp (by lia)
   subst hv
   have hx:isB nl x:=by
    by_cases e1:c x []=0
    ·by_cases e2:c' x []=0
     ·rw [e1,e2] at q;exact absurd rfl q
     ·exact hn' x e2
    ·exact hn x e1
   exact ⟨hu,List.mem_append_left _ hs,(if_pos hx)▸hl⟩
theorem m5 (h:∀ r∈rs,r.l=s→cs c r.r w=cs c' r.r w):nx rs c s w=nx rs c' s w:=by
 unfold nx
 exact congrArg _ (List.map_congr_left fun r hr=>h r (List.mem_filter.mp hr).1 (eq_of_beq (List.mem_filter.mp hr).2))
theorem uR {N:Nat} {w:Word}:∀ {f:WF},(∀ u v,w=u++v→f u * g v≤N)→cv f g w≤(w.length+1) * N:=by
 induction w with
 | nil=>exact fun h=>Nat.le_trans (h [] [] rfl) (Nat.le_of_eq (Nat.one_mul _).symm)
 | cons a w ih=>exact fun h=>Nat.le_trans (Nat.add_le_add (h [] _ rfl) (ih fun u v e=>h (a::u) v (congrArg _ e))) (Nat.le_of_eq ((Nat.add_comm ..).trans (Nat.succ_mul ..).symm))
theorem wu {k N:Nat} (h:w.length≤3) (hk:k=N+2):(w.length+1) * 2 ^ N≤2 ^ k:=by
 subst hk
 rw [Nat.pow_add,Nat.mul_comm]
 exact Nat.mul_le_mul_left _ (Nat.succ_le_succ h)
theorem uB:dl w≤1:=by unfold dl;split <;> decide
theorem oW (h:∀ x w,w.length < m→c x w≤2 ^ a) (hm:m≤4):∀ w:Word,w.length < m→cs c r w≤2 ^ ((a+2) * r.length):=by
 induction r using gS with
 | h0=>exact fun w u0=>uB
 | h1 l x ih=>
  intro w hw
  rw [dY,List.length_append]
  refine Nat.le_trans (uR (N:=2 ^ ((a+2) * l.length+a)) fun u v e=>?_) (wu (by lia) (by rw [Nat.mul_add,List.length_singleton,Nat.mul_one,← Nat.add_assoc]))
  have:=congrArg List.length e
  rw [List.length_append] at this
  rw [Nat.pow_add]
  exact Nat.mul_le_mul (ih u (by lia)) (h x v (by lia))
theorem uA (hm:0 < m) (h3:m≤3) (hB:Bnd c m a b):∀ w:Word,w.length=m→cs c r w≤2 ^ (b+(a+2) * r.length):=by
 induction r using gS with
 | h0=>exact fun w u0=>Nat.le_trans uB (Nat.one_le_two_pow)
 | h1 l x ih=>
  intro w hw
  rw [dY,List.length_append]
  refine Nat.le_trans (uR (N:=2 ^ (b+(a+2) * l.length+a)) fun u v e=>?_) (wu (by lia) (by rw [Nat.mul_add,List.length_singleton,Nat.mul_one,← Nat.add_assoc,← Nat.add_assoc]))
  have:=congrArg List.length e
  have this:=List.length_append▸this
  by_cases hu:u.length=m
  ·rw [Nat.pow_add]
   exact Nat.mul_le_mul (ih u hu) (hB.lt x v (by lia))
  ·have h1:=oW (r:=l) hB.lt (Nat.le_succ_of_le h3) u (by lia)
   by_cases hv:v.length=m
   ·refine Nat.le_trans (Nat.mul_le_mul h1 (hB.eq x v hv)) ?_
    rw [← Nat.pow_add]
    exact Nat.pow_le_pow_right (by decide) (by lia)
   ·refine Nat.le_trans (Nat.mul_le_mul h1 (hB.lt x v (by lia))) ?_
    rw [← Nat.pow_add]
    exact Nat.pow_le_pow_right (by decide) (by lia)
theorem cT {i j:Nat} (h:i≤j):gn m a i≤gn m a j:=by
 induction h with
 | refl=>exact Nat.le_refl _
 | @step j _ ih=>refine Nat.le_trans ih ?_;show _≤ml m a _;unfold ml;split <;> lia
theorem nz {N:Nat}:∀ {l:List Nat},(∀ x∈l,x≤N)→l.sum≤l.length * N:=by
 intro l
 induction l with
 | nil=>
  exact @fun u0=>Nat.zero_le _
 | cons x l ihq=>
  intro h
  rw [List.sum_cons,List.length_cons,Nat.add_mul,Nat.one_mul,Nat.add_comm]
  exact Nat.add_le_add (ihq fun y hy=>h y (List.mem_cons_of_mem _ hy)) (h x List.mem_cons_self)
theorem wm (h64:rs.length≤64) (h5:∀ r∈rs,r.r.length≤5) (h3:m≤3) (hB:Bnd c m a b) (hw:w.length=m):nx rs c s w≤2 ^ ml m a b:=by
 obtain ⟨e,h1,h2⟩:∃ e,ml m a b=6+e∧∀ r∈rs,cs c r.r w≤2 ^ e:=by
  match m with
  | 0=>
   refine ⟨5 * (b+2),Nat.add_comm .., fun r hr=>Nat.le_trans (oW (m:=1) (a:=b) (fun x w hw=>hB.eq x w (by lia)) (by decide) w (by lia)) (Nat.pow_le_pow_right (by decide) ?_)⟩
   rw [Nat.mul_comm];exact Nat.mul_le_mul_right _ (h5 r hr)
  | m+1=>
   refine ⟨b+5 * (a+2),Nat.add_comm .., fun r hr=>Nat.le_trans (uA (Nat.succ_pos _) h3 hB w hw) (Nat.pow_le_pow_right (by decide) ?_)⟩
   rw [Nat.mul_comm];exact Nat.add_le_add_left (Nat.mul_le_mul_right _ (h5 r hr)) _
 rw [h1,Nat.pow_add]
 refine Nat.le_trans (nz (N:=2 ^ e) fun x hx=>?_) (Nat.mul_le_mul_right _ ?_)
 ·obtain ⟨r,hr,rfl⟩:=List.mem_map.mp hx
  exact h2 r (List.mem_filter.mp hr).1
 ·rw [List.length_map];exact Nat.le_trans (List.length_filter_le ..) h64
theorem oY {x e:Nat} (h:x≤2 ^ e):eU (x:Int)≤e+1:=by
 unfold eU
 refine (Int.natAbs_natCast ..)▸?_
 split
 ·exact Nat.zero_le _
 ·rename_i q
  have hx:x≠0:=fun e=>q (by rw [e];rfl)
  refine Nat.succ_le_succ ?_
  exact Nat.le_of_lt_succ ((Nat.log2_lt hx).mpr (Nat.lt_of_le_of_lt h (Nat.pow_lt_pow_right (by decide) (Nat.lt_succ_self _))))
theorem tn (h:m≤3):gQ m≤999744∧gn m (gQ m) 4≤19994944:=by
 exact (by decide:∀ m,m < 4→gQ m≤999744∧gn m (gQ m) 4≤19994944) m (Nat.lt_succ_of_le h)
theorem TcI.mul {tc i:Nat} {o:List Nat} (h:TcI rs nl tc o m i c) (hi:i≤4) (h3:m≤3) {pre:List Nat} (h5:pre.length≤5) (hu:u.length≤m) (hv:v.length≤m):kR (cs c pre u:Nat) (c x v:Nat):=by
 obtain ⟨c1,c2⟩:=tn h3
 have hb:=Nat.le_trans (cT (m:=m) (a:=gQ m) hi) c2
 have hB:=h.bd
 have hb0:m=0→gn m (gQ m) i≤2496:=fun e=>by subst e;exact Nat.le_trans (cT (j:=4) hi) (by decide)
 generalize gn m (gQ m) i=b at hB hb hb0
 generalize gQ m=a at hB c1
 have h1:cs c pre u≤2 ^ (b+(a+2) * 5+12490):=by
  by_cases e:u.length=m
  ·match m,h3,hB with
   | 0,_,hB=>exact Nat.le_trans (oW (m:=1) (a:=b) (fun x w hw=>hB.eq x w (by lia)) (by decide) u (by lia)) (Nat.pow_le_pow_right (by decide) (Nat.le_trans (Nat.mul_le_mul_left _ h5) (by have:=hb0 rfl;lia)))
   | m+1,h3,hB=>exact Nat.le_trans (uA (Nat.succ_pos _) h3 hB u e) (Nat.pow_le_pow_right (by decide) (Nat.le_trans (Nat.add_le_add_left (Nat.mul_le_mul_left _ h5) _) (Nat.le_add_right ..)))
  ·exact Nat.le_trans (oW hB.lt (by lia) u (by lia)) (Nat.pow_le_pow_right (by decide) (Nat.le_trans (Nat.mul_le_mul_left _ h5) (by lia)))
 have h2:c x v≤2 ^ (a+b):=by
  by_cases e:v.length=m
  ·exact Nat.le_trans (hB.eq x v e) (Nat.pow_le_pow_right (by decide) (Nat.le_add_left ..))
  ·exact Nat.le_trans (hB.lt x v (by lia)) (Nat.pow_le_pow_right (by decide) (Nat.le_add_right ..))
 have:=oY h1
 have:=oY h2
 exact .inr (.inr (by lia))
end
end Mine
namespace Mine
open PySem PySem.Calls PyProof.Rows PySem.SeqAt PySem.W
section
variable {n m i L x s tc N:Nat} {c:Nat→WF} {nl:List Bool} {rs:List R} {o:List Nat}
theorem uG {w:Word}:tm x w≤1:=by unfold tm;split <;> decide
theorem vH (h:x < 16):Low (tm x):=fun w q y hy=>by
 unfold tm at q
 by_cases e:w=[x]
 ·subst e;exact List.mem_singleton.mp hy▸h
 ·rw [if_neg e] at q;exact absurd rfl q
theorem TcI.zero (h16:tc≤16):TcI rs nl tc o 0 0 fun x=>if x < tc then Mine.tm x else fun u0=>0:=by
 have dn:∀ s m',¬ ej o 0 0 s m':=fun s m' h=>h.2.elim (Nat.not_lt_zero _) fun q=>aE q.2
 refine ⟨fun x h=>if_pos h,fun s w h q=>absurd (congrFun (if_neg (Nat.not_lt_of_le h)) w) q,fun s w h=>absurd h (dn _ _),fun s q=>?_,fun x=>?_,fun s w q=>?_,⟨nofun,fun x w hw=>?_⟩⟩
 ·split at q <;> exact absurd rfl q
 ·split
  ·exact vH (Nat.lt_of_lt_of_le ‹_› h16)
  ·exact fun u0 q=>absurd rfl q
 ·by_cases e:s < tc
  ·have q:=(if_pos e)▸q
   unfold Mine.tm at q
   by_cases e':w=[s]
   ·exact e'▸fun P h1 u0=>h1 s e
   ·rw [if_neg e'] at q;exact absurd rfl q
  ·rw [if_neg e] at q;exact absurd rfl q
 ·split
  ·exact uG
  ·exact Nat.zero_le _
theorem qS {w:Word} (h:nx rs c s w≠0):∃ r∈rs,r.l=s∧cs c r.r w≠0:=Classical.byContradiction fun q=>h (by
 refine Nat.le_zero.mp (Nat.le_trans (nz (N:=0) fun x hx=>?_) (Nat.le_of_eq (Nat.mul_zero _)))
 obtain ⟨r,hr,rfl⟩:=List.mem_map.mp hx
 obtain ⟨h1,h2⟩:=List.mem_filter.mp hr
 exact Nat.le_of_eq (Classical.byContradiction fun q'=>q ⟨r,h1,eq_of_beq h2,q'⟩))
theorem ej.mono {m':Nat} (h:ej o m i s m'):ej o m (i+1) s m':=⟨h.1,h.2.imp_right fun q=>⟨q.1,by rw [List.take_add_one];exact List.mem_append_left _ q.2⟩⟩
theorem UoM.not {Nd:Nat→Nat→Prop} {t:Nat} (um:UoM Nd tc N o) (hs:o[i]? = some s) (ht:t∈o.take (i+1)):¬ Nd t s:=fun hn=>by
 obtain ⟨j,hj⟩:=List.mem_iff_getElem?.mp ht
 have hj1:=(List.getElem?_eq_some_iff.mp hj).1
 rw [List.length_take] at hj1
 have hj2:j < i+1:=Nat.lt_of_lt_of_le hj1 (Nat.min_le_left ..)
 have hj:=(Eq.symm (List.getElem?_take_of_lt hj2)).trans hj
 obtain ⟨k,hk⟩:=List.mem_iff_getElem?.mp (um.ord j t hj s hn)
 have hk1:=(List.getElem?_eq_some_iff.mp hk).1
 rw [List.length_take] at hk1
 have hk2:k < j:=Nat.lt_of_lt_of_le hk1 (Nat.min_le_left ..)
 rw [List.getElem?_take_of_lt hk2] at hk
 have:=(List.getElem?_inj (List.getElem?_eq_some_iff.mp hk).1 um.nd).mp (hk.trans hs.symm)
 exact Nat.lt_irrefl _ (this▸Nat.lt_of_lt_of_le hk2 (Nat.le_of_lt_succ hj2))
theorem TcI.step (h:TcI rs nl tc o m i c) (um:UoM (fG rs nl tc) tc N o) (hs:o[i]? = some s) (hc:∀ r∈rs,solid nl r.r=[]→isB nl r.l) (h64:rs.length≤64) (h5:∀ r∈rs,r.r.length≤5) (h3:m≤3):TcI rs nl tc o m (i+1) (upd c s m (nx rs c s)):=by
 have hsm:=List.mem_of_getElem? hs
 have hst:=(um.rg s hsm).1
 have hdiff:∀ x v,¬ (x=s∧v.length=m)→c x v=upd c s m (nx rs c s) x v:=fun x v q=>(if_neg q).symm
 have hsi:s∈o.take (i+1):=by rw [List.take_add_one,hs];exact List.mem_append_right _ List.mem_cons_self
 have hnul:∀ t,upd c s m (nx rs c s) t []≠0→isB nl t:=fun t q=>by
  by_cases e:t=s∧([]:Word).length=m
  ·unfold upd at q
   rw [if_pos e] at q
   obtain ⟨r,hr,h1,h2⟩:=qS q
   exact e.1▸h1▸hc r hr (sQ h.nul h2)
  ·rw [← hdiff t _ e] at q;exact h.nul t q
 have stab:∀ t (w:Word),w.length≤m→(w.length=m→t∈o.take (i+1))→nx rs c t w=nx rs (upd c s m (nx rs c s)) t w:=fun t w hw ht=>m5 fun r hr hl=>Classical.byContradiction fun q=>by
  obtain ⟨h1,h2,h3⟩:=uq hdiff h.nul hnul w hw q
  exact um.not hs (ht h1) ⟨r,hr,hl,h2,hst,h3⟩
 refine ⟨fun x hx=>?_,fun t w ht q=>?_,fun t w hd=>?_,hnul,fun x w q=>?_,fun x w q=>?_,⟨fun x w hw=>?_,fun x w hw=>?_⟩⟩
 ·exact (funext fun w=>(hdiff x w fun e=>Nat.not_lt_of_le hst (e.1▸hx)).symm).trans (h.tm x hx)
 ·by_cases e:t=s∧w.length=m
  ·exact ⟨e.1▸hsm,.inr ⟨e.2,e.1▸hsi⟩⟩
  ·rw [← hdiff t w e] at q;exact (h.z t w ht q).mono
 ·refine (stab t w (hd.2.elim Nat.le_of_lt fun q=>Nat.le_of_eq q.1) fun e=>(hd.2.resolve_left fun q=>Nat.ne_of_lt q e).2)▸?_
  by_cases e:t=s∧w.length=m
  ·exact (if_pos e).trans (e.1▸rfl)
  ·refine (hdiff t w e)▸?_
   refine h.eq t w ⟨hd.1,hd.2.imp_right fun q=>⟨q.1,?_⟩⟩
   have:=q.2
   rw [List.take_add_one,hs] at this
   exact (List.mem_append.mp this).resolve_right fun q'=>e ⟨List.mem_singleton.mp q',q.1⟩
 ·by_cases e:x=s∧w.length=m
  ·unfold upd at q
   rw [if_pos e] at q
   obtain ⟨r,_,_,h2⟩:=qS q
   exact ki h.low w h2
  ·rw [← hdiff x w e] at q;exact h.low x w q
 ·by_cases e:x=s∧w.length=m
  ·unfold upd at q
   rw [if_pos e] at q
   obtain ⟨r,hr,h1,h2⟩:=qS q
   exact e.1▸h1▸.rule hr ((wU w h2).mono h.lg)
  ·rw [← hdiff x w e] at q;exact h.lg x w q
 ·exact (hdiff x w fun e=>Nat.ne_of_lt hw e.2)▸h.bd.lt x w hw
 ·by_cases e:x=s∧w.length=m
  ·exact Nat.le_trans (Nat.le_of_eq (if_pos e)) (wm h64 h5 h3 h.bd hw)
  ·exact (hdiff x w e)▸Nat.le_trans (h.bd.eq x w hw) (Nat.pow_le_pow_right (by decide) (cT (Nat.le_succ i)))
theorem TcI.next (h:TcI rs nl tc o m o.length c) (h4:o.length≤4):TcI rs nl tc o (m+1) 0 c:=by
 have hcap:gQ m≤gQ (m+1):=by
  cases m with
  | zero=>exact Nat.zero_le _
  | succ m=>refine Nat.le_trans ?_ (cT (i:=1) (j:=4) (by decide));show _≤0+5 * (gQ (m+1)+2)+6;lia
 refine ⟨h.tm,fun s w hs q=>?_,fun s w hd=>h.eq s w ⟨hd.1,?_⟩,h.nul,h.low,h.lg,⟨fun x w hw=>?_,fun x w hw=>?_⟩⟩
 ·have:=h.z s w hs q
  exact ⟨this.1,.inl (Nat.lt_succ_of_le (this.2.elim Nat.le_of_lt fun q=>Nat.le_of_eq q.1))⟩
 ·have:=hd.2.resolve_right fun q=>aE q.2
  exact (Nat.lt_succ_iff_lt_or_eq.mp this).imp_right fun q=>⟨q,by rw [List.take_length];exact hd.1⟩
 ·rcases Nat.lt_succ_iff_lt_or_eq.mp hw with q | q
  ·exact Nat.le_trans (h.bd.lt x w q) (Nat.pow_le_pow_right (by decide) hcap)
  ·exact Nat.le_trans (h.bd.eq x w q) (Nat.pow_le_pow_right (by decide) (cT h4))
 ·by_cases e:x < tc
  ·rw [h.tm x e];exact uG
  ·refine Nat.le_trans (Nat.le_of_eq (Classical.byContradiction fun q=>?_)) (Nat.zero_le _)
   have:=(h.z x w (Nat.le_of_not_lt e) q).2
   lia
structure Tal0 (rs:List R) (tc N:Nat) (c:Nat→WF):Prop where
 tm:∀ x,x < tc→c x=tm x
 eq:∀ s,tc≤s→s < N→∀ w,w.length≤3→c s w=nx rs c s w
 nul:∀ s,s < N→c s []≠0→Der rs (fun u0=>False) s
structure mx (rs:List R) (tc N:Nat) (c:Nat→WF):Prop extends Tal0 rs tc N c where
 lg:∀ s w,c s w≠0→LgU rs tc s w
theorem TcI.tally (h:TcI rs nl tc o 4 0 c) (hall:∀ s,s∈o↔tc≤s∧s < N) (hn:∀ s,s < N→isB nl s→Der rs (fun u0=>False) s):mx rs tc N c:=⟨⟨h.tm,fun s h1 h2 w hw=>h.eq s w ⟨(hall s).mpr ⟨h1,h2⟩,.inl (Nat.lt_succ_of_le hw)⟩,fun s hs q=>hn s hs (h.nul s q)⟩,h.lg⟩
theorem nS {j:Nat} (h:(aP rs s)[j]? = some i):∃ r,rs[i]? = some r∧(rs.filter (·.l == s))[j]? = some r:=by
 unfold aP at h
 rw [List.getElem?_map] at h
 obtain ⟨⟨r,i'⟩,hx,rfl⟩:=Option.map_eq_some_iff.mp h
 have hm:=(List.mem_filter.mp (List.mem_of_getElem? hx)).1
 have e:rs.filter (·.l == s)=(rs.zipIdx.filter fun x=>x.1.l == s).map (·.1):=by
  have:=List.filter_map (f:=fun x:R × Nat=>x.1) (p:=fun r:R=>r.l == s) (l:=rs.zipIdx)
  rw [List.zipIdx_map_fst] at this
  exact this
 refine ⟨r,?_,?_⟩
 ·exact List.mk_mem_zipIdx_iff_getElem?.mp hm
 ·rw [e,List.getElem?_map,hx];rfl
theorem l3:(aP rs s).length=(rs.filter (·.l == s)).length:=by
 have:=List.filter_map (f:=fun x:R × Nat=>x.1) (p:=fun r:R=>r.l == s) (l:=rs.zipIdx)
 rw [List.zipIdx_map_fst] at this
 rw [this,List.length_map];exact List.length_map ..
end
end Mine
namespace Mine
open PySem PySem.Calls PyProof.Rows PySem.SeqAt PySem.W
section
variable {W:Wd} {n k i j:Nat} {Q:D→Nat→Prop} {X:Nat→Prop} {g:Gr} {c:Cx} {ρ:List Sl} {l:Lv} {tc L m s:Nat} {C:Nat→WF} {o:List Nat}
structure TcT (o:List Nat) (m i:Nat) (pw:AL) (C:Nat→WF):Prop where
 ks:dc pw fun w=>∃ s m',w=[s,m']∧ej o m i s m'
 vl:∀ s m',ej o m i s m'→∃ ps,aY pw (tk [s,m'])=some (dD ps)∧bJ ps fun w=>if w.length=m' then C s w else 0
inductive TcM (a:List Sl) (I:Nat→AL→(Nat→WF)→Prop) (k i:Nat):List Sl→Nat→Prop
 | mk {pw C} (x4 x5 x6 x7 x8 x9 x10:Sl):I i pw C→TcM a I k i (a++[.own (dO pw),x4,x5,x6,x7,x8,x9,x10]) k
inductive TcS (a:List Sl) (I:Nat→AL→(Nat→WF)→Prop) (z4:Sl) (k i:Nat):List Sl→Nat→Prop
 | mk {pw C} (x5 x6 x7 x8 x9 x10:Sl):I i pw C→TcS a I z4 k i (a++[.own (dO pw),z4,x5,x6,x7,x8,x9,x10]) k
inductive TcR (a:List Sl) (F:Nat→WF) (k i:Nat):List Sl→Nat→Prop
 | mk {f} (x7 x8 x9 x10:Sl):bJ f (F i)→TcR a F k i (a++[.own (dO f),x7,x8,x9,x10]) k
inductive TcW (a:List Sl) (z7 z8:Sl) (F:WF) (k:Nat):List Sl→Nat→Prop
 | mk {f} (x9 x10:Sl):bJ f F→TcW a z7 z8 F k (a++[.own (dO f),z7,z8,x9,x10]) k
theorem TcT.wt {rs:List R} {nl:List Bool} {pw:AL} (h:TcT o m i pw C) (t:TcI rs nl tc o m i C):WT tc m pw C:=by
 refine ⟨fun p hp=>?_,fun s m' hs hm=>?_,t.tm⟩
 ·obtain ⟨w,_,e⟩:=(h.ks.mem p.1).mp (List.mem_map_of_mem hp)
  refine e▸?_;rfl
 ·by_cases q:ej o m i s m'
  ·obtain ⟨ps,h1,h2⟩:=h.vl s m' q
   exact ⟨ps,h1▸rfl,h2⟩
  ·refine ⟨[],?_,.nil fun w=>?_⟩
   ·have:aY pw (tk [s,m'])=none:=by
     cases e:aY pw (tk [s,m']) with
     | none=>rfl
     | some d=>
      obtain ⟨s1,m1,e1,q1⟩:=h.ks.has.mp (congrArg _ e)
      injection e1 with z0a z0b;try subst z0a;injection z0b with z1a z1b;try subst z1a;exact absurd q1 q
    refine this▸?_;rfl
   ·by_cases e:w.length=m'
    ·rw [if_pos e];exact Classical.byContradiction fun q'=>q (e▸t.z s w hs q')
    ·rw [if_neg e]
theorem TcT.step {pw:AL} {F:WF} {ps:AL} (h:TcT o m i pw C) (hs:o[i]? = some s) (nd:o.Nodup) (hp:bJ ps fun w=>if w.length=m then F w else 0):TcT o m (i+1) (cw pw (tk [s,m]) (dD ps)) (upd C s m F):=by
 have hsm:=List.mem_of_getElem? hs
 have dn:∀ t m',ej o m (i+1) t m'↔ej o m i t m'∨(t=s∧m'=m):=fun t m'=>by
  unfold ej
  rw [List.take_add_one,hs,List.mem_append]
  exact ⟨fun zz0=>by obtain ⟨h1,h2⟩:=zz0;exact h2.elim (fun q=>.inl ⟨h1,.inl q⟩) fun q=>q.2.elim (fun r=>.inl ⟨h1,.inr ⟨q.1,r⟩⟩) fun r=>.inr ⟨List.mem_singleton.mp r,q.1⟩,fun h=>h.elim (fun zz1=>by obtain ⟨h1,h2⟩:=zz1;exact ⟨h1,h2.imp_right fun q=>⟨q.1,.inl q.2⟩⟩) fun q=>⟨q.1▸hsm,.inr ⟨q.2,.inr (List.mem_singleton.mpr q.1)⟩⟩⟩
 refine ⟨h.ks.add.congr fun w=>?_,fun t m' q=>?_⟩
 ·exact ⟨fun q=>q.elim (fun zz2=>by obtain ⟨t,m',e,q⟩:=zz2;exact ⟨t,m',e,(dn t m').mpr (.inl q)⟩) fun e=>⟨s,m,e,(dn s m).mpr (.inr ⟨rfl,rfl⟩)⟩,fun zz3=>by obtain ⟨t,m',e,q⟩:=zz3;exact ((dn t m').mp q).imp (fun q=>⟨t,m',e,q⟩) fun q=>by rw [e,q.1,q.2]⟩
 ·by_cases e:t=s∧m'=m
  ·obtain ⟨rfl,rfl⟩:=e
   exact ⟨ps,fz,hp.congr fun w=>by
    by_cases e:w.length=m'
    ·rw [if_pos e,if_pos e];exact (if_pos ⟨rfl,e⟩).symm
    ·rw [if_neg e,if_neg e]⟩
  ·obtain ⟨ps',h1,h2⟩:=h.vl t m' (((dn t m').mp q).resolve_right e)
   refine ⟨ps',by rw [iX fun q=>e (by have:=eQ q;injection this with z0a z0b;try subst z0a;injection z0b with z1a z1b;try subst z1a;exact ⟨rfl,rfl⟩)];exact h1,h2.congr fun w=>?_⟩
   by_cases e':w.length=m'
   ·rw [if_pos e',if_pos e'];exact (if_neg fun q=>e ⟨q.1,e'▸q.2⟩).symm
   ·rw [if_neg e',if_neg e']
theorem ej.next {m':Nat}:ej o (m+1) 0 s m'↔ej o m o.length s m':=by
 unfold ej
 rw [List.take_length]
 exact and_congr_right fun hs=>⟨fun h=>(Nat.lt_succ_iff_lt_or_eq.mp (h.resolve_right fun q=>aE q.2)).imp_right fun q=>⟨q,hs⟩,fun h=>.inl (Nat.lt_succ_of_le (h.elim Nat.le_of_lt fun q=>Nat.le_of_eq q.1))⟩
theorem TcT.next {pw:AL} (h:TcT o m o.length pw C):TcT o (m+1) 0 pw C:=⟨h.ks.congr fun w=>exists_congr fun s=>exists_congr fun m'=>and_congr_right fun u0=>ej.next.symm,fun s m' q=>h.vl s m' (ej.next.mp q)⟩
theorem tO {rl:List R} {w:Word} (hm:m≤3) (hC:∀ x,Low (C x)) (h:(if w.length=m then (rl.map fun r=>cs C r.r w).sum else 0)≠0):w.length≤3∧∀ x∈w,x < 16:=by
 split at h
 ·refine ⟨‹w.length=m›▸hm,Classical.byContradiction fun q=>h (Nat.le_zero.mp (Nat.le_trans (nz (N:=0) fun x hx=>?_) (Nat.le_of_eq (Nat.mul_zero _))))⟩
  obtain ⟨r,_,rfl⟩:=List.mem_map.mp hx
  exact Nat.le_of_eq (Classical.byContradiction fun q'=>q (ki hC w q'))
 ·exact absurd rfl h
structure TcB (rs:List R) (nl:List Bool) (tc:Nat) (o:List Nat) (m i:Nat) (pw:AL) (C:Nat→WF):Prop where
 t:TcT o m i pw C
 i:TcI rs nl tc o m i C
noncomputable def pX (g:Gr):Prop:=∃ (nl:List Bool) (o:List Nat),(∀ s,s < g.names.length→(isB nl s↔Der g.rules (fun u0=>False) s))∧UoM (fG g.rules nl g.tc) g.tc g.names.length o∧∀ s,s∈o↔g.tc≤s∧s < g.names.length
noncomputable def o8 (g:Gr):Prop:=∃ nl:List Bool,(∀ s,s < g.names.length→(isB nl s↔Der g.rules (fun u0=>False) s))∧v7 g.rules nl g.tc g.names.length
theorem l9 (p:Prg W) (hq:W.qt=true) (hg:g.Ok) (h4:g.names.length≤g.tc+4) (h5:∀ r∈g.rules,r.r.length≤5) (r0:R) (st:Nat) (hr0:g.rules[0]? = some r0) (hst:r0.r[0]? = some st) (htc:g.tc≤st)
  (q:∀ C fs,pX g→mx g.rules g.tc g.names.length C→(∃ ps:Nat→AL,fs=(List.range 4).map (fun m=>dD (ps m))∧∀ m,m < 4→bJ (ps m) fun w=>if w.length=m then C st w else 0)→Q (.lst fs) k)
  (hX:o8 g→X k):a7 W (n+4) .treeCounts [.im g.D,.im (.int 3)] k Q X:=p.run .treeCounts rfl rfl 9 fun S0 h0 pen A env=>by
 have n64:=g64 hg
 refine uh 2 (jD (f:=.unitOrder) (.im (aa (i:=0) rfl rfl) .nil) (mq (n:=n) p hq hg _ rfl (fun nl o hnl hn um hall=>?_) fun nl hnl hn hR=>hX ⟨nl,hn,hR⟩) rfl rfl rfl rfl) rfl rfl
 have hol:o.length≤4:=Nat.le_trans um.len (by lia)
 have hcl:∀ r∈g.rules,solid nl r.r=[]→isB nl r.l:=fun r hr hs=>(hn _ (hg.l r hr)).mpr (.rule hr fun x hx=>(hn x (hg.r r hr x hx)).mp (Decidable.byContradiction fun q=>by
  have:x∈solid nl r.r:=List.mem_filter.mpr ⟨hx,congrArg _ (Bool.eq_false_iff.mpr q)⟩
  have this:=hs▸this;cases this))
 refine aQ 3 (cn ?_) (.inl rfl) rfl rfl
 refine cO (TcM [.im g.D,.im (.int 3),.im (.lst (ao o))] (fun m=>TcB g.rules nl g.tc o m 0) k) (cC (l:=.im) (m:=4) (aV (aa (i:=1) rfl rfl) ar .add) (Nat.le_of_ble_eq_true rfl) rfl rfl) (.mk (pw:=[]) _ _ _ _ _ _ _ ⟨⟨dc.nil.congr fun w=>?_,?_⟩,.zero (Nat.le_trans hg.tc hg.n)⟩) nofun (fun u0=>rfl) (fun m d ρ k' hd h=>?_) fun ρ k' h=>?_
 ·exact ⟨False.elim,fun zz4=>by obtain ⟨s,m',_,q⟩:=zz4;exact q.2.elim (Nat.not_lt_zero _) fun q=>nomatch q.2⟩
 ·exact fun s m' q=>(q.2.elim (Nat.not_lt_zero _) fun q=>nomatch q.2).elim
 ·apply hU hd;intro hm
  induction h with
  | @mk pw C x4 x5 x6 x7 x8 x9 x10 hI=>
  refine ⟨_,.one (i:=4) rfl .im,aN (TcS [.im g.D,.im (.int 3),.im (.lst (ao o))] (fun i=>TcB g.rules nl g.tc o m i) (.im (.int m)) k) (aa (l:=.im) (i:=2) rfl rfl) .lst (.mk x5 x6 x7 x8 x9 x10 hI) nofun (fun u0=>rfl) (fun i d ρ k' hd h=>?_) fun ρ k' h=>?_⟩
  ·apply aT hd;intro s hs
   obtain ⟨hst,hsN⟩:=(hall s).mp (List.mem_of_getElem? hs)
   induction h with
   | @mk pw C x5 x6 x7 x8 x9 x10 hI=>
   refine ⟨_,.one (i:=5) rfl .im,aQ 6 (cn ?_) (.inl rfl) rfl rfl⟩
   have hm3:=Nat.le_of_lt_succ hm
   have hil:i < 4:=by
    have:=(List.getElem?_eq_some_iff.mp hs).1
    exact Nat.lt_of_lt_of_le this hol
   have hwt:=hI.t.wt hI.i
   have hlow:∀ j,Sup fun w=>if w.length=m then (((g.rules.filter (·.l == s)).take j).map fun r=>cs C r.r w).sum else 0:=fun j w q=>tO hm3 hI.i.low q
   refine cO (TcR [.im g.D,.im (.int 3),.im (.lst (ao o)),.own (dO pw),.im (.int m),.im (.int s)] (fun j w=>if w.length=m then (((g.rules.filter (·.l == s)).take j).map fun r=>cs C r.r w).sum else 0) k) ((i0 (l:=.im) (f:=.rulesOf) (aa (i:=0) rfl rfl) (.im (aa (i:=5) rfl rfl) .nil) ((pS (n:=0) p hg hsN).mono (Nat.le_add_left ..)) rfl rfl rfl rfl (Nat.le_of_ble_eq_true rfl) rfl rfl).src .lst) (.mk (f:=[]) x7 x8 x9 x10 (.nil fun w=>ite_self _)) nofun (fun u0=>rfl) (fun j d ρ k' hd h=>?_) fun ρ k' h=>?_
   ·apply aT hd;intro b hb
    obtain ⟨r,hr,hrl⟩:=nS hb
    have hrm:=List.mem_of_getElem? hr
    have hb62:b < 2 ^ 62:=cP (Nat.le_trans (Nat.le_of_lt (List.getElem?_eq_some_iff.mp hr).1) hg.rs)
    have hjl:=hlow j
    have hjn:∀ w,(if w.length=m then (((g.rules.filter (·.l == s)).take (j+1)).map fun r=>cs C r.r w).sum else 0)=(if w.length=m then (((g.rules.filter (·.l == s)).take j).map fun r=>cs C r.r w).sum else 0)+if w.length=m then cs C r.r w else 0:=fun w=>by
     rw [List.take_add_one,hrl]
     split
     ·rw [List.map_append,List.sum_append];rfl
     ·rfl
    induction h with
    | @mk f x7 x8 x9 x10 hf=>
    have hf:bJ f fun w=>if w.length=m then (((g.rules.filter (·.l == s)).take j).map fun r=>cs C r.r w).sum else 0:=hf
    generalize hF:(fun w:Word=>if w.length=m then (((g.rules.filter (·.l == s)).take j).map fun r=>cs C r.r w).sum else 0)=F at hjl hf
    refine ⟨_,.one (i:=7) rfl .im,bU 8 (aS (f:=.wordsOver) (.im (aa (i:=0) rfl rfl) (.im (ax (ay (ax (aa (i:=0) rfl rfl) cq rfl) (aa (i:=7) rfl rfl) (.lst hb62 (ig hr)) rfl) cg rfl) (.im (aa (i:=4) rfl rfl) (.vw (qU (i:=3) rfl rfl) .nil)))) (my (n:=n+1) p hg hm3 hwt r.r (hg.r r hrm) (fun a x b e u v hu hv=>hI.i.mul (Nat.le_of_lt hil) hm3 (Nat.le_trans (by rw [e,List.length_append];exact Nat.le_add_right ..) (h5 r hrm)) hu hv) hI.i.low fun ps hps=>?_) rfl rfl rfl rfl) rfl rfl⟩
    have hsl:Sup fun w=>if w.length=m then cs C r.r w else 0:=fun w q=>by
     have q:(if w.length=m then cs C r.r w else 0)≠0:=q
     split at q
     ·exact ⟨‹w.length=m›▸hm3,ki hI.i.low w q⟩
     ·exact absurd rfl q
    generalize hS:(fun w:Word=>if w.length=m then cs C r.r w else 0)=sm at hps hsl
    refine aN (fun i'=>TcW [.im g.D,.im (.int 3),.im (.lst (ao o)),.own (dO pw),.im (.int m),.im (.int s)] (.im (.int b)) (.im (dD ps)) (fun w=>F w+tkF (ps.map (·.1)) i' sm w) k) (aa (l:=.im) (i:=8) rfl rfl) .dct (.mk x9 x10 (hf.congr fun w=>by rw [g0];rfl)) nofun (fun u0=>rfl) (fun i' d ρ k' hd h=>?_) fun ρ k' h=>?_
    ·obtain ⟨v,rfl,hv,hkv⟩:=hps.ks.at hd
     induction h with
     | @mk f x9 x10 hf=>
     refine ⟨_,.one (i:=9) rfl .im,b7 (k:=tk v) (d:=.int (F v+tkF (ps.map (·.1)) i' sm v+sm v:Nat)) 6 rfl (aV (nI hf (qU (i:=6) rfl rfl) (dp (i:=9) rfl rfl bZ.symm) rfl rfl rfl) (lj hps hv (aa (i:=8) rfl rfl) (dp (i:=9) rfl rfl bZ.symm) rfl) .add) (dp (i:=9) rfl rfl bZ.symm) hf.ks.kd (hf.len (hjl.add fun w q=>hsl w (lD q))) (aj (.mk _ _ (hf.add hv |>.congr fun w=>?_))) rfl rfl rfl⟩
     rw [eJ hps.ks.nd hkv,← Nat.add_assoc]
    ·induction h with
     | @mk f x9 x10 hf=>exact aj (.mk _ _ _ _ (hf.congr fun w=>by rw [hjn,iZ hps,← hF,← hS]))
   ·rw [ai,l3] at h
    induction h with
    | @mk f x7 x8 x9 x10 hf=>
    have hf:bJ f fun w=>if w.length=m then (((g.rules.filter (·.l == s)).take (g.rules.filter (·.l == s)).length).map fun r=>cs C r.r w).sum else 0:=hf
    have hf:=List.take_length▸hf
    refine dS 6 rfl rfl (b7 (k:=tk [s,m]) 3 rfl (aa (i:=6) rfl rfl) (dQ (aa (i:=5) rfl rfl) (aa (i:=4) rfl rfl) rfl) hI.t.ks.kd (Nat.le_trans (hI.t.ks.len fun w hw=>?_) (Nat.le_of_ble_eq_true rfl)) (aj (.mk _ _ _ _ _ _ ⟨hI.t.step hs um.nd hf,hI.i.step um hs hcl hg.rs h5 hm3⟩)) rfl rfl rfl)
    obtain ⟨t,m',rfl,hd⟩:=hw
    exact ⟨Nat.le_refl _,fun x hx=>(List.mem_cons.mp hx).elim (fun e=>e▸Nat.lt_of_lt_of_le ((hall t).mp hd.1).2 hg.n) fun hx=>List.mem_singleton.mp hx▸by
     have:=hd.2;lia⟩
  ·rw [ai] at h
   induction h with
   | @mk pw C x5 x6 x7 x8 x9 x10 hI=>exact aj (.mk (.im (.int m)) x5 x6 x7 x8 x9 x10 ⟨hI.t.next,hI.i.next hol⟩)
 ·rw [bq] at h
  induction h with
  | @mk pw C x4 x5 x6 x7 x8 x9 x10 hI=>
  have hstN:=hg.r r0 (List.mem_of_getElem? hr0) st (List.mem_of_getElem? hst)
  have hsto:=(hall st).mpr ⟨htc,hstN⟩
  obtain ⟨ps,hps⟩:=Classical.axiomOfChoice (r:=fun m ps=>m < 4→aY pw (tk [st,m])=some (dD ps)∧bJ ps fun w=>if w.length=m then C st w else 0) fun m=>by
   by_cases e:m < 4
   ·exact (hI.t.vl st m ⟨hsto,.inl e⟩).imp fun u0 h u0=>h
   ·exact ⟨[],fun q=>absurd q e⟩
  refine az 10 (ay (ax (ay (ax (aa (i:=0) rfl rfl) cq rfl) ar (.lst (i:=0) (by decide) (ig hr0)) rfl) cg rfl) ar (.tup (i:=0) (by decide) (bR hst)) rfl) ?_ rfl rfl
  refine dS 3 rfl rfl (d7 (EO.e1 (EC.eo (oq ((List.range 4).map fun m=>dD (ps m)) 1 [("words",3),("start",10),("many",12)] (cC (l:=.im) (m:=4) (aV (aa (i:=1) rfl rfl) ar .add) (Nat.le_of_ble_eq_true rfl) rfl rfl) (by rw [bq];decide) (by rw [bq,List.length_map,List.length_range]) (fun F s cl C' dd i d f zs hd hf=>?_) ?_ rfl (fun u0=>rfl)))))
  ·apply hU hd;intro hi
   rw [List.getElem?_map,List.getElem?_range hi] at hf
   cases hf
   exact ⟨_,.one (i:=12) rfl rfl .im,ay (aa (i:=3) rfl rfl) (dQ (aa (i:=10) rfl rfl) (aa (i:=12) rfl rfl) rfl) (.al (k:=tk [st,i]) hI.t.ks.kd (hps i hi).1) rfl⟩
  ·exact aH (kd:=.lst)▸q C _ ⟨nl,o,hn,um,hall⟩ (hI.i.tally hall fun s hs=>(hn s hs).mp) ⟨ps,rfl,fun m h=>(hps m h).2⟩
end
end Mine
namespace Mine
open PySem PySem.Calls PyProof.Rows PySem.SeqAt PySem.W
section
variable {W:Wd} {n k i j:Nat} {Q:D→Nat→Prop} {X:Nat→Prop} {g:Gr} {c:Cx} {ρ:List Sl} {l:Lv} {P:Post} {es:List Stmt} {e:Expr} {d:D} {cl:Cls} {ns:List Txt} {xs:List O} {z y:Str} {p1 ps pos:Pos}
noncomputable abbrev inO (cl:Cls) (m:Nat) (xs:List O):Sl:=.own (.node (.ins cl ((aI cl).take m)) xs)
theorem gY (m:Nat) {nm:Txt} (hz:ρ[0]? = some (inO cl m xs)) (h:EO c ρ k e fun o k'=>TB c (ρ.set 0 (inO cl (m+1) (xs++[o]))) k' es P) (hm:(aI cl)[m]? = some nm) (hn:((aI cl).take m).findIdx? (· == nm)=none) (hs:aO c z 0=true) (hacc:c.acc=none) (hy:y=strV nm) (hsw:∀ env,swapsWith e (some (.Attribute (.Name z p1) y ps)) pos.line env=pure false):TB c ρ k (.Assign [.Attribute (.Name z p1) y ps] e pos::es) P:=by
 have e:(aI cl).take (m+1)=(aI cl).take m++[nm]:=by rw [List.take_add_one,hm];rfl
 unfold inO at h
 rw [e] at h
 exact .seq (oA hsw hy hacc (List.getElem?_eq_some_iff.mp hz).1 (h.go.mono fun o k' q=>bI hs hz ⟨_,_,_,rfl,List.mem_of_getElem? hm,Nat.lt_of_le_of_lt (List.length_take_le _ _) (Nat.lt_trans (List.getElem?_eq_some_iff.mp hm).1 (by cases cl <;> decide)),hn,q⟩))
theorem bG (m:Nat) {nm:Txt} (hz:ρ[0]? = some (inO cl m xs)) (v:V c ρ k .im e d) (hm:(aI cl)[m]? = some nm) (hn:((aI cl).take m).findIdx? (· == nm)=none) (hs:aO c z 0=true) (hacc:c.acc=none) (hy:y=strV nm) (hsw:∀ env,swapsWith e (some (.Attribute (.Name z p1) y ps)) pos.line env=pure false) (h:TB c (ρ.set 0 (inO cl (m+1) (xs++[.leaf d]))) k es P):TB c ρ k (.Assign [.Attribute (.Name z p1) y ps] e pos::es) P:=gY m hz (v.eo h) hm hn hs hacc hy hsw
theorem kK {nm:Txt} {n:Str} {p2:Pos} (i j:Nat) (hz:ρ[i]? = some (.own (.node (.ins cl ns) xs))) (hs:aO c z i=true) (hn:n=strV nm) (hm:nm∈aI cl) (hi:ns.findIdx? (· == nm)=some j) (hx:xs[j]? = some (.leaf d)):V c ρ k .im (.Attribute (.Name z p1) n p2) d:=⟨fun u0 q=>ny hs hz hn hm hi hx q⟩
theorem oH (p:Prg W) {i:Nat} {r:R} (q:Q (r.D i) k):a7 W (n+2) .ruleInit [.im (.int i),.im (.int r.l),.im (.tup (ao r.r)),.im (.int r.lv)] k Q X:=p.yG (c:=.rule) .ruleInit rfl rfl rfl 0 fun S0 h0 pen a A env=>by
 refine bG 0 (xs:=[]) rfl (aa (i:=1) rfl rfl) rfl rfl rfl rfl rfl (fun u0=>rfl) ?_
 refine bG 1 rfl (aa (i:=2) rfl rfl) rfl rfl rfl rfl rfl (fun u0=>rfl) ?_
 refine bG 2 rfl (aa (i:=3) rfl rfl) rfl rfl rfl rfl rfl (fun u0=>rfl) ?_
 refine bG 3 rfl (aa (i:=4) rfl rfl) rfl rfl rfl rfl rfl (fun u0=>rfl) ?_
 refine bG 4 rfl (aa (i:=5) rfl rfl) rfl rfl rfl rfl rfl (fun u0=>rfl) ?_
 refine bG 5 rfl (aa (i:=6) rfl rfl) rfl rfl rfl rfl rfl (fun u0=>rfl) ?_
 exact bG 6 rfl (aa (i:=7) rfl rfl) rfl rfl rfl rfl rfl (fun u0=>rfl) (aj ⟨_,rfl,q⟩)
theorem pg {ds:List D} {n:Str} {nm:Txt} (i:Nat) (hn:n=strV nm) (hm:nm∈aI cl) (hi:ns.findIdx? (· == nm)=some i) (hx:ds[i]? = some d):iR c (.node (.ins cl ns) ds) n d:=⟨cl,_,ds,i,rfl,nm,hn,hm,hi,hx⟩
noncomputable def gO (g:Gr) (i:Nat) (ofs ows:List D):List O:=[.leaf (.lst (g.names.map .str)),.leaf (.int g.tc),.leaf (.lst (bc g.rules)),.leaf (.dct [] []),.leaf .nul,.leaf (.int g.start),.node .lst ((List.range g.names.length).map fun s=>.lst (ao (aP (g.rules.take i) s))),.lst ofs,.lst ows]
inductive GiJ (g:Gr) (a:List Sl) (k i:Nat):List Sl→Nat→Prop
 | mk {ofs ows} (x:Sl):ofs.length=i→ows.length≤9 * i→GiJ g a k i (inO .gram 9 (gO g i ofs ows)::(a++[x])) k
theorem lZ {rs:List R} {r:R} {s:Nat} (h:rs[i]? = some r):aP (rs.take (i+1)) s=if s=r.l then aP (rs.take i) s++[i] else aP (rs.take i) s:=by
 unfold aP
 have hi:=(List.getElem?_eq_some_iff.mp h).1
 rw [List.take_add_one,h,show (some r).toList=[r] from rfl,List.zipIdx_append,List.filter_append,List.map_append,List.length_take,Nat.min_eq_left (Nat.le_of_lt hi)]
 by_cases e:s=r.l
 ·rw [if_pos e]
  show _++(([(r,0+i)]:List (R × Nat)).filter _).map _=_
  rw [List.filter_cons_of_pos (p:=fun x:R × Nat=>x.1.l == s) (beq_iff_eq.mpr e.symm),Nat.zero_add];rfl
 ·rw [if_neg e]
  show _++(([(r,0+i)]:List (R × Nat)).filter _).map _=_
  rw [List.filter_cons_of_neg (p:=fun x:R × Nat=>x.1.l == s) fun q=>e (eq_of_beq q).symm];exact List.append_nil _
theorem th {rs:List R} {r:R} {N:Nat} (h:rs[i]? = some r) (hl:r.l < N):((List.range N).map fun s=>O.node .lst ((ao (aP (rs.take (i+1)) s)).map .leaf))=((List.range N).map fun s=>O.node .lst ((ao (aP (rs.take i) s)).map .leaf)).set r.l (.node .lst ((ao (aP (rs.take i) r.l)).map .leaf++[.leaf (.int i)])):=by
 refine List.ext_getElem? fun s=>?_
 rw [List.getElem?_map]
 by_cases hs:s < N
 ·rw [List.getElem?_range hs]
  show some (O.node .lst ((ao (aP (rs.take (i+1)) s)).map .leaf))=_
  rw [lZ h]
  by_cases e:s=r.l
  ·subst e
   rw [if_pos rfl,List.getElem?_set_self (by rw [List.length_map,List.length_range];exact hs),← b8,List.map_append];rfl
  ·rw [if_neg e,List.getElem?_set_ne (Ne.symm e),List.getElem?_map,List.getElem?_range hs];rfl
 ·rw [List.getElem?_eq_none (by rw [List.length_range];exact Nat.le_of_not_lt hs),List.getElem?_eq_none (by rw [List.length_set,List.length_map,List.length_range];exact Nat.le_of_not_lt hs)];rfl
theorem oK (p:Prg W) (hg:g.Ok) (q:∀ of_ ow ic,Q ({ g with of_:=of_,ow:=ow,ic:=ic }:Gr).D k):a7 W (n+2) .gramInit [.im (.lst (g.names.map .str)),.im (.int g.tc),.im (.lst (bc g.rules)),.im (.dct [] []),.im .nul,.im (.int g.start)] k Q X:=p.yG (c:=.gram) .gramInit rfl rfl rfl 1 fun S0 h0 pen a A env=>by
 have n64:=g64 hg
 refine bG 0 (xs:=[]) rfl (aa (i:=1) rfl rfl) rfl rfl rfl rfl rfl (fun u0=>rfl) ?_
 refine bG 1 rfl (aa (i:=2) rfl rfl) rfl rfl rfl rfl rfl (fun u0=>rfl) ?_
 refine bG 2 rfl (aa (i:=3) rfl rfl) rfl rfl rfl rfl rfl (fun u0=>rfl) ?_
 refine bG 3 rfl (aa (i:=4) rfl rfl) rfl rfl rfl rfl rfl (fun u0=>rfl) ?_
 refine bG 4 rfl (aa (i:=5) rfl rfl) rfl rfl rfl rfl rfl (fun u0=>rfl) ?_
 refine bG 5 rfl (aa (i:=6) rfl rfl) rfl rfl rfl rfl rfl (fun u0=>rfl) ?_
 refine gY 6 rfl (EC.eo (sW 1 [("name",9)] ((kK 0 0 rfl rfl rfl (.head _) rfl rfl).src .lst) (by rw [List.length_map];exact Nat.le_trans n64 (Nat.le_of_ble_eq_true rfl)) (fun i zs=>zs=(List.range i).map fun u0=>.lst []) rfl (fun F s cl C dd i d zs hd hz=>⟨_,.one (i:=9) rfl rfl .im,bS ⟨rfl,?_⟩⟩) (fun zs hz=>?_) rfl fun u0=>rfl)) rfl rfl rfl rfl rfl fun u0=>rfl
 ·rw [hz,List.range_succ,List.map_append];rfl
 subst hz
 refine gY 7 rfl (bS (gY 8 rfl (bS ?_) rfl rfl rfl rfl rfl fun u0=>rfl)) rfl rfl rfl rfl rfl fun u0=>rfl
 rw [List.length_map]
 refine aN (GiJ g [.im (.lst (g.names.map .str)),.im (.int g.tc),.im (.lst (bc g.rules)),.im (.dct [] []),.im .nul,.im (.int g.start)] k) (kK 0 2 rfl rfl rfl (.tail _ (.tail _ (.head _))) rfl rfl) .lst (.mk (ofs:=[]) (ows:=[]) _ rfl (Nat.le_refl _)) (fun h=>by cases h) (fun u0=>rfl) (fun i d ρ k' hd h=>?_) fun ρ k' h=>?_
 ·obtain ⟨r,hr,rfl⟩:=bY hd
  have hrm:=List.mem_of_getElem? hr
  have hl:=hg.l r hrm
  have hi64:i < 64:=Nat.lt_of_lt_of_le (List.getElem?_eq_some_iff.mp hr).1 hg.rs
  induction h with
  | @mk ofs ows x ho hw=>
  have hbl:((List.range g.names.length).map fun s=>O.lst (ao (aP (g.rules.take i) s)))[r.l]? = some (.lst (ao (aP (g.rules.take i) r.l))):=by rw [List.getElem?_map,List.getElem?_range hl];rfl
  refine ⟨_,.one (i:=7) rfl .im,?_⟩
  refine .seq (dI rfl rfl rfl rfl (Nat.zero_lt_succ _) (nQ rfl (lX rfl rfl (bI rfl rfl ⟨_,_,_,6,_,rfl,List.mem_of_getElem? (i:=6) rfl,rfl,rfl,_,rfl,(ax (aa (i:=7) rfl rfl) bT rfl).go _ ⟨r.l,.lst (ao (aP (g.rules.take i) r.l)),rfl,cP (Nat.le_trans (Nat.le_of_lt hl) n64),hbl,_,rfl,?_,bO ((ax (aa (i:=7) rfl rfl) fE rfl).go _ ?_)⟩⟩))))
  ·rw [List.length_map,ai];exact Nat.lt_of_le_of_lt (iJ) (cx (Nat.le_trans (List.length_take_le _ _) (Nat.le_of_lt hi64)))
  refine .seq (dI rfl rfl rfl rfl (Nat.zero_lt_succ _) (lX rfl rfl (bI rfl rfl ⟨_,_,_,7,_,rfl,List.mem_of_getElem? (i:=7) rfl,rfl,rfl,_,rfl,?_,bO ((cy (ax (oc (i:=0) rfl rfl rfl) (pg 8 rfl (List.mem_of_getElem? (i:=8) rfl) rfl (congrArg some aH)) rfl) (.xn ?_) rfl rfl).go _ ?_)⟩)))
  ·rw [List.length_map,ho];exact cx (Nat.le_of_lt hi64)
  ·exact Nat.le_trans hw (by lia)
  refine .seq (p8 rfl rfl rfl rfl (Nat.zero_lt_succ _) (lX rfl rfl (bI rfl rfl ⟨_,_,_,8,_,rfl,List.mem_of_getElem? (i:=8) rfl,rfl,rfl,_,rfl,EvO.ev (sf rfl ((ax (aa (i:=7) rfl rfl) fE rfl).go _ ((aV (cy (ax (aa (i:=7) rfl rfl) cg rfl) (.xC ?_) rfl rfl) ar .add).go _ ⟨_,rfl,?_,?_,?_⟩)))⟩)))
  ·rw [ai];exact Nat.le_trans (hg.len r hrm) (Nat.le_of_ble_eq_true rfl)
  ·exact Int.natCast_nonneg (_+1)
  ·have:=hg.len r hrm;refine ai▸?_;lia
  ·have hl8:(List.replicate ((ao r.r).length+1) (D.int (i:Int))).length≤9:=by rw [List.length_replicate,ai];exact Nat.succ_le_succ (hg.len r hrm)
   refine ⟨_,aH,by rw [List.length_map];exact Nat.le_trans (Nat.add_le_add hw hl8) (by lia),?_⟩
   have fin:GiJ g [.im (.lst (g.names.map .str)),.im (.int g.tc),.im (.lst (bc g.rules)),.im (.dct [] []),.im .nul,.im (.int g.start)] k (i+1) _ k:=.mk (ofs:=ofs++[.int ows.length]) (ows:=ows++List.replicate ((ao r.r).length+1) (D.int (i:Int))) (.im (r.D i)) (by rw [List.length_append,ho];rfl) (by rw [List.length_append];exact Nat.le_trans (Nat.add_le_add hw hl8) (Nat.le_of_eq rfl))
   unfold inO gO O.lst at fin
   rw [th hr hl,List.map_append,List.map_append] at fin
   exact aj fin
 ·rw [bC] at h
  generalize hi:g.rules.length=i at h
  induction h with
  | @mk ofs ows x ho hw=>
  subst hi
  refine bG 9 rfl (cy (ax (oc (i:=0) rfl rfl rfl) (pg 8 rfl (List.mem_of_getElem? (i:=8) rfl) rfl (congrArg some aH)) rfl) (.xn ?_) rfl rfl) rfl rfl rfl rfl rfl (fun u0=>rfl) (aj ⟨_,rfl,?_⟩)
  ·have:=hg.rs;exact Nat.le_trans hw (Nat.le_trans (Nat.mul_le_mul_left 9 hg.rs) (Nat.le_of_ble_eq_true rfl))
  ·have e:(O.node (.ins .gram (aI .gram)) (gO g g.rules.length ofs ows++[.leaf (.int ows.length)])).toD=({ g with of_:=ofs,ow:=ows,ic:=.int ows.length }:Gr).D:=by
    have h6:∀ l:List Nat,O.xv (l.map fun s=>.lst (ao (aP g.rules s)))=l.map fun s=>.lst (ao (aP g.rules s)):=fun l=>by
     induction l with
     | nil=>rfl
     | cons u us ih=>exact congr (congrArg _ aH) ih
    unfold gO
    rw [List.take_length]
    show D.node _ [_,_,_,_,_,_,D.node _ (O.xv _),D.node _ (O.xv _),D.node _ (O.xv _),_]=_
    rw [h6,eM,eM];rfl
   exact e▸q ofs ows _
end
end Mine
namespace Mine
open PySem PySem.Calls PyProof.Rows PySem.SeqAt PySem.W
noncomputable abbrev PR:=List (Txt × List Txt)
noncomputable abbrev txs (l:List Txt):List D:=l.map .str
noncomputable def pairD (p:Txt × List Txt):D:=.tup [.str p.1,.tup (txs p.2)]
noncomputable abbrev ba (ps:PR):D:=.lst (ps.map pairD)
noncomputable def NT:List Txt:=[[83],[84],[85]]
noncomputable def TM:List Txt:=[[97],[98]]
noncomputable def dm:List Txt:=[[36,101,110,100],[101,114,114,111,114],[36,117,110,100,101,102,105,110,101,100]]
noncomputable def accT:Txt:=[36,97,99,99,101,112,116]
noncomputable def bw (lf ns:List Txt) (x:Txt):List Txt:=if x∈lf∨x∈ns then ns else ns++[x]
noncomputable def lefts (ps:PR):List Txt:=(ps.map (·.1)).foldl (bw []) []
noncomputable def tms (ps:PR):List Txt:=(ps.flatMap (·.2)).foldl (bw (lefts ps)) dm
noncomputable def ae (ps:PR):List Txt:=tms ps++accT::lefts ps
noncomputable def ix (ns:List Txt) (x:Txt):Nat:=(ns.findIdx? (· == x)).getD 0
noncomputable def g9 (ns:List Txt) (tc:Nat) (p:Txt × List Txt):R:=⟨ix ns p.1,p.2.map (ix ns),ltm tc (p.2.map (ix ns))⟩
noncomputable def aB (ps:PR):List R:=⟨(tms ps).length,[ix (ae ps) ((lefts ps).headD []),0],0⟩::ps.map (g9 (ae ps) (tms ps).length)
structure dk (ps:PR):Prop where
 ne:ps≠[]
 len:ps.length≤60
 nt:∀ p∈ps,p.1∈NT
 pt:∀ p∈ps,∀ x∈p.2,x∈NT∨x∈TM
 rl:∀ p∈ps,p.2.length≤5
noncomputable def gOf (ps:PR) (of_ ow:List D) (ic:D):Gr:=⟨ae ps,(tms ps).length,aB ps,ix (ae ps) ((lefts ps).headD []),of_,ow,ic⟩
section
variable {lf ns xs:List Txt} {x:Txt} {ps:PR} {p:Txt × List Txt}
theorem mS {y:Txt}:y∈bw lf ns x↔y∈ns∨(y=x∧x∉lf):=by
 unfold bw
 split
 ·rename_i h
  exact ⟨.inl,fun q=>q.elim id fun q=>q.1▸h.resolve_left q.2⟩
 ·rename_i h
  rw [List.mem_append,List.mem_singleton]
  exact or_congr_right ⟨fun e=>⟨e,fun q=>h (.inl q)⟩,fun q=>q.1⟩
theorem oj (h:ns.Nodup):(bw lf ns x).Nodup:=by
 unfold bw
 split
 ·exact h
 ·rename_i q
  exact List.nodup_append.mpr ⟨h,List.pairwise_singleton ..,fun a ha b hb e=>q (.inr (List.mem_singleton.mp hb▸e▸ha))⟩
theorem dC {y:Txt}:∀ {xs ns:List Txt},y∈xs.foldl (bw lf) ns↔y∈ns∨(y∈xs∧y∉lf):=by
 intro xs
 induction xs generalizing y with
 | nil=>
  exact @fun u0=>⟨.inl,fun q=>q.elim id fun q=>aE q.1⟩
 | cons x xs ihq=>
  intro ns
  rw [List.foldl_cons,ihq,mS,List.mem_cons]
  exact ⟨fun h=>h.elim (fun h=>h.elim .inl fun q=>.inr ⟨.inl q.1,q.1▸q.2⟩) fun q=>.inr ⟨.inr q.1,q.2⟩,fun h=>h.elim (fun q=>.inl (.inl q)) fun q=>q.1.elim (fun e=>.inl (.inr ⟨e,e▸q.2⟩)) fun r=>.inr ⟨r,q.2⟩⟩
theorem cH:∀ {xs ns:List Txt},ns.Nodup→(xs.foldl (bw lf) ns).Nodup:=by
 intro xs
 induction xs with
 | nil=>
  exact @fun u0 h=>h
 | cons x xs ihq=>
  exact @fun ns h=>by rw [List.foldl_cons];exact ihq (oj h)
theorem bM:x∈lefts ps↔x∈ps.map (·.1):=dC.trans ⟨fun h=>h.elim (fun h=>aE h) fun q=>q.1,fun h=>.inr ⟨h,(fun h=>aE h)⟩⟩
theorem iM:(lefts ps).Nodup:=cH .nil
theorem fB:x∈tms ps↔x∈dm∨((∃ p∈ps,x∈p.2)∧x∉lefts ps):=dC.trans (by rw [List.mem_flatMap])
theorem fy:(tms ps).Nodup:=cH (by decide)
theorem dk.left (h:dk ps) (hx:x∈lefts ps):x∈NT:=by
 obtain ⟨p,hp,rfl⟩:=List.mem_map.mp (bM.mp hx)
 exact h.nt p hp
theorem dk.yv (h:dk ps):(lefts ps).length≤3:=iM.length_le_of_subset (l₂:=NT) fun u0=>h.left
theorem dk.lenT (h:dk ps):(tms ps).length≤8:=fy.length_le_of_subset (l₂:=dm++NT++TM) fun x hx=>(fB.mp hx).elim (fun q=>List.mem_append_left _ (List.mem_append_left _ q)) fun zz0=>by obtain ⟨⟨p,hp,q⟩,_⟩:=zz0;exact (h.pt p hp x q).elim (fun q=>List.mem_append_left _ (List.mem_append_right _ q)) fun q=>List.mem_append_right _ q
theorem h8 (h:x∈ns):ns.findIdx? (· == x)=some (ix ns x):=by
 unfold ix
 cases e:ns.findIdx? (· == x) with
 | some i=>rfl
 | none=>exact absurd (List.findIdx?_eq_none_iff.mp e x h) (by rw [beq_self_eq_true];exact (fun h=>tf h))
theorem f6 (h:x∈ns):ns[ix ns x]? = some x:=by
 obtain ⟨h1,h2,_⟩:=List.findIdx?_eq_some_iff_getElem.mp (h8 h)
 rw [List.getElem?_eq_getElem h1,eq_of_beq h2]
theorem eY (h:x∈ns):ix ns x < ns.length:=(List.getElem?_eq_some_iff.mp (f6 h)).1
theorem cR (h:dk ps) (hp:p∈ps):p.1∈ae ps∧∀ x∈p.2,x∈ae ps:=⟨List.mem_append_right _ (List.mem_cons_of_mem _ (bM.mpr (List.mem_map_of_mem hp))),fun x hx=>by
 by_cases q:x∈lefts ps
 ·exact List.mem_append_right _ (List.mem_cons_of_mem _ q)
 ·exact List.mem_append_left _ (fB.mpr (.inr ⟨⟨p,hp,hx⟩,q⟩))⟩
theorem dF (h:dk ps):(lefts ps).headD []∈lefts ps∧lefts ps≠[]:=by
 obtain ⟨p,hp⟩:=List.exists_mem_of_ne_nil _ h.ne
 have:=bM.mpr (List.mem_map_of_mem (f:=(·.1)) hp)
 cases e:lefts ps with
 | nil=>have this:=e▸this;cases this
 | cons a l=>exact ⟨List.mem_cons_self,List.cons_ne_nil _ _⟩
theorem lH:∀ x∈NT,x∉dm∧x≠accT:=by decide
theorem cp (h:dk ps) (hx:x∈lefts ps):(tms ps).length≤ix (ae ps) x:=Nat.le_of_not_lt fun q=>by
 have hg:=f6 (ns:=ae ps) (List.mem_append_right _ (List.mem_cons_of_mem _ hx))
 unfold ae at hg q
 rw [List.getElem?_append_left q] at hg
 exact (fB.mp (List.mem_of_getElem? hg)).elim (lH x (h.left hx)).1 fun q=>q.2 hx
theorem nZ:(ae ps).length=(tms ps).length+((lefts ps).length+1):=List.length_append
theorem fq (h:dk ps) {of_ ow ic}:(gOf ps of_ ow ic).Ok∧(ae ps).length≤(tms ps).length+4∧(∀ r∈aB ps,r.r.length≤5)∧ix (ae ps) ((lefts ps).headD []) < (ae ps).length:=by
 have hb:=dF h
 have h1:=h.yv
 have h2:=h.lenT
 have hl:=nZ (ps:=ps)
 have hbx:=eY (ns:=ae ps) (List.mem_append_right _ (List.mem_cons_of_mem _ hb.1))
 have rl:∀ r∈aB ps,(tms ps).length≤r.l∧r.l < (ae ps).length∧(∀ x∈r.r,x < (ae ps).length)∧r.r.length≤5:=fun r hr=>by
  rcases List.mem_cons.mp hr with rfl | hr
  ·exact ⟨Nat.le_refl _,(by show (tms ps).length < _;lia),fun x hx=>by
    rcases List.mem_cons.mp hx with rfl | hx
    ·exact hbx
    ·rw [List.mem_singleton.mp hx];lia,by show 2≤5;decide⟩
  ·obtain ⟨p,hp,rfl⟩:=List.mem_map.mp hr
   have hm:=cR h hp
   exact ⟨cp h (bM.mpr (List.mem_map_of_mem hp)),eY hm.1,fun x hx=>by
    obtain ⟨y,hy,rfl⟩:=List.mem_map.mp hx
    exact eY (hm.2 y hy),by show (p.2.map _).length≤5;rw [List.length_map];exact h.rl p hp⟩
 refine ⟨⟨?_,?_,?_,fun r hr=>(rl r hr).2.1,fun r hr=>(rl r hr).1,fun r hr=>(rl r hr).2.2.1,fun r hr=>Nat.le_trans (rl r hr).2.2.2 (by decide)⟩,by lia,fun r hr=>(rl r hr).2.2.2,hbx⟩
 ·show (ae ps).length≤16;lia
 ·show (tms ps).length≤(ae ps).length;lia
 ·show (aB ps).length≤64
  unfold aB
  rw [List.length_cons,List.length_map]
  exact Nat.le_trans (Nat.succ_le_succ h.len) (by decide)
end
end Mine
namespace Mine
open PySem PySem.Calls PyProof.Rows PySem.SeqAt PySem.W
section
variable {W:Wd} {n k i j:Nat} {Q:D→Nat→Prop} {X:Nat→Prop} {g:Gr} {c:Cx} {ρ:List Sl} {l:Lv} {ps:PR} {a b e:Expr} {t t':Bool} {d:D} {pos pos':Pos}
theorem nh {ns:List Txt} {x:Txt}:txs (ns++[x])=txs ns++[.str x]:=List.map_append
theorem V.as {d':D} (h:V c ρ k l e d) (q:d=d'):V c ρ k l e d':=q▸h
theorem mY {rs:List R} {r:R}:bc (rs++[r])=bc rs++[r.D rs.length]:=by
 unfold bc
 rw [List.zipIdx_append,List.map_append,Nat.zero_add];rfl
theorem uM (h1:TV c ρ k a t) (h2:t=false→TV c ρ k b t'):TV c ρ k (.BoolOp .Or [a,b] pos) (t || t'):=⟨fun Q q=>w6 (h1.go _ ⟨fun e=>by rw [e] at q;exact q,fun e=>(h2 e).go _ ⟨fun e'=>by rw [e,e'] at q;exact q,fun e'=>by rw [e,e'] at q;exact q⟩⟩)⟩
theorem uc {x:Txt} {m:Int} {kk} {n:Nat} {p2 p3:Pos} (h:V c ρ k l a (.str x)) (hm:m=n) (hl:x.length≤2 ^ 24):V c ρ k l (.Subscript a (.Slice none (some (.Constant (.int m) kk p2)) none p3) pos) (.str (x.take n)):=hm▸⟨fun u0 q=>gV (h.go _ (ar.go _ ⟨_,_,rfl,fun u0=>.str hl,q⟩))⟩
theorem o7 {xs:List D} (h:V c ρ k l e (.lst xs)) (hl:xs.length≤2 ^ 24) (hx:cF c "tuple" = true) (hs:ah e=true):V c ρ k l (.Call (.Name "tuple" pos') [e] [] pos) (.tup xs):=⟨fun u0 q=>qD hx hs (h.go _ ⟨xs,rfl,hl,q⟩)⟩
theorem ud {Q:O→Nat→Prop} (h:V c ρ k .im a d) (q:Q (.lst [d]) k) (hs:[a].all ah=true):EO c ρ k (.List [a] pos) Q:=⟨sx hs (h.go _ ⟨Nat.le_of_ble_eq_true rfl,q⟩)⟩
theorem wR (h:(ps.map pairD)[i]? = some d):∃ p,ps[i]? = some p∧d=.tup [.str p.1,.tup (txs p.2)]:=by
 rw [List.getElem?_map] at h
 obtain ⟨p,hp,rfl⟩:=Option.map_eq_some_iff.mp h
 exact ⟨p,hp,rfl⟩
theorem txs_at {xs:List Txt} (h:(txs xs)[i]? = some d):∃ x,xs[i]? = some x∧d=.str x:=by
 rw [List.getElem?_map] at h
 obtain ⟨p,hp,rfl⟩:=Option.map_eq_some_iff.mp h
 exact ⟨p,hp,rfl⟩
theorem jL (p:Prg W) {i:Nat} {r:R}:di W (n+2) .ruleInit [.im (.int i),.im (.int r.l),.im (.tup (ao r.r)),.im (.int r.lv)] k (r.D i):=⟨fun u0 u0 q=>oH p q⟩
theorem rA {α β:Type} {f:β→α→β} {z:β} {xs:List α} {x:α} (h:xs[i]? = some x):(xs.take (i+1)).foldl f z=f ((xs.take i).foldl f z) x:=by rw [List.take_add_one,h,List.foldl_append];rfl
inductive PgA (a:List Sl) (F:Nat→List Txt) (k i:Nat):List Sl→Nat→Prop
 | mk (x3 x4 x5 x6 x7 x8 x9 x10:Sl):PgA a F k i (a++[.own (.lst (txs (F i))),x3,x4,x5,x6,x7,x8,x9,x10]) k
inductive PgN (a:List Sl) (z5:Sl) (F:Nat→List Txt) (k i:Nat):List Sl→Nat→Prop
 | mk (x3 x4 x7 x8 x9 x10:Sl):PgN a z5 F k i (a++[x3,x4,z5,.own (.lst (txs (F i))),x7,x8,x9,x10]) k
inductive PgM (a:List Sl) (z3 z4 z5:Sl) (F:Nat→List Txt) (k i:Nat):List Sl→Nat→Prop
 | mk (x7 x8 x9 x10:Sl):PgM a z3 z4 z5 F k i (a++[z3,z4,z5,.own (.lst (txs (F i))),x7,x8,x9,x10]) k
inductive PgR (a:List Sl) (z5 z6 z8:Sl) (rs:List R) (k i:Nat):List Sl→Nat→Prop
 | mk (x3 x4 x7 x10:Sl):PgR a z5 z6 z8 rs k i (a++[x3,x4,z5,z6,x7,z8,.own (.lst (bc (rs.take (i+1)))),x10]) k
theorem qB:∀ x∈NT,((x == [101,114,114,111,114]) || ([[],[36],[39]]:List Txt).contains (x.take 1))=false∧x.length≤2 ^ 24:=by decide
theorem ka {lf ns:List Txt} {x:Txt} (h:(!lf.contains x)=true) (h2:(!ns.contains x)=true):bw lf ns x=ns++[x]:=if_neg fun q=>by
 rw [Bool.not_eq_true'] at h h2
 exact q.elim (fun q=>by have z:=Eq.trans (Eq.symm (List.contains_iff_mem.mpr q)) h;injection z) fun q=>by have z:=Eq.trans (Eq.symm (List.contains_iff_mem.mpr q)) h2;injection z
theorem pF {lf ns:List Txt} {x:Txt} (h:(!lf.contains x && !ns.contains x)=false):bw lf ns x=ns:=if_pos (by
 rw [Bool.and_eq_false_iff,Bool.not_eq_false',Bool.not_eq_false'] at h
 exact h.imp List.contains_iff_mem.mp List.contains_iff_mem.mp)
theorem eH (p:Prg W) (hq:W.qt=true) (h:dk ps) (q:∀ of_ ow ic,Q (gOf ps of_ ow ic).D k):a7 W (n+3) .plainGrammar [.im (ba ps)] k Q X:=p.run .plainGrammar rfl rfl 9 fun S0 h0 pen A env=>by
 obtain ⟨hbm,hbn⟩:=dF h
 have hlN:∀ {i:Nat} {p:Txt × List Txt},ps[i]? = some p→p.1∈NT:=fun hp=>h.nt _ (List.mem_of_getElem? hp)
 refine aQ 2 (bS ?_) (.inl rfl) rfl rfl
 refine aN (PgA [.im (ba ps),.im .nul] (fun i=>((ps.take i).map (·.1)).foldl (bw []) []) k) (aa (l:=.im) (i:=0) rfl rfl) .lst (.mk ..) (fun h=>by cases h) (fun u0=>rfl) (fun i d ρ k' hd hi=>?_) fun ρ k' hi=>?_
 ·apply aT hd;intro x hx
  obtain ⟨b1,b2⟩:=qB x.1 (hlN hx)
  have hs:((ps.take (i+1)).map (·.1)).foldl (bw []) []=bw [] (((ps.take i).map (·.1)).foldl (bw []) []) x.1:=by rw [List.take_add_one,hx,List.map_append,List.foldl_append];rfl
  induction hi with
  | mk x3 x4 x5 x6 x7 x8 x9 x10=>
  refine ⟨_,.two (i:=3) (j:=4) hq rfl rfl .im .im,?_⟩
  refine dW (uM (aC (aa (i:=3) rfl rfl) cZ (.eq .str) rfl) fun u0=>aC (uc (n:=1) (aa (i:=3) rfl rfl) rfl b2) (uW cZ cZ cZ rfl) (Cmp.xq (ss:=[[],[36],[39]]) (.inr rfl)).1 rfl) (fun h1=>?_) fun u0=>?_
  ·rw [show ((x.1 == [101,114,114,111,114]) || ([[],[36],[39]]:List Txt).contains (x.1.take 1))=true from h1] at b1
   injection b1
  ·have hl:(((ps.take i).map (·.1)).foldl (bw []) []).length≤3:=Nat.le_trans (List.Nodup.length_le_of_subset (cH .nil) fun y hy=>?_) (h.yv)
   ·refine c6 (PgA [.im (ba ps),.im .nul] (fun i=>((ps.take i).map (·.1)).foldl (bw []) []) k (i+1)) (aC (aa (i:=3) rfl rfl) (aZ (i:=2) rfl rfl) (Cmp.xq (.inl rfl)).2 rfl) (fun h2=>?_) (fun h2=>?_) fun ρ k h=>aj h
    ·have fin:PgA [.im (ba ps),.im .nul] (fun i=>((ps.take i).map (·.1)).foldl (bw []) []) k (i+1) _ k:=.mk (.im (.str x.1)) (.im (.tup (txs x.2))) x5 x6 x7 x8 x9 x10
     rw [hs,ka rfl h2,nh] at fin
     exact dw 2 rfl (by rw [List.length_map];exact Nat.lt_of_le_of_lt hl (by decide)) (aa (i:=3) rfl rfl) (aj fin) rfl rfl rfl rfl
    ·have fin:PgA [.im (ba ps),.im .nul] (fun i=>((ps.take i).map (·.1)).foldl (bw []) []) k (i+1) _ k:=.mk (.im (.str x.1)) (.im (.tup (txs x.2))) x5 x6 x7 x8 x9 x10
     rw [hs,pF (by rw [h2,Bool.and_false])] at fin
     exact aj fin
   ·refine bM.mpr ?_
    rcases dC.mp hy with q | q
    ·cases q
    ·exact List.map_subset _ (List.take_subset ..) q.1
 ·generalize hi':(ps.map pairD).length=i at hi
  induction hi with
  | mk x3 x4 x5 x6 x7 x8 x9 x10=>
  subst hi'
  rw [List.length_map,List.take_length]
  show TB _ ([.im (ba ps),.im .nul]++[.own (.lst (txs (lefts ps))),x3,x4,x5,x6,x7,x8,x9,x10]) _ _ _
  have hls:=h.yv
  have hts:=h.lenT
  obtain ⟨hgo,h4,h5,hbx⟩:=fq h (of_:=[]) (ow:=[]) (ic:=.nul)
  have hl0:(txs (lefts ps))[0]? = some (.str ((lefts ps).headD [])):=by cases e:lefts ps with
   | nil=>exact absurd e hbn
   | cons x xs=>rfl
  have hemp:(txs (lefts ps)).isEmpty=false:=by cases e:lefts ps with
   | nil=>exact absurd e hbn
   | cons x xs=>rfl
  have hcon:(lefts ps).contains ((lefts ps).headD [])=true:=List.contains_iff_mem.mpr hbm
  refine az 5 (iG (uM (t:=false) (t':=(txs (lefts ps)).isEmpty) (aC (aa (i:=1) rfl rfl) sE .isNone rfl) fun u0=>aC (aZ (i:=2) rfl rfl) ox (.eq ro) rfl) (fun q=>?_) fun u0=>V.fl (ay (aZ (i:=2) rfl rfl) ar (.lst (i:=0) (by decide) hl0) rfl) rfl) ?_ rfl rfl
  ·have q:=(Eq.symm hemp).trans q;cases q
  refine dW (aC (aa (i:=5) rfl rfl) (aZ (i:=2) rfl rfl) (Cmp.xq (.inl rfl)).2 rfl) (fun q=>?_) fun u0=>?_
  ·have q:=hcon▸q;cases q
  obtain ⟨vO,eO,rO⟩:=p.gO
  refine aQ 6 (qP (xs:=txs dm) (mh eO rO rfl rfl) (by decide) ?_ rfl rfl) (.inl rfl) rfl rfl
  have hlen:∀ ns:List Txt,ns.Nodup→(∀ x∈ns,x∈dm++NT++TM)→ns.length < 2 ^ 24:=fun ns nd hs=>Nat.lt_of_le_of_lt (nd.length_le_of_subset hs) (by decide)
  refine aN (PgN [.im (ba ps),.im .nul,.own (.lst (txs (lefts ps)))] (.im (.str ((lefts ps).headD []))) (fun i=>((ps.take i).flatMap (·.2)).foldl (bw (lefts ps)) dm) k) (aa (l:=.im) (i:=0) rfl rfl) .lst (.mk ..) (fun h=>by cases h) (fun u0=>rfl) (fun i d ρ k' hd hi=>?_) fun ρ k' hi=>?_
  ·apply aT hd;intro x hx
   have hxm:=List.mem_of_getElem? hx
   have hs:((ps.take (i+1)).flatMap (·.2)).foldl (bw (lefts ps)) dm=x.2.foldl (bw (lefts ps)) (((ps.take i).flatMap (·.2)).foldl (bw (lefts ps)) dm):=by
    rw [List.take_add_one,hx,List.flatMap_append,List.foldl_append]
    show List.foldl _ _ (x.2++[])=_
    rw [List.append_nil]
   have hnd:(((ps.take i).flatMap (·.2)).foldl (bw (lefts ps)) dm).Nodup:=cH (by decide)
   have hsub:∀ y∈((ps.take i).flatMap (·.2)).foldl (bw (lefts ps)) dm,y∈dm++NT++TM:=fun y hy=>(dC.mp hy).elim (fun q=>List.mem_append_left _ (List.mem_append_left _ q)) fun q=>by
    obtain ⟨p',hp,hy⟩:=List.mem_flatMap.mp q.1
    exact (h.pt p' (List.mem_of_mem_take hp) y hy).elim (fun q=>List.mem_append_left _ (List.mem_append_right _ q)) fun q=>List.mem_append_right _ q
   induction hi with
   | mk x3 x4 x7 x8 x9 x10=>
   generalize ((ps.take i).flatMap (·.2)).foldl (bw (lefts ps)) dm=N0 at hs hnd hsub
   refine ⟨_,.two (i:=3) (j:=4) hq rfl rfl .im .im,aN (PgM [.im (ba ps),.im .nul,.own (.lst (txs (lefts ps)))] (.im (.str x.1)) (.im (.tup (txs x.2))) (.im (.str ((lefts ps).headD []))) (fun j=>(x.2.take j).foldl (bw (lefts ps)) N0) k) (aa (l:=.im) (i:=4) rfl rfl) .tup (.mk ..) nofun (fun u0=>rfl) (fun j d ρ k' hd hi=>?_) fun ρ k' hi=>?_⟩
   ·apply aT hd;intro y hy
    have hs2:=rA (f:=bw (lefts ps)) (z:=N0) hy
    have hl2:=hlen ((x.2.take j).foldl (bw (lefts ps)) N0) (cH hnd) fun z hz=>(dC.mp hz).elim (hsub z) fun q=>(h.pt x hxm z (List.mem_of_mem_take q.1)).elim (fun q=>List.mem_append_left _ (List.mem_append_right _ q)) fun q=>List.mem_append_right _ q
    induction hi with
    | mk x7 x8 x9 x10=>
    generalize (x.2.take j).foldl (bw (lefts ps)) N0=N1 at hs2 hl2
    refine ⟨_,.one (i:=7) rfl .im,c6 (PgM [.im (ba ps),.im .nul,.own (.lst (txs (lefts ps)))] (.im (.str x.1)) (.im (.tup (txs x.2))) (.im (.str ((lefts ps).headD []))) (fun j=>(x.2.take j).foldl (bw (lefts ps)) N0) k (j+1)) (fh (aC (aa (i:=7) rfl rfl) (aZ (i:=2) rfl rfl) (Cmp.xq (.inl rfl)).2 rfl) fun u0=>aC (aa (i:=7) rfl rfl) (aZ (i:=6) rfl rfl) (Cmp.xq (.inl rfl)).2 rfl) (fun h2=>?_) (fun h2=>?_) fun ρ k h=>aj h⟩
    ·have fin:PgM [.im (ba ps),.im .nul,.own (.lst (txs (lefts ps)))] (.im (.str x.1)) (.im (.tup (txs x.2))) (.im (.str ((lefts ps).headD []))) (fun j=>(x.2.take j).foldl (bw (lefts ps)) N0) k (j+1) _ k:=.mk (.im (.str y)) x8 x9 x10
     rw [Bool.and_eq_true] at h2
     rw [hs2,ka h2.1 h2.2,nh] at fin
     exact dw 6 rfl (by rw [List.length_map];exact hl2) (aa (i:=7) rfl rfl) (aj fin) rfl rfl rfl rfl
    ·have fin:PgM [.im (ba ps),.im .nul,.own (.lst (txs (lefts ps)))] (.im (.str x.1)) (.im (.tup (txs x.2))) (.im (.str ((lefts ps).headD []))) (fun j=>(x.2.take j).foldl (bw (lefts ps)) N0) k (j+1) _ k:=.mk (.im (.str y)) x8 x9 x10
     rw [hs2,pF h2] at fin
     exact aj fin
   ·generalize hi':(txs x.2).length=j at hi
    induction hi with
    | mk x7 x8 x9 x10=>
    subst hi'
    have fin:PgN [.im (ba ps),.im .nul,.own (.lst (txs (lefts ps)))] (.im (.str ((lefts ps).headD []))) (fun i=>((ps.take i).flatMap (·.2)).foldl (bw (lefts ps)) dm) k (i+1) _ k:=.mk (.im (.str x.1)) (.im (.tup (txs x.2))) x7 x8 x9 x10
    rw [hs] at fin
    rw [List.length_map,List.take_length]
    exact aj fin
  ·generalize hi':(ps.map pairD).length=i at hi
   induction hi with
   | mk x3 x4 x7 x8 x9 x10=>
   subst hi'
   rw [List.length_map,List.take_length]
   show TB _ ([.im (ba ps),.im .nul,.own (.lst (txs (lefts ps)))]++[x3,x4,.im (.str ((lefts ps).headD [])),.own (.lst (txs (tms ps))),x7,x8,x9,x10]) _ _ _
   have hcount:((txs (tms ps)).length:Int)=((tms ps).length:Nat):=congrArg _ (List.length_map ..)
   have ht24:(txs (tms ps)).length≤2 ^ 20:=by rw [List.length_map];exact Nat.le_trans hts (by decide)
   have hl24:(txs (lefts ps)).length≤2 ^ 20:=by rw [List.length_map];exact Nat.le_trans hls (by decide)
   have hnames:txs (tms ps)++[.str accT]++txs (lefts ps)=txs (ae ps):=by unfold ae;rw [List.append_assoc];exact (List.map_append (l₂:=accT::lefts ps)).symm
   have hg24:(ae ps).length≤2 ^ 24:=Nat.le_trans hgo.n (by decide)
   refine az 8 (hcount▸cy (aZ (i:=6) rfl rfl) (.xn (Nat.le_trans ht24 (by decide))) rfl rfl) ?_ rfl rfl
   refine cb 6 rfl rfl (cb 2 rfl rfl (az 6 (V.as (d':=.lst (txs (ae ps))) (eW (eW (aa (i:=6) rfl rfl) (sI cZ rfl) (.xB (Nat.le_trans (Nat.add_le_add_right ht24 1) (by decide)))) (aa (i:=2) rfl rfl) (.xB ?_)) (congrArg D.lst hnames)) ?_ rfl rfl))
   ·rw [List.length_append];exact Nat.le_trans (Nat.add_le_add (Nat.add_le_add_right ht24 1) hl24) (by decide)
   obtain ⟨vE,eE,rE⟩:=p.gE
   refine aQ 9 (ud (jh (f:=.ruleInit) (.im ar (.im (aa (i:=8) rfl rfl) (.im (dQ (gN (aa (i:=6) rfl rfl) (aa (i:=5) rfl rfl) (h8 (List.mem_append_right _ (List.mem_cons_of_mem _ hbm))) hg24 rfl rfl rfl) (mh eE rE rfl rfl) rfl) (.im (mh eE rE rfl rfl) .nil)))) (jL (n:=n) (r:=⟨(tms ps).length,[ix (ae ps) ((lefts ps).headD []),0],0⟩) p) rfl rfl rfl rfl) ?_ rfl) (.inl rfl) rfl rfl
   have hrl:(aB ps).length≤64:=hgo.rs
   refine aN (PgR [.im (ba ps),.im .nul,.im (.lst (txs (lefts ps)))] (.im (.str ((lefts ps).headD []))) (.im (.lst (txs (ae ps)))) (.im (.int (tms ps).length)) (aB ps) k) (aa (l:=.im) (i:=0) rfl rfl) .lst (.mk x3 x4 x7 x10) nofun (fun u0=>rfl) (fun i d ρ k' hd hi=>?_) fun ρ k' hi=>?_
   ·apply aT hd;intro x hx
    obtain ⟨hm1,hm2⟩:=cR h (List.mem_of_getElem? hx)
    have hx5:=h.rl x (List.mem_of_getElem? hx)
    have hr:(aB ps)[i+1]? = some (g9 (ae ps) (tms ps).length x):=by
     show (ps.map _)[i]? = _
     rw [List.getElem?_map,hx];rfl
    have hrD:bc ((aB ps).take (i+1+1))=bc ((aB ps).take (i+1))++[(g9 (ae ps) (tms ps).length x).D (i+1)]:=by
     rw [List.take_add_one,hr]
     show bc (_++[_])=_
     rw [mY,List.length_take,Nat.min_eq_left (Nat.le_of_lt (List.getElem?_eq_some_iff.mp hr).1)]
    have hlD:((bc ((aB ps).take (i+1))).length:Int)=(i+1:Nat):=by
     rw [bC,List.length_take,Nat.min_eq_left (Nat.le_of_lt (List.getElem?_eq_some_iff.mp hr).1)]
    have hl64:(bc ((aB ps).take (i+1))).length≤64:=by
     rw [bC];exact Nat.le_trans (List.length_take_le' ..) hrl
    induction hi with
    | mk x3 x4 x7 x10=>
    generalize bc ((aB ps).take (i+1))=rD at hrD hlD hl64
    refine ⟨_,.two (i:=3) (j:=4) hq rfl rfl .im .im,?_⟩
    refine az 10 (o7 (ll (l:=.im) (ao (x.2.map (ix (ae ps)))) 1 [("names",6),("name",12)] ((aa (i:=4) rfl rfl).src .tup) (by rw [List.length_map];exact Nat.le_trans hx5 (by decide)) (by rw [ai,List.length_map,List.length_map]) (fun F s cl C dd j d f zs hd hf=>?_) rfl (fun u0=>rfl)) (by rw [ai,List.length_map];exact Nat.le_trans hx5 (by decide)) rfl rfl) ?_ rfl rfl
    ·apply aT hd;intro y hy
     rw [List.getElem?_map,List.getElem?_map,hy] at hf
     cases hf
     exact ⟨_,.one (i:=12) rfl rfl .im,gN (aa (i:=6) rfl rfl) (aa (i:=12) rfl rfl) (h8 (hm2 y (List.mem_of_getElem? hy))) hg24 rfl rfl rfl⟩
    refine dw 9 rfl (cx hl64) (jh (f:=.ruleInit) (.im (V.as (cy (aZ (i:=9) rfl rfl) (.xn (Nat.le_of_lt (cx hl64))) rfl rfl) (congrArg D.int hlD)) (.im (gN (aa (i:=6) rfl rfl) (aa (i:=3) rfl rfl) (h8 hm1) hg24 rfl rfl rfl) (.im (aa (i:=10) rfl rfl) (.im (jh (f:=.lastTerminal) (.im (aa (i:=10) rfl rfl) (.im (aa (i:=8) rfl rfl) .nil)) ((jU (n:=0) p).mono (Nat.le_add_left ..)) rfl rfl rfl rfl) .nil)))) (jL (n:=n) (r:=g9 (ae ps) (tms ps).length x) p) rfl rfl rfl rfl) ?_ rfl rfl rfl rfl
    have fin:PgR [.im (ba ps),.im .nul,.im (.lst (txs (lefts ps)))] (.im (.str ((lefts ps).headD []))) (.im (.lst (txs (ae ps)))) (.im (.int (tms ps).length)) (aB ps) k (i+1) _ k:=.mk (.im (.str x.1)) (.im (.tup (txs x.2))) x7 (.im (.tup (ao (x.2.map (ix (ae ps))))))
    rw [hrD] at fin
    exact aj fin
   ·have hlen:(ps.map pairD).length+1=(aB ps).length:=by unfold aB;rw [List.length_cons,List.length_map,List.length_map]
    generalize (ps.map pairD).length=i at hi hlen
    induction hi with
    | mk x3 x4 x7 x10=>
    rw [hlen,List.take_length]
    exact cb 9 rfl rfl (d7 (aS (f:=.gramInit) (.im (aa (i:=6) rfl rfl) (.im (aa (i:=8) rfl rfl) (.im (aa (i:=9) rfl rfl) (.im q8 (.im sE (.im (gN (aa (i:=6) rfl rfl) (aa (i:=5) rfl rfl) (h8 (List.mem_append_right _ (List.mem_cons_of_mem _ hbm))) hg24 rfl rfl rfl) .nil)))))) (oK (n:=n) p hgo q) rfl rfl rfl rfl))
end
end Mine
namespace Mine
open PySem PySem.Calls PyProof.Rows PySem.SeqAt PySem.W
section
variable {W:Wd} {n k i j:Nat} {Q:D→Nat→Prop} {X:Nat→Prop} {c:Cx} {ρ:List Sl} {l:Lv} {a b e:Expr} {d:D} {pos pos':Pos}
theorem uo {xs:List D} {m:Int} {kk} {n:Nat} {p2 p3:Pos} (h:V c ρ k l a (.lst xs)) (hm:m=n) (hl:xs.length≤2 ^ 24):V c ρ k l (.Subscript a (.Slice none (some (.Constant (.int m) kk p2)) none p3) pos) (.lst (xs.take n)):=hm▸⟨fun u0 q=>gV (h.go _ (ar.go _ ⟨_,_,rfl,fun t=>.lst (.inl ⟨rfl,_,_,rfl,rfl⟩) hl,q⟩))⟩
theorem wF {m:Int} (h:V c ρ k .any e (.int m)) (hx:cF c "abs" = true) (hs:ah e=true):V c ρ k l (.Call (.Name "abs" pos') [e] [] pos) (.int m.natAbs):=⟨fun u0 q=>vC hx hs ((h.fl rfl).go _ ⟨m,rfl,q⟩)⟩
theorem t5 {m:Int} (h:V c ρ k .any e (.int m)) (hx:cF c "int" = true) (hs:ah e=true):V c ρ k l (.Call (.Name "int" pos') [e] [] pos) (.int m):=⟨fun u0 q=>rV hx hs ((h.fl rfl).go _ ⟨m,rfl,q⟩)⟩
inductive LpJ (a:List Sl) (k:Nat):List Sl→Nat→Prop
 | mk (m:Int) (x:Sl):LpJ a k (a++[.im (.int m),x]) k
theorem rk (p:Prg W) {is:List Int} (hl:is.length≤2 ^ 24):a7 W (n+1) .lawPen [.vw (.lst (is.map .int))] k (fun r u0=>∃ n:Int,r=.lst [.int n,.int 0]) NoX:=p.run .lawPen rfl rfl 2 fun S0 h0 pen A env=>by
 refine az 1 ar ?_ rfl rfl
 refine aN (fun u0=>LpJ [.vw (.lst (is.map .int))] k) (uo (l:=.vw) (n:=63) (fJ (i:=0) rfl rfl) rfl (by rw [List.length_map];exact hl)) .lst (.mk 1 _) (fun h=>by cases h) (fun u0=>rfl) (fun i d ρ k' hd h=>?_) fun ρ k' h=>?_
 ·rw [List.getElem?_take] at hd
  split at hd
  ·rw [List.getElem?_map] at hd
   obtain ⟨z,_,rfl⟩:=Option.map_eq_some_iff.mp hd
   induction h with
   | mk m x=>
   refine ⟨_,.one (i:=2) rfl .vw,az 1 (aV (aV (aV (aa (i:=1) rfl rfl) ar (.mul (.inr (.inl (by decide)))) ) (aV ar (wF (t5 (fJ (i:=2) rfl rfl) rfl rfl) rfl rfl) (.mul (.inl (by decide)))) .add) (iG (x:=.int (if decide (z < 0)=true then 1 else 0)) (aC (fJ (i:=2) rfl rfl) ar .lt rfl) (fun h=>?_) fun h=>?_) .add) (aj (.mk _ _)) rfl rfl⟩
   ·rw [if_pos h];exact ar
   ·rw [if_neg (Bool.eq_false_iff.mp h)];exact ar
  ·exact no1 hd
 ·induction h with
  | mk m x=>exact a9 (nv (aa (i:=1) rfl rfl) ar rfl) ⟨m,rfl⟩
inductive PnI (a:List Sl) (k:Nat):List Sl→Nat→Prop
 | mk {k'}:k'≤k→PnI a k a k'
theorem pQ (p:Prg W) {m:Nat} (h0:0 < m) (h1:m < 2 ^ 30) (hk:k < 2 ^ 50) (q:∀ (d:Nat) k',d < m→k'≤k+1→Q (.int d) k'):a7 W (n+1) .lawDraw [.pen,.im (.int m)] k Q X:=p.run .lawDraw rfl rfl 1 fun S0 h0' pen A env=>by
 refine .seq (TrS.mono (pj (Q:=uj (PnI [.pen,.im (.int m),.undef] (k+1))) (nr rfl (il (i:=0) (j:=0) rfl rfl (.inl rfl) fun x u0=>(aa (i:=1) rfl rfl).go _ ⟨_,.lt,fun u0=>?_,fun u0=>?_⟩))) fun f ρ k' w=>?_)
 ·refine lU (oh (i:=0) (j:=1) rfl rfl (.inr rfl) rfl (dZ (il (i:=0) (j:=1) rfl rfl (.inr rfl) fun y hy=>j5 ⟨_,_,_,rfl,rfl,.add,_,rfl,(fun h=>by cases h),fun u0=>⟨k+1,?_,?_,?_⟩⟩)))
  ·have:=hy rfl;lia
  ·have:=hy rfl;lia
  ·refine lU (oh (i:=0) (j:=0) rfl rfl (.inl rfl) rfl (dZ (dZ (il (i:=0) (j:=0) rfl rfl (.inl rfl) fun x u0=>j5 ⟨_,_,_,rfl,rfl,.add,dZ (j5 (dZ (il (i:=0) (j:=1) rfl rfl (.inr rfl) fun y hy=>j5 ⟨_,_,_,rfl,rfl,.pow (hy rfl).1 ?_,_,_,_,rfl,rfl,.mul (.inl (by decide)),_,_,_,rfl,rfl,.add,_,rfl,fun u0=>?_,nofun⟩)))⟩))))
   ·have:=hy rfl;lia
   ·exact i8 (.mk (Nat.le_refl _))
 ·exact i8 (.mk (Nat.le_succ k))
 ·cases f with
  | next=>
   induction w with
   | @mk k' hk'=>
   refine .seq (nB (i:=2) rfl rfl (dZ (il (i:=0) (j:=0) rfl rfl (.inl rfl) fun x u0=>(aa (i:=1) rfl rfl).go _ ⟨_,_,_,rfl,rfl,.mod (by lia),?_⟩)))
   refine .seq (oh (i:=0) (j:=0) rfl rfl (.inl rfl) rfl (dZ (il (i:=0) (j:=0) rfl rfl (.inl rfl) fun y u0=>(aa (i:=1) rfl rfl).go _ ⟨_,_,_,rfl,rfl,.fdiv (by lia) (by lia),_,rfl,fun u0=>?_,nofun⟩)))
   have h2:x % (m:Int)=((x % (m:Int)).toNat:Nat):=(Int.toNat_of_nonneg (Int.emod_nonneg _ (by lia))).symm
   have h3:x % (m:Int) < m:=Int.emod_lt_of_pos _ (by lia)
   rw [h2] at h3 ⊢
   exact a9 (aa (i:=2) rfl rfl) (q _ k' (Int.ofNat_lt.mp h3) hk')
  | _=>exact w.elim
end
end Mine
namespace Mine
open PySem PySem.Calls PyProof.Rows PySem.SeqAt PySem.W
noncomputable def cM (p:Txt × List Txt) (pl:Nat) (r:List Txt):Txt × List Txt:=(p.1,p.2.take pl++r++p.2.drop (pl+1))
noncomputable def af (ps:PR) (i:Nat) (p:Txt × List Txt) (pl:Nat) (M:Txt):PR:=ps.take i++(ps.filter (·.1 == M)).map (fun r=>cM p pl r.2)++ps.drop (i+1)
section
variable {W:Wd} {n k i j:Nat} {Q:D→Nat→Prop} {X:Nat→Prop} {g:Gr} {c:Cx} {ρ:List Sl} {l:Lv} {ps:PR} {a b e:Expr} {t t':Bool} {d x y:D} {pos pos':Pos}
theorem pH {P:Post} {es:List Stmt} {z w:Str} {pz pw pt:Pos} {kk} (i j:Nat) (hq:c.W.qt=true) (h:E1 c ρ k .im e fun d k'=>∃ a b,d=.tup [a,b]∧TB c ((ρ.set i (.im a)).set j (.im b)) k' es P) (h1:bL c z i=true) (h2:bL c w j=true) (hsw:∀ env,swapsWith e (some (.Tuple [.Name z pz,.Name w pw] kk pt)) pos.line env=pure false) (hw:∀ env,swappedStores [.Tuple [.Name z pz,.Name w pw] kk pt] e env=pure none):TB c ρ k (.Assign [.Tuple [.Name z pz,.Name w pw] kk pt] e pos::es) P:=
 .seq fun ok u0 F s x0=>bg (hsw _) (hw _) rfl (noE (h.go ok F s x0) fun v s1 r=>by
  obtain ⟨d,k1,⟨a,b,rfl,q⟩,r,x1,st⟩:=r
  exact (Tg.two hq h1 h2 .im .im).run ok x1 r fun s2 x2 st2=>.here (f:=.next) x2 ((Stp.of_keep st x1.pen).trans st2) q rfl)
theorem wA {xs:List D} {n:Nat} {p3:Pos} (h:V c ρ k l a (.lst xs)) (hb:V c ρ k l b (.int n)) (hl:xs.length≤2 ^ 24):V c ρ k l (.Subscript a (.Slice none (some b) none p3) pos) (.lst (xs.take n)):=⟨fun u0 q=>gV (h.go _ (hb.go _ ⟨_,_,rfl,fun t=>.lst (.inl ⟨rfl,_,_,rfl,rfl⟩) hl,q⟩))⟩
theorem we {xs:List D} {n:Nat} {p3:Pos} (h:V c ρ k l a (.lst xs)) (hb:V c ρ k l b (.int n)) (hl:xs.length≤2 ^ 24):V c ρ k l (.Subscript a (.Slice (some b) none none p3) pos) (.lst (xs.drop n)):=⟨fun u0 q=>pI (h.go _ (hb.go _ ⟨_,_,rfl,fun t=>.lst (.inr ⟨rfl,_,_,rfl,rfl⟩) hl,q⟩))⟩
theorem wY {xs:List D} {n:Nat} {p3:Pos} (h:V c ρ k l a (.tup xs)) (hb:V c ρ k l b (.int n)) (hn:n < xs.length) (hl:xs.length≤2 ^ 24):V c ρ k l (.Subscript a (.Slice none (some b) none p3) pos) (.tup (xs.take n)):=⟨fun u0 q=>gV (h.go _ (hb.go _ ⟨_,_,rfl,fun t=>.tup (.inl ⟨rfl,_,_,rfl,hn,rfl⟩) hl,q⟩))⟩
theorem xg {xs:List D} {n:Nat} {p3:Pos} (h:V c ρ k l a (.tup xs)) (hb:V c ρ k l b (.int n)) (h1:1≤n) (hn:n≤xs.length) (hl:xs.length≤2 ^ 24):V c ρ k l (.Subscript a (.Slice (some b) none none p3) pos) (.tup (xs.drop n)):=⟨fun u0 q=>pI (h.go _ (hb.go _ ⟨_,_,rfl,fun t=>.tup (.inr ⟨rfl,_,_,rfl,h1,hn,rfl⟩) hl,q⟩))⟩
theorem mE (p:Prg W) (hq:W.qt=true) {pr:Txt × List Txt} {M:Txt} {pl:Nat} (hp:ps[i]? = some pr) (hM:pr.2[pl]? = some M) (hl:ps.length≤2 ^ 16) (hr:∀ p∈ps,p.2.length≤2 ^ 16):di W (n+1) .lawOpened [.im (ba ps),.im (.int i),.im (.int pl)] k (ba (af ps i pr pl M)):=p.xP .lawOpened rfl rfl 3 fun Q X S0 h0 pen A env q=>by
 have hi:=(List.getElem?_eq_some_iff.mp hp).1
 have hpl:=(List.getElem?_eq_some_iff.mp hM).1
 have hr0:=hr pr (List.mem_of_getElem? hp)
 have l62:∀ {m:Nat},m < 2 ^ 16→m < 2 ^ 62:=fun h=>Nat.lt_trans h (by decide)
 have e16:(2:Nat) ^ 16≤2 ^ 20:=by decide
 have e20:(2:Nat) ^ 20≤2 ^ 24:=by decide
 refine pH 3 4 hq ((ay (aa (i:=0) rfl rfl) (aa (i:=1) rfl rfl) (.lst (l62 (Nat.lt_of_lt_of_le hi hl)) (by rw [List.getElem?_map,hp];rfl)) rfl).e1 ⟨_,_,rfl,?_⟩) rfl rfl (fun u0=>rfl) (fun u0=>rfl)
 refine gZ 5 (iW (l:=.im) (ps.map fun p=>(D.tup (txs p.2),p.1 == M)) 2 [("right",4),("place",2),("name",7),("parts",8)] ((aa (i:=0) rfl rfl).src .lst) (by rw [List.length_map];exact Nat.le_trans hl e16) (by rw [List.length_map,List.length_map]) (fun F s cl C dd j d f zs hd hf=>?_) ?_ rfl (fun u0=>rfl)) (.inl rfl) rfl rfl rfl rfl (Nat.le_of_ble_eq_true rfl)
 ·apply iY hd hf;intro x hx
  exact ⟨_,.two (i:=7) (j:=8) hq rfl rfl rfl rfl .im .im,aC (aa (i:=7) rfl rfl) (ay (aa (i:=4) rfl rfl) (aa (i:=2) rfl rfl) (.tup (l62 (Nat.lt_of_lt_of_le hpl hr0)) (by rw [List.getElem?_map,hM];rfl)) rfl) (.eq .str) rfl,fun u0=>aa (i:=8) rfl rfl⟩
 ·have hsm:((((ps.map fun p=>(D.tup (txs p.2),p.1 == M)).filter (·.2)).map (·.1)))=(ps.filter (·.1 == M)).map fun p=>D.tup (txs p.2):=by
   rw [List.filter_map,List.map_map];rfl
  rw [hsm]
  have hfl:(ps.filter (·.1 == M)).length≤2 ^ 16:=Nat.le_trans (List.length_filter_le ..) hl
  have htl:(txs pr.2).length≤2 ^ 16:=by rw [List.length_map];exact hr0
  have ht24:(txs pr.2).length≤2 ^ 24:=Nat.le_trans htl (by decide)
  have hpD:(ps.map pairD).length≤2 ^ 24:=by rw [List.length_map];exact Nat.le_trans hl (by decide)
  have hres:(ps.map pairD).take i++((ps.filter (·.1 == M)).map fun r=>pairD (cM pr pl r.2))++(ps.map pairD).drop (i+1)=(af ps i pr pl M).map pairD:=by
   unfold af
   rw [List.map_append,List.map_append,List.map_take,List.map_drop,List.map_map];rfl
  refine cb 5 rfl rfl (a9 (V.as (d':=ba (af ps i pr pl M)) (eW (eW (wA (aa (i:=0) rfl rfl) (aa (i:=1) rfl rfl) hpD) (ll (l:=.im) ((ps.filter (·.1 == M)).map fun r=>pairD (cM pr pl r.2)) 1 [("left",3),("right",4),("place",2),("parts",7)] ((aa (i:=5) rfl rfl).src .lst) (by rw [List.length_map];exact Nat.le_trans hfl e16) (by rw [List.length_map,List.length_map]) (fun F s cl C dd j d f zs hd hf=>?_) rfl (fun u0=>rfl)) (.xB ?_)) (we (n:=i+1) (aa (i:=0) rfl rfl) (aV (aa (i:=1) rfl rfl) ar .add) hpD) (.xB ?_)) (congrArg D.lst hres)) q)
  ·rw [List.getElem?_map] at hd hf
   obtain ⟨r,hr',rfl⟩:=Option.map_eq_some_iff.mp hd
   have hf:=hr'▸hf
   cases hf
   have hr2:(txs r.2).length≤2 ^ 16:=by rw [List.length_map];exact hr r (List.mem_filter.mp (List.mem_of_getElem? hr')).1
   have hrow:(txs pr.2).take pl++txs r.2++(txs pr.2).drop (pl+1)=txs (cM pr pl r.2).2:=by
    unfold cM txs
    rw [List.map_append,List.map_append,List.map_take,List.map_drop]
   have h1:((txs pr.2).take pl).length≤2 ^ 16:=Nat.le_trans (List.length_take_le' ..) htl
   have h2:((txs pr.2).drop (pl+1)).length≤2 ^ 16:=by rw [List.length_drop];exact Nat.le_trans (Nat.sub_le ..) htl
   have hplD:pl < (txs pr.2).length:=by rw [List.length_map];exact hpl
   exact ⟨_,.one (i:=7) rfl rfl .im,dQ (aa (i:=3) rfl rfl) (V.as (eW (eW (wY (aa (i:=4) rfl rfl) (aa (i:=2) rfl rfl) hplD ht24) (aa (i:=7) rfl rfl) (.xA (Nat.le_trans (Nat.add_le_add h1 hr2) (by decide)))) (xg (n:=pl+1) (aa (i:=4) rfl rfl) (aV (aa (i:=2) rfl rfl) ar .add) (Nat.succ_pos _) hplD ht24) (.xA (by rw [List.length_append];exact Nat.le_trans (Nat.add_le_add (Nat.add_le_add h1 hr2) h2) (by decide)))) (congrArg D.tup hrow)) rfl⟩
  ·rw [List.length_map];exact Nat.le_trans (Nat.add_le_add (Nat.le_trans (List.length_take_le' ..) (by rw [List.length_map];exact hl)) hfl) (by decide)
  ·rw [List.length_append,List.length_map,List.length_drop,List.length_map]
   exact Nat.le_trans (Nat.add_le_add (Nat.add_le_add (Nat.le_trans (List.length_take_le' ..) (by rw [List.length_map];exact hl)) hfl) (Nat.le_trans (Nat.sub_le ..) hl)) (by decide)
end
end Mine
namespace Mine
open PySem PySem.Calls PyProof.Rows PySem.SeqAt PySem.W
section
variable {W:Wd} {n k i j:Nat} {Q:D→Nat→Prop} {X:Nat→Prop} {g:Gr} {c:Cx} {ρ:List Sl} {l:Lv}
inductive NmJ (g:Gr) (m k:Nat):List D→Nat→List O→Nat→Prop
 | mk (ts:List Nat) {i}:ts.Nodup→(∀ t,t∈ts↔m.testBit t=true)→NmJ g m k (ao ts) i ((ts.take i).map fun t=>.leaf (.str (g.names.getD t []))) k
structure rq (g:Gr) (m:Nat) (L:List Txt):Prop where
 srt:L.Pairwise LeT
 prm:∃ ts:List Nat,ts.Nodup∧(∀ t,t∈ts↔m.testBit t=true)∧L.Perm (ts.map fun t=>g.names.getD t [])
theorem jM (p:Prg W) (hg:g.Ok) {m:Nat} (hm:∀ t,m.testBit t=true→t < g.names.length) (h20:m < 2 ^ 20) (q:∀ L,rq g m L→Q (.lst (txs L)) k):a7 W (n+2) .lawNamed [.im g.D,.im (.int m)] k Q X:=p.run .lawNamed rfl rfl 0 fun S0 h0 pen A env=>by
 have n64:=g64 hg
 have hlen:∀ ts:List Nat,ts.Nodup→(∀ t,t∈ts↔m.testBit t=true)→ts.length≤16:=fun ts nd h=>Nat.le_trans (List.length_range (n:=g.names.length)▸nd.length_le_of_subset fun t ht=>List.mem_range.mpr (hm t ((h t).mp ht))) hg.n
 refine d7 (mu (EO.e1 (EC.eo ⟨g5 (l:=.im) (tt:=false) 1 [("grammar",0),("terminal",3)] rfl (fun u0=>rfl) (fun h=>ff h) (NmJ g m k) (rY (aS (f:=.bits) (.im (aa (i:=1) rfl rfl) .nil) (qs (n:=n) p h20 fun ts nd h=>⟨_,.lst,.mk ts nd h⟩) rfl rfl rfl rfl).go) (fun F s cl C dd ds i d zs k' hd h=>?_) fun ds zs k' h=>?_⟩)) rfl rfl)
 ·induction h with
  | @mk ts i nd h=>
  apply aT hd;intro t ht
  have htN:=hm t ((h t).mp (List.mem_of_getElem? ht))
  refine ⟨?_,_,.one (i:=3) rfl rfl .im,⟨fun u0=>(V.eo (ay (ax (aa (i:=0) rfl rfl) dJ rfl) (aa (i:=3) rfl rfl) (.lst (cP (Nat.le_trans (Nat.le_of_lt htN) n64)) (d:=.str (g.names.getD t [])) (by rw [List.getElem?_map,aw (d:=[]) htN];rfl)) rfl) ?_).go,(fun h=>tf h)⟩⟩
  ·rw [List.length_map];exact Nat.lt_of_le_of_lt (Nat.le_trans (List.length_take_le' ..) (hlen ts nd h)) (by decide)
  ·rw [nj ht];exact .mk ts nd h
 ·generalize hi:ds.length=i at h
  induction h with
  | @mk ts i nd h=>
  subst hi
  rw [ai,List.take_length]
  have e:(O.node .lst (ts.map fun t=>.leaf (.str (g.names.getD t [])))).toD=.lst (txs (ts.map fun t=>g.names.getD t [])):=(congrArg (fun xs=>(O.node .lst xs).toD) (show (ts.map fun t=>O.leaf (.str (g.names.getD t [])))=(txs (ts.map fun t=>g.names.getD t [])).map .leaf by rw [txs,List.map_map,List.map_map];rfl)).trans aH
  rw [e]
  exact .strs (by rw [List.length_map];exact Nat.lt_of_le_of_lt (hlen ts nd h) (by decide)) fun ts' hp hs=>q ts' ⟨hs,ts,nd,h,hp⟩
end
end Mine
namespace Mine
open PySem PySem.Calls PyProof.Rows PySem.SeqAt PySem.W
noncomputable def uJ (c:Cx) (x y:Str) (px py:Pos):Bool:=decide (c.names.lookup x=some .local) && decide (c.names.lookup y=some .local) && px.line == py.line && x != y
section
variable {W:Wd} {n k i j:Nat} {Q:D→Nat→Prop} {X:Nat→Prop} {c:Cx} {ρ:List Sl} {l:Lv} {a b f e:Expr} {pos:Pos} {env:Env} {P:Post} {es:List Stmt}
theorem mP {x y:Str} {px py tp p2 q1 q2:Pos} {k k2:Nat} {f1 f2:Expr} {a1 a2:List Expr} {w1 w2:List Keyword} (ho:oZ env c.names) (h:uJ c x y px py=true):swappedStores [.Tuple [.Name x px,.Name y py] k tp] (.Tuple [.Call f1 a1 w1 q1,.Call f2 a2 w2 q2] k2 p2) env=pure (some [x,y]):=by
 have h4:=Bool.and_eq_true_iff.mp h
 have h3:=Bool.and_eq_true_iff.mp h4.1
 have h2:=Bool.and_eq_true_iff.mp h3.1
 have hb:env.blockKind=.function:=by unfold Env.blockKind;rw [ho.kind];rfl
 have hx:(env.kindOf x == some .local && px.line == px.line)=true:=Bool.and_eq_true_iff.mpr ⟨by rw [ho.loc x (of_decide_eq_true h2.1)];rfl,beq_self_eq_true _⟩
 have hy:(env.kindOf y == some .local && py.line == px.line)=true:=Bool.and_eq_true_iff.mpr ⟨by rw [ho.loc y (of_decide_eq_true h2.2)];rfl,beq_iff_eq.mpr (beq_iff_eq.mp h3.2).symm⟩
 have he:([x,y]:List Str).eraseDups=[x,y]:=by
  rw [List.eraseDups_cons,List.filter_cons_of_pos (congrArg _ (beq_eq_false_iff_ne.mpr (bne_iff_ne.mp h4.2).symm))];rfl
 have hn:∀ g:Expr→Option Str,g (.Name x px)=some x→g (.Name y py)=some y→([Expr.Name x px,.Name y py].filterMap g)=[x,y]:=fun g e1 e2=>by
  rw [List.filterMap_cons_some e1,List.filterMap_cons_some e2];rfl
 unfold swappedStores
 refine (if_neg (by rw [hb];exact Bool.false_ne_true)).trans ((if_neg Bool.false_ne_true).trans ?_)
 show (if (List.length (List.filterMap _ _) != _ || _)=true then _ else _)=_
 rw [hn _ (if_pos hx) (if_pos hy),he];rfl
theorem lN {x y:Str} {px py pt p2 q1 q2:Pos} {kk k2} {f1 f2:Expr} {a1 a2:List Expr} {w1 w2:List Keyword} (i j:Nat) (hq:c.W.qt=true) (h:E1 c ρ k .im (.Call f1 a1 w1 q1) fun u k1=>E1 c ρ k1 .im (.Call f2 a2 w2 q2) fun v k2=>TB c ((ρ.set i (.im u)).set j (.im v)) k2 es P) (h1:bL c x i=true) (h2:bL c y j=true) (hij:i≠j) (hs:uJ c x y px py=true):TB c ρ k (.Assign [.Tuple [.Name x px,.Name y py] kk pt] (.Tuple [.Call f1 a1 w1 q1,.Call f2 a2 w2 q2] k2 p2) pos::es) P:=
 .seq (tS hq h1 h2 hij (fun u0=>rfl) (fun ok=>mP ok.env hs) (f7 rfl (h.go.mono fun u k1 h=>h.go.mono fun v k2 q=>⟨Nat.le_of_ble_eq_true rfl,_,_,rfl,q⟩)))
theorem qE {Q:D→Nat→Prop} {kk} (h:E1 c ρ k l a fun u k1=>E1 c ρ k1 l b fun v k2=>Q (.tup [u,v]) k2) (hs:[a,b].all ah=true):E1 c ρ k l (.Tuple [a,b] kk pos) Q:=⟨f7 hs (h.go.mono fun u k1 h=>h.go.mono fun v k2 q=>⟨Nat.le_of_ble_eq_true rfl,q⟩)⟩
theorem vT {Q:D→Nat→Prop} {kk} (h:E1 c ρ k l a fun u k1=>E1 c ρ k1 l b fun v k2=>E1 c ρ k2 l f fun w k3=>Q (.tup [u,v,w]) k3) (hs:[a,b,f].all ah=true):E1 c ρ k l (.Tuple [a,b,f] kk pos) Q:=⟨f7 hs (h.go.mono fun u k1 h=>h.go.mono fun v k2 h=>h.go.mono fun w k3 q=>⟨Nat.le_of_ble_eq_true rfl,q⟩)⟩
theorem nO {ps:AL} {kk:Key} {z:Str} {p1 px:Pos} (i:Nat) (hz:ρ[i]? = some (.own (dO ps))) (h:E1 c ρ k .im e fun d k'=>TB c (ρ.set i (.own (dO (cw ps kk d)))) k' es P) (hb:∀ k,V c ρ k .any b kk.toD) (hk:KdA ps kk) (hl:ps.length≤2 ^ 24) (hs:aO c z i=true) (hacc:c.acc=none) (hc:bE e=true):TB c ρ k (.Assign [.Subscript (.Name z p1) b px] e pos::es) P:=
 .seq (hZ hc hacc (List.getElem?_eq_some_iff.mp hz).1 (bO (h.go.mono fun d k' q=>bI hs hz ⟨_,_,rfl,(hb k').go _ ⟨kk,rfl,hk.ok,by rwa [List.length_map],fun j hj=>pe (by rw [List.length_map,List.length_map]) hj,by
  rw [m7,(jF (d:=d)).1];exact q⟩⟩)))
end
end Mine
namespace Mine
open PySem PySem.Calls PyProof.Rows PySem.SeqAt PySem.W
noncomputable abbrev NlG (g:Gr):Nat→Prop:=Der g.rules fun u0=>False
noncomputable abbrev FiG (g:Gr):Nat→Nat→Prop:=Fi g.rules g.tc (NlG g)
noncomputable abbrev FoG (g:Gr):Nat→Nat→Prop:=Fo g.rules g.tc (NlG g) (FiG g)
structure cD (g:Gr) (S:Nat→Prop) (L:List Txt):Prop where
 srt:L.Pairwise LeT
 prm:∃ ts:List Nat,ts.Nodup∧(∀ t,t∈ts↔S t)∧L.Perm (ts.map fun t=>g.names.getD t [])
inductive rB (g:Gr) (s:Nat):D→Prop
 | mk {b1 b2 L1 L2}:(b1=true↔NlG g s)→(b2=true↔Der g.rules (· < g.tc) s)→cD g (FiG g s) L1→cD g (FoG g s) L2→rB g s (.tup [.tup [.bool b1,.bool b2,.lst (txs L1)],.lst (txs L2)])
section
variable {W:Wd} {n k i j:Nat} {Q:D→Nat→Prop} {X:Nat→Prop} {g:Gr} {c:Cx} {ρ:List Sl} {l:Lv}
theorem rq.s {m:Nat} {L:List Txt} {S:Nat→Prop} (h:rq g m L) (e:∀ t,m.testBit t=true↔S t):cD g S L:=⟨h.srt,by
 obtain ⟨ts,h1,h2,h3⟩:=h.prm
 exact ⟨ts,h1,fun t=>(h2 t).trans (e t),h3⟩⟩
theorem uy {nl F:Nat→Prop} {β:Prop}:∀ {xs:List Nat},Fb nl F β xs→(∃ x∈xs,F x)∨β:=by
 intro xs
 induction xs with
 | nil=>
  exact @fun h=>.inr h
 | cons x xs ihq=>
  exact @fun h=>h.elim (fun h=>.inl ⟨x,List.mem_cons_self,h⟩) fun h=>(ihq h.2).imp_left fun zz0=>by obtain ⟨y,hy,q⟩:=zz0;exact ⟨y,List.mem_cons_of_mem _ hy,q⟩
theorem oR {nl:Nat→Prop} {s t:Nat} (hg:g.Ok) (h:Fi g.rules g.tc nl s t):t < g.names.length:=h (fun u0 t=>t < g.names.length) fun s t q=>by
 rcases q with ⟨h1,rfl⟩ | ⟨r,_,_,q⟩
 ·exact Nat.lt_of_lt_of_le h1 hg.tc
 ·exact (uy q).elim (fun zz1=>by obtain ⟨_,_,h⟩:=zz1;exact h) False.elim
theorem lx {s t:Nat} (hg:g.Ok) (h:FoG g s t):t < g.names.length:=h (fun u0 t=>t < g.names.length) fun s t q=>by
 obtain ⟨r,_,a,b,_,_,q⟩:=q
 exact (uy q).elim (fun zz2=>by obtain ⟨_,_,h⟩:=zz2;exact oR hg h) id
inductive TdJ (a:List Sl) (g:Gr) (ns:List Txt) (k i:Nat):List Sl→Nat→Prop
 | mk {al} (x y z:Sl):(∀ p∈al,p.1.kind=(Key.str []).kind)→al.length≤i→(∀ x∈ns.take i,∃ d,aY al (.str x)=some d∧rB g (ix g.names x) d)→TdJ a g ns k i (a++[.own (dO al),x,y,z]) k
theorem lq (p:Prg W) (hq:W.qt=true) (hg:g.Ok) {ns:List Txt} (hns:∀ x∈ns,x∈g.names) (hl:ns.length≤3) (nd:ns.Nodup) (q:∀ al,(∀ x∈ns,∃ d,aY al (.str x)=some d∧rB g (ix g.names x) d)→(∀ p∈al,p.1.kind=(Key.str []).kind)→Q (dD al) k):a7 W (n+5) .lawTold [.im g.D,.im (.lst (txs ns))] k Q X:=p.run .lawTold rfl rfl 8 fun S0 h0 pen A env=>by
 have n64:=g64 hg
 refine lN 2 3 hq (aS (f:=.nullable) (.im (aa (i:=0) rfl rfl) .nil) (d8 (n:=n+2) p hg fun nl hnl hn=>aS (f:=.productive) (.im (aa (i:=0) rfl rfl) .nil) (lP (n:=n+2) p hg fun pr hpr hp=>?_) rfl rfl rfl rfl) rfl rfl rfl rfl) rfl rfl (by decide) rfl
 refine lN 4 5 hq (aS (f:=.firstMasks) (.im (aa (i:=0) rfl rfl) .nil) (gj (n:=n+1) p hg fun F hFl hF16 hF=>aS (f:=.followMasks) (.im (aa (i:=0) rfl rfl) .nil) (kH (n:=n) p hq hg fun G hGl hG16 hG=>?_) rfl rfl rfl rfl) rfl rfl rfl rfl) rfl rfl (by decide) rfl
 refine aQ 6 (cn ?_) (.inl rfl) rfl rfl
 refine aN (TdJ [.im g.D,.im (.lst (txs ns)),.im (.lst (au nl)),.im (.lst (au pr)),.im (.lst (ao F)),.im (.lst (ao G))] g ns k) (aa (l:=.im) (i:=1) rfl rfl) .lst (.mk (al:=[]) _ _ _ (fun u0 h=>aE h) (Nat.le_refl _) (fun u0 h=>aE h)) (fun h=>by cases h) (fun u0=>rfl) (fun i d ρ k' hd h=>?_) fun ρ k' h=>?_
 ·apply aT hd;intro x hx
  have hxn:=hns x (List.mem_of_getElem? hx)
  have hs:=eY hxn
  have hs62:ix g.names x < 2 ^ 62:=cP (Nat.le_trans (Nat.le_of_lt hs) n64)
  induction h with
  | @mk al y0 y z ha hal hb=>
  refine ⟨_,.one (i:=7) rfl .im,az 8 (i0 (f:=.number) (aa (i:=0) rfl rfl) (.im (aa (i:=7) rfl rfl) .nil) ((rx (n:=0) p hg (h8 hxn)).mono (Nat.le_add_left ..)) rfl rfl rfl rfl (Nat.le_of_ble_eq_true rfl) rfl rfl) ?_ rfl rfl⟩
  have aF:=bR (aw (xs:=F) (d:=0) (hFl.symm▸hs))
  have aG:=bR (aw (xs:=G) (d:=0) (hGl.symm▸hs))
  have kd:KdA al (.str x):=ha
  refine bU 9 (vT ((ay (aa (i:=2) rfl rfl) (aa (i:=8) rfl rfl) (.lst hs62 (cG (hnl.symm▸hs))) rfl).e1 ((ay (aa (i:=3) rfl rfl) (aa (i:=8) rfl rfl) (.lst hs62 (cG (hpr.symm▸hs))) rfl).e1 (aS (f:=.lawNamed) (.im (aa (i:=0) rfl rfl) (.im (ay (aa (i:=4) rfl rfl) (aa (i:=8) rfl rfl) (.lst hs62 aF) rfl) .nil)) (jM (n:=n+2) p hg (fun t ht=>oR hg ((hF _ t hs).mp ht)) (Nat.lt_trans (hF16 _) (by decide)) fun L1 h1=>?_) rfl rfl rfl rfl))) rfl) rfl rfl
  refine nO (kk:=.str x) 6 rfl (qE ((aa (i:=9) rfl rfl).e1 (aS (f:=.lawNamed) (.im (aa (i:=0) rfl rfl) (.im (ay (aa (i:=5) rfl rfl) (aa (i:=8) rfl rfl) (.lst hs62 aG) rfl) .nil)) (jM (n:=n+2) p hg (fun t ht=>lx hg ((hG _ t hs).mp ht)) (Nat.lt_trans (hG16 _) (by decide)) fun L2 h2=>aj (.mk _ _ _ ?_ ?_ ?_)) rfl rfl rfl rfl)) rfl) (fun u0=>aa (i:=7) rfl rfl) kd (Nat.le_trans hal ?_) rfl rfl rfl
  ·exact KdA.set (k':=.str []) ha rfl
  ·exact Nat.le_trans sV (Nat.succ_le_succ hal)
  ·intro y hy
   by_cases e:y=x
   ·subst e
    exact ⟨_,fz,.mk (hn _ hs) (hp _ hs) (h1.s fun t=>hF _ t hs) (h2.s fun t=>hG _ t hs)⟩
   ·refine Eq.symm (iX fun q=>e (vX q).symm)▸?_
    rw [List.take_add_one,hx,List.mem_append] at hy
    exact hb y (hy.resolve_right fun q=>e (List.mem_singleton.mp q))
  ·have:=(List.getElem?_eq_some_iff.mp hx).1
   exact Nat.le_trans (Nat.le_of_lt (Nat.lt_of_lt_of_le this hl)) (by decide)
 ·rw [List.length_map] at h
  generalize hi:ns.length=i at h
  induction h with
  | @mk al x y z ha hal hb=>
  subst hi
  have hb:=List.take_length▸hb
  exact dS 6 rfl rfl (a9 (aa (i:=6) rfl rfl) (q al hb ha))
end
end Mine
namespace Mine
open PySem PySem.Calls PyProof.Rows PySem.SeqAt PySem.W
noncomputable def nmw (g:Gr) (w:Word):Txt:=(w.map fun t=>g.names.getD t []).flatten
structure aR (g:Gr) (al:AL) (T:Word→Prop) (f:Word→Int):Prop where
 kd:∀ p∈al,p.1.kind=(Key.str []).kind
 nd:(al.map (·.1)).Nodup
 at_:∀ u d,aY al (.str u)=some d↔∃ w,T w∧nmw g w=u∧d=.int (f w)
section
variable {W:Wd} {n k i j:Nat} {Q:D→Nat→Prop} {X:Nat→Prop} {g:Gr} {c:Cx} {ρ:List Sl} {l:Lv} {al:AL} {T T':Word→Prop} {f:Word→Int} {v w:Word}
theorem aR.nil (h:∀ w,¬ T w):aR g [] T f:=⟨(fun u0 h=>aE h),.nil,fun u d=>⟨(fun h=>no1 h),fun zz0=>by obtain ⟨w,q,_⟩:=zz0;exact absurd q (h w)⟩⟩
theorem aR.congr (h:aR g al T f) (e:∀ w,T w↔T' w):aR g al T' f:=⟨h.kd,h.nd,fun u d=>(h.at_ u d).trans (exists_congr fun w=>and_congr_left fun u0=>e w)⟩
theorem aR.add (h:aR g al T f) (hi:∀ w,T w→nmw g w=nmw g v→w=v):aR g (cw al (.str (nmw g v)) (.int (f v))) (fun w=>T w∨w=v) f:=⟨KdA.set (k':=.str []) h.kd rfl,kh h.nd,fun u d=>by
 by_cases e:nmw g v=u
 ·subst e
  rw [fz]
  exact ⟨fun q=>⟨v,.inr rfl,rfl,(Option.some.inj q).symm⟩,fun zz1=>by
   obtain ⟨w,hw,e,q⟩:=zz1
   have:w=v:=hw.elim (fun hw=>hi w hw e) id
   rw [q,this]⟩
 ·rw [iX fun q=>e (vX q),h.at_]
  exact exists_congr fun w=>⟨fun q=>⟨.inl q.1,q.2⟩,fun q=>⟨q.1.resolve_right fun e'=>e (e'▸q.2.1),q.2⟩⟩⟩
theorem aR.len (h:aR g al T f) {ws:List Word} (hT:∀ w,T w→w∈ws):al.length≤ws.length:=by
 have:=h.nd.length_le_of_subset (l₂:=ws.map fun w=>Key.str (nmw g w)) fun kk hk=>by
  have hs:=bz.mpr hk
  obtain ⟨p,hp,rfl⟩:=List.mem_map.mp hk
  have hkind:=h.kd p hp
  obtain ⟨u,hu⟩:∃ u,p.1=.str u:=by
   cases e:p.1 with
   | str u=>exact ⟨u,rfl⟩
   | int _=>have hkind:=e▸hkind;cases hkind
   | tup _=>have hkind:=e▸hkind;cases hkind
  rw [hu] at hs ⊢
  cases e:aY al (.str u) with
  | none=>have hs:=e▸hs;cases hs
  | some d=>
   obtain ⟨w,hw,e1,_⟩:=(h.at_ u d).mp e
   exact List.mem_map.mpr ⟨w,hT w hw,congrArg _ e1⟩
 rwa [List.length_map,List.length_map] at this
theorem ru {e:Expr} {kk} {apos pos p2:Pos} {ss:List Txt} (h:V c ρ k .any e (.lst (txs ss))) (hl:ss.flatten.length≤2 ^ 24) (hs:ah e=true) (hp:(apos.endLine == pos.line)=true):V c ρ k l (.Call (.Attribute (.Constant (.str "") kk p2) "join" apos) [e] [] pos) (.str ss.flatten):=⟨fun u0 q=>ug hs hp (h.go _ ⟨ss,rfl,hl,q⟩)⟩
noncomputable def c8 (g:Gr) (t:Nat):Prop:=t < g.names.length∧g.names.getD t []∈TM
theorem iT (h:∀ t∈w,c8 g t):(nmw g w).length=w.length:=by
 induction w with
 | nil=>rfl
 | cons a w ih=>
  have h1:=(h a List.mem_cons_self).2
  have h2:=ih fun t ht=>h t (List.mem_cons_of_mem _ ht)
  unfold nmw at h2 ⊢
  rw [List.map_cons,List.flatten_cons,List.length_append,h2,List.length_cons]
  have:∀ x∈TM,x.length=1:=by decide
  rw [this _ h1,Nat.add_comm]
theorem lA (nd:g.names.Nodup):∀ {v w:Word},(∀ t∈v,c8 g t)→(∀ t∈w,c8 g t)→nmw g v=nmw g w→v=w
 | [],[],_,_,_=>rfl
 | [],b::w,_,h,e=>by have:=congrArg List.length e;have this:=(iT h)▸this;cases this
 | a::v,[],h,_,e=>by have:=congrArg List.length e;have this:=(Eq.symm (iT h)).trans this;cases this
 | a::v,b::w,h,h',e=>by
  have ha:=h a List.mem_cons_self
  have hb:=h' b List.mem_cons_self
  have e:g.names.getD a []++nmw g v=g.names.getD b []++nmw g w:=e
  have l1:∀ x∈TM,x.length=1:=by decide
  obtain ⟨e1,e2⟩:=List.append_inj e ((l1 _ ha.2).trans (l1 _ hb.2).symm)
  have:a=b:=(List.getElem?_inj ha.1 nd).mp (by rw [aw (d:=[]) ha.1,aw (d:=[]) hb.1,e1])
  rw [this,lA nd (fun t ht=>h t (List.mem_cons_of_mem _ ht)) (fun t ht=>h' t (List.mem_cons_of_mem _ ht)) e2]
end
section
variable {W:Wd} {n k i j:Nat} {Q:D→Nat→Prop} {X:Nat→Prop} {g:Gr} {c:Cx} {ρ:List Sl} {l:Lv} {v w:Word}
inductive LwA (a:List Sl) (g:Gr) (T:Nat→Word→Prop) (f:Word→Int) (k i:Nat):List Sl→Nat→Prop
 | mk {al} (x y:Sl):aR g al (T i) f→LwA a g T f k i (a++[.own (dO al),x,y]) k
inductive LwB (a:List Sl) (g:Gr) (z:Sl) (T:Nat→Word→Prop) (f:Word→Int) (k i:Nat):List Sl→Nat→Prop
 | mk {al} (y:Sl):aR g al (T i) f→LwB a g z T f k i (a++[.own (dO al),z,y]) k
inductive hO (g:Gr) (st:Nat):D→Prop
 | tally {C al}:pX g→mx g.rules g.tc g.names.length C→aR g al (fun w=>w.length≤3∧C st w≠0) (fun w=>C st w)→hO g st (dD al)
 | ring {al}:o8 g→aR g al (Lg g.rules g.tc st) (fun u0=>0)→hO g st (dD al)
inductive LwJ (a:List Sl) (g:Gr) (st k:Nat) (ds:List D) (i:Nat):List Sl→Nat→Prop
 | mk {C al} {ps:Nat→AL} (x y:Sl):pX g→mx g.rules g.tc g.names.length C→ds=(List.range 4).map (fun m=>dD (ps m))→(∀ m,m < 4→bJ (ps m) fun w=>if w.length=m then C st w else 0)→aR g al (fun w=>w.length < i∧C st w≠0) (fun w=>C st w)→LwJ a g st k ds i (a++[.own (dO al),x,y]) k
inductive LwH (a:List Sl) (g:Gr) (st k:Nat) (ds:List D) (i:Nat):List Sl→Nat→Prop
 | mk {al} (x y:Sl):(∀ d,d∈ds↔∃ w,Lg g.rules g.tc st w∧d=.tup (ao w))→aR g al (fun w=>.tup (ao w)∈ds.take i) (fun u0=>0)→LwH a g st k ds i (a++[.own (dO al),x,y]) k
theorem jB {u v:List Nat} (h:ao u=ao v):u=v:=(List.map_inj_right (f:=fun (i:Nat)=>D.int i) fun u0 u0 q=>Int.ofNat.inj (dint q)).mp h
theorem nG (p:Prg W) (p':Prg W.loud) (hq:W.qt=true) (hg:g.Ok) (nd:g.names.Nodup) (h4:g.names.length≤g.tc+4) (h5:∀ r∈g.rules,r.r.length≤5) (r0:R) (st:Nat) (hr0:g.rules[0]? = some r0) (hst:r0.r[0]? = some st) (htc:g.tc≤st) (hstart:g.start=st)
  (hC:∀ C,pX g→mx g.rules g.tc g.names.length C→∀ w,w.length≤3→C st w≠0→∀ t∈w,c8 g t) (hL:∀ w,Lg g.rules g.tc st w→w.length≤2∧∀ t∈w,c8 g t) (W7:List Word) (h7:W7.length < 64) (hw7:∀ w,Lg g.rules g.tc st w→w∈W7)
  (q:∀ d,hO g st d→Q d k):a7 W (n+5) .lawWords [.im g.D] k Q X:=p.run .lawWords rfl rfl 3 fun S0 h0 pen A env=>by
 have n64:=g64 hg
 have hstN:=hg.r r0 (List.mem_of_getElem? hr0) st (List.mem_of_getElem? hst)
 obtain ⟨T,fI,EC⟩:=p.exc
 refine aQ 1 (cn (.seq (vY rfl EC hq rfl ?_))) (.inl rfl) rfl rfl
 refine TB.go (lO (LwJ [.im g.D] g st k) (jD (f:=.treeCounts) (.im (aa (i:=0) rfl rfl) (.im ar .nil)) (l9 (n:=n) p hq hg h4 h5 r0 st hr0 hst htc (fun C fs ho ht zz2=>by obtain ⟨ps,e,hps⟩:=zz2;exact ⟨_,.lst,.mk (al:=[]) _ _ ho ht e hps (.nil fun w h=>Nat.not_lt_zero _ h.1)⟩) fun hR a=>?_) rfl rfl rfl rfl) (fun u0=>rfl) (fun ds i d ρ k' hd h=>?_) fun ds ρ k' h=>?_)
 ·refine TB.go (lO (LwH [.im g.D] g st k) (E1.ex (aS (f:=.wordsUpTo) (.im (aa (i:=0) rfl rfl) (.im ar .nil)) (mQ (n:=n+1) (X:=NoX) p' hg (hstart▸hstN) W7 h7 (hstart▸hw7) fun ds hds=>⟨_,.lst,.mk (al:=[]) _ _ (hstart▸hds) (.nil fun w=>(fun h=>aE h))⟩) rfl rfl rfl rfl)) (fun u0=>rfl) (fun ds i d ρ k' hd h=>?_) fun ds ρ k' h=>?_)
  ·induction h with
   | @mk al x y hds hw=>
   obtain ⟨v,hv,rfl⟩:=(hds d).mp (List.mem_of_getElem? hd)
   obtain ⟨hv2,hvl⟩:=hL v hv
   have hT:∀ w,.tup (ao w)∈ds.take i→Lg g.rules g.tc st w:=fun w h=>by
    obtain ⟨u,hu,e⟩:=(hds _).mp (List.mem_of_mem_take h)
    exact jB (by injection e with _ e)▸hu
   refine ⟨_,.one (i:=3) rfl .im,b7 (k:=.str (nmw g v)) (d:=.int 0) 1 rfl ar (ru (ss:=v.map fun t=>g.names.getD t []) (ll (l:=.im) (txs (v.map fun t=>g.names.getD t [])) 1 [("grammar",0),("sign",5)] ((aa (i:=3) rfl rfl).src .tup) (by rw [ai];exact Nat.le_trans hv2 (by decide)) (by rw [List.length_map,List.length_map,ai]) (fun F s cl C' dd j d f zs hd hf=>?_) rfl (fun u0=>rfl)) ?_ rfl rfl) hw.kd (Nat.le_trans (hw.len fun w h=>hw7 w (hT w h)) (Nat.le_trans (Nat.le_of_lt h7) (by decide))) (aj (.mk _ _ hds ((hw.add (v:=v) fun w h e=>lA nd (hL w (hT w h)).2 hvl e).congr fun w=>?_))) rfl rfl rfl⟩
   ·apply aT hd;intro t ht
    rw [List.getElem?_map,List.getElem?_map,ht] at hf
    cases hf
    have htN:=(hvl t (List.mem_of_getElem? ht)).1
    exact ⟨_,.one (i:=5) rfl rfl .im,ay (ax (aa (i:=0) rfl rfl) dJ rfl) (aa (i:=5) rfl rfl) (.lst (cP (Nat.le_trans (Nat.le_of_lt htN) n64)) (by rw [List.getElem?_map,aw (d:=[]) htN];rfl)) rfl⟩
   ·exact Nat.le_trans (Nat.le_of_eq (iT hvl)) (Nat.le_trans hv2 (by decide))
   ·rw [List.take_add_one,hd]
    show _↔_∈_++[_]
    rw [List.mem_append,List.mem_singleton]
    exact or_congr_right ⟨fun e=>e▸rfl,fun e=>jB (by injection e with _ e)⟩
  ·generalize hi:ds.length=i at h
   induction h with
   | @mk al x y hds hw=>
   subst hi
   rw [List.take_length] at hw
   refine aj ⟨(fun h=>by cases h),dS 1 rfl rfl (a9 (aa (i:=1) rfl rfl) (q _ (.ring hR (hw.congr fun w=>?_))))⟩
   rw [hds]
   exact ⟨fun zz3=>by obtain ⟨v,hv,e⟩:=zz3;exact jB (by injection e with _ e)▸hv,fun h=>⟨w,h,rfl⟩⟩
 ·induction h with
  | @mk C al ps x y ho ht e hps hw=>
  subst e
  rw [List.getElem?_map] at hd
  have hi:i < 4:=by
   refine Nat.lt_of_not_le fun q=>?_
   rw [List.getElem?_eq_none (List.length_range▸q)] at hd;cases hd
  rw [List.getElem?_range hi] at hd
  cases hd
  have hpi:=hps i hi
  have hTw:∀ j w,(C st w≠0∧(w.length < i∨w.length=i∧cY ((ps i).map (·.1)) j w))→w.length≤3∧∀ t∈w,c8 g t:=fun j w h=>by
   have hl:w.length≤3:=by have:=h.2;lia
   exact ⟨hl,hC C ho ht w hl h.1⟩
  refine ⟨_,.one (i:=2) rfl .im,aN (LwB [.im g.D] g (.im (dD (ps i))) (fun j w=>C st w≠0∧(w.length < i∨w.length=i∧cY ((ps i).map (·.1)) j w)) (fun w=>C st w) k) (aa (l:=.im) (i:=2) rfl rfl) .dct (.mk y (hw.congr fun w=>?_)) (fun h=>by cases h) (fun u0=>rfl) (fun j d ρ k' hd h=>?_) fun ρ k' h=>?_⟩
  ·exact ⟨fun h=>⟨h.2,.inl h.1⟩,fun h=>⟨h.2.resolve_right fun q=>(aE q.2),h.1⟩⟩
  ·obtain ⟨v,rfl,hv,hkv⟩:=hpi.ks.at hd
   induction h with
   | @mk al y hw=>
   have hvi:v.length=i:=Decidable.byContradiction fun q=>hv (if_neg q)
   have hvc:(if v.length=i then C st v else 0)=C st v:=if_pos hvi
   have hv0:C st v≠0:=hvc▸hv
   have hv3:v.length≤3:=by lia
   have hvl:=hC C ho ht v hv3 hv0
   refine ⟨_,.one (i:=3) rfl .im,b7 (k:=.str (nmw g v)) (d:=.int (C st v)) 1 rfl (hvc▸lj hpi hv (aa (i:=2) rfl rfl) (dp (i:=3) rfl rfl bZ.symm) rfl) (ru (ss:=v.map fun t=>g.names.getD t []) (ll (l:=.im) (txs (v.map fun t=>g.names.getD t [])) 1 [("grammar",0),("sign",5)] ((aa (i:=3) rfl rfl).src .tup) (by rw [ai];exact Nat.le_trans hv3 (by decide)) (by rw [List.length_map,List.length_map,ai]) (fun F s cl C' dd j d f zs hd hf=>?_) rfl (fun u0=>rfl)) ?_ rfl rfl) hw.kd (Nat.le_trans (hw.len (ws:=ws3 3) fun w h=>l7 (hTw j w h).1 fun x hx=>Nat.lt_of_lt_of_le ((hTw j w h).2 x hx).1 hg.n) (by decide +kernel)) (aj (.mk _ ((hw.add (v:=v) fun w h e=>lA nd (hTw j w h).2 hvl e).congr fun w=>?_))) rfl rfl rfl⟩
   ·apply aT hd;intro t ht
    rw [List.getElem?_map,List.getElem?_map,ht] at hf
    cases hf
    have htN:=(hvl t (List.mem_of_getElem? ht)).1
    exact ⟨_,.one (i:=5) rfl rfl .im,ay (ax (aa (i:=0) rfl rfl) dJ rfl) (aa (i:=5) rfl rfl) (.lst (cP (Nat.le_trans (Nat.le_of_lt htN) n64)) (by rw [List.getElem?_map,aw (d:=[]) htN];rfl)) rfl⟩
   ·exact Nat.le_trans (Nat.le_of_eq (iT hvl)) (Nat.le_trans hv3 (by decide))
   ·rw [cQ hkv]
    exact ⟨fun h=>h.elim (fun h=>⟨h.1,h.2.imp_right fun q=>⟨q.1,.inl q.2⟩⟩) fun e=>(by subst e;exact ⟨hv0,.inr ⟨hvi,.inr rfl⟩⟩),fun h=>h.2.elim (fun q=>.inl ⟨h.1,.inl q⟩) fun q=>q.2.elim (fun r=>.inl ⟨h.1,.inr ⟨q.1,r⟩⟩) .inr⟩
  ·induction h with
   | @mk al y hw=>
   refine aj (.mk _ _ ho ht rfl hps (hw.congr fun w=>?_))
   rw [eV hpi.ks,Nat.lt_succ_iff_lt_or_eq]
   exact ⟨fun h=>⟨h.2.imp_right And.left,h.1⟩,fun h=>⟨h.2,h.1.imp_right fun e=>⟨e,by rw [if_pos e];exact h.2⟩⟩⟩
 ·generalize hi:ds.length=i at h
  induction h with
  | @mk C al ps x y ho ht e hps hw=>
  subst hi
  refine aj (dS 1 rfl rfl (a9 (aa (i:=1) rfl rfl) (q _ (.tally ho ht (hw.congr fun w=>?_)))))
  rw [e,List.length_map,List.length_range]
  exact and_congr_left fun u0=>Nat.lt_succ_iff
end
end Mine
namespace Mine
open PySem PySem.Calls PyProof.Rows PySem.SeqAt PySem.W
structure RlI (m i:Nat) (ps:PR):Prop where
 nt:∀ p∈ps,p.1∈NT.take m
 all:∀ x∈NT.take i,x∈ps.map (·.1)
 len:ps.length≤4 * i
 row:∀ p∈ps,p.2.length≤3∧∀ x∈p.2,x∈NT.take m∨x∈TM
 ins:0 < i→∃ p∈ps,∃ x∈p.2,x∈NT.take m
structure RlJ (m i many j:Nat) (nm:Txt) (ps:PR):Prop where
 nt:∀ p∈ps,p.1∈NT.take m
 all:∀ x∈NT.take i,x∈ps.map (·.1)
 me:0 < j→nm∈ps.map (·.1)
 len:ps.length≤4 * i+j
 row:∀ p∈ps,p.2.length≤3∧∀ x∈p.2,x∈NT.take m∨x∈TM
 ins:0 < i∨j=many→∃ p∈ps,∃ x∈p.2,x∈NT.take m
section
variable {W:Wd} {n k i j m:Nat} {Q:D→Nat→Prop} {X:Nat→Prop} {c:Cx} {ρ:List Sl} {l:Lv} {a b e:Expr} {pos pos' p2:Pos} {z zp:Str} {many:Nat} {nm:Txt} {ps:PR}
theorem RlI.start (h:RlI m i ps) (hm:0 < many):RlJ m i many 0 nm ps:=⟨h.nt,h.all,(fun h=>by cases h),h.len,h.row,fun q=>h.ins (q.resolve_right fun e=>Nat.ne_of_lt hm e)⟩
theorem RlJ.add (h:RlJ m i many j nm ps) {row:List Txt} (hn:nm∈NT.take m) (hl:row.length≤3) (hr:∀ x∈row,x∈NT.take m∨x∈TM) (hi:i=0→j+1=many→∃ x∈row,x∈NT.take m) (hj:j < many):RlJ m i many (j+1) nm (ps++[(nm,row)]):=by
 have mem:∀ {p:Txt × List Txt},p∈ps++[(nm,row)]→p∈ps∨p=(nm,row):=fun h=>(List.mem_append.mp h).imp_right List.mem_singleton.mp
 refine ⟨fun p hp=>(mem hp).elim (h.nt p) fun e=>e▸hn,fun x hx=>?_,fun u0=>?_,?_,fun p hp=>(mem hp).elim (h.row p) fun e=>e▸⟨hl,hr⟩,fun q=>?_⟩
 ·rw [List.map_append];exact List.mem_append_left _ (h.all x hx)
 ·rw [List.map_append];exact List.mem_append_right _ List.mem_cons_self
 ·exact List.length_append▸Nat.succ_le_succ h.len
 ·by_cases e:0 < i
  ·obtain ⟨p,hp,q⟩:=h.ins (.inl e)
   exact ⟨p,List.mem_append_left _ hp,q⟩
  ·exact ⟨_,List.mem_append_right _ List.mem_cons_self,hi (Nat.eq_zero_of_not_pos e) (q.resolve_left e)⟩
theorem RlJ.next (h:RlJ m i many many nm ps) (hm:0 < many) (h4:many≤4) (hn:NT[i]? = some nm):RlI m (i+1) ps:=⟨h.nt,fun x hx=>by
 rw [List.take_add_one,hn] at hx
 exact (List.mem_append.mp hx).elim (h.all x) fun q=>List.mem_singleton.mp q▸h.me hm,Nat.le_trans h.len (by lia),h.row,fun u0=>h.ins (.inr rfl)⟩
theorem eR (p:Prg c.W) (hp:aO c zp i=true) (hz:ρ[i]? = some .pen) (h:V c ρ k .im e (.int m)) (h0:0 < m) (h1:m < 2 ^ 30) (hk:k < 2 ^ 50) (q:∀ (d:Nat) k',d < m→k'≤k+1→Q (.int d) k') (hn:1≤c.n) (hx:z=strV (aX .lawDraw)) (hg:c.names.lookup z=some .globalImplicit) (hs:ah e=true):E1 c ρ k l (.Call (.Name z pos') [.Name zp p2,e] [] pos) Q:=
 aS (f:=.lawDraw) (.pen hp hz (.im h .nil)) ((pQ (n:=0) p h0 h1 hk q).mono hn) hx hg rfl (by rw [List.all_cons,List.all_cons,hs];rfl)
theorem wa {u v:Int} (hq:c.W.qt=true) (h1:V c ρ k .any a (.int u)) (h2:V c ρ k .any b (.int v)) (hx:cF c "max" = true) (hs:[a,b].all ah=true):V c ρ k l (.Call (.Name "max" pos') [a,b] [] pos) (.int (if v > u then v else u)):=⟨fun u0 q=>vV hq hx hs ((h1.fl rfl).go _ ((h2.fl rfl).go _ ⟨_,_,rfl,rfl,q⟩))⟩
theorem sC {op:Operator} (h:E1 c ρ k .any a fun x k1=>E1 c ρ k1 .any b fun y k2=>∃ i j r,x=.int i∧y=.int j∧IOp op i j r∧Q (.int r) k2):E1 c ρ k l (.BinOp a op b pos) Q:=⟨dZ (h.go.mono fun u0 u0 h=>h.go)⟩
end
end Mine
namespace Mine
open PySem PySem.Calls PyProof.Rows PySem.SeqAt PySem.W
section
variable {W:Wd} {n k i j m:Nat} {Q:D→Nat→Prop} {X:Nat→Prop} {c:Cx} {ρ:List Sl} {l:Lv} {a b e f:Expr} {x y z:D} {pos p3:Pos}
theorem uU (h:V c ρ k l a x) (h2:V c ρ k l b y) (h3:V c ρ k l f z) (hs:[a,b,f].all ah=true):V c ρ k l (.List [a,b,f] pos) (.lst [x,y,z]):=⟨fun u0 q=>jf hs (h.go _ (h2.go _ (h3.go _ ⟨Nat.le_of_ble_eq_true rfl,q⟩)))⟩
theorem wD {xs:List D} (h:V c ρ k l a (.lst xs)) (hl:xs.length≤2 ^ 24) (hb:E1 c ρ k l b fun y k2=>∃ n:Nat,y=.int n∧Q (.lst (xs.take n)) k2):E1 c ρ k l (.Subscript a (.Slice none (some b) none p3) pos) Q:=⟨gV (h.go _ (hb.go.mono fun y k2 q=>by
 obtain ⟨n,rfl,q⟩:=q
 exact ⟨_,_,rfl,fun t=>.lst (.inl ⟨rfl,_,_,rfl,rfl⟩) hl,q⟩))⟩
theorem xj {cop} (h:E1 c ρ k .any a fun x k1=>E1 c ρ k1 .any b fun y k2=>∃ r,Cmp c cop x y r∧Q (.bool r) k2) (hm:behindInMarks cop b=false):E1 c ρ k l (.Compare a [cop] [b] pos) Q:=⟨rZ hm (h.go.mono fun u0 u0 h=>h.go)⟩
theorem oy (h:V c ρ k l a x) (h2:E1 c ρ k .any b fun y k2=>∃ r,iQ c x y r∧Q r k2) (hs:bQ b=true):E1 c ρ k l (.Subscript a b pos) Q:=⟨oG hs (h.go _ h2.go)⟩
inductive RlS (a:List Sl) (m k0 i:Nat):List Sl→Nat→Prop
 | mk {ps k} (x4 x5 x6 x7 x8:Sl):RlI m i ps→k≤k0+21 * i→RlS a m k0 i (a++[.own (.lst (ps.map pairD)),x4,x5,x6,x7,x8]) k
inductive RlT (a:List Sl) (z4 z5:Sl) (m i many:Nat) (nm:Txt) (k0 j:Nat):List Sl→Nat→Prop
 | mk {ps k} (x6 x7 x8:Sl):RlJ m i many j nm ps→k≤k0+5 * j→RlT a z4 z5 m i many nm k0 j (a++[.own (.lst (ps.map pairD)),z4,z5,x6,x7,x8]) k
inductive RwJ (sm:List Txt) (k0:Nat):List D→Nat→List O→Nat→Prop
 | mk (d:Nat) (xs:List Txt) {i k}:d < 3→xs.length=i→(∀ x∈xs,x∈sm)→k≤k0+1+i→RwJ sm k0 (cj 0 d) i (xs.map fun x=>.leaf (.str x)) k
inductive RwI (a:List Sl) (P:List Txt→Prop) (k0:Nat):List Sl→Nat→Prop
 | mk {row k}:P row→k≤k0→RwI a P k0 (a++[.own (.lst (txs row))]) k
theorem fX:(NT.take m).length=min m 3:=List.length_take
theorem wb {xs:List Txt} {n:Nat} {y:Txt}:(txs (xs.take n++y::xs.drop n)).map O.leaf=((txs xs).map .leaf).take n++.leaf (.str y)::((txs xs).map .leaf).drop n:=by
 unfold txs
 rw [List.map_append,List.map_append,List.map_cons,List.map_cons,List.map_take,List.map_take,List.map_drop,List.map_drop]
theorem kb {b c:Nat} (hk:k≤2 ^ 40) (h:b≤k+c) (hc:c≤2 ^ 10):b < 2 ^ 50:=Nat.lt_of_le_of_lt (Nat.le_trans h (Nat.add_le_add hk hc)) (by decide)
theorem k44 {b:Nat} (h:b≤k+2+21 * i) (hi:i < 3):b≤k+44:=Nat.le_trans h (Nat.add_le_add_left (Nat.mul_le_mul_left 21 (Nat.le_of_lt_succ hi)) (k+2))
theorem k60 {b:Nat} (h:b≤k+2+21 * i+1+5 * j) (hi:i < 3) (hj:j < 4):b≤k+60:=Nat.le_trans h (Nat.add_le_add (d:=15) (b:=k+45) (Nat.succ_le_succ (k44 (Nat.le_refl _) hi)) (Nat.mul_le_mul_left 5 (Nat.le_of_lt_succ hj)))
theorem k66 {b:Nat} (h:b≤k+2+21 * i+1+5 * j) (hj:j≤4):b≤k+2+21 * (i+1):=Nat.le_trans h (Nat.add_le_add_left (Nat.mul_le_mul_left 5 hj:5 * j≤20) (k+2+21 * i+1))
theorem k63 {a b c:Nat} (h:c≤b+1+a) (hb:b≤k+60) (ha:a≤2):c≤k+63:=Nat.le_trans h (Nat.add_le_add (b:=k+61) (Nat.succ_le_succ hb) ha)
theorem nV (p:Prg W) (hq:W.qt=true) (hk:k≤2 ^ 40) (q:∀ m ps k',1≤m→m≤3→RlI m m ps→k'≤2 ^ 41→Q (ba ps) k'):a7 W (n+2) .lawRules [.pen] k Q X:=p.run .lawRules rfl rfl 8 fun S0 h0 pen A env=>by
 refine bU 1 (wD (xs:=txs NT) (uU cZ cZ cZ rfl) (by decide) (sC (ar.e1 (eR (i:=0) p rfl rfl ar (m:=3) (by decide) (by decide) (kb hk (Nat.le_add_right k 0) (by decide)) (fun d k1 hd hk1=>⟨_,_,_,rfl,rfl,.add,1+d,rfl,?_⟩) (Nat.le_add_left ..) rfl rfl rfl)))) rfl rfl
 refine bU 2 (xj (eR (i:=0) p rfl rfl ar (m:=4) (by decide) (by decide) (kb hk hk1 (by decide)) (fun d2 k2 hd2 hk2=>ar.e1 ⟨_,.gt,?_⟩) (Nat.le_add_left ..) rfl rfl rfl) rfl) rfl rfl
 generalize decide ((0:Int) < d2)=pl
 refine aQ 3 (bS ?_) (.inl rfl) rfl rfl
 have hnm:(txs NT).take (1+d)=txs (NT.take (1+d)):=List.map_take.symm
 refine hnm▸?_
 generalize hm:1+d=m
 have hm3:m≤3:=hm▸(Nat.add_comm 1 d▸hd:1+d≤3)
 have hm0:0 < m:=hm▸Nat.lt_of_lt_of_le Nat.zero_lt_one (Nat.le_add_right 1 d)
 have hk2':k2≤k+2:=Nat.le_trans hk2 (Nat.succ_le_succ hk1)
 refine aN (RlS [.pen,.im (.lst (txs (NT.take m))),.im (.bool pl)] m (k+2)) (aa (l:=.im) (i:=1) rfl rfl) .lst (.mk (ps:=[]) _ _ _ _ _ ⟨(fun u0 h=>aE h),(fun u0 h=>aE h),Nat.zero_le _,(fun u0 h=>aE h),fun h=>absurd h (Nat.lt_irrefl 0)⟩ hk2') (fun h=>by cases h) (fun u0=>rfl) (fun i d ρ k' hd' h=>?_) fun ρ k' h=>?_
 ·apply aT hd';intro nm hnm
  have him:i < m:=by
   have:=(List.getElem?_eq_some_iff.mp hnm).1
   rw [fX] at this;exact Nat.lt_of_lt_of_le this (Nat.min_le_left ..)
  have hi3:i < 3:=Nat.lt_of_lt_of_le him hm3
  have hnt:NT[i]? = some nm:=by rwa [List.getElem?_take_of_lt him] at hnm
  have hnm':=List.mem_of_getElem? hnm
  have hml:((txs (NT.take m)).length:Int)=m:=by rw [List.length_map,fX,Nat.min_eq_left hm3]
  have hm24:(txs (NT.take m)).length≤2 ^ 10:=by rw [List.length_map,fX];exact Nat.le_trans (Nat.min_le_right ..) (by decide)
  obtain ⟨M,hM1,hM3,hM⟩:∃ M:Nat,0 < M∧M≤3∧(if (4:Int) - ((txs (NT.take m)).length:Int) > 2 then (4:Int) - ((txs (NT.take m)).length:Int) else 2)=(M:Int):=by
   rw [hml]
   by_cases e:m=1
   ·exact ⟨3,by decide,by decide,by subst e;rfl⟩
   ·exact ⟨2,by decide,by decide,if_neg (by lia)⟩
  induction h with
  | @mk ps k' x4 x5 x6 x7 x8 h hk'=>
  refine ⟨_,.one (i:=4) rfl .im,?_⟩
  refine bU 5 (sC (sC (ar.e1 (eR (i:=0) (m:=M) p rfl rfl (V.as (wa hq ar (aV ar (cy (aa (i:=1) rfl rfl) (.xn (Nat.le_trans hm24 (by decide))) rfl rfl) .sub) rfl rfl) (congrArg D.int hM)) hM1 (Nat.lt_of_le_of_lt hM3 (by decide)) (kb hk (k44 hk' hi3) (by decide)) (fun dd k1 hd1 hk1=>⟨_,_,_,rfl,rfl,.add,V.e1 (iG (t:=nm == [83]) (x:=.int ((nm == [83]).toNat:Nat)) (aC (aa (i:=4) rfl rfl) cZ (.eq .str) rfl) (fun e=>?_) fun e=>?_) ⟨_,_,_,rfl,rfl,.add,?_⟩⟩) (Nat.le_add_left ..) rfl rfl rfl)))) rfl rfl
  ·rw [e];exact ar
  ·rw [e];exact ar
  ·generalize hmany:1+dd+(nm == [83]).toNat=many
   have hb1:(nm == [83]).toNat≤1:=Bool.toNat_le ..
   have hint:((1:Int)+(dd:Int)+((nm == [83]).toNat:Nat))=(many:Nat):=congrArg _ hmany
   rw [hint]
   have hmany4:many≤4:=hmany▸Nat.add_le_add (Nat.add_comm 1 dd▸Nat.lt_of_lt_of_le hd1 hM3:1+dd≤3) hb1
   have hmany0:0 < many:=hmany▸Nat.lt_of_lt_of_le Nat.zero_lt_one (Nat.le_trans (Nat.le_add_right 1 dd) (Nat.le_add_right ..))
   have hk1':k1≤k+2+21 * i+1:=Nat.le_trans hk1 (Nat.succ_le_succ hk')
   refine cO (RlT [.pen,.im (.lst (txs (NT.take m))),.im (.bool pl)] (.im (.str nm)) (.im (.int many)) m i many nm (k+2+21 * i+1)) (cC (l:=.im) (aa (i:=5) rfl rfl) (Nat.le_trans hmany4 (by decide)) rfl rfl) (.mk x6 x7 x8 (h.start hmany0) hk1') (fun h=>by cases h) (fun u0=>rfl) (fun j d ρ k' hd h=>?_) fun ρ k' h=>?_
   ·apply hU hd;intro hjm
    induction h with
    | @mk ps' k2' x6 x7 x8 hJ hkk=>
    have hk60:=k60 hkk hi3 (Nat.lt_of_lt_of_le hjm hmany4)
    obtain ⟨sm,hsm,hsm5,hsm0,hsmv⟩:∃ sm:List Txt,(∀ x∈sm,x∈NT.take m∨x∈TM)∧sm.length≤5∧0 < sm.length∧(if (((j:Int) == 0) && pl)=true then TM else NT.take m++TM)=sm:=by
     refine ⟨_,fun x hx=>?_,?_,?_,rfl⟩
     ·split at hx
      ·exact .inr hx
      ·exact List.mem_append.mp hx
     ·split
      ·decide
      ·rw [List.length_append,fX];exact Nat.le_trans (Nat.add_le_add_right (Nat.min_le_right ..) _) (by decide)
     ·split
      ·decide
      ·rw [List.length_append];exact Nat.lt_of_lt_of_le (by decide) (Nat.le_add_left ..)
    refine ⟨_,.one (i:=6) rfl .im,az 7 (d:=.lst (txs sm)) (iG (t:=((j:Int) == 0) && pl) (fh (aC (aa (i:=6) rfl rfl) ar (.eq .int) rfl) fun u0=>(aa (i:=2) rfl rfl).tv) (fun e=>?_) fun e=>?_) ?_ rfl rfl⟩
    ·rw [if_pos e] at hsmv;subst hsmv;exact nv cZ cZ rfl
    ·rw [if_neg (Bool.eq_false_iff.mp e)] at hsmv;subst hsmv
     exact V.as (eW (aa (i:=1) rfl rfl) (nv cZ cZ rfl) (.xB (Nat.le_trans (Nat.add_le_add_right hm24 2) (by decide)))) (congrArg D.lst (List.map_append (l₂:=TM)).symm)
    ·have hsl:((txs sm).length:Int)=sm.length:=congrArg _ (List.length_map ..)
     have hs24:(txs sm).length≤2 ^ 24:=by rw [List.length_map];exact Nat.le_trans hsm5 (by decide)
     refine gZ 8 ⟨g5 (l:=.im) (tt:=false) 1 [("pen",0),("some",7),("spot",10)] rfl (fun u0=>rfl) (fun h=>ff h) (RwJ sm k2') (kW rfl rfl (eR (l:=.any) (i:=0) (m:=3) p rfl rfl ar (by decide) (by decide) (kb hk hk60 (by decide)) (fun d k3 hd hk3=>⟨d,rfl,Int.natCast_nonneg _,Int.ofNat_le.mpr (Nat.le_trans (Nat.le_of_lt hd) (by decide)),.mk d [] hd rfl (fun u0 h=>aE h) hk3⟩) (Nat.le_add_left ..) rfl rfl rfl).go) (fun F s cl C dd ds i' d' zs k3 hd h=>?_) fun ds zs k3 h=>?_⟩ (.inl rfl) rfl rfl rfl rfl (Nat.le_of_ble_eq_true rfl)
     ·induction h with
      | @mk dn xs i' k3 hdn hxl hxs hk3=>
      obtain ⟨hin,rfl⟩:=gG (a:=0) hd
      have hk3':k3≤k+63:=k63 hk3 hk60 (Nat.le_trans (Nat.le_of_lt hin) (Nat.le_of_lt_succ (hdn:dn < 2+1)))
      refine ⟨by rw [List.length_map,hxl];exact Nat.lt_trans (Nat.lt_trans hin hdn) (by decide),_,.one (i:=10) rfl rfl .im,⟨fun u0=>bO (oy (aa (i:=7) rfl rfl) (eR (l:=.any) (i:=0) (m:=sm.length) p rfl rfl (V.as (cy (aa (i:=7) rfl rfl) (.xn hs24) rfl rfl) (congrArg D.int hsl)) hsm0 (Nat.lt_of_le_of_lt hsm5 (by decide)) (kb hk hk3' (by decide)) (fun dx k4 hdx hk4=>⟨.str (sm.getD dx []),.lst (Nat.lt_trans (Nat.lt_of_lt_of_le hdx hsm5) (by decide)) (by rw [List.getElem?_map,aw (d:=[]) hdx];rfl),?_⟩) (Nat.le_add_left ..) rfl rfl rfl) rfl).go,(fun h=>tf h)⟩⟩
      have:=RwJ.mk (sm:=sm) (k0:=k2') (i:=i'+1) (k:=k4) dn (xs++[sm.getD dx []]) hdn (by rw [List.length_append,hxl];rfl) (fun x hx=>(List.mem_append.mp hx).elim (hxs x) fun q=>by
       rw [List.mem_singleton.mp q]
       exact List.mem_of_getElem? (aw (d:=[]) hdx)) (Nat.le_trans hk4 (Nat.succ_le_succ hk3))
      rw [List.map_append] at this
      exact this
     ·generalize hi':ds.length=i' at h
      induction h with
      | @mk dn xs i' k3 hdn hxl hxs hk3=>
      rw [bq] at hi'
      have e:O.node .lst (xs.map fun x=>.leaf (.str x))=.lst (txs xs):=by unfold O.lst txs;rw [List.map_map];rfl
      refine e▸?_
      have hxl3:xs.length≤2:=hxl▸hi'▸Nat.le_of_lt_succ hdn
      have hx24:(txs xs).length≤2 ^ 10:=by rw [List.length_map];exact Nat.le_trans hxl3 (by decide)
      have hk3b:k3≤k2'+3:=Nat.le_trans hk3 (Nat.add_le_add_left (hxl▸hxl3) (k2'+1))
      have hk3c:k3≤k+63:=Nat.le_trans hk3b (Nat.add_le_add_right hk60 3)
      refine c6 (RwI [.pen,.im (.lst (txs (NT.take m))),.im (.bool pl),.own (.lst (ps'.map pairD)),.im (.str nm),.im (.int many),.im (.int j),.im (.lst (txs sm))] (fun row=>row.length≤3∧(∀ x∈row,x∈NT.take m∨x∈TM)∧(i=0→j+1=many→∃ x∈row,x∈NT.take m)) (k2'+5)) (fh (t:=nm == [83]) (t':=(j:Int) == (many:Int) - 1) (aC (aa (i:=4) rfl rfl) cZ (.eq .str) rfl) fun u0=>aC (aa (i:=6) rfl rfl) (aV (aa (i:=5) rfl rfl) ar .sub) (.eq .int) rfl) (fun h1=>?_) (fun h1=>?_) fun ρ kk h=>?_
      ·have hxi:((txs xs).length:Int)+1=(xs.length+1:Nat):=by rw [List.length_map];rfl
       have hmN:((txs (NT.take m)).length:Int)=(NT.take m).length:=congrArg _ (List.length_map ..)
       have hm0:0 < (NT.take m).length:=by rw [fX,Nat.min_eq_left hm3];exact hm0
       have hm3:(NT.take m).length≤3:=by rw [fX];exact Nat.min_le_right ..
       refine .seq (pO rfl rfl rfl rfl (Nat.le_of_ble_eq_true rfl) (bI (i:=8) rfl rfl ⟨_,rfl,(eR (l:=.any) (i:=0) (m:=xs.length+1) p rfl rfl (V.as (aV (cy (aZ (i:=8) rfl rfl) (.xn (Nat.le_trans hx24 (by decide))) rfl rfl) ar .add) (congrArg D.int hxi)) (Nat.succ_pos _) (Nat.lt_of_le_of_lt (Nat.succ_le_succ hxl3) (by decide)) (kb hk hk3c (by decide)) (fun dx k4 hdx hk4=>⟨dx,rfl,by rw [List.length_map,List.length_map];exact Nat.le_of_lt_succ hdx,by rw [List.length_map];exact Nat.lt_of_le_of_lt hx24 (by decide),bO (oy (aa (i:=1) rfl rfl) (eR (l:=.any) (i:=0) (m:=(NT.take m).length) p rfl rfl (V.as (cy (aa (i:=1) rfl rfl) (.xn (Nat.le_trans hm24 (by decide))) rfl rfl) (congrArg D.int hmN)) hm0 (Nat.lt_of_le_of_lt hm3 (by decide)) (kb (c:=64) hk (Nat.le_trans hk4 (Nat.succ_le_succ hk3c)) (by decide)) (fun dy k5 hdy hk5=>⟨.str ((NT.take m).getD dy []),.lst (Nat.lt_trans (Nat.lt_of_lt_of_le hdy hm3) (by decide)) (by rw [List.getElem?_map,aw (d:=[]) hdy];rfl),aj ?_⟩) (Nat.le_add_left ..) rfl rfl rfl) rfl).go⟩) (Nat.le_add_left ..) rfl rfl rfl).go⟩))
       have hyn:(NT.take m).getD dy []∈NT.take m:=List.mem_of_getElem? (aw (d:=[]) hdy)
       have fin:RwI [.pen,.im (.lst (txs (NT.take m))),.im (.bool pl),.own (.lst (ps'.map pairD)),.im (.str nm),.im (.int many),.im (.int j),.im (.lst (txs sm))] (fun row=>row.length≤3∧(∀ x∈row,x∈NT.take m∨x∈TM)∧(i=0→j+1=many→∃ x∈row,x∈NT.take m)) (k2'+5) _ k5:=.mk (row:=xs.take dx++(NT.take m).getD dy []::xs.drop dx) ⟨?_,fun x hx=>?_,fun u0 u0=>⟨_,List.mem_append_right _ List.mem_cons_self,hyn⟩⟩ (Nat.le_trans hk5 (Nat.succ_le_succ (Nat.le_trans hk4 (Nat.succ_le_succ hk3b))))
       ·unfold O.lst at fin
        rw [wb] at fin
        exact fin
       ·rw [List.length_append,List.length_cons,List.length_take,List.length_drop];exact Nat.le_trans (by lia) (Nat.succ_le_succ hxl3)
       ·rcases List.mem_append.mp hx with hx | hx
        ·exact hsm x (hxs x (List.mem_of_mem_take hx))
        ·rcases List.mem_cons.mp hx with rfl | hx
         ·exact .inl hyn
         ·exact hsm x (hxs x (List.mem_of_mem_drop hx))
      ·refine aj (.mk ⟨Nat.le_succ_of_le hxl3,fun x hx=>hsm x (hxs x hx),fun e1 e2=>?_⟩ (Nat.le_trans hk3b (Nat.le_add_right _ 2)))
       subst e1
       have:nm=[83]:=(Option.some.inj hnt).symm
       rw [this,show ((j:Int) == (many:Int) - 1)=true from beq_iff_eq.mpr (e2▸(Int.add_sub_cancel (j:Int) 1).symm)] at h1
       cases h1
      ·induction h with
       | @mk row k4 hP hk4=>
       have hr24:(txs row).length≤2 ^ 24:=by rw [List.length_map];exact Nat.le_trans hP.1 (by decide)
       have hpl:(ps'.map pairD).length < 2 ^ 24:=by
        rw [List.length_map]
        have:=hJ.len
        exact Nat.lt_of_le_of_lt (Nat.le_trans this (Nat.add_le_add (Nat.mul_le_mul_left 4 (Nat.le_of_lt hi3)) (Nat.le_of_lt (Nat.lt_of_lt_of_le hjm hmany4)))) (by decide)
       refine cb 8 rfl rfl (dw 3 rfl hpl (dQ (aa (i:=4) rfl rfl) (o7 (aa (i:=8) rfl rfl) hr24 rfl rfl) rfl) (aj ?_) rfl rfl rfl rfl)
       have fin:RlT [.pen,.im (.lst (txs (NT.take m))),.im (.bool pl)] (.im (.str nm)) (.im (.int many)) m i many nm (k+2+21 * i+1) (j+1) _ _:=.mk (k:=k4) (.im (.int j)) (.im (.lst (txs sm))) (.im (.lst (txs row))) (hJ.add hnm' hP.1 hP.2.1 hP.2.2 hjm) (Nat.le_trans hk4 (Nat.add_le_add_right hkk 5))
       rw [List.map_append] at fin
       exact fin
   ·rw [bq] at h
    induction h with
    | mk x6 x7 x8 hJ hkk=>exact aj (.mk _ _ _ _ _ (hJ.next hmany0 hmany4 hnt) (k66 hkk hmany4))
 ·generalize hi:(txs (NT.take m)).length=i at h
  rw [List.length_map,fX] at hi
  induction h with
  | @mk ps k' x4 x5 x6 x7 x8 h hk'=>
  obtain rfl:m=i:=(Nat.min_eq_left hm3).symm.trans hi
  exact cb 3 rfl rfl (a9 (aa (i:=3) rfl rfl) (q m ps k' hm0 hm3 h (Nat.le_trans hk' (Nat.le_trans (Nat.add_le_add (Nat.add_le_add_right hk 2) (Nat.mul_le_mul_left 21 hm3)) (by decide)))))
end
end Mine
namespace Mine
open PySem PySem.Calls PyProof.Rows PySem.SeqAt PySem.W
noncomputable def R.map (r:R) (f:Nat→Nat):R:=⟨f r.l,r.r.map f,r.lv⟩
section
variable {rs rs':List R} {f:Nat→Nat} {s t tc tc':Nat} {nl nl':Nat→Prop}
noncomputable def n9 (f:Nat→Nat) (rs rs':List R):Prop:=∀ r∈rs,∃ r'∈rs',r'.l=f r.l∧r'.r=r.r.map f
theorem Der.map (h:n9 f rs rs') (hk:∀ s,nl s→nl' (f s)) (d:Der rs nl s):Der rs' nl' (f s):=by
 induction d with
 | known k=>exact .known (hk _ k)
 | @rule r hr _ ih=>
  obtain ⟨r',h1,h2,h3⟩:=h r hr
  refine h2▸.rule h1 fun x hx=>?_
  rw [h3] at hx
  obtain ⟨y,hy,rfl⟩:=List.mem_map.mp hx
  exact ih y hy
theorem Fb.map {F F':Nat→Prop} {β β':Prop} (hn:∀ s,nl s→nl' (f s)) (hF:∀ s,F s→F' (f s)) (hb:β→β'):∀ {xs:List Nat},Fb nl F β xs→Fb nl' F' β' (xs.map f)
 | [],h=>hb h
 | x::xs,h=>h.imp (hF x) fun q=>⟨hn x q.1,q.2.map hn hF hb⟩
theorem Fi.map (h:n9 f rs rs') (hn:∀ s,nl s→nl' (f s)) (ht:∀ s,s < tc→f s < tc') (q:Fi rs tc nl s t):Fi rs' tc' nl' (f s) (f t):=q (fun s t=>Fi rs' tc' nl' (f s) (f t)) fun s t q=>.fold (by
 rcases q with ⟨h1,rfl⟩ | ⟨r,hr,rfl,q⟩
 ·exact .inl ⟨ht _ h1,rfl⟩
 ·obtain ⟨r',h1,h2,h3⟩:=h r hr
  exact .inr ⟨r',h1,h2,h3▸Fb.map hn (fun u0 h=>h) id q⟩)
theorem Fo.map {F F':Nat→Nat→Prop} (h:n9 f rs rs') (hn:∀ s,nl s→nl' (f s)) (hF:∀ s t,F s t→F' (f s) (f t)) (ht:∀ s,tc≤s→tc'≤f s) (q:Fo rs tc nl F s t):Fo rs' tc' nl' F' (f s) (f t):=q (fun s t=>Fo rs' tc' nl' F' (f s) (f t)) fun s t q=>.fold (by
 obtain ⟨r,hr,a,b,e,hs,q⟩:=q
 obtain ⟨r',h1,h2,h3⟩:=h r hr
 exact ⟨r',h1,a.map f,b.map f,by rw [h3,e,List.map_append];rfl,ht _ hs,h2▸Fb.map hn (fun s=>hF s t) id q⟩)
theorem qd {P P':Nat→Word→Prop} (h:∀ x w,P x w→P' (f x) (w.map f)) {r:List Nat} {w:Word} (q:c7 (r.map P) w):c7 ((r.map f).map P') (w.map f):=by
 have:∀ (r:List Nat) (T T':Word→Prop),(∀ w,T w→T' (w.map f))→∀ w,(r.map P).foldl ec T w→((r.map f).map P').foldl ec T' (w.map f):=fun r=>by
  induction r with
  | nil=>exact fun u0 u0 h=>h
  | cons x r ih=>exact fun T T' hT=>ih _ _ fun w yq0=>by obtain ⟨hl,u,v,h1,h2,e⟩:=yq0;exact ⟨by rw [List.length_map];exact hl,u.map f,v.map f,hT u h1,h x v h2,by rw [e,List.map_append]⟩
 exact this r _ _ (fun w e=>by rw [e];rfl) w q
theorem Lg.map {w:Word} (h:n9 f rs rs') (ht:∀ s,s < tc→f s < tc') (h1:∀ s,s≠1→f s≠1) (q:Lg rs tc s w):Lg rs' tc' (f s) (w.map f):=q (fun s w=>Lg rs' tc' (f s) (w.map f)) fun s w q P hP=>hP _ _ (by
 rcases q with ⟨a,b,rfl⟩ | ⟨r,hr,rfl,q⟩
 ·exact .inl ⟨ht _ a,h1 _ b,rfl⟩
 ·obtain ⟨r',e1,e2,e3⟩:=h r hr
  exact .inr ⟨r',e1,e2,e3▸qd (P':=P) (fun x w q=>q P hP) q⟩)
end
end Mine
namespace Mine
open PySem PySem.Calls PyProof.Rows PySem.SeqAt PySem.W
structure Opn (rs rs':List R) (lo:Nat) (a b:List Nat) (M:Nat):Prop where
 r0:∃ r∈rs,r.l=lo∧r.r=a++M::b
 sub:∀ r'∈rs',(∃ r∈rs,r.l=r'.l∧r.r=r'.r)∨∃ g∈rs,g.l=M∧r'.l=lo∧r'.r=a++(g.r++b)
 old:∀ r∈rs,(r.l=lo∧r.r=a++M::b)∨∃ r'∈rs',r'.l=r.l∧r'.r=r.r
 new:∀ g∈rs,g.l=M→∃ r'∈rs',r'.l=lo∧r'.r=a++(g.r++b)
section
variable {rs rs':List R} {lo M s t tc:Nat} {a b:List Nat} {nl:Nat→Prop}
theorem Der.xN {r:R} {s:Nat} {x:List Nat} (hr:r∈rs) (e:r.l=s) (ex:r.r=x) (h:∀ y∈x,Der rs nl y):Der rs nl s:=e▸.rule hr (ex▸h)
theorem Opn.yw (o:Opn rs rs' lo a b M) (h:Der rs' nl s):Der rs nl s:=by
 induction h with
 | known k=>exact .known k
 | @rule r' hr _ ih=>
  rcases o.sub r' hr with ⟨r,h1,h2,h3⟩ | ⟨g,h1,h2,h3,h4⟩
  ·exact .xN h1 h2 h3 ih
  ·obtain ⟨r,q1,q2,q3⟩:=o.r0
   have ih:=h4▸ih
   refine .xN q1 (q2.trans h3.symm) q3 fun y hy=>?_
   rcases List.mem_append.mp hy with hy | hy
   ·exact ih y (List.mem_append_left _ hy)
   ·rcases List.mem_cons.mp hy with rfl | hy
    ·exact .xN h1 h2 rfl fun z hz=>ih z (List.mem_append_right _ (List.mem_append_left _ hz))
    ·exact ih y (List.mem_append_right _ (List.mem_append_right _ hy))
theorem Opn.yx (o:Opn rs rs' lo a b M) (hM:¬ nl M) (h:Der rs nl s):Der rs' nl s:=by
 induction h with
 | known k=>exact .known k
 | @rule r hr _ ih=>
  rcases o.old r hr with ⟨h1,h2⟩ | ⟨r',h1,h2,h3⟩
  ·have ih:=h2▸ih
   have dM:=ih M (List.mem_append_right _ List.mem_cons_self)
   have:∀ s,Der rs' nl s→s=M→Der rs' nl lo:=fun s d e=>by
    cases d with
    | known k=>exact absurd (e▸k) hM
    | @rule r' hr' hd=>
     rcases o.sub r' hr' with ⟨g,q1,q2,q3⟩ | ⟨g,_,_,q3,_⟩
     ·obtain ⟨r2,p1,p2,p3⟩:=o.new g q1 (q2.trans e)
      refine .xN p1 p2 p3 fun y hy=>?_
      rcases List.mem_append.mp hy with hy | hy
      ·exact ih y (List.mem_append_left _ hy)
      ·rcases List.mem_append.mp hy with hy | hy
       ·exact hd y (q3▸hy)
       ·exact ih y (List.mem_append_right _ (List.mem_cons_of_mem _ hy))
     ·exact q3▸.rule hr' hd
   exact h1▸this M dM rfl
  ·exact .xN h1 h2 h3 ih
theorem Fb.app {nl F:Nat→Prop} {β:Prop}:∀ {xs ys:List Nat},Fb nl F β (xs++ys)↔Fb nl F (Fb nl F β ys) xs:=by
 intro xs
 induction xs with
 | nil=>
  exact @fun u0=>Iff.rfl
 | cons _ _ ihq=>
  exact @fun u0=>or_congr_right (and_congr_right fun u0=>ihq)
theorem Fb.nul {nl F:Nat→Prop} {β:Prop}:∀ {xs:List Nat},(∀ x∈xs,nl x)→β→Fb nl F β xs
 | [],_,h=>h
 | x::_,hn,h=>.inr ⟨hn x List.mem_cons_self,.nul (fun y hy=>hn y (List.mem_cons_of_mem _ hy)) h⟩
theorem Fb.split {nl F:Nat→Prop} {β:Prop}:∀ {xs:List Nat},Fb nl F β xs→Fb nl F False xs∨((∀ x∈xs,nl x)∧β)
 | [],h=>.inr ⟨(fun u0 h=>aE h),h⟩
 | x::xs,h=>h.elim (fun h=>.inl (.inl h)) fun h=>h.2.split.imp (fun q=>.inr ⟨h.1,q⟩) fun q=>⟨fun y hy=>(List.mem_cons.mp hy).elim (fun e=>e▸h.1) (q.1 y),q.2⟩
theorem Fb.weak {nl F:Nat→Prop} {β β':Prop} {xs:List Nat} (h:Fb nl F β xs) (hb:β→β'):Fb nl F β' xs:=h.mono (fun u0 u0=>id) (fun u0 u0=>id) hb
theorem Fi.unfold {nl:Nat→Prop} (h:Fi rs tc nl s t):FiS rs tc nl (Fi rs tc nl) s t:=h (fun s t=>FiS rs tc nl (Fi rs tc nl) s t) fun u0 u0 q=>q.mono (fun u0=>id) fun u0=>.fold
theorem Opn.yH (o:Opn rs rs' lo a b M) (hn:∀ g∈rs,(∀ x∈g.r,nl x)→nl g.l) (h:Fi rs' tc nl s t):Fi rs tc nl s t:=h (Fi rs tc nl) fun s t q=>.fold (by
 rcases q with q | ⟨r',hr,e,q⟩
 ·exact .inl q
 ·rcases o.sub r' hr with ⟨r,h1,h2,h3⟩ | ⟨g,h1,h2,h3,h4⟩
  ·exact .inr ⟨r,h1,h2.trans e,h3▸q⟩
  ·obtain ⟨r,q1,q2,q3⟩:=o.r0
   rw [h4] at q
   refine .inr ⟨r,q1,q2.trans (h3.symm.trans e),?_⟩
   rw [q3]
   refine Fb.app.mpr ((Fb.app.mp q).weak fun q=>?_)
   exact (Fb.app.mp q).split.elim (fun q=>.inl (.fold (.inr ⟨g,h1,h2,q⟩))) fun q=>.inr ⟨h2▸hn g h1 q.1,q.2⟩)
theorem Opn.yI (o:Opn rs rs' lo a b M) (hM:tc≤M) (hg:∃ g∈rs,g.l=M) (hd:nl M→∃ g∈rs,g.l=M∧∀ x∈g.r,nl x) (h:Fi rs tc nl s t):Fi rs' tc nl s t:=h (Fi rs' tc nl) fun s t q=>by
 rcases q with q | ⟨r,hr,e,q⟩
 ·exact .fold (.inl q)
 ·rcases o.old r hr with ⟨h1,h2⟩ | ⟨r',h1,h2,h3⟩
  ·rw [h2] at q
   have use:∀ g∈rs,g.l=M→Fs nl (Fi rs' tc nl · t) (a++(g.r++b))→Fi rs' tc nl s t:=fun g hg e' q=>by
    obtain ⟨r',p1,p2,p3⟩:=o.new g hg e'
    exact .fold (.inr ⟨r',p1,p2.trans (h1.symm.trans e),p3▸q⟩)
   rcases (Fb.app.mp q).split with q | ⟨ha,q⟩
   ·obtain ⟨g,hg,e'⟩:=hg
    exact use g hg e' (Fb.app.mpr (q.weak False.elim))
   ·rcases q with q | ⟨hm,q⟩
    ·by_cases e':M=s
     ·exact e'▸q
     ·rcases q.unfold with ⟨q1,_⟩ | ⟨r',p1,p2,p3⟩
      ·exact absurd hM (Nat.not_le_of_lt q1)
      ·rcases o.sub r' p1 with ⟨g,g1,g2,g3⟩ | ⟨g,_,_,g3,_⟩
       ·exact use g g1 (g2.trans p2) (Fb.app.mpr (.nul ha (Fb.app.mpr (g3▸p3.weak False.elim))))
       ·exact absurd (p2.symm.trans (g3.trans (h1.symm.trans e))) e'
    ·obtain ⟨g,hg,e',hz⟩:=hd hm
     exact use g hg e' (Fb.app.mpr (.nul ha (Fb.app.mpr (.nul hz q))))
  ·exact .fold (.inr ⟨r',h1,h2.trans e,h3▸q⟩)
end
end Mine
namespace Mine
open PySem PySem.Calls PyProof.Rows PySem.SeqAt PySem.W
section
variable {rs rs':List R} {lo M s t tc:Nat} {a b:List Nat} {nl:Nat→Prop} {F:Nat→Nat→Prop}
theorem append_at {xs ys as bs:List Nat} {s:Nat} (h:xs++ys=as++s::bs):(∃ x2,xs=as++s::x2∧bs=x2++ys)∨∃ y1,as=xs++y1∧ys=y1++s::bs:=by
 rcases List.append_eq_append_iff.mp h with ⟨c,h1,h2⟩ | ⟨c,h1,h2⟩
 ·exact .inr ⟨c,h1,h2⟩
 ·cases c with
  | nil=>rw [List.append_nil] at h1;exact .inr ⟨[],by rw [h1,List.append_nil],h2.symm⟩
  | cons x c=>cases h2;exact .inl ⟨c,h1,rfl⟩
theorem Opn.yJ (o:Opn rs rs' lo a b M) (hM:tc≤M) (hn:∀ g∈rs,(∀ x∈g.r,nl x)→nl g.l) (hF:∀ g∈rs,∀ t,Fs nl (F · t) g.r→F g.l t) (h:Fo rs' tc nl F s t):Fo rs tc nl F s t:=h (Fo rs tc nl F) fun s t q=>by
 obtain ⟨r',hr,a',b',e,hs,q⟩:=q
 rcases o.sub r' hr with ⟨r,h1,h2,h3⟩ | ⟨g,h1,h2,h3,h4⟩
 ·exact .fold ⟨r,h1,a',b',h3.trans e,hs,h2.symm▸q⟩
 ·obtain ⟨r,q1,q2,q3⟩:=o.r0
  rw [h3] at q
  rw [h4] at e
  rcases append_at e with ⟨a2,e1,e2⟩ | ⟨y1,e1,e2⟩
  ·refine .fold ⟨r,q1,a',a2++M::b,by rw [q3,e1,List.append_assoc];rfl,hs,?_⟩
   rw [e2] at q
   refine Fb.app.mpr ((Fb.app.mp q).weak fun q=>?_)
   exact (Fb.app.mp q).split.elim (fun q=>.inl (h2▸hF g h1 t q)) fun q=>.inr ⟨h2▸hn g h1 q.1,q2.symm▸q.2⟩
  ·rcases append_at e2 with ⟨g2,e3,e4⟩ | ⟨b1,e3,e4⟩
   ·rw [e4] at q
    exact .fold ⟨g,h1,y1,g2,e3,hs,(Fb.app.mp q).weak fun q=>h2.symm▸.fold ⟨r,q1,a,b,q3,hM,q2.symm▸q⟩⟩
   ·exact .fold ⟨r,q1,a++M::b1,b',by rw [q3,e4,List.append_assoc];rfl,hs,q2.symm▸q⟩
noncomputable def PM (rs rs':List R) (tc M:Nat) (nl:Nat→Prop) (F:Nat→Nat→Prop) (t:Nat):Prop:=∀ g∈rs,g.l=M→∀ a w b,g.r=a++w::b→(∀ x∈b,nl x)→tc≤w→w≠M→Fo rs' tc nl F w t
theorem Fo.xw {r:R} {s0:Nat} {xs:List Nat} (hr:r∈rs) (e:r.l=s0) {a b:List Nat} (ex:r.r=xs) (es:xs=a++s::b) (hs:tc≤s) (q:Fb nl (F · t) (Fo rs tc nl F s0 t) b):Fo rs tc nl F s t:=.fold ⟨r,hr,a,b,ex.trans es,hs,e▸q⟩
theorem Opn.foPM (o:Opn rs rs' lo a b M) (hM:tc≤M) (hg:∃ g∈rs,g.l=M) (hd:nl M→∃ g∈rs,g.l=M∧∀ x∈g.r,nl x) (h:Fo rs' tc nl F M t):PM rs rs' tc M nl F t:=fun g h1 h2 x w y e hy hw hwM=>by
 rcases o.old g h1 with ⟨q1,q2⟩ | ⟨r',p1,p2,p3⟩
 ·have hlo:=q1.symm.trans h2
  rcases append_at (q2.symm.trans e) with ⟨a2,e1,rfl⟩ | ⟨y1,e1,e2⟩
  ·obtain ⟨g',g1,g2,g3⟩:=hd (hy M (List.mem_append_right _ List.mem_cons_self))
   obtain ⟨r',p1,p2,p3⟩:=o.new g' g1 g2
   refine Fo.xw (a:=x) (b:=a2++(g'.r++b)) p1 (p2.trans hlo) p3 (by rw [e1,List.append_assoc];rfl) hw (.nul (fun z hz=>?_) h)
   rcases List.mem_append.mp hz with hz | hz
   ·exact hy z (List.mem_append_left _ hz)
   ·exact (List.mem_append.mp hz).elim (g3 z) fun hz=>hy z (List.mem_append_right _ (List.mem_cons_of_mem _ hz))
  ·cases y1 with
   | nil=>cases e2;exact absurd rfl hwM
   | cons m y1=>
    cases e2
    obtain ⟨g',g1,g2⟩:=hg
    obtain ⟨r',p1,p2,p3⟩:=o.new g' g1 g2
    exact Fo.xw (a:=a++(g'.r++y1)) (b:=y) p1 (p2.trans hlo) p3 (by rw [List.append_assoc,List.append_assoc];rfl) hw (.nul hy h)
 ·exact Fo.xw p1 (p2.trans h2) p3 e hw (.nul hy h)
theorem Opn.yK (o:Opn rs rs' lo a b M) (hM:tc≤M) (hg:∃ g∈rs,g.l=M) (hd:nl M→∃ g∈rs,g.l=M∧∀ x∈g.r,nl x) (hF:∀ t,F M t→∃ g∈rs,g.l=M∧Fs nl (F · t) g.r) (h:Fo rs tc nl F s t):(s≠M→Fo rs' tc nl F s t)∧(s=M→PM rs rs' tc M nl F t):=
 h (fun s t=>(s≠M→Fo rs' tc nl F s t)∧(s=M→PM rs rs' tc M nl F t)) fun s t q=>by
  obtain ⟨r,hr,x,y,e,hs,q⟩:=q
  have fin:Fo rs' tc nl F s t→(s≠M→Fo rs' tc nl F s t)∧(s=M→PM rs rs' tc M nl F t):=fun h=>⟨fun u0=>h,fun e=>o.foPM hM hg hd (e▸h)⟩
  have fin2:r.l=M→(∀ z∈y,nl z)→PM rs rs' tc M nl F t→(s≠M→Fo rs' tc nl F s t)∧(s=M→PM rs rs' tc M nl F t):=fun h1 h2 h=>⟨h r hr h1 x s y e h2 hs,fun u0=>h⟩
  rcases o.old r hr with ⟨q1,q2⟩ | ⟨r',p1,p2,p3⟩
  ·rcases append_at (q2.symm.trans e) with ⟨a2,e1,rfl⟩ | ⟨y1,e1,e2⟩
   ·have use:∀ g∈rs,g.l=M→Fb nl (F · t) (Fo rs' tc nl F lo t) (a2++(g.r++b))→Fo rs' tc nl F s t:=fun g h1 h2 q=>by
     obtain ⟨r',p1,p2,p3⟩:=o.new g h1 h2
     exact Fo.xw (a:=x) p1 p2 p3 (by rw [e1,List.append_assoc];rfl) hs q
    rcases (Fb.app.mp q).split with q | ⟨ha,q⟩
    ·obtain ⟨g,g1,g2⟩:=hg
     exact fin (use g g1 g2 (Fb.app.mpr (q.weak False.elim)))
    ·rcases q with q | ⟨hm,q⟩
     ·obtain ⟨g,g1,g2,g3⟩:=hF t q
      exact fin (use g g1 g2 (Fb.app.mpr (.nul ha (Fb.app.mpr (g3.weak False.elim)))))
     ·obtain ⟨g,g1,g2,g3⟩:=hd hm
      have bck:=fun q=>fin (use g g1 g2 (Fb.app.mpr (.nul ha (Fb.app.mpr (.nul g3 q)))))
      rcases q.split with q | ⟨hb,q⟩
      ·exact bck (q.weak False.elim)
      ·by_cases hlo:r.l=M
       ·exact fin2 hlo (fun z hz=>(List.mem_append.mp hz).elim (ha z) fun hz=>(List.mem_cons.mp hz).elim (fun e=>e▸hm) (hb z)) (q.2 hlo)
       ·exact bck (.nul hb (q1▸q.1 hlo))
   ·cases y1 with
    | nil=>
     cases e2
     rw [List.append_nil] at e1
     refine ⟨fun h=>absurd rfl h,fun u0 g h1 h2 u w v e' hv hw hwM=>?_⟩
     obtain ⟨r',p1,p2,p3⟩:=o.new g h1 h2
     have use:=fun q=>Fo.xw (F:=F) (t:=t) (a:=a++u) (b:=v++b) p1 p2 p3 (by rw [e',List.append_assoc,List.append_assoc];rfl) hw (Fb.app.mpr (.nul hv q))
     rcases q.split with q | ⟨hb,q⟩
     ·exact use (q.weak False.elim)
     ·by_cases hlo:r.l=M
      ·exact q.2 hlo g h1 h2 u w v e' hv hw hwM
      ·exact use (.nul hb (q1▸q.1 hlo))
    | cons m y1=>
     cases e2
     obtain ⟨g,g1,g2⟩:=hg
     obtain ⟨r',p1,p2,p3⟩:=o.new g g1 g2
     have use:=fun q=>fin (Fo.xw (a:=a++(g.r++y1)) (b:=y) p1 p2 p3 (by rw [List.append_assoc,List.append_assoc];rfl) hs q)
     rcases q.split with q | ⟨hb,q⟩
     ·exact use (q.weak False.elim)
     ·by_cases hlo:r.l=M
      ·exact fin2 hlo hb (q.2 hlo)
      ·exact use (.nul hb (q1▸q.1 hlo))
  ·rcases q.split with q | ⟨hb,q⟩
   ·exact fin (Fo.xw p1 p2 p3 e hs (q.weak False.elim))
   ·by_cases hlo:r.l=M
    ·exact fin2 hlo hb (q.2 hlo)
    ·exact fin (Fo.xw p1 p2 p3 e hs (.nul hb (q.1 hlo)))
end
end Mine
namespace Mine
open PySem PySem.Calls PyProof.Rows PySem.SeqAt PySem.W
section
variable {rs rs':List R} {lo M s tc:Nat} {a b xs ys:List Nat} {P P':Nat→Word→Prop} {u v w:Word}
theorem Jn.split:∀ {xs:List Nat} {w},Jn P (xs++ys) w→∃ u v,Jn P xs u∧Jn P ys v∧w=u++v:=by
 intro xs
 induction xs with
 | nil=>
  exact @fun w h=>⟨[],w,.nil,h,rfl⟩
 | cons x xs ihq=>
  intro _ h
  cases h with
  | @cons _ _ u v h1 h2=>
  obtain ⟨u',v',q1,q2,rfl⟩:=ihq h2
  exact ⟨u++u',v',.cons h1 q1,q2,(List.append_assoc ..).symm⟩
theorem i4 {r:List Nat}:c7 (r.map P) w↔w.length≤2∧Jn P r w:=by
 have:∀ (r:List Nat) (T:Word→Prop),(∀ u,T u→u.length≤2)→∀ w,(r.map P).foldl ec T w↔w.length≤2∧∃ u v,T u∧Jn P r v∧w=u++v:=fun r=>by
  induction r with
  | nil=>exact fun T hT w=>⟨fun h=>⟨hT w h,w,[],h,.nil,(List.append_nil w).symm⟩,fun zz0=>by obtain ⟨_,u,v,h1,h2,e⟩:=zz0;exact by cases h2;rw [List.append_nil] at e;exact e▸h1⟩
  | cons x r ih=>
   refine fun T hT w=>(ih _ (fun u h=>h.1) w).trans (and_congr_right fun hw=>⟨fun zz1=>by obtain ⟨u,v,⟨h1,u1,u2,q1,q2,e1⟩,h2,e⟩:=zz1;exact ⟨u1,u2++v,q1,.cons q2 h2,by rw [e,e1,List.append_assoc]⟩,fun ⟨u,v,h1,h2,e⟩=>?_⟩)
   cases h2 with
   | @cons _ _ v1 v2 q1 q2=>
   rw [e,List.length_append,List.length_append,← Nat.add_assoc] at hw
   exact ⟨u++v1,v2,⟨by rw [List.length_append];exact Nat.le_trans (Nat.le_add_right ..) hw,u,v1,h1,q1,rfl⟩,q2,by rw [e,List.append_assoc]⟩
 exact (this r (· = []) (fun u e=>e.symm▸Nat.zero_le _) w).trans (and_congr_right fun u0=>⟨fun zz3=>by obtain ⟨u,v,e,h,e'⟩:=zz3;exact by rw [e',show u=[] from e];exact h,fun h=>⟨[],w,rfl,h,rfl⟩⟩)
theorem Lg.rule {r:R} (hr:r∈rs) (e:r.l=s) (ex:r.r=xs) (hw:w.length≤2) (h:Jn (Lg rs tc) xs w):Lg rs tc s w:=fun P hP=>hP _ _ (.inr ⟨r,hr,e,i4.mpr ⟨hw,ex.symm▸h.mono fun u0 u0 q=>q P hP⟩⟩)
theorem Lg.ind (h:Lg rs tc s w) (h1:∀ s,s < tc→s≠1→P s [s]) (h2:∀ r∈rs,∀ w,w.length≤2→Jn P r.r w→P r.l w):P s w:=h P fun s w q=>by
 rcases q with ⟨q1,q2,rfl⟩ | ⟨r,hr,rfl,q⟩
 ·exact h1 s q1 q2
 ·exact h2 r hr w (i4.mp q).1 (i4.mp q).2
theorem Lg.term (h1:s < tc) (h2:s≠1):Lg rs tc s [s]:=fun u0 hP=>hP _ _ (.inl ⟨h1,h2,rfl⟩)
theorem Lg.len (h:Lg rs tc s w):w.length≤2:=h.ind (P:=fun u0 w=>w.length≤2) (fun u0 u0 u0=>Nat.le_succ 1) fun u0 u0 u0 h u0=>h
theorem Opn.yL (o:Opn rs rs' lo a b M) (h:Lg rs' tc s w):Lg rs tc s w:=h.ind (P:=Lg rs tc) (fun u0=>.term) fun r' hr w hw j=>by
 rcases o.sub r' hr with ⟨r,h1,h2,h3⟩ | ⟨g,h1,h2,h3,h4⟩
 ·exact .rule h1 h2 h3 hw j
 ·rw [h4] at j
  obtain ⟨u,v,j1,j2,rfl⟩:=j.split
  obtain ⟨z,v,j4,j3,rfl⟩:=j2.split
  obtain ⟨r,q1,q2,q3⟩:=o.r0
  rw [List.length_append,List.length_append] at hw
  exact .rule q1 (q2.trans h3.symm) q3 (by rw [List.length_append,List.length_append];exact hw) (j1.app (.cons (.rule h1 h2 rfl (by lia) j4) j3))
theorem Opn.yM (o:Opn rs rs' lo a b M) (hM:tc≤M) (h:Lg rs' tc s w):Lg rs' tc s w∧(s=M→∀ u v,Jn (Lg rs' tc) a u→Jn (Lg rs' tc) b v→(u++(w++v)).length≤2→Lg rs' tc lo (u++(w++v))):=h.ind (P:=fun s w=>Lg rs' tc s w∧(s=M→∀ u v,Jn (Lg rs' tc) a u→Jn (Lg rs' tc) b v→(u++(w++v)).length≤2→Lg rs' tc lo (u++(w++v)))) (fun s h1 h2=>⟨.term h1 h2,fun e=>absurd (e▸hM) (Nat.not_le_of_lt h1)⟩) fun r' hr x hx j=>by
 have j':=j.mono (P':=Lg rs' tc) fun u0 u0 h=>h.1
 refine ⟨.rule hr rfl rfl hx j',fun e u v hu hv hl=>?_⟩
 rcases o.sub r' hr with ⟨g,h1,h2,h3⟩ | ⟨g,h1,h2,h3,h4⟩
 ·obtain ⟨r2,p1,p2,p3⟩:=o.new g h1 (h2.trans e)
  exact .rule p1 p2 p3 hl (hu.app ((h3▸j').app hv))
 ·rw [h4] at j
  obtain ⟨y1,x2,j1,j3,rfl⟩:=j.split
  obtain ⟨z,y2,jz,j2,rfl⟩:=j3.split
  have hz:z.length≤2:=by
   rw [List.length_append,List.length_append] at hx;lia
  have hlo:lo=M:=h3.symm.trans e
  have hzM:Lg rs' tc lo z:=by
   rcases o.old g h1 with ⟨q1,q2⟩ | ⟨g',q1,q2,q3⟩
   ·rw [q2] at jz
    obtain ⟨z1,z2,k1,k3,rfl⟩:=jz.split
    cases k3 with
    | cons k k2=>exact k.2 rfl _ _ (k1.mono fun u0 u0 h=>h.1) (k2.mono fun u0 u0 h=>h.1) hz
   ·exact .rule q1 (q2.trans (h2.trans hlo.symm)) q3 hz (jz.mono fun u0 u0 h=>h.1)
  obtain ⟨r,q1,q2,q3⟩:=o.r0
  obtain ⟨r2,p1,p2,p3⟩:=o.new r q1 (q2.trans hlo)
  rw [q3] at p3
  refine .rule p1 p2 p3 hl (hu.app ?_)
  have jj:=(j1.mono fun u0 u0 h=>h.1).app (.cons (hlo▸hzM) (j2.mono fun u0 u0 h=>h.1))
  exact jj.app hv
theorem Opn.yN (o:Opn rs rs' lo a b M) (hM:tc≤M) (h:Lg rs tc s w):Lg rs' tc s w:=h.ind (P:=Lg rs' tc) (fun u0=>.term) fun r hr w hw j=>by
 rcases o.old r hr with ⟨h1,h2⟩ | ⟨r',h1,h2,h3⟩
 ·rw [h2] at j
  obtain ⟨u,x,j1,j2,rfl⟩:=j.split
  cases j2 with
  | cons k k2=>exact h1▸(o.yM hM k).2 rfl _ _ j1 k2 hw
 ·exact .rule h1 h2 h3 hw j
noncomputable def AlP (nl:Nat→Prop) (r:List Nat) (m:Nat):Prop:=∃ a b,r=a++m::b∧(∀ x∈a,nl x)∧∀ x∈b,nl x
noncomputable def NdP (rs:List R) (nl:Nat→Prop) (s m:Nat):Prop:=∃ r∈rs,r.l=s∧AlP nl r.r m
noncomputable def eu (rs:List R) (nl:Nat→Prop) (tc N:Nat):Prop:=∃ Q:Nat→Prop,(∃ s,Q s)∧∀ s,Q s→(tc≤s∧s < N)∧∃ m,NdP rs nl s m∧Q m
variable {nl nl':Nat→Prop} {f:Nat→Nat} {N N' m tc':Nat}
theorem AlP.map (h:AlP nl xs m) (hn:∀ x,nl x→nl' (f x)):AlP nl' (xs.map f) (f m):=by
 obtain ⟨a,b,e,h1,h2⟩:=h
 have:∀ {l:List Nat},(∀ x∈l,nl x)→∀ x∈l.map f,nl' x:=fun h x hx=>by
  obtain ⟨y,hy,rfl⟩:=List.mem_map.mp hx
  exact hn y (h y hy)
 exact ⟨a.map f,b.map f,by rw [e,List.map_append];rfl,this h1,this h2⟩
theorem eu.map (h:eu rs nl tc N) (hi:n9 f rs rs') (hn:∀ x,nl x→nl' (f x)) (ht:∀ s,tc≤s∧s < N→tc'≤f s∧f s < N'):eu rs' nl' tc' N':=by
 obtain ⟨Q,⟨s,hs⟩,h⟩:=h
 refine ⟨fun t=>∃ s,Q s∧f s=t,⟨f s,s,hs,rfl⟩,fun t ⟨s,hs,e⟩=>?_⟩
 obtain ⟨h1,m,⟨r,hr,e1,ha⟩,hm⟩:=h s hs
 obtain ⟨r',p1,p2,p3⟩:=hi r hr
 exact e▸⟨ht s h1,f m,⟨r',p1,p2.trans (congrArg f e1),p3▸ha.map hn⟩,m,hm,rfl⟩
theorem Opn.ye (o:Opn rs rs' lo a b M) (hM:tc≤M∧M < N) (hn:∀ g∈rs,(∀ x∈g.r,nl x)→nl g.l) (h:eu rs' nl tc N):eu rs nl tc N:=by
 obtain ⟨Q,⟨s,hs⟩,h⟩:=h
 refine ⟨fun s=>Q s∨(s=M∧∃ m,NdP rs nl M m∧Q m),⟨s,.inl hs⟩,fun s hs=>?_⟩
 rcases hs with hs | ⟨rfl,m,h1,h2⟩
 ·obtain ⟨h1,m,⟨r',hr,e1,x,y,e,hx,hy⟩,hm⟩:=h s hs
  refine ⟨h1,?_⟩
  rcases o.sub r' hr with ⟨r,p1,p2,p3⟩ | ⟨g,p1,p2,p3,p4⟩
  ·exact ⟨m,⟨r,p1,p2.trans e1,x,y,p3.trans e,hx,hy⟩,.inl hm⟩
  ·obtain ⟨r,q1,q2,q3⟩:=o.r0
   have hl:=q2.trans (p3.symm.trans e1)
   rcases append_at (p4.symm.trans e) with ⟨a2,e2,rfl⟩ | ⟨y1,e2,e3⟩
   ·refine ⟨m,⟨r,q1,hl,x,a2++M::b,by rw [q3,e2,List.append_assoc];rfl,hx,fun z hz=>?_⟩,.inl hm⟩
    rcases List.mem_append.mp hz with hz | hz
    ·exact hy z (List.mem_append_left _ hz)
    ·rcases List.mem_cons.mp hz with rfl | hz
     ·exact p2▸hn g p1 fun z hz=>hy z (List.mem_append_right _ (List.mem_append_left _ hz))
     ·exact hy z (List.mem_append_right _ (List.mem_append_right _ hz))
   ·have ha:∀ z∈a,nl z:=fun z hz=>hx z (e2▸List.mem_append_left _ hz)
    rcases append_at e3 with ⟨g2,e4,rfl⟩ | ⟨b1,e4,e5⟩
    ·exact ⟨M,⟨r,q1,hl,a,b,q3,ha,fun z hz=>hy z (List.mem_append_right _ hz)⟩,.inr ⟨rfl,m,⟨g,p1,p2,y1,g2,e4,fun z hz=>hx z (e2▸List.mem_append_right _ hz),fun z hz=>hy z (List.mem_append_left _ hz)⟩,hm⟩⟩
    ·refine ⟨m,⟨r,q1,hl,a++M::b1,y,by rw [q3,e5,List.append_assoc];rfl,fun z hz=>?_,hy⟩,.inl hm⟩
     rcases List.mem_append.mp hz with hz | hz
     ·exact ha z hz
     ·rcases List.mem_cons.mp hz with rfl | hz
      ·exact p2▸hn g p1 fun z hz=>hx z (e2▸List.mem_append_right _ (e4▸List.mem_append_left _ hz))
      ·exact hx z (e2▸List.mem_append_right _ (e4▸List.mem_append_right _ hz))
 ·exact ⟨hM,m,h1,.inl h2⟩
theorem Opn.yf (o:Opn rs rs' lo a b M) (hd:nl M→∃ g∈rs,g.l=M∧∀ x∈g.r,nl x) (h:eu rs nl tc N):eu rs' nl tc N:=by
 obtain ⟨Q,hs,h⟩:=h
 refine ⟨Q,hs,fun s hs=>?_⟩
 obtain ⟨h1,m,⟨r,hr,e1,x,y,e,hx,hy⟩,hm⟩:=h s hs
 refine ⟨h1,?_⟩
 rcases o.old r hr with ⟨q1,q2⟩ | ⟨r',p1,p2,p3⟩
 ·have hl:=q1.symm.trans e1
  rcases append_at (q2.symm.trans e) with ⟨a2,e2,rfl⟩ | ⟨y1,e2,e3⟩
  ·obtain ⟨g,g1,g2,g3⟩:=hd (hy M (List.mem_append_right _ List.mem_cons_self))
   obtain ⟨r',p1,p2,p3⟩:=o.new g g1 g2
   refine ⟨m,⟨r',p1,p2.trans hl,x,a2++(g.r++b),by rw [p3,e2,List.append_assoc];rfl,hx,fun z hz=>?_⟩,hm⟩
   rcases List.mem_append.mp hz with hz | hz
   ·exact hy z (List.mem_append_left _ hz)
   ·exact (List.mem_append.mp hz).elim (g3 z) fun hz=>hy z (List.mem_append_right _ (List.mem_cons_of_mem _ hz))
  ·cases y1 with
   | nil=>
    cases e3
    rw [List.append_nil] at e2
    obtain ⟨_,m',⟨g,g1,g2,u,v,e',hu,hv⟩,hm'⟩:=h _ hm
    obtain ⟨r',p1,p2,p3⟩:=o.new g g1 g2
    exact ⟨m',⟨r',p1,p2.trans hl,a++u,v++b,by rw [p3,e',List.append_assoc,List.append_assoc];rfl,fun z hz=>(List.mem_append.mp hz).elim (fun hz=>hx z (e2▸hz)) (hu z),fun z hz=>(List.mem_append.mp hz).elim (hv z) (hy z)⟩,hm'⟩
   | cons mm y1=>
    cases e3
    obtain ⟨g,g1,g2,g3⟩:=hd (hx M (e2▸List.mem_append_right _ List.mem_cons_self))
    obtain ⟨r',p1,p2,p3⟩:=o.new g g1 g2
    refine ⟨m,⟨r',p1,p2.trans hl,a++(g.r++y1),y,by rw [p3,List.append_assoc,List.append_assoc];rfl,fun z hz=>?_,hy⟩,hm⟩
    rcases List.mem_append.mp hz with hz | hz
    ·exact hx z (e2▸List.mem_append_left _ hz)
    ·exact (List.mem_append.mp hz).elim (g3 z) fun hz=>hx z (e2▸List.mem_append_right _ (List.mem_cons_of_mem _ hz))
 ·exact ⟨m,⟨r',p1,p2.trans e1,x,y,p3.trans e,hx,hy⟩,hm⟩
end
end Mine
namespace Mine
open PySem PySem.Calls PyProof.Rows PySem.SeqAt PySem.W
section
variable {f g h f' g':WF} {u v w:Word} {n m L x s tc N lo M:Nat} {c c':Nat→WF} {r xs ys a b:List Nat} {nl:List Bool} {rs:List R}
theorem vy {w:Word}:∀ {f:WF},cv (fun u=>n * f u) g w=n * cv f g w:=by
 induction w with
 | nil=>exact Nat.mul_assoc ..
 | cons a w ih=>exact (p2 (Nat.mul_assoc ..) ih).trans (Nat.mul_add ..).symm
theorem r9 {w:Word}:∀ {f:WF},cv (cv f g) h w=cv f (cv g h) w:=by
 induction w with
 | nil=>exact Nat.mul_assoc ..
 | cons a w ih=>exact fun {f}=>(p2 (Nat.mul_assoc ..) ((n8 (f:=fun u=>f [] * g (a::u)) (f':=cv (fun u=>f (a::u)) g)).trans (p2 vy ih))).trans ((Nat.add_assoc ..).symm.trans (p2 (Nat.mul_add ..).symm rfl))
theorem wz {w:Word}:∀ {f:WF},cv f dl w=f w:=by
 induction w with
 | nil=>exact Nat.mul_one _
 | cons a w ih=>exact (p2 rfl ih).trans (Nat.zero_add _)
theorem xd:cv dl g=g:=funext fun w=>by
 cases w with
 | nil=>exact Nat.one_mul _
 | cons a w=>exact (congrArg (1 * g (a::w) + ·) (d9 fun u=>if_neg cnl)).trans (Nat.one_mul _)
noncomputable def fl (c:Nat→WF) (f:WF) (r:List Nat):WF:=r.foldl (fun f x=>cv f (c x)) f
theorem xf {r:List Nat}:∀ {h:WF},fl c (cv f h) r=cv f (fl c h r):=by
 induction r with
 | nil=>exact rfl
 | cons x r ih=>exact (congrArg (fl c · r) (funext fun u0=>r9)).trans ih
theorem uv:fl c f r=cv f (cs c r):=(congrArg (fl c · r) (funext fun u0=>wz).symm).trans xf
theorem nR:cs c (xs++ys)=fl c (cs c xs) ys:=List.foldl_append
theorem gk:cs c (x::r)=cv (c x) (cs c r):=(congrArg (fl c · r) xd).trans uv
noncomputable def sm {α:Type} (l:List α) (F:α→WF):WF:=fun u=>(l.map fun i=>F i u).sum
theorem uX {α:Type} {F:α→WF} {l:List α}:cv (sm l F) g=sm l fun i=>cv (F i) g:=by
 induction l with
 | nil=>exact funext fun u0=>d9 fun u0=>rfl
 | cons i l ih=>exact funext fun w=>(n8 (f:=F i) (f':=sm l F)).trans (p2 rfl (congrFun ih w))
theorem tJ {w:Word}:∀ {f:WF},cv f (fun u=>g u+g' u) w=cv f g w+cv f g' w:=by
 induction w with
 | nil=>exact Nat.mul_add ..
 | cons a w ih=>exact (p2 (Nat.mul_add ..) ih).trans (Nat.add_add_add_comm ..)
theorem rm {w:Word}:∀ {f:WF},cv f (fun u0=>0) w=0:=by
 induction w with
 | nil=>exact rfl
 | cons a w ih=>exact p2 rfl ih
theorem vK {α:Type} {F:α→WF} {l:List α}:cv f (sm l F)=sm l fun i=>cv f (F i):=by
 induction l with
 | nil=>exact funext fun u0=>rm
 | cons i l ih=>exact funext fun w=>(tJ (g:=F i) (g':=sm l F)).trans (p2 rfl (congrFun ih w))
theorem wL {α:Type} {l:List α} {r:List Nat}:∀ {F:α→WF},fl c (sm l F) r=sm l fun i=>fl c (F i) r:=by
 induction r with
 | nil=>exact rfl
 | cons x r ih=>exact (congrArg (fl c · r) uX).trans ih
theorem sD (hf:∀ u,u.length≤L→f u=f' u):∀ u,u.length≤L→fl c f r u=fl c f' r u:=by
 induction r generalizing f f' with
 | nil=>exact hf
 | cons x r ih=>exact ih fun u hu=>c5 (fun v hv=>hf v (Nat.le_trans hv hu)) fun u0 u0=>rfl
theorem tq {gs:List R} (hM:∀ u,u.length≤L→c M u=sm gs (fun g=>cs c g.r) u) (hw:w.length≤L):cs c (a++M::b) w=sm gs (fun g=>cs c (a++(g.r++b))) w:=by
 rw [nR]
 refine (sD (c:=c) (f':=sm gs fun g=>cs c (a++g.r)) (fun u hu=>?_) w hw:fl c (cv (cs c a) (c M)) b w=_).trans ?_
 ·rw [show (fun g:R=>cs c (a++g.r))=fun g=>cv (cs c a) (cs c g.r) from funext fun g=>nR.trans uv,← vK]
  exact c5 (fun u0 u0=>rfl) fun v hv=>hM v (Nat.le_trans hv hu)
 ·rw [wL,show (fun g:R=>cs c (a++(g.r++b)))=fun g=>fl c (cs c (a++g.r)) b from funext fun g=>by rw [← List.append_assoc,nR]]
theorem lQ {r1 r2:List R}:nx (r1++r2) c s w=nx r1 c s w+nx r2 c s w:=by
 unfold nx
 rw [List.filter_append,List.map_append,List.sum_append]
theorem t8 {r1 r2 gs:List R} {r0:R} {F:R→R} (hM:∀ u,u.length≤L→c M u=sm gs (fun g=>cs c g.r) u) (h0:r0.r=a++M::b) (hl:∀ g,(F g).l=r0.l) (hr:∀ g,(F g).r=a++(g.r++b)) (hw:w.length≤L):nx (r1++r0::r2) c s w=nx (r1++(gs.map F++r2)) c s w:=by
 rw [lQ,lQ,lQ,show r0::r2=[r0]++r2 from rfl,lQ]
 have:nx [r0] c s w=nx (gs.map F) c s w:=by
  unfold nx
  rw [List.filter_map,List.map_map,show ((fun r:R=>cs c r.r w) ∘ F)=fun g=>cs c (a++(g.r++b)) w from funext fun g=>congrArg (cs c · w) (hr g),show ((fun r:R=>r.l == s) ∘ F)=fun u0=>r0.l == s from funext fun g=>congrArg (· == s) (hl g)]
  by_cases e:(r0.l == s)=true
  ·rw [List.filter_cons_of_pos (p:=fun r:R=>r.l == s) e,e]
   refine (Nat.add_zero _).trans ((congrArg (cs c · w) h0).trans ((tq hM hw).trans ?_))
   rw [List.filter_eq_self.mpr fun u0 u0=>rfl];rfl
  ·rw [List.filter_cons_of_neg (p:=fun r:R=>r.l == s) e,Bool.eq_false_iff.mpr e]
   rw [List.filter_eq_nil_iff.mpr fun u0 u0=>Bool.false_ne_true];rfl
 rw [this]
theorem fA:solid nl r=[]↔∀ x∈r,isB nl x:=List.filter_eq_nil_iff.trans (forall_congr' fun x=>forall_congr' fun u0=>by
 rw [Bool.not_eq_true',Bool.not_eq_false])
theorem lF:jo nl tc r m↔tc≤m∧AlP (isB nl) r m:=by
 have key:∀ a b:List Nat,(solid nl (a++m::b)).length=(if isB nl m then 0 else 1)↔solid nl a=[]∧solid nl b=[]:=fun a b=>by
  have:solid nl (a++m::b)=solid nl a++((if isB nl m then [] else [m])++solid nl b):=by
   unfold solid
   rw [List.filter_append]
   by_cases e:isB nl m
   ·rw [if_pos e,List.filter_cons_of_neg (Eq.symm e▸Bool.false_ne_true)];rfl
   ·rw [if_neg e,List.filter_cons_of_pos (congrArg _ (Bool.eq_false_iff.mpr e))];rfl
  rw [this,List.length_append,List.length_append,← List.length_eq_zero_iff,← List.length_eq_zero_iff,show (if isB nl m then [] else [m]).length=if isB nl m then 0 else 1 by split <;> rfl]
  generalize (if isB nl m then 0 else 1)=z
  lia
 refine ⟨fun ⟨h1,h2,h3⟩=>⟨h2,?_⟩,fun zz1=>by obtain ⟨h2,a,b,e,ha,hb⟩:=zz1;exact ⟨e▸List.mem_append_right _ List.mem_cons_self,h2,e▸(key a b).mpr ⟨fA.mpr ha,fA.mpr hb⟩⟩⟩
 obtain ⟨a,b,rfl⟩:=List.append_of_mem h1
 have:=(key a b).mp h3
 exact ⟨a,b,rfl,fA.mp this.1,fA.mp this.2⟩
theorem rX (h0:∀ x∈r,¬ isB nl x→c x []=0∧c' x []=0) (h1:∀ x∈r,∀ u,u.length < w.length→c x u=c' x u) (h2:∀ m,AlP (isB nl) r m→c m w=c' m w):cs c r w=cs c' r w:=by
 induction r with
 | nil=>rfl
 | cons x r ih=>
  have ih:=fun hx:isB nl x=>ih (fun y hy=>h0 y (List.mem_cons_of_mem _ hy)) (fun y hy=>h1 y (List.mem_cons_of_mem _ hy)) fun m yq1=>by obtain ⟨a,b,e,ha,hb⟩:=yq1;exact h2 m ⟨x::a,b,congrArg _ e,fun y hy=>(List.mem_cons.mp hy).elim (fun e=>e▸hx) (ha y),hb⟩
  have hz:¬ (∀ y∈r,isB nl y)→cs c r []=0∧cs c' r []=0:=fun h=>by
   have:∃ y∈r,¬ isB nl y:=Classical.byContradiction fun q=>h fun y hy=>Classical.byContradiction fun q'=>q ⟨y,hy,q'⟩
   obtain ⟨y,hy,hn⟩:=this
   have:∀ (c:Nat→WF) (l:List Nat),y∈l→c y []=0→cs c l []=0:=fun c l=>by
    induction l with
    | nil=>exact (fun h=>aE h)
    | cons z l ih=>
     refine fun hy e=>?_
     rw [gk,qX]
     rcases List.mem_cons.mp hy with rfl | hy
     ·rw [e,Nat.zero_mul]
     ·rw [ih hy e,Nat.mul_zero]
   have hc:=h0 y (List.mem_cons_of_mem _ hy) hn
   exact ⟨this c r hy hc.1,this c' r hy hc.2⟩
  rw [gk,gk]
  refine Classical.byContradiction fun q=>?_
  obtain ⟨u,v,rfl,q'⟩:=su q
  refine q' ?_
  rw [List.length_append] at h1
  have sh:v.length < u.length+v.length→cs c r v=cs c' r v:=fun hv=>sN fun y hy t ht=>h1 y (List.mem_cons_of_mem _ hy) t (Nat.lt_of_le_of_lt ht hv)
  cases u with
  | nil=>
   rw [List.nil_append] at ih h2
   by_cases hx:isB nl x
   ·refine Eq.symm (ih hx)▸?_
    cases v with
    | nil=>
     by_cases hr:∀ y∈r,isB nl y
     ·rw [h2 x ⟨[],r,rfl,(fun u0 h=>aE h),hr⟩]
     ·rw [(hz hr).2,Nat.mul_zero,Nat.mul_zero]
    | cons t v=>rw [h1 x List.mem_cons_self [] (by rw [List.length_cons];lia)]
   ·have:=h0 x List.mem_cons_self hx
    rw [this.1,this.2,Nat.zero_mul,Nat.zero_mul]
  | cons t u=>
   rw [sh (by rw [List.length_cons];lia)]
   cases v with
   | nil=>
    rw [List.append_nil] at h2
    by_cases hr:∀ y∈r,isB nl y
    ·rw [h2 x ⟨[],r,rfl,(fun u0 h=>aE h),hr⟩]
    ·rw [(hz hr).2,Nat.mul_zero,Nat.mul_zero]
   | cons t' v=>rw [h1 x List.mem_cons_self (t::u) (by rw [List.length_cons,List.length_cons];lia)]
theorem Tal0.uniq {o:List Nat} (h:Tal0 rs tc N c) (h':Tal0 rs tc N c') (hn:∀ s,s < N→(isB nl s↔Der rs (fun u0=>False) s)) (um:UoM (fG rs nl tc) tc N o) (hall:∀ s,s∈o↔tc≤s∧s < N) (hr:∀ r∈rs,∀ x∈r.r,x < N):∀ n w,w.length=n→n≤3→∀ s,s < N→c s w=c' s w:=fun n=>by
 induction n using Nat.strongRecOn with
 | ind n ih=>
 intro w hw hn3
 have hi:∀ i s,o[i]? = some s→c s w=c' s w:=fun i=>by
  induction i using Nat.strongRecOn with
  | ind i ih2=>
  intro s hs
  have ho:=um.rg s (List.mem_of_getElem? hs)
  rw [h.eq s ho.1 ho.2 w (hw▸hn3),h'.eq s ho.1 ho.2 w (hw▸hn3)]
  refine m5 fun r hm e=>rX (nl:=nl) (fun x hx hz=>?_) (fun x hx u hu=>?_) fun m ha=>?_
  ·have hz:=fun q=>hz ((hn x (hr r hm x hx)).mpr q)
   exact ⟨Classical.byContradiction fun q=>hz (h.nul x (hr r hm x hx) q),Classical.byContradiction fun q=>hz (h'.nul x (hr r hm x hx) q)⟩
  ·exact ih u.length (hw▸hu) u rfl (Nat.le_trans (Nat.le_of_lt (hw▸hu)) hn3) x (hr r hm x hx)
  ·by_cases ht:m < tc
   ·rw [h.tm m ht,h'.tm m ht]
   ·have:=um.ord i s hs m ⟨r,hm,e,lF.mpr ⟨Nat.le_of_not_lt ht,ha⟩⟩
    obtain ⟨j,hj⟩:=List.mem_iff_getElem?.mp this
    have hji:=(List.getElem?_eq_some_iff.mp hj).1
    rw [List.length_take] at hji
    have hji:j < i:=Nat.lt_of_lt_of_le hji (Nat.min_le_left ..)
    have hj:=(Eq.symm (List.getElem?_take_of_lt hji)).trans hj
    exact ih2 j hji m hj
 intro s hs
 by_cases ht:s < tc
 ·rw [h.tm s ht,h'.tm s ht]
 ·obtain ⟨i,hi'⟩:=List.mem_iff_getElem?.mp ((hall s).mpr ⟨Nat.le_of_not_lt ht,hs⟩)
  exact hi i s hi'
theorem pX.xX {g:Gr} (h:pX g) (hg:g.Ok):¬ eu g.rules (NlG g) g.tc g.names.length:=fun zz3=>by
 obtain ⟨Q,⟨s,hs⟩,hQ⟩:=zz3
 obtain ⟨nl,o,hn,um,hall⟩:=h
 have hi:∀ i s,o[i]? = some s→¬ Q s:=fun i=>by
  induction i using Nat.strongRecOn with
  | ind i ih=>
  intro s hs q
  obtain ⟨_,m,⟨r,hr,e,a,b,e',ha,hb⟩,hm⟩:=hQ s q
  have lt:∀ x∈r.r,x < g.names.length:=hg.r r hr
  have:=um.ord i s hs m ⟨r,hr,e,lF.mpr ⟨(hQ m hm).1.1,a,b,e',fun x hx=>(hn x (lt x (e'▸List.mem_append_left _ hx))).mpr (ha x hx),fun x hx=>(hn x (lt x (e'▸List.mem_append_right _ (List.mem_cons_of_mem _ hx)))).mpr (hb x hx)⟩⟩
  obtain ⟨j,hj⟩:=List.mem_iff_getElem?.mp this
  have hji:=(List.getElem?_eq_some_iff.mp hj).1
  rw [List.length_take] at hji
  have hji:j < i:=Nat.lt_of_lt_of_le hji (Nat.min_le_left ..)
  have hj:=(Eq.symm (List.getElem?_take_of_lt hji)).trans hj
  exact ih j hji m hj hm
 obtain ⟨i,hi'⟩:=List.mem_iff_getElem?.mp ((hall s).mpr (hQ s hs).1)
 exact hi i s hi' hs
theorem o8.ring {g:Gr} (h:o8 g) (hg:g.Ok):eu g.rules (NlG g) g.tc g.names.length:=by
 obtain ⟨nl,hn,Q,hs,hQ⟩:=h
 refine ⟨Q,hs,fun s hs=>⟨(hQ s hs).1,?_⟩⟩
 obtain ⟨m,⟨r,hr,e,ha⟩,hm⟩:=(hQ s hs).2
 obtain ⟨_,a,b,e',ha,hb⟩:=lF.mp ha
 have lt:∀ x∈r.r,x < g.names.length:=hg.r r hr
 exact ⟨m,⟨r,hr,e,a,b,e',fun x hx=>(hn x (lt x (e'▸List.mem_append_left _ hx))).mp (ha x hx),fun x hx=>(hn x (lt x (e'▸List.mem_append_right _ (List.mem_cons_of_mem _ hx)))).mp (hb x hx)⟩,hm⟩
end
end Mine
namespace Mine
open PySem PySem.Calls PyProof.Rows PySem.SeqAt PySem.W
noncomputable def tr (ns ns':List Txt) (i:Nat):Nat:=if i < ns.length then ix ns' (ns.getD i []) else i
structure dq (ns ns':List Txt):Prop where
 nd:ns.Nodup
 nd':ns'.Nodup
 mem:∀ x,x∈ns↔x∈ns'
section
variable {ns ns':List Txt} {x:Txt} {i j:Nat}
theorem dq.symm (h:dq ns ns'):dq ns' ns:=⟨h.nd',h.nd,fun x=>(h.mem x).symm⟩
theorem dq.len (h:dq ns ns'):ns.length=ns'.length:=Nat.le_antisymm (h.nd.length_le_of_subset fun x=>(h.mem x).mp) (h.nd'.length_le_of_subset fun x=>(h.mem x).mpr)
theorem h9 (h:i < ns.length):ns.getD i []∈ns:=by
 rw [getD_get' h];exact List.getElem_mem h
where getD_get' {ns:List Txt} {i:Nat} (h:i < ns.length):ns.getD i []=ns[i]:=by rw [List.getD_eq_getElem?_getD,List.getElem?_eq_getElem h];rfl
theorem lV (h:x∈ns):ns.getD (ix ns x) []=x:=by rw [List.getD_eq_getElem?_getD,f6 h];rfl
theorem pk (nd:ns.Nodup) (h:i < ns.length):ix ns (ns.getD i [])=i:=by
 have hm:=h9 h
 exact (List.getElem?_inj (eY hm) nd).mp ((f6 hm).trans (aw (d:=[]) h).symm)
theorem mV (h:x∈ns):tr ns ns' (ix ns x)=ix ns' x:=by unfold tr;rw [if_pos (eY h),lV h]
theorem dq.xt (h:dq ns ns') (hi:i < ns.length):tr ns ns' i < ns'.length∧ns'.getD (tr ns ns' i) []=ns.getD i []:=by
 have hm:=(h.mem _).mp (h9 hi)
 unfold tr
 rw [if_pos hi]
 exact ⟨eY hm,lV hm⟩
theorem dq.xy (h:dq ns ns'):tr ns' ns (tr ns ns' i)=i:=by
 by_cases hi:i < ns.length
 ·have:=h.xt hi
  rw [tr,if_pos this.1,this.2,pk h.nd hi]
 ·have:tr ns ns' i=i:=if_neg hi
  rw [this];exact if_neg (h.len▸hi)
theorem dq.xJ (h:dq ns ns') (e:tr ns ns' i=tr ns ns' j):i=j:=by rw [← h.xy (i:=i),e,h.xy]
theorem dq.xY (h:dq ns ns') (h1:ns[i]? = some x) (h2:ns'[j]? = some x):tr ns ns' i=j:=by
 have hi:=(List.getElem?_eq_some_iff.mp h1).1
 have hj:=(List.getElem?_eq_some_iff.mp h2).1
 refine (List.getElem?_inj (h.xt hi).1 h.nd').mp ?_
 rw [h2,aw (d:=[]) (h.xt hi).1,(h.xt hi).2,← h1,aw (d:=[]) hi]
end
structure PrC (ps:PR):Prop where
 ok:dk ps
 cl:∀ p∈ps,∀ x∈p.2,x∈lefts ps∨x∈TM
section
variable {ps:PR} {i pl:Nat} {p pr:Txt × List Txt} {M x:Txt}
theorem lL:∀ x∈TM,x∉dm∧x≠accT∧x∉NT:=by decide
theorem dk.accN (h:dk ps):accT∉tms ps∧accT∉lefts ps:=⟨fun q=>(fB.mp q).elim (fun q=>by revert q;decide) fun zz0=>by obtain ⟨⟨p,hp,q⟩,_⟩:=zz0;exact (h.pt p hp _ q).elim (fun q=>(lH _ q).2 rfl) fun q=>(lL _ q).2.1 rfl,fun q=>(lH _ (h.left q)).2 rfl⟩
theorem dk.yO (h:dk ps) (hx:x∈tms ps):x∉accT::lefts ps:=fun q=>(List.mem_cons.mp q).elim (fun e=>h.accN.1 (e▸hx)) fun q=>(fB.mp hx).elim (lH x (h.left q)).1 fun q'=>q'.2 q
theorem dk.nodup (h:dk ps):(ae ps).Nodup:=List.nodup_append.mpr ⟨fy,List.nodup_cons.mpr ⟨h.accN.2,iM⟩,fun a ha b hb e=>h.yO ha (e▸hb)⟩
theorem PrC.tm (h:PrC ps):x∈tms ps↔x∈dm∨((∃ p∈ps,x∈p.2)∧x∈TM):=fB.trans (or_congr_right ⟨fun zz1=>by obtain ⟨⟨p,hp,q⟩,h2⟩:=zz1;exact ⟨⟨p,hp,q⟩,(h.cl p hp x q).resolve_left h2⟩,fun zz2=>by obtain ⟨q,h2⟩:=zz2;exact ⟨q,fun q'=>(lL x h2).2.2 (h.ok.left q')⟩⟩)
theorem uD (h:dk ps) {s:Nat} (hs:s < (ae ps).length):s < (tms ps).length↔(ae ps).getD s []∈tms ps:=by
 have hg:=aw (d:=[]) hs
 refine ⟨fun q=>?_,fun q=>Classical.byContradiction fun q'=>?_⟩
 ·unfold ae at hg ⊢
  have hg:=(Eq.symm (List.getElem?_append_left q)).trans hg
  exact List.mem_of_getElem? hg
 ·unfold ae at hg
  have hg:=(Eq.symm (List.getElem?_append_right (Nat.le_of_not_lt q'))).trans hg
  exact h.yO q (List.mem_of_getElem? hg)
theorem qn {lf:List Txt}:∀ {xs ns:List Txt},∃ m,xs.foldl (bw lf) ns=ns++m:=by
 intro xs
 induction xs generalizing lf with
 | nil=>
  exact @fun ns=>⟨[],(List.append_nil ns).symm⟩
 | cons x xs ihq=>
  intro ns
  obtain ⟨m,e⟩:=ihq (lf:=lf) (ns:=bw lf ns x)
  rw [List.foldl_cons,e]
  unfold bw
  split
  ·exact ⟨m,rfl⟩
  ·exact ⟨[x]++m,List.append_assoc ..⟩
theorem md {j:Nat} (hj:j < 3):(ae ps)[j]? = dm[j]?:=by
 obtain ⟨m,e⟩:=qn (lf:=lefts ps) (xs:=ps.flatMap (·.2)) (ns:=dm)
 have e:tms ps=dm++m:=e
 unfold ae
 rw [e,List.append_assoc]
 exact List.getElem?_append_left hj
theorem lK:(ae ps)[(tms ps).length]? = some accT:=by
 unfold ae
 rw [List.getElem?_append_right (Nat.le_refl _),Nat.sub_self];rfl
structure Sit (ps:PR) (i pl:Nat) (pr:Txt × List Txt) (M:Txt):Prop where
 c:PrC ps
 hp:ps[i]? = some pr
 hM:pr.2[pl]? = some M
 hl:M∈lefts ps
theorem Sit.row (h:Sit ps i pl pr M):pr.2=pr.2.take pl++M::pr.2.drop (pl+1):=by
 have hl:=(List.getElem?_eq_some_iff.mp h.hM)
 obtain ⟨hl,e⟩:=hl
 rw [← e,List.getElem_cons_drop,List.take_append_drop]
theorem Sit.list (h:Sit ps i pl pr M):ps=ps.take i++pr::ps.drop (i+1):=by
 obtain ⟨hl,e⟩:=List.getElem?_eq_some_iff.mp h.hp
 rw [← e,List.getElem_cons_drop,List.take_append_drop]
theorem Sit.mem (h:Sit ps i pl pr M):pr∈ps:=List.mem_of_getElem? h.hp
theorem Sit.rule (h:Sit ps i pl pr M):∃ g∈ps,g.1=M:=List.mem_map.mp (bM.mp h.hl)
theorem dX:p∈af ps i pr pl M↔p∈ps.take i∨(∃ g∈ps,g.1=M∧cM pr pl g.2=p)∨p∈ps.drop (i+1):=by
 unfold af
 rw [List.mem_append,List.mem_append,List.mem_map,or_assoc]
 refine or_congr_right (or_congr_left (exists_congr fun g=>?_))
 rw [List.mem_filter,and_assoc,beq_iff_eq]
theorem Sit.sub (_:Sit ps i pl pr M) (hp:p∈af ps i pr pl M):p∈ps∨∃ g∈ps,g.1=M∧cM pr pl g.2=p:=by
 rcases dX.mp hp with q | q | q
 ·exact .inl (List.mem_of_mem_take q)
 ·exact .inr q
 ·exact .inl (List.mem_of_mem_drop q)
theorem Sit.old (h:Sit ps i pl pr M) (hp:p∈ps):p=pr∨p∈af ps i pr pl M:=by
 rw [h.list] at hp
 rcases List.mem_append.mp hp with q | q
 ·exact .inr (dX.mpr (.inl q))
 ·exact (List.mem_cons.mp q).imp_right fun q=>dX.mpr (.inr (.inr q))
theorem Sit.new (_:Sit ps i pl pr M) (hp:p∈ps) (e:p.1=M):cM pr pl p.2∈af ps i pr pl M:=dX.mpr (.inr (.inl ⟨p,hp,e,rfl⟩))
theorem qy {ns:List Txt} {l:List Txt} (hx:x∈ns) (h:∀ y∈l,y=x):l.foldl (bw []) ns=ns:=by
 induction l with
 | nil=>rfl
 | cons y l ih=>
  have:bw [] ns y=ns:=if_pos (.inr (h y List.mem_cons_self▸hx))
  rw [List.foldl_cons,this];exact ih fun z hz=>h z (List.mem_cons_of_mem _ hz)
theorem Sit.lef (h:Sit ps i pl pr M):lefts (af ps i pr pl M)=lefts ps:=by
 have e:lefts ps=((ps.take i++pr::ps.drop (i+1)).map (·.1)).foldl (bw []) []:=congrArg _ h.list
 rw [e]
 unfold lefts af
 rw [List.map_append,List.map_append,List.map_append,List.foldl_append,List.foldl_append,List.foldl_append,List.map_cons,List.foldl_cons]
 generalize ((ps.take i).map (·.1)).foldl (bw []) []=ns
 congr 1
 obtain ⟨g,hg,e⟩:=h.rule
 have hm:g∈ps.filter (·.1 == M):=List.mem_filter.mpr ⟨hg,beq_iff_eq.mpr e⟩
 cases hf:ps.filter (·.1 == M) with
 | nil=>have hm:=hf▸hm;cases hm
 | cons a l=>
  rw [List.map_cons,List.map_cons,List.foldl_cons]
  exact qy (x:=pr.1) (mS.mpr (.inr ⟨rfl,(fun h=>aE h)⟩)) fun y hy=>by
   rw [List.map_map] at hy
   obtain ⟨b,_,rfl⟩:=List.mem_map.mp hy
   rfl
theorem Sit.part (h:Sit ps i pl pr M) {q:Txt × List Txt} (hq:q∈af ps i pr pl M) (hx:x∈q.2):∃ p∈ps,x∈p.2:=by
 rcases h.sub hq with q' | ⟨g,hg,_,rfl⟩
 ·exact ⟨q,q',hx⟩
 ·have hx:x∈pr.2.take pl++g.2++pr.2.drop (pl+1):=hx
  rcases List.mem_append.mp hx with hx | hx
  ·rcases List.mem_append.mp hx with hx | hx
   ·exact ⟨pr,h.mem,List.mem_of_mem_take hx⟩
   ·exact ⟨g,hg,hx⟩
  ·exact ⟨pr,h.mem,List.mem_of_mem_drop hx⟩
theorem Sit.yP (h:Sit ps i pl pr M) (h30:ps.length≤30) (h3:∀ p∈ps,p.2.length≤3):PrC (af ps i pr pl M):=by
 obtain ⟨g,hg,e⟩:=h.rule
 refine ⟨⟨List.ne_nil_of_mem (h.new hg e),?_,fun p hp=>?_,fun p hp x hx=>?_,fun p hp=>?_⟩,fun p hp x hx=>?_⟩
 ·unfold af
  rw [List.length_append,List.length_append,List.length_map]
  have:=List.length_filter_le (fun p:Txt × List Txt=>p.1 == M) ps
  have hl:=congrArg List.length h.list
  rw [List.length_append,List.length_cons] at hl
  lia
 ·rcases h.sub hp with q | ⟨g,hg,_,rfl⟩
  ·exact h.c.ok.nt p q
  ·exact h.c.ok.nt pr h.mem
 ·obtain ⟨p',hp',hx'⟩:=h.part hp hx
  exact h.c.ok.pt p' hp' x hx'
 ·rcases h.sub hp with q | ⟨g,hg,_,rfl⟩
  ·exact h.c.ok.rl p q
  ·show (pr.2.take pl++g.2++pr.2.drop (pl+1)).length≤5
   have h1:=h3 pr h.mem
   have h2:=h3 g hg
   have hl:=congrArg List.length h.row
   rw [List.length_append,List.length_cons] at hl
   rw [List.length_append,List.length_append]
   lia
 ·rw [h.lef]
  obtain ⟨p',hp',hx'⟩:=h.part hp hx
  exact h.c.cl p' hp' x hx'
theorem Sit.tme (h:Sit ps i pl pr M) (c':PrC (af ps i pr pl M)):x∈tms (af ps i pr pl M)↔x∈tms ps:=by
 rw [c'.tm,h.c.tm]
 refine or_congr_right (and_congr_left fun ht=>⟨fun zz3=>by obtain ⟨q,hq,hx⟩:=zz3;exact h.part hq hx,fun ⟨p,hp,hx⟩=>?_⟩)
 rcases h.old hp with rfl | q
 ·obtain ⟨g,hg,e⟩:=h.rule
  refine ⟨_,h.new hg e,?_⟩
  show x∈p.2.take pl++g.2++p.2.drop (pl+1)
  rw [h.row] at hx
  rcases List.mem_append.mp hx with hx | hx
  ·exact List.mem_append_left _ (List.mem_append_left _ hx)
  ·rcases List.mem_cons.mp hx with rfl | hx
   ·exact absurd (h.c.ok.left h.hl) (lL _ ht).2.2
   ·exact List.mem_append_right _ hx
 ·exact ⟨p,q,hx⟩
theorem Sit.same (h:Sit ps i pl pr M) (c':PrC (af ps i pr pl M)):dq (ae (af ps i pr pl M)) (ae ps):=⟨c'.ok.nodup,h.c.ok.nodup,fun x=>by
 unfold ae
 rw [List.mem_append,List.mem_append,h.tme c',h.lef]⟩
theorem Sit.tc (h:Sit ps i pl pr M) (c':PrC (af ps i pr pl M)):(tms (af ps i pr pl M)).length=(tms ps).length:=Nat.le_antisymm (fy.length_le_of_subset fun u0=>(h.tme c').mp) (fy.length_le_of_subset fun u0=>(h.tme c').mpr)
end
end Mine
namespace Mine
open PySem PySem.Calls PyProof.Rows PySem.SeqAt PySem.W
noncomputable def lr (r:R):Nat × List Nat:=(r.l,r.r)
noncomputable def lrA (ns:List Txt) (tc st:Nat) (ps:PR):List (Nat × List Nat):=(tc,[st,0])::ps.map fun p=>(ix ns p.1,p.2.map (ix ns))
noncomputable abbrev stt (ps:PR):Nat:=ix (ae ps) ((lefts ps).headD [])
section
variable {ps:PR} {i pl n s t:Nat} {p pr:Txt × List Txt} {M x y:Txt} {ns:List Txt} {rs:List R} {C:Nat→WF} {w:Word}
theorem kN:(aB ps).map lr=lrA (ae ps) (tms ps).length (stt ps) ps:=by
 unfold aB lrA
 rw [List.map_cons,List.map_map];rfl
theorem eD (e:rs.map lr=lrA ns n s ps):(∃ r∈rs,r.l=n∧r.r=[s,0])∧∀ p∈ps,∃ r∈rs,r.l=ix ns p.1∧r.r=p.2.map (ix ns):=by
 have key:∀ a b,(a,b)∈lrA ns n s ps→∃ r∈rs,r.l=a∧r.r=b:=fun a b h=>by
  rw [← e] at h
  obtain ⟨r,hr,e⟩:=List.mem_map.mp h
  cases e
  exact ⟨r,hr,rfl,rfl⟩
 exact ⟨key _ _ List.mem_cons_self,fun p hp=>key _ _ (List.mem_cons_of_mem _ (List.mem_map.mpr ⟨p,hp,rfl⟩))⟩
theorem sR (e:rs.map lr=lrA ns n s ps) {r:R} (hr:r∈rs):(r.l=n∧r.r=[s,0])∨∃ p∈ps,r.l=ix ns p.1∧r.r=p.2.map (ix ns):=by
 have h:lr r∈lrA ns n s ps:=e▸List.mem_map_of_mem hr
 rcases List.mem_cons.mp h with q | q
 ·exact .inl ⟨congrArg (·.1) q,congrArg (·.2) q⟩
 ·obtain ⟨p,hp,q⟩:=List.mem_map.mp q
  exact .inr ⟨p,hp,(congrArg (·.1) q).symm,(congrArg (·.2) q).symm⟩
theorem uT {rs':List R} (e:rs.map lr=rs'.map lr):nx rs C s w=nx rs' C s w:=by
 have:∀ rs:List R,nx rs C s w=(((rs.map lr).filter (·.1 == s)).map fun p=>cs C p.2 w).sum:=fun rs=>by
  rw [List.filter_map,List.map_map];rfl
 rw [this,this,e]
noncomputable abbrev fT (ps ps':PR):Nat→Nat:=tr (ae ps') (ae ps)
noncomputable def rs2 (ps ps':PR):List R:=(aB ps').map (·.map (fT ps ps'))
theorem f9 (h:dk ps):(lefts ps).headD []∈ae ps:=List.mem_append_right _ (List.mem_cons_of_mem _ (dF h).1)
theorem bN (h:x∈lefts ps):x∈ae ps:=List.mem_append_right _ (List.mem_cons_of_mem _ h)
theorem nU (hx:x∈ns) (hy:y∈ns) (e:ix ns x=ix ns y):x=y:=Option.some.inj ((f6 hx).symm.trans (e▸f6 hy))
theorem jT (h:dk ps) (hx:x∈lefts ps):(tms ps).length≠ix (ae ps) x:=fun e=>h.accN.2 (Option.some.inj ((lK (ps:=ps)).symm.trans (e▸f6 (bN hx)))▸hx)
theorem Sit.fix (_:Sit ps i pl pr M) {ps':PR} (hs:dq (ae ps') (ae ps)) {j:Nat} (hj:j < 3):fT ps ps' j=j:=by
 have h3:j < dm.length:=hj
 exact hs.xY (x:=dm[j]) ((md hj).trans (List.getElem?_eq_getElem h3)) ((md hj).trans (List.getElem?_eq_getElem h3))
theorem Sit.xZ (h:Sit ps i pl pr M) (c':PrC (af ps i pr pl M)):(rs2 ps (af ps i pr pl M)).map lr=lrA (ae ps) (tms ps).length (stt ps) (af ps i pr pl M):=by
 have hs:=h.same c'
 generalize hps':af ps i pr pl M=ps' at c' hs
 have hlf:lefts ps'=lefts ps:=hps'▸h.lef
 have htc:(tms ps').length=(tms ps).length:=by subst hps';exact h.tc c'
 unfold rs2 aB lrA
 rw [List.map_cons,List.map_cons,List.map_map,List.map_map]
 refine List.cons_eq_cons.mpr ⟨?_,List.map_congr_left fun p hp=>?_⟩
 ·refine Prod.ext (hs.xY lK lK) ?_
  show [tr _ _ (ix _ _),fT ps ps' 0]=[_,0]
  rw [mV (f9 c'.ok),hlf,h.fix hs (j:=0) (by decide)]
 ·obtain ⟨m1,m2⟩:=cR c'.ok hp
  refine Prod.ext (mV m1) ?_
  show (p.2.map _).map _=_
  rw [List.map_map]
  exact List.map_congr_left fun x hx=>mV (m2 x hx)
theorem eP {g:Txt × List Txt}:(cM pr pl g.2).2.map (ix ns)=(pr.2.take pl).map (ix ns)++(g.2.map (ix ns)++(pr.2.drop (pl+1)).map (ix ns)):=by
 show (pr.2.take pl++g.2++pr.2.drop (pl+1)).map (ix ns)=_
 rw [List.map_append,List.map_append,List.append_assoc]
theorem Sit.opn (h:Sit ps i pl pr M) (c':PrC (af ps i pr pl M)):Opn (aB ps) (rs2 ps (af ps i pr pl M)) (ix (ae ps) pr.1) ((pr.2.take pl).map (ix (ae ps))) ((pr.2.drop (pl+1)).map (ix (ae ps))) (ix (ae ps) M):=by
 have e1:=kN (ps:=ps)
 have e2:=h.xZ c'
 have hrow:pr.2.map (ix (ae ps))=(pr.2.take pl).map (ix (ae ps))++ix (ae ps) M::(pr.2.drop (pl+1)).map (ix (ae ps)):=(congrArg (List.map (ix (ae ps))) h.row).trans List.map_append
 refine ⟨?_,fun r' hr=>?_,fun r hr=>?_,fun g hg e=>?_⟩
 ·obtain ⟨r,h1,h2,h3⟩:=(eD e1).2 pr h.mem
  exact ⟨r,h1,h2,h3.trans hrow⟩
 ·rcases sR e2 hr with ⟨q1,q2⟩ | ⟨p,hp,q1,q2⟩
  ·obtain ⟨r,h1,h2,h3⟩:=(eD e1).1
   exact .inl ⟨r,h1,h2.trans q1.symm,h3.trans q2.symm⟩
  ·rcases h.sub hp with hp | ⟨g,hg,e,rfl⟩
   ·obtain ⟨r,h1,h2,h3⟩:=(eD e1).2 p hp
    exact .inl ⟨r,h1,h2.trans q1.symm,h3.trans q2.symm⟩
   ·obtain ⟨r,h1,h2,h3⟩:=(eD e1).2 g hg
    exact .inr ⟨r,h1,h2.trans (congrArg _ e),q1,q2.trans (eP.trans (by rw [h3]))⟩
 ·rcases sR e1 hr with ⟨q1,q2⟩ | ⟨p,hp,q1,q2⟩
  ·obtain ⟨r,h1,h2,h3⟩:=(eD e2).1
   exact .inr ⟨r,h1,h2.trans q1.symm,h3.trans q2.symm⟩
  ·rcases h.old hp with rfl | hp
   ·exact .inl ⟨q1,q2.trans hrow⟩
   ·obtain ⟨r,h1,h2,h3⟩:=(eD e2).2 p hp
    exact .inr ⟨r,h1,h2.trans q1.symm,h3.trans q2.symm⟩
 ·rcases sR e1 hg with ⟨q1,q2⟩ | ⟨p,hp,q1,q2⟩
  ·exact absurd (q1.symm.trans e) (jT h.c.ok h.hl)
  ·obtain ⟨r,h1,h2,h3⟩:=(eD e2).2 _ (h.new hp (nU (cR h.c.ok hp).1 (bN h.hl) (q1.symm.trans e)))
   exact ⟨r,h1,h2,h3.trans (eP.trans (by rw [q2]))⟩
theorem dq.back {ps':PR} (hs:dq (ae ps') (ae ps)):tr (ae ps) (ae ps') (fT ps ps' s)=s:=hs.xy
theorem jk {ps':PR}:n9 (fT ps ps') (aB ps') (rs2 ps ps'):=fun r hr=>⟨_,List.mem_map_of_mem hr,rfl,rfl⟩
theorem j7 {ps':PR} (hs:dq (ae ps') (ae ps)):n9 (tr (ae ps) (ae ps')) (rs2 ps ps') (aB ps'):=fun r hr=>by
 obtain ⟨r,hm,rfl⟩:=List.mem_map.mp hr
 refine ⟨r,hm,hs.back.symm,?_⟩
 show r.r=(r.r.map _).map _
 rw [List.map_map]
 exact (List.map_id _).symm.trans (List.map_congr_left fun x u0=>hs.back.symm)
variable {o1 o2 o1' o2':List D} {ic ic':D}
theorem Sit.lt (h:Sit ps i pl pr M) (c':PrC (af ps i pr pl M)):s < (tms (af ps i pr pl M)).length↔fT ps (af ps i pr pl M) s < (tms ps).length:=by
 have hs:=h.same c'
 by_cases hn:s < (ae (af ps i pr pl M)).length
 ·obtain ⟨h1,h2⟩:=hs.xt hn
  rw [uD c'.ok hn,uD h.c.ok h1,h2,h.tme c']
 ·have e:fT ps (af ps i pr pl M) s=s:=if_neg hn
  rw [e,h.tc c']
end
end Mine
namespace Mine
open PySem PySem.Calls PyProof.Rows PySem.SeqAt PySem.W
section
variable {ps:PR} {i pl s t:Nat} {pr:Txt × List Txt} {M x:Txt} {o1 o2 o1' o2':List D} {ic ic' d d':D}
theorem cD.at_ {g:Gr} {S:Nat→Prop} {L:List Txt} (h:cD g S L) {u:Txt}:u∈L↔∃ t,S t∧g.names.getD t []=u:=by
 obtain ⟨ts,_,h2,h3⟩:=h.prm
 rw [h3.mem_iff,List.mem_map]
 exact exists_congr fun t=>and_congr_left fun u0=>h2 t
theorem cD.nodup {g:Gr} {S:Nat→Prop} {L:List Txt} (h:cD g S L) (nd:g.names.Nodup) (lt:∀ t,S t→t < g.names.length):L.Nodup:=by
 obtain ⟨ts,h1,h2,h3⟩:=h.prm
 refine h3.nodup_iff.mpr (gq (fun a ha b hb e=>?_) h1)
 have ha:=lt a ((h2 a).mp ha)
 have hb:=lt b ((h2 b).mp hb)
 exact (List.getElem?_inj ha nd).mp (by rw [aw (d:=[]) ha,aw (d:=[]) hb,e])
theorem cD.sub {g g':Gr} {S S':Nat→Prop} {L L':List Txt} (h:cD g S L) (h':cD g' S' L') (hs:dq g'.names g.names) (lt:∀ t,S' t→t < g'.names.length) (e:∀ t,S' t→S (tr g'.names g.names t)):∀ u∈L',u∈L:=fun u hu=>by
 obtain ⟨t,ht,q⟩:=h'.at_.mp hu
 exact h.at_.mpr ⟨_,e t ht,(hs.xt (lt t ht)).2.trans q⟩
theorem cD.same {g g':Gr} {S S':Nat→Prop} {L L':List Txt} (h:cD g S L) (h':cD g' S' L') (hs:dq g'.names g.names) (lt:∀ t,S t→t < g.names.length) (lt':∀ t,S' t→t < g'.names.length) (e:∀ t,S' t↔S (tr g'.names g.names t)):L=L':=by
 refine nq ((List.perm_ext_iff_of_nodup (h.nodup hs.nd' lt) (h'.nodup hs.nd lt')).mpr fun u=>⟨h'.sub h hs.symm lt (fun t q=>(e _).mpr ?_) u,h.sub h' hs lt' (fun t=>(e t).mp) u⟩) h.srt h'.srt
 rw [hs.symm.xy];exact q
theorem Der.hd {rs:List R} {kn:Nat→Prop} (hk:¬ kn s) (h:Der rs kn s):∃ g∈rs,g.l=s∧∀ x∈g.r,Der rs kn x:=by
 cases h with
 | known k=>exact absurd k hk
 | rule hr h=>exact ⟨_,hr,rfl,h⟩
theorem Sit.gM (h:Sit ps i pl pr M):∃ g∈aB ps,g.l=ix (ae ps) M:=by
 obtain ⟨p,hp,e⟩:=h.rule
 obtain ⟨r,h1,h2,_⟩:=(eD kN).2 p hp
 exact ⟨r,h1,h2.trans (congrArg _ e)⟩
theorem Sit.der (h:Sit ps i pl pr M) (c':PrC (af ps i pr pl M)) {kn kn':Nat→Prop} (hk:∀ s,kn' s↔kn (fT ps (af ps i pr pl M) s)) (hM:¬ kn (ix (ae ps) M)):Der (aB (af ps i pr pl M)) kn' s↔Der (aB ps) kn (fT ps (af ps i pr pl M) s):=by
 have hs:=h.same c'
 refine ⟨fun q=>(h.opn c').yw (q.map jk fun s=>(hk s).mp),fun q=>?_⟩
 have:=((h.opn c').yx hM q).map (j7 hs) (nl':=kn') fun s k=>(hk _).mpr (by rw [show fT ps _ (tr _ _ s)=s from hs.symm.xy];exact k)
 rwa [hs.back] at this
theorem Sit.nl (h:Sit ps i pl pr M) (c':PrC (af ps i pr pl M)):Der (aB (af ps i pr pl M)) (fun u0=>False) s↔Der (aB ps) (fun u0=>False) (fT ps (af ps i pr pl M) s):=h.der c' (fun u0=>Iff.rfl) id
noncomputable abbrev nlP (ps:PR):Nat→Prop:=Der (aB ps) fun u0=>False
theorem Sit.nlB (h:Sit ps i pl pr M) (c':PrC (af ps i pr pl M)) (q:nlP ps s):nlP (af ps i pr pl M) (tr (ae ps) (ae (af ps i pr pl M)) s):=(h.nl c').mpr (by rw [show fT ps _ (tr _ _ s)=s from (h.same c').symm.xy];exact q)
theorem Sit.ltB (h:Sit ps i pl pr M) (c':PrC (af ps i pr pl M)):tr (ae ps) (ae (af ps i pr pl M)) s < (tms (af ps i pr pl M)).length↔s < (tms ps).length:=(h.lt c').trans (by rw [show fT ps _ (tr _ _ s)=s from (h.same c').symm.xy])
noncomputable abbrev fiP (ps:PR):Nat→Nat→Prop:=Fi (aB ps) (tms ps).length (nlP ps)
noncomputable abbrev foP (ps:PR):Nat→Nat→Prop:=Fo (aB ps) (tms ps).length (nlP ps) (fiP ps)
theorem lB {rs:List R}:∀ g∈rs,(∀ x∈g.r,Der rs (fun u0=>False) x)→Der rs (fun u0=>False) g.l:=fun u0=>.rule
theorem Sit.fiF (h:Sit ps i pl pr M) (c':PrC (af ps i pr pl M)) (q:fiP (af ps i pr pl M) s t):fiP ps (fT ps (af ps i pr pl M) s) (fT ps (af ps i pr pl M) t):=(h.opn c').yH lB (q.map jk (fun u0=>(h.nl c').mp) fun u0=>(h.lt c').mp)
theorem Sit.fiB (h:Sit ps i pl pr M) (c':PrC (af ps i pr pl M)) (q:fiP ps s t):fiP (af ps i pr pl M) (tr (ae ps) (ae (af ps i pr pl M)) s) (tr (ae ps) (ae (af ps i pr pl M)) t):=((h.opn c').yI (cp h.c.ok h.hl) h.gM (Der.hd id) q).map (j7 (h.same c')) (fun u0=>h.nlB c') fun u0=>(h.ltB c').mpr
theorem Sit.fi (h:Sit ps i pl pr M) (c':PrC (af ps i pr pl M)):fiP (af ps i pr pl M) s t↔fiP ps (fT ps (af ps i pr pl M) s) (fT ps (af ps i pr pl M) t):=⟨h.fiF c',fun q=>by
 have:=h.fiB c' q
 rwa [(h.same c').back,(h.same c').back] at this⟩
theorem Sit.foF (h:Sit ps i pl pr M) (c':PrC (af ps i pr pl M)) (q:foP (af ps i pr pl M) s t):foP ps (fT ps (af ps i pr pl M) s) (fT ps (af ps i pr pl M) t):=(h.opn c').yJ (cp h.c.ok h.hl) lB (fun g hg t q=>.fold (.inr ⟨g,hg,rfl,q⟩)) (q.map jk (fun u0=>(h.nl c').mp) (fun u0 u0=>h.fiF c') fun u0 hs=>Nat.le_of_not_lt fun q=>Nat.not_lt_of_le hs ((h.lt c').mpr q))
theorem Sit.foB (h:Sit ps i pl pr M) (c':PrC (af ps i pr pl M)) (hs:fT ps (af ps i pr pl M) s≠ix (ae ps) M) (q:foP ps (fT ps (af ps i pr pl M) s) (fT ps (af ps i pr pl M) t)):foP (af ps i pr pl M) s t:=by
 have q:=(((h.opn c').yK (cp h.c.ok h.hl) h.gM (Der.hd id) (fun t q=>by
  rcases q.unfold with ⟨q,_⟩ | q
  ·exact absurd (cp h.c.ok h.hl) (Nat.not_le_of_lt q)
  ·exact q) q).1 hs).map (j7 (h.same c')) (fun u0=>h.nlB c') (fun u0 u0=>h.fiB c') (fun u0 hs=>Nat.le_of_not_lt fun q=>Nat.not_lt_of_le hs ((h.ltB c').mp q))
 rwa [(h.same c').back,(h.same c').back] at q
theorem Sit.told (h:Sit ps i pl pr M) (c':PrC (af ps i pr pl M)) (hx:x∈lefts ps) (q:rB (gOf ps o1 o2 ic) (ix (ae ps) x) d) (q':rB (gOf (af ps i pr pl M) o1' o2' ic') (ix (ae (af ps i pr pl M)) x) d') :
  ∃ b1 b2 L1 L2 L3,d=.tup [.tup [.bool b1,.bool b2,.lst (txs L1)],.lst (txs L2)]∧d'=.tup [.tup [.bool b1,.bool b2,.lst (txs L1)],.lst (txs L3)]∧(x≠M→L2=L3)∧(∀ u∈L3,u∈L2)∧L3.length≤16:=by
 have hs:=h.same c'
 have hx':x∈ae (af ps i pr pl M):=bN (h.lef▸hx)
 have ef:fT ps (af ps i pr pl M) (ix (ae (af ps i pr pl M)) x)=ix (ae ps) x:=mV hx'
 have ok1:=(fq h.c.ok (of_:=o1) (ow:=o2) (ic:=ic)).1
 have ok2:=(fq c'.ok (of_:=o1') (ow:=o2') (ic:=ic')).1
 cases q with
 | @mk b1 b2 L1 L2 p1 p2 p3 p4=>
 cases q' with
 | @mk b1' b2' L1' L2' r1 r2 r3 r4=>
 have e1:b1=b1':=Bool.eq_iff_iff.mpr (p1.trans (Iff.trans (ef▸(h.nl c').symm) r1.symm))
 have e2:b2=b2':=Bool.eq_iff_iff.mpr (p2.trans (Iff.trans (ef▸(h.der c' (kn:=(· < (tms ps).length)) (kn':=(· < (tms (af ps i pr pl M)).length)) (fun u0=>h.lt c') (Nat.not_lt.mpr (cp h.c.ok h.hl))).symm) r2.symm))
 have e3:L1=L1':=p3.same r3 hs (fun t=>oR ok1) (fun t=>oR ok2) fun t=>by
  show fiP _ _ _↔fiP _ _ _
  exact ef▸h.fi c'
 have hsub:∀ t,foP (af ps i pr pl M) (ix (ae (af ps i pr pl M)) x) t→foP ps (ix (ae ps) x) (fT ps (af ps i pr pl M) t):=fun t q=>by
  exact ef▸h.foF c' q
 subst e1 e2 e3
 refine ⟨_,_,_,_,_,rfl,rfl,fun hne=>p4.same r4 hs (fun t=>lx ok1) (fun t=>lx ok2) fun t=>⟨hsub t,fun q=>h.foB c' (fun e=>hne (nU (bN hx) (bN h.hl) (ef.symm.trans e))) ?_⟩,p4.sub r4 hs (fun t=>lx ok2) hsub,Nat.le_trans ((r4.nodup hs.nd fun t=>lx ok2).length_le_of_subset fun u hu=>?_) ok2.n⟩
 ·exact ef▸q
 ·obtain ⟨t,ht,e⟩:=r4.at_.mp hu
  exact e▸h9 (lx ok2 ht)
end
end Mine
namespace Mine
open PySem PySem.Calls PyProof.Rows PySem.SeqAt PySem.W
section
variable {ps:PR} {i pl s t:Nat} {pr:Txt × List Txt} {M x:Txt} {o1 o2 o1' o2':List D} {ic ic' d d':D} {f:Nat→Nat} {C:Nat→WF} {w:Word} {r:List Nat}
theorem vi {F G:WF}:∀ {w:Word} {F:WF},cv F G (w.map f)=cv (fun u=>F (u.map f)) (fun u=>G (u.map f)) w:=by
 intro w
 induction w with
 | nil=>
  exact @fun u0=>rfl
 | cons a w ihq=>
  intro F
  exact congrArg (F [] * G (f a::w.map f) + ·) (ihq (F:=fun u=>F (f a::u)))
theorem vj:∀ {w:Word},cs C (r.map f) (w.map f)=cs (fun s w=>C (f s) (w.map f)) r w:=by
 induction r with
 | nil=>intro w;cases w <;> rfl
 | cons x r ih=>
  intro w
  rw [List.map_cons,gk,gk,vi (F:=C (f x))]
  exact congrArg (cv _ · w) (funext fun u=>ih)
theorem u6 {rs:List R} (hi:∀ a b,f a=f b→a=b):nx (rs.map (·.map f)) C (f s) (w.map f)=nx rs (fun s w=>C (f s) (w.map f)) s w:=by
 unfold nx
 rw [List.filter_map,List.map_map]
 have:((fun r:R=>r.l == f s) ∘ fun r:R=>r.map f)=fun r:R=>r.l == s:=funext fun r=>by
  show (f r.l == f s)=_
  rw [Bool.eq_iff_iff,beq_iff_eq,beq_iff_eq]
  exact ⟨hi _ _,congrArg f⟩
 rw [this]
 exact congrArg List.sum (List.map_congr_left fun r u0=>vj)
theorem Sit.rng (h:Sit ps i pl pr M) (c':PrC (af ps i pr pl M)) (hs:(tms (af ps i pr pl M)).length≤s∧s < (ae (af ps i pr pl M)).length):(tms ps).length≤fT ps (af ps i pr pl M) s∧fT ps (af ps i pr pl M) s < (ae ps).length:=⟨Nat.le_of_not_lt fun q=>Nat.not_lt_of_le hs.1 ((h.lt c').mpr q),((h.same c').xt hs.2).1⟩
theorem Sit.ring (h:Sit ps i pl pr M) (c':PrC (af ps i pr pl M)):eu (aB (af ps i pr pl M)) (nlP (af ps i pr pl M)) (tms (af ps i pr pl M)).length (ae (af ps i pr pl M)).length↔eu (aB ps) (nlP ps) (tms ps).length (ae ps).length:=by
 have hM:(tms ps).length≤ix (ae ps) M∧ix (ae ps) M < (ae ps).length:=⟨cp h.c.ok h.hl,eY (bN h.hl)⟩
 exact ⟨fun q=>(h.opn c').ye hM lB (q.map jk (fun u0=>(h.nl c').mp) fun u0=>h.rng c'),fun q=>((h.opn c').yf (Der.hd id) q).map (j7 (h.same c')) (fun u0=>h.nlB c') fun s hs=>⟨Nat.le_of_not_lt fun q=>Nat.not_lt_of_le hs.1 ((h.ltB c').mp q),((h.same c').symm.xt hs.2).1⟩⟩
theorem Sit.tally (h:Sit ps i pl pr M) (c':PrC (af ps i pr pl M)) (T:Tal0 (aB ps) (tms ps).length (ae ps).length C):Tal0 (aB (af ps i pr pl M)) (tms (af ps i pr pl M)).length (ae (af ps i pr pl M)).length fun s w=>C (fT ps (af ps i pr pl M) s) (w.map (fT ps (af ps i pr pl M))):=by
 have hs:=h.same c'
 refine ⟨fun x hx=>funext fun w=>?_,fun s h1 h2 w hw=>?_,fun s h1 q=>(h.nl c').mpr (T.nul _ (hs.xt h1).1 q)⟩
 ·rw [T.tm _ ((h.lt c').mp hx)]
  unfold tm
  by_cases e:w=[x]
  ·rw [if_pos e,e];exact if_pos rfl
  ·rw [if_neg e];exact if_neg fun q=>e ((List.map_inj_right (f:=fT ps (af ps i pr pl M)) fun u0 u0=>hs.xJ).mp q)
 ·obtain ⟨t1,t2⟩:=h.rng c' ⟨h1,h2⟩
  refine (T.eq _ t1 t2 _ (by rw [List.length_map];exact hw)).trans (Eq.trans ?_ (u6 fun u0 u0=>hs.xJ))
  have key:∀ u:Word,u.length≤3→C (ix (ae ps) M) u=sm ((ps.filter (·.1 == M)).map (g9 (ae ps) (tms ps).length)) (fun g=>cs C g.r) u:=fun u hu=>by
   rw [T.eq _ (cp h.c.ok h.hl) (eY (bN h.hl)) u hu]
   unfold nx aB sm
   rw [List.filter_cons_of_neg (by rw [beq_iff_eq];exact jT h.c.ok h.hl),List.filter_map]
   refine congrArg (fun l=>(List.map (fun r:R=>cs C r.r u) (List.map _ l)).sum) (List.filter_congr fun p hp=>?_)
   rw [Bool.eq_iff_iff]
   show ((ix _ p.1 == ix _ M)=true)↔_
   rw [beq_iff_eq,beq_iff_eq]
   exact ⟨nU (cR h.c.ok hp).1 (bN h.hl),fun e=>congrArg _ e⟩
  have hrow:pr.2.map (ix (ae ps))=(pr.2.take pl).map (ix (ae ps))++ix (ae ps) M::(pr.2.drop (pl+1)).map (ix (ae ps)):=(congrArg (List.map (ix (ae ps))) h.row).trans List.map_append
  let z:=g9 (ae ps) (tms ps).length
  let F:R→R:=fun g=>⟨(z pr).l,(pr.2.take pl).map (ix (ae ps))++(g.r++(pr.2.drop (pl+1)).map (ix (ae ps))),0⟩
  have e1:(aB ps).map lr=((⟨(tms ps).length,[stt ps,0],0⟩::(ps.take i).map z)++z pr::(ps.drop (i+1)).map z).map lr:=by
   have:aB ps=⟨(tms ps).length,[stt ps,0],0⟩::(ps.take i++pr::ps.drop (i+1)).map z:=h.list▸rfl
   rw [this,List.map_append];rfl
  have e2:(rs2 ps (af ps i pr pl M)).map lr=((⟨(tms ps).length,[stt ps,0],0⟩::(ps.take i).map z)++(((ps.filter (·.1 == M)).map z).map F++(ps.drop (i+1)).map z)).map lr:=by
   rw [h.xZ c']
   unfold lrA af
   rw [List.map_append,List.map_append,List.map_append,List.map_cons,List.map_append,List.map_map,List.map_map,List.map_map,List.map_map,List.map_map,List.append_assoc,List.cons_append]
   refine congrArg (List.cons _) (congrArg (List.append _) (congrArg (·++_) ?_))
   exact List.map_congr_left fun g u0=>Prod.ext rfl eP
  rw [uT e1]
  refine (t8 (F:=F) key hrow (fun u0=>rfl) (fun u0=>rfl) (by rw [List.length_map];exact hw)).trans (uT e2.symm)
end
end Mine
namespace Mine
open PySem PySem.Calls PyProof.Rows PySem.SeqAt PySem.W
section
variable {ps:PR} {i pl s t:Nat} {pr:Txt × List Txt} {M x:Txt} {o1 o2 o1' o2':List D} {ic ic' d d':D} {f:Nat→Nat} {C:Nat→WF} {w:Word} {r:List Nat} {c:Cx}
theorem PrC.lett (h:PrC ps) {P0:Nat→Word→Prop} (hj:Jn P0 r w) (hr:∀ x∈r,(∃ y∈lefts ps,ix (ae ps) y=x)∨c8 (gOf ps o1 o2 ic) x) (hP:∀ x∈r,∀ w,P0 x w→(∃ y∈lefts ps,ix (ae ps) y=x)∨c8 (gOf ps o1 o2 ic) x→∀ t∈w,c8 (gOf ps o1 o2 ic) t):∀ t∈w,c8 (gOf ps o1 o2 ic) t:=by
 induction hj with
 | nil=>exact (fun u0 h=>aE h)
 | @cons x xs u v h1 _ ih=>
  intro t ht
  rcases List.mem_append.mp ht with ht | ht
  ·exact hP x List.mem_cons_self u h1 (hr x List.mem_cons_self) t ht
  ·exact ih (fun y hy=>hr y (List.mem_cons_of_mem _ hy)) (fun y hy=>hP y (List.mem_cons_of_mem _ hy)) t ht
theorem PrC.step (h:PrC ps) (P0:Nat→Word→Prop) (hP:∀ s w,P0 s w→(∃ y∈lefts ps,ix (ae ps) y=s)∨c8 (gOf ps o1 o2 ic) s→∀ t∈w,c8 (gOf ps o1 o2 ic) t) (q:R) (hq:q∈aB ps) (hj:Jn P0 q.r w) (hs:(∃ y∈lefts ps,ix (ae ps) y=q.l)∨c8 (gOf ps o1 o2 ic) q.l):∀ t∈w,c8 (gOf ps o1 o2 ic) t:=by
 rcases List.mem_cons.mp hq with rfl | hq
 ·rcases hs with ⟨y,hy,e⟩ | ⟨_,q⟩
  ·exact absurd e.symm (jT h.ok hy)
  ·have q:(ae ps).getD (tms ps).length []∈TM:=q
   rw [List.getD_eq_getElem?_getD,lK] at q
   exact absurd rfl (lL _ q).2.1
 ·obtain ⟨p,hp,rfl⟩:=List.mem_map.mp hq
  refine h.lett hj (fun x hx=>?_) fun x u0=>hP x
  obtain ⟨y,hy,rfl⟩:=List.mem_map.mp hx
  have hm:=(cR h.ok hp).2 y hy
  refine (h.cl p hp y hy).imp (fun q=>⟨y,q,rfl⟩) fun q=>⟨eY hm,?_⟩
  show (ae ps).getD _ []∈TM
  rw [lV hm];exact q
theorem PrC.term (h:PrC ps) (hs:s < (tms ps).length) (q:(∃ y∈lefts ps,ix (ae ps) y=s)∨c8 (gOf ps o1 o2 ic) s):∀ t∈[s],c8 (gOf ps o1 o2 ic) t:=fun t ht=>by
 rw [List.mem_singleton.mp ht]
 exact q.resolve_left fun zz0=>by obtain ⟨y,hy,e⟩:=zz0;exact Nat.not_lt_of_le (cp h.ok hy) (e▸hs)
theorem PrC.lgU (h:PrC ps) (q:LgU (aB ps) (tms ps).length s w) (hs:∃ y∈lefts ps,ix (ae ps) y=s):∀ t∈w,c8 (gOf ps o1 o2 ic) t:=
 q (fun s w=>(∃ y∈lefts ps,ix (ae ps) y=s)∨c8 (gOf ps o1 o2 ic) s→∀ t∈w,c8 (gOf ps o1 o2 ic) t) (fun u0=>h.term) (fun q hq u0 hj=>h.step _ (fun u0 u0=>id) q hq hj) (.inl hs)
theorem PrC.lg (h:PrC ps) (q:Lg (aB ps) (tms ps).length s w) (hs:∃ y∈lefts ps,ix (ae ps) y=s):∀ t∈w,c8 (gOf ps o1 o2 ic) t:=
 q.ind (P:=fun s w=>(∃ y∈lefts ps,ix (ae ps) y=s)∨c8 (gOf ps o1 o2 ic) s→∀ t∈w,c8 (gOf ps o1 o2 ic) t) (fun u0 h1 u0=>h.term h1) (fun q hq u0 u0 hj=>h.step _ (fun u0 u0=>id) q hq hj) (.inl hs)
theorem PrC.stt (h:PrC ps):∃ y∈lefts ps,ix (ae ps) y=stt ps:=⟨_,(dF h.ok).1,rfl⟩
noncomputable def W7 (ps:PR):List Word:=[[]]++(TM.map (ix (ae ps))).map (fun x=>[x])++(TM.map (ix (ae ps))).flatMap fun x=>(TM.map (ix (ae ps))).map fun y=>[x,y]
theorem PrC.w7 (h:PrC ps) (hl:w.length≤2) (hw:∀ t∈w,c8 (gOf ps o1 o2 ic) t):w∈W7 ps:=by
 have key:∀ t∈w,t∈TM.map (ix (ae ps)):=fun t ht=>List.mem_map.mpr ⟨_,(hw t ht).2,pk h.ok.nodup (hw t ht).1⟩
 exact wK (P:=fun w=>(∀ t∈w,t∈TM.map (ix (ae ps)))→w∈W7 ps) hl (fun u0=>List.mem_append_left _ (List.mem_append_left _ List.mem_cons_self))
  (fun a key=>List.mem_append_left _ (List.mem_append_right _ (List.mem_map.mpr ⟨a,key a List.mem_cons_self,rfl⟩)))
  (fun a b key=>List.mem_append_right _ (List.mem_flatMap.mpr ⟨a,key a List.mem_cons_self,List.mem_map.mpr ⟨b,key b (List.mem_cons_of_mem _ List.mem_cons_self),rfl⟩⟩)) key
theorem aR.eq {g g':Gr} {al al':AL} {T T':Word→Prop} {f f':Word→Int} (A:aR g al T f) (A':aR g' al' T' f') (hs:dq g'.names g.names) (lt:∀ w,T' w→∀ t∈w,t < g'.names.length) (e:∀ w,T' w↔T (w.map (tr g'.names g.names))) (ef:∀ w,T' w→f' w=f (w.map (tr g'.names g.names))) (u:Txt):aY al' (.str u)=aY al (.str u):=by
 have nm:∀ w,T' w→nmw g (w.map (tr g'.names g.names))=nmw g' w:=fun w hw=>by
  unfold nmw
  rw [List.map_map]
  exact congrArg List.flatten (List.map_congr_left fun t ht=>(hs.xt (lt w hw t ht)).2)
 refine Option.ext fun d=>(A'.at_ u d).trans (Iff.trans ?_ (A.at_ u d).symm)
 refine ⟨fun zz1=>by obtain ⟨w,h1,h2,h3⟩:=zz1;exact ⟨_,(e w).mp h1,(nm w h1).trans h2,h3.trans (congrArg _ (ef w h1))⟩,fun ⟨w,h1,h2,h3⟩=>?_⟩
 have ew:(w.map (tr g.names g'.names)).map (tr g'.names g.names)=w:=by
  rw [List.map_map]
  exact (List.map_congr_left fun x u0=>hs.symm.xy).trans (List.map_id w)
 have h1':=(e (w.map (tr g.names g'.names))).mpr (by rw [ew];exact h1)
 exact ⟨_,h1',(nm _ h1').symm.trans (by rw [ew];exact h2),h3.trans (by rw [ef _ h1',ew])⟩
theorem aR.int {g:Gr} {al:AL} {T:Word→Prop} {f:Word→Int} (A:aR g al T f) {p:Key × D} (hp:p∈al):∃ u n,p.1=.str u∧aY al (.str u)=some (.int n):=by
 have hk:=A.kd p hp
 have hs:=bz.mpr (List.mem_map_of_mem (f:=(·.1)) hp)
 cases e:p.1 with
 | str u=>
  rw [e] at hs
  cases q:aY al (.str u) with
  | none=>have hs:=q▸hs;cases hs
  | some d=>
   obtain ⟨w,_,_,rfl⟩:=(A.at_ u d).mp q
   exact ⟨u,f w,rfl,q⟩
 | int _=>have hk:=e▸hk;cases hk
 | tup _=>have hk:=e▸hk;cases hk
theorem rn {al:AL} {p:Key × D} (nd:(al.map (·.1)).Nodup) (hp:p∈al):aY al p.1=some p.2:=by
 induction al with
 | nil=>cases hp
 | cons a al ih=>
  refine b6▸?_
  rw [List.map_cons,List.nodup_cons] at nd
  rcases List.mem_cons.mp hp with rfl | hp
  ·rw [beq_self_eq_true];rfl
  ·exact (beq_eq_false_iff_ne.mpr fun e:a.1=p.1=>nd.1 (e▸List.mem_map_of_mem hp))▸ih nd.2 hp
theorem jy {g g':Gr} {al al':AL} {T T':Word→Prop} {f f':Word→Int} (A:aR g al T f) (A':aR g' al' T' f') (e:∀ u,aY al' (.str u)=aY al (.str u)):Cmp c .NotEq (dD al) (dD al') false:=by
 have sub:∀ {g g':Gr} {al al':AL} {T T':Word→Prop} {f f':Word→Int},aR g al T f→aR g' al' T' f'→(∀ u,aY al' (.str u)=aY al (.str u))→(al.map (·.1)).length≤(al'.map (·.1)).length:=fun A A' e=>A.nd.length_le_of_subset fun k hk=>by
  obtain ⟨p,hp,rfl⟩:=List.mem_map.mp hk
  obtain ⟨u,n,e1,e2⟩:=A.int hp
  exact e1▸bz.mp (by rw [e,e2];rfl)
 have hl:=Nat.le_antisymm (sub A A' e) (sub A' A fun u=>(e u).symm)
 have key:∀ l:AL,(∀ p∈l,p∈al)→EqK (EqN 4) (al'.map (·.1)) (al'.map (·.2)) (l.map (·.1)) (l.map (·.2)) true:=fun l=>by
  induction l with
  | nil=>exact fun u0=>.nil
  | cons p l ih=>
   intro h
   have hp:=h p List.mem_cons_self
   obtain ⟨u,n,e1,e2⟩:=A.int hp
   have e3:=rn A.nd hp
   rw [e1,e2] at e3
   have e4:=(e u).trans e2
   have hR:EqN 4 p.2 (.int n) (n == n):=Option.some.inj e3▸.int
   rw [beq_self_eq_true] at hR
   cases hd:aD (al'.map (·.1)) p.1 with
   | none=>
    have hd:=e1▸hd
    exact gno (gh.2 hd) e4
   | some i=>
    obtain ⟨d,h1,h2⟩:=gh.1 i hd
    rw [e1,e4] at h2
    have z0:=Option.some.inj h2;try subst z0
    exact .hit hd h1 hR (ih fun q hq=>h q (List.mem_cons_of_mem _ hq))
 have:=Cmp.yy (c:=c) (key al fun u0=>id) (fun k hk=>by
  obtain ⟨p,hp,rfl⟩:=List.mem_map.mp hk;exact A.kd p hp) fun k hk=>by
  obtain ⟨p,hp,rfl⟩:=List.mem_map.mp hk;exact A'.kd p hp
 rw [hl,beq_self_eq_true] at this
 exact this
theorem Sit.words (h:Sit ps i pl pr M) (c':PrC (af ps i pr pl M)) (q:hO (gOf ps o1 o2 ic) (stt ps) d) (q':hO (gOf (af ps i pr pl M) o1' o2' ic') (stt (af ps i pr pl M)) d'):Cmp c .NotEq d d' false:=by
 have hs:=h.same c'
 have ok1:=(fq h.c.ok (of_:=o1) (ow:=o2) (ic:=ic)).1
 have ok2:=(fq c'.ok (of_:=o1') (ow:=o2') (ic:=ic')).1
 have est:fT ps (af ps i pr pl M) (stt (af ps i pr pl M))=stt ps:=(mV (f9 c'.ok)).trans (by rw [h.lef])
 have hst':stt (af ps i pr pl M) < (ae (af ps i pr pl M)).length:=eY (f9 c'.ok)
 cases q with
 | @tally C al ho T A=>
  cases q' with
  | @tally C' al' ho' T' A'=>
   obtain ⟨nl,o,hn,um,hall⟩:=ho'
   have hC:∀ w:Word,w.length≤3→C' (stt (af ps i pr pl M)) w=C (stt ps) (w.map (fT ps (af ps i pr pl M))):=fun w hw=>(T'.toTal0.uniq (h.tally c' T.toTal0) hn um hall ok2.r w.length w rfl hw _ hst').trans (by show C (fT ps _ _) _=_;rw [est])
   refine jy A A' (A.eq A' hs (fun w hw t ht=>(c'.lgU (o1:=o1') (o2:=o2') (ic:=ic') (T'.lg _ w hw.2) c'.stt t ht).1) (fun w=>?_) fun w hw=>congrArg Int.ofNat (hC w hw.1))
   rw [List.length_map]
   exact and_congr_right fun hw=>(hC w hw)▸Iff.rfl
  | ring R' A'=>exact absurd ((h.ring c').mp (R'.ring ok2)) (ho.xX ok1)
 | @ring al R A=>
  cases q' with
  | tally ho' _ _=>exact absurd ((h.ring c').mpr (R.ring ok1)) (ho'.xX ok2)
  | @ring al' R' A'=>
   refine jy A A' (A.eq A' hs (fun w hw t ht=>(c'.lg (o1:=o1') (o2:=o2') (ic:=ic') hw c'.stt t ht).1) (fun w=>⟨fun q=>?_,fun q=>?_⟩) fun u0 u0=>rfl)
   ·have:=(h.opn c').yL (q.map jk (tc':=(tms ps).length) (fun u0=>(h.lt c').mp) fun s hs1 e=>hs1 (hs.xJ (e.trans (h.fix hs (j:=1) (by decide)).symm)))
    rw [est] at this;exact this
   ·rw [← est] at q
    have:=((h.opn c').yN (cp h.c.ok h.hl) q).map (j7 hs) (tc':=(tms (af ps i pr pl M)).length) (fun u0=>(h.ltB c').mpr) fun s hs1 e=>hs1 (hs.symm.xJ (e.trans (hs.symm.xY (md (j:=1) (by decide)) (md (by decide))).symm))
    rw [hs.back,List.map_map] at this
    exact ((List.map_congr_left fun x u0=>hs.back).trans (List.map_id w))▸this
end
end Mine
namespace Mine
open PySem PySem.Calls PyProof.Rows PySem.SeqAt PySem.W
section
variable {c:Cx} {ρ:List Sl} {n k i j m:Nat} {l:Lv} {a b e:Expr} {ps:PR} {pos:Pos} {P:Post} {es:List Stmt} {env:Env} {d:D}
theorem lz {x y:Str} {px py tp p2 q1 q2:Pos} {kk k2:Nat} {f1 f2:Expr} {a1 a2:List Expr} {w1 w2:List Keyword} (hk:env.scope.kind=.function) (h:env.kindOf x=some .cell):swappedStores [.Tuple [.Name x px,.Name y py] kk tp] (.Tuple [.Call f1 a1 w1 q1,.Call f2 a2 w2 q2] k2 p2) env=pure none:=by
 have hb:env.blockKind=.function:=by unfold Env.blockKind;refine Eq.symm hk▸?_;rfl
 have hn:∀ g:Expr→Option Str,g (.Name x px)=none→([Expr.Name x px,.Name y py].filterMap g).length≠2:=fun g e q=>by
  rw [List.filterMap_cons_none e] at q
  exact Nat.not_succ_le_self 1 (Nat.le_trans (Nat.le_of_eq q.symm) (List.length_filterMap_le _ _))
 unfold swappedStores
 refine (if_neg (by rw [hb];exact Bool.false_ne_true)).trans ((if_neg Bool.false_ne_true).trans (if_pos (Bool.or_eq_true_iff.mpr (.inl (bne_iff_ne.mpr (hn _ ?_))))))
 exact if_neg (by rw [h];exact Bool.false_ne_true)
theorem rj {z w:Str} {pz pw pt p2 q1 q2:Pos} {kk k2} {f1 f2:Expr} {a1 a2:List Expr} {w1 w2:List Keyword} (i j:Nat) (hq:c.W.qt=true) (h:E1 c ρ k .im (.Tuple [.Call f1 a1 w1 q1,.Call f2 a2 w2 q2] k2 p2) fun d k'=>∃ u v,d=.tup [u,v]∧TB c ((ρ.set i (.im u)).set j (.im v)) k' es P) (h1:bL c z i=true) (h2:bL c w j=true) (hfr:c.fr=true) (hl:c.names.lookup z=some .cell):TB c ρ k (.Assign [.Tuple [.Name z pz,.Name w pw] kk pt] (.Tuple [.Call f1 a1 w1 q1,.Call f2 a2 w2 q2] k2 p2) pos::es) P:=
 .seq fun ok u0 F s x0=>bg rfl (lz ok.env.kind ((ok.frm hfr).cel z hl)) rfl (noE (h.go ok F s x0) fun v s1 r=>by
  obtain ⟨d,k1,⟨a,b,rfl,q⟩,r,x1,st⟩:=r
  exact (Tg.two hq h1 h2 .im .im).run ok x1 r fun s2 x2 st2=>.here (f:=.next) x2 ((Stp.of_keep st x1.pen).trans st2) q rfl)
theorem RlI.prc (h:RlI m m ps) (h1:1≤m) (h3:m≤3):PrC ps:=by
 refine ⟨⟨fun e=>?_,?_,fun p hp=>List.mem_of_mem_take (h.nt p hp),fun p hp x hx=>((h.row p hp).2 x hx).imp_left List.mem_of_mem_take,fun p hp=>Nat.le_trans (h.row p hp).1 (by decide)⟩,fun p hp x hx=>((h.row p hp).2 x hx).imp_left fun q=>bM.mpr (h.all x q)⟩
 ·have:[83]∈NT.take m:=by
   cases m with
   | zero=>exact absurd h1 (Nat.lt_irrefl 0)
   | succ m=>exact List.mem_cons_self
  have:=h.all _ this
  have this:=e▸this;cases this
 ·have:=h.len;lia
noncomputable def nmL (ps:PR):List Txt:=NT.filter fun x=>(ps.map (·.1)).contains x
theorem iU {x:Txt}:x∈nmL ps↔x∈NT∧x∈lefts ps:=by
 unfold nmL
 rw [List.mem_filter,List.contains_iff_mem,bM]
theorem kS:(nmL ps).Nodup:=List.Pairwise.filter _ (by decide)
theorem tY:(nmL ps).length≤3:=List.length_filter_le ..
theorem pa {n:Nat} {L:List Txt}:EqL (EqN (n+1)) (txs L) (txs L) true:=by
 induction L with
 | nil=>exact .nil
 | cons x L ih=>
  have:EqN (n+1) (.str x) (.str x) (x == x):=.str
  have:=EqL.cons this ih
  rwa [beq_self_eq_true] at this
theorem sb {b1 b2:Bool} {L:List Txt}:EqN 4 (.tup [.bool b1,.bool b2,.lst (txs L)]) (.tup [.bool b1,.bool b2,.lst (txs L)]) true:=by
 have h1:EqN 3 (.bool b1) (.bool b1) (b1 == b1):=.bool
 have h2:EqN 3 (.bool b2) (.bool b2) (b2 == b2):=.bool
 have h3:EqN 3 (.lst (txs L)) (.lst (txs L)) true:=.lst pa
 have:=EqS.tup (R:=EqN 3) (.cons h1 (.cons h2 (.cons h3 .nil)))
 rwa [beq_self_eq_true,beq_self_eq_true] at this
noncomputable def spot (ps:PR) (d:D):Prop:=∃ i pl pr M,d=.tup [.int (i:Nat),.int (pl:Nat)]∧ps[i]? = some pr∧pr.2[pl]? = some M∧M∈nmL ps
structure SpI (ps:PR) (i:Nat) (ys:List D):Prop where
 ok:∀ d∈ys,spot ps d
 len:ys.length≤5 * i
 ex:(∃ p∈ps.take i,∃ x∈p.2,x∈nmL ps)→ys≠[]
structure SpJ (ps:PR) (i:Nat) (pr:Txt × List Txt) (j:Nat) (ys:List D):Prop where
 ok:∀ d∈ys,spot ps d
 len:ys.length≤5 * i+j
 ex:((∃ p∈ps.take i,∃ x∈p.2,x∈nmL ps)∨∃ x∈pr.2.take j,x∈nmL ps)→ys≠[]
theorem SpI.start {ys:List D} {pr:Txt × List Txt} (h:SpI ps i ys):SpJ ps i pr 0 ys:=⟨h.ok,h.len,fun q=>h.ex (q.resolve_right fun zz0=>by obtain ⟨_,h,_⟩:=zz0;exact aE h)⟩
theorem SpJ.yes {ys:List D} {pr:Txt × List Txt} {x:Txt} (h:SpJ ps i pr j ys) (hp:ps[i]? = some pr) (hx:pr.2[j]? = some x) (hm:x∈nmL ps):SpJ ps i pr (j+1) (ys++[.tup [.int (i:Nat),.int (j:Nat)]]):=⟨fun d hd=>(List.mem_append.mp hd).elim (h.ok d) fun hd=>List.mem_singleton.mp hd▸⟨i,j,pr,x,rfl,hp,hx,hm⟩,by rw [List.length_append];exact Nat.succ_le_succ h.len,fun u0=>List.append_ne_nil_of_right_ne_nil _ (fun h=>absurd h (List.cons_ne_nil _ _))⟩
theorem SpJ.no {ys:List D} {pr:Txt × List Txt} {x:Txt} (h:SpJ ps i pr j ys) (hx:pr.2[j]? = some x) (hm:x∉nmL ps):SpJ ps i pr (j+1) ys:=⟨h.ok,Nat.le_succ_of_le h.len,fun q=>h.ex (q.imp_right fun zz1=>by
 obtain ⟨y,hy,q⟩:=zz1
 rw [List.take_add_one,hx] at hy
 exact (List.mem_append.mp hy).elim (fun hy=>⟨y,hy,q⟩) fun hy=>absurd (List.mem_singleton.mp hy▸q) hm)⟩
theorem SpJ.done {ys:List D} {pr:Txt × List Txt} (h:SpJ ps i pr pr.2.length ys) (hp:ps[i]? = some pr) (hl:pr.2.length≤5):SpI ps (i+1) ys:=⟨h.ok,Nat.le_trans h.len (by lia),fun ⟨p,hm,x,hx,q⟩=>h.ex (by
 rw [List.take_add_one,hp] at hm
 refine (List.mem_append.mp hm).imp (fun hm=>⟨p,hm,x,hx,q⟩) fun hm=>?_
 obtain rfl:=List.mem_singleton.mp hm
 exact List.take_length▸⟨x,hx,q⟩)⟩
inductive SpR (ps:PR) (k0:Nat):List D→Nat→List O→Nat→Prop
 | mk {i ys}:SpI ps i ys→SpR ps k0 (fU (ps.map pairD)) i (ys.map .leaf) k0
inductive SpK (ps:PR) (i:Nat) (pr:Txt × List Txt) (k0:Nat):List D→Nat→List O→Nat→Prop
 | mk {j ys}:SpJ ps i pr j ys→SpK ps i pr k0 (fU (txs pr.2)) j (ys.map .leaf) k0
theorem pY {ys:List D} {d:D}:ys.map O.leaf++[.leaf d]=(ys++[d]).map .leaf:=(List.map_append (l₂:=[d])).symm
theorem ls {xs:List D}:(fU xs).length=xs.length:=by rw [fU,List.length_map,List.length_zipIdx]
inductive vm (a:List Sl) (k:Nat):List Sl→Nat→Prop
 | mk (x:Sl):vm a k (a++[x]) k
theorem jX {W:Wd} {Q:D→Nat→Prop} {X:Nat→Prop} {o1 o2:List D} {ic:D} (p:Prg W) (p':Prg W.loud) (hq:W.qt=true) (h:PrC ps) (q:∀ d,hO (gOf ps o1 o2 ic) (stt ps) d→Q d k):a7 W (n+5) .lawWords [.im (gOf ps o1 o2 ic).D] k Q X:=by
 obtain ⟨ok,h4,h5,_⟩:=fq h.ok (of_:=o1) (ow:=o2) (ic:=ic)
 refine nG p p' hq ok h.ok.nodup h4 h5 _ (stt ps) rfl rfl (cp h.ok (dF h.ok).1) rfl (fun C u0 T w u0 hw=>h.lgU (T.lg _ w hw) h.stt) (fun w hw=>⟨hw.len,h.lg hw h.stt⟩) (W7 ps) (Nat.le_of_ble_eq_true rfl) (fun w hw=>h.w7 (o1:=o1) (o2:=o2) (ic:=ic) hw.len (h.lg hw h.stt)) q
end
end Mine
namespace Mine
open PySem PySem.Calls PyProof.Rows PySem.SeqAt PySem.W
section
variable {W:Wd} {n k i j m:Nat} {A:Around} {env:Env} {ps:PR}
theorem qT {a b:Nat} (h:a < b) (hb:b≤2 ^ 24):a < 2 ^ 62:=Nat.lt_of_lt_of_le h (Nat.le_trans hb (by decide))
theorem uY (p:Prg W) (p':Prg W.loud) (hq:W.qt=true) {S0 h0} {is:List Int} (hl:is.length≤2 ^ 24):TB (fnC W (n+5) .law S0 h0 none none A env) ([.vw (.lst (is.map .int))]++List.replicate 11 .undef) k (boT .law) (ot (fun d u0=>d=.bool true) NoX):=by
 refine ⟨vI (f:=.lawPen) 1 12 rfl rfl rfl rfl rfl rfl (fun f ρ k h=>h) (fun ρ k h=>h) ((fJ (i:=0) rfl rfl).go _ (rk (n:=n+4) p hl).go) fun a=>TB.go ?_⟩
 refine bU 2 (aS (f:=.lawRules) (.pen (i:=1) rfl rfl .nil) (nV (n:=n+3) p hq (Nat.zero_le _) fun m ps k1 h1 h3 hR hk1=>?_) rfl rfl rfl rfl) rfl rfl
 have hc:=hR.prc h1 h3
 have hlen:(ps.map pairD).length≤2 ^ 20:=by
  rw [List.length_map];exact Nat.le_trans hc.ok.len (by decide)
 have hnl:=tY (ps:=ps)
 refine rT 3 (EC.eo (iW (l:=.im) (NT.map fun x=>(D.str x,(ps.map (·.1)).contains x)) 1 [("pairs",2),("name",13)] (V.src (cZ (k:=k1)) (.str rfl)) (by decide) rfl (fun F s cl C dd i d f zs hd hf=>?_) ?_ rfl (fun u0=>rfl))) (.inl rfl) rfl rfl rfl
 ·have:∃ x,d=.str x∧f=(D.str x,(ps.map (·.1)).contains x):=by
   rw [List.getElem?_map] at hf
   obtain ⟨x,hx,rfl⟩:=Option.map_eq_some_iff.mp hf
   refine ⟨x,?_,rfl⟩
   have hd:(txs NT)[i]? = some d:=hd
   rw [List.getElem?_map,hx] at hd
   exact (Option.some.inj hd).symm
  obtain ⟨x,rfl,rfl⟩:=this
  refine ⟨_,.one (i:=13) rfl rfl .im,aC (aa (i:=13) rfl rfl) (ll (l:=.im) (txs (ps.map (·.1))) 2 [("left",15),("right",16)] ((aa (i:=2) rfl rfl).src .lst) hlen (by rw [List.length_map,List.length_map,List.length_map]) (fun F s cl C dd i d f zs hd hf=>?_) rfl (fun u0=>rfl)) (Cmp.xq (.inl rfl)).1 rfl,fun u0=>aa (i:=13) rfl rfl⟩
  apply aT hd;intro p hp
  rw [List.getElem?_map,List.getElem?_map,hp] at hf
  cases hf
  exact ⟨_,.two (i:=15) (j:=16) hq rfl rfl rfl rfl .im .im,aa (i:=15) rfl rfl⟩
 have hnm:((NT.map fun x=>(D.str x,(ps.map (·.1)).contains x)).filter (·.2)).map (·.1)=txs (nmL ps):=by
  rw [List.filter_map,List.map_map];rfl
 refine hnm▸?_
 refine cb 3 rfl rfl ?_
 refine gZ 4 ⟨qW (l:=.im) (tt:=true) (tt2:=true) 4 [("names",3),("number",13),("pair",14),("place",15),("part",16)] rfl (fun u0=>rfl) (fun u0 u0=>rfl) (fun u0=>rfl) (fun u0=>rfl) (SpR ps k1) (pE hq rfl rfl ((aa (i:=2) rfl rfl).go _ ⟨.lst,_,rfl,.inl rfl,.mk (ys:=[]) ⟨(fun u0 h=>aE h),Nat.zero_le _,fun zz0=>by obtain ⟨_,h,_⟩:=zz0;exact aE h⟩⟩)) (fun F s cl C dd ds i d zs k' hd hj=>?_) fun ds zs k' hj=>?_⟩ (.inl rfl) rfl rfl rfl rfl (Nat.le_of_ble_eq_true rfl)
 ·induction hj with
  | @mk i ys hj=>
  obtain ⟨x,hx,rfl⟩:=ir hd
  apply aT hx;intro pr hpr
  have hpl:=hc.ok.rl pr (List.mem_of_getElem? hpr)
  have hi60:i < 60:=Nat.lt_of_lt_of_le (List.getElem?_eq_some_iff.mp hpr).1 hc.ok.len
  refine ⟨_,.two (i:=13) (j:=14) hq rfl rfl rfl rfl .im .im,fun u0=>⟨SpK ps i pr k1,pE hq rfl rfl ((ay (aa (i:=14) rfl rfl) ar (.tup (i:=1) (by decide) rfl) rfl).go _ ⟨.tup,_,rfl,.inr rfl,.mk hj.start⟩),fun ds2 j d2 zs2 k2 hd2 hj2=>?_,fun ds2 zs2 k2 hj2=>?_⟩,(fun h=>tf h)⟩
  ·induction hj2 with
   | @mk j ys hj2=>
   obtain ⟨y,hy,rfl⟩:=ir hd2
   apply aT hy;intro z hz
   have hj5:j < 5:=Nat.lt_of_lt_of_le (List.getElem?_eq_some_iff.mp hz).1 hpl
   refine ⟨?_,_,.two (i:=15) (j:=16) hq rfl rfl rfl rfl .im .im,(aC (aa (i:=16) rfl rfl) (aa (i:=3) rfl rfl) (Cmp.xq (.inl rfl)).1 rfl).go _ ⟨fun hb=>⟨fun u0=>bO ((dQ (aa (i:=13) rfl rfl) (aa (i:=15) rfl rfl) rfl).go _ ?_),(fun h=>tf h)⟩,fun hb=>⟨(fun h=>ff h),fun u0=>.mk (hj2.no hz fun q=>?_)⟩⟩⟩
   ·rw [List.length_map]
    exact Nat.lt_of_le_of_lt (Nat.le_trans hj2.len (by lia:_≤400)) (Nat.le_of_ble_eq_true rfl)
   ·rw [pY]
    exact .mk (hj2.yes hpr hz (List.contains_iff_mem.mp hb))
   ·have z:=Eq.trans (Eq.symm (List.contains_iff_mem.mpr q)) hb;injection z
  ·generalize hn:ds2.length=j at hj2
   induction hj2 with
   | @mk j ys hj2=>
   rw [ls,List.length_map] at hn
   subst hn
   exact .mk (hj2.done hpr hpl)
 generalize hn:ds.length=i at hj
 induction hj with
 | @mk i ys hj=>
 rw [ls,List.length_map] at hn
 subst hn
 have hys:ys.length≤2 ^ 20:=Nat.le_trans hj.len (Nat.le_trans (Nat.mul_le_mul_left 5 hc.ok.len) (by decide))
 have h0:0 < ys.length:=by
  refine List.length_pos_iff.mpr (hj.ex ?_)
  obtain ⟨q,hq1,x,hx,hxm⟩:=hR.ins h1
  exact List.take_length▸⟨q,hq1,x,hx,iU.mpr ⟨List.mem_of_mem_take hxm,bM.mpr (hR.all x hxm)⟩⟩
 refine cb 4 rfl rfl ?_
 refine pH 5 6 hq (oy (aa (i:=4) rfl rfl) (eR (i:=1) p rfl rfl (cy (aa (i:=4) rfl rfl) (.xn (Nat.le_trans hys (by decide))) rfl rfl) h0 (Nat.lt_of_le_of_lt hys (by decide)) (Nat.lt_of_le_of_lt hk1 (by decide)) (fun d k2 hd hk2=>?_) (Nat.le_add_left ..) rfl rfl rfl) rfl) rfl rfl (fun u0=>rfl) (fun u0=>rfl)
 obtain ⟨i,pl,pr,M,hdd,hp,hM,hMn⟩:=hj.ok _ (List.getElem_mem hd)
 refine ⟨_,.lst (qT hd (Nat.le_trans hys (by decide))) (List.getElem?_eq_getElem hd),_,_,hdd,?_⟩
 have h:Sit ps i pl pr M:=⟨hc,hp,hM,(iU.mp hMn).2⟩
 have hl12:ps.length≤30:=Nat.le_trans hR.len (by lia)
 have c':=h.yP hl12 fun p hp=>(hR.row p hp).1
 refine lN 7 8 hq (aS (f:=.plainGrammar) (.im (aa (i:=2) rfl rfl) .nil) (eH (n:=n+2) p hq hc.ok fun o1 o2 ic=>aS (f:=.plainGrammar) (.im (jh (f:=.lawOpened) (.im (aa (i:=2) rfl rfl) (.im (aa (i:=5) rfl rfl) (.im (aa (i:=6) rfl rfl) .nil))) (mE (n:=n+4) p hq hp hM (Nat.le_trans hl12 (by decide)) fun p hp=>Nat.le_trans (hR.row p hp).1 (by decide)) rfl rfl rfl rfl) .nil) (eH (n:=n+2) p hq c'.ok fun o1' o2' ic'=>?_) rfl rfl rfl rfl) rfl rfl rfl rfl) rfl rfl (by decide) rfl
 refine .seq (pj (nr rfl (aS (f:=.lawWords) (.im (aa (i:=7) rfl rfl) .nil) (jX (n:=n) p p' hq hc fun d hd1=>(aS (f:=.lawWords) (.im (aa (i:=8) rfl rfl) .nil) (jX (n:=n) p p' hq c' fun d' hd2=>⟨_,h.words c' hd1 hd2,(fun h=>ff h),fun u0=>i8 ?_⟩) rfl rfl rfl rfl).go) rfl rfl rfl rfl).go))
 have hnames:∀ x∈nmL ps,x∈ae ps:=fun x hx=>bN (iU.mp hx).2
 refine rj 9 10 hq (qE (aS (f:=.lawTold) (.im (aa (i:=7) rfl rfl) (.im (aa (i:=3) rfl rfl) .nil)) (lq (n:=n) p hq (fq hc.ok).1 hnames hnl kS fun al hal hkd=>aS (f:=.lawTold) (.im (aa (i:=8) rfl rfl) (.im (aa (i:=3) rfl rfl) .nil)) (lq (n:=n) p hq (fq c'.ok).1 (fun x hx=>((h.same c').mem x).mpr (hnames x hx)) hnl kS fun al' hal' hkd'=>⟨_,_,rfl,?_⟩) rfl rfl rfl rfl) rfl rfl rfl rfl) rfl) rfl rfl rfl rfl
 have hz:∀ ρ,ρ=[.undef,.pen,.im (ba ps),.im (.lst (txs (nmL ps))),.im (.lst ys),.im (.int i),.im (.int pl),.im (gOf ps o1 o2 ic).D,.im (gOf (af ps i pr pl M) o1' o2' ic').D,.im (dD al),.im (dD al')]++[Sl.undef]→vm [.undef,.pen,.im (ba ps),.im (.lst (txs (nmL ps))),.im (.lst ys),.im (.int i),.im (.int pl),.im (gOf ps o1 o2 ic).D,.im (gOf (af ps i pr pl M) o1' o2' ic').D,.im (dD al),.im (dD al')] k2 ρ k2:=fun ρ e=>e▸.mk _
 refine aN (fun u0=>vm [.undef,.pen,.im (ba ps),.im (.lst (txs (nmL ps))),.im (.lst ys),.im (.int i),.im (.int pl),.im (gOf ps o1 o2 ic).D,.im (gOf (af ps i pr pl M) o1' o2' ic').D,.im (dD al),.im (dD al')] k2) (aa (l:=.im) (i:=3) rfl rfl) .lst (hz _ rfl) (fun h=>by cases h) (fun u0=>rfl) (fun j d ρ k' hd hj=>?_) fun ρ k' hj=>?_
 ·apply aT hd;intro x hx
  have hxm:=List.mem_of_getElem? hx
  obtain ⟨d,hg,ht⟩:=hal x hxm
  obtain ⟨d',hg',ht'⟩:=hal' x hxm
  obtain ⟨b1,b2,L1,L2,L3,rfl,rfl,e1,e2,e3⟩:=h.told c' (iU.mp hxm).2 ht ht'
  have kx:KdA al (.str x):=hkd
  have kx':KdA al' (.str x):=hkd'
  have e4:((L3.map fun u=>(D.str u,!L2.contains u)).filter (·.2)).map (·.1)=[]:=by
   rw [List.filter_eq_nil_iff.mpr fun f hf=>?_];rfl
   obtain ⟨u,hu,rfl⟩:=List.mem_map.mp hf
   exact Eq.symm (List.contains_iff_mem.mpr (e2 u hu))▸Bool.false_ne_true
  induction hj with
  | mk x0=>
  refine ⟨_,.one (i:=11) rfl .im,dW (aC (ay (ay (aa (i:=9) rfl rfl) (aa (i:=11) rfl rfl) (.al kx hg) rfl) ar (.tup (i:=0) (by decide) rfl) rfl) (ay (ay (aa (i:=10) rfl rfl) (aa (i:=11) rfl rfl) (.al kx' hg') rfl) ar (.tup (i:=0) (by decide) rfl) rfl) (.ne sb) rfl) (fun q=>ff q) fun u0=>?_⟩
  refine dW (fh (t:=!(x == M)) (t':=false) (aC (aa (i:=11) rfl rfl) (ay (ay (ay (aa (i:=2) rfl rfl) (aa (i:=5) rfl rfl) (.lst (qT (List.getElem?_eq_some_iff.mp hp).1 (Nat.le_trans hl12 (by decide))) (by rw [List.getElem?_map,hp];rfl)) rfl) ar (.tup (i:=1) (by decide) rfl) rfl) (aa (i:=6) rfl rfl) (.tup (qT (List.getElem?_eq_some_iff.mp hM).1 (Nat.le_trans (hc.ok.rl pr h.mem) (by decide))) (by rw [List.getElem?_map,hM];rfl)) rfl) (.ne .str) rfl) fun hb=>?_) (fun q=>(by rw [Bool.and_false] at q;injection q)) fun u0=>?_
  ·have hne:x≠M:=fun e=>by rw [e,beq_self_eq_true] at hb;cases hb
   have hL:EqN 4 (.lst (txs L2)) (.lst (txs L3)) true:=e1 hne▸.lst pa
   exact aC (ay (ay (aa (i:=9) rfl rfl) (aa (i:=11) rfl rfl) (.al kx hg) rfl) ar (.tup (i:=1) (by decide) rfl) rfl) (ay (ay (aa (i:=10) rfl rfl) (aa (i:=11) rfl rfl) (.al kx' hg') rfl) ar (.tup (i:=1) (by decide) rfl) rfl) (.ne hL) rfl
  refine dW (t:=false) (aC (V.as (rQ (l:=.im) (L3.map fun u=>(D.str u,!L2.contains u)) 1 [("due",9),("name",11),("sign",13)] ((ay (ay (aa (i:=10) rfl rfl) (aa (i:=11) rfl rfl) (.al kx' hg') rfl) ar (.tup (i:=1) (by decide) rfl) rfl).src .lst) (by rw [List.length_map];exact Nat.le_trans e3 (by decide)) (by rw [List.length_map,List.length_map]) (fun F s cl C dd i d f zs hd hf=>?_) rfl (fun u0=>rfl)) (congrArg D.lst e4)) ox (.ne (.lst .nil)) rfl) (fun q=>ff q) fun u0=>aj (.mk _)
  apply iY hd hf;intro u hu
  exact ⟨_,.one (i:=13) rfl rfl .im,aC (aa (i:=13) rfl rfl) (ay (ay (aa (i:=9) rfl rfl) (aa (i:=11) rfl rfl) (.al kx hg) rfl) ar (.tup (i:=1) (by decide) rfl) rfl) (Cmp.xq (.inl rfl)).2 rfl,fun u0=>aa (i:=13) rfl rfl⟩
 ·induction hj with
  | mk x=>exact a9 bl rfl
end
end Mine
namespace Mine
open PySem PySem.Calls PyProof.Rows PySem.SeqAt PySem.W
theorem mU {h:Heap} {l:List Addr} {a:Addr} {o:Obj} (e:(l.filterMap fun a=>(h.get? a).map fun o=>(a,o)).lookup a=some o):h.get? a=some o:=by
 obtain ⟨b,_,e⟩:=List.mem_filterMap.mp (PySem.W.mem_of_lookupK e)
 obtain ⟨o',h1,h2⟩:=Option.map_eq_some_iff.mp e
 obtain rfl:=congrArg Prod.fst h2
 obtain rfl:o'=o:=congrArg Prod.snd h2
 exact h1
theorem qa {h:Heap}:(q9 h).In h:=fun u0 u0=>mU
noncomputable abbrev aL (K:Frag):Prop:=uE K=uI
noncomputable def YP (_:World) (h:Heap):Prop:=∃ K:Frag,K.In h∧aL K
theorem wQ (w:World) (s:Shared) (e:Yf s=Ya w):YP w s.heap:=⟨_,qa,e⟩
theorem qF (w:World) (h h':Heap) (y:YP w h) (k:∀ b o,h.get? b=some o→h'.get? b=some o):YP w h':=by
 obtain ⟨K,x,F⟩:=y
 exact ⟨K,x.keeps k,F⟩
theorem iL {K:Frag} {h:Heap} {a:Addr} {m:Str→Option Value} {x:Str} {r:Option Value} (X:K.In h) (G:h.Ns a m) (e:nsIn K a x=some r):m x=r:=by
 obtain ⟨o,es,ep,ho,hd,hk,hf⟩:=G
 unfold nsIn at e
 cases q:K.lookup a with
 | none=>rw [q] at e;exact no1 e
 | some o'=>
  obtain rfl:=geq ho (X _ _ q)
  obtain ⟨c,d,dt,sl⟩:=o
  have hd:dt=.dict es ep:=hd
  subst hd
  rw [q] at e
  dsimp only at e
  refine (hf ..)▸?_
  unfold nsFind findBy
  refine Array.find?_toList▸?_
  cases he:es.toList.find? (·.key.isStr x) with
  | some en=>rw [he] at e;exact Option.some.inj e
  | none=>
   rw [he] at e
   dsimp only at e
   by_cases z:es.toList.any (·.refKey)=true
   ·rw [if_pos z] at e;exact no1 e
   ·rw [if_neg z] at e;exact Option.some.inj e
theorem oB {d:Data} {fd:FuncData} (e:qV d=some fd):d=.func fd:=by
 cases d with
 | func=>exact congrArg Data.func (Option.some.inj e)
 | _=>exact no1 e
theorem lT {K:Frag} {a:Addr} {fd:FuncData} (e:fdK K a=some fd):∃ o,K.lookup a=some o∧o.data=.func fd:=by
 obtain ⟨o,h,e⟩:=Option.bind_eq_some_iff.mp e
 exact ⟨o,h,oB e⟩
noncomputable def obsA (f:Fn):Bool:=(psT f).zipIdx.all fun y=>(slT f).lookup y.1 == some y.2 && ((nmT f).lookup y.1 == some .local || (nmT f).lookup y.1 == some .cell)
noncomputable def obsB (f:Fn):Bool:=(slT f).all fun a=>(slT f).all fun b=>a.2 != b.2 || a.1 == b.1
theorem wy (f:Fn):obsA f=true:=cI (by decide +kernel) f
theorem xk (f:Fn):obsB f=true:=cI (by decide +kernel) f
theorem wM (f:Fn):(dfT f).2.2.kind=.function:=of_decide_eq_true (cI (p:=fun f=>decide ((dfT f).2.2.kind=.function)) (by decide +kernel) f)
theorem coT (f:Fn):(dfT f).2.2.isCoroutine=false:=of_decide_eq_true (cI (p:=fun f=>decide ((dfT f).2.2.isCoroutine=false)) (by decide +kernel) f)
theorem genT (f:Fn):(dfT f).2.2.isGenerator=false:=of_decide_eq_true (cI (p:=fun f=>decide ((dfT f).2.2.isGenerator=false)) (by decide +kernel) f)
theorem xc (f:Fn):(nmT f).all (fun y=>y.2 != .free)=true:=cI (p:=fun f=>(nmT f).all fun y=>y.2 != .free) (by decide +kernel) f
structure FdOf (K:Frag) (f:Fn) (fd:FuncData):Prop where
 get:fdK K (faT f)=some fd
 code:codeIn K fd.code fd.qualname=true
 ob:mZ fd=qZ (dfT f) (dvT f)
section
variable {K:Frag} {f:Fn} {c:Cls}
theorem sp {a:Addr} {o:Obs} (h:fdS K a=some (o,true)):∃ fd,fdK K a=some fd∧codeIn K fd.code fd.qualname=true∧mZ fd=o:=by
 obtain ⟨fd,e,h⟩:=Option.map_eq_some_iff.mp h
 exact ⟨fd,e,congrArg (·.2) h,congrArg (·.1) h⟩
theorem aL.def_ (F:aL K) (f:Fn):dfS K f=dfW f:=List.map_inj_left.mp (congrArg (fun x:Seen=>x.2.2.2.2) F) f (mH f)
theorem aL.fd (F:aL K) (f:Fn):∃ fd,FdOf K f fd:=by
 obtain ⟨fd,h1,h2,h3⟩:=sp (congrArg (fun x:DfS=>x.1) (aL.def_ F f))
 exact ⟨fd,h1,h2,h3⟩
theorem aL.ty (F:aL K) (f:Fn):typeIn K (.ref (faT f))=some (.type "function"):=congrArg (fun x:DfS=>x.2.1) (aL.def_ F f)
theorem aL.nm (F:aL K) (f:Fn):(if bF f then findIn K (.ref (caT .gram)) (strV (aX f)) else nsIn K mainGlobals (strV (aX f)))=some (some (if bF f then .ref (faT f) else fvT f)):=congrArg (fun x:DfS=>x.2.2.2) (aL.def_ F f)
theorem aL.glob (F:aL K) (hf:bF f=false):nsIn K mainGlobals (strV (aX f))=some (some (fvT f)):=by
 have d:=aL.nm F f
 rw [hf] at d
 exact d
theorem aL.meth (F:aL K) (hf:bF f=true):findIn K (.ref (caT .gram)) (strV (aX f))=some (some (.ref (faT f))):=by
 have d:=aL.nm F f
 rw [hf] at d
 exact d
theorem aL.cl (F:aL K) (c:Cls):clS K c=clW c:=by
 cases c with
 | rule=>exact congrArg (fun x:Seen=>x.2.1) F
 | gram=>exact congrArg (fun x:Seen=>x.2.2.1) F
theorem aL.cls (F:aL K) (c:Cls):uw K (caT c) (aI c):=
 have h:=aL.cl F c
 ⟨congrArg (fun x:ClS=>x.1) h,congrArg (fun x:ClS=>x.2.1) h,congrArg (fun x:ClS=>x.2.2.1) h,List.map_inj_left.mp (congrArg (fun x:ClS=>x.2.2.2.1) h),congrArg (fun x:ClS=>x.2.2.2.2.1) h,congrArg (fun x:ClS=>x.2.2.2.2.2.1) h,List.map_inj_left.mp (congrArg (fun x:ClS=>x.2.2.2.2.2.2.1) h)⟩
end
noncomputable def mkW (w:World) (h:Heap) (os:OsState) (K:Frag) (mg mb:Str→Option Value) (sm:∃ a o,sysModules < a∧h.get? a=some o) (qt:Bool):Wd:=
 { prog:=pw,w,base:=h,os,ca:=caT,fa:=faT,excA:=59,exN:=fun k=>by cases k <;> decide,sm,qt,mg,mb,K }
section
variable {w:World} {h:Heap} {os:OsState} {K:Frag} {mg mb:Str→Option Value} {sm:∃ a o,sysModules < a∧h.get? a=some o} {qt:Bool}
theorem r6 (f:Fn):fv (mkW w h os K mg mb sm qt) f=fvT f:=rfl
theorem wok (F:aL K) (X:K.In h) (g:h.Ns mainGlobals mg) (b:h.Ns builtinsNs mb) (bb:∀ x:Str,x≠"__name__"→mb x=bootBuiltins x):WOK (mkW w h os K mg mb sm qt):=⟨g,b,bb,fun y hy=>iL X g (List.map_inj_left.mp (show dP.map (fun y=>nsIn K mainGlobals y.1)=dP.map fun u0=>some none from congrArg (fun x:Seen=>x.1.1) F) y hy),X,aL.cls F,fun f hf=>(iL X g (aL.glob F hf)).trans (by rw [r6]),fun f=>by rw [r6];exact congrArg (fun x:DfS=>x.2.2.1) (aL.def_ F f),fun f hf=>⟨aL.meth F hf,aL.ty F f⟩⟩
end
end Mine
namespace Mine
open PySem PySem.Calls PyProof.Rows PySem.SeqAt PySem.W
section
variable {w:World} {h:Heap} {os:OsState} {K:Frag} {mg mb:Str→Option Value} {sm:∃ a o,sysModules < a∧h.get? a=some o} {qt:Bool}
theorem excK (F:aL K):lW K 59 46 36:=
 have h:exS K=exW:=congrArg (fun x:Seen=>x.2.2.2.1) F
 ⟨⟨_,_,_,_,_,_,_,_,_,_,_,_,_,_,congrArg (fun x:ExS=>x.1) h⟩,congrArg (fun x:ExS=>x.2.1) h,congrArg (fun x:ExS=>x.2.2.1) h,congrArg (fun x:ExS=>x.2.2.2.1) h,congrArg (fun x:ExS=>x.2.2.2.2.1) h,congrArg (fun x:ExS=>x.2.2.2.2.2.1) h,congrArg (fun x:ExS=>x.2.2.2.2.2.2.1) h,congrArg (fun x:ExS=>x.2.2.2.2.2.2.2.1) h,congrArg (fun x:ExS=>x.2.2.2.2.2.2.2.2.1) h⟩
theorem exBn:(∀ x∈exB.2.2.names,x.2≠.cell)∧exB.2.2.names.lookup ("self" : Str)=some .local∧exB.2.2.names.lookup ("what" : Str)=some .local∧exB.2.2.names.lookup ("at" : Str)=some .local∧exB.2.2.names.lookup ("Exception" : Str)=some .globalImplicit:=by decide +kernel
theorem sk {fd:FuncData} (hp:fd.params=exB.1) (h1:fd.defaults=.ref 29) (h2:fd.kwdefaults=.none) {s:Shared} {n:Nat} (ho:s.heap.get? 29=some (dN [.none] n)) {e v:Value}:BindsTo s fd ⟨[e,v],[]⟩ [("self",e),("what",v),("at",.none)]:=by
 obtain ⟨_,_,pm,bo,sc,gl,cl,df,kd,_,_,_,_,_,bu⟩:=fd
 subst hp h1 h2
 exact BindsTo.of_defaults rfl ho rfl rfl rfl
theorem excC (F:aL K) (X:K.In h) (g:h.Ns mainGlobals mg) (bb:∀ x:Str,x≠"__name__"→mb x=bootBuiltins x) (lim:h.NoLimit):tC (mkW w h os K mg mb sm qt) 46 36:=by
 have h':exS K=exW:=congrArg (fun x:Seen=>x.2.2.2.1) F
 obtain ⟨fd,h4,h5,h6⟩:=sp (congrArg (fun x:ExS=>x.2.2.2.2.2.2.2.2.2.2.2.2) h')
 obtain ⟨o,ho,hd⟩:=lT h4
 have hs:fd.scope=exB.2.2:=congrArg (·.2.2.1) h6
 obtain ⟨n1,n2,n3,n4,n5⟩:=exBn
 refine ⟨excK F,iL X g (congrArg (fun x:ExS=>x.2.2.2.2.2.2.2.2.2.1) h'),iL X g (congrArg (fun x:ExS=>x.2.2.2.2.2.2.2.2.2.2.1) h'),(bb _ (by decide +kernel)).trans rfl,congrArg (fun x:ExS=>x.2.2.2.2.2.2.2.2.2.2.2.1) h',lim,o,fd,exB.2.1,X _ _ ho,hd,codeRec_of X h5,congrArg (·.1) h6,.mk rfl,hs▸n1,hs▸n2,hs▸n3,hs▸n4,hs▸n5,congrArg (·.2.2.2.1) h6,congrArg (·.2.2.2.2.2.1) h6,congrArg (·.isCoroutine) hs,congrArg (·.isGenerator) hs,congrArg (·.kind) hs,fun s e v st=>sk (congrArg (·.2.1) h6) (congrArg (·.2.2.2.2.2.2.1) h6) (congrArg (·.2.2.2.2.2.2.2) h6) (st _ _ (X _ _ (congrArg (fun x:Seen=>x.1.2.2.2.2.2.2.2) F)))⟩
theorem tl {vs:List Value} {n:Nat} (h:vs.length=n):vs=(List.range n).map fun i=>vs.getD i .none:=by
 subst h
 refine List.ext_getElem (by rw [List.length_map,List.length_range]) fun i h1 h2=>?_
 rw [List.getElem_map,List.getElem_range,List.getD_eq_getElem?_getD,List.getElem?_eq_getElem h1];rfl
noncomputable def dvL (f:Fn):List Value:=bif f.ctorIdx == 1 then [.none,.int 0 284,.int 0 285] else bif f.ctorIdx == 8 then [.none] else []
theorem vu (W:Wd) (f:Fn):VRs W W.base (fun u0=>False) (ddT f) (dvL f):=by
 unfold ddT dvL
 cases f.ctorIdx == 1 with
 | true=>exact ⟨_,_,rfl,rfl,_,_,rfl,⟨_,rfl⟩,_,_,rfl,⟨_,rfl⟩,rfl⟩
 | false=>
  cases f.ctorIdx == 8 with
  | true=>exact ⟨_,_,rfl,rfl,rfl⟩
  | false=>rfl
noncomputable def argT (f:Fn) (vs:Nat→Value):Args:=⟨(List.range (paT f - (ddT f).length)).map vs,[]⟩
noncomputable def resT (f:Fn) (vs:Nat→Value):List (Str × Value):=(psT f).zip ((List.range (paT f - (ddT f).length)).map vs++dvL f)
noncomputable def wc (fd:FuncData) (f:Fn):FuncData:={ fd with params:=(dfT f).1,defaults:=dvT f,kwdefaults:=.none }
set_option maxHeartbeats 4000000 in
theorem wV {fd:FuncData} {s:Shared} {vs:Nat→Value} (h77:s.heap.get? 77=some (dN [.int (-1) 283,.none,.int 0 284,.int 0 285] 0)) (h181:s.heap.get? 181=some (dN [.none] 0)) (f:Fn):BindsTo s (wc fd f) (argT f vs) (resT f vs):=by
 cases f with
 | ruleInit=>exact BindsTo.of_defaults rfl h77 rfl rfl rfl
 | plainGrammar=>exact BindsTo.of_defaults rfl h181 rfl rfl rfl
 | _=>exact BindsTo.of_eq rfl
theorem xh {f:Fn} {fd:FuncData} {s:Shared} (h77:s.heap.get? 77=some (dN [.int (-1) 283,.none,.int 0 284,.int 0 285] 0)) (h181:s.heap.get? 181=some (dN [.none] 0)) (hp:fd.params=(dfT f).1) (h1:fd.defaults=dvT f) (h2:fd.kwdefaults=.none) {vs:List Value} (hl:vs.length=paT f - (ddT f).length):BindsTo s fd ⟨vs,[]⟩ ((psT f).zip (vs++dvL f)):=by
 have e:fd=wc fd f:=by
  unfold wc
  rw [← hp,← h1,← h2]
 rw [tl hl,e]
 exact wV h77 h181 f
theorem lenT (f:Fn):paT f - (ddT f).length+(ddT f).length=(psT f).length:=of_decide_eq_true (cI (p:=fun f=>decide (paT f - (ddT f).length+(ddT f).length=(psT f).length)) (by decide +kernel) f)
theorem v5 {f:Fn} {j:Nat} {x:Str} (hx:(psT f)[j]? = some x):(slT f).lookup x=some j∧((nmT f).lookup x=some .local∨(nmT f).lookup x=some .cell):=
 have h:=Bool.and_eq_true_iff.mp (List.all_eq_true.mp (wy f) (x,j) (List.mk_mem_zipIdx_iff_getElem?.mpr hx))
 ⟨eq_of_beq h.1,(Bool.or_eq_true_iff.mp h.2).imp eq_of_beq eq_of_beq⟩
theorem injT {f:Fn} {i:Nat} {x y:Str} (hx:(slT f).lookup x=some i) (hy:(slT f).lookup y=some i):x=y:=(Bool.or_eq_true_iff.mp (List.all_eq_true.mp (List.all_eq_true.mp (xk f) _ (PySem.mem_of_lookup hx)) _ (PySem.mem_of_lookup hy))).elim (fun q=>absurd rfl (bne_iff_ne.mp q)) eq_of_beq
theorem t6 {f:Fn} {x:Str} (hx:(nmT f).lookup x=some .free):False:=bne_iff_ne.mp (List.all_eq_true.mp (xc f) _ (PySem.mem_of_lookup hx)) rfl
theorem fdOK {f:Fn} {fd:FuncData} (h:mZ fd=qZ (dfT f) (dvT f)):rL fd (boT f):=
 have hs:fd.scope=(dfT f).2.2:=congrArg (·.2.2.1) h
 ⟨hs▸wM f,hs▸coT f,hs▸genT f,congrArg (·.1) h,congrArg (·.2.2.2.1) h,congrArg (·.2.2.2.2.2.1) h,congrArg (·.2.2.2.2.1) h,fun u0 hx=>t6 (hs▸hx)⟩
theorem vd {W:Wd} {f:Fn} {fd:FuncData} (h77:W.base.get? 77=some (dN [.int (-1) 283,.none,.int 0 284,.int 0 285] 0)) (h181:W.base.get? 181=some (dN [.none] 0)) (h:mZ fd=qZ (dfT f) (dvT f)):ie W fd (psT f) (slT f) (paT f - (ddT f).length) (ddT f):=
 have hs:fd.scope=(dfT f).2.2:=congrArg (·.2.2.1) h
 ⟨lenT f,fun u0 u0 hx=>hs▸v5 hx,fun u0 u0 u0=>injT,fun u0 u0 st hl=>⟨_,vu W f,xh (st _ _ h77) (st _ _ h181) (congrArg (·.2.1) h) (congrArg (·.2.2.2.2.2.2.1) h) (congrArg (·.2.2.2.2.2.2.2) h) hl⟩⟩
theorem fnOK (F:aL K) {W:Wd} (X:K.In W.base) (lim:W.base.NoLimit) (f:Fn):∃ fd,FnC W (faT f) fd (boT f)∧fd.scope.names=nmT f∧ie W fd (psT f) (slT f) (paT f - (ddT f).length) (ddT f):=by
 have gl:glS K=glW:=congrArg (fun x:Seen=>x.1) F
 obtain ⟨fd,h1,h2,h3⟩:=aL.fd F f
 obtain ⟨o,ho,hd⟩:=lT h1
 exact ⟨fd,⟨⟨o,X _ _ ho,hd⟩,codeRec_of X h2,lim,fdOK h3⟩,congrArg (·.2.2.1.names) h3,vd (X _ _ (congrArg (fun x:GlS=>x.2.2.2.2.2.1) gl)) (X _ _ (congrArg (fun x:GlS=>x.2.2.2.2.2.2.1) gl)) h3⟩
theorem wd (F:aL K) {W:Wd} (hK:W.K=K) (hca:W.ca=caT) {c:Cls}:vh W c (faT (jV c)):=by
 subst hK
 exact ⟨hca▸congrArg (fun x:ClS=>x.2.2.2.2.2.2.2.1) (aL.cl F c),hca▸congrArg (fun x:ClS=>x.2.2.2.2.2.2.2.2) (aL.cl F c),aL.ty F _⟩
theorem prg (F:aL K) (X:K.In h) (g:h.Ns mainGlobals mg) (b:h.Ns builtinsNs mb) (bb:∀ x:Str,x≠"__name__"→mb x=bootBuiltins x) (lim:h.NoLimit):Prg (mkW w h os K mg mb sm qt):=
 have gl:glS K=glW:=congrArg (fun x:Seen=>x.1) F
 ⟨wok F X g b bb,fnOK F X lim,fun u0=>wd F rfl rfl,⟨46,36,excC F X g bb lim⟩,⟨_,iL X g (congrArg (fun x:GlS=>x.2.1) gl),_,rfl⟩,⟨_,iL X g (congrArg (fun x:GlS=>x.2.2.1) gl),_,rfl⟩,⟨_,iL X g (congrArg (fun x:GlS=>x.2.2.2.1) gl),69,_,[],rfl,⟨rfl,0,X _ _ (congrArg (fun x:GlS=>x.2.2.2.2.1) gl)⟩,(fun u0 h=>aE h),_,_,rfl,⟨_,rfl⟩,_,_,rfl,⟨_,rfl⟩,_,_,rfl,⟨_,rfl⟩,rfl⟩⟩
end
end Mine
namespace Mine
open PySem PySem.Calls PyProof.Rows PySem.SeqAt PySem.W
theorem jg {R:WRecords}:∀ {xs:List WData},WShape.hasItems R xs .int=true→∃ is:List Int,xs=is.map .int
 | [],_=>⟨[],rfl⟩
 | x::xs,h=>by
  rw [WShape.hasItems,Bool.and_eq_true] at h
  obtain ⟨i,rfl⟩:=hasW_int h.1
  obtain ⟨is,rfl⟩:=jg h.2
  exact ⟨i::is,rfl⟩
theorem qc {W:Wd} {P:Params} {h:Heap} {Pv:Addr→Prop} {is:List Int} {vs:List Value} (r:WellAll P h vs (is.map .int)):VRs W h Pv (is.map .int) vs:=by
 induction is generalizing vs with
 | nil=>cases r;rfl
 | cons i is ih=>
  cases r with
  | cons h1 h2=>cases h1;exact ⟨_,_,rfl,⟨_,rfl⟩,ih h2⟩
inductive ph (P:Params) (h:Heap):List WData→List Value→Prop
 | mk (is:List Int) (la:Addr) (vs:List Value) (hl:is.length≤63) (hg:h.get? la=some (fP vs 0)) (hw:WellAll P h vs (is.map .int)):ph P h [.list (is.map .int)] [.ref la]
theorem sA {P:Params} {h:Heap} {args:List WData} {vals:List Value} (hpre:PySem.Challenge.rw_pq0555_01.row.toRowW.claim.pre args=true) (hwl:WellAll P h vals args):ph P h args vals:=by
 have hsh:=pre_splitW hpre
 obtain ⟨d,r,rfl,h1,h2⟩:=hasAllW_cons hsh.1
 obtain rfl:=hasAllW_nil h2
 obtain ⟨xs,rfl,h3⟩:=hasW_list h1
 obtain ⟨is,rfl⟩:=jg h3
 have hc:=condW_of (X:=!decide ((63:Int) < (is.map WData.int).length)) (holds_andW hsh.2).1 (by wtm_val)
 rw [Bool.not_eq_true',decide_eq_false_iff_not,List.length_map] at hc
 cases hwl with
 | cons hv hvs=>
 cases hvs
 cases hv with
 | list hl hw=>exact .mk is _ _ (by omega) hl hw
theorem rJ {w:World} {h:Heap} {s:Shared} {K:Frag} {mg mb:Str→Option Value} (hh:s.heap=h) (F:aL K) (X:K.In h) (g:h.Ns mainGlobals mg) (b:h.Ns builtinsNs mb) (bb:∀ x:Str,x≠"__name__"→mb x=bootBuiltins x) (lim:h.NoLimit) (hg:s.gens = #[]) {is:List Int} {la:Addr} {vs:List Value} {P:Params} (hl:is.length≤63) (hv:h.get? la=some (fP vs 0)) (hw:WellAll P h vs (is.map .int)) {Q:Value→Shared→Prop} {E:Value→Shared→Prop} (hQ:∀ s',(∀ b o,h.get? b=some o→s'.heap.get? b=some o)→s'.os=s.os→s'.gens = #[]→Q (.bool true) s'):wpAny (model pw w) callerA (PySem.call (.ref (faT .law)) [.ref la]) Q E s:=by
 subst hh
 obtain ⟨fd,hfd⟩:=aL.fd F .law
 obtain ⟨of,hof,_⟩:=lT hfd.get
 have p:=fun qt=>prg (w:=w) (os:=s.os) (sm:=⟨_,_,by decide +kernel,X _ _ hof⟩) (qt:=qt) F X g b bb lim
 refine wpAny_mono ((p true).defP .law (n:=5) (k:=0) (pen:=none) (as:=[.vw (.lst (is.map .int))]) (Q:=fun d u0=>d=.bool true) (X:=NoX) rfl rfl 11 (fun S0 h0 A env=>(uY (n:=0) (p true) (p false) rfl (Nat.le_trans hl (by decide))).go) callerA (fun u0=>False) (fun b=>b=la) s [.ref la] ⟨by decide +kernel,by decide +kernel⟩ ⟨fun u0 u0 e=>e,hg,rfl,⟨[],rfl,trivial⟩,fun u0=>rfl,.inl rfl⟩ (fun u0 h=>nomatch h) (fun u0 h=>nomatch h) (fun u0 u0 h=>nomatch h) ⟨_,_,rfl,⟨la,vs,[la],rfl,⟨rfl,0,hv⟩,(fun b hb=>List.mem_singleton.mp hb),qc hw⟩,rfl⟩) (fun v s' r=>?_) fun e s' r=>?_
 ·induction r with
  | mk d k hd hr w0=>
  subst hd
  exact hr▸hQ s' w0.base w0.os w0.gens
 ·induction r with
  | mk _ _ _ q=>exact q.elim
theorem law_holds:PySem.Challenge.rw_pq0555_01.Holds:=holds_law said fun k=>by
 refine holds_open (q:=mD) (loose:=lo) (Xt:=fun s=>xlAt mD [] s && recOk [] s) (XP:=XL mD []) (Yf:=Yf) (Ya:=Ya) (YP:=YP) (N:=4200) left wQ qF (fun s e=>xl_of s (Bool.and_eq_true_iff.mp e).1) XL.keeps (by rfl) (by rfl) (by rfl) (fun s e=>recFacts_of (Bool.and_eq_true_iff.mp e).2) rfl k (by decide +kernel) ⟨rfl,rfl,rfl,rfl,rfl,by decide +kernel⟩ ⟨[.list []],by decide +kernel,by decide +kernel⟩ ?_
 intro w s₀ s₁ mg mb G Y a o pm cd doc dV kV ho hd hcd hD hg hgens args vals as hpre hlay hrd hwl hlo
 have q:=sA hpre hwl
 have T:=G.T
 clear hpre hlay hrd hwl hlo hD hcd hd ho G
 induction q with
 | mk is la vs hl hv hw=>
 obtain ⟨K,X,F⟩:=Y
 have ea:Value.ref a=.ref (faT .law):=Option.some.inj (hg.symm.trans (iL X T.g (aL.glob F (f:=.law) rfl)))
 show wpAny _ _ (PySem.call (.ref a) _) _ _ _
 rw [ea]
 exact rJ rfl F X T.g T.b T.builtins T.nolimit hgens hl hv hw fun s' h1 h2 h3=>GoodW.toG ⟨.inl ⟨.bool true,.bool true,[],rfl,fun u0=>rfl,.bool true,by wrow_post,fun u0=>⟨.nil,nofun⟩⟩,h1,h2,h3⟩
end Mine
theorem PySem.Challenge.cw_pq0555_01_holds : PySem.Challenge.rw_pq0555_01.Holds :=
  Mine.law_holds
