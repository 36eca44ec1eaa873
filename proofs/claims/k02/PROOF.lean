import PyProof.Rows.All
import Wide.All
import OpenK.AllK
import Wide.FinOn
import HandS.ForMost
import HandS.ForExc
import HandS.CallSlots
import HandS.IsInst
import HandS.ExcIs
import HandS.StrMore
import HandS.Flow
import HandS.TupAny
import KE.KDictKeyed
import HandS.TupMul
import HandS.Head0
import HandS.Head1
import HandS.Head2
import HandS.HeadEnd
import HandS.HeadHook1
import HandS.HeadHook2
import HandS.Rev
import HandS.Zip
import HandS.Deep
import HandS.Conv
import HandS.SortInts
import HandS.More
import KE.LtData
import KE.GoesZip
import KE.GoesMore
import HandS.ClsMeth
import HandS.Style
import HandS.IterVal
import PyProof.CollectWalk
import PyProof.ListNew
import PyProof.WalksMore
import KE.KOwnIter
import OpenK.KMeth
import HandS.FStr
import HandS.Text
import HandS.SetFor
import HandS.Strs
import PyProof.TupleOfSeq
import HandS.ExcInit
import HandS.ExcField
import HandS.Nested
import KE.KExcSuper
import KE.KExcIs
import HandS.TryMany
import HandS.Defaults
import KE.IntTextLaws
import KE.KDictZip
import KE.SortData
import HandS.Star
import HandS.RevRange
import PySem.Challenge.RW_formroads_k02_led_and_below
set_option Elab.async false
set_option linter.all false
set_option maxRecDepth 100000
set_option maxHeartbeats 4000000
namespace Fr
open PySem PySem.Spec PyProof.Rows L2
inductive W where
 |non|bl (b:Bool)|int (i:Int)|str (x:Str)|tup (xs:List W)|fl (xs:List W)|ref (n:Nat)|gl (x:Str)|ty (n:String)
 deriving Inhabited
inductive Ob where
 |lst (xs:List W)|dK (kvs:List (Key×W))|dT (kvs:List (List Key×W))|dN (kvs:List (NestedKey×W))|ins (c:Str) (fs:List (Str×W))
 deriving Inhabited
abbrev Å:=List Ob
inductive Rs (α:Type) where
 |ok (a:α) (S:Å)|ex (c:Str) (d:Option (List (Str×W))) (S:Å)|bad
abbrev M (α:Type):=Å→Rs α
abbrev Sl:=List (Option W)
abbrev Exp:=Sl→M W
abbrev ï:=Sl→M Bool
abbrev Arg:=Sl→M (List W)
inductive RS where
 |nx (s:Sl) (S:Å)|rt (w:W) (S:Å)|bk (s:Sl) (S:Å)|ct (s:Sl) (S:Å)|ex (c:Str) (d:Option (List (Str×W))) (s:Sl) (S:Å)|bad
abbrev Ì:=Sl→Å→RS
abbrev Fn:=List W→M W
def bd {α β:Type} (f:M α) (k:α→M β):M β:=λ S=>match f S with
 | .ok a S'=>k a S'
 | .ex c d S'=>.ex c d S'
 | .bad=>.bad
def rt {α:Type} (a:α):M α:=λ S=>.ok a S
def bad {α:Type}:M α:=λ _=>.bad
section
variable(Wd:World)(K:PySem.W.Frag)(mg:Str→Option Value)
def FzL (H:Hp) (a:Addr) (xs:List V):Prop:=(∃o,H a=some (.frz o (.lst xs)))∨
  ∃(o:Obj) (its:Array Value) (n:Nat),K.lookup a=some o∧o.cls=.type "list" ∧o.dict=none∧o.data=.seq its n∧its.size≤sizeLine∧Vals xs its.toList
mutual
def RV (m:List Addr) (H:Hp):W→V→Prop
 | .non,v=>v=.non
 | .bl b,v=>v=.bl b
 | .int i,v=>v=.int i
 | .str x,v=>v=.str x
 | .tup xs,v=>∃ p vs,v=.ref p∧SqT K H p vs∧î m H xs vs
 | .fl xs,v=>∃ p vs,v=.ref p∧FzL K H p vs∧î m H xs vs
 | .ref n,v=>∃ a,m[n]?=some a∧v=.ref a
 | .gl x,v=>∃ a,mg x=some (.ref a)∧v=.ref a
 | .ty n,v=>v=.ty n
def î (m:List Addr) (H:Hp):List W→List V→Prop
 | [],vs=>vs=[]
 |w::ws,vs=>∃ v r,vs=v::r∧RV m H w v∧î m H ws r
end
def RFs (m:List Addr) (H:Hp):List (Str×W)→List (Str×V)→Prop
 | [],vs=>vs=[]
 |(f,w)::ws,vs=>∃ v r,vs=(f,v)::r∧RV K mg m H w v∧RFs m H ws r
def Ĩ {κ:Type} (m:List Addr) (H:Hp):List (κ×W)→List (κ×V)→Prop
 | [],vs=>vs=[]
 |(f,w)::ws,vs=>∃ v r,vs=(f,v)::r∧RV K mg m H w v∧Ĩ m H ws r
mutual
def NK (H:Hp):NestedKey→V→Prop
 | .none,v=>v=.non
 | .num i,v=>v=.int i
 | .text x,v=>v=.str x
 | .tup ks,v=>∃ p vs,v=.ref p∧SqT K H p vs∧NKs H ks vs
def NKs (H:Hp):List NestedKey→List V→Prop
 | [],vs=>vs=[]
 |k::ks,vs=>∃ v r,vs=v::r∧NK H k v∧NKs H ks r
end
def ź (m:List Addr) (H:Hp):List (NestedKey×W)→List (NestedKey×Addr×Value)→Prop
 | [],xs=>xs=[]
 |(k,w)::ws,xs=>∃ p u v r,xs=(k,p,u)::r∧(NK K H k (.ref p)∧k.depth≤8)∧RV K mg m H w v∧RelV v u∧ź m H ws r
def áW (Wd:World) (a:Addr) (xs:List (NestedKey×Addr×Value)) (h:Heap):Prop:=
 ∃o es ep,h.get? a=some o∧o.ExactDict∧o.data=.dict es ep∧es.toList=xs.map (λ x=>⟨x.1.hash Wd,.ref x.2.1,x.2.2⟩)∧(xs.map (·.1)).Nodup∧(a==sysModules)=false∧xs.length≤sizeLine
def NO (Wd:World) (a:Addr) (xs:List (NestedKey×Addr×Value)):HO:=.ext (áW Wd a xs)
def RO (m:List Addr) (H:Hp) (a:Addr):Ob→Prop
 | .lst xs=>∃ vs,H a=some (.lst vs)∧î K mg m H xs vs
 | .dK kvs=>∃ vs,H a=some (.dK vs)∧Ĩ K mg m H kvs vs
 | .dT kvs=>∃ vs,H a=some (.dT vs)∧Ĩ K mg m H kvs vs
 | .dN kvs=>∃ xs,H a=some (NO Wd a xs)∧ź K mg m H kvs xs
 | .ins c fs=>∃ C dx vs,H a=some (.ins C dx vs)∧mg c=some (.ref C)∧RFs K mg m H fs vs
structure ĕ (m:List Addr) (S:Å) (H:Hp):Prop where
 len:m.length=S.length
 nd:m.Nodup
 ob:∀ (i:Nat) (o:Ob) (a:Addr),S[i]?=some o→m[i]?=some a→RO Wd K mg m H a o
end
structure Ext (m:List Addr) (H:Hp) (m':List Addr) (H':Hp):Prop where
 more:∃ r,m'=m++r
 tup:∀ p xs,H p=some (.tup xs)→H' p=some (.tup xs)
 frz:∀ p o u,H p=some (.frz o u)→H' p=some (.frz o u)
theorem Ext.refl (m:List Addr) (H:Hp):Ext m H m H:=⟨⟨[],by simp⟩,λ _ _ h=>h,λ _ _ _ h=>h⟩
theorem Ext.trans {m m1 m2:List Addr} {H H1 H2:Hp} (a:Ext m H m1 H1) (b:Ext m1 H1 m2 H2):Ext m H m2 H2:=by
 obtain ⟨⟨r,e⟩,t,f⟩:=a
 obtain ⟨⟨r',e'⟩,t',f'⟩:=b
 exact ⟨⟨r++r',by rw[e',e,List.append_assoc]⟩,λ p xs h=>t' _ _ (t _ _ h),λ p o u h=>f' _ _ _ (f _ _ _ h)⟩
theorem Ext.get {m m':List Addr} {H H':Hp} (e:Ext m H m' H') {n:Nat} {a:Addr} (h:m[n]?=some a):m'[n]?=some a:=by
 obtain ⟨⟨r,rfl⟩,_,_⟩:=e
 rw[List.getElem?_append_left (List.getElem?_eq_some_iff.mp h).1]
 exact h
section
variable{Wd:World}{K:PySem.W.Frag}{mg:Str→Option Value}{m m':List Addr}{H H':Hp}
theorem Ext.sqt (e:Ext m H m' H') {p:Addr} {xs:List V} (h:SqT K H p xs):SqT K H' p xs:=by
 rcases h with (h |⟨o,h⟩)|h
 ·exact .inl (.inl (e.tup _ _ h))
 ·exact .inl (.inr ⟨o,e.frz _ _ _ h⟩)
 ·exact .inr h
theorem Ext.fzl (e:Ext m H m' H') {p:Addr} {xs:List V} (h:FzL K H p xs):FzL K H' p xs:=by
 rcases h with ⟨o,h⟩|h
 ·exact .inl ⟨o,e.frz _ _ _ h⟩
 ·exact .inr h
theorem FzL.sq {p:Addr} {xs:List V} (h:FzL K H p xs):SqL K H p xs:=by
 rcases h with ⟨o,h⟩|h
 ·exact .inl (.inr ⟨o,h⟩)
 ·exact .inr h
mutual
theorem RV.mono (e:Ext m H m' H'):∀ {w:W} {v:V},RV K mg m H w v→RV K mg m' H' w v
 | .non,_,h=>by unfold RV at h ⊢;exact h
 | .bl _,_,h=>by unfold RV at h ⊢;exact h
 | .int _,_,h=>by unfold RV at h ⊢;exact h
 | .str _,_,h=>by unfold RV at h ⊢;exact h
 | .tup xs,_,h=>by
  unfold RV at h ⊢
  obtain ⟨p,vs,e1,h1,h2⟩:=h
  exact ⟨p,vs,e1,e.sqt h1,î.mono e h2⟩
 | .fl xs,_,h=>by
  unfold RV at h ⊢
  obtain ⟨p,vs,e1,h1,h2⟩:=h
  exact ⟨p,vs,e1,e.fzl h1,î.mono e h2⟩
 | .ref n,_,h=>by
  unfold RV at h ⊢
  obtain ⟨a,h1,h2⟩:=h
  exact ⟨a,e.get h1,h2⟩
 | .gl x,_,h=>by unfold RV at h ⊢;exact h
 | .ty _,_,h=>by unfold RV at h ⊢;exact h
theorem î.mono (e:Ext m H m' H'):∀ {ws:List W} {vs:List V},î K mg m H ws vs→î K mg m' H' ws vs
 | [],_,h=>by unfold î at h ⊢;exact h
 |w::ws,_,h=>by
  unfold î at h ⊢
  obtain ⟨v,r,e1,h1,h2⟩:=h
  exact ⟨v,r,e1,RV.mono e h1,î.mono e h2⟩
end
theorem RFs.mono (e:Ext m H m' H'):∀ {ws:List (Str×W)} {vs:List (Str×V)},RFs K mg m H ws vs→RFs K mg m' H' ws vs
 | [],_,h=>h
 |(f,w)::ws,_,⟨v,r,e1,h1,h2⟩=>⟨v,r,e1,h1.mono e,RFs.mono e h2⟩
theorem Ĩ.mono {κ:Type} (e:Ext m H m' H'):∀ {ws:List (κ×W)} {vs:List (κ×V)},Ĩ K mg m H ws vs→Ĩ K mg m' H' ws vs
 | [],_,h=>h
 |(f,w)::ws,_,⟨v,r,e1,h1,h2⟩=>⟨v,r,e1,h1.mono e,Ĩ.mono e h2⟩
theorem î.nil:î K mg m H [] []:=by unfold î;rfl
theorem î.cons {w:W} {v:V} {ws:List W} {vs:List V} (h:RV K mg m H w v) (t:î K mg m H ws vs):î K mg m H (w::ws) (v::vs):=by
 unfold î;exact ⟨v,vs,rfl,h,t⟩
theorem î.uncons {w:W} {ws:List W} {vs:List V} (h:î K mg m H (w::ws) vs):∃ v r,vs=v::r∧RV K mg m H w v∧î K mg m H ws r:=by
 unfold î at h;exact h
theorem î.nil_inv {vs:List V} (h:î K mg m H [] vs):vs=[]:=by unfold î at h;exact h
theorem î.length:∀ {ws:List W} {vs:List V},î K mg m H ws vs→ws.length=vs.length
 | [],_,h=>by have e:=h.nil_inv;subst e;rfl
 |_::ws,_,h=>by
  obtain ⟨v,r,rfl,_,t⟩:=h.uncons
  simp[t.length]
theorem î.get:∀ {ws:List W} {vs:List V} {i:Nat} {w:W},î K mg m H ws vs→ws[i]?=some w→∃ v,vs[i]?=some v∧RV K mg m H w v
 | [],_,_,_,_,e=>by simp at e
 |w::ws,_,0,_,h,e=>by
  obtain ⟨v,r,rfl,h1,t⟩:=h.uncons
  simp at e;subst e
  exact ⟨v,rfl,h1⟩
 |w::ws,_,i+1,_,h,e=>by
  obtain ⟨v,r,rfl,h1,t⟩:=h.uncons
  obtain ⟨u,e1,e2⟩:=t.get (i:=i) (by simpa using e)
  exact ⟨u,by simpa using e1,e2⟩
theorem î.append:∀ {ws ws':List W} {vs vs':List V},î K mg m H ws vs→î K mg m H ws' vs'→î K mg m H (ws++ws') (vs++vs')
 | [],_,_,_,h,h'=>by rw[h.nil_inv];exact h'
 |w::ws,_,_,_,h,h'=>by
  obtain ⟨v,r,rfl,h1,t⟩:=h.uncons
  exact .cons h1 (t.append h')
theorem î.take:∀ {ws:List W} {vs:List V} (n:Nat),î K mg m H ws vs→î K mg m H (ws.take n) (vs.take n)
 |_,_,0,_=>by simpa using î.nil
 | [],_,n+1,h=>by rw[h.nil_inv];simpa using î.nil
 |w::ws,_,n+1,h=>by
  obtain ⟨v,r,rfl,h1,t⟩:=h.uncons
  exact .cons h1 (t.take n)
theorem î.drop:∀ {ws:List W} {vs:List V} (n:Nat),î K mg m H ws vs→î K mg m H (ws.drop n) (vs.drop n)
 |_,_,0,h=>by simpa using h
 | [],_,n+1,h=>by rw[h.nil_inv];simpa using î.nil
 |w::ws,_,n+1,h=>by
  obtain ⟨v,r,rfl,h1,t⟩:=h.uncons
  simpa using t.drop n
theorem î.set {w:W} {v:V} (hw:RV K mg m H w v):∀ {ws:List W} {vs:List V} (n:Nat),î K mg m H ws vs→î K mg m H (ws.set n w) (vs.set n v)
 | [],_,n,h=>by rw[h.nil_inv];simpa using î.nil
 |_::ws,_,0,h=>by
  obtain ⟨v',r,rfl,h1,t⟩:=h.uncons
  exact .cons hw t
 |_::ws,_,n+1,h=>by
  obtain ⟨v',r,rfl,h1,t⟩:=h.uncons
  exact .cons h1 (t.set hw n)
theorem î.reverse:∀ {ws:List W} {vs:List V},î K mg m H ws vs→î K mg m H ws.reverse vs.reverse
 | [],_,h=>by rw[h.nil_inv];simpa using î.nil
 |_::ws,_,h=>by
  obtain ⟨v',r,rfl,h1,t⟩:=h.uncons
  simp only[List.reverse_cons]
  exact t.reverse.append (.cons h1 .nil)
theorem î.dropLast {ws:List W} {vs:List V} (h:î K mg m H ws vs):î K mg m H ws.dropLast vs.dropLast:=by
 rw[List.dropLast_eq_take,List.dropLast_eq_take,←h.length]
 exact h.take _
theorem î.rep {ws:List W} {vs:List V} (h:î K mg m H ws vs):∀ k:Nat,î K mg m H (List.replicate k ws).flatten (List.replicate k vs).flatten
 |0=>by simpa using î.nil
 |k+1=>by
  simp only[List.replicate_succ,List.flatten_cons]
  exact h.append (h.rep k)
theorem î.eraseIdx:∀ {ws:List W} {vs:List V} (n:Nat),î K mg m H ws vs→î K mg m H (ws.eraseIdx n) (vs.eraseIdx n)
 | [],_,n,h=>by rw[h.nil_inv];simpa using î.nil
 |_::ws,_,0,h=>by
  obtain ⟨v',r,rfl,h1,t⟩:=h.uncons
  simpa using t
 |_::ws,_,n+1,h=>by
  obtain ⟨v',r,rfl,h1,t⟩:=h.uncons
  simp only[List.eraseIdx_cons_succ]
  exact .cons h1 (t.eraseIdx n)
theorem î.ints:∀ {ns:List Int},î K mg m H (ns.map W.int) (ns.map V.int)
 | []=>.nil
 |n::ns=>.cons (by unfold RV;rfl) î.ints
theorem Ext.new {p:Addr} {o:HO} (hp:H p=none):Ext m H (m++[p]) (upd H p o):=by
 refine ⟨⟨[p],rfl⟩,λ q xs h=>?_,λ q ob u h=>?_⟩
 ·rw[upd_ne (ne_of_none h hp)];exact h
 ·rw[upd_ne (ne_of_none h hp)];exact h
theorem Ext.plain {p:Addr} {o:HO} (hp:H p=none):Ext m H m (upd H p o):=by
 refine ⟨⟨[],by simp⟩,λ q xs h=>?_,λ q ob u h=>?_⟩
 ·rw[upd_ne (ne_of_none h hp)];exact h
 ·rw[upd_ne (ne_of_none h hp)];exact h
theorem Ext.chg {p:Addr} {o o':HO} (hp:H p=some o) (h1:∀ xs,o≠.tup xs) (h2:∀ ob u,o≠.frz ob u):Ext m H m (upd H p o'):=by
 refine ⟨⟨[],by simp⟩,λ q xs h=>?_,λ q ob u h=>?_⟩
 ·rw[upd_ne (ne_of h hp λ z=>h1 _ z.symm)];exact h
 ·rw[upd_ne (ne_of h hp λ z=>h2 _ _ z.symm)];exact h
mutual
theorem NK.mono (e:Ext m H m' H'):∀ {k:NestedKey} {v:V},NK K H k v→NK K H' k v
 | .none,_,h=>by unfold NK at h ⊢;exact h
 | .num _,_,h=>by unfold NK at h ⊢;exact h
 | .text _,_,h=>by unfold NK at h ⊢;exact h
 | .tup ks,_,h=>by
  unfold NK at h ⊢
  obtain ⟨p,vs,e1,h1,h2⟩:=h
  exact ⟨p,vs,e1,e.sqt h1,NKs.mono e h2⟩
theorem NKs.mono (e:Ext m H m' H'):∀ {ks:List NestedKey} {vs:List V},NKs K H ks vs→NKs K H' ks vs
 | [],_,h=>by unfold NKs at h ⊢;exact h
 |k::ks,_,h=>by
  unfold NKs at h ⊢
  obtain ⟨v,r,e1,h1,h2⟩:=h
  exact ⟨v,r,e1,h1.mono e,NKs.mono e h2⟩
end
theorem ź.mono (e:Ext m H m' H'):∀ {ws:List (NestedKey×W)} {xs:List (NestedKey×Addr×Value)},ź K mg m H ws xs→ź K mg m' H' ws xs
 | [],_,h=>by unfold ź at h ⊢;exact h
 |(k,w)::ws,_,h=>by
  unfold ź at h ⊢
  obtain ⟨p,u,v,r,e1,h1,h2,h3,h4⟩:=h
  exact ⟨p,u,v,r,e1,⟨h1.1.mono e,h1.2⟩,h2.mono e,h3,ź.mono e h4⟩
theorem RO.mono {a:Addr} {o:Ob} (e:Ext m H m' H') (k:∀ u,H a=some u→H' a=some u) (h:RO Wd K mg m H a o):RO Wd K mg m' H' a o:=by
 cases o with
 |lst xs=>obtain ⟨vs,h1,h2⟩:=h;exact ⟨vs,k _ h1,h2.mono e⟩
 |dK xs=>obtain ⟨vs,h1,h2⟩:=h;exact ⟨vs,k _ h1,h2.mono e⟩
 |dT xs=>obtain ⟨vs,h1,h2⟩:=h;exact ⟨vs,k _ h1,h2.mono e⟩
 |dN xs=>obtain ⟨vs,h1,h2⟩:=h;exact ⟨vs,k _ h1,h2.mono e⟩
 |ins c fs=>obtain ⟨C,dx,vs,h1,h3,h2⟩:=h;exact ⟨C,dx,vs,k _ h1,h3,h2.mono e⟩
theorem RO.there {a:Addr} {o:Ob} (h:RO Wd K mg m H a o):∃ u,H a=some u:=by
 cases o with
 |lst xs=>obtain ⟨vs,h1,h2⟩:=h;exact ⟨_,h1⟩
 |dK xs=>obtain ⟨vs,h1,h2⟩:=h;exact ⟨_,h1⟩
 |dT xs=>obtain ⟨vs,h1,h2⟩:=h;exact ⟨_,h1⟩
 |dN xs=>obtain ⟨vs,h1,h2⟩:=h;exact ⟨_,h1⟩
 |ins c fs=>obtain ⟨C,dx,vs,h1,_⟩:=h;exact ⟨_,h1⟩
theorem ĕ.at {S:Å} (s:ĕ Wd K mg m S H) {i:Nat} {o:Ob} (h:S[i]?=some o):∃ a,m[i]?=some a∧RO Wd K mg m H a o:=by
 have hl:i<m.length:=by rw[s.len];exact (List.getElem?_eq_some_iff.mp h).1
 exact ⟨m[i],List.getElem?_eq_getElem hl,s.ob i o _ h (List.getElem?_eq_getElem hl)⟩
theorem ĕ.plain {S:Å} {p:Addr} {o:HO} (s:ĕ Wd K mg m S H) (hp:H p=none):ĕ Wd K mg m S (upd H p o):=by
 refine ⟨s.len,s.nd,λ i ob a h1 h2=>(s.ob i ob a h1 h2).mono (Ext.plain hp) λ u h=>?_⟩
 rw[upd_ne (ne_of_none h hp)];exact h
theorem ĕ.new {S:Å} {p:Addr} {o:HO} {ob:Ob} (s:ĕ Wd K mg m S H) (hp:H p=none) (r:RO Wd K mg (m++[p]) (upd H p o) p ob):ĕ Wd K mg (m++[p]) (S++[ob]) (upd H p o):=by
 have hm:p∉m:=λ hm=>by
  obtain ⟨i,hi,e⟩:=List.getElem_of_mem hm
  obtain ⟨u,hu⟩:=(s.ob i S[i]! p (by rw[List.getElem?_eq_getElem (by rw[←s.len];exact hi)];simp[getElem!_def,s.len▸hi]) (by rw[List.getElem?_eq_getElem hi,e])).there
  rw[hu] at hp;cases hp
 refine ⟨by simp[s.len],?_,λ i o' a h1 h2=>?_⟩
 ·rw[List.nodup_append]
  refine ⟨s.nd,by simp,λ x hx y hy e=>?_⟩
  simp at hy;subst hy;subst e;exact hm hx
 ·by_cases hi:i<S.length
  ·rw[List.getElem?_append_left hi] at h1
   rw[List.getElem?_append_left (by rw[s.len];exact hi)] at h2
   exact (s.ob i o' a h1 h2).mono (Ext.new hp) λ u h=>by rw[upd_ne (ne_of_none h hp)];exact h
  ·have hi':i=S.length:=by
    have:=(List.getElem?_eq_some_iff.mp h1).1
    simp at this;omega
   subst hi'
   rw[List.getElem?_append_right (Nat.le_refl _)] at h1
   rw[List.getElem?_append_right (by rw[s.len];exact Nat.le_refl _)] at h2
   simp[s.len] at h1 h2
   subst h1;subst h2;exact r
theorem ĕ.chg {S:Å} {i:Nat} {a:Addr} {o o':HO} {ob:Ob} (s:ĕ Wd K mg m S H) (hm:m[i]?=some a) (hp:H a=some o) (h1:∀ xs,o≠.tup xs) (h2:∀ ob u,o≠.frz ob u)
  (r:RO Wd K mg m (upd H a o') a ob):ĕ Wd K mg m (S.set i ob) (upd H a o'):=by
 refine ⟨by simp[s.len],s.nd,λ j oj b h3 h4=>?_⟩
 by_cases hj:j=i
 ·subst hj
  rw[hm] at h4;cases h4
  rw[List.getElem?_set_self (by have:=(List.getElem?_eq_some_iff.mp h3).1;simpa using this)] at h3
  cases h3;exact r
 ·rw[List.getElem?_set_ne (Ne.symm hj)] at h3
  refine (s.ob j oj b h3 h4).mono (Ext.chg hp h1 h2) λ u h=>?_
  have:b≠a:=λ e=>by
   subst e
   have hjl:=(List.getElem?_eq_some_iff.mp h4)
   have hil:=(List.getElem?_eq_some_iff.mp hm)
   obtain ⟨a1,b1⟩:=hjl
   obtain ⟨a2,b2⟩:=hil
   exact hj (List.getElem_inj s.nd |>.mp (b1.trans b2.symm))
  rw[upd_ne this];exact h
end
end Fr
namespace Fr
open PySem PySem.Spec PyProof.Rows L2
section
variable(Wd:World)(K:PySem.W.Frag)(mg:Str→Option Value)
def RX (m:List Addr) (H:Hp) (c:Str) (d:Option (List (Str×W))) (cls:Value) (d':Option Addr):Prop:=
 (∃C,cls=.ref C∧mg c=some (.ref C))∧match d,d' with
  |none,none=>True
  |some fs,some a=>∃ vs,H a=some (.xd vs)∧RFs K mg m H fs vs
  |_,_=>False
def RSl (m:List Addr) (H:Hp) (s:Sl) (s':L2.St):Prop:=s.length=s'.length∧∀ (i:Nat) (w:W),s[i]?=some (some w)→∃ v,s'[i]?=some (some v)∧RV K mg m H w v
def WG {α β:Type} (R:List Addr→Hp→α→β→Prop) (r:Rs α) (m:List Addr) (H:Hp) (Q:β→Hp→Prop) (E:XK):Prop:=match r with
 | .ok a S'=>∀ m' H' b,Ext m H m' H'→ĕ Wd K mg m' S' H'→R m' H' a b→Q b H'
 | .ex c d S'=>∀ m' H' cls d',Ext m H m' H'→ĕ Wd K mg m' S' H'→RX K mg m' H' c d cls d'→E cls d' H'
 | .bad=>False
end
structure Cc where
 Z:L2.St→Prop
 Wx:WX
section
variable(Wd:World)(K:PySem.W.Frag)(mg:Str→Option Value)
def tG {α β:Type} (R:List Addr→Hp→α→β→Prop) (C:Cc) (f:Sl→M α):L2.St→Hp→(β→Hp→Prop)→Prop:=λ s' H Q=>
 ∃m S s,C.Z s'∧ĕ Wd K mg m S H∧RSl K mg m H s s'∧WG Wd K mg R (f s S) m H Q (λ c d H'=>C.Wx c d s' H')
def WS (r:RS) (m:List Addr) (H:Hp) (D:Ends) (C:Cc):Prop:=match r with
 | .nx s S=>∀ m' H' s',Ext m H m' H'→C.Z s'→ĕ Wd K mg m' S H'→RSl K mg m' H' s s'→D.nx s' H'
 | .bk s S=>∀ m' H' s',Ext m H m' H'→C.Z s'→ĕ Wd K mg m' S H'→RSl K mg m' H' s s'→D.bk s' H'
 | .ct s S=>∀ m' H' s',Ext m H m' H'→C.Z s'→ĕ Wd K mg m' S H'→RSl K mg m' H' s s'→D.ct s' H'
 | .rt w S=>∀ m' H' v,Ext m H m' H'→ĕ Wd K mg m' S H'→RV K mg m' H' w v→D.rt v H'
 | .ex c d s S=>∀ m' H' s' cls d',Ext m H m' H'→C.Z s'→ĕ Wd K mg m' S H'→RSl K mg m' H' s s'→RX K mg m' H' c d cls d'→C.Wx cls d' s' H'
 | .bad=>False
def tS (C:Cc) (f:Ì):TS:=λ D s' H=>∃ m S s,C.Z s'∧ĕ Wd K mg m S H∧RSl K mg m H s s'∧WS Wd K mg (f s S) m H D C
end
abbrev eqR {α:Type}:List Addr→Hp→α→α→Prop:=λ _ _ a b=>b=a
abbrev SE (X:Cx) (C:Cc) (e:Expr) (f:Exp):Prop:=PE X e (tG X.w X.K X.mg (RV X.K X.mg) C f)
abbrev ST (X:Cx) (C:Cc) (e:Expr) (f:ï):Prop:=PT X e (tG X.w X.K X.mg eqR C f)
abbrev SW (X:Cx) (C:Cc) (e:Expr) (f:ï):Prop:=PW X e (tG X.w X.K X.mg eqR C f)
abbrev SA (X:Cx) (C:Cc) (es:List Expr) (f:Arg):Prop:=PA X es (tG X.w X.K X.mg (î X.K X.mg) C f)
abbrev SS (X:Cx) (C:Cc) (st:Stmt) (f:Ì):Prop:=PS X st (tS X.w X.K X.mg C f)
abbrev SB (X:Cx) (C:Cc) (sts:List Stmt) (f:Ì):Prop:=PSs X sts (tS X.w X.K X.mg C f)
section
variable{Wd:World}{K:PySem.W.Frag}{mg:Str→Option Value}{m m' m1:List Addr}{H H' H1:Hp}{α β γ δ:Type}{R:List Addr→Hp→α→β→Prop}{R':List Addr→Hp→γ→δ→Prop}{Q:δ→Hp→Prop}{Q':β→Hp→Prop}{E:XK}{C:Cc}{s:Sl}{s':L2.St}{S:Å}
theorem RSl.mono (e:Ext m H m' H') (h:RSl K mg m H s s'):RSl K mg m' H' s s':=⟨h.1,λ i w hw=>let ⟨v,h1,h2⟩:=h.2 i w hw;⟨v,h1,h2.mono e⟩⟩
theorem RSl.set {i:Nat} {w:W} {v:V} (h:RSl K mg m H s s') (r:RV K mg m H w v):RSl K mg m H (s.set i (some w)) (s'.set i (some v)):=by
 refine ⟨by simp[h.1],λ j u hu=>?_⟩
 by_cases hj:j=i
 ·subst hj
  have hl:j<s.length:=by
   have:=(List.getElem?_eq_some_iff.mp hu).1
   simpa using this
  rw[List.getElem?_set_self hl] at hu
  cases hu
  exact ⟨v,List.getElem?_set_self (by rw[←h.1];exact hl),r⟩
 ·rw[List.getElem?_set_ne (Ne.symm hj)] at hu
  obtain ⟨v',h1,h2⟩:=h.2 j u hu
  exact ⟨v',by rw[List.getElem?_set_ne (Ne.symm hj)];exact h1,h2⟩
theorem RSl.drop {i:Nat} {o:Option V} (h:RSl K mg m H s s'):RSl K mg m H (s.set i none) (s'.set i o):=by
 refine ⟨by simp[h.1],λ j u hu=>?_⟩
 by_cases hj:j=i
 ·subst hj
  have hl:j<s.length:=by
   have:=(List.getElem?_eq_some_iff.mp hu).1
   simpa using this
  rw[List.getElem?_set_self hl] at hu
  cases hu
 ·rw[List.getElem?_set_ne (Ne.symm hj)] at hu
  obtain ⟨v',h1,h2⟩:=h.2 j u hu
  exact ⟨v',by rw[List.getElem?_set_ne (Ne.symm hj)];exact h1,h2⟩
theorem RX.mono {c:Str} {d:Option (List (Str×W))} {cls:Value} {d':Option Addr} (e:Ext m H m' H') (hx:∀ a vs,H a=some (.xd vs)→H' a=some (.xd vs)) (h:RX K mg m H c d cls d'):RX K mg m' H' c d cls d':=by
 refine ⟨h.1,?_⟩
 have h2:=h.2
 cases d with
 |none=>cases d' with
  |none=>trivial
  |some a=>exact h2
 |some fs=>cases d' with
  |none=>exact h2
  |some a=>obtain ⟨vs,h3,h4⟩:=h2;exact ⟨vs,hx _ _ h3,h4.mono e⟩
theorem WG.shift {r:Rs γ} (e:Ext m H m1 H1) (w:WG Wd K mg R' r m H Q E):WG Wd K mg R' r m1 H1 Q E:=by
 cases r with
 |ok a S'=>exact λ m' H' b e' s r=>w m' H' b (e.trans e') s r
 |ex c d S'=>exact λ m' H' cls d' e' s r=>w m' H' cls d' (e.trans e') s r
 |bad=>exact w
theorem WG.bind {f:M α} {k:α→M γ} (w:WG Wd K mg R' (bd f k S) m H Q E)
  (h:∀ a S1 m1 H1 b,Ext m H m1 H1→ĕ Wd K mg m1 S1 H1→R m1 H1 a b→WG Wd K mg R' (k a S1) m1 H1 Q E→Q' b H1):WG Wd K mg R (f S) m H Q' E:=by
 unfold bd at w
 cases hf:f S with
 |ok a S'=>rw[hf] at w;exact λ m' H' b e s r=>h a S' m' H' b e s r (w.shift e)
 |ex c d S'=>rw[hf] at w;exact w
 |bad=>rw[hf] at w;exact w
theorem WS.shift {r:RS} {D:Ends} (e:Ext m H m1 H1) (w:WS Wd K mg r m H D C):WS Wd K mg r m1 H1 D C:=by
 cases r with
 |nx s S=>exact λ m' H' b e' z s r=>w m' H' b (e.trans e') z s r
 |bk s S=>exact λ m' H' b e' z s r=>w m' H' b (e.trans e') z s r
 |ct s S=>exact λ m' H' b e' z s r=>w m' H' b (e.trans e') z s r
 |rt s S=>exact λ m' H' b e' s r=>w m' H' b (e.trans e') s r
 |ex c d s S'=>exact λ m' H' t cls d' e' z s r q=>w m' H' t cls d' (e.trans e') z s r q
 |bad=>exact w
theorem tG.bind {f:Sl→M α} {k:Sl→α→M γ} (h:tG Wd K mg R' C (λ s=>bd (f s) (k s)) s' H Q)
  (hk:∀ m1 S1 s H1 a b,C.Z s'→ĕ Wd K mg m1 S1 H1→RSl K mg m1 H1 s s'→R m1 H1 a b→WG Wd K mg R' (k s a S1) m1 H1 Q (λ c d H'=>C.Wx c d s' H')→Q' b H1):tG Wd K mg R C f s' H Q':=by
 obtain ⟨m,S,s,z,sim,sl,w⟩:=h
 exact ⟨m,S,s,z,sim,sl,w.bind λ a S1 m1 H1 b e s1 r w1=>hk m1 S1 s H1 a b z s1 (sl.mono e) r w1⟩
theorem WG.ok {a:γ} {b:δ} (w:WG Wd K mg R' (.ok a S) m H Q E) (s:ĕ Wd K mg m S H) (r:R' m H a b):Q b H:=w m H b (.refl _ _) s r
end
section
variable{X:Cx}
theorem PE.imp {e:Expr} {t t':TE} (h:PE X e t) (k:∀ s H Q,t' s H Q→t s H Q):PE X e t':=⟨λ pins s σ H Q I q=>h.run pins s σ H Q I (k _ _ _ q)⟩
theorem PT.imp {e:Expr} {t t':TT} (h:PT X e t) (k:∀ s H Q,t' s H Q→t s H Q):PT X e t':=⟨λ pins s σ H Q I q=>h.run pins s σ H Q I (k _ _ _ q)⟩
theorem PW.imp {e:Expr} {t t':TT} (h:PW X e t) (k:∀ s H Q,t' s H Q→t s H Q):PW X e t':=⟨λ wh pins s σ H Q I q=>h.run wh pins s σ H Q I (k _ _ _ q)⟩
theorem PA.imp {e:List Expr} {t t':TA} (h:PA X e t) (k:∀ s H Q,t' s H Q→t s H Q):PA X e t':=⟨λ pos pins s σ H Q I q=>h.run pos pins s σ H Q I (k _ _ _ q)⟩
theorem PS.imp {e:Stmt} {t t':TS} (h:PS X e t) (k:∀ D s H,t' D s H→t D s H):PS X e t':=⟨λ pins s σ H D I q=>h.run pins s σ H D I (k _ _ _ q)⟩
theorem PSs.imp {e:List Stmt} {t t':TS} (h:PSs X e t) (k:∀ D s H,t' D s H→t D s H):PSs X e t':=⟨λ pins s σ H D I q=>h.run pins s σ H D I (k _ _ _ q)⟩
end
def À (i:Nat):Exp:=λ s S=>match s[i]? with
 |some (some w)=>.ok w S
 |_=>.bad
def eC (w:W):Exp:=λ _=>rt w
def É (o:W→W→M W) (a b:Exp):Exp:=λ s=>bd (a s) λ x=>bd (b s) λ y=>o x y
def eUn (o:W→M W) (a:Exp):Exp:=λ s=>bd (a s) o
def Ãn (a b:Exp):Exp:=λ s=>bd (a s) λ x=>match x with
 | .bl true=>b s
 | .bl false=>rt (.bl false)
 |_=>bad
def eOr (a b:Exp):Exp:=λ s=>bd (a s) λ x=>match x with
 | .bl false=>b s
 | .bl true=>rt (.bl true)
 |_=>bad
def Ùn (a:Exp):Exp:=λ s=>bd (a s) λ x=>match x with
 | .bl b=>rt (.bl !b)
 |_=>bad
def eIf (c:ï) (a b:Exp):Exp:=λ s=>bd (c s) λ k=>if k=true then a s else b s
def ÃO (o o':W→W→M W) (a b c:Exp):Exp:=λ s=>bd (a s) λ x=>bd (b s) λ y=>bd (o x y) λ z=>match z with
 | .bl true=>bd (c s) λ u=>o' y u
 | .bl false=>rt (.bl false)
 |_=>bad
def tB (a:Exp):ï:=λ s=>bd (a s) λ x=>match x with
 | .bl b=>rt b
 |_=>bad
def tAnd (a b:ï):ï:=λ s=>bd (a s) λ k=>if k=true then b s else rt false
def tOr (a b:ï):ï:=λ s=>bd (a s) λ k=>if k=true then rt true else b s
def tNot (a:ï):ï:=λ s=>bd (a s) λ k=>rt !k
def Ä:Arg:=λ _=>rt []
def Á (a:Exp) (r:Arg):Arg:=λ s=>bd (a s) λ x=>bd (r s) λ xs=>rt (x::xs)
def ô (a:Arg):Exp:=λ s=>bd (a s) λ xs=>if xs.length≤sizeLine then rt (.tup xs) else bad
def new (o:Ob):M W:=λ S=>.ok (.ref S.length) (S++[o])
def ĩ (a:Arg):Exp:=λ s=>bd (a s) λ xs=>if xs.length≤sizeLine then new (.lst xs) else bad
def eB (f:List W→M W) (a:Arg):Exp:=λ s=>bd (a s) f
def Ò (f:Fn) (a:Arg):Exp:=λ s=>bd (a s) f
section
variable{X:Cx}{C:Cc}{a b c:Expr}{es:List Expr}{fa fb fc:Exp}{pos p:Pos}
theorem Â {i:Nat} {x:Str} (hN:X.N[i]?=some x:=by rfl) (hv:Vis X.env.scope x:=by first|exact Or.inl rfl|exact Or.inr (Or.inl rfl)|exact Or.inr (Or.inr rfl))
  (hd:(x==("__debug__" :Str))=false:=by decide) (hcd:(x==("__classdict__" :Str))=false:=by decide):SE X C (.Name x pos) (À i):=by
 refine PE.imp (pe_var hN hv hd hcd) λ s' H Q h=>?_
 obtain ⟨m,S,s,z,sim,sl,w⟩:=h
 unfold À at w
 split at w
 ·rename_i u hu
  obtain ⟨v,h1,h2⟩:=sl.2 i u hu
  exact ⟨v,h1,w.ok sim h2⟩
 ·exact False.elim w
theorem Ò7 {t:TE} {w:W} {v:V} (h:PE X a (tC v)) (hr:∀ m H,RV X.K X.mg m H w v):SE X C a (eC w):=by
 refine PE.imp h λ s' H Q h=>?_
 obtain ⟨m,S,s,z,sim,sl,w⟩:=h
 exact w.ok sim (hr m H)
theorem Ü {i:Int} {j:Nat}:SE X C (.Constant (.int i) j pos) (eC (.int i)):=Ò7 (t:=tC (.int i)) pe_int λ _ _=>by unfold RV;rfl
theorem Ão {x:Str} {j:Nat}:SE X C (.Constant (.str x) j pos) (eC (.str x)):=Ò7 (t:=tC (.str x)) pe_str λ _ _=>by unfold RV;rfl
theorem ų {x:Bool} {j:Nat}:SE X C (.Constant (.bool x) j pos) (eC (.bl x)):=Ò7 (t:=tC (.bl x)) pe_bl λ _ _=>by unfold RV;rfl
theorem ÁV {j:Nat}:SE X C (.Constant .none j pos) (eC .non):=Ò7 (t:=tC .non) pe_non λ _ _=>by unfold RV;rfl
theorem Þu {x:Str} {w:W} {v:V} {u:Value} (hg:Gl X x) (hm:X.mg x=some u) (r:RelV v u) (hr:∀ m H,RV X.K X.mg m H w v) (hd:(x==("__debug__" :Str))=false:=by decide):SE X C (.Name x pos) (eC w):=
 Ò7 (t:=tC v) (pe_glob hg hm r hd) hr
theorem Èq {x:Str} {n:String} (hg:Gl X x) (hm:X.mg x=none) (hv:bootBuiltins x=some (.type n)) (hn:x≠ "__name__" :=by decide) (hd:(x==("__debug__" :Str))=false:=by decide):SE X C (.Name x pos) (eC (.ty n)):=
 Ò7 (t:=tC (.ty n)) (pe_bltn (v:=.ty n) hg hm hv rfl hn hd) λ _ _=>by unfold RV;rfl
def O2 (X:Cx) (r:R2) (o:W→W→M W):Prop:=∀ x y S m H v u Q E,ĕ X.w X.K X.mg m S H→RV X.K X.mg m H x v→RV X.K X.mg m H y u→WG X.w X.K X.mg (RV X.K X.mg) (o x y S) m H Q E→r v u H Q
def OC (X:Cx) (r:List V→Hp→VK→Prop) (o:List W→M W):Prop:=∀ x S m H v Q E,ĕ X.w X.K X.mg m S H→î X.K X.mg m H x v→WG X.w X.K X.mg (RV X.K X.mg) (o x S) m H Q E→r v H Q
theorem ŧ {op:Operator} {r:R2} {o:W→W→M W} (ho:OpR X (binaryOp op) r) (hr:O2 X r o) (ha:SE X C a fa) (hb:SE X C b fb):SE X C (.BinOp a op b pos) (É o fa fb):=by
 refine PE.imp (pe_op ho ha hb) λ s' H Q h=>?_
 refine tG.bind h λ m1 S1 s H1 x v z s1 l1 r1 w1=>?_
 exact ⟨m1,S1,s,z,s1,l1,w1.bind λ y S2 m2 H2 u e2 s2 r2 w2=>hr x y S2 m2 H2 v u Q _ s2 (r1.mono e2) r2 w2⟩
theorem ËZ {op:CmpOp} {r:R2} {o:W→W→M W} (ho:OpR X (compareOp op) r) (hr:O2 X r o) (ha:SE X C a fa) (hb:SE X C b fb) (hm:behindInMarks op b=false:=by first|exact nomark _|rfl):SE X C (.Compare a [op] [b] pos) (É o fa fb):=by
 refine PE.imp (pe_cmpR ho ha hb hm) λ s' H Q h=>?_
 refine tG.bind h λ m1 S1 s H1 x v z s1 l1 r1 w1=>?_
 exact ⟨m1,S1,s,z,s1,l1,w1.bind λ y S2 m2 H2 u e2 s2 r2 w2=>hr x y S2 m2 H2 v u Q _ s2 (r1.mono e2) r2 w2⟩
theorem WG.tb {Wd:World} {K:PySem.W.Frag} {mg:Str→Option Value} {m:List Addr} {H:Hp} {f:M W} {S:Å} {Q:Bool→Hp→Prop} {E:XK} (w:WG Wd K mg eqR (bd f (λ x=>match x with
 | .bl b=>rt b
 |_=>bad) S) m H Q E):WG Wd K mg (RV K mg) (f S) m H (λ x H'=>∃ k,x=.bl k∧Q k H') E:=by
 refine w.bind λ x S1 m1 H1 v e s1 r1 w1=>?_
 cases x with
 |bl k=>unfold RV at r1;exact ⟨k,r1,w1.ok s1 rfl⟩
 |_=>exact False.elim w1
theorem Ä5 {α β γ:Type} (f:M α) (g:α→M β) (h:β→M γ):bd (bd f g) h=bd f λ x=>bd (g x) h:=by
 funext S
 unfold bd
 cases f S<;>rfl
theorem Ē {op:CmpOp} {r:R2} {o:W→W→M W} (ho:OpR X (compareOp op) r) (hr:O2 X r o) (ha:SE X C a fa) (hb:SE X C b fb) (hm:behindInMarks op b=false:=by first|exact nomark _|rfl):ST X C (.Compare a [op] [b] pos) (tB (É o fa fb)):=by
 refine PT.imp (pt_cmpR ho ha hb hm) λ s' H Q h=>?_
 obtain ⟨m,S,s,z,sim,sl,w⟩:=h
 unfold tB É at w
 rw[Ä5] at w
 refine ⟨m,S,s,z,sim,sl,w.bind λ x S1 m1 H1 v e1 s1 r1 w1=>?_⟩
 rw[Ä5] at w1
 refine ⟨m1,S1,s,z,s1,sl.mono e1,w1.bind λ y S2 m2 H2 u e2 s2 r2 w2=>?_⟩
 exact hr x y S2 m2 H2 v u _ _ s2 (r1.mono e2) r2 w2.tb
theorem Ż (ha:SE X C a fa) (he:∀ whole,isTrue a X.env whole=(do let v ←whole;standAt a.pos;holding [v] (truthy v)):=by intro _;rfl):ST X C a (tB fa):=by
 refine PT.imp (pt_val ha he) λ s' H Q h=>?_
 obtain ⟨m,S,s,z,sim,sl,w⟩:=h
 exact ⟨m,S,s,z,sim,sl,w.tb⟩
theorem Ñq {op op':CmpOp} {r r':R2} {o o':W→W→M W} (ho:OpR X (compareOp op) r) (hr:O2 X r o) (ho':OpR X (compareOp op') r') (hr':O2 X r' o') (ha:SE X C a fa) (hb:SE X C b fb) (hc:SE X C c fc) (hm:lastMarks [op,op'] [b,c]=false:=by with_unfolding_all rfl):ST X C (.Compare a [op,op'] [b,c] pos) (tB (ÃO o o' fa fb fc)):=by
 refine PT.imp (pt_chain ho ho' ha hb hc hm) λ s' H Q h=>?_
 obtain ⟨m,S,s,z,sim,sl,w⟩:=h
 unfold tB ÃO at w
 rw[Ä5] at w
 refine ⟨m,S,s,z,sim,sl,w.bind λ x S1 m1 H1 v e1 s1 r1 w1=>?_⟩
 rw[Ä5] at w1
 refine ⟨m1,S1,s,z,s1,sl.mono e1,w1.bind λ y S2 m2 H2 u e2 s2 r2 w2=>?_⟩
 rw[Ä5] at w2
 refine hr x y S2 m2 H2 v u _ _ s2 (r1.mono e2) r2 (w2.bind λ t S3 m3 H3 tv e3 s3 r3 w3=>?_)
 cases t with
 |bl k=>
  unfold RV at r3
  refine ⟨k,r3,?_⟩
  cases k with
  |true=>
   rw[if_pos rfl]
   replace w3:=show WG X.w X.K X.mg eqR (bd (bd (fc s) λ u=>o' y u) _ S3) _ _ _ _ from w3
   rw[Ä5] at w3
   exact ⟨m3,S3,s,z,s3,((sl.mono e1).mono e2).mono e3,w3.bind λ q S4 m4 H4 qv e4 s4 r4 w4=>hr' y q S4 m4 H4 u qv _ _ s4 ((r2.mono e3).mono e4) r4 w4.tb⟩
  |false=>
   rw[if_neg Bool.false_ne_true]
   exact ⟨false,rfl,w3.ok s3 rfl⟩
 |_=>exact False.elim w3
theorem Ïp {op} (h:SE X C a fa):SE X C (.BoolOp op [a] pos) fa:=pe_one h
theorem Ír {rest:List Expr} (ha:SE X C a fa) (hb:SE X C (.BoolOp .And (b::rest) pos) fb):SE X C (.BoolOp .And (a::b::rest) pos) (Ãn fa fb):=by
 refine PE.imp (pe_and ha hb) λ s' H Q h=>?_
 refine tG.bind h λ m1 S1 s H1 x v z s1 l1 r1 w1=>?_
 cases x with
 |bl k=>
  unfold RV at r1
  refine ⟨k,r1,?_⟩
  cases k with
  |true=>rw[if_pos rfl];exact ⟨m1,S1,s,z,s1,l1,w1⟩
  |false=>rw[if_neg Bool.false_ne_true];exact w1.ok s1 (by unfold RV;rfl)
 |_=>exact False.elim w1
variable{ta tb:ï}
theorem Ðl (ha:ST X C a ta):SW X C (.BoolOp .And [a] pos) ta:=pw_and1 ha
theorem Ís (ha:ST X C a ta):SW X C (.BoolOp .Or [a] pos) ta:=pw_or1 ha
theorem Òa {rest:List Expr} (ha:ST X C a ta) (hb:SW X C (.BoolOp .And (b::rest) pos) tb):SW X C (.BoolOp .And (a::b::rest) pos) (tAnd ta tb):=by
 refine PW.imp (pw_and ha hb) λ s' H Q h=>?_
 refine tG.bind h λ m1 S1 s H1 x v z s1 l1 r1 w1=>?_
 subst r1
 cases v with
 |true=>rw[if_pos rfl];exact ⟨m1,S1,s,z,s1,l1,w1⟩
 |false=>rw[if_neg Bool.false_ne_true];exact w1.ok s1 rfl
theorem Ðm {rest:List Expr} (ha:ST X C a ta) (hb:SW X C (.BoolOp .Or (b::rest) pos) tb):SW X C (.BoolOp .Or (a::b::rest) pos) (tOr ta tb):=by
 refine PW.imp (pw_or ha hb) λ s' H Q h=>?_
 refine tG.bind h λ m1 S1 s H1 x v z s1 l1 r1 w1=>?_
 subst r1
 cases v with
 |false=>rw[if_neg Bool.false_ne_true];exact ⟨m1,S1,s,z,s1,l1,w1⟩
 |true=>rw[if_pos rfl];exact w1.ok s1 rfl
theorem Ì5 (h:SW X C a ta):ST X C a ta:=PW.pt h
theorem Ãp (ha:ST X C a ta):ST X C (.UnaryOp .Not a pos) (tNot ta):=by
 refine PT.imp (pt_not ha) λ s' H Q h=>?_
 refine tG.bind h λ m1 S1 s H1 x v z s1 l1 r1 w1=>?_
 subst r1
 exact w1.ok s1 rfl
theorem áX (hc:ST X C c ta) (ha:SE X C a fa) (hb:SE X C b fb):SE X C (.IfExp c a b pos) (eIf ta fa fb):=by
 refine PE.imp (pe_ifExp hc ha hb) λ s' H Q h=>?_
 refine tG.bind h λ m1 S1 s H1 x v z s1 l1 r1 w1=>?_
 subst r1
 cases v with
 |true=>rw[if_pos rfl];exact ⟨m1,S1,s,z,s1,l1,w1⟩
 |false=>rw[if_neg Bool.false_ne_true];exact ⟨m1,S1,s,z,s1,l1,w1⟩
variable{fr:Arg}
theorem Ê:SA X C [] Ä:=by
 refine PA.imp pa_nil λ s' H Q h=>?_
 obtain ⟨m,S,s,z,sim,sl,w⟩:=h
 exact w.ok sim .nil
theorem Ã (ha:SE X C a fa) (hr:SA X C es fr) (hs:starEach (a::es) X.env=(false,eval a X.env)::starEach es X.env:=by rfl):SA X C (a::es) (Á fa fr):=by
 refine PA.imp (pa_cons ha hr hs) λ s' H Q h=>?_
 refine tG.bind h λ m1 S1 s H1 x v z s1 l1 r1 w1=>?_
 refine ⟨m1,S1,s,z,s1,l1,w1.bind λ y S2 m2 H2 u e2 s2 r2 w2=>?_⟩
 exact w2.ok s2 (.cons (r1.mono e2) r2)
theorem ÀS {k} (h:SA X C es fr):SE X C (.Tuple es k pos) (ô fr):=by
 refine PE.imp (pe_tup h) λ s' H Q h=>?_
 refine tG.bind h λ m1 S1 s H1 x v z s1 l1 r1 w1=>?_
 split at w1
 ·rename_i hl
  refine ⟨by rw[←r1.length];exact hl,λ q hq=>?_⟩
  refine w1 m1 _ _ (Ext.plain hq) (s1.plain hq) ?_
  unfold RV
  exact ⟨q,v,rfl,.inl (.inl upd_same),r1.mono (Ext.plain hq)⟩
 ·exact False.elim w1
theorem WG.new {Wd:World} {K:PySem.W.Frag} {mg:Str→Option Value} {m:List Addr} {H:Hp} {S:Å} {o:Ob} {Q:VK} {E:XK} {q:Addr} {h:HO} (w:WG Wd K mg (RV K mg) (new o S) m H Q E) (s:ĕ Wd K mg m S H) (hq:H q=none) (r:RO Wd K mg (m++[q]) (upd H q h) q o):Q (.ref q) (upd H q h):=by
 refine w (m++[q]) _ _ (Ext.new hq) (s.new hq r) ?_
 unfold RV
 exact ⟨q,by rw[←s.len];simp,rfl⟩
theorem ÄQ (h:SA X C es fr):SE X C (.List es pos) (ĩ fr):=by
 refine PE.imp (pe_lst h) λ s' H Q h=>?_
 refine tG.bind h λ m1 S1 s H1 x v z s1 l1 r1 w1=>?_
 split at w1
 ·rename_i hl
  refine ⟨by rw[←r1.length];exact hl,λ q hq=>?_⟩
  exact w1.new s1 hq ⟨v,upd_same,r1.mono (Ext.new hq)⟩
 ·exact False.elim w1
variable{x:Str}{id T:String}{r:List V→Hp→VK→Prop}{o:List W→M W}
theorem Ď (hc:CallR X (.builtin id) r) (ho:OC X r o) (hg:Gl X x) (hm:X.mg x=none) (hv:bootBuiltins x=some (.builtin id)) (ha:SA X C (a::es) fr) (hn:x≠ "__name__" :=by decide) (hdb:(x==("__debug__" :Str))=false:=by decide)
  (he:starEach (a::es) X.env=(false,eval a X.env)::starEach es X.env:=by rfl) (hpl:(backTo pos (starEach es X.env)).any (·.1)=false:=by rfl):SE X C (.Call (.Name x p) (a::es) [] pos) (eB o fr):=by
 refine PE.imp (pe_callB hc hg hm hv ha hn hdb he hpl) λ s' H Q h=>?_
 exact tG.bind h λ m1 S1 s H1 x v z s1 l1 r1 w1=>ho x S1 m1 H1 v Q _ s1 r1 w1
theorem ÀN (hc:CallR X (.type T) r) (ho:OC X r o) (hg:Gl X x) (hm:X.mg x=none) (hv:bootBuiltins x=some (.type T)) (ha:SA X C (a::es) fr) (hn:x≠ "__name__" :=by decide) (hdb:(x==("__debug__" :Str))=false:=by decide)
  (he:starEach (a::es) X.env=(false,eval a X.env)::starEach es X.env:=by rfl) (hpl:(backTo pos (starEach es X.env)).any (·.1)=false:=by rfl):SE X C (.Call (.Name x p) (a::es) [] pos) (eB o fr):=by
 refine PE.imp (pe_callTy hc hg hm hv ha hn hdb he hpl) λ s' H Q h=>?_
 exact tG.bind h λ m1 S1 s H1 x v z s1 l1 r1 w1=>ho x S1 m1 H1 v Q _ s1 r1 w1
end
end Fr
namespace Fr
open PySem PySem.Spec PyProof.Rows L2
def â {α:Type} (r:Rs α) (s:Sl) (k:α→Å→RS):RS:=match r with
 | .ok a S=>k a S
 | .ex c d S=>.ex c d s S
 | .bad=>.bad
def Ñ:Ì:=λ s S=>.nx s S
def Æ (a b:Ì):Ì:=λ s S=>match a s S with
 | .nx s' S'=>b s' S'
 |r=>r
def ġ (e:Exp):Ì:=λ s S=>â (e s S) s λ _ S'=>.nx s S'
def Ð (e:Exp):Ì:=λ s S=>â (e s S) s λ w S'=>.rt w S'
def Ëx:Ì:=λ _ S=>.rt .non S
def Ù (c:ï) (a b:Ì):Ì:=λ s S=>â (c s S) s λ k S'=>if k=true then a s S' else b s S'
def Ô (i:Nat) (e:Exp):Ì:=λ s S=>â (e s S) s λ w S'=>.nx (s.set i (some w)) S'
abbrev Ā:=W→Sl→Option Sl
def gN (i:Nat):Ā:=λ w s=>some (s.set i (some w))
def ÃU:List W→Sl→Option Sl:=λ ws s=>match ws with
 | []=>some s
 |_=>none
def æ (g:Ā) (r:List W→Sl→Option Sl):List W→Sl→Option Sl:=λ ws s=>match ws with
 |w::ws=>match g w s with
  |some s1=>r ws s1
  |none=>none
 | []=>none
def gT (n:Nat) (r:List W→Sl→Option Sl):Ā:=λ w s=>match w with
 | .tup ws=>if ws.length=n then r ws s else none
 |_=>none
def Ëy (g:Ā) (e:Exp):Ì:=λ s S=>â (e s S) s λ w S'=>match g w s with
 |some s2=>.nx s2 S'
 |none=>.bad
def ÔR:Ì:=λ s S=>.bk s S
def Ùo:Ì:=λ s S=>.ct s S
def Ĥ (c:Str):Ì:=λ s S=>.ex c none s S
inductive Src where
 |vals (xs:List W)|live (n:Nat)|gen (n:Nat) (f:Nat→Å→Option W) (c:Å→Bool)
def Ź (g:Ā) (b:Ì):List W→Ì
 | [],s,S=>.nx s S
 |x::xs,s,S=>match g x s with
  |none=>.bad
  |some s1=>match b s1 S with
   | .nx s2 S2=>Ź g b xs s2 S2
   | .ct s2 S2=>Ź g b xs s2 S2
   | .bk s2 S2=>.nx s2 S2
   |r=>r
def forL (g:Ā) (b:Ì) (a n:Nat):Nat→Ì
 |0,s,S=>match S[a]? with
  |some (.lst xs)=>if xs.length=n then .nx s S else .bad
  |_=>.bad
 |k+1,s,S=>match S[a]? with
  |some (.lst xs)=>if xs.length=n then match xs[n-(k+1)]? with
   |none=>.bad
   |some x=>match g x s with
    |none=>.bad
    |some s1=>match b s1 S with
     | .nx s2 S2=>forL g b a n k s2 S2
     | .ct s2 S2=>forL g b a n k s2 S2
     | .bk s2 S2=>.nx s2 S2
     |r=>r
   else .bad
  |_=>.bad
def ÄJ (g:Ā) (b:Ì) (n:Nat) (f:Nat→Å→Option W) (c:Å→Bool):Nat→Ì
 |0,s,S=>if c S=true then .nx s S else .bad
 |k+1,s,S=>match f (n-(k+1)) S with
  |none=>.bad
  |some x=>match g x s with
   |none=>.bad
   |some s1=>match b s1 S with
    | .nx s2 S2=>ÄJ g b n f c k s2 S2
    | .ct s2 S2=>ÄJ g b n f c k s2 S2
    | .bk s2 S2=>.nx s2 S2
    |r=>r
def ê (it:Sl→M Src) (g:Ā) (b:Ì):Ì:=λ s S=>â (it s S) s λ src S'=>match src with
 | .vals xs=>Ź g b xs s S'
 | .live n=>match S'[n]? with
  |some (.lst ys)=>forL g b n ys.length ys.length s S'
  |_=>.bad
 | .gen n f c=>ÄJ g b n f c n s S'
def ÁB (c:ï) (b:Ì):Nat→Ì
 |0,_,_=>.bad
 |k+1,s,S=>â (c s S) s λ q S'=>if q=true then (match b s S' with
   | .nx s2 S2=>ÁB c b k s2 S2
   | .ct s2 S2=>ÁB c b k s2 S2
   | .bk s2 S2=>.nx s2 S2
   |r=>r) else .nx s S'
def Ãz (tab:List (Str×Bool)) (c:Str):Option Bool:=match tab with
 | []=>none
 |(x,b)::r=>if x=c then some b else Ãz r c
def Ç4 (r:RS):RS:=match r with
 | .ex _ _ _ _=>.bad
 |r=>r
def Ç5 (b:Ì) (tab:List (Str×Bool)) (su:Str→Option (List (Str×W))→Ì):Ì:=λ s S=>match b s S with
 | .ex c d s1 S1=>match Ãz tab c with
  |some true=>Ç4 (su c d s1 S1)
  |some false=>.ex c d s1 S1
  |none=>.bad
 |r=>r
def È3 (i:Nat) (r:RS):RS:=match r with
 | .nx s S=>.nx (s.set i none) S
 | .bk s S=>.bk (s.set i none) S
 | .ct s S=>.ct (s.set i none) S
 |r=>r
def Òb (i:Nat) (b:Ì) (tab:List (Str×Bool)) (su:Str→Option (List (Str×W))→Ì):Ì:=λ s S=>match b s S with
 | .ex c d s1 S1=>match Ãz tab c with
  |some true=>if i<s1.length then È3 i (Ç4 (su c d (s1.set i none) S1)) else .bad
  |some false=>.ex c d s1 S1
  |none=>.bad
 |r=>r
def ē (n:Nat) (b:Ì):Fn:=λ ws S=>match b (ws.map some++List.replicate (n-ws.length) none) S with
 | .rt w S'=>.ok w S'
 | .nx _ S'=>.ok .non S'
 | .ex c d _ S'=>.ex c d S'
 |_=>.bad
section
variable{Wd:World}{K:PySem.W.Frag}{mg:Str→Option Value}{m m1:List Addr}{H H1:Hp}{α β:Type}{R:List Addr→Hp→α→β→Prop}{Q':β→Hp→Prop}{C:Cc}{s:Sl}{s':L2.St}{S:Å}{D:Ends}
theorem WS.â {r:Rs α} {k:α→Å→RS} (w:WS Wd K mg (â r s k) m H D C) (z:C.Z s') (l:RSl K mg m H s s')
  (h:∀ a S1 m1 H1 b,Ext m H m1 H1→ĕ Wd K mg m1 S1 H1→R m1 H1 a b→WS Wd K mg (k a S1) m1 H1 D C→Q' b H1):WG Wd K mg R r m H Q' (λ c d H'=>C.Wx c d s' H'):=by
 unfold Fr.â at w
 cases r with
 |ok a S'=>exact λ m' H' b e s r=>h a S' m' H' b e s r (w.shift e)
 |ex c d S'=>exact λ m' H' cls d' e s r=>w m' H' s' cls d' e z s (l.mono e) r
 |bad=>exact w
theorem WS.nx (w:WS Wd K mg (.nx s S) m H D C) (z:C.Z s') (sim:ĕ Wd K mg m S H) (l:RSl K mg m H s s'):D.nx s' H:=w m H s' (.refl _ _) z sim l
end
section
variable{X:Cx}{C:Cc}{a b c:Expr}{fe:Exp}{ft:ï}{fs gs:Ì}{pos pos':Pos}{st:Stmt}{rest sa sb:List Stmt}
theorem ð:SB X C [] Ñ:=by
 refine PSs.imp pss_nil λ D s' H h=>?_
 obtain ⟨m,S,s,z,sim,sl,w⟩:=h
 exact w.nx z sim sl
theorem Í (h1:SS X C st fs) (h2:SB X C rest gs):SB X C (st::rest) (Æ fs gs):=by
 refine PSs.imp (pss_cons h1 h2) λ D s' H h=>?_
 obtain ⟨m,S,s,z,sim,sl,w⟩:=h
 refine ⟨m,S,s,z,sim,sl,?_⟩
 unfold Æ at w
 cases hf:fs s S with
 |nx s2 S2=>rw[hf] at w;exact λ m' H' t e z' sm l=>⟨m',S2,s2,z',sm,l,w.shift e⟩
 |rt u S2=>rw[hf] at w;exact w
 |bk s2 S2=>rw[hf] at w;exact w
 |ct s2 S2=>rw[hf] at w;exact w
 |ex c d s2 S2=>rw[hf] at w;exact w
 |bad=>rw[hf] at w;exact w
theorem Î (h1:SS X C st fs):SB X C [st] fs:=pss_one h1
theorem Âc (he:SE X C a fe) (hs:swapsWith a none pos.line X.env=pure false:=by rfl):SS X C (.Expr a pos) (ġ fe):=by
 refine PS.imp (ps_expr he hs) λ D s' H h=>?_
 obtain ⟨m,S,s,z,sim,sl,w⟩:=h
 exact ⟨m,S,s,z,sim,sl,w.â z sl λ u S1 m1 H1 v e s1 r w1=>w1.nx z s1 (sl.mono e)⟩
theorem ç (he:SE X C a fe):SS X C (.Return (some a) pos) (Ð fe):=by
 refine PS.imp (ps_ret he) λ D s' H h=>?_
 obtain ⟨m,S,s,z,sim,sl,w⟩:=h
 exact ⟨m,S,s,z,sim,sl,w.â z sl λ u S1 m1 H1 v e s1 r w1=>w1 m1 H1 v (.refl _ _) s1 r⟩
theorem Þv:SS X C (.Return none pos) Ëx:=by
 refine PS.imp ps_retN λ D s' H h=>?_
 obtain ⟨m,S,s,z,sim,sl,w⟩:=h
 exact w m H .non (.refl _ _) sim (by unfold RV;rfl)
theorem ø (hc:ST X C c ft) (ha:SB X C sa fs) (hb:SB X C sb gs):SS X C (.If c sa sb pos) (Ù ft fs gs):=by
 refine PS.imp (ps_if hc ha hb) λ D s' H h=>?_
 obtain ⟨m,S,s,z,sim,sl,w⟩:=h
 refine ⟨m,S,s,z,sim,sl,w.â z sl λ u S1 m1 H1 v e s1 r w1=>?_⟩
 cases r
 cases u with
 |true=>rw[if_pos rfl];rw[if_pos rfl] at w1;exact ⟨m1,S1,s,z,s1,sl.mono e,w1⟩
 |false=>rw[if_neg Bool.false_ne_true];rw[if_neg Bool.false_ne_true] at w1;exact ⟨m1,S1,s,z,s1,sl.mono e,w1⟩
theorem û {i:Nat} {x:Str} (hN:X.N.Nodup) (he:SE X C a fe) (hi:X.N[i]?=some x:=by rfl) (hx:Loc X.env.scope x:=by first|exact Or.inl rfl|exact Or.inr rfl) (hs:swapsWith a (some (.Name x pos')) pos.line X.env=pure false:=by rfl)
  (hf:X.fn x=true∨X.env.scope.names.lookup x=some .local:=by first|exact .inl rfl|exact .inr rfl) (hz:∀ t v,C.Z t→C.Z (t.set i v):=by intro _ _ _;exact True.intro):SS X C (.Assign [.Name x pos'] a pos) (Ô i fe):=by
 refine PS.imp (ps_set hN hi hx he hs hf) λ D s' H h=>?_
 obtain ⟨m,S,s,z,sim,sl,w⟩:=h
 refine ⟨m,S,s,z,sim,sl,w.â z sl λ u S1 m1 H1 v e s1 r w1=>?_⟩
 exact w1.nx (hz _ _ z) s1 ((sl.mono e).set r)
end
section
variable(Wd:World)(K:PySem.W.Frag)(mg:Str→Option Value)
def tT (C:Cc) (g:Ā):TG:=λ v s' H Q=>∃ m S w s s2,C.Z s'∧ĕ Wd K mg m S H∧RSl K mg m H s s'∧RV K mg m H w v∧g w s=some s2∧∀ t,C.Z t→RSl K mg m H s2 t→Q t H
def tTs (C:Cc) (g:List W→Sl→Option Sl):TGs:=λ v s' H Q=>∃ m S w s s2,C.Z s'∧ĕ Wd K mg m S H∧RSl K mg m H s s'∧î K mg m H w v∧g w s=some s2∧∀ t,C.Z t→RSl K mg m H s2 t→Q t H
end
abbrev SG (X:Cx) (C:Cc) (tg:Expr) (g:Ā):Prop:=PG X tg (tT X.w X.K X.mg C g)
abbrev SGs (X:Cx) (C:Cc) (tg:List Expr) (g:List W→Sl→Option Sl):Prop:=PGs X tg (tTs X.w X.K X.mg C g)
section
variable{X:Cx}
theorem PG.imp {e:Expr} {t t':TG} (h:PG X e t) (k:∀ v s H Q,t' v s H Q→t v s H Q):PG X e t':=⟨λ pins s σ H v u Q I r q=>h.run pins s σ H v u Q I r (k _ _ _ _ q)⟩
theorem PGs.imp {e:List Expr} {t t':TGs} (h:PGs X e t) (k:∀ v s H Q,t' v s H Q→t v s H Q):PGs X e t':=⟨λ pins s σ H v u Q I r q=>h.run pins s σ H v u Q I r (k _ _ _ _ q)⟩
theorem PI.imp {tg e:Expr} {t t':TI} (h:PI X tg e t) (k:∀ s H Q,t' s H Q→t s H Q):PI X tg e t':=⟨λ pins s σ H R I q=>h.run pins s σ H R I (k _ _ _ q)⟩
theorem PI.or {tg e:Expr} {t t':TI} (h:PI X tg e t) (h':PI X tg e t'):PI X tg e (λ s H R=>t s H R∨t' s H R):=⟨λ pins s σ H R I q=>q.elim (λ q=>h.run pins s σ H R I q) λ q=>h'.run pins s σ H R I q⟩
variable{C:Cc}{pos pos':Pos}{a tg:Expr}{es:List Expr}{g:Ā}{gr:List W→Sl→Option Sl}{fe:Exp}
theorem đ {i:Nat} {x:Str} (hN:X.N.Nodup) (hi:X.N[i]?=some x:=by rfl) (hx:Loc X.env.scope x:=by first|exact Or.inl rfl|exact Or.inr rfl) (hf:X.fn x=true∨X.env.scope.names.lookup x=some .local:=by first|exact .inl rfl|exact .inr rfl)
  (hz:∀ t v,C.Z t→C.Z (t.set i v):=by intro _ _ _;exact True.intro):SG X C (.Name x pos) (gN i):=by
 refine PG.imp (pg_name hN hi hx hf) λ v s' H Q h=>?_
 obtain ⟨m,S,w,s,s2,z,sim,sl,r,e,q⟩:=h
 cases e
 exact q _ (hz _ _ z) (sl.set r)
theorem Øo:SGs X C [] ÃU:=by
 refine PGs.imp pgs_nil λ v s' H Q h=>?_
 obtain ⟨m,S,w,s,s2,z,sim,sl,r,e,q⟩:=h
 cases w with
 |nil=>cases e;exact ⟨r.nil_inv,q _ z sl⟩
 |cons _ _=>cases e
theorem ÉT (h1:SG X C a g) (h2:SGs X C es gr) (hs:(assignEach (a::es) X.env).map (·.2)=assign a X.env::(assignEach es X.env).map (·.2):=by rfl):SGs X C (a::es) (æ g gr):=by
 refine PGs.imp (pgs_cons h1 h2 hs) λ v s' H Q h=>?_
 obtain ⟨m,S,w,s,s2,z,sim,sl,r,e,q⟩:=h
 cases w with
 |nil=>cases e
 |cons w ws=>
  obtain ⟨v1,vr,rfl,r1,r2⟩:=r.uncons
  unfold æ at e
  cases hg:g w s with
  |none=>simp only[hg] at e;cases e
  |some s1=>
   simp only[hg] at e
   exact ⟨v1,vr,rfl,m,S,w,s,s1,z,sim,sl,r1,hg,λ t z1 l1=>⟨m,S,ws,s1,s2,z1,sim,l1,r2,e,q⟩⟩
theorem Úw {k n:Nat} (hc:X.calm=true) (h:SGs X C es gr) (hn:(assignEach es X.env).length=n:=by rfl) (hst:(assignEach es X.env).findIdx? (·.1)=none:=by rfl):SG X C (.Tuple es k pos) (gT n gr):=by
 refine PG.imp (pg_tup hc h hn hst) λ v s' H Q h=>?_
 obtain ⟨m,S,w,s,s2,z,sim,sl,r,e,q⟩:=h
 cases w with
 |tup ws=>
  unfold RV at r
  obtain ⟨p,vs,rfl,hq,hv⟩:=r
  unfold gT at e
  simp only at e
  split at e
  ·rename_i hl
   exact ⟨p,vs,rfl,hq,by rw[←hv.length];exact hl,m,S,ws,s,s2,z,sim,sl,hv,e,q⟩
  ·cases e
 |_=>cases e
theorem ßv (he:SE X C a fe) (hg:SG X C tg g) (hs:swapsWithSole [tg] a pos.line X.env=pure false:=by rfl) (hw:swappedStores [tg] a X.env=pure none:=by rfl)
  (h1:(assignEach [tg] X.env).map (·.2)=[assign tg X.env]:=by rfl):SS X C (.Assign [tg] a pos) (Ëy g fe):=by
 refine PS.imp (ps_asg he hg hs hw h1) λ D s' H h=>?_
 obtain ⟨m,S,s,z,sim,sl,w⟩:=h
 refine ⟨m,S,s,z,sim,sl,w.â z sl λ u S1 m1 H1 v e s1 r w1=>?_⟩
 cases hg:g u s with
 |none=>simp only[hg] at w1;exact False.elim w1
 |some s2=>
  simp only[hg] at w1
  exact ⟨m1,S1,u,s,s2,z,s1,sl.mono e,r,hg,λ t z1 l1=>w1.nx z1 s1 l1⟩
end
section
variable(Wd:World)(K:PySem.W.Frag)(mg:Str→Option Value)
def JV (J:It) (m1:List Addr) (H1:Hp) (xs:List W):Prop:=∀ m H,Ext m1 H1 m H→∀ (i:Nat),
 (∀w,xs[i]?=some w→J.go i H∧∀ x H',J.yld i H x H'→RV K mg m H' w x∧Ext m H m H'∧∀ S,ĕ Wd K mg m S H→ĕ Wd K mg m S H')∧(xs.length≤i→J.stop i H)
def JL (J:It) (m1:List Addr) (H1:Hp) (n:Nat):Prop:=∀ m H S ys,Ext m1 H1 m H→ĕ Wd K mg m S H→S[n]?=some (.lst ys)→∀ (i:Nat),
 (∀w,ys[i]?=some w→J.go i H∧∀ x H',J.yld i H x H'→H'=H∧RV K mg m H w x)∧(ys.length≤i→J.stop i H)
def JG (J:It) (m1:List Addr) (H1:Hp) (n:Nat) (f:Nat→Å→Option W) (c:Å→Bool):Prop:=∀ m H S,Ext m1 H1 m H→ĕ Wd K mg m S H→
 (∀i w,i<n→f i S=some w→J.go i H∧∀ x H',J.yld i H x H'→RV K mg m H' w x∧Ext m H m H'∧ĕ Wd K mg m S H')∧(c S=true→J.stop n H)
def RJ (m:List Addr) (H:Hp) (src:Src) (J:It):Prop:=match src with
 | .vals xs=>JV Wd K mg J m H xs
 | .live n=>JL Wd K mg J m H n
 | .gen n f c=>JG Wd K mg J m H n f c
end
abbrev SI (X:Cx) (C:Cc) (tg e:Expr) (f:Sl→M Src):Prop:=PI X tg e (tG X.w X.K X.mg (RJ X.w X.K X.mg) C f)
section
variable{X:Cx}{C:Cc}{pos pos':Pos}{a tg iter:Expr}{es:List Expr}{g:Ā}{fb:Ì}{it:Sl→M Src}{body:List Stmt}
theorem š (hp:PassesOwn (model X.prog X.w) X.A X.env X.xe) (hc:X.calm=true) (hi:SI X C tg iter it) (hg:SG X C tg g) (hb:SB X C body fb)
  (hs:∀ x,foldedSetIterable iter X.env x=pure x:=by intro _;rfl):SS X C (.For tg iter body [] pos) (ê it g fb):=by
 refine PS.imp (ps_for hp hc hi hg hb hs) λ D s' H h=>?_
 obtain ⟨m,S,s,z,sim,sl,w⟩:=h
 refine ⟨m,S,s,z,sim,sl,w.â z sl λ src S1 m1 H1 J e1 s1 r w1=>?_⟩
 have hbody:∀ {rest:Ì} {m2:List Addr} {H2:Hp} {S2:Å} {s2:Sl} {r:RS} {N:L2.St→Hp→Prop},r=fb s2 S2→WS X.w X.K X.mg (match r with
    | .nx s3 S3=>rest s3 S3
    | .ct s3 S3=>rest s3 S3
    | .bk s3 S3=>.nx s3 S3
    |r=>r) m2 H2 D C→(∀m3 H3 t s3 S3,Ext m2 H2 m3 H3→C.Z t→ĕ X.w X.K X.mg m3 S3 H3→RSl X.K X.mg m3 H3 s3 t→WS X.w X.K X.mg (rest s3 S3) m3 H3 D C→N t H3)→
   WS X.w X.K X.mg r m2 H2 {D with nx:=N,ct:=N,bk:=D.nx} C:=by
  intro rest m2 H2 S2 s2 r N _ w h
  cases r with
  |nx s3 S3=>exact λ m3 H3 t e z s l=>h m3 H3 t s3 S3 e z s l (w.shift e)
  |ct s3 S3=>exact λ m3 H3 t e z s l=>h m3 H3 t s3 S3 e z s l (w.shift e)
  |bk s3 S3=>exact w
  |rt u S3=>exact w
  |ex c d s3 S3=>exact w
  |bad=>exact w
 cases src with
 |vals xs=>
  have hj:JV X.w X.K X.mg J m1 H1 xs:=r
  refine ⟨λ i k t H=>k=xs.length-i∧∃ m S s,Ext m1 H1 m H∧C.Z t∧ĕ X.w X.K X.mg m S H∧RSl X.K X.mg m H s t∧WS X.w X.K X.mg (Ź g fb (xs.drop i) s S) m H D C,
   ⟨xs.length,by simp,m1,S1,s,.refl _ _,z,s1,sl.mono e1,by simpa using w1⟩,?_⟩
  rintro i k t H2 ⟨rfl,m2,S2,s2,e2,z2,sm2,l2,w2⟩
  by_cases hi:i<xs.length
  ·have hx:xs[i]?=some xs[i]:=List.getElem?_eq_getElem hi
   rw[List.drop_eq_getElem_cons hi] at w2
   obtain ⟨go,hy⟩:=(hj m2 H2 e2 i).1 _ hx
   refine .inr ⟨go,λ t H=>∃ m S s,Ext m1 H1 m H∧C.Z t∧ĕ X.w X.K X.mg m S H∧RSl X.K X.mg m H s t∧WS X.w X.K X.mg (Ź g fb (xs.drop (i+1)) s S) m H D C,
    λ t' H' hN=>⟨xs.length-(i+1),by omega,rfl,hN⟩,λ x H3 y=>?_⟩
   obtain ⟨rx,e3,sm3⟩:=hy x H3 y
   unfold Ź at w2
   cases hgx:g xs[i] s2 with
   |none=>simp only[hgx] at w2;exact False.elim w2
   |some s3=>
    simp only[hgx] at w2
    refine ⟨m2,S2,xs[i],s2,s3,z2,sm3 _ sm2,l2.mono e3,rx,hgx,λ t3 z3 l3=>⟨m2,S2,s3,z3,sm3 _ sm2,l3,?_⟩⟩
    exact hbody rfl (w2.shift e3) λ m4 H4 t4 s4 S4 e4 z4 sm4 l4 w4=>⟨m4,S4,s4,(e2.trans e3).trans e4,z4,sm4,l4,w4⟩
  ·rw[List.drop_eq_nil_of_le (by omega)] at w2
   exact .inl ⟨(hj m2 H2 e2 i).2 (by omega),w2.nx z2 sm2 l2⟩
 |live n=>
  have hj:JL X.w X.K X.mg J m1 H1 n:=r
  simp only at w1
  cases hn:S1[n]? with
  |none=>simp only[hn] at w1;exact False.elim w1
  |some o=>
   cases o with
   |lst ys=>
    simp only[hn] at w1
    refine ⟨λ i k t H=>k=ys.length-i∧i≤ys.length∧∃ m S s,Ext m1 H1 m H∧C.Z t∧ĕ X.w X.K X.mg m S H∧RSl X.K X.mg m H s t∧WS X.w X.K X.mg (forL g fb n ys.length (ys.length-i) s S) m H D C,
     ⟨ys.length,by simp,Nat.zero_le _,m1,S1,s,.refl _ _,z,s1,sl.mono e1,by simpa using w1⟩,?_⟩
    rintro i k t H2 ⟨rfl,hle,m2,S2,s2,e2,z2,sm2,l2,w2⟩
    by_cases hi:i<ys.length
    ·obtain ⟨q,hq⟩:∃ q,ys.length-i=q+1:=⟨ys.length-i-1,by omega⟩
     rw[hq] at w2
     unfold forL at w2
     cases hS:S2[n]? with
     |none=>simp only[hS] at w2;exact False.elim w2
     |some o2=>
      cases o2 with
      |lst zs=>
       simp only[hS] at w2
       split at w2
       ·rename_i hz
        have hi':ys.length-(q+1)=i:=by omega
        rw[hi'] at w2
        have hx:zs[i]?=some zs[i]:=List.getElem?_eq_getElem (by omega)
        rw[hx] at w2
        simp only at w2
        obtain ⟨go,hy⟩:=(hj m2 H2 S2 zs e2 sm2 hS i).1 _ hx
        have hq':q=ys.length-(i+1):=by omega
        refine .inr ⟨go,λ t H=>∃ m S s,Ext m1 H1 m H∧C.Z t∧ĕ X.w X.K X.mg m S H∧RSl X.K X.mg m H s t∧WS X.w X.K X.mg (forL g fb n ys.length q s S) m H D C,
         λ t' H' hN=>⟨ys.length-(i+1),by omega,rfl,by omega,by rw[←hq'];exact hN⟩,λ x H3 y=>?_⟩
        obtain ⟨rfl,rx⟩:=hy x H3 y
        cases hgx:g zs[i] s2 with
        |none=>simp only[hgx] at w2;exact False.elim w2
        |some s3=>
         simp only[hgx] at w2
         refine ⟨m2,S2,zs[i],s2,s3,z2,sm2,l2,rx,hgx,λ t3 z3 l3=>⟨m2,S2,s3,z3,sm2,l3,?_⟩⟩
         exact hbody rfl w2 λ m4 H4 t4 s4 S4 e4 z4 sm4 l4 w4=>⟨m4,S4,s4,e2.trans e4,z4,sm4,l4,w4⟩
       ·exact False.elim w2
      |_=>simp only[hS] at w2;exact False.elim w2
    ·have hq:ys.length-i=0:=by omega
     rw[hq] at w2
     unfold forL at w2
     cases hS:S2[n]? with
     |none=>simp only[hS] at w2;exact False.elim w2
     |some o2=>
      cases o2 with
      |lst zs=>
       simp only[hS] at w2
       split at w2
       ·rename_i hz
        exact .inl ⟨(hj m2 H2 S2 zs e2 sm2 hS i).2 (by omega),w2.nx z2 sm2 l2⟩
       ·exact False.elim w2
      |_=>simp only[hS] at w2;exact False.elim w2
   |_=>simp only[hn] at w1;exact False.elim w1
 |gen n f c=>
  have hj:JG X.w X.K X.mg J m1 H1 n f c:=r
  simp only at w1
  refine ⟨λ i k t H=>k=n-i∧i≤n∧∃ m S s,Ext m1 H1 m H∧C.Z t∧ĕ X.w X.K X.mg m S H∧RSl X.K X.mg m H s t∧WS X.w X.K X.mg (ÄJ g fb n f c (n-i) s S) m H D C,
   ⟨n,by simp,Nat.zero_le _,m1,S1,s,.refl _ _,z,s1,sl.mono e1,by simpa using w1⟩,?_⟩
  rintro i k t H2 ⟨rfl,hle,m2,S2,s2,e2,z2,sm2,l2,w2⟩
  by_cases hi:i<n
  ·obtain ⟨q,hq⟩:∃ q,n-i=q+1:=⟨n-i-1,by omega⟩
   rw[hq] at w2
   unfold ÄJ at w2
   have hi':n-(q+1)=i:=by omega
   rw[hi'] at w2
   cases hx:f i S2 with
   |none=>simp only[hx] at w2;exact False.elim w2
   |some x0=>
    simp only[hx] at w2
    obtain ⟨go,hy⟩:=(hj m2 H2 S2 e2 sm2).1 i x0 hi hx
    have hq':q=n-(i+1):=by omega
    refine .inr ⟨go,λ t H=>∃ m S s,Ext m1 H1 m H∧C.Z t∧ĕ X.w X.K X.mg m S H∧RSl X.K X.mg m H s t∧WS X.w X.K X.mg (ÄJ g fb n f c q s S) m H D C,
     λ t' H' hN=>⟨n-(i+1),by omega,rfl,by omega,by rw[←hq'];exact hN⟩,λ x H3 y=>?_⟩
    obtain ⟨rx,e3,sm3⟩:=hy x H3 y
    cases hgx:g x0 s2 with
    |none=>simp only[hgx] at w2;exact False.elim w2
    |some s3=>
     simp only[hgx] at w2
     refine ⟨m2,S2,x0,s2,s3,z2,sm3,l2.mono e3,rx,hgx,λ t3 z3 l3=>⟨m2,S2,s3,z3,sm3,l3,?_⟩⟩
     exact hbody rfl (w2.shift e3) λ m4 H4 t4 s4 S4 e4 z4 sm4 l4 w4=>⟨m4,S4,s4,(e2.trans e3).trans e4,z4,sm4,l4,w4⟩
  ·have hq:n-i=0:=by omega
   have hin:i=n:=by omega
   rw[hq] at w2
   unfold ÄJ at w2
   split at w2
   ·rename_i hc
    subst hin
    exact .inl ⟨(hj m2 H2 S2 e2 sm2).2 hc,w2.nx z2 sm2 l2⟩
   ·exact False.elim w2
end
end Fr
namespace Fr
open PySem PySem.Spec PyProof.Rows L2
def inR (n:Nat) (j:Int):Bool:=Nat.ble j.natAbs n
theorem Ò8 {n:Nat} {j:Int}:inR n j=true↔j.natAbs≤n:=by unfold inR;rw[Nat.ble_eq]
theorem ÝE {j:Int} (h:inR 4611686018427387903 j=true): -(2 ^ 62)≤j∧j<2 ^ 62:=by
 have h1:=Ò8.mp h
 have e:(2:Int) ^ 62=4611686018427387904:=by decide
 rw[e]
 omega
theorem ÝF {j:Int} (h:inR 9223372036854775807 j=true): -(2 ^ 63)≤j∧j<2 ^ 63:=by
 have h1:=Ò8.mp h
 have e:(2:Int) ^ 63=9223372036854775808:=by decide
 rw[e]
 omega
theorem ÝG {j:Int} (h:inR 18446744073709551615 j=true): -(2 ^ 64)<j∧j<2 ^ 64:=by
 have h1:=Ò8.mp h
 have e:(2:Int) ^ 64=18446744073709551616:=by decide
 rw[e]
 omega
def Æ5 (c:Nat):W:=.str ⟨#[c]⟩
def srcOf (w:W):M Src:=match w with
 | .tup xs=>rt (.vals xs)
 | .fl xs=>rt (.vals xs)
 | .str x=>rt (.vals (x.cps.toList.map Æ5))
 | .ref n=>λ S=>match S[n]? with
  |some (.lst _)=>.ok (.live n) S
  |_=>.bad
 |_=>bad
def iE (f:Exp):Sl→M Src:=λ s=>bd (f s) srcOf
def rng (lo:Int) (n:Nat):List W:=(List.range n).map λ (k:Nat)=>W.int (lo+k)
def iR1 (f:Arg):Sl→M Src:=λ s=>bd (f s) λ xs=>match xs with
 | [.int j]=>if inR 4611686018427387903 j=true then rt (.vals (rng 0 j.toNat)) else bad
 |_=>bad
def iR2 (f:Arg):Sl→M Src:=λ s=>bd (f s) λ xs=>match xs with
 | [.int i,.int j]=>if (inR 4611686018427387903 i&&inR 4611686018427387903 j)=true then rt (.vals (rng i (j-i).toNat)) else bad
 |_=>bad
section
variable{Wd:World}{K:PySem.W.Frag}{mg:Str→Option Value}{m:List Addr}{H:Hp}
theorem ßx {p:Addr} {vs:List V} {xs:List W} (hq:SqT K H p vs) (hv:î K mg m H xs vs):JV Wd K mg (Itt K p) m H xs:=by
 intro m' H' e i
 refine ⟨λ w hw=>?_,λ hl=>⟨vs,e.sqt hq,by rw[←hv.length];exact hl⟩⟩
 obtain ⟨v,h1,h2⟩:=hv.get hw
 refine ⟨⟨vs,v,e.sqt hq,h1⟩,λ x H2 y=>?_⟩
 obtain ⟨rfl,y⟩:=y
 have:=(y vs (e.sqt hq)).symm.trans h1
 cases this
 exact ⟨h2.mono e,.refl _ _,λ _ h=>h⟩
theorem áY {p:Addr} {vs:List V} {xs:List W} (hq:FzL K H p vs) (hv:î K mg m H xs vs):JV Wd K mg (Itl K p) m H xs:=by
 intro m' H' e i
 refine ⟨λ w hw=>?_,λ hl=>⟨vs,(e.fzl hq).sq,by rw[←hv.length];exact hl⟩⟩
 obtain ⟨v,h1,h2⟩:=hv.get hw
 refine ⟨⟨vs,v,(e.fzl hq).sq,h1⟩,λ x H2 y=>?_⟩
 obtain ⟨rfl,y⟩:=y
 have:=(y vs (e.fzl hq).sq).symm.trans h1
 cases this
 exact ⟨h2.mono e,.refl _ _,λ _ h=>h⟩
theorem ßy {x:Str}:JV Wd K mg (Its x) m H (x.cps.toList.map Æ5):=by
 intro m' H' e i
 refine ⟨λ w hw=>?_,λ hl=>?_⟩
 ·rw[List.getElem?_map] at hw
  cases hc:x.cps.toList[i]? with
  |none=>rw[hc] at hw;cases hw
  |some c=>
   rw[hc] at hw
   cases hw
   have hc':x.cps[i]?=some c:=by simpa using hc
   refine ⟨(Array.getElem?_eq_some_iff.mp hc').1,λ v H2 y=>?_⟩
   obtain ⟨rfl,c',h1,rfl⟩:=y
   rw[hc'] at h1
   cases h1
   exact ⟨by unfold Æ5 RV;rfl,.refl _ _,λ _ h=>h⟩
 ·show x.cps.size≤i
  simpa using hl
theorem ßz {lo:Int} {n:Nat}:JV Wd K mg (Itr lo n) m H (rng lo n):=by
 intro m' H' e i
 refine ⟨λ w hw=>?_,λ hl=>by show n≤i;simpa[rng] using hl⟩
 unfold rng at hw
 rw[List.getElem?_map] at hw
 cases hc:(List.range n)[i]? with
 |none=>rw[hc] at hw;cases hw
 |some c=>
  rw[hc] at hw
  cases hw
  obtain ⟨h1,h2⟩:=List.getElem?_eq_some_iff.mp hc
  simp at h1 h2
  subst h2
  refine ⟨h1,λ v H2 y=>?_⟩
  obtain ⟨rfl,rfl⟩:=y
  exact ⟨by unfold RV;rfl,.refl _ _,λ _ h=>h⟩
theorem Þw {n:Nat} {a:Addr} (hm:m[n]?=some a):JL Wd K mg (Itl K a) m H n:=by
 intro m' H' S ys e sm hS i
 obtain ⟨a',h1,vs,h2,h3⟩:=sm.at hS
 rw[e.get hm] at h1
 cases h1
 refine ⟨λ w hw=>?_,λ hl=>⟨vs,SqL.of h2,by rw[←h3.length];exact hl⟩⟩
 obtain ⟨v,h4,h5⟩:=h3.get hw
 refine ⟨⟨vs,v,SqL.of h2,h4⟩,λ x H2 y=>?_⟩
 obtain ⟨rfl,y⟩:=y
 have:=(y vs (SqL.of h2)).symm.trans h4
 cases this
 exact ⟨rfl,h5⟩
end
section
variable{X:Cx}{C:Cc}{pos pos' p:Pos}{a b tg iter:Expr}{es:List Expr}{fe:Exp}{fr:Arg}
theorem ÀE (ha:SE X C a fe):SI X C tg a (iE fe):=by
 refine PI.imp (PI.or (pi_list (tg:=tg) ha) (PI.or (pi_tup (tg:=tg) ha) (pi_str (tg:=tg) ha))) λ s' H R h=>?_
 obtain ⟨m,S,s,z,sim,sl,w⟩:=h
 have key:∀ {Q':V→Hp→Prop},(∀x S1 m1 H1 v,fe s S=.ok x S1→Ext m H m1 H1→ĕ X.w X.K X.mg m1 S1 H1→RV X.K X.mg m1 H1 x v→WG X.w X.K X.mg (RJ X.w X.K X.mg) (srcOf x S1) m1 H1 R (λ c d H'=>C.Wx c d s' H')→Q' v H1)→tG X.w X.K X.mg (RV X.K X.mg) C fe s' H Q':=by
  intro Q' hk
  refine ⟨m,S,s,z,sim,sl,?_⟩
  unfold iE bd at w
  cases hf:fe s S with
  |ok x S1=>rw[hf] at w;exact λ m' H' v e sm r=>hk x S1 m' H' v hf e sm r (w.shift e)
  |ex c d S1=>rw[hf] at w;exact w
  |bad=>rw[hf] at w;exact w
 cases hf:fe s S with
 |ok x S1=>
  cases x with
  |tup xs=>
   refine .inr (.inl (key λ y S2 m1 H1 v e0 e sm r w1=>?_))
   rw[hf] at e0;cases e0
   unfold RV at r
   obtain ⟨q,vs,rfl,h1,h2⟩:=r
   exact ⟨q,rfl,⟨vs,h1⟩,w1.ok sm (ßx h1 h2)⟩
  |fl xs=>
   refine .inl (key λ y S2 m1 H1 v e0 e sm r w1=>?_)
   rw[hf] at e0;cases e0
   unfold RV at r
   obtain ⟨q,vs,rfl,h1,h2⟩:=r
   exact ⟨q,rfl,⟨vs,h1.sq⟩,w1.ok sm (áY h1 h2)⟩
  |str z=>
   refine .inr (.inr (key λ y S2 m1 H1 v e0 e sm r w1=>?_))
   rw[hf] at e0;cases e0
   unfold RV at r
   exact ⟨z,r,w1.ok sm ßy⟩
  |ref n=>
   refine .inl (key λ y S2 m1 H1 v e0 e sm r w1=>?_)
   rw[hf] at e0;cases e0
   unfold RV at r
   obtain ⟨q,h1,rfl⟩:=r
   unfold srcOf at w1
   simp only at w1
   split at w1
   ·rename_i ys hn
    obtain ⟨q',h2,vs,h3,h4⟩:=sm.at hn
    rw[h1] at h2;cases h2
    exact ⟨q,rfl,⟨vs,SqL.of h3⟩,w1.ok sm (Þw h1)⟩
   ·exact False.elim w1
  |_=>
   exfalso
   unfold iE bd at w
   rw[hf] at w
   exact w
 |ex c d S1=>exact .inl (key λ y S2 m1 H1 v e0 e sm r w1=>by rw[hf] at e0;cases e0)
 |bad=>exact .inl (key λ y S2 m1 H1 v e0 e sm r w1=>by rw[hf] at e0;cases e0)
theorem Æb (hg:Gl X "range") (hm:X.mg "range" =none) (ha:SA X C [a] fr) (hs:starEach [a] X.env=[(false,eval a X.env)]:=by rfl):SI X C tg (.Call (.Name "range" p) [a] [] pos) (iR1 fr):=by
 refine PI.imp (pi_range1 (tg:=tg) hg hm ha hs) λ s' H R h=>?_
 refine tG.bind h λ m1 S1 s H1 x v z s1 l1 r1 w1=>?_
 split at w1
 ·rename_i j
  split at w1
  ·rename_i hj
   obtain ⟨v1,vr,rfl,h1,h2⟩:=r1.uncons
   unfold RV at h1
   rw[h2.nil_inv,h1]
   exact ⟨j,rfl,(ÝE hj).1,(ÝE hj).2,w1.ok s1 ßz⟩
  ·exact False.elim w1
 ·exact False.elim w1
def Èd (n:Nat) (c:ï) (b:Ì):Ì:=ÁB c b n
theorem ÔS {n:Nat} {c:Expr} {ft:ï} {fb:Ì} {body:List Stmt} (hp:PassesOwn (model X.prog X.w) X.A X.env X.xe) (hc:ST X C c ft) (hb:SB X C body fb):SS X C (.While c body [] pos) (Èd n ft fb):=by
 refine PS.imp (ps_while hp hc hb) λ D s' H h=>?_
 obtain ⟨m,S,s,z,sim,sl,w⟩:=h
 refine ⟨λ k t H=>∃ m S s,C.Z t∧ĕ X.w X.K X.mg m S H∧RSl X.K X.mg m H s t∧WS X.w X.K X.mg (ÁB ft fb k s S) m H D C,⟨n,m,S,s,z,sim,sl,w⟩,?_⟩
 rintro k t H1 ⟨m1,S1,s1,z1,sm1,l1,w1⟩
 cases k with
 |zero=>exact False.elim w1
 |succ k=>
  unfold ÁB at w1
  refine ⟨m1,S1,s1,z1,sm1,l1,w1.â z1 l1 λ q S2 m2 H2 v e2 sm2 r w2=>?_⟩
  cases r
  cases q with
  |false=>rw[if_neg Bool.false_ne_true];rw[if_neg Bool.false_ne_true] at w2;exact w2.nx z1 sm2 (l1.mono e2)
  |true=>
   rw[if_pos rfl]
   rw[if_pos rfl] at w2
   refine ⟨λ t H=>∃ m S s,C.Z t∧ĕ X.w X.K X.mg m S H∧RSl X.K X.mg m H s t∧WS X.w X.K X.mg (ÁB ft fb k s S) m H D C,λ t' H' hN=>⟨k,Nat.lt_succ_self _,hN⟩,m2,S2,s1,z1,sm2,l1.mono e2,?_⟩
   cases hf:fb s1 S2 with
   |nx s3 S3=>rw[hf] at w2;exact λ m3 H3 t e z s l=>⟨m3,S3,s3,z,s,l,w2.shift e⟩
   |ct s3 S3=>rw[hf] at w2;exact λ m3 H3 t e z s l=>⟨m3,S3,s3,z,s,l,w2.shift e⟩
   |bk s3 S3=>rw[hf] at w2;exact w2
   |rt u S3=>rw[hf] at w2;exact w2
   |ex c d s3 S3=>rw[hf] at w2;exact w2
   |bad=>rw[hf] at w2;exact w2
end
def spM (Wd:World) (K:PySem.W.Frag) (mg:Str→Option Value) (n:Nat) (F:Fn):Sp:=λ vs H Q E=>
 ∃m S ws,ĕ Wd K mg m S H∧î K mg m H ws vs∧ws.length=n∧WG Wd K mg (RV K mg) (F ws S) m H Q E
abbrev FnM (P:Program) (w:World) (K:PySem.W.Frag) (mg:Str→Option Value) (base:Heap) (k:Nat) (f:Addr) (fd:FuncData) (ps:List Str) (F:Fn):Prop:=FnOk P w K mg base (L2.CX P w) k f fd ps (spM w K mg ps.length F)
abbrev cE (E:XK):Cc:=⟨λ _=>True,λ cls d _ H=>E cls d H⟩
abbrev cW (W:WX):Cc:=⟨λ _=>True,W⟩
section
variable{P:Program}{w:World}{K:PySem.W.Frag}{mg:Str→Option Value}{base:Heap}
theorem RSl.begun {m:List Addr} {H:Hp} {N:List Str} {n:Nat} {ws:List W} {vs:List V} (hn:N.length=n) (h:î K mg m H ws vs):RSl K mg m H (ws.map some++List.replicate (n-ws.length) none) (start N vs):=by
 unfold L2.start
 refine ⟨by simp[h.length,hn],λ i u hu=>?_⟩
 by_cases hi:i<ws.length
 ·rw[List.getElem?_append_left (by simpa using hi),List.getElem?_map] at hu
  cases hw:ws[i]? with
  |none=>rw[hw] at hu;cases hu
  |some w'=>
   rw[hw] at hu
   have hu':some (some w')=some (some u):=hu
   cases hu'
   obtain ⟨v,h1,h2⟩:=h.get hw
   exact ⟨v,by rw[List.getElem?_append_left (by rw[List.length_map,←h.length];exact hi),List.getElem?_map,h1];rfl,h2⟩
 ·rw[List.getElem?_append_right (by simpa using hi)] at hu
  have:=List.mem_of_getElem? hu
  simp at this
theorem fn_ok {x qual:Str} {st:Stmt} {f:Addr} {fd:FuncData} {N ps:List Str} {k n:Nat} {body:Ì} (F:Fun K x qual st f fd) (Sc:FnScope N ps (defScope st)) (hn:N.length=n)
  (hb:∀ (cdv:Value) (A:Around) (outer:List Env) (s:Shared) (H:Hp) (E:XK),Room k (A.deeper (envOfC qual (defScope st) s.heap.objs.size f cdv))→
   Takes (cxOf (L2.CX P w) P w K mg base N qual (defScope st) f cdv A outer s H E) (cE E).Wx→
   PassesOwn (model P w) (cxOf (L2.CX P w) P w K mg base N qual (defScope st) f cdv A outer s H E).A (cxOf (L2.CX P w) P w K mg base N qual (defScope st) f cdv A outer s H E).env (cxOf (L2.CX P w) P w K mg base N qual (defScope st) f cdv A outer s H E).xe→
   SB (cxOf (L2.CX P w) P w K mg base N qual (defScope st) f cdv A outer s H E) (cE E) (defBody st) body):FnM P w K mg base (k+1) f fd ps (ē n body):=by
 refine F.okX Sc (λ vs H Q E h=>?_) (λ cdv A outer s H vs Q E hr h=>?_)
 ·obtain ⟨m,S,ws,_,r,e,_⟩:=h
  rw[←r.length,e]
 ·obtain ⟨m,S,ws,sim,r,e,wn⟩:=h
  refine ⟨_,hb cdv A outer s H E hr (takes_of rfl rfl rfl rfl) (passes_of rfl),m,S,_,trivial,sim,RSl.begun hn r,?_⟩
  unfold ē at wn
  cases hf:body (ws.map some++List.replicate (n-ws.length) none) S with
  |nx s2 S2=>rw[hf] at wn;exact λ m' H' t e z sm l=>wn m' H' .non e sm (by unfold RV;rfl)
  |rt u S2=>rw[hf] at wn;exact wn
  |ex c d s2 S2=>rw[hf] at wn;exact λ m' H' t cls d' e z sm l r=>wn m' H' cls d' e sm r
  |bk s2 S2=>rw[hf] at wn;exact False.elim wn
  |ct s2 S2=>rw[hf] at wn;exact False.elim wn
  |bad=>rw[hf] at wn;exact False.elim wn
end
section
variable{X:Cx}{C:Cc}{pos pos' p p2 np:Pos}{a tg iter:Expr}{es:List Expr}{fe:Exp}{fr:Arg}
theorem ą {F:Fn} {k:Nat} {f:Addr} {fd:FuncData} {ps:List Str} {x:Str} (G:FnM X.prog X.w X.K X.mg X.base k f fd ps F) (hr:Room k X.A) (hg:Gl X x) (hm:X.mg x=some (.ref f)) (hk:PySem.W.keepIn X.K (.ref f)=true) (hb:Binds X.K fd ps []) (tk:Takes X C.Wx)
  (ha:SA X C (a::es) fr) (hl:(a::es).length=ps.length:=by rfl) (hfr:∀ s S ws S',fr s S=.ok ws S'→ws.length=(a::es).length)
  (hdb:(x==("__debug__" :Str))=false:=by decide) (he:starEach (a::es) X.env=(false,eval a X.env)::starEach es X.env:=by rfl) (hpl:(backTo pos (starEach es X.env)).any (·.1)=false:=by rfl):
  SE X C (.Call (.Name x p) (a::es) [] pos) (Ò F fr):=by
 refine PE.imp (pe_callS (E:=L2.WE C.Wx) G hr hg hm hk hb (λ σ=>passAt tk σ) ha hdb he hpl) λ s' H Q h=>?_
 obtain ⟨m,S,s,z,sim,sl,w⟩:=h
 refine ⟨m,S,s,z,sim,sl,?_⟩
 unfold Ò bd at w
 cases hf:fr s S with
 |ok ws S1=>
  rw[hf] at w
  exact λ m' H' vs e sm r=>⟨m',S1,ws,sm,r,by rw[hfr s S ws S1 hf];exact hl,w.shift e⟩
 |ex c d S1=>rw[hf] at w;exact w
 |bad=>rw[hf] at w;exact w
theorem Ö:∀ (s:Sl) (S:Å) (ws:List W) (S':Å),Ä s S=.ok ws S'→ws.length=0:=by
 intro s S ws S' h
 unfold Ä rt at h
 cases h;rfl
theorem Ç {n:Nat} (h:∀ (s:Sl) (S:Å) (ws:List W) (S':Å),fr s S=.ok ws S'→ws.length=n):∀ (s:Sl) (S:Å) (ws:List W) (S':Å),Á fe fr s S=.ok ws S'→ws.length=n+1:=by
 intro s S ws S' e
 unfold Á bd at e
 cases h1:fe s S with
 |ok x S1=>
  rw[h1] at e
  simp only at e
  cases h2:fr s S1 with
  |ok xs S2=>
   rw[h2] at e
   simp only[rt] at e
   cases e
   simp[h s S1 xs _ h2]
  |ex c d S2=>rw[h2] at e;cases e
  |bad=>rw[h2] at e;cases e
 |ex c d S1=>rw[h1] at e;cases e
 |bad=>rw[h1] at e;cases e
theorem Ä6 {x msg:Str} {j:Nat} {A:Addr} (hc:X.calm=true) (tk:Takes X C.Wx) (q:PySem.W.excIn X.K A [.type "ValueError",.type "Exception",.type "BaseException",.type "object"] "ValueError.__new__" =true) (gC:X.mg x=some (.ref A))
  (kC:PySem.W.keepIn X.K (.ref A)=true) (h1:PySem.W.subIn X.K (.ref A) (.type "BaseException")=some true) (h2:PySem.W.typeIn X.K (.ref A)=some (.type "type")) (hg:Gl X x) (hdb:(x==("__debug__" :Str))=false:=by decide):
  SS X C (.Raise (some (.Call (.Name x p) [.Constant (.str msg) j p2] [] pos)) none pos') (Ĥ x):=by
 refine PS.imp (ps_raise hc tk (pmk_own PySem.F.excBase_ValueError q gC kC (raises_own h1 h2) hg hdb)) λ D s' H h=>?_
 obtain ⟨m,S,s,z,sim,sl,w⟩:=h
 exact w m H s' _ _ (.refl _ _) z sim sl ⟨⟨A,rfl,gC⟩,trivial⟩
def ÔT (K:PySem.W.Frag) (mg:Str→Option Value) (tab:List (Str×Bool)) (c:Value):Prop:=∀ x b A,Ãz tab x=some b→mg x=some (.ref A)→PySem.W.exmOne K (.ref A) c=some b
theorem ÛT {K:PySem.W.Frag} {mg:Str→Option Value} {c:Value}:ÔT K mg [] c:=λ _ _ _ h=>nomatch h
theorem ÊA {K:PySem.W.Frag} {mg:Str→Option Value} {c:Value} {x:Str} {b:Bool} {A:Addr} {tab:List (Str×Bool)} (g:mg x=some (.ref A)) (e:PySem.W.exmOne K (.ref A) c=some b) (t:ÔT K mg tab c):ÔT K mg ((x,b)::tab) c:=λ y b' A' h hy=>by
 unfold Ãz at h
 split at h
 ·rename_i q
  subst q
  cases h
  rw[g] at hy
  cases hy
  exact e
 ·exact t y b' A' h hy
theorem PSs.ex {ι:Type} {sts:List Stmt} {t:ι→TS} (h:∀ i,PSs X sts (t i)):PSs X sts (λ D s H=>∃ i,t i D s H):=⟨λ pins s σ H D I ⟨i,q⟩=>(h i).run pins s σ H D I q⟩
def ÔU (d:Option (List (Str×W))) (s:Ì):Ì:=match d with
 |none=>s
 |some _=>λ _ _=>.bad
theorem ßB {P:Program} {w:World} {K:PySem.W.Frag} {mg:Str→Option Value} {base:Heap} {k:Nat} {f:Addr} {fd:FuncData} {ps:List Str}:FnM P w K mg base k f fd ps (λ _=>bad):=by
 refine ⟨λ vs H Q E h=>?_,λ A outer s H args us vs Q E _ _ _ _ h=>?_⟩
 ·obtain ⟨m,S,ws,_,_,_,w⟩:=h
  exact False.elim w
 ·obtain ⟨m,S,ws,_,_,_,w⟩:=h
  exact False.elim w
abbrev cS:Cc:=⟨λ _=>True,λ _ _ _ _=>False⟩
theorem ÔV {x:Str} {c:Value} {body suite:List Stmt} {b0:Stmt} {fb:Ì} {tab:List (Str×Bool)} {su:Str→Option (List (Str×W))→Ì} (hZ:C.Z=λ _=>True) (hc:Names X x c) (tk:Takes X C.Wx) (ht:ÔT X.K X.mg tab c)
  (hb:∀ (W:WX) (pn:List (Addr×Obj)) (xe:Value→Shared→Prop),Takes (X.tr pn xe) W→PassesOwn (model X.prog X.w) X.A X.env xe→SB (X.tr pn xe) (cW W) body fb)
  (hsu:∀ (a:Addr) (oe:Obj) (A:Addr) (d:Option Addr) (pn:List (Addr×Obj)) (n:Str) (dd:Option (List (Str×W))),Zc (.ref A) d oe→(∃vs,oe.data=.fields vs)→Ãz tab n=some true→X.mg n=some (.ref A)→SB (X.suite a ((a,oe)::pn)) cS (b0::suite) (su n dd))
  (hs:X.stack=X.env::X.outer:=by rfl) (hf:X.env.frame=some X.env.locals:=by rfl):
  SS X C (.Try body [.ExceptHandler (some (.Name x np)) none (b0::suite) pos'] [] [] pos) (Ç5 fb tab su):=by
 refine PS.imp (ps_try_only (tb:=λ W=>tS X.w X.K X.mg (cW W) fb)
  (ts:=λ a cls d=>λ D s' H=>∃ i:Str×Option (List (Str×W)),((∃A,cls=.ref A∧X.mg i.1=some (.ref A))∧Ãz tab i.1=some true)∧tS X.w X.K X.mg cS (su i.1 i.2) D s' H) hs hf hc tk (λ W pn xe t po=>hb W pn xe t po)
  (λ a oe cls d pn hz hfl=>?_)) λ D s' H h=>?_
 ·refine PSs.ex λ i=>⟨λ pins s σ H D I ⟨⟨⟨A,h1,h2⟩,h3⟩,q⟩=>?_⟩
  subst h1
  exact (hsu a oe A d pn i.1 i.2 hz hfl h3 h2).run pins s σ H D I q
 ·obtain ⟨m,S,s,z,sim,sl,w⟩:=h
  refine ⟨m,S,s,trivial,sim,sl,?_⟩
  have hz':∀ t,C.Z t:=λ t=>by rw[hZ];trivial
  unfold Ç5 at w
  cases hf:fb s S with
  |nx s2 S2=>rw[hf] at w;exact λ m' H' t e _ sm l=>w m' H' t e (hz' t) sm l
  |bk s2 S2=>rw[hf] at w;exact λ m' H' t e _ sm l=>w m' H' t e (hz' t) sm l
  |ct s2 S2=>rw[hf] at w;exact λ m' H' t e _ sm l=>w m' H' t e (hz' t) sm l
  |rt u S2=>rw[hf] at w;exact w
  |bad=>rw[hf] at w;exact w
  |ex cn d s2 S2=>
   rw[hf] at w
   intro m' H' t cls d' e _ sm l r
   obtain ⟨A,rfl,hA⟩:=r.1
   simp only at w
   cases hl:Ãz tab cn with
   |none=>rw[hl] at w;exact False.elim w
   |some b=>
    rw[hl] at w
    refine ⟨b,ht cn b A hl hA,λ hb1 a na=>?_,λ hb0=>?_⟩
    ·subst hb1
     refine ⟨(cn,d),⟨⟨A,rfl,hA⟩,hl⟩,m',S2,s2,trivial,sm,l,?_⟩
     have w':=w.shift e
     simp only at w'
     cases Ò9:su cn d s2 S2 with
     |nx s3 S3=>rw[Ò9] at w';exact λ m3 H3 t3 e3 _ sm3 l3=>w' m3 H3 t3 e3 (hz' _) sm3 l3
     |bk s3 S3=>rw[Ò9] at w';exact λ m3 H3 t3 e3 _ sm3 l3=>w' m3 H3 t3 e3 (hz' _) sm3 l3
     |ct s3 S3=>rw[Ò9] at w';exact λ m3 H3 t3 e3 _ sm3 l3=>w' m3 H3 t3 e3 (hz' _) sm3 l3
     |rt u S3=>rw[Ò9] at w';exact w'
     |bad=>rw[Ò9] at w';exact w'
     |ex c3 d3 s3 S3=>rw[Ò9] at w';exact False.elim w'
    ·subst hb0
     exact w m' H' t _ d' e (hz' _) sm l r
end
end Fr
namespace Fr
open PySem PySem.Spec PyProof.Rows L2
def getL (S:Å):W→Option (List W)
 | .ref n=>match S[n]? with
  |some (.lst xs)=>some xs
  |_=>none
 | .fl xs=>some xs
 |_=>none
def ĉ (x y:W):M W:=match x,y with
 | .int i,.int j=>rt (.int (i+j))
 | .str a,.str b=>if a.length+b.length≤sizeLine then rt (.str (a++b)) else bad
 | .tup a,.tup b=>if a.length+b.length≤sizeLine then rt (.tup (a++b)) else bad
 | .ref l,.ref r=>λ S=>match S[l]?,S[r]? with
  |some (.lst xs),some (.lst ys)=>if xs.length+ys.length≤sizeLine then new (.lst (xs++ys)) S else .bad
  |_,_=>.bad
 |_,_=>bad
def Æ6 (x y:W):M W:=match x,y with
 | .int i,.int j=>rt (.int (i-j))
 |_,_=>bad
def ÀT (a:Str) (n:Nat):Str:=⟨(List.replicate n a.cps).foldl (·++ ·) #[]⟩
def mulM (x y:W):M W:=match x,y with
 | .int i,.int j=>if (inR 18446744073709551615 i||inR 18446744073709551615 j)=true then rt (.int (i*j)) else bad
 | .str a,.int n=>if 0≤n∧n≤1000∧1≤a.length∧a.length≤1000 then rt (.str (ÀT a n.toNat)) else bad
 | .ref l,.int k=>λ S=>match S[l]? with
  |some (.lst xs)=>if inR 9223372036854775807 k=true∧xs.length*k.toNat≤sizeLine then new (.lst (List.replicate k.toNat xs).flatten) S else .bad
  |_=>.bad
 | .tup xs,.int k=>if xs.isEmpty=false∧0≤k∧k≤1000∧xs.length≤1000 then rt (.tup (List.replicate k.toNat xs).flatten) else bad
 |_,_=>bad
def Âp (x y:W):M W:=match x,y with
 | .int i,.int j=>if j≠0 then rt (.int (i.fmod j)) else bad
 |_,_=>bad
def È4 (x y:W):M W:=match x,y with
 | .int i,.int j=>if j≠0∧j.natAbs<1073741824 then rt (.int (i.fdiv j)) else bad
 |_,_=>bad
def Ñr (x y:W):M W:=match x,y with
 | .int i,.int j=>if 0≤j∧j≤1000000∧i.natAbs<2 ^ 64 then rt (.int (i ^ j.toNat)) else bad
 |_,_=>bad
def ÛU (x y:W):M W:=match x,y with
 | .int i,.int j=>if 0≤j then rt (.int (i/2 ^ j.toNat)) else bad
 |_,_=>bad
def ÝH (x y:W):M W:=match x,y with
 | .int i,.int j=>rt (.int (Builtin.bitAnd i j))
 |_,_=>bad
def ÛV (x:W):M W:=match x with
 | .int i=>rt (.int (-i))
 |_=>bad
def ltM (x y:W):M W:=match x,y with
 | .int i,.int j=>rt (.bl (decide (i<j)))
 |_,_=>bad
def leM (x y:W):M W:=match x,y with
 | .int i,.int j=>rt (.bl (decide (i≤j)))
 |_,_=>bad
def gtM (x y:W):M W:=match x,y with
 | .int i,.int j=>rt (.bl (decide (j<i)))
 |_,_=>bad
def geM (x y:W):M W:=match x,y with
 | .int i,.int j=>rt (.bl (decide (j≤i)))
 |_,_=>bad
def eqW:W→W→Option Bool
 | .non,.non=>some true
 | .int i,.int j=>some (decide (i=j))
 | .bl i,.bl j=>some (decide (i=j))
 | .str i,.str j=>some (decide (i=j))
 | .non,.int _=>some false
 | .int _,.non=>some false
 | .non,.bl _=>some false
 | .bl _,.non=>some false
 | .non,.str _=>some false
 | .str _,.non=>some false
 | .int _,.str _=>some false
 | .str _,.int _=>some false
 | .bl _,.str _=>some false
 | .str _,.bl _=>some false
 |_,_=>none
def Âq (f:W→Option PyData):List W→Option (List PyData)
 | []=>some []
 |w::ws=>match f w,Âq f ws with
  |some d,some ds=>some (d::ds)
  |_,_=>none
def toD (S:Å):Nat→W→Option PyData
 |0,_=>none
 |n+1,w=>match w with
  | .non=>some .none
  | .bl b=>some (.bool b)
  | .int i=>some (.int i)
  | .str x=>some (.str x)
  | .tup xs=>(Âq (toD S n) xs).map .tuple
  | .fl xs=>(Âq (toD S n) xs).map .list
  | .ref k=>match S[k]? with
   |some (.lst xs)=>(Âq (toD S n) xs).map .list
   |_=>none
  |_=>none
def Ė (x y:W):M W:=match eqW x y with
 |some b=>rt (.bl b)
 |none=>λ S=>match toD S 40 x,toD S 40 y with
  |some d,some e=>if (SeqAt.shaped d&&SeqAt.shaped e)=true then .ok (.bl (PyData.eqv d e)) S else .bad
  |_,_=>.bad
def neM (x y:W):M W:=match eqW x y with
 |some b=>rt (.bl !b)
 |none=>λ S=>match toD S 40 x,toD S 40 y with
  |some d,some e=>if (SeqAt.shaped d&&SeqAt.shaped e)=true then .ok (.bl !(PyData.eqv d e)) S else .bad
  |_,_=>.bad
def œ (x y:W):M W:=match x,y with
 | .non,.non=>rt (.bl true)
 |_,.non=>rt (.bl false)
 |_,_=>bad
def ā (x y:W):M W:=match x,y with
 | .non,.non=>rt (.bl false)
 |_,.non=>rt (.bl true)
 |_,_=>bad
def Ê2 (i j:Str):Bool:=!(Builtin.Str.occurrences j i 0 j.length 1).isEmpty
def ÃA:W→Bool
 | .non=>true
 | .bl _=>true
 | .int _=>true
 | .str _=>true
 |_=>false
def eqF:W→W→Bool
 | .non,.non=>true
 | .bl i,.bl j=>i==j
 | .int i,.int j=>i==j
 | .str i,.str j=>i==j
 | .bl i,.int j=>(if i then 1 else 0)==j
 | .int j,.bl i=>j==(if i then 1 else 0)
 |_,_=>false
def inM (x y:W):M W:=match x,y with
 | .str i,.str j=>rt (.bl (Ê2 i j))
 |_,_=>bad
def ßD (x y:W):M W:=match x,y with
 | .str i,.str j=>rt (.bl !(Ê2 i j))
 |_,_=>bad
def ã (x y:W):M W:=match x,y with
 | .tup xs,.int i=>match atI xs i with
  |some w=>rt w
  |none=>bad
 | .fl xs,.int i=>match atI xs i with
  |some w=>rt w
  |none=>bad
 | .str z,.int i=>if z.length≤sizeLine then (match atI z.cps.toList i with
  |some c=>rt (Æ5 c)
  |none=>bad) else bad
 | .ref n,.int i=>λ S=>match S[n]? with
  |some (.lst xs)=>match atI xs i with
   |some w=>.ok w S
   |none=>.bad
  |_=>.bad
 |_,_=>bad
def Èz (xs:List W) (lo hi:Option Int):List W:=(xs.drop (HT.sIx xs.length 0 lo)).take (HT.sIx xs.length xs.length hi-HT.sIx xs.length 0 lo)
def slM (x:W) (lo hi:Option Int):M W:=match x with
 | .str z=>if z.length≤sizeLine then rt (.str (cutS z lo hi)) else bad
 | .tup xs=>rt (.tup (Èz xs lo hi))
 | .fl xs=>new (.lst (Èz xs lo hi))
 | .ref n=>λ S=>match S[n]? with
  |some (.lst xs)=>new (.lst (Èz xs lo hi)) S
  |_=>.bad
 |_=>bad
def ö (xs:List W):M W:=match xs with
 | [.str z]=>if z.length≤sizeLine then rt (.int z.length) else bad
 | [.tup ys]=>rt (.int ys.length)
 | [.fl ys]=>rt (.int ys.length)
 | [.ref n]=>λ S=>match S[n]? with
  |some (.lst ys)=>.ok (.int ys.length) S
  |_=>.bad
 |_=>bad
def ÃK (xs:List W):M W:=match xs with
 | [.int i]=>rt (.int i)
 | [.bl b]=>rt (.int (if b then 1 else 0))
 | [.str a]=>match PySem.intText? a with
  |some n=>if a.length≤640 then rt (.int n) else bad
  |none=>bad
 |_=>bad
def tyN (S:Å):W→Option String
 | .non=>some "NoneType"
 | .bl _=>some "bool"
 | .int _=>some "int"
 | .str _=>some "str"
 | .tup _=>some "tuple"
 | .fl _=>some "list"
 | .ref n=>match S[n]? with
  |some (.lst _)=>some "list"
  |some (.dK _)=>some "dict"
  |some (.dT _)=>some "dict"
  |_=>none
 |_=>none
def ú (xs:List W):M W:=match xs with
 | [x,.ty n]=>λ S=>match tyN S x with
  |some t=>match kitB t n with
   |some b=>.ok (.bl b) S
   |none=>.bad
  |none=>.bad
 |_=>bad
def tyM (T:String) (x:W) (S:Å):Bool:=match x with
 | .str _=>T== "str"
 | .int _=>T== "int"
 | .fl _=>T== "list"
 | .ref n=>match S[n]? with
  |some (.lst _)=>T== "list"
  |some (.dK _)=>T== "dict"
  |some (.dT _)=>T== "dict"
  |_=>false
 |_=>false
def eM (T:String) (f:W→List W→M W) (o:Exp) (a:Arg):Exp:=λ s=>bd (o s) λ x S=>if tyM T x S=true then bd (a s) (f x) S else .bad
def Âd (x:W) (ys:List W):M W:=match x,ys with
 | .ref n,[y]=>λ S=>match S[n]? with
  |some (.lst xs)=>if xs.length<sizeLine then .ok .non (S.set n (.lst (xs++[y]))) else .bad
  |_=>.bad
 |_,_=>bad
def Óa (x:W) (ys:List W):M W:=match x,ys with
 | .ref n,[]=>λ S=>match S[n]? with
  |some (.lst xs)=>match xs[xs.length-1]? with
   |some y=>.ok y (S.set n (.lst xs.dropLast))
   |none=>.bad
  |_=>.bad
 |_,_=>bad
def ÉU (x:W) (ys:List W):M W:=match x,ys with
 | .ref n,[]=>λ S=>match S[n]? with
  |some (.lst xs)=>.ok .non (S.set n (.lst xs.reverse))
  |_=>.bad
 |_,_=>bad
def splitM (x:W) (ys:List W):M W:=match x,ys with
 | .str a,[.str b]=>if (b.length==0)=false∧a.length+2≤sizeLine then new (.lst ((Txt.split a b).map .str)) else bad
 |_,_=>bad
def itemsOf (S:Å):W→Option (List W)
 | .tup xs=>some xs
 |w=>getL S w
def Ób (x:W) (ys:List W):M W:=match x,ys with
 | .str a,[.str b]=>match Txt.index0 a b with
  |some k=>rt (.int k)
  |none=>bad
 |_,_=>bad
def Øp (x:W) (ys:List W):M W:=match x,ys with
 | .str a,[.str b]=>rt (.bl (Txt.startswith a b))
 |_,_=>bad
def ÝI (x:W) (ys:List W):M W:=match x,ys with
 | .str a,[.str b]=>rt (.bl (Txt.endswith a b))
 |_,_=>bad
section
variable{Wd:World}{K:PySem.W.Frag}{mg:Str→Option Value}{m:List Addr}{H:Hp}{S:Å}
theorem Þx (s:ĕ Wd K mg m S H) {w:W} {v:V} {xs:List W} (r:RV K mg m H w v) (h:getL S w=some xs):∃ a vs,v=.ref a∧SqL K H a vs∧î K mg m H xs vs:=by
 cases w with
 |ref n=>
  unfold getL at h
  simp only at h
  split at h
  ·rename_i ys hn
   cases h
   obtain ⟨a,h1,vs,h2,h3⟩:=s.at hn
   unfold RV at r
   obtain ⟨a',h4,rfl⟩:=r
   rw[h1] at h4;cases h4
   exact ⟨a,vs,rfl,SqL.of h2,h3⟩
  ·cases h
 |fl ys=>
  unfold getL at h
  cases h
  unfold RV at r
  obtain ⟨p,vs,rfl,h1,h2⟩:=r
  exact ⟨p,vs,rfl,h1.sq,h2⟩
 |_=>cases h
theorem ÆB (s:ĕ Wd K mg m S H) {n:Nat} {v:V} {xs:List W} (r:RV K mg m H (.ref n) v) (h:S[n]?=some (.lst xs)):∃ a vs,m[n]?=some a∧v=.ref a∧H a=some (.lst vs)∧î K mg m H xs vs:=by
 obtain ⟨a,h1,vs,h2,h3⟩:=s.at h
 unfold RV at r
 obtain ⟨a',h4,rfl⟩:=r
 rw[h1] at h4;cases h4
 exact ⟨a,vs,h1,rfl,h2,h3⟩
theorem è {i:Int} {v:V}:RV K mg m H (.int i) v↔v=.int i:=by unfold RV;exact Iff.rfl
theorem Ī {i:Str} {v:V}:RV K mg m H (.str i) v↔v=.str i:=by unfold RV;exact Iff.rfl
theorem Ň {i:Bool} {v:V}:RV K mg m H (.bl i) v↔v=.bl i:=by unfold RV;exact Iff.rfl
theorem Äh {v:V}:RV K mg m H .non v↔v=.non:=by unfold RV;exact Iff.rfl
theorem ż {xs:List W} {v:V}:RV K mg m H (.tup xs) v↔∃ p vs,v=.ref p∧SqT K H p vs∧î K mg m H xs vs:=by unfold RV;exact Iff.rfl
theorem WG.set {Q:VK} {E:XK} {n:Nat} {a:Addr} {vs vs':List V} {xs':List W} {w:W} {v:V} (g:WG Wd K mg (RV K mg) (.ok w (S.set n (.lst xs'))) m H Q E) (s:ĕ Wd K mg m S H) (hm:m[n]?=some a) (hp:H a=some (.lst vs)) (r:î K mg m H xs' vs') (rw':RV K mg m H w v):Q v (upd H a (.lst vs')):=by
 have e:Ext m H m (upd H a (.lst vs')):=Ext.chg hp (λ _ z=>nomatch z) (λ _ _ z=>nomatch z)
 exact g m _ v e (s.chg hm hp (λ _ z=>nomatch z) (λ _ _ z=>nomatch z) ⟨vs',upd_same,r.mono e⟩) (rw'.mono e)
end
theorem Ít (A:Array Nat):∀ (n:Nat) (acc:Array Nat),((List.replicate n A).foldl (·++ ·) acc).size=acc.size+n*A.size
 |0,acc=>by simp
 |n+1,acc=>by
  rw[List.replicate_succ,List.foldl_cons,Ít A n,Array.size_append,Nat.succ_mul]
  omega
theorem Ôl (a:Str) (n:Nat):(ÀT a n).length=n*a.length:=by
 unfold ÀT Str.length
 rw[Ít]
 simp
theorem ÛW (a:Str):ÀT a 1=a:=by
 unfold ÀT
 have:(List.replicate 1 a.cps).foldl (·++ ·) #[]=a.cps:=by simp
 rw[this]
theorem Þy {X:Cx}:OpR X (binaryOp .Mult) (λ x y H Q=>∃ a n,x=.str a∧y=.int n∧(0≤n∧n≤1000∧1≤a.length∧a.length≤1000)∧Q (.str (ÀT a n.toNat)) H):=by
 intro pins s σ H x y v u Q I rx ry h
 obtain ⟨a,n,rfl,rfl,⟨h1,h2,h3,h4⟩,q⟩:=h
 obtain ⟨t,rfl⟩:=rx
 obtain ⟨t',rfl⟩:=ry
 refine P.mul_str ?_ (λ g _=>?_) (λ g _=>?_) ?_
 ·rw[decide_eq_false (by omega),decide_eq_false (by omega)];rfl
 ·intro hh
  have hn:(0:Int)<n:=by omega
  have h5:((2:Int) ^ 63-1)/n≥1000:=by
   refine Int.le_ediv_of_mul_le hn ?_
   have:(1000:Int)*n≤1000*1000:=by omega
   omega
  omega
 ·have:a.length*n.toNat≤1000*1000:=Nat.mul_le_mul h4 (by omega)
  have hs:sizeLine=16777216:=sizeLine_eq
  unfold PySem.Builtin.Str.tooLong
  rw[hs]
  first |(simp only[decide_eq_false_iff_not];omega) |(simp;omega)
 ·by_cases g0:n<1
  ·have:n=0:=by omega
   subst this
   rw[if_pos g0]
   exact ⟨by decide,⟨.str _,H,I.tok _,⟨_,rfl⟩,q⟩⟩
  ·rw[if_neg g0]
   by_cases g1:n=1
   ·subst g1
    rw[if_pos (by simp)]
    have e:ÀT a (1:Int).toNat=a:=ÛW a
    rw[e] at q
    exact ⟨.str a,H,I,⟨t,rfl⟩,q⟩
   ·have e1:(n==1||a.length==0)=false:=by
     have:a.length≠0:=by omega
     simp[*]
    rw[e1,if_neg Bool.false_ne_true]
    refine ⟨?_,⟨.str _,H,I.tok _,⟨_,rfl⟩,q⟩⟩
    have hl:=Ôl a n.toNat
    have hs:sizeLine=16777216:=sizeLine_eq
    have:n.toNat*a.length≤1000*1000:=Nat.mul_le_mul (by omega) h4
    show (ÀT a n.toNat).length≤sizeLine
    omega
end Fr
namespace Fr
open PySem PySem.Spec PyProof.Rows L2
def Ùp (l:Addr) (its:Array Value) (ob:Obj) (s:Shared):Prop:=s.heap.get? l=some ob∧ob.cls=.type "tuple" ∧∃ n,ob.data=.seq its n
theorem Þz (l:Addr) (its:Array Value) (ob:Obj) (u:Tok):Meets (Builtin.«tuple.__mul__» ⟨[.ref l,.int 1 u],[]⟩) (λ _ R s=>Ùp l its ob s∧R (.ok (.ret (.ref l))) s):=by
 refine .of_wp λ prog w A R s h=>?_
 obtain ⟨⟨h1,h2,n,h3⟩,hr⟩:=h
 obtain ⟨c,dd,dt,sl⟩:=ob
 cases h2
 cases h3
 obtain ⟨hp,g,d,tk,os⟩:=s
 have ix:=AutoSeq1.idx_int
 wp_walk using wpAny_loadPart' h1
 exact ⟨_,rfl,hr⟩
theorem ÞA (l:Addr) (its:Array Value) (ob:Obj) (u:Tok) (hne:its.isEmpty=false):Meets (Builtin.«tuple.__mul__» ⟨[.ref l,.int 0 u],[]⟩) (λ _ R s=>Ùp l its ob s∧R (.ok (.ret (.ref s.heap.objs.size))) {s with heap:=s.heap.push {cls:=.type "tuple",data:=.seq #[]}}):=by
 refine .of_wp λ prog w A R s h=>?_
 obtain ⟨⟨h1,h2,n,h3⟩,hr⟩:=h
 obtain ⟨c,dd,dt,sl⟩:=ob
 cases h2
 cases h3
 obtain ⟨hp,g,d,tk,os⟩:=s
 have ix:=AutoSeq1.idx_int
 wp_walk using wpAny_loadPart' h1
 exact ⟨_,rfl,hr⟩
section
variable{X:Cx}
def Úy (K:PySem.W.Frag):R2:=λ x y H Q=>∃ l k xs,x=.ref l∧y=.int k∧SqT K H l xs∧xs≠ []∧((k=1∧Q (.ref l) H)∨(k=0∧∀ p,H p=none→Q (.ref p) (upd H p (.tup []))))
theorem ÛX:OpR X (binaryOp .Mult) (Úy X.K):=by
 rintro pins s σ H _ _ v u Q I rx ry ⟨l,k,xs,rfl,rfl,sq,ne,way⟩
 obtain ⟨tok,rfl⟩:∃ t,u=Value.int k t:=ry
 obtain rfl:v=Value.ref l:=rx
 obtain ⟨its,vals,isT,_⟩:=I.tuple sq
 obtain ⟨ob,at_,cl,n,da⟩:=isT
 have len:=vals.length
 have some_:its.toArray.isEmpty=false:=by
  cases its with
  |cons a r=>rfl
  |nil=>exact absurd (List.eq_nil_of_length_eq_zero len) ne
 have isInt:∀ s':Shared,s'.TypeIs (.int k tok) "int" :=λ s'=>typeIs_int s' k tok
 have tup:s.TypeIs (.ref l) "tuple" :=⟨ob,at_,cl⟩
 refine wpAny_binaryOp_repeat_ref (T:= "tuple") (U:= "int") (by decide) tup isInt noFill_tuple_mul F.fills_int_mul F.slot_int_rmul repeat_tuple F.slot_int_index.lookup ?_
 obtain ⟨c,dd,dt,sl⟩:=ob
 cases cl
 cases da
 refine call_meets F.slot_int_rmul (isInt s) F.entry_int_rmul (F.args_int_rmul_2 _ _) (int_rmul_tuple k tok l its.toArray n dd sl) ⟨at_,rfl,tup,?_⟩
 have tm:Ùp l its.toArray {cls:=.type "tuple",dict:=dd,data:=.seq its.toArray n,slots:=sl} s:=⟨at_,rfl,n,rfl⟩
 rcases way with ⟨rfl,q⟩ |⟨rfl,q⟩
 ·exact call_meets F.slot_tuple_mul tup F.entry_tuple_mul (F.args_tuple_mul_2 _ _) (Þz l _ _ tok) ⟨tm,.ref l,H,I,rfl,q⟩
 ·refine call_meets F.slot_tuple_mul tup F.entry_tuple_mul (F.args_tuple_mul_2 _ _) (ÞA l _ _ tok some_) ⟨tm,.ref s.heap.objs.size,_,I.laid (t':=s.toks) (o:=.tup []) (λ b ob q=>Heap.get?_push_of_some _ q) (Nat.le_refl _) ?_,rfl,q _ (I.hok.fresh (Nat.le_refl _))⟩
  exact ⟨Nat.zero_le _,[],.nil,IsTup.new _ _⟩
end
end Fr
namespace Fr
open PySem PySem.Spec PyProof.Rows L2
section
variable{X:Cx}
def ÝJ (K:PySem.W.Frag):R2:=λ x y H Q=>rI0 (λ i j=>.int (i+j)) x y H Q∨(∃i j,x=.str i∧y=.str j∧i.length+j.length≤sizeLine∧Q (.str (i++j)) H)∨rCatA K x y H Q∨rCat x y H Q
theorem ÄN:OpR X (binaryOp .Add) (ÝJ X.K):=op_add.or (op_add_str.or (op_catA.or op_cat))
theorem Èr:O2 X (ÝJ X.K) ĉ:=by
 intro x y S m H v u Q E sim r1 r2 w
 unfold ĉ at w
 split at w
 ·exact .inl ⟨_,_,è.1 r1,è.1 r2,w.ok sim (è.2 rfl)⟩
 ·split at w
  ·rename_i hl
   exact .inr (.inl ⟨_,_,Ī.1 r1,Ī.1 r2,hl,w.ok sim (Ī.2 rfl)⟩)
  ·exact False.elim w
 ·split at w
  ·rename_i a b hl
   obtain ⟨p,vs,rfl,h1,h2⟩:=ż.1 r1
   obtain ⟨q,us,rfl,h3,h4⟩:=ż.1 r2
   refine .inr (.inr (.inl ⟨p,q,vs,us,rfl,rfl,h1,h3,by rw[←h2.length,←h4.length];exact hl,λ e=>?_,λ _ e=>?_,λ _ _ k hk=>?_⟩))
   ·refine w.ok sim (ż.2 ⟨q,us,rfl,h3,?_⟩)
    have h5:=h2.append h4
    rw[e] at h5;exact h5
   ·refine w.ok sim (ż.2 ⟨p,vs,rfl,h1,?_⟩)
    have h5:=h2.append h4
    rw[e,List.append_nil] at h5;exact h5
   ·exact w m _ _ (Ext.plain hk) (sim.plain hk) (ż.2 ⟨k,_,rfl,.inl (.inl upd_same),(h2.append h4).mono (Ext.plain hk)⟩)
  ·exact False.elim w
 ·try simp only at w
  split at w
  ·rename_i l r xs ys h1 h2
   split at w
   ·rename_i hl
    obtain ⟨a,vs,_,rfl,h3,h4⟩:=ÆB sim r1 h1
    obtain ⟨b,us,_,rfl,h5,h6⟩:=ÆB sim r2 h2
    refine .inr (.inr (.inr ⟨a,b,vs,us,rfl,rfl,h3,h5,by rw[←h4.length,←h6.length];exact hl,λ p hp=>?_⟩))
    exact w.new sim hp ⟨_,upd_same,(h4.append h6).mono (Ext.new hp)⟩
   ·exact False.elim w
  ·exact False.elim w
 ·exact False.elim w
theorem Ùq:O2 X (rI0 λ i j=>.int (i-j)) Æ6:=by
 intro x y S m H v u Q E sim r1 r2 w
 unfold Æ6 at w
 split at w
 ·exact ⟨_,_,è.1 r1,è.1 r2,w.ok sim (è.2 rfl)⟩
 ·exact False.elim w
def ÝK (K:PySem.W.Frag):R2:=λ x y H Q=>rI CMul (λ i j=>.int (i*j)) x y H Q∨(∃a n,x=.str a∧y=.int n∧(0≤n∧n≤1000∧1≤a.length∧a.length≤1000)∧Q (.str (ÀT a n.toNat)) H)∨rRep x y H Q∨rRepT K x y H Q∨Úy K x y H Q
theorem Íu:OpR X (binaryOp .Mult) (ÝK X.K):=op_mul.or (Þy.or (op_rep.or (op_repT.or ÛX)))
theorem Òc:O2 X (ÝK X.K) mulM:=by
 intro x y S m H v u Q E sim r1 r2 w
 unfold mulM at w
 split at w
 ·split at w
  ·rename_i h;exact .inl ⟨_,_,è.1 r1,è.1 r2,(Bool.or_eq_true_iff.mp h).imp ÝG ÝG,w.ok sim (è.2 rfl)⟩
  ·exact False.elim w
 ·split at w
  ·rename_i h;exact .inr (.inl ⟨_,_,Ī.1 r1,è.1 r2,h,w.ok sim (Ī.2 rfl)⟩)
  ·exact False.elim w
 ·try simp only at w
  split at w
  ·rename_i l r xs h1
   split at w
   ·rename_i hl
    obtain ⟨a,vs,_,rfl,h3,h4⟩:=ÆB sim r1 h1
    exact .inr (.inr (.inl ⟨a,_,vs,rfl,è.1 r2,h3,(ÝF hl.1).1,(ÝF hl.1).2,by rw[←h4.length];exact hl.2,λ p hp=>w.new sim hp ⟨_,upd_same,(h4.rep _).mono (Ext.new hp)⟩⟩))
   ·exact False.elim w
  ·exact False.elim w
 ·split at w
  ·rename_i xs k g
   obtain ⟨g1,g2,g3,g4⟩:=g
   obtain ⟨p,vs,rfl,h1,h2⟩:=ż.1 r1
   have hv:vs≠ []:=λ z=>by
    have:=h2.length
    rw[z] at this
    cases xs with
    |nil=>cases g1
    |cons _ _=>cases this
   by_cases c:2≤k
   ·exact .inr (.inr (.inr (.inl ⟨p,k,vs,rfl,è.1 r2,h1,hv,c,g3,by rw[←h2.length];exact g4,λ q hq=>w m _ _ (Ext.plain hq) (sim.plain hq) (ż.2 ⟨q,_,rfl,.inl (.inl upd_same),(h2.rep _).mono (Ext.plain hq)⟩)⟩)))
   ·have ck:k=1∨k=0:=by omega
    refine .inr (.inr (.inr (.inr ⟨p,k,vs,rfl,è.1 r2,h1,hv,?_⟩)))
    rcases ck with rfl|rfl
    ·refine .inl ⟨rfl,w.ok sim (ż.2 ⟨p,vs,rfl,h1,?_⟩)⟩
     have:=h2.rep 1
     simpa using h2
    ·refine .inr ⟨rfl,λ q hq=>w m _ _ (Ext.plain hq) (sim.plain hq) (ż.2 ⟨q,[],rfl,.inl (.inl upd_same),?_⟩)⟩
     simpa using î.nil
  ·exact False.elim w
 ·exact False.elim w
theorem Í7:O2 X (rI (λ _ j=>j≠0) λ i j=>.int (i.fmod j)) Âp:=by
 intro x y S m H v u Q E sim r1 r2 w
 unfold Âp at w
 split at w
 ·split at w
  ·rename_i h;exact ⟨_,_,è.1 r1,è.1 r2,h,w.ok sim (è.2 rfl)⟩
  ·exact False.elim w
 ·exact False.elim w
theorem Úz:O2 X (rI CDivN λ i j=>.int (i.fdiv j)) È4:=by
 intro x y S m H v u Q E sim r1 r2 w
 unfold È4 at w
 split at w
 ·split at w
  ·rename_i h;exact ⟨_,_,è.1 r1,è.1 r2,h,w.ok sim (è.2 rfl)⟩
  ·exact False.elim w
 ·exact False.elim w
theorem áZ:O2 X (rI CPow λ i j=>.int (i ^ j.toNat)) Ñr:=by
 intro x y S m H v u Q E sim r1 r2 w
 unfold Ñr at w
 split at w
 ·split at w
  ·rename_i h;exact ⟨_,_,è.1 r1,è.1 r2,h,w.ok sim (è.2 rfl)⟩
  ·exact False.elim w
 ·exact False.elim w
theorem Ùr:O2 X (rI0 λ i j=>.bl (decide (i≤j))) leM:=by
 intro x y S m H v u Q E sim r1 r2 w
 unfold leM at w
 split at w
 ·exact ⟨_,_,è.1 r1,è.1 r2,w.ok sim (Ň.2 rfl)⟩
 ·exact False.elim w
theorem Ùs:O2 X (rI0 λ i j=>.bl (decide (j<i))) gtM:=by
 intro x y S m H v u Q E sim r1 r2 w
 unfold gtM at w
 split at w
 ·exact ⟨_,_,è.1 r1,è.1 r2,w.ok sim (Ň.2 rfl)⟩
 ·exact False.elim w
theorem ãe:O2 X (rI0 λ i j=>.bl (decide (j≤i))) geM:=by
 intro x y S m H v u Q E sim r1 r2 w
 unfold geM at w
 split at w
 ·exact ⟨_,_,è.1 r1,è.1 r2,w.ok sim (Ň.2 rfl)⟩
 ·exact False.elim w
theorem ÚA {K:PySem.W.Frag} {mg:Str→Option Value} {m:List Addr} {H:Hp} {x y:W} {v u:V} {b:Bool} (r1:RV K mg m H x v) (r2:RV K mg m H y u) (h:eqW x y=some b):scal v u=true∧b=decide (v=u):=by
 cases x<;>cases y<;>simp only[eqW] at h<;>first |(cases h;done)|skip
 all_goals (try simp only[è,Ī,Ň,Äh] at r1 r2)
 all_goals (subst r1;subst r2;cases h;refine ⟨rfl,?_⟩;first|rfl|simp)
theorem Ðn {K:PySem.W.Frag} {mg:Str→Option Value} {m:List Addr} {H:Hp} {f:W→Option PyData} (hf:∀ w v d,RV K mg m H w v→f w=some d→Dp K H v d):∀ {ws:List W} {vs:List V} {ds:List PyData},î K mg m H ws vs→Âq f ws=some ds→DpAll K H vs ds
 | [],_,_,r,h=>by rw[r.nil_inv];cases h;exact .nil
 |w::ws,_,_,r,h=>by
  obtain ⟨v,vr,rfl,r1,r2⟩:=r.uncons
  unfold Âq at h
  split at h
  ·rename_i d ds h1 h2
   cases h
   exact .cons (hf _ _ _ r1 h1) (Ðn hf r2 h2)
  ·cases h
theorem Çt {Wd:World} {K:PySem.W.Frag} {mg:Str→Option Value} {m:List Addr} {H:Hp} {S:Å} (s:ĕ Wd K mg m S H):∀ (n:Nat) (w:W) (v:V) (d:PyData),RV K mg m H w v→toD S n w=some d→Dp K H v d
 |0,_,_,_,_,h=>by cases h
 |n+1,w,v,d,r,h=>by
  unfold toD at h
  have ih:=Çt s n
  cases w with
  |non=>cases h;rw[Äh.1 r];exact .non
  |bl b=>cases h;rw[Ň.1 r];exact .bl b
  |int i=>cases h;rw[è.1 r];exact .int i
  |str x=>cases h;rw[Ī.1 r];exact .str x
  |tup xs=>
   obtain ⟨p,vs,rfl,h1,h2⟩:=ż.1 r
   simp only at h
   cases ha:Âq (toD S n) xs with
   |none=>rw[ha] at h;cases h
   |some ds=>rw[ha] at h;cases h;exact .tup h1 (Ðn ih h2 ha)
  |fl xs=>
   unfold RV at r
   obtain ⟨p,vs,rfl,h1,h2⟩:=r
   simp only at h
   cases ha:Âq (toD S n) xs with
   |none=>rw[ha] at h;cases h
   |some ds=>rw[ha] at h;cases h;exact .lst h1.sq (Ðn ih h2 ha)
  |ref k=>
   simp only at h
   split at h
   ·rename_i xs hk
    obtain ⟨a,vs,_,rfl,h1,h2⟩:=ÆB s r hk
    cases ha:Âq (toD S n) xs with
    |none=>rw[ha] at h;cases h
    |some ds=>rw[ha] at h;cases h;exact .lst (SqL.of h1) (Ðn ih h2 ha)
   ·cases h
  |_=>cases h
def ßE (K:PySem.W.Frag):R2:=λ x y H Q=>rEq x y H Q∨rEqD K x y H Q
def ßF (K:PySem.W.Frag):R2:=λ x y H Q=>rNe x y H Q∨rNeD K x y H Q
theorem Ãq (hu:X.A.units+64<cLine):OpR X (compareOp .Eq) (ßE X.K):=op_eq.or (op_eqD hu)
theorem Ïr (hu:X.A.units+64<cLine):OpR X (compareOp .NotEq) (ßF X.K):=op_ne.or (op_neD hu)
theorem Çu:O2 X (ßE X.K) Ė:=by
 intro x y S m H v u Q E sim r1 r2 w
 unfold Ė at w
 cases hb:eqW x y with
 |some b=>
  rw[hb] at w
  obtain ⟨h1,h2⟩:=ÚA r1 r2 hb
  exact .inl ⟨h1,w.ok sim (Ň.2 (by rw[h2]))⟩
 |none=>
  rw[hb] at w
  try simp only at w
  split at w
  ·rename_i d e hd he
   split at w
   ·rename_i hs
    simp only[Bool.and_eq_true] at hs
    exact .inr ⟨d,e,Çt sim _ _ _ _ r1 hd,Çt sim _ _ _ _ r2 he,hs.1,hs.2,w.ok sim (Ň.2 rfl)⟩
   ·exact False.elim w
  ·exact False.elim w
theorem ÔX:O2 X (ßF X.K) neM:=by
 intro x y S m H v u Q E sim r1 r2 w
 unfold neM at w
 cases hb:eqW x y with
 |some b=>
  rw[hb] at w
  obtain ⟨h1,h2⟩:=ÚA r1 r2 hb
  exact .inl ⟨h1,w.ok sim (Ň.2 (by rw[h2]))⟩
 |none=>
  rw[hb] at w
  try simp only at w
  split at w
  ·rename_i d e hd he
   split at w
   ·rename_i hs
    simp only[Bool.and_eq_true] at hs
    exact .inr ⟨d,e,Çt sim _ _ _ _ r1 hd,Çt sim _ _ _ _ r2 he,hs.1,hs.2,w.ok sim (Ň.2 rfl)⟩
   ·exact False.elim w
  ·exact False.elim w
theorem ÓW {K:PySem.W.Frag} {mg:Str→Option Value} {m:List Addr} {H:Hp} {x:W} {v:V} (r:RV K mg m H x v) (h:x≠.non):v≠.non:=by
 intro e
 subst e
 cases x with
 |non=>exact h rfl
 |bl b=>cases Ň.1 r
 |int b=>cases è.1 r
 |str b=>cases Ī.1 r
 |tup xs=>obtain ⟨p,vs,e,_⟩:=ż.1 r;cases e
 |fl xs=>unfold RV at r;obtain ⟨p,vs,e,_⟩:=r;cases e
 |ref n=>unfold RV at r;obtain ⟨a,_,e⟩:=r;cases e
 |gl n=>unfold RV at r;obtain ⟨a,_,e⟩:=r;cases e
 |ty n=>unfold RV at r;cases r
theorem Ïs:O2 X (λ x y H Q=>y=.non∧Q (.bl (decide (x=.non))) H) œ:=by
 intro x y S m H v u Q E sim r1 r2 w
 unfold œ at w
 split at w
 ·exact ⟨Äh.1 r2,w.ok sim (Ň.2 (by rw[Äh.1 r1];rfl))⟩
 ·rename_i h
  exact ⟨Äh.1 r2,w.ok sim (Ň.2 (by rw[decide_eq_false (ÓW r1 h)]))⟩
 ·exact False.elim w
theorem Ðo:O2 X (λ x y H Q=>y=.non∧Q (.bl (!decide (x=.non))) H) ā:=by
 intro x y S m H v u Q E sim r1 r2 w
 unfold ā at w
 split at w
 ·exact ⟨Äh.1 r2,w.ok sim (Ň.2 (by rw[Äh.1 r1];rfl))⟩
 ·rename_i h
  exact ⟨Äh.1 r2,w.ok sim (Ň.2 (by rw[decide_eq_false (ÓW r1 h)];rfl))⟩
 ·exact False.elim w
theorem î.atI {K:PySem.W.Frag} {mg:Str→Option Value} {m:List Addr} {H:Hp} {ws:List W} {vs:List V} {i:Int} {w:W} (r:î K mg m H ws vs) (h:L2.atI ws i=some w):∃ v,L2.atI vs i=some v∧RV K mg m H w v:=by
 unfold L2.atI at h ⊢
 rw[←r.length]
 cases hi:ixN ws.length i with
 |none=>rw[hi] at h;cases h
 |some j=>rw[hi] at h;exact r.get h
theorem ãf:O2 X (rIx X.K) ã:=by
 intro x y S m H v u Q E sim r1 r2 w
 unfold ã at w
 split at w
 ·rename_i xs i
  cases hw:L2.atI xs i with
  |some z0=>
   rw[hw] at w
   obtain ⟨p,vs,rfl,h1,h2⟩:=ż.1 r1
   obtain ⟨z,h3,h4⟩:=h2.atI hw
   exact .inr (.inl ⟨p,vs,_,z,rfl,è.1 r2,h1,h3,w.ok sim h4⟩)
  |none=>rw[hw] at w;exact False.elim w
 ·rename_i xs i
  cases hw:L2.atI xs i with
  |some z0=>
   rw[hw] at w
   unfold RV at r1
   obtain ⟨p,vs,rfl,h1,h2⟩:=r1
   obtain ⟨z,h3,h4⟩:=h2.atI hw
   exact .inl ⟨p,vs,_,z,rfl,è.1 r2,h1.sq,h3,w.ok sim h4⟩
  |none=>rw[hw] at w;exact False.elim w
 ·rename_i z i
  split at w
  ·rename_i hl
   cases hw:L2.atI z.cps.toList i with
   |some z0=>
    rw[hw] at w
    exact .inr (.inr ⟨_,_,_,Ī.1 r1,è.1 r2,hl,hw,w.ok sim (by unfold Æ5;exact Ī.2 rfl)⟩)
   |none=>rw[hw] at w;exact False.elim w
  ·exact False.elim w
 ·try simp only at w
  split at w
  ·rename_i xs hn
   split at w
   ·rename_i hw
    obtain ⟨a,vs,_,rfl,h1,h2⟩:=ÆB sim r1 hn
    obtain ⟨z,h3,h4⟩:=h2.atI hw
    exact .inl ⟨a,vs,_,z,rfl,è.1 r2,SqL.of h1,h3,w.ok sim h4⟩
   ·exact False.elim w
  ·exact False.elim w
 ·exact False.elim w
variable{C:Cc}{a b:Expr}{es:List Expr}{fa fb:Exp}{fr:Arg}{pos p2:Pos}
theorem Ł (ha:SE X C a fa) (hb:SE X C b fb) (hs:PlainIx b:=by exact λ _ _=>rfl):SE X C (.Subscript a b pos) (É ã fa fb):=by
 refine PE.imp (pe_ix ix_seq ha hb hs) λ s' H Q h=>?_
 refine tG.bind h λ m1 S1 s H1 x v z s1 l1 r1 w1=>?_
 exact ⟨m1,S1,s,z,s1,l1,w1.bind λ y S2 m2 H2 u e2 s2 r2 w2=>ãf x y S2 m2 H2 v u Q _ s2 (r1.mono e2) r2 w2⟩
abbrev SO (X:Cx) (C:Cc) (e:Option Expr) (f:Sl→M (Option Int)):Prop:=PO X e (tG X.w X.K X.mg eqR C f)
def È5:Sl→M (Option Int):=λ _=>rt none
def Ès (f:Exp):Sl→M (Option Int):=λ s=>bd (f s) λ x=>match x with
 | .int i=>rt (some i)
 |_=>bad
theorem PO.imp {e:Option Expr} {t t':TO} (h:PO X e t) (k:∀ s H Q,t' s H Q→t s H Q):PO X e t':=⟨λ pins s σ H Q I q=>h.run pins s σ H Q I (k _ _ _ q)⟩
theorem ÞB:SO X C none È5:=by
 refine PO.imp po_none λ s' H Q h=>?_
 obtain ⟨m,S,s,z,sim,sl,w⟩:=h
 exact w.ok sim rfl
theorem ÞC (ha:SE X C a fa):SO X C (some a) (Ès fa):=by
 refine PO.imp (po_some ha) λ s' H Q h=>?_
 refine tG.bind h λ m1 S1 s H1 x v z s1 l1 r1 w1=>?_
 cases x with
 |int i=>exact ⟨i,è.1 r1,w1.ok s1 rfl⟩
 |_=>exact False.elim w1
def eSl (f:Exp) (lo hi:Sl→M (Option Int)):Exp:=λ s=>bd (f s) λ x=>bd (lo s) λ l=>bd (hi s) λ u=>slM x l u
theorem î.cut {K:PySem.W.Frag} {mg:Str→Option Value} {m:List Addr} {H:Hp} {ws:List W} {vs:List V} (lo hi:Option Int) (r:î K mg m H ws vs):î K mg m H (Èz ws lo hi) (cutV vs lo hi):=by
 unfold Èz cutV
 rw[←r.length]
 exact (r.drop _).take _
theorem ÛY {lo hi:Option Expr} {fl fh:Sl→M (Option Int)} (ha:SE X C a fa) (hl:SO X C lo fl) (hh:SO X C hi fh):SE X C (.Subscript a (.Slice lo hi none p2) pos) (eSl fa fl fh):=by
 refine PE.imp (pe_slice (sl_str.or (sl_list.or sl_tupA)) ha hl hh) λ s' H Q h=>?_
 refine tG.bind h λ m1 S1 s H1 x v z s1 l1 r1 w1=>?_
 refine ⟨m1,S1,s,z,s1,l1,w1.bind λ y S2 m2 H2 u e2 s2 r2 w2=>?_⟩
 refine ⟨m2,S2,s,z,s2,l1.mono e2,w2.bind λ y3 S3 m3 H3 u3 e3 s3 r3 w3=>?_⟩
 cases r2
 cases r3
 have rx:=(r1.mono e2).mono e3
 unfold slM at w3
 split at w3
 ·split at w3
  ·rename_i hz;exact .inl ⟨_,Ī.1 rx,hz,w3.ok s3 (Ī.2 rfl)⟩
  ·exact False.elim w3
 ·obtain ⟨p,vs,rfl,h1,h2⟩:=ż.1 rx
  refine .inr (.inr ⟨p,vs,rfl,h1,λ hw=>?_,λ _ q hq=>?_⟩)
  ·refine w3.ok s3 (ż.2 ⟨p,vs,rfl,h1,?_⟩)
   have h3:=h2.cut y y3
   have e:cutV vs y y3=vs:=by
    unfold cutV
    rw[hw.1,hw.2]
    simp
   rw[e] at h3
   exact h3
  ·exact w3 m3 _ _ (Ext.plain hq) (s3.plain hq) (ż.2 ⟨q,_,rfl,.inl (.inl upd_same),(h2.cut y y3).mono (Ext.plain hq)⟩)
 ·unfold RV at rx
  obtain ⟨p,vs,rfl,h1,h2⟩:=rx
  exact .inr (.inl ⟨p,vs,rfl,h1.sq,λ q hq=>w3.new s3 hq ⟨_,upd_same,(h2.cut y y3).mono (Ext.new hq)⟩⟩)
 ·try simp only at w3
  split at w3
  ·rename_i xs hn
   obtain ⟨p,vs,_,rfl,h1,h2⟩:=ÆB s3 rx hn
   exact .inr (.inl ⟨p,vs,rfl,SqL.of h1,λ q hq=>w3.new s3 hq ⟨_,upd_same,(h2.cut y y3).mono (Ext.new hq)⟩⟩)
  ·exact False.elim w3
 ·exact False.elim w3
end
end Fr
namespace Fr
open PySem PySem.Spec PyProof.Rows L2
section
variable{X:Cx}
theorem î.one {K:PySem.W.Frag} {mg:Str→Option Value} {m:List Addr} {H:Hp} {w:W} {vs:List V} (r:î K mg m H [w] vs):∃ v,vs=[v]∧RV K mg m H w v:=by
 obtain ⟨v,t,rfl,h1,h2⟩:=r.uncons
 rw[h2.nil_inv]
 exact ⟨v,rfl,h1⟩
theorem î.two {K:PySem.W.Frag} {mg:Str→Option Value} {m:List Addr} {H:Hp} {w w2:W} {vs:List V} (r:î K mg m H [w,w2] vs):∃ v v2,vs=[v,v2]∧RV K mg m H w v∧RV K mg m H w2 v2:=by
 obtain ⟨v,t,rfl,h1,h2⟩:=r.uncons
 obtain ⟨v2,rfl,h3⟩:=h2.one
 exact ⟨v,v2,rfl,h1,h3⟩
def rLen (K:PySem.W.Frag):List V→Hp→VK→Prop:=λ xs H Q=>∃ x n,xs=[x]∧LenV K x H n∧Q (.int n) H
theorem Äi:CallR X (.builtin "len") (rLen X.K):=call_len
theorem Æe:OC X (rLen X.K) ö:=by
 intro x S m H v Q E sim r w
 unfold ö at w
 split at w
 ·split at w
  ·rename_i hl
   obtain ⟨v1,rfl,h1⟩:=r.one
   rw[Ī.1 h1]
   exact ⟨_,_,rfl,⟨hl,rfl⟩,w.ok sim (è.2 rfl)⟩
  ·exact False.elim w
 ·obtain ⟨v1,rfl,h1⟩:=r.one
  obtain ⟨p,vs,rfl,h2,h3⟩:=ż.1 h1
  exact ⟨_,_,rfl,.inr ⟨vs,h2,rfl⟩,w.ok sim (è.2 (by rw[h3.length]))⟩
 ·obtain ⟨v1,rfl,h1⟩:=r.one
  unfold RV at h1
  obtain ⟨p,vs,rfl,h2,h3⟩:=h1
  exact ⟨_,_,rfl,.inl ⟨vs,h2.sq,rfl⟩,w.ok sim (è.2 (by rw[h3.length]))⟩
 ·try simp only at w
  split at w
  ·rename_i ys hn
   obtain ⟨v1,rfl,h1⟩:=r.one
   obtain ⟨p,vs,_,rfl,h2,h3⟩:=ÆB sim h1 hn
   exact ⟨_,_,rfl,.inl ⟨vs,SqL.of h2,rfl⟩,w.ok sim (è.2 (by rw[h3.length]))⟩
  ·exact False.elim w
 ·exact False.elim w
def ÝL:List V→Hp→VK→Prop:=λ xs H Q=>((∃i,xs=[.int i]∧Q (.int i) H)∨∃ k,xs=[.bl k]∧Q (.int (if k then 1 else 0)) H)∨∃ a n,xs=[.str a]∧PySem.intText? a=some n∧a.length≤640∧Q (.int n) H
theorem ÊD:CallR X (.type "int") ÝL:=call_int1.or call_int_str
theorem ÌF:OC X ÝL ÃK:=by
 intro x S m H v Q E sim r w
 unfold ÃK at w
 split at w
 ·obtain ⟨v1,rfl,h1⟩:=r.one
  rw[è.1 h1]
  exact .inl (.inl ⟨_,rfl,w.ok sim (è.2 rfl)⟩)
 ·obtain ⟨v1,rfl,h1⟩:=r.one
  rw[Ň.1 h1]
  exact .inl (.inr ⟨_,rfl,w.ok sim (è.2 rfl)⟩)
 ·rename_i a
  obtain ⟨v1,rfl,h1⟩:=r.one
  rw[Ī.1 h1]
  cases hn:PySem.intText? a with
  |none=>rw[hn] at w;exact False.elim w
  |some n=>
   rw[hn] at w
   dsimp only at w
   split at w
   ·rename_i hl
    exact .inr ⟨a,n,rfl,hn,hl,w.ok sim (è.2 rfl)⟩
   ·exact False.elim w
 ·exact False.elim w
theorem ßG {Wd:World} {K:PySem.W.Frag} {mg:Str→Option Value} {m:List Addr} {H:Hp} {S:Å} (s:ĕ Wd K mg m S H) {w:W} {v:V} {t:String} (r:RV K mg m H w v) (h:tyN S w=some t):TyX K H v (.type t):=by
 cases w with
 |non=>cases h;rw[Äh.1 r];exact .base .non
 |bl b=>cases h;rw[Ň.1 r];exact .base (.bl b)
 |int b=>cases h;rw[è.1 r];exact .base (.int b)
 |str b=>cases h;rw[Ī.1 r];exact .base (.str b)
 |tup xs=>
  cases h
  obtain ⟨p,vs,rfl,h1,h2⟩:=ż.1 r
  rcases h1 with (h1 |⟨o,h1⟩) |⟨o,its,n,h1,h2,_⟩
  ·exact .base (.tup h1)
  ·exact .fTuple h1
  ·exact .kTuple h1 h2
 |fl xs=>
  cases h
  unfold RV at r
  obtain ⟨p,vs,rfl,h1,h2⟩:=r
  rcases h1 with ⟨o,h1⟩ |⟨o,its,n,h1,h2,_⟩
  ·exact .base (.frz h1)
  ·exact .kList h1 h2
 |ref n=>
  unfold tyN at h
  dsimp only at h
  unfold RV at r
  obtain ⟨a,h4,rfl⟩:=r
  split at h
  ·rename_i xs hn
   cases h
   obtain ⟨a',h1,vs,h2,h3⟩:=s.at hn
   rw[h4] at h1;cases h1
   exact .base (.lst h2)
  ·rename_i xs hn
   cases h
   obtain ⟨a',h1,vs,h2,h3⟩:=s.at hn
   rw[h4] at h1;cases h1
   exact .base (.dK h2)
  ·rename_i xs hn
   cases h
   obtain ⟨a',h1,vs,h2,h3⟩:=s.at hn
   rw[h4] at h1;cases h1
   exact .base (.dT h2)
  ·cases h
 |_=>cases h
theorem Èt:OC X (rIsi X.K) ú:=by
 intro x S m H v Q E sim r w
 unfold ú at w
 split at w
 ·rename_i y n
  obtain ⟨v1,v2,rfl,h1,h2⟩:=r.two
  unfold RV at h2
  subst h2
  try dsimp only at w
  cases ht:tyN S y with
  |none=>rw[ht] at w;exact False.elim w
  |some t=>
   rw[ht] at w
   dsimp only at w
   cases hk:kitB t n with
   |none=>rw[hk] at w;exact False.elim w
   |some b=>
    rw[hk] at w
    exact ⟨v1,.ty n,.type t,.type n,b,rfl,.ty n,ßG sim h1 ht,kit_ty hk,w.ok sim (Ň.2 rfl)⟩
 ·exact False.elim w
theorem ÚB {Wd:World} {K:PySem.W.Frag} {mg:Str→Option Value} {m:List Addr} {H:Hp} {S:Å} (s:ĕ Wd K mg m S H) {w:W} {v:V} {T:String} (r:RV K mg m H w v) (h:tyM T w S=true):tyV K T v H:=by
 cases w with
 |str b=>rw[Ī.1 r];exact beq_iff_eq.mp h
 |int b=>rw[è.1 r];exact beq_iff_eq.mp h
 |fl xs=>
  unfold RV at r
  obtain ⟨p,vs,rfl,h1,h2⟩:=r
  exact .inl ⟨beq_iff_eq.mp h,vs,h1.sq⟩
 |ref n=>
  unfold tyM at h
  dsimp only at h
  unfold RV at r
  obtain ⟨a,h4,rfl⟩:=r
  split at h
  ·rename_i xs hn
   obtain ⟨a',h1,vs,h2,h3⟩:=s.at hn
   rw[h4] at h1;cases h1
   exact .inl ⟨beq_iff_eq.mp h,vs,SqL.of h2⟩
  ·rename_i xs hn
   obtain ⟨a',h1,vs,h2,h3⟩:=s.at hn
   rw[h4] at h1;cases h1
   exact .inr (.inr (.inl ⟨beq_iff_eq.mp h,.inl ⟨vs,h2⟩⟩))
  ·rename_i xs hn
   obtain ⟨a',h1,vs,h2,h3⟩:=s.at hn
   rw[h4] at h1;cases h1
   exact .inr (.inr (.inl ⟨beq_iff_eq.mp h,.inr ⟨vs,h2⟩⟩))
  ·cases h
 |_=>cases h
def OM (X:Cx) (r:V→List V→Hp→VK→Prop) (f:W→List W→M W):Prop:=∀ x xs S m H v vs Q E,ĕ X.w X.K X.mg m S H→RV X.K X.mg m H x v→î X.K X.mg m H xs vs→WG X.w X.K X.mg (RV X.K X.mg) (f x xs S) m H Q E→r v vs H Q
variable{C:Cc}{a b e o:Expr}{es:List Expr}{fa fb fo:Exp}{fr:Arg}{pos p2 apos cpos:Pos}{name:Str}{T id:String}{r:V→List V→Hp→VK→Prop}{f:W→List W→M W}
theorem ÝM (hm:MtR X id r) (hf:OM X r f) (pa:PlainAttrs T) (slot:Slot T name id) (hty:typeOf (.builtin id)=pure (.type "method_descriptor")) (ho:SE X C o fo)
  (hbase:attributeBase o name X.env (eval o X.env)=eval o X.env:=by rfl) (hline:(apos.endLine==cpos.line)=true:=by rfl):SE X C (.Call (.Attribute o name apos) [] [] cpos) (eM T f fo Ä):=by
 refine PE.imp (pe_bm0 pa slot hty hm ho hbase hline) λ s' H Q h=>?_
 refine tG.bind h λ m1 S1 s H1 x v z s1 l1 r1 w1=>?_
 split at w1
 ·rename_i ht
  exact ⟨ÚB s1 r1 ht,hf x [] S1 m1 H1 v [] Q _ s1 r1 .nil w1⟩
 ·exact False.elim w1
theorem Ñs (hm:MtR X id r) (hf:OM X r f) (pa:PlainAttrs T) (slot:Slot T name id) (hty:typeOf (.builtin id)=pure (.type "method_descriptor")) (ho:SE X C o fo) (ha:SA X C (e::es) fr)
  (hbase:attributeBase o name X.env (eval o X.env)=eval o X.env:=by rfl)
  (hfew:((backTo cpos (starEach (e::es) X.env)).all (λ x=>!x.1)&&(backToKw cpos (keywordEach [] X.env)).all (λ x=>x.1.isSome)
   &&decide ((e::es).length+([]:List Keyword).length+(if ([]:List Keyword).isEmpty then 0 else 1)<30))=true:=by rfl)
  (hline:(apos.endLine==cpos.line)=true:=by rfl) (hs:starEach (e::es) X.env=(false,eval e X.env)::starEach es X.env:=by rfl) (hplain:(backTo cpos (starEach es X.env)).any (·.1)=false:=by rfl):
  SE X C (.Call (.Attribute o name apos) (e::es) [] cpos) (eM T f fo fr):=by
 refine PE.imp (pe_bm pa slot hty hm ho ha hbase hfew hline hs hplain) λ s' H Q h=>?_
 refine tG.bind h λ m1 S1 s H1 x v z s1 l1 r1 w1=>?_
 split at w1
 ·rename_i ht
  exact ⟨ÚB s1 r1 ht,m1,S1,s,z,s1,l1,w1.bind λ ys S2 m2 H2 vs e2 s2 r2 w2=>hf x ys S2 m2 H2 v vs Q _ s2 (r1.mono e2) r2 w2⟩
 ·exact False.elim w1
theorem ÈA:OM X rAppend Âd:=by
 intro x xs S m H v vs Q E sim r1 r2 w
 unfold Âd at w
 split at w
 ·try dsimp only at w
  split at w
  ·rename_i ys hn
   split at w
   ·rename_i hl
    obtain ⟨p,us,h0,rfl,h2,h3⟩:=ÆB sim r1 hn
    obtain ⟨v1,rfl,h4⟩:=r2.one
    exact ⟨p,us,v1,rfl,rfl,h2,by rw[←h3.length];exact hl,w.set sim h0 h2 (h3.append (.cons h4 .nil)) (Äh.2 rfl)⟩
   ·exact False.elim w
  ·exact False.elim w
 ·exact False.elim w
theorem á0:OM X rPop Óa:=by
 intro x xs S m H v vs Q E sim r1 r2 w
 unfold Óa at w
 split at w
 ·try dsimp only at w
  split at w
  ·rename_i ys hn
   split at w
   ·rename_i y hy
    obtain ⟨p,us,h0,rfl,h2,h3⟩:=ÆB sim r1 hn
    obtain ⟨u,h4,h5⟩:=h3.get hy
    exact ⟨p,us,u,rfl,r2.nil_inv,h2,by rw[←h3.length];exact h4,w.set sim h0 h2 h3.dropLast h5⟩
   ·exact False.elim w
  ·exact False.elim w
 ·exact False.elim w
theorem ÚC:OM X rReverse ÉU:=by
 intro x xs S m H v vs Q E sim r1 r2 w
 unfold ÉU at w
 split at w
 ·try dsimp only at w
  split at w
  ·rename_i ys hn
   obtain ⟨p,us,h0,rfl,h2,h3⟩:=ÆB sim r1 hn
   exact ⟨p,us,rfl,r2.nil_inv,h2,w.set sim h0 h2 h3.reverse (Äh.2 rfl)⟩
  ·exact False.elim w
 ·exact False.elim w
theorem Ùt {Wd:World} {K:PySem.W.Frag} {mg:Str→Option Value} {m:List Addr} {H:Hp} {S:Å} (s:ĕ Wd K mg m S H) {w:W} {v:V} {xs:List W} (r:RV K mg m H w v) (h:itemsOf S w=some xs):∃ a vs,v=.ref a∧(SqL K H a vs∨SqT K H a vs)∧î K mg m H xs vs:=by
 cases w with
 |tup ys=>
  unfold itemsOf at h
  cases h
  obtain ⟨p,vs,rfl,h1,h2⟩:=ż.1 r
  exact ⟨p,vs,rfl,.inr h1,h2⟩
 |_=>
  all_goals
   unfold itemsOf at h
   obtain ⟨p,vs,rfl,h1,h2⟩:=Þx s r h
   exact ⟨p,vs,rfl,.inl h1,h2⟩
def Ùu (tab:List (Str×Bool)) (c:Str):Exp:=λ _=>match Ãz tab c with
 |some b=>rt (.bl b)
 |none=>bad
theorem Ë2 {x:Str} {w:W} {v:V} (h:∃ u,X.mg x=some u∧RelV v u) (hg:Gl X x) (hr:∀ m H,RV X.K X.mg m H w v) (hd:(x==("__debug__" :Str))=false:=by decide):SE X C (.Name x pos) (eC w):=by
 obtain ⟨u,h1,h2⟩:=h
 exact Þu hg h1 h2 hr hd
theorem È6 {K:PySem.W.Frag} {t:Value} {A:Addr} {r:Bool} (h1:PySem.W.hasDictIn K A=true) (h2:PySem.W.typeIn K (.ref A)=some (.type "type")) (h3:PySem.W.subIn K t (.ref A)=some r):PySem.W.kitCls K t (.ref A)=some r:=by
 obtain ⟨cd,hc,_⟩:=PySem.W.any_some h1
 have e2:((PySem.W.clsIn K A).isSome&&PySem.W.typeIn K (.ref A)==some (.type "type"))=true:=by rw[hc,h2]<;>rfl
 show (if ((PySem.W.clsIn K A).isSome&&PySem.W.typeIn K (.ref A)==some (.type "type"))=true then PySem.W.subIn K t (.ref A) else none)=some r
 rw[if_pos e2]
 exact h3
theorem Ív {K:PySem.W.Frag} {t c:Value} {r:Bool} (h1:PySem.W.subIn K c (.type "BaseException")=some true) (h:PySem.W.kitCls K t c=some r):PySem.W.exmOne K t c=some r:=by
 unfold PySem.W.exmOne
 rw[h1]
 exact h
def Ùv (K:PySem.W.Frag):Sp:=λ vs H Q _=>∃ (a:Addr) (ns:List Int),vs=[.ref a]∧SqL K H a (ns.map V.int)∧ns.length≤63∧Only H∧∀ H',Q (.bl true) H'
theorem Óc {P:Program} {w:World} {K:PySem.W.Frag} {mg:Str→Option Value} {base:Heap} {k:Nat} {f:Addr} {fd:FuncData} {x:Str} {F:Fn} (G:FnM P w K mg base k f fd [x] F) (h:∀ ns:List Int,ns.length≤63→∃ S,F [.fl (ns.map .int)] []=.ok (.bl true) S):FnOk P w K mg base (L2.CX P w) k f fd [x] (Ùv K):=by
 refine FnOk.imp G λ vs H Q E q=>?_
 obtain ⟨a,ns,rfl,hs,hl,ho,hq⟩:=q
 obtain ⟨S,e⟩:=h ns hl
 refine ⟨[],[],[.fl (ns.map .int)],⟨rfl,List.nodup_nil,λ i o a h=>by simp at h⟩,.cons ?_ .nil,rfl,?_⟩
 ·unfold RV
  refine ⟨a,_,rfl,?_,î.ints⟩
  rcases hs with (h1 |⟨o,h1⟩)|h1
  ·rcases ho a with z |⟨o,xs,z⟩
   ·rw[h1] at z;cases z
   ·rw[h1] at z;cases z
  ·exact .inl ⟨o,h1⟩
  ·exact .inr h1
 ·rw[e]
  intro m' H' v _ _ r
  rw[Ň.1 r]
  exact hq H'
theorem ßH {P:Program} {w:World} {H:Hp} {s:Shared} {e:Value} {s':Shared} (h:L2.CX P w [] H s (λ _ _ _=>False) e s'):False:=by
 obtain ⟨_,_,_,_,_,_,_,_,_,_,_,_,z⟩:=h
 exact z.elim
end
end Fr
namespace Hz
open PySem PySem.Spec PyProof.Rows L2
abbrev Fg:Type:=PySem.W.Frag
def gq (K:Fg) (x:Str):Bool:=He.eqO (PySem.W.nsIn K mainGlobals x) (some (some (.ref (He.ga K x))))
def sb (K:Fg) (a b:Str) (v:Bool):Bool:=decide (PySem.W.subIn K (.ref (He.ga K a)) (.ref (He.ga K b))=some v)
def no (K:Fg) (x:Str):Bool:=decide (PySem.W.nsIn K mainGlobals x=some none)
def isInt (i:Int):Option (Option Value)→Bool
 |some (some (.int j _))=>decide (j=i)
 |_=>false
theorem ÛZ {i:Int} {o:Option (Option Value)} (h:isInt i o=true):∃ t,o=some (some (.int i t)):=by
 match o,h with
 |some (some (.int j t)),h=>exact ⟨t,by rw[of_decide_eq_true h]⟩
def isStr (z:Str):Option (Option Value)→Bool
 |some (some (.str y _))=>decide (y=z)
 |_=>false
theorem ÔY {z:Str} {o:Option (Option Value)} (h:isStr z o=true):∃ t,o=some (some (.str z t)):=by
 match o,h with
 |some (some (.str y t)),h=>exact ⟨t,by rw[of_decide_eq_true h]⟩
def ÔA (K:Fg) (c:Addr) (x:Str) (i:Int):Bool:=match PySem.W.findCls K (.ref c) (.type "type") x with
 |some (.val (.int j _))=>decide (j=i)
 |_=>false
theorem ÔZ {K:Fg} {c:Addr} {x:Str} {i:Int} (h:ÔA K c x i=true):∃ t,PySem.W.findCls K (.ref c) (.type "type") x=some (.val (.int i t)):=by
 unfold ÔA at h
 cases e:PySem.W.findCls K (.ref c) (.type "type") x with
 |none=>rw[e] at h;cases h
 |some o=>
  rw[e] at h
  cases o with
  |val v=>
   cases v with
   |int j t=>exact ⟨t,by rw[of_decide_eq_true (show decide (j=i)=true from h)]⟩
   |_=>cases h
  |_=>cases h
def bare (d:FuncData):FuncData:={d with defaults:=.none,kwdefaults:=.none,doc:=.none,pyModule:=.none,annotations:=none,code:=.none,closureTuple:=.none}
def Òd (K:Fg) (a:Addr):Option FuncData:=match K.lookup a with
 |some ⟨_,_,.func d,_⟩=>some (bare d)
 |_=>none
structure Fd where
 a:Fg→Addr
 name:Str
 qual:Str
 params:Arguments
 body:List Stmt
 scope:Scope
 dfl:Fg→Value:=λ _=>.none
def Fd.val (d:Fd):Option FuncData:=some (PySem.W.fnOf d.name d.qual d.params d.body d.scope .none .none .none .none none .none .none)
def Fd.ok (K:Fg) (d:Fd):Bool:=match K.lookup (d.a K) with
 |some ⟨_,_,.func fd,_⟩=>PySem.W.codeIn K fd.code d.qual&&(PySem.W.keepIn K (.ref (d.a K))&&decide (fd.defaults=d.dfl K))
 |_=>false
theorem Fd.there {K:Fg} {d:Fd} (e:Òd K (d.a K)=d.val) (c:d.ok K=true):
  ∃oc od sl kV dc pm an cd ct,K.lookup (d.a K)=some ⟨oc,od,.func (PySem.W.fnOf d.name d.qual d.params d.body d.scope (d.dfl K) kV dc pm an cd ct),sl⟩∧PySem.W.codeIn K cd d.qual=true∧PySem.W.keepIn K (.ref (d.a K))=true:=by
 unfold Fd.ok at c
 unfold Òd at e
 cases q:K.lookup (d.a K) with
 |none=>rw[q] at c;cases c
 |some o=>
  obtain ⟨oc,od,dt,sl⟩:=o
  rw[q] at c e
  cases dt with
  |func fd=>
   obtain ⟨c1,c2⟩:=He.ba (show (PySem.W.codeIn K fd.code d.qual&&(PySem.W.keepIn K (.ref (d.a K))&&decide (fd.defaults=d.dfl K)))=true from c)
   obtain ⟨c3,c4⟩:=He.ba c2
   have e1:bare fd=PySem.W.fnOf d.name d.qual d.params d.body d.scope .none .none .none .none none .none .none:=Option.some.inj e
   refine ⟨oc,od,sl,fd.kwdefaults,fd.doc,fd.pyModule,fd.annotations,fd.code,fd.closureTuple,?_,c1,c3⟩
   have e2:fd=PySem.W.fnOf d.name d.qual d.params d.body d.scope (d.dfl K) fd.kwdefaults fd.doc fd.pyModule fd.annotations fd.code fd.closureTuple:=by
    rw[←of_decide_eq_true c4]
    cases fd
    simp only[bare,PySem.W.fnOf,FuncData.mk.injEq] at e1 ⊢
    simp[e1]
   rw[←e2]
  |_=>cases c
def behind (g:Addr→Option Obj) (a:Addr):List Addr:=match g a with
 |some ⟨_,_,.dict es _,_⟩=>es.toList.flatMap λ e=>He.refV e.val
 |some ⟨_,_,.seq vs _,_⟩=>vs.toList.flatMap He.refV
 |some ⟨_,_,.func fd,_⟩=>He.refV fd.code++He.refV fd.defaults
 |some ⟨_,_,.cls cd,_⟩=>[cd.ns]
 |some ⟨.type n,_,.fields vs,_⟩=>match n== "staticmethod" with
  |true=>vs.toList.flatMap He.refV
  |false=>[]
 |_=>[]
def reachF (g:Addr→Option Obj):Nat→List Addr→List Addr
 |0,as=>as
 |n+1,as=>as++reachF g n (as.flatMap (behind g))
def reach (g:Addr→Option Obj) (n:Nat):List Addr:=PySem.cStatics::reachF g n [mainGlobals]
def tell (fz:List (Fg→Bool)) (fn:List Fd) (K:Fg):Bool×List (Option FuncData):=((fz.all λ f=>f K)&&fn.all λ d=>d.ok K,fn.map λ d=>Òd K (d.a K))
def told (fn:List Fd):Bool×List (Option FuncData):=(true,fn.map Fd.val)
def eye (n:Nat) (fz:List (Fg→Bool)) (fn:List Fd) (g:Addr→Option Obj):Bool×List (Option FuncData):=tell fz fn (He.frG g (reach g n))
def Ên (fz:List (Fg→Bool)) (fn:List Fd) (K:Fg):Prop:=tell fz fn K=told fn
def hook (n:Nat) (fz:List (Fg→Bool)) (fn:List Fd):PySem.W.Hook where
 α:=Bool×List (Option FuncData)
 obs:=λ s=>eye n fz fn s.heap.get?
 val:=λ _=>told fn
 says:=λ _ h=>∃ K:Fg,K.In h∧Ên fz fn K
 of:=λ _ _ e=>⟨_,He.frG_in,e⟩
 keeps:=λ _ _ _ q k=>q.elim λ K z=>⟨K,PySem.W.Frag.In.keeps z.1 k,z.2⟩
theorem ßI {n:Nat} {fz:List (Fg→Bool)} {fn:List Fd} (s:PySem.W.SharedT):eye n fz fn (HandSHeadRun.getT s)=(hook n fz fn).obs s.abs:=
 congrArg (eye n fz fn) (funext λ a=>HandSHeadRun.getT_eq s a)
section
variable{fz:List (Fg→Bool)}{fn:List Fd}{K:Fg}
theorem Ên.both (c:Ên fz fn K):(fz.all λ f=>f K)=true∧(fn.all λ d=>d.ok K)=true:=He.ba (congrArg Prod.fst c)
theorem Ên.fact (c:Ên fz fn K) (i:Nat) {f:Fg→Bool} (h:fz[i]?=some f):f K=true:=List.all_eq_true.mp c.both.1 f (List.mem_of_getElem? h)
theorem Ên.func (c:Ên fz fn K) (i:Nat) {d:Fd} (h:fn[i]?=some d):
  ∃oc od sl kV dc pm an cd ct,K.lookup (d.a K)=some ⟨oc,od,.func (PySem.W.fnOf d.name d.qual d.params d.body d.scope (d.dfl K) kV dc pm an cd ct),sl⟩∧PySem.W.codeIn K cd d.qual=true∧PySem.W.keepIn K (.ref (d.a K))=true:=by
 have e:fn.map (λ d=>Òd K (d.a K))=fn.map Fd.val:=congrArg Prod.snd c
 have e2:=congrArg (λ l=>l[i]?) e
 simp only[List.getElem?_map,h,Option.map_some] at e2
 exact Fd.there (Option.some.inj e2) (List.all_eq_true.mp c.both.2 d (List.mem_of_getElem? h))
end
def Ãr (a:Fg→Addr) (x q:Str) (st:Stmt):Fd:=⟨a,x,q,defArgs st,defBody st,defScope st,λ _=>.none⟩
theorem Ên.fn1 {fz:List (Fg→Bool)} {fn:List Fd} {K:Fg} (c:Ên fz fn K) (i:Nat) {a:Fg→Addr} {x q:Str} {st:Stmt} (h:fn[i]?=some (Ãr a x q st)):∃ d,Fun K x q st (a K) d∧PySem.W.keepIn K (.ref (a K))=true:=by
 obtain ⟨_,_,_,_,_,_,_,_,_,l,e,p⟩:=c.func i h
 exact ⟨_,fun_mk (st:=st) l e p,p⟩
def Û0 (P:Program):CXT:=λ outer H s E e s'=>∃ w,L2.CX P w outer H s E e s'
theorem widen {P:Program} {w:World} {K:Fg} {mg:Str→Option Value} {base:Heap} {k:Nat} {f:Addr} {fd:FuncData} {ps:List Str} {sp:Sp} (F:FnOk P w K mg base (L2.CX P w) k f fd ps sp):FnOk P w K mg base (Û0 P) k f fd ps sp:=
 ⟨F.len,λ A outer s H args us vs Q E hr he hb hv hs=>codeAny_mono (F.run A outer s H args us vs Q E hr he hb hv hs) λ r s' h=>match r,h with
  | .ok (.ret _),h=>h
  | .error _,h=>⟨w,h⟩⟩
theorem ÚD {P:Program} {H:Hp} {s:Shared} {e:Value} {s':Shared}:Û0 P [] H s (λ _ _ _=>False) e s'→False:=λ ⟨_,h⟩=>Fr.ßH h
end Hz
namespace Û
open PySem PySem.Spec PyProof.Rows L2 Fr
def Ãs (i : Nat) : Stmt := PySem.Challenge.pw_formroads_k02_led_and_below.main.body.getD i (.Pass ⟨0, 0, 0, 0⟩)
abbrev Í8:Stmt:=Ãs 11
abbrev Ê3:Stmt:=Ãs 12
abbrev Ê4:Stmt:=Ãs 17
abbrev Ë3:Stmt:=Ãs 18
abbrev Ë4:Stmt:=Ãs 19
abbrev Ë5:Stmt:=Ãs 20
abbrev Ê5:Stmt:=Ãs 21
abbrev È7:Stmt:=Ãs 22
abbrev Ì6:Stmt:=Ãs 23
abbrev Ço:Stmt:=Ãs 24
abbrev Ì7:Stmt:=Ãs 25
abbrev Æ7:Stmt:=inClass (Ãs 15) 6
abbrev ÅM:Stmt:=inClass (Ãs 15) 8
abbrev Æf:Stmt:=inClass (Ãs 15) 9
abbrev È8:Stmt:=inClass (Ãs 15) 12
abbrev Ç6:Stmt:=Ãs 26
abbrev Æg:Stmt:=inClass (Ãs 15) 10
abbrev Ç7:Stmt:=inClass (Ãs 15) 13
abbrev Æ8:Stmt:=Ãs 27
abbrev Ç8:Stmt:=inClass (Ãs 15) 14
abbrev Æ9:Stmt:=Ãs 28
abbrev È9:Stmt:=Ãs 29
abbrev ÉV:Stmt:=Ãs 30
abbrev ÅN:Stmt:=inClass (Ãs 15) 3
abbrev Æh:Stmt:=inClass (Ãs 15) 2
abbrev Èe:Stmt:=Ãs 31
end Û
namespace Èf
open PySem PySem.Spec PyProof.Rows L2 Fr Û
def á1:List (Hz.Fg→Bool):=[λ K=>Hz.gq K "Kindbook",
 λ K=>Hz.gq K "is_name",
 λ K=>Hz.gq K "check_name",
 λ K=>Hz.gq K "_law_draws",
 λ K=>Hz.gq K "_law_draw",
 λ K=>Hz.gq K "_law_pick",
 λ K=>Hz.gq K "_law_same",
 λ K=>Hz.gq K "_law_names",
 λ K=>Hz.gq K "_law_book",
 λ K=>Hz.gq K "_law_row",
 λ K=>Hz.gq K "_law_members",
 λ K=>Hz.gq K "_law_led",
 λ K=>He.eqO (PySem.W.findIn K (.ref (He.ga K "Kindbook")) "checked") (some (some (.ref (He.ma K (He.ga K "Kindbook") "checked")))),
 λ K=>PySem.W.isFn K (.ref (He.ma K (He.ga K "Kindbook") "checked")),
 λ K=>He.eqO (PySem.W.findIn K (.ref (He.ga K "Kindbook")) "parent_of") (some (some (.ref (He.ma K (He.ga K "Kindbook") "parent_of")))),
 λ K=>PySem.W.isFn K (.ref (He.ma K (He.ga K "Kindbook") "parent_of")),
 λ K=>He.eqO (PySem.W.findIn K (.ref (He.ga K "Kindbook")) "leads_of") (some (some (.ref (He.ma K (He.ga K "Kindbook") "leads_of")))),
 λ K=>PySem.W.isFn K (.ref (He.ma K (He.ga K "Kindbook") "leads_of")),
 λ K=>He.eqO (PySem.W.findIn K (.ref (He.ga K "Kindbook")) "led") (some (some (.ref (He.ma K (He.ga K "Kindbook") "led")))),
 λ K=>PySem.W.isFn K (.ref (He.ma K (He.ga K "Kindbook") "led")),
 λ K=>Hz.gq K "_law_led_error",
 λ K=>He.eqO (PySem.W.findIn K (.ref (He.ga K "Kindbook")) "chain_of") (some (some (.ref (He.ma K (He.ga K "Kindbook") "chain_of")))),
 λ K=>PySem.W.isFn K (.ref (He.ma K (He.ga K "Kindbook") "chain_of")),
 λ K=>He.eqO (PySem.W.findIn K (.ref (He.ga K "Kindbook")) "below") (some (some (.ref (He.ma K (He.ga K "Kindbook") "below")))),
 λ K=>PySem.W.isFn K (.ref (He.ma K (He.ga K "Kindbook") "below")),
 λ K=>Hz.gq K "_law_below_error",
 λ K=>He.eqO (PySem.W.findIn K (.ref (He.ga K "Kindbook")) "finer") (some (some (.ref (He.ma K (He.ga K "Kindbook") "finer")))),
 λ K=>PySem.W.isFn K (.ref (He.ma K (He.ga K "Kindbook") "finer")),
 λ K=>Hz.gq K "_law_finer_error",
 λ K=>Hz.gq K "_law_unknown"]
def á2:List (Hz.Fg→Bool):=[λ K=>Hz.gq K "_law_led_on",
 λ K=>He.eqO (PySem.W.findIn K (.ref (He.ga K "Kindbook")) "check_row") (some (some (.ref (He.ma K (He.ga K "Kindbook") "check_row")))),
 λ K=>PySem.W.isFn K (.ref (He.ma K (He.ga K "Kindbook") "check_row")),
 λ K=>He.eqO (PySem.W.findIn K (.ref (He.ga K "Kindbook")) "__init__") (some (some (.ref (He.ma K (He.ga K "Kindbook") "__init__")))),
 λ K=>PySem.W.isFn K (.ref (He.ma K (He.ga K "Kindbook") "__init__")),
 λ K=>Hz.gq K "law",
 λ K=>PySem.W.plainGet K (He.ga K "Kindbook") Str.empty,
 λ K=>PySem.W.hasDictIn K (He.ga K "Kindbook"),
 λ K=>PySem.W.plainOver K (He.ga K "Kindbook"),
 λ K=>decide (PySem.W.findIn K (.ref (He.ga K "Kindbook")) "__setattr__" =some (some (.builtin "object.__setattr__"))),
 λ K=>decide (PySem.W.findIn K (.ref (He.ga K "Kindbook")) "names" =some none),
 λ K=>decide (PySem.W.findIn K (.ref (He.ga K "Kindbook")) "rows" =some none),
 λ K=>PySem.W.readsIn K (He.ga K "Kindbook") (.type "type"),
 λ K=>decide (PySem.W.specialIn K (.ref (He.ga K "Kindbook")) "__getattribute__" =some (some (.builtin "type.__getattribute__"))),
 λ K=>Hz.ÔA K (He.ga K "Kindbook") "MOST" 5,
 λ K=>Hz.ÔA K (He.ga K "Kindbook") "MOST_SIZE" 4,
 λ K=>PySem.W.makesIn K (He.ga K "Kindbook"),
 λ K=>PySem.W.keepIn K (.ref (He.ga K "Kindbook")),
 λ K=>Hz.gq K "DuplicateName",
 λ K=>Hz.gq K "InvalidKind",
 λ K=>Hz.gq K "InvalidName",
 λ K=>Hz.gq K "TooMany",
 λ K=>Hz.gq K "UnknownName",
 λ K=>PySem.W.excIn K (He.ga K "InvalidName") [.type "ValueError",.type "Exception",.type "BaseException",.type "object"] "ValueError.__new__",
 λ K=>PySem.W.keepIn K (.ref (He.ga K "InvalidName")),
 λ K=>decide (PySem.W.subIn K (.ref (He.ga K "InvalidName")) (.type "BaseException")=some true),
 λ K=>decide (PySem.W.typeIn K (.ref (He.ga K "InvalidName"))=some (.type "type")),
 λ K=>PySem.W.excIn K (He.ga K "InvalidKind") [.type "ValueError",.type "Exception",.type "BaseException",.type "object"] "ValueError.__new__",
 λ K=>PySem.W.keepIn K (.ref (He.ga K "InvalidKind")),
 λ K=>decide (PySem.W.subIn K (.ref (He.ga K "InvalidKind")) (.type "BaseException")=some true)]
def á3:List (Hz.Fg→Bool):=[λ K=>decide (PySem.W.typeIn K (.ref (He.ga K "InvalidKind"))=some (.type "type")),
 λ K=>PySem.W.excIn K (He.ga K "TooMany") [.type "ValueError",.type "Exception",.type "BaseException",.type "object"] "ValueError.__new__",
 λ K=>PySem.W.keepIn K (.ref (He.ga K "TooMany")),
 λ K=>decide (PySem.W.subIn K (.ref (He.ga K "TooMany")) (.type "BaseException")=some true),
 λ K=>decide (PySem.W.typeIn K (.ref (He.ga K "TooMany"))=some (.type "type")),
 λ K=>PySem.W.excIn K (He.ga K "DuplicateName") [.type "ValueError",.type "Exception",.type "BaseException",.type "object"] "ValueError.__new__",
 λ K=>PySem.W.keepIn K (.ref (He.ga K "DuplicateName")),
 λ K=>decide (PySem.W.subIn K (.ref (He.ga K "DuplicateName")) (.type "BaseException")=some true),
 λ K=>decide (PySem.W.typeIn K (.ref (He.ga K "DuplicateName"))=some (.type "type")),
 λ K=>PySem.W.excIn K (He.ga K "UnknownName") [.type "ValueError",.type "Exception",.type "BaseException",.type "object"] "ValueError.__new__",
 λ K=>PySem.W.keepIn K (.ref (He.ga K "UnknownName")),
 λ K=>decide (PySem.W.subIn K (.ref (He.ga K "UnknownName")) (.type "BaseException")=some true),
 λ K=>decide (PySem.W.typeIn K (.ref (He.ga K "UnknownName"))=some (.type "type")),
 λ K=>PySem.W.hasDictIn K (He.ga K "UnknownName"),
 λ K=>Hz.sb K "InvalidName" "UnknownName" false,
 λ K=>Hz.sb K "InvalidKind" "UnknownName" false,
 λ K=>Hz.sb K "TooMany" "UnknownName" false,
 λ K=>Hz.sb K "DuplicateName" "UnknownName" false,
 λ K=>Hz.sb K "UnknownName" "UnknownName" true,
 λ K=>Hz.no K "bool",
 λ K=>Hz.no K "int",
 λ K=>Hz.no K "isinstance",
 λ K=>Hz.no K "len",
 λ K=>Hz.no K "list",
 λ K=>Hz.no K "range",
 λ K=>Hz.no K "str",
 λ K=>Hz.no K "tuple",
 λ K=>Hz.isStr (Str.ofString "abcdefghijklmnopqrstuvwxyz") (PySem.W.nsIn K mainGlobals "LETTERS"),
 λ K=>Hz.isInt 8 (PySem.W.nsIn K mainGlobals "MOST_LETTERS"),
 λ K=>Hz.isStr (Str.ofString "?") (PySem.W.nsIn K mainGlobals "UNKNOWN")]
def fz:List (Hz.Fg→Bool):=á1++(á2++(á3))
def á4:List Hz.Fd:=[Hz.Ãr (λ K=>He.ga K "is_name") "is_name" "is_name" Í8,
 Hz.Ãr (λ K=>He.ga K "check_name") "check_name" "check_name" Ê3,
 Hz.Ãr (λ K=>He.ga K "_law_draws") "_law_draws" "_law_draws" Ê4,
 Hz.Ãr (λ K=>He.ga K "_law_draw") "_law_draw" "_law_draw" Ë3,
 Hz.Ãr (λ K=>He.ga K "_law_pick") "_law_pick" "_law_pick" Ë4,
 Hz.Ãr (λ K=>He.ga K "_law_same") "_law_same" "_law_same" Ë5,
 Hz.Ãr (λ K=>He.ga K "_law_names") "_law_names" "_law_names" Ê5,
 Hz.Ãr (λ K=>He.ga K "_law_book") "_law_book" "_law_book" È7,
 Hz.Ãr (λ K=>He.ga K "_law_row") "_law_row" "_law_row" Ì6,
 Hz.Ãr (λ K=>He.ga K "_law_members") "_law_members" "_law_members" Ço,
 Hz.Ãr (λ K=>He.ga K "_law_led") "_law_led" "_law_led" Ì7,
 Hz.Ãr (λ K=>He.ma K (He.ga K "Kindbook") "checked") "checked" "Kindbook.checked" Æ7,
 Hz.Ãr (λ K=>He.ma K (He.ga K "Kindbook") "parent_of") "parent_of" "Kindbook.parent_of" ÅM,
 Hz.Ãr (λ K=>He.ma K (He.ga K "Kindbook") "leads_of") "leads_of" "Kindbook.leads_of" Æf,
 Hz.Ãr (λ K=>He.ma K (He.ga K "Kindbook") "led") "led" "Kindbook.led" È8,
 Hz.Ãr (λ K=>He.ga K "_law_led_error") "_law_led_error" "_law_led_error" Ç6,
 Hz.Ãr (λ K=>He.ma K (He.ga K "Kindbook") "chain_of") "chain_of" "Kindbook.chain_of" Æg,
 Hz.Ãr (λ K=>He.ma K (He.ga K "Kindbook") "below") "below" "Kindbook.below" Ç7,
 Hz.Ãr (λ K=>He.ga K "_law_below_error") "_law_below_error" "_law_below_error" Æ8,
 Hz.Ãr (λ K=>He.ma K (He.ga K "Kindbook") "finer") "finer" "Kindbook.finer" Ç8,
 Hz.Ãr (λ K=>He.ga K "_law_finer_error") "_law_finer_error" "_law_finer_error" Æ9,
 Hz.Ãr (λ K=>He.ga K "_law_unknown") "_law_unknown" "_law_unknown" È9,
 Hz.Ãr (λ K=>He.ga K "_law_led_on") "_law_led_on" "_law_led_on" ÉV,
 Hz.Ãr (λ K=>He.ma K (He.ga K "Kindbook") "check_row") "check_row" "Kindbook.check_row" ÅN,
 Hz.Ãr (λ K=>He.ma K (He.ga K "Kindbook") "__init__") "__init__" "Kindbook.__init__" Æh,
 ⟨λ K=>He.ga K "law", "law", "law",defArgs Èe,defBody Èe,defScope Èe,λ K=>.none⟩]
def fn:List Hz.Fd:=á4
def á5:List PySem.Str:=["_wall", "FormroadsError", "InvalidName", "DuplicateName", "UnknownName", "TooMany", "InvalidKind", "LETTERS", "MOST_LETTERS", "is_name", "check_name", "UNKNOWN", "Kindbook", "_law_draws", "_law_draw", "_law_pick", "_law_same", "_law_names", "_law_book", "_law_row", "_law_members", "_law_led", "_law_led_error", "_law_below_error", "_law_finer_error", "_law_unknown", "_law_led_on"]
def nms:List PySem.Str:=á5
abbrev R : PySem.W.OpenRow := PySem.W.OpenLaw.row PySem.Challenge.rw_formroads_k02_led_and_below
theorem run (w:World):HandSHeadRun.RunEq R (PySem.W.view R.prog [31]) (Hz.hook 5 fz fn) (λ s=>Hz.eye 5 fz fn (HandSHeadRun.getT s)) 20000 nms w:=by
 intro os
 kernel_rfl
end Èf
namespace Fr
open PySem PySem.Spec PyProof.Rows L2
def Ě (s:Sl):List Nat→Sl
 | []=>s
 |v::vs=>(Ě s vs).set v none
def lcT (g:Ā) (tt:ï) (e:Exp) (s0:Sl) (D:Nat) (x:W) (S:Å):Option Å:=match g x s0 with
 |none=>none
 |some s1=>match tt s1 S with
  | .ok true S2=>match e s1 S2 with
   | .ok w S3=>match S3[D]? with
    |some (.lst acc)=>if acc.length<sizeLine then some (S3.set D (.lst (acc++[w]))) else none
    |_=>none
   |_=>none
  | .ok false S2=>some S2
  |_=>none
def lcV (g:Ā) (tt:ï) (e:Exp) (s0:Sl) (D:Nat):List W→Å→Option Å
 | [],S=>some S
 |x::xs,S=>match lcT g tt e s0 D x S with
  |some S'=>lcV g tt e s0 D xs S'
  |none=>none
def lcN (g:Ā) (tt:ï) (e:Exp) (s0:Sl) (D n:Nat) (f:Nat→Å→Option W) (c:Å→Bool):Nat→Å→Option Å
 |0,S=>if c S=true then some S else none
 |k+1,S=>match f (n-(k+1)) S with
  |none=>none
  |some x=>match lcT g tt e s0 D x S with
   |some S'=>lcN g tt e s0 D n f c k S'
   |none=>none
def Êo (a n:Nat) (i:Nat) (S:Å):Option W:=match S[a]? with
 |some (.lst zs)=>if zs.length=n then zs[i]? else none
 |_=>none
def Êp (a n:Nat) (S:Å):Bool:=match S[a]? with
 |some (.lst zs)=>zs.length==n
 |_=>false
def Ë6 (D:Nat) (o:Option Å):Rs W:=match o with
 |some S=>.ok (.ref D) S
 |none=>.bad
def eLc (it:Sl→M Src) (g:Ā) (tt:ï) (e:Exp) (vs:List Nat):Exp:=λ s S=>match it s S with
 | .ok (.vals xs) S1=>Ë6 S1.length (lcV g tt e (Ě s vs) S1.length xs (S1++[.lst []]))
 | .ok (.live a) S1=>match S1[a]? with
  |some (.lst ys)=>Ë6 S1.length (lcN g tt e (Ě s vs) S1.length ys.length (Êo a ys.length) (Êp a ys.length) ys.length (S1++[.lst []]))
  |_=>.bad
 | .ok (.gen n f c) S1=>Ë6 S1.length (lcN g tt e (Ě s vs) S1.length n f c n (S1++[.lst []]))
 | .ex x d S1=>.ex x d S1
 | .bad=>.bad
def tYs:ï:=λ _=>rt true
section
theorem Ô0 (g:Ā) (tt:ï) (e:Exp) (s0:Sl) (D:Nat) (xs:List W):∀ (k:Nat) (S:Å),k≤xs.length→lcN g tt e s0 D xs.length (λ i _=>xs[i]?) (λ _=>true) k S=lcV g tt e s0 D (xs.drop (xs.length-k)) S
 |0,S,_=>by simp[lcN,lcV]
 |k+1,S,h=>by
  unfold lcN
  have hi:xs.length-(k+1)<xs.length:=by omega
  rw[List.getElem?_eq_getElem hi,List.drop_eq_getElem_cons hi]
  unfold lcV
  have e1:xs.length-(k+1)+1=xs.length-k:=by omega
  simp only[e1]
  cases lcT g tt e s0 D xs[xs.length-(k+1)] S with
  |none=>rfl
  |some S'=>exact Ô0 g tt e s0 D xs k S' (by omega)
theorem ÓX {i:Nat} {o:Option V}:∀ {vs:List Nat} {t:L2.St},i∉vs→wipe (t.set i o) vs=(wipe t vs).set i o
 | [],t,_=>rfl
 |v::vs,t,h=>by
  have h1:i≠v:=λ e=>h (by simp[e])
  have h2:i∉vs:=λ e=>h (List.mem_cons_of_mem _ e)
  show (wipe (t.set i o) vs).set v none=((wipe t vs).set v none).set i o
  rw[ÓX h2,List.set_comm _ _ h1]
theorem Ñt {i:Nat} {o:Option V}:∀ {vs:List Nat} {t:L2.St},i∈vs→wipe (t.set i o) vs=wipe t vs
 | [],t,h=>by simp at h
 |v::vs,t,h=>by
  show (wipe (t.set i o) vs).set v none=(wipe t vs).set v none
  by_cases hi:i∈vs
  ·rw[Ñt hi]
  ·have:i=v:=by simpa[hi] using h
   subst this
   rw[ÓX hi,List.set_set]
theorem ÓY:∀ (us vs:List Nat) (t:L2.St),(∀u∈us,u∈vs)→wipe (wipe t us) vs=wipe t vs
 | [],vs,t,_=>rfl
 |u::us,vs,t,h=>by
  show wipe ((wipe t us).set u none) vs=_
  rw[Ñt (h u (by simp))]
  exact ÓY us vs t λ x hx=>h x (List.mem_cons_of_mem _ hx)
variable{Wd:World}{K:PySem.W.Frag}{mg:Str→Option Value}{m m1:List Addr}{H H1:Hp}
theorem RSl.wipe {s:Sl} {t:L2.St}:∀ (vs:List Nat),RSl K mg m H s t→RSl K mg m H (Ě s vs) (L2.wipe t vs)
 | [],h=>h
 |v::vs,h=>(h.wipe vs).drop
theorem ÞD {J:It} {xs:List W} (h:JV Wd K mg J m H xs):JG Wd K mg J m H xs.length (λ i _=>xs[i]?) (λ _=>true):=by
 intro m' H' S e sm
 refine ⟨λ i w hi hw=>?_,λ _=>(h m' H' e _).2 (Nat.le_refl _)⟩
 obtain ⟨h1,h2⟩:=(h m' H' e i).1 w hw
 exact ⟨h1,λ x H2 y=>let ⟨q1,q2,q3⟩:=h2 x H2 y;⟨q1,q2,q3 _ sm⟩⟩
theorem ÞE {J:It} {a n:Nat} (h:JL Wd K mg J m H a):JG Wd K mg J m H n (Êo a n) (Êp a n):=by
 intro m' H' S e sm
 refine ⟨λ i w hi hw=>?_,λ hc=>?_⟩
 ·unfold Êo at hw
  split at hw
  ·rename_i zs hS
   split at hw
   ·obtain ⟨h1,h2⟩:=(h m' H' S zs e sm hS i).1 w hw
    exact ⟨h1,λ x H2 y=>by obtain ⟨rfl,q⟩:=h2 x H2 y;exact ⟨q,.refl _ _,sm⟩⟩
   ·cases hw
  ·cases hw
 ·unfold Êp at hc
  split at hc
  ·rename_i zs hS
   have:zs.length=n:=beq_iff_eq.mp hc
   exact (h m' H' S zs e sm hS n).2 (by omega)
  ·cases hc
def GOK (Wd:World) (K:PySem.W.Frag) (mg:Str→Option Value) (vs:List Nat) (g:TG) (gm:Ā):Prop:=∀ (v:V) (w:W) (s s2:Sl) (t:L2.St) (m:List Addr) (S:Å) (H:Hp) (Q:L2.St→Hp→Prop),ĕ Wd K mg m S H→RV K mg m H w v→RSl K mg m H s t→gm w s=some s2→
 (∀t',RSl K mg m H s2 t'→L2.wipe t' vs=L2.wipe t vs→Q t' H)→g v t H Q
theorem Ë7 {vs:List Nat} {i:Nat} (h:i∈vs:=by decide):GOK Wd K mg vs (gName i) (gN i):=by
 intro v w s s2 t m S H Q sim r l e q
 cases e
 exact q _ (l.set r) (Ñt h)
end
abbrev STs (X:Cx) (C:Cc) (ifs:List Expr) (f:ï):Prop:=PTs X ifs (tG X.w X.K X.mg eqR C f)
section
variable{X:Cx}{C:Cc}{a:Expr}{ft:ï}
theorem PTs.imp {e:List Expr} {t t':TT} (h:PTs X e t) (k:∀ s H Q,t' s H Q→t s H Q):PTs X e t':=⟨λ pins s σ H Q I q=>h.run pins s σ H Q I (k _ _ _ q)⟩
theorem Ðp:STs X C [] tYs:=by
 refine PTs.imp pts_nil λ s' H Q h=>?_
 obtain ⟨m,S,s,z,sim,sl,w⟩:=h
 exact w.ok sim rfl
theorem ÞF (h:ST X C a ft):STs X C [a] ft:=pts_one h
theorem ÝN {elt tg iter:Expr} {ifs:List Expr} {scope:Scope} {own:List (Str×Nat)} {pos:Pos} {it:Sl→M Src} {gg:TG} {g:Ā} {tt:ï} {e:Exp} {vs:List Nat} (hc:X.calm=true) (hN:X.N.Nodup) (hvs:own.map (·.2)=vs) (hi:SI X C tg iter it) (ok:BlkOk X.N X.env.scope scope own)
  (hg:∀ (s:Shared) (H:Hp) (Ca:Addr) (cl:List (Str×Addr)) (fp:List Addr),PG (X.blk s H scope (compEnvC scope cl Ca X.env) fp) tg gg) (hk:GOK X.w X.K X.mg vs gg g)
  (ht:∀ (s:Shared) (H:Hp) (Ca:Addr) (cl:List (Str×Addr)) (fp:List Addr),STs (X.blk s H scope (compEnvC scope cl Ca X.env) fp) cS ifs tt)
  (he:∀ (s:Shared) (H:Hp) (Ca:Addr) (cl:List (Str×Addr)) (fp:List Addr),SE (X.blk s H scope (compEnvC scope cl Ca X.env) fp) cS elt e) (hs:∀ x,foldedSetIterable iter X.env x=pure x:=by intro _;rfl):
  SE X C (.ListComp elt [⟨tg,iter,ifs,0⟩] scope pos) (eLc it g tt e vs)∧
  ∀ {i:Nat} {y:Str} {py spos:Pos},X.N[i]?=some y→X.env.scope.names.lookup y=some .local→swapsWith (.ListComp elt [⟨tg,iter,ifs,0⟩] scope pos) (some (.Name y py)) spos.line X.env=pure true→(∀t v,C.Z t→C.Z (t.set i v))→
   SS X C (.Assign [.Name y py] (.ListComp elt [⟨tg,iter,ifs,0⟩] scope pos) spos) (Ô i (eLc it g tt e vs)):=by
 subst hvs
 have core:∀ (s':L2.St) (H:Hp) (Q:VK),tG X.w X.K X.mg (RV X.K X.mg) C (eLc it g tt e (own.map (·.2))) s' H Q→
   tLc (tG X.w X.K X.mg (RJ X.w X.K X.mg) C it) gg (tG X.w X.K X.mg eqR cS tt) (tG X.w X.K X.mg (RV X.K X.mg) cS e) (own.map (·.2)) s' H Q:=by
  intro s' H Q h
  obtain ⟨m,S,s,z,sim,sl,w⟩:=h
  refine ⟨m,S,s,z,sim,sl,?_⟩
  have turn:∀ {n:Nat} {f:Nat→Å→Option W} {c:Å→Bool} {J:It} {m1:List Addr} {H1:Hp} {S1 Sf:Å},Ext m H m1 H1→ĕ X.w X.K X.mg m1 S1 H1→JG X.w X.K X.mg J m1 H1 n f c→
    lcN g tt e (Ě s (own.map (·.2))) S1.length n f c n (S1++[.lst []])=some Sf→WG X.w X.K X.mg (RV X.K X.mg) (.ok (.ref S1.length) Sf) m1 H1 Q (λ c d H'=>C.Wx c d s' H')→
    ∀D,H1 D=none→∃ W:Nat→Nat→Hp→Prop,(∃m,W 0 m (upd H1 D (.lst [])))∧∀ i m H,W i m H→
     (J.stop i H∧Q (.ref D) H)∨(J.go i H∧∃ Nx:Hp→Prop,(∀H',Nx H'→∃ m',m'<m∧W (i+1) m' H')∧∀ x H',J.yld i H x H'→gg x (wipe s' (own.map (·.2))) H' λ σ2 H2=>wipe σ2 (own.map (·.2))=wipe s' (own.map (·.2))∧(tG X.w X.K X.mg eqR cS tt) σ2 H2 λ b H3=>
      if b=true then (tG X.w X.K X.mg (RV X.K X.mg) cS e) σ2 H3 λ y H4=>∃ acc,H4 D=some (.lst acc)∧acc.length<sizeLine∧Nx (upd H4 D (.lst (acc++[y]))) else Nx H3):=by
   intro n f c J m1 H1 S1 Sf e1 s1 hj hl wq D hD
   have eN:Ext m1 H1 (m1++[D]) (upd H1 D (.lst [])):=Ext.new hD
   have sN:ĕ X.w X.K X.mg (m1++[D]) (S1++[.lst []]) (upd H1 D (.lst [])):=s1.new hD ⟨[],upd_same,.nil⟩
   refine ⟨λ i k H=>k=n-i∧i≤n∧∃ mm SS,Ext (m1++[D]) (upd H1 D (.lst [])) mm H∧ĕ X.w X.K X.mg mm SS H∧lcN g tt e (Ě s (own.map (·.2))) S1.length n f c (n-i) SS=some Sf,
    ⟨n,by simp,Nat.zero_le _,m1++[D],_,.refl _ _,sN,by simpa using hl⟩,?_⟩
   rintro i k H2 ⟨rfl,hle,mm,SS,e2,s2,l2⟩
   have hmD:mm[S1.length]?=some D:=e2.get (by rw[←s1.len];simp)
   have lw:RSl X.K X.mg mm H2 (Ě s (own.map (·.2))) (wipe s' (own.map (·.2))):=(sl.wipe _).mono ((e1.trans eN).trans e2)
   by_cases hi:i<n
   ·obtain ⟨q,hq⟩:∃ q,n-i=q+1:=⟨n-i-1,by omega⟩
    rw[hq] at l2
    unfold lcN at l2
    have hi':n-(q+1)=i:=by omega
    rw[hi'] at l2
    have hq':q=n-(i+1):=by omega
    cases hx:f i SS with
    |none=>simp only[hx] at l2;cases l2
    |some x0=>
     simp only[hx] at l2
     obtain ⟨go,hy⟩:=(hj mm H2 SS (eN.trans e2) s2).1 i x0 hi hx
     refine .inr ⟨go,λ H=>∃ mm SS,Ext (m1++[D]) (upd H1 D (.lst [])) mm H∧ĕ X.w X.K X.mg mm SS H∧lcN g tt e (Ě s (own.map (·.2))) S1.length n f c q SS=some Sf,
      λ H' hN=>⟨n-(i+1),by omega,rfl,by omega,by rw[←hq'];exact hN⟩,λ x H3 y=>?_⟩
     obtain ⟨rx,e3,s3⟩:=hy x H3 y
     cases hT:lcT g tt e (Ě s (own.map (·.2))) S1.length x0 SS with
     |none=>simp only[hT] at l2;cases l2
     |some S'=>
      simp only[hT] at l2
      unfold lcT at hT
      cases hgx:g x0 (Ě s (own.map (·.2))) with
      |none=>simp only[hgx] at hT;cases hT
      |some s5=>
       simp only[hgx] at hT
       refine hk x x0 _ s5 _ mm SS H3 _ s3 rx (lw.mono e3) hgx λ t lt ewt=>⟨?_,mm,SS,s5,trivial,s3,lt,?_⟩
       ·rw[ewt];exact ÓY _ _ _ λ u hu=>hu
       ·cases htt:tt s5 SS with
        |ok b S6=>
         rw[htt] at hT
         intro m6 H6 b' e6 s6 rb
         cases rb
         cases b with
         |true=>
          rw[if_pos rfl]
          simp only at hT
          refine ⟨m6,S6,s5,trivial,s6,lt.mono e6,?_⟩
          cases hee:e s5 S6 with
          |ok w7 S7=>
           rw[hee] at hT
           simp only at hT
           intro m7 H7 v7 e7 s7 r7
           cases hS7:S7[S1.length]? with
           |none=>rw[hS7] at hT;cases hT
           |some o7=>
            cases o7 with
            |lst acc=>
             rw[hS7] at hT
             simp only at hT
             split at hT
             ·rename_i hacc
              cases hT
              have eD:Ext mm H2 m7 H7:=(e3.trans e6).trans e7
              obtain ⟨D',hD',vs7,hv7,rv7⟩:=s7.at hS7
              rw[eD.get hmD] at hD'
              cases hD'
              have ec:Ext m7 H7 m7 (upd H7 D (.lst (vs7++[v7]))):=Ext.chg hv7 (λ _ z=>nomatch z) (λ _ _ z=>nomatch z)
              refine ⟨vs7,hv7,by rw[←rv7.length];exact hacc,m7,_,(e2.trans eD).trans ec,?_,l2⟩
              exact s7.chg (eD.get hmD) hv7 (λ _ z=>nomatch z) (λ _ _ z=>nomatch z) ⟨vs7++[v7],upd_same,(rv7.append (.cons r7 .nil)).mono ec⟩
             ·cases hT
            |_=>rw[hS7] at hT;cases hT
          |ex _ _ _=>rw[hee] at hT;cases hT
          |bad=>rw[hee] at hT;cases hT
         |false=>
          rw[if_neg Bool.false_ne_true]
          simp only at hT
          cases hT
          exact ⟨m6,_,(e2.trans e3).trans e6,s6,l2⟩
        |ex _ _ _=>rw[htt] at hT;cases hT
        |bad=>rw[htt] at hT;cases hT
   ·have hq:n-i=0:=by omega
    have hin:i=n:=by omega
    rw[hq] at l2
    unfold lcN at l2
    split at l2
    ·rename_i hcc
     cases l2
     subst hin
     refine .inl ⟨(hj mm H2 _ (eN.trans e2) s2).2 hcc,wq mm H2 (.ref D) (eN.trans e2) s2 ?_⟩
     unfold RV
     exact ⟨D,hmD,rfl⟩
    ·cases l2
  unfold eLc at w
  cases hit:it s S with
  |ex x d S1=>rw[hit] at w;exact w
  |bad=>rw[hit] at w;exact w
  |ok src S1=>
   rw[hit] at w
   intro m1 H1 J e1 s1 r
   cases src with
   |vals xs=>
    have hj:JV X.w X.K X.mg J m1 H1 xs:=r
    simp only at w
    cases hl:lcV g tt e (Ě s (own.map (·.2))) S1.length xs (S1++[.lst []]) with
    |none=>rw[hl] at w;exact False.elim w
    |some Sf=>
     rw[hl] at w
     refine turn e1 s1 (ÞD hj) ?_ (w.shift e1)
     rw[Ô0 _ _ _ _ _ _ _ _ (Nat.le_refl _)]
     simpa using hl
   |live b=>
    have hj:JL X.w X.K X.mg J m1 H1 b:=r
    simp only at w
    cases hS:S1[b]? with
    |none=>rw[hS] at w;exact False.elim w
    |some o=>
     cases o with
     |lst ys=>
      rw[hS] at w
      simp only at w
      cases hl:lcN g tt e (Ě s (own.map (·.2))) S1.length ys.length (Êo b ys.length) (Êp b ys.length) ys.length (S1++[.lst []]) with
      |none=>rw[hl] at w;exact False.elim w
      |some Sf=>rw[hl] at w;exact turn e1 s1 (ÞE hj) hl (w.shift e1)
     |_=>rw[hS] at w;exact False.elim w
   |gen n f c=>
    have hj:JG X.w X.K X.mg J m1 H1 n f c:=r
    simp only at w
    cases hl:lcN g tt e (Ě s (own.map (·.2))) S1.length n f c n (S1++[.lst []]) with
    |none=>rw[hl] at w;exact False.elim w
    |some Sf=>rw[hl] at w;exact turn e1 s1 hj hl (w.shift e1)
 refine ⟨PE.imp (pe_lc (tt:=tG X.w X.K X.mg eqR cS tt) (te:=tG X.w X.K X.mg (RV X.K X.mg) cS e) hc hN hi ok hg ht he hs) core,λ {i y py spos} hy hyl hsw hz=>?_⟩
 refine PS.imp (ps_setLc (tt:=tG X.w X.K X.mg eqR cS tt) (te:=tG X.w X.K X.mg (RV X.K X.mg) cS e) hc hN hy hyl hsw hi ok hg ht he hs) λ D s' H h=>?_
 obtain ⟨m,S,s,z,sim,sl,w⟩:=h
 exact core s' H _ ⟨m,S,s,z,sim,sl,w.â z sl λ u S1 m1 H1 v e1 s1 r w1=>w1.nx (hz _ _ z) s1 ((sl.mono e1).set r)⟩
end
end Fr
namespace Fr
open PySem
section
variable{M:Model}{A:Around}{E:Value→Shared→Prop}{s:Shared}{env:Env}
end
open PySem PySem.Spec PyProof.Rows L2
section
variable{M:Model}{A:Around}{E:Value→Shared→Prop}{s:Shared}{Z:Obj→Prop}{base:Heap}{env:Env}{outer l:List Env}{L e:Addr}
end
section
variable{X:Cx}{pins:List (Addr×Obj)}{σ:L2.St}{H3 H':Hp}{s3 s':Shared}{scope:Scope}{ce:Env}{fp:List Addr}{xe:Value→Shared→Prop}
end
section
variable{X:Cx}
end
section
variable{X:Cx}{C:Cc}
end
end Fr
namespace Fr
open PySem PySem.Spec PyProof.Rows L2 RT RZ
def Ùw (x y:W) (i:Nat) (S:Å):Option W:=match getL S x,getL S y with
 |some xs,some ys=>match xs[i]?,ys[i]? with
  |some a,some b=>some (.tup [a,b])
  |_,_=>none
 |_,_=>none
def Ùx (x y:W) (n:Nat) (S:Å):Bool:=match getL S x,getL S y with
 |some xs,some ys=>decide (xs.length≤n∨ys.length≤n)
 |_,_=>false
def Éa (ws:List W):M Src:=match ws with
 | [.tup xs,.tup ys]=>rt (.vals (List.zipWith (λ a b=>W.tup [a,b]) xs ys))
 | [x,y]=>λ S=>match getL S x,getL S y with
  |some xs,some ys=>.ok (.gen (min xs.length ys.length) (Ùw x y) (Ùx x y (min xs.length ys.length))) S
  |_,_=>.bad
 |_=>bad
def iZip (f:Arg):Sl→M Src:=λ s=>bd (f s) Éa
def ßM (x:W) (n:Nat) (i:Nat) (S:Å):Option W:=match getL S x with
 |some xs=>xs[n-1-i]?
 |none=>none
def Ì8 (x:W):M Src:=match x with
 | .tup xs=>rt (.vals xs.reverse)
 |x=>λ S=>match getL S x with
  |some xs=>.ok (.gen xs.length (ßM x xs.length) (λ _=>true)) S
  |none=>.bad
def iRev (f:Exp):Sl→M Src:=λ s=>bd (f s) Ì8
section
variable{Wd:World}{K:PySem.W.Frag}{mg:Str→Option Value}{m m':List Addr}{H H':Hp}{S:Å}
end
section
variable{X:Cx}{C:Cc}{pos pos' p tpos:Pos}{a b tg iter e e2:Expr}{es elts:List Expr}{fe fa fb fc:Exp}{fr:Arg}{kk:Nat}
end
def ÄK:Key→W
 | .inl i=>.int i
 | .inr x=>.str x
def ÁH (ws:List W):M W:=match ws with
 | [.tup xs]=>new (.lst xs)
 | [.fl xs]=>new (.lst xs)
 | [.ref n]=>λ S=>match S[n]? with
  |some (.lst xs)=>new (.lst xs) S
  |some (.dK kvs)=>new (.lst (kvs.map λ kv=>ÄK kv.1)) S
  |_=>.bad
 |_=>bad
def Ń (ws:List W):M W:=match ws with
 | [.tup xs]=>rt (.tup xs)
 | [.fl xs]=>rt (.tup xs)
 | [.ref n]=>λ S=>match S[n]? with
  |some (.lst xs)=>.ok (.tup xs) S
  |_=>.bad
 |_=>bad
def Ód (ws:List W):M W:=match ws with
 | [.int i,.int j]=>if 0<j∧inR 1073741823 j=true then rt (.tup [.int (i/j),.int (i%j)]) else bad
 |_=>bad
def Û1 (ws:List W):M W:=match ws with
 | [.int i]=>if i.natAbs.log2<1920 then rt (.str (toString i)) else bad
 |_=>bad
def intsOf:List W→Option (List Int)
 | []=>some []
 | .int a::ws=>(intsOf ws).map (a::·)
 |_=>none
def Ùy (ws:List W):M W:=match ws with
 | [.int i,.int j]=>rt (.int (if j<i then j else i))
 |_=>bad
def Ùz (ws:List W):M W:=match ws with
 | [.int i,.int j]=>rt (.int (if j>i then j else i))
 |_=>bad
def Ô1 (ws:List W):M W:=match ws with
 | [w]=>λ S=>match getL S w with
  |some xs=>match intsOf xs with
   |some ns=>.ok (.int ns.sum) S
   |none=>.bad
  |none=>.bad
 |_=>bad
def Ñu {α:Type} (le:α→α→Bool) (a:α):List α→List α
 | []=>[a]
 |b::l=>if le a b=true then a::b::l else b::Ñu le a l
def ÙA {α:Type} (le:α→α→Bool) (l:List α):List α:=l.foldr (Ñu le) []
theorem Ït {α:Type} (le:α→α→Bool) (a:α):∀ l:List α,(Ñu le a l).Perm (a::l)
 | []=>.refl _
 |b::l=>by
  unfold Ñu
  split
  ·exact .refl _
  ·exact ((Ït le a l).cons b).trans (.swap a b l)
theorem Ëz {α:Type} (le:α→α→Bool):∀ l:List α,(ÙA le l).Perm l
 | []=>.refl _
 |a::l=>(Ït le a _).trans ((Ëz le l).cons a)
theorem Øq {α:Type} {le:α→α→Bool} (ht:∀ a b c,le a b=true→le b c=true→le a c=true) (hn:∀ a b,le a b=false→le b a=true) (a:α):∀ l:List α,l.Pairwise (λ x y=>le x y=true)→(Ñu le a l).Pairwise (λ x y=>le x y=true)
 | [],_=>by simp[Ñu]
 |b::l,h=>by
  have h1:=List.pairwise_cons.mp h
  unfold Ñu
  split
  ·rename_i hab
   refine List.pairwise_cons.mpr ⟨λ x hx=>?_,h⟩
   rcases List.mem_cons.mp hx with rfl|hx
   ·exact hab
   ·exact ht _ _ _ hab (h1.1 x hx)
  ·rename_i hab
   refine List.pairwise_cons.mpr ⟨λ x hx=>?_,Øq ht hn a l h1.2⟩
   rcases List.mem_cons.mp ((Ït le a l).mem_iff.mp hx) with rfl|hx
   ·exact hn _ _ (by simpa using hab)
   ·exact h1.1 x hx
theorem Ô2 {α:Type} {le:α→α→Bool} (ht:∀ a b c,le a b=true→le b c=true→le a c=true) (hn:∀ a b,le a b=false→le b a=true):∀ l:List α,(ÙA le l).Pairwise (λ x y=>le x y=true)
 | []=>.nil
 |a::l=>Øq ht hn a _ (Ô2 ht hn l)
def leI (a b:Int):Bool:=decide (a≤b)
def sortI (ns:List Int):List Int:=ÙA leI ns
def Íw (ws:List W):M W:=match ws with
 | [w]=>λ S=>match getL S w with
  |some xs=>match intsOf xs with
   |some ns=>new (.lst ((sortI ns).map .int)) S
   |none=>.bad
  |none=>.bad
 |_=>bad
section
variable{Wd:World}{K:PySem.W.Frag}{mg:Str→Option Value}{m m':List Addr}{H H':Hp}{S:Å}
theorem Ĩ.keys:∀ {kvs:List (Key×W)} {vs:List (Key×V)},Ĩ K mg m H kvs vs→î K mg m H (kvs.map λ kv=>ÄK kv.1) (vs.map λ kv=>kV kv.1)
 | [],_,h=>by
  unfold Ĩ at h
  subst h
  exact .nil
 |(k,w)::kvs,_,h=>by
  unfold Ĩ at h
  obtain ⟨v,r,rfl,h1,h2⟩:=h
  refine .cons ?_ h2.keys
  cases k with
  |inl i=>exact è.2 rfl
  |inr i=>exact Ī.2 rfl
end
theorem Ñv (ns:List Int):(sortI ns).Pairwise (·≤ ·):=
 (Ô2 (le:=leI) (λ a b c h h'=>by unfold leI at *;simp at *;omega) (λ a b h=>by unfold leI at *;simp at *;omega) ns).imp (by intro a b h;unfold leI at h;simpa using h)
theorem Ô3 {ns ns':List Int} (h1:ns'.Perm ns) (h2:ns'.Pairwise (·≤ ·)):ns'=sortI ns:=
 (h1.trans (Ëz leI ns).symm).eq_of_pairwise (λ a b _ _ h h'=>Int.le_antisymm h h') h2 (Ñv ns)
section
variable{X:Cx}
def ßN (K:PySem.W.Frag):List V→Hp→VK→Prop:=λ xs H Q=>(∃p ys,xs=[.ref p]∧(SqL K H p ys∨SqT K H p ys)∧∀ l,H l=none→Q (.ref l) (upd H l (.lst ys)))∨rListD xs H Q
theorem Óe (hc:X.calm=true):CallR X (.type "list") (ßN X.K):=call_list_of.or (call_list_dK hc)
theorem Ô4:OC X (ßN X.K) ÁH:=by
 intro x S m H v Q E sim r w
 unfold ÁH at w
 split at w
 ·obtain ⟨v1,rfl,h1⟩:=r.one
  obtain ⟨p,vs,rfl,h2,h3⟩:=ż.1 h1
  exact .inl ⟨p,vs,rfl,.inr h2,λ l hl=>w.new sim hl ⟨_,upd_same,h3.mono (Ext.new hl)⟩⟩
 ·obtain ⟨v1,rfl,h1⟩:=r.one
  unfold RV at h1
  obtain ⟨p,vs,rfl,h2,h3⟩:=h1
  exact .inl ⟨p,vs,rfl,.inl h2.sq,λ l hl=>w.new sim hl ⟨_,upd_same,h3.mono (Ext.new hl)⟩⟩
 ·try simp only at w
  obtain ⟨v1,rfl,h1⟩:=r.one
  split at w
  ·rename_i ys hn
   obtain ⟨p,vs,_,rfl,h2,h3⟩:=ÆB sim h1 hn
   exact .inl ⟨p,vs,rfl,.inl (SqL.of h2),λ l hl=>w.new sim hl ⟨_,upd_same,h3.mono (Ext.new hl)⟩⟩
  ·rename_i kvs hn
   obtain ⟨p,e1,vs,h2,h3⟩:=sim.at hn
   unfold RV at h1
   obtain ⟨p',e2,rfl⟩:=h1
   rw[e1] at e2;cases e2
   exact .inr ⟨p,vs,rfl,h2,λ l hl=>w.new sim hl ⟨_,upd_same,h3.keys.mono (Ext.new hl)⟩⟩
  ·exact False.elim w
 ·exact False.elim w
def ßO (K:PySem.W.Frag):List V→Hp→VK→Prop:=λ xs H Q=>∃ p ys,xs=[.ref p]∧((SqL K H p ys∧∀ l,H l=none→Q (.ref l) (upd H l (.tup ys)))∨(SqT K H p ys∧Q (.ref p) H))
theorem Ñw:CallR X (.type "tuple") (ßO X.K):=call_tuple_of
theorem WG.tup {Wd:World} {K:PySem.W.Frag} {mg:Str→Option Value} {m:List Addr} {H:Hp} {S:Å} {xs:List W} {vs:List V} {Q:VK} {E:XK} {q:Addr} (w:WG Wd K mg (RV K mg) (.ok (.tup xs) S) m H Q E) (s:ĕ Wd K mg m S H) (hq:H q=none) (r:î K mg m H xs vs):Q (.ref q) (upd H q (.tup vs)):=by
 refine w m _ _ (Ext.plain hq) (s.plain hq) (ż.2 ⟨q,vs,rfl,.inl (.inl upd_same),r.mono (Ext.plain hq)⟩)
theorem Óf:OC X (ßO X.K) Ń:=by
 intro x S m H v Q E sim r w
 unfold Ń at w
 split at w
 ·obtain ⟨v1,rfl,h1⟩:=r.one
  obtain ⟨p,vs,rfl,h2,h3⟩:=ż.1 h1
  exact ⟨p,vs,rfl,.inr ⟨h2,w.ok sim (ż.2 ⟨p,vs,rfl,h2,h3⟩)⟩⟩
 ·obtain ⟨v1,rfl,h1⟩:=r.one
  unfold RV at h1
  obtain ⟨p,vs,rfl,h2,h3⟩:=h1
  exact ⟨p,vs,rfl,.inl ⟨h2.sq,λ l hl=>WG.tup w sim hl h3⟩⟩
 ·try simp only at w
  obtain ⟨v1,rfl,h1⟩:=r.one
  split at w
  ·rename_i ys hn
   obtain ⟨p,vs,_,rfl,h2,h3⟩:=ÆB sim h1 hn
   exact ⟨p,vs,rfl,.inl ⟨SqL.of h2,λ l hl=>WG.tup w sim hl h3⟩⟩
  ·exact False.elim w
 ·exact False.elim w
end
def Ør (x:W) (ys:List W):M W:=match x,ys with
 | .ref n,[.int i,y]=>λ S=>match S[n]? with
  |some (.lst xs)=>if xs.length<sizeLine∧0≤i∧inR 9223372036854775807 i=true then .ok .non (S.set n (.lst (xs.take i.toNat++[y]++xs.drop i.toNat))) else .bad
  |_=>.bad
 |_,_=>bad
def Øs (x:W) (ys:List W):M W:=match x,ys with
 | .ref n,[.ref k]=>λ S=>match S[n]?,S[k]? with
  |some (.lst xs),some (.lst zs)=>if xs.length+zs.length≤sizeLine then .ok .non (S.set n (.lst (xs++zs))) else .bad
  |_,_=>.bad
 |_,_=>bad
def ÚF (x:W) (ys:List W):M W:=match x,ys with
 | .ref n,[.int i]=>λ S=>match S[n]? with
  |some (.lst xs)=>match ixN xs.length i with
   |some k=>match xs[k]? with
    |some y=>if inR 9223372036854775807 i=true then .ok y (S.set n (.lst (xs.eraseIdx k))) else .bad
    |none=>.bad
   |none=>.bad
  |_=>.bad
 |_,_=>bad
def ÚG (x:W) (ys:List W):M W:=match x,ys with
 | .ref n,[]=>λ S=>match S[n]? with
  |some (.lst _)=>.ok .non (S.set n (.lst []))
  |_=>.bad
 |_,_=>bad
def findD (d:PyData):List PyData→Nat→Option Nat
 | [],_=>none
 |z::ds,j=>if PyData.eqv z d=true then some j else findD d ds (j+1)
def Óg (x:W) (ys:List W):M W:=match ys with
 | [y]=>λ S=>match toD S 40 x,toD S 40 y with
  |some (.list ds),some d=>if (SeqAt.shaped (.list ds)&&SeqAt.shaped d)=true then match findD d ds 0 with
    |some j=>.ok (.int j) S
    |none=>.bad
   else .bad
  |_,_=>.bad
 |_=>bad
section
variable{X:Cx}
end
def ÅO (S:Å) (x y:W):Option Bool:=match x,y with
 | .str i,.str j=>some (Ê2 i j)
 |x,y=>match itemsOf S y with
  |some ws=>if (ÃA x&&ws.all ÃA)=true then some (ws.any λ z=>eqF z x) else match toD S 40 x,toD S 40 y with
   |some d,some (.list ds)=>if (SeqAt.shaped d&&SeqAt.shaped (.list ds))=true then some (ds.any λ z=>PyData.eqv z d) else none
   |_,_=>none
  |none=>none
def Û2 (x y:W):M W:=λ S=>match ÅO S x y with
 |some b=>.ok (.bl b) S
 |none=>.bad
def ÁC (x y:W):M W:=λ S=>match ÅO S x y with
 |some b=>.ok (.bl !b) S
 |none=>.bad
def ÝP (K:PySem.W.Frag):R2:=λ x y H Q=>(∃i j,x=.str i∧y=.str j∧Q (.bl (!(!(Builtin.Str.occurrences j i 0 j.length 1).isEmpty))) H)∨rIn K true x y H Q∨rNotInD K x y H Q
section
variable{X:Cx}
theorem Óh (hu:X.A.units+65<cLine):OpR X (compareOp .NotIn) (ÝP X.K):=op_notin_str.or (op_notIn_seq.or (op_notInD hu))
variable{Wd:World}{K:PySem.W.Frag}{mg:Str→Option Value}{m m':List Addr}{H H':Hp}{S:Å}
theorem Ô5 {w:W} {v:V} (r:RV K mg m H w v) (h:ÃA w=true):flatV v=true:=by
 cases w with
 |non=>rw[Äh.1 r];rfl
 |bl b=>rw[Ň.1 r];rfl
 |int b=>rw[è.1 r];rfl
 |str b=>rw[Ī.1 r];rfl
 |_=>cases h
theorem ßP {x y:W} {v u:V} (r1:RV K mg m H x v) (r2:RV K mg m H y u) (h1:ÃA x=true) (h2:ÃA y=true):eqV v u=eqF x y:=by
 cases x<;>first |(cases h1;done)|skip
 all_goals (cases y<;>first |(cases h2;done)|skip)
 all_goals (try simp only[è,Ī,Ň,Äh] at r1 r2)
 all_goals (subst r1;subst r2;rfl)
theorem Òe:∀ {ws:List W} {vs:List V},î K mg m H ws vs→ws.all ÃA=true→vs.all flatV=true
 | [],_,r,_=>by rw[r.nil_inv];rfl
 |w::ws,_,r,h=>by
  obtain ⟨v,vr,rfl,r1,r2⟩:=r.uncons
  simp only[List.all_cons,Bool.and_eq_true] at h ⊢
  exact ⟨Ô5 r1 h.1,Òe r2 h.2⟩
theorem Øt {x:W} {v:V} (r1:RV K mg m H x v) (h1:ÃA x=true):∀ {ws:List W} {vs:List V},î K mg m H ws vs→ws.all ÃA=true→inV v vs=ws.any λ z=>eqF z x
 | [],_,r,_=>by rw[r.nil_inv];rfl
 |w::ws,_,r,h=>by
  obtain ⟨u,vr,rfl,r3,r4⟩:=r.uncons
  simp only[List.all_cons,Bool.and_eq_true] at h
  have ih:=Øt r1 h1 r4 h.2
  unfold inV at ih ⊢
  rw[List.any_cons,List.any_cons,ih,ßP r3 r1 h.1 h1]
theorem ÞG (s:ĕ Wd K mg m S H) {x y:W} {v u:V} {b:Bool} (r1:RV K mg m H x v) (r2:RV K mg m H y u) (h:ÅO S x y=some b):
  (∃i j,v=.str i∧u=.str j∧b=!(Builtin.Str.occurrences j i 0 j.length 1).isEmpty)∨
  (∃p xs,u=.ref p∧(SqL K H p xs∨SqT K H p xs)∧flatV v=true∧xs.all flatV=true∧b=inV v xs)∨
  ∃d ds,Dp K H v d∧Dp K H u (.list ds)∧SeqAt.shaped d=true∧SeqAt.shaped (.list ds)=true∧b=ds.any λ z=>PyData.eqv z d:=by
 unfold ÅO at h
 split at h
 ·cases h
  exact .inl ⟨_,_,Ī.1 r1,Ī.1 r2,rfl⟩
 ·split at h
  ·rename_i ws hi
   split at h
   ·rename_i hf
    simp only[Bool.and_eq_true] at hf
    cases h
    obtain ⟨p,us,rfl,h5,h6⟩:=Ùt s r2 hi
    exact .inr (.inl ⟨p,us,rfl,h5,Ô5 r1 hf.1,Òe h6 hf.2,(Øt r1 hf.1 h6 hf.2).symm⟩)
   ·split at h
    ·rename_i d ds hd he
     split at h
     ·rename_i hs
      simp only[Bool.and_eq_true] at hs
      cases h
      exact .inr (.inr ⟨d,ds,Çt s _ _ _ _ r1 hd,Çt s _ _ _ _ r2 he,hs.1,hs.2,rfl⟩)
     ·cases h
    ·cases h
  ·cases h
theorem Ô6:O2 X (ÝP X.K) ÁC:=by
 intro x y S m H v u Q E sim r1 r2 w
 unfold ÁC at w
 cases hb:ÅO S x y with
 |none=>rw[hb] at w;exact False.elim w
 |some b=>
  rw[hb] at w
  have q:=w.ok sim (Ň.2 rfl)
  rcases ÞG sim r1 r2 hb with ⟨i,j,e1,e2,e3⟩ |⟨p,xs,e1,e2,e3,e4,e5⟩ |⟨d,ds,e1,e2,e3,e4,e5⟩
  ·exact .inl ⟨i,j,e1,e2,by rw[←e3];exact q⟩
  ·exact .inr (.inl ⟨p,xs,e1,e2,e3,e4,by rw[if_pos rfl,←e5];exact q⟩)
  ·exact .inr (.inr ⟨d,ds,e1,e2,e3,e4,by rw[←e5];exact q⟩)
end
def ltG (x y:W):M W:=match x,y with
 | .int i,.int j=>rt (.bl (decide (i<j)))
 | .str i,.str j=>rt (.bl (decide (i.cps.toList<j.cps.toList)))
 |x,y=>λ S=>match toD S 40 x,toD S 40 y with
  |some (.list ds),some (.list es)=>if (PySem.W.alikeAll ds es&&SeqAt.shaped (.list ds))=true then .ok (.bl (PySem.W.dataLt (.list ds) (.list es))) S else .bad
  |some (.tuple ds),some (.tuple es)=>if (PySem.W.alikeAll ds es&&SeqAt.shaped (.tuple ds))=true then .ok (.bl (PySem.W.dataLt (.tuple ds) (.tuple es))) S else .bad
  |_,_=>.bad
def ßQ (K:PySem.W.Frag):R2:=λ x y H Q=>∃ d e,Dp K H x d∧Dp K H y e∧PySem.W.alike d e=true∧d≠.none∧SeqAt.shaped d=true∧Q (.bl (PySem.W.dataLt d e)) H
def ßR (K:PySem.W.Frag):R2:=λ x y H Q=>rI0 (λ i j=>.bl (decide (i<j))) x y H Q∨(∃i j,x=.str i∧y=.str j∧Q (.bl (decide (i.cps.toList<j.cps.toList))) H)∨ßQ K x y H Q
section
variable{X:Cx}
theorem ßS (hu:X.A.units+64<cLine):OpR X (compareOp .Lt) (ßQ X.K):=by
 intro pins s σ H x y v u Q I rx ry h
 obtain ⟨d,e,hd,he,al,hn,sd,q⟩:=h
 obtain ⟨as,r1⟩:=Dp.reads I d x v hd rx
 obtain ⟨bs,r2⟩:=Dp.reads I e y u he ry
 exact PySem.W.rcLt_alike d e X.A s v u as bs r1 r2 al hn (SeqAt.room_of_shaped sd hu) X.prog X.w X.xe _ ⟨.bl _,H,I,rfl,q⟩
theorem ÚH (hu:X.A.units+64<cLine):OpR X (compareOp .Lt) (ßR X.K):=op_lt.or (op_lt_str.or (ßS hu))
theorem ÝQ:O2 X (ßR X.K) ltG:=by
 intro x y S m H v u Q E sim r1 r2 w
 unfold ltG at w
 split at w
 ·exact .inl ⟨_,_,è.1 r1,è.1 r2,w.ok sim (Ň.2 rfl)⟩
 ·exact .inr (.inl ⟨_,_,Ī.1 r1,Ī.1 r2,w.ok sim (Ň.2 rfl)⟩)
 ·try simp only at w
  split at w
  ·rename_i ds es hd he
   split at w
   ·rename_i hs
    simp only[Bool.and_eq_true] at hs
    exact .inr (.inr ⟨_,_,Çt sim _ _ _ _ r1 hd,Çt sim _ _ _ _ r2 he,by unfold PySem.W.alike;exact hs.1,(λ z=>nomatch z),hs.2,w.ok sim (Ň.2 rfl)⟩)
   ·exact False.elim w
  ·rename_i ds es hd he
   split at w
   ·rename_i hs
    simp only[Bool.and_eq_true] at hs
    exact .inr (.inr ⟨_,_,Çt sim _ _ _ _ r1 hd,Çt sim _ _ _ _ r2 he,by unfold PySem.W.alike;exact hs.1,(λ z=>nomatch z),hs.2,w.ok sim (Ň.2 rfl)⟩)
   ·exact False.elim w
  ·exact False.elim w
end
def Ç9 (S:Å):W→Option Bool
 | .non=>some false
 | .bl b=>some b
 | .int i=>some (i !=0)
 | .str z=>if z.length≤sizeLine then some ((z.length:Int) !=0) else none
 | .tup xs=>some !xs.isEmpty
 | .fl xs=>some !xs.isEmpty
 | .ref n=>match S[n]? with
  |some (.lst xs)=>some !xs.isEmpty
  |some (.dK xs)=>some !xs.isEmpty
  |_=>none
 |_=>none
def tV (a:Exp):ï:=λ s=>bd (a s) λ x S=>match Ç9 S x with
 |some b=>.ok b S
 |none=>.bad
section
variable{Wd:World}{K:PySem.W.Frag}{mg:Str→Option Value}{m m':List Addr}{H H':Hp}{S:Å}
theorem î.isEmpty {ws:List W} {vs:List V} (r:î K mg m H ws vs):ws.isEmpty=vs.isEmpty:=by
 cases ws with
 |nil=>rw[r.nil_inv];rfl
 |cons w ws=>obtain ⟨v,vr,rfl,_⟩:=r.uncons;rfl
theorem Ĩ.isEmpty {κ:Type} {ws:List (κ×W)} {vs:List (κ×V)} (r:Ĩ K mg m H ws vs):ws.isEmpty=vs.isEmpty:=by
 cases ws with
 |nil=>unfold Ĩ at r;subst r;rfl
 |cons w ws=>obtain ⟨k,w⟩:=w;unfold Ĩ at r;obtain ⟨v,vr,rfl,_⟩:=r;rfl
theorem ÞH (s:ĕ Wd K mg m S H) {w:W} {v:V} {b:Bool} (r:RV K mg m H w v) (h:Ç9 S w=some b):TruV K v H b:=by
 cases w with
 |non=>cases h;rw[Äh.1 r];rfl
 |bl b=>cases h;rw[Ň.1 r];rfl
 |int b=>cases h;rw[è.1 r];rfl
 |str z=>
  unfold Ç9 at h
  simp only at h
  split at h
  ·rename_i hz;cases h;rw[Ī.1 r];exact ⟨hz,rfl⟩
  ·cases h
 |tup xs=>cases h;obtain ⟨p,vs,rfl,h1,h2⟩:=ż.1 r;exact .inr (.inl ⟨vs,h1,by rw[h2.isEmpty]⟩)
 |fl xs=>cases h;unfold RV at r;obtain ⟨p,vs,rfl,h1,h2⟩:=r;exact .inl ⟨vs,h1.sq,by rw[h2.isEmpty]⟩
 |ref n=>
  unfold Ç9 at h
  simp only at h
  unfold RV at r
  obtain ⟨a,h4,rfl⟩:=r
  split at h
  ·rename_i xs hn
   cases h
   obtain ⟨a',h1,vs,h2,h3⟩:=s.at hn
   rw[h4] at h1;cases h1
   exact .inl ⟨vs,SqL.of h2,by rw[h3.isEmpty]⟩
  ·rename_i xs hn
   cases h
   obtain ⟨a',h1,vs,h2,h3⟩:=s.at hn
   rw[h4] at h1;cases h1
   exact .inr (.inr ⟨vs,h2,by rw[h3.isEmpty]⟩)
  ·cases h
 |_=>cases h
variable{X:Cx}{C:Cc}{a:Expr}{fa:Exp}
theorem Ô7 (ha:SE X C a fa) (he:∀ whole,isTrue a X.env whole=(do let v ←whole;standAt a.pos;holding [v] (truthy v)):=by intro _;rfl):ST X C a (tV fa):=by
 refine PT.imp (pt_truth ha he) λ s' H Q h=>?_
 refine tG.bind h λ m1 S1 s H1 x v z s1 l1 r1 w1=>?_
 cases hb:Ç9 S1 x with
 |none=>rw[hb] at w1;exact False.elim w1
 |some b=>
  rw[hb] at w1
  exact ⟨b,ÞH s1 r1 hb,w1.ok s1 rfl⟩
end
def ßT (fo fi fe:Exp):Ì:=λ s S=>â (bd (fe s) (λ v=>bd (fo s) λ o=>bd (fi s) λ i S=>match o,i with
 | .ref n,.int k=>match S[n]? with
  |some (.lst xs)=>match ixN xs.length k with
   |some j=>.ok W.non (S.set n (.lst (xs.set j v)))
   |none=>.bad
  |_=>.bad
 |_,_=>.bad) S) s λ _ S'=>.nx s S'
def Ô8 (i:Nat) (o:W→W→M W) (e:Exp):Ì:=λ s S=>match s[i]? with
 |some (some x)=>â (bd (e s) (λ y=>o x y) S) s λ w S'=>.nx (s.set i (some w)) S'
 |_=>.bad
def ÙB (x y:W):M W:=match x,y with
 | .int i,.int j=>rt (.int (i+j))
 |_,_=>bad
def ÙC (x y:W):M W:=match x,y with
 | .int i,.int j=>rt (.int (i-j))
 |_,_=>bad
def Ô9 (b:Bool) (f:Sl→M (Int×Int)):Exp:=λ s=>bd (f s) λ x=>if (inR 4611686018427387903 x.1&&inR 4611686018427387903 x.2)=true∧(x.2-x.1).toNat≤16777216 then (if b=true then new (.lst (rng x.1 (x.2-x.1).toNat)) else rt (.tup (rng x.1 (x.2-x.1).toNat))) else bad
def rg1 (a:Exp):Sl→M (Int×Int):=λ s=>bd (a s) λ x=>match x with
 | .int n=>rt (0,n)
 |_=>bad
def rg2 (a b:Exp):Sl→M (Int×Int):=λ s=>bd (a s) λ x=>bd (b s) λ y=>match x,y with
 | .int n,.int k=>rt (n,k)
 |_,_=>bad
section
variable{X:Cx}{C:Cc}{a b e o i e1 e2:Expr}{fa fb fe fo fi:Exp}{pos pos' p p2 tpos:Pos}
theorem ÚI {elt tg iter:Expr} {ifs:List Expr} {scope:Scope} {own:List (Str×Nat)} {pos:Pos} {it:Sl→M Src} {gg:TG} {g:Ā} {tt:ï} {e:Exp} {vs:List Nat} (hc:X.calm=true) (hN:X.N.Nodup) (hvs:own.map (·.2)=vs) (hi:SI X C tg iter it) (ok:BlkOk X.N X.env.scope scope own)
  (hg:∀ (s:Shared) (H:Hp) (Ca:Addr) (cl:List (Str×Addr)) (fp:List Addr),PG (X.blk s H scope (compEnvC scope cl Ca X.env) fp) tg gg) (hk:GOK X.w X.K X.mg vs gg g)
  (ht:∀ (s:Shared) (H:Hp) (Ca:Addr) (cl:List (Str×Addr)) (fp:List Addr),STs (X.blk s H scope (compEnvC scope cl Ca X.env) fp) cS ifs tt)
  (he:∀ (s:Shared) (H:Hp) (Ca:Addr) (cl:List (Str×Addr)) (fp:List Addr),SE (X.blk s H scope (compEnvC scope cl Ca X.env) fp) cS elt e) (hs:∀ x,foldedSetIterable iter X.env x=pure x:=by intro _;rfl):
  SE X C (.ListComp elt [⟨tg,iter,ifs,0⟩] scope pos) (eLc it g tt e vs):=(ÝN hc hN hvs hi ok hg hk ht he hs).1
theorem ÙD {i:Nat} {y:Str} {py spos:Pos} {elt tg iter:Expr} {ifs:List Expr} {scope:Scope} {own:List (Str×Nat)} {pos:Pos} {it:Sl→M Src} {gg:TG} {g:Ā} {tt:ï} {e:Exp} {vs:List Nat} (hc:X.calm=true) (hN:X.N.Nodup) (hvs:own.map (·.2)=vs) (hi:SI X C tg iter it) (ok:BlkOk X.N X.env.scope scope own)
  (hg:∀ (s:Shared) (H:Hp) (Ca:Addr) (cl:List (Str×Addr)) (fp:List Addr),PG (X.blk s H scope (compEnvC scope cl Ca X.env) fp) tg gg) (hk:GOK X.w X.K X.mg vs gg g)
  (ht:∀ (s:Shared) (H:Hp) (Ca:Addr) (cl:List (Str×Addr)) (fp:List Addr),STs (X.blk s H scope (compEnvC scope cl Ca X.env) fp) cS ifs tt)
  (he:∀ (s:Shared) (H:Hp) (Ca:Addr) (cl:List (Str×Addr)) (fp:List Addr),SE (X.blk s H scope (compEnvC scope cl Ca X.env) fp) cS elt e) (hy:X.N[i]?=some y) (hl:X.env.scope.names.lookup y=some .local) (hw:swapsWith (.ListComp elt [⟨tg,iter,ifs,0⟩] scope pos) (some (.Name y py)) spos.line X.env=pure true) (hz:∀ t v,C.Z t→C.Z (t.set i v):=by intro _ _ _;exact True.intro) (hs:∀ x,foldedSetIterable iter X.env x=pure x:=by intro _;rfl):
   SS X C (.Assign [.Name y py] (.ListComp elt [⟨tg,iter,ifs,0⟩] scope pos) spos) (Ô i (eLc it g tt e vs)):=(ÝN hc hN hvs hi ok hg hk ht he hs).2 hy hl hw hz
theorem Ói {k:Nat} {A:Around} (r:Room k A):A.units+65<cLine:=by have:=r.un;omega
end
end Fr
namespace Fr
open PySem PySem.Spec PyProof.Rows L2 RT RZ
structure åC (h h':Heap) (l t:Addr):Prop where
 z:IsZip h' (h.objs.size+4) (h.objs.size+2) (h.objs.size+3) .none
 ti:IsPair h' (h.objs.size+2) (.ref h.objs.size) (.ref (h.objs.size+1))
 to:IsPair h' (h.objs.size+3) .none .none
 i1:h'.IsListIter h.objs.size l 0
 i2:h'.IsTupleIter (h.objs.size+1) t 0
 sz:h'.objs.size=h.objs.size+5
 old:∀ c o,h.get? c=some o→h'.get? c=some o
section
variable{prog:Program}{w:World}{A:Around}{E:Value→Shared→Prop}{s:Shared}
end
def ItX (K:PySem.W.Frag) (a b:Addr):It:=
 ⟨λ i H=>∃ (xs ys:List V) (x y:V),SqL K H a xs∧SqT K H b ys∧xs[i]?=some x∧ys[i]?=some y,
  λ i H v H'=>∃ T x y,v=.ref T∧H T=none∧H'=upd H T (.tup [x,y])∧(∀xs,SqL K H a xs→xs[i]?=some x)∧∀ ys,SqT K H b ys→ys[i]?=some y,
  λ i H=>∃ xs ys:List V,SqL K H a xs∧SqT K H b ys∧i≤xs.length∧i≤ys.length∧(i=xs.length∨i=ys.length)⟩
section
variable{Wd:World}{K:PySem.W.Frag}{mg:Str→Option Value}{m m':List Addr}{H H':Hp}{S:Å}
end
section
variable{X:Cx}{C:Cc}{pos p tpos:Pos}{e e2:Expr}{elts:List Expr}{fr:Arg}{kk:Nat}
end
end Fr
namespace Fr
open PySem PySem.Spec PyProof.Rows L2 ClX
def ī (S:Å) (x:W) (c:Str):Option (Nat×List (Str×W)):=match x with
 | .ref n=>match S[n]? with
  |some (.ins c' fs)=>if c'=c then some (n,fs) else none
  |_=>none
 |_=>none
def Ïu (c f:Str) (x:W) (S:Å):Rs W:=match ī S x c with
 |some (_,fs)=>match fs.lookup f with
  |some w=>.ok w S
  |none=>.bad
 |none=>.bad
def ÁJ (c f:Str) (o:Exp):Exp:=λ s=>bd (o s) (Ïu c f)
def Ïv (f:Str) (v:W):List (Str×W)→List (Str×W)
 | []=>[(f,v)]
 |(g,x)::r=>if g=f then (g,v)::r else (g,x)::Ïv f v r
def Íx (c f:Str) (v x:W) (S:Å):Rs W:=match ī S x c with
 |some (n,fs)=>if fs.length<1000 then .ok .non (S.set n (.ins c (Ïv f v fs))) else .bad
 |none=>.bad
def Éb (c f:Str) (o e:Exp):Ì:=λ s S=>â (bd (e s) (λ v=>bd (o s) (Íx c f v)) S) s λ _ S'=>.nx s S'
def Ðq (c:Str) (F:Fn) (ws:List W) (S:Å):Rs W:=match F (.ref S.length::ws) (S++[.ins c []]) with
 | .ok .non S'=>.ok (.ref S.length) S'
 | .ex x d S'=>.ex x d S'
 |_=>.bad
def ËA (c:Str) (F:Fn) (a:Arg):Exp:=λ s=>bd (a s) (Ðq c F)
def Í9 (c m:Str) (F:Fn) (r:Sl→M (List W)) (s:Sl) (x:W) (S:Å):Rs W:=match ī S x c with
 |some (_,fs)=>match fs.lookup m with
  |none=>bd (r s) (λ ws=>F (x::ws)) S
  |some _=>.bad
 |none=>.bad
def å (c m:Str) (F:Fn) (o:Exp) (a:Arg):Exp:=λ s=>bd (o s) (Í9 c m F a s)
def keyOf (x:W):Option Key:=match x with
 | .int i=>some (.inl i)
 | .str z=>some (.inr z)
 |_=>none
def Äj (kvs:List (Key×W)) (k:Key):Option W:=(kvs.find? λ kv=>decide (kv.1=k)).map (·.2)
def Êq (kvs:List (Key×W)) (k:Key) (v:W):List (Key×W):=
 if (kvs.any λ kv=>decide (kv.1=k))=true then kvs.map (λ kv=>if kv.1=k then (kv.1,v) else kv) else kvs++[(k,v)]
def dictOf (S:Å) (x:W):Option (Nat×List (Key×W)):=match x with
 | .ref n=>match S[n]? with
  |some (.dK kvs)=>some (n,kvs)
  |_=>none
 |_=>none
def Ê6 (x y:W):M W:=λ S=>match dictOf S y,keyOf x with
 |some (_,kvs),some k=>.ok (.bl (Äj kvs k).isSome) S
 |_,_=>.bad
def ÃB (x y:W):M W:=λ S=>match dictOf S y,keyOf x with
 |some (_,kvs),some k=>.ok (.bl !(Äj kvs k).isSome) S
 |_,_=>.bad
def Æi (x y:W):M W:=λ S=>match dictOf S x,keyOf y with
 |some (_,kvs),some k=>match Äj kvs k with
  |some w=>.ok w S
  |none=>.bad
 |_,_=>.bad
def ÔB (v x y:W) (S:Å):Rs W:=match dictOf S x,keyOf y with
 |some (n,kvs),some k=>if kvs.length<sizeLine then .ok .non (S.set n (.dK (Êq kvs k v))) else .bad
 |_,_=>.bad
def ÔC (d k e:Exp):Ì:=λ s S=>â (bd (e s) (λ v=>bd (d s) λ x=>bd (k s) (ÔB v x)) S) s λ _ S'=>.nx s S'
def Òf:Exp:=λ _=>new (.dK [])
section
variable{Wd:World}{K:PySem.W.Frag}{mg:Str→Option Value}{m:List Addr}{H:Hp}{S:Å}
theorem RFs.lookup:∀ {fs:List (Str×W)} {vs:List (Str×V)} {f:Str},RFs K mg m H fs vs→(∀w,fs.lookup f=some w→∃ v,vs.lookup f=some v∧RV K mg m H w v)∧(fs.lookup f=none→vs.lookup f=none)
 | [],_,f,h=>by
  unfold RFs at h
  subst h
  exact ⟨λ w e=>(by cases e),λ _=>rfl⟩
 |(g,u)::fs,_,f,h=>by
  unfold RFs at h
  obtain ⟨v,r,rfl,h1,h2⟩:=h
  by_cases e:f==g
  ·refine ⟨λ w q=>?_,λ q=>?_⟩
   ·rw[List.lookup_cons,e] at q
    cases q
    exact ⟨v,by rw[List.lookup_cons,e],h1⟩
   ·rw[List.lookup_cons,e] at q
    cases q
  ·have e':(f==g)=false:=by simpa using e
   refine ⟨λ w q=>?_,λ q=>?_⟩
   ·rw[List.lookup_cons,e'] at q
    obtain ⟨v',a,b⟩:=(RFs.lookup h2).1 w q
    exact ⟨v',by rw[List.lookup_cons,e'];exact a,b⟩
   ·rw[List.lookup_cons,e'] at q
    rw[List.lookup_cons,e']
    exact (RFs.lookup h2).2 q
theorem RFs.length:∀ {fs:List (Str×W)} {vs:List (Str×V)},RFs K mg m H fs vs→fs.length=vs.length
 | [],_,h=>by unfold RFs at h;subst h;rfl
 |(g,u)::fs,_,h=>by
  unfold RFs at h
  obtain ⟨v,r,rfl,h1,h2⟩:=h
  simp[RFs.length h2]
theorem RFs.put {f:Str} {w:W} {v:V} (hw:RV K mg m H w v):∀ {fs:List (Str×W)} {vs:List (Str×V)},RFs K mg m H fs vs→RFs K mg m H (Ïv f w fs) (putF f v vs)
 | [],_,h=>by
  unfold RFs at h
  subst h
  unfold Ïv putF RFs
  exact ⟨v,[],rfl,hw,rfl⟩
 |(g,u)::fs,_,h=>by
  unfold RFs at h
  obtain ⟨v',r,rfl,h1,h2⟩:=h
  unfold Ïv putF
  by_cases e:g=f
  ·rw[if_pos e,if_pos e]
   unfold RFs
   exact ⟨v,r,rfl,hw,h2⟩
  ·rw[if_neg e,if_neg e]
   unfold RFs
   exact ⟨v',_,rfl,h1,RFs.put hw h2⟩
theorem Õa (s:ĕ Wd K mg m S H) {x:W} {v:V} {c:Str} {n:Nat} {fs:List (Str×W)} (r:RV K mg m H x v) (h:ī S x c=some (n,fs)):∃ a A dx vs,x=.ref n∧m[n]?=some a∧v=.ref a∧H a=some (.ins A dx vs)∧mg c=some (.ref A)∧RFs K mg m H fs vs:=by
 unfold ī at h
 split at h
 ·rename_i k
  cases hk:S[k]? with
  |none=>rw[hk] at h;cases h
  |some o=>
   rw[hk] at h
   cases o with
   |ins c' fs'=>
    simp only at h
    split at h
    ·rename_i hc
     cases h
     subst hc
     obtain ⟨a,e1,A,dx,vs,h2,h3,h4⟩:=s.at hk
     unfold RV at r
     obtain ⟨a',e2,rfl⟩:=r
     rw[e1] at e2;cases e2
     exact ⟨a,A,dx,vs,rfl,e1,rfl,h2,h3,h4⟩
    ·cases h
   |_=>cases h
 ·cases h
theorem Ĩ.val {kws:List (Key×W)}:∀ {kvs:List (Key×V)} {k:Key},Ĩ K mg m H kws kvs→(Äj kws k).isSome=(valV kvs k).isSome∧∀ w,Äj kws k=some w→∃ v,valV kvs k=some v∧RV K mg m H w v:=by
 induction kws with
 |nil=>
  intro kvs k h
  unfold Ĩ at h
  subst h
  exact ⟨rfl,λ w q=>by cases q⟩
 |cons p r ih=>
  intro kvs k h
  obtain ⟨g,u⟩:=p
  unfold Ĩ at h
  obtain ⟨v,t,rfl,h1,h2⟩:=h
  obtain ⟨i1,i2⟩:=ih (k:=k) h2
  unfold Äj valV at*
  by_cases e:g=k
  ·simp only[List.find?_cons,e,decide_true,Option.map_some]
   exact ⟨rfl,λ w q=>by cases q;exact ⟨v,rfl,h1⟩⟩
  ·simp only[List.find?_cons,e,decide_false]
   exact ⟨i1,i2⟩
theorem Ĩ.len:∀ {kws:List (Key×W)} {kvs:List (Key×V)},Ĩ K mg m H kws kvs→kws.length=kvs.length
 | [],_,h=>by unfold Ĩ at h;subst h;rfl
 |(g,u)::r,_,h=>by
  unfold Ĩ at h
  obtain ⟨v,t,rfl,h1,h2⟩:=h
  simp[Ĩ.len h2]
theorem Ĩ.any {k:Key}:∀ {kws:List (Key×W)} {kvs:List (Key×V)},Ĩ K mg m H kws kvs→(kws.any λ kv=>decide (kv.1=k))=(kvs.any λ kv=>decide (kv.1=k))
 | [],_,h=>by unfold Ĩ at h;subst h;rfl
 |(g,u)::r,_,h=>by
  unfold Ĩ at h
  obtain ⟨v,t,rfl,h1,h2⟩:=h
  simp only[List.any_cons,Ĩ.any h2]
theorem Ĩ.Íy {k:Key} {w:W} {v:V} (hw:RV K mg m H w v):∀ {kws:List (Key×W)} {kvs:List (Key×V)},Ĩ K mg m H kws kvs→Ĩ K mg m H (kws.map λ kv=>if kv.1=k then (kv.1,w) else kv) (kvs.map λ kv=>if kv.1=k then (kv.1,v) else kv)
 | [],_,h=>by unfold Ĩ at h;subst h;unfold Ĩ;rfl
 |(g,u)::r,_,h=>by
  unfold Ĩ at h
  obtain ⟨v',t,rfl,h1,h2⟩:=h
  simp only[List.map_cons]
  by_cases e:g=k
  ·rw[if_pos e,if_pos e]
   unfold Ĩ
   exact ⟨v,_,rfl,hw,Ĩ.Íy hw h2⟩
  ·rw[if_neg e,if_neg e]
   unfold Ĩ
   exact ⟨v',_,rfl,h1,Ĩ.Íy hw h2⟩
theorem Ĩ.snoc {k:Key} {w:W} {v:V} (hw:RV K mg m H w v):∀ {kws:List (Key×W)} {kvs:List (Key×V)},Ĩ K mg m H kws kvs→Ĩ K mg m H (kws++[(k,w)]) (kvs++[(k,v)])
 | [],_,h=>by unfold Ĩ at h;subst h;simp only[List.nil_append];unfold Ĩ;exact ⟨v,[],rfl,hw,rfl⟩
 |(g,u)::r,_,h=>by
  unfold Ĩ at h
  obtain ⟨v',t,rfl,h1,h2⟩:=h
  simp only[List.cons_append]
  unfold Ĩ
  exact ⟨v',_,rfl,h1,Ĩ.snoc hw h2⟩
theorem Ĩ.put {k:Key} {w:W} {v:V} {kws:List (Key×W)} {kvs:List (Key×V)} (hw:RV K mg m H w v) (h:Ĩ K mg m H kws kvs):Ĩ K mg m H (Êq kws k w) (putK kvs k v):=by
 unfold Êq putK
 rw[Ĩ.any h]
 split
 ·exact Ĩ.Íy hw h
 ·exact Ĩ.snoc hw h
theorem Ðr (s:ĕ Wd K mg m S H) {x:W} {v:V} {n:Nat} {kws:List (Key×W)} (r:RV K mg m H x v) (h:dictOf S x=some (n,kws)):∃ a kvs,x=.ref n∧m[n]?=some a∧v=.ref a∧H a=some (.dK kvs)∧Ĩ K mg m H kws kvs:=by
 unfold dictOf at h
 split at h
 ·rename_i k
  cases hk:S[k]? with
  |none=>rw[hk] at h;cases h
  |some o=>
   rw[hk] at h
   cases o with
   |dK kvs'=>
    cases h
    obtain ⟨a,e1,vs,h2,h3⟩:=s.at hk
    unfold RV at r
    obtain ⟨a',e2,rfl⟩:=r
    rw[e1] at e2;cases e2
    exact ⟨a,vs,rfl,e1,rfl,h2,h3⟩
   |_=>cases h
 ·cases h
theorem Òg {x:W} {v:V} {k:Key} (r:RV K mg m H x v) (h:keyOf x=some k):v=kV k:=by
 unfold keyOf at h
 split at h
 ·cases h;exact è.1 r
 ·cases h;exact Ī.1 r
 ·cases h
end
section
variable{X:Cx}{C:Cc}{a b e o:Expr}{es:List Expr}{fa fb fe fo:Exp}{fr:Arg}{pos p apos pos' tpos:Pos}{A:Addr}{c f:Str}
theorem Éc (hc:X.mg c=some (.ref A)) (cl:Cls X.K A) (na:NoAttr X.K A f) (ho:SE X C o fo) (hb:attributeBase o f X.env (eval o X.env)=eval o X.env:=by rfl):SE X C (.Attribute o f pos) (ÁJ c f fo):=by
 refine PE.imp (pe_fld ho hb) λ s' H Q h=>?_
 refine tG.bind h λ m1 S1 s H1 x v z s1 l1 r1 w1=>?_
 unfold Ïu at w1
 cases hi:ī S1 x c with
 |none=>rw[hi] at w1;exact False.elim w1
 |some nf=>
  obtain ⟨n,fs⟩:=nf
  rw[hi] at w1
  simp only at w1
  cases hl:fs.lookup f with
  |none=>rw[hl] at w1;exact False.elim w1
  |some u=>
   rw[hl] at w1
   obtain ⟨ad,A',dx,vs,rfl,e1,rfl,h2,h3,h4⟩:=Õa s1 r1 hi
   rw[hc] at h3;cases h3
   obtain ⟨v',q1,q2⟩:=(RFs.lookup h4).1 u hl
   exact ⟨ad,A,dx,vs,v',rfl,h2,cl,na,q1,w1.ok s1 q2⟩
theorem ÚJ (hc:X.mg c=some (.ref A)) (cl:Cls X.K A) (na:NoAttr X.K A f) (ho:SE X C o fo) (he:SE X C e fe) (hs:swapsWith e (some (.Attribute o f pos')) pos.line X.env=pure false:=by rfl):SS X C (.Assign [.Attribute o f pos'] e pos) (Éb c f fo fe):=by
 refine PS.imp (ps_fld ho he hs) λ D s' H h=>?_
 obtain ⟨m,S,s,z,sim,sl,w⟩:=h
 have w':=w.â (Q':=λ (_:W) H'=>D.nx s' H') (R:=λ _ _ _ _=>True) z sl λ u S1 m1 H1 v e s1 r w1=>w1.nx z s1 (sl.mono e)
 refine ⟨m,S,s,z,sim,sl,w'.bind λ v S1 m1 H1 vv e1 s1 r1 w1=>?_⟩
 refine ⟨m1,S1,s,z,s1,sl.mono e1,w1.bind λ x S2 m2 H2 xv e2 s2 r2 w2=>?_⟩
 unfold Íx at w2
 cases hi:ī S2 x c with
 |none=>rw[hi] at w2;exact False.elim w2
 |some nf=>
  obtain ⟨n,fs⟩:=nf
  rw[hi] at w2
  simp only at w2
  split at w2
  ·rename_i hl
   obtain ⟨ad,A',dx,vs,rfl,q1,rfl,h2,h3,h4⟩:=Õa s2 r2 hi
   rw[hc] at h3;cases h3
   refine ⟨ad,A,dx,vs,rfl,h2,cl,na,by rw[←RFs.length h4];exact hl,?_⟩
   have ex:Ext m2 H2 m2 (upd H2 ad (.ins A dx (putF f vv vs))):=Ext.chg h2 (λ _ z=>nomatch z) (λ _ _ z=>nomatch z)
   exact w2 m2 _ W.non ex (s2.chg q1 h2 (λ _ z=>nomatch z) (λ _ _ z=>nomatch z) ⟨A,dx,_,upd_same,hc,(RFs.put (r1.mono e2) h4).mono ex⟩) trivial
  ·exact False.elim w2
def ßV (C:Addr) (m:Str) (sp:Sp) (E:L2.St→XK) (ta:TE) (t:TA):TE:=λ σ H Q=>ta σ H λ x H1=>∃ a dx fs,x=.ref a∧H1 a=some (.ins C dx fs)∧fs.lookup m=none∧t σ H1 λ vs H2=>sp (x::vs) H2 Q (E σ)
theorem Û3 {CX:CXT} {k:Nat} {g:Addr} {fd:FuncData} {ps:List Str} {sp:Sp} {E:L2.St→XK} {m:Str} {ta:TE} {t:TA} {pl:Sem Bool} (ho:PE X o ta) (cl:Cls X.K A) (hm:Meth X.K A m g) (G:FnOk X.prog X.w X.K X.mg X.base CX k g fd ps sp) (hr:Room k X.A) (hb:Binds X.K fd ps [])
  (hx:∀ σ,PassesAt CX X σ (E σ)) (hargs:PA X (e::es) t) (hst:starEach (e::es) X.env=(false,eval e X.env)::starEach es X.env:=by rfl) (hpl:(backTo pos (starEach es X.env)).any (·.1)=false:=by rfl)
  (ht:eval (.Call (.Attribute o m apos) (e::es) [] pos) X.env=(do
   let rv ←eval o X.env
   standAt apos.atName
   let (fn,first) ←holding [rv] (getMethod rv m pl)
   callWith pos fn first (backTo pos (starEach (e::es) X.env)) (backToKw pos (keywordEach [] X.env))):=by rfl):
  PE X (.Call (.Attribute o m apos) (e::es) [] pos) (ßV A m sp E ta t):=by
 refine ⟨λ pins s0 σ H Q I h=>PySem.W.methodCall_KW (pl:=pl) (thn (ho.run pins s0 σ H _ I h) λ u s1 ⟨x,H1,I1,rx,ad,dx,fs,ex,ea,l,q⟩=>?_) ht⟩
 subst ex
 obtain rfl:u=Value.ref ad:=rx
 refine getmeth_ok I1 ea cl hm l (PySem.W.callWith_K (first:=[.ref ad]) (h₀:=X.base) I.ok.mod.kin hm.kp (thn (hargs.run pos pins s1 σ H1 _ I1 q) λ us s2 ⟨vs,H2,I2,rr,q2⟩=>⟨I2.kIn,?_⟩) hst hpl)
 exact run_fnS (us:=.ref ad::us) (vs:=.ref ad::vs) G hr hb (hx σ) I2 (.cons rfl rr) q2
theorem Ļ {F:Fn} {k:Nat} {g:Addr} {fd:FuncData} {ps:List Str} {m:Str} (hc:X.mg c=some (.ref A)) (cl:Cls X.K A) (hm:Meth X.K A m g) (G:FnM X.prog X.w X.K X.mg X.base k g fd ps F) (hr:Room k X.A) (hb:Binds X.K fd ps []) (tk:Takes X C.Wx) (ho:SE X C o fo)
  (ha:SA X C (e::es) fr) (hl:(e::es).length+1=ps.length) (hfr:∀ s S ws S',fr s S=.ok ws S'→ws.length=(e::es).length)
  (hst:starEach (e::es) X.env=(false,eval e X.env)::starEach es X.env:=by rfl) (hpl:(backTo pos (starEach es X.env)).any (·.1)=false:=by rfl) {pl:Sem Bool}
  (ht:eval (.Call (.Attribute o m apos) (e::es) [] pos) X.env=(do
   let rv ←eval o X.env
   standAt apos.atName
   let (fn,first) ←holding [rv] (getMethod rv m pl)
   callWith pos fn first (backTo pos (starEach (e::es) X.env)) (backToKw pos (keywordEach [] X.env))):=by rfl):SE X C (.Call (.Attribute o m apos) (e::es) [] pos) (å c m F fo fr):=by
 refine PE.imp (Û3 (E:=L2.WE C.Wx) ho cl hm G hr hb (λ σ=>passAt tk σ) ha hst hpl ht) λ s' H Q h=>?_
 refine tG.bind h λ m1 S1 s H1 x v z s1 l1 r1 w1=>?_
 unfold Í9 at w1
 cases hi:ī S1 x c with
 |none=>rw[hi] at w1;exact False.elim w1
 |some nf=>
  obtain ⟨n,fs⟩:=nf
  rw[hi] at w1
  simp only at w1
  cases hlk:fs.lookup m with
  |some u=>rw[hlk] at w1;exact False.elim w1
  |none=>
   rw[hlk] at w1
   obtain ⟨ad,A',dx,vs,rfl,e1,rfl,h2,h3,h4⟩:=Õa s1 r1 hi
   rw[hc] at h3;cases h3
   refine ⟨ad,dx,vs,rfl,h2,(RFs.lookup h4).2 hlk,m1,S1,s,z,s1,l1,?_⟩
   simp only at w1
   unfold bd at w1
   cases hf:fr s S1 with
   |ok ws S2=>
    rw[hf] at w1
    exact λ m' H' us ex sm r=>⟨m',S2,.ref n::ws,sm,.cons (r1.mono ex) r,by rw[List.length_cons,hfr s S1 ws S2 hf];exact hl,w1.shift ex⟩
   |ex c' d S2=>rw[hf] at w1;exact w1
   |bad=>rw[hf] at w1;exact w1
def ßW (C:Addr) (sp:Sp) (E:L2.St→XK) (t:TA):TE:=λ σ H Q=>t σ H λ vs H1=>∀ x dx,H1 x=none→H1 dx=none→dx≠x→sp (.ref x::vs) (upd (upd H1 dx (.own x)) x (.ins C dx [])) (λ v H2=>v=.non∧Q (.ref x) H2) (E σ)
theorem ÚK {CX:CXT} {k:Nat} {g:Addr} {fd:FuncData} {ps:List Str} {sp:Sp} {E:L2.St→XK} {pins:List (Addr×Obj)} {σ:L2.St} {H:Hp} {s:Shared} {Q:VK} {us:List Value} {vs:List V} (M:Mk X.K A g) (G:FnOk X.prog X.w X.K X.mg X.base CX k g fd ps sp) (hr:Room (k+1) X.A) (hb:Binds X.K fd ps [])
  (hx:∀ σ,PassesAt CX X σ (E σ)) (I:Inv X pins σ H s) (rv:Vals vs us)
  (h:∀ x dx,H x=none→H dx=none→dx≠x→sp (.ref x::vs) (upd (upd H dx (.own x)) x (.ins A dx [])) (λ v H2=>v=.non∧Q (.ref x) H2) (E σ)):wpAny (model X.prog X.w) X.A (call (.ref A) us) (EP X pins σ Q) X.xe s:=by
 have q1:=h (s.heap.objs.size+1) s.heap.objs.size (I.hok.fresh (Nat.le_succ _)) (I.hok.fresh (Nat.le_refl _)) (Nat.ne_of_lt (Nat.lt_succ_self _))
 have J:=Inv.made (C:=A) I
 have r2:Vals (V.ref (s.heap.objs.size+1)::vs) (Value.ref (s.heap.objs.size+1)::us):=.cons rfl rv
 have len:(Value.ref (s.heap.objs.size+1)::us++[]).length=ps.length:=by
  have e:=r2.length
  rw[G.len _ _ _ _ q1] at e
  rw[List.append_nil]
  exact e.symm
 have bnd:=hb _ (Value.ref (s.heap.objs.size+1)::us) J.kIn len
 rw[List.append_nil] at bnd
 refine wpAny_call (make_map (f:=g) I.kIn M.makes M.init (beq_iff_eq.mp M.fn) (codeAny_mono (G.run _ X.stack _ _ ⟨Value.ref (s.heap.objs.size+1)::us,[]⟩ (Value.ref (s.heap.objs.size+1)::us) _ _ (E σ) (hr.make A us [])
  (J.env0.make A us []) bnd r2 q1) λ res s' q2=>?_))
 cases res with
 |error er=>exact hx σ pins _ _ er s' J q2
 |ok fl=>
  cases fl with
  |ret u=>
   obtain ⟨v,H',J3,rr,ev,q3⟩:=J.after q2
   subst ev
   exact ⟨rr,⟨V.ref (s.heap.objs.size+1),H',J3,rfl,q3⟩⟩
  |_=>exact q2.elim
theorem Û4 {CX:CXT} {k:Nat} {g:Addr} {fd:FuncData} {ps:List Str} {sp:Sp} {E:L2.St→XK} {t:TA} {x:Str} (M:Mk X.K A g) (G:FnOk X.prog X.w X.K X.mg X.base CX k g fd ps sp) (hr:Room (k+1) X.A) (hg:Gl X x) (hm:X.mg x=some (.ref A)) (hb:Binds X.K fd ps []) (hx:∀ σ,PassesAt CX X σ (E σ))
  (hargs:PA X (e::es) t) (hdb:(x==("__debug__" :Str))=false:=by decide) (hst:starEach (e::es) X.env=(false,eval e X.env)::starEach es X.env:=by rfl) (hpl:(backTo pos (starEach es X.env)).any (·.1)=false:=by rfl):
  PE X (.Call (.Name x p) (e::es) [] pos) (ßW A sp E t):=
 ⟨λ pins s0 σ H Q I h=>wpAny_Call_Name_kw (ld_glob I hg hm (PySem.W.callWith_K (h₀:=X.base) I.ok.mod.kin M.kp (thn (hargs.run pos pins s0 σ H _ I h) λ us s1 ⟨vs,H1,I1,rr,q⟩=>⟨I1.kIn,ÚK M G hr hb hx I1 rr q⟩) hst hpl) hdb)⟩
theorem Øu {F:Fn} {k:Nat} {g:Addr} {fd:FuncData} {ps:List Str} (M:Mk X.K A g) (G:FnM X.prog X.w X.K X.mg X.base k g fd ps F) (hr:Room (k+1) X.A) (hg:Gl X c) (hc:X.mg c=some (.ref A)) (hb:Binds X.K fd ps []) (tk:Takes X C.Wx)
  (ha:SA X C (e::es) fr) (hl:(e::es).length+1=ps.length) (hfr:∀ s S ws S',fr s S=.ok ws S'→ws.length=(e::es).length)
  (hdb:(c==("__debug__" :Str))=false:=by decide) (hst:starEach (e::es) X.env=(false,eval e X.env)::starEach es X.env:=by rfl) (hpl:(backTo pos (starEach es X.env)).any (·.1)=false:=by rfl):SE X C (.Call (.Name c p) (e::es) [] pos) (ËA c F fr):=by
 refine PE.imp (Û4 (E:=L2.WE C.Wx) M G hr hg hc hb (λ σ=>passAt tk σ) ha hdb hst hpl) λ s' H Q h=>?_
 obtain ⟨m,S,s,z,sim,sl,w⟩:=h
 refine ⟨m,S,s,z,sim,sl,?_⟩
 unfold ËA bd at w
 cases hf:fr s S with
 |ok ws S1=>
  rw[hf] at w
  intro m' H' vs ex sm r x dx nx ndx ne
  have ext1:Ext m' H' m' (upd H' dx (.own x)):=Ext.plain ndx
  have sm1:=sm.plain (o:=.own x) ndx
  have nx1:upd H' dx (.own x) x=none:=by rw[upd_ne (λ q=>ne q.symm)];exact nx
  have ext2:Ext m' (upd H' dx (.own x)) (m'++[x]) (upd (upd H' dx (.own x)) x (.ins A dx [])):=Ext.new nx1
  have sm2:ĕ X.w X.K X.mg (m'++[x]) (S1++[.ins c []]) (upd (upd H' dx (.own x)) x (.ins A dx [])):=sm1.new nx1 ⟨A,dx,[],upd_same,hc,by unfold RFs;rfl⟩
  have xr:RV X.K X.mg (m'++[x]) (upd (upd H' dx (.own x)) x (.ins A dx [])) (.ref S1.length) (.ref x):=by
   unfold RV
   exact ⟨x,by rw[←sm.len];simp,rfl⟩
  refine ⟨m'++[x],S1++[.ins c []],.ref S1.length::ws,sm2,.cons xr ((r.mono ext1).mono ext2),by rw[List.length_cons,hfr s S ws S1 hf];exact hl,?_⟩
  have w2:=w.shift ((ex.trans ext1).trans ext2)
  unfold Ðq at w2
  dsimp only at w2
  cases hF:F (.ref S1.length::ws) (S1++[.ins c []]) with
  |ok u S2=>
   rw[hF] at w2
   cases u with
   |non=>
    intro m3 H3 v3 e3 s3 r3
    refine ⟨Äh.1 r3,?_⟩
    exact w2 m3 H3 _ e3 s3 (xr.mono e3)
   |_=>exact False.elim w2
  |ex c' d S2=>rw[hF] at w2;exact w2
  |bad=>rw[hF] at w2;exact False.elim w2
 |ex c' d S1=>rw[hf] at w;exact w
 |bad=>rw[hf] at w;exact w
theorem Øv {mc:Value} {w:W} {v:V} {u:Value} (hg:Gl X c) (hc:X.mg c=some (.ref A)) (rd:CRead X.K A mc) (cv:CVal X.K A mc f v u) (hr:∀ m H,RV X.K X.mg m H w v) (hdb:(c==("__debug__" :Str))=false:=by decide)
  (hb:attributeBase (.Name c p) f X.env (eval (.Name c p) X.env)=eval (.Name c p) X.env:=by rfl):SE X C (.Attribute (.Name c p) f pos) (eC w):=by
 refine PE.imp (pe_cval (pe_glob (v:=.ref A) hg hc rfl hdb) hb) λ s' H Q h=>?_
 obtain ⟨m,S,s,z,sim,sl,wg⟩:=h
 exact ⟨A,mc,v,u,rfl,rd,cv,wg.ok sim (hr m H)⟩
theorem ÞI:SE X C (.Dict [] [] pos) Òf:=by
 refine PE.imp pe_dnewK λ s' H Q h=>?_
 obtain ⟨m,S,s,z,sim,sl,w⟩:=h
 exact λ q hq=>w.new sim hq ⟨[],upd_same,by unfold Ĩ;rfl⟩
theorem Õb {x y:W} {S:Å} {m:List Addr} {H:Hp} {v u:V} {Q:VK} {E:XK} (sim:ĕ X.w X.K X.mg m S H) (r1:RV X.K X.mg m H x v) (r2:RV X.K X.mg m H y u) (w:WG X.w X.K X.mg (RV X.K X.mg) (Ê6 x y S) m H Q E):∃ a o,u=.ref a∧DGet H a v o∧Q (.bl o.isSome) H:=by
 unfold Ê6 at w
 cases hd:dictOf S y with
 |none=>rw[hd] at w;exact False.elim w
 |some nk=>
  obtain ⟨n,kws⟩:=nk
  cases hk:keyOf x with
  |none=>rw[hd,hk] at w;exact False.elim w
  |some k=>
   rw[hd,hk] at w
   obtain ⟨a,kvs,rfl,e1,rfl,h2,h3⟩:=Ðr sim r2 hd
   refine ⟨a,_,rfl,by rw[Òg r1 hk];exact DGet.k h2,?_⟩
   rw[←(Ĩ.val (k:=k) h3).1]
   exact w.ok sim (Ň.2 rfl)
theorem ÌG {x y:W} {S:Å} {m:List Addr} {H:Hp} {v u:V} {Q:VK} {E:XK} (sim:ĕ X.w X.K X.mg m S H) (r1:RV X.K X.mg m H x v) (r2:RV X.K X.mg m H y u) (w:WG X.w X.K X.mg (RV X.K X.mg) (ÃB x y S) m H Q E):∃ a o,u=.ref a∧DGet H a v o∧Q (.bl !o.isSome) H:=by
 unfold ÃB at w
 cases hd:dictOf S y with
 |none=>rw[hd] at w;exact False.elim w
 |some nk=>
  obtain ⟨n,kws⟩:=nk
  cases hk:keyOf x with
  |none=>rw[hd,hk] at w;exact False.elim w
  |some k=>
   rw[hd,hk] at w
   obtain ⟨a,kvs,rfl,e1,rfl,h2,h3⟩:=Ðr sim r2 hd
   refine ⟨a,_,rfl,by rw[Òg r1 hk];exact DGet.k h2,?_⟩
   rw[←(Ĩ.val (k:=k) h3).1]
   exact w.ok sim (Ň.2 rfl)
theorem ßX (hu:X.A.units+1<cLine) (ha:SE X C a fa) (hb:SE X C b fb) (hk:behindInMarks .In b=false:=by rfl):ST X C (.Compare a [.In] [b] pos) (tB (É Ê6 fa fb)):=by
 refine PT.imp (pt_cmp (pc_din hu ha hb) hk) λ s' H Q h=>?_
 obtain ⟨m,S,s,z,sim,sl,w⟩:=h
 unfold tB É at w
 rw[Ä5] at w
 refine ⟨m,S,s,z,sim,sl,w.bind λ x S1 m1 H1 v e1 s1 r1 w1=>?_⟩
 rw[Ä5] at w1
 exact ⟨m1,S1,s,z,s1,sl.mono e1,w1.bind λ y S2 m2 H2 u e2 s2 r2 w2=>Õb s2 (r1.mono e2) r2 w2.tb⟩
theorem Ó0 (hu:X.A.units+1<cLine) (ha:SE X C a fa) (hb:SE X C b fb) (hk:behindInMarks .NotIn b=false:=by rfl):ST X C (.Compare a [.NotIn] [b] pos) (tB (É ÃB fa fb)):=by
 refine PT.imp (pt_cmp (pc_dnotin hu ha hb) hk) λ s' H Q h=>?_
 obtain ⟨m,S,s,z,sim,sl,w⟩:=h
 unfold tB É at w
 rw[Ä5] at w
 refine ⟨m,S,s,z,sim,sl,w.bind λ x S1 m1 H1 v e1 s1 r1 w1=>?_⟩
 rw[Ä5] at w1
 exact ⟨m1,S1,s,z,s1,sl.mono e1,w1.bind λ y S2 m2 H2 u e2 s2 r2 w2=>ÌG s2 (r1.mono e2) r2 w2.tb⟩
theorem Ój (hu:X.A.units+1<cLine) (ha:SE X C a fa) (hb:SE X C b fb) (hs:NoSl b:=by exact λ _ _=>rfl):SE X C (.Subscript a b pos) (É Æi fa fb):=by
 refine PE.imp (pe_dget hu ha hb hs) λ s' H Q h=>?_
 refine tG.bind h λ m1 S1 s H1 x v z s1 l1 r1 w1=>?_
 refine ⟨m1,S1,s,z,s1,l1,w1.bind λ y S2 m2 H2 u e2 s2 r2 w2=>?_⟩
 unfold Æi at w2
 cases hd:dictOf S2 x with
 |none=>rw[hd] at w2;exact False.elim w2
 |some nk=>
  obtain ⟨n,kws⟩:=nk
  cases hk:keyOf y with
  |none=>rw[hd,hk] at w2;exact False.elim w2
  |some k=>
   rw[hd,hk] at w2
   obtain ⟨ad,kvs,rfl,e1,q,h2,h3⟩:=Ðr s2 (r1.mono e2) hd
   simp only at w2
   cases hv:Äj kws k with
   |none=>rw[hv] at w2;exact False.elim w2
   |some u'=>
    rw[hv] at w2
    obtain ⟨v',q1,q2⟩:=(Ĩ.val (k:=k) h3).2 u' hv
    exact ⟨ad,v',q,by rw[Òg r2 hk,←q1];exact DGet.k h2,w2.ok s2 q2⟩
theorem ÞJ (hu:X.A.units+1<cLine) (ho:SE X C o fo) (hb:SE X C b fb) (he:SE X C e fe) (hs:swapsWith e (some (.Subscript o b pos')) pos.line X.env=pure false:=by rfl):SS X C (.Assign [.Subscript o b pos'] e pos) (ÔC fo fb fe):=by
 refine PS.imp (ps_dput hu ho hb he hs) λ D s' H h=>?_
 obtain ⟨m,S,s,z,sim,sl,w⟩:=h
 have w':=w.â (Q':=λ (_:W) H'=>D.nx s' H') (R:=λ _ _ _ _=>True) z sl λ u S1 m1 H1 v e s1 r w1=>w1.nx z s1 (sl.mono e)
 refine ⟨m,S,s,z,sim,sl,w'.bind λ v S1 m1 H1 vv e1 s1 r1 w1=>?_⟩
 refine ⟨m1,S1,s,z,s1,sl.mono e1,w1.bind λ x S2 m2 H2 xv e2 s2 r2 w2=>?_⟩
 refine ⟨m2,S2,s,z,s2,(sl.mono e1).mono e2,w2.bind λ y S3 m3 H3 yv e3 s3 r3 w3=>?_⟩
 unfold ÔB at w3
 cases hd:dictOf S3 x with
 |none=>rw[hd] at w3;exact False.elim w3
 |some nk=>
  obtain ⟨n,kws⟩:=nk
  cases hk:keyOf y with
  |none=>rw[hd,hk] at w3;exact False.elim w3
  |some k=>
   rw[hd,hk] at w3
   simp only at w3
   split at w3
   ·rename_i hl
    obtain ⟨ad,kvs,rfl,q1,q,h2,h3⟩:=Ðr s3 (r2.mono e3) hd
    refine ⟨ad,upd H3 ad (.dK (putK kvs k vv)),q,by rw[Òg r3 hk];exact DPut.k h2 (by rw[←Ĩ.len h3];exact hl),?_⟩
    have ex:Ext m3 H3 m3 (upd H3 ad (.dK (putK kvs k vv))):=Ext.chg h2 (λ _ z=>nomatch z) (λ _ _ z=>nomatch z)
    exact w3 m3 _ W.non ex (s3.chg q1 h2 (λ _ z=>nomatch z) (λ _ _ z=>nomatch z) ⟨_,upd_same,(Ĩ.put ((r1.mono e2).mono e3) h3).mono ex⟩) trivial
   ·exact False.elim w3
def ÁW (s:Sl):List Nat→List W→Sl
 |i::is,w::ws=>ÁW (s.set i (some w)) is ws
 |_,_=>s
def ßY (is:List Nat) (a:Arg):Ì:=λ s S=>â (a s S) s λ ws S'=>if ws.length=is.length then .nx (ÁW s is ws) S' else .bad
structure åD (K:PySem.W.Frag) (C:Addr) (mc:Value) (m:Str) (p g:Addr):Prop where
 at_:PySem.W.findCls K (.ref C) mc m=some (.get (.builtin "staticmethod.__get__") (.ref p) .none (.ref C))
 rc:∃ rest,PySem.W.recIn K p "staticmethod" =some (.ref g::rest)
 kp:PySem.W.keepIn K (.ref g)=true
end
end Fr
namespace Fr
open PySem PySem.Spec PyProof.Rows L2
mutual
def ÈB:W→Option NestedKey
 | .non=>some .none
 | .int i=>some (.num i)
 | .str x=>some (.text x)
 | .tup ws=>(ËB ws).map .tup
 |_=>none
def ËB:List W→Option (List NestedKey)
 | []=>some []
 |w::ws=>match ÈB w,ËB ws with
  |some k,some ks=>some (k::ks)
  |_,_=>none
end
def tkey (x:W):Option NestedKey:=match ÈB x with
 |some (.tup ks)=>if (NestedKey.tup ks).depth≤8 then some (.tup ks) else none
 |_=>none
def valN (kvs:List (NestedKey×W)) (k:NestedKey):Option W:=(kvs.find? λ kv=>decide (kv.1=k)).map (·.2)
def Îa (kvs:List (NestedKey×W)) (k:NestedKey) (v:W):List (NestedKey×W):=
 if (kvs.any λ kv=>decide (kv.1=k))=true then kvs.map (λ kv=>if kv.1=k then (kv.1,v) else kv) else kvs++[(k,v)]
def Ì9 (S:Å) (x:W):Option (Nat×List (NestedKey×W)):=match x with
 | .ref n=>match S[n]? with
  |some (.dN kvs)=>some (n,kvs)
  |_=>none
 |_=>none
def Ũ (x y:W):M W:=λ S=>match Ì9 S x,tkey y with
 |some (_,kvs),some k=>match valN kvs k with
  |some w=>.ok w S
  |none=>.bad
 |_,_=>.bad
def ÙE (v x y:W) (S:Å):Rs W:=match Ì9 S x,tkey y with
 |some (n,kvs),some k=>if kvs.length<sizeLine then .ok .non (S.set n (.dN (Îa kvs k v))) else .bad
 |_,_=>.bad
def Éd (d k e:Exp):Ì:=λ s S=>â (bd (e s) (λ v=>bd (d s) λ x=>bd (k s) (ÙE v x)) S) s λ _ S'=>.nx s S'
def ÌH:Exp:=λ _=>new (.dN [])
section
variable{Wd:World}{K:PySem.W.Frag}{mg:Str→Option Value}{m:List Addr}{H:Hp}{S:Å}
mutual
theorem Øw:∀ {w:W} {v:V} {k:NestedKey},RV K mg m H w v→ÈB w=some k→NK K H k v
 | .non,v,k,r,h=>by unfold ÈB at h;cases h;unfold RV at r;unfold NK;exact r
 | .int i,v,k,r,h=>by unfold ÈB at h;cases h;unfold RV at r;unfold NK;exact r
 | .str x,v,k,r,h=>by unfold ÈB at h;cases h;unfold RV at r;unfold NK;exact r
 | .tup ws,v,k,r,h=>by
  unfold ÈB at h
  cases hk:ËB ws with
  |none=>rw[hk] at h;cases h
  |some ks=>
   rw[hk] at h;cases h
   unfold RV at r
   obtain ⟨p,vs,e,h1,h2⟩:=r
   unfold NK
   exact ⟨p,vs,e,h1,Õc h2 hk⟩
 | .bl b,v,k,r,h=>by unfold ÈB at h;cases h
 | .fl xs,v,k,r,h=>by unfold ÈB at h;cases h
 | .ref n,v,k,r,h=>by unfold ÈB at h;cases h
 | .gl x,v,k,r,h=>by unfold ÈB at h;cases h
 | .ty n,v,k,r,h=>by unfold ÈB at h;cases h
theorem Õc:∀ {ws:List W} {vs:List V} {ks:List NestedKey},î K mg m H ws vs→ËB ws=some ks→NKs K H ks vs
 | [],vs,ks,r,h=>by unfold ËB at h;cases h;unfold î at r;unfold NKs;exact r
 |w::ws,vs,ks,r,h=>by
  unfold ËB at h
  cases h1:ÈB w with
  |none=>rw[h1] at h;cases h
  |some k=>
   cases h2:ËB ws with
   |none=>rw[h1,h2] at h;cases h
   |some ks'=>
    rw[h1,h2] at h;cases h
    unfold î at r
    obtain ⟨v,r',e,q1,q2⟩:=r
    unfold NKs
    exact ⟨v,r',e,Øw q1 h1,Õc q2 h2⟩
end
theorem Øx {w:W} {v:V} {k:NestedKey} (r:RV K mg m H w v) (h:tkey w=some k):∃ ks,k=.tup ks∧NK K H k v∧k.depth≤8:=by
 unfold tkey at h
 split at h
 ·rename_i ks hk
  split at h
  ·rename_i hd
   cases h
   exact ⟨ks,rfl,Øw r hk,hd⟩
  ·cases h
 ·cases h
end
section
variable{X:Cx}{pins:List (Addr×Obj)}{σ:L2.St}{H:Hp}{s:Shared}
mutual
theorem ÔD (I:Inv X pins σ H s):∀ {k:NestedKey} {v:V} {u:Value},NK X.K H k v→RelV v u→NestedIs s.heap k u
 | .none,_,_,h,r=>by unfold NK at h;subst h;cases (show _=Value.none from r);exact .none
 | .num i,_,_,h,r=>by unfold NK at h;subst h;obtain ⟨t,rfl⟩:=(show ∃t,_=Value.int i t from r);exact .int i t
 | .text x,_,_,h,r=>by unfold NK at h;subst h;obtain ⟨t,rfl⟩:=(show ∃t,_=Value.str x t from r);exact .text x t
 | .tup ks,_,_,h,r=>by
  unfold NK at h
  obtain ⟨p,vs,rfl,h1,h2⟩:=h
  cases (show _=Value.ref p from r)
  obtain ⟨its,rv,hp,_⟩:=I.tuple h1
  obtain ⟨o,ho,hc,n,hd⟩:=hp
  exact .tup ho hc hd (ÚL I h2 rv)
theorem ÚL (I:Inv X pins σ H s):∀ {ks:List NestedKey} {vs:List V} {us:List Value},NKs X.K H ks vs→Vals vs us→NestedAll s.heap ks us
 | [],_,_,h,r=>by
  unfold NKs at h
  subst h
  cases r
  exact .nil
 |k::ks,_,_,h,r=>by
  unfold NKs at h
  obtain ⟨v,vr,rfl,h1,h2⟩:=h
  cases r with
  |cons a b=>exact .cons (ÔD I h1 a) (ÚL I h2 b)
end
end
def ÙF (Wd:World) (K:PySem.W.Frag) (H:Hp) (a:Addr) (xs:List (NestedKey×Addr×Value)):Prop:=
 H a=some (NO Wd a xs)∧∀ x∈xs,NK K H x.1 (.ref x.2.1)∧x.1.depth≤8
section
variable{X:Cx}{pins:List (Addr×Obj)}{σ:L2.St}{H:Hp}{s:Shared}{a:Addr}{xs:List (NestedKey×Addr×Value)}
theorem ÝR (I:Inv X pins σ H s) (h:ÙF X.w X.K H a xs):s.heap.DictOfH (nestedKind X.prog X.w) a xs∧(a==sysModules)=false∧xs.length≤sizeLine:=by
 obtain ⟨h1,h2⟩:=h
 obtain ⟨⟨o,es,ep,q1,q2,q3,q4,q5,q6,q7⟩,_⟩:=I.hok a _ h1
 exact ⟨⟨o,es,ep,q1,q2,q3,q4,λ x hx=>⟨ÔD I (h2 x hx).1 rfl,(h2 x hx).2⟩,q5⟩,q6,q7⟩
theorem ÝS {h:Heap} {H':Hp} (d:h.DictOfH (nestedKind X.prog X.w) a xs) (n:(a==sysModules)=false) (l:xs.length≤sizeLine):ObjOk X.prog X.w H' h a (NO X.w a xs):=by
 obtain ⟨o,es,ep,q1,q2,q3,q4,_,q5⟩:=d
 refine ⟨⟨o,es,ep,q1,q2,q3,q4,q5,n,l⟩,⟨o,q1⟩,λ h1 h2 φ k=>?_⟩
 obtain ⟨o,es,ep,q1,r⟩:=φ
 exact ⟨o,es,ep,k _ q1,r⟩
theorem Ö8 (k:NestedKey) (p:Addr) (v:Value):(storedH xs k p v).length≤xs.length+1:=by
 unfold storedH
 split<;>simp
def á6 (X:Cx) (td ty:TE):TE:=λ σ H Q=>td σ H λ x H1=>ty σ H1 λ y H2=>∃ a xs ks v p,x=.ref a∧ÙF X.w X.K H2 a xs∧
 NK X.K H2 (.tup ks) y∧(NestedKey.tup ks).depth≤8∧atKey xs (.tup ks)=some p∧RelV v p.2∧Q v H2
theorem ÞK {o i:Expr} {pos:Pos} {td ty:TE} (hu:X.A.units+64<cLine) (ho:PE X o td) (hi:PE X i ty) (hs:NoSl i):PE X (.Subscript o i pos) (á6 X td ty):=by
 constructor
 intro pins s σ H Q I h
 have go:∀ {x y:V} {xv yv:Value} {s2:Shared} {H2:Hp},Inv X pins σ H2 s2→RelV x xv→RelV y yv→
   (∃a xs ks v p,x=.ref a∧ÙF X.w X.K H2 a xs∧NK X.K H2 (.tup ks) y∧(NestedKey.tup ks).depth≤8∧atKey xs (.tup ks)=some p∧RelV v p.2∧Q v H2)→
   s2.TypeIs xv "dict" ∧wpAny (model X.prog X.w) X.A (getItem xv yv) (EP X pins σ Q) X.xe s2:=by
  intro x y xv yv s2 H2 I2 rx ry h2
  obtain ⟨a,xs,ks,v,p,rfl,hn,nk,dp,at',rv,q⟩:=h2
  cases (show xv=Value.ref a from rx)
  obtain ⟨dd,hd,hl⟩:=ÝR I2 hn
  have is2:=ÔD I2 nk ry
  unfold NK at nk
  obtain ⟨b,vs,rfl,_⟩:=nk
  cases (show yv=Value.ref b from ry)
  exact ⟨dd.typeIs,wpAny_getItem_heap (knd:=nestedKind X.prog X.w) (by show X.A.units+1+8<cLine;omega) ⟨is2,dp⟩ dd at' ⟨v,H2,I2.tok _,rv,q⟩⟩
 refine subD_of PySem.F.slot_dict_getitem.lookup hs (wpAny_mono (ho.run pins s σ H _ I h) (λ xv s1 h1=>?_) λ _ _ z=>z)
 obtain ⟨x,H1,I1,rx,h1⟩:=h1
 refine wpAny_mono (hi.run pins s1 σ H1 _ I1 h1) (λ yv s2 h2=>?_) λ _ _ z=>z
 obtain ⟨y,H2,I2,ry,h2⟩:=h2
 exact go I2 rx ry h2
def á7 (X:Cx):TSet:=λ o i v H Q=>∃ a xs ks,o=.ref a∧ÙF X.w X.K H a xs∧NK X.K H (.tup ks) i∧(NestedKey.tup ks).depth≤8∧xs.length<sizeLine∧
 ∀p u,i=.ref p→RelV v u→Q (upd H a (NO X.w a (storedH xs (.tup ks) p u)))
theorem Û5 (hu:X.A.units+64<cLine):PSet X (á7 X):=by
 intro pins s σ H o i v ov iv u Q I ro ri rv h
 obtain ⟨a,xs,ks,rfl,hn,nk,dp,hl,q⟩:=h
 cases (show ov=Value.ref a from ro)
 obtain ⟨dd,hd,hz⟩:=ÝR I hn
 have is2:=ÔD I nk ri
 have hi:∃ b,i=.ref b:=by
  unfold NK at nk
  obtain ⟨b,vs,e,_⟩:=nk
  exact ⟨b,e⟩
 obtain ⟨b,rfl⟩:=hi
 cases (show iv=Value.ref b from ri)
 refine wpAny_setItem_heap (knd:=nestedKind X.prog X.w) (hsz:=hz) (by show X.A.units+1+8<cLine;omega) ⟨is2,dp⟩ dd λ h' dd' hs=>?_
 have hl2:(storedH xs (.tup ks) b u).length≤sizeLine:=Nat.le_trans (Ö8 _ _ _) hl
 exact ⟨_,d_write I (by rw[hn.1];exact True.intro) hs (let ⟨o,_,_,ho,_⟩:=dd';⟨o,ho⟩) (ÝS dd' hd hl2),q b u rfl rv⟩
end
section
variable{Wd:World}{K:PySem.W.Frag}{mg:Str→Option Value}{m:List Addr}{H:Hp}{S:Å}
theorem ź.keys:∀ {ws:List (NestedKey×W)} {xs:List (NestedKey×Addr×Value)},ź K mg m H ws xs→∀ x∈xs,NK K H x.1 (.ref x.2.1)∧x.1.depth≤8
 | [],_,h,x,hx=>by unfold ź at h;subst h;cases hx
 |(k,w)::ws,_,h,x,hx=>by
  unfold ź at h
  obtain ⟨p,u,v,r,rfl,h1,_,_,h4⟩:=h
  rcases List.mem_cons.mp hx with rfl|hx
  ·exact h1
  ·exact h4.keys x hx
theorem ź.len:∀ {ws:List (NestedKey×W)} {xs:List (NestedKey×Addr×Value)},ź K mg m H ws xs→ws.length=xs.length
 | [],_,h=>by unfold ź at h;subst h;rfl
 |(k,w)::ws,_,h=>by
  unfold ź at h
  obtain ⟨p,u,v,r,rfl,_,_,_,h4⟩:=h
  simp[h4.len]
theorem ź.val (k:NestedKey):∀ {ws:List (NestedKey×W)} {xs:List (NestedKey×Addr×Value)},ź K mg m H ws xs→
  match valN ws k with
  |some w=>∃ p v,atKey xs k=some p∧RelV v p.2∧RV K mg m H w v
  |none=>atKey xs k=none
 | [],_,h=>by unfold ź at h;subst h;rfl
 |(k',w)::ws,_,h=>by
  unfold ź at h
  obtain ⟨p,u,v,r,rfl,_,h2,h3,h4⟩:=h
  have ih:=h4.val k
  unfold valN atKey at ih ⊢
  by_cases hk:k'=k
  ·simp only[List.find?_cons,hk,decide_true,Option.map_some]
   exact ⟨_,v,rfl,h3,h2⟩
  ·simp only[List.find?_cons,hk,decide_false]
   exact ih
theorem Õd (k:NestedKey):∀ ws:List (NestedKey×W),(ws.any λ kv=>decide (kv.1=k))=(valN ws k).isSome
 | []=>rfl
 |(k',w)::ws=>by
  have ih:=Õd k ws
  unfold valN at ih ⊢
  by_cases hk:k'=k
  ·simp only[List.any_cons,List.find?_cons,hk,decide_true,Bool.true_or];rfl
  ·simp only[List.any_cons,List.find?_cons,hk,decide_false,Bool.false_or];exact ih
theorem ź.any (k:NestedKey) {ws:List (NestedKey×W)} {xs:List (NestedKey×Addr×Value)} (h:ź K mg m H ws xs):(ws.any λ kv=>decide (kv.1=k))=(atKey xs k).isSome:=by
 have q:=h.val k
 have e:=Õd k ws
 rw[e]
 cases hv:valN ws k with
 |none=>rw[hv] at q;rw[q];rfl
 |some w=>rw[hv] at q;obtain ⟨p,v,e1,_⟩:=q;rw[e1];rfl
theorem ź.Íy {k:NestedKey} {w:W} {v:V} {u:Value} (rw':RV K mg m H w v) (ru:RelV v u):∀ {ws:List (NestedKey×W)} {xs:List (NestedKey×Addr×Value)},ź K mg m H ws xs→
  ź K mg m H (ws.map λ kv=>if kv.1=k then (kv.1,w) else kv) (xs.map (putAt k u))
 | [],_,h=>by unfold ź at h;subst h;unfold ź;rfl
 |(k',w')::ws,_,h=>by
  unfold ź at h
  obtain ⟨p,u',v',r,rfl,h1,h2,h3,h4⟩:=h
  have ih:=ź.Íy (k:=k) rw' ru h4
  by_cases hk:k'=k
  ·simp only[List.map_cons,hk,putAt,if_true]
   unfold ź
   exact ⟨p,u,v,_,rfl,by rw[←hk];exact h1,rw',ru,ih⟩
  ·simp only[List.map_cons,hk,putAt,if_false]
   unfold ź
   exact ⟨p,u',v',_,rfl,h1,h2,h3,ih⟩
theorem ź.snoc {k:NestedKey} {w:W} {v:V} {u:Value} {p:Addr} (hk:NK K H k (.ref p)∧k.depth≤8) (rw':RV K mg m H w v) (ru:RelV v u):∀ {ws:List (NestedKey×W)} {xs:List (NestedKey×Addr×Value)},ź K mg m H ws xs→
  ź K mg m H (ws++[(k,w)]) (xs++[(k,p,u)])
 | [],_,h=>by unfold ź at h;subst h;show ź K mg m H [(k,w)] [(k,p,u)];unfold ź;exact ⟨p,u,v,[],rfl,hk,rw',ru,by unfold ź;rfl⟩
 |(k',w')::ws,_,h=>by
  unfold ź at h
  obtain ⟨p',u',v',r,rfl,h1,h2,h3,h4⟩:=h
  show ź K mg m H ((k',w')::(ws++[(k,w)])) ((k',p',u')::(r++[(k,p,u)]))
  unfold ź
  exact ⟨p',u',v',_,rfl,h1,h2,h3,h4.snoc hk rw' ru⟩
theorem ź.put {k:NestedKey} {w:W} {v:V} {u:Value} {p:Addr} (hk:NK K H k (.ref p)∧k.depth≤8) (rw':RV K mg m H w v) (ru:RelV v u) {ws:List (NestedKey×W)} {xs:List (NestedKey×Addr×Value)} (h:ź K mg m H ws xs):
  ź K mg m H (Îa ws k w) (storedH xs k p u):=by
 unfold Îa storedH
 rw[h.any k]
 split
 ·exact h.Íy rw' ru
 ·exact h.snoc hk rw' ru
theorem ÝT (s:ĕ Wd K mg m S H) {x:W} {v:V} {n:Nat} {kws:List (NestedKey×W)} (r:RV K mg m H x v) (h:Ì9 S x=some (n,kws)):
  ∃a xs,x=.ref n∧m[n]?=some a∧v=.ref a∧H a=some (NO Wd a xs)∧ź K mg m H kws xs:=by
 unfold Ì9 at h
 split at h
 ·rename_i k
  cases hk:S[k]? with
  |none=>rw[hk] at h;cases h
  |some o=>
   rw[hk] at h
   cases o with
   |dN kvs'=>
    cases h
    obtain ⟨a,e1,xs,h2,h3⟩:=s.at hk
    unfold RV at r
    obtain ⟨a',e2,rfl⟩:=r
    rw[e1] at e2;cases e2
    exact ⟨a,xs,rfl,e1,rfl,h2,h3⟩
   |_=>cases h
 ·cases h
end
section
variable{X:Cx}{C:Cc}{a b e o i:Expr}{fa fb fe fo fi:Exp}{pos tpos:Pos}
theorem ÉW (hu:X.A.units+64<cLine) (ha:SE X C a fa) (hb:SE X C b fb) (hs:NoSl b:=by exact λ _ _=>rfl):SE X C (.Subscript a b pos) (É Ũ fa fb):=by
 refine PE.imp (ÞK hu ha hb hs) λ s' H Q h=>?_
 refine tG.bind h λ m1 S1 s H1 x v z s1 l1 r1 w1=>?_
 refine ⟨m1,S1,s,z,s1,l1,w1.bind λ y S2 m2 H2 u e2 s2 r2 w2=>?_⟩
 unfold Ũ at w2
 cases hd:Ì9 S2 x with
 |none=>rw[hd] at w2;exact False.elim w2
 |some nk=>
  obtain ⟨n,kws⟩:=nk
  cases hk:tkey y with
  |none=>rw[hd,hk] at w2;exact False.elim w2
  |some k=>
   rw[hd,hk] at w2
   obtain ⟨ad,xs,rfl,e1,q,h2,h3⟩:=ÝT s2 (r1.mono e2) hd
   obtain ⟨ks,rfl,k1,k2⟩:=Øx r2 hk
   simp only at w2
   have hv:=h3.val (.tup ks)
   cases hw:valN kws (.tup ks) with
   |none=>rw[hw] at w2;exact False.elim w2
   |some w=>
    rw[hw] at hv w2
    obtain ⟨p,v',q1,q2,q3⟩:=hv
    exact ⟨ad,xs,ks,v',p,q,⟨h2,h3.keys⟩,k1,k2,q1,q2,w2.ok s2 q3⟩
theorem Øy (hu:X.A.units+64<cLine) (ho:SE X C o fo) (hi:SE X C i fi) (he:SE X C e fe) (hs:swapsWithSole [.Subscript o i tpos] e pos.line X.env=pure false:=by rfl) (hw:swappedStores [.Subscript o i tpos] e X.env=pure none:=by rfl)
  (h1:(assignEach [.Subscript o i tpos] X.env).map (·.2)=[assign (.Subscript o i tpos) X.env]:=by rfl)
  (ha:∀ v,assign (.Subscript o i tpos) X.env v=(do
   let ov ←holding [v] (eval o X.env)
   let iv ←holding [v,ov] (eval i X.env)
   standAt tpos
   holding [v,ov,iv] (setItem ov iv v)
   release [v,ov,iv] []):=by intro _;rfl):SS X C (.Assign [.Subscript o i tpos] e pos) (Éd fo fi fe):=by
 refine PS.imp (ps_asg he (pg_sub ho hi (Û5 hu) ha) hs hw h1) λ D s' H h=>?_
 obtain ⟨m,S,s,z,sim,sl,w⟩:=h
 have w':=w.â (Q':=λ (_:W) H'=>D.nx s' H') (R:=λ _ _ _ _=>True) z sl λ u S1 m1 H1 v e s1 r w1=>w1.nx z s1 (sl.mono e)
 refine ⟨m,S,s,z,sim,sl,w'.bind λ v S1 m1 H1 vv e1 s1 r1 w1=>?_⟩
 refine ⟨m1,S1,s,z,s1,sl.mono e1,w1.bind λ x S2 m2 H2 xv e2 s2 r2 w2=>?_⟩
 refine ⟨m2,S2,s,z,s2,(sl.mono e1).mono e2,w2.bind λ y S3 m3 H3 yv e3 s3 r3 w3=>?_⟩
 unfold ÙE at w3
 cases hd:Ì9 S3 x with
 |none=>rw[hd] at w3;exact False.elim w3
 |some nk=>
  obtain ⟨n,kws⟩:=nk
  cases hk:tkey y with
  |none=>rw[hd,hk] at w3;exact False.elim w3
  |some k=>
   rw[hd,hk] at w3
   simp only at w3
   split at w3
   ·rename_i hl
    obtain ⟨ad,xs,rfl,q1,q,h2,h3⟩:=ÝT s3 (r2.mono e3) hd
    obtain ⟨ks,rfl,k1,k2⟩:=Øx r3 hk
    refine ⟨ad,xs,ks,q,⟨h2,h3.keys⟩,k1,k2,by rw[←h3.len];exact hl,λ p u hy ru=>?_⟩
    subst hy
    have ex:Ext m3 H3 m3 (upd H3 ad (NO X.w ad (storedH xs (.tup ks) p u))):=Ext.chg h2 (λ _ z=>nomatch z) (λ _ _ z=>nomatch z)
    exact w3 m3 _ W.non ex (s3.chg q1 h2 (λ _ z=>nomatch z) (λ _ _ z=>nomatch z) ⟨_,upd_same,(ź.put ⟨k1,k2⟩ ((r1.mono e2).mono e3) ru h3).mono ex⟩) trivial
   ·exact False.elim w3
theorem Øz:SE X C (.Dict [] [] pos) ÌH:=by
 have go:PE X (.Dict [] [] pos) (λ _ H Q=>∀ p xs,xs=[]→H p=none→Q (.ref p) (upd H p (NO X.w p xs))):=by
  constructor
  intro pins s σ H Q I h
  have dd:=Heap.DictOfH.new (knd:=nestedKind X.prog X.w) s.heap
  refine wpAny_Dict_empty ⟨.ref s.heap.objs.size,_,I.laid (a:=s.heap.objs.size) (o:=NO X.w s.heap.objs.size []) (t':=s.toks) (λ _ _ q=>Heap.get?_push_of_some _ q) (Nat.le_refl _) ?_,rfl,h _ _ rfl (I.hok.fresh (Nat.le_refl _))⟩
  exact ÝS dd (beq_eq_false_iff_ne.mpr (Ne.symm (Nat.ne_of_lt I.big))) (Nat.zero_le _)
 refine PE.imp go λ s' H Q h=>?_
 obtain ⟨m,S,s,z,sim,sl,w⟩:=h
 intro q xs e hq
 subst e
 exact w.new sim hq ⟨[],upd_same,by unfold ź;rfl⟩
end
end Fr
namespace Fr
open PySem PySem.Spec PyProof.Rows L2 RT RZ
open ItX (dropH dropH_ne dropH_same inv_drop inv_fp)
section
variable{X:Cx}{A:Around}{pins:List (Addr×Obj)}{σ:L2.St}{H:Hp}{s:Shared}
end
section
variable{X:Cx}{A:Around}{pins:List (Addr×Obj)}{σ:L2.St}{H:Hp}{s:Shared}{q it t a:Addr}{ys:List V}{R:Result→Shared→Prop}
end
section
variable{prog:Program}{w:World}{A:Around}{E:Value→Shared→Prop}{s:Shared}{Q:PySem.Fin→Shared→Prop}
structure ClI (K:PySem.W.Frag) (C fi:Addr):Prop where
 it:PySem.W.findIn K (.ref C) "__iter__" =some (some (.ref fi))
 fn:PySem.W.isFn K (.ref fi)=true
 len:PySem.W.findIn K (.ref C) "__len__" =some none
 hint:PySem.W.findIn K (.ref C) "__length_hint__" =some none
end
section
variable{X:Cx}{CI:CXT}{EI:XK}{A:Around}{pins:List (Addr×Obj)}{σ:L2.St}{H:Hp}{s:Shared}{q t a C dx fi:Addr}{fs:List (Str×V)}{ys:List V}{n:Nat}{fd:FuncData}{ps:List Str}{nm:Str}
variable{Q:PySem.Fin→Shared→Prop}
end
section
variable{X:Cx}{CI:CXT}{EI:XK}{C fi:Addr}{n:Nat}{fd:FuncData}{ps:List Str}{nm:Str}
end
section
variable{P:Program}{w:World}{K:PySem.W.Frag}{mg:Str→Option Value}{base:Heap}
end
section
variable{X:Cx}{C:Cc}{a:Expr}{fo:Exp}{pos p:Pos}{A:Addr}{c f:Str}
end
end Fr
namespace Fr
open PySem
def Ă (r:RS) (b:Ì):RS:=match r with
 | .nx s S=>b s S
 |r=>r
def ÿ (r:RS) (k:Ì):RS:=match r with
 | .nx s S=>k s S
 | .ct s S=>k s S
 | .bk s S=>.nx s S
 |r=>r
def ý {α β:Type} (r:Rs α) (k:α→M β):Rs β:=match r with
 | .ok a S=>k a S
 | .ex c d S=>.ex c d S
 | .bad=>.bad
def fnK (r:RS):Rs W:=match r with
 | .rt w S=>.ok w S
 | .nx _ S=>.ok .non S
 | .ex c d _ S=>.ex c d S
 |_=>.bad
section
variable{α β:Type}{c:Prop}[Decidable c]
theorem ň (f:M α) (k:α→M β) (S:Å):bd f k S=ý (f S) k:=rfl
theorem ė (a:α) (S:Å) (k:α→M β):ý (.ok a S) k=k a S:=rfl
theorem Äk (x:Str) (d:Option (List (Str×W))) (S:Å) (k:α→M β):ý (.ex x d S) k=.ex x d S:=rfl
theorem Âr (k:α→M β):ý .bad k=.bad:=rfl
theorem Âs (x y:Rs α) (k:α→M β):ý (if c then x else y) k=if c then ý x k else ý y k:=by split<;>rfl
theorem Â9 (a:α) (S:Å):rt a S=.ok a S:=rfl
theorem Äl (S:Å):(bad:M α) S=.bad:=rfl
theorem Ât (f g:M α) (S:Å):(if c then f else g) S=if c then f S else g S:=by split<;>rfl
theorem Ţ (a:α) (S:Å) (s:Sl) (k:α→Å→RS):â (.ok a S) s k=k a S:=rfl
theorem Äm (x:Str) (d:Option (List (Str×W))) (S:Å) (s:Sl) (k:α→Å→RS):â (.ex x d S) s k=.ex x d s S:=rfl
theorem Âu (s:Sl) (k:α→Å→RS):â .bad s k=.bad:=rfl
theorem Âv (x y:Rs α) (s:Sl) (k:α→Å→RS):â (if c then x else y) s k=if c then â x s k else â y s k:=by split<;>rfl
theorem seq_eq (a b:Ì) (s:Sl) (S:Å):Æ a b s S=Ă (a s S) b:=by unfold Æ Ă;cases a s S<;>rfl
theorem ŗ (s:Sl) (S:Å) (b:Ì):Ă (.nx s S) b=b s S:=rfl
theorem Âe (w:W) (S:Å) (b:Ì):Ă (.rt w S) b=.rt w S:=rfl
theorem Âw (s:Sl) (S:Å) (b:Ì):Ă (.bk s S) b=.bk s S:=rfl
theorem Âx (s:Sl) (S:Å) (b:Ì):Ă (.ct s S) b=.ct s S:=rfl
theorem Ây (x:Str) (d:Option (List (Str×W))) (s:Sl) (S:Å) (b:Ì):Ă (.ex x d s S) b=.ex x d s S:=rfl
theorem À3 (b:Ì):Ă .bad b=.bad:=rfl
theorem À4 (x y:RS) (b:Ì):Ă (if c then x else y) b=if c then Ă x b else Ă y b:=by split<;>rfl
theorem ÀF (s:Sl) (S:Å) (b:Ì):ÿ (.nx s S) b=b s S:=rfl
theorem À5 (s:Sl) (S:Å) (b:Ì):ÿ (.ct s S) b=b s S:=rfl
theorem À6 (s:Sl) (S:Å) (b:Ì):ÿ (.bk s S) b=.nx s S:=rfl
theorem À7 (w:W) (S:Å) (b:Ì):ÿ (.rt w S) b=.rt w S:=rfl
theorem À8 (x:Str) (d:Option (List (Str×W))) (s:Sl) (S:Å) (b:Ì):ÿ (.ex x d s S) b=.ex x d s S:=rfl
theorem Ž (b:Ì):ÿ .bad b=.bad:=rfl
theorem ž (x y:RS) (b:Ì):ÿ (if c then x else y) b=if c then ÿ x b else ÿ y b:=by split<;>rfl
theorem ÃV (n:Nat) (b:Ì) (ws:List W) (S:Å):ē n b ws S=fnK (b (ws.map some++List.replicate (n-ws.length) none) S):=rfl
theorem Ãt (w:W) (S:Å):fnK (.rt w S)=.ok w S:=rfl
theorem Än (s:Sl) (S:Å):fnK (.nx s S)=.ok .non S:=rfl
theorem Äo (x:Str) (d:Option (List (Str×W))) (s:Sl) (S:Å):fnK (.ex x d s S)=.ex x d S:=rfl
theorem Âz (x y:RS):fnK (if c then x else y)=if c then fnK x else fnK y:=by split<;>rfl
end
theorem Àa (w:W) (s:Sl) (S:Å):À 0 (some w::s) S=.ok w S:=rfl
theorem ÁX (i:Nat) (o:Option W) (s:Sl) (S:Å):À (i+1) (o::s) S=À i s S:=rfl
theorem ÃW (w:W) (s:Sl) (S:Å):eC w s S=.ok w S:=rfl
theorem ÁY (o:W→W→M W) (a b:Exp) (s:Sl) (S:Å):É o a b s S=ý (a s S) (λ x=>bd (b s) (o x)):=rfl
theorem Äp (o:W→M W) (a:Exp) (s:Sl) (S:Å):eUn o a s S=ý (a s S) o:=rfl
def boK (k:Bool→M W) (x:W):M W:=match x with
 | .bl b=>k b
 |_=>bad
def tbK (x:W):M Bool:=match x with
 | .bl b=>rt b
 |_=>bad
theorem Âf (a b:Exp) (s:Sl) (S:Å):Ãn a b s S=ý (a s S) (boK λ k=>if k=true then b s else rt (.bl false)):=by
 unfold Ãn bd ý
 cases a s S with
 |ok x S'=>cases x with
  |bl k=>cases k<;>rfl
  |_=>rfl
 |_=>rfl
theorem Äq (a b:Exp) (s:Sl) (S:Å):eOr a b s S=ý (a s S) (boK λ k=>if k=true then rt (.bl true) else b s):=by
 unfold eOr bd ý
 cases a s S with
 |ok x S'=>cases x with
  |bl k=>cases k<;>rfl
  |_=>rfl
 |_=>rfl
theorem ÂA (a:Exp) (s:Sl) (S:Å):Ùn a s S=ý (a s S) (boK λ k=>rt (.bl !k)):=by
 unfold Ùn bd ý
 cases a s S with
 |ok x S'=>cases x with
  |bl k=>cases k<;>rfl
  |_=>rfl
 |_=>rfl
theorem Är (k:Bool→M W) (b:Bool) (S:Å):boK k (.bl b) S=k b S:=rfl
theorem Äs (c:ï) (a b:Exp) (s:Sl) (S:Å):eIf c a b s S=ý (c s S) (λ k=>if k=true then a s else b s):=rfl
theorem Ū (o o':W→W→M W) (a b c:Exp) (s:Sl) (S:Å):ÃO o o' a b c s S=ý (a s S) (λ x=>bd (b s) λ y=>bd (o x y) (boK λ k=>if k=true then bd (c s) (o' y) else rt (.bl false))):=by
 unfold ÃO bd ý
 cases a s S with
 |ok x S1=>
  simp only
  cases b s S1 with
  |ok y S2=>
   simp only
   cases o x y S2 with
   |ok z S3=>cases z with
    |bl k=>cases k<;>rfl
    |_=>rfl
   |_=>rfl
  |_=>rfl
 |_=>rfl
theorem ÃC (a:Exp) (s:Sl) (S:Å):tB a s S=ý (a s S) tbK:=by
 unfold tB bd ý
 cases a s S with
 |ok x S'=>cases x<;>rfl
 |_=>rfl
theorem ÁZ (b:Bool) (S:Å):tbK (.bl b) S=.ok b S:=rfl
theorem ÂB (a b:ï) (s:Sl) (S:Å):tAnd a b s S=ý (a s S) (λ k=>if k=true then b s else rt false):=rfl
theorem Ät (a b:ï) (s:Sl) (S:Å):tOr a b s S=ý (a s S) (λ k=>if k=true then rt true else b s):=rfl
theorem ÂC (a:ï) (s:Sl) (S:Å):tNot a s S=ý (a s S) (λ k=>rt !k):=rfl
theorem ũ (s:Sl) (S:Å):Ä s S=.ok [] S:=rfl
theorem ĸ (a:Exp) (r:Arg) (s:Sl) (S:Å):Á a r s S=ý (a s S) (λ x=>bd (r s) λ xs=>rt (x::xs)):=rfl
theorem Âg (a:Arg) (s:Sl) (S:Å):ô a s S=ý (a s S) (λ xs=>if xs.length≤sizeLine then rt (.tup xs) else bad):=rfl
theorem ÂD (a:Arg) (s:Sl) (S:Å):ĩ a s S=ý (a s S) (λ xs=>if xs.length≤sizeLine then new (.lst xs) else bad):=rfl
theorem Çv (o:Ob) (S:Å):new o S=.ok (.ref S.length) (S++[o]):=rfl
theorem ÃD (f:List W→M W) (a:Arg) (s:Sl) (S:Å):eB f a s S=ý (a s S) f:=rfl
theorem ÀG (f:Fn) (a:Arg) (s:Sl) (S:Å):Ò f a s S=ý (a s S) f:=rfl
theorem ÄS (T:String) (f:W→List W→M W) (o:Exp) (a:Arg) (s:Sl) (S:Å):eM T f o a s S=ý (o s S) (λ x S=>if tyM T x S=true then ý (a s S) (f x) else .bad):=rfl
theorem Äu (f:Exp) (lo hi:Sl→M (Option Int)) (s:Sl) (S:Å):eSl f lo hi s S=ý (f s S) (λ x=>bd (lo s) λ l=>bd (hi s) λ u=>slM x l u):=rfl
theorem À9 (s:Sl) (S:Å):È5 s S=.ok none S:=rfl
def Õe (x:W):M (Option Int):=match x with
 | .int i=>rt (some i)
 |_=>bad
theorem ÀH (f:Exp) (s:Sl) (S:Å):Ès f s S=ý (f s S) Õe:=by
 unfold Ès bd ý
 cases f s S with
 |ok x S'=>cases x<;>rfl
 |_=>rfl
theorem Áa (i:Int) (S:Å):Õe (.int i) S=.ok (some i) S:=rfl
theorem ÀQ (s:Sl) (S:Å):Ñ s S=.nx s S:=rfl
theorem ū (e:Exp) (s:Sl) (S:Å):ġ e s S=â (e s S) s (λ _ S'=>.nx s S'):=rfl
theorem ÁD (e:Exp) (s:Sl) (S:Å):Ð e s S=â (e s S) s (λ w S'=>.rt w S'):=rfl
theorem Áb (s:Sl) (S:Å):Ëx s S=.rt .non S:=rfl
theorem Á0 (c:ï) (a b:Ì) (s:Sl) (S:Å):Ù c a b s S=â (c s S) s (λ k S'=>if k=true then a s S' else b s S'):=rfl
theorem Âh (i:Nat) (e:Exp) (s:Sl) (S:Å):Ô i e s S=â (e s S) s (λ w S'=>.nx (s.set i (some w)) S'):=rfl
theorem Ŕ (c:Str) (s:Sl) (S:Å):Ĥ c s S=.ex c none s S:=rfl
theorem Àb (s:Sl) (S:Å):ÔR s S=.bk s S:=rfl
theorem Ác (s:Sl) (S:Å):Ùo s S=.ct s S:=rfl
def Ñx (g:Ā) (b:Ì) (s:Sl) (src:Src) (S:Å):RS:=match src with
 | .vals xs=>Ź g b xs s S
 | .live n=>match S[n]? with
  |some (.lst ys)=>forL g b n ys.length ys.length s S
  |_=>.bad
 | .gen n f c=>ÄJ g b n f c n s S
theorem Ä7 (g:Ā) (b:Ì) (s:Sl) (n:Nat) (f:Nat→Å→Option W) (c:Å→Bool) (S:Å):Ñx g b s (.gen n f c) S=ÄJ g b n f c n s S:=rfl
theorem ÁE (it:Sl→M Src) (g:Ā) (b:Ì) (s:Sl) (S:Å):ê it g b s S=â (it s S) s (Ñx g b s):=rfl
theorem Ã3 (g:Ā) (b:Ì) (s:Sl) (xs:List W) (S:Å):Ñx g b s (.vals xs) S=Ź g b xs s S:=rfl
theorem ÅD (f:Exp) (s:Sl) (S:Å):iE f s S=ý (f s S) srcOf:=rfl
theorem Àc (xs:List W) (S:Å):srcOf (.tup xs) S=.ok (.vals xs) S:=rfl
theorem Ä8 (xs:List W) (S:Å):srcOf (.fl xs) S=.ok (.vals xs) S:=rfl
theorem Àd (x:Str) (S:Å):srcOf (.str x) S=.ok (.vals (x.cps.toList.map Æ5)) S:=rfl
theorem Ád (g:Ā) (b:Ì) (s:Sl) (S:Å):Ź g b [] s S=.nx s S:=rfl
theorem Íz (i:Nat) (b:Ì) (x:W) (xs:List W) (s:Sl) (S:Å):Ź (gN i) b (x::xs) s S=ÿ (b (s.set i (some x)) S) (Ź (gN i) b xs):=by
 unfold Ź gN ÿ
 simp only<;>(cases b (s.set i (some x)) S<;>rfl)
theorem ÚM (i a n:Nat) (g:Ā) (b:Ì) (ys:List W) (s:Sl) (S:Å) (h:S[a]?=some (.lst ys)) (hn:ys.length=n):forL g b a n 0 s S=.nx s S:=by
 unfold forL
 simp only[h,hn,if_true]
theorem Áe (i j:Int) (S:Å):ĉ (.int i) (.int j) S=.ok (.int (i+j)) S:=rfl
theorem Áf (a b:Str) (S:Å):ĉ (.str a) (.str b) S=if a.length+b.length≤sizeLine then .ok (.str (a++b)) S else .bad:=by unfold ĉ;simp only<;>(split<;>rfl)
theorem Ág (a b:List W) (S:Å):ĉ (.tup a) (.tup b) S=if a.length+b.length≤sizeLine then .ok (.tup (a++b)) S else .bad:=by unfold ĉ;simp only<;>(split<;>rfl)
theorem Áh (i j:Int) (S:Å):Æ6 (.int i) (.int j) S=.ok (.int (i-j)) S:=rfl
theorem Ái (i j:Int) (S:Å):mulM (.int i) (.int j) S=if (inR 18446744073709551615 i||inR 18446744073709551615 j)=true then .ok (.int (i*j)) S else .bad:=by unfold mulM;simp only<;>(split<;>rfl)
theorem Áj (a:Str) (n:Int) (S:Å):mulM (.str a) (.int n) S=if 0≤n∧n≤1000∧1≤a.length∧a.length≤1000 then .ok (.str (ÀT a n.toNat)) S else .bad:=by unfold mulM;simp only<;>(split<;>rfl)
theorem ÀI (i j:Int) (S:Å):Âp (.int i) (.int j) S=if j≠0 then .ok (.int (i.fmod j)) S else .bad:=by unfold Âp;simp only<;>(split<;>rfl)
theorem Àe (i j:Int) (S:Å):È4 (.int i) (.int j) S=if j≠0∧j.natAbs<1073741824 then .ok (.int (i.fdiv j)) S else .bad:=by unfold È4;simp only<;>(split<;>rfl)
theorem Ä9 (i j:Int) (S:Å):Ñr (.int i) (.int j) S=if 0≤j∧j≤1000000∧i.natAbs<2 ^ 64 then .ok (.int (i ^ j.toNat)) S else .bad:=by unfold Ñr;simp only<;>(split<;>rfl)
theorem Ák (i:Int) (S:Å):ÛV (.int i) S=.ok (.int (-i)) S:=rfl
theorem ÂE (i j:Int) (S:Å):ltM (.int i) (.int j) S=.ok (.bl (decide (i<j))) S:=rfl
theorem ÂF (i j:Int) (S:Å):leM (.int i) (.int j) S=.ok (.bl (decide (i≤j))) S:=rfl
theorem Âi (i j:Int) (S:Å):gtM (.int i) (.int j) S=.ok (.bl (decide (j<i))) S:=rfl
theorem ÂG (i j:Int) (S:Å):geM (.int i) (.int j) S=.ok (.bl (decide (j≤i))) S:=rfl
theorem ÀR (i j:Int) (S:Å):Ė (.int i) (.int j) S=.ok (.bl (decide (i=j))) S:=rfl
theorem ÂH (i j:Str) (S:Å):Ė (.str i) (.str j) S=.ok (.bl (decide (i=j))) S:=rfl
theorem Äv (i j:Bool) (S:Å):Ė (.bl i) (.bl j) S=.ok (.bl (decide (i=j))) S:=rfl
theorem ÂI (i j:Int) (S:Å):neM (.int i) (.int j) S=.ok (.bl !(decide (i=j))) S:=rfl
theorem ÂJ (i j:Str) (S:Å):neM (.str i) (.str j) S=.ok (.bl !(decide (i=j))) S:=rfl
theorem Äw (i j:Bool) (S:Å):neM (.bl i) (.bl j) S=.ok (.bl !(decide (i=j))) S:=rfl
theorem ÂK (S:Å):œ .non .non S=.ok (.bl true) S:=rfl
theorem ÂL (i:Int) (S:Å):œ (.int i) .non S=.ok (.bl false) S:=rfl
theorem ÂM (i:Str) (S:Å):œ (.str i) .non S=.ok (.bl false) S:=rfl
theorem Äx (i:Bool) (S:Å):œ (.bl i) .non S=.ok (.bl false) S:=rfl
theorem ÂN (i:List W) (S:Å):œ (.tup i) .non S=.ok (.bl false) S:=rfl
theorem ÆL (i:Nat) (S:Å):œ (.ref i) .non S=.ok (.bl false) S:=rfl
theorem ÆM (i j:Str) (S:Å):inM (.str i) (.str j) S=.ok (.bl (Ê2 i j)) S:=rfl
theorem Ãa (i j:Str) (S:Å):ßD (.str i) (.str j) S=.ok (.bl !(Ê2 i j)) S:=rfl
theorem Ál (z:Str) (S:Å):ö [.str z] S=if z.length≤sizeLine then .ok (.int z.length) S else .bad:=by unfold ö;simp only<;>(split<;>rfl)
theorem Ám (z:List W) (S:Å):ö [.tup z] S=.ok (.int z.length) S:=rfl
theorem ÆN (z:List W) (S:Å):ö [.fl z] S=.ok (.int z.length) S:=rfl
theorem ÀJ (i:Int) (S:Å):ÃK [.int i] S=.ok (.int i) S:=rfl
theorem ÂO (x:Str) (S:Å):tyM "str" (.str x) S=true:=rfl
theorem ÍA (xs:List W) (i:Int) (w:W) (S:Å) (h:L2.atI xs i=some w):ã (.tup xs) (.int i) S=.ok w S:=by unfold ã;simp only[h];rfl
theorem ÍB (x:Str) (i:Int) (c:Nat) (S:Å) (hl:x.length≤sizeLine) (h:L2.atI x.cps.toList i=some c):ã (.str x) (.int i) S=.ok (Æ5 c) S:=by unfold ã;simp only[h,hl,if_true];rfl
theorem ÂP (z:Str) (lo hi:Option Int) (S:Å):slM (.str z) lo hi S=if z.length≤sizeLine then .ok (.str (L2.cutS z lo hi)) S else .bad:=by unfold slM;simp only<;>(split<;>rfl)
def Ë8 (o:Option Bool) (S:Å):Rs W:=match o with
 |some b=>.ok (.bl b) S
 |none=>.bad
theorem Ã4 (b:Bool) (S:Å):Ë8 (some b) S=.ok (.bl b) S:=rfl
theorem ă:L2.kitB "NoneType" "bool" =some false:=by decide +kernel
theorem Č:L2.kitB "NoneType" "int" =some false:=by decide +kernel
theorem č:L2.kitB "NoneType" "str" =some false:=by decide +kernel
theorem þ:L2.kitB "NoneType" "tuple" =some false:=by decide +kernel
theorem Ą:L2.kitB "NoneType" "list" =some false:=by decide +kernel
theorem Ĺ:L2.kitB "NoneType" "dict" =some false:=by decide +kernel
theorem Ĭ:L2.kitB "bool" "bool" =some true:=by decide +kernel
theorem Ŋ:L2.kitB "bool" "int" =some true:=by decide +kernel
theorem ŋ:L2.kitB "bool" "str" =some false:=by decide +kernel
theorem ě:L2.kitB "bool" "tuple" =some false:=by decide +kernel
theorem ĭ:L2.kitB "bool" "list" =some false:=by decide +kernel
theorem ÀU:L2.kitB "bool" "dict" =some false:=by decide +kernel
theorem Ō:L2.kitB "int" "bool" =some false:=by decide +kernel
theorem Ŵ:L2.kitB "int" "int" =some true:=by decide +kernel
theorem ŵ:L2.kitB "int" "str" =some false:=by decide +kernel
theorem Į:L2.kitB "int" "tuple" =some false:=by decide +kernel
theorem ō:L2.kitB "int" "list" =some false:=by decide +kernel
theorem ÁM:L2.kitB "int" "dict" =some false:=by decide +kernel
theorem Ŏ:L2.kitB "str" "bool" =some false:=by decide +kernel
theorem Ŷ:L2.kitB "str" "int" =some false:=by decide +kernel
theorem ŷ:L2.kitB "str" "str" =some true:=by decide +kernel
theorem į:L2.kitB "str" "tuple" =some false:=by decide +kernel
theorem ŏ:L2.kitB "str" "list" =some false:=by decide +kernel
theorem ÁN:L2.kitB "str" "dict" =some false:=by decide +kernel
theorem Ĝ:L2.kitB "tuple" "bool" =some false:=by decide +kernel
theorem İ:L2.kitB "tuple" "int" =some false:=by decide +kernel
theorem ı:L2.kitB "tuple" "str" =some false:=by decide +kernel
theorem Ĕ:L2.kitB "tuple" "tuple" =some true:=by decide +kernel
theorem ĝ:L2.kitB "tuple" "list" =some false:=by decide +kernel
theorem Ày:L2.kitB "tuple" "dict" =some false:=by decide +kernel
theorem Ĳ:L2.kitB "list" "bool" =some false:=by decide +kernel
theorem Ő:L2.kitB "list" "int" =some false:=by decide +kernel
theorem ő:L2.kitB "list" "str" =some false:=by decide +kernel
theorem Ğ:L2.kitB "list" "tuple" =some false:=by decide +kernel
theorem ĳ:L2.kitB "list" "list" =some true:=by decide +kernel
theorem ÀV:L2.kitB "list" "dict" =some false:=by decide +kernel
theorem ÀW:L2.kitB "dict" "bool" =some false:=by decide +kernel
theorem ÁO:L2.kitB "dict" "int" =some false:=by decide +kernel
theorem ÁP:L2.kitB "dict" "str" =some false:=by decide +kernel
theorem Àz:L2.kitB "dict" "tuple" =some false:=by decide +kernel
theorem ÀX:L2.kitB "dict" "list" =some false:=by decide +kernel
theorem ÀY:L2.kitB "dict" "dict" =some true:=by decide +kernel
theorem Án (n:String) (S:Å):ú [.non,.ty n] S=Ë8 (L2.kitB "NoneType" n) S:=by unfold ú Ë8;simp only[tyN]<;>(split<;>simp_all)
theorem ÂQ (b:Bool) (n:String) (S:Å):ú [.bl b,.ty n] S=Ë8 (L2.kitB "bool" n) S:=by unfold ú Ë8;simp only[tyN]<;>(split<;>simp_all)
theorem Áo (b:Int) (n:String) (S:Å):ú [.int b,.ty n] S=Ë8 (L2.kitB "int" n) S:=by unfold ú Ë8;simp only[tyN]<;>(split<;>simp_all)
theorem Áp (b:Str) (n:String) (S:Å):ú [.str b,.ty n] S=Ë8 (L2.kitB "str" n) S:=by unfold ú Ë8;simp only[tyN]<;>(split<;>simp_all)
theorem Áq (b:List W) (n:String) (S:Å):ú [.tup b,.ty n] S=Ë8 (L2.kitB "tuple" n) S:=by unfold ú Ë8;simp only[tyN]<;>(split<;>simp_all)
def obL {α:Type} (o:Option Ob) (k:List W→Rs α):Rs α:=match o with
 |some (.lst xs)=>k xs
 |_=>.bad
def obS (o:Option Ob) (k:List W→RS):RS:=match o with
 |some (.lst xs)=>k xs
 |_=>.bad
def ÃL {α β:Type} (o:Option α) (k:α→Rs β):Rs β:=match o with
 |some x=>k x
 |none=>.bad
def ÙG (o:Option Ob):Bool:=match o with
 |some (.lst _)=>true
 |_=>false
theorem ÃE {α:Type} (xs:List W) (k:List W→Rs α):obL (some (.lst xs)) k=k xs:=rfl
theorem ÅP (xs:List W) (k:List W→RS):obS (some (.lst xs)) k=k xs:=rfl
theorem Ãu {α β:Type} (x:α) (k:α→Rs β):ÃL (some x) k=k x:=rfl
theorem Ãv (xs:List W):ÙG (some (.lst xs))=true:=rfl
theorem Ãb (n:Nat) (y:W) (S:Å):Âd (.ref n) [y] S=obL S[n]? λ xs=>if xs.length<sizeLine then .ok .non (S.set n (.lst (xs++[y]))) else .bad:=by
 unfold Âd obL;simp only<;>(cases S[n]? with
 |none=>rfl
 |some o=>cases o<;>rfl)
theorem ÅQ (n:Nat) (S:Å):Óa (.ref n) [] S=obL S[n]? λ xs=>ÃL xs[xs.length-1]? λ y=>.ok y (S.set n (.lst xs.dropLast)):=by
 unfold Óa obL ÃL;simp only<;>(cases S[n]? with
 |none=>rfl
 |some o=>cases o with
  |lst xs=>simp only;cases xs[xs.length-1]?<;>rfl
  |_=>rfl)
theorem ÁQ (n:Nat) (S:Å):ÉU (.ref n) [] S=obL S[n]? λ xs=>.ok .non (S.set n (.lst xs.reverse)):=by
 unfold ÉU obL;simp only<;>(cases S[n]? with
 |none=>rfl
 |some o=>cases o<;>rfl)
theorem ÁF (n:Nat) (S:Å):ö [.ref n] S=obL S[n]? λ ys=>.ok (.int ys.length) S:=by
 unfold ö obL;simp only<;>(cases S[n]? with
 |none=>rfl
 |some o=>cases o<;>rfl)
theorem Åa (n:Nat) (i:Int) (S:Å):ã (.ref n) (.int i) S=obL S[n]? λ xs=>ÃL (L2.atI xs i) λ w=>.ok w S:=by
 unfold ã obL ÃL;simp only<;>(cases S[n]? with
 |none=>rfl
 |some o=>cases o with
  |lst xs=>simp only;cases L2.atI xs i<;>rfl
  |_=>rfl)
theorem Åb (xs:List W) (i:Int) (S:Å):ã (.tup xs) (.int i) S=ÃL (L2.atI xs i) λ w=>.ok w S:=by
 unfold ã ÃL;simp only<;>(cases L2.atI xs i<;>rfl)
theorem ÆO (xs:List W) (i:Int) (S:Å):ã (.fl xs) (.int i) S=ÃL (L2.atI xs i) λ w=>.ok w S:=by
 unfold ã ÃL;simp only<;>(cases L2.atI xs i<;>rfl)
theorem Åc (x:Str) (i:Int) (S:Å):ã (.str x) (.int i) S=if x.length≤sizeLine then ÃL (L2.atI x.cps.toList i) λ c=>.ok (Æ5 c) S else .bad:=by
 unfold ã ÃL;simp only
 by_cases h:x.length≤sizeLine
 ·rw[if_pos h,if_pos h];cases L2.atI x.cps.toList i<;>rfl
 ·rw[if_neg h,if_neg h];rfl
theorem Á1 (n:Nat) (S:Å):srcOf (.ref n) S=obL S[n]? λ _=>.ok (.live n) S:=by
 unfold srcOf obL;simp only<;>(cases S[n]? with
 |none=>rfl
 |some o=>cases o<;>rfl)
theorem Á2 (g:Ā) (b:Ì) (s:Sl) (n:Nat) (S:Å):Ñx g b s (.live n) S=obS S[n]? λ ys=>forL g b n ys.length ys.length s S:=by
 unfold Ñx obS;simp only
theorem Äy (n:Nat) (S:Å):tyM "list" (.ref n) S=ÙG S[n]?:=by
 unfold tyM ÙG;simp only<;>(cases S[n]? with
 |none=>rfl
 |some o=>cases o<;>rfl)
theorem Äz (S:Å) (o:Ob):(S++[o])[S.length]?=some o:=by simp
theorem Åd (S:Å) (o o':Ob):(S++[o]).set S.length o'=S++[o']:=by simp[List.set_append]
theorem ÈT {S:Å} {n:Nat} {o:Ob} (r:Å) (h:S[n]?=some o):(S++r)[n]?=some o:=by
 rw[List.getElem?_append_left (List.getElem?_eq_some_iff.mp h).1];exact h
theorem ÀB {S:Å} {n:Nat} {o o':Ob} (h:S[n]?=some o):(S.set n o')[n]?=some o':=List.getElem?_set_self (List.getElem?_eq_some_iff.mp h).1
def ÉX (r:RS) (tab:List (Str×Bool)) (su:Str→Option (List (Str×W))→Ì):RS:=match r with
 | .ex c d s1 S1=>match Ãz tab c with
  |some true=>Ç4 (su c d s1 S1)
  |some false=>.ex c d s1 S1
  |none=>.bad
 |r=>r
theorem Âj (b:Ì) (tab:List (Str×Bool)) (su:Str→Option (List (Str×W))→Ì) (s:Sl) (S:Å):Ç5 b tab su s S=ÉX (b s S) tab su:=by
 unfold Ç5 ÉX;first|rfl |(cases b s S<;>rfl)
theorem ÂR (s:Sl) (S:Å) (tab:List (Str×Bool)) (su:Str→Option (List (Str×W))→Ì):ÉX (.nx s S) tab su=.nx s S:=rfl
theorem ÂS (w:W) (S:Å) (tab:List (Str×Bool)) (su:Str→Option (List (Str×W))→Ì):ÉX (.rt w S) tab su=.rt w S:=rfl
theorem ÂT (s:Sl) (S:Å):Ç4 (.nx s S)=.nx s S:=rfl
theorem ÂU (w:W) (S:Å):Ç4 (.rt w S)=.rt w S:=rfl
def Ée (i:Nat) (r:RS) (tab:List (Str×Bool)) (su:Str→Option (List (Str×W))→Ì):RS:=match r with
 | .ex c d s1 S1=>match Ãz tab c with
  |some true=>if i<s1.length then È3 i (Ç4 (su c d (s1.set i none) S1)) else .bad
  |some false=>.ex c d s1 S1
  |none=>.bad
 |r=>r
theorem Àf (i:Nat) (b:Ì) (tab:List (Str×Bool)) (su:Str→Option (List (Str×W))→Ì) (s:Sl) (S:Å):Òb i b tab su s S=Ée i (b s S) tab su:=by
 unfold Òb Ée;first|rfl |(cases b s S<;>rfl)
theorem Àg (i:Nat) (s:Sl) (S:Å) (tab:List (Str×Bool)) (su:Str→Option (List (Str×W))→Ì):Ée i (.nx s S) tab su=.nx s S:=rfl
theorem Àh (i:Nat) (w:W) (S:Å) (tab:List (Str×Bool)) (su:Str→Option (List (Str×W))→Ì):Ée i (.rt w S) tab su=.rt w S:=rfl
theorem Ár (i:Nat) (s:Sl) (S:Å):È3 i (.nx s S)=.nx (s.set i none) S:=rfl
theorem Ás (i:Nat) (w:W) (S:Å):È3 i (.rt w S)=.rt w S:=rfl
theorem ĺ (s:Ì):ÔU none s=s:=rfl
theorem ÍC (tab:List (Str×Bool)) (c:Str) (b:Bool) (s:Sl) (S:Å) (h:Ãz tab c=some b):Ùu tab c s S=.ok (.bl b) S:=by unfold Ùu;simp only[h];rfl
theorem ÆP (c:Nat):Æ5 c=.str ⟨#[c]⟩:=rfl
theorem Åe (c:Nat) (z:Str):Ê2 ⟨#[c]⟩ z=decide (c∈z.cps.toList):=PySem.StrLaws.found_one z c
def Ía (xs:List W):M Src:=match xs with
 | [.int j]=>if inR 4611686018427387903 j=true then rt (.vals (rng 0 j.toNat)) else bad
 |_=>bad
def Îb (xs:List W):M Src:=match xs with
 | [.int i,.int j]=>if (inR 4611686018427387903 i&&inR 4611686018427387903 j)=true then rt (.vals (rng i (j-i).toNat)) else bad
 |_=>bad
theorem ÃQ (f:Arg) (s:Sl) (S:Å):iR1 f s S=ý (f s S) Ía:=rfl
theorem ÄA (f:Arg) (s:Sl) (S:Å):iR2 f s S=ý (f s S) Îb:=rfl
theorem ÃR (j:Int) (S:Å):Ía [.int j] S=if inR 4611686018427387903 j=true then .ok (.vals (rng 0 j.toNat)) S else .bad:=by unfold Ía;simp only<;>(split<;>rfl)
theorem ÂV (i j:Int) (S:Å):Îb [.int i,.int j] S=if (inR 4611686018427387903 i&&inR 4611686018427387903 j)=true then .ok (.vals (rng i (j-i).toNat)) S else .bad:=by unfold Îb;simp only<;>(split<;>rfl)
theorem Ãc (a b:Str) (S:Å):Ób (.str a) [.str b] S=ÃL (Txt.index0 a b) λ k=>.ok (.int k) S:=by
 unfold Ób ÃL;simp only<;>(cases Txt.index0 a b<;>rfl)
theorem ÁR (a b:Str) (S:Å):Øp (.str a) [.str b] S=.ok (.bl (Txt.startswith a b)) S:=rfl
theorem Ã5 (a b:Str) (S:Å):ÝI (.str a) [.str b] S=.ok (.bl (Txt.endswith a b)) S:=rfl
theorem Ãd (a b:Str) (S:Å):splitM (.str a) [.str b] S=if (b.length==0)=false∧a.length+2≤sizeLine then .ok (.ref S.length) (S++[.lst ((Txt.split a b).map .str)]) else .bad:=by
 unfold splitM;simp only<;>(split<;>rfl)
end Fr
namespace Fr
open PySem
theorem ÂW (i j:Int) (S:Å):ltG (.int i) (.int j) S=.ok (.bl (decide (i<j))) S:=rfl
theorem ÆQ (i j:Str) (S:Å):ltG (.str i) (.str j) S=.ok (.bl (decide (i.cps.toList<j.cps.toList))) S:=rfl
def ltK (a b:Option PyData) (S:Å):Rs W:=match a,b with
 |some (.list ds),some (.list es)=>if (PySem.W.alikeAll ds es&&SeqAt.shaped (.list ds))=true then .ok (.bl (PySem.W.dataLt (.list ds) (.list es))) S else .bad
 |some (.tuple ds),some (.tuple es)=>if (PySem.W.alikeAll ds es&&SeqAt.shaped (.tuple ds))=true then .ok (.bl (PySem.W.dataLt (.tuple ds) (.tuple es))) S else .bad
 |_,_=>.bad
theorem ÆR (i j:Nat) (S:Å):ltG (.ref i) (.ref j) S=ltK (toD S 40 (.ref i)) (toD S 40 (.ref j)) S:=rfl
theorem ÆS (i j:List W) (S:Å):ltG (.tup i) (.tup j) S=ltK (toD S 40 (.tup i)) (toD S 40 (.tup j)) S:=rfl
def blK (o:Option Bool) (S:Å):Rs W:=match o with
 |some b=>.ok (.bl b) S
 |none=>.bad
def Û6 (o:Option Bool) (S:Å):Rs W:=match o with
 |some b=>.ok (.bl !b) S
 |none=>.bad
theorem ÂX (x y:W) (S:Å):Û2 x y S=blK (ÅO S x y) S:=rfl
theorem Ř (x y:W) (S:Å):ÁC x y S=Û6 (ÅO S x y) S:=rfl
theorem Át (i j:Str) (S:Å):ÅO S (.str i) (.str j)=some (Ê2 i j):=rfl
theorem Åf (b:Bool) (S:Å):blK (some b) S=.ok (.bl b) S:=rfl
theorem Ã6 (b:Bool) (S:Å):Û6 (some b) S=.ok (.bl !b) S:=rfl
def eqK (a b:Option PyData) (S:Å):Rs W:=match a,b with
 |some d,some e=>if (SeqAt.shaped d&&SeqAt.shaped e)=true then .ok (.bl (PyData.eqv d e)) S else .bad
 |_,_=>.bad
def neK (a b:Option PyData) (S:Å):Rs W:=match a,b with
 |some d,some e=>if (SeqAt.shaped d&&SeqAt.shaped e)=true then .ok (.bl !(PyData.eqv d e)) S else .bad
 |_,_=>.bad
theorem ÆT (i j:Nat) (S:Å):Ė (.ref i) (.ref j) S=eqK (toD S 40 (.ref i)) (toD S 40 (.ref j)) S:=rfl
theorem ÆU (i j:List W) (S:Å):Ė (.tup i) (.tup j) S=eqK (toD S 40 (.tup i)) (toD S 40 (.tup j)) S:=rfl
theorem ÆV (i j:Nat) (S:Å):neM (.ref i) (.ref j) S=neK (toD S 40 (.ref i)) (toD S 40 (.ref j)) S:=rfl
theorem ÆW (i j:List W) (S:Å):neM (.tup i) (.tup j) S=neK (toD S 40 (.tup i)) (toD S 40 (.tup j)) S:=rfl
theorem Èh (i:List W) (S:Å):œ (.fl i) .non S=.ok (.bl false) S:=rfl
theorem ř (S:Å):ā .non .non S=.ok (.bl false) S:=rfl
theorem Ś (i:Int) (S:Å):ā (.int i) .non S=.ok (.bl true) S:=rfl
theorem ś (i:Str) (S:Å):ā (.str i) .non S=.ok (.bl true) S:=rfl
theorem Ài (i:Bool) (S:Å):ā (.bl i) .non S=.ok (.bl true) S:=rfl
theorem Ŝ (i:List W) (S:Å):ā (.tup i) .non S=.ok (.bl true) S:=rfl
theorem Ãe (i:Nat) (S:Å):ā (.ref i) .non S=.ok (.bl true) S:=rfl
def ÙH (o:Option Ob) (S:Å):Rs W:=match o with
 |some (.lst xs)=>new (.lst xs) S
 |some (.dK kvs)=>new (.lst (kvs.map λ kv=>ÄK kv.1)) S
 |_=>.bad
theorem Ã7 (n:Nat) (S:Å):ÁH [.ref n] S=ÙH S[n]? S:=rfl
theorem Àj (xs:List W) (S:Å):ÁH [.tup xs] S=.ok (.ref S.length) (S++[.lst xs]):=rfl
theorem Åg (xs:List W) (S:Å):ÁH [.fl xs] S=.ok (.ref S.length) (S++[.lst xs]):=rfl
theorem Ã8 (xs:List W) (S:Å):ÙH (some (.lst xs)) S=.ok (.ref S.length) (S++[.lst xs]):=rfl
theorem Åh (kvs:List (L2.Key×W)) (S:Å):ÙH (some (.dK kvs)) S=.ok (.ref S.length) (S++[.lst (kvs.map λ kv=>ÄK kv.1)]):=rfl
theorem Á3 (n:Nat) (S:Å):Ń [.ref n] S=obL S[n]? λ xs=>.ok (.tup xs) S:=by
 unfold Ń obL;simp only<;>(cases S[n]? with
 |none=>rfl
 |some o=>cases o<;>rfl)
theorem ŝ (xs:List W) (S:Å):Ń [.tup xs] S=.ok (.tup xs) S:=rfl
theorem Ã9 (xs:List W) (S:Å):Ń [.fl xs] S=.ok (.tup xs) S:=rfl
theorem ÁS (i j:Int) (S:Å):Ód [.int i,.int j] S=if 0<j∧inR 1073741823 j=true then .ok (.tup [.int (i/j),.int (i%j)]) S else .bad:=by unfold Ód;simp only<;>(split<;>rfl)
theorem Åi (i:Int) (S:Å):Û1 [.int i] S=if i.natAbs.log2<1920 then .ok (.str (toString i)) S else .bad:=by unfold Û1;simp only<;>(split<;>rfl)
theorem Àk (i j:Int) (S:Å):Ùy [.int i,.int j] S=.ok (.int (if j<i then j else i)) S:=rfl
theorem Àl (i j:Int) (S:Å):Ùz [.int i,.int j] S=.ok (.int (if j>i then j else i)) S:=rfl
theorem Ģ:∀ zs:List Int,intsOf (zs.map .int)=some zs
 | []=>rfl
 |z::zs=>by simp only[List.map_cons,intsOf,Ģ zs];rfl
theorem Åj (n:Nat) (S:Å):Ô1 [.ref n] S=obL S[n]? λ xs=>ÃL (intsOf xs) λ ns=>.ok (.int ns.sum) S:=by
 unfold Ô1 obL ÃL getL;simp only<;>(cases S[n]? with
 |none=>rfl
 |some o=>cases o with
  |lst xs=>simp only;cases intsOf xs<;>rfl
  |_=>rfl)
theorem ÁT (n:Nat) (S:Å):Íw [.ref n] S=obL S[n]? λ xs=>ÃL (intsOf xs) λ ns=>.ok (.ref S.length) (S++[.lst ((sortI ns).map .int)]):=by
 unfold Íw obL ÃL getL;simp only<;>(cases S[n]? with
 |none=>rfl
 |some o=>cases o with
  |lst xs=>simp only;cases intsOf xs<;>rfl
  |_=>rfl)
theorem Ãf (n:Nat) (i:Int) (y:W) (S:Å):Ør (.ref n) [.int i,y] S=obL S[n]? λ xs=>if xs.length<sizeLine∧0≤i∧inR 9223372036854775807 i=true then .ok .non (S.set n (.lst (xs.take i.toNat++[y]++xs.drop i.toNat))) else .bad:=by
 unfold Ør obL;simp only<;>(cases S[n]? with
 |none=>rfl
 |some o=>cases o<;>rfl)
theorem Ãg (n k:Nat) (S:Å):Øs (.ref n) [.ref k] S=obL S[n]? λ xs=>obL S[k]? λ zs=>if xs.length+zs.length≤sizeLine then .ok .non (S.set n (.lst (xs++zs))) else .bad:=by
 unfold Øs obL;simp only<;>(cases S[n]? with
 |none=>rfl
 |some o=>cases o with
  |lst xs=>simp only;cases S[k]? with
   |none=>rfl
   |some o=>cases o<;>rfl
  |_=>rfl)
theorem Äa (n:Nat) (i:Int) (S:Å):ÚF (.ref n) [.int i] S=obL S[n]? λ xs=>ÃL (L2.ixN xs.length i) λ k=>ÃL xs[k]? λ y=>if inR 9223372036854775807 i=true then .ok y (S.set n (.lst (xs.eraseIdx k))) else .bad:=by
 unfold ÚF obL ÃL;simp only<;>(cases S[n]? with
 |none=>rfl
 |some o=>cases o with
  |lst xs=>
   simp only
   cases L2.ixN xs.length i with
   |none=>rfl
   |some k=>simp only;cases xs[k]?<;>rfl
  |_=>rfl)
theorem Äb (n:Nat) (S:Å):ÚG (.ref n) [] S=obL S[n]? λ _=>.ok .non (S.set n (.lst [])):=by
 unfold ÚG obL;simp only<;>(cases S[n]? with
 |none=>rfl
 |some o=>cases o<;>rfl)
def ß1 (a b:Option PyData) (S:Å):Rs W:=match a,b with
 |some (.list ds),some d=>if (SeqAt.shaped (.list ds)&&SeqAt.shaped d)=true then ÃL (findD d ds 0) (λ j=>.ok (.int j) S) else .bad
 |_,_=>.bad
theorem Ãh (x y:W) (S:Å):Óg x [y] S=ß1 (toD S 40 x) (toD S 40 y) S:=by
 unfold Óg ß1 ÃL;simp only<;>(split<;>first|rfl |(split<;>first|rfl |(split<;>simp_all)))
theorem ÁU (xs:List W) (S:Å):tyM "list" (.fl xs) S=true:=rfl
def Ñy (x:W):M Bool:=λ S=>match Ç9 S x with
 |some b=>.ok b S
 |none=>.bad
theorem Æj (a:Exp) (s:Sl) (S:Å):tV a s S=ý (a s S) Ñy:=rfl
theorem ÆX (b:Bool) (S:Å):Ñy (.bl b) S=.ok b S:=rfl
theorem Åk (S:Å):Ñy .non S=.ok false S:=rfl
theorem Ål (i:Int) (S:Å):Ñy (.int i) S=.ok (i !=0) S:=rfl
theorem Åm (xs:List W) (S:Å):Ñy (.tup xs) S=.ok (!xs.isEmpty) S:=rfl
def obB (o:Option Ob) (S:Å):Rs Bool:=match o with
 |some (.lst xs)=>.ok (!xs.isEmpty) S
 |some (.dK xs)=>.ok (!xs.isEmpty) S
 |_=>.bad
theorem Ån (n:Nat) (S:Å):Ñy (.ref n) S=obB S[n]? S:=by
 unfold Ñy Ç9 obB;simp only<;>(cases S[n]? with
 |none=>rfl
 |some o=>cases o<;>rfl)
theorem ÆY (xs:List W) (S:Å):obB (some (.lst xs)) S=.ok (!xs.isEmpty) S:=rfl
theorem Èi (xs:List (L2.Key×W)) (S:Å):obB (some (.dK xs)) S=.ok (!xs.isEmpty) S:=rfl
def tgK (o:Option Sl) (S:Å):RS:=match o with
 |some s=>.nx s S
 |none=>.bad
theorem Áu (g:Ā) (e:Exp) (s:Sl) (S:Å):Ëy g e s S=â (e s S) s (λ w S'=>tgK (g w s) S'):=rfl
theorem Áv (s:Sl) (S:Å):tgK (some s) S=.nx s S:=rfl
theorem Æk (i:Nat) (w:W) (s:Sl):gN i w s=some (s.set i (some w)):=rfl
theorem Æl (n:Nat) (r:List W→Sl→Option Sl) (ws:List W) (s:Sl):gT n r (.tup ws) s=if ws.length=n then r ws s else none:=rfl
def gK (o:Option Sl) (k:Sl→Option Sl):Option Sl:=match o with
 |some s=>k s
 |none=>none
theorem Àm (g:Ā) (r:List W→Sl→Option Sl) (w:W) (ws:List W) (s:Sl):æ g r (w::ws) s=gK (g w s) (r ws):=by
 unfold æ gK;simp only<;>(cases g w s<;>rfl)
theorem ÂY (s:Sl) (k:Sl→Option Sl):gK (some s) k=k s:=rfl
theorem Áw (s:Sl):ÃU [] s=some s:=rfl
def Ñz (v o i:W) (S:Å):Rs W:=match o,i with
 | .ref n,.int k=>match S[n]? with
  |some (.lst xs)=>match L2.ixN xs.length k with
   |some j=>.ok W.non (S.set n (.lst (xs.set j v)))
   |none=>.bad
  |_=>.bad
 |_,_=>.bad
theorem Äc (fo fi fe:Exp) (s:Sl) (S:Å):ßT fo fi fe s S=â (ý (fe s S) (λ v=>bd (fo s) λ o=>bd (fi s) (Ñz v o))) s (λ _ S'=>.nx s S'):=rfl
theorem ÆZ (v:W) (n:Nat) (k:Int) (S:Å):Ñz v (.ref n) (.int k) S=obL S[n]? λ xs=>ÃL (L2.ixN xs.length k) λ j=>.ok W.non (S.set n (.lst (xs.set j v))):=by
 unfold Ñz obL ÃL;simp only<;>(cases S[n]? with
 |none=>rfl
 |some o=>cases o with
  |lst xs=>simp only;cases L2.ixN xs.length k<;>rfl
  |_=>rfl)
def ÑA (o:Option (Option W)) (k:W→RS):RS:=match o with
 |some (some x)=>k x
 |_=>.bad
theorem ÂZ (i:Nat) (o:W→W→M W) (e:Exp) (s:Sl) (S:Å):Ô8 i o e s S=ÑA s[i]? λ x=>â (ý (e s S) (o x)) s (λ w S'=>.nx (s.set i (some w)) S'):=by
 unfold Ô8 ÑA;cases s[i]? with
 |none=>rfl
 |some o=>cases o<;>rfl
theorem Àn (x:W) (k:W→RS):ÑA (some (some x)) k=k x:=rfl
theorem Ào (i j:Int) (S:Å):ÙB (.int i) (.int j) S=.ok (.int (i+j)) S:=rfl
theorem Àp (i j:Int) (S:Å):ÙC (.int i) (.int j) S=.ok (.int (i-j)) S:=rfl
theorem Àq (b:Bool) (f:Sl→M (Int×Int)) (s:Sl) (S:Å):Ô9 b f s S=ý (f s S) (λ x=>if (inR 4611686018427387903 x.1&&inR 4611686018427387903 x.2)=true∧(x.2-x.1).toNat≤16777216 then (if b=true then new (.lst (rng x.1 (x.2-x.1).toNat)) else rt (.tup (rng x.1 (x.2-x.1).toNat))) else bad):=rfl
def Õf (x:W):M (Int×Int):=match x with
 | .int n=>rt (0,n)
 |_=>bad
def ß2 (x y:W):M (Int×Int):=match x,y with
 | .int n,.int k=>rt (n,k)
 |_,_=>bad
theorem ÄB (a:Exp) (s:Sl) (S:Å):rg1 a s S=ý (a s S) Õf:=rfl
theorem Èj (a b:Exp) (s:Sl) (S:Å):rg2 a b s S=ý (a s S) (λ x=>bd (b s) (ß2 x)):=rfl
theorem Áx (n:Int) (S:Å):Õf (.int n) S=.ok (0,n) S:=rfl
theorem Åo (n k:Int) (S:Å):ß2 (.int n) (.int k) S=.ok (n,k) S:=rfl
theorem Â0 (f:Arg) (s:Sl) (S:Å):iZip f s S=ý (f s S) Éa:=rfl
theorem Áy (xs ys:List W) (S:Å):Éa [.tup xs,.tup ys] S=.ok (.vals (List.zipWith (λ a b=>W.tup [a,b]) xs ys)) S:=rfl
theorem Åp (a b:Nat) (S:Å):Éa [.ref a,.ref b] S=obL S[a]? λ xs=>obL S[b]? λ ys=>.ok (.gen (min xs.length ys.length) (Ùw (.ref a) (.ref b)) (Ùx (.ref a) (.ref b) (min xs.length ys.length))) S:=by
 unfold Éa obL getL;simp only<;>(cases S[a]? with
 |none=>rfl
 |some o=>cases o with
  |lst xs=>simp only;cases S[b]? with
   |none=>rfl
   |some o=>cases o<;>rfl
  |_=>rfl)
theorem Â1 (f:Exp) (s:Sl) (S:Å):iRev f s S=ý (f s S) Ì8:=rfl
theorem Áz (xs:List W) (S:Å):Ì8 (.tup xs) S=.ok (.vals xs.reverse) S:=rfl
theorem Åq (a:Nat) (S:Å):Ì8 (.ref a) S=obL S[a]? λ xs=>.ok (.gen xs.length (ßM (.ref a) xs.length) (λ _=>true)) S:=by
 unfold Ì8 obL getL;simp only<;>(cases S[a]? with
 |none=>rfl
 |some o=>cases o<;>rfl)
def lcK (r:Rs Src) (g:Ā) (tt:ï) (e:Exp) (s0:Sl):Rs W:=match r with
 | .ok (.vals xs) S1=>Ë6 S1.length (lcV g tt e s0 S1.length xs (S1++[.lst []]))
 | .ok (.live a) S1=>match S1[a]? with
  |some (.lst ys)=>Ë6 S1.length (lcN g tt e s0 S1.length ys.length (Êo a ys.length) (Êp a ys.length) ys.length (S1++[.lst []]))
  |_=>.bad
 | .ok (.gen n f c) S1=>Ë6 S1.length (lcN g tt e s0 S1.length n f c n (S1++[.lst []]))
 | .ex x d S1=>.ex x d S1
 | .bad=>.bad
theorem ÃS (it:Sl→M Src) (g:Ā) (tt:ï) (e:Exp) (vs:List Nat) (s:Sl) (S:Å):eLc it g tt e vs s S=lcK (it s S) g tt e (Ě s vs):=rfl
theorem År (xs:List W) (S:Å) (g:Ā) (tt:ï) (e:Exp) (s0:Sl):lcK (.ok (.vals xs) S) g tt e s0=Ë6 S.length (lcV g tt e s0 S.length xs (S++[.lst []])):=rfl
theorem Ås (a:Nat) (S:Å) (g:Ā) (tt:ï) (e:Exp) (s0:Sl):lcK (.ok (.live a) S) g tt e s0=obL S[a]? λ ys=>Ë6 S.length (lcN g tt e s0 S.length ys.length (Êo a ys.length) (Êp a ys.length) ys.length (S++[.lst []])):=by
 unfold lcK obL;simp only<;>(cases S[a]? with
 |none=>rfl
 |some o=>cases o<;>rfl)
theorem Æ0 (n:Nat) (f:Nat→Å→Option W) (c:Å→Bool) (S:Å) (g:Ā) (tt:ï) (e:Exp) (s0:Sl):lcK (.ok (.gen n f c) S) g tt e s0=Ë6 S.length (lcN g tt e s0 S.length n f c n (S++[.lst []])):=rfl
theorem Äd (D:Nat) (S:Å):Ë6 D (some S)=.ok (.ref D) S:=rfl
theorem Àr (s:Sl):Ě s []=s:=rfl
theorem Ş (s:Sl) (v:Nat) (vs:List Nat):Ě s (v::vs)=(Ě s vs).set v none:=rfl
theorem ÄC (s:Sl) (S:Å):tYs s S=.ok true S:=rfl
def Ðs (r:Rs Bool) (s1:Sl) (e:Exp) (D:Nat):Option Å:=match r with
 | .ok true S2=>match e s1 S2 with
  | .ok w S3=>match S3[D]? with
   |some (.lst acc)=>if acc.length<sizeLine then some (S3.set D (.lst (acc++[w]))) else none
   |_=>none
  |_=>none
 | .ok false S2=>some S2
 |_=>none
def putK (r:Rs W) (D:Nat):Option Å:=match r with
 | .ok w S3=>match S3[D]? with
  |some (.lst acc)=>if acc.length<sizeLine then some (S3.set D (.lst (acc++[w]))) else none
  |_=>none
 |_=>none
def putL (o:Option Ob) (k:List W→Option Å):Option Å:=match o with
 |some (.lst acc)=>k acc
 |_=>none
theorem ß3 (g:Ā) (tt:ï) (e:Exp) (s0:Sl) (D:Nat) (x:W) (S:Å) (s1:Sl) (h:g x s0=some s1):lcT g tt e s0 D x S=Ðs (tt s1 S) s1 e D:=by
 unfold lcT Ðs;simp only[h]<;>(cases tt s1 S with
 |ok b S2=>cases b<;>rfl
 |_=>rfl)
theorem Èk (i:Nat) (tt:ï) (e:Exp) (s0:Sl) (D:Nat) (x:W) (S:Å):lcT (gN i) tt e s0 D x S=Ðs (tt (s0.set i (some x)) S) (s0.set i (some x)) e D:=ß3 _ _ _ _ _ _ _ _ rfl
theorem ÚO (S:Å) (s1:Sl) (e:Exp) (D:Nat):Ðs (.ok true S) s1 e D=putK (e s1 S) D:=by
 unfold Ðs putK;simp only<;>(cases e s1 S<;>rfl)
theorem Äe (b:Bool) (S:Å) (s1:Sl) (e:Exp) (D:Nat):Ðs (.ok b S) s1 e D=if b=true then putK (e s1 S) D else some S:=by
 cases b
 ·rfl
 ·rw[if_pos rfl];exact ÚO S s1 e D
theorem ÄO (w:W) (S:Å) (D:Nat):putK (.ok w S) D=putL S[D]? λ acc=>if acc.length<sizeLine then some (S.set D (.lst (acc++[w]))) else none:=rfl
theorem Åt (acc:List W) (k:List W→Option Å):putL (some (.lst acc)) k=k acc:=rfl
theorem Â2 (g:Ā) (tt:ï) (e:Exp) (s0:Sl) (D:Nat) (S:Å):lcV g tt e s0 D [] S=some S:=rfl
def andThen (o:Option Å) (k:Å→Option Å):Option Å:=match o with
 |some S=>k S
 |none=>none
theorem ÀZ (S:Å) (k:Å→Option Å):andThen (some S) k=k S:=rfl
def Ends (r:RS):Prop:=(∃w S,r=.rt w S)∨∃ c d s S,r=.ex c d s S
theorem ÚP {g:Ā} {b:Ì} {a:Nat} (ys:List W) (I:List W→Sl→Å→Prop) (R:RS→Prop) (hS:∀ pre s S,I pre s S→S[a]?=some (.lst ys))
  (step:∀ pre x suf s S,ys=pre++x::suf→I pre s S→∃ s1,g x s=some s1∧((∃s2 S2,(b s1 S=.nx s2 S2∨b s1 S=.ct s2 S2)∧I (pre++[x]) s2 S2)∨(Ends (b s1 S)∧R (b s1 S)))) {s:Sl} {S:Å} (h0:I [] s S):
  (∃s' S',forL g b a ys.length ys.length s S=.nx s' S'∧I ys s' S')∨R (forL g b a ys.length ys.length s S):=by
 have key:∀ (suf pre:List W) (s:Sl) (S:Å),ys=pre++suf→I pre s S→(∃s' S',forL g b a ys.length suf.length s S=.nx s' S'∧I ys s' S')∨R (forL g b a ys.length suf.length s S):=by
  intro suf
  induction suf with
  |nil=>
   intro pre s S e h
   exact .inl ⟨s,S,ÚM 0 a _ g b ys s S (hS _ _ _ h) rfl,by rw[e,List.append_nil];rw[e,List.append_nil] at *;exact h⟩
  |cons x suf ih=>
   intro pre s S e h
   obtain ⟨s1,h1,h2⟩:=step pre x suf s S e h
   rw[List.length_cons]
   unfold forL
   have hi:ys[ys.length-(suf.length+1)]?=some x:=by
    have:ys.length-(suf.length+1)=pre.length:=by rw[e];simp
    rw[this,e];simp
   rw[hS _ _ _ h]
   simp only[if_true,hi,h1]
   rcases h2 with ⟨s2,S2,h2,h3⟩ |⟨h2,h3⟩
   ·have q:=ih (pre++[x]) s2 S2 (by rw[e];simp) h3
    rcases h2 with h2|h2<;>(rw[h2];exact q)
   ·right
    rcases h2 with ⟨w,S',h2⟩ |⟨c,d,s',S',h2⟩<;>(rw[h2] at h3 ⊢;exact h3)
 exact key ys [] s S rfl h0
end Fr
namespace Fr
open PySem
local macro_rules | `(tactic| walk_at "ev") => `(tactic| simp only [Bool.or_true, Bool.true_or, Bool.and_self, Bool.or_self, Bool.and_true, Bool.true_and, Bool.false_or, Bool.or_false, Bool.false_and, Bool.and_false, ÂW, ÆQ, ÆR, ÆS, ÂX, Ř, Át, Åf, Ã6, ÆT, ÆU, ÆV, ÆW, Èh, ř, Ś, ś, Ài, Ŝ, Ãe, Ã7, Àj, Åg, Ã8, Åh, Á3, ŝ, Ã9, ÁS, Åi, Àk, Àl, Ģ, Åj, ÁT, Ãf, Ãg, Äa, Äb, Ãh, ÁU, Æj, ÆX, Åk, Ål, Åm, Ån, ÆY, Èi, Áu, Áv, Æk, Æl, Àm, ÂY, Áw, Äc, ÆZ, ÂZ, Àn, Ào, Àp, Àq, ÄB, Èj, Áx, Åo, Â0, Áy, Åp, Â1, Áz, Åq, ÃS, År, Ås, Æ0, Äd, Àr, Ş, ÄC, Èk, Äe, ÄO, Åt, Â2, ÀZ, Ä7, ň, ė, Äk, Âr, Âs, Â9, Äl, Ât, Ţ, Äm, Âu, Âv, seq_eq, ŗ, Âe, Âw, Âx, Ây, À3, À4, ÀF, À5, À6, À7, À8, Ž, ž, ÃV, Ãt, Än, Äo, Âz, Àa, ÁX, ÃW, ÁY, Äp, Âf, Äq, ÂA, Är, Äs, Ū, ÃC, ÁZ, ÂB, Ät, ÂC, ũ, ĸ, Âg, ÂD, Çv, ÃD, ÀG, ÄS, Äu, À9, ÀH, Áa, ÀQ, ū, ÁD, Áb, Á0, Âh, Ŕ, Àb, Ác, ÁE, Ã3, ÅD, Àc, Ä8, Àd, Ád, Áe, Áf, Ág, Áh, Ái, Áj, ÀI, Àe, Ä9, Ák, ÂE, ÂF, Âi, ÂG, ÀR, ÂH, Äv, ÂI, ÂJ, Äw, ÂK, ÂL, ÂM, Äx, ÂN, ÆL, ÆM, Ãa, Ál, Ám, ÆN, ÀJ, ÂO, ÂP, Án, ÂQ, Áo, Áp, Áq, Ã4, ÃE, ÅP, Ãu, Ãv, Ãb, ÅQ, ÁQ, ÁF, Åa, Åb, ÆO, Åc, Á1, Á2, Äy, Äz, Åd, Âj, ÂR, ÂS, ÂT, ÂU, Àf, Àg, Àh, Ár, Ás, ĺ, ă, Č, č, þ, Ą, Ĺ, Ĭ, Ŋ, ŋ, ě, ĭ, ÀU, Ō, Ŵ, ŵ, Į, ō, ÁM, Ŏ, Ŷ, ŷ, į, ŏ, ÁN, Ĝ, İ, ı, Ĕ, ĝ, Ày, Ĳ, Ő, ő, Ğ, ĳ, ÀV, ÀW, ÁO, ÁP, Àz, ÀX, ÀY, List.map_cons, List.map_nil, List.cons_append, List.nil_append, List.length_cons, List.length_nil, Nat.reduceAdd, Nat.reduceSub, List.replicate, List.set_cons_zero, List.set_cons_succ, Bool.false_eq_true, Bool.not_true, Bool.not_false, if_true, if_false, reduceIte, decide_eq_true_eq, Bool.not_eq_true', decide_eq_false_iff_not, not_true_eq_false, not_false_eq_true, ite_not, decide_true, decide_false, eq_self_iff_true, Ãc, ÁR, Ã5, Ãd, ÃQ, ÄA, ÃR, ÂV, ÆP, Åe, and_self, true_and, and_true, false_and, and_false, or_true, true_or, or_self, false_or, or_false, ne_eq])
local macro_rules | `(tactic| walk_at "evh") => `(tactic| simp only [Bool.or_true, Bool.true_or, Bool.and_self, Bool.or_self, Bool.and_true, Bool.true_and, Bool.false_or, Bool.or_false, Bool.false_and, Bool.and_false, ÂW, ÆQ, ÆR, ÆS, ÂX, Ř, Át, Åf, Ã6, ÆT, ÆU, ÆV, ÆW, Èh, ř, Ś, ś, Ài, Ŝ, Ãe, Ã7, Àj, Åg, Ã8, Åh, Á3, ŝ, Ã9, ÁS, Åi, Àk, Àl, Ģ, Åj, ÁT, Ãf, Ãg, Äa, Äb, Ãh, ÁU, Æj, ÆX, Åk, Ål, Åm, Ån, ÆY, Èi, Áu, Áv, Æk, Æl, Àm, ÂY, Áw, Äc, ÆZ, ÂZ, Àn, Ào, Àp, Àq, ÄB, Èj, Áx, Åo, Â0, Áy, Åp, Â1, Áz, Åq, ÃS, År, Ås, Æ0, Äd, Àr, Ş, ÄC, Èk, Äe, ÄO, Åt, Â2, ÀZ, Ä7, ň, ė, Äk, Âr, Âs, Â9, Äl, Ât, Ţ, Äm, Âu, Âv, seq_eq, ŗ, Âe, Âw, Âx, Ây, À3, À4, ÀF, À5, À6, À7, À8, Ž, ž, ÃV, Ãt, Än, Äo, Âz, Àa, ÁX, ÃW, ÁY, Äp, Âf, Äq, ÂA, Är, Äs, Ū, ÃC, ÁZ, ÂB, Ät, ÂC, ũ, ĸ, Âg, ÂD, Çv, ÃD, ÀG, ÄS, Äu, À9, ÀH, Áa, ÀQ, ū, ÁD, Áb, Á0, Âh, Ŕ, Àb, Ác, ÁE, Ã3, ÅD, Àc, Ä8, Àd, Ád, Áe, Áf, Ág, Áh, Ái, Áj, ÀI, Àe, Ä9, Ák, ÂE, ÂF, Âi, ÂG, ÀR, ÂH, Äv, ÂI, ÂJ, Äw, ÂK, ÂL, ÂM, Äx, ÂN, ÆL, ÆM, Ãa, Ál, Ám, ÆN, ÀJ, ÂO, ÂP, Án, ÂQ, Áo, Áp, Áq, Ã4, ÃE, ÅP, Ãu, Ãv, Ãb, ÅQ, ÁQ, ÁF, Åa, Åb, ÆO, Åc, Á1, Á2, Äy, Äz, Åd, Âj, ÂR, ÂS, ÂT, ÂU, Àf, Àg, Àh, Ár, Ás, ĺ, ă, Č, č, þ, Ą, Ĺ, Ĭ, Ŋ, ŋ, ě, ĭ, ÀU, Ō, Ŵ, ŵ, Į, ō, ÁM, Ŏ, Ŷ, ŷ, į, ŏ, ÁN, Ĝ, İ, ı, Ĕ, ĝ, Ày, Ĳ, Ő, ő, Ğ, ĳ, ÀV, ÀW, ÁO, ÁP, Àz, ÀX, ÀY, List.map_cons, List.map_nil, List.cons_append, List.nil_append, List.length_cons, List.length_nil, Nat.reduceAdd, Nat.reduceSub, List.replicate, List.set_cons_zero, List.set_cons_succ, Bool.false_eq_true, Bool.not_true, Bool.not_false, if_true, if_false, reduceIte, decide_eq_true_eq, Bool.not_eq_true', decide_eq_false_iff_not, not_true_eq_false, not_false_eq_true, ite_not, decide_true, decide_false, eq_self_iff_true, Ãc, ÁR, Ã5, Ãd, ÃQ, ÄA, ÃR, ÂV, ÆP, Åe, and_self, true_and, and_true, false_and, and_false, or_true, true_or, or_self, false_or, or_false, ne_eq, *])
def Çw:Ì:=(Ù (tB (É gtM (À 3) (eC (.int 0)))) (Æ (ġ (eM "list" Âd (À 1) (Á (É Âp (eB ÃK (Á (À 3) Ä)) (eC (.int 1000))) Ä)))
 (Ô 3 (É È4 (À 3) (eC (.int 1000))))) Ñ)
def ÊE:Ì:=(Æ (Ô 3 (É Âp (eB ÃK (Á (É mulM (À 3) (eC (.int 69621))) Ä)) (eC (.int 2147483629))))
 (ġ (eM "list" Âd (À 1) (Á (É Âp (eB ÃK (Á (É È4 (À 3) (eC (.int 7))) Ä)) (eC (.int 1000))) Ä))))
def ÇN:Ì:=(Æ (Ô 3 (eB ÃK (Á (À 2) Ä)))
 (Ù (tB (ÃO leM ltG (eC (.int 0)) (À 3) (eC (.int 1000)))) (ġ (eM "list" Âd (À 1) (Á (À 3) Ä))) (Ù (tB (É geM (À 3) (É Ñr (eC (.int 10)) (eC (.int 18))))) (ê (iR1 (Á (eC (.int 60)) Ä)) (gN 4) Çw) (Æ (Ô 3 (É Âp (eB ÃK (Á (É mulM (À 3) (eC (.int 48271))) Ä)) (eC (.int 2147483647))))
 (ê (iR1 (Á (eC (.int 4)) Ä)) (gN 4) ÊE)))))
def Òh:Ì:=
 (Æ (Ô 1 (ĩ Ä))
 (Æ (ê (iE (À 0)) (gN 2) ÇN)
 (Æ (ġ (eM "list" ÉU (À 1) Ä))
 (Ð (À 1)))))
def Ðt:Ì:=
 (Æ (Ù (tB (É Ė (eB ö (Á (À 0) Ä)) (eC (.int 0)))) (Ð (eC (.int 0))) Ñ)
 (Ð (É Âp (eB ÃK (Á (eM "list" Óa (À 0) Ä) Ä)) (À 1))))
def Ðu:Fn:=ē 2 Ðt
abbrev oI (zs:List Int):Ob:=.lst (zs.map W.int)
theorem big:(2:Nat) ^ 24=16777216:=by decide
theorem ËC:sizeLine=16777216:=sizeLine_eq
theorem Íb (S:Å) (f v:W):∀ (xs:List W) (r:Int) (c:Option W) (zs:List Int),zs.length+xs.length<16777216→
  ∃r' c' zs',zs'.length≤zs.length+xs.length∧Ź (gN 4) Çw xs [some f,some (.ref S.length),some v,some (.int r),c] (S++[oI zs])=.nx [some f,some (.ref S.length),some v,some (.int r'),c'] (S++[oI zs'])
 | [],r,c,zs,h=>⟨r,c,zs,by simp,rfl⟩
 |x::xs,r,c,zs,h=>by
  rw[Íz]
  by_cases hr:0<r
  ·have e:Çw [some f,some (.ref S.length),some v,some (.int r),some x] (S++[oI zs])=.nx [some f,some (.ref S.length),some v,some (.int (r.fdiv 1000)),some x] (S++[oI (zs++[r.fmod 1000])]):=by
    unfold Çw
    have hl:(zs.map W.int).length<sizeLine:=by rw[List.length_map,ËC];simp at h;omega
    walk_at "evh"
    simp
   obtain ⟨r',c',zs',h1,h2⟩:=Íb S f v xs (r.fdiv 1000) (some x) (zs++[r.fmod 1000]) (by simp at h ⊢;omega)
   refine ⟨r',c',zs',by simp at h1 ⊢;omega,?_⟩
   show ÿ (Çw [some f,some (.ref S.length),some v,some (.int r),some x] (S++[oI zs])) _=_
   rw[e]
   exact h2
  ·have e:Çw [some f,some (.ref S.length),some v,some (.int r),some x] (S++[oI zs])=.nx [some f,some (.ref S.length),some v,some (.int r),some x] (S++[oI zs]):=by
    unfold Çw
    walk_at "evh"
   obtain ⟨r',c',zs',h1,h2⟩:=Íb S f v xs r (some x) zs (by simp at h ⊢;omega)
   refine ⟨r',c',zs',by simp;omega,?_⟩
   show ÿ (Çw [some f,some (.ref S.length),some v,some (.int r),some x] (S++[oI zs])) _=_
   rw[e]
   exact h2
theorem Ë9 (S:Å) (f v:W):∀ (xs:List W) (r:Int) (c:Option W) (zs:List Int),zs.length+xs.length<16777216→
  ∃r' c' zs',zs'.length≤zs.length+xs.length∧Ź (gN 4) ÊE xs [some f,some (.ref S.length),some v,some (.int r),c] (S++[oI zs])=.nx [some f,some (.ref S.length),some v,some (.int r'),c'] (S++[oI zs'])
 | [],r,c,zs,h=>⟨r,c,zs,by simp,rfl⟩
 |x::xs,r,c,zs,h=>by
  rw[Íz]
  have e:∃ r1 z,ÊE [some f,some (.ref S.length),some v,some (.int r),some x] (S++[oI zs])=.nx [some f,some (.ref S.length),some v,some (.int r1),some x] (S++[oI (zs++[z])]):=by
   refine ⟨(r*69621).fmod 2147483629,(((r*69621).fmod 2147483629).fdiv 7).fmod 1000,?_⟩
   unfold ÊE
   have hl:(zs.map W.int).length<sizeLine:=by rw[List.length_map,ËC];simp at h;omega
   have hm:inR 18446744073709551615 69621=true:=by decide
   walk_at "evh"
   simp
  obtain ⟨r1,z,e⟩:=e
  obtain ⟨r',c',zs',h1,h2⟩:=Ë9 S f v xs r1 (some x) (zs++[z]) (by simp at h ⊢;omega)
  refine ⟨r',c',zs',by simp at h1 ⊢;omega,?_⟩
  show ÿ (ÊE [some f,some (.ref S.length),some v,some (.int r),some x] (S++[oI zs])) _=_
  rw[e]
  exact h2
theorem ËR (lo:Int) (n:Nat):(rng lo n).length=n:=by simp[rng]
theorem Ôm (S:Å) (f:W) (v:Int) (b c:Option W) (zs:List Int) (h:zs.length+60<16777216):
  ∃b' c' zs',zs'.length≤zs.length+60∧ÇN [some f,some (.ref S.length),some (.int v),b,c] (S++[oI zs])=.nx [some f,some (.ref S.length),some (.int v),b',c'] (S++[oI zs']):=by
 have hl:(zs.map W.int).length<sizeLine:=by rw[List.length_map,ËC];omega
 unfold ÇN
 by_cases h1:0≤v
 ·by_cases h2:v<1000
  ·refine ⟨some (.int v),c,zs++[v],by simp,?_⟩
   walk_at "evh"
   simp
  ·by_cases h3:(1000000000000000000:Int)≤v
   ·obtain ⟨r',c',zs',q1,q2⟩:=Íb S f (.int v) (rng 0 60) v c zs (by rw[ËR];omega)
    refine ⟨some (.int r'),c',zs',by rw[ËR] at q1;omega,?_⟩
    have e:((10:Int) ^ (18:Int).toNat≤v):=by simpa using h3
    have e2:(0:Int)≤18∧(18:Int)≤1000000∧(10:Int).natAbs<2 ^ 64:=by decide
    have i60:inR 4611686018427387903 60=true:=by decide
    have j60:(60:Int).toNat=60:=rfl
    walk_at "evh"
   ·obtain ⟨r',c',zs',q1,q2⟩:=Ë9 S f (.int v) (rng 0 4) ((v*48271).fmod 2147483647) c zs (by rw[ËR];omega)
    refine ⟨some (.int r'),c',zs',by rw[ËR] at q1;omega,?_⟩
    have e:¬ ((10:Int) ^ (18:Int).toNat≤v):=by simpa using h3
    have e2:(0:Int)≤18∧(18:Int)≤1000000∧(10:Int).natAbs<2 ^ 64:=by decide
    have hm:inR 18446744073709551615 48271=true:=by decide
    have h7:(2147483647:Int)≠0:=by decide
    have i4:inR 4611686018427387903 4=true:=by decide
    have j4:(4:Int).toNat=4:=rfl
    walk_at "evh"
 ·obtain ⟨r',c',zs',q1,q2⟩:=Ë9 S f (.int v) (rng 0 4) ((v*48271).fmod 2147483647) c zs (by rw[ËR];omega)
  refine ⟨some (.int r'),c',zs',by rw[ËR] at q1;omega,?_⟩
  have h3:¬ (1000000000000000000:Int)≤v:=by omega
  have e:¬ ((10:Int) ^ (18:Int).toNat≤v):=by simpa using h3
  have e2:(0:Int)≤18∧(18:Int)≤1000000∧(10:Int).natAbs<2 ^ 64:=by decide
  have hm:inR 18446744073709551615 48271=true:=by decide
  have h7:(2147483647:Int)≠0:=by decide
  have i4:inR 4611686018427387903 4=true:=by decide
  have j4:(4:Int).toNat=4:=rfl
  walk_at "evh"
theorem Î9 (S:Å) (f:W):∀ (ns:List Int) (a b c:Option W) (zs:List Int),zs.length+60*ns.length<16777216→
  ∃a' b' c' zs',zs'.length≤zs.length+60*ns.length∧Ź (gN 2) ÇN (ns.map W.int) [some f,some (.ref S.length),a,b,c] (S++[oI zs])=.nx [some f,some (.ref S.length),a',b',c'] (S++[oI zs'])
 | [],a,b,c,zs,h=>⟨a,b,c,zs,by simp,rfl⟩
 |n::ns,a,b,c,zs,h=>by
  rw[List.map_cons,Íz]
  simp only[List.length_cons] at h
  obtain ⟨b1,c1,zs1,h1,e1⟩:=Ôm S f n b c zs (by omega)
  obtain ⟨a',b',c',zs',h2,e2⟩:=Î9 S f ns (some (.int n)) b1 c1 zs1 (by omega)
  refine ⟨a',b',c',zs',by simp only[List.length_cons];omega,?_⟩
  show ÿ (ÇN [some f,some (.ref S.length),some (.int n),b,c] (S++[oI zs])) _=_
  rw[e1]
  exact e2
theorem ÚQ (ns:List Int) (h:ns.length≤63) (S:Å):∃ zs,ē 5 Òh [.fl (ns.map W.int)] S=.ok (.ref S.length) (S++[oI zs]):=by
 obtain ⟨a',b',c',zs',h2,e2⟩:=Î9 S (.fl (ns.map W.int)) ns none none none [] (by simp;omega)
 refine ⟨zs'.reverse,?_⟩
 unfold Òh
 have h0:0≤sizeLine:=Nat.zero_le _
 have e3:Ź (gN 2) ÇN (ns.map W.int) [some (.fl (ns.map W.int)),some (.ref S.length),none,none,none] (S++[.lst []])=.nx [some (.fl (ns.map W.int)),some (.ref S.length),a',b',c'] (S++[oI zs']):=e2
 walk_at "evh"
 simp
theorem set_same {S:Å} {d:Nat} {o:Ob} (h:S[d]?=some o):S.set d o=S:=by
 apply List.ext_getElem?
 intro i
 by_cases hi:d=i
 ·subst hi;rw[ÀB h,h]
 ·rw[List.getElem?_set_ne hi]
theorem Û7 (S:Å) (d:Nat) (zs:List Int) (n:Int) (hd:S[d]?=some (oI zs)) (hn:0<n):∃ v zs',(0≤v∧v<n)∧Ðu [.ref d,.int n] S=.ok (.int v) (S.set d (oI zs')):=by
 cases hz:zs.reverse with
 |nil=>
  have e:zs=[]:=by simpa using hz
  subst e
  refine ⟨0,[],⟨by omega,hn⟩,?_⟩
  have e2:S.set d (oI [])=S:=set_same hd
  unfold Ðu Ðt
  have e3:(([]:List W).length:Int)=0:=rfl
  walk_at "evh"
  simp
 |cons z r=>
  have e:zs=r.reverse++[z]:=by
   have:=congrArg List.reverse hz
   simpa using this
  subst e
  clear hz
  refine ⟨z.fmod n,r.reverse,⟨Int.fmod_nonneg_of_pos _ hn,Int.fmod_lt_of_pos _ hn⟩,?_⟩
  have hn0:n≠0:=by omega
  have e0:¬ (((List.map W.int (r.reverse++[z])).length:Int)=0):=by simp;omega
  have e1:(List.map W.int (r.reverse++[z]))[(List.map W.int (r.reverse++[z])).length-1]?=some (W.int z):=by simp
  have e2:(List.map W.int (r.reverse++[z])).dropLast=r.reverse.map W.int:=by simp
  unfold Ðu Ðt
  walk_at "evh"
theorem ß4 {α:Type} {xs:List α} {i:Int} (h0:0≤i) (h1:i<xs.length):∃ w,w∈xs∧L2.atI xs i=some w:=by
 have hi:i.toNat<xs.length:=by omega
 refine ⟨xs[i.toNat],List.getElem_mem hi,?_⟩
 have e:=L2.atI_nat (xs:=xs) (j:=i.toNat) (v:=xs[i.toNat]) (List.getElem?_eq_getElem hi)
 rwa [Int.toNat_of_nonneg h0] at e
structure Dr (d:Nat) (S S':Å):Prop where
 dr:∃ zs,S'[d]?=some (oI zs)
 le:S.length≤S'.length
 old:∀ i,i≠d→i<S.length→S'[i]?=S[i]?
abbrev Ïw (d:Nat) (S:Å):Prop:=∃ zs,S[d]?=some (oI zs)
theorem Dr.refl {d:Nat} {S:Å} (h:Ïw d S):Dr d S S:=⟨h,Nat.le_refl _,λ _ _ _=>rfl⟩
theorem Dr.trans {d:Nat} {S S1 S2:Å} (a:Dr d S S1) (b:Dr d S1 S2):Dr d S S2:=
 ⟨b.dr,Nat.le_trans a.le b.le,λ i h1 h2=>(b.old i h1 (Nat.lt_of_lt_of_le h2 a.le)).trans (a.old i h1 h2)⟩
theorem Ïw.lt {d:Nat} {S:Å} (h:Ïw d S):d<S.length:=let ⟨_,e⟩:=h;(List.getElem?_eq_some_iff.mp e).1
theorem Ïw.app {d:Nat} {S:Å} (h:Ïw d S) (r:Å):Ïw d (S++r):=let ⟨zs,e⟩:=h;⟨zs,ÈT r e⟩
theorem Dr.app {d:Nat} {S:Å} (h:Ïw d S) (r:Å):Dr d S (S++r):=⟨h.app r,by simp,λ i _ hi=>List.getElem?_append_left hi⟩
theorem Dr.set {d:Nat} {S:Å} (h:Ïw d S) (zs:List Int):Dr d S (S.set d (oI zs)):=by
 obtain ⟨z0,e⟩:=h
 exact ⟨⟨zs,ÀB e⟩,by simp,λ i hi _=>List.getElem?_set_ne (Ne.symm hi)⟩
end Fr
namespace Fr
open PySem
local macro_rules | `(tactic| walk_at "ev") => `(tactic| simp only [Bool.or_true, Bool.true_or, Bool.and_self, Bool.or_self, Bool.and_true, Bool.true_and, Bool.false_or, Bool.or_false, Bool.false_and, Bool.and_false, ÂW, ÆQ, ÆR, ÆS, ÂX, Ř, Át, Åf, Ã6, ÆT, ÆU, ÆV, ÆW, Èh, ř, Ś, ś, Ài, Ŝ, Ãe, Ã7, Àj, Åg, Ã8, Åh, Á3, ŝ, Ã9, ÁS, Åi, Àk, Àl, Ģ, Åj, ÁT, Ãf, Ãg, Äa, Äb, Ãh, ÁU, Æj, ÆX, Åk, Ål, Åm, Ån, ÆY, Èi, Áu, Áv, Æk, Æl, Àm, ÂY, Áw, Äc, ÆZ, ÂZ, Àn, Ào, Àp, Àq, ÄB, Èj, Áx, Åo, Â0, Áy, Åp, Â1, Áz, Åq, ÃS, År, Ås, Æ0, Äd, Àr, Ş, ÄC, Èk, Äe, ÄO, Åt, Â2, ÀZ, Ä7, ň, ė, Äk, Âr, Âs, Â9, Äl, Ât, Ţ, Äm, Âu, Âv, seq_eq, ŗ, Âe, Âw, Âx, Ây, À3, À4, ÀF, À5, À6, À7, À8, Ž, ž, ÃV, Ãt, Än, Äo, Âz, Àa, ÁX, ÃW, ÁY, Äp, Âf, Äq, ÂA, Är, Äs, Ū, ÃC, ÁZ, ÂB, Ät, ÂC, ũ, ĸ, Âg, ÂD, Çv, ÃD, ÀG, ÄS, Äu, À9, ÀH, Áa, ÀQ, ū, ÁD, Áb, Á0, Âh, Ŕ, Àb, Ác, ÁE, Ã3, ÅD, Àc, Ä8, Àd, Ád, Áe, Áf, Ág, Áh, Ái, Áj, ÀI, Àe, Ä9, Ák, ÂE, ÂF, Âi, ÂG, ÀR, ÂH, Äv, ÂI, ÂJ, Äw, ÂK, ÂL, ÂM, Äx, ÂN, ÆL, ÆM, Ãa, Ál, Ám, ÆN, ÀJ, ÂO, ÂP, Án, ÂQ, Áo, Áp, Áq, Ã4, ÃE, ÅP, Ãu, Ãv, Ãb, ÅQ, ÁQ, ÁF, Åa, Åb, ÆO, Åc, Á1, Á2, Äy, Äz, Åd, Âj, ÂR, ÂS, ÂT, ÂU, Àf, Àg, Àh, Ár, Ás, ĺ, ă, Č, č, þ, Ą, Ĺ, Ĭ, Ŋ, ŋ, ě, ĭ, ÀU, Ō, Ŵ, ŵ, Į, ō, ÁM, Ŏ, Ŷ, ŷ, į, ŏ, ÁN, Ĝ, İ, ı, Ĕ, ĝ, Ày, Ĳ, Ő, ő, Ğ, ĳ, ÀV, ÀW, ÁO, ÁP, Àz, ÀX, ÀY, List.map_cons, List.map_nil, List.cons_append, List.nil_append, List.length_cons, List.length_nil, Nat.reduceAdd, Nat.reduceSub, List.replicate, List.set_cons_zero, List.set_cons_succ, Bool.false_eq_true, Bool.not_true, Bool.not_false, if_true, if_false, reduceIte, decide_eq_true_eq, Bool.not_eq_true', decide_eq_false_iff_not, not_true_eq_false, not_false_eq_true, ite_not, decide_true, decide_false, eq_self_iff_true, Ãc, ÁR, Ã5, Ãd, ÃQ, ÄA, ÃR, ÂV, ÆP, Åe, and_self, true_and, and_true, false_and, and_false, or_true, true_or, or_self, false_or, or_false, ne_eq])
local macro_rules | `(tactic| walk_at "evh") => `(tactic| simp only [Bool.or_true, Bool.true_or, Bool.and_self, Bool.or_self, Bool.and_true, Bool.true_and, Bool.false_or, Bool.or_false, Bool.false_and, Bool.and_false, ÂW, ÆQ, ÆR, ÆS, ÂX, Ř, Át, Åf, Ã6, ÆT, ÆU, ÆV, ÆW, Èh, ř, Ś, ś, Ài, Ŝ, Ãe, Ã7, Àj, Åg, Ã8, Åh, Á3, ŝ, Ã9, ÁS, Åi, Àk, Àl, Ģ, Åj, ÁT, Ãf, Ãg, Äa, Äb, Ãh, ÁU, Æj, ÆX, Åk, Ål, Åm, Ån, ÆY, Èi, Áu, Áv, Æk, Æl, Àm, ÂY, Áw, Äc, ÆZ, ÂZ, Àn, Ào, Àp, Àq, ÄB, Èj, Áx, Åo, Â0, Áy, Åp, Â1, Áz, Åq, ÃS, År, Ås, Æ0, Äd, Àr, Ş, ÄC, Èk, Äe, ÄO, Åt, Â2, ÀZ, Ä7, ň, ė, Äk, Âr, Âs, Â9, Äl, Ât, Ţ, Äm, Âu, Âv, seq_eq, ŗ, Âe, Âw, Âx, Ây, À3, À4, ÀF, À5, À6, À7, À8, Ž, ž, ÃV, Ãt, Än, Äo, Âz, Àa, ÁX, ÃW, ÁY, Äp, Âf, Äq, ÂA, Är, Äs, Ū, ÃC, ÁZ, ÂB, Ät, ÂC, ũ, ĸ, Âg, ÂD, Çv, ÃD, ÀG, ÄS, Äu, À9, ÀH, Áa, ÀQ, ū, ÁD, Áb, Á0, Âh, Ŕ, Àb, Ác, ÁE, Ã3, ÅD, Àc, Ä8, Àd, Ád, Áe, Áf, Ág, Áh, Ái, Áj, ÀI, Àe, Ä9, Ák, ÂE, ÂF, Âi, ÂG, ÀR, ÂH, Äv, ÂI, ÂJ, Äw, ÂK, ÂL, ÂM, Äx, ÂN, ÆL, ÆM, Ãa, Ál, Ám, ÆN, ÀJ, ÂO, ÂP, Án, ÂQ, Áo, Áp, Áq, Ã4, ÃE, ÅP, Ãu, Ãv, Ãb, ÅQ, ÁQ, ÁF, Åa, Åb, ÆO, Åc, Á1, Á2, Äy, Äz, Åd, Âj, ÂR, ÂS, ÂT, ÂU, Àf, Àg, Àh, Ár, Ás, ĺ, ă, Č, č, þ, Ą, Ĺ, Ĭ, Ŋ, ŋ, ě, ĭ, ÀU, Ō, Ŵ, ŵ, Į, ō, ÁM, Ŏ, Ŷ, ŷ, į, ŏ, ÁN, Ĝ, İ, ı, Ĕ, ĝ, Ày, Ĳ, Ő, ő, Ğ, ĳ, ÀV, ÀW, ÁO, ÁP, Àz, ÀX, ÀY, List.map_cons, List.map_nil, List.cons_append, List.nil_append, List.length_cons, List.length_nil, Nat.reduceAdd, Nat.reduceSub, List.replicate, List.set_cons_zero, List.set_cons_succ, Bool.false_eq_true, Bool.not_true, Bool.not_false, if_true, if_false, reduceIte, decide_eq_true_eq, Bool.not_eq_true', decide_eq_false_iff_not, not_true_eq_false, not_false_eq_true, ite_not, decide_true, decide_false, eq_self_iff_true, Ãc, ÁR, Ã5, Ãd, ÃQ, ÄA, ÃR, ÂV, ÆP, Åe, and_self, true_and, and_true, false_and, and_false, or_true, true_or, or_self, false_or, or_false, ne_eq, *])
inductive Al (R:W→PyData→Prop):List W→List PyData→Prop
 |nil:Al R [] []
 |cons {w:W} {x:PyData} {ws:List W} {xs:List PyData}:R w x→Al R ws xs→Al R (w::ws) (x::xs)
section
variable{R R':W→PyData→Prop}
theorem Al.length {ws:List W} {xs:List PyData} (h:Al R ws xs):ws.length=xs.length:=by
 induction h with
 |nil=>rfl
 |cons _ _ ih=>simp[ih]
theorem Al.imp {ws:List W} {xs:List PyData} (k:∀ w x,R w x→R' w x) (h:Al R ws xs):Al R' ws xs:=by
 induction h with
 |nil=>exact .nil
 |cons h _ ih=>exact .cons (k _ _ h) ih
theorem Al.append {ws ws':List W} {xs xs':List PyData} (h:Al R ws xs) (h':Al R ws' xs'):Al R (ws++ws') (xs++xs'):=by
 induction h with
 |nil=>exact h'
 |cons h _ ih=>exact .cons h ih
theorem Al.get {ws:List W} {xs:List PyData} (h:Al R ws xs):∀ {i:Nat} {w:W},ws[i]?=some w→∃ x,xs[i]?=some x∧R w x:=by
 induction h with
 |nil=>intro i w e;simp at e
 |cons h _ ih=>
  intro i w e
  cases i with
  |zero=>simp at e;subst e;exact ⟨_,rfl,h⟩
  |succ i=>simpa using ih (by simpa using e)
theorem Al.get' {ws:List W} {xs:List PyData} (h:Al R ws xs):∀ {i:Nat} {x:PyData},xs[i]?=some x→∃ w,ws[i]?=some w∧R w x:=by
 induction h with
 |nil=>intro i w e;simp at e
 |cons h _ ih=>
  intro i w e
  cases i with
  |zero=>simp at e;subst e;exact ⟨_,rfl,h⟩
  |succ i=>simpa using ih (by simpa using e)
theorem Al.map {α:Type} {f:α→W} {g:α→PyData}:∀ {ys:List α},(∀y∈ys,R (f y) (g y))→Al R (ys.map f) (ys.map g)
 | [],_=>.nil
 |y::ys,h=>.cons (h y (by simp)) (Al.map λ z hz=>h z (List.mem_cons_of_mem _ hz))
theorem Al.split {pre:List PyData}:∀ {ws:List W} {suf:List PyData},Al R ws (pre++suf)→∃ w1 w2,ws=w1++w2∧Al R w1 pre∧Al R w2 suf:=by
 induction pre with
 |nil=>intro ws suf h;exact ⟨[],ws,rfl,.nil,h⟩
 |cons x pre ih=>
  intro ws suf h
  cases h with
  |cons h t=>
   obtain ⟨w1,w2,rfl,a,b⟩:=ih t
   exact ⟨_::w1,w2,rfl,.cons h a,b⟩
theorem Åu {f:W→Option PyData}:∀ {ws:List W} {xs:List PyData},Âq f ws=some xs↔Al (λ w x=>f w=some x) ws xs
 | [],xs=>by
  constructor
  ·intro h;cases h;exact .nil
  ·intro h;cases h;rfl
 |w::ws,xs=>by
  constructor
  ·intro h
   unfold Âq at h
   split at h
   ·rename_i d ds h1 h2
    cases h
    exact .cons h1 (Åu.mp h2)
   ·cases h
  ·intro h
   cases h with
   |cons h t=>
    unfold Âq
    rw[h,Åu.mpr t]
end
section
variable{S T T':Å}
theorem Ïx (h:∀ (i:Nat) (xs:List W),T[i]?=some (Ob.lst xs)→T'[i]?=some (Ob.lst xs)):∀ (n:Nat) (w:W) (x:PyData),toD T n w=some x→toD T' n w=some x
 |0,_,_,e=>by cases e
 |n+1,w,x,e=>by
  have ih:=Ïx h n
  have all:∀ ws xs,Âq (toD T n) ws=some xs→Âq (toD T' n) ws=some xs:=λ ws xs q=>Åu.mpr ((Åu.mp q).imp ih)
  unfold toD at e ⊢
  cases w with
  |tup ws=>
   simp only at e ⊢
   cases ha:Âq (toD T n) ws with
   |none=>rw[ha] at e;cases e
   |some ds=>rw[ha] at e;rw[all _ _ ha];exact e
  |fl ws=>
   simp only at e ⊢
   cases ha:Âq (toD T n) ws with
   |none=>rw[ha] at e;cases e
   |some ds=>rw[ha] at e;rw[all _ _ ha];exact e
  |ref k=>
   simp only at e ⊢
   split at e
   ·rename_i ws hk
    rw[h _ _ hk]
    simp only
    cases ha:Âq (toD T n) ws with
    |none=>rw[ha] at e;cases e
    |some ds=>rw[ha] at e;rw[all _ _ ha];exact e
   ·cases e
  |_=>exact e
theorem ÚR:∀ (n:Nat) (w:W) (x:PyData),toD S n w=some x→toD S (n+1) w=some x
 |0,_,_,e=>by cases e
 |n+1,w,x,e=>by
  have ih:=ÚR n
  have all:∀ ws xs,Âq (toD S n) ws=some xs→Âq (toD S (n+1)) ws=some xs:=λ ws xs q=>Åu.mpr ((Åu.mp q).imp ih)
  unfold toD at e ⊢
  cases w with
  |tup ws=>
   simp only at e ⊢
   cases ha:Âq (toD S n) ws with
   |none=>rw[ha] at e;cases e
   |some ds=>rw[ha] at e;rw[all _ _ ha];exact e
  |fl ws=>
   simp only at e ⊢
   cases ha:Âq (toD S n) ws with
   |none=>rw[ha] at e;cases e
   |some ds=>rw[ha] at e;rw[all _ _ ha];exact e
  |ref k=>
   simp only at e ⊢
   split at e
   ·rename_i ws hk
    try simp only[hk]
    cases ha:Âq (toD S n) ws with
    |none=>rw[ha] at e;cases e
    |some ds=>rw[ha] at e;rw[all _ _ ha];exact e
   ·cases e
  |_=>exact e
theorem ß5 {n m:Nat} (h:n≤m) {w:W} {x:PyData} (e:toD S n w=some x):toD S m w=some x:=by
 induction h with
 |refl=>exact e
 |step _ ih=>exact ÚR _ _ _ ih
theorem ÞL {n:Nat} {ws:List W} {x:PyData}:toD S (n+1) (.tup ws)=some x↔∃ xs,x=.tuple xs∧Al (λ w x=>toD S n w=some x) ws xs:=by
 show (Âq (toD S n) ws).map .tuple=some x↔_
 constructor
 ·intro e
  cases ha:Âq (toD S n) ws with
  |none=>rw[ha] at e;cases e
  |some ds=>rw[ha] at e;cases e;exact ⟨ds,rfl,Åu.mp ha⟩
 ·rintro ⟨xs,rfl,h⟩
  rw[Åu.mpr h];rfl
theorem ÞM {n k:Nat} {x:PyData}:toD S (n+1) (.ref k)=some x↔∃ ws xs,S[k]?=some (.lst ws)∧x=.list xs∧Al (λ w x=>toD S n w=some x) ws xs:=by
 constructor
 ·intro e
  unfold toD at e
  simp only at e
  split at e
  ·rename_i ws hk
   cases ha:Âq (toD S n) ws with
   |none=>rw[ha] at e;cases e
   |some ds=>rw[ha] at e;cases e;exact ⟨ws,ds,hk,rfl,Åu.mp ha⟩
  ·cases e
 ·rintro ⟨ws,xs,hk,rfl,h⟩
  unfold toD
  simp only[hk,Åu.mpr h]
  rfl
end
def hid (h:List Nat) (S:Å):Å:=h.foldr (λ d T=>T.set d (.dT [])) S
def Vw (h:List Nat) (S:Å) (n:Nat) (w:W) (x:PyData):Prop:=toD (hid h S) n w=some x
abbrev Ó (h:List Nat) (S:Å) (n:Nat):List W→List PyData→Prop:=Al (Vw h S n)
structure Kp (h:List Nat) (S S':Å):Prop where
 le:S.length≤S'.length
 old:∀ i,i∉h→i<S.length→S'[i]?=S[i]?
section
variable{S S' S1 S2:Å}{h h':List Nat}{d D n m:Nat}{w:W}{x:PyData}
theorem ÇO {xs:List W}:∀ {h:List Nat} {i:Nat},(hid h S)[i]?=some (.lst xs)↔i∉h∧S[i]?=some (.lst xs)
 | [],i=>by simp[hid]
 |d::h,i=>by
  have ih:=ÇO (xs:=xs) (h:=h) (i:=i)
  show ((hid h S).set d (.dT []))[i]?=_↔_
  rw[List.getElem?_set]
  by_cases e:d=i
  ·subst e
   by_cases h2:d<(hid h S).length
   ·simp[h2]
   ·simp[h2]
  ·simp[e,Ne.symm e,ih]
theorem Kp.refl:Kp h S S:=⟨Nat.le_refl _,λ _ _ _=>rfl⟩
theorem Kp.trans (a:Kp h S S1) (b:Kp h S1 S2):Kp h S S2:=⟨Nat.le_trans a.le b.le,λ i h1 h2=>(b.old i h1 (Nat.lt_of_lt_of_le h2 a.le)).trans (a.old i h1 h2)⟩
theorem Kp.mono (k:∀ i∈h,i∈h') (a:Kp h S S'):Kp h' S S':=⟨a.le,λ i h1 h2=>a.old i (λ q=>h1 (k i q)) h2⟩
theorem Kp.all (a:Kp [] S S'):Kp h S S':=a.mono (λ _ q=>by simp at q)
theorem Kp.app (r:Å):Kp h S (S++r):=⟨by simp,λ i _ hi=>List.getElem?_append_left hi⟩
theorem Kp.set {o:Ob} (hd:d∈h):Kp h S (S.set d o):=⟨by simp,λ i hi _=>List.getElem?_set_ne (λ e=>hi (by rw[←e];exact hd))⟩
theorem Kp.new {o:Ob} (hd:S.length≤d) (a:Kp h S S'):Kp h S (S'.set d o):=⟨by simpa using a.le,λ i hi hl=>by rw[List.getElem?_set_ne (by omega)];exact a.old i hi hl⟩
theorem Kp.drop (hD:S.length≤D) (a:Kp (D::h) S S'):Kp h S S':=⟨a.le,λ i hi hl=>a.old i (by simp;exact ⟨by omega,hi⟩) hl⟩
theorem Kp.get {o:Ob} (a:Kp h S S') (hd:d∉h) (e:S[d]?=some o):S'[d]?=some o:=by
 rw[a.old d hd (List.getElem?_eq_some_iff.mp e).1];exact e
theorem Vw.toD (k:Vw h S n w x):Fr.toD S n w=some x:=Ïx (λ i xs e=>(ÇO.mp e).2) n w x k
theorem Vw.le (hn:n≤m) (k:Vw h S n w x):Vw h S m w x:=ß5 hn k
theorem Vw.kp (r:Kp h S S') (k:Vw h S n w x):Vw h S' n w x:=Ïx (λ i xs e=>by
 obtain ⟨h1,h2⟩:=ÇO.mp e
 exact ÇO.mpr ⟨h1,r.get h1 h2⟩) n w x k
theorem Vw.sub (r:∀ i∈h,i∈h') (k:Vw h' S n w x):Vw h S n w x:=Ïx (λ i xs e=>by
 obtain ⟨h1,h2⟩:=ÇO.mp e
 exact ÇO.mpr ⟨λ q=>h1 (r i q),h2⟩) n w x k
theorem Vw.more (hD:S.length≤D) (k:Vw h S n w x):Vw (D::h) S n w x:=Ïx (λ i xs e=>by
 obtain ⟨h1,h2⟩:=ÇO.mp e
 have:=(List.getElem?_eq_some_iff.mp h2).1
 exact ÇO.mpr ⟨by simp;exact ⟨by omega,h1⟩,h2⟩) n w x k
theorem Ó.kp {ws:List W} {xs:List PyData} (r:Kp h S S') (k:Ó h S n ws xs):Ó h S' n ws xs:=k.imp λ _ _ q=>q.kp r
theorem Ó.more {ws:List W} {xs:List PyData} (hD:S.length≤D) (k:Ó h S n ws xs):Ó (D::h) S n ws xs:=k.imp λ _ _ q=>q.more hD
theorem Ó.le {ws:List W} {xs:List PyData} (hn:n≤m) (k:Ó h S n ws xs):Ó h S m ws xs:=k.imp λ _ _ q=>q.le hn
theorem Vw.int {i:Int}:Vw h S (n+1) (.int i) (.int i):=rfl
theorem Vw.str {i:Str}:Vw h S (n+1) (.str i) (.str i):=rfl
theorem Vw.bl {i:Bool}:Vw h S (n+1) (.bl i) (.bool i):=rfl
theorem Vw.non:Vw h S (n+1) .non .none:=rfl
theorem Vw.tup {ws:List W} {xs:List PyData} (k:Ó h S n ws xs):Vw h S (n+1) (.tup ws) (.tuple xs):=ÞL.mpr ⟨xs,rfl,k⟩
theorem Vw.lst {k:Nat} {ws:List W} {xs:List PyData} (hk:S[k]?=some (.lst ws)) (hd:k∉h) (a:Ó h S n ws xs):Vw h S (n+1) (.ref k) (.list xs):=ÞM.mpr ⟨ws,xs,ÇO.mpr ⟨hd,hk⟩,rfl,a⟩
theorem Ó.ints {is:List Int}:Ó h S (n+1) (is.map .int) (is.map .int):=Al.map λ _ _=>Vw.int
theorem Vw.ints {is:List Int} {k:Nat} (hk:S[k]?=some (.lst (is.map .int))) (hd:k∉h):Vw h S (n+2) (.ref k) (.list (is.map .int)):=.lst hk hd Ó.ints
end
structure Seen (S:Å) (tu:Bool) (w:W) (ws:List W):Prop where
 ib:ú [w,.ty "bool"] S=.ok (.bl false) S
 ii:ú [w,.ty "int"] S=.ok (.bl false) S
 is:ú [w,.ty "str"] S=.ok (.bl false) S
 it:ú [w,.ty "tuple"] S=.ok (.bl tu) S
 il:ú [w,.ty "list"] S=.ok (.bl !tu) S
 no:œ w .non S=.ok (.bl false) S
 len:ö [w] S=.ok (.int ws.length) S
 ix:∀ i,ã w (.int i) S=ÃL (L2.atI ws i) λ x=>.ok x S
 ty:tyM "list" w S=!tu
theorem atI_nat {α:Type} (xs:List α) (i:Nat):L2.atI xs (i:Int)=xs[i]?:=by
 unfold L2.atI L2.ixN
 rw[if_pos (by omega)]
 by_cases h:(i:Int)<xs.length
 ·rw[if_pos h];rfl
 ·rw[if_neg h,List.getElem?_eq_none (by omega)];rfl
end Fr
namespace Pu
open PySem
inductive W where
 |non|bl (b:Bool)|int (i:Int)|str (x:Str)|tup (xs:List W)|lst (xs:List W)|dk (kvs:List (L2.Key×W))|dt (kvs:List (NestedKey×W))|ob (c:Str) (fs:List (Str×W))|dr|gl (x:Str)|ty (n:String)
 deriving Inhabited
abbrev Dw:=List Int
inductive Rs (α:Type) where
 |ok (a:α) (S:Dw)|ex (c:Str) (d:Option (List (Str×W))) (S:Dw)|bad
abbrev M (α:Type):=Dw→Rs α
abbrev Sl:=List (Option W)
abbrev Exp:=Sl→M W
abbrev ï:=Sl→M Bool
abbrev Arg:=Sl→M (List W)
inductive RS where
 |nx (s:Sl) (S:Dw)|rt (w:W) (S:Dw)|bk (s:Sl) (S:Dw)|ct (s:Sl) (S:Dw)|ex (c:Str) (d:Option (List (Str×W))) (s:Sl) (S:Dw)|bad
abbrev Ì:=Sl→Dw→RS
abbrev Fn:=List W→M W
def bd {α β:Type} (f:M α) (k:α→M β):M β:=λ S=>match f S with
 | .ok a S'=>k a S'
 | .ex c d S'=>.ex c d S'
 | .bad=>.bad
def rt {α:Type} (a:α):M α:=λ S=>.ok a S
def bad {α:Type}:M α:=λ _=>.bad
def À (i:Nat):Exp:=λ s S=>match s[i]? with
 |some (some w)=>.ok w S
 |_=>.bad
def eC (w:W):Exp:=λ _=>rt w
def É (o:W→W→M W) (a b:Exp):Exp:=λ s=>bd (a s) λ x=>bd (b s) λ y=>o x y
def eUn (o:W→M W) (a:Exp):Exp:=λ s=>bd (a s) o
def boK (k:Bool→M W) (x:W):M W:=match x with
 | .bl b=>k b
 |_=>bad
def tbK (x:W):M Bool:=match x with
 | .bl b=>rt b
 |_=>bad
def Ãn (a b:Exp):Exp:=λ s=>bd (a s) (boK λ k=>if k=true then b s else rt (.bl false))
def eOr (a b:Exp):Exp:=λ s=>bd (a s) (boK λ k=>if k=true then rt (.bl true) else b s)
def Ùn (a:Exp):Exp:=λ s=>bd (a s) (boK λ k=>rt (.bl !k))
def eIf (c:ï) (a b:Exp):Exp:=λ s=>bd (c s) λ k=>if k=true then a s else b s
def ÃO (o o':W→W→M W) (a b c:Exp):Exp:=λ s=>bd (a s) λ x=>bd (b s) λ y=>bd (o x y) (boK λ k=>if k=true then bd (c s) (o' y) else rt (.bl false))
def tB (a:Exp):ï:=λ s=>bd (a s) tbK
def tAnd (a b:ï):ï:=λ s=>bd (a s) λ k=>if k=true then b s else rt false
def tOr (a b:ï):ï:=λ s=>bd (a s) λ k=>if k=true then rt true else b s
def tNot (a:ï):ï:=λ s=>bd (a s) λ k=>rt !k
def tYs:ï:=λ _=>rt true
def Ä:Arg:=λ _=>rt []
def Á (a:Exp) (r:Arg):Arg:=λ s=>bd (a s) λ x=>bd (r s) λ xs=>rt (x::xs)
def ô (a:Arg):Exp:=λ s=>bd (a s) λ xs=>if xs.length≤sizeLine then rt (.tup xs) else bad
def ĩ (a:Arg):Exp:=λ s=>bd (a s) λ xs=>if xs.length≤sizeLine then rt (.lst xs) else bad
def eB (f:List W→M W) (a:Arg):Exp:=λ s=>bd (a s) f
def Ò (f:Fn) (a:Arg):Exp:=λ s=>bd (a s) f
def getL:W→Option (List W)
 | .lst xs=>some xs
 |_=>none
def itemsOf:W→Option (List W)
 | .tup xs=>some xs
 | .lst xs=>some xs
 |_=>none
def ĉ (x y:W):M W:=match x,y with
 | .int i,.int j=>rt (.int (i+j))
 | .str a,.str b=>if a.length+b.length≤sizeLine then rt (.str (a++b)) else bad
 | .tup a,.tup b=>if a.length+b.length≤sizeLine then rt (.tup (a++b)) else bad
 | .lst a,.lst b=>if a.length+b.length≤sizeLine then rt (.lst (a++b)) else bad
 |_,_=>bad
def Æ6 (x y:W):M W:=match x,y with
 | .int i,.int j=>rt (.int (i-j))
 |_,_=>bad
def mulM (x y:W):M W:=match x,y with
 | .int i,.int j=>if (Fr.inR 18446744073709551615 i||Fr.inR 18446744073709551615 j)=true then rt (.int (i*j)) else bad
 | .str a,.int n=>if 0≤n∧n≤1000∧1≤a.length∧a.length≤1000 then rt (.str (Fr.ÀT a n.toNat)) else bad
 | .lst xs,.int k=>if Fr.inR 9223372036854775807 k=true∧xs.length*k.toNat≤sizeLine then rt (.lst (List.replicate k.toNat xs).flatten) else bad
 | .tup xs,.int k=>if xs.isEmpty=false∧0≤k∧k≤1000∧xs.length≤1000 then rt (.tup (List.replicate k.toNat xs).flatten) else bad
 |_,_=>bad
def Âp (x y:W):M W:=match x,y with
 | .int i,.int j=>if j≠0 then rt (.int (i.fmod j)) else bad
 |_,_=>bad
def È4 (x y:W):M W:=match x,y with
 | .int i,.int j=>if j≠0∧j.natAbs<1073741824 then rt (.int (i.fdiv j)) else bad
 |_,_=>bad
def Ñr (x y:W):M W:=match x,y with
 | .int i,.int j=>if 0≤j∧j≤1000000∧i.natAbs<2 ^ 64 then rt (.int (i ^ j.toNat)) else bad
 |_,_=>bad
def ÛU (x y:W):M W:=match x,y with
 | .int i,.int j=>if 0≤j then rt (.int (i/2 ^ j.toNat)) else bad
 |_,_=>bad
def ÝH (x y:W):M W:=match x,y with
 | .int i,.int j=>rt (.int (Builtin.bitAnd i j))
 |_,_=>bad
def ÛV (x:W):M W:=match x with
 | .int i=>rt (.int (-i))
 |_=>bad
def ltM (x y:W):M W:=match x,y with
 | .int i,.int j=>rt (.bl (decide (i<j)))
 |_,_=>bad
def leM (x y:W):M W:=match x,y with
 | .int i,.int j=>rt (.bl (decide (i≤j)))
 |_,_=>bad
def gtM (x y:W):M W:=match x,y with
 | .int i,.int j=>rt (.bl (decide (j<i)))
 |_,_=>bad
def geM (x y:W):M W:=match x,y with
 | .int i,.int j=>rt (.bl (decide (j≤i)))
 |_,_=>bad
def eqW:W→W→Option Bool
 | .non,.non=>some true
 | .int i,.int j=>some (decide (i=j))
 | .bl i,.bl j=>some (decide (i=j))
 | .str i,.str j=>some (decide (i=j))
 | .non,.int _=>some false
 | .int _,.non=>some false
 | .non,.bl _=>some false
 | .bl _,.non=>some false
 | .non,.str _=>some false
 | .str _,.non=>some false
 | .int _,.str _=>some false
 | .str _,.int _=>some false
 | .bl _,.str _=>some false
 | .str _,.bl _=>some false
 |_,_=>none
def ÉY (f:W→Option PyData):List W→Option (List PyData)
 | []=>some []
 |w::ws=>match f w,ÉY f ws with
  |some d,some ds=>some (d::ds)
  |_,_=>none
def toP:Nat→W→Option PyData
 |0,_=>none
 |n+1,w=>match w with
  | .non=>some .none
  | .bl b=>some (.bool b)
  | .int i=>some (.int i)
  | .str x=>some (.str x)
  | .tup xs=>(ÉY (toP n) xs).map .tuple
  | .lst xs=>(ÉY (toP n) xs).map .list
  |_=>none
def eqX (x y:W):Option Bool:=match eqW x y with
 |some b=>some b
 |none=>match toP 40 x,toP 40 y with
  |some d,some e=>if (SeqAt.shaped d&&SeqAt.shaped e)=true then some (PyData.eqv d e) else none
  |_,_=>none
def blO (o:Option Bool):M W:=match o with
 |some b=>rt (.bl b)
 |none=>bad
def Îc (o:Option Bool):M W:=match o with
 |some b=>rt (.bl !b)
 |none=>bad
def Ė (x y:W):M W:=blO (eqX x y)
def neM (x y:W):M W:=Îc (eqX x y)
def œ (x y:W):M W:=match x,y with
 | .non,.non=>rt (.bl true)
 |_,.non=>rt (.bl false)
 |_,_=>bad
def ā (x y:W):M W:=match x,y with
 | .non,.non=>rt (.bl false)
 |_,.non=>rt (.bl true)
 |_,_=>bad
def ÃA:W→Bool
 | .non=>true
 | .bl _=>true
 | .int _=>true
 | .str _=>true
 |_=>false
def eqF:W→W→Bool
 | .non,.non=>true
 | .bl i,.bl j=>i==j
 | .int i,.int j=>i==j
 | .str i,.str j=>i==j
 | .bl i,.int j=>(if i then 1 else 0)==j
 | .int j,.bl i=>j==(if i then 1 else 0)
 |_,_=>false
def ÅO (x y:W):Option Bool:=match x,y with
 | .str i,.str j=>some (Fr.Ê2 i j)
 |x,y=>match itemsOf y with
  |some ws=>if (ÃA x&&ws.all ÃA)=true then some (ws.any λ z=>eqF z x) else match toP 40 x,toP 40 y with
   |some d,some (.list ds)=>if (SeqAt.shaped d&&SeqAt.shaped (.list ds))=true then some (ds.any λ z=>PyData.eqv z d) else none
   |_,_=>none
  |none=>none
def Û2 (x y:W):M W:=blO (ÅO x y)
def ÁC (x y:W):M W:=Îc (ÅO x y)
def ltX (x y:W):Option Bool:=match x,y with
 | .int i,.int j=>some (decide (i<j))
 | .str i,.str j=>some (decide (i.cps.toList<j.cps.toList))
 |x,y=>match toP 40 x,toP 40 y with
  |some (.list ds),some (.list es)=>if (PySem.W.alikeAll ds es&&SeqAt.shaped (.list ds))=true then some (PySem.W.dataLt (.list ds) (.list es)) else none
  |some (.tuple ds),some (.tuple es)=>if (PySem.W.alikeAll ds es&&SeqAt.shaped (.tuple ds))=true then some (PySem.W.dataLt (.tuple ds) (.tuple es)) else none
  |_,_=>none
def ltG (x y:W):M W:=blO (ltX x y)
def Æ5 (c:Nat):W:=.str ⟨#[c]⟩
def Ŭ {α:Type} (o:Option α):M α:=match o with
 |some x=>rt x
 |none=>bad
def ã (x y:W):M W:=match x,y with
 | .tup xs,.int i=>Ŭ (L2.atI xs i)
 | .lst xs,.int i=>Ŭ (L2.atI xs i)
 | .str z,.int i=>if z.length≤sizeLine then Ŭ ((L2.atI z.cps.toList i).map Æ5) else bad
 |_,_=>bad
def Èz (xs:List W) (lo hi:Option Int):List W:=(xs.drop (HT.sIx xs.length 0 lo)).take (HT.sIx xs.length xs.length hi-HT.sIx xs.length 0 lo)
def slM (x:W) (lo hi:Option Int):M W:=match x with
 | .str z=>if z.length≤sizeLine then rt (.str (L2.cutS z lo hi)) else bad
 | .tup xs=>rt (.tup (Èz xs lo hi))
 | .lst xs=>rt (.lst (Èz xs lo hi))
 |_=>bad
def ö (xs:List W):M W:=match xs with
 | [.str z]=>if z.length≤sizeLine then rt (.int z.length) else bad
 | [.tup ys]=>rt (.int ys.length)
 | [.lst ys]=>rt (.int ys.length)
 |_=>bad
def ÃK (xs:List W):M W:=match xs with
 | [.int i]=>rt (.int i)
 | [.bl b]=>rt (.int (if b then 1 else 0))
 | [.str a]=>match PySem.intText? a with
  |some n=>if a.length≤640 then rt (.int n) else bad
  |none=>bad
 |_=>bad
def tyN:W→Option String
 | .non=>some "NoneType"
 | .bl _=>some "bool"
 | .int _=>some "int"
 | .str _=>some "str"
 | .tup _=>some "tuple"
 | .lst _=>some "list"
 | .dk _=>some "dict"
 |_=>none
def ú (xs:List W):M W:=match xs with
 | [x,.ty n]=>match tyN x with
  |some t=>blO (L2.kitB t n)
  |none=>bad
 |_=>bad
def ÁH (ws:List W):M W:=match ws with
 | [.tup xs]=>rt (.lst xs)
 | [.lst xs]=>rt (.lst xs)
 |_=>bad
def Ń (ws:List W):M W:=match ws with
 | [.tup xs]=>rt (.tup xs)
 | [.lst xs]=>rt (.tup xs)
 |_=>bad
def Ód (ws:List W):M W:=match ws with
 | [.int i,.int j]=>if 0<j∧Fr.inR 1073741823 j=true then rt (.tup [.int (i/j),.int (i%j)]) else bad
 |_=>bad
def Û1 (ws:List W):M W:=match ws with
 | [.int i]=>if i.natAbs.log2<1920 then rt (.str (toString i)) else bad
 |_=>bad
def Ùy (ws:List W):M W:=match ws with
 | [.int i,.int j]=>rt (.int (if j<i then j else i))
 |_=>bad
def Ùz (ws:List W):M W:=match ws with
 | [.int i,.int j]=>rt (.int (if j>i then j else i))
 |_=>bad
def intsOf:List W→Option (List Int)
 | []=>some []
 | .int a::ws=>(intsOf ws).map (a::·)
 |_=>none
def Ô1 (ws:List W):M W:=match ws with
 | [.lst xs]=>match intsOf xs with
  |some ns=>rt (.int ns.sum)
  |none=>bad
 |_=>bad
def Íw (ws:List W):M W:=match ws with
 | [.lst xs]=>match intsOf xs with
  |some ns=>rt (.lst ((Fr.sortI ns).map .int))
  |none=>bad
 |_=>bad
def tyM (T:String) (x:W):Bool:=match x with
 | .str _=>T== "str"
 | .int _=>T== "int"
 | .lst _=>T== "list"
 | .dk _=>T== "dict"
 |_=>false
def eM (T:String) (f:W→List W→M W) (o:Exp) (a:Arg):Exp:=λ s=>bd (o s) λ x=>if tyM T x=true then bd (a s) (f x) else bad
def splitM (x:W) (ys:List W):M W:=match x,ys with
 | .str a,[.str b]=>if (b.length==0)=false∧a.length+2≤sizeLine then rt (.lst ((Txt.split a b).map .str)) else bad
 |_,_=>bad
def Ób (x:W) (ys:List W):M W:=match x,ys with
 | .str a,[.str b]=>match Txt.index0 a b with
  |some k=>rt (.int k)
  |none=>bad
 |_,_=>bad
def Øp (x:W) (ys:List W):M W:=match x,ys with
 | .str a,[.str b]=>rt (.bl (Txt.startswith a b))
 |_,_=>bad
def ÝI (x:W) (ys:List W):M W:=match x,ys with
 | .str a,[.str b]=>rt (.bl (Txt.endswith a b))
 |_,_=>bad
def Óg (x:W) (ys:List W):M W:=match ys with
 | [y]=>match toP 40 x,toP 40 y with
  |some (.list ds),some d=>if (SeqAt.shaped (.list ds)&&SeqAt.shaped d)=true then match Fr.findD d ds 0 with
    |some j=>rt (.int j)
    |none=>bad
   else bad
  |_,_=>bad
 |_=>bad
def Ç9:W→Option Bool
 | .non=>some false
 | .bl b=>some b
 | .int i=>some (i !=0)
 | .str z=>if z.length≤sizeLine then some ((z.length:Int) !=0) else none
 | .tup xs=>some !xs.isEmpty
 | .lst xs=>some !xs.isEmpty
 | .dk xs=>some !xs.isEmpty
 |_=>none
def tV (a:Exp):ï:=λ s=>bd (a s) λ x=>Ŭ (Ç9 x)
def È5:Sl→M (Option Int):=λ _=>rt none
def Ès (f:Exp):Sl→M (Option Int):=λ s=>bd (f s) λ x=>match x with
 | .int i=>rt (some i)
 |_=>bad
def eSl (f:Exp) (lo hi:Sl→M (Option Int)):Exp:=λ s=>bd (f s) λ x=>bd (lo s) λ l=>bd (hi s) λ u=>slM x l u
def rng (lo:Int) (n:Nat):List W:=(List.range n).map λ (k:Nat)=>W.int (lo+k)
def srcOf (w:W):M (List W):=match w with
 | .tup xs=>rt xs
 | .lst xs=>rt xs
 | .str x=>rt (x.cps.toList.map Æ5)
 |_=>bad
def iE (f:Exp):Sl→M (List W):=λ s=>bd (f s) srcOf
def Ía (xs:List W):M (List W):=match xs with
 | [.int j]=>if Fr.inR 4611686018427387903 j=true then rt (rng 0 j.toNat) else bad
 |_=>bad
def Îb (xs:List W):M (List W):=match xs with
 | [.int i,.int j]=>if (Fr.inR 4611686018427387903 i&&Fr.inR 4611686018427387903 j)=true then rt (rng i (j-i).toNat) else bad
 |_=>bad
def iR1 (f:Arg):Sl→M (List W):=λ s=>bd (f s) Ía
def iR2 (f:Arg):Sl→M (List W):=λ s=>bd (f s) Îb
def Éa (ws:List W):M (List W):=match ws with
 | [.tup xs,.tup ys]=>rt (List.zipWith (λ a b=>W.tup [a,b]) xs ys)
 | [.lst xs,.lst ys]=>rt (List.zipWith (λ a b=>W.tup [a,b]) xs ys)
 |_=>bad
def iZip (f:Arg):Sl→M (List W):=λ s=>bd (f s) Éa
def Ì8 (x:W):M (List W):=match x with
 | .tup xs=>rt xs.reverse
 | .lst xs=>rt xs.reverse
 |_=>bad
def iRev (f:Exp):Sl→M (List W):=λ s=>bd (f s) Ì8
def rg1 (a:Exp):Sl→M (Int×Int):=λ s=>bd (a s) λ x=>match x with
 | .int n=>rt (0,n)
 |_=>bad
def rg2 (a b:Exp):Sl→M (Int×Int):=λ s=>bd (a s) λ x=>bd (b s) λ y=>match x,y with
 | .int n,.int k=>rt (n,k)
 |_,_=>bad
def Ô9 (b:Bool) (f:Sl→M (Int×Int)):Exp:=λ s=>bd (f s) λ x=>if (Fr.inR 4611686018427387903 x.1&&Fr.inR 4611686018427387903 x.2)=true∧(x.2-x.1).toNat≤16777216 then (if b=true then rt (.lst (rng x.1 (x.2-x.1).toNat)) else rt (.tup (rng x.1 (x.2-x.1).toNat))) else bad
abbrev Ā:=W→Sl→Option Sl
def gN (i:Nat):Ā:=λ w s=>some (s.set i (some w))
def ÃU:List W→Sl→Option Sl:=λ ws s=>match ws with
 | []=>some s
 |_=>none
def æ (g:Ā) (r:List W→Sl→Option Sl):List W→Sl→Option Sl:=λ ws s=>match ws with
 |w::ws=>match g w s with
  |some s1=>r ws s1
  |none=>none
 | []=>none
def gT (n:Nat) (r:List W→Sl→Option Sl):Ā:=λ w s=>match w with
 | .tup ws=>if ws.length=n then r ws s else none
 |_=>none
def Ě (s:Sl):List Nat→Sl
 | []=>s
 |v::vs=>(Ě s vs).set v none
def noX {α:Type} (f:M α):M α:=λ S=>match f S with
 | .ok a S'=>.ok a S'
 |_=>.bad
def lcG (g:Ā) (tt:ï) (e:Exp) (s0:Sl) (x:W) (k:List W→M (List W)):M (List W):=match g x s0 with
 |none=>bad
 |some s1=>bd (tt s1) λ b=>if b=true then bd (e s1) λ w=>k [w] else k []
def lcV (g:Ā) (tt:ï) (e:Exp) (s0:Sl):List W→M (List W)
 | []=>rt []
 |x::xs=>lcG g tt e s0 x λ l=>bd (lcV g tt e s0 xs) λ r=>rt (l++r)
def eLc (it:Sl→M (List W)) (g:Ā) (tt:ï) (e:Exp) (vs:List Nat):Exp:=λ s=>bd (it s) λ xs=>if xs.length≤sizeLine then bd (noX (lcV g tt e (Ě s vs) xs)) λ r=>rt (.lst r) else bad
def â {α:Type} (r:Rs α) (s:Sl) (k:α→Dw→RS):RS:=match r with
 | .ok a S=>k a S
 | .ex c d S=>.ex c d s S
 | .bad=>.bad
def Ă (r:RS) (b:Ì):RS:=match r with
 | .nx s S=>b s S
 |r=>r
def ÿ (r:RS) (k:Ì):RS:=match r with
 | .nx s S=>k s S
 | .ct s S=>k s S
 | .bk s S=>.nx s S
 |r=>r
def Ñ:Ì:=λ s S=>.nx s S
def Æ (a b:Ì):Ì:=λ s S=>Ă (a s S) b
def ġ (e:Exp):Ì:=λ s S=>â (e s S) s λ _ S'=>.nx s S'
def Ð (e:Exp):Ì:=λ s S=>â (e s S) s λ w S'=>.rt w S'
def Ëx:Ì:=λ _ S=>.rt .non S
def Ù (c:ï) (a b:Ì):Ì:=λ s S=>â (c s S) s λ k S'=>if k=true then a s S' else b s S'
def Ô (i:Nat) (e:Exp):Ì:=λ s S=>â (e s S) s λ w S'=>.nx (s.set i (some w)) S'
def tgK (o:Option Sl) (S:Dw):RS:=match o with
 |some s2=>.nx s2 S
 |none=>.bad
def Ëy (g:Ā) (e:Exp):Ì:=λ s S=>â (e s S) s λ w S'=>tgK (g w s) S'
def ÔR:Ì:=λ s S=>.bk s S
def Ùo:Ì:=λ s S=>.ct s S
def Ĥ (c:Str):Ì:=λ s S=>.ex c none s S
def tgB (o:Option Sl) (b:Ì) (S:Dw):RS:=match o with
 |some s2=>b s2 S
 |none=>.bad
def Ź (g:Ā) (b:Ì):List W→Ì
 | [],s,S=>.nx s S
 |x::xs,s,S=>ÿ (tgB (g x s) b S) (Ź g b xs)
def ê (it:Sl→M (List W)) (g:Ā) (b:Ì):Ì:=λ s S=>â (it s S) s λ xs S'=>Ź g b xs s S'
def Ég (s:Sl) (i:Nat):Option (List W):=match s[i]? with
 |some (some (.lst xs))=>some xs
 |_=>none
def ÁB (c:ï) (b:Ì):Nat→Ì
 |0,_,_=>.bad
 |k+1,s,S=>â (c s S) s λ q S'=>if q=true then ÿ (b s S') (ÁB c b k) else .nx s S'
def Èd (n:Nat) (c:ï) (b:Ì):Ì:=ÁB c b n
def Ç4 (r:RS):RS:=match r with
 | .ex _ _ _ _=>.bad
 |r=>r
def ÉX (r:RS) (tab:List (Str×Bool)) (su:Str→Option (List (Str×W))→Ì):RS:=match r with
 | .ex c d s1 S1=>match Fr.Ãz tab c with
  |some true=>Ç4 (su c d s1 S1)
  |some false=>.ex c d s1 S1
  |none=>.bad
 |r=>r
def Ç5 (b:Ì) (tab:List (Str×Bool)) (su:Str→Option (List (Str×W))→Ì):Ì:=λ s S=>ÉX (b s S) tab su
def È3 (i:Nat) (r:RS):RS:=match r with
 | .nx s S=>.nx (s.set i none) S
 | .bk s S=>.bk (s.set i none) S
 | .ct s S=>.ct (s.set i none) S
 |r=>r
def Ée (i:Nat) (r:RS) (tab:List (Str×Bool)) (su:Str→Option (List (Str×W))→Ì):RS:=match r with
 | .ex c d s1 S1=>match Fr.Ãz tab c with
  |some true=>if i<s1.length then È3 i (Ç4 (su c d (s1.set i none) S1)) else .bad
  |some false=>.ex c d s1 S1
  |none=>.bad
 |r=>r
def Òb (i:Nat) (b:Ì) (tab:List (Str×Bool)) (su:Str→Option (List (Str×W))→Ì):Ì:=λ s S=>Ée i (b s S) tab su
def ÔU (d:Option (List (Str×W))) (s:Ì):Ì:=match d with
 |none=>s
 |some _=>λ _ _=>.bad
def Ùu (tab:List (Str×Bool)) (c:Str):Exp:=λ _=>blO (Fr.Ãz tab c)
def fnK (r:RS):Rs W:=match r with
 | .rt w S=>.ok w S
 | .nx _ S=>.ok .non S
 | .ex c d _ S=>.ex c d S
 |_=>.bad
def ē (n:Nat) (b:Ì):Fn:=λ ws S=>fnK (b (ws.map some++List.replicate (n-ws.length) none) S)
def Ô8 (i:Nat) (o:W→W→M W) (e:Exp):Ì:=λ s S=>match s[i]? with
 |some (some x)=>â (bd (e s) (λ y=>o x y) S) s λ w S'=>.nx (s.set i (some w)) S'
 |_=>.bad
def ÙB (x y:W):M W:=match x,y with
 | .int i,.int j=>rt (.int (i+j))
 |_,_=>bad
def ÙC (x y:W):M W:=match x,y with
 | .int i,.int j=>rt (.int (i-j))
 |_,_=>bad
abbrev Mu:=List W→List W→Option (List W)
def ÅR:Mu:=λ xs ys=>match ys with
 | [y]=>if xs.length<sizeLine then some (xs++[y]) else none
 |_=>none
def ÞN:Mu:=λ xs ys=>match ys with
 | [.int i,y]=>if xs.length<sizeLine∧0≤i∧Fr.inR 9223372036854775807 i=true then some (xs.take i.toNat++[y]++xs.drop i.toNat) else none
 |_=>none
def ÞO:Mu:=λ xs ys=>match ys with
 | [.lst zs]=>if xs.length+zs.length≤sizeLine then some (xs++zs) else none
 |_=>none
def Û8:Mu:=λ xs ys=>match ys with
 | []=>some xs.reverse
 |_=>none
def ß7:Mu:=λ xs ys=>match ys with
 | []=>some []
 |_=>none
def muK (s:Sl) (i:Nat) (o:Option (List W)) (S:Dw):RS:=match o with
 |some xs=>.nx (s.set i (some (.lst xs))) S
 |none=>.bad
def Íc (i:Nat) (f:Mu) (a:Arg):Ì:=λ s S=>match Ég s i with
 |some xs=>â (a s S) s λ ys S'=>muK s i (f xs ys) S'
 |none=>.bad
def Û9 (xs:List W) (k v:W):Option (List W):=match k with
 | .int k=>match L2.ixN xs.length k with
  |some j=>some (xs.set j v)
  |none=>none
 |_=>none
def ÝW (i:Nat) (fi fe:Exp):Ì:=λ s S=>match Ég s i with
 |some xs=>â (bd (fe s) (λ v=>bd (fi s) λ k=>rt (k,v)) S) s λ kv S'=>muK s i (Û9 xs kv.1 kv.2) S'
 |none=>.bad
mutual
def flat:W→Bool
 | .non=>true
 | .bl _=>true
 | .int _=>true
 | .str _=>true
 | .tup xs=>flats xs
 | .gl _=>true
 | .ty _=>true
 |_=>false
def flats:List W→Bool
 | []=>true
 |x::xs=>flat x&&flats xs
end
def Ïy (f:Fn) (a:Arg):Exp:=λ s=>bd (a s) λ xs=>bd (f xs) λ w=>if flat w=true then rt w else bad
end Pu
namespace Pu
open PySem
mutual
inductive Vw (dA:Nat) (H:Nat→Prop) (S:Fr.Å):Fr.W→W→Prop
 |non:Vw dA H S .non .non
 |bl (b:Bool):Vw dA H S (.bl b) (.bl b)
 |int (i:Int):Vw dA H S (.int i) (.int i)
 |str (x:Str):Vw dA H S (.str x) (.str x)
 |gl (x:Str):Vw dA H S (.gl x) (.gl x)
 |ty (n:String):Vw dA H S (.ty n) (.ty n)
 |tup {ws:List Fr.W} {ds:List W} (h:Ó dA H S ws ds):Vw dA H S (.tup ws) (.tup ds)
 |dr:Vw dA H S (.ref dA) .dr
 |ref {k:Nat} {o:Fr.Ob} {d:W} (h:¬H k) (e:S[k]?=some o) (v:Vo dA H S o d):Vw dA H S (.ref k) d
inductive Vo (dA:Nat) (H:Nat→Prop) (S:Fr.Å):Fr.Ob→W→Prop
 |lst {ws:List Fr.W} {ds:List W} (h:Ó dA H S ws ds):Vo dA H S (.lst ws) (.lst ds)
 |dk {kws:List (L2.Key×Fr.W)} {Ċ:List (L2.Key×W)} (e:kws.map Prod.fst=Ċ.map Prod.fst) (h:Ó dA H S (kws.map Prod.snd) (Ċ.map Prod.snd)):Vo dA H S (.dK kws) (.dk Ċ)
 |dt {kws:List (NestedKey×Fr.W)} {Ċ:List (NestedKey×W)} (e:kws.map Prod.fst=Ċ.map Prod.fst) (h:Ó dA H S (kws.map Prod.snd) (Ċ.map Prod.snd)):Vo dA H S (.dN kws) (.dt Ċ)
 |ob {c:Str} {kws:List (Str×Fr.W)} {Ċ:List (Str×W)} (e:kws.map Prod.fst=Ċ.map Prod.fst) (h:Ó dA H S (kws.map Prod.snd) (Ċ.map Prod.snd)):Vo dA H S (.ins c kws) (.ob c Ċ)
inductive Ó (dA:Nat) (H:Nat→Prop) (S:Fr.Å):List Fr.W→List W→Prop
 |nil:Ó dA H S [] []
 |cons {w:Fr.W} {ws:List Fr.W} {d:W} {ds:List W} (a:Vw dA H S w d) (r:Ó dA H S ws ds):Ó dA H S (w::ws) (d::ds)
end
section
variable{dA:Nat}{H H':Nat→Prop}{S S':Fr.Å}{w:Fr.W}{ws:List Fr.W}{d:W}{ds:List W}{o:Fr.Ob}
mutual
theorem Vw.of (k:∀ x o,¬H x→S[x]?=some o→¬H' x∧S'[x]?=some o):∀ {w:Fr.W} {d:W},Vw dA H S w d→Vw dA H' S' w d
 |_,_,.non=>.non
 |_,_,.bl b=>.bl b
 |_,_,.int b=>.int b
 |_,_,.str b=>.str b
 |_,_,.gl b=>.gl b
 |_,_,.ty b=>.ty b
 |_,_,.tup h=>.tup (Ó.of k h)
 |_,_,.dr=>.dr
 |_,_,.ref h e v=>.ref (k _ _ h e).1 (k _ _ h e).2 (Vo.of k v)
theorem Vo.of (k:∀ x o,¬H x→S[x]?=some o→¬H' x∧S'[x]?=some o):∀ {o:Fr.Ob} {d:W},Vo dA H S o d→Vo dA H' S' o d
 |_,_,.lst h=>.lst (Ó.of k h)
 |_,_,.dk e h=>.dk e (Ó.of k h)
 |_,_,.dt e h=>.dt e (Ó.of k h)
 |_,_,.ob e h=>.ob e (Ó.of k h)
theorem Ó.of (k:∀ x o,¬H x→S[x]?=some o→¬H' x∧S'[x]?=some o):∀ {ws:List Fr.W} {ds:List W},Ó dA H S ws ds→Ó dA H' S' ws ds
 |_,_,.nil=>.nil
 |_,_,.cons a r=>.cons (Vw.of k a) (Ó.of k r)
end
theorem Vw.less (k:∀ x,H' x→H x) (v:Vw dA H S w d):Vw dA H' S w d:=v.of λ x o h e=>⟨λ q=>h (k x q),e⟩
theorem Ó.less (k:∀ x,H' x→H x) (v:Ó dA H S ws ds):Ó dA H' S ws ds:=v.of λ x o h e=>⟨λ q=>h (k x q),e⟩
theorem Vo.less (k:∀ x,H' x→H x) (v:Vo dA H S o d):Vo dA H' S o d:=v.of λ x o h e=>⟨λ q=>h (k x q),e⟩
mutual
theorem Vw.flat:∀ {w:Fr.W} {d:W},Vw dA H S w d→Pu.flat d=true→Vw dA H' S' w d
 |_,_,.non,_=>.non
 |_,_,.bl b,_=>.bl b
 |_,_,.int b,_=>.int b
 |_,_,.str b,_=>.str b
 |_,_,.gl b,_=>.gl b
 |_,_,.ty b,_=>.ty b
 |_,_,.tup h,f=>.tup (Ó.flat h (by unfold Pu.flat at f;exact f))
 |_,_,.dr,f=>by unfold Pu.flat at f;cases f
 |_,_,.ref h e v,f=>by cases v<;>(unfold Pu.flat at f;cases f)
theorem Ó.flat:∀ {ws:List Fr.W} {ds:List W},Ó dA H S ws ds→Pu.flats ds=true→Ó dA H' S' ws ds
 |_,_,.nil,_=>.nil
 |_,_,.cons a r,f=>.cons (Vw.flat a (by unfold Pu.flats at f;exact (Bool.and_eq_true_iff.mp f).1)) (Ó.flat r (by unfold Pu.flats at f;exact (Bool.and_eq_true_iff.mp f).2))
end
theorem Ó.length:∀ {ws:List Fr.W} {ds:List W},Ó dA H S ws ds→ws.length=ds.length
 |_,_,.nil=>rfl
 |_,_,.cons _ r=>by simp[r.length]
theorem Ó.append:∀ {ws ws':List Fr.W} {ds ds':List W},Ó dA H S ws ds→Ó dA H S ws' ds'→Ó dA H S (ws++ws') (ds++ds')
 |_,_,_,_,.nil,h=>h
 |_,_,_,_,.cons a r,h=>.cons a (r.append h)
theorem Ó.take:∀ {ws:List Fr.W} {ds:List W} (n:Nat),Ó dA H S ws ds→Ó dA H S (ws.take n) (ds.take n)
 |_,_,0,_=>by simpa using .nil
 |_,_,n+1,.nil=>by simpa using .nil
 |_,_,n+1,.cons a r=>.cons a (r.take n)
theorem Ó.drop:∀ {ws:List Fr.W} {ds:List W} (n:Nat),Ó dA H S ws ds→Ó dA H S (ws.drop n) (ds.drop n)
 |_,_,0,h=>by simpa using h
 |_,_,n+1,.nil=>by simpa using .nil
 |_,_,n+1,.cons a r=>by simpa using r.drop n
theorem Ó.get':∀ {ws:List Fr.W} {ds:List W} {i:Nat} {d:W},Ó dA H S ws ds→ds[i]?=some d→∃ w,ws[i]?=some w∧Vw dA H S w d
 |_,_,_,_,.nil,e=>by simp at e
 |_,_,0,_,.cons a r,e=>by simp at e;subst e;exact ⟨_,rfl,a⟩
 |_,_,i+1,_,.cons a r,e=>by
  obtain ⟨w,h1,h2⟩:=r.get' (i:=i) (by simpa using e)
  exact ⟨w,by simpa using h1,h2⟩
theorem Ó.set {w:Fr.W} {d:W} (a:Vw dA H S w d):∀ {ws:List Fr.W} {ds:List W} (n:Nat),Ó dA H S ws ds→Ó dA H S (ws.set n w) (ds.set n d)
 |_,_,_,.nil=>by simpa using .nil
 |_,_,0,.cons b r=>.cons a r
 |_,_,n+1,.cons b r=>.cons b (r.set a n)
theorem Ó.erase:∀ {ws:List Fr.W} {ds:List W} (n:Nat),Ó dA H S ws ds→Ó dA H S (ws.eraseIdx n) (ds.eraseIdx n)
 |_,_,_,.nil=>by simpa using .nil
 |_,_,0,.cons b r=>r
 |_,_,n+1,.cons b r=>.cons b (r.erase n)
theorem Ó.reverse:∀ {ws:List Fr.W} {ds:List W},Ó dA H S ws ds→Ó dA H S ws.reverse ds.reverse
 |_,_,.nil=>.nil
 |_,_,.cons a r=>by
  simp only[List.reverse_cons]
  exact r.reverse.append (.cons a .nil)
theorem Ó.dropLast (h:Ó dA H S ws ds):Ó dA H S ws.dropLast ds.dropLast:=by
 rw[List.dropLast_eq_take,List.dropLast_eq_take,h.length]
 exact h.take _
theorem Ó.zip:∀ {ws vs:List Fr.W} {ds es:List W},Ó dA H S ws ds→Ó dA H S vs es→Ó dA H S (List.zipWith (λ a b=>Fr.W.tup [a,b]) ws vs) (List.zipWith (λ a b=>W.tup [a,b]) ds es)
 |_,_,_,_,.nil,_=>.nil
 |_,_,_,_,.cons _ _,.nil=>.nil
 |_,_,_,_,.cons a r,.cons b q=>.cons (.tup (.cons a (.cons b .nil))) (r.zip q)
theorem Ó.repl (h:Ó dA H S ws ds):∀ n:Nat,Ó dA H S (List.replicate n ws).flatten (List.replicate n ds).flatten
 |0=>.nil
 |n+1=>by
  simp only[List.replicate_succ,List.flatten_cons]
  exact h.append (h.repl n)
theorem Ó.rng (lo:Int) (n:Nat):Ó dA H S (Fr.rng lo n) (Pu.rng lo n):=by
 unfold Fr.rng Pu.rng
 have key:∀ ks:List Nat,Ó dA H S (ks.map λ (k:Nat)=>Fr.W.int (lo+k)) (ks.map λ (k:Nat)=>W.int (lo+k)):=by
  intro ks
  induction ks with
  |nil=>exact .nil
  |cons k ks ih=>exact .cons (.int _) ih
 exact key _
theorem Ó.chars:∀ cs:List Nat,Ó dA H S (cs.map Fr.Æ5) (cs.map Pu.Æ5)
 | []=>.nil
 |c::cs=>.cons (.str _) (Ó.chars cs)
theorem Vw.int_inv {i:Int} (h:Vw dA H S w (.int i)):w=.int i:=by cases h with
 |int=>rfl
 |ref _ _ v=>cases v
theorem Vw.str_inv {i:Str} (h:Vw dA H S w (.str i)):w=.str i:=by cases h with
 |str=>rfl
 |ref _ _ v=>cases v
theorem Vw.Ïz {i:Bool} (h:Vw dA H S w (.bl i)):w=.bl i:=by cases h with
 |bl=>rfl
 |ref _ _ v=>cases v
theorem Vw.ÉZ (h:Vw dA H S w .non):w=.non:=by cases h with
 |non=>rfl
 |ref _ _ v=>cases v
theorem Vw.ß8 {n:String} (h:Vw dA H S w (.ty n)):w=.ty n:=by cases h with
 |ty=>rfl
 |ref _ _ v=>cases v
theorem Vw.ÇP (h:Vw dA H S w (.tup ds)):∃ ws,w=.tup ws∧Ó dA H S ws ds:=by cases h with
 |tup h=>exact ⟨_,rfl,h⟩
 |ref _ _ v=>cases v
theorem Vw.ß9 (h:Vw dA H S w .dr):w=.ref dA:=by cases h with
 |dr=>rfl
 |ref _ _ v=>cases v
theorem Vw.lst_inv (h:Vw dA H S w (.lst ds)):∃ k ws,w=.ref k∧¬H k∧S[k]?=some (.lst ws)∧Ó dA H S ws ds:=by cases h with
 |ref a e v=>cases v with
  |lst h=>exact ⟨_,_,rfl,a,e,h⟩
theorem Vw.lst {k:Nat} (a:¬H k) (e:S[k]?=some (.lst ws)) (h:Ó dA H S ws ds):Vw dA H S (.ref k) (.lst ds):=.ref a e (.lst h)
theorem Ó.nil_inv (h:Ó dA H S ws []):ws=[]:=by cases h;rfl
theorem Ó.cons_inv (h:Ó dA H S ws (d::ds)):∃ w r,ws=w::r∧Vw dA H S w d∧Ó dA H S r ds:=by cases h with
 |cons a r=>exact ⟨_,_,rfl,a,r⟩
theorem Ó.ÅS (h:Ó dA H S ws [d]):∃ w,ws=[w]∧Vw dA H S w d:=by
 obtain ⟨w,r,rfl,a,b⟩:=h.cons_inv
 rw[b.nil_inv]
 exact ⟨w,rfl,a⟩
theorem Ó.Ók {e:W} (h:Ó dA H S ws [d,e]):∃ w v,ws=[w,v]∧Vw dA H S w d∧Vw dA H S v e:=by
 obtain ⟨w,r,rfl,a,b⟩:=h.cons_inv
 obtain ⟨v,rfl,c⟩:=b.ÅS
 exact ⟨w,v,rfl,a,c⟩
mutual
theorem Vw.toP:∀ {w:Fr.W} {d:W},Vw dA H S w d→∀ {n:Nat} {x:PyData},Pu.toP n d=some x→Fr.toD S n w=some x
 |_,_,.non,0,_,e=>by cases e
 |_,_,.non,n+1,_,e=>e
 |_,_,.bl b,0,_,e=>by cases e
 |_,_,.bl b,n+1,_,e=>e
 |_,_,.int b,0,_,e=>by cases e
 |_,_,.int b,n+1,_,e=>e
 |_,_,.str b,0,_,e=>by cases e
 |_,_,.str b,n+1,_,e=>e
 |_,_,.gl b,0,_,e=>by cases e
 |_,_,.gl b,n+1,_,e=>e
 |_,_,.ty b,0,_,e=>by cases e
 |_,_,.ty b,n+1,_,e=>e
 |_,_,.dr,0,_,e=>by cases e
 |_,_,.dr,n+1,_,e=>by cases e
 |_,_,.tup h,0,_,e=>by cases e
 |_,_,.tup (ds:=ds) h,n+1,_,e=>by
  unfold Pu.toP at e
  unfold Fr.toD
  simp only at e ⊢
  cases hx:Pu.ÉY (Pu.toP n) ds with
  |none=>rw[hx] at e;cases e
  |some xs=>rw[hx] at e;rw[Ó.toP h hx];exact e
 |_,_,.ref _ _ _,0,_,e=>by cases e
 |_,_,.ref h q v,n+1,x,e=>by
  cases v with
  |lst hv=>
   rename_i ws ds
   unfold Pu.toP at e
   unfold Fr.toD
   simp only[q] at e ⊢
   cases hx:Pu.ÉY (Pu.toP n) ds with
   |none=>rw[hx] at e;cases e
   |some xs=>rw[hx] at e;rw[Ó.toP hv hx];exact e
  |_=>cases e
theorem Ó.toP:∀ {ws:List Fr.W} {ds:List W},Ó dA H S ws ds→∀ {n:Nat} {xs:List PyData},Pu.ÉY (Pu.toP n) ds=some xs→Fr.Âq (Fr.toD S n) ws=some xs
 |_,_,.nil,_,_,e=>e
 |_,_,.cons (d:=d) (ds:=ds) a r,n,xs,e=>by
  unfold Pu.ÉY at e
  unfold Fr.Âq
  cases h1:Pu.toP n d with
  |none=>rw[h1] at e;cases e
  |some x=>
   cases h2:Pu.ÉY (Pu.toP n) ds with
   |none=>rw[h1,h2] at e;cases e
   |some xs'=>
    rw[h1,h2] at e
    rw[Vw.toP a h1,Ó.toP r h2]
    exact e
end
end
end Pu
namespace Pu
open PySem
mutual
inductive Tb (S:Fr.Å):Fr.W→List Nat→Prop
 |mk {a:Nat} {ws:List Fr.W} {A:List Nat} (e:S[a]?=some (.lst ws)) (r:Rw S ws A):Tb S (.ref a) (a::A)
inductive Rw (S:Fr.Å):List Fr.W→List Nat→Prop
 |nil:Rw S [] []
 |cons {c u:Fr.W} {ws:List Fr.W} {A B:List Nat} (t:Tb S u A) (r:Rw S ws B):Rw S (.tup [c,u]::ws) (A++B)
end
section
variable{S S':Fr.Å}{P P':Nat→Prop}{dA:Nat}{w:Fr.W}{d:W}
mutual
theorem Tb.of:∀ {w:Fr.W} {A:List Nat},(∀x∈A,∀o,S[x]?=some o→S'[x]?=some o)→Tb S w A→Tb S' w A
 |_,_,k,.mk e r=>.mk (k _ (by simp) _ e) (r.of λ x hx=>k x (by simp[hx]))
theorem Rw.of:∀ {ws:List Fr.W} {A:List Nat},(∀x∈A,∀o,S[x]?=some o→S'[x]?=some o)→Rw S ws A→Rw S' ws A
 |_,_,_,.nil=>.nil
 |_,_,k,.cons t r=>.cons (t.of λ x hx=>k x (by simp[hx])) (r.of λ x hx=>k x (by simp[hx]))
end
theorem Rw.append:∀ {ws vs:List Fr.W} {A B:List Nat},Rw S ws A→Rw S vs B→Rw S (ws++vs) (A++B)
 |_,_,_,_,.nil,h=>h
 |_,_,_,_,.cons t r,h=>by
  rw[List.append_assoc]
  exact .cons t (r.append h)
def ÝX:Nat→W→Bool
 |0,_=>false
 |j+1,.lst rows=>rows.all λ x=>match x with
  | .tup [.tup _,u]=>ÝX j u
  |_=>false
 |_+1,_=>false
def ÝY (d:W):Prop:=∃ j,ÝX j d=true
def Tre (S:Fr.Å) (P:Nat→Prop) (w:Fr.W) (d:W):Prop:=ÝY d→∃ A,Tb S w A∧A.Nodup∧∀ a∈A,P a
theorem Üa (h:ÝY d):∃ rows,d=.lst rows:=by
 obtain ⟨j,h⟩:=h
 cases j with
 |zero=>cases h
 |succ j=>cases d<;>first|exact ⟨_,rfl⟩|cases h
theorem Tre.no (h:∀ rows,d≠.lst rows):Tre S P w d:=λ q=>by
 obtain ⟨rows,e⟩:=Üa q
 exact (h rows e).elim
theorem Tre.of (k:∀ x o,P x→S[x]?=some o→P' x∧S'[x]?=some o) (h:Tre S P w d):Tre S' P' w d:=λ q=>by
 obtain ⟨A,h1,h2,h3⟩:=h q
 have dom:∀ {w:Fr.W} {A:List Nat},Tb S w A→∀ a∈A,∃o,S[a]?=some o:=by
  intro w A t
  refine Tb.rec (motive_1:=λ w A _=>∀ a∈A,∃o,S[a]?=some o) (motive_2:=λ ws A _=>∀ a∈A,∃o,S[a]?=some o) ?_ ?_ ?_ t
  ·intro a ws A e r ih x hx
   rcases List.mem_cons.mp hx with rfl|hx
   ·exact ⟨_,e⟩
   ·exact ih x hx
  ·intro x hx;cases hx
  ·intro c u ws A B t r i1 i2 x hx
   rcases List.mem_append.mp hx with hx|hx
   ·exact i1 x hx
   ·exact i2 x hx
 exact ⟨A,h1.of λ x hx o ho=>(k x o (h3 x hx) ho).2,h2,λ a ha=>by
  obtain ⟨o,ho⟩:=dom h1 a ha
  exact (k a o (h3 a ha) ho).1⟩
def TrR (S:Fr.Å) (P:Nat→Prop) (w:Fr.W) (d:W):Prop:=Tre S P w d∧∀ x u y v,d=.tup [x,u]→w=.tup [y,v]→Tre S P v u
theorem TrR.no (h:∀ rows,d≠.lst rows) (h2:∀ x rows,d≠.tup [x,.lst rows]:=by intro _ _ q;cases q):TrR S P w d:=⟨Tre.no h,λ x u y v e _=>Tre.no λ rows q=>h2 x rows (by rw[e,q])⟩
theorem TrR.of (k:∀ x o,P x→S[x]?=some o→P' x∧S'[x]?=some o) (h:TrR S P w d):TrR S' P' w d:=⟨h.1.of k,λ x u y v e e2=>(h.2 x u y v e e2).of k⟩
theorem Tre.ref {a:Nat} (h:Tre S P (.ref a) d):TrR S P (.ref a) d:=⟨h,λ _ _ _ _ _ q=>nomatch q⟩
theorem TrR.nil {a:Nat} (h1:S[a]?=some (.lst [])) (h:P a):TrR S P (.ref a) d:=Tre.ref λ _=>⟨[a],.mk h1 .nil,by simp,λ x hx=>by rw[List.mem_singleton.mp hx];exact h⟩
def Dp (dA:Nat) (P:Nat→Prop) (S:Fr.Å) (w:Fr.W) (d:W):Prop:=Vw dA (λ x=>¬P x) S w d∧TrR S P w d
theorem Dp.of (k:∀ x o,¬(λ x=>¬P x) x→S[x]?=some o→¬(λ x=>¬P' x) x∧S'[x]?=some o) (h:Dp dA P S w d):Dp dA P' S' w d:=
 ⟨h.1.of k,h.2.of λ x o hx ho=>⟨Classical.byContradiction (k x o (λ q=>q hx) ho).1,(k x o (λ q=>q hx) ho).2⟩⟩
theorem Dp.less (k:∀ x,(λ x=>¬P' x) x→(λ x=>¬P x) x) (h:Dp dA P S w d):Dp dA P' S w d:=h.of λ x o hx ho=>⟨λ q=>hx (k x q),ho⟩
end
end Pu
namespace Pu
open PySem
structure Fm where
 dA:Nat
 S0:Fr.Å
 H0:Nat→Prop
def Œ (md:List Nat) (i:Nat):Nat:=(md[i]?).getD 0
structure Rl (md:List Nat) (F:Fm) (H:Nat→Prop) (R:Nat→Nat→Prop) (p:Sl) (dw:Dw) (s:Fr.Sl) (S:Fr.Å):Prop where
 len:s.length=p.length
 dr:S[F.dA]?=some (Fr.oI dw)
 hd:F.H0 F.dA
 val:∀ i d,Œ md i=0→p[i]?=some (some d)→∃ w,s[i]?=some (some w)∧Vw F.dA H S w d
 own:∀ i d,Œ md i=1→p[i]?=some (some d)→d≠.non→∃ a o,s[i]?=some (some (.ref a))∧S[a]?=some o∧R i a∧Vo F.dA H S o d
 ÀC:∀ i,Œ md i=1→p[i]?=some (some .non)→s[i]?=some (some .non)
 deep:∀ i d,Œ md i=2→p[i]?=some (some d)→∃ w,s[i]?=some (some w)∧Dp F.dA (R i) S w d
 rh:∀ i x,R i x→H x∧x≠F.dA∧F.S0.length≤x
 rd:∀ i j x,R i x→R j x→i=j
 hb:∀ x,H x→x<S.length
 h0:∀ x,F.H0 x→H x
 hn:∀ x,H x→F.H0 x∨F.S0.length≤x
 b0:∀ x,F.H0 x→x<F.S0.length
 fr:∀ x,x<F.S0.length→x≠F.dA→S[x]?=F.S0[x]?
 le:F.S0.length≤S.length
 md2:∀ i,Œ md i=0∨Œ md i=1∨Œ md i=2
structure Kd (dA:Nat) (S S':Fr.Å):Prop where
 le:S.length≤S'.length
 old:∀ x,x<S.length→x≠dA→S'[x]?=S[x]?
def Vx (F:Fm) (S:Fr.Å) (y:Option (List (Str×Fr.W))) (x:Option (List (Str×W))):Prop:=match y,x with
 |none,none=>True
 |some fs,some gs=>fs.map Prod.fst=gs.map Prod.fst∧Ó F.dA F.H0 S (fs.map Prod.snd) (gs.map Prod.snd)
 |_,_=>False
def RM {α β:Type} (F:Fm) (C:α→β→Fr.Å→Prop) (S:Fr.Å) (r:Fr.Rs α) (q:Rs β):Prop:=match q with
 | .ok d dw=>∃ w S',r=.ok w S'∧Kd F.dA S S'∧S'[F.dA]?=some (Fr.oI dw)∧C w d S'
 | .ex c x dw=>∃ y S',r=.ex c y S'∧Kd F.dA S S'∧S'[F.dA]?=some (Fr.oI dw)∧Vx F S' y x
 | .bad=>True
abbrev Cl (α β:Type):=Fm→(Nat→Prop)→Fr.Å→α→β→Fr.Å→Prop
def PX {α β:Type} (C:Cl α β) (md:List Nat) (e:Fr.Sl→Fr.M α) (q:Sl→M β):Prop:=
 ∀F H R p dw s S,Rl md F H R p dw s S→RM F (C F H S) S (e s S) (q p dw)
def cC:Cl Fr.W W:=λ F H _ w d S'=>Vw F.dA H S' w d
def cT:Cl Fr.W W:=λ F _ _ w d S'=>Vw F.dA F.H0 S' w d
def Fsh (dA:Nat) (H:Nat→Prop) (n:Nat) (S:Fr.Å) (w:Fr.W) (d:W):Prop:=∃ a o,w=.ref a∧n≤a∧S[a]?=some o∧Vo dA (λ x=>H x∨x=a) S o d
def isL:W→Bool
 | .lst _=>true
 | .dk _=>true
 | .dt _=>true
 | .ob _ _=>true
 |_=>false
def cO:Cl Fr.W W:=λ F H S w d S'=>Vw F.dA H S' w d∧(isL d=true→Fsh F.dA H S.length S' w d)
def Sm (dA:Nat) (H:Nat→Prop) (S:Fr.Å) (w:Fr.W) (d:W):Prop:=Vw dA H S w d∨∃ a o,w=.ref a∧a≠dA∧S[a]?=some o∧Vo dA H S o d
def cS:Cl Fr.W W:=λ F H _ w d S'=>Sm F.dA H S' w d
def cB:Cl Bool Bool:=λ _ _ _ a b _=>a=b
def cI:Cl (Option Int) (Option Int):=λ _ _ _ a b _=>a=b
def cCs:Cl (List Fr.W) (List W):=λ F H _ w d S'=>Ó F.dA H S' w d
def cTs:Cl (List Fr.W) (List W):=λ F _ _ w d S'=>Ó F.dA F.H0 S' w d
inductive Sms (dA:Nat) (H:Nat→Prop) (S:Fr.Å):List Fr.W→List W→Prop
 |nil:Sms dA H S [] []
 |cons {w:Fr.W} {ws:List Fr.W} {d:W} {ds:List W} (a:Sm dA H S w d) (r:Sms dA H S ws ds):Sms dA H S (w::ws) (d::ds)
def cSs:Cl (List Fr.W) (List W):=λ F H _ w d S'=>Sms F.dA H S' w d
section
variable{md:List Nat}{F:Fm}{H:Nat→Prop}{R:Nat→Nat→Prop}{p:Sl}{dw ĥ:Dw}{s:Fr.Sl}{S S' S1:Fr.Å}{w:Fr.W}{ws:List Fr.W}{d:W}{ds:List W}{o:Fr.Ob}{dA:Nat}
theorem Kd.refl:Kd dA S S:=⟨Nat.le_refl _,λ _ _ _=>rfl⟩
theorem Kd.trans (a:Kd dA S S1) (b:Kd dA S1 S'):Kd dA S S':=⟨Nat.le_trans a.le b.le,λ x h e=>(b.old x (Nat.lt_of_lt_of_le h a.le) e).trans (a.old x h e)⟩
theorem Kd.app (r:Fr.Å):Kd dA S (S++r):=⟨by simp,λ x h _=>List.getElem?_append_left h⟩
theorem Kd.get (a:Kd dA S S') {x:Nat} (n:x≠dA) (e:S[x]?=some o):S'[x]?=some o:=by rw[a.old x (List.getElem?_eq_some_iff.mp e).1 n];exact e
theorem Vw.kd (k:Kd dA S S') (hd:H dA) (v:Vw dA H S w d):Vw dA H S' w d:=v.of λ x o h e=>⟨h,k.get (λ q=>h (q▸hd)) e⟩
theorem Dp.kd {P:Nat→Prop} (k:Kd dA S S') (hd:¬P dA) (v:Dp dA P S w d):Dp dA P S' w d:=v.of λ x o h e=>⟨h,k.get (λ q=>h λ t=>hd (q▸t)) e⟩
theorem Ó.kd (k:Kd dA S S') (hd:H dA) (v:Ó dA H S ws ds):Ó dA H S' ws ds:=v.of λ x o h e=>⟨h,k.get (λ q=>h (q▸hd)) e⟩
theorem Vo.kd (k:Kd dA S S') (hd:H dA) (v:Vo dA H S o d):Vo dA H S' o d:=v.of λ x o h e=>⟨h,k.get (λ q=>h (q▸hd)) e⟩
theorem Sm.kd (k:Kd dA S S') (hd:H dA) (v:Sm dA H S w d):Sm dA H S' w d:=by
 rcases v with v |⟨a,o,h1,h2,h3,h4⟩
 ·exact .inl (v.kd k hd)
 ·exact .inr ⟨a,o,h1,h2,k.get h2 h3,h4.kd k hd⟩
theorem Sms.kd (k:Kd dA S S') (hd:H dA) (v:Sms dA H S ws ds):Sms dA H S' ws ds:=by
 induction v with
 |nil=>exact .nil
 |cons a _ ih=>exact .cons (a.kd k hd) ih
theorem Rl.hdA (r:Rl md F H R p dw s S):H F.dA:=r.h0 _ r.hd
theorem Rl.kd (r:Rl md F H R p dw s S) (k:Kd F.dA S S') (e:S'[F.dA]?=some (Fr.oI ĥ)):Rl md F H R p ĥ s S' where
 len:=r.len
 dr:=e
 hd:=r.hd
 val i d h1 h2:=let ⟨w,h3,h4⟩:=r.val i d h1 h2;⟨w,h3,h4.kd k r.hdA⟩
 own i d h1 h2 z:=let ⟨a,o,h3,h4,h5,h6⟩:=r.own i d h1 h2 z;⟨a,o,h3,k.get (r.rh i a h5).2.1 h4,h5,h6.kd k r.hdA⟩
 ÀC:=r.ÀC
 deep i d h1 h2:=let ⟨w,h3,h4⟩:=r.deep i d h1 h2;⟨w,h3,Dp.kd k (λ q=>(r.rh i _ q).2.1 rfl) h4⟩
 rh:=r.rh
 rd:=r.rd
 hb x h:=Nat.lt_of_lt_of_le (r.hb x h) k.le
 h0:=r.h0
 hn:=r.hn
 b0:=r.b0
 fr x h1 h2:=(k.old x (Nat.lt_of_lt_of_le h1 r.le) h2).trans (r.fr x h1 h2)
 le:=Nat.le_trans r.le k.le
 md2:=r.md2
theorem RM.bd {α β γ δ:Type} {C1:α→β→Fr.Å→Prop} {C2:γ→δ→Fr.Å→Prop} {f:Fr.M α} {g:M β} {k:α→Fr.M γ} {k':β→M δ} (h:RM F C1 S (f S) (g dw))
  (n:∀ w d S' ĥ,Kd F.dA S S'→S'[F.dA]?=some (Fr.oI ĥ)→C1 w d S'→RM F C2 S' (k w S') (k' d ĥ)):RM F C2 S (Fr.bd f k S) (Pu.bd g k' dw):=by
 unfold Pu.bd
 cases hg:g dw with
 |ok d õ=>
  rw[hg] at h
  obtain ⟨w,S1,e1,k1,r1,c1⟩:=h
  have h2:=n w d S1 õ k1 r1 c1
  have e2:Fr.bd f k S=k w S1:=by unfold Fr.bd;rw[e1]
  rw[e2]
  show RM F C2 S (k w S1) (k' d õ)
  cases hk:k' d õ with
  |ok d2 dw2=>
   rw[hk] at h2
   obtain ⟨w2,S2,a1,a2,a3,a4⟩:=h2
   exact ⟨w2,S2,a1,k1.trans a2,a3,a4⟩
  |ex c x dw2=>
   rw[hk] at h2
   obtain ⟨w2,S2,a1,a2,a3,a4⟩:=h2
   exact ⟨w2,S2,a1,k1.trans a2,a3,a4⟩
  |bad=>trivial
 |ex c x õ=>
  rw[hg] at h
  obtain ⟨y,S1,e1,k1,r1,c1⟩:=h
  exact ⟨y,S1,by unfold Fr.bd;rw[e1],k1,r1,c1⟩
 |bad=>trivial
theorem RM.imp {α β:Type} {C1 C2:α→β→Fr.Å→Prop} {r:Fr.Rs α} {q:Rs β} (h:RM F C1 S r q) (n:∀ w d S',Kd F.dA S S'→C1 w d S'→C2 w d S'):RM F C2 S r q:=by
 cases q with
 |ok d õ=>obtain ⟨w,S1,a1,a2,a3,a4⟩:=h;exact ⟨w,S1,a1,a2,a3,n _ _ _ a2 a4⟩
 |ex c x õ=>exact h
 |bad=>trivial
theorem RM.rt {α β:Type} {C:α→β→Fr.Å→Prop} {w:α} {d:β} (e:S[F.dA]?=some (Fr.oI dw)) (h:C w d S):RM F C S (.ok w S) (.ok d dw):=⟨w,S,rfl,.refl,e,h⟩
theorem RM.new {α β:Type} {C:α→β→Fr.Å→Prop} {w:α} {d:β} {r:Fr.Å} (e:S[F.dA]?=some (Fr.oI dw)) (h:C w d (S++r)):RM F C S (.ok w (S++r)) (.ok d dw):=⟨w,S++r,rfl,.app r,by rw[List.getElem?_append_left (List.getElem?_eq_some_iff.mp e).1];exact e,h⟩
end
section
variable{md:List Nat}{e:Fr.Exp}{q:Exp}
theorem PX.imp {α β:Type} {C1 C2:Cl α β} {e:Fr.Sl→Fr.M α} {q:Sl→M β} (h:PX C1 md e q) (n:∀ F H R p dw s S w d S',Rl md F H R p dw s S→Kd F.dA S S'→C1 F H S w d S'→C2 F H S w d S'):PX C2 md e q:=
 λ F H R p dw s S r=>(h F H R p dw s S r).imp λ w d S' k c=>n F H R p dw s S w d S' r k c
theorem PX.Às (h:PX cC md e q):PX cT md e q:=h.imp λ _ _ _ _ _ _ _ _ _ _ r _ c=>c.less r.h0
theorem PX.ë (h:PX cC md e q):PX cS md e q:=h.imp λ _ _ _ _ _ _ _ _ _ _ r _ c=>.inl c
theorem PX.ì (h:PX cO md e q):PX cC md e q:=h.imp λ _ _ _ _ _ _ _ _ _ _ r _ c=>c.1
theorem PX.Ï (h:PX cO md e q):PX cT md e q:=h.ì.Às
theorem PX.Ça (h:PX cO md e q):PX cS md e q:=h.ì.ë
end
section
variable{md:List Nat}
theorem È {i:Nat} (m:Œ md i=0):PX cC md (Fr.À i) (À i):=by
 intro F H R p dw s S r
 unfold À
 split
 ·rename_i d e
  obtain ⟨w,h1,h2⟩:=r.val i d m e
  exact ⟨w,S,by unfold Fr.À;simp only[h1],.refl,r.dr,h2⟩
 ·trivial
theorem Õ {i:Nat}:PX cT md (Fr.À i) (À i):=by
 intro F H R p dw s S r
 unfold À
 split
 ·rename_i d e
  rcases r.md2 i with m|m|m
  ·obtain ⟨w,h1,h2⟩:=r.val i d m e
   exact ⟨w,S,by unfold Fr.À;simp only[h1],.refl,r.dr,h2.less r.h0⟩
  ·by_cases z:d=.non
   ·subst z
    exact ⟨.non,S,by unfold Fr.À;simp only[r.ÀC i m e],.refl,r.dr,.non⟩
   obtain ⟨a,o,h1,h2,h3,h4⟩:=r.own i d m e z
   refine ⟨.ref a,S,by unfold Fr.À;simp only[h1],.refl,r.dr,.ref (λ q=>?_) h2 (h4.less r.h0)⟩
   have:=r.b0 _ q
   have:=(r.rh i a h3).2.2
   omega
  ·obtain ⟨w,h1,h2⟩:=r.deep i d m e
   refine ⟨w,S,by unfold Fr.À;simp only[h1],.refl,r.dr,h2.1.less λ x q t=>?_⟩
   have:=r.b0 _ q
   have:=(r.rh i x t).2.2
   omega
 ·trivial
theorem àa {i:Nat} (m:Œ md i=1):PX cS md (Fr.À i) (À i):=by
 intro F H R p dw s S r
 unfold À
 split
 ·rename_i d e
  by_cases z:d=.non
  ·subst z
   exact ⟨.non,S,by unfold Fr.À;simp only[r.ÀC i m e],.refl,r.dr,.inl .non⟩
  obtain ⟨a,o,h1,h2,h3,h4⟩:=r.own i d m e z
  exact ⟨.ref a,S,by unfold Fr.À;simp only[h1],.refl,r.dr,.inr ⟨a,o,rfl,(r.rh i a h3).2.1,h2,h4⟩⟩
 ·trivial
theorem r_c {w:Fr.W} {d:W} (h:∀ dA H S,Vw dA H S w d) (f:flat d=true):PX cO md (Fr.eC w) (eC d):=by
 intro F H R p dw s S r
 exact .rt r.dr ⟨h _ _ _,λ q=>by cases d<;>simp_all[isL,flat]⟩
theorem ù {i:Int}:PX cO md (Fr.eC (.int i)) (eC (.int i)):=r_c (λ _ _ _=>.int i) rfl
theorem Ãi {i:Str}:PX cO md (Fr.eC (.str i)) (eC (.str i)):=r_c (λ _ _ _=>.str i) rfl
theorem Á4 {i:Bool}:PX cO md (Fr.eC (.bl i)) (eC (.bl i)):=r_c (λ _ _ _=>.bl i) rfl
theorem ÃX:PX cO md (Fr.eC .non) (eC .non):=r_c (λ _ _ _=>.non) rfl
theorem Ê7 {i:String}:PX cO md (Fr.eC (.ty i)) (eC (.ty i)):=r_c (λ _ _ _=>.ty i) rfl
def RO {β:Type} (r:Rs β) (P:β→Dw→Prop):Prop:=match r with
 | .ok d dw=>P d dw
 | .ex _ _ _=>False
 | .bad=>True
def OT (o:Fr.W→Fr.W→Fr.M Fr.W) (q:W→W→M W):Prop:=∀ dA H S x y d e dw,Vw dA H S x d→Vw dA H S y e→RO (q d e dw) λ r ĥ=>ĥ=dw∧flat r=true∧∃ w,o x y S=.ok w S∧Vw dA H S w r
def OTs (o:List Fr.W→Fr.M Fr.W) (q:List W→M W):Prop:=∀ dA H S x d dw,Ó dA H S x d→RO (q d dw) λ r ĥ=>ĥ=dw∧flat r=true∧∃ w,o x S=.ok w S∧Vw dA H S w r
def OSo (dA:Nat) (H:Nat→Prop) (S:Fr.Å) (r:Fr.Rs Fr.W) (d:W):Prop:=∃ w S' t,r=.ok w S'∧S'=S++t∧Vw dA H S' w d∧(isL d=true→Fsh dA H S.length S' w d)
def OS (o:Fr.W→Fr.W→Fr.M Fr.W) (q:W→W→M W):Prop:=∀ dA H S x y d e dw,(∀x,H x→x<S.length)→Sm dA H S x d→Sm dA H S y e→RO (q d e dw) λ r ĥ=>ĥ=dw∧OSo dA H S (o x y S) r
def OSs (o:List Fr.W→Fr.M Fr.W) (q:List W→M W):Prop:=∀ dA H S x d dw,(∀x,H x→x<S.length)→Sms dA H S x d→RO (q d dw) λ r ĥ=>ĥ=dw∧OSo dA H S (o x S) r
theorem Õg {d:W} (f:flat d=true) (h:isL d=true):False:=by cases d<;>simp_all[isL,flat]
theorem RM.ofT {F:Fm} {H:Nat→Prop} {S S0:Fr.Å} {r:Fr.Rs Fr.W} {q:Rs W} {dw:Dw} {H':Nat→Prop} (e:S[F.dA]?=some (Fr.oI dw)) (h:RO q λ d ĥ=>ĥ=dw∧flat d=true∧∃ w,r=.ok w S∧Vw F.dA H' S w d):RM F (cO F H S0) S r q:=by
 cases q with
 |ok d õ=>
  obtain ⟨rfl,f,w,h1,h2⟩:=h
  exact ⟨w,S,h1,.refl,e,h2.flat f,λ q=>(Õg f q).elim⟩
 |ex c x õ=>exact h.elim
 |bad=>trivial
theorem RM.ofS {F:Fm} {H:Nat→Prop} {S S0:Fr.Å} {r:Fr.Rs Fr.W} {q:Rs W} {dw:Dw} (le:S0.length≤S.length) (e:S[F.dA]?=some (Fr.oI dw)) (h:RO q λ d ĥ=>ĥ=dw∧OSo F.dA H S r d):RM F (cO F H S0) S r q:=by
 cases q with
 |ok d õ=>
  obtain ⟨rfl,w,S',t,h1,rfl,h2,h3⟩:=h
  refine ⟨w,_,h1,.app t,?_,h2,λ q=>?_⟩
  ·rw[List.getElem?_append_left (List.getElem?_eq_some_iff.mp e).1];exact e
  ·obtain ⟨a,o,b1,b2,b3,b4⟩:=h3 q
   exact ⟨a,o,b1,Nat.le_trans le b2,b3,b4⟩
 |ex c x õ=>exact h.elim
 |bad=>trivial
theorem ħ {o:Fr.W→Fr.W→Fr.M Fr.W} {o':W→W→M W} {a b:Fr.Exp} {a' b':Exp} (ho:OT o o') (ha:PX cT md a a') (hb:PX cT md b b'):PX cO md (Fr.É o a b) (É o' a' b'):=by
 intro F H R p dw s S r
 refine RM.bd (ha _ _ _ _ _ _ _ r) λ x dx S1 õ k1 e1 c1=>?_
 have r1:=r.kd k1 e1
 refine RM.bd (hb _ _ _ _ _ _ _ r1) λ y dy S2 dw2 k2 e2 c2=>?_
 exact RM.ofT e2 (ho _ _ _ _ _ _ _ _ (c1.kd k2 r.hd) c2)
theorem Æm {o:Fr.W→Fr.W→Fr.M Fr.W} {o':W→W→M W} {a b:Fr.Exp} {a' b':Exp} (ho:OS o o') (ha:PX cS md a a') (hb:PX cS md b b'):PX cO md (Fr.É o a b) (É o' a' b'):=by
 intro F H R p dw s S r
 refine RM.bd (ha _ _ _ _ _ _ _ r) λ x dx S1 õ k1 e1 c1=>?_
 have r1:=r.kd k1 e1
 refine RM.bd (hb _ _ _ _ _ _ _ r1) λ y dy S2 dw2 k2 e2 c2=>?_
 have r2:=r1.kd k2 e2
 exact RM.ofS (k1.trans k2).le e2 (ho _ _ _ _ _ _ _ _ r2.hb (c1.kd k2 r.hdA) c2)
theorem ÏA {C:Cl (List Fr.W) (List W)} (h:∀ F H S S',C F H S [] [] S'):PX C md Fr.Ä Ä:=λ F H R p dw s S r=>.rt r.dr (h _ _ _ _)
theorem ċ:PX cCs md Fr.Ä Ä:=ÏA λ _ _ _ _=>.nil
theorem Ę:PX cTs md Fr.Ä Ä:=ÏA λ _ _ _ _=>.nil
theorem Õh:PX cSs md Fr.Ä Ä:=ÏA λ _ _ _ _=>.nil
theorem Ø {a:Fr.Exp} {b:Fr.Arg} {a':Exp} {b':Arg} (ha:PX cC md a a') (hb:PX cCs md b b'):PX cCs md (Fr.Á a b) (Á a' b'):=by
 intro F H R p dw s S r
 refine RM.bd (ha _ _ _ _ _ _ _ r) λ x dx S1 õ k1 e1 c1=>?_
 refine RM.bd (hb _ _ _ _ _ _ _ (r.kd k1 e1)) λ y dy S2 dw2 k2 e2 c2=>?_
 exact .rt e2 (.cons (c1.kd k2 r.hdA) c2)
theorem í {a:Fr.Exp} {b:Fr.Arg} {a':Exp} {b':Arg} (ha:PX cT md a a') (hb:PX cTs md b b'):PX cTs md (Fr.Á a b) (Á a' b'):=by
 intro F H R p dw s S r
 refine RM.bd (ha _ _ _ _ _ _ _ r) λ x dx S1 õ k1 e1 c1=>?_
 refine RM.bd (hb _ _ _ _ _ _ _ (r.kd k1 e1)) λ y dy S2 dw2 k2 e2 c2=>?_
 exact .rt e2 (.cons (c1.kd k2 r.hd) c2)
theorem Ól {a:Fr.Exp} {b:Fr.Arg} {a':Exp} {b':Arg} (ha:PX cS md a a') (hb:PX cSs md b b'):PX cSs md (Fr.Á a b) (Á a' b'):=by
 intro F H R p dw s S r
 refine RM.bd (ha _ _ _ _ _ _ _ r) λ x dx S1 õ k1 e1 c1=>?_
 refine RM.bd (hb _ _ _ _ _ _ _ (r.kd k1 e1)) λ y dy S2 dw2 k2 e2 c2=>?_
 exact .rt e2 (.cons (c1.kd k2 r.hdA) c2)
theorem r_b {o:List Fr.W→Fr.M Fr.W} {o':List W→M W} {a:Fr.Arg} {a':Arg} (ho:OTs o o') (ha:PX cTs md a a'):PX cO md (Fr.eB o a) (eB o' a'):=by
 intro F H R p dw s S r
 refine RM.bd (ha _ _ _ _ _ _ _ r) λ x dx S1 õ k1 e1 c1=>?_
 exact RM.ofT e1 (ho _ _ _ _ _ _ c1)
theorem Üb {o:List Fr.W→Fr.M Fr.W} {o':List W→M W} {a:Fr.Arg} {a':Arg} (ho:OSs o o') (ha:PX cSs md a a'):PX cO md (Fr.eB o a) (eB o' a'):=by
 intro F H R p dw s S r
 refine RM.bd (ha _ _ _ _ _ _ _ r) λ x dx S1 õ k1 e1 c1=>?_
 exact RM.ofS k1.le e1 (ho _ _ _ _ _ _ (r.kd k1 e1).hb c1)
theorem ÃG {a:Fr.Arg} {a':Arg} (ha:PX cCs md a a'):PX cO md (Fr.ô a) (ô a'):=by
 intro F H R p dw s S r
 refine RM.bd (ha _ _ _ _ _ _ _ r) λ x dx S1 õ k1 e1 c1=>?_
 have hl:=c1.length
 by_cases g:dx.length≤sizeLine
 ·rw[if_pos g,if_pos (hl▸g)]
  exact .rt e1 ⟨.tup c1,λ q=>by simp[isL] at q⟩
 ·rw[if_neg g];trivial
theorem ØD {dA:Nat} {H:Nat→Prop} {S:Fr.Å} {o:Fr.Ob} {d:W} (n:Nat) (hn:n≤S.length) (v:Vo dA H S o d):Fsh dA H n (S++[o]) (.ref S.length) d:=
 ⟨S.length,o,rfl,hn,by simp,v.of λ x o' h e=>⟨λ q=>by
  rcases q with q|q
  ·exact h q
  ·subst q;have:=(List.getElem?_eq_some_iff.mp e).1;omega,by rw[List.getElem?_append_left (List.getElem?_eq_some_iff.mp e).1];exact e⟩⟩
theorem Fsh.vw {dA n:Nat} {H:Nat→Prop} {S:Fr.Å} {w:Fr.W} {d:W} (hb:∀ x,H x→x<n) (h:Fsh dA H n S w d):Vw dA H S w d:=by
 obtain ⟨a,o,rfl,h1,h2,h3⟩:=h
 exact .ref (λ q=>by have:=hb _ q;omega) h2 (h3.less λ x q=>.inl q)
theorem cO.new {F:Fm} {H:Nat→Prop} {S S1:Fr.Å} {o:Fr.Ob} {d:W} (hb:∀ x,H x→x<S.length) (hn:S.length≤S1.length) (v:Vo F.dA H S1 o d):cO F H S (.ref S1.length) d (S1++[o]):=
 have f:=ØD S.length hn v
 ⟨f.vw hb,λ _=>f⟩
theorem ÇQ {a:Fr.Arg} {a':Arg} (ha:PX cCs md a a'):PX cO md (Fr.ĩ a) (ĩ a'):=by
 intro F H R p dw s S r
 refine RM.bd (ha _ _ _ _ _ _ _ r) λ x dx S1 õ k1 e1 c1=>?_
 have hl:=c1.length
 by_cases g:dx.length≤sizeLine
 ·rw[if_pos g,if_pos (hl▸g)]
  exact .new e1 (cO.new r.hb k1.le (.lst c1))
 ·rw[if_neg g];trivial
theorem àd {F:Fm} {C:Fr.W→W→Fr.Å→Prop} {S:Fr.Å} {w:Fr.W} {d:W} {dw:Dw} {k:Bool→Fr.M Fr.W} {k':Bool→M W} {H:Nat→Prop} (c:Vw F.dA H S w d) (h:∀ b,RM F C S (k b S) (k' b dw)):RM F C S (Fr.boK k w S) (boK k' d dw):=by
 unfold boK
 split
 ·rename_i b
  cases c.Ïz
  exact h b
 ·trivial
theorem Ðv {a b:Fr.Exp} {a' b':Exp} (ha:PX cT md a a') (hb:PX cO md b b'):PX cO md (Fr.Ãn a b) (Ãn a' b'):=by
 intro F H R p dw s S r
 rw[Fr.Âf]
 refine RM.bd (ha _ _ _ _ _ _ _ r) λ x dx S1 õ k1 e1 c1=>àd c1 λ k=>?_
 cases k
 ·exact .rt e1 ⟨.bl _,λ q=>by simp[isL] at q⟩
 ·exact (hb _ _ _ _ _ _ _ (r.kd k1 e1)).imp λ w d S' k c=>⟨c.1,λ q=>let ⟨a,o,b1,b2,b3,b4⟩:=c.2 q;⟨a,o,b1,Nat.le_trans k1.le b2,b3,b4⟩⟩
theorem ØE {o u:Fr.W→Fr.W→Fr.M Fr.W} {o' u':W→W→M W} {a b c:Fr.Exp} {a' b' c':Exp} (ho:OT o o') (hu:OT u u') (ha:PX cT md a a') (hb:PX cT md b b') (hc:PX cT md c c'):PX cO md (Fr.ÃO o u a b c) (ÃO o' u' a' b' c'):=by
 intro F H R p dw s S r
 rw[Fr.Ū]
 refine RM.bd (ha _ _ _ _ _ _ _ r) λ x dx S1 õ k1 e1 c1=>?_
 have r1:=r.kd k1 e1
 refine RM.bd (hb _ _ _ _ _ _ _ r1) λ y dy S2 dw2 k2 e2 c2=>?_
 have r2:=r1.kd k2 e2
 have h:=RM.ofT (H:=H) (S0:=S2) e2 (ho _ _ _ _ _ _ _ _ (c1.kd k2 r.hd) c2)
 refine RM.bd h λ z dz S3 dw3 k3 e3 c3=>àd c3.1 λ k=>?_
 have r3:=r2.kd k3 e3
 cases k
 ·exact .rt e3 ⟨.bl _,λ q=>by simp[isL] at q⟩
 ·refine RM.bd (hc _ _ _ _ _ _ _ r3) λ v dv S4 dw4 k4 e4 c4=>?_
  exact RM.ofT e4 (hu _ _ _ _ _ _ _ _ ((c2.kd k3 r.hd).kd k4 r.hd) c4)
theorem ć {a:Fr.Exp} {a':Exp} (ha:PX cT md a a'):PX cB md (Fr.tB a) (tB a'):=by
 intro F H R p dw s S r
 rw[Fr.ÃC]
 refine RM.bd (ha _ _ _ _ _ _ _ r) λ x dx S1 õ k1 e1 c1=>?_
 unfold tbK
 split
 ·cases c1.Ïz
  exact .rt e1 rfl
 ·trivial
theorem Òi {a b:Fr.ï} {a' b':ï} (ha:PX cB md a a') (hb:PX cB md b b'):PX cB md (Fr.tAnd a b) (tAnd a' b'):=by
 intro F H R p dw s S r
 refine RM.bd (ha _ _ _ _ _ _ _ r) λ x dx S1 õ k1 e1 c1=>?_
 cases c1
 cases x
 ·exact .rt e1 rfl
 ·exact hb _ _ _ _ _ _ _ (r.kd k1 e1)
theorem Ðw {a b:Fr.ï} {a' b':ï} (ha:PX cB md a a') (hb:PX cB md b b'):PX cB md (Fr.tOr a b) (tOr a' b'):=by
 intro F H R p dw s S r
 refine RM.bd (ha _ _ _ _ _ _ _ r) λ x dx S1 õ k1 e1 c1=>?_
 cases c1
 cases x
 ·exact hb _ _ _ _ _ _ _ (r.kd k1 e1)
 ·exact .rt e1 rfl
theorem Ãw {a:Fr.ï} {a':ï} (ha:PX cB md a a'):PX cB md (Fr.tNot a) (tNot a'):=by
 intro F H R p dw s S r
 refine RM.bd (ha _ _ _ _ _ _ _ r) λ x dx S1 õ k1 e1 c1=>?_
 cases c1
 exact .rt e1 rfl
theorem ÔE:PX cB md Fr.tYs tYs:=λ F H R p dw s S r=>.rt r.dr rfl
theorem àf {c:Fr.ï} {c':ï} {a b:Fr.Exp} {a' b':Exp} (hc:PX cB md c c') (ha:PX cC md a a') (hb:PX cC md b b'):PX cC md (Fr.eIf c a b) (eIf c' a' b'):=by
 intro F H R p dw s S r
 refine RM.bd (hc _ _ _ _ _ _ _ r) λ x dx S1 õ k1 e1 c1=>?_
 cases c1
 cases x
 ·exact (hb _ _ _ _ _ _ _ (r.kd k1 e1))
 ·exact (ha _ _ _ _ _ _ _ (r.kd k1 e1))
theorem ÞP:PX cI md Fr.È5 È5:=λ F H R p dw s S r=>.rt r.dr rfl
theorem ÞQ {a:Fr.Exp} {a':Exp} (ha:PX cT md a a'):PX cI md (Fr.Ès a) (Ès a'):=by
 intro F H R p dw s S r
 rw[Fr.ÀH]
 refine RM.bd (ha _ _ _ _ _ _ _ r) λ x dx S1 õ k1 e1 c1=>?_
 split
 ·cases c1.int_inv
  exact .rt e1 rfl
 ·trivial
end
end Pu
namespace Pu
open PySem
section
variable{dA:Nat}{H:Nat→Prop}{S:Fr.Å}{x y:Fr.W}{d e:W}
theorem àg (h1:Vw dA H S x d) (h2:Vw dA H S y e):Fr.eqW x y=eqW d e:=by
 cases h1 with
 |ref _ _ v=>cases v<;>(cases h2 with
  |ref _ _ v2=>cases v2<;>rfl
  |_=>rfl)
 |_=>cases h2 with
  |ref _ _ v2=>cases v2<;>rfl
  |_=>rfl
theorem àh (h1:Vw dA H S x d) (h2:Vw dA H S y e):Fr.eqF x y=eqF d e:=by
 cases h1 with
 |ref _ _ v=>cases v<;>(cases h2 with
  |ref _ _ v2=>cases v2<;>rfl
  |_=>rfl)
 |_=>cases h2 with
  |ref _ _ v2=>cases v2<;>rfl
  |_=>rfl
theorem Õi (h1:Vw dA H S x d):Fr.ÃA x=ÃA d:=by
 cases h1 with
 |ref _ _ v=>cases v<;>rfl
 |_=>rfl
theorem ài {t:String} (h1:Vw dA H S x d) (e:tyN d=some t):Fr.tyN S x=some t:=by
 cases h1 with
 |ref _ q v=>cases v<;>(unfold Fr.tyN;simp only[q];exact e)
 |dr=>cases e
 |_=>exact e
theorem Üc {ds:List W} (h:Vw dA H S x d) (e:itemsOf d=some ds):∃ ws,Fr.itemsOf S x=some ws∧Ó dA H S ws ds:=by
 unfold itemsOf at e
 split at e
 ·cases e
  obtain ⟨ws,rfl,h'⟩:=h.ÇP
  exact ⟨ws,rfl,h'⟩
 ·cases e
  obtain ⟨k,ws,rfl,h1,h2,h3⟩:=h.lst_inv
  exact ⟨ws,by unfold Fr.itemsOf Fr.getL;simp only[h2],h3⟩
 ·cases e
theorem Ðx {i:Str} (h:Vw dA H S (.str i) d):d=.str i:=by cases h;rfl
theorem ØF {i:Int} (h:Vw dA H S (.int i) d):d=.int i:=by cases h;rfl
theorem Üd {ws:List Fr.W} {ds:List W} (h:Ó dA H S ws ds):ws.all Fr.ÃA=ds.all ÃA:=by
 induction ds generalizing ws with
 |nil=>cases h;rfl
 |cons d ds ih=>
  obtain ⟨w,r,rfl,a,b⟩:=h.cons_inv
  simp only[List.all_cons,Õi a,ih b]
theorem ÞR {ws:List Fr.W} {ds:List W} (h:Ó dA H S ws ds) (h1:Vw dA H S x d):(ws.any λ z=>Fr.eqF z x)=ds.any λ z=>eqF z d:=by
 induction ds generalizing ws with
 |nil=>cases h;rfl
 |cons d ds ih=>
  obtain ⟨w,r,rfl,a,b⟩:=h.cons_inv
  simp only[List.any_cons,àh a h1,ih b]
theorem ÞS {b:Bool} (h1:Vw dA H S x d) (h2:Vw dA H S y e) (q:ÅO d e=some b):Fr.ÅO S x y=some b:=by
 unfold ÅO at q
 split at q
 ·cases h1.str_inv;cases h2.str_inv;exact q
 ·rename_i hne
  unfold Fr.ÅO
  split
  ·exact (hne _ _ (Ðx h1) (Ðx h2)).elim
  ·cases hi:itemsOf e with
   |none=>rw[hi] at q;cases q
   |some ds=>
    rw[hi] at q
    obtain ⟨ws,a1,a2⟩:=Üc h2 hi
    rw[a1]
    simp only[Õi h1,Üd a2,ÞR a2 h1] at q ⊢
    split at q
    ·rename_i g;rw[if_pos g];exact q
    ·rename_i g;rw[if_neg g]
     split at q
     ·rename_i t1 t2
      rw[h1.toP t1,h2.toP t2]
      exact q
     ·cases q
theorem àj {b:Bool} (h1:Vw dA H S x d) (h2:Vw dA H S y e) (q:ltX d e=some b):Fr.ltG x y S=.ok (.bl b) S:=by
 unfold ltX at q
 split at q
 ·cases h1.int_inv;cases h2.int_inv;cases q;rfl
 ·cases h1.str_inv;cases h2.str_inv;cases q;rfl
 ·rename_i n1 n2
  unfold Fr.ltG
  split
  ·exact (n1 _ _ (ØF h1) (ØF h2)).elim
  ·exact (n2 _ _ (Ðx h1) (Ðx h2)).elim
  ·split at q
   ·rename_i t1 t2
    simp only[h1.toP t1,h2.toP t2]
    split at q
    ·rename_i g;cases q;rw[if_pos g]
    ·cases q
   ·rename_i t1 t2
    simp only[h1.toP t1,h2.toP t2]
    split at q
    ·rename_i g;cases q;rw[if_pos g]
    ·cases q
   ·cases q
theorem ÚW {b:Bool} (h1:Vw dA H S x d) (h2:Vw dA H S y e) (q:eqX d e=some b):Fr.Ė x y S=.ok (.bl b) S∧Fr.neM x y S=.ok (.bl !b) S:=by
 unfold eqX at q
 unfold Fr.Ė Fr.neM
 rw[àg h1 h2]
 split at q
 ·rename_i t;rw[t];cases q;exact ⟨rfl,rfl⟩
 ·rename_i t;rw[t]
  simp only
  split at q
  ·rename_i t1 t2
   rw[h1.toP t1,h2.toP t2]
   simp only
   split at q
   ·rename_i g;cases q;rw[if_pos g,if_pos g];exact ⟨rfl,rfl⟩
   ·cases q
  ·cases q
end
theorem RO.bl {o:Option Bool} {dw:Dw} {P:W→Dw→Prop} (h:∀ b,o=some b→P (.bl b) dw):RO (blO o dw) P:=by
 cases o with
 |none=>trivial
 |some b=>exact h b rfl
theorem RO.nbl {o:Option Bool} {dw:Dw} {P:W→Dw→Prop} (h:∀ b,o=some b→P (.bl !b) dw):RO (Îc o dw) P:=by
 cases o with
 |none=>trivial
 |some b=>exact h b rfl
theorem t_eq:OT Fr.Ė Ė:=λ dA H S x y d e dw h1 h2=>RO.bl λ b q=>⟨rfl,rfl,_,(ÚW h1 h2 q).1,.bl _⟩
theorem Õj:OT Fr.neM neM:=λ dA H S x y d e dw h1 h2=>RO.nbl λ b q=>⟨rfl,rfl,_,(ÚW h1 h2 q).2,.bl _⟩
theorem Õk:OT Fr.ÁC ÁC:=λ dA H S x y d e dw h1 h2=>RO.nbl λ b q=>⟨rfl,rfl,_,by unfold Fr.ÁC;rw[ÞS h1 h2 q],.bl _⟩
theorem á8:OT Fr.ltG ltG:=λ dA H S x y d e dw h1 h2=>RO.bl λ b q=>⟨rfl,rfl,_,àj h1 h2 q,.bl _⟩
theorem ÏB:OT Fr.œ œ:=by
 intro dA H S x y d e dw h1 h2
 unfold œ
 split
 ·cases h1.ÉZ;cases h2.ÉZ;exact ⟨rfl,rfl,_,rfl,.bl _⟩
 ·rename_i n
  cases h2.ÉZ
  refine ⟨rfl,rfl,.bl false,?_,.bl _⟩
  cases h1 with
  |non=>exact (n rfl).elim
  |_=>rfl
 ·trivial
theorem Ðy:OT Fr.ā ā:=by
 intro dA H S x y d e dw h1 h2
 unfold ā
 split
 ·cases h1.ÉZ;cases h2.ÉZ;exact ⟨rfl,rfl,_,rfl,.bl _⟩
 ·rename_i n
  cases h2.ÉZ
  refine ⟨rfl,rfl,.bl true,?_,.bl _⟩
  cases h1 with
  |non=>exact (n rfl).elim
  |_=>rfl
 ·trivial
theorem ÙI:OT Fr.Æ6 Æ6:=by
 intro dA H S x y d e dw h1 h2
 unfold Æ6
 split
 ·cases h1.int_inv;cases h2.int_inv;exact ⟨rfl,rfl,_,rfl,.int _⟩
 ·trivial
theorem Üe:OT Fr.leM leM:=by
 intro dA H S x y d e dw h1 h2
 unfold leM
 split
 ·cases h1.int_inv;cases h2.int_inv;exact ⟨rfl,rfl,_,rfl,.bl _⟩
 ·trivial
theorem àl:OT Fr.gtM gtM:=by
 intro dA H S x y d e dw h1 h2
 unfold gtM
 split
 ·cases h1.int_inv;cases h2.int_inv;exact ⟨rfl,rfl,_,rfl,.bl _⟩
 ·trivial
theorem Ý1:OT Fr.Âp Âp:=by
 intro dA H S x y d e dw h1 h2
 unfold Âp
 split
 ·cases h1.int_inv;cases h2.int_inv
  unfold Fr.Âp
  split
  ·rename_i g
   exact ⟨rfl,rfl,_,by simp only[if_pos g];rfl,.int _⟩
  ·trivial
 ·trivial
theorem Èu:OTs Fr.ö ö:=by
 intro dA H S x d dw h
 unfold ö
 split
 ·obtain ⟨w,rfl,h'⟩:=h.ÅS
  cases h'.str_inv
  unfold Fr.ö
  split
  ·rename_i g
   exact ⟨rfl,rfl,_,by simp only[if_pos g];rfl,.int _⟩
  ·trivial
 ·obtain ⟨w,rfl,h'⟩:=h.ÅS
  obtain ⟨ws,rfl,h''⟩:=h'.ÇP
  exact ⟨rfl,rfl,_,rfl,by rw[h''.length];exact .int _⟩
 ·obtain ⟨w,rfl,h'⟩:=h.ÅS
  obtain ⟨k,ws,rfl,h1,h2,h3⟩:=h'.lst_inv
  exact ⟨rfl,rfl,.int ws.length,by unfold Fr.ö;simp only[h2],by rw[h3.length];exact .int _⟩
 ·trivial
theorem Ý2:OTs Fr.ÃK ÃK:=by
 intro dA H S x d dw h
 unfold ÃK
 split
 ·obtain ⟨w,rfl,h'⟩:=h.ÅS
  cases h'.int_inv
  exact ⟨rfl,rfl,_,rfl,.int _⟩
 ·obtain ⟨w,rfl,h'⟩:=h.ÅS
  cases h'.Ïz
  exact ⟨rfl,rfl,_,rfl,.int _⟩
 ·rename_i a
  obtain ⟨w,rfl,h'⟩:=h.ÅS
  cases h'.str_inv
  cases hn:PySem.intText? a with
  |none=>trivial
  |some n=>
   by_cases g:a.length≤640
   ·simp only[if_pos g]
    exact ⟨rfl,rfl,.int n,by unfold Fr.ÃK;simp only[hn,if_pos g];rfl,.int _⟩
   ·simp only[if_neg g];trivial
 ·trivial
theorem Èv:OTs Fr.ú ú:=by
 intro dA H S x d dw h
 unfold ú
 split
 ·rename_i y n
  obtain ⟨w,v,rfl,h1,h2⟩:=h.Ók
  cases h2.ß8
  cases ht:tyN y with
  |none=>trivial
  |some t=>exact RO.bl λ b q=>⟨rfl,rfl,.bl b,by unfold Fr.ú;simp only[ài h1 ht,q],.bl _⟩
 ·trivial
section
variable{dA:Nat}{H:Nat→Prop}{S:Fr.Å}{x:Fr.W}{d:W}{ds:List W}
theorem Sm.lst_inv (h:Sm dA H S x (.lst ds)):∃ k ws,x=.ref k∧k≠dA∧S[k]?=some (.lst ws)∧Ó dA H S ws ds∨(∃k ws,x=.ref k∧¬H k∧S[k]?=some (.lst ws)∧Ó dA H S ws ds):=by
 rcases h with h |⟨a,o,h1,h2,h3,h4⟩
 ·obtain ⟨k,ws,a1,a2,a3,a4⟩:=h.lst_inv
  exact ⟨k,ws,.inr ⟨k,ws,a1,a2,a3,a4⟩⟩
 ·cases h4 with
  |lst v=>exact ⟨a,_,.inl ⟨h1,h2,h3,v⟩⟩
theorem Sm.lst (h:Sm dA H S x (.lst ds)):∃ k ws,x=.ref k∧S[k]?=some (.lst ws)∧Ó dA H S ws ds:=by
 obtain ⟨k,ws,h⟩:=h.lst_inv
 rcases h with ⟨a,b,c,e⟩ |⟨k,ws,a,b,c,e⟩
 ·exact ⟨k,ws,a,c,e⟩
 ·exact ⟨k,ws,a,c,e⟩
theorem Sm.tup (h:Sm dA H S x (.tup ds)):∃ ws,x=.tup ws∧Ó dA H S ws ds:=by
 rcases h with h |⟨a,o,h1,h2,h3,h4⟩
 ·exact h.ÇP
 ·cases h4
theorem Sm.int {i:Int} (h:Sm dA H S x (.int i)):x=.int i:=by
 rcases h with h |⟨a,o,h1,h2,h3,h4⟩
 ·exact h.int_inv
 ·cases h4
theorem Sm.str {i:Str} (h:Sm dA H S x (.str i)):x=.str i:=by
 rcases h with h |⟨a,o,h1,h2,h3,h4⟩
 ·exact h.str_inv
 ·cases h4
theorem OSo.same {w:Fr.W} {r:Fr.Rs Fr.W} (e:r=.ok w S) (v:Vw dA H S w d) (n:isL d=false):OSo dA H S r d:=⟨w,S,[],e,by simp,v,λ q=>by rw[n] at q;cases q⟩
theorem OSo.new {o:Fr.Ob} {r:Fr.Rs Fr.W} (hb:∀ x,H x→x<S.length) (e:r=.ok (.ref S.length) (S++[o])) (v:Vo dA H S o d):OSo dA H S r d:=
 have f:=ØD S.length (Nat.le_refl _) v
 ⟨_,_,[o],e,rfl,f.vw hb,λ _=>f⟩
theorem Sms.one (h:Sms dA H S ws [d]):∃ w,ws=[w]∧Sm dA H S w d:=by
 cases h with
 |cons a r=>cases r;exact ⟨_,rfl,a⟩
theorem Sms.two {e:W} (h:Sms dA H S ws [d,e]):∃ w v,ws=[w,v]∧Sm dA H S w d∧Sm dA H S v e:=by
 cases h with
 |cons a r=>cases r with
  |cons b q=>cases q;exact ⟨_,_,rfl,a,b⟩
end
theorem Èw:OS Fr.ĉ ĉ:=by
 intro dA H S x y d e dw hb h1 h2
 unfold ĉ
 split
 ·cases h1.int;cases h2.int;exact ⟨rfl,OSo.same rfl (.int _) rfl⟩
 ·cases h1.str;cases h2.str
  unfold Fr.ĉ
  split
  ·rename_i g
   exact ⟨rfl,OSo.same (by simp only[if_pos g];rfl) (.str _) rfl⟩
  ·trivial
 ·obtain ⟨ws,rfl,v1⟩:=h1.tup
  obtain ⟨vs,rfl,v2⟩:=h2.tup
  unfold Fr.ĉ
  rw[←v1.length,←v2.length]
  split
  ·rename_i g
   exact ⟨rfl,OSo.same (by simp only[if_pos g];rfl) (.tup (v1.append v2)) rfl⟩
  ·trivial
 ·obtain ⟨k,ws,rfl,a1,v1⟩:=h1.lst
  obtain ⟨j,vs,rfl,a2,v2⟩:=h2.lst
  unfold Fr.ĉ
  rw[←v1.length,←v2.length]
  split
  ·rename_i g
   refine ⟨rfl,OSo.new hb (o:=.lst (ws++vs)) (by simp only[a1,a2,if_pos g];rfl) (.lst (v1.append v2))⟩
  ·trivial
 ·trivial
theorem ÚX:OSs Fr.ÁH ÁH:=by
 intro dA H S x d dw hb h
 unfold ÁH
 split
 ·obtain ⟨w,rfl,h'⟩:=h.one
  obtain ⟨ws,rfl,v⟩:=h'.tup
  exact ⟨rfl,OSo.new hb (o:=.lst ws) rfl (.lst v)⟩
 ·obtain ⟨w,rfl,h'⟩:=h.one
  obtain ⟨k,ws,rfl,a,v⟩:=h'.lst
  exact ⟨rfl,OSo.new hb (o:=.lst ws) (by unfold Fr.ÁH;simp only[a];rfl) (.lst v)⟩
 ·trivial
theorem ÞT:OSs Fr.Ń Ń:=by
 intro dA H S x d dw hb h
 unfold Ń
 split
 ·obtain ⟨w,rfl,h'⟩:=h.one
  obtain ⟨ws,rfl,v⟩:=h'.tup
  exact ⟨rfl,OSo.same rfl (.tup v) rfl⟩
 ·obtain ⟨w,rfl,h'⟩:=h.one
  obtain ⟨k,ws,rfl,a,v⟩:=h'.lst
  exact ⟨rfl,OSo.same (by unfold Fr.Ń;simp only[a]) (.tup v) rfl⟩
 ·trivial
section
variable{md:List Nat}
theorem ÚY {dA:Nat} {H:Nat→Prop} {S:Fr.Å} {ws:List Fr.W} {ds:List W} {i:Int} {d:W} (v:Ó dA H S ws ds) (e:L2.atI ds i=some d):∃ w,L2.atI ws i=some w∧Vw dA H S w d:=by
 unfold L2.atI at e ⊢
 rw[v.length]
 cases hk:L2.ixN ds.length i with
 |none=>rw[hk] at e;cases e
 |some k=>rw[hk] at e;exact v.get' e
theorem á9 {C1 C2:Cl Fr.W W} {a b:Fr.Exp} {a' b':Exp} (ha:PX C1 md a a') (hb:PX cT md b b')
  (hC:∀ F H R p dw s S S1 S2 x d,Rl md F H R p dw s S→Kd F.dA S S1→Kd F.dA S1 S2→C1 F H S x d S1→∀ e y ĥ,Vw F.dA F.H0 S2 y e→RO (ã d e ĥ) λ r Üf=>Üf=ĥ∧∃ w,Fr.ã x y S2=.ok w S2∧C2 F H S w r S2):PX C2 md (Fr.É Fr.ã a b) (É ã a' b'):=by
 intro F H R p dw s S r
 refine RM.bd (ha _ _ _ _ _ _ _ r) λ x dx S1 õ k1 e1 c1=>?_
 refine RM.bd (hb _ _ _ _ _ _ _ (r.kd k1 e1)) λ y dy S2 dw2 k2 e2 c2=>?_
 have h:=hC F H R p dw s S S1 S2 x dx r k1 k2 c1 dy y dw2 c2
 revert h
 cases ã dx dy dw2 with
 |ok d õ=>
  rintro ⟨rfl,w,h1,h2⟩
  exact ⟨w,S2,h1,.refl,e2,h2⟩
 |ex c x õ=>intro h;exact h.elim
 |bad=>intro _;trivial
theorem âa {dA:Nat} {H H':Nat→Prop} {S:Fr.Å} {x y:Fr.W} {d e:W} {dw:Dw} (h:Sm dA H S x d) (h2:Vw dA H' S y e):RO (ã d e dw) λ r Üf=>Üf=dw∧∃ w,Fr.ã x y S=.ok w S∧Vw dA H S w r:=by
 unfold ã
 split
 ·rename_i xs i
  cases h2.int_inv
  obtain ⟨ws,rfl,v⟩:=h.tup
  cases he:L2.atI xs i with
  |none=>trivial
  |some d=>
   obtain ⟨w,a1,a2⟩:=ÚY v he
   exact ⟨rfl,w,by unfold Fr.ã;simp only[a1];rfl,a2⟩
 ·rename_i xs i
  cases h2.int_inv
  obtain ⟨k,ws,rfl,a,v⟩:=h.lst
  cases he:L2.atI xs i with
  |none=>trivial
  |some d=>
   obtain ⟨w,a1,a2⟩:=ÚY v he
   exact ⟨rfl,w,by unfold Fr.ã;simp only[a,a1],a2⟩
 ·rename_i z i
  cases h2.int_inv
  cases h.str
  split
  ·rename_i g
   cases he:L2.atI z.cps.toList i with
   |none=>trivial
   |some c=>exact ⟨rfl,Fr.Æ5 c,by unfold Fr.ã;simp only[if_pos g,he];rfl,.str _⟩
  ·trivial
 ·trivial
theorem ÀK {a b:Fr.Exp} {a' b':Exp} (ha:PX cS md a a') (hb:PX cT md b b'):PX cC md (Fr.É Fr.ã a b) (É ã a' b'):=
 á9 ha hb λ F H R p dw s S S1 S2 x d r k1 k2 c1 e y ĥ c2=>âa (c1.kd k2 r.hdA) c2
theorem ÚZ {dA:Nat} {H:Nat→Prop} {S:Fr.Å} {ws:List Fr.W} {ds:List W} (v:Ó dA H S ws ds) (lo hi:Option Int):Ó dA H S (Fr.Èz ws lo hi) (Èz ds lo hi):=by
 unfold Fr.Èz Èz
 rw[v.length]
 exact (v.drop _).take _
theorem ãg {a:Fr.Exp} {a':Exp} {l u:Fr.Sl→Fr.M (Option Int)} {l' u':Sl→M (Option Int)} (ha:PX cS md a a') (hl:PX cI md l l') (hu:PX cI md u u'):PX cO md (Fr.eSl a l u) (eSl a' l' u'):=by
 intro F H R p dw s S r
 refine RM.bd (ha _ _ _ _ _ _ _ r) λ x dx S1 õ k1 e1 c1=>?_
 have r1:=r.kd k1 e1
 refine RM.bd (hl _ _ _ _ _ _ _ r1) λ y dy S2 dw2 k2 e2 c2=>?_
 have r2:=r1.kd k2 e2
 refine RM.bd (hu _ _ _ _ _ _ _ r2) λ z dz S3 dw3 k3 e3 c3=>?_
 have r3:=r2.kd k3 e3
 cases c2;cases c3
 have c:=(c1.kd k2 r.hdA).kd k3 r.hdA
 refine RM.ofS ((k1.trans k2).trans k3).le e3 ?_
 unfold slM
 split
 ·cases c.str
  unfold Fr.slM
  split
  ·rename_i g
   exact ⟨rfl,OSo.same (by simp only[if_pos g];rfl) (.str _) rfl⟩
  ·trivial
 ·obtain ⟨ws,rfl,v⟩:=c.tup
  exact ⟨rfl,OSo.same rfl (.tup (ÚZ v _ _)) rfl⟩
 ·obtain ⟨k,ws,rfl,a,v⟩:=c.lst
  exact ⟨rfl,OSo.new r3.hb (o:=.lst (Fr.Èz ws y z)) (by unfold Fr.slM;simp only[a];rfl) (.lst (ÚZ v _ _))⟩
 ·trivial
end
end Pu
namespace Pu
open PySem
def Îd (i:Nat) (e:Exp):Ì:=λ s S=>â (e s S) s λ w S'=>if isL w=true then .nx (s.set i (some w)) S' else .bad
def Ro (ow:Nat) (F:Fm) (w:Fr.W) (d:W) (S':Fr.Å):Prop:=Vw F.dA F.H0 S' w d∧(ow=1→isL d=true→Fsh F.dA F.H0 F.S0.length S' w d)∧(ow=2→Vw F.dA (λ x=>x<F.S0.length) S' w d∧TrR S' (λ x=>F.S0.length≤x) w d)
def FS (ow:Nat) (k:Nat) (m:Fr.Fn) (q:Fn):Prop:=∀ dA H S ws ds dw,H dA→(∀x,H x→x<S.length)→S[dA]?=some (Fr.oI dw)→Ó dA H S ws ds→ds.length=k→
 RM ⟨dA,S,H⟩ (Ro ow ⟨dA,S,H⟩) S (m ws S) (q ds dw)
def cCk (k:Nat):Cl (List Fr.W) (List W):=λ F H _ w d S'=>Ó F.dA H S' w d∧d.length=k
section
variable{md:List Nat}{k:Nat}
theorem ß:PX (cCk 0) md Fr.Ä Ä:=ÏA λ _ _ _ _=>⟨.nil,rfl⟩
theorem Ë {a:Fr.Exp} {b:Fr.Arg} {a':Exp} {b':Arg} (ha:PX cC md a a') (hb:PX (cCk k) md b b'):PX (cCk (k+1)) md (Fr.Á a b) (Á a' b'):=by
 intro F H R p dw s S r
 refine RM.bd (ha _ _ _ _ _ _ _ r) λ x dx S1 õ k1 e1 c1=>?_
 refine RM.bd (hb _ _ _ _ _ _ _ (r.kd k1 e1)) λ y dy S2 dw2 k2 e2 c2=>?_
 exact .rt e2 ⟨.cons (c1.kd k2 r.hdA) c2.1,by simp[c2.2]⟩
theorem Vx.less {F G:Fm} {S:Fr.Å} {y:Option (List (Str×Fr.W))} {x:Option (List (Str×W))} (hd:G.dA=F.dA) (hh:∀ x,F.H0 x→G.H0 x) (v:Vx G S y x):Vx F S y x:=by
 unfold Vx at v ⊢
 split
 ·trivial
 ·simp only at v;rw[hd] at v;exact ⟨v.1,v.2.less hh⟩
 ·rename_i h1 h2
  split at v
  ·exact (h1 rfl rfl).elim
  ·exact (h2 _ _ rfl rfl).elim
  ·exact v.elim
theorem RM.toF {α β:Type} {F G:Fm} {C1 C2:α→β→Fr.Å→Prop} {S:Fr.Å} {r:Fr.Rs α} {q:Rs β} (hd:G.dA=F.dA) (hh:∀ x,F.H0 x→G.H0 x) (h:RM G C1 S r q) (n:∀ w d S',Kd F.dA S S'→C1 w d S'→C2 w d S'):RM F C2 S r q:=by
 cases q with
 |ok d dw=>obtain ⟨w,S',a1,a2,a3,a4⟩:=h;rw[hd] at a2 a3;exact ⟨w,S',a1,a2,a3,n _ _ _ a2 a4⟩
 |ex c x dw=>obtain ⟨y,S',a1,a2,a3,a4⟩:=h;rw[hd] at a2 a3;exact ⟨y,S',a1,a2,a3,a4.less hd hh⟩
 |bad=>trivial
theorem ØG {ow:Nat} {m:Fr.Fn} {q:Fn} {a:Fr.Arg} {a':Arg} (hf:FS ow k m q) (ha:PX (cCk k) md a a'):PX (λ F H S w d S'=>Vw F.dA H S' w d∧(ow=1→isL d=true→Fsh F.dA H S.length S' w d)∧(ow=2→Vw F.dA (λ x=>x<S.length) S' w d∧TrR S' (λ x=>S.length≤x) w d)) md (Fr.Ò m a) (Ò q a'):=by
 intro F H R p dw s S r
 refine RM.bd (ha _ _ _ _ _ _ _ r) λ x dx S1 õ k1 e1 c1=>?_
 have r1:=r.kd k1 e1
 refine RM.toF (F:=F) (G:=⟨F.dA,S1,H⟩) rfl r.h0 (hf F.dA H S1 x dx õ r.hdA r1.hb e1 c1.1 c1.2) λ w d S' k2 c=>⟨c.1,λ o l=>?_,λ o=>⟨(c.2.2 o).1.less λ x hx=>Nat.lt_of_lt_of_le hx k1.le,(c.2.2 o).2.of λ x o hx ho=>⟨Nat.le_trans k1.le hx,ho⟩⟩⟩
 obtain ⟨a,ob,b1,b2,b3,b4⟩:=c.2.1 o l
 exact ⟨a,ob,b1,Nat.le_trans k1.le b2,b3,b4⟩
theorem ÊG {ow:Nat} {m:Fr.Fn} {q:Fn} {a:Fr.Arg} {a':Arg} (hf:FS ow k m q) (ha:PX (cCk k) md a a'):PX cC md (Fr.Ò m a) (Ò q a'):=
 (ØG hf ha).imp λ _ _ _ _ _ _ _ _ _ _ _ _ c=>c.1
theorem ļ {m:Fr.Fn} {q:Fn} {a:Fr.Arg} {a':Arg} (hf:FS 1 k m q) (ha:PX (cCk k) md a a'):PX cO md (Fr.Ò m a) (Ò q a'):=
 (ØG hf ha).imp λ _ _ _ _ _ _ _ _ _ _ _ _ c=>⟨c.1,c.2.1 rfl⟩
def ÙJ (src:Fr.Src) (S:Fr.Å) (n:Nat) (f:Nat→Fr.Å→Option Fr.W) (c:Fr.Å→Bool):Prop:=match src with
 | .vals xs=>n=xs.length∧f=(λ i _=>xs[i]?)∧c=λ _=>true
 | .live a=>∃ ys,S[a]?=some (.lst ys)∧n=ys.length∧f=Fr.Êo a n∧c=Fr.Êp a n
 | .gen n' f' c'=>n=n'∧f=f'∧c=c'
def cG (A:Fm→(Nat→Prop)→Nat→Prop):Cl Fr.Src (List W):=λ F H _ src ds S'=>∃ n f c ws,ÙJ src S' n f c∧Ó F.dA H S' ws ds∧n=ws.length∧
 ∀S'':Fr.Å,(∀(x:Nat) (o:Fr.Ob),¬A F H x→S'[x]?=some o→S''[x]?=some o)→(∀(i:Nat) (w:Fr.W),ws[i]?=some w→f i S''=some w)∧c S''=true
def AH:Fm→(Nat→Prop)→Nat→Prop:=λ _ H x=>H x
def AD:Fm→(Nat→Prop)→Nat→Prop:=λ F _ x=>x=F.dA
theorem cG.vals {A:Fm→(Nat→Prop)→Nat→Prop} {F:Fm} {H:Nat→Prop} {S S':Fr.Å} {ws:List Fr.W} {ds:List W} (v:Ó F.dA H S' ws ds):cG A F H S (.vals ws) ds S':=
 ⟨ws.length,_,_,ws,⟨rfl,rfl,rfl⟩,v,rfl,λ S'' _=>⟨λ i w h=>h,rfl⟩⟩
theorem cG.live {A:Fm→(Nat→Prop)→Nat→Prop} {F:Fm} {H:Nat→Prop} {S S':Fr.Å} {a:Nat} {ws:List Fr.W} {ds:List W} (ha:¬A F H a) (e:S'[a]?=some (.lst ws)) (v:Ó F.dA H S' ws ds):cG A F H S (.live a) ds S':=
 ⟨ws.length,_,_,ws,⟨ws,e,rfl,rfl,rfl⟩,v,rfl,λ S'' q=>by
  have h:=q a _ ha e
  refine ⟨λ i w hw=>?_,?_⟩
  ·unfold Fr.Êo;simp only[h,if_true];exact hw
  ·unfold Fr.Êp;simp only[h];simp⟩
theorem RM.src {F:Fm} {S:Fr.Å} {w:Fr.W} {d:W} {dw:Dw} {H:Nat→Prop} {A:Fm→(Nat→Prop)→Nat→Prop} {Sb:Fr.Å} (e:S[F.dA]?=some (Fr.oI dw)) (h:Sm F.dA H S w d) (hA:∀ ds,d=.lst ds→∃ a,w=.ref a∧¬A F H a):RM F (cG A F H Sb) S (Fr.srcOf w S) (srcOf d dw):=by
 unfold srcOf
 split
 ·obtain ⟨ws,rfl,v⟩:=h.tup
  exact ⟨_,S,rfl,.refl,e,.vals v⟩
 ·rename_i ds
  obtain ⟨a,hw,ha⟩:=hA ds rfl
  obtain ⟨k,ws,e1,e2,v⟩:=h.lst
  rw[hw] at e1
  cases e1
  subst hw
  exact ⟨.live a,S,by unfold Fr.srcOf;simp only[e2],.refl,e,.live ha e2 v⟩
 ·cases h.str
  exact ⟨_,S,rfl,.refl,e,.vals (Ó.chars _)⟩
 ·trivial
theorem Çx {a:Fr.Exp} {a':Exp} (ha:PX cC md a a'):PX (cG AH) md (Fr.iE a) (iE a'):=by
 intro F H R p dw s S r
 refine RM.bd (ha _ _ _ _ _ _ _ r) λ x dx S1 õ k1 e1 c1=>?_
 refine RM.src e1 (.inl c1) λ ds q=>?_
 subst q
 obtain ⟨k,ws,h1,h2,h3,h4⟩:=c1.lst_inv
 exact ⟨k,h1,h2⟩
theorem ÙK {a:Fr.Exp} {a':Exp} (ha:PX cS md a a'):PX (cG AD) md (Fr.iE a) (iE a'):=by
 intro F H R p dw s S r
 refine RM.bd (ha _ _ _ _ _ _ _ r) λ x dx S1 õ k1 e1 c1=>?_
 refine RM.src e1 c1 λ ds q=>?_
 subst q
 rcases c1 with c |⟨a,o,h1,h2,h3,h4⟩
 ·obtain ⟨k,ws,h1,h2,h3,h4⟩:=c.lst_inv
  exact ⟨k,h1,λ q=>h2 (q▸r.hdA)⟩
 ·exact ⟨a,h1,h2⟩
theorem Ðz {A:Fm→(Nat→Prop)→Nat→Prop} {a:Fr.Arg} {a':Arg} (ha:PX cTs md a a'):PX (cG A) md (Fr.iR1 a) (iR1 a'):=by
 intro F H R p dw s S r
 rw[Fr.ÃQ]
 refine RM.bd (ha _ _ _ _ _ _ _ r) λ x dx S1 õ k1 e1 c1=>?_
 unfold Ía
 split
 ·obtain ⟨w,rfl,h⟩:=c1.ÅS
  cases h.int_inv
  rw[Fr.ÃR]
  split
  ·exact .rt e1 (.vals (Ó.rng _ _))
  ·trivial
 ·trivial
theorem zip_get {α β γ:Type} {f:α→β→γ} {xs:List α} {ys:List β} {i:Nat} {z:γ} (h:(List.zipWith f xs ys)[i]?=some z):∃ a b,xs[i]?=some a∧ys[i]?=some b∧z=f a b:=by
 rw[List.getElem?_zipWith] at h
 cases h1:xs[i]? with
 |none=>rw[h1] at h;cases h
 |some a=>
  cases h2:ys[i]? with
  |none=>rw[h1,h2] at h;cases h
  |some b=>rw[h1,h2] at h;cases h;exact ⟨a,b,rfl,rfl,rfl⟩
theorem RM.zip {F:Fm} {S:Fr.Å} {ws:List Fr.W} {ds:List W} {dw:Dw} {H:Nat→Prop} {A:Fm→(Nat→Prop)→Nat→Prop} {Sb:Fr.Å} (e:S[F.dA]?=some (Fr.oI dw)) (h:Sms F.dA H S ws ds) (hA:∀ w∈ws,∀a,w=.ref a→¬A F H a):RM F (cG A F H Sb) S (Fr.Éa ws S) (Éa ds dw):=by
 unfold Éa
 split
 ·obtain ⟨w,v,rfl,h1,h2⟩:=h.two
  obtain ⟨xs,rfl,v1⟩:=h1.tup
  obtain ⟨ys,rfl,v2⟩:=h2.tup
  exact ⟨_,S,rfl,.refl,e,.vals (v1.zip v2)⟩
 ·obtain ⟨w,v,rfl,h1,h2⟩:=h.two
  obtain ⟨j,xs,rfl,q1,v1⟩:=h1.lst
  obtain ⟨k,ys,rfl,q2,v2⟩:=h2.lst
  have gj:Fr.getL S (.ref j)=some xs:=by unfold Fr.getL;simp only[q1]
  have gk:Fr.getL S (.ref k)=some ys:=by unfold Fr.getL;simp only[q2]
  refine ⟨.gen (min xs.length ys.length) (Fr.Ùw (.ref j) (.ref k)) (Fr.Ùx (.ref j) (.ref k) (min xs.length ys.length)),S,by unfold Fr.Éa;simp only[gj,gk],.refl,e,?_⟩
  refine ⟨_,_,_,_,⟨rfl,rfl,rfl⟩,v1.zip v2,by simp,λ S'' hs=>?_⟩
  have g1:Fr.getL S'' (.ref j)=some xs:=by unfold Fr.getL;simp only[hs j _ (hA _ (by simp) j rfl) q1]
  have g2:Fr.getL S'' (.ref k)=some ys:=by unfold Fr.getL;simp only[hs k _ (hA _ (by simp) k rfl) q2]
  refine ⟨λ i w hw=>?_,?_⟩
  ·obtain ⟨a,b,h3,h4,rfl⟩:=zip_get hw
   unfold Fr.Ùw
   simp only[g1,g2,h3,h4]
  ·unfold Fr.Ùx
   simp only[g1,g2]
   simp
   omega
 ·trivial
def TG (md:List Nat) (g:Fr.Ā) (g':Ā):Prop:=∀ F H R p dw s S w d p',Rl md F H R p dw s S→Vw F.dA H S w d→g' d p=some p'→∃ s',g w s=some s'∧Rl md F H R p' dw s' S
def TGs (md:List Nat) (g:List Fr.W→Fr.Sl→Option Fr.Sl) (g':List W→Sl→Option Sl):Prop:=∀ F H R p dw s S w d p',Rl md F H R p dw s S→Ó F.dA H S w d→g' d p=some p'→∃ s',g w s=some s'∧Rl md F H R p' dw s' S
theorem ÀB {α:Type} {l:List (Option α)} {i j:Nat} {x:Option α} {y:α} (h:(l.set i x)[j]?=some (some y)):(i=j∧j<l.length∧x=some y)∨(i≠j∧l[j]?=some (some y)):=by
 by_cases e:i=j
 ·subst e
  by_cases hl:i<l.length
  ·rw[List.getElem?_set_self hl] at h
   cases h
   exact .inl ⟨rfl,hl,rfl⟩
  ·rw[List.set_eq_of_length_le (by omega)] at h
   have:=(List.getElem?_eq_some_iff.mp h).1
   omega
 ·rw[List.getElem?_set_ne e] at h
  exact .inr ⟨e,h⟩
variable{F:Fm}{H:Nat→Prop}{R:Nat→Nat→Prop}{p:Sl}{dw ĥ:Dw}{s:Fr.Sl}{S S':Fr.Å}{w:Fr.W}{d:W}
theorem Rl.Üg (r:Rl md F H R p dw s S) {i:Nat} (m:Œ md i=0) (v:Vw F.dA H S w d):Rl md F H R (p.set i (some d)) dw (s.set i (some w)) S:=
 {r with
  len:=by simp[r.len]
  val:=λ j e h1 h2=>by
   rcases ÀB h2 with ⟨rfl,hl,hx⟩ |⟨hn,h3⟩
   ·cases hx
    exact ⟨w,List.getElem?_set_self (by rw[r.len];exact hl),v⟩
   ·obtain ⟨u,a1,a2⟩:=r.val j e h1 h3
    exact ⟨u,by rw[List.getElem?_set_ne hn];exact a1,a2⟩
  own:=λ j e h1 h2 z=>by
   rcases ÀB h2 with ⟨rfl,hl,hx⟩ |⟨hn,h3⟩
   ·rw[m] at h1;cases h1
   ·obtain ⟨a,o,a1,a2⟩:=r.own j e h1 h3 z
    exact ⟨a,o,by rw[List.getElem?_set_ne hn];exact a1,a2⟩
  ÀC:=λ j h1 h2=>by
   rcases ÀB h2 with ⟨rfl,hl,hx⟩ |⟨hn,h3⟩
   ·rw[m] at h1;cases h1
   ·rw[List.getElem?_set_ne hn];exact r.ÀC j h1 h3
  deep:=λ j e h1 h2=>by
   rcases ÀB h2 with ⟨rfl,hl,hx⟩ |⟨hn,h3⟩
   ·rw[m] at h1;cases h1
   ·obtain ⟨u,a1,a2⟩:=r.deep j e h1 h3
    exact ⟨u,by rw[List.getElem?_set_ne hn];exact a1,a2⟩}
theorem Rl.ÙL (r:Rl md F H R p dw s S) (i:Nat):Rl md F H R (p.set i none) dw (s.set i none) S:=
 {r with
  len:=by simp[r.len]
  val:=λ j e h1 h2=>by
   rcases ÀB h2 with ⟨rfl,hl,hx⟩ |⟨hn,h3⟩
   ·cases hx
   ·obtain ⟨u,a1,a2⟩:=r.val j e h1 h3
    exact ⟨u,by rw[List.getElem?_set_ne hn];exact a1,a2⟩
  own:=λ j e h1 h2 z=>by
   rcases ÀB h2 with ⟨rfl,hl,hx⟩ |⟨hn,h3⟩
   ·cases hx
   ·obtain ⟨a,o,a1,a2⟩:=r.own j e h1 h3 z
    exact ⟨a,o,by rw[List.getElem?_set_ne hn];exact a1,a2⟩
  ÀC:=λ j h1 h2=>by
   rcases ÀB h2 with ⟨rfl,hl,hx⟩ |⟨hn,h3⟩
   ·cases hx
   ·rw[List.getElem?_set_ne hn];exact r.ÀC j h1 h3
  deep:=λ j e h1 h2=>by
   rcases ÀB h2 with ⟨rfl,hl,hx⟩ |⟨hn,h3⟩
   ·cases hx
   ·obtain ⟨u,a1,a2⟩:=r.deep j e h1 h3
    exact ⟨u,by rw[List.getElem?_set_ne hn];exact a1,a2⟩}
theorem Rl.wipe (r:Rl md F H R p dw s S):∀ vs:List Nat,Rl md F H R (Ě p vs) dw (Fr.Ě s vs) S
 | []=>r
 |v::vs=>by
  unfold Ě Fr.Ě
  exact (r.wipe vs).ÙL v
theorem Rl.hide (r:Rl md F H R p dw s S) (k:Kd F.dA S S') (e:S'[F.dA]?=some (Fr.oI ĥ)) {D:Nat} (h1:S.length≤D) (h2:D<S'.length):Rl md F (λ x=>H x∨x=D) R p ĥ s S':=
 have up:∀ x o,¬H x→S[x]?=some o→¬(H x∨x=D)∧S'[x]?=some o:=λ x o hx hs=>by
  have hl:=(List.getElem?_eq_some_iff.mp hs).1
  refine ⟨λ q=>?_,k.get (λ q=>hx (q▸r.hdA)) hs⟩
  rcases q with q|q
  ·exact hx q
  ·omega
 {r with
  dr:=e
  val:=λ i d a b=>let ⟨w,h3,h4⟩:=r.val i d a b;⟨w,h3,h4.of up⟩
  own:=λ i d a b z=>let ⟨a,o,h3,h4,h5,h6⟩:=r.own i d a b z;⟨a,o,h3,k.get (r.rh i a h5).2.1 h4,h5,h6.of up⟩
  ÀC:=r.ÀC
  deep:=λ i d a b=>let ⟨w,h3,h4⟩:=r.deep i d a b;⟨w,h3,h4.of λ x o hx hs=>by
   have hl:=(List.getElem?_eq_some_iff.mp hs).1
   exact ⟨hx,k.get (λ q=>hx λ t=>(r.rh i _ t).2.1 q) hs⟩⟩
  rh:=λ i x q=>⟨.inl (r.rh i x q).1,(r.rh i x q).2⟩
  hb:=λ x q=>by
   rcases q with q|q
   ·exact Nat.lt_of_lt_of_le (r.hb x q) k.le
   ·omega
  h0:=λ x q=>.inl (r.h0 x q)
  hn:=λ x q=>by
   rcases q with q|q
   ·exact r.hn x q
   ·have:=r.le;exact .inr (by omega)
  fr:=λ x a b=>(k.old x (Nat.lt_of_lt_of_le a r.le) b).trans (r.fr x a b)
  le:=Nat.le_trans r.le k.le}
theorem g_N {i:Nat} (m:Œ md i=0):TG md (Fr.gN i) (gN i):=by
 intro F H R p dw s S w d p' r v e
 cases e
 exact ⟨_,rfl,r.Üg m v⟩
theorem âb:TGs md Fr.ÃU ÃU:=by
 intro F H R p dw s S w d p' r v e
 cases v with
 |nil=>cases e;exact ⟨s,rfl,r⟩
 |cons a b=>cases e
theorem Ú0 {g:Fr.Ā} {g':Ā} {t:List Fr.W→Fr.Sl→Option Fr.Sl} {t':List W→Sl→Option Sl} (h1:TG md g g') (h2:TGs md t t'):TGs md (Fr.æ g t) (æ g' t'):=by
 intro F H R p dw s S w d p' r v e
 cases v with
 |nil=>cases e
 |cons a b=>
  rename_i w ws d ds
  unfold æ at e
  simp only at e
  cases hg:g' d p with
  |none=>rw[hg] at e;cases e
  |some p1=>
   rw[hg] at e
   obtain ⟨s1,q1,r1⟩:=h1 F H R p dw s S w d p1 r a hg
   obtain ⟨s2,q2,r2⟩:=h2 F H R p1 dw s1 S ws ds p' r1 b e
   exact ⟨s2,by unfold Fr.æ;simp only[q1,q2],r2⟩
theorem g_T {n:Nat} {t:List Fr.W→Fr.Sl→Option Fr.Sl} {t':List W→Sl→Option Sl} (h2:TGs md t t'):TG md (Fr.gT n t) (gT n t'):=by
 intro F H R p dw s S w d p' r v e
 unfold gT at e
 split at e
 ·obtain ⟨ws,rfl,v'⟩:=v.ÇP
  by_cases g:ws.length=n
  ·rw[if_pos (by rw[←v'.length];exact g)] at e
   obtain ⟨s2,q2,r2⟩:=h2 F H R p dw s S _ _ p' r v' e
   exact ⟨s2,by unfold Fr.gT;simp only[if_pos g,q2],r2⟩
  ·rw[if_neg (by rw[←v'.length];exact g)] at e
   cases e
 ·cases e
theorem Rl.ãh (r:Rl md F H R p dw s S) {D:Nat} {o':Fr.Ob} (h1:H D) (h2:∀ i,¬R i D) (h3:F.S0.length≤D) (h4:D≠F.dA):Rl md F H R p dw s (S.set D o'):=
 have up:∀ x o,¬H x→S[x]?=some o→¬H x∧(S.set D o')[x]?=some o:=λ x o hx hq=>⟨hx,by
  have hne:D≠x:=λ q=>hx (q▸h1)
  rw[List.getElem?_set_ne hne];exact hq⟩
 {r with
  dr:=by rw[List.getElem?_set_ne h4];exact r.dr
  val:=λ i d a b=>let ⟨w,h3,h4⟩:=r.val i d a b;⟨w,h3,h4.of up⟩
  ÀC:=r.ÀC
  own:=λ i d a b z=>by
   obtain ⟨a,o,h3,h4,h5,h6⟩:=r.own i d a b z
   refine ⟨a,o,h3,?_,h5,h6.of up⟩
   have hne:D≠a:=λ q=>h2 i (q▸h5)
   rw[List.getElem?_set_ne hne]
   exact h4
  deep:=λ i d a b=>by
   obtain ⟨w,h5,h6⟩:=r.deep i d a b
   exact ⟨w,h5,h6.of λ x o hx hq=>⟨hx,by
    have hne:D≠x:=λ q=>hx (q▸h2 i)
    rw[List.getElem?_set_ne hne];exact hq⟩⟩
  hb:=λ x q=>by simpa using r.hb x q
  fr:=λ x a b=>by rw[List.getElem?_set_ne (by omega)];exact r.fr x a b
  le:=by simpa using r.le}
theorem Õl {g:Fr.Ā} {g':Ā} {tt:Fr.ï} {tt':ï} {e:Fr.Exp} {e':Exp} (hg:TG md g g') (ht:PX cB md tt tt') (he:PX cC md e e') {F:Fm} {H:Nat→Prop} {R:Nat→Nat→Prop} {p:Sl} {s:Fr.Sl} {Sb:Fr.Å} {n:Nat} {f:Nat→Fr.Å→Option Fr.W} {c:Fr.Å→Bool} {ws:List Fr.W} {ÏC:List W}
  (hv:Ó F.dA H Sb ws ÏC) (hn:n=ws.length) (hs:∀ S'':Fr.Å,(∀(x:Nat) (o:Fr.Ob),¬AD F H x→Sb[x]?=some o→S''[x]?=some o)→(∀(i:Nat) (w:Fr.W),ws[i]?=some w→f i S''=some w)∧c S''=true) (hD:H F.dA) (hb:∀ x,H x→x<Sb.length) (hR:∀ i x,R i x→H x) (h0:F.S0.length≤Sb.length):
  ∀(suf pre:List W) (acc:List Fr.W) (Óm:List W) (S:Fr.Å) (dw:Dw),ÏC=pre++suf→acc.length≤pre.length→ÏC.length≤sizeLine→Rl md F (λ x=>H x∨x=Sb.length) R p dw s S→Kd F.dA Sb S→S[Sb.length]?=some (.lst acc)→Ó F.dA (λ x=>H x∨x=Sb.length) S acc Óm→
   match lcV g' tt' e' p suf dw with
   | .ok r ĥ=>∃ S' acc',Fr.lcN g tt e s Sb.length n f c suf.length S=some S'∧Kd F.dA Sb S'∧S'[F.dA]?=some (Fr.oI ĥ)∧S'[Sb.length]?=some (.lst acc')∧Ó F.dA (λ x=>H x∨x=Sb.length) S' acc' (Óm++r)
   |_=>True
 | [],pre,acc,Óm,S,dw,e1,e2,e3,r,k,hS,hva=>by
  refine ⟨S,acc,?_,k,r.dr,hS,by simpa using hva⟩
  unfold Fr.lcN
  rw[List.length_nil]
  simp only
  rw[(hs S λ x o hx hq=>k.get hx hq).2,if_pos rfl]
 |d::suf,pre,acc,Óm,S,dw,e1,e2,e3,r,k,hS,hva=>by
  have hpl:pre.length<ws.length:=by rw[hv.length,e1];simp
  have hdx:ÏC[pre.length]?=some d:=by rw[e1];simp
  obtain ⟨w,hw,vw⟩:=hv.get' hdx
  have hfx:f (n-(suf.length+1)) S=some w:=by
   have:n-(suf.length+1)=pre.length:=by rw[hn,hv.length,e1];simp
   rw[this]
   exact (hs S λ x o hx hq=>k.get hx hq).1 _ _ hw
  have vw1:Vw F.dA (λ x=>H x∨x=Sb.length) S w d:=vw.of λ x o hx hq=>by
   have hl:=(List.getElem?_eq_some_iff.mp hq).1
   refine ⟨λ t=>?_,k.get (λ t=>hx (t▸hD)) hq⟩
   rcases t with t|t
   ·exact hx t
   ·omega
  unfold lcV lcG
  cases hgp:g' d p with
  |none=>trivial
  |some p1=>
   obtain ⟨s1,q1,r1⟩:=hg _ _ _ _ _ _ _ _ _ _ r vw1 hgp
   have h1:=ht _ _ _ _ _ _ _ r1
   simp only
   unfold Pu.bd
   cases htt:tt' p1 dw with
   |bad=>trivial
   |ex c' x' õ=>trivial
   |ok b õ=>
    rw[htt] at h1
    obtain ⟨b0,S1,t1,k1,d1,cc1⟩:=h1
    cases cc1
    have r2:=r1.kd k1 d1
    have ra:=r.kd k1 d1
    have kS1:Kd F.dA Sb S1:=k.trans k1
    have hne:Sb.length≠F.dA:=λ q=>by have:=hb _ hD;omega
    have hS1:S1[Sb.length]?=some (.lst acc):=k1.get hne hS
    have ào:=hva.kd k1 (.inl hD)
    cases b with
    |false=>
     have ih:=Õl hg ht he hv hn hs hD hb hR h0 suf (pre++[d]) acc Óm S1 õ (by rw[e1];simp) (by simp;omega) e3 ra kS1 hS1 ào
     have hN:Fr.lcN g tt e s Sb.length n f c (suf.length+1) S=Fr.lcN g tt e s Sb.length n f c suf.length S1:=by
      conv=>lhs;unfold Fr.lcN
      simp only[hfx]
      unfold Fr.lcT
      simp only[q1,t1]
     simp only[Bool.false_eq_true,if_false]
     cases hl:lcV g' tt' e' p suf õ with
     |bad=>trivial
     |ex c' x' dw2=>trivial
     |ok r' dw2=>
      rw[hl] at ih
      obtain ⟨S',acc',a1,a2⟩:=ih
      exact ⟨S',acc',by rw[List.length_cons,hN];exact a1,a2⟩
    |true=>
     simp only[if_true]
     have h2:=he _ _ _ _ _ _ _ r2
     cases hee:e' p1 õ with
     |bad=>trivial
     |ex c' x' dw2=>trivial
     |ok dd dw2=>
      rw[hee] at h2
      obtain ⟨u,S2,t2,k2,d2,cc2⟩:=h2
      have hS2:S2[Sb.length]?=some (.lst acc):=k2.get hne hS1
      have ãi:=ào.kd k2 (.inl hD)
      have hlt:acc.length<sizeLine:=by rw[e1] at e3;simp at e3;omega
      have Ãx:Kd F.dA Sb (S2.set Sb.length (.lst (acc++[u]))):=⟨by have:=(kS1.trans k2).le;simpa using this,λ x hx hq=>by rw[List.getElem?_set_ne (by omega)];exact (kS1.trans k2).old x hx hq⟩
      have up:∀ x o,¬(H x∨x=Sb.length)→S2[x]?=some o→¬(H x∨x=Sb.length)∧(S2.set Sb.length (.lst (acc++[u])))[x]?=some o:=λ x o hx hq=>⟨hx,by rw[List.getElem?_set_ne (λ q=>hx (.inr q.symm))];exact hq⟩
      have rb:=ra.kd k2 d2
      have rc:Rl md F (λ x=>H x∨x=Sb.length) R p dw2 s (S2.set Sb.length (.lst (acc++[u]))):=
       rb.ãh (.inr rfl) (λ i q=>by have:=hb _ (hR i _ q);omega) h0 hne
      have ih:=Õl hg ht he hv hn hs hD hb hR h0 suf (pre++[d]) (acc++[u]) (Óm++[dd]) _ dw2 (by rw[e1];simp) (by simp;omega) e3 rc Ãx (by rw[List.getElem?_set_self (List.getElem?_eq_some_iff.mp hS2).1]) ((ãi.append (.cons cc2 .nil)).of up)
      have hN:Fr.lcN g tt e s Sb.length n f c (suf.length+1) S=Fr.lcN g tt e s Sb.length n f c suf.length (S2.set Sb.length (.lst (acc++[u]))):=by
       conv=>lhs;unfold Fr.lcN
       simp only[hfx]
       unfold Fr.lcT
       simp only[q1,t1,t2,hS2,if_pos hlt]
      dsimp only
      cases hl:lcV g' tt' e' p suf dw2 with
      |bad=>trivial
      |ex c' x' dw3=>trivial
      |ok r' dw3=>
       rw[hl] at ih
       obtain ⟨S',acc',a1,a2,a3,a4,a5⟩:=ih
       refine ⟨S',acc',by rw[List.length_cons,hN];exact a1,a2,a3,a4,?_⟩
       simpa using a5
theorem ÞU (g:Fr.Ā) (tt:Fr.ï) (e:Fr.Exp) (s0:Fr.Sl) (D:Nat) (xs:List Fr.W) (S:Fr.Å):Fr.lcV g tt e s0 D xs S=Fr.lcN g tt e s0 D xs.length (λ i _=>xs[i]?) (λ _=>true) xs.length S:=by
 rw[Fr.Ô0 g tt e s0 D xs xs.length S (Nat.le_refl _)]
 simp
theorem ÃS {it:Fr.Sl→Fr.M Fr.Src} {g:Fr.Ā} {tt:Fr.ï} {e:Fr.Exp} {vs:List Nat} {s:Fr.Sl} {S S1:Fr.Å} {src:Fr.Src} {n:Nat} {f:Nat→Fr.Å→Option Fr.W} {c:Fr.Å→Bool} (h:it s S=.ok src S1) (q:ÙJ src S1 n f c):
  Fr.eLc it g tt e vs s S=Fr.Ë6 S1.length (Fr.lcN g tt e (Fr.Ě s vs) S1.length n f c n (S1++[.lst []])):=by
 unfold Fr.eLc
 cases src with
 |vals xs=>
  obtain ⟨rfl,rfl,rfl⟩:=q
  simp only[h]
  rw[ÞU]
 |live a=>
  obtain ⟨ys,e1,rfl,rfl,rfl⟩:=q
  simp only[h,e1]
 |gen n' f' c'=>
  obtain ⟨rfl,rfl,rfl⟩:=q
  simp only[h]
theorem Õm {it:Fr.Sl→Fr.M Fr.Src} {it':Sl→M (List W)} {g:Fr.Ā} {g':Ā} {tt:Fr.ï} {tt':ï} {e:Fr.Exp} {e':Exp} {vs:List Nat} (hi:PX (cG AD) md it it') (hg:TG md g g') (ht:PX cB md tt tt') (he:PX cC md e e'):PX cO md (Fr.eLc it g tt e vs) (eLc it' g' tt' e' vs):=by
 intro F H R p dw s S r
 have h:=hi _ _ _ _ _ _ _ r
 unfold eLc Pu.bd
 cases hit:it' p dw with
 |bad=>trivial
 |ex c x õ=>
  rw[hit] at h
  obtain ⟨y,S1,q1,q2,q3,q4⟩:=h
  exact ⟨y,S1,by unfold Fr.eLc;simp only[q1],q2,q3,q4⟩
 |ok ds õ=>
  rw[hit] at h
  obtain ⟨src,S1,q1,k1,d1,n,f,c,ws,a1,a2,a3,a4⟩:=h
  simp only
  by_cases gl:ds.length≤sizeLine
  ·rw[if_pos gl]
   have r1:=r.kd k1 d1
   have r2:Rl md F (λ x=>H x∨x=S1.length) R (Ě p vs) õ (Fr.Ě s vs) (S1++[.lst []]):=
    (r1.wipe vs).hide (.app _) (by rw[List.getElem?_append_left (List.getElem?_eq_some_iff.mp d1).1];exact d1) (Nat.le_refl _) (by simp)
   have hL:=Õl hg ht he a2 a3 a4 r.hdA r1.hb (λ i x q=>(r.rh i x q).1) r1.le ds [] [] [] (S1++[.lst []]) õ rfl (Nat.le_refl _) gl r2 (.app _) (by simp) .nil
   unfold noX
   cases hl:lcV g' tt' e' (Ě p vs) ds õ with
   |bad=>trivial
   |ex c' x' dw2=>trivial
   |ok rr dw2=>
    rw[hl] at hL
    obtain ⟨S',acc',b1,b2,b3,b4,b5⟩:=hL
    have en:n=ds.length:=by rw[a3,a2.length]
    refine ⟨.ref S1.length,S',by rw[ÃS q1 a1];rw[show Fr.lcN g tt e (Fr.Ě s vs) S1.length n f c n (S1++[Fr.Ob.lst []])=some S' from (congrArg (λ z=>Fr.lcN g tt e (Fr.Ě s vs) S1.length n f c z (S1++[Fr.Ob.lst []])) en).trans b1];rfl,k1.trans b2,b3,?_⟩
    have f1:Fsh F.dA H S.length S' (.ref S1.length) (.lst rr):=⟨S1.length,_,rfl,k1.le,b4,.lst (by simpa using b5)⟩
    exact ⟨f1.vw r.hb,λ _=>f1⟩
  ·rw[if_neg gl];trivial
theorem àp {a:Fr.Exp} {a':Exp} (ha:PX cT md a a'):PX cB md (Fr.tV a) (tV a'):=by
 intro F H R p dw s S r
 refine RM.bd (ha _ _ _ _ _ _ _ r) λ x dx S1 õ k1 e1 c1=>?_
 cases ht:Ç9 dx with
 |none=>trivial
 |some b=>
  have hx:Fr.Ç9 S1 x=some b:=by
   cases dx with
   |non=>cases c1.ÉZ;exact ht
   |bl _=>cases c1.Ïz;exact ht
   |int _=>cases c1.int_inv;exact ht
   |str _=>cases c1.str_inv;exact ht
   |tup ds=>
    obtain ⟨ws,rfl,v⟩:=c1.ÇP
    have:ws.isEmpty=ds.isEmpty:=by cases v<;>rfl
    unfold Fr.Ç9
    simp only[this]
    exact ht
   |lst ds=>
    obtain ⟨k,ws,rfl,h1,h2,v⟩:=c1.lst_inv
    have:ws.isEmpty=ds.isEmpty:=by cases v<;>rfl
    unfold Fr.Ç9
    simp only[h2,this]
    exact ht
   |dk kvs=>
    cases c1 with
    |ref h e v=>cases v with
     |dk he hv=>
      rename_i kws
      have:kws.isEmpty=kvs.isEmpty:=by
       cases kws<;>cases kvs<;>simp_all
      unfold Fr.Ç9
      simp only[e,this]
      exact ht
   |_=>cases ht
  exact ⟨b,S1,by simp only[hx],.refl,e1,rfl⟩
end
end Pu
namespace Pu
open PySem
section
variable{md:List Nat}
end
end Pu
namespace Pu
open PySem
section
variable{md:List Nat}
end
end Pu
namespace Pu
open PySem
structure Gw (H:Nat→Prop) (S:Fr.Å) (H':Nat→Prop) (S':Fr.Å):Prop where
 le:S.length≤S'.length
 nw:∀ x,H' x→H x∨S.length≤x
 old:∀ x,x<S.length→¬H x→S'[x]?=S[x]?
theorem Gw.refl {H:Nat→Prop} {S:Fr.Å}:Gw H S H S:=⟨Nat.le_refl _,λ _ h=>.inl h,λ _ _ _=>rfl⟩
theorem Gw.trans {H H1 H2:Nat→Prop} {S S1 S2:Fr.Å} (a:Gw H S H1 S1) (b:Gw H1 S1 H2 S2):Gw H S H2 S2 where
 le:=Nat.le_trans a.le b.le
 nw x h:=by
  rcases b.nw x h with h|h
  ·exact a.nw x h
  ·exact .inr (Nat.le_trans a.le h)
 old x h1 h2:=by
  rw[b.old x (Nat.lt_of_lt_of_le h1 a.le) λ q=>?_]
  ·exact a.old x h1 h2
  ·rcases a.nw x q with q|q
   ·exact h2 q
   ·omega
theorem Kd.gw {dA:Nat} {H:Nat→Prop} {S S':Fr.Å} (k:Kd dA S S') (hd:H dA):Gw H S H S':=⟨k.le,λ _ h=>.inl h,λ x h n=>k.old x h λ q=>n (q▸hd)⟩
def RSt (ow:Nat) (md:List Nat) (F:Fm) (H:Nat→Prop) (S:Fr.Å) (r:Fr.RS) (q:RS):Prop:=match q with
 | .nx p dw=>∃ s' S' H' R',r=.nx s' S'∧Rl md F H' R' p dw s' S'∧Gw H S H' S'
 | .bk p dw=>∃ s' S' H' R',r=.bk s' S'∧Rl md F H' R' p dw s' S'∧Gw H S H' S'
 | .ct p dw=>∃ s' S' H' R',r=.ct s' S'∧Rl md F H' R' p dw s' S'∧Gw H S H' S'
 | .ex c x p dw=>∃ y s' S' H' R',r=.ex c y s' S'∧Rl md F H' R' p dw s' S'∧Gw H S H' S'∧Vx F S' y x
 | .rt d dw=>∃ w S',r=.rt w S'∧S'[F.dA]?=some (Fr.oI dw)∧Kd F.dA F.S0 S'∧Ro ow F w d S'
 | .bad=>True
def PS (ow:Nat) (md:List Nat) (st:Fr.Ì) (q:Ì):Prop:=∀ F H R p dw s S,Rl md F H R p dw s S→RSt ow md F H S (st s S) (q p dw)
section
variable{ow:Nat}{md:List Nat}{F:Fm}{H H1:Nat→Prop}{R:Nat→Nat→Prop}{p:Sl}{dw ĥ:Dw}{s:Fr.Sl}{S S1 S':Fr.Å}{w:Fr.W}{d:W}
theorem RSt.gw {r:Fr.RS} {q:RS} (g:Gw H S H1 S1) (h:RSt ow md F H1 S1 r q):RSt ow md F H S r q:=by
 cases q with
 |nx p dw=>obtain ⟨a,b,c,d,e1,e2,e3⟩:=h;exact ⟨a,b,c,d,e1,e2,g.trans e3⟩
 |bk p dw=>obtain ⟨a,b,c,d,e1,e2,e3⟩:=h;exact ⟨a,b,c,d,e1,e2,g.trans e3⟩
 |ct p dw=>obtain ⟨a,b,c,d,e1,e2,e3⟩:=h;exact ⟨a,b,c,d,e1,e2,g.trans e3⟩
 |ex c x p dw=>obtain ⟨y,a,b,c,d,e1,e2,e3,e4⟩:=h;exact ⟨y,a,b,c,d,e1,e2,g.trans e3,e4⟩
 |rt d dw=>exact h
 |bad=>trivial
theorem RSt.â {α β:Type} {C:α→β→Fr.Å→Prop} {r:Fr.Rs α} {q:Rs β} {k:α→Fr.Å→Fr.RS} {k':β→Dw→RS} (l:Rl md F H R p dw s S) (h:RM F C S r q)
  (n:∀ w d S' ĥ,Kd F.dA S S'→Rl md F H R p ĥ s S'→C w d S'→RSt ow md F H S (k w S') (k' d ĥ)):RSt ow md F H S (Fr.â r s k) (â q p k'):=by
 cases q with
 |ok d õ=>
  obtain ⟨w,S1,e1,k1,d1,c1⟩:=h
  rw[e1]
  exact n w d S1 õ k1 (l.kd k1 d1) c1
 |ex c x õ=>
  obtain ⟨y,S1,e1,k1,d1,c1⟩:=h
  rw[e1]
  exact ⟨y,s,S1,H,R,rfl,l.kd k1 d1,k1.gw l.hdA,c1⟩
 |bad=>trivial
theorem RSt.next (l:Rl md F H R p dw s S):RSt ow md F H S (.nx s S) (.nx p dw):=⟨s,S,H,R,rfl,l,.refl⟩
theorem RSt.nextK (k:Kd F.dA S S') (l:Rl md F H R p dw s S'):RSt ow md F H S (.nx s S') (.nx p dw):=⟨s,S',H,R,rfl,l,k.gw l.hdA⟩
theorem ď:PS ow md Fr.Ñ Ñ:=λ F H R p dw s S l=>.next l
theorem RSt.Ă {r:Fr.RS} {q:RS} {b:Fr.Ì} {b':Ì} (h:RSt ow md F H S r q) (hb:PS ow md b b'):RSt ow md F H S (Fr.Ă r b) (Ă q b'):=by
 cases q with
 |nx p dw=>obtain ⟨s1,S1,H1,R1,rfl,e2,e3⟩:=h;exact (hb _ _ _ _ _ _ _ e2).gw e3
 |bk p dw=>obtain ⟨a,b,c,d,rfl,e2,e3⟩:=h;exact ⟨a,b,c,d,rfl,e2,e3⟩
 |ct p dw=>obtain ⟨a,b,c,d,rfl,e2,e3⟩:=h;exact ⟨a,b,c,d,rfl,e2,e3⟩
 |ex c x p dw=>obtain ⟨y,a,b,c,d,rfl,e2,e3,e4⟩:=h;exact ⟨y,a,b,c,d,rfl,e2,e3,e4⟩
 |rt d dw=>obtain ⟨w,S',rfl,h⟩:=h;exact ⟨w,S',rfl,h⟩
 |bad=>trivial
theorem Ú {a b:Fr.Ì} {a' b':Ì} (ha:PS ow md a a') (hb:PS ow md b b'):PS ow md (Fr.Æ a b) (Æ a' b'):=by
 intro F H R p dw s S l
 rw[Fr.seq_eq]
 exact (ha _ _ _ _ _ _ _ l).Ă hb
theorem Ìa {C:Cl Fr.W W} {e:Fr.Exp} {e':Exp} (he:PX C md e e'):PS ow md (Fr.ġ e) (ġ e'):=
 λ F H R p dw s S l=>RSt.â l (he _ _ _ _ _ _ _ l) λ w d S' ĥ k l' c=>.nextK k l'
theorem àq:PS ow md Fr.Ëx Ëx:=λ F H R p dw s S l=>⟨.non,S,rfl,l.dr,⟨l.le,l.fr⟩,.non,λ _ q=>(by simp[isL] at q),λ _=>⟨.non,TrR.no λ rows q=>by cases q⟩⟩
theorem ÃH {e:Fr.Exp} {e':Exp} (he:PX cT md e e'):PS 0 md (Fr.Ð e) (Ð e'):=
 λ F H R p dw s S l=>RSt.â l (he _ _ _ _ _ _ _ l) λ w d S' ĥ k l' c=>⟨w,S',rfl,l'.dr,⟨l'.le,l'.fr⟩,c,(λ q=>nomatch q),λ q=>nomatch q⟩
theorem Fsh.toF (l:Rl md F H R p dw s S) (h:Fsh F.dA H S.length S' w d):Fsh F.dA F.H0 F.S0.length S' w d:=by
 obtain ⟨a,o,e1,e2,e3,e4⟩:=h
 exact ⟨a,o,e1,Nat.le_trans l.le e2,e3,e4.less λ x q=>by
  rcases q with q|q
  ·exact .inl (l.h0 x q)
  ·exact .inr q⟩
theorem Ħ {e:Fr.Exp} {e':Exp} (he:PX cO md e e'):PS 1 md (Fr.Ð e) (Ð e'):=
 λ F H R p dw s S l=>RSt.â l (he _ _ _ _ _ _ _ l) λ w d S' ĥ k l' c=>⟨w,S',rfl,l'.dr,⟨l'.le,l'.fr⟩,c.1.less l.h0,λ _ q=>(c.2 q).toF l,λ q=>nomatch q⟩
theorem Õn {i:Nat} (m:Œ md i=1):PS 1 md (Fr.Ð (Fr.À i)) (Ð (À i)):=by
 intro F H R p dw s S l
 unfold Ð À
 split
 ·rename_i d e
  by_cases z:d=.non
  ·subst z
   exact ⟨.non,S,by unfold Fr.Ð Fr.À;simp only[l.ÀC i m e];rfl,l.dr,⟨l.le,l.fr⟩,.non,λ _ q=>(nomatch q),λ q=>nomatch q⟩
  obtain ⟨a,o,h1,h2,h3,h4⟩:=l.own i d m e z
  have ge:=(l.rh i a h3).2.2
  refine ⟨.ref a,S,by unfold Fr.Ð Fr.À;simp only[h1];rfl,l.dr,⟨l.le,l.fr⟩,.ref (λ q=>?_) h2 (h4.less l.h0),λ _ _=>⟨a,o,rfl,ge,h2,h4.less λ x q=>?_⟩,λ q=>nomatch q⟩
  ·have:=l.b0 _ q;omega
  ·rcases q with q|q
   ·exact l.h0 x q
   ·exact q▸(l.rh i a h3).1
 ·trivial
theorem ģ {c:Fr.ï} {c':ï} {a b:Fr.Ì} {a' b':Ì} (hc:PX cB md c c') (ha:PS ow md a a') (hb:PS ow md b b'):PS ow md (Fr.Ù c a b) (Ù c' a' b'):=
 λ F H R p dw s S l=>RSt.â l (hc _ _ _ _ _ _ _ l) λ w d S' ĥ k l' c=>by
  cases c
  cases w
  ·exact (hb _ _ _ _ _ _ _ l').gw (k.gw l.hdA)
  ·exact (ha _ _ _ _ _ _ _ l').gw (k.gw l.hdA)
theorem Ľ {i:Nat} {e:Fr.Exp} {e':Exp} (m:Œ md i=0) (he:PX cC md e e'):PS ow md (Fr.Ô i e) (Ô i e'):=
 λ F H R p dw s S l=>RSt.â l (he _ _ _ _ _ _ _ l) λ w d S' ĥ k l' c=>.nextK k (l'.Üg m c)
theorem àr {g:Fr.Ā} {g':Ā} {e:Fr.Exp} {e':Exp} (hg:TG md g g') (he:PX cC md e e'):PS ow md (Fr.Ëy g e) (Ëy g' e'):=
 λ F H R p dw s S l=>RSt.â l (he _ _ _ _ _ _ _ l) λ w d S' ĥ k l' c=>by
  cases h:g' d p with
  |none=>trivial
  |some p1=>
   obtain ⟨s1,q1,r1⟩:=hg _ _ _ _ _ _ _ _ _ _ l' c h
   simp only[q1]
   exact .nextK k r1
theorem ÈU {c:Str}:PS ow md (Fr.Ĥ c) (Ĥ c):=λ F H R p dw s S l=>⟨none,s,S,H,R,rfl,l,.refl,trivial⟩
theorem Rl.às (r:Rl md F H R p dw s S) (k:Kd F.dA S S') (e:S'[F.dA]?=some (Fr.oI ĥ)) {i a:Nat} {o:Fr.Ob} (m:Œ md i=1) (h1:S.length≤a) (h2:S'[a]?=some o) (v:Vo F.dA (λ x=>H x∨x=a) S' o d):
  Rl md F (λ x=>H x∨x=a) (λ j x=>if j=i then x=a else R j x) (p.set i (some d)) ĥ (s.set i (some (.ref a))) S':=
 have ha:=(List.getElem?_eq_some_iff.mp h2).1
 have q:=r.hide k e h1 ha
 {q with
  len:=by simp[r.len]
  val:=λ j e h1 h2=>by
   rcases ÀB h2 with ⟨rfl,hl,hx⟩ |⟨hn,h3⟩
   ·rw[m] at h1;cases h1
   ·obtain ⟨u,a1,a2⟩:=q.val j e h1 h3
    exact ⟨u,by rw[List.getElem?_set_ne hn];exact a1,a2⟩
  own:=λ j e b1 b2 z=>by
   rcases ÀB b2 with ⟨rfl,hl,hx⟩ |⟨hn,h3⟩
   ·cases hx
    exact ⟨a,o,List.getElem?_set_self (by rw[r.len];exact hl),h2,by simp,v⟩
   ·obtain ⟨a,o,a1,a2,a3,a4⟩:=q.own j e b1 h3 z
    exact ⟨a,o,by rw[List.getElem?_set_ne hn];exact a1,a2,by rw[if_neg (λ q=>hn q.symm)];exact a3,a4⟩
  ÀC:=λ j b1 b2=>by
   rcases ÀB b2 with ⟨rfl,hl,hx⟩ |⟨hn,h3⟩
   ·cases hx
    cases v
   ·rw[List.getElem?_set_ne hn];exact q.ÀC j b1 h3
  deep:=λ j e h1 h2=>by
   rcases ÀB h2 with ⟨rfl,hl,hx⟩ |⟨hn,h3⟩
   ·rw[m] at h1;cases h1
   ·obtain ⟨u,a1,a2⟩:=q.deep j e h1 h3
    refine ⟨u,by rw[List.getElem?_set_ne hn];exact a1,a2.less λ x t=>?_⟩
    have t':¬(if j=i then x=a else R j x):=t
    rw[if_neg (λ q:j=i=>hn q.symm)] at t'
    exact t'
  rh:=λ j x t=>by
   by_cases g:j=i
   ·rw[if_pos g] at t
    subst t
    refine ⟨.inr rfl,λ t=>?_,Nat.le_trans r.le h1⟩
    have:=r.hb _ r.hdA
    omega
   ·rw[if_neg g] at t
    exact q.rh j x t
  rd:=λ j j' x t t'=>by
   have nR:∀ l,¬R l a:=λ l t=>by have:=r.hb _ (r.rh l a t).1;omega
   by_cases g:j=i
   ·rw[if_pos g] at t
    by_cases g':j'=i
    ·rw[g,g']
    ·rw[if_neg g'] at t'
     subst t
     exact (nR _ t').elim
   ·rw[if_neg g] at t
    by_cases g':j'=i
    ·rw[if_pos g'] at t'
     subst t'
     exact (nR _ t).elim
    ·rw[if_neg g'] at t'
     exact r.rd j j' x t t'}
theorem Õo {i:Nat} {e:Fr.Exp} {e':Exp} (m:Œ md i=1) (he:PX cO md e e'):PS ow md (Fr.Ô i e) (Îd i e'):=by
 intro F H R p dw s S l
 refine RSt.â l (he _ _ _ _ _ _ _ l) λ w d S' ĥ k l' c=>?_
 by_cases g:isL d=true
 ·rw[if_pos g]
  obtain ⟨a,o,rfl,b2,b3,b4⟩:=c.2 g
  have q:=l.às k l'.dr m b2 b3 b4
  refine ⟨_,S',_,_,rfl,q,⟨k.le,λ x h=>?_,λ x h n=>k.old x h λ t=>n (t▸l.hdA)⟩⟩
  rcases h with h|h
  ·exact .inl h
  ·exact .inr (h▸b2)
 ·rw[if_neg g];trivial
theorem Rl.chg (r:Rl md F H R p dw s S) {i a:Nat} {o:Fr.Ob} (m:Œ md i=1) (h1:s[i]?=some (some (.ref a))) (h2:R i a) (v:Vo F.dA H S o d):Rl md F H R (p.set i (some d)) dw s (S.set a o):=
 have ha:=(r.rh i a h2).1
 have hl:=r.hb a ha
 have up:∀ x o',¬H x→S[x]?=some o'→¬H x∧(S.set a o)[x]?=some o':=λ x o' hx hq=>⟨hx,by
  have hne:a≠x:=λ q=>hx (q▸ha)
  rw[List.getElem?_set_ne hne];exact hq⟩
 {r with
  len:=by simp[r.len]
  dr:=by rw[List.getElem?_set_ne (r.rh i a h2).2.1];exact r.dr
  val:=λ j e b1 b2=>by
   rcases ÀB b2 with ⟨rfl,hl,hx⟩ |⟨hn,h3⟩
   ·rw[m] at b1;cases b1
   ·obtain ⟨u,a1,a2⟩:=r.val j e b1 h3
    exact ⟨u,a1,a2.of up⟩
  ÀC:=λ j b1 b2=>by
   rcases ÀB b2 with ⟨rfl,hl',hx⟩ |⟨hn,h3⟩
   ·cases hx
    cases v
   ·exact r.ÀC j b1 h3
  own:=λ j e b1 b2 z=>by
   rcases ÀB b2 with ⟨rfl,hl',hx⟩ |⟨hn,h3⟩
   ·cases hx
    exact ⟨a,o,h1,List.getElem?_set_self hl,h2,v.of up⟩
   ·obtain ⟨a',o',a1,a2,a3,a4⟩:=r.own j e b1 h3 z
    have hne:a≠a':=λ q=>hn (r.rd i j a h2 (q▸a3))
    exact ⟨a',o',a1,by rw[List.getElem?_set_ne hne];exact a2,a3,a4.of up⟩
  deep:=λ j e b1 b2=>by
   rcases ÀB b2 with ⟨rfl,hl,hx⟩ |⟨hn,h3⟩
   ·rw[m] at b1;cases b1
   ·obtain ⟨u,a1,a2⟩:=r.deep j e b1 h3
    exact ⟨u,a1,a2.of λ x o' hx hq=>⟨hx,by
     have hne:a≠x:=λ q=>hx λ t=>hn (r.rd i j a h2 (q▸t))
     rw[List.getElem?_set_ne hne];exact hq⟩⟩
  hb:=λ x q=>by simpa using r.hb x q
  fr:=λ x b c=>by
   have:=(r.rh i a h2).2.2
   rw[List.getElem?_set_ne (by omega)]
   exact r.fr x b c
  le:=by simpa using r.le}
theorem Ú1 {a:Nat} {o:Fr.Ob} (h:H a):Gw H S H (S.set a o):=⟨by simp,λ _ h=>.inl h,λ x hx n=>by
 have hne:a≠x:=λ q=>n (q▸h)
 rw[List.getElem?_set_ne hne]⟩
def MU (f:Fr.W→List Fr.W→Fr.M Fr.W) (u:Mu):Prop:=∀ dA H S a xs ds ws es zs,H dA→S[a]?=some (.lst xs)→Ó dA H S xs ds→Ó dA H S ws es→u ds es=some zs→∃ w ys,f (.ref a) ws S=.ok w (S.set a (.lst ys))∧Ó dA H S ys zs
theorem ÞV {i:Nat} {xs:List W} (l:Rl md F H R p dw s S) (m:Œ md i=1) (e:Ég p i=some xs):∃ a ws,s[i]?=some (some (.ref a))∧S[a]?=some (.lst ws)∧R i a∧Ó F.dA H S ws xs:=by
 unfold Ég at e
 split at e
 ·rename_i ys q
  cases e
  obtain ⟨a,o,h1,h2,h3,h4⟩:=l.own i _ m q (λ z=>nomatch z)
  cases h4 with
  |lst v=>exact ⟨a,_,h1,h2,h3,v⟩
 ·cases e
theorem ÔF {i:Nat} {f:Fr.W→List Fr.W→Fr.M Fr.W} {u:Mu} {a:Fr.Arg} {a':Arg} (m:Œ md i=1) (hf:MU f u) (ha:PX cCs md a a'):PS ow md (Fr.ġ (Fr.eM "list" f (Fr.À i) a)) (Íc i u a'):=by
 intro F H R p dw s S l
 unfold Íc
 cases ho:Ég p i with
 |none=>trivial
 |some xs=>
  obtain ⟨b,ws,h1,h2,h3,h4⟩:=ÞV l m ho
  have hq:=ha _ _ _ _ _ _ _ l
  have e0:Fr.ġ (Fr.eM "list" f (Fr.À i) a) s S=Fr.â (Fr.bd (a s) (f (.ref b)) S) s λ _ S'=>.nx s S':=by
   have t:Fr.tyM "list" (.ref b) S=true:=by unfold Fr.tyM;simp only[h2];rfl
   have v:Fr.À i s S=.ok (.ref b) S:=by unfold Fr.À;simp only[h1]
   rw[Fr.ū,Fr.ÄS,v,Fr.ė]
   simp only[t,if_true]
   rfl
  rw[e0]
  simp only
  cases hy:a' p dw with
  |bad=>trivial
  |ex c x õ=>
   rw[hy] at hq
   obtain ⟨y,S1,q1,q2,q3,q4⟩:=hq
   exact ⟨y,s,S1,H,R,by unfold Fr.bd;rw[q1];rfl,l.kd q2 q3,q2.gw l.hdA,q4⟩
  |ok ys õ=>
   rw[hy] at hq
   obtain ⟨vs,S1,q1,k1,q3,q4⟩:=hq
   have l1:=l.kd k1 q3
   show RSt ow md F H S _ (muK p i (u xs ys) õ)
   cases hu:u xs ys with
   |none=>trivial
   |some zs=>
    have hb:=k1.get (l.rh i b h3).2.1 h2
    obtain ⟨w,nn,z1,z2⟩:=hf F.dA H S1 b ws xs vs ys zs l.hdA hb (h4.kd k1 l.hdA) q4 hu
    refine ⟨s,S1.set b (.lst nn),H,R,by unfold Fr.bd;rw[q1];simp only[z1];rfl,l1.chg m h1 h3 (.lst z2),(k1.gw l.hdA).trans (Ú1 (l.rh i b h3).1)⟩
theorem ÌK:MU Fr.Âd ÅR:=by
 intro dA H S a xs ds ws es zs hd h1 h2 h3 h4
 unfold ÅR at h4
 split at h4
 ·obtain ⟨w,rfl,v⟩:=h3.ÅS
  split at h4
  ·rename_i g
   cases h4
   refine ⟨.non,xs++[w],?_,h2.append (.cons v .nil)⟩
   unfold Fr.Âd
   simp only[h1,if_pos (h2.length▸g)]
  ·cases h4
 ·cases h4
theorem ÏD (g:Fr.Ā) (b:Fr.Ì) (xs:List Fr.W):∀ (k:Nat) (s:Fr.Sl) (S:Fr.Å),k≤xs.length→Fr.ÄJ g b xs.length (λ i _=>xs[i]?) (λ _=>true) k s S=Fr.Ź g b (xs.drop (xs.length-k)) s S
 |0,s,S,_=>by simp[Fr.ÄJ,Fr.Ź]
 |k+1,s,S,h=>by
  unfold Fr.ÄJ
  have hi:xs.length-(k+1)<xs.length:=by omega
  rw[List.getElem?_eq_getElem hi,List.drop_eq_getElem_cons hi]
  have e:xs.length-(k+1)+1=xs.length-k:=by omega
  rw[e]
  unfold Fr.Ź
  simp only
  cases g xs[xs.length-(k+1)] s with
  |none=>rfl
  |some s1=>
   simp only
   cases b s1 S with
   |nx s2 S2=>exact ÏD g b xs k s2 S2 (by omega)
   |ct s2 S2=>exact ÏD g b xs k s2 S2 (by omega)
   |_=>rfl
theorem ÏE (g:Fr.Ā) (b:Fr.Ì) (a n:Nat):∀ (k:Nat) (s:Fr.Sl) (S:Fr.Å),Fr.ÄJ g b n (Fr.Êo a n) (Fr.Êp a n) k s S=Fr.forL g b a n k s S
 |0,s,S=>by
  unfold Fr.ÄJ Fr.forL Fr.Êp
  cases S[a]? with
  |none=>simp
  |some o=>cases o with
   |lst zs=>simp
   |_=>simp
 |k+1,s,S=>by
  unfold Fr.ÄJ Fr.forL Fr.Êo
  cases S[a]? with
  |none=>rfl
  |some o=>cases o with
   |lst zs=>
    simp only
    by_cases hz:zs.length=n
    ·simp only[if_pos hz]
     cases zs[n-(k+1)]? with
     |none=>rfl
     |some x=>
      simp only
      cases g x s with
      |none=>rfl
      |some s1=>
       simp only
       cases b s1 S with
       |nx s2 S2=>exact ÏE g b a n k s2 S2
       |ct s2 S2=>exact ÏE g b a n k s2 S2
       |_=>rfl
    ·simp only[if_neg hz]
   |_=>rfl
theorem àt {g:Fr.Ā} {b:Fr.Ì} {src:Fr.Src} {s:Fr.Sl} {S:Fr.Å} {n:Nat} {f:Nat→Fr.Å→Option Fr.W} {c:Fr.Å→Bool} (q:ÙJ src S n f c):Fr.Ñx g b s src S=Fr.ÄJ g b n f c n s S:=by
 unfold Fr.Ñx
 cases src with
 |vals xs=>
  obtain ⟨rfl,rfl,rfl⟩:=q
  rw[ÏD g b xs xs.length s S (Nat.le_refl _)]
  simp
 |live a=>
  obtain ⟨ys,e1,rfl,rfl,rfl⟩:=q
  simp only[e1]
  rw[ÏE]
 |gen n' f' c'=>
  obtain ⟨rfl,rfl,rfl⟩:=q
  rfl
theorem Ú2 {g:Fr.Ā} {b:Fr.Ì} {n:Nat} {f:Nat→Fr.Å→Option Fr.W} {c:Fr.Å→Bool} {k:Nat} {s s1:Fr.Sl} {S:Fr.Å} {x:Fr.W} (h:f (n-(k+1)) S=some x) (hg:g x s=some s1):Fr.ÄJ g b n f c (k+1) s S=Fr.ÿ (b s1 S) (Fr.ÄJ g b n f c k):=by
 conv=>lhs;unfold Fr.ÄJ
 simp only[h,hg]
 unfold Fr.ÿ
 cases b s1 S<;>rfl
theorem RSt.ÿ {r:Fr.RS} {q:RS} {k:Fr.Ì} {k':Ì} (h:RSt ow md F H S r q) (hk:∀ H1 R1 p1 õ s1 S1,Rl md F H1 R1 p1 õ s1 S1→Gw H S H1 S1→RSt ow md F H1 S1 (k s1 S1) (k' p1 õ)):RSt ow md F H S (Fr.ÿ r k) (ÿ q k'):=by
 cases q with
 |nx p dw=>obtain ⟨s1,S1,H1,R1,rfl,e2,e3⟩:=h;exact (hk _ _ _ _ _ _ e2 e3).gw e3
 |bk p dw=>obtain ⟨a,b,c,d,rfl,e2,e3⟩:=h;exact ⟨a,b,c,d,rfl,e2,e3⟩
 |ct p dw=>obtain ⟨s1,S1,H1,R1,rfl,e2,e3⟩:=h;exact (hk _ _ _ _ _ _ e2 e3).gw e3
 |ex c x p dw=>obtain ⟨y,a,b,c,d,rfl,e2,e3,e4⟩:=h;exact ⟨y,a,b,c,d,rfl,e2,e3,e4⟩
 |rt d dw=>obtain ⟨w,S',rfl,h⟩:=h;exact ⟨w,S',rfl,h⟩
 |bad=>trivial
theorem ØH {g:Fr.Ā} {g':Ā} {b:Fr.Ì} {b':Ì} (hg:TG md g g') (hb:PS ow md b b') {F:Fm} {Hb:Nat→Prop} {Sb:Fr.Å} {n:Nat} {f:Nat→Fr.Å→Option Fr.W} {c:Fr.Å→Bool} {ws:List Fr.W} {ÏC:List W}
  (hv:Ó F.dA Hb Sb ws ÏC) (hn:n=ws.length) (hs:∀ S'':Fr.Å,(∀(x:Nat) (o:Fr.Ob),¬AH F Hb x→Sb[x]?=some o→S''[x]?=some o)→(∀(i:Nat) (w:Fr.W),ws[i]?=some w→f i S''=some w)∧c S''=true):
  ∀(suf pre:List W),ÏC=pre++suf→∀ H R p dw s S,Rl md F H R p dw s S→Gw Hb Sb H S→RSt ow md F H S (Fr.ÄJ g b n f c suf.length s S) (Ź g' b' suf p dw)
 | [],pre,e1,H,R,p,dw,s,S,l,k=>by
  unfold Ź
  have hc:=(hs S λ x o hx hq=>by rw[k.old x (List.getElem?_eq_some_iff.mp hq).1 hx];exact hq).2
  have:Fr.ÄJ g b n f c 0 s S=.nx s S:=by unfold Fr.ÄJ;rw[if_pos hc]
  rw[List.length_nil,this]
  exact .next l
 |d::suf,pre,e1,H,R,p,dw,s,S,l,k=>by
  have hdx:ÏC[pre.length]?=some d:=by rw[e1];simp
  obtain ⟨w,hw,vw⟩:=hv.get' hdx
  have hfx:f (n-(suf.length+1)) S=some w:=by
   have:n-(suf.length+1)=pre.length:=by rw[hn,hv.length,e1];simp
   rw[this]
   exact (hs S λ x o hx hq=>by rw[k.old x (List.getElem?_eq_some_iff.mp hq).1 hx];exact hq).1 _ _ hw
  have vw1:Vw F.dA H S w d:=vw.of λ x o hx hq=>by
   have hl:=(List.getElem?_eq_some_iff.mp hq).1
   refine ⟨λ t=>?_,by rw[k.old x hl hx];exact hq⟩
   rcases k.nw x t with t|t
   ·exact hx t
   ·omega
  unfold Ź
  cases hgp:g' d p with
  |none=>trivial
  |some p1=>
   obtain ⟨s1,q1,r1⟩:=hg _ _ _ _ _ _ _ _ _ _ l vw1 hgp
   rw[List.length_cons,Ú2 hfx q1]
   exact (hb _ _ _ _ _ _ _ r1).ÿ λ H1 R1 p1 õ s1 S1 l1 g1=>ØH hg hb hv hn hs suf (pre++[d]) (by rw[e1];simp) H1 R1 p1 õ s1 S1 l1 (k.trans g1)
theorem Ãj {it:Fr.Sl→Fr.M Fr.Src} {it':Sl→M (List W)} {g:Fr.Ā} {g':Ā} {b:Fr.Ì} {b':Ì} (hi:PX (cG AH) md it it') (hg:TG md g g') (hb:PS ow md b b'):PS ow md (Fr.ê it g b) (ê it' g' b'):=by
 intro F H R p dw s S l
 rw[Fr.ÁE]
 refine RSt.â l (hi _ _ _ _ _ _ _ l) λ src ds S' ĥ k l' c=>?_
 obtain ⟨n,f,c,ws,a1,a2,a3,a4⟩:=c
 rw[àt a1]
 have en:n=ds.length:=by rw[a3,a2.length]
 have h:=ØH hg hb a2 a3 a4 ds [] rfl H R p ĥ s S' l' .refl
 rw[←en] at h
 exact h.gw (k.gw l.hdA)
theorem Ö9 (c:Fr.ï) (b:Fr.Ì) (n:Nat) (s:Fr.Sl) (S:Fr.Å):Fr.ÁB c b (n+1) s S=Fr.â (c s S) s λ q S'=>if q=true then Fr.ÿ (b s S') (Fr.ÁB c b n) else .nx s S':=by
 conv=>lhs;unfold Fr.ÁB
 congr 1
theorem Ó1 {c:Fr.ï} {c':ï} {b:Fr.Ì} {b':Ì} (hc:PX cB md c c') (hb:PS ow md b b'):∀ n:Nat,PS ow md (Fr.ÁB c b n) (ÁB c' b' n)
 |0=>λ F H R p dw s S l=>by unfold ÁB;trivial
 |n+1=>λ F H R p dw s S l=>by
  rw[Ö9]
  unfold ÁB
  refine RSt.â l (hc _ _ _ _ _ _ _ l) λ q q' S' ĥ k l' cc=>?_
  cases cc
  cases q with
  |false=>simp only[Bool.false_eq_true,if_false];exact .nextK k l'
  |true=>
   simp only[if_true]
   exact ((hb _ _ _ _ _ _ _ l').ÿ λ H1 R1 p1 õ s1 S1 l1 g1=>Ó1 hc hb n _ _ _ _ _ _ _ l1).gw (k.gw l.hdA)
theorem ØI {n:Nat} {c:Fr.ï} {c':ï} {b:Fr.Ì} {b':Ì} (hc:PX cB md c c') (hb:PS ow md b b'):PS ow md (Fr.Èd n c b) (Èd n c' b'):=Ó1 hc hb n
theorem RSt.Ç4 {r:Fr.RS} {q:RS} (h:RSt ow md F H S r q):RSt ow md F H S (Fr.Ç4 r) (Ç4 q):=by
 cases q with
 |nx p dw=>obtain ⟨a,b,c,d,rfl,e2,e3⟩:=h;exact ⟨a,b,c,d,rfl,e2,e3⟩
 |bk p dw=>obtain ⟨a,b,c,d,rfl,e2,e3⟩:=h;exact ⟨a,b,c,d,rfl,e2,e3⟩
 |ct p dw=>obtain ⟨a,b,c,d,rfl,e2,e3⟩:=h;exact ⟨a,b,c,d,rfl,e2,e3⟩
 |ex c x p dw=>trivial
 |rt d dw=>obtain ⟨w,S',rfl,h⟩:=h;exact ⟨w,S',rfl,h⟩
 |bad=>trivial
theorem Vx.iff {y:Option (List (Str×Fr.W))} {x:Option (List (Str×W))} (h:Vx F S y x):y=none↔x=none:=by
 unfold Vx at h
 split at h
 ·simp
 ·simp
 ·exact h.elim
theorem ÙM {b:Fr.Ì} {b':Ì} {tab:List (Str×Bool)} {su:Str→Option (List (Str×Fr.W))→Fr.Ì} {su':Str→Option (List (Str×W))→Ì} (hb:PS ow md b b') (hs:∀ c y x,(y=none↔x=none)→PS ow md (su c y) (su' c x)):PS ow md (Fr.Ç5 b tab su) (Ç5 b' tab su'):=by
 intro F H R p dw s S l
 rw[Fr.Âj]
 have h:=hb _ _ _ _ _ _ _ l
 unfold Ç5
 cases hq:b' p dw with
 |nx p dw=>rw[hq] at h;obtain ⟨a,b,c,d,e1,e2,e3⟩:=h;rw[e1];exact ⟨a,b,c,d,rfl,e2,e3⟩
 |bk p dw=>rw[hq] at h;obtain ⟨a,b,c,d,e1,e2,e3⟩:=h;rw[e1];exact ⟨a,b,c,d,rfl,e2,e3⟩
 |ct p dw=>rw[hq] at h;obtain ⟨a,b,c,d,e1,e2,e3⟩:=h;rw[e1];exact ⟨a,b,c,d,rfl,e2,e3⟩
 |rt d dw=>rw[hq] at h;obtain ⟨w,S',e1,h⟩:=h;rw[e1];exact ⟨w,S',rfl,h⟩
 |bad=>trivial
 |ex c x p1 õ=>
  rw[hq] at h
  obtain ⟨y,s1,S1,H1,R1,e1,e2,e3,e4⟩:=h
  rw[e1]
  unfold ÉX Fr.ÉX
  simp only
  cases hx:Fr.Ãz tab c with
  |none=>trivial
  |some k=>
   cases k with
   |false=>exact ⟨y,s1,S1,H1,R1,rfl,e2,e3,e4⟩
   |true=>exact ((hs c y x e4.iff _ _ _ _ _ _ _ e2).Ç4).gw e3
theorem RSt.È3 {r:Fr.RS} {q:RS} (i:Nat) (h:RSt ow md F H S r q):RSt ow md F H S (Fr.È3 i r) (È3 i q):=by
 cases q with
 |nx p dw=>obtain ⟨a,b,c,d,rfl,e2,e3⟩:=h;exact ⟨_,b,c,d,rfl,e2.ÙL i,e3⟩
 |bk p dw=>obtain ⟨a,b,c,d,rfl,e2,e3⟩:=h;exact ⟨_,b,c,d,rfl,e2.ÙL i,e3⟩
 |ct p dw=>obtain ⟨a,b,c,d,rfl,e2,e3⟩:=h;exact ⟨_,b,c,d,rfl,e2.ÙL i,e3⟩
 |ex c x p dw=>obtain ⟨y,a,b,c,d,rfl,e2,e3,e4⟩:=h;exact ⟨y,a,b,c,d,rfl,e2,e3,e4⟩
 |rt d dw=>obtain ⟨w,S',rfl,h⟩:=h;exact ⟨w,S',rfl,h⟩
 |bad=>trivial
theorem ÐA {α:Type} {ds:List α} {n i:Nat} {d:α} (h:(ds.map some++List.replicate n none)[i]?=some (some d)):ds[i]?=some d:=by
 by_cases g:i<ds.length
 ·rw[List.getElem?_append_left (by simpa using g),List.getElem?_map] at h
  cases hx:ds[i]? with
  |none=>rw[hx] at h;cases h
  |some x=>rw[hx] at h;cases h;rfl
 ·rw[List.getElem?_append_right (by simpa using g),List.getElem?_replicate] at h
  split at h<;>cases h
theorem Rl.entry {dA:Nat} {ws:List Fr.W} {ds:List W} {n k:Nat} (hm:∀ i,i<k→Œ md i=0) (h2:∀ i,Œ md i=0∨Œ md i=1∨Œ md i=2) (hd:H dA) (hb:∀ x,H x→x<S.length) (e:S[dA]?=some (Fr.oI dw)) (v:Ó dA H S ws ds) (hk:ds.length=k):
  Rl md ⟨dA,S,H⟩ H (λ _ _=>False) (ds.map some++List.replicate (n-ds.length) none) dw (ws.map some++List.replicate (n-ws.length) none) S where
 len:=by simp[v.length]
 dr:=e
 hd:=hd
 val i d h1 h2:=by
  obtain ⟨w,a,b⟩:=v.get' (ÐA h2)
  have hl:=(List.getElem?_eq_some_iff.mp a).1
  refine ⟨w,?_,b⟩
  rw[List.getElem?_append_left (by simpa using hl),List.getElem?_map,a]
  rfl
 ÀC i h1 h2:=by
  have hl:=(List.getElem?_eq_some_iff.mp (ÐA h2)).1
  rw[hm i (by omega)] at h1
  cases h1
 own i d h1 h2 _:=by
  have hl:=(List.getElem?_eq_some_iff.mp (ÐA h2)).1
  rw[hm i (by omega)] at h1
  cases h1
 deep i d h1 h2:=by
  have hl:=(List.getElem?_eq_some_iff.mp (ÐA h2)).1
  rw[hm i (by omega)] at h1
  cases h1
 rh i x h:=h.elim
 rd i j x h:=h.elim
 hb:=hb
 h0 x h:=h
 hn x h:=.inl h
 b0:=hb
 fr x h1 h2:=rfl
 le:=Nat.le_refl _
 md2:=h2
theorem ÄL {n k:Nat} {b:Fr.Ì} {b':Ì} (hb:PS ow md b b') (hm:∀ i,i<k→Œ md i=0) (h2:∀ i,Œ md i=0∨Œ md i=1∨Œ md i=2):FS ow k (Fr.ē n b) (ē n b'):=by
 intro dA H S ws ds dw hd hbd e v hk
 have l:=Rl.entry (n:=n) hm h2 hd hbd e v hk
 have h:=hb _ _ _ _ _ _ _ l
 rw[Fr.ÃV]
 unfold ē
 revert h
 cases b' (ds.map some++List.replicate (n-ds.length) none) dw with
 |nx p1 õ=>
  rintro ⟨s1,S1,H1,R1,e1,e2,e3⟩
  rw[e1]
  exact ⟨.non,S1,rfl,⟨e2.le,e2.fr⟩,e2.dr,.non,λ _ q=>(by simp[isL] at q),λ _=>⟨.non,TrR.no λ rows q=>by cases q⟩⟩
 |rt d õ=>
  rintro ⟨w,S1,e1,e2,e3,e4⟩
  rw[e1]
  exact ⟨w,S1,rfl,e3,e2,e4⟩
 |ex c x p1 õ=>
  rintro ⟨y,s1,S1,H1,R1,e1,e2,e3,e4⟩
  rw[e1]
  exact ⟨y,S1,rfl,⟨e2.le,e2.fr⟩,e2.dr,e4⟩
 |bk p1 õ=>intro _;trivial
 |ct p1 õ=>intro _;trivial
 |bad=>intro _;trivial
theorem âc {k:Nat}:FS ow k (λ _=>Fr.bad) (λ _=>bad):=λ dA H S ws ds dw hd hbd e v hk=>trivial
theorem Á5 {md:List Nat} (h:md.all (λ x=>decide (x≤2))=true) (i:Nat):Œ md i=0∨Œ md i=1∨Œ md i=2:=by
 unfold Œ
 cases hx:md[i]? with
 |none=>exact .inl rfl
 |some x=>
  have:=List.all_eq_true.mp h x (List.mem_of_getElem? hx)
  simp at this
  simp only[Option.getD_some]
  omega
end
end Pu
namespace Pu
open PySem
def Êr (n:Int) (dw:Dw):Int×Dw:=match dw.reverse with
 | []=>(0,dw)
 |z::r=>(z.fmod n,r.reverse)
def ÔG:Fn:=λ ws dw=>match ws with
 | [.dr,.int n]=>if 0<n then .ok (.int (Êr n dw).1) (Êr n dw).2 else .bad
 |_=>.bad
theorem ÞW {n:Int} (h:0<n) (dw:Dw):0≤(Êr n dw).1∧(Êr n dw).1<n:=by
 unfold Êr
 split
 ·exact ⟨Int.le_refl _,h⟩
 ·exact ⟨Int.fmod_nonneg_of_pos _ h,Int.fmod_lt_of_pos _ h⟩
theorem àu (S:Fr.Å) (d:Nat) (zs:List Int) (n:Int) (hd:S[d]?=some (Fr.oI zs)) (hn:0<n):Fr.Ðu [.ref d,.int n] S=.ok (.int (Êr n zs).1) (S.set d (Fr.oI (Êr n zs).2)):=by
 unfold Êr
 have hn0:n≠0:=by omega
 cases hz:zs.reverse with
 |nil=>
  have e:zs=[]:=by simpa using hz
  subst e
  have e2:S.set d (Fr.oI [])=S:=Fr.set_same hd
  unfold Fr.Ðu Fr.Ðt
  simp only[Fr.ÃV,Fr.seq_eq,Fr.Á0,Fr.ÃC,Fr.ÁY,Fr.ÃD,Fr.ĸ,Fr.ũ,Fr.ň,Fr.ė,Fr.Â9,Fr.ÃW,List.map_cons,List.map_nil,List.cons_append,List.nil_append,Fr.Àa,Fr.ÁF,hd,Fr.ÃE,Fr.ÀR,Fr.ÁZ,Fr.Ţ,Fr.ÁD,List.length_nil,Int.ofNat_zero,decide_true,if_true,Fr.Âe,Fr.Ãt,e2]
 |cons z r=>
  have e:zs=r.reverse++[z]:=by
   have:=congrArg List.reverse hz
   simpa using this
  subst e
  obtain ⟨v,zs',h1,h2⟩:=Fr.Û7 S d _ n hd hn
  have e0:¬ (((List.map Fr.W.int (r.reverse++[z])).length:Int)=0):=by simp;omega
  have e1:(List.map Fr.W.int (r.reverse++[z]))[(List.map Fr.W.int (r.reverse++[z])).length-1]?=some (Fr.W.int z):=by simp
  have e2:(List.map Fr.W.int (r.reverse++[z])).dropLast=r.reverse.map Fr.W.int:=by simp
  unfold Fr.Ðu Fr.Ðt
  simp only[Fr.ÃV,Fr.seq_eq,Fr.Á0,Fr.ÃC,Fr.ÁY,Fr.ÃD,Fr.ĸ,Fr.ũ,Fr.ň,Fr.ė,Fr.Â9,Fr.ÃW,List.map_cons,List.map_nil,List.cons_append,List.nil_append,Fr.Àa,Fr.ÁX,Fr.ÁF,hd,Fr.ÃE,Fr.ÀR,Fr.ÁZ,Fr.Ţ,Fr.ÁD,e0,decide_false,Bool.false_eq_true,if_false,Fr.ÀQ,Fr.ŗ,Fr.ÄS,Fr.Äy,Fr.Ãv,if_true,Fr.ÅQ,e1,Fr.Ãu,e2,Fr.ÀJ,Fr.ÀI,hn0,ne_eq,not_false_eq_true,Fr.Ãt]
theorem ÞX:FS 1 2 (Fr.ē 2 Fr.Ðt) ÔG:=by
 intro dA H S ws ds dw hd hb e v hk
 unfold ÔG
 split
 ·obtain ⟨a,b,rfl,h1,h2⟩:=v.Ók
  cases h1.ß9
  cases h2.int_inv
  rename_i n
  by_cases g:0<n
  ·rw[if_pos g]
   have hl:=(List.getElem?_eq_some_iff.mp e).1
   refine ⟨_,_,àu S dA dw n e g,⟨by simp,λ x hx hn=>by rw[List.getElem?_set_ne (λ q=>hn q.symm)]⟩,List.getElem?_set_self hl,.int _,λ _ q=>(by simp[isL] at q),λ q=>nomatch q⟩
  ·rw[if_neg g];trivial
 ·trivial
theorem Üh {b rest:Fr.Ì} {q:Ì} {md:List Nat} {k:Nat} (hb:b=Fr.Æ (Fr.Ô 1 (Fr.Ò (Fr.ē 5 Fr.Òh) (Fr.Á (Fr.À 0) Fr.Ä))) rest) (hp:PS 0 md rest q) (h2:∀ i,Œ md i=0∨Œ md i=1∨Œ md i=2) (h1:Œ md 1=0)
  (pure:∀ dw,∃ĥ,q (none::some .dr::List.replicate k none) dw=.rt (.bl true) ĥ):∀ ns:List Int,ns.length≤63→∃ S,Fr.ē (k+2) b [.fl (ns.map .int)] []=.ok (.bl true) S:=by
 intro ns hns
 obtain ⟨zs,e⟩:=Fr.ÚQ ns hns []
 have l:Rl md ⟨0,[Fr.oI zs],λ x=>x=0⟩ (λ x=>x=0) (λ _ _=>False) (none::some .dr::List.replicate k none) zs (some (.fl (ns.map .int))::some (.ref 0)::List.replicate k none) [Fr.oI zs]:=
  {len:=by simp
   dr:=rfl
   hd:=rfl
   val:=λ i d a c=>by
    match i with
    |0=>simp at c
    |1=>simp at c;subst c;exact ⟨.ref 0,rfl,.dr⟩
    |i+2=>simp[List.getElem?_replicate] at c
   ÀC:=λ i a c=>by
    match i with
    |0=>simp at c
    |1=>rw[h1] at a;cases a
    |i+2=>simp[List.getElem?_replicate] at c
   own:=λ i d a c _=>by
    match i with
    |0=>simp at c
    |1=>rw[h1] at a;cases a
    |i+2=>simp[List.getElem?_replicate] at c
   deep:=λ i d a c=>by
    match i with
    |0=>simp at c
    |1=>rw[h1] at a;cases a
    |i+2=>simp[List.getElem?_replicate] at c
   rh:=λ _ _ h=>h.elim
   rd:=λ _ _ _ h=>h.elim
   hb:=λ x h=>by simp[h]
   h0:=λ _ h=>h
   hn:=λ _ h=>.inl h
   b0:=λ x h=>by have h':x=0:=h;simp[h']
   fr:=λ _ _ _=>rfl
   le:=Nat.le_refl _
   md2:=h2}
 have h:=hp _ _ _ _ _ _ _ l
 obtain ⟨ĥ,hq⟩:=pure zs
 rw[hq] at h
 obtain ⟨w,S1,e1,e2,e3,e4⟩:=h
 cases e4.1.Ïz
 refine ⟨S1,?_⟩
 rw[Fr.ÃV,hb,Fr.seq_eq]
 have e0:Fr.Ô 1 (Fr.Ò (Fr.ē 5 Fr.Òh) (Fr.Á (Fr.À 0) Fr.Ä)) ([Fr.W.fl (ns.map .int)].map some++List.replicate (k+2- [Fr.W.fl (ns.map .int)].length) none) []=.nx (some (.fl (ns.map .int))::some (.ref 0)::List.replicate k none) [Fr.oI zs]:=by
  rw[Fr.Âh,Fr.ÀG,Fr.ĸ]
  simp only[List.map_cons,List.map_nil,List.cons_append,List.nil_append,Fr.Àa,Fr.ė,Fr.ň,Fr.ũ,Fr.Â9]
  rw[e]
  simp only[Fr.Ţ,List.length_nil,List.nil_append,List.length_cons]
  rw[show k+2-(0+1)=k+1 from by omega,List.replicate_succ]
  rfl
 rw[e0,Fr.ŗ,e1]
 rfl
def ý {α β:Type} (r:Rs α) (k:α→M β):Rs β:=match r with
 | .ok a S=>k a S
 | .ex c d S=>.ex c d S
 | .bad=>.bad
section
variable{α β:Type}{c:Prop}[Decidable c]
theorem ň (f:M α) (k:α→M β) (S:Dw):bd f k S=ý (f S) k:=rfl
theorem ė (a:α) (S:Dw) (k:α→M β):ý (.ok a S) k=k a S:=rfl
theorem Äk (x:Str) (d:Option (List (Str×W))) (S:Dw) (k:α→M β):ý (.ex x d S) k=.ex x d S:=rfl
theorem Âr (k:α→M β):ý .bad k=.bad:=rfl
theorem Âs (x y:Rs α) (k:α→M β):ý (if c then x else y) k=if c then ý x k else ý y k:=by split<;>rfl
theorem Â9 (a:α) (S:Dw):rt a S=.ok a S:=rfl
theorem Äl (S:Dw):(bad:M α) S=.bad:=rfl
theorem Ât (f g:M α) (S:Dw):(if c then f else g) S=if c then f S else g S:=by split<;>rfl
theorem Ţ (a:α) (S:Dw) (s:Sl) (k:α→Dw→RS):â (.ok a S) s k=k a S:=rfl
theorem Äm (x:Str) (d:Option (List (Str×W))) (S:Dw) (s:Sl) (k:α→Dw→RS):â (.ex x d S) s k=.ex x d s S:=rfl
theorem Âu (s:Sl) (k:α→Dw→RS):â .bad s k=.bad:=rfl
theorem Âv (x y:Rs α) (s:Sl) (k:α→Dw→RS):â (if c then x else y) s k=if c then â x s k else â y s k:=by split<;>rfl
theorem ÐB (a b:Ì) (s:Sl) (S:Dw):Æ a b s S=Ă (a s S) b:=rfl
theorem ŗ (s:Sl) (S:Dw) (b:Ì):Ă (.nx s S) b=b s S:=rfl
theorem Âe (w:W) (S:Dw) (b:Ì):Ă (.rt w S) b=.rt w S:=rfl
theorem Âw (s:Sl) (S:Dw) (b:Ì):Ă (.bk s S) b=.bk s S:=rfl
theorem Âx (s:Sl) (S:Dw) (b:Ì):Ă (.ct s S) b=.ct s S:=rfl
theorem Ây (x:Str) (d:Option (List (Str×W))) (s:Sl) (S:Dw) (b:Ì):Ă (.ex x d s S) b=.ex x d s S:=rfl
theorem À3 (b:Ì):Ă .bad b=.bad:=rfl
theorem À4 (x y:RS) (b:Ì):Ă (if c then x else y) b=if c then Ă x b else Ă y b:=by split<;>rfl
theorem ÀF (s:Sl) (S:Dw) (b:Ì):ÿ (.nx s S) b=b s S:=rfl
theorem À5 (s:Sl) (S:Dw) (b:Ì):ÿ (.ct s S) b=b s S:=rfl
theorem À6 (s:Sl) (S:Dw) (b:Ì):ÿ (.bk s S) b=.nx s S:=rfl
theorem À7 (w:W) (S:Dw) (b:Ì):ÿ (.rt w S) b=.rt w S:=rfl
theorem À8 (x:Str) (d:Option (List (Str×W))) (s:Sl) (S:Dw) (b:Ì):ÿ (.ex x d s S) b=.ex x d s S:=rfl
theorem Ž (b:Ì):ÿ .bad b=.bad:=rfl
theorem ž (x y:RS) (b:Ì):ÿ (if c then x else y) b=if c then ÿ x b else ÿ y b:=by split<;>rfl
theorem ÃV (n:Nat) (b:Ì) (ws:List W) (S:Dw):ē n b ws S=fnK (b (ws.map some++List.replicate (n-ws.length) none) S):=rfl
theorem Ãt (w:W) (S:Dw):fnK (.rt w S)=.ok w S:=rfl
theorem Än (s:Sl) (S:Dw):fnK (.nx s S)=.ok .non S:=rfl
theorem Äo (x:Str) (d:Option (List (Str×W))) (s:Sl) (S:Dw):fnK (.ex x d s S)=.ex x d S:=rfl
theorem Âz (x y:RS):fnK (if c then x else y)=if c then fnK x else fnK y:=by split<;>rfl
end
section
variable(s:Sl)(S:Dw)
theorem Àa (w:W):À 0 (some w::s) S=.ok w S:=rfl
theorem ÁX (i:Nat) (o:Option W):À (i+1) (o::s) S=À i s S:=rfl
theorem ÃW (w:W):eC w s S=.ok w S:=rfl
theorem ÁY (o:W→W→M W) (a b:Exp):É o a b s S=ý (a s S) (λ x=>bd (b s) (o x)):=rfl
theorem Äp (o:W→M W) (a:Exp):eUn o a s S=ý (a s S) o:=rfl
theorem Âf (a b:Exp):Ãn a b s S=ý (a s S) (boK λ k=>if k=true then b s else rt (.bl false)):=rfl
theorem Äq (a b:Exp):eOr a b s S=ý (a s S) (boK λ k=>if k=true then rt (.bl true) else b s):=rfl
theorem ÂA (a:Exp):Ùn a s S=ý (a s S) (boK λ k=>rt (.bl !k)):=rfl
theorem Är (k:Bool→M W) (b:Bool):boK k (.bl b) S=k b S:=rfl
theorem Äs (c:ï) (a b:Exp):eIf c a b s S=ý (c s S) (λ k=>if k=true then a s else b s):=rfl
theorem Ū (o o':W→W→M W) (a b c:Exp):ÃO o o' a b c s S=ý (a s S) (λ x=>bd (b s) λ y=>bd (o x y) (boK λ k=>if k=true then bd (c s) (o' y) else rt (.bl false))):=rfl
theorem ÃC (a:Exp):tB a s S=ý (a s S) tbK:=rfl
theorem ÁZ (b:Bool):tbK (.bl b) S=.ok b S:=rfl
theorem ÂB (a b:ï):tAnd a b s S=ý (a s S) (λ k=>if k=true then b s else rt false):=rfl
theorem Ät (a b:ï):tOr a b s S=ý (a s S) (λ k=>if k=true then rt true else b s):=rfl
theorem ÂC (a:ï):tNot a s S=ý (a s S) (λ k=>rt !k):=rfl
theorem ÄC:tYs s S=.ok true S:=rfl
theorem ũ:Ä s S=.ok [] S:=rfl
theorem ĸ (a:Exp) (r:Arg):Á a r s S=ý (a s S) (λ x=>bd (r s) λ xs=>rt (x::xs)):=rfl
theorem Âg (a:Arg):ô a s S=ý (a s S) (λ xs=>if xs.length≤sizeLine then rt (.tup xs) else bad):=rfl
theorem ÂD (a:Arg):ĩ a s S=ý (a s S) (λ xs=>if xs.length≤sizeLine then rt (.lst xs) else bad):=rfl
theorem ÃD (f:List W→M W) (a:Arg):eB f a s S=ý (a s S) f:=rfl
theorem ÀG (f:Fn) (a:Arg):Ò f a s S=ý (a s S) f:=rfl
theorem ÌL (f:Fn) (a:Arg):Ïy f a s S=ý (a s S) (λ xs=>bd (f xs) λ w=>if flat w=true then rt w else bad):=rfl
theorem ÄS (T:String) (f:W→List W→M W) (o:Exp) (a:Arg):eM T f o a s S=ý (o s S) (λ x=>if tyM T x=true then bd (a s) (f x) else bad):=rfl
theorem Äu (f:Exp) (lo hi:Sl→M (Option Int)):eSl f lo hi s S=ý (f s S) (λ x=>bd (lo s) λ l=>bd (hi s) λ u=>slM x l u):=rfl
theorem À9:È5 s S=.ok none S:=rfl
def Õe (x:W):M (Option Int):=match x with
 | .int i=>rt (some i)
 |_=>bad
theorem ÀH (f:Exp):Ès f s S=ý (f s S) Õe:=rfl
theorem Áa (i:Int):Õe (.int i) S=.ok (some i) S:=rfl
theorem ÀQ:Ñ s S=.nx s S:=rfl
theorem ū (e:Exp):ġ e s S=â (e s S) s (λ _ S'=>.nx s S'):=rfl
theorem ÁD (e:Exp):Ð e s S=â (e s S) s (λ w S'=>.rt w S'):=rfl
theorem Áb:Ëx s S=.rt .non S:=rfl
theorem Á0 (c:ï) (a b:Ì):Ù c a b s S=â (c s S) s (λ k S'=>if k=true then a s S' else b s S'):=rfl
theorem Âh (i:Nat) (e:Exp):Ô i e s S=â (e s S) s (λ w S'=>.nx (s.set i (some w)) S'):=rfl
theorem Îe (i:Nat) (e:Exp):Îd i e s S=â (e s S) s (λ w S'=>if isL w=true then .nx (s.set i (some w)) S' else .bad):=rfl
theorem ÐC (xs:List W):isL (.lst xs)=true:=rfl
theorem Áu (g:Ā) (e:Exp):Ëy g e s S=â (e s S) s (λ w S'=>tgK (g w s) S'):=rfl
theorem Áv (s2:Sl):tgK (some s2) S=.nx s2 S:=rfl
theorem Æk (i:Nat) (w:W):gN i w s=some (s.set i (some w)):=rfl
theorem Áw:ÃU [] s=some s:=rfl
def gK (o:Option Sl) (k:Sl→Option Sl):Option Sl:=match o with
 |some s=>k s
 |none=>none
theorem Àm (g:Ā) (r:List W→Sl→Option Sl) (w:W) (ws:List W):æ g r (w::ws) s=gK (g w s) (r ws):=by show (match g w s with|some s1=>r ws s1|none=>none)=_;unfold gK;cases g w s<;>rfl
theorem ÂY (k:Sl→Option Sl):gK (some s) k=k s:=rfl
theorem Æl (n:Nat) (r:List W→Sl→Option Sl) (ws:List W):gT n r (.tup ws) s=if ws.length=n then r ws s else none:=rfl
theorem Ŕ (c:Str):Ĥ c s S=.ex c none s S:=rfl
theorem Àb:ÔR s S=.bk s S:=rfl
theorem Ác:Ùo s S=.ct s S:=rfl
theorem ÁE (it:Sl→M (List W)) (g:Ā) (b:Ì):ê it g b s S=â (it s S) s (λ xs S'=>Ź g b xs s S'):=rfl
theorem Ád (g:Ā) (b:Ì):Ź g b [] s S=.nx s S:=rfl
theorem Íz (i:Nat) (b:Ì) (x:W) (xs:List W):Ź (gN i) b (x::xs) s S=ÿ (b (s.set i (some x)) S) (Ź (gN i) b xs):=rfl
theorem Îf (s2:Sl) (b:Ì):tgB (some s2) b S=b s2 S:=rfl
theorem ÅD (f:Exp):iE f s S=ý (f s S) srcOf:=rfl
theorem Àc (xs:List W):srcOf (.tup xs) S=.ok xs S:=rfl
theorem ÌM (xs:List W):srcOf (.lst xs) S=.ok xs S:=rfl
theorem Àd (x:Str):srcOf (.str x) S=.ok (x.cps.toList.map Æ5) S:=rfl
theorem ÃQ (f:Arg):iR1 f s S=ý (f s S) Ía:=rfl
theorem ÄA (f:Arg):iR2 f s S=ý (f s S) Îb:=rfl
theorem ÃR (j:Int):Ía [.int j] S=if Fr.inR 4611686018427387903 j=true then .ok (rng 0 j.toNat) S else .bad:=by show (if Fr.inR 4611686018427387903 j=true then rt (rng 0 j.toNat) else bad:M (List W)) S=_;split<;>rfl
theorem ÂV (i j:Int):Îb [.int i,.int j] S=if (Fr.inR 4611686018427387903 i&&Fr.inR 4611686018427387903 j)=true then .ok (rng i (j-i).toNat) S else .bad:=by show (if (Fr.inR 4611686018427387903 i&&Fr.inR 4611686018427387903 j)=true then rt (rng i (j-i).toNat) else bad:M (List W)) S=_;split<;>rfl
theorem Â0 (f:Arg):iZip f s S=ý (f s S) Éa:=rfl
theorem Áy (xs ys:List W):Éa [.tup xs,.tup ys] S=.ok (List.zipWith (λ a b=>W.tup [a,b]) xs ys) S:=rfl
theorem Îg (xs ys:List W):Éa [.lst xs,.lst ys] S=.ok (List.zipWith (λ a b=>W.tup [a,b]) xs ys) S:=rfl
theorem Â1 (f:Exp):iRev f s S=ý (f s S) Ì8:=rfl
theorem Áz (xs:List W):Ì8 (.tup xs) S=.ok xs.reverse S:=rfl
theorem Îh (xs:List W):Ì8 (.lst xs) S=.ok xs.reverse S:=rfl
theorem Àr:Ě s []=s:=rfl
theorem Ş (v:Nat) (vs:List Nat):Ě s (v::vs)=(Ě s vs).set v none:=rfl
theorem Â2 (g:Ā) (tt:ï) (e:Exp):lcV g tt e s [] S=.ok [] S:=rfl
def noK {α:Type} (r:Rs α):Rs α:=match r with
 | .ok a S'=>.ok a S'
 |_=>.bad
theorem Òj {α:Type} (f:M α):noX f S=noK (f S):=by unfold noX noK;cases f S<;>rfl
theorem Òk {α:Type} (a:α):noK (.ok a S)=.ok a S:=rfl
theorem Âj (b:Ì) (tab:List (Str×Bool)) (su:Str→Option (List (Str×W))→Ì):Ç5 b tab su s S=ÉX (b s S) tab su:=rfl
theorem ÂR (tab:List (Str×Bool)) (su:Str→Option (List (Str×W))→Ì):ÉX (.nx s S) tab su=.nx s S:=rfl
theorem ÂS (w:W) (tab:List (Str×Bool)) (su:Str→Option (List (Str×W))→Ì):ÉX (.rt w S) tab su=.rt w S:=rfl
theorem ÂT:Ç4 (.nx s S)=.nx s S:=rfl
theorem ÂU (w:W):Ç4 (.rt w S)=.rt w S:=rfl
theorem Àf (i:Nat) (b:Ì) (tab:List (Str×Bool)) (su:Str→Option (List (Str×W))→Ì):Òb i b tab su s S=Ée i (b s S) tab su:=rfl
theorem Àg (i:Nat) (tab:List (Str×Bool)) (su:Str→Option (List (Str×W))→Ì):Ée i (.nx s S) tab su=.nx s S:=rfl
theorem Àh (i:Nat) (w:W) (tab:List (Str×Bool)) (su:Str→Option (List (Str×W))→Ì):Ée i (.rt w S) tab su=.rt w S:=rfl
theorem Ár (i:Nat):È3 i (.nx s S)=.nx (s.set i none) S:=rfl
theorem Ás (i:Nat) (w:W):È3 i (.rt w S)=.rt w S:=rfl
theorem ĺ (a:Ì):ÔU none a=a:=rfl
theorem ÍC (tab:List (Str×Bool)) (c:Str):Ùu tab c s S=blO (Fr.Ãz tab c) S:=rfl
theorem Îi (b:Bool):blO (some b) S=.ok (.bl b) S:=rfl
theorem ÌN (b:Bool):Îc (some b) S=.ok (.bl !b) S:=rfl
theorem ÌO {α:Type} (a:α):Ŭ (some a) S=.ok a S:=rfl
theorem Æj (a:Exp):tV a s S=ý (a s S) (λ x=>Ŭ (Ç9 x)):=rfl
theorem Áe (i j:Int):ĉ (.int i) (.int j) S=.ok (.int (i+j)) S:=rfl
theorem Áf (a b:Str):ĉ (.str a) (.str b) S=if a.length+b.length≤sizeLine then .ok (.str (a++b)) S else .bad:=by unfold ĉ;simp only<;>(split<;>rfl)
theorem Ág (a b:List W):ĉ (.tup a) (.tup b) S=if a.length+b.length≤sizeLine then .ok (.tup (a++b)) S else .bad:=by unfold ĉ;simp only<;>(split<;>rfl)
theorem Îj (a b:List W):ĉ (.lst a) (.lst b) S=if a.length+b.length≤sizeLine then .ok (.lst (a++b)) S else .bad:=by unfold ĉ;simp only<;>(split<;>rfl)
theorem Áh (i j:Int):Æ6 (.int i) (.int j) S=.ok (.int (i-j)) S:=rfl
theorem Ái (i j:Int):mulM (.int i) (.int j) S=if (Fr.inR 18446744073709551615 i||Fr.inR 18446744073709551615 j)=true then .ok (.int (i*j)) S else .bad:=by unfold mulM;simp only<;>(split<;>rfl)
theorem Áj (a:Str) (n:Int):mulM (.str a) (.int n) S=if 0≤n∧n≤1000∧1≤a.length∧a.length≤1000 then .ok (.str (Fr.ÀT a n.toNat)) S else .bad:=by unfold mulM;simp only<;>(split<;>rfl)
theorem ÀI (i j:Int):Âp (.int i) (.int j) S=if j≠0 then .ok (.int (i.fmod j)) S else .bad:=by unfold Âp;simp only<;>(split<;>rfl)
theorem Àe (i j:Int):È4 (.int i) (.int j) S=if j≠0∧j.natAbs<1073741824 then .ok (.int (i.fdiv j)) S else .bad:=by unfold È4;simp only<;>(split<;>rfl)
theorem Îk (i j:Int):ÛU (.int i) (.int j) S=if 0≤j then .ok (.int (i/2 ^ j.toNat)) S else .bad:=by unfold ÛU;simp only<;>(split<;>rfl)
theorem ÌP (i j:Int):ÝH (.int i) (.int j) S=.ok (.int (Builtin.bitAnd i j)) S:=rfl
theorem Ák (i:Int):ÛV (.int i) S=.ok (.int (-i)) S:=rfl
theorem ÂE (i j:Int):ltM (.int i) (.int j) S=.ok (.bl (decide (i<j))) S:=rfl
theorem ÂF (i j:Int):leM (.int i) (.int j) S=.ok (.bl (decide (i≤j))) S:=rfl
theorem Âi (i j:Int):gtM (.int i) (.int j) S=.ok (.bl (decide (j<i))) S:=rfl
theorem ÂG (i j:Int):geM (.int i) (.int j) S=.ok (.bl (decide (j≤i))) S:=rfl
theorem ÂW (i j:Int):ltG (.int i) (.int j) S=.ok (.bl (decide (i<j))) S:=rfl
theorem ÀR (i j:Int):Ė (.int i) (.int j) S=.ok (.bl (decide (i=j))) S:=rfl
theorem ÂH (i j:Str):Ė (.str i) (.str j) S=.ok (.bl (decide (i=j))) S:=rfl
theorem Äv (i j:Bool):Ė (.bl i) (.bl j) S=.ok (.bl (decide (i=j))) S:=rfl
theorem ÂI (i j:Int):neM (.int i) (.int j) S=.ok (.bl !(decide (i=j))) S:=rfl
theorem ÂJ (i j:Str):neM (.str i) (.str j) S=.ok (.bl !(decide (i=j))) S:=rfl
theorem Äw (i j:Bool):neM (.bl i) (.bl j) S=.ok (.bl !(decide (i=j))) S:=rfl
theorem ÂK:œ .non .non S=.ok (.bl true) S:=rfl
theorem ÂL (i:Int):œ (.int i) .non S=.ok (.bl false) S:=rfl
theorem ÂM (i:Str):œ (.str i) .non S=.ok (.bl false) S:=rfl
theorem Äx (i:Bool):œ (.bl i) .non S=.ok (.bl false) S:=rfl
theorem ÂN (i:List W):œ (.tup i) .non S=.ok (.bl false) S:=rfl
theorem ÐD (i:List W):œ (.lst i) .non S=.ok (.bl false) S:=rfl
theorem ř:ā .non .non S=.ok (.bl false) S:=rfl
theorem Ś (i:Int):ā (.int i) .non S=.ok (.bl true) S:=rfl
theorem ś (i:Str):ā (.str i) .non S=.ok (.bl true) S:=rfl
theorem Ài (i:Bool):ā (.bl i) .non S=.ok (.bl true) S:=rfl
theorem Ŝ (i:List W):ā (.tup i) .non S=.ok (.bl true) S:=rfl
theorem ËD (i:List W):ā (.lst i) .non S=.ok (.bl true) S:=rfl
theorem ÂX (x y:W):Û2 x y S=blO (ÅO x y) S:=rfl
theorem Ř (x y:W):ÁC x y S=Îc (ÅO x y) S:=rfl
theorem Át (i j:Str):ÅO (.str i) (.str j)=some (Fr.Ê2 i j):=rfl
theorem ÍA (xs:List W) (i:Int):ã (.tup xs) (.int i) S=Ŭ (L2.atI xs i) S:=rfl
theorem ÐE (xs:List W) (i:Int):ã (.lst xs) (.int i) S=Ŭ (L2.atI xs i) S:=rfl
theorem ÍB (x:Str) (i:Int):ã (.str x) (.int i) S=if x.length≤sizeLine then Ŭ ((L2.atI x.cps.toList i).map Æ5) S else .bad:=by unfold ã;simp only<;>(split<;>rfl)
theorem ÂP (z:Str) (lo hi:Option Int):slM (.str z) lo hi S=if z.length≤sizeLine then .ok (.str (L2.cutS z lo hi)) S else .bad:=by unfold slM;simp only<;>(split<;>rfl)
theorem ÐF (xs:List W) (lo hi:Option Int):slM (.tup xs) lo hi S=.ok (.tup (Èz xs lo hi)) S:=rfl
theorem ÐG (xs:List W) (lo hi:Option Int):slM (.lst xs) lo hi S=.ok (.lst (Èz xs lo hi)) S:=rfl
theorem Ál (z:Str):ö [.str z] S=if z.length≤sizeLine then .ok (.int z.length) S else .bad:=by unfold ö;simp only<;>(split<;>rfl)
theorem Ám (ys:List W):ö [.tup ys] S=.ok (.int ys.length) S:=rfl
theorem Îl (ys:List W):ö [.lst ys] S=.ok (.int ys.length) S:=rfl
theorem ÀJ (i:Int):ÃK [.int i] S=.ok (.int i) S:=rfl
theorem Án (n:String):ú [.non,.ty n] S=blO (L2.kitB "NoneType" n) S:=rfl
theorem ÂQ (b:Bool) (n:String):ú [.bl b,.ty n] S=blO (L2.kitB "bool" n) S:=rfl
theorem Áo (b:Int) (n:String):ú [.int b,.ty n] S=blO (L2.kitB "int" n) S:=rfl
theorem Áp (b:Str) (n:String):ú [.str b,.ty n] S=blO (L2.kitB "str" n) S:=rfl
theorem Áq (b:List W) (n:String):ú [.tup b,.ty n] S=blO (L2.kitB "tuple" n) S:=rfl
theorem Îm (b:List W) (n:String):ú [.lst b,.ty n] S=blO (L2.kitB "list" n) S:=rfl
theorem Àj (xs:List W):ÁH [.tup xs] S=.ok (.lst xs) S:=rfl
theorem ÌQ (xs:List W):ÁH [.lst xs] S=.ok (.lst xs) S:=rfl
theorem ŝ (xs:List W):Ń [.tup xs] S=.ok (.tup xs) S:=rfl
theorem ËE (xs:List W):Ń [.lst xs] S=.ok (.tup xs) S:=rfl
theorem Àk (i j:Int):Ùy [.int i,.int j] S=.ok (.int (if j<i then j else i)) S:=rfl
theorem Àl (i j:Int):Ùz [.int i,.int j] S=.ok (.int (if j>i then j else i)) S:=rfl
theorem Ģ (ns:List Int):intsOf (ns.map .int)=some ns:=by
 induction ns with
 |nil=>rfl
 |cons n ns ih=>simp only[List.map_cons,intsOf,ih];rfl
theorem ÌR (ns:List Int):Ô1 [.lst (ns.map .int)] S=.ok (.int ns.sum) S:=by unfold Ô1;simp only[Ģ];rfl
theorem Éi (ns:List Int):Íw [.lst (ns.map .int)] S=.ok (.lst ((Fr.sortI ns).map .int)) S:=by unfold Íw;simp only[Ģ];rfl
theorem ÂO (T:String) (x:Str):tyM T (.str x)=(T== "str"):=rfl
theorem ÐH (T:String) (x:List W):tyM T (.lst x)=(T== "list"):=rfl
theorem Àq (b:Bool) (f:Sl→M (Int×Int)):Ô9 b f s S=ý (f s S) λ x=>if (Fr.inR 4611686018427387903 x.1&&Fr.inR 4611686018427387903 x.2)=true∧(x.2-x.1).toNat≤16777216 then (if b=true then rt (.lst (rng x.1 (x.2-x.1).toNat)) else rt (.tup (rng x.1 (x.2-x.1).toNat))) else bad:=rfl
def Õf (x:W):M (Int×Int):=match x with
 | .int n=>rt (0,n)
 |_=>bad
theorem ÄB (a:Exp):rg1 a s S=ý (a s S) Õf:=rfl
theorem Áx (n:Int):Õf (.int n) S=.ok (0,n) S:=rfl
def Üi (s:Sl) (i:Nat) (u:Mu) (a:Arg) (S:Dw) (o:Option (List W)):RS:=match o with
 |some xs=>â (a s S) s λ ys S'=>muK s i (u xs ys) S'
 |none=>.bad
theorem ÐI (i:Nat) (u:Mu) (a:Arg):Íc i u a s S=Üi s i u a S (Ég s i):=by unfold Íc Üi;rfl
theorem ÌS (i:Nat) (u:Mu) (a:Arg) (xs:List W):Üi s i u a S (some xs)=â (a s S) s λ ys S'=>muK s i (u xs ys) S':=rfl
theorem Òl (xs:List W):Ég (some (.lst xs)::s) 0=some xs:=rfl
theorem Òm (i:Nat) (o:Option W):Ég (o::s) (i+1)=Ég s i:=rfl
theorem În (i:Nat) (xs:List W):muK s i (some xs) S=.nx (s.set i (some (.lst xs))) S:=rfl
theorem ÐJ {c:Prop} [Decidable c] (i:Nat) (a b:Option (List W)):muK s i (if c then a else b) S=if c then muK s i a S else muK s i b S:=by split<;>rfl
theorem Îo (i:Nat):muK s i none S=.bad:=rfl
theorem ËF (xs:List W) (y:W):ÅR xs [y]=if xs.length<sizeLine then some (xs++[y]) else none:=rfl
theorem ËG (xs ys:List W):ÞO xs [.lst ys]=if xs.length+ys.length≤sizeLine then some (xs++ys) else none:=rfl
theorem Ês (xs:List W):Û8 xs []=some xs.reverse:=rfl
theorem ÌT (xs:List W):ß7 xs []=some []:=rfl
theorem ËH (xs:List W) (i:Int) (y:W):ÞN xs [.int i,y]=if xs.length<sizeLine∧0≤i∧Fr.inR 9223372036854775807 i=true then some (xs.take i.toNat++[y]++xs.drop i.toNat) else none:=rfl
def Ñz (s:Sl) (i:Nat) (fi fe:Exp) (S:Dw) (o:Option (List W)):RS:=match o with
 |some xs=>â (bd (fe s) (λ v=>bd (fi s) λ k=>rt (k,v)) S) s λ kv S'=>muK s i (Û9 xs kv.1 kv.2) S'
 |none=>.bad
theorem Îp (i:Nat) (fi fe:Exp):ÝW i fi fe s S=Ñz s i fi fe S (Ég s i):=by unfold ÝW Ñz;rfl
theorem ÌU (i:Nat) (fi fe:Exp) (xs:List W):Ñz s i fi fe S (some xs)=â (bd (fe s) (λ v=>bd (fi s) λ k=>rt (k,v)) S) s λ kv S'=>muK s i (Û9 xs kv.1 kv.2) S':=rfl
def ÑA (s:Sl) (i:Nat) (o:W→W→M W) (e:Exp) (S:Dw) (x:Option (Option W)):RS:=match x with
 |some (some x)=>â (bd (e s) (λ y=>o x y) S) s λ w S'=>.nx (s.set i (some w)) S'
 |_=>.bad
theorem ÂZ (i:Nat) (o:W→W→M W) (e:Exp):Ô8 i o e s S=ÑA s i o e S s[i]?:=by unfold Ô8 ÑA;rfl
theorem Àn (i:Nat) (o:W→W→M W) (e:Exp) (x:W):ÑA s i o e S (some (some x))=â (bd (e s) (λ y=>o x y) S) s λ w S'=>.nx (s.set i (some w)) S':=rfl
theorem Ào (i j:Int):ÙB (.int i) (.int j) S=.ok (.int (i+j)) S:=rfl
theorem Àp (i j:Int):ÙC (.int i) (.int j) S=.ok (.int (i-j)) S:=rfl
end
end Pu
namespace Pu
open PySem
def ī (x:W) (c:Str):Option (List (Str×W)):=match x with
 | .ob c' fs=>if c'=c then some fs else none
 |_=>none
def ÑB {α β:Type} (o:Option α) (k:α→M β):M β:=match o with
 |some a=>k a
 |none=>bad
def ÁJ (c f:Str) (o:Exp):Exp:=λ s=>bd (o s) λ x=>ÑB (ī x c) λ fs=>Ŭ (fs.lookup f)
def ÐK {α β:Type} (o:Option α) (k:M β):M β:=match o with
 |none=>k
 |some _=>bad
def å (c m:Str) (F:Fn) (o:Exp) (a:Arg):Exp:=λ s=>bd (o s) λ x=>ÑB (ī x c) λ fs=>ÐK (fs.lookup m) (bd (a s) λ ws=>F (x::ws))
def àw (c m:Str) (F:Fn) (o:Exp) (a:Arg):Exp:=λ s=>bd (å c m F o a s) λ w=>if flat w=true then rt w else bad
def keyOf (x:W):Option L2.Key:=match x with
 | .int i=>some (.inl i)
 | .str z=>some (.inr z)
 |_=>none
def Äj (kvs:List (L2.Key×W)) (k:L2.Key):Option W:=(kvs.find? λ kv=>decide (kv.1=k)).map (·.2)
def Îq (x y:W):Option Bool:=match y,keyOf x with
 | .dk kvs,some k=>some (Äj kvs k).isSome
 |_,_=>none
def Ê6 (x y:W):M W:=blO (Îq x y)
def ÃB (x y:W):M W:=Îc (Îq x y)
def Òn (x y:W):Option W:=match x,keyOf y with
 | .dk kvs,some k=>Äj kvs k
 |_,_=>none
def Æi (x y:W):M W:=Ŭ (Òn x y)
def ÁW (s:Sl):List Nat→List W→Sl
 |i::is,w::ws=>ÁW (s.set i (some w)) is ws
 |_,_=>s
def ßY (is:List Nat) (a:Arg):Ì:=λ s S=>â (a s S) s λ ws S'=>if ws.length=is.length then .nx (ÁW s is ws) S' else .bad
def newP (c:Str) (fs:List Str):Fn:=λ ws=>if ws.length=fs.length then rt (.ob c (fs.zip ws)) else bad
section
variable{dA:Nat}{H:Nat→Prop}{S:Fr.Å}{x y:Fr.W}{d e:W}
theorem Îr:∀ {ks:List (Str×Fr.W)} {gs:List (Str×W)} {f:Str},ks.map Prod.fst=gs.map Prod.fst→Ó dA H S (ks.map Prod.snd) (gs.map Prod.snd)→
  (∀d,gs.lookup f=some d→∃ w,ks.lookup f=some w∧Vw dA H S w d)∧(gs.lookup f=none→ks.lookup f=none)
 | [],[],f,_,_=>⟨λ d h=>(by cases h),λ _=>rfl⟩
 | [],_::_,_,e,_=>by simp at e
 |_::_,[],_,e,_=>by simp at e
 |(g,w)::ks,(g',d)::gs,f,e,v=>by
  simp only[List.map_cons,List.cons.injEq] at e
  obtain ⟨e1,e2⟩:=e
  subst e1
  simp only[List.map_cons] at v
  obtain ⟨w',r,q,a,b⟩:=v.cons_inv
  cases q
  obtain ⟨i1,i2⟩:=Îr (f:=f) e2 b
  by_cases c:f==g
  ·exact ⟨λ d' h=>by rw[List.lookup_cons,c] at h;cases h;exact ⟨w,by rw[List.lookup_cons,c],a⟩,λ h=>by rw[List.lookup_cons,c] at h;cases h⟩
  ·have c':(f==g)=false:=by simpa using c
   exact ⟨λ d' h=>by rw[List.lookup_cons,c'] at h;rw[List.lookup_cons,c'];exact i1 d' h,λ h=>by rw[List.lookup_cons,c'] at h;rw[List.lookup_cons,c'];exact i2 h⟩
theorem Õp {c:Str} {gs:List (Str×W)} (h:Vw dA H S x d) (e:ī d c=some gs):∃ n fs,Fr.ī S x c=some (n,fs)∧x=.ref n∧¬H n∧fs.map Prod.fst=gs.map Prod.fst∧Ó dA H S (fs.map Prod.snd) (gs.map Prod.snd):=by
 unfold ī at e
 split at e
 ·split at e
  ·rename_i c' fs hc
   cases e
   subst hc
   cases h with
   |ref hn hs v=>cases v with
    |ob e1 e2=>
     rename_i k kws
     exact ⟨k,kws,by unfold Fr.ī;simp only[hs,if_true],rfl,hn,e1,e2⟩
  ·cases e
 ·cases e
theorem Ón:∀ {ks:List (L2.Key×Fr.W)} {gs:List (L2.Key×W)} {k:L2.Key},ks.map Prod.fst=gs.map Prod.fst→Ó dA H S (ks.map Prod.snd) (gs.map Prod.snd)→
  (Fr.Äj ks k).isSome=(Äj gs k).isSome∧∀ d,Äj gs k=some d→∃ w,Fr.Äj ks k=some w∧Vw dA H S w d
 | [],[],k,_,_=>⟨rfl,λ d h=>by cases h⟩
 | [],_::_,_,e,_=>by simp at e
 |_::_,[],_,e,_=>by simp at e
 |(g,w)::ks,(g',d)::gs,k,e,v=>by
  simp only[List.map_cons,List.cons.injEq] at e
  obtain ⟨e1,e2⟩:=e
  subst e1
  simp only[List.map_cons] at v
  obtain ⟨w',r,q,a,b⟩:=v.cons_inv
  cases q
  obtain ⟨i1,i2⟩:=Ón (k:=k) e2 b
  unfold Fr.Äj Äj at*
  by_cases c:g=k
  ·simp only[List.find?_cons,c,decide_true,Option.map_some]
   exact ⟨rfl,λ d' h=>by cases h;exact ⟨w,rfl,a⟩⟩
  ·simp only[List.find?_cons,c,decide_false]
   exact ⟨i1,i2⟩
theorem key_of {k:L2.Key} (h:Vw dA H S x d) (e:keyOf d=some k):Fr.keyOf x=some k:=by
 unfold keyOf at e
 split at e
 ·cases h.int_inv;exact e
 ·cases h.str_inv;exact e
 ·cases e
theorem Ú3 {Ċ:List (L2.Key×W)} (h:Vw dA H S x (.dk Ċ)):∃ n kws,Fr.dictOf S x=some (n,kws)∧kws.map Prod.fst=Ċ.map Prod.fst∧Ó dA H S (kws.map Prod.snd) (Ċ.map Prod.snd):=by
 cases h with
 |ref hn hs v=>cases v with
  |dk e1 e2=>
   rename_i k kws
   exact ⟨k,kws,by unfold Fr.dictOf;simp only[hs],e1,e2⟩
theorem ØJ {b:Bool} (h1:Vw dA H S x d) (h2:Vw dA H S y e) (q:Îq d e=some b):Fr.Ê6 x y S=.ok (.bl b) S∧Fr.ÃB x y S=.ok (.bl !b) S:=by
 cases e with
 |dk Ċ=>
  cases hk:keyOf d with
  |none=>unfold Îq at q;rw[hk] at q;cases q
  |some k=>
   unfold Îq at q
   rw[hk] at q
   cases q
   obtain ⟨n,kws,a1,a2,a3⟩:=Ú3 h2
   unfold Fr.Ê6 Fr.ÃB
   rw[a1,key_of h1 hk]
   simp only[(Ón (k:=k) a2 a3).1]
   exact ⟨trivial,trivial⟩
 |_=>unfold Îq at q;cases hk:keyOf d<;>(rw[hk] at q;cases q)
end
theorem âd:OT Fr.Ê6 Ê6:=λ dA H S x y d e dw h1 h2=>RO.bl λ b q=>⟨rfl,rfl,_,(ØJ h1 h2 q).1,.bl _⟩
theorem Õq:OT Fr.ÃB ÃB:=λ dA H S x y d e dw h1 h2=>RO.nbl λ b q=>⟨rfl,rfl,_,(ØJ h1 h2 q).2,.bl _⟩
section
variable{md:List Nat}{k:Nat}
theorem Õr {a b:Fr.Exp} {a' b':Exp} (ha:PX cC md a a') (hb:PX cT md b b'):PX cC md (Fr.É Fr.Æi a b) (É Æi a' b'):=by
 intro F H R p dw s S r
 refine RM.bd (ha _ _ _ _ _ _ _ r) λ x dx S1 õ k1 e1 c1=>?_
 refine RM.bd (hb _ _ _ _ _ _ _ (r.kd k1 e1)) λ y dy S2 dw2 k2 e2 c2=>?_
 have c1':=c1.kd k2 r.hdA
 unfold Æi
 cases hq:Òn dx dy with
 |none=>trivial
 |some w=>
  cases dx with
  |dk Ċ=>
   cases hk:keyOf dy with
   |none=>unfold Òn at hq;rw[hk] at hq;cases hq
   |some kk=>
    unfold Òn at hq
    rw[hk] at hq
    obtain ⟨n,kws,a1,a2,a3⟩:=Ú3 c1'
    obtain ⟨u,b1,b2⟩:=(Ón (k:=kk) a2 a3).2 w hq
    exact ⟨u,S2,by unfold Fr.Æi;rw[a1,key_of c2 hk];simp only[b1],.refl,e2,b2⟩
  |_=>unfold Òn at hq;cases hk:keyOf dy<;>(rw[hk] at hq;cases hq)
theorem àx {C:Cl Fr.W W} {c f:Str} {a:Fr.Exp} {a':Exp} (ha:PX C md a a') (hC:∀ F H R p dw s S w d S',Rl md F H R p dw s S→C F H S w d S'→∃ H',Vw F.dA H' S' w d∧∀ u e,Vw F.dA H' S' u e→C F H S u e S'):PX C md (Fr.ÁJ c f a) (ÁJ c f a'):=by
 intro F H R p dw s S r
 refine RM.bd (ha _ _ _ _ _ _ _ r) λ x dx S1 õ k1 e1 c1=>?_
 obtain ⟨H',v,up⟩:=hC F H R p dw s S x dx S1 r c1
 cases hi:ī dx c with
 |none=>trivial
 |some gs=>
  show RM F _ S1 (Fr.Ïu c f x S1) (Ŭ (gs.lookup f) õ)
  cases hl:gs.lookup f with
  |none=>trivial
  |some d=>
   obtain ⟨n,fs,q1,q2,q3,q4,q5⟩:=Õp v hi
   obtain ⟨w,t1,t2⟩:=(Îr (f:=f) q4 q5).1 d hl
   exact ⟨w,S1,by unfold Fr.Ïu;rw[q1];simp only[t1],.refl,e1,up _ _ t2⟩
theorem Îs {c f:Str} {a:Fr.Exp} {a':Exp} (ha:PX cC md a a'):PX cC md (Fr.ÁJ c f a) (ÁJ c f a'):=àx ha λ F H R p dw s S w d S' r c=>⟨H,c,λ _ _ v=>v⟩
theorem ØK {ow:Nat} {c m:Str} {f:Fr.Fn} {q:Fn} {o:Fr.Exp} {o':Exp} {a:Fr.Arg} {a':Arg} (hf:FS ow (k+1) f q) (ho:PX cC md o o') (ha:PX (cCk k) md a a'):
  PX (λ F H S w d S'=>Vw F.dA H S' w d∧(ow=1→isL d=true→Fsh F.dA H S.length S' w d)) md (Fr.å c m f o a) (å c m q o' a'):=by
 intro F H R p dw s S r
 refine RM.bd (ho _ _ _ _ _ _ _ r) λ x dx S1 õ k1 e1 c1=>?_
 have r1:=r.kd k1 e1
 cases hi:ī dx c with
 |none=>trivial
 |some gs=>
  show RM F _ S1 (Fr.Í9 c m f a s x S1) (ÐK (gs.lookup m) (bd (a' p) λ ws=>q (dx::ws)) õ)
  cases hl:gs.lookup m with
  |some d=>trivial
  |none=>
   obtain ⟨n,fs,q1,q2,q3,q4,q5⟩:=Õp c1 hi
   have hn:=(Îr (f:=m) q4 q5).2 hl
   have e0:Fr.Í9 c m f a s x S1=Fr.bd (a s) (λ ws=>f (x::ws)) S1:=by unfold Fr.Í9;rw[q1];simp only[hn]
   rw[e0]
   refine RM.bd (ha _ _ _ _ _ _ _ r1) λ y dy S2 dw2 k2 e2 c2=>?_
   have r2:=r1.kd k2 e2
   refine RM.toF (F:=F) (G:=⟨F.dA,S2,H⟩) rfl r.h0 (hf F.dA H S2 (x::y) (dx::dy) dw2 r.hdA r2.hb e2 (.cons (c1.kd k2 r.hdA) c2.1) (by simp[c2.2])) λ w d S' k3 cc=>⟨cc.1,λ oo l=>?_⟩
   obtain ⟨ad,ob,b1,b2,b3,b4⟩:=cc.2.1 oo l
   exact ⟨ad,ob,b1,Nat.le_trans (k1.trans k2).le b2,b3,b4⟩
theorem ÅT {ow:Nat} {c m:Str} {f:Fr.Fn} {q:Fn} {o:Fr.Exp} {o':Exp} {a:Fr.Arg} {a':Arg} (hf:FS ow (k+1) f q) (ho:PX cC md o o') (ha:PX (cCk k) md a a'):PX cC md (Fr.å c m f o a) (å c m q o' a'):=
 (ØK hf ho ha).imp λ _ _ _ _ _ _ _ _ _ _ _ _ c=>c.1
theorem Æ1 {c m:Str} {f:Fr.Fn} {q:Fn} {o:Fr.Exp} {o':Exp} {a:Fr.Arg} {a':Arg} (hf:FS 1 (k+1) f q) (ho:PX cC md o o') (ha:PX (cCk k) md a a'):PX cO md (Fr.å c m f o a) (å c m q o' a'):=
 (ØK hf ho ha).imp λ _ _ _ _ _ _ _ _ _ _ _ _ c=>⟨c.1,c.2 rfl⟩
theorem Ú4 {c:Str} {f:Fr.Fn} {q:Fn} {a:Fr.Arg} {a':Arg} (hf:FS 1 k (Fr.Ðq c f) q) (ha:PX (cCk k) md a a'):PX cO md (Fr.ËA c f a) (Ò q a'):=ļ hf ha
theorem Rl.ÁW {F:Fm} {H:Nat→Prop} {R:Nat→Nat→Prop} {dw:Dw} {S:Fr.Å}:∀ {is:List Nat} {ws:List Fr.W} {ds:List W} {p:Sl} {s:Fr.Sl},Rl md F H R p dw s S→(∀i∈is,Œ md i=0)→Ó F.dA H S ws ds→Rl md F H R (Pu.ÁW p is ds) dw (Fr.ÁW s is ws) S
 | [],_,_,p,s,r,_,_=>by unfold Pu.ÁW Fr.ÁW;exact r
 |i::is,_,_,p,s,r,_,.nil=>by unfold Pu.ÁW Fr.ÁW;exact r
 |i::is,_,_,p,s,r,h,.cons a b=>by
  unfold Pu.ÁW Fr.ÁW
  exact (r.Üg (h i (by simp)) a).ÁW (λ j hj=>h j (by simp[hj])) b
end
theorem ÑC {f:Str} {w:Fr.W}:∀ {acc:List (Str×Fr.W)},f∉acc.map Prod.fst→Fr.Ïv f w acc=acc++[(f,w)]
 | [],_=>rfl
 |(g,u)::acc,h=>by
  simp only[List.map_cons,List.mem_cons,not_or] at h
  unfold Fr.Ïv
  rw[if_neg (λ q=>h.1 q.symm),ÑC h.2]
  rfl
section
variable(s:Sl)(S:Dw)
theorem ÐL (c f:Str) (o:Exp):ÁJ c f o s S=ý (o s S) λ x=>ÑB (ī x c) λ fs=>Ŭ (fs.lookup f):=rfl
theorem ÌV {α β:Type} (a:α) (k:α→M β):ÑB (some a) k S=k a S:=rfl
theorem ËI {α β:Type} (k:M β):ÐK (none:Option α) k S=k S:=rfl
theorem Ît (c m:Str) (F:Fn) (o:Exp) (a:Arg):å c m F o a s S=ý (o s S) λ x=>ÑB (ī x c) λ fs=>ÐK (fs.lookup m) (bd (a s) λ ws=>F (x::ws)):=rfl
theorem ÌW (c m:Str) (F:Fn) (o:Exp) (a:Arg):àw c m F o a s S=ý (å c m F o a s S) λ w=>if flat w=true then rt w else bad:=rfl
theorem Ìb (c:Str) (fs:List (Str×W)):ī (.ob c fs) c=some fs:=by unfold ī;simp
theorem ÐM (x y:W):Ê6 x y S=blO (Îq x y) S:=rfl
theorem ËJ (x y:W):ÃB x y S=Îc (Îq x y) S:=rfl
theorem Îu (z:Str) (kvs:List (L2.Key×W)):Îq (.str z) (.dk kvs)=some (Äj kvs (.inr z)).isSome:=rfl
theorem ÌX (z:Str) (kvs:List (L2.Key×W)):Æi (.dk kvs) (.str z) S=Ŭ (Äj kvs (.inr z)) S:=rfl
theorem ÐN (is:List Nat) (a:Arg):ßY is a s S=â (a s S) s λ ws S'=>if ws.length=is.length then .nx (ÁW s is ws) S' else .bad:=rfl
theorem ËK (ws:List W):ÁW s [] ws=s:=rfl
theorem Êt (i:Nat) (is:List Nat) (w:W) (ws:List W):ÁW s (i::is) (w::ws)=ÁW (s.set i (some w)) is ws:=rfl
theorem ÐO (c:Str) (fs:List Str) (ws:List W):newP c fs ws S=if ws.length=fs.length then .ok (.ob c (fs.zip ws)) S else .bad:=by unfold newP;split<;>rfl
end
end Pu
namespace Fr
open PySem
def ÀL (chk:Fn):Ì:=
 (Æ (ġ (å (Str.ofString "Kindbook") (Str.ofString "check_row") chk (À 0) (Á (À 2) (Á (À 3) (Á (À 4) (Á (À 5) Ä))))))
 (ÔC (ÁJ (Str.ofString "Kindbook") (Str.ofString "rows") (À 0)) (À 2) (ô (Á (À 3) (Á (À 4) (Á (eB Ń (Á (À 5) Ä)) Ä))))))
def ÔH (chk:Fn):Ì:=
 (Æ (Ù (tB (É Ė (eB ö (Á (À 1) Ä)) (eC (.int 0)))) (Ĥ (Str.ofString "InvalidKind")) Ñ)
 (Æ (Ù (tB (É gtM (eB ö (Á (À 1) Ä)) (eC (.int 5)))) (Ĥ (Str.ofString "TooMany")) Ñ)
 (Æ (Éb (Str.ofString "Kindbook") (Str.ofString "rows") (À 0) Òf)
 (Æ (ê (iE (À 1)) (gT 4 (æ (gN 2) (æ (gN 3) (æ (gN 4) (æ (gN 5) ÃU))))) (ÀL chk))
 (Éb (Str.ofString "Kindbook") (Str.ofString "names") (À 0) (eB Ń (Á (eB ÁH (Á (ÁJ (Str.ofString "Kindbook") (Str.ofString "rows") (À 0)) Ä)) Ä)))))))
end Fr
namespace Pu
open PySem
def Üj:L2.Key→W
 | .inl i=>.int i
 | .inr x=>.str x
def ËL (kvs:List (L2.Key×W)) (k:L2.Key) (v:W):List (L2.Key×W):=
 if (kvs.any λ kv=>decide (kv.1=k))=true then kvs.map (λ kv=>if kv.1=k then (kv.1,v) else kv) else kvs++[(k,v)]
def ÐP (Ċ:List (L2.Key×W)):W:=.ob (Str.ofString "Kindbook") [(Str.ofString "rows",.dk Ċ)]
def ÏF (Ċ:List (L2.Key×W)):W:=.ob (Str.ofString "Kindbook") [(Str.ofString "rows",.dk Ċ),(Str.ofString "names",.tup (Ċ.map λ kv=>Üj kv.1))]
def Õs (k:List (L2.Key×W)→Dw→Rs W) (acc:List (L2.Key×W)) (name size parent leads:W) (r:Rs W):Rs W:=match r with
 | .ok _ dw=>match keyOf name,itemsOf leads with
  |some key,some ls=>if acc.length<sizeLine then k (ËL acc key (.tup [size,parent,.tup ls])) dw else .bad
  |_,_=>.bad
 | .ex c d dw=>.ex c d dw
 | .bad=>.bad
def ÇR (chk:Fn):List W→List (L2.Key×W)→Dw→Rs W
 | [],acc,dw=>.ok (ÏF acc) dw
 |r::rs,acc,dw=>match r with
  | .tup [name,size,parent,leads]=>Õs (ÇR chk rs) acc name size parent leads (chk [ÐP acc,name,size,parent,leads] dw)
  |_=>.bad
def ÐQ (chk:Fn):Fn:=λ ws dw=>match ws with
 | [.lst rs]=>if rs.length=0 then .ex (Str.ofString "InvalidKind") none dw else if 5<rs.length then .ex (Str.ofString "TooMany") none dw else ÇR chk rs [] dw
 |_=>.bad
structure Bk (dA:Nat) (H:Nat→Prop) (S X:Fr.Å) (dw:Dw) (kws:List (L2.Key×Fr.W)) (Ċ:List (L2.Key×W)):Prop where
 kd:Kd dA S X
 dr:X[dA]?=some (Fr.oI dw)
 at1:X[S.length]?=some (.ins (Str.ofString "Kindbook") [(Str.ofString "rows",.ref (S.length+1))])
 at2:X[S.length+1]?=some (.dK kws)
 keys:kws.map Prod.fst=Ċ.map Prod.fst
 vals:Ó dA (λ x=>H x∨x=S.length∨x=S.length+1) X (kws.map Prod.snd) (Ċ.map Prod.snd)
section
variable{dA:Nat}{H:Nat→Prop}{S X:Fr.Å}{dw:Dw}{kws:List (L2.Key×Fr.W)}{Ċ:List (L2.Key×W)}
theorem ày (hb:∀ x,H x→x<S.length) (hd:H dA) (k:Kd dA S X):∀ x o,¬H x→S[x]?=some o→¬(H x∨x=S.length∨x=S.length+1)∧X[x]?=some o:=λ x o hx hs=>by
 have hl:=(List.getElem?_eq_some_iff.mp hs).1
 refine ⟨λ q=>?_,k.get (λ q=>hx (q▸hd)) hs⟩
 rcases q with q|q|q
 ·exact hx q
 ·omega
 ·omega
theorem any_keys {k:L2.Key}:∀ {ks:List (L2.Key×Fr.W)} {gs:List (L2.Key×W)},ks.map Prod.fst=gs.map Prod.fst→(ks.any λ kv=>decide (kv.1=k))=(gs.any λ kv=>decide (kv.1=k))
 | [],[],_=>rfl
 | [],_::_,e=>by simp at e
 |_::_,[],e=>by simp at e
 |(g,w)::ks,(g',d)::gs,e=>by
  simp only[List.map_cons,List.cons.injEq] at e
  simp only[List.any_cons,e.1,any_keys e.2]
theorem Ük {k:L2.Key} {w:Fr.W} {d:W} {ks:List (L2.Key×Fr.W)} {gs:List (L2.Key×W)} {H':Nat→Prop} (e:ks.map Prod.fst=gs.map Prod.fst) (v:Ó dA H' X (ks.map Prod.snd) (gs.map Prod.snd)) (hv:Vw dA H' X w d):
  (Fr.Êq ks k w).map Prod.fst=(ËL gs k d).map Prod.fst∧Ó dA H' X ((Fr.Êq ks k w).map Prod.snd) ((ËL gs k d).map Prod.snd):=by
 unfold Fr.Êq ËL
 rw[any_keys e]
 split
 ·have key:∀ {ks:List (L2.Key×Fr.W)} {gs:List (L2.Key×W)},ks.map Prod.fst=gs.map Prod.fst→Ó dA H' X (ks.map Prod.snd) (gs.map Prod.snd)→
    (ks.map λ kv=>if kv.1=k then (kv.1,w) else kv).map Prod.fst=(gs.map λ kv=>if kv.1=k then (kv.1,d) else kv).map Prod.fst∧Ó dA H' X ((ks.map λ kv=>if kv.1=k then (kv.1,w) else kv).map Prod.snd) ((gs.map λ kv=>if kv.1=k then (kv.1,d) else kv).map Prod.snd):=by
   intro ks
   induction ks with
   |nil=>intro gs e v;cases gs with
    |nil=>exact ⟨rfl,.nil⟩
    |cons _ _=>simp at e
   |cons p ks ih=>
    intro gs e v
    cases gs with
    |nil=>simp at e
    |cons q gs=>
     obtain ⟨g,u⟩:=p
     obtain ⟨g',u'⟩:=q
     simp only[List.map_cons,List.cons.injEq] at e
     obtain ⟨e1,e2⟩:=e
     subst e1
     simp only[List.map_cons] at v
     obtain ⟨w',r,q,a,b⟩:=v.cons_inv
     cases q
     obtain ⟨i1,i2⟩:=ih e2 b
     by_cases c:g=k
     ·simp only[List.map_cons,c,if_true]
      exact ⟨by rw[i1],.cons hv i2⟩
     ·simp only[List.map_cons,c,if_false]
      exact ⟨by rw[i1],.cons a i2⟩
  exact key e v
 ·simp only[List.map_append,List.map_cons,List.map_nil]
  exact ⟨by rw[e],v.append (.cons hv .nil)⟩
theorem ÞY {x:Fr.W} {d:W} {ls:List W} {H':Nat→Prop} (h:Vw dA H' X x d) (e:itemsOf d=some ls):∃ ws,Fr.Ń [x] X=.ok (.tup ws) X∧Ó dA H' X ws ls:=by
 unfold itemsOf at e
 split at e
 ·cases e
  obtain ⟨ws,rfl,v⟩:=h.ÇP
  exact ⟨ws,rfl,v⟩
 ·cases e
  obtain ⟨k,ws,rfl,h1,h2,v⟩:=h.lst_inv
  exact ⟨ws,by unfold Fr.Ń;simp only[h2],v⟩
 ·cases e
theorem Ú5 (hb:∀ x,H x→x<S.length) (b:Bk dA H S X dw kws Ċ):Vw dA H X (.ref S.length) (ÐP Ċ):=
 .ref (λ q=>by have:=hb _ q;omega) b.at1 (.ob rfl (.cons (.ref (λ q=>by have:=hb _ q;omega) b.at2 (.dk b.keys (b.vals.less λ x q=>.inl q))) .nil))
end
theorem ÞZ:(List.lookup (Str.ofString "check_row") [(Str.ofString "rows",x)]:Option α)=none:=by
 have:(Str.ofString "check_row" ==Str.ofString "rows")=false:=by decide +kernel
 rw[List.lookup_cons,this];rfl
theorem Õt {α:Type} (x:α):List.lookup (Str.ofString "rows") [(Str.ofString "rows",x)]=some x:=by
 have:(Str.ofString "rows" ==Str.ofString "rows")=true:=by decide +kernel
 rw[List.lookup_cons,this]
theorem Õu {ow:Nat} {cm:Fr.Fn} {cp:Fn} (hc:FS ow 5 cm cp) {dA:Nat} {H:Nat→Prop} {S:Fr.Å} (hd:H dA) (hb:∀ x,H x→x<S.length) {k:Nat} {rws:List Fr.W} {n:Nat} (hk:S[k]?=some (.lst rws)) (hkd:k≠dA) (hn:rws.length=n):
  ∀(rs:List W) (w1 pre:List Fr.W) (X:Fr.Å) (dw:Dw) (kws:List (L2.Key×Fr.W)) (Ċ:List (L2.Key×W)) (c2 c3 c4 c5:Option Fr.W),rws=pre++w1→Ó dA H S w1 rs→Bk dA H S X dw kws Ċ→
   match ÇR cp rs Ċ dw with
   | .ok d ĥ=>∃ X' Ül ÙN c2' c3' c4' c5',Fr.forL (Fr.gT 4 (Fr.æ (Fr.gN 2) (Fr.æ (Fr.gN 3) (Fr.æ (Fr.gN 4) (Fr.æ (Fr.gN 5) Fr.ÃU))))) (Fr.ÀL cm) k n w1.length [some (.ref S.length),some (.ref k),c2,c3,c4,c5] X=.nx [some (.ref S.length),some (.ref k),c2',c3',c4',c5'] X'∧Bk dA H S X' ĥ Ül ÙN∧d=ÏF ÙN
   | .ex c x ĥ=>∃ X' y s',Fr.forL (Fr.gT 4 (Fr.æ (Fr.gN 2) (Fr.æ (Fr.gN 3) (Fr.æ (Fr.gN 4) (Fr.æ (Fr.gN 5) Fr.ÃU))))) (Fr.ÀL cm) k n w1.length [some (.ref S.length),some (.ref k),c2,c3,c4,c5] X=.ex c y s' X'∧Kd dA S X'∧X'[dA]?=some (Fr.oI ĥ)∧Vx ⟨dA,S,H⟩ X' y x
   | .bad=>True
 | [],w0,pre,X,dw,kws,Ċ,c2,c3,c4,c5,e,v0,b=>by
  cases v0
  have hx:X[k]?=some (.lst rws):=b.kd.get hkd hk
  exact ⟨X,kws,Ċ,c2,c3,c4,c5,Fr.ÚM 0 k n _ _ rws _ _ hx hn,b,rfl⟩
 |r::rs,w0,pre,X,dw,kws,Ċ,c2,c3,c4,c5,e,v0,b=>by
  obtain ⟨w,w1,rfl,v,vs⟩:=v0.cons_inv
  unfold ÇR
  cases r with
  |tup ds=>
   match ds with
   | [name,size,parent,leads]=>
    simp only
    obtain ⟨tws,rfl,tv⟩:=v.ÇP
    obtain ⟨wn,r1,rfl,v1,tv1⟩:=tv.cons_inv
    obtain ⟨wz,r2,rfl,v2,tv2⟩:=tv1.cons_inv
    obtain ⟨wp,r3,rfl,v3,tv3⟩:=tv2.cons_inv
    obtain ⟨wl,rfl,v4⟩:=tv3.ÅS
    have up:=ày hb hd b.kd
    have u1:=v1.of up
    have u2:=v2.of up
    have u3:=v3.of up
    have u4:=v4.of up
    have ÔI:∀ x,H x→(H x∨x=S.length∨x=S.length+1):=λ x q=>.inl q
    have hcall:=hc dA H X [.ref S.length,wn,wz,wp,wl] [ÐP Ċ,name,size,parent,leads] dw hd (λ x q=>Nat.lt_of_lt_of_le (hb x q) b.kd.le) b.dr (.cons (Ú5 hb b) (.cons (u1.less ÔI) (.cons (u2.less ÔI) (.cons (u3.less ÔI) (.cons (u4.less ÔI) .nil))))) rfl
    have hx:X[k]?=some (.lst rws):=b.kd.get hkd hk
    have hstep:∀ q,Fr.forL (Fr.gT 4 (Fr.æ (Fr.gN 2) (Fr.æ (Fr.gN 3) (Fr.æ (Fr.gN 4) (Fr.æ (Fr.gN 5) Fr.ÃU))))) (Fr.ÀL cm) k n (w1.length+1) [some (.ref S.length),some (.ref k),c2,c3,c4,c5] X=q↔
      Fr.ÿ (Fr.ÀL cm [some (.ref S.length),some (.ref k),some wn,some wz,some wp,some wl] X) (Fr.forL (Fr.gT 4 (Fr.æ (Fr.gN 2) (Fr.æ (Fr.gN 3) (Fr.æ (Fr.gN 4) (Fr.æ (Fr.gN 5) Fr.ÃU))))) (Fr.ÀL cm) k n w1.length)=q:=by
     intro q
     have hi:rws[n-(w1.length+1)]?=some (.tup [wn,wz,wp,wl]):=by
      have:n-(w1.length+1)=pre.length:=by rw[←hn,e];simp
      rw[this,e]
      simp
     have:Fr.forL (Fr.gT 4 (Fr.æ (Fr.gN 2) (Fr.æ (Fr.gN 3) (Fr.æ (Fr.gN 4) (Fr.æ (Fr.gN 5) Fr.ÃU))))) (Fr.ÀL cm) k n (w1.length+1) [some (.ref S.length),some (.ref k),c2,c3,c4,c5] X=
       Fr.ÿ (Fr.ÀL cm [some (.ref S.length),some (.ref k),some wn,some wz,some wp,some wl] X) (Fr.forL (Fr.gT 4 (Fr.æ (Fr.gN 2) (Fr.æ (Fr.gN 3) (Fr.æ (Fr.gN 4) (Fr.æ (Fr.gN 5) Fr.ÃU))))) (Fr.ÀL cm) k n w1.length):=by
      conv=>lhs;unfold Fr.forL
      simp only[hx,hn,if_true,hi]
      show (match Fr.ÀL cm [some (.ref S.length),some (.ref k),some wn,some wz,some wp,some wl] X with
       | .nx s2 S2=>_
       | .ct s2 S2=>_
       | .bk s2 S2=>_
       |r=>r)=_
      unfold Fr.ÿ
      cases Fr.ÀL cm [some (.ref S.length),some (.ref k),some wn,some wz,some wp,some wl] X<;>rfl
     rw[this]
    have Ý3:Fr.å (Str.ofString "Kindbook") (Str.ofString "check_row") cm (Fr.À 0) (Fr.Á (Fr.À 2) (Fr.Á (Fr.À 3) (Fr.Á (Fr.À 4) (Fr.Á (Fr.À 5) Fr.Ä)))) [some (.ref S.length),some (.ref k),some wn,some wz,some wp,some wl] X=cm [.ref S.length,wn,wz,wp,wl] X:=by
     show Fr.Í9 _ _ cm _ _ (.ref S.length) X=_
     unfold Fr.Í9 Fr.ī
     simp only[b.at1,if_true,ÞZ]
     rfl
    cases hq:cp [ÐP Ċ,name,size,parent,leads] dw with
    |bad=>trivial
    |ex c x õ=>
     rw[hq] at hcall
     obtain ⟨y,X1,q1,q2,q3,q4⟩:=hcall
     refine ⟨X1,y,[some (.ref S.length),some (.ref k),some wn,some wz,some wp,some wl],(hstep _).mpr ?_,b.kd.trans q2,q3,q4⟩
     unfold Fr.ÀL
     rw[Fr.seq_eq,Fr.ū,Ý3,q1]
     rfl
    |ok u õ=>
     rw[hq] at hcall
     obtain ⟨uw,X1,q1,q2,q3,q4⟩:=hcall
     show match Õs (ÇR cp rs) Ċ name size parent leads (.ok u õ) with
      | .ok d ĥ=>_
      | .ex c x ĥ=>_
      | .bad=>True
     unfold Õs
     cases hkey:keyOf name with
     |none=>trivial
     |some key=>
      cases hls:itemsOf leads with
      |none=>trivial
      |some ls=>
       simp only
       by_cases hl:Ċ.length<sizeLine
       ·rw[if_pos hl]
        have kd1:=b.kd.trans q2
        have Üm:S.length≠dA:=λ q=>by have:=hb _ hd;omega
        have àz:S.length+1≠dA:=λ q=>by have:=hb _ hd;omega
        have at1:=q2.get Üm b.at1
        have at2:=q2.get àz b.at2
        have hdd:(H dA∨dA=S.length∨dA=S.length+1):=.inl hd
        have w1':=u1.kd q2 hdd
        have w2':=u2.kd q2 hdd
        have w3':=u3.kd q2 hdd
        have w4':=u4.kd q2 hdd
        obtain ⟨lw,t1,t2⟩:=ÞY w4' hls
        have hl2:kws.length<sizeLine:=by
         have:=congrArg List.length b.keys
         simp at this
         omega
        have turn:Fr.ÀL cm [some (.ref S.length),some (.ref k),some wn,some wz,some wp,some wl] X=.nx [some (.ref S.length),some (.ref k),some wn,some wz,some wp,some wl] (X1.set (S.length+1) (.dK (Fr.Êq kws key (.tup [wz,wp,.tup lw])))):=by
         unfold Fr.ÀL
         rw[Fr.seq_eq,Fr.ū,Ý3,q1,Fr.Ţ,Fr.ŗ]
         unfold Fr.ÔC
         have e1:Fr.ô (Fr.Á (Fr.À 3) (Fr.Á (Fr.À 4) (Fr.Á (Fr.eB Fr.Ń (Fr.Á (Fr.À 5) Fr.Ä)) Fr.Ä))) [some (.ref S.length),some (.ref k),some wn,some wz,some wp,some wl] X1=.ok (.tup [wz,wp,.tup lw]) X1:=by
          have h3:[wz,wp,Fr.W.tup lw].length≤sizeLine:=by rw[Fr.ËC];simp
          simp only[Fr.Âg,Fr.ĸ,Fr.ÁX,Fr.Àa,Fr.ė,Fr.ň,Fr.ÃD,Fr.ũ,Fr.Â9,t1,if_pos h3]
         have e2:Fr.ÁJ (Str.ofString "Kindbook") (Str.ofString "rows") (Fr.À 0) [some (.ref S.length),some (.ref k),some wn,some wz,some wp,some wl] X1=.ok (.ref (S.length+1)) X1:=by
          show Fr.Ïu _ _ (.ref S.length) X1=_
          unfold Fr.Ïu Fr.ī
          simp only[at1,if_true,Õt]
         rw[Fr.ň,e1,Fr.ė,Fr.ň,e2,Fr.ė,Fr.ň]
         show Fr.â (Fr.ÔB _ _ wn X1) _ _=_
         unfold Fr.ÔB Fr.dictOf
         simp only[at2,key_of w1' hkey,if_pos hl2]
         rfl
        have hlen2:S.length+1<X1.length:=(List.getElem?_eq_some_iff.mp at2).1
        have up2:∀ x o,¬(H x∨x=S.length∨x=S.length+1)→X1[x]?=some o→¬(H x∨x=S.length∨x=S.length+1)∧(X1.set (S.length+1) (.dK (Fr.Êq kws key (.tup [wz,wp,.tup lw]))))[x]?=some o:=λ x o hx hq=>⟨hx,by
         have:S.length+1≠x:=λ q=>hx (.inr (.inr q.symm))
         rw[List.getElem?_set_ne this];exact hq⟩
        have pk:=Ük (k:=key) b.keys (b.vals.kd q2 hdd) (.tup (.cons w2' (.cons w3' (.cons (.tup t2) .nil))))
        have b2:Bk dA H S (X1.set (S.length+1) (.dK (Fr.Êq kws key (.tup [wz,wp,.tup lw])))) õ (Fr.Êq kws key (.tup [wz,wp,.tup lw])) (ËL Ċ key (.tup [size,parent,.tup ls])):=
         {kd:=⟨by simpa using kd1.le,λ x hx hn=>by rw[List.getElem?_set_ne (by omega)];exact kd1.old x hx hn⟩
          dr:=by rw[List.getElem?_set_ne àz];exact q3
          at1:=by rw[List.getElem?_set_ne (by omega)];exact at1
          at2:=List.getElem?_set_self hlen2
          keys:=pk.1
          vals:=pk.2.of up2}
        have ih:=Õu hc hd hb hk hkd hn rs w1 (pre++[.tup [wn,wz,wp,wl]]) _ õ _ _ (some wn) (some wz) (some wp) (some wl) (by rw[e];simp) vs b2
        revert ih
        cases ÇR cp rs (ËL Ċ key (.tup [size,parent,.tup ls])) õ with
        |bad=>intro _;trivial
        |ok d dw2=>
         rintro ⟨X',Ül,ÙN,a2,a3,a4,a5,h1,h2⟩
         exact ⟨X',Ül,ÙN,a2,a3,a4,a5,(hstep _).mpr (by rw[turn];exact h1),h2⟩
        |ex c x dw2=>
         rintro ⟨X',y,s',h1,h2⟩
         exact ⟨X',y,s',(hstep _).mpr (by rw[turn];exact h1),h2⟩
       ·rw[if_neg hl];trivial
   | []=>trivial
   | [_]=>trivial
   | [_,_]=>trivial
   | [_,_,_]=>trivial
   |_::_::_::_::_::_=>trivial
  |_=>trivial
theorem Ün {S:Fr.Å} {o o' p:Fr.Ob}:((S++[o])++[p]).set S.length o'=S++[o',p]:=by simp[List.set_append]
theorem Þ0 {ow:Nat} {cm:Fr.Fn} {cp:Fn} (hc:FS ow 5 cm cp):FS 1 1 (Fr.Ðq (Str.ofString "Kindbook") (Fr.ē 6 (Fr.ÔH cm))) (ÐQ cp):=by
 intro dA H S ws ds dw hd hb e v hk
 unfold ÐQ
 split
 ·rename_i rs
  obtain ⟨w,rfl,v1⟩:=v.ÅS
  obtain ⟨k,rws,rfl,k1,k2,k3⟩:=v1.lst_inv
  have hkl:=(List.getElem?_eq_some_iff.mp k2).1
  have hkd:k≠dA:=λ q=>k1 (q▸hd)
  have hlen:=k3.length
  have s1:(S++[Fr.Ob.ins (Str.ofString "Kindbook") []])[k]?=some (.lst rws):=Fr.ÈT _ k2
  have dr1:∀ T:Fr.Å,(S++T)[dA]?=some (Fr.oI dw):=λ T=>by rw[List.getElem?_append_left (List.getElem?_eq_some_iff.mp e).1];exact e
  have e0:Fr.Ðq (Str.ofString "Kindbook") (Fr.ē 6 (Fr.ÔH cm)) [.ref k] S=(match Fr.fnK (Fr.ÔH cm [some (.ref S.length),some (.ref k),none,none,none,none] (S++[.ins (Str.ofString "Kindbook") []])) with
   | .ok .non S'=>.ok (.ref S.length) S'
   | .ex x d S'=>.ex x d S'
   |_=>.bad):=rfl
  have eL:Fr.eB Fr.ö (Fr.Á (Fr.À 1) Fr.Ä) [some (.ref S.length),some (.ref k),none,none,none,none] (S++[.ins (Str.ofString "Kindbook") []])=.ok (.int rws.length) (S++[.ins (Str.ofString "Kindbook") []]):=by
   simp only[Fr.ÃD,Fr.ĸ,Fr.ÁX,Fr.Àa,Fr.ė,Fr.ň,Fr.ũ,Fr.Â9,Fr.ÁF,s1,Fr.ÃE]
  have r0:Fr.Ù (Fr.tB (Fr.É Fr.Ė (Fr.eB Fr.ö (Fr.Á (Fr.À 1) Fr.Ä)) (Fr.eC (.int 0)))) (Fr.Ĥ (Str.ofString "InvalidKind")) Fr.Ñ [some (.ref S.length),some (.ref k),none,none,none,none] (S++[.ins (Str.ofString "Kindbook") []])=if rws.length=0 then .ex (Str.ofString "InvalidKind") none [some (.ref S.length),some (.ref k),none,none,none,none] (S++[.ins (Str.ofString "Kindbook") []]) else .nx [some (.ref S.length),some (.ref k),none,none,none,none] (S++[.ins (Str.ofString "Kindbook") []]):=by
   simp only[Fr.Á0,Fr.ÃC,Fr.ÁY,eL,Fr.ė,Fr.ň,Fr.ÃW,Fr.ÀR,Fr.ÁZ,Fr.Ţ,Fr.Ŕ,Fr.ÀQ]
   by_cases g:rws.length=0
   ·simp[g]
   ·rw[if_neg g]
    have:¬((rws.length:Int)=0):=by omega
    rw[decide_eq_false this]
    rfl
  have r1:Fr.Ù (Fr.tB (Fr.É Fr.gtM (Fr.eB Fr.ö (Fr.Á (Fr.À 1) Fr.Ä)) (Fr.eC (.int 5)))) (Fr.Ĥ (Str.ofString "TooMany")) Fr.Ñ [some (.ref S.length),some (.ref k),none,none,none,none] (S++[.ins (Str.ofString "Kindbook") []])=if 5<rws.length then .ex (Str.ofString "TooMany") none [some (.ref S.length),some (.ref k),none,none,none,none] (S++[.ins (Str.ofString "Kindbook") []]) else .nx [some (.ref S.length),some (.ref k),none,none,none,none] (S++[.ins (Str.ofString "Kindbook") []]):=by
   simp only[Fr.Á0,Fr.ÃC,Fr.ÁY,eL,Fr.ė,Fr.ň,Fr.ÃW,Fr.Âi,Fr.ÁZ,Fr.Ţ,Fr.Ŕ,Fr.ÀQ]
   by_cases g:5<rws.length
   ·rw[if_pos g]
    have:(5:Int)<rws.length:=by omega
    rw[decide_eq_true this]
    rfl
   ·rw[if_neg g]
    have:¬((5:Int)<rws.length):=by omega
    rw[decide_eq_false this]
    rfl
  rw[e0]
  unfold Fr.ÔH
  rw[Fr.seq_eq,r0]
  by_cases g0:rs.length=0
  ·rw[if_pos g0,if_pos (by omega)]
   exact ⟨none,_,rfl,.app _,dr1 _,trivial⟩
  ·rw[if_neg g0,if_neg (by omega:¬ rws.length=0),Fr.ŗ,Fr.seq_eq,r1]
   by_cases g5:5<rs.length
   ·rw[if_pos g5,if_pos (by omega)]
    exact ⟨none,_,rfl,.app _,dr1 _,trivial⟩
   ·rw[if_neg g5,if_neg (by omega:¬ 5<rws.length),Fr.ŗ,Fr.seq_eq]
    have r2:Fr.Éb (Str.ofString "Kindbook") (Str.ofString "rows") (Fr.À 0) Fr.Òf [some (.ref S.length),some (.ref k),none,none,none,none] (S++[.ins (Str.ofString "Kindbook") []])=.nx [some (.ref S.length),some (.ref k),none,none,none,none] (S++[.ins (Str.ofString "Kindbook") [(Str.ofString "rows",.ref (S.length+1))],.dK []]):=by
     unfold Fr.Éb Fr.Òf
     rw[Fr.ň,Fr.Çv,Fr.ė,Fr.ň,Fr.Àa,Fr.ė]
     unfold Fr.Íx Fr.ī
     have:((S++[Fr.Ob.ins (Str.ofString "Kindbook") []])++[Fr.Ob.dK []])[S.length]?=some (.ins (Str.ofString "Kindbook") []):=by simp
     simp only[this,if_true,List.length_nil,show (0:Nat)<1000 from by decide,Fr.Ţ,Ün,List.length_append,List.length_singleton]
     rfl
    rw[r2,Fr.ŗ,Fr.seq_eq]
    have b0:Bk dA H S (S++[.ins (Str.ofString "Kindbook") [(Str.ofString "rows",.ref (S.length+1))],.dK []]) dw [] []:=
     ⟨.app _,dr1 _,by simp,by rw[List.getElem?_append_right (by omega)];simp,rfl,.nil⟩
    have h:=Õu hc hd hb k2 hkd rfl rs rws [] _ dw [] [] none none none none rfl k3 b0
    have r3:Fr.ê (Fr.iE (Fr.À 1)) (Fr.gT 4 (Fr.æ (Fr.gN 2) (Fr.æ (Fr.gN 3) (Fr.æ (Fr.gN 4) (Fr.æ (Fr.gN 5) Fr.ÃU))))) (Fr.ÀL cm) [some (.ref S.length),some (.ref k),none,none,none,none] (S++[.ins (Str.ofString "Kindbook") [(Str.ofString "rows",.ref (S.length+1))],.dK []])=
      Fr.forL (Fr.gT 4 (Fr.æ (Fr.gN 2) (Fr.æ (Fr.gN 3) (Fr.æ (Fr.gN 4) (Fr.æ (Fr.gN 5) Fr.ÃU))))) (Fr.ÀL cm) k rws.length rws.length [some (.ref S.length),some (.ref k),none,none,none,none] (S++[.ins (Str.ofString "Kindbook") [(Str.ofString "rows",.ref (S.length+1))],.dK []]):=by
     have s2:(S++[Fr.Ob.ins (Str.ofString "Kindbook") [(Str.ofString "rows",.ref (S.length+1))],.dK []])[k]?=some (.lst rws):=Fr.ÈT _ k2
     simp only[Fr.ÁE,Fr.ÅD,Fr.ÁX,Fr.Àa,Fr.ė,Fr.Á1,s2,Fr.ÃE,Fr.Ţ,Fr.Á2,Fr.ÅP]
    rw[r3]
    revert h
    cases ÇR cp rs [] dw with
    |bad=>intro _;trivial
    |ex c x õ=>
     rintro ⟨X1,y,s',h1,h2,h3,h4⟩
     rw[h1]
     exact ⟨y,X1,rfl,h2,h3,h4⟩
    |ok d õ=>
     rintro ⟨X1,kws,Ċ,c2,c3,c4,c5,h1,b,rfl⟩
     rw[h1,Fr.ŗ]
     have Üm:S.length≠dA:=λ q=>by have:=hb _ hd;omega
     have e2:Fr.ÁJ (Str.ofString "Kindbook") (Str.ofString "rows") (Fr.À 0) [some (.ref S.length),some (.ref k),c2,c3,c4,c5] X1=.ok (.ref (S.length+1)) X1:=by
      show Fr.Ïu _ _ (.ref S.length) X1=_
      unfold Fr.Ïu Fr.ī
      simp only[b.at1,if_true,Õt]
     have hl1:S.length<X1.length:=(List.getElem?_eq_some_iff.mp b.at1).1
     have e3:Fr.eB Fr.Ń (Fr.Á (Fr.eB Fr.ÁH (Fr.Á (Fr.ÁJ (Str.ofString "Kindbook") (Str.ofString "rows") (Fr.À 0)) Fr.Ä)) Fr.Ä) [some (.ref S.length),some (.ref k),c2,c3,c4,c5] X1=.ok (.tup (kws.map λ kv=>Fr.ÄK kv.1)) (X1++[.lst (kws.map λ kv=>Fr.ÄK kv.1)]):=by
      have el:Fr.ÁH [.ref (S.length+1)] X1=.ok (.ref X1.length) (X1++[.lst (kws.map λ kv=>Fr.ÄK kv.1)]):=by unfold Fr.ÁH;simp only[b.at2];rfl
      have et:Fr.Ń [.ref X1.length] (X1++[.lst (kws.map λ kv=>Fr.ÄK kv.1)])=.ok (.tup (kws.map λ kv=>Fr.ÄK kv.1)) (X1++[.lst (kws.map λ kv=>Fr.ÄK kv.1)]):=by unfold Fr.Ń;simp only[Fr.Äz]
      simp only[Fr.ÃD,Fr.ĸ,e2,Fr.ė,Fr.ň,Fr.ũ,Fr.Â9,el,et]
     have hput:Fr.Ïv (Str.ofString "names") (Fr.W.tup (kws.map λ kv=>Fr.ÄK kv.1)) [(Str.ofString "rows",Fr.W.ref (S.length+1))]=[(Str.ofString "rows",Fr.W.ref (S.length+1)),(Str.ofString "names",Fr.W.tup (kws.map λ kv=>Fr.ÄK kv.1))]:=
      ÑC (acc:=[(Str.ofString "rows",Fr.W.ref (S.length+1))]) (by simp only[List.map_cons,List.map_nil,List.mem_singleton];decide +kernel)
     have r4:Fr.Éb (Str.ofString "Kindbook") (Str.ofString "names") (Fr.À 0) (Fr.eB Fr.Ń (Fr.Á (Fr.eB Fr.ÁH (Fr.Á (Fr.ÁJ (Str.ofString "Kindbook") (Str.ofString "rows") (Fr.À 0)) Fr.Ä)) Fr.Ä)) [some (.ref S.length),some (.ref k),c2,c3,c4,c5] X1=
       .nx [some (.ref S.length),some (.ref k),c2,c3,c4,c5] ((X1++[Fr.Ob.lst (kws.map λ kv=>Fr.ÄK kv.1)]).set S.length (.ins (Str.ofString "Kindbook") [(Str.ofString "rows",.ref (S.length+1)),(Str.ofString "names",.tup (kws.map λ kv=>Fr.ÄK kv.1))])):=by
      unfold Fr.Éb
      rw[Fr.ň,e3,Fr.ė,Fr.ň,Fr.Àa,Fr.ė]
      unfold Fr.Íx Fr.ī
      have:(X1++[Fr.Ob.lst (kws.map λ kv=>Fr.ÄK kv.1)])[S.length]?=some (.ins (Str.ofString "Kindbook") [(Str.ofString "rows",.ref (S.length+1))]):=Fr.ÈT _ b.at1
      simp only[this,if_true,List.length_singleton,show (1:Nat)<1000 from by decide,Fr.Ţ,hput]
     rw[r4]
     have kd2:Kd dA S ((X1++[Fr.Ob.lst (kws.map λ kv=>Fr.ÄK kv.1)]).set S.length (.ins (Str.ofString "Kindbook") [(Str.ofString "rows",.ref (S.length+1)),(Str.ofString "names",.tup (kws.map λ kv=>Fr.ÄK kv.1))])):=
      ⟨by have:=b.kd.le;simp;omega,λ x hx hn=>by rw[List.getElem?_set_ne (by omega),List.getElem?_append_left (by omega)];exact b.kd.old x hx hn⟩
     have f:Fsh dA H S.length ((X1++[Fr.Ob.lst (kws.map λ kv=>Fr.ÄK kv.1)]).set S.length (.ins (Str.ofString "Kindbook") [(Str.ofString "rows",.ref (S.length+1)),(Str.ofString "names",.tup (kws.map λ kv=>Fr.ÄK kv.1))])) (.ref S.length) (ÏF Ċ):=by
      refine ⟨S.length,_,rfl,Nat.le_refl _,List.getElem?_set_self (by simp;omega),?_⟩
      have at2:((X1++[Fr.Ob.lst (kws.map λ kv=>Fr.ÄK kv.1)]).set S.length (.ins (Str.ofString "Kindbook") [(Str.ofString "rows",.ref (S.length+1)),(Str.ofString "names",.tup (kws.map λ kv=>Fr.ÄK kv.1))]))[S.length+1]?=some (.dK kws):=by
       rw[List.getElem?_set_ne (by omega)]
       exact Fr.ÈT _ b.at2
      have hk3:∀ (ks:List (L2.Key×Fr.W)) (gs:List (L2.Key×W)) (H':Nat→Prop) (T:Fr.Å),ks.map Prod.fst=gs.map Prod.fst→Ó dA H' T (ks.map λ kv=>Fr.ÄK kv.1) (gs.map λ kv=>Üj kv.1):=by
       intro ks
       induction ks with
       |nil=>intro gs H' T e;cases gs with
        |nil=>exact .nil
        |cons _ _=>simp at e
       |cons p ks ih=>
        intro gs H' T e
        cases gs with
        |nil=>simp at e
        |cons q gs=>
         simp only[List.map_cons,List.cons.injEq] at e
         simp only[List.map_cons]
         refine .cons ?_ (ih gs H' T e.2)
         rw[e.1]
         cases q.1 with
         |inl i=>exact .int i
         |inr i=>exact .str i
      refine .ob rfl (.cons (.ref (λ q=>?_) at2 (.dk b.keys ?_)) (.cons (.tup (hk3 kws Ċ _ _ b.keys)) .nil))
      ·rcases q with q|q
       ·have:=hb _ q;omega
       ·omega
      ·refine b.vals.of λ x o hx hs=>⟨λ q=>hx ?_,?_⟩
       ·rcases q with q|q
        ·exact .inl q
        ·exact .inr (.inl q)
       ·have:S.length≠x:=λ q=>hx (.inr (.inl q.symm))
        rw[List.getElem?_set_ne this]
        exact Fr.ÈT _ hs
     refine ⟨.ref S.length,_,rfl,kd2,?_,f.vw hb,(λ _ _=>f),λ q=>nomatch q⟩
     rw[List.getElem?_set_ne Üm]
     exact Fr.ÈT _ b.dr
 ·trivial
theorem ÙO:OS Fr.mulM mulM:=by
 intro dA H S x y d e dw hb h1 h2
 unfold mulM
 split
 ·rename_i i j
  cases h1.int;cases h2.int
  by_cases g:(Fr.inR 18446744073709551615 i||Fr.inR 18446744073709551615 j)=true
  ·rw[if_pos g]
   exact ⟨rfl,OSo.same (by unfold Fr.mulM;simp only[if_pos g];rfl) (.int _) rfl⟩
  ·rw[if_neg g];trivial
 ·rename_i a n
  cases h1.str;cases h2.int
  by_cases g:0≤n∧n≤1000∧1≤a.length∧a.length≤1000
  ·rw[if_pos g]
   exact ⟨rfl,OSo.same (by unfold Fr.mulM;simp only[if_pos g];rfl) (.str _) rfl⟩
  ·rw[if_neg g];trivial
 ·rename_i xs n
  cases h2.int
  obtain ⟨k,ws,rfl,a1,v1⟩:=h1.lst
  by_cases g:Fr.inR 9223372036854775807 n=true∧xs.length*n.toNat≤sizeLine
  ·rw[if_pos g]
   refine ⟨rfl,OSo.new hb (o:=.lst (List.replicate n.toNat ws).flatten) ?_ (.lst (v1.repl _))⟩
   unfold Fr.mulM
   simp only[a1,v1.length,if_pos g]
   rfl
  ·rw[if_neg g];trivial
 ·rename_i xs n
  cases h2.int
  obtain ⟨ws,rfl,v1⟩:=h1.tup
  by_cases g:xs.isEmpty=false∧0≤n∧n≤1000∧xs.length≤1000
  ·rw[if_pos g]
   have e:ws.isEmpty=false:=by
    have:=v1.length
    cases ws with
    |nil=>cases xs with
     |nil=>exact g.1
     |cons _ _=>cases this
    |cons _ _=>rfl
   exact ⟨rfl,OSo.same (by unfold Fr.mulM;simp only[e,v1.length,g.2,true_and,if_true,and_self];rfl) (.tup (v1.repl _)) rfl⟩
  ·rw[if_neg g];trivial
 ·trivial
end Pu
namespace Pu
open PySem
section
variable{md:List Nat}{ow:Nat}
end
end Pu
namespace Pu
open PySem
mutual
def ÇS:W→Option NestedKey
 | .non=>some .none
 | .int i=>some (.num i)
 | .str x=>some (.text x)
 | .tup ws=>(ÊH ws).map .tup
 |_=>none
def ÊH:List W→Option (List NestedKey)
 | []=>some []
 |w::ws=>match ÇS w,ÊH ws with
  |some k,some ks=>some (k::ks)
  |_,_=>none
end
def Đ (x:W):Option NestedKey:=match ÇS x with
 |some (.tup ks)=>if (NestedKey.tup ks).depth≤8 then some (.tup ks) else none
 |_=>none
def Òo (kvs:List (NestedKey×W)) (k:NestedKey):Option W:=(kvs.find? λ kv=>decide (kv.1=k)).map (·.2)
def ËM (kvs:List (NestedKey×W)) (k:NestedKey) (v:W):List (NestedKey×W):=
 if (kvs.any λ kv=>decide (kv.1=k))=true then kvs.map (λ kv=>if kv.1=k then (kv.1,v) else kv) else kvs++[(k,v)]
def ÀC (s:Sl) (i:Nat):Option (List (NestedKey×W)):=match s[i]? with
 |some (some (.dt kvs))=>some kvs
 |_=>none
def ÔJ (i:Nat):Ì:=λ s S=>.nx (s.set i (some (.dt []))) S
def Òp (i:Nat) (fk fe:Exp):Ì:=λ s S=>match ÀC s i with
 |some kvs=>â (bd (fe s) (λ v=>bd (fk s) λ k=>rt (k,v)) S) s λ kv S'=>match Đ kv.1 with
  |some k=>if kvs.length<16777216 then .nx (s.set i (some (.dt (ËM kvs k kv.2)))) S' else .bad
  |none=>.bad
 |none=>.bad
def atN (kvs:List (NestedKey×W)) (y:W):Option W:=match Đ y with
 |some k=>Òo kvs k
 |none=>none
def ÔK (x y:W):Option W:=match x with
 | .dt kvs=>atN kvs y
 |_=>none
def Ũ (x y:W):M W:=Ŭ (ÔK x y)
def ÐR (i:Nat) (fk:Exp):Exp:=λ s=>match ÀC s i with
 |some kvs=>bd (fk s) λ y=>Ŭ (atN kvs y)
 |none=>bad
section
variable{dA:Nat}{H:Nat→Prop}{S:Fr.Å}
mutual
theorem ØL:∀ {x:Fr.W} {d:W} {k:NestedKey},Vw dA H S x d→ÇS d=some k→Fr.ÈB x=some k
 |_,_,_,.non,e=>e
 |_,_,_,.bl b,e=>by unfold ÇS at e;cases e
 |_,_,_,.int i,e=>e
 |_,_,_,.str x,e=>e
 |_,_,_,.gl x,e=>by unfold ÇS at e;cases e
 |_,_,_,.ty n,e=>by unfold ÇS at e;cases e
 |_,_,_,.dr,e=>by unfold ÇS at e;cases e
 |_,_,_,.ref h q v,e=>by cases v<;>(unfold ÇS at e;cases e)
 |_,_,_,.tup (ds:=ds) h,e=>by
  unfold ÇS at e
  unfold Fr.ÈB
  cases hk:ÊH ds with
  |none=>rw[hk] at e;cases e
  |some ks=>rw[hk] at e;rw[Õw h hk];exact e
theorem Õw:∀ {xs:List Fr.W} {ds:List W} {ks:List NestedKey},Ó dA H S xs ds→ÊH ds=some ks→Fr.ËB xs=some ks
 |_,_,_,.nil,e=>e
 |_,_,_,.cons (d:=d) (ds:=ds) a r,e=>by
  unfold ÊH at e
  unfold Fr.ËB
  cases h1:ÇS d with
  |none=>rw[h1] at e;cases e
  |some k=>
   cases h2:ÊH ds with
   |none=>rw[h1,h2] at e;cases e
   |some ks=>rw[h1,h2] at e;rw[ØL a h1,Õw r h2];exact e
end
theorem Óo {x:Fr.W} {d:W} {k:NestedKey} (h:Vw dA H S x d) (e:Đ d=some k):Fr.tkey x=some k:=by
 unfold Đ at e
 unfold Fr.tkey
 cases hk:ÇS d with
 |none=>rw[hk] at e;cases e
 |some k'=>rw[ØL h hk];rw[hk] at e;exact e
theorem ØM (k:NestedKey):∀ {ks:List (NestedKey×Fr.W)} {gs:List (NestedKey×W)},ks.map Prod.fst=gs.map Prod.fst→(ks.any λ kv=>decide (kv.1=k))=(gs.any λ kv=>decide (kv.1=k))
 | [],[],_=>rfl
 | [],_::_,e=>by simp at e
 |_::_,[],e=>by simp at e
 |(a,_)::ks,(b,_)::gs,e=>by
  simp only[List.map_cons,List.cons.injEq] at e
  simp only[List.any_cons,e.1,ØM k e.2]
theorem Óp (k:NestedKey):∀ {ks:List (NestedKey×Fr.W)} {gs:List (NestedKey×W)} {d:W},ks.map Prod.fst=gs.map Prod.fst→Ó dA H S (ks.map Prod.snd) (gs.map Prod.snd)→
  Òo gs k=some d→∃ w,Fr.valN ks k=some w∧Vw dA H S w d
 | [],[],_,_,_,q=>by cases q
 | [],_::_,_,e,_,_=>by simp at e
 |_::_,[],_,e,_,_=>by simp at e
 |(a,w)::ks,(b,u)::gs,d,e,v,q=>by
  simp only[List.map_cons,List.cons.injEq] at e
  obtain ⟨e1,e2⟩:=e
  have e1':a=b:=e1
  subst e1'
  simp only[List.map_cons] at v
  cases v with
  |cons v1 v2=>
   unfold Òo at q
   unfold Fr.valN
   by_cases hk:a=k
   ·simp only[List.find?_cons,hk,decide_true,Option.map_some] at q ⊢
    cases q
    exact ⟨w,rfl,v1⟩
   ·simp only[List.find?_cons,hk,decide_false] at q ⊢
    exact Óp k e2 v2 q
theorem ØN {k:NestedKey} {w:Fr.W} {d:W} (hv:Vw dA H S w d):∀ {ks:List (NestedKey×Fr.W)} {gs:List (NestedKey×W)},ks.map Prod.fst=gs.map Prod.fst→Ó dA H S (ks.map Prod.snd) (gs.map Prod.snd)→
  (ks.map λ kv=>if kv.1=k then (kv.1,w) else kv).map Prod.fst=(gs.map λ kv=>if kv.1=k then (kv.1,d) else kv).map Prod.fst∧
  Ó dA H S ((ks.map λ kv=>if kv.1=k then (kv.1,w) else kv).map Prod.snd) ((gs.map λ kv=>if kv.1=k then (kv.1,d) else kv).map Prod.snd)
 | [],[],_,_=>⟨rfl,.nil⟩
 | [],_::_,e,_=>by simp at e
 |_::_,[],e,_=>by simp at e
 |(a,x)::ks,(b,u)::gs,e,v=>by
  simp only[List.map_cons,List.cons.injEq] at e
  obtain ⟨e1,e2⟩:=e
  have e1':a=b:=e1
  subst e1'
  simp only[List.map_cons] at v
  cases v with
  |cons v1 v2=>
   obtain ⟨i1,i2⟩:=ØN hv e2 v2
   by_cases hk:a=k
   ·simp only[List.map_cons,hk,if_true]
    exact ⟨by rw[i1],.cons hv i2⟩
   ·simp only[List.map_cons,hk,if_false]
    exact ⟨by rw[i1],.cons v1 i2⟩
theorem Õx {w:Fr.W} {d:W} (hv:Vw dA H S w d):∀ {xs:List Fr.W} {ds:List W},Ó dA H S xs ds→Ó dA H S (xs++[w]) (ds++[d])
 |_,_,.nil=>.cons hv .nil
 |_,_,.cons a r=>.cons a (Õx hv r)
theorem Þ1 {k:NestedKey} {w:Fr.W} {d:W} {ks:List (NestedKey×Fr.W)} {gs:List (NestedKey×W)} (e:ks.map Prod.fst=gs.map Prod.fst) (v:Ó dA H S (ks.map Prod.snd) (gs.map Prod.snd)) (hv:Vw dA H S w d):
  (Fr.Îa ks k w).map Prod.fst=(ËM gs k d).map Prod.fst∧Ó dA H S ((Fr.Îa ks k w).map Prod.snd) ((ËM gs k d).map Prod.snd):=by
 unfold Fr.Îa ËM
 rw[ØM k e]
 split
 ·exact ØN hv e v
 ·simp only[List.map_append,List.map_cons,List.map_nil,e]
  exact ⟨trivial,Õx hv v⟩
end
section
variable{md:List Nat}{ow:Nat}
theorem Ú6 {i:Nat} (m:Œ md i=1):PS ow md (Fr.Ô i Fr.ÌH) (ÔJ i):=by
 intro F H R p dw s S l
 have dr:(S++[Fr.Ob.dN []])[F.dA]?=some (Fr.oI dw):=by
  rw[List.getElem?_append_left (List.getElem?_eq_some_iff.mp l.dr).1]
  exact l.dr
 have q:=l.às (Kd.app [Fr.Ob.dN []]) dr m (a:=S.length) (o:=.dN []) (d:=.dt []) (Nat.le_refl _) (by simp) (.dt rfl .nil)
 refine ⟨_,S++[.dN []],_,_,rfl,q,⟨by simp,λ x h=>?_,λ x h n=>List.getElem?_append_left h⟩⟩
 rcases h with h|h
 ·exact .inl h
 ·exact .inr (by omega)
theorem Õy {i:Nat} {kvs:List (NestedKey×W)} {F:Fm} {H:Nat→Prop} {R:Nat→Nat→Prop} {p:Sl} {dw:List Int} {s:Fr.Sl} {S:Fr.Å} (l:Rl md F H R p dw s S) (m:Œ md i=1) (e:ÀC p i=some kvs):
  ∃a kws,s[i]?=some (some (.ref a))∧S[a]?=some (.dN kws)∧R i a∧kws.map Prod.fst=kvs.map Prod.fst∧Ó F.dA H S (kws.map Prod.snd) (kvs.map Prod.snd):=by
 unfold ÀC at e
 split at e
 ·rename_i ks hk
  cases e
  obtain ⟨a,o,h1,h2,h3,h4⟩:=l.own i _ m hk (λ z=>nomatch z)
  cases h4 with
  |dt e1 e2=>exact ⟨a,_,h1,h2,h3,e1,e2⟩
 ·cases e
theorem Ú7 {i:Nat} {fi fe:Fr.Exp} {fi' fe':Exp} (m:Œ md i=1) (hi:PX cT md fi fi') (he:PX cC md fe fe'):PS ow md (Fr.Éd (Fr.À i) fi fe) (Òp i fi' fe'):=by
 intro F H R p dw s S l
 unfold Òp
 cases ho:ÀC p i with
 |none=>trivial
 |some kvs=>
  obtain ⟨b,kws,h1,h2,h3,h4,h5⟩:=Õy l m ho
  have v:∀ S,Fr.À i s S=.ok (.ref b) S:=λ S=>by unfold Fr.À;simp only[h1]
  simp only
  have hq:=he _ _ _ _ _ _ _ l
  unfold Pu.bd
  cases hy:fe' p dw with
  |bad=>trivial
  |ex c x õ=>
   rw[hy] at hq
   obtain ⟨y,S1,q1,q2,q3,q4⟩:=hq
   exact ⟨y,s,S1,H,R,by unfold Fr.Éd Fr.bd;rw[q1];rfl,l.kd q2 q3,q2.gw l.hdA,q4⟩
  |ok y õ=>
   rw[hy] at hq
   obtain ⟨u,S1,q1,k1,q3,q4⟩:=hq
   have l1:=l.kd k1 q3
   have hq2:=hi _ _ _ _ _ _ _ l1
   simp only
   cases hz:fi' p õ with
   |bad=>trivial
   |ex c x dw2=>
    rw[hz] at hq2
    obtain ⟨y',S2,b1,b2,b3,b4⟩:=hq2
    exact ⟨y',s,S2,H,R,by unfold Fr.Éd Fr.bd;rw[q1];simp only[v,b1];rfl,l1.kd b2 b3,(k1.trans b2).gw l.hdA,b4⟩
   |ok z dw2=>
    rw[hz] at hq2
    obtain ⟨t,S2,b1,b2,b3,b4⟩:=hq2
    have l2:=l1.kd b2 b3
    show RSt ow md F H S _ (match Đ z with
     |some k=>if kvs.length<16777216 then .nx (p.set i (some (.dt (ËM kvs k y)))) dw2 else .bad
     |none=>.bad)
    cases hk:Đ z with
    |none=>trivial
    |some k=>
     simp only
     by_cases g:kvs.length<16777216
     ·rw[if_pos g]
      have kk2:=k1.trans b2
      have hb:=kk2.get (l.rh i b h3).2.1 h2
      obtain ⟨e1,e2⟩:=Þ1 (k:=k) h4 (h5.kd kk2 l.hdA) (q4.kd b2 l.hdA)
      have hl:kws.length=kvs.length:=by simpa using congrArg List.length h4
      refine ⟨s,S2.set b (.dN (Fr.Îa kws k u)),H,R,?_,l2.chg m h1 h3 (.dt e1 e2),(kk2.gw l.hdA).trans (Ú1 (l.rh i b h3).1)⟩
      have gl:kws.length<sizeLine:=by rw[hl];exact g
      unfold Fr.Éd Fr.bd
      rw[q1]
      simp only[v,b1]
      unfold Fr.ÙE Fr.Ì9
      simp only[hb,Óo b4 hk]
      rw[if_pos gl]
      rfl
     ·rw[if_neg g];trivial
theorem àD {dA:Nat} {H:Nat→Prop} {S:Fr.Å} {x:Fr.W} {Ċ:List (NestedKey×W)} (h:Vw dA H S x (.dt Ċ)):∃ n kws,Fr.Ì9 S x=some (n,kws)∧kws.map Prod.fst=Ċ.map Prod.fst∧Ó dA H S (kws.map Prod.snd) (Ċ.map Prod.snd):=by
 cases h with
 |ref hn hs v=>cases v with
  |dt e1 e2=>
   rename_i k kws
   exact ⟨k,kws,by unfold Fr.Ì9;simp only[hs],e1,e2⟩
theorem Òq {a b:Fr.Exp} {a' b':Exp} (ha:PX cC md a a') (hb:PX cT md b b'):PX cC md (Fr.É Fr.Ũ a b) (É Ũ a' b'):=by
 intro F H R p dw s S r
 refine RM.bd (ha _ _ _ _ _ _ _ r) λ x dx S1 õ k1 e1 c1=>?_
 refine RM.bd (hb _ _ _ _ _ _ _ (r.kd k1 e1)) λ y dy S2 dw2 k2 e2 c2=>?_
 have c1':=c1.kd k2 r.hdA
 unfold Ũ
 cases hq:ÔK dx dy with
 |none=>trivial
 |some w=>
  cases dx with
  |dt Ċ=>
   unfold ÔK at hq
   dsimp only at hq
   cases hk:Đ dy with
   |none=>unfold atN at hq;rw[hk] at hq;cases hq
   |some kk=>
    unfold atN at hq
    rw[hk] at hq
    obtain ⟨n,kws,a1,a2,a3⟩:=àD c1'
    obtain ⟨u,b1,b2⟩:=Óp kk a2 a3 hq
    exact ⟨u,S2,by unfold Fr.Ũ;rw[a1,Óo c2 hk];simp only[b1],.refl,e2,b2⟩
  |_=>unfold ÔK at hq;cases hq
theorem Óq {i:Nat} {b:Fr.Exp} {b':Exp} (m:Œ md i=1) (hb:PX cT md b b'):PX cC md (Fr.É Fr.Ũ (Fr.À i) b) (ÐR i b'):=by
 intro F H R p dw s S l
 unfold ÐR
 cases ho:ÀC p i with
 |none=>trivial
 |some kvs=>
  obtain ⟨a,kws,h1,h2,h3,h4,h5⟩:=Õy l m ho
  have e0:Fr.É Fr.Ũ (Fr.À i) b s S=Fr.bd (b s) (λ y=>Fr.Ũ (.ref a) y) S:=by
   have v:Fr.À i s S=.ok (.ref a) S:=by unfold Fr.À;simp only[h1]
   show Fr.bd (Fr.À i s) (λ x=>Fr.bd (b s) λ y=>Fr.Ũ x y) S=_
   conv=>lhs;unfold Fr.bd
   rw[v]
   rfl
  rw[e0]
  simp only
  refine RM.bd (hb _ _ _ _ _ _ _ l) λ y dy S2 dw2 k2 e2 c2=>?_
  cases hq:atN kvs dy with
  |none=>trivial
  |some w=>
   cases hk:Đ dy with
   |none=>unfold atN at hq;rw[hk] at hq;cases hq
   |some kk=>
    unfold atN at hq
    rw[hk] at hq
    obtain ⟨u,b1,b2⟩:=Óp kk h4 (h5.kd k2 l.hdA) hq
    have hb':=k2.get (l.rh i a h3).2.1 h2
    exact ⟨u,S2,by unfold Fr.Ũ Fr.Ì9;simp only[hb'];rw[Óo c2 hk];simp only[b1],.refl,e2,b2⟩
end
def cBg (k:Nat):Cl (List Fr.W) (List W):=λ F H _ w d S'=>(∃A:List Nat,(∀a∈A,a≠F.dA∧F.S0.length≤a)∧Ó F.dA (λ x=>H x∧x∉A) S' w d)∧d.length=k
def ÍF (i:Nat) (r:Arg):Arg:=λ s S=>match ÀC s i with
 |some xs=>bd (r s) (λ ys=>rt (.dt xs::ys)) S
 |none=>.bad
section
variable{md:List Nat}{k:Nat}
theorem Þ2:PX (cBg 0) md Fr.Ä Ä:=ÏA λ _ _ _ _=>⟨⟨[],by simp,.nil⟩,rfl⟩
theorem ÑD {a:Fr.Exp} {b:Fr.Arg} {a':Exp} {b':Arg} (ha:PX cC md a a') (hb:PX (cBg k) md b b'):PX (cBg (k+1)) md (Fr.Á a b) (Á a' b'):=by
 intro F H R p dw s S r
 refine RM.bd (ha _ _ _ _ _ _ _ r) λ x dx S1 õ k1 e1 c1=>?_
 refine RM.bd (hb _ _ _ _ _ _ _ (r.kd k1 e1)) λ y dy S2 dw2 k2 e2 c2=>?_
 obtain ⟨⟨A,hA,v⟩,hl⟩:=c2
 exact .rt e2 ⟨⟨A,hA,.cons ((c1.kd k2 r.hdA).less λ x q=>q.1) v⟩,by simp[hl]⟩
theorem Ú8 {i a:Nat} {o:Fr.Ob} {d:W} {b:Fr.Arg} {b':Arg} {F:Fm} {H:Nat→Prop} {R:Nat→Nat→Prop} {p:Sl} {dw:Dw} {s:Fr.Sl} {S:Fr.Å} (r:Rl md F H R p dw s S) (hb:PX (cBg k) md b b')
  (h1:s[i]?=some (some (.ref a))) (h2:S[a]?=some o) (h3:R i a) (h4:∀ S',Kd F.dA S S'→Vo F.dA H S' o d):
  RM F (cBg (k+1) F H S) S (Fr.Á (Fr.À i) b s S) (bd (b' p) (λ ys=>rt (d::ys)) dw):=by
 have e0:Fr.Á (Fr.À i) b s S=Fr.bd (b s) (λ ys=>Fr.rt (.ref a::ys)) S:=by
  show Fr.bd (Fr.À i s) (λ x=>Fr.bd (b s) λ ys=>Fr.rt (x::ys)) S=_
  have v:Fr.À i s S=.ok (.ref a) S:=by unfold Fr.À;simp only[h1]
  conv=>lhs;unfold Fr.bd
  rw[v]
  rfl
 rw[e0]
 refine RM.bd (hb _ _ _ _ _ _ _ r) λ y dy S2 dw2 k2 e2 c2=>?_
 obtain ⟨⟨A,hA,v⟩,hl⟩:=c2
 have rh:=r.rh i a h3
 have g2:=k2.get rh.2.1 h2
 refine .rt e2 ⟨⟨a::A,λ x hx=>?_,.cons (.ref (λ q=>q.2 (by simp)) g2 ((h4 S2 k2).of λ x o hx ho=>⟨λ q=>hx q.1,ho⟩)) (v.less λ x q=>⟨q.1,λ t=>q.2 (by simp[t])⟩)⟩,by simp[hl]⟩
 rcases List.mem_cons.mp hx with rfl|hx
 ·exact ⟨rh.2.1,rh.2.2⟩
 ·exact hA x hx
theorem Üo {i:Nat} {b:Fr.Arg} {b':Arg} (m:Œ md i=1) (hb:PX (cBg k) md b b'):PX (cBg (k+1)) md (Fr.Á (Fr.À i) b) (ÍF i b'):=by
 intro F H R p dw s S r
 unfold ÍF
 cases ho:ÀC p i with
 |none=>trivial
 |some xs=>
  obtain ⟨a,ws,h1,h2,h3,h4,h5⟩:=Õy r m ho
  exact Ú8 r hb h1 h2 h3 λ S' k=>.dt h4 (h5.kd k r.hdA)
theorem Üp {ow:Nat} {m:Fr.Fn} {q:Fn} {a:Fr.Arg} {a':Arg} (hf:FS ow k m q) (ha:PX (cBg k) md a a'):PX cO md (Fr.Ò m a) (Ïy q a'):=by
 intro F H R p dw s S r
 refine RM.bd (ha _ _ _ _ _ _ _ r) λ x dx S1 õ k1 e1 c1=>?_
 have r1:=r.kd k1 e1
 obtain ⟨⟨A,hA,v⟩,hl⟩:=c1
 have h:=hf F.dA (λ x=>H x∧x∉A) S1 x dx õ ⟨r.hdA,λ t=>(hA _ t).1 rfl⟩ (λ x h=>r1.hb x h.1) e1 v hl
 have h2:RM F (λ w d S'=>Kd F.dA S1 S'∧Vw F.dA (λ x=>H x∧x∉A) S' w d) S1 (m x S1) (q dx õ):=
  RM.toF (F:=F) (G:=⟨F.dA,S1,λ x=>H x∧x∉A⟩) rfl (λ x hx=>⟨r.h0 x hx,λ t=>by have:=r.b0 x hx;have:=(hA x t).2;omega⟩) h λ w d S' kk c=>⟨kk,c.1⟩
 have e3:m x S1=Fr.bd (m x) (λ w=>Fr.rt w) S1:=by unfold Fr.bd;cases m x S1<;>rfl
 rw[e3]
 refine RM.bd h2 λ w d S2 dw2 k2 e2 c2=>?_
 by_cases g:Pu.flat d=true
 ·rw[if_pos g]
  exact .rt e2 ⟨c2.2.flat g,λ q=>(Õg g q).elim⟩
 ·rw[if_neg g];trivial
end
end Pu
namespace Pu
open PySem
def Üq:W→Bool
 | .lst xs=>flats xs
 |_=>false
def at1 (s:Sl) (i:Nat) (j:Int):Option W:=match s[i]? with
 |some (some (.tup ds))=>L2.atI ds j
 |_=>none
inductive Ür (S:Fr.Å) (P:Nat→Prop):List Fr.W→List W→Prop
 |nil:Ür S P [] []
 |cons {w:Fr.W} {d:W} {ws:List Fr.W} {ds:List W} (t:Tre S P w d) (r:Ür S P ws ds):Ür S P (w::ws) (d::ds)
section
variable{ow:Nat}{md:List Nat}{F:Fm}{H H1:Nat→Prop}{R:Nat→Nat→Prop}{p:Sl}{dw ĥ:Dw}{s:Fr.Sl}{S S1 S':Fr.Å}{w:Fr.W}{d:W}{i k:Nat}
end
end Pu
namespace Pu
open PySem
end Pu
namespace Fr
open PySem PySem.Spec PyProof.Rows L2 RT RZ
open ItX (dropH dropH_ne dropH_same inv_drop inv_fp)
structure ClC (K:PySem.W.Frag) (C f:Addr):Prop where
 at_:PySem.W.findIn K (.ref C) "__contains__" =some (some (.ref f))
 fn:PySem.W.isFn K (.ref f)=true
section
variable{X:Cx}{A f:Addr}{n:Nat}{fd:FuncData}{ps:List Str}{F:Fn}
end
section
variable{X:Cx}{C:Cc}{a o tg:Expr}{fa fo:Exp}{pos:Pos}{A fi:Addr}{n:Nat}{fd:FuncData}{ps:List Str}{c nm:Str}
end
section
variable{P:Program}{w:World}{K:PySem.W.Frag}{mg:Str→Option Value}
end
section
variable{X:Cx}{C:Cc}{a o tg:Expr}{fa fo:Exp}{pos:Pos}{A fi:Addr}{n:Nat}{fd:FuncData}{ps:List Str}{c nm:Str}
end
end Fr
namespace Pu
open PySem
mutual
def noL:W→Bool
 | .lst _=>false
 | .tup xs=>Èa xs
 | .dk kvs=>Ór kvs
 | .dt kvs=>ÙP kvs
 | .ob _ fs=>ÏG fs
 |_=>true
def Èa:List W→Bool
 | []=>true
 |x::xs=>noL x&&Èa xs
def Ór:List (L2.Key×W)→Bool
 | []=>true
 |(_,x)::xs=>noL x&&Ór xs
def ÙP:List (NestedKey×W)→Bool
 | []=>true
 |(_,x)::xs=>noL x&&ÙP xs
def ÏG:List (Str×W)→Bool
 | []=>true
 |(_,x)::xs=>noL x&&ÏG xs
end
theorem Õz:∀ {kvs:List (L2.Key×W)},Ór kvs=true→Èa (kvs.map Prod.snd)=true
 | [],_=>by simp[Èa]
 |(_,x)::xs,h=>by
  simp only[Ór,Bool.and_eq_true] at h
  simp only[List.map_cons,Èa,Bool.and_eq_true]
  exact ⟨h.1,Õz h.2⟩
theorem ÕA:∀ {kvs:List (NestedKey×W)},ÙP kvs=true→Èa (kvs.map Prod.snd)=true
 | [],_=>by simp[Èa]
 |(_,x)::xs,h=>by
  simp only[ÙP,Bool.and_eq_true] at h
  simp only[List.map_cons,Èa,Bool.and_eq_true]
  exact ⟨h.1,ÕA h.2⟩
theorem ÕB:∀ {kvs:List (Str×W)},ÏG kvs=true→Èa (kvs.map Prod.snd)=true
 | [],_=>by simp[Èa]
 |(_,x)::xs,h=>by
  simp only[ÏG,Bool.and_eq_true] at h
  simp only[List.map_cons,Èa,Bool.and_eq_true]
  exact ⟨h.1,ÕB h.2⟩
section
variable{dA:Nat}{H H':Nat→Prop}{S S':Fr.Å}
mutual
theorem Vw.noL (k:∀ x o,¬H x→S[x]?=some o→(∀l,o≠.lst l)→¬H' x):∀ {w:Fr.W} {d:W},Vw dA H S w d→Pu.noL d=true→Vw dA H' S w d
 |_,_,.non,_=>.non
 |_,_,.bl b,_=>.bl b
 |_,_,.int b,_=>.int b
 |_,_,.str b,_=>.str b
 |_,_,.gl b,_=>.gl b
 |_,_,.ty b,_=>.ty b
 |_,_,.tup h,f=>.tup (Ó.noL k h (by unfold Pu.noL at f;exact f))
 |_,_,.dr,_=>.dr
 |_,_,.ref h e v,f=>.ref (k _ _ h e λ l q=>by subst q;cases v;unfold Pu.noL at f;cases f) e (Vo.noL k v f)
theorem Vo.noL (k:∀ x o,¬H x→S[x]?=some o→(∀l,o≠.lst l)→¬H' x):∀ {o:Fr.Ob} {d:W},Vo dA H S o d→Pu.noL d=true→Vo dA H' S o d
 |_,_,.lst h,f=>by unfold Pu.noL at f;cases f
 |_,_,.dk e h,f=>.dk e (Ó.noL k h (Õz (by unfold Pu.noL at f;exact f)))
 |_,_,.dt e h,f=>.dt e (Ó.noL k h (ÕA (by unfold Pu.noL at f;exact f)))
 |_,_,.ob e h,f=>.ob e (Ó.noL k h (ÕB (by unfold Pu.noL at f;exact f)))
theorem Ó.noL (k:∀ x o,¬H x→S[x]?=some o→(∀l,o≠.lst l)→¬H' x):∀ {ws:List Fr.W} {ds:List W},Ó dA H S ws ds→Èa ds=true→Ó dA H' S ws ds
 |_,_,.nil,_=>.nil
 |_,_,.cons a r,f=>.cons (Vw.noL k a (by unfold Èa at f;exact (Bool.and_eq_true_iff.mp f).1)) (Ó.noL k r (by unfold Èa at f;exact (Bool.and_eq_true_iff.mp f).2))
end
end
section
variable{md:List Nat}{k:Nat}
end
end Pu
namespace Pu
open PySem
section
variable{md:List Nat}{k:Nat}
end
end Pu
namespace Fr
open PySem PySem.Spec PyProof.Rows L2
section
variable{X:Cx}{C:Cc}{a b c:Expr}{fa fb fc:Exp}{pos:Pos}
end
end Fr
namespace Pu
open PySem
section
variable{md:List Nat}
end
def ÕC (e:Exp):Exp:=λ s=>bd (e s) λ w=>match w with
 | .non=>bad
 |w=>rt w
theorem Ý4 {md:List Nat} {C:Cl Fr.W W} {e:Fr.Exp} {e':Exp} (he:PX C md e e'):PX C md e (ÕC e'):=by
 intro F H R p dw s S r
 have h:=he F H R p dw s S r
 unfold ÕC bd
 cases hq:e' p dw with
 |ok d õ=>
  rw[hq] at h
  simp only
  cases d<;>first|trivial|exact h
 |ex c x õ=>rw[hq] at h;exact h
 |bad=>trivial
end Pu
namespace Pu
open PySem
abbrev Lv:=Nat×List Fr.W×Fr.W
abbrev Lp:=List W×W
def hdZ:List Lv→Nat→Nat
 | [],t=>t
 |(a,_,_)::_,_=>a
def ğ:List Lv→Nat→List Nat
 | [],t=>[t]
 |(a,_,_)::L,t=>a::ğ L t
def plug:List Lp→List W→List W
 | [],cur=>cur
 |(rows,d)::L,cur=>rows++[.tup [d,.lst (plug L cur)]]
def Zp (dA:Nat) (Hh:Nat→Prop) (X:Fr.Å):List Lv→Nat→List Fr.W→List Lp→List W→Prop
 | [],t,ws,[],cur=>X[t]?=some (.lst ws)∧Ó dA Hh X ws cur
 |(a,us,c)::L,t,ws,(rows,d)::L',cur=>X[a]?=some (.lst (us++[.tup [c,.ref (hdZ L t)]]))∧Ó dA Hh X us rows∧Vw dA Hh X c d∧Zp dA Hh X L t ws L' cur
 |_,_,_,_,_=>False
def Â3:Nat→List Lv→Nat→List Fr.W→List Lv×Nat×List Fr.W
 |_,[],t,ws=>([],t,ws)
 |0,(a,us,c)::L,t,_=>([],a,us++[.tup [c,.ref (hdZ L t)]])
 |m+1,x::L,t,ws=>(x::(Â3 m L t ws).1,(Â3 m L t ws).2)
def Ìc:Nat→List Lp→List W→List Lp×List W
 |_,[],cur=>([],cur)
 |0,(rows,d)::L,cur=>([],rows++[.tup [d,.lst (plug L cur)]])
 |m+1,x::L,cur=>(x::(Ìc m L cur).1,(Ìc m L cur).2)
section
variable{dA:Nat}{Hh H1:Nat→Prop}{X X1:Fr.Å}{t:Nat}{ws:List Fr.W}{cur:List W}
theorem ÕD:∀ (m:Nat) (L:List Lv) (t:Nat) (ws:List Fr.W),hdZ (Â3 m L t ws).1 (Â3 m L t ws).2.1=hdZ L t
 |0,[],_,_=>rfl
 |_+1,[],_,_=>rfl
 |0,(_,_,_)::_,_,_=>rfl
 |_+1,(_,_,_)::_,_,_=>rfl
theorem ÏH:∀ (m:Nat) (L:List Lv) (t:Nat) (ws:List Fr.W),ğ (Â3 m L t ws).1 (Â3 m L t ws).2.1=(ğ L t).take (m+1)
 |0,[],_,_=>rfl
 |_+1,[],_,_=>by simp[Â3,ğ]
 |0,(_,_,_)::_,_,_=>by simp[Â3,ğ]
 |m+1,(_,_,_)::L,t,ws=>by
  show _::ğ (Â3 m L t ws).1 (Â3 m L t ws).2.1=_
  rw[ÏH m L t ws]
  simp[ğ]
theorem ÐS (t:Nat) (ws:List Fr.W) (c:Fr.W) (n:Nat):∀ L:List Lv,hdZ (L++[(t,ws,c)]) n=hdZ L t
 | []=>rfl
 |(_,_,_)::_=>rfl
theorem ËS (t:Nat) (ws:List Fr.W) (c:Fr.W) (n:Nat):∀ L:List Lv,ğ (L++[(t,ws,c)]) n=ğ L t++[n]
 | []=>rfl
 |(_,_,_)::L=>by simp[ğ,ËS t ws c n L]
theorem ËT (t:Nat):∀ L:List Lv,∃pre,ğ L t=pre++[t]∧pre.length=L.length
 | []=>⟨[],rfl,rfl⟩
 |(a,_,_)::L=>by
  obtain ⟨pre,h,e⟩:=ËT t L
  exact ⟨a::pre,by simp[ğ,h],by simp[e]⟩
theorem Ú9 (t:Nat):∀ L:List Lv,(ğ L t).length=L.length+1
 | []=>rfl
 |(a,_,_)::L=>by simp[ğ,Ú9 t L]
theorem Zp.len:∀ {L:List Lv} {L':List Lp},Zp dA Hh X L t ws L' cur→L.length=L'.length
 | [],[],_=>rfl
 | [],_::_,h=>h.elim
 |_::_,[],h=>h.elim
 |(_,_,_)::_,(_,_)::_,h=>by simp[Zp.len h.2.2.2]
theorem Zp.top:∀ {L:List Lv} {L':List Lp},Zp dA Hh X L t ws L' cur→X[t]?=some (.lst ws)∧Ó dA Hh X ws cur
 | [],[],h=>h
 | [],_::_,h=>h.elim
 |_::_,[],h=>h.elim
 |(_,_,_)::_,(_,_)::_,h=>Zp.top h.2.2.2
theorem Zp.of (k:∀ x o,¬Hh x→X[x]?=some o→¬H1 x∧X1[x]?=some o):∀ {L:List Lv} {L':List Lp},(∀a∈ğ L t,X1[a]?=X[a]?)→Zp dA Hh X L t ws L' cur→Zp dA H1 X1 L t ws L' cur
 | [],[],e,h=>⟨by rw[e t (by simp[ğ])];exact h.1,h.2.of k⟩
 | [],_::_,_,h=>h.elim
 |_::_,[],_,h=>h.elim
 |(a,us,c)::L,(rows,d)::L',e,h=>⟨by rw[e a (by simp[ğ])];exact h.1,h.2.1.of k,h.2.2.1.of k,Zp.of k (λ b hb=>e b (by simp[ğ,hb])) h.2.2.2⟩
theorem Zp.close (hs:∀ x,H1 x→Hh x):∀ {L:List Lv} {L':List Lp},(∀a∈ğ L t,¬H1 a)→Zp dA Hh X L t ws L' cur→Vw dA H1 X (.ref (hdZ L t)) (.lst (plug L' cur))
 | [],[],n,h=>.ref (n t (by simp[ğ])) h.1 (.lst (h.2.less hs))
 | [],_::_,_,h=>h.elim
 |_::_,[],_,h=>h.elim
 |(a,us,c)::L,(rows,d)::L',n,h=>.ref (n a (by simp[ğ])) h.1 (.lst ((h.2.1.less hs).append (.cons (.tup (.cons (h.2.2.1.less hs) (.cons (Zp.close hs (λ b hb=>n b (by simp[ğ,hb])) h.2.2.2) .nil))) .nil)))
theorem Zp.cut (hs:∀ x,H1 x→Hh x):∀ (m:Nat) {L:List Lv} {L':List Lp},(ğ L t).Nodup→(∀x∈ğ L t,H1 x→x∈(ğ L t).take (m+1))→Zp dA Hh X L t ws L' cur→
  Zp dA H1 X (Â3 m L t ws).1 (Â3 m L t ws).2.1 (Â3 m L t ws).2.2 (Ìc m L' cur).1 (Ìc m L' cur).2
 |0,[],[],_,_,h=>⟨h.1,h.2.less hs⟩
 |_+1,[],[],_,_,h=>⟨h.1,h.2.less hs⟩
 |_,[],_::_,_,_,h=>h.elim
 |_,_::_,[],_,_,h=>h.elim
 |0,(a,us,c)::L,(rows,d)::L',nd,n,h=>by
  have nd':a∉ğ L t∧(ğ L t).Nodup:=by simpa[ğ] using nd
  refine ⟨h.1,(h.2.1.less hs).append (.cons (.tup (.cons (h.2.2.1.less hs) (.cons (Zp.close hs (λ b hb q=>?_) h.2.2.2) .nil))) .nil)⟩
  have:=n b (by simp[ğ,hb]) q
  simp[ğ] at this
  exact nd'.1 (this▸hb)
 |m+1,(a,us,c)::L,(rows,d)::L',nd,n,h=>by
  have nd':a∉ğ L t∧(ğ L t).Nodup:=by simpa[ğ] using nd
  have e:=ÕD m L t ws
  refine ⟨by show X[a]?=some (.lst (us++[.tup [c,.ref (hdZ (Â3 m L t ws).1 (Â3 m L t ws).2.1)]]));rw[e];exact h.1,h.2.1.less hs,h.2.2.1.less hs,Zp.cut hs m nd'.2 (λ x hx q=>?_) h.2.2.2⟩
  have:=n x (by simp[ğ,hx]) q
  simp only[ğ,List.take_succ_cons,List.mem_cons] at this
  rcases this with rfl|this
  ·exact (nd'.1 hx).elim
  ·exact this
theorem Zp.snoc {c:Fr.W} {d:W} {n:Nat} (k:∀ x o,¬Hh x→X[x]?=some o→¬H1 x∧X1[x]?=some o) (e1:X1[t]?=some (.lst (ws++[.tup [c,.ref n]]))) (e2:X1[n]?=some (.lst [])) (hc:Vw dA H1 X1 c d):
  ∀ {L:List Lv} {L':List Lp},(ğ L t).Nodup→(∀a∈ğ L t,a≠t→X1[a]?=X[a]?)→Zp dA Hh X L t ws L' cur→Zp dA H1 X1 (L++[(t,ws,c)]) n [] (L'++[(cur,d)]) []
 | [],[],_,_,h=>⟨e1,h.2.of k,hc,e2,.nil⟩
 | [],_::_,_,_,h=>h.elim
 |_::_,[],_,_,h=>h.elim
 |(a,us,b)::L,(rows,g)::L',nd,e,h=>by
  have nd':a∉ğ L t∧(ğ L t).Nodup:=by simpa[ğ] using nd
  have ht:a≠t:=λ q=>by
   obtain ⟨pre,hp,_⟩:=ËT t L
   exact nd'.1 (by rw[hp,q];simp)
  refine ⟨?_,h.2.1.of k,h.2.2.1.of k,Zp.snoc k e1 e2 hc nd'.2 (λ x hx q=>e x (by simp[ğ,hx]) q) h.2.2.2⟩
  show X1[a]?=some (.lst (us++[.tup [b,.ref (hdZ (L++[(t,ws,c)]) n)]]))
  rw[ÐS,e a (by simp[ğ]) ht]
  exact h.1
end
def ZT (X:Fr.Å):List Lv→Nat→List Fr.W→List Nat→Prop
 | [],t,ws,A=>∃ B,X[t]?=some (.lst ws)∧Rw X ws B∧A=t::B
 |(a,us,c)::L,t,ws,A=>∃ B C,X[a]?=some (.lst (us++[.tup [c,.ref (hdZ L t)]]))∧Rw X us B∧ZT X L t ws C∧A=a::(B++C)
section
variable{X X1:Fr.Å}{t:Nat}{ws:List Fr.W}
theorem ZT.close:∀ {L:List Lv} {A:List Nat},ZT X L t ws A→Tb X (.ref (hdZ L t)) A
 | [],_,⟨B,e,r,q⟩=>q▸.mk e r
 |(a,us,c)::L,_,⟨B,C,e,r,z,q⟩=>by
  subst q
  have h:=r.append (.cons (c:=c) z.close .nil)
  rw[List.append_nil] at h
  exact .mk e h
theorem ZT.of:∀ {L:List Lv} {A:List Nat},(∀x∈A,∀o,X[x]?=some o→X1[x]?=some o)→ZT X L t ws A→ZT X1 L t ws A
 | [],_,k,⟨B,e,r,q⟩=>by subst q;exact ⟨B,k _ (by simp) _ e,r.of λ x hx=>k x (by simp[hx]),rfl⟩
 |(a,us,c)::L,_,k,⟨B,C,e,r,z,q⟩=>by
  subst q
  exact ⟨B,C,k _ (by simp) _ e,r.of λ x hx=>k x (by simp[hx]),z.of λ x hx=>k x (by simp[hx]),rfl⟩
theorem ZT.cut:∀ (m:Nat) {L:List Lv} {A:List Nat},ZT X L t ws A→ZT X (Â3 m L t ws).1 (Â3 m L t ws).2.1 (Â3 m L t ws).2.2 A
 |0,[],_,h=>h
 |_+1,[],_,h=>h
 |0,(a,us,c)::L,_,⟨B,C,e,r,z,q⟩=>by
  subst q
  have h:=r.append (.cons (c:=c) z.close .nil)
  rw[List.append_nil] at h
  exact ⟨B++C,e,h,rfl⟩
 |m+1,(a,us,c)::L,_,⟨B,C,e,r,z,q⟩=>by
  subst q
  refine ⟨B,C,?_,r,z.cut m,rfl⟩
  show X[a]?=some (.lst (us++[.tup [c,.ref (hdZ (Â3 m L t ws).1 (Â3 m L t ws).2.1)]]))
  rw[ÕD m L t ws]
  exact e
theorem ZT.ÑE:∀ {L:List Lv} {A:List Nat},ZT X L t ws A→t∈A
 | [],_,⟨B,e,r,q⟩=>by subst q;simp
 |(a,us,c)::L,_,⟨B,C,e,r,z,q⟩=>by subst q;simp[z.ÑE]
theorem ZT.snoc {c:Fr.W} {n:Nat} (e1:X1[t]?=some (.lst (ws++[.tup [c,.ref n]]))) (e2:X1[n]?=some (.lst [])):∀ {L:List Lv} {A:List Nat},A.Nodup→(∀x∈A,x≠t→∀ o,X[x]?=some o→X1[x]?=some o)→ZT X L t ws A→ZT X1 (L++[(t,ws,c)]) n [] (A++[n])
 | [],_,nd,k,⟨B,e,r,q⟩=>by
  subst q
  rw[List.nodup_cons] at nd
  exact ⟨B,[n],e1,r.of λ x hx=>k x (by simp[hx]) λ z=>nd.1 (z▸hx),⟨[],e2,.nil,rfl⟩,rfl⟩
 |(a,us,b)::L,_,nd,k,⟨B,C,e,r,z,q⟩=>by
  subst q
  rw[List.nodup_cons,List.nodup_append] at nd
  obtain ⟨n1,n2,n3,n4⟩:=nd
  have ht:=z.ÑE
  refine ⟨B,C++[n],?_,r.of λ x hx=>k x (by simp[hx]) λ q=>n4 x hx t ht q,z.snoc e1 e2 n3 λ x hx=>k x (by simp[hx]),by simp⟩
  show X1[a]?=some (.lst (us++[.tup [b,.ref (hdZ (L++[(t,ws,c)]) n)]]))
  rw[ÐS]
  exact k a (by simp) (λ q=>n1 (by rw[q];simp[ht])) _ e
theorem Tb.dom {w:Fr.W} {A:List Nat} (t:Tb X w A):∀ a∈A,∃o,X[a]?=some o:=by
 refine Tb.rec (motive_1:=λ w A _=>∀ a∈A,∃o,X[a]?=some o) (motive_2:=λ ws A _=>∀ a∈A,∃o,X[a]?=some o) ?_ ?_ ?_ t
 ·intro a ws A e r ih x hx
  rcases List.mem_cons.mp hx with rfl|hx
  ·exact ⟨_,e⟩
  ·exact ih x hx
 ·intro x hx;cases hx
 ·intro c u ws A B t r i1 i2 x hx
  rcases List.mem_append.mp hx with hx|hx
  ·exact i1 x hx
  ·exact i2 x hx
theorem ZT.dom {L:List Lv} {A:List Nat} (z:ZT X L t ws A) {a:Nat} (h:a∈A):a<X.length:=by
 obtain ⟨o,e⟩:=z.close.dom a h
 exact (List.getElem?_eq_some_iff.mp e).1
end
abbrev refs (as:List Nat):List Fr.W:=as.map Fr.W.ref
structure Zs (dA:Nat) (H:Nat→Prop) (S X:Fr.Å) (dw:Dw) (tb:Nat) (L:List Lv) (t:Nat) (ws:List Fr.W) (L':List Lp) (cur:List W):Prop where
 kd:Kd dA S X
 dr:X[dA]?=some (Fr.oI dw)
 nd:(ğ L t).Nodup
 ge:∀ a∈ğ L t,S.length≤a
 tg:S.length≤tb
 tn:tb∉ğ L t
 tl:X[tb]?=some (.lst (refs (ğ L t)))
 z:Zp dA (λ x=>H x∨x∈ğ L t∨x=tb) X L t ws L' cur
 tr:∃ A,ZT X L t ws A∧A.Nodup∧∀ a∈A,S.length≤a∧a≠tb
section
variable{dA:Nat}{H:Nat→Prop}{S X:Fr.Å}{dw:Dw}{tb t:Nat}{L:List Lv}{ws:List Fr.W}{L':List Lp}{cur:List W}
theorem Zs.lt (h:Zs dA H S X dw tb L t ws L' cur) {a:Nat} (ha:a∈ğ L t):a<X.length:=by
 have key:∀ {L:List Lv} {L':List Lp} {Hh:Nat→Prop},Zp dA Hh X L t ws L' cur→a∈ğ L t→a<X.length:=by
  intro L
  induction L with
  |nil=>
   intro L' Hh z ha
   simp[ğ] at ha
   subst ha
   exact (List.getElem?_eq_some_iff.mp z.top.1).1
  |cons x L ih=>
   obtain ⟨b,us,c⟩:=x
   intro L' Hh z ha
   cases L' with
   |nil=>exact z.elim
   |cons p L'=>
    obtain ⟨rows,d⟩:=p
    simp only[ğ,List.mem_cons] at ha
    rcases ha with rfl|ha
    ·exact (List.getElem?_eq_some_iff.mp z.1).1
    ·exact ih z.2.2.2 ha
 exact key h.z ha
theorem Zs.start (hb:∀ x,H x→x<S.length) (hd:H dA) (e:S[dA]?=some (Fr.oI dw)):Zs dA H S ((S++[.lst []])++[.lst [.ref S.length]]) dw (S++[Fr.Ob.lst []]).length [] S.length [] [] [] where
 kd:=(Kd.app [.lst []]).trans (.app [.lst [.ref S.length]])
 dr:=by
  have:=(List.getElem?_eq_some_iff.mp e).1
  rw[List.getElem?_append_left (by simp;omega),List.getElem?_append_left this]
  exact e
 nd:=by simp[ğ]
 ge a h:=by simp[ğ] at h;omega
 tg:=by simp
 tn:=by simp[ğ]
 tl:=by simp[ğ]
 z:=⟨by simp,.nil⟩
 tr:=⟨[S.length],⟨[],by simp,.nil,rfl⟩,by simp,λ a ha=>by
  rw[List.mem_singleton.mp ha]
  simp⟩
theorem Zs.cut (hb:∀ x,H x→x<S.length) (h:Zs dA H S X dw tb L t ws L' cur) (m:Nat):Zs dA H S (X++[.lst ((refs (ğ L t)).take (m+1))]) dw X.length (Â3 m L t ws).1 (Â3 m L t ws).2.1 (Â3 m L t ws).2.2 (Ìc m L' cur).1 (Ìc m L' cur).2:=by
 have sub:∀ a∈ğ (Â3 m L t ws).1 (Â3 m L t ws).2.1,a∈ğ L t:=λ a ha=>by rw[ÏH] at ha;exact List.mem_of_mem_take ha
 have nl:∀ a∈ğ L t,a≠X.length:=λ a ha=>by have:=h.lt ha;omega
 have z1:=Zp.cut (H1:=λ x=>H x∨x∈ğ (Â3 m L t ws).1 (Â3 m L t ws).2.1) (λ x q=>by
  rcases q with q|q
  ·exact .inl q
  ·exact .inr (.inl (sub x q))) m h.nd (λ x hx q=>by
  rcases q with q|q
  ·have:=hb x q;have:=h.ge x hx;omega
  ·rw[ÏH] at q;exact q) h.z
 refine {kd:=h.kd.trans (.app _),dr:=?_,nd:=?_,ge:=λ a ha=>h.ge a (sub a ha),tg:=h.kd.le,tn:=λ q=>nl _ (sub _ q) rfl,tl:=?_,z:=?_,tr:=?_}
 ·rw[List.getElem?_append_left (List.getElem?_eq_some_iff.mp h.dr).1];exact h.dr
 ·rw[ÏH];exact h.nd.sublist (List.take_sublist _ _)
 ·rw[ÏH];simp
 ·refine z1.of (λ x o hx ho=>⟨λ q=>?_,?_⟩) λ a ha=>?_
  ·have:=(List.getElem?_eq_some_iff.mp ho).1
   rcases q with q|q|q
   ·exact hx (.inl q)
   ·exact hx (.inr q)
   ·omega
  ·rw[List.getElem?_append_left (List.getElem?_eq_some_iff.mp ho).1];exact ho
  ·rw[List.getElem?_append_left (h.lt (sub a ha))]
 ·obtain ⟨A,a1,a2,a3⟩:=h.tr
  exact ⟨A,(a1.cut m).of λ x hx o ho=>by rw[List.getElem?_append_left (List.getElem?_eq_some_iff.mp ho).1];exact ho,a2,λ a ha=>⟨(a3 a ha).1,by have:=a1.dom ha;omega⟩⟩
abbrev pushS (X:Fr.Å) (t tb:Nat) (ws:List Fr.W) (as:List Nat) (c:Fr.W):Fr.Å:=
 ((X++[Fr.Ob.lst []]).set t (.lst (ws++[.tup [c,.ref X.length]]))).set tb (.lst (refs as++[.ref X.length]))
theorem Zs.tne (h:Zs dA H S X dw tb L t ws L' cur):t≠tb:=λ q=>by
 obtain ⟨pre,hp,_⟩:=ËT t L
 exact h.tn (by rw[hp,q];simp)
theorem Zs.ÑE (L:List Lv) (t:Nat):t∈ğ L t:=by
 obtain ⟨pre,hp,_⟩:=ËT t L
 rw[hp];simp
theorem Zs.push (hb:∀ x,H x→x<S.length) (hd:H dA) (h:Zs dA H S X dw tb L t ws L' cur) {c:Fr.W} {d:W} {H':Nat→Prop} {Y:Fr.Å} (v:Vw dA H' Y c d) (f:flat d=true):
  Zs dA H S (pushS X t tb ws (ğ L t) c) dw tb (L++[(t,ws,c)]) X.length [] (L'++[(cur,d)]) []:=by
 have tX:=h.lt (Zs.ÑE L t)
 have bX:=(List.getElem?_eq_some_iff.mp h.tl).1
 have hdS:=hb _ hd
 have dt:t≠dA:=λ q=>by have:=h.ge t (Zs.ÑE L t);omega
 have db:tb≠dA:=λ q=>by have:=h.tg;omega
 have same:∀ x,x≠t→x≠tb→x<X.length→(pushS X t tb ws (ğ L t) c)[x]?=X[x]?:=λ x h1 h2 h3=>by
  rw[List.getElem?_set_ne (Ne.symm h2),List.getElem?_set_ne (Ne.symm h1),List.getElem?_append_left h3]
 have nl:X.length∉ğ L t:=λ q=>by have:=h.lt q;omega
 refine {kd:=⟨by simp;have:=h.kd.le;omega,λ x h1 h2=>?_⟩,dr:=?_,nd:=?_,ge:=λ a ha=>?_,tg:=h.tg,tn:=λ q=>?_,tl:=?_,z:=?_,tr:=?_}
 ·have g1:=h.ge t (Zs.ÑE L t)
  have g2:=h.tg
  have g3:=h.kd.le
  rw[same x (by omega) (by omega) (by omega)]
  exact h.kd.old x h1 h2
 ·rw[same dA dt.symm db.symm (List.getElem?_eq_some_iff.mp h.dr).1];exact h.dr
 ·rw[ËS,List.nodup_append]
  refine ⟨h.nd,by simp,λ a ha b hb' q=>?_⟩
  simp at hb'
  subst hb' q
  exact nl ha
 ·rw[ËS,List.mem_append] at ha
  rcases ha with ha|ha
  ·exact h.ge a ha
  ·simp at ha
   rw[ha];exact h.kd.le
 ·rw[ËS,List.mem_append] at q
  rcases q with q|q
  ·exact h.tn q
  ·simp at q;omega
 ·rw[List.getElem?_set_self (by simp;omega),ËS]
  simp
 ·refine Zp.snoc (λ x o hx ho=>⟨λ q=>?_,?_⟩) ?_ ?_ (v.flat f) h.nd (λ a ha q=>?_) h.z
  ·rcases q with q|q|q
   ·exact hx (.inl q)
   ·rw[ËS,List.mem_append] at q
    rcases q with q|q
    ·exact hx (.inr (.inl q))
    ·have:=(List.getElem?_eq_some_iff.mp ho).1
     simp at q
     omega
   ·exact hx (.inr (.inr q))
  ·rw[same x (λ q=>hx (.inr (.inl (q▸Zs.ÑE L t)))) (λ q=>hx (.inr (.inr q))) (List.getElem?_eq_some_iff.mp ho).1]
   exact ho
  ·rw[List.getElem?_set_ne h.tne.symm,List.getElem?_set_self (by simp;omega)]
  ·rw[List.getElem?_set_ne (by omega),List.getElem?_set_ne (by omega)]
   simp
  ·exact same a q (λ z=>h.tn (z▸ha)) (h.lt ha)
 ·obtain ⟨A,a1,a2,a3⟩:=h.tr
  refine ⟨A++[X.length],ZT.snoc ?_ ?_ a2 (λ x hx q o ho=>?_) a1,?_,λ a ha=>?_⟩
  ·rw[List.getElem?_set_ne h.tne.symm,List.getElem?_set_self (by simp;omega)]
  ·rw[List.getElem?_set_ne (by omega),List.getElem?_set_ne (by omega)]
   simp
  ·rw[same x q (a3 x hx).2 (a1.dom hx)]
   exact ho
  ·rw[List.nodup_append]
   refine ⟨a2,by simp,λ a ha b hb' q=>?_⟩
   have:=a1.dom ha
   rw[List.mem_singleton] at hb'
   omega
  ·rcases List.mem_append.mp ha with ha|ha
   ·exact a3 a ha
   ·rw[List.mem_singleton.mp ha]
    exact ⟨h.kd.le,by omega⟩
end
end Pu
namespace Fr
open PySem
local macro_rules | `(tactic| walk_at "ev") => `(tactic| simp only [Bool.or_true, Bool.true_or, Bool.and_self, Bool.or_self, Bool.and_true, Bool.true_and, Bool.false_or, Bool.or_false, Bool.false_and, Bool.and_false, ÂW, ÆQ, ÆR, ÆS, ÂX, Ř, Át, Åf, Ã6, ÆT, ÆU, ÆV, ÆW, Èh, ř, Ś, ś, Ài, Ŝ, Ãe, Ã7, Àj, Åg, Ã8, Åh, Á3, ŝ, Ã9, ÁS, Åi, Àk, Àl, Ģ, Åj, ÁT, Ãf, Ãg, Äa, Äb, Ãh, ÁU, Æj, ÆX, Åk, Ål, Åm, Ån, ÆY, Èi, Áu, Áv, Æk, Æl, Àm, ÂY, Áw, Äc, ÆZ, ÂZ, Àn, Ào, Àp, Àq, ÄB, Èj, Áx, Åo, Â0, Áy, Åp, Â1, Áz, Åq, ÃS, År, Ås, Æ0, Äd, Àr, Ş, ÄC, Èk, Äe, ÄO, Åt, Â2, ÀZ, Ä7, ň, ė, Äk, Âr, Âs, Â9, Äl, Ât, Ţ, Äm, Âu, Âv, seq_eq, ŗ, Âe, Âw, Âx, Ây, À3, À4, ÀF, À5, À6, À7, À8, Ž, ž, ÃV, Ãt, Än, Äo, Âz, Àa, ÁX, ÃW, ÁY, Äp, Âf, Äq, ÂA, Är, Äs, Ū, ÃC, ÁZ, ÂB, Ät, ÂC, ũ, ĸ, Âg, ÂD, Çv, ÃD, ÀG, ÄS, Äu, À9, ÀH, Áa, ÀQ, ū, ÁD, Áb, Á0, Âh, Ŕ, Àb, Ác, ÁE, Ã3, ÅD, Àc, Ä8, Àd, Ád, Áe, Áf, Ág, Áh, Ái, Áj, ÀI, Àe, Ä9, Ák, ÂE, ÂF, Âi, ÂG, ÀR, ÂH, Äv, ÂI, ÂJ, Äw, ÂK, ÂL, ÂM, Äx, ÂN, ÆL, ÆM, Ãa, Ál, Ám, ÆN, ÀJ, ÂO, ÂP, Án, ÂQ, Áo, Áp, Áq, Ã4, ÃE, ÅP, Ãu, Ãv, Ãb, ÅQ, ÁQ, ÁF, Åa, Åb, ÆO, Åc, Á1, Á2, Äy, Äz, Åd, Âj, ÂR, ÂS, ÂT, ÂU, Àf, Àg, Àh, Ár, Ás, ĺ, ă, Č, č, þ, Ą, Ĺ, Ĭ, Ŋ, ŋ, ě, ĭ, ÀU, Ō, Ŵ, ŵ, Į, ō, ÁM, Ŏ, Ŷ, ŷ, į, ŏ, ÁN, Ĝ, İ, ı, Ĕ, ĝ, Ày, Ĳ, Ő, ő, Ğ, ĳ, ÀV, ÀW, ÁO, ÁP, Àz, ÀX, ÀY, List.map_cons, List.map_nil, List.cons_append, List.nil_append, List.length_cons, List.length_nil, Nat.reduceAdd, Nat.reduceSub, List.replicate, List.set_cons_zero, List.set_cons_succ, Bool.false_eq_true, Bool.not_true, Bool.not_false, if_true, if_false, reduceIte, decide_eq_true_eq, Bool.not_eq_true', decide_eq_false_iff_not, not_true_eq_false, not_false_eq_true, ite_not, decide_true, decide_false, eq_self_iff_true, Ãc, ÁR, Ã5, Ãd, ÃQ, ÄA, ÃR, ÂV, ÆP, Åe, and_self, true_and, and_true, false_and, and_false, or_true, true_or, or_self, false_or, or_false, ne_eq])
local macro_rules | `(tactic| walk_at "evh") => `(tactic| simp only [Bool.or_true, Bool.true_or, Bool.and_self, Bool.or_self, Bool.and_true, Bool.true_and, Bool.false_or, Bool.or_false, Bool.false_and, Bool.and_false, ÂW, ÆQ, ÆR, ÆS, ÂX, Ř, Át, Åf, Ã6, ÆT, ÆU, ÆV, ÆW, Èh, ř, Ś, ś, Ài, Ŝ, Ãe, Ã7, Àj, Åg, Ã8, Åh, Á3, ŝ, Ã9, ÁS, Åi, Àk, Àl, Ģ, Åj, ÁT, Ãf, Ãg, Äa, Äb, Ãh, ÁU, Æj, ÆX, Åk, Ål, Åm, Ån, ÆY, Èi, Áu, Áv, Æk, Æl, Àm, ÂY, Áw, Äc, ÆZ, ÂZ, Àn, Ào, Àp, Àq, ÄB, Èj, Áx, Åo, Â0, Áy, Åp, Â1, Áz, Åq, ÃS, År, Ås, Æ0, Äd, Àr, Ş, ÄC, Èk, Äe, ÄO, Åt, Â2, ÀZ, Ä7, ň, ė, Äk, Âr, Âs, Â9, Äl, Ât, Ţ, Äm, Âu, Âv, seq_eq, ŗ, Âe, Âw, Âx, Ây, À3, À4, ÀF, À5, À6, À7, À8, Ž, ž, ÃV, Ãt, Än, Äo, Âz, Àa, ÁX, ÃW, ÁY, Äp, Âf, Äq, ÂA, Är, Äs, Ū, ÃC, ÁZ, ÂB, Ät, ÂC, ũ, ĸ, Âg, ÂD, Çv, ÃD, ÀG, ÄS, Äu, À9, ÀH, Áa, ÀQ, ū, ÁD, Áb, Á0, Âh, Ŕ, Àb, Ác, ÁE, Ã3, ÅD, Àc, Ä8, Àd, Ád, Áe, Áf, Ág, Áh, Ái, Áj, ÀI, Àe, Ä9, Ák, ÂE, ÂF, Âi, ÂG, ÀR, ÂH, Äv, ÂI, ÂJ, Äw, ÂK, ÂL, ÂM, Äx, ÂN, ÆL, ÆM, Ãa, Ál, Ám, ÆN, ÀJ, ÂO, ÂP, Án, ÂQ, Áo, Áp, Áq, Ã4, ÃE, ÅP, Ãu, Ãv, Ãb, ÅQ, ÁQ, ÁF, Åa, Åb, ÆO, Åc, Á1, Á2, Äy, Äz, Åd, Âj, ÂR, ÂS, ÂT, ÂU, Àf, Àg, Àh, Ár, Ás, ĺ, ă, Č, č, þ, Ą, Ĺ, Ĭ, Ŋ, ŋ, ě, ĭ, ÀU, Ō, Ŵ, ŵ, Į, ō, ÁM, Ŏ, Ŷ, ŷ, į, ŏ, ÁN, Ĝ, İ, ı, Ĕ, ĝ, Ày, Ĳ, Ő, ő, Ğ, ĳ, ÀV, ÀW, ÁO, ÁP, Àz, ÀX, ÀY, List.map_cons, List.map_nil, List.cons_append, List.nil_append, List.length_cons, List.length_nil, Nat.reduceAdd, Nat.reduceSub, List.replicate, List.set_cons_zero, List.set_cons_succ, Bool.false_eq_true, Bool.not_true, Bool.not_false, if_true, if_false, reduceIte, decide_eq_true_eq, Bool.not_eq_true', decide_eq_false_iff_not, not_true_eq_false, not_false_eq_true, ite_not, decide_true, decide_false, eq_self_iff_true, Ãc, ÁR, Ã5, Ãd, ÃQ, ÄA, ÃR, ÂV, ÆP, Åe, and_self, true_and, and_true, false_and, and_false, or_true, true_or, or_self, false_or, or_false, ne_eq, *])
section
variable{X:Å}{tb t:Nat}{as:List Nat}{ws:List W}{a b c3 c4 c6 c7:Option W}{c:W}
structure Ós (X:Å) (tb t:Nat) (as:List Nat) (ws:List W):Prop where
 tl:X[tb]?=some (.lst ((as++[t]).map .ref))
 tp:X[t]?=some (.lst ws)
 ne:t≠tb
 g1:ws.length<sizeLine
 g2:as.length+1<sizeLine
abbrev foS (X:Å) (t tb:Nat) (ws:List W) (as:List Nat) (c:W):Å:=((X++[Ob.lst []]).set t (.lst (ws++[.tup [c,.ref X.length]]))).set tb (.lst (as.map W.ref++[.ref X.length]))
end
section
variable{X:Å}{tb t:Nat}{as:List Nat}{ws:List W}{a b c3 c4 c6 c7:Option W}{c:W}
end
end Fr
namespace Fr
open PySem
def foG:Ā:=gT 2 (æ (gN 3) (æ (gN 4) ÃU))
end Fr
namespace Pu
open PySem
def ÐT (z:List Lp×List W) (d:W):Option (List Lp×List W):=
 if flat d=true∧z.2.length<sizeLine∧z.1.length+1<sizeLine then some (z.1++[(z.2,d)],[]) else none
def FoS (dA:Nat) (H:Nat→Prop) (S:Fr.Å) (r:Nat) (X:Fr.Å) (dw:Dw) (tb:Nat) (z:List Lp×List W):Prop:=∃ L t ws,Zs dA H S X dw tb L t ws z.1 z.2∧hdZ L t=r
section
variable{dA:Nat}{H:Nat→Prop}{S X:Fr.Å}{dw:Dw}{tb r:Nat}
theorem FoS.push (hb:∀ x,H x→x<S.length) (hd:H dA) {z z':List Lp×List W} (h:FoS dA H S r X dw tb z) {c:Fr.W} {d:W} {H':Nat→Prop} {Y:Fr.Å} (v:Vw dA H' Y c d) (e:ÐT z d=some z'):
  ∃t as ws,Fr.Ós X tb t as ws∧FoS dA H S r (Fr.foS X t tb ws (as++[t]) c) dw tb z':=by
 unfold ÐT at e
 split at e
 ·rename_i g
  cases e
  obtain ⟨L,t,ws,q,hr⟩:=h
  obtain ⟨as,ha,hl⟩:=ËT t L
  have lw:=q.z.top.2.length
  have ll:=q.z.len
  refine ⟨t,as,ws,⟨by rw[←ha];exact q.tl,q.z.top.1,q.tne,by omega,by omega⟩,L++[(t,ws,c)],X.length,[],?_,by rw[ÐS];exact hr⟩
  have:=q.push hb hd v g.1
  rw[ha] at this
  exact this
 ·cases e
theorem FoS.start (hb:∀ x,H x→x<S.length) (hd:H dA) (e:S[dA]?=some (Fr.oI dw)):FoS dA H S S.length ((S++[.lst []])++[.lst [.ref S.length]]) dw (S++[Fr.Ob.lst []]).length ([],[]):=
 ⟨[],_,[],Zs.start hb hd e,rfl⟩
theorem Fsh.both {w:Fr.W} {d:W} {n:Nat} (hn:n≤S.length) (hb:∀ x,H x→x<n) (f:Fsh dA (λ x=>x<S.length) S.length X w d):Fsh dA H n X w d∧Vw dA (λ x=>x<n) X w d:=by
 obtain ⟨a,o,rfl,h1,h2,h3⟩:=f
 refine ⟨⟨a,o,rfl,by omega,h2,h3.less λ x q=>?_⟩,.ref (λ q=>?_) h2 (h3.less λ x q=>.inl ?_)⟩
 ·rcases q with q|q
  ·exact .inl (by have:=hb x q;omega)
  ·exact .inr q
 ·have:a<n:=q
  omega
 ·have:x<n:=q
  show x<S.length
  omega
end
def FSb (k:Nat) (m:Fr.Fn) (q:Fn):Prop:=∀ dA H S ws ds dw,H dA→(∀x,H x→x<S.length)→S[dA]?=some (Fr.oI dw)→Ó dA H S ws ds→ds.length=k→
 RM ⟨dA,S,H⟩ (λ w d S'=>Fsh dA H S.length S' w d∧Vw dA (λ x=>x<S.length) S' w d∧TrR S' (λ x=>S.length≤x) w d) S (m ws S) (q ds dw)
theorem FSb.one {k:Nat} {m:Fr.Fn} {q:Fn} (h:FSb k m q):FS 1 k m q:=λ dA H S ws ds dw hd hb e v hk=>
 (h dA H S ws ds dw hd hb e v hk).imp λ w d S' _ c=>⟨c.1.vw hb,λ _ _=>c.1,λ z=>nomatch z⟩
theorem FSb.two {k:Nat} {m:Fr.Fn} {q:Fn} (h:FSb k m q):FS 2 k m q:=λ dA H S ws ds dw hd hb e v hk=>
 (h dA H S ws ds dw hd hb e v hk).imp λ w d S' _ c=>⟨c.1.vw hb,(λ z=>nomatch z),λ _=>c.2⟩
end Pu
namespace Fr
open PySem
end Fr
namespace Pu
open PySem
def Çb (z:List Lp×List W) (l:Int) (cs:List W):Option (List Lp×List W):=ÐT (Ìc l.toNat z.1 z.2) (.tup cs)
def Òr:List W→List Lp×List W→Option (Option (List Lp×List W))
 | [],z=>some (some z)
 |x::r,z=>match x with
  | .tup [.int l,.tup cs]=>if 0≤l∧l<z.1.length+1 then (match Çb z l cs with
   |some z'=>Òr r z'
   |none=>none) else some none
  |_=>none
theorem ÕE:∀ (n:Nat) (L:List Lp) (cur:List W),n≤L.length→(Ìc n L cur).1.length=n
 |0,[],_,_=>rfl
 |_+1,[],_,h=>by simp at h
 |0,(_,_)::_,_,_=>rfl
 |n+1,(_,_)::L,cur,h=>by
  show ((_:Lp)::(Ìc n L cur).1).length=n+1
  rw[List.length_cons,ÕE n L cur (by simpa using h)]
section
variable{dA:Nat}{H:Nat→Prop}{S X:Fr.Å}{dw:Dw}{tb r:Nat}
theorem FoS.âe (hb:∀ x,H x→x<S.length) (hd:H dA) {z z':List Lp×List W} (h:FoS dA H S r X dw tb z) {c:Fr.W} {d:W} {H':Nat→Prop} {Y:Fr.Å} (v:Vw dA H' Y c d) (e:ÐT z d=some z'):
  ∃t as ws,Fr.Ós X tb t as ws∧as.length=z.1.length∧FoS dA H S r (Fr.foS X t tb ws (as++[t]) c) dw tb z':=by
 unfold ÐT at e
 split at e
 ·rename_i g
  cases e
  obtain ⟨L,t,ws,q,hr⟩:=h
  obtain ⟨as,ha,hl⟩:=ËT t L
  have lw:=q.z.top.2.length
  have ll:=q.z.len
  refine ⟨t,as,ws,⟨by rw[←ha];exact q.tl,q.z.top.1,q.tne,by omega,by omega⟩,by omega,L++[(t,ws,c)],X.length,[],?_,by rw[ÐS];exact hr⟩
  have:=q.push hb hd v g.1
  rw[ha] at this
  exact this
 ·cases e
theorem FoS.tabs {z:List Lp×List W} (h:FoS dA H S r X dw tb z):∃ rs:List Fr.W,X[tb]?=some (.lst rs)∧rs.length=z.1.length+1:=by
 obtain ⟨L,t,ws,q,hr⟩:=h
 exact ⟨_,q.tl,by rw[List.length_map,Ú9,q.z.len]⟩
theorem FoS.cutAt (hb:∀ x,H x→x<S.length) {z:List Lp×List W} (h:FoS dA H S r X dw tb z) (n:Nat):∃ rs:List Fr.W,X[tb]?=some (.lst rs)∧FoS dA H S r (X++[.lst (rs.take (n+1))]) dw X.length (Ìc n z.1 z.2):=by
 obtain ⟨L,t,ws,q,hr⟩:=h
 exact ⟨_,q.tl,_,_,_,q.cut hb n,by rw[ÕD];exact hr⟩
theorem FoS.ÇR {Pl:Int→Prop} (hb:∀ x,H x→x<S.length) (hd:H dA) {a b:Option Fr.W} {k i:Nat} {B:Fr.Ì} {E:Fr.RS→Prop}
  (hB:∀ (tb:Nat) (n:Nat) (X:Fr.Å) (rs:List Fr.W) (cs:List Fr.W) (rest:Fr.Sl),rest.length=k→X[tb]?=some (.lst rs)→n<rs.length→(∃t as ws,as.length=n∧Fr.Ós (X++[.lst (rs.take (n+1))]) X.length t as ws∧
   ∀X',X'=Fr.foS (X++[.lst (rs.take (n+1))]) t X.length ws (as++[t]) (.tup cs)→True)→∃ rest',rest'.length=k∧∀ t as ws,as.length=n→Fr.Ós (X++[.lst (rs.take (n+1))]) X.length t as ws→
   B (a::b::some (.ref tb)::some (.int (n:Int))::some (.tup cs)::rest) X=.nx (a::b::some (.ref X.length)::some (.int (n:Int))::some (.tup cs)::rest') (Fr.foS (X++[.lst (rs.take (n+1))]) t X.length ws (as++[t]) (.tup cs)))
  (hE:∀ (tb:Nat) (l:Int) (X:Fr.Å) (rs:List Fr.W) (s:Fr.Sl),Kd dA S X→X[dA]?=some (Fr.oI dw)→X[tb]?=some (.lst rs)→Pl l→¬(0≤l∧l<rs.length)→Fr.Ends (B (a::b::some (.ref tb)::some (.int l)::s) X)∧E (B (a::b::some (.ref tb)::some (.int l)::s) X))
  {H':Nat→Prop} {Y:Fr.Å} {ys:List Fr.W} {ds:List W} (v:Ó dA H' Y ys ds) (hP:∀ l cs,W.tup [.int l,.tup cs]∈ds→Pl l) (hi:S[i]?=some (.lst ys)) (hid:i≠dA) {z0:List Lp×List W} {res:Option (List Lp×List W)} {c3 c4:Option Fr.W} {rest:Fr.Sl} (hk:rest.length=k) (h:FoS dA H S r X dw tb z0) (e:Òr ds z0=some res):
  (∃tb' c3' c4' rest' X' z',Fr.forL Fr.foG B i ys.length ys.length (a::b::some (.ref tb)::c3::c4::rest) X=.nx (a::b::some (.ref tb')::c3'::c4'::rest') X'∧res=some z'∧FoS dA H S r X' dw tb' z')∨
  (res=none∧E (Fr.forL Fr.foG B i ys.length ys.length (a::b::some (.ref tb)::c3::c4::rest) X)):=by
 have base:∀ {X:Fr.Å} {tb:Nat} {z:List Lp×List W},FoS dA H S r X dw tb z→X[i]?=some (.lst ys):=λ h=>by
  obtain ⟨L,t,ws,q,hr⟩:=h
  exact q.kd.get hid hi
 have key:=Fr.ÚP (g:=Fr.foG) (b:=B) (a:=i) ys
  (λ pre s X=>∃ z tb c3 c4 rest,Òr (ds.drop pre.length) z=some res∧FoS dA H S r X dw tb z∧rest.length=k∧s=a::b::some (.ref tb)::c3::c4::rest)
  (λ q=>res=none∧E q)
  (λ pre s X ⟨z,tb,c3,c4,rest,_,q,_⟩=>base q)
  (λ pre x suf s X ex ⟨z,tb,c3,c4,rest,q1,q2,q3,q4⟩=>by
   have hl:pre.length<ds.length:=by rw[←v.length,ex];simp
   have hx:ys[pre.length]?=some x:=by rw[ex];simp
   obtain ⟨x',hx',vx⟩:=v.get' (List.getElem?_eq_getElem hl)
   rw[hx] at hx'
   cases hx'
   have ed:ds.drop pre.length=ds[pre.length]::ds.drop (pre.length+1):=by rw[List.getElem_cons_drop]
   rw[ed] at q1
   unfold Òr at q1
   subst q4
   split at q1
   ·rename_i l cs hds
    rw[hds] at vx
    obtain ⟨xs,rfl,v1⟩:=vx.ÇP
    obtain ⟨u,y,rfl,v2,v3⟩:=v1.Ók
    cases v2.int_inv
    obtain ⟨ps,rfl,v4⟩:=v3.ÇP
    refine ⟨a::b::some (.ref tb)::some (.int l)::some (.tup ps)::rest,rfl,?_⟩
    obtain ⟨rs,t1,t2⟩:=q2.tabs
    split at q1
    ·rename_i g
     obtain ⟨n,rfl⟩:∃ n:Nat,l=(n:Int):=⟨l.toNat,by omega⟩
     unfold Çb at q1
     cases hp:ÐT (Ìc n z.1 z.2) (.tup cs) with
     |none=>
      simp only[Int.toNat_natCast,hp] at q1
      cases q1
     |some z2=>
      simp only[Int.toNat_natCast,hp] at q1
      obtain ⟨rs',t1',qc⟩:=q2.cutAt hb n
      rw[t1] at t1'
      cases t1'
      obtain ⟨t,as,ws,f1,f2,f3⟩:=FoS.âe hb hd qc v3 hp
      have fl:as.length=n:=by rw[f2,ÕE n z.1 z.2 (by omega)]
      obtain ⟨rest',r1,r2⟩:=hB tb n X rs ps rest q3 t1 (by omega) ⟨t,as,ws,fl,f1,λ _ _=>trivial⟩
      refine .inl ⟨_,_,.inl (r2 t as ws fl f1),z2,X.length,some (.int (n:Int)),some (.tup ps),rest',?_,f3,r1,rfl⟩
      rw[List.length_append,List.length_singleton]
      exact q1
    ·rename_i g
     cases q1
     obtain ⟨L,t,ws,qz,hr⟩:=q2
     obtain ⟨e1,e2⟩:=hE tb l X rs (some (.tup ps)::rest) qz.kd qz.dr t1 (hP l cs (by rw[←hds];exact List.getElem_mem hl)) (λ q=>g ⟨q.1,by omega⟩)
     exact .inr ⟨e1,rfl,e2⟩
   ·cases q1)
  (s:=a::b::some (.ref tb)::c3::c4::rest) (S:=X) ⟨z0,tb,c3,c4,rest,by simpa using e,h,hk,rfl⟩
 rcases key with ⟨s',X',h1,z,tb',c3',c4',rest',q1,q2,q3,q4⟩|h2
 ·rw[v.length,List.drop_length] at q1
  cases q1
  rw[q4] at h1
  exact .inl ⟨tb',c3',c4',rest',X',z,h1,rfl,q2⟩
 ·exact .inr h2
theorem FoS.rows (hb:∀ x,H x→x<S.length) (hd:H dA) {a b:Option Fr.W} {k i:Nat} {B:Fr.Ì} {E:Fr.RS→Prop}
  (hB:∀ (tb:Nat) (n:Nat) (X:Fr.Å) (rs:List Fr.W) (cs:List Fr.W) (rest:Fr.Sl),rest.length=k→X[tb]?=some (.lst rs)→n<rs.length→(∃t as ws,as.length=n∧Fr.Ós (X++[.lst (rs.take (n+1))]) X.length t as ws∧
   ∀X',X'=Fr.foS (X++[.lst (rs.take (n+1))]) t X.length ws (as++[t]) (.tup cs)→True)→∃ rest',rest'.length=k∧∀ t as ws,as.length=n→Fr.Ós (X++[.lst (rs.take (n+1))]) X.length t as ws→
   B (a::b::some (.ref tb)::some (.int (n:Int))::some (.tup cs)::rest) X=.nx (a::b::some (.ref X.length)::some (.int (n:Int))::some (.tup cs)::rest') (Fr.foS (X++[.lst (rs.take (n+1))]) t X.length ws (as++[t]) (.tup cs)))
  (hE:∀ (tb:Nat) (l:Int) (X:Fr.Å) (rs:List Fr.W) (s:Fr.Sl),Kd dA S X→X[dA]?=some (Fr.oI dw)→X[tb]?=some (.lst rs)→¬(0≤l∧l<rs.length)→Fr.Ends (B (a::b::some (.ref tb)::some (.int l)::s) X)∧E (B (a::b::some (.ref tb)::some (.int l)::s) X))
  {H':Nat→Prop} {Y:Fr.Å} {ys:List Fr.W} {ds:List W} (v:Ó dA H' Y ys ds) (hi:S[i]?=some (.lst ys)) (hid:i≠dA) {z0:List Lp×List W} {res:Option (List Lp×List W)} {c3 c4:Option Fr.W} {rest:Fr.Sl} (hk:rest.length=k) (h:FoS dA H S r X dw tb z0) (e:Òr ds z0=some res):
  (∃tb' c3' c4' rest' X' z',Fr.forL Fr.foG B i ys.length ys.length (a::b::some (.ref tb)::c3::c4::rest) X=.nx (a::b::some (.ref tb')::c3'::c4'::rest') X'∧res=some z'∧FoS dA H S r X' dw tb' z')∨
  (res=none∧E (Fr.forL Fr.foG B i ys.length ys.length (a::b::some (.ref tb)::c3::c4::rest) X)):=
 FoS.ÇR (Pl:=λ _=>True) hb hd hB (λ tb l X rs s h1 h2 h3 _ h4=>hE tb l X rs s h1 h2 h3 h4) v (λ _ _ _=>trivial) hi hid hk h e
end
section
variable{dA:Nat}{H:Nat→Prop}{S:Fr.Å}{dw:Dw}
end
end Pu
namespace Fr
open PySem
end Fr
namespace Pu
open PySem
section
variable{dA:Nat}{H:Nat→Prop}{X:Fr.Å}{o:Nat}
end
end Pu
namespace Fr
open PySem
local macro_rules | `(tactic| walk_at "ev") => `(tactic| simp only [Bool.or_true, Bool.true_or, Bool.and_self, Bool.or_self, Bool.and_true, Bool.true_and, Bool.false_or, Bool.or_false, Bool.false_and, Bool.and_false, ÂW, ÆQ, ÆR, ÆS, ÂX, Ř, Át, Åf, Ã6, ÆT, ÆU, ÆV, ÆW, Èh, ř, Ś, ś, Ài, Ŝ, Ãe, Ã7, Àj, Åg, Ã8, Åh, Á3, ŝ, Ã9, ÁS, Åi, Àk, Àl, Ģ, Åj, ÁT, Ãf, Ãg, Äa, Äb, Ãh, ÁU, Æj, ÆX, Åk, Ål, Åm, Ån, ÆY, Èi, Áu, Áv, Æk, Æl, Àm, ÂY, Áw, Äc, ÆZ, ÂZ, Àn, Ào, Àp, Àq, ÄB, Èj, Áx, Åo, Â0, Áy, Åp, Â1, Áz, Åq, ÃS, År, Ås, Æ0, Äd, Àr, Ş, ÄC, Èk, Äe, ÄO, Åt, Â2, ÀZ, Ä7, ň, ė, Äk, Âr, Âs, Â9, Äl, Ât, Ţ, Äm, Âu, Âv, seq_eq, ŗ, Âe, Âw, Âx, Ây, À3, À4, ÀF, À5, À6, À7, À8, Ž, ž, ÃV, Ãt, Än, Äo, Âz, Àa, ÁX, ÃW, ÁY, Äp, Âf, Äq, ÂA, Är, Äs, Ū, ÃC, ÁZ, ÂB, Ät, ÂC, ũ, ĸ, Âg, ÂD, Çv, ÃD, ÀG, ÄS, Äu, À9, ÀH, Áa, ÀQ, ū, ÁD, Áb, Á0, Âh, Ŕ, Àb, Ác, ÁE, Ã3, ÅD, Àc, Ä8, Àd, Ád, Áe, Áf, Ág, Áh, Ái, Áj, ÀI, Àe, Ä9, Ák, ÂE, ÂF, Âi, ÂG, ÀR, ÂH, Äv, ÂI, ÂJ, Äw, ÂK, ÂL, ÂM, Äx, ÂN, ÆL, ÆM, Ãa, Ál, Ám, ÆN, ÀJ, ÂO, ÂP, Án, ÂQ, Áo, Áp, Áq, Ã4, ÃE, ÅP, Ãu, Ãv, Ãb, ÅQ, ÁQ, ÁF, Åa, Åb, ÆO, Åc, Á1, Á2, Äy, Äz, Åd, Âj, ÂR, ÂS, ÂT, ÂU, Àf, Àg, Àh, Ár, Ás, ĺ, ă, Č, č, þ, Ą, Ĺ, Ĭ, Ŋ, ŋ, ě, ĭ, ÀU, Ō, Ŵ, ŵ, Į, ō, ÁM, Ŏ, Ŷ, ŷ, į, ŏ, ÁN, Ĝ, İ, ı, Ĕ, ĝ, Ày, Ĳ, Ő, ő, Ğ, ĳ, ÀV, ÀW, ÁO, ÁP, Àz, ÀX, ÀY, List.map_cons, List.map_nil, List.cons_append, List.nil_append, List.length_cons, List.length_nil, Nat.reduceAdd, Nat.reduceSub, List.replicate, List.set_cons_zero, List.set_cons_succ, Bool.false_eq_true, Bool.not_true, Bool.not_false, if_true, if_false, reduceIte, decide_eq_true_eq, Bool.not_eq_true', decide_eq_false_iff_not, not_true_eq_false, not_false_eq_true, ite_not, decide_true, decide_false, eq_self_iff_true, Ãc, ÁR, Ã5, Ãd, ÃQ, ÄA, ÃR, ÂV, ÆP, Åe, and_self, true_and, and_true, false_and, and_false, or_true, true_or, or_self, false_or, or_false, ne_eq])
local macro_rules | `(tactic| walk_at "evh") => `(tactic| simp only [Bool.or_true, Bool.true_or, Bool.and_self, Bool.or_self, Bool.and_true, Bool.true_and, Bool.false_or, Bool.or_false, Bool.false_and, Bool.and_false, ÂW, ÆQ, ÆR, ÆS, ÂX, Ř, Át, Åf, Ã6, ÆT, ÆU, ÆV, ÆW, Èh, ř, Ś, ś, Ài, Ŝ, Ãe, Ã7, Àj, Åg, Ã8, Åh, Á3, ŝ, Ã9, ÁS, Åi, Àk, Àl, Ģ, Åj, ÁT, Ãf, Ãg, Äa, Äb, Ãh, ÁU, Æj, ÆX, Åk, Ål, Åm, Ån, ÆY, Èi, Áu, Áv, Æk, Æl, Àm, ÂY, Áw, Äc, ÆZ, ÂZ, Àn, Ào, Àp, Àq, ÄB, Èj, Áx, Åo, Â0, Áy, Åp, Â1, Áz, Åq, ÃS, År, Ås, Æ0, Äd, Àr, Ş, ÄC, Èk, Äe, ÄO, Åt, Â2, ÀZ, Ä7, ň, ė, Äk, Âr, Âs, Â9, Äl, Ât, Ţ, Äm, Âu, Âv, seq_eq, ŗ, Âe, Âw, Âx, Ây, À3, À4, ÀF, À5, À6, À7, À8, Ž, ž, ÃV, Ãt, Än, Äo, Âz, Àa, ÁX, ÃW, ÁY, Äp, Âf, Äq, ÂA, Är, Äs, Ū, ÃC, ÁZ, ÂB, Ät, ÂC, ũ, ĸ, Âg, ÂD, Çv, ÃD, ÀG, ÄS, Äu, À9, ÀH, Áa, ÀQ, ū, ÁD, Áb, Á0, Âh, Ŕ, Àb, Ác, ÁE, Ã3, ÅD, Àc, Ä8, Àd, Ád, Áe, Áf, Ág, Áh, Ái, Áj, ÀI, Àe, Ä9, Ák, ÂE, ÂF, Âi, ÂG, ÀR, ÂH, Äv, ÂI, ÂJ, Äw, ÂK, ÂL, ÂM, Äx, ÂN, ÆL, ÆM, Ãa, Ál, Ám, ÆN, ÀJ, ÂO, ÂP, Án, ÂQ, Áo, Áp, Áq, Ã4, ÃE, ÅP, Ãu, Ãv, Ãb, ÅQ, ÁQ, ÁF, Åa, Åb, ÆO, Åc, Á1, Á2, Äy, Äz, Åd, Âj, ÂR, ÂS, ÂT, ÂU, Àf, Àg, Àh, Ár, Ás, ĺ, ă, Č, č, þ, Ą, Ĺ, Ĭ, Ŋ, ŋ, ě, ĭ, ÀU, Ō, Ŵ, ŵ, Į, ō, ÁM, Ŏ, Ŷ, ŷ, į, ŏ, ÁN, Ĝ, İ, ı, Ĕ, ĝ, Ày, Ĳ, Ő, ő, Ğ, ĳ, ÀV, ÀW, ÁO, ÁP, Àz, ÀX, ÀY, List.map_cons, List.map_nil, List.cons_append, List.nil_append, List.length_cons, List.length_nil, Nat.reduceAdd, Nat.reduceSub, List.replicate, List.set_cons_zero, List.set_cons_succ, Bool.false_eq_true, Bool.not_true, Bool.not_false, if_true, if_false, reduceIte, decide_eq_true_eq, Bool.not_eq_true', decide_eq_false_iff_not, not_true_eq_false, not_false_eq_true, ite_not, decide_true, decide_false, eq_self_iff_true, Ãc, ÁR, Ã5, Ãd, ÃQ, ÄA, ÃR, ÂV, ÆP, Åe, and_self, true_and, and_true, false_and, and_false, or_true, true_or, or_self, false_or, or_false, ne_eq, *])
abbrev shO (l:List Int):Ob:=.lst (l.map W.int)
end Fr
namespace Fr
open PySem
local macro_rules | `(tactic| walk_at "ev") => `(tactic| simp only [Bool.or_true, Bool.true_or, Bool.and_self, Bool.or_self, Bool.and_true, Bool.true_and, Bool.false_or, Bool.or_false, Bool.false_and, Bool.and_false, ÂW, ÆQ, ÆR, ÆS, ÂX, Ř, Át, Åf, Ã6, ÆT, ÆU, ÆV, ÆW, Èh, ř, Ś, ś, Ài, Ŝ, Ãe, Ã7, Àj, Åg, Ã8, Åh, Á3, ŝ, Ã9, ÁS, Åi, Àk, Àl, Ģ, Åj, ÁT, Ãf, Ãg, Äa, Äb, Ãh, ÁU, Æj, ÆX, Åk, Ål, Åm, Ån, ÆY, Èi, Áu, Áv, Æk, Æl, Àm, ÂY, Áw, Äc, ÆZ, ÂZ, Àn, Ào, Àp, Àq, ÄB, Èj, Áx, Åo, Â0, Áy, Åp, Â1, Áz, Åq, ÃS, År, Ås, Æ0, Äd, Àr, Ş, ÄC, Èk, Äe, ÄO, Åt, Â2, ÀZ, Ä7, ň, ė, Äk, Âr, Âs, Â9, Äl, Ât, Ţ, Äm, Âu, Âv, seq_eq, ŗ, Âe, Âw, Âx, Ây, À3, À4, ÀF, À5, À6, À7, À8, Ž, ž, ÃV, Ãt, Än, Äo, Âz, Àa, ÁX, ÃW, ÁY, Äp, Âf, Äq, ÂA, Är, Äs, Ū, ÃC, ÁZ, ÂB, Ät, ÂC, ũ, ĸ, Âg, ÂD, Çv, ÃD, ÀG, ÄS, Äu, À9, ÀH, Áa, ÀQ, ū, ÁD, Áb, Á0, Âh, Ŕ, Àb, Ác, ÁE, Ã3, ÅD, Àc, Ä8, Àd, Ád, Áe, Áf, Ág, Áh, Ái, Áj, ÀI, Àe, Ä9, Ák, ÂE, ÂF, Âi, ÂG, ÀR, ÂH, Äv, ÂI, ÂJ, Äw, ÂK, ÂL, ÂM, Äx, ÂN, ÆL, ÆM, Ãa, Ál, Ám, ÆN, ÀJ, ÂO, ÂP, Án, ÂQ, Áo, Áp, Áq, Ã4, ÃE, ÅP, Ãu, Ãv, Ãb, ÅQ, ÁQ, ÁF, Åa, Åb, ÆO, Åc, Á1, Á2, Äy, Äz, Åd, Âj, ÂR, ÂS, ÂT, ÂU, Àf, Àg, Àh, Ár, Ás, ĺ, ă, Č, č, þ, Ą, Ĺ, Ĭ, Ŋ, ŋ, ě, ĭ, ÀU, Ō, Ŵ, ŵ, Į, ō, ÁM, Ŏ, Ŷ, ŷ, į, ŏ, ÁN, Ĝ, İ, ı, Ĕ, ĝ, Ày, Ĳ, Ő, ő, Ğ, ĳ, ÀV, ÀW, ÁO, ÁP, Àz, ÀX, ÀY, List.map_cons, List.map_nil, List.cons_append, List.nil_append, List.length_cons, List.length_nil, Nat.reduceAdd, Nat.reduceSub, List.replicate, List.set_cons_zero, List.set_cons_succ, Bool.false_eq_true, Bool.not_true, Bool.not_false, if_true, if_false, reduceIte, decide_eq_true_eq, Bool.not_eq_true', decide_eq_false_iff_not, not_true_eq_false, not_false_eq_true, ite_not, decide_true, decide_false, eq_self_iff_true, Ãc, ÁR, Ã5, Ãd, ÃQ, ÄA, ÃR, ÂV, ÆP, Åe, and_self, true_and, and_true, false_and, and_false, or_true, true_or, or_self, false_or, or_false, ne_eq])
local macro_rules | `(tactic| walk_at "evh") => `(tactic| simp only [Bool.or_true, Bool.true_or, Bool.and_self, Bool.or_self, Bool.and_true, Bool.true_and, Bool.false_or, Bool.or_false, Bool.false_and, Bool.and_false, ÂW, ÆQ, ÆR, ÆS, ÂX, Ř, Át, Åf, Ã6, ÆT, ÆU, ÆV, ÆW, Èh, ř, Ś, ś, Ài, Ŝ, Ãe, Ã7, Àj, Åg, Ã8, Åh, Á3, ŝ, Ã9, ÁS, Åi, Àk, Àl, Ģ, Åj, ÁT, Ãf, Ãg, Äa, Äb, Ãh, ÁU, Æj, ÆX, Åk, Ål, Åm, Ån, ÆY, Èi, Áu, Áv, Æk, Æl, Àm, ÂY, Áw, Äc, ÆZ, ÂZ, Àn, Ào, Àp, Àq, ÄB, Èj, Áx, Åo, Â0, Áy, Åp, Â1, Áz, Åq, ÃS, År, Ås, Æ0, Äd, Àr, Ş, ÄC, Èk, Äe, ÄO, Åt, Â2, ÀZ, Ä7, ň, ė, Äk, Âr, Âs, Â9, Äl, Ât, Ţ, Äm, Âu, Âv, seq_eq, ŗ, Âe, Âw, Âx, Ây, À3, À4, ÀF, À5, À6, À7, À8, Ž, ž, ÃV, Ãt, Än, Äo, Âz, Àa, ÁX, ÃW, ÁY, Äp, Âf, Äq, ÂA, Är, Äs, Ū, ÃC, ÁZ, ÂB, Ät, ÂC, ũ, ĸ, Âg, ÂD, Çv, ÃD, ÀG, ÄS, Äu, À9, ÀH, Áa, ÀQ, ū, ÁD, Áb, Á0, Âh, Ŕ, Àb, Ác, ÁE, Ã3, ÅD, Àc, Ä8, Àd, Ád, Áe, Áf, Ág, Áh, Ái, Áj, ÀI, Àe, Ä9, Ák, ÂE, ÂF, Âi, ÂG, ÀR, ÂH, Äv, ÂI, ÂJ, Äw, ÂK, ÂL, ÂM, Äx, ÂN, ÆL, ÆM, Ãa, Ál, Ám, ÆN, ÀJ, ÂO, ÂP, Án, ÂQ, Áo, Áp, Áq, Ã4, ÃE, ÅP, Ãu, Ãv, Ãb, ÅQ, ÁQ, ÁF, Åa, Åb, ÆO, Åc, Á1, Á2, Äy, Äz, Åd, Âj, ÂR, ÂS, ÂT, ÂU, Àf, Àg, Àh, Ár, Ás, ĺ, ă, Č, č, þ, Ą, Ĺ, Ĭ, Ŋ, ŋ, ě, ĭ, ÀU, Ō, Ŵ, ŵ, Į, ō, ÁM, Ŏ, Ŷ, ŷ, į, ŏ, ÁN, Ĝ, İ, ı, Ĕ, ĝ, Ày, Ĳ, Ő, ő, Ğ, ĳ, ÀV, ÀW, ÁO, ÁP, Àz, ÀX, ÀY, List.map_cons, List.map_nil, List.cons_append, List.nil_append, List.length_cons, List.length_nil, Nat.reduceAdd, Nat.reduceSub, List.replicate, List.set_cons_zero, List.set_cons_succ, Bool.false_eq_true, Bool.not_true, Bool.not_false, if_true, if_false, reduceIte, decide_eq_true_eq, Bool.not_eq_true', decide_eq_false_iff_not, not_true_eq_false, not_false_eq_true, ite_not, decide_true, decide_false, eq_self_iff_true, Ãc, ÁR, Ã5, Ãd, ÃQ, ÄA, ÃR, ÂV, ÆP, Åe, and_self, true_and, and_true, false_and, and_false, or_true, true_or, or_self, false_or, or_false, ne_eq, *])
abbrev tI (l:List Int):W:=.tup (l.map W.int)
def El (X:Å) (w:W) (l:List Int):Prop:=(∃a,w=.ref a∧X[a]?=some (shO l))∨w=tI l
def Els (X:Å) (rs:List W) (Ls:List (List Int)):Prop:=rs.length=Ls.length∧∀ (i:Nat) (w:W) (l:List Int),rs[i]?=some w→Ls[i]?=some l→El X w l
theorem El.old {X:Å} {w:W} {l:List Int} (h:El X w l) (T:Å):El (X++T) w l:=by
 rcases h with ⟨a,e,q⟩|e
 ·exact .inl ⟨a,e,ÈT _ q⟩
 ·exact .inr e
theorem El.tup {X:Å} {w:W} {l:List Int} (h:El X w l):Ń [w] X=.ok (tI l) X:=by
 rcases h with ⟨a,rfl,q⟩|rfl
 ·rw[Á3,q]
  rfl
 ·rfl
theorem Els.app {X:Å} {a b:List W} {A B:List (List Int)} (h1:Els X a A) (h2:Els X b B):Els X (a++b) (A++B):=by
 refine ⟨by rw[List.length_append,List.length_append,h1.1,h2.1],λ i w l e1 e2=>?_⟩
 by_cases c:i<a.length
 ·rw[List.getElem?_append_left c] at e1
  rw[List.getElem?_append_left (by rw[←h1.1];exact c)] at e2
  exact h1.2 i w l e1 e2
 ·rw[List.getElem?_append_right (by omega)] at e1
  rw[List.getElem?_append_right (by rw[←h1.1];omega),←h1.1] at e2
  exact h2.2 _ w l e1 e2
theorem Els.take {X:Å} {a:List W} {A:List (List Int)} (h:Els X a A) (k:Nat):Els X (a.take k) (A.take k):=by
 refine ⟨by rw[List.length_take,List.length_take,h.1],λ i w l e1 e2=>?_⟩
 rw[List.getElem?_take] at e1 e2
 split at e1
 ·rename_i c
  rw[if_pos c] at e2
  exact h.2 i w l e1 e2
 ·cases e1
theorem Els.drop {X:Å} {a:List W} {A:List (List Int)} (h:Els X a A) (k:Nat):Els X (a.drop k) (A.drop k):=by
 refine ⟨by rw[List.length_drop,List.length_drop,h.1],λ i w l e1 e2=>?_⟩
 rw[List.getElem?_drop] at e1 e2
 exact h.2 _ w l e1 e2
theorem Els.old {X:Å} {a:List W} {A:List (List Int)} (h:Els X a A) (T:Å):Els (X++T) a A:=⟨h.1,λ i w l e1 e2=>(h.2 i w l e1 e2).old T⟩
section
variable{dm:Fn}{X:Å}{D:Nat}{rs:List W}{c0 c1 c2 c4 c5 c6 c7:Option W}
end
end Fr
namespace Fr
open PySem PySem.Spec PyProof.Rows L2
def dd:List Int→List Int
 | []=>[]
 |x::xs=>if x∈xs then dd xs else x::dd xs
section
variable{X:Cx}{C:Cc}{a:Expr}{fa:Exp}{p p2 q pos:Pos}
end
end Fr
namespace Pu
open PySem
end Pu
namespace Fr
open PySem PySem.Spec PyProof.Rows L2
end Fr
namespace Pu
open PySem
end Pu
namespace Pu
open PySem
end Pu
namespace Pu
open PySem
end Pu
namespace Fr
open PySem
end Fr
namespace Pu
open PySem
def ÙQ:Nat→W→Bool
 |0,_=>false
 |j+1,.lst rows=>decide (rows.length<1000000)&&rows.all λ x=>match x with
  | .tup [.tup _,u]=>ÙQ j u
  |_=>false
 |_+1,_=>false
mutual
inductive TbD (S:Fr.Å):Nat→Fr.W→List Nat→Prop
 |mk {j a:Nat} {ws:List Fr.W} {A:List Nat} (e:S[a]?=some (.lst ws)) (l:ws.length<1000000) (r:RwD S j ws A):TbD S (j+1) (.ref a) (a::A)
inductive RwD (S:Fr.Å):Nat→List Fr.W→List Nat→Prop
 |nil {j:Nat}:RwD S j [] []
 |cons {j:Nat} {c u:Fr.W} {ws:List Fr.W} {A B:List Nat} (t:TbD S j u A) (r:RwD S j ws B):RwD S j (.tup [c,u]::ws) (A++B)
end
section
variable{S S':Fr.Å}{dA:Nat}{H:Nat→Prop}
mutual
theorem TbD.of:∀ {j:Nat} {w:Fr.W} {A:List Nat},(∀x∈A,∀o,S[x]?=some o→S'[x]?=some o)→TbD S j w A→TbD S' j w A
 |_,_,_,k,.mk e l r=>.mk (k _ (by simp) _ e) l (r.of λ x hx=>k x (by simp[hx]))
theorem RwD.of:∀ {j:Nat} {ws:List Fr.W} {A:List Nat},(∀x∈A,∀o,S[x]?=some o→S'[x]?=some o)→RwD S j ws A→RwD S' j ws A
 |_,_,_,_,.nil=>.nil
 |_,_,_,k,.cons t r=>.cons (t.of λ x hx=>k x (by simp[hx])) (r.of λ x hx=>k x (by simp[hx]))
end
theorem Tb.deep:∀ {j:Nat} {w:Fr.W} {A:List Nat} {d:W},Tb S w A→Vw dA H S w d→ÙQ j d=true→TbD S j w A
 |0,_,_,_,_,_,h=>by cases h
 |j+1,_,_,d,.mk (ws:=ws) (A:=A) e r,v,h=>by
  cases v with
  |dr=>cases h
  |ref h1 h2 h3=>
   rw[e] at h2
   cases h2
   cases h3 with
   | @lst _ rows h4=>
    have h':(decide (rows.length<1000000)&&rows.all λ x=>match x with
     | .tup [.tup _,u]=>ÙQ j u
     |_=>false)=true:=h
    rw[Bool.and_eq_true,decide_eq_true_eq] at h'
    have key:∀ {ws:List Fr.W} {A:List Nat} {rows:List W},Rw S ws A→Ó dA H S ws rows→(rows.all λ x=>match x with
      | .tup [.tup _,u]=>ÙQ j u
      |_=>false)=true→RwD S j ws A:=by
     intro ws
     induction ws with
     |nil=>intro A rows r v h;cases r;exact .nil
     |cons w ws ih=>
      intro A rows r v h
      cases r with
      |cons t r=>
       cases v with
       |cons v1 v2=>
        rw[List.all_cons,Bool.and_eq_true] at h
        refine .cons ?_ (ih r v2 h.2)
        have q:=h.1
        split at q
        ·cases v1 with
         |tup v3=>
          cases v3 with
          |cons v4 v5=>
           cases v5 with
           |cons v6 v7=>exact Tb.deep t v6 q
        ·cases q
    exact .mk e (by rw[h4.length];exact h'.1) (key r h4 h'.2)
theorem TbD.dom:∀ {j:Nat} {w:Fr.W} {A:List Nat},TbD S j w A→∀ a∈A,a<S.length:=by
 intro j w A t
 refine TbD.rec (motive_1:=λ _ w A _=>∀ a∈A,a<S.length) (motive_2:=λ _ ws A _=>∀ a∈A,a<S.length) ?_ ?_ ?_ t
 ·intro j a ws A e l r ih x hx
  rcases List.mem_cons.mp hx with rfl|hx
  ·exact (List.getElem?_eq_some_iff.mp e).1
  ·exact ih x hx
 ·intro j x hx;cases hx
 ·intro j c u ws A B t r i1 i2 x hx
  rcases List.mem_append.mp hx with hx|hx
  ·exact i1 x hx
  ·exact i2 x hx
end
section
variable{ow:Nat}{md:List Nat}{F:Fm}{H:Nat→Prop}{R:Nat→Nat→Prop}{p:Sl}{dw:Dw}{s:Fr.Sl}{S S':Fr.Å}{i:Nat}
end
end Pu
namespace Fr
open PySem PySem.Spec PyProof.Rows L2 NdefX
section
variable{X:Cx}{pins:List (Addr×Obj)}{σ:L2.St}{H:Hp}{s:Shared}{a C u:Addr}{E:Value→Shared→Prop}{A:Around}
structure åE (X:Cx) (C:Addr):Prop where
 ks:X.env.kindOf "super" =some .globalImplicit
 kc:X.env.kindOf "__class__" =some .free
 sl:X.env.kindOf "self" =some .local
 n0:X.N[0]?=some ("self" :Str)
 cc:∃ cc,X.env.cells.lookup ("__class__" :Str)=some cc∧∃ cl cld csl,X.K.lookup cc=some ⟨cl,cld,.cell (some (.ref C)),csl⟩
 fn:∃ f oc od fd osl ar,X.env.func=some f∧X.K.lookup f=some ⟨oc,od,.func fd,osl⟩∧(fd.params.posonlyargs++fd.params.args).head?=some ar∧ar.arg= "self"
 cd:∃ c oc od vs osl file tf,X.env.code=.ref c∧X.K.lookup c=some ⟨oc,od,.fields vs,osl⟩∧vs[2]?=some (.str file tf)∧((X.prog.main.file:Str)==file)=true
 mg:X.mg "super" =none
 top:(X.prog.main.scope.names.lookup ("super" :Str)).isSome=false
 ho:PySem.W.nsIn X.K cStatics "thirdparty.any" =some none
 hm:PySem.W.ks_superIn X.K C C "__init__" =some (some (.builtin "ValueError.__init__"))
 hB:PySem.W.subIn X.K (.ref C) (.type "ValueError")=some true
 hS:PySem.W.mroIn X.K C (.ref C)=some true
end
structure åy (P:Program) (K:PySem.W.Frag) (mg:Str→Option Value) (C f:Addr) (fd:FuncData) (fld:Str):Prop where
 oex:OexC K C
 fn:∃ (qual:Str) (params:Arguments) (scope:Scope) (dV kV doc pm ct oc:Value) (an od:Option Addr) (osl:Array (Option Value)) (c cc:Addr) (msg:Str) (j:Nat) (ar:PySem.Arg) (p0 p1 p2 p3 p4 p5 p6 p7 p8 p9:Pos),
  fd=PySem.W.ksFn "__init__" qual params [.Expr (.Call (.Attribute (.Call (.Name "super" p0) [] [] p1) "__init__" p2) [.Constant (.str msg) j p3] [] p4) p5,.Assign [.Attribute (.Name "self" p6) fld p7] (.Name fld p8) p9] scope dV kV doc pm an (.ref c) ct cc∧
  K.lookup f=some ⟨oc,od,.func fd,osl⟩∧PySem.W.codeIn K (.ref c) qual=true∧NScope ["self",fld, "__class__"] ["self",fld] ["__class__"] scope∧(params.posonlyargs++params.args).head?=some ar∧ar.arg= "self" ∧
  scope.names.lookup ("super" :Str)=some .globalImplicit∧(∃cl cld csl,K.lookup cc=some ⟨cl,cld,.cell (some (.ref C)),csl⟩)∧
  (∀env:Env,∃pl:Sem Bool,eval (.Call (.Attribute (.Call (.Name "super" p0) [] [] p1) "__init__" p2) [.Constant (.str msg) j p3] [] p4) env=(do
   let ov ←attributeBase (.Call (.Name "super" p0) [] [] p1) "__init__" env (eval (.Call (.Name "super" p0) [] [] p1) env)
   standAt p2.atName
   let (f,first) ←holding [ov] (getMethod ov "__init__" pl)
   callWith p4 f first (backTo p4 (starEach [.Constant (.str msg) j p3] env)) []))∧
  ∃oc od vs osl file tf,K.lookup c=some ⟨oc,od,.fields vs,osl⟩∧vs[2]?=some (.str file tf)∧((P.main.file:Str)==file)=true
 mg:mg "super" =none
 top:(P.main.scope.names.lookup ("super" :Str)).isSome=false
 ho:PySem.W.nsIn K cStatics "thirdparty.any" =some none
 hm:PySem.W.ks_superIn K C C "__init__" =some (some (.builtin "ValueError.__init__"))
 hB:PySem.W.subIn K (.ref C) (.type "ValueError")=some true
 hS:PySem.W.mroIn K C (.ref C)=some true
 nf:PySem.W.findIn K (.ref C) fld=some none
 db:(fld==("__debug__" :Str))=false
 dc:(fld==("__classdict__" :Str))=false
section
variable{CX:CXT}{P:Program}{w:World}{K:PySem.W.Frag}{mg:Str→Option Value}{base:Heap}{k:Nat}{C f:Addr}{fd:FuncData}{fld:Str}
end
section
variable{X:Cx}{C:Cc}
end
end Fr
namespace Fr
open PySem PySem.Spec PyProof.Rows L2
section
variable{X:Cx}{C:Cc}
structure XfT (K:PySem.W.Frag) (A:Addr) (f:Str):Prop where
 xf:XfC K A
 no:PySem.W.findIn K (.ref A) f=some none
section
variable{i:Nat}{n wd f:Str}{a A:Addr}{oe:Obj}{d:Option Addr}{dd:Option (List (Str×W))}{pn:List (Addr×Obj)}{j k:Nat}{p1 p2 p3 p4 p5:Pos}
end
end
end Fr
namespace Fr
open PySem PySem.Spec PyProof.Rows L2
end Fr
namespace Fr
open PySem PySem.Spec PyProof.Rows L2
end Fr
namespace Fr
open PySem PySem.Spec PyProof.Rows L2
structure Got (X:Cx) (pins:List (Addr×Obj)) (a:Addr) (cls:Value) (d:Option Addr) (σ:L2.St) (H:Hp) (s:Shared):Prop where
 na:H a=none
 sky:∃ (B:Heap) (sI:Shared),Inv X pins σ H sI∧(∀b o,sI.heap.get? b=some o→b∉frs X.stack→B.get? b=some o)∧sI.heap.UpToSlots s.heap∧s.os=sI.os∧AllBare s.gens∧HandSPX.FlyingZ B X.stack a (Zc cls d) s.heap
section
variable{X:Cx}{pins:List (Addr×Obj)}{a:Addr}{cls:Value}{d:Option Addr}{σ:L2.St}{H:Hp}{s:Shared}
theorem Got.inv (g:Got X pins a cls d σ H s):Inv X pins σ H s:=by
 obtain ⟨B,sI,I,k,up,os,ag,fl⟩:=g.sky
 exact I.landed k fl.1 up os ag
theorem Got.on (g:Got X pins a cls d σ H s) {Q:Unit→Shared→Prop} {M:Model} {A:Around} {E:Value→Shared→Prop} (h:∀ s',Got X pins a cls d σ H s'→Q () s'):wpAny M A (setFlight (.ref a) none) Q E s:=by
 obtain ⟨B,sI,I,k,up,os,ag,fl⟩:=g.sky
 exact HandSPX.lands_againZ fl λ h' fl' up'=>h _ ⟨g.na,B,sI,I,k,up.trans up',os,ag,fl'⟩
theorem Got.room (hst:X.stack=X.env::X.outer) (hfr:X.env.frame=some X.env.locals) (g:Got X pins a cls d σ H s):
  ∃oe,s.heap.get? a=some oe∧(∃vs,oe.data=.fields vs)∧Zc cls d oe∧Inv (X.suite a ((a,oe)::(X.pn++pins))) [] σ H s:=by
 have J:=g.inv
 obtain ⟨B,sI,I,k,up,os,ag,fl⟩:=g.sky
 obtain ⟨oe,vs,e1,e2,e3⟩:=fl.there
 have off:a∉frs (X.env::X.outer):=λ h=>by
  have ff:=fl.2.2.1
  rw[hst] at ff
  obtain ⟨_,o,p1,p2⟩:=Heap.FunFrames.mem ff h
  exact p2 vs (by rw[e1] at p1;cases p1;exact e3)
 have hin:∀ e∈X.env::X.outer,e.frame=some a→False:=λ e he q=>off (List.mem_filterMap.mpr ⟨e,he,q⟩)
 refine ⟨oe,e1,⟨vs,e3⟩,e2,J.suite e1 e3 g.na (λ q=>hin X.env List.mem_cons_self (by rw[hfr,q])) λ q=>?_⟩
 obtain ⟨e,h1,h2⟩:=List.mem_filterMap.mp q
 exact hin e (List.mem_cons_of_mem _ h1) h2
theorem Got.test {x:Str} {c:Value} {b:Bool} {np pos:Pos} {R:Result→Shared→Prop} (hst:X.stack=X.env::X.outer) (hfr:X.env.frame=some X.env.locals) (g:Got X pins a cls d σ H s) (hc:Names X x c) (e:PySem.W.exmOne X.K cls c=some b)
  (h:R (.ok (if b then .brk else .next)) s):codeAny (model X.prog X.w) (X.A.mark (some (.ref a))) (.handlers (.ref a) [.ExceptHandler (some (.Name x np)) none [] pos] X.env) R s:=by
 obtain ⟨oe,h1,h2,h3,S⟩:=g.room hst hfr
 have hit:wpAny (model X.prog X.w) (X.A.mark (some (.ref a))) (excMatches (.ref a) c) (λ b s₂=>R (.ok (if b then .brk else .next)) s₂) (notedBy (model X.prog X.w) (X.A.mark (some (.ref a))) X.env λ x s₂=>R (.error x) s₂) s:=by
  have lk:PySem.W.Looks (model X.prog X.w) s.heap (typeOf (.ref a)) cls:=λ A Q E t k q=>wpAny_typeOf_ref (k a oe h1) (by rw[h3.1];exact q)
  exact (PySem.W.exm_one g.inv.kIn lk e).here h
 refine codeAny_handlers_test ?_
 obtain ⟨n1,n2,n3⟩:=hc
 rcases n3 with n3 |⟨n3,n4,n5⟩
 ·exact ld_glob (X:=X.suite a ((a,oe)::(X.pn++pins))) S n1 n3 hit n2
 ·exact ld_blt (X:=X.suite a ((a,oe)::(X.pn++pins))) S n1 n3 n4 hit n5 n2
theorem Got.away {D:L2.Ends} {W:WX} (hst:X.stack=X.env::X.outer) (hfr:X.env.frame=some X.env.locals) (g:Got X pins a cls d σ H s) (tk:Takes X W) (w:W cls d σ H):wpAny (model X.prog X.w) X.A (handleBy (.ref a) X.env []) (SP X pins D) X.xe s:=by
 obtain ⟨B,sI,I,k,up,os,ag,fl⟩:=g.sky
 have leave:wpAny (model X.prog X.w) X.A (setFlight (.ref a) X.env.frame) (λ _ s'=>wpAny (model X.prog X.w) X.A (throw (.ref a):Sem Flow) (SP X pins D) X.xe s') X.xe s:=by
  rw[hfr]
  exact HandSPX.setFlight_upZ fl λ h' hh up'=>wpAny_throw (tk _ _ ⟨a,B,sI,pins,σ,H,cls,d,rfl,I,k,up.trans up',.inr (.inr hh),g.na,os,ag,w⟩)
 obtain ⟨_,_,_,oe,vs,T,_,_,e1,_,e3,e4,_⟩:=fl
 refine wpAny_handleBy_nil ?_
 unfold PySem.passOn
 refine wpAny_bind (wpAny_field e1 e3 e4 ?_)
 rw[if_neg (by simp)]
 first
  |exact wpAny_bind leave
  |exact wpAny_bind (wpAny_pure (wpAny_bind leave))
theorem Þ3 {oe:Obj} {D:L2.Ends} {f:Flow} {s':Shared} (ok:X.Ok) (h:SP (X.suite a ((a,oe)::(X.pn++pins))) [] D f s'):SP X pins D f s':=by
 cases f with
 |next=>obtain ⟨t,K,I,q⟩:=h;exact ⟨t,K,I.unsuite ok,q⟩
 |brk=>obtain ⟨t,K,I,q⟩:=h;exact ⟨t,K,I.unsuite ok,q⟩
 |cont=>obtain ⟨t,K,I,q⟩:=h;exact ⟨t,K,I.unsuite ok,q⟩
 |ret u=>obtain ⟨v,t,K,I,r,q⟩:=h;exact ⟨v,t,K,I.unsuite ok,r,q⟩
theorem Got.plain {D:L2.Ends} {W:WX} (hst:X.stack=X.env::X.outer) (hfr:X.env.frame=some X.env.locals) (tk:Takes X W):∀ {hs:List ExceptHandler} {l:List (Value×(Addr→Value→Option Addr→TS))},HdsOk X hs l→∀ {s:Shared},Got X pins a cls d σ H s→wMany X.K W D l cls d σ H→
  wpAny (model X.prog X.w) X.A (handleBy (.ref a) X.env hs) (SP X pins D) X.xe s:=by
 intro hs l hk
 induction hk with
 |nil=>intro s g w;exact g.away hst hfr tk w
 |cons hc su _ ih=>
  intro s g w
  obtain ⟨b,e,y,n⟩:=w
  refine wpAny_handleBy_cons (g.test hst hfr hc e ?_) (λ q=>nomatch q)
  cases b with
  |false=>exact ih g (n rfl)
  |true=>
   refine codeAny_handlers_suite (g.on λ s1 g1=>?_)
   obtain ⟨oe,h1,h2,h3,S⟩:=g1.room hst hfr
   exact wpAny_mono ((su a oe cls d (X.pn++pins) h3 h2).run [] _ _ _ _ S (y rfl a g.na)) (λ f s2 q=>Þ3 g.inv.ok q) λ _ _ q=>q.elim
end
section
variable{X:Cx}{x n:Str}{c:Value}{i:Nat}{ts:Addr→Value→Option Addr→TS}{b0:Stmt}{body su:List Stmt}{np pos pos':Pos}{hs:List ExceptHandler}{l:List (Value×(Addr→Value→Option Addr→TS))}{tb:WX→TS}{W:WX}
end
section
variable{X:Cx}{C:Cc}
end
end Fr
namespace Pu
open PySem
section
variable{ow:Nat}{md:List Nat}{F:Fm}{S:Fr.Å}{y:Option (List (Str×Fr.W))}{x:Option (List (Str×W))}
end
end Pu
namespace Fr
open PySem PySem.Spec PyProof.Rows L2
end Fr
namespace Pu
open PySem
end Pu
namespace Fr
open PySem
theorem Þ4 {i:Nat} {w:W} {s:Sl} (h:s[i]?=some (some w)) (S:Å):À i s S=.ok w S:=by
 unfold À
 simp only[h]
end Fr
namespace Pu
open PySem
section
variable{ow:Nat}{md:List Nat}{F:Fm}{H:Nat→Prop}{R:Nat→Nat→Prop}{p:Sl}{dw:Dw}{s t:Fr.Sl}{S S':Fr.Å}{i u v:Nat}
end
end Pu
namespace Fr
open PySem
def K0r (s:Sl) (r:RS):Prop:=match r with
 | .nx s' _=>s'[0]?=s[0]?
 | .bk s' _=>s'[0]?=s[0]?
 | .ct s' _=>s'[0]?=s[0]?
 | .rt _ _=>False
 |_=>True
theorem K0r.trans {s t:Sl} {r:RS} (h:t[0]?=s[0]?) (k:K0r t r):K0r s r:=by
 cases r with
 |nx a b=>exact Eq.trans (show a[0]?=t[0]? from k) h
 |bk a b=>exact Eq.trans (show a[0]?=t[0]? from k) h
 |ct a b=>exact Eq.trans (show a[0]?=t[0]? from k) h
 |ex c d a b=>trivial
 |rt w b=>exact k
 |bad=>trivial
section
variable{g:Ā}{b b2:Ì}{it:Sl→M Src}
end
def KE (e:Exp):Prop:=∀ s S w S',e s S=.ok w S'→S'=S
section
variable{s:Sl}{S:Å}
end
end Fr
namespace Pu
open PySem
abbrev fmI (dA:Nat) (S:Fr.Å) (H:Nat→Prop) (c:Str) (gs:List (Str×Fr.W)):Fm:=⟨dA,S++[Fr.Ob.ins c gs],λ x=>H x∨x=S.length⟩
def IPo (dA:Nat) (S:Fr.Å) (H:Nat→Prop) (c:Str) (r:Fr.RS) (q:RS):Prop:=match q with
 | .rt d dw=>∃ s' S' gs fds,r=.nx s' S'∧S'[dA]?=some (Fr.oI dw)∧Kd dA S S'∧d=.ob c fds∧S'[S.length]?=some (.ins c gs)∧gs.map Prod.fst=fds.map Prod.fst∧Ó dA (λ x=>H x∨x=S.length) S' (gs.map Prod.snd) (fds.map Prod.snd)
 | .ex x y _ dw=>∃ z s' S',r=.ex x z s' S'∧S'[dA]?=some (Fr.oI dw)∧Kd dA S S'∧Vx ⟨dA,S,H⟩ S' z y
 |_=>True
structure IA (md:List Nat) (c:Str) (ns:List Str) (dA:Nat) (S:Fr.Å) (H:Nat→Prop) (gs:List (Str×Fr.W)) (fds:List (Str×W)) (H1:Nat→Prop) (R:Nat→Nat→Prop) (p:Sl) (dw:Dw) (s:Fr.Sl) (S1:Fr.Å):Prop where
 n1:fds.map Prod.fst=ns
 n2:gs.map Prod.fst=ns
 hb:∀ x,H x→x<S.length
 hd:H dA
 rl:Rl md (fmI dA S H c gs) H1 R p dw s S1
 fv:Ó dA H1 S1 (gs.map Prod.snd) (fds.map Prod.snd)
 s0:s[0]?=some (some (.ref S.length))
def IPS (md:List Nat) (c:Str) (ns:List Str) (b:Fr.Ì) (q:List (Str×W)→Ì):Prop:=
 ∀dA S H gs fds H1 R p dw s S1,IA md c ns dA S H gs fds H1 R p dw s S1→IPo dA S H c (b s S1) (q fds p dw)
section
variable{md:List Nat}{c f:Str}{ns:List Str}{dA:Nat}{S S1 S':Fr.Å}{H H1:Nat→Prop}{gs:List (Str×Fr.W)}{fds:List (Str×W)}{R:Nat→Nat→Prop}{p:Sl}{dw ĥ:Dw}{s:Fr.Sl}
theorem IA.at (a:IA md c ns dA S H gs fds H1 R p dw s S1):S1[S.length]?=some (.ins c gs):=by
 have:=a.rl.fr S.length (by simp) (λ q=>by have:=a.hb dA a.hd;have q:S.length=dA:=q;omega)
 rw[this]
 simp
theorem IA.kd (a:IA md c ns dA S H gs fds H1 R p dw s S1):Kd dA S S1 where
 le:=by have:=a.rl.le;simp at this;omega
 old x h1 h2:=by
  have:=a.rl.fr x (by simp;omega) h2
  rw[this,List.getElem?_append_left h1]
theorem IA.gw {H2:Nat→Prop} {R2:Nat→Nat→Prop} {p2:Sl} {s2:Fr.Sl} {S2:Fr.Å} (a:IA md c ns dA S H gs fds H1 R p dw s S1) (l:Rl md (fmI dA S H c gs) H2 R2 p2 ĥ s2 S2) (g:Gw H1 S1 H2 S2) (k:s2[0]?=s[0]?):IA md c ns dA S H gs fds H2 R2 p2 ĥ s2 S2:=
 {n1:=a.n1,n2:=a.n2,hb:=a.hb,hd:=a.hd,rl:=l,s0:=k.trans a.s0
  fv:=a.fv.of λ x o hx ho=>by
   have hl:=(List.getElem?_eq_some_iff.mp ho).1
   refine ⟨λ q=>?_,by rw[g.old x hl hx];exact ho⟩
   rcases g.nw x q with q|q
   ·exact hx q
   ·omega}
theorem IA.put {w:Fr.W} {d:W} {S2:Fr.Å} (hf:f∉ns) (a:IA md c ns dA S H gs fds H1 R p dw s S1) (k:Kd dA S1 S2) (e:S2[dA]?=some (Fr.oI ĥ)) (v:Vw dA H1 S2 w d):
  IA md c (ns++[f]) dA S H (gs++[(f,w)]) (fds++[(f,d)]) H1 R p ĥ s (S2.set S.length (.ins c (gs++[(f,w)]))):=by
 have l2:Rl md (fmI dA S H c gs) H1 R p ĥ s S2:=a.rl.kd k e
 have ha1:H1 S.length:=l2.h0 S.length (.inr rfl)
 have nd:dA≠S.length:=λ q=>by have:=a.hb dA a.hd;omega
 have hlt:S.length<S2.length:=l2.hb _ ha1
 have up:∀ x o,¬H1 x→S2[x]?=some o→¬H1 x∧(S2.set S.length (.ins c (gs++[(f,w)])))[x]?=some o:=λ x o hx ho=>⟨hx,by
  rw[List.getElem?_set_ne (λ q=>hx (by rw[←q];exact ha1))]
  exact ho⟩
 have fv2:Ó dA H1 S2 (gs.map Prod.snd) (fds.map Prod.snd):=a.fv.kd k (l2.hdA)
 have Ûb:∀ i x,R i x→S.length≠x:=λ i x hr q=>by
  have:=(l2.rh i x hr).2.2
  simp at this
  omega
 refine {n1:=by rw[List.map_append,a.n1];rfl,n2:=by rw[List.map_append,a.n2];rfl,hb:=a.hb,hd:=a.hd,s0:=a.s0,rl:=?_,fv:=?_}
 ·exact {l2 with
   dr:=by rw[List.getElem?_set_ne (Ne.symm nd)];exact l2.dr
   val:=λ i d h1 h2=>by
    obtain ⟨w,h3,h4⟩:=l2.val i d h1 h2
    exact ⟨w,h3,h4.of up⟩
   ÀC:=l2.ÀC
   own:=λ i d h1 h2 z=>by
    obtain ⟨b,o,h3,h4,h5,h6⟩:=l2.own i d h1 h2 z
    exact ⟨b,o,h3,by rw[List.getElem?_set_ne (Ûb i b h5)];exact h4,h5,h6.of up⟩
   deep:=λ i d h1 h2=>by
    obtain ⟨w,h3,h4⟩:=l2.deep i d h1 h2
    exact ⟨w,h3,h4.of λ x o hx ho=>⟨hx,by
     have hr:R i x:=Classical.byContradiction hx
     rw[List.getElem?_set_ne (Ûb i x hr)]
     exact ho⟩⟩
   rh:=λ i x hr=>by
    obtain ⟨h1,h2,h3⟩:=l2.rh i x hr
    exact ⟨h1,h2,by simpa using h3⟩
   hb:=λ x hx=>by rw[List.length_set];exact l2.hb x hx
   h0:=l2.h0
   hn:=λ x hx=>by
    rcases l2.hn x hx with q|q
    ·exact .inl q
    ·exact .inr (by simpa using q)
   b0:=λ x hx=>by have:=l2.b0 x hx;simpa using this
   fr:=λ x h1 h2=>by
    by_cases q:S.length=x
    ·subst q
     rw[List.getElem?_set_self hlt]
     simp
    ·rw[List.getElem?_set_ne q]
     have h1':x<(S++[Fr.Ob.ins c gs]).length:=by simpa using h1
     rw[l2.fr x h1' h2]
     simp only[List.length_append,List.length_singleton] at h1'
     rw[List.getElem?_append_left (by omega),List.getElem?_append_left (by omega)]
   le:=by rw[List.length_set];have:=l2.le;simpa using this}
 ·rw[List.map_append,List.map_append]
  exact (fv2.of up).append (.cons (v.of up) .nil)
theorem IA.set {w:Fr.W} {S2:Fr.Å} {e:Fr.Exp} (hf:f∉ns) (hl:ns.length<900) (a:IA md c ns dA S H gs fds H1 R p dw s S1) (k:Kd dA S1 S2) (he:e s S1=.ok w S2):
  Fr.Éb c f (Fr.À 0) e s S1=.nx s (S2.set S.length (.ins c (gs++[(f,w)]))):=by
 have nd:S.length≠dA:=λ q=>by have:=a.hb dA a.hd;omega
 have hlt:S.length<S1.length:=a.rl.hb _ (a.rl.h0 S.length (.inr rfl))
 have h2:S2[S.length]?=some (.ins c gs):=by rw[k.old _ hlt nd];exact a.at
 have hgl:gs.length<1000:=by have:=congrArg List.length a.n2;simp at this;omega
 unfold Fr.Éb
 rw[Fr.ň,he,Fr.ė,Fr.ň,Fr.Þ4 a.s0,Fr.ė]
 unfold Fr.Íx Fr.ī
 simp only[h2,if_true,if_pos hgl,Fr.Ţ]
 rw[ÑC (by rw[a.n2];exact hf)]
theorem IPS.last {b:Fr.Ì} {q:List (Str×W)→Ì} (h:IPS md c ns (Fr.Æ b Fr.Ñ) q):IPS md c ns b q:=λ dA S H gs fds H1 R p dw s S1 a=>by
 have:=h _ _ _ _ _ _ _ _ _ _ _ a
 have e:Fr.Æ b Fr.Ñ s S1=b s S1:=by
  rw[Fr.seq_eq]
  cases b s S1<;>rfl
 rwa [e] at this
end
end Pu
namespace Fr
open PySem PySem.Spec PyProof.Rows L2
structure ÙR (K:PySem.W.Frag) (x qual:Str) (st:Stmt) (m:Nat) (f:Addr) (fd:FuncData):Prop where
 ex:∃ (oc:Value) (od:Option Addr) (T:Addr) (o:Obj) (its:List Value) (sz:Nat) (kV doc pm:Value) (an:Option Addr) (cdv ct:Value) (osl:Array (Option Value)),
  fd=PySem.W.fnOf x qual (defArgs st) (defBody st) (defScope st) (.ref T) kV doc pm an cdv ct∧K.lookup f=some ⟨oc,od,.func fd,osl⟩∧PySem.W.codeIn K cdv qual=true∧K.lookup T=some o∧o.data=.seq its.toArray sz∧its.length=m
 kp:PySem.W.keepIn K (.ref f)=true
section
variable{P:Program}{w:World}{K:PySem.W.Frag}{mg:Str→Option Value}{base:Heap}
theorem ÙR.okX {x qual:Str} {st:Stmt} {f:Addr} {fd:FuncData} {N ps:List Str} {k n:Nat} {sp:Sp} (F:ÙR K x qual st n f fd) (S:FnScope N ps (defScope st)) (len:∀ vs H Q E,sp vs H Q E→vs.length=ps.length)
  (hbody:∀ (cdv:Value) (A:Around) (outer:List Env) (s:Shared) (H:Hp) (vs:List V) (Q:VK) (E:XK),Room k (A.deeper (envOfC qual (defScope st) s.heap.objs.size f cdv))→sp vs H Q E→
   ∃t,PSs (cxOf (L2.CX P w) P w K mg base N qual (defScope st) f cdv A outer s H E) (defBody st) t∧t {nx:=λ _ H'=>Q .non H',rt:=Q} (start N vs) H):FnOk P w K mg base (L2.CX P w) (k+1) f fd ps sp:=by
 obtain ⟨oc,od,T,o,its,sz,kV,doc,pm,an,cdv,ct,osl,rfl,lk,hcd,_⟩:=F.ex
 exact fn_of lk hcd S len λ A outer s H vs Q E hr hsp=>hbody cdv A outer s H vs Q E hr hsp
theorem ÙR.binds {x qual:Str} {st:Stmt} {f:Addr} {fd:FuncData} {ps:List Str} {m:Nat} (F:ÙR K x qual st m f fd)
  (h:∀ (T:Addr) (kV doc pm:Value) (an:Option Addr) (cdv ct:Value) (us its:List Value),us.length=ps.length→its.length=m→
   ∃k,bindArgs (PySem.W.fnOf x qual (defArgs st) (defBody st) (defScope st) (.ref T) kV doc pm an cdv ct) ⟨us,[]⟩=seqItems? (.ref T) >>= k∧k (some its.toArray)=pure (ps.zip us)):Binds K fd ps []:=by
 obtain ⟨oc,od,T,o,its,sz,kV,doc,pm,an,cdv,ct,osl,rfl,lk,hcd,lT,oT,hm⟩:=F.ex
 refine λ s us X hlen=>?_
 rw[List.append_nil] at hlen ⊢
 obtain ⟨k,e1,e2⟩:=h T kV doc pm an cdv ct us its hlen hm
 refine BindsTo.of_looks λ M=>?_
 rw[e1]
 exact looks_items X lT oT (.of_pure e2)
end
end Fr
namespace Fr
open PySem
section
variable{X:Å}{tb:Nat}{a b:Option W}
end
end Fr
namespace Pu
open PySem
section
variable{dA:Nat}{H:Nat→Prop}{S:Fr.Å}{dw:Dw}
end
end Pu
namespace Fr
open PySem L2
end Fr
namespace Pu
open PySem
section
variable{dA:Nat}{H:Nat→Prop}{S:Fr.Å}{dw:Dw}
end
end Pu
namespace Ty
open PySem Pu
section
variable{α β γ δ ε ζ η σ ρ:Type}
abbrev nI:Int→W:=W.int
abbrev nS:Str→W:=W.str
abbrev nB:Bool→W:=W.bl
abbrev nD:Unit→W:=λ _=>W.dr
abbrev nN:Unit→W:=λ _=>W.non
@[reducible] def nO (e:α→W):Option α→W
 |none=>.non
 |some a=>e a
abbrev nL (e:α→W) (xs:List α):W:=.lst (xs.map e)
abbrev nT (e:α→W) (xs:List α):W:=.tup (xs.map e)
abbrev n0:Unit→W:=λ _=>.tup []
abbrev n1 (a:α→W) (p:α):W:=.tup [a p]
abbrev n2 (a:α→W) (b:β→W) (p:α×β):W:=.tup [a p.1,b p.2]
abbrev n3 (a:α→W) (b:β→W) (c:γ→W) (p:α×β×γ):W:=.tup [a p.1,b p.2.1,c p.2.2]
abbrev n4 (a:α→W) (b:β→W) (c:γ→W) (d:δ→W) (p:α×β×γ×δ):W:=.tup [a p.1,b p.2.1,c p.2.2.1,d p.2.2.2]
abbrev n5 (a:α→W) (b:β→W) (c:γ→W) (d:δ→W) (e:ε→W) (p:α×β×γ×δ×ε):W:=.tup [a p.1,b p.2.1,c p.2.2.1,d p.2.2.2.1,e p.2.2.2.2]
abbrev n6 (a:α→W) (b:β→W) (c:γ→W) (d:δ→W) (e:ε→W) (f:ζ→W) (p:α×β×γ×δ×ε×ζ):W:=.tup [a p.1,b p.2.1,c p.2.2.1,d p.2.2.2.1,e p.2.2.2.2.1,f p.2.2.2.2.2]
abbrev n7 (a:α→W) (b:β→W) (c:γ→W) (d:δ→W) (e:ε→W) (f:ζ→W) (g:η→W) (p:α×β×γ×δ×ε×ζ×η):W:=.tup [a p.1,b p.2.1,c p.2.2.1,d p.2.2.2.1,e p.2.2.2.2.1,f p.2.2.2.2.2.1,g p.2.2.2.2.2.2]
@[reducible] def nU (a:α→W) (b:β→W):α ⊕ β→W
 | .inl x=>a x
 | .inr y=>b y
def emap (f:α→β):Rs α→Rs β
 | .ok a S=>.ok (f a) S
 | .ex c d S=>.ex c d S
 | .bad=>.bad
def em (f:α→β) (m:M α):M β:=λ S=>emap f (m S)
theorem ÃY (f:β→γ) (t:M α) (m:α→M β):em f (bd t m)=bd t λ a=>em f (m a):=by
 funext S
 show emap f (bd t m S)=bd t _ S
 unfold bd
 cases t S<;>rfl
theorem Âl (f:α→β) (t:M α) (m:β→M γ):bd (em f t) m=bd t λ a=>m (f a):=by
 funext S
 unfold bd em
 cases t S<;>rfl
theorem ä (a:α) (m:α→M β):bd (rt a) m=m a:=rfl
theorem Èx (t:M α) (m:α→M β) (n:β→M γ):bd (bd t m) n=bd t λ a=>bd (m a) n:=by
 funext S
 unfold bd
 cases t S<;>rfl
theorem ØP (t:M α):bd t (λ a=>rt a)=t:=by
 funext S
 unfold bd rt
 cases t S<;>rfl
theorem Èl (f:α→β) (c:Prop) [Decidable c] (a b:M α):em f (if c then a else b)=if c then em f a else em f b:=by
 by_cases h:c<;>simp[h]
abbrev K:=List (Option W)
def Ag:K→Sl→Prop
 | [],[]=>True
 |none::k,_::s=>Ag k s
 |some w::k,x::s=>x=some w∧Ag k s
 |_,_=>False
theorem Ag.get:∀ {k:K} {s:Sl} {i:Nat} {w:W},Ag k s→k[i]?=some (some w)→s[i]?=some (some w)
 | [],_,_,_,_,h=>by simp at h
 |none::k,[],_,_,h,_=>h.elim
 |some _::k,[],_,_,h,_=>h.elim
 |none::k,x::s,0,w,_,h=>by simp at h
 |none::k,x::s,i+1,w,a,h=>by
  have a':Ag k s:=a
  simp only[List.getElem?_cons_succ] at h ⊢
  exact a'.get h
 |some v::k,x::s,0,w,a,h=>by
  simp only[List.getElem?_cons_zero,Option.some.injEq] at h ⊢
  rw[←h];exact a.1
 |some v::k,x::s,i+1,w,a,h=>by
  simp only[List.getElem?_cons_succ] at h ⊢
  exact Ag.get a.2 h
theorem Ag.set:∀ {k:K} {s:Sl} {i:Nat} {w:W},Ag k s→Ag (k.set i (some w)) (s.set i (some w))
 | [],[],_,_,_=>trivial
 | [],_::_,_,_,h=>h.elim
 |none::k,[],_,_,h=>h.elim
 |some _::k,[],_,_,h=>h.elim
 |none::k,x::s,0,w,a=>⟨rfl,a⟩
 |none::k,x::s,i+1,w,a=>Ag.set (k:=k) (s:=s) a
 |some v::k,x::s,0,w,a=>⟨rfl,a.2⟩
 |some v::k,x::s,i+1,w,a=>⟨a.1,Ag.set a.2⟩
theorem Ag.wipe:∀ {k:K} {s:Sl} {i:Nat} {w:Option W},Ag k s→Ag (k.set i none) (s.set i w)
 | [],[],_,_,_=>trivial
 | [],_::_,_,_,h=>h.elim
 |none::k,[],_,_,h=>h.elim
 |some _::k,[],_,_,h=>h.elim
 |none::k,x::s,0,w,a=>a
 |none::k,x::s,i+1,w,a=>Ag.wipe (k:=k) (s:=s) a
 |some v::k,x::s,0,w,a=>a.2
 |some v::k,x::s,i+1,w,a=>⟨a.1,Ag.wipe a.2⟩
inductive Le:K→K→Prop
 |nil:Le [] []
 |sk {a b:K} {y:Option W}:Le a b→Le (none::a) (y::b)
 |eq {a b:K} {y:W}:Le a b→Le (some y::a) (some y::b)
theorem Le.ag {a b:K} (h:Le a b):∀ {s:Sl},Ag b s→Ag a s:=by
 induction h with
 |nil=>intro s h;exact h
 | @sk a b y _ ih=>
  intro s h
  cases s with
  |nil=>cases y<;>exact h.elim
  |cons x s=>
   cases y with
   |none=>exact ih (s:=s) h
   |some v=>exact ih (s:=s) h.2
 |eq _ ih=>
  intro s h
  cases s with
  |nil=>exact h.elim
  |cons x s=>exact ⟨h.1,ih h.2⟩
theorem Le.set {x k:K} (h:Le x k):∀ {i:Nat} {y:Option W},x[i]?=some none→Le x (k.set i y):=by
 induction h with
 |nil=>intro i y hx;simp at hx
 |sk h ih=>
  intro i y hx
  cases i with
  |zero=>exact .sk h
  |succ i=>exact .sk (ih (by simpa using hx))
 |eq h ih=>
  intro i y hx
  cases i with
  |zero=>simp at hx
  |succ i=>exact .eq (ih (by simpa using hx))
theorem Ag.len:∀ {k:K} {s:Sl},Ag k s→k.length=s.length
 | [],[],_=>rfl
 | [],_::_,h=>h.elim
 |none::k,[],h=>h.elim
 |some _::k,[],h=>h.elim
 |none::k,x::s,a=>by simp[Ag.len (k:=k) (s:=s) a]
 |some v::k,x::s,a=>by simp[Ag.len a.2]
theorem ÐU:∀ (ws:List W) (n:Nat),Ag (ws.map some++List.replicate n none) (ws.map some++List.replicate n none)
 | [],0=>trivial
 | [],n+1=>ÐU [] n
 |w::ws,n=>⟨rfl,ÐU ws n⟩
def TE (k:K) (e:Exp) (m:M α) (en:α→W):Prop:=∀ s,Ag k s→e s=em en m
def TP (k:K) (e:Exp) (w:W):Prop:=∀ s,Ag k s→e s=rt w
def TT (k:K) (t:ï) (m:M Bool):Prop:=∀ s,Ag k s→t s=m
def TQ (k:K) (t:ï) (b:Bool):Prop:=∀ s,Ag k s→t s=rt b
def TA {θ:Type} (k:K) (a:Pu.Arg) (F:List W→M θ) (m:M α) (en:α→θ):Prop:=∀ s,Ag k s→bd (a s) F=em en m
def TPs (k:K) (a:Pu.Arg) (ws:List W):Prop:=∀ s,Ag k s→a s=rt ws
def TO (k:K) (o:Sl→M (Option Int)) (i:Option Int):Prop:=∀ s,Ag k s→o s=rt i
def TI (k:K) (it:Sl→M (List W)) (m:M (List α)) (en:α→W):Prop:=∀ s,Ag k s→it s=em (List.map en) m
variable{k:K}{e e1 e2 o:Exp}{w x y z:W}{i:Nat}{a:Pu.Arg}{F:List W→M W}{m:M α}{en:α→W}{ea:β→W}
theorem v (h:k[i]?=some (some w)):TP k (À i) w:=λ s g=>by
 funext S
 show (match s[i]? with
  |some (some w)=>Rs.ok w S
  |_=>.bad)=_
 rw[g.get h]
 rfl
theorem c:TP k (eC w) w:=λ _ _=>rfl
theorem p2 {op:W→W→M W} (h:op x y=rt z) (h1:TP k e1 x) (h2:TP k e2 y):TP k (É op e1 e2) z:=λ s g=>by
 show bd (e1 s) (λ x=>bd (e2 s) λ y=>op x y)=_
 rw[h1 s g,h2 s g]
 exact h
theorem p1 {op:W→M W} (h:op x=rt z) (h1:TP k e x):TP k (eUn op e) z:=λ s g=>by
 show bd (e s) op=_
 rw[h1 s g]
 exact h
theorem àH {o o':W→W→M W} {e3:Exp} {b b':Bool} (q1:o x y=rt (.bl b)) (q2:o' y z=rt (.bl b')) (h1:TP k e1 x) (h2:TP k e2 y) (h3:TP k e3 z):TP k (ÃO o o' e1 e2 e3) (.bl (b&&b')):=λ s g=>by
 show bd (e1 s) _=_
 rw[h1 s g]
 show bd (e2 s) _=_
 rw[h2 s g]
 show bd (o x y) _=_
 rw[q1]
 show (if b=true then bd (e3 s) (o' y) else rt (.bl false))=_
 cases b with
 |false=>rfl
 |true=>rw[if_pos rfl,h3 s g];exact q2
theorem pif {t:ï} {b:Bool} {p q:α} (hc:TQ k t b) (h1:TP k e1 (en p)) (h2:TP k e2 (en q)):TP k (eIf t e1 e2) (en (bif b then p else q)):=λ s g=>by
 show bd (t s) _=_
 rw[hc s g]
 show (if b=true then e1 s else e2 s)=_
 cases b with
 |true=>exact h1 s g
 |false=>exact h2 s g
theorem psN:TPs k Ä []:=λ _ _=>rfl
theorem Ŀ {ws:List W} (h1:TP k e w) (h2:TPs k a ws):TPs k (Á e a) (w::ws):=λ s g=>by
 show bd (e s) (λ x=>bd (a s) λ xs=>rt (x::xs))=_
 rw[h1 s g,h2 s g]
 rfl
theorem sz {n:Nat} (h:n.ble 1000=true):n≤sizeLine:=by
 have:=Nat.le_of_ble_eq_true h
 have:(1000:Nat)≤sizeLine:=by decide
 omega
theorem tu {ws:List W} (h:TPs k a ws) (l:ws.length.ble 1000=true):TP k (ô a) (.tup ws):=λ s g=>by
 show bd (a s) _=_
 rw[h s g]
 show (if ws.length≤sizeLine then rt (W.tup ws) else bad)=_
 rw[if_pos (sz l)]
theorem li {ws:List W} (h:TPs k a ws) (l:ws.length.ble 1000=true):TP k (ĩ a) (.lst ws):=λ s g=>by
 show bd (a s) _=_
 rw[h s g]
 show (if ws.length≤sizeLine then rt (W.lst ws) else bad)=_
 rw[if_pos (sz l)]
theorem pb {f:List W→M W} {ws:List W} (q:f ws=rt z) (h:TPs k a ws):TP k (eB f a) z:=λ s g=>by
 show bd (a s) f=_
 rw[h s g]
 exact q
theorem pfl {c f:Str} {fs:List (Str×W)} (h:TP k e (.ob c fs)) (q:fs.lookup f=some w):TP k (ÁJ c f e) w:=λ s g=>by
 show bd (e s) _=_
 rw[h s g]
 show ÑB (ī (.ob c fs) c) (λ fs=>Ŭ (fs.lookup f))=_
 have:ī (.ob c fs) c=some fs:=by unfold ī;simp
 rw[this]
 show Ŭ (fs.lookup f)=_
 rw[q]
 rfl
theorem oN:TO k È5 none:=λ _ _=>rfl
theorem oS {j:Int} (h:TP k e (.int j)):TO k (Ès e) (some j):=λ s g=>by
 show bd (e s) _=_
 rw[h s g]
 rfl
theorem pof (h:TP k e w) (q:w=z):TP k e z:=q▸h
theorem pe {x:α} (h:TP k e (en x)):TE k e (rt x) en:=λ s g=>(h s g).trans rfl
theorem an {θ:Type} {F:List W→M θ} {en:α→θ} (h:F []=em en m):TA k Ä F m en:=λ s _=>h
theorem ac {θ:Type} {F:List W→M θ} {en:α→θ} (h1:TP k e w) (h2:TA k a (λ xs=>F (w::xs)) m en):TA k (Á e a) F m en:=λ s g=>by
 show bd (bd (e s) λ x=>bd (a s) λ xs=>rt (x::xs)) F=_
 rw[h1 s g,ä,Èx]
 exact h2 s g
theorem am {θ:Type} {F:List W→M θ} {en:α→θ} {t:M β} {m:β→M α} (h1:TE k e t ea) (h2:∀ b,TA k a (λ xs=>F (ea b::xs)) (m b) en):TA k (Á e a) F (bd t m) en:=λ s g=>by
 show bd (bd (e s) λ x=>bd (a s) λ xs=>rt (x::xs)) F=_
 rw[h1 s g,Âl,Èx,ÃY]
 congr 1
 funext b
 rw[Èx]
 exact h2 b s g
def f2 (op:W→W→M W):List W→M W
 | [x,y]=>op x y
 |_=>bad
def f1 (op:W→M W):List W→M W
 | [x]=>op x
 |_=>bad
theorem f2t {op:W→W→M W} {z:α} (h:op x y=rt (en z)):f2 op [x,y]=em en (rt z):=h
theorem fbt {θ:Type} {f:List W→M θ} {ws:List W} {z:α} {en:α→θ} (h:f ws=rt (en z)):f ws=em en (rt z):=h
theorem o2 {op:W→W→M W} (h:TA k (Á e1 (Á e2 Ä)) (f2 op) m en):TE k (É op e1 e2) m en:=λ s g=>by
 rw[←h s g]
 show bd (e1 s) (λ x=>bd (e2 s) λ y=>op x y)=bd (bd (e1 s) λ x=>bd (bd (e2 s) λ y=>bd (rt []) λ xs=>rt (y::xs)) λ xs=>rt (x::xs)) (f2 op)
 rw[Èx]
 congr 1
 funext x
 rw[Èx,Èx]
 rfl
theorem o1 {op:W→M W} (h:TA k (Á e Ä) (f1 op) m en):TE k (eUn op e) m en:=λ s g=>by
 rw[←h s g]
 show bd (e s) op=bd (bd (e s) λ x=>bd (rt []) λ xs=>rt (x::xs)) (f1 op)
 rw[Èx]
 rfl
theorem ca {F:Fn} (h:TA k a F m en):TE k (Ò F a) m en:=h
theorem cb {F:List W→M W} (h:TA k a F m en):TE k (eB F a) m en:=h
def àJ (xs:List W):M W:=if xs.length≤sizeLine then rt (.tup xs) else bad
def Üq (xs:List W):M W:=if xs.length≤sizeLine then rt (.lst xs) else bad
theorem ctu (h:TA k a àJ m en):TE k (ô a) m en:=h
theorem cli (h:TA k a Üq m en):TE k (ĩ a) m en:=h
theorem ÍH {ws:List W} (l:ws.length.ble 1000=true):àJ ws=rt (.tup ws):=if_pos (sz l)
theorem Ót {ws:List W} (l:ws.length.ble 1000=true):Üq ws=rt (.lst ws):=if_pos (sz l)
theorem me {c mm:Str} {F:Fn} {fs:List (Str×W)} (h:TP k o (.ob c fs)) (q:fs.lookup mm=none) (ha:TA k a (λ ws=>F (.ob c fs::ws)) m en):TE k (å c mm F o a) m en:=λ s g=>by
 show bd (o s) _=_
 rw[h s g]
 show ÑB (ī (.ob c fs) c) (λ fs'=>ÐK (fs'.lookup mm) (bd (a s) λ ws=>F (.ob c fs::ws)))=_
 have:ī (.ob c fs) c=some fs:=by unfold ī;simp
 rw[this]
 show ÐK (fs.lookup mm) _=_
 rw[q]
 exact ha s g
theorem andM {m m':M Bool} (h1:TE k e1 m nB) (h2:TE k e2 m' nB):TE k (Ãn e1 e2) (bd m λ b=>if b=true then m' else rt false) nB:=λ s g=>by
 show bd (e1 s) _=_
 rw[h1 s g,Âl,ÃY]
 congr 1
 funext b
 cases b with
 |true=>exact h2 s g
 |false=>rfl
theorem chM {o o':W→W→M W} {e3:Exp} {t1 t2 t3:M α} {b:α→α→Bool} {b':α→α→Bool} (q1:∀ p q,o (en p) (en q)=rt (.bl (b p q))) (q2:∀ p q,o' (en p) (en q)=rt (.bl (b' p q))) (h1:TE k e1 t1 en) (h2:TE k e2 t2 en) (h3:TE k e3 t3 en):
  TE k (ÃO o o' e1 e2 e3) (bd t1 λ p=>bd t2 λ q=>if b p q=true then bd t3 λ r=>rt (b' q r) else rt false) nB:=λ s g=>by
 show bd (e1 s) _=_
 rw[h1 s g,Âl,ÃY]
 congr 1;funext p
 rw[h2 s g,Âl,ÃY]
 congr 1;funext q
 rw[q1,ä]
 show (if b p q=true then bd (e3 s) (o' (en q)) else rt (.bl false))=_
 by_cases hb:b p q=true
 ·rw[if_pos hb,if_pos hb,h3 s g,Âl,ÃY]
  congr 1;funext r
  exact q2 q r
 ·rw[if_neg hb,if_neg hb];rfl
theorem qB {b:Bool} (h:TP k e (.bl b)):TQ k (tB e) b:=λ s g=>by
 show bd (e s) _=_
 rw[h s g]
 rfl
theorem tBm {m:M Bool} (h:TE k e m nB):TT k (tB e) m:=λ s g=>by
 show bd (e s) _=_
 rw[h s g,Âl]
 exact ØP m
theorem tVm {t:M β} {b:β→Bool} (h:TE k e t ea) (q:∀ x,Ç9 (ea x)=some (b x)):TT k (tV e) (bd t λ x=>rt (b x)):=λ s g=>by
 show bd (e s) _=_
 rw[h s g,Âl]
 congr 1;funext x
 rw[q];rfl
variable{t t1 t2:ï}
theorem qt {b:Bool} (h:TQ k t b):TT k t (rt b):=h
theorem qOr {b b':Bool} (h1:TQ k t1 b) (h2:TQ k t2 b'):TQ k (tOr t1 t2) (b||b'):=λ s g=>by
 show bd (t1 s) _=_
 rw[h1 s g]
 cases b with
 |true=>rfl
 |false=>exact h2 s g
theorem ãj {b:Bool} (h:TQ k t b):TQ k (tNot t) (!b):=λ s g=>by
 show bd (t s) _=_
 rw[h s g]
 rfl
theorem qYs:TQ k tYs true:=λ _ _=>rfl
theorem âf {m m':M Bool} (h1:TT k t1 m) (h2:TT k t2 m'):TT k (tAnd t1 t2) (bd m λ b=>if b=true then m' else rt false):=λ s g=>by
 show bd (t1 s) _=_
 rw[h1 s g]
 congr 1
 funext b
 rw[h2 s g]
theorem àK {m m':M Bool} (h1:TT k t1 m) (h2:TT k t2 m'):TT k (tOr t1 t2) (bd m λ b=>if b=true then rt true else m'):=λ s g=>by
 show bd (t1 s) _=_
 rw[h1 s g]
 congr 1
 funext b
 rw[h2 s g]
theorem ÇT {m:M Bool} (h:TT k t m):TT k (tNot t) (bd m λ b=>rt !b):=λ s g=>by
 show bd (t s) _=_
 rw[h s g]
end
end Ty
namespace Ty
open PySem Pu
section
variable{α β γ σ ρ τ θ:Type}
variable{k:K}{e e1 e2 o:Exp}{w x y z:W}{i:Nat}{a:Pu.Arg}{m:M α}{en:α→W}{ea:β→W}{it:Sl→M (List W)}{g:Ā}{tt:ï}
def ŭ (lo:Int) (n:Nat):List Int:=(List.range n).map λ (k:Nat)=>lo+(k:Int)
def rgT (j:Int):M (List Int):=if Fr.inR 4611686018427387903 j=true then rt (ŭ 0 j.toNat) else bad
theorem àL (lo:Int) (n:Nat):rng lo n=(ŭ lo n).map nI:=by
 unfold rng ŭ
 rw[List.map_map]
 rfl
theorem ÏI (j:Int):Ía [.int j]=em (List.map nI) (rgT j):=by
 show (if _ then rt _ else bad)=_
 unfold rgT
 rw[Èl]
 rw[àL]
 rfl
theorem ir1 {m:M (List α)} (h:TA k a Ía m (List.map en)):TI k (iR1 a) m en:=h
theorem ieL {xs:List α} (h:TP k e (nL en xs)):TI k (iE e) (rt xs) en:=λ s g=>by
 show bd (e s) _=_
 rw[h s g]
 rfl
theorem ieT {xs:List α} (h:TP k e (nT en xs)):TI k (iE e) (rt xs) en:=λ s g=>by
 show bd (e s) _=_
 rw[h s g]
 rfl
theorem ÑF {t:M (List α)} (h:TE k e t (nL en)):TI k (iE e) t en:=λ s g=>by
 show bd (e s) _=_
 rw[h s g,Âl]
 funext S
 unfold bd em
 cases t S<;>rfl
def chars (x:Str):List Str:=x.cps.toList.map λ c=>⟨#[c]⟩
theorem ieS {x:Str} (h:TP k e (.str x)):TI k (iE e) (rt (chars x)) nS:=λ s g=>by
 show bd (e s) _=_
 rw[h s g]
 show rt (x.cps.toList.map Æ5)=rt ((x.cps.toList.map λ c=>(⟨#[c]⟩:Str)).map nS)
 rw[List.map_map]
 rfl
def sset (s:Sl) (l:List (Nat×W)):Sl:=l.foldl (λ s p=>s.set p.1 (some p.2)) s
def Ãx (k:K) (l:List (Nat×W)):K:=l.foldl (λ s p=>s.set p.1 (some p.2)) k
theorem ÍJ:∀ {l:List (Nat×W)} {k:K} {s:Sl},Ag k s→Ag (Ãx k l) (sset s l)
 | [],_,_,h=>h
 |p::l,k,s,h=>ÍJ (l:=l) h.set
def TG (g:Ā) (en:α→W) (l:α→List (Nat×W)):Prop:=∀ a s,g (en a) s=some (sset s (l a))
def Îv (k:K):List Nat→K
 | []=>k
 |v::vs=>(Îv k vs).set v none
theorem ØR {k:K} {s:Sl}:∀ {vs:List Nat},Ag k s→Ag (Îv k vs) (Ě s vs)
 | [],h=>h
 |v::vs,h=>(ØR (vs:=vs) h).wipe
def szM (n:Nat) (v:α):M α:=if n≤sizeLine then rt v else bad
def lcT (c:α→M Bool) (f:α→M β):List α→M (List β)
 | []=>rt []
 |y::ys=>bd (c y) λ b=>if b=true then bd (f y) λ v=>bd (lcT c f ys) λ r=>rt (v::r) else lcT c f ys
def lcM (c:α→M Bool) (f:α→M β) (ys:List α):M (List β):=if ys.length≤sizeLine then noX (lcT c f ys) else bad
theorem àM (f:α→β) (m:M α):noX (em f m)=em f (noX m):=by
 funext S
 show noX (em f m) S=emap f (noX m S)
 unfold noX em
 cases m S<;>rfl
theorem lcm {t:M (List α)} {l:α→List (Nat×W)} {c:α→M Bool} {f:α→M β} {vs:List Nat} (hi:TI k it t en) (hg:TG g en l) (hc:∀ a,TT (Ãx (Îv k vs) (l a)) tt (c a)) (he:∀ a,TE (Ãx (Îv k vs) (l a)) e (f a) ea):
  TE k (eLc it g tt e vs) (bd t λ ys=>lcM c f ys) (nL ea):=λ s ag=>by
 show bd (it s) _=_
 rw[hi s ag,Âl,ÃY]
 congr 1
 funext ys
 rw[List.length_map]
 unfold lcM
 rw[Èl]
 by_cases h:ys.length≤sizeLine
 ·rw[if_pos h,if_pos h]
  have key:∀ zs:List α,lcV g tt e (Ě s vs) (zs.map en)=em (List.map ea) (lcT c f zs):=by
   intro zs
   induction zs with
   |nil=>rfl
   |cons z zs ih=>
    show lcG g tt e (Ě s vs) (en z) _=_
    unfold lcG
    rw[hg z]
    have ag2:=ÍJ (l:=l z) (ØR (vs:=vs) ag)
    show bd (tt (sset (Ě s vs) (l z))) _=_
    rw[hc z _ ag2]
    show _=em _ (bd (c z) _)
    rw[ÃY]
    congr 1
    funext b
    cases b with
    |true=>
     simp only[if_true]
     rw[he z _ ag2,Âl,ÃY]
     congr 1
     funext v
     rw[ih,Âl,ÃY]
     rfl
    |false=>
     simp only[Bool.false_eq_true,if_false]
     rw[ih,Âl]
     funext S
     unfold bd em
     cases lcT c f zs S<;>simp[emap,rt]
  rw[key ys,àM,Âl]
  funext S
  unfold bd em
  cases noX (lcT c f ys) S<;>rfl
 ·rw[if_neg h,if_neg h];rfl
theorem Üs {c:α→Bool} {f:α→β} (ys:List α):lcT (λ a=>rt (c a)) (λ a=>rt (f a)) ys=rt ((ys.filter c).map f):=by
 induction ys with
 |nil=>rfl
 |cons y ys ih=>
  show bd (rt (c y)) _=_
  rw[ä]
  cases h:c y with
  |true=>rw[if_pos rfl,ä,ih,ä,List.filter_cons_of_pos h,List.map_cons]
  |false=>rw[if_neg (by simp),ih,List.filter_cons_of_neg (by simp[h])]
theorem lcp {t:M (List α)} {l:α→List (Nat×W)} {c:α→Bool} {f:α→β} {vs:List Nat} (hi:TI k it t en) (hg:TG g en l) (hc:∀ a,TQ (Ãx (Îv k vs) (l a)) tt (c a)) (he:∀ a,TP (Ãx (Îv k vs) (l a)) e (ea (f a))):
  TE k (eLc it g tt e vs) (bd t λ ys=>szM ys.length ((ys.filter c).map f)) (nL ea):=λ s ag=>by
 rw[lcm hi hg (c:=λ a=>rt (c a)) (f:=λ a=>rt (f a)) (ea:=ea) hc (λ a=>pe (he a)) s ag]
 congr 2
 funext ys
 unfold lcM szM
 rw[Üs]
 rfl
theorem lc0 {t:M (List α)} {l:α→List (Nat×W)} {f:α→β} {vs:List Nat} (hi:TI k it t en) (hg:TG g en l) (he:∀ a,TP (Ãx (Îv k vs) (l a)) e (ea (f a))):
  TE k (eLc it g tYs e vs) (bd t λ ys=>szM ys.length (ys.map f)) (nL ea):=λ s ag=>by
 rw[lcp hi hg (c:=λ _=>true) (f:=f) (ea:=ea) (λ a=>qYs) he s ag]
 congr 2
 funext ys
 have:(ys.filter λ _=>true)=ys:=List.filter_eq_self.mpr λ _ _=>rfl
 rw[this]
theorem caF {F:Fn} (hf:∀ v,flat (en v)=true) (h:TA k a F m en):TE k (Ïy F a) m en:=λ s g=>by
 show bd (a s) (λ xs=>bd (F xs) λ w=>if flat w=true then rt w else bad)=_
 rw[←Èx,h s g,Âl]
 have:(λ a=>if flat (en a)=true then rt (en a) else bad)=λ a=>em en (rt a):=by
  funext a
  rw[if_pos (hf a)]
  rfl
 rw[this,←ÃY,ØP]
inductive Esc (σ ρ:Type) where
 |nx (a:σ)
 |rt (r:ρ)
def Xok (X:Option K) (s:Sl):Prop:=match X with
 |none=>True
 |some k=>Ag k s
def LeX (X:Option K) (k:K):Prop:=match X with
 |none=>True
 |some x=>Le x k
def NX (X:Option K) (i:Nat):Prop:=match X with
 |none=>True
 |some x=>x[i]?=some none
theorem LeX.ok {X:Option K} {k:K} {s:Sl} (h:LeX X k) (g:Ag k s):Xok X s:=by
 cases X with
 |none=>trivial
 |some x=>exact Le.ag h g
theorem LeX.set {X:Option K} {k:K} {i:Nat} {y:Option W} (h:LeX X k) (n:NX X i):LeX X (k.set i y):=by
 cases X with
 |none=>trivial
 |some x=>exact Le.set h n
structure Mode (α:Type) where
 rel:RS→Rs α→Prop
 X:Option K
 hx:∀ c d s S,Xok X s→rel (.ex c d s S) (.ex c d S)
 hb:rel .bad .bad
def rN (X:Option K) (E:σ→K) (r:RS) (q:Rs σ):Prop:=match q with
 | .ok a S'=>∃ s',r=.nx s' S'∧Ag (E a) s'
 | .ex c d S'=>∃ s',r=.ex c d s' S'∧Xok X s'
 | .bad=>r=.bad
def rX (X:Option K) (E:σ→K) (en:ρ→W) (r:RS) (q:Rs (Esc σ ρ)):Prop:=match q with
 | .ok (.nx a) S'=>∃ s',r=.nx s' S'∧Ag (E a) s'
 | .ok (.rt v) S'=>r=.rt (en v) S'
 | .ex c d S'=>∃ s',r=.ex c d s' S'∧Xok X s'
 | .bad=>r=.bad
def rR (X:Option K) (en:ρ→W) (r:RS) (q:Rs ρ):Prop:=match q with
 | .ok v S'=>r=.rt (en v) S'∨∃ s',r=.nx s' S'∧en v=.non
 | .ex c d S'=>∃ s',r=.ex c d s' S'∧Xok X s'
 | .bad=>r=.bad
def mN (X:Option K) (E:σ→K):Mode σ:=⟨rN X E,X,λ _ _ s _ h=>⟨s,rfl,h⟩,rfl⟩
def mX (X:Option K) (E:σ→K) (en:ρ→W):Mode (Esc σ ρ):=⟨rX X E en,X,λ _ _ s _ h=>⟨s,rfl,h⟩,rfl⟩
def mR (X:Option K) (en:ρ→W):Mode ρ:=⟨rR X en,X,λ _ _ s _ h=>⟨s,rfl,h⟩,rfl⟩
def TS (mo:Mode α) (k:K) (b:Ì) (m:M α):Prop:=LeX mo.X k→∀ s S,Ag k s→mo.rel (b s S) (m S)
variable{mo:Mode γ}{b rest st A B:Ì}{X:Option K}{E:σ→K}{er:ρ→W}
theorem Åv {r:Rs θ} {s:Sl} {f:θ→Dw→RS}:Ă (â r s f) rest=â r s λ w S=>Ă (f w S) rest:=by
 cases r<;>rfl
theorem ÆD {t:M β} {m:β→M γ} {s:Sl} {S:Dw} {ee:M θ} {eθ:β→θ} {f:θ→Dw→RS} (he:ee=em eθ t) (hx:Xok mo.X s) (h:∀ v S',mo.rel (f (eθ v) S') (m v S')):mo.rel (â (ee S) s f) (bd t m S):=by
 rw[he]
 show mo.rel (â (emap eθ (t S)) s f) (match t S with
  | .ok a S'=>m a S'
  | .ex c d S'=>.ex c d S'
  | .bad=>.bad)
 cases t S with
 |ok v S'=>exact h v S'
 |ex c d S'=>exact mo.hx c d s S' hx
 |bad=>exact mo.hb
theorem ÁI {t:M β} {m:β→M γ} (he:TE k e t ea) (hx:NX mo.X i) (h:∀ v,TS mo (k.set i (some (ea v))) rest (m v)):TS mo k (Æ (Ô i e) rest) (bd t m):=λ l s S g=>by
 show mo.rel (Ă (â (e s S) s _) rest) _
 rw[Åv]
 exact ÆD (he s g) (l.ok g) λ v S'=>h v (l.set hx) _ _ g.set
theorem Êu {m:M γ} (he:TP k e w) (hx:NX mo.X i) (h:TS mo (k.set i (some w)) rest m):TS mo k (Æ (Ô i e) rest) m:=λ l s S g=>by
 show mo.rel (Ă (â (e s S) s _) rest) _
 rw[he s g]
 exact h (l.set hx) _ _ g.set
theorem àO {t:M (List β)} {m:List β→M γ} (he:TE k e t (nL ea)) (hx:NX mo.X i) (h:∀ v,TS mo (k.set i (some (nL ea v))) rest (m v)):TS mo k (Æ (Îd i e) rest) (bd t m):=λ l s S g=>by
 show mo.rel (Ă (â (e s S) s _) rest) _
 rw[Åv]
 exact ÆD (he s g) (l.ok g) λ v S'=>h v (l.set hx) _ _ g.set
theorem Ûf {m:M γ} {ws:List W} (he:TP k e (.lst ws)) (hx:NX mo.X i) (h:TS mo (k.set i (some (.lst ws))) rest m):TS mo k (Æ (Îd i e) rest) m:=λ l s S g=>by
 show mo.rel (Ă (â (e s S) s _) rest) _
 rw[he s g]
 exact h (l.set hx) _ _ g.set
theorem Ìd {t:M β} {m:M γ} (he:TE k e t ea) (h:TS mo k rest m):TS mo k (Æ (ġ e) rest) (bd t λ _=>m):=λ l s S g=>by
 show mo.rel (Ă (â (e s S) s _) rest) _
 rw[Åv]
 exact ÆD (he s g) (l.ok g) λ v S'=>h l _ _ g
theorem ÃZ {m:M γ} (h:TS mo k (Æ st Ñ) m):TS mo k st m:=λ l s S g=>by
 have:=h l s S g
 have e:Æ st Ñ s S=st s S:=by
  show Ă (st s S) Ñ=st s S
  cases st s S<;>rfl
 rwa [e] at this
theorem àP {m:M γ} (h:TS mo k (Æ A (Æ B rest)) m):TS mo k (Æ (Æ A B) rest) m:=λ l s S g=>by
 have:=h l s S g
 have e:Æ A (Æ B rest) s S=Æ (Æ A B) rest s S:=by
  show Ă (A s S) (Æ B rest)=Ă (Ă (A s S) B) rest
  cases A s S<;>rfl
 rwa [e] at this
theorem ÄT {m:M γ} (h:TS mo k rest m):TS mo k (Æ Ñ rest) m:=λ l s S g=>h l s S g
theorem ÈC {c:ï} {q:Bool} {ma mb:M γ} (hc:TQ k c q) (ha:q=true→TS mo k A ma) (hb:q=false→TS mo k B mb):TS mo k (Ù c A B) (if q=true then ma else mb):=λ l s S g=>by
 show mo.rel (â (c s S) s _) _
 rw[hc s g]
 show mo.rel (if q=true then A s S else B s S) _
 cases q with
 |true=>exact ha rfl l s S g
 |false=>exact hb rfl l s S g
theorem Çc {c:ï} {t:M Bool} {ma mb:M γ} (hc:TT k c t) (ha:TS mo k A ma) (hb:TS mo k B mb):TS mo k (Ù c A B) (bd t λ q=>if q=true then ma else mb):=λ l s S g=>by
 show mo.rel (â (c s S) s _) _
 refine ÆD (eθ:=id) (t:=t) ?_ (l.ok g) λ q S'=>?_
 ·rw[hc s g]
  funext S
  unfold em
  cases t S<;>rfl
 ·cases q with
  |true=>exact ha l s S' g
  |false=>exact hb l s S' g
theorem Çz {c:ï} {m:M γ} (h:TS mo k (Ù c (Æ A rest) (Æ B rest)) m):TS mo k (Æ (Ù c A B) rest) m:=λ l s S g=>by
 have:=h l s S g
 have e:Ù c (Æ A rest) (Æ B rest) s S=Æ (Ù c A B) rest s S:=by
  show â (c s S) s _=Ă (â (c s S) s _) rest
  rw[Åv]
  congr 1
  funext q S'
  cases q<;>rfl
 rwa [e] at this
theorem àQ {c c':ï} {m:M γ} (h:TS mo k (Ù c (Ù c' A B) B) m):TS mo k (Ù (tAnd c c') A B) m:=λ l s S g=>by
 have:=h l s S g
 have e:Ù c (Ù c' A B) B s S=Ù (tAnd c c') A B s S:=by
  show â (c s S) s _=â (bd (c s) _ S) s _
  unfold bd
  cases c s S with
  |ok q S'=>cases q<;>rfl
  |ex=>rfl
  |bad=>rfl
 rwa [e] at this
class Nn (en:α→W):Prop where
 nn:∀ a,en a≠.non
theorem àR [q:Nn en] (a:α):œ (en a) .non=rt (.bl false):=by
 have:=q.nn a
 cases h:en a<;>first|rfl|exact (this h).elim
theorem Ûg [q:Nn en] (a:α):ā (en a) .non=rt (.bl true):=by
 have:=q.nn a
 cases h:en a<;>first|rfl|exact (this h).elim
theorem Ý7 [Nn en] (o:Option α):œ (nO en o) .non=rt (.bl o.isNone):=by
 cases o with
 |none=>rfl
 |some a=>exact àR a
theorem ÑG [Nn en] (o:Option α):ā (nO en o) .non=rt (.bl o.isSome):=by
 cases o with
 |none=>rfl
 |some a=>exact Ûg a
def Ê8 (v:Option α) (n:M γ) (s:α→M γ):M γ:=match v with
 |none=>n
 |some a=>s a
theorem Üt {v:Option α} [Nn en] {ma:M γ} {mb:α→M γ} (hv:TP k e (nO en v)) (ha:v=none→TS mo k A ma) (hb:∀ a,v=some a→TS mo k B (mb a)):
  TS mo k (Ù (tB (É œ e (eC .non))) A B) (Ê8 v ma mb):=λ l s S g=>by
 show mo.rel (â ((tB (É œ e (eC .non))) s S) s _) _
 rw[qB (p2 (Ý7 v) hv c) s g]
 cases v with
 |none=>exact ha rfl l s S g
 |some a=>exact hb a rfl l s S g
theorem âg {v:Option α} [Nn en] {ma:M γ} {mb:α→M γ} (hv:TP k e (nO en v)) (hb:∀ a,v=some a→TS mo k A (mb a)) (ha:v=none→TS mo k B ma):
  TS mo k (Ù (tB (É ā e (eC .non))) A B) (Ê8 v ma mb):=λ l s S g=>by
 show mo.rel (â ((tB (É ā e (eC .non))) s S) s _) _
 rw[qB (p2 (ÑG v) hv c) s g]
 cases v with
 |none=>exact ha rfl l s S g
 |some a=>exact hb a rfl l s S g
theorem kRw {kf:Option α→K} {v:Option α} {o:α} {m:M γ} {st:Ì} (h:v=some o) (d:TS mo (kf (some o)) st m):TS mo (kf v) st m:=by rw[h];exact d
theorem Ûh {t:M (Option α)} [Nn en] {ma:M γ} {mb:α→M γ} (hv:TE k e t (nO en)) (hb:∀ a,TS mo k A (mb a)) (ha:TS mo k B ma):
  TS mo k (Ù (tB (É ā e (eC .non))) A B) (bd t λ v=>Ê8 v ma mb):=λ l s S g=>by
 have key:(tB (É ā e (eC .non))) s=em Option.isSome t:=by
  show bd (bd (e s) λ x=>ā x .non) tbK=_
  rw[hv s g,Âl,Èx]
  have:(λ a=>bd (ā (nO en a) W.non) tbK)=λ a=>rt (Option.isSome a):=by
   funext a
   rw[ÑG]
   rfl
  rw[this]
  funext S
  unfold bd em
  cases t S<;>rfl
 show mo.rel (â ((tB (É ā e (eC .non))) s S) s _) _
 refine ÆD key (l.ok g) λ v S'=>?_
 cases v with
 |none=>exact ha l s S' g
 |some a=>exact hb a l s S' g
theorem ÄM {t:M ρ} (he:TE k e t er):TS (mR X er) k (Ð e) t:=λ l s S g=>by
 show rR X er (â (e s S) s _) _
 rw[he s g]
 show rR X er (â (emap er (t S)) s _) (t S)
 cases t S with
 |ok v S'=>exact Or.inl rfl
 |ex c d S'=>exact ⟨s,rfl,l.ok g⟩
 |bad=>rfl
theorem Îw {t:M ρ} (he:TE k e t er):TS (mR X er) k (Æ (Ð e) rest) t:=λ l s S g=>by
 have:=ÄM (X:=X) he l s S g
 have e:Æ (Ð e) rest s S=Ð e s S:=by
  show Ă (â (e s S) s _) rest=â (e s S) s _
  cases e s S<;>rfl
 rwa [e]
theorem ÈD {t:M ρ} (he:TE k e t er):TS (mX X E er) k (Ð e) (bd t λ v=>rt (.rt v)):=λ l s S g=>by
 show rX X E er (â (e s S) s _) _
 rw[he s g]
 show rX X E er (â (emap er (t S)) s _) (bd t _ S)
 unfold bd
 cases t S with
 |ok v S'=>rfl
 |ex c d S'=>exact ⟨s,rfl,l.ok g⟩
 |bad=>rfl
theorem Ý8 {t:M ρ} (he:TE k e t er):TS (mX X E er) k (Æ (Ð e) rest) (bd t λ v=>rt (.rt v)):=λ l s S g=>by
 have:=ÈD (X:=X) (E:=E) he l s S g
 have e:Æ (Ð e) rest s S=Ð e s S:=by
  show Ă (â (e s S) s _) rest=â (e s S) s _
  cases e s S<;>rfl
 rwa [e]
theorem àT {v:ρ} (h:er v=.non):TS (mR X er) k (Æ Ëx rest) (rt v):=λ l s S g=>Or.inl (by rw[h];rfl)
def ÄD (c:Str):M α:=λ S=>.ex c none S
theorem àU {c:Str}:TS mo k (Ĥ c) (ÄD c):=λ l s S g=>mo.hx c none s S (l.ok g)
theorem É0 {c:Str}:TS mo k (Æ (Ĥ c) rest) (ÄD c):=λ l s S g=>mo.hx c none s S (l.ok g)
theorem Èb {a:σ} (h:Le (E a) k):TS (mN X E) k Ñ (rt a):=λ l s S g=>⟨s,rfl,h.ag g⟩
theorem Åw {a:σ} (h:Le (E a) k):TS (mX X E er) k Ñ (rt (.nx a)):=λ l s S g=>⟨s,rfl,h.ag g⟩
theorem ãk {v:ρ} (h:er v=.non):TS (mR X er) k Ñ (rt v):=λ l s S g=>Or.inr ⟨s,rfl,h⟩
def bX (t:M (Esc σ ρ)) (m:σ→M (Esc τ ρ)):M (Esc τ ρ):=bd t λ r=>match r with
 | .nx a=>m a
 | .rt v=>rt (.rt v)
def bR (t:M (Esc σ ρ)) (m:σ→M ρ):M ρ:=bd t λ r=>match r with
 | .nx a=>m a
 | .rt v=>rt v
theorem Üu {r:RS} {q:Rs σ} {m:σ→M γ} (h:rN mo.X E r q) (hm:∀ a s S,Ag (E a) s→mo.rel (rest s S) (m a S)):mo.rel (Ă r rest) (ý q m):=by
 cases q with
 |ok a S=>obtain ⟨s,rfl,g⟩:=h;exact hm a s S g
 |ex c d S=>obtain ⟨s,rfl,g⟩:=h;exact mo.hx c d s S g
 |bad=>cases h;exact mo.hb
theorem join {t:M σ} {m:σ→M γ} (hX:∀ a,LeX mo.X (E a)) (h1:TS (mN mo.X E) k A t) (h2:∀ a,TS mo (E a) rest (m a)):TS mo k (Æ A rest) (bd t m):=λ l s S g=>
 Üu (h1 l s S g) λ a s S g=>h2 a (hX a) s S g
def bXK (q:Rs (Esc σ ρ)) (m:σ→M (Esc τ ρ)):Rs (Esc τ ρ):=match q with
 | .ok (.nx a) S=>m a S
 | .ok (.rt v) S=>.ok (.rt v) S
 | .ex c d S=>.ex c d S
 | .bad=>.bad
def bRK (q:Rs (Esc σ ρ)) (m:σ→M ρ):Rs ρ:=match q with
 | .ok (.nx a) S=>m a S
 | .ok (.rt v) S=>.ok v S
 | .ex c d S=>.ex c d S
 | .bad=>.bad
theorem ãl {r:RS} {q:Rs (Esc σ ρ)} {F:τ→K} {m:σ→M (Esc τ ρ)} (h:rX X E er r q) (hm:∀ a s S,Ag (E a) s→rX X F er (rest s S) (m a S)):rX X F er (Ă r rest) (bXK q m):=by
 cases q with
 |ok a S=>
  cases a with
  |nx a=>obtain ⟨s,rfl,g⟩:=h;exact hm a s S g
  |rt v=>cases h;rfl
 |ex c d S=>obtain ⟨s,rfl,g⟩:=h;exact ⟨s,rfl,g⟩
 |bad=>cases h;rfl
theorem Üv {r:RS} {q:Rs (Esc σ ρ)} {m:σ→M ρ} (h:rX X E er r q) (hm:∀ a s S,Ag (E a) s→rR X er (rest s S) (m a S)):rR X er (Ă r rest) (bRK q m):=by
 cases q with
 |ok a S=>
  cases a with
  |nx a=>obtain ⟨s,rfl,g⟩:=h;exact hm a s S g
  |rt v=>cases h;exact Or.inl rfl
 |ex c d S=>obtain ⟨s,rfl,g⟩:=h;exact ⟨s,rfl,g⟩
 |bad=>cases h;rfl
theorem ÙS {t:M (Esc σ ρ)} {m:σ→M (Esc τ ρ)} {S:Dw}:bX t m S=bXK (t S) m:=by
 unfold bX bd
 cases t S with
 |ok a S=>cases a<;>rfl
 |ex=>rfl
 |bad=>rfl
theorem ÙT {t:M (Esc σ ρ)} {m:σ→M ρ} {S:Dw}:bR t m S=bRK (t S) m:=by
 unfold bR bd
 cases t S with
 |ok a S=>cases a<;>rfl
 |ex=>rfl
 |bad=>rfl
theorem joinR {t:M (Esc σ ρ)} {m:σ→M ρ} (hX:∀ a,LeX X (E a)) (h1:TS (mX X E er) k A t) (h2:∀ a,TS (mR X er) (E a) rest (m a)):TS (mR X er) k (Æ A rest) (bR t m):=λ l s S g=>by
 rw[ÙT]
 exact Üv (h1 l s S g) λ a s S g=>h2 a (hX a) s S g
def Ã0 (f:σ→α→M σ):List α→σ→M σ
 | [],st=>rt st
 |x::xs,st=>bd (f st x) (Ã0 f xs)
def ţ (f:σ→α→M (Esc σ ρ)):List α→σ→M (Esc σ ρ)
 | [],st=>rt (.nx st)
 |x::xs,st=>bX (f st x) (ţ f xs)
theorem ÕG {f:σ→α→M σ} {l:α→List (Nat×W)} (hg:TG g en l) (hXl:∀ st a,LeX X (Ãx (E st) (l a))) (hb:∀ st a,TS (mN X E) (Ãx (E st) (l a)) b (f st a)):
  ∀(ys:List α) (st:σ) (s:Sl) (S:Dw),Ag (E st) s→rN X E (Ź g b (ys.map en) s S) (Ã0 f ys st S)
 | [],st,s,S,h=>⟨s,rfl,h⟩
 |y::ys,st,s,S,h=>by
  show rN X E (ÿ (tgB (g (en y) s) b S) (Ź g b (ys.map en))) (bd (f st y) (Ã0 f ys) S)
  rw[hg y s]
  have:=hb st y (hXl st y) (sset s (l y)) S (ÍJ h)
  show rN X E (ÿ (b (sset s (l y)) S) _) _
  unfold bd
  have Çp:rN X E (b (sset s (l y)) S) (f st y S):=this
  cases hq:f st y S with
  |ok a S'=>
   rw[hq] at Çp
   obtain ⟨s',e,g'⟩:=Çp
   rw[e]
   exact ÕG hg hXl hb ys a s' S' g'
  |ex c d S'=>
   rw[hq] at Çp
   obtain ⟨s',e,g'⟩:=Çp
   rw[e]
   exact ⟨s',rfl,g'⟩
  |bad=>
   rw[hq] at Çp
   have e:b (sset s (l y)) S=.bad:=Çp
   rw[e];rfl
theorem ÑH {f:σ→α→M (Esc σ ρ)} {l:α→List (Nat×W)} (hg:TG g en l) (hXl:∀ st a,LeX X (Ãx (E st) (l a))) (hb:∀ st a,TS (mX X E er) (Ãx (E st) (l a)) b (f st a)):
  ∀(ys:List α) (st:σ) (s:Sl) (S:Dw),Ag (E st) s→rX X E er (Ź g b (ys.map en) s S) (ţ f ys st S)
 | [],st,s,S,h=>⟨s,rfl,h⟩
 |y::ys,st,s,S,h=>by
  show rX X E er (ÿ (tgB (g (en y) s) b S) (Ź g b (ys.map en))) (bX (f st y) (ţ f ys) S)
  rw[hg y s,ÙS]
  have:=hb st y (hXl st y) (sset s (l y)) S (ÍJ h)
  show rX X E er (ÿ (b (sset s (l y)) S) _) _
  have Çp:rX X E er (b (sset s (l y)) S) (f st y S):=this
  cases hq:f st y S with
  |ok a S'=>
   rw[hq] at Çp
   cases a with
   |nx a=>
    obtain ⟨s',e,g'⟩:=Çp
    rw[e]
    exact ÑH hg hXl hb ys a s' S' g'
   |rt v=>
    have e:b (sset s (l y)) S=.rt (er v) S':=Çp
    rw[e];rfl
  |ex c d S'=>
   rw[hq] at Çp
   obtain ⟨s',e,g'⟩:=Çp
   rw[e]
   exact ⟨s',rfl,g'⟩
  |bad=>
   rw[hq] at Çp
   have e:b (sset s (l y)) S=.bad:=Çp
   rw[e];rfl
theorem ÔL {xs:M (List α)} {f:σ→α→M σ} {l:α→List (Nat×W)} {st0:σ} {m:σ→M γ} (hi:TI k it xs en) (hg:TG g en l) (h0:Le (E st0) k) (hX:∀ st,LeX mo.X (E st)) (hXl:∀ st a,LeX mo.X (Ãx (E st) (l a)))
  (hb:∀ st a,TS (mN mo.X E) (Ãx (E st) (l a)) b (f st a)) (h:∀ st,TS mo (E st) rest (m st)):TS mo k (Æ (ê it g b) rest) (bd xs λ ys=>bd (Ã0 f ys st0) m):=λ lx s S ag=>by
 show mo.rel (Ă (â (it s S) s _) rest) _
 rw[Åv]
 exact ÆD (hi s ag) (lx.ok ag) λ ys S'=>Üu (ÕG hg hXl hb ys st0 s S' (h0.ag ag)) λ a s S g=>h a (hX a) s S g
theorem ÙU {xs:M (List α)} {f:σ→α→M (Esc σ ρ)} {l:α→List (Nat×W)} {st0:σ} {F:τ→K} {m:σ→M (Esc τ ρ)} (hi:TI k it xs en) (hg:TG g en l) (h0:Le (E st0) k) (hX:∀ st,LeX X (E st)) (hXl:∀ st a,LeX X (Ãx (E st) (l a)))
  (hb:∀ st a,TS (mX X E er) (Ãx (E st) (l a)) b (f st a)) (h:∀ st,TS (mX X F er) (E st) rest (m st)):TS (mX X F er) k (Æ (ê it g b) rest) (bd xs λ ys=>bX (ţ f ys st0) m):=λ lx s S ag=>by
 show (mX X F er).rel (Ă (â (it s S) s _) rest) _
 rw[Åv]
 exact ÆD (mo:=mX X F er) (hi s ag) (LeX.ok lx ag) λ ys S'=>by
  rw[ÙS]
  exact ãl (ÑH hg hXl hb ys st0 s S' (h0.ag ag)) λ a s S g=>h a (hX a) s S g
theorem Òt {xs:M (List α)} {f:σ→α→M (Esc σ ρ)} {l:α→List (Nat×W)} {st0:σ} {m:σ→M ρ} (hi:TI k it xs en) (hg:TG g en l) (h0:Le (E st0) k) (hX:∀ st,LeX X (E st)) (hXl:∀ st a,LeX X (Ãx (E st) (l a)))
  (hb:∀ st a,TS (mX X E er) (Ãx (E st) (l a)) b (f st a)) (h:∀ st,TS (mR X er) (E st) rest (m st)):TS (mR X er) k (Æ (ê it g b) rest) (bd xs λ ys=>bR (ţ f ys st0) m):=λ lx s S ag=>by
 show (mR X er).rel (Ă (â (it s S) s _) rest) _
 rw[Åv]
 exact ÆD (mo:=mR X er) (hi s ag) (LeX.ok lx ag) λ ys S'=>by
  rw[ÙT]
  exact Üv (ÑH hg hXl hb ys st0 s S' (h0.ag ag)) λ a s S g=>h a (hX a) s S g
theorem Ûi {xs:List α} {f:σ→α→M σ} {l:α→List (Nat×W)} {st0:σ} {m:σ→M γ} (hi:TI k it (rt xs) en) (hg:TG g en l) (h0:Le (E st0) k) (hX:∀ st,LeX mo.X (E st)) (hXl:∀ st a,LeX mo.X (Ãx (E st) (l a)))
  (hb:∀ st a,TS (mN mo.X E) (Ãx (E st) (l a)) b (f st a)) (h:∀ st,TS mo (E st) rest (m st)):TS mo k (Æ (ê it g b) rest) (bd (Ã0 f xs st0) m):=ÔL hi hg h0 hX hXl hb h
theorem Ûj {xs:List α} {f:σ→α→M (Esc σ ρ)} {l:α→List (Nat×W)} {st0:σ} {F:τ→K} {m:σ→M (Esc τ ρ)} (hi:TI k it (rt xs) en) (hg:TG g en l) (h0:Le (E st0) k) (hX:∀ st,LeX X (E st)) (hXl:∀ st a,LeX X (Ãx (E st) (l a)))
  (hb:∀ st a,TS (mX X E er) (Ãx (E st) (l a)) b (f st a)) (h:∀ st,TS (mX X F er) (E st) rest (m st)):TS (mX X F er) k (Æ (ê it g b) rest) (bX (ţ f xs st0) m):=ÙU hi hg h0 hX hXl hb h
theorem Ìe {xs:List α} {f:σ→α→M (Esc σ ρ)} {l:α→List (Nat×W)} {st0:σ} {m:σ→M ρ} (hi:TI k it (rt xs) en) (hg:TG g en l) (h0:Le (E st0) k) (hX:∀ st,LeX X (E st)) (hXl:∀ st a,LeX X (Ãx (E st) (l a)))
  (hb:∀ st a,TS (mX X E er) (Ãx (E st) (l a)) b (f st a)) (h:∀ st,TS (mR X er) (E st) rest (m st)):TS (mR X er) k (Æ (ê it g b) rest) (bR (ţ f xs st0) m):=Òt hi hg h0 hX hXl hb h
def whT (c:σ→M Bool) (f:σ→M σ):Nat→σ→M σ
 |0,_=>bad
 |n+1,st=>bd (c st) λ q=>if q=true then bd (f st) (whT c f n) else rt st
def whX (c:σ→M Bool) (f:σ→M (Esc σ ρ)):Nat→σ→M (Esc σ ρ)
 |0,_=>bad
 |n+1,st=>bd (c st) λ q=>if q=true then bX (f st) (whX c f n) else rt (.nx st)
theorem âh (t:M α):t=em id t:=by
 funext S
 unfold em
 cases t S<;>rfl
theorem ØT {c:ï} {ct:σ→M Bool} {f:σ→M (Esc σ ρ)} (hX:∀ st,LeX X (E st)) (hc:∀ st,TT (E st) c (ct st)) (hb:∀ st,TS (mX X E er) (E st) b (f st)):
  ∀(n:Nat) (st:σ) (s:Sl) (S:Dw),Ag (E st) s→rX X E er (ÁB c b n s S) (whX ct f n st S)
 |0,_,_,_,_=>rfl
 |n+1,st,s,S,h=>by
  show rX X E er (â (c s S) s _) (bd (ct st) _ S)
  refine ÆD (mo:=mX X E er) (eθ:=id) ((hc st s h).trans (âh _)) (LeX.ok (hX st) h) λ q S'=>?_
  cases q with
  |false=>exact ⟨s,rfl,h⟩
  |true=>
   show rX X E er (ÿ (b s S') (ÁB c b n)) (bX (f st) (whX ct f n) S')
   have this:rX X E er (b s S') (f st S'):=hb st (hX st) s S' h
   rw[ÙS]
   cases hq:f st S' with
   |ok a S2=>
    rw[hq] at this
    cases a with
    |nx a=>
     obtain ⟨s',e,g'⟩:=this
     rw[e]
     exact ØT hX hc hb n a s' S2 g'
    |rt v=>
     have e:b s S'=.rt (er v) S2:=this
     rw[e];rfl
   |ex c d S2=>
    rw[hq] at this
    obtain ⟨s',e,g'⟩:=this
    rw[e]
    exact ⟨s',rfl,g'⟩
   |bad=>
    rw[hq] at this
    have e:b s S'=.bad:=this
    rw[e];rfl
theorem ãm {n:Nat} {c:ï} {ct:σ→M Bool} {f:σ→M (Esc σ ρ)} {st0:σ} {m:σ→M ρ} (h0:Le (E st0) k) (hX:∀ st,LeX X (E st)) (hc:∀ st,TT (E st) c (ct st)) (hb:∀ st,TS (mX X E er) (E st) b (f st)) (h:∀ st,TS (mR X er) (E st) rest (m st)):
  TS (mR X er) k (Æ (Èd n c b) rest) (bR (whX ct f n st0) m):=λ lx s S ag=>by
 rw[ÙT]
 exact Üv (ØT hX hc hb n st0 s S (h0.ag ag)) λ a s S g=>h a (hX a) s S g
theorem Þ5 {ov:σ→Option α} {oe:Exp} [Nn en] (hv:∀ st,TP (E st) oe (nO en (ov st))) (st:σ):TT (E st) (tB (É ā oe (eC .non))) (rt (ov st).isSome):=qt (qB (p2 (ÑG (ov st)) (hv st) c))
theorem ÕH {oe:Exp} {ov:σ→Option α} [Nn en] {fb:σ→α→M σ} (hX:∀ st,LeX X (E st)) (hv:∀ st,TP (E st) oe (nO en (ov st))) (hb:∀ st a,ov st=some a→TS (mN X E) (E st) b (fb st a)):
  ∀(n:Nat) (st:σ) (s:Sl) (S:Dw),Ag (E st) s→rN X E (ÁB (tB (É ā oe (eC .non))) b n s S) (whT (λ st=>rt (ov st).isSome) (λ st=>bd (Ŭ (ov st)) (fb st)) n st S)
 |0,_,_,_,_=>rfl
 |n+1,st,s,S,h=>by
  show rN X E (â ((tB (É ā oe (eC .non))) s S) s _) (bd (rt (ov st).isSome) _ S)
  rw[Þ5 hv st s h]
  cases ho:ov st with
  |none=>exact ⟨s,rfl,h⟩
  |some a=>
   show rN X E (ÿ (b s S) (ÁB _ b n)) (bd (bd (Ŭ (ov st)) (fb st)) (whT _ _ n) S)
   have this:rN X E (b s S) (fb st a S):=hb st a ho (hX st) s S h
   have e0:bd (Ŭ (ov st)) (fb st)=fb st a:=by rw[ho];rfl
   rw[e0]
   unfold bd
   cases hq:fb st a S with
   |ok a' S2=>
    rw[hq] at this
    obtain ⟨s',e,g'⟩:=this
    rw[e]
    exact ÕH hX hv hb n a' s' S2 g'
   |ex c d S2=>
    rw[hq] at this
    obtain ⟨s',e,g'⟩:=this
    rw[e]
    exact ⟨s',rfl,g'⟩
   |bad=>
    rw[hq] at this
    have e:b s S=.bad:=this
    rw[e];rfl
theorem âi {n:Nat} {oe:Exp} {ov:σ→Option α} [Nn en] {fb:σ→α→M σ} {st0:σ} {m:σ→M γ} (h0:Le (E st0) k) (hX:∀ st,LeX mo.X (E st)) (hv:∀ st,TP (E st) oe (nO en (ov st))) (hb:∀ st a,ov st=some a→TS (mN mo.X E) (E st) b (fb st a)) (h:∀ st,TS mo (E st) rest (m st)):
  TS mo k (Æ (Èd n (tB (É ā oe (eC .non))) b) rest) (bd (whT (λ st=>rt (ov st).isSome) (λ st=>bd (Ŭ (ov st)) (fb st)) n st0) m):=λ lx s S ag=>
 Üu (ÕH hX hv hb n st0 s S (h0.ag ag)) λ a s S g=>h a (hX a) s S g
def apT (xs:List β) (x:β):M (List β):=if xs.length<sizeLine then rt (xs++[x]) else bad
theorem Ûk {s:Sl} {ws:List W} (g:Ag k s) (h:k[i]?=some (some (.lst ws))):Ég s i=some ws:=by
 unfold Ég
 rw[g.get h]
theorem ãn {xs:List β} {x:β} {m:List β→M γ} (hk:k[i]?=some (some (nL ea xs))) (he:TP k e (ea x)) (hx:NX mo.X i) (h:∀ ys,TS mo (k.set i (some (nL ea ys))) rest (m ys)):
  TS mo k (Æ (Íc i ÅR (Á e Ä)) rest) (bd (apT xs x) m):=λ l s S g=>by
 show mo.rel (Ă (match Ég s i with
  |some xs=>â ((Á e Ä) s S) s λ ys S'=>muK s i (ÅR xs ys) S'
  |none=>.bad) rest) _
 rw[Ûk g hk]
 have:(Á e Ä) s=rt [ea x]:=Ŀ he psN s g
 simp only
 rw[this]
 show mo.rel (Ă (muK s i (if (xs.map ea).length<sizeLine then some (xs.map ea++[ea x]) else none) S) rest) (bd (if xs.length<sizeLine then _ else _) m S)
 rw[List.length_map]
 by_cases hl:xs.length<sizeLine
 ·rw[if_pos hl,if_pos hl]
  have:=h (xs++[x]) (l.set hx) (s.set i (some (nL ea (xs++[x])))) S g.set
  simpa[nL,muK,Ă,bd,rt] using this
 ·rw[if_neg hl,if_neg hl]
  exact mo.hb
theorem ÙV {xs:List β} {t:M β} {m:List β→M γ} (hk:k[i]?=some (some (nL ea xs))) (he:TE k e t ea) (hx:NX mo.X i) (h:∀ ys,TS mo (k.set i (some (nL ea ys))) rest (m ys)):
  TS mo k (Æ (Íc i ÅR (Á e Ä)) rest) (bd t λ x=>bd (apT xs x) m):=λ l s S g=>by
 show mo.rel (Ă (match Ég s i with
  |some xs=>â ((Á e Ä) s S) s λ ys S'=>muK s i (ÅR xs ys) S'
  |none=>.bad) rest) _
 rw[Ûk g hk]
 simp only
 rw[Åv]
 have:(Á e Ä) s=em (λ v=>[ea v]) t:=by
  show bd (e s) _=_
  rw[he s g,Âl]
  funext S
  unfold bd em
  cases t S<;>rfl
 refine ÆD this (l.ok g) λ x S'=>?_
 show mo.rel (Ă (muK s i (if (xs.map ea).length<sizeLine then some (xs.map ea++[ea x]) else none) S') rest) (bd (if xs.length<sizeLine then _ else _) m S')
 rw[List.length_map]
 by_cases hl:xs.length<sizeLine
 ·rw[if_pos hl,if_pos hl]
  have:=h (xs++[x]) (l.set hx) (s.set i (some (nL ea (xs++[x])))) S' g.set
  simpa[nL,muK,Ă,bd,rt] using this
 ·rw[if_neg hl,if_neg hl]
  exact mo.hb
theorem àV {t:M β} {l:β→List (Nat×W)} {m:β→M γ} (he:TE k e t ea) (hg:TG g ea l) (hX:∀ v,LeX mo.X k→LeX mo.X (Ãx k (l v))) (h:∀ v,TS mo (Ãx k (l v)) rest (m v)):TS mo k (Æ (Ëy g e) rest) (bd t m):=λ lx s S ag=>by
 show mo.rel (Ă (â (e s S) s _) rest) _
 rw[Åv]
 refine ÆD (he s ag) (lx.ok ag) λ v S'=>?_
 rw[hg v s]
 exact h v (hX v lx) _ S' (ÍJ ag)
def àW (r:Rs α):Rs α:=match r with
 | .ex _ _ _=>.bad
 |r=>r
def Îx (t:M α) (tab:List (Str×Bool)) (h:Str→Option (List (Str×W))→M α):M α:=λ S=>match t S with
 | .ex c d S1=>match Fr.Ãz tab c with
  |some true=>àW (h c d S1)
  |some false=>.ex c d S1
  |none=>.bad
 |r=>r
theorem ão {r:RS} {q:Rs (Esc σ ρ)} (h:rX X E er r q):rX X E er (Ç4 r) (àW q):=by
 cases q with
 |ok v S=>
  cases v with
  |nx a=>obtain ⟨s,rfl,h⟩:=h;exact ⟨s,rfl,h⟩
  |rt v=>cases h;rfl
 |ex c d S=>obtain ⟨s,rfl,_⟩:=h;rfl
 |bad=>cases h;rfl
theorem Üw {tab:List (Str×Bool)} {su:Str→Option (List (Str×W))→Ì} {t:M (Esc σ ρ)} {hd:Str→Option (List (Str×W))→M (Esc σ ρ)} {kx:K} (hl:Le kx k) (hX:LeX X kx) (hb:TS (mX (some kx) E er) k b t) (hs:∀ c d,TS (mX X E er) kx (su c d) (hd c d)):
  TS (mX X E er) k (Ç5 b tab su) (Îx t tab hd):=λ lx s S ag=>by
 have h:rX (some kx) E er (b s S) (t S):=hb hl s S ag
 show rX X E er (ÉX (b s S) tab su) (Îx t tab hd S)
 unfold Îx
 cases hq:t S with
 |ok v S'=>
  rw[hq] at h
  cases v with
  |nx v=>
   obtain ⟨s',e,h⟩:=h
   rw[e];exact ⟨s',rfl,h⟩
  |rt v=>
   have e:b s S=.rt (er v) S':=h
   rw[e];rfl
 |ex c d S'=>
  rw[hq] at h
  obtain ⟨s',e,h⟩:=h
  rw[e]
  simp only[ÉX]
  cases Fr.Ãz tab c with
  |none=>rfl
  |some q=>
   cases q with
   |true=>exact ão (hs c d hX s' S' h)
   |false=>exact ⟨s',rfl,LeX.ok hX h⟩
 |bad=>
  rw[hq] at h
  have e:b s S=.bad:=h
  rw[e];rfl
theorem up {en':β→W} {f:α→β} (h:TE k e m en) (q:∀ a,en a=en' (f a)):TE k e (bd m λ a=>rt (f a)) en':=λ s g=>by
 rw[h s g,ÃY]
 funext S
 unfold em bd
 cases m S with
 |ok a S'=>exact congrArg (λ w=>Rs.ok w S') (q a)
 |ex=>rfl
 |bad=>rfl
theorem fnT {n:Nat} {q:Ì} {ws:List W} {m:M ρ} (h:TS (mR none er) (ws.map some++List.replicate (n-ws.length) none) q m):ē n q ws=em er m:=by
 funext S
 have h':rR none er (q (ws.map some++List.replicate (n-ws.length) none) S) (m S):=h trivial _ S (ÐU ws _)
 show fnK (q (ws.map some++List.replicate (n-ws.length) none) S)=emap er (m S)
 cases hq:m S with
 |ok v S'=>
  rw[hq] at h'
  rcases h' with e |⟨s',e,h⟩
  ·rw[e];rfl
  ·rw[e]
   show Rs.ok .non S'=.ok (er v) S'
   rw[h]
 |ex c d S'=>
  rw[hq] at h'
  obtain ⟨s',e,_⟩:=h'
  rw[e];rfl
 |bad=>
  rw[hq] at h'
  have e:q (ws.map some++List.replicate (n-ws.length) none) S=.bad:=h'
  rw[e];rfl
end
end Ty
namespace Ty
open PySem Pu
section
variable{α β γ δ ε ζ η σ ρ θ:Type}
abbrev q1 (a:α→W) (p:α):W:=.lst [a p]
abbrev q2 (a:α→W) (b:β→W) (p:α×β):W:=.lst [a p.1,b p.2]
abbrev q3 (a:α→W) (b:β→W) (c:γ→W) (p:α×β×γ):W:=.lst [a p.1,b p.2.1,c p.2.2]
abbrev q4 (a:α→W) (b:β→W) (c:γ→W) (d:δ→W) (p:α×β×γ×δ):W:=.lst [a p.1,b p.2.1,c p.2.2.1,d p.2.2.2]
abbrev q5 (a:α→W) (b:β→W) (c:γ→W) (d:δ→W) (e:ε→W) (p:α×β×γ×δ×ε):W:=.lst [a p.1,b p.2.1,c p.2.2.1,d p.2.2.2.1,e p.2.2.2.2]
abbrev q6 (a:α→W) (b:β→W) (c:γ→W) (d:δ→W) (e:ε→W) (f:ζ→W) (p:α×β×γ×δ×ε×ζ):W:=.lst [a p.1,b p.2.1,c p.2.2.1,d p.2.2.2.1,e p.2.2.2.2.1,f p.2.2.2.2.2]
abbrev q7 (a:α→W) (b:β→W) (c:γ→W) (d:δ→W) (e:ε→W) (f:ζ→W) (g:η→W) (p:α×β×γ×δ×ε×ζ×η):W:=.lst [a p.1,b p.2.1,c p.2.2.1,d p.2.2.2.1,e p.2.2.2.2.1,f p.2.2.2.2.2.1,g p.2.2.2.2.2.2]
variable{a:α→W}{b:β→W}{c:γ→W}{d:δ→W}{e:ε→W}{f:ζ→W}{g:η→W}
instance:Nn nI:=⟨λ _ h=>by cases h⟩
instance:Nn nS:=⟨λ _ h=>by cases h⟩
instance:Nn nB:=⟨λ _ h=>by cases h⟩
instance:Nn (nL a):=⟨λ _ h=>by cases h⟩
instance:Nn (nT a):=⟨λ _ h=>by cases h⟩
instance:Nn n0:=⟨λ _ h=>by cases h⟩
instance:Nn (n1 a):=⟨λ _ h=>by cases h⟩
instance:Nn (n2 a b):=⟨λ _ h=>by cases h⟩
instance:Nn (n3 a b c):=⟨λ _ h=>by cases h⟩
instance:Nn (n4 a b c d):=⟨λ _ h=>by cases h⟩
instance:Nn (n5 a b c d e):=⟨λ _ h=>by cases h⟩
instance:Nn (n6 a b c d e f):=⟨λ _ h=>by cases h⟩
instance:Nn (n7 a b c d e f g):=⟨λ _ h=>by cases h⟩
instance [x:Nn a] [y:Nn b]:Nn (nU a b):=⟨λ v h=>by
 cases v with
 |inl v=>exact x.nn v h
 |inr v=>exact y.nn v h⟩
end
section
variable{α β σ ρ:Type}{k:K}{e:Exp}{en:α→W}{ea:β→W}
def adS (a b:Str):M Str:=if a.length+b.length≤sizeLine then rt (a++b) else bad
theorem Òx (a b:Str):f2 ĉ [nS a,nS b]=em nS (adS a b):=by
 show (if _ then _ else _)=_
 unfold adS
 rw[Èl]
 rfl
def adL (a b:List α):M (List α):=if a.length+b.length≤sizeLine then rt (a++b) else bad
theorem Òy (a b:List α):f2 ĉ [nL en a,nL en b]=em (nL en) (adL a b):=by
 show (if (a.map en).length+(b.map en).length≤sizeLine then rt (W.lst (a.map en++b.map en)) else bad)=_
 unfold adL
 rw[Èl,List.length_map,List.length_map,←List.map_append]
 rfl
def muI (i j:Int):M Int:=if (Fr.inR 18446744073709551615 i||Fr.inR 18446744073709551615 j)=true then rt (i*j) else bad
theorem àX (i j:Int):f2 mulM [nI i,nI j]=em nI (muI i j):=by
 show (if _ then _ else _)=_
 unfold muI
 rw[Èl]
 rfl
def muS (a:Str) (n:Int):M Str:=if 0≤n∧n≤1000∧1≤a.length∧a.length≤1000 then rt (Fr.ÀT a n.toNat) else bad
theorem Ûm (a:Str) (n:Int):f2 mulM [nS a,nI n]=em nS (muS a n):=by
 show (if _ then _ else _)=_
 unfold muS
 rw[Èl]
 rfl
theorem mdC {i j:Int} (h:j≠0):Âp (.int i) (.int j)=rt (.int (i.fmod j)):=if_pos h
def mdI (i j:Int):M Int:=if j≠0 then rt (i.fmod j) else bad
theorem àY (i j:Int):f2 Âp [nI i,nI j]=em nI (mdI i j):=by
 show (if _ then _ else _)=_
 unfold mdI
 rw[Èl]
 rfl
def eqT (en:α→W) (x y:α):M Bool:=bd (Ė (en x) (en y)) tbK
def neT (en:α→W) (x y:α):M Bool:=bd (neM (en x) (en y)) tbK
theorem ãp {t:M (Option α)} [Nn en] (h:TE k e t (nO en)):TE k (É œ e (eC .non)) (bd t λ v=>rt v.isNone) nB:=λ s g=>by
 show bd (e s) (λ x=>œ x .non)=_
 rw[h s g,Âl,ÃY]
 congr 1;funext o
 exact Ý7 o
class Fl [DecidableEq α] (en:α→W):Prop where
 fl:∀ a,ÃA (en a)=true
 eq:∀ a b,eqF (en a) (en b)=decide (a=b)
instance:Fl nI:=⟨λ _=>rfl,λ a b=>by show (a==b)=_;by_cases h:a=b<;>simp[h]⟩
instance:Fl nS:=⟨λ _=>rfl,λ a b=>by show (a==b)=_;by_cases h:a=b<;>simp[h]⟩
instance:Fl (nO nI):=⟨λ a=>by cases a<;>rfl,λ a b=>by
 cases a with
 |none=>cases b<;>simp[nO,eqF]
 |some a=>cases b with
  |none=>simp[nO,eqF]
  |some b=>show (a==b)=_;by_cases h:a=b<;>simp[h]⟩
instance:Fl (nO nS):=⟨λ a=>by cases a<;>rfl,λ a b=>by
 cases a with
 |none=>cases b<;>simp[nO,eqF]
 |some a=>cases b with
  |none=>simp[nO,eqF]
  |some b=>show (a==b)=_;by_cases h:a=b<;>simp[h]⟩
theorem Þ6 [DecidableEq α] [q:Fl en] (x:α) (xs:List α):((xs.map en).any λ z=>eqF z (en x))=xs.contains x:=by
 induction xs with
 |nil=>rfl
 |cons y ys ih=>
  rw[List.map_cons,List.any_cons,ih,q.eq,List.contains_cons]
  congr 1
  by_cases h:y=x
  ·subst h;simp
  ·have h2:¬x=y:=λ z=>h z.symm
   simp[h,h2]
theorem àZ [DecidableEq α] [q:Fl en] (xs:List α):(xs.map en).all ÃA=true:=by
 rw[List.all_eq_true]
 intro w hw
 obtain ⟨y,_,rfl⟩:=List.mem_map.mp hw
 exact q.fl y
theorem Üx {x:W} {ws:List W} (h:ÃA x=true) (hw:ws.all ÃA=true):ÅO x (.lst ws)=some (ws.any λ z=>eqF z x):=by
 cases x<;>first |(show (if (true&&ws.all ÃA)=true then _ else _)=_;rw[hw];rfl) |(exact Bool.noConfusion h)
theorem Þa [DecidableEq α] [q:Fl en] (x:α) (xs:List α):ÁC (en x) (nL en xs)=rt (.bl (!xs.contains x)):=by
 show Îc (ÅO _ _)=_
 rw[Üx (q.fl x) (àZ xs),Þ6]
 rfl
abbrev nK (e:α→W) (kvs:List (Str×α)):W:=.dk (kvs.map λ p=>(Sum.inr p.1,e p.2))
def Æn (kvs:List (Str×α)) (k:Str):Option α:=(kvs.find? λ p=>decide (p.1=k)).map (·.2)
def Æo (kvs:List (Str×α)) (k:Str):Bool:=(Æn kvs k).isSome
def Íd (kvs:List (Str×α)) (k:Str):M α:=Ŭ (Æn kvs k)
theorem ÕI (kvs:List (Str×α)) (k:Str):Äj (kvs.map λ p=>((Sum.inr p.1:L2.Key),en p.2)) (.inr k)=(Æn kvs k).map en:=by
 unfold Äj Æn
 induction kvs with
 |nil=>rfl
 |cons p kvs ih=>
  rw[List.map_cons,List.find?_cons,List.find?_cons]
  by_cases h:p.1=k
  ·have h1:decide ((Sum.inr p.1:L2.Key)=.inr k)=true:=decide_eq_true (by rw[h])
   have h2:decide (p.1=k)=true:=decide_eq_true h
   simp only[h1,h2]
   rfl
  ·have h1:decide ((Sum.inr p.1:L2.Key)=.inr k)=false:=decide_eq_false λ z=>h (Sum.inr.inj z)
   have h2:decide (p.1=k)=false:=decide_eq_false h
   simp only[h1,h2]
   exact ih
theorem Õb (k:Str) (kvs:List (Str×α)):Ê6 (nS k) (nK en kvs)=rt (.bl (Æo kvs k)):=by
 show blO (some (Äj _ _).isSome)=_
 rw[ÕI]
 unfold Æo
 cases Æn kvs k<;>rfl
theorem ÌG (k:Str) (kvs:List (Str×α)):ÃB (nS k) (nK en kvs)=rt (.bl (!Æo kvs k)):=by
 show Îc (some (Äj _ _).isSome)=_
 rw[ÕI]
 unfold Æo
 cases Æn kvs k<;>rfl
theorem Óu (kvs:List (Str×α)) (k:Str):f2 Æi [nK en kvs,nS k]=em en (Íd kvs k):=by
 show Ŭ (Äj _ _)=_
 rw[ÕI]
 unfold Íd
 cases Æn kvs k<;>rfl
def ixT (xs:List α) (i:Int):M α:=Ŭ (L2.atI xs i)
theorem ØV (xs:List α) (i:Int):L2.atI (xs.map en) i=(L2.atI xs i).map en:=by
 unfold L2.atI
 rw[List.length_map]
 cases L2.ixN xs.length i with
 |none=>rfl
 |some k=>simp
theorem ÊJ (xs:List α) (i:Int):f2 ã [nL en xs,nI i]=em en (ixT xs i):=by
 show Ŭ (L2.atI (xs.map en) i)=_
 rw[ØV]
 unfold ixT
 cases L2.atI xs i<;>rfl
theorem Ûn (xs:List α) (i:Int):f2 ã [nT en xs,nI i]=em en (ixT xs i):=by
 show Ŭ (L2.atI (xs.map en) i)=_
 rw[ØV]
 unfold ixT
 cases L2.atI xs i<;>rfl
def ixS (z:Str) (i:Int):M Str:=if z.length≤sizeLine then Ŭ ((L2.atI z.cps.toList i).map λ c=>(⟨#[c]⟩:Str)) else bad
theorem à0 (z:Str) (i:Int):f2 ã [nS z,nI i]=em nS (ixS z i):=by
 show (if _ then _ else _)=_
 unfold ixS
 rw[Èl]
 cases L2.atI z.cps.toList i<;>rfl
theorem Óv (xs:List α):ö [nL en xs]=rt (.int (xs.length:Int)):=by
 show rt (W.int ((xs.map en).length:Int))=_
 rw[List.length_map]
theorem lenV (xs:List α):ö [nT en xs]=rt (.int (xs.length:Int)):=by
 show rt (W.int ((xs.map en).length:Int))=_
 rw[List.length_map]
def lnS (z:Str):M Int:=if z.length≤sizeLine then rt (z.length:Int) else bad
theorem à1 (z:Str):ö [nS z]=em nI (lnS z):=by
 show (if _ then _ else _)=_
 unfold lnS
 rw[Èl]
 rfl
def cutS (z:Str) (lo hi:Option Int):M Str:=if z.length≤sizeLine then rt (L2.cutS z lo hi) else bad
def Éj (n:Int):M Int:=λ S=>if 0<n then .ok (Êr n S).1 (Êr n S).2 else .bad
theorem ÈE (n:Int):ÔG [nD (),nI n]=em nI (Éj n):=by
 funext S
 show (if 0<n then _ else _)=emap nI (if 0<n then _ else _)
 by_cases h:0<n<;>simp[h,emap]
def ÌY (rec:Fn):Ì:=
 (Æ (Ù (tOr (tB (eB ú (Á (À 1) (Á (eC (.ty "bool")) Ä)))) (tB (eB ú (Á (À 0) (Á (eC (.ty "bool")) Ä))))) (Ð (Ãn (eB ú (Á (À 1) (Á (eC (.ty "bool")) Ä))) (Ãn (eB ú (Á (À 0) (Á (eC (.ty "bool")) Ä))) (É Ė (À 0) (À 1))))) Ñ)
 (Æ (Ù (tOr (tB (É œ (À 1) (eC .non))) (tB (É œ (À 0) (eC .non)))) (Ð (Ãn (É œ (À 1) (eC .non)) (É œ (À 0) (eC .non)))) Ñ)
 (Æ (Ù (tB (eB ú (Á (À 1) (Á (eC (.ty "int")) Ä)))) (Ð (Ãn (eB ú (Á (À 0) (Á (eC (.ty "int")) Ä))) (É Ė (À 0) (À 1)))) Ñ)
 (Æ (Ù (tB (eB ú (Á (À 1) (Á (eC (.ty "str")) Ä)))) (Ð (Ãn (eB ú (Á (À 0) (Á (eC (.ty "str")) Ä))) (É Ė (À 0) (À 1)))) Ñ)
 (Æ (Ù (tAnd (tB (eB ú (Á (À 1) (Á (eC (.ty "tuple")) Ä)))) (tNot (tB (eB ú (Á (À 0) (Á (eC (.ty "tuple")) Ä)))))) (Ð (eC (.bl false))) Ñ)
 (Æ (Ù (tAnd (tB (eB ú (Á (À 1) (Á (eC (.ty "list")) Ä)))) (tNot (tB (eB ú (Á (À 0) (Á (eC (.ty "list")) Ä)))))) (Ð (eC (.bl false))) Ñ)
 (Æ (Ù (tB (É neM (eB ö (Á (À 0) Ä)) (eB ö (Á (À 1) Ä)))) (Ð (eC (.bl false))) Ñ)
 (Æ (ê (iR1 (Á (eB ö (Á (À 1) Ä)) Ä)) (gN 2) (Ù (tNot (tB (Ò rec (Á (É ã (À 0) (À 2)) (Á (É ã (À 1) (À 2)) Ä))))) (Ð (eC (.bl false))) Ñ))
 (Ð (eC (.bl true)))))))))))
def Ãk:Nat→Fn
 |0=>λ _=>bad
 |j+1=>ē 3 (ÌY (Ãk j))
def rb (r:RS):Prop:=match r with
 | .rt w _=>∃ b,w=.bl b
 |_=>True
def RB (b:Ì):Prop:=∀ s S,rb (b s S)
theorem ÊK {a b:Ì} (h1:RB a) (h2:RB b):RB (Æ a b):=λ s S=>by
 have:=h1 s S
 show rb (Ă (a s S) b)
 cases h:a s S with
 |nx s' S'=>exact h2 s' S'
 |rt w S'=>rw[h] at this;exact this
 |bk=>trivial
 |ct=>trivial
 |ex=>trivial
 |bad=>trivial
theorem ÊL:RB Ñ:=λ _ _=>trivial
theorem Þb {r:Rs α} {s:Sl} {f:α→Dw→RS} (h:∀ a S,rb (f a S)):rb (â r s f):=by
 cases r with
 |ok a S=>exact h a S
 |ex=>trivial
 |bad=>trivial
theorem ÌZ {c:ï} {a b:Ì} (h1:RB a) (h2:RB b):RB (Ù c a b):=λ s S=>Þb λ q S'=>by
 cases q
 ·exact h2 s S'
 ·exact h1 s S'
def BE (e:Exp):Prop:=∀ s S,match e s S with
 | .ok w _=>∃ b,w=.bl b
 |_=>True
theorem Ék {e:Exp} (h:BE e):RB (Ð e):=λ s S=>by
 have:=h s S
 show rb (â (e s S) s _)
 cases hq:e s S with
 |ok w S'=>rw[hq] at this;exact this
 |ex=>trivial
 |bad=>trivial
theorem ÕJ {b:Bool}:BE (eC (.bl b)):=λ _ _=>⟨b,rfl⟩
theorem âj {o:Option Bool} {S:Dw}:match blO o S with
  | .ok w _=>∃ b,w=.bl b
  |_=>True:=by
 cases o with
 |none=>trivial
 |some b=>exact ⟨b,rfl⟩
theorem Òz {e:Exp} {t:M θ} {f:θ→M W} {s:Sl} {S:Dw} (h:e s=bd t f) (hf:∀ a S,match f a S with
  | .ok w _=>∃ b,w=.bl b
  |_=>True):match e s S with
  | .ok w _=>∃ b,w=.bl b
  |_=>True:=by
 rw[h]
 unfold bd
 cases t S with
 |ok a S'=>exact hf a S'
 |ex=>trivial
 |bad=>trivial
theorem ÙW {a b:Exp}:BE (É Ė a b):=λ s S=>by
 refine Òz (t:=a s) (f:=λ x=>bd (b s) λ y=>Ė x y) rfl λ x S=>?_
 refine Òz (e:=λ _=>bd (b s) λ y=>Ė x y) (s:=s) (t:=b s) (f:=λ y=>Ė x y) rfl λ y S=>?_
 exact âj
theorem âk {a b:Exp}:BE (É œ a b):=λ s S=>by
 refine Òz (t:=a s) (f:=λ x=>bd (b s) λ y=>œ x y) rfl λ x S=>?_
 refine Òz (e:=λ _=>bd (b s) λ y=>œ x y) (s:=s) (t:=b s) (f:=λ y=>œ x y) rfl λ y S=>?_
 unfold œ
 cases x<;>cases y<;>first|exact ⟨_,rfl⟩|trivial
theorem ÏL {a b:Exp} (h2:BE b):BE (Ãn a b):=λ s S=>by
 refine Òz (t:=a s) (f:=boK λ k=>if k=true then b s else rt (.bl false)) rfl λ x S=>?_
 unfold boK
 cases x with
 |bl q=>
  cases q
  ·exact ⟨false,rfl⟩
  ·exact h2 s S
 |_=>trivial
theorem à2 {it:Sl→M (List W)} {g:Ā} {b:Ì} (h:RB b):RB (ê it g b):=λ s S=>Þb λ xs S'=>by
 have key:∀ (xs:List W) s S,rb (Ź g b xs s S):=by
  intro xs
  induction xs with
  |nil=>intro s S;trivial
  |cons x xs ih=>
   intro s S
   show rb (ÿ (tgB (g x s) b S) (Ź g b xs))
   cases g x s with
   |none=>trivial
   |some s2=>
    show rb (ÿ (b s2 S) _)
    have:=h s2 S
    cases hq:b s2 S with
    |nx s' S'=>exact ih s' S'
    |ct s' S'=>exact ih s' S'
    |bk=>trivial
    |rt w S'=>rw[hq] at this;exact this
    |ex=>trivial
    |bad=>trivial
 exact key xs s S'
def NF (b:Ì):Prop:=∀ s S s' S',b s S≠.nx s' S'
theorem ÊM {a b:Ì} (h:NF b):NF (Æ a b):=λ s S s' S' hq=>by
 have hq':Ă (a s S) b=.nx s' S':=hq
 cases ha:a s S with
 |nx s1 S1=>rw[ha] at hq';exact h s1 S1 s' S' hq'
 |rt=>rw[ha] at hq';cases hq'
 |bk=>rw[ha] at hq';cases hq'
 |ct=>rw[ha] at hq';cases hq'
 |ex=>rw[ha] at hq';cases hq'
 |bad=>rw[ha] at hq';cases hq'
theorem à3 {e:Exp}:NF (Ð e):=λ s S s' S' hq=>by
 have hq':â (e s S) s (λ w S'=>RS.rt w S')=.nx s' S':=hq
 cases ha:e s S with
 |ok=>rw[ha] at hq';cases hq'
 |ex=>rw[ha] at hq';cases hq'
 |bad=>rw[ha] at hq';cases hq'
theorem Ûq:∀ (j:Nat) (ws:List W) (S:Dw),match Ãk j ws S with
  | .ok w _=>∃ b,w=.bl b
  |_=>True
 |0,_,_=>trivial
 |j+1,ws,S=>by
  have h1:RB (ÌY (Ãk j)):=ÊK (ÌZ (Ék (ÏL (ÏL ÙW))) ÊL) (ÊK (ÌZ (Ék (ÏL âk)) ÊL) (ÊK (ÌZ (Ék (ÏL ÙW)) ÊL) (ÊK (ÌZ (Ék (ÏL ÙW)) ÊL)
   (ÊK (ÌZ (Ék ÕJ) ÊL) (ÊK (ÌZ (Ék ÕJ) ÊL) (ÊK (ÌZ (Ék ÕJ) ÊL) (ÊK (à2 (ÌZ (Ék ÕJ) ÊL)) (Ék ÕJ))))))))
  have h2:NF (ÌY (Ãk j)):=ÊM (ÊM (ÊM (ÊM (ÊM (ÊM (ÊM (ÊM à3)))))))
  show match fnK (ÌY (Ãk j) (ws.map some++List.replicate (3-ws.length) none) S) with
   | .ok w _=>∃ b,w=.bl b
   |_=>True
  have a1:=h1 (ws.map some++List.replicate (3-ws.length) none) S
  have a2:=h2 (ws.map some++List.replicate (3-ws.length) none) S
  cases hq:ÌY (Ãk j) (ws.map some++List.replicate (3-ws.length) none) S with
  |nx s' S'=>exact (a2 s' S' hq).elim
  |rt w S'=>rw[hq] at a1;exact a1
  |bk=>trivial
  |ct=>trivial
  |ex=>trivial
  |bad=>trivial
def ÅE (j:Nat) (en:α→W) (x y:α):M Bool:=bd (Ãk j [en x,en y]) tbK
theorem Ìf {F:Nat→Fn} (h:∀ j,F j=Ãk j) (j:Nat) (en:α→W) (x y:α):F j [en x,en y]=em nB (ÅE j en x y):=by
 rw[h]
 funext S
 have:=Ûq j [en x,en y] S
 show _=emap nB (bd (Ãk j [en x,en y]) tbK S)
 unfold bd
 cases hq:Ãk j [en x,en y] S with
 |ok w S'=>
  rw[hq] at this
  obtain ⟨b,rfl⟩:=this
  rfl
 |ex=>rfl
 |bad=>rfl
end
class Ft {α:Type} (en:α→W):Prop where
 ft:∀ a,flat (en a)=true
section
variable{α β γ δ ε ζ η:Type}{a:α→W}{b:β→W}{c:γ→W}{d:δ→W}{e:ε→W}{f:ζ→W}{g:η→W}
instance:Ft nI:=⟨λ _=>rfl⟩
instance:Ft nS:=⟨λ _=>rfl⟩
instance:Ft nB:=⟨λ _=>rfl⟩
instance:Ft nN:=⟨λ _=>rfl⟩
instance:Ft n0:=⟨λ _=>rfl⟩
instance [x:Ft a]:Ft (nO a):=⟨λ v=>by cases v with
 |none=>rfl
 |some v=>exact x.ft v⟩
theorem Ó7 [x:Ft a]:∀ xs:List α,flats (xs.map a)=true
 | []=>by unfold flats;rfl
 |v::xs=>by rw[List.map_cons];unfold flats;rw[x.ft v,Ó7 xs];rfl
instance [x:Ft a]:Ft (nT a):=⟨λ v=>by show flat (.tup _)=true;unfold flat;exact Ó7 v⟩
instance [x:Ft a] [y:Ft b]:Ft (n2 a b):=⟨λ v=>by show flat (.tup [_,_])=true;unfold flat flats;rw[x.ft];unfold flats;rw[y.ft];unfold flats;rfl⟩
instance [x:Ft a] [y:Ft b] [z:Ft c]:Ft (n3 a b c):=⟨λ v=>by show flat (.tup [_,_,_])=true;unfold flat flats;rw[x.ft];unfold flats;rw[y.ft];unfold flats;rw[z.ft];unfold flats;rfl⟩
end
section
variable{α β γ:Type}{k:K}{e:Exp}{en:α→W}{ea:β→W}{w:W}{i:Nat}{mo:Mode γ}{rest:Ì}{ar:Pu.Arg}{m:M α}
end
theorem ÕK {k:Str} {v:W} {r:List (Str×W)}:List.lookup k ((k,v)::r)=some v:=by
 rw[List.lookup_cons]
 have:(k==k)=true:=by simp
 rw[this]
theorem Â4 {k k':Str} {v:W} {r:List (Str×W)} (h:(k==k')=false):List.lookup k ((k',v)::r)=List.lookup k r:=by
 rw[List.lookup_cons,h]
structure Bk0 where
 rows:List (Str×(Int×Option Str×List Int))
structure Bk where
 rows:List (Str×(Int×Option Str×List Int))
 names:List Str
abbrev nRv:Int×Option Str×List Int→W:=n3 nI (nO nS) (nT nI)
abbrev ÑI:Str×Int×Option Str×List Int→W:=n4 nS nI (nO nS) (nT nI)
def ÏM (x:Bk0):List (Str×W):=[(Str.ofString "rows",nK nRv x.rows)]
def À0 (x:Bk):List (Str×W):=[(Str.ofString "rows",nK nRv x.rows),(Str.ofString "names",nT nS x.names)]
abbrev ÏN (x:Bk0):W:=.ob (Str.ofString "Kindbook") (ÏM x)
abbrev nBk (x:Bk):W:=.ob (Str.ofString "Kindbook") (À0 x)
instance:Nn ÏN:=⟨λ _ h=>by cases h⟩
instance:Nn nBk:=⟨λ _ h=>by cases h⟩
def putK {α:Type} (kvs:List (Str×α)) (k:Str) (v:α):List (Str×α):=if Æo kvs k=true then kvs.map (λ p=>if p.1=k then (p.1,v) else p) else kvs++[(k,v)]
def ÒB (chk:Bk0→Str→Int→Option Str→List Int→M Unit):List (Str×Int×Option Str×List Int)→List (Str×(Int×Option Str×List Int))→M Bk
 | [],acc=>rt ⟨acc,acc.map Prod.fst⟩
 |r::rs,acc=>bd (chk ⟨acc⟩ r.1 r.2.1 r.2.2.1 r.2.2.2) λ _=>if acc.length<sizeLine then ÒB chk rs (putK acc r.1 (r.2.1,r.2.2.1,r.2.2.2)) else bad
def newT (chk:Bk0→Str→Int→Option Str→List Int→M Unit) (rs:List (Str×Int×Option Str×List Int)):M Bk:=
 if rs.length=0 then ÄD (Str.ofString "InvalidKind") else if 5<rs.length then ÄD (Str.ofString "TooMany") else ÒB chk rs []
theorem Üy {α:Type} {en:α→W} (kvs:List (Str×α)) (k:Str):((kvs.map λ p=>((Sum.inr p.1:L2.Key),en p.2)).any λ kv=>decide (kv.1=.inr k))=Æo kvs k:=by
 unfold Æo Æn
 induction kvs with
 |nil=>rfl
 |cons p kvs ih=>
  rw[List.map_cons,List.any_cons,ih,List.find?_cons]
  by_cases h:p.1=k
  ·have h1:decide ((Sum.inr p.1:L2.Key)=.inr k)=true:=decide_eq_true (by rw[h])
   have h2:decide (p.1=k)=true:=decide_eq_true h
   simp only[h1,h2]
   rfl
  ·have h1:decide ((Sum.inr p.1:L2.Key)=.inr k)=false:=decide_eq_false λ z=>h (Sum.inr.inj z)
   have h2:decide (p.1=k)=false:=decide_eq_false h
   simp only[h1,h2]
   rfl
theorem ÄO {α:Type} {en:α→W} (kvs:List (Str×α)) (k:Str) (v:α):ËL (kvs.map λ p=>((Sum.inr p.1:L2.Key),en p.2)) (.inr k) (en v)=(putK kvs k v).map λ p=>(Sum.inr p.1,en p.2):=by
 unfold ËL putK
 rw[Üy]
 by_cases h:Æo kvs k=true
 ·rw[if_pos h,if_pos h,List.map_map,List.map_map]
  apply List.map_congr_left
  intro p _
  show (if (Sum.inr p.1:L2.Key)=.inr k then (Sum.inr p.1,en v) else (Sum.inr p.1,en p.2))=(Sum.inr (if p.1=k then (p.1,v) else p).1,en (if p.1=k then (p.1,v) else p).2)
  by_cases e:p.1=k
  ·rw[if_pos (by rw[e]),if_pos e]
  ·rw[if_neg (λ z=>e (Sum.inr.inj z)),if_neg e]
 ·rw[if_neg h,if_neg h,List.map_append]
  rfl
theorem ÕL {Îy:Fn} {chk:Bk0→Str→Int→Option Str→List Int→M Unit} (h:∀ a b c d e,Îy [ÏN a,nS b,nI c,nO nS d,nT nI e]=em nN (chk a b c d e)):
  ∀(rs:List (Str×Int×Option Str×List Int)) (acc:List (Str×(Int×Option Str×List Int))),ÇR Îy (rs.map ÑI) (acc.map λ p=>(Sum.inr p.1,nRv p.2))=em nBk (ÒB chk rs acc)
 | [],acc=>by
  funext S
  show Rs.ok (ÏF _) S=.ok (nBk _) S
  congr 1
  unfold ÏF nBk À0
  congr 3
  ·simp only[List.cons.injEq,Prod.mk.injEq,true_and,and_true]
   show W.tup ((acc.map λ p=>((Sum.inr p.1:L2.Key),nRv p.2)).map λ kv=>Üj kv.1)=W.tup ((acc.map Prod.fst).map nS)
   rw[List.map_map,List.map_map]
   rfl
 |r::rs,acc=>by
  funext S
  show Õs (ÇR Îy (rs.map ÑI)) (acc.map λ p=>(Sum.inr p.1,nRv p.2)) (nS r.1) (nI r.2.1) (nO nS r.2.2.1) (nT nI r.2.2.2) (Îy [ÐP (acc.map λ p=>(Sum.inr p.1,nRv p.2)),nS r.1,nI r.2.1,nO nS r.2.2.1,nT nI r.2.2.2] S)=emap nBk (bd (chk ⟨acc⟩ r.1 r.2.1 r.2.2.1 r.2.2.2) _ S)
  have hc:=h ⟨acc⟩ r.1 r.2.1 r.2.2.1 r.2.2.2
  have e0:ÐP (acc.map λ p=>(Sum.inr p.1,nRv p.2))=ÏN ⟨acc⟩:=rfl
  rw[e0,hc]
  unfold bd
  show Õs _ _ _ _ _ _ (emap nN (chk ⟨acc⟩ r.1 r.2.1 r.2.2.1 r.2.2.2 S))=_
  cases chk ⟨acc⟩ r.1 r.2.1 r.2.2.1 r.2.2.2 S with
  |ex=>rfl
  |bad=>rfl
  |ok u S'=>
   show (if (acc.map λ p=>((Sum.inr p.1:L2.Key),nRv p.2)).length<sizeLine then ÇR Îy (rs.map ÑI) (ËL (acc.map λ p=>((Sum.inr p.1:L2.Key),nRv p.2)) (.inr r.1) (nRv (r.2.1,r.2.2.1,r.2.2.2))) S' else .bad)=emap nBk ((if acc.length<sizeLine then _ else bad) S')
   rw[List.length_map,ÄO,ÕL h rs]
   by_cases hl:acc.length<sizeLine
   ·rw[if_pos hl,if_pos hl];rfl
   ·rw[if_neg hl,if_neg hl];rfl
theorem ØW {Îy:Fn} {chk:Bk0→Str→Int→Option Str→List Int→M Unit} (h:∀ a b c d e,Îy [ÏN a,nS b,nI c,nO nS d,nT nI e]=em nN (chk a b c d e)) (rs:List (Str×Int×Option Str×List Int)):ÐQ Îy [nL ÑI rs]=em nBk (newT chk rs):=by
 funext S
 show (if (rs.map ÑI).length=0 then _ else if 5<(rs.map ÑI).length then _ else ÇR Îy (rs.map ÑI) [] S)=_
 unfold newT
 rw[List.length_map]
 by_cases h0:rs.length=0
 ·rw[if_pos h0,if_pos h0];rfl
 ·rw[if_neg h0,if_neg h0]
  by_cases h5:5<rs.length
  ·rw[if_pos h5,if_pos h5];rfl
  ·rw[if_neg h5,if_neg h5]
   exact congrFun (ÕL h rs []) S
end Ty
namespace Ty
open PySem Pu
section
variable{α β γ δ ε ζ η σ ρ:Type}{a:α→W}{b:β→W}{c:γ→W}{d:δ→W}{e:ε→W}{f:ζ→W}{g:η→W}
class Nl (en:α→W):Prop where
 h:∀ v,noL (en v)=true
class Flt (en:α→W):Prop where
 h:∀ v,flat (en v)=true
instance:Nl nI:=⟨λ _=>rfl⟩
instance:Nl nS:=⟨λ _=>rfl⟩
instance:Nl nB:=⟨λ _=>rfl⟩
instance:Nl nN:=⟨λ _=>rfl⟩
instance:Nl n0:=⟨λ _=>rfl⟩
instance [x:Nl a]:Nl (nO a):=⟨λ v=>by cases v with
 |none=>rfl
 |some v=>exact x.h v⟩
instance [x:Nl a]:Nl (nT a):=⟨λ v=>by
 show Èa (v.map a)=true
 induction v with
 |nil=>rfl
 |cons y ys ih=>show (noL (a y)&&Èa (ys.map a))=true;rw[x.h,ih];rfl⟩
instance [x:Nl a]:Nl (n1 a):=⟨λ v=>by show (noL _&&true)=true;rw[x.h];rfl⟩
instance [x:Nl a] [y:Nl b]:Nl (n2 a b):=⟨λ v=>by show (noL _&&(noL _&&true))=true;rw[x.h,y.h];rfl⟩
instance [x:Nl a] [y:Nl b] [z:Nl c]:Nl (n3 a b c):=⟨λ v=>by show (noL _&&(noL _&&(noL _&&true)))=true;rw[x.h,y.h,z.h];rfl⟩
instance [x:Nl a] [y:Nl b] [z:Nl c] [u:Nl d]:Nl (n4 a b c d):=⟨λ v=>by show (noL _&&(noL _&&(noL _&&(noL _&&true))))=true;rw[x.h,y.h,z.h,u.h];rfl⟩
instance [x:Nl a] [y:Nl b]:Nl (nU a b):=⟨λ v=>by cases v with
 |inl v=>exact x.h v
 |inr v=>exact y.h v⟩
theorem Þ7 [x:Nl a] (kvs:List (Str×α)):Ór (kvs.map λ p=>((Sum.inr p.1:L2.Key),a p.2))=true:=by
 induction kvs with
 |nil=>rfl
 |cons y ys ih=>show (noL (a y.2)&&Ór _)=true;rw[x.h,ih];rfl
instance [x:Nl a]:Nl (nK a):=⟨λ v=>Þ7 v⟩
theorem ÏO {x:Str} {w:W} {r:List (Str×W)} (h:noL w=true) (t:ÏG r=true):ÏG ((x,w)::r)=true:=by
 show (noL w&&ÏG r)=true
 rw[h,t];rfl
theorem ÕM:ÏG []=true:=rfl
instance:Nl ÏN:=⟨λ v=>ÏO (x:=Str.ofString "rows") ((inferInstance:Nl (nK nRv)).h v.rows) ÕM⟩
instance:Nl nBk:=⟨λ v=>ÏO (x:=Str.ofString "rows") ((inferInstance:Nl (nK nRv)).h v.rows) (ÏO (x:=Str.ofString "names") ((inferInstance:Nl (nT nS)).h v.names) ÕM)⟩
instance:Flt nI:=⟨λ _=>rfl⟩
instance:Flt nS:=⟨λ _=>rfl⟩
instance:Flt nB:=⟨λ _=>rfl⟩
instance:Flt nN:=⟨λ _=>rfl⟩
instance:Flt n0:=⟨λ _=>rfl⟩
instance [x:Flt a]:Flt (nO a):=⟨λ v=>by cases v with
 |none=>rfl
 |some v=>exact x.h v⟩
instance [x:Flt a]:Flt (nT a):=⟨λ v=>by
 show flats (v.map a)=true
 induction v with
 |nil=>rfl
 |cons y ys ih=>show (flat (a y)&&flats (ys.map a))=true;rw[x.h,ih];rfl⟩
instance [x:Flt a]:Flt (n1 a):=⟨λ v=>by show (flat _&&true)=true;rw[x.h];rfl⟩
instance [x:Flt a] [y:Flt b]:Flt (n2 a b):=⟨λ v=>by show (flat _&&(flat _&&true))=true;rw[x.h,y.h];rfl⟩
instance [x:Flt a] [y:Flt b] [z:Flt c]:Flt (n3 a b c):=⟨λ v=>by show (flat _&&(flat _&&(flat _&&true)))=true;rw[x.h,y.h,z.h];rfl⟩
instance [x:Flt a] [y:Flt b] [z:Flt c] [u:Flt d]:Flt (n4 a b c d):=⟨λ v=>by show (flat _&&(flat _&&(flat _&&(flat _&&true))))=true;rw[x.h,y.h,z.h,u.h];rfl⟩
instance [x:Flt a] [y:Flt b]:Flt (nU a b):=⟨λ v=>by cases v with
 |inl v=>exact x.h v
 |inr v=>exact y.h v⟩
end
section
variable{α β γ δ:Type}{k:K}{en:α→W}{ea:β→W}{m:M α}{a:Pu.Arg}{i:Nat}
theorem caE {F:Fn} (h:TA k a F m en) [q:Flt en]:TE k (Ïy F a) m en:=caF q.h h
end
end Ty
namespace Ty
open PySem Pu
section
variable{α β γ ρ θ:Type}{k:K}{en:α→W}{ea:β→W}{a:Pu.Arg}{i:Nat}{rest:Ì}{mo:Mode γ}
theorem upL {en':β→W} {ea':α→W} {f:α→β} (q:∀ a,ea' a=en' (f a)):∀ xs:List α,nL ea' xs=nL en' (xs.map f):=λ xs=>by
 unfold nL
 rw[List.map_map,show ea'=en'∘f from funext q]
def TOm (k:K) (o:Sl→M (Option Int)) (m:M (Option Int)):Prop:=∀ s,Ag k s→o s=m
variable{e:Exp}{lo hi:Sl→M (Option Int)}{tl th:M (Option Int)}
theorem oPm {j:Option Int} (h:TO k lo j):TOm k lo (rt j):=h
theorem slG {t:M α} {f:α→Option Int→Option Int→M β} {x:α→W} (q:TE k e t x) (h1:TOm k lo tl) (h2:TOm k hi th) (hf:∀ v l u,slM (x v) l u=em ea (f v l u)):TE k (eSl e lo hi) (bd t λ v=>bd tl λ l=>bd th λ u=>f v l u) ea:=λ s g=>by
 show bd (e s) (λ x=>bd (lo s) λ l=>bd (hi s) λ u=>slM x l u)=_
 rw[q s g,h1 s g,h2 s g,Âl,ÃY]
 congr 1
 funext v
 rw[ÃY]
 congr 1
 funext l
 rw[ÃY]
 congr 1
 funext u
 first|exact hf v l u|skip
theorem ãq {t:M Str} (q:TE k e t nS) (h1:TOm k lo tl) (h2:TOm k hi th):TE k (eSl e lo hi) (bd t λ v=>bd tl λ l=>bd th λ u=>cutS v l u) nS:=slG q h1 h2 λ v l u=>by
 show (if _ then _ else _)=_
 unfold cutS
 rw[Èl]
 rfl
end
end Ty
namespace Ty
open PySem Pu
inductive Fo (α:Type) where
 |nil
 |row (cells:List α) (inner:Fo α) (next:Fo α)
 deriving Inhabited
section
variable{α β γ:Type}{en:α→W}
namespace Fo
def rows:Fo α→List (List α×Fo α)
 |nil=>[]
 |row c i n=>(c,i)::n.rows
def cat:Fo α→Fo α→Fo α
 |nil,g=>g
 |row c i n,g=>row c i (cat n g)
def len:Fo α→Nat
 |nil=>0
 |row _ _ n=>n.len+1
end Fo
def ÐV (en:α→W):Fo α→List W
 | .nil=>[]
 | .row c i n=>.tup [.tup (c.map en),.lst (ÐV en i)]::ÐV en n
def nFo (en:α→W) (f:Fo α):W:=.lst (ÐV en f)
instance:Nn (nFo en):=⟨λ _ h=>by cases h⟩
theorem Ó8:∀ f:Fo α,(ÐV en f).length=f.len
 | .nil=>rfl
 | .row c i n=>by show (ÐV en n).length+1=n.len+1;rw[Ó8 n]
abbrev Zt (α:Type):=List (Fo α×List α)×Fo α
def ÙX:List (Fo α×List α)→Fo α→Fo α
 | [],cur=>cur
 |(f,c)::L,cur=>f.cat (.row c (ÙX L cur) .nil)
def ÙY:Nat→List (Fo α×List α)→Fo α→Zt α
 |_,[],cur=>([],cur)
 |0,(f,c)::L,cur=>([],f.cat (.row c (ÙX L cur) .nil))
 |m+1,x::L,cur=>(x::(ÙY m L cur).1,(ÙY m L cur).2)
def âl (z:Zt α) (c:List α):Option (Zt α):=if z.2.len<sizeLine∧z.1.length+1<sizeLine then some (z.1++[(z.2,c)],.nil) else none
def outF (z:Zt α) (x:Int×List (List α)):Option (Zt α):=if 0≤x.1 then (x.2.drop x.1.toNat).foldlM âl (ÙY x.1.toNat z.1 z.2) else none
def ÒC (xs:List (Int×List (List α))):Option (Fo α):=(xs.foldlM outF ([],.nil)).map λ z=>ÙX z.1 z.2
abbrev Rw0 (α:Type):=List (Int×List α)
abbrev Ol (α:Type):=List (Int×List (List α))
end
end Ty
namespace Ty
open PySem Pu
section
variable{α β:Type}{k:K}{en:α→W}{x:β→W}{e o:Exp}{a:Pu.Arg}{T:String}{f:W→List W→M W}
theorem à4 [q:Nn en] {t:M (Option α)} (h:TE k e t (nO en)):TE k (ÕC e) (bd t λ v=>Ŭ v) en:=λ s g=>by
 show bd (e s) _=_
 rw[h s g,Âl,ÃY]
 congr 1
 funext v
 cases v with
 |none=>rfl
 |some a=>
  have:=q.nn a
  show (match en a with
   | .non=>bad
   |w=>rt w)=rt (en a)
  cases he:en a<;>first|rfl|exact (this he).elim
end
end Ty
namespace Ty
open PySem Pu
section
variable{α β γ σ ρ τ:Type}{m:M α}{P Q:α→Prop}
def Al (m:M α) (P:α→Prop):Prop:=∀ S,∃a S',m S=.ok a S'∧P a
def Ra (m:M α) (c:Str):Prop:=∀ S,∃S',m S=.ex c none S'
theorem Al.rt {a:α} (h:P a):Al (Pu.rt a) P:=λ S=>⟨a,S,rfl,h⟩
theorem Al.mono (h:Al m P) (k:∀ a,P a→Q a):Al m Q:=λ S=>let ⟨a,S',e,p⟩:=h S;⟨a,S',e,k a p⟩
theorem Al.bd {R:β→Prop} {t:M β} {f:β→M α} (h:Al t R) (k:∀ b,R b→Al (f b) P):Al (bd t f) P:=λ S=>by
 obtain ⟨b,S1,e,r⟩:=h S
 obtain ⟨a,S2,e2,p⟩:=k b r S1
 exact ⟨a,S2,by unfold Pu.bd;rw[e];exact e2,p⟩
theorem Al.ite {c:Prop} [Decidable c] {a b:M α} (h1:c→Al a P) (h2:¬c→Al b P):Al (if c then a else b) P:=by
 by_cases h:c
 ·rw[if_pos h];exact h1 h
 ·rw[if_neg h];exact h2 h
theorem Al.pos {c:Prop} [Decidable c] {a b:M α} (h:c) (h1:Al a P):Al (if c then a else b) P:=by rw[if_pos h];exact h1
theorem Al.neg {c:Prop} [Decidable c] {a b:M α} (h:¬c) (h1:Al b P):Al (if c then a else b) P:=by rw[if_neg h];exact h1
theorem Al.eq {v:α} (h:m=Pu.rt v) (p:P v):Al m P:=h▸Al.rt p
abbrev Is (m:M α) (v:α):Prop:=Al m (·= v)
theorem Is.rt {a:α}:Is (Pu.rt a) a:=Al.rt rfl
theorem Is.bd {t:M β} {f:β→M α} {b:β} (h:Is t b) (k:Al (f b) P):Al (Pu.bd t f) P:=Al.bd h λ x e=>e▸k
theorem Ra.rs {c:Str}:Ra (ÄD c:M α) c:=λ S=>⟨S,rfl⟩
theorem Ra.bd1 {t:M β} {f:β→M α} {c:Str} (h:Ra t c):Ra (Pu.bd t f) c:=λ S=>by
 obtain ⟨S1,e⟩:=h S
 exact ⟨S1,by unfold Pu.bd;rw[e]⟩
theorem Ra.bd2 {R:β→Prop} {t:M β} {f:β→M α} {c:Str} (h:Al t R) (k:∀ b,R b→Ra (f b) c):Ra (Pu.bd t f) c:=λ S=>by
 obtain ⟨b,S1,e,r⟩:=h S
 obtain ⟨S2,e2⟩:=k b r S1
 exact ⟨S2,by unfold Pu.bd;rw[e];exact e2⟩
theorem Ra.ite {c:Prop} [Decidable c] {a b:M α} {x:Str} (h1:c→Ra a x) (h2:¬c→Ra b x):Ra (if c then a else b) x:=by
 by_cases h:c
 ·rw[if_pos h];exact h1 h
 ·rw[if_neg h];exact h2 h
theorem ÏP {n:M γ} {s:α→M γ}:Ê8 none n s=n:=rfl
theorem ÈV {n:M γ} {s:α→M γ} {a:α}:Ê8 (some a) n s=s a:=rfl
def EP (I:σ→Prop) (R:ρ→Prop):Esc σ ρ→Prop
 | .nx a=>I a
 | .rt v=>R v
theorem Al.bR {t:M (Esc σ ρ)} {f:σ→M ρ} {I:σ→Prop} {R Q:ρ→Prop} (h:Al t (EP I R)) (h1:∀ a,I a→Al (f a) Q) (h2:∀ v,R v→Q v):Al (bR t f) Q:=by
 unfold Ty.bR
 refine Al.bd h λ r hr=>?_
 cases r with
 |nx a=>exact h1 a hr
 |rt v=>exact Al.rt (h2 v hr)
theorem Al.bX {t:M (Esc σ ρ)} {f:σ→M (Esc τ ρ)} {I:σ→Prop} {R:ρ→Prop} {Q:Esc τ ρ→Prop} (h:Al t (EP I R)) (h1:∀ a,I a→Al (f a) Q) (h2:∀ v,R v→Q (.rt v)):Al (bX t f) Q:=by
 unfold Ty.bX
 refine Al.bd h λ r hr=>?_
 cases r with
 |nx a=>exact h1 a hr
 |rt v=>exact Al.rt (h2 v hr)
theorem Al.Ã0 {f:σ→α→M σ} {I:List α→σ→Prop} {xs:List α} {st:σ} (h0:I [] st) (hs:∀ pre x suf st,xs=pre++x::suf→I pre st→Al (f st x) (I (pre++[x]))):Al (Ã0 f xs st) (I xs):=by
 have key:∀ (suf pre:List α) (st:σ),xs=pre++suf→I pre st→Al (Ty.Ã0 f suf st) (I xs):=by
  intro suf
  induction suf with
  |nil=>intro pre st e h;simp at e;exact Al.rt (e▸h)
  |cons x suf ih=>
   intro pre st e h
   exact Al.bd (hs pre x suf st e h) λ st' h'=>ih (pre++[x]) st' (by simp[e]) h'
 exact key xs [] st (by simp) h0
theorem Al.ţ {f:σ→α→M (Esc σ ρ)} {I:List α→σ→Prop} {R:ρ→Prop} {xs:List α} {st:σ} (h0:I [] st) (hs:∀ pre x suf st,xs=pre++x::suf→I pre st→Al (f st x) (EP (I (pre++[x])) R)):Al (ţ f xs st) (EP (I xs) R):=by
 have key:∀ (suf pre:List α) (st:σ),xs=pre++suf→I pre st→Al (Ty.ţ f suf st) (EP (I xs) R):=by
  intro suf
  induction suf with
  |nil=>intro pre st e h;simp at e;exact Al.rt (e▸h)
  |cons x suf ih=>
   intro pre st e h
   exact Al.bX (hs pre x suf st e h) (λ st' h'=>ih (pre++[x]) st' (by simp[e]) h') λ v hv=>hv
 exact key xs [] st (by simp) h0
theorem Al.all {f:Unit→α→M (Esc Unit ρ)} {xs:List α} {R:ρ→Prop} (h:∀ x∈xs,Al (f () x) (·= .nx ())):Al (Ty.ţ f xs ()) (EP (λ _=>True) R):=
 Al.ţ (I:=λ _ _=>True) trivial λ pre x suf st e _=>(h x (by rw[e];simp)).mono λ r hr=>hr▸trivial
theorem Al.whT {c:σ→M Bool} {f:σ→M σ} {I:Nat→σ→Prop} {Q:σ→Prop} (hc:∀ n st,I n st→Al (c st) (λ q=>if q=true then ∃n',n=n'+1∧Al (f st) (I n') else Q st)):∀ (fuel n:Nat) (st:σ),n<fuel→I n st→Al (whT c f fuel st) Q
 |0,_,_,h,_=>absurd h (Nat.not_lt_zero _)
 |fuel+1,n,st,h,hi=>by
  show Al (Pu.bd (c st) _) Q
  refine Al.bd (hc n st hi) λ q hq=>?_
  by_cases g:q=true
  ·rw[if_pos g] at hq ⊢
   obtain ⟨n',e,hf⟩:=hq
   exact Al.bd hf λ st' h'=>Al.whT hc fuel n' st' (by omega) h'
  ·rw[if_neg g] at hq ⊢
   exact Al.rt hq
theorem Al.whX {c:σ→M Bool} {f:σ→M (Esc σ ρ)} {I:Nat→σ→Prop} {Q:σ→Prop} {R:ρ→Prop} (hc:∀ n st,I n st→Al (c st) (λ q=>if q=true then ∃n',n=n'+1∧Al (f st) (EP (I n') R) else Q st)):∀ (fuel n:Nat) (st:σ),n<fuel→I n st→Al (whX c f fuel st) (EP Q R)
 |0,_,_,h,_=>absurd h (Nat.not_lt_zero _)
 |fuel+1,n,st,h,hi=>by
  show Al (Pu.bd (c st) _) _
  refine Al.bd (hc n st hi) λ q hq=>?_
  by_cases g:q=true
  ·rw[if_pos g] at hq ⊢
   obtain ⟨n',e,hf⟩:=hq
   exact Al.bX hf (λ st' h'=>Al.whX hc fuel n' st' (by omega) h') λ v hv=>hv
  ·rw[if_neg g] at hq ⊢
   exact Al.rt hq
theorem Al.noX (h:Al m P):Al (noX m) P:=λ S=>by
 obtain ⟨a,S',e,p⟩:=h S
 exact ⟨a,S',by unfold Pu.noX;rw[e],p⟩
theorem Al.lcM {c:α→M Bool} {f:α→M β} {g:α→Bool} {v:α→β} {ys:List α} (hl:ys.length≤sizeLine) (hc:∀ y∈ys,Is (c y) (g y)) (hf:∀ y∈ys,g y=true→Is (f y) (v y)):Is (Ty.lcM c f ys) ((ys.filter g).map v):=by
 unfold Ty.lcM
 rw[if_pos hl]
 refine Al.noX ?_
 clear hl
 induction ys with
 |nil=>exact Is.rt
 |cons y ys ih=>
  have ih':=ih (λ z hz=>hc z (by simp[hz])) λ z hz=>hf z (by simp[hz])
  show Al (Pu.bd (c y) _) _
  refine Is.bd (hc y (by simp)) ?_
  by_cases h:g y=true
  ·rw[if_pos h]
   refine Is.bd (hf y (by simp) h) (Is.bd ih' (Al.rt ?_))
   rw[List.filter_cons_of_pos h,List.map_cons]
  ·rw[if_neg h,List.filter_cons_of_neg (by simpa using h)]
   exact ih'
theorem Al.lcD {f:α→M β} {Q:α→β→Prop} {ys:List α} (hl:ys.length≤sizeLine) (hf:∀ y∈ys,Al (f y) (Q y)):Al (Ty.lcM (λ _=>Pu.rt true) f ys) (λ (vs:List β)=>vs.length=ys.length∧∀ v∈vs,∃y∈ys,Q y v):=by
 unfold Ty.lcM
 rw[if_pos hl]
 refine Al.noX ?_
 clear hl
 induction ys with
 |nil=>exact Al.rt ⟨rfl,λ v hv=>by cases hv⟩
 |cons y ys ih=>
  show Al (Pu.bd (Pu.rt true) _) _
  rw[ä,if_pos rfl]
  refine Al.bd (hf y (by simp)) λ v hv=>Al.bd (ih λ z hz=>hf z (by simp[hz])) λ vs hvs=>Al.rt ⟨by simp[hvs.1],λ w hw=>?_⟩
  rcases List.mem_cons.mp hw with rfl|hw
  ·exact ⟨y,by simp,hv⟩
  ·obtain ⟨z,hz,q⟩:=hvs.2 w hw
   exact ⟨z,by simp[hz],q⟩
theorem ÒD:sizeLine=16777216:=rfl
theorem ÕN {n:Nat} {v:α} (h:n≤16777216):szM n v=Pu.rt v:=if_pos h
theorem ÒE {xs:List α} {x:α} (h:xs.length<16777216):apT xs x=Pu.rt (xs++[x]):=if_pos h
theorem ÒF {xs ys:List α} (h:xs.length+ys.length≤16777216):adL xs ys=Pu.rt (xs++ys):=if_pos h
theorem ÔM {x y:Str} (h:x.length+y.length≤16777216):adS x y=Pu.rt (x++y):=if_pos h
theorem ÏQ {n:Nat} {j:Int} (h:j.natAbs≤n):Fr.inR n j=true:=by unfold Fr.inR;exact Nat.ble_eq.mpr h
theorem Ût {n:Nat} (h:n≤16777216):rgT (n:Int)=Pu.rt (ŭ 0 n):=by
 unfold rgT
 rw[if_pos (ÏQ (by omega))]
 rfl
theorem ÙZ {j:Int} (h0:0≤j) (h:j≤16777216):rgT j=Pu.rt (ŭ 0 j.toNat):=by
 unfold rgT
 rw[if_pos (ÏQ (by omega))]
theorem à6 (xs:List α) (i:Nat):L2.atI xs (i:Int)=xs[i]?:=Fr.atI_nat xs i
theorem Þc {xs:List α} {i:Nat} {x:α} (h:xs[i]?=some x):ixT xs (i:Int)=Pu.rt x:=by
 unfold ixT
 rw[à6,h]
 rfl
theorem ÏR {xs:List α} {i:Int} (h0:0≤i) (h1:i<xs.length):∃ x∈xs,xs[i.toNat]?=some x∧ixT xs i=Pu.rt x:=by
 have hl:i.toNat<xs.length:=by omega
 have hg:=List.getElem?_eq_getElem hl
 refine ⟨xs[i.toNat],List.getElem_mem hl,hg,?_⟩
 have:ixT xs ((i.toNat:Nat):Int)=Pu.rt xs[i.toNat]:=Þc hg
 rw[show ((i.toNat:Nat):Int)=i by omega] at this
 exact this
theorem É1 {n:Int} (h:0<n):Al (Éj n) λ x=>0≤x∧x<n:=λ S=>⟨_,_,if_pos h,ÞW h S⟩
theorem Þ8 {xs:List α} (h:xs≠ []):Al (bd (Éj (xs.length:Int)) λ v=>ixT xs v) λ x=>x∈xs:=by
 have hl:0<xs.length:=List.length_pos_iff.mpr h
 refine Al.bd (É1 (by omega)) λ v hv=>?_
 obtain ⟨x,h1,_,h2⟩:=ÏR hv.1 hv.2
 rw[h2]
 exact Al.rt h1
theorem Àt (lo:Int) (n:Nat):(ŭ lo n).length=n:=by simp[ŭ]
theorem É2 {lo:Int} {n k:Nat} (h:k<n):(ŭ lo n)[k]?=some (lo+k):=by simp[ŭ,h]
theorem ÕO {lo:Int} {n:Nat} {pre suf:List Int} {x:Int} (h:ŭ lo n=pre++x::suf):x=lo+(pre.length:Int)∧pre.length<n:=by
 have hl:pre.length<n:=by
  have:=congrArg List.length h
  rw[Àt] at this
  simp at this
  omega
 have h1:=É2 (lo:=lo) hl
 rw[h] at h1
 simp at h1
 exact ⟨h1,hl⟩
theorem ÈF {lo:Int} {n:Nat} {x:Int}:x∈ŭ lo n↔lo≤x∧x<lo+n:=by
 unfold ŭ
 rw[List.mem_map]
 constructor
 ·rintro ⟨k,h,rfl⟩
  simp at h
  omega
 ·rintro ⟨h1,h2⟩
  exact ⟨(x-lo).toNat,by simp;omega,by omega⟩
theorem Þ9 {tab:List (Str×Bool)} {h:Str→Option (List (Str×W))→M α} {c:Str} (k:Ra m c) (hc:Fr.Ãz tab c=some true) (hh:Al (h c none) P):Al (Îx m tab h) P:=λ S=>by
 obtain ⟨S1,e⟩:=k S
 obtain ⟨a,S',e2,p⟩:=hh S1
 exact ⟨a,S',by unfold Îx;rw[e];simp only[hc];rw[e2];rfl,p⟩
theorem Óc {t:M Bool} {k:K} {q:Ì} (h:TS (mR none nB) k q t) (ha:Al t (·= true)):∀ s dw,Ag k s→∃ ĥ,q s dw=.rt (.bl true) ĥ:=λ s dw g=>by
 obtain ⟨a,S',e,rfl⟩:=ha dw
 have h':rR none nB (q s dw) (t dw):=h trivial s dw g
 rw[e] at h'
 rcases h' with h' |⟨s',h1,h2⟩
 ·exact ⟨S',h'⟩
 ·cases h2
end
end Ty
namespace Ty
open PySem Pu
section
variable{α β γ:Type}{k:K}{it:Sl→M (List W)}{g:Ā}{tt:ï}{e:Exp}{en:α→W}{ea:β→W}
end
end Ty
namespace Ty
open PySem Pu
theorem Þd {α:Type} (xs:List α) (i:Nat):L2.atI xs (i:Int)=xs[i]?:=Fr.atI_nat xs i
structure Row where
 name:Str
 size:Int
 parent:Option Str
 leads:List Int
def ÊN (n:Str):Prop:=1≤n.length∧n.length≤8∧∀ c∈n.cps.toList,97≤c∧c≤122
structure Ów (qs:List Row) (r:Row):Prop where
 nm:ÊN r.name
 ne:∀ q∈qs,q.name≠r.name
 s1:1≤r.size
 s4:r.size≤4
 no:r.parent=none→r.leads=[]
 pa:∀ p,r.parent=some p→∃ q∈qs,q.name=p∧(r.leads.length:Int)=r.size∧∀ l∈r.leads,0≤l∧l<q.size
def GoodR:List Row→Prop
 | []=>True
 |r::qs=>Ów qs r∧GoodR qs
def chain:List Row→Str→List Str
 | [],_=>[]
 |r::qs,n=>if r.name=n then n::(match r.parent with
  |none=>[]
  |some p=>chain qs p) else chain qs n
def led:List Row→Str→Int→Str→Option (Str×Int)
 | [],_,_,_=>none
 |r::qs,n,i,k=>if r.name=n then (if n=k then some (n,i) else match r.parent with
  |none=>none
  |some p=>match L2.atI r.leads i with
   |some l=>led qs p l k
   |none=>none) else led qs n i k
section
variable{bs qs:List Row}{r q:Row}{n m k p:Str}{i j:Int}
theorem É3:∀ {bs:List Row},GoodR bs→r∈bs→r.parent=some p→∃ e∈bs,e.name=p∧(r.leads.length:Int)=r.size∧∀ l∈r.leads,0≤l∧l<e.size
 | [],_,h,_=>by cases h
 |q::qs,g,h,hp=>by
  rcases List.mem_cons.mp h with rfl|h
  ·obtain ⟨e,h1,h2⟩:=g.1.pa p hp
   exact ⟨e,List.mem_cons_of_mem _ h1,h2⟩
  ·obtain ⟨e,h1,h2⟩:=É3 g.2 h hp
   exact ⟨e,List.mem_cons_of_mem _ h1,h2⟩
theorem ÑJ:∀ {bs:List Row},GoodR bs→∀ {r q:Row},r∈bs→q∈bs→r.name=q.name→r=q
 | [],_,_,_,h,_,_=>by cases h
 |e::qs,g,r,q,h1,h2,hn=>by
  rcases List.mem_cons.mp h1 with rfl|h3
  ·rcases List.mem_cons.mp h2 with rfl|h4
   ·rfl
   ·exact (g.1.ne q h4 hn.symm).elim
  ·rcases List.mem_cons.mp h2 with rfl|h4
   ·exact (g.1.ne r h3 hn).elim
   ·exact ÑJ g.2 h3 h4 hn
theorem ÄU (h:q.name≠n):chain (q::qs) n=chain qs n:=by
 show (if q.name=n then _ else _)=_
 rw[if_neg h]
theorem Ì0:chain (q::qs) q.name=q.name::(match q.parent with
  |none=>[]
  |some p=>chain qs p):=by
 show (if q.name=q.name then _ else _)=_
 rw[if_pos rfl]
theorem ÈG (h:q.name≠n):led (q::qs) n i k=led qs n i k:=by
 show (if q.name=n then _ else _)=_
 rw[if_neg h]
theorem ÐW:led (q::qs) q.name i k=if q.name=k then some (q.name,i) else match q.parent with
  |none=>none
  |some p=>match L2.atI q.leads i with
   |some l=>led qs p l k
   |none=>none:=by
 show (if q.name=q.name then _ else _)=_
 rw[if_pos rfl]
theorem ÕP:∀ {bs:List Row},GoodR bs→r∈bs→chain bs r.name=r.name::(match r.parent with
  |none=>[]
  |some p=>chain bs p)
 | [],_,h=>by cases h
 |q::qs,g,h=>by
  rcases List.mem_cons.mp h with rfl|h
  ·rw[Ì0]
   cases hp:r.parent with
   |none=>rfl
   |some p=>
    obtain ⟨e,h1,h2,_⟩:=g.1.pa p hp
    simp only
    rw[ÄU (λ z=>g.1.ne e h1 (h2.trans z.symm))]
  ·rw[ÄU (λ z=>g.1.ne r h z.symm),ÕP g.2 h]
   cases hp:r.parent with
   |none=>rfl
   |some p=>
    obtain ⟨e,h1,h2,_⟩:=É3 g.2 h hp
    simp only
    rw[ÄU (λ z=>g.1.ne e h1 (h2.trans z.symm))]
theorem ÒG:∀ {bs:List Row},GoodR bs→r∈bs→led bs r.name i k=if r.name=k then some (r.name,i) else match r.parent with
  |none=>none
  |some p=>match L2.atI r.leads i with
   |some l=>led bs p l k
   |none=>none
 | [],_,h=>by cases h
 |q::qs,g,h=>by
  rcases List.mem_cons.mp h with rfl|h
  ·rw[ÐW]
   cases hp:r.parent with
   |none=>rfl
   |some p=>
    obtain ⟨e,h1,h2,_⟩:=g.1.pa p hp
    simp only
    cases L2.atI r.leads i with
    |none=>rfl
    |some l=>simp only;rw[ÈG (λ z=>g.1.ne e h1 (h2.trans z.symm))]
  ·rw[ÈG (λ z=>g.1.ne r h z.symm),ÒG g.2 h]
   cases hp:r.parent with
   |none=>rfl
   |some p=>
    obtain ⟨e,h1,h2,_⟩:=É3 g.2 h hp
    simp only
    cases L2.atI r.leads i with
    |none=>rfl
    |some l=>simp only;rw[ÈG (λ z=>g.1.ne e h1 (h2.trans z.symm))]
theorem Ì1:∀ {bs:List Row} {n:Str},m∈chain bs n→∃ e∈bs,e.name=m
 | [],_,h=>by cases h
 |q::qs,n,h=>by
  by_cases c:q.name=n
  ·subst c
   rw[Ì0] at h
   rcases List.mem_cons.mp h with rfl|h
   ·exact ⟨q,by simp,rfl⟩
   ·cases hp:q.parent with
    |none=>rw[hp] at h;cases h
    |some p=>
     rw[hp] at h
     obtain ⟨e,h1,h2⟩:=Ì1 h
     exact ⟨e,List.mem_cons_of_mem _ h1,h2⟩
  ·rw[ÄU c] at h
   obtain ⟨e,h1,h2⟩:=Ì1 h
   exact ⟨e,List.mem_cons_of_mem _ h1,h2⟩
theorem ÈW:∀ {bs:List Row} {n:Str},(chain bs n).length≤bs.length
 | [],_=>by simp[chain]
 |q::qs,n=>by
  by_cases c:q.name=n
  ·subst c
   rw[Ì0]
   cases hp:q.parent with
   |none=>simp
   |some p=>have:=ÈW (bs:=qs) (n:=p);simp;omega
  ·rw[ÄU c]
   have:=ÈW (bs:=qs) (n:=n)
   simp;omega
theorem Îz {ls:List Int} {s:Int} (hl:(ls.length:Int)=s) (h0:0≤i) (h1:i<s):∃ l,l∈ls∧L2.atI ls i=some l:=Fr.ß4 h0 (by omega)
theorem ÎA:∀ {bs:List Row} {r:Row} {i:Int} {k:Str},GoodR bs→r∈bs→0≤i→i<r.size→(k∈chain bs r.name→∃ e j,e∈bs∧e.name=k∧led bs r.name i k=some (k,j)∧0≤j∧j<e.size)∧(k∉chain bs r.name→led bs r.name i k=none)
 | [],_,_,_,_,h,_,_=>by cases h
 |q::qs,r,i,k,g,h,h0,h1=>by
  by_cases c:q=r
  ·subst c
   rw[Ì0,ÐW]
   by_cases e:q.name=k
   ·subst e
    exact ⟨λ _=>⟨q,i,by simp,rfl,by rw[if_pos rfl],h0,h1⟩,λ hn=>(hn (by simp)).elim⟩
   ·rw[if_neg e]
    cases hp:q.parent with
    |none=>exact ⟨λ hm=>by simp at hm;exact (e hm.symm).elim,λ _=>rfl⟩
    |some p=>
     obtain ⟨a,a1,a2,a3,a4⟩:=g.1.pa p hp
     obtain ⟨l,l1,l2⟩:=Îz a3 h0 h1
     obtain ⟨b0,b1⟩:=a4 l l1
     have ih:=ÎA (k:=k) g.2 a1 b0 b1
     rw[a2] at ih
     simp only[l2]
     refine ⟨λ hm=>?_,λ hm=>ih.2 λ z=>hm (List.mem_cons_of_mem _ z)⟩
     rcases List.mem_cons.mp hm with z|hm
     ·exact (e z.symm).elim
     ·obtain ⟨x,j,x1,x2⟩:=ih.1 hm
      exact ⟨x,j,List.mem_cons_of_mem _ x1,x2⟩
  ·have hr:r∈qs:=by
    rcases List.mem_cons.mp h with z|h
    ·exact (c z.symm).elim
    ·exact h
   have ne:q.name≠r.name:=λ z=>g.1.ne r hr z.symm
   rw[ÄU ne,ÈG ne]
   obtain ⟨i1,i2⟩:=ÎA (k:=k) g.2 hr h0 h1
   refine ⟨λ hm=>?_,i2⟩
   obtain ⟨x,j,x1,x2⟩:=i1 hm
   exact ⟨x,j,List.mem_cons_of_mem _ x1,x2⟩
theorem ÑK {k2:Str}:∀ {bs:List Row} {r:Row} {i j:Int} {k:Str},GoodR bs→r∈bs→0≤i→i<r.size→led bs r.name i k=some (k,j)→k2∈chain bs k→led bs k j k2=led bs r.name i k2
 | [],_,_,_,_,_,h,_,_,_,_=>by cases h
 |q::qs,r,i,j,k,g,h,h0,h1,hl,hk=>by
  by_cases c:q=r
  ·subst c
   rw[ÐW] at hl
   by_cases e:q.name=k
   ·subst e
    rw[if_pos rfl] at hl
    cases hl
    rfl
   ·rw[if_neg e] at hl
    rw[ÄU e] at hk
    rw[ÈG e,ÐW]
    have e2:q.name≠k2:=by
     obtain ⟨x,x1,x2⟩:=Ì1 hk
     exact λ z=>g.1.ne x x1 (x2.trans z.symm)
    rw[if_neg e2]
    cases hp:q.parent with
    |none=>rw[hp] at hl;cases hl
    |some p=>
     rw[hp] at hl
     obtain ⟨a,a1,a2,a3,a4⟩:=g.1.pa p hp
     obtain ⟨l,l1,l2⟩:=Îz a3 h0 h1
     obtain ⟨b0,b1⟩:=a4 l l1
     simp only[l2] at hl ⊢
     rw[←a2] at hl ⊢
     exact ÑK g.2 a1 b0 b1 hl hk
  ·have hr:r∈qs:=by
    rcases List.mem_cons.mp h with z|h
    ·exact (c z.symm).elim
    ·exact h
   have ne:q.name≠r.name:=λ z=>g.1.ne r hr z.symm
   rw[ÈG ne] at hl ⊢
   have e:q.name≠k:=by
    have hs:∃ x∈qs,x.name=k:=by
     by_cases hm:k∈chain qs r.name
     ·exact Ì1 hm
     ·rw[(ÎA (k:=k) g.2 hr h0 h1).2 hm] at hl;cases hl
    obtain ⟨x,x1,x2⟩:=hs
    exact λ z=>g.1.ne x x1 (x2.trans z.symm)
   rw[ÄU e] at hk
   rw[ÈG e]
   exact ÑK g.2 hr h0 h1 hl hk
end
section
variable{bs:List Row}{r:Row}{dw:Dw}
def ÆE (bs:List Row) (p:Option Str):List Str:=match p with
 |none=>[]
 |some x=>chain bs x
theorem ÊO (g:GoodR bs) (h:r∈bs):chain bs r.name=r.name::ÆE bs r.parent:=by rw[ÕP g h];rfl
end
def ò (k:Option Str):Str:=match k with
 |none=>Str.ofString "?"
 |some n=>n
def ledK (bs:List Row) (v:Str×Int) (k:Option Str):Option (Str×Int):=match k with
 |none=>some v
 |some k=>led bs v.1 v.2 k
def told (bs:List Row) (k:Option Str):Prop:=∀ x,k=some x→∃ r∈bs,r.name=x
theorem âm {n:Str} (h:ÊN n):n≠Str.ofString "?" :=by
 intro e
 have:=h.2.2 63 (by rw[e];decide +kernel)
 omega
theorem É4:∀ {bs:List Row} {r:Row},GoodR bs→r∈bs→ÊN r.name∧1≤r.size∧r.size≤4
 | [],_,_,h=>by cases h
 |q::qs,r,g,h=>by
  rcases List.mem_cons.mp h with rfl|h
  ·exact ⟨g.1.nm,g.1.s1,g.1.s4⟩
  ·exact É4 g.2 h
theorem Él {bs:List Row} {r:Row} (g:GoodR bs) (h:r∈bs):r.name≠Str.ofString "?" :=âm (É4 g h).1
section
variable{bs:List Row}{r e:Row}{dw:Dw}
end
def Ìg (r:Row):List (Str×Int):=(List.range r.size.toNat).map λ (k:Nat)=>(r.name,(0:Int)+(k:Int))
def É5 (bs:List Row) (k:Option Str):List Row:=match k with
 |none=>bs.reverse
 |some n=>bs.reverse.filter λ r=>decide (r.name=n)
def membersOf (bs:List Row) (k:Option Str):List (Str×Int):=(É5 bs k).flatMap Ìg
section
variable{bs:List Row}{r e:Row}{dw:Dw}
theorem ÒH:∀ {bs:List Row} {r:Row},GoodR bs→r∈bs→bs.filter (λ q=>decide (q.name=r.name))=[r]
 | [],_,_,h=>by cases h
 |q::qs,r,g,h=>by
  rcases List.mem_cons.mp h with rfl|h
  ·rw[List.filter_cons_of_pos (by simp)]
   have:qs.filter (λ q=>decide (q.name=r.name))=[]:=by
    rw[List.filter_eq_nil_iff]
    intro a ha
    simp[g.1.ne a ha]
   rw[this]
  ·rw[List.filter_cons_of_neg (by simp;exact λ z=>g.1.ne r h z.symm),ÒH g.2 h]
theorem ÕQ (g:GoodR bs) (h:r∈bs):É5 bs (some r.name)=[r]:=by
 show bs.reverse.filter _=_
 rw[List.filter_reverse,ÒH g h]
 rfl
theorem ÕR (g:GoodR bs) (h:r∈bs):(Ìg r).length≤4:=by
 have:=É4 g h
 unfold Ìg
 simp
 omega
theorem ÎB {v:Str×Int}:v∈Ìg r↔v.1=r.name∧0≤v.2∧v.2<r.size:=by
 unfold Ìg
 rw[List.mem_map]
 constructor
 ·rintro ⟨k,h1,rfl⟩
  simp at h1
  refine ⟨rfl,?_,?_⟩
  ·show 0≤(0:Int)+k;omega
  ·show (0:Int)+k<r.size;omega
 ·rintro ⟨h1,h2,h3⟩
  refine ⟨v.2.toNat,by simp;omega,?_⟩
  obtain ⟨a,b⟩:=v
  simp only at h1 h2 h3 ⊢
  subst h1
  simp only[Prod.mk.injEq,true_and]
  omega
theorem Øa {v:Str×Int} {k:Option Str} (h:v∈membersOf bs k):∃ r∈bs,v.1=r.name∧0≤v.2∧v.2<r.size∧∀ n,k=some n→r.name=n:=by
 obtain ⟨r,h1,h2⟩:=List.mem_flatMap.mp h
 obtain ⟨a,b,c⟩:=ÎB.mp h2
 cases k with
 |none=>exact ⟨r,by simpa[É5] using h1,a,b,c,λ n hn=>by cases hn⟩
 |some n=>
  have h1':r∈bs.reverse.filter _:=h1
  rw[List.mem_filter] at h1'
  exact ⟨r,by simpa using h1'.1,a,b,c,λ m hm=>by cases hm;simpa using h1'.2⟩
end
section
variable{bs:List Row}{r e:Row}{dw:Dw}
end
structure Pas where
 sk:Str
 ek:Str
 n:Int
 gate:Option Str
 gs:Int
 re:Option Str
 fs:Int
structure åz (bs:List Row) (p:Pas):Prop where
 g:told bs p.gate
 r:told bs p.re
section
variable{bs:List Row}{r e:Row}{dw:Dw}{p q:Pas}
end
section
variable{bs:List Row}{r e:Row}{dw:Dw}{p q:Pas}
theorem Ña (g:GoodR bs) {k:Option Str}:(membersOf bs k).length≤4*bs.length:=by
 have key:∀ rs:List Row,(∀r∈rs,r∈bs)→(rs.flatMap Ìg).length≤4*rs.length:=by
  intro rs
  induction rs with
  |nil=>intro _;simp
  |cons r rs ih=>
   intro h
   have:=ih (λ x hx=>h x (by simp[hx]))
   have:=ÕR g (h r (by simp))
   rw[List.flatMap_cons,List.length_append,List.length_cons]
   omega
 unfold membersOf
 cases k with
 |none=>
  have:=key bs.reverse (λ r hr=>by simpa using hr)
  simpa[É5] using this
 |some n=>
  have h1:=key (bs.reverse.filter λ r=>decide (r.name=n)) (λ r hr=>by simpa using (List.mem_filter.mp hr).1)
  have h2:(bs.reverse.filter λ r=>decide (r.name=n)).length≤bs.length:=by
   have:=List.length_filter_le (λ r:Row=>decide (r.name=n)) bs.reverse
   simpa using this
  show ((bs.reverse.filter λ r=>decide (r.name=n)).flatMap Ìg).length≤_
  omega
end
def Mb (bs:List Row) (v:Str×Int):Prop:=∃ r∈bs,r.name=v.1∧0≤v.2∧v.2<r.size
section
variable{bs:List Row}{p q:Pas}{v u:Str×Int}{k:Str}
theorem Ém (g:GoodR bs) (h:Mb bs v):(k∈chain bs v.1→∃ u,led bs v.1 v.2 k=some u∧u.1=k∧Mb bs u)∧(k∉chain bs v.1→led bs v.1 v.2 k=none):=by
 obtain ⟨r,h1,h2,h3,h4⟩:=h
 obtain ⟨a,b⟩:=ÎA (k:=k) g h1 h3 h4
 rw[h2] at a b
 refine ⟨λ hm=>?_,b⟩
 obtain ⟨e,j,e1,e2,e3,e4,e5⟩:=a hm
 exact ⟨(k,j),e3,rfl,e,e1,e2,e4,e5⟩
theorem ßa (g:GoodR bs) (h:Mb bs v) (hl:led bs v.1 v.2 k=some u) {x:Str} (hx:x∈chain bs k):led bs u.1 u.2 x=led bs v.1 v.2 x:=by
 have hk:k∈chain bs v.1:=by
  by_cases c:k∈chain bs v.1
  ·exact c
  ·rw[(Ém g h).2 c] at hl;cases hl
 obtain ⟨w,w1,w2,_⟩:=(Ém (k:=k) g h).1 hk
 rw[hl] at w1
 cases w1
 obtain ⟨r,h1,h2,h3,h4⟩:=h
 have e:u=(k,u.2):=by rw[←w2]
 have:=ÑK (k2:=x) (j:=u.2) g h1 h3 h4 (by rw[h2,←e];exact hl) hx
 rw[h2] at this
 rw[w2]
 exact this
structure Run (bs:List Row) (p:Pas) (v u:Str×Int):Prop where
 fs:p.fs=0
 n0:0≤p.n
 no:p.re=none→u=v∧p.gate=none
 gt:∀ x,p.gate=some x→x∈chain bs v.1
 re:∀ y,p.re=some y→led bs v.1 v.2 y=some u
structure PI (p:Pas):Prop where
 n0:0≤p.n
 f0:0≤p.fs
 no:p.re=none→p.gate=none∧p.gs=0∧p.fs=0
 gt:∀ x,p.gate=some x→0<p.gs∧p.re≠none
structure PE (p:Pas) (k:Option Str):Prop where
 ek:p.ek=ò k
 re:∀ x,k=some x→p.fs=0→p.re=some x
inductive Less:List (Option Str)→List (Option Str)→Prop
 |nil:Less [] []
 |same {a b:List (Option Str)} (k:Option Str) (h:Less a b):Less (k::a) (k::b)
 |less {a b:List (Option Str)} (k:Option Str) (h:Less a b):Less (k::a) (none::b)
end
section
variable{bs:List Row}{r e:Row}{dw:Dw}
def É6 (k:Option Str) (r:Row):Bool:=match k with
 |none=>true
 |some n=>decide (r.name=n)
theorem Ù0 (k:Option Str):É5 bs k=bs.reverse.filter (É6 k):=by
 cases k with
 |none=>exact (List.filter_eq_self.mpr (λ _ _=>rfl)).symm
 |some n=>rfl
theorem ØX (g:GoodR bs) {v u:Str×Int} {k:Option Str} (h:Mb bs v) (hl:ledK bs v k=some u):Mb bs u:=by
 cases k with
 |none=>cases hl;exact h
 |some x=>
  have hl':led bs v.1 v.2 x=some u:=hl
  by_cases c:x∈chain bs v.1
  ·obtain ⟨w,w1,w2,w3⟩:=(Ém g h).1 c
   rw[hl'] at w1
   cases w1
   exact w3
  ·rw[(Ém g h).2 c] at hl';cases hl'
end
section
variable{dw:Dw}
end
def nm (a b c:Nat):Str:=Fr.ÀT (Str.ofString "m") a++⟨#[c]⟩++Fr.ÀT (Str.ofString "m") b
theorem ØY (x:Nat):∀ (n:Nat) (acc:Array Nat),((List.replicate n #[x]).foldl (·++ ·) acc).toList=acc.toList++List.replicate n x
 |0,acc=>by simp
 |n+1,acc=>by
  rw[List.replicate_succ,List.foldl_cons,ØY x n]
  simp[List.replicate_succ]
theorem ÎC (n:Nat):(Fr.ÀT (Str.ofString "m") n).cps.toList=List.replicate n 109:=by
 have h:(Str.ofString "m").cps= #[109]:=by decide +kernel
 unfold Fr.ÀT
 rw[h]
 simpa using ØY 109 n #[]
theorem ÐX (a b:Str):(a++b).cps.toList=a.cps.toList++b.cps.toList:=by
 show (a.cps++b.cps).toList=_
 simp
theorem ÕT (a b c:Nat):(nm a b c).cps.toList=List.replicate a 109++[c]++List.replicate b 109:=by
 unfold nm
 rw[ÐX,ÐX,ÎC,ÎC]
theorem à7 {a b c c':Nat} (h:nm a b c=nm a b c'):c=c':=by
 have:=congrArg (λ s:Str=>s.cps.toList) h
 simp only[ÕT] at this
 have h1:=List.append_cancel_right this
 have h2:=List.append_cancel_left h1
 simpa using h2
theorem str_len (s:Str):s.length=s.cps.toList.length:=by
 show s.cps.size=_
 simp
theorem ÕU (a b c:Nat):(nm a b c).length=a+1+b:=by
 rw[str_len,ÕT]
 simp
 omega
theorem ân {a b c:Nat} (ha:a≤3) (hb:b≤3) (hc:97≤c∧c≤122):ÊN (nm a b c):=by
 refine ⟨by rw[ÕU];omega,by rw[ÕU];omega,λ x hx=>?_⟩
 rw[ÕT] at hx
 simp only[List.mem_append,List.mem_singleton,List.mem_replicate] at hx
 rcases hx with (hx|hx)|hx
 ·omega
 ·rw[hx];exact hc
 ·omega
theorem à8 (i:Nat) (h:i<26):L2.atI (Str.ofString "abcdefghijklmnopqrstuvwxyz").cps.toList (i:Int)=some (97+i):=by
 rw[Þd]
 have key:∀ i:Fin 26,(Str.ofString "abcdefghijklmnopqrstuvwxyz").cps.toList[i.val]?=some (97+i.val):=by decide +kernel
 exact key ⟨i,h⟩
def ÇA (st step k:Int):Nat:=97+((st+k*step).fmod 26).toNat
theorem Ù1 {st step j k:Int} (hs:step=1∨step=25∨step=3∨step=7) (hj:0≤j) (hj':j<9) (hk:0≤k) (hk':k<9) (h:ÇA st step j=ÇA st step k):j=k:=by
 unfold ÇA at h
 rw[Int.fmod_eq_emod_of_nonneg _ (by decide),Int.fmod_eq_emod_of_nonneg _ (by decide)] at h
 rcases hs with rfl|rfl|rfl|rfl<;>omega
theorem Ûu (st step k:Int):97≤ÇA st step k∧ÇA st step k≤122:=by
 unfold ÇA
 rw[Int.fmod_eq_emod_of_nonneg _ (by decide)]
 omega
section
variable{dw:Dw}
end
section
variable{bs:List Row}{r:Row}{dw:Dw}
theorem ÕV:∀ {xs:List Row},GoodR (xs++bs)→GoodR bs
 | [],g=>g
 |_::_,g=>ÕV g.2
end
section
variable{bs:List Row}{r:Row}{dw:Dw}
end
section
variable{bs:List Row}{r:Row}{dw:Dw}
theorem ÎD {v:Str×Int} {k:Option Str} (h:v∈membersOf bs k):Mb bs v∧∀ x,k=some x→v.1=x:=by
 obtain ⟨r,h1,h2,h3,h4,h5⟩:=Øa h
 exact ⟨⟨r,h1,h2.symm,h3,h4⟩,λ x hx=>by rw[h2];exact h5 x hx⟩
end
section
variable{bs:List Row}{r:Row}{dw:Dw}
end
end Ty
namespace Ty
open PySem Pu
def Çb (r:Row):Str×Int×Option Str×List Int:=(r.name,r.size,r.parent,r.leads)
def rws (bs:List Row):List (Str×Int×Option Str×List Int):=bs.reverse.map Çb
def Ť (bs:List Row):Bk:=⟨rws bs,(rws bs).map Prod.fst⟩
section
variable{bs:List Row}{r e:Row}{n:Str}
theorem ÈX:(rws bs).length=bs.length:=by simp[rws]
theorem Ù2 {α:Type} {p:Str×α} {ps:List (Str×α)} {k:Str}:Æn (p::ps) k=if p.1=k then some p.2 else Æn ps k:=by
 unfold Æn
 rw[List.find?_cons]
 by_cases h:p.1=k
 ·rw[if_pos h];simp[h]
 ·rw[if_neg h];simp[h]
theorem Üz {qs:List Row} (hq:∀ q∈qs,q∈bs) (g:GoodR bs) (h:r∈qs):Æn (qs.map Çb) r.name=some (r.size,r.parent,r.leads):=by
 induction qs with
 |nil=>cases h
 |cons q qs ih=>
  rw[List.map_cons,Ù2]
  by_cases e:q.name=r.name
  ·have hr:r∈bs:=hq r h
   have:q=r:=ÑJ g (hq q (by simp)) hr e
   subst this
   exact if_pos rfl
  ·rw[if_neg (show ¬(Çb q).1=r.name from e)]
   rcases List.mem_cons.mp h with z|h
   ·exact (e (by rw[z])).elim
   ·exact ih (λ x hx=>hq x (by simp[hx])) h
theorem ÕW (g:GoodR bs) (h:r∈bs):Æn (rws bs) r.name=some (r.size,r.parent,r.leads):=Üz (λ q hq=>by simpa using hq) g (by simpa using h)
theorem ÜA (h:∀ r∈bs,r.name≠n):Æn (rws bs) n=none:=by
 unfold Æn rws
 have:((bs.reverse.map Çb).find? λ p=>decide (p.1=n))=none:=by
  rw[List.find?_eq_none]
  intro x hx
  obtain ⟨r,h1,rfl⟩:=List.mem_map.mp hx
  simp only[decide_eq_true_eq]
  exact h r (by simpa using h1)
 rw[this]
 rfl
theorem ØZ (g:GoodR bs) (h:r∈bs):Æo (rws bs) r.name=true:=by unfold Æo;rw[ÕW g h];rfl
theorem Óx (h:∀ r∈bs,r.name≠n):Æo (rws bs) n=false:=by unfold Æo;rw[ÜA h];rfl
theorem Óy (g:GoodR bs) (h:r∈bs):Íd (rws bs) r.name=rt (r.size,r.parent,r.leads):=by unfold Íd;rw[ÕW g h];rfl
theorem ÏS:ò none=Str.ofString "?" :=rfl
theorem ÈY {x:Str}:ò (some x)=x:=rfl
end
section
variable{α β σ ρ:Type}
theorem Ra.Ã0 {f:σ→α→M σ} {I:List α→σ→Prop} {pre suf:List α} {x:α} {st:σ} {c:Str} (h0:I [] st) (hs:∀ p y s st,pre=p++y::s→I p st→Al (f st y) (I (p++[y]))) (hx:∀ st,I pre st→Ra (f st x) c):Ra (Ty.Ã0 f (pre++x::suf) st) c:=by
 have key:∀ (q p:List α) (st:σ),pre=p++q→I p st→Ra (Ty.Ã0 f (q++x::suf) st) c:=by
  intro q
  induction q with
  |nil=>intro p st e h;simp at e;exact Ra.bd1 (hx st (e▸h))
  |cons y q ih=>
   intro p st e h
   exact Ra.bd2 (hs p y q st e h) λ st' h'=>ih (p++[y]) st' (by simp[e]) h'
 exact key pre [] st (by simp) h0
theorem Al.each {f:Unit→α→M Unit} {xs:List α} (h:∀ x∈xs,Is (f () x) ()):Is (Ty.Ã0 f xs ()) ():=
 Al.mono (Al.Ã0 (I:=λ _ _=>True) trivial λ pre x suf st e _=>(h x (by rw[e];simp)).mono λ _ _=>trivial) λ _ _=>rfl
theorem Ra.each {f:Unit→α→M Unit} {pre suf:List α} {x:α} {c:Str} (h:∀ x∈pre,Is (f () x) ()) (hx:Ra (f () x) c):Ra (Ty.Ã0 f (pre++x::suf) ()) c:=
 Ra.Ã0 (I:=λ _ _=>True) trivial (λ p y s st e _=>(h y (by rw[e];simp)).mono λ _ _=>trivial) λ _ _=>hx
theorem Ra.eq {m:M α} {c:Str} (h:m=ÄD c):Ra m c:=h▸Ra.rs
theorem Ra.pos {c:Prop} [Decidable c] {a b:M α} {x:Str} (h:c) (h1:Ra a x):Ra (if c then a else b) x:=by rw[if_pos h];exact h1
theorem Ra.neg {c:Prop} [Decidable c] {a b:M α} {x:Str} (h:¬c) (h1:Ra b x):Ra (if c then a else b) x:=by rw[if_neg h];exact h1
def prs:List α→List (α×α)
 |a::b::r=>(a,b)::prs (b::r)
 |_=>[]
end
end Ty
namespace Ty
open PySem Pu
local macro_rules | `(tactic| walk_at "pv") => `(tactic| simp only [Pu.ň, Pu.ė, Pu.Äk, Pu.Âr, Pu.Âs, Pu.Â9, Pu.Äl, Pu.Ât, Pu.Ţ, Pu.Äm, Pu.Âu, Pu.Âv, Pu.ÐB, Pu.ŗ, Pu.Âe, Pu.Âw, Pu.Âx, Pu.Ây, Pu.À3, Pu.À4, Pu.ÀF, Pu.À5, Pu.À6, Pu.À7, Pu.À8, Pu.Ž, Pu.ž, Pu.ÃV, Pu.Ãt, Pu.Än, Pu.Äo, Pu.Âz, Pu.Àa, Pu.ÁX, Pu.ÃW, Pu.ÁY, Pu.Äp, Pu.Âf, Pu.Äq, Pu.ÂA, Pu.Är, Pu.Äs, Pu.Ū, Pu.ÃC, Pu.ÁZ, Pu.ÂB, Pu.Ät, Pu.ÂC, Pu.ÄC, Pu.ũ, Pu.ĸ, Pu.Âg, Pu.ÂD, Pu.ÃD, Pu.ÀG, Pu.ÌL, Pu.ÄS, Pu.Äu, Pu.À9, Pu.ÀH, Pu.Áa, Pu.ÀQ, Pu.ū, Pu.ÁD, Pu.Áb, Pu.Á0, Pu.Âh, Pu.Îe, Pu.ÐC, Pu.Áu, Pu.Áv, Pu.Æk, Pu.Áw, Pu.Àm, Pu.ÂY, Pu.Æl, Pu.Ŕ, Pu.Àb, Pu.Ác, Pu.ÁE, Pu.Ád, Pu.Îf, Pu.ÅD, Pu.Àc, Pu.ÌM, Pu.Àd, Pu.ÃQ, Pu.ÄA, Pu.ÃR, Pu.ÂV, Pu.Â0, Pu.Áy, Pu.Îg, Pu.Â1, Pu.Áz, Pu.Îh, Pu.ÃS, Pu.Àr, Pu.Ş, Pu.Â2, Pu.Òj, Pu.Òk, Pu.Âj, Pu.ÂR, Pu.ÂS, Pu.ÂT, Pu.ÂU, Pu.Àf, Pu.Àg, Pu.Àh, Pu.Ár, Pu.Ás, Pu.ĺ, Pu.ÍC, Pu.Îi, Pu.ÌN, Pu.ÌO, Pu.Æj, Pu.Áe, Pu.Áf, Pu.Ág, Pu.Îj, Pu.Áh, Pu.Ái, Pu.Áj, Pu.ÀI, Pu.Àe, Pu.Îk, Pu.ÌP, Pu.Ák, Pu.ÂE, Pu.ÂF, Pu.Âi, Pu.ÂG, Pu.ÂW, Pu.ÀR, Pu.ÂH, Pu.Äv, Pu.ÂI, Pu.ÂJ, Pu.Äw, Pu.ÂK, Pu.ÂL, Pu.ÂM, Pu.Äx, Pu.ÂN, Pu.ÐD, Pu.ř, Pu.Ś, Pu.ś, Pu.Ài, Pu.Ŝ, Pu.ËD, Pu.ÂX, Pu.Ř, Pu.Át, Pu.ÍA, Pu.ÐE, Pu.ÍB, Pu.ÂP, Pu.ÐF, Pu.ÐG, Pu.Ál, Pu.Ám, Pu.Îl, Pu.ÀJ, Pu.Án, Pu.ÂQ, Pu.Áo, Pu.Áp, Pu.Áq, Pu.Îm, Pu.Àj, Pu.ÌQ, Pu.ŝ, Pu.ËE, Pu.Àk, Pu.Àl, Pu.Ģ, Pu.ÌR, Pu.Éi, Pu.ÂO, Pu.ÐH, Pu.Àq, Pu.ÄB, Pu.Áx, Pu.ÐI, Pu.ÌS, Pu.Òl, Pu.Òm, Pu.În, Pu.ÐJ, Pu.Îo, Pu.ËF, Pu.ËG, Pu.Ês, Pu.ÌT, Pu.ËH, Pu.Îp, Pu.ÌU, Pu.ÂZ, Pu.Àn, Pu.Ào, Pu.Àp, Pu.ÐL, Pu.ÌV, Pu.ËI, Pu.Ît, Pu.ÌW, Pu.Ìb, Pu.ÐM, Pu.ËJ, Pu.Îu, Pu.ÌX, Pu.ÐN, Pu.ËK, Pu.Êt, Pu.ÐO, Fr.ă, Fr.Č, Fr.č, Fr.þ, Fr.Ą, Fr.Ĭ, Fr.Ŋ, Fr.ŋ, Fr.ě, Fr.ĭ, Fr.Ō, Fr.Ŵ, Fr.ŵ, Fr.Į, Fr.ō, Fr.Ŏ, Fr.Ŷ, Fr.ŷ, Fr.į, Fr.ŏ, Fr.Ĝ, Fr.İ, Fr.ı, Fr.Ĕ, Fr.ĝ, Fr.Ĳ, Fr.Ő, Fr.ő, Fr.Ğ, Fr.ĳ, Bool.or_true, Bool.true_or, Bool.and_self, Bool.or_self, Bool.and_true, Bool.true_and, Bool.false_or, Bool.or_false, Bool.false_and, Bool.and_false, List.set_cons_zero, List.set_cons_succ, List.map_cons, List.map_nil, List.cons_append, List.nil_append, List.length_cons, List.length_nil, List.replicate_zero, List.replicate_succ, Nat.reduceSub, Nat.reduceAdd, Nat.zero_add, Nat.sub_self, Nat.reduceLeDiff, Nat.reduceLT, if_true, if_false, ite_true, ite_false, decide_true, decide_false, Bool.not_true, Bool.not_false, Bool.false_eq_true, reduceIte, ne_eq, not_true_eq_false, not_false_eq_true, reduceCtorEq, Option.map_some, Option.map_none, Int.reduceLT, Int.reduceLE, Int.reduceEq, Int.reduceNe, Int.reduceAdd, Int.reduceSub, Int.reduceNeg, Int.reduceToNat])
local macro_rules | `(tactic| walk_at "pvh") => `(tactic| simp only [Pu.ň, Pu.ė, Pu.Äk, Pu.Âr, Pu.Âs, Pu.Â9, Pu.Äl, Pu.Ât, Pu.Ţ, Pu.Äm, Pu.Âu, Pu.Âv, Pu.ÐB, Pu.ŗ, Pu.Âe, Pu.Âw, Pu.Âx, Pu.Ây, Pu.À3, Pu.À4, Pu.ÀF, Pu.À5, Pu.À6, Pu.À7, Pu.À8, Pu.Ž, Pu.ž, Pu.ÃV, Pu.Ãt, Pu.Än, Pu.Äo, Pu.Âz, Pu.Àa, Pu.ÁX, Pu.ÃW, Pu.ÁY, Pu.Äp, Pu.Âf, Pu.Äq, Pu.ÂA, Pu.Är, Pu.Äs, Pu.Ū, Pu.ÃC, Pu.ÁZ, Pu.ÂB, Pu.Ät, Pu.ÂC, Pu.ÄC, Pu.ũ, Pu.ĸ, Pu.Âg, Pu.ÂD, Pu.ÃD, Pu.ÀG, Pu.ÌL, Pu.ÄS, Pu.Äu, Pu.À9, Pu.ÀH, Pu.Áa, Pu.ÀQ, Pu.ū, Pu.ÁD, Pu.Áb, Pu.Á0, Pu.Âh, Pu.Îe, Pu.ÐC, Pu.Áu, Pu.Áv, Pu.Æk, Pu.Áw, Pu.Àm, Pu.ÂY, Pu.Æl, Pu.Ŕ, Pu.Àb, Pu.Ác, Pu.ÁE, Pu.Ád, Pu.Îf, Pu.ÅD, Pu.Àc, Pu.ÌM, Pu.Àd, Pu.ÃQ, Pu.ÄA, Pu.ÃR, Pu.ÂV, Pu.Â0, Pu.Áy, Pu.Îg, Pu.Â1, Pu.Áz, Pu.Îh, Pu.ÃS, Pu.Àr, Pu.Ş, Pu.Â2, Pu.Òj, Pu.Òk, Pu.Âj, Pu.ÂR, Pu.ÂS, Pu.ÂT, Pu.ÂU, Pu.Àf, Pu.Àg, Pu.Àh, Pu.Ár, Pu.Ás, Pu.ĺ, Pu.ÍC, Pu.Îi, Pu.ÌN, Pu.ÌO, Pu.Æj, Pu.Áe, Pu.Áf, Pu.Ág, Pu.Îj, Pu.Áh, Pu.Ái, Pu.Áj, Pu.ÀI, Pu.Àe, Pu.Îk, Pu.ÌP, Pu.Ák, Pu.ÂE, Pu.ÂF, Pu.Âi, Pu.ÂG, Pu.ÂW, Pu.ÀR, Pu.ÂH, Pu.Äv, Pu.ÂI, Pu.ÂJ, Pu.Äw, Pu.ÂK, Pu.ÂL, Pu.ÂM, Pu.Äx, Pu.ÂN, Pu.ÐD, Pu.ř, Pu.Ś, Pu.ś, Pu.Ài, Pu.Ŝ, Pu.ËD, Pu.ÂX, Pu.Ř, Pu.Át, Pu.ÍA, Pu.ÐE, Pu.ÍB, Pu.ÂP, Pu.ÐF, Pu.ÐG, Pu.Ál, Pu.Ám, Pu.Îl, Pu.ÀJ, Pu.Án, Pu.ÂQ, Pu.Áo, Pu.Áp, Pu.Áq, Pu.Îm, Pu.Àj, Pu.ÌQ, Pu.ŝ, Pu.ËE, Pu.Àk, Pu.Àl, Pu.Ģ, Pu.ÌR, Pu.Éi, Pu.ÂO, Pu.ÐH, Pu.Àq, Pu.ÄB, Pu.Áx, Pu.ÐI, Pu.ÌS, Pu.Òl, Pu.Òm, Pu.În, Pu.ÐJ, Pu.Îo, Pu.ËF, Pu.ËG, Pu.Ês, Pu.ÌT, Pu.ËH, Pu.Îp, Pu.ÌU, Pu.ÂZ, Pu.Àn, Pu.Ào, Pu.Àp, Pu.ÐL, Pu.ÌV, Pu.ËI, Pu.Ît, Pu.ÌW, Pu.Ìb, Pu.ÐM, Pu.ËJ, Pu.Îu, Pu.ÌX, Pu.ÐN, Pu.ËK, Pu.Êt, Pu.ÐO, Fr.ă, Fr.Č, Fr.č, Fr.þ, Fr.Ą, Fr.Ĭ, Fr.Ŋ, Fr.ŋ, Fr.ě, Fr.ĭ, Fr.Ō, Fr.Ŵ, Fr.ŵ, Fr.Į, Fr.ō, Fr.Ŏ, Fr.Ŷ, Fr.ŷ, Fr.į, Fr.ŏ, Fr.Ĝ, Fr.İ, Fr.ı, Fr.Ĕ, Fr.ĝ, Fr.Ĳ, Fr.Ő, Fr.ő, Fr.Ğ, Fr.ĳ, Bool.or_true, Bool.true_or, Bool.and_self, Bool.or_self, Bool.and_true, Bool.true_and, Bool.false_or, Bool.or_false, Bool.false_and, Bool.and_false, List.set_cons_zero, List.set_cons_succ, List.map_cons, List.map_nil, List.cons_append, List.nil_append, List.length_cons, List.length_nil, List.replicate_zero, List.replicate_succ, Nat.reduceSub, Nat.reduceAdd, Nat.zero_add, Nat.sub_self, Nat.reduceLeDiff, Nat.reduceLT, if_true, if_false, ite_true, ite_false, decide_true, decide_false, Bool.not_true, Bool.not_false, Bool.false_eq_true, reduceIte, ne_eq, not_true_eq_false, not_false_eq_true, reduceCtorEq, Option.map_some, Option.map_none, Int.reduceLT, Int.reduceLE, Int.reduceEq, Int.reduceNe, Int.reduceAdd, Int.reduceSub, Int.reduceNeg, Int.reduceToNat, *])
theorem ÜB (lo:Int) (n:Nat):rng lo (n+1)=.int lo::rng (lo+1) n:=by
 unfold rng
 rw[List.range_succ_eq_map,List.map_cons,List.map_map]
 congr 1
 ·simp
 ·apply List.map_congr_left
  intro a _
  simp
  omega
def Á6:Nat→W→Prop
 |0,_=>False
 |j+1,d=>match d with
  | .non=>True
  | .bl _=>True
  | .int _=>True
  | .str _=>True
  | .tup xs=>xs.length<1000000∧∀ x∈xs,Á6 j x
  | .lst xs=>xs.length<1000000∧∀ x∈xs,Á6 j x
  |_=>False
section
variable{dw:Dw}
def bSm (rec:Fn):Ì:=(Ù (tNot (tB (Ò rec (Á (É ã (À 0) (À 2)) (Á (É ã (À 1) (À 2)) Ä))))) (Ð (eC (.bl false))) Ñ)
theorem Óz {rec:Fn} (d:W) (xs:List W) (hd:∀ i:Int,ã d (.int i) dw=Ŭ (L2.atI xs i) dw) (hr:∀ x∈xs,rec [x,x] dw=.ok (.bl true) dw):∀ (n lo:Nat) (c:Option W),lo+n=xs.length→∃ c',Ź (gN 2) (bSm rec) (rng lo n) [some d,some d,c] dw=.nx [some d,some d,c'] dw
 |0,_,c,_=>⟨c,rfl⟩
 |n+1,lo,c,h=>by
  have hlt:lo<xs.length:=by omega
  have hat:L2.atI xs (lo:Int)=some xs[lo]:=by rw[Þd,List.getElem?_eq_getElem hlt]
  have hix:ã d (.int (lo:Int)) dw=.ok xs[lo] dw:=by rw[hd,hat];rfl
  have hrx:=hr xs[lo] (List.getElem_mem hlt)
  obtain ⟨c',ih⟩:=Óz d xs hd hr n (lo+1) (some (.int lo)) (by omega)
  refine ⟨c',?_⟩
  rw[ÜB,Íz]
  have hb:bSm rec [some d,some d,some (.int lo)] dw=.nx [some d,some d,some (.int lo)] dw:=by
   unfold bSm
   clear ih hd hr hat h
   walk_at "pvh"
  show ÿ (bSm rec [some d,some d,some (.int lo)] dw) _=_
  rw[hb,ÀF]
  have e:((lo:Int)+1)=((lo+1:Nat):Int):=by omega
  rw[e]
  exact ih
theorem same_refl:∀ (j:Nat) (d:W),Á6 j d→Ãk j [d,d] dw=.ok (.bl true) dw
 |0,_,h=>h.elim
 |j+1,d,h=>by
  show ē 3 (ÌY (Ãk j)) [d,d] dw=_
  unfold ÌY
  cases d with
  | non => walk_at "pv"
  | bl b => walk_at "pv"
  | int i => walk_at "pv"
  | str x => walk_at "pv"
  |tup xs=>
   have hr:∀ x∈xs,Ãk j [x,x] dw=.ok (.bl true) dw:=λ x hx=>same_refl j x (h.2 x hx)
   obtain ⟨c,hw⟩:=Óz (rec:=Ãk j) (dw:=dw) (.tup xs) xs (λ i=>rfl) hr xs.length 0 none (by omega)
   have hR:Fr.inR 4611686018427387903 (xs.length:Int)=true:=ÏQ (by have:=h.1;omega)
   have ht:((xs.length:Nat):Int).toNat=xs.length:=by omega
   show fnK (Æ _ (Æ _ (Æ _ (Æ _ (Æ _ (Æ _ (Æ _ (Æ (ê _ (gN 2) (bSm (Ãk j))) _))))))) _ _)=_
   have e0:(((0:Nat)):Int)=0:=rfl
   rw[e0] at hw
   clear h hr e0
   walk_at "pvh"
  |lst xs=>
   have hr:∀ x∈xs,Ãk j [x,x] dw=.ok (.bl true) dw:=λ x hx=>same_refl j x (h.2 x hx)
   obtain ⟨c,hw⟩:=Óz (rec:=Ãk j) (dw:=dw) (.lst xs) xs (λ i=>rfl) hr xs.length 0 none (by omega)
   have hR:Fr.inR 4611686018427387903 (xs.length:Int)=true:=ÏQ (by have:=h.1;omega)
   have ht:((xs.length:Nat):Int).toNat=xs.length:=by omega
   show fnK (Æ _ (Æ _ (Æ _ (Æ _ (Æ _ (Æ _ (Æ _ (Æ (ê _ (gN 2) (bSm (Ãk j))) _))))))) _ _)=_
   have e0:(((0:Nat)):Int)=0:=rfl
   rw[e0] at hw
   clear h hr e0
   walk_at "pvh"
  |_=>exact h.elim
end
theorem ÒI {α:Type} {en:α→W} {j:Nat} {x:α} (h:Á6 j (en x)):ÅE j en x x=rt true:=by
 funext S
 show bd (Ãk j [en x,en x]) tbK S=_
 unfold bd
 rw[same_refl (dw:=S) j (en x) h]
 rfl
theorem Is.same {α:Type} {en:α→W} {j:Nat} {x:α} (h:Á6 j (en x)):Is (ÅE j en x x) true:=Al.eq (ÒI h) rfl
theorem Ø1 {α:Type} {en:α→W} {j:Nat} {xs:List α} (hl:xs.length<1000000) (h:∀ x∈xs,Á6 j (en x)):Á6 (j+1) (nT en xs):=
 ⟨by simpa using hl,λ w hw=>by obtain ⟨x,hx,rfl⟩:=List.mem_map.mp hw;exact h x hx⟩
theorem Ø2 {α β:Type} {ea:α→W} {eb:β→W} {j:Nat} {p:α×β} (h1:Á6 j (ea p.1)) (h2:Á6 j (eb p.2)):Á6 (j+1) (n2 ea eb p):=
 ⟨by simp,λ w hw=>by
  simp at hw
  rcases hw with rfl|rfl
  ·exact h1
  ·exact h2⟩
theorem Ø3 {f:W→Option PyData} {α:Type} {en:α→W} {d:α→PyData}:∀ {xs:List α},(∀x∈xs,f (en x)=some (d x))→ÉY f (xs.map en)=some (xs.map d)
 | [],_=>rfl
 |x::xs,h=>by
  show (match f (en x),ÉY f (xs.map en) with
   |some d,some ds=>some (d::ds)
   |_,_=>none)=_
  rw[h x (by simp),Ø3 λ y hy=>h y (by simp[hy])]
  rfl
end Ty
namespace Ty
open PySem Pu
abbrev Asc (l:List Int):Prop:=l.Pairwise (·< ·)
theorem Asc.nodup {l:List Int} (h:Asc l):l.Nodup:=List.Pairwise.imp (λ h=>by omega) h
theorem ÈH {x:Int} {l:List Int}:x∈Fr.sortI l↔x∈l:=(Fr.Ëz Fr.leI l).mem_iff
theorem ÊP (l:List Int):(Fr.sortI l).Perm l:=Fr.Ëz Fr.leI l
theorem ÕX (l:List Int):(Fr.sortI l).length=l.length:=(ÊP l).length_eq
theorem ÓA {a b:List Int} (h:a.Perm b):Fr.sortI a=Fr.sortI b:=Fr.Ô3 ((ÊP a).trans h) (Fr.Ñv a)
theorem ÎE {l:List Int} (h:l.Nodup):Asc (Fr.sortI l):=by
 have h1:=Fr.Ñv l
 have h2:(Fr.sortI l).Nodup:=(ÊP l).nodup_iff.mpr h
 exact List.Pairwise.imp (λ ⟨a,b⟩=>by omega) (h1.and h2)
theorem ÕY {l:List Int} (h:Asc l):Fr.sortI l=l:=(Fr.Ô3 (.refl _) (List.Pairwise.imp (λ h=>by omega) h)).symm
theorem É7 {a b:List Int} (ha:Asc a) (hb:Asc b) (h:∀ x,x∈a↔x∈b):a=b:=by
 rw[←ÕY ha,←ÕY hb]
 exact ÓA ((List.perm_ext_iff_of_nodup ha.nodup hb.nodup).mpr h)
theorem ÐY (lo:Int) (n:Nat):Asc (ŭ lo n):=by
 unfold ŭ Asc
 rw[List.pairwise_map]
 exact List.Pairwise.imp (λ h=>by omega) List.pairwise_lt_range
structure ń (n:Nat) (sh:List (List Int)):Prop where
 ne:∀ l∈sh,l≠ []
 asc:∀ l∈sh,Asc l
 perm:sh.flatten.Perm (ŭ 0 n)
theorem ÕZ:∀ {sh:List (List Int)},(∀l∈sh,l≠ [])→sh.length≤sh.flatten.length
 | [],_=>Nat.le_refl _
 |l::L,h=>by
  have h1:=ÕZ (sh:=L) λ x hx=>h x (by simp[hx])
  have h2:0<l.length:=List.length_pos_iff.mpr (h l (by simp))
  rw[List.flatten_cons,List.length_append,List.length_cons]
  omega
section
variable{n:Nat}{sh:List (List Int)}
theorem ń.flat (h:ń n sh):sh.flatten.length=n:=by rw[h.perm.length_eq,Àt]
theorem ń.len (h:ń n sh):sh.length≤n:=by
 have:=ÕZ h.ne
 rw[h.flat] at this
 exact this
theorem ń.pos (h:ń n sh) (hn:0<n):0<sh.length:=by
 cases sh with
 |nil=>
  have:=h.flat
  simp at this
  omega
 |cons=>simp
theorem ń.nodup (h:ń n sh):sh.flatten.Nodup:=h.perm.nodup_iff.mpr (ÐY 0 n).nodup
theorem ń.mem (h:ń n sh) {x:Int}:x∈sh.flatten↔0≤x∧x<n:=by rw[h.perm.mem_iff,ÈF];omega
theorem ń.row (h:ń n sh) {l:List Int} (hl:l∈sh):l.length≤n:=by
 have:=h.flat
 have h2:l.length≤sh.flatten.length:=(List.sublist_flatten_of_mem hl).length_le
 omega
theorem ń.rows (h:ń n sh) {l:List Int} (hl:l∈sh) {x:Int} (hx:x∈l):0≤x∧x<n:=h.mem.mp (List.mem_flatten.mpr ⟨l,hl,hx⟩)
def Ý (sh:List (List Int)) (k:Nat):List Int:=Fr.sortI (sh.take k).flatten
theorem ÐZ {k:Nat} {x:Int}:x∈Ý sh k↔∃ l∈sh.take k,x∈l:=by
 unfold Ý
 rw[ÈH,List.mem_flatten]
theorem ÒJ (h:ń n sh) (k:Nat):(sh.take k).flatten.Nodup:=by
 have e:sh.flatten=(sh.take k).flatten++(sh.drop k).flatten:=by rw[←List.flatten_append,List.take_append_drop]
 have:=h.nodup
 rw[e] at this
 exact (List.nodup_append.mp this).1
theorem ÇU (h:ń n sh) (k:Nat):Asc (Ý sh k):=ÎE (ÒJ h k)
theorem ÇV (h:ń n sh):Ý sh sh.length=ŭ 0 n:=by
 unfold Ý
 rw[List.take_length]
 exact É7 (ÎE h.nodup) (ÐY 0 n) λ x=>by rw[ÈH,h.perm.mem_iff]
def lvl:List Int→List (List Int)→List (List Int)
 |_,[]=>[]
 |b,c::cs=>(c.filter λ x=>!b.contains x)::lvl c cs
def Íe:List Int→List (List Int)→List (List Int)
 |_,[]=>[]
 |acc,l::ls=>Fr.sortI (acc++l)::Íe (acc++l) ls
theorem ÑL:∀ {acc:List Int} {ls:List (List Int)} {i:Nat},i<ls.length→(Íe acc ls)[i]?=some (Fr.sortI (acc++(ls.take (i+1)).flatten))
 |acc,l::ls,0,_=>by
  show some (Fr.sortI (acc++l))=some (Fr.sortI (acc++([l]:List (List Int)).flatten))
  simp
 |acc,l::ls,i+1,h=>by
  show (Íe (acc++l) ls)[i]?=_
  rw[ÑL (by simpa using h)]
  simp
theorem Õ0:∀ {acc:List Int} {ls:List (List Int)},(Íe acc ls).length=ls.length
 |_,[]=>rfl
 |acc,l::ls=>by
  show (Íe (acc++l) ls).length+1=_
  rw[Õ0]
  rfl
theorem Ø4 (h:ń n sh) (hn:0<n):((ŭ 1 (sh.length-1)).map λ (k:Int)=>Ý sh k.toNat)++[ŭ 0 n]=Íe [] sh:=by
 have hp:=h.pos hn
 apply List.ext_getElem?
 intro i
 by_cases c:i<sh.length-1
 ·rw[List.getElem?_append_left (by rw[List.length_map,Àt];exact c),List.getElem?_map,É2 c,ÑL (by omega)]
  show some (Ý sh (1+(i:Int)).toNat)=_
  rw[show (1+(i:Int)).toNat=i+1 by omega]
  rfl
 ·rw[List.getElem?_append_right (by rw[List.length_map,Àt];omega),List.length_map,Àt]
  by_cases d:i=sh.length-1
  ·subst d
   rw[Nat.sub_self,ÑL (by omega),show sh.length-1+1=sh.length by omega,←ÇV h]
   rfl
  ·rw[List.getElem?_eq_none (by simp;omega),List.getElem?_eq_none (by rw[Õ0];omega)]
theorem ÑM:∀ {acc:List Int} {ls:List (List Int)},(acc++ls.flatten).Nodup→(∀l∈ls,Asc l)→lvl (Fr.sortI acc) (Íe acc ls)=ls
 |_,[],_,_=>rfl
 |acc,l::ls,hd,ha=>by
  unfold Íe lvl
  rw[List.flatten_cons,←List.append_assoc] at hd
  have hd1:=(List.nodup_append.mp hd).1
  rw[ÑM hd λ x hx=>ha x (by simp[hx])]
  congr 1
  refine É7 (List.Pairwise.filter _ (ÎE hd1)) (ha l (by simp)) λ x=>?_
  rw[List.mem_filter,ÈH,List.mem_append]
  obtain ⟨_,_,h3⟩:=List.nodup_append.mp hd1
  constructor
  ·rintro ⟨q|q,r⟩
   ·simp[ÈH,q] at r
   ·exact q
  ·intro q
   refine ⟨.inr q,?_⟩
   have:x∉acc:=λ z=>h3 x z x q rfl
   simp[ÈH,this]
theorem ń.à9 (h:ń n sh) {i j:Nat} {l l':List Int} {x:Int} (hi:sh[i]?=some l) (hj:sh[j]?=some l') (hx:x∈l) (hx':x∈l'):i=j:=by
 have key:∀ {sh:List (List Int)} {i j:Nat} {l l':List Int} {x:Int},sh.flatten.Nodup→sh[i]?=some l→sh[j]?=some l'→x∈l→x∈l'→i<j→False:=by
  intro sh
  induction sh with
  |nil=>intro i j l l' x _ h;simp at h
  |cons a sh ih=>
   intro i j l l' x hn hi hj hx hx' hij
   rw[List.flatten_cons] at hn
   obtain ⟨_,n2,n3⟩:=List.nodup_append.mp hn
   cases j with
   |zero=>omega
   |succ j=>
    rw[List.getElem?_cons_succ] at hj
    cases i with
    |zero=>
     simp at hi
     subst hi
     exact n3 x hx x (List.mem_flatten.mpr ⟨l',List.mem_of_getElem? hj,hx'⟩) rfl
    |succ i=>
     rw[List.getElem?_cons_succ] at hi
     exact ih n2 hi hj hx hx' (by omega)
 rcases Nat.lt_trichotomy i j with c|c|c
 ·exact (key h.nodup hi hj hx hx' c).elim
 ·exact c
 ·exact (key h.nodup hj hi hx' hx c).elim
end
end Ty
namespace Ty
open PySem Pu
section
variable{α:Type}{f g i n:Fo α}{c:List α}{l:Int}{z:Zt α}
namespace Fo
def dep:Fo α→Nat
 |nil=>1
 |row _ i n=>max (i.dep+1) n.dep
def siz:Fo α→Nat
 |nil=>0
 |row _ i n=>i.siz+1+n.siz
end Fo
def ÇW (l:Int):Fo α→Rw0 α
 | .nil=>[]
 | .row c i n=>(l,c)::(ÇW (l+1) i++ÇW l n)
theorem ÓB:∀ f:Fo α,1≤f.dep
 | .nil=>Nat.le_refl _
 | .row c i n=>by unfold Fo.dep;have:=ÓB n;omega
theorem Ø5:∀ f:Fo α,f.len≤f.siz
 | .nil=>Nat.le_refl _
 | .row c i n=>by unfold Fo.len Fo.siz;have:=Ø5 n;omega
def seg (b:Int):List (List α)→Rw0 α
 | []=>[]
 |c::cs=>(b,c)::seg (b+1) cs
def listed:Ol α→Rw0 α
 | []=>[]
 |x::r=>seg x.1 (x.2.drop x.1.toNat)++listed r
def chP:Int→Ol α→Prop
 |_,[]=>True
 |n,x::r=>0≤x.1∧x.1≤n∧x.1≤x.2.length∧chP x.2.length r
def Vd:List (List α)→Ol α→Prop
 |_,[]=>True
 |p,x::r=>(0≤x.1∧x.1<x.2.length)∧(x.1<p.length∨p=[]∧x.1=0)∧x.2.take x.1.toNat=p.take x.1.toNat∧Vd x.2 r
def Þe (p:List (List α)):Ol α→List (List α)
 | []=>p
 |x::r=>Þe x.2 r
theorem Vd.app:∀ {xs ys:Ol α} {p:List (List α)},Vd p xs→Vd (Þe p xs) ys→Vd p (xs++ys)
 | [],_,_,_,h=>h
 |x::r,ys,p,⟨h1,h2,h3,h4⟩,h=>⟨h1,h2,h3,h4.app h⟩
theorem Õ1 {en:α→W} (he:∀ (v:α) (j:Nat),Á6 (j+2) (en v)):∀ (k:Nat) (f:Fo α),f.dep≤k→f.siz<1000000→(∀x∈ÇW 0 f,x.2.length<1000000)→Á6 (2*k+2) (nFo en f)
 |0,f,h,_,_=>by have:=ÓB f;omega
 |k+1,f,h,hs,hc=>by
  refine ⟨by rw[Ó8];have:=Ø5 f;omega,?_⟩
  show ∀w∈ÐV en f,Á6 (2*(k+1)+1) w
  have lv:∀ (f:Fo α) (a b:Int),(∀x∈ÇW a f,x.2.length<1000000)→∀ x∈ÇW b f,x.2.length<1000000:=by
   intro f
   induction f with
   |nil=>intro a b _ x hx;cases hx
   |row c i n ih1 ih2=>
    intro a b h x hx
    rcases List.mem_cons.mp hx with rfl|hx
    ·exact h (a,c) (by simp[ÇW])
    ·rcases List.mem_append.mp hx with hx|hx
     ·exact ih1 (a+1) (b+1) (λ y hy=>h y (by simp[ÇW,hy])) x hx
     ·exact ih2 a b (λ y hy=>h y (by simp[ÇW,hy])) x hx
  induction f with
  |nil=>intro w hw;cases hw
  |row c i n _ ih=>
   unfold Fo.dep at h
   unfold Fo.siz at hs
   intro w hw
   rcases List.mem_cons.mp hw with rfl|hw
   ·refine ⟨by simp,λ u hu=>?_⟩
    simp only[List.mem_cons,List.not_mem_nil,or_false] at hu
    rcases hu with rfl|rfl
    ·exact ⟨by rw[List.length_map];exact hc (0,c) (by simp[ÇW]),λ y hy=>by
      obtain ⟨v,_,rfl⟩:=List.mem_map.mp hy
      obtain ⟨k0,rfl⟩:∃ k0,k=k0+1:=⟨k-1,by have:=ÓB i;omega⟩
      exact he v (2*k0+1)⟩
    ·exact Õ1 he k i (by omega) (by omega) (lv i 1 0 λ x hx=>hc x (by simp[ÇW,hx]))
   ·exact ih (by omega) (by omega) (λ x hx=>hc x (by simp[ÇW,hx])) w hw
end
end Ty
namespace Ty
open PySem Pu
structure DOk {α:Type} [DecidableEq α] (en:α→W) (d:α→PyData) (k:Nat) (P:α→Prop):Prop where
 to:∀ m x,P x→toP (m+k+1) (en x)=some (d x)
 eqv:∀ x y,PyData.eqv (d x) (d y)=decide (x=y)
 lay:∀ x,P x→PyData.canLay0 (d x)=true
 dep:∀ x,PyData.depth (d x)≤k
section
variable{α:Type}[DecidableEq α]{en:α→W}{d:α→PyData}{k:Nat}{P:α→Prop}
theorem DOk.tup (h:DOk en d k P):DOk (nT en) (λ xs:List α=>PyData.tuple (xs.map d)) (k+1) (λ xs=>∀ x∈xs,P x) where
 to m xs hx:=by
  show (ÉY (toP (m+k+1)) (xs.map en)).map PyData.tuple=_
  rw[Ø3 (d:=d) λ x hm=>h.to m x (hx x hm)]
  rfl
 eqv xs ys:=by
  show PyData.eqvAll (xs.map d) (ys.map d)=_
  induction xs generalizing ys with
  |nil=>cases ys with
   |nil=>rfl
   |cons y ys=>exact (decide_eq_false (by simp)).symm
  |cons x xs ih=>cases ys with
   |nil=>exact (decide_eq_false (by simp)).symm
   |cons y ys=>
    show (PyData.eqv (d x) (d y)&&PyData.eqvAll (xs.map d) (ys.map d))=_
    rw[h.eqv,ih]
    by_cases c:x=y
    ·by_cases c2:xs=ys
     ·simp[c,c2]
     ·simp[c,c2]
    ·simp[c]
 lay xs hx:=by
  show PyData.canLayAll0 (xs.map d)=true
  induction xs with
  |nil=>rfl
  |cons x xs ih=>
   show (PyData.canLay0 (d x)&&PyData.canLayAll0 (xs.map d))=true
   rw[h.lay x (hx x (by simp)),ih λ y hy=>hx y (by simp[hy])]
   rfl
 dep xs:=by
  show PyData.depthAll (xs.map d)+1≤k+1
  have:PyData.depthAll (xs.map d)≤k:=by
   induction xs with
   |nil=>exact Nat.zero_le _
   |cons x xs ih=>
    show max (PyData.depth (d x)) (PyData.depthAll (xs.map d))≤k
    have:=h.dep x
    omega
  omega
end
section
variable{α:Type}[DecidableEq α]{en:α→W}{d:List α→PyData}{k:Nat}{P:List α→Prop}
theorem DOk.áa (h:DOk (nT en) d k P) (hk:k≤30) {x y:List α} (hx:P x) (hy:P y):Pu.eqX (nT en x) (nT en y)=some (decide (x=y)):=by
 have t1:toP 40 (nT en x)=some (d x):=by have:=h.to (39-k) x hx;rwa [show 39-k+k+1=40 by omega] at this
 have t2:toP 40 (nT en y)=some (d y):=by have:=h.to (39-k) y hy;rwa [show 39-k+k+1=40 by omega] at this
 have s1:SeqAt.shaped (d x)=true:=by unfold SeqAt.shaped;rw[h.lay x hx];have:=h.dep x;rw[decide_eq_true (by omega)];rfl
 have s2:SeqAt.shaped (d y)=true:=by unfold SeqAt.shaped;rw[h.lay y hy];have:=h.dep y;rw[decide_eq_true (by omega)];rfl
 have e0:eqW (nT en x) (nT en y)=none:=rfl
 unfold Pu.eqX
 rw[e0,t1,t2]
 simp only[s1,s2,Bool.and_self,if_true,h.eqv]
theorem DOk.eq (h:DOk (nT en) d k P) (hk:k≤30) {x y:List α} (hx:P x) (hy:P y):eqT (nT en) x y=rt (decide (x=y)):=by
 unfold eqT Ė
 rw[h.áa hk hx hy]
 rfl
theorem DOk.ne (h:DOk (nT en) d k P) (hk:k≤30) {x y:List α} (hx:P x) (hy:P y):neT (nT en) x y=rt (!decide (x=y)):=by
 unfold neT neM
 rw[h.áa hk hx hy]
 rfl
end
abbrev Val:=Str×Int
def dV (v:Val):PyData:=.tuple [.str v.1,.int v.2]
def okC (c:List Val):Prop:=∀ v∈c,PyData.strOk v.1=true
def okP (p:List (List Val)):Prop:=∀ c∈p,okC c
theorem Vd.each:∀ {xs:Ol Val} {p:List (List Val)},Vd p xs→∀ y∈xs,0≤y.1∧y.1<y.2.length
 | [],_,_,_,h=>nomatch h
 |x::r,p,v,y,h=>by
  rcases List.mem_cons.mp h with rfl|h
  ·exact v.1
  ·exact v.2.2.2.each y h
end Ty
namespace Ty
open PySem Pu
end Ty
namespace Ty
open PySem Pu TL
end Ty
namespace Ty
open PySem Pu TL
structure Sep (S:Str) (d:Nat):Prop where
 t:tl S=[d]
 k:S.cps.all (·< 256)=true
 one:(S.length==0)=false
 len:S.length=1
section
variable{S s x y:Str}{d:Nat}{ws:List Str}
theorem áb (c:Nat) (r acc:List Nat):spl [d] 0 acc (c::r)=if c=d then acc::spl [d] 0 [] r else spl [d] 0 (acc++[c]) r:=by
 by_cases h:c=d
 ·subst h
  have hp:pre [c] (c::r)=true:=by
   unfold pre
   simp
  rw[if_pos rfl,spl_hit hp]
  rfl
 ·rw[if_neg h,spl_miss (pre_of_head [] r h)]
theorem Ø6:∀ (l acc:List Nat),spl [d] 0 acc l≠ []
 | [],acc=>by rw[spl_nil];simp
 |c::r,acc=>by
  rw[áb]
  by_cases h:c=d
  ·rw[if_pos h];simp
  ·rw[if_neg h];exact Ø6 r _
theorem ÑN:∀ (l acc:List Nat) (w:List Nat),w∈spl [d] 0 acc l→w.length≤acc.length+l.length∧(∀c∈w,c∈acc∨c∈l)∧(d∉acc→d∉w)
 | [],acc,w,h=>by
  rw[spl_nil] at h
  rw[List.mem_singleton.mp h]
  exact ⟨by simp,λ c hc=>.inl hc,λ h=>h⟩
 |c::r,acc,w,h=>by
  rw[áb] at h
  by_cases hc:c=d
  ·rw[if_pos hc] at h
   rcases List.mem_cons.mp h with rfl|h
   ·exact ⟨by simp,λ c hc=>.inl hc,λ h=>h⟩
   ·obtain ⟨h1,h2,h3⟩:=ÑN r [] w h
    refine ⟨by simp at h1 ⊢;omega,λ c hc=>?_,λ _=>h3 (by simp)⟩
    rcases h2 c hc with q|q
    ·cases q
    ·exact .inr (by simp[q])
  ·rw[if_neg hc] at h
   obtain ⟨h1,h2,h3⟩:=ÑN r (acc++[c]) w h
   refine ⟨by simp at h1 ⊢;omega,λ e he=>?_,λ hn=>h3 (by simp[hn];exact λ z=>hc z.symm)⟩
   rcases h2 e he with q|q
   ·rcases List.mem_append.mp q with q|q
    ·exact .inl q
    ·rw[List.mem_singleton.mp q];exact .inr (by simp)
   ·exact .inr (by simp[q])
section
variable(P:Sep S d)
include P
theorem Sep.Õ2:(Txt.split s S).map tl=spl [d] 0 [] (tl s):=by
 have h:=split_spl s S (by rw[P.t];simp) (kind_ok P.k)
 rwa [P.t] at h
theorem Sep.ne:Txt.split s S≠ []:=λ h=>by
 have e:=P.Õ2 (s:=s)
 rw[h] at e
 exact Ø6 _ _ e.symm
theorem Sep.pos:0<(Txt.split s S).length:=List.length_pos_iff.mpr P.ne
theorem Sep.mem {w:Str} (h:w∈Txt.split s S):w.length≤s.length∧(∀c∈tl w,c∈tl s)∧d∉tl w:=by
 have:tl w∈spl [d] 0 [] (tl s):=by rw[←P.Õ2];exact List.mem_map_of_mem h
 obtain ⟨h1,h2,h3⟩:=ÑN _ _ _ this
 refine ⟨by rw[len_tl,len_tl];simpa using h1,λ c hc=>?_,h3 (by simp)⟩
 rcases h2 c hc with q|q
 ·cases q
 ·exact q
end
end
end Ty
namespace Ty
open PySem Pu
section
variable{α γ ρ σ:Type}{mo:Mode γ}{rest:Ì}{X:Option K}{E:σ→K}{er:ρ→W}{k:K}
end
end Ty
namespace Ty
open PySem Pu
end Ty
namespace Ty
open PySem Pu
section
variable{γ:Type}{mo:Mode γ}{k:K}{e:Exp}{α:Type}{en:α→W}{t:M α}
end
end Ty
namespace Ty
open PySem Pu
section
variable{α:Type}{en:α→W}{k:K}
def Ð0 (kvs:List (Int×α)) (k:Int):Option α:=(kvs.find? λ p=>decide (p.1=k)).map (·.2)
def ác (kvs:List (Int×α)) (k:Int):Bool:=(Ð0 kvs k).isSome
def ád (kvs:List (Int×α)) (k:Int):M α:=Ŭ (Ð0 kvs k)
def Õ3 (kvs:List (Int×α)) (k:Int) (v:α):List (Int×α):=if (kvs.any λ p=>decide (p.1=k))=true then kvs.map (λ p=>if p.1=k then (p.1,v) else p) else kvs++[(k,v)]
end
end Ty
namespace Ty
open PySem Pu
section
variable{α β:Type}{en:α→W}{eb:β→W}{k:K}{i:Nat}
abbrev nDn (e:α→W) (kvs:List (NestedKey×α)):W:=.dt (kvs.map λ p=>(p.1,e p.2))
def Ĵ (kvs:List (NestedKey×α)) (k:NestedKey):Option α:=(kvs.find? λ p=>decide (p.1=k)).map (·.2)
def Çr (kvs:List (NestedKey×α)) (k:NestedKey) (v:α):List (NestedKey×α):=if (kvs.any λ p=>decide (p.1=k))=true then kvs.map (λ p=>if p.1=k then (p.1,v) else p) else kvs++[(k,v)]
def ÄH (kvs:List (NestedKey×α)) (o:Option NestedKey):M α:=Ŭ (match o with
 |some k=>Ĵ kvs k
 |none=>none)
def Én (kvs:List (NestedKey×α)) (o:Option NestedKey) (v:α):M (List (NestedKey×α)):=match o with
 |some k=>if kvs.length<16777216 then rt (Çr kvs k v) else bad
 |none=>bad
theorem áe (kvs:List (NestedKey×α)) (k:NestedKey):Òo (kvs.map λ p=>(p.1,en p.2)) k=(Ĵ kvs k).map en:=by
 unfold Òo Ĵ
 induction kvs with
 |nil=>rfl
 |cons p kvs ih=>
  rw[List.map_cons,List.find?_cons,List.find?_cons]
  by_cases h:p.1=k
  ·have h2:decide (p.1=k)=true:=decide_eq_true h
   simp only[h2]
   rfl
  ·have h2:decide (p.1=k)=false:=decide_eq_false h
   simp only[h2]
   exact ih
theorem Þf (kvs:List (NestedKey×α)) (w:W):Ŭ (atN (kvs.map λ p=>(p.1,en p.2)) w)=em en (ÄH kvs (Đ w)):=by
 unfold atN ÄH
 cases Đ w with
 |none=>rfl
 |some k=>
  simp only
  rw[áe]
  cases Ĵ kvs k<;>rfl
theorem ÎF (kvs:List (NestedKey×α)) (b:β):f2 Ũ [nDn en kvs,eb b]=em en (ÄH kvs (Đ (eb b))):=Þf kvs (eb b)
theorem ÜC (kvs:List (NestedKey×α)) (k:NestedKey) (v:α):ËM (kvs.map λ p=>(p.1,en p.2)) k (en v)=(Çr kvs k v).map λ p=>(p.1,en p.2):=by
 unfold ËM Çr
 have e:((kvs.map λ p=>(p.1,en p.2)).any λ kv=>decide (kv.1=k))=kvs.any λ p=>decide (p.1=k):=by
  rw[List.any_map]
  rfl
 rw[e]
 split
 ·rw[List.map_map,List.map_map]
  refine List.map_congr_left λ p _=>?_
  show (if p.1=k then (p.1,en v) else (p.1,en p.2))=((if p.1=k then (p.1,v) else p).1,en (if p.1=k then (p.1,v) else p).2)
  by_cases h:p.1=k
  ·rw[if_pos h,if_pos h]
  ·rw[if_neg h,if_neg h]
 ·rw[List.map_append]
  rfl
theorem ÓC {s:Sl} {kvs:List (NestedKey×α)} (g:Ag k s) (hk:k[i]?=some (some (nDn en kvs))):ÀC s i=some (kvs.map λ p=>(p.1,en p.2)):=by
 have h:=g.get hk
 unfold ÀC
 rw[h]
theorem ngD {fk:Exp} {tk:M β} {kvs:List (NestedKey×α)} (hk:k[i]?=some (some (nDn en kvs))) (h:TE k fk tk eb):TE k (ÐR i fk) (bd tk λ b=>ÄH kvs (Đ (eb b))) en:=λ s g=>by
 show (match ÀC s i with
  |some kvs=>bd (fk s) λ y=>Ŭ (atN kvs y)
  |none=>bad)=_
 rw[ÓC g hk]
 simp only
 rw[h s g,Âl,ÃY]
 congr 1
 funext b
 exact Þf kvs (eb b)
theorem acN {γ θ:Type} {a:Pu.Arg} {m:M γ} {F:List W→M θ} {ez:γ→θ} {kvs:List (NestedKey×α)} (h1:k[i]?=some (some (nDn en kvs))) (h2:TA k a (λ ys=>F (nDn en kvs::ys)) m ez):TA k (ÍF i a) F m ez:=λ s g=>by
 have e0:ÍF i a s=bd (a s) λ ys=>rt (nDn en kvs::ys):=by
  funext S
  unfold ÍF
  simp only[ÓC g h1]
 rw[e0,Èx]
 exact h2 s g
theorem Ûv {γ:Type} {mo:Mode γ} {rest:Ì} {m:M γ} (hx:NX mo.X i) (h:TS mo (k.set i (some (nDn en []))) rest m):TS mo k (Æ (ÔJ i) rest) m:=λ l s S g=>h (l.set hx) (s.set i (some (.dt []))) S g.set
theorem Ûw {γ:Type} {mo:Mode γ} {rest:Ì} {fi fe:Exp} {kvs:List (NestedKey×α)} {tv:M α} {tk:M β} {m:List (NestedKey×α)→M γ} (hk:k[i]?=some (some (nDn en kvs))) (hv:TE k fe tv en) (hi:TE k fi tk eb) (hx:NX mo.X i)
  (h:∀ kvs',TS mo (k.set i (some (nDn en kvs'))) rest (m kvs')):
  TS mo k (Æ (Òp i fi fe) rest) (bd tv λ v=>bd tk λ j=>bd (Én kvs (Đ (eb j)) v) m):=λ l s S g=>by
 show mo.rel (Ă (match ÀC s i with
  |some kvs=>â (bd (fe s) (λ v=>bd (fi s) λ k=>rt (k,v)) S) s λ kv S'=>match Đ kv.1 with
   |some k=>if kvs.length<16777216 then .nx (s.set i (some (.dt (ËM kvs k kv.2)))) S' else .bad
   |none=>.bad
  |none=>.bad) rest) _
 rw[ÓC g hk]
 simp only
 rw[Åv]
 have e1:bd (fe s) (λ v=>bd (fi s) λ k=>rt (k,v))=em (λ (p:β×α)=>(eb p.1,en p.2)) (bd tv λ v=>bd tk λ j=>rt (j,v)):=by
  rw[hv s g,Âl,ÃY]
  congr 1;funext v
  rw[hi s g,Âl,ÃY]
  rfl
 have e2:(bd tv λ v=>bd tk λ j=>bd (Én kvs (Đ (eb j)) v) m)=bd (bd tv λ v=>bd tk λ j=>rt (j,v)) λ p=>bd (Én kvs (Đ (eb p.1)) p.2) m:=by
  rw[Èx]
  congr 1;funext v
  rw[Èx]
  rfl
 rw[e2]
 refine ÆD e1 (l.ok g) λ p S'=>?_
 show mo.rel (Ă (match Đ (eb p.1) with
  |some k=>if (kvs.map λ p=>(p.1,en p.2)).length<16777216 then .nx (s.set i (some (.dt (ËM (kvs.map λ p=>(p.1,en p.2)) k (en p.2))))) S' else .bad
  |none=>.bad) rest) _
 unfold Én
 cases Đ (eb p.1) with
 |none=>exact mo.hb
 |some kk=>
  simp only
  rw[List.length_map,ÜC]
  by_cases c:kvs.length<16777216
  ·rw[if_pos c,if_pos c]
   have:=h (Çr kvs kk p.2) (l.set hx) (s.set i (some (nDn en (Çr kvs kk p.2)))) S' g.set
   simpa[nDn,Ă,bd,rt] using this
  ·rw[if_neg c,if_neg c]
   exact mo.hb
end
end Ty
namespace Ty
open PySem Pu
section
variable{σ α ρ γ:Type}{X:Option K}{E:σ→K}{k:K}{it:Sl→M (List W)}{g:Ā}{b rest:Ì}{en:α→W}{mo:Mode γ}
end
end Ty
namespace Fr
open PySem PySem.Spec PyProof.Rows L2 ClX
section
variable{X:Cx}{C:Cc}{a b o e i:Expr}{fa fb fo fe fi:Exp}{pos tpos:Pos}{A:Addr}{c:Str}{ta tb:TE}{E:L2.St→XK}
structure IsO (K:PySem.W.Frag) (A:Addr):Prop where
 cl:Cls K A
 at_:PySem.W.findIn K (.ref A) "__class__" =some (some (.builtin "object.__class__"))
 get:PySem.W.specialIn K (.builtin "object.__class__") "__get__" =some (some (.builtin "getset_descriptor.__get__"))
 tk:PySem.W.takesIn K (.builtin "object.__class__")=some true
 mro:PySem.W.mroIn K A (.type "object")=some true
end
end Fr
namespace Pu
open PySem
section
variable{md:List Nat}{k:Nat}
end
end Pu
namespace Fr
open PySem PySem.Spec PyProof.Rows L2 RT RZ
section
variable{X:Cx}{C:Cc}{tg e:Expr}
end
end Fr
namespace Pu
open PySem
section
variable{md:List Nat}
end
end Pu
namespace Ty
open PySem Pu
section
variable{α β:Type}{en:α→W}{k:K}{e:Exp}
theorem Ìb {c:Str} {fs:List (Str×W)}:ī (.ob c fs) c=some fs:=by unfold ī;simp
end
end Ty
namespace Ty
open PySem Pu
structure Stp where
 word:Str
 level:Int
 cols:Option (List Int)
def ÜD (s:Stp):W:=match s.cols with
 |none=>.tup [nS s.word,nI s.level]
 |some c=>.tup [nS s.word,nI s.level,nT nI c]
instance:Nn ÜD:=⟨λ v h=>by
 obtain ⟨w,l,c⟩:=v
 cases c<;>cases h⟩
instance:Nl ÜD:=⟨λ v=>by
 obtain ⟨w,l,c⟩:=v
 cases c with
 |none=>exact Nl.h (en:=n2 nS nI) (w,l)
 |some c=>exact Nl.h (en:=n3 nS nI (nT nI)) (w,l,c)⟩
instance:Ft ÜD:=⟨λ v=>by
 obtain ⟨w,l,c⟩:=v
 cases c with
 |none=>exact Ft.ft (en:=n2 nS nI) (w,l)
 |some c=>exact Ft.ft (en:=n3 nS nI (nT nI)) (w,l,c)⟩
end Ty
namespace Ty
open PySem Pu
section
variable{α β γ:Type}{en:α→W}{ea:β→W}{k:K}
end
end Ty
namespace Ty
open PySem Pu
end Ty
namespace Fr
open PySem PySem.Spec PyProof.Rows L2 ClX
def blW (r:W):M W:=match r with
 | .bl b=>rt (.bl b)
 |_=>bad
section
variable{X:Cx}{C:Cc}{a b o e:Expr}{fa fb fo fe:Exp}{pos tpos:Pos}{A:Addr}{c:Str}{ta tb:TE}{E:L2.St→XK}
theorem WG.blK {f:M W} {S:Å} {m:List Addr} {H:Hp} {Q:VK} {E:XK} {K:PySem.W.Frag} {mg:Str→Option Value} (w:WG Wd K mg (RV K mg) (bd f blW S) m H Q E):WG Wd K mg (RV K mg) (f S) m H (λ v H'=>∃ k:Bool,v=.bl k∧Q (.bl k) H') E:=by
 unfold bd at w
 cases hf:f S with
 |ok x S=>
  rw[hf] at w
  cases x with
  |bl b=>
   intro m' H' v ex sm rv
   obtain rfl:=Ň.1 rv
   exact ⟨b,rfl,w m' H' _ ex sm (Ň.2 rfl)⟩
  |_=>exact False.elim w
 |ex c d S=>rw[hf] at w;exact w
 |bad=>rw[hf] at w;exact False.elim w
def ãr (r:W):M W:=match r with
 | .bl b=>rt (.bl !b)
 |_=>bad
theorem WG.Û6 {f:M W} {S:Å} {m:List Addr} {H:Hp} {Q:VK} {E:XK} {K:PySem.W.Frag} {mg:Str→Option Value} (w:WG Wd K mg (RV K mg) (bd (bd f blW) ãr S) m H Q E):WG Wd K mg (RV K mg) (f S) m H (λ v H'=>∃ k:Bool,v=.bl k∧Q (.bl !k) H') E:=by
 unfold bd at w
 cases hf:f S with
 |ok x S=>
  simp only[hf] at w
  cases x with
  |bl b=>
   intro m' H' v ex sm rv
   obtain rfl:=Ň.1 rv
   exact ⟨b,rfl,w m' H' _ ex sm (Ň.2 rfl)⟩
  |_=>exact False.elim w
 |ex c d S=>simp only[hf] at w;exact w
 |bad=>simp only[hf] at w;exact False.elim w
variable{es:List Expr}{fr:Arg}{t:TA}{p:Pos}
end
section
variable{Wd:World}{K:PySem.W.Frag}
end
end Fr
namespace Fr
open PySem PySem.Spec PyProof.Rows L2 ClX
section
variable{X:Cx}{C:Cc}{a b o e:Expr}{fa fb fo fe:Exp}{pos tpos:Pos}{A:Addr}{c:Str}{ta tb:TE}{E:L2.St→XK}
end
end Fr
namespace Pu
open PySem
def blW (r:W):M W:=match r with
 | .bl b=>rt (.bl b)
 |_=>bad
section
variable{md:List Nat}{k:Nat}
end
end Pu
namespace Ty
open PySem Pu
section
variable{α β γ:Type}{en:α→W}{k:K}{a b:Exp}
end
end Ty
namespace Fr
open PySem PySem.Spec PyProof.Rows L2 ClX
section
variable{X:Cx}
end
end Fr
namespace Pu
open PySem
end Pu
namespace Ty
open PySem Pu
section
variable{α:Type}
end
end Ty
namespace ãs
open PySem PySem.Sem RZ
def ItB (b:Bool) (h:Heap) (i l:Addr) (k:Nat):Prop:=if b=true then h.IsListIter i l k else h.IsTupleIter i l k
def SqB (b:Bool) (h:Heap) (l:Addr) (xs:Array Value):Prop:=if b=true then h.IsList l xs else h.IsTuple l xs
theorem ItB.at {b:Bool} {h h':Heap} {i l:Addr} {k:Nat} (q:ItB b h i l k) (e:∀ o,h.get? i=some o→h'.get? i=some o):ItB b h' i l k:=by
 cases b
 ·exact Heap.IsTupleIter.at q e
 ·exact Heap.IsListIter.at q e
theorem SqB.at {b:Bool} {h h':Heap} {l:Addr} {xs:Array Value} (q:SqB b h l xs) (e:∀ o,h.get? l=some o→h'.get? l=some o):SqB b h' l xs:=by
 cases b
 ·exact Heap.IsTuple.at q e
 ·exact Heap.IsList.at q e
theorem ItB.extBut {b:Bool} {h h':Heap} {i l z:Addr} {k:Nat} (q:ItB b h i l k) (e:Heap.ExtBut z h h') (n:i≠z):ItB b h' i l k:=q.at λ o w=>e i o n w
theorem SqB.extBut {b:Bool} {h h':Heap} {l z:Addr} {xs:Array Value} (q:SqB b h l xs) (e:Heap.ExtBut z h h') (n:l≠z):SqB b h' l xs:=q.at λ o w=>e l o n w
theorem ItB.has {b:Bool} {h:Heap} {i l:Addr} {k:Nat} (q:ItB b h i l k):∃ o,h.get? i=some o:=by
 cases b
 ·obtain ⟨o,e,_⟩:=(show h.IsTupleIter i l k from q);exact ⟨o,e⟩
 ·obtain ⟨o,e,_⟩:=(show h.IsListIter i l k from q);exact ⟨o,e⟩
theorem SqB.has {b:Bool} {h:Heap} {l:Addr} {xs:Array Value} (q:SqB b h l xs):∃ o,h.get? l=some o:=by
 cases b
 ·obtain ⟨o,e,_⟩:=(show h.IsTuple l xs from q);exact ⟨o,e⟩
 ·obtain ⟨o,e,_⟩:=(show h.IsList l xs from q);exact ⟨o,e⟩
section
variable{prog:Program}{w:World}{A:Around}{E:Value→Shared→Prop}{s:Shared}{b:Bool}
theorem ItB.draw (hh:A.handled=none) (i l:Addr) (n:l≠i) (xs:Array Value):Draws prog w A i [i,l] xs.size (λ j v=>xs[j]?=some v) (λ j h=>ItB b h i l j∧SqB b h l xs):=by
 cases b
 ·exact Draws.tuple hh i l n xs
 ·exact Draws.list hh i l n xs
theorem ItB.item {i l:Addr} {k:Nat} {xs:Array Value} {x:Value} {Q:Value→Shared→Prop} (q:ItB b s.heap i l k) (q2:SqB b s.heap l xs) (hx:xs[k]?=some x)
  (hQ:∀ h',ItB b h' i l (k+1)→Heap.SameBut i s.heap h'→Q x {s with heap:=h'}):wpAny (model prog w) A (Builtin.SmallTypes.nextOf (.ref i)) Q E s:=by
 cases b
 ·exact nextOf_tuple_item q q2 hx hQ
 ·exact wpAny_nextOf_list_item q q2 hx hQ
theorem ItB.last {i l:Addr} {k:Nat} {xs:Array Value} {Q:Value→Shared→Prop} (hh:A.handled=none) (q:ItB b s.heap i l k) (q2:SqB b s.heap l xs) (hx:xs[k]?=none)
  (hE:∀ h' e,Heap.ExtBut i s.heap h'→(∃o,h'.get? e=some o∧o.cls=.type "StopIteration")→E (.ref e) {s with heap:=h'}):wpAny (model prog w) A (Builtin.SmallTypes.nextOf (.ref i)) Q E s:=by
 cases b
 ·exact nextOf_tuple_end hh q q2 hx hE
 ·exact wpAny_nextOf_list_end hh q q2 hx hE
theorem áh {z TI TO i1 i2 l1 l2:Addr} (D:ZipApart z TI TO i1 i2 l1 l2):ZipSep2 z TI TO i1 i2 [i1,l1] [i2,l2] where
 TIz:=D.TIz
 TOz:=D.TOz
 TITO:=D.TITO
 TIi1:=D.TIi1
 mem1:=by simp
 zf1:=by simp;exact ⟨λ e=>D.i1z e.symm,λ e=>D.l1z e.symm⟩
 Tf1:=by simp;exact ⟨D.TOi1,λ e=>D.l1TO e.symm⟩
 TIi2:=D.TIi2
 mem2:=by simp
 zf2:=by simp;exact ⟨λ e=>D.i2z e.symm,λ e=>D.l2z e.symm⟩
 Tf2:=by simp;exact ⟨D.TOi2,λ e=>D.l2TO e.symm⟩
 sep1_2:=by simp;exact ⟨D.i12,λ e=>D.l2i1 e.symm⟩
 sep2_1:=by simp;exact ⟨λ e=>D.i12 e.symm,λ e=>D.l1i2 e.symm⟩
end
section
variable{prog:Program}{w:World}{A:Around}{E:Value→Shared→Prop}{s:Shared}
theorem Ù3 {bb:Bool} {z TI TO T i1 i2 l1 l2:Addr} {f:Bool} {oT:Obj} {k:Nat} {xs ys:Array Value} {x y:Value} {Q:Value→Shared→Prop} (D:ZipApart z TI TO i1 i2 l1 l2)
  (hz:IsZipHeld s.heap z TI TO T f) (hT:s.heap.get? T=some oT) (hTI:IsPair s.heap TI (.ref i1) (.ref i2))
  (h1:ItB bb s.heap i1 l1 k) (h2:s.heap.IsTupleIter i2 l2 k) (hl1:SqB bb s.heap l1 xs) (hl2:s.heap.IsTuple l2 ys) (hx:xs[k]?=some x) (hy:ys[k]?=some y)
  (hQ:∀ h' a,IsZipHeld h' z TI TO T true→ItB bb h' i1 l1 (k+1)→h'.IsTupleIter i2 l2 (k+1)→IsPair h' a x y→s.heap.objs.size≤a→
   (∀c o,c≠z→c≠i1→c≠i2→s.heap.get? c=some o→h'.get? c=some o)→Q (.ref a) {s with heap:=h'}):
  wpAny (model prog w) A (Builtin.«zip.__next__» ⟨[.ref z],[]⟩) (λ fin s'=>∃ v,fin=.done (.ret v)∧Q v s') E s:=by
 obtain ⟨hp,g,d,tk,os⟩:=s
 simp only at hz hT hTI h1 h2 hl1 hl2 hQ
 unfold Builtin.«zip.__next__»
 wp_walk using wpAny_tupleHeld_zip hz hT
 intro u1 hz1 b1
 simp only[Bool.false_eq_true,if_false,←Array.forIn_toList,List.forIn_cons,List.forIn_nil]
 have e1:ItB bb u1 i1 l1 k:=h1.extBut b1.extBut D.i1z
 have e2:SqB bb u1 l1 xs:=hl1.extBut b1.extBut D.l1z
 wp_walk using ItB.item (s:=⟨u1,g,d,tk,os⟩) e1 e2 hx
 intro u2 hi1 b2
 have e3:u2.IsTupleIter i2 l2 k:=(h2.extBut b1.extBut D.i2z).extBut b2.extBut D.i12.symm
 have e4:u2.IsTuple l2 ys:=(hl2.extBut b1.extBut D.l2z).extBut b2.extBut D.l2i1
 wp_walk using nextOf_tuple_item (s:=⟨u2,g,d,tk,os⟩) e3 e4 hy
 intro u3 hi2 b3
 wp_walk
 have n1:u3.objs.size=hp.objs.size:=by rw[b3.1,b2.1,b1.1]
 have old:∀ c o,c≠z→c≠i1→c≠i2→hp.get? c=some o→u3.get? c=some o:=λ c o c1 c2 c3 q=>b3.extBut c o c3 (b2.extBut c o c2 (b1.extBut c o c1 q))
 have z3:IsZipHeld u3 z TI TO T true:=b3.extBut _ _ D.i2z.symm (b2.extBut _ _ D.i1z.symm hz1)
 have i3:ItB bb u3 i1 l1 (k+1):=hi1.extBut b3.extBut D.i12
 exact ⟨_,rfl,hQ _ u3.objs.size (Heap.get?_push_of_some _ z3) (i3.at λ o q=>Heap.get?_push_of_some _ q) (hi2.at λ o q=>Heap.get?_push_of_some _ q) (Heap.get?_push_size _ rfl) (Nat.le_of_eq n1.symm)
  λ c o c1 c2 c3 q=>Heap.get?_push_of_some _ (old c o c1 c2 c3 q)⟩
theorem nx {z:Addr} {Q:Option Value→Shared→Prop} (hty:s.TypeIs (.ref z) "zip")
  (h:wpAny (model prog w) A.in1 (Builtin.«zip.__next__» ⟨[.ref z],[]⟩) (λ fin s'=>∃ v,fin=.done (.ret v)∧Q (some v) s') (λ e s'=>(∃a o,e=.ref a∧s'.heap.get? a=some o∧o.cls=.type "StopIteration")∧Q none s') s):
  wpAny (model prog w) A (pyNext (.ref z)) Q E s:=by
 unfold pyNext
 refine wpAny_bind (wpAny_attempt (wpAny_callSpecial?_slot (name:=Str.ofString "__next__") hty F.slot_zip_next (wpAny_call_entry F.slot_zip_next hty F.entry_zip_next (wpAny_mono h ?_ ?_) (F.args_zip_next_1 _))))
 ·rintro fin s' ⟨v,e,q⟩
  exact ⟨v,e,wpAny_pure q⟩
 ·rintro e s' ⟨⟨a,o,rfl,ho,hc⟩,q⟩
  exact wpAny_bind (wpAny_isInstance (T:= "StopIteration") (b:=true) ⟨o,ho,hc⟩ isSubtype_stop (wpAny_pure q))
theorem Ûx {bb:Bool} {z TI TO T i1 i2 l1 l2:Addr} {f:Bool} {oT:Obj} {k:Nat} {xs ys:Array Value} {R:Shared→Prop} {Q:Fin→Shared→Prop} (hh:A.handled=none) (D:ZipApart z TI TO i1 i2 l1 l2)
  (hz:IsZipHeld s.heap z TI TO T f) (hT:s.heap.get? T=some oT) (hTI:IsPair s.heap TI (.ref i1) (.ref i2))
  (h1:ItB bb s.heap i1 l1 k) (h2:s.heap.IsTupleIter i2 l2 k) (hl1:SqB bb s.heap l1 xs) (hl2:s.heap.IsTuple l2 ys) (he:xs[k]?=none∨ys[k]?=none)
  (hR:∀ h',(∀c o,c≠z→c≠i1→c≠i2→s.heap.get? c=some o→h'.get? c=some o)→R {s with heap:=h'}):
  wpAny (model prog w) A (Builtin.«zip.__next__» ⟨[.ref z],[]⟩) Q (λ e s'=>(∃a o,e=.ref a∧s'.heap.get? a=some o∧o.cls=.type "StopIteration")∧R s') s:=by
 obtain ⟨hp,g,d,tk,os⟩:=s
 simp only at hz hT hTI h1 h2 hl1 hl2 hR
 unfold Builtin.«zip.__next__»
 wp_walk using wpAny_tupleHeld_zip hz hT
 intro u1 hz1 b1
 simp only[Bool.false_eq_true,if_false,←Array.forIn_toList,List.forIn_cons,List.forIn_nil]
 have e1:ItB bb u1 i1 l1 k:=h1.extBut b1.extBut D.i1z
 have e2:SqB bb u1 l1 xs:=hl1.extBut b1.extBut D.l1z
 cases hx:xs[k]? with
 |none=>
  wp_walk using ItB.last (s:=⟨u1,g,d,tk,os⟩) hh e1 e2 hx
  intro u2 a b2 ⟨o,q1,q2⟩
  exact ⟨⟨a,o,rfl,q1,q2⟩,hR u2 λ c o c1 c2 _ q=>b2 c o c2 (b1.extBut c o c1 q)⟩
 |some x=>
  have hy:ys[k]?=none:=he.resolve_left (by rw[hx];exact λ q=>nomatch q)
  wp_walk using ItB.item (s:=⟨u1,g,d,tk,os⟩) e1 e2 hx
  intro u2 hi1 b2
  have e3:u2.IsTupleIter i2 l2 k:=(h2.extBut b1.extBut D.i2z).extBut b2.extBut D.i12.symm
  have e4:u2.IsTuple l2 ys:=(hl2.extBut b1.extBut D.l2z).extBut b2.extBut D.l2i1
  wp_walk using nextOf_tuple_end (s:=⟨u2,g,d,tk,os⟩) hh e3 e4 hy
  intro u3 a b3 ⟨o,q1,q2⟩
  exact ⟨⟨a,o,rfl,q1,q2⟩,hR u3 λ c o c1 c2 c3 q=>b3 c o c3 (b2.extBut c o c2 (b1.extBut c o c1 q))⟩
end
structure Prs (xs ys:Array Value) (lo:Addr) (h:Heap) (as:List Addr):Prop where
 rise:as.Pairwise (·< ·)
 above:∀ a∈as,lo<a
 pairs:∀ (j:Nat) (a:Addr),as[j]?=some a→∃ x y,xs[j]?=some x∧ys[j]?=some y∧IsPair h a x y
structure Lies where
 b:Bool
 z:Addr
 TI:Addr
 TO:Addr
 i1:Addr
 i2:Addr
 l1:Addr
 l2:Addr
 xs:Array Value
 ys:Array Value
def Lies.own (c:Lies) (b:Addr):Prop:=b=c.z∨b=c.TO∨b=c.i1∨b=c.i2
structure Lies.At (c:Lies) (h:Heap) (as:List Addr) (i:Nat):Prop where
 ap:ZipApart c.z c.TI c.TO c.i1 c.i2 c.l1 c.l2
 ti:IsPair h c.TI (.ref c.i1) (.ref c.i2)
 t1:ItB c.b h c.i1 c.l1 i
 t2:h.IsTupleIter c.i2 c.l2 i
 s1:SqB c.b h c.l1 c.xs
 s2:h.IsTuple c.l2 c.ys
 zz:(as=[]∧IsZip h c.z c.TI c.TO .none∧∃ a b,IsPair h c.TO a b)∨∃ T f,T∈as∧IsZipHeld h c.z c.TI c.TO T f
section
variable{prog:Program}{w:World}{A:Around}{E:Value→Shared→Prop}{s:Shared}{c:Lies}{as:List Addr}{i:Nat}
theorem Lies.At.type (q:c.At s.heap as i):s.TypeIs (.ref c.z) "zip" :=by
 rcases q.zz with ⟨_,e,_⟩ |⟨_,_,_,e⟩
 ·exact ⟨_,e,rfl⟩
 ·exact ⟨_,e,rfl⟩
theorem turn {x y:Value} (hh:A.handled=none) {Q:Option Value→Shared→Prop} (q:c.At s.heap as i) (g:Prs c.xs c.ys c.z s.heap as) (no:∀ a∈as,¬c.own a) (hx:c.xs[i]?=some x) (hy:c.ys[i]?=some y)
  (hQ:∀ h' tk a,s.heap.objs.size≤a→c.At h' (as++[a]) (i+1)→IsPair h' a x y→(∀b o,¬c.own b→s.heap.get? b=some o→h'.get? b=some o)→Q (some (.ref a)) {s with heap:=h',toks:=tk}):
  wpAny (model prog w) A (pyNext (.ref c.z)) Q E s:=by
 have ty:=q.type
 obtain ⟨D,hTI,h1,h2,hl1,hl2,hz⟩:=q
 rcases hz with ⟨e,hz,a,b,hTO⟩ |⟨T,f,hm,hz⟩
 ·refine wpAny_pyNext_zipD2_item (áh D) (ItB.draw (b:=c.b) (A:=A.in1) hh c.i1 c.l1 D.l1i1 c.xs) (Draws.tuple (A:=A.in1) hh c.i2 c.l2 D.l2i2 c.ys) hz hTI hTO ⟨h1,hl1⟩ ⟨h2,hl2⟩ (Array.getElem?_eq_some_iff.mp hx).1 (Array.getElem?_eq_some_iff.mp hy).1 λ x1 x2 h' tk y1 y2 k1 k2 k3 k4 k5 _ k7=>?_
  cases Option.some.inj (y1.symm.trans hx)
  cases Option.some.inj (y2.symm.trans hy)
  replace k3:=k3.1
  replace k4:=k4.1
  have kk:∀ b o,¬c.own b→s.heap.get? b=some o→h'.get? b=some o:=λ b o n e=>k7 b o (λ z=>n (.inl z)) (λ z=>n (.inr (.inl z))) (λ z=>n (.inr (.inr (.inl z)))) (λ z=>n (.inr (.inr (.inr z)))) e
  refine hQ h' tk _ (Nat.le_refl _) ⟨D,k7 _ _ D.TIz D.TITO D.TIi1 D.TIi2 hTI,k3,k4,hl1.at λ o e=>k7 _ o D.l1z D.l1TO D.l1i1 D.l1i2 e,hl2.at λ o e=>k7 _ o D.l2z D.l2TO D.l2i1 D.l2i2 e,.inr ⟨_,false,by simp,k1⟩⟩ k5 kk
 ·obtain ⟨j,hj⟩:=List.mem_iff_getElem?.mp hm
  obtain ⟨_,_,_,_,hT⟩:=g.pairs j T hj
  refine nx ty (wpAny_mono (E:=λ e s'=>(∃a o,e=.ref a∧s'.heap.get? a=some o∧o.cls=.type "StopIteration")∧Q none s') (Ù3 (A:=A.in1) (Q:=λ v s'=>Q (some v) s') D hz hT hTI h1 h2 hl1 hl2 hx hy λ h' a k1 k2 k3 k4 k5 k6=>?_) (λ _ _ z=>z) λ _ _ z=>z)
  exact hQ h' s.toks a k5 ⟨D,k6 _ _ D.TIz D.TIi1 D.TIi2 hTI,k2,k3,hl1.at λ o e=>k6 _ o D.l1z D.l1i1 D.l1i2 e,hl2.at λ o e=>k6 _ o D.l2z D.l2i1 D.l2i2 e,.inr ⟨T,true,by simp[hm],k1⟩⟩ k4 λ b o n e=>k6 b o (λ z=>n (.inl z)) (λ z=>n (.inr (.inr (.inl z)))) (λ z=>n (.inr (.inr (.inr z)))) e
theorem stop {Q:Option Value→Shared→Prop} (hh:A.handled=none) (q:c.At s.heap as i) (g:Prs c.xs c.ys c.z s.heap as) (he:c.xs[i]?=none∨c.ys[i]?=none) (hi:i≤c.xs.size∧i≤c.ys.size)
  (hQ:∀ h' tk,(∀b o,¬c.own b→s.heap.get? b=some o→h'.get? b=some o)→Q none {s with heap:=h',toks:=tk}):
  wpAny (model prog w) A (pyNext (.ref c.z)) Q E s:=by
 have ty:=q.type
 obtain ⟨D,hTI,h1,h2,hl1,hl2,hz⟩:=q
 rcases hz with ⟨e,hz,a,b,hTO⟩ |⟨T,f,hm,hz⟩
 ·have hend:i=c.xs.size∨i=c.ys.size:=by
   rcases he with z|z
   ·exact .inl (Nat.le_antisymm hi.1 (Array.getElem?_eq_none_iff.mp z))
   ·exact .inr (Nat.le_antisymm hi.2 (Array.getElem?_eq_none_iff.mp z))
  exact wpAny_pyNext_zipD2_end (áh D) (ItB.draw (b:=c.b) (A:=A.in1) hh c.i1 c.l1 D.l1i1 c.xs) (Draws.tuple (A:=A.in1) hh c.i2 c.l2 D.l2i2 c.ys) hz hTI hTO ⟨h1,hl1⟩ ⟨h2,hl2⟩ hi.1 hi.2 hend λ h' tk k7=>hQ h' tk λ b o n e=>k7 b o (λ z=>n (.inl z)) (λ z=>n (.inr (.inl z))) (λ z=>n (.inr (.inr (.inl z)))) (λ z=>n (.inr (.inr (.inr z)))) e
 ·obtain ⟨j,hj⟩:=List.mem_iff_getElem?.mp hm
  obtain ⟨_,_,_,_,hT⟩:=g.pairs j T hj
  exact nx ty (Ûx (A:=A.in1) (R:=λ s'=>Q none s') hh D hz hT hTI h1 h2 hl1 hl2 he λ h' k6=>hQ h' s.toks λ b o n e=>k6 b o (λ z=>n (.inl z)) (λ z=>n (.inr (.inr (.inl z)))) (λ z=>n (.inr (.inr (.inr z)))) e)
end
structure Lies.Mid (c:Lies) (S:Addr) (h0 h:Heap) (as:List Addr):Prop where
 here:c.At h as as.length
 prs:Prs c.xs c.ys S h as
 lst:∃ n,h.get? S=some {cls:=.type "list",data:=.seq (as.map Value.ref).toArray n}
 old:∀ b o,b≠S→¬c.own b→h0.get? b=some o→h.get? b=some o
def Lies.below (c:Lies) (S:Addr):Prop:=c.z<S∧c.TI<S∧c.TO<S∧c.i1<S∧c.i2<S∧c.l1<S∧c.l2<S
theorem Lies.below.own {c:Lies} {S b:Addr} (q:c.below S) (h:S≤b):¬c.own b:=λ z=>by
 obtain ⟨q1,q2,q3,q4,q5,q6,q7⟩:=q
 rcases z with z|z|z|z
 ·exact Nat.lt_irrefl _ (Nat.lt_of_lt_of_le q1 (z▸h))
 ·exact Nat.lt_irrefl _ (Nat.lt_of_lt_of_le q3 (z▸h))
 ·exact Nat.lt_irrefl _ (Nat.lt_of_lt_of_le q4 (z▸h))
 ·exact Nat.lt_irrefl _ (Nat.lt_of_lt_of_le q5 (z▸h))
section
variable{prog:Program}{w:World}{A:Around}{E:Value→Shared→Prop}{s:Shared}{c:Lies}{S:Addr}{R:Result→Shared→Prop}{h0:Heap}{res:Value}
end
theorem ÅF:typeLookup (.type "zip") "__len__" =pure none:=by rw[typeLookup_type,builtinLookup_eq_fast];kernel_rfl
section
variable{prog:Program}{w:World}{A:Around}{E:Value→Shared→Prop}{s:Shared}{c:Lies}{S:Addr}{R:Result→Shared→Prop}{res:Value}
end
end ãs
namespace Fr
open PySem PySem.Spec PyProof.Rows L2
theorem Un.more {fs ex:List Addr} {H H':Hp} {h h':Heap} (k:∀ b u,h.get? b=some u→h'.get? b=some u) (hf:∀ b,h.objs.size≤b→H b=none) (hs:∀ b,b<h.objs.size→H' b=H b):Un fs ex H H' h h':=by
 have same:∀ b o,H b=some o→H' b=some o:=λ b o q=>by
  rw[hs b (Nat.lt_of_not_le λ z=>by rw[hf b z] at q;cases q)]
  exact q
 obtain ⟨p1,p2,_,p4,_,_,p7⟩:=Un.kept (fs:=fs) (ex:=ex) (H:=H) k
 refine ⟨p1,p2,λ b o q n _=>(hs b (Heap.lt_size q)).trans n,p4,λ b _=>same b _,λ b _ _=>same b _,λ b ps q=>?_⟩
 obtain ⟨more,e⟩:=p7 b ps q
 exact ⟨more,same b _ e⟩
theorem HOk.more {P:Program} {w:World} {H H':Hp} {h h':Heap} (x:HOk P w H h) (k:∀ b u,h.get? b=some u→h'.get? b=some u) (hs:∀ b,b<h.objs.size→H' b=H b) (new:∀ b o,h.objs.size≤b→H' b=some o→ObjOk P w H' h' b o):HOk P w H' h':=λ b u e=>by
 by_cases hb:b<h.objs.size
 ·have e':=e
  rw[hs b hb] at e'
  have old:∀ {c o},H c=some o→H' c=some o:=λ {c o} q=>by
   rw[hs c (x.lt q)];exact q
  exact (x b u e').stay (λ c v _ q=>k c v q) (λ c q=>old q) λ c xs q=>old q
 ·exact new b u (Nat.le_of_not_lt hb) e
section
variable{prog:Program}{w:World}{A:Around}{E:Value→Shared→Prop}{s:Shared}
end
end Fr
namespace Pu
open PySem
end Pu
namespace Pu
open PySem
section
variable{md:List Nat}
end
end Pu
namespace Pu
open PySem
section
variable{md:List Nat}{F:Fm}{H:Nat→Prop}{R:Nat→Nat→Prop}{p:Sl}{dw ĥ:Dw}{s:Fr.Sl}{S S1:Fr.Å}{w:Fr.W}{d:W}{i b:Nat}{o:Fr.Ob}
end
mutual
def ÒC:W→Bool
 | .lst rows=>ÏT rows
 |_=>false
def ÏT:List W→Bool
 | []=>true
 | .tup [.tup c,u]::r=>flats c&&ÒC u&&ÏT r
 |_::_=>false
end
mutual
theorem Tb.vw {dA:Nat} {H H':Nat→Prop} {S S':Fr.Å}:∀ {w:Fr.W} {A:List Nat},Tb S w A→∀ {d:W},ÒC d=true→Vw dA H S w d→(∀x∈A,∀o,S[x]?=some o→¬H' x∧S'[x]?=some o)→Vw dA H' S' w d
 |_,_,.mk (a:=a) (ws:=ws) e r,d,hf,v,k=>by
  cases v with
  |dr=>unfold ÒC at hf;cases hf
  |ref h e2 vo=>
   rw[e] at e2
   cases e2
   cases vo with
   |lst hz=>
    unfold ÒC at hf
    obtain ⟨k1,k2⟩:=k a (by simp) _ e
    exact .ref k1 k2 (.lst (r.vws hf hz λ x hx=>k x (by simp[hx])))
theorem Rw.vws {dA:Nat} {H H':Nat→Prop} {S S':Fr.Å}:∀ {ws:List Fr.W} {A:List Nat},Rw S ws A→∀ {ds:List W},ÏT ds=true→Ó dA H S ws ds→(∀x∈A,∀o,S[x]?=some o→¬H' x∧S'[x]?=some o)→Ó dA H' S' ws ds
 |_,_,.nil,ds,hf,v,k=>by cases v;exact .nil
 |_,_,.cons t r,ds,hf,v,k=>by
  cases v with
  |cons a b=>
   cases a with
   |tup h=>
    cases h with
    |cons h1 h2=>
     cases h2 with
     |cons h2 h3=>
      cases h3
      rename_i dc du
      cases dc with
      |tup c=>
       unfold ÏT at hf
       rw[Bool.and_eq_true,Bool.and_eq_true] at hf
       exact .cons (.tup (.cons (h1.flat (by unfold flat;exact hf.1.1)) (.cons (t.vw hf.1.2 h2 λ x hx=>k x (by simp[hx])) .nil))) (r.vws hf.2 b λ x hx=>k x (by simp[hx]))
      |_=>unfold ÏT at hf;cases hf
end
section
variable{md:List Nat}{ow i:Nat}
end
end Pu
namespace Pu
open PySem
theorem Ó.snoc {dA:Nat} {H:Nat→Prop} {S:Fr.Å}:∀ {ds:List W} {d:W} {ws:List Fr.W},Ó dA H S ws (ds++[d])→∃ w0 w,ws=w0++[w]∧Ó dA H S w0 ds∧Vw dA H S w d
 | [],d,ws,h=>by
  obtain ⟨w,r,rfl,a,b⟩:=h.cons_inv
  cases b
  exact ⟨[],w,rfl,.nil,a⟩
 |d0::ds,d,ws,h=>by
  obtain ⟨w,r,rfl,a,b⟩:=h.cons_inv
  obtain ⟨w0,w',e,h1,h2⟩:=Ó.snoc b
  exact ⟨w::w0,w',by rw[e];rfl,.cons a h1,h2⟩
section
variable{md:List Nat}{ow i:Nat}
end
end Pu
namespace Ty
open PySem Pu
section
variable{α β:Type}
end
end Ty
namespace Fr
open PySem PySem.Spec PyProof.Rows L2 PySem.W
structure Cvd where
 c:Int
 n:Str
 i:Int
end Fr
namespace Fr
open PySem PySem.Spec PyProof.Rows L2 PySem.W
def Cvd.w (x:Cvd):W:=.tup [.int x.c,.tup [.str x.n,.int x.i]]
section
variable{Wd:World}{K:PySem.W.Frag}{mg:Str→Option Value}{m:List Addr}{H:Hp}
end
end Fr
namespace Pu
open PySem
section
variable{dA:Nat}{H:Nat→Prop}{S:Fr.Å}
end
end Pu
namespace Ty
open PySem Pu
section
variable{α:Type}{en:α→W}
section
variable{γ:Type}{k:K}{i:Nat}{mo:Mode γ}{rest:Ì}{e:Exp}{f:Fo α}{t:M (List α×Fo α)}{m:Fo α→M γ}
end
end
end Ty
namespace Ty
open PySem Pu
end Ty
namespace Ty
open PySem Pu
section
variable{α:Type}
inductive ÜE {β γ:Type} (Q:β→γ→Prop):List β→List γ→Prop
 |nil:ÜE Q [] []
 |cons {y:β} {z:γ} {ys:List β} {zs:List γ}:Q y z→ÜE Q ys zs→ÜE Q (y::ys) (z::zs)
structure Rn (α:Type) where
 L:Int
 at':Option (List α)→List α→Rw0 α
 key:List α→List α
 below:Option (List α)→Int×List α→Rw0 α
variable(R:Rn α)
def Rn.out (o:Option (List α)) (x:Int×List α):Rw0 α:=if x.1<R.L then [x] else if x.1=R.L then R.at' o x.2 else R.below o x
def Rn.nxt (o:Option (List α)) (x:Int×List α):Option (List α):=if x.1<R.L then none else if x.1=R.L then some (R.key x.2) else o
def Rn.run:Option (List α)→Rw0 α→Rw0 α×Option (List α)
 |o,[]=>([],o)
 |o,x::r=>(R.out o x++(Rn.run (R.nxt o x) r).1,(Rn.run (R.nxt o x) r).2)
variable{R}{o:Option (List α)}
theorem Rn.Ø7:∀ (xs ys:Rw0 α) (o:Option (List α)),R.run o (xs++ys)=((R.run o xs).1++(R.run (R.run o xs).2 ys).1,(R.run (R.run o xs).2 ys).2)
 | [],_,_=>rfl
 |x::xs,ys,o=>by
  show (R.out o x++(R.run (R.nxt o x) (xs++ys)).1,(R.run (R.nxt o x) (xs++ys)).2)=_
  rw[Rn.Ø7 xs ys]
  show (_,_)=((R.out o x++(R.run (R.nxt o x) xs).1)++(R.run (R.run (R.nxt o x) xs).2 ys).1,(R.run (R.run (R.nxt o x) xs).2 ys).2)
  rw[List.append_assoc]
structure Lf (α:Type) where
 np:List (List α)→List (List α)
 nb:List (List α)→Int×List (List α)→Int
def Lf.step (F:Lf α):List (List α)→Ol α→Ol α
 |_,[]=>[]
 |p,x::r=>(F.nb p x,F.np x.2)::Lf.step F x.2 r
def âo (p:List (List α)) (x:Int×List (List α)):Prop:=(0≤x.1∧x.1<x.2.length)∧(x.1<p.length∨p=[]∧x.1=0)∧x.2.take x.1.toNat=p.take x.1.toNat
theorem Lf.run {F:Lf α} {ok:List (List α)→Prop} (key:List (List α)→Option (List α)) (h:∀ p x,âo p x→ok p→ok x.2→R.run (key p) (seg x.1 (x.2.drop x.1.toNat))=(seg (F.nb p x) ((F.np x.2).drop (F.nb p x).toNat),key x.2)∧0≤F.nb p x∧F.nb p x≤(F.np p).length∧F.nb p x≤(F.np x.2).length):
  ∀(xs:Ol α) (p:List (List α)),Vd p xs→ok p→(∀x∈xs,ok x.2)→listed (F.step p xs)=(R.run (key p) (listed xs)).1∧chP (F.np p).length (F.step p xs)
 | [],_,_,_,_=>⟨rfl,trivial⟩
 |x::r,p,⟨h1,h2,h3,h4⟩,h0,hk=>by
  obtain ⟨g1,g2,g3,g4⟩:=h p x ⟨h1,h2,h3⟩ h0 (hk x List.mem_cons_self)
  obtain ⟨i1,i2⟩:=Lf.run key h r x.2 h4 (hk x List.mem_cons_self) λ y hy=>hk y (List.mem_cons_of_mem _ hy)
  refine ⟨?_,g2,g3,g4,i2⟩
  show seg (F.nb p x) ((F.np x.2).drop (F.nb p x).toNat)++listed (F.step x.2 r)=(R.run (key p) (seg x.1 (x.2.drop x.1.toNat)++listed r)).1
  rw[Rn.Ø7,g1,i1]
end
section
variable{α:Type}[DecidableEq α](L:Nat)(rem mov:List α→List α)
def âp:Rn α where
 L:=L
 at' o c:=if o=some (rem c) then [((L:Int)+1,mov c)] else [((L:Int),rem c),((L:Int)+1,mov c)]
 key:=rem
 below _ x:=[(x.1+1,x.2)]
variable{L rem mov}
end
section
variable{α:Type}(L:Nat)(mer:List α→List α→List α)
variable{L mer}
end
section
variable{α:Type}
end
end Ty
namespace Pu
open PySem
mutual
theorem Tb.lst {S:Fr.Å}:∀ {w:Fr.W} {A:List Nat},Tb S w A→∀ a∈A,∃l,S[a]?=some (.lst l)
 |_,_,.mk e r,a,h=>by
  rcases List.mem_cons.mp h with rfl|h
  ·exact ⟨_,e⟩
  ·exact r.lst a h
theorem Rw.lst {S:Fr.Å}:∀ {ws:List Fr.W} {A:List Nat},Rw S ws A→∀ a∈A,∃l,S[a]?=some (.lst l)
 |_,_,.nil,a,h=>nomatch h
 |_,_,.cons t r,a,h=>by
  rcases List.mem_append.mp h with h|h
  ·exact t.lst a h
  ·exact r.lst a h
end
section
variable{ow:Nat}{md md':List Nat}{F:Fm}{H:Nat→Prop}{R:Nat→Nat→Prop}{p:Sl}{dw:Dw}{s:Fr.Sl}{S:Fr.Å}{i k:Nat}
end
end Pu
namespace Fr
open PySem PySem.Spec PyProof.Rows L2
section
variable{X:Cx}{C:Cc}{o e:Expr}{es:List Expr}{fo:Exp}{fr:Arg}{pos:Pos}{A:Addr}{c:Str}
end
end Fr
namespace Pu
open PySem
section
variable{md:List Nat}{k:Nat}
end
end Pu
namespace Ty
open PySem Pu
end Ty
namespace Ty
open PySem Pu
section
variable{sh:List (List Int)}{p:List (List Val)}
def Õ4 (sh:List (List Int)) (p:List (List Val)):Prop:=p.length≤sh.length∧(∀(i:Nat) (c:List Val),p[i]?=some c→∃ lv:List Int,sh[i]?=some lv∧c.length=lv.length)∧okP p
end
section
variable{n:Nat}{sh:List (List Int)}
abbrev Ÿ (sh:List (List Int)):List (List Int):=(ŭ 1 (sh.length-1)).map λ (k:Int)=>Ý sh k.toNat
theorem Ra.bR {σ ρ:Type} {t:M (Esc σ ρ)} {f:σ→M ρ} {I:σ→Prop} {c:Str} (h:Al t (EP I λ _=>False)) (k:∀ a,I a→Ra (f a) c):Ra (Ty.bR t f) c:=Ra.bd2 h λ b hb=>by
 cases b with
 |nx a=>exact k a hb
 |rt v=>exact hb.elim
def dep (sh:List (List Int)) (cs:List Int):Int:=match (List.range sh.length).find? λ i=>decide (Ý sh (i+1)=cs) with
 |some i=>(i:Int)
 |none=> -1
end
section
variable{n:Nat}{sh:List (List Int)}
end
section
end
section
variable{n:Nat}{sh:List (List Int)}{vals:List (Str×Int)}
abbrev VI:=Str×Int
def pv (vals:List VI) (c:Int):VI:=(vals[c.toNat]?).getD default
def Êv (vals:List VI) (sh:List (List Int)) (k:Nat):List (List VI):=(sh.take k).map λ l=>l.map (pv vals)
theorem Ûy {k i:Nat} (hi:i<k) (hk:k≤sh.length):(Êv vals sh k)[i]?=some (sh[i]'(by omega) |>.map (pv vals)):=by
 unfold Êv
 rw[List.getElem?_map,List.getElem?_take,if_pos hi,List.getElem?_eq_getElem (by omega)]
 rfl
theorem ÏU {k:Nat} (hk:k≤sh.length):(Êv vals sh k).length=k:=by unfold Êv;rw[List.length_map,List.length_take];omega
end
section
variable{n:Nat}{sh:List (List Int)}{vals:List Val}
theorem str0:PyData.strOk (⟨#[]⟩:Str)=true:=by decide +kernel
theorem Õ5:∀ {l:List Int} {c:List Val},c.length=l.length→l.Nodup→okC c→∃ f:Int→Val,c=l.map f∧∀ x,PyData.strOk (f x).1=true
 | [],[],_,_,_=>⟨λ _=>(⟨#[]⟩,0),rfl,λ _=>str0⟩
 |a::l,v::c,h,hn,hc=>by
  obtain ⟨f,e,ok⟩:=Õ5 (l:=l) (c:=c) (by simpa using h) (List.nodup_cons.mp hn).2 (λ x hx=>hc x (by simp[hx]))
  refine ⟨λ x=>if x=a then v else f x,?_,λ x=>?_⟩
  ·rw[List.map_cons,if_pos rfl,e]
   congr 1
   refine List.map_congr_left λ x hx=>?_
   show f x=if x=a then v else f x
   rw[if_neg λ z:x=a=>(List.nodup_cons.mp hn).1 (z▸hx)]
  ·show PyData.strOk (if x=a then v else f x).1=true
   split
   ·exact hc v (by simp)
   ·exact ok x
theorem Ó9:∀ {ls:List (List Int)} {p:List (List Val)},p.length=ls.length→(∀(i:Nat) (c:List Val) (l:List Int),p[i]?=some c→ls[i]?=some l→c.length=l.length)→ls.flatten.Nodup→okP p→∃ f:Int→Val,p=ls.map (λ l=>l.map f)∧∀ x,PyData.strOk (f x).1=true
 | [],[],_,_,_,_=>⟨λ _=>(⟨#[]⟩,0),rfl,λ _=>str0⟩
 |l::ls,c::p,h,hr,hn,ho=>by
  rw[List.flatten_cons] at hn
  obtain ⟨n1,n2,n3⟩:=List.nodup_append.mp hn
  obtain ⟨f,e,ok⟩:=Ó9 (ls:=ls) (p:=p) (by simpa using h) (λ i c l h1 h2=>hr (i+1) c l h1 h2) n2 (λ x hx=>ho x (by simp[hx]))
  obtain ⟨g,e2,ok2⟩:=Õ5 (hr 0 c l rfl rfl) n1 (ho c (by simp))
  refine ⟨λ x=>if x∈l then g x else f x,?_,λ x=>?_⟩
  ·rw[List.map_cons]
   congr 1
   ·rw[e2]
    refine List.map_congr_left λ x hx=>?_
    show g x=if x∈l then g x else f x
    rw[if_pos hx]
   ·rw[e]
    refine List.map_congr_left λ l' hl'=>List.map_congr_left λ x hx=>?_
    show f x=if x∈l then g x else f x
    rw[if_neg λ z=>n3 x z x (List.mem_flatten.mpr ⟨l',hl',hx⟩) rfl]
  ·show PyData.strOk (if x∈l then g x else f x).1=true
   split
   ·exact ok2 x
   ·exact ok x
structure Vl (n:Nat) (sh:List (List Int)) (p:List (List Val)) (vals:List Val):Prop where
 len:vals.length=n
 ok:∀ c,PyData.strOk (pv vals c).1=true
 is:p=Êv vals sh p.length
theorem ái {f:Int→Val} {c:Int} (h0:0≤c) (h:c<n):pv ((ŭ 0 n).map f) c=f c:=by
 unfold pv
 rw[List.getElem?_map,É2 (by omega)]
 show f (0+(c.toNat:Int))=f c
 congr 1
 omega
theorem ßb {p:List (List Val)} (hs:ń n sh) (hp:Õ4 sh p):∃ vals,Vl n sh p vals:=by
 obtain ⟨h1,h2,h3⟩:=hp
 obtain ⟨f,e,ok⟩:=Ó9 (ls:=sh.take p.length) (p:=p) (by simp;omega) (λ i c l a b=>by
  obtain ⟨lv,q,r⟩:=h2 i c a
  rw[List.getElem?_take] at b
  split at b
  ·rw[q] at b;cases b;exact r
  ·cases b) (ÒJ hs _) h3
 refine ⟨(ŭ 0 n).map f,by simp[Àt],λ c=>?_,?_⟩
 ·unfold pv
  cases hq:((ŭ 0 n).map f)[c.toNat]? with
  |none=>show PyData.strOk (default:Val).1=true;decide +kernel
  |some v=>
   rw[List.getElem?_map] at hq
   cases hz:(ŭ 0 n)[c.toNat]? with
   |none=>rw[hz] at hq;cases hq
   |some z=>rw[hz] at hq;cases hq;exact ok z
 ·refine e.trans ?_
  unfold Êv
  refine List.map_congr_left λ l hl=>List.map_congr_left λ x hx=>?_
  have:=hs.rows (List.mem_of_mem_take hl) hx
  exact (ái this.1 this.2).symm
open Classical in
noncomputable def vo (n:Nat) (sh:List (List Int)) (p:List (List Val)):List Val:=if h:∃ vals,Vl n sh p vals then h.choose else []
theorem âq {p:List (List Val)} (hs:ń n sh) (hp:Õ4 sh p):Vl n sh p (vo n sh p):=by
 have h:=ßb hs hp
 unfold vo
 rw[dif_pos h]
 exact h.choose_spec
theorem Ûz (hs:ń n sh) (hok:∀ c,PyData.strOk (pv vals c).1=true) {k:Nat} (hk:k≤sh.length):Õ4 sh (Êv vals sh k):=by
 refine ⟨by rw[ÏU hk];exact hk,λ i c h=>?_,λ c hc=>?_⟩
 ·have hi:i<k:=by
   have:=(List.getElem?_eq_some_iff.mp h).1
   rwa [ÏU hk] at this
  rw[Ûy hi hk] at h
  cases h
  exact ⟨_,List.getElem?_eq_getElem (by omega),by simp⟩
 ·obtain ⟨l,_,rfl⟩:=List.mem_map.mp hc
  intro v hv
  obtain ⟨x,_,rfl⟩:=List.mem_map.mp hv
  exact hok x
end
section
variable{n:Nat}{sh:List (List Int)}{vals v1 v2:List Val}{cs cs1 cs2:List Int}
theorem Øb {kvs:List (Int×Val)} {k c:Int} {v:Val} (h:c≠k):((kvs.map λ p=>if p.1=k then (p.1,v) else p).find? λ p=>decide (p.1=c)).map (·.2)=(kvs.find? λ p=>decide (p.1=c)).map (·.2):=by
 induction kvs with
 |nil=>rfl
 |cons p kvs ih=>
  rw[List.map_cons,List.find?_cons,List.find?_cons]
  by_cases q:p.1=k
  ·rw[if_pos q]
   have:decide (p.1=c)=false:=decide_eq_false λ z=>h (z.symm.trans q)
   simp only[this]
   exact ih
  ·rw[if_neg q]
   cases hd:decide (p.1=c) with
   |true=>simp only
   |false=>simp only;exact ih
theorem Øc {kvs:List (Int×Val)} {k:Int} {v:Val} (h:(kvs.any λ p=>decide (p.1=k))=true):((kvs.map λ p=>if p.1=k then (p.1,v) else p).find? λ p=>decide (p.1=k)).map (·.2)=some v:=by
 induction kvs with
 |nil=>simp at h
 |cons p kvs ih=>
  rw[List.map_cons,List.find?_cons]
  by_cases q:p.1=k
  ·rw[if_pos q]
   simp only[decide_eq_true q]
   rfl
  ·rw[if_neg q]
   have hd:decide (p.1=k)=false:=decide_eq_false q
   rw[List.any_cons,hd,Bool.false_or] at h
   simp only[hd]
   exact ih h
theorem É8 {kvs:List (Int×Val)} {k c:Int} {v:Val}:Ð0 (Õ3 kvs k v) c=if c=k then some v else Ð0 kvs c:=by
 unfold Õ3 Ð0
 by_cases h:(kvs.any λ p=>decide (p.1=k))=true
 ·rw[if_pos h]
  by_cases q:c=k
  ·subst q;rw[if_pos rfl];exact Øc h
  ·rw[if_neg q];exact Øb q
 ·rw[if_neg h,List.find?_append]
  by_cases q:c=k
  ·subst q
   rw[if_pos rfl]
   have:(kvs.find? λ p=>decide (p.1=c))=none:=by
    rw[List.find?_eq_none]
    intro p hp hd
    exact h (List.any_eq_true.mpr ⟨p,hp,hd⟩)
   rw[this]
   simp
  ·rw[if_neg q]
   have:([(k,v)].find? λ p=>decide (p.1=c))=none:=by
    rw[List.find?_eq_none]
    intro p hp hd
    rw[List.mem_singleton.mp hp] at hd
    exact q (of_decide_eq_true hd).symm
   rw[this,Option.or_none]
theorem ÓD {kvs:List (Int×Val)} {k:Int} {v:Val}:(Õ3 kvs k v).length≤kvs.length+1:=by
 unfold Õ3
 split<;>simp
def Dk (vals:List Val) (cs:List Int) (kvs:List (Int×Val)):Prop:=∀ c,Ð0 kvs c=if c∈cs then some (pv vals c) else none
theorem Dk.has {kvs:List (Int×Val)} (h:Dk vals cs kvs) (c:Int):ác kvs c=decide (c∈cs):=by
 unfold ác
 rw[h c]
 split<;>simp[*]
theorem Dk.get {kvs:List (Int×Val)} (h:Dk vals cs kvs) {c:Int} (hc:c∈cs):ád kvs c=rt (pv vals c):=by
 unfold ád
 rw[h c,if_pos hc]
 rfl
theorem Dk.put {kvs:List (Int×Val)} (h:Dk vals cs kvs) (c:Int):Dk vals (cs++[c]) (Õ3 kvs c (pv vals c)):=λ d=>by
 rw[É8]
 by_cases q:d=c
 ·subst q;rw[if_pos rfl,if_pos (by simp)]
 ·rw[if_neg q,h d]
  by_cases z:d∈cs
  ·rw[if_pos z,if_pos (List.mem_append_left _ z)]
  ·rw[if_neg z,if_neg]
   intro y
   rcases List.mem_append.mp y with y|y
   ·exact z y
   ·exact q (List.mem_singleton.mp y)
def agB (v1:List Val) (cs1:List Int) (v2:List Val) (cs2:List Int) (cols:List Int):Bool:=cols.all λ c=>(decide (c∈cs1)&&decide (c∈cs2))&&decide (pv v1 c=pv v2 c)
end
section
variable{n:Nat}{sh B A:List (List Int)}{ds:List Int}
theorem ÎG (k:Nat):(Ý sh k).length=(sh.take k).flatten.length:=ÕX _
theorem ÇB {k:Nat} {c:Int}:c∈Ý sh k↔c∈(sh.take k).flatten:=ÈH
theorem Õ6 {i j:Nat} (h:i≤j) {c:Int} (hc:c∈Ý sh i):c∈Ý sh j:=by
 rw[ÐZ] at hc ⊢
 obtain ⟨l,hl,h2⟩:=hc
 refine ⟨l,?_,h2⟩
 have:sh.take i=(sh.take j).take i:=by rw[List.take_take,Nat.min_eq_left h]
 rw[this] at hl
 exact List.mem_of_mem_take hl
theorem áj (h:ń n sh) {k:Nat} (hk:k<sh.length):(Ý sh k).length<n:=by
 rw[ÎG]
 have e:sh.flatten=(sh.take k).flatten++(sh.drop k).flatten:=by rw[←List.flatten_append,List.take_append_drop]
 have h1:=h.flat
 rw[e,List.length_append] at h1
 have:0<(sh.drop k).flatten.length:=by
  rw[List.drop_eq_getElem_cons hk,List.flatten_cons,List.length_append]
  have:=List.length_pos_iff.mpr (h.ne _ (List.getElem_mem hk))
  omega
 omega
theorem É9 {cs:List Int} {e:Nat} (h:dep sh cs=(e:Int)):e<sh.length∧Ý sh (e+1)=cs:=by
 unfold dep at h
 split at h
 ·rename_i i hi
  rw[List.find?_range_eq_some] at hi
  have:e=i:=by omega
  subst this
  exact ⟨by simpa using hi.2.1,by simpa using hi.1⟩
 ·omega
theorem ÛA (sh:List (List Int)) (cs:List Int):dep sh cs= -1∨∃ e:Nat,dep sh cs=(e:Int):=by
 unfold dep
 split
 ·exact .inr ⟨_,rfl⟩
 ·exact .inl rfl
theorem ÛB {cs:List Int} {k:Nat} (hk:k<sh.length) (h:Ý sh (k+1)=cs):∃ e:Nat,dep sh cs=(e:Int):=by
 unfold dep
 split
 ·exact ⟨_,rfl⟩
 ·rename_i hn
  rw[List.find?_range_eq_none] at hn
  have:=hn k hk
  simp[h] at this
structure Rg (n:Nat) (B A:List (List Int)) (ds:List Int):Prop where
 hB:ń n B
 hA:ń n A
 n1:1≤n
 n4:n≤4
 len:ds.length+1=A.length
 rng:∀ d∈ds,0≤d∧d<B.length
 asc:ds.Pairwise (·≤ ·)
 sub:∀ (i:Nat) (d:Int),ds[i]?=some d→∀ c∈Ý B d.toNat,c∈Ý A (i+1)
theorem Rg.lB (r:Rg n B A ds):B.length≤4:=Nat.le_trans r.hB.len r.n4
theorem Rg.lA (r:Rg n B A ds):A.length≤4:=Nat.le_trans r.hA.len r.n4
theorem Rg.le (r:Rg n B A ds) {i j:Nat} {x y:Int} (hij:i≤j) (hi:ds[i]?=some x) (hj:ds[j]?=some y):x≤y:=by
 by_cases h:i=j
 ·subst h;rw[hi] at hj;cases hj;exact Int.le_refl _
 ·obtain ⟨a,rfl⟩:=List.getElem?_eq_some_iff.mp hi
  obtain ⟨b,rfl⟩:=List.getElem?_eq_some_iff.mp hj
  exact List.pairwise_iff_getElem.mp r.asc i j a b (by omega)
def ÇX (B A:List (List Int)) (ds:List Int) (d:Nat):Bool:=decide (d+1=B.length)||(decide (0≤dep A (Ý B (d+1)))&&decide (ds[(dep A (Ý B (d+1))).toNat]?=some ((d:Int)+1)))
theorem Rg.Õ7 (r:Rg n B A ds) {d e:Nat} (hd:d+1<B.length) (he:dep A (Ý B (d+1))=(e:Int)):e<ds.length:=by
 obtain ⟨h1,h2⟩:=É9 he
 have h3:=áj r.hB hd
 rw[←h2] at h3
 have hl:=r.len
 apply Decidable.byContradiction
 intro z
 have q:e+1=A.length:=by omega
 rw[q,ÇV r.hA,Àt] at h3
 omega
theorem Rg.ÑO (r:Rg n B A ds) {d:Nat} (hd:d<B.length) (hk:ÇX B A ds d=true):∃ e:Nat,dep A (Ý B (d+1))=(e:Int):=by
 unfold ÇX at hk
 rw[Bool.or_eq_true,decide_eq_true_eq,Bool.and_eq_true,decide_eq_true_eq] at hk
 have hp:=r.hA.pos (by have:=r.n1;omega)
 rcases hk with h|h
 ·refine ÛB (k:=A.length-1) (by omega) ?_
  rw[h,ÇV r.hB,show A.length-1+1=A.length by omega,ÇV r.hA]
 ·exact ⟨(dep A (Ý B (d+1))).toNat,by omega⟩
end
section
variable{n:Nat}{B A:List (List Int)}{ds:List Int}{v1 v2:List Val}{c1 c2:List Int}
def cE (A:List (List Int)) (ds:List Int) (v1:List Val) (c1:List Int) (v2:List Val) (c2:List Int) (b:Int) (i:Nat):Bool:=decide (ds.getD i 0≤b)&&agB v1 c1 v2 c2 (Ý A (i+1))
end
section
variable{n:Nat}{B A:List (List Int)}{ds:List Int}
theorem ÊQ {i:Nat} (h:i+1<A.length):(Ÿ A)[i]?=some (Ý A (i+1)):=by
 unfold Ÿ
 rw[List.getElem?_map,É2 (by omega)]
 show some (Ý A (1+(i:Int)).toNat)=_
 rw[show (1+(i:Int)).toNat=i+1 by omega]
theorem Ì2:(Ÿ A).length=A.length-1:=by unfold Ÿ;rw[List.length_map,Àt]
theorem Õ8 (r:Rg n B A ds) {pre suf:List (List Int×Int)} {x:List Int×Int} (e:(Ÿ A).zip ds=pre++x::suf):∃ h:pre.length<ds.length,x=(Ý A (pre.length+1),ds[pre.length]):=by
 have hl:=r.len
 have hz:((Ÿ A).zip ds).length=ds.length:=by rw[List.length_zip,Ì2];omega
 have h1:pre.length<ds.length:=by
  rw[←hz,e];simp
 refine ⟨h1,?_⟩
 have h2:((Ÿ A).zip ds)[pre.length]?=some x:=by rw[e];simp
 rw[List.getElem?_zip_eq_some,ÊQ (by omega),List.getElem?_eq_getElem h1] at h2
 obtain ⟨a,b⟩:=x
 simp at h2
 rw[←h2.1,←h2.2]
section
variable{v1 v2:List Val}{c1 c2:List Int}
theorem ßc (h:ń n A) {k:Nat} {c:Int} (hc:c∈Ý A k):0≤c∧c<n:=by
 rw[ÐZ] at hc
 obtain ⟨l,hl,h2⟩:=hc
 exact h.rows (List.mem_of_mem_take hl) h2
end
end
section
variable{α:Type}[DecidableEq α]{en:α→W}{d:α→PyData}{k:Nat}{P:α→Prop}
end
section
variable{n:Nat}{B A:List (List Int)}{ds:List Int}{P:List Int}{p q:List (List Val)}{v1 v2:List Val}
def okK (B A:List (List Int)) (ds:List Int) (p:List (List Val)):Prop:=Õ4 B p∧1≤p.length∧ÇX B A ds (p.length-1)=true
end
section
variable{n:Nat}{B A C P Q:List (List Int)}{ds d1 d2 l m c:List Int}{s:Stp}
abbrev wU:Str:=Str.ofString "unnest"
abbrev wN:Str:=Str.ofString "nest"
theorem wNU:wN≠wU:=by decide +kernel
theorem Ød (hl:Asc l) (h:c.Sublist l):l.filter (λ x=>c.contains x)=c:=by
 refine É7 (hl.filter _) (hl.sublist h) λ x=>?_
 rw[List.mem_filter]
 refine ⟨λ z=>by simpa using z.2,λ z=>⟨h.subset z,by simpa using z⟩⟩
theorem ËN (hl:Asc l) (h:c.Sublist l):(l.filter (λ x=>!c.contains x)++c).Perm l:=by
 have:=List.filter_append_perm (λ x=>c.contains x) l
 rw[Ød hl h] at this
 exact List.perm_append_comm.trans this
def Éo (A:List (List Int)) (s:Stp):Prop:=(s.word=wU∧∃ (k:Nat) (P Q:List (List Int)) (l m:List Int),s.level=(k:Int)∧A=P++l::m::Q∧P.length=k)∨
 (s.word=wN∧∃ (k:Nat) (P Q:List (List Int)) (c l:List Int),s.level=(k:Int)∧s.cols=some c∧A=P++l::Q∧P.length=k∧c.Sublist l∧c≠ []∧c.length<l.length)
def aft (A:List (List Int)) (s:Stp):List (List Int):=if s.word=wU then A.take s.level.toNat++Fr.sortI (A.getD s.level.toNat []++A.getD (s.level.toNat+1) [])::A.drop (s.level.toNat+2)
 else A.take s.level.toNat++(A.getD s.level.toNat []).filter (λ x=>!(s.cols.getD []).contains x)::s.cols.getD []::A.drop (s.level.toNat+1)
theorem ÛC {α:Type} {P Q:List α} {k:Nat} (h:P.length=k):(P++Q).take k=P:=by rw[←h];simp
theorem ÛD {α:Type} {P Q:List α} {k j:Nat} (h:P.length=k):(P++Q).drop (k+j)=Q.drop j:=by rw[←h,List.drop_append];simp
theorem Ù4 {α:Type} {P Q:List α} {k j:Nat} (h:P.length=k):(P++Q)[k+j]?=Q[j]?:=by rw[←h,List.getElem?_append_right (by omega)];congr 1;omega
theorem ÔN {k:Nat} (h:P.length=k) (hw:s.word=wU) (hk:s.level=(k:Int)):aft (P++l::m::Q) s=P++Fr.sortI (l++m)::Q:=by
 unfold aft
 rw[if_pos hw,hk,show ((k:Int)).toNat=k by omega,ÛC h,ÛD h]
 have e1:(P++l::m::Q).getD k []=l:=by
  have:=Ù4 (j:=0) (Q:=l::m::Q) h
  simp only[Nat.add_zero] at this
  simp[List.getD,this]
 have e2:(P++l::m::Q).getD (k+1) []=m:=by
  have:=Ù4 (j:=1) (Q:=l::m::Q) h
  simp[List.getD,this]
 rw[e1,e2]
 rfl
theorem ÔO {k:Nat} (h:P.length=k) (hw:s.word=wN) (hk:s.level=(k:Int)) (hc:s.cols=some c):aft (P++l::Q) s=P++l.filter (λ x=>!c.contains x)::c::Q:=by
 unfold aft
 rw[if_neg (by rw[hw];exact wNU),hk,hc,show ((k:Int)).toNat=k by omega,ÛC h,ÛD h]
 have e1:(P++l::Q).getD k []=l:=by
  have:=Ù4 (j:=0) (Q:=l::Q) h
  simp only[Nat.add_zero] at this
  simp[List.getD,this]
 rw[e1]
 rfl
theorem _root_.Ty.ń.mid (h:ń n (P++l::Q)):Asc l∧l≠ []:=⟨h.asc l (by simp),h.ne l (by simp)⟩
theorem ÛE (hl:Asc l) (h:c.Sublist l) (hn:c.length<l.length):l.filter (λ x=>!c.contains x)≠ []:=λ z=>by
 have:=(ËN hl h).length_eq
 rw[z,List.nil_append] at this
 omega
theorem _root_.Ty.ń.ÒL (h:ń n (P++l::m::Q)):ń n (P++Fr.sortI (l++m)::Q) where
 ne x hx:=by
  simp only[List.mem_append,List.mem_cons] at hx
  rcases hx with z|rfl|z
  ·exact h.ne x (by simp[z])
  ·intro z
   have h1:=ÕX (l++m)
   rw[z] at h1
   have h2:=List.length_pos_iff.mpr (h.ne l (by simp))
   simp at h1
   omega
  ·exact h.ne x (by simp[z])
 asc x hx:=by
  simp only[List.mem_append,List.mem_cons] at hx
  rcases hx with z|rfl|z
  ·exact h.asc x (by simp[z])
  ·refine ÎE ?_
   have:=h.nodup
   rw[List.flatten_append,List.flatten_cons,List.flatten_cons,←List.append_assoc l] at this
   exact (List.nodup_append.mp (List.nodup_append.mp this).2.1).1
  ·exact h.asc x (by simp[z])
 perm:=by
  refine List.Perm.trans ?_ h.perm
  rw[List.flatten_append,List.flatten_append,List.flatten_cons,List.flatten_cons,List.flatten_cons,←List.append_assoc l]
  exact List.Perm.append_left _ (List.Perm.append_right _ (ÊP _))
theorem _root_.Ty.ń.nest (h:ń n (P++l::Q)) (hs:c.Sublist l) (hc:c≠ []) (hn:c.length<l.length):ń n (P++l.filter (λ x=>!c.contains x)::c::Q) where
 ne x hx:=by
  simp only[List.mem_append,List.mem_cons] at hx
  rcases hx with z|rfl|rfl|z
  ·exact h.ne x (by simp[z])
  ·exact ÛE h.mid.1 hs hn
  ·exact hc
  ·exact h.ne x (by simp[z])
 asc x hx:=by
  simp only[List.mem_append,List.mem_cons] at hx
  rcases hx with z|rfl|rfl|z
  ·exact h.asc x (by simp[z])
  ·exact h.mid.1.filter _
  ·exact h.mid.1.sublist hs
  ·exact h.asc x (by simp[z])
 perm:=by
  refine List.Perm.trans ?_ h.perm
  rw[List.flatten_append,List.flatten_append,List.flatten_cons,List.flatten_cons,List.flatten_cons]
  refine List.Perm.append_left _ ?_
  rw[←List.append_assoc]
  exact List.Perm.append_right _ (ËN h.mid.1 hs)
theorem _root_.Ty.ń.aft (h:ń n A) (ok:Éo A s):ń n (aft A s):=by
 rcases ok with ⟨hw,k,P,Q,l,m,hk,rfl,hp⟩ |⟨hw,k,P,Q,c,l,hk,hc,rfl,hp,h1,h2,h3⟩
 ·rw[ÔN hp hw hk]
  exact h.ÒL
 ·rw[ÔO hp hw hk hc]
  exact h.nest h1 h2 h3
end
section
variable{sh:List (List Int)}{xs:Ol Val}{rows:Rw0 Val}{f:Fo Val}
end
section
variable{sh:List (List Int)}{xs:Ol Val}{rows:Rw0 Val}{f:Fo Val}{v:Val}
end
section
variable{n:Nat}{B A C P Q R:List (List Int)}{ds d1 d2 l m c:List Int}{s:Stp}{k:Nat}
theorem Ø8 {i:Nat} (h:i≤P.length) {x:Int}:x∈Ý (P++R) i↔x∈(P.take i).flatten:=by
 rw[ÇB,List.take_append_of_le_length h]
theorem ËU {j:Nat} {x:Int}:x∈Ý (P++R) (P.length+j)↔x∈P.flatten∨x∈(R.take j).flatten:=by
 rw[ÇB,List.take_append,List.take_of_length_le (by omega),show P.length+j-P.length=j by omega,List.flatten_append,List.mem_append]
theorem Rg.ÒL (r:Rg n B (P++l::m::Q) ds) (hk:P.length=k):Rg n B (P++Fr.sortI (l++m)::Q) (ds.eraseIdx k) where
 hB:=r.hB
 hA:=r.hA.ÒL
 n1:=r.n1
 n4:=r.n4
 len:=by
  have:=r.len
  simp only[List.length_append,List.length_cons] at this ⊢
  rw[List.length_eraseIdx,if_pos (by omega)]
  omega
 rng d hd:=r.rng d (List.mem_of_mem_eraseIdx hd)
 asc:=r.asc.sublist (List.eraseIdx_sublist ds k)
 sub i d hi x hx:=by
  rw[List.getElem?_eraseIdx] at hi
  split at hi
  ·have:=r.sub i d hi x hx
   rw[Ø8 (by omega)] at this ⊢
   exact this
  ·have:=r.sub (i+1) d hi x hx
   obtain ⟨j,rfl⟩:∃ j,i=k+j:=⟨i-k,by omega⟩
   subst hk
   rw[show P.length+j+1+1=P.length+(j+2) by omega,ËU] at this
   rw[show P.length+j+1=P.length+(j+1) by omega,ËU]
   simp only[List.take_succ_cons,List.flatten_cons,List.mem_append,ÈH] at this ⊢
   rcases this with z|z|z|z
   ·exact .inl z
   ·exact .inr (.inl (.inl z))
   ·exact .inr (.inl (.inr z))
   ·exact .inr (.inr z)
def newD (ds:List Int) (k:Nat):Int:=(0::ds).getD k 0
theorem ÏV:newD ds 0=0:=rfl
theorem Ép {k:Nat} (h:k<ds.length):newD ds (k+1)=ds[k]:=by
 unfold newD
 simp[List.getD,h]
theorem ÔP:Ý B 0=[]:=rfl
theorem Rg.pB (r:Rg n B A ds):0<B.length:=r.hB.pos (by have:=r.n1;omega)
theorem Rg.ÑP (r:Rg n B A ds) (h:k≤ds.length):0≤newD ds k∧newD ds k<B.length:=by
 have:=r.pB
 cases k with
 |zero=>rw[ÏV];omega
 |succ k=>rw[Ép (by omega)];exact r.rng _ (List.getElem_mem _)
theorem Rg.Ø9 (r:Rg n B A ds) {i j:Nat} (h:i≤j) (hj:j≤ds.length):newD ds i≤newD ds j:=by
 cases i with
 |zero=>rw[ÏV];exact (r.ÑP hj).1
 |succ i=>cases j with
  |zero=>omega
  |succ j=>
   rw[Ép (by omega),Ép (by omega)]
   exact r.le (show i≤j by omega) (List.getElem?_eq_getElem (by omega)) (List.getElem?_eq_getElem (by omega))
theorem Rg.Õ9 (r:Rg n B A ds) (h:k≤ds.length):∀ c∈Ý B (newD ds k).toNat,c∈Ý A k:=λ c hc=>by
 cases k with
 |zero=>rw[ÏV] at hc;exact absurd hc (by simp[ÔP])
 |succ k=>
  rw[Ép (by omega)] at hc
  exact r.sub k _ (List.getElem?_eq_getElem (by omega)) c hc
theorem ins_get {α:Type} {xs:List α} {y:α} (h:k≤xs.length) (i:Nat):(xs.take k++[y]++xs.drop k)[i]?=if i<k then xs[i]? else if i=k then some y else xs[i-1]?:=by
 rw[List.append_assoc]
 by_cases c:i<k
 ·rw[if_pos c,List.getElem?_append_left (by rw[List.length_take];omega),List.getElem?_take,if_pos c]
 ·rw[if_neg c,List.getElem?_append_right (by rw[List.length_take];omega),List.length_take,Nat.min_eq_left h]
  by_cases c2:i=k
  ·rw[if_pos c2,c2,Nat.sub_self];rfl
  ·rw[if_neg c2]
   obtain ⟨j,rfl⟩:∃ j,i=k+j+1:=⟨i-k-1,by omega⟩
   rw[show k+j+1-k=j+1 by omega]
   show (xs.drop k)[j]?=_
   rw[List.getElem?_drop,show k+j+1-1=k+j by omega]
theorem Rg.nest (r:Rg n B (P++l::Q) ds) (hk:P.length=k) (hs:c.Sublist l) (hc:c≠ []) (hn:c.length<l.length):
  Rg n B (P++l.filter (λ x=>!c.contains x)::c::Q) (ds.take k++[newD ds k]++ds.drop k):=by
 have hl:=r.len
 simp only[List.length_append,List.length_cons] at hl
 have hkl:k≤ds.length:=by omega
 have hperm:∀ a,a∈l.filter (λ x=>!c.contains x)++c↔a∈l:=λ a=>(ËN r.hA.mid.1 hs).mem_iff
 refine ⟨r.hB,r.hA.nest hs hc hn,r.n1,r.n4,by simp;omega,λ d hd=>?_,?_,λ i d hi x hx=>?_⟩
 ·simp only[List.mem_append,List.mem_singleton] at hd
  rcases hd with (z|z)|z
  ·exact r.rng d (List.mem_of_mem_take z)
  ·rw[z];exact r.ÑP hkl
  ·exact r.rng d (List.mem_of_mem_drop z)
 ·have e:ds=ds.take k++ds.drop k:=(List.take_append_drop k ds).symm
  have ha:=r.asc
  rw[List.pairwise_iff_getElem]
  intro i j hi hj hij
  have gi:=List.getElem?_eq_getElem hi
  have gj:=List.getElem?_eq_getElem hj
  rw[ins_get hkl] at gi gj
  have hlen:(ds.take k++[newD ds k]++ds.drop k).length=ds.length+1:=by simp;omega
  rw[hlen] at hi hj
  have key:∀ (i:Nat) (v:Int),i≤ds.length→(if i<k then ds[i]? else if i=k then some (newD ds k) else ds[i-1]?)=some v→v=newD ds (if i<k then i+1 else i):=λ i v hi h=>by
   split at h
   ·rename_i c
    rw[if_pos c,Ép (by omega)]
    rw[List.getElem?_eq_getElem (by omega)] at h
    exact (Option.some.inj h).symm
   ·rename_i c
    rw[if_neg c]
    split at h
    ·rename_i c2;rw[c2];exact (Option.some.inj h).symm
    ·obtain ⟨i,rfl⟩:∃ q,i=q+1:=⟨i-1,by omega⟩
     rw[Ép (by omega)]
     rw[Nat.add_sub_cancel,List.getElem?_eq_getElem (by omega)] at h
     exact (Option.some.inj h).symm
  rw[key i _ (by omega) gi,key j _ (by omega) gj]
  refine r.Ø9 ?_ ?_<;>split<;>(try split)<;>omega
 ·rw[ins_get hkl] at hi
  split at hi
  ·have:=r.sub i d hi x hx
   rw[Ø8 (by omega)] at this ⊢
   exact this
  ·split at hi
   ·rename_i c1 c2
    cases hi
    have:=r.Õ9 hkl x hx
    subst hk
    rw[show P.length=P.length+0 by omega,ËU] at this
    rw[c2,ËU]
    rcases this with z|z
    ·exact .inl z
    ·exact absurd z (by simp)
   ·have:=r.sub (i-1) d hi x hx
    obtain ⟨j,rfl⟩:∃ j,i=k+j+1:=⟨i-k-1,by omega⟩
    subst hk
    rw[show P.length+j+1-1+1=P.length+(j+1) by omega,ËU] at this
    rw[show P.length+j+1+1=P.length+(j+2) by omega,ËU]
    simp only[List.take_succ_cons,List.flatten_cons,List.mem_append] at this ⊢
    rcases this with z|z|z
    ·exact .inl z
    ·have:=(hperm x).mpr z
     rw[List.mem_append] at this
     rcases this with y|y
     ·exact .inr (.inl y)
     ·exact .inr (.inr (.inl y))
    ·exact .inr (.inr (.inr z))
def dst (ds:List Int) (s:Stp):List Int:=if s.word=wU then ds.eraseIdx s.level.toNat else ds.take s.level.toNat++[newD ds s.level.toNat]++ds.drop s.level.toNat
theorem Rg.dst (r:Rg n B A ds) (ok:Éo A s):Rg n B (aft A s) (dst ds s):=by
 unfold Ty.dst
 rcases ok with ⟨hw,k,P,Q,l,m,hk,rfl,hp⟩ |⟨hw,k,P,Q,c,l,hk,hc,rfl,hp,h1,h2,h3⟩
 ·rw[ÔN hp hw hk,if_pos hw,hk]
  exact r.ÒL hp
 ·rw[ÔO hp hw hk hc,if_neg (by rw[hw];exact wNU),hk]
  exact r.nest hp h1 h2 h3
def Steps:List (List Int)→List Stp→Prop
 |_,[]=>True
 |A,s::r=>Éo A s∧Steps (aft A s) r
def Êa:List (List Int)→List Int→List Stp→List (List Int)×List Int
 |A,ds,[]=>(A,ds)
 |A,ds,s::r=>Êa (aft A s) (dst ds s) r
theorem Ùa:∀ (ss:List Stp) (A:List (List Int)) (ds:List Int),Rg n B A ds→Steps A ss→Rg n B (Êa A ds ss).1 (Êa A ds ss).2
 | [],_,_,r,_=>r
 |s::ss,A,ds,r,h=>Ùa ss _ _ (r.dst h.1) h.2
end
section
variable{n:Nat}{B A C A' B':List (List Int)}{ds d1 d2:List Int}{s:Stp}{k:Nat}
theorem Rg.idt (h:ń n B) (n1:1≤n) (n4:n≤4):Rg n B B (ŭ 1 (B.length-1)) where
 hB:=h
 hA:=h
 n1:=n1
 n4:=n4
 len:=by have:=h.pos (by omega);rw[Àt];omega
 rng d hd:=by rw[ÈF] at hd;omega
 asc:=(ÐY 1 _).imp λ h=>by omega
 sub i d hi c hc:=by
  have hl:i<B.length-1:=by have:=(List.getElem?_eq_some_iff.mp hi).1;rwa [Àt] at this
  rw[É2 hl] at hi
  cases hi
  rwa [show ((1:Int)+(i:Int)).toNat=i+1 by omega] at hc
def cmp (d1 d2:List Int):List Int:=d2.map λ d=>newD d1 d.toNat
theorem Rg.then (r:Rg n B A d1) (q:Rg n A C d2):Rg n B C (cmp d1 d2):=by
 have hl:=r.len
 have hk:∀ d∈d2,d.toNat≤d1.length:=λ d hd=>by have:=q.rng d hd;omega
 refine ⟨r.hB,q.hA,r.n1,r.n4,by unfold cmp;rw[List.length_map];exact q.len,λ d hd=>?_,?_,λ i d hi c hc=>?_⟩
 ·obtain ⟨e,he,rfl⟩:=List.mem_map.mp hd
  exact r.ÑP (hk e he)
 ·unfold cmp
  rw[List.pairwise_map]
  refine List.Pairwise.imp_of_mem ?_ q.asc
  intro a b ha hb hab
  exact r.Ø9 (by omega) (hk b hb)
 ·unfold cmp at hi
  rw[List.getElem?_map,Option.map_eq_some_iff] at hi
  obtain ⟨e,he,rfl⟩:=hi
  have hm:=List.mem_of_getElem? he
  exact q.sub i e he c (r.Õ9 (hk e hm) c hc)
theorem Rg.small (r:Rg n B A ds):ds.length≤3:=by have:=r.len;have:=r.lA;omega
theorem ÜF {j:Nat} {L:List (List Int)} (h:L.length≤1000) (hr:∀ l∈L,l.length≤1000):Á6 (j+3) (nT (nT nI) L):=
 Ø1 (j:=j+2) (by omega) λ l hl=>Ø1 (j:=j+1) (by have:=hr l hl;omega) λ x _=>trivial
theorem ń.plain (h:ń n B) (n4:n≤4):Á6 20 (nT (nT nI) B):=ÜF (j:=17) (by have:=h.len;omega) λ l hl=>by have:=h.row hl;omega
end
section
variable{n:Nat}{B A C:List (List Int)}{ds d1 d2:List Int}{s:Stp}{k:Nat}
theorem Steps.snoc:∀ {ss:List Stp} {A:List (List Int)} {s:Stp},Steps A ss→Éo (ss.foldl aft A) s→Steps A (ss++[s])
 | [],_,_,_,h=>⟨h,trivial⟩
 |_::ss,_,_,h,q=>⟨h.1,Steps.snoc (ss:=ss) h.2 q⟩
end
section
variable{n:Nat}{A P Q:List (List Int)}{l m c:List Int}{s:Stp}{k:Nat}{f:Fo Val}
abbrev ãt (l c:List Int) (cells:List Val):List Val:=((l.zip cells).filter λ a=>!c.contains a.1).map λ a=>a.2
abbrev ãu (l c:List Int) (cells:List Val):List Val:=((l.zip cells).filter λ a=>c.contains a.1).map λ a=>a.2
abbrev nR (k:Nat) (l c:List Int):Rn Val:=âp k (ãt l c) (ãu l c)
end
section
variable{n:Nat}{A P Q:List (List Int)}{l m c:List Int}{s:Stp}{k:Nat}{f:Fo Val}{xs:Ol Val}
end
section
variable{sh:List (List Int)}{xs:Ol Val}{rows:Rw0 Val}{f:Fo Val}
end
section
variable{sh:List (List Int)}{xs:Ol Val}{rows:Rw0 Val}{f:Fo Val}{v:Val}
theorem ßd (hd:f.dep≤9) (hs:f.siz<1000000) (hc:∀ x∈ÇW 0 f,x.2.length<1000000):Á6 20 (nFo (n2 nS nI) f):=Õ1 (en:=n2 nS nI) (λ v j=>Ø2 (j:=j+1) trivial trivial) 9 f hd hs hc
end
section
variable{n:Nat}{A P Q:List (List Int)}{l m c:List Int}{s:Stp}{k:Nat}{f:Fo Val}{xs:Ol Val}
structure Sm (g:Fo Val):Prop where
 dep:g.dep≤8
 siz:g.siz<1000
 row:∀ x∈ÇW 0 g,x.2.length≤100
theorem Sm.plain (h:Sm f):Á6 20 (nFo (n2 nS nI) f):=ßd (by have:=h.dep;omega) (by have:=h.siz;omega) λ x hx=>by have:=h.row x hx;omega
theorem Sm.same (h:Sm f):ÅE 20 (nFo (n2 nS nI)) f f=rt true:=ÒI h.plain
end
end Ty
namespace Ty
open PySem Pu
section
variable{α:Type}[DecidableEq α]{rem mov:List α→List α}{mer:List α→List α→List α}{P R:List (List α)}{x y:List α}{k:Nat}
end
section
variable{n:Nat}{B A P Q:List (List Int)}{ds l m c:List Int}{k:Nat}{vals v1 v2:List Val}{c1 c2:List Int}
theorem Æ2 (h:ń n A) {i j:Nat} (hij:i<j) (hj:j≤A.length):(Ý A i).length<(Ý A j).length:=by
 rw[ÎG,ÎG]
 have e:A.take j=A.take i++((A.drop i).take (j-i)):=by
  obtain ⟨d,rfl⟩:∃ d,j=i+d:=⟨j-i,by omega⟩
  rw[List.take_add,show i+d-i=d by omega]
 rw[e,List.flatten_append,List.length_append]
 have hi:i<A.length:=by omega
 obtain ⟨d,hd⟩:∃ d,j-i=d+1:=⟨j-i-1,by omega⟩
 rw[hd,List.drop_eq_getElem_cons hi,List.take_succ_cons,List.flatten_cons,List.length_append]
 have:=List.length_pos_iff.mpr (h.ne _ (List.getElem_mem hi))
 omega
theorem ËV (h:ń n A) {i j:Nat} (hi:i≤A.length) (hj:j≤A.length) (e:Ý A i=Ý A j):i=j:=by
 rcases Nat.lt_trichotomy i j with q|q|q
 ·have:=Æ2 h q hj;rw[e] at this;omega
 ·exact q
 ·have:=Æ2 h q hi;rw[e] at this;omega
theorem Öa (h:ń n A) {cs:List Int} {i:Nat} (hi:i<A.length) (e:Ý A (i+1)=cs):dep A cs=(i:Int):=by
 obtain ⟨j,hj⟩:=ÛB hi e
 obtain ⟨h1,h2⟩:=É9 hj
 have:=ËV h (i:=j+1) (j:=i+1) (by omega) (by omega) (h2.trans e.symm)
 rw[hj]
 omega
theorem ÒM {R R':List (List Int)} {i:Nat} (h:i≤P.length):Ý (P++R) i=Ý (P++R') i:=by
 unfold Ý
 rw[List.take_append_of_le_length h,List.take_append_of_le_length h]
theorem ÈZ {R:List (List Int)} {i j:Nat} (h:i=P.length+j):(P++R).take i=P++R.take j:=by
 subst h
 rw[List.take_append,List.take_of_length_le (by omega),show P.length+j-P.length=j by omega]
abbrev shN (P Q:List (List Int)) (l c:List Int):List (List Int):=P++l.filter (λ x=>!c.contains x)::c::Q
abbrev shU (P Q:List (List Int)) (l m:List Int):List (List Int):=P++Fr.sortI (l++m)::Q
theorem Ùb (hl:Asc l) (hc:c.Sublist l) {i:Nat} (h:P.length<i):Ý (shN P Q l c) (i+1)=Ý (P++l::Q) i:=by
 obtain ⟨j,rfl⟩:∃ j,i=P.length+(j+1):=⟨i-P.length-1,by omega⟩
 unfold Ý
 rw[ÈZ (j:=j+2) (by omega),ÈZ (j:=j+1) rfl]
 refine ÓA ?_
 simp only[List.take_succ_cons,List.flatten_append,List.flatten_cons]
 refine List.Perm.append_left _ ?_
 rw[←List.append_assoc]
 exact List.Perm.append_right _ (ËN hl hc)
theorem Öb {x:Int}:x∈Ý (shN P Q l c) (P.length+1)↔x∈Ý (P++l::Q) P.length∨x∈l.filter (λ x=>!c.contains x):=by
 rw[ÇB,ÇB,ÈZ (j:=1) rfl,ÈZ (i:=P.length) (j:=0) rfl]
 simp
theorem Ùc {i:Nat} (h:P.length<i):Ý (shU P Q l m) i=Ý (P++l::m::Q) (i+1):=by
 obtain ⟨j,rfl⟩:∃ j,i=P.length+(j+1):=⟨i-P.length-1,by omega⟩
 unfold Ý
 rw[ÈZ (j:=j+1) rfl,ÈZ (j:=j+2) (by omega)]
 refine ÓA ?_
 simp only[List.take_succ_cons,List.flatten_append,List.flatten_cons]
 refine List.Perm.append_left _ ?_
 rw[←List.append_assoc]
 exact List.Perm.append_right _ (ÊP _)
end
section
variable{n:Nat}{B A P Q:List (List Int)}{ds l m c:List Int}{k:Nat}{v1 v2:List Val}{c1 c2:List Int}{p:List (List Val)}{x:Int×List (List Val)}
noncomputable def gP (n:Nat) (B A:List (List Int)) (p:List (List Val)):List (List Val):=if p=[] then [] else Êv (vo n B p) A ((dep A (Ý B p.length)).toNat+1)
theorem okK.dep (r:Rg n B A ds) (h:okK B A ds p):p≠ []∧∃ e:Nat,dep A (Ý B p.length)=(e:Int)∧e<A.length∧Ý A (e+1)=Ý B p.length∧gP n B A p=Êv (vo n B p) A (e+1)∧(gP n B A p).length=e+1:=by
 have h1:=h.2.1
 have hne:p≠ []:=λ z=>by rw[z] at h1;exact absurd h1 (by decide)
 obtain ⟨e,he⟩:=r.ÑO (d:=p.length-1) (by have:=h.1.1;omega) h.2.2
 rw[show p.length-1+1=p.length by omega] at he
 obtain ⟨e1,e2⟩:=É9 he
 have eg:gP n B A p=Êv (vo n B p) A (e+1):=by
  unfold gP
  rw[if_neg hne,he,show ((e:Int)).toNat=e by omega]
 exact ⟨hne,e,he,e1,e2,eg,by rw[eg,ÏU (by omega)]⟩
theorem okK.has (r:Rg n B A ds) (h:okK B A ds p) {e i:Nat} (he:Ý A (e+1)=Ý B p.length) {l:List Int} (hi:A[i]?=some l) {y:Int} (hy:y∈l):y∈(B.take p.length).flatten↔i≤e:=by
 rw[←ÇB,←he,ÇB,List.mem_flatten]
 constructor
 ·rintro ⟨l',h1,h2⟩
  obtain ⟨j,hj,e1⟩:=List.getElem_of_mem h1
  have hj1:j<e+1:=by rw[List.length_take] at hj;omega
  have g:A[j]?=some l':=by
   have:=List.getElem?_eq_getElem hj
   rw[List.getElem?_take,if_pos hj1,e1] at this
   exact this
  have:=r.hA.à9 g hi h2 hy
  omega
 ·intro q
  refine ⟨l,?_,hy⟩
  have:(A.take (e+1))[i]?=some l:=by rw[List.getElem?_take,if_pos (by omega)];exact hi
  exact List.mem_of_getElem? this
end
section
variable{n:Nat}{B A P Q:List (List Int)}{ds l m c:List Int}{k:Nat}{v1 v2:List Val}{c1 c2:List Int}{p:List (List Val)}{x:Int×List (List Val)}{s:Stp}{xs:Ol Val}
end
end Ty
namespace Ty
open PySem Pu
section
variable{n:Nat}{B A C:List (List Int)}{d1 d2 ds:List Int}{v1 v2:List Val}{c1 c2:List Int}{p:List (List Val)}{x:Int×List (List Val)}{xs:Ol Val}
theorem ße:(cmp d1 d2).length=d2.length:=List.length_map ..
theorem ÛF {i:Nat} (h:i<d2.length):(cmp d1 d2)[i]?=some (newD d1 d2[i].toNat):=by
 unfold cmp
 rw[List.getElem?_map,List.getElem?_eq_getElem h]
 rfl
theorem ÜG (r:Rg n B A d1) (q:Rg n A C d2) {d:Nat} (hd:d<B.length):ÇX B C (cmp d1 d2) d=true↔ÇX B A d1 d=true∧∀ e:Nat,dep A (Ý B (d+1))=(e:Int)→ÇX A C d2 e=true:=by
 have hl1:=r.len
 have hl2:=q.len
 have rq:=r.then q
 by_cases hB:d+1=B.length
 ·constructor
  ·intro _
   refine ⟨by unfold ÇX;rw[decide_eq_true hB];rfl,λ e he=>?_⟩
   obtain ⟨h1,h2⟩:=É9 he
   have:e+1=A.length:=by
    apply ËV r.hA (by omega) (Nat.le_refl _)
    rw[h2,hB,ÇV r.hB,ÇV r.hA]
   unfold ÇX
   rw[decide_eq_true this]
   rfl
  ·intro _
   unfold ÇX
   rw[decide_eq_true hB]
   rfl
 ·constructor
  ·intro hk
   unfold ÇX at hk
   rw[decide_eq_false hB,Bool.false_or,Bool.and_eq_true,decide_eq_true_eq,decide_eq_true_eq] at hk
   obtain ⟨k1,k2⟩:=hk
   rcases ÛA C (Ý B (d+1)) with h |⟨e2,h⟩
   ·rw[h] at k1;omega
   ·obtain ⟨f1,f2⟩:=É9 h
    rw[h,show ((e2:Int)).toNat=e2 by omega] at k2
    have he2:=rq.Õ7 (by omega) h
    rw[ße] at he2
    rw[ÛF he2] at k2
    have k2:newD d1 d2[e2].toNat=(d:Int)+1:=Option.some.inj k2
    have hr2:=q.rng _ (List.getElem_mem he2)
    cases hj:d2[e2].toNat with
    |zero=>rw[hj,ÏV] at k2;omega
    |succ j=>
     rw[hj,Ép (by omega)] at k2
     have hj1:j<d1.length:=by omega
     have g1:=List.getElem?_eq_getElem hj1
     have s1:=r.sub j _ g1
     rw[k2,show ((d:Int)+1).toNat=d+1 by omega] at s1
     have s2:=q.sub e2 _ (List.getElem?_eq_getElem he2)
     rw[hj,f2] at s2
     have e:Ý A (j+1)=Ý B (d+1):=É7 (ÇU r.hA _) (ÇU r.hB _) λ y=>⟨s2 y,s1 y⟩
     have hdA:=Öa r.hA (by omega) e
     refine ⟨?_,λ e' he'=>?_⟩
     ·unfold ÇX
      rw[hdA,show ((j:Int)).toNat=j by omega,g1,k2,decide_eq_true (show (0:Int)≤(j:Int) by omega),decide_eq_true rfl]
      simp
     ·rw[hdA] at he'
      have:e'=j:=by omega
      subst this
      unfold ÇX
      rw[e,h,show ((e2:Int)).toNat=e2 by omega,List.getElem?_eq_getElem he2,decide_eq_true (show (0:Int)≤(e2:Int) by omega),decide_eq_true (show some d2[e2]=some ((e':Int)+1) from congrArg some (by omega))]
      simp
  ·rintro ⟨hk1,hk2⟩
   obtain ⟨e1,he1⟩:=r.ÑO hd hk1
   obtain ⟨f1,f2⟩:=É9 he1
   have hk:=hk2 e1 he1
   have l1:=r.Õ7 (by omega) he1
   obtain ⟨e2,he2⟩:=q.ÑO (by omega) hk
   rw[f2] at he2
   have l2:e2<d2.length:=q.Õ7 (d:=e1) (by omega) (by rw[f2];exact he2)
   unfold ÇX at hk1 hk ⊢
   rw[decide_eq_false hB,Bool.false_or,Bool.and_eq_true,decide_eq_true_eq,decide_eq_true_eq,he1,show ((e1:Int)).toNat=e1 by omega,List.getElem?_eq_getElem l1] at hk1
   have hk1:=Option.some.inj hk1.2
   rw[decide_eq_false (show ¬e1+1=A.length by omega),Bool.false_or,Bool.and_eq_true,decide_eq_true_eq,decide_eq_true_eq,f2,he2,show ((e2:Int)).toNat=e2 by omega,List.getElem?_eq_getElem l2] at hk
   have hk:=Option.some.inj hk.2
   rw[decide_eq_false hB,Bool.false_or,he2,show ((e2:Int)).toNat=e2 by omega,ÛF l2,hk,show ((e1:Int)+1).toNat=e1+1 by omega,Ép l1,hk1,decide_eq_true rfl,decide_eq_true (show (0:Int)≤(e2:Int) by omega)]
   rfl
theorem okK.then (r:Rg n B A d1) (q:Rg n A C d2) (h:okK B C (cmp d1 d2) p) (hf:Õ4 B p):okK B A d1 p∧okK A C d2 (gP n B A p):=by
 have h1:=h.2.1
 have h2:=h.1.1
 obtain ⟨k1,k2⟩:=(ÜG r q (d:=p.length-1) (by omega)).mp h.2.2
 have o1:okK B A d1 p:=⟨hf,h1,k1⟩
 obtain ⟨hne,e,he,e1,e2,eg,el⟩:=o1.dep r
 rw[show p.length-1+1=p.length by omega] at k2
 exact ⟨o1,by rw[eg];exact Ûz r.hA (âq r.hB hf).ok (by omega),by omega,by rw[el];exact k2 e he⟩
end
end Ty
namespace Ty
open PySem Pu
section
variable{n:Nat}{B A:List (List Int)}{ds es d2 cs:List Int}{p q:List (List Val)}{xs ys:Ol Val}{bad åF:Int→Bool}
def cont:List (List Int)→List Int→Nat
 | [],_=>0
 |l::A,cs=>if (l.all λ c=>cs.contains c)=true then cont A cs+1 else 0
theorem Ùd:∀ {A:List (List Int)},cont A cs≤A.length
 | []=>Nat.le_refl _
 |l::A=>by
  unfold cont
  split
  ·exact Nat.succ_le_succ Ùd
  ·exact Nat.zero_le _
theorem Ôa:∀ {A:List (List Int)},∀l∈A.take (cont A cs),∀x∈l,x∈cs
 | [],l,h=>by cases h
 |a::A,l,h=>by
  unfold cont at h
  split at h
  ·rename_i c
   rw[List.take_succ_cons] at h
   rcases List.mem_cons.mp h with rfl|h
   ·exact λ x hx=>by simpa using List.all_eq_true.mp c x hx
   ·exact Ôa l h
  ·cases h
theorem Öc:∀ {A:List (List Int)} {e:Nat},e≤A.length→(∀l∈A.take e,∀x∈l,x∈cs)→e≤cont A cs
 |_,0,_,_=>Nat.zero_le _
 | [],e+1,h,_=>absurd h (by simp)
 |a::A,e+1,h,hs=>by
  rw[List.take_succ_cons] at hs
  unfold cont
  rw[if_pos (List.all_eq_true.mpr λ x hx=>by simpa using hs a (by simp) x hx)]
  exact Nat.succ_le_succ (Öc (by simpa using h) λ l hl=>hs l (by simp[hl]))
theorem Öd:∀ c∈Ý A (cont A cs),c∈cs:=λ c hc=>by
 obtain ⟨l,hl,h⟩:=ÐZ.mp hc
 exact Ôa l hl c h
theorem Ð1 {e:Nat} (he:e≤A.length) (h:∀ c∈Ý A e,c∈cs):e≤cont A cs:=Öc he λ l hl x hx=>h x (ÐZ.mpr ⟨l,hl,hx⟩)
theorem ÓE:∀ {a b:List Int},a.Nodup→(∀c∈a,c∈b)→a.length≤b.length
 | [],_,_,_=>Nat.zero_le _
 |x::a,b,hn,h=>by
  obtain ⟨hx,hn⟩:=List.nodup_cons.mp hn
  have hb:=h x List.mem_cons_self
  have:=ÓE (b:=b.erase x) hn λ c hc=>(List.mem_erase_of_ne (a:=c) (b:=x) λ z=>hx (by rw[←z];exact hc)).mpr (h c (List.mem_cons_of_mem _ hc))
  rw[List.length_erase_of_mem hb] at this
  have:=List.length_pos_of_mem hb
  rw[List.length_cons]
  omega
theorem sub_len {a b:List Int} (ha:Asc a) (h:∀ c∈a,c∈b):a.length≤b.length:=ÓE ha.nodup h
end
end Ty
namespace Ty
open PySem Pu
local macro_rules | `(tactic| walk_at "pv") => `(tactic| simp only [Pu.ň, Pu.ė, Pu.Äk, Pu.Âr, Pu.Âs, Pu.Â9, Pu.Äl, Pu.Ât, Pu.Ţ, Pu.Äm, Pu.Âu, Pu.Âv, Pu.ÐB, Pu.ŗ, Pu.Âe, Pu.Âw, Pu.Âx, Pu.Ây, Pu.À3, Pu.À4, Pu.ÀF, Pu.À5, Pu.À6, Pu.À7, Pu.À8, Pu.Ž, Pu.ž, Pu.ÃV, Pu.Ãt, Pu.Än, Pu.Äo, Pu.Âz, Pu.Àa, Pu.ÁX, Pu.ÃW, Pu.ÁY, Pu.Äp, Pu.Âf, Pu.Äq, Pu.ÂA, Pu.Är, Pu.Äs, Pu.Ū, Pu.ÃC, Pu.ÁZ, Pu.ÂB, Pu.Ät, Pu.ÂC, Pu.ÄC, Pu.ũ, Pu.ĸ, Pu.Âg, Pu.ÂD, Pu.ÃD, Pu.ÀG, Pu.ÌL, Pu.ÄS, Pu.Äu, Pu.À9, Pu.ÀH, Pu.Áa, Pu.ÀQ, Pu.ū, Pu.ÁD, Pu.Áb, Pu.Á0, Pu.Âh, Pu.Îe, Pu.ÐC, Pu.Áu, Pu.Áv, Pu.Æk, Pu.Áw, Pu.Àm, Pu.ÂY, Pu.Æl, Pu.Ŕ, Pu.Àb, Pu.Ác, Pu.ÁE, Pu.Ád, Pu.Îf, Pu.ÅD, Pu.Àc, Pu.ÌM, Pu.Àd, Pu.ÃQ, Pu.ÄA, Pu.ÃR, Pu.ÂV, Pu.Â0, Pu.Áy, Pu.Îg, Pu.Â1, Pu.Áz, Pu.Îh, Pu.ÃS, Pu.Àr, Pu.Ş, Pu.Â2, Pu.Òj, Pu.Òk, Pu.Âj, Pu.ÂR, Pu.ÂS, Pu.ÂT, Pu.ÂU, Pu.Àf, Pu.Àg, Pu.Àh, Pu.Ár, Pu.Ás, Pu.ĺ, Pu.ÍC, Pu.Îi, Pu.ÌN, Pu.ÌO, Pu.Æj, Pu.Áe, Pu.Áf, Pu.Ág, Pu.Îj, Pu.Áh, Pu.Ái, Pu.Áj, Pu.ÀI, Pu.Àe, Pu.Îk, Pu.ÌP, Pu.Ák, Pu.ÂE, Pu.ÂF, Pu.Âi, Pu.ÂG, Pu.ÂW, Pu.ÀR, Pu.ÂH, Pu.Äv, Pu.ÂI, Pu.ÂJ, Pu.Äw, Pu.ÂK, Pu.ÂL, Pu.ÂM, Pu.Äx, Pu.ÂN, Pu.ÐD, Pu.ř, Pu.Ś, Pu.ś, Pu.Ài, Pu.Ŝ, Pu.ËD, Pu.ÂX, Pu.Ř, Pu.Át, Pu.ÍA, Pu.ÐE, Pu.ÍB, Pu.ÂP, Pu.ÐF, Pu.ÐG, Pu.Ál, Pu.Ám, Pu.Îl, Pu.ÀJ, Pu.Án, Pu.ÂQ, Pu.Áo, Pu.Áp, Pu.Áq, Pu.Îm, Pu.Àj, Pu.ÌQ, Pu.ŝ, Pu.ËE, Pu.Àk, Pu.Àl, Pu.Ģ, Pu.ÌR, Pu.Éi, Pu.ÂO, Pu.ÐH, Pu.Àq, Pu.ÄB, Pu.Áx, Pu.ÐI, Pu.ÌS, Pu.Òl, Pu.Òm, Pu.În, Pu.ÐJ, Pu.Îo, Pu.ËF, Pu.ËG, Pu.Ês, Pu.ÌT, Pu.ËH, Pu.Îp, Pu.ÌU, Pu.ÂZ, Pu.Àn, Pu.Ào, Pu.Àp, Pu.ÐL, Pu.ÌV, Pu.ËI, Pu.Ît, Pu.ÌW, Pu.Ìb, Pu.ÐM, Pu.ËJ, Pu.Îu, Pu.ÌX, Pu.ÐN, Pu.ËK, Pu.Êt, Pu.ÐO, Fr.ă, Fr.Č, Fr.č, Fr.þ, Fr.Ą, Fr.Ĭ, Fr.Ŋ, Fr.ŋ, Fr.ě, Fr.ĭ, Fr.Ō, Fr.Ŵ, Fr.ŵ, Fr.Į, Fr.ō, Fr.Ŏ, Fr.Ŷ, Fr.ŷ, Fr.į, Fr.ŏ, Fr.Ĝ, Fr.İ, Fr.ı, Fr.Ĕ, Fr.ĝ, Fr.Ĳ, Fr.Ő, Fr.ő, Fr.Ğ, Fr.ĳ, Bool.or_true, Bool.true_or, Bool.and_self, Bool.or_self, Bool.and_true, Bool.true_and, Bool.false_or, Bool.or_false, Bool.false_and, Bool.and_false, List.set_cons_zero, List.set_cons_succ, List.map_cons, List.map_nil, List.cons_append, List.nil_append, List.length_cons, List.length_nil, List.replicate_zero, List.replicate_succ, Nat.reduceSub, Nat.reduceAdd, Nat.zero_add, Nat.sub_self, Nat.reduceLeDiff, Nat.reduceLT, if_true, if_false, ite_true, ite_false, decide_true, decide_false, Bool.not_true, Bool.not_false, Bool.false_eq_true, reduceIte, ne_eq, not_true_eq_false, not_false_eq_true, reduceCtorEq, Option.map_some, Option.map_none, Int.reduceLT, Int.reduceLE, Int.reduceEq, Int.reduceNe, Int.reduceAdd, Int.reduceSub, Int.reduceNeg, Int.reduceToNat])
local macro_rules | `(tactic| walk_at "pvh") => `(tactic| simp only [Pu.ň, Pu.ė, Pu.Äk, Pu.Âr, Pu.Âs, Pu.Â9, Pu.Äl, Pu.Ât, Pu.Ţ, Pu.Äm, Pu.Âu, Pu.Âv, Pu.ÐB, Pu.ŗ, Pu.Âe, Pu.Âw, Pu.Âx, Pu.Ây, Pu.À3, Pu.À4, Pu.ÀF, Pu.À5, Pu.À6, Pu.À7, Pu.À8, Pu.Ž, Pu.ž, Pu.ÃV, Pu.Ãt, Pu.Än, Pu.Äo, Pu.Âz, Pu.Àa, Pu.ÁX, Pu.ÃW, Pu.ÁY, Pu.Äp, Pu.Âf, Pu.Äq, Pu.ÂA, Pu.Är, Pu.Äs, Pu.Ū, Pu.ÃC, Pu.ÁZ, Pu.ÂB, Pu.Ät, Pu.ÂC, Pu.ÄC, Pu.ũ, Pu.ĸ, Pu.Âg, Pu.ÂD, Pu.ÃD, Pu.ÀG, Pu.ÌL, Pu.ÄS, Pu.Äu, Pu.À9, Pu.ÀH, Pu.Áa, Pu.ÀQ, Pu.ū, Pu.ÁD, Pu.Áb, Pu.Á0, Pu.Âh, Pu.Îe, Pu.ÐC, Pu.Áu, Pu.Áv, Pu.Æk, Pu.Áw, Pu.Àm, Pu.ÂY, Pu.Æl, Pu.Ŕ, Pu.Àb, Pu.Ác, Pu.ÁE, Pu.Ád, Pu.Îf, Pu.ÅD, Pu.Àc, Pu.ÌM, Pu.Àd, Pu.ÃQ, Pu.ÄA, Pu.ÃR, Pu.ÂV, Pu.Â0, Pu.Áy, Pu.Îg, Pu.Â1, Pu.Áz, Pu.Îh, Pu.ÃS, Pu.Àr, Pu.Ş, Pu.Â2, Pu.Òj, Pu.Òk, Pu.Âj, Pu.ÂR, Pu.ÂS, Pu.ÂT, Pu.ÂU, Pu.Àf, Pu.Àg, Pu.Àh, Pu.Ár, Pu.Ás, Pu.ĺ, Pu.ÍC, Pu.Îi, Pu.ÌN, Pu.ÌO, Pu.Æj, Pu.Áe, Pu.Áf, Pu.Ág, Pu.Îj, Pu.Áh, Pu.Ái, Pu.Áj, Pu.ÀI, Pu.Àe, Pu.Îk, Pu.ÌP, Pu.Ák, Pu.ÂE, Pu.ÂF, Pu.Âi, Pu.ÂG, Pu.ÂW, Pu.ÀR, Pu.ÂH, Pu.Äv, Pu.ÂI, Pu.ÂJ, Pu.Äw, Pu.ÂK, Pu.ÂL, Pu.ÂM, Pu.Äx, Pu.ÂN, Pu.ÐD, Pu.ř, Pu.Ś, Pu.ś, Pu.Ài, Pu.Ŝ, Pu.ËD, Pu.ÂX, Pu.Ř, Pu.Át, Pu.ÍA, Pu.ÐE, Pu.ÍB, Pu.ÂP, Pu.ÐF, Pu.ÐG, Pu.Ál, Pu.Ám, Pu.Îl, Pu.ÀJ, Pu.Án, Pu.ÂQ, Pu.Áo, Pu.Áp, Pu.Áq, Pu.Îm, Pu.Àj, Pu.ÌQ, Pu.ŝ, Pu.ËE, Pu.Àk, Pu.Àl, Pu.Ģ, Pu.ÌR, Pu.Éi, Pu.ÂO, Pu.ÐH, Pu.Àq, Pu.ÄB, Pu.Áx, Pu.ÐI, Pu.ÌS, Pu.Òl, Pu.Òm, Pu.În, Pu.ÐJ, Pu.Îo, Pu.ËF, Pu.ËG, Pu.Ês, Pu.ÌT, Pu.ËH, Pu.Îp, Pu.ÌU, Pu.ÂZ, Pu.Àn, Pu.Ào, Pu.Àp, Pu.ÐL, Pu.ÌV, Pu.ËI, Pu.Ît, Pu.ÌW, Pu.Ìb, Pu.ÐM, Pu.ËJ, Pu.Îu, Pu.ÌX, Pu.ÐN, Pu.ËK, Pu.Êt, Pu.ÐO, Fr.ă, Fr.Č, Fr.č, Fr.þ, Fr.Ą, Fr.Ĭ, Fr.Ŋ, Fr.ŋ, Fr.ě, Fr.ĭ, Fr.Ō, Fr.Ŵ, Fr.ŵ, Fr.Į, Fr.ō, Fr.Ŏ, Fr.Ŷ, Fr.ŷ, Fr.į, Fr.ŏ, Fr.Ĝ, Fr.İ, Fr.ı, Fr.Ĕ, Fr.ĝ, Fr.Ĳ, Fr.Ő, Fr.ő, Fr.Ğ, Fr.ĳ, Bool.or_true, Bool.true_or, Bool.and_self, Bool.or_self, Bool.and_true, Bool.true_and, Bool.false_or, Bool.or_false, Bool.false_and, Bool.and_false, List.set_cons_zero, List.set_cons_succ, List.map_cons, List.map_nil, List.cons_append, List.nil_append, List.length_cons, List.length_nil, List.replicate_zero, List.replicate_succ, Nat.reduceSub, Nat.reduceAdd, Nat.zero_add, Nat.sub_self, Nat.reduceLeDiff, Nat.reduceLT, if_true, if_false, ite_true, ite_false, decide_true, decide_false, Bool.not_true, Bool.not_false, Bool.false_eq_true, reduceIte, ne_eq, not_true_eq_false, not_false_eq_true, reduceCtorEq, Option.map_some, Option.map_none, Int.reduceLT, Int.reduceLE, Int.reduceEq, Int.reduceNe, Int.reduceAdd, Int.reduceSub, Int.reduceNeg, Int.reduceToNat, *])
section
variable{dw:Dw}
end
end Ty
namespace Fr
open PySem PySem.Spec PyProof.Rows L2 RT RZ
section
variable{Wd:World}{K:PySem.W.Frag}{mg:Str→Option Value}{m:List Addr}{H:Hp}
end
section
variable{X:Cx}{C:Cc}{pos p:Pos}{tg e:Expr}{f:Sl→M (Int×Int)}
end
end Fr
namespace Pu
open PySem
section
variable{md:List Nat}
end
end Pu
namespace Ty
open PySem Pu
section
variable{k:K}{e e2:Exp}
end
end Ty
namespace Ty
open PySem Pu
section
variable{n:Nat}{B A S P Q:List (List Int)}{ds c st l:List Int}{s:Stp}
def Slt (a b:List Int):Prop:=(∀x∈a,x∈b)∧a.length<b.length
theorem ßf {a b:List Int} (ha:Asc a) (hb:Asc b) (h:∀ x∈a,x∈b) (hn:a≠b):Slt a b:=by
 refine ⟨h,?_⟩
 obtain ⟨z,hz,hza⟩:∃ z∈b,z∉a:=by
  refine Classical.byContradiction λ q=>hn (É7 ha hb λ x=>⟨h x,λ hx=>Classical.byContradiction λ w=>q ⟨x,hx,w⟩⟩)
 have:=ÓE (a:=z::a) (b:=b) (List.nodup_cons.mpr ⟨hza,ha.nodup⟩) λ x hx=>by
  rcases List.mem_cons.mp hx with rfl|hx
  ·exact hz
  ·exact h x hx
 rw[List.length_cons] at this
 omega
theorem ÀO {x:List Int}:x∈Ÿ S↔∃ i,i+1<S.length∧x=Ý S (i+1):=by
 unfold Ÿ
 rw[List.mem_map]
 constructor
 ·rintro ⟨k,hk,rfl⟩
  rw[ÈF] at hk
  exact ⟨k.toNat-1,by omega,by rw[show k.toNat-1+1=k.toNat by omega]⟩
 ·rintro ⟨i,hi,rfl⟩
  exact ⟨(i:Int)+1,by rw[ÈF];omega,by rw[show ((i:Int)+1).toNat=i+1 by omega]⟩
structure Fit (n:Nat) (S:List (List Int)) (c:List Int):Prop where
 sh:ń n S
 asc:Asc c
 ne:c≠ []
 all:Slt c (ŭ 0 n)
 cmp:∀ x∈Ÿ S,Slt x c∨Slt c x
theorem Fit.lt (f:Fit n S c):cont S c<S.length:=by
 refine Classical.byContradiction λ q=>?_
 have e:cont S c=S.length:=Nat.le_antisymm Ùd (by omega)
 have h:=Öd (A:=S) (cs:=c)
 rw[e,ÇV f.sh] at h
 have:=sub_len (ÐY 0 n) h
 have:=f.all.2
 omega
theorem Fit.lo (f:Fit n S c):Slt (Ý S (cont S c)) c:=by
 cases hk:cont S c with
 |zero=>exact ⟨(λ x hx=>by rw[ÔP] at hx;cases hx),(by rw[ÔP];exact List.length_pos_iff.mpr f.ne)⟩
 |succ k=>
  have hs:=Öd (A:=S) (cs:=c)
  have hl:=f.lt
  rw[hk] at hs hl
  rcases f.cmp _ (ÀO.mpr ⟨k,hl,rfl⟩) with z|z
  ·exact z
  ·have:=sub_len (ÇU f.sh (k+1)) hs
   have:=z.2
   omega
theorem Fit.hi (f:Fit n S c):Slt c (Ý S (cont S c+1)):=by
 have hl:=f.lt
 by_cases e:cont S c+1=S.length
 ·rw[e,ÇV f.sh];exact f.all
 ·rcases f.cmp _ (ÀO.mpr ⟨cont S c,by omega,rfl⟩) with z|z
  ·have:=Ð1 (A:=S) (cs:=c) (e:=cont S c+1) (by omega) z.1
   omega
  ·exact z
theorem ÓF (h:ń n S) {i j:Nat} (hij:i≤j) (hj:j≤S.length):(Ý S i).length≤(Ý S j).length:=by
 rcases Nat.lt_or_ge i j with q|q
 ·exact Nat.le_of_lt (Æ2 h q hj)
 ·rw[show i=j by omega];exact Nat.le_refl _
theorem Fit.iff (f:Fit n S c) {i:Nat} (hi:i≤S.length):(Ý S i).length<c.length↔i≤cont S c:=by
 have hl:=f.lt
 constructor
 ·intro h
  refine Classical.byContradiction λ q=>?_
  have:=ÓF f.sh (i:=cont S c+1) (j:=i) (by omega) hi
  have:=f.hi.2
  omega
 ·intro h
  have:=ÓF f.sh h (by omega)
  have:=f.lo.2
  omega
def putS (S:List (List Int)) (c:List Int):Stp:=⟨wN,(cont S c:Int),some ((S.getD (cont S c) []).filter λ x=>!c.contains x)⟩
def ÅV (S:List (List Int)) (c:List Int):Stp:=⟨wU,dep S c,none⟩
theorem ÎH {k:Nat} (h:k<S.length):S=S.take k++S[k]::S.drop (k+1):=by rw[←List.drop_eq_getElem_cons h,List.take_append_drop]
theorem ÜH {x:Int} (h:P.length=k):x∈Ý (P++l::Q) (k+1)↔x∈Ý (P++l::Q) k∨x∈l:=by
 subst h
 rw[ÇB,ÇB,ÈZ (j:=1) rfl,ÈZ (i:=P.length) (j:=0) rfl]
 simp
theorem Fit.cols (f:Fit n S c) (hS:S=P++l::Q) (hp:P.length=cont S c):let w:=l.filter λ x=>!c.contains x
  w.Sublist l∧w≠ []∧w.length<l.length∧∀ x,x∈c↔x∈Ý S (cont S c)∨(x∈l∧x∉w):=by
 have h1:=f.lo
 have h2:=f.hi
 have hm:∀ x,x∈Ý S (cont S c+1)↔x∈Ý S (cont S c)∨x∈l:=λ x=>by
  have:=ÜH (x:=x) (Q:=Q) (l:=l) hp
  rwa [←hS] at this
 refine ⟨List.filter_sublist,?_,?_,?_⟩
 ·intro z
  have:=Ð1 (A:=S) (cs:=c) (e:=cont S c+1) (by have:=f.lt;omega) λ x hx=>by
   rcases (hm x).mp hx with y|y
   ·exact h1.1 x y
   ·have:=List.filter_eq_nil_iff.mp z x y
    simpa using this
  omega
 ·refine Classical.byContradiction λ q=>?_
  have hw:(l.filter λ x=>!c.contains x)=l:=List.filter_sublist.eq_of_length_le (by omega)
  have:c.length≤(Ý S (cont S c)).length:=sub_len f.asc λ x hx=>by
   rcases (hm x).mp (h2.1 x hx) with y|y
   ·exact y
   ·have:=List.filter_eq_self.mp hw x y
    simp[hx] at this
  have:=h1.2
  omega
 ·intro x
  constructor
  ·intro hx
   rcases (hm x).mp (h2.1 x hx) with y|y
   ·exact .inl y
   ·exact .inr ⟨y,λ z=>by
     have:=(List.mem_filter.mp z).2
     simp[hx] at this⟩
  ·rintro (y |⟨y,z⟩)
   ·exact h1.1 x y
   ·refine Classical.byContradiction λ w=>z (List.mem_filter.mpr ⟨y,by simpa using w⟩)
theorem Fit.put (f:Fit n S c):Éo S (putS S c)∧∀ x,x∈Ÿ (aft S (putS S c))↔x∈Ÿ S∨x=c:=by
 have hl:=f.lt
 have hS:=ÎH hl
 have hp:(S.take (cont S c)).length=cont S c:=by rw[List.length_take];omega
 have hg:S.getD (cont S c) []=S[cont S c]:=by simp[List.getD,List.getElem?_eq_getElem hl]
 obtain ⟨g1,g2,g3,g4⟩:=f.cols hS hp
 generalize hP:S.take (cont S c)=P at*
 generalize hL:S[cont S c]=l at*
 generalize hQ:S.drop (cont S c+1)=Q at*
 have hc:(putS S c).cols=some (l.filter λ x=>!c.contains x):=by show some ((S.getD (cont S c) []).filter _)=_;rw[hg]
 have ok:Éo S (putS S c):=.inr ⟨rfl,cont S c,P,Q,_,l,rfl,hc,hS,hp,g1,g2,g3⟩
 refine ⟨ok,?_⟩
 have ha:aft S (putS S c)=shN P Q l (l.filter λ x=>!c.contains x):=by
  have:=ÔO (P:=P) (l:=l) (Q:=Q) (s:=putS S c) (k:=cont S c) hp rfl rfl hc
  rwa [←hS] at this
 have hs':ń n (aft S (putS S c)):=f.sh.aft ok
 have hlen:(aft S (putS S c)).length=S.length+1:=by
  rw[ha]
  conv=>rhs;rw[hS]
  simp only[List.length_append,List.length_cons]
  omega
 have hsl:Asc l:=by have:=f.sh;rw[hS] at this;exact this.mid.1
 have hmid:Ý (aft S (putS S c)) (cont S c+1)=c:=by
  refine É7 (ÇU hs' _) f.asc λ x=>?_
  rw[ha,←hp,Öb,hp,g4 x,←hS,List.mem_filter]
  have:((!(l.filter λ x=>!c.contains x).contains x)=true)↔x∉l.filter λ x=>!c.contains x:=by simp only[Bool.not_eq_true',List.contains_eq_mem,decide_eq_false_iff_not]
  rw[this]
 have hlo:∀ i,i≤cont S c→Ý (aft S (putS S c)) i=Ý S i:=λ i hi=>by
  rw[ha,ÒM (P:=P) (R':=l::Q) (by omega),←hS]
 have hhi:∀ i,cont S c<i→Ý (aft S (putS S c)) (i+1)=Ý S i:=λ i hi=>by
  rw[ha,Ùb hsl g1 (by omega),←hS]
 intro x
 rw[ÀO,ÀO,hlen]
 constructor
 ·rintro ⟨i,hi,rfl⟩
  rcases Nat.lt_trichotomy i (cont S c) with q|q|q
  ·exact .inl ⟨i,by omega,hlo _ (by omega)⟩
  ·exact .inr (by rw[q];exact hmid)
  ·obtain ⟨j,rfl⟩:∃ j,i=j+1:=⟨i-1,by omega⟩
   exact .inl ⟨j,by omega,hhi _ (by omega)⟩
 ·rintro (⟨i,hi,rfl⟩|rfl)
  ·by_cases q:i+1≤cont S c
   ·exact ⟨i,by omega,(hlo _ q).symm⟩
   ·exact ⟨i+1,by omega,(hhi _ (by omega)).symm⟩
  ·exact ⟨cont S x,by omega,hmid.symm⟩
theorem Öe (h:ń n S) (hc:c∈Ÿ S):Éo S (ÅV S c)∧∀ x,x∈Ÿ (aft S (ÅV S c))↔x∈Ÿ S∧x≠c:=by
 obtain ⟨e,he,rfl⟩:=ÀO.mp hc
 have hd:dep S (Ý S (e+1))=(e:Int):=Öa h (by omega) rfl
 have hS:S=S.take e++S[e]::S[e+1]::S.drop (e+2):=by
  have h1:=ÎH (S:=S) (k:=e) (by omega)
  rw[List.drop_eq_getElem_cons (i:=e+1) (by omega)] at h1
  exact h1
 have hp:(S.take e).length=e:=by rw[List.length_take];omega
 generalize S.take e=P at*
 generalize S[e]=l at*
 generalize S[e+1]=m at*
 generalize S.drop (e+2)=Q at*
 have ok:Éo S (ÅV S (Ý S (e+1))):=.inl ⟨rfl,e,P,Q,l,m,hd,hS,hp⟩
 refine ⟨ok,?_⟩
 have ha:aft S (ÅV S (Ý S (e+1)))=shU P Q l m:=by
  have:=ÔN (P:=P) (l:=l) (m:=m) (Q:=Q) (s:=ÅV S (Ý S (e+1))) (k:=e) hp rfl hd
  rwa [←hS] at this
 generalize ÅV S (Ý S (e+1))=t at*
 have hlen:(aft S t).length+1=S.length:=by
  rw[ha]
  conv=>rhs;rw[hS]
  simp only[List.length_append,List.length_cons]
  omega
 have hlo:∀ i,i≤e→Ý (aft S t) i=Ý S i:=λ i hi=>by
  rw[ha,ÒM (P:=P) (R':=l::m::Q) (by omega),←hS]
 have hhi:∀ i,e<i→Ý (aft S t) i=Ý S (i+1):=λ i hi=>by
  rw[ha,Ùc (by omega),←hS]
 intro x
 rw[ÀO,ÀO]
 constructor
 ·rintro ⟨i,hi,rfl⟩
  by_cases q:i+1≤e
  ·rw[hlo _ q]
   exact ⟨⟨i,by omega,rfl⟩,λ z=>by have:=ËV h (by omega) (by omega) z;omega⟩
  ·rw[hhi _ (by omega)]
   exact ⟨⟨i+1,by omega,rfl⟩,λ z=>by have:=ËV h (by omega) (by omega) z;omega⟩
 ·rintro ⟨⟨i,hi,rfl⟩,hx⟩
  by_cases q:i+1≤e
  ·exact ⟨i,by omega,(hlo _ q).symm⟩
  ·have:i≠e:=λ z=>hx (by rw[z])
   obtain ⟨j,rfl⟩:∃ j,i=j+1:=⟨i-1,by omega⟩
   exact ⟨j,by omega,(hhi _ (by omega)).symm⟩
theorem ÑQ:∀ (s1 s2:List Stp) (A:List (List Int)) (ds:List Int),Êa A ds (s1++s2)=Êa (Êa A ds s1).1 (Êa A ds s1).2 s2
 | [],_,_,_=>rfl
 |s::s1,s2,A,ds=>ÑQ s1 s2 (aft A s) (dst ds s)
theorem ÛG:∀ (ss:List Stp) (A:List (List Int)) (ds ds':List Int),(Êa A ds ss).1=(Êa A ds' ss).1
 | [],_,_,_=>rfl
 |s::ss,A,ds,ds'=>ÛG ss (aft A s) (dst ds s) (dst ds' s)
theorem Ôb:∀ {s1 s2:List Stp} {A:List (List Int)} {ds:List Int},Steps A s1→Steps (Êa A ds s1).1 s2→Steps A (s1++s2)
 | [],_,_,_,_,h=>h
 |s::s1,s2,A,ds,h1,h2=>⟨h1.1,Ôb (ds:=dst ds s) h1.2 h2⟩
abbrev SQ:=List (List Int)×List Stp
def blk (D:Int) (st:List Int) (q:SQ) (x:List Int×Int):SQ:=if x.2=D∧x.1≠st then (aft q.1 (putS q.1 x.1),q.2++[putS q.1 x.1]) else q
def tkD (D:Int) (st:List Int) (ends:List (List Int×Int)) (q:SQ):SQ:=if 0<D∧(st,D)∉ends then (aft q.1 (ÅV q.1 st),q.2++[ÅV q.1 st]) else q
abbrev ľ (A:List (List Int)) (ds:List Int):List (List Int×Int):=(Ÿ A).zip ds
theorem Rg.ÍN (r:Rg n B A ds) {x:List Int×Int} (h:x∈ľ A ds):Asc x.1∧x.1≠ []∧Slt x.1 (ŭ 0 n)∧0≤x.2∧x.2<B.length∧∀ c∈Ý B x.2.toNat,c∈x.1:=by
 obtain ⟨pre,suf,e⟩:=List.append_of_mem h
 obtain ⟨hl,rfl⟩:=Õ8 r e
 have:=r.len
 refine ⟨ÇU r.hA _,?_,⟨λ x hx=>by have:=ßc r.hA hx;rw[ÈF];omega,?_⟩,(r.rng _ (List.getElem_mem hl)).1,(r.rng _ (List.getElem_mem hl)).2,r.sub _ _ (List.getElem?_eq_getElem hl)⟩
 ·intro z
  have:=Æ2 r.hA (i:=0) (j:=pre.length+1) (by omega) (by omega)
  have z:Ý A (pre.length+1)=[]:=z
  rw[z] at this
  simp at this
 ·rw[←ÇV r.hA]
  exact Æ2 r.hA (by omega) (Nat.le_refl _)
theorem Rg.ÜI (r:Rg n B A ds):(ľ A ds).length=ds.length:=by
 have:=r.len
 rw[List.length_zip,Ì2];omega
theorem Rg.ÒN (r:Rg n B A ds) {pre suf:List (List Int×Int)} {x y:List Int×Int} (e:ľ A ds=pre++x::suf) (hy:y∈pre):Slt y.1 x.1∧y.2≤x.2:=by
 have:=r.len
 obtain ⟨hl,rfl⟩:=Õ8 r e
 obtain ⟨p1,p2,rfl⟩:=List.append_of_mem hy
 rw[List.append_assoc] at e
 obtain ⟨hk,rfl⟩:=Õ8 r e
 simp only[List.length_append,List.length_cons] at hl ⊢
 refine ⟨⟨λ c hc=>Õ6 (by omega) hc,Æ2 r.hA (by omega) (by omega)⟩,r.le (i:=p1.length) (j:=p1.length+(p2.length+1)) (by omega) (List.getElem?_eq_getElem hk) (List.getElem?_eq_getElem hl)⟩
theorem Rg.ÛH (r:Rg n B A ds) {pre suf:List (List Int×Int)} {x y:List Int×Int} (e:ľ A ds=pre++x::suf) (hy:y∈suf):Slt x.1 y.1∧x.2≤y.2:=by
 obtain ⟨p1,p2,rfl⟩:=List.append_of_mem hy
 exact r.ÒN (pre:=pre++x::p1) (suf:=p2) (by rw[e];simp) (by simp)
structure Éq (n:Nat) (B A:List (List Int)) (ds:List Int) (D:Nat) (pre:List (List Int×Int)) (q:SQ):Prop where
 D4:D<B.length
 sh:ń n q.1
 a:∀ x∈Ÿ q.1,(∃j,j+1≤D∧x=Ý B (j+1))∨(∃d:Int,(D:Int)<d∧(x,d)∈ľ A ds)∨(x,(D:Int))∈pre
 b:∀ j,j+1≤D→Ý B (j+1)∈Ÿ q.1
 c:∀ x∈ľ A ds,(D:Int)<x.2→x.1∈Ÿ q.1
 c':∀ x∈pre,x.2=(D:Int)→x.1∈Ÿ q.1
 st:Steps B q.2
 ru:(Êa B [] q.2).1=q.1
 len:q.2.length+4*D≤12+pre.length
 cl:∀ t∈q.2,∀c,t.cols=some c→c.length≤4
theorem Éq.step {D:Nat} {pre:List (List Int×Int)} {q:SQ} (v:Éq n B A ds D pre q) {s:Stp} (ok:Éo q.1 s) (hc:∀ c,s.cols=some c→c.length≤4):Steps B (q.2++[s])∧(Êa B [] (q.2++[s])).1=aft q.1 s∧ń n (aft q.1 s)∧∀ t∈q.2++[s],∀c,t.cols=some c→c.length≤4:=by
 refine ⟨Ôb (ds:=[]) v.st (by rw[v.ru];exact ⟨ok,trivial⟩),?_,v.sh.aft ok,λ t ht=>?_⟩
 ·rw[ÑQ,v.ru]
  rfl
 ·rcases List.mem_append.mp ht with z|z
  ·exact v.cl t z
  ·rw[List.mem_singleton.mp z];exact hc
theorem ám (f:Fit n S c) (n4:n≤4):∀ w,(putS S c).cols=some w→w.length≤4:=λ w h=>by
 have hl:=f.lt
 have hrow:=f.sh.row (List.getElem_mem hl)
 have h:some ((S.getD (cont S c) []).filter λ x=>!c.contains x)=some w:=h
 cases h
 have:=List.length_filter_le (λ x=>!c.contains x) (S.getD (cont S c) [])
 rw[show S.getD (cont S c) []=S[cont S c] by simp[List.getD,List.getElem?_eq_getElem hl]] at this ⊢
 omega
theorem Éq.fit (r:Rg n B A ds) {D:Nat} {pre suf:List (List Int×Int)} {x:List Int×Int} {q:SQ} (e:ľ A ds=pre++x::suf) (v:Éq n B A ds D pre q) (h1:x.2=(D:Int)) (h2:x.1≠Ý B D):Fit n q.1 x.1:=by
 obtain ⟨g1,g2,g3,g4,g5,g6⟩:=r.ÍN (x:=x) (by rw[e];simp)
 have hD:=v.D4
 rw[h1,show ((D:Int)).toNat=D by omega] at g6
 refine ⟨v.sh,g1,g2,g3,λ y hy=>?_⟩
 rcases v.a y hy with ⟨j,hj,rfl⟩ |⟨d,hd,hm⟩|hm
 ·refine .inl (ßf (ÇU r.hB _) g1 (λ c hc=>g6 c (Õ6 hj hc)) λ z=>?_)
  have:=sub_len (ÇU r.hB D) g6
  rw[←z] at this
  rcases Nat.lt_or_ge (j+1) D with w|w
  ·have:=Æ2 r.hB w (by omega)
   omega
  ·exact h2 (by rw[←z,show j+1=D by omega])
 ·rw[e] at hm
  rcases List.mem_append.mp hm with w|w
  ·have:=(r.ÒN e w).2
   have:d≤x.2:=this
   omega
  ·rcases List.mem_cons.mp w with w|w
   ·rw[←w] at h1
    have h1:d=(D:Int):=h1
    omega
   ·exact .inr (r.ÛH e w).1
 ·exact .inl (r.ÒN e hm).1
theorem Éq.next (r:Rg n B A ds) {D:Nat} {pre suf:List (List Int×Int)} {x:List Int×Int} {q:SQ} (e:ľ A ds=pre++x::suf) (v:Éq n B A ds D pre q):Éq n B A ds D (pre++[x]) (blk (D:Int) (Ý B D) q x):=by
 obtain ⟨g1,g2,g3,g4,g5,g6⟩:=r.ÍN (x:=x) (by rw[e];simp)
 unfold blk
 by_cases hc:x.2=(D:Int)∧x.1≠Ý B D
 ·rw[if_pos hc]
  obtain ⟨ok,hm⟩:=(v.fit r e hc.1 hc.2).put
  obtain ⟨w1,w2,w3,w4⟩:=v.step ok (ám (v.fit r e hc.1 hc.2) r.n4)
  refine ⟨v.D4,w3,λ y hy=>?_,λ j hj=>(hm _).mpr (.inl (v.b j hj)),λ y hy hd=>(hm _).mpr (.inl (v.c y hy hd)),λ y hy hd=>?_,w1,w2,?_,?_⟩
  ·rcases (hm y).mp hy with z|z
   ·rcases v.a y z with z|z|z
    ·exact .inl z
    ·exact .inr (.inl z)
    ·exact .inr (.inr (List.mem_append_left _ z))
   ·refine .inr (.inr (List.mem_append_right _ ?_))
    rw[z,←hc.1]
    exact List.mem_singleton.mpr rfl
  ·rcases List.mem_append.mp hy with z|z
   ·exact (hm _).mpr (.inl (v.c' y z hd))
   ·rw[List.mem_singleton.mp z]
    exact (hm _).mpr (.inr rfl)
  ·have:=v.len
   simp only[List.length_append,List.length_cons,List.length_nil]
   omega
  ·exact w4
 ·rw[if_neg hc]
  refine ⟨v.D4,v.sh,λ y hy=>?_,v.b,v.c,λ y hy hd=>?_,v.st,v.ru,?_,v.cl⟩
  ·rcases v.a y hy with z|z|z
   ·exact .inl z
   ·exact .inr (.inl z)
   ·exact .inr (.inr (List.mem_append_left _ z))
  ·rcases List.mem_append.mp hy with z|z
   ·exact v.c' y z hd
   ·rw[List.mem_singleton.mp z] at hd ⊢
    have hx:x.1=Ý B D:=Classical.byContradiction λ w=>hc ⟨hd,w⟩
    cases D with
    |zero=>rw[ÔP] at hx;exact absurd hx g2
    |succ k=>rw[hx];exact v.b k (Nat.le_refl _)
  ·have:=v.len
   simp only[List.length_append,List.length_cons,List.length_nil]
   omega
theorem Éq.take (r:Rg n B A ds) {D:Nat} {q:SQ} (v:Éq n B A ds (D+1) (ľ A ds) q):Éq n B A ds D [] (tkD ((D+1:Nat):Int) (Ý B (D+1)) (ľ A ds) q):=by
 have hl:=v.len
 have hD:=v.D4
 have hs:=r.small
 rw[r.ÜI] at hl
 have ha:∀ y∈Ÿ q.1,y≠Ý B (D+1)∨(Ý B (D+1),((D+1:Nat):Int))∈ľ A ds→(∃j,j+1≤D∧y=Ý B (j+1))∨(∃d:Int,(D:Int)<d∧(y,d)∈ľ A ds)∨(y,(D:Int))∈([]:List (List Int×Int)):=λ y hy h=>by
  rcases v.a y hy with ⟨j,hj,rfl⟩ |⟨d,hd,hm⟩|hm
  ·by_cases q:j=D
   ·subst q
    rcases h with h|h
    ·exact absurd rfl h
    ·exact .inr (.inl ⟨_,by omega,h⟩)
   ·exact .inl ⟨j,by omega,rfl⟩
  ·exact .inr (.inl ⟨d,by omega,hm⟩)
  ·exact .inr (.inl ⟨_,by omega,hm⟩)
 have hcc:∀ x∈ľ A ds,(D:Int)<x.2→x.1∈Ÿ q.1:=λ x hx hd=>by
  by_cases z:x.2=((D+1:Nat):Int)
  ·exact v.c' x hx z
  ·exact v.c x hx (by omega)
 unfold tkD
 by_cases hc:(0:Int)<((D+1:Nat):Int)∧(Ý B (D+1),((D+1:Nat):Int))∉ľ A ds
 ·rw[if_pos hc]
  obtain ⟨ok,hm⟩:=Öe v.sh (v.b D (Nat.le_refl _))
  obtain ⟨w1,w2,w3,w4⟩:=v.step ok λ c z=>nomatch z
  refine ⟨by omega,w3,λ y hy=>?_,λ j hj=>(hm _).mpr ⟨v.b j (by omega),λ z=>?_⟩,λ x hx hd=>(hm _).mpr ⟨hcc x hx hd,λ z=>?_⟩,(λ y hy=>by cases hy),w1,w2,?_,w4⟩
  ·obtain ⟨h1,h2⟩:=(hm y).mp hy
   exact ha y h1 (.inl h2)
  ·have:=ËV r.hB (by omega) (by omega) z
   omega
  ·by_cases w:x.2=((D+1:Nat):Int)
   ·refine hc.2 ?_
    rw[←z,←w]
    exact hx
   ·obtain ⟨_,_,_,g4,g5,g6⟩:=r.ÍN hx
    have:=sub_len (ÇU r.hB _) g6
    rw[z] at this
    have:=Æ2 r.hB (i:=D+1) (j:=x.2.toNat) (by omega) (by omega)
    omega
  ·simp only[List.length_append,List.length_cons,List.length_nil]
   omega
 ·rw[if_neg hc]
  refine ⟨by omega,v.sh,λ y hy=>ha y hy (.inr (Classical.byContradiction λ z=>hc ⟨by omega,z⟩)),λ j hj=>v.b j (by omega),hcc,(λ y hy=>by cases hy),v.st,v.ru,?_,v.cl⟩
  simp only[List.length_nil]
  omega
theorem Éq.start (r:Rg n B A ds):Éq n B A ds (B.length-1) [] (B,[]):=by
 have hp:=r.pB
 have h4:=r.lB
 refine ⟨by omega,r.hB,λ x hx=>?_,λ j hj=>ÀO.mpr ⟨j,(show j+1<B.length by omega),rfl⟩,λ x hx hd=>?_,(λ x hx=>by cases hx),trivial,rfl,(by simp;omega),λ t ht=>by cases ht⟩
 ·obtain ⟨i,hi,rfl⟩:=ÀO.mp hx
  have hi:i+1<B.length:=hi
  exact .inl ⟨i,by omega,rfl⟩
 ·have:=(r.ÍN hx).2.2.2.2.1
  omega
end
section
variable{α β:Type}[DecidableEq α][DecidableEq β]{en:α→W}{d:α→PyData}{k:Nat}{P:α→Prop}{en2:β→W}{d2:β→PyData}{P2:β→Prop}
theorem DOk.two (h:DOk en d k P) (h2:DOk en2 d2 k P2):DOk (n2 en en2) (λ p:α×β=>PyData.tuple [d p.1,d2 p.2]) (k+1) (λ p=>P p.1∧P2 p.2) where
 to m p hp:=by
  have e:=h.to m p.1 hp.1
  have e1:=h2.to m p.2 hp.2
  show (ÉY (toP (m+k+1)) [en p.1,en2 p.2]).map PyData.tuple=_
  simp only[ÉY,e,e1]
  rfl
 eqv x y:=by
  show (PyData.eqv (d x.1) (d y.1)&&(PyData.eqv (d2 x.2) (d2 y.2)&&true))=_
  rw[h.eqv,h2.eqv,Bool.and_true]
  by_cases c:x.1=y.1
  ·by_cases c2:x.2=y.2
   ·rw[show x=y from Prod.ext c c2]
    simp
   ·have:¬x=y:=λ z=>c2 (by rw[z])
    simp[c2,this]
  ·have:¬x=y:=λ z=>c (by rw[z])
   simp[c,this]
 lay p hp:=by
  show (PyData.canLay0 (d p.1)&&(PyData.canLay0 (d2 p.2)&&true))=true
  rw[h.lay _ hp.1,h2.lay _ hp.2]
  rfl
 dep p:=by
  show max (PyData.depth (d p.1)) (max (PyData.depth (d2 p.2)) 0)+1≤k+1
  have:=h.dep p.1
  have:=h2.dep p.2
  omega
end
end Ty
namespace Ty
open PySem Pu
section
variable{n:Nat}{B A S P Q:List (List Int)}{ds dq c d1 d2 l m:List Int}{xs:Ol Val}{D:Nat}{q:SQ}
theorem ÃM (h:dq.length+1=S.length) {x:List Int} {d:Int}:(x,d)∈ľ S dq↔∃ i,i+1<S.length∧x=Ý S (i+1)∧dq[i]?=some d:=by
 constructor
 ·intro hm
  obtain ⟨i,hi⟩:=List.mem_iff_getElem?.mp hm
  rw[List.getElem?_zip_eq_some] at hi
  have hl:=(List.getElem?_eq_some_iff.mp hi.2).1
  have h1:=hi.1
  rw[ÊQ (by omega)] at h1
  exact ⟨i,by omega,(Option.some.inj h1).symm,hi.2⟩
 ·rintro ⟨i,hi,rfl,hd⟩
  refine List.mem_of_getElem? (i:=i) ?_
  rw[List.getElem?_zip_eq_some]
  exact ⟨ÊQ hi,hd⟩
theorem Fit.áo (f:Fit n S c):(∀i,i≤cont S c→Ý (aft S (putS S c)) i=Ý S i)∧Ý (aft S (putS S c)) (cont S c+1)=c∧(∀i,cont S c<i→Ý (aft S (putS S c)) (i+1)=Ý S i)∧(aft S (putS S c)).length=S.length+1:=by
 have hl:=f.lt
 have ok:=f.put.1
 have hS:=ÎH hl
 have hp:(S.take (cont S c)).length=cont S c:=by rw[List.length_take];omega
 have hg:S.getD (cont S c) []=S[cont S c]:=by simp[List.getD,List.getElem?_eq_getElem hl]
 obtain ⟨g1,g2,g3,g4⟩:=f.cols hS hp
 generalize hP:S.take (cont S c)=P at*
 generalize hL:S[cont S c]=l at*
 generalize hQ:S.drop (cont S c+1)=Q at*
 have hc:(putS S c).cols=some (l.filter λ x=>!c.contains x):=by show some ((S.getD (cont S c) []).filter _)=_;rw[hg]
 have ha:aft S (putS S c)=shN P Q l (l.filter λ x=>!c.contains x):=by
  have:=ÔO (P:=P) (l:=l) (Q:=Q) (s:=putS S c) (k:=cont S c) hp rfl rfl hc
  rwa [←hS] at this
 have hs':ń n (aft S (putS S c)):=f.sh.aft ok
 have hsl:Asc l:=by have:=f.sh;rw[hS] at this;exact this.mid.1
 refine ⟨λ i hi=>?_,?_,λ i hi=>?_,?_⟩
 ·rw[ha,ÒM (P:=P) (R':=l::Q) (by omega),←hS]
 ·refine É7 (ÇU hs' _) f.asc λ x=>?_
  rw[ha,←hp,Öb,hp,g4 x,←hS,List.mem_filter]
  have:((!(l.filter λ x=>!c.contains x).contains x)=true)↔x∉l.filter λ x=>!c.contains x:=by simp only[Bool.not_eq_true',List.contains_eq_mem,decide_eq_false_iff_not]
  rw[this]
 ·rw[ha,Ùb hsl g1 (by omega),←hS]
 ·rw[ha]
  conv=>rhs;rw[hS]
  simp only[List.length_append,List.length_cons]
  omega
theorem Fit.áp (f:Fit n S c) (h:dq.length+1=S.length) {x:List Int} {d:Int} (hm:(x,d)∈ľ (aft S (putS S c)) (dst dq (putS S c))):(x,d)∈ľ S dq∨(x=c∧d=newD dq (cont S c)):=by
 obtain ⟨lo,mid,hi,len⟩:=f.áo
 have hl:=f.lt
 have hd:dst dq (putS S c)=dq.take (cont S c)++[newD dq (cont S c)]++dq.drop (cont S c):=by
  unfold dst
  rw[if_neg (show ¬((putS S c).word=wU) from wNU)]
  rfl
 rw[hd] at hm
 have hlen:(dq.take (cont S c)++[newD dq (cont S c)]++dq.drop (cont S c)).length+1=(aft S (putS S c)).length:=by
  rw[len]
  simp only[List.length_append,List.length_take,List.length_drop,List.length_singleton]
  omega
 obtain ⟨i,hi1,rfl,hi2⟩:=(ÃM hlen).mp hm
 rw[ins_get (by omega)] at hi2
 rcases Nat.lt_trichotomy i (cont S c) with w|w|w
 ·rw[if_pos w] at hi2
  exact .inl ((ÃM h).mpr ⟨i,by omega,lo _ (by omega),hi2⟩)
 ·rw[if_neg (by omega),if_pos w] at hi2
  exact .inr ⟨by rw[w];exact mid,(Option.some.inj hi2).symm⟩
 ·rw[if_neg (by omega),if_neg (by omega)] at hi2
  obtain ⟨j,rfl⟩:∃ j,i=j+1:=⟨i-1,by omega⟩
  exact .inl ((ÃM h).mpr ⟨j,by omega,hi _ (by omega),hi2⟩)
theorem ßg (h:ń n S) {e:Nat} (he:e+1<S.length) (hq:dq.length+1=S.length) {x:List Int} {d:Int} (hm:(x,d)∈ľ (aft S (ÅV S (Ý S (e+1)))) (dst dq (ÅV S (Ý S (e+1))))):(x,d)∈ľ S dq:=by
 have hd:dep S (Ý S (e+1))=(e:Int):=Öa h (by omega) rfl
 have hS:S=S.take e++S[e]::S[e+1]::S.drop (e+2):=by
  have h1:=ÎH (S:=S) (k:=e) (by omega)
  rw[List.drop_eq_getElem_cons (i:=e+1) (by omega)] at h1
  exact h1
 have hp:(S.take e).length=e:=by rw[List.length_take];omega
 have hD:dst dq (ÅV S (Ý S (e+1)))=dq.eraseIdx e:=by
  unfold dst
  rw[if_pos (show (ÅV S (Ý S (e+1))).word=wU from rfl),show (ÅV S (Ý S (e+1))).level=(e:Int) from hd]
  rfl
 rw[hD] at hm
 generalize S.take e=P at*
 generalize S[e]=l at*
 generalize S[e+1]=m at*
 generalize S.drop (e+2)=Q at*
 have ha:aft S (ÅV S (Ý S (e+1)))=shU P Q l m:=by
  have:=ÔN (P:=P) (l:=l) (m:=m) (Q:=Q) (s:=ÅV S (Ý S (e+1))) (k:=e) hp rfl hd
  rwa [←hS] at this
 have hlen:(aft S (ÅV S (Ý S (e+1)))).length+1=S.length:=by
  rw[ha]
  conv=>rhs;rw[hS]
  simp only[List.length_append,List.length_cons]
  omega
 have hlo:∀ i,i≤e→Ý (aft S (ÅV S (Ý S (e+1)))) i=Ý S i:=λ i hi=>by
  rw[ha,ÒM (P:=P) (R':=l::m::Q) (by omega),←hS]
 have hhi:∀ i,e<i→Ý (aft S (ÅV S (Ý S (e+1)))) i=Ý S (i+1):=λ i hi=>by
  rw[ha,Ùc (by omega),←hS]
 have hl2:(dq.eraseIdx e).length+1=(aft S (ÅV S (Ý S (e+1)))).length:=by
  rw[List.length_eraseIdx_of_lt (by omega)];omega
 obtain ⟨i,hi1,rfl,hi2⟩:=(ÃM hl2).mp hm
 rw[List.getElem?_eraseIdx] at hi2
 split at hi2
 ·rename_i w
  exact (ÃM hq).mpr ⟨i,by omega,hlo _ (by omega),hi2⟩
 ·rename_i w
  exact (ÃM hq).mpr ⟨i+1,by omega,hhi _ (by omega),hi2⟩
theorem pw_ext {α:Type} {R:α→α→Prop} (irr:∀ a,¬R a a) (asy:∀ a b,R a b→R b a→False):∀ {a b:List α},a.Pairwise R→b.Pairwise R→(∀x,x∈a↔x∈b)→a=b
 | [],[],_,_,_=>rfl
 | [],y::b,_,_,h=>absurd ((h y).mpr List.mem_cons_self) (by simp)
 |x::a,[],_,_,h=>absurd ((h x).mp List.mem_cons_self) (by simp)
 |x::a,y::b,ha,hb,h=>by
  obtain ⟨a1,a2⟩:=List.pairwise_cons.mp ha
  obtain ⟨b1,b2⟩:=List.pairwise_cons.mp hb
  have e:x=y:=by
   rcases List.mem_cons.mp ((h x).mp List.mem_cons_self) with z|z
   ·exact z
   ·rcases List.mem_cons.mp ((h y).mpr List.mem_cons_self) with w|w
    ·exact w.symm
    ·exact absurd (a1 y w) λ k=>asy _ _ k (b1 x z)
  subst e
  rw[pw_ext irr asy a2 b2 λ z=>?_]
  constructor
  ·intro hz
   rcases List.mem_cons.mp ((h z).mp (List.mem_cons_of_mem _ hz)) with w|w
   ·rw[w] at hz;exact absurd (a1 _ hz) (irr _)
   ·exact w
  ·intro hz
   rcases List.mem_cons.mp ((h z).mpr (List.mem_cons_of_mem _ hz)) with w|w
   ·rw[w] at hz;exact absurd (b1 _ hz) (irr _)
   ·exact w
theorem Ùe (h:ń n S):(Ÿ S).Pairwise λ a b=>a.length<b.length:=by
 rw[List.pairwise_iff_getElem]
 intro i j hi hj hij
 rw[Ì2] at hi hj
 have e1:=ÊQ (A:=S) (i:=i) (by omega)
 have e2:=ÊQ (A:=S) (i:=j) (by omega)
 rw[List.getElem?_eq_getElem (by rw[Ì2];omega)] at e1 e2
 rw[Option.some.inj e1,Option.some.inj e2]
 exact Æ2 h (by omega) (by omega)
theorem ßh (hS:ń n S) (hA:ń n A) (n1:1≤n) (h:∀ x,x∈Ÿ S↔x∈Ÿ A):S=A:=by
 have e:Ÿ S=Ÿ A:=pw_ext (R:=λ a b=>a.length<b.length) (λ a z=>absurd z (Nat.lt_irrefl _)) (λ a b z w=>absurd z (Nat.lt_asymm w)) (Ùe hS) (Ùe hA) h
 have e2:Íe [] S=Íe [] A:=by
  rw[←Ø4 hS n1,←Ø4 hA n1]
  exact congrArg (·++ [ŭ 0 n]) e
 have s:=ÑM (acc:=[]) (ls:=S) hS.nodup λ l hl=>hS.asc l hl
 have a:=ÑM (acc:=[]) (ls:=A) hA.nodup λ l hl=>hA.asc l hl
 rw[←s,←a,e2]
abbrev dpq (B:List (List Int)) (q:SQ):List Int:=(Êa B (ŭ 1 (B.length-1)) q.2).2
structure Ê9 (n:Nat) (B A:List (List Int)) (ds:List Int) (D:Nat) (pre:List (List Int×Int)) (q:SQ):Prop where
 v:Éq n B A ds D pre q
 pr:∀ x d,(x,d)∈ľ q.1 (dpq B q)→(∃j,j+1≤D∧x=Ý B (j+1)∧d=((j+1:Nat):Int))∨((D:Int)<d∧(x,d)∈ľ A ds)∨(d=(D:Int)∧(x,(D:Int))∈pre)
theorem Ê9.rg (r:Rg n B A ds) {pre:List (List Int×Int)} (w:Ê9 n B A ds D pre q):Rg n B q.1 (dpq B q):=by
 have:=Ùa q.2 B (ŭ 1 (B.length-1)) (Rg.idt r.hB r.n1 r.n4) w.v.st
 rwa [ÛG q.2 B (ŭ 1 (B.length-1)) [],w.v.ru] at this
theorem Ùf {s:Stp} {S':List (List Int)}:dpq B (S',q.2++[s])=dst (dpq B q) s:=by
 unfold dpq
 rw[ÑQ]
 rfl
theorem Ê9.next (r:Rg n B A ds) {pre suf:List (List Int×Int)} {x:List Int×Int} (e:ľ A ds=pre++x::suf) (w:Ê9 n B A ds D pre q):Ê9 n B A ds D (pre++[x]) (blk (D:Int) (Ý B D) q x):=by
 refine ⟨w.v.next r e,?_⟩
 have rq:=w.rg r
 have lq:=rq.len
 obtain ⟨g1,g2,g3,g4,g5,g6⟩:=r.ÍN (x:=x) (by rw[e];simp)
 unfold blk
 by_cases hc:x.2=(D:Int)∧x.1≠Ý B D
 ·rw[if_pos hc]
  have f:=w.v.fit r e hc.1 hc.2
  intro y d hm
  rw[Ùf] at hm
  rcases f.áp lq hm with z |⟨rfl,z⟩
  ·rcases w.pr y d z with y1|y1|y1
   ·exact .inl y1
   ·exact .inr (.inl y1)
   ·exact .inr (.inr ⟨y1.1,List.mem_append_left _ y1.2⟩)
  ·refine .inr (.inr ⟨?_,List.mem_append_right _ (List.mem_singleton.mpr (by rw[←hc.1]))⟩)
   have hD:=w.v.D4
   have hl:=f.lt
   have lo:=f.lo
   rw[hc.1,show ((D:Int)).toNat=D by omega] at g6
   cases hk:cont q.1 x.1 with
   |zero=>
    rw[hk] at z
    rw[z,ÏV]
    cases D with
    |zero=>rfl
    |succ D=>
     obtain ⟨i,hi,hie⟩:=ÀO.mp (w.v.b D (Nat.le_refl _))
     have:=Ð1 (A:=q.1) (cs:=x.1) (e:=i+1) (by omega) λ y hy=>g6 y (by rw[hie];exact hy)
     omega
   |succ k=>
    rw[hk] at z lo hl
    rw[Ép (by omega)] at z
    have hm2:(Ý q.1 (k+1),(dpq B q)[k]'(by omega))∈ľ q.1 (dpq B q):=(ÃM lq).mpr ⟨k,by omega,rfl,List.getElem?_eq_getElem (by omega)⟩
    rw[←z] at hm2
    rcases w.pr _ _ hm2 with ⟨j,hj,y1,y2⟩ |⟨y1,y2⟩ |⟨y1,_⟩
    ·rcases Nat.lt_or_ge (j+1) D with y3|y3
     ·exfalso
      cases D with
      |zero=>omega
      |succ D=>
       obtain ⟨i,hi,hie⟩:=ÀO.mp (w.v.b D (Nat.le_refl _))
       have c1:=Ð1 (A:=q.1) (cs:=x.1) (e:=i+1) (by omega) λ y hy=>g6 y (by rw[hie];exact hy)
       have c2:=Æ2 r.hB (i:=j+1) (j:=D+1) (by omega) (by omega)
       rw[←y1,hie] at c2
       have c3:=ÓF rq.hA (i:=i+1) (j:=k+1) (by omega) (by omega)
       omega
     ·omega
    ·exfalso
     rw[e] at y2
     rcases List.mem_append.mp y2 with y3|y3
     ·have:=(r.ÒN e y3).2
      have:d≤x.2:=this
      omega
     ·rcases List.mem_cons.mp y3 with y4|y4
      ·have:=congrArg Prod.snd y4
       have:d=x.2:=this
       omega
      ·have:=(r.ÛH e y4).1.2
       have h2:=lo.2
       have this:x.1.length<(Ý q.1 (k+1)).length:=this
       omega
    ·exact y1
 ·rw[if_neg hc]
  intro y d hm
  rcases w.pr y d hm with z|z|z
  ·exact .inl z
  ·exact .inr (.inl z)
  ·exact .inr (.inr ⟨z.1,List.mem_append_left _ z.2⟩)
theorem Ê9.take (r:Rg n B A ds) (w:Ê9 n B A ds (D+1) (ľ A ds) q):Ê9 n B A ds D [] (tkD ((D+1:Nat):Int) (Ý B (D+1)) (ľ A ds) q):=by
 refine ⟨w.v.take r,?_⟩
 have rq:=w.rg r
 have lq:=rq.len
 have hD:=w.v.D4
 have ha:∀ y d,(y,d)∈ľ q.1 (dpq B q)→y≠Ý B (D+1)∨(Ý B (D+1),((D+1:Nat):Int))∈ľ A ds→(∃j,j+1≤D∧y=Ý B (j+1)∧d=((j+1:Nat):Int))∨((D:Int)<d∧(y,d)∈ľ A ds)∨(d=(D:Int)∧(y,(D:Int))∈([]:List (List Int×Int))):=λ y d hy h=>by
  rcases w.pr y d hy with ⟨j,hj,rfl,rfl⟩ |⟨h1,h2⟩ |⟨h1,h2⟩
  ·by_cases z:j=D
   ·subst z
    rcases h with h|h
    ·exact absurd rfl h
    ·exact .inr (.inl ⟨by omega,h⟩)
   ·exact .inl ⟨j,by omega,rfl,rfl⟩
  ·exact .inr (.inl ⟨by omega,h2⟩)
  ·refine .inr (.inl ⟨by omega,?_⟩)
   rw[h1]
   exact h2
 unfold tkD
 by_cases hc:(0:Int)<((D+1:Nat):Int)∧(Ý B (D+1),((D+1:Nat):Int))∉ľ A ds
 ·rw[if_pos hc]
  obtain ⟨e,he,hce⟩:=ÀO.mp (w.v.b D (Nat.le_refl _))
  intro y d hm
  rw[Ùf] at hm
  have hne:y≠Ý B (D+1):=by
   have ãv:y∈Ÿ (aft q.1 (ÅV q.1 (Ý B (D+1)))):=(List.of_mem_zip hm).1
   exact (((Öe w.v.sh (w.v.b D (Nat.le_refl _))).2 y).mp ãv).2
  rw[hce] at hm
  exact ha y d (ßg rq.hA he lq hm) (.inl hne)
 ·rw[if_neg hc]
  intro y d hm
  exact ha y d hm (.inr (Classical.byContradiction λ z=>hc ⟨by omega,z⟩))
theorem Ê9.start (r:Rg n B A ds):Ê9 n B A ds (B.length-1) [] (B,[]):=by
 have hp:=r.pB
 refine ⟨Éq.start r,λ x d hm=>?_⟩
 have hm:(x,d)∈ľ B (ŭ 1 (B.length-1)):=hm
 obtain ⟨i,hi,rfl,hd⟩:=(ÃM (by rw[Àt];omega)).mp hm
 rw[É2 (by omega)] at hd
 have:=Option.some.inj hd
 exact .inl ⟨i,by omega,rfl,by omega⟩
theorem Ê9.done (r:Rg n B A ds) (w:Ê9 n B A ds 0 (ľ A ds) q):q.1=A∧dpq B q=ds:=by
 have rq:=w.rg r
 have lq:=rq.len
 have lA:=r.len
 have all:∀ x d,(x,d)∈ľ q.1 (dpq B q)→(x,d)∈ľ A ds:=λ x d hm=>by
  rcases w.pr x d hm with ⟨j,hj,_⟩ |⟨_,h⟩ |⟨h1,h2⟩
  ·omega
  ·exact h
  ·rw[h1];exact h2
 have has:∀ (x:List Int×Int),x∈ľ A ds→x.1∈Ÿ q.1:=λ x hx=>by
  have:=(r.ÍN hx).2.2.2.1
  by_cases z:x.2=((0:Nat):Int)
  ·exact w.v.c' x hx z
  ·exact w.v.c x hx (by omega)
 have e:q.1=A:=ßh rq.hA r.hA r.n1 λ x=>by
  constructor
  ·intro hx
   obtain ⟨i,hi,rfl⟩:=ÀO.mp hx
   have:=all _ _ ((ÃM lq).mpr ⟨i,hi,rfl,List.getElem?_eq_getElem (by omega)⟩)
   exact (List.of_mem_zip this).1
  ·intro hx
   obtain ⟨i,hi,rfl⟩:=ÀO.mp hx
   exact has _ ((ÃM lA).mpr ⟨i,hi,rfl,List.getElem?_eq_getElem (show i<ds.length by omega)⟩)
 refine ⟨e,?_⟩
 rw[e] at lq all
 apply List.ext_getElem?
 intro i
 by_cases hi:i<ds.length
 ·have hq:i<(dpq B q).length:=by omega
  obtain ⟨j,hj,h1,h2⟩:=(ÃM lA).mp (all _ _ ((ÃM lq).mpr ⟨i,by omega,rfl,List.getElem?_eq_getElem hq⟩))
  have:=ËV r.hA (by omega) (by omega) h1
  rw[show j=i by omega] at h2
  rw[List.getElem?_eq_getElem hq,h2]
 ·rw[List.getElem?_eq_none (by omega),List.getElem?_eq_none (by omega)]
end
end Ty
namespace Û
open PySem PySem.Spec PyProof.Rows L2 Fr
def Ġ:List (Str×Bool):=[((Str.ofString "InvalidName"),false),((Str.ofString "InvalidKind"),false),((Str.ofString "TooMany"),false),((Str.ofString "DuplicateName"),false),((Str.ofString "UnknownName"),true)]
def Ôc:Ì:=
 (Æ (Ù (tOr (tB (É Ė (À 0) (eC (.str (Str.ofString ""))))) (tB (É gtM (eB ö (Á (À 0) Ä)) (eC (.int 8))))) (Ð (eC (.bl false))) Ñ)
 (Æ (ê (iE (À 0)) (gN 1) (Ù (tB (É ÁC (À 1) (eC (.str (Str.ofString "abcdefghijklmnopqrstuvwxyz"))))) (Ð (eC (.bl false))) Ñ))
 (Ð (eC (.bl true)))))
def ÏW:Fn:=ē 2 Ôc
def ÏX:Ì:=
 (Æ (Ù (tNot (tB (Ò ÏW (Á (À 0) Ä)))) (Ĥ (Str.ofString "InvalidName")) Ñ)
 (Ð (À 0)))
def Ìh:Fn:=ē 1 ÏX
def ÏY:Ì:=
 (Æ (Ô 1 (ĩ Ä))
 (Æ (ê (iE (À 0)) (gN 2) (Æ (Ô 3 (eB ÃK (Á (À 2) Ä)))
 (Ù (tB (ÃO leM ltG (eC (.int 0)) (À 3) (eC (.int 1000)))) (ġ (eM "list" Âd (À 1) (Á (À 3) Ä))) (Ù (tB (É geM (À 3) (É Ñr (eC (.int 10)) (eC (.int 18))))) (ê (iR1 (Á (eC (.int 60)) Ä)) (gN 4) (Ù (tB (É gtM (À 3) (eC (.int 0)))) (Æ (ġ (eM "list" Âd (À 1) (Á (É Âp (eB ÃK (Á (À 3) Ä)) (eC (.int 1000))) Ä)))
 (Ô 3 (É È4 (À 3) (eC (.int 1000))))) Ñ)) (Æ (Ô 3 (É Âp (eB ÃK (Á (É mulM (À 3) (eC (.int 48271))) Ä)) (eC (.int 2147483647))))
 (ê (iR1 (Á (eC (.int 4)) Ä)) (gN 4) (Æ (Ô 3 (É Âp (eB ÃK (Á (É mulM (À 3) (eC (.int 69621))) Ä)) (eC (.int 2147483629))))
 (ġ (eM "list" Âd (À 1) (Á (É Âp (eB ÃK (Á (É È4 (À 3) (eC (.int 7))) Ä)) (eC (.int 1000))) Ä))))))))))
 (Æ (ġ (eM "list" ÉU (À 1) Ä))
 (Ð (À 1)))))
def Ìi:Fn:=ē 5 ÏY
def Ñc:Ì:=
 (Æ (Ù (tB (É Ė (eB ö (Á (À 0) Ä)) (eC (.int 0)))) (Ð (eC (.int 0))) Ñ)
 (Ð (É Âp (eB ÃK (Á (eM "list" Óa (À 0) Ä) Ä)) (À 1))))
def Ãl:Fn:=ē 2 Ñc
def Ñd:Ì:=
 (Ð (É ã (À 1) (Ò Ãl (Á (À 0) (Á (eB ö (Á (À 1) Ä)) Ä)))))
def Êw:Fn:=ē 2 Ñd
def Ñe (j:Nat) (rec:Fn):Ì:=
 (Æ (Ù (tOr (tB (eB ú (Á (À 1) (Á (eC (.ty "bool")) Ä)))) (tB (eB ú (Á (À 0) (Á (eC (.ty "bool")) Ä))))) (Ð (Ãn (eB ú (Á (À 1) (Á (eC (.ty "bool")) Ä))) (Ãn (eB ú (Á (À 0) (Á (eC (.ty "bool")) Ä))) (É Ė (À 0) (À 1))))) Ñ)
 (Æ (Ù (tOr (tB (É œ (À 1) (eC .non))) (tB (É œ (À 0) (eC .non)))) (Ð (Ãn (É œ (À 1) (eC .non)) (É œ (À 0) (eC .non)))) Ñ)
 (Æ (Ù (tB (eB ú (Á (À 1) (Á (eC (.ty "int")) Ä)))) (Ð (Ãn (eB ú (Á (À 0) (Á (eC (.ty "int")) Ä))) (É Ė (À 0) (À 1)))) Ñ)
 (Æ (Ù (tB (eB ú (Á (À 1) (Á (eC (.ty "str")) Ä)))) (Ð (Ãn (eB ú (Á (À 0) (Á (eC (.ty "str")) Ä))) (É Ė (À 0) (À 1)))) Ñ)
 (Æ (Ù (tAnd (tB (eB ú (Á (À 1) (Á (eC (.ty "tuple")) Ä)))) (tNot (tB (eB ú (Á (À 0) (Á (eC (.ty "tuple")) Ä)))))) (Ð (eC (.bl false))) Ñ)
 (Æ (Ù (tAnd (tB (eB ú (Á (À 1) (Á (eC (.ty "list")) Ä)))) (tNot (tB (eB ú (Á (À 0) (Á (eC (.ty "list")) Ä)))))) (Ð (eC (.bl false))) Ñ)
 (Æ (Ù (tB (É neM (eB ö (Á (À 0) Ä)) (eB ö (Á (À 1) Ä)))) (Ð (eC (.bl false))) Ñ)
 (Æ (ê (iR1 (Á (eB ö (Á (À 1) Ä)) Ä)) (gN 2) (Ù (tNot (tB (Ò rec (Á (É ã (À 0) (À 2)) (Á (É ã (À 1) (À 2)) Ä))))) (Ð (eC (.bl false))) Ñ))
 (Ð (eC (.bl true)))))))))))
def ę:Nat→Fn
 |0=>λ _=>bad
 |j+1=>ē 3 (Ñe j (ę j))
def ÏZ:Ì:=
 (Æ (Ô 2 (eC (.str (Str.ofString "abcdefghijklmnopqrstuvwxyz"))))
 (Æ (Ô 3 (Ò Ãl (Á (À 0) (Á (eC (.int 26)) Ä))))
 (Æ (Ô 4 (Ò Êw (Á (À 0) (Á (ĩ (Á (eC (.int 1)) (Á (eC (.int 25)) (Á (eC (.int 3)) (Á (eC (.int 7)) Ä))))) Ä))))
 (Æ (Ô 5 (É mulM (eC (.str (Str.ofString "m"))) (Ò Ãl (Á (À 0) (Á (eC (.int 4)) Ä)))))
 (Æ (Ô 6 (É mulM (eC (.str (Str.ofString "m"))) (Ò Ãl (Á (À 0) (Á (eC (.int 4)) Ä)))))
 (Æ (Ô 7 (ĩ Ä))
 (Æ (ê (iR1 (Á (À 1) Ä)) (gN 8) (ġ (eM "list" Âd (À 7) (Á (É ĉ (É ĉ (À 5) (É ã (À 2) (É Âp (eB ÃK (Á (É ĉ (À 3) (É mulM (À 8) (À 4))) Ä)) (eC (.int 26))))) (À 6)) Ä))))
 (Ð (À 7)))))))))
def Ìj:Fn:=ē 9 ÏZ
def Ñf:Ì:=
 (Æ (Ô 2 (Ò Ìj (Á (À 0) (Á (À 1) Ä))))
 (Æ (Ô 3 (ĩ Ä))
 (Æ (ê (iR1 (Á (É ĉ (eC (.int 1)) (É Âp (eB ÃK (Á (É ĉ (eC (.int 1)) (Ò Ãl (Á (À 0) (Á (À 1) Ä)))) Ä)) (À 1))) Ä)) (gN 4) (Æ (Ô 5 (Ò Êw (Á (À 0) (Á (ĩ (Á (eC (.int 2)) (Á (eC (.int 3)) (Á (eC (.int 1)) (Á (eC (.int 4)) Ä))))) Ä))))
 (Æ (Ô 6 (Ò Ãl (Á (À 0) (Á (É ĉ (À 4) (eC (.int 1))) Ä))))
 (Ù (tB (É Ė (À 6) (eC (.int 0)))) (ġ (eM "list" Âd (À 3) (Á (ô (Á (É ã (À 2) (À 4)) (Á (À 5) (Á (eC .non) (Á (ô Ä) Ä))))) Ä))) (Æ (Ô 7 (É ã (À 3) (É Æ6 (À 6) (eC (.int 1)))))
 (Æ (Ô 8 (eLc (iR1 (Á (À 5) Ä)) (gN 9) tYs (Ò Ãl (Á (À 0) (Á (É ã (À 7) (eC (.int 1))) Ä))) [9]))
 (ġ (eM "list" Âd (À 3) (Á (ô (Á (É ã (À 2) (À 4)) (Á (À 5) (Á (É ã (À 7) (eC (.int 0))) (Á (eB Ń (Á (À 8) Ä)) Ä))))) Ä)))))))))
 (Ð (À 3)))))
def Èn:Fn:=ē 10 Ñf
def ÒO:Ì:=
 (Æ (ê (iE (À 0)) (gN 2) (Ù (tB (É Ė (É ã (À 2) (eC (.int 0))) (À 1))) (Ð (À 2)) Ñ))
 (Ð (É ã (À 0) (eC (.int 0)))))
def ÎI:Fn:=ē 3 ÒO
def ÍO:Ì:=
 (Æ (Ô 2 (ĩ Ä))
 (Æ (ê (iE (À 0)) (gN 3) (Ù (tOr (tB (É Ė (À 1) (eC (.str (Str.ofString "?"))))) (tB (É Ė (À 1) (É ã (À 3) (eC (.int 0)))))) (Ô 2 (É ĉ (À 2) (eLc (iR1 (Á (É ã (À 3) (eC (.int 1))) Ä)) (gN 4) tYs (ô (Á (É ã (À 3) (eC (.int 0))) (Á (À 4) Ä))) [4]))) Ñ))
 (Ð (À 2))))
def Ņ:Fn:=ē 5 ÍO
def ÒP:Ì:=
 (Æ (Ù (tB (É Ė (À 2) (eC (.str (Str.ofString "?"))))) (Ð (À 1)) Ñ)
 (Æ (ê (iR1 (Á (eB ö (Á (À 0) Ä)) Ä)) (gN 3) (Ù (tAnd (tB (É ā (À 1) (eC .non))) (tB (É neM (É ã (À 1) (eC (.int 0))) (À 2)))) (Æ (Ô 4 (Ò ÎI (Á (À 0) (Á (É ã (À 1) (eC (.int 0))) Ä))))
 (Ù (tB (É œ (É ã (À 4) (eC (.int 2))) (eC .non))) (Ô 1 (eC .non)) (Ô 1 (ô (Á (É ã (À 4) (eC (.int 2))) (Á (É ã (É ã (À 4) (eC (.int 3))) (É ã (À 1) (eC (.int 1)))) Ä)))))) Ñ))
 (Ð (À 1))))
def Ér:Fn:=ē 5 ÒP
def ÊR:Ì:=
 (Æ (Ù (tB (É ÃB (À 1) (ÁJ (Str.ofString "Kindbook") (Str.ofString "rows") (À 0)))) (Ĥ (Str.ofString "UnknownName")) Ñ)
 (Ð (À 1)))
def ĵ:Fn:=ē 2 ÊR
def És:Ì:=
 (Ð (É ã (É Æi (ÁJ (Str.ofString "Kindbook") (Str.ofString "rows") (À 0)) (å (Str.ofString "Kindbook") (Str.ofString "checked") ĵ (À 0) (Á (À 1) Ä))) (eC (.int 1))))
def Á7:Fn:=ē 2 És
def ÉH:Ì:=
 (Ð (É ã (É Æi (ÁJ (Str.ofString "Kindbook") (Str.ofString "rows") (À 0)) (å (Str.ofString "Kindbook") (Str.ofString "checked") ĵ (À 0) (Á (À 1) Ä))) (eC (.int 2))))
def Çd:Fn:=ē 2 ÉH
def ÍP:Ì:=
 (Æ (Ëy (gT 2 (æ (gN 3) (æ (gN 4) ÃU))) (À 1))
 (Æ (ġ (å (Str.ofString "Kindbook") (Str.ofString "checked") ĵ (À 0) (Á (À 3) Ä)))
 (Æ (Ù (tB (É Ė (À 2) (eC (.str (Str.ofString "?"))))) (Ð (ô (Á (À 3) (Á (À 4) Ä)))) Ñ)
 (Æ (ġ (å (Str.ofString "Kindbook") (Str.ofString "checked") ĵ (À 0) (Á (À 2) Ä)))
 (Æ (Èd 100000 (tB (É neM (À 3) (À 2))) (Æ (Ô 5 (å (Str.ofString "Kindbook") (Str.ofString "parent_of") Á7 (À 0) (Á (À 3) Ä)))
 (Æ (Ù (tB (É œ (À 5) (eC .non))) (Ð (eC .non)) Ñ)
 (Æ (Ô 4 (É ã (å (Str.ofString "Kindbook") (Str.ofString "leads_of") Çd (À 0) (Á (À 3) Ä)) (À 4)))
 (Ô 3 (À 5))))))
 (Ð (ô (Á (À 3) (Á (À 4) Ä)))))))))
def ņ:Fn:=ē 6 ÍP
def Ìk:Ì:=
 (Æ (Ç5 (ġ (å (Str.ofString "Kindbook") (Str.ofString "led") ņ (À 0) (Á (À 1) (Á (À 2) Ä)))) Ġ (λ c _=>(Ð (eC (.bl true)))))
 (Ð (eC (.bl false))))
def Æp:Fn:=ē 3 Ìk
def ÉI:Ì:=
 (Æ (Ô 2 (ĩ (Á (å (Str.ofString "Kindbook") (Str.ofString "checked") ĵ (À 0) (Á (À 1) Ä)) Ä)))
 (Æ (Ô 3 (å (Str.ofString "Kindbook") (Str.ofString "parent_of") Á7 (À 0) (Á (À 1) Ä)))
 (Æ (Èd 100000 (tB (É ā (À 3) (eC .non))) (Æ (ġ (eM "list" Âd (À 2) (Á (À 3) Ä)))
 (Ô 3 (å (Str.ofString "Kindbook") (Str.ofString "parent_of") Á7 (À 0) (Á (À 3) Ä)))))
 (Ð (À 2)))))
def Çe:Fn:=ē 4 ÉI
def Ìl:Ì:=
 (Æ (Ô 3 (eB ÁH (Á (ÁJ (Str.ofString "Kindbook") (Str.ofString "names") (À 0)) Ä)))
 (Æ (Ù (tB (É neM (À 1) (eC (.str (Str.ofString "?"))))) (Ô 3 (ĩ (Á (å (Str.ofString "Kindbook") (Str.ofString "checked") ĵ (À 0) (Á (À 1) Ä)) Ä))) Ñ)
 (Æ (Ù (tB (É Ė (À 2) (eC (.str (Str.ofString "?"))))) (Ð (eC (.bl true))) Ñ)
 (Æ (ġ (å (Str.ofString "Kindbook") (Str.ofString "checked") ĵ (À 0) (Á (À 2) Ä)))
 (Æ (ê (iE (À 3)) (gN 4) (Ù (tB (É ÁC (À 2) (å (Str.ofString "Kindbook") (Str.ofString "chain_of") Çe (À 0) (Á (À 4) Ä)))) (Ð (eC (.bl false))) Ñ))
 (Ð (eC (.bl true))))))))
def Àu:Fn:=ē 5 Ìl
def ÊS:Ì:=
 (Æ (Ç5 (ġ (å (Str.ofString "Kindbook") (Str.ofString "below") Àu (À 0) (Á (À 1) (Á (À 2) Ä)))) Ġ (λ c _=>(Ð (eC (.bl true)))))
 (Ð (eC (.bl false))))
def ÄV:Fn:=ē 3 ÊS
def Ìm:Ì:=
 (Æ (Ù (tB (å (Str.ofString "Kindbook") (Str.ofString "below") Àu (À 0) (Á (À 1) (Á (À 2) Ä)))) (Ð (À 1)) Ñ)
 (Æ (Ù (tB (å (Str.ofString "Kindbook") (Str.ofString "below") Àu (À 0) (Á (À 2) (Á (À 1) Ä)))) (Ð (À 2)) Ñ)
 (Ð (eC .non))))
def Â5:Fn:=ē 3 Ìm
def ÊT:Ì:=
 (Æ (Ç5 (ġ (å (Str.ofString "Kindbook") (Str.ofString "finer") Â5 (À 0) (Á (À 1) (Á (À 2) Ä)))) Ġ (λ c _=>(Ð (eC (.bl true)))))
 (Ð (eC (.bl false))))
def ÄW:Fn:=ē 3 ÊT
def ÍQ:Ì:=
 (Æ (Ô 3 (É ã (À 1) (eC (.int 0))))
 (Æ (ê (iE (ĩ (Á (eC (.str (Str.ofString "?"))) (Á (À 3) (Á (À 2) Ä))))) (gN 4) (Ù (tNot (tB (Ò Æp (Á (À 0) (Á (ô (Á (À 2) (Á (eC (.int 0)) Ä))) (Á (À 4) Ä)))))) (Ð (eC (.bl false))) Ñ))
 (Æ (Ù (tNot (tB (Ò Æp (Á (À 0) (Á (À 1) (Á (À 2) Ä)))))) (Ð (eC (.bl false))) Ñ)
 (Æ (ê (iE (ĩ (Á (eC (.str (Str.ofString "?"))) (Á (À 3) Ä)))) (gN 5) (Ù (tOr (tNot (tB (Ò ÄV (Á (À 0) (Á (À 2) (Á (À 5) Ä)))))) (tNot (tB (Ò ÄV (Á (À 0) (Á (À 5) (Á (À 2) Ä))))))) (Ð (eC (.bl false))) Ñ))
 (Ð (Ãn (Ò ÄW (Á (À 0) (Á (À 2) (Á (À 3) Ä)))) (Ò ÄW (Á (À 0) (Á (À 3) (Á (À 2) Ä))))))))))
def ÅW:Fn:=ē 6 ÍQ
def Ïb:Ì:=
 (Æ (ê (iE (À 3)) (gN 4) (Ù (tB (É ā (É Ũ (À 1) (ô (Á (À 2) (Á (À 4) Ä)))) (eC .non))) (ê (iE (À 3)) (gN 5) (Ù (tB (É ā (É Ũ (À 1) (ô (Á (É Ũ (À 1) (ô (Á (À 2) (Á (À 4) Ä)))) (Á (À 5) Ä)))) (eC .non))) (Æ (Ô 6 (å (Str.ofString "Kindbook") (Str.ofString "led") ņ (À 0) (Á (å (Str.ofString "Kindbook") (Str.ofString "led") ņ (À 0) (Á (À 2) (Á (À 4) Ä))) (Á (À 5) Ä))))
 (Ù (tNot (tB (Ò (ę 4) (Á (À 6) (Á (É Ũ (À 1) (ô (Á (À 2) (Á (À 5) Ä)))) Ä))))) (Ð (eC (.bl false))) Ñ)) Ñ)) Ñ))
 (Ð (eC (.bl true))))
def ÆF:Fn:=ē 7 Ïb
def Ét:Ì:=
 (Æ (ġ (Ò Ìh (Á (À 1) Ä)))
 (Æ (Ù (tB (É Ê6 (À 1) (ÁJ (Str.ofString "Kindbook") (Str.ofString "rows") (À 0)))) (Ĥ (Str.ofString "DuplicateName")) Ñ)
 (Æ (Ù (tNot (tB (ÃO leM leM (eC (.int 1)) (À 2) (eC (.int 4))))) (Ĥ (Str.ofString "InvalidKind")) Ñ)
 (Æ (Ù (tB (É œ (À 3) (eC .non))) (Æ (Ù (tB (É gtM (eB ö (Á (À 4) Ä)) (eC (.int 0)))) (Ĥ (Str.ofString "InvalidKind")) Ñ)
 Ëx) Ñ)
 (Æ (Ù (tB (É ÃB (À 3) (ÁJ (Str.ofString "Kindbook") (Str.ofString "rows") (À 0)))) (Ĥ (Str.ofString "UnknownName")) Ñ)
 (Æ (Ù (tB (É neM (eB ö (Á (À 4) Ä)) (À 2))) (Ĥ (Str.ofString "InvalidKind")) Ñ)
 (ê (iE (À 4)) (gN 5) (Ù (tNot (tB (ÃO leM ltG (eC (.int 0)) (À 5) (É ã (É Æi (ÁJ (Str.ofString "Kindbook") (Str.ofString "rows") (À 0)) (À 3)) (eC (.int 0)))))) (Ĥ (Str.ofString "InvalidKind")) Ñ))))))))
def Æq:Fn:=ē 6 Ét
def ÉJ:Ì:=
 (Æ (Ù (tB (É Ė (eB ö (Á (À 1) Ä)) (eC (.int 0)))) (Ĥ (Str.ofString "InvalidKind")) Ñ)
 (Æ (Ù (tB (É gtM (eB ö (Á (À 1) Ä)) (eC (.int 5)))) (Ĥ (Str.ofString "TooMany")) Ñ)
 (Æ (Éb (Str.ofString "Kindbook") (Str.ofString "rows") (À 0) Òf)
 (Æ (ê (iE (À 1)) (gT 4 (æ (gN 2) (æ (gN 3) (æ (gN 4) (æ (gN 5) ÃU))))) (Æ (ġ (å (Str.ofString "Kindbook") (Str.ofString "check_row") Æq (À 0) (Á (À 2) (Á (À 3) (Á (À 4) (Á (À 5) Ä))))))
 (ÔC (ÁJ (Str.ofString "Kindbook") (Str.ofString "rows") (À 0)) (À 2) (ô (Á (À 3) (Á (À 4) (Á (eB Ń (Á (À 5) Ä)) Ä)))))))
 (Éb (Str.ofString "Kindbook") (Str.ofString "names") (À 0) (eB Ń (Á (eB ÁH (Á (ÁJ (Str.ofString "Kindbook") (Str.ofString "rows") (À 0)) Ä)) Ä)))))))
def ŀ:Fn:=ē 6 ÉJ
def Ù5:Ì:=
 (Æ (Ô 1 (Ò Ìi (Á (À 0) Ä)))
 (Æ (Ô 2 (Ò Èn (Á (À 1) (Á (eC (.int 5)) Ä))))
 (Æ (Ô 3 (ËA (Str.ofString "Kindbook") ŀ (Á (eB ÁH (Á (À 2) Ä)) Ä)))
 (Æ (Ô 4 (ËA (Str.ofString "Kindbook") ŀ (Á (eLc (iE (À 2)) (gN 15) tYs (ô (Á (É ã (À 15) (eC (.int 0))) (Á (É ã (À 15) (eC (.int 1))) (Á (eC .non) (Á (ô Ä) Ä))))) [15]) Ä)))
 (Æ (Ô 5 (eLc (iE (À 2)) (gN 15) tYs (É ã (À 15) (eC (.int 0))) [15]))
 (Æ (Ô 6 ÌH)
 (Æ (ê (iE (Ò Ņ (Á (À 2) (Á (eC (.str (Str.ofString "?"))) Ä)))) (gN 7) (ê (iE (É ĉ (À 5) (ĩ (Á (eC (.str (Str.ofString "?"))) Ä)))) (gN 12) (Æ (Ô 16 (Ò Ér (Á (À 2) (Á (À 7) (Á (À 12) Ä)))))
 (Æ (Éd (À 6) (ô (Á (À 7) (Á (À 12) Ä))) (À 16))
 (Æ (Ù (tNot (tB (Ò (ę 4) (Á (å (Str.ofString "Kindbook") (Str.ofString "led") ņ (À 3) (Á (À 7) (Á (À 12) Ä))) (Á (À 16) Ä))))) (Ð (eC (.bl false))) Ñ)
 (Æ (Ô 17 (eIf (tOr (tB (É Ė (À 12) (eC (.str (Str.ofString "?"))))) (tB (É Ė (À 12) (É ã (À 7) (eC (.int 0)))))) (À 7) (eC .non)))
 (Ù (tNot (tB (Ò (ę 4) (Á (å (Str.ofString "Kindbook") (Str.ofString "led") ņ (À 4) (Á (À 7) (Á (À 12) Ä))) (Á (À 17) Ä))))) (Ð (eC (.bl false))) Ñ)))))))
 (Æ (ê (iE (Ò Ņ (Á (À 2) (Á (eC (.str (Str.ofString "?"))) Ä)))) (gN 7) (Ù (tNot (tB (Ò ÆF (Á (À 3) (Á (À 6) (Á (À 7) (Á (À 5) Ä))))))) (Ð (eC (.bl false))) Ñ))
 (Æ (Ô 8 ÌH)
 (Æ (ê (iE (É ĉ (À 5) (ĩ (Á (eC (.str (Str.ofString "?"))) Ä)))) (gN 9) (ê (iE (É ĉ (À 5) (ĩ (Á (eC (.str (Str.ofString "?"))) Ä)))) (gN 13) (Æ (Ô 18 (eLc (iE (Ò Ņ (Á (À 2) (Á (À 9) Ä)))) (gN 19) (tB (É œ (É Ũ (À 6) (ô (Á (À 19) (Á (À 13) Ä)))) (eC .non))) (À 19) [19]))
 (Æ (Éd (À 8) (ô (Á (À 9) (Á (À 13) Ä))) (É Ė (eB ö (Á (À 18) Ä)) (eC (.int 0))))
 (Ù (tNot (tB (Ò (ę 4) (Á (å (Str.ofString "Kindbook") (Str.ofString "below") Àu (À 3) (Á (À 9) (Á (À 13) Ä))) (Á (É Ė (eB ö (Á (À 18) Ä)) (eC (.int 0))) Ä))))) (Ð (eC (.bl false))) Ñ)))))
 (Æ (ê (iE (À 5)) (gN 10) (ê (iE (À 5)) (gN 14) (Æ (Ô 16 (eC .non))
 (Æ (Ù (tV (É Ũ (À 8) (ô (Á (À 10) (Á (À 14) Ä))))) (Ô 16 (À 10)) (Ù (tV (É Ũ (À 8) (ô (Á (À 14) (Á (À 10) Ä))))) (Ô 16 (À 14)) Ñ))
 (Ù (tNot (tB (Ò (ę 4) (Á (å (Str.ofString "Kindbook") (Str.ofString "finer") Â5 (À 3) (Á (À 10) (Á (À 14) Ä))) (Á (À 16) Ä))))) (Ð (eC (.bl false))) Ñ)))))
 (Æ (ê (iE (ĩ (Á (eC (.str (Str.ofString "zzzzzzzz"))) (Á (É ĉ (É ã (À 5) (eC (.int 0))) (eC (.str (Str.ofString "m")))) (Á (É ĉ (eSl (É ã (À 5) (É Æ6 (eB ö (Á (À 5) Ä)) (eC (.int 1)))) (Ès (eC (.int 1))) È5) (eC (.str (Str.ofString "q")))) Ä))))) (gN 11) (Ù (tAnd (tB (É ÁC (À 11) (À 5))) (tNot (tB (Ò ÅW (Á (À 3) (Á (ô (Á (É ã (À 5) (É Æ6 (eB ö (Á (À 5) Ä)) (eC (.int 1)))) (Á (eC (.int 0)) Ä))) (Á (À 11) Ä))))))) (Ð (eC (.bl false))) Ñ))
 (Ð (eC (.bl true)))))))))))))))
def Þj:Fn:=ē 20 Ù5
end Û
namespace Ãy
open PySem Pu
def Ġ:List (Str×Bool):=[((Str.ofString "InvalidName"),false),((Str.ofString "InvalidKind"),false),((Str.ofString "TooMany"),false),((Str.ofString "DuplicateName"),false),((Str.ofString "UnknownName"),true)]
def Ôd:Ì:=
 (Æ (Ù (tOr (tB (É Ė (À 0) (eC (.str (Str.ofString ""))))) (tB (É gtM (eB ö (Á (À 0) Ä)) (eC (.int 8))))) (Ð (eC (.bl false))) Ñ)
 (Æ (ê (iE (À 0)) (gN 1) (Ù (tB (É ÁC (À 1) (eC (.str (Str.ofString "abcdefghijklmnopqrstuvwxyz"))))) (Ð (eC (.bl false))) Ñ))
 (Ð (eC (.bl true)))))
def Ï0:Fn:=ē 2 Ôd
def Ï1:Ì:=
 (Æ (Ù (tNot (tB (Ò Ï0 (Á (À 0) Ä)))) (Ĥ (Str.ofString "InvalidName")) Ñ)
 (Ð (À 0)))
def Ìn:Fn:=ē 1 Ï1
def Äf:Fn:=ÔG
def Ñg:Ì:=
 (Ð (É ã (À 1) (Ò Äf (Á (À 0) (Á (eB ö (Á (À 1) Ä)) Ä)))))
def Êx:Fn:=ē 2 Ñg
def Ñh (rec:Fn):Ì:=
 (Æ (Ù (tOr (tB (eB ú (Á (À 1) (Á (eC (.ty "bool")) Ä)))) (tB (eB ú (Á (À 0) (Á (eC (.ty "bool")) Ä))))) (Ð (Ãn (eB ú (Á (À 1) (Á (eC (.ty "bool")) Ä))) (Ãn (eB ú (Á (À 0) (Á (eC (.ty "bool")) Ä))) (É Ė (À 0) (À 1))))) Ñ)
 (Æ (Ù (tOr (tB (É œ (À 1) (eC .non))) (tB (É œ (À 0) (eC .non)))) (Ð (Ãn (É œ (À 1) (eC .non)) (É œ (À 0) (eC .non)))) Ñ)
 (Æ (Ù (tB (eB ú (Á (À 1) (Á (eC (.ty "int")) Ä)))) (Ð (Ãn (eB ú (Á (À 0) (Á (eC (.ty "int")) Ä))) (É Ė (À 0) (À 1)))) Ñ)
 (Æ (Ù (tB (eB ú (Á (À 1) (Á (eC (.ty "str")) Ä)))) (Ð (Ãn (eB ú (Á (À 0) (Á (eC (.ty "str")) Ä))) (É Ė (À 0) (À 1)))) Ñ)
 (Æ (Ù (tAnd (tB (eB ú (Á (À 1) (Á (eC (.ty "tuple")) Ä)))) (tNot (tB (eB ú (Á (À 0) (Á (eC (.ty "tuple")) Ä)))))) (Ð (eC (.bl false))) Ñ)
 (Æ (Ù (tAnd (tB (eB ú (Á (À 1) (Á (eC (.ty "list")) Ä)))) (tNot (tB (eB ú (Á (À 0) (Á (eC (.ty "list")) Ä)))))) (Ð (eC (.bl false))) Ñ)
 (Æ (Ù (tB (É neM (eB ö (Á (À 0) Ä)) (eB ö (Á (À 1) Ä)))) (Ð (eC (.bl false))) Ñ)
 (Æ (ê (iR1 (Á (eB ö (Á (À 1) Ä)) Ä)) (gN 2) (Ù (tNot (tB (Ò rec (Á (É ã (À 0) (À 2)) (Á (É ã (À 1) (À 2)) Ä))))) (Ð (eC (.bl false))) Ñ))
 (Ð (eC (.bl true)))))))))))
def Ãm:Nat→Fn
 |0=>λ _=>bad
 |j+1=>ē 3 (Ñh (Ãm j))
def Ï2:Ì:=
 (Æ (Ô 2 (eC (.str (Str.ofString "abcdefghijklmnopqrstuvwxyz"))))
 (Æ (Ô 3 (Ò Äf (Á (À 0) (Á (eC (.int 26)) Ä))))
 (Æ (Ô 4 (Ò Êx (Á (À 0) (Á (ĩ (Á (eC (.int 1)) (Á (eC (.int 25)) (Á (eC (.int 3)) (Á (eC (.int 7)) Ä))))) Ä))))
 (Æ (Ô 5 (É mulM (eC (.str (Str.ofString "m"))) (Ò Äf (Á (À 0) (Á (eC (.int 4)) Ä)))))
 (Æ (Ô 6 (É mulM (eC (.str (Str.ofString "m"))) (Ò Äf (Á (À 0) (Á (eC (.int 4)) Ä)))))
 (Æ (Îd 7 (ĩ Ä))
 (Æ (ê (iR1 (Á (À 1) Ä)) (gN 8) (Íc 7 ÅR (Á (É ĉ (É ĉ (À 5) (É ã (À 2) (É Âp (eB ÃK (Á (É ĉ (À 3) (É mulM (À 8) (À 4))) Ä)) (eC (.int 26))))) (À 6)) Ä)))
 (Ð (À 7)))))))))
def Ìo:Fn:=ē 9 Ï2
def Ñi:Ì:=
 (Æ (Ô 2 (Ò Ìo (Á (À 0) (Á (À 1) Ä))))
 (Æ (Îd 3 (ĩ Ä))
 (Æ (ê (iR1 (Á (É ĉ (eC (.int 1)) (É Âp (eB ÃK (Á (É ĉ (eC (.int 1)) (Ò Äf (Á (À 0) (Á (À 1) Ä)))) Ä)) (À 1))) Ä)) (gN 4) (Æ (Ô 5 (Ò Êx (Á (À 0) (Á (ĩ (Á (eC (.int 2)) (Á (eC (.int 3)) (Á (eC (.int 1)) (Á (eC (.int 4)) Ä))))) Ä))))
 (Æ (Ô 6 (Ò Äf (Á (À 0) (Á (É ĉ (À 4) (eC (.int 1))) Ä))))
 (Ù (tB (É Ė (À 6) (eC (.int 0)))) (Íc 3 ÅR (Á (ô (Á (É ã (À 2) (À 4)) (Á (À 5) (Á (eC .non) (Á (ô Ä) Ä))))) Ä)) (Æ (Ô 7 (É ã (À 3) (É Æ6 (À 6) (eC (.int 1)))))
 (Æ (Ô 8 (eLc (iR1 (Á (À 5) Ä)) (gN 9) tYs (Ò Äf (Á (À 0) (Á (É ã (À 7) (eC (.int 1))) Ä))) [9]))
 (Íc 3 ÅR (Á (ô (Á (É ã (À 2) (À 4)) (Á (À 5) (Á (É ã (À 7) (eC (.int 0))) (Á (eB Ń (Á (À 8) Ä)) Ä))))) Ä))))))))
 (Ð (À 3)))))
def Íf:Fn:=ē 10 Ñi
def ÒQ:Ì:=
 (Æ (ê (iE (À 0)) (gN 2) (Ù (tB (É Ė (É ã (À 2) (eC (.int 0))) (À 1))) (Ð (À 2)) Ñ))
 (Ð (É ã (À 0) (eC (.int 0)))))
def ÎJ:Fn:=ē 3 ÒQ
def ÍR:Ì:=
 (Æ (Ô 2 (ĩ Ä))
 (Æ (ê (iE (À 0)) (gN 3) (Ù (tOr (tB (É Ė (À 1) (eC (.str (Str.ofString "?"))))) (tB (É Ė (À 1) (É ã (À 3) (eC (.int 0)))))) (Ô 2 (É ĉ (À 2) (eLc (iR1 (Á (É ã (À 3) (eC (.int 1))) Ä)) (gN 4) tYs (ô (Á (É ã (À 3) (eC (.int 0))) (Á (À 4) Ä))) [4]))) Ñ))
 (Ð (À 2))))
def ÅX:Fn:=ē 5 ÍR
def ÒR:Ì:=
 (Æ (Ù (tB (É Ė (À 2) (eC (.str (Str.ofString "?"))))) (Ð (À 1)) Ñ)
 (Æ (ê (iR1 (Á (eB ö (Á (À 0) Ä)) Ä)) (gN 3) (Ù (tAnd (tB (É ā (À 1) (eC .non))) (tB (É neM (É ã (À 1) (eC (.int 0))) (À 2)))) (Æ (Ô 4 (Ò ÎJ (Á (À 0) (Á (É ã (À 1) (eC (.int 0))) Ä))))
 (Ù (tB (É œ (É ã (À 4) (eC (.int 2))) (eC .non))) (Ô 1 (eC .non)) (Ô 1 (ô (Á (É ã (À 4) (eC (.int 2))) (Á (É ã (É ã (À 4) (eC (.int 3))) (É ã (À 1) (eC (.int 1)))) Ä)))))) Ñ))
 (Ð (À 1))))
def ÎK:Fn:=ē 5 ÒR
def ÊU:Ì:=
 (Æ (Ù (tB (É ÃB (À 1) (ÁJ (Str.ofString "Kindbook") (Str.ofString "rows") (À 0)))) (Ĥ (Str.ofString "UnknownName")) Ñ)
 (Ð (À 1)))
def Ķ:Fn:=ē 2 ÊU
def Éu:Ì:=
 (Ð (É ã (É Æi (ÁJ (Str.ofString "Kindbook") (Str.ofString "rows") (À 0)) (å (Str.ofString "Kindbook") (Str.ofString "checked") Ķ (À 0) (Á (À 1) Ä))) (eC (.int 1))))
def Á8:Fn:=ē 2 Éu
def ÉK:Ì:=
 (Ð (É ã (É Æi (ÁJ (Str.ofString "Kindbook") (Str.ofString "rows") (À 0)) (å (Str.ofString "Kindbook") (Str.ofString "checked") Ķ (À 0) (Á (À 1) Ä))) (eC (.int 2))))
def Çf:Fn:=ē 2 ÉK
def ÍS:Ì:=
 (Æ (Ëy (gT 2 (æ (gN 3) (æ (gN 4) ÃU))) (À 1))
 (Æ (ġ (å (Str.ofString "Kindbook") (Str.ofString "checked") Ķ (À 0) (Á (À 3) Ä)))
 (Æ (Ù (tB (É Ė (À 2) (eC (.str (Str.ofString "?"))))) (Ð (ô (Á (À 3) (Á (À 4) Ä)))) Ñ)
 (Æ (ġ (å (Str.ofString "Kindbook") (Str.ofString "checked") Ķ (À 0) (Á (À 2) Ä)))
 (Æ (Èd 100000 (tB (É neM (À 3) (À 2))) (Æ (Ô 5 (å (Str.ofString "Kindbook") (Str.ofString "parent_of") Á8 (À 0) (Á (À 3) Ä)))
 (Æ (Ù (tB (É œ (À 5) (eC .non))) (Ð (eC .non)) Ñ)
 (Æ (Ô 4 (É ã (å (Str.ofString "Kindbook") (Str.ofString "leads_of") Çf (À 0) (Á (À 3) Ä)) (À 4)))
 (Ô 3 (À 5))))))
 (Ð (ô (Á (À 3) (Á (À 4) Ä)))))))))
def Â6:Fn:=ē 6 ÍS
def Ìp:Ì:=
 (Æ (Ç5 (ġ (å (Str.ofString "Kindbook") (Str.ofString "led") Â6 (À 0) (Á (À 1) (Á (À 2) Ä)))) Ġ (λ c _=>(Ð (eC (.bl true)))))
 (Ð (eC (.bl false))))
def Ær:Fn:=ē 3 Ìp
def ÉL:Ì:=
 (Æ (Îd 2 (ĩ (Á (å (Str.ofString "Kindbook") (Str.ofString "checked") Ķ (À 0) (Á (À 1) Ä)) Ä)))
 (Æ (Ô 3 (å (Str.ofString "Kindbook") (Str.ofString "parent_of") Á8 (À 0) (Á (À 1) Ä)))
 (Æ (Èd 100000 (tB (É ā (À 3) (eC .non))) (Æ (Íc 2 ÅR (Á (À 3) Ä))
 (Ô 3 (å (Str.ofString "Kindbook") (Str.ofString "parent_of") Á8 (À 0) (Á (À 3) Ä)))))
 (Ð (À 2)))))
def Çg:Fn:=ē 4 ÉL
def Ìq:Ì:=
 (Æ (Ô 3 (eB ÁH (Á (ÁJ (Str.ofString "Kindbook") (Str.ofString "names") (À 0)) Ä)))
 (Æ (Ù (tB (É neM (À 1) (eC (.str (Str.ofString "?"))))) (Ô 3 (ĩ (Á (å (Str.ofString "Kindbook") (Str.ofString "checked") Ķ (À 0) (Á (À 1) Ä)) Ä))) Ñ)
 (Æ (Ù (tB (É Ė (À 2) (eC (.str (Str.ofString "?"))))) (Ð (eC (.bl true))) Ñ)
 (Æ (ġ (å (Str.ofString "Kindbook") (Str.ofString "checked") Ķ (À 0) (Á (À 2) Ä)))
 (Æ (ê (iE (À 3)) (gN 4) (Ù (tB (É ÁC (À 2) (å (Str.ofString "Kindbook") (Str.ofString "chain_of") Çg (À 0) (Á (À 4) Ä)))) (Ð (eC (.bl false))) Ñ))
 (Ð (eC (.bl true))))))))
def Â7:Fn:=ē 5 Ìq
def ÊV:Ì:=
 (Æ (Ç5 (ġ (å (Str.ofString "Kindbook") (Str.ofString "below") Â7 (À 0) (Á (À 1) (Á (À 2) Ä)))) Ġ (λ c _=>(Ð (eC (.bl true)))))
 (Ð (eC (.bl false))))
def ÄX:Fn:=ē 3 ÊV
def Ìr:Ì:=
 (Æ (Ù (tB (å (Str.ofString "Kindbook") (Str.ofString "below") Â7 (À 0) (Á (À 1) (Á (À 2) Ä)))) (Ð (À 1)) Ñ)
 (Æ (Ù (tB (å (Str.ofString "Kindbook") (Str.ofString "below") Â7 (À 0) (Á (À 2) (Á (À 1) Ä)))) (Ð (À 2)) Ñ)
 (Ð (eC .non))))
def Æs:Fn:=ē 3 Ìr
def ÊW:Ì:=
 (Æ (Ç5 (ġ (å (Str.ofString "Kindbook") (Str.ofString "finer") Æs (À 0) (Á (À 1) (Á (À 2) Ä)))) Ġ (λ c _=>(Ð (eC (.bl true)))))
 (Ð (eC (.bl false))))
def ÄY:Fn:=ē 3 ÊW
def ÍT:Ì:=
 (Æ (Ô 3 (É ã (À 1) (eC (.int 0))))
 (Æ (ê (iE (ĩ (Á (eC (.str (Str.ofString "?"))) (Á (À 3) (Á (À 2) Ä))))) (gN 4) (Ù (tNot (tB (Ò Ær (Á (À 0) (Á (ô (Á (À 2) (Á (eC (.int 0)) Ä))) (Á (À 4) Ä)))))) (Ð (eC (.bl false))) Ñ))
 (Æ (Ù (tNot (tB (Ò Ær (Á (À 0) (Á (À 1) (Á (À 2) Ä)))))) (Ð (eC (.bl false))) Ñ)
 (Æ (ê (iE (ĩ (Á (eC (.str (Str.ofString "?"))) (Á (À 3) Ä)))) (gN 5) (Ù (tOr (tNot (tB (Ò ÄX (Á (À 0) (Á (À 2) (Á (À 5) Ä)))))) (tNot (tB (Ò ÄX (Á (À 0) (Á (À 5) (Á (À 2) Ä))))))) (Ð (eC (.bl false))) Ñ))
 (Ð (Ãn (Ò ÄY (Á (À 0) (Á (À 2) (Á (À 3) Ä)))) (Ò ÄY (Á (À 0) (Á (À 3) (Á (À 2) Ä))))))))))
def Êb:Fn:=ē 6 ÍT
def Ïc:Ì:=
 (Æ (ê (iE (À 3)) (gN 4) (Ù (tB (É ā (É Ũ (À 1) (ô (Á (À 2) (Á (À 4) Ä)))) (eC .non))) (ê (iE (À 3)) (gN 5) (Ù (tB (É ā (É Ũ (À 1) (ô (Á (É Ũ (À 1) (ô (Á (À 2) (Á (À 4) Ä)))) (Á (À 5) Ä)))) (eC .non))) (Æ (Ô 6 (ÕC (å (Str.ofString "Kindbook") (Str.ofString "led") Â6 (À 0) (Á (ÕC (å (Str.ofString "Kindbook") (Str.ofString "led") Â6 (À 0) (Á (À 2) (Á (À 4) Ä)))) (Á (À 5) Ä)))))
 (Ù (tNot (tB (Ò (Ãm 4) (Á (À 6) (Á (É Ũ (À 1) (ô (Á (À 2) (Á (À 5) Ä)))) Ä))))) (Ð (eC (.bl false))) Ñ)) Ñ)) Ñ))
 (Ð (eC (.bl true))))
def Ëa:Fn:=ē 7 Ïc
def Év:Ì:=
 (Æ (ġ (Ò Ìn (Á (À 1) Ä)))
 (Æ (Ù (tB (É Ê6 (À 1) (ÁJ (Str.ofString "Kindbook") (Str.ofString "rows") (À 0)))) (Ĥ (Str.ofString "DuplicateName")) Ñ)
 (Æ (Ù (tNot (tB (ÃO leM leM (eC (.int 1)) (À 2) (eC (.int 4))))) (Ĥ (Str.ofString "InvalidKind")) Ñ)
 (Æ (Ù (tB (É œ (À 3) (eC .non))) (Æ (Ù (tB (É gtM (eB ö (Á (À 4) Ä)) (eC (.int 0)))) (Ĥ (Str.ofString "InvalidKind")) Ñ)
 Ëx) Ñ)
 (Æ (Ù (tB (É ÃB (À 3) (ÁJ (Str.ofString "Kindbook") (Str.ofString "rows") (À 0)))) (Ĥ (Str.ofString "UnknownName")) Ñ)
 (Æ (Ù (tB (É neM (eB ö (Á (À 4) Ä)) (À 2))) (Ĥ (Str.ofString "InvalidKind")) Ñ)
 (ê (iE (À 4)) (gN 5) (Ù (tNot (tB (ÃO leM ltG (eC (.int 0)) (À 5) (É ã (É Æi (ÁJ (Str.ofString "Kindbook") (Str.ofString "rows") (À 0)) (À 3)) (eC (.int 0)))))) (Ĥ (Str.ofString "InvalidKind")) Ñ))))))))
def Æt:Fn:=ē 6 Év
def Êc:Fn:=ÐQ Æt
def Þk:Ì:=
 (Æ (Ô 2 (Ò Íf (Á (À 1) (Á (eC (.int 5)) Ä))))
 (Æ (Ô 3 (Ò Êc (Á (eB ÁH (Á (À 2) Ä)) Ä)))
 (Æ (Ô 4 (Ò Êc (Á (eLc (iE (À 2)) (gN 15) tYs (ô (Á (É ã (À 15) (eC (.int 0))) (Á (É ã (À 15) (eC (.int 1))) (Á (eC .non) (Á (ô Ä) Ä))))) [15]) Ä)))
 (Æ (Ô 5 (eLc (iE (À 2)) (gN 15) tYs (É ã (À 15) (eC (.int 0))) [15]))
 (Æ (ÔJ 6)
 (Æ (ê (iE (Ò ÅX (Á (À 2) (Á (eC (.str (Str.ofString "?"))) Ä)))) (gN 7) (ê (iE (É ĉ (À 5) (ĩ (Á (eC (.str (Str.ofString "?"))) Ä)))) (gN 12) (Æ (Ô 16 (Ò ÎK (Á (À 2) (Á (À 7) (Á (À 12) Ä)))))
 (Æ (Òp 6 (ô (Á (À 7) (Á (À 12) Ä))) (À 16))
 (Æ (Ù (tNot (tB (Ò (Ãm 4) (Á (å (Str.ofString "Kindbook") (Str.ofString "led") Â6 (À 3) (Á (À 7) (Á (À 12) Ä))) (Á (À 16) Ä))))) (Ð (eC (.bl false))) Ñ)
 (Æ (Ô 17 (eIf (tOr (tB (É Ė (À 12) (eC (.str (Str.ofString "?"))))) (tB (É Ė (À 12) (É ã (À 7) (eC (.int 0)))))) (À 7) (eC .non)))
 (Ù (tNot (tB (Ò (Ãm 4) (Á (å (Str.ofString "Kindbook") (Str.ofString "led") Â6 (À 4) (Á (À 7) (Á (À 12) Ä))) (Á (À 17) Ä))))) (Ð (eC (.bl false))) Ñ)))))))
 (Æ (ê (iE (Ò ÅX (Á (À 2) (Á (eC (.str (Str.ofString "?"))) Ä)))) (gN 7) (Ù (tNot (tB (Ïy Ëa (Á (À 3) (ÍF 6 (Á (À 7) (Á (À 5) Ä))))))) (Ð (eC (.bl false))) Ñ))
 (Æ (ÔJ 8)
 (Æ (ê (iE (É ĉ (À 5) (ĩ (Á (eC (.str (Str.ofString "?"))) Ä)))) (gN 9) (ê (iE (É ĉ (À 5) (ĩ (Á (eC (.str (Str.ofString "?"))) Ä)))) (gN 13) (Æ (Ô 18 (eLc (iE (Ò ÅX (Á (À 2) (Á (À 9) Ä)))) (gN 19) (tB (É œ (ÐR 6 (ô (Á (À 19) (Á (À 13) Ä)))) (eC .non))) (À 19) [19]))
 (Æ (Òp 8 (ô (Á (À 9) (Á (À 13) Ä))) (É Ė (eB ö (Á (À 18) Ä)) (eC (.int 0))))
 (Ù (tNot (tB (Ò (Ãm 4) (Á (å (Str.ofString "Kindbook") (Str.ofString "below") Â7 (À 3) (Á (À 9) (Á (À 13) Ä))) (Á (É Ė (eB ö (Á (À 18) Ä)) (eC (.int 0))) Ä))))) (Ð (eC (.bl false))) Ñ)))))
 (Æ (ê (iE (À 5)) (gN 10) (ê (iE (À 5)) (gN 14) (Æ (Ô 16 (eC .non))
 (Æ (Ù (tV (ÐR 8 (ô (Á (À 10) (Á (À 14) Ä))))) (Ô 16 (À 10)) (Ù (tV (ÐR 8 (ô (Á (À 14) (Á (À 10) Ä))))) (Ô 16 (À 14)) Ñ))
 (Ù (tNot (tB (Ò (Ãm 4) (Á (å (Str.ofString "Kindbook") (Str.ofString "finer") Æs (À 3) (Á (À 10) (Á (À 14) Ä))) (Á (À 16) Ä))))) (Ð (eC (.bl false))) Ñ)))))
 (Æ (ê (iE (ĩ (Á (eC (.str (Str.ofString "zzzzzzzz"))) (Á (É ĉ (É ã (À 5) (eC (.int 0))) (eC (.str (Str.ofString "m")))) (Á (É ĉ (eSl (É ã (À 5) (É Æ6 (eB ö (Á (À 5) Ä)) (eC (.int 1)))) (Ès (eC (.int 1))) È5) (eC (.str (Str.ofString "q")))) Ä))))) (gN 11) (Ù (tAnd (tB (É ÁC (À 11) (À 5))) (tNot (tB (Ò Êb (Á (À 3) (Á (ô (Á (É ã (À 5) (É Æ6 (eB ö (Á (À 5) Ä)) (eC (.int 1)))) (Á (eC (.int 0)) Ä))) (Á (À 11) Ä))))))) (Ð (eC (.bl false))) Ñ))
 (Ð (eC (.bl true))))))))))))))
end Ãy
namespace ť
open PySem Pu Ty Ãy
theorem Èc (x:Bk0):List.lookup (Str.ofString "rows") (ÏM x)=some ((nK (n3 nI (nO nS) (nT nI))) x.rows):=ÕK
theorem ÈI (x:Bk):List.lookup (Str.ofString "rows") (À0 x)=some ((nK (n3 nI (nO nS) (nT nI))) x.rows):=ÕK
theorem Ð3 (x:Bk):List.lookup (Str.ofString "names") (À0 x)=some ((nT nS) x.names):=(Â4 (by decide +kernel)).trans (ÕK)
theorem ÅG (x:Bk):List.lookup (Str.ofString "below") (À0 x)=none:=(Â4 (by decide +kernel)).trans ((Â4 (by decide +kernel)).trans (rfl))
theorem ÎL (x:Bk):List.lookup (Str.ofString "chain_of") (À0 x)=none:=(Â4 (by decide +kernel)).trans ((Â4 (by decide +kernel)).trans (rfl))
theorem Ů (x:Bk):List.lookup (Str.ofString "checked") (À0 x)=none:=(Â4 (by decide +kernel)).trans ((Â4 (by decide +kernel)).trans (rfl))
theorem Ëo (x:Bk):List.lookup (Str.ofString "finer") (À0 x)=none:=(Â4 (by decide +kernel)).trans ((Â4 (by decide +kernel)).trans (rfl))
theorem ÎM (x:Bk):List.lookup (Str.ofString "leads_of") (À0 x)=none:=(Â4 (by decide +kernel)).trans ((Â4 (by decide +kernel)).trans (rfl))
theorem ÄZ (x:Bk):List.lookup (Str.ofString "led") (À0 x)=none:=(Â4 (by decide +kernel)).trans ((Â4 (by decide +kernel)).trans (rfl))
theorem ÅY (x:Bk):List.lookup (Str.ofString "parent_of") (À0 x)=none:=(Â4 (by decide +kernel)).trans ((Â4 (by decide +kernel)).trans (rfl))
theorem ËW:∀ j,Ãm j=Ãk j
 |0=>rfl
 |j+1=>by
  show ē 3 (Ñh (Ãm j))=ē 3 (ÌY (Ãk j))
  rw[ËW j]
  rfl
def Èo (a1:(List Int)):M Int:=(bd (Éj (a1.length:Int)) λ v48=>(ixT a1 v48))
theorem Ï3 (a1:(List Int)):Êx [nD (),(nL nI) a1]=em nI (Èo a1):=fnT (n:=2) (q:=Ñg) (ÄM (o2 (ac (v rfl) (am (ea:=nI) (ca (ac (v rfl) (ac (pb (Óv (en:=nI) a1) (Ŀ (v rfl) psN)) (an (ÈE (a1.length:Int)))))) λ v48=>(an (ÊJ (en:=nI) a1 v48))))))
def Éw (a1:Int):M (List Str):=(bd (Éj (26:Int)) λ v47=>(bd (Èo [(1:Int),(25:Int),(3:Int),(7:Int)]) λ v49=>(bd (bd (Éj (4:Int)) λ v50=>(muS (Str.ofString "m") v50)) λ v51=>(bd (bd (Éj (4:Int)) λ v52=>(muS (Str.ofString "m") v52)) λ v53=>(bd (rgT a1) λ ãw=>bd (Ã0 (λ (s66:(List Str)) (a68:Int)=>(bd (bd (bd (bd (bd (bd (bd (muI a68 v49) λ v69=>rt (v47+v69)) λ v70=>rt v70) λ v71=>rt (Int.fmod v71 (26:Int))) λ v72=>(ixS (Str.ofString "abcdefghijklmnopqrstuvwxyz") v72)) λ v73=>(adS v51 v73)) λ v74=>(adS v74 v53)) λ v76=>bd (apT s66 v76) λ v75=>(rt v75))) ãw []) λ s67=>(rt s67))))))
theorem Ôn (a1:Int):Ìo [nD (),nI a1]=em (nL nS) (Éw a1):=fnT (n:=9) (q:=Ï2) (Êu (w:=nS (Str.ofString "abcdefghijklmnopqrstuvwxyz")) Ty.c trivial (ÁI (ca (ac (v rfl) (ac Ty.c (an (ÈE (26:Int)))))) trivial λ v47=>(ÁI (ca (ac (v rfl) (ac (li (Ŀ Ty.c (Ŀ Ty.c (Ŀ Ty.c (Ŀ Ty.c psN)))) rfl) (an (Ï3 [(1:Int),(25:Int),(3:Int),(7:Int)]))))) trivial λ v49=>(ÁI (o2 (ac Ty.c (am (ea:=nI) (ca (ac (v rfl) (ac Ty.c (an (ÈE (4:Int)))))) λ v50=>(an (Ûm _ _))))) trivial λ v51=>(ÁI (o2 (ac Ty.c (am (ea:=nI) (ca (ac (v rfl) (ac Ty.c (an (ÈE (4:Int)))))) λ v52=>(an (Ûm _ _))))) trivial λ v53=>(Ûf (li psN rfl) trivial (ÔL (E:=(λ (st:(List Str))=>[none,none,some (nS (Str.ofString "abcdefghijklmnopqrstuvwxyz")),some (nI v47),some (nI v49),some (nS v51),some (nS v53),some ((nL nS) st),none])) (l:=(λ a68=>[(8,nI a68)])) (en:=nI) (st0:=[]) (ir1 (ac (v rfl) (an (ÏI _)))) (λ _ _=>rfl) (.sk (.sk (.eq (.eq (.eq (.eq (.eq (.eq (.sk .nil))))))))) (λ _=>trivial) (λ _ _=>trivial) (λ s66 a68=>(ÃZ (ÙV (ea:=nS) (xs:=s66) rfl (o2 (am (ea:=nS) (o2 (ac (v rfl) (am (ea:=nS) (o2 (ac (v rfl) (am (ea:=nI) (o2 (am (ea:=nI) (cb (am (ea:=nI) (o2 (ac (v rfl) (am (ea:=nI) (o2 (ac (v rfl) (ac (v rfl) (an (àX _ _))))) λ v69=>(an rfl)))) λ v70=>(an rfl))) λ v71=>(ac Ty.c (an (f2t (en:=nI) (z:=(Int.fmod v71 (26:Int))) (mdC (by decide))))))) λ v72=>(an (à0 (Str.ofString "abcdefghijklmnopqrstuvwxyz") v72))))) λ v73=>(an (Òx v51 v73))))) λ v74=>(ac (v rfl) (an (Òx v74 v53))))) trivial λ v75=>(Èb (a:=v75) (.sk (.sk (.eq (.eq (.eq (.eq (.eq (.eq (.sk .nil))))))))))))) (λ s67=>(ÄM (pe (en:=(nL nS)) (v rfl)))))))))))
def Êy (a1:Int):M (List (Str×Int×(Option Str)×(List Int))):=(bd (Éw a1) λ v78=>(bd (bd (bd (bd (bd (bd (Éj a1) λ v87=>rt ((1:Int)+v87)) λ v88=>rt v88) λ v89=>(mdI v89 a1)) λ v90=>rt ((1:Int)+v90)) λ v91=>(rgT v91)) λ âr=>bd (Ã0 (λ (s92:(List (Str×Int×(Option Str)×(List Int)))) (a94:Int)=>(bd (Èo [(2:Int),(3:Int),(1:Int),(4:Int)]) λ v95=>(bd (Éj (a94+(1:Int))) λ v96=>(if (decide (v96=(0:Int)))=true then (bd (bd (bd (ixT v78 a94) λ v99=>rt (v99,v95,(),())) λ Ög=>rt (Ög.1,Ög.2.1,none,[])) λ ãx=>bd (apT s92 ãx) λ ÜJ=>(rt ÜJ)) else (bd (ixT s92 (v96-(1:Int))) λ ÓG=>(bd (bd (rgT v95) λ âs=>lcM (λ ÑR=>(rt true)) (λ ÑR=>(Éj ÓG.2.1)) âs) λ ÜK=>(bd (bd (bd (ixT v78 a94) λ ÜL=>rt (ÜL,v95,ÓG.1,ÜK)) λ ÎN=>rt (ÎN.1,ÎN.2.1,(some ÎN.2.2.1),ÎN.2.2.2)) λ ãy=>bd (apT s92 ãy) λ ÜM=>(rt ÜM)))))))) âr []) λ s93=>(rt s93)))
theorem Öh (a1:Int):Íf [nD (),nI a1]=em (nL (n4 nS nI (nO nS) (nT nI))) (Êy a1):=fnT (n:=10) (q:=Ñi) (ÁI (ca (ac (v rfl) (ac (v rfl) (an (Ôn a1))))) trivial λ v78=>(Ûf (li psN rfl) trivial (ÔL (E:=(λ (st:(List (Str×Int×(Option Str)×(List Int))))=>[some (nD ()),none,some ((nL nS) v78),some ((nL (n4 nS nI (nO nS) (nT nI))) st),none,none,none,none,none,none])) (l:=(λ a94=>[(4,nI a94)])) (en:=nI) (st0:=[]) (ir1 (am (ea:=nI) (o2 (ac Ty.c (am (ea:=nI) (o2 (am (ea:=nI) (cb (am (ea:=nI) (o2 (ac Ty.c (am (ea:=nI) (ca (ac (v rfl) (ac (v rfl) (an (ÈE a1))))) λ v87=>(an rfl)))) λ v88=>(an rfl))) λ v89=>(ac (v rfl) (an (àY _ _))))) λ v90=>(an rfl)))) λ v91=>(an (ÏI _)))) (λ _ _=>rfl) (.eq (.sk (.eq (.eq (.sk (.sk (.sk (.sk (.sk (.sk .nil)))))))))) (λ _=>trivial) (λ _ _=>trivial) (λ s92 a94=>(ÁI (ca (ac (v rfl) (ac (li (Ŀ Ty.c (Ŀ Ty.c (Ŀ Ty.c (Ŀ Ty.c psN)))) rfl) (an (Ï3 [(2:Int),(3:Int),(1:Int),(4:Int)]))))) trivial λ v95=>(ÁI (ca (ac (v rfl) (ac (p2 rfl (v rfl) Ty.c) (an (ÈE (a94+(1:Int))))))) trivial λ v96=>(ÈC (qB (p2 rfl (v rfl) Ty.c)) (λ h97=>(ÃZ (ÙV (ea:=(n4 nS nI (nO nS) (nT nI))) (xs:=s92) rfl (up (en:=(n4 nS nI nN n0)) (en':=(n4 nS nI (nO nS) (nT nI))) (f:=λ (Ög:(Str×Int×Unit×Unit))=>(Ög.1,Ög.2.1,none,[])) (ctu (am (ea:=nS) (o2 (ac (v rfl) (ac (v rfl) (an (ÊJ (en:=nS) v78 a94))))) λ v99=>(ac (v rfl) (ac Ty.c (ac (tu psN rfl) (an (fbt (en:=(n4 nS nI nN n0)) (z:=(v99,v95,(),())) (ÍH rfl)))))))) (λ _=>rfl)) trivial λ ÜJ=>(Èb (a:=ÜJ) (.eq (.sk (.eq (.eq (.sk (.sk (.sk (.sk (.sk (.sk .nil)))))))))))))) (λ h98=>(ÁI (o2 (ac (v rfl) (ac (p2 rfl (v rfl) Ty.c) (an (ÊJ (en:=(n4 nS nI (nO nS) (nT nI))) s92 (v96-(1:Int))))))) trivial λ ÓG=>(ÁI (lcm (en:=nI) (ea:=nI) (l:=(λ ÑR=>[(9,nI ÑR)])) (c:=λ ÑR=>(rt true)) (f:=λ ÑR=>(Éj ÓG.2.1)) (ir1 (ac (v rfl) (an (ÏI _)))) (λ _ _=>rfl) (λ ÑR=>(qt qYs)) (λ ÑR=>(ca (ac (v rfl) (ac (p2 rfl (v rfl) Ty.c) (an (ÈE ÓG.2.1))))))) trivial λ ÜK=>(ÃZ (ÙV (ea:=(n4 nS nI (nO nS) (nT nI))) (xs:=s92) rfl (up (en:=(n4 nS nI nS (nT nI))) (en':=(n4 nS nI (nO nS) (nT nI))) (f:=λ (ÎN:(Str×Int×Str×(List Int)))=>(ÎN.1,ÎN.2.1,(some ÎN.2.2.1),ÎN.2.2.2)) (ctu (am (ea:=nS) (o2 (ac (v rfl) (ac (v rfl) (an (ÊJ (en:=nS) v78 a94))))) λ ÜL=>(ac (v rfl) (ac (p2 rfl (v rfl) Ty.c) (ac (pb rfl (Ŀ (v rfl) psN)) (an (fbt (en:=(n4 nS nI nS (nT nI))) (z:=(ÜL,v95,ÓG.1,ÜK)) (ÍH rfl)))))))) (λ _=>rfl)) trivial λ ÜM=>(Èb (a:=ÜM) (.eq (.sk (.eq (.eq (.sk (.sk (.sk (.sk (.sk (.sk .nil)))))))))))))))))))) (λ s93=>(ÄM (pe (en:=(nL (n4 nS nI (nO nS) (nT nI)))) (v rfl)))))))
def Ì3 (a0:Str):M Bool:=(bd (bd (rt (decide (a0=(Str.ofString "")))) λ ãz=>if ãz=true then rt true else (bd (lnS a0) λ áA=>rt (decide ((8:Int)<áA)))) λ ãA=>if ãA=true then (rt false) else (bR (ţ (λ (ãB:Unit) (Ù6:Str)=>(if (!Fr.Ê2 Ù6 (Str.ofString "abcdefghijklmnopqrstuvwxyz"))=true then (bd (rt false) λ ãC=>rt (.rt ãC)) else (rt (.nx ())))) (chars a0) ()) λ ãD=>(rt true)))
theorem Ù7 (a0:Str):Ï0 [nS a0]=em nB (Ì3 a0):=fnT (n:=2) (q:=Ôd) (Çz (Çc (àK (qt (qB (p2 rfl (v rfl) Ty.c))) (tBm (o2 (am (ea:=nI) (cb (ac (v rfl) (an (à1 a0)))) λ áA=>(ac Ty.c (an rfl)))))) (Îw (pe (en:=nB) Ty.c)) (ÄT (Ìe (E:=(λ (st:Unit)=>[none,none])) (l:=(λ Ù6=>[(1,nS Ù6)])) (en:=nS) (st0:=()) (ieS (v rfl)) (λ _ _=>rfl) (.sk (.sk .nil)) (λ _=>trivial) (λ _ _=>trivial) (λ ãB Ù6=>(ÈC (qB (p2 rfl (v rfl) Ty.c)) (λ åG=>(ÈD (pe (en:=nB) Ty.c))) (λ åH=>(Åw (a:=()) (.sk (.sk .nil)))))) (λ ãD=>(ÄM (pe (en:=nB) Ty.c)))))))
def Éx (a0:Str):M Str:=(bd (bd (Ì3 a0) λ ãE=>rt !ãE) λ ãF=>if ãF=true then (ÄD (Str.ofString "InvalidName")) else (rt a0))
theorem Ôo (a0:Str):Ìn [nS a0]=em nS (Éx a0):=fnT (n:=1) (q:=Ï1) (Çz (Çc (ÇT (tBm (ca (ac (v rfl) (an (Ù7 a0)))))) É0 (ÄT (ÄM (pe (en:=nS) (v rfl))))))
def ķ (a0:Bk0) (a1:Str) (a2:Int) (a3:(Option Str)) (a4:(List Int)):M Unit:=(bd (Éx a1) λ _=>(if (Æo a0.rows a1)=true then (ÄD (Str.ofString "DuplicateName")) else (if (!(decide ((1:Int)≤a2)&&decide (a2≤(4:Int))))=true then (ÄD (Str.ofString "InvalidKind")) else (Ê8 a3 (if (decide ((0:Int)<(a4.length:Int)))=true then (ÄD (Str.ofString "InvalidKind")) else (rt ())) λ ÓH=>(if (!Æo a0.rows ÓH)=true then (ÄD (Str.ofString "UnknownName")) else (if (!decide ((a4.length:Int)=a2))=true then (ÄD (Str.ofString "InvalidKind")) else (bd (Ã0 (λ (ãG:Unit) (Ù8:Int)=>(bd (bd (bd (rt (0:Int)) λ ãH=>bd (rt Ù8) λ áB=>if decide (ãH≤áB)=true then bd (bd (Íd a0.rows ÓH) λ áC=>rt áC.1) λ ãI=>rt (decide (áB<ãI)) else rt false) λ ãJ=>rt !ãJ) λ ãK=>if ãK=true then (ÄD (Str.ofString "InvalidKind")) else (rt ()))) a4 ()) λ ãL=>(rt ()))))))))
theorem È0 (a0:Bk0) (a1:Str) (a2:Int) (a3:(Option Str)) (a4:(List Int)):Æt [ÏN a0,nS a1,nI a2,(nO nS) a3,(nT nI) a4]=em nN (ķ a0 a1 a2 a3 a4):=fnT (n:=6) (q:=Év) (Ìd (ca (ac (v rfl) (an (Ôo a1)))) (Çz (ÈC (qB (p2 (Õb (en:=(n3 nI (nO nS) (nT nI))) a1 a0.rows) (v rfl) (pfl (v rfl) (Èc _)))) (λ åI=>É0) (λ åJ=>(ÄT (Çz (ÈC (ãj (qB (àH rfl rfl Ty.c (v rfl) Ty.c))) (λ åK=>É0) (λ åL=>(ÄT (Çz (Üt (v rfl) (λ åM=>(àP (Çz (ÈC (qB (p2 rfl (pb (lenV (en:=nI) a4) (Ŀ (v rfl) psN)) Ty.c)) (λ åN=>É0) (λ åO=>(ÄT (àT (v:=()) rfl))))))) (λ ÓH ãM=>(kRw (kf:=λ (zz:Option Str)=>[some (ÏN a0),some (nS a1),some (nI a2),some ((nO nS) zz),some ((nT nI) a4),none]) ãM (ÄT (Çz (ÈC (qB (p2 (ÌG (en:=(n3 nI (nO nS) (nT nI))) ÓH a0.rows) (v rfl) (pfl (v rfl) (Èc _)))) (λ åP=>É0) (λ åQ=>(ÄT (Çz (ÈC (qB (p2 rfl (pb (lenV (en:=nI) a4) (Ŀ (v rfl) psN)) (v rfl))) (λ åR=>É0) (λ åS=>(ÄT (ÃZ (Ûi (E:=(λ (st:Unit)=>[some (ÏN a0),none,none,some (nS ÓH),none,none])) (l:=(λ Ù8=>[(5,nI Ù8)])) (en:=nI) (st0:=()) (ieT (v rfl)) (λ _ _=>rfl) (.eq (.sk (.sk (.eq (.sk (.sk .nil)))))) (λ _=>trivial) (λ _ _=>trivial) (λ ãG Ù8=>(Çc (ÇT (tBm (chM (b:=λ p q=>decide (p≤q)) (b':=λ p q=>decide (p<q)) (λ _ _=>rfl) (λ _ _=>rfl) (pe (en:=nI) Ty.c) (pe (en:=nI) (v rfl)) (o2 (am (ea:=(n3 nI (nO nS) (nT nI))) (o2 (ac (pfl (v rfl) (Èc _)) (ac (v rfl) (an (Óu (en:=(n3 nI (nO nS) (nT nI))) a0.rows ÓH))))) λ áC=>(ac Ty.c (an rfl))))))) àU (Èb (a:=()) (.eq (.sk (.sk (.eq (.sk (.sk .nil))))))))) (λ ãL=>(ãk rfl))))))))))))))))))))))))))
def ÁG (a0:(List (Str×Int×(Option Str)×(List Int)))) (a1:Str):M (List (Str×Int)):=(bd (Ã0 (λ (Öi:(List (Str×Int))) (ÑS:(Str×Int×(Option Str)×(List Int)))=>(if ((decide (a1=(Str.ofString "?")))||(decide (a1=ÑS.1)))=true then (bd (bd (bd (rgT ÑS.2.1) λ Þp=>szM Þp.length (Þp.map λ ÓI=>(ÑS.1,ÓI))) λ ÜN=>(adL Öi ÜN)) λ ÜO=>(rt ÜO)) else (rt Öi))) a0 []) λ áD=>(rt áD))
theorem Éy (a0:(List (Str×Int×(Option Str)×(List Int)))) (a1:Str):ÅX [(nL (n4 nS nI (nO nS) (nT nI))) a0,nS a1]=em (nL (n2 nS nI)) (ÁG a0 a1):=fnT (n:=5) (q:=ÍR) (Êu (w:=(nL nN) []) (li psN rfl) trivial (Ûi (E:=(λ (st:(List (Str×Int)))=>[none,some (nS a1),some ((nL (n2 nS nI)) st),none,none])) (l:=(λ ÑS=>[(3,(n4 nS nI (nO nS) (nT nI)) ÑS)])) (en:=(n4 nS nI (nO nS) (nT nI))) (st0:=[]) (ieL (v rfl)) (λ _ _=>rfl) (.sk (.eq (.eq (.sk (.sk .nil))))) (λ _=>trivial) (λ _ _=>trivial) (λ Öi ÑS=>(ÈC (qOr (qB (p2 rfl (v rfl) Ty.c)) (qB (p2 rfl (v rfl) (p2 rfl (v rfl) Ty.c)))) (λ åT=>(ÃZ (ÁI (o2 (ac (v rfl) (am (ea:=(nL (n2 nS nI))) (lc0 (en:=nI) (ea:=(n2 nS nI)) (l:=(λ ÓI=>[(4,nI ÓI)])) (f:=λ ÓI=>(ÑS.1,ÓI)) (ir1 (ac (p2 rfl (v rfl) Ty.c) (an (ÏI _)))) (λ _ _=>rfl) (λ ÓI=>(tu (Ŀ (p2 rfl (v rfl) Ty.c) (Ŀ (v rfl) psN)) rfl))) λ ÜN=>(an (Òy (en:=(n2 nS nI)) Öi ÜN))))) trivial λ ÜO=>(Èb (a:=ÜO) (.sk (.eq (.eq (.sk (.sk .nil))))))))) (λ åU=>(Èb (a:=Öi) (.sk (.eq (.eq (.sk (.sk .nil))))))))) (λ áD=>(ÄM (pe (en:=(nL (n2 nS nI))) (v rfl))))))
def ËO (a0:(List (Str×Int×(Option Str)×(List Int)))) (a1:Str):M (Str×Int×(Option Str)×(List Int)):=(bR (ţ (λ (ãN:Unit) (Öj:(Str×Int×(Option Str)×(List Int)))=>(if (decide (Öj.1=a1))=true then (bd (rt Öj) λ ãO=>rt (.rt ãO)) else (rt (.nx ())))) a0 ()) λ ãP=>(ixT a0 (0:Int)))
theorem Øe (a0:(List (Str×Int×(Option Str)×(List Int)))) (a1:Str):ÎJ [(nL (n4 nS nI (nO nS) (nT nI))) a0,nS a1]=em (n4 nS nI (nO nS) (nT nI)) (ËO a0 a1):=fnT (n:=3) (q:=ÒQ) (Ìe (E:=(λ (st:Unit)=>[some ((nL (n4 nS nI (nO nS) (nT nI))) a0),some (nS a1),none])) (l:=(λ Öj=>[(2,(n4 nS nI (nO nS) (nT nI)) Öj)])) (en:=(n4 nS nI (nO nS) (nT nI))) (st0:=()) (ieL (v rfl)) (λ _ _=>rfl) (.eq (.eq (.sk .nil))) (λ _=>trivial) (λ _ _=>trivial) (λ ãN Öj=>(ÈC (qB (p2 rfl (p2 rfl (v rfl) Ty.c) (v rfl))) (λ åV=>(ÈD (pe (en:=(n4 nS nI (nO nS) (nT nI))) (v rfl)))) (λ åW=>(Åw (a:=()) (.eq (.eq (.sk .nil))))))) (λ ãP=>(ÄM (o2 (ac (v rfl) (ac Ty.c (an (ÊJ (en:=(n4 nS nI (nO nS) (nT nI))) a0 (0:Int)))))))))
def ÇY (a0:(List (Str×Int×(Option Str)×(List Int)))) (a1:(Str×Int)) (a2:Str):M (Option (Str×Int)):=(if (decide (a2=(Str.ofString "?")))=true then (rt (some a1)) else (bd (rgT (a0.length:Int)) λ ât=>bd (Ã0 (λ (Ù9:(Option (Str×Int))) (Úa:Int)=>(Ê8 Ù9 (rt Ù9) λ Ï4=>(if (!decide (Ï4.1=a2))=true then (bd (ËO a0 Ï4.1) λ Úb=>(Ê8 Úb.2.2.1 (rt none) λ ÜP=>(bd (bd (ixT Úb.2.2.2 Ï4.2) λ ÜQ=>rt (ÜP,ÜQ)) λ ÜR=>(rt (some ÜR))))) else (rt (some Ï4))))) ât (some a1)) λ áE=>(rt áE)))
theorem Øf (a0:(List (Str×Int×(Option Str)×(List Int)))) (a1:(Str×Int)) (a2:Str):ÎK [(nL (n4 nS nI (nO nS) (nT nI))) a0,(n2 nS nI) a1,nS a2]=em (nO (n2 nS nI)) (ÇY a0 a1 a2):=fnT (n:=5) (q:=ÒR) (Çz (ÈC (qB (p2 rfl (v rfl) Ty.c)) (λ åX=>(Îw (pe (en:=(nO (n2 nS nI))) (v rfl)))) (λ åY=>(ÄT (ÔL (E:=(λ (st:(Option (Str×Int)))=>[some ((nL (n4 nS nI (nO nS) (nT nI))) a0),some ((nO (n2 nS nI)) st),some (nS a2),none,none])) (l:=(λ Úa=>[(3,nI Úa)])) (en:=nI) (st0:=(some a1)) (ir1 (ac (pb (Óv (en:=(n4 nS nI (nO nS) (nT nI))) a0) (Ŀ (v rfl) psN)) (an (ÏI _)))) (λ _ _=>rfl) (.eq (.eq (.eq (.sk (.sk .nil))))) (λ _=>trivial) (λ _ _=>trivial) (λ Ù9 Úa=>(àQ (âg (v rfl) (λ Ï4 ãQ=>(kRw (kf:=λ (zz:Option (Str×Int))=>[some ((nL (n4 nS nI (nO nS) (nT nI))) a0),some ((nO (n2 nS nI)) zz),some (nS a2),some (nI Úa),none]) ãQ (ÈC (qB (p2 rfl (p2 rfl (v rfl) Ty.c) (v rfl))) (λ åZ=>(ÁI (ca (ac (v rfl) (ac (p2 rfl (v rfl) Ty.c) (an (Øe a0 Ï4.1))))) trivial λ Úb=>(Üt (p2 rfl (v rfl) Ty.c) (λ å0=>(ÃZ (Êu (w:=nN ()) Ty.c trivial (Èb (a:=none) (.eq (.eq (.eq (.sk (.sk .nil))))))))) (λ ÜP ãR=>(ÃZ (ÁI (ctu (ac (pof (p2 rfl (v rfl) Ty.c) (congrArg (nO nS) ãR)) (am (ea:=nI) (o2 (ac (p2 rfl (v rfl) Ty.c) (ac (p2 rfl (v rfl) Ty.c) (an (Ûn (en:=nI) Úb.2.2.2 Ï4.2))))) λ ÜQ=>(an (fbt (en:=(n2 nS nI)) (z:=(ÜP,ÜQ)) (ÍH rfl)))))) trivial λ ÜR=>(Èb (a:=(some ÜR)) (.eq (.eq (.eq (.sk (.sk .nil)))))))))))) (λ å1=>(Èb (a:=(some Ï4)) (.eq (.eq (.eq (.sk (.sk .nil)))))))))) (λ å2=>(Èb (a:=Ù9) (.eq (.eq (.eq (.sk (.sk .nil)))))))))) (λ áE=>(ÄM (pe (en:=(nO (n2 nS nI))) (v rfl)))))))))
def Ĉ (a0:Bk) (a1:Str):M Str:=(if (!Æo a0.rows a1)=true then (ÄD (Str.ofString "UnknownName")) else (rt a1))
theorem ů (a0:Bk) (a1:Str):Ķ [nBk a0,nS a1]=em nS (Ĉ a0 a1):=fnT (n:=2) (q:=ÊU) (Çz (ÈC (qB (p2 (ÌG (en:=(n3 nI (nO nS) (nT nI))) a1 a0.rows) (v rfl) (pfl (v rfl) (ÈI _)))) (λ å3=>É0) (λ å4=>(ÄT (ÄM (pe (en:=nS) (v rfl)))))))
def ş (a0:Bk) (a1:Str):M (Option Str):=(bd (bd (Ĉ a0 a1) λ ÜS=>(Íd a0.rows ÜS)) λ áF=>rt áF.2.1)
theorem ÅZ (a0:Bk) (a1:Str):Á8 [nBk a0,nS a1]=em (nO nS) (ş a0 a1):=fnT (n:=2) (q:=Éu) (ÄM (o2 (am (ea:=(n3 nI (nO nS) (nT nI))) (o2 (ac (pfl (v rfl) (ÈI _)) (am (ea:=nS) (me (v rfl) (Ů _) (ac (v rfl) (an (ů a0 a1)))) λ ÜS=>(an (Óu (en:=(n3 nI (nO nS) (nT nI))) a0.rows ÜS))))) λ áF=>(ac Ty.c (an rfl)))))
def ÄI (a0:Bk) (a1:Str):M (List Int):=(bd (bd (Ĉ a0 a1) λ ÜT=>(Íd a0.rows ÜT)) λ áG=>rt áG.2.2)
theorem ÎO (a0:Bk) (a1:Str):Çf [nBk a0,nS a1]=em (nT nI) (ÄI a0 a1):=fnT (n:=2) (q:=ÉK) (ÄM (o2 (am (ea:=(n3 nI (nO nS) (nT nI))) (o2 (ac (pfl (v rfl) (ÈI _)) (am (ea:=nS) (me (v rfl) (Ů _) (ac (v rfl) (an (ů a0 a1)))) λ ÜT=>(an (Óu (en:=(n3 nI (nO nS) (nT nI))) a0.rows ÜT))))) λ áG=>(ac Ty.c (an rfl)))))
def Ć (a0:Bk) (a1:(Str×Int)) (a2:Str):M (Option (Str×Int)):=(bd (rt a1) λ Ëb=>(bd (Ĉ a0 Ëb.1) λ _=>(if (decide (a2=(Str.ofString "?")))=true then (rt (some (Ëb.1,Ëb.2))) else (bd (Ĉ a0 a2) λ _=>(bR (whX (λ (Ëc:(Str×Int))=>(rt (!decide (Ëc.1=a2)))) (λ Ëc=>(bd (ş a0 Ëc.1) λ áH=>(Ê8 áH (bd (rt none) λ ãS=>rt (.rt ãS)) λ Úc=>(bd (bd (ÄI a0 Ëc.1) λ ÜU=>(ixT ÜU Ëc.2)) λ ÜV=>(rt (.nx (Úc,ÜV))))))) 100000 (Ëb.1,Ëb.2)) λ ÜW=>(rt (some (ÜW.1,ÜW.2))))))))
theorem Ä0 (a0:Bk) (a1:(Str×Int)) (a2:Str):Â6 [nBk a0,(n2 nS nI) a1,nS a2]=em (nO (n2 nS nI)) (Ć a0 a1 a2):=fnT (n:=6) (q:=ÍS) (àV (ea:=(n2 nS nI)) (l:=(λ Ëb=>[(3,nS Ëb.1),(4,nI Ëb.2)])) (pe (en:=(n2 nS nI)) (v rfl)) (λ _ _=>rfl) (λ _ _=>trivial) λ Ëb=>(Ìd (me (v rfl) (Ů _) (ac (v rfl) (an (ů a0 Ëb.1)))) (Çz (ÈC (qB (p2 rfl (v rfl) Ty.c)) (λ å5=>(Îw (pe (en:=(nO (n2 nS nI))) (tu (Ŀ (v rfl) (Ŀ (v rfl) psN)) rfl)))) (λ å6=>(ÄT (Ìd (me (v rfl) (Ů _) (ac (v rfl) (an (ů a0 a2)))) (ãm (E:=(λ (st:(Str×Int))=>[some (nBk a0),none,some (nS a2),some (nS st.1),some (nI st.2),none])) (st0:=(Ëb.1,Ëb.2)) (.eq (.sk (.eq (.eq (.eq (.sk .nil)))))) (λ _=>trivial) (λ Ëc=>(qt (qB (p2 rfl (v rfl) (v rfl))))) (λ Ëc=>(ÁI (me (v rfl) (ÅY _) (ac (v rfl) (an (ÅZ a0 Ëc.1)))) trivial λ áH=>(Çz (Üt (v rfl) (λ å7=>(Ý8 (pe (en:=(nO (n2 nS nI))) Ty.c))) (λ Úc ãT=>(kRw (kf:=λ (zz:Option Str)=>[some (nBk a0),none,some (nS a2),some (nS Ëc.1),some (nI Ëc.2),some ((nO nS) zz)]) ãT (ÄT (ÁI (o2 (am (ea:=(nT nI)) (me (v rfl) (ÎM _) (ac (v rfl) (an (ÎO a0 Ëc.1)))) λ ÜU=>(ac (v rfl) (an (Ûn (en:=nI) ÜU Ëc.2))))) trivial λ ÜV=>(ÃZ (Êu (w:=nS Úc) (v rfl) trivial (Åw (a:=(Úc,ÜV)) (.eq (.sk (.eq (.eq (.eq (.sk .nil))))))))))))))))) (λ ÜW=>(ÄM (pe (en:=(nO (n2 nS nI))) (tu (Ŀ (v rfl) (Ŀ (v rfl) psN)) rfl))))))))))))
def Èy (a0:Bk) (a1:(List (NestedKey×(Option (Str×Int))))) (a2:(Str×Int)) (a3:(List Str)):M Bool:=(bR (ţ (λ (ãU:Unit) (Íg:Str)=>(bd (ÄH a1 (Đ ((n2 (n2 nS nI) nS) (a2,Íg)))) λ ãV=>Ê8 ãV (rt (.nx ())) λ ãW=>(bX (ţ (λ (ãX:Unit) (ÎP:Str)=>(bd (bd (bd (ÄH a1 (Đ ((n2 (n2 nS nI) nS) (a2,Íg)))) λ ÜX=>rt (ÜX,ÎP)) λ ÜY=>(ÄH a1 (Đ ((n2 (nO (n2 nS nI)) nS) ÜY)))) λ ãY=>Ê8 ãY (rt (.nx ())) λ ãZ=>(bd (bd (bd (bd (Ć a0 a2 Íg) λ ã0=>Ŭ ã0) λ ÜZ=>(Ć a0 ÜZ ÎP)) λ ã1=>Ŭ ã1) λ Ü0=>(bd (bd (bd (ÄH a1 (Đ ((n2 (n2 nS nI) nS) (a2,ÎP)))) λ Ü1=>(ÅE 4 (nO (n2 nS nI)) (some Ü0) Ü1)) λ ã2=>rt !ã2) λ ã3=>if ã3=true then (bd (rt false) λ ã4=>rt (.rt ã4)) else (rt (.nx ())))))) a3 ()) λ ã5=>(rt (.nx ()))))) a3 ()) λ ã6=>(rt true))
theorem ÓJ (a0:Bk) (a1:(List (NestedKey×(Option (Str×Int))))) (a2:(Str×Int)) (a3:(List Str)):Ëa [nBk a0,(nDn (nO (n2 nS nI))) a1,(n2 nS nI) a2,(nL nS) a3]=em nB (Èy a0 a1 a2 a3):=fnT (n:=7) (q:=Ïc) (Ìe (E:=(λ (st:Unit)=>[some (nBk a0),some ((nDn (nO (n2 nS nI))) a1),some ((n2 nS nI) a2),some ((nL nS) a3),none,none,none])) (l:=(λ Íg=>[(4,nS Íg)])) (en:=nS) (st0:=()) (ieL (v rfl)) (λ _ _=>rfl) (.eq (.eq (.eq (.eq (.sk (.sk (.sk .nil))))))) (λ _=>trivial) (λ _ _=>trivial) (λ ãU Íg=>(Ûh (o2 (ac (v rfl) (ac (tu (Ŀ (v rfl) (Ŀ (v rfl) psN)) rfl) (an (ÎF (en:=(nO (n2 nS nI))) (eb:=(n2 (n2 nS nI) nS)) a1 (a2,Íg)))))) (λ ãW=>(ÃZ (Ûj (E:=(λ (st:Unit)=>[some (nBk a0),some ((nDn (nO (n2 nS nI))) a1),some ((n2 nS nI) a2),some ((nL nS) a3),some (nS Íg),none,none])) (l:=(λ ÎP=>[(5,nS ÎP)])) (en:=nS) (st0:=()) (ieL (v rfl)) (λ _ _=>rfl) (.eq (.eq (.eq (.eq (.eq (.sk (.sk .nil))))))) (λ _=>trivial) (λ _ _=>trivial) (λ ãX ÎP=>(Ûh (o2 (ac (v rfl) (am (ea:=(n2 (nO (n2 nS nI)) nS)) (ctu (am (ea:=(nO (n2 nS nI))) (o2 (ac (v rfl) (ac (tu (Ŀ (v rfl) (Ŀ (v rfl) psN)) rfl) (an (ÎF (en:=(nO (n2 nS nI))) (eb:=(n2 (n2 nS nI) nS)) a1 (a2,Íg)))))) λ ÜX=>(ac (v rfl) (an (fbt (en:=(n2 (nO (n2 nS nI)) nS)) (z:=(ÜX,ÎP)) (ÍH rfl)))))) λ ÜY=>(an (ÎF (en:=(nO (n2 nS nI))) (eb:=(n2 (nO (n2 nS nI)) nS)) a1 ÜY))))) (λ ãZ=>(ÁI (à4 (en:=(n2 nS nI)) (me (v rfl) (ÄZ _) (am (ea:=(n2 nS nI)) (à4 (en:=(n2 nS nI)) (me (v rfl) (ÄZ _) (ac (v rfl) (ac (v rfl) (an (Ä0 a0 a2 Íg)))))) λ ÜZ=>(ac (v rfl) (an (Ä0 a0 ÜZ ÎP)))))) trivial λ Ü0=>(Çc (ÇT (tBm (ca (ac (v rfl) (am (ea:=(nO (n2 nS nI))) (o2 (ac (v rfl) (ac (tu (Ŀ (v rfl) (Ŀ (v rfl) psN)) rfl) (an (ÎF (en:=(nO (n2 nS nI))) (eb:=(n2 (n2 nS nI) nS)) a1 (a2,ÎP)))))) λ Ü1=>(an (Ìf ËW 4 (nO (n2 nS nI)) (some Ü0) Ü1))))))) (ÈD (pe (en:=nB) Ty.c)) (Åw (a:=()) (.eq (.eq (.eq (.eq (.eq (.sk (.sk .nil))))))))))) (Åw (a:=()) (.eq (.eq (.eq (.eq (.eq (.sk (.sk .nil)))))))))) (λ ã5=>(Åw (a:=()) (.eq (.eq (.eq (.eq (.sk (.sk (.sk .nil)))))))))))) (Åw (a:=()) (.eq (.eq (.eq (.eq (.sk (.sk (.sk .nil)))))))))) (λ ã6=>(ÄM (pe (en:=nB) Ty.c))))
def Âo (a0:Bk) (a1:Str):M (List Str):=(bd (bd (Ĉ a0 a1) λ Ü2=>rt [Ü2]) λ Ü3=>(bd (ş a0 a1) λ Ü4=>(bd (whT (λ (Ìs:((List Str)×(Option Str)))=>(rt (Ìs.2.isSome))) (λ Ìs=>(bd (Ŭ Ìs.2) λ Ï5=>(bd (apT Ìs.1 Ï5) λ Ök=>(bd (ş a0 Ï5) λ Öl=>(rt (Ök,Öl)))))) 100000 (Ü3,Ü4)) λ áI=>(rt áI.1))))
theorem ÎQ (a0:Bk) (a1:Str):Çg [nBk a0,nS a1]=em (nL nS) (Âo a0 a1):=fnT (n:=4) (q:=ÉL) (àO (cli (am (ea:=nS) (me (v rfl) (Ů _) (ac (v rfl) (an (ů a0 a1)))) λ Ü2=>(an (fbt (en:=(nL nS)) (z:=[Ü2]) (Ót rfl))))) trivial λ Ü3=>(ÁI (me (v rfl) (ÅY _) (ac (v rfl) (an (ÅZ a0 a1)))) trivial λ Ü4=>(âi (E:=(λ (st:((List Str)×(Option Str)))=>[some (nBk a0),none,some ((nL nS) st.1),some ((nO nS) st.2)])) (st0:=(Ü3,Ü4)) (ov:=λ Ìs=>Ìs.2) (en:=nS) (fb:=λ Ìs Ï5=>(bd (apT Ìs.1 Ï5) λ Ök=>(bd (ş a0 Ï5) λ Öl=>(rt (Ök,Öl))))) (.eq (.sk (.eq (.eq .nil)))) (λ _=>trivial) (λ Ìs=>(v rfl)) (λ Ìs Ï5 áJ=>(ãn (ea:=nS) (xs:=Ìs.1) (x:=Ï5) rfl (pof (v rfl) (congrArg (nO nS) áJ)) trivial λ Ök=>(ÃZ (ÁI (me (v rfl) (ÅY _) (ac (pof (v rfl) (congrArg (nO nS) áJ)) (an (ÅZ a0 Ï5)))) trivial λ Öl=>(Èb (a:=(Ök,Öl)) (.eq (.sk (.eq (.eq .nil))))))))) (λ áI=>(ÄM (pe (en:=(nL nS)) (v rfl)))))))
def ó (a0:Bk) (a1:Str) (a2:Str):M Bool:=(bd (if (!decide (a1=(Str.ofString "?")))=true then (bd (bd (Ĉ a0 a1) λ Ü5=>rt [Ü5]) λ Ü6=>(rt Ü6)) else (rt a0.names)) λ áK=>(if (decide (a2=(Str.ofString "?")))=true then (rt true) else (bd (Ĉ a0 a2) λ _=>(bR (ţ (λ (ã7:Unit) (Öm:Str)=>(bd (bd (Âo a0 Öm) λ Úd=>rt (!Úd.contains a2)) λ ã8=>if ã8=true then (bd (rt false) λ ã9=>rt (.rt ã9)) else (rt (.nx ())))) áK ()) λ äa=>(rt true)))))
theorem ÅH (a0:Bk) (a1:Str) (a2:Str):Â7 [nBk a0,nS a1,nS a2]=em nB (ó a0 a1 a2):=fnT (n:=5) (q:=Ìq) (Êu (w:=(nL nS) a0.names) (pb rfl (Ŀ (pfl (v rfl) (Ð3 _)) psN)) trivial (join (E:=(λ (st:(List Str))=>[some (nBk a0),none,some (nS a2),some ((nL nS) st),none])) (λ _=>trivial) (ÈC (qB (p2 rfl (v rfl) Ty.c)) (λ å8=>(ÃZ (ÁI (cli (am (ea:=nS) (me (v rfl) (Ů _) (ac (v rfl) (an (ů a0 a1)))) λ Ü5=>(an (fbt (en:=(nL nS)) (z:=[Ü5]) (Ót rfl))))) trivial λ Ü6=>(Èb (a:=Ü6) (.eq (.sk (.eq (.eq (.sk .nil))))))))) (λ å9=>(Èb (a:=a0.names) (.eq (.sk (.eq (.eq (.sk .nil)))))))) λ áK=>(Çz (ÈC (qB (p2 rfl (v rfl) Ty.c)) (λ æa=>(Îw (pe (en:=nB) Ty.c))) (λ æb=>(ÄT (Ìd (me (v rfl) (Ů _) (ac (v rfl) (an (ů a0 a2)))) (Ìe (E:=(λ (st:Unit)=>[some (nBk a0),none,some (nS a2),none,none])) (l:=(λ Öm=>[(4,nS Öm)])) (en:=nS) (st0:=()) (ieL (v rfl)) (λ _ _=>rfl) (.eq (.sk (.eq (.sk (.sk .nil))))) (λ _=>trivial) (λ _ _=>trivial) (λ ã7 Öm=>(Çc (tBm (o2 (ac (v rfl) (am (ea:=(nL nS)) (me (v rfl) (ÎL _) (ac (v rfl) (an (ÎQ a0 Öm)))) λ Úd=>(an (f2t (en:=nB) (z:=(!Úd.contains a2)) (Þa (en:=nS) a2 Úd))))))) (ÈD (pe (en:=nB) Ty.c)) (Åw (a:=()) (.eq (.sk (.eq (.sk (.sk .nil)))))))) (λ äa=>(ÄM (pe (en:=nB) Ty.c)))))))))))
def Àv (a0:Bk) (a1:Str) (a2:Str):M (Option Str):=(bd (ó a0 a1 a2) λ äb=>if äb=true then (rt (some a1)) else (bd (ó a0 a2 a1) λ äc=>if äc=true then (rt (some a2)) else (rt none)))
theorem Ëp (a0:Bk) (a1:Str) (a2:Str):Æs [nBk a0,nS a1,nS a2]=em (nO nS) (Àv a0 a1 a2):=fnT (n:=3) (q:=Ìr) (Çz (Çc (tBm (me (v rfl) (ÅG _) (ac (v rfl) (ac (v rfl) (an (ÅH a0 a1 a2)))))) (Îw (pe (en:=(nO nS)) (v rfl))) (ÄT (Çz (Çc (tBm (me (v rfl) (ÅG _) (ac (v rfl) (ac (v rfl) (an (ÅH a0 a2 a1)))))) (Îw (pe (en:=(nO nS)) (v rfl))) (ÄT (ÄM (pe (en:=(nO nS)) Ty.c))))))))
def ÁA (a0:Bk) (a1:(Str×Int)) (a2:Str):M Bool:=(bR (Îx (bd (Ć a0 a1 a2) λ _=>(rt (.nx ()))) Ġ (λ c dd=>(bd (rt true) λ äd=>rt (.rt äd)))) λ äe=>(rt false))
theorem Ëq (a0:Bk) (a1:(Str×Int)) (a2:Str):Ær [nBk a0,(n2 nS nI) a1,nS a2]=em nB (ÁA a0 a1 a2):=fnT (n:=3) (q:=Ìp) (joinR (E:=(λ (st:Unit)=>[none,none,none])) (λ _=>trivial) (Üw (kx:=[none,none,none]) (.sk (.sk (.sk .nil))) trivial (ÃZ (Ìd (me (v rfl) (ÄZ _) (ac (v rfl) (ac (v rfl) (an (Ä0 a0 a1 a2))))) (Åw (a:=()) (.sk (.sk (.sk .nil)))))) (λ c dd=>(ÈD (pe (en:=nB) Ty.c)))) λ äe=>(ÄM (pe (en:=nB) Ty.c)))
def ŕ (a0:Bk) (a1:Str) (a2:Str):M Bool:=(bR (Îx (bd (ó a0 a1 a2) λ _=>(rt (.nx ()))) Ġ (λ c dd=>(bd (rt true) λ äf=>rt (.rt äf)))) λ äg=>(rt false))
theorem ÉM (a0:Bk) (a1:Str) (a2:Str):ÄX [nBk a0,nS a1,nS a2]=em nB (ŕ a0 a1 a2):=fnT (n:=3) (q:=ÊV) (joinR (E:=(λ (st:Unit)=>[none,none,none])) (λ _=>trivial) (Üw (kx:=[none,none,none]) (.sk (.sk (.sk .nil))) trivial (ÃZ (Ìd (me (v rfl) (ÅG _) (ac (v rfl) (ac (v rfl) (an (ÅH a0 a1 a2))))) (Åw (a:=()) (.sk (.sk (.sk .nil)))))) (λ c dd=>(ÈD (pe (en:=nB) Ty.c)))) λ äg=>(ÄM (pe (en:=nB) Ty.c)))
def Àw (a0:Bk) (a1:Str) (a2:Str):M Bool:=(bR (Îx (bd (Àv a0 a1 a2) λ _=>(rt (.nx ()))) Ġ (λ c dd=>(bd (rt true) λ äh=>rt (.rt äh)))) λ äi=>(rt false))
theorem ÉN (a0:Bk) (a1:Str) (a2:Str):ÄY [nBk a0,nS a1,nS a2]=em nB (Àw a0 a1 a2):=fnT (n:=3) (q:=ÊW) (joinR (E:=(λ (st:Unit)=>[none,none,none])) (λ _=>trivial) (Üw (kx:=[none,none,none]) (.sk (.sk (.sk .nil))) trivial (ÃZ (Ìd (me (v rfl) (Ëo _) (ac (v rfl) (ac (v rfl) (an (Ëp a0 a1 a2))))) (Åw (a:=()) (.sk (.sk (.sk .nil)))))) (λ c dd=>(ÈD (pe (en:=nB) Ty.c)))) λ äi=>(ÄM (pe (en:=nB) Ty.c)))
def Å0 (a0:Bk) (a1:(Str×Int)) (a2:Str):M Bool:=(bR (ţ (λ (äj:Unit) (Ön:Str)=>(bd (bd (ÁA a0 (a2,(0:Int)) Ön) λ äk=>rt !äk) λ äl=>if äl=true then (bd (rt false) λ äm=>rt (.rt äm)) else (rt (.nx ())))) [(Str.ofString "?"),a1.1,a2] ()) λ än=>(bd (bd (ÁA a0 a1 a2) λ äo=>rt !äo) λ äp=>if äp=true then (rt false) else (bR (ţ (λ (äq:Unit) (ÑT:Str)=>(bd (bd (bd (ŕ a0 a2 ÑT) λ är=>rt !är) λ äs=>if äs=true then rt true else (bd (ŕ a0 ÑT a2) λ ät=>rt !ät)) λ äu=>if äu=true then (bd (rt false) λ äv=>rt (.rt äv)) else (rt (.nx ())))) [(Str.ofString "?"),a1.1] ()) λ äw=>(bd (Àw a0 a2 a1.1) λ äx=>if äx=true then (Àw a0 a1.1 a2) else rt false))))
theorem ÒT (a0:Bk) (a1:(Str×Int)) (a2:Str):Êb [nBk a0,(n2 nS nI) a1,nS a2]=em nB (Å0 a0 a1 a2):=fnT (n:=6) (q:=ÍT) (Êu (w:=nS a1.1) (p2 rfl (v rfl) Ty.c) trivial (Ìe (E:=(λ (st:Unit)=>[some (nBk a0),some ((n2 nS nI) a1),some (nS a2),some (nS a1.1),none,none])) (l:=(λ Ön=>[(4,nS Ön)])) (en:=nS) (st0:=()) (ieL (li (Ŀ Ty.c (Ŀ (v rfl) (Ŀ (v rfl) psN))) rfl)) (λ _ _=>rfl) (.eq (.eq (.eq (.eq (.sk (.sk .nil)))))) (λ _=>trivial) (λ _ _=>trivial) (λ äj Ön=>(Çc (ÇT (tBm (ca (ac (v rfl) (ac (tu (Ŀ (v rfl) (Ŀ Ty.c psN)) rfl) (ac (v rfl) (an (Ëq a0 (a2,(0:Int)) Ön)))))))) (ÈD (pe (en:=nB) Ty.c)) (Åw (a:=()) (.eq (.eq (.eq (.eq (.sk (.sk .nil))))))))) (λ än=>(Çz (Çc (ÇT (tBm (ca (ac (v rfl) (ac (v rfl) (ac (v rfl) (an (Ëq a0 a1 a2)))))))) (Îw (pe (en:=nB) Ty.c)) (ÄT (Ìe (E:=(λ (st:Unit)=>[some (nBk a0),none,some (nS a2),some (nS a1.1),none,none])) (l:=(λ ÑT=>[(5,nS ÑT)])) (en:=nS) (st0:=()) (ieL (li (Ŀ Ty.c (Ŀ (v rfl) psN)) rfl)) (λ _ _=>rfl) (.eq (.sk (.eq (.eq (.sk (.sk .nil)))))) (λ _=>trivial) (λ _ _=>trivial) (λ äq ÑT=>(Çc (àK (ÇT (tBm (ca (ac (v rfl) (ac (v rfl) (ac (v rfl) (an (ÉM a0 a2 ÑT)))))))) (ÇT (tBm (ca (ac (v rfl) (ac (v rfl) (ac (v rfl) (an (ÉM a0 ÑT a2))))))))) (ÈD (pe (en:=nB) Ty.c)) (Åw (a:=()) (.eq (.sk (.eq (.eq (.sk (.sk .nil))))))))) (λ äw=>(ÄM (andM (ca (ac (v rfl) (ac (v rfl) (ac (v rfl) (an (ÉN a0 a2 a1.1)))))) (ca (ac (v rfl) (ac (v rfl) (ac (v rfl) (an (ÉN a0 a1.1 a2))))))))))))))))
def Úe:M Bool:=(bd (Êy (5:Int)) λ ÇC=>(bd ((newT ķ) ÇC) λ Å1=>(bd (bd (bd (bd (rt ÇC) λ Þq=>szM Þq.length (Þq.map λ Ï6=>(Ï6.1,Ï6.2.1,(),()))) λ Ü7=>rt (Ü7.map λ áL=>(áL.1,áL.2.1,none,[]))) λ áM=>((newT ķ) áM)) λ Öo=>(bd (bd (rt ÇC) λ Þr=>szM Þr.length (Þr.map λ ÓK=>ÓK.1)) λ ÀD=>(bd (ÁG ÇC (Str.ofString "?")) λ âu=>bR (ţ (λ (Ü8:(List (NestedKey×(Option (Str×Int))))) (ÇD:(Str×Int))=>(bd (adL ÀD [(Str.ofString "?")]) λ Úf=>bX (ţ (λ (Öp:(List (NestedKey×(Option (Str×Int))))) (ÄE:Str)=>(bd (ÇY ÇC ÇD ÄE) λ Íh=>(bd (rt Íh) λ Öq=>bd (rt (ÇD,ÄE)) λ Ör=>bd (Én Öp (Đ ((n2 (n2 nS nI) nS) Ör)) Öq) λ ÑU=>(bd (bd (bd (Ć Å1 ÇD ÄE) λ ÑV=>(ÅE 4 (nO (n2 nS nI)) ÑV Íh)) λ Ös=>rt !Ös) λ Öt=>if Öt=true then (bd (rt false) λ Öu=>rt (.rt Öu)) else (bd (bd (bd (Ć Öo ÇD ÄE) λ ÑW=>(ÅE 4 (nO (n2 nS nI)) ÑW (bif ((decide (ÄE=(Str.ofString "?")))||(decide (ÄE=ÇD.1))) then (some ÇD) else none))) λ Öv=>rt !Öv) λ Öw=>if Öw=true then (bd (rt false) λ Öx=>rt (.rt Öx)) else (rt (.nx ÑU))))))) Úf Ü8) λ Öy=>(rt (.nx Öy)))) âu []) λ ÎR=>(bd (ÁG ÇC (Str.ofString "?")) λ âv=>bR (ţ (λ (äy:Unit) (Öz:(Str×Int))=>(bd (bd (Èy Å1 ÎR Öz ÀD) λ äz=>rt !äz) λ äA=>if äA=true then (bd (rt false) λ äB=>rt (.rt äB)) else (rt (.nx ())))) âv ()) λ äC=>(bd (adL ÀD [(Str.ofString "?")]) λ âw=>bR (ţ (λ (Ü9:(List (NestedKey×Bool))) (ÎS:Str)=>(bd (adL ÀD [(Str.ofString "?")]) λ Úg=>bX (ţ (λ (ÖA:(List (NestedKey×Bool))) (Ëd:Str)=>(bd (bd (ÁG ÇC ÎS) λ ÒU=>lcM (λ Æu=>(bd (bd (rt (Æu,Ëd)) λ ÑX=>ÄH ÎR (Đ ((n2 (n2 nS nI) nS) ÑX))) λ ÑY=>rt ÑY.isNone)) (λ Æu=>(rt Æu)) ÒU) λ Ëe=>(bd (rt (decide ((Ëe.length:Int)=(0:Int)))) λ ÖB=>bd (rt (ÎS,Ëd)) λ ÖC=>bd (Én ÖA (Đ ((n2 nS nS) ÖC)) ÖB) λ ÑZ=>(bd (bd (bd (ó Å1 ÎS Ëd) λ Ñ0=>(ÅE 4 nB Ñ0 (decide ((Ëe.length:Int)=(0:Int))))) λ ÖD=>rt !ÖD) λ ÖE=>if ÖE=true then (bd (rt false) λ ÖF=>rt (.rt ÖF)) else (rt (.nx ÑZ)))))) Úg Ü9) λ ÖG=>(rt (.nx ÖG)))) âw []) λ Ï7=>(bR (ţ (λ (äD:Unit) (Ëf:Str)=>(bX (ţ (λ (äE:Unit) (Ìt:Str)=>(bd (bd (bd (bd (rt (Ëf,Ìt)) λ Ýa=>ÄH Ï7 (Đ ((n2 nS nS) Ýa))) λ x=>rt x) λ Ýb=>if Ýb=true then (rt (some Ëf)) else (bd (bd (bd (rt (Ìt,Ëf)) λ Ýc=>ÄH Ï7 (Đ ((n2 nS nS) Ýc))) λ x=>rt x) λ Ýd=>if Ýd=true then (rt (some Ìt)) else (rt none))) λ ÖH=>(bd (bd (bd (Àv Å1 Ëf Ìt) λ ÖI=>(ÅE 4 (nO nS) ÖI ÖH)) λ Ýe=>rt !Ýe) λ Ýf=>if Ýf=true then (bd (rt false) λ Ýg=>rt (.rt Ýg)) else (rt (.nx ()))))) ÀD ()) λ äF=>(rt (.nx ())))) ÀD ()) λ äG=>(bd (bd (bd (ixT ÀD (0:Int)) λ ÖJ=>(adS ÖJ (Str.ofString "m"))) λ ÖK=>(bd (bd (bd (ixT ÀD ((ÀD.length:Int)-(1:Int))) λ Ýh=>bd (rt (some (1:Int))) λ Ýi=>bd (rt none) λ Ýj=>(cutS Ýh Ýi Ýj)) λ ÖL=>(adS ÖL (Str.ofString "q"))) λ ÖM=>rt [(Str.ofString "zzzzzzzz"),ÖK,ÖM])) λ âx=>bR (ţ (λ (äH:Unit) (Ñ1:Str)=>(bd (bd (rt (!ÀD.contains Ñ1)) λ Ýk=>if Ýk=true then (bd (bd (bd (ixT ÀD ((ÀD.length:Int)-(1:Int))) λ ÖN=>rt (ÖN,(0:Int))) λ ÖO=>(Å0 Å1 ÖO Ñ1)) λ Ýl=>rt !Ýl) else rt false) λ Ým=>if Ým=true then (bd (rt false) λ Ýn=>rt (.rt Ýn)) else (rt (.nx ())))) âx ()) λ äI=>(rt true))))))))))
theorem áN:TS (mR none nB) (none::some .dr::List.replicate 18 none) Þk Úe:=(ÁI (ca (ac (v rfl) (ac Ty.c (an (Öh (5:Int)))))) trivial λ ÇC=>(ÁI (ca (ac (pb rfl (Ŀ (v rfl) psN)) (an (ØW È0 _)))) trivial λ Å1=>(ÁI (ca (am (ea:=(nL (n4 nS nI (nO nS) (nT nI)))) (up (en:=(nL (n4 nS nI nN n0))) (en':=(nL (n4 nS nI (nO nS) (nT nI)))) (f:=λ (Ü7:(List (Str×Int×Unit×Unit)))=>(Ü7.map λ áO=>(áO.1,áO.2.1,none,[]))) (lc0 (en:=(n4 nS nI (nO nS) (nT nI))) (ea:=(n4 nS nI nN n0)) (l:=(λ Ï6=>[(15,(n4 nS nI (nO nS) (nT nI)) Ï6)])) (f:=λ Ï6=>(Ï6.1,Ï6.2.1,(),())) (ieL (v rfl)) (λ _ _=>rfl) (λ Ï6=>(tu (Ŀ (p2 rfl (v rfl) Ty.c) (Ŀ (p2 rfl (v rfl) Ty.c) (Ŀ Ty.c (Ŀ (tu psN rfl) psN)))) rfl))) (upL (ea':=(n4 nS nI nN n0)) (en':=(n4 nS nI (nO nS) (nT nI))) (f:=λ (áP:(Str×Int×Unit×Unit))=>(áP.1,áP.2.1,none,[])) (λ _=>rfl))) λ áM=>(an (ØW È0 _)))) trivial λ Öo=>(ÁI (lc0 (en:=(n4 nS nI (nO nS) (nT nI))) (ea:=nS) (l:=(λ ÓK=>[(15,(n4 nS nI (nO nS) (nT nI)) ÓK)])) (f:=λ ÓK=>ÓK.1) (ieL (v rfl)) (λ _ _=>rfl) (λ ÓK=>(p2 rfl (v rfl) Ty.c))) trivial λ ÀD=>(Ûv trivial (Òt (E:=(λ (st:(List (NestedKey×(Option (Str×Int)))))=>[none,none,some ((nL (n4 nS nI (nO nS) (nT nI))) ÇC),some (nBk Å1),some (nBk Öo),some ((nL nS) ÀD),some ((nDn (nO (n2 nS nI))) st),none,none,none,none,none,none,none,none,none,none,none,none,none])) (l:=(λ ÇD=>[(7,(n2 nS nI) ÇD)])) (en:=(n2 nS nI)) (st0:=[]) (ÑF (ca (ac (v rfl) (ac Ty.c (an (Éy ÇC (Str.ofString "?"))))))) (λ _ _=>rfl) (.sk (.sk (.eq (.eq (.eq (.eq (.eq (.sk (.sk (.sk (.sk (.sk (.sk (.sk (.sk (.sk (.sk (.sk (.sk (.sk .nil)))))))))))))))))))) (λ _=>trivial) (λ _ _=>trivial) (λ Ü8 ÇD=>(ÃZ (ÙU (E:=(λ (st:(List (NestedKey×(Option (Str×Int)))))=>[none,none,some ((nL (n4 nS nI (nO nS) (nT nI))) ÇC),some (nBk Å1),some (nBk Öo),some ((nL nS) ÀD),some ((nDn (nO (n2 nS nI))) st),some ((n2 nS nI) ÇD),none,none,none,none,none,none,none,none,none,none,none,none])) (l:=(λ ÄE=>[(12,nS ÄE)])) (en:=nS) (st0:=Ü8) (ÑF (o2 (ac (v rfl) (ac (li (Ŀ Ty.c psN) rfl) (an (Òy (en:=nS) ÀD [(Str.ofString "?")])))))) (λ _ _=>rfl) (.sk (.sk (.eq (.eq (.eq (.eq (.eq (.eq (.sk (.sk (.sk (.sk (.sk (.sk (.sk (.sk (.sk (.sk (.sk (.sk .nil)))))))))))))))))))) (λ _=>trivial) (λ _ _=>trivial) (λ Öp ÄE=>(ÁI (ca (ac (v rfl) (ac (v rfl) (ac (v rfl) (an (Øf ÇC ÇD ÄE)))))) trivial λ Íh=>(Ûw (en:=(nO (n2 nS nI))) (eb:=(n2 (n2 nS nI) nS)) (kvs:=Öp) rfl (pe (en:=(nO (n2 nS nI))) (v rfl)) (pe (en:=(n2 (n2 nS nI) nS)) (tu (Ŀ (v rfl) (Ŀ (v rfl) psN)) rfl)) trivial λ ÑU=>(Çz (Çc (ÇT (tBm (ca (am (ea:=(nO (n2 nS nI))) (me (v rfl) (ÄZ _) (ac (v rfl) (ac (v rfl) (an (Ä0 Å1 ÇD ÄE))))) λ ÑV=>(ac (v rfl) (an (Ìf ËW 4 (nO (n2 nS nI)) ÑV Íh))))))) (Ý8 (pe (en:=nB) Ty.c)) (ÄT (Êu (w:=(nO (n2 nS nI)) (bif ((decide (ÄE=(Str.ofString "?")))||(decide (ÄE=ÇD.1))) then (some ÇD) else none)) (pif (en:=(nO (n2 nS nI))) (qOr (qB (p2 rfl (v rfl) Ty.c)) (qB (p2 rfl (v rfl) (p2 rfl (v rfl) Ty.c)))) (v rfl) Ty.c) trivial (Çc (ÇT (tBm (ca (am (ea:=(nO (n2 nS nI))) (me (v rfl) (ÄZ _) (ac (v rfl) (ac (v rfl) (an (Ä0 Öo ÇD ÄE))))) λ ÑW=>(ac (v rfl) (an (Ìf ËW 4 (nO (n2 nS nI)) ÑW (bif ((decide (ÄE=(Str.ofString "?")))||(decide (ÄE=ÇD.1))) then (some ÇD) else none)))))))) (ÈD (pe (en:=nB) Ty.c)) (Åw (a:=ÑU) (.sk (.sk (.eq (.eq (.eq (.eq (.eq (.eq (.sk (.sk (.sk (.sk (.sk (.sk (.sk (.sk (.sk (.sk (.sk (.sk .nil))))))))))))))))))))))))))))) (λ Öy=>(Åw (a:=Öy) (.sk (.sk (.eq (.eq (.eq (.eq (.eq (.sk (.sk (.sk (.sk (.sk (.sk (.sk (.sk (.sk (.sk (.sk (.sk (.sk .nil))))))))))))))))))))))))) (λ ÎR=>(Òt (E:=(λ (st:Unit)=>[none,none,some ((nL (n4 nS nI (nO nS) (nT nI))) ÇC),some (nBk Å1),none,some ((nL nS) ÀD),some ((nDn (nO (n2 nS nI))) ÎR),none,none,none,none,none,none,none,none,none,none,none,none,none])) (l:=(λ Öz=>[(7,(n2 nS nI) Öz)])) (en:=(n2 nS nI)) (st0:=()) (ÑF (ca (ac (v rfl) (ac Ty.c (an (Éy ÇC (Str.ofString "?"))))))) (λ _ _=>rfl) (.sk (.sk (.eq (.eq (.sk (.eq (.eq (.sk (.sk (.sk (.sk (.sk (.sk (.sk (.sk (.sk (.sk (.sk (.sk (.sk .nil)))))))))))))))))))) (λ _=>trivial) (λ _ _=>trivial) (λ äy Öz=>(Çc (ÇT (tBm (caE (ac (v rfl) (acN (en:=(nO (n2 nS nI))) rfl (ac (v rfl) (ac (v rfl) (an (ÓJ Å1 ÎR Öz ÀD))))))))) (ÈD (pe (en:=nB) Ty.c)) (Åw (a:=()) (.sk (.sk (.eq (.eq (.sk (.eq (.eq (.sk (.sk (.sk (.sk (.sk (.sk (.sk (.sk (.sk (.sk (.sk (.sk (.sk .nil))))))))))))))))))))))) (λ äC=>(Ûv trivial (Òt (E:=(λ (st:(List (NestedKey×Bool)))=>[none,none,some ((nL (n4 nS nI (nO nS) (nT nI))) ÇC),some (nBk Å1),none,some ((nL nS) ÀD),some ((nDn (nO (n2 nS nI))) ÎR),none,some ((nDn nB) st),none,none,none,none,none,none,none,none,none,none,none])) (l:=(λ ÎS=>[(9,nS ÎS)])) (en:=nS) (st0:=[]) (ÑF (o2 (ac (v rfl) (ac (li (Ŀ Ty.c psN) rfl) (an (Òy (en:=nS) ÀD [(Str.ofString "?")])))))) (λ _ _=>rfl) (.sk (.sk (.eq (.eq (.sk (.eq (.eq (.sk (.eq (.sk (.sk (.sk (.sk (.sk (.sk (.sk (.sk (.sk (.sk (.sk .nil)))))))))))))))))))) (λ _=>trivial) (λ _ _=>trivial) (λ Ü9 ÎS=>(ÃZ (ÙU (E:=(λ (st:(List (NestedKey×Bool)))=>[none,none,some ((nL (n4 nS nI (nO nS) (nT nI))) ÇC),some (nBk Å1),none,some ((nL nS) ÀD),some ((nDn (nO (n2 nS nI))) ÎR),none,some ((nDn nB) st),some (nS ÎS),none,none,none,none,none,none,none,none,none,none])) (l:=(λ Ëd=>[(13,nS Ëd)])) (en:=nS) (st0:=Ü9) (ÑF (o2 (ac (v rfl) (ac (li (Ŀ Ty.c psN) rfl) (an (Òy (en:=nS) ÀD [(Str.ofString "?")])))))) (λ _ _=>rfl) (.sk (.sk (.eq (.eq (.sk (.eq (.eq (.sk (.eq (.eq (.sk (.sk (.sk (.sk (.sk (.sk (.sk (.sk (.sk (.sk .nil)))))))))))))))))))) (λ _=>trivial) (λ _ _=>trivial) (λ ÖA Ëd=>(ÁI (lcm (en:=(n2 nS nI)) (ea:=(n2 nS nI)) (l:=(λ Æu=>[(19,(n2 nS nI) Æu)])) (c:=λ Æu=>(bd (bd (rt (Æu,Ëd)) λ ÑX=>ÄH ÎR (Đ ((n2 (n2 nS nI) nS) ÑX))) λ ÑY=>rt ÑY.isNone)) (f:=λ Æu=>(rt Æu)) (ÑF (ca (ac (v rfl) (ac (v rfl) (an (Éy ÇC ÎS)))))) (λ _ _=>rfl) (λ Æu=>(tBm (ãp (ngD (en:=(nO (n2 nS nI))) (eb:=(n2 (n2 nS nI) nS)) (kvs:=ÎR) rfl (pe (en:=(n2 (n2 nS nI) nS)) (tu (Ŀ (v rfl) (Ŀ (v rfl) psN)) rfl)))))) (λ Æu=>(pe (en:=(n2 nS nI)) (v rfl)))) trivial λ Ëe=>(Ûw (en:=nB) (eb:=(n2 nS nS)) (kvs:=ÖA) rfl (pe (en:=nB) (p2 rfl (pb (Óv (en:=(n2 nS nI)) Ëe) (Ŀ (v rfl) psN)) Ty.c)) (pe (en:=(n2 nS nS)) (tu (Ŀ (v rfl) (Ŀ (v rfl) psN)) rfl)) trivial λ ÑZ=>(Çc (ÇT (tBm (ca (am (ea:=nB) (me (v rfl) (ÅG _) (ac (v rfl) (ac (v rfl) (an (ÅH Å1 ÎS Ëd))))) λ Ñ0=>(ac (p2 rfl (pb (Óv (en:=(n2 nS nI)) Ëe) (Ŀ (v rfl) psN)) Ty.c) (an (Ìf ËW 4 nB Ñ0 (decide ((Ëe.length:Int)=(0:Int)))))))))) (ÈD (pe (en:=nB) Ty.c)) (Åw (a:=ÑZ) (.sk (.sk (.eq (.eq (.sk (.eq (.eq (.sk (.eq (.eq (.sk (.sk (.sk (.sk (.sk (.sk (.sk (.sk (.sk (.sk .nil))))))))))))))))))))))))) (λ ÖG=>(Åw (a:=ÖG) (.sk (.sk (.eq (.eq (.sk (.eq (.eq (.sk (.eq (.sk (.sk (.sk (.sk (.sk (.sk (.sk (.sk (.sk (.sk (.sk .nil))))))))))))))))))))))))) (λ Ï7=>(Ìe (E:=(λ (st:Unit)=>[none,none,none,some (nBk Å1),none,some ((nL nS) ÀD),none,none,some ((nDn nB) Ï7),none,none,none,none,none,none,none,none,none,none,none])) (l:=(λ Ëf=>[(10,nS Ëf)])) (en:=nS) (st0:=()) (ieL (v rfl)) (λ _ _=>rfl) (.sk (.sk (.sk (.eq (.sk (.eq (.sk (.sk (.eq (.sk (.sk (.sk (.sk (.sk (.sk (.sk (.sk (.sk (.sk (.sk .nil)))))))))))))))))))) (λ _=>trivial) (λ _ _=>trivial) (λ äD Ëf=>(ÃZ (Ûj (E:=(λ (st:Unit)=>[none,none,none,some (nBk Å1),none,some ((nL nS) ÀD),none,none,some ((nDn nB) Ï7),none,some (nS Ëf),none,none,none,none,none,none,none,none,none])) (l:=(λ Ìt=>[(14,nS Ìt)])) (en:=nS) (st0:=()) (ieL (v rfl)) (λ _ _=>rfl) (.sk (.sk (.sk (.eq (.sk (.eq (.sk (.sk (.eq (.sk (.eq (.sk (.sk (.sk (.sk (.sk (.sk (.sk (.sk (.sk .nil)))))))))))))))))))) (λ _=>trivial) (λ _ _=>trivial) (λ äE Ìt=>(Êu (w:=nN ()) Ty.c trivial (join (E:=(λ (st:(Option Str))=>[none,none,none,some (nBk Å1),none,some ((nL nS) ÀD),none,none,some ((nDn nB) Ï7),none,some (nS Ëf),none,none,none,some (nS Ìt),none,some ((nO nS) st),none,none,none])) (λ _=>trivial) (Çc (tVm (b:=λ x=>x) (ngD (en:=nB) (eb:=(n2 nS nS)) (kvs:=Ï7) rfl (pe (en:=(n2 nS nS)) (tu (Ŀ (v rfl) (Ŀ (v rfl) psN)) rfl))) (λ _=>rfl)) (ÃZ (Êu (w:=nS Ëf) (v rfl) trivial (Èb (a:=(some Ëf)) (.sk (.sk (.sk (.eq (.sk (.eq (.sk (.sk (.eq (.sk (.eq (.sk (.sk (.sk (.eq (.sk (.eq (.sk (.sk (.sk .nil))))))))))))))))))))))) (Çc (tVm (b:=λ x=>x) (ngD (en:=nB) (eb:=(n2 nS nS)) (kvs:=Ï7) rfl (pe (en:=(n2 nS nS)) (tu (Ŀ (v rfl) (Ŀ (v rfl) psN)) rfl))) (λ _=>rfl)) (ÃZ (Êu (w:=nS Ìt) (v rfl) trivial (Èb (a:=(some Ìt)) (.sk (.sk (.sk (.eq (.sk (.eq (.sk (.sk (.eq (.sk (.eq (.sk (.sk (.sk (.eq (.sk (.eq (.sk (.sk (.sk .nil))))))))))))))))))))))) (Èb (a:=none) (.sk (.sk (.sk (.eq (.sk (.eq (.sk (.sk (.eq (.sk (.eq (.sk (.sk (.sk (.eq (.sk (.eq (.sk (.sk (.sk .nil))))))))))))))))))))))) λ ÖH=>(Çc (ÇT (tBm (ca (am (ea:=(nO nS)) (me (v rfl) (Ëo _) (ac (v rfl) (ac (v rfl) (an (Ëp Å1 Ëf Ìt))))) λ ÖI=>(ac (v rfl) (an (Ìf ËW 4 (nO nS) ÖI ÖH))))))) (ÈD (pe (en:=nB) Ty.c)) (Åw (a:=()) (.sk (.sk (.sk (.eq (.sk (.eq (.sk (.sk (.eq (.sk (.eq (.sk (.sk (.sk (.sk (.sk (.sk (.sk (.sk (.sk .nil))))))))))))))))))))))))) (λ äF=>(Åw (a:=()) (.sk (.sk (.sk (.eq (.sk (.eq (.sk (.sk (.eq (.sk (.sk (.sk (.sk (.sk (.sk (.sk (.sk (.sk (.sk (.sk .nil))))))))))))))))))))))))) (λ äG=>(Òt (E:=(λ (st:Unit)=>[none,none,none,some (nBk Å1),none,some ((nL nS) ÀD),none,none,none,none,none,none,none,none,none,none,none,none,none,none])) (l:=(λ Ñ1=>[(11,nS Ñ1)])) (en:=nS) (st0:=()) (ÑF (cli (ac Ty.c (am (ea:=nS) (o2 (am (ea:=nS) (o2 (ac (v rfl) (ac Ty.c (an (ÊJ (en:=nS) ÀD (0:Int)))))) λ ÖJ=>(ac Ty.c (an (Òx ÖJ (Str.ofString "m")))))) λ ÖK=>(am (ea:=nS) (o2 (am (ea:=nS) (ãq (o2 (ac (v rfl) (ac (p2 rfl (pb (Óv (en:=nS) ÀD) (Ŀ (v rfl) psN)) Ty.c) (an (ÊJ (en:=nS) ÀD ((ÀD.length:Int)-(1:Int))))))) (oPm (oS Ty.c)) (oPm oN)) λ ÖL=>(ac Ty.c (an (Òx ÖL (Str.ofString "q")))))) λ ÖM=>(an (fbt (en:=(nL nS)) (z:=[(Str.ofString "zzzzzzzz"),ÖK,ÖM]) (Ót rfl)))))))) (λ _ _=>rfl) (.sk (.sk (.sk (.eq (.sk (.eq (.sk (.sk (.sk (.sk (.sk (.sk (.sk (.sk (.sk (.sk (.sk (.sk (.sk (.sk .nil)))))))))))))))))))) (λ _=>trivial) (λ _ _=>trivial) (λ äH Ñ1=>(Çc (âf (qt (qB (p2 (Þa (en:=nS) Ñ1 ÀD) (v rfl) (v rfl)))) (ÇT (tBm (ca (ac (v rfl) (am (ea:=(n2 nS nI)) (ctu (am (ea:=nS) (o2 (ac (v rfl) (ac (p2 rfl (pb (Óv (en:=nS) ÀD) (Ŀ (v rfl) psN)) Ty.c) (an (ÊJ (en:=nS) ÀD ((ÀD.length:Int)-(1:Int))))))) λ ÖN=>(ac Ty.c (an (fbt (en:=(n2 nS nI)) (z:=(ÖN,(0:Int))) (ÍH rfl)))))) λ ÖO=>(ac (v rfl) (an (ÒT Å1 ÖO Ñ1))))))))) (ÈD (pe (en:=nB) Ty.c)) (Åw (a:=()) (.sk (.sk (.sk (.eq (.sk (.eq (.sk (.sk (.sk (.sk (.sk (.sk (.sk (.sk (.sk (.sk (.sk (.sk (.sk (.sk .nil))))))))))))))))))))))) (λ äI=>(ÄM (pe (en:=nB) Ty.c))))))))))))))))))
end ť
namespace ť
open PySem Pu Ty Ãy
section
variable{bs:List Row}{r e:Row}{n:Str}{v:Str×Int}{k:Option Str}
theorem Á9 (g:GoodR bs) (h:r∈bs):Ĉ (Ť bs) r.name=rt r.name:=by
 unfold Ĉ
 show (if (!Æo (rws bs) r.name)=true then _ else _)=_
 rw[ØZ g h]
 rfl
theorem ËP (h:∀ r∈bs,r.name≠n):Ĉ (Ť bs) n=ÄD (Str.ofString "UnknownName"):=by
 unfold Ĉ
 show (if (!Æo (rws bs) n)=true then _ else _)=_
 rw[Óx h]
 rfl
theorem Ï8 (g:GoodR bs) (h:r∈bs):ş (Ť bs) r.name=rt r.parent:=by
 unfold ş
 rw[Á9 g h]
 show bd (Íd (rws bs) r.name) _=_
 rw[Óy g h]
 rfl
theorem Ýo (g:GoodR bs) (h:r∈bs):ÄI (Ť bs) r.name=rt r.leads:=by
 unfold ÄI
 rw[Á9 g h]
 show bd (Íd (rws bs) r.name) _=_
 rw[Óy g h]
 rfl
theorem Ýp (g:GoodR bs) (h:r∈bs) (hb:bs.length≤100):Is (Âo (Ť bs) r.name) (chain bs r.name):=by
 unfold Âo
 rw[Á9 g h,Ï8 g h]
 simp only[ä]
 refine Al.bd (P:=(·= chain bs r.name)) (Al.whT (I:=λ m st=>st.1++ÆE bs st.2=chain bs r.name∧(∀x,st.2=some x→∃ q∈bs,q.name=x)∧(ÆE bs st.2).length≤m) (Q:=λ st=>st.1=chain bs r.name) (λ m st hi=>?_) 100000 (chain bs r.name).length ([r.name],r.parent) ?_ ?_) λ st hst=>Al.rt hst
 ·obtain ⟨h1,h2,h3⟩:=hi
  obtain ⟨acc,p⟩:=st
  cases p with
  |none=>
   refine Al.rt ?_
   simp only[Option.isSome_none,Bool.false_eq_true,if_false]
   simpa[ÆE] using h1
  |some x=>
   obtain ⟨q,hq,rfl⟩:=h2 x rfl
   have ce:=ÊO g hq
   refine Al.rt ?_
   simp only[Option.isSome_some,if_true]
   have hl:(ÆE bs (some q.name)).length=1+(ÆE bs q.parent).length:=by
    show (chain bs q.name).length=_
    rw[ce];simp;omega
   simp only at h1 h3
   refine ⟨m-1,by omega,?_⟩
   show Al (bd (rt q.name) _) _
   rw[ä]
   have hacc:acc.length<16777216:=by
    have:=congrArg List.length h1
    have:=ÈW (bs:=bs) (n:=r.name)
    simp at*
    omega
   rw[ÒE hacc,ä,Ï8 g hq,ä]
   refine Al.rt ⟨?_,?_,?_⟩
   ·show (acc++[q.name])++ÆE bs q.parent=_
    rw[←h1]
    show _=acc++chain bs q.name
    rw[ce];simp
   ·intro x hx
    obtain ⟨e,h4,h5,_⟩:=É3 g hq hx
    exact ⟨e,h4,h5⟩
   ·show (ÆE bs q.parent).length≤m-1
    omega
 ·have:=ÈW (bs:=bs) (n:=r.name)
  omega
 ·have ce:=ÊO g h
  refine ⟨by show [r.name]++ÆE bs r.parent=_;rw[ce];rfl,λ x hx=>?_,?_⟩
  ·obtain ⟨e,h4,h5,_⟩:=É3 g h hx
   exact ⟨e,h4,h5⟩
  ·show (ÆE bs r.parent).length≤_
   rw[ce];simp
theorem ÒV (g:GoodR bs) (hb:bs.length≤100) (hv:Mb bs v) (hk:told bs k):Is (Ć (Ť bs) v (ò k)) (ledK bs v k):=by
 unfold Ć
 obtain ⟨r,hr,hn,h0,h1⟩:=id hv
 rw[ä,←hn,Á9 g hr,ä]
 cases k with
 |none=>exact Al.pos (by simp[ÏS]) (Al.rt (by show some (r.name,v.2)=some v;rw[hn]))
 |some x=>
  obtain ⟨e,he,rfl⟩:=hk x rfl
  have hq:=Él g he
  refine Al.neg (by simp[ÈY,hq]) ?_
  rw[ÈY,Á9 g he,ä]
  refine Al.bR (I:=λ st=>some st=ledK bs v (some e.name)) (R:=λ o=>o=ledK bs v (some e.name)) (Al.whX (I:=λ m st=>Mb bs st∧led bs st.1 st.2 e.name=led bs v.1 v.2 e.name∧(chain bs st.1).length≤m) (λ m st hi=>?_) 100000 (chain bs r.name).length (r.name,v.2) ?_ ?_) (λ st hst=>Al.rt hst) λ o ho=>ho
  ·obtain ⟨h2,h3,h4⟩:=hi
   obtain ⟨q,hq1,hq2,hq3,hq4⟩:=id h2
   have le:=ÒG (k:=e.name) (i:=st.2) g hq1
   rw[hq2] at le
   refine Al.rt ?_
   by_cases c:st.1=e.name
   ·have:(!decide (st.1=e.name))=false:=by simp[c]
    rw[this,if_neg (by simp)]
    rw[if_pos c] at le
    show some st=led bs v.1 v.2 e.name
    rw[←h3,le]
   ·have:(!decide (st.1=e.name))=true:=by simp[c]
    rw[this,if_pos rfl]
    rw[if_neg c] at le
    have ce:=ÊO g hq1
    rw[hq2] at ce
    refine ⟨m-1,by rw[ce] at h4;simp at h4;omega,?_⟩
    rw[←hq2,Ï8 g hq1,ä]
    cases hp:q.parent with
    |none=>
     rw[hp] at le
     exact Al.rt (show none=led bs v.1 v.2 e.name by rw[←h3,le])
    |some p=>
     rw[hp] at le ce
     obtain ⟨a,a1,a2,a3,a4⟩:=É3 g hq1 hp
     obtain ⟨l,l1,l2⟩:=Îz a3 hq3 hq4
     obtain ⟨b0,b1⟩:=a4 l l1
     simp only[l2] at le
     rw[ÈV,Ýo g hq1,ä]
     have hx:ixT q.leads st.2=rt l:=by unfold ixT;rw[l2];rfl
     rw[hx]
     refine Al.rt ⟨⟨a,a1,a2,b0,b1⟩,?_,?_⟩
     ·rw[←h3,le]
     ·show (chain bs p).length≤m-1
      rw[ce] at h4
      have:(ÆE bs (some p)).length=(chain bs p).length:=rfl
      simp at h4
      omega
  ·have:=ÈW (bs:=bs) (n:=r.name)
   omega
  ·refine ⟨⟨r,hr,rfl,h0,h1⟩,?_,Nat.le_refl _⟩
   show led bs r.name v.2 e.name=_
   rw[hn]
theorem Ï9 (xs:List Str) (x:Str):xs.contains x=decide (x∈xs):=by
 by_cases h:x∈xs<;>simp[h]
theorem Ôe (g:GoodR bs) (hb:bs.length≤100) (he:e∈bs) (hq:e.name≠Str.ofString "?") {ls:List Row} (hl:∀ q∈ls,q∈bs):Is (bR (ţ (λ (s:Unit) (a:Str)=>bd (bd (Âo (Ť bs) a) λ v=>rt (!v.contains e.name)) λ v=>if v=true then (bd (rt false) λ v=>rt (Esc.rt v)) else rt (Esc.nx ())) (ls.map Row.name) ()) λ _=>rt true) (decide (∀q∈ls,e.name∈chain bs q.name)):=by
 refine Al.bR (I:=λ _=>∀ q∈ls,e.name∈chain bs q.name) (R:=λ b=>b=false∧¬∀ q∈ls,e.name∈chain bs q.name) (Al.mono (Al.ţ (I:=λ pre _=>∀ q∈ls,q.name∈pre→e.name∈chain bs q.name) (R:=λ b=>b=false∧¬∀ q∈ls,e.name∈chain bs q.name) (λ q _ h=>by cases h) λ pre x suf st ex hi=>?_) λ r hr=>?_) (λ _ h=>Al.rt (decide_eq_true h).symm) λ b hb=>by rw[hb.1,decide_eq_false hb.2]
 rotate_left
 ·cases r with
  |nx a=>exact λ q hq=>hr q hq (List.mem_map_of_mem hq)
  |rt b=>exact hr
 have hx:x∈ls.map Row.name:=by rw[ex];simp
 obtain ⟨q,hq1,rfl⟩:=List.mem_map.mp hx
 refine Is.bd (Is.bd (Ýp g (hl q hq1) hb) Is.rt) ?_
 rw[Ï9]
 by_cases c:e.name∈chain bs q.name
 ·refine Al.neg (by simp[c]) (Al.rt λ q' h1 h2=>?_)
  rcases List.mem_append.mp h2 with h2|h2
  ·exact hi q' h1 h2
  ·simp at h2
   rw[h2];exact c
 ·exact Al.pos (by simp[c]) (Al.rt ⟨rfl,λ z=>c (z q hq1)⟩)
theorem Ýq (g:GoodR bs) (hb:bs.length≤100) (hr:r∈bs) (he:e∈bs):Is (ó (Ť bs) r.name e.name) (decide (e.name∈chain bs r.name)):=by
 unfold ó
 have h1:=Él g hr
 have h2:=Él g he
 refine Is.bd (b:=[r.name]) (Al.pos (by simp[h1]) (by rw[Á9 g hr];exact Is.rt)) ?_
 refine Al.neg (by simp[h2]) ?_
 rw[Á9 g he,ä]
 have:=Ôe (ls:=[r]) g hb he h2 (λ q hq=>by simp at hq;rw[hq];exact hr)
 simpa using this
theorem Ýr (g:GoodR bs) (hb:bs.length≤100) (he:e∈bs):Is (ó (Ť bs) (Str.ofString "?") e.name) (decide (∀q∈bs,e.name∈chain bs q.name)):=by
 unfold ó
 have h2:=Él g he
 refine Is.bd (b:=(Ť bs).names) (Al.neg (by simp) Is.rt) ?_
 refine Al.neg (by simp[h2]) ?_
 rw[Á9 g he,ä]
 have:=Ôe (ls:=bs.reverse) g hb he h2 (λ q hq=>by simpa using hq)
 have e1:(Ť bs).names=bs.reverse.map Row.name:=by
  show (rws bs).map Prod.fst=_
  unfold rws
  rw[List.map_map]
  rfl
 rw[e1]
 simpa using this
end
end ť
namespace ť
open PySem Pu Ty Ãy
section
variable{bs:List Row}{r e:Row}{n:Str}{v:Str×Int}{k:Option Str}{ks:List (Option Str)}
theorem ßi (g:GoodR bs) (hr:r∈bs):Is (ËO (rws bs) r.name) (Ty.Çb r):=by
 unfold ËO
 refine Al.bR (I:=λ _=>False) (R:=λ q=>q=Ty.Çb r) (Al.mono (Al.ţ (I:=λ pre _=>Ty.Çb r∉pre) (R:=λ q=>q=Ty.Çb r) (λ h=>by cases h) λ pre x suf st ex hi=>?_) λ q hq=>?_) (λ _ h=>h.elim) λ q h=>h
 ·have hx:x∈rws bs:=by rw[ex];simp
  obtain ⟨q,hq,rfl⟩:=List.mem_map.mp hx
  have hqb:q∈bs:=by simpa using hq
  by_cases c:q.name=r.name
  ·have:q=r:=ÑJ g hqb hr c
   exact Al.pos (by simp[Ty.Çb,c]) (Al.rt (by rw[this];rfl))
  ·refine Al.neg (by simp[Ty.Çb,c]) (Al.rt λ z=>?_)
   rcases List.mem_append.mp z with z|z
   ·exact hi z
   ·simp[Ty.Çb] at z
    exact c z.1.symm
 ·cases q with
  |nx a=>exact (hq (List.mem_map_of_mem (by simpa using hr))).elim
  |rt q=>exact hq
theorem ßj (r:Row) (h:0≤r.size):(ŭ 0 r.size.toNat).map (λ a=>(r.name,a))=Ìg r:=by
 unfold ŭ Ìg
 rw[List.map_map]
 rfl
theorem Øg (g:GoodR bs) (hk:told bs k) (hr:r∈bs):((decide (ò k=(Str.ofString "?")))||(decide (ò k=r.name)))=É6 k r:=by
 cases k with
 |none=>simp[ÏS,É6]
 |some x=>
  obtain ⟨e,he,rfl⟩:=hk x rfl
  have:=Él g he
  by_cases c:e.name=r.name
  ·simp[ÈY,É6,this,c]
  ·have c2:¬r.name=e.name:=λ z=>c z.symm
   simp[ÈY,É6,this,c,c2]
theorem Ñj (g:GoodR bs) (hk:told bs k) (hb:bs.length≤100):Is (ÁG (rws bs) (ò k)) (membersOf bs k):=by
 unfold ÁG
 have key:∀ (ls:List Row),(∀q∈ls,q∈bs)→∀ acc:List (Str×Int),acc.length+4*ls.length≤1000000→Is (Ã0 (λ (s:List (Str×Int)) (a:Str×Int×Option Str×List Int)=>(if ((decide (ò k=(Str.ofString "?")))||(decide (ò k=a.1)))=true then (bd (bd (bd (rgT a.2.1) λ ys=>szM ys.length (ys.map λ b=>(a.1,b))) λ v=>(adL s v)) λ v=>(rt v)) else (rt s))) (ls.map Ty.Çb) acc) (acc++(ls.filter (É6 k)).flatMap Ìg):=by
  intro ls
  induction ls with
  |nil=>intro _ acc _;exact Al.rt (by simp)
  |cons q ls ih=>
   intro hq acc hl
   have hqb:=hq q (by simp)
   have hs:=(É4 g hqb).2
   have hf:=Øg g hk hqb
   have hm:=ÕR g hqb
   show Al (bd _ _) _
   by_cases c:É6 k q=true
   ·rw[List.filter_cons_of_pos c,List.flatMap_cons,←List.append_assoc]
    refine Is.bd (b:=acc++Ìg q) (Al.pos (by show (_||decide (ò k=q.name))=true;rw[hf];exact c) ?_) (ih (λ x hx=>hq x (by simp[hx])) _ (by simp at hl ⊢;omega))
    show Al (bd (bd (bd (rgT q.size) _) _) _) _
    rw[ÙZ (by omega) (by omega),ä,ÕN (by rw[Àt];omega),ä]
    show Al (bd (adL acc ((ŭ 0 q.size.toNat).map λ b=>(q.name,b))) _) _
    rw[ßj q (by omega),ÒF (by simp at hl;omega)]
    exact Is.rt
   ·rw[List.filter_cons_of_neg c]
    refine Is.bd (b:=acc) (Al.neg (by show ¬(_||decide (ò k=q.name))=true;rw[hf];exact c) Is.rt) (ih (λ x hx=>hq x (by simp[hx])) _ (by simp at hl;omega))
 have:=key bs.reverse (λ q hq=>by simpa using hq) [] (by simp;omega)
 refine Is.bd this (Al.rt ?_)
 show []++_=membersOf bs k
 unfold membersOf
 rw[Ù0]
 rfl
theorem ßk (g:GoodR bs) (hb:bs.length≤100) (hv:Mb bs v) (hk:told bs k):Is (ÇY (rws bs) v (ò k)) (ledK bs v k):=by
 unfold ÇY
 cases k with
 |none=>exact Al.pos (by simp[ÏS]) Is.rt
 |some x=>
  obtain ⟨e,he,rfl⟩:=hk x rfl
  refine Al.neg (by simp[ÈY,Él g he]) ?_
  rw[ÈX,Ût (by omega),ä,ÈY]
  refine Al.bd (Al.Ã0 (I:=λ pre st=>(∀u,st=some u→Mb bs u∧led bs u.1 u.2 e.name=led bs v.1 v.2 e.name∧(u.1=e.name∨(chain bs u.1).length+pre.length≤bs.length))∧(st=none→led bs v.1 v.2 e.name=none)) ?_ λ pre x suf st ex hi=>?_) λ st hst=>Al.rt ?_
  ·refine ⟨λ u hu=>?_,λ z=>by cases z⟩
   cases hu
   have:=ÈW (bs:=bs) (n:=v.1)
   exact ⟨hv,rfl,.inr (by simpa using this)⟩
  ·obtain ⟨h1,h2⟩:=hi
   cases st with
   |none=>exact Al.rt ⟨(λ u hu=>by cases hu),h2⟩
   |some u=>
    obtain ⟨h3,h4,h5⟩:=h1 u rfl
    rw[ÈV]
    by_cases c:u.1=e.name
    ·exact Al.neg (by simp[c]) (Al.rt ⟨λ w hw=>(by cases hw;exact ⟨h3,h4,.inl c⟩),λ z=>by cases z⟩)
    ·refine Al.pos (by simp[c]) ?_
     obtain ⟨q,q1,q2,q3,q4⟩:=id h3
     have le:=ÒG (k:=e.name) (i:=u.2) g q1
     rw[q2,if_neg c] at le
     have ce:=ÊO g q1
     rw[q2] at ce
     rw[←q2]
     refine Is.bd (ßi g q1) ?_
     show Al (Ê8 q.parent _ _) _
     cases hp:q.parent with
     |none=>
      rw[hp] at le
      exact Al.rt ⟨(λ w hw=>by cases hw),λ _=>by rw[←h4,le]⟩
     |some p=>
      rw[hp] at le ce
      obtain ⟨a,a1,a2,a3,a4⟩:=É3 g q1 hp
      obtain ⟨l,l1,l2⟩:=Îz a3 q3 q4
      obtain ⟨b0,b1⟩:=a4 l l1
      simp only[l2] at le
      rw[ÈV]
      have hx:ixT q.leads u.2=rt l:=by unfold ixT;rw[l2];rfl
      show Al (bd (bd (ixT q.leads u.2) _) _) _
      rw[hx]
      refine Al.rt ⟨λ w hw=>?_,λ z=>by cases z⟩
      cases hw
      refine ⟨⟨a,a1,a2,b0,b1⟩,by rw[←h4,le],.inr ?_⟩
      show (chain bs p).length+(pre++[x]).length≤bs.length
      rcases h5 with h5|h5
      ·exact (c h5).elim
      ·rw[ce] at h5
       have:(ÆE bs (some p)).length=(chain bs p).length:=rfl
       simp at h5 ⊢
       omega
  ·obtain ⟨h1,h2⟩:=hst
   cases st with
   |none=>exact (h2 rfl).symm
   |some u=>
    obtain ⟨h3,h4,h5⟩:=h1 u rfl
    have hu:u.1=e.name:=by
     rcases h5 with h5|h5
     ·exact h5
     ·rw[Àt] at h5
      obtain ⟨q,q1,q2,_⟩:=h3
      have ce:=ÊO g q1
      rw[q2] at ce
      rw[ce] at h5
      simp at h5
      omega
    show some u=led bs v.1 v.2 e.name
    rw[←h4]
    obtain ⟨q,q1,q2,_⟩:=h3
    have le:=ÒG (k:=e.name) (i:=u.2) g q1
    rw[q2,if_pos hu] at le
    rw[le]
end
end ť
namespace ť
open PySem Pu Ty Ãy
section
variable{bs:List Row}{r e:Row}{n:Str}
theorem ÖP {a b c d:Int}:Al (Èo [a,b,c,d]) λ x=>x=a∨x=b∨x=c∨x=d:=by
 unfold Èo
 refine Al.mono (Þ8 (xs:=[a,b,c,d]) (by simp)) λ x hx=>?_
 simpa using hx
theorem Þs {a:Int} (h0:0≤a) (h1:a<4):muS (Str.ofString "m") a=rt (Fr.ÀT (Str.ofString "m") a.toNat):=by
 unfold muS
 rw[if_pos ⟨h0,by omega,by decide,by decide⟩]
theorem ÓL (a:Nat):(Fr.ÀT (Str.ofString "m") a).length=a:=by rw[str_len,ÎC];simp
theorem Ùi (c:Nat):(⟨#[c]⟩:Str).length=1:=rfl
theorem ßl (x y:Str):(x++y).length=x.length+y.length:=by rw[str_len,str_len,str_len,ÐX];simp
theorem Ýs (m:Nat) (hm:m≤8):Al (Éw (m:Int)) λ ns=>ns.length=m∧(∀x∈ns,ÊN x)∧ns.Nodup∧∀ x∈ns,x.length≤7:=by
 unfold Éw
 refine Al.bd (É1 (by decide)) λ st hst=>?_
 refine Al.bd ÖP λ step hstep=>?_
 refine Al.bd (R:=λ x=>∃ a:Nat,a≤3∧x=Fr.ÀT (Str.ofString "m") a) (Al.bd (É1 (by decide)) λ a ha=>by rw[Þs ha.1 ha.2];exact Al.rt ⟨a.toNat,by omega,rfl⟩) λ x hx=>?_
 refine Al.bd (R:=λ x=>∃ a:Nat,a≤3∧x=Fr.ÀT (Str.ofString "m") a) (Al.bd (É1 (by decide)) λ a ha=>by rw[Þs ha.1 ha.2];exact Al.rt ⟨a.toNat,by omega,rfl⟩) λ y hy=>?_
 obtain ⟨a,ha,rfl⟩:=hx
 obtain ⟨b,hb,rfl⟩:=hy
 rw[Ût (by omega),ä]
 refine Al.bd (Al.Ã0 (I:=λ pre acc=>acc=pre.map λ j=>nm a b (ÇA st step j)) rfl λ pre x suf acc ex hi=>?_) λ ns hns=>Al.rt ?_
 ·obtain ⟨hx,hl⟩:=ÕO ex
  subst hi
  have h1:muI x step=rt (x*step):=by
   unfold muI
   rw[if_pos (by rw[ÏQ (j:=x) (by omega)];rfl)]
  have h2:ixS (Str.ofString "abcdefghijklmnopqrstuvwxyz") ((st+x*step).fmod 26)=rt (⟨#[ÇA st step x]⟩:Str):=by
   unfold ixS
   rw[if_pos (by decide)]
   have f0:0≤(st+x*step).fmod 26:=Int.fmod_nonneg_of_pos _ (by decide)
   have f1:(st+x*step).fmod 26<26:=Int.fmod_lt_of_pos _ (by decide)
   have e:(st+x*step).fmod 26=(((st+x*step).fmod 26).toNat:Int):=by omega
   rw[e,à8 _ (by omega)]
   rfl
  rw[h1]
  simp only[ä]
  rw[h2]
  simp only[ä]
  rw[ÔM (by rw[ÓL,Ùi];omega),ä,ÔM (by rw[ßl,ÓL,Ùi,ÓL];omega),ä,ÒE (by simp;omega),ä]
  refine Al.rt ?_
  rw[List.map_append]
  rfl
 ·subst hns
  refine ⟨by simp[Àt],λ x hx=>?_,?_,λ x hx=>?_⟩
  ·obtain ⟨j,_,rfl⟩:=List.mem_map.mp hx
   exact ân ha hb (Ûu st step j)
  ·rw[List.nodup_iff_pairwise_ne,List.pairwise_map]
   have hp:(ŭ 0 m).Pairwise (·< ·):=by
    unfold ŭ
    rw[List.pairwise_map]
    exact List.Pairwise.imp (λ h=>by omega) List.pairwise_lt_range
   refine List.Pairwise.imp_of_mem (λ {i j} hi hj hij z=>?_) hp
   have h1:=ÈF.mp hi
   have h2:=ÈF.mp hj
   have:=Ù1 hstep (by omega) (by omega) (by omega) (by omega) (à7 z)
   omega
  ·obtain ⟨j,_,rfl⟩:=List.mem_map.mp hx
   rw[ÕU]
   omega
theorem Ñ2 (r:Row) (bs:List Row):rws (r::bs)=rws bs++[Ty.Çb r]:=by simp[rws]
theorem ßm {j:Nat} {x:Str×Int×Option Str×List Int} (h:(rws bs)[j]?=some x):∃ q∈bs,x=Ty.Çb q:=by
 have:=List.mem_of_getElem? h
 obtain ⟨q,hq,rfl⟩:=List.mem_map.mp this
 exact ⟨q,by simpa using hq,rfl⟩
theorem Ôf {ns:List Str} (hns:ns.Nodup) (hok:∀ x∈ns,ÊN x) (hbs:bs.map Row.name=(ns.take bs.length).reverse) (hlt:bs.length<ns.length) {size:Int} (h1:1≤size) (h4:size≤4) {parent:Option Str} {leads:List Int}
  (h0:parent=none→leads=[]) (hp:∀ p,parent=some p→∃ q∈bs,q.name=p∧(leads.length:Int)=size∧∀ l∈leads,0≤l∧l<q.size):
  Ów bs ⟨ns[bs.length],size,parent,leads⟩∧(⟨ns[bs.length],size,parent,leads⟩::bs:List Row).map Row.name=(ns.take (bs.length+1)).reverse:=by
 refine ⟨⟨hok _ (List.getElem_mem hlt),λ q hq z=>?_,h1,h4,h0,hp⟩,?_⟩
 ·have hm:q.name∈bs.map Row.name:=List.mem_map_of_mem hq
  rw[hbs,List.mem_reverse] at hm
  obtain ⟨i,hi,e⟩:=List.getElem_of_mem hm
  have hi':i<bs.length:=by simp at hi;omega
  have e2:ns[i]=ns[bs.length]:=by
   rw[List.getElem_take] at e
   exact e.trans z
  have:=(List.getElem_inj hns).mp e2
  omega
 ·have e2:ns.take (bs.length+1)=ns.take bs.length++[ns[bs.length]]:=by rw[List.take_add_one,List.getElem?_eq_getElem hlt];rfl
  rw[List.map_cons,hbs,e2,List.reverse_append]
  rfl
theorem ßn (m:Nat) (hm:m≤8) (h1:1≤m):Al (Êy (m:Int)) λ rows=>∃ bs,rows=rws bs∧GoodR bs∧1≤bs.length∧bs.length≤m∧∀ r∈bs,r.name.length≤7:=by
 unfold Êy
 refine Al.bd (Ýs m hm) λ ns hns=>?_
 obtain ⟨hl,hok,hnd,h7⟩:=hns
 refine Al.bd (R:=λ ys=>∃ c:Nat,ys=ŭ 0 c∧1≤c∧c≤m) ?_ λ ys hys=>?_
 ·refine Al.bd (R:=λ x=>1≤x∧x≤(m:Int)) ?_ λ x hx=>?_
  ·refine Al.bd (R:=λ x=>0≤x∧x<(m:Int)) ?_ λ x hx=>Al.rt (by omega)
   refine Al.bd (Al.bd (Al.bd (É1 (by omega)) λ d hd=>Al.rt (P:=λ _=>True) trivial) λ d hd=>Al.rt (P:=λ _=>True) trivial) λ d hd=>?_
   unfold mdI
   rw[if_pos (by omega)]
   exact Al.rt ⟨Int.fmod_nonneg_of_pos _ (by omega),Int.fmod_lt_of_pos _ (by omega)⟩
  ·rw[ÙZ (by omega) (by omega)]
   exact Al.rt ⟨x.toNat,rfl,by omega,by omega⟩
 ·obtain ⟨c,rfl,hc1,hc2⟩:=hys
  refine Al.bd (Al.Ã0 (I:=λ pre rows=>∃ bs,rows=rws bs∧GoodR bs∧bs.map Row.name=(ns.take bs.length).reverse∧bs.length=pre.length) ⟨[],rfl,trivial,rfl,rfl⟩ λ pre x suf rows ex hi=>?_) λ rows hrows=>Al.rt ?_
  ·obtain ⟨bs,rfl,g,hbs,hbl⟩:=hi
   obtain ⟨hx,hpl⟩:=ÕO ex
   have hlt:bs.length<ns.length:=by omega
   have hxe:x=(bs.length:Int):=by omega
   refine Al.bd ÖP λ size hsize=>?_
   have hs1:1≤size:=by omega
   have hs4:size≤4:=by omega
   refine Al.bd (É1 (by omega)) λ at_ hat=>?_
   have hix:ixT ns x=rt ns[bs.length]:=by
    rw[hxe]
    exact Þc (List.getElem?_eq_getElem hlt)
   by_cases c0:at_=0
   ·refine Al.pos (by simp[c0]) ?_
    rw[hix]
    simp only[ä]
    rw[ÒE (by rw[ÈX];omega),ä]
    obtain ⟨q1,q2⟩:=Ôf hnd hok hbs hlt hs1 hs4 (parent:=none) (leads:=[]) (λ _=>rfl) (λ p hp=>by cases hp)
    exact Al.rt ⟨⟨ns[bs.length],size,none,[]⟩::bs,(Ñ2 ⟨ns[bs.length],size,none,[]⟩ bs).symm,⟨q1,g⟩,by simpa using q2,by simp[hbl]⟩
   ·refine Al.neg (by simp[c0]) ?_
    obtain ⟨y,hy,hyg,hyi⟩:=ÏR (xs:=rws bs) (i:=at_-1) (by omega) (by rw[ÈX];omega)
    rw[hyi,ä]
    obtain ⟨q,hq,rfl⟩:=ßm hyg
    have hqs:=(É4 g hq).2
    refine Al.bd (R:=λ ls=>(ls.length:Int)=size∧∀ l∈ls,0≤l∧l<q.size) ?_ λ ls hls=>?_
    ·rw[ÙZ (by omega) (by omega),ä]
     refine Al.mono (Al.lcD (Q:=λ _ l=>0≤l∧l<q.size) (by rw[Àt,ÒD];omega) λ y _=>É1 (by show 0<q.size;omega)) λ ls hls=>⟨?_,λ l hl=>?_⟩
     ·rw[hls.1,Àt];omega
     ·obtain ⟨_,_,z⟩:=hls.2 l hl
      exact z
    ·rw[hix]
     simp only[ä]
     rw[ÒE (by rw[ÈX];omega),ä]
     obtain ⟨q1,q2⟩:=Ôf hnd hok hbs hlt hs1 hs4 (parent:=some q.name) (leads:=ls) (λ z=>by cases z) (λ p hp=>by cases hp;exact ⟨q,hq,rfl,hls⟩)
     exact Al.rt ⟨⟨ns[bs.length],size,some q.name,ls⟩::bs,(Ñ2 ⟨ns[bs.length],size,some q.name,ls⟩ bs).symm,⟨q1,g⟩,by simpa using q2,by simp[hbl]⟩
  ·obtain ⟨bs,rfl,g,hbn,hbl⟩:=hrows
   rw[Àt] at hbl
   refine ⟨bs,rfl,g,by omega,by omega,λ r hr=>h7 _ ?_⟩
   have:r.name∈bs.map Row.name:=List.mem_map_of_mem hr
   rw[hbn,List.mem_reverse] at this
   exact List.mem_of_mem_take this
theorem Úh {c:Nat} (h:97≤c∧c≤122):Fr.Ê2 ⟨#[c]⟩ (Str.ofString "abcdefghijklmnopqrstuvwxyz")=true:=by
 have:∀ c:Fin 123,97≤c.val→Fr.Ê2 ⟨#[c.val]⟩ (Str.ofString "abcdefghijklmnopqrstuvwxyz")=true:=by decide +kernel
 exact this ⟨c,by omega⟩ h.1
theorem Úi (h:ÊN n):Is (Ì3 n) true:=by
 obtain ⟨h1,h2,h3⟩:=h
 unfold Ì3
 have hne:n≠Str.ofString "" :=by
  intro z
  rw[z] at h1
  exact absurd h1 (by decide)
 have hln:lnS n=rt (n.length:Int):=by
  unfold lnS
  rw[if_pos (by rw[ÒD];omega)]
 refine Is.bd (b:=false) ?_ ?_
 ·rw[ä]
  refine Al.neg (by simp[hne]) ?_
  rw[hln]
  exact Al.rt (by simp;omega)
 ·refine Al.neg (by simp) (Al.bR (Al.all (R:=λ _=>False) λ x hx=>?_) (λ _ _=>Is.rt) λ _ h=>h.elim)
  obtain ⟨c,hc,rfl⟩:=List.mem_map.mp hx
  exact Al.neg (by rw[Úh (h3 c hc)];simp) Is.rt
theorem Ôp (h:ÊN n):Is (Éx n) n:=by
 unfold Éx
 exact Is.bd (Is.bd (Úi h) Is.rt) (Al.neg (by simp) Is.rt)
theorem Ýt (g:GoodR bs) (h:Ów bs r):Is (ķ ⟨rws bs⟩ r.name r.size r.parent r.leads) ():=by
 unfold ķ
 refine Is.bd (Ôp h.nm) ?_
 refine Al.neg (by show ¬Æo (rws bs) r.name=true;rw[Óx h.ne];simp) ?_
 refine Al.neg (by have:=h.s1;have:=h.s4;simp;omega) ?_
 cases hp:r.parent with
 |none=>
  rw[ÏP]
  exact Al.neg (by rw[h.no hp];simp) Is.rt
 |some p=>
  obtain ⟨q,hq,rfl,h1,h2⟩:=h.pa p hp
  rw[ÈV]
  refine Al.neg (by show ¬(!Æo (rws bs) q.name)=true;rw[ØZ g hq];simp) ?_
  refine Al.neg (by simp[h1]) ?_
  refine Is.bd (Al.each λ l hl=>?_) Is.rt
  obtain ⟨l0,l1⟩:=h2 l hl
  refine Is.bd (b:=false) (Is.bd (b:=true) ?_ Is.rt) (Al.neg (by simp) Is.rt)
  simp only[ä]
  refine Al.pos (by simpa using l0) ?_
  show Al (bd (bd (Íd (rws bs) q.name) _) _) _
  rw[Óy g hq]
  exact Al.rt (by simpa using l1)
theorem ßo (h:∀ q∈bs,q.name≠r.name):putK (rws bs) r.name (r.size,r.parent,r.leads)=rws (r::bs):=by
 unfold putK
 rw[Óx h,Ñ2]
 rfl
theorem Ùj:∀ (td dn:List Row),GoodR (td.reverse++dn)→td.length+dn.length≤5→Is (ÒB ķ (td.map Ty.Çb) (rws dn)) (Ť (td.reverse++dn))
 | [],dn,_,_=>Is.rt
 |r::td,dn,g,hl=>by
  have e:(r::td).reverse++dn=td.reverse++(r::dn):=by simp
  rw[e] at g ⊢
  have gd:GoodR (r::dn):=ÕV g
  show Al (bd (ķ ⟨rws dn⟩ r.name r.size r.parent r.leads) _) _
  refine Is.bd (Ýt gd.2 gd.1) (Al.pos (by rw[ÈX,ÒD];simp at hl;omega) ?_)
  show Al (ÒB _ _ (putK (rws dn) r.name (r.size,r.parent,r.leads))) _
  rw[ßo gd.1.ne]
  exact Ùj td (r::dn) g (by simp at hl ⊢;omega)
theorem ÛJ (g:GoodR bs) (h1:1≤bs.length) (h5:bs.length≤5):Is ((newT ķ) (rws bs)) (Ť bs):=by
 unfold newT
 refine Al.neg (by rw[ÈX];omega) (Al.neg (by rw[ÈX];omega) ?_)
 have:=Ùj bs.reverse [] (by simpa using g) (by simp;omega)
 rw[List.reverse_reverse,List.append_nil] at this
 exact this
end
end ť
namespace ť
open PySem Pu Ty Ãy
section
variable{bs:List Row}{r e:Row}{v u x:Str×Int}{a b:Str}{lo up:Option Str}
theorem ßp (g:GoodR bs) (hv:Mb bs v) (h1:led bs v.1 v.2 a=some u) (h2:led bs u.1 u.2 b=some x):led bs v.1 v.2 b=some x:=by
 have hu:Mb bs u:=ØX (k:=some a) g hv h1
 have ha:a∈chain bs v.1:=by
  by_cases c:a∈chain bs v.1
  ·exact c
  ·rw[(Ém g hv).2 c] at h1;cases h1
 obtain ⟨u',e1,e2,_⟩:=(Ém g hv).1 ha
 rw[h1] at e1
 cases e1
 have hb:b∈chain bs u.1:=by
  by_cases c:b∈chain bs u.1
  ·exact c
  ·rw[(Ém g hu).2 c] at h2;cases h2
 rw[e2] at hb
 rw[←ßa g hv h1 hb]
 exact h2
def flR (r:Row):Row:=⟨r.name,r.size,none,[]⟩
theorem ÓM:∀ {bs:List Row},GoodR bs→GoodR (bs.map flR)
 | [],_=>trivial
 |r::qs,g=>by
  refine ⟨⟨g.1.nm,λ q hq=>?_,g.1.s1,g.1.s4,λ _=>rfl,λ p hp=>by cases hp⟩,ÓM g.2⟩
  obtain ⟨q',h1,rfl⟩:=List.mem_map.mp hq
  exact g.1.ne q' h1
theorem ÛK {n:Str} {i:Int} {k:Str}:∀ {bs:List Row},(∃r∈bs,r.name=n)→led (bs.map flR) n i k=if n=k then some (n,i) else none
 | [],h=>by obtain ⟨_,h,_⟩:=h;cases h
 |q::qs,h=>by
  show (if q.name=n then _ else _)=_
  by_cases c:q.name=n
  ·rw[if_pos c];rfl
  ·rw[if_neg c]
   obtain ⟨r,h1,h2⟩:=h
   rcases List.mem_cons.mp h1 with rfl|h1
   ·exact (c h2).elim
   ·exact ÛK ⟨r,h1,h2⟩
theorem áQ:(rws bs).map (λ y=>(y.1,y.2.1,(none:Option Str),([]:List Int)))=rws (bs.map flR):=by
 unfold rws
 rw[←List.map_reverse,List.map_map,List.map_map]
 rfl
theorem ây (h:Mb bs v):Mb (bs.map flR) v:=by
 obtain ⟨r,h1,h2,h3,h4⟩:=h
 exact ⟨flR r,List.mem_map_of_mem h1,h2,h3,h4⟩
theorem ßq (h:told bs lo):told (bs.map flR) lo:=λ x hx=>by
 obtain ⟨r,h1,h2⟩:=h x hx
 exact ⟨flR r,List.mem_map_of_mem h1,h2⟩
def blw (bs:List Row) (lo up:Option Str):Bool:=decide (∀v∈membersOf bs lo,(ledK bs v up).isSome=true)
theorem Ôg (g:GoodR bs) (hr:r∈bs):(r.name,(0:Int))∈membersOf bs (some r.name):=by
 have hs:=(É4 g hr).2
 unfold membersOf
 rw[ÕQ g hr]
 simp only[List.flatMap_cons,List.flatMap_nil,List.append_nil]
 exact ÎB.mpr ⟨rfl,Int.le_refl _,by show (0:Int)<r.size;omega⟩
theorem ÒW (g:GoodR bs) (hr:r∈bs):(r.name,(0:Int))∈membersOf bs none:=by
 have hs:=(É4 g hr).2
 unfold membersOf É5
 exact List.mem_flatMap.mpr ⟨r,by simpa using hr,ÎB.mpr ⟨rfl,Int.le_refl _,by show (0:Int)<r.size;omega⟩⟩
theorem ËQ (g:GoodR bs) (hv:Mb bs v):(led bs v.1 v.2 a).isSome=true↔a∈chain bs v.1:=by
 by_cases c:a∈chain bs v.1
 ·obtain ⟨u,e,_⟩:=(Ém g hv).1 c
  rw[e];simp[c]
 ·rw[(Ém g hv).2 c];simp[c]
theorem Ýu (g:GoodR bs) (hr:r∈bs):blw bs (some r.name) (some a)=decide (a∈chain bs r.name):=by
 unfold blw
 refine decide_eq_decide.mpr ⟨λ h=>?_,λ h v hv=>?_⟩
 ·have:=h _ (Ôg g hr)
  exact (ËQ (v:=(r.name,(0:Int))) g (ÎD (Ôg g hr)).1).mp this
 ·obtain ⟨h1,h2⟩:=ÎD hv
  show (led bs v.1 v.2 a).isSome=true
  rw[ËQ g h1,h2 r.name rfl]
  exact h
theorem Ýv (g:GoodR bs):blw bs none (some a)=decide (∀q∈bs,a∈chain bs q.name):=by
 unfold blw
 refine decide_eq_decide.mpr ⟨λ h q hq=>?_,λ h v hv=>?_⟩
 ·exact (ËQ (v:=(q.name,(0:Int))) g (ÎD (ÒW g hq)).1).mp (h _ (ÒW g hq))
 ·obtain ⟨h1,_⟩:=ÎD hv
  show (led bs v.1 v.2 a).isSome=true
  rw[ËQ g h1]
  obtain ⟨q,q1,q2,_⟩:=h1
  rw[←q2]
  exact h q q1
theorem ßr:blw bs lo none=true:=by
 unfold blw
 exact decide_eq_true λ v _=>rfl
theorem Ñ3 (g:GoodR bs) (hb:bs.length≤100) (hl:told bs lo) (hu:told bs up):Is (ó (Ť bs) (ò lo) (ò up)) (blw bs lo up):=by
 cases up with
 |none=>
  rw[ßr]
  unfold ó
  cases lo with
  |none=>
   refine Is.bd (b:=(Ť bs).names) (Al.neg (by simp[ò]) Is.rt) ?_
   exact Al.pos (by simp[ò]) Is.rt
  |some n=>
   obtain ⟨r,hr,rfl⟩:=hl n rfl
   have h1:=Él g hr
   refine Is.bd (b:=[r.name]) (Al.pos (by simp[ò,h1]) (by rw[ò,Á9 g hr];exact Is.rt)) ?_
   exact Al.pos (by simp[ò]) Is.rt
 |some k=>
  obtain ⟨e,he,rfl⟩:=hu k rfl
  cases lo with
  |none=>rw[Ýv g];exact Ýr g hb he
  |some n=>
   obtain ⟨r,hr,rfl⟩:=hl n rfl
   rw[Ýu g hr];exact Ýq g hb hr he
def fin (bs:List Row) (a b:Str):Option Str:=if blw bs (some a) (some b)=true then some a else if blw bs (some b) (some a)=true then some b else none
theorem Ýw (g:GoodR bs) (hb:bs.length≤100) (hr:r∈bs) (he:e∈bs):Is (Àv (Ť bs) r.name e.name) (fin bs r.name e.name):=by
 unfold Àv fin
 have t1:told bs (some r.name):=λ x hx=>by cases hx;exact ⟨r,hr,rfl⟩
 have t2:told bs (some e.name):=λ x hx=>by cases hx;exact ⟨e,he,rfl⟩
 refine Is.bd (Ñ3 (lo:=some r.name) (up:=some e.name) g hb t1 t2) ?_
 by_cases c:blw bs (some r.name) (some e.name)=true
 ·rw[if_pos c,if_pos c];exact Is.rt
 ·rw[if_neg c,if_neg c]
  refine Is.bd (Ñ3 (lo:=some e.name) (up:=some r.name) g hb t2 t1) ?_
  by_cases d:blw bs (some e.name) (some r.name)=true
  ·rw[if_pos d,if_pos d];exact Is.rt
  ·rw[if_neg d,if_neg d];exact Is.rt
end
end ť
namespace ť
open PySem Pu Ty Ãy
section
variable{bs:List Row}{r e:Row}{x t:Str}{i:Int}{lo up:Option Str}
theorem ÍU {α:Type} {m:M α} (k:Ra m (Str.ofString "UnknownName")):Is (bR (Îx (bd m λ _=>rt (Esc.nx ())) Ġ (λ c dd=>bd (rt true) λ v=>rt (Esc.rt v))) λ _=>rt false) true:=
 Al.bR (I:=λ _=>False) (R:=λ b=>b=true) (Þ9 (Ra.bd1 k) (by decide +kernel) (Al.rt (a:=(Esc.rt true:Esc Unit Bool)) (show (true:Bool)=true from rfl))) (λ _ h=>h.elim) (λ _ h=>h)
theorem ßs (hx:∀ q∈bs,q.name≠x):Ra (Ć (Ť bs) (x,i) t) (Str.ofString "UnknownName"):=by
 unfold Ć
 rw[ä]
 exact Ra.bd1 (Ra.eq (ËP hx))
theorem ßt (g:GoodR bs) (hr:r∈bs) (hq:x≠Str.ofString "?") (hx:∀ q∈bs,q.name≠x):Ra (Ć (Ť bs) (r.name,i) x) (Str.ofString "UnknownName"):=by
 unfold Ć
 rw[ä]
 dsimp only
 rw[Á9 g hr,ä,if_neg (by simp[hq])]
 exact Ra.bd1 (Ra.eq (ËP hx))
theorem Ôh (hq:x≠Str.ofString "?") (hx:∀ q∈bs,q.name≠x):Ra (ó (Ť bs) x t) (Str.ofString "UnknownName"):=by
 unfold ó
 refine Ra.bd1 ?_
 rw[if_pos (by simp[hq])]
 exact Ra.bd1 (Ra.bd1 (Ra.eq (ËP hx)))
theorem Ôi (g:GoodR bs) (hl:told bs lo) (hq:x≠Str.ofString "?") (hx:∀ q∈bs,q.name≠x):Ra (ó (Ť bs) (ò lo) x) (Str.ofString "UnknownName"):=by
 unfold ó
 refine Ra.bd2 (R:=λ _=>True) ?_ λ s _=>?_
 ·cases lo with
  |none=>exact Al.neg (by simp[ò]) (Al.rt trivial)
  |some n=>
   obtain ⟨r,hr,rfl⟩:=hl n rfl
   have h1:=Él g hr
   exact Al.pos (by simp[ò,h1]) (by rw[ò,Á9 g hr];exact Al.rt trivial)
 ·rw[if_neg (by simp[hq])]
  exact Ra.bd1 (Ra.eq (ËP hx))
theorem Új (g:GoodR bs) (hr:r∈bs) (hq:x≠Str.ofString "?") (hx:∀ q∈bs,q.name≠x):Is (Å0 (Ť bs) (r.name,(0:Int)) x) true:=by
 have t0:told bs none:=λ y hy=>by cases hy
 have t1:told bs (some r.name):=λ y hy=>by cases hy;exact ⟨r,hr,rfl⟩
 have l1:∀ t,Is (ÁA (Ť bs) (x,(0:Int)) t) true:=λ t=>by unfold ÁA;exact ÍU (ßs hx)
 have l2:Is (ÁA (Ť bs) (r.name,(0:Int)) x) true:=by unfold ÁA;exact ÍU (ßt g hr hq hx)
 have b1:∀ t,Is (ŕ (Ť bs) x t) true:=λ t=>by unfold ŕ;exact ÍU (Ôh hq hx)
 have b2:∀ lo,told bs lo→Is (ŕ (Ť bs) (ò lo) x) true:=λ lo h=>by unfold ŕ;exact ÍU (Ôi g h hq hx)
 have f1:Is (Àw (Ť bs) x r.name) true:=by unfold Àw Àv;exact ÍU (Ra.bd1 (Ôh hq hx))
 have f2:Is (Àw (Ť bs) r.name x) true:=by unfold Àw Àv;exact ÍU (Ra.bd1 (Ôi (lo:=some r.name) g t1 hq hx))
 unfold Å0
 refine Al.bR (I:=λ _=>True) (R:=λ _=>False) (Al.all λ t _=>?_) (λ _ _=>?_) (λ _ h=>h.elim)
 ·exact Is.bd (Is.bd (l1 t) Is.rt) (Al.neg (by simp) (Al.rt rfl))
 refine Is.bd (Is.bd l2 Is.rt) (Al.neg (by simp) ?_)
 refine Al.bR (I:=λ _=>True) (R:=λ _=>False) (Al.all λ t ht=>?_) (λ _ _=>?_) (λ _ h=>h.elim)
 ·have h2:Is (ŕ (Ť bs) t x) true:=by
   rcases List.mem_cons.mp ht with rfl|ht
   ·exact b2 none t0
   ·rcases List.mem_cons.mp ht with rfl|ht
    ·exact b2 (some r.name) t1
    ·cases ht
  refine Is.bd (b:=false) ?_ (Al.neg (by simp) (Al.rt rfl))
  refine Is.bd (b:=false) (Is.bd (b1 t) Is.rt) (Al.neg (by simp) ?_)
  exact Is.bd h2 Is.rt
 ·exact Is.bd f1 (Al.pos rfl f2)
end
end ť
namespace ť
open PySem Pu Ty Ãy
section
variable{α:Type}
def kyV (v:Str×Int) (k:Str):NestedKey:=.tup [.tup [.text v.1,.num v.2],.text k]
def kyS (a b:Str):NestedKey:=.tup [.text a,.text b]
theorem ÖQ (v:Str×Int) (k:Str):Đ ((n2 (n2 nS nI) nS) (v,k))=some (kyV v k):=by
 show Đ (.tup [.tup [.str v.1,.int v.2],.str k])=_
 simp[Đ,ÇS,ÊH,kyV,NestedKey.depth,NestedKey.depthAll]
theorem äJ (v:Str×Int) (k:Str):Đ ((n2 (nO (n2 nS nI)) nS) (some v,k))=some (kyV v k):=ÖQ v k
theorem Ýx (a b:Str):Đ ((n2 nS nS) (a,b))=some (kyS a b):=by
 show Đ (.tup [.str a,.str b])=_
 simp[Đ,ÇS,ÊH,kyS,NestedKey.depth,NestedKey.depthAll]
theorem Ùk {v v':Str×Int} {k k':Str} (h:kyV v k=kyV v' k'):v=v'∧k=k':=by
 unfold kyV at h
 simp at h
 exact ⟨Prod.ext h.1.1 h.1.2,h.2⟩
theorem Ùl {a b a' b':Str} (h:kyS a b=kyS a' b'):a=a'∧b=b':=by
 unfold kyS at h
 simpa using h
theorem ÖR (k:NestedKey):Ĵ ([]:List (NestedKey×α)) k=none:=rfl
theorem ÇE (p:NestedKey×α) (s:List (NestedKey×α)) (k:NestedKey):Ĵ (p::s) k=if p.1=k then some p.2 else Ĵ s k:=by
 unfold Ĵ
 by_cases h:p.1=k
 ·simp[List.find?_cons,h]
 ·simp[List.find?_cons,h]
theorem ÖS:∀ (s:List (NestedKey×α)) (k:NestedKey),(s.any λ p=>decide (p.1=k))=(Ĵ s k).isSome
 | [],k=>rfl
 |p::s,k=>by
  rw[ÇE,List.any_cons,ÖS s k]
  by_cases h:p.1=k<;>simp[h]
theorem ÖT {k k':NestedKey} {v:α}:∀ {s:List (NestedKey×α)},Ĵ (s.map λ p=>if p.1=k then (p.1,v) else p) k'=if k'=k∧(Ĵ s k).isSome=true then some v else Ĵ s k'
 | []=>by simp[ÖR]
 |p::s=>by
  rw[List.map_cons,ÇE,ÖT (s:=s),ÇE,ÇE]
  by_cases h:p.1=k
  ·by_cases h2:k'=k
   ·subst h2;simp[h]
   ·have:¬k=k':=λ z=>h2 z.symm
    simp[h,h2,this]
  ·by_cases h2:k'=k
   ·subst h2;simp[h]
   ·simp[h,h2]
theorem ÖU {k k':NestedKey} {v:α}:∀ {s:List (NestedKey×α)},Ĵ (s++[(k,v)]) k'=(match Ĵ s k' with
  |some x=>some x
  |none=>if k=k' then some v else none)
 | []=>by
  rw[List.nil_append,ÇE,ÖR]
 |p::s=>by
  rw[List.cons_append,ÇE,ÇE,ÖU (s:=s)]
  by_cases h:p.1=k'
  ·rw[if_pos h,if_pos h]
  ·rw[if_neg h,if_neg h]
theorem É8 (s:List (NestedKey×α)) (k k':NestedKey) (v:α):Ĵ (Çr s k v) k'=if k'=k then some v else Ĵ s k':=by
 unfold Çr
 rw[ÖS]
 by_cases c:(Ĵ s k).isSome=true
 ·rw[if_pos c,ÖT]
  simp[c]
 ·rw[if_neg c,ÖU]
  have c':Ĵ s k=none:=by cases h:Ĵ s k with
   |none=>rfl
   |some x=>rw[h] at c;exact (c rfl).elim
  by_cases h:k'=k
  ·subst h;rw[c'];first|done|simp
  ·rw[if_neg h,if_neg λ z=>h z.symm]
   first|done |(cases Ĵ s k'<;>rfl)
theorem ÓD (s:List (NestedKey×α)) (k:NestedKey) (v:α):(Çr s k v).length≤s.length+1:=by
 unfold Çr
 split<;>simp
theorem ÖV {s:List (NestedKey×α)} {k:NestedKey} {v:α} (h:s.length<16777216):Én s (some k) v=rt (Çr s k v):=if_pos h
theorem ÇZ {s:List (NestedKey×α)} {k:NestedKey} {v:α} (h:Ĵ s k=some v):ÄH s (some k)=rt v:=by
 unfold ÄH
 simp only[h]
 rfl
end
section
variable{bs:List Row}{r e:Row}{v u:Str×Int}{k:Option Str}
theorem ÖW {o:Option (Str×Int)}:Á6 4 (nO (n2 nS nI) o):=by
 cases o with
 |none=>trivial
 |some v=>exact Ø2 (j:=3) trivial trivial
theorem ÛL (g:GoodR bs) (hb:bs.length≤100) {s:List (NestedKey×Option (Str×Int))} {ns:List Str} (hn:∀ n∈ns,∃r∈bs,r.name=n) (hv:Mb bs v)
  (hs:∀ v,Mb bs v→∀ n∈ns,Ĵ s (kyV v n)=some (led bs v.1 v.2 n)):Is (Èy (Ť bs) s v ns) true:=by
 have tl:∀ n∈ns,told bs (some n):=λ n h x hx=>by cases hx;exact hn n h
 unfold Èy
 refine Al.bR (I:=λ _=>True) (R:=λ _=>False) (Al.all λ a ha=>?_) (λ _ _=>Is.rt) (λ _ h=>h.elim)
 rw[ÖQ,ÇZ (hs v hv a ha),ä]
 cases h1:led bs v.1 v.2 a with
 |none=>rw[ÏP];exact Al.rt rfl
 |some u=>
  rw[ÈV]
  have hu:Mb bs u:=ØX (k:=some a) g hv h1
  refine Al.bX (I:=λ _=>True) (R:=λ _=>False) (Al.all λ b hb'=>?_) (λ _ _=>Al.rt rfl) (λ _ h=>h.elim)
  rw[ä,ä,äJ,ÇZ (hs u hu b hb'),ä]
  cases h2:led bs u.1 u.2 b with
  |none=>rw[ÏP];exact Al.rt rfl
  |some x=>
   rw[ÈV]
   have i1:=ÒV (k:=some a) g hb hv (tl a ha)
   have i2:=ÒV (k:=some b) g hb hu (tl b hb')
   rw[show ledK bs v (some a)=some u from h1] at i1
   rw[show ledK bs u (some b)=some x from h2] at i2
   refine Is.bd (b:=x) (Is.bd (b:=some x) (Is.bd (b:=u) (Is.bd i1 Is.rt) i2) Is.rt) ?_
   rw[ÖQ,ÇZ (hs v hv b hb'),ßp g hv h1 h2,ä]
   exact Is.bd (Is.bd (Is.same ÖW) Is.rt) (Al.neg (by simp) (Al.rt rfl))
end
end ť
namespace ť
open PySem Pu Ty Ãy
section
variable{bs:List Row}{r e:Row}{v u:Str×Int}{k a b:Option Str}
abbrev Tb1:=List (NestedKey×Option (Str×Int))
abbrev Tb2:=List (NestedKey×Bool)
def nms (bs:List Row):List Str:=(rws bs).map λ a=>a.1
def Ċ (bs:List Row):List (Option Str):=(bs.reverse.map λ r=>some r.name)++[none]
theorem ÖX:nms bs=bs.reverse.map Row.name:=by
 unfold nms rws
 rw[List.map_map]
 rfl
theorem Êd {n:Str}:n∈nms bs↔∃ r∈bs,r.name=n:=by
 rw[ÖX];simp
theorem ËX:(nms bs).length=bs.length:=by rw[ÖX];simp
theorem Ð2:nms bs++[Str.ofString "?"]=(Ċ bs).map ò:=by
 rw[ÖX]
 unfold Ċ
 rw[List.map_append,List.map_map]
 rfl
theorem kds_len:(Ċ bs).length=bs.length+1:=by simp[Ċ]
theorem ÀM (h:k∈Ċ bs):told bs k:=by
 intro x hx
 subst hx
 unfold Ċ at h
 rcases List.mem_append.mp h with h|h
 ·obtain ⟨r,h1,h2⟩:=List.mem_map.mp h
  cases h2
  exact ⟨r,by simpa using h1,rfl⟩
 ·simp at h
theorem Ìv {n:Str} (h:n∈nms bs):some n∈Ċ bs:=by
 obtain ⟨r,h1,h2⟩:=Êd.mp h
 exact List.mem_append_left _ (List.mem_map.mpr ⟨r,by simpa using h1,by rw[h2]⟩)
theorem ÍW (g:GoodR bs) (h1:told bs a) (h2:told bs b) (e:ò a=ò b):a=b:=by
 cases a with
 |none=>
  cases b with
  |none=>rfl
  |some y=>obtain ⟨q,q1,q2⟩:=h2 y rfl;exact (Él g q1 (by rw[q2];exact e.symm)).elim
 |some x=>
  cases b with
  |none=>obtain ⟨q,q1,q2⟩:=h1 x rfl;exact (Él g q1 (by rw[q2];exact e)).elim
  |some y=>rw[show x=y from e]
theorem oth (g:GoodR bs) (hv:Mb bs v) (hk:told bs k):ledK (bs.map flR) v k=(bif ((decide (ò k=(Str.ofString "?")))||(decide (ò k=v.1))) then (some v) else none):=by
 cases k with
 |none=>simp[ò,ledK]
 |some n=>
  obtain ⟨q,q1,rfl⟩:=hk n rfl
  have hq:=Él g q1
  obtain ⟨r,r1,r2,_⟩:=hv
  show led (bs.map flR) v.1 v.2 q.name=_
  rw[ÛK ⟨r,r1,r2⟩]
  by_cases c:v.1=q.name
  ·simp[ò,c]
   rw[←c]
  ·have:¬q.name=v.1:=λ z=>c z.symm
   simp[ò,c,this,hq]
def T1 (bs:List Row) (vs:List (Str×Int)) (s:Tb1):Prop:=∀ v∈vs,∀k∈Ċ bs,Ĵ s (kyV v (ò k))=some (ledK bs v k)
theorem áR (g:GoodR bs) {x:Str×Int} {vs:List (Str×Int)} {s:Tb1} (hk:k∈Ċ bs) (h:T1 bs vs s):T1 bs vs (Çr s (kyV x (ò k)) (ledK bs x k)):=by
 intro v hv k' hk'
 rw[É8]
 split
 ·rename_i e
  obtain ⟨e1,e2⟩:=Ùk e
  rw[e1,ÍW g (ÀM hk') (ÀM hk) e2]
 ·exact h v hv k' hk'
def T2 (bs:List Row) (los:List (Option Str)) (s:Tb2):Prop:=∀ a∈los,∀b∈Ċ bs,Ĵ s (kyS (ò a) (ò b))=some (blw bs a b)
theorem áS (g:GoodR bs) {x:Option Str} {vs:List (Option Str)} {s:Tb2} (hv:∀ a∈vs,a∈Ċ bs) (hx:x∈Ċ bs) (hk:k∈Ċ bs) (h:T2 bs vs s):T2 bs vs (Çr s (kyS (ò x) (ò k)) (blw bs x k)):=by
 intro a ha b hb
 rw[É8]
 split
 ·rename_i e
  obtain ⟨e1,e2⟩:=Ùl e
  rw[ÍW g (ÀM (hv a ha)) (ÀM hx) e1,ÍW g (ÀM hb) (ÀM hk) e2]
 ·exact h a ha b hb
theorem ÛM (h:Mb bs v):v∈membersOf bs none:=by
 obtain ⟨r,h1,h2,h3,h4⟩:=h
 unfold membersOf É5
 exact List.mem_flatMap.mpr ⟨r,by simpa using h1,ÎB.mpr ⟨h2.symm,h3,h4⟩⟩
end
end ť
namespace ť
open PySem Pu Ty Ãy
section
variable{bs:List Row}{r e:Row}{v u:Str×Int}{k a b:Option Str}
theorem ßu (x:Bool):Á6 4 (nB x):=trivial
theorem turn1 (g:GoodR bs) (hb:bs.length≤100) {x:Str×Int} (hx:Mb bs x) {s:Tb1} (hs:s.length<16777216) (hk:k∈Ċ bs):
  Al (bd (ÇY (rws bs) x (ò k)) λ Íh=>(bd (rt Íh) λ Öq=>bd (rt (x,ò k)) λ Ör=>bd (Én s (Đ ((n2 (n2 nS nI) nS) Ör)) Öq) λ ÑU=>(bd (bd (bd (Ć (Ť bs) x (ò k)) λ ÑV=>(ÅE 4 (nO (n2 nS nI)) ÑV Íh)) λ Ös=>rt !Ös) λ Öt=>if Öt=true then (bd (rt false) λ Öu=>rt (Esc.rt Öu)) else (bd (bd (bd (Ć (Ť (bs.map flR)) x (ò k)) λ ÑW=>(ÅE 4 (nO (n2 nS nI)) ÑW (bif ((decide (ò k=(Str.ofString "?")))||(decide (ò k=x.1))) then (some x) else none))) λ Öv=>rt !Öv) λ Öw=>if Öw=true then (bd (rt false) λ Öx=>rt (Esc.rt Öx)) else (rt (Esc.nx ÑU))))))
   (λ q=>q=(Esc.nx (Çr s (kyV x (ò k)) (ledK bs x k)):Esc Tb1 Bool)):=by
 have hb2:(bs.map flR).length≤100:=by simpa using hb
 have ht:=ÀM hk
 refine Is.bd (ßk g hb hx ht) ?_
 rw[ä,ä,ÖQ,ÖV hs,ä]
 refine Is.bd (Is.bd (Is.bd (ÒV g hb hx ht) (Is.same ÖW)) Is.rt) (Al.neg (by simp) ?_)
 have h2:=ÒV (ÓM g) hb2 (ây hx) (ßq ht)
 rw[oth g hx ht] at h2
 exact Is.bd (Is.bd (Is.bd h2 (Is.same ÖW)) Is.rt) (Al.neg (by simp) (Al.rt rfl))
theorem turn2 (g:GoodR bs) (hb:bs.length≤100) {t:Tb1} (h1:T1 bs (membersOf bs none) t) {s:Tb2} (hs:s.length<16777216) (ha:a∈Ċ bs) (hk:k∈Ċ bs):
  Al (bd (bd (ÁG (rws bs) (ò a)) λ ÒU=>lcM (λ Æu=>(bd (bd (rt (Æu,ò k)) λ ÑX=>ÄH t (Đ ((n2 (n2 nS nI) nS) ÑX))) λ ÑY=>rt ÑY.isNone)) (λ Æu=>(rt Æu)) ÒU) λ Ëe=>(bd (rt (decide ((Ëe.length:Int)=(0:Int)))) λ ÖB=>bd (rt (ò a,ò k)) λ ÖC=>bd (Én s (Đ ((n2 nS nS) ÖC)) ÖB) λ ÑZ=>(bd (bd (bd (ó (Ť bs) (ò a) (ò k)) λ Ñ0=>(ÅE 4 nB Ñ0 (decide ((Ëe.length:Int)=(0:Int))))) λ ÖD=>rt !ÖD) λ ÖE=>if ÖE=true then (bd (rt false) λ ÖF=>rt (Esc.rt ÖF)) else (rt (Esc.nx ÑZ)))))
   (λ q=>q=(Esc.nx (Çr s (kyS (ò a) (ò k)) (blw bs a k)):Esc Tb2 Bool)):=by
 have hl:=Ña (k:=a) g
 have mem:∀ y∈membersOf bs a,Ĵ t (kyV y (ò k))=some (ledK bs y k):=λ y hy=>h1 y (ÛM (ÎD hy).1) k hk
 refine Is.bd (b:=((membersOf bs a).filter λ y=>(ledK bs y k).isNone).map λ y=>y) (Is.bd (Ñj g (ÀM ha) hb) (Al.lcM (g:=λ y=>(ledK bs y k).isNone) (v:=λ y=>y) (by rw[ÒD];omega) (λ y hy=>?_) (λ y _ _=>Is.rt))) ?_
 ·rw[ä,ÖQ,ÇZ (mem y hy),ä];exact Is.rt
 have e:decide (((((membersOf bs a).filter λ y=>(ledK bs y k).isNone).map λ y=>y).length:Int)=(0:Int))=blw bs a k:=by
  unfold blw
  refine decide_eq_decide.mpr ⟨λ h y hy=>?_,λ h=>?_⟩
  ·have:((membersOf bs a).filter λ y=>(ledK bs y k).isNone)=[]:=by
    rw[List.length_map] at h
    exact List.length_eq_zero_iff.mp (by omega)
   have:=List.filter_eq_nil_iff.mp this y hy
   cases hq:ledK bs y k with
   |none=>rw[hq] at this;exact (this rfl).elim
   |some z=>rfl
  ·have:((membersOf bs a).filter λ y=>(ledK bs y k).isNone)=[]:=List.filter_eq_nil_iff.mpr λ y hy=>by
    have:=h y hy
    cases hq:ledK bs y k with
    |none=>rw[hq] at this;cases this
    |some z=>simp
   rw[this];rfl
 rw[e,ä,ä,Ýx,ÖV hs,ä]
 exact Is.bd (Is.bd (Is.bd (Ñ3 g hb (ÀM ha) (ÀM hk)) (Is.same (ßu _))) Is.rt) (Al.neg (by simp) (Al.rt rfl))
theorem Ùm {y:Str} {c:Nat} (hc:c≠63):y++(⟨#[c]⟩:Str)≠Str.ofString "?" :=by
 intro h
 have h2:(y++(⟨#[c]⟩:Str)).cps.toList=(Str.ofString "?").cps.toList:=by rw[h]
 rw[ÐX,show (Str.ofString "?").cps.toList=[63] from by decide +kernel] at h2
 have h3:=congrArg List.getLast? h2
 simp at h3
 exact hc h3
end
end ť
namespace ť
open PySem Pu Ty Ãy
section
theorem loop1 {bs:List Row} (g:GoodR bs) (hb:bs.length≤5) {F:Tb1→(Str×Int)→M (Esc Tb1 Bool)}
  (hF:∀ s x,F s x=bd (adL (nms bs) [(Str.ofString "?")]) λ Úf=>bX (ţ (λ (Öp:Tb1) (ÄE:Str)=>(bd (ÇY (rws bs) x ÄE) λ Íh=>(bd (rt Íh) λ Öq=>bd (rt (x,ÄE)) λ Ör=>bd (Én Öp (Đ ((n2 (n2 nS nI) nS) Ör)) Öq) λ ÑU=>(bd (bd (bd (Ć (Ť bs) x ÄE) λ ÑV=>(ÅE 4 (nO (n2 nS nI)) ÑV Íh)) λ Ös=>rt !Ös) λ Öt=>if Öt=true then (bd (rt false) λ Öu=>rt (Esc.rt Öu)) else (bd (bd (bd (Ć (Ť (bs.map flR)) x ÄE) λ ÑW=>(ÅE 4 (nO (n2 nS nI)) ÑW (bif ((decide (ÄE=(Str.ofString "?")))||(decide (ÄE=x.1))) then (some x) else none))) λ Öv=>rt !Öv) λ Öw=>if Öw=true then (bd (rt false) λ Öx=>rt (Esc.rt Öx)) else (rt (Esc.nx ÑU))))))) Úf s) λ Öy=>(rt (Esc.nx Öy))):
  Al (ţ F (membersOf bs none) []) (EP (T1 bs (membersOf bs none)) λ _=>False):=by
 have hm:=Ña (k:=none) g
 refine Al.mono (Al.ţ (I:=λ pre s=>T1 bs pre s∧s.length≤10*pre.length) (R:=λ _=>False) ⟨λ v hv=>(by cases hv),by simp⟩ λ pre x suf st ex hi=>?_) λ r hr=>?_
 rotate_left
 ·cases r with
  |nx a=>exact hr.1
  |rt b=>exact hr
 have hx:x∈membersOf bs none:=by rw[ex];simp
 have hmb:=(ÎD hx).1
 have hpl:pre.length≤20:=by
  have:=congrArg List.length ex
  simp at this
  omega
 rw[hF,ÒF (by rw[ËX];simp;omega),ä,Ð2]
 refine Al.bX (I:=λ s=>T1 bs (pre++[x]) s∧s.length≤10*(pre.length+1)) (R:=λ _=>False) ?_ (λ s h=>Al.rt ⟨h.1,by simpa using h.2⟩) (λ _ h=>h.elim)
 have hkl:=kds_len (bs:=bs)
 refine Al.mono (Al.ţ (I:=λ pre2 s=>T1 bs pre s∧(∀k∈Ċ bs,ò k∈pre2→Ĵ s (kyV x (ò k))=some (ledK bs x k))∧s.length≤10*pre.length+pre2.length) (R:=λ _=>False)
  ⟨hi.1,λ k _ hk=>(by cases hk),by simpa using hi.2⟩ λ pre2 y äK st2 ex2 hi2=>?_) λ r hr=>?_
 ·have hy:y∈(Ċ bs).map ò:=by rw[ex2];simp
  obtain ⟨k,hk,rfl⟩:=List.mem_map.mp hy
  have hpl2:pre2.length≤6:=by
   have:=congrArg List.length ex2
   simp at this
   omega
  refine Al.mono (turn1 g (by omega) hmb (by omega) hk) λ q hq=>?_
  subst hq
  refine ⟨áR g hk hi2.1,λ k' hk' hm'=>?_,?_⟩
  ·rw[É8]
   split
   ·rename_i e
    rw[ÍW g (ÀM hk') (ÀM hk) (Ùk e).2]
   ·rename_i e
    rcases List.mem_append.mp hm' with hm'|hm'
    ·exact hi2.2.1 k' hk' hm'
    ·simp at hm'
     exact (e (by rw[hm'])).elim
  ·have:=ÓD st2 (kyV x (ò k)) (ledK bs x k)
   simp only[List.length_append,List.length_cons,List.length_nil]
   omega
 ·cases r with
  |rt b=>exact hr
  |nx s=>
   obtain ⟨h1,h2,h3⟩:=hr
   refine ⟨λ v hv k hk=>?_,by simp at h3;omega⟩
   rcases List.mem_append.mp hv with hv|hv
   ·exact h1 v hv k hk
   ·simp at hv
    subst hv
    exact h2 k hk (List.mem_map_of_mem hk)
end
end ť
namespace ť
open PySem Pu Ty Ãy
section
variable{bs:List Row}
theorem âz (g:GoodR bs) (hb:bs.length≤5) {t:Tb1} (ht:T1 bs (membersOf bs none) t) {F:Tb2→Str→M (Esc Tb2 Bool)}
  (hF:∀ s x,F s x=bd (adL (nms bs) [(Str.ofString "?")]) λ Úg=>bX (ţ (λ (ÖA:Tb2) (Ëd:Str)=>bd (bd (ÁG (rws bs) x) λ ÒU=>lcM (λ Æu=>(bd (bd (rt (Æu,Ëd)) λ ÑX=>ÄH t (Đ ((n2 (n2 nS nI) nS) ÑX))) λ ÑY=>rt ÑY.isNone)) (λ Æu=>(rt Æu)) ÒU) λ Ëe=>(bd (rt (decide ((Ëe.length:Int)=(0:Int)))) λ ÖB=>bd (rt (x,Ëd)) λ ÖC=>bd (Én ÖA (Đ ((n2 nS nS) ÖC)) ÖB) λ ÑZ=>(bd (bd (bd (ó (Ť bs) x Ëd) λ Ñ0=>(ÅE 4 nB Ñ0 (decide ((Ëe.length:Int)=(0:Int))))) λ ÖD=>rt !ÖD) λ ÖE=>if ÖE=true then (bd (rt false) λ ÖF=>rt (Esc.rt ÖF)) else (rt (Esc.nx ÑZ))))) Úg s) λ ÖG=>(rt (Esc.nx ÖG))):
  Al (ţ F ((Ċ bs).map ò) []) (EP (T2 bs (Ċ bs)) λ _=>False):=by
 have hkl:=kds_len (bs:=bs)
 refine Al.mono (Al.ţ (I:=λ pre s=>T2 bs ((Ċ bs).filter λ k=>decide (ò k∈pre)) s∧s.length≤10*pre.length) (R:=λ _=>False) ⟨λ a ha=>(by simp at ha),by simp⟩ λ pre x suf st ex hi=>?_) λ r hr=>?_
 rotate_left
 ·cases r with
  |nx s=>
   refine λ a ha=>hr.1 a (List.mem_filter.mpr ⟨ha,by simpa using List.mem_map_of_mem ha⟩)
  |rt b=>exact hr
 have hx:x∈(Ċ bs).map ò:=by rw[ex];simp
 obtain ⟨a,ha,rfl⟩:=List.mem_map.mp hx
 have hpl:pre.length≤6:=by
  have:=congrArg List.length ex
  simp at this
  omega
 rw[hF,ÒF (by rw[ËX];simp;omega),ä,Ð2]
 refine Al.bX (I:=λ s=>T2 bs ((Ċ bs).filter λ k=>decide (ò k∈pre++[ò a])) s∧s.length≤10*(pre.length+1)) (R:=λ _=>False) ?_ (λ s h=>Al.rt ⟨h.1,by simpa using h.2⟩) (λ _ h=>h.elim)
 refine Al.mono (Al.ţ (I:=λ pre2 s=>T2 bs ((Ċ bs).filter λ k=>decide (ò k∈pre)) s∧(∀k∈Ċ bs,ò k∈pre2→Ĵ s (kyS (ò a) (ò k))=some (blw bs a k))∧s.length≤10*pre.length+pre2.length) (R:=λ _=>False)
  ⟨hi.1,λ k _ hk=>(by cases hk),by simpa using hi.2⟩ λ pre2 y äK st2 ex2 hi2=>?_) λ r hr=>?_
 ·have hy:y∈(Ċ bs).map ò:=by rw[ex2];simp
  obtain ⟨k,hk,rfl⟩:=List.mem_map.mp hy
  have hpl2:pre2.length≤6:=by
   have:=congrArg List.length ex2
   simp at this
   omega
  refine Al.mono (turn2 g (by omega) ht (by omega) ha hk) λ q hq=>?_
  subst hq
  refine ⟨áS g (λ z hz=>(List.mem_filter.mp hz).1) ha hk hi2.1,λ k' hk' hm'=>?_,?_⟩
  ·rw[É8]
   split
   ·rename_i e
    rw[ÍW g (ÀM hk') (ÀM hk) (Ùl e).2]
   ·rename_i e
    rcases List.mem_append.mp hm' with hm'|hm'
    ·exact hi2.2.1 k' hk' hm'
    ·simp at hm'
     exact (e (by rw[hm'])).elim
  ·have:=ÓD st2 (kyS (ò a) (ò k)) (blw bs a k)
   simp only[List.length_append,List.length_cons,List.length_nil]
   omega
 ·cases r with
  |rt b=>exact hr
  |nx s=>
   obtain ⟨h1,h2,h3⟩:=hr
   refine ⟨λ v hv k hk=>?_,by simp at h3;omega⟩
   obtain ⟨hv1,hv2⟩:=List.mem_filter.mp hv
   simp only[decide_eq_true_eq,List.mem_append,List.mem_singleton] at hv2
   rcases hv2 with hv2|hv2
   ·exact h1 v (List.mem_filter.mpr ⟨hv1,by simpa using hv2⟩) k hk
   ·rw[ÍW g (ÀM hv1) (ÀM ha) hv2]
    exact h2 k hk (List.mem_map_of_mem hk)
theorem Ýy (g:GoodR bs) (hb:bs.length≤100) {s:Tb2} (hs:T2 bs (Ċ bs) s) {x y:Str} (hx:x∈nms bs) (hy:y∈nms bs):
  Al (bd (bd (bd (bd (rt (x,y)) λ Ýa=>ÄH s (Đ ((n2 nS nS) Ýa))) λ x=>rt x) λ Ýb=>if Ýb=true then (rt (some x)) else (bd (bd (bd (rt (y,x)) λ Ýc=>ÄH s (Đ ((n2 nS nS) Ýc))) λ x=>rt x) λ Ýd=>if Ýd=true then (rt (some y)) else (rt none))) λ ÖH=>(bd (bd (bd (Àv (Ť bs) x y) λ ÖI=>(ÅE 4 (nO nS) ÖI ÖH)) λ Ýe=>rt !Ýe) λ Ýf=>if Ýf=true then (bd (rt false) λ Ýg=>rt (Esc.rt Ýg)) else (rt (Esc.nx ()))))
   (λ q=>q=(Esc.nx ():Esc Unit Bool)):=by
 have l1:Ĵ s (kyS x y)=some (blw bs (some x) (some y)):=hs (some x) (Ìv hx) (some y) (Ìv hy)
 have l2:Ĵ s (kyS y x)=some (blw bs (some y) (some x)):=hs (some y) (Ìv hy) (some x) (Ìv hx)
 obtain ⟨r,r1,rfl⟩:=Êd.mp hx
 obtain ⟨e,e1,rfl⟩:=Êd.mp hy
 refine Is.bd (b:=fin bs r.name e.name) ?_ ?_
 ·rw[ä,Ýx,ÇZ l1,ä,ä,ä,Ýx,ÇZ l2,ä,ä]
  unfold fin
  by_cases c:blw bs (some r.name) (some e.name)=true
  ·rw[if_pos c,if_pos c];exact Is.rt
  ·rw[if_neg c,if_neg c]
   by_cases d:blw bs (some e.name) (some r.name)=true
   ·rw[if_pos d,if_pos d];exact Is.rt
   ·rw[if_neg d,if_neg d];exact Is.rt
 ·refine Is.bd (Is.bd (Is.bd (Ýw g hb r1 e1) (Is.same ?_)) Is.rt) (Al.neg (by simp) (Al.rt rfl))
  cases fin bs r.name e.name<;>trivial
end
end ť
namespace ť
open PySem Pu Ty Ãy
section
variable{bs:List Row}
theorem names3 (g:GoodR bs) (h1:1≤bs.length) (n7:∀ r∈bs,r.name.length≤7):
  Al (bd (bd (ixT (nms bs) (0:Int)) λ ÖJ=>(adS ÖJ (Str.ofString "m"))) λ ÖK=>(bd (bd (bd (ixT (nms bs) (((nms bs).length:Int)-(1:Int))) λ Ýh=>bd (rt (some (1:Int))) λ Ýi=>bd (rt none) λ Ýj=>(cutS Ýh Ýi Ýj)) λ ÖL=>(adS ÖL (Str.ofString "q"))) λ ÖM=>rt [(Str.ofString "zzzzzzzz"),ÖK,ÖM]))
   λ ys=>∀ y∈ys,y≠Str.ofString "?" :=by
 have hl:=ËX (bs:=bs)
 have hn:∀ n∈nms bs,n.length≤7:=λ n hn=>by
  obtain ⟨r,r1,rfl⟩:=Êd.mp hn
  exact n7 r r1
 obtain ⟨x0,m0,_,e0⟩:=ÏR (xs:=nms bs) (i:=0) (by omega) (by omega)
 obtain ⟨x1,m1,_,e1⟩:=ÏR (xs:=nms bs) (i:=((nms bs).length:Int)-1) (by omega) (by omega)
 have lm:(Str.ofString "m").length=1:=by decide
 have lq:(Str.ofString "q").length=1:=by decide
 have hm:Str.ofString "m" =⟨#[109]⟩:=by decide +kernel
 have hq:Str.ofString "q" =⟨#[113]⟩:=by decide +kernel
 have l0:=hn x0 m0
 have l1:=hn x1 m1
 have lc:(L2.cutS x1 (some 1) none).length≤8:=by
  rw[str_len]
  unfold L2.cutS
  simp only[List.toList_toArray,List.length_take,List.length_drop]
  rw[str_len] at l1
  omega
 rw[e0,ä,ÔM (by omega),ä,e1,ä,ä,ä]
 unfold cutS
 rw[if_pos (by rw[ÒD];omega),ä,ÔM (by omega),ä]
 refine Al.rt λ y hy=>?_
 simp only[List.mem_cons,List.not_mem_nil,or_false] at hy
 rcases hy with rfl|rfl|rfl
 ·decide
 ·rw[hm];exact Ùm (by decide)
 ·rw[hq];exact Ùm (by decide)
theorem Ýz (g:GoodR bs) (h1:1≤bs.length) {y:Str} (hy:y≠Str.ofString "?"):
  Al (bd (bd (rt (!(nms bs).contains y)) λ Ýk=>if Ýk=true then (bd (bd (bd (ixT (nms bs) (((nms bs).length:Int)-(1:Int))) λ ÖN=>rt (ÖN,(0:Int))) λ ÖO=>(Å0 (Ť bs) ÖO y)) λ Ýl=>rt !Ýl) else rt false) λ Ým=>if Ým=true then (bd (rt false) λ Ýn=>rt (Esc.rt Ýn)) else (rt (Esc.nx ())))
   (λ q=>q=(Esc.nx ():Esc Unit Bool)):=by
 have hl:=ËX (bs:=bs)
 obtain ⟨x1,m1,_,e1⟩:=ÏR (xs:=nms bs) (i:=((nms bs).length:Int)-1) (by omega) (by omega)
 rw[ä,Ï9]
 refine Is.bd (b:=false) (Al.ite (λ c=>?_) λ _=>Is.rt) (Al.neg (by simp) (Al.rt rfl))
 have hno:y∉nms bs:=by simpa using c
 obtain ⟨r,r1,rfl⟩:=Êd.mp m1
 rw[e1,ä,ä]
 exact Is.bd (Új g r1 hy λ q hq e=>hno (Êd.mpr ⟨q,hq,e⟩)) Is.rt
theorem áT:Al Úe (·= true):=by
 unfold Úe
 refine Al.bd (ßn 5 (by omega) (by omega)) λ rows h=>?_
 obtain ⟨bs,rfl,g,l1,l5,n7⟩:=h
 have hb:bs.length≤100:=by omega
 have gf:=ÓM g
 have lf:(bs.map flR).length=bs.length:=by simp
 have rl:=ÈX (bs:=bs)
 refine Is.bd (ÛJ g l1 l5) ?_
 refine Is.bd (b:=Ť (bs.map flR)) ?_ ?_
 ·refine Is.bd (b:=rws (bs.map flR)) ?_ (ÛJ gf (by omega) (by omega))
  rw[ä,ÕN (by omega),ä,List.map_map]
  exact Al.eq (by rw[←áQ];rfl) rfl
 refine Is.bd (b:=nms bs) ?_ ?_
 ·rw[ä,ÕN (by omega)]
  exact Al.rt rfl
 have hm:=Ñj (k:=none) g (λ x hx=>by cases hx) hb
 rw[show ò none=Str.ofString "?" from rfl] at hm
 refine Is.bd hm ?_
 refine Al.bR (loop1 g l5 λ s x=>rfl) (λ t ht=>?_) (λ _ h=>h.elim)
 refine Is.bd hm ?_
 refine Al.bR (I:=λ _=>True) (R:=λ _=>False) (Al.all λ x hx=>?_) (λ _ _=>?_) (λ _ h=>h.elim)
 ·refine Is.bd (Is.bd (ÛL g hb (λ n hn=>Êd.mp hn) (ÎD hx).1 λ v hv n hn=>?_) Is.rt) (Al.neg (by simp) (Al.rt rfl))
  exact ht v (ÛM hv) (some n) (Ìv hn)
 rw[ÒF (by rw[ËX];simp;omega),ä,Ð2]
 refine Al.bR (âz g l5 ht λ s x=>by rw[ÒF (by rw[ËX];simp;omega),Ð2]) (λ s hs=>?_) (λ _ h=>h.elim)
 refine Al.bR (I:=λ _=>True) (R:=λ _=>False) (Al.all λ x hx=>?_) (λ _ _=>?_) (λ _ h=>h.elim)
 ·refine Al.bX (I:=λ _=>True) (R:=λ _=>False) (Al.all λ y hy=>?_) (λ _ _=>Al.rt rfl) (λ _ h=>h.elim)
  exact Ýy g hb hs hx hy
 refine Al.bd (names3 g l1 n7) λ ys hys=>?_
 refine Al.bR (I:=λ _=>True) (R:=λ _=>False) (Al.all λ y hy=>?_) (λ _ _=>Is.rt) (λ _ h=>h.elim)
 exact Ýz g l1 (hys y hy)
end
end ť
namespace Ãy
open PySem Pu
theorem Úk:FS 1 1 Û.ÏW Ï0:=
 ÄL (md:=[0,0]) (Ú (ģ (Ðw (ć (ħ t_eq Õ Ãi.Ï).Ï) (ć (ħ àl (r_b Èu (í Õ Ę)).Ï ù.Ï).Ï)) (Ħ Á4) ď)
 (Ú (Ãj (Çx (È rfl)) (g_N rfl) (ģ (ć (ħ Õk Õ Ãi.Ï).Ï) (Ħ Á4) ď))
 (Ħ Á4))) (by decide) (Á5 rfl)
theorem Ôq:FS 0 1 Û.Ìh Ìn:=
 ÄL (md:=[0]) (Ú (ģ (Ãw (ć (ļ Úk (Ë (È rfl) ß)).Ï)) ÈU ď)
 (ÃH Õ)) (by decide) (Á5 rfl)
theorem ÄF:FS 1 2 Û.Ãl Äf:=ÞX
theorem Ða:FS 0 2 Û.Êw Êx:=
 ÄL (md:=[0,0]) (ÃH (ÀK (È rfl).ë (ļ ÄF (Ë (È rfl) (Ë (r_b Èu (í Õ Ę)).ì ß))).Ï).Às) (by decide) (Á5 rfl)
theorem Å2:∀ j,FS 1 2 (Û.ę j) (Ãm j)
 |0=>âc
 |j+1=>by
  have ih:=Å2 j
  exact ÄL (md:=[0,0,0]) (Ú (ģ (Ðw (ć (r_b Èv (í Õ (í Ê7.Ï Ę))).Ï) (ć (r_b Èv (í Õ (í Ê7.Ï Ę))).Ï)) (Ħ (Ðv (r_b Èv (í Õ (í Ê7.Ï Ę))).Ï (Ðv (r_b Èv (í Õ (í Ê7.Ï Ę))).Ï (ħ t_eq Õ Õ)))) ď)
 (Ú (ģ (Ðw (ć (ħ ÏB Õ ÃX.Ï).Ï) (ć (ħ ÏB Õ ÃX.Ï).Ï)) (Ħ (Ðv (ħ ÏB Õ ÃX.Ï).Ï (ħ ÏB Õ ÃX.Ï))) ď)
 (Ú (ģ (ć (r_b Èv (í Õ (í Ê7.Ï Ę))).Ï) (Ħ (Ðv (r_b Èv (í Õ (í Ê7.Ï Ę))).Ï (ħ t_eq Õ Õ))) ď)
 (Ú (ģ (ć (r_b Èv (í Õ (í Ê7.Ï Ę))).Ï) (Ħ (Ðv (r_b Èv (í Õ (í Ê7.Ï Ę))).Ï (ħ t_eq Õ Õ))) ď)
 (Ú (ģ (Òi (ć (r_b Èv (í Õ (í Ê7.Ï Ę))).Ï) (Ãw (ć (r_b Èv (í Õ (í Ê7.Ï Ę))).Ï))) (Ħ Á4) ď)
 (Ú (ģ (Òi (ć (r_b Èv (í Õ (í Ê7.Ï Ę))).Ï) (Ãw (ć (r_b Èv (í Õ (í Ê7.Ï Ę))).Ï))) (Ħ Á4) ď)
 (Ú (ģ (ć (ħ Õj (r_b Èu (í Õ Ę)).Ï (r_b Èu (í Õ Ę)).Ï).Ï) (Ħ Á4) ď)
 (Ú (Ãj (Ðz (í (r_b Èu (í Õ Ę)).Ï Ę)) (g_N rfl) (ģ (Ãw (ć (ļ ih (Ë (ÀK (È rfl).ë Õ) (Ë (ÀK (È rfl).ë Õ) ß))).Ï)) (Ħ Á4) ď))
 (Ħ Á4))))))))) (by decide) (Á5 rfl)
theorem Ôr:FS 1 2 Û.Ìj Ìo:=
 ÄL (md:=[0,0,0,0,0,0,0,1,0]) (Ú (Ľ rfl Ãi.ì)
 (Ú (Ľ rfl (ļ ÄF (Ë (È rfl) (Ë ù.ì ß))).ì)
 (Ú (Ľ rfl (ÊG Ða (Ë (È rfl) (Ë (ÇQ (Ø ù.ì (Ø ù.ì (Ø ù.ì (Ø ù.ì ċ))))).ì ß))))
 (Ú (Ľ rfl (Æm ÙO Ãi.Ça (ļ ÄF (Ë (È rfl) (Ë ù.ì ß))).Ça).ì)
 (Ú (Ľ rfl (Æm ÙO Ãi.Ça (ļ ÄF (Ë (È rfl) (Ë ù.ì ß))).Ça).ì)
 (Ú (Õo rfl (ÇQ ċ))
 (Ú (Ãj (Ðz (í Õ Ę)) (g_N rfl) (ÔF rfl ÌK (Ø (Æm Èw (Æm Èw (È rfl).ë (ÀK (È rfl).ë (ħ Ý1 (r_b Ý2 (í (Æm Èw (È rfl).ë (Æm ÙO (È rfl).ë (È rfl).ë).Ça).Ï Ę)).Ï ù.Ï).Ï).ë).Ça (È rfl).ë).ì ċ)))
 (Õn rfl)))))))) (by decide) (Á5 rfl)
theorem ÖY:FS 1 2 Û.Èn Íf:=
 ÄL (md:=[0,0,0,1,0,0,0,0,0,0]) (Ú (Ľ rfl (ļ Ôr (Ë (È rfl) (Ë (È rfl) ß))).ì)
 (Ú (Õo rfl (ÇQ ċ))
 (Ú (Ãj (Ðz (í (Æm Èw ù.Ça (ħ Ý1 (r_b Ý2 (í (Æm Èw ù.Ça (ļ ÄF (Ë (È rfl) (Ë (È rfl) ß))).Ça).Ï Ę)).Ï Õ).Ça).Ï Ę)) (g_N rfl) (Ú (Ľ rfl (ÊG Ða (Ë (È rfl) (Ë (ÇQ (Ø ù.ì (Ø ù.ì (Ø ù.ì (Ø ù.ì ċ))))).ì ß))))
 (Ú (Ľ rfl (ļ ÄF (Ë (È rfl) (Ë (Æm Èw (È rfl).ë ù.Ça).ì ß))).ì)
 (ģ (ć (ħ t_eq Õ ù.Ï).Ï) (ÔF rfl ÌK (Ø (ÃG (Ø (ÀK (È rfl).ë Õ) (Ø (È rfl) (Ø ÃX.ì (Ø (ÃG ċ).ì ċ))))).ì ċ)) (Ú (Ľ rfl (ÀK (àa rfl) (ħ ÙI Õ ù.Ï).Ï))
 (Ú (Ľ rfl (Õm (Ðz (í Õ Ę)) (g_N rfl) ÔE (ļ ÄF (Ë (È rfl) (Ë (ÀK (È rfl).ë ù.Ï) ß))).ì).ì)
 (ÔF rfl ÌK (Ø (ÃG (Ø (ÀK (È rfl).ë Õ) (Ø (È rfl) (Ø (ÀK (È rfl).ë ù.Ï) (Ø (Üb ÞT (Ól (È rfl).ë Õh)).ì ċ))))).ì ċ))))))))
 (Õn rfl)))) (by decide) (Á5 rfl)
theorem Øh:FS 0 2 Û.ÎI ÎJ:=
 ÄL (md:=[0,0,0]) (Ú (Ãj (Çx (È rfl)) (g_N rfl) (ģ (ć (ħ t_eq (ÀK (È rfl).ë ù.Ï).Às Õ).Ï) (ÃH Õ) ď))
 (ÃH (ÀK (È rfl).ë ù.Ï).Às)) (by decide) (Á5 rfl)
theorem Éz:FS 0 2 Û.Ņ ÅX:=
 ÄL (md:=[0,0,0,0,0]) (Ú (Ľ rfl (ÇQ ċ).ì)
 (Ú (Ãj (Çx (È rfl)) (g_N rfl) (ģ (Ðw (ć (ħ t_eq Õ Ãi.Ï).Ï) (ć (ħ t_eq Õ (ÀK (È rfl).ë ù.Ï).Às).Ï)) (Ľ rfl (Æm Èw (È rfl).ë (Õm (Ðz (í (ÀK (È rfl).ë ù.Ï).Às Ę)) (g_N rfl) ÔE (ÃG (Ø (ÀK (È rfl).ë ù.Ï) (Ø (È rfl) ċ))).ì).Ça).ì) ď))
 (ÃH Õ))) (by decide) (Á5 rfl)
theorem Øi:FS 0 3 Û.Ér ÎK:=
 ÄL (md:=[0,0,0,0,0]) (Ú (ģ (ć (ħ t_eq Õ Ãi.Ï).Ï) (ÃH Õ) ď)
 (Ú (Ãj (Ðz (í (r_b Èu (í Õ Ę)).Ï Ę)) (g_N rfl) (ģ (Òi (ć (ħ Ðy Õ ÃX.Ï).Ï) (ć (ħ Õj (ÀK (È rfl).ë ù.Ï).Às Õ).Ï)) (Ú (Ľ rfl (ÊG Øh (Ë (È rfl) (Ë (ÀK (È rfl).ë ù.Ï) ß))))
 (ģ (ć (ħ ÏB (ÀK (È rfl).ë ù.Ï).Às ÃX.Ï).Ï) (Ľ rfl ÃX.ì) (Ľ rfl (ÃG (Ø (ÀK (È rfl).ë ù.Ï) (Ø (ÀK (ÀK (È rfl).ë ù.Ï).ë (ÀK (È rfl).ë ù.Ï).Às) ċ))).ì))) ď))
 (ÃH Õ))) (by decide) (Á5 rfl)
theorem Ű:FS 0 2 Û.ĵ Ķ:=
 ÄL (md:=[0,0]) (Ú (ģ (ć (ħ Õq Õ (Îs (È rfl)).Às).Ï) ÈU ď)
 (ÃH Õ)) (by decide) (Á5 rfl)
theorem Å3:FS 0 2 Û.Á7 Á8:=
 ÄL (md:=[0,0]) (ÃH (ÀK (Õr (Îs (È rfl)) (ÅT Ű (È rfl) (Ë (È rfl) ß)).Às).ë ù.Ï).Às) (by decide) (Á5 rfl)
theorem ÎT:FS 0 2 Û.Çd Çf:=
 ÄL (md:=[0,0]) (ÃH (ÀK (Õr (Îs (È rfl)) (ÅT Ű (È rfl) (Ë (È rfl) ß)).Às).ë ù.Ï).Às) (by decide) (Á5 rfl)
theorem Ä1:FS 1 3 Û.ņ Â6:=
 ÄL (md:=[0,0,0,0,0,0]) (Ú (àr (g_T (Ú0 (g_N rfl) (Ú0 (g_N rfl) âb))) (È rfl))
 (Ú (Ìa (ÅT Ű (È rfl) (Ë (È rfl) ß)))
 (Ú (ģ (ć (ħ t_eq Õ Ãi.Ï).Ï) (Ħ (ÃG (Ø (È rfl) (Ø (È rfl) ċ)))) ď)
 (Ú (Ìa (ÅT Ű (È rfl) (Ë (È rfl) ß)))
 (Ú (ØI (ć (ħ Õj Õ Õ).Ï) (Ú (Ľ rfl (ÅT Å3 (È rfl) (Ë (È rfl) ß)))
 (Ú (ģ (ć (ħ ÏB Õ ÃX.Ï).Ï) (Ħ ÃX) ď)
 (Ú (Ľ rfl (ÀK (ÅT ÎT (È rfl) (Ë (È rfl) ß)).ë Õ))
 (Ľ rfl (È rfl))))))
 (Ħ (ÃG (Ø (È rfl) (Ø (È rfl) ċ))))))))) (by decide) (Á5 rfl)
theorem Ër:FS 1 3 Û.Æp Ær:=
 ÄL (md:=[0,0,0]) (Ú (ÙM (Ìa (Æ1 Ä1 (È rfl) (Ë (È rfl) (Ë (È rfl) ß)))) (λ c _ _ _=>(Ħ Á4)))
 (Ħ Á4)) (by decide) (Á5 rfl)
theorem ÎU:FS 1 2 Û.Çe Çg:=
 ÄL (md:=[0,0,1,0]) (Ú (Õo rfl (ÇQ (Ø (ÅT Ű (È rfl) (Ë (È rfl) ß)) ċ)))
 (Ú (Ľ rfl (ÅT Å3 (È rfl) (Ë (È rfl) ß)))
 (Ú (ØI (ć (ħ Ðy Õ ÃX.Ï).Ï) (Ú (ÔF rfl ÌK (Ø (È rfl) ċ))
 (Ľ rfl (ÅT Å3 (È rfl) (Ë (È rfl) ß)))))
 (Õn rfl)))) (by decide) (Á5 rfl)
theorem ÅI:FS 1 3 Û.Àu Â7:=
 ÄL (md:=[0,0,0,0,0]) (Ú (Ľ rfl (Üb ÚX (Ól (Îs (È rfl)).ë Õh)).ì)
 (Ú (ģ (ć (ħ Õj Õ Ãi.Ï).Ï) (Ľ rfl (ÇQ (Ø (ÅT Ű (È rfl) (Ë (È rfl) ß)) ċ)).ì) ď)
 (Ú (ģ (ć (ħ t_eq Õ Ãi.Ï).Ï) (Ħ Á4) ď)
 (Ú (Ìa (ÅT Ű (È rfl) (Ë (È rfl) ß)))
 (Ú (Ãj (Çx (È rfl)) (g_N rfl) (ģ (ć (ħ Õk Õ (Æ1 ÎU (È rfl) (Ë (È rfl) ß)).Ï).Ï) (Ħ Á4) ď))
 (Ħ Á4)))))) (by decide) (Á5 rfl)
theorem ÉO:FS 1 3 Û.ÄV ÄX:=
 ÄL (md:=[0,0,0]) (Ú (ÙM (Ìa (Æ1 ÅI (È rfl) (Ë (È rfl) (Ë (È rfl) ß)))) (λ c _ _ _=>(Ħ Á4)))
 (Ħ Á4)) (by decide) (Á5 rfl)
theorem Ës:FS 0 3 Û.Â5 Æs:=
 ÄL (md:=[0,0,0]) (Ú (ģ (ć (Æ1 ÅI (È rfl) (Ë (È rfl) (Ë (È rfl) ß))).Ï) (ÃH Õ) ď)
 (Ú (ģ (ć (Æ1 ÅI (È rfl) (Ë (È rfl) (Ë (È rfl) ß))).Ï) (ÃH Õ) ď)
 (ÃH ÃX.Ï))) (by decide) (Á5 rfl)
theorem ÉP:FS 1 3 Û.ÄW ÄY:=
 ÄL (md:=[0,0,0]) (Ú (ÙM (Ìa (ÅT Ës (È rfl) (Ë (È rfl) (Ë (È rfl) ß)))) (λ c _ _ _=>(Ħ Á4)))
 (Ħ Á4)) (by decide) (Á5 rfl)
theorem ÒY:FS 1 3 Û.ÅW Êb:=
 ÄL (md:=[0,0,0,0,0,0]) (Ú (Ľ rfl (ÀK (È rfl).ë ù.Ï))
 (Ú (Ãj (Çx (ÇQ (Ø Ãi.ì (Ø (È rfl) (Ø (È rfl) ċ)))).ì) (g_N rfl) (ģ (Ãw (ć (ļ Ër (Ë (È rfl) (Ë (ÃG (Ø (È rfl) (Ø ù.ì ċ))).ì (Ë (È rfl) ß)))).Ï)) (Ħ Á4) ď))
 (Ú (ģ (Ãw (ć (ļ Ër (Ë (È rfl) (Ë (È rfl) (Ë (È rfl) ß)))).Ï)) (Ħ Á4) ď)
 (Ú (Ãj (Çx (ÇQ (Ø Ãi.ì (Ø (È rfl) ċ))).ì) (g_N rfl) (ģ (Ðw (Ãw (ć (ļ ÉO (Ë (È rfl) (Ë (È rfl) (Ë (È rfl) ß)))).Ï)) (Ãw (ć (ļ ÉO (Ë (È rfl) (Ë (È rfl) (Ë (È rfl) ß)))).Ï))) (Ħ Á4) ď))
 (Ħ (Ðv (ļ ÉP (Ë (È rfl) (Ë (È rfl) (Ë (È rfl) ß)))).Ï (ļ ÉP (Ë (È rfl) (Ë (È rfl) (Ë (È rfl) ß)))))))))) (by decide) (Á5 rfl)
theorem ÓN:FS 1 4 Û.ÆF Ëa:=
 ÄL (md:=[0,0,0,0,0,0,0]) (Ú (Ãj (Çx (È rfl)) (g_N rfl) (ģ (ć (ħ Ðy (Òq (È rfl) (ÃG (Ø (È rfl) (Ø (È rfl) ċ))).Ï).Às ÃX.Ï).Ï) (Ãj (Çx (È rfl)) (g_N rfl) (ģ (ć (ħ Ðy (Òq (È rfl) (ÃG (Ø (Òq (È rfl) (ÃG (Ø (È rfl) (Ø (È rfl) ċ))).Ï) (Ø (È rfl) ċ))).Ï).Às ÃX.Ï).Ï) (Ú (Ľ rfl (Ý4 (Æ1 Ä1 (È rfl) (Ë (Ý4 (Æ1 Ä1 (È rfl) (Ë (È rfl) (Ë (È rfl) ß)))).ì (Ë (È rfl) ß)))).ì)
 (ģ (Ãw (ć (ļ (Å2 4) (Ë (È rfl) (Ë (Òq (È rfl) (ÃG (Ø (È rfl) (Ø (È rfl) ċ))).Ï) ß))).Ï)) (Ħ Á4) ď)) ď)) ď))
 (Ħ Á4)) (by decide) (Á5 rfl)
theorem ÍX:FS 1 5 Û.Æq Æt:=
 ÄL (md:=[0,0,0,0,0,0]) (Ú (Ìa (ÊG Ôq (Ë (È rfl) ß)))
 (Ú (ģ (ć (ħ âd Õ (Îs (È rfl)).Às).Ï) ÈU ď)
 (Ú (ģ (Ãw (ć (ØE Üe Üe ù.Ï Õ ù.Ï).Ï)) ÈU ď)
 (Ú (ģ (ć (ħ ÏB Õ ÃX.Ï).Ï) (Ú (ģ (ć (ħ àl (r_b Èu (í Õ Ę)).Ï ù.Ï).Ï) ÈU ď)
 àq) ď)
 (Ú (ģ (ć (ħ Õq Õ (Îs (È rfl)).Às).Ï) ÈU ď)
 (Ú (ģ (ć (ħ Õj (r_b Èu (í Õ Ę)).Ï Õ).Ï) ÈU ď)
 (Ãj (Çx (È rfl)) (g_N rfl) (ģ (Ãw (ć (ØE Üe á8 ù.Ï Õ (ÀK (Õr (Îs (È rfl)) Õ).ë ù.Ï).Às).Ï)) ÈU ď)))))))) (by decide) (Á5 rfl)
theorem Ì4:FS 1 1 (Fr.Ðq (Str.ofString "Kindbook") Û.ŀ) Êc:=Þ0 ÍX
theorem ÝA:Û.Ù5=Fr.Æ (Fr.Ô 1 (Fr.Ò Û.Ìi (Fr.Á (Fr.À 0) Fr.Ä))) (Fr.Æ (Fr.Ô 2 (Fr.Ò Û.Èn (Fr.Á (Fr.À 1) (Fr.Á (Fr.eC (.int 5)) Fr.Ä)))) (Fr.Æ (Fr.Ô 3 (Fr.ËA (Str.ofString "Kindbook") Û.ŀ (Fr.Á (Fr.eB Fr.ÁH (Fr.Á (Fr.À 2) Fr.Ä)) Fr.Ä))) (Fr.Æ (Fr.Ô 4 (Fr.ËA (Str.ofString "Kindbook") Û.ŀ (Fr.Á (Fr.eLc (Fr.iE (Fr.À 2)) (Fr.gN 15) Fr.tYs (Fr.ô (Fr.Á (Fr.É Fr.ã (Fr.À 15) (Fr.eC (.int 0))) (Fr.Á (Fr.É Fr.ã (Fr.À 15) (Fr.eC (.int 1))) (Fr.Á (Fr.eC .non) (Fr.Á (Fr.ô Fr.Ä) Fr.Ä))))) [15]) Fr.Ä))) (Fr.Æ (Fr.Ô 5 (Fr.eLc (Fr.iE (Fr.À 2)) (Fr.gN 15) Fr.tYs (Fr.É Fr.ã (Fr.À 15) (Fr.eC (.int 0))) [15])) (Fr.Æ (Fr.Ô 6 Fr.ÌH) (Fr.Æ (Fr.ê (Fr.iE (Fr.Ò Û.Ņ (Fr.Á (Fr.À 2) (Fr.Á (Fr.eC (.str (Str.ofString "?"))) Fr.Ä)))) (Fr.gN 7) (Fr.ê (Fr.iE (Fr.É Fr.ĉ (Fr.À 5) (Fr.ĩ (Fr.Á (Fr.eC (.str (Str.ofString "?"))) Fr.Ä)))) (Fr.gN 12) (Fr.Æ (Fr.Ô 16 (Fr.Ò Û.Ér (Fr.Á (Fr.À 2) (Fr.Á (Fr.À 7) (Fr.Á (Fr.À 12) Fr.Ä))))) (Fr.Æ (Fr.Éd (Fr.À 6) (Fr.ô (Fr.Á (Fr.À 7) (Fr.Á (Fr.À 12) Fr.Ä))) (Fr.À 16)) (Fr.Æ (Fr.Ù (Fr.tNot (Fr.tB (Fr.Ò (Û.ę 4) (Fr.Á (Fr.å (Str.ofString "Kindbook") (Str.ofString "led") Û.ņ (Fr.À 3) (Fr.Á (Fr.À 7) (Fr.Á (Fr.À 12) Fr.Ä))) (Fr.Á (Fr.À 16) Fr.Ä))))) (Fr.Ð (Fr.eC (.bl false))) Fr.Ñ) (Fr.Æ (Fr.Ô 17 (Fr.eIf (Fr.tOr (Fr.tB (Fr.É Fr.Ė (Fr.À 12) (Fr.eC (.str (Str.ofString "?"))))) (Fr.tB (Fr.É Fr.Ė (Fr.À 12) (Fr.É Fr.ã (Fr.À 7) (Fr.eC (.int 0)))))) (Fr.À 7) (Fr.eC .non))) (Fr.Ù (Fr.tNot (Fr.tB (Fr.Ò (Û.ę 4) (Fr.Á (Fr.å (Str.ofString "Kindbook") (Str.ofString "led") Û.ņ (Fr.À 4) (Fr.Á (Fr.À 7) (Fr.Á (Fr.À 12) Fr.Ä))) (Fr.Á (Fr.À 17) Fr.Ä))))) (Fr.Ð (Fr.eC (.bl false))) Fr.Ñ))))))) (Fr.Æ (Fr.ê (Fr.iE (Fr.Ò Û.Ņ (Fr.Á (Fr.À 2) (Fr.Á (Fr.eC (.str (Str.ofString "?"))) Fr.Ä)))) (Fr.gN 7) (Fr.Ù (Fr.tNot (Fr.tB (Fr.Ò Û.ÆF (Fr.Á (Fr.À 3) (Fr.Á (Fr.À 6) (Fr.Á (Fr.À 7) (Fr.Á (Fr.À 5) Fr.Ä))))))) (Fr.Ð (Fr.eC (.bl false))) Fr.Ñ)) (Fr.Æ (Fr.Ô 8 Fr.ÌH) (Fr.Æ (Fr.ê (Fr.iE (Fr.É Fr.ĉ (Fr.À 5) (Fr.ĩ (Fr.Á (Fr.eC (.str (Str.ofString "?"))) Fr.Ä)))) (Fr.gN 9) (Fr.ê (Fr.iE (Fr.É Fr.ĉ (Fr.À 5) (Fr.ĩ (Fr.Á (Fr.eC (.str (Str.ofString "?"))) Fr.Ä)))) (Fr.gN 13) (Fr.Æ (Fr.Ô 18 (Fr.eLc (Fr.iE (Fr.Ò Û.Ņ (Fr.Á (Fr.À 2) (Fr.Á (Fr.À 9) Fr.Ä)))) (Fr.gN 19) (Fr.tB (Fr.É Fr.œ (Fr.É Fr.Ũ (Fr.À 6) (Fr.ô (Fr.Á (Fr.À 19) (Fr.Á (Fr.À 13) Fr.Ä)))) (Fr.eC .non))) (Fr.À 19) [19])) (Fr.Æ (Fr.Éd (Fr.À 8) (Fr.ô (Fr.Á (Fr.À 9) (Fr.Á (Fr.À 13) Fr.Ä))) (Fr.É Fr.Ė (Fr.eB Fr.ö (Fr.Á (Fr.À 18) Fr.Ä)) (Fr.eC (.int 0)))) (Fr.Ù (Fr.tNot (Fr.tB (Fr.Ò (Û.ę 4) (Fr.Á (Fr.å (Str.ofString "Kindbook") (Str.ofString "below") Û.Àu (Fr.À 3) (Fr.Á (Fr.À 9) (Fr.Á (Fr.À 13) Fr.Ä))) (Fr.Á (Fr.É Fr.Ė (Fr.eB Fr.ö (Fr.Á (Fr.À 18) Fr.Ä)) (Fr.eC (.int 0))) Fr.Ä))))) (Fr.Ð (Fr.eC (.bl false))) Fr.Ñ))))) (Fr.Æ (Fr.ê (Fr.iE (Fr.À 5)) (Fr.gN 10) (Fr.ê (Fr.iE (Fr.À 5)) (Fr.gN 14) (Fr.Æ (Fr.Ô 16 (Fr.eC .non)) (Fr.Æ (Fr.Ù (Fr.tV (Fr.É Fr.Ũ (Fr.À 8) (Fr.ô (Fr.Á (Fr.À 10) (Fr.Á (Fr.À 14) Fr.Ä))))) (Fr.Ô 16 (Fr.À 10)) (Fr.Ù (Fr.tV (Fr.É Fr.Ũ (Fr.À 8) (Fr.ô (Fr.Á (Fr.À 14) (Fr.Á (Fr.À 10) Fr.Ä))))) (Fr.Ô 16 (Fr.À 14)) Fr.Ñ)) (Fr.Ù (Fr.tNot (Fr.tB (Fr.Ò (Û.ę 4) (Fr.Á (Fr.å (Str.ofString "Kindbook") (Str.ofString "finer") Û.Â5 (Fr.À 3) (Fr.Á (Fr.À 10) (Fr.Á (Fr.À 14) Fr.Ä))) (Fr.Á (Fr.À 16) Fr.Ä))))) (Fr.Ð (Fr.eC (.bl false))) Fr.Ñ))))) (Fr.Æ (Fr.ê (Fr.iE (Fr.ĩ (Fr.Á (Fr.eC (.str (Str.ofString "zzzzzzzz"))) (Fr.Á (Fr.É Fr.ĉ (Fr.É Fr.ã (Fr.À 5) (Fr.eC (.int 0))) (Fr.eC (.str (Str.ofString "m")))) (Fr.Á (Fr.É Fr.ĉ (Fr.eSl (Fr.É Fr.ã (Fr.À 5) (Fr.É Fr.Æ6 (Fr.eB Fr.ö (Fr.Á (Fr.À 5) Fr.Ä)) (Fr.eC (.int 1)))) (Fr.Ès (Fr.eC (.int 1))) Fr.È5) (Fr.eC (.str (Str.ofString "q")))) Fr.Ä))))) (Fr.gN 11) (Fr.Ù (Fr.tAnd (Fr.tB (Fr.É Fr.ÁC (Fr.À 11) (Fr.À 5))) (Fr.tNot (Fr.tB (Fr.Ò Û.ÅW (Fr.Á (Fr.À 3) (Fr.Á (Fr.ô (Fr.Á (Fr.É Fr.ã (Fr.À 5) (Fr.É Fr.Æ6 (Fr.eB Fr.ö (Fr.Á (Fr.À 5) Fr.Ä)) (Fr.eC (.int 1)))) (Fr.Á (Fr.eC (.int 0)) Fr.Ä))) (Fr.Á (Fr.À 11) Fr.Ä))))))) (Fr.Ð (Fr.eC (.bl false))) Fr.Ñ)) (Fr.Ð (Fr.eC (.bl true)))))))))))))):=rfl
theorem áU:PS 0 [0,0,0,0,0,0,1,0,1,0,0,0,0,0,0,0,0,0,0,0] ((Fr.Æ (Fr.Ô 2 (Fr.Ò Û.Èn (Fr.Á (Fr.À 1) (Fr.Á (Fr.eC (.int 5)) Fr.Ä)))) (Fr.Æ (Fr.Ô 3 (Fr.ËA (Str.ofString "Kindbook") Û.ŀ (Fr.Á (Fr.eB Fr.ÁH (Fr.Á (Fr.À 2) Fr.Ä)) Fr.Ä))) (Fr.Æ (Fr.Ô 4 (Fr.ËA (Str.ofString "Kindbook") Û.ŀ (Fr.Á (Fr.eLc (Fr.iE (Fr.À 2)) (Fr.gN 15) Fr.tYs (Fr.ô (Fr.Á (Fr.É Fr.ã (Fr.À 15) (Fr.eC (.int 0))) (Fr.Á (Fr.É Fr.ã (Fr.À 15) (Fr.eC (.int 1))) (Fr.Á (Fr.eC .non) (Fr.Á (Fr.ô Fr.Ä) Fr.Ä))))) [15]) Fr.Ä))) (Fr.Æ (Fr.Ô 5 (Fr.eLc (Fr.iE (Fr.À 2)) (Fr.gN 15) Fr.tYs (Fr.É Fr.ã (Fr.À 15) (Fr.eC (.int 0))) [15])) (Fr.Æ (Fr.Ô 6 Fr.ÌH) (Fr.Æ (Fr.ê (Fr.iE (Fr.Ò Û.Ņ (Fr.Á (Fr.À 2) (Fr.Á (Fr.eC (.str (Str.ofString "?"))) Fr.Ä)))) (Fr.gN 7) (Fr.ê (Fr.iE (Fr.É Fr.ĉ (Fr.À 5) (Fr.ĩ (Fr.Á (Fr.eC (.str (Str.ofString "?"))) Fr.Ä)))) (Fr.gN 12) (Fr.Æ (Fr.Ô 16 (Fr.Ò Û.Ér (Fr.Á (Fr.À 2) (Fr.Á (Fr.À 7) (Fr.Á (Fr.À 12) Fr.Ä))))) (Fr.Æ (Fr.Éd (Fr.À 6) (Fr.ô (Fr.Á (Fr.À 7) (Fr.Á (Fr.À 12) Fr.Ä))) (Fr.À 16)) (Fr.Æ (Fr.Ù (Fr.tNot (Fr.tB (Fr.Ò (Û.ę 4) (Fr.Á (Fr.å (Str.ofString "Kindbook") (Str.ofString "led") Û.ņ (Fr.À 3) (Fr.Á (Fr.À 7) (Fr.Á (Fr.À 12) Fr.Ä))) (Fr.Á (Fr.À 16) Fr.Ä))))) (Fr.Ð (Fr.eC (.bl false))) Fr.Ñ) (Fr.Æ (Fr.Ô 17 (Fr.eIf (Fr.tOr (Fr.tB (Fr.É Fr.Ė (Fr.À 12) (Fr.eC (.str (Str.ofString "?"))))) (Fr.tB (Fr.É Fr.Ė (Fr.À 12) (Fr.É Fr.ã (Fr.À 7) (Fr.eC (.int 0)))))) (Fr.À 7) (Fr.eC .non))) (Fr.Ù (Fr.tNot (Fr.tB (Fr.Ò (Û.ę 4) (Fr.Á (Fr.å (Str.ofString "Kindbook") (Str.ofString "led") Û.ņ (Fr.À 4) (Fr.Á (Fr.À 7) (Fr.Á (Fr.À 12) Fr.Ä))) (Fr.Á (Fr.À 17) Fr.Ä))))) (Fr.Ð (Fr.eC (.bl false))) Fr.Ñ))))))) (Fr.Æ (Fr.ê (Fr.iE (Fr.Ò Û.Ņ (Fr.Á (Fr.À 2) (Fr.Á (Fr.eC (.str (Str.ofString "?"))) Fr.Ä)))) (Fr.gN 7) (Fr.Ù (Fr.tNot (Fr.tB (Fr.Ò Û.ÆF (Fr.Á (Fr.À 3) (Fr.Á (Fr.À 6) (Fr.Á (Fr.À 7) (Fr.Á (Fr.À 5) Fr.Ä))))))) (Fr.Ð (Fr.eC (.bl false))) Fr.Ñ)) (Fr.Æ (Fr.Ô 8 Fr.ÌH) (Fr.Æ (Fr.ê (Fr.iE (Fr.É Fr.ĉ (Fr.À 5) (Fr.ĩ (Fr.Á (Fr.eC (.str (Str.ofString "?"))) Fr.Ä)))) (Fr.gN 9) (Fr.ê (Fr.iE (Fr.É Fr.ĉ (Fr.À 5) (Fr.ĩ (Fr.Á (Fr.eC (.str (Str.ofString "?"))) Fr.Ä)))) (Fr.gN 13) (Fr.Æ (Fr.Ô 18 (Fr.eLc (Fr.iE (Fr.Ò Û.Ņ (Fr.Á (Fr.À 2) (Fr.Á (Fr.À 9) Fr.Ä)))) (Fr.gN 19) (Fr.tB (Fr.É Fr.œ (Fr.É Fr.Ũ (Fr.À 6) (Fr.ô (Fr.Á (Fr.À 19) (Fr.Á (Fr.À 13) Fr.Ä)))) (Fr.eC .non))) (Fr.À 19) [19])) (Fr.Æ (Fr.Éd (Fr.À 8) (Fr.ô (Fr.Á (Fr.À 9) (Fr.Á (Fr.À 13) Fr.Ä))) (Fr.É Fr.Ė (Fr.eB Fr.ö (Fr.Á (Fr.À 18) Fr.Ä)) (Fr.eC (.int 0)))) (Fr.Ù (Fr.tNot (Fr.tB (Fr.Ò (Û.ę 4) (Fr.Á (Fr.å (Str.ofString "Kindbook") (Str.ofString "below") Û.Àu (Fr.À 3) (Fr.Á (Fr.À 9) (Fr.Á (Fr.À 13) Fr.Ä))) (Fr.Á (Fr.É Fr.Ė (Fr.eB Fr.ö (Fr.Á (Fr.À 18) Fr.Ä)) (Fr.eC (.int 0))) Fr.Ä))))) (Fr.Ð (Fr.eC (.bl false))) Fr.Ñ))))) (Fr.Æ (Fr.ê (Fr.iE (Fr.À 5)) (Fr.gN 10) (Fr.ê (Fr.iE (Fr.À 5)) (Fr.gN 14) (Fr.Æ (Fr.Ô 16 (Fr.eC .non)) (Fr.Æ (Fr.Ù (Fr.tV (Fr.É Fr.Ũ (Fr.À 8) (Fr.ô (Fr.Á (Fr.À 10) (Fr.Á (Fr.À 14) Fr.Ä))))) (Fr.Ô 16 (Fr.À 10)) (Fr.Ù (Fr.tV (Fr.É Fr.Ũ (Fr.À 8) (Fr.ô (Fr.Á (Fr.À 14) (Fr.Á (Fr.À 10) Fr.Ä))))) (Fr.Ô 16 (Fr.À 14)) Fr.Ñ)) (Fr.Ù (Fr.tNot (Fr.tB (Fr.Ò (Û.ę 4) (Fr.Á (Fr.å (Str.ofString "Kindbook") (Str.ofString "finer") Û.Â5 (Fr.À 3) (Fr.Á (Fr.À 10) (Fr.Á (Fr.À 14) Fr.Ä))) (Fr.Á (Fr.À 16) Fr.Ä))))) (Fr.Ð (Fr.eC (.bl false))) Fr.Ñ))))) (Fr.Æ (Fr.ê (Fr.iE (Fr.ĩ (Fr.Á (Fr.eC (.str (Str.ofString "zzzzzzzz"))) (Fr.Á (Fr.É Fr.ĉ (Fr.É Fr.ã (Fr.À 5) (Fr.eC (.int 0))) (Fr.eC (.str (Str.ofString "m")))) (Fr.Á (Fr.É Fr.ĉ (Fr.eSl (Fr.É Fr.ã (Fr.À 5) (Fr.É Fr.Æ6 (Fr.eB Fr.ö (Fr.Á (Fr.À 5) Fr.Ä)) (Fr.eC (.int 1)))) (Fr.Ès (Fr.eC (.int 1))) Fr.È5) (Fr.eC (.str (Str.ofString "q")))) Fr.Ä))))) (Fr.gN 11) (Fr.Ù (Fr.tAnd (Fr.tB (Fr.É Fr.ÁC (Fr.À 11) (Fr.À 5))) (Fr.tNot (Fr.tB (Fr.Ò Û.ÅW (Fr.Á (Fr.À 3) (Fr.Á (Fr.ô (Fr.Á (Fr.É Fr.ã (Fr.À 5) (Fr.É Fr.Æ6 (Fr.eB Fr.ö (Fr.Á (Fr.À 5) Fr.Ä)) (Fr.eC (.int 1)))) (Fr.Á (Fr.eC (.int 0)) Fr.Ä))) (Fr.Á (Fr.À 11) Fr.Ä))))))) (Fr.Ð (Fr.eC (.bl false))) Fr.Ñ)) (Fr.Ð (Fr.eC (.bl true))))))))))))))) Þk:=
 (Ú (Ľ rfl (ļ ÖY (Ë (È rfl) (Ë ù.ì ß))).ì)
 (Ú (Ľ rfl (Ú4 Ì4 (Ë (Üb ÚX (Ól (È rfl).ë Õh)).ì ß)).ì)
 (Ú (Ľ rfl (Ú4 Ì4 (Ë (Õm (ÙK (È rfl).ë) (g_N rfl) ÔE (ÃG (Ø (ÀK (È rfl).ë ù.Ï) (Ø (ÀK (È rfl).ë ù.Ï) (Ø ÃX.ì (Ø (ÃG ċ).ì ċ))))).ì).ì ß)).ì)
 (Ú (Ľ rfl (Õm (ÙK (È rfl).ë) (g_N rfl) ÔE (ÀK (È rfl).ë ù.Ï)).ì)
 (Ú (Ú6 rfl)
 (Ú (Ãj (Çx (ÊG Éz (Ë (È rfl) (Ë Ãi.ì ß)))) (g_N rfl) (Ãj (Çx (Æm Èw (È rfl).ë (ÇQ (Ø Ãi.ì ċ)).Ça).ì) (g_N rfl) (Ú (Ľ rfl (ÊG Øi (Ë (È rfl) (Ë (È rfl) (Ë (È rfl) ß)))))
 (Ú (Ú7 rfl (ÃG (Ø (È rfl) (Ø (È rfl) ċ))).Ï (È rfl))
 (Ú (ģ (Ãw (ć (ļ (Å2 4) (Ë (Æ1 Ä1 (È rfl) (Ë (È rfl) (Ë (È rfl) ß))).ì (Ë (È rfl) ß))).Ï)) (ÃH Á4.Ï) ď)
 (Ú (Ľ rfl (àf (Ðw (ć (ħ t_eq Õ Ãi.Ï).Ï) (ć (ħ t_eq Õ (ÀK (È rfl).ë ù.Ï).Às).Ï)) (È rfl) ÃX.ì))
 (ģ (Ãw (ć (ļ (Å2 4) (Ë (Æ1 Ä1 (È rfl) (Ë (È rfl) (Ë (È rfl) ß))).ì (Ë (È rfl) ß))).Ï)) (ÃH Á4.Ï) ď)))))))
 (Ú (Ãj (Çx (ÊG Éz (Ë (È rfl) (Ë Ãi.ì ß)))) (g_N rfl) (ģ (Ãw (ć (Üp ÓN (ÑD (È rfl) (Üo rfl (ÑD (È rfl) (ÑD (È rfl) Þ2))))).Ï)) (ÃH Á4.Ï) ď))
 (Ú (Ú6 rfl)
 (Ú (Ãj (Çx (Æm Èw (È rfl).ë (ÇQ (Ø Ãi.ì ċ)).Ça).ì) (g_N rfl) (Ãj (Çx (Æm Èw (È rfl).ë (ÇQ (Ø Ãi.ì ċ)).Ça).ì) (g_N rfl) (Ú (Ľ rfl (Õm (ÙK (ÊG Éz (Ë (È rfl) (Ë (È rfl) ß))).ë) (g_N rfl) (ć (ħ ÏB (Óq rfl (ÃG (Ø (È rfl) (Ø (È rfl) ċ))).Ï).Às ÃX.Ï).Ï) (È rfl)).ì)
 (Ú (Ú7 rfl (ÃG (Ø (È rfl) (Ø (È rfl) ċ))).Ï (ħ t_eq (r_b Èu (í Õ Ę)).Ï ù.Ï).ì)
 (ģ (Ãw (ć (ļ (Å2 4) (Ë (Æ1 ÅI (È rfl) (Ë (È rfl) (Ë (È rfl) ß))).ì (Ë (ħ t_eq (r_b Èu (í Õ Ę)).Ï ù.Ï).ì ß))).Ï)) (ÃH Á4.Ï) ď)))))
 (Ú (Ãj (Çx (È rfl)) (g_N rfl) (Ãj (Çx (È rfl)) (g_N rfl) (Ú (Ľ rfl ÃX.ì)
 (Ú (ģ (àp (Óq rfl (ÃG (Ø (È rfl) (Ø (È rfl) ċ))).Ï).Às) (Ľ rfl (È rfl)) (ģ (àp (Óq rfl (ÃG (Ø (È rfl) (Ø (È rfl) ċ))).Ï).Às) (Ľ rfl (È rfl)) ď))
 (ģ (Ãw (ć (ļ (Å2 4) (Ë (ÅT Ës (È rfl) (Ë (È rfl) (Ë (È rfl) ß))) (Ë (È rfl) ß))).Ï)) (ÃH Á4.Ï) ď)))))
 (Ú (Ãj (Çx (ÇQ (Ø Ãi.ì (Ø (Æm Èw (ÀK (È rfl).ë ù.Ï).ë Ãi.Ça).ì (Ø (Æm Èw (ãg (ÀK (È rfl).ë (ħ ÙI (r_b Èu (í Õ Ę)).Ï ù.Ï).Ï).ë (ÞQ ù.Ï) ÞP).Ça Ãi.Ça).ì ċ)))).ì) (g_N rfl) (ģ (Òi (ć (ħ Õk Õ Õ).Ï) (Ãw (ć (ļ ÒY (Ë (È rfl) (Ë (ÃG (Ø (ÀK (È rfl).ë (ħ ÙI (r_b Èu (í Õ Ę)).Ï ù.Ï).Ï) (Ø ù.ì ċ))).ì (Ë (È rfl) ß)))).Ï))) (ÃH Á4.Ï) ď))
 (ÃH Á4.Ï))))))))))))
end Ãy
namespace Û
open PySem
theorem plain:∀ ns:List Int,ns.length≤63→∃ S,Þj [.fl (ns.map .int)] []=.ok (.bl true) S:=
 Pu.Üh (k:=18) Ãy.ÝA Ãy.áU (Pu.Á5 rfl) rfl λ dw=>Ty.Óc ť.áN ť.áT _ dw ⟨rfl,Ty.ÐU [] 18⟩
end Û
namespace Û
open PySem PySem.Spec PyProof.Rows L2 Fr
theorem ÀP {N P:List Str} {sc:Scope} (a:sc.kind=.function:=by rfl) (b:sc.isCoroutine=false:=by rfl) (c:sc.isGenerator=false:=by rfl) (d:N.Nodup:=by decide +kernel) (e:N.take P.length=P:=by rfl) (f:∀ x∈P,sc.names.lookup x=some .local∨sc.names.lookup x=some .cell:=by decide +kernel) (g:∀ y∈sc.names,y.2≠.free:=by decide +kernel):FnScope N P sc:=⟨a,b,c,d,e,f,g⟩
theorem ÒZ:FnScope ["text", "char"] ["text"] (defScope Í8):=ÀP
theorem Ôs:FnScope ["text"] ["text"] (defScope Ê3):=ÀP
theorem À1:FnScope ["_law_script", "_law_draws_here", "_law_cell", "_law_rest", "_law_k"] ["_law_script"] (defScope Ê4):=ÀP
theorem ÖZ:FnScope ["_law_draws_here", "_law_many"] ["_law_draws_here", "_law_many"] (defScope Ë3):=ÀP
theorem Ö0:FnScope ["_law_draws_here", "_law_things"] ["_law_draws_here", "_law_things"] (defScope Ë4):=ÀP
theorem Ðb:FnScope ["_law_actual", "_law_due", "_law_k"] ["_law_actual", "_law_due"] (defScope Ë5):=ÀP
theorem Âk:FnScope ["_law_draws_here", "_law_many", "_law_letters", "_law_start", "_law_step", "_law_ahead", "_law_behind", "_law_names_here", "_law_k"] ["_law_draws_here", "_law_many"] (defScope Ê5):=ÀP
theorem Âa:FnScope ["_law_draws_here", "_law_most", "_law_names_here", "_law_rows", "_law_k", "_law_size", "_law_at", "_law_parent", "_law_leads", "_law_n"] ["_law_draws_here", "_law_most"] (defScope È7):=ÀP
theorem Ñk:FnScope ["_law_rows", "_law_name", "_law_row_here"] ["_law_rows", "_law_name"] (defScope Ì6):=ÀP
theorem ÃI:FnScope ["_law_rows", "_law_kind", "_law_members_here", "_law_row_here", "_law_n"] ["_law_rows", "_law_kind"] (defScope Ço):=ÀP
theorem Èp:FnScope ["_law_rows", "_law_value", "_law_kind", "_law_k", "_law_row_here"] ["_law_rows", "_law_value", "_law_kind"] (defScope Ì7):=ÀP
theorem Ïg:FnScope ["self", "name"] ["self", "name"] (defScope Æ7):=ÀP
theorem ÍY:FnScope ["self", "name"] ["self", "name"] (defScope ÅM):=ÀP
theorem ÎV:FnScope ["self", "name"] ["self", "name"] (defScope Æf):=ÀP
theorem ÃJ:FnScope ["self", "value", "kind", "name", "number", "parent"] ["self", "value", "kind"] (defScope È8):=ÀP
theorem Ð4:FnScope ["_law_book_here", "_law_value", "_law_kind"] ["_law_book_here", "_law_value", "_law_kind"] (defScope Ç6):=ÀP
theorem Ã1:FnScope ["self", "name", "chain", "parent"] ["self", "name"] (defScope Æg):=ÀP
theorem ÅJ:FnScope ["self", "lower", "upper", "names", "name"] ["self", "lower", "upper"] (defScope Ç7):=ÀP
theorem Ïh:FnScope ["_law_book_here", "_law_lower", "_law_upper"] ["_law_book_here", "_law_lower", "_law_upper"] (defScope Æ8):=ÀP
theorem Ð5:FnScope ["self", "first", "second"] ["self", "first", "second"] (defScope Ç8):=ÀP
theorem Ïi:FnScope ["_law_book_here", "_law_first", "_law_second"] ["_law_book_here", "_law_first", "_law_second"] (defScope Æ9):=ÀP
theorem Çs:FnScope ["_law_book_here", "_law_value", "_law_name", "_law_kind", "_law_target", "_law_known"] ["_law_book_here", "_law_value", "_law_name"] (defScope È9):=ÀP
theorem Ç0:FnScope ["_law_book_here", "_law_table", "_law_value", "_law_told", "_law_kind", "_law_target", "_law_led_here"] ["_law_book_here", "_law_table", "_law_value", "_law_told"] (defScope ÉV):=ÀP
theorem È1:FnScope ["self", "name", "size", "parent", "leads", "number"] ["self", "name", "size", "parent", "leads"] (defScope ÅN):=ÀP
theorem Âb:FnScope ["self", "rows", "name", "size", "parent", "leads"] ["self", "rows"] (defScope Æh):=ÀP
theorem Ŗ:FnScope ["_law_script", "_law_draws_here", "_law_rows", "_law_book_here", "_law_other", "_law_told", "_law_table", "_law_value", "_law_under", "_law_lower", "_law_first", "_law_name", "_law_kind", "_law_upper", "_law_second", "_law_row_here", "_law_due", "_law_alone", "_law_stopped", "_law_one"] ["_law_script"] (defScope Èe):=ÀP
structure Tx (K:PySem.W.Frag) (mg:Str→Option Value) where
 Ðc:Addr
 Ðd:FuncData
 Ôk:Fun K "is_name" "is_name" Í8 Ðc Ðd
 ÛO:Binds K Ðd ["text"] []
 ÛP:mg "is_name" =some (.ref Ðc)
 Ìw:Addr
 Ìx:FuncData
 Ðe:Fun K "check_name" "check_name" Ê3 Ìw Ìx
 Ö1:Binds K Ìx ["text"] []
 Ö2:mg "check_name" =some (.ref Ìw)
 Ìy:Addr
 Ìz:FuncData
 Ðf:Fun K "_law_draws" "_law_draws" Ê4 Ìy Ìz
 Ö3:Binds K Ìz ["_law_script"] []
 Ö4:mg "_law_draws" =some (.ref Ìy)
 Íi:Addr
 Íj:FuncData
 Äg:Fun K "_law_draw" "_law_draw" Ë3 Íi Íj
 Åx:Binds K Íj ["_law_draws_here", "_law_many"] []
 Åy:mg "_law_draw" =some (.ref Íi)
 Ík:Addr
 Íl:FuncData
 Ím:Fun K "_law_pick" "_law_pick" Ë4 Ík Íl
 Ñl:Binds K Íl ["_law_draws_here", "_law_things"] []
 Ñm:mg "_law_pick" =some (.ref Ík)
 Ín:Addr
 Ío:FuncData
 Åz:Fun K "_law_same" "_law_same" Ë5 Ín Ío
 Æ3:Binds K Ío ["_law_actual", "_law_due"] []
 Æ4:mg "_law_same" =some (.ref Ín)
 ÌA:Addr
 ÌB:FuncData
 Ðg:Fun K "_law_names" "_law_names" Ê5 ÌA ÌB
 Ö5:Binds K ÌB ["_law_draws_here", "_law_many"] []
 Ö6:mg "_law_names" =some (.ref ÌA)
 Íp:Addr
 Íq:FuncData
 Ñn:Fun K "_law_book" "_law_book" È7 Íp Íq
 Øj:Binds K Íq ["_law_draws_here", "_law_most"] []
 Øk:mg "_law_book" =some (.ref Íp)
 ÎW:Addr
 ÎX:FuncData
 Ò0:Fun K "_law_row" "_law_row" Ì6 ÎW ÎX
 Úl:Binds K ÎX ["_law_rows", "_law_name"] []
 Úm:mg "_law_row" =some (.ref ÎW)
 Êe:Addr
 Êf:FuncData
 Ç1:Fun K "_law_members" "_law_members" Ço Êe Êf
 Êg:Binds K Êf ["_law_rows", "_law_kind"] []
 Êh:mg "_law_members" =some (.ref Êe)
 ÎY:Addr
 ÎZ:FuncData
 Ò1:Fun K "_law_led" "_law_led" Ì7 ÎY ÎZ
 Ún:Binds K ÎZ ["_law_rows", "_law_value", "_law_kind"] []
 Úo:mg "_law_led" =some (.ref ÎY)
 ÇF:Addr
 ÇG:FuncData
 Ðh:Fun K "checked" "Kindbook.checked" Æ7 ÇF ÇG
 Àx:Binds K ÇG ["self", "name"] []
 Æv:Addr
 Æw:FuncData
 Î0:Fun K "parent_of" "Kindbook.parent_of" ÅM Æv Æw
 Æx:Binds K Æw ["self", "name"] []
 Çh:Addr
 Çi:FuncData
 Ïj:Fun K "leads_of" "Kindbook.leads_of" Æf Çh Çi
 Ïk:Binds K Çi ["self", "name"] []
 Êi:Addr
 Êj:FuncData
 ÓO:Fun K "led" "Kindbook.led" È8 Êi Êj
 Å4:Binds K Êj ["self", "value", "kind"] []
 ÈJ:Addr
 ÈK:FuncData
 ÈL:Fun K "_law_led_error" "_law_led_error" Ç6 ÈJ ÈK
 ÌC:Binds K ÈK ["_law_book_here", "_law_value", "_law_kind"] []
 ÌD:mg "_law_led_error" =some (.ref ÈJ)
 Çj:Addr
 Çk:FuncData
 Ïl:Fun K "chain_of" "Kindbook.chain_of" Æg Çj Çk
 Ïm:Binds K Çk ["self", "name"] []
 ÈM:Addr
 ÈN:FuncData
 Ñ4:Fun K "below" "Kindbook.below" Ç7 ÈM ÈN
 Æy:Binds K ÈN ["self", "lower", "upper"] []
 ÇH:Addr
 ÇI:FuncData
 ÇJ:Fun K "_law_below_error" "_law_below_error" Æ8 ÇH ÇI
 ÊX:Binds K ÇI ["_law_book_here", "_law_lower", "_law_upper"] []
 ÊY:mg "_law_below_error" =some (.ref ÇH)
 ÈO:Addr
 ÈP:FuncData
 Ñ5:Fun K "finer" "Kindbook.finer" Ç8 ÈO ÈP
 ÌE:Binds K ÈP ["self", "first", "second"] []
 ÇK:Addr
 ÇL:FuncData
 ÇM:Fun K "_law_finer_error" "_law_finer_error" Æ9 ÇK ÇL
 ÊZ:Binds K ÇL ["_law_book_here", "_law_first", "_law_second"] []
 Ê0:mg "_law_finer_error" =some (.ref ÇK)
 Êk:Addr
 Êl:FuncData
 ÍZ:Fun K "_law_unknown" "_law_unknown" È9 Êk Êl
 ÓP:Binds K Êl ["_law_book_here", "_law_value", "_law_name"] []
 ÓQ:mg "_law_unknown" =some (.ref Êk)
 Ëg:Addr
 Ëh:FuncData
 Ïe:Fun K "_law_led_on" "_law_led_on" ÉV Ëg Ëh
 Ôt:Binds K Ëh ["_law_book_here", "_law_table", "_law_value", "_law_told"] []
 Ôu:mg "_law_led_on" =some (.ref Ëg)
 Æz:Addr
 ÆA:FuncData
 Î1:Fun K "check_row" "Kindbook.check_row" ÅN Æz ÆA
 Î2:Binds K ÆA ["self", "name", "size", "parent", "leads"] []
 Çl:Addr
 Çm:FuncData
 Ïn:Fun K "__init__" "Kindbook.__init__" Æh Çl Çm
 ÉQ:Binds K Çm ["self", "rows"] []
 Úp:Addr
 ÔQ:FuncData
 âA:Fun K "law" "law" Èe Úp ÔQ
 åA:Binds K ÔQ ["_law_script"] []
 åB:mg "law" =some (.ref Úp)
 ł:Addr
 Þ:mg "Kindbook" =some (.ref ł)
 á:Cls K ł
 Ët:NoAttr K ł "names"
 Š:NoAttr K ł "rows"
 Ño:ClX.CRead K ł (.type "type")
 Ò2:Value
 Ñ6:ClX.CVal K ł (.type "type") "MOST" (.int 5) Ò2
 Î3:Value
 Í0:ClX.CVal K ł (.type "type") "MOST_SIZE" (.int 4) Î3
 ű:Meth K ł "checked" ÇF
 Å5:Meth K ł "parent_of" Æv
 Î4:Meth K ł "leads_of" Çh
 Ä2:Meth K ł "led" Êi
 Î5:Meth K ł "chain_of" Çj
 ÅK:Meth K ł "below" ÈM
 Ëu:Meth K ł "finer" ÈO
 Í1:Meth K ł "check_row" Æz
 Ñp:Mk K ł Çl
 Ä3:Addr
 Ò3:mg "DuplicateName" =some (.ref Ä3)
 ÆG:Addr
 ÆH:mg "InvalidKind" =some (.ref ÆG)
 ÆI:Addr
 Ôv:mg "InvalidName" =some (.ref ÆI)
 Ê1:Addr
 ÛQ:mg "TooMany" =some (.ref Ê1)
 ÄP:Addr
 ÆJ:mg "UnknownName" =some (.ref ÄP)
 Ôw:PySem.W.excIn K ÆI [.type "ValueError",.type "Exception",.type "BaseException",.type "object"] "ValueError.__new__" =true
 ÓR:PySem.W.keepIn K (.ref ÆI)=true
 ÓS:PySem.W.subIn K (.ref ÆI) (.type "BaseException")=some true
 ÓT:PySem.W.typeIn K (.ref ÆI)=some (.type "type")
 ÆK:PySem.W.excIn K ÆG [.type "ValueError",.type "Exception",.type "BaseException",.type "object"] "ValueError.__new__" =true
 Å6:PySem.W.keepIn K (.ref ÆG)=true
 Å7:PySem.W.subIn K (.ref ÆG) (.type "BaseException")=some true
 Å8:PySem.W.typeIn K (.ref ÆG)=some (.type "type")
 ÛR:PySem.W.excIn K Ê1 [.type "ValueError",.type "Exception",.type "BaseException",.type "object"] "ValueError.__new__" =true
 Úq:PySem.W.keepIn K (.ref Ê1)=true
 Úr:PySem.W.subIn K (.ref Ê1) (.type "BaseException")=some true
 Ús:PySem.W.typeIn K (.ref Ê1)=some (.type "type")
 Ò4:PySem.W.excIn K Ä3 [.type "ValueError",.type "Exception",.type "BaseException",.type "object"] "ValueError.__new__" =true
 Ñ7:PySem.W.keepIn K (.ref Ä3)=true
 Ñ8:PySem.W.subIn K (.ref Ä3) (.type "BaseException")=some true
 Ñ9:PySem.W.typeIn K (.ref Ä3)=some (.type "type")
 Ïf:PySem.W.excIn K ÄP [.type "ValueError",.type "Exception",.type "BaseException",.type "object"] "ValueError.__new__" =true
 Í2:PySem.W.keepIn K (.ref ÄP)=true
 Í3:PySem.W.subIn K (.ref ÄP) (.type "BaseException")=some true
 Í4:PySem.W.typeIn K (.ref ÄP)=some (.type "type")
 Êm:ÔT K mg Ġ (.ref ÄP)
 Ò5:mg "bool" =none
 Êz:mg "int" =none
 Ŧ:mg "isinstance" =none
 ÅF:mg "len" =none
 Ði:mg "list" =none
 È2:mg "range" =none
 Þt:mg "str" =none
 Í5:mg "tuple" =none
 ÛS:∃ u,mg "LETTERS" =some u∧RelV (.str (Str.ofString "abcdefghijklmnopqrstuvwxyz")) u
 ÓU:∃ u,mg "MOST_LETTERS" =some u∧RelV (.int 8) u
 Ðj:∃ u,mg "UNKNOWN" =some u∧RelV (.str (Str.ofString "?")) u
section
variable{P:Program}{w:World}{K:PySem.W.Frag}{mg:Str→Option Value}{base:Heap}
theorem Út (t:Tx K mg):FnM P w K mg base 1 t.Ðc t.Ðd ["text"] ÏW:=
 fn_ok (k:=0) (body:=Ôc) t.Ôk ÒZ rfl (λ cdv A outer s H E hr tk hp=>
 (Í (ø (Ì5 (Ðm (Ē (Ãq hr.units) Çu (Â (i:=0)) Ão) (Ís (Ē op_gt Ùs (Ď Äi Æe rfl t.ÅF (by decide +kernel) (Ã (Â (i:=0)) Ê)) (Ë2 t.ÓU rfl (λ _ _=>è.2 rfl)))))) (Î (ç ų)) ð)
 (Í (š hp rfl (ÀE (Â (i:=0))) (đ (i:=1) ÒZ.nd) (Î (ø (Ē (Óh (Ói hr)) Ô6 (Â (i:=1)) (Ë2 t.ÛS rfl (λ _ _=>Ī.2 rfl))) (Î (ç ų)) ð)))
 (Î (ç ų)))))
theorem Ôx (t:Tx K mg):FnM P w K mg base 2 t.Ìw t.Ìx ["text"] Ìh:=
 fn_ok (k:=1) (body:=ÏX) t.Ðe Ôs rfl (λ cdv A outer s H E hr tk hp=>
 (Í (ø (Ãp (Ż (ą (FnOk.mono (Út t) (by decide)) hr rfl t.ÛP t.Ôk.kp t.ÛO tk (Ã (Â (i:=0)) Ê) rfl (Ç Ö)))) (Î (Ä6 rfl tk t.Ôw t.Ôv t.ÓR t.ÓS t.ÓT rfl)) ð)
 (Î (ç (Â (i:=0))))))
theorem Ôy (t:Tx K mg):FnM P w K mg base 1 t.Ìy t.Ìz ["_law_script"] Ìi:=
 fn_ok (k:=0) (body:=ÏY) t.Ðf À1 rfl (λ cdv A outer s H E hr tk hp=>
 (Í (û (i:=1) À1.nd (ÄQ Ê))
 (Í (š hp rfl (ÀE (Â (i:=0))) (đ (i:=2) À1.nd) (Í (û (i:=3) À1.nd (ÀN ÊD ÌF rfl t.Êz (by decide +kernel) (Ã (Â (i:=2)) Ê)))
 (Î (ø (Ñq op_le Ùr (ÚH hr.units) ÝQ Ü (Â (i:=3)) Ü) (Î (Âc (Ñs mt_append ÈA PySem.F.plainAttrs_list PySem.F.slot_list_append PySem.F.type_list_append (Â (i:=1)) (Ã (Â (i:=3)) Ê)))) (Î (ø (Ē op_ge ãe (Â (i:=3)) (ŧ op_pow áZ Ü Ü)) (Î (š hp rfl (Æb rfl t.È2 (Ã Ü Ê)) (đ (i:=4) À1.nd) (Î (ø (Ē op_gt Ùs (Â (i:=3)) Ü) (Í (Âc (Ñs mt_append ÈA PySem.F.plainAttrs_list PySem.F.slot_list_append PySem.F.type_list_append (Â (i:=1)) (Ã (ŧ op_modN Í7 (ÀN ÊD ÌF rfl t.Êz (by decide +kernel) (Ã (Â (i:=3)) Ê)) Ü) Ê)))
 (Î (û (i:=3) À1.nd (ŧ op_fdivN Úz (Â (i:=3)) Ü)))) ð)))) (Í (û (i:=3) À1.nd (ŧ op_modN Í7 (ÀN ÊD ÌF rfl t.Êz (by decide +kernel) (Ã (ŧ Íu Òc (Â (i:=3)) Ü) Ê)) Ü))
 (Î (š hp rfl (Æb rfl t.È2 (Ã Ü Ê)) (đ (i:=4) À1.nd) (Í (û (i:=3) À1.nd (ŧ op_modN Í7 (ÀN ÊD ÌF rfl t.Êz (by decide +kernel) (Ã (ŧ Íu Òc (Â (i:=3)) Ü) Ê)) Ü))
 (Î (Âc (Ñs mt_append ÈA PySem.F.plainAttrs_list PySem.F.slot_list_append PySem.F.type_list_append (Â (i:=1)) (Ã (ŧ op_modN Í7 (ÀN ÊD ÌF rfl t.Êz (by decide +kernel) (Ã (ŧ op_fdivN Úz (Â (i:=3)) Ü) Ê)) Ü) Ê))))))))))))))
 (Í (Âc (ÝM mt_reverse ÚC PySem.F.plainAttrs_list PySem.F.slot_list_reverse PySem.F.type_list_reverse (Â (i:=1))))
 (Î (ç (Â (i:=1))))))))
theorem ÄG (t:Tx K mg):FnM P w K mg base 1 t.Íi t.Íj ["_law_draws_here", "_law_many"] Ãl:=
 fn_ok (k:=0) (body:=Ñc) t.Äg ÖZ rfl (λ cdv A outer s H E hr tk hp=>
 (Í (ø (Ē (Ãq hr.units) Çu (Ď Äi Æe rfl t.ÅF (by decide +kernel) (Ã (Â (i:=0)) Ê)) Ü) (Î (ç Ü)) ð)
 (Î (ç (ŧ op_modN Í7 (ÀN ÊD ÌF rfl t.Êz (by decide +kernel) (Ã (ÝM mt_pop á0 PySem.F.plainAttrs_list PySem.F.slot_list_pop PySem.F.type_list_pop (Â (i:=0))) Ê)) (Â (i:=1)))))))
theorem Ðk (t:Tx K mg):FnM P w K mg base 2 t.Ík t.Íl ["_law_draws_here", "_law_things"] Êw:=
 fn_ok (k:=1) (body:=Ñd) t.Ím Ö0 rfl (λ cdv A outer s H E hr tk hp=>
 (Î (ç (Ł (Â (i:=1)) (ą (FnOk.mono (ÄG t) (by decide)) hr rfl t.Åy t.Äg.kp t.Åx tk (Ã (Â (i:=0)) (Ã (Ď Äi Æe rfl t.ÅF (by decide +kernel) (Ã (Â (i:=1)) Ê)) Ê)) rfl (Ç (Ç Ö)))))))
theorem Å9 (t:Tx K mg):∀ j,FnM P w K mg base (1+j) t.Ín t.Ío ["_law_actual", "_law_due"] (ę j)
 |0=>ßB
 |j+1=>by
  have ih:=Å9 t j
  exact fn_ok (k:=1+j) (body:=Ñe j (ę j)) t.Åz Ðb rfl (λ cdv A outer s H E hr tk hp=>
 (Í (ø (Ì5 (Ðm (Ż (Ď call_isi Èt rfl t.Ŧ (by decide +kernel) (Ã (Â (i:=1)) (Ã (Èq (n:= "bool") rfl t.Ò5 (by decide +kernel)) Ê)))) (Ís (Ż (Ď call_isi Èt rfl t.Ŧ (by decide +kernel) (Ã (Â (i:=0)) (Ã (Èq (n:= "bool") rfl t.Ò5 (by decide +kernel)) Ê))))))) (Î (ç (Ír (Ď call_isi Èt rfl t.Ŧ (by decide +kernel) (Ã (Â (i:=1)) (Ã (Èq (n:= "bool") rfl t.Ò5 (by decide +kernel)) Ê))) (Ír (Ď call_isi Èt rfl t.Ŧ (by decide +kernel) (Ã (Â (i:=0)) (Ã (Èq (n:= "bool") rfl t.Ò5 (by decide +kernel)) Ê))) (Ïp (ËZ (Ãq hr.units) Çu (Â (i:=0)) (Â (i:=1)))))))) ð)
 (Í (ø (Ì5 (Ðm (Ē op_isN Ïs (Â (i:=1)) ÁV) (Ís (Ē op_isN Ïs (Â (i:=0)) ÁV)))) (Î (ç (Ír (ËZ op_isN Ïs (Â (i:=1)) ÁV) (Ïp (ËZ op_isN Ïs (Â (i:=0)) ÁV))))) ð)
 (Í (ø (Ż (Ď call_isi Èt rfl t.Ŧ (by decide +kernel) (Ã (Â (i:=1)) (Ã (Èq (n:= "int") rfl t.Êz (by decide +kernel)) Ê)))) (Î (ç (Ír (Ď call_isi Èt rfl t.Ŧ (by decide +kernel) (Ã (Â (i:=0)) (Ã (Èq (n:= "int") rfl t.Êz (by decide +kernel)) Ê))) (Ïp (ËZ (Ãq hr.units) Çu (Â (i:=0)) (Â (i:=1))))))) ð)
 (Í (ø (Ż (Ď call_isi Èt rfl t.Ŧ (by decide +kernel) (Ã (Â (i:=1)) (Ã (Èq (n:= "str") rfl t.Þt (by decide +kernel)) Ê)))) (Î (ç (Ír (Ď call_isi Èt rfl t.Ŧ (by decide +kernel) (Ã (Â (i:=0)) (Ã (Èq (n:= "str") rfl t.Þt (by decide +kernel)) Ê))) (Ïp (ËZ (Ãq hr.units) Çu (Â (i:=0)) (Â (i:=1))))))) ð)
 (Í (ø (Ì5 (Òa (Ż (Ď call_isi Èt rfl t.Ŧ (by decide +kernel) (Ã (Â (i:=1)) (Ã (Èq (n:= "tuple") rfl t.Í5 (by decide +kernel)) Ê)))) (Ðl (Ãp (Ż (Ď call_isi Èt rfl t.Ŧ (by decide +kernel) (Ã (Â (i:=0)) (Ã (Èq (n:= "tuple") rfl t.Í5 (by decide +kernel)) Ê)))))))) (Î (ç ų)) ð)
 (Í (ø (Ì5 (Òa (Ż (Ď call_isi Èt rfl t.Ŧ (by decide +kernel) (Ã (Â (i:=1)) (Ã (Èq (n:= "list") rfl t.Ði (by decide +kernel)) Ê)))) (Ðl (Ãp (Ż (Ď call_isi Èt rfl t.Ŧ (by decide +kernel) (Ã (Â (i:=0)) (Ã (Èq (n:= "list") rfl t.Ði (by decide +kernel)) Ê)))))))) (Î (ç ų)) ð)
 (Í (ø (Ē (Ïr hr.units) ÔX (Ď Äi Æe rfl t.ÅF (by decide +kernel) (Ã (Â (i:=0)) Ê)) (Ď Äi Æe rfl t.ÅF (by decide +kernel) (Ã (Â (i:=1)) Ê))) (Î (ç ų)) ð)
 (Í (š hp rfl (Æb rfl t.È2 (Ã (Ď Äi Æe rfl t.ÅF (by decide +kernel) (Ã (Â (i:=1)) Ê)) Ê)) (đ (i:=2) Ðb.nd) (Î (ø (Ãp (Ż (ą (FnOk.mono ih (by omega)) hr rfl t.Æ4 t.Åz.kp t.Æ3 tk (Ã (Ł (Â (i:=0)) (Â (i:=2))) (Ã (Ł (Â (i:=1)) (Â (i:=2))) Ê)) rfl (Ç (Ç Ö))))) (Î (ç ų)) ð)))
 (Î (ç ų)))))))))))
theorem Ôz (t:Tx K mg):FnM P w K mg base 3 t.ÌA t.ÌB ["_law_draws_here", "_law_many"] Ìj:=
 fn_ok (k:=2) (body:=ÏZ) t.Ðg Âk rfl (λ cdv A outer s H E hr tk hp=>
 (Í (û (i:=2) Âk.nd Ão)
 (Í (û (i:=3) Âk.nd (ą (FnOk.mono (ÄG t) (by decide)) hr rfl t.Åy t.Äg.kp t.Åx tk (Ã (Â (i:=0)) (Ã Ü Ê)) rfl (Ç (Ç Ö))))
 (Í (û (i:=4) Âk.nd (ą (FnOk.mono (Ðk t) (by decide)) hr rfl t.Ñm t.Ím.kp t.Ñl tk (Ã (Â (i:=0)) (Ã (ÄQ (Ã Ü (Ã Ü (Ã Ü (Ã Ü Ê))))) Ê)) rfl (Ç (Ç Ö))))
 (Í (û (i:=5) Âk.nd (ŧ Íu Òc Ão (ą (FnOk.mono (ÄG t) (by decide)) hr rfl t.Åy t.Äg.kp t.Åx tk (Ã (Â (i:=0)) (Ã Ü Ê)) rfl (Ç (Ç Ö)))))
 (Í (û (i:=6) Âk.nd (ŧ Íu Òc Ão (ą (FnOk.mono (ÄG t) (by decide)) hr rfl t.Åy t.Äg.kp t.Åx tk (Ã (Â (i:=0)) (Ã Ü Ê)) rfl (Ç (Ç Ö)))))
 (Í (û (i:=7) Âk.nd (ÄQ Ê))
 (Í (š hp rfl (Æb rfl t.È2 (Ã (Â (i:=1)) Ê)) (đ (i:=8) Âk.nd) (Î (Âc (Ñs mt_append ÈA PySem.F.plainAttrs_list PySem.F.slot_list_append PySem.F.type_list_append (Â (i:=7)) (Ã (ŧ ÄN Èr (ŧ ÄN Èr (Â (i:=5)) (Ł (Â (i:=2)) (ŧ op_modN Í7 (ÀN ÊD ÌF rfl t.Êz (by decide +kernel) (Ã (ŧ ÄN Èr (Â (i:=3)) (ŧ Íu Òc (Â (i:=8)) (Â (i:=4)))) Ê)) Ü))) (Â (i:=6))) Ê)))))
 (Î (ç (Â (i:=7))))))))))))
theorem Ö7 (t:Tx K mg):FnM P w K mg base 4 t.Íp t.Íq ["_law_draws_here", "_law_most"] Èn:=
 fn_ok (k:=3) (body:=Ñf) t.Ñn Âa rfl (λ cdv A outer s H E hr tk hp=>
 (Í (û (i:=2) Âa.nd (ą (FnOk.mono (Ôz t) (by decide)) hr rfl t.Ö6 t.Ðg.kp t.Ö5 tk (Ã (Â (i:=0)) (Ã (Â (i:=1)) Ê)) rfl (Ç (Ç Ö))))
 (Í (û (i:=3) Âa.nd (ÄQ Ê))
 (Í (š hp rfl (Æb rfl t.È2 (Ã (ŧ ÄN Èr Ü (ŧ op_modN Í7 (ÀN ÊD ÌF rfl t.Êz (by decide +kernel) (Ã (ŧ ÄN Èr Ü (ą (FnOk.mono (ÄG t) (by decide)) hr rfl t.Åy t.Äg.kp t.Åx tk (Ã (Â (i:=0)) (Ã (Â (i:=1)) Ê)) rfl (Ç (Ç Ö)))) Ê)) (Â (i:=1)))) Ê)) (đ (i:=4) Âa.nd) (Í (û (i:=5) Âa.nd (ą (FnOk.mono (Ðk t) (by decide)) hr rfl t.Ñm t.Ím.kp t.Ñl tk (Ã (Â (i:=0)) (Ã (ÄQ (Ã Ü (Ã Ü (Ã Ü (Ã Ü Ê))))) Ê)) rfl (Ç (Ç Ö))))
 (Í (û (i:=6) Âa.nd (ą (FnOk.mono (ÄG t) (by decide)) hr rfl t.Åy t.Äg.kp t.Åx tk (Ã (Â (i:=0)) (Ã (ŧ ÄN Èr (Â (i:=4)) Ü) Ê)) rfl (Ç (Ç Ö))))
 (Î (ø (Ē (Ãq hr.units) Çu (Â (i:=6)) Ü) (Î (Âc (Ñs mt_append ÈA PySem.F.plainAttrs_list PySem.F.slot_list_append PySem.F.type_list_append (Â (i:=3)) (Ã (ÀS (Ã (Ł (Â (i:=2)) (Â (i:=4))) (Ã (Â (i:=5)) (Ã ÁV (Ã (ÀS Ê) Ê))))) Ê)))) (Í (û (i:=7) Âa.nd (Ł (Â (i:=3)) (ŧ op_sub Ùq (Â (i:=6)) Ü)))
 (Í (ÙD (i:=8) (own:=[("_law_n",9)]) (vs:=[9]) rfl Âa.nd rfl (Æb rfl t.È2 (Ã (Â (i:=5)) Ê)) (blkOk_by (N:=["_law_draws_here", "_law_most", "_law_names_here", "_law_rows", "_law_k", "_law_size", "_law_at", "_law_parent", "_law_leads", "_law_n"]) (sc:=defScope È7) (by decide +kernel)) (λ _ _ _ _ _=>(pg_name (i:=9) Âa.nd rfl (by first|exact Or.inl rfl|exact Or.inr rfl))) Ë7 (λ _ _ _ _ _=>Ðp) (λ _ _ _ _ _=>(ą (FnOk.mono (ÄG t) (by decide)) hr rfl t.Åy t.Äg.kp t.Åx takes0 (Ã (Â (i:=0)) (Ã (Ł (Â (i:=7)) Ü) Ê)) rfl (Ç (Ç Ö)))) rfl rfl (sw_true rfl rfl rfl (by decide +kernel)))
 (Î (Âc (Ñs mt_append ÈA PySem.F.plainAttrs_list PySem.F.slot_list_append PySem.F.type_list_append (Â (i:=3)) (Ã (ÀS (Ã (Ł (Â (i:=2)) (Â (i:=4))) (Ã (Â (i:=5)) (Ã (Ł (Â (i:=7)) Ü) (Ã (ÀN Ñw Óf rfl t.Í5 (by decide +kernel) (Ã (Â (i:=8)) Ê)) Ê))))) Ê)))))))))))
 (Î (ç (Â (i:=3))))))))
theorem Øl (t:Tx K mg):FnM P w K mg base 1 t.ÎW t.ÎX ["_law_rows", "_law_name"] ÎI:=
 fn_ok (k:=0) (body:=ÒO) t.Ò0 Ñk rfl (λ cdv A outer s H E hr tk hp=>
 (Í (š hp rfl (ÀE (Â (i:=0))) (đ (i:=2) Ñk.nd) (Î (ø (Ē (Ãq hr.units) Çu (Ł (Â (i:=2)) Ü) (Â (i:=1))) (Î (ç (Â (i:=2)))) ð)))
 (Î (ç (Ł (Â (i:=0)) Ü)))))
theorem ÉA (t:Tx K mg):FnM P w K mg base 1 t.Êe t.Êf ["_law_rows", "_law_kind"] Ņ:=
 fn_ok (k:=0) (body:=ÍO) t.Ç1 ÃI rfl (λ cdv A outer s H E hr tk hp=>
 (Í (û (i:=2) ÃI.nd (ÄQ Ê))
 (Í (š hp rfl (ÀE (Â (i:=0))) (đ (i:=3) ÃI.nd) (Î (ø (Ì5 (Ðm (Ē (Ãq hr.units) Çu (Â (i:=1)) Ão) (Ís (Ē (Ãq hr.units) Çu (Â (i:=1)) (Ł (Â (i:=3)) Ü))))) (Î (û (i:=2) ÃI.nd (ŧ ÄN Èr (Â (i:=2)) (ÚI (own:=[("_law_n",4)]) (vs:=[4]) rfl ÃI.nd rfl (Æb rfl t.È2 (Ã (Ł (Â (i:=3)) Ü) Ê)) (blkOk_by (N:=["_law_rows", "_law_kind", "_law_members_here", "_law_row_here", "_law_n"]) (sc:=defScope Ço) (by decide +kernel)) (λ _ _ _ _ _=>(pg_name (i:=4) ÃI.nd rfl (by first|exact Or.inl rfl|exact Or.inr rfl))) Ë7 (λ _ _ _ _ _=>Ðp) (λ _ _ _ _ _=>(ÀS (Ã (Ł (Â (i:=3)) Ü) (Ã (Â (i:=4)) Ê)))))))) ð)))
 (Î (ç (Â (i:=2)))))))
theorem Øm (t:Tx K mg):FnM P w K mg base 2 t.ÎY t.ÎZ ["_law_rows", "_law_value", "_law_kind"] Ér:=
 fn_ok (k:=1) (body:=ÒP) t.Ò1 Èp rfl (λ cdv A outer s H E hr tk hp=>
 (Í (ø (Ē (Ãq hr.units) Çu (Â (i:=2)) Ão) (Î (ç (Â (i:=1)))) ð)
 (Í (š hp rfl (Æb rfl t.È2 (Ã (Ď Äi Æe rfl t.ÅF (by decide +kernel) (Ã (Â (i:=0)) Ê)) Ê)) (đ (i:=3) Èp.nd) (Î (ø (Ì5 (Òa (Ē op_notN Ðo (Â (i:=1)) ÁV) (Ðl (Ē (Ïr hr.units) ÔX (Ł (Â (i:=1)) Ü) (Â (i:=2)))))) (Í (û (i:=4) Èp.nd (ą (FnOk.mono (Øl t) (by decide)) hr rfl t.Úm t.Ò0.kp t.Úl tk (Ã (Â (i:=0)) (Ã (Ł (Â (i:=1)) Ü) Ê)) rfl (Ç (Ç Ö))))
 (Î (ø (Ē op_isN Ïs (Ł (Â (i:=4)) Ü) ÁV) (Î (û (i:=1) Èp.nd ÁV)) (Î (û (i:=1) Èp.nd (ÀS (Ã (Ł (Â (i:=4)) Ü) (Ã (Ł (Ł (Â (i:=4)) Ü) (Ł (Â (i:=1)) Ü)) Ê)))))))) ð)))
 (Î (ç (Â (i:=1)))))))
theorem Ų (t:Tx K mg):FnM P w K mg base 1 t.ÇF t.ÇG ["self", "name"] ĵ:=
 fn_ok (k:=0) (body:=ÊR) t.Ðh Ïg rfl (λ cdv A outer s H E hr tk hp=>
 (Í (ø (Ó0 (hu_of hr) (Â (i:=1)) (Éc t.Þ t.á t.Š (Â (i:=0)))) (Î (Ä6 rfl tk t.Ïf t.ÆJ t.Í2 t.Í3 t.Í4 rfl)) ð)
 (Î (ç (Â (i:=1))))))
theorem Æa (t:Tx K mg):FnM P w K mg base 2 t.Æv t.Æw ["self", "name"] Á7:=
 fn_ok (k:=1) (body:=És) t.Î0 ÍY rfl (λ cdv A outer s H E hr tk hp=>
 (Î (ç (Ł (Ój (hu_of hr) (Éc t.Þ t.á t.Š (Â (i:=0))) (Ļ t.Þ t.á t.ű (FnOk.mono (Ų t) (by decide)) hr t.Àx tk (Â (i:=0)) (Ã (Â (i:=1)) Ê) rfl (Ç Ö))) Ü))))
theorem Î6 (t:Tx K mg):FnM P w K mg base 2 t.Çh t.Çi ["self", "name"] Çd:=
 fn_ok (k:=1) (body:=ÉH) t.Ïj ÎV rfl (λ cdv A outer s H E hr tk hp=>
 (Î (ç (Ł (Ój (hu_of hr) (Éc t.Þ t.á t.Š (Â (i:=0))) (Ļ t.Þ t.á t.ű (FnOk.mono (Ų t) (by decide)) hr t.Àx tk (Â (i:=0)) (Ã (Â (i:=1)) Ê) rfl (Ç Ö))) Ü))))
theorem Ä4 (t:Tx K mg):FnM P w K mg base 3 t.Êi t.Êj ["self", "value", "kind"] ņ:=
 fn_ok (k:=2) (body:=ÍP) t.ÓO ÃJ rfl (λ cdv A outer s H E hr tk hp=>
 (Í (ßv (Â (i:=1)) (Úw rfl (ÉT (đ (i:=3) ÃJ.nd) (ÉT (đ (i:=4) ÃJ.nd) Øo))))
 (Í (Âc (Ļ t.Þ t.á t.ű (FnOk.mono (Ų t) (by decide)) hr t.Àx tk (Â (i:=0)) (Ã (Â (i:=3)) Ê) rfl (Ç Ö)))
 (Í (ø (Ē (Ãq hr.units) Çu (Â (i:=2)) (Ë2 t.Ðj rfl (λ _ _=>Ī.2 rfl))) (Î (ç (ÀS (Ã (Â (i:=3)) (Ã (Â (i:=4)) Ê))))) ð)
 (Í (Âc (Ļ t.Þ t.á t.ű (FnOk.mono (Ų t) (by decide)) hr t.Àx tk (Â (i:=0)) (Ã (Â (i:=2)) Ê) rfl (Ç Ö)))
 (Í (ÔS (n:=100000) hp (Ē (Ïr hr.units) ÔX (Â (i:=3)) (Â (i:=2))) (Í (û (i:=5) ÃJ.nd (Ļ t.Þ t.á t.Å5 (FnOk.mono (Æa t) (by decide)) hr t.Æx tk (Â (i:=0)) (Ã (Â (i:=3)) Ê) rfl (Ç Ö)))
 (Í (ø (Ē op_isN Ïs (Â (i:=5)) ÁV) (Î (ç ÁV)) ð)
 (Í (û (i:=4) ÃJ.nd (Ł (Ļ t.Þ t.á t.Î4 (FnOk.mono (Î6 t) (by decide)) hr t.Ïk tk (Â (i:=0)) (Ã (Â (i:=3)) Ê) rfl (Ç Ö)) (Â (i:=4))))
 (Î (û (i:=3) ÃJ.nd (Â (i:=5))))))))
 (Î (ç (ÀS (Ã (Â (i:=3)) (Ã (Â (i:=4)) Ê)))))))))))
theorem Ëv (t:Tx K mg):FnM P w K mg base 4 t.ÈJ t.ÈK ["_law_book_here", "_law_value", "_law_kind"] Æp:=
 fn_ok (k:=3) (body:=Ìk) t.ÈL Ð4 rfl (λ cdv A outer s H E hr tk hp=>
 (Í (ÔV rfl ⟨rfl,by decide,.inl t.ÆJ⟩ tk t.Êm (λ W1 pn1 xe1 tk1 hp1=>(Î (Âc (Ļ t.Þ t.á t.Ä2 (FnOk.mono (Ä4 t) (by decide)) hr t.Å4 tk1 (Â (i:=0)) (Ã (Â (i:=1)) (Ã (Â (i:=2)) Ê)) rfl (Ç (Ç Ö)))))) (λ a oe A d pn c dd hz hfl hl hA=>(Î (ç ų))))
 (Î (ç ų))))
theorem Î7 (t:Tx K mg):FnM P w K mg base 3 t.Çj t.Çk ["self", "name"] Çe:=
 fn_ok (k:=2) (body:=ÉI) t.Ïl Ã1 rfl (λ cdv A outer s H E hr tk hp=>
 (Í (û (i:=2) Ã1.nd (ÄQ (Ã (Ļ t.Þ t.á t.ű (FnOk.mono (Ų t) (by decide)) hr t.Àx tk (Â (i:=0)) (Ã (Â (i:=1)) Ê) rfl (Ç Ö)) Ê)))
 (Í (û (i:=3) Ã1.nd (Ļ t.Þ t.á t.Å5 (FnOk.mono (Æa t) (by decide)) hr t.Æx tk (Â (i:=0)) (Ã (Â (i:=1)) Ê) rfl (Ç Ö)))
 (Í (ÔS (n:=100000) hp (Ē op_notN Ðo (Â (i:=3)) ÁV) (Í (Âc (Ñs mt_append ÈA PySem.F.plainAttrs_list PySem.F.slot_list_append PySem.F.type_list_append (Â (i:=2)) (Ã (Â (i:=3)) Ê)))
 (Î (û (i:=3) Ã1.nd (Ļ t.Þ t.á t.Å5 (FnOk.mono (Æa t) (by decide)) hr t.Æx tk (Â (i:=0)) (Ã (Â (i:=3)) Ê) rfl (Ç Ö))))))
 (Î (ç (Â (i:=2))))))))
theorem ÅL (t:Tx K mg):FnM P w K mg base 4 t.ÈM t.ÈN ["self", "lower", "upper"] Àu:=
 fn_ok (k:=3) (body:=Ìl) t.Ñ4 ÅJ rfl (λ cdv A outer s H E hr tk hp=>
 (Í (û (i:=3) ÅJ.nd (ÀN (Óe rfl) Ô4 rfl t.Ði (by decide +kernel) (Ã (Éc t.Þ t.á t.Ët (Â (i:=0))) Ê)))
 (Í (ø (Ē (Ïr hr.units) ÔX (Â (i:=1)) (Ë2 t.Ðj rfl (λ _ _=>Ī.2 rfl))) (Î (û (i:=3) ÅJ.nd (ÄQ (Ã (Ļ t.Þ t.á t.ű (FnOk.mono (Ų t) (by decide)) hr t.Àx tk (Â (i:=0)) (Ã (Â (i:=1)) Ê) rfl (Ç Ö)) Ê)))) ð)
 (Í (ø (Ē (Ãq hr.units) Çu (Â (i:=2)) (Ë2 t.Ðj rfl (λ _ _=>Ī.2 rfl))) (Î (ç ų)) ð)
 (Í (Âc (Ļ t.Þ t.á t.ű (FnOk.mono (Ų t) (by decide)) hr t.Àx tk (Â (i:=0)) (Ã (Â (i:=2)) Ê) rfl (Ç Ö)))
 (Í (š hp rfl (ÀE (Â (i:=3))) (đ (i:=4) ÅJ.nd) (Î (ø (Ē (Óh (Ói hr)) Ô6 (Â (i:=2)) (Ļ t.Þ t.á t.Î5 (FnOk.mono (Î7 t) (by decide)) hr t.Ïm tk (Â (i:=0)) (Ã (Â (i:=4)) Ê) rfl (Ç Ö))) (Î (ç ų)) ð)))
 (Î (ç ų))))))))
theorem ÉR (t:Tx K mg):FnM P w K mg base 5 t.ÇH t.ÇI ["_law_book_here", "_law_lower", "_law_upper"] ÄV:=
 fn_ok (k:=4) (body:=ÊS) t.ÇJ Ïh rfl (λ cdv A outer s H E hr tk hp=>
 (Í (ÔV rfl ⟨rfl,by decide,.inl t.ÆJ⟩ tk t.Êm (λ W1 pn1 xe1 tk1 hp1=>(Î (Âc (Ļ t.Þ t.á t.ÅK (FnOk.mono (ÅL t) (by decide)) hr t.Æy tk1 (Â (i:=0)) (Ã (Â (i:=1)) (Ã (Â (i:=2)) Ê)) rfl (Ç (Ç Ö)))))) (λ a oe A d pn c dd hz hfl hl hA=>(Î (ç ų))))
 (Î (ç ų))))
theorem Ëw (t:Tx K mg):FnM P w K mg base 5 t.ÈO t.ÈP ["self", "first", "second"] Â5:=
 fn_ok (k:=4) (body:=Ìm) t.Ñ5 Ð5 rfl (λ cdv A outer s H E hr tk hp=>
 (Í (ø (Ż (Ļ t.Þ t.á t.ÅK (FnOk.mono (ÅL t) (by decide)) hr t.Æy tk (Â (i:=0)) (Ã (Â (i:=1)) (Ã (Â (i:=2)) Ê)) rfl (Ç (Ç Ö)))) (Î (ç (Â (i:=1)))) ð)
 (Í (ø (Ż (Ļ t.Þ t.á t.ÅK (FnOk.mono (ÅL t) (by decide)) hr t.Æy tk (Â (i:=0)) (Ã (Â (i:=2)) (Ã (Â (i:=1)) Ê)) rfl (Ç (Ç Ö)))) (Î (ç (Â (i:=2)))) ð)
 (Î (ç ÁV)))))
theorem ÉS (t:Tx K mg):FnM P w K mg base 6 t.ÇK t.ÇL ["_law_book_here", "_law_first", "_law_second"] ÄW:=
 fn_ok (k:=5) (body:=ÊT) t.ÇM Ïi rfl (λ cdv A outer s H E hr tk hp=>
 (Í (ÔV rfl ⟨rfl,by decide,.inl t.ÆJ⟩ tk t.Êm (λ W1 pn1 xe1 tk1 hp1=>(Î (Âc (Ļ t.Þ t.á t.Ëu (FnOk.mono (Ëw t) (by decide)) hr t.ÌE tk1 (Â (i:=0)) (Ã (Â (i:=1)) (Ã (Â (i:=2)) Ê)) rfl (Ç (Ç Ö)))))) (λ a oe A d pn c dd hz hfl hl hA=>(Î (ç ų))))
 (Î (ç ų))))
theorem Ò6 (t:Tx K mg):FnM P w K mg base 7 t.Êk t.Êl ["_law_book_here", "_law_value", "_law_name"] ÅW:=
 fn_ok (k:=6) (body:=ÍQ) t.ÍZ Çs rfl (λ cdv A outer s H E hr tk hp=>
 (Í (û (i:=3) Çs.nd (Ł (Â (i:=1)) Ü))
 (Í (š hp rfl (ÀE (ÄQ (Ã Ão (Ã (Â (i:=3)) (Ã (Â (i:=2)) Ê))))) (đ (i:=4) Çs.nd) (Î (ø (Ãp (Ż (ą (FnOk.mono (Ëv t) (by decide)) hr rfl t.ÌD t.ÈL.kp t.ÌC tk (Ã (Â (i:=0)) (Ã (ÀS (Ã (Â (i:=2)) (Ã Ü Ê))) (Ã (Â (i:=4)) Ê))) rfl (Ç (Ç (Ç Ö)))))) (Î (ç ų)) ð)))
 (Í (ø (Ãp (Ż (ą (FnOk.mono (Ëv t) (by decide)) hr rfl t.ÌD t.ÈL.kp t.ÌC tk (Ã (Â (i:=0)) (Ã (Â (i:=1)) (Ã (Â (i:=2)) Ê))) rfl (Ç (Ç (Ç Ö)))))) (Î (ç ų)) ð)
 (Í (š hp rfl (ÀE (ÄQ (Ã Ão (Ã (Â (i:=3)) Ê)))) (đ (i:=5) Çs.nd) (Î (ø (Ì5 (Ðm (Ãp (Ż (ą (FnOk.mono (ÉR t) (by decide)) hr rfl t.ÊY t.ÇJ.kp t.ÊX tk (Ã (Â (i:=0)) (Ã (Â (i:=2)) (Ã (Â (i:=5)) Ê))) rfl (Ç (Ç (Ç Ö)))))) (Ís (Ãp (Ż (ą (FnOk.mono (ÉR t) (by decide)) hr rfl t.ÊY t.ÇJ.kp t.ÊX tk (Ã (Â (i:=0)) (Ã (Â (i:=5)) (Ã (Â (i:=2)) Ê))) rfl (Ç (Ç (Ç Ö))))))))) (Î (ç ų)) ð)))
 (Î (ç (Ír (ą (FnOk.mono (ÉS t) (by decide)) hr rfl t.Ê0 t.ÇM.kp t.ÊZ tk (Ã (Â (i:=0)) (Ã (Â (i:=2)) (Ã (Â (i:=3)) Ê))) rfl (Ç (Ç (Ç Ö)))) (Ïp (ą (FnOk.mono (ÉS t) (by decide)) hr rfl t.Ê0 t.ÇM.kp t.ÊZ tk (Ã (Â (i:=0)) (Ã (Â (i:=3)) (Ã (Â (i:=2)) Ê))) rfl (Ç (Ç (Ç Ö)))))))))))))
theorem ÓV (t:Tx K mg):FnM P w K mg base 6 t.Ëg t.Ëh ["_law_book_here", "_law_table", "_law_value", "_law_told"] ÆF:=
 fn_ok (k:=5) (body:=Ïb) t.Ïe Ç0 rfl (λ cdv A outer s H E hr tk hp=>
 (Í (š hp rfl (ÀE (Â (i:=3))) (đ (i:=4) Ç0.nd) (Î (ø (Ē op_notN Ðo (ÉW hr.units (Â (i:=1)) (ÀS (Ã (Â (i:=2)) (Ã (Â (i:=4)) Ê)))) ÁV) (Î (š hp rfl (ÀE (Â (i:=3))) (đ (i:=5) Ç0.nd) (Î (ø (Ē op_notN Ðo (ÉW hr.units (Â (i:=1)) (ÀS (Ã (ÉW hr.units (Â (i:=1)) (ÀS (Ã (Â (i:=2)) (Ã (Â (i:=4)) Ê)))) (Ã (Â (i:=5)) Ê)))) ÁV) (Í (û (i:=6) Ç0.nd (Ļ t.Þ t.á t.Ä2 (FnOk.mono (Ä4 t) (by decide)) hr t.Å4 tk (Â (i:=0)) (Ã (Ļ t.Þ t.á t.Ä2 (FnOk.mono (Ä4 t) (by decide)) hr t.Å4 tk (Â (i:=0)) (Ã (Â (i:=2)) (Ã (Â (i:=4)) Ê)) rfl (Ç (Ç Ö))) (Ã (Â (i:=5)) Ê)) rfl (Ç (Ç Ö))))
 (Î (ø (Ãp (Ż (ą (FnOk.mono (Å9 t 4) (by decide)) hr rfl t.Æ4 t.Åz.kp t.Æ3 tk (Ã (Â (i:=6)) (Ã (ÉW hr.units (Â (i:=1)) (ÀS (Ã (Â (i:=2)) (Ã (Â (i:=5)) Ê)))) Ê)) rfl (Ç (Ç Ö))))) (Î (ç ų)) ð))) ð)))) ð)))
 (Î (ç ų))))
theorem Í6 (t:Tx K mg):FnM P w K mg base 3 t.Æz t.ÆA ["self", "name", "size", "parent", "leads"] Æq:=
 fn_ok (k:=2) (body:=Ét) t.Î1 È1 rfl (λ cdv A outer s H E hr tk hp=>
 (Í (Âc (ą (FnOk.mono (Ôx t) (by decide)) hr rfl t.Ö2 t.Ðe.kp t.Ö1 tk (Ã (Â (i:=1)) Ê) rfl (Ç Ö)))
 (Í (ø (ßX (hu_of hr) (Â (i:=1)) (Éc t.Þ t.á t.Š (Â (i:=0)))) (Î (Ä6 rfl tk t.Ò4 t.Ò3 t.Ñ7 t.Ñ8 t.Ñ9 rfl)) ð)
 (Í (ø (Ãp (Ñq op_le Ùr op_le Ùr Ü (Â (i:=2)) (Øv rfl t.Þ t.Ño t.Í0 (λ _ _=>è.2 rfl)))) (Î (Ä6 rfl tk t.ÆK t.ÆH t.Å6 t.Å7 t.Å8 rfl)) ð)
 (Í (ø (Ē op_isN Ïs (Â (i:=3)) ÁV) (Í (ø (Ē op_gt Ùs (Ď Äi Æe rfl t.ÅF (by decide +kernel) (Ã (Â (i:=4)) Ê)) Ü) (Î (Ä6 rfl tk t.ÆK t.ÆH t.Å6 t.Å7 t.Å8 rfl)) ð)
 (Î Þv)) ð)
 (Í (ø (Ó0 (hu_of hr) (Â (i:=3)) (Éc t.Þ t.á t.Š (Â (i:=0)))) (Î (Ä6 rfl tk t.Ïf t.ÆJ t.Í2 t.Í3 t.Í4 rfl)) ð)
 (Í (ø (Ē (Ïr hr.units) ÔX (Ď Äi Æe rfl t.ÅF (by decide +kernel) (Ã (Â (i:=4)) Ê)) (Â (i:=2))) (Î (Ä6 rfl tk t.ÆK t.ÆH t.Å6 t.Å7 t.Å8 rfl)) ð)
 (Î (š hp rfl (ÀE (Â (i:=4))) (đ (i:=5) È1.nd) (Î (ø (Ãp (Ñq op_le Ùr (ÚH hr.units) ÝQ Ü (Â (i:=5)) (Ł (Ój (hu_of hr) (Éc t.Þ t.á t.Š (Â (i:=0))) (Â (i:=3))) Ü))) (Î (Ä6 rfl tk t.ÆK t.ÆH t.Å6 t.Å7 t.Å8 rfl)) ð)))))))))))
theorem ÉB (t:Tx K mg):FnM P w K mg base 4 t.Çl t.Çm ["self", "rows"] ŀ:=
 fn_ok (k:=3) (body:=ÉJ) t.Ïn Âb rfl (λ cdv A outer s H E hr tk hp=>
 (Í (ø (Ē (Ãq hr.units) Çu (Ď Äi Æe rfl t.ÅF (by decide +kernel) (Ã (Â (i:=1)) Ê)) Ü) (Î (Ä6 rfl tk t.ÆK t.ÆH t.Å6 t.Å7 t.Å8 rfl)) ð)
 (Í (ø (Ē op_gt Ùs (Ď Äi Æe rfl t.ÅF (by decide +kernel) (Ã (Â (i:=1)) Ê)) (Øv rfl t.Þ t.Ño t.Ñ6 (λ _ _=>è.2 rfl))) (Î (Ä6 rfl tk t.ÛR t.ÛQ t.Úq t.Úr t.Ús rfl)) ð)
 (Í (ÚJ t.Þ t.á t.Š (Â (i:=0)) ÞI)
 (Í (š hp rfl (ÀE (Â (i:=1))) (Úw rfl (ÉT (đ (i:=2) Âb.nd) (ÉT (đ (i:=3) Âb.nd) (ÉT (đ (i:=4) Âb.nd) (ÉT (đ (i:=5) Âb.nd) Øo))))) (Í (Âc (Ļ t.Þ t.á t.Í1 (FnOk.mono (Í6 t) (by decide)) hr t.Î2 tk (Â (i:=0)) (Ã (Â (i:=2)) (Ã (Â (i:=3)) (Ã (Â (i:=4)) (Ã (Â (i:=5)) Ê)))) rfl (Ç (Ç (Ç (Ç Ö))))))
 (Î (ÞJ (hu_of hr) (Éc t.Þ t.á t.Š (Â (i:=0))) (Â (i:=2)) (ÀS (Ã (Â (i:=3)) (Ã (Â (i:=4)) (Ã (ÀN Ñw Óf rfl t.Í5 (by decide +kernel) (Ã (Â (i:=5)) Ê)) Ê))))))))
 (Î (ÚJ t.Þ t.á t.Ët (Â (i:=0)) (ÀN Ñw Óf rfl t.Í5 (by decide +kernel) (Ã (ÀN (Óe rfl) Ô4 rfl t.Ði (by decide +kernel) (Ã (Éc t.Þ t.á t.Š (Â (i:=0))) Ê)) Ê)))))))))
theorem áV (t:Tx K mg):FnM P w K mg base 8 t.Úp t.ÔQ ["_law_script"] Þj:=
 fn_ok (k:=7) (body:=Ù5) t.âA Ŗ rfl (λ cdv A outer s H E hr tk hp=>
 (Í (û (i:=1) Ŗ.nd (ą (FnOk.mono (Ôy t) (by decide)) hr rfl t.Ö4 t.Ðf.kp t.Ö3 tk (Ã (Â (i:=0)) Ê) rfl (Ç Ö)))
 (Í (û (i:=2) Ŗ.nd (ą (FnOk.mono (Ö7 t) (by decide)) hr rfl t.Øk t.Ñn.kp t.Øj tk (Ã (Â (i:=1)) (Ã Ü Ê)) rfl (Ç (Ç Ö))))
 (Í (û (i:=3) Ŗ.nd (Øu t.Ñp (FnOk.mono (ÉB t) (by decide)) hr rfl t.Þ t.ÉQ tk (Ã (ÀN (Óe rfl) Ô4 rfl t.Ði (by decide +kernel) (Ã (Â (i:=2)) Ê)) Ê) rfl (Ç Ö)))
 (Í (û (i:=4) Ŗ.nd (Øu t.Ñp (FnOk.mono (ÉB t) (by decide)) hr rfl t.Þ t.ÉQ tk (Ã (ÚI (own:=[("_law_row_here",15)]) (vs:=[15]) rfl Ŗ.nd rfl (ÀE (Â (i:=2))) (blkOk_by (N:=["_law_script", "_law_draws_here", "_law_rows", "_law_book_here", "_law_other", "_law_told", "_law_table", "_law_value", "_law_under", "_law_lower", "_law_first", "_law_name", "_law_kind", "_law_upper", "_law_second", "_law_row_here", "_law_due", "_law_alone", "_law_stopped", "_law_one"]) (sc:=defScope Èe) (by decide +kernel)) (λ _ _ _ _ _=>(pg_name (i:=15) Ŗ.nd rfl (by first|exact Or.inl rfl|exact Or.inr rfl))) Ë7 (λ _ _ _ _ _=>Ðp) (λ _ _ _ _ _=>(ÀS (Ã (Ł (Â (i:=15)) Ü) (Ã (Ł (Â (i:=15)) Ü) (Ã ÁV (Ã (ÀS Ê) Ê))))))) Ê) rfl (Ç Ö)))
 (Í (ÙD (i:=5) (own:=[("_law_row_here",15)]) (vs:=[15]) rfl Ŗ.nd rfl (ÀE (Â (i:=2))) (blkOk_by (N:=["_law_script", "_law_draws_here", "_law_rows", "_law_book_here", "_law_other", "_law_told", "_law_table", "_law_value", "_law_under", "_law_lower", "_law_first", "_law_name", "_law_kind", "_law_upper", "_law_second", "_law_row_here", "_law_due", "_law_alone", "_law_stopped", "_law_one"]) (sc:=defScope Èe) (by decide +kernel)) (λ _ _ _ _ _=>(pg_name (i:=15) Ŗ.nd rfl (by first|exact Or.inl rfl|exact Or.inr rfl))) Ë7 (λ _ _ _ _ _=>Ðp) (λ _ _ _ _ _=>(Ł (Â (i:=15)) Ü)) rfl rfl (sw_true rfl rfl rfl (by decide +kernel)))
 (Í (û (i:=6) Ŗ.nd Øz)
 (Í (š hp rfl (ÀE (ą (FnOk.mono (ÉA t) (by decide)) hr rfl t.Êh t.Ç1.kp t.Êg tk (Ã (Â (i:=2)) (Ã Ão Ê)) rfl (Ç (Ç Ö)))) (đ (i:=7) Ŗ.nd) (Î (š hp rfl (ÀE (ŧ ÄN Èr (Â (i:=5)) (ÄQ (Ã Ão Ê)))) (đ (i:=12) Ŗ.nd) (Í (û (i:=16) Ŗ.nd (ą (FnOk.mono (Øm t) (by decide)) hr rfl t.Úo t.Ò1.kp t.Ún tk (Ã (Â (i:=2)) (Ã (Â (i:=7)) (Ã (Â (i:=12)) Ê))) rfl (Ç (Ç (Ç Ö)))))
 (Í (Øy hr.units (Â (i:=6)) (ÀS (Ã (Â (i:=7)) (Ã (Â (i:=12)) Ê))) (Â (i:=16)))
 (Í (ø (Ãp (Ż (ą (FnOk.mono (Å9 t 4) (by decide)) hr rfl t.Æ4 t.Åz.kp t.Æ3 tk (Ã (Ļ t.Þ t.á t.Ä2 (FnOk.mono (Ä4 t) (by decide)) hr t.Å4 tk (Â (i:=3)) (Ã (Â (i:=7)) (Ã (Â (i:=12)) Ê)) rfl (Ç (Ç Ö))) (Ã (Â (i:=16)) Ê)) rfl (Ç (Ç Ö))))) (Î (ç ų)) ð)
 (Í (û (i:=17) Ŗ.nd (áX (Ì5 (Ðm (Ē (Ãq hr.units) Çu (Â (i:=12)) Ão) (Ís (Ē (Ãq hr.units) Çu (Â (i:=12)) (Ł (Â (i:=7)) Ü))))) (Â (i:=7)) ÁV))
 (Î (ø (Ãp (Ż (ą (FnOk.mono (Å9 t 4) (by decide)) hr rfl t.Æ4 t.Åz.kp t.Æ3 tk (Ã (Ļ t.Þ t.á t.Ä2 (FnOk.mono (Ä4 t) (by decide)) hr t.Å4 tk (Â (i:=4)) (Ã (Â (i:=7)) (Ã (Â (i:=12)) Ê)) rfl (Ç (Ç Ö))) (Ã (Â (i:=17)) Ê)) rfl (Ç (Ç Ö))))) (Î (ç ų)) ð)))))))))
 (Í (š hp rfl (ÀE (ą (FnOk.mono (ÉA t) (by decide)) hr rfl t.Êh t.Ç1.kp t.Êg tk (Ã (Â (i:=2)) (Ã Ão Ê)) rfl (Ç (Ç Ö)))) (đ (i:=7) Ŗ.nd) (Î (ø (Ãp (Ż (ą (FnOk.mono (ÓV t) (by decide)) hr rfl t.Ôu t.Ïe.kp t.Ôt tk (Ã (Â (i:=3)) (Ã (Â (i:=6)) (Ã (Â (i:=7)) (Ã (Â (i:=5)) Ê)))) rfl (Ç (Ç (Ç (Ç Ö))))))) (Î (ç ų)) ð)))
 (Í (û (i:=8) Ŗ.nd Øz)
 (Í (š hp rfl (ÀE (ŧ ÄN Èr (Â (i:=5)) (ÄQ (Ã Ão Ê)))) (đ (i:=9) Ŗ.nd) (Î (š hp rfl (ÀE (ŧ ÄN Èr (Â (i:=5)) (ÄQ (Ã Ão Ê)))) (đ (i:=13) Ŗ.nd) (Í (ÙD (i:=18) (own:=[("_law_one",19)]) (vs:=[19]) rfl Ŗ.nd rfl (ÀE (ą (FnOk.mono (ÉA t) (by decide)) hr rfl t.Êh t.Ç1.kp t.Êg tk (Ã (Â (i:=2)) (Ã (Â (i:=9)) Ê)) rfl (Ç (Ç Ö)))) (blkOk_by (N:=["_law_script", "_law_draws_here", "_law_rows", "_law_book_here", "_law_other", "_law_told", "_law_table", "_law_value", "_law_under", "_law_lower", "_law_first", "_law_name", "_law_kind", "_law_upper", "_law_second", "_law_row_here", "_law_due", "_law_alone", "_law_stopped", "_law_one"]) (sc:=defScope Èe) (by decide +kernel)) (λ _ _ _ _ _=>(pg_name (i:=19) Ŗ.nd rfl (by first|exact Or.inl rfl|exact Or.inr rfl))) Ë7 (λ _ _ _ _ _=>(ÞF (Ē op_isN Ïs (ÉW hr.units (Â (i:=6)) (ÀS (Ã (Â (i:=19)) (Ã (Â (i:=13)) Ê)))) ÁV))) (λ _ _ _ _ _=>(Â (i:=19))) rfl rfl (sw_true rfl rfl rfl (by decide +kernel)))
 (Í (Øy hr.units (Â (i:=8)) (ÀS (Ã (Â (i:=9)) (Ã (Â (i:=13)) Ê))) (ËZ (Ãq hr.units) Çu (Ď Äi Æe rfl t.ÅF (by decide +kernel) (Ã (Â (i:=18)) Ê)) Ü))
 (Î (ø (Ãp (Ż (ą (FnOk.mono (Å9 t 4) (by decide)) hr rfl t.Æ4 t.Åz.kp t.Æ3 tk (Ã (Ļ t.Þ t.á t.ÅK (FnOk.mono (ÅL t) (by decide)) hr t.Æy tk (Â (i:=3)) (Ã (Â (i:=9)) (Ã (Â (i:=13)) Ê)) rfl (Ç (Ç Ö))) (Ã (ËZ (Ãq hr.units) Çu (Ď Äi Æe rfl t.ÅF (by decide +kernel) (Ã (Â (i:=18)) Ê)) Ü) Ê)) rfl (Ç (Ç Ö))))) (Î (ç ų)) ð)))))))
 (Í (š hp rfl (ÀE (Â (i:=5))) (đ (i:=10) Ŗ.nd) (Î (š hp rfl (ÀE (Â (i:=5))) (đ (i:=14) Ŗ.nd) (Í (û (i:=16) Ŗ.nd ÁV)
 (Í (ø (Ô7 (ÉW hr.units (Â (i:=8)) (ÀS (Ã (Â (i:=10)) (Ã (Â (i:=14)) Ê))))) (Î (û (i:=16) Ŗ.nd (Â (i:=10)))) (Î (ø (Ô7 (ÉW hr.units (Â (i:=8)) (ÀS (Ã (Â (i:=14)) (Ã (Â (i:=10)) Ê))))) (Î (û (i:=16) Ŗ.nd (Â (i:=14)))) ð)))
 (Î (ø (Ãp (Ż (ą (FnOk.mono (Å9 t 4) (by decide)) hr rfl t.Æ4 t.Åz.kp t.Æ3 tk (Ã (Ļ t.Þ t.á t.Ëu (FnOk.mono (Ëw t) (by decide)) hr t.ÌE tk (Â (i:=3)) (Ã (Â (i:=10)) (Ã (Â (i:=14)) Ê)) rfl (Ç (Ç Ö))) (Ã (Â (i:=16)) Ê)) rfl (Ç (Ç Ö))))) (Î (ç ų)) ð)))))))
 (Í (š hp rfl (ÀE (ÄQ (Ã Ão (Ã (ŧ ÄN Èr (Ł (Â (i:=5)) Ü) Ão) (Ã (ŧ ÄN Èr (ÛY (Ł (Â (i:=5)) (ŧ op_sub Ùq (Ď Äi Æe rfl t.ÅF (by decide +kernel) (Ã (Â (i:=5)) Ê)) Ü)) (ÞC Ü) ÞB) Ão) Ê))))) (đ (i:=11) Ŗ.nd) (Î (ø (Ì5 (Òa (Ē (Óh (Ói hr)) Ô6 (Â (i:=11)) (Â (i:=5))) (Ðl (Ãp (Ż (ą (FnOk.mono (Ò6 t) (by decide)) hr rfl t.ÓQ t.ÍZ.kp t.ÓP tk (Ã (Â (i:=3)) (Ã (ÀS (Ã (Ł (Â (i:=5)) (ŧ op_sub Ùq (Ď Äi Æe rfl t.ÅF (by decide +kernel) (Ã (Â (i:=5)) Ê)) Ü)) (Ã Ü Ê))) (Ã (Â (i:=11)) Ê))) rfl (Ç (Ç (Ç Ö))))))))) (Î (ç ų)) ð)))
 (Î (ç ų)))))))))))))))
end
end Û
namespace Èf
open PySem PySem.Spec PyProof.Rows L2 Fr Û
theorem b1 {α:Type} {P:List α→Prop} (h:∀ x0,P [x0]):∀ us:List α,us.length=1→P us:=λ us hl=>match us,hl with | [x0],_=>h x0
theorem b2 {α:Type} {P:List α→Prop} (h:∀ x0 x1,P [x0,x1]):∀ us:List α,us.length=2→P us:=λ us hl=>match us,hl with | [x0,x1],_=>h x0 x1
theorem b3 {α:Type} {P:List α→Prop} (h:∀ x0 x1 x2,P [x0,x1,x2]):∀ us:List α,us.length=3→P us:=λ us hl=>match us,hl with | [x0,x1,x2],_=>h x0 x1 x2
theorem b4 {α:Type} {P:List α→Prop} (h:∀ x0 x1 x2 x3,P [x0,x1,x2,x3]):∀ us:List α,us.length=4→P us:=λ us hl=>match us,hl with | [x0,x1,x2,x3],_=>h x0 x1 x2 x3
theorem b5 {α:Type} {P:List α→Prop} (h:∀ x0 x1 x2 x3 x4,P [x0,x1,x2,x3,x4]):∀ us:List α,us.length=5→P us:=λ us hl=>match us,hl with | [x0,x1,x2,x3,x4],_=>h x0 x1 x2 x3 x4
theorem facts {l:PySem.W.OpenLaw} {w:World} {K:Hz.Fg} {h:Heap} {mg:Str→Option Value} {fa:Addr} (KX:K.In h) (G:h.Ns mainGlobals mg) (hmg:mg "law" =some (.ref fa)) (c:Hz.Ên fz fn K):
  ∃fd:FuncData,(∀(s:Shared) (v:Value),BindsTo s fd ⟨[v],[]⟩ [("_law_script",v)])∧∀ base:Heap,K.In base→base.Ns mainGlobals mg→FnOk l.prog w K mg base (L2.CX l.prog w) 8 fa fd ["_law_script"] (Fr.Ùv K):=by
 have z:∀ (i:Nat) {f:Hz.Fg→Bool},fz[i]?=some f→f K=true:=λ i _ h=>c.fact i h
 have g:∀ (i:Nat) {f:Hz.Fg→Bool} {o v:Option (Option Value)},fz[i]?=some f→f K=He.eqO o v→o=v:=λ i _ _ _ h e=>He.eqO_ok (e▸c.fact i h)
 have d:∀ (i:Nat) {f:Hz.Fg→Bool} {p:Prop} {_:Decidable p},fz[i]?=some f→f K=decide p→p:=λ i _ _ _ h e=>of_decide_eq_true (e▸c.fact i h)
 have m:∀ (i:Nat) {f:Hz.Fg→Bool} {x:Str} {a:Value},fz[i]?=some f→f K=He.eqO (PySem.W.nsIn K mainGlobals x) (some (some a))→mg x=some a:=λ i _ _ _ h e=>PySem.W.mg_of KX G (He.eqO_ok (e▸c.fact i h))
 have n:∀ (i:Nat) {f:Hz.Fg→Bool} {x:Str} {_:Decidable (PySem.W.nsIn K mainGlobals x=some none)},fz[i]?=some f→f K=decide (PySem.W.nsIn K mainGlobals x=some none)→mg x=none:=λ i _ _ _ h e=>PySem.W.mg_none_of KX G (of_decide_eq_true (e▸c.fact i h))
 obtain ⟨_,F0,p0⟩:=c.fn1 0 rfl
 obtain ⟨_,F1,p1⟩:=c.fn1 1 rfl
 obtain ⟨_,F2,p2⟩:=c.fn1 2 rfl
 obtain ⟨_,F3,p3⟩:=c.fn1 3 rfl
 obtain ⟨_,F4,p4⟩:=c.fn1 4 rfl
 obtain ⟨_,F5,p5⟩:=c.fn1 5 rfl
 obtain ⟨_,F6,p6⟩:=c.fn1 6 rfl
 obtain ⟨_,F7,p7⟩:=c.fn1 7 rfl
 obtain ⟨_,F8,p8⟩:=c.fn1 8 rfl
 obtain ⟨_,F9,p9⟩:=c.fn1 9 rfl
 obtain ⟨_,F10,p10⟩:=c.fn1 10 rfl
 obtain ⟨_,F11,p11⟩:=c.fn1 11 rfl
 obtain ⟨_,F12,p12⟩:=c.fn1 12 rfl
 obtain ⟨_,F13,p13⟩:=c.fn1 13 rfl
 obtain ⟨_,F14,p14⟩:=c.fn1 14 rfl
 obtain ⟨_,F15,p15⟩:=c.fn1 15 rfl
 obtain ⟨_,F16,p16⟩:=c.fn1 16 rfl
 obtain ⟨_,F17,p17⟩:=c.fn1 17 rfl
 obtain ⟨_,F18,p18⟩:=c.fn1 18 rfl
 obtain ⟨_,F19,p19⟩:=c.fn1 19 rfl
 obtain ⟨_,F20,p20⟩:=c.fn1 20 rfl
 obtain ⟨_,F21,p21⟩:=c.fn1 21 rfl
 obtain ⟨_,F22,p22⟩:=c.fn1 22 rfl
 obtain ⟨_,F23,p23⟩:=c.fn1 23 rfl
 obtain ⟨_,F24,p24⟩:=c.fn1 24 rfl
 obtain ⟨_,_,_,_,_,_,_,_,_,l25,e25,p25⟩:=c.func 25 rfl
 obtain ⟨t44,y44⟩:=Hz.ÔZ (z 44 rfl)
 obtain ⟨t45,y45⟩:=Hz.ÔZ (z 45 rfl)
 obtain ⟨t87,y87⟩:=Hz.ÔY (z 87 rfl)
 obtain ⟨t88,y88⟩:=Hz.ÛZ (z 88 rfl)
 obtain ⟨t89,y89⟩:=Hz.ÔY (z 89 rfl)
 have e:=hmg.symm.trans (m 35 rfl rfl)
 cases e
 let t:Tx K mg:=⟨_,_,F0,F0.binds (ps:=["text"]) (λ _ _ _ _ _ _=>b1 λ _=>rfl),m 1 rfl rfl,_,_,F1,F1.binds (ps:=["text"]) (λ _ _ _ _ _ _=>b1 λ _=>rfl),m 2 rfl rfl,_,_,F2,F2.binds (ps:=["_law_script"]) (λ _ _ _ _ _ _=>b1 λ _=>rfl),m 3 rfl rfl,_,_,F3,F3.binds (ps:=["_law_draws_here", "_law_many"]) (λ _ _ _ _ _ _=>b2 λ _ _=>rfl),m 4 rfl rfl,_,_,F4,F4.binds (ps:=["_law_draws_here", "_law_things"]) (λ _ _ _ _ _ _=>b2 λ _ _=>rfl),m 5 rfl rfl,_,_,F5,F5.binds (ps:=["_law_actual", "_law_due"]) (λ _ _ _ _ _ _=>b2 λ _ _=>rfl),m 6 rfl rfl,_,_,F6,F6.binds (ps:=["_law_draws_here", "_law_many"]) (λ _ _ _ _ _ _=>b2 λ _ _=>rfl),m 7 rfl rfl,_,_,F7,F7.binds (ps:=["_law_draws_here", "_law_most"]) (λ _ _ _ _ _ _=>b2 λ _ _=>rfl),m 8 rfl rfl,_,_,F8,F8.binds (ps:=["_law_rows", "_law_name"]) (λ _ _ _ _ _ _=>b2 λ _ _=>rfl),m 9 rfl rfl,_,_,F9,F9.binds (ps:=["_law_rows", "_law_kind"]) (λ _ _ _ _ _ _=>b2 λ _ _=>rfl),m 10 rfl rfl,_,_,F10,F10.binds (ps:=["_law_rows", "_law_value", "_law_kind"]) (λ _ _ _ _ _ _=>b3 λ _ _ _=>rfl),m 11 rfl rfl,_,_,F11,F11.binds (ps:=["self", "name"]) (λ _ _ _ _ _ _=>b2 λ _ _=>rfl),_,_,F12,F12.binds (ps:=["self", "name"]) (λ _ _ _ _ _ _=>b2 λ _ _=>rfl),_,_,F13,F13.binds (ps:=["self", "name"]) (λ _ _ _ _ _ _=>b2 λ _ _=>rfl),_,_,F14,F14.binds (ps:=["self", "value", "kind"]) (λ _ _ _ _ _ _=>b3 λ _ _ _=>rfl),_,_,F15,F15.binds (ps:=["_law_book_here", "_law_value", "_law_kind"]) (λ _ _ _ _ _ _=>b3 λ _ _ _=>rfl),m 20 rfl rfl,_,_,F16,F16.binds (ps:=["self", "name"]) (λ _ _ _ _ _ _=>b2 λ _ _=>rfl),_,_,F17,F17.binds (ps:=["self", "lower", "upper"]) (λ _ _ _ _ _ _=>b3 λ _ _ _=>rfl),_,_,F18,F18.binds (ps:=["_law_book_here", "_law_lower", "_law_upper"]) (λ _ _ _ _ _ _=>b3 λ _ _ _=>rfl),m 25 rfl rfl,_,_,F19,F19.binds (ps:=["self", "first", "second"]) (λ _ _ _ _ _ _=>b3 λ _ _ _=>rfl),_,_,F20,F20.binds (ps:=["_law_book_here", "_law_first", "_law_second"]) (λ _ _ _ _ _ _=>b3 λ _ _ _=>rfl),m 28 rfl rfl,_,_,F21,F21.binds (ps:=["_law_book_here", "_law_value", "_law_name"]) (λ _ _ _ _ _ _=>b3 λ _ _ _=>rfl),m 29 rfl rfl,_,_,F22,F22.binds (ps:=["_law_book_here", "_law_table", "_law_value", "_law_told"]) (λ _ _ _ _ _ _=>b4 λ _ _ _ _=>rfl),m 30 rfl rfl,_,_,F23,F23.binds (ps:=["self", "name", "size", "parent", "leads"]) (λ _ _ _ _ _ _=>b5 λ _ _ _ _ _=>rfl),_,_,F24,F24.binds (ps:=["self", "rows"]) (λ _ _ _ _ _ _=>b2 λ _ _=>rfl),_,_,fun_mk (st:=Èe) l25 e25 p25,(fun_mk (st:=Èe) l25 e25 p25).binds (ps:=["_law_script"]) (λ _ _ _ _ _ _=>b1 λ _=>rfl),m 35 rfl rfl,_,m 0 rfl rfl,⟨(z 36 rfl),(z 37 rfl),(z 38 rfl),(d 39 rfl rfl)⟩,(d 40 rfl rfl),(d 41 rfl rfl),⟨(z 42 rfl),(d 43 rfl rfl)⟩,_,⟨y44,⟨_,rfl⟩⟩,_,⟨y45,⟨_,rfl⟩⟩,⟨(g 12 rfl rfl),(z 13 rfl),p11⟩,⟨(g 14 rfl rfl),(z 15 rfl),p12⟩,⟨(g 16 rfl rfl),(z 17 rfl),p13⟩,⟨(g 18 rfl rfl),(z 19 rfl),p14⟩,⟨(g 21 rfl rfl),(z 22 rfl),p16⟩,⟨(g 23 rfl rfl),(z 24 rfl),p17⟩,⟨(g 26 rfl rfl),(z 27 rfl),p19⟩,⟨(g 31 rfl rfl),(z 32 rfl),p23⟩,⟨(z 46 rfl),(g 33 rfl rfl),(z 34 rfl),(z 47 rfl)⟩,_,m 48 rfl rfl,_,m 49 rfl rfl,_,m 50 rfl rfl,_,m 51 rfl rfl,_,m 52 rfl rfl,(z 53 rfl),(z 54 rfl),(d 55 rfl rfl),(d 56 rfl rfl),(z 57 rfl),(z 58 rfl),(d 59 rfl rfl),(d 60 rfl rfl),(z 61 rfl),(z 62 rfl),(d 63 rfl rfl),(d 64 rfl rfl),(z 65 rfl),(z 66 rfl),(d 67 rfl rfl),(d 68 rfl rfl),(z 69 rfl),(z 70 rfl),(d 71 rfl rfl),(d 72 rfl rfl),(ÊA (m 50 rfl rfl) (Ív (d 71 rfl rfl) (È6 (z 73 rfl) (d 72 rfl rfl) (d 74 rfl rfl))) (ÊA (m 49 rfl rfl) (Ív (d 71 rfl rfl) (È6 (z 73 rfl) (d 72 rfl rfl) (d 75 rfl rfl))) (ÊA (m 51 rfl rfl) (Ív (d 71 rfl rfl) (È6 (z 73 rfl) (d 72 rfl rfl) (d 76 rfl rfl))) (ÊA (m 48 rfl rfl) (Ív (d 71 rfl rfl) (È6 (z 73 rfl) (d 72 rfl rfl) (d 77 rfl rfl))) (ÊA (m 52 rfl rfl) (Ív (d 71 rfl rfl) (È6 (z 73 rfl) (d 72 rfl rfl) (d 78 rfl rfl))) ÛT))))),n 79 rfl rfl,n 80 rfl rfl,n 81 rfl rfl,n 82 rfl rfl,n 83 rfl rfl,n 84 rfl rfl,n 85 rfl rfl,n 86 rfl rfl,⟨_,PySem.W.mg_of KX G y87,⟨_,rfl⟩⟩,⟨_,PySem.W.mg_of KX G y88,⟨_,rfl⟩⟩,⟨_,PySem.W.mg_of KX G y89,⟨_,rfl⟩⟩⟩
 exact ⟨t.ÔQ,λ s v=>.of_eq rfl,λ base _ _=>Óc (áV t) Û.plain⟩
end Èf
open PySem PySem.W PySem.Calls PyProof.Rows
theorem PySem.Challenge.cw_formroads_k02_led_and_below_holds : PySem.Challenge.rw_formroads_k02_led_and_below.Holds := by
 w_on;o_law
 refine HandSHeadRun.head_any (r := OpenLaw.row PySem.Challenge.rw_formroads_k02_led_and_below) (q := view (OpenLaw.row PySem.Challenge.rw_formroads_k02_led_and_below).prog [31]) (H := Hz.hook 5 Èf.fz Èf.fn) (ob := fun s => Hz.eye 5 Èf.fz Èf.fn (HandSHeadRun.getT s)) (M := 20000) (loose := Èf.nms) (d := HandSHeadRun.topDef (OpenLaw.row PySem.Challenge.rw_formroads_k02_led_and_below).prog 31) (kwd := []) Hz.ßI
  (by kernel_rfl) (λ s=>by kernel_rfl) Èf.run (by kernel_rfl) (by kernel_rfl) (by kernel_rfl) (by rfl) (by first|assumption|decide +kernel) (by decide +kernel) ⟨rfl,rfl,rfl,rfl,rfl,by decide +kernel⟩ ?hw ?hc
 case hw=>w_witness2
 case hc=>
  refine L2.walk_ofE (l := PySem.Challenge.rw_formroads_k02_led_and_below) (n := 63) (k := 8) (x := "_law_script") (CX := Hz.Û0 (PySem.Challenge.rw_formroads_k02_led_and_below).prog) rfl (by decide) (by kernel_rfl) ⟨rfl, by decide, by decide⟩ ?F (fun _ _ _ _ z => Hz.ÚD z)
  intro w mg fa h Y G äL
  obtain ⟨K,KX,c⟩:=Y
  have hmg:mg ("law" :PySem.Str)=some (.ref fa):=by
   have e : (HandSHeadRun.topDef (OpenLaw.row PySem.Challenge.rw_formroads_k02_led_and_below).prog 31).name = ("law" : PySem.Str) := by kernel_rfl
   rw[←e]
   exact äL
  obtain ⟨fd, hb, hF⟩ := Èf.facts (l := PySem.Challenge.rw_formroads_k02_led_and_below) (w := w) KX G hmg c
  exact ⟨K,fd,Fr.Ùv K,KX,hb,λ H a ns hl ho hS=>⟨a,ns,rfl,hS,hl,ho,λ _=>rfl⟩,λ base h1 h2=>Hz.widen (hF base h1 h2)⟩
