import PyProof.Rows.All
import Wide.All
import OpenK.AllK
import Wide.FinOn
import HandS.ForMost
import HandS.ForExc
import HandS.CallSlots
import HandS.IsInst
import HandS.Wide
import HandS.Gcd
import HandS.Star
import HandS.Defaults
import HandS.ExcCtx
import KE.KExcSuper
import KE.KSuper
import PyProof.FString
import PyProof.FString4
import HandS.ExcSuper
import HandS.ExcIs
import HandS.TryOnly
import HandS.ExcField
import KE.KExcIs
import HandS.EndBits
import KE.RegKSuper
import HandS.Text
import HandS.StrMore
import HandS.FStr
import HandS.RaiseMore
import HandS.Style
import HandS.Codes
import HandS.SetTxtIn
import PyProof.StrBlock2
import PyProof.Rows.RuleDivmod
import HandS.More
import HandS.ClsMeth
import HandS.SetFor
import HandS.Conv
import HandS.OwnEq
import PySem.Challenge.RW_bidehall_k15_product_of_maps
import HandS.WordsDict
import HandS.Dict
import HandS.HotCalls
import HandS.SetKeys
import HandS.SortRule
import HandS.SortOrd
import HandS.NamedTupSort
import HandS.ExcInit
import KE.GoesMore
import HandS.TupAny
import KE.SortData
import KE.DataCmp
import HandS.ListItems
import HandS.Property
import KE.GoesEnumKw
import HandS.DictComp
import HandS.Strs
import PyProof.EqAt
import KE.KCallOwn
import OpenK.KOps
import OpenK.KMeth
import KE.KItemsList
import KE.RegKParD
import HandS.SetBool
import KE.KDictPairs
import KE.OsSortAny
set_option Elab.async false
set_option linter.all false
set_option maxRecDepth 100000
set_option maxHeartbeats 8000000
namespace FD
open PySem L2
inductive Dt where
 | non | bl (b:Bool) | int (i:Int) | str (s:Str) | ty (n:String) | cls (a:Addr)
 | ad (k:Nat)
 | tup (ds:List Dt) | ptp (ds:List Dt) | ntp (ds:List Dt) | lst (ds:List Dt) | fls (ds:List Dt)
 | dic (ks:List Key) (ds:List Dt)
 | dit (ks:List (List Key)) (ds:List Dt)
 | obj (C:Addr) (ns:List Str) (ds:List Dt)
 | exn (a:Addr) (od:Option Addr) (C:Addr) (ns:List Str) (ds:List Dt)
def Dt.scal:Dt→Bool
 | .non=>true | .bl _=>true | .int _=>true | .str _=>true | .ty _=>true | .cls _=>true
 | _=>false
mutual
def Dt.pure:Dt→Bool
 | .non=>true | .bl _=>true | .int _=>true | .str _=>true | .ty _=>true | .cls _=>true
 | .tup ds=>Dt.DK ds
 | .ptp ds=>Dt.DK ds
 | .ntp ds=>Dt.DK ds
 | _=>false
def Dt.DK:List Dt→Bool
 | []=>true
 | d :: ds=>d.pure && Dt.DK ds
end
mutual
def Dt.nl:Dt→Bool
 | .non=>true | .bl _=>true | .int _=>true | .str _=>true | .ty _=>true | .cls _=>true
 | .ad _=>true
 | .tup ds=>Dt.Yy ds
 | .ptp ds=>Dt.Yy ds
 | .ntp ds=>Dt.Yy ds
 | .obj _ _ ds=>Dt.Yy ds
 | _=>false
def Dt.Yy:List Dt→Bool
 | []=>true
 | d :: ds=>d.nl && Dt.Yy ds
end
structure Exn where
 cls:Addr
 fs:List (Str × Dt)
inductive Out (α:Type) where
 | ok (a:α) | exc (x:Exn) | bad
def Out.bind{α β:Type}(o:Out α)(f:α→Out β):Out β:=match o with
 | .ok a=>f a
 | .exc x=>.exc x
 | .bad=>.bad
@[simp] theorem Out.Au{α β:Type}(a:α)(f:α→Out β):(Out.ok a).bind f=f a:=rfl
theorem Out.bind_assoc{α β γ:Type}(o:Out α)(f:α→Out β)(g:β→Out γ):(o.bind f).bind g=o.bind fun a=>(f a).bind g:=by
 cases o <;> rfl
theorem Out.FG{α β:Type}{o:Out α}{f:α→Out β}{b:β}(h:o.bind f=.ok b):∃ a,o=.ok a∧f a=.ok b:=by
 cases o with
 | ok a=>exact ⟨a,rfl,h⟩
 | exc x=>cases h
 | bad=>cases h
abbrev Ad:=Addr→Prop
structure Mu where
 l:List Addr
 fix:Bool
structure KM where
 K:PySem.W.Frag
 mu:Mu
def kr(K:PySem.W.Frag)(a:Addr)(xs:List V):Prop:=∃ (o:Obj) (its:Array Value) (n:Nat),K.lookup a=some o∧o.cls=.type "tuple"∧o.data=.seq its n∧its.size≤sizeLine∧Vals xs its.toList
def kk(K:PySem.W.Frag)(a:Addr)(xs:List V):Prop:=∃ (o:Obj) (its:Array Value) (n:Nat),K.lookup a=some o∧o.cls=.type "list"∧o.dict=none∧o.data=.seq its n∧its.size≤sizeLine∧Vals xs its.toList
def Uo(H:Hp)(a:Addr)(kvs:List (Key × V)):Prop:=H a=some (.dK kvs)∨∃ o,H a=some (.frz o (.dK kvs))
def Ue(H:Hp)(a:Addr)(kvs:List (List Key × V)):Prop:=H a=some (.dT kvs)∨∃ o,H a=some (.frz o (.dT kvs))
mutual
def Rep(K:KM)(H:Hp)(A:Ad):Dt→V→Prop
 | .non,v=>v=.non
 | .bl b,v=>v=.bl b
 | .int i,v=>v=.int i
 | .str s,v=>v=.str s
 | .ty n,v=>v=.ty n
 | .cls a,v=>v=.ref a
 | .ad k,v=>∃ a,K.mu.l[k]? = some a∧v=.ref a
 | .tup ds,v=>∃ a vs,v=.ref a∧((¬ A a∧H a=some (.tup vs))∨kr K.K a vs)∧Ah K H A ds vs
 | .ptp ds,v=>∃ a vs,v=.ref a∧(¬ A a∧∃ o,H a=some (.frz o (.tup vs))∧o.dict=none)∧Ah K H A ds vs
 | .ntp ds,v=>∃ a vs,v=.ref a∧(¬ A a∧H a=some (.tup vs))∧Ah K H A ds vs
 | .lst ds,v=>∃ a vs,v=.ref a∧¬ A a∧H a=some (.lst vs)∧Ah K H A ds vs
 | .fls ds,v=>∃ a vs,v=.ref a∧((¬ A a∧∃ o,H a=some (.frz o (.lst vs)))∨kk K.K a vs)∧Ah K H A ds vs
 | .dic ks ds,v=>∃ a kvs,v=.ref a∧¬ A a∧Uo H a kvs∧kvs.map (·.1)=ks∧Ah K H A ds (kvs.map (·.2))
 | .dit ks ds,v=>∃ a kvs,v=.ref a∧¬ A a∧Ue H a kvs∧kvs.map (·.1)=ks∧Ah K H A ds (kvs.map (·.2))
 | .obj C ns ds,v=>∃ a dx fs,v=.ref a∧¬ A a∧H a=some (.ins C dx fs)∧fs.map (·.1)=ns∧Ah K H A ds (fs.map (·.2))
 | .exn a od _ ns ds,v=>∃ fs:List (Str × V),v=.ref a∧((od=none∧fs=[])∨∃ d,od=some d∧¬ A d∧H d=some (.xd fs))∧fs.map (·.1)=ns∧Ah K H A ds (fs.map (·.2))
def Ah(K:KM)(H:Hp)(A:Ad):List Dt→List V→Prop
 | [],vs=>vs=[]
 | d :: ds,vs=>∃ v r,vs=v :: r∧Rep K H A d v∧Ah K H A ds r
end
structure Xt (m m':Mu):Prop where
 get:∀ (k:Nat) (a:Addr),m.l[k]? = some a→m'.l[k]? = some a
 fx:m'.fix=m.fix
 stay:m.fix=true→m'=m
theorem Xt.refl(m:Mu):Xt m m:=⟨fun _ _ h=>h,rfl,fun _=>rfl⟩
theorem Xt.trans{m m' m'':Mu}(h:Xt m m')(h':Xt m' m''):Xt m m'':=⟨fun k a e=>h'.get k a (h.get k a e),h'.fx.trans h.fx,fun e=>(h'.stay (h.fx.trans e)).trans (h.stay e)⟩
theorem Uo.keep{H H':Hp}{a:Addr}{kvs:List (Key × V)}(hk:∀ o,H a=some o→H' a=some o)(h:Uo H a kvs):Uo H' a kvs:=h.imp (hk _) fun ⟨o,e⟩=>⟨o,hk _ e⟩
theorem Ue.keep{H H':Hp}{a:Addr}{kvs:List (List Key × V)}(hk:∀ o,H a=some o→H' a=some o)(h:Ue H a kvs):Ue H' a kvs:=h.imp (hk _) fun ⟨o,e⟩=>⟨o,hk _ e⟩
section
variable {F:PySem.W.Frag} {m m':Mu} {K:KM} {H H':Hp} {A A':Ad}
mutual
theorem Rep.gen(hm:∀ (k:Nat) (a:Addr),m.l[k]? = some a→m'.l[k]? = some a)(hk:∀ a o,¬ A a→H a=some o→H' a=some o)(ha:∀ a,A' a→A a):∀ (d:Dt) (v:V),Rep ⟨F,m⟩ H A d v→Rep ⟨F,m'⟩ H' A' d v
 | .non,_,h=>h
 | .bl _,_,h=>h
 | .int _,_,h=>h
 | .str _,_,h=>h
 | .ty _,_,h=>h
 | .cls _,_,h=>h
 | .ad k,_,h=>by
  unfold Rep at h ⊢
  obtain ⟨a,e,h⟩:=h
  exact ⟨a,hm k a e,h⟩
 | .tup ds,_,h=>by
  unfold Rep at h ⊢
  obtain ⟨a,vs,e,h1,h2⟩:=h
  exact ⟨a,vs,e,h1.imp (fun ⟨x,y⟩=>⟨fun z=>x (ha _ z),hk _ _ x y⟩) id,Ah.gen hm hk ha ds vs h2⟩
 | .ptp ds,_,h=>by
  unfold Rep at h ⊢
  obtain ⟨a,vs,e,⟨x,o,y,yd⟩,h2⟩:=h
  exact ⟨a,vs,e,⟨fun z=>x (ha _ z),o,hk _ _ x y,yd⟩,Ah.gen hm hk ha ds vs h2⟩
 | .ntp ds,_,h=>by
  unfold Rep at h ⊢
  obtain ⟨a,vs,e,⟨x,y⟩,h2⟩:=h
  exact ⟨a,vs,e,⟨fun z=>x (ha _ z),hk _ _ x y⟩,Ah.gen hm hk ha ds vs h2⟩
 | .lst ds,_,h=>by
  unfold Rep at h ⊢
  obtain ⟨a,vs,e,x,y,h2⟩:=h
  exact ⟨a,vs,e,fun z=>x (ha _ z),hk _ _ x y,Ah.gen hm hk ha ds vs h2⟩
 | .fls ds,_,h=>by
  unfold Rep at h ⊢
  obtain ⟨a,vs,e,h1,h2⟩:=h
  exact ⟨a,vs,e,h1.imp (fun ⟨x,o,y⟩=>⟨fun z=>x (ha _ z),o,hk _ _ x y⟩) id,Ah.gen hm hk ha ds vs h2⟩
 | .dic ks ds,_,h=>by
  unfold Rep at h ⊢
  obtain ⟨a,kvs,e,x,y,h1,h2⟩:=h
  exact ⟨a,kvs,e,fun z=>x (ha _ z),y.keep (hk _ · x),h1,Ah.gen hm hk ha ds _ h2⟩
 | .dit ks ds,_,h=>by
  unfold Rep at h ⊢
  obtain ⟨a,kvs,e,x,y,h1,h2⟩:=h
  exact ⟨a,kvs,e,fun z=>x (ha _ z),y.keep (hk _ · x),h1,Ah.gen hm hk ha ds _ h2⟩
 | .exn a od C ns ds,_,h=>by
  unfold Rep at h ⊢
  obtain ⟨fs,e,h1,h2,h3⟩:=h
  exact ⟨fs,e,h1.imp id (fun ⟨d,e1,x,y⟩=>⟨d,e1,fun z=>x (ha _ z),hk _ _ x y⟩),h2,Ah.gen hm hk ha ds _ h3⟩
 | .obj C ns ds,_,h=>by
  unfold Rep at h ⊢
  obtain ⟨a,dx,fs,e,x,y,h1,h2⟩:=h
  exact ⟨a,dx,fs,e,fun z=>x (ha _ z),hk _ _ x y,h1,Ah.gen hm hk ha ds _ h2⟩
theorem Ah.gen(hm:∀ (k:Nat) (a:Addr),m.l[k]? = some a→m'.l[k]? = some a)(hk:∀ a o,¬ A a→H a=some o→H' a=some o)(ha:∀ a,A' a→A a):∀ (ds:List Dt) (vs:List V),Ah ⟨F,m⟩ H A ds vs→Ah ⟨F,m'⟩ H' A' ds vs
 | [],_,h=>h
 | d :: ds,_,h=>by
  unfold Ah at h ⊢
  obtain ⟨v,r,e,h1,h2⟩:=h
  exact ⟨v,r,e,Rep.gen hm hk ha d v h1,Ah.gen hm hk ha ds r h2⟩
end
theorem Rep.mono(hk:∀ a o,¬ A a→H a=some o→H' a=some o)(ha:∀ a,A' a→A a)(d:Dt)(v:V)(h:Rep K H A d v):Rep K H' A' d v:=Rep.gen (F:=K.K) (m:=K.mu) (m':=K.mu) (fun _ _ e=>e) hk ha d v h
theorem Ah.mono(hk:∀ a o,¬ A a→H a=some o→H' a=some o)(ha:∀ a,A' a→A a)(d:List Dt)(v:List V)(h:Ah K H A d v):Ah K H' A' d v:=Ah.gen (F:=K.K) (m:=K.mu) (m':=K.mu) (fun _ _ e=>e) hk ha d v h
theorem Rep.ext(hm:Xt m m'){d:Dt}{v:V}(h:Rep ⟨F,m⟩ H A d v):Rep ⟨F,m'⟩ H A d v:=Rep.gen hm.get (fun _ _ _ e=>e) (fun _ z=>z) d v h
theorem Ah.ext(hm:Xt m m'){d:List Dt}{v:List V}(h:Ah ⟨F,m⟩ H A d v):Ah ⟨F,m'⟩ H A d v:=Ah.gen hm.get (fun _ _ _ e=>e) (fun _ z=>z) d v h
theorem Rep.fx{l:List Addr}{b b':Bool}{d:Dt}{v:V}(h:Rep ⟨F,⟨l,b⟩⟩ H A d v):Rep ⟨F,⟨l,b'⟩⟩ H A d v:=Rep.gen (m:=⟨l,b⟩) (m':=⟨l,b'⟩) (fun _ _ e=>e) (fun _ _ _ e=>e) (fun _ z=>z) d v h
theorem Ah.fx{l:List Addr}{b b':Bool}{d:List Dt}{v:List V}(h:Ah ⟨F,⟨l,b⟩⟩ H A d v):Ah ⟨F,⟨l,b'⟩⟩ H A d v:=Ah.gen (m:=⟨l,b⟩) (m':=⟨l,b'⟩) (fun _ _ e=>e) (fun _ _ _ e=>e) (fun _ z=>z) d v h
theorem Rep.same(hs:Same H H'){d:Dt}{v:V}(h:Rep K H A d v):Rep K H' A d v:=Rep.mono (fun a o _ e=>hs a o e) (fun _ z=>z) d v h
theorem Ah.same(hs:Same H H'){d:List Dt}{v:List V}(h:Ah K H A d v):Ah K H' A d v:=Ah.mono (fun a o _ e=>hs a o e) (fun _ z=>z) d v h
theorem Rep.BC(ha:∀ a,A' a→A a){d:Dt}{v:V}(h:Rep K H A d v):Rep K H A' d v:=Rep.mono (fun a o _ e=>e) ha d v h
theorem Ah.BC(ha:∀ a,A' a→A a){d:List Dt}{v:List V}(h:Ah K H A d v):Ah K H A' d v:=Ah.mono (fun a o _ e=>e) ha d v h
theorem Rep.scal{d:Dt}{v:V}(s:d.scal=true)(h:Rep K H A d v):Rep K H' A' d v:=by
 cases d <;> first | exact h | (cases s)
mutual
theorem Rep.K3(hm:∀ a,A' a→Mut (H a)):∀ (d:Dt) (v:V),d.pure=true→Rep ⟨F,m⟩ H A d v→Rep ⟨F,m'⟩ H A' d v
 | .non,_,_,h=>h
 | .bl _,_,_,h=>h
 | .int _,_,_,h=>h
 | .str _,_,_,h=>h
 | .ty _,_,_,h=>h
 | .cls _,_,_,h=>h
 | .tup ds,_,p,h=>by
  unfold Rep at h ⊢
  obtain ⟨a,vs,e,h1,h2⟩:=h
  exact ⟨a,vs,e,h1.imp (fun ⟨x,y⟩=>⟨fun z=>by have q:=hm a z; rw [y] at q; exact q,y⟩) id,Ah.K3 hm ds vs (by unfold Dt.pure at p; exact p) h2⟩
 | .ptp ds,_,p,h=>by
  unfold Rep at h ⊢
  obtain ⟨a,vs,e,⟨x,o,y,yd⟩,h2⟩:=h
  exact ⟨a,vs,e,⟨fun z=>by have q:=hm a z; rw [y] at q; exact q,o,y,yd⟩,Ah.K3 hm ds vs (by unfold Dt.pure at p; exact p) h2⟩
 | .ntp ds,_,p,h=>by
  unfold Rep at h ⊢
  obtain ⟨a,vs,e,⟨x,y⟩,h2⟩:=h
  exact ⟨a,vs,e,⟨fun z=>by have q:=hm a z; rw [y] at q; exact q,y⟩,Ah.K3 hm ds vs (by unfold Dt.pure at p; exact p) h2⟩
 | .ad _,_,p,_=>by simp [Dt.pure] at p
 | .lst ds,_,p,_=>by simp [Dt.pure] at p
 | .fls ds,_,p,_=>by simp [Dt.pure] at p
 | .dic ks ds,_,p,_=>by simp [Dt.pure] at p
 | .dit ks ds,_,p,_=>by simp [Dt.pure] at p
 | .obj C ns ds,_,p,_=>by simp [Dt.pure] at p
 | .exn _ _ _ _ _,_,p,_=>by simp [Dt.pure] at p
theorem Ah.K3(hm:∀ a,A' a→Mut (H a)):∀ (ds:List Dt) (vs:List V),Dt.DK ds=true→Ah ⟨F,m⟩ H A ds vs→Ah ⟨F,m'⟩ H A' ds vs
 | [],_,_,h=>h
 | d :: ds,_,p,h=>by
  unfold Ah at h ⊢
  obtain ⟨v,r,e,h1,h2⟩:=h
  unfold Dt.DK at p
  rw [Bool.and_eq_true] at p
  exact ⟨v,r,e,Rep.K3 hm d v p.1 h1,Ah.K3 hm ds r p.2 h2⟩
end
theorem Rep.pure(hm:∀ a,A' a→Mut (H a))(d:Dt)(v:V)(p:d.pure=true)(h:Rep K H A d v):Rep K H A' d v:=Rep.K3 (F:=K.K) (m:=K.mu) (m':=K.mu) hm d v p h
theorem Ah.pure(hm:∀ a,A' a→Mut (H a))(d:List Dt)(v:List V)(p:Dt.DK d=true)(h:Ah K H A d v):Ah K H A' d v:=Ah.K3 (F:=K.K) (m:=K.mu) (m':=K.mu) hm d v p h
def LD:Option HO→Prop
 | some (.lst _)=>True
 | some (.dK _)=>True
 | some (.dT _)=>True
 | _=>False
mutual
theorem Rep.nl(hm:∀ a,A' a→A a∨LD (H a)):∀ (d:Dt) (v:V),d.nl=true→Rep K H A d v→Rep K H A' d v
 | .non,_,_,h=>h
 | .bl _,_,_,h=>h
 | .int _,_,_,h=>h
 | .str _,_,_,h=>h
 | .ty _,_,_,h=>h
 | .cls _,_,_,h=>h
 | .ad _,_,_,h=>h
 | .tup ds,_,p,h=>by
  unfold Rep at h ⊢
  obtain ⟨a,vs,e,h1,h2⟩:=h
  exact ⟨a,vs,e,h1.imp (fun ⟨x,y⟩=>⟨fun z=>(hm a z).elim x fun q=>by rw [y] at q; exact q,y⟩) id,Ah.nl hm ds vs (by unfold Dt.nl at p; exact p) h2⟩
 | .ptp ds,_,p,h=>by
  unfold Rep at h ⊢
  obtain ⟨a,vs,e,⟨x,o,y,yd⟩,h2⟩:=h
  exact ⟨a,vs,e,⟨fun z=>(hm a z).elim x fun q=>by rw [y] at q; exact q,o,y,yd⟩,Ah.nl hm ds vs (by unfold Dt.nl at p; exact p) h2⟩
 | .ntp ds,_,p,h=>by
  unfold Rep at h ⊢
  obtain ⟨a,vs,e,⟨x,y⟩,h2⟩:=h
  exact ⟨a,vs,e,⟨fun z=>(hm a z).elim x fun q=>by rw [y] at q; exact q,y⟩,Ah.nl hm ds vs (by unfold Dt.nl at p; exact p) h2⟩
 | .obj C ns ds,_,p,h=>by
  unfold Rep at h ⊢
  obtain ⟨a,dx,fs,e,x,y,h1,h2⟩:=h
  exact ⟨a,dx,fs,e,fun z=>(hm a z).elim x fun q=>by rw [y] at q; exact q,y,h1,Ah.nl hm ds _ (by unfold Dt.nl at p; exact p) h2⟩
 | .lst ds,_,p,_=>by simp [Dt.nl] at p
 | .fls ds,_,p,_=>by simp [Dt.nl] at p
 | .dic ks ds,_,p,_=>by simp [Dt.nl] at p
 | .dit ks ds,_,p,_=>by simp [Dt.nl] at p
 | .exn _ _ _ _ _,_,p,_=>by simp [Dt.nl] at p
theorem Ah.nl(hm:∀ a,A' a→A a∨LD (H a)):∀ (ds:List Dt) (vs:List V),Dt.Yy ds=true→Ah K H A ds vs→Ah K H A' ds vs
 | [],_,_,h=>h
 | d :: ds,_,p,h=>by
  unfold Ah at h ⊢
  obtain ⟨v,r,e,h1,h2⟩:=h
  unfold Dt.Yy at p
  rw [Bool.and_eq_true] at p
  exact ⟨v,r,e,Rep.nl hm d v p.1 h1,Ah.nl hm ds r p.2 h2⟩
end
theorem Uo.some{a:Addr}{kvs:List (Key × V)}(h:Uo H a kvs):H a≠none:=fun z=>h.elim (fun e=>by rw [z] at e; cases e) fun ⟨o,e⟩=>by rw [z] at e; cases e
theorem Ue.some{a:Addr}{kvs:List (List Key × V)}(h:Ue H a kvs):H a≠none:=fun z=>h.elim (fun e=>by rw [z] at e; cases e) fun ⟨o,e⟩=>by rw [z] at e; cases e
mutual
theorem Rep.Fj:∀ (d:Dt) (v:V),Rep K H A d v→Rep K H (fun a=>A a∨H a=none) d v
 | .non,_,h=>h
 | .bl _,_,h=>h
 | .int _,_,h=>h
 | .str _,_,h=>h
 | .ty _,_,h=>h
 | .cls _,_,h=>h
 | .ad _,_,h=>h
 | .tup ds,_,h=>by
  unfold Rep at h ⊢
  obtain ⟨a,vs,e,h1,h2⟩:=h
  exact ⟨a,vs,e,h1.imp (fun ⟨x,y⟩=>⟨fun z=>z.elim x (fun z=>by rw [y] at z; cases z),y⟩) id,Ah.Fj ds vs h2⟩
 | .ptp ds,_,h=>by
  unfold Rep at h ⊢
  obtain ⟨a,vs,e,⟨x,o,y,yd⟩,h2⟩:=h
  exact ⟨a,vs,e,⟨fun z=>z.elim x (fun z=>by rw [y] at z; cases z),o,y,yd⟩,Ah.Fj ds vs h2⟩
 | .ntp ds,_,h=>by
  unfold Rep at h ⊢
  obtain ⟨a,vs,e,⟨x,y⟩,h2⟩:=h
  exact ⟨a,vs,e,⟨fun z=>z.elim x (fun z=>by rw [y] at z; cases z),y⟩,Ah.Fj ds vs h2⟩
 | .lst ds,_,h=>by
  unfold Rep at h ⊢
  obtain ⟨a,vs,e,x,y,h2⟩:=h
  exact ⟨a,vs,e,fun z=>z.elim x (fun z=>by rw [y] at z; cases z),y,Ah.Fj ds vs h2⟩
 | .fls ds,_,h=>by
  unfold Rep at h ⊢
  obtain ⟨a,vs,e,h1,h2⟩:=h
  exact ⟨a,vs,e,h1.imp (fun ⟨x,o,y⟩=>⟨fun z=>z.elim x (fun z=>by rw [y] at z; cases z),o,y⟩) id,Ah.Fj ds vs h2⟩
 | .dic ks ds,_,h=>by
  unfold Rep at h ⊢
  obtain ⟨a,kvs,e,x,y,h1,h2⟩:=h
  exact ⟨a,kvs,e,fun z=>z.elim x y.some,y,h1,Ah.Fj ds _ h2⟩
 | .dit ks ds,_,h=>by
  unfold Rep at h ⊢
  obtain ⟨a,kvs,e,x,y,h1,h2⟩:=h
  exact ⟨a,kvs,e,fun z=>z.elim x y.some,y,h1,Ah.Fj ds _ h2⟩
 | .exn a od C ns ds,_,h=>by
  unfold Rep at h ⊢
  obtain ⟨fs,e,h1,h2,h3⟩:=h
  exact ⟨fs,e,h1.imp id (fun ⟨d,e1,x,y⟩=>⟨d,e1,fun z=>z.elim x (fun z=>by rw [y] at z; cases z),y⟩),h2,Ah.Fj ds _ h3⟩
 | .obj C ns ds,_,h=>by
  unfold Rep at h ⊢
  obtain ⟨a,dx,fs,e,x,y,h1,h2⟩:=h
  exact ⟨a,dx,fs,e,fun z=>z.elim x (fun z=>by rw [y] at z; cases z),y,h1,Ah.Fj ds _ h2⟩
theorem Ah.Fj:∀ (ds:List Dt) (vs:List V),Ah K H A ds vs→Ah K H (fun a=>A a∨H a=none) ds vs
 | [],_,h=>h
 | d :: ds,_,h=>by
  unfold Ah at h ⊢
  obtain ⟨v,r,e,h1,h2⟩:=h
  exact ⟨v,r,e,Rep.Fj d v h1,Ah.Fj ds r h2⟩
end
theorem Rep.fresh{p:Addr}(hp:H p=none)(d:Dt)(v:V)(h:Rep K H A d v):Rep K H (fun a=>A a∨a=p) d v:=(Rep.Fj d v h).BC fun a z=>z.imp id fun e=>by rw [e]; exact hp
theorem Ah.fresh{p:Addr}(hp:H p=none)(d:List Dt)(v:List V)(h:Ah K H A d v):Ah K H (fun a=>A a∨a=p) d v:=(Ah.Fj d v h).BC fun a z=>z.imp id fun e=>by rw [e]; exact hp
theorem Ah.length:∀ {ds:List Dt} {vs:List V},Ah K H A ds vs→vs.length=ds.length
 | [],_,h=>by unfold Ah at h; subst h; rfl
 | d :: ds,_,h=>by
  unfold Ah at h
  obtain ⟨v,r,rfl,_,h2⟩:=h
  simp [Ah.length h2]
theorem Ah.get:∀ {ds:List Dt} {vs:List V} {i:Nat} {d:Dt},Ah K H A ds vs→ds[i]? = some d→∃ v,vs[i]? = some v∧Rep K H A d v
 | [],_,_,_,_,e=>by simp at e
 | d :: ds,_,0,_,h,e=>by
  unfold Ah at h
  obtain ⟨v,r,rfl,h1,h2⟩:=h
  simp at e
  subst e
  exact ⟨v,rfl,h1⟩
 | d :: ds,_,i + 1,_,h,e=>by
  unfold Ah at h
  obtain ⟨v,r,rfl,h1,h2⟩:=h
  obtain ⟨u,e1,r1⟩:=Ah.get (i:=i) h2 (by simpa using e)
  exact ⟨u,by simpa using e1,r1⟩
theorem Ah.append:∀ {ds es:List Dt} {vs us:List V},Ah K H A ds vs→Ah K H A es us→Ah K H A (ds ++ es) (vs ++ us)
 | [],_,_,_,h,g=>by unfold Ah at h; subst h; exact g
 | d :: ds,_,_,_,h,g=>by
  unfold Ah at h
  obtain ⟨v,r,rfl,h1,h2⟩:=h
  show Ah K H A (d :: (ds ++ _)) (v :: (r ++ _))
  unfold Ah
  exact ⟨v,_,rfl,h1,Ah.append h2 g⟩
theorem Ah.nil:Ah K H A [] []:=by unfold Ah; rfl
theorem Ah.cons{d:Dt}{ds:List Dt}{v:V}{vs:List V}(h:Rep K H A d v)(g:Ah K H A ds vs):Ah K H A (d :: ds) (v :: vs):=by
 unfold Ah
 exact ⟨v,vs,rfl,h,g⟩
theorem Ah.set:∀ {ds:List Dt} {vs:List V} (i:Nat) {d:Dt} {v:V},Ah K H A ds vs→Rep K H A d v→Ah K H A (ds.set i d) (vs.set i v)
 | [],_,_,_,_,h,_=>by unfold Ah at h; subst h; exact Ah.nil
 | _ :: _,_,0,_,_,h,g=>by
  unfold Ah at h
  obtain ⟨v,r,rfl,h1,h2⟩:=h
  exact Ah.cons g h2
 | _ :: _,_,i + 1,_,_,h,g=>by
  unfold Ah at h
  obtain ⟨v,r,rfl,h1,h2⟩:=h
  exact Ah.cons h1 (Ah.set i h2 g)
theorem Ah.take:∀ {ds:List Dt} {vs:List V} (n:Nat),Ah K H A ds vs→Ah K H A (ds.take n) (vs.take n)
 | [],_,n,h=>by unfold Ah at h; subst h; simpa using Ah.nil
 | _ :: _,_,0,h=>by simpa using Ah.nil
 | _ :: _,_,n + 1,h=>by
  unfold Ah at h
  obtain ⟨v,r,rfl,h1,h2⟩:=h
  exact Ah.cons h1 (Ah.take n h2)
theorem Ah.drop:∀ {ds:List Dt} {vs:List V} (n:Nat),Ah K H A ds vs→Ah K H A (ds.drop n) (vs.drop n)
 | [],_,n,h=>by unfold Ah at h; subst h; simpa using Ah.nil
 | _ :: _,_,0,h=>h
 | _ :: _,_,n + 1,h=>by
  unfold Ah at h
  obtain ⟨v,r,rfl,h1,h2⟩:=h
  exact Ah.drop n h2
theorem Ah.ints{ns:List Int}{vs:List V}(h:Ah K H A (ns.map Dt.int) vs):vs=ns.map V.int:=by
 induction ns generalizing vs with
 | nil=>unfold Ah at h; exact h
 | cons n ns ih=>
  unfold Ah at h
  obtain ⟨v,r,rfl,h1,h2⟩:=h
  have e:v=.int n:=h1
  rw [e,ih h2]
  rfl
end
inductive Cell where
 | gone | lst (ds:List Dt) | dic (ks:List Key) (ds:List Dt) | ins (C:Addr) (ns:List Str) (ds:List Dt)
def Cell.live:Cell→Bool
 | .gone=>false
 | _=>true
def Cell.ld:Cell→Bool
 | .ins _ _ _=>false
 | _=>true
inductive Lo where
 | sh (d:Dt) | ol (ds:List Dt) | od (ks:List Key) (ds:List Dt) | ot (ks:List (List Key)) (ds:List Dt) | mh (cs:List Cell)
def Lo.d:Lo→Dt
 | .sh d=>d
 | .ol ds=>.lst ds
 | .od ks ds=>.dic ks ds
 | .ot ks ds=>.dit ks ds
 | .mh _=>.non
def Lo.Ui:Lo→Bool
 | .mh _=>true
 | _=>false
def Lo.ld:Lo→Bool
 | .mh cs=>cs.all Cell.ld
 | _=>true
abbrev Env:=List (Option Lo)
def CS(K:KM):Lo→Option (Option V)→Addr→Prop
 | .sh _,_,_=>False
 | .ol _,s,a=>s=some (some (.ref a))
 | .od _ _,s,a=>s=some (some (.ref a))
 | .ot _ _,s,a=>s=some (some (.ref a))
 | .mh cs,_,a=>∃ (k:Nat) (c:Cell),cs[k]? = some c∧c.live=true∧K.mu.l[k]? = some a
def Bj(K:KM)(ρ:Env)(σ:L2.St)(i:Nat)(a:Addr):Prop:=∃ l,ρ[i]? = some (some l)∧CS K l σ[i]? a
def Av(K:KM)(A0:Ad)(ρ:Env)(σ:L2.St)(lk:List Nat):Ad:=fun a=>A0 a∨∃ i,i∉lk∧Bj K ρ σ i a
def Gi(K:KM)(H0 H:Hp)(A:Ad):Cell→Addr→Prop
 | .gone,_=>True
 | .lst ds,a=>H0 a=none∧∃ vs,H a=some (.lst vs)∧Ah K H A ds vs
 | .dic ks ds,a=>H0 a=none∧∃ kvs:List (Key × V),H a=some (.dK kvs)∧kvs.map (·.1)=ks∧Ah K H A ds (kvs.map (·.2))
 | .ins C ns ds,a=>H0 a=none∧∃ (dx:Addr) (fs:List (Str × V)),H a=some (.ins C dx fs)∧fs.map (·.1)=ns∧Ah K H A ds (fs.map (·.2))
def eK(K:KM)(cs:List Cell):Prop:=∀ (j k:Nat) (a:Addr) (c c':Cell),cs[j]? = some c→cs[k]? = some c'→c.live=true→c'.live=true→K.mu.l[j]? = some a→K.mu.l[k]? = some a→j=k
def ER(K:KM)(H0 H:Hp)(A:Ad):Lo→Option (Option V)→Prop
 | .sh d,s=>∃ v,s=some (some v)∧Rep K H A d v
 | .ol ds,s=>∃ (a:Addr) (vs:List V),s=some (some (V.ref a))∧H0 a=none∧H a=some (.lst vs)∧Ah K H A ds vs
 | .od ks ds,s=>∃ (a:Addr) (kvs:List (Key × V)),s=some (some (V.ref a))∧H0 a=none∧H a=some (.dK kvs)∧kvs.map (·.1)=ks∧Ah K H A ds (kvs.map (·.2))
 | .ot ks ds,s=>∃ (a:Addr) (kvs:List (List Key × V)),s=some (some (V.ref a))∧H0 a=none∧H a=some (.dT kvs)∧kvs.map (·.1)=ks∧Ah K H A ds (kvs.map (·.2))
 | .mh cs,_=>eK K cs∧cs.length=K.mu.l.length∧∀ (k:Nat) (c:Cell) (a:Addr),cs[k]? = some c→K.mu.l[k]? = some a→Gi K H0 H A c a
structure StOk (K:KM) (H0:Hp) (A0:Ad) (H:Hp) (ρ:Env) (σ:L2.St):Prop where
 same:Same H0 H
 a0:∀ a,A0 a→Mut (H0 a)
 len:σ.length=ρ.length
 lo:∀ (i:Nat) (l:Lo),ρ[i]? = some (some l)→ER K H0 H (Av K A0 ρ σ []) l σ[i]?
 ap:∀ (i j:Nat) (a:Addr),Bj K ρ σ i a→Bj K ρ σ j a→i=j
 one:∀ (i j:Nat) (cs cs':List Cell),ρ[i]? = some (some (.mh cs))→ρ[j]? = some (some (.mh cs'))→i=j
 nm:K.mu.fix=true→∀ (i:Nat) (cs:List Cell),ρ[i]?≠some (some (.mh cs))
def Lh(ρ:Env)(i:Nat):Env:=match ρ[i]? with
 | some (some (.mh _))=>ρ.set i none
 | some (some l)=>ρ.set i (some (.sh l.d))
 | _=>ρ
def frz(lk:List Nat)(ρ:Env):Env:=lk.foldl Lh ρ
@[simp] theorem LJ(ρ:Env):frz [] ρ=ρ:=rfl
@[simp] theorem GX(i:Nat)(lk:List Nat)(ρ:Env):frz (i :: lk) ρ=frz lk (Lh ρ i):=rfl
def Nh(ρ:Env)(i:Nat):Bool:=match ρ[i]? with
 | some (some l)=>l.ld
 | _=>true
def AL(d:Dt)(lk:List Nat)(ρ:Env):Env:=if d.pure=true∨(d.nl=true∧lk.all (Nh ρ)=true) then ρ else frz lk ρ
def US(ds:List Dt)(lk:List Nat)(ρ:Env):Env:=if Dt.DK ds=true∨(Dt.Yy ds=true∧lk.all (Nh ρ)=true) then ρ else frz lk ρ
section
variable {F:PySem.W.Frag} {m m':Mu} {K:KM} {H0 H0' H H':Hp} {A A' A0:Ad} {ρ:Env} {σ:L2.St} {l:Lo} {sv:Option (Option V)}
theorem Rep.To(hm:Xt m m')(hk:∀ a o,¬ A a→H a=some o→H' a=some o)(ha:∀ a,A' a→A a∨H a=none){d:Dt}{v:V}(h:Rep ⟨F,m⟩ H A d v):Rep ⟨F,m'⟩ H' A' d v:=
 Rep.gen hm.get (fun a o n e=>hk a o (fun z=>n (.inl z)) e) ha d v (Rep.Fj d v h)
theorem Ah.To(hm:Xt m m')(hk:∀ a o,¬ A a→H a=some o→H' a=some o)(ha:∀ a,A' a→A a∨H a=none){d:List Dt}{v:List V}(h:Ah ⟨F,m⟩ H A d v):Ah ⟨F,m'⟩ H' A' d v:=
 Ah.gen hm.get (fun a o n e=>hk a o (fun z=>n (.inl z)) e) ha d v (Ah.Fj d v h)
theorem Gi.gen(hm:Xt m m')(hk:∀ a o,¬ A a→H a=some o→H' a=some o)(ha:∀ a,A' a→A a∨H a=none){c:Cell}{a:Addr}(ho:c.live=true→∀ o,H a=some o→H' a=some o)(h0:c.live=true→H0 a=none→H0' a=none)(h:Gi ⟨F,m⟩ H0 H A c a):Gi ⟨F,m'⟩ H0' H' A' c a:=by
 cases c with
 | gone=>exact h
 | lst ds=>obtain ⟨z,vs,e,r⟩:=h; exact ⟨h0 rfl z,vs,ho rfl _ e,r.To hm hk ha⟩
 | dic ks ds=>obtain ⟨z,vs,e,e2,r⟩:=h; exact ⟨h0 rfl z,vs,ho rfl _ e,e2,r.To hm hk ha⟩
 | ins C ns ds=>obtain ⟨z,dx,fs,e,e2,r⟩:=h; exact ⟨h0 rfl z,dx,fs,ho rfl _ e,e2,r.To hm hk ha⟩
theorem ER.gen(hm:Xt m m')(hmh:l.Ui=true→m'=m)(hk:∀ a o,¬ A a→H a=some o→H' a=some o)(ha:∀ a,A' a→A a∨H a=none)(ho:∀ a,CS ⟨F,m⟩ l sv a→∀ o,H a=some o→H' a=some o)(h0:∀ a,CS ⟨F,m⟩ l sv a→H0 a=none→H0' a=none)
  (h:ER ⟨F,m⟩ H0 H A l sv):ER ⟨F,m'⟩ H0' H' A' l sv:=by
 cases l with
 | sh d=>obtain ⟨v,e,r⟩:=h; exact ⟨v,e,r.To hm hk ha⟩
 | ol ds=>obtain ⟨a,vs,e,z,e1,r⟩:=h; exact ⟨a,vs,e,h0 a e z,ho a e _ e1,r.To hm hk ha⟩
 | od ks ds=>obtain ⟨a,vs,e,z,e1,e2,r⟩:=h; exact ⟨a,vs,e,h0 a e z,ho a e _ e1,e2,r.To hm hk ha⟩
 | ot ks ds=>obtain ⟨a,vs,e,z,e1,e2,r⟩:=h; exact ⟨a,vs,e,h0 a e z,ho a e _ e1,e2,r.To hm hk ha⟩
 | mh cs=>
  have e:=hmh rfl
  subst e
  obtain ⟨nd,hl,hc⟩:=h
  exact ⟨nd,hl,fun k c a e1 e2=>(hc k c a e1 e2).gen hm hk ha (fun hv=>ho a ⟨k,c,e1,hv,e2⟩) (fun hv=>h0 a ⟨k,c,e1,hv,e2⟩)⟩
theorem ER.own(h:ER K H0 H A l sv){a:Addr}(o:CS K l sv a):Mut (H a)∧H0 a=none:=by
 cases l with
 | sh d=>exact False.elim o
 | ol ds=>obtain ⟨b,vs,e,z,e1,r⟩:=h; rw [show sv=_ from o] at e; cases e; rw [e1]; exact ⟨trivial,z⟩
 | od ks ds=>obtain ⟨b,vs,e,z,e1,r⟩:=h; rw [show sv=_ from o] at e; cases e; rw [e1]; exact ⟨trivial,z⟩
 | ot ks ds=>obtain ⟨b,vs,e,z,e1,r⟩:=h; rw [show sv=_ from o] at e; cases e; rw [e1]; exact ⟨trivial,z⟩
 | mh cs=>
  obtain ⟨nd,hl,hc⟩:=h
  obtain ⟨k,c,e1,hv,e2⟩:=o
  have q:=hc k c a e1 e2
  cases c with
  | gone=>cases hv
  | lst ds=>obtain ⟨z,vs,e,r⟩:=q; rw [e]; exact ⟨trivial,z⟩
  | dic ks ds=>obtain ⟨z,vs,e,r⟩:=q; rw [e]; exact ⟨trivial,z⟩
  | ins C ns ds=>obtain ⟨z,dx,fs,e,r⟩:=q; rw [e]; exact ⟨trivial,z⟩
theorem ER.W6(h:ER K H0 H A l sv)(hd:l.ld=true){a:Addr}(o:CS K l sv a):LD (H a):=by
 cases l with
 | sh d=>exact False.elim o
 | ol ds=>obtain ⟨b,vs,e,z,e1,r⟩:=h; rw [show sv=_ from o] at e; cases e; rw [e1]; exact trivial
 | od ks ds=>obtain ⟨b,vs,e,z,e1,r⟩:=h; rw [show sv=_ from o] at e; cases e; rw [e1]; exact trivial
 | ot ks ds=>obtain ⟨b,vs,e,z,e1,r⟩:=h; rw [show sv=_ from o] at e; cases e; rw [e1]; exact trivial
 | mh cs=>
  obtain ⟨nd,hl,hc⟩:=h
  obtain ⟨k,c,e1,hv,e2⟩:=o
  have q:=hc k c a e1 e2
  have hd':cs.all Cell.ld=true:=hd
  have hcd:=List.all_eq_true.mp hd' c (List.mem_of_getElem? e1)
  cases c with
  | gone=>cases hv
  | lst ds=>obtain ⟨z,vs,e,r⟩:=q; rw [e]; exact trivial
  | dic ks ds=>obtain ⟨z,vs,e,r⟩:=q; rw [e]; exact trivial
  | ins C ns ds=>cases hcd
theorem MP{o:Option HO}(h:Mut o):o≠none:=fun z=>by rw [z] at h; exact h
theorem StOk.B7(s:StOk K H0 A0 H ρ σ){i:Nat}{a:Addr}(h:Bj K ρ σ i a):(∃ o,H a=some o)∧H0 a=none:=by
 obtain ⟨l,e,h⟩:=h
 obtain ⟨q,z⟩:=(s.lo i l e).own h
 refine ⟨?_,z⟩
 cases e2:H a with
 | none=>exact absurd e2 (MP q)
 | some o=>exact ⟨o,rfl⟩
theorem StOk.Dj(s:StOk K H0 A0 H ρ σ){lk:List Nat}{a:Addr}(h:Av K A0 ρ σ lk a):Mut (H a):=by
 rcases h with h | ⟨i,_,h⟩
 ·have q:=s.a0 a h
  cases e:H0 a with
  | none=>rw [e] at q; exact False.elim q
  | some o=>
   rw [s.same a o e]
   rw [e] at q
   exact q
 ·obtain ⟨l,e,h⟩:=h
  exact ((s.lo i l e).own h).1
theorem StOk.Ld(s:StOk K H0 A0 H ρ σ){lk:List Nat}{a:Addr}(h:Av K A0 ρ σ lk a):H a≠none:=MP (s.Dj h)
theorem StOk.NB(s:StOk K H0 A0 H ρ σ){lk:List Nat}{a:Addr}(h:H a=none):¬ Av K A0 ρ σ lk a:=fun z=>s.Ld z h
theorem Av.sub{lk lk':List Nat}(h:∀ i,i∈lk→i∈lk'){a:Addr}(z:Av K A0 ρ σ lk' a):Av K A0 ρ σ lk a:=by
 rcases z with z | ⟨i,n,z⟩
 ·exact .inl z
 ·exact .inr ⟨i,fun q=>n (h i q),z⟩
theorem Av.nil{lk:List Nat}{a:Addr}(z:Av K A0 ρ σ lk a):Av K A0 ρ σ [] a:=Av.sub (lk:=[]) (lk':=lk) (fun _ q=>nomatch q) z
theorem Av.base{lk:List Nat}{a:Addr}(z:A0 a):Av K A0 ρ σ lk a:=.inl z
theorem StOk.grow(s:StOk K H0 A0 H ρ σ)(hs:Same H H'):StOk K H0 A0 H' ρ σ:=
 ⟨s.same.trans hs,s.a0,s.len,fun i l e=>ER.gen (F:=K.K) (m:=K.mu) (m':=K.mu) (Xt.refl _) (fun _=>rfl) (fun a o _ q=>hs a o q) (fun a z=>.inl z) (fun a _ o q=>hs a o q) (fun a _ z=>z) (s.lo i l e),s.ap,s.one,s.nm⟩
theorem StOk.val(s:StOk K H0 A0 H ρ σ){i:Nat}{l:Lo}(e:ρ[i]? = some (some l))(hn:l.Ui=false):∃ v,σ[i]? = some (some v)∧Rep K H (Av K A0 ρ σ [i]) l.d v:=by
 have h:=s.lo i l e
 have na:∀ a,CS K l σ[i]? a→H0 a=none→¬ Av K A0 ρ σ [i] a:=fun a ho h0 z=>by
  rcases z with z | ⟨j,n,z⟩
  ·have q:=s.a0 a z
   rw [h0] at q
   exact q
  ·have q:=s.ap i j a ⟨l,e,ho⟩ z
   subst q
   exact n (List.mem_singleton.mpr rfl)
 cases l with
 | sh d=>
  obtain ⟨v,e1,r⟩:=h
  exact ⟨v,e1,r.BC fun _ z=>z.nil⟩
 | ol ds=>
  obtain ⟨a,vs,e1,h0,h1,r⟩:=h
  refine ⟨_,e1,?_⟩
  show Rep K H _ (.lst ds) _
  unfold Rep
  exact ⟨a,vs,rfl,na a e1 h0,h1,r.BC fun _ z=>z.nil⟩
 | od ks ds=>
  obtain ⟨a,kvs,e1,h0,h1,h2,r⟩:=h
  refine ⟨_,e1,?_⟩
  show Rep K H _ (.dic ks ds) _
  unfold Rep
  exact ⟨a,kvs,rfl,na a e1 h0,.inl h1,h2,r.BC fun _ z=>z.nil⟩
 | ot ks ds=>
  obtain ⟨a,kvs,e1,h0,h1,h2,r⟩:=h
  refine ⟨_,e1,?_⟩
  show Rep K H _ (.dit ks ds) _
  unfold Rep
  exact ⟨a,kvs,rfl,na a e1 h0,.inl h1,h2,r.BC fun _ z=>z.nil⟩
 | mh cs=>cases hn
theorem C0{α:Type}{l:List α}{i:Nat}{x:α}(h:l[i]? = some x):l.set i x=l:=by
 apply List.ext_getElem?
 intro j
 by_cases e:i=j
 ·subst e
  rw [List.getElem?_set_self (List.getElem?_eq_some_iff.mp h).1,h]
 ·rw [List.getElem?_set_ne e]
theorem CS.ext{m m':Mu}(hmh:l.Ui=true→m'=m){a:Addr}(h:CS ⟨F,m'⟩ l sv a):CS ⟨F,m⟩ l sv a:=by
 cases l with
 | mh cs=>have e:=hmh rfl; subst e; exact h
 | _=>exact h
theorem StOk.NR(s:StOk ⟨F,m⟩ H0 A0 H ρ σ)(i:Nat)(l':Option Lo)(s':Option V)(hm:Xt m m')(hx:m'=m∨∃ cs,ρ[i]? = some (some (.mh cs)))(same:Same H0 H')(keep:∀ a o,H a=some o→¬ Bj ⟨F,m⟩ ρ σ i a→H' a=some o)
  (own:∀ l,l'=some l→∀ a,CS ⟨F,m'⟩ l (some s') a→Bj ⟨F,m⟩ ρ σ i a∨H a=none)
  (one:∀ cs,l'=some (.mh cs)→∃ cs,ρ[i]? = some (some (.mh cs)))
  (ok:∀ l,l'=some l→∀ A':Ad,(∀ a,A' a→Av ⟨F,m⟩ A0 ρ σ [i] a∨CS ⟨F,m'⟩ l (some s') a)→ER ⟨F,m'⟩ H0 H' A' l (some s')):
  StOk ⟨F,m'⟩ H0 A0 H' (ρ.set i l') (σ.set i s'):=by
 have cs':∀ j l,(ρ.set i l')[j]? = some (some l)→(j≠i∧ρ[j]? = some (some l)∧(σ.set i s')[j]? = σ[j]?)∨(j=i∧l'=some l∧(σ.set i s')[j]? = some s'):=fun j l e=>by
  by_cases h:i=j
  ·subst h
   have hl:i < ρ.length:=by
    have:=(List.getElem?_eq_some_iff.mp e).1
    rw [List.length_set] at this
    exact this
   rw [List.getElem?_set_self hl] at e
   exact .inr ⟨rfl,Option.some.inj e,List.getElem?_set_self (by rw [s.len]; exact hl)⟩
  ·rw [List.getElem?_set_ne h] at e
   exact .inl ⟨fun z=>h z.symm,e,List.getElem?_set_ne h⟩
 have mhj:∀ j l,j≠i→ρ[j]? = some (some l)→l.Ui=true→m'=m:=fun j l n e q=>by
  rcases hx with hx | ⟨cs,hx⟩
  ·exact hx
  ·cases l with
   | mh cs'=>exact absurd (s.one j i _ _ e hx) n
   | _=>cases q
 have oj:∀ j a,Bj ⟨F,m'⟩ (ρ.set i l') (σ.set i s') j a→(j≠i∧Bj ⟨F,m⟩ ρ σ j a)∨(j=i∧∃ l,l'=some l∧CS ⟨F,m'⟩ l (some s') a):=fun j a ⟨l,e,h⟩=>by
  rcases cs' j l e with ⟨n,e1,e2⟩ | ⟨n,e1,e2⟩
  ·rw [e2] at h
   exact .inl ⟨n,l,e1,h.ext (mhj j l n e1)⟩
  ·rw [e2] at h
   exact .inr ⟨n,l,e1,h⟩
 have av:∀ a,Av ⟨F,m'⟩ A0 (ρ.set i l') (σ.set i s') [] a→Av ⟨F,m⟩ A0 ρ σ [i] a∨∃ l,l'=some l∧CS ⟨F,m'⟩ l (some s') a:=fun a z=>by
  rcases z with z | ⟨j,_,z⟩
  ·exact .inl (.inl z)
  ·rcases oj j a z with ⟨n,z⟩ | ⟨_,z⟩
   ·exact .inl (.inr ⟨j,fun q=>n (List.mem_singleton.mp q),z⟩)
   ·exact .inr z
 have ow:∀ a,(∃ l,l'=some l∧CS ⟨F,m'⟩ l (some s') a)→Bj ⟨F,m⟩ ρ σ i a∨H a=none:=fun a ⟨l,e,h⟩=>own l e a h
 have mi:∀ (j:Nat) (c:List Cell),(ρ.set i l')[j]? = some (some (.mh c))→∃ c:List Cell,ρ[j]? = some (some (.mh c)):=fun j c e=>by
  rcases cs' j _ e with ⟨n,e1,e2⟩ | ⟨rfl,e1,e2⟩
  ·exact ⟨_,e1⟩
  ·exact one c e1
 refine ⟨same,s.a0,by rw [List.length_set,List.length_set]; exact s.len,fun j l e=>?_,fun j k a h1 h2=>?_,fun j k c1 c2 h1 h2=>?_,fun hf j c e=>?_⟩
 ·rcases cs' j l e with ⟨n,e1,e2⟩ | ⟨rfl,e1,e2⟩
  ·rw [e2]
   refine ER.gen hm (mhj j l n e1) (fun a o na q=>keep a o q fun z=>na (.inr ⟨i,(fun q=>nomatch q),z⟩)) (fun a z=>?_) (fun a ho o q=>keep a o q fun z=>n (s.ap j i a ⟨l,e1,ho⟩ z)) (fun a _ z=>z) (s.lo j l e1)
   rcases av a z with z | z
   ·exact .inl z.nil
   ·exact (ow a z).imp (fun z=>.inr ⟨i,(fun q=>nomatch q),z⟩) id
  ·rw [e2]
   exact ok l e1 _ fun a z=>(av a z).imp id fun ⟨l2,e3,z⟩=>by rw [e1] at e3; cases e3; exact z
 ·rcases oj j a h1 with ⟨n1,z1⟩ | ⟨n1,z1⟩
  ·rcases oj k a h2 with ⟨n2,z2⟩ | ⟨n2,z2⟩
   ·exact s.ap j k a z1 z2
   ·rcases ow a z2 with z2 | z2
    ·exact absurd (s.ap j i a z1 z2) n1
    ·obtain ⟨⟨o,q⟩,_⟩:=s.B7 z1
     rw [z2] at q
     cases q
  ·rcases oj k a h2 with ⟨n2,z2⟩ | ⟨n2,z2⟩
   ·rcases ow a z1 with z1 | z1
    ·exact absurd (s.ap k i a z2 z1) n2
    ·obtain ⟨⟨o,q⟩,_⟩:=s.B7 z2
     rw [z1] at q
     cases q
   ·rw [n1,n2]
 ·obtain ⟨d1,q1⟩:=mi j c1 h1
  obtain ⟨d2,q2⟩:=mi k c2 h2
  exact s.one j k _ _ q1 q2
 ·obtain ⟨d1,q1⟩:=mi j c e
  exact s.nm (hm.fx.symm.trans hf) j _ q1
theorem StOk.put(s:StOk K H0 A0 H ρ σ){i:Nat}{d:Dt}{v:V}(r:Rep K H (Av K A0 ρ σ []) d v):StOk K H0 A0 H (ρ.set i (some (.sh d))) (σ.set i (some v)):=by
 refine StOk.NR (F:=K.K) (m:=K.mu) s i _ _ (Xt.refl _) (.inl rfl) s.same (fun a o e _=>e) (fun l e a h=>?_) (fun cs e=>by cases e) fun l e A' ha=>?_
 ·cases e; exact False.elim h
 ·cases e
  exact ⟨v,rfl,r.BC fun a z=>(ha a z).elim (fun z=>z.nil) fun z=>False.elim z⟩
theorem StOk.gone(s:StOk K H0 A0 H ρ σ)(i:Nat):StOk K H0 A0 H (ρ.set i none) (σ.set i none):=
 StOk.NR (F:=K.K) (m:=K.mu) s i _ _ (Xt.refl _) (.inl rfl) s.same (fun a o e _=>e) (fun l e=>by cases e) (fun cs e=>by cases e) fun l e=>by cases e
theorem StOk.kM{i:Nat}{d:Dt}{v:V}{lk:List Nat}{a:Addr}(z:Av K A0 (ρ.set i (some (.sh d))) (σ.set i (some v)) lk a):Av K A0 ρ σ lk a:=by
 rcases z with z | ⟨j,n,l,e,h⟩
 ·exact .inl z
 ·refine .inr ⟨j,n,?_⟩
  by_cases hj:i=j
  ·subst hj
   by_cases hl:i < ρ.length
   ·rw [List.getElem?_set_self hl] at e
    cases e
    exact False.elim h
   ·rw [List.getElem?_eq_none (by rw [List.length_set]; omega)] at e
    cases e
  ·rw [List.getElem?_set_ne hj] at e h
   exact ⟨l,e,h⟩
theorem StOk.fz1(s:StOk K H0 A0 H ρ σ)(i:Nat):StOk K H0 A0 H (Lh ρ i) σ∧∀ lk a,Av K A0 (FD.Lh ρ i) σ lk a→Av K A0 ρ σ (i :: lk) a:=by
 unfold FD.Lh
 have key:∀ (l':Option Lo),(∀ l,l'=some l→l.Ui=false∧∀ a,¬ CS K l σ[i]? a)→∀ lk a,Av K A0 (ρ.set i l') σ lk a→Av K A0 ρ σ (i :: lk) a:=by
  rintro l' hl' lk a (z | ⟨j,n,l,e,ho⟩)
  ·exact .inl z
  ·by_cases h:i=j
   ·subst h
    have hl:i < ρ.length:=by
     have:=(List.getElem?_eq_some_iff.mp e).1
     rw [List.length_set] at this
     exact this
    rw [List.getElem?_set_self hl] at e
    exact absurd ho ((hl' l (Option.some.inj e)).2 a)
   ·rw [List.getElem?_set_ne h] at e
    exact .inr ⟨j,fun q=>(List.mem_cons.mp q).elim (fun z=>h z.symm) n,l,e,ho⟩
 have hσ:∀ v,σ[i]? = some v→σ.set i v=σ:=fun v e=>C0 e
 split
 ·rename_i cs e
  refine ⟨?_,key none (fun l e=>by cases e)⟩
  have hi:i < σ.length:=by rw [s.len]; exact (List.getElem?_eq_some_iff.mp e).1
  have q:=StOk.NR (F:=K.K) (m:=K.mu) (H':=H) s i none σ[i] (Xt.refl _) (.inl rfl) s.same (fun a o e _=>e) (fun l e=>by cases e) (fun cs e=>by cases e) fun l e=>by cases e
  rw [hσ _ (List.getElem?_eq_getElem hi)] at q
  exact q
 ·rename_i l hn e
  have hmh:l.Ui=false:=by
   cases l with
   | mh cs=>exact (hn cs rfl).elim
   | _=>rfl
  obtain ⟨v,e1,r⟩:=s.val e hmh
  refine ⟨?_,key _ (fun l e=>by cases e; exact ⟨rfl,fun a z=>z⟩)⟩
  have q:=StOk.NR (F:=K.K) (m:=K.mu) (H':=H) s i (some (.sh l.d)) (some v) (Xt.refl _) (.inl rfl) s.same (fun a o e _=>e) (fun l e a h=>by cases e; exact False.elim h) (fun cs e=>by cases e) fun l2 e2 A' ha=>by
   cases e2
   exact ⟨v,rfl,r.BC fun a z=>(ha a z).elim id fun z=>False.elim z⟩
  rw [hσ _ e1] at q
  exact q
 ·rename_i hn1 hn2
  refine ⟨s,fun lk a z=>?_⟩
  rcases z with z | ⟨j,n,l,e,ho⟩
  ·exact .inl z
  ·refine .inr ⟨j,fun q=>(List.mem_cons.mp q).elim (fun h=>?_) n,l,e,ho⟩
   subst h
   exact hn2 l e
theorem StOk.fz(s:StOk K H0 A0 H ρ σ)(lk:List Nat):StOk K H0 A0 H (frz lk ρ) σ∧∀ mk a,Av K A0 (FD.frz lk ρ) σ mk a→Av K A0 ρ σ (lk ++ mk) a:=by
 induction lk generalizing ρ with
 | nil=>exact ⟨s,fun mk a z=>z⟩
 | cons i lk ih=>
  obtain ⟨s1,h1⟩:=s.fz1 i
  obtain ⟨s2,h2⟩:=ih s1
  exact ⟨s2,fun mk a z=>h1 _ a (h2 mk a z)⟩
theorem StOk.Td(s:StOk K H0 A0 H ρ σ){d:Dt}{v:V}{lk:List Nat}(r:Rep K H (Av K A0 ρ σ lk) d v):StOk K H0 A0 H (AL d lk ρ) σ∧Rep K H (Av K A0 (AL d lk ρ) σ []) d v:=by
 unfold AL
 split
 ·rename_i hd
  refine ⟨s,?_⟩
  rcases hd with hd | ⟨hd,hl⟩
  ·exact Rep.pure (fun a z=>s.Dj z) d v hd r
  ·refine Rep.nl (fun a z=>?_) d v hd r
   rcases z with z | ⟨i,n,l,e,ho⟩
   ·exact .inl (.inl z)
   ·by_cases hi:i∈lk
    ·have q:=List.all_eq_true.mp hl i hi
     unfold Nh at q
     rw [e] at q
     exact .inr ((s.lo i l e).W6 q ho)
    ·exact .inl (.inr ⟨i,hi,l,e,ho⟩)
 ·obtain ⟨s1,h1⟩:=s.fz lk
  exact ⟨s1,r.BC fun a z=>by have q:=h1 [] a z; rwa [List.append_nil] at q⟩
theorem StOk.fzL0(s:StOk K H0 A0 H ρ σ){ds:List Dt}{vs:List V}{p:Addr}{lk:List Nat}(hs:Same H H')(hp:H p=none)(hp':H' p=some (.lst vs))(r:Ah K H' (fun a=>Av K A0 ρ σ lk a∨a=p) ds vs):StOk K H0 A0 H (US ds lk ρ) σ∧Ah K H' (fun a=>Av K A0 (US ds lk ρ) σ [] a∨a=p) ds vs:=by
 unfold US
 split
 ·rename_i hd
  refine ⟨s,?_⟩
  rcases hd with hd | ⟨hd,hl⟩
  ·refine Ah.pure (fun a z=>?_) ds vs hd r
   rcases z with z | z
   ·exact (s.grow hs).Dj z
   ·rw [z,hp']; exact trivial
  ·refine Ah.nl (fun a z=>?_) ds vs hd r
   rcases z with (z | ⟨i,n,l,e,ho⟩) | z
   ·exact .inl (.inl (.inl z))
   ·by_cases hi:i∈lk
    ·have q:=List.all_eq_true.mp hl i hi
     unfold Nh at q
     rw [e] at q
     exact .inr (((s.grow hs).lo i l e).W6 q ho)
    ·exact .inl (.inl (.inr ⟨i,hi,l,e,ho⟩))
   ·exact .inl (.inr z)
 ·obtain ⟨s1,h1⟩:=s.fz lk
  exact ⟨s1,r.BC fun a z=>z.imp (fun z=>by have q:=h1 [] a z; rwa [List.append_nil] at q) id⟩
theorem StOk.give(s:StOk K H0 A0 H ρ σ){i:Nat}{d:Dt}{v:V}{lk:List Nat}(hs:Same H H')(r:Rep K H' (Av K A0 ρ σ lk) d v):StOk K H0 A0 H' ((AL d lk ρ).set i (some (.sh d))) (σ.set i (some v)):=by
 obtain ⟨s1,r1⟩:=(s.grow hs).Td r
 exact s1.put r1
theorem StOk.j5(s:StOk K H0 A0 H ρ σ){i:Nat}{ds:List Dt}{vs:List V}{p:Addr}{lk:List Nat}(hs:Same H H')(hp:H p=none)(hp':H' p=some (.lst vs))(r:Ah K H' (fun a=>Av K A0 ρ σ lk a∨a=p) ds vs):
  StOk K H0 A0 H' ((US ds lk ρ).set i (some (.ol ds))) (σ.set i (some (.ref p))):=by
 obtain ⟨s1,r1⟩:=s.fzL0 hs hp hp' r
 refine StOk.NR (F:=K.K) (m:=K.mu) s1 i _ _ (Xt.refl _) (.inl rfl) (s.same.trans hs) (fun a o e _=>hs a o e) (fun l e a h=>?_) (fun cs e=>by cases e) fun l e A' ha=>?_
 ·cases e
  cases (show some (some (V.ref p))=some (some (V.ref a)) from h)
  exact .inr hp
 ·cases e
  refine ⟨p,vs,rfl,s.same.free hp,hp',r1.BC fun a z=>?_⟩
  rcases ha a z with z | z
  ·exact .inl z.nil
  ·cases (show some (some (V.ref p))=some (some (V.ref a)) from z)
   exact .inr rfl
theorem StOk.Xr(s:StOk K H0 A0 H ρ σ){i:Nat}{ks:List Key}{ds:List Dt}{kvs:List (Key × V)}{p:Addr}{lk:List Nat}(hs:Same H H')(hp:H p=none)(hp':H' p=some (.dK kvs))(hk:kvs.map (·.1)=ks)(r:Ah K H' (fun a=>Av K A0 ρ σ lk a∨a=p) ds (kvs.map (·.2))):
  StOk K H0 A0 H' ((frz lk ρ).set i (some (.od ks ds))) (σ.set i (some (.ref p))):=by
 obtain ⟨s1,h1⟩:=s.fz lk
 refine StOk.NR (F:=K.K) (m:=K.mu) s1 i _ _ (Xt.refl _) (.inl rfl) (s.same.trans hs) (fun a o e _=>hs a o e) (fun l e a h=>?_) (fun cs e=>by cases e) fun l e A' ha=>?_
 ·cases e
  cases (show some (some (V.ref p))=some (some (V.ref a)) from h)
  exact .inr hp
 ·cases e
  refine ⟨p,kvs,rfl,s.same.free hp,hp',hk,r.BC fun a z=>?_⟩
  rcases ha a z with z | z
  ·have q:=h1 [i] a z
   exact .inl (Av.sub (fun j hj=>List.mem_append_left _ hj) q)
  ·cases (show some (some (V.ref p))=some (some (V.ref a)) from z)
   exact .inr rfl
theorem StOk.SO(s:StOk K H0 A0 H ρ σ){i:Nat}{a:Addr}{u:HO}(ho:Bj K ρ σ i a):∀ b o,H b=some o→¬ Bj K ρ σ i b→upd H a u b=some o:=fun b o e n=>by
 rw [upd_ne (fun z=>by subst z; exact n ho)]
 exact e
theorem StOk.Sa(s:StOk K H0 A0 H ρ σ){a:Addr}{u:HO}(h0:H0 a=none):Same H0 (upd H a u):=fun b o e=>by
 rw [upd_ne (ne_of_none e h0)]
 exact s.same b o e
theorem Av.keep{a:Addr}{u:HO}{i:Nat}(ho:Bj K ρ σ i a):∀ b o,¬ Av K A0 ρ σ [] b→H b=some o→upd H a u b=some o:=fun b o n q=>by
 rw [upd_ne (fun z=>by subst z; exact n (.inr ⟨i,(fun q=>nomatch q),ho⟩))]
 exact q
theorem StOk.kQ(s:StOk K H0 A0 H ρ σ){i:Nat}{ds es:List Dt}{a:Addr}{us:List V}(e:ρ[i]? = some (some (.ol ds)))(hσ:σ[i]? = some (some (.ref a)))(r:Ah K H (Av K A0 ρ σ []) es us):
  StOk K H0 A0 (upd H a (.lst us)) (ρ.set i (some (.ol es))) σ:=by
 have ho:Bj K ρ σ i a:=⟨_,e,hσ⟩
 have h0:=(s.B7 ho).2
 have q:=StOk.NR (F:=K.K) (m:=K.mu) (H':=upd H a (.lst us)) s i (some (.ol es)) (some (.ref a)) (Xt.refl _) (.inl rfl) (s.Sa h0) (s.SO ho) (fun l e b h=>by cases e; cases (show some (some (V.ref a))=some (some (V.ref b)) from h); exact .inl ho) (fun cs e=>by cases e) fun l e2 A' ha=>by
  cases e2
  refine ⟨a,us,rfl,h0,upd_same,Ah.mono (Av.keep ho) (fun b z=>?_) _ _ r⟩
  rcases ha b z with z | z
  ·exact z.nil
  ·cases (show some (some (V.ref a))=some (some (V.ref b)) from z)
   exact .inr ⟨i,(fun q=>nomatch q),ho⟩
 rw [C0 hσ] at q
 exact q
theorem StOk.kD(s:StOk K H0 A0 H ρ σ){i:Nat}{ks ks':List Key}{ds es:List Dt}{a:Addr}{kvs:List (Key × V)}(e:ρ[i]? = some (some (.od ks ds)))(hσ:σ[i]? = some (some (.ref a)))(hk:kvs.map (·.1)=ks')(r:Ah K H (Av K A0 ρ σ []) es (kvs.map (·.2))):
  StOk K H0 A0 (upd H a (.dK kvs)) (ρ.set i (some (.od ks' es))) σ:=by
 have ho:Bj K ρ σ i a:=⟨_,e,hσ⟩
 have h0:=(s.B7 ho).2
 have q:=StOk.NR (F:=K.K) (m:=K.mu) (H':=upd H a (.dK kvs)) s i (some (.od ks' es)) (some (.ref a)) (Xt.refl _) (.inl rfl) (s.Sa h0) (s.SO ho) (fun l e b h=>by cases e; cases (show some (some (V.ref a))=some (some (V.ref b)) from h); exact .inl ho) (fun cs e=>by cases e) fun l e2 A' ha=>by
  cases e2
  refine ⟨a,kvs,rfl,h0,upd_same,hk,Ah.mono (Av.keep ho) (fun b z=>?_) _ _ r⟩
  rcases ha b z with z | z
  ·exact z.nil
  ·cases (show some (some (V.ref a))=some (some (V.ref b)) from z)
   exact .inr ⟨i,(fun q=>nomatch q),ho⟩
 rw [C0 hσ] at q
 exact q
theorem StOk.b0(s:StOk K H0 A0 H ρ σ){i k:Nat}{cs:List Cell}{c c':Cell}{a:Addr}{u:HO}(e:ρ[i]? = some (some (.mh cs)))(hc:cs[k]? = some c)(hl:c.live=true)(ha:K.mu.l[k]? = some a)(hl':c'.live=true)
  (ok:∀ A',(∀ b,A' b→Av K A0 ρ σ [] b)→Gi K H0 (upd H a u) A' c' a):StOk K H0 A0 (upd H a u) (ρ.set i (some (.mh (cs.set k c')))) σ:=by
 have ho:Bj K ρ σ i a:=⟨_,e,k,c,hc,hl,ha⟩
 have h0:=(s.B7 ho).2
 have hi:i < σ.length:=by rw [s.len]; exact (List.getElem?_eq_some_iff.mp e).1
 have hk:k < cs.length:=(List.getElem?_eq_some_iff.mp hc).1
 have own:∀ b,CS K (.mh (cs.set k c')) (some σ[i]) b→Bj K ρ σ i b:=fun b ⟨j,c2,e1,hv,e2⟩=>by
  by_cases hj:k=j
  ·subst hj
   rw [ha] at e2
   cases e2
   exact ho
  ·rw [List.getElem?_set_ne hj] at e1
   exact ⟨_,e,j,c2,e1,hv,e2⟩
 have q:=StOk.NR (F:=K.K) (m:=K.mu) (H':=upd H a u) s i (some (.mh (cs.set k c'))) σ[i] (Xt.refl _) (.inl rfl) (s.Sa h0) (s.SO ho) (fun l e b h=>by cases e; exact .inl (own b h)) (fun _ _=>⟨cs,e⟩) fun l e2 A' hA=>by
  cases e2
  obtain ⟨nd,hlen,hcs⟩:=s.lo i _ e
  have hA':∀ b,A' b→Av K A0 ρ σ [] b:=fun b z=>(hA b z).elim (fun z=>z.nil) fun z=>.inr ⟨i,(fun q=>nomatch q),own b z⟩
  have sp:∀ (j:Nat) (c2:Cell),(cs.set k c')[j]? = some c2→c2.live=true→∃ c3:Cell,cs[j]? = some c3∧c3.live=true:=fun j c2 e1 hv=>by
   by_cases hj:k=j
   ·subst hj
    exact ⟨c,hc,hl⟩
   ·rw [List.getElem?_set_ne hj] at e1
    exact ⟨c2,e1,hv⟩
  refine ⟨fun j1 j2 b c1 c2 e1 e2 v1 v2 m1 m2=>?_,by rw [List.length_set]; exact hlen,fun j c2 b e1 e3=>?_⟩
  ·obtain ⟨d1,f1,w1⟩:=sp j1 c1 e1 v1
   obtain ⟨d2,f2,w2⟩:=sp j2 c2 e2 v2
   exact nd j1 j2 b d1 d2 f1 f2 w1 w2 m1 m2
  by_cases hj:k=j
  ·subst hj
   rw [List.getElem?_set_self hk] at e1
   cases e1
   rw [ha] at e3
   cases e3
   exact ok A' hA'
  ·rw [List.getElem?_set_ne hj] at e1
   refine (hcs j c2 b e1 e3).gen (Xt.refl _) (Av.keep ho) (fun b z=>.inl (hA' b z)) (fun hv o q=>?_) (fun _ z=>z)
   rw [upd_ne (fun z=>by subst z; exact hj (nd k j _ c c2 hc e1 hl hv ha e3))]
   exact q
 rw [C0 (List.getElem?_eq_getElem hi)] at q
 exact q
def Mu.push(m:Mu)(p:Addr):Mu:=⟨m.l ++ [p],m.fix⟩
theorem StOk.alloc(s:StOk ⟨F,m⟩ H0 A0 H ρ σ){i:Nat}{cs:List Cell}{c:Cell}{p:Addr}(e:ρ[i]? = some (some (.mh cs)))(hs:Same H H')(hp:H p=none)
  (ok:∀ A',(∀ b,A' b→Av ⟨F,m⟩ A0 ρ σ [] b∨b=p)→Gi ⟨F,m.push p⟩ H0 H' A' c p):StOk ⟨F,m.push p⟩ H0 A0 H' (ρ.set i (some (.mh (cs ++ [c])))) σ:=by
 have hi:i < σ.length:=by rw [s.len]; exact (List.getElem?_eq_some_iff.mp e).1
 have hf:m.fix=false:=by
  cases h:m.fix with
  | false=>rfl
  | true=>exact absurd e (s.nm h i cs)
 have hm:Xt m (m.push p):=⟨fun k a h=>by show (m.l ++ [p])[k]? = _; rw [List.getElem?_append_left (List.getElem?_eq_some_iff.mp h).1]; exact h,rfl,fun z=>by rw [hf] at z; cases z⟩
 obtain ⟨nd,hlen,hcs⟩:=s.lo i _ e
 simp only at hlen
 have split:∀ (j:Nat) (c2:Cell),(cs ++ [c])[j]? = some c2→cs[j]? = some c2∨(j=cs.length∧c2=c):=fun j c2 h=>by
  by_cases hj:j < cs.length
  ·rw [List.getElem?_append_left hj] at h
   exact .inl h
  ·rw [List.getElem?_append_right (by omega)] at h
   cases hd:j - cs.length with
   | zero=>
    rw [hd] at h
    cases h
    exact .inr ⟨by omega,rfl⟩
   | succ n=>rw [hd] at h; cases h
 have at':∀ (j:Nat) (b:Addr),(m.push p).l[j]? = some b→(j < m.l.length∧m.l[j]? = some b)∨(j=m.l.length∧b=p):=fun j b h=>by
  have h:(m.l ++ [p])[j]? = some b:=h
  by_cases hj:j < m.l.length
  ·rw [List.getElem?_append_left hj] at h
   exact .inl ⟨hj,h⟩
  ·rw [List.getElem?_append_right (by omega)] at h
   cases hd:j - m.l.length with
   | zero=>
    rw [hd] at h
    cases h
    exact .inr ⟨by omega,rfl⟩
   | succ n=>rw [hd] at h; cases h
 have own:∀ b,CS ⟨F,m.push p⟩ (.mh (cs ++ [c])) (some σ[i]) b→Bj ⟨F,m⟩ ρ σ i b∨b=p:=fun b ⟨j,c2,e1,hv,e2⟩=>by
  rcases split j c2 e1 with h | ⟨h,_⟩
  ·rcases at' j b e2 with ⟨_,h2⟩ | ⟨h2,_⟩
   ·exact .inl ⟨_,e,j,c2,h,hv,h2⟩
   ·have:=(List.getElem?_eq_some_iff.mp h).1
    omega
  ·rcases at' j b e2 with ⟨h2,_⟩ | ⟨_,h2⟩
   ·omega
   ·exact .inr h2
 have q:=StOk.NR (F:=F) (m:=m) (m':=m.push p) (H':=H') s i (some (.mh (cs ++ [c]))) σ[i] hm (.inr ⟨cs,e⟩) (s.same.trans hs) (fun a o q _=>hs a o q) (fun l e b h=>by cases e; exact (own b h).imp id fun z=>by rw [z]; exact hp) (fun _ _=>⟨cs,e⟩) fun l e2 A' hA=>by
  cases e2
  have hA':∀ b,A' b→Av ⟨F,m⟩ A0 ρ σ [] b∨b=p:=fun b z=>(hA b z).elim (fun z=>.inl z.nil) fun z=>(own b z).imp (fun z=>.inr ⟨i,(fun q=>nomatch q),z⟩) id
  have lv:∀ (j:Nat) (c2:Cell) (b:Addr),cs[j]? = some c2→c2.live=true→m.l[j]? = some b→b≠p:=fun j c2 b h1 h2 h3 z=>by
   obtain ⟨⟨o,q⟩,_⟩:=s.B7 (i:=i) (a:=b) ⟨_,e,j,c2,h1,h2,h3⟩
   rw [z,hp] at q
   cases q
  refine ⟨fun j1 j2 b c1 c2 e1 e2 v1 v2 m1 m2=>?_,by show (cs ++ [c]).length=(m.l ++ [p]).length; simp [hlen],fun j c2 b e1 e3=>?_⟩
  ·rcases split j1 c1 e1 with h1 | ⟨h1,_⟩
   ·rcases at' j1 b m1 with ⟨_,k1⟩ | ⟨k1,_⟩
    ·rcases split j2 c2 e2 with h2 | ⟨h2,_⟩
     ·rcases at' j2 b m2 with ⟨_,k2⟩ | ⟨k2,_⟩
      ·exact nd j1 j2 b c1 c2 h1 h2 v1 v2 k1 k2
      ·have:=(List.getElem?_eq_some_iff.mp h2).1
       omega
     ·rcases at' j2 b m2 with ⟨k2,_⟩ | ⟨_,k2⟩
      ·omega
      ·exact absurd k2 (lv j1 c1 b h1 v1 k1)
    ·have:=(List.getElem?_eq_some_iff.mp h1).1
     omega
   ·rcases at' j1 b m1 with ⟨k1,_⟩ | ⟨_,k1⟩
    ·omega
    ·rcases split j2 c2 e2 with h2 | ⟨h2,_⟩
     ·rcases at' j2 b m2 with ⟨_,k2⟩ | ⟨k2,_⟩
      ·exact absurd k1 (lv j2 c2 b h2 v2 k2)
      ·have:=(List.getElem?_eq_some_iff.mp h2).1
       omega
     ·rw [h1,h2]
  ·rcases split j c2 e1 with h | ⟨h,rfl⟩
   ·rcases at' j b e3 with ⟨_,h2⟩ | ⟨h2,_⟩
    ·exact (hcs j c2 b h h2).gen hm (fun a o _ q=>hs a o q) (fun b z=>(hA' b z).imp id fun z=>by rw [z]; exact hp) (fun _ o q=>hs _ o q) (fun _ z=>z)
    ·have:=(List.getElem?_eq_some_iff.mp h).1
     omega
   ·rcases at' j b e3 with ⟨h2,_⟩ | ⟨_,rfl⟩
    ·omega
    ·exact ok A' hA'
 rw [C0 (List.getElem?_eq_getElem hi)] at q
 exact q
end
end FD
namespace FD
open PySem L2
def Ze:Ad:=fun _=>False
def NS(K:PySem.W.Frag)(H:Hp)(x:Exn)(c:Value)(od:Option Addr):Prop:=
 c=.ref x.cls∧Dt.DK (x.fs.map (·.2))=true∧match od with
  | none=>x.fs=[]
  | some d=>∃ fs:List (Str × V),H d=some (.xd fs)∧fs.map (·.1)=x.fs.map (·.1)∧Ah ⟨K,⟨[],true⟩⟩ H Ze (x.fs.map (·.2)) (fs.map (·.2))
def DA(K:PySem.W.Frag)(W:WX)(H:Hp)(σ:L2.St){α:Type}(o:Out α)(R:α→Prop):Prop:=match o with
 | .ok a=>R a
 | .exc x=>∀ c od H',Same H H'→NS K H' x c od→W c od σ H'
 | .bad=>False
def RE(K:KM)(A:Ad)(H:Hp)(Q:VK)(d:Dt):Prop:=∀ v H',Same H H'→Rep K H' A d v→Q v H'
def RL(K:KM)(A:Ad)(H:Hp)(Q:VK)(ds:List Dt):Prop:=∀ p vs H',Same H H'→H p=none→H' p=some (.lst vs)→Ah K H' (fun a=>A a∨a=p) ds vs→Q (.ref p) H'
def RA(K:KM)(A:Ad)(H:Hp)(Q:List V→Hp→Prop)(ds:List Dt):Prop:=∀ vs H',Same H H'→Ah K H' A ds vs→Q vs H'
def RT(H:Hp)(Q:Bool→Hp→Prop)(b:Bool):Prop:=∀ H',Same H H'→Q b H'
def Dx(K:PySem.W.Frag)(W:WX)(te:TE)(f:Env→Out Dt)(lk:List Nat):Prop:=
 ∀ (μ:Mu) (H0:Hp) (A0:Ad) (ρ:Env) (σ:L2.St) (H:Hp) (Q:VK),StOk ⟨K,μ⟩ H0 A0 H ρ σ→DA K W H σ (f ρ) (RE ⟨K,μ⟩ (Av ⟨K,μ⟩ A0 ρ σ lk) H Q)→te σ H Q
def aS(K:PySem.W.Frag)(W:WX)(te:TE)(f:Env→Out (List Dt))(lk:List Nat):Prop:=
 ∀ (μ:Mu) (H0:Hp) (A0:Ad) (ρ:Env) (σ:L2.St) (H:Hp) (Q:VK),StOk ⟨K,μ⟩ H0 A0 H ρ σ→DA K W H σ (f ρ) (RL ⟨K,μ⟩ (Av ⟨K,μ⟩ A0 ρ σ lk) H Q)→te σ H Q
def RR(K:PySem.W.Frag)(W:WX)(ta:TA)(f:Env→Out (List Dt))(lk:List Nat):Prop:=
 ∀ (μ:Mu) (H0:Hp) (A0:Ad) (ρ:Env) (σ:L2.St) (H:Hp) (Q:List V→Hp→Prop),StOk ⟨K,μ⟩ H0 A0 H ρ σ→DA K W H σ (f ρ) (RA ⟨K,μ⟩ (Av ⟨K,μ⟩ A0 ρ σ lk) H Q)→ta σ H Q
def Ry(K:PySem.W.Frag)(W:WX)(tt:TT)(f:Env→Out Bool)(lk:List Nat):Prop:=
 ∀ (μ:Mu) (H0:Hp) (A0:Ad) (ρ:Env) (σ:L2.St) (H:Hp) (Q:Bool→Hp→Prop),StOk ⟨K,μ⟩ H0 A0 H ρ σ→DA K W H σ (f ρ) (RT H Q)→tt σ H Q
def Bc(X:Cx)(W:WX)(e:Expr)(f:Env→Out Dt)(lk:List Nat):Prop:=∃ te,PE X e te∧Dx X.K W te f lk
def Za(X:Cx)(W:WX)(e:Expr)(f:Env→Out (List Dt))(lk:List Nat):Prop:=∃ te,PE X e te∧aS X.K W te f lk
def JL(X:Cx)(W:WX)(es:List Expr)(f:Env→Out (List Dt))(lk:List Nat):Prop:=∃ ta,PA X es ta∧RR X.K W ta f lk
def Vb(X:Cx)(W:WX)(e:Expr)(f:Env→Out Bool)(lk:List Nat):Prop:=∃ tt,PT X e tt∧Ry X.K W tt f lk
def h9(X:Cx)(W:WX)(e:Expr)(f:Env→Out Bool)(lk:List Nat):Prop:=∃ tt,PW X e tt∧Ry X.K W tt f lk
section
variable {K:PySem.W.Frag} {κ:KM} {W:WX} {H0 H H1 H2:Hp} {A A' A0:Ad} {ρ:Env} {σ:L2.St} {lk la lb lc mk:List Nat} {Q:VK} {d:Dt} {v:V} {x:Exn} {α β:Type}
theorem NS.same{c:Value}{od:Option Addr}(hs:Same H H1)(h:NS K H x c od):NS K H1 x c od:=by
 obtain ⟨e,p,h⟩:=h
 refine ⟨e,p,?_⟩
 cases od with
 | none=>exact h
 | some d=>
  obtain ⟨fs,h1,h3,h4⟩:=h
  exact ⟨fs,hs _ _ h1,h3,h4.same hs⟩
theorem DA.grow{o:Out α}{R:α→Prop}(hs:Same H H1)(h:DA K W H σ o R):DA K W H1 σ o R:=by
 cases o with
 | ok d=>exact h
 | exc x=>exact fun c od H' s r=>h c od H' (hs.trans s) r
 | bad=>exact h
theorem DA.seq{o:Out α}{g:α→Out β}{R:β→Prop}{R':α→Prop}(h:DA K W H σ (o.bind g) R)(hk:∀ a,o=.ok a→DA K W H σ (g a) R→R' a):DA K W H σ o R':=by
 cases o with
 | ok d=>exact hk d rfl h
 | exc x=>exact h
 | bad=>exact h
theorem DA.imp{o:Out α}{R R':α→Prop}(h:DA K W H σ o R)(hk:∀ a,o=.ok a→R a→R' a):DA K W H σ o R':=by
 cases o with
 | ok d=>exact hk d rfl h
 | exc x=>exact h
 | bad=>exact h
theorem aJ{a:Addr}(z:Av κ A0 ρ σ (la ++ lb) a):Av κ A0 ρ σ la a:=Av.sub (fun _ h=>List.mem_append_left _ h) z
theorem bI{a:Addr}(z:Av κ A0 ρ σ (la ++ lb) a):Av κ A0 ρ σ lb a:=Av.sub (fun _ h=>List.mem_append_right _ h) z
def FU{α:Type}:Option α→Out α
 | some a=>.ok a
 | none=>.bad
@[simp] theorem BI{α:Type}(a:α):FU (some a)=.ok a:=rfl
def Aa(i:Nat):Env→Out Dt:=fun ρ=>match ρ[i]? with
 | some (some (.mh _))=>.bad
 | some (some l)=>.ok l.d
 | _=>.bad
def eC(d:Dt):Env→Out Dt:=fun _=>.ok d
def e1(fa:Env→Out Dt)(g:Dt→Option Dt):Env→Out Dt:=fun ρ=>(fa ρ).bind fun a=>FU (g a)
def e2(fa fb:Env→Out Dt)(g:Dt→Dt→Option Dt):Env→Out Dt:=fun ρ=>(fa ρ).bind fun a=>(fb ρ).bind fun b=>FU (g a b)
def t2(fa fb:Env→Out Dt)(g:Dt→Dt→Option Bool):Env→Out Bool:=fun ρ=>(fa ρ).bind fun a=>(fb ρ).bind fun b=>FU (g a b)
def t1(fa:Env→Out Dt)(g:Dt→Option Bool):Env→Out Bool:=fun ρ=>(fa ρ).bind fun a=>FU (g a)
def eT(ft:Env→Out Bool):Env→Out Dt:=fun ρ=>(ft ρ).bind fun b=>.ok (.bl b)
def Im(f g:Env→Out Bool):Env→Out Bool:=fun ρ=>(f ρ).bind fun b=>if b=true then g ρ else .ok false
def CD(f g:Env→Out Bool):Env→Out Bool:=fun ρ=>(f ρ).bind fun b=>if b=true then .ok true else g ρ
def A6(f:Env→Out Bool):Env→Out Bool:=fun ρ=>(f ρ).bind fun b=>.ok (!b)
def Ag:Env→Out (List Dt):=fun _=>.ok []
def Ab(f:Env→Out Dt)(g:Env→Out (List Dt)):Env→Out (List Dt):=fun ρ=>(f ρ).bind fun d=>(g ρ).bind fun ds=>.ok (d :: ds)
def GK(f:Env→Out (List Dt)):Env→Out Dt:=fun ρ=>(f ρ).bind fun ds=>if ds.length≤16777216 then .ok (.tup ds) else .bad
def Eb(f:Env→Out (List Dt)):Env→Out (List Dt):=fun ρ=>(f ρ).bind fun ds=>if ds.length≤16777216 then .ok ds else .bad
def eL(f:Env→Out (List Dt)):Env→Out Dt:=fun ρ=>(f ρ).bind fun ds=>.ok (.lst ds)
def Rx(K:PySem.W.Frag)(r:R2)(g:Dt→Dt→Option Dt):Prop:=∀ (μ:Mu) (H:Hp) (A:Ad) (a b d:Dt) (x y:V) (Q:VK),(∀ c,A c→H c≠none)→Rep ⟨K,μ⟩ H A a x→Rep ⟨K,μ⟩ H A b y→g a b=some d→RE ⟨K,μ⟩ A H Q d→r x y H Q
def Ol(K:PySem.W.Frag)(r:R2)(g:Dt→Dt→Option Bool):Prop:=∀ (μ:Mu) (H:Hp) (A:Ad) (a b:Dt) (d:Bool) (x y:V) (Q:VK),Rep ⟨K,μ⟩ H A a x→Rep ⟨K,μ⟩ H A b y→g a b=some d→Q (.bl d) H→r x y H Q
theorem Rx.or{r r':R2}{g g':Dt→Dt→Option Dt}(h:Rx K r g)(h':Rx K r' g'):Rx K (fun x y H Q=>r x y H Q∨r' x y H Q) (fun a b=>(g a b).orElse fun _=>g' a b):=by
 intro μ H A a b d x y Q ha ra rb e q
 cases e1:g a b with
 | some d'=>
  simp only [e1,Option.orElse] at e
  cases e
  exact .inl (h μ H A a b d x y Q ha ra rb e1 q)
 | none=>
  simp only [e1,Option.orElse] at e
  exact .inr (h' μ H A a b d x y Q ha ra rb e q)
theorem Ol.or{r r':R2}{g g':Dt→Dt→Option Bool}(h:Ol K r g)(h':Ol K r' g'):Ol K (fun x y H Q=>r x y H Q∨r' x y H Q) (fun a b=>(g a b).orElse fun _=>g' a b):=by
 intro μ H A a b d x y Q ra rb e q
 cases e1:g a b with
 | some d'=>
  simp only [e1,Option.orElse] at e
  cases e
  exact .inl (h μ H A a b d x y Q ra rb e1 q)
 | none=>
  simp only [e1,Option.orElse] at e
  exact .inr (h' μ H A a b d x y Q ra rb e q)
theorem BM{o:Option α}{R:α→Prop}(h:DA K W H σ (FU o) R):∃ a,o=some a∧R a:=by
 cases o with
 | some a=>exact ⟨a,rfl,h⟩
 | none=>exact False.elim h
theorem RE.grow(hs:Same H H1)(h:RE κ A H Q d):RE κ A H1 Q d:=fun v H' s r=>h v H' (hs.trans s) r
theorem RE.now(h:RE κ A H Q d)(r:Rep κ H A d v):Q v H:=h v H (Same.refl H) r
theorem cF(i:Nat):Dx K W (tVar i) (Aa i) [i]:=by
 intro μ H0 A0 ρ σ H Q s h
 unfold Aa at h
 split at h
 ·exact False.elim h
 ·rename_i l hn e
  obtain ⟨v,e1,r⟩:=s.val e (by cases l with | mh cs=>exact (hn cs rfl).elim | _=>rfl)
  exact ⟨v,e1,RE.now h r⟩
 ·exact False.elim h
theorem Rq{v:V}{d:Dt}(hr:∀ κ H A,Rep κ H A d v):Dx K W (tC v) (eC d) []:=fun μ H0 A0 ρ σ H Q s h=>RE.now h (hr _ _ _)
theorem fT{ta tb:TE}{fa fb:Env→Out Dt}{g:Dt→Dt→Option Dt}{r:R2}(hr:Rx K r g)(ha:Dx K W ta fa la)(hb:Dx K W tb fb lb):Dx K W (tOp r ta tb) (e2 fa fb g) (la ++ lb):=by
 intro μ H0 A0 ρ σ H Q s h
 refine ha _ _ _ _ _ _ _ s (h.seq fun a _ h1 v1 H1 s1 r1=>?_)
 refine hb _ _ _ _ _ _ _ (s.grow s1) ((h1.grow s1).seq fun b _ h2 v2 H2 s2 r2=>?_)
 obtain ⟨d,e,q⟩:=BM h2
 exact hr _ H2 _ a b d v1 v2 Q (fun c z=>(s.grow (s1.trans s2)).Ld z) ((r1.same s2).BC fun _=>aJ) (r2.BC fun _=>bI) e (RE.grow (s1.trans s2) q)
theorem Rep.Zd(h:Rep κ H A d v):Rep κ H Ze d v:=h.BC fun _ z=>False.elim z
theorem Nn{ta tb:TE}{fa fb:Env→Out Dt}{g:Dt→Dt→Option Dt}{r:R2}(hr:Rx K r g)(hg:∀ a b d,g a b=some d→d.scal=true)(ha:Dx K W ta fa la)(hb:Dx K W tb fb lb):Dx K W (tOp r ta tb) (e2 fa fb g) []:=by
 intro μ H0 A0 ρ σ H Q s h
 refine ha _ _ _ _ _ _ _ s (h.seq fun a _ h1 v1 H1 s1 r1=>?_)
 refine hb _ _ _ _ _ _ _ (s.grow s1) ((h1.grow s1).seq fun b _ h2 v2 H2 s2 r2=>?_)
 obtain ⟨d,e,q⟩:=BM h2
 refine hr _ H2 Ze a b d v1 v2 Q (fun c z=>False.elim z) (r1.same s2).Zd r2.Zd e fun v H' s' r=>?_
 exact q v H' ((s1.trans s2).trans s') (r.scal (hg _ _ _ e))
theorem jX{ta tb:TE}{fa fb:Env→Out Dt}{g:Dt→Dt→Option Bool}{r:R2}(hr:Ol K r g)(ha:Dx K W ta fa la)(hb:Dx K W tb fb lb):Ry K W (tTest (tOp r ta tb)) (t2 fa fb g) []:=by
 intro μ H0 A0 ρ σ H Q s h
 refine ha _ _ _ _ _ _ _ s (h.seq fun a _ h1 v1 H1 s1 r1=>?_)
 refine hb _ _ _ _ _ _ _ (s.grow s1) ((h1.grow s1).seq fun b _ h2 v2 H2 s2 r2=>?_)
 obtain ⟨d,e,q⟩:=BM h2
 exact hr _ H2 Ze a b d v1 v2 _ (r1.same s2).Zd r2.Zd e ⟨d,rfl,q H2 (s1.trans s2)⟩
theorem dS{ta tb:TE}{fa fb:Env→Out Dt}{g:Dt→Dt→Option Bool}{r:R2}(hr:Ol K r g)(ha:Dx K W ta fa la)(hb:Dx K W tb fb lb):Dx K W (tOp r ta tb) (eT (t2 fa fb g)) []:=by
 intro μ H0 A0 ρ σ H Q s h
 unfold eT t2 at h
 rw [Out.bind_assoc] at h
 refine ha _ _ _ _ _ _ _ s (h.seq fun a _ h1 v1 H1 s1 r1=>?_)
 rw [Out.bind_assoc] at h1
 refine hb _ _ _ _ _ _ _ (s.grow s1) ((h1.grow s1).seq fun b _ h2 v2 H2 s2 r2=>?_)
 cases e:g a b with
 | none=>
  rw [e] at h2
  exact False.elim h2
 | some d=>
  rw [e] at h2
  exact hr _ H2 Ze a b d v1 v2 _ (r1.same s2).Zd r2.Zd e (h2 (.bl d) H2 (s1.trans s2) rfl)
theorem eJ{ta tb:TT}{fa fb:Env→Out Bool}(ha:Ry K W ta fa la)(hb:Ry K W tb fb lb):Ry K W (tAnd ta tb) (Im fa fb) []:=by
 intro μ H0 A0 ρ σ H Q s h
 refine ha _ _ _ _ _ _ _ s (h.seq fun b _ h1 H1 s1=>?_)
 cases b with
 | true=>exact hb _ _ _ _ _ _ _ (s.grow s1) ((h1.grow s1).imp fun c _ q H2 s2=>q H2 (s1.trans s2))
 | false=>exact h1 H1 s1
theorem gW{ta tb:TT}{fa fb:Env→Out Bool}(ha:Ry K W ta fa la)(hb:Ry K W tb fb lb):Ry K W (tOr ta tb) (CD fa fb) []:=by
 intro μ H0 A0 ρ σ H Q s h
 refine ha _ _ _ _ _ _ _ s (h.seq fun b _ h1 H1 s1=>?_)
 cases b with
 | false=>exact hb _ _ _ _ _ _ _ (s.grow s1) ((h1.grow s1).imp fun c _ q H2 s2=>q H2 (s1.trans s2))
 | true=>exact h1 H1 s1
theorem bY{ta:TT}{fa:Env→Out Bool}(ha:Ry K W ta fa la):Ry K W (tNot ta) (A6 fa) []:=by
 intro μ H0 A0 ρ σ H Q s h
 exact ha _ _ _ _ _ _ _ s (h.seq fun b _ h1 H1 s1=>h1 H1 s1)
theorem MB:RR K W tNil Ag []:=fun μ H0 A0 ρ σ H Q s h=>h [] H (Same.refl H) Ah.nil
theorem aP{ta:TE}{tr:TA}{f:Env→Out Dt}{g:Env→Out (List Dt)}(ha:Dx K W ta f la)(hr:RR K W tr g lb):RR K W (tCons ta tr) (Ab f g) (la ++ lb):=by
 intro μ H0 A0 ρ σ H Q s h
 refine ha _ _ _ _ _ _ _ s (h.seq fun a _ h1 v1 H1 s1 r1=>?_)
 refine hr _ _ _ _ _ _ _ (s.grow s1) ((h1.grow s1).seq fun b _ h2 v2 H2 s2 r2=>?_)
 exact h2 _ H2 (s1.trans s2) (Ah.cons ((r1.same s2).BC fun _=>aJ) (r2.BC fun _=>bI))
theorem Same.new{p:Addr}{o:HO}(h:H p=none):Same H (upd H p o):=fun a u e=>by
 rw [upd_ne (ne_of_none e h)]
 exact e
theorem cH{ta:TA}{f:Env→Out (List Dt)}(ha:RR K W ta f la):Dx K W (tTup ta) (GK f) la:=by
 intro μ H0 A0 ρ σ H Q s h
 refine ha _ _ _ _ _ _ _ s (h.seq fun ds _ h1 vs H1 s1 r1=>?_)
 split at h1
 ·rename_i hl
  refine ⟨by rw [r1.length,sizeLine_eq]; exact hl,fun p hp=>h1 _ _ (s1.trans (Same.new hp)) ?_⟩
  unfold Rep
  exact ⟨p,vs,rfl,.inl ⟨(s.grow s1).NB hp,upd_same⟩,r1.same (Same.new hp)⟩
 ·exact False.elim h1
theorem dY{ta:TA}{f:Env→Out (List Dt)}(ha:RR K W ta f la):aS K W (tLst ta) (Eb f) la:=by
 intro μ H0 A0 ρ σ H Q s h
 refine ha _ _ _ _ _ _ _ s (h.seq fun ds _ h1 vs H1 s1 r1=>?_)
 split at h1
 ·rename_i hl
  refine ⟨by rw [r1.length,sizeLine_eq]; exact hl,fun p hp=>h1 p vs _ (s1.trans (Same.new hp)) (s1.free hp) upd_same ?_⟩
  exact (Ah.fresh hp _ _ r1).same (Same.new hp)
 ·exact False.elim h1
theorem jM{te:TE}{f:Env→Out (List Dt)}(ha:aS K W te f la):Dx K W te (eL f) la:=by
 intro μ H0 A0 ρ σ H Q s h
 refine ha _ _ _ _ _ _ _ s (h.seq fun ds _ h1 p vs H1 s1 hp hp' r=>h1 _ H1 s1 ?_)
 unfold Rep
 exact ⟨p,vs,rfl,s.NB hp,hp',r.BC fun _ z=>.inl z⟩
end
end FD
namespace FD
open PySem L2
theorem Bf{α:Type}{c:Prop}[Decidable c]{a b:α}(h:(if c then some a else none)=some b):c∧a=b:=by
 split at h
 ·exact ⟨‹_›,Option.some.inj h⟩
 ·cases h
def gI(C:Int→Int→Bool)(f:Int→Int→Int):Dt→Dt→Option Dt
 | .int i,.int j=>if C i j=true then some (.int (f i j)) else none
 | _,_=>none
def QX(f:Int→Int→Int):Dt→Dt→Option Dt
 | .int i,.int j=>some (.int (f i j))
 | _,_=>none
def cI(f:Int→Int→Bool):Dt→Dt→Option Bool
 | .int i,.int j=>some (f i j)
 | _,_=>none
@[simp] theorem HZ(C:Int→Int→Bool)(f:Int→Int→Int)(i j:Int):gI C f (.int i) (.int j)=if C i j=true then some (.int (f i j)) else none:=rfl
@[simp] theorem Ln(f:Int→Int→Int)(i j:Int):QX f (.int i) (.int j)=some (.int (f i j)):=rfl
@[simp] theorem OP(f:Int→Int→Bool)(i j:Int):cI f (.int i) (.int j)=some (f i j):=rfl
def gA:Dt→Dt→Option Dt
 | .str x,.str y=>if x.length + y.length≤16777216 then some (.str (x ++ y)) else none
 | _,_=>none
def gP:Dt→Dt→Option Dt
 | .lst x,.lst y=>if x.length + y.length≤16777216 then some (.lst (x ++ y)) else none
 | _,_=>none
def gD:Dt→Dt→Option Dt
 | .tup x,.tup y=>if x.length + y.length≤16777216∧x≠[] then some (.tup (x ++ y)) else none
 | _,_=>none
section
variable {K:PySem.W.Frag} {H:Hp} {A:Ad}
theorem aF{C:Int→Int→Bool}{f:Int→Int→Int}{a b d:Dt}(h:gI C f a b=some d):∃ i j,a=.int i∧b=.int j∧C i j=true∧d=.int (f i j):=by
 cases a <;> cases b <;> try (cases h; done)
 rename_i i j
 obtain ⟨h1,h2⟩:=Bf h
 exact ⟨i,j,rfl,rfl,h1,h2.symm⟩
theorem WT{f:Int→Int→Int}{a b d:Dt}(h:QX f a b=some d):∃ i j,a=.int i∧b=.int j∧d=.int (f i j):=by
 cases a <;> cases b <;> try (cases h; done)
 rename_i i j
 cases h
 exact ⟨i,j,rfl,rfl,rfl⟩
theorem jm{f:Int→Int→Bool}{a b:Dt}{d:Bool}(h:cI f a b=some d):∃ i j,a=.int i∧b=.int j∧d=f i j:=by
 cases a <;> cases b <;> try (cases h; done)
 rename_i i j
 cases h
 exact ⟨i,j,rfl,rfl,rfl⟩
theorem Ts{C:Int→Int→Bool}{C':Int→Int→Prop}{f:Int→Int→Int}(hc:∀ i j,C i j=true→C' i j):Rx K (rI C' fun i j=>.int (f i j)) (gI C f):=by
 intro μ H A a b d x y Q _ ra rb e q
 obtain ⟨i,j,rfl,rfl,c,rfl⟩:=aF e
 exact ⟨i,j,ra,rb,hc i j c,RE.now q rfl⟩
theorem Sk{f:Int→Int→Int}:Rx K (rI0 fun i j=>.int (f i j)) (QX f):=by
 intro μ H A a b d x y Q _ ra rb e q
 obtain ⟨i,j,rfl,rfl,rfl⟩:=WT e
 exact ⟨i,j,ra,rb,RE.now q rfl⟩
theorem VO{f:Int→Int→Bool}:Ol K (rI0 fun i j=>.bl (f i j)) (cI f):=by
 intro μ H A a b d x y Q ra rb e q
 obtain ⟨i,j,rfl,rfl,rfl⟩:=jm e
 exact ⟨i,j,ra,rb,q⟩
def Xh:R2:=fun x y H Q=>∃ i j,x=.str i∧y=.str j∧i.length + j.length≤sizeLine∧Q (.str (i ++ j)) H
theorem WL:Rx K Xh gA:=by
 intro μ H A a b d x y Q _ ra rb e q
 cases a <;> cases b <;> try (cases e; done)
 rename_i i j
 obtain ⟨h1,rfl⟩:=Bf e
 exact ⟨i,j,ra,rb,by rw [sizeLine_eq]; exact h1,RE.now q rfl⟩
theorem WJ:Rx K rCat gP:=by
 intro μ H A a b d x y Q ha ra rb e q
 cases a <;> cases b <;> try (cases e; done)
 rename_i ds es
 obtain ⟨h1,rfl⟩:=Bf e
 unfold Rep at ra rb
 obtain ⟨p,vs,rfl,np,hp,rp⟩:=ra
 obtain ⟨p',us,rfl,np',hp',rp'⟩:=rb
 refine ⟨p,p',vs,us,rfl,rfl,hp,hp',by rw [rp.length,rp'.length,sizeLine_eq]; exact h1,fun c hc=>q _ _ (Same.new hc) ?_⟩
 unfold Rep
 refine ⟨c,vs ++ us,rfl,fun z=>ha c z hc,upd_same,(Ah.append rp rp').same (Same.new hc)⟩
theorem SqT.XD{K:PySem.W.Frag}{a:Addr}{vs:List V}(h:(¬ A a∧H a=some (.tup vs))∨kr K a vs):SqT K H a vs:=by
 rcases h with ⟨_,h⟩ | h
 ·exact SqT.of h
 ·exact .inr h
theorem Wi:Rx K (rCatT K) gD:=by
 intro μ H A a b d x y Q ha ra rb e q
 cases a <;> cases b <;> try (cases e; done)
 rename_i ds es
 obtain ⟨⟨h1,h2⟩,rfl⟩:=Bf e
 have ra':=ra
 unfold Rep at ra rb
 obtain ⟨p,vs,rfl,hp,rp⟩:=ra
 obtain ⟨p',us,rfl,hp',rp'⟩:=rb
 have nv:vs≠[]:=by
  rintro rfl
  have:=rp.length
  simp at this
  exact h2 (List.length_eq_zero_iff.mp this.symm)
 refine ⟨p,p',vs,us,rfl,rfl,SqT.XD hp,SqT.XD hp',nv,by rw [rp.length,rp'.length,sizeLine_eq]; exact h1,?_⟩
 refine ⟨fun hu=>?_,fun _=>?_⟩
 ·subst hu
  have:es=[]:=by
   have:=rp'.length
   simp at this
   exact List.length_eq_zero_iff.mp this.symm
  subst this
  rw [List.append_nil] at q
  exact RE.now q ra'
 ·intro c hc
  refine q _ _ (Same.new hc) ?_
  unfold Rep
  exact ⟨c,vs ++ us,rfl,.inl ⟨fun z=>ha c z hc,upd_same⟩,(Ah.append rp rp').same (Same.new hc)⟩
end
section
variable {X:Cx} {pos:Pos} {a b e:Expr} {W:WX} {fa fb fc:Env→Out Dt} {la lb lc:List Nat}
def AX:Dt→Dt→Option Dt:=fun a b=>(QX (· + ·) a b).orElse fun _=>(gA a b).orElse fun _=>(gP a b).orElse fun _=>gD a b
@[simp] theorem Kk(i j:Int):AX (.int i) (.int j)=some (.int (i + j)):=rfl
@[simp] theorem ae(i j:Str):AX (.str i) (.str j)=if i.length + j.length≤16777216 then some (.str (i ++ j)) else none:=by
 show ((if i.length + j.length≤16777216 then some (Dt.str (i ++ j)) else none).orElse fun _=>none)=_
 split <;> rfl
@[simp] theorem Mb(i j:List Dt):AX (.lst i) (.lst j)=if i.length + j.length≤16777216 then some (.lst (i ++ j)) else none:=by
 show ((if i.length + j.length≤16777216 then some (Dt.lst (i ++ j)) else none).orElse fun _=>none)=_
 split <;> rfl
theorem WN:OpR X (binaryOp .Add) (fun x y H Q=>rI0 (fun i j=>.int (i + j)) x y H Q∨(Xh x y H Q∨(rCat x y H Q∨rCatT X.K x y H Q))):=op_add.or (op_add_str.or (op_cat.or op_catT))
theorem CK(ha:Bc X W a fa la)(hb:Bc X W b fb lb):Bc X W (.BinOp a .Add b pos) (e2 fa fb AX) (la ++ lb):=by
 obtain ⟨ta,pa,da⟩:=ha
 obtain ⟨tb,pb,db⟩:=hb
 exact ⟨_,pe_op WN pa pb,fT (Rx.or Sk (Rx.or WL (Rx.or WJ Wi))) da db⟩
theorem U0{f:Int→Int→Int}:∀ a b d,QX f a b=some d→d.scal=true:=fun a b d h=>by
 obtain ⟨i,j,_,_,rfl⟩:=WT h
 rfl
theorem L7{C:Int→Int→Bool}{f:Int→Int→Int}:∀ a b d,gI C f a b=some d→d.scal=true:=fun a b d h=>by
 obtain ⟨i,j,_,_,_,rfl⟩:=aF h
 rfl
theorem MU(ha:Bc X W a fa la)(hb:Bc X W b fb lb):Bc X W (.BinOp a .Sub b pos) (e2 fa fb (QX (· - ·))) []:=by
 obtain ⟨ta,pa,da⟩:=ha
 obtain ⟨tb,pb,db⟩:=hb
 exact ⟨_,pe_op op_sub pa pb,Nn Sk U0 da db⟩
def Wb(i j:Int):Bool:=decide (i.natAbs.log2 + j.natAbs.log2 < 1000000)
theorem jd(ha:Bc X W a fa la)(hb:Bc X W b fb lb):Bc X W (.BinOp a .Mult b pos) (e2 fa fb (gI Wb (· * ·))) []:=by
 obtain ⟨ta,pa,da⟩:=ha
 obtain ⟨tb,pb,db⟩:=hb
 exact ⟨_,pe_op op_mulW pa pb,Nn (Ts fun i j h=>(show i.natAbs.log2 + j.natAbs.log2 < 1000000 from of_decide_eq_true h)) L7 da db⟩
def QQ(_ j:Int):Bool:=decide (j≠0∧j.natAbs.log2 < 9000)
theorem Z1:OpR X (binaryOp .FloorDiv) (rI (fun _ j=>j≠0∧j.natAbs.log2 < 9000) fun i j=>.int (i.fdiv j)):=
 opI fun i j _ _ _ _ _ hc q=>PyProof.Rows.floordiv_int hc.1 q (.inl (PyProof.noPylong_of_log2 hc.2))
theorem N6(ha:Bc X W a fa la)(hb:Bc X W b fb lb):Bc X W (.BinOp a .FloorDiv b pos) (e2 fa fb (gI QQ Int.fdiv)) []:=by
 obtain ⟨ta,pa,da⟩:=ha
 obtain ⟨tb,pb,db⟩:=hb
 exact ⟨_,pe_op Z1 pa pb,Nn (Ts fun i j h=>of_decide_eq_true h) L7 da db⟩
def Zb(_ j:Int):Bool:=decide (j≠0)
theorem M3(ha:Bc X W a fa la)(hb:Bc X W b fb lb):Bc X W (.BinOp a .Mod b pos) (e2 fa fb (gI Zb Int.fmod)) []:=by
 obtain ⟨ta,pa,da⟩:=ha
 obtain ⟨tb,pb,db⟩:=hb
 exact ⟨_,pe_op op_modN pa pb,Nn (Ts fun i j h=>of_decide_eq_true h) L7 da db⟩
def YY(i j:Int):Bool:=decide (0≤j∧j≤1000000∧i.natAbs < 2 ^ 64)
theorem VW(ha:Bc X W a fa la)(hb:Bc X W b fb lb):Bc X W (.BinOp a .Pow b pos) (e2 fa fb (gI YY fun i j=>i ^ j.toNat)) []:=by
 obtain ⟨ta,pa,da⟩:=ha
 obtain ⟨tb,pb,db⟩:=hb
 exact ⟨_,pe_op op_pow pa pb,Nn (Ts fun i j h=>(show 0≤j∧j≤1000000∧i.natAbs < 2 ^ 64 from of_decide_eq_true h)) L7 da db⟩
theorem Ae(i:Nat){x:Str}{p:Pos}(hN:X.N[i]? = some x:=by rfl)(hv:Vis X.env.scope x:=by first | exact Or.inl rfl | exact Or.inr (Or.inl rfl) | exact Or.inr (Or.inr rfl))(hd:(x == ("__debug__" : Str))=false:=by decide)
  (hcd:(x == ("__classdict__" : Str))=false:=by decide):Bc X W (.Name x p) (Aa i) [i]:=⟨_,pe_var hN hv hd hcd,cF i⟩
theorem Aj{i:Int}{j p}:Bc X W (.Constant (.int i) j p) (eC (.int i)) []:=⟨_,pe_int,Rq fun _ _ _=>rfl⟩
theorem DL{i:Bool}{j p}:Bc X W (.Constant (.bool i) j p) (eC (.bl i)) []:=⟨_,pe_bl,Rq fun _ _ _=>rfl⟩
theorem Qi{j p}:Bc X W (.Constant .none j p) (eC .non) []:=⟨_,pe_non,Rq fun _ _ _=>rfl⟩
theorem Fe{s:Str}{j p}:Bc X W (.Constant (.str s) j p) (eC (.str s)) []:=⟨_,pe_str,Rq fun _ _ _=>rfl⟩
theorem Fc{x:Str}{v:V}{d:Dt}{p:Pos}(hg:Gl X x)(hm:∃ u,X.mg x=some u∧RelV v u)(hr:∀ κ H A,Rep κ H A d v)(hd:(x == ("__debug__" : Str))=false:=by decide):Bc X W (.Name x p) (eC d) []:=by
 obtain ⟨u,h1,h2⟩:=hm
 exact ⟨_,pe_glob hg h1 h2 hd,Rq hr⟩
theorem GI{x:Str}{n:String}{p:Pos}(hg:Gl X x)(hm:X.mg x=none)(hv:bootBuiltins x=some (.type n))(hn:x≠"__name__":=by decide)(hd:(x == ("__debug__" : Str))=false:=by decide):Bc X W (.Name x p) (eC (.ty n)) []:=
 ⟨_,pe_bltn hg hm hv (show RelV (V.ty n) _ from rfl) hn hd,Rq fun _ _ _=>rfl⟩
end
mutual
def Dt.py:Dt→Option PyData
 | .non=>some .none
 | .bl b=>some (.bool b)
 | .int i=>some (.int i)
 | .str s=>some (.str s)
 | .tup ds=>(Dt.OC ds).map .tuple
 | .ptp ds=>(Dt.OC ds).map .tuple
 | .lst ds=>(Dt.OC ds).map .list
 | _=>none
def Dt.OC:List Dt→Option (List PyData)
 | []=>some []
 | d :: ds=>(Dt.py d).bind fun p=>(Dt.OC ds).map fun q=>p :: q
end
mutual
theorem Rep.dp{K:KM}{H:Hp}{A:Ad}:∀ (d:Dt) (v:V) (p:PyData),d.py=some p→Rep K H A d v→Dp K.K H v p
 | .non,v,p,e,r=>by
  have e':v=.non:=r
  subst e'
  unfold Dt.py at e
  cases e
  exact .non
 | .bl b,v,p,e,r=>by
  have e':v=.bl b:=r
  subst e'
  unfold Dt.py at e
  cases e
  exact .bl b
 | .int b,v,p,e,r=>by
  have e':v=.int b:=r
  subst e'
  unfold Dt.py at e
  cases e
  exact .int b
 | .str b,v,p,e,r=>by
  have e':v=.str b:=r
  subst e'
  unfold Dt.py at e
  cases e
  exact .str b
 | .ty _,_,_,e,_=>by simp [Dt.py] at e
 | .cls _,_,_,e,_=>by simp [Dt.py] at e
 | .ad _,_,_,e,_=>by simp [Dt.py] at e
 | .dit _ _,_,_,e,_=>by simp [Dt.py] at e
 | .fls _,_,_,e,_=>by simp [Dt.py] at e
 | .dic _ _,_,_,e,_=>by simp [Dt.py] at e
 | .obj _ _ _,_,_,e,_=>by simp [Dt.py] at e
 | .exn _ _ _ _ _,_,_,e,_=>by simp [Dt.py] at e
 | .tup ds,v,p,e,r=>by
  unfold Dt.py at e
  cases ep:Dt.OC ds with
  | none=>rw [ep] at e; cases e
  | some ps=>
   rw [ep] at e
   cases e
   unfold Rep at r
   obtain ⟨a,vs,rfl,h,hr⟩:=r
   exact .tup (SqT.XD h) (Ah.cq ds vs ps ep hr)
 | .ptp ds,v,p,e,r=>by
  unfold Dt.py at e
  cases ep:Dt.OC ds with
  | none=>rw [ep] at e; cases e
  | some ps=>
   rw [ep] at e
   cases e
   unfold Rep at r
   obtain ⟨a,vs,rfl,⟨_,o,h,_⟩,hr⟩:=r
   exact .tup (.inl (.inr ⟨o,h⟩)) (Ah.cq ds vs ps ep hr)
 | .lst ds,v,p,e,r=>by
  unfold Dt.py at e
  cases ep:Dt.OC ds with
  | none=>rw [ep] at e; cases e
  | some ps=>
   rw [ep] at e
   cases e
   unfold Rep at r
   obtain ⟨a,vs,rfl,_,h,hr⟩:=r
   exact .lst (SqL.of h) (Ah.cq ds vs ps ep hr)
theorem Ah.cq{K:KM}{H:Hp}{A:Ad}:∀ (ds:List Dt) (vs:List V) (ps:List PyData),Dt.OC ds=some ps→Ah K H A ds vs→DpAll K.K H vs ps
 | [],vs,ps,e,r=>by
  unfold Dt.OC at e
  unfold Ah at r
  cases e
  subst r
  exact .nil
 | d :: ds,vs,ps,e,r=>by
  unfold Dt.OC at e
  unfold Ah at r
  obtain ⟨v,t,rfl,h1,h2⟩:=r
  cases e1:Dt.py d with
  | none=>rw [e1] at e; cases e
  | some p=>
   cases e2:Dt.OC ds with
   | none=>rw [e1,e2] at e; cases e
   | some qs=>
    rw [e1,e2] at e
    cases e
    exact .cons (Rep.dp d v p e1 h1) (Ah.cq ds t qs e2 h2)
end
def iV:Dt→Dt→Option Bool
 | .int i,.int j=>some (i == j)
 | .str i,.str j=>some (i == j)
 | .bl i,.bl j=>some (i == j)
 | .non,.non=>some true
 | _,_=>none
def Vo(a b:Dt):Option Bool:=a.py.bind fun p=>b.py.bind fun q=>if SeqAt.shaped p=true∧SeqAt.shaped q=true then some (PyData.eqv p q) else none
def Nv(a b:Dt):Option Bool:=(iV a b).orElse fun _=>Vo a b
@[simp] theorem L5(i j:Int):Nv (.int i) (.int j)=some (i == j):=rfl
section
variable {K:PySem.W.Frag}
theorem cC:Ol K rEq iV:=by
 intro μ H A a b d x y Q ra rb e q
 cases a <;> cases b <;> try (cases e; done)
 ·have e1:x=.non:=ra
  have e2:y=.non:=rb
  subst e1 e2
  cases e
  exact ⟨rfl,q⟩
 ·rename_i i j
  have e1:x=.bl i:=ra
  have e2:y=.bl j:=rb
  subst e1 e2
  cases e
  exact ⟨rfl,by rw [dec_bl]; exact q⟩
 ·rename_i i j
  have e1:x=.int i:=ra
  have e2:y=.int j:=rb
  subst e1 e2
  cases e
  exact ⟨rfl,by rw [dec_int]; exact q⟩
 ·rename_i i j
  have e1:x=.str i:=ra
  have e2:y=.str j:=rb
  subst e1 e2
  cases e
  exact ⟨rfl,by rw [dec_str]; exact q⟩
theorem WU{a b:Dt}{d:Bool}(h:Vo a b=some d):∃ p q,a.py=some p∧b.py=some q∧SeqAt.shaped p=true∧SeqAt.shaped q=true∧d=PyData.eqv p q:=by
 unfold Vo at h
 cases e1:a.py with
 | none=>rw [e1] at h; cases h
 | some p=>
  cases e2:b.py with
  | none=>rw [e1,e2] at h; cases h
  | some q=>
   rw [e1,e2] at h
   obtain ⟨⟨h1,h2⟩,h3⟩:=Bf h
   exact ⟨p,q,rfl,rfl,h1,h2,h3.symm⟩
theorem cy:Ol K (rEqD K) Vo:=by
 intro μ H A a b d x y Q ra rb e q
 obtain ⟨p,p',h1,h2,h3,h4,rfl⟩:=WU e
 exact ⟨p,p',Rep.dp a x p h1 ra,Rep.dp b y p' h2 rb,h3,h4,q⟩
def CT(g:Dt→Dt→Option Bool):Dt→Dt→Option Bool:=fun a b=>(g a b).map fun x=>!x
@[simp] theorem Kw(g:Dt→Dt→Option Bool)(a b:Dt):CT g a b=(g a b).map fun x=>!x:=rfl
theorem eY:Ol K rNe (CT iV):=by
 intro μ H A a b d x y Q ra rb e q
 cases a <;> cases b <;> try (cases e; done)
 ·have e1:x=.non:=ra
  have e2:y=.non:=rb
  subst e1 e2
  cases e
  exact ⟨rfl,q⟩
 ·rename_i i j
  have e1:x=.bl i:=ra
  have e2:y=.bl j:=rb
  subst e1 e2
  cases e
  exact ⟨rfl,by rw [dec_bl]; exact q⟩
 ·rename_i i j
  have e1:x=.int i:=ra
  have e2:y=.int j:=rb
  subst e1 e2
  cases e
  exact ⟨rfl,by rw [dec_int]; exact q⟩
 ·rename_i i j
  have e1:x=.str i:=ra
  have e2:y=.str j:=rb
  subst e1 e2
  cases e
  exact ⟨rfl,by rw [dec_str]; exact q⟩
theorem bU:Ol K (rNeD K) (CT Vo):=by
 intro μ H A a b d x y Q ra rb e q
 cases e1:Vo a b with
 | none=>simp [CT,e1] at e
 | some d'=>
  simp only [CT,e1,Option.map_some,Option.some.injEq] at e
  subst e
  obtain ⟨p,p',h1,h2,h3,h4,rfl⟩:=WU e1
  exact ⟨p,p',Rep.dp a x p h1 ra,Rep.dp b y p' h2 rb,h3,h4,q⟩
def isN:Dt→Dt→Option Bool
 | .non,.non=>some true
 | _,.non=>some false
 | _,_=>none
theorem cB:Ol K (fun x y H Q=>y=.non∧Q (.bl (decide (x=.non))) H) isN:=by
 intro μ H A a b d x y Q ra rb e q
 cases b <;> try (cases a <;> cases e; done)
 have e2:y=.non:=rb
 refine ⟨e2,?_⟩
 have hd:decide (x=V.non)=d:=by
  cases a with
  | non=>cases e; have e1:x=.non:=ra; subst e1; rfl
  | bl i=>cases e; have e1:x=.bl i:=ra; subst e1; rfl
  | int i=>cases e; have e1:x=.int i:=ra; subst e1; rfl
  | str i=>cases e; have e1:x=.str i:=ra; subst e1; rfl
  | ty i=>cases e; have e1:x=.ty i:=ra; subst e1; rfl
  | cls i=>cases e; have e1:x=.ref i:=ra; subst e1; rfl
  | ad k=>cases e; unfold Rep at ra; obtain ⟨a,_,rfl⟩:=ra; rfl
  | dit ks ds=>cases e; unfold Rep at ra; obtain ⟨a,vs,rfl,_⟩:=ra; rfl
  | tup ds=>cases e; unfold Rep at ra; obtain ⟨a,vs,rfl,_⟩:=ra; rfl
  | ptp ds=>cases e; unfold Rep at ra; obtain ⟨a,vs,rfl,_⟩:=ra; rfl
  | ntp ds=>cases e; unfold Rep at ra; obtain ⟨a,vs,rfl,_⟩:=ra; rfl
  | lst ds=>cases e; unfold Rep at ra; obtain ⟨a,vs,rfl,_⟩:=ra; rfl
  | fls ds=>cases e; unfold Rep at ra; obtain ⟨a,vs,rfl,_⟩:=ra; rfl
  | dic ks ds=>cases e; unfold Rep at ra; obtain ⟨a,vs,rfl,_⟩:=ra; rfl
  | obj C ns ds=>cases e; unfold Rep at ra; obtain ⟨a,dx,fs,rfl,_⟩:=ra; rfl
  | exn a od C ns ds=>cases e; unfold Rep at ra; obtain ⟨fs,rfl,_⟩:=ra; rfl
 rw [hd]
 exact q
end
section
variable {X:Cx} {pos:Pos} {a b c e:Expr} {W:WX} {fa fb fc:Env→Out Dt} {la lb lc:List Nat} {rest:List Expr} {ft fu:Env→Out Bool}
theorem Us{op:CmpOp}{r:R2}{g:Dt→Dt→Option Bool}(ho:OpR X (compareOp op) r)(hg:Ol X.K r g)(ha:Bc X W a fa la)(hb:Bc X W b fb lb)(hm:behindInMarks op b=false):Vb X W (.Compare a [op] [b] pos) (t2 fa fb g) []:=by
 obtain ⟨ta,pa,da⟩:=ha
 obtain ⟨tb,pb,db⟩:=hb
 exact ⟨_,pt_cmpR ho pa pb hm,jX hg da db⟩
theorem kq{op:CmpOp}{r:R2}{g:Dt→Dt→Option Bool}(ho:OpR X (compareOp op) r)(hg:Ol X.K r g)(ha:Bc X W a fa la)(hb:Bc X W b fb lb)(hm:behindInMarks op b=false):Bc X W (.Compare a [op] [b] pos) (eT (t2 fa fb g)) []:=by
 obtain ⟨ta,pa,da⟩:=ha
 obtain ⟨tb,pb,db⟩:=hb
 exact ⟨_,pe_cmpR ho pa pb hm,dS hg da db⟩
structure Cmp (X:Cx) (op:CmpOp) (g:Dt→Dt→Option Bool):Prop where
 ex:∃ r,OpR X (compareOp op) r∧Ol X.K r g
theorem fP:Cmp X .Lt (cI fun i j=>decide (i < j)):=⟨_,op_lt,VO⟩
theorem NN:Cmp X .Gt (cI fun i j=>decide (j < i)):=⟨_,op_gt,VO⟩
theorem kg:Cmp X .GtE (cI fun i j=>decide (j≤i)):=⟨_,op_ge,VO⟩
theorem Jm(hu:X.A.units + 64 < cLine):Cmp X .Eq Nv:=⟨_,op_eq.or (op_eqD hu),Ol.or cC cy⟩
def QA(a b:Dt):Option Bool:=(CT iV a b).orElse fun _=>CT Vo a b
theorem ig(a b:Dt):QA a b=CT Nv a b:=by
 show ((iV a b).map (fun x=>!x)).orElse (fun _=>(Vo a b).map fun x=>!x)=((iV a b).orElse fun _=>Vo a b).map fun x=>!x
 cases iV a b <;> rfl
theorem Rp(hu:X.A.units + 64 < cLine):Cmp X .NotEq QA:=⟨_,op_ne.or (op_neD hu),Ol.or eY bU⟩
theorem iH:Cmp X .Is isN:=⟨_,op_isN,cB⟩
theorem E9{op:CmpOp}{g:Dt→Dt→Option Bool}(h:Cmp X op g)(ha:Bc X W a fa la)(hb:Bc X W b fb lb)(hm:behindInMarks op b=false:=by first | exact nomark _ | rfl):Vb X W (.Compare a [op] [b] pos) (t2 fa fb g) []:=by
 obtain ⟨r,h1,h2⟩:=h.ex
 exact Us h1 h2 ha hb hm
theorem jy{op:CmpOp}{g:Dt→Dt→Option Bool}(h:Cmp X op g)(ha:Bc X W a fa la)(hb:Bc X W b fb lb)(hm:behindInMarks op b=false:=by first | exact nomark _ | rfl):Bc X W (.Compare a [op] [b] pos) (eT (t2 fa fb g)) []:=by
 obtain ⟨r,h1,h2⟩:=h.ex
 exact kq h1 h2 ha hb hm
theorem U2(ha:Vb X W a ft la):h9 X W (.BoolOp .And [a] pos) ft la:=by
 obtain ⟨ta,pa,da⟩:=ha
 exact ⟨_,pw_and1 pa,da⟩
theorem D7(ha:Vb X W a ft la):h9 X W (.BoolOp .Or [a] pos) ft la:=by
 obtain ⟨ta,pa,da⟩:=ha
 exact ⟨_,pw_or1 pa,da⟩
theorem Ww(ha:Vb X W a ft la)(hb:h9 X W (.BoolOp .And (b :: rest) pos) fu lb):h9 X W (.BoolOp .And (a :: b :: rest) pos) (Im ft fu) []:=by
 obtain ⟨ta,pa,da⟩:=ha
 obtain ⟨tb,pb,db⟩:=hb
 exact ⟨_,pw_and pa pb,eJ da db⟩
theorem D0(ha:Vb X W a ft la)(hb:h9 X W (.BoolOp .Or (b :: rest) pos) fu lb):h9 X W (.BoolOp .Or (a :: b :: rest) pos) (CD ft fu) []:=by
 obtain ⟨ta,pa,da⟩:=ha
 obtain ⟨tb,pb,db⟩:=hb
 exact ⟨_,pw_or pa pb,gW da db⟩
theorem Wg(ha:h9 X W e ft la):Vb X W e ft la:=by
 obtain ⟨ta,pa,da⟩:=ha
 exact ⟨_,pa.pt,da⟩
theorem Cg(ha:Vb X W a ft la):Vb X W (.UnaryOp .Not a pos) (A6 ft) []:=by
 obtain ⟨ta,pa,da⟩:=ha
 exact ⟨_,pt_not pa,bY da⟩
def gS:Dt→Option Bool
 | .bl b=>some b
 | _=>none
@[simp] theorem Qc(b:Bool):gS (.bl b)=some b:=rfl
def Hi(f g:Env→Out Dt):Env→Out Dt:=fun ρ=>(f ρ).bind fun a=>(FU (gS a)).bind fun b=>if b=true then g ρ else .ok (.bl false)
def SI(f:Env→Out Dt):Env→Out Dt:=fun ρ=>(f ρ).bind fun a=>(FU (gS a)).bind fun b=>.ok (.bl (!b))
theorem fK{a:Dt}{b:Bool}(h:gS a=some b):a=.bl b:=by
 cases a <;> try (cases h; done)
 cases h
 rfl
theorem Lf{op:BoolOp}(ha:Bc X W a fa la):Bc X W (.BoolOp op [a] pos) fa la:=by
 obtain ⟨ta,pa,da⟩:=ha
 exact ⟨_,pe_one pa,da⟩
theorem ZS{K:PySem.W.Frag}{H:Hp}{σ:L2.St}{a:Dt}{k:Bool→Out Dt}{R:Dt→Prop}(h:DA K W H σ ((FU (gS a)).bind k) R):∃ b,a=.bl b∧DA K W H σ (k b) R:=by
 cases e:gS a with
 | none=>rw [e] at h; exact False.elim h
 | some b=>rw [e] at h; exact ⟨b,fK e,h⟩
theorem Gm(ha:Bc X W a fa la)(hb:Bc X W (.BoolOp .And (b :: rest) pos) fb lb):Bc X W (.BoolOp .And (a :: b :: rest) pos) (Hi fa fb) lb:=by
 obtain ⟨ta,pa,da⟩:=ha
 obtain ⟨tb,pb,db⟩:=hb
 refine ⟨_,pe_and pa pb,?_⟩
 intro μ H0 A0 ρ σ H Q s h
 refine da _ _ _ _ _ _ _ s (h.seq fun a _ h1 v1 H1 s1 r1=>?_)
 obtain ⟨b,rfl,h2⟩:=ZS h1
 refine ⟨b,r1,?_⟩
 cases b with
 | true=>exact db _ _ _ _ _ _ _ (s.grow s1) ((h2.grow s1).imp fun d _ q=>RE.grow s1 q)
 | false=>exact h2 _ H1 s1 rfl
theorem SR(ha:Bc X W a fa la):Bc X W (.UnaryOp .Not a pos) (SI fa) []:=by
 obtain ⟨ta,pa,da⟩:=ha
 refine ⟨_,pe_not pa,?_⟩
 intro μ H0 A0 ρ σ H Q s h
 refine da _ _ _ _ _ _ _ s (h.seq fun a _ h1 v1 H1 s1 r1=>?_)
 obtain ⟨b,rfl,h2⟩:=ZS h1
 exact ⟨b,r1,h2 _ H1 s1 rfl⟩
def A2:Dt→Option Bool
 | .non=>some false
 | .bl b=>some b
 | .int i=>some (i != 0)
 | .str s=>if s.length≤16777216 then some ((s.length:Int) != 0) else none
 | .tup ds=>some (!ds.isEmpty)
 | .ptp ds=>some (!ds.isEmpty)
 | .lst ds=>some (!ds.isEmpty)
 | .fls ds=>some (!ds.isEmpty)
 | _=>none
@[simp] theorem L0(b:Bool):A2 (.bl b)=some b:=rfl
theorem HD{α β:Type}{xs:List α}{ys:List β}(h:xs.length=ys.length):xs.isEmpty=ys.isEmpty:=by
 cases xs <;> cases ys <;> first | rfl | (simp at h)
theorem WQ{K:KM}{H:Hp}{A:Ad}{d:Dt}{v:V}{k:Bool}(r:Rep K H A d v)(h:A2 d=some k):TruV K.K v H k:=by
 cases d with
 | non=>have e:v=.non:=r; subst e; cases h; rfl
 | bl b=>have e:v=.bl b:=r; subst e; cases h; rfl
 | int i=>have e:v=.int i:=r; subst e; cases h; rfl
 | str s=>
  have e:v=.str s:=r
  subst e
  obtain ⟨h1,rfl⟩:=Bf h
  exact ⟨by rw [sizeLine_eq]; exact h1,rfl⟩
 | ty _=>cases h
 | cls _=>cases h
 | ad _=>cases h
 | dit _ _=>cases h
 | obj _ _ _=>cases h
 | exn _ _ _ _ _=>cases h
 | tup ds=>
  unfold Rep at r
  obtain ⟨a,vs,rfl,h1,h2⟩:=r
  cases h
  exact .inr (.inl ⟨vs,SqT.XD h1,by rw [HD h2.length]⟩)
 | ntp ds=>cases h
 | ptp ds=>
  unfold Rep at r
  obtain ⟨a,vs,rfl,⟨_,o,h1,_⟩,h2⟩:=r
  cases h
  exact .inr (.inl ⟨vs,.inl (.inr ⟨o,h1⟩),by rw [HD h2.length]⟩)
 | lst ds=>
  unfold Rep at r
  obtain ⟨a,vs,rfl,_,h1,h2⟩:=r
  cases h
  exact .inl ⟨vs,SqL.of h1,by rw [HD h2.length]⟩
 | fls ds=>
  unfold Rep at r
  obtain ⟨a,vs,rfl,h1,h2⟩:=r
  cases h
  refine .inl ⟨vs,?_,by rw [HD h2.length]⟩
  rcases h1 with ⟨_,o,h1⟩ | h1
  ·exact .inl (.inr ⟨o,h1⟩)
  ·exact .inr h1
 | dic ks ds=>cases h
theorem Hk(ha:Bc X W a fa la)(he:∀ whole,isTrue a X.env whole=(do let v ← whole; standAt a.pos; holding [v] (truthy v)):=by intro _; rfl):Vb X W a (t1 fa A2) []:=by
 obtain ⟨ta,pa,da⟩:=ha
 refine ⟨_,pt_truth pa he,?_⟩
 intro μ H0 A0 ρ σ H Q s h
 refine da _ _ _ _ _ _ _ s (h.seq fun a _ h1 v1 H1 s1 r1=>?_)
 obtain ⟨k,e,q⟩:=BM h1
 exact ⟨k,WQ r1 e,q H1 s1⟩
variable {es:List Expr} {fs:Env→Out (List Dt)} {ls:List Nat}
theorem Af:JL X W [] Ag []:=⟨_,pa_nil,MB⟩
theorem Ac(ha:Bc X W e fa la)(hr:JL X W es fs lb)(hs:starEach (e :: es) X.env=(false,eval e X.env) :: starEach es X.env:=by rfl):JL X W (e :: es) (Ab fa fs) (la ++ lb):=by
 obtain ⟨ta,pa,da⟩:=ha
 obtain ⟨tr,pr,dr⟩:=hr
 exact ⟨_,pa_cons pa pr hs,aP da dr⟩
theorem EV{k}(h:JL X W es fs ls):Bc X W (.Tuple es k pos) (GK fs) ls:=by
 obtain ⟨ta,pa,da⟩:=h
 exact ⟨_,pe_tup pa,cH da⟩
theorem Eg(h:JL X W es fs ls):Za X W (.List es pos) (Eb fs) ls:=by
 obtain ⟨ta,pa,da⟩:=h
 exact ⟨_,pe_lst pa,dY da⟩
theorem Ck(h:Za X W e fs ls):Bc X W e (eL fs) ls:=by
 obtain ⟨ta,pa,da⟩:=h
 exact ⟨_,pa,jM da⟩
end
end FD
namespace FD
open PySem L2
inductive Fl where
 | nx | bk | ct | rt (d:Dt)
inductive SOut where
 | ok (f:Fl) (ρ:Env) | exc (x:Exn) (ρ:Env) | bad
def HU{α:Type}(o:Out α)(ρ:Env)(k:α→SOut):SOut:=match o with
 | .ok a=>k a
 | .exc x=>.exc x ρ
 | .bad=>.bad
@[simp] theorem FC{α:Type}(a:α)(ρ:Env)(k:α→SOut):HU (.ok a) ρ k=k a:=rfl
@[simp] theorem LV{α:Type}(x:Exn)(ρ:Env)(k:α→SOut):HU (.exc x) ρ k=.exc x ρ:=rfl
def AY(K:PySem.W.Frag)(W:WX)(μ0:Mu)(H0:Hp)(A0:Ad)(o:SOut)(D:Ends):Prop:=match o with
 | .ok .nx ρ=>∀ μ σ H,Xt μ0 μ→StOk ⟨K,μ⟩ H0 A0 H ρ σ→D.nx σ H
 | .ok .bk ρ=>∀ μ σ H,Xt μ0 μ→StOk ⟨K,μ⟩ H0 A0 H ρ σ→D.bk σ H
 | .ok .ct ρ=>∀ μ σ H,Xt μ0 μ→StOk ⟨K,μ⟩ H0 A0 H ρ σ→D.ct σ H
 | .ok (.rt d) ρ=>∀ μ v σ H,Xt μ0 μ→StOk ⟨K,μ⟩ H0 A0 H ρ σ→Rep ⟨K,μ⟩ H (Av ⟨K,μ⟩ A0 ρ σ []) d v→D.rt v H
 | .exc x ρ=>∀ μ σ H c od,Xt μ0 μ→StOk ⟨K,μ⟩ H0 A0 H ρ σ→NS K H x c od→W c od σ H
 | .bad=>False
def IF(K:PySem.W.Frag)(W:WX)(ts:TS)(g:Env→SOut):Prop:=
 ∀ (μ:Mu) (H0:Hp) (A0:Ad) (ρ:Env) (σ:L2.St) (H:Hp) (D:Ends),StOk ⟨K,μ⟩ H0 A0 H ρ σ→AY K W μ H0 A0 (g ρ) D→ts D σ H
def MQ(X:Cx)(W:WX)(st:Stmt)(g:Env→SOut):Prop:=∃ ts,PS X st ts∧IF X.K W ts g
def Hn(X:Cx)(W:WX)(st:List Stmt)(g:Env→SOut):Prop:=∃ ts,PSs X st ts∧IF X.K W ts g
def Ar:Env→SOut:=fun ρ=>.ok .nx ρ
def SOut.andThen(o:SOut)(g:Env→SOut):SOut:=match o with
 | .ok .nx ρ=>g ρ
 | o=>o
@[simp] theorem FH(ρ:Env)(g:Env→SOut):(SOut.ok .nx ρ).andThen g=g ρ:=rfl
@[simp] theorem Hg(d:Dt)(ρ:Env)(g:Env→SOut):(SOut.ok (.rt d) ρ).andThen g=.ok (.rt d) ρ:=rfl
def Am(f g:Env→SOut):Env→SOut:=fun ρ=>(f ρ).andThen g
def A8(i:Nat)(f:Env→Out Dt)(lk:List Nat):Env→SOut:=fun ρ=>HU (f ρ) ρ fun d=>.ok .nx ((AL d lk ρ).set i (some (.sh d)))
def Hz(i:Nat)(f:Env→Out (List Dt))(lk:List Nat):Env→SOut:=fun ρ=>HU (f ρ) ρ fun ds=>.ok .nx ((US ds lk ρ).set i (some (.ol ds)))
def Ir(f:Env→Out Dt):Env→SOut:=fun ρ=>HU (f ρ) ρ fun _=>.ok .nx ρ
def AA(f:Env→Out Dt)(lk:List Nat):Env→SOut:=fun ρ=>HU (f ρ) ρ fun d=>.ok (.rt d) (AL d lk ρ)
def CF(c:Env→Out Bool)(f g:Env→SOut):Env→SOut:=fun ρ=>HU (c ρ) ρ fun b=>if b=true then f ρ else g ρ
def D6(i:Nat)(f:Env→Out Dt)(lk:List Nat):Env→SOut:=fun ρ=>match ρ[i]? with
 | some (some (.ol _))=>HU (f ρ) ρ fun d=>(match (AL d lk ρ)[i]? with
  | some (some (.ol ds))=>if ds.length < 16777216 then .ok .nx ((AL d lk ρ).set i (some (.ol (ds ++ [d])))) else .bad
  | _=>.bad)
 | _=>.bad
section
variable {K:PySem.W.Frag} {κ:KM} {μ:Mu} {W:WX} {H0 H H1:Hp} {A0:Ad} {ρ:Env} {σ:L2.St} {lk la lb:List Nat} {α:Type}
theorem AY.ext{μ':Mu}{o:SOut}{D:Ends}(x:Xt μ μ')(h:AY K W μ H0 A0 o D):AY K W μ' H0 A0 o D:=by
 cases o with
 | ok f ρ=>
  cases f with
  | nx=>exact fun μ σ H y s=>h μ σ H (x.trans y) s
  | bk=>exact fun μ σ H y s=>h μ σ H (x.trans y) s
  | ct=>exact fun μ σ H y s=>h μ σ H (x.trans y) s
  | rt d=>exact fun μ v σ H y s r=>h μ v σ H (x.trans y) s r
 | exc z ρ=>exact fun μ σ H c od y s r=>h μ σ H c od (x.trans y) s r
 | bad=>exact h
theorem AY.st{o:Out α}{k:α→SOut}{D:Ends}{R:α→Prop}(s:StOk ⟨K,μ⟩ H0 A0 H ρ σ)(h:AY K W μ H0 A0 (HU o ρ k) D)(hk:∀ a,o=.ok a→AY K W μ H0 A0 (k a) D→R a):DA K W H σ o R:=by
 cases o with
 | ok a=>exact hk a rfl h
 | exc x=>exact fun c od H' s' r=>h μ σ H' c od (Xt.refl _) (s.grow s') r
 | bad=>exact h
theorem eH{t u:TS}{f g:Env→SOut}(ht:IF K W t f)(hu:IF K W u g):IF K W (tSeq t u) (Am f g):=by
 intro μ H0 A0 ρ σ H D s h
 refine ht _ _ _ _ _ _ { D with nx:=u D } s ?_
 unfold Am at h
 cases e:f ρ with
 | ok fl ρ'=>
  rw [e] at h
  cases fl with
  | nx=>exact fun μ' σ' H' y s'=>hu _ _ _ _ _ _ _ s' (h.ext y)
  | bk=>exact h
  | ct=>exact h
  | rt d=>exact h
 | exc x ρ'=>rw [e] at h; exact h
 | bad=>rw [e] at h; exact h
theorem ZE:IF K W tNext Ar:=fun μ H0 A0 ρ σ H D s h=>h _ σ H (Xt.refl _) s
theorem dJ{te:TE}{f:Env→Out Dt}{i:Nat}(ha:Dx K W te f la):IF K W (tAsg te (gName i)) (A8 i f la):=by
 intro μ H0 A0 ρ σ H D s h
 exact ha _ _ _ _ _ _ _ s (AY.st s h fun d _ h1 v H1 s1 r1=>h1 _ _ _ (Xt.refl _) (s.give s1 r1))
theorem Tv{te:TE}{f:Env→Out (List Dt)}{i:Nat}(ha:aS K W te f la):IF K W (tAsg te (gName i)) (Hz i f la):=by
 intro μ H0 A0 ρ σ H D s h
 exact ha _ _ _ _ _ _ _ s (AY.st s h fun d _ h1 p vs H1 s1 hp hp' r1=>h1 _ _ _ (Xt.refl _) (s.j5 s1 hp hp' r1))
theorem Zm{te:TE}{f:Env→Out Dt}(ha:Dx K W te f la):IF K W (tDrop te) (Ir f):=by
 intro μ H0 A0 ρ σ H D s h
 exact ha _ _ _ _ _ _ _ s (AY.st s h fun d _ h1 v H1 s1 r1=>h1 _ _ _ (Xt.refl _) (s.grow s1))
theorem bQ{te:TE}{f:Env→Out Dt}(ha:Dx K W te f la):IF K W (tRet te) (AA f la):=by
 intro μ H0 A0 ρ σ H D s h
 exact ha _ _ _ _ _ _ _ s (AY.st s h fun d _ h1 v H1 s1 r1=>by
  obtain ⟨s2,r2⟩:=(s.grow s1).Td r1
  exact h1 _ _ _ _ (Xt.refl _) s2 r2)
theorem gV{tc:TT}{t u:TS}{c:Env→Out Bool}{f g:Env→SOut}(hc:Ry K W tc c la)(ht:IF K W t f)(hu:IF K W u g):IF K W (tIfS tc t u) (CF c f g):=by
 intro μ H0 A0 ρ σ H D s h
 refine hc _ _ _ _ _ _ _ s (AY.st s h fun b _ h1 H1 s1=>?_)
 cases b with
 | true=>exact ht _ _ _ _ _ _ _ (s.grow s1) h1
 | false=>exact hu _ _ _ _ _ _ _ (s.grow s1) h1
theorem fzD(s:StOk κ H0 A0 H ρ σ){d:Dt}{v:V}(hs:Same H H1)(r:Rep κ H1 (Av κ A0 ρ σ lk) d v):StOk κ H0 A0 H1 (AL d lk ρ) σ∧Rep κ H1 (Av κ A0 (AL d lk ρ) σ []) d v:=(s.grow hs).Td r
theorem Wd{te:TE}{f:Env→Out Dt}{i:Nat}(ha:Dx K W te f la):IF K W (tDrop (tBM K "list" rAppend (tVar i) (tCons te tNil))) (D6 i f la):=by
 intro μ H0 A0 ρ σ H D s h
 unfold D6 at h
 split at h
 ·rename_i ds0 e0
  obtain ⟨a,vs,e1,h0,h1,r0⟩:=s.lo i _ e0
  refine ⟨_,e1,.inl ⟨rfl,vs,SqL.of h1⟩,?_⟩
  refine ha _ _ _ _ _ _ _ s (AY.st s h fun d _ h2 v H1 s1 r1=>?_)
  obtain ⟨s2,r2⟩:=fzD s s1 r1
  split at h2
  ·rename_i ds e2
   split at h2
   ·rename_i hl
    obtain ⟨a',vs',e3,h0',h1',r3⟩:=s2.lo i _ e2
    rw [e1] at e3
    cases e3
    refine ⟨a,vs',v,rfl,rfl,h1',by rw [r3.length,sizeLine_eq]; exact hl,?_⟩
    exact h2 _ _ _ (Xt.refl _) (s2.kQ e2 e1 (Ah.append r3 (Ah.cons r2 Ah.nil)))
   ·exact False.elim h2
  ·exact False.elim h2
 ·exact False.elim h
def dm(S:List Nat)(ρ ρ':Env)(σ σ':L2.St):Prop:=σ'.length=σ.length∧∀ j,j∉S→σ'[j]? = σ[j]?∧ρ'[j]? = ρ[j]?
def Y9(K:PySem.W.Frag)(g:TG)(u:Dt→Env→Option Env)(S:List Nat):Prop:=
 ∀ (μ:Mu) (H0:Hp) (A0:Ad) (ρ ρ':Env) (σ:L2.St) (H:Hp) (d:Dt) (v:V) (Q:L2.St→Hp→Prop),StOk ⟨K,μ⟩ H0 A0 H ρ σ→Rep ⟨K,μ⟩ H (Av ⟨K,μ⟩ A0 ρ σ []) d v→u d ρ=some ρ' →
  (∀ σ',StOk ⟨K,μ⟩ H0 A0 H ρ' σ'→(∀ a,Av ⟨K,μ⟩ A0 ρ' σ' [] a→Av ⟨K,μ⟩ A0 ρ σ [] a)→dm S ρ ρ' σ σ'→Q σ' H)→g v σ H Q
def Xd(X:Cx)(tg:Expr)(u:Dt→Env→Option Env)(S:List Nat):Prop:=∃ g,PG X tg g∧Y9 X.K g u S
def Ai(i:Nat):Dt→Env→Option Env:=fun d ρ=>some (ρ.set i (some (.sh d)))
theorem aU{i:Nat}:Y9 K (gName i) (Ai i) [i]:=by
 intro μ H0 A0 ρ ρ' σ H d v Q s r e q
 cases e
 refine q _ (s.put r) (fun a z=>StOk.kM z) ⟨by rw [List.length_set],fun j hj=>?_⟩
 have ne:i≠j:=fun z=>hj (by rw [z]; exact List.mem_singleton.mpr rfl)
 exact ⟨List.getElem?_set_ne ne,List.getElem?_set_ne ne⟩
def EO:List Dt→Env→Option Env:=fun ds ρ=>match ds with
 | []=>some ρ
 | _=>none
def AO(u:Dt→Env→Option Env)(us:List Dt→Env→Option Env):List Dt→Env→Option Env:=fun ds ρ=>match ds with
 | d :: ds=>(u d ρ).bind fun ρ'=>us ds ρ'
 | _=>none
def ZX(K:PySem.W.Frag)(g:TGs)(us:List Dt→Env→Option Env)(S:List Nat):Prop:=
 ∀ (μ:Mu) (H0:Hp) (A0 A:Ad) (ρ ρ':Env) (σ:L2.St) (H:Hp) (ds:List Dt) (vs:List V) (Q:L2.St→Hp→Prop),StOk ⟨K,μ⟩ H0 A0 H ρ σ→(∀ a,Av ⟨K,μ⟩ A0 ρ σ [] a→A a)→Ah ⟨K,μ⟩ H A ds vs→us ds ρ=some ρ' →
  (∀ σ',StOk ⟨K,μ⟩ H0 A0 H ρ' σ'→(∀ a,Av ⟨K,μ⟩ A0 ρ' σ' [] a→Av ⟨K,μ⟩ A0 ρ σ [] a)→dm S ρ ρ' σ σ'→Q σ' H)→g vs σ H Q
def du(X:Cx)(ts:List Expr)(us:List Dt→Env→Option Env)(S:List Nat):Prop:=∃ g,PGs X ts g∧ZX X.K g us S
theorem aG:ZX K gNil EO []:=by
 intro μ H0 A0 A ρ ρ' σ H ds vs Q s ha r e q
 cases ds with
 | nil=>
  cases e
  unfold Ah at r
  exact ⟨r,q σ s (fun a z=>z) ⟨rfl,fun j _=>⟨rfl,rfl⟩⟩⟩
 | cons d ds=>cases e
theorem YZ{g:TG}{gs:TGs}{u:Dt→Env→Option Env}{us:List Dt→Env→Option Env}{S T:List Nat}(h1:Y9 K g u S)(h2:ZX K gs us T):ZX K (gCons g gs) (AO u us) (S ++ T):=by
 intro μ H0 A0 A ρ ρ' σ H ds vs Q s ha r e q
 cases ds with
 | nil=>cases e
 | cons d ds=>
  unfold Ah at r
  obtain ⟨v,t,rfl,r1,r2⟩:=r
  refine ⟨v,t,rfl,?_⟩
  have e':(u d ρ).bind (fun ρ'=>us ds ρ')=some ρ':=e
  cases e1:u d ρ with
  | none=>rw [e1] at e'; cases e'
  | some ρ1=>
   rw [e1] at e'
   refine h1 _ _ _ _ _ _ _ _ _ _ s (r1.BC ha) e1 fun σ1 s1 m1 o1=>?_
   refine h2 _ _ _ A _ _ _ _ _ _ _ s1 (fun a z=>ha a (m1 a z)) r2 e' fun σ2 s2 m2 o2=>q σ2 s2 (fun a z=>m1 a (m2 a z)) ⟨o2.1.trans o1.1,fun j hj=>?_⟩
   obtain ⟨x1,y1⟩:=o1.2 j fun z=>hj (List.mem_append_left _ z)
   obtain ⟨x2,y2⟩:=o2.2 j fun z=>hj (List.mem_append_right _ z)
   exact ⟨x2.trans x1,y2.trans y1⟩
def Fh(us:List Dt→Env→Option Env):Dt→Env→Option Env:=fun d ρ=>match d with
 | .tup ds=>us ds ρ
 | _=>none
theorem cQ{gs:TGs}{us:List Dt→Env→Option Env}{n:Nat}{S:List Nat}(h:ZX K gs us S)(hn:∀ ds ρ ρ',us ds ρ=some ρ'→ds.length=n):Y9 K (gTup K n gs) (Fh us) S:=by
 intro μ H0 A0 ρ ρ' σ H d v Q s r e q
 cases d <;> try (cases e; done)
 rename_i ds
 unfold Rep at r
 obtain ⟨a,vs,rfl,h1,r⟩:=r
 exact ⟨a,vs,rfl,SqT.XD h1,by rw [r.length]; exact hn _ _ _ e,h _ _ _ _ _ _ _ _ _ _ _ s (fun a z=>z) r e q⟩
end
end FD
namespace FD
open PySem L2
def Ow(κ:KM)(ρ:Env)(σ:L2.St)(lk:List Nat):Ad:=fun a=>∃ i,i∉lk∧Bj κ ρ σ i a
open Classical in
noncomputable def Bs(κ:KM)(H:Hp)(ρ:Env)(σ:L2.St)(lk:List Nat):Hp:=fun a=>if Ow κ ρ σ lk a then none else H a
section
variable {K:PySem.W.Frag} {κ:KM} {μ:Mu} {W:WX} {H0 H0' H H1:Hp} {A0:Ad} {ρ:Env} {σ:L2.St} {lk la lb:List Nat} {α:Type}
theorem Io{a:Addr}(h:¬ Ow κ ρ σ lk a):Bs κ H ρ σ lk a=H a:=by unfold Bs; rw [if_neg h]
theorem aI{a:Addr}(h:Ow κ ρ σ lk a):Bs κ H ρ σ lk a=none:=by unfold Bs; rw [if_pos h]
theorem IJ:Same (Bs κ H ρ σ lk) H:=fun a o e=>by
 unfold Bs at e
 split at e
 ·cases e
 ·exact e
theorem StOk.RH(s:StOk κ H0 A0 H ρ σ){a:Addr}(h:Ow κ ρ σ lk a):H0 a=none:=by
 obtain ⟨i,_,h⟩:=h
 exact (s.B7 h).2
theorem StOk.rebase(s:StOk κ H0 A0 H ρ σ)(hs:Same H H1)(lk:List Nat):StOk κ (Bs κ H1 ρ σ lk) A0 H1 (frz lk ρ) σ∧Same H0 (Bs κ H1 ρ σ lk):=by
 have s1:=s.grow hs
 obtain ⟨s2,h2⟩:=s1.fz lk
 have nA:∀ a,A0 a→¬ Ow κ ρ σ lk a:=fun a z q=>by
  have q1:=s.a0 a z
  rw [s.RH q] at q1
  exact q1
 have own:∀ i l a,(frz lk ρ)[i]? = some (some l)→CS κ l σ[i]? a→H0 a=none→Bs κ H1 ρ σ lk a=none:=fun i l a e ho h0=>by
  have q:=h2 [] a (.inr ⟨i,(fun z=>nomatch z),l,e,ho⟩)
  rw [List.append_nil] at q
  rcases q with q | q
  ·have q1:=s.a0 a q
   rw [h0] at q1
   exact False.elim q1
  ·exact aI q
 refine ⟨⟨IJ,fun a z=>?_,s2.len,fun i l e=>ER.gen (F:=κ.K) (m:=κ.mu) (m':=κ.mu) (Xt.refl _) (fun _=>rfl) (fun _ _ _ q=>q) (fun _ z=>.inl z) (fun _ _ _ q=>q) (fun a ho h0=>own i l a e ho h0) (s2.lo i l e),s2.ap,s2.one,s2.nm⟩,fun a o e=>?_⟩
 ·rw [Io (nA a z)]
  exact s1.Dj (lk:=[]) (.inl z)
 ·rw [Io fun q=>by rw [s.RH q] at e; cases e]
  exact s1.same a o e
theorem StOk.weaken(h0:Same H0 H0')(ha:∀ a,A0 a→Mut (H0 a))(s:StOk κ H0' A0 H ρ σ):StOk κ H0 A0 H ρ σ:=
 ⟨h0.trans s.same,ha,s.len,fun i l e=>ER.gen (F:=κ.K) (m:=κ.mu) (m':=κ.mu) (Xt.refl _) (fun _=>rfl) (fun _ _ _ q=>q) (fun _ z=>.inl z) (fun _ _ _ q=>q) (fun a _ z=>h0.free z) (s.lo i l e),s.ap,s.one,s.nm⟩
theorem AY.weaken{o:SOut}{D:Ends}(h0:Same H0 H0')(ha:∀ a,A0 a→Mut (H0 a))(h:AY K W μ H0 A0 o D):AY K W μ H0' A0 o D:=by
 cases o with
 | ok f ρ=>
  cases f with
  | nx=>exact fun μ σ H y s=>h μ σ H y (s.weaken h0 ha)
  | bk=>exact fun μ σ H y s=>h μ σ H y (s.weaken h0 ha)
  | ct=>exact fun μ σ H y s=>h μ σ H y (s.weaken h0 ha)
  | rt d=>exact fun μ v σ H y s r=>h μ v σ H y (s.weaken h0 ha) r
 | exc x ρ=>exact fun μ σ H c od y s r=>h μ σ H c od y (s.weaken h0 ha) r
 | bad=>exact h
structure Walks (κ:KM) (B:Hp) (A0:Ad) (J:It) (ds:List Dt):Prop where
 go:∀ i H,Same B H→i < ds.length→J.go i H
 stop:∀ H,Same B H→J.stop ds.length H
 yld:∀ (i:Nat) (H:Hp) (x:V) (H':Hp) (d:Dt),Same B H→J.yld i H x H'→ds[i]? = some d→Same H H'∧∀ A:Ad,(∀ a,A a→(A0 a∨B a=none)∧H a≠none)→Rep κ H' A d x
def fN(K:PySem.W.Frag)(W:WX)(wi:TI)(f:Env→Out (List Dt))(lk:List Nat):Prop:=
 ∀ (μ:Mu) (H0:Hp) (A0:Ad) (ρ:Env) (σ:L2.St) (H:Hp) (R:It→Hp→Prop),StOk ⟨K,μ⟩ H0 A0 H ρ σ→DA K W H σ (f ρ) (fun ds=>∀ J H1,Same H H1→Walks ⟨K,μ⟩ (Bs ⟨K,μ⟩ H1 ρ σ lk) A0 J ds→R J H1)→wi σ H R
def iz(X:Cx)(W:WX)(tg iter:Expr)(f:Env→Out (List Dt))(lk:List Nat):Prop:=∃ wi,PI X tg iter wi∧fN X.K W wi f lk
def BA(u:Dt→Env→Option Env)(b:Env→SOut):List Dt→Env→SOut
 | [],ρ=>.ok .nx ρ
 | d :: ds,ρ=>match u d ρ with
  | none=>.bad
  | some ρ1=>match b ρ1 with
   | .ok .nx ρ'=>BA u b ds ρ'
   | .ok .ct ρ'=>BA u b ds ρ'
   | .ok .bk ρ'=>.ok .nx ρ'
   | o=>o
@[simp] theorem JO(u:Dt→Env→Option Env)(b:Env→SOut)(ρ:Env):BA u b [] ρ=.ok .nx ρ:=rfl
theorem Nu(u:Dt→Env→Option Env)(b:Env→SOut)(d:Dt)(ds:List Dt)(ρ:Env):BA u b (d :: ds) ρ=match u d ρ with
  | none=>.bad
  | some ρ1=>match b ρ1 with
   | .ok .nx ρ'=>BA u b ds ρ'
   | .ok .ct ρ'=>BA u b ds ρ'
   | .ok .bk ρ'=>.ok .nx ρ'
   | o=>o:=rfl
def A1(u:Dt→Env→Option Env)(f:Env→Out (List Dt))(lk:List Nat)(b:Env→SOut):Env→SOut:=fun ρ=>HU (f ρ) ρ fun ds=>BA u b ds (frz lk ρ)
theorem Sf{wi:TI}{g:TG}{tb:TS}{u:Dt→Env→Option Env}{f:Env→Out (List Dt)}{b:Env→SOut}{S:List Nat}(hi:fN K W wi f lk)(hg:Y9 K g u S)(hb:IF K W tb b):IF K W (tFor wi g tb) (A1 u f lk b):=by
 intro μ H0 A0 ρ σ H D s h
 refine hi _ _ _ _ _ _ _ s (AY.st s h fun ds _ h1 J H1 s1 w=>?_)
 obtain ⟨sB,hB⟩:=s.rebase s1 lk
 have h2:=h1.weaken hB s.a0
 refine ⟨fun i m σ' H'=>m + i=ds.length∧∃ μ' ρ',Xt μ μ'∧StOk ⟨K,μ'⟩ (Bs ⟨K,μ⟩ H1 ρ σ lk) A0 H' ρ' σ'∧AY K W μ' (Bs ⟨K,μ⟩ H1 ρ σ lk) A0 (BA u b (ds.drop i) ρ') D,⟨ds.length,by omega,_,_,Xt.refl _,sB,h2⟩,?_⟩
 rintro i m σ2 H2 ⟨hm,μ2,ρ2,x2,s2,h3⟩
 by_cases hlt:i < ds.length
 ·have hd:ds.drop i=ds[i] :: ds.drop (i + 1):=List.drop_eq_getElem_cons hlt
  rw [hd,Nu] at h3
  refine .inr ⟨w.go i H2 s2.same hlt,fun σ' H'=>∃ μ' ρ',Xt μ μ'∧StOk ⟨K,μ'⟩ (Bs ⟨K,μ⟩ H1 ρ σ lk) A0 H' ρ' σ'∧AY K W μ' (Bs ⟨K,μ⟩ H1 ρ σ lk) A0 (BA u b (ds.drop (i + 1)) ρ') D,fun σ' H' q=>⟨m - 1,by omega,by omega,q⟩,fun x H3 y=>?_⟩
  obtain ⟨s3,r3⟩:=w.yld i H2 x H3 ds[i] s2.same y (List.getElem?_eq_getElem hlt)
  have r4:Rep ⟨K,μ2⟩ H3 (Av ⟨K,μ2⟩ A0 ρ2 σ2 []) ds[i] x:=Rep.ext x2 <| r3 _ fun a z=>⟨z.elim .inl fun z=>.inr (s2.RH (lk:=[]) z),s2.Ld z⟩
  split at h3
  ·exact False.elim h3
  ·rename_i ρ3 e3
   refine hg _ _ _ _ _ _ _ _ _ _ (s2.grow s3) r4 e3 fun σ4 s4 _ _=>?_
   refine hb _ _ _ _ _ _ _ s4 ?_
   cases e:b ρ3 with
   | ok fl ρ'=>
    rw [e] at h3
    cases fl with
    | nx=>exact fun μ' σ' H' y s'=>⟨μ',ρ',x2.trans y,s',h3.ext y⟩
    | ct=>exact fun μ' σ' H' y s'=>⟨μ',ρ',x2.trans y,s',h3.ext y⟩
    | bk=>exact fun μ' σ' H' y s'=>h3 μ' σ' H' y s'
    | rt d=>exact h3
   | exc x ρ'=>rw [e] at h3; exact h3
   | bad=>rw [e] at h3; exact h3
 ·have e:i=ds.length:=by omega
  subst e
  rw [List.drop_length] at h3
  exact .inl ⟨w.stop H2 s2.same,h3 _ σ2 H2 (Xt.refl _) s2⟩
def Dt.seq:Dt→Option (List Dt)
 | .tup ds=>some ds
 | .ptp ds=>some ds
 | .lst ds=>some ds
 | .fls ds=>some ds
 | .str s=>some (s.cps.toList.map fun c=>.str ⟨#[c]⟩)
 | _=>none
@[simp] theorem Dt.ME(ds:List Dt):(Dt.tup ds).seq=some ds:=rfl
@[simp] theorem Dt.MC(ds:List Dt):(Dt.lst ds).seq=some ds:=rfl
def AB(f:Env→Out Dt):Env→Out (List Dt):=fun ρ=>(f ρ).bind fun d=>FU d.seq
def ij(K:PySem.W.Frag)(tl:TE):TI:=fun σ H R=>tl σ H fun x H1=>(∃ a,x=.ref a∧(∃ xs,SqL K H1 a xs)∧R (Itl K a) H1)∨(∃ a,x=.ref a∧(∃ xs,SqT K H1 a xs)∧R (Itt K a) H1)∨∃ z,x=.str z∧R (Its z) H1
theorem Rep.later{B:Hp}(hs:Same B H){d:Dt}{v:V}(r:Rep κ B A0 d v){A:Ad}(ha:∀ a,A a→A0 a∨B a=none):Rep κ H A d v:=by
 refine Rep.mono (H:=B) (A:=fun a=>A a∨A0 a) (fun a o _ e=>hs a o e) (fun a z=>.inl z) d v ?_
 -- all addresses that r uses stand in B
 refine Rep.BC (A:=fun a=>A0 a∨B a=none) (fun a z=>z.elim (fun z=>ha a z) .inl) ?_
 exact Rep.Fj _ _ r
theorem Rep.km{d:Dt}{v:V}(r:Rep κ H (Av κ A0 ρ σ lk) d v):Rep κ (Bs κ H ρ σ lk) A0 d v:=
 Rep.mono (fun a o n e=>by rw [Io fun q=>n (.inr q)]; exact e) (fun a z=>.inl z) d v r
theorem KI{a:Addr}{vs:List V}{ds:List Dt}{B:Hp}(hl:∀ H',Same B H'→SqL K H' a vs)(r:Ah κ B A0 ds vs):Walks κ B A0 (Itl K a) ds where
 go:=fun i H hs hi=>⟨vs,vs[i]'(by rw [r.length]; exact hi),hl H hs,List.getElem?_eq_getElem _⟩
 stop:=fun H hs=>⟨vs,hl H hs,by rw [r.length]; exact Nat.le_refl _⟩
 yld:=fun i H x H' d hs y e=>by
  obtain ⟨rfl,y⟩:=y
  have q:=y vs (hl _ hs)
  obtain ⟨v,e1,r1⟩:=r.get e
  rw [q] at e1
  cases e1
  exact ⟨Same.refl _,fun A ha=>Rep.later hs r1 fun a z=>(ha a z).1⟩
theorem Ku{a:Addr}{vs:List V}{ds:List Dt}{B:Hp}(hl:∀ H',Same B H'→SqT K H' a vs)(r:Ah κ B A0 ds vs):Walks κ B A0 (Itt K a) ds where
 go:=fun i H hs hi=>⟨vs,vs[i]'(by rw [r.length]; exact hi),hl H hs,List.getElem?_eq_getElem _⟩
 stop:=fun H hs=>⟨vs,hl H hs,by rw [r.length]; exact Nat.le_refl _⟩
 yld:=fun i H x H' d hs y e=>by
  obtain ⟨rfl,y⟩:=y
  have q:=y vs (hl _ hs)
  obtain ⟨v,e1,r1⟩:=r.get e
  rw [q] at e1
  cases e1
  exact ⟨Same.refl _,fun A ha=>Rep.later hs r1 fun a z=>(ha a z).1⟩
theorem Ah.km{ds:List Dt}{vs:List V}(r:Ah κ H (Av κ A0 ρ σ lk) ds vs):Ah κ (Bs κ H ρ σ lk) A0 ds vs:=
 Ah.mono (fun a o n e=>by rw [Io fun q=>n (.inr q)]; exact e) (fun a z=>.inl z) ds vs r
theorem eW{tl:TE}{f:Env→Out Dt}(ha:Dx K W tl f lk):fN K W (ij K tl) (AB f) lk:=by
 intro μ H0 A0 ρ σ H R s h
 unfold AB at h
 refine ha _ _ _ _ _ _ _ s (h.seq fun d _ h1 v H1 s1 r1=>?_)
 obtain ⟨ds,e,q⟩:=BM h1
 cases d <;> try (cases e; done)
 ·rename_i z _
  cases e
  have e1:v=.str z:=r1
  subst e1
  refine .inr (.inr ⟨z,rfl,q _ _ s1 ⟨fun i H' _ hi=>?_,fun H' _=>?_,fun i H' x H'' d hs y e=>?_⟩⟩)
  ·simpa [Its] using hi
  ·simp [Its]
  ·obtain ⟨rfl,c,e1,rfl⟩:=y
   refine ⟨Same.refl _,fun A _=>?_⟩
   rw [List.getElem?_map] at e
   have e2:z.cps.toList[i]? = some c:=by simpa using e1
   rw [e2] at e
   cases e
   rfl
 ·rename_i es _
  cases e
  unfold Rep at r1
  obtain ⟨a,vs,rfl,h1',r⟩:=r1
  have hl:∀ H',Same (Bs ⟨K,μ⟩ H1 ρ σ lk) H'→SqT K H' a vs:=fun H' hs=>by
   rcases h1' with ⟨n,e⟩ | h
   ·exact SqT.of (hs _ _ (by rw [Io fun q=>n (.inr q)]; exact e))
   ·exact .inr h
  exact .inr (.inl ⟨a,rfl,⟨vs,SqT.XD h1'⟩,q _ _ s1 (Ku hl r.km)⟩)
 ·rename_i es _
  cases e
  unfold Rep at r1
  obtain ⟨a,vs,rfl,⟨n,o,e,_⟩,r⟩:=r1
  have hl:∀ H',Same (Bs ⟨K,μ⟩ H1 ρ σ lk) H'→SqT K H' a vs:=fun H' hs=>.inl (.inr ⟨o,hs _ _ (by rw [Io fun q=>n (.inr q)]; exact e)⟩)
  exact .inr (.inl ⟨a,rfl,⟨vs,.inl (.inr ⟨o,e⟩)⟩,q _ _ s1 (Ku hl r.km)⟩)
 ·rename_i es _
  cases e
  unfold Rep at r1
  obtain ⟨a,vs,rfl,n,e,r⟩:=r1
  have hB:Bs ⟨K,μ⟩ H1 ρ σ lk a=some (.lst vs):=by rw [Io fun q=>n (.inr q)]; exact e
  exact .inl ⟨a,rfl,⟨vs,SqL.of e⟩,q _ _ s1 (KI (fun H' hs=>SqL.of (hs _ _ hB)) r.km)⟩
 ·rename_i es _
  cases e
  unfold Rep at r1
  obtain ⟨a,vs,rfl,h1',r⟩:=r1
  have hl:∀ H',Same (Bs ⟨K,μ⟩ H1 ρ σ lk) H'→SqL K H' a vs:=fun H' hs=>by
   rcases h1' with ⟨n,o,e⟩ | h
   ·exact .inl (.inr ⟨o,hs _ _ (by rw [Io fun q=>n (.inr q)]; exact e)⟩)
   ·exact .inr h
  exact .inl ⟨a,rfl,⟨vs,hl H1 IJ⟩,q _ _ s1 (KI hl r.km)⟩
def Ik(lo:Int)(n:Nat):List Dt:=(List.range n).map fun (k:Nat)=>Dt.int (lo + (k:Int))
theorem JA(lo:Int)(n:Nat):(Ik lo n).length=n:=by unfold Ik; simp
def ED(i:Int):Bool:=decide (-(2 ^ 62)≤i∧i < 2 ^ 62)
def Yu:List Dt→Option (List Dt)
 | [.int j]=>if ED j=true then some (Ik 0 j.toNat) else none
 | [.int i,.int j]=>if ED i=true∧ED j=true then some (Ik i (j - i).toNat) else none
 | _=>none
@[simp] theorem I7(j:Int):Yu [.int j]=if ED j=true then some (Ik 0 j.toNat) else none:=rfl
def Cj(f:Env→Out (List Dt)):Env→Out (List Dt):=fun ρ=>(f ρ).bind fun ds=>FU (Yu ds)
theorem RX(lo:Int)(n:Nat)(B:Hp):Walks κ B A0 (Itr lo n) (Ik lo n) where
 go:=fun i H _ hi=>by rw [JA] at hi; exact hi
 stop:=fun H _=>by rw [JA]; exact Nat.le_refl n
 yld:=fun i H x H' d _ y e=>by
  obtain ⟨rfl,rfl⟩:=y
  refine ⟨Same.refl _,fun A _=>?_⟩
  unfold Ik at e
  rw [List.getElem?_map] at e
  cases e1:(List.range n)[i]? with
  | none=>rw [e1] at e; cases e
  | some k=>
   rw [e1] at e
   obtain ⟨_,e2⟩:=List.getElem?_eq_some_iff.mp e1
   rw [List.getElem_range] at e2
   subst e2
   cases e
   rfl
theorem CO{κ:KM}{H:Hp}{A:Ad}{d:Dt}{vs:List V}(r:Ah κ H A [d] vs):∃ v,vs=[v]∧Rep κ H A d v:=by
 unfold Ah at r
 obtain ⟨v,t,rfl,h1,h2⟩:=r
 unfold Ah at h2
 exact ⟨v,by rw [h2],h1⟩
theorem Ri{κ:KM}{H:Hp}{A:Ad}{d e:Dt}{vs:List V}(r:Ah κ H A [d,e] vs):∃ v u,vs=[v,u]∧Rep κ H A d v∧Rep κ H A e u:=by
 unfold Ah at r
 obtain ⟨v,t,rfl,h1,h2⟩:=r
 obtain ⟨u,rfl,h3⟩:=CO h2
 exact ⟨v,u,rfl,h1,h3⟩
theorem Pa{i:Int}:ED i=true ↔ -(2 ^ 62)≤i∧i < 2 ^ 62:=by unfold ED; exact decide_eq_true_iff
theorem bp{ta:TA}{f:Env→Out (List Dt)}(hn:∀ ρ ds,f ρ=.ok ds→ds.length=1)(ha:RR K W ta f lk):fN K W (iRng1 ta) (Cj f) []:=by
 intro μ H0 A0 ρ σ H R s h
 unfold Cj at h
 refine ha _ _ _ _ _ _ _ s (h.seq fun ds e0 h1 vs H1 s1 r1=>?_)
 obtain ⟨es,e,q⟩:=BM h1
 match ds,hn ρ ds e0 with
 | [.int j],_=>
  rw [I7] at e
  obtain ⟨c,rfl⟩:=Bf e
  obtain ⟨v,rfl,r⟩:=CO r1
  have e1:v=.int j:=r
  subst e1
  rw [Pa] at c
  exact ⟨j,rfl,c.1,c.2,q _ _ s1 (RX 0 _ _)⟩
 | [.non],_=>cases e
 | [.bl _],_=>cases e
 | [.str _],_=>cases e
 | [.ty _],_=>cases e
 | [.cls _],_=>cases e
 | [.tup _],_=>cases e
 | [.lst _],_=>cases e
 | [.fls _],_=>cases e
 | [.dic _ _],_=>cases e
 | [.obj _ _ _],_=>cases e
 | [.ad _],_=>cases e
 | [.dit _ _],_=>cases e
 | [.exn _ _ _ _ _],_=>cases e
theorem W7:∀ ρ ds,Ag ρ=.ok ds→ds.length=0:=fun ρ ds h=>by cases h; rfl
theorem ZF{n:Nat}{f:Env→Out Dt}{g:Env→Out (List Dt)}(h:∀ ρ ds,g ρ=.ok ds→ds.length=n):∀ ρ ds,Ab f g ρ=.ok ds→ds.length=n + 1:=fun ρ ds e=>by
 obtain ⟨d,_,e1⟩:=Out.FG e
 obtain ⟨es,e2,e3⟩:=Out.FG e1
 cases e3
 rw [List.length_cons,h _ _ e2]
end
section
variable {X:Cx} {W:WX} {tg e a b:Expr} {f fa fb:Env→Out Dt} {lk la lb:List Nat} {p pos:Pos}
open PySem.Spec PyProof.Rows in
theorem Zl{l:Expr}{tl:TE}(hl:PE X l tl):PI X tg l (ij X.K tl):=by
 refine ⟨fun pins s σ H R I h=>?_⟩
 refine thn (hl.run pins s σ H _ I h) fun v s1 ⟨x,H1,I1,r1,q1⟩=>?_
 rcases q1 with ⟨a,e,⟨xs,hq⟩,q⟩ | ⟨a,e,⟨xs,hq⟩,q⟩ | ⟨z,e,q⟩
 ·subst e
  cases r1
  obtain ⟨its,rv,p,hz⟩:=I1.list hq
  refine wpAny_pyIter_list p.isList ?_
  refine ⟨s1.heap.objs.size,[s1.heap.objs.size],_,_,H1,rfl,I1.kept (t':=s1.toks) fun b o e=>Heap.get?_push_of_some _ e,turn_list a _,⟨_,Heap.get?_push_size _ rfl,rfl,rfl⟩,fun b hb=>?_,q⟩
  have e:b=s1.heap.objs.size:=by simpa using hb
  subst e
  exact I1.fpOk (Nat.le_refl _) (I1.hok.fresh (Nat.le_refl _))
 ·subst e
  cases r1
  obtain ⟨its,rv,p,hz⟩:=I1.tuple hq
  refine wpAny_pyIter_tuple (show s1.heap.IsTuple a its.toArray from p) ?_
  refine ⟨s1.heap.objs.size,[s1.heap.objs.size],_,_,H1,rfl,I1.kept (t':=s1.toks) fun b o e=>Heap.get?_push_of_some _ e,turn_tuple a _,⟨_,Heap.get?_push_size _ rfl,rfl,rfl⟩,fun b hb=>?_,q⟩
  have e:b=s1.heap.objs.size:=by simpa using hb
  subst e
  exact I1.fpOk (Nat.le_refl _) (I1.hok.fresh (Nat.le_refl _))
 ·subst e
  obtain ⟨t,rfl⟩:=r1
  cases ha:z.cps.all (· < 128)
  ·exact wpAny_pyIter_wide ha (pi_one (tk:=s1.toks) I1 _ (turn_str _ z t "str_iterator" (.inr rfl)) ⟨_,Heap.get?_push_size _ rfl,rfl,rfl⟩ q)
  ·exact wpAny_pyIter_ascii ha (pi_one (tk:=s1.toks) I1 _ (turn_str _ z t "str_ascii_iterator" (.inl rfl)) ⟨_,Heap.get?_push_size _ rfl,rfl,rfl⟩ q)
theorem AI(h:Bc X W e f lk):iz X W tg e (AB f) lk:=by
 obtain ⟨te,pe,de⟩:=h
 exact ⟨_,Zl pe,eW de⟩
theorem FY(hg:Gl X "range")(hm:X.mg "range" = none)(ha:Bc X W a fa la)(hs:starEach [a] X.env=[(false,eval a X.env)]:=by rfl):iz X W tg (.Call (.Name "range" p) [a] [] pos) (Cj (Ab fa Ag)) []:=by
 obtain ⟨ta,pa,da⟩:=Ac (es:=[]) ha Af hs
 exact ⟨_,pi_range1 hg hm pa hs,bp (ZF W7) da⟩
end
end FD
namespace FD
open PySem L2 PyProof.Rows PySem.Spec
section
variable {X:Cx} {W:WX} {e a b c iter tg:Expr} {f fa fb:Env→Out Dt} {fl:Env→Out (List Dt)} {ft:Env→Out Bool} {lk la lb:List Nat} {pos p:Pos} {st:Stmt} {rest body els:List Stmt} {g h:Env→SOut} {u:Dt→Env→Option Env}
theorem Bk:Hn X W [] Ar:=⟨_,pss_nil,ZE⟩
theorem Ak(h1:MQ X W st g)(h2:Hn X W rest h):Hn X W (st :: rest) (Am g h):=by
 obtain ⟨t,p,d⟩:=h1
 obtain ⟨t',p',d'⟩:=h2
 exact ⟨_,pss_cons p p',eH d d'⟩
theorem An(h1:MQ X W st g):Hn X W [st] g:=by
 obtain ⟨t,p,d⟩:=h1
 exact ⟨_,pss_one p,d⟩
theorem AD(h:Bc X W e f lk):MQ X W (.Return (some e) pos) (AA f lk):=by
 obtain ⟨t,p,d⟩:=h
 exact ⟨_,ps_ret p,bQ d⟩
theorem Dz(hc:Vb X W c ft lk)(ha:Hn X W body g)(hb:Hn X W els h):MQ X W (.If c body els pos) (CF ft g h):=by
 obtain ⟨t,p,d⟩:=hc
 obtain ⟨t1,p1,d1⟩:=ha
 obtain ⟨t2,p2,d2⟩:=hb
 exact ⟨_,ps_if p p1 p2,gV d d1 d2⟩
theorem Qm(h:Bc X W e f lk)(hs:swapsWith e none pos.line X.env=pure false:=by rfl):MQ X W (.Expr e pos) (Ir f):=by
 obtain ⟨t,p,d⟩:=h
 exact ⟨_,ps_expr p hs,Zm d⟩
theorem Bw(i:Nat){x:Str}{pos':Pos}(hN:X.N.Nodup)(h:Bc X W e f lk)(hi:X.N[i]? = some x:=by rfl)(hx:Loc X.env.scope x:=by first | exact Or.inl rfl | exact Or.inr rfl)(hs:swapsWith e (some (.Name x pos')) pos.line X.env=pure false:=by rfl)
  (hf:X.fn x=true∨X.env.scope.names.lookup x=some .local:=by first | exact .inl rfl | exact .inr rfl | assumption):MQ X W (.Assign [.Name x pos'] e pos) (A8 i f lk):=by
 obtain ⟨t,p,d⟩:=h
 exact ⟨_,ps_set hN hi hx p hs hf,dJ d⟩
theorem Sl(i:Nat){x:Str}{pos':Pos}(hN:X.N.Nodup)(h:Za X W e fl lk)(hi:X.N[i]? = some x:=by rfl)(hx:Loc X.env.scope x:=by first | exact Or.inl rfl | exact Or.inr rfl)(hs:swapsWith e (some (.Name x pos')) pos.line X.env=pure false:=by rfl)
  (hf:X.fn x=true∨X.env.scope.names.lookup x=some .local:=by first | exact .inl rfl | exact .inr rfl | assumption):MQ X W (.Assign [.Name x pos'] e pos) (Hz i fl lk):=by
 obtain ⟨t,p,d⟩:=h
 exact ⟨_,ps_set hN hi hx p hs hf,Tv d⟩
theorem OS(i:Nat){x:Str}{p1 p2 p3:Pos}(h:Bc X W e f lk)(hN:X.N[i]? = some x:=by rfl)(hv:Vis X.env.scope x:=by first | exact Or.inl rfl | exact Or.inr (Or.inl rfl) | exact Or.inr (Or.inr rfl))(hd:(x == ("__debug__" : Str))=false:=by decide)
  (hcd:(x == ("__classdict__" : Str))=false:=by decide) (hs:starEach [e] X.env=(false,eval e X.env) :: starEach [] X.env:=by rfl) (hbase:attributeBase (.Name x p1) "append" X.env (eval (.Name x p1) X.env)=eval (.Name x p1) X.env:=by rfl)
  (hfew:((backTo p3 (starEach [e] X.env)).all (fun x=>!x.1) && (backToKw p3 (keywordEach [] X.env)).all (fun x=>x.1.isSome)
   && decide (([e]:List Expr).length + ([]:List Keyword).length + (if ([]:List Keyword).isEmpty then 0 else 1) < 30))=true:=by rfl) (hline:(p2.endLine == p3.line)=true:=by rfl) (hsw:swapsWith (.Call (.Attribute (.Name x p1) "append" p2) [e] [] p3) none pos.line X.env=pure false:=by rfl):MQ X W (.Expr (.Call (.Attribute (.Name x p1) "append" p2) [e] [] p3) pos) (D6 i f lk):=by
 obtain ⟨t,p,d⟩:=h
 exact ⟨_,ps_expr (pe_bm PySem.F.plainAttrs_list PySem.F.slot_list_append PySem.F.type_list_append mt_append (pe_var hN hv hd hcd) (pa_cons p pa_nil hs) hbase hfew hline hs rfl) hsw,Wd d⟩
theorem Ay(i:Nat){x:Str}(hN:X.N.Nodup)(hi:X.N[i]? = some x:=by rfl)(hx:Loc X.env.scope x:=by first | exact Or.inl rfl | exact Or.inr rfl)(hf:X.fn x=true∨X.env.scope.names.lookup x=some .local:=by first | exact .inl rfl | exact .inr rfl | assumption):Xd X (.Name x pos) (Ai i) [i]:=
 ⟨_,pg_name hN hi hx hf,aU⟩
theorem K8:du X [] EO []:=⟨_,pgs_nil,aG⟩
theorem DJ{es:List Expr}{us:List Dt→Env→Option Env}{S T:List Nat}(h1:Xd X e u S)(h2:du X es us T)(hs:(assignEach (e :: es) X.env).map (·.2)=assign e X.env :: (assignEach es X.env).map (·.2):=by rfl):du X (e :: es) (AO u us) (S ++ T):=by
 obtain ⟨t,p,d⟩:=h1
 obtain ⟨t',p',d'⟩:=h2
 exact ⟨_,pgs_cons p p' hs,YZ d d'⟩
theorem Hh:∀ ds ρ ρ',EO ds ρ=some ρ'→ds.length=0:=fun ds ρ ρ' h=>by
 cases ds with
 | nil=>rfl
 | cons d ds=>cases h
theorem BV{us:List Dt→Env→Option Env}{n:Nat}(h:∀ ds ρ ρ',us ds ρ=some ρ'→ds.length=n):∀ ds ρ ρ',AO u us ds ρ=some ρ'→ds.length=n + 1:=fun ds ρ ρ' e=>by
 cases ds with
 | nil=>cases e
 | cons d ds=>
  have e':(u d ρ).bind (fun ρ'=>us ds ρ')=some ρ':=e
  cases e1:u d ρ with
  | none=>rw [e1] at e'; cases e'
  | some ρ1=>
   rw [e1] at e'
   rw [List.length_cons,h _ _ _ e']
theorem O4{es:List Expr}{k n:Nat}{us:List Dt→Env→Option Env}{S:List Nat}(hc:X.calm=true)(h:du X es us S)(hn:∀ ds ρ ρ',us ds ρ=some ρ'→ds.length=n)(hl:(assignEach es X.env).length=n:=by rfl)(hst:(assignEach es X.env).findIdx? (·.1)=none:=by rfl):
  Xd X (.Tuple es k pos) (Fh us) S:=by
 obtain ⟨t,p,d⟩:=h
 exact ⟨_,pg_tup hc p hl hst,cQ d hn⟩
theorem CQ{S:List Nat}(hp:PassesOwn (model X.prog X.w) X.A X.env X.xe)(hc:X.calm=true)(hi:iz X W tg iter fl lk)(hg:Xd X tg u S)(hb:Hn X W body g)(hs:∀ x,foldedSetIterable iter X.env x=pure x:=by intro _; rfl):MQ X W (.For tg iter body [] pos) (A1 u fl lk g):=by
 obtain ⟨t,p,d⟩:=hi
 obtain ⟨t',p',d'⟩:=hg
 obtain ⟨t2,p2,d2⟩:=hb
 exact ⟨_,ps_for hp hc p p' p2 hs,Sf d d' d2⟩
end
def DH(K:PySem.W.Frag)(n:Nat)(φ:List Dt→Out Dt):Sp:=fun vs H Q E=>∃ (ds:List Dt) (A:Ad) (μ:Mu),Ah ⟨K,μ⟩ H A ds vs∧ds.length=n∧(∀ a,A a→Mut (H a))∧match φ ds with
 | .ok d=>∀ v H',Same H H'→Rep ⟨K,μ⟩ H' A d v→Q v H'
 | .exc x=>∀ c od H',Same H H'→NS K H' x c od→E c od H'
 | .bad=>False
def Ax(n:Nat)(g:Env→SOut)(ds:List Dt):Out Dt:=match g (ds.map (fun d=>some (Lo.sh d)) ++ List.replicate (n - ds.length) none) with
 | .ok .nx _=>.ok .non
 | .ok (.rt d) _=>.ok d
 | .exc x _=>.exc x
 | _=>.bad
section
variable {P:Program} {w:World} {K:PySem.W.Frag} {mg:Str→Option Value} {base:Heap} {H:Hp} {A:Ad}
theorem bt{κ:KM}{N:List Str}{ds:List Dt}{vs:List V}(r:Ah κ H A ds vs)(ha:∀ a,A a→Mut (H a)):StOk κ H A H (ds.map (fun d=>some (Lo.sh d)) ++ List.replicate (N.length - ds.length) none) (L2.start N vs):=by
 have cases':∀ (i:Nat) (l:Lo),(ds.map (fun d=>some (Lo.sh d)) ++ List.replicate (N.length - ds.length) none)[i]? = some (some l)→∃ d,ds[i]? = some d∧l=.sh d:=fun i l e=>by
  by_cases h:i < ds.length
  ·rw [List.getElem?_append_left (by simpa using h),List.getElem?_map,List.getElem?_eq_getElem h] at e
   cases e
   exact ⟨_,List.getElem?_eq_getElem h,rfl⟩
  ·rw [List.getElem?_append_right (by simpa using Nat.le_of_not_lt h),List.getElem?_replicate] at e
   split at e <;> cases e
 have own:∀ i a,¬ Bj κ (ds.map (fun d=>some (Lo.sh d)) ++ List.replicate (N.length - ds.length) none) (L2.start N vs) i a:=by
  rintro i a ⟨l,e,ho⟩
  obtain ⟨d,_,rfl⟩:=cases' i l e
  exact ho
 have av:∀ lk a,Av κ A (ds.map (fun d=>some (Lo.sh d)) ++ List.replicate (N.length - ds.length) none) (L2.start N vs) lk a→A a:=by
  rintro lk a (z | ⟨i,_,z⟩)
  ·exact z
  ·exact absurd z (own i a)
 refine ⟨Same.refl H,ha,by unfold L2.start; simp [r.length],fun i l e=>?_,fun i j a h=>absurd h (own i a),fun i j cs cs' e=>?_,fun _ i cs e=>?_⟩
 ·obtain ⟨d',e1,rfl⟩:=cases' i _ e
  obtain ⟨v,e3,r3⟩:=r.get e1
  refine ⟨v,?_,r3.BC fun a z=>av [] a z⟩
  unfold L2.start
  have hi:i < vs.length:=(List.getElem?_eq_some_iff.mp e3).1
  rw [List.getElem?_append_left (by simpa using hi),List.getElem?_map,e3]
  rfl
 ·obtain ⟨d',_,e2⟩:=cases' i _ e
  cases e2
 ·obtain ⟨d',_,e2⟩:=cases' i _ e
  cases e2
theorem UN{N:List Str}{ds:List Dt}{vs:List V}{μ:Mu}{g:Env→SOut}{ts:TS}{Q:VK}{E:XK}(hd:IF K (fun c d _ H'=>E c d H') ts g)(r:Ah ⟨K,μ⟩ H A ds vs)(ha:∀ a,A a→Mut (H a))
  (h:match Ax N.length g ds with
   | .ok d=>∀ v H',Same H H'→Rep ⟨K,μ⟩ H' A d v→Q v H'
   | .exc x=>∀ c od H',Same H H'→NS K H' x c od→E c od H'
   | .bad=>False) (D:Ends) (hn:∀ σ H',Q .non H'→D.nx σ H') (hr:∀ v H',Q v H'→D.rt v H'):ts D (L2.start N vs) H:=by
 have r':Ah ⟨K,⟨μ.l,true⟩⟩ H A ds vs:=Ah.fx r
 refine hd ⟨μ.l,true⟩ H A _ _ H _ (bt r' ha) ?_
 unfold Ax at h
 cases e:g (ds.map (fun d=>some (Lo.sh d)) ++ List.replicate (N.length - ds.length) none) with
 | ok fl ρ=>
  rw [e] at h
  cases fl with
  | nx=>exact fun μ' σ H' y s'=>hn σ H' (h .non H' s'.same rfl)
  | rt d=>
   intro μ' v σ H' y s' r'
   have e:=y.stay rfl
   subst e
   exact hr v H' (h v H' s'.same (Rep.fx (r'.BC fun a z=>.inl z)))
  | bk=>exact h.elim
  | ct=>exact h.elim
 | exc x ρ=>
  rw [e] at h
  exact fun μ' σ H' c od y s' r'=>h c od H' s'.same r'
 | bad=>rw [e] at h; exact h.elim
structure Cl (P:Program) (w:World) (K:PySem.W.Frag) (mg:Str→Option Value) (base:Heap) (x:Str) (k:Nat) (n:Nat) (dd:List Dt) (φ:List Dt→Out Dt):Prop where
 ex:∃ (f:Addr) (fd:FuncData) (ps:List Str) (ds:List Value) (dvs:List V),FnOk P w K mg base (L2N.CX P w) k f fd ps (DH K n φ)∧mg x=some (.ref f)∧PySem.W.keepIn K (.ref f)=true∧Binds K fd ps ds∧Vals dvs ds∧∀ κ H A,Ah κ H A dd dvs
end
section
variable {X:Cx} {W:WX} {e:Expr} {es:List Expr} {fs:Env→Out (List Dt)} {lk:List Nat} {p pos:Pos} {φ:List Dt→Out Dt}
def Vc(K:PySem.W.Frag)(r:List V→Hp→VK→Prop)(g:List Dt→Option Dt):Prop:=∀ (μ:Mu) (H:Hp) (A:Ad) (ds:List Dt) (d:Dt) (vs:List V) (Q:VK),(∀ c,A c→Mut (H c))→Ah ⟨K,μ⟩ H A ds vs→g ds=some d→RE ⟨K,μ⟩ A H Q d→r vs H Q
def eB(g:List Dt→Option Dt)(f:Env→Out (List Dt)):Env→Out Dt:=fun ρ=>(f ρ).bind fun ds=>FU (g ds)
theorem WD{K:PySem.W.Frag}{ta:TA}{r:List V→Hp→VK→Prop}{g:List Dt→Option Dt}(hr:Vc K r g)(ha:RR K W ta fs lk):Dx K W (tCB r ta) (eB g fs) lk:=by
 intro μ H0 A0 ρ σ H Q s h
 refine ha _ _ _ _ _ _ _ s (h.seq fun ds _ h1 vs H1 s1 r1=>?_)
 obtain ⟨d,e,q⟩:=BM h1
 exact hr _ H1 _ ds d vs Q (fun c z=>(s.grow s1).Dj z) r1 e (RE.grow s1 q)
theorem Gh{K:PySem.W.Frag}{ta:TA}{r:List V→Hp→VK→Prop}{g:List Dt→Option Dt}(hr:Vc K r g)(hg:∀ ds d,g ds=some d→d.scal=true)(ha:RR K W ta fs lk):Dx K W (tCB r ta) (eB g fs) []:=by
 intro μ H0 A0 ρ σ H Q s h
 refine ha _ _ _ _ _ _ _ s (h.seq fun ds _ h1 vs H1 s1 r1=>?_)
 obtain ⟨d,e,q⟩:=BM h1
 exact hr _ H1 Ze ds d vs Q (fun c z=>False.elim z) (r1.BC fun a z=>False.elim z) e fun v H' s' r=>q v H' (s1.trans s') (r.scal (hg _ _ e))
def CaL(K:PySem.W.Frag)(r:List V→Hp→VK→Prop)(g:List Dt→Option (List Dt)):Prop:=∀ (μ:Mu) (H:Hp) (A:Ad) (ds:List Dt) (es:List Dt) (vs:List V) (Q:VK),Ah ⟨K,μ⟩ H A ds vs→g ds=some es→(∀ p us,H p=none→Ah ⟨K,μ⟩ H A es us→Q (.ref p) (upd H p (.lst us)))→r vs H Q
def lB(g:List Dt→Option (List Dt))(f:Env→Out (List Dt)):Env→Out (List Dt):=fun ρ=>(f ρ).bind fun ds=>FU (g ds)
theorem fS{K:PySem.W.Frag}{ta:TA}{r:List V→Hp→VK→Prop}{g:List Dt→Option (List Dt)}(hr:CaL K r g)(ha:RR K W ta fs lk):aS K W (tCB r ta) (lB g fs) lk:=by
 intro μ H0 A0 ρ σ H Q s h
 refine ha _ _ _ _ _ _ _ s (h.seq fun ds _ h1 vs H1 s1 r1=>?_)
 obtain ⟨d,e,q⟩:=BM h1
 exact hr _ H1 _ ds d vs Q r1 e fun p us hp r=>q p us _ (s1.trans (Same.new hp)) (s1.free hp) upd_same ((Ah.fresh hp _ _ r).same (Same.new hp))
def BO:List Dt→Option Dt
 | [.tup ds]=>some (.int ds.length)
 | [.ptp ds]=>some (.int ds.length)
 | [.lst ds]=>some (.int ds.length)
 | [.fls ds]=>some (.int ds.length)
 | [.str s]=>if s.length≤16777216 then some (.int s.length) else none
 | _=>none
@[simp] theorem Md(ds:List Dt):BO [.tup ds]=some (.int ds.length):=rfl
@[simp] theorem Ur(ds:List Dt):BO [.ptp ds]=some (.int ds.length):=rfl
@[simp] theorem GY(ds:List Dt):BO [.lst ds]=some (.int ds.length):=rfl
@[simp] theorem aq(ds:List Dt):BO [.fls ds]=some (.int ds.length):=rfl
theorem SqL.bL{K:PySem.W.Frag}{H:Hp}{A:Ad}{a:Addr}{vs:List V}(h:(¬ A a∧∃ o,H a=some (.frz o (.lst vs)))∨kk K a vs):SqL K H a vs:=by
 rcases h with ⟨_,o,h⟩ | h
 ·exact .inl (.inr ⟨o,h⟩)
 ·exact .inr h
theorem dE{K:PySem.W.Frag}:Vc K (fun xs H Q=>∃ x n,xs=[x]∧LenV K x H n∧Q (.int n) H) BO:=by
 intro μ H A ds d vs Q ha r e q
 unfold BO at e
 split at e
 ·obtain ⟨v,rfl,rr⟩:=CO r
  cases e
  unfold Rep at rr
  obtain ⟨a,vs,rfl,h1,h2⟩:=rr
  exact ⟨_,vs.length,rfl,.inr ⟨vs,SqT.XD h1,rfl⟩,RE.now q (by rw [h2.length]; rfl)⟩
 ·obtain ⟨v,rfl,rr⟩:=CO r
  cases e
  unfold Rep at rr
  obtain ⟨a,vs,rfl,⟨_,o,h1,_⟩,h2⟩:=rr
  exact ⟨_,vs.length,rfl,.inr ⟨vs,.inl (.inr ⟨o,h1⟩),rfl⟩,RE.now q (by rw [h2.length]; rfl)⟩
 ·obtain ⟨v,rfl,rr⟩:=CO r
  cases e
  unfold Rep at rr
  obtain ⟨a,vs,rfl,_,h1,h2⟩:=rr
  exact ⟨_,vs.length,rfl,.inl ⟨vs,SqL.of h1,rfl⟩,RE.now q (by rw [h2.length]; rfl)⟩
 ·obtain ⟨v,rfl,rr⟩:=CO r
  cases e
  unfold Rep at rr
  obtain ⟨a,vs,rfl,h1,h2⟩:=rr
  exact ⟨_,vs.length,rfl,.inl ⟨vs,SqL.bL h1,rfl⟩,RE.now q (by rw [h2.length]; rfl)⟩
 ·rename_i s
  obtain ⟨v,rfl,rr⟩:=CO r
  obtain ⟨h1,rfl⟩:=Bf e
  have e1:v=.str s:=rr
  subst e1
  exact ⟨_,s.length,rfl,⟨by rw [sizeLine_eq]; exact h1,rfl⟩,RE.now q rfl⟩
 ·cases e
theorem Yp:∀ ds d,BO ds=some d→d.scal=true:=fun ds d e=>by
 unfold BO at e
 split at e
 ·cases e; rfl
 ·cases e; rfl
 ·cases e; rfl
 ·cases e; rfl
 ·obtain ⟨_,rfl⟩:=Bf e; rfl
 ·cases e
theorem D5(hg:Gl X "len")(hm:X.mg "len" = none)(ha:JL X W [e] fs lk)(he:starEach [e] X.env=(false,eval e X.env) :: starEach [] X.env:=by rfl):Bc X W (.Call (.Name "len" p) [e] [] pos) (eB BO fs) []:=by
 obtain ⟨ta,pa,da⟩:=ha
 exact ⟨_,pe_callB call_len hg hm boot_len pa (by decide) (by decide) he rfl,Gh dE Yp da⟩
def Dt.fX:Dt→Option String
 | .non=>some "NoneType" | .bl _=>some "bool" | .int _=>some "int" | .str _=>some "str" | .tup _=>some "tuple" | .ptp _=>some "tuple" | .lst _=>some "list" | .dic _ _=>some "dict"
 | _=>none
def EG:List Dt→Option Dt
 | [d,.ty n]=>d.fX.bind fun t=>(kitB t n).map fun b=>.bl b
 | _=>none
end
end FD
namespace FD
open PySem L2 PyProof.Rows PySem.Spec
def AW:Dt→Dt→Option Dt
 | .tup ds,.int i=>atI ds i
 | .lst ds,.int i=>atI ds i
 | .fls ds,.int i=>atI ds i
 | .str s,.int i=>if s.length≤16777216 then (atI s.cps.toList i).map fun c=>.str ⟨#[c]⟩ else none
 | _,_=>none
@[simp] theorem My(ds:List Dt)(i:Int):AW (.tup ds) (.int i)=atI ds i:=rfl
@[simp] theorem Mc(ds:List Dt)(i:Int):AW (.lst ds) (.int i)=atI ds i:=rfl
@[simp] theorem MF(ds:List Dt)(i:Int):AW (.fls ds) (.int i)=atI ds i:=rfl
@[simp] theorem Wj(s:Str)(i:Int):AW (.str s) (.int i)=if s.length≤16777216 then (atI s.cps.toList i).map fun c=>.str ⟨#[c]⟩ else none:=rfl
section
variable {K:PySem.W.Frag} {κ:KM} {μ:Mu} {W:WX} {H0 H H1:Hp} {A A0:Ad} {ρ:Env} {σ:L2.St} {lk la lb:List Nat}
theorem Ah.at{ds:List Dt}{vs:List V}{i:Int}{d:Dt}(r:Ah κ H A ds vs)(e:atI ds i=some d):∃ v,atI vs i=some v∧Rep κ H A d v:=by
 unfold atI at e ⊢
 rw [r.length]
 cases h:ixN ds.length i with
 | none=>rw [h] at e; cases e
 | some j=>
  rw [h] at e
  exact r.get e
theorem Sw:Rx K (rIx K) AW:=by
 intro μ H A a b d x y Q _ ra rb e q
 cases a <;> cases b <;> try (cases e; done)
 ·rename_i z i
  have e1:x=.str z:=ra
  have e2:y=.int i:=rb
  subst e1 e2
  rw [Wj] at e
  split at e
  ·rename_i hz
   cases h:atI z.cps.toList i with
   | none=>rw [h] at e; cases e
   | some c=>
    rw [h] at e
    cases e
    exact .inr (.inr ⟨z,i,c,rfl,rfl,by rw [sizeLine_eq]; exact hz,h,RE.now q rfl⟩)
  ·cases e
 ·rename_i ds i
  have e2:y=.int i:=rb
  subst e2
  unfold Rep at ra
  obtain ⟨p,vs,rfl,h1,r⟩:=ra
  obtain ⟨v,e1,r1⟩:=r.at (show atI ds i=some d from e)
  exact .inr (.inl ⟨p,vs,i,v,rfl,rfl,SqT.XD h1,e1,RE.now q r1⟩)
 ·rename_i ds i
  have e2:y=.int i:=rb
  subst e2
  unfold Rep at ra
  obtain ⟨p,vs,rfl,_,h1,r⟩:=ra
  obtain ⟨v,e1,r1⟩:=r.at (show atI ds i=some d from e)
  exact .inl ⟨p,vs,i,v,rfl,rfl,SqL.of h1,e1,RE.now q r1⟩
 ·rename_i ds i
  have e2:y=.int i:=rb
  subst e2
  unfold Rep at ra
  obtain ⟨p,vs,rfl,h1,r⟩:=ra
  obtain ⟨v,e1,r1⟩:=r.at (show atI ds i=some d from e)
  exact .inl ⟨p,vs,i,v,rfl,rfl,SqL.bL h1,e1,RE.now q r1⟩
theorem WI{a b d:Dt}{v:V}(e:AW a b=some d)(r:Rep κ H A b v){A':Ad}:Rep κ H A' b v:=by
 cases b with
 | int i=>exact r
 | _=>cases a <;> cases e
theorem W8(i:Nat){tb:TE}{fb:Env→Out Dt}(hb:Dx K W tb fb lb):Dx K W (tOp (rIx K) (tVar i) tb) (e2 (Aa i) fb AW) []:=by
 intro μ H0 A0 ρ σ H Q s h
 unfold e2 Aa at h
 split at h
 ·exact False.elim h
 ·rename_i l hn e
  simp only [Out.Au] at h
  have hmh:l.Ui=false:=by cases l with | mh cs=>exact (hn cs rfl).elim | _=>rfl
  obtain ⟨v,e1,r1⟩:=s.val e hmh
  refine ⟨v,e1,?_⟩
  refine hb _ _ _ _ _ _ _ s (h.seq fun b _ h2 v2 H2 s2 r2=>?_)
  obtain ⟨d,e3,q⟩:=BM h2
  have lo:=s.lo i l e
  cases l with
  | sh d'=>
   obtain ⟨u,e4,r4⟩:=lo
   rw [e1] at e4
   cases e4
   exact Sw (K:=K) μ H2 (Av ⟨K,μ⟩ A0 ρ σ []) d' b d v v2 Q (fun c z=>(s.grow s2).Ld z) (r4.same s2) (WI e3 r2) e3 (RE.grow s2 q)
  | ol ds=>
   obtain ⟨a,vs,e4,h0,h1,r4⟩:=lo
   rw [e1] at e4
   cases e4
   cases b <;> try (cases e3; done)
   rename_i k _
   have e5:v2=.int k:=r2
   subst e5
   obtain ⟨w,e6,r6⟩:=(r4.same s2).at (show atI ds k=some d from e3)
   exact .inl ⟨a,vs,k,w,rfl,rfl,SqL.of (s2 _ _ h1),e6,q _ _ s2 r6⟩
  | od ks ds=>cases b <;> cases e3
  | ot ks ds=>cases b <;> cases e3
  | mh cs=>cases hmh
 ·exact False.elim h
def Vu(K:PySem.W.Frag)(W:WX)(to:TO)(f:Env→Out (Option Int)):Prop:=
 ∀ (μ:Mu) (H0:Hp) (A0:Ad) (ρ:Env) (σ:L2.St) (H:Hp) (Q:Option Int→Hp→Prop),StOk ⟨K,μ⟩ H0 A0 H ρ σ→DA K W H σ (f ρ) (fun o=>∀ H',Same H H'→Q o H')→to σ H Q
def POD(X:Cx)(W:WX)(e:Option Expr)(f:Env→Out (Option Int)):Prop:=∃ to,PO X e to∧Vu X.K W to f
def HJ:Env→Out (Option Int):=fun _=>.ok none
def Mn(f:Env→Out Dt):Env→Out (Option Int):=fun ρ=>(f ρ).bind fun d=>match d with
 | .int i=>.ok (some i)
 | _=>.bad
theorem cO:Vu K W tNoPart HJ:=fun μ H0 A0 ρ σ H Q s h=>h H (Same.refl H)
theorem cz{te:TE}{f:Env→Out Dt}(ha:Dx K W te f la):Vu K W (tPart te) (Mn f):=by
 intro μ H0 A0 ρ σ H Q s h
 refine ha _ _ _ _ _ _ _ s (h.seq fun d _ h1 v H1 s1 r1=>?_)
 cases d <;> try (exact False.elim h1)
 exact ⟨_,r1,h1 H1 s1⟩
def cutD(ds:List Dt)(lo hi:Option Int):List Dt:=(ds.drop (HT.sIx ds.length 0 lo)).take (HT.sIx ds.length ds.length hi - HT.sIx ds.length 0 lo)
theorem Ah.cut{ds:List Dt}{vs:List V}{lo hi:Option Int}(r:Ah κ H A ds vs):Ah κ H A (cutD ds lo hi) (cutV vs lo hi):=by
 unfold cutD cutV
 rw [r.length]
 exact Ah.take _ (Ah.drop _ r)
end
section
variable {X:Cx} {W:WX} {e a b c iter tg:Expr} {f fa fb:Env→Out Dt} {lk la lb:List Nat} {pos p p2:Pos} {lo hi:Option Expr} {fl fh:Env→Out (Option Int)}
theorem gy(ha:Bc X W a fa la)(hb:Bc X W b fb lb)(hs:PlainIx b:=by exact fun _ _=>rfl):Bc X W (.Subscript a b pos) (e2 fa fb AW) (la ++ lb):=by
 obtain ⟨ta,pa,da⟩:=ha
 obtain ⟨tb,pb,db⟩:=hb
 exact ⟨_,pe_ix ix_seq pa pb hs,fT Sw da db⟩
theorem AU(i:Nat){x:Str}(hb:Bc X W b fb lb)(hN:X.N[i]? = some x:=by rfl)(hv:Vis X.env.scope x:=by first | exact Or.inl rfl | exact Or.inr (Or.inl rfl) | exact Or.inr (Or.inr rfl))(hd:(x == ("__debug__" : Str))=false:=by decide)
  (hcd:(x == ("__classdict__" : Str))=false:=by decide) (hs:PlainIx b:=by exact fun _ _=>rfl):Bc X W (.Subscript (.Name x p) b pos) (e2 (Aa i) fb AW) []:=by
 obtain ⟨tb,pb,db⟩:=hb
 exact ⟨_,pe_ix ix_seq (pe_var hN hv hd hcd) pb hs,W8 i db⟩
theorem Ls:POD X W none HJ:=⟨_,po_none,cO⟩
theorem Ma(h:Bc X W e f la):POD X W (some e) (Mn f):=by
 obtain ⟨t,p,d⟩:=h
 exact ⟨_,po_some p,cz d⟩
end
section
variable {K:PySem.W.Frag}
theorem VN{κ:KM}{H:Hp}{A:Ad}{d:Dt}{v:V}{t:String}(r:Rep κ H A d v)(e:d.fX=some t):TyX κ.K H v (.type t):=by
 cases d with
 | non=>cases e; have e1:v=.non:=r; subst e1; exact .base .non
 | bl b=>cases e; have e1:v=.bl b:=r; subst e1; exact .base (.bl b)
 | int b=>cases e; have e1:v=.int b:=r; subst e1; exact .base (.int b)
 | str b=>cases e; have e1:v=.str b:=r; subst e1; exact .base (.str b)
 | ty _=>cases e
 | cls _=>cases e
 | ad _=>cases e
 | fls _=>cases e
 | ptp _=>
  cases e
  unfold Rep at r
  obtain ⟨a,vs,rfl,⟨_,o,h,_⟩,_⟩:=r
  exact .fTuple h
 | ntp _=>cases e
 | obj _ _ _=>cases e
 | exn _ _ _ _ _=>cases e
 | tup ds=>
  cases e
  unfold Rep at r
  obtain ⟨a,vs,rfl,h | ⟨o,its,n,h1,h2,_⟩,_⟩:=r
  ·exact .base (.tup h.2)
  ·exact .kTuple h1 h2
 | lst ds=>
  cases e
  unfold Rep at r
  obtain ⟨a,vs,rfl,_,h,_⟩:=r
  exact .base (.lst h)
 | dic ks ds=>
  cases e
  unfold Rep at r
  obtain ⟨a,kvs,rfl,_,h,_⟩:=r
  rcases h with h | ⟨o,h⟩
  ·exact .base (.dK h)
  ·exact .fDict h
 | dit ks ds=>cases e
theorem eV:Vc K (rIsi K) EG:=by
 intro μ H A ds d vs Q ha r e q
 unfold EG at e
 split at e
 ·rename_i x n
  obtain ⟨v,u,rfl,r1,r2⟩:=Ri r
  have e2:u=.ty n:=r2
  subst e2
  cases h1:x.fX with
  | none=>rw [h1] at e; cases e
  | some t=>
   rw [h1] at e
   cases h2:kitB t n with
   | none=>
    have e':(kitB t n).map (fun b=>Dt.bl b)=some d:=e
    rw [h2] at e'
    cases e'
   | some b=>
    have e':(kitB t n).map (fun b=>Dt.bl b)=some d:=e
    rw [h2] at e'
    cases e'
    exact ⟨v,.ty n,.type t,.type n,b,rfl,.ty n,VN r1 h1,kit_ty h2,RE.now q rfl⟩
 ·cases e
theorem YB:∀ ds d,EG ds=some d→d.scal=true:=fun ds d e=>by
 unfold EG at e
 split at e
 ·rename_i x n
  cases h1:x.fX with
  | none=>rw [h1] at e; cases e
  | some t=>
   rw [h1] at e
   have e':(kitB t n).map (fun b=>Dt.bl b)=some d:=e
   cases h2:kitB t n with
   | none=>rw [h2] at e'; cases e'
   | some b=>rw [h2] at e'; cases e'; rfl
 ·cases e
@[simp] theorem F4(i:Int):EG [.int i,.ty "int"]=some (.bl true):=by
 have h:kitB "int" "int" = some true:=by decide +kernel
 show (kitB "int" "int").map (fun b=>Dt.bl b)=_
 rw [h]; rfl
@[simp] theorem ET(i:Int):EG [.int i,.ty "bool"]=some (.bl false):=by
 have h:kitB "int" "bool" = some false:=by decide +kernel
 show (kitB "int" "bool").map (fun b=>Dt.bl b)=_
 rw [h]; rfl
@[simp] theorem I8(i:List Dt):EG [.tup i,.ty "tuple"]=some (.bl true):=by
 have h:kitB "tuple" "tuple" = some true:=by decide +kernel
 show (kitB "tuple" "tuple").map (fun b=>Dt.bl b)=_
 rw [h]; rfl
@[simp] theorem cf(i:Str):EG [.str i,.ty "str"]=some (.bl true):=by
 have h:kitB "str" "str" = some true:=by decide +kernel
 show (kitB "str" "str").map (fun b=>Dt.bl b)=_
 rw [h]; rfl
end
section
variable {X:Cx} {W:WX} {e a b:Expr} {fs:Env→Out (List Dt)} {lk:List Nat} {pos p:Pos}
theorem Js(hg:Gl X "isinstance")(hm:X.mg "isinstance" = none)(ha:JL X W [a,b] fs lk)(he:starEach [a,b] X.env=(false,eval a X.env) :: starEach [b] X.env:=by rfl)(hpl:(backTo pos (starEach [b] X.env)).any (·.1)=false:=by rfl):
  Bc X W (.Call (.Name "isinstance" p) [a,b] [] pos) (eB EG fs) []:=by
 obtain ⟨ta,pa,da⟩:=ha
 exact ⟨_,pe_callB call_isi hg hm PyProof.Rows.boot_isinstance pa (by decide) (by decide) he hpl,Gh eV YB da⟩
end
def W0:WX:=fun _ _ _ _=>False
def BB(ρ:Env):List Nat→Env
 | []=>ρ
 | v :: vs=>(BB ρ vs).set v none
def NP{α:Type}:Out α→Out α
 | .ok a=>.ok a
 | _=>.bad
@[simp] theorem B2{α:Type}(a:α):NP (.ok a)=.ok a:=rfl
def N5(u:Dt→Env→Option Env)(t:Env→Out Bool)(f:Env→Out Dt)(ρ:Env):List Dt→Out (List Dt)
 | []=>.ok []
 | d :: ds=>(FU (u d ρ)).bind fun ρ1=>(NP (t ρ1)).bind fun b=>if b=true then (NP (f ρ1)).bind fun y=>(N5 u t f ρ ds).bind fun r=>.ok (y :: r) else N5 u t f ρ ds
def Fi(u:Dt→Env→Option Env)(vs:List Nat)(t:Env→Out Bool)(f:Env→Out Dt)(src:Env→Out (List Dt))(lk:List Nat):Env→Out (List Dt):=fun ρ=>(src ρ).bind fun ds=>if ds.length≤16777216 then N5 u t f (BB (frz lk ρ) vs) ds else .bad
section
variable {K:PySem.W.Frag} {κ:KM} {μ:Mu} {W:WX} {H0 H H1 H2:Hp} {A A0:Ad} {ρ:Env} {σ:L2.St} {lk la lb:List Nat}
theorem TF{ρ:Env}{i:Nat}{x:Lo}:∀ {vs:List Nat},(BB ρ vs)[i]? = some (some x)→ρ[i]? = some (some x)∧i∉vs
 | [],h=>⟨h,by simp⟩
 | v :: vs,h=>by
  unfold BB at h
  by_cases hi:v=i
  ·subst hi
   by_cases hv:v < (BB ρ vs).length
   ·rw [List.getElem?_set_self hv] at h; cases h
   ·rw [List.getElem?_eq_none (by simpa using hv)] at h; cases h
  ·rw [List.getElem?_set_ne hi] at h
   obtain ⟨h1,h2⟩:=TF h
   exact ⟨h1,by simp only [List.mem_cons,not_or]; exact ⟨fun e=>hi e.symm,h2⟩⟩
theorem JP{ρ:Env}{i:Nat}:∀ {vs:List Nat},i∉vs→(BB ρ vs)[i]? = ρ[i]?
 | [],_=>rfl
 | v :: vs,h=>by
  unfold BB
  rw [List.getElem?_set_ne fun e=>h (by rw [e]; exact List.mem_cons_self)]
  exact JP fun z=>h (List.mem_cons_of_mem _ z)
theorem D9{σ:L2.St}{i:Nat}:∀ {vs:List Nat},i∉vs→(wipe σ vs)[i]? = σ[i]?
 | [],_=>rfl
 | v :: vs,h=>by
  unfold wipe
  rw [List.getElem?_set_ne fun e=>h (by rw [e]; exact List.mem_cons_self)]
  exact D9 fun z=>h (List.mem_cons_of_mem _ z)
theorem Zx{vs:List Nat}{i:Nat}{a:Addr}(h:Bj κ (BB ρ vs) (wipe σ vs) i a):Bj κ ρ σ i a∧i∉vs:=by
 obtain ⟨l,e,ho⟩:=h
 obtain ⟨e1,n⟩:=TF e
 rw [D9 n] at ho
 exact ⟨⟨l,e1,ho⟩,n⟩
theorem StOk.Ub(s:StOk κ H0 A0 H ρ σ):∀ vs:List Nat,StOk κ H0 A0 H (BB ρ vs) (wipe σ vs)
 | []=>s
 | v :: vs=>by
  unfold BB wipe
  exact (StOk.Ub s vs).gone v
theorem StOk.kd(s:StOk κ H0 A0 H ρ σ){D:Addr}{acc:List V}(hD:H D=none)(hs:Same H H2)(h2:H2 D=some (.lst acc)):StOk κ (Bs κ H2 ρ σ []) (fun a=>A0 a∨a=D) H2 ρ σ:=by
 have nD:¬ Ow κ ρ σ [] D:=fun ⟨i,_,h⟩=>by
  obtain ⟨⟨o,e⟩,_⟩:=s.B7 h
  rw [hD] at e
  cases e
 have av:∀ a,Av κ (fun a=>A0 a∨a=D) ρ σ [] a→Av κ A0 ρ σ [] a∨H a=none:=by
  rintro a ((z | z) | z)
  ·exact .inl (.inl z)
  ·rw [z]
   exact .inr hD
  ·exact .inl (.inr z)
 have nA:∀ a,A0 a→¬ Ow κ ρ σ [] a:=fun a z q=>by
  have q1:=s.a0 a z
  rw [s.RH q] at q1
  exact q1
 refine ⟨IJ,fun a z=>?_,s.len,fun i l e=>ER.gen (F:=κ.K) (m:=κ.mu) (m':=κ.mu) (Xt.refl _) (fun _=>rfl) (fun a o _ q=>hs a o q) av (fun a _ o q=>hs a o q) (fun a ho _=>aI ⟨i,(fun z=>nomatch z),l,e,ho⟩) (s.lo i l e),s.ap,s.one,s.nm⟩
 rcases z with z | z
 ·rw [Io (nA a z)]
  exact (s.grow hs).Dj (lk:=[]) (.inl z)
 ·subst z
  rw [Io nD,h2]
  exact True.intro
theorem Jb{wi:TI}{g:TG}{tt:TT}{te:TE}{u:Dt→Env→Option Env}{S vs lt le:List Nat}{t:Env→Out Bool}{f:Env→Out Dt}{src:Env→Out (List Dt)}(hi:fN K W wi src lk)(hg:Y9 K g u S)(hS:∀ i∈S,i∈vs)
  (ht:Ry K W0 tt t lt) (he:Dx K W0 te f le):aS K W (tLc wi g tt te vs) (Fi u vs t f src lk) (lk ++ (le ++ vs)):=by
 intro μ H0 A0 ρ σ H Q s h
 refine hi _ _ _ _ _ _ _ s (h.seq fun ds _ h1 J H1 s1 w=>?_)
 intro D hD
 split at h1
 case isFalse=>exact False.elim h1
 rename_i hz
 obtain ⟨sB,hB⟩:=s.rebase s1 lk
 have sW:=sB.Ub vs
 -- what is wanted,without the wish
 cases eo:N5 u t f (BB (frz lk ρ) vs) ds with
 | exc x=>
  exfalso
  have key:∀ es,N5 u t f (BB (frz lk ρ) vs) es≠.exc x:=by
   intro es
   induction es with
   | nil=>intro z; cases z
   | cons d es ih=>
    intro z
    unfold N5 at z
    cases e1:u d (BB (frz lk ρ) vs) with
    | none=>rw [e1] at z; cases z
    | some ρ1=>
     rw [e1] at z
     simp only [BI,Out.Au] at z
     cases e2:t ρ1 with
     | ok b=>
      rw [e2] at z
      simp only [B2,Out.Au] at z
      split at z
      ·cases e3:f ρ1 with
       | ok y=>
        rw [e3] at z
        simp only [B2,Out.Au] at z
        cases e4:N5 u t f (BB (frz lk ρ) vs) es with
        | ok r=>rw [e4] at z; cases z
        | exc x'=>rw [e4] at z; cases z; exact ih e4
        | bad=>rw [e4] at z; cases z
       | exc x'=>rw [e3] at z; cases z
       | bad=>rw [e3] at z; cases z
      ·exact ih z
     | exc x'=>rw [e2] at z; cases z
     | bad=>rw [e2] at z; cases z
  exact key ds eo
 | bad=>rw [eo] at h1; exact False.elim h1
 | ok res=>
  rw [eo] at h1
  have avs:∀ a,Av ⟨K,μ⟩ A0 ρ σ (lk ++ (le ++ vs)) a→Av ⟨K,μ⟩ A0 (frz lk ρ) σ (le ++ vs) a:=by
   rintro a (z | ⟨i,n,l,e,ho⟩)
   ·exact .inl z
   ·refine .inr ⟨i,fun q=>n (List.mem_append_right _ q),l,?_,ho⟩
    exact frz_ne (fun q=>n (List.mem_append_left _ q)) e
  -- the invariant: the items so far,and what the rest will give
  refine ⟨fun i m H'=>m + i=ds.length∧Same H1 H'∧∃ (done todo:List Dt) (acc:List V),H' D=some (.lst acc)∧acc.length≤i∧N5 u t f (BB (frz lk ρ) vs) (ds.drop i)=.ok todo∧done ++ todo=res ∧
   Ah ⟨K,μ⟩ H' (fun a=>Av ⟨K,μ⟩ A0 ρ σ (lk ++ (le ++ vs)) a∨a=D) done acc,⟨ds.length,by omega,Same.new hD,[],res,[],upd_same,Nat.le_refl 0,eo,rfl,Ah.nil⟩,?_⟩
  rintro i m H2 ⟨hm,s2,done,todo,acc,hacc,hlen,e,hres,racc⟩
  have sBW:Same (Bs ⟨K,μ⟩ H1 ρ σ lk) H2:=IJ.trans s2
  by_cases hlt:i < ds.length
  ·have hd:ds.drop i=ds[i] :: ds.drop (i + 1):=List.drop_eq_getElem_cons hlt
   rw [hd] at e
   unfold N5 at e
   refine .inr ⟨w.go i H2 sBW hlt,fun H'=>Same H1 H'∧∃ (done todo:List Dt) (acc:List V),H' D=some (.lst acc)∧acc.length≤i + 1∧N5 u t f (BB (frz lk ρ) vs) (ds.drop (i + 1))=.ok todo∧done ++ todo=res ∧
    Ah ⟨K,μ⟩ H' (fun a=>Av ⟨K,μ⟩ A0 ρ σ (lk ++ (le ++ vs)) a∨a=D) done acc,fun H' q=>⟨m - 1,by omega,by omega,q⟩,fun x H3 y=>?_⟩
   obtain ⟨s3,r3⟩:=w.yld i H2 x H3 ds[i] sBW y (List.getElem?_eq_getElem hlt)
   have hacc3:=s3 _ _ hacc
   have sD:=sW.kd hD (s2.trans s3) hacc3
   cases eu:u ds[i] (BB (frz lk ρ) vs) with
   | none=>rw [eu] at e; cases e
   | some ρ1=>
    rw [eu] at e
    simp only [BI,Out.Au] at e
    refine hg _ _ _ _ _ _ _ _ _ _ sD (r3 _ fun a z=>?_) eu fun σ4 s4 m4 o4=>⟨?_,?_⟩
    ·rcases z with (z | z) | ⟨j,n,z⟩
     ·refine ⟨.inl z,?_⟩
      have q:=sD.Dj (lk:=[]) (a:=a) (.inl (.inl z))
      intro z2
      have z3:H3 a=none:=by
       cases q3:H3 a with
       | none=>rfl
       | some o=>
        exfalso
        have q4:=(s.grow s1).Dj (lk:=[]) (a:=a) (.inl z)
        cases q5:H1 a with
        | none=>rw [q5] at q4; exact q4
        | some o'=>
         have q6:=s2 a o' q5
         rw [z2] at q6
         cases q6
      rw [z3] at q
      exact q
     ·subst z
      refine ⟨.inr ?_,by rw [hacc]; intro z; cases z⟩
      have:Bs ⟨K,μ⟩ H1 ρ σ lk a=none:=by
       unfold Bs
       split
       ·rfl
       ·exact hD
      exact this
     ·obtain ⟨z1,_⟩:=Zx z
      refine ⟨.inr ?_,?_⟩
      ·exact (sB.B7 z1).2
      ·obtain ⟨⟨o,q⟩,_⟩:=sB.B7 z1
       rw [s2 _ _ q]
       intro z
       cases z
    ·-- the slots of the block alone were stored
     have wl:∀ vs':List Nat,(∀ i∈S,i∈vs')→wipe σ4 vs'=wipe (wipe σ vs) vs':=fun vs' hv=>by
      apply List.ext_getElem?
      intro j
      by_cases hj:j∈vs'
      ·have n1:∀ τ:L2.St,j < τ.length→(wipe τ vs')[j]? = some none:=fun τ hjl=>wipe_mem hj hjl
       by_cases hl:j < σ4.length
       ·rw [n1 _ hl,n1 _ (by rw [← o4.1]; exact hl)]
       ·rw [List.getElem?_eq_none (by rw [wipe_length]; omega),List.getElem?_eq_none (by rw [wipe_length,← o4.1]; omega)]
      ·rw [D9 hj,D9 hj]
       exact (o4.2 j fun z=>hj (hv j z)).1
     rw [wl vs hS,wipe_idem]
    ·refine ht _ _ _ _ _ _ _ s4 ?_
     cases et:t ρ1 with
     | exc x'=>rw [et] at e; cases e
     | bad=>rw [et] at e; cases e
     | ok b=>
      rw [et] at e
      simp only [B2,Out.Au] at e
      intro H4 s5
      cases b with
      | false=>
       simp only [Bool.false_eq_true,if_false] at e ⊢
       exact ⟨(s2.trans s3).trans s5,done,todo,acc,s5 _ _ hacc3,by omega,e,hres,(racc.same s3).same s5⟩
      | true=>
       simp only [if_true] at e ⊢
       refine he _ _ _ _ _ _ _ (s4.grow s5) ?_
       cases ef:f ρ1 with
       | exc x'=>rw [ef] at e; cases e
       | bad=>rw [ef] at e; cases e
       | ok y=>
        rw [ef] at e
        simp only [B2,Out.Au] at e
        cases er:N5 u t f (BB (frz lk ρ) vs) (ds.drop (i + 1)) with
        | exc x'=>rw [er] at e; cases e
        | bad=>rw [er] at e; cases e
        | ok r=>
         rw [er] at e
         have ey:y :: r=todo:=by
          have e':(Out.ok (y :: r):Out (List Dt))=.ok todo:=e
          injection e'
         intro v5 H5 s6 r5
         have hD5:=s6 _ _ (s5 _ _ hacc3)
         refine ⟨acc,hD5,by rw [sizeLine_eq]; omega,fun a o q=>?_,done ++ [y],r,acc ++ [v5],upd_same,by rw [List.length_append,List.length_singleton]; omega,rfl,?_,?_⟩
         ·rw [upd_ne (ne_of_none q hD)]
          exact s6 _ _ (s5 _ _ (s3 _ _ (s2 _ _ q)))
         ·rw [List.append_assoc]
          show done ++ (y :: r)=res
          rw [ey]
          exact hres
         ·have keep:∀ a o,¬ (Av ⟨K,μ⟩ A0 ρ σ (lk ++ (le ++ vs)) a∨a=D)→H5 a=some o→upd H5 D (.lst (acc ++ [v5])) a=some o:=fun a o n q=>by
           rw [upd_ne fun z=>n (.inr z)]
           exact q
          refine Ah.mono keep (fun a z=>z) _ _ (Ah.append (((racc.same s3).same s5).same s6) (Ah.cons (r5.BC fun a z=>?_) Ah.nil))
          rcases z with z | z
          ·rcases avs a z with z | ⟨j,n,l,e1,ho⟩
           ·exact .inl (.inl z)
           ·have nv:j∉vs:=fun q=>n (List.mem_append_right _ q)
            have nS:j∉S:=fun q=>nv (hS j q)
            refine .inr ⟨j,fun q=>n (List.mem_append_left _ q),l,?_,?_⟩
            ·rw [(o4.2 j nS).2,JP nv]
             exact e1
            ·rw [(o4.2 j nS).1,D9 nv]
             exact ho
          ·exact .inl (.inr z)
  ·have e1:i=ds.length:=by omega
   subst e1
   rw [List.drop_length] at e
   have et:todo=[]:=by
    have e':(Out.ok []:Out (List Dt))=.ok todo:=e
    injection e' with e'
    exact e'.symm
   subst et
   rw [List.append_nil] at hres
   subst hres
   refine .inl ⟨w.stop H2 sBW,?_⟩
   exact h1 D acc H2 (s1.trans s2) (s1.free hD) hacc racc
where
 frz_ne {lk:List Nat} {ρ:Env} {i:Nat} {l:Lo} (hn:i∉lk) (e:ρ[i]? = some (some l)):(frz lk ρ)[i]? = some (some l):=by
  induction lk generalizing ρ with
  | nil=>exact e
  | cons j lk ih=>
   rw [GX]
   refine ih (fun q=>hn (List.mem_cons_of_mem _ q)) ?_
   unfold FD.Lh
   split
   ·rw [List.getElem?_set_ne fun z=>hn (by rw [z]; exact List.mem_cons_self)]
    exact e
   ·rw [List.getElem?_set_ne fun z=>hn (by rw [z]; exact List.mem_cons_self)]
    exact e
   ·exact e
 wipe_mem {τ:L2.St} {j:Nat} {vs:List Nat} (h:j∈vs) (hl:j < τ.length):(wipe τ vs)[j]? = some none:=by
  induction vs with
  | nil=>cases h
  | cons v vs ih=>
   unfold wipe
   by_cases e:v=j
   ·subst e
    rw [List.getElem?_set_self (by rw [wipe_length]; exact hl)]
   ·rw [List.getElem?_set_ne e]
    rcases List.mem_cons.mp h with z | z
    ·exact absurd z.symm e
    ·exact ih z
 wipe_idem {τ:L2.St} {vs:List Nat}:wipe (wipe τ vs) vs=wipe τ vs:=by
  apply List.ext_getElem?
  intro j
  by_cases hj:j∈vs
  ·by_cases hl:j < τ.length
   ·rw [wipe_mem hj (by rw [wipe_length]; exact hl),wipe_mem hj hl]
   ·rw [List.getElem?_eq_none (by rw [wipe_length,wipe_length]; omega),List.getElem?_eq_none (by rw [wipe_length]; omega)]
  ·rw [D9 hj,D9 hj]
end
end FD
namespace PySem.FX
open PySem PySem.W PySem.Calls PyProof.Rows PySem.Spec
abbrev NG(p0 p1 p2 p3 p4:Pos)(msg:Expr):Stmt:=.Expr (.Call (.Attribute (.Call (.Name "super" p0) [] [] p1) "__init__" p2) [msg] [] p3) p4
abbrev jL(C t:Addr)(dv:Option Addr):Obj:={ cls:=.ref C,dict:=dv,data:=.fields #[.ref t,.none,.none,.none,.bool false,.none] }
structure XTxt (prog:Program) (K:Frag) (mg:Str→Option Value) (C fI cc cda:Addr) (qual:Str) (params:Arguments) (body:List Stmt) (scope:Scope):Prop where
 cls:∃ nm q N bs bm sn sub ab col dd k0 k1 k2 k3 k5,K.lookup C=some (excClassObj nm q C N bs bm true sn sub ab col dd k0 k1 k2 k3 k5 "ValueError.__new__")∧HandSPX.refsVE bm=true
 sa:findIn K (.ref C) "__setattr__" = some (some (.builtin "object.__setattr__"))
 iC:findIn K (.ref C) "__init__" = some (some (.ref fI))
 tI:typeIn K (.ref fI)=some (.type "function")
 kC:keepIn K (.ref C)=true
 exC:subIn K (.ref C) (.type "BaseException")=some true
 exVE:subIn K (.ref C) (.type "ValueError")=some true
 tyC:typeIn K (.ref C)=some (.type "type")
 sub:mroIn K C (.ref C)=some true
 supI:ks_superIn K C C "__init__" = some (some (.builtin "ValueError.__init__"))
 any:nsIn K cStatics "thirdparty.any" = some none
 mgS:mg "super" = none
 cell:∃ cl cld csl,K.lookup cc=some ⟨cl,cld,.cell (some (.ref C)),csl⟩
 code:∃ ccl cdd vs ccs f tf,K.lookup cda=some ⟨ccl,cdd,.fields vs,ccs⟩∧vs[2]? = some (.str f tf)∧((prog.main.file:Str) == f)=true
 top:(prog.main.scope.names.lookup ("super" : Str)).isSome=false
 fn:∃ (oc:Value) (od:Option Addr) (kV doc pm:Value) (an:Option Addr) (ct:Value) (osl:Array (Option Value)),K.lookup fI=some ⟨oc,od,.func (ksFn "__init__" qual params body scope .none kV doc pm an (.ref cda) ct cc),osl⟩∧codeIn K (.ref cda) qual=true
section
variable {prog:Program} {w:World} {A:Around} {E:Value→Shared→Prop} {s:Shared} {K:Frag} {mg:Str→Option Value} {C fI cc cda:Addr} {qual:Str} {params:Arguments} {body:List Stmt} {scope:Scope}
theorem Y4(T:XTxt prog K mg C fI cc cda qual params body scope){base:Heap}(hb:∀ b o,base.get? b=some o→s.heap.get? b=some o)(M:L2.Mod K mg base){L x t0:Addr}{m:Str→Option Value}{dv:Option Addr}{p0 p1 p2 p3 p4:Pos}{msg:Expr}{ar:Arg}{Q:Flow→Shared→Prop}
  (hx:s.heap.get? x=some (jL C t0 dv)) (hdv:∀ d,dv=some d→∃ od,s.heap.get? d=some od) (hn:s.heap.Ns L m) (hself:m "self" = some (.ref x)) (har:(params.posonlyargs ++ params.args).head? = some ar) (hself':ar.arg = "self")
  (hks:scope.names.lookup ("super" : Str)=some .globalImplicit) (hkc:scope.names.lookup ("__class__" : Str)=some .free) (hka:scope.names.lookup ("self" : Str)=some .local) (hk:scope.kind=.function)
  (hmsg:∀ s':Shared,s'.heap.Ns L m→wpAny (model prog w) A (eval msg (ksEnv qual scope L fI (.ref cda) cc)) (fun v s2=>∃ z t tk,v=.str z t∧s2 = { s' with toks:=tk }) E s')
  (hst:starEach [msg] (ksEnv qual scope L fI (.ref cda) cc)=[(false,eval msg (ksEnv qual scope L fI (.ref cda) cc))])
  (hsw:swapsWith (.Call (.Attribute (.Call (.Name "super" p0) [] [] p1) "__init__" p2) [msg] [] p3) none p4.line (ksEnv qual scope L fI (.ref cda) cc)=pure false)
  (hev:∃ pl:Sem Bool,eval (.Call (.Attribute (.Call (.Name "super" p0) [] [] p1) "__init__" p2) [msg] [] p3) (ksEnv qual scope L fI (.ref cda) cc)=(do
   let ov ← attributeBase (.Call (.Name "super" p0) [] [] p1) "__init__" (ksEnv qual scope L fI (.ref cda) cc) (eval (.Call (.Name "super" p0) [] [] p1) (ksEnv qual scope L fI (.ref cda) cc))
   standAt p2.atName
   let (f,first) ← holding [ov] (getMethod ov "__init__" pl)
   callWith p3 f first (backTo p3 (starEach [msg] (ksEnv qual scope L fI (.ref cda) cc))) []))
  (hq:∀ h' tk t1,(∀ b o,b≠x→s.heap.get? b=some o→h'.get? b=some o)→h'.get? x=some (jL C t1 dv)→Q .next { s with heap:=h',toks:=tk }):
  wpAt (model prog w) A (.func body (ksEnv qual scope L fI (.ref cda) cc)) (exec (NG p0 p1 p2 p3 p4 msg) (ksEnv qual scope L fI (.ref cda) cc)) Q E s:=by
 obtain ⟨nm,q,N,bs,bm,sn,sub,ab,col,dd,k0,k1,k2,k3,k5,hC,hbm⟩:=T.cls
 obtain ⟨oc,od,kV,doc,pm,an,ct,osl,lkF,hcd⟩:=T.fn
 obtain ⟨cl,cld,csl,hcell⟩:=T.cell
 obtain ⟨ccl,cdd,vs,ccs,f,tf,hcode,hvs,hfile⟩:=T.code
 have X:K.In s.heap:=M.kin.keeps hb
 obtain ⟨mb,hmb,hbt⟩:=M.blt
 obtain ⟨pl,hev⟩:=hev
 have hcx:clsIn K C=some { name:=nm,bases:=bs,mro:=.ref C :: bm,ns:=N,qualname:=q,hasDict:=true,slotNames:=sn,subclasses:=sub,abstract:=ab,collection:=col,hasDel:=false }:=by unfold clsIn; rw [hC] <;> rfl
 obtain ⟨odx,I⟩:∃ odx,W.InstAt s.heap x (jL C t0 dv) C odx:=by
  cases dv with
  | none=>exact ⟨none,hx,rfl,rfl,trivial⟩
  | some d=>
   obtain ⟨od,hod⟩:=hdv d rfl
   exact ⟨some od,hx,rfl,rfl,hod⟩
 have hI:W.Looks (model prog w) s.heap (isInstance (.ref x) (.type "ValueError")) true:=I.type.andThen (looks_subIn X T.exVE)
 refine ks_wpAt_Expr_any (ks_wpAt_MethodCall (pl:=pl) ?_ hev) (by simp [interactive,hk]) hsw
 refine ks_wpAt_super_base (env:=ksEnv qual scope L fI (.ref cda) cc) hks hkc rfl rfl (X _ _ lkF) rfl har rfl (X _ _ hcode) rfl hvs hfile T.top ?_
 refine ks_loadName_global hk hks (Calls.loadGlobal_builtin (env:=ksEnv qual scope L fI (.ref cda) cc) (M.glob.keeps hb) T.mgS (hmb.keeps hb) ((hbt _ (by decide +kernel)).trans (by first | rfl | kernel_rfl)) ⟨rfl,?_⟩)
 refine wpAny_loadName_free hk hkc rfl ⟨_,X _ _ hcell,rfl⟩ ?_
 rw [hself']
 refine wpAny_loadName_local hk hka hn hself ?_
 refine ks_wpAny_isType_cls (X _ _ hC) rfl ⟨rfl,?_⟩
 obtain ⟨hh,g,d,t,os⟩:=s
 refine ks_wpAny_call_super (X _ _ hC) rfl hx rfl (fun c e=>by cases e) (looks_mroIn X T.sub) (fun h1 e1 kk1=>?_)
 -- the method
 have X1:K.In h1:=X.keeps kk1
 have hI1:W.Looks (model prog w) h1 (isInstance (.ref x) (.type "ValueError")) true:=hI.keeps kk1
 have hsup:=T.supI
 unfold ks_superIn at hsup
 rw [hcx] at hsup
 refine kxs_getMethod kxs_ValueError e1 (looks_opaque X1 T.any) (l₀:=.ref C :: bm) ?_ rfl X1 hsup hI1 (fun z=>?_) rfl ?_
 ·exact fun A Q E s k q=>wpAny_bind ((looks_clsIn X1 hcx) A _ E s k (wpAny_pure q))
 ·subst z
  have:=X _ _ hC
  rw [hx] at this
  cases this
 -- the message,the call
 have hne:∀ (b:Addr) (o:Obj),hh.get? b=some o→((h1.push (kxs_mw "ValueError.__init__" x))).get? b=some o:=fun b o e=>Heap.get?_push_of_some _ (kk1 b o e)
 rw [hst]
 have hn2:(h1.push (kxs_mw "ValueError.__init__" x)).Ns L m:=hn.keeps hne
 have hxu:h1.objs.size≠x:=Nat.ne_of_gt (Heap.lt_size (kk1 _ _ hx))
 refine kxs_callWith (i:="ValueError.__init__") (x:=x) rfl (Calls.evalArgs_plain (Calls.spliced_cons (wpAny_mono (hmsg _ hn2) (fun v s2 hv=>?_) fun _ _ z=>z)))
 obtain ⟨z,tz,tk,rfl,rfl⟩:=hv
 refine Calls.spliced_nil ⟨Heap.get?_push_at rfl rfl,?_⟩
 have hu:(h1.push (kxs_mw "ValueError.__init__" x)).get? h1.objs.size=some (kxs_mw "ValueError.__init__" x):=Heap.get?_push_at rfl rfl
 have hx3:(h1.push (kxs_mw "ValueError.__init__" x)).get? x=some (jL C t0 dv):=hne _ _ hx
 have hC3:(h1.push (kxs_mw "ValueError.__init__" x)).get? C=some (excClassObj nm q C N bs bm true sn sub ab col dd k0 k1 k2 k3 k5 "ValueError.__new__"):=hne _ _ (X _ _ hC)
 show wpAny _ _ (call (.ref h1.objs.size) [Value.str z tz]) _ _ _
 refine wpAny_call (codeAny_of_tree ?_)
 show wpAny _ A.in1 (callAny (.ref h1.objs.size) ⟨[Value.str z tz],[]⟩) _ _ _
 simp only [callAny]
 refine wpAny_bind (wpAny_load hu ?_)
 simp only [kxs_mw,show (Value.type "method-wrapper" == Value.type "method" || Value.type "method-wrapper" == Value.type "builtin_function_or_method" || Value.type "method-wrapper" == Value.type "method-wrapper")=true by decide,if_true]
 refine KFB.if_so (by decide) ?_
 have FB:=F.excBase_ValueError
 refine wpAny_bind (check_bound_init FB.toExcCallFacts hC3 hx3 rfl ?_)
 refine wpAny_bind (wpAny_pure (wpAny_pure ?_))
 refine ⟨plainId_quiet FB.init.plain _,codeAny_builtin FB.initEntry ?_⟩
 refine exc_init_tree (cls:=.ref C) (t0:=t0) (dv:=dv) (c2:=.none) (c3:=.none) (b4:=.bool false) hx3 (by show 1≤sizeLine; rw [sizeLine_eq]; decide) fun h' k' e' _=>?_
 exact hq h' _ _ (fun b o hb e=>k' b o hb (hne b o e)) e'
structure XEnd (h h':Heap) (x C t1:Addr) (dv:Option Addr) (mA:Str→Option Value):Prop where
 keep:∀ b o,b≠x→h.get? b=some o→h'.get? b=some o
 obj:h'.get? x=some (jL C t1 dv)
 dct:∀ dx,dv=some dx→h.objs.size≤dx∧dx≠x∧h'.Ns1 dx mA
def V9(prog:Program)(w:World)(env:PySem.Env)(m:Str→Option Value)(msg:PySem.Expr):Prop:=∀ (A:Around) (E:Value→Shared→Prop) (s':Shared),s'.heap.Ns env.locals m →
 wpAny (model prog w) A (eval msg env) (fun v s2=>∃ z t tk,v=.str z t∧s2 = { s' with toks:=tk }) E s'
structure XForm (env:PySem.Env) (p0 p1 p2 p3 p4:Pos) (msg:PySem.Expr):Prop where
 st:starEach [msg] env=[(false,eval msg env)]
 sw:swapsWith (.Call (.Attribute (.Call (.Name "super" p0) [] [] p1) "__init__" p2) [msg] [] p3) none p4.line env=pure false
 ev:∃ pl:Sem Bool,eval (.Call (.Attribute (.Call (.Name "super" p0) [] [] p1) "__init__" p2) [msg] [] p3) env=(do
   let ov ← attributeBase (.Call (.Name "super" p0) [] [] p1) "__init__" env (eval (.Call (.Name "super" p0) [] [] p1) env)
   standAt p2.atName
   let (f,first) ← holding [ov] (getMethod ov "__init__" pl)
   callWith p3 f first (backTo p3 (starEach [msg] env)) [])
variable {R:Result→Shared→Prop} {base:Heap}
theorem i6{p0 p1 p2 p3 p4:Pos}{msg:PySem.Expr}{ar:Arg}{x t0:Addr}(T:XTxt prog K mg C fI cc cda qual params [NG p0 p1 p2 p3 p4 msg] scope)(hb:∀ b o,base.get? b=some o→s.heap.get? b=some o)(M:L2.Mod K mg base)
  (hx:s.heap.get? x=some (jL C t0 none)) (hlim:s.heap.NoLimit) (hroom:A.depth < recursionLimit) (har:(params.posonlyargs ++ params.args).head? = some ar) (hself':ar.arg = "self")
  (hbind:∀ kV doc pm an ct,BindsTo s (ksFn "__init__" qual params [NG p0 p1 p2 p3 p4 msg] scope .none kV doc pm an (.ref cda) ct cc) ⟨[.ref x],[]⟩ [("self",.ref x)])
  (hcell:∀ y∈scope.names,y.2≠.cell) (hks:scope.names.lookup ("super" : Str)=some .globalImplicit) (hkc:scope.names.lookup ("__class__" : Str)=some .free) (hka:scope.names.lookup ("self" : Str)=some .local) (hk:scope.kind=.function)
  (hco:scope.isCoroutine=false) (hgen:scope.isGenerator=false)
  (hf:∀ L,XForm (ksEnv qual scope L fI (.ref cda) cc) p0 p1 p2 p3 p4 msg) (hmsg:∀ L,V9 prog w (ksEnv qual scope L fI (.ref cda) cc) (fun y=>[(("self" : Str),Value.ref x)].reverse.lookup y) msg)
  (hq:∀ h' tk t1,XEnd s.heap h' x C t1 none (fun _=>none)→R (.ok (.ret .none)) { s with heap:=h',toks:=tk }):
  codeAny (model prog w) A (.call (.ref fI) ⟨[.ref x],[]⟩) R s:=by
 obtain ⟨oc,od,kV,doc,pm,an,ct,osl,lkF,hcd⟩:=T.fn
 have X:K.In s.heap:=M.kin.keeps hb
 refine ks_codeAny_call_defAt (fd:=ksFn "__init__" qual params [NG p0 p1 p2 p3 p4 msg] scope .none kV doc pm an (.ref cda) ct cc) (body:=[NG p0 p1 p2 p3 p4 msg]) (binds:=[("self",.ref x)]) hroom (X _ _ lkF) rfl hlim (codeRec_of X hcd) rfl (hbind _ _ _ _ _) hcell
  (fun y hy=>?_) (fun h₁ hns hk₁=>?_) hco hgen hk
 ·have e:y=(("self" : Str),Value.ref x):=List.mem_singleton.mp hy
  rw [e]
  exact hka
 ·show wpAt _ _ _ (execs [NG p0 p1 p2 p3 p4 msg] (ksEnv qual scope s.heap.objs.size fI (.ref cda) cc)) _ _ _
  have f:=hf s.heap.objs.size
  refine ks_wpAt_execs_cons (Y4 (s:={ s with heap:=h₁,toks:=s.toks + 1 }) T (fun b o e=>hk₁ b o (hb b o e)) M (hk₁ _ _ hx) (fun d e=>by cases e) hns rfl har hself' hks hkc hka hk (fun s' hs'=>hmsg s.heap.objs.size _ _ s' hs') f.st f.sw f.ev fun h' tk t1 k1 e1=>?_)
  refine wpAt_of_wpAny (wpAny_execs_nil ?_)
  exact hq h' tk t1 ⟨fun b o hbx e=>k1 b o hbx (hk₁ b o e),e1,fun dx e=>by cases e⟩
end
end PySem.FX
namespace PySem.FX
open PySem PySem.W PySem.Calls PyProof.Rows PySem.Spec
section
variable {prog:Program} {w:World} {A:Around} {E:Value→Shared→Prop} {s:Shared} {K:Frag} {mg:Str→Option Value} {C fI cc cda:Addr} {qual:Str} {params:Arguments} {body:List Stmt} {scope:Scope}
variable {R:Result→Shared→Prop} {base:Heap}
structure XNew (h h':Heap) (e C:Addr) (dv:Option Addr) (fv:List (Str × Value)):Prop where
 keep:∀ b o,h.get? b=some o→h'.get? b=some o
 new:h.objs.size≤e
 obj:∃ oe vs,h'.get? e=some oe∧oe.cls=.ref C∧oe.dict=dv∧oe.data=.fields vs∧vs[1]? = some .none∧vs[2]? = some .none
 none':dv=none→fv=[]
 dct:∀ d,dv=some d→h.objs.size≤d∧d≠e∧h'.Ns1 d (fun y=>fv.lookup y)
def XMk(prog:Program)(w:World)(K:Frag)(mg:Str→Option Value)(base:Heap)(C:Addr)(fs:List Str)(ok:List L2.V→Prop):Prop:=
 ∀ (A:Around) (R:Result→Shared→Prop) (s:Shared) (vs:List L2.V) (us:List Value),L2.Vals vs us→vs.length=fs.length→ok vs→(∀ b o,base.get? b=some o→s.heap.get? b=some o)→L2.Mod K mg base→s.heap.NoLimit→A.depth + 1 < recursionLimit →
  (∀ h' tk e dv,XNew s.heap h' e C dv (fs.zip us)→(dv=none ↔ fs=[])→R (.ok (.ret (.ref e))) { s with heap:=h',toks:=tk })→codeAny (model prog w) A (.call (.ref C) ⟨us,[]⟩) R s
theorem mk0{p0 p1 p2 p3 p4:Pos}{msg:PySem.Expr}{ar:Arg}(T:XTxt prog K mg C fI cc cda qual params [NG p0 p1 p2 p3 p4 msg] scope)(har:(params.posonlyargs ++ params.args).head? = some ar)(hself':ar.arg = "self")
  (hbind:∀ s x kV doc pm an ct,BindsTo s (ksFn "__init__" qual params [NG p0 p1 p2 p3 p4 msg] scope .none kV doc pm an (.ref cda) ct cc) ⟨[.ref x],[]⟩ [("self",.ref x)])
  (hcell:∀ y∈scope.names,y.2≠.cell) (hks:scope.names.lookup ("super" : Str)=some .globalImplicit) (hkc:scope.names.lookup ("__class__" : Str)=some .free) (hka:scope.names.lookup ("self" : Str)=some .local) (hk:scope.kind=.function)
  (hco:scope.isCoroutine=false) (hgen:scope.isGenerator=false)
  (hf:∀ L,XForm (ksEnv qual scope L fI (.ref cda) cc) p0 p1 p2 p3 p4 msg) (hmsg:∀ L x,V9 prog w (ksEnv qual scope L fI (.ref cda) cc) (fun y=>[(("self" : Str),Value.ref x)].reverse.lookup y) msg):
  XMk prog w K mg base C [] (fun _=>True):=by
 intro A R s vs us hr hl _ hb M hlim hroom hq
 have eu:vs=[]:=List.length_eq_zero_iff.mp hl
 subst eu
 cases hr
 obtain ⟨nm,q,N,bs,bm,sn,sub,ab,col,dd,k0,k1,k2,k3,k5,hC,hbm⟩:=T.cls
 have X:K.In s.heap:=M.kin.keeps hb
 obtain ⟨hp,g,dr,tk,os⟩:=s
 have k:∀ b o,hp.get? b=some o→((hp.push (kdv_tup [])).push (HandSPX.excO C hp.objs.size)).get? b=some o:=fun b o e=>Heap.get?_push_of_some _ (Heap.get?_push_of_some _ e)
 have hget:((hp.push (kdv_tup [])).push (HandSPX.excO C hp.objs.size)).get? (hp.objs.size + 1)=some (HandSPX.excO C hp.objs.size):=by heap_get
 refine HandSPX.call_own F.excBase_ValueError (fun X=>HandSPX.refsVE_contains X bm hbm) (X _ _ hC) (looks_findIn X T.iC) (fun self=>bind_fn X self T.tI) (by show 0≤sizeLine; exact Nat.zero_le _) ?_
 refine i6 (s:=⟨(hp.push (kdv_tup [])).push (HandSPX.excO C hp.objs.size),g,dr,tk,os⟩) T (fun b o e=>k b o (hb b o e)) M hget (hlim.keeps k) ?_ har hself' (fun kV doc pm an ct=>hbind _ _ kV doc pm an ct) hcell hks hkc hka hk hco hgen hf (fun L=>hmsg L _) fun h' tk' t1 xe=>?_
 ·show A.depth + 1 < recursionLimit
  exact hroom
 ·have old:∀ b o,hp.get? b=some o→h'.get? b=some o:=fun b o e=>xe.keep b o (Nat.ne_of_lt (Nat.lt_succ_of_lt (Heap.lt_size e))) (k b o e)
  exact ⟨rfl,hq h' tk' (hp.objs.size + 1) none ⟨old,Nat.le_succ _,⟨_,_,xe.obj,rfl,rfl,rfl,rfl,rfl⟩,fun _=>rfl,fun d e=>by cases e⟩ ⟨fun _=>rfl,fun _=>rfl⟩⟩
end
end PySem.FX
namespace PySem.FX
open PySem PySem.W PySem.Calls PyProof.Rows PySem.Spec
section
variable {prog:Program} {w:World} {env:PySem.Env} {m:Str→Option Value}
theorem Yq{x:Str}{k:Nat}{pos:Pos}:V9 prog w env m (.Constant (.str x) k pos):=fun A E s' hn=>wpAny_Constant_str ⟨x,_,_,rfl,rfl⟩
end
end PySem.FX
namespace L2
open PySem PySem.Spec PyProof.Rows
theorem T5{f:Str}:∀ {fs:List Str} {vs:List V} {us:List Value},Vals vs us→RelO (List.lookup f (fs.zip vs)) (List.lookup f (fs.zip us))
 | [],_,_,_=>trivial
 | _ :: _,_,_,.nil=>trivial
 | g :: fs,_,_,.cons (a:=v) (l₁:=vs) (b:=u) (l₂:=us) r rs=>by
  show RelO (List.lookup f ((g,v) :: fs.zip vs)) (List.lookup f ((g,u) :: fs.zip us))
  rw [List.lookup,List.lookup]
  cases f == g with
  | true=>exact r
  | false=>exact T5 rs
section
variable {X:Cx} {C:Addr} {fs:List Str} {ok:List V→Prop}
def lC(C:Addr)(fs:List Str)(ok:List V→Prop)(ta:TA):St→Hp→XK→Prop:=fun σ H Q=>ta σ H fun vs H1=>vs.length=fs.length∧ok vs∧(fs=[]→Q (.ref C) none H1)∧(fs≠[]→∀ d,H1 d=none→Q (.ref C) (some d) (upd H1 d (.xd (fs.zip vs))))
structure MkC (X:Cx) (x:Str) (C:Addr) (fs:List Str) (ok:List V→Prop):Prop where
 mkc:PySem.FX.XMk X.prog X.w X.K X.mg X.base C fs ok
 gC:X.mg x=some (.ref C)
 kC:PySem.W.keepIn X.K (.ref C)=true
 exC:PySem.W.subIn X.K (.ref C) (.type "BaseException")=some true
 tyC:PySem.W.typeIn X.K (.ref C)=some (.type "type")
theorem iK{x:Str}{k:Nat}(T:MkC X x C fs ok)(hr:Room k X.A){pins:List (Addr × Obj)}{σ:St}{H1:Hp}{s1:Shared}{Q:XK}{vs:List V}{us:List Value}(I1:Inv X pins σ H1 s1)(r1:Vals vs us)(hk:2≤k)
  (hl:vs.length=fs.length) (hok:ok vs) (q0:fs=[]→Q (.ref C) none H1) (q1:fs≠[]→∀ d,H1 d=none→Q (.ref C) (some d) (upd H1 d (.xd (fs.zip vs)))):
  wpAny (model X.prog X.w) X.A (call (.ref C) us) (L2N.MkP X pins σ Q) X.xe s1:=by
 have hlim:=I1.nolimit
 obtain ⟨hp,g,dr,tk,os⟩:=s1
 refine wpAny_call (T.mkc X.A _ ⟨hp,g,dr,tk,os⟩ vs us r1 hl hok (fun b o e=>(I1.bk b o e)) I1.ok.mod hlim (by have:=hr.dp; omega) fun h' tk' e dv M hdv=>?_)
 show L2N.MkP X pins σ Q (.ref e) ⟨h',g,dr,tk',os⟩
 obtain ⟨oe,fv,hoe,hc,hd,hdat,h1,h2⟩:=M.obj
 have hcx:PXN.CtxN oe:=fun vs e=>by
  rw [hdat] at e
  cases e
  exact h2
 cases dv with
 | none=>
  obtain ⟨G',g1,g2⟩:=restrict h' fun b=>decide (b≠e)
  have gk:∀ b,b≠e→G'.get? b=h'.get? b:=fun b hb=>g1 b (decide_eq_true hb)
  have ge:G'.get? e=none:=g2 e (by simp)
  have old:∀ b o,hp.get? b=some o→G'.get? b=some o:=fun b o q=>(gk b (Nat.ne_of_lt (Nat.lt_of_lt_of_le (Heap.lt_size q) M.new))).trans (M.keep b o q)
  have J:Inv X pins σ H1 ⟨G',g,dr,tk',os⟩:=I1.kept old
  refine ⟨e,oe,fv,⟨G',g,dr,tk',os⟩,_,.ref C,none,rfl,J,fun b o q=>?_,ge,hoe,⟨hc,hd,hcx⟩,hdat,h1,?_,rfl,I1.bare,raises_own T.exC T.tyC,q0 (hdv.mp rfl)⟩
  ·by_cases hb:b=e
   ·have q':G'.get? b=some o:=q
    rw [hb,ge] at q'; cases q'
   ·exact (gk b hb).symm.trans q
  ·exact I1.hok.fresh M.new
 | some d=>
  obtain ⟨d1,d2,hns⟩:=M.dct d rfl
  obtain ⟨G',g1,g2⟩:=restrict h' fun b=>decide (b≠e)
  have gk:∀ b,b≠e→G'.get? b=h'.get? b:=fun b hb=>g1 b (decide_eq_true hb)
  have ge:G'.get? e=none:=g2 e (by simp)
  have old:∀ b o,hp.get? b=some o→G'.get? b=some o:=fun b o q=>(gk b (Nat.ne_of_lt (Nat.lt_of_lt_of_le (Heap.lt_size q) M.new))).trans (M.keep b o q)
  have ob:ObjOk X.prog X.w (upd H1 d (.xd (fs.zip vs))) G' d (.xd (fs.zip vs)):=
   ⟨_,hns.at (fun o q=>(gk d d2).trans q),fun f=>T5 r1⟩
  have J:Inv X pins σ (upd H1 d (.xd (fs.zip vs))) ⟨G',g,dr,tk',os⟩:=I1.laid (t':=tk') old d1 ob
  refine ⟨e,oe,fv,⟨G',g,dr,tk',os⟩,_,.ref C,some d,rfl,J,fun b o q=>?_,ge,hoe,⟨hc,hd,hcx⟩,hdat,h1,?_,rfl,I1.bare,raises_own T.exC T.tyC,q1 (fun z=>by cases hdv.mpr z) d (I1.hok.fresh d1)⟩
  ·by_cases hb:b=e
   ·have q':G'.get? b=some o:=q
    rw [hb,ge] at q'; cases q'
   ·exact (gk b hb).symm.trans q
  ·rw [upd_ne (Ne.symm d2)]
   exact I1.hok.fresh M.new
theorem g9{x:Str}{p pos:Pos}{k:Nat}(T:MkC X x C fs ok)(hr:Room k X.A)(hk:2≤k)(hg:Gl X x)(hd:(x == ("__debug__" : Str))=false:=by decide):
  L2N.PMk X (.Call (.Name x p) [] [] pos) (lC C fs ok tNil):=by
 intro pins s σ H Q I h
 refine wpAny_Call_Name_kw (ld_glob I hg T.gC ?_ hd)
 obtain ⟨hl,hok,q0,q1⟩:=h
 exact PySem.W.callWith_K0 I.kIn T.kC (iK (us:=[]) T hr I .nil hk hl hok q0 q1)
end
end L2
namespace L2
open PySem PyProof.Rows PySem.Spec
def jS(K:PySem.W.Frag)(D a:Addr)(d:Option Addr):List V→Hp→VK→Prop:=fun xs H Q=>∃ (c:V) (cv:Value) (b:Bool),xs=[.ref a,c]∧(∀ d',d=some d'→∃ fs,H d'=some (.xd fs))∧(∀ u,RelV c u→u=cv)∧PySem.W.kitOne K (.ref D) cv=some b∧Q (.bl b) H
theorem aT{X:Cx}{a D:Addr}{d:Option Addr}{oe:Obj}{pn:List (Addr × Obj)}(C:ExcC X.K D)(hz:L2N.Zn (.ref D) d oe)(hf:∃ vs,oe.data=.fields vs):CallR (X.suite a ((a,oe) :: pn)) (.builtin "isinstance") (jS X.K D a d):=by
 intro ps s0 st H xs us Q I rr hyp
 obtain ⟨c,cv,b,rfl,hdd,hcv,eb,q⟩:=hyp
 obtain ⟨vs,hv⟩:=hf
 match us,rr with
 | [_,_],.cons rx (.cons rt .nil)=>
  cases rx
  have ec:=hcv _ rt
  subst ec
  have hget:=(I.pin (a,oe) (List.mem_append_left _ List.mem_cons_self)).1
  have J:∃ odd,PySem.W.InstAt s0.heap a oe D odd:=by
   cases d with
   | none=>exact ⟨none,hget,hz.1,by unfold PySem.W.notCls; rw [hv] <;> rfl,by rw [hz.2.1]; trivial⟩
   | some dd=>
    obtain ⟨fs,ea⟩:=hdd dd rfl
    obtain ⟨mA,hns,_⟩:=(I.hok dd _ ea:ObjOk X.prog X.w H s0.heap dd (.xd fs))
    obtain ⟨od,ho,_⟩:=lookIn_ns hns
    exact ⟨some od,hget,hz.1,by unfold PySem.W.notCls; rw [hv] <;> rfl,by rw [hz.2.1]; exact ho⟩
  obtain ⟨odd,J⟩:=J
  have hcl:(PySem.W.clsIn X.K D).isSome=true:=by
   obtain ⟨cd,hc,_⟩:=PySem.W.any_some C.hd
   rw [hc]
   rfl
  exact PySem.W.kia_one (PySem.W.kitx_exc (od:=odd) hcl C.hg C.hk C.hs C.ha C.hn C.ht C.hm) I.kIn J eb (fun z=>nomatch z) fun tk=>⟨.bl b,H,I.kept (t':=tk) fun _ _ z=>z,rfl,q⟩
end L2
namespace FD
open PySem L2 PyProof.Rows PySem.Spec
def Kl(K:PySem.W.Frag)(μ:Mu)(A:Ad)(H:Hp)(Q:VK)(E:XK)(o:Out Dt):Prop:=match o with
 | .ok d=>∀ v H',Same H H'→Rep ⟨K,μ⟩ H' A d v→Q v H'
 | .exc x=>∀ c od H',Same H H'→NS K H' x c od→E c od H'
 | .bad=>False
def Np(K:PySem.W.Frag)(φ:List Dt→Out Dt):Sp:=fun vs H Q E=>∃ (ds:List Dt) (A:Ad) (μ:Mu),Ah ⟨K,μ⟩ H A ds vs∧(∀ a,A a→Mut (H a))∧Kl K μ A H Q E (φ ds)
def CI(n:Nat)(φ:List Dt→Out Dt)(ds:List Dt):Out Dt:=if ds.length=n then φ ds else .bad
def X3(n:Nat)(φ:List Dt→Out Dt)(ds:List Dt):Out Dt:=if n≤ds.length∧ds.length≤16777216 then φ (ds.take n ++ [.tup (ds.drop n)]) else .bad
structure ClR (P:Program) (w:World) (K:PySem.W.Frag) (mg:Str→Option Value) (base:Heap) (x:Str) (k:Nat) (φ:List Dt→Out Dt):Prop where
 ex:∃ (f:Addr),FnR P w K mg base (L2N.CX P w) k f (Np K φ)∧mg x=some (.ref f)∧PySem.W.keepIn K (.ref f)=true
section
variable {P:Program} {w:World} {K:PySem.W.Frag} {mg:Str→Option Value} {base:Heap} {H:Hp} {A:Ad}
theorem Ca{x:Str}{f:Addr}{fd:FuncData}{ps:List Str}{k n:Nat}{φ:List Dt→Out Dt}(F:FnOk P w K mg base (L2N.CX P w) k f fd ps (DH K n φ))(hm:mg x=some (.ref f))(hk:PySem.W.keepIn K (.ref f)=true)(hb:Binds K fd ps []):ClR P w K mg base x k (CI n φ):=by
 refine ⟨f,FnR.imp (F.raw hb .nil) (fun vs H Q E h=>?_),hm,hk⟩
 obtain ⟨ds,A,μ,r,ha,h⟩:=h
 unfold CI at h
 by_cases hl:ds.length=n
 ·rw [if_pos hl] at h
  exact ⟨ds,A,μ,by rw [List.append_nil]; exact r,hl,ha,h⟩
 ·rw [if_neg hl] at h
  exact False.elim h
theorem kF{P:Program}{w:World}:StX.CXUp (L2N.CX P w):=by
 intro outer s H s2 H2 E e s' un kp ho z
 obtain ⟨a,B,H',cl,dd,ea,fl,hk,ub,na,os,ag,he⟩:=z
 have fr:∀ b o,s.heap.get? b=some o→H b=none→H2 b=none:=fun b o q n=>un.free b o q n (by simp)
 have ub':UB (frs outer) H H' s.heap B s'.heap:=by
  constructor
  case keep=>intro b o q n hb; exact ub.keep b o (kp b o q) (fr b o q n) hb
  case slot=>intro b o q; exact ub.slot b o (kp b o q)
  case free=>intro b o q n; exact ub.free b o (kp b o q) (fr b o q n)
  case there=>intro b o q; exact ub.there b o (kp b o q)
  case tups=>intro b xs q; exact ub.tups b xs (un.tups b xs q)
  case frzs=>intro b o xs q; exact ub.frzs b o xs (un.frzs b o xs q)
  case tbls=>
   intro b ps q
   obtain ⟨l1,g1⟩:=un.tbls b ps q
   obtain ⟨l2,g2⟩:=ub.tbls b _ g1
   refine ⟨l1 ++ l2,?_⟩
   rw [g2,Array.append_assoc]
 exact ⟨a,B,H',cl,dd,ea,fl,hk,ub',na,os.trans ho,ag,he⟩
end
section
variable {X:Cx} {W:WX} {e:Expr} {es:List Expr} {fs:Env→Out (List Dt)} {fe:Env→Out Dt} {lk:List Nat} {p pos sps:Pos} {φ:List Dt→Out Dt}
def Al(φ:List Dt→Out Dt)(f:Env→Out (List Dt)):Env→Out Dt:=fun ρ=>(f ρ).bind φ
def VE(sp:Sp)(E:L2.St→XK)(t:TA):TE:=fun σ H Q=>t σ H fun vs H1=>sp vs H1 Q (E σ)
theorem Rl{K:PySem.W.Frag}{ta:TA}(ha:RR K W ta fs lk):Dx K W (VE (Np K φ) (WE W) ta) (Al φ fs) lk:=by
 intro μ H0 A0 ρ σ H Q s h
 refine ha _ _ _ _ _ _ _ s (h.seq fun ds _ h1 vs H1 s1 r1=>?_)
 refine ⟨ds,Av ⟨K,μ⟩ A0 ρ σ lk,μ,r1,fun a z=>(s.grow s1).Dj z,?_⟩
 unfold Kl
 cases eo:φ ds with
 | ok d=>rw [eo] at h1; exact fun v H' s' r=>h1 v H' (s1.trans s') r
 | exc x=>rw [eo] at h1; exact fun c od H' s' r=>h1 c od H' (s1.trans s') r
 | bad=>rw [eo] at h1; exact h1
theorem E3{CX:CXT}{k:Nat}{f:Addr}{sp:Sp}{E:L2.St→XK}{Q:VK}{pins:List (Addr × Obj)}{σ:L2.St}{H:Hp}{s:Shared}{us:List Value}{vs:List V}(F:FnR X.prog X.w X.K X.mg X.base CX k f sp)(hr:Room k X.A)(hx:PassesAt CX X σ (E σ))(I:Inv X pins σ H s)(r:Vals vs us)(h:sp vs H Q (E σ)):
  wpAny (model X.prog X.w) X.A (call (.ref f) us) (EP X pins σ Q) X.xe s:=by
 refine wpAny_call (codeAny_mono (F X.A X.stack s H us vs Q (E σ) hr I.env0 r h) fun r s' hq=>?_)
 cases r with
 | error e=>exact hx pins H s e s' I hq
 | ok fl=>
  cases fl with
  | ret u=>exact I.after hq
  | next=>exact False.elim hq
  | brk=>exact False.elim hq
  | cont=>exact False.elim hq
theorem Aq{x:Str}{k j:Nat}(c:ClR X.prog X.w X.K X.mg X.base x k φ)(tk:L2N.Takes X W)(hr:Room j X.A)(hk:k≤j)(hg:Gl X x)(ha:JL X W (e :: es) fs lk)(hdb:(x == ("__debug__" : Str))=false:=by decide)
  (he:starEach (e :: es) X.env=(false,eval e X.env) :: starEach es X.env:=by rfl) (hpl:(backTo pos (starEach es X.env)).any (·.1)=false:=by rfl):Bc X W (.Call (.Name x p) (e :: es) [] pos) (Al φ fs) lk:=by
 obtain ⟨f,F,hm,kp⟩:=c.ex
 obtain ⟨ta,pa,da⟩:=ha
 refine ⟨_,⟨fun pins s σ H Q I h=>?_⟩,Rl da⟩
 refine wpAny_Call_Name_kw (ld_glob I hg hm ?_ hdb)
 refine PySem.W.callWith_K (h₀:=X.base) I.ok.mod.kin kp (thn (pa.run pos pins s σ H _ I h) fun us s1 ⟨vs,H1,I1,r,q⟩=>⟨I1.kIn,?_⟩) he hpl
 exact E3 F (hr.mono hk) (L2N.passAt tk σ) I1 r q
theorem YL{x:Str}{k j:Nat}(c:ClR X.prog X.w X.K X.mg X.base x k φ)(tk:L2N.Takes X W)(hr:Room j X.A)(hk:k≤j)(hg:Gl X x)(hdb:(x == ("__debug__" : Str))=false:=by decide):Bc X W (.Call (.Name x p) [] [] pos) (Al φ Ag) []:=by
 obtain ⟨f,F,hm,kp⟩:=c.ex
 refine ⟨VE (Np X.K φ) (WE W) tNil,⟨fun pins s σ H Q I h=>?_⟩,Rl MB⟩
 refine wpAny_Call_Name_kw (ld_glob I hg hm ?_ hdb)
 exact PySem.W.callWith_K0 I.kIn kp (E3 (us:=[]) (vs:=[]) F (hr.mono hk) (L2N.passAt tk σ) I .nil h)
end
def JW(C:Addr)(fns:List Str)(g:List Dt→Bool)(f:Env→Out (List Dt)):Env→SOut:=fun ρ=>HU (f ρ) ρ fun ds=>if ds.length=fns.length∧Dt.DK ds=true∧g ds=true then .exc ⟨C,fns.zip ds⟩ ρ else .bad
def OkV(K:PySem.W.Frag)(g:List Dt→Bool)(ok:List V→Prop):Prop:=∀ (μ:Mu) H A ds vs,Ah ⟨K,μ⟩ H A ds vs→g ds=true→ok vs
theorem SD{α:Type}:∀ {fs:List Str} {ds:List α},ds.length=fs.length→(fs.zip ds).map (·.1)=fs
 | [],[],_=>rfl
 | f :: fs,d :: ds,h=>by
  show f :: (fs.zip ds).map (·.1)=f :: fs
  rw [SD (by simpa using h)]
theorem Oq{α:Type}:∀ {fs:List Str} {ds:List α},ds.length=fs.length→(fs.zip ds).map (·.2)=ds
 | [],[],_=>rfl
 | f :: fs,d :: ds,h=>by
  show d :: (fs.zip ds).map (·.2)=d :: ds
  rw [Oq (by simpa using h)]
section
variable {K:PySem.W.Frag} {κ:KM} {μ:Mu} {W:WX} {H0 H H1:Hp} {A0:Ad} {ρ:Env} {σ:L2.St} {lk la lb:List Nat} {α:Type}
theorem YC{C:Addr}{fns:List Str}{g:List Dt→Bool}{ok:List V→Prop}{ta:TA}{f:Env→Out (List Dt)}(hok:OkV K g ok)(ha:RR K W ta f lk):IF K W (fun _ σ H=>lC C fns ok ta σ H fun cls d H'=>W cls d σ H') (JW C fns g f):=by
 intro μ H0 A0 ρ σ H D s h
 refine ha _ _ _ _ _ _ _ s (AY.st s h fun ds _ h1 vs H1 s1 r1=>?_)
 split at h1
 ·rename_i hc
  obtain ⟨hl,hp,hg⟩:=hc
  have lv:vs.length=fns.length:=r1.length.trans hl
  have rN:Ah ⟨K,⟨[],true⟩⟩ H1 Ze ds vs:=Ah.K3 (fun _ z=>False.elim z) _ _ hp r1
  refine ⟨lv,hok _ _ _ _ _ r1 hg,fun e=>?_,fun ne d hd=>?_⟩
  ·subst e
   have e1:ds=[]:=List.length_eq_zero_iff.mp hl
   subst e1
   exact h1 _ σ H1 _ _ (Xt.refl _) (s.grow s1) ⟨rfl,rfl,rfl⟩
  ·refine h1 _ σ _ _ _ (Xt.refl _) (s.grow (s1.trans (Same.new hd))) ⟨rfl,?_,_,upd_same,?_,?_⟩
   ·show Dt.DK ((fns.zip ds).map (·.2))=true
    rw [Oq hl]
    exact hp
   ·show (fns.zip vs).map (·.1)=(fns.zip ds).map (·.1)
    rw [SD lv,SD hl]
   ·show Ah ⟨K,⟨[],true⟩⟩ _ Ze ((fns.zip ds).map (·.2)) ((fns.zip vs).map (·.2))
    rw [Oq lv,Oq hl]
    exact rN.same (Same.new hd)
 ·exact False.elim h1
end
section
variable {X:Cx} {W:WX} {e:Expr} {es:List Expr} {fs:Env→Out (List Dt)} {lk:List Nat} {p pos pos2:Pos} {C:Addr} {fns:List Str} {g:List Dt→Bool} {ok:List V→Prop}
theorem OQ{x:Str}{k:Nat}(hc:X.calm=true)(T:MkC X x C fns ok)(hok:OkV X.K g ok)(tk:L2N.Takes X W)(hr:Room k X.A)(hk:2≤k)(hg:Gl X x)(hd:(x == ("__debug__" : Str))=false:=by decide):MQ X W (.Raise (some (.Call (.Name x p) [] [] pos)) none pos2) (JW C fns g Ag):=
 ⟨_,L2N.ps_raise hc tk (g9 T hr hk hg hd),YC hok MB⟩
end
def cS(K:PySem.W.Frag)(W:WX)(g:Env→SOut):TS:=fun D σ H=>∃ (μ:Mu) (H0:Hp) (A0:Ad) (ρ:Env),StOk ⟨K,μ⟩ H0 A0 H ρ σ∧AY K W μ H0 A0 (g ρ) D
theorem Hn.Lu{X:Cx}{W:WX}{ss:List Stmt}{g:Env→SOut}(h:Hn X W ss g):PSs X ss (cS X.K W g):=by
 obtain ⟨ts,hp,hd⟩:=h
 exact ⟨fun pins s σ H D I ⟨μ,H0,A0,ρ,so,po⟩=>hp.run pins s σ H D I (hd μ H0 A0 ρ σ H D so po)⟩
open Classical in
noncomputable def II(x:Exn)(run:Addr→Option Addr→SOut):SOut:=if ∃ r,∀ a d,(d=none→x.fs=[])→run a d=r then run 0 (if x.fs=[] then none else some 0) else .bad
theorem YT{x:Exn}{run:Addr→Option Addr→SOut}{r:SOut}(h:∀ a d,(d=none→x.fs=[])→run a d=r):II x run=r:=by
 unfold II
 rw [if_pos ⟨r,h⟩]
 refine h _ _ fun e=>?_
 split at e
 ·assumption
 ·cases e
theorem Xv{x:Exn}{run:Addr→Option Addr→SOut}{r:SOut}(h:∀ a d,run a d=r):II x run=r:=YT fun a d _=>h a d
theorem XG{x:Exn}{run:Addr→Option Addr→SOut}(hb:II x run≠.bad)(a:Addr)(d:Option Addr)(hd:d=none→x.fs=[]):run a d=II x run:=by
 unfold II at hb ⊢
 split
 ·rename_i h
  obtain ⟨r,h⟩:=h
  rw [h a d hd,h]
  intro e
  split at e
  ·assumption
  ·cases e
 ·rename_i h
  rw [if_neg h] at hb
  exact absurd rfl hb
def unset(i:Nat):SOut→SOut
 | .ok f ρ=>.ok f (ρ.set i none)
 | _=>.bad
@[simp] theorem J6(i:Nat)(d:Dt)(ρ:Env):unset i (.ok (.rt d) ρ)=.ok (.rt d) (ρ.set i none):=rfl
def Wl(x:Exn)(a:Addr)(d:Option Addr):Dt:=.exn a d x.cls (x.fs.map (·.1)) (x.fs.map (·.2))
section
variable {K:PySem.W.Frag} {κ:KM} {μ:Mu} {W:WX} {H0 H H1:Hp} {A0:Ad} {ρ:Env} {σ:L2.St} {lk la lb:List Nat}
theorem df{i j:Nat}{l:Lo}{a:Addr}(e:(ρ.set i none)[j]? = some (some l))(ho:CS κ l (σ.set i none)[j]? a):Bj κ ρ σ j a:=by
 by_cases h:i=j
 ·subst h
  by_cases hl:i < ρ.length
  ·rw [List.getElem?_set_self hl] at e; cases e
  ·rw [List.getElem?_eq_none (by rw [List.length_set]; omega)] at e; cases e
 ·rw [List.getElem?_set_ne h] at e ho
  exact ⟨l,e,ho⟩
theorem cj{x:Exn}{a:Addr}{d:Option Addr}{A:Ad}(hA:∀ a,A a→Mut (H a))(h:NS K H x (.ref x.cls) d):Rep ⟨K,μ⟩ H A (Wl x a d) (.ref a):=by
 obtain ⟨_,hp,h⟩:=h
 unfold Wl Rep
 cases d with
 | none=>
  have e:x.fs=[]:=h
  refine ⟨[],rfl,.inl ⟨rfl,rfl⟩,by rw [e]; rfl,?_⟩
  rw [e]
  exact Ah.nil
 | some d=>
  obtain ⟨fs,h1,h2,h3⟩:=h
  refine ⟨fs,rfl,.inr ⟨d,rfl,fun z=>?_,h1⟩,h2,Ah.K3 hA _ _ hp h3⟩
  have q:=hA d z
  rw [h1] at q
  exact q
end
section
variable {X:Cx} {W:WX} {x n:Str} {c:Value} {i:Nat} {body suite:List Stmt} {b₀:Stmt} {np pos pos':Pos} {g:Env→SOut}
end
theorem takes0{X:Cx}:L2N.Takes X W0:=fun _ _ ⟨_,_,_,_,_,_,_,_,_,_,_,_,_,_,_,_,w⟩=>False.elim w
def Fm(K:PySem.W.Frag)(D a:Addr)(od:Option Addr):List Dt→Option Dt
 | [.exn b d C _ _,c]=>if b=a∧d=od∧C=D then (match c with
  | .cls C'=>(PySem.W.kitOne K (.ref D) (.ref C')).map fun b=>.bl b
  | .ty n=>(PySem.W.kitOne K (.ref D) (.type n)).map fun b=>.bl b
  | _=>none) else none
 | _=>none
section
variable {K:PySem.W.Frag} {κ:KM} {μ:Mu} {W:WX} {H0 H H1:Hp} {A0 A:Ad} {ρ:Env} {σ:L2.St} {lk la lb:List Nat}
theorem fA{D a:Addr}{od:Option Addr}:Vc K (jS K D a od) (Fm K D a od):=by
 intro μ H A ds d vs Q ha r e q
 unfold Fm at e
 split at e
 ·rename_i b d' C ns fs c
  split at e
  case isFalse=>cases e
  rename_i hc
  obtain ⟨rfl,rfl,rfl⟩:=hc
  obtain ⟨v,u,rfl,r1,r2⟩:=Ri r
  unfold Rep at r1
  obtain ⟨xs,rfl,h1,_⟩:=r1
  have hdd:∀ d1,d'=some d1→∃ fs,H d1=some (.xd fs):=fun d1 e1=>by
   rcases h1 with ⟨e2,_⟩ | ⟨d2,e2,_,h2⟩
   ·rw [e1] at e2; cases e2
   ·rw [e1] at e2
    cases e2
    exact ⟨_,h2⟩
  split at e
  ·rename_i C'
   have e2:u=.ref C':=r2
   subst e2
   cases hk:PySem.W.kitOne K (.ref C) (.ref C') with
   | none=>rw [hk] at e; cases e
   | some k=>
    rw [hk] at e
    cases e
    exact ⟨.ref C',.ref C',k,rfl,hdd,fun _ z=>z,hk,RE.now q rfl⟩
  ·rename_i n
   have e2:u=.ty n:=r2
   subst e2
   cases hk:PySem.W.kitOne K (.ref C) (.type n) with
   | none=>rw [hk] at e; cases e
   | some k=>
    rw [hk] at e
    cases e
    exact ⟨.ty n,.type n,k,rfl,hdd,fun _ z=>z,hk,RE.now q rfl⟩
  ·cases e
 ·cases e
theorem Y3{D a:Addr}{od:Option Addr}:∀ ds d,Fm K D a od ds=some d→d.scal=true:=fun ds d e=>by
 unfold Fm at e
 split at e
 ·split at e
  case isFalse=>cases e
  split at e
  ·rename_i C'
   cases hk:PySem.W.kitOne K (.ref D) (.ref C') with
   | none=>rw [hk] at e; cases e
   | some k=>rw [hk] at e; cases e; rfl
  ·rename_i n
   cases hk:PySem.W.kitOne K (.ref D) (.type n) with
   | none=>rw [hk] at e; cases e
   | some k=>rw [hk] at e; cases e; rfl
  ·cases e
 ·cases e
theorem OL{f:Str}{d:Dt}:∀ {fs:List (Str × V)} {ds:List Dt},Ah κ H A ds (fs.map (·.2))→((fs.map (·.1)).zip ds).lookup f=some d→∃ v,fs.lookup f=some v∧Rep κ H A d v
 | [],ds,r,e=>by cases e
 | (g,v) :: fs,[],r,e=>by cases e
 | (g,v) :: fs,d' :: ds,r,e=>by
  unfold Ah at r
  obtain ⟨v',r',e1,r1,r2⟩:=r
  cases e1
  have e2:List.lookup f ((g,d') :: (fs.map (·.1)).zip ds)=some d:=e
  rw [List.lookup] at e2 ⊢
  cases hb:f == g with
  | true=>
   rw [hb] at e2
   cases e2
   exact ⟨_,rfl,r1⟩
  | false=>
   rw [hb] at e2
   exact OL r2 e2
end
section
variable {X:Cx} {W:WX} {e e2:Expr} {fs:Env→Out (List Dt)} {fe:Env→Out Dt} {lk:List Nat} {pos p:Pos} {a D:Addr} {oe:Obj} {d:Option Addr} {pn:List (Addr × Obj)}
theorem Nl(hz:L2N.Zn (.ref D) d oe)(hf:∃ vs,oe.data=.fields vs)(C:ExcC X.K D)(hg:Gl X "isinstance")(hm:X.mg "isinstance" = none)(ha:JL (X.suite a ((a,oe) :: pn)) W [e,e2] fs lk)(he:starEach [e,e2] X.env=(false,eval e X.env) :: starEach [e2] X.env:=by rfl)(hpl:(backTo pos (starEach [e2] X.env)).any (·.1)=false:=by rfl):
  Bc (X.suite a ((a,oe) :: pn)) W (.Call (.Name "isinstance" p) [e,e2] [] pos) (eB (Fm X.K D a d) fs) []:=by
 obtain ⟨ta,pa,da⟩:=ha
 exact ⟨_,pe_callB (X:=X.suite a ((a,oe) :: pn)) (aT C hz hf) hg hm PyProof.Rows.boot_isinstance pa (by decide) (by decide) he hpl,Gh fA Y3 da⟩
end
end FD
namespace FD
open PySem L2 PyProof.Rows PySem.Spec
def cE(K:PySem.W.Frag)(W:WX)(f:Env→Out Dt)(lk:List Nat):TE:=fun σ H Q=>∃ (μ:Mu) (H0:Hp) (A0:Ad) (ρ:Env),StOk ⟨K,μ⟩ H0 A0 H ρ σ∧DA K W H σ (f ρ) (RE ⟨K,μ⟩ (Av ⟨K,μ⟩ A0 ρ σ lk) H Q)
def cT(K:PySem.W.Frag)(W:WX)(f:Env→Out Bool):TT:=fun σ H Q=>∃ (μ:Mu) (H0:Hp) (A0:Ad) (ρ:Env),StOk ⟨K,μ⟩ H0 A0 H ρ σ∧DA K W H σ (f ρ) (RT H Q)
def cG(K:PySem.W.Frag)(u:Dt→Env→Option Env)(S:List Nat):TG:=fun v σ H Q=>∃ (μ:Mu) (H0:Hp) (A0:Ad) (ρ ρ':Env) (d:Dt),StOk ⟨K,μ⟩ H0 A0 H ρ σ∧Rep ⟨K,μ⟩ H (Av ⟨K,μ⟩ A0 ρ σ []) d v∧u d ρ=some ρ'∧(∀ σ',StOk ⟨K,μ⟩ H0 A0 H ρ' σ'→(∀ a,Av ⟨K,μ⟩ A0 ρ' σ' [] a→Av ⟨K,μ⟩ A0 ρ σ [] a)→dm S ρ ρ' σ σ'→Q σ' H)
def Q8(X:Cx)(W:WX)(es:List Expr)(f:Env→Out Bool)(lk:List Nat):Prop:=∃ tt,PTs X es tt∧Ry X.K W tt f lk
section
variable {X:Cx} {W:WX} {e:Expr} {es:List Expr} {f:Env→Out Dt} {t:Env→Out Bool} {u:Dt→Env→Option Env} {S lk lt le:List Nat}
theorem Bc.Lu(h:Bc X W e f lk):PE X e (cE X.K W f lk):=by
 obtain ⟨te,pe,de⟩:=h
 exact ⟨fun pins s σ H Q I ⟨μ,H0,A0,ρ,so,po⟩=>pe.run pins s σ H Q I (de μ H0 A0 ρ σ H Q so po)⟩
theorem Q8.Lu(h:Q8 X W es t lk):PTs X es (cT X.K W t):=by
 obtain ⟨te,pe,de⟩:=h
 exact ⟨fun pins s σ H Q I ⟨μ,H0,A0,ρ,so,po⟩=>pe.run pins s σ H Q I (de μ H0 A0 ρ σ H Q so po)⟩
theorem Xd.Lu(h:Xd X e u S):PG X e (cG X.K u S):=by
 obtain ⟨g,pg,dg⟩:=h
 refine ⟨fun pins s σ H v u' Q I r ⟨μ,H0,A0,ρ,ρ',d,so,rr,eu,q⟩=>?_⟩
 exact pg.run pins s σ H v u' Q I r (dg μ H0 A0 ρ ρ' σ H d v Q so rr eu q)
def AK:Env→Out Bool:=fun _=>.ok true
theorem DG:Q8 X W [] AK []:=⟨_,pts_nil,fun μ H0 A0 ρ σ H Q s h=>h H (Same.refl H)⟩
theorem Z0(h:Vb X W e t lk):Q8 X W [e] t lk:=by
 obtain ⟨te,pe,de⟩:=h
 exact ⟨_,pts_one pe,de⟩
theorem Ig{elt tg iter:Expr}{ifs:List Expr}{scope:Scope}{pos:Pos}{src:Env→Out (List Dt)}(own:List (Str × Nat))(hc:X.calm=true)(hN:X.N.Nodup)(hi:iz X W tg iter src lk)
  (hg:∀ (s:Shared) (H:Hp) (C:Addr) (cl:List (Str × Addr)) (fp:List Addr),Xd (X.blk s H scope (compEnvC scope cl C X.env) fp) tg u S)
  (ht:∀ (s:Shared) (H:Hp) (C:Addr) (cl:List (Str × Addr)) (fp:List Addr),Q8 (X.blk s H scope (compEnvC scope cl C X.env) fp) W0 ifs t lt)
  (he:∀ (s:Shared) (H:Hp) (C:Addr) (cl:List (Str × Addr)) (fp:List Addr),Bc (X.blk s H scope (compEnvC scope cl C X.env) fp) W0 elt f le)
  (ok:BlkOk X.N X.env.scope scope own:=by exact blkOk_by (by decide +kernel)) (hS:∀ i∈S,i∈own.map (·.2):=by decide) (hs:∀ x,foldedSetIterable iter X.env x=pure x:=by intro _; rfl):
  Za X W (.ListComp elt [⟨tg,iter,ifs,0⟩] scope pos) (Fi u (own.map (·.2)) t f src lk) (lk ++ (le ++ own.map (·.2))):=by
 obtain ⟨wi,pi,di⟩:=hi
 refine ⟨_,pe_lc (g:=cG X.K u S) (tt:=cT X.K W0 t) (te:=cE X.K W0 f le) hc hN pi ok (fun s H C cl fp=>(hg s H C cl fp).Lu) (fun s H C cl fp=>(ht s H C cl fp).Lu) (fun s H C cl fp=>(he s H C cl fp).Lu) hs,?_⟩
 exact Jb di (fun μ H0 A0 ρ ρ' σ H d v Q s r e q=>⟨μ,H0,A0,ρ,ρ',d,s,r,e,q⟩) hS (lt:=lt) (fun μ H0 A0 ρ σ H Q s h=>⟨μ,H0,A0,ρ,s,h⟩) (fun μ H0 A0 ρ σ H Q s h=>⟨μ,H0,A0,ρ,s,h⟩)
theorem SV{elt tg iter:Expr}{ifs:List Expr}{scope:Scope}{pos py spos:Pos}{src:Env→Out (List Dt)}{y:Str}(i:Nat)(own:List (Str × Nat))(hc:X.calm=true)(hN:X.N.Nodup)(hi:iz X W tg iter src lk)
  (hg:∀ (s:Shared) (H:Hp) (C:Addr) (cl:List (Str × Addr)) (fp:List Addr),Xd (X.blk s H scope (compEnvC scope cl C X.env) fp) tg u S)
  (ht:∀ (s:Shared) (H:Hp) (C:Addr) (cl:List (Str × Addr)) (fp:List Addr),Q8 (X.blk s H scope (compEnvC scope cl C X.env) fp) W0 ifs t lt)
  (he:∀ (s:Shared) (H:Hp) (C:Addr) (cl:List (Str × Addr)) (fp:List Addr),Bc (X.blk s H scope (compEnvC scope cl C X.env) fp) W0 elt f le)
  (hy:X.N[i]? = some y:=by rfl) (hyl:X.env.scope.names.lookup y=some .local:=by rfl) (hsw:swapsWith (.ListComp elt [⟨tg,iter,ifs,0⟩] scope pos) (some (.Name y py)) spos.line X.env=pure true:=by exact sw_true rfl rfl rfl rfl)
  (ok:BlkOk X.N X.env.scope scope own:=by exact blkOk_by (by decide +kernel)) (hS:∀ i∈S,i∈own.map (·.2):=by decide) (hs:∀ x,foldedSetIterable iter X.env x=pure x:=by intro _; rfl):
  MQ X W (.Assign [.Name y py] (.ListComp elt [⟨tg,iter,ifs,0⟩] scope pos) spos) (Hz i (Fi u (own.map (·.2)) t f src lk) (lk ++ (le ++ own.map (·.2)))):=by
 obtain ⟨wi,pi,di⟩:=hi
 refine ⟨_,ps_setLc (g:=cG X.K u S) (tt:=cT X.K W0 t) (te:=cE X.K W0 f le) hc hN hy hyl hsw pi ok (fun s H C cl fp=>(hg s H C cl fp).Lu) (fun s H C cl fp=>(ht s H C cl fp).Lu) (fun s H C cl fp=>(he s H C cl fp).Lu) hs,?_⟩
 exact Tv (Jb di (fun μ H0 A0 ρ ρ' σ H d v Q s r e q=>⟨μ,H0,A0,ρ,ρ',d,s,r,e,q⟩) hS (lt:=lt) (fun μ H0 A0 ρ σ H Q s h=>⟨μ,H0,A0,ρ,s,h⟩) (fun μ H0 A0 ρ σ H Q s h=>⟨μ,H0,A0,ρ,s,h⟩))
end
end FD
namespace FD
open PySem L2 PyProof.Rows PySem.Spec
theorem ZM:bootBuiltins "int" = some (.type "int"):=by first | rfl | kernel_rfl
theorem eQ:bootBuiltins "bool" = some (.type "bool"):=by first | rfl | kernel_rfl
theorem au:bootBuiltins "str" = some (.type "str"):=by first | rfl | kernel_rfl
theorem Mj:bootBuiltins "tuple" = some (.type "tuple"):=by first | rfl | kernel_rfl
theorem d9:bootBuiltins "dict" = some (.type "dict"):=by first | rfl | kernel_rfl
theorem QH:bootBuiltins "ValueError" = some (.type "ValueError"):=by first | rfl | kernel_rfl
open PySem.W in
theorem M9{K:PySem.W.Frag}{t:Value}{C:Addr}{b:Bool}(hne:(t == Value.ref C)=false)(h1:isClsIn K C=true)(h2:typeIn K (.ref C)=some (.type "type"))(h3:subIn K t (.ref C)=some b):kitOne K t (.ref C)=some b:=by
 unfold kitOne kitCls
 rw [hne,if_neg Bool.false_ne_true]
 have h1':(clsIn K C).isSome=true:=h1
 show (if ((clsIn K C).isSome && typeIn K (.ref C) == some (.type "type"))=true then subIn K t (.ref C) else none)=some b
 rw [h1',h2]
 exact h3
open PySem.W in
theorem Tw{K:PySem.W.Frag}{t:Value}:kitOne K t t=some true:=by
 unfold kitOne
 rw [if_pos (beq_self_eq_true t)]
open PySem.W in
theorem dA{K:PySem.W.Frag}{C:Addr}{T:String}{b:Bool}(h1:kitMeta T=true)(h3:subIn K (.ref C) (.type T)=some b):kitOne K (.ref C) (.type T)=some b:=by
 have hne:(Value.ref C == Value.type T)=false:=rfl
 unfold kitOne kitCls
 rw [hne,if_neg Bool.false_ne_true]
 show (if kitMeta T=true then _ else _)=_
 rw [if_pos h1]
 exact h3
open PySem.W in
theorem Zt{K:PySem.W.Frag}{t:Value}{C:Addr}{b:Bool}(h0:subIn K (.ref C) (.type "BaseException")=some true)(h1:isClsIn K C=true)(h2:typeIn K (.ref C)=some (.type "type"))(h3:subIn K t (.ref C)=some b):exmOne K t (.ref C)=some b:=by
 unfold exmOne
 have e0:(subIn K (.ref C) (.type "BaseException") == some true)=true:=by rw [h0]; rfl
 rw [if_pos e0]
 unfold kitCls
 have h1':(clsIn K C).isSome=true:=h1
 show (if ((clsIn K C).isSome && typeIn K (.ref C) == some (.type "type"))=true then subIn K t (.ref C) else none)=some b
 rw [h1',h2]
 exact h3
theorem SN{k:Nat}{A:Around}(r:Room k A):A.units + 64 < cLine:=by have:=r.un; omega
section
variable {P:Program} {w:World} {K:PySem.W.Frag} {mg:Str→Option Value} {base:Heap}
theorem AF{x qual:Str}{params:Arguments}{body:List Stmt}{scope:Scope}{dvs:List V}{kws:List (Str × V)}{f:Addr}{fd:FuncData}{N ps:List Str}{k:Nat}{g:Env→SOut}(F:FunD K x qual params body scope dvs kws f fd)(S:FnScope N ps scope)
  (hb:∀ (cdv:Value) (A:Around) (outer:List PySem.Env) (s:Shared) (H:Hp) (E:XK),Room k (A.deeper (envOfC qual scope s.heap.objs.size f cdv)) →
   Hn (cxOf (L2N.CX P w) P w K mg base N qual scope f cdv A outer s H E) (fun c d _ H'=>E c d H') body g):
  FnOk P w K mg base (L2N.CX P w) (k + 1) f fd ps (DH K ps.length (Ax N.length g)):=by
 refine F.ok S (fun vs H Q E h=>?_) (fun cdv A outer s H vs Q E hr h=>?_)
 ·obtain ⟨ds,A,μ,r,hl,_⟩:=h
  rw [r.length,hl]
 ·obtain ⟨ds,A',μ,r,hl,ha,h⟩:=h
  obtain ⟨ts,hp,hd⟩:=hb cdv A outer s H E hr
  exact ⟨ts,hp,UN hd r ha h _ (fun _ _ q=>q) (fun _ _ q=>q)⟩
theorem Az{x qual:Str}{params:Arguments}{body:List Stmt}{scope:Scope}{f:Addr}{fd:FuncData}{ps:List Str}(F:FunD K x qual params body scope [] [] f fd)
  (h:∀ (kV doc pm:Value) (an:Option Addr) (cdv ct:Value) (us:List Value),us.length=ps.length→bindArgs (PySem.W.fnOf x qual params body scope .none kV doc pm an cdv ct) ⟨us,[]⟩=pure (ps.zip us)):Binds K fd ps []:=by
 obtain ⟨oc,od,dV,kV,doc,pm,an,cdv,ct,osl,rfl,lk,hcd,hD,_⟩:=F.ex
 rcases hD with ⟨_,rfl⟩ | ⟨z,_⟩
 ·exact .all (h kV doc pm an cdv ct)
 ·exact absurd rfl z
theorem ints_rep{K:KM}{H:Hp}{A:Ad}:∀ ns:List Int,Ah K H A (ns.map .int) (ns.map V.int)
 | []=>Ah.nil
 | _ :: ns=>Ah.cons rfl (ints_rep ns)
def Rv(K:PySem.W.Frag):Sp:=fun vs H Q _=>∃ (a:Addr) (ns:List Int),vs=[.ref a]∧ns.length≤63∧(∀ z∈ns,Builtin.Int.intBits z≤1048576)∧Only H∧SqL K H a (ns.map V.int)∧∀ H',Q (.bl true) H'
theorem dw{k:Nat}{f:Addr}{fd:FuncData}{ps:List Str}{φ:List Dt→Out Dt}(F:FnOk P w K mg base (L2N.CX P w) k f fd ps (DH K 1 φ))(h:∀ ns:List Int,ns.length≤63→(∀ z∈ns,Builtin.Int.intBits z≤1048576)→φ [.fls (ns.map .int)]=.ok (.bl true)):
  FnOk P w K mg base (L2N.CX P w) k f fd ps (Rv K):=by
 refine F.imp fun vs H Q E hq=>?_
 obtain ⟨a,ns,rfl,hl,hb,hO,hS,q⟩:=hq
 refine ⟨[.fls (ns.map .int)],Ze,⟨[],true⟩,Ah.cons ?_ Ah.nil,rfl,fun _ z=>False.elim z,?_⟩
 ·unfold Rep
  refine ⟨a,ns.map V.int,rfl,?_,ints_rep ns⟩
  rcases hS with (hS | ⟨o,hS⟩) | hS
  ·rcases hO a with e | ⟨o,xs,e⟩
   ·rw [e] at hS; cases hS
   ·rw [e] at hS; cases hS
  ·exact .inl ⟨fun z=>z,o,hS⟩
  ·exact .inr hS
 ·rw [h ns hl hb]
  intro v H' _ r
  have e:v=.bl true:=r
  subst e
  exact q H'
theorem cY{H:Hp}{s:Shared}{e:Value}{s':Shared}:L2N.CX P w [] H s (fun _ _ _=>False) e s'→False:=by
 rintro ⟨a,B,H',cls,d,ea,fl,hok,ub,na,os,ag,he⟩
 exact he
theorem ZQ{l:PySem.W.OpenLaw}{k:Nat}{q:Program}{loose:List Str}{XP:(Str→Option Value)→Heap→Prop}{YP:World→Heap→Prop}{d:DefRec}{K:Params→PySem.W.Frag}{x:Str}(hn:l.most=some 63)(hdf:d.params.defaults=[])(hr:Room k callerA)
  (hY:∀ (w:World) (h:Heap),YP w h→(K w.params).In h)
  (F:∀ (w:World) (mg:Str→Option Value) (fa:Addr) (h:Heap),(K w.params).In h→h.Ns mainGlobals mg→mg d.name=some (.ref fa) →
   ∃ fd:FuncData,(∀ (s:Shared) (u:Value),BindsTo s fd ⟨[u],[]⟩ [(x,u)])∧∀ base:Heap,(K w.params).In base→base.Ns mainGlobals mg→FnOk l.prog w (K w.params) mg base (L2N.CX l.prog w) k fa fd [x] (Rv (K w.params))):
  PySem.W.WalkO q loose XP YP l.row.toRowW d [] (fun f vs=>PySem.call f vs):=
 L2.walk_ofB (n:=63) (k:=k) (x:=x) (CX:=fun w=>L2N.CX l.prog w) (sp:=fun w=>Rv (K w.params)) hn (by decide) hdf hr hY F (fun _ _ a ns hl hb hO hS=>⟨a,ns,rfl,hl,hb,hO,hS,fun _=>rfl⟩) fun _ _ _ _ _ z=>cY z
end
end FD
namespace FD
open PySem L2
section
variable {f g:Env→SOut} {ρ:Env} {i:Nat} {lk:List Nat} {e fa fb fc:Env→Out Dt} {fl:Env→Out (List Dt)} {c ft fu:Env→Out Bool} {u:Dt→Env→Option Env}
theorem Jk:Am f g ρ=(f ρ).andThen g:=rfl
theorem Jv:Ar ρ=.ok .nx ρ:=rfl
theorem Qw:CF c f g ρ=HU (c ρ) ρ fun b=>if b=true then f ρ else g ρ:=rfl
theorem Mq:A8 i e lk ρ=HU (e ρ) ρ fun d=>.ok .nx ((AL d lk ρ).set i (some (.sh d))):=rfl
theorem Ju:Hz i fl lk ρ=HU (fl ρ) ρ fun ds=>.ok .nx ((US ds lk ρ).set i (some (.ol ds))):=rfl
theorem JM:Ir e ρ=HU (e ρ) ρ fun _=>.ok .nx ρ:=rfl
theorem Kz:AA e lk ρ=HU (e ρ) ρ fun d=>.ok (.rt d) (AL d lk ρ):=rfl
theorem Ci:A1 u fl lk g ρ=HU (fl ρ) ρ fun ds=>BA u g ds (frz lk ρ):=rfl
theorem Ky{C:Addr}{fns:List Str}{gg:List Dt→Bool}:JW C fns gg fl ρ=HU (fl ρ) ρ fun ds=>if ds.length=fns.length∧Dt.DK ds=true∧gg ds=true then .exc ⟨C,fns.zip ds⟩ ρ else .bad:=rfl
theorem G6:D6 i e lk ρ=match ρ[i]? with
 | some (some (.ol _))=>HU (e ρ) ρ fun d=>(match (AL d lk ρ)[i]? with
  | some (some (.ol ds))=>if ds.length < 16777216 then .ok .nx ((AL d lk ρ).set i (some (.ol (ds ++ [d])))) else .bad
  | _=>.bad)
 | _=>.bad:=rfl
theorem Uc{d:Dt}:eC d ρ=.ok d:=rfl
theorem OA{d:Dt}:Aa 0 (some (.sh d) :: ρ)=.ok d:=rfl
theorem Mm{d:List Dt}:Aa 0 (some (.ol d) :: ρ)=.ok (.lst d):=rfl
theorem Mv{k:List Key}{d:List Dt}:Aa 0 (some (.od k d) :: ρ)=.ok (.dic k d):=rfl
theorem Qn{l:Option Lo}:Aa (i + 1) (l :: ρ)=Aa i ρ:=rfl
theorem UL{gg:Dt→Option Dt}:e1 fa gg ρ=(fa ρ).bind fun a=>FU (gg a):=rfl
theorem U9{gg:Dt→Dt→Option Dt}:e2 fa fb gg ρ=(fa ρ).bind fun a=>(fb ρ).bind fun b=>FU (gg a b):=rfl
theorem NM{gg:Dt→Option Bool}:t1 fa gg ρ=(fa ρ).bind fun a=>FU (gg a):=rfl
theorem Uv{gg:Dt→Dt→Option Bool}:t2 fa fb gg ρ=(fa ρ).bind fun a=>(fb ρ).bind fun b=>FU (gg a b):=rfl
theorem TV:eT ft ρ=(ft ρ).bind fun b=>.ok (.bl b):=rfl
theorem Lz:Im ft fu ρ=(ft ρ).bind fun b=>if b=true then fu ρ else .ok false:=rfl
theorem Qx:CD ft fu ρ=(ft ρ).bind fun b=>if b=true then .ok true else fu ρ:=rfl
theorem LA:A6 ft ρ=(ft ρ).bind fun b=>.ok (!b):=rfl
theorem Mh:Ag ρ=.ok []:=rfl
theorem G5:Ab fa fl ρ=(fa ρ).bind fun d=>(fl ρ).bind fun ds=>.ok (d :: ds):=rfl
theorem LW:GK fl ρ=(fl ρ).bind fun ds=>if ds.length≤16777216 then .ok (.tup ds) else .bad:=rfl
theorem Ms:Eb fl ρ=(fl ρ).bind fun ds=>if ds.length≤16777216 then .ok ds else .bad:=rfl
theorem TH:eL fl ρ=(fl ρ).bind fun ds=>.ok (.lst ds):=rfl
theorem Ux{gg:List Dt→Option Dt}:eB gg fl ρ=(fl ρ).bind fun ds=>FU (gg ds):=rfl
theorem ID{φ:List Dt→Out Dt}:Al φ fl ρ=(fl ρ).bind φ:=rfl
theorem MI:Hi fa fb ρ=(fa ρ).bind fun a=>(FU (gS a)).bind fun b=>if b=true then fb ρ else .ok (.bl false):=rfl
theorem L1:SI fa ρ=(fa ρ).bind fun a=>(FU (gS a)).bind fun b=>.ok (.bl (!b)):=rfl
theorem DS:AB fa ρ=(fa ρ).bind fun d=>FU d.seq:=rfl
theorem Iz:Cj fl ρ=(fl ρ).bind fun ds=>FU (Yu ds):=rfl
theorem Kj:HJ ρ=.ok none:=rfl
theorem L4:Mn e ρ=(e ρ).bind fun d=>match d with
 | .int i=>.ok (some i)
 | _=>.bad:=rfl
theorem DZ{z:Int}:AL (.int z) lk ρ=ρ:=rfl
theorem Kd{z:Str}:AL (.str z) lk ρ=ρ:=rfl
theorem Ey{ds:List Dt}:AL (.lst ds) lk ρ=frz lk ρ:=rfl
theorem F9{d:Dt}:AL d [] ρ=ρ:=by unfold AL; split <;> rfl
theorem CC{d:Dt}(h:d.pure=true):AL d lk ρ=ρ:=by unfold AL; rw [if_pos (.inl h)]
def Yr:SOut→Out Dt
 | .ok .nx _=>.ok .non
 | .ok (.rt d) _=>.ok d
 | .exc x _=>.exc x
 | _=>.bad
@[simp] theorem Ml:Yr (.ok .nx ρ)=.ok .non:=rfl
@[simp] theorem MA{d:Dt}:Yr (.ok (.rt d) ρ)=.ok d:=rfl
@[simp] theorem JF{x:Exn}:Yr (.exc x ρ)=.exc x:=rfl
theorem IV{n:Nat}{ds:List Dt}:Ax n g ds=Yr (g (ds.map (fun d=>some (Lo.sh d)) ++ List.replicate (n - ds.length) none)):=by
 unfold Ax Yr
 rfl
end
theorem OR{d:Dt}{ρ:Env}:Lh (some (.sh d) :: ρ) 0=some (.sh d) :: ρ:=rfl
theorem Lx{d:List Dt}{ρ:Env}:Lh (some (.ol d) :: ρ) 0=some (.sh (.lst d)) :: ρ:=rfl
theorem Ly{k:List Key}{d:List Dt}{ρ:Env}:Lh (some (.od k d) :: ρ) 0=some (.sh (.dic k d)) :: ρ:=rfl
theorem O9{l:Lo}{ρ:Env}:Nh (some l :: ρ) 0=l.ld:=rfl
theorem O5{l:Option Lo}{ρ:Env}{i:Nat}:Nh (l :: ρ) (i + 1)=Nh ρ i:=by
 unfold Nh
 rw [List.getElem?_cons_succ]
def He(ρ:Env)(i:Nat):Bool:=match ρ[i]? with
 | some (some (.sh _))=>true
 | some (some _)=>false
 | _=>true
theorem Pn{d:Dt}{ρ:Env}:He (some (.sh d) :: ρ) 0=true:=rfl
theorem PR{ρ:Env}:He (none :: ρ) 0=true:=rfl
theorem Ox{l:Option Lo}{ρ:Env}{i:Nat}:He (l :: ρ) (i + 1)=He ρ i:=by
 unfold He
 rw [List.getElem?_cons_succ]
theorem dU{ρ:Env}{i:Nat}(h:He ρ i=true):Lh ρ i=ρ:=by
 unfold He at h
 unfold Lh
 split at h
 ·rename_i d e
  rw [e]
  exact C0 e
 ·cases h
 ·rename_i h1 h2
  split
  ·rename_i cs e
   exact absurd e (h2 _)
  ·rename_i l e e2
   exact absurd e2 (h2 _)
  ·rfl
theorem VM{ρ:Env}:∀ {lk:List Nat},lk.all (He ρ)=true→frz lk ρ=ρ
 | [],_=>rfl
 | i :: lk,h=>by
  rw [List.all_cons,Bool.and_eq_true] at h
  rw [GX,dU h.1]
  exact VM h.2
theorem FI{ρ:Env}{lk:List Nat}{d:Dt}(h:lk.all (He ρ)=true):AL d lk ρ=ρ:=by
 unfold AL
 split
 ·rfl
 ·exact VM h
theorem Km{ρ:Env}{lk:List Nat}{d:List Dt}(h:lk.all (He ρ)=true):US d lk ρ=ρ:=by
 unfold US
 split
 ·rfl
 ·exact VM h
theorem Lo.U5{d:Dt}:(Lo.sh d).ld=true:=rfl
theorem Pq{ρ:Env}:Lh (none :: ρ) 0=none :: ρ:=rfl
theorem PL{l:Option Lo}{ρ:Env}{i:Nat}:Lh (l :: ρ) (i + 1)=l :: Lh ρ i:=by
 unfold Lh
 rw [List.getElem?_cons_succ]
 cases ρ[i]? with
 | none=>rfl
 | some x=>
  cases x with
  | none=>rfl
  | some l=>cases l <;> rfl
theorem G1{i:Nat}{d:Dt}{ρ:Env}:Ai i d ρ=some (ρ.set i (some (.sh d))):=rfl
theorem LU{us:List Dt→Env→Option Env}{ds:List Dt}{ρ:Env}:Fh us (.tup ds) ρ=us ds ρ:=rfl
theorem JY{u:Dt→Env→Option Env}{us:List Dt→Env→Option Env}{d:Dt}{ds:List Dt}{ρ:Env}:AO u us (d :: ds) ρ=(u d ρ).bind fun ρ'=>us ds ρ':=rfl
theorem MG{ρ:Env}:EO [] ρ=some ρ:=rfl
def Xb(u:Dt→Env→Option Env)(b:Env→SOut)(ds:List Dt):SOut→SOut
 | .ok .nx ρ=>BA u b ds ρ
 | .ok .ct ρ=>BA u b ds ρ
 | .ok .bk ρ=>.ok .nx ρ
 | o=>o
@[simp] theorem MK{u:Dt→Env→Option Env}{b:Env→SOut}{ds:List Dt}{ρ:Env}:Xb u b ds (.ok .nx ρ)=BA u b ds ρ:=rfl
@[simp] theorem L9{u:Dt→Env→Option Env}{b:Env→SOut}{ds:List Dt}{ρ:Env}{d:Dt}:Xb u b ds (.ok (.rt d) ρ)=.ok (.rt d) ρ:=rfl
theorem HL{u:Dt→Env→Option Env}{b:Env→SOut}{d:Dt}{ds:List Dt}{ρ ρ1:Env}(h:u d ρ=some ρ1):BA u b (d :: ds) ρ=Xb u b ds (b ρ1):=by
 rw [Nu,h]
 show (match b ρ1 with
   | .ok .nx ρ'=>BA u b ds ρ'
   | .ok .ct ρ'=>BA u b ds ρ'
   | .ok .bk ρ'=>.ok .nx ρ'
   | o=>o)=_
 cases b ρ1 with
 | ok f ρ'=>cases f <;> rfl
 | exc x ρ'=>rfl
 | bad=>rfl
theorem Cc{i:Nat}{b:Env→SOut}{d:Dt}{ds:List Dt}{ρ:Env}:BA (Ai i) b (d :: ds) ρ=Xb (Ai i) b ds (b (ρ.set i (some (.sh d)))):=HL rfl
theorem JG{K:PySem.W.Frag}{D a C:Addr}{od:Option Addr}{ns:List Str}{ds:List Dt}{b:Bool}(h:PySem.W.kitOne K (.ref D) (.ref C)=some b):Fm K D a od [.exn a od D ns ds,.cls C]=some (.bl b):=by
 unfold Fm
 simp [h]
theorem dO{K:PySem.W.Frag}{D a:Addr}{T:String}{od:Option Addr}{ns:List Str}{ds:List Dt}{b:Bool}(h:PySem.W.kitOne K (.ref D) (.type T)=some b):Fm K D a od [.exn a od D ns ds,.ty T]=some (.bl b):=by
 unfold Fm
 simp [h]
theorem Of{α β:Type}(f:α→β)(xs:List α)(i:Int):atI (xs.map f) i=(atI xs i).map f:=by
 unfold atI
 rw [List.length_map]
 cases ixN xs.length i with
 | none=>rfl
 | some j=>exact List.getElem?_map
theorem OB{α:Type}{xs:List α}{i:Int}(h0:0≤i)(h1:i < xs.length):∃ x,atI xs i=some x∧xs[i.toNat]? = some x:=by
 have hj:i.toNat < xs.length:=by omega
 refine ⟨xs[i.toNat],?_,List.getElem?_eq_getElem hj⟩
 unfold atI ixN
 rw [if_pos h0,if_pos h1]
 exact List.getElem?_eq_getElem hj
theorem atI_nat{α:Type}(xs:List α)(n:Nat):atI xs (n:Int)=xs[n]?:=by
 unfold atI ixN
 rw [if_pos (by omega)]
 by_cases h:n < xs.length
 ·rw [if_pos (by omega)]
  rfl
 ·rw [if_neg (by omega),List.getElem?_eq_none (by omega)]
  rfl
theorem Um{α:Type}(a:α)(xs:List α):atI (a :: xs) 0=some a:=atI_nat (a :: xs) 0
theorem U1{α:Type}(a b:α)(xs:List α):atI (a :: b :: xs) 1=some b:=atI_nat (a :: b :: xs) 1
theorem UR{α:Type}(a b c:α)(xs:List α):atI (a :: b :: c :: xs) 2=some c:=atI_nat (a :: b :: c :: xs) 2
theorem aM{α:Type}(f:α→Dt)(xs:List α)(lo hi:Option Int):∃ ys:List α,cutD (xs.map f) lo hi=ys.map f:=by
 unfold cutD
 refine ⟨(xs.drop (HT.sIx xs.length 0 lo)).take (HT.sIx xs.length xs.length hi - HT.sIx xs.length 0 lo),?_⟩
 rw [List.length_map,List.map_take,List.map_drop]
def Bd(n:Nat)(i:Int):Prop:=i.natAbs < 2 ^ n
theorem Bd.mono{m n:Nat}{i:Int}(h:Bd m i)(hm:m≤n):Bd n i:=Nat.lt_of_lt_of_le h (Nat.pow_le_pow_right (by decide) hm)
theorem Bd.add{m n:Nat}{i j:Int}(h:Bd m i)(k:Bd n j):Bd (max m n + 1) (i + j):=by
 have h1:i.natAbs < 2 ^ max m n:=h.mono (Nat.le_max_left _ _)
 have k1:j.natAbs < 2 ^ max m n:=k.mono (Nat.le_max_right _ _)
 unfold Bd
 rw [Nat.pow_succ]
 have:=Int.natAbs_add_le i j
 omega
theorem Bd.neg{n:Nat}{i:Int}(h:Bd n i):Bd n (-i):=by
 unfold Bd
 rw [Int.natAbs_neg]
 exact h
theorem Bd.sub{m n:Nat}{i j:Int}(h:Bd m i)(k:Bd n j):Bd (max m n + 1) (i - j):=by
 rw [Int.sub_eq_add_neg]
 exact h.add k.neg
theorem Bd.le{n:Nat}{i j:Int}(h:Bd n i)(k:j.natAbs≤i.natAbs):Bd n j:=Nat.lt_of_le_of_lt k h
end FD
namespace FD
open PySem L2 PyProof.Rows PySem.Spec
section
variable {K:PySem.W.Frag} {W:WX} {H0 H H1:Hp} {A A0:Ad} {ρ:Env} {σ:L2.St} {lk la lb:List Nat}
end
def Dt.aw:Dt→Option (List Dt)
 | .lst ds=>some ds
 | .fls ds=>some ds
 | .tup ds=>some ds
 | _=>none
section
variable {X:Cx} {W:WX} {o e:Expr} {f fb:Env→Out Dt} {la lb:List Nat} {apos pos:Pos}
end
end FD
namespace FD
open PySem L2 PyProof.Rows PySem.Spec
section
variable {X:Cx} {W:WX} {a b e iter tg:Expr} {f fa fb:Env→Out Dt} {fs:Env→Out (List Dt)} {la lb lk:List Nat} {pos p p2:Pos} {lo hi:Option Expr} {fl fh:Env→Out (Option Int)} {es:List Expr}
def KO:List Dt→Option Dt
 | [.int i]=>if i.natAbs.log2 < 1920 then some (.str (toString i:String)) else none
 | [.str a]=>some (.str a)
 | _=>none
@[simp] theorem Zz(i:Int):KO [.int i]=if i.natAbs.log2 < 1920 then some (.str (toString i:String)) else none:=rfl
theorem CallR.or{c:Value}{r r':List V→Hp→VK→Prop}(h:CallR X c r)(h':CallR X c r'):CallR X c (fun xs H Q=>r xs H Q∨r' xs H Q):=fun pins s σ H xs us Q I rr q=>q.elim (h pins s σ H xs us Q I rr) (h' pins s σ H xs us Q I rr)
theorem X9:∀ ds d,KO ds=some d→d.scal=true:=fun ds d e=>by
 unfold KO at e
 split at e
 ·obtain ⟨_,rfl⟩:=Bf e; rfl
 ·cases e; rfl
 ·cases e
theorem Xj(hg:Gl X "str")(hm:X.mg "str" = none)(ha:JL X W [e] fs lk)(he:starEach [e] X.env=(false,eval e X.env) :: starEach [] X.env:=by rfl):Bc X W (.Call (.Name "str" p) [e] [] pos) (eB KO fs) []:=by
 obtain ⟨ta,pa,da⟩:=ha
 refine ⟨_,pe_callTy (CallR.or call_str_int SkE.call_str_str) hg hm au pa (by decide) (by decide) he rfl,Gh (fun μ H A ds d vs Q _ r e q=>?_) X9 da⟩
 unfold KO at e
 split at e
 ·obtain ⟨v,rfl,rr⟩:=CO r
  obtain ⟨h,rfl⟩:=Bf e
  exact .inl ⟨_,congrArg (fun v=>[v]) rr,h,RE.now q rfl⟩
 ·obtain ⟨v,rfl,rr⟩:=CO r
  cases e
  exact .inr ⟨_,congrArg (fun v=>[v]) rr,RE.now q rfl⟩
 ·cases e
def Il:List Dt→Option Dt
 | [.int i]=>some (.int i)
 | [.bl b]=>some (.int (if b then 1 else 0))
 | [.str a]=>if a.length≤640 then (PySem.intText? a).map fun n=>.int n else none
 | _=>none
@[simp] theorem Ip(i:Int):Il [.int i]=some (.int i):=rfl
theorem O3:∀ ds d,Il ds=some d→d.scal=true:=fun ds d e=>by
 unfold Il at e
 split at e
 ·cases e; rfl
 ·cases e; rfl
 ·obtain ⟨_,e⟩:=FE e
  obtain ⟨n,_,rfl⟩:=Option.map_eq_some_iff.mp e
  rfl
 ·cases e
where
 FE {α:Type} {c:Prop} [Decidable c] {o:Option α} {x:α} (e:(if c then o else none)=some x):c∧o=some x:=by
  split at e
  ·exact ⟨by assumption,e⟩
  ·cases e
theorem HE(hg:Gl X "int")(hm:X.mg "int" = none)(ha:JL X W [e] fs lk)(he:starEach [e] X.env=(false,eval e X.env) :: starEach [] X.env:=by rfl):Bc X W (.Call (.Name "int" p) [e] [] pos) (eB Il fs) []:=by
 obtain ⟨ta,pa,da⟩:=ha
 refine ⟨_,pe_callTy (CallR.or call_int1 call_int_str) hg hm ZM pa (by decide) (by decide) he rfl,Gh (fun μ H A ds d vs Q _ r e q=>?_) O3 da⟩
 unfold Il at e
 split at e
 ·obtain ⟨v,rfl,rr⟩:=CO r
  cases e
  exact .inl (.inl ⟨_,congrArg (fun v=>[v]) rr,RE.now q rfl⟩)
 ·obtain ⟨v,rfl,rr⟩:=CO r
  cases e
  exact .inl (.inr ⟨_,congrArg (fun v=>[v]) rr,RE.now q rfl⟩)
 ·obtain ⟨v,rfl,rr⟩:=CO r
  obtain ⟨h,e⟩:=O3.FE e
  obtain ⟨n,hn,rfl⟩:=Option.map_eq_some_iff.mp e
  exact .inr ⟨_,n,congrArg (fun v=>[v]) rr,hn,h,RE.now q rfl⟩
 ·cases e
def Wk(a:Dt)(lo hi:Option Int):Option Dt:=match a with
 | .lst ds=>some (.lst (cutD ds lo hi))
 | .fls ds=>some (.lst (cutD ds lo hi))
 | .str z=>if z.length≤16777216 then some (.str (Txt.slice z lo hi)) else none
 | _=>none
def Nq(f:Env→Out Dt)(fl fh:Env→Out (Option Int)):Env→Out Dt:=fun ρ=>(f ρ).bind fun a=>(fl ρ).bind fun lo=>(fh ρ).bind fun hi=>FU (Wk a lo hi)
theorem Sx(he:Bc X W e f la)(hl:POD X W lo fl)(hh:POD X W hi fh):Bc X W (.Subscript e (.Slice lo hi none p2) pos) (Nq f fl fh) la:=by
 obtain ⟨t,p,d⟩:=he
 obtain ⟨tl,pl,dl⟩:=hl
 obtain ⟨th,ph,dh⟩:=hh
 refine ⟨_,pe_slice (SlR.or sl_list C8.sl_txt) p pl ph,?_⟩
 intro μ H0 A0 ρ σ H Q s h
 refine d _ _ _ _ _ _ _ s (h.seq fun a _ h1 v H1 s1 r1=>?_)
 refine dl _ _ _ _ _ _ _ (s.grow s1) ((h1.grow s1).seq fun lo _ h2 H2 s2=>?_)
 refine dh _ _ _ _ _ _ _ (s.grow (s1.trans s2)) ((h2.grow s2).seq fun hi _ h3 H3 s3=>?_)
 obtain ⟨d',e,q⟩:=BM h3
 have sA:=(s1.trans s2).trans s3
 have r3:=r1.same (s2.trans s3)
 have new:∀ {es:List Dt} {us:List V} {c:Addr},H3 c=none→Ah ⟨X.K,μ⟩ H3 (Av ⟨X.K,μ⟩ A0 ρ σ la) es us→Rep ⟨X.K,μ⟩ (upd H3 c (.lst us)) (Av ⟨X.K,μ⟩ A0 ρ σ la) (.lst es) (.ref c):=fun {es us c} hc r=>by
  unfold Rep
  exact ⟨c,us,rfl,(s.grow sA).NB hc,upd_same,r.same (Same.new hc)⟩
 cases a <;> try (cases e; done)
 ·obtain ⟨hz,rfl⟩:=Bf e
  exact .inr ⟨_,r3,by rw [sizeLine_eq]; exact hz,q _ _ sA rfl⟩
 ·cases e
  unfold Rep at r3
  obtain ⟨c0,vs,rfl,n,h1,r⟩:=r3
  exact .inl ⟨c0,vs,rfl,SqL.of h1,fun c hc=>q _ _ (sA.trans (Same.new hc)) (new hc r.cut)⟩
 ·cases e
  unfold Rep at r3
  obtain ⟨c0,vs,rfl,h1,r⟩:=r3
  exact .inl ⟨c0,vs,rfl,SqL.bL h1,fun c hc=>q _ _ (sA.trans (Same.new hc)) (new hc r.cut)⟩
def aD:Dt→Option (List Dt)
 | .lst ds=>some ds.reverse
 | .fls ds=>some ds.reverse
 | _=>none
def fJ(f:Env→Out Dt):Env→Out (List Dt):=fun ρ=>(f ρ).bind fun a=>FU (aD a)
theorem Ah.rev{K:KM}{H:Hp}{A:Ad}:∀ {ds:List Dt} {vs:List V},Ah K H A ds vs→Ah K H A ds.reverse vs.reverse
 | [],vs,r=>by unfold Ah at r; subst r; exact Ah.nil
 | d :: ds,vs,r=>by
  unfold Ah at r
  obtain ⟨v,q,rfl,r1,r2⟩:=r
  rw [List.reverse_cons,List.reverse_cons]
  exact Ah.append (Ah.rev r2) (Ah.cons r1 Ah.nil)
theorem ji{k:Nat}{q1 q2 q3:Pos}(he:Bc X W e f la):Za X W (.Subscript e (.Slice none none (some (.UnaryOp .USub (.Constant (.int 1) k q1) q2)) q3) pos) (fJ f) la:=by
 obtain ⟨t,p,d⟩:=he
 refine ⟨_,pe_revL p,?_⟩
 intro μ H0 A0 ρ σ H Q s h
 refine d _ _ _ _ _ _ _ s (h.seq fun a _ h1 v H1 s1 r1=>?_)
 obtain ⟨ds,e,q⟩:=BM h1
 cases a <;> try (cases e; done)
 ·cases e
  unfold Rep at r1
  obtain ⟨c0,vs,rfl,n,h1,r⟩:=r1
  exact ⟨c0,vs,rfl,SqL.of h1,fun c hc=>q c _ _ (s1.trans (Same.new hc)) (s1.free hc) upd_same ((Ah.fresh hc _ _ (Ah.rev r)).same (Same.new hc))⟩
 ·cases e
  unfold Rep at r1
  obtain ⟨c0,vs,rfl,h1,r⟩:=r1
  exact ⟨c0,vs,rfl,SqL.bL h1,fun c hc=>q c _ _ (s1.trans (Same.new hc)) (s1.free hc) upd_same ((Ah.fresh hc _ _ (Ah.rev r)).same (Same.new hc))⟩
end
end FD
namespace FD
open PySem L2 PyProof.Rows PySem.Spec
inductive XO (α:Type) where
 | ok (a:α) (ρ:Env) | exc (x:Exn) (ρ:Env) | bad
def XO.bind{α β:Type}(o:XO α)(f:α→Env→XO β):XO β:=match o with
 | .ok a ρ=>f a ρ
 | .exc x ρ=>.exc x ρ
 | .bad=>.bad
@[simp] theorem XO.Au{α β:Type}(a:α)(ρ:Env)(f:α→Env→XO β):(XO.ok a ρ).bind f=f a ρ:=rfl
theorem XO.bind_assoc{α β γ:Type}(o:XO α)(f:α→Env→XO β)(g:β→Env→XO γ):(o.bind f).bind g=o.bind fun a ρ=>(f a ρ).bind g:=by
 cases o <;> rfl
def Out.x{α:Type}(o:Out α)(ρ:Env):XO α:=match o with
 | .ok a=>.ok a ρ
 | .exc x=>.exc x ρ
 | .bad=>.bad
@[simp] theorem Out.XR{α:Type}(a:α)(ρ:Env):(Out.ok a).x ρ=.ok a ρ:=rfl
def Out.xb{α β:Type}(o:Out α)(ρ:Env)(k:α→XO β):XO β:=match o with
 | .ok a=>k a
 | .exc x=>.exc x ρ
 | .bad=>.bad
def xP{α:Type}(f:Env→Out α):Env→XO α:=fun ρ=>(f ρ).x ρ
structure Ch (K:PySem.W.Frag) (S:List Nat) (σ:L2.St) (μ:Mu) (H:Hp) (ρ:Env) (μ':Mu) (H':Hp) (ρ':Env):Prop where
 xt:Xt μ μ'
 keep:∀ a o,H a=some o→(∀ i,i∈S→¬ Bj ⟨K,μ⟩ ρ σ i a)→H' a=some o
 env:∀ j,j∉S→ρ'[j]? = ρ[j]?
 own:∀ j a,j∈S→Bj ⟨K,μ'⟩ ρ' σ j a→(∃ i,i∈S∧Bj ⟨K,μ⟩ ρ σ i a)∨H a=none
 mh:μ'=μ∨∀ (j:Nat) (cs:List Cell),ρ[j]? = some (some (.mh cs))→j∈S
section
variable {K:PySem.W.Frag} {S:List Nat} {σ:L2.St} {μ μ' μ'':Mu} {H H' H'' H0:Hp} {ρ ρ' ρ'':Env} {A0:Ad} {lk la lb:List Nat} {W:WX} {d:Dt} {v:V} {α β:Type}
theorem Ch.refl(μ:Mu)(H:Hp)(ρ:Env):Ch K S σ μ H ρ μ H ρ:=⟨Xt.refl _,fun _ _ e _=>e,fun _ _=>rfl,fun j a hj h=>.inl ⟨j,hj,h⟩,.inl rfl⟩
theorem Ch.grow(c:Ch K S σ μ H ρ μ' H' ρ')(hs:Same H' H''):Ch K S σ μ H ρ μ' H'' ρ':=⟨c.xt,fun a o e n=>hs a o (c.keep a o e n),c.env,c.own,c.mh⟩
theorem Ch.trans(c:Ch K S σ μ H ρ μ' H' ρ')(c':Ch K S σ μ' H' ρ' μ'' H'' ρ''):Ch K S σ μ H ρ μ'' H'' ρ'':=by
 refine ⟨c.xt.trans c'.xt,fun a o e n=>?_,fun j hj=>(c'.env j hj).trans (c.env j hj),fun j a hj h=>?_,?_⟩
 ·refine c'.keep a o (c.keep a o e n) fun i hi q=>?_
  rcases c.own i a hi q with ⟨j,hj,q⟩ | q
  ·exact n j hj q
  ·rw [e] at q; cases q
 ·rcases c'.own j a hj h with ⟨i,hi,q⟩ | q
  ·exact c.own i a hi q
  ·cases e:H a with
   | none=>exact .inr rfl
   | some o=>
    refine .inl (Classical.byContradiction fun n=>?_)
    have:=c.keep a o e fun i hi q=>n ⟨i,hi,q⟩
    rw [q] at this
    cases this
 ·rcases c.mh with e | m
  ·rcases c'.mh with e' | m'
   ·exact .inl (e'.trans e)
   ·refine .inr fun j cs q=>Classical.byContradiction fun n=>?_
    exact n (m' j cs (by rw [c.env j n]; exact q))
  ·exact .inr m
theorem Ch.back(c:Ch K S σ μ H ρ μ' H' ρ'){j:Nat}{a:Addr}(hj:j∉S)(h:Bj ⟨K,μ'⟩ ρ' σ j a):Bj ⟨K,μ⟩ ρ σ j a:=by
 obtain ⟨l,e,ho⟩:=h
 rw [c.env j hj] at e
 refine ⟨l,e,ho.ext fun q=>?_⟩
 rcases c.mh with z | m
 ·exact z
 ·cases l with
  | mh cs=>exact absurd (m j cs e) hj
  | _=>cases q
theorem Ch.av(c:Ch K S σ μ H ρ μ' H' ρ')(hd:∀ i,i∈S→i∉lk){a:Addr}(z:Av ⟨K,μ'⟩ A0 ρ' σ lk a):Av ⟨K,μ⟩ A0 ρ σ lk a∨H a=none:=by
 rcases z with z | ⟨j,n,h⟩
 ·exact .inl (.inl z)
 ·by_cases hj:j∈S
  ·rcases c.own j a hj h with ⟨i,hi,q⟩ | q
   ·exact .inl (.inr ⟨i,hd i hi,q⟩)
   ·exact .inr q
  ·exact .inl (.inr ⟨j,n,c.back hj h⟩)
theorem Ch.kp(c:Ch K S σ μ H ρ μ' H' ρ')(hd:∀ i,i∈S→i∉lk):∀ a o,¬ Av ⟨K,μ⟩ A0 ρ σ lk a→H a=some o→H' a=some o:=fun a o n e=>c.keep a o e fun i hi q=>n (.inr ⟨i,hd i hi,q⟩)
theorem Ch.rep(c:Ch K S σ μ H ρ μ' H' ρ')(hd:∀ i,i∈S→i∉lk)(r:Rep ⟨K,μ⟩ H (Av ⟨K,μ⟩ A0 ρ σ lk) d v):Rep ⟨K,μ'⟩ H' (Av ⟨K,μ'⟩ A0 ρ' σ lk) d v:=
 r.To c.xt (c.kp hd) fun a z=>c.av hd z
def CN(K:PySem.W.Frag)(W:WX)(μ:Mu)(H0:Hp)(A0:Ad)(σ:L2.St){α:Type}(o:XO α)(R:α→Env→Prop):Prop:=match o with
 | .ok a ρ=>R a ρ
 | .exc x ρ=>∀ μ' H' c od,Xt μ μ'→StOk ⟨K,μ'⟩ H0 A0 H' ρ σ→NS K H' x c od→W c od σ H'
 | .bad=>False
theorem CN.ext{o:XO α}{R:α→Env→Prop}(x:Xt μ μ')(h:CN K W μ H0 A0 σ o R):CN K W μ' H0 A0 σ o R:=by
 cases o with
 | ok a ρ=>exact h
 | exc e ρ=>exact fun m H' c od y s r=>h m H' c od (x.trans y) s r
 | bad=>exact h
theorem CN.seq{o:XO α}{g:α→Env→XO β}{R:β→Env→Prop}{R':α→Env→Prop}(h:CN K W μ H0 A0 σ (o.bind g) R)(hk:∀ a ρ,o=.ok a ρ→CN K W μ H0 A0 σ (g a ρ) R→R' a ρ):CN K W μ H0 A0 σ o R':=by
 cases o with
 | ok a ρ=>exact hk a ρ rfl h
 | exc e ρ=>exact h
 | bad=>exact h
theorem CN.imp{o:XO α}{R R':α→Env→Prop}(h:CN K W μ H0 A0 σ o R)(hk:∀ a ρ,o=.ok a ρ→R a ρ→R' a ρ):CN K W μ H0 A0 σ o R':=by
 cases o with
 | ok a ρ=>exact hk a ρ rfl h
 | exc e ρ=>exact h
 | bad=>exact h
theorem CN.p{o:Out α}{R:α→Env→Prop}{R':α→Prop}(s:StOk ⟨K,μ⟩ H0 A0 H ρ σ)(h:CN K W μ H0 A0 σ (o.x ρ) R)(hk:∀ a,o=.ok a→R a ρ→R' a):DA K W H σ o R':=by
 cases o with
 | ok a=>exact hk a rfl h
 | exc e=>exact fun c od H' hs x=>h μ H' c od (Xt.refl _) (s.grow hs) x
 | bad=>exact h
theorem CN.pb{o:Out α}{k:α→XO β}{R:β→Env→Prop}{R':α→Prop}(s:StOk ⟨K,μ⟩ H0 A0 H ρ σ)(h:CN K W μ H0 A0 σ (o.xb ρ k) R)(hk:∀ a,o=.ok a→CN K W μ H0 A0 σ (k a) R→R' a):DA K W H σ o R':=by
 cases o with
 | ok a=>exact hk a rfl h
 | exc e=>exact fun c od H' hs x=>h μ H' c od (Xt.refl _) (s.grow hs) x
 | bad=>exact h
theorem CN.o{o:Option α}{R:α→Env→Prop}(h:CN K W μ H0 A0 σ ((FU o).x ρ) R):∃ a,o=some a∧R a ρ:=by
 cases o with
 | some a=>exact ⟨a,rfl,h⟩
 | none=>exact False.elim h
abbrev RM(K:PySem.W.Frag)(S:List Nat)(lk:List Nat)(μ:Mu)(H0:Hp)(A0:Ad)(ρ:Env)(σ:L2.St)(H:Hp)(Q:VK):Dt→Env→Prop:=fun d ρ'=>∀ μ' v H',Ch K S σ μ H ρ μ' H' ρ'→StOk ⟨K,μ'⟩ H0 A0 H' ρ' σ→Rep ⟨K,μ'⟩ H' (Av ⟨K,μ'⟩ A0 ρ' σ lk) d v→Q v H'
abbrev RMs(K:PySem.W.Frag)(S:List Nat)(lk:List Nat)(μ:Mu)(H0:Hp)(A0:Ad)(ρ:Env)(σ:L2.St)(H:Hp)(Q:List V→Hp→Prop):List Dt→Env→Prop:=fun ds ρ'=>∀ μ' vs H',Ch K S σ μ H ρ μ' H' ρ'→StOk ⟨K,μ'⟩ H0 A0 H' ρ' σ→Ah ⟨K,μ'⟩ H' (Av ⟨K,μ'⟩ A0 ρ' σ lk) ds vs→Q vs H'
abbrev RMl(K:PySem.W.Frag)(S:List Nat)(lk:List Nat)(μ:Mu)(H0:Hp)(A0:Ad)(ρ:Env)(σ:L2.St)(H:Hp)(Q:VK):List Dt→Env→Prop:=fun ds ρ'=>∀ μ' p vs H' H'',Ch K S σ μ H ρ μ' H' ρ'→StOk ⟨K,μ'⟩ H0 A0 H' ρ' σ→Same H' H''→H' p=none→H'' p=some (.lst vs)→Ah ⟨K,μ'⟩ H'' (fun a=>Av ⟨K,μ'⟩ A0 ρ' σ lk a∨a=p) ds vs→Q (.ref p) H''
abbrev RMt(K:PySem.W.Frag)(S:List Nat)(μ:Mu)(H0:Hp)(A0:Ad)(ρ:Env)(σ:L2.St)(H:Hp)(Q:Bool→Hp→Prop):Bool→Env→Prop:=fun b ρ'=>∀ μ' H',Ch K S σ μ H ρ μ' H' ρ'→StOk ⟨K,μ'⟩ H0 A0 H' ρ' σ→Q b H'
def MR(K:PySem.W.Frag)(W:WX)(S:List Nat)(te:TE)(f:Env→XO Dt)(lk:List Nat):Prop:=
 ∀ (μ:Mu) (H0:Hp) (A0:Ad) (ρ:Env) (σ:L2.St) (H:Hp) (Q:VK),StOk ⟨K,μ⟩ H0 A0 H ρ σ→CN K W μ H0 A0 σ (f ρ) (RM K S lk μ H0 A0 ρ σ H Q)→te σ H Q
def jH(K:PySem.W.Frag)(W:WX)(S:List Nat)(ta:TA)(f:Env→XO (List Dt))(lk:List Nat):Prop:=
 ∀ (μ:Mu) (H0:Hp) (A0:Ad) (ρ:Env) (σ:L2.St) (H:Hp) (Q:List V→Hp→Prop),StOk ⟨K,μ⟩ H0 A0 H ρ σ→CN K W μ H0 A0 σ (f ρ) (RMs K S lk μ H0 A0 ρ σ H Q)→ta σ H Q
def TXL(K:PySem.W.Frag)(W:WX)(S:List Nat)(te:TE)(f:Env→XO (List Dt))(lk:List Nat):Prop:=
 ∀ (μ:Mu) (H0:Hp) (A0:Ad) (ρ:Env) (σ:L2.St) (H:Hp) (Q:VK),StOk ⟨K,μ⟩ H0 A0 H ρ σ→CN K W μ H0 A0 σ (f ρ) (RMl K S lk μ H0 A0 ρ σ H Q)→te σ H Q
def Y8(K:PySem.W.Frag)(W:WX)(S:List Nat)(tt:TT)(f:Env→XO Bool):Prop:=
 ∀ (μ:Mu) (H0:Hp) (A0:Ad) (ρ:Env) (σ:L2.St) (H:Hp) (Q:Bool→Hp→Prop),StOk ⟨K,μ⟩ H0 A0 H ρ σ→CN K W μ H0 A0 σ (f ρ) (RMt K S μ H0 A0 ρ σ H Q)→tt σ H Q
def KR(X:Cx)(W:WX)(S:List Nat)(e:Expr)(f:Env→XO Dt)(lk:List Nat):Prop:=∃ te,PE X e te∧MR X.K W S te f lk
def j4(X:Cx)(W:WX)(S:List Nat)(es:List Expr)(f:Env→XO (List Dt))(lk:List Nat):Prop:=∃ ta,PA X es ta∧jH X.K W S ta f lk
def PXL(X:Cx)(W:WX)(S:List Nat)(e:Expr)(f:Env→XO (List Dt))(lk:List Nat):Prop:=∃ te,PE X e te∧TXL X.K W S te f lk
def eM(X:Cx)(W:WX)(S:List Nat)(e:Expr)(f:Env→XO Bool):Prop:=∃ tt,PT X e tt∧Y8 X.K W S tt f
def PXW(X:Cx)(W:WX)(S:List Nat)(e:Expr)(f:Env→XO Bool):Prop:=∃ tt,PW X e tt∧Y8 X.K W S tt f
theorem j7{te:TE}{f:Env→Out Dt}(h:Dx K W te f lk):MR K W S te (xP f) lk:=fun μ H0 A0 ρ σ H Q s hp=>
 h _ _ _ _ _ _ _ s (CN.p s hp fun d _ q v H' hs r=>q μ v H' ((Ch.refl _ _ _).grow hs) (s.grow hs) r)
theorem kz{ta:TA}{f:Env→Out (List Dt)}(h:RR K W ta f lk):jH K W S ta (xP f) lk:=fun μ H0 A0 ρ σ H Q s hp=>
 h _ _ _ _ _ _ _ s (CN.p s hp fun d _ q v H' hs r=>q μ v H' ((Ch.refl _ _ _).grow hs) (s.grow hs) r)
theorem lh{tt:TT}{f:Env→Out Bool}(h:Ry K W tt f lk):Y8 K W S tt (xP f):=fun μ H0 A0 ρ σ H Q s hp=>
 h _ _ _ _ _ _ _ s (CN.p s hp fun d _ q H' hs=>q μ H' ((Ch.refl _ _ _).grow hs) (s.grow hs))
def x1(fa:Env→XO Dt)(g:Dt→Option Dt):Env→XO Dt:=fun ρ=>(fa ρ).bind fun a ρ1=>(FU (g a)).x ρ1
def x2(fa fb:Env→XO Dt)(g:Dt→Dt→Option Dt):Env→XO Dt:=fun ρ=>(fa ρ).bind fun a ρ1=>(fb ρ1).bind fun b ρ2=>(FU (g a b)).x ρ2
def cZ(fa:Env→XO Dt)(g:Dt→Option Bool):Env→XO Bool:=fun ρ=>(fa ρ).bind fun a ρ1=>(FU (g a)).x ρ1
def Xw(fa fb:Env→XO Dt)(g:Dt→Dt→Option Bool):Env→XO Bool:=fun ρ=>(fa ρ).bind fun a ρ1=>(fb ρ1).bind fun b ρ2=>(FU (g a b)).x ρ2
def xT(f:Env→XO Bool):Env→XO Dt:=fun ρ=>(f ρ).bind fun b ρ1=>.ok (.bl b) ρ1
def Z8(f g:Env→XO Bool):Env→XO Bool:=fun ρ=>(f ρ).bind fun b ρ1=>if b=true then .ok true ρ1 else g ρ1
def L8(f:Env→XO Bool):Env→XO Bool:=fun ρ=>(f ρ).bind fun b ρ1=>.ok (!b) ρ1
def Mf(f:Env→XO Dt)(g:Env→XO (List Dt)):Env→XO (List Dt):=fun ρ=>(f ρ).bind fun d ρ1=>(g ρ1).bind fun ds ρ2=>.ok (d :: ds) ρ2
def fG(f:Env→XO (List Dt)):Env→XO (List Dt):=fun ρ=>(f ρ).bind fun ds ρ1=>if ds.length≤16777216 then .ok ds ρ1 else .bad
theorem f6{ta tb:TE}{fa fb:Env→XO Dt}{g:Dt→Dt→Option Dt}{r:R2}(hr:Rx K r g)(ha:MR K W S ta fa la)(hb:MR K W S tb fb lb)(hd:∀ i,i∈S→i∉la):MR K W S (tOp r ta tb) (x2 fa fb g) (la ++ lb):=by
 intro μ H0 A0 ρ σ H Q s h
 refine ha _ _ _ _ _ _ _ s (h.seq fun a ρ1 _ h1 μ1 v1 H1 c1 s1 r1=>?_)
 refine hb _ _ _ _ _ _ _ s1 ((h1.ext c1.xt).seq fun b ρ2 _ h2 μ2 v2 H2 c2 s2 r2=>?_)
 obtain ⟨d,e,q⟩:=h2.o
 exact hr μ2 H2 _ a b d v1 v2 Q (fun c z=>s2.Ld z) ((c2.rep hd r1).BC fun _=>aJ) (r2.BC fun _=>bI) e fun v H' hs r=>q μ2 v H' ((c1.trans c2).grow hs) (s2.grow hs) r
theorem jw{ta tb:TE}{fa fb:Env→XO Dt}{g:Dt→Dt→Option Dt}{r:R2}(hr:Rx K r g)(hg:∀ a b d,g a b=some d→d.scal=true)(ha:MR K W S ta fa la)(hb:MR K W S tb fb lb)(hd:∀ i,i∈S→i∉la):MR K W S (tOp r ta tb) (x2 fa fb g) []:=by
 intro μ H0 A0 ρ σ H Q s h
 refine ha _ _ _ _ _ _ _ s (h.seq fun a ρ1 _ h1 μ1 v1 H1 c1 s1 r1=>?_)
 refine hb _ _ _ _ _ _ _ s1 ((h1.ext c1.xt).seq fun b ρ2 _ h2 μ2 v2 H2 c2 s2 r2=>?_)
 obtain ⟨d,e,q⟩:=h2.o
 exact hr μ2 H2 Ze a b d v1 v2 Q (fun c z=>False.elim z) (c2.rep hd r1).Zd r2.Zd e fun v H' hs r=>q μ2 v H' ((c1.trans c2).grow hs) (s2.grow hs) (r.scal (hg _ _ _ e))
theorem jN{ta tb:TE}{fa fb:Env→XO Dt}{g:Dt→Dt→Option Bool}{r:R2}(hr:Ol K r g)(ha:MR K W S ta fa la)(hb:MR K W S tb fb lb)(hd:∀ i,i∈S→i∉la):Y8 K W S (tTest (tOp r ta tb)) (Xw fa fb g):=by
 intro μ H0 A0 ρ σ H Q s h
 refine ha _ _ _ _ _ _ _ s (h.seq fun a ρ1 _ h1 μ1 v1 H1 c1 s1 r1=>?_)
 refine hb _ _ _ _ _ _ _ s1 ((h1.ext c1.xt).seq fun b ρ2 _ h2 μ2 v2 H2 c2 s2 r2=>?_)
 obtain ⟨d,e,q⟩:=h2.o
 exact hr μ2 H2 Ze a b d v1 v2 _ (c2.rep hd r1).Zd r2.Zd e ⟨d,rfl,q μ2 H2 (c1.trans c2) s2⟩
theorem ff{ta tb:TE}{fa fb:Env→XO Dt}{g:Dt→Dt→Option Bool}{r:R2}(hr:Ol K r g)(ha:MR K W S ta fa la)(hb:MR K W S tb fb lb)(hd:∀ i,i∈S→i∉la):MR K W S (tOp r ta tb) (xT (Xw fa fb g)) []:=by
 intro μ H0 A0 ρ σ H Q s h
 unfold xT Xw at h
 rw [XO.bind_assoc] at h
 refine ha _ _ _ _ _ _ _ s (h.seq fun a ρ1 _ h1 μ1 v1 H1 c1 s1 r1=>?_)
 rw [XO.bind_assoc] at h1
 refine hb _ _ _ _ _ _ _ s1 ((h1.ext c1.xt).seq fun b ρ2 _ h2 μ2 v2 H2 c2 s2 r2=>?_)
 cases e:g a b with
 | none=>rw [e] at h2; exact False.elim h2
 | some d=>
  rw [e] at h2
  exact hr μ2 H2 Ze a b d v1 v2 _ (c2.rep hd r1).Zd r2.Zd e (h2 μ2 (.bl d) H2 (c1.trans c2) s2 rfl)
theorem iT{ta tb:TT}{fa fb:Env→XO Bool}(ha:Y8 K W S ta fa)(hb:Y8 K W S tb fb):Y8 K W S (tOr ta tb) (Z8 fa fb):=by
 intro μ H0 A0 ρ σ H Q s h
 refine ha _ _ _ _ _ _ _ s (h.seq fun b ρ1 _ h1 μ1 H1 c1 s1=>?_)
 cases b with
 | false=>exact hb _ _ _ _ _ _ _ s1 (CN.imp (h1.ext c1.xt) fun c ρ2 _ q μ2 H2 c2 s2=>q μ2 H2 (c1.trans c2) s2)
 | true=>exact h1 μ1 H1 c1 s1
theorem cP{ta:TT}{fa:Env→XO Bool}(ha:Y8 K W S ta fa):Y8 K W S (tNot ta) (L8 fa):=by
 intro μ H0 A0 ρ σ H Q s h
 exact ha _ _ _ _ _ _ _ s (h.seq fun b ρ1 _ h1 μ1 H1 c1 s1=>h1 μ1 H1 c1 s1)
theorem aC{ta:TE}{tr:TA}{f:Env→XO Dt}{g:Env→XO (List Dt)}(ha:MR K W S ta f la)(hr:jH K W S tr g lb)(hd:∀ i,i∈S→i∉la):jH K W S (tCons ta tr) (Mf f g) (la ++ lb):=by
 intro μ H0 A0 ρ σ H Q s h
 refine ha _ _ _ _ _ _ _ s (h.seq fun a ρ1 _ h1 μ1 v1 H1 c1 s1 r1=>?_)
 refine hr _ _ _ _ _ _ _ s1 ((h1.ext c1.xt).seq fun b ρ2 _ h2 μ2 v2 H2 c2 s2 r2=>?_)
 exact h2 μ2 _ H2 (c1.trans c2) s2 (Ah.cons ((c2.rep hd r1).BC fun _=>aJ) (r2.BC fun _=>bI))
theorem dz{ta:TA}{f:Env→XO (List Dt)}(ha:jH K W S ta f la):TXL K W S (tLst ta) (fG f) la:=by
 intro μ H0 A0 ρ σ H Q s h
 refine ha _ _ _ _ _ _ _ s (h.seq fun ds ρ1 _ h1 μ1 vs H1 c1 s1 r1=>?_)
 split at h1
 ·rename_i hl
  refine ⟨by rw [r1.length,sizeLine_eq]; exact hl,fun p hp=>h1 μ1 p vs H1 _ c1 s1 (Same.new hp) hp upd_same ?_⟩
  exact (Ah.fresh hp _ _ r1).same (Same.new hp)
 ·exact False.elim h1
def xE{α:Type}(o:XO α)(k:α→Env→SOut):SOut:=match o with
 | .ok a ρ=>k a ρ
 | .exc x ρ=>.exc x ρ
 | .bad=>.bad
@[simp] theorem Ph{α:Type}(a:α)(ρ:Env)(k:α→Env→SOut):xE (.ok a ρ) k=k a ρ:=rfl
theorem AY.xt{o:XO α}{k:α→Env→SOut}{D:Ends}{R:α→Env→Prop}(h:AY K W μ H0 A0 (xE o k) D)(hk:∀ a ρ,o=.ok a ρ→AY K W μ H0 A0 (k a ρ) D→R a ρ):CN K W μ H0 A0 σ o R:=by
 cases o with
 | ok a ρ=>exact hk a ρ rfl h
 | exc e ρ=>exact fun μ' H' c od y s r=>h μ' σ H' c od y s r
 | bad=>exact h
def Bi(i:Nat)(f:Env→XO Dt)(lk:List Nat):Env→SOut:=fun ρ=>xE (f ρ) fun d ρ=>.ok .nx ((AL d lk ρ).set i (some (.sh d)))
def RB(f:Env→XO Dt)(lk:List Nat):Env→SOut:=fun ρ=>xE (f ρ) fun d ρ=>.ok (.rt d) (AL d lk ρ)
def Ll(c:Env→XO Bool)(f g:Env→SOut):Env→SOut:=fun ρ=>xE (c ρ) fun b ρ=>if b=true then f ρ else g ρ
def EW(i:Nat)(f:Env→XO Dt)(lk:List Nat):Env→SOut:=fun ρ=>match ρ[i]? with
 | some (some (.ol _))=>xE (f ρ) fun d ρ=>(match (AL d lk ρ)[i]? with
  | some (some (.ol ds))=>if ds.length < 16777216 then .ok .nx ((AL d lk ρ).set i (some (.ol (ds ++ [d])))) else .bad
  | _=>.bad)
 | _=>.bad
theorem ah{te:TE}{f:Env→XO Dt}{i:Nat}(ha:MR K W S te f la):IF K W (tAsg te (gName i)) (Bi i f la):=by
 intro μ H0 A0 ρ σ H D s h
 exact ha _ _ _ _ _ _ _ s (AY.xt h fun d ρ1 _ h1 μ1 v H1 c1 s1 r1=>h1 μ1 _ _ c1.xt (s1.give (Same.refl _) r1))
theorem bb{te:TE}{f:Env→XO Dt}(ha:MR K W S te f la):IF K W (tRet te) (RB f la):=by
 intro μ H0 A0 ρ σ H D s h
 refine ha _ _ _ _ _ _ _ s (AY.xt h fun d ρ1 _ h1 μ1 v H1 c1 s1 r1=>?_)
 obtain ⟨s2,r2⟩:=s1.Td r1
 exact h1 μ1 _ _ _ c1.xt s2 r2
theorem cw{tc:TT}{t u:TS}{c:Env→XO Bool}{f g:Env→SOut}(hc:Y8 K W S tc c)(ht:IF K W t f)(hu:IF K W u g):IF K W (tIfS tc t u) (Ll c f g):=by
 intro μ H0 A0 ρ σ H D s h
 refine hc _ _ _ _ _ _ _ s (AY.xt h fun b ρ1 _ h1 μ1 H1 c1 s1=>?_)
 cases b with
 | true=>exact ht _ _ _ _ _ _ _ s1 (AY.ext c1.xt h1)
 | false=>exact hu _ _ _ _ _ _ _ s1 (AY.ext c1.xt h1)
theorem Ug{te:TE}{f:Env→XO Dt}{i:Nat}(ha:MR K W S te f la)(hi:i∉S):IF K W (tDrop (tBM K "list" rAppend (tVar i) (tCons te tNil))) (EW i f la):=by
 intro μ H0 A0 ρ σ H D s h
 unfold EW at h
 split at h
 ·rename_i ds0 e0
  obtain ⟨a,vs,e1,h0,h1,r0⟩:=s.lo i _ e0
  refine ⟨_,e1,.inl ⟨rfl,vs,SqL.of h1⟩,?_⟩
  refine ha _ _ _ _ _ _ _ s (AY.xt h fun d ρ1 _ h2 μ1 v H1 c1 s1 r1=>?_)
  obtain ⟨s2,r2⟩:=s1.Td r1
  split at h2
  ·rename_i ds e2
   split at h2
   ·rename_i hl
    obtain ⟨a',vs',e3,h0',h1',r3⟩:=s2.lo i _ e2
    rw [e1] at e3
    cases e3
    refine ⟨a,vs',v,rfl,rfl,h1',by rw [r3.length,sizeLine_eq]; exact hl,?_⟩
    exact h2 _ _ _ c1.xt (s2.kQ e2 e1 (Ah.append r3 (Ah.cons r2 Ah.nil)))
   ·exact False.elim h2
  ·exact False.elim h2
 ·exact False.elim h
end
end FD
namespace FD
open PySem L2 PyProof.Rows PySem.Spec
def DM(n:Nat)(ρ:Env):Option (List Cell):=match ρ[n]? with
 | some (some (.mh cs))=>some cs
 | _=>none
theorem CM{n:Nat}{ρ:Env}{cs:List Cell}(h:DM n ρ=some cs):ρ[n]? = some (some (.mh cs)):=by
 unfold DM at h
 split at h
 ·rename_i c e
  cases h
  exact e
 ·cases h
def Cell.nl:Cell→Bool
 | .gone=>true
 | .lst ds=>Dt.Yy ds
 | .dic _ ds=>Dt.Yy ds
 | .ins _ _ ds=>Dt.Yy ds
def Lv(κ:KM)(cs:List Cell):Ad:=fun a=>CS κ (.mh cs) none a
def kX:Hp:=fun _=>none
inductive MO where
 | ok (d:Dt) (cs:List Cell) | exc (x:Exn) (cs:List Cell) | bad
structure MCh (K:PySem.W.Frag) (A:Ad) (μ:Mu) (cs:List Cell) (H:Hp) (μ':Mu) (cs':List Cell) (H':Hp):Prop where
 xt:Xt μ μ'
 keep:∀ a o,H a=some o→¬ Lv ⟨K,μ⟩ cs a→H' a=some o
 own:∀ a,Lv ⟨K,μ'⟩ cs' a→Lv ⟨K,μ⟩ cs a∨H a=none
 ok:ER ⟨K,μ'⟩ kX H' (fun a=>A a∨Lv ⟨K,μ'⟩ cs' a) (.mh cs') none
def Tj(K:PySem.W.Frag)(A:Ad)(μ:Mu)(cs:List Cell)(H:Hp)(Q:VK)(E:XK)(o:MO):Prop:=match o with
 | .ok d cs'=>∀ μ' v H',MCh K A μ cs H μ' cs' H'→Rep ⟨K,μ'⟩ H' (fun a=>A a∨Lv ⟨K,μ'⟩ cs' a) d v→Q v H'
 | .exc x cs'=>∀ μ' c od H',MCh K A μ cs H μ' cs' H'→NS K H' x c od→E c od H'
 | .bad=>False
def fZ(K:PySem.W.Frag)(φ:List Dt→List Cell→MO):Sp:=fun vs H Q E=>∃ (ds:List Dt) (A:Ad) (μ:Mu) (cs:List Cell),Ah ⟨K,μ⟩ H (fun a=>A a∨Lv ⟨K,μ⟩ cs a) ds vs∧ER ⟨K,μ⟩ kX H (fun a=>A a∨Lv ⟨K,μ⟩ cs a) (.mh cs) none ∧
 (∀ a,A a→Mut (H a))∧(∀ a,A a→¬ Lv ⟨K,μ⟩ cs a)∧μ.fix=false∧Tj K A μ cs H Q E (φ ds cs)
def runM(n:Nat)(g:Env→SOut)(ds:List Dt)(cs:List Cell):MO:=match g (ds.map (fun d=>some (Lo.sh d)) ++ List.replicate (n - ds.length) none ++ [some (.mh cs)]) with
 | .ok .nx ρ=>(match DM n ρ with
  | some cs'=>.ok .non cs'
  | none=>.bad)
 | .ok (.rt d) ρ=>(match DM n ρ with
  | some cs'=>.ok d cs'
  | none=>.bad)
 | .exc x ρ=>(match DM n ρ with
  | some cs'=>.exc x cs'
  | none=>.bad)
 | _=>.bad
def Li(n:Nat)(φ:List Dt→List Cell→MO)(ds:List Dt)(cs:List Cell):MO:=if ds.length=n then φ ds cs else .bad
def M6(K:PySem.W.Frag)(n:Nat)(φ:List Dt→List Cell→MO):Sp:=fun vs H Q E=>vs.length=n∧fZ K φ vs H Q E
section
variable {P:Program} {w:World} {K:PySem.W.Frag} {mg:Str→Option Value} {base:Heap} {H:Hp} {A:Ad} {μ:Mu} {cs:List Cell}
open Classical in
noncomputable def Hm(κ:KM)(cs:List Cell)(H:Hp):Hp:=fun a=>if Lv κ cs a then none else H a
theorem ER.gq{H0 H0':Hp}{A':Ad}{s s':Option (Option V)}{κ:KM}(h:ER κ H0 H A (.mh cs) s)(h0:∀ a,Lv κ cs a→H0 a=none→H0' a=none)(ha:∀ a,A' a→A a∨H a=none):ER κ H0' H A' (.mh cs) s':=
 ER.gen (F:=κ.K) (m:=κ.mu) (m':=κ.mu) (sv:=s') (Xt.refl _) (fun _=>rfl) (fun _ _ _ e=>e) ha (fun _ _ _ e=>e) (fun a o e=>h0 a o e) (show ER κ H0 H A (.mh cs) s' from h)
theorem RG{N:List Str}{n:Nat}{ds:List Dt}{vs:List V}(hN:N.length=n + 1)(hl:ds.length≤n)(r:Ah ⟨K,μ⟩ H (fun a=>A a∨Lv ⟨K,μ⟩ cs a) ds vs)(hm:ER ⟨K,μ⟩ kX H (fun a=>A a∨Lv ⟨K,μ⟩ cs a) (.mh cs) none)(ha:∀ a,A a→Mut (H a))
  (hd:∀ a,A a→¬ Lv ⟨K,μ⟩ cs a) (hf:μ.fix=false):StOk ⟨K,μ⟩ (Hm ⟨K,μ⟩ cs H) A H (ds.map (fun d=>some (Lo.sh d)) ++ List.replicate (n - ds.length) none ++ [some (.mh cs)]) (L2.start N vs):=by
 have hlen:(ds.map (fun d=>some (Lo.sh d)) ++ List.replicate (n - ds.length) (none:Option Lo)).length=n:=by simp; omega
 have cases':∀ (i:Nat) (l:Lo),(ds.map (fun d=>some (Lo.sh d)) ++ List.replicate (n - ds.length) none ++ [some (.mh cs)])[i]? = some (some l)→(∃ d,ds[i]? = some d∧l=.sh d)∨(i=n∧l=.mh cs):=fun i l e=>by
  by_cases hi:i < n
  ·rw [List.getElem?_append_left (by rw [hlen]; exact hi)] at e
   left
   by_cases h:i < ds.length
   ·rw [List.getElem?_append_left (by simpa using h),List.getElem?_map,List.getElem?_eq_getElem h] at e
    cases e
    exact ⟨_,List.getElem?_eq_getElem h,rfl⟩
   ·rw [List.getElem?_append_right (by simpa using Nat.le_of_not_lt h),List.getElem?_replicate] at e
    split at e <;> cases e
  ·rw [List.getElem?_append_right (by rw [hlen]; omega),hlen] at e
   cases hz:i - n with
   | zero=>
    rw [hz] at e
    cases e
    exact .inr ⟨by omega,rfl⟩
   | succ k=>rw [hz] at e; cases e
 have ow:∀ i a,Bj ⟨K,μ⟩ (ds.map (fun d=>some (Lo.sh d)) ++ List.replicate (n - ds.length) none ++ [some (.mh cs)]) (L2.start N vs) i a→i=n∧Lv ⟨K,μ⟩ cs a:=by
  rintro i a ⟨l,e,ho⟩
  rcases cases' i l e with ⟨d,_,rfl⟩ | ⟨h,rfl⟩
  ·exact False.elim ho
  ·exact ⟨h,ho⟩
 have av:∀ a,Av ⟨K,μ⟩ A (ds.map (fun d=>some (Lo.sh d)) ++ List.replicate (n - ds.length) none ++ [some (.mh cs)]) (L2.start N vs) [] a→A a∨Lv ⟨K,μ⟩ cs a:=by
  rintro a (z | ⟨i,_,z⟩)
  ·exact .inl z
  ·exact .inr (ow i a z).2
 refine ⟨fun a o e=>?_,fun a z=>?_,?_,fun i l e=>?_,fun i j a h1 h2=>(ow i a h1).1.trans (ow j a h2).1.symm,fun i j c1 c2 e1 e2=>?_,fun z=>by rw [hf] at z; cases z⟩
 ·unfold Hm at e
  split at e
  ·cases e
  ·exact e
 ·unfold Hm
  rw [if_neg (hd a z)]
  exact ha a z
 ·unfold L2.start
  simp [r.length,hN]
  omega
 ·rcases cases' i l e with ⟨d,e1,rfl⟩ | ⟨h,rfl⟩
  ·obtain ⟨v,e3,r3⟩:=r.get e1
   refine ⟨v,?_,r3.BC fun a z=>av a z⟩
   unfold L2.start
   have hi:i < vs.length:=(List.getElem?_eq_some_iff.mp e3).1
   rw [List.getElem?_append_left (by simpa using hi),List.getElem?_map,e3]
   rfl
  ·exact hm.gq (fun a z _=>by unfold Hm; rw [if_pos z]) fun a z=>.inl (av a z)
 ·rcases cases' i _ e1 with ⟨d,_,z⟩ | ⟨h,_⟩
  ·cases z
  ·rcases cases' j _ e2 with ⟨d,_,z⟩ | ⟨h',_⟩
   ·cases z
   ·rw [h,h']
theorem Vi{n:Nat}{μ':Mu}{H':Hp}{ρ:Env}{σ:L2.St}{cs':List Cell}(x:Xt μ μ')(s:StOk ⟨K,μ'⟩ (Hm ⟨K,μ⟩ cs H) A H' ρ σ)(e:DM n ρ=some cs'):MCh K A μ cs H μ' cs' H'∧∀ a,(A a∨Lv ⟨K,μ'⟩ cs' a)→Av ⟨K,μ'⟩ A ρ σ [] a:=by
 have he:=CM e
 have lo:=s.lo n _ he
 have av:∀ a,(A a∨Lv ⟨K,μ'⟩ cs' a)→Av ⟨K,μ'⟩ A ρ σ [] a:=fun a z=>z.imp id fun z=>⟨n,(fun q=>nomatch q),_,he,z⟩
 refine ⟨⟨x,fun a o e n=>s.same a o (by unfold Hm; rw [if_neg n]; exact e),fun a z=>?_,lo.gq (fun a _ _=>rfl) fun a z=>.inl (av a z)⟩,av⟩
 have q:=(lo.own (a:=a) z).2
 unfold Hm at q
 split at q
 ·exact .inl ‹_›
 ·exact .inr q
theorem Ye{N:List Str}{n:Nat}{ds:List Dt}{vs:List V}{g:Env→SOut}{ts:TS}{Q:VK}{E:XK}(hN:N.length=n + 1)(hl:ds.length≤n)(hd:IF K (fun c d _ H'=>E c d H') ts g)(r:Ah ⟨K,μ⟩ H (fun a=>A a∨Lv ⟨K,μ⟩ cs a) ds vs)
  (hm:ER ⟨K,μ⟩ kX H (fun a=>A a∨Lv ⟨K,μ⟩ cs a) (.mh cs) none) (ha:∀ a,A a→Mut (H a)) (hda:∀ a,A a→¬ Lv ⟨K,μ⟩ cs a) (hf:μ.fix=false)
  (h:Tj K A μ cs H Q E (runM n g ds cs)):ts { nx:=fun _ H'=>Q .non H',rt:=Q } (L2.start N vs) H:=by
 refine hd μ _ A _ _ H _ (RG hN hl r hm ha hda hf) ?_
 unfold runM at h
 cases e:g (ds.map (fun d=>some (Lo.sh d)) ++ List.replicate (n - ds.length) none ++ [some (.mh cs)]) with
 | ok fl ρ=>
  rw [e] at h
  cases fl with
  | nx=>
   intro μ' σ H' y s'
   simp only at h
   split at h
   ·rename_i cs' ec
    exact h μ' .non H' (Vi y s' ec).1 rfl
   ·exact False.elim h
  | rt d=>
   intro μ' v σ H' y s' r'
   simp only at h
   split at h
   ·rename_i cs' ec
    obtain ⟨m,av⟩:=Vi y s' ec
    exact h μ' v H' m (r'.BC av)
   ·exact False.elim h
  | bk=>exact h.elim
  | ct=>exact h.elim
 | exc x ρ=>
  rw [e] at h
  intro μ' σ H' c od y s' r'
  simp only at h
  split at h
  ·rename_i cs' ec
   exact h μ' c od H' (Vi y s' ec).1 r'
  ·exact False.elim h
 | bad=>rw [e] at h; exact h.elim
structure ClM (P:Program) (w:World) (K:PySem.W.Frag) (mg:Str→Option Value) (base:Heap) (x:Str) (k:Nat) (φ:List Dt→List Cell→MO):Prop where
 ex:∃ (f:Addr),FnR P w K mg base (L2N.CX P w) k f (fZ K φ)∧mg x=some (.ref f)∧PySem.W.keepIn K (.ref f)=true
theorem IM{x:Str}{f:Addr}{fd:FuncData}{ps:List Str}{k n:Nat}{φ:List Dt→List Cell→MO}(F:FnOk P w K mg base (L2N.CX P w) k f fd ps (M6 K n φ))(hm:mg x=some (.ref f))(hk:PySem.W.keepIn K (.ref f)=true)(hb:Binds K fd ps []):ClM P w K mg base x k (Li n φ):=by
 refine ⟨f,FnR.imp (F.raw hb .nil) (fun vs H Q E h=>?_),hm,hk⟩
 obtain ⟨ds,A,μ,cs,r,hm,ha,hd,hf,h⟩:=h
 unfold Li at h
 by_cases hl:ds.length=n
 ·rw [if_pos hl] at h
  rw [List.append_nil]
  exact ⟨by rw [r.length]; exact hl,ds,A,μ,cs,r,hm,ha,hd,hf,h⟩
 ·rw [if_neg hl] at h
  exact False.elim h
theorem FP{x qual:Str}{params:Arguments}{body:List Stmt}{scope:Scope}{dvs:List V}{kws:List (Str × V)}{f:Addr}{fd:FuncData}{N ps:List Str}{k n:Nat}{g:Env→SOut}(F:FunD K x qual params body scope dvs kws f fd)(S:FnScope N ps scope)(hN:N.length=n + 1)(hp:ps.length≤n)
  (hb:∀ (cdv:Value) (A:Around) (outer:List PySem.Env) (s:Shared) (H:Hp) (E:XK),Room k (A.deeper (envOfC qual scope s.heap.objs.size f cdv)) →
   Hn (cxOf (L2N.CX P w) P w K mg base N qual scope f cdv A outer s H E) (fun c d _ H'=>E c d H') body g):
  FnOk P w K mg base (L2N.CX P w) (k + 1) f fd ps (M6 K ps.length (runM n g)):=by
 refine F.ok S (fun vs H Q E h=>h.1) (fun cdv A outer s H vs Q E hr h=>?_)
 obtain ⟨hl,ds,A',μ,cs,r,hm,ha,hd,hf,h⟩:=h
 obtain ⟨ts,hp',hdd⟩:=hb cdv A outer s H E hr
 exact ⟨ts,hp',Ye hN (by rw [← r.length,hl]; exact hp) hdd r hm ha hd hf h⟩
end
def Fu(ρ:Env)(lk:List Nat)(d:Option Dt)(cs:List Cell):Bool:=lk.all (He ρ) || ((match d with
 | some d=>d.nl
 | none=>true) && cs.all Cell.nl && lk.all (Nh ρ))
def Aw(n:Nat)(φ:List Dt→List Cell→MO)(f:Env→XO (List Dt))(lk:List Nat):Env→XO Dt:=fun ρ=>(f ρ).bind fun ds ρ1=>match DM n ρ1 with
 | some cs=>(match φ ds cs with
  | .ok d cs'=>if Fu ρ1 lk (some d) cs'=true then .ok d (ρ1.set n (some (.mh cs'))) else .bad
  | .exc x cs'=>if Fu ρ1 lk none cs'=true then .exc x (ρ1.set n (some (.mh cs'))) else .bad
  | .bad=>.bad)
 | none=>.bad
section
variable {K:PySem.W.Frag} {S:List Nat} {σ:L2.St} {μ μ':Mu} {H H' H0:Hp} {ρ:Env} {A0:Ad} {lk:List Nat} {W:WX} {d:Dt} {v:V} {cs cs':List Cell} {n:Nat}
theorem Cell.nlOk{κ:KM}{A A':Ad}{c:Cell}{a:Addr}(hc:c.nl=true)(hm:∀ a,A' a→A a∨LD (H a))(h:Gi κ H0 H A c a):Gi κ H0 H A' c a:=by
 cases c with
 | gone=>exact h
 | lst ds=>obtain ⟨z,vs,e,r⟩:=h; exact ⟨z,vs,e,Ah.nl hm _ _ hc r⟩
 | dic ks ds=>obtain ⟨z,vs,e,e2,r⟩:=h; exact ⟨z,vs,e,e2,Ah.nl hm _ _ hc r⟩
 | ins C ns ds=>obtain ⟨z,dx,fs,e,e2,r⟩:=h; exact ⟨z,dx,fs,e,e2,Ah.nl hm _ _ hc r⟩
theorem dD(s:StOk ⟨K,μ⟩ H0 A0 H ρ σ)(e:ρ[n]? = some (some (.mh cs)))(hn:n∉lk){o:Option Dt}(hl:Fu ρ lk o cs'=true)(hk:∀ a o,H a=some o→¬ Lv ⟨K,μ⟩ cs a→H' a=some o):
  (∀ a,Av ⟨K,μ⟩ A0 ρ σ [n] a→Av ⟨K,μ⟩ A0 ρ σ (n :: lk) a)∨((∀ d,o=some d→d.nl=true)∧cs'.all Cell.nl=true∧∀ a,Av ⟨K,μ⟩ A0 ρ σ [n] a→Av ⟨K,μ⟩ A0 ρ σ (n :: lk) a∨LD (H' a)):=by
 unfold Fu at hl
 rw [Bool.or_eq_true] at hl
 rcases hl with hl | hl
 ·refine .inl fun a z=>?_
  rcases z with z | ⟨i,ni,l,e1,ho⟩
  ·exact .inl z
  ·refine .inr ⟨i,fun q=>?_,l,e1,ho⟩
   rcases List.mem_cons.mp q with q | q
   ·exact ni (List.mem_singleton.mpr q)
   ·have w:=List.all_eq_true.mp hl i q
    unfold He at w
    rw [e1] at w
    cases l with
    | sh d=>exact ho
    | _=>cases w
 ·rw [Bool.and_eq_true,Bool.and_eq_true] at hl
  obtain ⟨⟨h1,h2⟩,h3⟩:=hl
  refine .inr ⟨fun d z=>by rw [z] at h1; exact h1,h2,fun a z=>?_⟩
  rcases z with z | ⟨i,ni,l,e1,ho⟩
  ·exact .inl (.inl z)
  ·by_cases hi:i∈lk
   ·have w:=List.all_eq_true.mp h3 i hi
    unfold Nh at w
    rw [e1] at w
    have q:=(s.lo i l e1).W6 w ho
    obtain ⟨⟨u,hu⟩,_⟩:=s.B7 (i:=i) (a:=a) ⟨l,e1,ho⟩
    have nl:¬ Lv ⟨K,μ⟩ cs a:=fun z=>ni (List.mem_singleton.mpr (s.ap i n a ⟨l,e1,ho⟩ ⟨_,e,z⟩))
    refine .inr ?_
    rw [hk a u hu nl]
    rw [hu] at q
    exact q
   ·exact .inl (.inr ⟨i,fun q=>(List.mem_cons.mp q).elim (fun q=>ni (List.mem_singleton.mpr q)) hi,l,e1,ho⟩)
theorem StOk.called(s:StOk ⟨K,μ⟩ H0 A0 H ρ σ)(e:ρ[n]? = some (some (.mh cs)))(hn:n∉lk){o:Option Dt}(hl:Fu ρ lk o cs'=true)(m:MCh K (Av ⟨K,μ⟩ A0 ρ σ (n :: lk)) μ cs H μ' cs' H'):
  StOk ⟨K,μ'⟩ H0 A0 H' (ρ.set n (some (.mh cs'))) σ∧(n∈S→Ch K S σ μ H ρ μ' H' (ρ.set n (some (.mh cs')))) ∧
  (∀ d v,o=some d→Rep ⟨K,μ'⟩ H' (fun a=>Av ⟨K,μ⟩ A0 ρ σ (n :: lk) a∨Lv ⟨K,μ'⟩ cs' a) d v→Rep ⟨K,μ'⟩ H' (Av ⟨K,μ'⟩ A0 (ρ.set n (some (.mh cs'))) σ []) d v):=by
 have hi:n < σ.length:=by rw [s.len]; exact (List.getElem?_eq_some_iff.mp e).1
 have hnl:n < ρ.length:=(List.getElem?_eq_some_iff.mp e).1
 have lo0:∀ a,Lv ⟨K,μ⟩ cs a→H0 a=none:=fun a z=>(s.B7 (i:=n) ⟨_,e,z⟩).2
 have lv0:∀ a,Lv ⟨K,μ'⟩ cs' a→H0 a=none:=fun a z=>(m.own a z).elim (lo0 a) fun q=>s.same.free q
 have nown:∀ a,¬ Bj ⟨K,μ⟩ ρ σ n a→¬ Lv ⟨K,μ⟩ cs a:=fun a h z=>h ⟨_,e,z⟩
 have av:=dD s e hn hl m.keep
 have st:=StOk.NR (F:=K) (m:=μ) (m':=μ') (H':=H') s n (some (.mh cs')) σ[n] m.xt (.inr ⟨cs,e⟩) (fun a o q=>m.keep a o (s.same a o q) fun z=>by rw [lo0 a z] at q; cases q) (fun a o q h=>m.keep a o q (nown a h))
  (fun l e2 a h=>by cases e2; exact (m.own a h).imp (fun z=>⟨_,e,z⟩) id) (fun _ _=>⟨cs,e⟩) fun l e2 A' hA=>by
   cases e2
   rcases av with av | ⟨_,hc,av⟩
   ·exact m.ok.gq (fun a z _=>lv0 a z) fun a z=>.inl ((hA a z).imp (av a) id)
   ·obtain ⟨n1,n2,n3⟩:=m.ok
    refine ⟨n1,n2,fun k c a e1 e2=>?_⟩
    have hcc:=List.all_eq_true.mp hc c (List.mem_of_getElem? e1)
    have q:=Cell.nlOk (A':=A') hcc (fun a z=>(hA a z).elim (fun z=>(av a z).imp .inl id) fun z=>.inl (.inr z)) (n3 k c a e1 e2)
    exact q.gen (Xt.refl _) (fun _ _ _ e=>e) (fun _ z=>.inl z) (fun _ _ e=>e) fun hv _=>lv0 a ⟨k,c,e1,hv,e2⟩
 rw [C0 (List.getElem?_eq_getElem hi)] at st
 have av':∀ a,Av ⟨K,μ'⟩ A0 (ρ.set n (some (.mh cs'))) σ [] a→Av ⟨K,μ⟩ A0 ρ σ [n] a∨Lv ⟨K,μ'⟩ cs' a:=fun a z=>by
  rcases z with z | ⟨i,_,l,e1,ho⟩
  ·exact .inl (.inl z)
  ·by_cases h:n=i
   ·subst h
    rw [List.getElem?_set_self hnl] at e1
    cases e1
    exact .inr ho
   ·rw [List.getElem?_set_ne h] at e1
    refine .inl (.inr ⟨i,fun q=>h (List.mem_singleton.mp q).symm,l,e1,ho.ext fun q=>?_⟩)
    cases l with
    | mh c=>exact absurd (s.one n i _ _ e e1) h
    | _=>cases q
 refine ⟨st,fun hS=>⟨m.xt,fun a o q h=>m.keep a o q (nown a (h n hS)),fun j hj=>List.getElem?_set_ne fun (z:n=j)=>hj (by rw [← z]; exact hS),fun j a hj h=>?_,.inr fun j c q=>by rw [s.one j n _ _ q e]; exact hS⟩,fun d v eo r=>?_⟩
 ·obtain ⟨l,e1,ho⟩:=h
  by_cases h:n=j
  ·subst h
   rw [List.getElem?_set_self hnl] at e1
   cases e1
   exact (m.own a ho).imp (fun z=>⟨n,hS,_,e,z⟩) id
  ·rw [List.getElem?_set_ne h] at e1
   refine .inl ⟨j,hj,l,e1,ho.ext fun q=>?_⟩
   cases l with
   | mh c=>exact absurd (s.one n j _ _ e e1) h
   | _=>cases q
 ·rcases av with av | ⟨hd,_,av⟩
  ·exact r.BC fun a z=>(av' a z).imp (av a) id
  ·refine Rep.nl (fun a z=>?_) d v (hd d eo) r
   rcases av' a z with z | z
   ·exact (av a z).imp .inl id
   ·exact .inl (.inr z)
theorem YK{ta:TA}{fs:Env→XO (List Dt)}{φ:List Dt→List Cell→MO}(hS:n∈S)(hn:n∉lk)(ha:jH K W S ta fs lk):MR K W S (VE (fZ K φ) (WE W) ta) (Aw n φ fs lk) []:=by
 intro μ H0 A0 ρ σ H Q s h
 refine ha _ _ _ _ _ _ _ s (h.seq fun ds ρ1 _ h1 μ1 vs H1 c1 s1 r1=>?_)
 split at h1
 ·rename_i cs ec
  have e:=CM ec
  have lo:=s1.lo n _ e
  have avs:∀ a,(Av ⟨K,μ1⟩ A0 ρ1 σ (n :: lk) a∨Lv ⟨K,μ1⟩ cs a)→Av ⟨K,μ1⟩ A0 ρ1 σ lk a:=fun a z=>z.elim (fun z=>Av.sub (fun i hi=>List.mem_cons_of_mem _ hi) z) fun z=>.inr ⟨n,hn,_,e,z⟩
  refine ⟨ds,Av ⟨K,μ1⟩ A0 ρ1 σ (n :: lk),μ1,cs,r1.BC avs,lo.gq (fun a _ _=>rfl) (fun a z=>.inl (avs a z).nil),fun a z=>s1.Dj z,fun a z q=>?_,?_,?_⟩
  ·rcases z with z | ⟨i,ni,z⟩
   ·have q1:=s1.a0 a z
    rw [(s1.B7 (i:=n) ⟨_,e,q⟩).2] at q1
    exact q1
   ·exact ni (by rw [s1.ap i n a z ⟨_,e,q⟩]; exact List.mem_cons_self)
  ·cases hf:μ1.fix with
   | false=>rfl
   | true=>exact absurd e (s1.nm hf n cs)
  ·unfold Tj
   cases eo:φ ds cs with
   | ok d cs'=>
    rw [eo] at h1
    simp only at h1
    split at h1
    ·rename_i hl
     intro μ' v H' m r
     obtain ⟨st,ch,rp⟩:=s1.called (S:=S) e hn hl m
     exact h1 μ' v H' (c1.trans (ch hS)) st (rp d v rfl r)
    ·exact False.elim h1
   | exc x cs'=>
    rw [eo] at h1
    simp only at h1
    split at h1
    ·rename_i hl
     intro μ' c od H' m r
     obtain ⟨st,ch,rp⟩:=s1.called (S:=S) e hn hl m
     exact h1 μ' H' c od (c1.xt.trans m.xt) st r
    ·exact False.elim h1
   | bad=>rw [eo] at h1; exact h1
 ·exact False.elim h1
end
end FD
namespace FD
open PySem L2 PyProof.Rows PySem.Spec
def Cell.d:Cell→Option Dt
 | .lst ds=>some (.lst ds)
 | .dic ks ds=>some (.dic ks ds)
 | .ins C ns ds=>some (.obj C ns ds)
 | .gone=>none
def Zj(cs:Option (List Cell))(d:Dt):Option Dt:=match d with
 | .ad k=>cs.bind fun cs=>(cs[k]?).bind Cell.d
 | d=>some d
def IB(n:Nat)(f:Env→Out Dt):Env→Out Dt:=fun ρ=>(f ρ).bind fun d=>FU (Zj (DM n ρ) d)
section
variable {K:PySem.W.Frag} {S:List Nat} {σ:L2.St} {μ μ':Mu} {H H' H0:Hp} {ρ:Env} {A0:Ad} {lk la lb:List Nat} {W:WX} {d:Dt} {v:V} {cs cs':List Cell} {n:Nat}
theorem Ni(s:StOk ⟨K,μ⟩ H0 A0 H ρ σ){k:Nat}{ds:List Dt}{b:Addr}(ec:DM n ρ=some cs)(e1:cs[k]? = some (.lst ds))(eb:μ.l[k]? = some b):∃ vs,H b=some (.lst vs)∧H0 b=none∧Ah ⟨K,μ⟩ H (Av ⟨K,μ⟩ A0 ρ σ []) ds vs:=by
 obtain ⟨_,_,hc⟩:=s.lo n _ (CM ec)
 obtain ⟨z,vs,h1,r⟩:=hc k _ b e1 eb
 exact ⟨vs,h1,z,r⟩
theorem ZV(i:Nat){tb:TE}{fb:Env→Out Dt}(hb:Dx K W tb fb lb):Dx K W (tOp (rIx K) (tVar i) tb) (e2 (IB n (Aa i)) fb AW) []:=by
 intro μ H0 A0 ρ σ H Q s h
 unfold e2 IB Aa at h
 split at h
 ·exact False.elim h
 ·rename_i l hn e
  simp only [Out.Au] at h
  by_cases hk:∃ k,l=.sh (.ad k)
  ·obtain ⟨k,rfl⟩:=hk
   obtain ⟨v,e4,r4⟩:=s.lo i _ e
   unfold Rep at r4
   obtain ⟨b,eb,rfl⟩:=r4
   refine ⟨_,e4,?_⟩
   cases ed:Zj (DM n ρ) (Lo.sh (.ad k)).d with
   | none=>rw [ed] at h; exact False.elim h
   | some x=>
    rw [ed] at h
    simp only [BI,Out.Au] at h
    refine hb _ _ _ _ _ _ _ s (h.seq fun y _ h2 v2 H2 s2 r2=>?_)
    obtain ⟨d,e3,q⟩:=BM h2
    obtain ⟨cs,ec,e'⟩:=Option.bind_eq_some_iff.mp (show (DM n ρ).bind (fun cs=>(cs[k]?).bind Cell.d)=some x from ed)
    obtain ⟨c,e1,e2⟩:=Option.bind_eq_some_iff.mp e'
    cases c with
    | gone=>cases e2
    | dic ks ds=>cases e2; cases y <;> cases e3
    | ins C ns ds=>cases e2; cases y <;> cases e3
    | lst ds=>
     cases e2
     cases y <;> try (cases e3; done)
     rename_i z _
     obtain ⟨vs,h1,_,r⟩:=Ni s ec e1 eb
     have e5:v2=.int z:=r2
     subst e5
     obtain ⟨w,e6,r6⟩:=(r.same s2).at (show atI ds z=some d from e3)
     exact .inl ⟨b,vs,z,w,rfl,rfl,SqL.of (s2 _ _ h1),e6,q _ _ s2 r6⟩
  ·refine W8 (W:=W) i hb μ H0 A0 ρ σ H Q s ?_
   have hd:Zj (DM n ρ) l.d=some l.d:=by
    cases l with
    | sh d=>
     cases d with
     | ad k=>exact absurd ⟨k,rfl⟩ hk
     | _=>rfl
    | ol ds=>rfl
    | od ks ds=>rfl
    | ot ks ds=>rfl
    | mh cs=>exact (hn cs rfl).elim
   rw [hd] at h
   have ev:Aa i ρ=.ok l.d:=by
    unfold Aa
    rw [e]
    cases l with
    | mh cs=>exact (hn cs rfl).elim
    | _=>rfl
   unfold e2
   rw [ev]
   exact h
 ·exact False.elim h
def c9(n:Nat)(x i d:Dt)(ρ:Env):Option Env:=match x,i with
 | .ad k,.int z=>(DM n ρ).bind fun cs=>match cs[k]? with
  | some (.lst ds)=>(ixN ds.length z).map fun j=>ρ.set n (some (.mh (cs.set k (.lst (ds.set j d)))))
  | _=>none
 | _,_=>none
def Ko(n:Nat)(fx fi:Env→Out Dt)(f:Env→XO Dt)(lk:List Nat):Env→SOut:=fun ρ=>xE (f ρ) fun d ρ1=>HU (fx (AL d lk ρ1)) (AL d lk ρ1) fun x=>HU (fi (AL d lk ρ1)) (AL d lk ρ1) fun i=>match c9 n x i d (AL d lk ρ1) with
 | some ρ'=>.ok .nx ρ'
 | none=>.bad
theorem Vm{te tx ti:TE}{f:Env→XO Dt}{fx fi:Env→Out Dt}(ha:MR K W S te f lk)(hx:Dx K W tx fx la)(hi:Dx K W ti fi lb):IF K W (tAsg te (gSub tx ti rSetL)) (Ko n fx fi f lk):=by
 intro μ H0 A0 ρ σ H D s h
 unfold Ko at h
 refine ha _ _ _ _ _ _ _ s (AY.xt h fun d ρ1 _ h1 μ1 v H1 c1 s1 r1=>?_)
 obtain ⟨s2,r2⟩:=s1.Td r1
 refine hx _ _ _ _ _ _ _ s2 (AY.st s2 (h1.ext c1.xt) fun x _ h2 w H2 g2 rx=>?_)
 have s3:=s2.grow g2
 refine hi _ _ _ _ _ _ _ s3 (AY.st s3 h2 fun i _ h3 w' H3 g3 ri=>?_)
 have s4:=s3.grow g3
 split at h3
 ·rename_i ρ' ep
  unfold c9 at ep
  split at ep
  ·rename_i k z _ _
   obtain ⟨cs,ec,ep⟩:=Option.bind_eq_some_iff.mp ep
   split at ep
   ·rename_i ds e1
    obtain ⟨j,ej,rfl⟩:=Option.map_eq_some_iff.mp ep
    unfold Rep at rx
    obtain ⟨b,eb,rfl⟩:=rx
    obtain ⟨vs,hb,h0,r⟩:=Ni s4 ec e1 eb
    refine ⟨b,vs,z,j,rfl,ri,hb,by rw [r.length]; exact ej,?_⟩
    refine h3 _ _ _ (Xt.refl _) (s4.b0 (CM ec) e1 rfl eb rfl fun A' hA=>?_)
    have ow:Bj ⟨K,μ1⟩ (AL d lk ρ1) σ n b:=⟨_,CM ec,k,_,e1,rfl,eb⟩
    exact ⟨h0,_,upd_same,(Ah.set j r ((r2.same g2).same g3)).mono (Av.keep ow) hA⟩
   ·cases ep
  ·cases ep
 ·exact False.elim h3
theorem Ah.erase{κ:KM}{A:Ad}:∀ {ds:List Dt} {vs:List V} (i:Nat),Ah κ H A ds vs→Ah κ H A (ds.eraseIdx i) (vs.eraseIdx i)
 | [],_,_,r=>by unfold Ah at r; subst r; exact Ah.nil
 | _ :: _,_,0,r=>by
  unfold Ah at r
  obtain ⟨v,q,rfl,r1,r2⟩:=r
  exact r2
 | _ :: _,_,i + 1,r=>by
  unfold Ah at r
  obtain ⟨v,q,rfl,r1,r2⟩:=r
  exact Ah.cons r1 (Ah.erase i r2)
theorem Ch.one(s:StOk ⟨K,μ⟩ H0 A0 H ρ σ){i:Nat}{l l':Lo}{b:Addr}{u:HO}(hS:i∈S)(e:ρ[i]? = some (some l))(ow:Bj ⟨K,μ⟩ ρ σ i b)(hl:∀ a,CS ⟨K,μ⟩ l' σ[i]? a→CS ⟨K,μ⟩ l σ[i]? a):Ch K S σ μ H ρ μ (upd H b u) (ρ.set i (some l')):=by
 refine ⟨Xt.refl _,fun a o q nn=>?_,fun j hj=>List.getElem?_set_ne fun (z:i=j)=>hj (by rw [← z]; exact hS),fun j a hj h=>?_,.inl rfl⟩
 ·rw [upd_ne fun z=>by subst z; exact nn i hS ow]
  exact q
 ·obtain ⟨l2,e1,ho⟩:=h
  by_cases hij:i=j
  ·subst hij
   rw [List.getElem?_set_self (List.getElem?_eq_some_iff.mp e).1] at e1
   cases e1
   exact .inl ⟨i,hj,l,e,hl a ho⟩
  ·rw [List.getElem?_set_ne hij] at e1
   exact .inl ⟨j,hj,l2,e1,ho⟩
def bX(n:Nat)(f:Env→XO (List Dt))(lk:List Nat):Env→XO Dt:=fun ρ=>(f ρ).bind fun ds ρ1=>match DM n ρ1 with
 | some cs=>if (lk.all (He ρ1) || Dt.DK ds || (Dt.Yy ds && lk.all (Nh ρ1)))=true then .ok (.ad cs.length) (ρ1.set n (some (.mh (cs ++ [.lst ds])))) else .bad
 | none=>.bad
theorem eU{te:TE}{f:Env→XO (List Dt)}(hS:n∈S)(hn:n∉lk)(ha:TXL K W S te f lk):MR K W S te (bX n f lk) []:=by
 intro μ H0 A0 ρ σ H Q s h
 refine ha _ _ _ _ _ _ _ s (h.seq fun ds ρ1 _ h1 μ1 p vs H1 H2 c1 s1 hs hp hp' r=>?_)
 split at h1
 ·rename_i cs ec
  split at h1
  ·rename_i hc
   have e:=CM ec
   obtain ⟨nd,hlen,_⟩:=s1.lo n _ e
   have rr:Ah ⟨K,μ1⟩ H2 (fun a=>Av ⟨K,μ1⟩ A0 ρ1 σ [] a∨a=p) ds vs:=by
    rw [Bool.or_eq_true,Bool.or_eq_true,Bool.and_eq_true] at hc
    rcases hc with (hc | hc) | ⟨hc,hl⟩
    ·refine r.BC fun a z=>z.imp (fun z=>?_) id
     rcases z with z | ⟨i,ni,l,e1,ho⟩
     ·exact .inl z
     ·refine .inr ⟨i,fun q=>?_,l,e1,ho⟩
      have w:=List.all_eq_true.mp hc i q
      unfold He at w
      rw [e1] at w
      cases l with
      | sh d=>exact ho
      | _=>cases w
    ·refine Ah.pure (fun a z=>?_) ds vs hc r
     rcases z with z | z
     ·exact (s1.grow hs).Dj z
     ·rw [z,hp']; exact trivial
    ·refine Ah.nl (fun a z=>?_) ds vs hc r
     rcases z with (z | ⟨i,ni,l,e1,ho⟩) | z
     ·exact .inl (.inl (.inl z))
     ·by_cases hi:i∈lk
      ·have w:=List.all_eq_true.mp hl i hi
       unfold Nh at w
       rw [e1] at w
       exact .inr (((s1.grow hs).lo i l e1).W6 w ho)
      ·exact .inl (.inl (.inr ⟨i,hi,l,e1,ho⟩))
     ·exact .inl (.inr z)
   have hm:Xt μ1 (μ1.push p):=⟨fun k a h=>by show (μ1.l ++ [p])[k]? = _; rw [List.getElem?_append_left (List.getElem?_eq_some_iff.mp h).1]; exact h,rfl,fun z=>by exact absurd e (s1.nm z n cs)⟩
   have st:=s1.alloc (c:=.lst ds) e hs hp fun A' hA=>⟨s1.same.free hp,vs,hp',(rr.ext hm).BC fun a z=>hA a z⟩
   have own':∀ a,CS ⟨K,μ1.push p⟩ (.mh (cs ++ [.lst ds])) σ[n]? a→CS ⟨K,μ1⟩ (.mh cs) σ[n]? a∨a=p:=fun a ⟨k,c,f1,f2,f3⟩=>by
    have f3':(μ1.l ++ [p])[k]? = some a:=f3
    by_cases hk:k < cs.length
    ·rw [List.getElem?_append_left hk] at f1
     rw [List.getElem?_append_left (by rw [← hlen]; exact hk)] at f3'
     exact .inl ⟨k,c,f1,f2,f3'⟩
    ·have hk2:=(List.getElem?_eq_some_iff.mp f1).1
     rw [List.length_append,List.length_singleton] at hk2
     rw [List.getElem?_append_right (by rw [← hlen]; show cs.length≤k; omega)] at f3'
     have:k - μ1.l.length=0:=by rw [← hlen]; show k - cs.length=0; omega
     rw [this] at f3'
     cases f3'
     exact .inr rfl
   have ch:Ch K S σ μ1 H1 ρ1 (μ1.push p) H2 (ρ1.set n (some (.mh (cs ++ [.lst ds])))):=by
    refine ⟨hm,fun a o q _=>hs a o q,fun j hj=>List.getElem?_set_ne fun (z:n=j)=>hj (by rw [← z]; exact hS),fun j a hj h=>?_,.inr fun j c q=>by rw [s1.one j n _ _ q e]; exact hS⟩
    ·obtain ⟨l,e1,ho⟩:=h
     by_cases hn:n=j
     ·subst hn
      rw [List.getElem?_set_self (List.getElem?_eq_some_iff.mp e).1] at e1
      cases e1
      exact (own' a ho).imp (fun z=>⟨n,hS,_,e,z⟩) fun z=>by rw [z]; exact hp
     ·rw [List.getElem?_set_ne hn] at e1
      refine .inl ⟨j,hj,l,e1,ho.ext fun q=>?_⟩
      cases l with
      | mh c=>exact absurd (s1.one n j _ _ e e1) hn
      | _=>cases q
   refine h1 _ _ H2 (c1.trans ch) st ?_
   unfold Rep
   refine ⟨p,?_,rfl⟩
   show (μ1.l ++ [p])[cs.length]? = some p
   rw [show cs.length=μ1.l.length from hlen,List.getElem?_append_right (Nat.le_refl _),Nat.sub_self]
   rfl
  ·exact False.elim h1
 ·exact False.elim h1
end
end FD
namespace FD
open PySem L2 PyProof.Rows PySem.Spec
section
variable {K:PySem.W.Frag} {S:List Nat} {σ:L2.St} {μ μ':Mu} {H H' H0:Hp} {ρ:Env} {A0:Ad} {lk la lb:List Nat} {W:WX} {d:Dt} {v:V} {n:Nat} {α β:Type}
theorem dj(i:Nat){tb:TE}{fb:Env→XO Dt}(hi:i∉S)(hb:MR K W S tb fb lb):MR K W S (tOp (rIx K) (tVar i) tb) (x2 (xP (Aa i)) fb AW) []:=by
 intro μ H0 A0 ρ σ H Q s h
 unfold x2 xP Aa at h
 split at h
 ·exact False.elim h
 ·rename_i l hn e
  simp only [Out.XR,XO.Au] at h
  have hmh:l.Ui=false:=by cases l with | mh cs=>exact (hn cs rfl).elim | _=>rfl
  obtain ⟨v,e1,r1⟩:=s.val e hmh
  refine ⟨v,e1,?_⟩
  refine hb _ _ _ _ _ _ _ s (h.seq fun b ρ2 eb h2 μ2 v2 H2 c2 s2 r2=>?_)
  clear eb
  obtain ⟨d,e3,q⟩:=h2.o
  have e2:ρ2[i]? = some (some l):=by rw [c2.env i hi]; exact e
  have lo:=s2.lo i l e2
  cases l with
  | sh d'=>
   obtain ⟨u,e4,r4⟩:=lo
   rw [e1] at e4
   cases e4
   exact Sw (K:=K) μ2 H2 (Av ⟨K,μ2⟩ A0 ρ2 σ []) d' b d v v2 Q (fun c z=>s2.Ld z) r4 (WI e3 r2) e3 fun v H' hs r=>q μ2 v H' (c2.grow hs) (s2.grow hs) r
  | ol ds=>
   obtain ⟨a,vs,e4,h0,h1,r4⟩:=lo
   rw [e1] at e4
   cases e4
   cases b <;> try (cases e3; done)
   rename_i k
   have e5:v2=.int k:=r2
   subst e5
   obtain ⟨w,e6,r6⟩:=r4.at (show atI ds k=some d from e3)
   exact .inl ⟨a,vs,k,w,rfl,rfl,SqL.of h1,e6,q μ2 _ _ c2 s2 r6⟩
  | od ks ds=>cases b <;> cases e3
  | ot ks ds=>cases b <;> cases e3
  | mh cs=>cases hmh
 ·exact False.elim h
def TXI(K:PySem.W.Frag)(W:WX)(S:List Nat)(wi:TI)(f:Env→XO (List Dt))(lk:List Nat):Prop:=
 ∀ (μ:Mu) (H0:Hp) (A0:Ad) (ρ:Env) (σ:L2.St) (H:Hp) (R:It→Hp→Prop),StOk ⟨K,μ⟩ H0 A0 H ρ σ→CN K W μ H0 A0 σ (f ρ) (fun ds ρ'=>∀ μ' J H',Ch K S σ μ H ρ μ' H' ρ'→StOk ⟨K,μ'⟩ H0 A0 H' ρ' σ→Walks ⟨K,μ'⟩ (Bs ⟨K,μ'⟩ H' ρ' σ lk) A0 J ds→R J H')→wi σ H R
def PXI(X:Cx)(W:WX)(S:List Nat)(tg iter:Expr)(f:Env→XO (List Dt))(lk:List Nat):Prop:=∃ wi,PI X tg iter wi∧TXI X.K W S wi f lk
def RC(u:Dt→Env→Option Env)(f:Env→XO (List Dt))(lk:List Nat)(b:Env→SOut):Env→SOut:=fun ρ=>xE (f ρ) fun ds ρ=>BA u b ds (frz lk ρ)
theorem aN{wi:TI}{g:TG}{tb:TS}{u:Dt→Env→Option Env}{f:Env→XO (List Dt)}{b:Env→SOut}{T:List Nat}(hi:TXI K W S wi f lk)(hg:Y9 K g u T)(hb:IF K W tb b):IF K W (tFor wi g tb) (RC u f lk b):=by
 intro μ0 H0 A0 ρ0 σ Ha D s0 h0
 refine hi _ _ _ _ _ _ _ s0 (AY.xt h0 fun ds ρ _ h1 μ J H1 c1 s w=>?_)
 have h1:=AY.ext c1.xt h1
 obtain ⟨sB,hB⟩:=s.rebase (Same.refl _) lk
 have h2:=h1.weaken hB s.a0
 refine ⟨fun i m σ' H'=>m + i=ds.length∧∃ μ' ρ',Xt μ μ'∧StOk ⟨K,μ'⟩ (Bs ⟨K,μ⟩ H1 ρ σ lk) A0 H' ρ' σ'∧AY K W μ' (Bs ⟨K,μ⟩ H1 ρ σ lk) A0 (BA u b (ds.drop i) ρ') D,⟨ds.length,by omega,_,_,Xt.refl _,sB,h2⟩,?_⟩
 rintro i m σ2 H2 ⟨hm,μ2,ρ2,x2,s2,h3⟩
 by_cases hlt:i < ds.length
 ·have hd:ds.drop i=ds[i] :: ds.drop (i + 1):=List.drop_eq_getElem_cons hlt
  rw [hd,Nu] at h3
  refine .inr ⟨w.go i H2 s2.same hlt,fun σ' H'=>∃ μ' ρ',Xt μ μ'∧StOk ⟨K,μ'⟩ (Bs ⟨K,μ⟩ H1 ρ σ lk) A0 H' ρ' σ'∧AY K W μ' (Bs ⟨K,μ⟩ H1 ρ σ lk) A0 (BA u b (ds.drop (i + 1)) ρ') D,fun σ' H' q=>⟨m - 1,by omega,by omega,q⟩,fun x H3 y=>?_⟩
  obtain ⟨s3,r3⟩:=w.yld i H2 x H3 ds[i] s2.same y (List.getElem?_eq_getElem hlt)
  have r4:Rep ⟨K,μ2⟩ H3 (Av ⟨K,μ2⟩ A0 ρ2 σ2 []) ds[i] x:=Rep.ext x2 <| r3 _ fun a z=>⟨z.elim .inl fun z=>.inr (s2.RH (lk:=[]) z),s2.Ld z⟩
  split at h3
  ·exact False.elim h3
  ·rename_i ρ3 e3
   refine hg _ _ _ _ _ _ _ _ _ _ (s2.grow s3) r4 e3 fun σ4 s4 _ _=>?_
   refine hb _ _ _ _ _ _ _ s4 ?_
   cases e:b ρ3 with
   | ok fl ρ'=>
    rw [e] at h3
    cases fl with
    | nx=>exact fun μ' σ' H' y s'=>⟨μ',ρ',x2.trans y,s',h3.ext y⟩
    | ct=>exact fun μ' σ' H' y s'=>⟨μ',ρ',x2.trans y,s',h3.ext y⟩
    | bk=>exact fun μ' σ' H' y s'=>h3 μ' σ' H' y s'
    | rt d=>exact h3
   | exc x ρ'=>rw [e] at h3; exact h3
   | bad=>rw [e] at h3; exact h3
 ·have e:i=ds.length:=by omega
  subst e
  rw [List.drop_length] at h3
  exact .inl ⟨w.stop H2 s2.same,h3 _ σ2 H2 (Xt.refl _) s2⟩
def Ji(f:Env→XO (List Dt)):Env→XO (List Dt):=fun ρ=>(f ρ).bind fun ds ρ1=>(FU (Yu ds)).x ρ1
theorem Yc{a:Dt}{es:List Dt}(e:Yu [a]=some es):∃ j,a=.int j∧ED j=true∧es=Ik 0 j.toNat:=by
 cases a <;> try (cases e; done)
 rename_i j
 rw [I7] at e
 obtain ⟨c,rfl⟩:=Bf e
 exact ⟨j,rfl,c,rfl⟩
theorem a9{ta:TA}{f:Env→XO (List Dt)}(hn:∀ ρ ds ρ',f ρ=.ok ds ρ'→ds.length=1)(ha:jH K W S ta f lk):TXI K W S (iRng1 ta) (Ji f) []:=by
 intro μ H0 A0 ρ σ H R s h
 unfold Ji at h
 refine ha _ _ _ _ _ _ _ s (h.seq fun ds ρ1 e0 h1 μ1 vs H1 c1 s1 r1=>?_)
 obtain ⟨es,e,q⟩:=h1.o
 match ds,hn ρ ds ρ1 e0,e,r1 with
 | [a],_,e,r1=>
  obtain ⟨j,rfl,c,rfl⟩:=Yc e
  obtain ⟨v,rfl,r⟩:=CO r1
  have e1:v=.int j:=r
  subst e1
  rw [Pa] at c
  exact ⟨j,rfl,c.1,c.2,q μ1 _ H1 c1 s1 (RX 0 _ _)⟩
theorem iO{k:Nat}{f:Env→Out (List Dt)}(h:∀ ρ ds,f ρ=.ok ds→ds.length=k):∀ ρ ds ρ',xP f ρ=.ok ds ρ'→ds.length=k:=fun ρ ds ρ' e=>by
 unfold xP at e
 cases hf:f ρ with
 | ok a=>rw [hf] at e; cases e; exact h ρ _ hf
 | exc x=>rw [hf] at e; cases e
 | bad=>rw [hf] at e; cases e
theorem Y2{k:Nat}{f:Env→XO Dt}{g:Env→XO (List Dt)}(h:∀ ρ ds ρ',g ρ=.ok ds ρ'→ds.length=k):∀ ρ ds ρ',Mf f g ρ=.ok ds ρ'→ds.length=k + 1:=fun ρ ds ρ' e=>by
 unfold Mf at e
 cases hf:f ρ with
 | ok a ρ1=>
  rw [hf] at e
  simp only [XO.Au] at e
  cases hg:g ρ1 with
  | ok as ρ2=>
   rw [hg] at e
   cases e
   rw [List.length_cons,h _ _ _ hg]
  | exc x ρ=>rw [hg] at e; cases e
  | bad=>rw [hg] at e; cases e
 | exc x ρ=>rw [hf] at e; cases e
 | bad=>rw [hf] at e; cases e
end
end FD
namespace FD
open PySem L2 PyProof.Rows PySem.Spec
section
variable {K:PySem.W.Frag} {κ:KM} {S:List Nat} {σ:L2.St} {μ μ':Mu} {H H' H0:Hp} {ρ:Env} {A0:Ad} {lk la lb:List Nat} {W:WX} {d:Dt} {v:V} {n:Nat} {D:Addr} {u:HO}
theorem StOk.kW(s:StOk κ H0 A0 H ρ σ)(hD:H D=none)(mu:Mut (some u)):StOk κ (upd H0 D u) (fun a=>A0 a∨a=D) (upd H D u) ρ σ:=by
 have h0:H0 D=none:=s.same.free hD
 have no:∀ i,¬ Bj κ ρ σ i D:=fun i h=>by
  obtain ⟨⟨o,e⟩,_⟩:=s.B7 h
  rw [hD] at e
  cases e
 refine ⟨fun a o e=>?_,fun a z=>?_,s.len,fun i l e=>ER.gen (F:=κ.K) (m:=κ.mu) (m':=κ.mu) (Xt.refl _) (fun _=>rfl) (fun a o _ q=>?_) (fun a z=>?_) (fun a ho o q=>?_) (fun a ho z=>?_) (s.lo i l e),s.ap,s.one,s.nm⟩
 ·by_cases h:a=D
  ·subst h; rw [upd_same] at e ⊢; exact e
  ·rw [upd_ne h] at e ⊢; exact s.same a o e
 ·rcases z with z | z
  ·rw [upd_ne fun h=>by subst h; have q:=s.a0 a z; rw [h0] at q; exact q]
   exact s.a0 a z
  ·rw [z,upd_same]; exact mu
 ·rw [upd_ne (ne_of_none q hD)]; exact q
 ·rcases z with (z | z) | z
  ·exact .inl (.inl z)
  ·rw [z]; exact .inr hD
  ·exact .inl (.inr z)
 ·rw [upd_ne (ne_of_none q hD)]; exact q
 ·rw [upd_ne fun h=>by subst h; exact no i ⟨l,e,ho⟩]; exact z
def delD(D:Addr)(H:Hp):Hp:=fun a=>if a=D then none else H a
theorem KD{a:Addr}(h:a≠D):delD D H a=H a:=by unfold delD; rw [if_neg h]
theorem Su:delD D H D=none:=by unfold delD; rw [if_pos rfl]
theorem StOk.outD(s:StOk κ (upd H0 D u) (fun a=>A0 a∨a=D) H ρ σ)(h0:H0 D=none)(ha:∀ a,A0 a→Mut (H0 a)):StOk κ H0 A0 (delD D H) ρ σ:=by
 have no:∀ i a,Bj κ ρ σ i a→a≠D:=fun i a h z=>by
  have q:=(s.B7 h).2
  rw [z,upd_same] at q
  cases q
 refine ⟨fun a o e=>?_,ha,s.len,fun i l e=>ER.gen (F:=κ.K) (m:=κ.mu) (m':=κ.mu) (Xt.refl _) (fun _=>rfl) (fun a o n q=>?_) (fun a z=>?_) (fun a ho o q=>?_) (fun a ho z=>?_) (s.lo i l e),s.ap,s.one,s.nm⟩
 ·have ne:=ne_of_none e h0
  rw [KD ne]
  exact s.same a o (by rw [upd_ne ne]; exact e)
 ·rw [KD fun z=>by subst z; exact n (.inl (.inr rfl))]; exact q
 ·exact .inl (z.imp .inl id)
 ·rw [KD (no i a ⟨l,e,ho⟩)]; exact q
 ·rw [upd_ne (no i a ⟨l,e,ho⟩)] at z; exact z
end
end FD
namespace FD
open PySem L2 PyProof.Rows PySem.Spec
section
variable {X:Cx} {W:WX} {S:List Nat} {e a b c iter tg:Expr} {f fa fb fc:Env→XO Dt} {fs:Env→XO (List Dt)} {ft fu:Env→XO Bool} {lk la lb lc:List Nat} {p pos:Pos} {st:Stmt} {rest body els:List Stmt} {g h:Env→SOut} {u:Dt→Env→Option Env} {es:List Expr} {n:Nat}
theorem Jq{f:Env→Out Dt}(h:Bc X W e f lk):KR X W S e (xP f) lk:=by
 obtain ⟨t,p,d⟩:=h
 exact ⟨_,p,j7 d⟩
theorem Cf{f:Env→Out (List Dt)}(h:JL X W es f lk):j4 X W S es (xP f) lk:=by
 obtain ⟨t,p,d⟩:=h
 exact ⟨_,p,kz d⟩
theorem kH{f:Env→Out Bool}(h:Vb X W e f lk):eM X W S e (xP f):=by
 obtain ⟨t,p,d⟩:=h
 exact ⟨_,p,lh d⟩
theorem Oz(ha:KR X W S a fa la)(hb:KR X W S b fb lb)(hd:∀ i,i∈S→i∉la:=by decide):KR X W S (.BinOp a .Add b pos) (x2 fa fb AX) (la ++ lb):=by
 obtain ⟨ta,pa,da⟩:=ha
 obtain ⟨tb,pb,db⟩:=hb
 exact ⟨_,pe_op WN pa pb,f6 (Rx.or Sk (Rx.or WL (Rx.or WJ Wi))) da db hd⟩
theorem iW(ha:KR X W S a fa la)(hb:KR X W S b fb lb)(hd:∀ i,i∈S→i∉la:=by decide):KR X W S (.BinOp a .Sub b pos) (x2 fa fb (QX (· - ·))) []:=by
 obtain ⟨ta,pa,da⟩:=ha
 obtain ⟨tb,pb,db⟩:=hb
 exact ⟨_,pe_op op_sub pa pb,jw Sk U0 da db hd⟩
theorem px_c{op:CmpOp}{g:Dt→Dt→Option Bool}(h:Cmp X op g)(ha:KR X W S a fa la)(hb:KR X W S b fb lb)(hd:∀ i,i∈S→i∉la:=by decide)(hm:behindInMarks op b=false:=by first | exact nomark _ | rfl):KR X W S (.Compare a [op] [b] pos) (xT (Xw fa fb g)) []:=by
 obtain ⟨r,h1,h2⟩:=h.ex
 obtain ⟨ta,pa,da⟩:=ha
 obtain ⟨tb,pb,db⟩:=hb
 exact ⟨_,pe_cmpR h1 pa pb hm,ff h2 da db hd⟩
theorem Zi{op:CmpOp}{g:Dt→Dt→Option Bool}(h:Cmp X op g)(ha:KR X W S a fa la)(hb:KR X W S b fb lb)(hd:∀ i,i∈S→i∉la:=by decide)(hm:behindInMarks op b=false:=by first | exact nomark _ | rfl):eM X W S (.Compare a [op] [b] pos) (Xw fa fb g):=by
 obtain ⟨r,h1,h2⟩:=h.ex
 obtain ⟨ta,pa,da⟩:=ha
 obtain ⟨tb,pb,db⟩:=hb
 exact ⟨_,pt_cmpR h1 pa pb hm,jN h2 da db hd⟩
theorem dQ(ha:eM X W S a ft):PXW X W S (.BoolOp .Or [a] pos) ft:=by
 obtain ⟨ta,pa,da⟩:=ha
 exact ⟨_,pw_or1 pa,da⟩
theorem iR{rest:List Expr}(ha:eM X W S a ft)(hb:PXW X W S (.BoolOp .Or (b :: rest) pos) fu):PXW X W S (.BoolOp .Or (a :: b :: rest) pos) (Z8 ft fu):=by
 obtain ⟨ta,pa,da⟩:=ha
 obtain ⟨tb,pb,db⟩:=hb
 exact ⟨_,pw_or pa pb,iT da db⟩
theorem pxtw(ha:PXW X W S e ft):eM X W S e ft:=by
 obtain ⟨ta,pa,da⟩:=ha
 exact ⟨_,pa.pt,da⟩
theorem Tq(ha:eM X W S a ft):eM X W S (.UnaryOp .Not a pos) (L8 ft):=by
 obtain ⟨ta,pa,da⟩:=ha
 exact ⟨_,pt_not pa,cP da⟩
theorem lu{K:PySem.W.Frag}{ta:TE}(ha:MR K W S ta fa la):Y8 K W S (fun σ H Q=>ta σ H fun x H1=>∃ k,TruV K x H1 k∧Q k H1) (cZ fa A2):=by
 intro μ H0 A0 ρ σ H Q s h
 refine ha _ _ _ _ _ _ _ s (h.seq fun a ρ1 _ h1 μ1 v1 H1 c1 s1 r1=>?_)
 obtain ⟨k,e,q⟩:=h1.o
 exact ⟨k,WQ r1 e,q μ1 H1 c1 s1⟩
theorem ZJ(ha:KR X W S a fa la)(he:∀ whole,isTrue a X.env whole=(do let v ← whole; standAt a.pos; holding [v] (truthy v)):=by intro _; rfl):eM X W S a (cZ fa A2):=by
 obtain ⟨ta,pa,da⟩:=ha
 exact ⟨_,pt_truth pa he,lu da⟩
theorem ai(ha:KR X W S e fa la)(hr:j4 X W S es fs lb)(hd:∀ i,i∈S→i∉la:=by decide)(hs:starEach (e :: es) X.env=(false,eval e X.env) :: starEach es X.env:=by rfl):j4 X W S (e :: es) (Mf fa fs) (la ++ lb):=by
 obtain ⟨ta,pa,da⟩:=ha
 obtain ⟨tr,pr,dr⟩:=hr
 exact ⟨_,pa_cons pa pr hs,aC da dr hd⟩
theorem cg(h:j4 X W S es fs lk):PXL X W S (.List es pos) (fG fs) lk:=by
 obtain ⟨ta,pa,da⟩:=h
 exact ⟨_,pe_lst pa,dz da⟩
theorem ju(h:PXL X W S e fs lk)(hS:n∈S:=by decide)(hn:n∉lk:=by decide):KR X W S e (bX n fs lk) []:=by
 obtain ⟨ta,pa,da⟩:=h
 exact ⟨_,pa,eU hS hn da⟩
theorem TX(ha:KR X W S a fa la)(hb:KR X W S b fb lb)(hd:∀ i,i∈S→i∉la:=by decide)(hs:PlainIx b:=by exact fun _ _=>rfl):KR X W S (.Subscript a b pos) (x2 fa fb AW) (la ++ lb):=by
 obtain ⟨ta,pa,da⟩:=ha
 obtain ⟨tb,pb,db⟩:=hb
 exact ⟨_,pe_ix ix_seq pa pb hs,f6 Sw da db hd⟩
theorem ie(i:Nat){x:Str}(hb:KR X W S b fb lb)(hi:i∉S:=by decide)(hN:X.N[i]? = some x:=by rfl)(hv:Vis X.env.scope x:=by first | exact Or.inl rfl | exact Or.inr (Or.inl rfl) | exact Or.inr (Or.inr rfl))(hd:(x == ("__debug__" : Str))=false:=by decide)
  (hcd:(x == ("__classdict__" : Str))=false:=by decide) (hs:PlainIx b:=by exact fun _ _=>rfl):KR X W S (.Subscript (.Name x p) b pos) (x2 (xP (Aa i)) fb AW) []:=by
 obtain ⟨tb,pb,db⟩:=hb
 exact ⟨_,pe_ix ix_seq (pe_var hN hv hd hcd) pb hs,dj i hi db⟩
theorem GB(n i:Nat){x:Str}{fb:Env→Out Dt}(hb:Bc X W b fb lb)(hN:X.N[i]? = some x:=by rfl)(hv:Vis X.env.scope x:=by first | exact Or.inl rfl | exact Or.inr (Or.inl rfl) | exact Or.inr (Or.inr rfl))(hd:(x == ("__debug__" : Str))=false:=by decide)
  (hcd:(x == ("__classdict__" : Str))=false:=by decide) (hs:PlainIx b:=by exact fun _ _=>rfl):Bc X W (.Subscript (.Name x p) b pos) (e2 (IB n (Aa i)) fb AW) []:=by
 obtain ⟨tb,pb,db⟩:=hb
 exact ⟨_,pe_ix ix_seq (pe_var hN hv hd hcd) pb hs,ZV i db⟩
theorem AN{x:Str}{k j:Nat}{φ:List Dt→List Cell→MO}(c:ClM X.prog X.w X.K X.mg X.base x k φ)(tk:L2N.Takes X W)(hr:Room j X.A)(hk:k≤j)(hg:Gl X x)(ha:j4 X W S (e :: es) fs lk)(hS:n∈S:=by decide)(hn:n∉lk:=by decide)(hdb:(x == ("__debug__" : Str))=false:=by decide)
  (he:starEach (e :: es) X.env=(false,eval e X.env) :: starEach es X.env:=by rfl) (hpl:(backTo pos (starEach es X.env)).any (·.1)=false:=by rfl):KR X W S (.Call (.Name x p) (e :: es) [] pos) (Aw n φ fs lk) []:=by
 obtain ⟨f,F,hm,kp⟩:=c.ex
 obtain ⟨ta,pa,da⟩:=ha
 refine ⟨_,⟨fun pins s σ H Q I h=>?_⟩,YK hS hn da⟩
 refine wpAny_Call_Name_kw (ld_glob I hg hm ?_ hdb)
 refine PySem.W.callWith_K (h₀:=X.base) I.ok.mod.kin kp (thn (pa.run pos pins s σ H _ I h) fun us s1 ⟨vs,H1,I1,r,q⟩=>⟨I1.kIn,?_⟩) he hpl
 exact E3 F (hr.mono hk) (L2N.passAt tk σ) I1 r q
theorem Vk(h:KR X W S e f lk):MQ X W (.Return (some e) pos) (RB f lk):=by
 obtain ⟨t,p,d⟩:=h
 exact ⟨_,ps_ret p,bb d⟩
theorem RN(hc:eM X W S c ft)(ha:Hn X W body g)(hb:Hn X W els h):MQ X W (.If c body els pos) (Ll ft g h):=by
 obtain ⟨t,p,d⟩:=hc
 obtain ⟨t1,p1,d1⟩:=ha
 obtain ⟨t2,p2,d2⟩:=hb
 exact ⟨_,ps_if p p1 p2,cw d d1 d2⟩
theorem Dv(i:Nat){x:Str}{pos':Pos}(hN:X.N.Nodup)(h:KR X W S e f lk)(hi:X.N[i]? = some x:=by rfl)(hx:Loc X.env.scope x:=by first | exact Or.inl rfl | exact Or.inr rfl)(hs:swapsWith e (some (.Name x pos')) pos.line X.env=pure false:=by rfl)
  (hf:X.fn x=true∨X.env.scope.names.lookup x=some .local:=by first | exact .inl rfl | exact .inr rfl | assumption):MQ X W (.Assign [.Name x pos'] e pos) (Bi i f lk):=by
 obtain ⟨t,p,d⟩:=h
 exact ⟨_,ps_set hN hi hx p hs hf,ah d⟩
theorem XH(i:Nat){x:Str}{p1 p2 p3:Pos}(h:KR X W S e f lk)(hi:i∉S:=by decide)(hN:X.N[i]? = some x:=by rfl)(hv:Vis X.env.scope x:=by first | exact Or.inl rfl | exact Or.inr (Or.inl rfl) | exact Or.inr (Or.inr rfl))(hd:(x == ("__debug__" : Str))=false:=by decide)
  (hcd:(x == ("__classdict__" : Str))=false:=by decide) (hs:starEach [e] X.env=(false,eval e X.env) :: starEach [] X.env:=by rfl) (hbase:attributeBase (.Name x p1) "append" X.env (eval (.Name x p1) X.env)=eval (.Name x p1) X.env:=by rfl)
  (hfew:((backTo p3 (starEach [e] X.env)).all (fun x=>!x.1) && (backToKw p3 (keywordEach [] X.env)).all (fun x=>x.1.isSome)
   && decide (([e]:List Expr).length + ([]:List Keyword).length + (if ([]:List Keyword).isEmpty then 0 else 1) < 30))=true:=by rfl) (hline:(p2.endLine == p3.line)=true:=by rfl) (hsw:swapsWith (.Call (.Attribute (.Name x p1) "append" p2) [e] [] p3) none pos.line X.env=pure false:=by rfl):MQ X W (.Expr (.Call (.Attribute (.Name x p1) "append" p2) [e] [] p3) pos) (EW i f lk):=by
 obtain ⟨t,p,d⟩:=h
 exact ⟨_,ps_expr (pe_bm PySem.F.plainAttrs_list PySem.F.slot_list_append PySem.F.type_list_append mt_append (pe_var hN hv hd hcd) (pa_cons p pa_nil hs) hbase hfew hline hs rfl) hsw,Ug d hi⟩
theorem T9(n:Nat){o:Expr}{p2:Pos}{fo fa:Env→Out Dt}(h:KR X W S e f lk)(ho:Bc X W o fo lb)(hi:Bc X W a fa la) (ha:∀ v,assign (.Subscript o a p2) X.env v=(do
   let ov ← holding [v] (eval o X.env)
   let iv ← holding [v,ov] (eval a X.env)
   standAt p2
   holding [v,ov,iv] (setItem ov iv v)
   release [v,ov,iv] []):=by intro _; rfl) (hs:swapsWithSole [.Subscript o a p2] e pos.line X.env=pure false:=by rfl) (hw:swappedStores [.Subscript o a p2] e X.env=pure none:=by rfl)
  (h1:(assignEach [.Subscript o a p2] X.env).map (·.2)=[assign (.Subscript o a p2) X.env]:=by rfl):MQ X W (.Assign [.Subscript o a p2] e pos) (Ko n fo fa f lk):=by
 obtain ⟨t,p,d⟩:=h
 obtain ⟨t',p',d'⟩:=hi
 obtain ⟨t2,q2,d2⟩:=ho
 exact ⟨_,ps_asg p (pg_sub q2 p' set_list ha) hs hw h1,Vm d d2 d'⟩
theorem ib{T:List Nat}(hp:PassesOwn (model X.prog X.w) X.A X.env X.xe)(hc:X.calm=true)(hi:PXI X W S tg iter fs lk)(hg:Xd X tg u T)(hb:Hn X W body g)(hs:∀ x,foldedSetIterable iter X.env x=pure x:=by intro _; rfl):MQ X W (.For tg iter body [] pos) (RC u fs lk g):=by
 obtain ⟨t,p,d⟩:=hi
 obtain ⟨t',p',d'⟩:=hg
 obtain ⟨t2,p2,d2⟩:=hb
 exact ⟨_,ps_for hp hc p p' p2 hs,aN d d' d2⟩
theorem ZZ(hg:Gl X "range")(hm:X.mg "range" = none)(ha:KR X W S a fa la)(hs:starEach [a] X.env=[(false,eval a X.env)]:=by rfl)(hd:∀ i,i∈S→i∉la:=by decide):PXI X W S tg (.Call (.Name "range" p) [a] [] pos) (Ji (Mf fa (xP Ag))) []:=by
 obtain ⟨ta,pa,da⟩:=ai (es:=[]) ha (Cf Af) hd hs
 exact ⟨_,pi_range1 hg hm pa hs,a9 (Y2 (iO W7)) da⟩
end
def cX(K:PySem.W.Frag)(W:WX)(S:List Nat)(f:Env→XO Dt)(lk:List Nat):TE:=fun σ H Q=>∃ (μ:Mu) (H0:Hp) (A0:Ad) (ρ:Env),StOk ⟨K,μ⟩ H0 A0 H ρ σ∧CN K W μ H0 A0 σ (f ρ) (RM K S lk μ H0 A0 ρ σ H Q)
def cXT(K:PySem.W.Frag)(W:WX)(S:List Nat)(f:Env→XO Bool):TT:=fun σ H Q=>∃ (μ:Mu) (H0:Hp) (A0:Ad) (ρ:Env),StOk ⟨K,μ⟩ H0 A0 H ρ σ∧CN K W μ H0 A0 σ (f ρ) (RMt K S μ H0 A0 ρ σ H Q)
def jY(X:Cx)(W:WX)(S:List Nat)(es:List Expr)(f:Env→XO Bool):Prop:=∃ tt,PTs X es tt∧Y8 X.K W S tt f
section
variable {X:Cx} {W:WX} {S:List Nat} {e:Expr} {es:List Expr} {f:Env→XO Dt} {t:Env→XO Bool} {u:Dt→Env→Option Env} {T lk lt le:List Nat} {n:Nat}
theorem KR.Lu(h:KR X W S e f lk):PE X e (cX X.K W S f lk):=by
 obtain ⟨te,pe,de⟩:=h
 exact ⟨fun pins s σ H Q I ⟨μ,H0,A0,ρ,so,po⟩=>pe.run pins s σ H Q I (de μ H0 A0 ρ σ H Q so po)⟩
theorem jY.Lu(h:jY X W S es t):PTs X es (cXT X.K W S t):=by
 obtain ⟨te,pe,de⟩:=h
 exact ⟨fun pins s σ H Q I ⟨μ,H0,A0,ρ,so,po⟩=>pe.run pins s σ H Q I (de μ H0 A0 ρ σ H Q so po)⟩
end
end FD
namespace FD
open PySem L2 PyProof.Rows PySem.Spec
mutual
def Dt.na:Dt→Bool
 | .ad _=>false
 | .tup ds=>Dt.HY ds
 | .ptp ds=>Dt.HY ds
 | .ntp ds=>Dt.HY ds
 | .lst ds=>Dt.HY ds
 | .fls ds=>Dt.HY ds
 | .dic _ ds=>Dt.HY ds
 | .dit _ ds=>Dt.HY ds
 | .obj _ _ ds=>Dt.HY ds
 | .exn _ _ _ _ ds=>Dt.HY ds
 | _=>true
def Dt.HY:List Dt→Bool
 | []=>true
 | d :: ds=>d.na && Dt.HY ds
end
section
variable {F:PySem.W.Frag} {m m':Mu} {H:Hp} {A:Ad}
mutual
theorem Rep.Ve:∀ (d:Dt) (v:V),d.na=true→Rep ⟨F,m⟩ H A d v→Rep ⟨F,m'⟩ H A d v
 | .non,_,_,h=>h
 | .bl _,_,_,h=>h
 | .int _,_,_,h=>h
 | .str _,_,_,h=>h
 | .ty _,_,_,h=>h
 | .cls _,_,_,h=>h
 | .ad _,_,p,_=>by simp [Dt.na] at p
 | .tup ds,_,p,h=>by
  unfold Rep at h ⊢
  obtain ⟨a,vs,e,h1,h2⟩:=h
  exact ⟨a,vs,e,h1,Ah.Ve ds vs (by unfold Dt.na at p; exact p) h2⟩
 | .ptp ds,_,p,h=>by
  unfold Rep at h ⊢
  obtain ⟨a,vs,e,h1,h2⟩:=h
  exact ⟨a,vs,e,h1,Ah.Ve ds vs (by unfold Dt.na at p; exact p) h2⟩
 | .ntp ds,_,p,h=>by
  unfold Rep at h ⊢
  obtain ⟨a,vs,e,h1,h2⟩:=h
  exact ⟨a,vs,e,h1,Ah.Ve ds vs (by unfold Dt.na at p; exact p) h2⟩
 | .lst ds,_,p,h=>by
  unfold Rep at h ⊢
  obtain ⟨a,vs,e,x,y,h2⟩:=h
  exact ⟨a,vs,e,x,y,Ah.Ve ds vs (by unfold Dt.na at p; exact p) h2⟩
 | .fls ds,_,p,h=>by
  unfold Rep at h ⊢
  obtain ⟨a,vs,e,h1,h2⟩:=h
  exact ⟨a,vs,e,h1,Ah.Ve ds vs (by unfold Dt.na at p; exact p) h2⟩
 | .dic ks ds,_,p,h=>by
  unfold Rep at h ⊢
  obtain ⟨a,kvs,e,x,y,h1,h2⟩:=h
  exact ⟨a,kvs,e,x,y,h1,Ah.Ve ds _ (by unfold Dt.na at p; exact p) h2⟩
 | .dit ks ds,_,p,h=>by
  unfold Rep at h ⊢
  obtain ⟨a,kvs,e,x,y,h1,h2⟩:=h
  exact ⟨a,kvs,e,x,y,h1,Ah.Ve ds _ (by unfold Dt.na at p; exact p) h2⟩
 | .exn a od C ns ds,_,p,h=>by
  unfold Rep at h ⊢
  obtain ⟨fs,e,h1,h2,h3⟩:=h
  exact ⟨fs,e,h1,h2,Ah.Ve ds _ (by unfold Dt.na at p; exact p) h3⟩
 | .obj C ns ds,_,p,h=>by
  unfold Rep at h ⊢
  obtain ⟨a,dx,fs,e,x,y,h1,h2⟩:=h
  exact ⟨a,dx,fs,e,x,y,h1,Ah.Ve ds _ (by unfold Dt.na at p; exact p) h2⟩
theorem Ah.Ve:∀ (ds:List Dt) (vs:List V),Dt.HY ds=true→Ah ⟨F,m⟩ H A ds vs→Ah ⟨F,m'⟩ H A ds vs
 | [],_,_,h=>h
 | d :: ds,_,p,h=>by
  unfold Ah at h ⊢
  obtain ⟨v,r,e,h1,h2⟩:=h
  unfold Dt.HY at p
  rw [Bool.and_eq_true] at p
  exact ⟨v,r,e,Rep.Ve d v p.1 h1,Ah.Ve ds r p.2 h2⟩
end
end
@[simp] theorem na_non:Dt.non.na=true:=rfl
@[simp] theorem U7(b:Bool):(Dt.bl b).na=true:=rfl
@[simp] theorem Qa(b:Int):(Dt.int b).na=true:=rfl
@[simp] theorem Qt(b:Str):(Dt.str b).na=true:=rfl
@[simp] theorem na_cls(b:Addr):(Dt.cls b).na=true:=rfl
@[simp] theorem na_ptp(b:List Dt):(Dt.ptp b).na=Dt.HY b:=by rw [Dt.na]
@[simp] theorem na_lst(b:List Dt):(Dt.lst b).na=Dt.HY b:=by rw [Dt.na]
@[simp] theorem na_fls(b:List Dt):(Dt.fls b).na=Dt.HY b:=by rw [Dt.na]
@[simp] theorem na_dic(k:List Key)(b:List Dt):(Dt.dic k b).na=Dt.HY b:=by rw [Dt.na]
@[simp] theorem na_dit(k:List (List Key))(b:List Dt):(Dt.dit k b).na=Dt.HY b:=by rw [Dt.na]
@[simp] theorem na_obj(C:Addr)(n:List Str)(b:List Dt):(Dt.obj C n b).na=Dt.HY b:=by rw [Dt.na]
@[simp] theorem nas_nil:Dt.HY []=true:=rfl
@[simp] theorem Zf(d:Dt)(b:List Dt):Dt.HY (d :: b)=(d.na && Dt.HY b):=by rw [Dt.HY]
theorem iG{ds:List Dt}(h:∀ d∈ds,d.na=true):Dt.HY ds=true:=by
 induction ds with
 | nil=>rfl
 | cons d ds ih=>
  rw [Zf,h d List.mem_cons_self,ih fun e he=>h e (List.mem_cons_of_mem _ he)]
  rfl
theorem FN{α:Type}{f:α→Dt}(h:∀ x,(f x).na=true)(xs:List α):Dt.HY (xs.map f)=true:=iG fun d hd=>by
 obtain ⟨x,_,rfl⟩:=List.mem_map.mp hd
 exact h x
def Pu(n:Nat)(g:Env→SOut)(ds:List Dt):Out Dt:=if Dt.HY ds=true then (match g (ds.map (fun d=>some (Lo.sh d)) ++ List.replicate (n - ds.length) none ++ [some (.mh [])]) with
 | .ok .nx _=>.ok .non
 | .ok (.rt d) _=>if d.na=true then .ok d else .bad
 | .exc x _=>.exc x
 | _=>.bad) else .bad
section
variable {P:Program} {w:World} {K:PySem.W.Frag} {mg:Str→Option Value} {base:Heap} {H:Hp} {A:Ad} {μ:Mu}
theorem VA{κ:KM}{a:Addr}:¬ Lv κ [] a:=fun ⟨k,c,e,_⟩=>by simp at e
theorem XQ{N:List Str}{n:Nat}{ds:List Dt}{vs:List V}{g:Env→SOut}{ts:TS}{Q:VK}{E:XK}(hN:N.length=n + 1)(hl:ds.length≤n)(hd:IF K (fun c d _ H'=>E c d H') ts g)(r:Ah ⟨K,μ⟩ H A ds vs)(ha:∀ a,A a→Mut (H a))
  (h:match Pu n g ds with
   | .ok d=>∀ v H',Same H H'→Rep ⟨K,μ⟩ H' A d v→Q v H'
   | .exc x=>∀ c od H',Same H H'→NS K H' x c od→E c od H'
   | .bad=>False):ts { nx:=fun _ H'=>Q .non H',rt:=Q } (L2.start N vs) H:=by
 unfold Pu at h
 by_cases hna:Dt.HY ds=true
 case neg=>rw [if_neg hna] at h; exact False.elim h
 rw [if_pos hna] at h
 have r':Ah ⟨K,⟨[],false⟩⟩ H (fun a=>A a∨Lv ⟨K,⟨[],false⟩⟩ [] a) ds vs:=(Ah.Ve ds vs hna r).BC fun a z=>z.elim id fun z=>absurd z VA
 have hm:ER ⟨K,⟨[],false⟩⟩ kX H (fun a=>A a∨Lv ⟨K,⟨[],false⟩⟩ [] a) (.mh []) none:=⟨fun _ _ _ _ _ e=>by simp at e,rfl,fun _ _ _ e=>by simp at e⟩
 have hH:Hm ⟨K,⟨[],false⟩⟩ [] H=H:=by
  funext a
  unfold Hm
  rw [if_neg VA]
 have st:=RG hN hl r' hm ha (fun a _=>VA) rfl
 rw [hH] at st
 refine hd _ _ A _ _ H _ st ?_
 cases e:g (ds.map (fun d=>some (Lo.sh d)) ++ List.replicate (n - ds.length) none ++ [some (.mh [])]) with
 | ok fl ρ=>
  rw [e] at h
  cases fl with
  | nx=>exact fun μ' σ H' y s'=>h .non H' s'.same rfl
  | rt d=>
   intro μ' v σ H' y s' r''
   simp only at h
   by_cases hd:d.na=true
   ·rw [if_pos hd] at h
    exact h v H' s'.same (Rep.Ve d v hd (r''.BC fun a z=>.inl z))
   ·rw [if_neg hd] at h
    exact False.elim h
  | bk=>exact h.elim
  | ct=>exact h.elim
 | exc x ρ=>
  rw [e] at h
  exact fun μ' σ H' c od y s' r'=>h c od H' s'.same r'
 | bad=>rw [e] at h; exact h.elim
theorem WK{x qual:Str}{params:Arguments}{body:List Stmt}{scope:Scope}{dvs:List V}{kws:List (Str × V)}{f:Addr}{fd:FuncData}{N ps:List Str}{k n:Nat}{g:Env→SOut}(F:FunD K x qual params body scope dvs kws f fd)(S:FnScope N ps scope)(hN:N.length=n + 1)(hp:ps.length≤n)
  (hb:∀ (cdv:Value) (A:Around) (outer:List PySem.Env) (s:Shared) (H:Hp) (E:XK),Room k (A.deeper (envOfC qual scope s.heap.objs.size f cdv)) →
   Hn (cxOf (L2N.CX P w) P w K mg base N qual scope f cdv A outer s H E) (fun c d _ H'=>E c d H') body g):
  FnOk P w K mg base (L2N.CX P w) (k + 1) f fd ps (DH K ps.length (Pu n g)):=by
 refine F.ok S (fun vs H Q E h=>?_) (fun cdv A outer s H vs Q E hr h=>?_)
 ·obtain ⟨ds,A,μ,r,hl,_⟩:=h
  rw [r.length,hl]
 ·obtain ⟨ds,A',μ,r,hl,ha,h⟩:=h
  obtain ⟨ts,hp',hdd⟩:=hb cdv A outer s H E hr
  exact ⟨ts,hp',XQ hN (by rw [hl]; exact hp) hdd r ha h⟩
end
structure FldC (K:PySem.W.Frag) (C:Addr) (f:Str):Prop where
 cls:Cls K C
 no:NoAttr K C f
def KP(Cs:List Addr)(f:Str):Dt→Option Dt
 | .obj C ns ds=>if C∈Cs then (ns.zip ds).lookup f else none
 | _=>none
section
variable {K:PySem.W.Frag} {S:List Nat} {σ:L2.St} {μ μ':Mu} {H H' H0:Hp} {ρ:Env} {A0:Ad} {lk la lb:List Nat} {W:WX} {d:Dt} {v:V} {n:Nat}
theorem eO{te:TE}{fe:Env→Out Dt}{Cs:List Addr}{f:Str}(hC:∀ C∈Cs,FldC K C f)(ha:Dx K W te fe la):Dx K W (tFld K te f) (e1 fe (KP Cs f)) la:=by
 intro μ H0 A0 ρ σ H Q s h
 refine ha _ _ _ _ _ _ _ s (h.seq fun a ea h1 v1 H1 s1 r1=>?_)
 clear ea
 obtain ⟨d,e,q⟩:=BM h1
 cases a <;> try (cases e; done)
 rename_i C ns ds
 have e':(if C∈Cs then (ns.zip ds).lookup f else none)=some d:=e
 split at e'
 ·rename_i hm
  unfold Rep at r1
  obtain ⟨a,dx,fs,rfl,_,h2,h3,h4⟩:=r1
  subst h3
  obtain ⟨v,hv,rv⟩:=OL h4 e'
  exact ⟨a,C,dx,fs,v,rfl,h2,(hC C hm).cls,(hC C hm).no,hv,q v H1 s1 rv⟩
 ·cases e'
structure ConC (K:PySem.W.Frag) (C:Addr) (f:Str) (d:Dt):Prop where
 cls:Cls K C
 con:∃ v u,Con K C f v u∧∀ κ H A,Rep κ H A d v
theorem RS{f:Str}:∀ {fs:List (Str × V)},f∉fs.map (·.1)→fs.lookup f=none
 | [],_=>rfl
 | (g,v) :: fs,h=>by
  rw [List.map_cons,List.mem_cons,not_or] at h
  rw [List.lookup]
  have:(f == g)=false:=by simpa using h.1
  rw [this]
  exact RS h.2
theorem lookup_mem{α:Type}{β:Type}[BEq α][LawfulBEq α]{a:α}{b:β}:∀ {l:List (α × β)},l.lookup a=some b→(a,b)∈l
 | [],h=>by cases h
 | (x,y) :: l,h=>by
  rw [List.lookup] at h
  cases e:a == x with
  | true=>
   rw [e] at h
   cases h
   rw [eq_of_beq e]
   exact List.mem_cons_self
  | false=>
   rw [e] at h
   exact List.mem_cons_of_mem _ (lookup_mem h)
def putN(f:Str):List Str→List Str
 | []=>[f]
 | g :: r=>if g=f then g :: r else g :: putN f r
def Rk(f:Str)(d:Dt):List Str→List Dt→List Dt
 | [],_=>[d]
 | g :: r,x :: ds=>if g=f then d :: ds else x :: Rk f d r ds
 | _ :: _,[]=>[]
theorem UJ{κ:KM}{A:Ad}{f:Str}{d:Dt}{y:V}:∀ {fs:List (Str × V)} {ds:List Dt},Ah κ H A ds (fs.map (·.2))→Rep κ H A d y→(putF f y fs).map (·.1)=putN f (fs.map (·.1))∧Ah κ H A (Rk f d (fs.map (·.1)) ds) ((putF f y fs).map (·.2))
 | [],ds,r,ry=>⟨rfl,Ah.cons ry Ah.nil⟩
 | (g,x) :: fs,ds,r,ry=>by
  cases ds with
  | nil=>unfold Ah at r; cases r
  | cons d0 ds=>
   unfold Ah at r
   obtain ⟨v,t,e1,r1,r2⟩:=r
   cases e1
   unfold putF
   simp only [List.map_cons,putN,Rk]
   by_cases h:g=f
   ·rw [if_pos h,if_pos h,if_pos h]
    exact ⟨rfl,Ah.cons ry r2⟩
   ·rw [if_neg h,if_neg h,if_neg h]
    obtain ⟨q1,q2⟩:=UJ (f:=f) r2 ry
    exact ⟨by rw [List.map_cons,q1],Ah.cons r1 q2⟩
def bN(n:Nat)(Cs:List Addr)(f:Str)(x d:Dt)(ρ:Env):Option Env:=match x with
 | .ad k=>(DM n ρ).bind fun cs=>match cs[k]? with
  | some (.ins C ns ds)=>if C∈Cs∧ns.length < 1000 then some (ρ.set n (some (.mh (cs.set k (.ins C (putN f ns) (Rk f d ns ds)))))) else none
  | _=>none
 | _=>none
def Uy(n:Nat)(Cs:List Addr)(f:Str)(fx:Env→Out Dt)(fe:Env→XO Dt)(lk:List Nat):Env→SOut:=fun ρ=>xE (fe ρ) fun d ρ1=>HU (fx (AL d lk ρ1)) (AL d lk ρ1) fun x=>match bN n Cs f x d (AL d lk ρ1) with
 | some ρ'=>.ok .nx ρ'
 | none=>.bad
theorem bq{te tx:TE}{fe:Env→XO Dt}{fx:Env→Out Dt}{Cs:List Addr}{f:Str}(hC:∀ C∈Cs,FldC K C f)(ha:MR K W S te fe lk)(hx:Dx K W tx fx la):IF K W (sFld K tx te f) (Uy n Cs f fx fe lk):=by
 intro μ H0 A0 ρ σ H D s h
 unfold Uy at h
 refine ha _ _ _ _ _ _ _ s (AY.xt h fun d ρ1 _ h1 μ1 v H1 c1 s1 r1=>?_)
 obtain ⟨s2,r2⟩:=s1.Td r1
 refine hx _ _ _ _ _ _ _ s2 (AY.st s2 (h1.ext c1.xt) fun x _ h2 w H2 g2 rx=>?_)
 have s3:=s2.grow g2
 split at h2
 ·rename_i ρ' ep
  unfold bN at ep
  split at ep
  ·rename_i k _
   obtain ⟨cs,ec,ep⟩:=Option.bind_eq_some_iff.mp ep
   split at ep
   ·rename_i C ns ds e1
    obtain ⟨⟨hm,hl⟩,rfl⟩:=Bf ep
    unfold Rep at rx
    obtain ⟨b,eb,rfl⟩:=rx
    obtain ⟨_,_,hc⟩:=s3.lo n _ (CM ec)
    obtain ⟨h0,dx,fs,hb,hn,r⟩:=hc k _ b e1 eb
    refine ⟨b,C,dx,fs,rfl,hb,(hC C hm).cls,(hC C hm).no,by rw [← hn,List.length_map] at hl; exact hl,?_⟩
    refine h2 _ _ _ (Xt.refl _) (s3.b0 (CM ec) e1 rfl eb rfl fun A' hA=>?_)
    have ow:Bj ⟨K,μ1⟩ (AL d lk ρ1) σ n b:=⟨_,CM ec,k,_,e1,rfl,eb⟩
    obtain ⟨q1,q2⟩:=UJ (f:=f) r (r2.same g2)
    rw [hn] at q1 q2
    exact ⟨h0,dx,_,upd_same,q1,q2.mono (Av.keep ow) hA⟩
   ·cases ep
  ·cases ep
 ·exact False.elim h2
end
section
variable {X:Cx} {W:WX} {S:List Nat} {e o:Expr} {fe fo:Env→Out Dt} {f:Env→XO Dt} {lk la lb:List Nat} {pos pos':Pos} {fd:Str} {Cs:List Addr}
theorem HX(hC:∀ C∈Cs,FldC X.K C fd)(ha:Bc X W e fe lk)(hb:attributeBase e fd X.env (eval e X.env)=eval e X.env:=by rfl):Bc X W (.Attribute e fd pos) (e1 fe (KP Cs fd)) lk:=by
 obtain ⟨te,pe,de⟩:=ha
 exact ⟨_,pe_fld pe hb,eO hC de⟩
theorem iF(n:Nat)(hC:∀ C∈Cs,FldC X.K C fd)(h:KR X W S e f lk)(ho:Bc X W o fo la)(hs:swapsWith e (some (.Attribute o fd pos')) pos.line X.env=pure false:=by rfl):MQ X W (.Assign [.Attribute o fd pos'] e pos) (Uy n Cs fd fo f lk):=by
 obtain ⟨t,p,d⟩:=h
 obtain ⟨t',p',d'⟩:=ho
 exact ⟨_,ps_fld p' p hs,bq hC d d'⟩
end
end FD
namespace FD
open PySem L2 PyProof.Rows PySem.Spec
def newD(C:Addr)(φ:List Dt→List Cell→MO)(ds:List Dt):Out Dt:=if Dt.HY ds=true then (match φ (.ad 0 :: ds) [.ins C [] []] with
 | .ok .non cs'=>(match (cs'[0]?:Option Cell) with
  | some (Cell.ins C' ns es)=>if Dt.HY es=true∧C'=C then .ok (.obj C ns es) else .bad
  | _=>.bad)
 | .exc x _=>.exc x
 | _=>.bad) else .bad
section
variable {K:PySem.W.Frag} {S:List Nat} {σ:L2.St} {μ μ':Mu} {H H' H0:Hp} {ρ:Env} {A A0:Ad} {lk la lb:List Nat} {W:WX} {d:Dt} {v:V} {n:Nat}
theorem Z2{C:Addr}{φ:List Dt→List Cell→MO}{ds:List Dt}{vs:List V}{Q:VK}{E:XK}(r:Ah ⟨K,μ⟩ H A ds vs)(ha:∀ a,A a→Mut (H a))(h:Kl K μ A H Q E (newD C φ ds)){x dx:Addr}(hx:H x=none)(hdx:H dx=none)(hne:dx≠x):
  fZ K φ (.ref x :: vs) (upd (upd H dx (.own x)) x (.ins C dx [])) (fun v H2=>v=.non∧Q (.ref x) H2) E:=by
 unfold newD at h
 by_cases hna:Dt.HY ds=true
 case neg=>rw [if_neg hna] at h; exact False.elim h
 rw [if_pos hna] at h
 have hs:Same H (upd (upd H dx (.own x)) x (.ins C dx [])):=fun b o e=>by
  rw [upd_ne (ne_of_none e hx),upd_ne (ne_of_none e hdx)]
  exact e
 have lv:∀ {m:Mu} a,m.l[0]? = some x→Lv ⟨K,⟨[x],false⟩⟩ [.ins C [] []] a→a=x:=fun a _ ⟨k,c,e1,e2,e3⟩=>by
  cases k with
  | zero=>exact (Option.some.inj e3).symm
  | succ k=>cases e1
 have nA:∀ a,A a→a≠x:=fun a z e=>by
  have q:=ha a z
  rw [e,hx] at q
  exact q
 have nAd:∀ a,A a→a≠dx:=fun a z e=>by
  have q:=ha a z
  rw [e,hdx] at q
  exact q
 have lv1:∀ a,Lv ⟨K,⟨[x],false⟩⟩ [.ins C [] []] a→a=x:=fun a z=>lv (m:=⟨[x],false⟩) a rfl z
 refine ⟨.ad 0 :: ds,A,⟨[x],false⟩,[.ins C [] []],Ah.cons ⟨x,rfl,rfl⟩ ?_,⟨fun j k a c c' e1 e2 _ _ f1 f2=>?_,rfl,fun k c a e1 e2=>?_⟩,fun a z=>?_,fun a z q=>nA a z (lv1 a q),rfl,?_⟩
 ·refine ((Ah.Ve ds vs hna r).Fj.same hs).BC fun a z=>z.imp id fun z=>?_
  rw [lv1 a z]
  exact hx
 ·cases j with
  | zero=>
   cases k with
   | zero=>rfl
   | succ k=>cases e2
  | succ j=>cases e1
 ·cases k with
  | zero=>
   cases e1
   cases e2
   exact ⟨rfl,dx,[],upd_same,rfl,Ah.nil⟩
  | succ k=>cases e1
 ·rw [upd_ne (nA a z),upd_ne (nAd a z)]
  exact ha a z
 ·unfold Tj
  cases eo:φ (.ad 0 :: ds) [.ins C [] []] with
  | bad=>rw [eo] at h; exact False.elim h
  | exc e cs'=>
   rw [eo] at h
   intro μ' c od H' m ex
   exact h c od H' (fun a o q=>m.keep a o (hs a o q) fun z=>by rw [lv1 a z,hx] at q; cases q) ex
  | ok d cs'=>
   rw [eo] at h
   cases d <;> try (exact False.elim h)
   intro μ' v H' m rv
   refine ⟨rv,?_⟩
   simp only at h
   cases e0:cs'[0]? with
   | none=>rw [e0] at h; exact False.elim h
   | some c=>
    rw [e0] at h
    cases c with
    | gone=>exact False.elim h
    | lst ds=>exact False.elim h
    | dic ks ds=>exact False.elim h
    | ins C' ns es=>
     simp only at h
     by_cases hc:Dt.HY es=true∧C'=C
     case neg=>rw [if_neg hc] at h; exact False.elim h
     rw [if_pos hc] at h
     obtain ⟨hes,rfl⟩:=hc
     have e1:=m.xt.get 0 x rfl
     obtain ⟨_,_,hcs⟩:=m.ok
     obtain ⟨_,dx',fs,h1,h2,h3⟩:=hcs 0 _ x e0 e1
     refine h (.ref x) H' (fun a o q=>m.keep a o (hs a o q) fun z=>by rw [lv1 a z,hx] at q; cases q) ?_
     unfold Rep
     exact ⟨x,dx',fs,rfl,fun z=>nA x z rfl,h1,h2,(Ah.Ve es _ hes h3).BC fun a z=>.inl z⟩
end
structure ClC (P:Program) (w:World) (K:PySem.W.Frag) (mg:Str→Option Value) (base:Heap) (x:Str) (k:Nat) (C:Addr) (φ:List Dt→List Cell→MO):Prop where
 mg_:mg x=some (.ref C)
 ex:∃ f,Mk K C f∧FnR P w K mg base (L2N.CX P w) k f (fZ K φ)
section
variable {X:Cx} {W:WX} {S:List Nat} {e o:Expr} {es:List Expr} {fs:Env→Out (List Dt)} {gs:Env→XO (List Dt)} {fo:Env→Out Dt} {lk la:List Nat} {p pos apos:Pos} {C:Addr} {φ:List Dt→List Cell→MO} {ψ:List Dt→Out Dt}
def iw(C:Addr)(sp:Sp)(E:L2.St→XK)(t:TA):TE:=fun σ H Q=>t σ H fun vs H1=>∀ x dx,H1 x=Option.none→H1 dx=Option.none→dx≠x→sp (V.ref x :: vs) (upd (upd H1 dx (.own x)) x (.ins C dx [])) (fun v H2=>v=.non∧Q (.ref x) H2) (E σ)
theorem YH{CX:CXT}{k:Nat}{f:Addr}{sp:Sp}{E:L2.St→XK}{pins:List (Addr × Obj)}{σ:L2.St}{H:Hp}{s:Shared}{Q:VK}{us:List Value}{vs:List V}(M:Mk X.K C f)(F:FnR X.prog X.w X.K X.mg X.base CX k f sp)(hr:Room (k + 1) X.A)(hx:PassesAt CX X σ (E σ))(I:Inv X pins σ H s)(r:Vals vs us)
  (h:∀ x dx,H x=Option.none→H dx=Option.none→dx≠x→sp (V.ref x :: vs) (upd (upd H dx (.own x)) x (.ins C dx [])) (fun v H2=>v=.non∧Q (.ref x) H2) (E σ)):
  wpAny (model X.prog X.w) X.A (call (.ref C) us) (EP X pins σ Q) X.xe s:=by
 have hq:=h (s.heap.objs.size + 1) s.heap.objs.size (I.hok.fresh (Nat.le_succ _)) (I.hok.fresh (Nat.le_refl _)) (Nat.ne_of_lt (Nat.lt_succ_self _))
 have I2:=Inv.made (C:=C) I
 have r2:Vals (V.ref (s.heap.objs.size + 1) :: vs) (Value.ref (s.heap.objs.size + 1) :: us):=.cons rfl r
 refine wpAny_call (make_map (f:=f) I.kIn M.makes M.init (beq_iff_eq.mp M.fn) (codeAny_mono (F _ X.stack _ _ (Value.ref (s.heap.objs.size + 1) :: us) _ _ (E σ) (hr.make C us []) (I2.env0.make C us []) r2 hq) fun r s' hq'=>?_))
 cases r with
 | error e=>exact hx pins _ _ e s' I2 hq'
 | ok fl=>
  cases fl with
  | ret u=>
   obtain ⟨v,H',I3,rv,ev,q3⟩:=I2.after hq'
   subst ev
   exact ⟨rv,⟨V.ref (s.heap.objs.size + 1),H',I3,rfl,q3⟩⟩
  | next=>exact False.elim hq'
  | brk=>exact False.elim hq'
  | cont=>exact False.elim hq'
theorem aH{x:Str}{k j:Nat}{t:TA}(c:ClC X.prog X.w X.K X.mg X.base x k C φ)(tk:L2N.Takes X W)(hr:Room j X.A)(hk:k + 1≤j)(hg:Gl X x)(ha:PA X (e :: es) t)(hdb:(x == ("__debug__" : Str))=false:=by decide)
  (he:starEach (e :: es) X.env=(false,eval e X.env) :: starEach es X.env:=by rfl) (hpl:(backTo pos (starEach es X.env)).any (·.1)=false:=by rfl):PE X (.Call (.Name x p) (e :: es) [] pos) (iw C (fZ X.K φ) (WE W) t):=by
 obtain ⟨f,M,F⟩:=c.ex
 refine ⟨fun pins s σ H Q I h=>?_⟩
 refine wpAny_Call_Name_kw (ld_glob I hg c.mg_ ?_ hdb)
 refine PySem.W.callWith_K (h₀:=X.base) I.ok.mod.kin M.kp (thn (ha.run pos pins s σ H _ I h) fun us s1 ⟨vs,H1,I1,r,q⟩=>⟨I1.kIn,?_⟩) he hpl
 exact YH M F (hr.mono hk) (L2N.passAt tk σ) I1 r q
theorem Sb{x:Str}{k j:Nat}(c:ClC X.prog X.w X.K X.mg X.base x k C φ)(tk:L2N.Takes X W)(hr:Room j X.A)(hk:k + 1≤j)(hg:Gl X x)(ha:JL X W (e :: es) fs lk)(hdb:(x == ("__debug__" : Str))=false:=by decide)
  (he:starEach (e :: es) X.env=(false,eval e X.env) :: starEach es X.env:=by rfl) (hpl:(backTo pos (starEach es X.env)).any (·.1)=false:=by rfl):Bc X W (.Call (.Name x p) (e :: es) [] pos) (Al (newD C φ) fs) lk:=by
 obtain ⟨ta,pa,da⟩:=ha
 refine ⟨_,aH c tk hr hk hg pa hdb he hpl,fun μ H0 A0 ρ σ H Q s h=>?_⟩
 refine da _ _ _ _ _ _ _ s (h.seq fun ds _ h1 vs H1 s1 r1=>fun x dx hx hdx hne=>?_)
 refine Z2 r1 (fun a z=>(s.grow s1).Dj z) ?_ hx hdx hne
 unfold Kl
 cases eo:newD C φ ds with
 | ok d=>rw [eo] at h1; exact fun v H' s' r=>h1 v H' (s1.trans s') r
 | exc x=>rw [eo] at h1; exact fun c od H' s' r=>h1 c od H' (s1.trans s') r
 | bad=>rw [eo] at h1; exact h1
structure MeC (P:Program) (w:World) (K:PySem.W.Frag) (mg:Str→Option Value) (base:Heap) (k:Nat) (C:Addr) (m:Str) (ψ:List Dt→Out Dt):Prop where
 cls:Cls K C
 ex:∃ f,Meth K C m f∧FnR P w K mg base (L2N.CX P w) k f (Np K ψ)
def DT(L:List (Addr × (List Dt→Out Dt)))(m:Str)(fo:Env→Out Dt)(fs:Env→Out (List Dt)):Env→Out Dt:=fun ρ=>(fo ρ).bind fun o=>match o with
 | .obj C ns ds=>if m∈ns then .bad else (match L.lookup C with
  | some ψ=>(fs ρ).bind fun as=>ψ (.obj C ns ds :: as)
  | none=>.bad)
 | _=>.bad
def tMethS(L:List (Addr × (List Dt→Out Dt)))(K:PySem.W.Frag)(m:Str)(E:L2.St→XK)(ta:TE)(t:TA):TE:=fun σ H Q=>ta σ H fun x H1=>∃ C ψ a dx fs,(C,ψ)∈L∧x=.ref a∧H1 a=some (.ins C dx fs)∧fs.lookup m=none∧t σ H1 fun vs H2=>Np K ψ (x :: vs) H2 Q (E σ)
theorem pe_methS{m:Str}{k j:Nat}{L:List (Addr × (List Dt→Out Dt))}{ta:TE}{t:TA}{pl:Sem Bool}(hL:∀ q∈L,MeC X.prog X.w X.K X.mg X.base k q.1 m q.2)(tk:L2N.Takes X W)(hr:Room j X.A)(hk:k≤j)(he:PE X o ta)(ha:PA X (e :: es) t)
  (hst:starEach (e :: es) X.env=(false,eval e X.env) :: starEach es X.env:=by rfl) (hpl:(backTo pos (starEach es X.env)).any (·.1)=false:=by rfl)
  (ht:eval (.Call (.Attribute o m apos) (e :: es) [] pos) X.env=(do
   let ov ← eval o X.env
   standAt apos.atName
   let (f,first) ← holding [ov] (getMethod ov m pl)
   callWith pos f first (backTo pos (starEach (e :: es) X.env)) (backToKw pos (keywordEach [] X.env))):=by rfl):
  PE X (.Call (.Attribute o m apos) (e :: es) [] pos) (tMethS L X.K m (WE W) ta t):=by
 refine ⟨fun pins s σ H Q I h=>?_⟩
 refine PySem.W.methodCall_KW (pl:=pl) (thn (he.run pins s σ H _ I h) fun u s1 ⟨x,H1,I1,rx,C,ψ,a,dx,fs,hm,ex,ea,l,q⟩=>?_) ht
 subst ex
 obtain rfl:u=Value.ref a:=rx
 have mc:=hL _ hm
 obtain ⟨f,hme,F⟩:=mc.ex
 refine getmeth_ok I1 ea mc.cls hme l ?_
 refine PySem.W.callWith_K (first:=[.ref a]) (h₀:=X.base) I.ok.mod.kin hme.kp (thn (ha.run pos pins s1 σ H1 _ I1 q) fun us s2 ⟨vs,H2,I2,r,q2⟩=>⟨I2.kIn,?_⟩) hst hpl
 exact E3 (us:=.ref a :: us) (vs:=.ref a :: vs) F (hr.mono hk) (L2N.passAt tk σ) I2 (.cons rfl r) q2
theorem Y1{m:Str}{k j:Nat}{L:List (Addr × (List Dt→Out Dt))}{ta:TE}{pl:Sem Bool}(hL:∀ q∈L,MeC X.prog X.w X.K X.mg X.base k q.1 m q.2)(tk:L2N.Takes X W)(hr:Room j X.A)(hk:k≤j)(he:PE X o ta)
  (ht:eval (.Call (.Attribute o m apos) [] [] pos) X.env=(do
   let ov ← eval o X.env
   standAt apos.atName
   let (f,first) ← holding [ov] (getMethod ov m pl)
   callWith pos f first (backTo pos (starEach [] X.env)) (backToKw pos (keywordEach [] X.env))):=by rfl):
  PE X (.Call (.Attribute o m apos) [] [] pos) (tMethS L X.K m (WE W) ta tNil):=by
 refine ⟨fun pins s σ H Q I h=>?_⟩
 refine PySem.W.methodCall_KW (pl:=pl) (thn (he.run pins s σ H _ I h) fun u s1 ⟨x,H1,I1,rx,C,ψ,a,dx,fs,hm,ex,ea,l,q⟩=>?_) ht
 subst ex
 obtain rfl:u=Value.ref a:=rx
 have mc:=hL _ hm
 obtain ⟨f,hme,F⟩:=mc.ex
 refine getmeth_ok I1 ea mc.cls hme l ?_
 exact PySem.W.callWith_K0 (first:=[.ref a]) I1.kIn hme.kp (E3 (us:=[.ref a]) (vs:=[.ref a]) F (hr.mono hk) (L2N.passAt tk σ) I1 (.cons rfl .nil) q)
theorem RY{K:PySem.W.Frag}{m:Str}{L:List (Addr × (List Dt→Out Dt))}{ta:TE}{t:TA}(ho:Dx K W ta fo la)(ha:RR K W t fs lk):Dx K W (tMethS L K m (WE W) ta t) (DT L m fo fs) (la ++ lk):=by
 intro μ H0 A0 ρ σ H Q s h
 refine ho _ _ _ _ _ _ _ s (h.seq fun o eo h1 v1 H1 s1 r1=>?_)
 clear eo
 cases o <;> try (exact False.elim h1)
 rename_i C ns ds
 simp only at h1
 by_cases hm:m∈ns
 case pos=>rw [if_pos hm] at h1; exact False.elim h1
 rw [if_neg hm] at h1
 cases el:L.lookup C with
 | none=>rw [el] at h1; exact False.elim h1
 | some ψ=>
  rw [el] at h1
  simp only at h1
  have r1':=r1
  unfold Rep at r1
  obtain ⟨a,dx,fl,rfl,_,h2,h3,_⟩:=r1
  refine ⟨C,ψ,a,dx,fl,lookup_mem el,rfl,h2,RS (by rw [h3]; exact hm),?_⟩
  refine ha _ _ _ _ _ _ _ (s.grow s1) ((h1.grow s1).seq fun as _ h4 vs H2 s2 r2=>?_)
  refine ⟨.obj C ns ds :: as,Av ⟨K,μ⟩ A0 ρ σ (la ++ lk),μ,Ah.cons ((r1'.same s2).BC fun _=>aJ) (r2.BC fun _=>bI),fun a z=>(s.grow (s1.trans s2)).Dj z,?_⟩
  unfold Kl
  cases eo:ψ (.obj C ns ds :: as) with
  | ok d=>rw [eo] at h4; exact fun v H' s' r=>h4 v H' ((s1.trans s2).trans s') r
  | exc x=>rw [eo] at h4; exact fun c od H' s' r=>h4 c od H' (s2.trans s') r
  | bad=>rw [eo] at h4; exact h4
theorem cx{m:Str}{k j:Nat}{L:List (Addr × (List Dt→Out Dt))}{pl:Sem Bool}(hL:∀ q∈L,MeC X.prog X.w X.K X.mg X.base k q.1 m q.2)(tk:L2N.Takes X W)(hr:Room j X.A)(hk:k≤j)(ho:Bc X W o fo la)(ha:JL X W (e :: es) fs lk)
  (hst:starEach (e :: es) X.env=(false,eval e X.env) :: starEach es X.env:=by rfl) (hpl:(backTo pos (starEach es X.env)).any (·.1)=false:=by rfl)
  (ht:eval (.Call (.Attribute o m apos) (e :: es) [] pos) X.env=(do
   let ov ← eval o X.env
   standAt apos.atName
   let (f,first) ← holding [ov] (getMethod ov m pl)
   callWith pos f first (backTo pos (starEach (e :: es) X.env)) (backToKw pos (keywordEach [] X.env))):=by rfl):
  Bc X W (.Call (.Attribute o m apos) (e :: es) [] pos) (DT L m fo fs) (la ++ lk):=by
 obtain ⟨te,pe,de⟩:=ho
 obtain ⟨ta,pa,da⟩:=ha
 exact ⟨_,pe_methS hL tk hr hk pe pa hst hpl ht,RY de da⟩
theorem JJ{m:Str}{k j:Nat}{L:List (Addr × (List Dt→Out Dt))}{pl:Sem Bool}(hL:∀ q∈L,MeC X.prog X.w X.K X.mg X.base k q.1 m q.2)(tk:L2N.Takes X W)(hr:Room j X.A)(hk:k≤j)(ho:Bc X W o fo la)
  (ht:eval (.Call (.Attribute o m apos) [] [] pos) X.env=(do
   let ov ← eval o X.env
   standAt apos.atName
   let (f,first) ← holding [ov] (getMethod ov m pl)
   callWith pos f first (backTo pos (starEach [] X.env)) (backToKw pos (keywordEach [] X.env))):=by rfl):
  Bc X W (.Call (.Attribute o m apos) [] [] pos) (DT L m fo Ag) la:=by
 obtain ⟨te,pe,de⟩:=ho
 refine ⟨_,Y1 hL tk hr hk pe ht,?_⟩
 have q:=RY (K:=X.K) (m:=m) (L:=L) (W:=W) de (MB (W:=W))
 rw [List.append_nil] at q
 exact q
end
end FD
namespace FD
open PySem L2 PyProof.Rows PySem.Spec
def Dt.flat:Dt→Bool
 | .non=>true | .bl _=>true | .int _=>true | .str _=>true
 | _=>false
def eqF:Dt→Dt→Bool
 | .non,.non=>true
 | .bl a,.bl b=>a == b
 | .bl a,.int b=>(if a then 1 else 0) == b
 | .int a,.bl b=>a == (if b then 1 else 0)
 | .int a,.int b=>a == b
 | .str a,.str b=>a == b
 | _,_=>false
def bJ(x:Dt)(ds:List Dt):Bool:=ds.any fun y=>eqF y x
def Le(x b:Dt):Option Bool:=b.aw.bind fun ds=>if x.flat=true∧ds.all Dt.flat=true then some (bJ x ds) else none
section
variable {κ:KM} {K:PySem.W.Frag} {H:Hp} {A:Ad}
theorem Vq{d:Dt}{v:V}(h:d.flat=true)(r:Rep κ H A d v):flatV v=true:=by
 cases d <;> first | (cases h; done) | (obtain rfl:v=_:=r; rfl)
theorem lJ{a b:Dt}{x y:V}(ha:a.flat=true)(hb:b.flat=true)(ra:Rep κ H A a x)(rb:Rep κ H A b y):eqV x y=eqF a b:=by
 cases a <;> first | (cases ha; done) | skip
 all_goals obtain rfl:x=_:=ra
 all_goals (cases b <;> first | (cases hb; done) | skip)
 all_goals (obtain rfl:y=_:=rb; rfl)
theorem SW:∀ {ds:List Dt} {vs:List V},ds.all Dt.flat=true→Ah κ H A ds vs→vs.all flatV=true
 | [],vs,_,r=>by unfold Ah at r; rw [r]; rfl
 | d :: ds,vs,h,r=>by
  unfold Ah at r
  obtain ⟨v,q,rfl,r1,r2⟩:=r
  rw [List.all_cons,Bool.and_eq_true] at h
  rw [List.all_cons,Bool.and_eq_true]
  exact ⟨Vq h.1 r1,SW h.2 r2⟩
theorem Zo{x:Dt}{u:V}(hx:x.flat=true)(rx:Rep κ H A x u):∀ {ds:List Dt} {vs:List V},ds.all Dt.flat=true→Ah κ H A ds vs→inV u vs=bJ x ds
 | [],vs,_,r=>by unfold Ah at r; rw [r]; rfl
 | d :: ds,vs,h,r=>by
  unfold Ah at r
  obtain ⟨v,q,rfl,r1,r2⟩:=r
  rw [List.all_cons,Bool.and_eq_true] at h
  have ih:=Zo hx rx h.2 r2
  unfold inV bJ at ih ⊢
  rw [List.any_cons,List.any_cons,ih,lJ h.1 hx r1 rx]
theorem aK{d:Dt}{v:V}{ds:List Dt}(e:d.aw=some ds)(r:Rep κ H A d v):∃ a vs,v=.ref a∧(SqL κ.K H a vs∨SqT κ.K H a vs)∧Ah κ H A ds vs:=by
 cases d <;> first | (cases e; done) | skip
 ·cases e
  unfold Rep at r
  obtain ⟨a,vs,rfl,h1,r2⟩:=r
  exact ⟨a,vs,rfl,.inr (SqT.XD h1),r2⟩
 ·cases e
  unfold Rep at r
  obtain ⟨a,vs,rfl,_,h1,r2⟩:=r
  exact ⟨a,vs,rfl,.inl (SqL.of h1),r2⟩
 ·cases e
  unfold Rep at r
  obtain ⟨a,vs,rfl,h1,r2⟩:=r
  exact ⟨a,vs,rfl,.inl (SqL.bL h1),r2⟩
theorem cA:Ol K (rIn K false) Le:=by
 intro μ H A a b d x y Q ra rb e q
 unfold Le at e
 obtain ⟨ds,e1,e⟩:=Option.bind_eq_some_iff.mp e
 obtain ⟨⟨h1,h2⟩,rfl⟩:=Bf e
 obtain ⟨p,vs,rfl,hs,r⟩:=aK e1 rb
 refine ⟨p,vs,rfl,hs,Vq h1 ra,SW h2 r,?_⟩
 show Q (.bl (inV x vs)) H
 rw [Zo h1 ra h2 r]
 exact q
theorem VI:Ol K (rIn K true) (CT Le):=by
 intro μ H A a b d x y Q ra rb e q
 obtain ⟨d',e',rfl⟩:=Option.map_eq_some_iff.mp e
 clear e
 unfold Le at e'
 obtain ⟨ds,e1,e'⟩:=Option.bind_eq_some_iff.mp e'
 obtain ⟨⟨h1,h2⟩,rfl⟩:=Bf e'
 obtain ⟨p,vs,rfl,hs,r⟩:=aK e1 rb
 refine ⟨p,vs,rfl,hs,Vq h1 ra,SW h2 r,?_⟩
 show Q (.bl (!inV x vs)) H
 rw [Zo h1 ra h2 r]
 exact q
def Jx:List Dt→Option Dt
 | [d]=>d.aw.map .tup
 | _=>none
theorem cK{K:PySem.W.Frag}:Vc K (fun xs H Q=>∃ p ys,xs=[.ref p]∧((SqL K H p ys∧∀ l,H l=none→Q (.ref l) (upd H l (.tup ys)))∨(SqT K H p ys∧Q (.ref p) H))) Jx:=by
 intro μ H A ds d vs Q ha r e q
 unfold Jx at e
 split at e
 ·obtain ⟨v,rfl,rr⟩:=CO r
  obtain ⟨es,e1,rfl⟩:=Option.map_eq_some_iff.mp e
  rename_i d
  have fin:∀ {ys:List V},Ah ⟨K,μ⟩ H A es ys→∀ l,H l=none→Q (.ref l) (upd H l (.tup ys)):=fun {ys} r2 l hl=>q (.ref l) _ (Same.new hl) (by
   unfold Rep
   exact ⟨l,ys,rfl,.inl ⟨fun z=>by have:=ha l z; rw [hl] at this; exact this,upd_same⟩,r2.same (Same.new hl)⟩)
  cases d <;> first | (cases e1; done) | skip
  ·cases e1
   have rr':=rr
   unfold Rep at rr
   obtain ⟨a,vs,rfl,h1,r2⟩:=rr
   exact ⟨a,vs,rfl,.inr ⟨SqT.XD h1,RE.now q rr'⟩⟩
  ·cases e1
   unfold Rep at rr
   obtain ⟨a,vs,rfl,_,h1,r2⟩:=rr
   exact ⟨a,vs,rfl,.inl ⟨SqL.of h1,fin r2⟩⟩
  ·cases e1
   unfold Rep at rr
   obtain ⟨a,vs,rfl,h1,r2⟩:=rr
   exact ⟨a,vs,rfl,.inl ⟨SqL.bL h1,fin r2⟩⟩
 ·cases e
end
section
variable {X:Cx} {W:WX} {S:List Nat} {e o a b:Expr} {es:List Expr} {fs:Env→Out (List Dt)} {gs:Env→XO (List Dt)} {f fa fb:Env→Out Dt} {lk la lb:List Nat} {p pos apos:Pos}
theorem Oj(hg:Gl X "tuple")(hm:X.mg "tuple" = none)(ha:JL X W [e] fs lk)(he:starEach [e] X.env=(false,eval e X.env) :: starEach [] X.env:=by rfl):Bc X W (.Call (.Name "tuple" p) [e] [] pos) (eB Jx fs) lk:=by
 obtain ⟨ta,pa,da⟩:=ha
 exact ⟨_,pe_callTy call_tuple_of hg hm boot_tuple pa (by decide) (by decide) he rfl,WD cK da⟩
end
end FD
namespace FD
open PySem L2 PyProof.Rows PySem.Spec
def SE:List Dt→Option (List Bool)
 | []=>some []
 | .bl z :: ds=>(SE ds).map (z :: ·)
 | _=>none
@[simp] theorem ON:∀ zs:List Bool,SE (zs.map .bl)=some zs
 | []=>rfl
 | z :: zs=>by
  show (SE (zs.map .bl)).map (z :: ·)=_
  rw [ON zs]
  rfl
def UW:List Dt→Option Dt
 | [.lst ds]=>(SE ds).map fun bs=>.bl (bs.all id)
 | [.fls ds]=>(SE ds).map fun bs=>.bl (bs.all id)
 | _=>none
def Q6:List Dt→Option Dt
 | [.lst ds]=>(SE ds).map fun bs=>.bl (bs.any id)
 | [.fls ds]=>(SE ds).map fun bs=>.bl (bs.any id)
 | _=>none
section
variable {κ:KM} {K:PySem.W.Frag} {H H0 H1:Hp} {A A0:Ad} {ρ:Env} {σ:L2.St} {W:WX} {la lb lk:List Nat}
theorem Ql:∀ {ds:List Dt} {bs:List Bool} {vs:List V},SE ds=some bs→Ah κ H A ds vs→vs=bs.map V.bl
 | [],bs,vs,e,r=>by cases e; unfold Ah at r; rw [r]; rfl
 | d :: ds,bs,vs,e,r=>by
  unfold Ah at r
  obtain ⟨v,q,rfl,r1,r2⟩:=r
  cases d <;> first | (cases e; done) | skip
  rename_i z
  obtain ⟨bs',e',rfl⟩:=Option.map_eq_some_iff.mp (show (SE ds).map (z :: ·)=some bs from e)
  obtain rfl:v=.bl z:=r1
  rw [Ql e' r2]
  rfl
theorem ck{K:PySem.W.Frag}:Vc K (rAll K) UW:=by
 intro μ H A ds d vs Q ha r e q
 unfold UW at e
 split at e
 ·obtain ⟨v,rfl,rr⟩:=CO r
  obtain ⟨bs,e',rfl⟩:=Option.map_eq_some_iff.mp e
  unfold Rep at rr
  obtain ⟨a,us,rfl,_,h1,r2⟩:=rr
  have h2:=Ql e' r2
  subst h2
  exact ⟨a,bs,rfl,SqL.of h1,RE.now q rfl⟩
 ·obtain ⟨v,rfl,rr⟩:=CO r
  obtain ⟨bs,e',rfl⟩:=Option.map_eq_some_iff.mp e
  unfold Rep at rr
  obtain ⟨a,us,rfl,h1,r2⟩:=rr
  have h2:=Ql e' r2
  subst h2
  exact ⟨a,bs,rfl,SqL.bL h1,RE.now q rfl⟩
 ·cases e
theorem bV{K:PySem.W.Frag}:Vc K (rAny K) Q6:=by
 intro μ H A ds d vs Q ha r e q
 unfold Q6 at e
 split at e
 ·obtain ⟨v,rfl,rr⟩:=CO r
  obtain ⟨bs,e',rfl⟩:=Option.map_eq_some_iff.mp e
  unfold Rep at rr
  obtain ⟨a,us,rfl,_,h1,r2⟩:=rr
  have h2:=Ql e' r2
  subst h2
  exact ⟨a,bs,rfl,SqL.of h1,RE.now q rfl⟩
 ·obtain ⟨v,rfl,rr⟩:=CO r
  obtain ⟨bs,e',rfl⟩:=Option.map_eq_some_iff.mp e
  unfold Rep at rr
  obtain ⟨a,us,rfl,h1,r2⟩:=rr
  have h2:=Ql e' r2
  subst h2
  exact ⟨a,bs,rfl,SqL.bL h1,RE.now q rfl⟩
 ·cases e
theorem Yb:∀ ds d,UW ds=some d→d.scal=true:=fun ds d e=>by
 unfold UW at e
 split at e
 ·obtain ⟨bs,e',rfl⟩:=Option.map_eq_some_iff.mp e; rfl
 ·obtain ⟨bs,e',rfl⟩:=Option.map_eq_some_iff.mp e; rfl
 ·cases e
theorem X0:∀ ds d,Q6 ds=some d→d.scal=true:=fun ds d e=>by
 unfold Q6 at e
 split at e
 ·obtain ⟨bs,e',rfl⟩:=Option.map_eq_some_iff.mp e; rfl
 ·obtain ⟨bs,e',rfl⟩:=Option.map_eq_some_iff.mp e; rfl
 ·cases e
end
section
variable {K:PySem.W.Frag} {W:WX} {la lb lk:List Nat}
end
section
variable {X:Cx} {W:WX} {o e a b c d:Expr} {es:List Expr} {fs gs:Env→Out (List Dt)} {f fa fb fc fd:Env→Out Dt} {lk la lb lc ld:List Nat} {p pos apos:Pos}
theorem jq(hc:X.calm=true)(hg:Gl X "all")(hm:X.mg "all" = none)(ha:JL X W [e] fs lk)(he:starEach [e] X.env=(false,eval e X.env) :: starEach [] X.env:=by rfl):Bc X W (.Call (.Name "all" p) [e] [] pos) (eB UW fs) []:=by
 obtain ⟨ta,pa,da⟩:=ha
 exact ⟨_,pe_callB (cr_all hc) hg hm boot_all pa (by decide) (by decide) he rfl,Gh ck Yb da⟩
theorem ia(hc:X.calm=true)(hg:Gl X "any")(hm:X.mg "any" = none)(ha:JL X W [e] fs lk)(he:starEach [e] X.env=(false,eval e X.env) :: starEach [] X.env:=by rfl):Bc X W (.Call (.Name "any" p) [e] [] pos) (eB Q6 fs) []:=by
 obtain ⟨ta,pa,da⟩:=ha
 exact ⟨_,pe_callB (cr_any hc) hg hm boot_any pa (by decide) (by decide) he rfl,Gh bV X0 da⟩
theorem hK:Cmp X .In Le:=⟨_,op_in_seq,cA⟩
theorem Yt:Cmp X .NotIn (CT Le):=⟨_,op_notIn_seq,VI⟩
def OH(f:Env→Out Dt)(g:Env→Out (List Dt)):Env→Out (List Dt):=fun ρ=>(f ρ).bind fun d=>match d.aw with
 | some es=>(g ρ).bind fun ds=>.ok (es ++ ds)
 | none=>.bad
theorem UM(he:Bc X W e f la)(hr:JL X W es fs lb)(hs:starEach (.Starred e p :: es) X.env=(true,eval e X.env) :: starEach es X.env:=by rfl):JL X W (.Starred e p :: es) (OH f fs) (la ++ lb):=by
 obtain ⟨t,p1,d1⟩:=he
 obtain ⟨t',p2,d2⟩:=hr
 refine ⟨_,StX.pa_star p1 p2 hs,fun μ H0 A0 ρ σ H Q s h=>?_⟩
 refine d1 _ _ _ _ _ _ _ s (h.seq fun d _ h1 v1 H1 s1 r1=>?_)
 cases ed:d.aw with
 | none=>rw [ed] at h1; exact False.elim h1
 | some es=>
  rw [ed] at h1
  obtain ⟨a,vs,rfl,hq,r2⟩:=aK ed r1
  refine ⟨a,vs,rfl,hq.symm,d2 _ _ _ _ _ _ _ (s.grow s1) ((h1.grow s1).seq fun ds _ h2 ws H2 s2 r3=>?_)⟩
  exact h2 _ H2 (s1.trans s2) (Ah.append ((r2.same s2).BC fun _=>aJ) (r3.BC fun _=>bI))
end
end FD
namespace FD
open PySem L2 PyProof.Rows PySem.Spec
abbrev tys:List String:=["NoneType","bool","int","str","tuple","list","dict"]
theorem Wo{d:Dt}{t:String}(e:d.fX=some t):t∈tys:=by
 cases d <;> first | (cases e; done) | (cases e; decide)
theorem FE{α:Type}{c:Prop}[Decidable c]{a:Option α}{b:α}(h:(if c then a else none)=some b):c∧a=some b:=by
 by_cases hc:c
 ·rw [if_pos hc] at h; exact ⟨hc,h⟩
 ·rw [if_neg hc] at h; cases h
structure IsoC (K:PySem.W.Frag) (C:Addr) (L:List (Addr × Bool)):Prop where
 own:∀ q∈L,C8.InsC K q.1∧PySem.W.kitOne K (.ref q.1) (.ref C)=some q.2
 oth:∀ t∈tys,PySem.W.kitOne K (.type t) (.ref C)=some false
def T6(C:Addr)(L:List (Addr × Bool)):List Dt→Option Dt
 | [.obj D _ _,.cls c]=>if c=C then (L.lookup D).map .bl else none
 | [d,.cls c]=>if c=C then d.fX.map fun _=>.bl false else none
 | _=>none
theorem jj{K:PySem.W.Frag}{H:Hp}{a C dx:Addr}{fs:List (Str × V)}(c:C8.InsC K C)(e:H a=some (.ins C dx fs)):TyX K H (.ref a) (.ref C):=.base (.ins e c.cl c.ha c.hn c.htk c.hm)
theorem dR{K:PySem.W.Frag}{C:Addr}{L:List (Addr × Bool)}(h:IsoC K C L):Vc K (rIsi K) (T6 C L):=by
 intro μ H A ds d vs Q ha r e q
 unfold T6 at e
 split at e
 ·rename_i D ns es c
  obtain ⟨v,u,rfl,r1,r2⟩:=Ri r
  obtain ⟨hc,e'⟩:=FE e
  clear e
  subst hc
  obtain rfl:u=.ref c:=r2
  obtain ⟨b,eb,rfl⟩:=Option.map_eq_some_iff.mp e'
  obtain ⟨h1,h2⟩:=h.own _ (lookup_mem eb)
  unfold Rep at r1
  obtain ⟨a,dx,fs,rfl,_,h3,_,_⟩:=r1
  exact ⟨_,_,.ref D,.ref c,b,rfl,.own c,jj h1 h3,h2,RE.now q rfl⟩
 ·rename_i x c _
  obtain ⟨v,u,rfl,r1,r2⟩:=Ri r
  obtain ⟨hc,e'⟩:=FE e
  clear e
  subst hc
  obtain rfl:u=.ref c:=r2
  obtain ⟨t,et,rfl⟩:=Option.map_eq_some_iff.mp e'
  exact ⟨_,_,.type t,.ref c,false,rfl,.own c,VN r1 et,h.oth _ (Wo et),RE.now q rfl⟩
 ·cases e
theorem Yj{C:Addr}{L:List (Addr × Bool)}:∀ ds d,T6 C L ds=some d→d.scal=true:=fun ds d e=>by
 unfold T6 at e
 split at e
 ·obtain ⟨hc,e'⟩:=FE e
  obtain ⟨b,eb,rfl⟩:=Option.map_eq_some_iff.mp e'
  rfl
 ·obtain ⟨hc,e'⟩:=FE e
  obtain ⟨b,eb,rfl⟩:=Option.map_eq_some_iff.mp e'
  rfl
 ·cases e
abbrev Mg:=List (Addr × (List Dt→Out Dt))
def br(L:Mg):Dt→Bool
 | .obj D _ _=>(L.lookup D).isSome
 | d=>d.fX.isSome
def lG:Out Dt→Out Dt
 | .ok (.bl b)=>.ok (.bl b)
 | .exc x=>.exc x
 | _=>.bad
def PN(L:Mg)(fa fb:Env→Out Dt):Env→Out Dt:=fun ρ=>(fa ρ).bind fun a=>(fb ρ).bind fun b=>match a with
 | .obj C ns ds=>(match L.lookup C with
  | some ψ=>if br L b=true then lG (ψ [.obj C ns ds,b]) else .bad
  | none=>.bad)
 | _=>.bad
structure EqC (K:PySem.W.Frag) (L:Mg) (C:Addr):Prop where
 oth:∀ t∈tys,PySem.W.notFirst K C (.type t)=true
 own:∀ q∈L,PySem.W.notFirst K C (.ref q.1)=true
def TyQ(K:PySem.W.Frag)(L:Mg)(y:V)(H:Hp):Prop:=(∃ t∈tys,TyX K H y (.type t))∨∃ a D ψ dx fs,(D,ψ)∈L∧y=.ref a∧H a=some (.ins D dx fs)
def k7(K:PySem.W.Frag)(L:Mg)(E:L2.St→XK)(ta tb:TE):TE:=fun σ H Q=>ta σ H fun x H1=>tb σ H1 fun y H2=>∃ C ψ a dx fs,(C,ψ)∈L∧x=.ref a∧H2 a=some (.ins C dx fs)∧TyQ K L y H2∧Np K ψ [x,y] H2 (fun v H'=>(∃ b,v=.bl b)∧Q v H') (E σ)
theorem fC{κ:KM}{H:Hp}{A:Ad}{L:Mg}{d:Dt}{v:V}(h:br L d=true)(r:Rep κ H A d v)(hn:∀ C ns ds,d≠.obj C ns ds):TyQ κ.K L v H:=by
 have h':d.fX.isSome=true:=by
  cases d with
  | obj C ns ds=>exact absurd rfl (hn C ns ds)
  | _=>exact h
 obtain ⟨t,e⟩:=Option.isSome_iff_exists.mp h'
 exact .inl ⟨t,Wo e,VN r e⟩
section
variable {X:Cx} {W:WX} {e o a b:Expr} {fs:Env→Out (List Dt)} {f fa fb:Env→Out Dt} {lk la lb:List Nat} {p pos apos:Pos} {L:Mg} {k j:Nat} {ta tb:TE}
theorem jk{C:Addr}{T:List (Addr × Bool)}(h:IsoC X.K C T)(hg:Gl X "isinstance")(hm:X.mg "isinstance" = none)(ha:JL X W [a,b] fs lk)(he:starEach [a,b] X.env=(false,eval a X.env) :: starEach [b] X.env:=by rfl)(hpl:(backTo pos (starEach [b] X.env)).any (·.1)=false:=by rfl):
  Bc X W (.Call (.Name "isinstance" p) [a,b] [] pos) (eB (T6 C T) fs) []:=by
 obtain ⟨ta,pa,da⟩:=ha
 exact ⟨_,pe_callB call_isi hg hm boot_isinstance pa (by decide) (by decide) he hpl,Gh (dR h) Yj da⟩
theorem bj(hL:∀ q∈L,MeC X.prog X.w X.K X.mg X.base k q.1 "__eq__" q.2)(hE:∀ q∈L,EqC X.K L q.1)(tk:L2N.Takes X W)(hr:Room j X.A)(hk:k≤j)(ha:PE X a ta)(hb:PE X b tb):PC X .Eq a b (k7 X.K L (WE W) ta tb):=by
 refine ⟨fun pins s σ H Q I h=>?_⟩
 refine thn (ha.run pins s σ H _ I h) fun v s1 ⟨x,H1,I1,rx,q1⟩=>thn (hb.run pins s1 σ H1 _ I1 q1) fun u s2 ⟨y,H2,I2,ry,C,ψ,p,dx,fs,hm,ex,ep,ty,q2⟩=>?_
 subst ex
 obtain rfl:v=Value.ref p:=rx
 have mc:=hL _ hm
 have ec:=hE _ hm
 obtain ⟨f,hme,F⟩:=mc.ex
 obtain ⟨mA,J,_⟩:=ins_get I2.hok ep
 obtain ⟨od,J,_⟩:=J.look
 obtain ⟨m,hF⟩:=I2.fr
 obtain ⟨tb,hlb,hnf⟩:∃ tb,PySem.W.Looks (model X.prog X.w) s2.heap (typeOf u) tb∧PySem.W.notFirst X.K C tb=true:=by
  rcases ty with ⟨t,ht,ty⟩ | ⟨p',D,ψ',dx',fs',hm',rfl,ep'⟩
  ·obtain ⟨P,Z,z,_⟩:=kit_of I2 ry ty
   exact ⟨_,Z.ty _ _ I2.kIn z,ec.oth t ht⟩
  ·obtain rfl:u=Value.ref p':=ry
   obtain ⟨mB,J',_⟩:=ins_get I2.hok ep'
   obtain ⟨od',J',_⟩:=J'.look
   exact ⟨_,J'.type,ec.own _ hm'⟩
 show wpAny (model X.prog X.w) X.A (richCompare .Eq (.ref p) u) (EP X pins σ Q) X.xe s2
 refine PySem.W.cmp_K (op:=.Eq) (tb:=tb) (hr.mono hk).units0 hF I2.ok.mod.kin J hlb hnf hme.at_ hme.fn ?_
 refine wpAny_mono (E3 (us:=[.ref p,u]) (vs:=[.ref p,y]) F (hr.mono hk) (L2N.passAt tk σ) I2 (.cons rfl (.cons ry .nil)) q2) (fun r s3 z=>?_) fun _ _ x=>x
 obtain ⟨w,H3,I3,rw,⟨b,rfl⟩,q3⟩:=z
 obtain rfl:r=Value.bool b:=rw
 exact ⟨.bl b,H3,I3,rfl,q3⟩
theorem Xc{K:PySem.W.Frag}(ha:Dx K W ta fa la)(hb:Dx K W tb fb lb):Dx K W (k7 K L (WE W) ta tb) (PN L fa fb) []:=by
 intro μ H0 A0 ρ σ H Q s h
 refine ha _ _ _ _ _ _ _ s (h.seq fun x ex h1 v1 H1 s1 r1=>?_)
 refine hb _ _ _ _ _ _ _ (s.grow s1) ((h1.grow s1).seq fun y ey h2 v2 H2 s2 r2=>?_)
 clear ex ey
 cases x <;> try (exact False.elim h2)
 rename_i C ns ds
 simp only at h2
 cases el:L.lookup C with
 | none=>rw [el] at h2; exact False.elim h2
 | some ψ=>
  rw [el] at h2
  simp only at h2
  by_cases hq:br L y=true
  case neg=>rw [if_neg hq] at h2; exact False.elim h2
  rw [if_pos hq] at h2
  have r1':=r1
  unfold Rep at r1
  obtain ⟨p,dx,fl,rfl,_,h3,_,_⟩:=r1
  refine ⟨C,ψ,p,dx,fl,lookup_mem el,rfl,s2 _ _ h3,?_,?_⟩
  ·cases y with
   | obj D ns' ds'=>
    obtain ⟨ψ',e'⟩:=Option.isSome_iff_exists.mp (show (L.lookup D).isSome=true from hq)
    unfold Rep at r2
    obtain ⟨p',dx',fl',rfl,_,h4,_,_⟩:=r2
    exact .inr ⟨p',D,ψ',dx',fl',lookup_mem e',rfl,h4⟩
   | _=>exact fC hq r2 (fun _ _ _ z=>by cases z)
  ·refine ⟨[.obj C ns ds,y],Av ⟨K,μ⟩ A0 ρ σ (la ++ lb),μ,Ah.cons ((r1'.same s2).BC fun _=>aJ) (Ah.cons (r2.BC fun _=>bI) Ah.nil),fun a z=>(s.grow (s1.trans s2)).Dj z,?_⟩
   unfold Kl
   cases eo:ψ [.obj C ns ds,y] with
   | ok d=>
    rw [eo] at h2
    cases d <;> try (exact False.elim h2)
    rename_i b
    intro v H' s' r
    obtain rfl:v=.bl b:=r
    exact ⟨⟨b,rfl⟩,h2 (.bl b) H' ((s1.trans s2).trans s') rfl⟩
   | exc x=>rw [eo] at h2; exact fun c od H' s' r=>h2 c od H' (s2.trans s') r
   | bad=>rw [eo] at h2; exact h2
theorem Zr(hL:∀ q∈L,MeC X.prog X.w X.K X.mg X.base k q.1 "__eq__" q.2)(hE:∀ q∈L,EqC X.K L q.1)(tk:L2N.Takes X W)(hr:Room j X.A)(hk:k≤j)(ha:Bc X W a fa la)(hb:Bc X W b fb lb):Bc X W (.Compare a [.Eq] [b] pos) (PN L fa fb) []:=by
 obtain ⟨ta,pa,da⟩:=ha
 obtain ⟨tb,pb,db⟩:=hb
 exact ⟨_,pe_cmp (bj hL hE tk hr hk pa pb) ,Xc da db⟩
theorem i8(hL:∀ q∈L,MeC X.prog X.w X.K X.mg X.base k q.1 "__eq__" q.2)(hE:∀ q∈L,EqC X.K L q.1)(tk:L2N.Takes X W)(hr:Room j X.A)(hk:k≤j)(ha:Bc X W a fa la)(hb:Bc X W b fb lb):Vb X W (.Compare a [.Eq] [b] pos) (t1 (PN L fa fb) A2) []:=by
 obtain ⟨ta,pa,da⟩:=ha
 obtain ⟨tb,pb,db⟩:=hb
 refine ⟨_,pt_cmp (bj hL hE tk hr hk pa pb),fun μ H0 A0 ρ σ H Q s h=>?_⟩
 refine Xc da db _ _ _ _ _ _ _ s (h.seq fun x ex h1 v1 H1 s1 r1=>?_)
 obtain ⟨k,e,q⟩:=BM h1
 cases x with
 | bl b=>
  obtain rfl:v1=.bl b:=r1
  cases e
  exact ⟨_,rfl,q H1 s1⟩
 | _=>
  exfalso
  unfold PN at ex
  obtain ⟨x,_,ex⟩:=Out.FG ex
  obtain ⟨y,_,ex⟩:=Out.FG ex
  cases x <;> try (cases ex; done)
  simp only at ex
  split at ex
  ·split at ex
   ·rename_i ψ _ _
    revert ex
    cases ψ [Dt.obj _ _ _,y] with
    | ok d=>cases d <;> intro ex <;> cases ex
    | exc x=>intro ex; cases ex
    | bad=>intro ex; cases ex
   ·cases ex
  ·cases ex
end
end FD
namespace FD
open PySem L2 PyProof.Rows PySem.Spec
section
variable {P:Program} {w:World} {K:PySem.W.Frag} {mg:Str→Option Value} {base:Heap}
end
end FD
namespace FD
open PySem L2 PyProof.Rows PySem.Spec
section
variable {X:Cx} {W:WX} {S T:List Nat} {n:Nat} {u:Dt→Env→Option Env} {t:Env→Out Bool} {f:Env→Out Dt} {lk lt le:List Nat}
end
def fY:Value→Bool
 | .type _=>true
 | _=>false
theorem gY{t:String}(h:t∈tys):∃ l,PySem.fastBuiltinMro t=some l∧l.all fY=true:=by
 have e:(PySem.fastBuiltinMro t).map (fun l=>l.all fY)=some true:=by
  simp only [tys,List.mem_cons,List.not_mem_nil,or_false] at h
  rcases h with rfl | rfl | rfl | rfl | rfl | rfl | rfl <;> decide +kernel
 obtain ⟨l,h1,h2⟩:=Option.map_eq_some_iff.mp e
 exact ⟨l,h1,h2⟩
theorem Z7{K:PySem.W.Frag}{t:String}{C:Addr}(h:t∈tys):PySem.W.subIn K (.type t) (.ref C)=some false:=by
 obtain ⟨l,h1,h2⟩:=gY h
 show (PySem.fastBuiltinMro t).map (·.contains (.ref C))=some false
 rw [h1,Option.map_some]
 congr 1
 cases e:l.contains (Value.ref C) with
 | false=>rfl
 | true=>
  have m:=List.contains_iff_mem.mp e
  have q:=List.all_eq_true.mp h2 _ m
  cases q
theorem Z3{K:PySem.W.Frag}{C:Addr}(h1:PySem.W.isClsIn K C=true)(h2:PySem.W.typeIn K (.ref C)=some (.type "type")):∀ t∈tys,PySem.W.kitOne K (.type t) (.ref C)=some false:=fun t h=>M9 rfl h1 h2 (Z7 h)
theorem c6{K:PySem.W.Frag}{C:Addr}:∀ t∈tys,PySem.W.notFirst K C (.type t)=true:=fun t h=>by
 unfold PySem.W.notFirst
 rw [Z7 h]
 simp
theorem aW{K:PySem.W.Frag}{C:Addr}:PySem.W.notFirst K C (.ref C)=true:=by
 unfold PySem.W.notFirst
 rw [beq_self_eq_true]
 rfl
section
variable {X:Cx} {W:WX}
end
section
variable {P:Program} {w:World} {K:PySem.W.Frag} {mg:Str→Option Value} {base:Heap}
theorem Ba{x qual:Str}{params:Arguments}{body:List Stmt}{scope:Scope}{f:Addr}{fd:FuncData}{ps:List Str}(F:FunD K x qual params body scope [] [] f fd)
  (h:∀ (kV doc pm:Value) (an:Option Addr) (cdv ct:Value) (us:List Value),us.length=ps.length→bindArgs (PySem.W.fnOf x qual params body scope .none kV doc pm an cdv ct) ⟨us,[]⟩=pure (ps.zip us)):Binds K fd ps []:=by
 obtain ⟨oc,od,dV,kV,doc,pm,an,cdv,ct,osl,rfl,lk,hcd,hD,_⟩:=F.ex
 rcases hD with ⟨_,rfl⟩ | ⟨z,_⟩
 ·exact .all (h kV doc pm an cdv ct)
 ·exact absurd rfl z
theorem je{f:Addr}{fd:FuncData}{ps:List Str}{k n:Nat}{φ:List Dt→List Cell→MO}(F:FnOk P w K mg base (L2N.CX P w) k f fd ps (M6 K n φ))(hb:Binds K fd ps []):FnR P w K mg base (L2N.CX P w) k f (fZ K (Li n φ)):=by
 refine FnR.imp (F.raw hb .nil) fun vs H Q E h=>?_
 obtain ⟨ds,A,μ,cs,r,hm,ha,hd,hf,h⟩:=h
 unfold Li at h
 by_cases hl:ds.length=n
 case neg=>rw [if_neg hl] at h; exact False.elim h
 rw [if_pos hl] at h
 rw [List.append_nil]
 exact ⟨by rw [r.length]; exact hl,ds,A,μ,cs,r,hm,ha,hd,hf,h⟩
theorem K7{f:Addr}{fd:FuncData}{ps:List Str}{k n:Nat}{φ:List Dt→Out Dt}(F:FnOk P w K mg base (L2N.CX P w) k f fd ps (DH K n φ))(hb:Binds K fd ps []):FnR P w K mg base (L2N.CX P w) k f (Np K (CI n φ)):=by
 refine FnR.imp (F.raw hb .nil) fun vs H Q E h=>?_
 obtain ⟨ds,A,μ,r,ha,h⟩:=h
 unfold CI at h
 by_cases hl:ds.length=n
 case neg=>rw [if_neg hl] at h; exact False.elim h
 rw [if_pos hl] at h
 exact ⟨ds,A,μ,by rw [List.append_nil]; exact r,hl,ha,h⟩
end
end FD
namespace FD
open PySem L2 PyProof.Rows PySem.Spec
structure SMet (K:PySem.W.Frag) (C:Addr) (mc:Value) (m:Str) (p g:Addr):Prop where
 at_:PySem.W.findCls K (.ref C) mc m=some (.get (.builtin "staticmethod.__get__") (.ref p) .none (.ref C))
 rc:∃ rest,PySem.W.recIn K p "staticmethod" = some (.ref g :: rest)
 kp:PySem.W.keepIn K (.ref g)=true
end FD
namespace Lk15
open PySem L2 PyProof.Rows PySem.Spec FD
def top(i:Nat):Stmt:=PySem.Challenge.pw_bidehall_k15_product_of_maps.main.body.getD i (.Pass ⟨0,0,0,0⟩)
def i9(s:Stmt):Stmt:=match s with
 | .ClassDef _ _ _ b _ _ _ _ _ _ _=>b.getD 0 (.Pass ⟨0,0,0,0⟩)
 | _=>.Pass ⟨0,0,0,0⟩
def I6(s:Stmt)(j:Nat):Stmt:=match s with
 | .ClassDef _ _ _ b _ _ _ _ _ _ _=>b.getD j (.Pass ⟨0,0,0,0⟩)
 | _=>.Pass ⟨0,0,0,0⟩
abbrev Et:Stmt:=top 12
abbrev Ep:Stmt:=top 13
abbrev Cp:Stmt:=top 14
abbrev D3:Stmt:=top 15
abbrev D2:Stmt:=top 16
abbrev Cv:Stmt:=top 27
abbrev Dh:Stmt:=top 28
abbrev Bu:Stmt:=top 29
abbrev Bt:Stmt:=I6 (top 36) 0
abbrev DU:Stmt:=top 30
abbrev Ex:Stmt:=top 19
abbrev Ew:Stmt:=top 17
abbrev DW:Stmt:=top 18
abbrev Dl:Stmt:=top 20
abbrev BY:Stmt:=top 21
abbrev Er:Stmt:=top 22
abbrev De:Stmt:=top 32
abbrev Cu:Stmt:=I6 (top 36) 2
abbrev AS:Stmt:=I6 (top 36) 13
abbrev Bv:Stmt:=top 35
abbrev BG:Stmt:=I6 (top 36) 5
abbrev B0:Stmt:=I6 (top 36) 11
abbrev Dg:Stmt:=top 39
abbrev Cq:Stmt:=top 40
abbrev B3:Stmt:=top 41
abbrev Co:Stmt:=top 42
abbrev B5:Stmt:=top 43
abbrev BE:Stmt:=top 44
abbrev Dc:Stmt:=top 45
abbrev B4:Stmt:=top 46
abbrev Cb:Stmt:=top 47
abbrev BP:Stmt:=top 52
abbrev CL:Stmt:=top 23
abbrev Be:Stmt:=I6 (top 36) 4
abbrev Bq:Stmt:=top 38
abbrev BJ:Stmt:=top 53
abbrev AR:Stmt:=top 54
abbrev C9:Stmt:=I6 (top 36) 3
abbrev BF:Stmt:=I6 (top 36) 12
abbrev B6:Stmt:=top 48
abbrev Cn:Stmt:=top 49
abbrev Cz:Stmt:=top 50
abbrev Bg:Stmt:=top 51
abbrev BX:Stmt:=top 58
abbrev BZ:Stmt:=top 31
abbrev EF:Stmt:=I6 (top 36) 1
abbrev Bm:Stmt:=top 60
abbrev Cw:Stmt:=top 59
abbrev Br:Stmt:=top 61
abbrev BD:Stmt:=top 55
abbrev Bo:Stmt:=top 56
abbrev B1:Stmt:=top 57
abbrev Di:Stmt:=top 62
abbrev EH:Stmt:=top 63
abbrev EL:Stmt:=i9 (top 6)
structure Cs where
 c_EmptyForm:Addr
 c_Map:Addr
 c_NoName:Addr
 c_NoAnswer:Addr
 c_Unfit:Addr
 c_HouseError:Addr
 c_Refused:Addr
abbrev Cs.all(cs:Cs):List Addr:=[cs.c_EmptyForm]
abbrev CV:List Str:=[]
def Cy:List Dt→Bool:=fun _=>true
abbrev GJ:List V→Prop:=(fun _=>True)
theorem HR(K:PySem.W.Frag):OkV K Cy GJ:=fun _ _ _ _ _ _ _=>trivial
abbrev BS(cs:Cs):List Addr:=[cs.c_Map]
abbrev VY(cs:Cs):List (Addr × Bool):=[(cs.c_Map,true)]
structure Tx (P:Program) (w:World) (K:PySem.W.Frag) (mg:Str→Option Value) (base:Heap) (cs:Cs):Prop where
 n_ValueError:mg "ValueError" = none
 n_all:mg "all" = none
 n_any:mg "any" = none
 n_bool:mg "bool" = none
 n_dict:mg "dict" = none
 n_int:mg "int" = none
 n_isinstance:mg "isinstance" = none
 n_len:mg "len" = none
 n_list:mg "list" = none
 n_max:mg "max" = none
 n_min:mg "min" = none
 n_range:mg "range" = none
 n_sorted:mg "sorted" = none
 n_str:mg "str" = none
 n_sum:mg "sum" = none
 n_tuple:mg "tuple" = none
 v_MOST_ROWS:∃ u,mg "MOST_ROWS" = some u∧RelV (.int 200) u
 Cy:mg "EmptyForm" = some (.ref cs.c_EmptyForm)
 g_Map:mg "Map" = some (.ref cs.c_Map)
 g_NoName:mg "NoName" = some (.ref cs.c_NoName)
 g_NoAnswer:mg "NoAnswer" = some (.ref cs.c_NoAnswer)
 g_Unfit:mg "Unfit" = some (.ref cs.c_Unfit)
 g_HouseError:mg "HouseError" = some (.ref cs.c_HouseError)
 g_Refused:mg "Refused" = some (.ref cs.c_Refused)
 cl_Map:Cls K cs.c_Map
 no_Map__forms:NoAttr K cs.c_Map "_forms"
 sf_Map:PySem.W.selfFirst K cs.c_Map=true
 in_Map:C8.InsC K cs.c_Map
 ki_Map_Map:PySem.W.kitOne K (.ref cs.c_Map) (.ref cs.c_Map)=some true
 oi_Map:∀ t∈tys,PySem.W.kitOne K (.type t) (.ref cs.c_Map)=some false
 m_EmptyForm:PySem.FX.XMk P w K mg base cs.c_EmptyForm CV GJ
 k_EmptyForm:PySem.W.keepIn K (.ref cs.c_EmptyForm)=true
 e_EmptyForm:PySem.W.subIn K (.ref cs.c_EmptyForm) (.type "BaseException")=some true
 t_EmptyForm:PySem.W.typeIn K (.ref cs.c_EmptyForm)=some (.type "type")
 xc:∀ C:Addr,C∈cs.all→ExcC K C
 x_EmptyForm_EmptyForm:PySem.W.exmOne K (.ref cs.c_EmptyForm) (.ref cs.c_EmptyForm)=some true
 x_EmptyForm_HouseError:PySem.W.exmOne K (.ref cs.c_EmptyForm) (.ref cs.c_HouseError)=some true
 i_EmptyForm_Refused:PySem.W.kitOne K (.ref cs.c_EmptyForm) (.ref cs.c_Refused)=some true
 i_EmptyForm_HouseError:PySem.W.kitOne K (.ref cs.c_EmptyForm) (.ref cs.c_HouseError)=some true
 i_EmptyForm_ValueError:PySem.W.kitOne K (.ref cs.c_EmptyForm) (.type "ValueError")=some true
 i_EmptyForm_Unfit:PySem.W.kitOne K (.ref cs.c_EmptyForm) (.ref cs.c_Unfit)=some false
 i_EmptyForm_NoAnswer:PySem.W.kitOne K (.ref cs.c_EmptyForm) (.ref cs.c_NoAnswer)=some false
 i_EmptyForm_NoName:PySem.W.kitOne K (.ref cs.c_EmptyForm) (.ref cs.c_NoName)=some false
 F_row_of:∃ (a:Addr) (fd:FuncData),FunD K "row_of" "row_of" (defArgs Et) (defBody Et) (defScope Et) [] [] a fd∧mg "row_of" = some (.ref a)
 F_within:∃ (a:Addr) (fd:FuncData),FunD K "within" "within" (defArgs Ep) (defBody Ep) (defScope Ep) [] [] a fd∧mg "within" = some (.ref a)
 F_has_below:∃ (a:Addr) (fd:FuncData),FunD K "has_below" "has_below" (defArgs Cp) (defBody Cp) (defScope Cp) [] [] a fd∧mg "has_below" = some (.ref a)
 F_lowest:∃ (a:Addr) (fd:FuncData),FunD K "lowest" "lowest" (defArgs D3) (defBody D3) (defScope D3) [] [] a fd∧mg "lowest" = some (.ref a)
 F_normal:∃ (a:Addr) (fd:FuncData),FunD K "normal" "normal" (defArgs D2) (defBody D2) (defScope D2) [] [] a fd∧mg "normal" = some (.ref a)
 F_need_rows:∃ (a:Addr) (fd:FuncData),FunD K "need_rows" "need_rows" (defArgs Cv) (defBody Cv) (defScope Cv) [] [] a fd∧mg "need_rows" = some (.ref a)
 F_need_few:∃ (a:Addr) (fd:FuncData),FunD K "need_few" "need_few" (defArgs Dh) (defBody Dh) (defScope Dh) [] [] a fd∧mg "need_few" = some (.ref a)
 F_checked_form:∃ (a:Addr) (fd:FuncData),FunD K "checked_form" "checked_form" (defArgs Bu) (defBody Bu) (defScope Bu) [] [] a fd∧mg "checked_form" = some (.ref a)
 F_Map___init__:∃ (a:Addr) (fd:FuncData),FunD K "__init__" "Map.__init__" (defArgs Bt) (defBody Bt) (defScope Bt) [] [] a fd∧Mk K cs.c_Map a
 F_map_of:∃ (a:Addr) (fd:FuncData),FunD K "map_of" "map_of" (defArgs DU) (defBody DU) (defScope DU) [] [] a fd∧mg "map_of" = some (.ref a)
 F_either:∃ (a:Addr) (fd:FuncData),FunD K "either" "either" (defArgs Ex) (defBody Ex) (defScope Ex) [] [] a fd∧mg "either" = some (.ref a)
 F_merged:∃ (a:Addr) (fd:FuncData),FunD K "merged" "merged" (defArgs Ew) (defBody Ew) (defScope Ew) [] [] a fd∧mg "merged" = some (.ref a)
 F_joined:∃ (a:Addr) (fd:FuncData),FunD K "joined" "joined" (defArgs DW) (defBody DW) (defScope DW) [] [] a fd∧mg "joined" = some (.ref a)
 F_shifted:∃ (a:Addr) (fd:FuncData),FunD K "shifted" "shifted" (defArgs Dl) (defBody Dl) (defScope Dl) [] [] a fd∧mg "shifted" = some (.ref a)
 F_placed_row:∃ (a:Addr) (fd:FuncData),FunD K "placed_row" "placed_row" (defArgs BY) (defBody BY) (defScope BY) [] [] a fd∧mg "placed_row" = some (.ref a)
 F_placed:∃ (a:Addr) (fd:FuncData),FunD K "placed" "placed" (defArgs Er) (defBody Er) (defScope Er) [] [] a fd∧mg "placed" = some (.ref a)
 F_composed:∃ (a:Addr) (fd:FuncData),FunD K "composed" "composed" (defArgs De) (defBody De) (defScope De) [] [] a fd∧mg "composed" = some (.ref a)
 F_Map_names:∃ (a:Addr) (fd:FuncData),FunD K "names" "Map.names" (defArgs Cu) (defBody Cu) (defScope Cu) [] [] a fd∧Meth K cs.c_Map "names" a
 F_Map___contains__:∃ (a:Addr) (fd:FuncData),FunD K "__contains__" "Map.__contains__" (defArgs AS) (defBody AS) (defScope AS) [] [] a fd∧Meth K cs.c_Map "__contains__" a
 F_need_alike:∃ (a:Addr) (fd:FuncData),FunD K "need_alike" "need_alike" (defArgs Bv) (defBody Bv) (defScope Bv) [] [] a fd∧mg "need_alike" = some (.ref a)
 F_Map___mul__:∃ (a:Addr) (fd:FuncData),FunD K "__mul__" "Map.__mul__" (defArgs BG) (defBody BG) (defScope BG) [] [] a fd∧Meth K cs.c_Map "__mul__" a
 F_Map___eq__:∃ (a:Addr) (fd:FuncData),FunD K "__eq__" "Map.__eq__" (defArgs B0) (defBody B0) (defScope B0) [] [] a fd∧Meth K cs.c_Map "__eq__" a
 F__law_box:∃ (a:Addr) (fd:FuncData),FunD K "_law_box" "_law_box" (defArgs Dg) (defBody Dg) (defScope Dg) [] [] a fd∧mg "_law_box" = some (.ref a)
 F__law_take:∃ (a:Addr) (fd:FuncData),FunD K "_law_take" "_law_take" (defArgs Cq) (defBody Cq) (defScope Cq) [] [] a fd∧mg "_law_take" = some (.ref a)
 F__law_fresh:∃ (a:Addr) (fd:FuncData),FunD K "_law_fresh" "_law_fresh" (defArgs B3) (defBody B3) (defScope B3) [] [] a fd∧mg "_law_fresh" = some (.ref a)
 F__law_word:∃ (a:Addr) (fd:FuncData),FunD K "_law_word" "_law_word" (defArgs Co) (defBody Co) (defScope Co) [] [] a fd∧mg "_law_word" = some (.ref a)
 F__law_names:∃ (a:Addr) (fd:FuncData),FunD K "_law_names" "_law_names" (defArgs B5) (defBody B5) (defScope B5) [] [] a fd∧mg "_law_names" = some (.ref a)
 F__law_spread:∃ (a:Addr) (fd:FuncData),FunD K "_law_spread" "_law_spread" (defArgs BE) (defBody BE) (defScope BE) [] [] a fd∧mg "_law_spread" = some (.ref a)
 F__law_row:∃ (a:Addr) (fd:FuncData),FunD K "_law_row" "_law_row" (defArgs Dc) (defBody Dc) (defScope Dc) [] [] a fd∧mg "_law_row" = some (.ref a)
 F__law_rules:∃ (a:Addr) (fd:FuncData),FunD K "_law_rules" "_law_rules" (defArgs B4) (defBody B4) (defScope B4) [] [] a fd∧mg "_law_rules" = some (.ref a)
 F__law_copy:∃ (a:Addr) (fd:FuncData),FunD K "_law_copy" "_law_copy" (defArgs Cb) (defBody Cb) (defScope Cb) [] [] a fd∧mg "_law_copy" = some (.ref a)
 F__law_value:∃ (a:Addr) (fd:FuncData),FunD K "_law_value" "_law_value" (defArgs BP) (defBody BP) (defScope BP) [] [] a fd∧mg "_law_value" = some (.ref a)
 F_value_of:∃ (a:Addr) (fd:FuncData),FunD K "value_of" "value_of" (defArgs CL) (defBody CL) (defScope CL) [] [] a fd∧mg "value_of" = some (.ref a)
 F_Map___call__:∃ (a:Addr) (fd:FuncData),FunD K "__call__" "Map.__call__" (defArgs Be) (defBody Be) (defScope Be) [] [] a fd∧Meth K cs.c_Map "__call__" a
 F__law_integer:∃ (a:Addr) (fd:FuncData),FunD K "_law_integer" "_law_integer" (defArgs Bq) (defBody Bq) (defScope Bq) [] [] a fd∧mg "_law_integer" = some (.ref a)
 F__law_gives:∃ (a:Addr) (fd:FuncData),FunD K "_law_gives" "_law_gives" (defArgs BJ) (defBody BJ) (defScope BJ) [] [] a fd∧mg "_law_gives" = some (.ref a)
 F__law_drawn_point:∃ (a:Addr) (fd:FuncData),FunD K "_law_drawn_point" "_law_drawn_point" (defArgs AR) (defBody AR) (defScope AR) [] [] a fd∧mg "_law_drawn_point" = some (.ref a)
 F_Map_form:∃ (a:Addr) (fd:FuncData),FunD K "form" "Map.form" (defArgs C9) (defBody C9) (defScope C9) [] [] a fd∧Meth K cs.c_Map "form" a
 F_Map___len__:∃ (a:Addr) (fd:FuncData),FunD K "__len__" "Map.__len__" (defArgs BF) (defBody BF) (defScope BF) [] [] a fd∧Meth K cs.c_Map "__len__" a
 F__law_below:∃ (a:Addr) (fd:FuncData),FunD K "_law_below" "_law_below" (defArgs B6) (defBody B6) (defScope B6) [] [] a fd∧mg "_law_below" = some (.ref a)
 F__law_flat:∃ (a:Addr) (fd:FuncData),FunD K "_law_flat" "_law_flat" (defArgs Cn) (defBody Cn) (defScope Cn) [] [] a fd∧mg "_law_flat" = some (.ref a)
 F__law_form:∃ (a:Addr) (fd:FuncData),FunD K "_law_form" "_law_form" (defArgs Cz) (defBody Cz) (defScope Cz) [] [] a fd∧mg "_law_form" = some (.ref a)
 F__law_normal:∃ (a:Addr) (fd:FuncData),FunD K "_law_normal" "_law_normal" (defArgs Bg) (defBody Bg) (defScope Bg) [] [] a fd∧mg "_law_normal" = some (.ref a)
 F__law_right:∃ (a:Addr) (fd:FuncData),FunD K "_law_right" "_law_right" (defArgs BX) (defBody BX) (defScope BX) [] [] a fd∧mg "_law_right" = some (.ref a)
 F_same_point:∃ (a:Addr) (fd:FuncData),FunD K "same_point" "same_point" (defArgs BZ) (defBody BZ) (defScope BZ) [] [] a fd∧mg "same_point" = some (.ref a)
 F_Map_unit:∃ (a:Addr) (fd:FuncData),FunD K "unit" "Map.unit" (defArgs EF) (defBody EF) (defScope EF) [] [] a fd∧(∃ mc p,ClX.CRead K cs.c_Map mc∧SMet K cs.c_Map mc "unit" p a)
 F__law_no_unit:∃ (a:Addr) (fd:FuncData),FunD K "_law_no_unit" "_law_no_unit" (defArgs Bm) (defBody Bm) (defScope Bm) [] [] a fd∧mg "_law_no_unit" = some (.ref a)
 F__law_unit:∃ (a:Addr) (fd:FuncData),FunD K "_law_unit" "_law_unit" (defArgs Cw) (defBody Cw) (defScope Cw) [] [] a fd∧mg "_law_unit" = some (.ref a)
 F__law_neutral:∃ (a:Addr) (fd:FuncData),FunD K "_law_neutral" "_law_neutral" (defArgs Br) (defBody Br) (defScope Br) [] [] a fd∧mg "_law_neutral" = some (.ref a)
 F__law_joined:∃ (a:Addr) (fd:FuncData),FunD K "_law_joined" "_law_joined" (defArgs BD) (defBody BD) (defScope BD) [] [] a fd∧mg "_law_joined" = some (.ref a)
 F__law_row_of:∃ (a:Addr) (fd:FuncData),FunD K "_law_row_of" "_law_row_of" (defArgs Bo) (defBody Bo) (defScope Bo) [] [] a fd∧mg "_law_row_of" = some (.ref a)
 F__law_after:∃ (a:Addr) (fd:FuncData),FunD K "_law_after" "_law_after" (defArgs B1) (defBody B1) (defScope B1) [] [] a fd∧mg "_law_after" = some (.ref a)
 F__law_two:∃ (a:Addr) (fd:FuncData),FunD K "_law_two" "_law_two" (defArgs Di) (defBody Di) (defScope Di) [] [] a fd∧mg "_law_two" = some (.ref a)
 F_law:∃ (a:Addr) (fd:FuncData),FunD K "law" "law" (defArgs EH) (defBody EH) (defScope EH) [] [] a fd∧mg "law" = some (.ref a)
theorem all_mk{w:World}{K:PySem.W.Frag}{h:Heap}{mg:Str→Option Value}{fa:Addr}(X:K.In h)(G:h.Ns mainGlobals mg)(hfa:mg "law" = some (.ref fa))
  {kt_MOST_ROWS:Tok} {c_EmptyForm:Addr} {c_Map:Addr} {c_NoName:Addr} {c_NoAnswer:Addr} {c_Unfit:Addr} {c_HouseError:Addr} {c_Refused:Addr} {nm_EmptyForm:Str} {q_EmptyForm:Str} {nsa_EmptyForm:Addr} {bs_EmptyForm:List Value} {sn_EmptyForm:List Str} {sub_EmptyForm:List Value} {ab_EmptyForm:Bool} {col_EmptyForm:Option Bool} {dd_EmptyForm:Option Addr} {m0_EmptyForm:Option Value} {m1_EmptyForm:Option Value} {m2_EmptyForm:Option Value} {m3_EmptyForm:Option Value} {m5_EmptyForm:Option Value} {fi_EmptyForm:Addr} {oc_EmptyForm:Value} {od_EmptyForm:Option Addr} {kV_EmptyForm:Value} {dc_EmptyForm:Value} {pm_EmptyForm:Value} {an_EmptyForm:Option Addr} {cda_EmptyForm:Addr} {ct_EmptyForm:Value} {cc_EmptyForm:Addr} {sl_EmptyForm:Array (Option Value)} {cl_EmptyForm:Value} {cld_EmptyForm:Option Addr} {csl_EmptyForm:Array (Option Value)} {ccl_EmptyForm:Value} {cdd_EmptyForm:Option Addr} {cvs_EmptyForm:Array Value} {ccs_EmptyForm:Array (Option Value)} {cf_EmptyForm:Str} {ctk_EmptyForm:Tok} {f_row_of:Addr} {oc_row_of:Value} {od_row_of:Option Addr} {kV_row_of:Value} {dc_row_of:Value} {pm_row_of:Value} {an_row_of:Option Addr} {cd_row_of:Value} {ct_row_of:Value} {sl_row_of:Array (Option Value)} {f_within:Addr} {oc_within:Value} {od_within:Option Addr} {kV_within:Value} {dc_within:Value} {pm_within:Value} {an_within:Option Addr} {cd_within:Value} {ct_within:Value} {sl_within:Array (Option Value)} {f_has_below:Addr} {oc_has_below:Value} {od_has_below:Option Addr} {kV_has_below:Value} {dc_has_below:Value} {pm_has_below:Value} {an_has_below:Option Addr} {cd_has_below:Value} {ct_has_below:Value} {sl_has_below:Array (Option Value)} {f_lowest:Addr} {oc_lowest:Value} {od_lowest:Option Addr} {kV_lowest:Value} {dc_lowest:Value} {pm_lowest:Value} {an_lowest:Option Addr} {cd_lowest:Value} {ct_lowest:Value} {sl_lowest:Array (Option Value)} {f_normal:Addr} {oc_normal:Value} {od_normal:Option Addr} {kV_normal:Value} {dc_normal:Value} {pm_normal:Value} {an_normal:Option Addr} {cd_normal:Value} {ct_normal:Value} {sl_normal:Array (Option Value)} {f_need_rows:Addr} {oc_need_rows:Value} {od_need_rows:Option Addr} {kV_need_rows:Value} {dc_need_rows:Value} {pm_need_rows:Value} {an_need_rows:Option Addr} {cd_need_rows:Value} {ct_need_rows:Value} {sl_need_rows:Array (Option Value)} {f_need_few:Addr} {oc_need_few:Value} {od_need_few:Option Addr} {kV_need_few:Value} {dc_need_few:Value} {pm_need_few:Value} {an_need_few:Option Addr} {cd_need_few:Value} {ct_need_few:Value} {sl_need_few:Array (Option Value)} {f_checked_form:Addr} {oc_checked_form:Value} {od_checked_form:Option Addr} {kV_checked_form:Value} {dc_checked_form:Value} {pm_checked_form:Value} {an_checked_form:Option Addr} {cd_checked_form:Value} {ct_checked_form:Value} {sl_checked_form:Array (Option Value)} {f_Map___init__:Addr} {oc_Map___init__:Value} {od_Map___init__:Option Addr} {kV_Map___init__:Value} {dc_Map___init__:Value} {pm_Map___init__:Value} {an_Map___init__:Option Addr} {cd_Map___init__:Value} {ct_Map___init__:Value} {sl_Map___init__:Array (Option Value)} {f_map_of:Addr} {oc_map_of:Value} {od_map_of:Option Addr} {kV_map_of:Value} {dc_map_of:Value} {pm_map_of:Value} {an_map_of:Option Addr} {cd_map_of:Value} {ct_map_of:Value} {sl_map_of:Array (Option Value)} {f_either:Addr} {oc_either:Value} {od_either:Option Addr} {kV_either:Value} {dc_either:Value} {pm_either:Value} {an_either:Option Addr} {cd_either:Value} {ct_either:Value} {sl_either:Array (Option Value)} {f_merged:Addr} {oc_merged:Value} {od_merged:Option Addr} {kV_merged:Value} {dc_merged:Value} {pm_merged:Value} {an_merged:Option Addr} {cd_merged:Value} {ct_merged:Value} {sl_merged:Array (Option Value)} {f_joined:Addr} {oc_joined:Value} {od_joined:Option Addr} {kV_joined:Value} {dc_joined:Value} {pm_joined:Value} {an_joined:Option Addr} {cd_joined:Value} {ct_joined:Value} {sl_joined:Array (Option Value)} {f_shifted:Addr} {oc_shifted:Value} {od_shifted:Option Addr} {kV_shifted:Value} {dc_shifted:Value} {pm_shifted:Value} {an_shifted:Option Addr} {cd_shifted:Value} {ct_shifted:Value} {sl_shifted:Array (Option Value)} {f_placed_row:Addr} {oc_placed_row:Value} {od_placed_row:Option Addr} {kV_placed_row:Value} {dc_placed_row:Value} {pm_placed_row:Value} {an_placed_row:Option Addr} {cd_placed_row:Value} {ct_placed_row:Value} {sl_placed_row:Array (Option Value)} {f_placed:Addr} {oc_placed:Value} {od_placed:Option Addr} {kV_placed:Value} {dc_placed:Value} {pm_placed:Value} {an_placed:Option Addr} {cd_placed:Value} {ct_placed:Value} {sl_placed:Array (Option Value)} {f_composed:Addr} {oc_composed:Value} {od_composed:Option Addr} {kV_composed:Value} {dc_composed:Value} {pm_composed:Value} {an_composed:Option Addr} {cd_composed:Value} {ct_composed:Value} {sl_composed:Array (Option Value)} {f_Map_names:Addr} {oc_Map_names:Value} {od_Map_names:Option Addr} {kV_Map_names:Value} {dc_Map_names:Value} {pm_Map_names:Value} {an_Map_names:Option Addr} {cd_Map_names:Value} {ct_Map_names:Value} {sl_Map_names:Array (Option Value)} {f_Map___contains__:Addr} {oc_Map___contains__:Value} {od_Map___contains__:Option Addr} {kV_Map___contains__:Value} {dc_Map___contains__:Value} {pm_Map___contains__:Value} {an_Map___contains__:Option Addr} {cd_Map___contains__:Value} {ct_Map___contains__:Value} {sl_Map___contains__:Array (Option Value)} {f_need_alike:Addr} {oc_need_alike:Value} {od_need_alike:Option Addr} {kV_need_alike:Value} {dc_need_alike:Value} {pm_need_alike:Value} {an_need_alike:Option Addr} {cd_need_alike:Value} {ct_need_alike:Value} {sl_need_alike:Array (Option Value)} {f_Map___mul__:Addr} {oc_Map___mul__:Value} {od_Map___mul__:Option Addr} {kV_Map___mul__:Value} {dc_Map___mul__:Value} {pm_Map___mul__:Value} {an_Map___mul__:Option Addr} {cd_Map___mul__:Value} {ct_Map___mul__:Value} {sl_Map___mul__:Array (Option Value)} {f_Map___eq__:Addr} {oc_Map___eq__:Value} {od_Map___eq__:Option Addr} {kV_Map___eq__:Value} {dc_Map___eq__:Value} {pm_Map___eq__:Value} {an_Map___eq__:Option Addr} {cd_Map___eq__:Value} {ct_Map___eq__:Value} {sl_Map___eq__:Array (Option Value)} {f__law_box:Addr} {oc__law_box:Value} {od__law_box:Option Addr} {kV__law_box:Value} {dc__law_box:Value} {pm__law_box:Value} {an__law_box:Option Addr} {cd__law_box:Value} {ct__law_box:Value} {sl__law_box:Array (Option Value)} {f__law_take:Addr} {oc__law_take:Value} {od__law_take:Option Addr} {kV__law_take:Value} {dc__law_take:Value} {pm__law_take:Value} {an__law_take:Option Addr} {cd__law_take:Value} {ct__law_take:Value} {sl__law_take:Array (Option Value)} {f__law_fresh:Addr} {oc__law_fresh:Value} {od__law_fresh:Option Addr} {kV__law_fresh:Value} {dc__law_fresh:Value} {pm__law_fresh:Value} {an__law_fresh:Option Addr} {cd__law_fresh:Value} {ct__law_fresh:Value} {sl__law_fresh:Array (Option Value)} {f__law_word:Addr} {oc__law_word:Value} {od__law_word:Option Addr} {kV__law_word:Value} {dc__law_word:Value} {pm__law_word:Value} {an__law_word:Option Addr} {cd__law_word:Value} {ct__law_word:Value} {sl__law_word:Array (Option Value)} {f__law_names:Addr} {oc__law_names:Value} {od__law_names:Option Addr} {kV__law_names:Value} {dc__law_names:Value} {pm__law_names:Value} {an__law_names:Option Addr} {cd__law_names:Value} {ct__law_names:Value} {sl__law_names:Array (Option Value)} {f__law_spread:Addr} {oc__law_spread:Value} {od__law_spread:Option Addr} {kV__law_spread:Value} {dc__law_spread:Value} {pm__law_spread:Value} {an__law_spread:Option Addr} {cd__law_spread:Value} {ct__law_spread:Value} {sl__law_spread:Array (Option Value)} {f__law_row:Addr} {oc__law_row:Value} {od__law_row:Option Addr} {kV__law_row:Value} {dc__law_row:Value} {pm__law_row:Value} {an__law_row:Option Addr} {cd__law_row:Value} {ct__law_row:Value} {sl__law_row:Array (Option Value)} {f__law_rules:Addr} {oc__law_rules:Value} {od__law_rules:Option Addr} {kV__law_rules:Value} {dc__law_rules:Value} {pm__law_rules:Value} {an__law_rules:Option Addr} {cd__law_rules:Value} {ct__law_rules:Value} {sl__law_rules:Array (Option Value)} {f__law_copy:Addr} {oc__law_copy:Value} {od__law_copy:Option Addr} {kV__law_copy:Value} {dc__law_copy:Value} {pm__law_copy:Value} {an__law_copy:Option Addr} {cd__law_copy:Value} {ct__law_copy:Value} {sl__law_copy:Array (Option Value)} {f__law_value:Addr} {oc__law_value:Value} {od__law_value:Option Addr} {kV__law_value:Value} {dc__law_value:Value} {pm__law_value:Value} {an__law_value:Option Addr} {cd__law_value:Value} {ct__law_value:Value} {sl__law_value:Array (Option Value)} {f_value_of:Addr} {oc_value_of:Value} {od_value_of:Option Addr} {kV_value_of:Value} {dc_value_of:Value} {pm_value_of:Value} {an_value_of:Option Addr} {cd_value_of:Value} {ct_value_of:Value} {sl_value_of:Array (Option Value)} {f_Map___call__:Addr} {oc_Map___call__:Value} {od_Map___call__:Option Addr} {kV_Map___call__:Value} {dc_Map___call__:Value} {pm_Map___call__:Value} {an_Map___call__:Option Addr} {cd_Map___call__:Value} {ct_Map___call__:Value} {sl_Map___call__:Array (Option Value)} {f__law_integer:Addr} {oc__law_integer:Value} {od__law_integer:Option Addr} {kV__law_integer:Value} {dc__law_integer:Value} {pm__law_integer:Value} {an__law_integer:Option Addr} {cd__law_integer:Value} {ct__law_integer:Value} {sl__law_integer:Array (Option Value)} {f__law_gives:Addr} {oc__law_gives:Value} {od__law_gives:Option Addr} {kV__law_gives:Value} {dc__law_gives:Value} {pm__law_gives:Value} {an__law_gives:Option Addr} {cd__law_gives:Value} {ct__law_gives:Value} {sl__law_gives:Array (Option Value)} {f__law_drawn_point:Addr} {oc__law_drawn_point:Value} {od__law_drawn_point:Option Addr} {kV__law_drawn_point:Value} {dc__law_drawn_point:Value} {pm__law_drawn_point:Value} {an__law_drawn_point:Option Addr} {cd__law_drawn_point:Value} {ct__law_drawn_point:Value} {sl__law_drawn_point:Array (Option Value)} {f_Map_form:Addr} {oc_Map_form:Value} {od_Map_form:Option Addr} {kV_Map_form:Value} {dc_Map_form:Value} {pm_Map_form:Value} {an_Map_form:Option Addr} {cd_Map_form:Value} {ct_Map_form:Value} {sl_Map_form:Array (Option Value)} {f_Map___len__:Addr} {oc_Map___len__:Value} {od_Map___len__:Option Addr} {kV_Map___len__:Value} {dc_Map___len__:Value} {pm_Map___len__:Value} {an_Map___len__:Option Addr} {cd_Map___len__:Value} {ct_Map___len__:Value} {sl_Map___len__:Array (Option Value)} {f__law_below:Addr} {oc__law_below:Value} {od__law_below:Option Addr} {kV__law_below:Value} {dc__law_below:Value} {pm__law_below:Value} {an__law_below:Option Addr} {cd__law_below:Value} {ct__law_below:Value} {sl__law_below:Array (Option Value)} {f__law_flat:Addr} {oc__law_flat:Value} {od__law_flat:Option Addr} {kV__law_flat:Value} {dc__law_flat:Value} {pm__law_flat:Value} {an__law_flat:Option Addr} {cd__law_flat:Value} {ct__law_flat:Value} {sl__law_flat:Array (Option Value)} {f__law_form:Addr} {oc__law_form:Value} {od__law_form:Option Addr} {kV__law_form:Value} {dc__law_form:Value} {pm__law_form:Value} {an__law_form:Option Addr} {cd__law_form:Value} {ct__law_form:Value} {sl__law_form:Array (Option Value)} {f__law_normal:Addr} {oc__law_normal:Value} {od__law_normal:Option Addr} {kV__law_normal:Value} {dc__law_normal:Value} {pm__law_normal:Value} {an__law_normal:Option Addr} {cd__law_normal:Value} {ct__law_normal:Value} {sl__law_normal:Array (Option Value)} {f__law_right:Addr} {oc__law_right:Value} {od__law_right:Option Addr} {kV__law_right:Value} {dc__law_right:Value} {pm__law_right:Value} {an__law_right:Option Addr} {cd__law_right:Value} {ct__law_right:Value} {sl__law_right:Array (Option Value)} {f_same_point:Addr} {oc_same_point:Value} {od_same_point:Option Addr} {kV_same_point:Value} {dc_same_point:Value} {pm_same_point:Value} {an_same_point:Option Addr} {cd_same_point:Value} {ct_same_point:Value} {sl_same_point:Array (Option Value)} {f_Map_unit:Addr} {oc_Map_unit:Value} {od_Map_unit:Option Addr} {kV_Map_unit:Value} {dc_Map_unit:Value} {pm_Map_unit:Value} {an_Map_unit:Option Addr} {cd_Map_unit:Value} {ct_Map_unit:Value} {sl_Map_unit:Array (Option Value)} {pp_Map_unit:Addr} {pr_Map_unit:List Value} {f__law_no_unit:Addr} {oc__law_no_unit:Value} {od__law_no_unit:Option Addr} {kV__law_no_unit:Value} {dc__law_no_unit:Value} {pm__law_no_unit:Value} {an__law_no_unit:Option Addr} {cd__law_no_unit:Value} {ct__law_no_unit:Value} {sl__law_no_unit:Array (Option Value)} {f__law_unit:Addr} {oc__law_unit:Value} {od__law_unit:Option Addr} {kV__law_unit:Value} {dc__law_unit:Value} {pm__law_unit:Value} {an__law_unit:Option Addr} {cd__law_unit:Value} {ct__law_unit:Value} {sl__law_unit:Array (Option Value)} {f__law_neutral:Addr} {oc__law_neutral:Value} {od__law_neutral:Option Addr} {kV__law_neutral:Value} {dc__law_neutral:Value} {pm__law_neutral:Value} {an__law_neutral:Option Addr} {cd__law_neutral:Value} {ct__law_neutral:Value} {sl__law_neutral:Array (Option Value)} {f__law_joined:Addr} {oc__law_joined:Value} {od__law_joined:Option Addr} {kV__law_joined:Value} {dc__law_joined:Value} {pm__law_joined:Value} {an__law_joined:Option Addr} {cd__law_joined:Value} {ct__law_joined:Value} {sl__law_joined:Array (Option Value)} {f__law_row_of:Addr} {oc__law_row_of:Value} {od__law_row_of:Option Addr} {kV__law_row_of:Value} {dc__law_row_of:Value} {pm__law_row_of:Value} {an__law_row_of:Option Addr} {cd__law_row_of:Value} {ct__law_row_of:Value} {sl__law_row_of:Array (Option Value)} {f__law_after:Addr} {oc__law_after:Value} {od__law_after:Option Addr} {kV__law_after:Value} {dc__law_after:Value} {pm__law_after:Value} {an__law_after:Option Addr} {cd__law_after:Value} {ct__law_after:Value} {sl__law_after:Array (Option Value)} {f__law_two:Addr} {oc__law_two:Value} {od__law_two:Option Addr} {kV__law_two:Value} {dc__law_two:Value} {pm__law_two:Value} {an__law_two:Option Addr} {cd__law_two:Value} {ct__law_two:Value} {sl__law_two:Array (Option Value)} {f_law:Addr} {oc_law:Value} {od_law:Option Addr} {kV_law:Value} {dc_law:Value} {pm_law:Value} {an_law:Option Addr} {cd_law:Value} {ct_law:Value} {sl_law:Array (Option Value)}
  (z_ValueError:PySem.W.nsIn K mainGlobals "ValueError" = some none)
  (z_all:PySem.W.nsIn K mainGlobals "all" = some none)
  (z_any:PySem.W.nsIn K mainGlobals "any" = some none)
  (z_bool:PySem.W.nsIn K mainGlobals "bool" = some none)
  (z_dict:PySem.W.nsIn K mainGlobals "dict" = some none)
  (z_int:PySem.W.nsIn K mainGlobals "int" = some none)
  (z_isinstance:PySem.W.nsIn K mainGlobals "isinstance" = some none)
  (z_len:PySem.W.nsIn K mainGlobals "len" = some none)
  (z_list:PySem.W.nsIn K mainGlobals "list" = some none)
  (z_max:PySem.W.nsIn K mainGlobals "max" = some none)
  (z_min:PySem.W.nsIn K mainGlobals "min" = some none)
  (z_range:PySem.W.nsIn K mainGlobals "range" = some none)
  (z_sorted:PySem.W.nsIn K mainGlobals "sorted" = some none)
  (z_str:PySem.W.nsIn K mainGlobals "str" = some none)
  (z_sum:PySem.W.nsIn K mainGlobals "sum" = some none)
  (z_tuple:PySem.W.nsIn K mainGlobals "tuple" = some none)
  (kv_MOST_ROWS:PySem.W.nsIn K mainGlobals "MOST_ROWS" = some (some (.int 200 kt_MOST_ROWS)))
  (a_EmptyForm:PySem.W.nsIn K mainGlobals "EmptyForm" = some (some (.ref c_EmptyForm)))
  (a_Map:PySem.W.nsIn K mainGlobals "Map" = some (some (.ref c_Map)))
  (a_NoName:PySem.W.nsIn K mainGlobals "NoName" = some (some (.ref c_NoName)))
  (a_NoAnswer:PySem.W.nsIn K mainGlobals "NoAnswer" = some (some (.ref c_NoAnswer)))
  (a_Unfit:PySem.W.nsIn K mainGlobals "Unfit" = some (some (.ref c_Unfit)))
  (a_HouseError:PySem.W.nsIn K mainGlobals "HouseError" = some (some (.ref c_HouseError)))
  (a_Refused:PySem.W.nsIn K mainGlobals "Refused" = some (some (.ref c_Refused)))
  (xl_EmptyForm:K.lookup c_EmptyForm=some (excClassObj nm_EmptyForm q_EmptyForm c_EmptyForm nsa_EmptyForm bs_EmptyForm [.ref c_Refused,.ref c_HouseError,.type "ValueError",.type "Exception",.type "BaseException",.type "object"] true sn_EmptyForm sub_EmptyForm ab_EmptyForm col_EmptyForm dd_EmptyForm m0_EmptyForm m1_EmptyForm m2_EmptyForm m3_EmptyForm m5_EmptyForm "ValueError.__new__"))
  (sa_EmptyForm:PySem.W.findIn K (.ref c_EmptyForm) "__setattr__" = some (some (.builtin "object.__setattr__")))
  (ic_EmptyForm:PySem.W.findIn K (.ref c_EmptyForm) "__init__" = some (some (.ref fi_EmptyForm)))
  (ti_EmptyForm:PySem.W.typeIn K (.ref fi_EmptyForm)=some (.type "function"))
  (kc_EmptyForm:PySem.W.keepIn K (.ref c_EmptyForm)=true)
  (ex_EmptyForm:PySem.W.subIn K (.ref c_EmptyForm) (.type "BaseException")=some true)
  (ev_EmptyForm:PySem.W.subIn K (.ref c_EmptyForm) (.type "ValueError")=some true)
  (ty_EmptyForm:PySem.W.typeIn K (.ref c_EmptyForm)=some (.type "type"))
  (su_EmptyForm:PySem.W.mroIn K c_EmptyForm (.ref c_EmptyForm)=some true)
  (si_EmptyForm:PySem.W.ks_superIn K c_EmptyForm c_EmptyForm "__init__" = some (some (.builtin "ValueError.__init__")))
  (lf_EmptyForm:K.lookup fi_EmptyForm=some ⟨oc_EmptyForm,od_EmptyForm,.func (PySem.W.ksFn "__init__" "EmptyForm.__init__" (defArgs EL) (defBody EL) (defScope EL) .none kV_EmptyForm dc_EmptyForm pm_EmptyForm an_EmptyForm (.ref cda_EmptyForm) ct_EmptyForm cc_EmptyForm),sl_EmptyForm⟩)
  (cd_EmptyForm:PySem.W.codeIn K (.ref cda_EmptyForm) "EmptyForm.__init__" = true)
  (ce_EmptyForm:K.lookup cc_EmptyForm=some ⟨cl_EmptyForm,cld_EmptyForm,.cell (some (.ref c_EmptyForm)),csl_EmptyForm⟩)
  (co_EmptyForm:K.lookup cda_EmptyForm=some ⟨ccl_EmptyForm,cdd_EmptyForm,.fields cvs_EmptyForm,ccs_EmptyForm⟩)
  (cs_EmptyForm:cvs_EmptyForm[2]? = some (.str cf_EmptyForm ctk_EmptyForm))
  (cf_EmptyForm:((PySem.Challenge.pw_bidehall_k15_product_of_maps.main.file:Str) == cf_EmptyForm)=true)
  (hg_EmptyForm:PySem.W.findIn K (.ref c_EmptyForm) "__getattribute__" = some (some (.builtin "BaseException.__getattribute__")))
  (hk_EmptyForm:PySem.W.findIn K (.ref c_EmptyForm) "__getattr__" = some none)
  (hd_EmptyForm:PySem.W.hasDictIn K c_EmptyForm=true)
  (ha_EmptyForm:PySem.W.findIn K (.ref c_EmptyForm) "__class__" = some (some (.builtin "object.__class__")))
  (ho_EmptyForm:PySem.W.mroIn K c_EmptyForm (.type "object")=some true)
  (sb_EmptyForm_EmptyForm:PySem.W.subIn K (.ref c_EmptyForm) (.ref c_EmptyForm)=some true)
  (sb_EmptyForm_HouseError:PySem.W.subIn K (.ref c_EmptyForm) (.ref c_HouseError)=some true)
  (ne_EmptyForm_HouseError:(Value.ref c_EmptyForm == Value.ref c_HouseError)=false)
  (sb_EmptyForm_Refused:PySem.W.subIn K (.ref c_EmptyForm) (.ref c_Refused)=some true)
  (ne_EmptyForm_Refused:(Value.ref c_EmptyForm == Value.ref c_Refused)=false)
  (sb_EmptyForm_ValueError:PySem.W.subIn K (.ref c_EmptyForm) (.type "ValueError")=some true)
  (sb_EmptyForm_Unfit:PySem.W.subIn K (.ref c_EmptyForm) (.ref c_Unfit)=some false)
  (ne_EmptyForm_Unfit:(Value.ref c_EmptyForm == Value.ref c_Unfit)=false)
  (sb_EmptyForm_NoAnswer:PySem.W.subIn K (.ref c_EmptyForm) (.ref c_NoAnswer)=some false)
  (ne_EmptyForm_NoAnswer:(Value.ref c_EmptyForm == Value.ref c_NoAnswer)=false)
  (sb_EmptyForm_NoName:PySem.W.subIn K (.ref c_EmptyForm) (.ref c_NoName)=some false)
  (ne_EmptyForm_NoName:(Value.ref c_EmptyForm == Value.ref c_NoName)=false)
  (ci_EmptyForm:PySem.W.isClsIn K c_EmptyForm=true)
  (ct_EmptyForm:PySem.W.typeIn K (.ref c_EmptyForm)=some (.type "type"))
  (cb_EmptyForm:PySem.W.subIn K (.ref c_EmptyForm) (.type "BaseException")=some true)
  (ci_HouseError:PySem.W.isClsIn K c_HouseError=true)
  (ct_HouseError:PySem.W.typeIn K (.ref c_HouseError)=some (.type "type"))
  (cb_HouseError:PySem.W.subIn K (.ref c_HouseError) (.type "BaseException")=some true)
  (ci_Refused:PySem.W.isClsIn K c_Refused=true)
  (ct_Refused:PySem.W.typeIn K (.ref c_Refused)=some (.type "type"))
  (cb_Refused:PySem.W.subIn K (.ref c_Refused) (.type "BaseException")=some true)
  (ci_Unfit:PySem.W.isClsIn K c_Unfit=true)
  (ct_Unfit:PySem.W.typeIn K (.ref c_Unfit)=some (.type "type"))
  (cb_Unfit:PySem.W.subIn K (.ref c_Unfit) (.type "BaseException")=some true)
  (ci_NoAnswer:PySem.W.isClsIn K c_NoAnswer=true)
  (ct_NoAnswer:PySem.W.typeIn K (.ref c_NoAnswer)=some (.type "type"))
  (cb_NoAnswer:PySem.W.subIn K (.ref c_NoAnswer) (.type "BaseException")=some true)
  (ci_NoName:PySem.W.isClsIn K c_NoName=true)
  (ct_NoName:PySem.W.typeIn K (.ref c_NoName)=some (.type "type"))
  (cb_NoName:PySem.W.subIn K (.ref c_NoName) (.type "BaseException")=some true)
  (pg_Map:PySem.W.plainGet K c_Map Str.empty=true)
  (hdd_Map:PySem.W.hasDictIn K c_Map=true)
  (po_Map:PySem.W.plainOver K c_Map=true)
  (sat_Map:PySem.W.findIn K (.ref c_Map) "__setattr__" = some (some (.builtin "object.__setattr__")))
  (mi_Map:PySem.W.makesIn K c_Map=true)
  (kpc_Map:PySem.W.keepIn K (.ref c_Map)=true)
  (hac_Map:PySem.W.findIn K (.ref c_Map) "__class__" = some (some (.builtin "object.__class__")))
  (hoc_Map:PySem.W.mroIn K c_Map (.type "object")=some true)
  (noa_Map__forms:PySem.W.findIn K (.ref c_Map) "_forms" = some none)
  (sfq_Map:PySem.W.selfFirst K c_Map=true)
  (cio_Map:PySem.W.isClsIn K c_Map=true)
  (cto_Map:PySem.W.typeIn K (.ref c_Map)=some (.type "type"))
  (any:PySem.W.nsIn K PySem.cStatics "thirdparty.any" = some none)
  (zsup:PySem.W.nsIn K mainGlobals "super" = some none)
  (hn:PySem.W.specialIn K (.builtin "object.__class__") "__get__" = some (some (.builtin "getset_descriptor.__get__")))
  (ht:PySem.W.takesIn K (.builtin "object.__class__")=some true)
  (a_row_of:PySem.W.nsIn K mainGlobals "row_of" = some (some (.ref f_row_of)))
  (l_row_of:K.lookup f_row_of=some ⟨oc_row_of,od_row_of,.func (PySem.W.fnOf "row_of" "row_of" (defArgs Et) (defBody Et) (defScope Et) .none kV_row_of dc_row_of pm_row_of an_row_of cd_row_of ct_row_of),sl_row_of⟩)
  (o_row_of:PySem.W.codeIn K cd_row_of "row_of" = true)
  (k_row_of:PySem.W.keepIn K (.ref f_row_of)=true)
  (a_within:PySem.W.nsIn K mainGlobals "within" = some (some (.ref f_within)))
  (l_within:K.lookup f_within=some ⟨oc_within,od_within,.func (PySem.W.fnOf "within" "within" (defArgs Ep) (defBody Ep) (defScope Ep) .none kV_within dc_within pm_within an_within cd_within ct_within),sl_within⟩)
  (o_within:PySem.W.codeIn K cd_within "within" = true)
  (k_within:PySem.W.keepIn K (.ref f_within)=true)
  (a_has_below:PySem.W.nsIn K mainGlobals "has_below" = some (some (.ref f_has_below)))
  (l_has_below:K.lookup f_has_below=some ⟨oc_has_below,od_has_below,.func (PySem.W.fnOf "has_below" "has_below" (defArgs Cp) (defBody Cp) (defScope Cp) .none kV_has_below dc_has_below pm_has_below an_has_below cd_has_below ct_has_below),sl_has_below⟩)
  (o_has_below:PySem.W.codeIn K cd_has_below "has_below" = true)
  (k_has_below:PySem.W.keepIn K (.ref f_has_below)=true)
  (a_lowest:PySem.W.nsIn K mainGlobals "lowest" = some (some (.ref f_lowest)))
  (l_lowest:K.lookup f_lowest=some ⟨oc_lowest,od_lowest,.func (PySem.W.fnOf "lowest" "lowest" (defArgs D3) (defBody D3) (defScope D3) .none kV_lowest dc_lowest pm_lowest an_lowest cd_lowest ct_lowest),sl_lowest⟩)
  (o_lowest:PySem.W.codeIn K cd_lowest "lowest" = true)
  (k_lowest:PySem.W.keepIn K (.ref f_lowest)=true)
  (a_normal:PySem.W.nsIn K mainGlobals "normal" = some (some (.ref f_normal)))
  (l_normal:K.lookup f_normal=some ⟨oc_normal,od_normal,.func (PySem.W.fnOf "normal" "normal" (defArgs D2) (defBody D2) (defScope D2) .none kV_normal dc_normal pm_normal an_normal cd_normal ct_normal),sl_normal⟩)
  (o_normal:PySem.W.codeIn K cd_normal "normal" = true)
  (k_normal:PySem.W.keepIn K (.ref f_normal)=true)
  (a_need_rows:PySem.W.nsIn K mainGlobals "need_rows" = some (some (.ref f_need_rows)))
  (l_need_rows:K.lookup f_need_rows=some ⟨oc_need_rows,od_need_rows,.func (PySem.W.fnOf "need_rows" "need_rows" (defArgs Cv) (defBody Cv) (defScope Cv) .none kV_need_rows dc_need_rows pm_need_rows an_need_rows cd_need_rows ct_need_rows),sl_need_rows⟩)
  (o_need_rows:PySem.W.codeIn K cd_need_rows "need_rows" = true)
  (k_need_rows:PySem.W.keepIn K (.ref f_need_rows)=true)
  (a_need_few:PySem.W.nsIn K mainGlobals "need_few" = some (some (.ref f_need_few)))
  (l_need_few:K.lookup f_need_few=some ⟨oc_need_few,od_need_few,.func (PySem.W.fnOf "need_few" "need_few" (defArgs Dh) (defBody Dh) (defScope Dh) .none kV_need_few dc_need_few pm_need_few an_need_few cd_need_few ct_need_few),sl_need_few⟩)
  (o_need_few:PySem.W.codeIn K cd_need_few "need_few" = true)
  (k_need_few:PySem.W.keepIn K (.ref f_need_few)=true)
  (a_checked_form:PySem.W.nsIn K mainGlobals "checked_form" = some (some (.ref f_checked_form)))
  (l_checked_form:K.lookup f_checked_form=some ⟨oc_checked_form,od_checked_form,.func (PySem.W.fnOf "checked_form" "checked_form" (defArgs Bu) (defBody Bu) (defScope Bu) .none kV_checked_form dc_checked_form pm_checked_form an_checked_form cd_checked_form ct_checked_form),sl_checked_form⟩)
  (o_checked_form:PySem.W.codeIn K cd_checked_form "checked_form" = true)
  (k_checked_form:PySem.W.keepIn K (.ref f_checked_form)=true)
  (a_Map___init__:PySem.W.findIn K (.ref c_Map) "__init__" = some (some (.ref f_Map___init__)))
  (fn_Map___init__:PySem.W.isFn K (.ref f_Map___init__)=true)
  (l_Map___init__:K.lookup f_Map___init__=some ⟨oc_Map___init__,od_Map___init__,.func (PySem.W.fnOf "__init__" "Map.__init__" (defArgs Bt) (defBody Bt) (defScope Bt) .none kV_Map___init__ dc_Map___init__ pm_Map___init__ an_Map___init__ cd_Map___init__ ct_Map___init__),sl_Map___init__⟩)
  (o_Map___init__:PySem.W.codeIn K cd_Map___init__ "Map.__init__" = true)
  (k_Map___init__:PySem.W.keepIn K (.ref f_Map___init__)=true)
  (a_map_of:PySem.W.nsIn K mainGlobals "map_of" = some (some (.ref f_map_of)))
  (l_map_of:K.lookup f_map_of=some ⟨oc_map_of,od_map_of,.func (PySem.W.fnOf "map_of" "map_of" (defArgs DU) (defBody DU) (defScope DU) .none kV_map_of dc_map_of pm_map_of an_map_of cd_map_of ct_map_of),sl_map_of⟩)
  (o_map_of:PySem.W.codeIn K cd_map_of "map_of" = true)
  (k_map_of:PySem.W.keepIn K (.ref f_map_of)=true)
  (a_either:PySem.W.nsIn K mainGlobals "either" = some (some (.ref f_either)))
  (l_either:K.lookup f_either=some ⟨oc_either,od_either,.func (PySem.W.fnOf "either" "either" (defArgs Ex) (defBody Ex) (defScope Ex) .none kV_either dc_either pm_either an_either cd_either ct_either),sl_either⟩)
  (o_either:PySem.W.codeIn K cd_either "either" = true)
  (k_either:PySem.W.keepIn K (.ref f_either)=true)
  (a_merged:PySem.W.nsIn K mainGlobals "merged" = some (some (.ref f_merged)))
  (l_merged:K.lookup f_merged=some ⟨oc_merged,od_merged,.func (PySem.W.fnOf "merged" "merged" (defArgs Ew) (defBody Ew) (defScope Ew) .none kV_merged dc_merged pm_merged an_merged cd_merged ct_merged),sl_merged⟩)
  (o_merged:PySem.W.codeIn K cd_merged "merged" = true)
  (k_merged:PySem.W.keepIn K (.ref f_merged)=true)
  (a_joined:PySem.W.nsIn K mainGlobals "joined" = some (some (.ref f_joined)))
  (l_joined:K.lookup f_joined=some ⟨oc_joined,od_joined,.func (PySem.W.fnOf "joined" "joined" (defArgs DW) (defBody DW) (defScope DW) .none kV_joined dc_joined pm_joined an_joined cd_joined ct_joined),sl_joined⟩)
  (o_joined:PySem.W.codeIn K cd_joined "joined" = true)
  (k_joined:PySem.W.keepIn K (.ref f_joined)=true)
  (a_shifted:PySem.W.nsIn K mainGlobals "shifted" = some (some (.ref f_shifted)))
  (l_shifted:K.lookup f_shifted=some ⟨oc_shifted,od_shifted,.func (PySem.W.fnOf "shifted" "shifted" (defArgs Dl) (defBody Dl) (defScope Dl) .none kV_shifted dc_shifted pm_shifted an_shifted cd_shifted ct_shifted),sl_shifted⟩)
  (o_shifted:PySem.W.codeIn K cd_shifted "shifted" = true)
  (k_shifted:PySem.W.keepIn K (.ref f_shifted)=true)
  (a_placed_row:PySem.W.nsIn K mainGlobals "placed_row" = some (some (.ref f_placed_row)))
  (l_placed_row:K.lookup f_placed_row=some ⟨oc_placed_row,od_placed_row,.func (PySem.W.fnOf "placed_row" "placed_row" (defArgs BY) (defBody BY) (defScope BY) .none kV_placed_row dc_placed_row pm_placed_row an_placed_row cd_placed_row ct_placed_row),sl_placed_row⟩)
  (o_placed_row:PySem.W.codeIn K cd_placed_row "placed_row" = true)
  (k_placed_row:PySem.W.keepIn K (.ref f_placed_row)=true)
  (a_placed:PySem.W.nsIn K mainGlobals "placed" = some (some (.ref f_placed)))
  (l_placed:K.lookup f_placed=some ⟨oc_placed,od_placed,.func (PySem.W.fnOf "placed" "placed" (defArgs Er) (defBody Er) (defScope Er) .none kV_placed dc_placed pm_placed an_placed cd_placed ct_placed),sl_placed⟩)
  (o_placed:PySem.W.codeIn K cd_placed "placed" = true)
  (k_placed:PySem.W.keepIn K (.ref f_placed)=true)
  (a_composed:PySem.W.nsIn K mainGlobals "composed" = some (some (.ref f_composed)))
  (l_composed:K.lookup f_composed=some ⟨oc_composed,od_composed,.func (PySem.W.fnOf "composed" "composed" (defArgs De) (defBody De) (defScope De) .none kV_composed dc_composed pm_composed an_composed cd_composed ct_composed),sl_composed⟩)
  (o_composed:PySem.W.codeIn K cd_composed "composed" = true)
  (k_composed:PySem.W.keepIn K (.ref f_composed)=true)
  (a_Map_names:PySem.W.findIn K (.ref c_Map) "names" = some (some (.ref f_Map_names)))
  (fn_Map_names:PySem.W.isFn K (.ref f_Map_names)=true)
  (l_Map_names:K.lookup f_Map_names=some ⟨oc_Map_names,od_Map_names,.func (PySem.W.fnOf "names" "Map.names" (defArgs Cu) (defBody Cu) (defScope Cu) .none kV_Map_names dc_Map_names pm_Map_names an_Map_names cd_Map_names ct_Map_names),sl_Map_names⟩)
  (o_Map_names:PySem.W.codeIn K cd_Map_names "Map.names" = true)
  (k_Map_names:PySem.W.keepIn K (.ref f_Map_names)=true)
  (a_Map___contains__:PySem.W.findIn K (.ref c_Map) "__contains__" = some (some (.ref f_Map___contains__)))
  (fn_Map___contains__:PySem.W.isFn K (.ref f_Map___contains__)=true)
  (l_Map___contains__:K.lookup f_Map___contains__=some ⟨oc_Map___contains__,od_Map___contains__,.func (PySem.W.fnOf "__contains__" "Map.__contains__" (defArgs AS) (defBody AS) (defScope AS) .none kV_Map___contains__ dc_Map___contains__ pm_Map___contains__ an_Map___contains__ cd_Map___contains__ ct_Map___contains__),sl_Map___contains__⟩)
  (o_Map___contains__:PySem.W.codeIn K cd_Map___contains__ "Map.__contains__" = true)
  (k_Map___contains__:PySem.W.keepIn K (.ref f_Map___contains__)=true)
  (a_need_alike:PySem.W.nsIn K mainGlobals "need_alike" = some (some (.ref f_need_alike)))
  (l_need_alike:K.lookup f_need_alike=some ⟨oc_need_alike,od_need_alike,.func (PySem.W.fnOf "need_alike" "need_alike" (defArgs Bv) (defBody Bv) (defScope Bv) .none kV_need_alike dc_need_alike pm_need_alike an_need_alike cd_need_alike ct_need_alike),sl_need_alike⟩)
  (o_need_alike:PySem.W.codeIn K cd_need_alike "need_alike" = true)
  (k_need_alike:PySem.W.keepIn K (.ref f_need_alike)=true)
  (a_Map___mul__:PySem.W.findIn K (.ref c_Map) "__mul__" = some (some (.ref f_Map___mul__)))
  (fn_Map___mul__:PySem.W.isFn K (.ref f_Map___mul__)=true)
  (l_Map___mul__:K.lookup f_Map___mul__=some ⟨oc_Map___mul__,od_Map___mul__,.func (PySem.W.fnOf "__mul__" "Map.__mul__" (defArgs BG) (defBody BG) (defScope BG) .none kV_Map___mul__ dc_Map___mul__ pm_Map___mul__ an_Map___mul__ cd_Map___mul__ ct_Map___mul__),sl_Map___mul__⟩)
  (o_Map___mul__:PySem.W.codeIn K cd_Map___mul__ "Map.__mul__" = true)
  (k_Map___mul__:PySem.W.keepIn K (.ref f_Map___mul__)=true)
  (a_Map___eq__:PySem.W.findIn K (.ref c_Map) "__eq__" = some (some (.ref f_Map___eq__)))
  (fn_Map___eq__:PySem.W.isFn K (.ref f_Map___eq__)=true)
  (l_Map___eq__:K.lookup f_Map___eq__=some ⟨oc_Map___eq__,od_Map___eq__,.func (PySem.W.fnOf "__eq__" "Map.__eq__" (defArgs B0) (defBody B0) (defScope B0) .none kV_Map___eq__ dc_Map___eq__ pm_Map___eq__ an_Map___eq__ cd_Map___eq__ ct_Map___eq__),sl_Map___eq__⟩)
  (o_Map___eq__:PySem.W.codeIn K cd_Map___eq__ "Map.__eq__" = true)
  (k_Map___eq__:PySem.W.keepIn K (.ref f_Map___eq__)=true)
  (a__law_box:PySem.W.nsIn K mainGlobals "_law_box" = some (some (.ref f__law_box)))
  (l__law_box:K.lookup f__law_box=some ⟨oc__law_box,od__law_box,.func (PySem.W.fnOf "_law_box" "_law_box" (defArgs Dg) (defBody Dg) (defScope Dg) .none kV__law_box dc__law_box pm__law_box an__law_box cd__law_box ct__law_box),sl__law_box⟩)
  (o__law_box:PySem.W.codeIn K cd__law_box "_law_box" = true)
  (k__law_box:PySem.W.keepIn K (.ref f__law_box)=true)
  (a__law_take:PySem.W.nsIn K mainGlobals "_law_take" = some (some (.ref f__law_take)))
  (l__law_take:K.lookup f__law_take=some ⟨oc__law_take,od__law_take,.func (PySem.W.fnOf "_law_take" "_law_take" (defArgs Cq) (defBody Cq) (defScope Cq) .none kV__law_take dc__law_take pm__law_take an__law_take cd__law_take ct__law_take),sl__law_take⟩)
  (o__law_take:PySem.W.codeIn K cd__law_take "_law_take" = true)
  (k__law_take:PySem.W.keepIn K (.ref f__law_take)=true)
  (a__law_fresh:PySem.W.nsIn K mainGlobals "_law_fresh" = some (some (.ref f__law_fresh)))
  (l__law_fresh:K.lookup f__law_fresh=some ⟨oc__law_fresh,od__law_fresh,.func (PySem.W.fnOf "_law_fresh" "_law_fresh" (defArgs B3) (defBody B3) (defScope B3) .none kV__law_fresh dc__law_fresh pm__law_fresh an__law_fresh cd__law_fresh ct__law_fresh),sl__law_fresh⟩)
  (o__law_fresh:PySem.W.codeIn K cd__law_fresh "_law_fresh" = true)
  (k__law_fresh:PySem.W.keepIn K (.ref f__law_fresh)=true)
  (a__law_word:PySem.W.nsIn K mainGlobals "_law_word" = some (some (.ref f__law_word)))
  (l__law_word:K.lookup f__law_word=some ⟨oc__law_word,od__law_word,.func (PySem.W.fnOf "_law_word" "_law_word" (defArgs Co) (defBody Co) (defScope Co) .none kV__law_word dc__law_word pm__law_word an__law_word cd__law_word ct__law_word),sl__law_word⟩)
  (o__law_word:PySem.W.codeIn K cd__law_word "_law_word" = true)
  (k__law_word:PySem.W.keepIn K (.ref f__law_word)=true)
  (a__law_names:PySem.W.nsIn K mainGlobals "_law_names" = some (some (.ref f__law_names)))
  (l__law_names:K.lookup f__law_names=some ⟨oc__law_names,od__law_names,.func (PySem.W.fnOf "_law_names" "_law_names" (defArgs B5) (defBody B5) (defScope B5) .none kV__law_names dc__law_names pm__law_names an__law_names cd__law_names ct__law_names),sl__law_names⟩)
  (o__law_names:PySem.W.codeIn K cd__law_names "_law_names" = true)
  (k__law_names:PySem.W.keepIn K (.ref f__law_names)=true)
  (a__law_spread:PySem.W.nsIn K mainGlobals "_law_spread" = some (some (.ref f__law_spread)))
  (l__law_spread:K.lookup f__law_spread=some ⟨oc__law_spread,od__law_spread,.func (PySem.W.fnOf "_law_spread" "_law_spread" (defArgs BE) (defBody BE) (defScope BE) .none kV__law_spread dc__law_spread pm__law_spread an__law_spread cd__law_spread ct__law_spread),sl__law_spread⟩)
  (o__law_spread:PySem.W.codeIn K cd__law_spread "_law_spread" = true)
  (k__law_spread:PySem.W.keepIn K (.ref f__law_spread)=true)
  (a__law_row:PySem.W.nsIn K mainGlobals "_law_row" = some (some (.ref f__law_row)))
  (l__law_row:K.lookup f__law_row=some ⟨oc__law_row,od__law_row,.func (PySem.W.fnOf "_law_row" "_law_row" (defArgs Dc) (defBody Dc) (defScope Dc) .none kV__law_row dc__law_row pm__law_row an__law_row cd__law_row ct__law_row),sl__law_row⟩)
  (o__law_row:PySem.W.codeIn K cd__law_row "_law_row" = true)
  (k__law_row:PySem.W.keepIn K (.ref f__law_row)=true)
  (a__law_rules:PySem.W.nsIn K mainGlobals "_law_rules" = some (some (.ref f__law_rules)))
  (l__law_rules:K.lookup f__law_rules=some ⟨oc__law_rules,od__law_rules,.func (PySem.W.fnOf "_law_rules" "_law_rules" (defArgs B4) (defBody B4) (defScope B4) .none kV__law_rules dc__law_rules pm__law_rules an__law_rules cd__law_rules ct__law_rules),sl__law_rules⟩)
  (o__law_rules:PySem.W.codeIn K cd__law_rules "_law_rules" = true)
  (k__law_rules:PySem.W.keepIn K (.ref f__law_rules)=true)
  (a__law_copy:PySem.W.nsIn K mainGlobals "_law_copy" = some (some (.ref f__law_copy)))
  (l__law_copy:K.lookup f__law_copy=some ⟨oc__law_copy,od__law_copy,.func (PySem.W.fnOf "_law_copy" "_law_copy" (defArgs Cb) (defBody Cb) (defScope Cb) .none kV__law_copy dc__law_copy pm__law_copy an__law_copy cd__law_copy ct__law_copy),sl__law_copy⟩)
  (o__law_copy:PySem.W.codeIn K cd__law_copy "_law_copy" = true)
  (k__law_copy:PySem.W.keepIn K (.ref f__law_copy)=true)
  (a__law_value:PySem.W.nsIn K mainGlobals "_law_value" = some (some (.ref f__law_value)))
  (l__law_value:K.lookup f__law_value=some ⟨oc__law_value,od__law_value,.func (PySem.W.fnOf "_law_value" "_law_value" (defArgs BP) (defBody BP) (defScope BP) .none kV__law_value dc__law_value pm__law_value an__law_value cd__law_value ct__law_value),sl__law_value⟩)
  (o__law_value:PySem.W.codeIn K cd__law_value "_law_value" = true)
  (k__law_value:PySem.W.keepIn K (.ref f__law_value)=true)
  (a_value_of:PySem.W.nsIn K mainGlobals "value_of" = some (some (.ref f_value_of)))
  (l_value_of:K.lookup f_value_of=some ⟨oc_value_of,od_value_of,.func (PySem.W.fnOf "value_of" "value_of" (defArgs CL) (defBody CL) (defScope CL) .none kV_value_of dc_value_of pm_value_of an_value_of cd_value_of ct_value_of),sl_value_of⟩)
  (o_value_of:PySem.W.codeIn K cd_value_of "value_of" = true)
  (k_value_of:PySem.W.keepIn K (.ref f_value_of)=true)
  (a_Map___call__:PySem.W.findIn K (.ref c_Map) "__call__" = some (some (.ref f_Map___call__)))
  (fn_Map___call__:PySem.W.isFn K (.ref f_Map___call__)=true)
  (l_Map___call__:K.lookup f_Map___call__=some ⟨oc_Map___call__,od_Map___call__,.func (PySem.W.fnOf "__call__" "Map.__call__" (defArgs Be) (defBody Be) (defScope Be) .none kV_Map___call__ dc_Map___call__ pm_Map___call__ an_Map___call__ cd_Map___call__ ct_Map___call__),sl_Map___call__⟩)
  (o_Map___call__:PySem.W.codeIn K cd_Map___call__ "Map.__call__" = true)
  (k_Map___call__:PySem.W.keepIn K (.ref f_Map___call__)=true)
  (a__law_integer:PySem.W.nsIn K mainGlobals "_law_integer" = some (some (.ref f__law_integer)))
  (l__law_integer:K.lookup f__law_integer=some ⟨oc__law_integer,od__law_integer,.func (PySem.W.fnOf "_law_integer" "_law_integer" (defArgs Bq) (defBody Bq) (defScope Bq) .none kV__law_integer dc__law_integer pm__law_integer an__law_integer cd__law_integer ct__law_integer),sl__law_integer⟩)
  (o__law_integer:PySem.W.codeIn K cd__law_integer "_law_integer" = true)
  (k__law_integer:PySem.W.keepIn K (.ref f__law_integer)=true)
  (a__law_gives:PySem.W.nsIn K mainGlobals "_law_gives" = some (some (.ref f__law_gives)))
  (l__law_gives:K.lookup f__law_gives=some ⟨oc__law_gives,od__law_gives,.func (PySem.W.fnOf "_law_gives" "_law_gives" (defArgs BJ) (defBody BJ) (defScope BJ) .none kV__law_gives dc__law_gives pm__law_gives an__law_gives cd__law_gives ct__law_gives),sl__law_gives⟩)
  (o__law_gives:PySem.W.codeIn K cd__law_gives "_law_gives" = true)
  (k__law_gives:PySem.W.keepIn K (.ref f__law_gives)=true)
  (a__law_drawn_point:PySem.W.nsIn K mainGlobals "_law_drawn_point" = some (some (.ref f__law_drawn_point)))
  (l__law_drawn_point:K.lookup f__law_drawn_point=some ⟨oc__law_drawn_point,od__law_drawn_point,.func (PySem.W.fnOf "_law_drawn_point" "_law_drawn_point" (defArgs AR) (defBody AR) (defScope AR) .none kV__law_drawn_point dc__law_drawn_point pm__law_drawn_point an__law_drawn_point cd__law_drawn_point ct__law_drawn_point),sl__law_drawn_point⟩)
  (o__law_drawn_point:PySem.W.codeIn K cd__law_drawn_point "_law_drawn_point" = true)
  (k__law_drawn_point:PySem.W.keepIn K (.ref f__law_drawn_point)=true)
  (a_Map_form:PySem.W.findIn K (.ref c_Map) "form" = some (some (.ref f_Map_form)))
  (fn_Map_form:PySem.W.isFn K (.ref f_Map_form)=true)
  (l_Map_form:K.lookup f_Map_form=some ⟨oc_Map_form,od_Map_form,.func (PySem.W.fnOf "form" "Map.form" (defArgs C9) (defBody C9) (defScope C9) .none kV_Map_form dc_Map_form pm_Map_form an_Map_form cd_Map_form ct_Map_form),sl_Map_form⟩)
  (o_Map_form:PySem.W.codeIn K cd_Map_form "Map.form" = true)
  (k_Map_form:PySem.W.keepIn K (.ref f_Map_form)=true)
  (a_Map___len__:PySem.W.findIn K (.ref c_Map) "__len__" = some (some (.ref f_Map___len__)))
  (fn_Map___len__:PySem.W.isFn K (.ref f_Map___len__)=true)
  (l_Map___len__:K.lookup f_Map___len__=some ⟨oc_Map___len__,od_Map___len__,.func (PySem.W.fnOf "__len__" "Map.__len__" (defArgs BF) (defBody BF) (defScope BF) .none kV_Map___len__ dc_Map___len__ pm_Map___len__ an_Map___len__ cd_Map___len__ ct_Map___len__),sl_Map___len__⟩)
  (o_Map___len__:PySem.W.codeIn K cd_Map___len__ "Map.__len__" = true)
  (k_Map___len__:PySem.W.keepIn K (.ref f_Map___len__)=true)
  (a__law_below:PySem.W.nsIn K mainGlobals "_law_below" = some (some (.ref f__law_below)))
  (l__law_below:K.lookup f__law_below=some ⟨oc__law_below,od__law_below,.func (PySem.W.fnOf "_law_below" "_law_below" (defArgs B6) (defBody B6) (defScope B6) .none kV__law_below dc__law_below pm__law_below an__law_below cd__law_below ct__law_below),sl__law_below⟩)
  (o__law_below:PySem.W.codeIn K cd__law_below "_law_below" = true)
  (k__law_below:PySem.W.keepIn K (.ref f__law_below)=true)
  (a__law_flat:PySem.W.nsIn K mainGlobals "_law_flat" = some (some (.ref f__law_flat)))
  (l__law_flat:K.lookup f__law_flat=some ⟨oc__law_flat,od__law_flat,.func (PySem.W.fnOf "_law_flat" "_law_flat" (defArgs Cn) (defBody Cn) (defScope Cn) .none kV__law_flat dc__law_flat pm__law_flat an__law_flat cd__law_flat ct__law_flat),sl__law_flat⟩)
  (o__law_flat:PySem.W.codeIn K cd__law_flat "_law_flat" = true)
  (k__law_flat:PySem.W.keepIn K (.ref f__law_flat)=true)
  (a__law_form:PySem.W.nsIn K mainGlobals "_law_form" = some (some (.ref f__law_form)))
  (l__law_form:K.lookup f__law_form=some ⟨oc__law_form,od__law_form,.func (PySem.W.fnOf "_law_form" "_law_form" (defArgs Cz) (defBody Cz) (defScope Cz) .none kV__law_form dc__law_form pm__law_form an__law_form cd__law_form ct__law_form),sl__law_form⟩)
  (o__law_form:PySem.W.codeIn K cd__law_form "_law_form" = true)
  (k__law_form:PySem.W.keepIn K (.ref f__law_form)=true)
  (a__law_normal:PySem.W.nsIn K mainGlobals "_law_normal" = some (some (.ref f__law_normal)))
  (l__law_normal:K.lookup f__law_normal=some ⟨oc__law_normal,od__law_normal,.func (PySem.W.fnOf "_law_normal" "_law_normal" (defArgs Bg) (defBody Bg) (defScope Bg) .none kV__law_normal dc__law_normal pm__law_normal an__law_normal cd__law_normal ct__law_normal),sl__law_normal⟩)
  (o__law_normal:PySem.W.codeIn K cd__law_normal "_law_normal" = true)
  (k__law_normal:PySem.W.keepIn K (.ref f__law_normal)=true)
  (a__law_right:PySem.W.nsIn K mainGlobals "_law_right" = some (some (.ref f__law_right)))
  (l__law_right:K.lookup f__law_right=some ⟨oc__law_right,od__law_right,.func (PySem.W.fnOf "_law_right" "_law_right" (defArgs BX) (defBody BX) (defScope BX) .none kV__law_right dc__law_right pm__law_right an__law_right cd__law_right ct__law_right),sl__law_right⟩)
  (o__law_right:PySem.W.codeIn K cd__law_right "_law_right" = true)
  (k__law_right:PySem.W.keepIn K (.ref f__law_right)=true)
  (a_same_point:PySem.W.nsIn K mainGlobals "same_point" = some (some (.ref f_same_point)))
  (l_same_point:K.lookup f_same_point=some ⟨oc_same_point,od_same_point,.func (PySem.W.fnOf "same_point" "same_point" (defArgs BZ) (defBody BZ) (defScope BZ) .none kV_same_point dc_same_point pm_same_point an_same_point cd_same_point ct_same_point),sl_same_point⟩)
  (o_same_point:PySem.W.codeIn K cd_same_point "same_point" = true)
  (k_same_point:PySem.W.keepIn K (.ref f_same_point)=true)
  (pa_Map_unit:PySem.W.findCls K (.ref c_Map) (.type "type") "unit" = some (.get (.builtin "staticmethod.__get__") (.ref pp_Map_unit) .none (.ref c_Map)))
  (pc_Map_unit:PySem.W.recIn K pp_Map_unit "staticmethod" = some (.ref f_Map_unit :: pr_Map_unit))
  (crd_Map:PySem.W.readsIn K c_Map (.type "type")=true)
  (cga_Map:PySem.W.specialIn K (.ref c_Map) "__getattribute__" = some (some (.builtin "type.__getattribute__")))
  (l_Map_unit:K.lookup f_Map_unit=some ⟨oc_Map_unit,od_Map_unit,.func (PySem.W.fnOf "unit" "Map.unit" (defArgs EF) (defBody EF) (defScope EF) .none kV_Map_unit dc_Map_unit pm_Map_unit an_Map_unit cd_Map_unit ct_Map_unit),sl_Map_unit⟩)
  (o_Map_unit:PySem.W.codeIn K cd_Map_unit "Map.unit" = true)
  (k_Map_unit:PySem.W.keepIn K (.ref f_Map_unit)=true)
  (a__law_no_unit:PySem.W.nsIn K mainGlobals "_law_no_unit" = some (some (.ref f__law_no_unit)))
  (l__law_no_unit:K.lookup f__law_no_unit=some ⟨oc__law_no_unit,od__law_no_unit,.func (PySem.W.fnOf "_law_no_unit" "_law_no_unit" (defArgs Bm) (defBody Bm) (defScope Bm) .none kV__law_no_unit dc__law_no_unit pm__law_no_unit an__law_no_unit cd__law_no_unit ct__law_no_unit),sl__law_no_unit⟩)
  (o__law_no_unit:PySem.W.codeIn K cd__law_no_unit "_law_no_unit" = true)
  (k__law_no_unit:PySem.W.keepIn K (.ref f__law_no_unit)=true)
  (a__law_unit:PySem.W.nsIn K mainGlobals "_law_unit" = some (some (.ref f__law_unit)))
  (l__law_unit:K.lookup f__law_unit=some ⟨oc__law_unit,od__law_unit,.func (PySem.W.fnOf "_law_unit" "_law_unit" (defArgs Cw) (defBody Cw) (defScope Cw) .none kV__law_unit dc__law_unit pm__law_unit an__law_unit cd__law_unit ct__law_unit),sl__law_unit⟩)
  (o__law_unit:PySem.W.codeIn K cd__law_unit "_law_unit" = true)
  (k__law_unit:PySem.W.keepIn K (.ref f__law_unit)=true)
  (a__law_neutral:PySem.W.nsIn K mainGlobals "_law_neutral" = some (some (.ref f__law_neutral)))
  (l__law_neutral:K.lookup f__law_neutral=some ⟨oc__law_neutral,od__law_neutral,.func (PySem.W.fnOf "_law_neutral" "_law_neutral" (defArgs Br) (defBody Br) (defScope Br) .none kV__law_neutral dc__law_neutral pm__law_neutral an__law_neutral cd__law_neutral ct__law_neutral),sl__law_neutral⟩)
  (o__law_neutral:PySem.W.codeIn K cd__law_neutral "_law_neutral" = true)
  (k__law_neutral:PySem.W.keepIn K (.ref f__law_neutral)=true)
  (a__law_joined:PySem.W.nsIn K mainGlobals "_law_joined" = some (some (.ref f__law_joined)))
  (l__law_joined:K.lookup f__law_joined=some ⟨oc__law_joined,od__law_joined,.func (PySem.W.fnOf "_law_joined" "_law_joined" (defArgs BD) (defBody BD) (defScope BD) .none kV__law_joined dc__law_joined pm__law_joined an__law_joined cd__law_joined ct__law_joined),sl__law_joined⟩)
  (o__law_joined:PySem.W.codeIn K cd__law_joined "_law_joined" = true)
  (k__law_joined:PySem.W.keepIn K (.ref f__law_joined)=true)
  (a__law_row_of:PySem.W.nsIn K mainGlobals "_law_row_of" = some (some (.ref f__law_row_of)))
  (l__law_row_of:K.lookup f__law_row_of=some ⟨oc__law_row_of,od__law_row_of,.func (PySem.W.fnOf "_law_row_of" "_law_row_of" (defArgs Bo) (defBody Bo) (defScope Bo) .none kV__law_row_of dc__law_row_of pm__law_row_of an__law_row_of cd__law_row_of ct__law_row_of),sl__law_row_of⟩)
  (o__law_row_of:PySem.W.codeIn K cd__law_row_of "_law_row_of" = true)
  (k__law_row_of:PySem.W.keepIn K (.ref f__law_row_of)=true)
  (a__law_after:PySem.W.nsIn K mainGlobals "_law_after" = some (some (.ref f__law_after)))
  (l__law_after:K.lookup f__law_after=some ⟨oc__law_after,od__law_after,.func (PySem.W.fnOf "_law_after" "_law_after" (defArgs B1) (defBody B1) (defScope B1) .none kV__law_after dc__law_after pm__law_after an__law_after cd__law_after ct__law_after),sl__law_after⟩)
  (o__law_after:PySem.W.codeIn K cd__law_after "_law_after" = true)
  (k__law_after:PySem.W.keepIn K (.ref f__law_after)=true)
  (a__law_two:PySem.W.nsIn K mainGlobals "_law_two" = some (some (.ref f__law_two)))
  (l__law_two:K.lookup f__law_two=some ⟨oc__law_two,od__law_two,.func (PySem.W.fnOf "_law_two" "_law_two" (defArgs Di) (defBody Di) (defScope Di) .none kV__law_two dc__law_two pm__law_two an__law_two cd__law_two ct__law_two),sl__law_two⟩)
  (o__law_two:PySem.W.codeIn K cd__law_two "_law_two" = true)
  (k__law_two:PySem.W.keepIn K (.ref f__law_two)=true)
  (a_law:PySem.W.nsIn K mainGlobals "law" = some (some (.ref f_law)))
  (l_law:K.lookup f_law=some ⟨oc_law,od_law,.func (PySem.W.fnOf "law" "law" (defArgs EH) (defBody EH) (defScope EH) .none kV_law dc_law pm_law an_law cd_law ct_law),sl_law⟩)
  (o_law:PySem.W.codeIn K cd_law "law" = true)
  (k_law:PySem.W.keepIn K (.ref f_law)=true)
  (hmain:∀ (base:Heap) (cs:Cs) (fa:Addr) (fd:FuncData),Tx PySem.Challenge.pw_bidehall_k15_product_of_maps w K mg base cs→FunD K "law" "law" (defArgs EH) (defBody EH) (defScope EH) [] [] fa fd→FnOk PySem.Challenge.pw_bidehall_k15_product_of_maps w K mg base (L2N.CX PySem.Challenge.pw_bidehall_k15_product_of_maps w) 12 fa fd ["_law_script"] (Rv K)):
  ∃ fd:FuncData,(∀ (s:Shared) (v:Value),BindsTo s fd ⟨[v],[]⟩ [("_law_script",v)])∧∀ base:Heap,K.In base→base.Ns mainGlobals mg→FnOk PySem.Challenge.pw_bidehall_k15_product_of_maps w K mg base (L2N.CX PySem.Challenge.pw_bidehall_k15_product_of_maps w) 12 fa fd ["_law_script"] (Rv K):=by
 have e:=hfa.symm.trans (PySem.W.mg_of X G a_law)
 cases e
 have X_EmptyForm:PySem.FX.XTxt PySem.Challenge.pw_bidehall_k15_product_of_maps K mg c_EmptyForm fi_EmptyForm cc_EmptyForm cda_EmptyForm "EmptyForm.__init__" (defArgs EL) (defBody EL) (defScope EL):=
  {cls:=⟨_,_,_,_,[.ref c_Refused,.ref c_HouseError,.type "ValueError",.type "Exception",.type "BaseException",.type "object"],_,_,_,_,_,_,_,_,_,_,xl_EmptyForm,by rfl⟩,sa:=sa_EmptyForm,iC:=ic_EmptyForm,tI:=ti_EmptyForm,kC:=kc_EmptyForm,exC:=ex_EmptyForm,exVE:=ev_EmptyForm,tyC:=ty_EmptyForm,sub:=su_EmptyForm,supI:=si_EmptyForm,any:=any,mgS:=PySem.W.mg_none_of X G zsup,cell:=⟨_,_,_,ce_EmptyForm⟩,code:=⟨_,_,_,_,_,_,co_EmptyForm,cs_EmptyForm,cf_EmptyForm⟩,
   top:=by decide +kernel,fn:=⟨_,_,_,_,_,_,_,_,lf_EmptyForm,cd_EmptyForm⟩ }
 have M_EmptyForm:∀ base,PySem.FX.XMk PySem.Challenge.pw_bidehall_k15_product_of_maps w K mg base c_EmptyForm CV GJ:=fun base=>
  PySem.FX.mk0 X_EmptyForm rfl rfl (fun s x kV doc pm an ct=>.of_eq rfl) (by decide +kernel) rfl rfl rfl rfl rfl rfl (fun L=>⟨rfl,rfl,⟨_,rfl⟩⟩) (fun L x=>PySem.FX.Yq)
 have TT:∀ base,Tx PySem.Challenge.pw_bidehall_k15_product_of_maps w K mg base ⟨c_EmptyForm,c_Map,c_NoName,c_NoAnswer,c_Unfit,c_HouseError,c_Refused⟩:=fun base=>
  {n_ValueError:=PySem.W.mg_none_of X G z_ValueError,
   n_all:=PySem.W.mg_none_of X G z_all,
   n_any:=PySem.W.mg_none_of X G z_any,
   n_bool:=PySem.W.mg_none_of X G z_bool,
   n_dict:=PySem.W.mg_none_of X G z_dict,
   n_int:=PySem.W.mg_none_of X G z_int,
   n_isinstance:=PySem.W.mg_none_of X G z_isinstance,
   n_len:=PySem.W.mg_none_of X G z_len,
   n_list:=PySem.W.mg_none_of X G z_list,
   n_max:=PySem.W.mg_none_of X G z_max,
   n_min:=PySem.W.mg_none_of X G z_min,
   n_range:=PySem.W.mg_none_of X G z_range,
   n_sorted:=PySem.W.mg_none_of X G z_sorted,
   n_str:=PySem.W.mg_none_of X G z_str,
   n_sum:=PySem.W.mg_none_of X G z_sum,
   n_tuple:=PySem.W.mg_none_of X G z_tuple,
   v_MOST_ROWS:=⟨_,PySem.W.mg_of X G kv_MOST_ROWS,⟨_,rfl⟩⟩,
   Cy:=PySem.W.mg_of X G a_EmptyForm,
   g_Map:=PySem.W.mg_of X G a_Map,
   g_NoName:=PySem.W.mg_of X G a_NoName,
   g_NoAnswer:=PySem.W.mg_of X G a_NoAnswer,
   g_Unfit:=PySem.W.mg_of X G a_Unfit,
   g_HouseError:=PySem.W.mg_of X G a_HouseError,
   g_Refused:=PySem.W.mg_of X G a_Refused,
   cl_Map:=⟨pg_Map,hdd_Map,po_Map,sat_Map⟩,
   no_Map__forms:=noa_Map__forms,
   sf_Map:=sfq_Map,
   in_Map:=⟨⟨pg_Map,hdd_Map,po_Map,sat_Map⟩,hac_Map,hn,ht,hoc_Map,Tw⟩,
   ki_Map_Map:=Tw,
   oi_Map:=Z3 cio_Map cto_Map,
   m_EmptyForm:=M_EmptyForm base,
   k_EmptyForm:=kc_EmptyForm,
   e_EmptyForm:=ex_EmptyForm,
   t_EmptyForm:=ty_EmptyForm,
   x_EmptyForm_EmptyForm:=Zt cb_EmptyForm ci_EmptyForm ct_EmptyForm sb_EmptyForm_EmptyForm,
   x_EmptyForm_HouseError:=Zt cb_HouseError ci_HouseError ct_HouseError sb_EmptyForm_HouseError,
   i_EmptyForm_Refused:=M9 ne_EmptyForm_Refused ci_Refused ct_Refused sb_EmptyForm_Refused,
   i_EmptyForm_HouseError:=M9 ne_EmptyForm_HouseError ci_HouseError ct_HouseError sb_EmptyForm_HouseError,
   i_EmptyForm_ValueError:=dA (by decide +kernel) sb_EmptyForm_ValueError,
   i_EmptyForm_Unfit:=M9 ne_EmptyForm_Unfit ci_Unfit ct_Unfit sb_EmptyForm_Unfit,
   i_EmptyForm_NoAnswer:=M9 ne_EmptyForm_NoAnswer ci_NoAnswer ct_NoAnswer sb_EmptyForm_NoAnswer,
   i_EmptyForm_NoName:=M9 ne_EmptyForm_NoName ci_NoName ct_NoName sb_EmptyForm_NoName,
   xc:=fun C hC=>by
     have e:=List.mem_singleton.mp hC
     subst e
     exact ⟨hg_EmptyForm,hk_EmptyForm,ex_EmptyForm,hd_EmptyForm,ha_EmptyForm,hn,ht,ho_EmptyForm⟩,
   F_row_of:=⟨f_row_of,_,⟨⟨_,_,_,_,_,_,_,_,_,_,rfl,l_row_of,o_row_of,.inl ⟨rfl,rfl⟩,.inl rfl⟩,k_row_of⟩,PySem.W.mg_of X G a_row_of⟩,
   F_within:=⟨f_within,_,⟨⟨_,_,_,_,_,_,_,_,_,_,rfl,l_within,o_within,.inl ⟨rfl,rfl⟩,.inl rfl⟩,k_within⟩,PySem.W.mg_of X G a_within⟩,
   F_has_below:=⟨f_has_below,_,⟨⟨_,_,_,_,_,_,_,_,_,_,rfl,l_has_below,o_has_below,.inl ⟨rfl,rfl⟩,.inl rfl⟩,k_has_below⟩,PySem.W.mg_of X G a_has_below⟩,
   F_lowest:=⟨f_lowest,_,⟨⟨_,_,_,_,_,_,_,_,_,_,rfl,l_lowest,o_lowest,.inl ⟨rfl,rfl⟩,.inl rfl⟩,k_lowest⟩,PySem.W.mg_of X G a_lowest⟩,
   F_normal:=⟨f_normal,_,⟨⟨_,_,_,_,_,_,_,_,_,_,rfl,l_normal,o_normal,.inl ⟨rfl,rfl⟩,.inl rfl⟩,k_normal⟩,PySem.W.mg_of X G a_normal⟩,
   F_need_rows:=⟨f_need_rows,_,⟨⟨_,_,_,_,_,_,_,_,_,_,rfl,l_need_rows,o_need_rows,.inl ⟨rfl,rfl⟩,.inl rfl⟩,k_need_rows⟩,PySem.W.mg_of X G a_need_rows⟩,
   F_need_few:=⟨f_need_few,_,⟨⟨_,_,_,_,_,_,_,_,_,_,rfl,l_need_few,o_need_few,.inl ⟨rfl,rfl⟩,.inl rfl⟩,k_need_few⟩,PySem.W.mg_of X G a_need_few⟩,
   F_checked_form:=⟨f_checked_form,_,⟨⟨_,_,_,_,_,_,_,_,_,_,rfl,l_checked_form,o_checked_form,.inl ⟨rfl,rfl⟩,.inl rfl⟩,k_checked_form⟩,PySem.W.mg_of X G a_checked_form⟩,
   F_Map___init__:=⟨f_Map___init__,_,⟨⟨_,_,_,_,_,_,_,_,_,_,rfl,l_Map___init__,o_Map___init__,.inl ⟨rfl,rfl⟩,.inl rfl⟩,k_Map___init__⟩,⟨mi_Map,a_Map___init__,fn_Map___init__,kpc_Map⟩⟩,
   F_map_of:=⟨f_map_of,_,⟨⟨_,_,_,_,_,_,_,_,_,_,rfl,l_map_of,o_map_of,.inl ⟨rfl,rfl⟩,.inl rfl⟩,k_map_of⟩,PySem.W.mg_of X G a_map_of⟩,
   F_either:=⟨f_either,_,⟨⟨_,_,_,_,_,_,_,_,_,_,rfl,l_either,o_either,.inl ⟨rfl,rfl⟩,.inl rfl⟩,k_either⟩,PySem.W.mg_of X G a_either⟩,
   F_merged:=⟨f_merged,_,⟨⟨_,_,_,_,_,_,_,_,_,_,rfl,l_merged,o_merged,.inl ⟨rfl,rfl⟩,.inl rfl⟩,k_merged⟩,PySem.W.mg_of X G a_merged⟩,
   F_joined:=⟨f_joined,_,⟨⟨_,_,_,_,_,_,_,_,_,_,rfl,l_joined,o_joined,.inl ⟨rfl,rfl⟩,.inl rfl⟩,k_joined⟩,PySem.W.mg_of X G a_joined⟩,
   F_shifted:=⟨f_shifted,_,⟨⟨_,_,_,_,_,_,_,_,_,_,rfl,l_shifted,o_shifted,.inl ⟨rfl,rfl⟩,.inl rfl⟩,k_shifted⟩,PySem.W.mg_of X G a_shifted⟩,
   F_placed_row:=⟨f_placed_row,_,⟨⟨_,_,_,_,_,_,_,_,_,_,rfl,l_placed_row,o_placed_row,.inl ⟨rfl,rfl⟩,.inl rfl⟩,k_placed_row⟩,PySem.W.mg_of X G a_placed_row⟩,
   F_placed:=⟨f_placed,_,⟨⟨_,_,_,_,_,_,_,_,_,_,rfl,l_placed,o_placed,.inl ⟨rfl,rfl⟩,.inl rfl⟩,k_placed⟩,PySem.W.mg_of X G a_placed⟩,
   F_composed:=⟨f_composed,_,⟨⟨_,_,_,_,_,_,_,_,_,_,rfl,l_composed,o_composed,.inl ⟨rfl,rfl⟩,.inl rfl⟩,k_composed⟩,PySem.W.mg_of X G a_composed⟩,
   F_Map_names:=⟨f_Map_names,_,⟨⟨_,_,_,_,_,_,_,_,_,_,rfl,l_Map_names,o_Map_names,.inl ⟨rfl,rfl⟩,.inl rfl⟩,k_Map_names⟩,⟨a_Map_names,fn_Map_names,k_Map_names⟩⟩,
   F_Map___contains__:=⟨f_Map___contains__,_,⟨⟨_,_,_,_,_,_,_,_,_,_,rfl,l_Map___contains__,o_Map___contains__,.inl ⟨rfl,rfl⟩,.inl rfl⟩,k_Map___contains__⟩,⟨a_Map___contains__,fn_Map___contains__,k_Map___contains__⟩⟩,
   F_need_alike:=⟨f_need_alike,_,⟨⟨_,_,_,_,_,_,_,_,_,_,rfl,l_need_alike,o_need_alike,.inl ⟨rfl,rfl⟩,.inl rfl⟩,k_need_alike⟩,PySem.W.mg_of X G a_need_alike⟩,
   F_Map___mul__:=⟨f_Map___mul__,_,⟨⟨_,_,_,_,_,_,_,_,_,_,rfl,l_Map___mul__,o_Map___mul__,.inl ⟨rfl,rfl⟩,.inl rfl⟩,k_Map___mul__⟩,⟨a_Map___mul__,fn_Map___mul__,k_Map___mul__⟩⟩,
   F_Map___eq__:=⟨f_Map___eq__,_,⟨⟨_,_,_,_,_,_,_,_,_,_,rfl,l_Map___eq__,o_Map___eq__,.inl ⟨rfl,rfl⟩,.inl rfl⟩,k_Map___eq__⟩,⟨a_Map___eq__,fn_Map___eq__,k_Map___eq__⟩⟩,
   F__law_box:=⟨f__law_box,_,⟨⟨_,_,_,_,_,_,_,_,_,_,rfl,l__law_box,o__law_box,.inl ⟨rfl,rfl⟩,.inl rfl⟩,k__law_box⟩,PySem.W.mg_of X G a__law_box⟩,
   F__law_take:=⟨f__law_take,_,⟨⟨_,_,_,_,_,_,_,_,_,_,rfl,l__law_take,o__law_take,.inl ⟨rfl,rfl⟩,.inl rfl⟩,k__law_take⟩,PySem.W.mg_of X G a__law_take⟩,
   F__law_fresh:=⟨f__law_fresh,_,⟨⟨_,_,_,_,_,_,_,_,_,_,rfl,l__law_fresh,o__law_fresh,.inl ⟨rfl,rfl⟩,.inl rfl⟩,k__law_fresh⟩,PySem.W.mg_of X G a__law_fresh⟩,
   F__law_word:=⟨f__law_word,_,⟨⟨_,_,_,_,_,_,_,_,_,_,rfl,l__law_word,o__law_word,.inl ⟨rfl,rfl⟩,.inl rfl⟩,k__law_word⟩,PySem.W.mg_of X G a__law_word⟩,
   F__law_names:=⟨f__law_names,_,⟨⟨_,_,_,_,_,_,_,_,_,_,rfl,l__law_names,o__law_names,.inl ⟨rfl,rfl⟩,.inl rfl⟩,k__law_names⟩,PySem.W.mg_of X G a__law_names⟩,
   F__law_spread:=⟨f__law_spread,_,⟨⟨_,_,_,_,_,_,_,_,_,_,rfl,l__law_spread,o__law_spread,.inl ⟨rfl,rfl⟩,.inl rfl⟩,k__law_spread⟩,PySem.W.mg_of X G a__law_spread⟩,
   F__law_row:=⟨f__law_row,_,⟨⟨_,_,_,_,_,_,_,_,_,_,rfl,l__law_row,o__law_row,.inl ⟨rfl,rfl⟩,.inl rfl⟩,k__law_row⟩,PySem.W.mg_of X G a__law_row⟩,
   F__law_rules:=⟨f__law_rules,_,⟨⟨_,_,_,_,_,_,_,_,_,_,rfl,l__law_rules,o__law_rules,.inl ⟨rfl,rfl⟩,.inl rfl⟩,k__law_rules⟩,PySem.W.mg_of X G a__law_rules⟩,
   F__law_copy:=⟨f__law_copy,_,⟨⟨_,_,_,_,_,_,_,_,_,_,rfl,l__law_copy,o__law_copy,.inl ⟨rfl,rfl⟩,.inl rfl⟩,k__law_copy⟩,PySem.W.mg_of X G a__law_copy⟩,
   F__law_value:=⟨f__law_value,_,⟨⟨_,_,_,_,_,_,_,_,_,_,rfl,l__law_value,o__law_value,.inl ⟨rfl,rfl⟩,.inl rfl⟩,k__law_value⟩,PySem.W.mg_of X G a__law_value⟩,
   F_value_of:=⟨f_value_of,_,⟨⟨_,_,_,_,_,_,_,_,_,_,rfl,l_value_of,o_value_of,.inl ⟨rfl,rfl⟩,.inl rfl⟩,k_value_of⟩,PySem.W.mg_of X G a_value_of⟩,
   F_Map___call__:=⟨f_Map___call__,_,⟨⟨_,_,_,_,_,_,_,_,_,_,rfl,l_Map___call__,o_Map___call__,.inl ⟨rfl,rfl⟩,.inl rfl⟩,k_Map___call__⟩,⟨a_Map___call__,fn_Map___call__,k_Map___call__⟩⟩,
   F__law_integer:=⟨f__law_integer,_,⟨⟨_,_,_,_,_,_,_,_,_,_,rfl,l__law_integer,o__law_integer,.inl ⟨rfl,rfl⟩,.inl rfl⟩,k__law_integer⟩,PySem.W.mg_of X G a__law_integer⟩,
   F__law_gives:=⟨f__law_gives,_,⟨⟨_,_,_,_,_,_,_,_,_,_,rfl,l__law_gives,o__law_gives,.inl ⟨rfl,rfl⟩,.inl rfl⟩,k__law_gives⟩,PySem.W.mg_of X G a__law_gives⟩,
   F__law_drawn_point:=⟨f__law_drawn_point,_,⟨⟨_,_,_,_,_,_,_,_,_,_,rfl,l__law_drawn_point,o__law_drawn_point,.inl ⟨rfl,rfl⟩,.inl rfl⟩,k__law_drawn_point⟩,PySem.W.mg_of X G a__law_drawn_point⟩,
   F_Map_form:=⟨f_Map_form,_,⟨⟨_,_,_,_,_,_,_,_,_,_,rfl,l_Map_form,o_Map_form,.inl ⟨rfl,rfl⟩,.inl rfl⟩,k_Map_form⟩,⟨a_Map_form,fn_Map_form,k_Map_form⟩⟩,
   F_Map___len__:=⟨f_Map___len__,_,⟨⟨_,_,_,_,_,_,_,_,_,_,rfl,l_Map___len__,o_Map___len__,.inl ⟨rfl,rfl⟩,.inl rfl⟩,k_Map___len__⟩,⟨a_Map___len__,fn_Map___len__,k_Map___len__⟩⟩,
   F__law_below:=⟨f__law_below,_,⟨⟨_,_,_,_,_,_,_,_,_,_,rfl,l__law_below,o__law_below,.inl ⟨rfl,rfl⟩,.inl rfl⟩,k__law_below⟩,PySem.W.mg_of X G a__law_below⟩,
   F__law_flat:=⟨f__law_flat,_,⟨⟨_,_,_,_,_,_,_,_,_,_,rfl,l__law_flat,o__law_flat,.inl ⟨rfl,rfl⟩,.inl rfl⟩,k__law_flat⟩,PySem.W.mg_of X G a__law_flat⟩,
   F__law_form:=⟨f__law_form,_,⟨⟨_,_,_,_,_,_,_,_,_,_,rfl,l__law_form,o__law_form,.inl ⟨rfl,rfl⟩,.inl rfl⟩,k__law_form⟩,PySem.W.mg_of X G a__law_form⟩,
   F__law_normal:=⟨f__law_normal,_,⟨⟨_,_,_,_,_,_,_,_,_,_,rfl,l__law_normal,o__law_normal,.inl ⟨rfl,rfl⟩,.inl rfl⟩,k__law_normal⟩,PySem.W.mg_of X G a__law_normal⟩,
   F__law_right:=⟨f__law_right,_,⟨⟨_,_,_,_,_,_,_,_,_,_,rfl,l__law_right,o__law_right,.inl ⟨rfl,rfl⟩,.inl rfl⟩,k__law_right⟩,PySem.W.mg_of X G a__law_right⟩,
   F_same_point:=⟨f_same_point,_,⟨⟨_,_,_,_,_,_,_,_,_,_,rfl,l_same_point,o_same_point,.inl ⟨rfl,rfl⟩,.inl rfl⟩,k_same_point⟩,PySem.W.mg_of X G a_same_point⟩,
   F_Map_unit:=⟨f_Map_unit,_,⟨⟨_,_,_,_,_,_,_,_,_,_,rfl,l_Map_unit,o_Map_unit,.inl ⟨rfl,rfl⟩,.inl rfl⟩,k_Map_unit⟩,⟨_,pp_Map_unit,⟨crd_Map,cga_Map⟩,⟨pa_Map_unit,⟨pr_Map_unit,pc_Map_unit⟩,k_Map_unit⟩⟩⟩,
   F__law_no_unit:=⟨f__law_no_unit,_,⟨⟨_,_,_,_,_,_,_,_,_,_,rfl,l__law_no_unit,o__law_no_unit,.inl ⟨rfl,rfl⟩,.inl rfl⟩,k__law_no_unit⟩,PySem.W.mg_of X G a__law_no_unit⟩,
   F__law_unit:=⟨f__law_unit,_,⟨⟨_,_,_,_,_,_,_,_,_,_,rfl,l__law_unit,o__law_unit,.inl ⟨rfl,rfl⟩,.inl rfl⟩,k__law_unit⟩,PySem.W.mg_of X G a__law_unit⟩,
   F__law_neutral:=⟨f__law_neutral,_,⟨⟨_,_,_,_,_,_,_,_,_,_,rfl,l__law_neutral,o__law_neutral,.inl ⟨rfl,rfl⟩,.inl rfl⟩,k__law_neutral⟩,PySem.W.mg_of X G a__law_neutral⟩,
   F__law_joined:=⟨f__law_joined,_,⟨⟨_,_,_,_,_,_,_,_,_,_,rfl,l__law_joined,o__law_joined,.inl ⟨rfl,rfl⟩,.inl rfl⟩,k__law_joined⟩,PySem.W.mg_of X G a__law_joined⟩,
   F__law_row_of:=⟨f__law_row_of,_,⟨⟨_,_,_,_,_,_,_,_,_,_,rfl,l__law_row_of,o__law_row_of,.inl ⟨rfl,rfl⟩,.inl rfl⟩,k__law_row_of⟩,PySem.W.mg_of X G a__law_row_of⟩,
   F__law_after:=⟨f__law_after,_,⟨⟨_,_,_,_,_,_,_,_,_,_,rfl,l__law_after,o__law_after,.inl ⟨rfl,rfl⟩,.inl rfl⟩,k__law_after⟩,PySem.W.mg_of X G a__law_after⟩,
   F__law_two:=⟨f__law_two,_,⟨⟨_,_,_,_,_,_,_,_,_,_,rfl,l__law_two,o__law_two,.inl ⟨rfl,rfl⟩,.inl rfl⟩,k__law_two⟩,PySem.W.mg_of X G a__law_two⟩,
   F_law:=⟨fa,_,⟨⟨_,_,_,_,_,_,_,_,_,_,rfl,l_law,o_law,.inl ⟨rfl,rfl⟩,.inl rfl⟩,k_law⟩,PySem.W.mg_of X G a_law⟩ }
 exact ⟨PySem.W.fnOf "law" "law" (defArgs EH) (defBody EH) (defScope EH) .none kV_law dc_law pm_law an_law cd_law ct_law,fun s v=>.of_eq rfl,fun base _ _=>
  hmain base ⟨c_EmptyForm,c_Map,c_NoName,c_NoAnswer,c_Unfit,c_HouseError,c_Refused⟩ _ _ (TT base) ⟨⟨_,_,_,_,_,_,_,_,_,_,rfl,l_law,o_law,.inl ⟨rfl,rfl⟩,.inl rfl⟩,k_law⟩⟩
end Lk15
def PySem.W.Fast.tw9623312725895752926:Unit:=()
def PySem.W.Fast.tw15128953428164323580:Unit:=()
def PySem.W.Fast.tw10679636095219239673:Unit:=()
def PySem.W.Fast.tw737443766489437464:Unit:=()
def PySem.W.Fast.tw17823293770208649877:Unit:=()
def PySem.W.Fast.tw8378511092791677077:Unit:=()
def PySem.W.Fast.tw17015717615362784979:Unit:=()
def PySem.W.Fast.tw11289371031979694451:Unit:=()
def PySem.W.Fast.tw11645526008138020083:Unit:=()
def PySem.W.Fast.tw17824459676869878897:Unit:=()
def PySem.W.Fast.tw10383712043064098064:Unit:=()
def PySem.W.Fast.tw4037110307270352206:Unit:=()
def PySem.W.Fast.tw1985714880449014409:Unit:=()
def PySem.W.Fast.tw6778467035485043785:Unit:=()
def PySem.W.Fast.tw17892399683986420040:Unit:=()
def PySem.W.Fast.tw18241427188003966216:Unit:=()
def PySem.W.Fast.tw12752079358955464295:Unit:=()
def PySem.W.Fast.tw8304474740281183429:Unit:=()
def PySem.W.Fast.tw974301000069782180:Unit:=()
def PySem.W.Fast.tw5616746035111939009:Unit:=()
def PySem.W.Fast.tw14636925465541196512:Unit:=()
open PySem PyProof.Rows PySem.W PySem.Calls in
def Lk15.HM:Prop:=∀ (w:World) (K:PySem.W.Frag) (mg:PySem.Str→Option Value) (base:Heap) (cs:Lk15.Cs) (fa:Addr) (fd:FuncData),Lk15.Tx PySem.Challenge.pw_bidehall_k15_product_of_maps w K mg base cs→L2.FunD K "law" "law" (L2.defArgs Lk15.EH) (L2.defBody Lk15.EH) (L2.defScope Lk15.EH) [] [] fa fd→L2.FnOk PySem.Challenge.pw_bidehall_k15_product_of_maps w K mg base (L2N.CX PySem.Challenge.pw_bidehall_k15_product_of_maps w) 12 fa fd ["_law_script"] (FD.Rv K)
class Lk15.HasHM:Prop where
 out:Lk15.HM
namespace LkH15
open PySem PyProof.Rows PySem.W PySem.Calls in
theorem PySem.W.holds_open[hm:Lk15.HasHM]{r:OpenRow}{q:Program}{loose:List PySem.Str}{α:Type}{N:Nat}
  {Xt:Shared→Bool} {XP:(PySem.Str→Option Value)→Heap→Prop}
  {Yf:Shared→α} {Ya:World→α} {YP:World→Heap→Prop}
  {d:DefRec} {kwd:List (PySem.Str × PySem.Expr)}
  (b1:LeftO r.prog q loose Xt Yf Ya N)
  (b2:∀ w s,Yf s=Ya w→YP w s.heap)
  (b3:∀ w g g',YP w g→(∀ a x,g.get? a=some x→g'.get? a=some x)→YP w g')
  (b4:∀ s,Xt s=true→XP (s.heap.nsMap mainGlobals) s.heap)
  (b5:∀ m g g',XP m g→(∀ a x,g.get? a=some x→g'.get? a=some x)→XP m g')
  (b6:defOf q r.name=some (d,kwd))
  (b7:r.prog.theDef r.name=some (d.params,d.body,d.scope))
  (b8:kwWritten? d.params.kwonlyargs d.params.kw_defaults=some kwd)
  (b9:∀ s,Xt s=true→RecFacts r.records s.heap)
  (b10:(!r.writes || r.records.isEmpty)=true)
  (b11:r.wellSaid=true)
  (b12:(chainsOk q && opensWell r.prog && (frees r.toRowW && r.within.isEmpty))=true)
  (b13:r.prog.bare)
  (b14:r.toRowW.promised)
  (call:Lk15.HM→WalkO q loose XP YP r.toRowW d kwd fun f vs=>PySem.call f vs):r.Holds:=
 _root_.PySem.W.holds_open b1 b2 b3 b4 b5 b6 b7 b8 b9 b10 b11 b12 b13 b14 (call hm.out)
open PySem PySem.W PyProof.Rows in
set_option maxRecDepth 100000 in
set_option maxHeartbeats 0 in
theorem headed[hm:Lk15.HasHM]:PySem.Challenge.rw_bidehall_k15_product_of_maps.Holds:=by
 w_on; o_law; k_head; (case hw=>w_witness2)
 intro hmain
 k_fill
 refine FD.ZQ (l:=PySem.Challenge.rw_bidehall_k15_product_of_maps) (k:=12) (x:="_law_script") rfl rfl ⟨rfl,by decide,by decide⟩ (fun w h Y=>PySem.W.kIn_of Y) ?F
 case F=>
  intro w mg fa h KX G hmg
  refine' Lk15.all_mk KX G hmg ?z_ValueError ?z_all ?z_any ?z_bool ?z_dict ?z_int ?z_isinstance ?z_len ?z_list ?z_max ?z_min ?z_range ?z_sorted ?z_str ?z_sum ?z_tuple ?kv_MOST_ROWS ?a_EmptyForm ?a_Map ?a_NoName ?a_NoAnswer ?a_Unfit ?a_HouseError ?a_Refused ?xl_EmptyForm ?sa_EmptyForm ?ic_EmptyForm ?ti_EmptyForm ?kc_EmptyForm ?ex_EmptyForm ?ev_EmptyForm ?ty_EmptyForm ?su_EmptyForm ?si_EmptyForm ?lf_EmptyForm ?cd_EmptyForm ?ce_EmptyForm ?co_EmptyForm ?cs_EmptyForm ?cf_EmptyForm ?hg_EmptyForm ?hk_EmptyForm ?hd_EmptyForm ?ha_EmptyForm ?ho_EmptyForm ?sb_EmptyForm_EmptyForm ?sb_EmptyForm_HouseError ?ne_EmptyForm_HouseError ?sb_EmptyForm_Refused ?ne_EmptyForm_Refused ?sb_EmptyForm_ValueError ?sb_EmptyForm_Unfit ?ne_EmptyForm_Unfit ?sb_EmptyForm_NoAnswer ?ne_EmptyForm_NoAnswer ?sb_EmptyForm_NoName ?ne_EmptyForm_NoName ?ci_EmptyForm ?ct_EmptyForm ?cb_EmptyForm ?ci_HouseError ?ct_HouseError ?cb_HouseError ?ci_Refused ?ct_Refused ?cb_Refused ?ci_Unfit ?ct_Unfit ?cb_Unfit ?ci_NoAnswer ?ct_NoAnswer ?cb_NoAnswer ?ci_NoName ?ct_NoName ?cb_NoName ?pg_Map ?hdd_Map ?po_Map ?sat_Map ?mi_Map ?kpc_Map ?hac_Map ?hoc_Map ?noa_Map__forms ?sfq_Map ?cio_Map ?cto_Map ?any ?zsup ?hn ?ht ?a_row_of ?l_row_of ?o_row_of ?k_row_of ?a_within ?l_within ?o_within ?k_within ?a_has_below ?l_has_below ?o_has_below ?k_has_below ?a_lowest ?l_lowest ?o_lowest ?k_lowest ?a_normal ?l_normal ?o_normal ?k_normal ?a_need_rows ?l_need_rows ?o_need_rows ?k_need_rows ?a_need_few ?l_need_few ?o_need_few ?k_need_few ?a_checked_form ?l_checked_form ?o_checked_form ?k_checked_form ?a_Map___init__ ?fn_Map___init__ ?l_Map___init__ ?o_Map___init__ ?k_Map___init__ ?a_map_of ?l_map_of ?o_map_of ?k_map_of ?a_either ?l_either ?o_either ?k_either ?a_merged ?l_merged ?o_merged ?k_merged ?a_joined ?l_joined ?o_joined ?k_joined ?a_shifted ?l_shifted ?o_shifted ?k_shifted ?a_placed_row ?l_placed_row ?o_placed_row ?k_placed_row ?a_placed ?l_placed ?o_placed ?k_placed ?a_composed ?l_composed ?o_composed ?k_composed ?a_Map_names ?fn_Map_names ?l_Map_names ?o_Map_names ?k_Map_names ?a_Map___contains__ ?fn_Map___contains__ ?l_Map___contains__ ?o_Map___contains__ ?k_Map___contains__ ?a_need_alike ?l_need_alike ?o_need_alike ?k_need_alike ?a_Map___mul__ ?fn_Map___mul__ ?l_Map___mul__ ?o_Map___mul__ ?k_Map___mul__ ?a_Map___eq__ ?fn_Map___eq__ ?l_Map___eq__ ?o_Map___eq__ ?k_Map___eq__ ?a__law_box ?l__law_box ?o__law_box ?k__law_box ?a__law_take ?l__law_take ?o__law_take ?k__law_take ?a__law_fresh ?l__law_fresh ?o__law_fresh ?k__law_fresh ?a__law_word ?l__law_word ?o__law_word ?k__law_word ?a__law_names ?l__law_names ?o__law_names ?k__law_names ?a__law_spread ?l__law_spread ?o__law_spread ?k__law_spread ?a__law_row ?l__law_row ?o__law_row ?k__law_row ?a__law_rules ?l__law_rules ?o__law_rules ?k__law_rules ?a__law_copy ?l__law_copy ?o__law_copy ?k__law_copy ?a__law_value ?l__law_value ?o__law_value ?k__law_value ?a_value_of ?l_value_of ?o_value_of ?k_value_of ?a_Map___call__ ?fn_Map___call__ ?l_Map___call__ ?o_Map___call__ ?k_Map___call__ ?a__law_integer ?l__law_integer ?o__law_integer ?k__law_integer ?a__law_gives ?l__law_gives ?o__law_gives ?k__law_gives ?a__law_drawn_point ?l__law_drawn_point ?o__law_drawn_point ?k__law_drawn_point ?a_Map_form ?fn_Map_form ?l_Map_form ?o_Map_form ?k_Map_form ?a_Map___len__ ?fn_Map___len__ ?l_Map___len__ ?o_Map___len__ ?k_Map___len__ ?a__law_below ?l__law_below ?o__law_below ?k__law_below ?a__law_flat ?l__law_flat ?o__law_flat ?k__law_flat ?a__law_form ?l__law_form ?o__law_form ?k__law_form ?a__law_normal ?l__law_normal ?o__law_normal ?k__law_normal ?a__law_right ?l__law_right ?o__law_right ?k__law_right ?a_same_point ?l_same_point ?o_same_point ?k_same_point ?pa_Map_unit ?pc_Map_unit ?crd_Map ?cga_Map ?l_Map_unit ?o_Map_unit ?k_Map_unit ?a__law_no_unit ?l__law_no_unit ?o__law_no_unit ?k__law_no_unit ?a__law_unit ?l__law_unit ?o__law_unit ?k__law_unit ?a__law_neutral ?l__law_neutral ?o__law_neutral ?k__law_neutral ?a__law_joined ?l__law_joined ?o__law_joined ?k__law_joined ?a__law_row_of ?l__law_row_of ?o__law_row_of ?k__law_row_of ?a__law_after ?l__law_after ?o__law_after ?k__law_after ?a__law_two ?l__law_two ?o__law_two ?k__law_two ?a_law ?l_law ?o_law ?k_law (fun base cs fa fd T F=>hmain _ _ _ base cs fa fd T F)
  (case z_ValueError=>k_is)
  (case z_all=>k_is)
  (case z_any=>k_is)
  (case z_bool=>k_is)
  (case z_dict=>k_is)
  (case z_int=>k_is)
  (case z_isinstance=>k_is)
  (case z_len=>k_is)
  (case z_list=>k_is)
  (case z_max=>k_is)
  (case z_min=>k_is)
  (case z_range=>k_is)
  (case z_sorted=>k_is)
  (case z_str=>k_is)
  (case z_sum=>k_is)
  (case z_tuple=>k_is)
  (case kv_MOST_ROWS=>k_is)
  (case a_EmptyForm=>k_is)
  (case a_Map=>k_is)
  (case a_NoName=>k_is)
  (case a_NoAnswer=>k_is)
  (case a_Unfit=>k_is)
  (case a_HouseError=>k_is)
  (case a_Refused=>k_is)
  (case xl_EmptyForm=>k_is)
  (case sa_EmptyForm=>k_is)
  (case ic_EmptyForm=>k_is)
  (case ti_EmptyForm=>k_is)
  (case kc_EmptyForm=>k_is)
  (case ex_EmptyForm=>k_is)
  (case ev_EmptyForm=>k_is)
  (case ty_EmptyForm=>k_is)
  (case su_EmptyForm=>k_is)
  (case si_EmptyForm=>ks_is)
  (case lf_EmptyForm=>k_is)
  (case cd_EmptyForm=>k_is)
  (case ce_EmptyForm=>k_is)
  (case co_EmptyForm=>k_is)
  (case cs_EmptyForm=>rfl)
  (case cf_EmptyForm=>first | rfl | decide +kernel)
  (case hg_EmptyForm=>k_is)
  (case hk_EmptyForm=>k_is)
  (case hd_EmptyForm=>k_is)
  (case ha_EmptyForm=>k_is)
  (case ho_EmptyForm=>k_is)
  (case sb_EmptyForm_EmptyForm=>k_is)
  (case sb_EmptyForm_HouseError=>k_is)
  (case ne_EmptyForm_HouseError=>first | rfl | decide +kernel)
  (case sb_EmptyForm_Refused=>k_is)
  (case ne_EmptyForm_Refused=>first | rfl | decide +kernel)
  (case sb_EmptyForm_ValueError=>k_is)
  (case sb_EmptyForm_Unfit=>k_is)
  (case ne_EmptyForm_Unfit=>first | rfl | decide +kernel)
  (case sb_EmptyForm_NoAnswer=>k_is)
  (case ne_EmptyForm_NoAnswer=>first | rfl | decide +kernel)
  (case sb_EmptyForm_NoName=>k_is)
  (case ne_EmptyForm_NoName=>first | rfl | decide +kernel)
  (case ci_EmptyForm=>k_is)
  (case ct_EmptyForm=>k_is)
  (case cb_EmptyForm=>k_is)
  (case ci_HouseError=>k_is)
  (case ct_HouseError=>k_is)
  (case cb_HouseError=>k_is)
  (case ci_Refused=>k_is)
  (case ct_Refused=>k_is)
  (case cb_Refused=>k_is)
  (case ci_Unfit=>k_is)
  (case ct_Unfit=>k_is)
  (case cb_Unfit=>k_is)
  (case ci_NoAnswer=>k_is)
  (case ct_NoAnswer=>k_is)
  (case cb_NoAnswer=>k_is)
  (case ci_NoName=>k_is)
  (case ct_NoName=>k_is)
  (case cb_NoName=>k_is)
  (case pg_Map=>k_is)
  (case hdd_Map=>k_is)
  (case po_Map=>k_is)
  (case sat_Map=>k_is)
  (case mi_Map=>k_is)
  (case kpc_Map=>k_is)
  (case hac_Map=>k_is)
  (case hoc_Map=>k_is)
  (case noa_Map__forms=>k_is)
  (case sfq_Map=>k_is)
  (case cio_Map=>k_is)
  (case cto_Map=>k_is)
  (case any=>k_is)
  (case zsup=>k_is)
  (case hn=>k_is)
  (case ht=>k_is)
  (case a_row_of=>k_is)
  (case l_row_of=>k_is)
  (case o_row_of=>k_is)
  (case k_row_of=>k_is)
  (case a_within=>k_is)
  (case l_within=>k_is)
  (case o_within=>k_is)
  (case k_within=>k_is)
  (case a_has_below=>k_is)
  (case l_has_below=>k_is)
  (case o_has_below=>k_is)
  (case k_has_below=>k_is)
  (case a_lowest=>k_is)
  (case l_lowest=>k_is)
  (case o_lowest=>k_is)
  (case k_lowest=>k_is)
  (case a_normal=>k_is)
  (case l_normal=>k_is)
  (case o_normal=>k_is)
  (case k_normal=>k_is)
  (case a_need_rows=>k_is)
  (case l_need_rows=>k_is)
  (case o_need_rows=>k_is)
  (case k_need_rows=>k_is)
  (case a_need_few=>k_is)
  (case l_need_few=>k_is)
  (case o_need_few=>k_is)
  (case k_need_few=>k_is)
  (case a_checked_form=>k_is)
  (case l_checked_form=>k_is)
  (case o_checked_form=>k_is)
  (case k_checked_form=>k_is)
  (case a_Map___init__=>k_is)
  (case fn_Map___init__=>k_is)
  (case l_Map___init__=>k_is)
  (case o_Map___init__=>k_is)
  (case k_Map___init__=>k_is)
  (case a_map_of=>k_is)
  (case l_map_of=>k_is)
  (case o_map_of=>k_is)
  (case k_map_of=>k_is)
  (case a_either=>k_is)
  (case l_either=>k_is)
  (case o_either=>k_is)
  (case k_either=>k_is)
  (case a_merged=>k_is)
  (case l_merged=>k_is)
  (case o_merged=>k_is)
  (case k_merged=>k_is)
  (case a_joined=>k_is)
  (case l_joined=>k_is)
  (case o_joined=>k_is)
  (case k_joined=>k_is)
  (case a_shifted=>k_is)
  (case l_shifted=>k_is)
  (case o_shifted=>k_is)
  (case k_shifted=>k_is)
  (case a_placed_row=>k_is)
  (case l_placed_row=>k_is)
  (case o_placed_row=>k_is)
  (case k_placed_row=>k_is)
  (case a_placed=>k_is)
  (case l_placed=>k_is)
  (case o_placed=>k_is)
  (case k_placed=>k_is)
  (case a_composed=>k_is)
  (case l_composed=>k_is)
  (case o_composed=>k_is)
  (case k_composed=>k_is)
  (case a_Map_names=>k_is)
  (case fn_Map_names=>k_is)
  (case l_Map_names=>k_is)
  (case o_Map_names=>k_is)
  (case k_Map_names=>k_is)
  (case a_Map___contains__=>k_is)
  (case fn_Map___contains__=>k_is)
  (case l_Map___contains__=>k_is)
  (case o_Map___contains__=>k_is)
  (case k_Map___contains__=>k_is)
  (case a_need_alike=>k_is)
  (case l_need_alike=>k_is)
  (case o_need_alike=>k_is)
  (case k_need_alike=>k_is)
  (case a_Map___mul__=>k_is)
  (case fn_Map___mul__=>k_is)
  (case l_Map___mul__=>k_is)
  (case o_Map___mul__=>k_is)
  (case k_Map___mul__=>k_is)
  (case a_Map___eq__=>k_is)
  (case fn_Map___eq__=>k_is)
  (case l_Map___eq__=>k_is)
  (case o_Map___eq__=>k_is)
  (case k_Map___eq__=>k_is)
  (case a__law_box=>k_is)
  (case l__law_box=>k_is)
  (case o__law_box=>k_is)
  (case k__law_box=>k_is)
  (case a__law_take=>k_is)
  (case l__law_take=>k_is)
  (case o__law_take=>k_is)
  (case k__law_take=>k_is)
  (case a__law_fresh=>k_is)
  (case l__law_fresh=>k_is)
  (case o__law_fresh=>k_is)
  (case k__law_fresh=>k_is)
  (case a__law_word=>k_is)
  (case l__law_word=>k_is)
  (case o__law_word=>k_is)
  (case k__law_word=>k_is)
  (case a__law_names=>k_is)
  (case l__law_names=>k_is)
  (case o__law_names=>k_is)
  (case k__law_names=>k_is)
  (case a__law_spread=>k_is)
  (case l__law_spread=>k_is)
  (case o__law_spread=>k_is)
  (case k__law_spread=>k_is)
  (case a__law_row=>k_is)
  (case l__law_row=>k_is)
  (case o__law_row=>k_is)
  (case k__law_row=>k_is)
  (case a__law_rules=>k_is)
  (case l__law_rules=>k_is)
  (case o__law_rules=>k_is)
  (case k__law_rules=>k_is)
  (case a__law_copy=>k_is)
  (case l__law_copy=>k_is)
  (case o__law_copy=>k_is)
  (case k__law_copy=>k_is)
  (case a__law_value=>k_is)
  (case l__law_value=>k_is)
  (case o__law_value=>k_is)
  (case k__law_value=>k_is)
  (case a_value_of=>k_is)
  (case l_value_of=>k_is)
  (case o_value_of=>k_is)
  (case k_value_of=>k_is)
  (case a_Map___call__=>k_is)
  (case fn_Map___call__=>k_is)
  (case l_Map___call__=>k_is)
  (case o_Map___call__=>k_is)
  (case k_Map___call__=>k_is)
  (case a__law_integer=>k_is)
  (case l__law_integer=>k_is)
  (case o__law_integer=>k_is)
  (case k__law_integer=>k_is)
  (case a__law_gives=>k_is)
  (case l__law_gives=>k_is)
  (case o__law_gives=>k_is)
  (case k__law_gives=>k_is)
  (case a__law_drawn_point=>k_is)
  (case l__law_drawn_point=>k_is)
  (case o__law_drawn_point=>k_is)
  (case k__law_drawn_point=>k_is)
  (case a_Map_form=>k_is)
  (case fn_Map_form=>k_is)
  (case l_Map_form=>k_is)
  (case o_Map_form=>k_is)
  (case k_Map_form=>k_is)
  (case a_Map___len__=>k_is)
  (case fn_Map___len__=>k_is)
  (case l_Map___len__=>k_is)
  (case o_Map___len__=>k_is)
  (case k_Map___len__=>k_is)
  (case a__law_below=>k_is)
  (case l__law_below=>k_is)
  (case o__law_below=>k_is)
  (case k__law_below=>k_is)
  (case a__law_flat=>k_is)
  (case l__law_flat=>k_is)
  (case o__law_flat=>k_is)
  (case k__law_flat=>k_is)
  (case a__law_form=>k_is)
  (case l__law_form=>k_is)
  (case o__law_form=>k_is)
  (case k__law_form=>k_is)
  (case a__law_normal=>k_is)
  (case l__law_normal=>k_is)
  (case o__law_normal=>k_is)
  (case k__law_normal=>k_is)
  (case a__law_right=>k_is)
  (case l__law_right=>k_is)
  (case o__law_right=>k_is)
  (case k__law_right=>k_is)
  (case a_same_point=>k_is)
  (case l_same_point=>k_is)
  (case o_same_point=>k_is)
  (case k_same_point=>k_is)
  (case pa_Map_unit=>k_is)
  (case pc_Map_unit=>k_is)
  (case crd_Map=>k_is)
  (case cga_Map=>k_is)
  (case l_Map_unit=>k_is)
  (case o_Map_unit=>k_is)
  (case k_Map_unit=>k_is)
  (case a__law_no_unit=>k_is)
  (case l__law_no_unit=>k_is)
  (case o__law_no_unit=>k_is)
  (case k__law_no_unit=>k_is)
  (case a__law_unit=>k_is)
  (case l__law_unit=>k_is)
  (case o__law_unit=>k_is)
  (case k__law_unit=>k_is)
  (case a__law_neutral=>k_is)
  (case l__law_neutral=>k_is)
  (case o__law_neutral=>k_is)
  (case k__law_neutral=>k_is)
  (case a__law_joined=>k_is)
  (case l__law_joined=>k_is)
  (case o__law_joined=>k_is)
  (case k__law_joined=>k_is)
  (case a__law_row_of=>k_is)
  (case l__law_row_of=>k_is)
  (case o__law_row_of=>k_is)
  (case k__law_row_of=>k_is)
  (case a__law_after=>k_is)
  (case l__law_after=>k_is)
  (case o__law_after=>k_is)
  (case k__law_after=>k_is)
  (case a__law_two=>k_is)
  (case l__law_two=>k_is)
  (case o__law_two=>k_is)
  (case k__law_two=>k_is)
  (case a_law=>k_is)
  (case l_law=>k_is)
  (case o_law=>k_is)
  (case k_law=>k_is)
end LkH15
namespace FD
open PySem L2 PyProof.Rows PySem.Spec
def obE{α:Type}(o:Option (List Cell))(k:List Cell→XO α):XO α:=match o with
 | some cs=>k cs
 | none=>.bad
def moE(n:Nat)(lk:List Nat)(ρ:Env):MO→XO Dt
 | .ok d cs=>if Fu ρ lk (some d) cs=true then .ok d (ρ.set n (some (.mh cs))) else .bad
 | .exc x cs=>if Fu ρ lk none cs=true then .exc x (ρ.set n (some (.mh cs))) else .bad
 | .bad=>.bad
def opE(o:Option Env):SOut:=match o with
 | some ρ=>.ok .nx ρ
 | none=>.bad
def lF{α:Type}(c:Option Cell)(k:List Dt→Option α):Option α:=match c with
 | some (.lst ds)=>k ds
 | _=>none
def lI{α:Type}(c:Option Cell)(k:Addr→List Str→List Dt→Option α):Option α:=match c with
 | some (.ins C ns ds)=>k C ns ds
 | _=>none
def kh(o:Option (List Cell))(k:List Cell→MO):MO:=match o with
 | some cs=>k cs
 | none=>.bad
def ky(n:Nat)(o:SOut):MO:=match o with
 | .ok .nx ρ=>kh (DM n ρ) fun cs=>.ok .non cs
 | .ok (.rt d) ρ=>kh (DM n ρ) fun cs=>.ok d cs
 | .exc x ρ=>kh (DM n ρ) fun cs=>.exc x cs
 | _=>.bad
section
variable {α:Type} {ρ:Env} {n i k:Nat} {lk:List Nat} {cs:List Cell} {f fi:Env→XO Dt} {fx fj:Env→Out Dt} {fl:Env→XO (List Dt)} {ft fu:Env→XO Bool} {g h:Env→SOut} {d x:Dt} {ds:List Dt} {C:Addr} {ns:List Str} {z:Int} {e:Exn}
theorem Jz{k:List Cell→XO α}:obE (some cs) k=k cs:=rfl
theorem Pb:moE n lk ρ (.ok d cs)=if Fu ρ lk (some d) cs=true then .ok d (ρ.set n (some (.mh cs))) else .bad:=rfl
theorem JD:opE (some ρ)=.ok .nx ρ:=rfl
theorem Iu{k:List Dt→Option α}:lF (some (.lst ds)) k=k ds:=rfl
theorem IE{k:Addr→List Str→List Dt→Option α}:lI (some (.ins C ns ds)) k=k C ns ds:=rfl
theorem O7:DM 0 (some (.mh cs) :: ρ)=some cs:=rfl
theorem OV{l:Option Lo}:DM (n + 1) (l :: ρ)=DM n ρ:=by
 unfold DM
 rw [List.getElem?_cons_succ]
theorem T1{f:Env→Out α}:xP f ρ=(f ρ).x ρ:=rfl
theorem Va{gg:Dt→Dt→Option Dt}:x2 f fi gg ρ=(f ρ).bind fun a ρ1=>(fi ρ1).bind fun b ρ2=>(FU (gg a b)).x ρ2:=rfl
theorem Qh{gg:Dt→Option Bool}:cZ f gg ρ=(f ρ).bind fun a ρ1=>(FU (gg a)).x ρ1:=rfl
theorem Px{gg:Dt→Dt→Option Bool}:Xw f fi gg ρ=(f ρ).bind fun a ρ1=>(fi ρ1).bind fun b ρ2=>(FU (gg a b)).x ρ2:=rfl
theorem JQ:L8 ft ρ=(ft ρ).bind fun b ρ1=>.ok (!b) ρ1:=rfl
theorem Mr:Z8 ft fu ρ=(ft ρ).bind fun b ρ1=>if b=true then .ok true ρ1 else fu ρ1:=rfl
theorem JB:Mf f fl ρ=(f ρ).bind fun d ρ1=>(fl ρ1).bind fun ds ρ2=>.ok (d :: ds) ρ2:=rfl
theorem MH:fG fl ρ=(fl ρ).bind fun ds ρ1=>if ds.length≤16777216 then .ok ds ρ1 else .bad:=rfl
theorem Iw{φ:List Dt→List Cell→MO}:Aw n φ fl lk ρ=(fl ρ).bind fun ds ρ1=>obE (DM n ρ1) fun cs=>moE n lk ρ1 (φ ds cs):=rfl
theorem LN:bX n fl lk ρ=(fl ρ).bind fun ds ρ1=>obE (DM n ρ1) fun cs=>if (lk.all (He ρ1) || Dt.DK ds || (Dt.Yy ds && lk.all (Nh ρ1)))=true then .ok (.ad cs.length) (ρ1.set n (some (.mh (cs ++ [.lst ds])))) else .bad:=rfl
theorem Mz:c9 n (.ad k) (.int z) d ρ=(DM n ρ).bind fun cs=>lF (cs[k]?) fun ds=>(ixN ds.length z).map fun j=>ρ.set n (some (.mh (cs.set k (.lst (ds.set j d))))):=rfl
theorem LX{Cs:List Addr}{fd:Str}:bN n Cs fd (.ad k) d ρ=(DM n ρ).bind fun cs=>lI (cs[k]?) fun C ns ds=>if C∈Cs∧ns.length < 1000 then some (ρ.set n (some (.mh (cs.set k (.ins C (putN fd ns) (Rk fd d ns ds)))))) else none:=rfl
theorem JZ:IB n fx ρ=(fx ρ).bind fun d=>FU (Zj (DM n ρ) d):=rfl
theorem LY:Zj (some cs) (.ad k)=(cs[k]?).bind Cell.d:=rfl
theorem Cell.UX:Cell.d (.lst ds)=some (.lst ds):=rfl
theorem JI:Bi i f lk ρ=xE (f ρ) fun d ρ=>.ok .nx ((AL d lk ρ).set i (some (.sh d))):=rfl
theorem JE:RB f lk ρ=xE (f ρ) fun d ρ=>.ok (.rt d) (AL d lk ρ):=rfl
theorem Me:Ll ft g h ρ=xE (ft ρ) fun b ρ=>if b=true then g ρ else h ρ:=rfl
theorem Hb:Ko n fx fj f lk ρ=xE (f ρ) fun d ρ1=>HU (fx (AL d lk ρ1)) (AL d lk ρ1) fun x=>HU (fj (AL d lk ρ1)) (AL d lk ρ1) fun i=>opE (c9 n x i d (AL d lk ρ1)):=rfl
theorem Kb{Cs:List Addr}{fd:Str}:Uy n Cs fd fx f lk ρ=xE (f ρ) fun d ρ1=>HU (fx (AL d lk ρ1)) (AL d lk ρ1) fun x=>opE (bN n Cs fd x d (AL d lk ρ1)):=rfl
theorem Ka{u:Dt→Env→Option Env}:RC u fl lk g ρ=xE (fl ρ) fun ds ρ=>BA u g ds (frz lk ρ):=rfl
theorem G7:Ji fl ρ=(fl ρ).bind fun ds ρ1=>(FU (Yu ds)).x ρ1:=rfl
theorem LC{fa:Env→Out Dt}{f1 f2:Env→Out (Option Int)}:Nq fa f1 f2 ρ=(fa ρ).bind fun a=>(f1 ρ).bind fun lo=>(f2 ρ).bind fun hi=>FU (Wk a lo hi):=rfl
theorem IA{lo hi:Option Int}:Wk (.lst ds) lo hi=some (.lst (cutD ds lo hi)):=rfl
theorem Ih{lo hi:Option Int}:Wk (.fls ds) lo hi=some (.lst (cutD ds lo hi)):=rfl
theorem L6{m:Nat}{b:Env→SOut}:runM m b ds cs=ky m (b (ds.map (fun d=>some (Lo.sh d)) ++ List.replicate (m - ds.length) none ++ [some (.mh cs)])):=rfl
theorem Mx:ky n (.ok (.rt d) ρ)=kh (DM n ρ) fun cs=>.ok d cs:=rfl
theorem Jt{k:List Cell→MO}:kh (some cs) k=k cs:=rfl
end
end FD
namespace FD
open PySem L2 PyProof.Rows PySem.Spec
section
variable {K:PySem.W.Frag} {S:List Nat} {σ:L2.St} {μ μ':Mu} {H H' H0:Hp} {ρ ρ':Env} {A0:Ad} {lk la lb:List Nat} {W:WX} {d e:Dt} {v:V} {cs cs':List Cell} {n k:Nat} {c:Cell} {a:Addr}
theorem StOk.gvC(s:StOk ⟨K,μ⟩ H0 A0 H ρ σ)(e:ρ[n]? = some (some (.mh cs)))(hc:cs[k]? = some c)(hl:c.live=true)(ha:μ.l[k]? = some a):
  StOk ⟨K,μ⟩ H0 A0 H (ρ.set n (some (.mh (cs.set k .gone)))) σ∧(∀ j b,Bj ⟨K,μ⟩ (ρ.set n (some (.mh (cs.set k .gone)))) σ j b→Bj ⟨K,μ⟩ ρ σ j b∧b≠a):=by
 have ho:Bj ⟨K,μ⟩ ρ σ n a:=⟨_,e,k,c,hc,hl,ha⟩
 have h0:=(s.B7 ho).2
 have hi:n < σ.length:=by rw [s.len]; exact (List.getElem?_eq_some_iff.mp e).1
 have hk:k < cs.length:=(List.getElem?_eq_some_iff.mp hc).1
 have hn:n < ρ.length:=(List.getElem?_eq_some_iff.mp e).1
 obtain ⟨nd,hlen,hcs⟩:=s.lo n _ e
 have sp:∀ (j:Nat) (c2:Cell),(cs.set k .gone)[j]? = some c2→c2.live=true→j≠k∧cs[j]? = some c2:=fun j c2 e1 hv=>by
  by_cases hj:k=j
  ·subst hj
   rw [List.getElem?_set_self hk] at e1
   cases e1
   cases hv
  ·rw [List.getElem?_set_ne hj] at e1
   exact ⟨fun z=>hj z.symm,e1⟩
 have own:∀ sv b,CS ⟨K,μ⟩ (.mh (cs.set k .gone)) sv b→CS ⟨K,μ⟩ (.mh cs) sv b∧b≠a:=fun sv b ⟨j,c2,e1,hv,e2⟩=>by
  obtain ⟨h1,h2⟩:=sp j c2 e1 hv
  refine ⟨⟨j,c2,h2,hv,e2⟩,fun z=>?_⟩
  subst z
  exact h1 (nd j k _ c2 c h2 hc hv hl e2 ha)
 have q:=StOk.NR (F:=K) (m:=μ) (m':=μ) (H':=H) s n (some (.mh (cs.set k .gone))) σ[n] (Xt.refl _) (.inl rfl) s.same (fun _ _ q _=>q) (fun l e2 b h=>by
  cases e2
  exact .inl ⟨_,e,(by obtain ⟨⟨j,c2,e1,hv,e2⟩,_⟩:=own _ b h; exact ⟨j,c2,e1,hv,e2⟩)⟩) (fun _ _=>⟨cs,e⟩) fun l e2 A' hA=>by
  cases e2
  have hA':∀ b,A' b→Av ⟨K,μ⟩ A0 ρ σ [] b:=fun b z=>(hA b z).elim (fun z=>z.nil) fun z=>.inr ⟨n,(fun q=>nomatch q),_,e,(by obtain ⟨⟨j,c2,e1,hv,e2⟩,_⟩:=own _ b z; exact ⟨j,c2,e1,hv,e2⟩)⟩
  refine ⟨fun j1 j2 b c1 c2 e1 e2 v1 v2 m1 m2=>nd j1 j2 b c1 c2 (sp j1 c1 e1 v1).2 (sp j2 c2 e2 v2).2 v1 v2 m1 m2,by rw [List.length_set]; exact hlen,fun j c2 b e1 e3=>?_⟩
  by_cases hv:c2.live=true
  ·exact (hcs j c2 b (sp j c2 e1 hv).2 e3).gen (Xt.refl _) (fun _ _ _ q=>q) (fun b z=>.inl (hA' b z)) (fun _ o q=>q) (fun _ z=>z)
  ·cases c2 with
   | gone=>exact trivial
   | _=>exact absurd rfl hv
 rw [C0 (List.getElem?_eq_getElem hi)] at q
 refine ⟨q,fun j b ⟨l,f1,f2⟩=>?_⟩
 by_cases hj:n=j
 ·subst hj
  rw [List.getElem?_set_self hn] at f1
  cases f1
  obtain ⟨q1,q2⟩:=own _ b f2
  exact ⟨⟨_,e,q1⟩,q2⟩
 ·rw [List.getElem?_set_ne hj] at f1
  refine ⟨⟨l,f1,f2⟩,fun z=>?_⟩
  subst z
  exact hj (s.ap n j b ho ⟨l,f1,f2⟩)
theorem Ch.gv(hS:n∈S)(o1:∀ j b,Bj ⟨K,μ⟩ ρ' σ j b→Bj ⟨K,μ⟩ ρ σ j b)(k1:∀ j,j∉S→ρ'[j]? = ρ[j]?):Ch K S σ μ H ρ μ H ρ':=
 ⟨Xt.refl _,fun _ _ e _=>e,k1,fun j a hj h=>.inl ⟨j,hj,o1 j a h⟩,.inl rfl⟩
end
end FD
namespace FD
open PySem L2 PyProof.Rows PySem.Spec
section
variable {X:Cx} {W:WX} {S:List Nat} {p:Pos}
end
theorem Ah.rep{κ:KM}{H:Hp}{A:Ad}{ds:List Dt}{vs:List V}(r:Ah κ H A ds vs):∀ n:Nat,Ah κ H A (List.replicate n ds).flatten (List.replicate n vs).flatten
 | 0=>Ah.nil
 | n + 1=>by
  rw [List.replicate_succ,List.replicate_succ,List.flatten_cons,List.flatten_cons]
  exact Ah.append r (Ah.rep r n)
section
variable {K:PySem.W.Frag} {W:WX} {la lb lk:List Nat}
end
end FD
namespace FD
open PySem L2 PyProof.Rows PySem.Spec
def keyD:Dt→Option Key
 | .int i=>some (.inl i)
 | .str s=>some (.inr s)
 | _=>none
def I0:Key→Dt
 | .inl i=>.int i
 | .inr s=>.str s
theorem IY{κ:KM}{H:Hp}{A:Ad}{d:Dt}{v:V}{k:Key}(h:keyD d=some k)(r:Rep κ H A d v):v=kV k:=by
 cases d <;> try (cases h; done)
 ·cases h; exact r
 ·cases h; exact r
theorem Qz{κ:KM}{H:Hp}{A:Ad}(k:Key):Rep κ H A (I0 k) (kV k):=by
 cases k <;> rfl
def Lp:List Key→List Dt→Key→Dt→List Dt
 | k :: ks,d :: ds,j,x=>(if k=j then x else d) :: Lp ks ds j x
 | _,ds,_,_=>ds
instance decKey (j:Key) (ks:List Key):Decidable (j∈ks):=decidable_of_iff (ks.any (fun x=>decide (x=j))=true) (by
 rw [List.any_eq_true]
 exact ⟨fun ⟨x,m,e⟩=>(of_decide_eq_true e) ▸ m,fun h=>⟨j,h,decide_eq_true rfl⟩⟩)
def Es(ks:List Key)(j:Key):List Key:=if j∈ks then ks else ks ++ [j]
def CW(ks:List Key)(ds:List Dt)(j:Key)(x:Dt):List Dt:=if j∈ks then Lp ks ds j x else ds ++ [x]
def Tf:List Key→List Dt→Key→Option Dt
 | k :: ks,d :: ds,j=>if k=j then some d else Tf ks ds j
 | _,_,_=>none
theorem Kv{kvs:List (Key × V)}{k:Key}{v:V}:(putK kvs k v).map (·.1)=Es (kvs.map (·.1)) k:=by
 unfold putK Es
 by_cases h:k∈kvs.map (·.1)
 ·rw [if_pos h,if_pos]
  ·rw [List.map_map]
   refine List.map_congr_left fun kv _=>?_
   simp only [Function.comp]
   split <;> rfl
  ·obtain ⟨kv,m,e⟩:=List.mem_map.mp h
   exact List.any_eq_true.mpr ⟨kv,m,decide_eq_true e⟩
 ·rw [if_neg h,if_neg]
  ·rw [List.map_append]
   rfl
  ·intro z
   obtain ⟨kv,m,e⟩:=List.any_eq_true.mp z
   exact h (List.mem_map.mpr ⟨kv,m,of_decide_eq_true e⟩)
theorem RQ{κ:KM}{H:Hp}{A:Ad}{k:Key}{v:V}{x:Dt}(rx:Rep κ H A x v):∀ {kvs:List (Key × V)} {ds:List Dt},Ah κ H A ds (kvs.map (·.2))→Ah κ H A (Lp (kvs.map (·.1)) ds k x) ((kvs.map fun kv=>if kv.1=k then (kv.1,v) else kv).map (·.2))
 | [],ds,r=>by
  have:ds=[]:=by
   have:=r.length
   simpa using this.symm
  subst this
  exact Ah.nil
 | kv :: kvs,[],r=>by
  have:=r.length
  simp at this
 | kv :: kvs,d :: ds,r=>by
  unfold Ah at r
  obtain ⟨u,us,e,r1,r2⟩:=r
  rw [List.map_cons] at e
  injection e with e1 e2
  subst e1 e2
  rw [List.map_cons,List.map_cons,List.map_cons]
  unfold Lp
  refine Ah.cons ?_ (RQ rx r2)
  by_cases h:kv.1=k
  ·rw [if_pos h,if_pos h]; exact rx
  ·rw [if_neg h,if_neg h]; exact r1
theorem KG{κ:KM}{H:Hp}{A:Ad}{k:Key}{v:V}{x:Dt}{kvs:List (Key × V)}{ds:List Dt}(rx:Rep κ H A x v)(r:Ah κ H A ds (kvs.map (·.2))):Ah κ H A (CW (kvs.map (·.1)) ds k x) ((putK kvs k v).map (·.2)):=by
 unfold putK CW
 by_cases h:k∈kvs.map (·.1)
 ·rw [if_pos h,if_pos]
  ·exact RQ rx r
  ·obtain ⟨kv,m,e⟩:=List.mem_map.mp h
   exact List.any_eq_true.mpr ⟨kv,m,decide_eq_true e⟩
 ·rw [if_neg h,if_neg]
  ·rw [List.map_append]
   exact Ah.append r (Ah.cons rx Ah.nil)
  ·intro z
   obtain ⟨kv,m,e⟩:=List.any_eq_true.mp z
   exact h (List.mem_map.mpr ⟨kv,m,of_decide_eq_true e⟩)
theorem Nz{kvs:List (Key × V)}{k:Key}:(valV kvs k).isSome=decide (k∈kvs.map (·.1)):=by
 rw [← valV_any]
 by_cases h:k∈kvs.map (·.1)
 ·rw [decide_eq_true h]
  obtain ⟨kv,m,e⟩:=List.mem_map.mp h
  exact List.any_eq_true.mpr ⟨kv,m,decide_eq_true e⟩
 ·rw [decide_eq_false h]
  refine List.any_eq_false.mpr fun kv m=>?_
  simp only [decide_eq_true_eq]
  exact fun e=>h (List.mem_map.mpr ⟨kv,m,e⟩)
theorem bB{κ:KM}{H:Hp}{A:Ad}{k:Key}{d:Dt}:∀ {kvs:List (Key × V)} {ds:List Dt},Ah κ H A ds (kvs.map (·.2))→Tf (kvs.map (·.1)) ds k=some d→∃ v,valV kvs k=some v∧Rep κ H A d v
 | [],ds,r,e=>by cases e
 | kv :: kvs,[],r,e=>by cases e
 | kv :: kvs,d0 :: ds,r,e=>by
  unfold Ah at r
  obtain ⟨u,us,eu,r1,r2⟩:=r
  rw [List.map_cons] at eu e
  injection eu with e1 e2
  subst e1 e2
  unfold Tf at e
  by_cases h:kv.1=k
  ·rw [if_pos h] at e
   cases e
   exact ⟨kv.2,valV_pos h,r1⟩
  ·rw [if_neg h] at e
   obtain ⟨v,h1,h2⟩:=bB r2 e
   exact ⟨v,by rw [valV_neg h]; exact h1,h2⟩
def Gp(i:Nat):Env→SOut:=fun ρ=>.ok .nx (ρ.set i (some (.od [] [])))
def BK(i:Nat)(fk f:Env→Out Dt)(lk:List Nat):Env→SOut:=fun ρ=>HU (f ρ) ρ fun d=>match (AL d lk ρ)[i]? with
 | some (some (.od ks ds))=>HU (fk (AL d lk ρ)) (AL d lk ρ) fun k=>(match keyD k with
  | some k=>if ks.length < 16777216 then .ok .nx ((AL d lk ρ).set i (some (.od (Es ks k) (CW ks ds k d)))) else .bad
  | none=>.bad)
 | _=>.bad
def Dk(a b:Dt):Option Bool:=match b with
 | .dic ks _=>(keyD a).map fun k=>decide (k∈ks)
 | _=>none
def AH(a b:Dt):Option Dt:=match a with
 | .dic ks ds=>(keyD b).bind fun k=>Tf ks ds k
 | _=>none
section
variable {K:PySem.W.Frag} {W:WX} {la lb lk:List Nat}
theorem Z4(i:Nat):IF K W (tAsg tDNewK (gName i)) (Gp i):=by
 intro μ H0 A0 ρ σ H D s h
 intro p hp
 have q:=s.Xr (i:=i) (lk:=[]) (ks:=[]) (ds:=[]) (kvs:=[]) (Same.new hp) hp upd_same rfl Ah.nil
 exact h _ _ _ (Xt.refl _) q
theorem Zv{i:Nat}{te tk:TE}{f fk:Env→Out Dt}(ha:Dx K W te f la)(hk:Dx K W tk fk lb):IF K W (sDPut (tVar i) tk te) (BK i fk f la):=by
 intro μ H0 A0 ρ σ H D s h
 unfold BK at h
 refine ha _ _ _ _ _ _ _ s (AY.st s h fun d _ h2 v H1 s1 r1=>?_)
 obtain ⟨s2,r2⟩:=fzD s s1 r1
 split at h2
 ·rename_i ks ds e2
  obtain ⟨a,kvs,e1,h0,h1,hks,r3⟩:=s2.lo i _ e2
  refine ⟨_,e1,?_⟩
  refine hk _ _ _ _ _ _ _ s2 (AY.st s2 h2 fun k _ h3 w H2 s3 r4=>?_)
  have sg:=s2.grow s3
  split at h3
  ·rename_i k' ek
   split at h3
   ·rename_i hl
    subst hks
    have ew:=IY ek r4
    subst ew
    have h1':=s3 _ _ h1
    refine ⟨a,_,rfl,DPut.k h1' (by rw [List.length_map] at hl; rw [sizeLine_eq]; exact hl),?_⟩
    exact h3 _ _ _ (Xt.refl _) (sg.kD e2 e1 Kv (KG (r2.same s3) (r3.same s3)))
   ·exact False.elim h3
  ·exact False.elim h3
 ·exact False.elim h2
theorem GW{κ:KM}{H:Hp}{A:Ad}{ks:List Key}{ds:List Dt}{v:V}(r:Rep κ H A (.dic ks ds) v):∃ a kvs,v=.ref a∧Rd H a (.dK kvs)∧kvs.map (·.1)=ks∧Ah κ H A ds (kvs.map (·.2)):=by
 unfold Rep at r
 obtain ⟨a,kvs,rfl,_,h1,h2,h3⟩:=r
 exact ⟨a,kvs,rfl,h1,h2,h3⟩
theorem VP{ta tb:TE}{fa fb:Env→Out Dt}(ha:Dx K W ta fa la)(hb:Dx K W tb fb lb):Ry K W (tB (tDNotIn ta tb)) (t2 fa fb (CT Dk)) []:=by
 intro μ H0 A0 ρ σ H Q s h
 refine ha _ _ _ _ _ _ _ s (h.seq fun a ea h1 v1 H1 s1 r1=>?_)
 clear ea
 refine hb _ _ _ _ _ _ _ (s.grow s1) ((h1.grow s1).seq fun b eb h2 v2 H2 s2 r2=>?_)
 clear eb h1
 obtain ⟨k,e,q⟩:=BM h2
 unfold CT at e
 obtain ⟨k0,ek0,rfl⟩:=Option.map_eq_some_iff.mp e
 clear e
 have e:=ek0
 clear ek0
 unfold Dk at e
 split at e
 ·rename_i ks ds
  obtain ⟨k',ek,rfl⟩:=Option.map_eq_some_iff.mp e
  obtain ⟨p,kvs,rfl,h3,rfl,r3⟩:=GW r2
  have e1:=IY ek r1
  subst e1
  refine ⟨p,valV kvs k',rfl,.inl ⟨kvs,k',h3,rfl,rfl⟩,_,rfl,?_⟩
  rw [Nz]
  exact q H2 (s1.trans s2)
 ·cases e
theorem fH{ta tb:TE}{fa fb:Env→Out Dt}(ha:Dx K W ta fa la)(hb:Dx K W tb fb lb):Dx K W (tDGet ta tb) (e2 fa fb AH) (la ++ lb):=by
 intro μ H0 A0 ρ σ H Q s h
 refine ha _ _ _ _ _ _ _ s (h.seq fun a ea h1 v1 H1 s1 r1=>?_)
 clear ea
 refine hb _ _ _ _ _ _ _ (s.grow s1) ((h1.grow s1).seq fun b eb h2 v2 H2 s2 r2=>?_)
 clear eb h1
 obtain ⟨d,e,q⟩:=BM h2
 unfold AH at e
 split at e
 ·rename_i ks ds
  obtain ⟨k',ek,e⟩:=Option.bind_eq_some_iff.mp e
  obtain ⟨p,kvs,rfl,h3,rfl,r3⟩:=GW (r1.same s2)
  have e1:=IY ek r2
  subst e1
  obtain ⟨v,ev,rv⟩:=bB r3 e
  refine ⟨p,v,rfl,.inl ⟨kvs,k',h3,rfl,ev.symm⟩,q _ _ (s1.trans s2) (rv.BC fun _=>aJ)⟩
 ·cases e
theorem Nt{κ:KM}{H:Hp}{A:Ad}:∀ kvs:List (Key × V),Ah κ H A ((kvs.map (·.1)).map I0) (kvs.map fun kv=>kV kv.1)
 | []=>Ah.nil
 | kv :: kvs=>Ah.cons (Qz kv.1) (Nt kvs)
end
section
variable {X:Cx} {W:WX} {a b e:Expr} {fa fb f fk:Env→Out Dt} {la lb lk:List Nat} {pos p p1 p2 p3:Pos} {j:Nat}
theorem u1(hr:Room j X.A):X.A.units + 1 < cLine:=by have:=SN hr; omega
theorem G3(i:Nat){x:Str}{pos':Pos}(hN:X.N.Nodup)(hi:X.N[i]? = some x:=by rfl)(hx:Loc X.env.scope x:=by first | exact Or.inl rfl | exact Or.inr rfl)(hs:swapsWith (.Dict [] [] p) (some (.Name x pos')) pos.line X.env=pure false:=by rfl)
  (hf:X.fn x=true∨X.env.scope.names.lookup x=some .local:=by first | exact .inl rfl | exact .inr rfl | assumption):MQ X W (.Assign [.Name x pos'] (.Dict [] [] p) pos) (Gp i):=
 ⟨_,ps_set hN hi hx pe_dnewK hs hf,Z4 i⟩
theorem Gn(hr:Room j X.A)(i:Nat){x:Str}(h:Bc X W e f lk)(hk:Bc X W a fk la)(hN:X.N[i]? = some x:=by rfl)(hv:Vis X.env.scope x:=by first | exact Or.inl rfl | exact Or.inr (Or.inl rfl) | exact Or.inr (Or.inr rfl))(hd:(x == ("__debug__" : Str))=false:=by decide)
  (hcd:(x == ("__classdict__" : Str))=false:=by decide) (hs:swapsWith e (some (.Subscript (.Name x p1) a p2)) pos.line X.env=pure false:=by rfl):MQ X W (.Assign [.Subscript (.Name x p1) a p2] e pos) (BK i fk f lk):=by
 obtain ⟨t,p,d⟩:=h
 obtain ⟨t',p',d'⟩:=hk
 exact ⟨_,ps_dput (u1 hr) (pe_var hN hv hd hcd) p' p hs,Zv d d'⟩
theorem FA(hr:Room j X.A)(ha:Bc X W a fa la)(hb:Bc X W b fb lb)(hm:behindInMarks .NotIn b=false:=by first | exact nobehind _ (by decide) (by decide) | rfl):Vb X W (.Compare a [.NotIn] [b] pos) (t2 fa fb (CT Dk)) []:=by
 obtain ⟨t,p,d⟩:=ha
 obtain ⟨t',p',d'⟩:=hb
 exact ⟨_,pt_cmp (pc_dnotin (u1 hr) p p') hm,VP d d'⟩
theorem Cd(hr:Room j X.A)(ha:Bc X W a fa la)(hb:Bc X W b fb lb)(hs:NoSl b:=by exact fun _ _=>rfl):Bc X W (.Subscript a b pos) (e2 fa fb AH) (la ++ lb):=by
 obtain ⟨t,p,d⟩:=ha
 obtain ⟨t',p',d'⟩:=hb
 exact ⟨_,pe_dget (u1 hr) p p' hs,fH d d'⟩
end
end FD
namespace FD
open PySem L2 PyProof.Rows PySem.Spec
section
variable {K:PySem.W.Frag} {W:WX} {la lb lc lk:List Nat}
end
section
variable {X:Cx} {W:WX} {a b c e:Expr} {fa fb:Env→Out (List Dt)} {ft:Env→Out Bool} {la lb lc lk:List Nat} {pos p p1 p2 p3:Pos} {j:Nat}
end
end FD
namespace HotX
open PySem PySem.Spec PyProof.Rows
variable {prog:Program} {w:World} {A:Around} {E:Value→Shared→Prop} {s:Shared}
end HotX
namespace L2H
open PySem PySem.Spec PyProof.Rows L2 HotX
end L2H
namespace FD
open PySem L2 L2H PyProof.Rows PySem.Spec
section
variable {K:PySem.W.Frag} {W:WX} {lk la:List Nat}
end
section
variable {X:Cx} {W:WX} {a e tg iter:Expr} {es:List Expr} {f:Env→Out Dt} {fs fl:Env→Out (List Dt)} {g:Env→SOut} {u:Dt→Env→Option Env} {lk la:List Nat} {pos p:Pos} {body:List Stmt} {j:Nat}
end
structure ClH (P:Program) (w:World) (K:PySem.W.Frag) (mg:Str→Option Value) (base:Heap) (x:Str) (k n:Nat) (φ:List Dt→Out Dt):Prop where
 ex:∃ (f:Addr) (fd:FuncData) (ps:List Str),FnH P w K mg base (L2N.CX P w) k f fd ps (DH K n φ)∧mg x=some (.ref f)∧PySem.W.keepIn K (.ref f)=true∧Binds K fd ps []
section
variable {P:Program} {w:World} {K:PySem.W.Frag} {mg:Str→Option Value} {base:Heap}
end
section
variable {X:Cx} {W:WX} {e:Expr} {es:List Expr} {fs:Env→Out (List Dt)} {lk:List Nat} {p pos:Pos} {φ:List Dt→Out Dt}
end
end FD
namespace FD
open PySem L2 PyProof.Rows PySem.Spec
section
variable {X:Cx} {W:WX} {S lk la:List Nat} {e o:Expr} {pos p2 p3:Pos}
end
end FD
namespace FD
open PySem L2 PyProof.Rows PySem.Spec
section
variable {X:Cx} {W:WX} {a b c e tg:Expr} {fa fb fc f:Env→Out Dt} {la lb lc lk:List Nat} {pos:Pos}
end
end FD
namespace FD
open PySem L2 PyProof.Rows PySem.Spec
section
variable {ρ:Env} {n i k:Nat} {d:Dt} {ds:List Dt} {cs:List Cell} {lk:List Nat} {f fa fb fk fx:Env→Out Dt} {fl fl2:Env→Out (List Dt)} {ft:Env→Out Bool} {fi:Env→XO Dt} {fxl:Env→XO (List Dt)} {u:Dt→Env→Option Env} {z:Int}
theorem Jl{g:List Dt→Option (List Dt)}:lB g fl ρ=(fl ρ).bind fun ds=>FU (g ds):=rfl
theorem KL:fJ f ρ=(f ρ).bind fun a=>FU (aD a):=rfl
theorem GS:aD (.lst ds)=some ds.reverse:=rfl
theorem G0:Jx [.lst ds]=some (.tup ds):=rfl
theorem Kh:Gp i ρ=.ok .nx (ρ.set i (some (.od [] []))):=rfl
def odE(o:Option (Option Lo))(k:List Key→List Dt→SOut):SOut:=match o with
 | some (some (.od ks ds))=>k ks ds
 | _=>.bad
theorem Pe{ks:List Key}{k:List Key→List Dt→SOut}:odE (some (some (.od ks ds))) k=k ks ds:=rfl
theorem JR:BK i fk f lk ρ=HU (f ρ) ρ fun d=>odE ((AL d lk ρ)[i]?) fun ks ds=>HU (fk (AL d lk ρ)) (AL d lk ρ) fun k=>HU (FU (keyD k)) ρ fun k=>if ks.length < 16777216 then .ok .nx ((AL d lk ρ).set i (some (.od (Es ks k) (CW ks ds k d)))) else .bad:=by
 unfold BK
 congr 1
 funext d
 generalize (AL d lk ρ)[i]? = o
 cases o with
 | none=>rfl
 | some o=>cases o with
  | none=>rfl
  | some l=>cases l with
   | od ks ds=>
    show HU _ _ _=HU _ _ _
    congr 1
    funext k
    cases keyD k <;> rfl
   | _=>rfl
theorem JU{s:Str}:keyD (.str s)=some (.inr s):=rfl
theorem Kf{ks:List Key}:Dk d (.dic ks ds)=(keyD d).map fun k=>decide (k∈ks):=rfl
theorem L3:isN (.lst ds) .non=some false:=rfl
theorem MN{z y:Int}:QA (.int z) (.int y)=some (!(z == y)):=rfl
theorem bc{vs:List Nat}{t:Env→Out Bool}{src:Env→Out (List Dt)}:Fi u vs t f src lk ρ=(src ρ).bind fun ds=>if ds.length≤16777216 then N5 u t f (BB (frz lk ρ) vs) ds else .bad:=rfl
theorem PH{t:Env→Out Bool}:N5 u t f ρ (d :: ds)=(FU (u d ρ)).bind fun ρ1=>(NP (t ρ1)).bind fun b=>if b=true then (NP (f ρ1)).bind fun y=>(N5 u t f ρ ds).bind fun r=>.ok (y :: r) else N5 u t f ρ ds:=rfl
theorem Oi:AK ρ=.ok true:=rfl
end
theorem LH{α:Type}{i:Nat}{f:Env→Out Dt}{ρ:Env}{e:α→Dt}{g:α→Dt}:∀ {xs:List α},(∀ x∈xs,f (ρ.set i (some (.sh (e x))))=.ok (g x))→N5 (Ai i) AK f ρ (xs.map e)=.ok (xs.map g)
 | [],_=>rfl
 | x :: xs,h=>by
  rw [List.map_cons,PH,G1]
  simp only [BI,Out.Au,Oi,B2,if_true,h x List.mem_cons_self]
  rw [LH fun x hx=>h x (List.mem_cons_of_mem _ hx)]
  rfl
def cn:SOut→Out Dt
 | .ok .nx _=>.ok .non
 | .ok (.rt d) _=>if d.na=true then .ok d else .bad
 | .exc x _=>.exc x
 | _=>.bad
theorem dC{n:Nat}{g:Env→SOut}{ds:List Dt}(h:Dt.HY ds=true):Pu n g ds=cn (g (ds.map (fun d=>some (Lo.sh d)) ++ List.replicate (n - ds.length) none ++ [some (.mh [])])):=by
 unfold Pu
 rw [if_pos h]
 generalize g _=o
 cases o with
 | ok f ρ=>cases f <;> rfl
 | exc x ρ=>rfl
 | bad=>rfl
theorem eS{d:Dt}{ρ:Env}(h:d.na=true):cn (.ok (.rt d) ρ)=.ok d:=if_pos h
theorem AE{n:Nat}{φ:List Dt→Out Dt}{ds:List Dt}(h:ds.length=n):CI n φ ds=φ ds:=if_pos h
theorem E7{n:Nat}{φ:List Dt→List Cell→MO}{ds:List Dt}{cs:List Cell}(h:ds.length=n):Li n φ ds cs=φ ds cs:=if_pos h
end FD
namespace FD
open PySem L2
end FD
namespace FD
open PySem L2 PyProof.Rows PySem.Spec
section
variable {K:PySem.W.Frag} {W:WX} {la lb lz lk:List Nat} {S:List Nat}
end
def Jn:List Dt→Option (List Int)
 | []=>some []
 | .int i :: ds=>(Jn ds).map fun ns=>i :: ns
 | _=>none
theorem Iy:∀ ns:List Int,Jn (ns.map .int)=some ns
 | []=>rfl
 | n :: ns=>by rw [List.map_cons,Jn,Iy ns]; rfl
def XM:Dt→Option (List Dt)
 | .lst ds=>some ds
 | .fls ds=>some ds
 | _=>none
def QY:List Dt→Option Dt
 | [d]=>(XM d).bind fun ds=>(Jn ds).map fun ns=>.int ns.sum
 | _=>none
def QR:List Int→Int
 | []=>0
 | [a]=>a
 | a :: b :: l=>max a (QR (b :: l))
def Pp:List Int→Int
 | []=>0
 | [a]=>a
 | a :: b :: l=>min a (Pp (b :: l))
theorem Ng:∀ {l:List Int},l≠[]→QR l∈l∧∀ y∈l,y≤QR l
 | [],h=>absurd rfl h
 | [a],_=>⟨List.mem_singleton.mpr rfl,fun y hy=>by rw [List.mem_singleton.mp hy]; exact Int.le_refl _⟩
 | a :: b :: l,_=>by
  obtain ⟨h1,h2⟩:=Ng (l:=b :: l) (by simp)
  unfold QR
  constructor
  ·by_cases h:a≤QR (b :: l)
   ·rw [Int.max_eq_right h]; exact List.mem_cons_of_mem _ h1
   ·rw [Int.max_eq_left (by omega)]; exact List.mem_cons_self
  ·intro y hy
   rcases List.mem_cons.mp hy with rfl | hy
   ·omega
   ·have:=h2 y hy; omega
theorem M8:∀ {l:List Int},l≠[]→Pp l∈l∧∀ y∈l,Pp l≤y
 | [],h=>absurd rfl h
 | [a],_=>⟨List.mem_singleton.mpr rfl,fun y hy=>by rw [List.mem_singleton.mp hy]; exact Int.le_refl _⟩
 | a :: b :: l,_=>by
  obtain ⟨h1,h2⟩:=M8 (l:=b :: l) (by simp)
  unfold Pp
  constructor
  ·by_cases h:a≤Pp (b :: l)
   ·rw [Int.min_eq_left h]; exact List.mem_cons_self
   ·rw [Int.min_eq_right (by omega)]; exact List.mem_cons_of_mem _ h1
  ·intro y hy
   rcases List.mem_cons.mp hy with rfl | hy
   ·omega
   ·have:=h2 y hy; omega
def Jo:List Dt→Option Dt
 | [d]=>(XM d).bind fun ds=>(Jn ds).bind fun ns=>if ns=[] then none else some (.int (QR ns))
 | _=>none
def K5:List Dt→Option Dt
 | [d]=>(XM d).bind fun ds=>(Jn ds).bind fun ns=>if ns=[] then none else some (.int (Pp ns))
 | _=>none
section
variable {K:PySem.W.Frag} {κ:KM} {H:Hp} {A:Ad}
theorem Ob:∀ {ds:List Dt} {ns:List Int} {vs:List V},Jn ds=some ns→Ah κ H A ds vs→vs=ns.map V.int
 | [],ns,vs,e,r=>by cases e; unfold Ah at r; rw [r]; rfl
 | d :: ds,ns,vs,e,r=>by
  unfold Ah at r
  obtain ⟨v,us,rfl,r1,r2⟩:=r
  cases d <;> try (cases e; done)
  rename_i i
  unfold Jn at e
  obtain ⟨ms,e',rfl⟩:=Option.map_eq_some_iff.mp e
  rw [Ob e' r2,List.map_cons]
  rw [show v=V.int i from r1]
theorem M0{K:PySem.W.Frag}{μ:Mu}{d:Dt}{ds:List Dt}{v:V}(e:XM d=some ds)(r:Rep ⟨K,μ⟩ H A d v):∃ a us,v=.ref a∧SqL K H a us∧Ah ⟨K,μ⟩ H A ds us:=by
 cases d <;> try (cases e; done)
 ·cases e
  unfold Rep at r
  obtain ⟨a,us,rfl,_,h1,r2⟩:=r
  exact ⟨a,us,rfl,SqL.of h1,r2⟩
 ·cases e
  unfold Rep at r
  obtain ⟨a,us,rfl,h1,r2⟩:=r
  exact ⟨a,us,rfl,SqL.bL h1,r2⟩
theorem eZ:Vc K (rSum K) QY:=by
 intro μ H A ds d vs Q ha r e q
 unfold QY at e
 split at e
 ·obtain ⟨v,rfl,rr⟩:=CO r
  obtain ⟨es,e1,e⟩:=Option.bind_eq_some_iff.mp e
  obtain ⟨ns,e2,rfl⟩:=Option.map_eq_some_iff.mp e
  obtain ⟨a,us,rfl,h1,r2⟩:=M0 e1 rr
  have h2:=Ob e2 r2
  subst h2
  exact ⟨a,ns,rfl,h1,RE.now q rfl⟩
 ·cases e
theorem bF:Vc K (rMax K) Jo:=by
 intro μ H A ds d vs Q ha r e q
 unfold Jo at e
 split at e
 ·obtain ⟨v,rfl,rr⟩:=CO r
  obtain ⟨es,e1,e⟩:=Option.bind_eq_some_iff.mp e
  obtain ⟨ns,e2,e⟩:=Option.bind_eq_some_iff.mp e
  obtain ⟨a,us,rfl,h1,r2⟩:=M0 e1 rr
  have h2:=Ob e2 r2
  subst h2
  by_cases hn:ns=[]
  ·rw [if_pos hn] at e; cases e
  ·rw [if_neg hn] at e
   cases e
   obtain ⟨m1,m2⟩:=Ng hn
   refine ⟨a,ns,rfl,h1,List.length_pos_iff.mpr hn,fun m hm hle=>?_⟩
   have:m=QR ns:=by have:=hle _ m1; have:=m2 _ hm; omega
   rw [this]
   exact RE.now q rfl
 ·cases e
theorem aV:Vc K (rMin K) K5:=by
 intro μ H A ds d vs Q ha r e q
 unfold K5 at e
 split at e
 ·obtain ⟨v,rfl,rr⟩:=CO r
  obtain ⟨es,e1,e⟩:=Option.bind_eq_some_iff.mp e
  obtain ⟨ns,e2,e⟩:=Option.bind_eq_some_iff.mp e
  obtain ⟨a,us,rfl,h1,r2⟩:=M0 e1 rr
  have h2:=Ob e2 r2
  subst h2
  by_cases hn:ns=[]
  ·rw [if_pos hn] at e; cases e
  ·rw [if_neg hn] at e
   cases e
   obtain ⟨m1,m2⟩:=M8 hn
   refine ⟨a,ns,rfl,h1,List.length_pos_iff.mpr hn,fun m hm hle=>?_⟩
   have:m=Pp ns:=by have:=hle _ m1; have:=m2 _ hm; omega
   rw [this]
   exact RE.now q rfl
 ·cases e
end
theorem XJ:∀ ds d,QY ds=some d→d.scal=true:=fun ds d e=>by
 unfold QY at e
 split at e
 ·obtain ⟨es,e1,e⟩:=Option.bind_eq_some_iff.mp e
  obtain ⟨ns,e2,rfl⟩:=Option.map_eq_some_iff.mp e
  rfl
 ·cases e
theorem VB:∀ ds d,Jo ds=some d→d.scal=true:=fun ds d e=>by
 unfold Jo at e
 split at e
 ·obtain ⟨es,e1,e⟩:=Option.bind_eq_some_iff.mp e
  obtain ⟨ns,e2,e⟩:=Option.bind_eq_some_iff.mp e
  split at e
  ·cases e
  ·cases e; rfl
 ·cases e
theorem Wa:∀ ds d,K5 ds=some d→d.scal=true:=fun ds d e=>by
 unfold K5 at e
 split at e
 ·obtain ⟨es,e1,e⟩:=Option.bind_eq_some_iff.mp e
  obtain ⟨ns,e2,e⟩:=Option.bind_eq_some_iff.mp e
  split at e
  ·cases e
  ·cases e; rfl
 ·cases e
section
variable {X:Cx} {W:WX} {e o:Expr} {es:List Expr} {fs:Env→Out (List Dt)} {fk fz:Env→Out Dt} {lk la lb lz S:List Nat} {p apos cpos p1 p2 pos:Pos} {j:Nat}
theorem Z5(hc:X.calm=true)(hg:Gl X "sum")(hm:X.mg "sum" = none)(ha:JL X W [e] fs lk)(he:starEach [e] X.env=(false,eval e X.env) :: starEach [] X.env:=by rfl):Bc X W (.Call (.Name "sum" p) [e] [] pos) (eB QY fs) []:=by
 obtain ⟨ta,pa,da⟩:=ha
 exact ⟨_,pe_callB (cr_sum hc) hg hm (by decide +kernel) pa (by decide) (by decide) he rfl,Gh eZ XJ da⟩
theorem Wv(hc:X.calm=true)(hg:Gl X "max")(hm:X.mg "max" = none)(ha:JL X W [e] fs lk)(he:starEach [e] X.env=(false,eval e X.env) :: starEach [] X.env:=by rfl):Bc X W (.Call (.Name "max" p) [e] [] pos) (eB Jo fs) []:=by
 obtain ⟨ta,pa,da⟩:=ha
 exact ⟨_,pe_callB (cr_max hc) hg hm boot_max pa (by decide) (by decide) he rfl,Gh bF VB da⟩
theorem Wx(hc:X.calm=true)(hg:Gl X "min")(hm:X.mg "min" = none)(ha:JL X W [e] fs lk)(he:starEach [e] X.env=(false,eval e X.env) :: starEach [] X.env:=by rfl):Bc X W (.Call (.Name "min" p) [e] [] pos) (eB K5 fs) []:=by
 obtain ⟨ta,pa,da⟩:=ha
 exact ⟨_,pe_callB (cr_min hc) hg hm boot_min pa (by decide) (by decide) he rfl,Gh aV Wa da⟩
end
end FD
namespace FD
open PySem L2 PyProof.Rows PySem.Spec
section
variable {K:PySem.W.Frag} {W:WX} {la lb lz lk:List Nat} {S:List Nat}
end
section
variable {X:Cx} {W:WX} {e o:Expr} {es:List Expr} {fs:Env→Out (List Dt)} {fk fz:Env→Out Dt} {lk la lb lz S:List Nat} {p apos cpos p1 p2 pos:Pos} {j:Nat} {st:Stmt} {b:Env→SOut}
end
end FD
namespace FD
open PySem L2 PyProof.Rows PySem.Spec
section
variable {K:PySem.W.Frag} {W:WX} {S:List Nat}
end
section
variable {X:Cx} {W:WX} {S:List Nat}
end
end FD
namespace SrtO
open PySem PySem.Spec PyProof.Rows
section
variable {prog:Program} {w:World} {A:Around} {E:Value→Shared→Prop} {s:Shared}
def iP(h:Heap)(v:Value)(ns:List Int):Prop:=ns≠[]∧∃ a o items n,v=.ref a∧h.get? a=some o∧o.cls=.type "tuple"∧o.data=.seq items n∧IntsAre items.toList ns
theorem iP.keeps{h h':Heap}{v:Value}{ns:List Int}(p:iP h v ns)(k:∀ b o,h.get? b=some o→o.cls=.type "tuple"→h'.get? b=some o):iP h' v ns:=by
 obtain ⟨hn,a,o,items,n,e,ho,hc,hd,hi⟩:=p
 exact ⟨hn,a,o,items,n,e,k _ _ ho hc,hc,hd,hi⟩
end
section
variable {α β:Type}
def ins(lt:α→α→Bool)(x:α):List α→List α
 | []=>[x]
 | y :: l=>if lt y x=true then y :: ins lt x l else x :: y :: l
end
end SrtO
namespace L2
open PySem PySem.Spec PyProof.Rows
def TIs(K:PySem.W.Frag)(H:Hp):List V→List (List Int)→Prop
 | [],[]=>True
 | x :: xs,ns :: nss=>ns≠[]∧(∃ t,x=V.ref t∧SqT K H t (ns.map V.int))∧TIs K H xs nss
 | _,_=>False
theorem TIs.mem{K:PySem.W.Frag}{H:Hp}:∀ {xs:List V} {nss:List (List Int)},TIs K H xs nss→∀ x∈xs,∃ ns,ns≠[]∧∃ t,x=V.ref t∧SqT K H t (ns.map V.int)
 | x :: xs,ns :: nss,⟨h1,h2,h3⟩,y,hy=>by
  rcases List.mem_cons.mp hy with rfl | hy
  ·exact ⟨ns,h1,h2⟩
  ·exact TIs.mem h3 y hy
section
variable {X:Cx}
end
end L2
namespace FD
open PySem L2 PyProof.Rows PySem.Spec
section
variable {K:PySem.W.Frag} {κ:KM} {H:Hp} {A:Ad}
end
section
variable {X:Cx} {W:WX} {e:Expr} {fs:Env→Out (List Dt)} {lk:List Nat} {p pos:Pos}
end
end FD
namespace L2
open PySem PySem.Spec PyProof.Rows
def jQ(K:PySem.W.Frag)(neg:Bool):R2:=fun x y H Q=>∃ p xs d ds,y=.ref p∧SqL K H p xs∧Dp K H x d∧DpAll K H xs ds∧SeqAt.shaped d=true∧ds.all SeqAt.shaped=true∧Q (.bl (if neg then !(ds.any fun e=>PyData.eqv e d) else (ds.any fun e=>PyData.eqv e d))) H
open Classical in
noncomputable def V3(h:Heap)(d:PyData)(u:Value):Bool:=if q:∃ e,SeqAt.shaped e=true∧∃ as,PySem.Reads h u e as then PyData.eqv (choose q) d else false
section
variable {X:Cx}
theorem bT{h:Heap}{d e:PyData}{u:Value}{as:List Addr}(hs:SeqAt.shaped e=true)(r:PySem.Reads h u e as):V3 h d u=PyData.eqv e d:=by
 have q:∃ e,SeqAt.shaped e=true∧∃ as,PySem.Reads h u e as:=⟨e,hs,as,r⟩
 unfold V3
 rw [dif_pos q]
 obtain ⟨h1,bs,h2⟩:=Classical.choose_spec q
 rw [SeqAt.Reads.unique _ _ _ _ _ (SeqAt.canLay_of_shaped hs) r h2]
theorem UT{pins:List (Addr × Obj)}{σ:St}{H:Hp}{s:Shared}(I:Inv X pins σ H s)(hu:X.A.units + 66 < cLine){d:PyData}{v:Value}{as:List Addr}(hd:SeqAt.shaped d=true)(rv:PySem.Reads s.heap v d as):
  ∀ {xs:List V} {us:List Value} {ds:List PyData},Vals xs us→DpAll X.K H xs ds→ds.all SeqAt.shaped=true→(∀ u∈us,SeqAt.EqAt X.A.in1 s u v (V3 s.heap d u))∧us.any (V3 s.heap d)=ds.any fun e=>PyData.eqv e d
 | [],_,[],.nil,_,_=>⟨(fun _ h=>nomatch h),rfl⟩
 | x :: xs,u :: us,e :: ds,.cons r t,h,hs=>by
  rw [List.all_cons,Bool.and_eq_true] at hs
  cases h with
  | cons h1 h2=>
   obtain ⟨k1,k2⟩:=UT I hu hd rv t h2 hs.2
   obtain ⟨bs,rb⟩:=Dp.reads I e x u h1 r
   have ee:=bT (d:=d) hs.1 rb
   refine ⟨fun w hw=>?_,by rw [List.any_cons,List.any_cons,ee,k2]⟩
   rcases List.mem_cons.mp hw with rfl | hw
   ·rw [ee]
    exact SeqAt.eqAt_reads e d _ _ _ _ _ _ rb rv (SeqAt.canLay_of_shaped hs.1) (SeqAt.canLay_of_shaped hd) (SeqAt.room_of_shaped (A:=X.A.in1) hs.1 (by show X.A.units + 1 + 64 < cLine; omega))
   ·exact k1 w hw
theorem Yh(hu:X.A.units + 66 < cLine):OpR X (compareOp .NotIn) (jQ X.K true):=by
 intro pins s σ H x y v u Q I rx ry h
 obtain ⟨p,xs,d,ds,rfl,hq,hd,hds,sd,sds,q⟩:=h
 cases ry
 obtain ⟨its,r,pl,hz⟩:=I.list hq
 obtain ⟨as,rv⟩:=Dp.reads I d x v hd rx
 obtain ⟨k1,k2⟩:=UT I hu sd rv r hds sds
 refine SeqAt.notIn_listAt (V3 s.heap d) pl.isList (fun w hw=>k1 w (by simpa using hw)) ⟨.bl _,H,I,rfl,?_⟩
 rw [show its.toArray.any (V3 s.heap d)=its.any (V3 s.heap d) by simp,k2]
 exact q
end
end L2
namespace FD
open PySem L2 PyProof.Rows PySem.Spec
def QZ(a b:Dt):Option Bool:=a.py.bind fun d=>(XM b).bind fun es=>(Dt.OC es).bind fun ds=>if SeqAt.shaped d=true∧ds.all SeqAt.shaped=true then some (ds.any fun e=>PyData.eqv e d) else none
theorem VF{K:PySem.W.Frag}:Ol K (jQ K true) (CT QZ):=by
 intro μ H A a b d x y Q ra rb e q
 obtain ⟨d',e',rfl⟩:=Option.map_eq_some_iff.mp e
 clear e
 unfold QZ at e'
 obtain ⟨p,h1,e'⟩:=Option.bind_eq_some_iff.mp e'
 obtain ⟨es,h2,e'⟩:=Option.bind_eq_some_iff.mp e'
 obtain ⟨ds,h3,e'⟩:=Option.bind_eq_some_iff.mp e'
 obtain ⟨⟨h4,h5⟩,rfl⟩:=Bf e'
 obtain ⟨t,us,rfl,hs,r⟩:=M0 h2 rb
 exact ⟨t,us,p,ds,rfl,hs,Rep.dp a x p h1 ra,Ah.cq es us ds h3 r,h4,h5,q⟩
theorem YX{X:Cx}{j:Nat}(hr:Room j X.A):Cmp X .NotIn (CT QZ):=⟨_,Yh (by have:=hr.un; omega),VF⟩
section
variable {K:PySem.W.Frag} {W:WX} {la lb lk:List Nat}
end
section
variable {X:Cx} {W:WX} {S:List Nat} {a b e:Expr} {fa fb f fk fv:Env→Out Dt} {la lb lk:List Nat} {pos p p1 p2 p3:Pos} {j:Nat}
end
section
variable {X:Cx} {W:WX} {S:List Nat} {a b e:Expr} {fa fb:Env→XO Dt} {fs:Env→XO (List Dt)} {la lb lk:List Nat} {pos p:Pos}
end
end FD
namespace PySem.FX
open PySem PySem.W PySem.Calls PyProof.Rows PySem.Spec
section
variable {prog:Program} {w:World} {A:Around} {E:Value→Shared→Prop} {s:Shared} {K:Frag} {mg:Str→Option Value} {C fI cc cda:Addr} {qual:Str} {params:Arguments} {body:List Stmt} {scope:Scope}
variable {R:Result→Shared→Prop} {base:Heap}
end
end PySem.FX
namespace PySem
end PySem
namespace L2
open PySem PySem.Spec PyProof.Rows
end L2
namespace FD
open PySem L2 PyProof.Rows PySem.Spec
section
variable {K:PySem.W.Frag} {W:WX} {la lb lk:List Nat}
end
section
variable {X:Cx} {W:WX} {e:Expr} {lo hi:Option Expr} {fl fh:Env→Out (Option Int)} {f:Env→Out Dt} {la:List Nat} {p2 pos:Pos}
end
end FD
namespace L2
open PySem PySem.Spec PyProof.Rows
def jJ(a b:PyData):Bool:=PySem.W.dataLe false (fun d:PyData=>d) a b
def R7(a b:V × PyData):Bool:=PySem.W.dataLe false (fun p:V × PyData=>p.2) a b
def TN(K:PySem.W.Frag):List V→Hp→VK→Prop:=fun vs H Q=>∃ (a:Addr) (xs:List V) (ds:List PyData),vs=[V.ref a]∧SqL K H a xs∧DpAll K H xs ds∧PySem.W.AllAlike ds∧PySem.W.Sortable ds∧(∀ d∈ds,d.depth≤60) ∧
 ∀ p,H p=none→Q (.ref p) (upd H p (.lst (((xs.zip ds).mergeSort R7).map (·.1))))
section
variable {X:Cx}
theorem Ta{pins:List (Addr × Obj)}{σ:St}{H:Hp}{s:Shared}(I:Inv X pins σ H s):∀ {xs:List V} {us:List Value} {ds:List PyData},Vals xs us→DpAll X.K H xs ds →
  PySem.W.EachIs (fun (u:Value) (b:V × PyData)=>RelV b.1 u) us (xs.zip ds)∧PySem.W.EachIs (fun (u:Value) (b:V × PyData)=>∃ as,PySem.Reads s.heap u b.2 as) us (xs.zip ds)∧(xs.zip ds).map (·.2)=ds
 | [],_,[],.nil,_=>⟨.nil,.nil,rfl⟩
 | x :: xs,u :: us,d :: ds,.cons r t,.cons h1 h2=>by
  obtain ⟨k1,k2,k3⟩:=Ta I t h2
  obtain ⟨as,ra⟩:=Dp.reads I d x u h1 r
  exact ⟨.cons r k1,.cons ⟨as,ra⟩ k2,by rw [List.zip_cons_cons,List.map_cons,k3]⟩
theorem MV:∀ {us:List Value} {bs:List (V × PyData)},PySem.W.EachIs (fun (u:Value) (b:V × PyData)=>RelV b.1 u) us bs→Vals (bs.map (·.1)) us
 | _,_,.nil=>.nil
 | _,_,.cons r t=>.cons r (MV t)
theorem Vj(hu:X.A.units + 66 < cLine):CallR X (.builtin "sorted") (TN X.K):=by
 intro pins s σ H vs us Q I r h
 obtain ⟨a,xs,ds,rfl,hs,hd,ha,hk,hdep,q⟩:=h
 obtain ⟨its,rv,hl,hz⟩:=I.list hs
 obtain ⟨u,rfl,ru⟩:=vals1 r
 obtain rfl:u=Value.ref a:=ru
 obtain ⟨k1,k2,k3⟩:=Ta I rv hd
 have hlen:=k1.length
 refine PySem.W.sorted_data (bs:=xs.zip ds) (enc:=fun p:V × PyData=>p.2) hl.isList k1 k2 (by rw [k3]; exact ha) (by rw [k3]; exact hk) (by rw [← hlen,← rv.length]; exact hz) (fun b hb=>?_) fun out ho he=>?_
 ·have:b.2∈ds:=by rw [← k3]; exact List.mem_map.mpr ⟨b,hb,rfl⟩
  have:=hdep _ this
  show X.A.units + 2 + b.2.depth < cLine
  omega
 ·have hv:=MV he
  refine ⟨.ref (s.heap.objs.size + 1),upd H (s.heap.objs.size + 1) (.lst (((xs.zip ds).mergeSort R7).map (·.1))),?_,rfl,q _ (I.hok.fresh (Nat.le_succ _))⟩
  obtain ⟨n,hn⟩:∃ n,(sortedAll s.heap its (List.toArray out)).get? (s.heap.objs.size + 1)=some (seqObj "list" out.toArray n):=sortedAll_at s.heap its out.toArray
  refine I.laid (t':=s.toks) (fun b o e=>sortedAll_old e) (Nat.le_succ _) ⟨?_,out,n,hv,hn⟩
  show (((xs.zip ds).mergeSort R7).map (·.1)).length≤sizeLine
  rw [List.length_map,List.length_mergeSort,← hlen,← rv.length]
  exact hz
end
end L2
namespace FD
open PySem L2 PyProof.Rows PySem.Spec
def Lb(ps:List PyData):Bool:=ps.all fun a=>ps.all fun b=>PySem.W.alike a b
def fE:PyData→Bool
 | .tuple (_ :: _)=>true
 | _=>false
def othB:PyData→Bool
 | .none=>false
 | .tuple _=>false
 | _=>true
def ML(ps:List PyData):Bool:=(ps.all fE || ps.all othB) && ps.all fun d=>decide (d.depth≤60)
def S9(a b:Dt × PyData):Bool:=jJ a.2 b.2
def BU:List Dt→Option (List Dt)
 | [d]=>(XM d).bind fun ds=>(Dt.OC ds).bind fun ps=>if Lb ps=true∧ML ps=true then some (((ds.zip ps).mergeSort S9).map (·.1)) else none
 | _=>none
section
variable {K:PySem.W.Frag} {κ:KM} {H:Hp} {A:Ad}
theorem Nd:∀ {ds:List Dt} {vs:List V} {ps:List PyData},Ah κ H A ds vs→PySem.W.EachIs (fun (p:Dt × PyData) (q:V × PyData)=>Rep κ H A p.1 q.1∧p.2=q.2) (ds.zip ps) (vs.zip ps)
 | [],vs,ps,r=>by
  unfold Ah at r
  subst r
  exact .nil
 | d :: ds,vs,[],r=>by
  rw [List.zip_nil_right,List.zip_nil_right]
  exact .nil
 | d :: ds,vs,p :: ps,r=>by
  unfold Ah at r
  obtain ⟨u,us,rfl,r1,r2⟩:=r
  exact .cons ⟨r1,rfl⟩ (Nd r2)
theorem M4:∀ {as:List (Dt × PyData)} {bs:List (V × PyData)},PySem.W.EachIs (fun (p:Dt × PyData) (q:V × PyData)=>Rep κ H A p.1 q.1∧p.2=q.2) as bs→Ah κ H A (as.map (·.1)) (bs.map (·.1))
 | _,_,.nil=>Ah.nil
 | _,_,.cons h t=>Ah.cons h.1 (M4 t)
theorem Ys{K:PySem.W.Frag}:CaL K (TN K) BU:=by
 intro μ H A ds es vs Q r e q
 unfold BU at e
 split at e
 ·obtain ⟨v,rfl,rr⟩:=CO r
  obtain ⟨es',e1,e⟩:=Option.bind_eq_some_iff.mp e
  obtain ⟨ps,e2,e⟩:=Option.bind_eq_some_iff.mp e
  obtain ⟨⟨h1,h2⟩,rfl⟩:=Bf e
  obtain ⟨a,us,rfl,hs,r2⟩:=M0 e1 rr
  unfold ML at h2
  rw [Bool.and_eq_true,Bool.or_eq_true] at h2
  obtain ⟨h3,h4⟩:=h2
  refine ⟨a,us,ps,rfl,hs,Ah.cq es' us ps e2 r2,fun d hd d' hd'=>List.all_eq_true.mp (List.all_eq_true.mp h1 d hd) d' hd',?_,fun d hd=>of_decide_eq_true (List.all_eq_true.mp h4 d hd),fun p hp=>q p _ hp ?_⟩
  ·rcases h3 with h3 | h3
   ·refine .inl fun d hd=>?_
    have:=List.all_eq_true.mp h3 d hd
    cases d <;> try (exact Bool.noConfusion this)
    rename_i l
    cases l with
    | nil=>exact Bool.noConfusion this
    | cons x l=>exact ⟨x,l,rfl⟩
   ·refine .inr fun d hd=>?_
    have:=List.all_eq_true.mp h3 d hd
    cases d <;> first | exact Bool.noConfusion this | exact ⟨(fun z=>nomatch z),(fun xs z=>nomatch z)⟩
  ·have ee:=Nd (ps:=ps) r2
   exact M4 (PySem.W.sort_each (r:=S9) (s:=R7) ee fun p hp q hq=>by
    have a1:=(ee.zip p hp).2
    have a2:=(ee.zip q hq).2
    show jJ p.1.2 q.1.2=jJ p.2.2 q.2.2
    rw [a1,a2])
 ·cases e
end
section
variable {X:Cx} {W:WX} {e:Expr} {fs:Env→Out (List Dt)} {lk:List Nat} {p pos:Pos} {j:Nat}
theorem F5(hr:Room j X.A)(hg:Gl X "sorted")(hm:X.mg "sorted" = none)(ha:JL X W [e] fs lk)(he:starEach [e] X.env=(false,eval e X.env) :: starEach [] X.env:=by rfl):Za X W (.Call (.Name "sorted" p) [e] [] pos) (lB BU fs) lk:=by
 obtain ⟨ta,pa,da⟩:=ha
 exact ⟨_,pe_callB (Vj (by have:=hr.un; omega)) hg hm PyProof.Rows.boot_sorted pa (by decide) (by decide) he rfl,fS Ys da⟩
end
end FD
namespace L2
open PySem PySem.Spec PyProof.Rows
def i7:CmpOp→PyData→PyData→Bool
 | .Lt,a,b=>PySem.W.dataLt a b
 | .Gt,a,b=>PySem.W.dataLt b a
 | .LtE,a,b=>!PySem.W.dataLt b a
 | _,a,b=>!PySem.W.dataLt a b
def kc:CmpOp→Bool
 | .Lt=>true
 | .Gt=>true
 | .LtE=>true
 | .GtE=>true
 | _=>false
def jU(K:PySem.W.Frag)(op:CmpOp):R2:=fun x y H Q=>∃ d e,Dp K H x d∧Dp K H y e∧PySem.W.alike d e=true∧d≠.none∧d.depth≤60∧Q (.bl (i7 op d e)) H
section
variable {X:Cx}
theorem h8{op:CmpOp}(ho:kc op=true)(hu:X.A.units + 66 < cLine):OpR X (compareOp op) (jU X.K op):=by
 intro pins s σ H x y v u Q I rx ry h
 obtain ⟨d,e,hd,he,ha,hn,hdep,q⟩:=h
 obtain ⟨as,ra⟩:=Dp.reads I d x v hd rx
 obtain ⟨bs,rb⟩:=Dp.reads I e y u he ry
 have hb:X.A.units + min d.depth e.depth < cLine:=by omega
 cases op <;> first
  | exact Bool.noConfusion ho
  | exact PySem.W.lt_data ra rb ha hn hb ⟨.bl _,H,I,rfl,q⟩
  | exact PySem.W.gt_data ra rb ha hn hb ⟨.bl _,H,I,rfl,q⟩
  | exact PySem.W.le_data ra rb ha hn hb ⟨.bl _,H,I,rfl,q⟩
  | exact PySem.W.ge_data ra rb ha hn hb ⟨.bl _,H,I,rfl,q⟩
end
end L2
namespace FD
open PySem L2 PyProof.Rows PySem.Spec
def k9:PyData→Bool
 | .none=>true
 | _=>false
def KW(op:CmpOp)(a b:Dt):Option Bool:=a.py.bind fun d=>b.py.bind fun e=>if PySem.W.alike d e=true∧k9 d=false∧d.depth≤60 then some (i7 op d e) else none
theorem c8{K:PySem.W.Frag}{op:CmpOp}:Ol K (jU K op) (KW op):=by
 intro μ H A a b d x y Q ra rb e q
 unfold KW at e
 obtain ⟨p,h1,e⟩:=Option.bind_eq_some_iff.mp e
 obtain ⟨p',h2,e⟩:=Option.bind_eq_some_iff.mp e
 obtain ⟨⟨h3,h4,h5⟩,rfl⟩:=Bf e
 exact ⟨p,p',Rep.dp a x p h1 ra,Rep.dp b y p' h2 rb,h3,(fun z=>by rw [z] at h4; exact Bool.noConfusion h4),h5,q⟩
theorem bu{X:Cx}{j:Nat}{op:CmpOp}(hr:Room j X.A)(ho:kc op=true:=by rfl):Cmp X op (KW op):=⟨_,h8 ho (by have:=hr.un; omega),c8⟩
def gZ(i j:Int):Bool:=decide ((-(2 ^ 64) < i∧i < 2 ^ 64)∨(-(2 ^ 64) < j∧j < 2 ^ 64))
end FD
namespace FD
open PySem L2 PyProof.Rows PySem.Spec
def Hj(i j:Int):Bool:=Wb i j || gZ i j
abbrev fW(i j:Int):Prop:=i.natAbs.log2 + j.natAbs.log2 < 1000000∨CMul i j
theorem ez{X:Cx}:OpR X (binaryOp .Mult) (rI fW fun i j=>.int (i * j)):=opI fun i j _ _ _ _ _ hc q=>by
 rcases hc with hc | hc
 ·exact mul_int q (CMulW.ok hc)
 ·exact mul_int q hc.ok
theorem iJ{i j:Int}(h:Hj i j=true):fW i j:=by
 unfold Hj at h
 rw [Bool.or_eq_true] at h
 rcases h with h | h
 ·exact .inl (of_decide_eq_true h)
 ·unfold gZ at h
  have h2:=of_decide_eq_true h
  exact .inr h2
section
variable {X:Cx} {W:WX} {S:List Nat} {a b:Expr} {pos:Pos} {fa fb:Env→Out Dt} {ga gb:Env→XO Dt} {la lb:List Nat}
theorem Hx(ha:Bc X W a fa la)(hb:Bc X W b fb lb):Bc X W (.BinOp a .Mult b pos) (e2 fa fb (gI Hj (· * ·))) []:=by
 obtain ⟨ta,pa,da⟩:=ha
 obtain ⟨tb,pb,db⟩:=hb
 exact ⟨_,pe_op ez pa pb,Nn (Ts fun i j h=>iJ h) L7 da db⟩
end
end FD
namespace LiI
open PySem L2 PySem.Spec PyProof.Rows
def rItD:V→Hp→VK→Prop:=fun v H Q=>∃ (a:Addr) (es:List (Key × V)),v=.ref a∧Rd H a (.dK es) ∧
 ∀ (G:Hp) (q:Addr) (us:List Addr),(∀ c u,H c=some u→G c=some u)→H q=none→(∀ u∈us,H u=none)→q∉us→G q=some (.lst (us.map V.ref))→Paired (fun (u:Addr) (z:Key × V)=>G u=some (.tup [kV z.1,z.2])) us es→Q (.ref q) G
def kE(t:TE):TE:=fun σ H Q=>t σ H fun v G=>rItD v G Q
theorem g6{X:Cx}{a:Expr}{t:TE}{q1 q2 q3 q4:Pos}(ca:X.calm=true)(pa:PE X a t)(gl:Gl X "list")(no:X.mg "list" = none)(b1:attributeBase a "items" X.env (eval a X.env)=eval a X.env:=by rfl)(ln:(q2.endLine == q3.line)=true:=by rfl)
  (st:starEach [.Call (.Attribute a "items" q2) [] [] q3] X.env=(false,eval (.Call (.Attribute a "items" q2) [] [] q3) X.env) :: starEach [] X.env:=by rfl):
  PE X (.Call (.Name "list" q1) [.Call (.Attribute a "items" q2) [] [] q3] [] q4) (kE t):=by
 constructor
 intro pins s σ H Q I go
 refine wpAny_Call_Name_kw (ld_blt I gl no PyProof.Rows.boot_list ?_)
 refine PyProof.Rows.callWith_type1 ?_ st rfl
 rw [st]
 show wpAny _ _ (spliced ((false,eval (.Call (.Attribute a "items" q2) [] [] q3) X.env) :: backTo q4 (starEach [] X.env))) _ _ s
 refine Calls.spliced_cons (wpAny_Call_method (T:="dict") (id:="dict.items") b1 rfl ln F.plainAttrs_dict F.slot_dict_items F.type_dict_items (thn (pa.run pins s σ H _ I go) fun u s1 ⟨v,G,J,rv,d,es,ev,rd,k⟩=>?_))
 subst ev
 obtain rfl:u=Value.ref d:=rv
 obtain ⟨w1,w2,vs,kv,od⟩:=rd.ok J.hok
 obtain ⟨ep,OF⟩:=od.dictAt
 have ll:es.length=vs.length:=Paired.length kv
 have J2:Inv X pins σ G { s1 with heap:=s1.heap.push { cls:=.type "dict_items",data:=.fields #[.ref d] } }:=J.kept (t':=s1.toks) fun b ob e=>Heap.get?_push_of_some _ e
 refine ⟨od.typeIs,od.mapOf.noDict,?_⟩
 show wpAny _ _ (callWith q3 (.builtin "dict.items") [.ref d] [] []) _ X.xe s1
 refine method_meetsIn F.slot_dict_items F.entry_dict_items rfl (PySem.evalArgs_none ⟨rfl,od.typeIs,F.args_dict_items_1 _,_,meets_dict_items (mixKind X.prog X.w) d w2,⟨vs,od⟩,Calls.spliced_nil ?_⟩)
 refine PySem.W.kdx_call (knd:=mixKind X.prog X.w) (kvs:=vs) (ep:=ep) (J.ok.hd ca) ⟨_,Heap.get?_push_size _ rfl,rfl,rfl⟩ (OF.push _) (by omega) fun h' tk acc c bs keep hS hl hG hacc=>?_
 obtain ⟨G',k1,k2,k3,k4,k5,k6,J3⟩:=items_laid (tk:=tk) J2 w1 kv keep hS hl hG hacc
 exact ⟨.ref _,G',J3,rfl,k G' _ _ k1 k2 k3 k4 k5 k6⟩
end LiI
namespace FD
open PySem L2 PyProof.Rows PySem.Spec
def dI(ks:List Key)(ds:List Dt):List Dt:=(ks.zip ds).map fun z=>.tup [I0 z.1,z.2]
def Vn:Dt→Option (List Dt)
 | .dic ks ds=>some (dI ks ds)
 | _=>none
def J9(f:Env→Out Dt):Env→Out (List Dt):=fun ρ=>(f ρ).bind fun a=>FU (Vn a)
theorem Na{f:Env→Out Dt}{ρ:Env}:J9 f ρ=(f ρ).bind fun a=>FU (Vn a):=rfl
theorem IT{κ:KM}{G:Hp}{A:Ad}:∀ {kvs:List (Key × V)} {ds:List Dt} {us:List Addr},Ah κ G A ds (kvs.map (·.2))→Paired (fun (u:Addr) (z:Key × V)=>G u=some (.tup [kV z.1,z.2])) us kvs→(∀ u∈us,¬ A u)→Ah κ G A (dI (kvs.map (·.1)) ds) (us.map V.ref)
 | [],ds,[],r,.nil,_=>by
  unfold dI
  rw [List.map_nil,List.zip_nil_left]
  exact Ah.nil
 | z :: kvs,[],us,r,_,_=>by
  unfold Ah at r
  exact nomatch r
 | z :: kvs,d :: ds,u :: us,r,.cons h t,hA=>by
  unfold Ah at r
  obtain ⟨v,vs,e,r1,r2⟩:=r
  rw [List.map_cons] at e
  obtain ⟨ev,es⟩:=List.cons.inj e
  subst ev es
  show Ah κ G A (Dt.tup [I0 z.1,d] :: dI (kvs.map (·.1)) ds) (V.ref u :: us.map V.ref)
  refine Ah.cons ?_ (IT r2 t fun u hu=>hA u (List.mem_cons_of_mem _ hu))
  unfold Rep
  exact ⟨u,_,rfl,.inl ⟨hA u List.mem_cons_self,h⟩,Ah.cons (Qz _) (Ah.cons r1 Ah.nil)⟩
section
variable {K:PySem.W.Frag} {W:WX} {la:List Nat}
theorem XU{t:TE}{f:Env→Out Dt}(ha:Dx K W t f la):aS K W (LiI.kE t) (J9 f) la:=by
 intro μ H0 A0 ρ σ H Q s h
 refine ha _ _ _ _ _ _ _ s (h.seq fun a ea h1 v1 H1 s1 r1=>?_)
 clear ea
 obtain ⟨ds,e,q⟩:=BM h1
 cases a <;> try (cases e; done)
 rename_i ks es
 cases e
 obtain ⟨a,kvs,rfl,g1,g2,g3⟩:=GW r1
 subst g2
 refine ⟨a,kvs,rfl,g1,fun G p us keep hp hu hpu hG hpair=>?_⟩
 refine q p _ G (s1.trans keep) (s1.free hp) hG (IT ((Ah.fresh hp _ _ g3).same keep) hpair fun u hu'=>?_)
 rintro (z | z)
 ·exact s.NB (s1.free (hu u hu')) z
 ·exact hpu (z ▸ hu')
end
theorem Qb{X:Cx}{W:WX}{a:Expr}{f:Env→Out Dt}{la:List Nat}{q1 q2 q3 q4:Pos}(ca:X.calm=true)(ha:Bc X W a f la)(gl:Gl X "list")(no:X.mg "list" = none)(b1:attributeBase a "items" X.env (eval a X.env)=eval a X.env:=by rfl)(ln:(q2.endLine == q3.line)=true:=by rfl)
  (st:starEach [.Call (.Attribute a "items" q2) [] [] q3] X.env=(false,eval (.Call (.Attribute a "items" q2) [] [] q3) X.env) :: starEach [] X.env:=by rfl):Za X W (.Call (.Name "list" q1) [.Call (.Attribute a "items" q2) [] [] q3] [] q4) (J9 f) la:=by
 obtain ⟨t,p,d⟩:=ha
 exact ⟨_,LiI.g6 ca p gl no b1 ln st,XU d⟩
end FD
namespace FD
open PySem L2 PyProof.Rows PySem.Spec
def I9:List Dt→Option Dt
 | [.dic ks ds]=>some (.dic ks ds)
 | _=>none
theorem aO{K:PySem.W.Frag}:Vc K (fun xs H Q=>∃ (a:Addr) (kvs:List (Key × V)),xs=[.ref a]∧Rd H a (.dK kvs)∧∀ p,H p=none→Q (.ref p) (upd H p (.dK kvs))) I9:=by
 intro μ H A ds d vs Q ha r e q
 unfold I9 at e
 split at e
 ·rename_i ks es
  cases e
  obtain ⟨v,rfl,rr⟩:=CO r
  obtain ⟨a,kvs,rfl,g1,g2,g3⟩:=GW rr
  refine ⟨a,kvs,rfl,g1,fun p hp=>q _ _ (Same.new hp) ?_⟩
  unfold Rep
  exact ⟨p,kvs,rfl,fun z=>by have:=ha p z; rw [hp] at this; exact this,.inl upd_same,g2,g3.same (Same.new hp)⟩
 ·cases e
def Lm(i:Nat)(f:Env→Out (List Dt))(lk:List Nat):Env→SOut:=fun ρ=>HU (f ρ) ρ fun ds=>match ds with
 | [.dic ks es]=>if Dt.DK es=true then .ok .nx (ρ.set i (some (.od ks es))) else .ok .nx ((frz lk ρ).set i (some (.od ks es)))
 | _=>.bad
section
variable {K:PySem.W.Frag} {W:WX} {la lb lk:List Nat}
theorem Wc{ta:TA}{f:Env→Out (List Dt)}{i:Nat}(ha:RR K W ta f la):IF K W (tAsg (tCB (fun xs H Q=>∃ (a:Addr) (kvs:List (Key × V)),xs=[V.ref a]∧Rd H a (.dK kvs)∧∀ p,H p=none→Q (V.ref p) (upd H p (.dK kvs))) ta) (gName i)) (Lm i f la):=by
 intro μ H0 A0 ρ σ H D s h
 unfold Lm at h
 refine ha _ _ _ _ _ _ _ s (AY.st s h fun ds _ h2 vs H1 s1 r1=>?_)
 split at h2
 ·rename_i ks es _
  obtain ⟨v,rfl,rr⟩:=CO r1
  obtain ⟨a,kvs,rfl,g1,g2,g3⟩:=GW rr
  refine ⟨a,kvs,rfl,g1,fun p hp=>?_⟩
  have hS:Same H (upd H1 p (.dK kvs)):=s1.trans (Same.new hp)
  split at h2
  ·rename_i hpu
   have sg:=s.grow s1
   have r4:=Ah.pure (A':=Av ⟨K,μ⟩ A0 ρ σ []) (fun a z=>sg.Dj z) es _ hpu g3
   exact h2 _ _ _ (Xt.refl _) (s.Xr (i:=i) (lk:=[]) (p:=p) hS (s1.free hp) upd_same g2 ((Ah.fresh hp _ _ r4).same (Same.new hp)))
  ·exact h2 _ _ _ (Xt.refl _) (s.Xr (i:=i) (lk:=la) (p:=p) hS (s1.free hp) upd_same g2 ((Ah.fresh hp _ _ g3).same (Same.new hp)))
 ·exact False.elim h2
end
section
variable {X:Cx} {W:WX} {S:List Nat} {e:Expr} {fs:Env→Out (List Dt)} {gs:Env→XO (List Dt)} {lk:List Nat} {p pos:Pos}
theorem aQ(hg:Gl X "dict")(hm:X.mg "dict" = none)(ha:JL X W [e] fs lk)(he:starEach [e] X.env=(false,eval e X.env) :: starEach [] X.env:=by rfl):Bc X W (.Call (.Name "dict" p) [e] [] pos) (eB I9 fs) lk:=by
 obtain ⟨ta,pa,da⟩:=ha
 exact ⟨_,pe_callTy call_dictD hg hm (by decide +kernel) pa (by decide) (by decide) he rfl,WD aO da⟩
theorem ZA(i:Nat){x:Str}{pos':Pos}(hg:Gl X "dict")(hm:X.mg "dict" = none)(ha:JL X W [e] fs lk)(hN:X.N.Nodup)(he:starEach [e] X.env=(false,eval e X.env) :: starEach [] X.env:=by rfl)(hi:X.N[i]? = some x:=by rfl)(hx:Loc X.env.scope x:=by first | exact Or.inl rfl | exact Or.inr rfl)
  (hs:swapsWith (.Call (.Name "dict" p) [e] [] pos) (some (.Name x pos')) pos.line X.env=pure false:=by rfl) (hf:X.fn x=true∨X.env.scope.names.lookup x=some .local:=by first | exact .inl rfl | exact .inr rfl | assumption) {q:Pos} (hs2:swapsWith (.Call (.Name "dict" p) [e] [] pos) (some (.Name x pos')) q.line X.env=pure false:=by rfl):MQ X W (.Assign [.Name x pos'] (.Call (.Name "dict" p) [e] [] pos) q) (Lm i fs lk):=by
 obtain ⟨ta,pa,da⟩:=ha
 exact ⟨_,ps_set hN hi hx (pe_callTy call_dictD hg hm (by decide +kernel) pa (by decide) (by decide) he rfl) hs2 hf,Wc da⟩
end
end FD
namespace FD
open PySem L2 PyProof.Rows PySem.Spec
section
variable {K:PySem.W.Frag} {W:WX} {S:List Nat} {la lb lk:List Nat}
theorem X4:Dx K W tDNewK (eC (.dic [] [])) []:=by
 intro μ H0 A0 ρ σ H Q s h
 intro p hp
 refine h _ _ (Same.new hp) ?_
 unfold Rep
 exact ⟨p,[],rfl,s.NB hp,.inl upd_same,rfl,Ah.nil⟩
end
section
variable {X:Cx} {W:WX} {S:List Nat} {a e:Expr} {fs:Env→XO (List Dt)} {lk:List Nat} {p pos:Pos}
theorem ay:Bc X W (.Dict [] [] p) (eC (.dic [] [])) []:=⟨_,pe_dnewK,X4⟩
end
end FD
namespace FD
open PySem L2 L2N PyProof.Rows PySem.Spec
def g5(K:PySem.W.Frag)(c:Value)(i:Nat)(ts:Addr→Value→Option Addr→TS)(D:Ends):WX:=fun cls d σ H=>
 PySem.W.exmOne K cls c=some true∧∀ a,H a=none→ts a cls d { nx:=fun σ' H'=>D.nx (σ'.set i none) H',rt:=D.rt,bk:=fun σ' H'=>D.bk (σ'.set i none) H',ct:=fun σ' H'=>D.ct (σ'.set i none) H' } (σ.set i (some (.ref a))) H
section
variable {X:Cx} {x n:Str} {c:Value} {i:Nat} {body suite:List Stmt} {b₀:Stmt} {more:List ExceptHandler} {np pos pos':Pos} {tb:WX→TS} {ts:Addr→Value→Option Addr→TS}
theorem Vp(hs:X.stack=X.env :: X.outer)(hf:X.env.frame=some X.env.locals)(hN:X.N.Nodup)(hi:X.N[i]? = some n)(hln:X.env.kindOf n=some .local)(hc:Names X x c)
  (hb:∀ (W:WX) (pn:List (Addr × Obj)) (xe:Value→Shared→Prop),L2N.Takes (X.tr pn xe) W→PassesOwn (model X.prog X.w) X.A X.env xe→PSs (X.tr pn xe) body (tb W))
  (hsu:∀ (a:Addr) (oe:Obj) (cls:Value) (d:Option Addr) (pn:List (Addr × Obj)),L2N.Zn cls d oe→(∃ vs,oe.data=.fields vs)→PSs (X.suite a ((a,oe) :: pn)) (b₀ :: suite) (ts a cls d)):
  PS X (.Try body (.ExceptHandler (some (.Name x np)) (some n) (b₀ :: suite) pos' :: more) [] [] pos) (fun D σ H=>tb (g5 X.K c i ts D) D σ H):=by
 refine ⟨fun pins s σ H D I h=>?_⟩
 have ok:=I.ok
 have hfr:X.A.frames=some (X.env :: X.outer):=by rw [ok.frames,hs]
 have hloc:Loc X.env.scope n:=.inl hln
 refine wpAny_Try_except ?_
 refine wpAny_mono ((hb (g5 X.K c i ts D) (X.pn ++ pins) (fun e s₁=>wpAny (model X.prog X.w) X.A (noteFrame e X.env) (fun _ s₂=>wpAny (model X.prog X.w) X.A (setFlight e none) (fun _ s₃=>
  wpAny (model X.prog X.w) X.A (handleBy e X.env (.ExceptHandler (some (.Name x np)) (some n) (b₀ :: suite) pos' :: more)) (SP X pins D) X.xe s₃) X.xe s₂) X.xe s₁) (fun u s' xx=>?_) PassesOwn.looking).run [] s σ H D (I.toTry _) h) (fun f s1 hsp=>?_) (fun e s1 he=>he)
 case refine_2=>
  cases f with
  | ret u=>
   obtain ⟨v,σ',H',J',r,q⟩:=hsp
   exact ⟨v,σ',H',J'.ofTry ok,r,q⟩
  | next=>
   obtain ⟨σ',H',J',q⟩:=hsp
   exact wpAny_execs_nil ⟨σ',H',J'.ofTry ok,q⟩
  | brk=>
   obtain ⟨σ',H',J',q⟩:=hsp
   exact ⟨σ',H',J'.ofTry ok,q⟩
  | cont=>
   obtain ⟨σ',H',J',q⟩:=hsp
   exact ⟨σ',H',J'.ofTry ok,q⟩
 obtain ⟨a,B,sI,pins',σ',H',cls,d,rfl,J',nb,up,sky,na,os,ag,hb1,hyes⟩:=xx
 have J:Inv X pins σ' H' sI:=J'.ofTry ok
 have sky':Sky B (X.env :: X.outer) a (Zn cls d) X.env.locals s'.heap:=by rw [← hs]; exact sky
 show wpAny (model X.prog X.w) X.A (noteFrame (.ref a) X.env) _ _ _
 refine Sky.land Zn.steady hfr hf sky' fun h3 fl3 up3=>?_
 have J3:Inv X pins σ' H' { s' with heap:=h3 }:=J.landed nb fl3.1 (up.trans up3) os ag
 obtain ⟨oe3,vs3,he3,hz3,hd3⟩:=fl3.there
 have nfr:a∉frs (X.env :: X.outer):=fun hm=>by
  obtain ⟨_,o',e',hnf⟩:=fl3.2.2.1.mem hm
  rw [he3] at e'; cases e'
  exact hnf _ hd3
 have nL:a≠X.env.locals:=fun z=>nfr (List.mem_filterMap.mpr ⟨X.env,List.mem_cons_self,by rw [hf,z]⟩)
 have nF:a∉X.fs:=fun hm=>by
  obtain ⟨e,he,q⟩:=List.mem_filterMap.mp hm
  exact nfr (List.mem_filterMap.mpr ⟨e,List.mem_cons_of_mem _ he,q⟩)
 have S3:=J3.suite he3 hd3 na nL nF
 refine wpAny_handleBy_cons (codeAny_handlers_test ?_) (by intro q; cases q)
 have LT:PySem.W.Looks (model X.prog X.w) h3 (typeOf (.ref a)) cls:=fun A Q E s k q=>wpAny_typeOf_ref (k _ _ he3) (by rw [hz3.1]; exact q)
 have LM:=PySem.W.exm_one (M:=model X.prog X.w) (J3.kIn) LT hb1
 have test:∀ {Q:Value→Shared→Prop} {E:Value→Shared→Prop},Q c { s' with heap:=h3 }→wpAny (model X.prog X.w) (X.A.mark (some (.ref a))) (eval (.Name x np) X.env) Q E { s' with heap:=h3 }:=fun {Q E} q=>by
  obtain ⟨hg,hdbg,hm | ⟨hm,hv,hnn⟩⟩:=hc
  ·exact ld_glob (X:=X.suite a ((a,oe3) :: (X.pn ++ pins))) S3 hg hm q hdbg
  ·exact ld_blt (X:=X.suite a ((a,oe3) :: (X.pn ++ pins))) S3 hg hm hv q hnn hdbg
 refine test (LM.here ?_)
 refine codeAny_handlers_suite_as ?_
 refine HandSPX.lands_againZ fl3 fun h4 fl4 up4=>?_
 have J4:Inv X pins σ' H' { s' with heap:=h4 }:=J.landed nb fl4.1 ((up.trans up3).trans up4) os ag
 obtain ⟨oe4,vs4,he4,hz4,hd4⟩:=fl4.there
 have S4:=J4.suite he4 hd4 na nL nF
 refine store_ok (X:=X.suite a ((a,oe4) :: (X.pn ++ pins))) (v:=.ref a) S4 hN hi hloc rfl (fun s5 S5=>?_) (.inr hln)
 refine wpAny_mono ((hsu a oe4 cls d (X.pn ++ pins) hz4 ⟨_,hd4⟩).run [] s5 _ H' _ S5 (hyes a na)) (fun f s6 hsp=>?_) (fun _ _ z=>False.elim z)
 have end_:∀ {σ6:L2.St} {H6:Hp} {Q:Shared→Prop},Inv (X.suite a ((a,oe4) :: (X.pn ++ pins))) [] σ6 H6 s6→(∀ s7,Inv X pins (σ6.set i none) H6 s7→Q s7) →
   wpAny (model X.prog X.w) X.A (do bindName X.env n .none; unbindBehindTheSuite X.env n pos') (fun _ s7=>Q s7) X.xe s6:=fun {σ6 H6 Q} S6 hq=>gone_ok (S6.unsuite ok) hN hi hln hq
 cases f with
 | ret u=>
  obtain ⟨v6,σ6,H6,S6,r6,q6⟩:=hsp
  exact end_ S6 fun s7 J7=>⟨_,_,_,J7,r6,q6⟩
 | next=>
  obtain ⟨σ6,H6,S6,q6⟩:=hsp
  exact end_ S6 fun s7 J7=>⟨_,_,J7,q6⟩
 | brk=>
  obtain ⟨σ6,H6,S6,q6⟩:=hsp
  exact end_ S6 fun s7 J7=>⟨_,_,J7,q6⟩
 | cont=>
  obtain ⟨σ6,H6,S6,q6⟩:=hsp
  exact end_ S6 fun s7 J7=>⟨_,_,J7,q6⟩
end
noncomputable def IW(K:PySem.W.Frag)(Ds:List Addr)(c:Value)(i:Nat)(g:Env→SOut)(h:Addr→Option Addr→Addr→Env→SOut):Env→SOut:=fun ρ=>match g ρ with
 | .exc x ρ1=>if PySem.W.exmOne K (.ref x.cls) c=some true then (if x.cls∈Ds then II x fun a d=>unset i (h a d x.cls (ρ1.set i (some (.sh (Wl x a d))))) else .bad) else .bad
 | o=>o
theorem Wf{K:PySem.W.Frag}{Ds:List Addr}{c:Value}{i:Nat}{g:Env→SOut}{h:Addr→Option Addr→Addr→Env→SOut}{ρ:Env}:IW K Ds c i g h ρ=match g ρ with
 | .exc x ρ1=>if PySem.W.exmOne K (.ref x.cls) c=some true then (if x.cls∈Ds then II x fun a d=>unset i (h a d x.cls (ρ1.set i (some (.sh (Wl x a d))))) else .bad) else .bad
 | o=>o:=rfl
section
variable {K:PySem.W.Frag} {κ:KM} {μ:Mu} {W:WX} {H0 H H1:Hp} {A0:Ad} {ρ:Env} {σ:L2.St} {lk la lb:List Nat}
theorem Vs{Ds:List Addr}{c:Value}{i:Nat}{g:Env→SOut}{h:Addr→Option Addr→Addr→Env→SOut}:
  IF K W (fun D σ H=>cS K (g5 K c i (fun a cls d D σ H=>∃ C:Addr,cls=.ref C∧C∈Ds∧cS K W0 (h a d C) D σ H) D) g D σ H) (IW K Ds c i g h):=by
 intro μ H0 A0 ρ σ H D s hq
 refine ⟨μ,H0,A0,ρ,s,?_⟩
 unfold IW at hq
 cases e:g ρ with
 | ok f ρ1=>
  rw [e] at hq
  cases f <;> exact hq
 | bad=>rw [e] at hq; exact hq
 | exc x ρ1=>
  rw [e] at hq
  intro μ1 σ1 H1 cv od y1 s1 ex
  obtain ⟨rfl,ex2⟩:=id ex
  simp only at hq
  by_cases em:PySem.W.exmOne K (.ref x.cls) c=some true
  case neg=>rw [if_neg em] at hq; exact False.elim hq
  rw [if_pos em] at hq
  by_cases hD:x.cls∈Ds
  case neg=>rw [if_neg hD] at hq; exact False.elim hq
  rw [if_pos hD] at hq
  refine ⟨em,fun a na=>⟨x.cls,rfl,hD,μ1,H0,A0,ρ1.set i (some (.sh (Wl x a od))),s1.put (cj (fun a z=>s1.Dj z) ex),?_⟩⟩
  have hb:II x (fun a d=>unset i (h a d x.cls (ρ1.set i (some (.sh (Wl x a d))))))≠.bad:=fun z=>by
   rw [z] at hq
   exact hq
  have ea:=XG hb a od (fun z=>by
   subst z
   exact ex2.2)
  rw [← ea] at hq
  cases eo:h a od x.cls (ρ1.set i (some (.sh (Wl x a od)))) with
  | ok f ρ2=>
   rw [eo] at hq
   cases f with
   | nx=>exact fun μ' σ' H' y s'=>hq μ' _ _ (y1.trans y) (s'.gone i)
   | bk=>exact fun μ' σ' H' y s'=>hq μ' _ _ (y1.trans y) (s'.gone i)
   | ct=>exact fun μ' σ' H' y s'=>hq μ' _ _ (y1.trans y) (s'.gone i)
   | rt d=>exact fun μ' v σ' H' y s' r=>hq μ' v _ H' (y1.trans y) (s'.gone i) (r.BC fun a z=>z.imp id fun ⟨j,n,l,e,ho⟩=>⟨j,n,df e ho⟩)
  | exc y ρ2=>rw [eo] at hq; exact False.elim hq
  | bad=>rw [eo] at hq; exact False.elim hq
end
section
variable {X:Cx} {W:WX} {x n:Str} {c:Value} {i:Nat} {body suite:List Stmt} {b₀:Stmt} {more:List ExceptHandler} {np pos pos':Pos} {g:Env→SOut}
theorem bf{h:Addr→Option Addr→Addr→Env→SOut}(i:Nat)(Ds:List Addr)(hs:X.stack=X.env :: X.outer)(hf:X.env.frame=some X.env.locals)(hN:X.N.Nodup)(hc:Names X x c)
  (hb:∀ (W:WX) (pn:List (Addr × Obj)) (xe:Value→Shared→Prop),L2N.Takes (X.tr pn xe) W→PassesOwn (model X.prog X.w) X.A X.env xe→Hn (X.tr pn xe) W body g)
  (hsu:∀ (a:Addr) (oe:Obj) (C:Addr) (d:Option Addr) (pn:List (Addr × Obj)),C∈Ds→L2N.Zn (.ref C) d oe→(∃ vs,oe.data=.fields vs)→Hn (X.suite a ((a,oe) :: pn)) W0 (b₀ :: suite) (h a d C)) (hi:X.N[i]? = some n:=by rfl) (hln:X.env.kindOf n=some .local:=by rfl):
  MQ X W (.Try body (.ExceptHandler (some (.Name x np)) (some n) (b₀ :: suite) pos' :: more) [] [] pos) (IW X.K Ds c i g h):=
 ⟨_,Vp (tb:=fun W=>cS X.K W g) hs hf hN hi hln hc (fun W pn xe tk hp=>(hb W pn xe tk hp).Lu) fun a oe cls d pn hz hfl=>⟨fun pins s σ H D I ⟨C,e,hD,hq⟩=>by
  subst e
  exact (hsu a oe C d pn hD hz hfl).Lu.run pins s σ H D I hq⟩,Vs⟩
end
end FD
namespace FD
open PySem L2 PyProof.Rows PySem.Spec
def VG:List V→Hp→VK→Prop:=fun xs H Q=>∃ (a:Addr) (kvs:List (Key × V)),xs=[.ref a]∧Rd H a (.dK kvs)∧∀ q,H q=none→Q (.ref q) (upd H q (.lst (kvs.map fun kv=>kV kv.1)))
theorem P8{X:Cx}(hc:X.calm=true):CallR X (.type "list") VG:=by
 intro pins s σ H xs us Q I r h
 obtain ⟨p,kvs,e,hk,q⟩:=h
 subst e
 obtain ⟨u,eu,rx⟩:=vals1 r
 subst eu
 obtain rfl:u=Value.ref p:=rx
 obtain ⟨z,lo,vs,rk,hd⟩:=hk.ok I.hok
 obtain ⟨ep,hat⟩:=hd.dictAt
 have hl:kvs.length=vs.length:=Paired.length rk
 refine PySem.W.kdl_call (PySem.W.kdl_dict (knd:=mixKind X.prog X.w) (kvs:=vs) (ep:=ep) lo) (I.ok.hd hc) hat (by rw [← hl]; exact z) fun h' tk acc' c' hkeep hS hacc=>?_
 refine ⟨.ref s.heap.objs.size,upd H s.heap.objs.size (.lst (kvs.map fun kv=>kV kv.1)),I.laid hkeep (Nat.le_refl _) (show ObjOk X.prog X.w _ _ _ (.lst (kvs.map fun kv=>kV kv.1)) from ⟨by rw [List.length_map]; exact z,acc'.toList,c',?_,by rw [Array.toArray_toList]; exact hS⟩),rfl,q _ (I.hok.fresh (Nat.le_refl _))⟩
 have el:acc'.toList.length=acc'.size:=by simp
 refine vals_of_at (by rw [List.length_map,el,hacc.1,hl]) fun j x w h1 h2=>?_
 obtain ⟨k,y,hky,hi⟩:=hacc.2 j w (by rw [← Array.getElem?_toList]; exact h2)
 have e1:(kvs.map (·.1))[j]? = some k:=by rw [KV.keys rk,List.getElem?_map,hky] <;> rfl
 have e2:(kvs.map fun kv=>kV kv.1)[j]? = some (kV k):=by
  rw [show (kvs.map fun kv=>kV kv.1)=(kvs.map (·.1)).map kV from by rw [List.map_map] <;> rfl,List.getElem?_map,e1] <;> rfl
 rw [e2] at h1
 cases h1
 exact keyIs_rel hi
def BR:List Dt→Option (List Dt)
 | [.dic ks _]=>some (ks.map I0)
 | _=>none
theorem ZP{K:PySem.W.Frag}:CaL K VG BR:=by
 intro μ H A ds es vs Q r e q
 unfold BR at e
 split at e
 ·cases e
  obtain ⟨v,rfl,rr⟩:=CO r
  obtain ⟨a,kvs,rfl,g1,g2,g3⟩:=GW rr
  subst g2
  exact ⟨a,kvs,rfl,g1,fun p hp=>q p _ hp (Nt kvs)⟩
 ·cases e
section
variable {X:Cx} {W:WX} {e:Expr} {fs:Env→Out (List Dt)} {lk:List Nat} {p pos:Pos}
theorem GZ(hc:X.calm=true)(hg:Gl X "list")(hm:X.mg "list" = none)(ha:JL X W [e] fs lk)(he:starEach [e] X.env=(false,eval e X.env) :: starEach [] X.env:=by rfl):Za X W (.Call (.Name "list" p) [e] [] pos) (lB BR fs) lk:=by
 obtain ⟨ta,pa,da⟩:=ha
 exact ⟨_,pe_callTy (P8 hc) hg hm boot_list pa (by decide) (by decide) he rfl,fS ZP da⟩
end
end FD
namespace FD
open PySem L2 L2N PyProof.Rows PySem.Spec
abbrev MCl:=Value × Option Nat × (Addr→Value→Option Addr→TS)
inductive HdsA (X:Cx):List ExceptHandler→List MCl→Prop
 | nil:HdsA X [] []
 | plain {x:Str} {c:Value} {ts:Addr→Value→Option Addr→TS} {b₀:Stmt} {suite:List Stmt} {np pos':Pos} {hds:List ExceptHandler} {l:List MCl} (hc:Names X x c)
   (hsu:∀ (a:Addr) (oe:Obj) (cls:Value) (d:Option Addr) (pn:List (Addr × Obj)),L2N.Zn cls d oe→(∃ vs,oe.data=.fields vs)→PSs (X.suite a ((a,oe) :: pn)) (b₀ :: suite) (ts a cls d)) (r:HdsA X hds l):
   HdsA X (.ExceptHandler (some (.Name x np)) none (b₀ :: suite) pos' :: hds) ((c,none,ts) :: l)
 | named {x n:Str} {c:Value} {i:Nat} {ts:Addr→Value→Option Addr→TS} {b₀:Stmt} {suite:List Stmt} {np pos':Pos} {hds:List ExceptHandler} {l:List MCl} (hi:X.N[i]? = some n) (hln:X.env.kindOf n=some .local) (hc:Names X x c)
   (hsu:∀ (a:Addr) (oe:Obj) (cls:Value) (d:Option Addr) (pn:List (Addr × Obj)),L2N.Zn cls d oe→(∃ vs,oe.data=.fields vs)→PSs (X.suite a ((a,oe) :: pn)) (b₀ :: suite) (ts a cls d)) (r:HdsA X hds l):
   HdsA X (.ExceptHandler (some (.Name x np)) (some n) (b₀ :: suite) pos' :: hds) ((c,some i,ts) :: l)
section
variable {X:Cx} {body:List Stmt} {h₀:ExceptHandler} {hds:List ExceptHandler} {l:List MCl} {pos:Pos} {tb:WX→TS} {Wout:WX}
end
abbrev lM:=Value × Option Nat × (Addr→Option Addr→Addr→Env→SOut)
def tsA(K:PySem.W.Frag)(Ds:List Addr)(h:Addr→Option Addr→Addr→Env→SOut):Addr→Value→Option Addr→TS:=fun a cls d D σ H=>∃ C:Addr,cls=.ref C∧C∈Ds∧cS K W0 (h a d C) D σ H
section
variable {K:PySem.W.Frag} {κ:KM} {μ:Mu} {W:WX} {H0 H H1:Hp} {A0:Ad} {ρ:Env} {σ:L2.St} {lk la lb:List Nat}
end
inductive HdsF (X:Cx) (Ds:List Addr):List ExceptHandler→List lM→Prop
 | nil:HdsF X Ds [] []
 | plain {x:Str} {c:Value} {h:Addr→Option Addr→Addr→Env→SOut} {b₀:Stmt} {suite:List Stmt} {np pos':Pos} {hds:List ExceptHandler} {l:List lM} (hc:Names X x c)
   (hsu:∀ (a:Addr) (oe:Obj) (C:Addr) (d:Option Addr) (pn:List (Addr × Obj)),C∈Ds→L2N.Zn (.ref C) d oe→(∃ vs,oe.data=.fields vs)→Hn (X.suite a ((a,oe) :: pn)) W0 (b₀ :: suite) (h a d C)) (r:HdsF X Ds hds l):
   HdsF X Ds (.ExceptHandler (some (.Name x np)) none (b₀ :: suite) pos' :: hds) ((c,none,h) :: l)
 | named {x n:Str} {c:Value} (i:Nat) {h:Addr→Option Addr→Addr→Env→SOut} {b₀:Stmt} {suite:List Stmt} {np pos':Pos} {hds:List ExceptHandler} {l:List lM} (hc:Names X x c)
   (hsu:∀ (a:Addr) (oe:Obj) (C:Addr) (d:Option Addr) (pn:List (Addr × Obj)),C∈Ds→L2N.Zn (.ref C) d oe→(∃ vs,oe.data=.fields vs)→Hn (X.suite a ((a,oe) :: pn)) W0 (b₀ :: suite) (h a d C)) (r:HdsF X Ds hds l)
   (hi:X.N[i]? = some n:=by rfl) (hln:X.env.kindOf n=some .local:=by rfl):
   HdsF X Ds (.ExceptHandler (some (.Name x np)) (some n) (b₀ :: suite) pos' :: hds) ((c,some i,h) :: l)
section
variable {X:Cx} {W:WX} {body:List Stmt} {h₀:ExceptHandler} {hds:List ExceptHandler} {l:List lM} {pos:Pos} {g:Env→SOut}
theorem HdsF.up{Ds:List Addr}:∀ {hds:List ExceptHandler} {l:List lM},HdsF X Ds hds l→HdsA X hds (l.map fun q=>(q.1,q.2.1,tsA X.K Ds q.2.2))
 | _,_,.nil=>.nil
 | _,_,.plain hc hsu r=>.plain hc (fun a oe cls d pn hz hfl=>⟨fun pins s σ H D I ⟨C,e,hD,hq⟩=>by
   subst e
   exact (hsu a oe C d pn hD hz hfl).Lu.run pins s σ H D I hq⟩) r.up
 | _,_,.named i hc hsu r hi hln=>.named hi hln hc (fun a oe cls d pn hz hfl=>⟨fun pins s σ H D I ⟨C,e,hD,hq⟩=>by
   subst e
   exact (hsu a oe C d pn hD hz hfl).Lu.run pins s σ H D I hq⟩) r.up
end
end FD
namespace FD
open PySem L2 PyProof.Rows PySem.Spec
def NT:Env→SOut:=fun _=>.bad
section
variable {X:Cx} {W:WX} {S:List Nat} {st:Stmt} {e o:Expr} {es:List Expr} {fs:Env→Out (List Dt)} {fo:Env→Out Dt} {lk la:List Nat} {p pos apos:Pos} {C:Addr} {φ:List Dt→List Cell→MO} {ψ:List Dt→Out Dt}
theorem Mw:MQ X W st NT:=⟨fun _ _ _=>False,⟨fun _ _ _ _ _ _ h=>h.elim⟩,fun _ _ _ _ _ _ _ _ h=>h⟩
structure PrC (P:Program) (w:World) (K:PySem.W.Frag) (mg:Str→Option Value) (base:Heap) (k:Nat) (C:Addr) (f:Str) (ψ:List Dt→Out Dt):Prop where
 cls:Cls K C
 ex:∃ p g,PropOf K C f p g∧FnR P w K mg base (L2N.CX P w) k g (Np K ψ)
structure CmC (P:Program) (w:World) (K:PySem.W.Frag) (mg:Str→Option Value) (base:Heap) (k:Nat) (C:Addr) (m:Str) (ψ:List Dt→Out Dt):Prop where
 ex:∃ mc p g,ClX.CRead K C mc∧ClX.CMet K C mc m p g∧FnR P w K mg base (L2N.CX P w) k g (Np K ψ)
end
end FD
namespace PySem
end PySem
namespace L2
open PySem PySem.Spec PyProof.Rows
end L2
namespace FD
open PySem L2 PyProof.Rows PySem.Spec
section
variable {K:PySem.W.Frag} {κ:KM} {W:WX} {la lk:List Nat} {A0:Ad}
end
end FD
namespace FD
open PySem L2 PyProof.Rows PySem.Spec
section
variable {K:PySem.W.Frag} {κ:KM} {μ:Mu} {W:WX} {H0 H H1:Hp} {A0:Ad} {ρ:Env} {σ:L2.St} {lk la lb:List Nat}
end
section
variable {X:Cx} {W:WX} {a b e:Expr} {es:List Expr} {fs:Env→Out (List Dt)} {fa fb f fk:Env→Out Dt} {la lb lk ls:List Nat} {pos p p1 p2 p3:Pos} {j:Nat}
end
def XB(u:Dt→Env→Option Env)(t:Env→Out Bool)(fk fv:Env→Out Dt)(ρ:Env):List Dt→List Key→List Dt→Out (List Key × List Dt)
 | [],ks,vs=>.ok (ks,vs)
 | d :: ds,ks,vs=>(FU (u d ρ)).bind fun ρ1=>(NP (t ρ1)).bind fun b=>if b=true then (NP (fk ρ1)).bind fun k=>(NP (fv ρ1)).bind fun v=>(FU (keyD k)).bind fun k=>XB u t fk fv ρ ds (Es ks k) (CW ks vs k v) else XB u t fk fv ρ ds ks vs
def jK(u:Dt→Env→Option Env)(vs:List Nat)(t:Env→Out Bool)(fk fv:Env→Out Dt)(src:Env→Out (List Dt))(lk:List Nat):Env→Out Dt:=fun ρ=>(src ρ).bind fun ds=>if ds.length≤16777216 then (XB u t fk fv (BB (frz lk ρ) vs) ds [] []).bind fun p=>.ok (.dic p.1 p.2) else .bad
theorem M7{u:Dt→Env→Option Env}{vs:List Nat}{t:Env→Out Bool}{fk fv:Env→Out Dt}{src:Env→Out (List Dt)}{lk:List Nat}{ρ:Env}:jK u vs t fk fv src lk ρ=(src ρ).bind fun ds=>if ds.length≤16777216 then (XB u t fk fv (BB (frz lk ρ) vs) ds [] []).bind fun p=>.ok (.dic p.1 p.2) else .bad:=rfl
theorem MW{u:Dt→Env→Option Env}{t:Env→Out Bool}{fk fv:Env→Out Dt}{ρ:Env}:∀ {ds:List Dt} {ks:List Key} {vs:List Dt} {x:Exn},XB u t fk fv ρ ds ks vs=.exc x→False
 | [],_,_,x,z=>by cases z
 | d :: ds,ks,vs,x,z=>by
  unfold XB at z
  cases e1:u d ρ with
  | none=>rw [e1] at z; cases z
  | some ρ1=>
   rw [e1] at z
   simp only [BI,Out.Au] at z
   cases e2:t ρ1 with
   | exc x'=>rw [e2] at z; cases z
   | bad=>rw [e2] at z; cases z
   | ok b=>
    rw [e2] at z
    simp only [B2,Out.Au] at z
    split at z
    ·cases e3:fk ρ1 with
     | exc x'=>rw [e3] at z; cases z
     | bad=>rw [e3] at z; cases z
     | ok k=>
      rw [e3] at z
      simp only [B2,Out.Au] at z
      cases e4:fv ρ1 with
      | exc x'=>rw [e4] at z; cases z
      | bad=>rw [e4] at z; cases z
      | ok v=>
       rw [e4] at z
       simp only [B2,Out.Au] at z
       cases e5:keyD k with
       | none=>rw [e5] at z; cases z
       | some k=>
        rw [e5] at z
        exact MW z
    ·exact MW z
section
variable {K:PySem.W.Frag} {κ:KM} {μ:Mu} {W:WX} {H0 H H1 H2:Hp} {A A0:Ad} {ρ:Env} {σ:L2.St} {lk la lb:List Nat}
theorem StOk.ja(s:StOk κ H0 A0 H ρ σ){D:Addr}{acc:List (Key × V)}(hD:H D=none)(hs:Same H H2)(h2:H2 D=some (.dK acc)):StOk κ (Bs κ H2 ρ σ []) (fun a=>A0 a∨a=D) H2 ρ σ:=by
 have nD:¬ Ow κ ρ σ [] D:=fun ⟨i,_,h⟩=>by
  obtain ⟨⟨o,e⟩,_⟩:=s.B7 h
  rw [hD] at e
  cases e
 have av:∀ a,Av κ (fun a=>A0 a∨a=D) ρ σ [] a→Av κ A0 ρ σ [] a∨H a=none:=by
  rintro a ((z | z) | z)
  ·exact .inl (.inl z)
  ·rw [z]
   exact .inr hD
  ·exact .inl (.inr z)
 have nA:∀ a,A0 a→¬ Ow κ ρ σ [] a:=fun a z q=>by
  have q1:=s.a0 a z
  rw [s.RH q] at q1
  exact q1
 refine ⟨IJ,fun a z=>?_,s.len,fun i l e=>ER.gen (F:=κ.K) (m:=κ.mu) (m':=κ.mu) (Xt.refl _) (fun _=>rfl) (fun a o _ q=>hs a o q) av (fun a _ o q=>hs a o q) (fun a ho _=>aI ⟨i,(fun z=>nomatch z),l,e,ho⟩) (s.lo i l e),s.ap,s.one,s.nm⟩
 rcases z with z | z
 ·rw [Io (nA a z)]
  exact (s.grow hs).Dj (lk:=[]) (.inl z)
 ·subst z
  rw [Io nD,h2]
  exact True.intro
theorem iy{wi:TI}{g:TG}{tt:TT}{tk te:TE}{u:Dt→Env→Option Env}{S vs lt lq le:List Nat}{t:Env→Out Bool}{fk f:Env→Out Dt}{src:Env→Out (List Dt)}(hi:fN K W wi src lk)(hg:Y9 K g u S)(hS:∀ i∈S,i∈vs)
  (ht:Ry K W0 tt t lt) (hk:Dx K W0 tk fk lq) (he:Dx K W0 te f le):Dx K W (tDc wi g tt tk te vs) (jK u vs t fk f src lk) (lk ++ (le ++ vs)):=by
 intro μ H0 A0 ρ σ H Q s h
 refine hi _ _ _ _ _ _ _ s (h.seq fun ds _ h1 J H1 s1 w=>?_)
 intro D hD
 split at h1
 case isFalse=>exact False.elim h1
 rename_i hz
 obtain ⟨sB,hB⟩:=s.rebase s1 lk
 have sW:=sB.Ub vs
 cases eo:XB u t fk f (BB (frz lk ρ) vs) ds [] [] with
 | exc x=>exact (MW eo).elim
 | bad=>rw [eo] at h1; exact False.elim h1
 | ok res=>
  rw [eo] at h1
  simp only [Out.Au] at h1
  have avs:∀ a,Av ⟨K,μ⟩ A0 ρ σ (lk ++ (le ++ vs)) a→Av ⟨K,μ⟩ A0 (frz lk ρ) σ (le ++ vs) a:=by
   rintro a (z | ⟨i,n,l,e,ho⟩)
   ·exact .inl z
   ·refine .inr ⟨i,fun q=>n (List.mem_append_right _ q),l,?_,ho⟩
    exact Jb.frz_ne (fun q=>n (List.mem_append_left _ q)) e
  refine ⟨fun i m H'=>m + i=ds.length∧Same H1 H'∧∃ (acc:List (Key × V)) (vals:List Dt),H' D=some (.dK acc)∧acc.length≤i∧XB u t fk f (BB (frz lk ρ) vs) (ds.drop i) (acc.map (·.1)) vals=.ok res ∧
   Ah ⟨K,μ⟩ H' (fun a=>Av ⟨K,μ⟩ A0 ρ σ (lk ++ (le ++ vs)) a∨a=D) vals (acc.map (·.2)),⟨ds.length,by omega,Same.new hD,[],[],upd_same,Nat.le_refl 0,eo,Ah.nil⟩,?_⟩
  rintro i m H2 ⟨hm,s2,acc,vals,hacc,hlen,e,racc⟩
  have sBW:Same (Bs ⟨K,μ⟩ H1 ρ σ lk) H2:=IJ.trans s2
  by_cases hlt:i < ds.length
  ·have hd:ds.drop i=ds[i] :: ds.drop (i + 1):=List.drop_eq_getElem_cons hlt
   rw [hd] at e
   unfold XB at e
   refine .inr ⟨w.go i H2 sBW hlt,fun H'=>Same H1 H'∧∃ (acc:List (Key × V)) (vals:List Dt),H' D=some (.dK acc)∧acc.length≤i + 1∧XB u t fk f (BB (frz lk ρ) vs) (ds.drop (i + 1)) (acc.map (·.1)) vals=.ok res ∧
    Ah ⟨K,μ⟩ H' (fun a=>Av ⟨K,μ⟩ A0 ρ σ (lk ++ (le ++ vs)) a∨a=D) vals (acc.map (·.2)),fun H' q=>⟨m - 1,by omega,by omega,q⟩,fun x H3 y=>?_⟩
   obtain ⟨s3,r3⟩:=w.yld i H2 x H3 ds[i] sBW y (List.getElem?_eq_getElem hlt)
   have hacc3:=s3 _ _ hacc
   have sD:=sW.ja hD (s2.trans s3) hacc3
   cases eu:u ds[i] (BB (frz lk ρ) vs) with
   | none=>rw [eu] at e; cases e
   | some ρ1=>
    rw [eu] at e
    simp only [BI,Out.Au] at e
    refine hg _ _ _ _ _ _ _ _ _ _ sD (r3 _ fun a z=>?_) eu fun σ4 s4 m4 o4=>⟨?_,?_⟩
    ·rcases z with (z | z) | ⟨j,n,z⟩
     ·refine ⟨.inl z,?_⟩
      have q4:=(s.grow s1).Dj (lk:=[]) (a:=a) (.inl z)
      cases q5:H1 a with
      | none=>rw [q5] at q4; exact False.elim q4
      | some o'=>
       intro z2
       have q6:=s2 a o' q5
       rw [z2] at q6
       cases q6
     ·subst z
      refine ⟨.inr ?_,by rw [hacc]; intro z; cases z⟩
      show Bs ⟨K,μ⟩ H1 ρ σ lk a=none
      unfold Bs
      split
      ·rfl
      ·exact hD
     ·obtain ⟨z1,_⟩:=Zx z
      refine ⟨.inr (sB.B7 z1).2,?_⟩
      obtain ⟨⟨o,q⟩,_⟩:=sB.B7 z1
      rw [s2 _ _ q]
      intro z
      cases z
    ·have wl:wipe σ4 vs=wipe (wipe σ vs) vs:=by
      apply List.ext_getElem?
      intro j
      by_cases hj:j∈vs
      ·by_cases hl:j < σ4.length
       ·rw [Jb.wipe_mem hj hl,Jb.wipe_mem hj (by rw [← o4.1]; exact hl)]
       ·rw [List.getElem?_eq_none (by rw [wipe_length]; omega),List.getElem?_eq_none (by rw [wipe_length,← o4.1]; omega)]
      ·rw [D9 hj,D9 hj]
       exact (o4.2 j fun z=>hj (hS j z)).1
     rw [wl,Jb.wipe_idem]
    ·refine ht _ _ _ _ _ _ _ s4 ?_
     cases et:t ρ1 with
     | exc x'=>rw [et] at e; cases e
     | bad=>rw [et] at e; cases e
     | ok b=>
      rw [et] at e
      simp only [B2,Out.Au] at e
      intro H4 s5
      cases b with
      | false=>
       simp only [Bool.false_eq_true,if_false] at e ⊢
       exact ⟨(s2.trans s3).trans s5,acc,vals,s5 _ _ hacc3,by omega,e,(racc.same s3).same s5⟩
      | true=>
       simp only [if_true] at e ⊢
       refine hk _ _ _ _ _ _ _ (s4.grow s5) ?_
       cases ek:fk ρ1 with
       | exc x'=>rw [ek] at e; cases e
       | bad=>rw [ek] at e; cases e
       | ok y=>
        rw [ek] at e
        simp only [B2,Out.Au] at e
        intro v6 H6 s6 r6
        refine he _ _ _ _ _ _ _ ((s4.grow s5).grow s6) ?_
        cases ef:f ρ1 with
        | exc x'=>rw [ef] at e; cases e
        | bad=>rw [ef] at e; cases e
        | ok z=>
         rw [ef] at e
         simp only [B2,Out.Au] at e
         cases ey:keyD y with
         | none=>rw [ey] at e; cases e
         | some k=>
          rw [ey] at e
          simp only [BI,Out.Au] at e
          intro v7 H7 s7 r7
          have hD7:=s7 _ _ (s6 _ _ (s5 _ _ hacc3))
          have ev:=IY ey r6
          refine ⟨acc,k,ev,hD7,by rw [sizeLine_eq]; omega,fun a o q=>?_,putK acc k v7,CW (acc.map (·.1)) vals k z,upd_same,?_,?_,?_⟩
          ·rw [upd_ne (ne_of_none q hD)]
           exact s7 _ _ (s6 _ _ (s5 _ _ (s3 _ _ (s2 _ _ q))))
          ·have:=length_putK acc k v7
           omega
          ·rw [Kv]
           exact e
          ·have keep:∀ a o,¬ (Av ⟨K,μ⟩ A0 ρ σ (lk ++ (le ++ vs)) a∨a=D)→H7 a=some o→upd H7 D (.dK (putK acc k v7)) a=some o:=fun a o n q=>by
            rw [upd_ne fun z=>n (.inr z)]
            exact q
           refine Ah.mono keep (fun a z=>z) _ _ (KG (r7.BC fun a z=>?_) ((((racc.same s3).same s5).same s6).same s7))
           rcases z with z | z
           ·rcases avs a z with z | ⟨j,n,l,e1,ho⟩
            ·exact .inl (.inl z)
            ·have nv:j∉vs:=fun q=>n (List.mem_append_right _ q)
             have nS:j∉S:=fun q=>nv (hS j q)
             refine .inr ⟨j,fun q=>n (List.mem_append_left _ q),l,?_,?_⟩
             ·rw [(o4.2 j nS).2,JP nv]
              exact e1
             ·rw [(o4.2 j nS).1,D9 nv]
              exact ho
           ·exact .inl (.inr z)
  ·have e1:i=ds.length:=by omega
   subst e1
   rw [List.drop_length] at e
   have er:res=(acc.map (·.1),vals):=by
    have e':(Out.ok (acc.map (·.1),vals):Out (List Key × List Dt))=.ok res:=e
    injection e' with e'
    exact e'.symm
   subst er
   refine .inl ⟨w.stop H2 sBW,?_⟩
   refine h1 (.ref D) H2 (s1.trans s2) ?_
   unfold Rep
   exact ⟨D,acc,rfl,fun z=>(s.grow s1).NB hD z,.inl hacc,rfl,racc.BC fun a z=>.inl z⟩
end
section
variable {X:Cx} {W:WX} {e:Expr} {es:List Expr} {fk f:Env→Out Dt} {t:Env→Out Bool} {u:Dt→Env→Option Env} {S lk lt lq le:List Nat}
end
end FD
namespace FD
open PySem L2 PyProof.Rows PySem.Spec
section
variable {X:Cx} {W:WX} {S:List Nat} {a b:Expr} {fs:Env→XO (List Dt)} {lk:List Nat} {p pos:Pos}
end
end FD
namespace FD
open PySem L2 PyProof.Rows PySem.Spec
section
variable {prog:Program} {w:World} {A:Around} {R:Result→Shared→Prop} {I:Addr} {fp wr:List Addr} {G:Array GenState→Array GenState→Prop} {n:Nat} {P:Nat→Value→Prop} {St:Nat→Shared→Prop}
end
section
variable {prog:Program} {w:World} {A:Around} {E:Value→Shared→Prop} {s:Shared}
end
section
variable {X:Cx} {W:WX} {a:Expr} {ta:TE} {f:Env→Out Dt} {la:List Nat} {p p2 q pos:Pos}
end
end FD
namespace FD
open PySem L2 PyProof.Rows PySem.Spec
section
variable {K:PySem.W.Frag} {W:WX} {la lb lk:List Nat}
end
section
variable {X:Cx} {W:WX} {e:Expr} {f:Env→Out Dt} {lk:List Nat} {pos p p1 p2 p3:Pos}
end
end FD
namespace FD
open PySem L2 PyProof.Rows PySem.Spec
section
variable {K:PySem.W.Frag} {W:WX} {la lb lk:List Nat}
end
end FD
namespace PySem.SeqAt
open AutoSeq1 (wpAny_loadPart')
open MeetsSeq MeetsSeq2 MeetsSeq3 SeqRoads2
end PySem.SeqAt
namespace FD
open PySem L2 PyProof.Rows PySem.Spec
section
variable {X:Cx} {W:WX} {e o a b:Expr} {fs:Env→Out (List Dt)} {f fa fb:Env→Out Dt} {lk la lb:List Nat} {p pos apos:Pos} {L:Mg} {k j:Nat} {ta tb:TE}
end
end FD
namespace FD
open PySem L2 PyProof.Rows PySem.Spec
section
variable {X:Cx} {W:WX} {e o a b:Expr} {fs:Env→Out (List Dt)} {f fa fb:Env→Out Dt} {lk la lb:List Nat} {p pos apos:Pos} {L:Mg} {k j:Nat} {ta tb:TE}
end
end FD
namespace FD
open PySem L2 PyProof.Rows PySem.Spec
section
variable {X:Cx} {W:WX} {e o a b:Expr} {fs:Env→Out (List Dt)} {f fa fb:Env→Out Dt} {lk la lb:List Nat} {p pos apos:Pos} {L:Mg} {k j:Nat} {ta tb:TE}
end
end FD
namespace FD
open PySem L2 PyProof.Rows PySem.Spec
def gL(K:PySem.W.Frag)(L:Mg):List V→Hp→VK→Prop:=fun xs H Q=>∃ C ψ a dx fs,(C,ψ)∈L∧xs=[.ref a]∧H a=some (.ins C dx fs)∧Np K ψ [.ref a] H (fun v H'=>∃ n:Int,v=.int n∧(0≤n∧n < 2 ^ 63)∧Q v H') (fun _ _ _=>False)
def W9:Out Dt→Out Dt
 | .ok (.int n)=>if 0≤n∧n < 2 ^ 63 then .ok (.int n) else .bad
 | _=>.bad
def RI(L:Mg)(fs:Env→Out (List Dt)):Env→Out Dt:=fun ρ=>(fs ρ).bind fun as=>match as with
 | [.obj C ns ds]=>(match L.lookup C with
  | some ψ=>W9 (ψ [.obj C ns ds])
  | none=>.bad)
 | _=>.bad
section
variable {X:Cx} {W:WX} {e o a b:Expr} {fs:Env→Out (List Dt)} {f fa fb:Env→Out Dt} {lk la lb:List Nat} {p pos apos:Pos} {L:Mg} {k j:Nat} {ta tb:TE}
theorem XI(hL:∀ q∈L,MeC X.prog X.w X.K X.mg X.base k q.1 "__len__" q.2)(hr:Room j X.A)(hk:k + 1≤j):CallR X (.builtin "len") (gL X.K L):=by
 intro pins s σ H xs us Q I rv ⟨C,ψ,a',dx,fs,hm,ex,ea,q⟩
 subst ex
 obtain ⟨u,rfl,ru⟩:∃ u,us=[u]∧RelV (.ref a') u:=by
  cases rv with
  | cons r1 r2=>cases r2; exact ⟨_,rfl,r1⟩
 obtain rfl:u=Value.ref a':=ru
 have hr1:Room k X.A.in1:=(hr.mono hk).in1
 have mc:=hL _ hm
 obtain ⟨f,hme,Fn⟩:=mc.ex
 obtain ⟨mA,J,_⟩:=ins_get I.hok ea
 obtain ⟨od,J,_⟩:=J.look
 obtain ⟨m,hF⟩:=I.fr
 refine PySem.W.len_K hF I.ok.mod.kin J hme.at_ hme.fn ?_
 refine wpAny_call (codeAny_mono (Fn X.A.in1 X.stack s H [.ref a'] [.ref a'] _ (WE W0 σ) hr1 I.env0.in1 (.cons rfl .nil) q) fun r s' hq=>?_)
 cases r with
 | error er=>exact False.elim (L2N.passAt (X:=X.nox) takes0 σ pins H s er s' (I.wish _) hq)
 | ok fl=>
  cases fl with
  | ret w=>
   obtain ⟨v,H'',I3,rv,n,rfl,hn,q3⟩:=I.after hq
   obtain ⟨t,rfl⟩:=rv
   exact ⟨hn,.int n,H'',I3.tok _,⟨_,rfl⟩,q3⟩
  | next=>exact False.elim hq
  | brk=>exact False.elim hq
  | cont=>exact False.elim hq
theorem ba{K:PySem.W.Frag}{ta:TA}(ha:RR K W ta fs lk):Dx K W (tCB (gL K L) ta) (RI L fs) []:=by
 intro μ H0 A0 ρ σ H Q s h
 refine ha _ _ _ _ _ _ _ s (h.seq fun ds hd h1 vs H1 s1 r1=>?_)
 clear hd
 cases ds with
 | nil=>exact False.elim h1
 | cons d t=>
  cases t with
  | cons _ _=>cases d <;> exact False.elim h1
  | nil=>
   cases d <;> try (exact False.elim h1)
   rename_i C ns ds
   simp only at h1
   cases el:L.lookup C with
   | none=>rw [el] at h1; exact False.elim h1
   | some ψ=>
    rw [el] at h1
    simp only at h1
    have r1':=r1
    obtain ⟨v,rfl,rr⟩:=CO r1
    unfold Rep at rr
    obtain ⟨a,dx,fl,rfl,_,h3,_,_⟩:=rr
    refine ⟨C,ψ,a,dx,fl,lookup_mem el,rfl,h3,_,Av ⟨K,μ⟩ A0 ρ σ lk,μ,r1',fun a z=>(s.grow s1).Dj z,?_⟩
    unfold Kl
    cases eo:ψ [Dt.obj C ns ds] with
    | ok d=>
     rw [eo] at h1
     cases d <;> try (exact False.elim h1)
     rename_i y
     unfold W9 at h1
     simp only at h1
     by_cases hy:0≤y∧y < 2 ^ 63
     ·rw [if_pos hy] at h1
      intro v H' s' r
      obtain rfl:v=.int y:=r
      exact ⟨y,rfl,hy,h1 (.int y) H' (s1.trans s') rfl⟩
     ·rw [if_neg hy] at h1
      exact False.elim h1
    | exc x=>rw [eo] at h1; exact False.elim h1
    | bad=>rw [eo] at h1; exact False.elim h1
theorem eD(hL:∀ q∈L,MeC X.prog X.w X.K X.mg X.base k q.1 "__len__" q.2)(hr:Room j X.A)(hk:k + 1≤j)(hg:Gl X "len")(hm:X.mg "len" = none)(ha:JL X W [e] fs lk)(he:starEach [e] X.env=(false,eval e X.env) :: starEach [] X.env:=by rfl):Bc X W (.Call (.Name "len" p) [e] [] pos) (RI L fs) []:=by
 obtain ⟨ta,pa,da⟩:=ha
 exact ⟨_,pe_callB (XI hL hr hk) hg hm boot_len pa (by decide) (by decide) he rfl,ba da⟩
end
end FD
namespace FD
open PySem L2 PyProof.Rows PySem.Spec
def MD(L:Mg)(ng:Bool)(fa fb:Env→Out Dt):Env→Out Dt:=fun ρ=>(fa ρ).bind fun a=>(fb ρ).bind fun b=>match b with
 | .obj C ns ds=>(match L.lookup C with
  | some ψ=>(match ψ [.obj C ns ds,a] with
   | .ok (.bl c)=>.ok (.bl (xor ng c))
   | _=>.bad)
  | none=>.bad)
 | _=>.bad
def kL(K:PySem.W.Frag)(L:Mg)(ng:Bool)(ta tb:TE):TE:=fun σ H Q=>ta σ H fun x H1=>tb σ H1 fun y H2=>∃ C ψ a dx fs,(C,ψ)∈L∧y=.ref a∧H2 a=some (.ins C dx fs)∧Np K ψ [y,x] H2 (fun v H'=>∃ b,v=.bl b∧Q (.bl (xor ng b)) H') (fun _ _ _=>False)
section
variable {X:Cx} {W:WX} {e o a b:Expr} {fs:Env→Out (List Dt)} {f fa fb:Env→Out Dt} {lk la lb:List Nat} {p pos apos:Pos} {L:Mg} {k j:Nat} {ta tb:TE}
theorem ip(hL:∀ q∈L,MeC X.prog X.w X.K X.mg X.base k q.1 "__contains__" q.2)(hr:Room j X.A)(hk:k≤j)(ha:PE X a ta)(hb:PE X b tb)(ng:Bool){op:CmpOp}(ho:op=if ng then .NotIn else .In):PC X op a b (kL X.K L ng ta tb):=by
 refine ⟨fun pins s σ H Q I h=>?_⟩
 refine thn (ha.run pins s σ H _ I h) fun v s1 ⟨x,H1,I1,rx,q1⟩=>thn (hb.run pins s1 σ H1 _ I1 q1) fun u s2 ⟨y,H2,I2,ry,C,ψ,p,dx,fs,hm,ex,ep,q2⟩=>?_
 subst ex
 obtain rfl:u=Value.ref p:=ry
 have mc:=hL _ hm
 obtain ⟨f,hme,F⟩:=mc.ex
 obtain ⟨mA,J,_⟩:=ins_get I2.hok ep
 obtain ⟨od,J,_⟩:=J.look
 obtain ⟨m,hF⟩:=I2.fr
 have hcall:wpAny (model X.prog X.w) X.A (call (.ref f) [.ref p,v]) (fun r s'=>∃ (b:Bool) (H3:Hp),r=.bool b∧L2.Inv X pins σ H3 s'∧Q (.bl (xor ng b)) H3) X.xe s2:=by
  refine wpAny_call (codeAny_mono (F X.A X.stack s2 H2 [.ref p,v] [.ref p,x] _ (WE W0 σ) (hr.mono hk) I2.env0 (.cons rfl (.cons rx .nil)) q2) fun r s' hq=>?_)
  cases r with
  | error er=>exact False.elim (L2N.passAt (X:=X.nox) takes0 σ pins H2 s2 er s' (I2.wish _) hq)
  | ok fl=>
   cases fl with
   | ret w=>
    obtain ⟨v,H'',I3,rv,n,rfl,q3⟩:=I2.after hq
    obtain rfl:w=Value.bool n:=rv
    exact ⟨n,H'',rfl,I3,q3⟩
   | next=>exact False.elim hq
   | brk=>exact False.elim hq
   | cont=>exact False.elim hq
 cases ng with
 | false=>
  subst ho
  show wpAny (model X.prog X.w) X.A (compareOp .In v (.ref p)) (EP X pins σ Q) X.xe s2
  refine PySem.W.in_K hF I2.ok.mod.kin J hme.at_ hme.fn (wpAny_mono hcall (fun r s3 ⟨b,H3,e,I3,q3⟩=>?_) fun _ _ x=>x)
  subst e
  rw [Bool.false_xor] at q3
  exact wpAny_truthy_bool ⟨.bl b,H3,I3,rfl,q3⟩
 | true=>
  subst ho
  show wpAny (model X.prog X.w) X.A (compareOp .NotIn v (.ref p)) (EP X pins σ Q) X.xe s2
  refine PySem.W.notIn_K hF I2.ok.mod.kin J hme.at_ hme.fn (wpAny_mono hcall (fun r s3 ⟨b,H3,e,I3,q3⟩=>?_) fun _ _ x=>x)
  subst e
  rw [Bool.true_xor] at q3
  exact wpAny_truthy_bool ⟨.bl (!b),H3,I3,rfl,q3⟩
theorem bW{K:PySem.W.Frag}{ng:Bool}(ha:Dx K W ta fa la)(hb:Dx K W tb fb lb):Dx K W (kL K L ng ta tb) (MD L ng fa fb) []:=by
 intro μ H0 A0 ρ σ H Q s h
 refine ha _ _ _ _ _ _ _ s (h.seq fun x ex h1 v1 H1 s1 r1=>?_)
 refine hb _ _ _ _ _ _ _ (s.grow s1) ((h1.grow s1).seq fun y ey h2 v2 H2 s2 r2=>?_)
 clear ex ey
 cases y <;> try (exact False.elim h2)
 rename_i C ns ds
 simp only at h2
 cases el:L.lookup C with
 | none=>rw [el] at h2; exact False.elim h2
 | some ψ=>
  rw [el] at h2
  simp only at h2
  have r2':=r2
  unfold Rep at r2
  obtain ⟨p,dx,fl,rfl,_,h3,_,_⟩:=r2
  refine ⟨C,ψ,p,dx,fl,lookup_mem el,rfl,h3,[.obj C ns ds,x],Av ⟨K,μ⟩ A0 ρ σ (la ++ lb),μ,Ah.cons (r2'.BC fun _=>bI) (Ah.cons ((r1.same s2).BC fun _=>aJ) Ah.nil),fun a z=>(s.grow (s1.trans s2)).Dj z,?_⟩
  unfold Kl
  cases eo:ψ [.obj C ns ds,x] with
  | ok d=>
   rw [eo] at h2
   cases d <;> try (exact False.elim h2)
   rename_i b
   intro v H' s' r
   obtain rfl:v=.bl b:=r
   exact ⟨b,rfl,h2 (.bl (xor ng b)) H' ((s1.trans s2).trans s') rfl⟩
  | exc x=>rw [eo] at h2; exact False.elim h2
  | bad=>rw [eo] at h2; exact False.elim h2
theorem dH{ng:Bool}{ρ:Env}{d:Dt}(h:MD L ng fa fb ρ=.ok d):∃ b,d=.bl b:=by
 unfold MD at h
 obtain ⟨x,_,h⟩:=Out.FG h
 obtain ⟨y,_,h⟩:=Out.FG h
 cases y <;> try (cases h; done)
 simp only at h
 split at h
 ·split at h
  ·cases h; exact ⟨_,rfl⟩
  ·cases h
 ·cases h
theorem V7(hL:∀ q∈L,MeC X.prog X.w X.K X.mg X.base k q.1 "__contains__" q.2)(hr:Room j X.A)(hk:k≤j)(ha:Bc X W a fa la)(hb:Bc X W b fb lb)(ng:Bool){op:CmpOp}(ho:op=if ng then .NotIn else .In)(h1:behindInMarks op b=false):Vb X W (.Compare a [op] [b] pos) (t1 (MD L ng fa fb) A2) []:=by
 obtain ⟨ta,pa,da⟩:=ha
 obtain ⟨tb,pb,db⟩:=hb
 refine ⟨_,pt_cmp (ip hL hr hk pa pb ng ho) h1,fun μ H0 A0 ρ σ H Q s h=>?_⟩
 refine bW da db _ _ _ _ _ _ _ s (h.seq fun x ex h1 v1 H1 s1 r1=>?_)
 obtain ⟨k,e,q⟩:=BM h1
 obtain ⟨b,rfl⟩:=dH ex
 obtain rfl:v1=.bl b:=r1
 cases e
 exact ⟨_,rfl,q H1 s1⟩
end
end FD
namespace FD
open PySem L2 PyProof.Rows PySem.Spec
def O0(u:Dt→Env→Option Env)(t:Env→Out Bool)(src1:Env→Out (List Dt))(lk1:List Nat)(u1:Dt→Env→Option Env)(vs1:List Nat)(t1:Env→Out Bool)(f:Env→Out Dt)(ρ:Env):List Dt→Out (List Dt)
 | []=>.ok []
 | d :: ds=>(FU (u d ρ)).bind fun ρ1=>(NP (t ρ1)).bind fun b=>if b=true then (NP (src1 ρ1)).bind fun es=>if es.length≤16777216∧lk1.all (He ρ1)=true then (N5 u1 t1 f (BB ρ1 vs1) es).bind fun ys=>(O0 u t src1 lk1 u1 vs1 t1 f ρ ds).bind fun r=>.ok (ys ++ r) else .bad
  else O0 u t src1 lk1 u1 vs1 t1 f ρ ds
def bz(u:Dt→Env→Option Env)(vs:List Nat)(t:Env→Out Bool)(src1:Env→Out (List Dt))(lk1:List Nat)(u1:Dt→Env→Option Env)(vs1:List Nat)(t1:Env→Out Bool)(f:Env→Out Dt)(src:Env→Out (List Dt))(lk:List Nat):Env→Out (List Dt):=fun ρ=>(src ρ).bind fun ds=>if ds.length≤16777216 then (NP (O0 u t src1 lk1 u1 vs1 t1 f (BB (frz lk ρ) vs) ds)).bind fun res=>if res.length≤16777216 then .ok res else .bad
  else .bad
open Classical in
noncomputable def Bn(κ:KM)(H:Hp)(ρ:Env)(σ:L2.St)(A0:Ad)(lk:List Nat):Hp:=fun a=>if Av κ A0 ρ σ lk a then none else H a
section
variable {K:PySem.W.Frag} {κ:KM} {μ:Mu} {W:WX} {H0 H H1 H2:Hp} {A A0:Ad} {ρ:Env} {σ:L2.St} {lk la lb:List Nat}
theorem U6{a:Addr}(h:¬ Av κ A0 ρ σ lk a):Bn κ H ρ σ A0 lk a=H a:=by unfold Bn; rw [if_neg h]
theorem gH{a:Addr}(h:Av κ A0 ρ σ lk a):Bn κ H ρ σ A0 lk a=none:=by unfold Bn; rw [if_pos h]
theorem WY:Same (Bn κ H ρ σ A0 lk) H:=fun a o e=>by
 unfold Bn at e
 split at e
 ·cases e
 ·exact e
theorem Ah.inN{ds:List Dt}{vs:List V}(r:Ah κ H (Av κ A0 ρ σ lk) ds vs):Ah κ (Bn κ H ρ σ A0 lk) A0 ds vs:=
 Ah.mono (fun a o n e=>by rw [U6 n]; exact e) (fun a z=>.inl z) ds vs r
def hW(K:PySem.W.Frag)(W:WX)(wi:TI)(f:Env→Out (List Dt))(lk:List Nat):Prop:=
 ∀ (μ:Mu) (H0:Hp) (A0:Ad) (ρ:Env) (σ:L2.St) (H:Hp) (R:It→Hp→Prop),StOk ⟨K,μ⟩ H0 A0 H ρ σ→DA K W H σ (f ρ) (fun ds=>∀ J H1,Same H H1→Walks ⟨K,μ⟩ (Bn ⟨K,μ⟩ H1 ρ σ A0 lk) A0 J ds→R J H1)→wi σ H R
theorem Zs{tl:TE}{f:Env→Out Dt}(ha:Dx K W tl f lk):hW K W (ij K tl) (AB f) lk:=by
 intro μ H0 A0 ρ σ H R s h
 unfold AB at h
 refine ha _ _ _ _ _ _ _ s (h.seq fun d _ h1 v H1 s1 r1=>?_)
 obtain ⟨ds,e,q⟩:=BM h1
 cases d <;> try (cases e; done)
 ·rename_i z _
  cases e
  have e1:v=.str z:=r1
  subst e1
  refine .inr (.inr ⟨z,rfl,q _ _ s1 ⟨fun i H' _ hi=>?_,fun H' _=>?_,fun i H' x H'' d hs y e=>?_⟩⟩)
  ·simpa [Its] using hi
  ·simp [Its]
  ·obtain ⟨rfl,c,e1,rfl⟩:=y
   refine ⟨Same.refl _,fun A _=>?_⟩
   rw [List.getElem?_map] at e
   have e2:z.cps.toList[i]? = some c:=by simpa using e1
   rw [e2] at e
   cases e
   rfl
 ·rename_i es _
  cases e
  unfold Rep at r1
  obtain ⟨a,vs,rfl,h1',r⟩:=r1
  have hl:∀ H',Same (Bn ⟨K,μ⟩ H1 ρ σ A0 lk) H'→SqT K H' a vs:=fun H' hs=>by
   rcases h1' with ⟨n,e⟩ | h
   ·exact SqT.of (hs _ _ (by rw [U6 n]; exact e))
   ·exact .inr h
  exact .inr (.inl ⟨a,rfl,⟨vs,SqT.XD h1'⟩,q _ _ s1 (Ku hl r.inN)⟩)
 ·rename_i es _
  cases e
  unfold Rep at r1
  obtain ⟨a,vs,rfl,⟨n,o,e,_⟩,r⟩:=r1
  have hl:∀ H',Same (Bn ⟨K,μ⟩ H1 ρ σ A0 lk) H'→SqT K H' a vs:=fun H' hs=>.inl (.inr ⟨o,hs _ _ (by rw [U6 n]; exact e)⟩)
  exact .inr (.inl ⟨a,rfl,⟨vs,.inl (.inr ⟨o,e⟩)⟩,q _ _ s1 (Ku hl r.inN)⟩)
 ·rename_i es _
  cases e
  unfold Rep at r1
  obtain ⟨a,vs,rfl,n,e,r⟩:=r1
  have hB:Bn ⟨K,μ⟩ H1 ρ σ A0 lk a=some (.lst vs):=by rw [U6 n]; exact e
  exact .inl ⟨a,rfl,⟨vs,SqL.of e⟩,q _ _ s1 (KI (fun H' hs=>SqL.of (hs _ _ hB)) r.inN)⟩
 ·rename_i es _
  cases e
  unfold Rep at r1
  obtain ⟨a,vs,rfl,h1',r⟩:=r1
  have hl:∀ H',Same (Bn ⟨K,μ⟩ H1 ρ σ A0 lk) H'→SqL K H' a vs:=fun H' hs=>by
   rcases h1' with ⟨n,o,e⟩ | h
   ·exact .inl (.inr ⟨o,hs _ _ (by rw [U6 n]; exact e)⟩)
   ·exact .inr h
  exact .inl ⟨a,rfl,⟨vs,hl H1 WY⟩,q _ _ s1 (KI hl r.inN)⟩
theorem StOk.atD(s:StOk κ H0 A0 H1 ρ σ){D:Addr}{u:HO}(hD:H1 D=none)(hs:Same H1 H2)(h2:H2 D=some u)(mu:Mut (some u)):StOk κ (upd H0 D u) (fun a=>A0 a∨a=D) H2 ρ σ:=by
 have s':=(s.grow (H':=delD D H2) fun a o e=>by rw [KD fun z=>by subst z; rw [hD] at e; cases e]; exact hs a o e).kW Su mu
 have e:upd (delD D H2) D u=H2:=by
  funext a
  by_cases h:a=D
  ·subst h; rw [upd_same,h2]
  ·rw [upd_ne h,KD h]
 rw [e] at s'
 exact s'
theorem StOk.reD{D:Addr}{u u':HO}(s:StOk κ (upd H0 D u) (fun a=>A0 a∨a=D) H ρ σ)(h0:H0 D=none)(ha:∀ a,A0 a→Mut (H0 a))(hs:∀ a o,a≠D→H a=some o→H2 a=some o)(h2:H2 D=some u')(mu:Mut (some u')):StOk κ (upd H0 D u') (fun a=>A0 a∨a=D) H2 ρ σ:=
 (s.outD h0 ha).atD Su (fun a o e=>by
  by_cases h:a=D
  ·subst h; rw [Su] at e; cases e
  ·rw [KD h] at e; exact hs a o h e) h2 mu
theorem iD{i:Nat}{a:Addr}(h:Bj κ ρ σ i a)(hs:He ρ i=true):False:=by
 obtain ⟨l,e,ho⟩:=h
 unfold He at hs
 rw [e] at hs
 cases l with
 | sh d=>exact ho
 | ol ds=>cases hs
 | od ks ds=>cases hs
 | ot ks ds=>cases hs
 | mh cs=>cases hs
theorem R0{τ:L2.St}{j:Nat}{vs:List Nat}(h:j∈vs)(hl:j < τ.length):(wipe τ vs)[j]? = some none:=by
 induction vs with
 | nil=>cases h
 | cons v vs ih=>
  unfold wipe
  by_cases e:v=j
  ·subst e
   rw [List.getElem?_set_self (by rw [wipe_length]; exact hl)]
  ·rw [List.getElem?_set_ne e]
   rcases List.mem_cons.mp h with z | z
   ·exact absurd z.symm e
   ·exact ih z
theorem wipe_out{τ τ':L2.St}{ρ ρ':Env}{S vs:List Nat}(o:dm S ρ ρ' (wipe τ vs) τ')(hS:∀ i∈S,i∈vs):wipe τ' vs=wipe τ vs:=by
 apply List.ext_getElem?
 intro j
 have hlen:τ'.length=τ.length:=by rw [o.1,wipe_length]
 by_cases hj:j∈vs
 ·by_cases hl:j < τ.length
  ·rw [R0 hj hl,R0 hj (by omega)]
  ·rw [List.getElem?_eq_none (by rw [wipe_length]; omega),List.getElem?_eq_none (by rw [wipe_length]; omega)]
 ·rw [D9 hj,(o.2 j fun z=>hj (hS j z)).1]
theorem eX{wi wi1:TI}{g g1:TG}{tt tt1:TT}{te:TE}{u u1:Dt→Env→Option Env}{S S1 vs vs1 lt lt1 lk1 le:List Nat}{t t1:Env→Out Bool}{f:Env→Out Dt}{src src1:Env→Out (List Dt)}(hi:fN K W wi src lk)(hg:Y9 K g u S)(hS:∀ i∈S,i∈vs)
  (ht:Ry K W0 tt t lt) (hi1:hW K W0 wi1 src1 lk1) (hg1:Y9 K g1 u1 S1) (hS1:∀ i∈S1,i∈vs1) (hv:∀ i∈vs1,i∈vs) (ht1:Ry K W0 tt1 t1 lt1) (he:Dx K W0 te f le):aS K W (tLc2 wi g tt wi1 g1 tt1 te vs vs1) (bz u vs t src1 lk1 u1 vs1 t1 f src lk) (lk ++ (le ++ vs)):=by
 intro μ H0 A0 ρ σ H Q s h
 refine hi _ _ _ _ _ _ _ s (h.seq fun ds _ h1 J H1 s1 w=>?_)
 intro D hD
 split at h1
 case isFalse=>exact False.elim h1
 rename_i hz
 obtain ⟨sB,hB⟩:=s.rebase s1 lk
 have sW:=sB.Ub vs
 have hBD:Bs ⟨K,μ⟩ H1 ρ σ lk D=none:=by
  unfold Bs
  split
  ·rfl
  ·exact hD
 cases eo:O0 u t src1 lk1 u1 vs1 t1 f (BB (frz lk ρ) vs) ds with
 | exc x=>rw [eo] at h1; exact False.elim h1
 | bad=>rw [eo] at h1; exact False.elim h1
 | ok res=>
  rw [eo] at h1
  simp only [B2,Out.Au] at h1
  by_cases hres0:res.length≤16777216
  case neg=>rw [if_neg hres0] at h1; exact False.elim h1
  rw [if_pos hres0] at h1
  have avs:∀ a,Av ⟨K,μ⟩ A0 ρ σ (lk ++ (le ++ vs)) a→Av ⟨K,μ⟩ A0 (frz lk ρ) σ (le ++ vs) a:=by
   rintro a (z | ⟨i,n,l,e,ho⟩)
   ·exact .inl z
   ·refine .inr ⟨i,fun q=>n (List.mem_append_right _ q),l,?_,ho⟩
    exact Jb.frz_ne (fun q=>n (List.mem_append_left _ q)) e
  refine ⟨fun i m H'=>m + i=ds.length∧Same H1 H'∧∃ (done todo:List Dt) (acc:List V),H' D=some (.lst acc)∧O0 u t src1 lk1 u1 vs1 t1 f (BB (frz lk ρ) vs) (ds.drop i)=.ok todo∧done ++ todo=res ∧
   Ah ⟨K,μ⟩ H' (fun a=>Av ⟨K,μ⟩ A0 ρ σ (lk ++ (le ++ vs)) a∨a=D) done acc,⟨ds.length,by omega,Same.new hD,[],res,[],upd_same,eo,rfl,Ah.nil⟩,?_⟩
  rintro i m H2 ⟨hm,s2,done,todo,acc,hacc,e,hres,racc⟩
  have sBW:Same (Bs ⟨K,μ⟩ H1 ρ σ lk) H2:=IJ.trans s2
  by_cases hlt:i < ds.length
  ·have hd:ds.drop i=ds[i] :: ds.drop (i + 1):=List.drop_eq_getElem_cons hlt
   rw [hd] at e
   unfold O0 at e
   refine .inr ⟨w.go i H2 sBW hlt,fun H'=>Same H1 H'∧∃ (done todo:List Dt) (acc:List V),H' D=some (.lst acc)∧O0 u t src1 lk1 u1 vs1 t1 f (BB (frz lk ρ) vs) (ds.drop (i + 1))=.ok todo∧done ++ todo=res ∧
    Ah ⟨K,μ⟩ H' (fun a=>Av ⟨K,μ⟩ A0 ρ σ (lk ++ (le ++ vs)) a∨a=D) done acc,fun H' q=>⟨m - 1,by omega,by omega,q⟩,fun x H3 y=>?_⟩
   obtain ⟨s3,r3⟩:=w.yld i H2 x H3 ds[i] sBW y (List.getElem?_eq_getElem hlt)
   have hacc3:=s3 _ _ hacc
   have sD:=sW.atD (u:=.lst acc) hD (s2.trans s3) hacc3 True.intro
   cases eu:u ds[i] (BB (frz lk ρ) vs) with
   | none=>rw [eu] at e; cases e
   | some ρ1=>
    rw [eu] at e
    simp only [BI,Out.Au] at e
    refine hg _ _ _ _ _ _ _ _ _ _ sD (r3 _ fun a z=>?_) eu fun σ4 s4 m4 o4=>⟨wipe_out o4 hS,?_⟩
    ·rcases z with (z | z) | ⟨j,n,z⟩
     ·refine ⟨.inl z,?_⟩
      intro z2
      have q4:=(s.grow s1).Dj (lk:=[]) (a:=a) (.inl z)
      cases q5:H1 a with
      | none=>rw [q5] at q4; exact q4
      | some o'=>
       have q6:=s2 a o' q5
       rw [z2] at q6
       cases q6
     ·subst z
      exact ⟨.inr hBD,by rw [hacc]; intro z; cases z⟩
     ·obtain ⟨z1,_⟩:=Zx z
      refine ⟨.inr ?_,?_⟩
      ·exact (sB.B7 z1).2
      ·obtain ⟨⟨o,q⟩,_⟩:=sB.B7 z1
       rw [s2 _ _ q]
       intro z
       cases z
    ·refine ht _ _ _ _ _ _ _ s4 ?_
     cases et:t ρ1 with
     | exc x'=>rw [et] at e; cases e
     | bad=>rw [et] at e; cases e
     | ok b=>
      rw [et] at e
      simp only [B2,Out.Au] at e
      intro H4 s5
      cases b with
      | false=>
       simp only [Bool.false_eq_true,if_false] at e ⊢
       exact ⟨(s2.trans s3).trans s5,done,todo,acc,s5 _ _ hacc3,e,hres,(racc.same s3).same s5⟩
      | true=>
       simp only [if_true] at e ⊢
       refine hi1 _ _ _ _ _ _ _ (s4.grow s5) ?_
       cases es1:src1 ρ1 with
       | exc x'=>rw [es1] at e; cases e
       | bad=>rw [es1] at e; cases e
       | ok es=>
        rw [es1] at e
        simp only [B2,Out.Au] at e
        by_cases hsh:es.length≤16777216∧lk1.all (He ρ1)=true
        case neg=>rw [if_neg hsh] at e; cases e
        rw [if_pos hsh] at e
        obtain ⟨hes,hsh⟩:=hsh
        cases ey:N5 u1 t1 f (BB ρ1 vs1) es with
        | exc x'=>rw [ey] at e; cases e
        | bad=>rw [ey] at e; cases e
        | ok ys=>
         rw [ey] at e
         simp only [Out.Au] at e
         cases er:O0 u t src1 lk1 u1 vs1 t1 f (BB (frz lk ρ) vs) (ds.drop (i + 1)) with
         | exc x'=>rw [er] at e; cases e
         | bad=>rw [er] at e; cases e
         | ok r=>
          rw [er] at e
          have eyr:ys ++ r=todo:=by
           have e':(Out.ok (ys ++ r):Out (List Dt))=.ok todo:=e
           injection e'
          intro J1 H5 s6 w1
          have hacc5:=s6 _ _ (s5 _ _ hacc3)
          have s45:=(s4.grow s5).grow s6
          refine ⟨fun j k H'=>k + j=es.length∧(∀ a o,a≠D→H5 a=some o→H' a=some o)∧∃ (done1 todo1:List Dt) (acc1:List V),H' D=some (.lst acc1)∧N5 u1 t1 f (BB ρ1 vs1) (es.drop j)=.ok todo1∧done1 ++ todo1=ys ∧
           Ah ⟨K,μ⟩ H' (fun a=>Av ⟨K,μ⟩ A0 ρ σ (lk ++ (le ++ vs)) a∨a=D) (done ++ done1) acc1,⟨es.length,by omega,fun a o _ q=>q,[],ys,acc,hacc5,ey,rfl,by rw [List.append_nil]; exact ((racc.same s3).same s5).same s6⟩,?_⟩
          rintro j k H6 ⟨hk,n6,done1,todo1,acc1,hacc1,e1,hys,racc1⟩
          have b6:Same (Bn ⟨K,μ⟩ H5 ρ1 σ4 (fun a=>A0 a∨a=D) lk1) H6:=fun a o q=>by
           by_cases haD:a=D
           ·rw [gH (.inl (.inr haD))] at q; cases q
           ·exact n6 a o haD (WY a o q)
          by_cases hjt:j < es.length
          ·have hd1:es.drop j=es[j] :: es.drop (j + 1):=List.drop_eq_getElem_cons hjt
           rw [hd1] at e1
           unfold N5 at e1
           refine .inr ⟨w1.go j H6 b6 hjt,fun H'=>(∀ a o,a≠D→H5 a=some o→H' a=some o)∧∃ (done1 todo1:List Dt) (acc1:List V),H' D=some (.lst acc1)∧N5 u1 t1 f (BB ρ1 vs1) (es.drop (j + 1))=.ok todo1∧done1 ++ todo1=ys ∧
            Ah ⟨K,μ⟩ H' (fun a=>Av ⟨K,μ⟩ A0 ρ σ (lk ++ (le ++ vs)) a∨a=D) (done ++ done1) acc1,fun H' q=>⟨k - 1,by omega,by omega,q⟩,fun x' H7 y'=>?_⟩
           obtain ⟨s7,r7⟩:=w1.yld j H6 x' H7 es[j] b6 y' (List.getElem?_eq_getElem hjt)
           have hacc7:=s7 _ _ hacc1
           have sI6:=s45.reD (u':=.lst acc1) hBD sB.a0 n6 hacc1 True.intro
           have sI:=(sI6.grow s7).Ub vs1
           cases eu1:u1 es[j] (BB ρ1 vs1) with
           | none=>rw [eu1] at e1; cases e1
           | some ρ2=>
            rw [eu1] at e1
            simp only [BI,Out.Au] at e1
            refine hg1 _ _ _ _ _ _ _ _ _ _ sI (r7 _ fun a z=>?_) eu1 fun σ8 s8 m8 o8=>⟨wipe_out o8 hS1,?_⟩
            ·have mz:Mut (H6 a):=by
              rcases z with z | ⟨q,n,z⟩
              ·exact sI6.Dj (lk:=[]) (.inl z)
              ·exact sI6.Dj (lk:=[]) (.inr ⟨q,(fun z=>nomatch z),(Zx z).1⟩)
             refine ⟨?_,fun z2=>by rw [z2] at mz; exact mz⟩
             rcases z with z | ⟨q,n,z⟩
             ·exact .inl z
             ·obtain ⟨z1,_⟩:=Zx z
              refine .inr (gH (.inr ⟨q,fun hq=>iD z1 (List.all_eq_true.mp hsh q hq),z1⟩))
            ·refine ht1 _ _ _ _ _ _ _ s8 ?_
             cases et1:t1 ρ2 with
             | exc x'=>rw [et1] at e1; cases e1
             | bad=>rw [et1] at e1; cases e1
             | ok b=>
              rw [et1] at e1
              simp only [B2,Out.Au] at e1
              intro H8 s9
              have n8:∀ a o,a≠D→H5 a=some o→H8 a=some o:=fun a o n q=>s9 _ _ (s7 _ _ (n6 a o n q))
              cases b with
              | false=>
               simp only [Bool.false_eq_true,if_false] at e1 ⊢
               exact ⟨n8,done1,todo1,acc1,s9 _ _ hacc7,e1,hys,(racc1.same s7).same s9⟩
              | true=>
               simp only [if_true] at e1 ⊢
               refine he _ _ _ _ _ _ _ (s8.grow s9) ?_
               cases ef:f ρ2 with
               | exc x'=>rw [ef] at e1; cases e1
               | bad=>rw [ef] at e1; cases e1
               | ok y=>
                rw [ef] at e1
                simp only [B2,Out.Au] at e1
                cases er1:N5 u1 t1 f (BB ρ1 vs1) (es.drop (j + 1)) with
                | exc x'=>rw [er1] at e1; cases e1
                | bad=>rw [er1] at e1; cases e1
                | ok r1=>
                 rw [er1] at e1
                 have ey1:y :: r1=todo1:=by
                  have e':(Out.ok (y :: r1):Out (List Dt))=.ok todo1:=e1
                  injection e'
                 intro v9 H9 s10 r9
                 have hD9:=s10 _ _ (s9 _ _ hacc7)
                 have hlen:acc1.length + 1≤res.length:=by
                  have h1:=racc1.length
                  rw [← hres,← eyr,← hys,← ey1]
                  simp only [List.length_append,List.length_cons] at h1 ⊢
                  omega
                 refine ⟨acc1,hD9,by rw [sizeLine_eq]; omega,fun a o n q=>?_,done1 ++ [y],r1,acc1 ++ [v9],upd_same,rfl,?_,?_⟩
                 ·rw [upd_ne n]
                  exact s10 _ _ (n8 a o n q)
                 ·rw [List.append_assoc]
                  show done1 ++ (y :: r1)=ys
                  rw [ey1]
                  exact hys
                 ·have keep:∀ a o,¬ (Av ⟨K,μ⟩ A0 ρ σ (lk ++ (le ++ vs)) a∨a=D)→H9 a=some o→upd H9 D (.lst (acc1 ++ [v9])) a=some o:=fun a o n q=>by
                   rw [upd_ne fun z=>n (.inr z)]
                   exact q
                  rw [← List.append_assoc done done1 [y]]
                  refine Ah.mono keep (fun a z=>z) _ _ (Ah.append (((racc1.same s7).same s9).same s10) (Ah.cons (r9.BC fun a z=>?_) Ah.nil))
                  rcases z with z | z
                  ·rcases avs a z with z | ⟨q,n,l,e2,ho⟩
                   ·exact .inl (.inl z)
                   ·have nv:q∉vs:=fun z=>n (List.mem_append_right _ z)
                    have nS:q∉S:=fun z=>nv (hS q z)
                    have nv1:q∉vs1:=fun z=>nv (hv q z)
                    have nS1:q∉S1:=fun z=>nv1 (hS1 q z)
                    refine .inr ⟨q,fun z=>n (List.mem_append_left _ z),l,?_,?_⟩
                    ·rw [(o8.2 q nS1).2,JP nv1,(o4.2 q nS).2,JP nv]
                     exact e2
                    ·rw [(o8.2 q nS1).1,D9 nv1,(o4.2 q nS).1,D9 nv]
                     exact ho
                  ·exact .inl (.inr z)
          ·have hj1:j=es.length:=by omega
           subst hj1
           rw [List.drop_length] at e1
           have et:todo1=[]:=by
            have e':(Out.ok []:Out (List Dt))=.ok todo1:=e1
            injection e' with e'
            exact e'.symm
           subst et
           rw [List.append_nil] at hys
           subst hys
           refine .inl ⟨w1.stop H6 b6,fun a o q=>?_,done ++ done1,r,acc1,hacc1,rfl,?_,racc1⟩
           ·have hne:a≠D:=fun z=>by subst z; rw [hD] at q; cases q
            exact n6 a o hne (s6 _ _ (s5 _ _ (s3 _ _ (s2 _ _ q))))
           ·rw [List.append_assoc,eyr]
            exact hres
  ·have e1:i=ds.length:=by omega
   subst e1
   rw [List.drop_length] at e
   have et:todo=[]:=by
    have e':(Out.ok []:Out (List Dt))=.ok todo:=e
    injection e' with e'
    exact e'.symm
   subst et
   rw [List.append_nil] at hres
   subst hres
   refine .inl ⟨w.stop H2 sBW,?_⟩
   exact h1 D acc H2 (s1.trans s2) (s1.free hD) hacc racc
end
end FD
namespace FD
open PySem L2 PyProof.Rows PySem.Spec
def cIn(K:PySem.W.Frag)(W:WX)(f:Env→Out (List Dt))(lk:List Nat):TI:=fun σ H R=>∃ (μ:Mu) (H0:Hp) (A0:Ad) (ρ:Env),StOk ⟨K,μ⟩ H0 A0 H ρ σ∧DA K W H σ (f ρ) (fun ds=>∀ J H1,Same H H1→Walks ⟨K,μ⟩ (Bn ⟨K,μ⟩ H1 ρ σ A0 lk) A0 J ds→R J H1)
def cR(X:Cx)(W:WX)(tg iter:Expr)(f:Env→Out (List Dt))(lk:List Nat):Prop:=∃ wi,PI X tg iter wi∧hW X.K W wi f lk
section
variable {X:Cx} {W:WX} {e:Expr} {es:List Expr} {f:Env→Out Dt} {t t1:Env→Out Bool} {u u1:Dt→Env→Option Env} {S S1 lk lk1 lt lt1 le:List Nat} {tg:Expr} {src1:Env→Out (List Dt)}
theorem cR.Lu(h:cR X W tg e src1 lk):PI X tg e (cIn X.K W src1 lk):=by
 obtain ⟨te,pe,de⟩:=h
 exact ⟨fun pins s σ H Q I ⟨μ,H0,A0,ρ,so,po⟩=>pe.run pins s σ H Q I (de μ H0 A0 ρ σ H Q so po)⟩
theorem dG{f:Env→Out Dt}(h:Bc X W e f lk):cR X W tg e (AB f) lk:=by
 obtain ⟨te,pe,de⟩:=h
 exact ⟨_,Zl pe,Zs de⟩
theorem jD{elt tg iter tg1 iter1:Expr}{ifs ifs1:List Expr}{scope:Scope}{pos:Pos}{src:Env→Out (List Dt)}(own:List (Str × Nat))(vs1:List Nat)(hc:X.calm=true)(hN:X.N.Nodup)(hi:iz X W tg iter src lk)
  (hg:∀ (s:Shared) (H:Hp) (C:Addr) (cl:List (Str × Addr)) (fp:List Addr),Xd (X.blk s H scope (compEnvC scope cl C X.env) fp) tg u S)
  (ht:∀ (s:Shared) (H:Hp) (C:Addr) (cl:List (Str × Addr)) (fp:List Addr),Q8 (X.blk s H scope (compEnvC scope cl C X.env) fp) W0 ifs t lt)
  (hi1:∀ (s:Shared) (H:Hp) (C:Addr) (cl:List (Str × Addr)) (fp:List Addr),cR (X.blk s H scope (compEnvC scope cl C X.env) fp) W0 tg1 iter1 src1 lk1)
  (hg1:∀ (s:Shared) (H:Hp) (C:Addr) (cl:List (Str × Addr)) (fp:List Addr),Xd (X.blk s H scope (compEnvC scope cl C X.env) fp) tg1 u1 S1)
  (ht1:∀ (s:Shared) (H:Hp) (C:Addr) (cl:List (Str × Addr)) (fp:List Addr),Q8 (X.blk s H scope (compEnvC scope cl C X.env) fp) W0 ifs1 t1 lt1)
  (he:∀ (s:Shared) (H:Hp) (C:Addr) (cl:List (Str × Addr)) (fp:List Addr),Bc (X.blk s H scope (compEnvC scope cl C X.env) fp) W0 elt f le)
  (ok:BlkOk X.N X.env.scope scope own:=by exact blkOk_by (by decide +kernel)) (hv:∀ i∈vs1,i∈own.map (·.2):=by decide) (hS:∀ i∈S,i∈own.map (·.2):=by decide) (hS1:∀ i∈S1,i∈vs1:=by decide) (hs:∀ x,foldedSetIterable iter X.env x=pure x:=by intro _; rfl) (hs1:∀ env x,foldedSetIterable iter1 env x=pure x:=by intro _ _; rfl):
  Za X W (.ListComp elt [⟨tg,iter,ifs,0⟩,⟨tg1,iter1,ifs1,0⟩] scope pos) (bz u (own.map (·.2)) t src1 lk1 u1 vs1 t1 f src lk) (lk ++ (le ++ own.map (·.2))):=by
 obtain ⟨wi,pi,di⟩:=hi
 refine ⟨_,pe_lc2 (g:=cG X.K u S) (tt:=cT X.K W0 t) (wi1:=cIn X.K W0 src1 lk1) (g1:=cG X.K u1 S1) (tt1:=cT X.K W0 t1) (te:=cE X.K W0 f le) hc hN pi ok hv (fun s H C cl fp=>(hg s H C cl fp).Lu) (fun s H C cl fp=>(ht s H C cl fp).Lu) (fun s H C cl fp=>(hi1 s H C cl fp).Lu) (fun s H C cl fp=>(hg1 s H C cl fp).Lu) (fun s H C cl fp=>(ht1 s H C cl fp).Lu) (fun s H C cl fp=>(he s H C cl fp).Lu) hs hs1,?_⟩
 exact eX di (fun μ H0 A0 ρ ρ' σ H d v Q s r e q=>⟨μ,H0,A0,ρ,ρ',d,s,r,e,q⟩) hS (lt:=lt) (fun μ H0 A0 ρ σ H Q s h=>⟨μ,H0,A0,ρ,s,h⟩) (fun μ H0 A0 ρ σ H Q s h=>⟨μ,H0,A0,ρ,s,h⟩) (fun μ H0 A0 ρ ρ' σ H d v Q s r e q=>⟨μ,H0,A0,ρ,ρ',d,s,r,e,q⟩) hS1 hv (lt1:=lt1) (fun μ H0 A0 ρ σ H Q s h=>⟨μ,H0,A0,ρ,s,h⟩) (fun μ H0 A0 ρ σ H Q s h=>⟨μ,H0,A0,ρ,s,h⟩)
end
end FD
namespace FD
open PySem L2 PyProof.Rows PySem.Spec
section
variable {CX:CXT} {P:Program} {w:World} {K:PySem.W.Frag} {mg:Str→Option Value} {base:Heap} {k:Nat} {f:Addr} {name qual:Str} {params:Arguments} {body:List Stmt} {scope:Scope} {dV kV doc pm cdv ct oc:Value} {an od:Option Addr}
 {osl:Array (Option Value)} {N ps:List Str} {sp:Sp} {pd:Str}
end
section
variable {P:Program} {w:World} {K:PySem.W.Frag} {mg:Str→Option Value} {base:Heap}
end
end FD
namespace FD
open PySem L2 PyProof.Rows PySem.Spec
structure SmC (P:Program) (w:World) (K:PySem.W.Frag) (mg:Str→Option Value) (base:Heap) (k:Nat) (C:Addr) (m:Str) (ψ:List Dt→Out Dt):Prop where
 ex:∃ mc p g,ClX.CRead K C mc∧SMet K C mc m p g∧FnR P w K mg base (L2N.CX P w) k g (Np K ψ)
def Ge(C:Addr)(ψ:List Dt→Out Dt)(fo:Env→Out Dt)(fs:Env→Out (List Dt)):Env→Out Dt:=fun ρ=>(fo ρ).bind fun o=>match o with
 | .cls C'=>if C'=C then (fs ρ).bind fun as=>ψ as else .bad
 | _=>.bad
def SA(C:Addr)(ψ:List Dt→Out Dt)(K:PySem.W.Frag)(E:L2.St→XK)(ta:TE)(t:TA):TE:=fun σ H Q=>ta σ H fun x H1=>x=.ref C∧t σ H1 fun vs H2=>Np K ψ vs H2 Q (E σ)
section
variable {X:Cx} {W:WX} {e o:Expr} {es:List Expr} {fs:Env→Out (List Dt)} {fo:Env→Out Dt} {lk la:List Nat} {p pos apos:Pos} {ψ:List Dt→Out Dt} {C:Addr}
theorem Xu{m:Str}{k j:Nat}{ta:TE}{t:TA}{pl:Sem Bool}(c:SmC X.prog X.w X.K X.mg X.base k C m ψ)(tk:L2N.Takes X W)(hr:Room j X.A)(hk:k≤j)(he:PE X o ta)(ha:PA X (e :: es) t)
  (hst:starEach (e :: es) X.env=(false,eval e X.env) :: starEach es X.env:=by rfl) (hpl:(backTo pos (starEach es X.env)).any (·.1)=false:=by rfl)
  (ht:eval (.Call (.Attribute o m apos) (e :: es) [] pos) X.env=(do
   let ov ← eval o X.env
   standAt apos.atName
   let (f,first) ← holding [ov] (getMethod ov m pl)
   callWith pos f first (backTo pos (starEach (e :: es) X.env)) (backToKw pos (keywordEach [] X.env))):=by rfl):
  PE X (.Call (.Attribute o m apos) (e :: es) [] pos) (SA C ψ X.K (WE W) ta t):=by
 obtain ⟨mc,q,g,r,cm,F⟩:=c.ex
 obtain ⟨rest,hp⟩:=cm.rc
 refine ⟨fun pins s σ H Q I h=>?_⟩
 refine PySem.W.methodCall_KW (pl:=pl) (thn (he.run pins s σ H _ I h) fun u s1 ⟨x,H1,I1,rx,ex,q⟩=>?_) ht
 subst ex
 obtain rfl:u=Value.ref C:=rx
 refine PySem.W.method_cls I1.kIn r.ga (PySem.W.cls_bind I1.kIn r.rd cm.at_ (wpAny_call (PySem.W.sm_get (s:={ s1 with toks:=s1.toks + 1 }) I1.kIn hp (PySem.W.handed_on rfl ?_))))
 have I2:=I1.tok (s1.toks + 1)
 refine PySem.W.callWith_K (h₀:=X.base) I2.ok.mod.kin cm.kp (thn (ha.run pos pins _ σ H1 _ I2 q) fun us s3 ⟨vs,H2,I3,rv,q2⟩=>⟨I3.kIn,?_⟩) hst hpl
 exact E3 F (hr.mono hk) (L2N.passAt tk σ) I3 rv q2
theorem PD{K:PySem.W.Frag}{ta:TE}{t:TA}(ho:Dx K W ta fo la)(ha:RR K W t fs lk):Dx K W (SA C ψ K (WE W) ta t) (Ge C ψ fo fs) lk:=by
 intro μ H0 A0 ρ σ H Q s h
 refine ho _ _ _ _ _ _ _ s (h.seq fun o eo h1 v1 H1 s1 r1=>?_)
 clear eo
 cases o <;> try (exact False.elim h1)
 rename_i C'
 simp only at h1
 by_cases hC:C'=C
 case neg=>rw [if_neg hC] at h1; exact False.elim h1
 rw [if_pos hC] at h1
 subst hC
 have e1:v1=.ref C':=r1
 refine ⟨e1,ha _ _ _ _ _ _ _ (s.grow s1) ((h1.grow s1).seq fun as _ h4 vs H2 s2 r2=>?_)⟩
 refine ⟨as,Av ⟨K,μ⟩ A0 ρ σ lk,μ,r2,fun a z=>(s.grow (s1.trans s2)).Dj z,?_⟩
 unfold Kl
 cases eo:ψ as with
 | ok d=>rw [eo] at h4; exact fun v H' s' r=>h4 v H' ((s1.trans s2).trans s') r
 | exc x=>rw [eo] at h4; exact fun c od H' s' r=>h4 c od H' (s2.trans s') r
 | bad=>rw [eo] at h4; exact h4
theorem P5{m:Str}{k j:Nat}{pl:Sem Bool}(c:SmC X.prog X.w X.K X.mg X.base k C m ψ)(tk:L2N.Takes X W)(hr:Room j X.A)(hk:k≤j)(ho:Bc X W o fo la)(ha:JL X W (e :: es) fs lk)
  (hst:starEach (e :: es) X.env=(false,eval e X.env) :: starEach es X.env:=by rfl) (hpl:(backTo pos (starEach es X.env)).any (·.1)=false:=by rfl)
  (ht:eval (.Call (.Attribute o m apos) (e :: es) [] pos) X.env=(do
   let ov ← eval o X.env
   standAt apos.atName
   let (f,first) ← holding [ov] (getMethod ov m pl)
   callWith pos f first (backTo pos (starEach (e :: es) X.env)) (backToKw pos (keywordEach [] X.env))):=by rfl):
  Bc X W (.Call (.Attribute o m apos) (e :: es) [] pos) (Ge C ψ fo fs) lk:=by
 obtain ⟨te,pe,de⟩:=ho
 obtain ⟨ta,pa,da⟩:=ha
 exact ⟨_,Xu c tk hr hk pe pa hst hpl ht,PD de da⟩
end
end FD
namespace FD
open PySem L2 PyProof.Rows PySem.Spec PySem.W
section
variable {prog:Program} {w:World} {A:Around} {E:Value→Shared→Prop} {s:Shared} {T:String} {r d:Addr} {n:Nat} {P:Nat→Value→Prop} {OK:Heap→Prop}
end
section
variable {X:Cx}
end
section
variable {X:Cx} {W:WX} {e:Expr} {fs:Env→Out (List Dt)} {lk:List Nat} {p pos:Pos} {j:Nat}
end
end FD
namespace FD
open PySem L2 PyProof.Rows PySem.Spec
section
variable {K:PySem.W.Frag} {W:WX} {S:List Nat} {σ:L2.St} {μ1:Mu} {H1 H2 H0:Hp} {ρ1:Env} {A0:Ad} {la lb lk:List Nat} {n:Nat} {c:Cell} {cs:List Cell} {p:Addr}
theorem aL(hS:n∈S)(s1:StOk ⟨K,μ1⟩ H0 A0 H1 ρ1 σ)(ec:DM n ρ1=some cs)(hs:Same H1 H2)(hp:H1 p=none)
  (ok:∀ A',(∀ b,A' b→Av ⟨K,μ1⟩ A0 ρ1 σ [] b∨b=p)→Gi ⟨K,μ1.push p⟩ H0 H2 A' c p):
  StOk ⟨K,μ1.push p⟩ H0 A0 H2 (ρ1.set n (some (.mh (cs ++ [c])))) σ∧Ch K S σ μ1 H1 ρ1 (μ1.push p) H2 (ρ1.set n (some (.mh (cs ++ [c]))))∧(∀ (H:Hp) (A:Ad),Rep ⟨K,μ1.push p⟩ H A (.ad cs.length) (.ref p)):=by
 have e:=CM ec
 obtain ⟨nd,hlen,_⟩:=s1.lo n _ e
 have hm:Xt μ1 (μ1.push p):=⟨fun k a h=>by show (μ1.l ++ [p])[k]? = _; rw [List.getElem?_append_left (List.getElem?_eq_some_iff.mp h).1]; exact h,rfl,fun z=>by exact absurd e (s1.nm z n cs)⟩
 have st:=s1.alloc (c:=c) e hs hp ok
 have own':∀ a,CS ⟨K,μ1.push p⟩ (.mh (cs ++ [c])) σ[n]? a→CS ⟨K,μ1⟩ (.mh cs) σ[n]? a∨a=p:=fun a ⟨k,c',f1,f2,f3⟩=>by
  have f3':(μ1.l ++ [p])[k]? = some a:=f3
  by_cases hk:k < cs.length
  ·rw [List.getElem?_append_left hk] at f1
   rw [List.getElem?_append_left (by rw [← hlen]; exact hk)] at f3'
   exact .inl ⟨k,c',f1,f2,f3'⟩
  ·have hk2:=(List.getElem?_eq_some_iff.mp f1).1
   rw [List.length_append,List.length_singleton] at hk2
   rw [List.getElem?_append_right (by rw [← hlen]; show cs.length≤k; omega)] at f3'
   have:k - μ1.l.length=0:=by rw [← hlen]; show k - cs.length=0; omega
   rw [this] at f3'
   cases f3'
   exact .inr rfl
 refine ⟨st,?_,fun H A=>?_⟩
 ·refine ⟨hm,fun a o q _=>hs a o q,fun j hj=>List.getElem?_set_ne fun (z:n=j)=>hj (by rw [← z]; exact hS),fun j a hj h=>?_,.inr fun j c q=>by rw [s1.one j n _ _ q e]; exact hS⟩
  obtain ⟨l,e1,ho⟩:=h
  by_cases hn:n=j
  ·subst hn
   rw [List.getElem?_set_self (List.getElem?_eq_some_iff.mp e).1] at e1
   cases e1
   exact (own' a ho).imp (fun z=>⟨n,hS,_,e,z⟩) fun z=>by rw [z]; exact hp
  ·rw [List.getElem?_set_ne hn] at e1
   refine .inl ⟨j,hj,l,e1,ho.ext fun q=>?_⟩
   cases l with
   | mh c=>exact absurd (s1.one n j _ _ e e1) hn
   | _=>cases q
 ·unfold Rep
  refine ⟨p,?_,rfl⟩
  show (μ1.l ++ [p])[cs.length]? = some p
  rw [show cs.length=μ1.l.length from hlen,List.getElem?_append_right (Nat.le_refl _),Nat.sub_self]
  rfl
def Jy(n:Nat):Env→XO Dt:=fun ρ=>match DM n ρ with
 | some cs=>.ok (.ad cs.length) (ρ.set n (some (.mh (cs ++ [.dic [] []]))))
 | none=>.bad
theorem Uk(hS:n∈S):MR K W S tDNewK (Jy n) []:=by
 intro μ H0 A0 ρ σ H Q s h
 unfold Jy at h
 intro p hp
 split at h
 ·rename_i cs ec
  obtain ⟨t1,t2,t3⟩:=aL (S:=S) (c:=.dic [] []) (H2:=upd H p (.dK [])) hS s ec (Same.new hp) hp fun A' hA=>⟨s.same.free hp,[],upd_same,rfl,Ah.nil⟩
  exact h _ _ _ t2 t1 (t3 _ _)
 ·exact False.elim h
def Uz(n:Nat)(x:Dt)(k:Key)(d:Dt)(ρ:Env):Option Env:=match x with
 | .ad j=>(DM n ρ).bind fun cs=>match cs[j]? with
  | some (.dic ks ds)=>if ks.length < 16777216 then some (ρ.set n (some (.mh (cs.set j (.dic (Es ks k) (CW ks ds k d)))))) else none
  | _=>none
 | _=>none
def G4(n:Nat)(fx fk:Env→Out Dt)(f:Env→XO Dt)(lk:List Nat):Env→SOut:=fun ρ=>xE (f ρ) fun d ρ1=>HU (fx (AL d lk ρ1)) (AL d lk ρ1) fun x=>HU (fk (AL d lk ρ1)) (AL d lk ρ1) fun k=>match (keyD k).bind fun k=>Uz n x k d (AL d lk ρ1) with
 | some ρ'=>.ok .nx ρ'
 | none=>.bad
theorem Y5{te tx tk:TE}{f:Env→XO Dt}{fx fk:Env→Out Dt}(ha:MR K W S te f lk)(hx:Dx K W tx fx la)(hk:Dx K W tk fk lb):IF K W (sDPut tx tk te) (G4 n fx fk f lk):=by
 intro μ H0 A0 ρ σ H D s h
 unfold G4 at h
 refine ha _ _ _ _ _ _ _ s (AY.xt h fun d ρ1 _ h1 μ1 v H1 c1 s1 r1=>?_)
 obtain ⟨s2,r2⟩:=s1.Td r1
 refine hx _ _ _ _ _ _ _ s2 (AY.st s2 (h1.ext c1.xt) fun x _ h2 w H2 g2 rx=>?_)
 have s3:=s2.grow g2
 refine hk _ _ _ _ _ _ _ s3 (AY.st s3 h2 fun k _ h3 w' H3 g3 rk=>?_)
 have s4:=s3.grow g3
 split at h3
 ·rename_i ρ' ep
  obtain ⟨k',ek,ep⟩:=Option.bind_eq_some_iff.mp ep
  unfold Uz at ep
  split at ep
  ·rename_i j _ _
   obtain ⟨cs,ec,ep⟩:=Option.bind_eq_some_iff.mp ep
   split at ep
   ·rename_i ks ds e1
    split at ep
    ·rename_i hl
     cases ep
     unfold Rep at rx
     obtain ⟨b,eb,rfl⟩:=rx
     obtain ⟨_,_,hc⟩:=s4.lo n _ (CM ec)
     obtain ⟨h0,kvs,hb,hks,r⟩:=hc j _ b e1 eb
     subst hks
     have ew:=IY ek rk
     subst ew
     refine ⟨b,_,rfl,DPut.k hb (by rw [List.length_map] at hl; rw [sizeLine_eq]; exact hl),?_⟩
     refine h3 _ _ _ (Xt.refl _) (s4.b0 (c':=.dic (Es (kvs.map (·.1)) k') (CW (kvs.map (·.1)) ds k' d)) (CM ec) e1 rfl eb rfl fun A' hA=>?_)
     have ow:Bj ⟨K,μ1⟩ (AL d lk ρ1) σ n b:=⟨_,CM ec,j,_,e1,rfl,eb⟩
     exact ⟨h0,putK kvs k' v,upd_same,Kv,(KG ((r2.same g2).same g3) r).mono (Av.keep ow) hA⟩
    ·cases ep
   ·cases ep
  ·cases ep
 ·exact False.elim h3
def IL(i:Nat)(fk:Env→Out Dt)(f:Env→XO Dt)(lk:List Nat):Env→SOut:=fun ρ=>xE (f ρ) fun d ρ1=>match (AL d lk ρ1)[i]? with
 | some (some (.od ks ds))=>HU (fk (AL d lk ρ1)) (AL d lk ρ1) fun k=>(match keyD k with
  | some k=>if ks.length < 16777216 then .ok .nx ((AL d lk ρ1).set i (some (.od (Es ks k) (CW ks ds k d)))) else .bad
  | none=>.bad)
 | _=>.bad
theorem YE{i:Nat}{te tk:TE}{f:Env→XO Dt}{fk:Env→Out Dt}(ha:MR K W S te f la)(hk:Dx K W tk fk lb):IF K W (sDPut (tVar i) tk te) (IL i fk f la):=by
 intro μ H0 A0 ρ σ H D s h
 unfold IL at h
 refine ha _ _ _ _ _ _ _ s (AY.xt h fun d ρ1 _ h2 μ1 v H1 c1 s1 r1=>?_)
 obtain ⟨s2,r2⟩:=s1.Td r1
 split at h2
 ·rename_i ks ds e2
  obtain ⟨a,kvs,e1,h0,h1,hks,r3⟩:=s2.lo i _ e2
  refine ⟨_,e1,?_⟩
  refine hk _ _ _ _ _ _ _ s2 (AY.st s2 (h2.ext c1.xt) fun k _ h3 w H2 s3 r4=>?_)
  have sg:=s2.grow s3
  split at h3
  ·rename_i k' ek
   split at h3
   ·rename_i hl
    subst hks
    have ew:=IY ek r4
    subst ew
    have h1':=s3 _ _ h1
    refine ⟨a,_,rfl,DPut.k h1' (by rw [List.length_map] at hl; rw [sizeLine_eq]; exact hl),?_⟩
    exact h3 _ _ _ (Xt.refl _) (sg.kD e2 e1 Kv (KG (r2.same s3) (r3.same s3)))
   ·exact False.elim h3
  ·exact False.elim h3
 ·exact False.elim h2
end
section
variable {X:Cx} {W:WX} {S:List Nat} {e o a:Expr} {fs:Env→Out (List Dt)} {f:Env→XO Dt} {fo fk:Env→Out Dt} {lk la lb:List Nat} {p p1 p2 pos:Pos} {n j:Nat}
theorem VX(hS:n∈S:=by decide):KR X W S (.Dict [] [] p) (Jy n) []:=⟨_,pe_dnewK,Uk hS⟩
theorem Xf(n:Nat)(hr:Room j X.A)(h:KR X W S e f lk)(ho:Bc X W o fo la)(hk:Bc X W a fk lb)(hs:swapsWith e (some (.Subscript o a p2)) pos.line X.env=pure false:=by rfl):MQ X W (.Assign [.Subscript o a p2] e pos) (G4 n fo fk f lk):=by
 obtain ⟨t,p,d⟩:=h
 obtain ⟨t',p',d'⟩:=ho
 obtain ⟨t'',p'',d''⟩:=hk
 exact ⟨_,ps_dput (by have:=hr.un; omega) p' p'' p hs,Y5 d d' d''⟩
theorem dF(hr:Room j X.A)(i:Nat){x:Str}(h:KR X W S e f lk)(hk:Bc X W a fk la)(hN:X.N[i]? = some x:=by rfl)(hv:Vis X.env.scope x:=by first | exact Or.inl rfl | exact Or.inr (Or.inl rfl) | exact Or.inr (Or.inr rfl))(hd:(x == ("__debug__" : Str))=false:=by decide)
  (hcd:(x == ("__classdict__" : Str))=false:=by decide) (hs:swapsWith e (some (.Subscript (.Name x p1) a p2)) pos.line X.env=pure false:=by rfl):MQ X W (.Assign [.Subscript (.Name x p1) a p2] e pos) (IL i fk f lk):=by
 obtain ⟨t,p,d⟩:=h
 obtain ⟨t',p',d'⟩:=hk
 exact ⟨_,ps_dput (by have:=hr.un; omega) (pe_var hN hv hd hcd) p' p hs,YE d d'⟩
end
end FD
namespace L2
open PySem PySem.Spec PyProof.Rows
section
variable {X:Cx}
end
end L2
namespace FD
open PySem L2 PyProof.Rows PySem.Spec
end FD
namespace FD
open PySem L2 PyProof.Rows PySem.Spec
section
variable {prog:Program} {w:World} {A:Around} {E:Value→Shared→Prop}
end
end FD
namespace FD
open PySem L2 PyProof.Rows PySem.Spec
section
variable {P:Program} {w:World} {K:PySem.W.Frag} {mg:Str→Option Value} {base:Heap} {A:Around} {outer:List PySem.Env} {s:Shared} {H:Hp}
end
def Vf(P:Program)(w:World)(K:PySem.W.Frag)(mg:Str→Option Value)(base:Heap)(CX:CXT)(k:Nat)(f:Addr)(np:Nat)(ks:List Str)(sp:Sp):Prop:=
 ∀ (A:Around) (outer:List PySem.Env) (s:Shared) (H:Hp) (us kus:List Value) (vs:List V) (Q:VK) (E:XK),us.length=np→kus.length=ks.length→Room k A→Env0 P w K mg base A outer s H→Vals vs (us ++ kus)→sp vs H Q E →
  codeAny (model P w) A (.call (.ref f) ⟨us,ks.zip kus⟩) (CR CX outer P w H s Q E) s
section
variable {CX:CXT} {P:Program} {w:World} {K:PySem.W.Frag} {mg:Str→Option Value} {base:Heap} {k:Nat} {f:Addr} {name qual:Str} {params:Arguments} {body:List Stmt} {scope:Scope} {dV kV doc pm cdv ct oc:Value} {an od:Option Addr}
 {osl:Array (Option Value)} {N ps:List Str} {sp:Sp} {pd:Str} {ks:List Str}
end
end FD
namespace FD
open PySem L2 PyProof.Rows PySem.Spec
section
variable {P:Program} {w:World} {K:PySem.W.Frag} {mg:Str→Option Value} {base:Heap}
theorem Vf.imp{CX:CXT}{k:Nat}{f:Addr}{np:Nat}{ks:List Str}{sp sp':Sp}(F:Vf P w K mg base CX k f np ks sp)(h:∀ vs H Q E,vs.length=np + ks.length→sp' vs H Q E→sp vs H Q E):Vf P w K mg base CX k f np ks sp':=fun A outer s H us kus vs Q E h1 h2 hr e0 r hs=>
 F A outer s H us kus vs Q E h1 h2 hr e0 r (h _ _ _ _ (by rw [r.length,List.length_append,h1,h2]) hs)
theorem Vf.mono{CX:CXT}{j k:Nat}{f:Addr}{np:Nat}{ks:List Str}{sp:Sp}(F:Vf P w K mg base CX j f np ks sp)(h:j≤k):Vf P w K mg base CX k f np ks sp:=fun A outer s H us kus vs Q E h1 h2 hr=>F A outer s H us kus vs Q E h1 h2 (hr.mono h)
structure MeK (P:Program) (w:World) (K:PySem.W.Frag) (mg:Str→Option Value) (base:Heap) (k:Nat) (C:Addr) (m:Str) (ks:List Str) (ψ:List Dt→Out Dt):Prop where
 cls:Cls K C
 ex:∃ f,Meth K C m f∧Vf P w K mg base (L2N.CX P w) k f 1 ks (Np K ψ)
end
structure PKs (X:Cx) (es:List Keyword) (t:TA):Prop where
 run:∀ (pos:Pos) (pins:List (Addr × Obj)) (s:Shared) (σ:L2.St) (H:Hp) (Q:List V→Hp→Prop),Inv X pins σ H s→t σ H Q→wpAny (model X.prog X.w) X.A (evalAll ((backToKw pos (keywordEach es X.env)).map (·.2))) (fun us s'=>us.length=es.length∧AP X pins σ Q us s') X.xe s
section
variable {X:Cx} {W:WX} {o e:Expr} {te ta:TE} {t:TA} {kws:List Keyword} {pos apos p:Pos} {name:Str} {fo f:Env→Out Dt} {fs:Env→Out (List Dt)} {la lk:List Nat} {ks:List Str}
end
end FD
namespace FD
open PySem L2 PyProof.Rows PySem.Spec
def La(ks:List Key)(j:Key):List Key:=ks.filter fun k=>decide (k≠j)
def Gg:List Key→List Dt→Key→List Dt
 | k :: ks,d :: ds,j=>if k=j then Gg ks ds j else d :: Gg ks ds j
 | _,_,_=>[]
theorem V2{kvs:List (Key × V)}{k:Key}:(dropK kvs k).map (·.1)=La (kvs.map (·.1)) k:=by
 unfold dropK La
 rw [List.filter_map]
 rfl
theorem Qo{κ:KM}{H:Hp}{A:Ad}{k:Key}:∀ {kvs:List (Key × V)} {ds:List Dt},Ah κ H A ds (kvs.map (·.2))→Ah κ H A (Gg (kvs.map (·.1)) ds k) ((dropK kvs k).map (·.2))
 | [],ds,r=>by
  show Ah κ H A (Gg [] ds k) []
  unfold Gg
  exact Ah.nil
 | p :: kvs,[],r=>by
  unfold Ah at r
  cases r
 | p :: kvs,d :: ds,r=>by
  unfold Ah at r
  obtain ⟨u,us,e,r1,r2⟩:=r
  rw [List.map_cons] at e
  obtain ⟨e1,e2⟩:=List.cons.inj e
  subst e1 e2
  have ih:=Qo (k:=k) r2
  rw [List.map_cons]
  unfold Gg dropK
  rw [List.filter_cons]
  by_cases h:p.1=k
  ·rw [if_pos h,if_neg (by simp [h])]
   exact ih
  ·rw [if_neg h,if_pos (by simp [h])]
   exact Ah.cons r1 ih
theorem ZK{kvs:List (Key × V)}{k:Key}(h:k∈kvs.map (·.1)):valV kvs k≠none:=by
 obtain ⟨p,hp,e⟩:=List.mem_map.mp h
 unfold valV
 intro z
 rw [Option.map_eq_none_iff,List.find?_eq_none] at z
 exact z p hp (by simpa using e)
section
variable {K:PySem.W.Frag} {W:WX} {la lb:List Nat}
end
section
variable {X:Cx} {W:WX} {e f:Expr} {fk fz:Env→Out Dt} {la lb:List Nat} {apos cpos pos p1:Pos}
end
end FD
namespace FD
open PySem L2 PyProof.Rows PySem.Spec
end FD
namespace FD
open PySem L2 PyProof.Rows PySem.Spec
section
variable {K:PySem.W.Frag} {S:List Nat} {W:WX} {lk:List Nat} {X:Cx} {tg e:Expr}
end
end FD
namespace L2
open PySem PySem.Spec PyProof.Rows
section
variable {X:Cx}
end
end L2
namespace FD
open PySem L2 PyProof.Rows PySem.Spec
end FD
namespace L2
open PySem PySem.Spec PyProof.Rows
section
variable {X:Cx}
end
end L2
namespace FD
open PySem L2 PyProof.Rows PySem.Spec
section
variable {K:PySem.W.Frag} {S:List Nat} {la lb:List Nat} {W:WX} {n:Nat}
end
section
variable {X:Cx} {W:WX} {S:List Nat} {a b:Expr} {fa fb:Env→XO Dt} {la lb:List Nat} {pos:Pos}
end
section
variable {X:Cx} {W:WX} {e:Expr} {f:Env→Out Dt} {la:List Nat} {pos p2:Pos} {lo hi:Option Expr} {fl fh:Env→Out (Option Int)}
end
section
variable {K:PySem.W.Frag} {S:List Nat} {σ:L2.St} {μ μ':Mu} {H H' H0:Hp} {ρ ρ':Env} {A0:Ad} {lk la lb:List Nat} {W:WX} {d e:Dt} {v:V} {cs cs':List Cell} {n k:Nat} {c:Cell} {a:Addr}
end
section
variable {X:Cx} {W:WX} {e:Expr} {fs:Env→Out (List Dt)} {lk:List Nat} {p pos:Pos}
end
end FD
namespace PySem.FX
open PySem PySem.W PySem.Calls PyProof.Rows PySem.Spec
end PySem.FX
namespace TxS
open PySem PySem.Spec PyProof.Rows L2
def kS(e:Int × Value):Str:=match e.2 with | .str k _=>k | _=>Str.empty
def Tx1(w:World)(e:Int × Value):Prop:=∃ k t,e.2=Value.str k t∧e.1=hashStr w k
def Hl(ks:List Str)(k:Str):List Str:=if k∈ks then ks else k :: ks
def g8(w:World)(h:Heap)(a:Addr)(ks:List Str):Prop:=
 ∃ o es ep t,h.get? a=some o∧o.ExactSet∧o.data=.set es ep t∧(∀ e∈es.toList,Tx1 w e)∧(es.toList.map kS).Perm ks∧ks.Nodup∧es.size < scanBound∧t.fits es.size=true∧Ris t.place.toList∧(w.params.followText "set-order" = true∨t.led=true)
section
variable {P:Program} {w:World} {h h':Heap} {a:Addr} {ks:List Str}
theorem g8.at(R:g8 w h a ks)(k:∀ o,h.get? a=some o→h'.get? a=some o):g8 w h' a ks:=by
 obtain ⟨o,es,ep,t,ho,r⟩:=R
 exact ⟨o,es,ep,t,k o ho,r⟩
end
section
variable {P:Program} {w:World} {A:Around} {E:Value→Shared→Prop} {s:Shared} {a:Addr} {ks:List Str}
end
section
variable {P:Program} {w:World} {A:Around} {E:Value→Shared→Prop} {s:Shared}
end
section
variable {P:Program} {w:World} {A:Around} {E:Value→Shared→Prop} {s:Shared} {a:Addr} {ks:List Str}
end
end TxS
namespace TxS
open PySem PySem.Spec PyProof.Rows L2
section
variable {P:Program} {w:World} {A:Around} {E:Value→Shared→Prop} {s:Shared}
end
end TxS
namespace FD
open PySem L2 PyProof.Rows PySem.Spec TxS
section
variable {X:Cx} {W:WX} {a:Expr} {ta:TE} {f:Env→Out Dt} {la:List Nat} {p p2 q pos:Pos}
end
end FD
namespace LiI
open PySem PySem.W PySem.Spec PyProof.Rows L2 TxS
mutual
theorem Uw{h:Heap}:∀ {v:Value} {d:PyData} {as:List Addr},Reads h v d as→∀ a∈as,a < h.objs.size
 | _,_,_,.none,a,q=>nomatch q
 | _,_,_,.bool b,a,q=>nomatch q
 | _,_,_,.int i t,a,q=>nomatch q
 | _,_,_,.str x t,a,q=>nomatch q
 | _,_,_,.list h1 h2 h3 h4,a,q=>(List.mem_cons.mp q).elim (fun e=>e ▸ Heap.lt_size h1) (F3 h4 a)
 | _,_,_,.tuple h1 h2 h3 h4,a,q=>F3 h4 a q
 | _,_,_,.dict h1 h2 h3 h4 h5,a,q=>(List.mem_append.mp q).elim (fun q=>(List.mem_cons.mp q).elim (fun e=>e ▸ Heap.lt_size h1) (F3 h4 a)) (F3 h5 a)
theorem F3{h:Heap}:∀ {vs:List Value} {ds:List PyData} {as:List Addr},ReadsAll h vs ds as→∀ a∈as,a < h.objs.size
 | _,_,_,.nil,a,q=>nomatch q
 | _,_,_,.cons h1 h2,a,q=>(List.mem_append.mp q).elim (Uw h1 a) (F3 h2 a)
end
section
variable {X:Cx}
theorem Ua{pins:List (Addr × Obj)}{σ:L2.St}{H:Hp}{s:Shared}{h':Heap}{tk:Nat}{kvs:List (Key × V)}{vs:List (Key × Value)}{as:List Addr}(I:Inv X pins σ H s)(kv:KV kvs vs)
  (hk:∀ b o,s.heap.get? b=some o→h'.get? b=some o) (hl:as.length=vs.length) (hG:PySem.W.KdxG (mixKind X.prog X.w) vs s.heap.objs.size h' as):
  ∃ H':Hp,(∀ b o,H b=some o→H' b=some o)∧(∀ t∈as,H t=none)∧Paired (fun (t:Addr) (q:Key × V)=>H' t=some (.tup [kV q.1,q.2])) as kvs∧Inv X pins σ H' { s with heap:=h',toks:=tk }:=by
 have lk:kvs.length=vs.length:=Paired.length kv
 have nd:as.Nodup:=List.Pairwise.imp (fun {a b} (h:a < b)=>Nat.ne_of_lt h) hG.rise
 have new:∀ t∈as,H t=none:=fun t ht=>I.hok.fresh (Nat.le_of_lt (hG.above t ht))
 have atP:=putT_at as kvs H (by omega) nd
 have off:∀ b,b∉as→putT H as kvs b=H b:=fun b h1=>putT_off as kvs H h1
 have low:∀ b o,s.heap.get? b=some o→b∉as:=fun b o e z=>absurd (Heap.lt_size e) (Nat.not_lt.mpr (Nat.le_of_lt (hG.above b z)))
 have kp:∀ b u,H b=some u→(putT H as kvs) b=some u:=fun b u e=>by
  rw [off b (fun z=>by rw [new b z] at e; cases e)]
  exact e
 refine ⟨putT H as kvs,kp,new,atP,?_⟩
 refine I.call' (ch:=[]) rfl ⟨fun b o q _ _ _=>hk b o q,fun b o q _ _ _=>⟨o.slots,hk b o q⟩,fun b o q n _=>?_,fun b o q _=>⟨o,hk b o q⟩,fun b xs q=>kp b _ q,fun b o u q=>kp b _ q,fun b ps q=>⟨#[],by rw [kp b _ q]; simp⟩⟩ (fun b u q=>?_) I.bare fun b z=>by simp at z
 ·rw [off b (low b o q)]
  exact n
 ·by_cases hb:b∈as
  ·obtain ⟨j,pk,e1,e2,e3⟩:=paired_ix atP hb
   rw [e3] at q
   cases q
   obtain ⟨key,k,x,f1,f2,f3⟩:=hG.pairs j b e1
   obtain ⟨qv,g1,g2,g3⟩:=paired_get kv e2
   rw [f1] at g1
   cases g1
   have rk:RelV (kV pk.1) key:=by
    rw [g2]
    exact relV_key (show keyIs k key=true from f2)
   exact ⟨by show 2≤sizeLine; decide,[key,x],.cons rk (.cons g3 .nil),⟨_,f3,rfl,_,rfl⟩⟩
  ·rw [off b hb] at q
   exact (I.hok b u q).stay (fun d v _ y=>hk d v y) (fun d y=>kp d _ y) fun d xs y=>kp d _ y
def cL(K:PySem.W.Frag):V→Hp→VK→Prop:=fun v H Q=>∃ (a:Addr) (es:List (Key × V)),v=.ref a∧Rd H a (.dK es) ∧
 ∀ (G:Hp) (us:List Addr),(∀ c u,H c=some u→G c=some u)→(∀ u∈us,H u=none)→Paired (fun (u:Addr) (z:Key × V)=>G u=some (.tup [kV z.1,z.2])) us es →
  ∃ ds:List PyData,DpAll K G (us.map V.ref) ds∧PySem.W.AllAlike ds∧PySem.W.Sortable ds∧(∀ d∈ds,d.depth≤60)∧∀ q,G q=none→Q (.ref q) (upd G q (.lst ((((us.map V.ref).zip ds).mergeSort R7).map (·.1))))
def Xo(K:PySem.W.Frag)(t:TE):TE:=fun σ H Q=>t σ H fun v G=>cL K v G Q
theorem X5{a:Expr}{t:TE}{q1 q2 q3 q4:Pos}(hu:X.A.units + 68 < cLine)(ca:X.calm=true)(pa:PE X a t)(gl:Gl X "sorted")(no:X.mg "sorted" = none)(b1:attributeBase a "items" X.env (eval a X.env)=eval a X.env:=by rfl)(ln:(q2.endLine == q3.line)=true:=by rfl)
  (st:starEach [.Call (.Attribute a "items" q2) [] [] q3] X.env=(false,eval (.Call (.Attribute a "items" q2) [] [] q3) X.env) :: starEach [] X.env:=by rfl):
  PE X (.Call (.Name "sorted" q1) [.Call (.Attribute a "items" q2) [] [] q3] [] q4) (Xo X.K t):=by
 constructor
 intro pins s σ H Q I go
 refine Call_ (ld_blt I gl no PyProof.Rows.boot_sorted ?_)
 refine callWith_builtin1 (args_cons ?_ st) rfl rfl
 refine wpAny_Call_method (T:="dict") (id:="dict.items") b1 rfl ln F.plainAttrs_dict F.slot_dict_items F.type_dict_items (thn (pa.run pins s σ H _ I go) fun u s1 ⟨v,G,J,rv,d,es,ev,rd,k⟩=>?_)
 subst ev
 obtain rfl:u=Value.ref d:=rv
 obtain ⟨w1,w2,vs,kv,od⟩:=rd.ok J.hok
 obtain ⟨ep,OF⟩:=od.dictAt
 have ll:es.length=vs.length:=Paired.length kv
 have J2:Inv X pins σ G { s1 with heap:=s1.heap.push { cls:=.type "dict_items",data:=.fields #[.ref d] } }:=J.kept (t':=s1.toks) fun b ob e=>Heap.get?_push_of_some _ e
 refine ⟨od.typeIs,od.mapOf.noDict,?_⟩
 show wpAny _ _ (callWith q3 (.builtin "dict.items") [.ref d] [] []) _ X.xe s1
 refine method_meetsIn F.slot_dict_items F.entry_dict_items rfl (PySem.evalArgs_none ⟨rfl,od.typeIs,F.args_dict_items_1 _,_,meets_dict_items (mixKind X.prog X.w) d w2,⟨vs,od⟩,?_⟩)
 refine args_nil ?_
 refine Calls.call_function_entry kind_sorted plain_sorted entry_sorted (args_sorted1 _) ?_
 unfold Builtin.«sorted»
 refine wpAny_bind (m:=checkCount "sorted" 1 1 _) (wpAny_pure ?_)
 refine wpAny_bind (PySem.W.kdx_collect (A:=X.A.in1) (knd:=mixKind X.prog X.w) (kvs:=vs) (ep:=ep) (J.ok.hd ca) ⟨_,Heap.get?_push_size _ rfl,rfl,rfl⟩ (OF.push _) (by omega) fun h' tk as keep hl hG=>?_)
 obtain ⟨G',k1,k2,k3,J3⟩:=Ua (tk:=tk) J2 kv keep hl hG
 obtain ⟨ds,dp,al,so,dpt,q⟩:=k G' as k1 k2 k3
 obtain ⟨e1,e2,e3⟩:=Ta J3 (vals_refs as) dp
 have hvz:(as.map Value.ref).length≤sizeLine:=by rw [List.length_map]; omega
 refine wpAny_bind (wpAny_newList ?_ hvz)
 have hoL:(h'.push (seqObj "list" (as.map Value.ref).toArray 0)).get? h'.objs.size=some (seqObj "list" (as.map Value.ref).toArray 0):=Heap.get?_push_size _ rfl
 refine wpAny_bind (wpAny_holding ?_)
 refine PySem.W.list_sort_data (R:=fun u b=>RelV b.1 u) (bs:=(as.map V.ref).zip ds) (enc:=fun p:V × PyData=>p.2) hoL e1 (e2.mono fun v b ⟨bs,r⟩=>⟨bs,Reads.keeps (fun b o e=>Heap.get?_push_of_some _ e) r,fun z=>absurd (Uw r _ z) (Nat.lt_irrefl _)⟩) (by rw [e3]; exact al) (by rw [e3]; exact so) (by rw [← e1.length]; exact hvz) (fun b hb=>?_) fun out ho2 he2=>?_
 ·have:b.2∈ds:=by rw [← e3]; exact List.mem_map.mpr ⟨b,hb,rfl⟩
  have:=dpt _ this
  show X.A.in1.units + 1 + b.2.depth < cLine
  have:X.A.in1.units≤X.A.units + 1:=by first | exact Nat.le_refl _ | (show X.A.units + 1≤X.A.units + 1; omega)
  omega
 ·obtain ⟨c,hc⟩:=sortedHeap_at (vs:=as.map Value.ref) (out:=out.toArray) hoL
  have hv:=L2.MV he2
  have keep2:∀ b o,h'.get? b=some o→(sortedHeap (h'.push (seqObj "list" (as.map Value.ref).toArray 0)) h'.objs.size (as.map Value.ref) out.toArray).get? b=some o:=fun b u e=>by
   have hlt:=Heap.lt_size e
   rw [sortedHeap_old (Nat.ne_of_lt hlt) (by rw [size_push']; exact Nat.lt_succ_of_lt hlt)]
   exact Heap.get?_push_of_some _ e
  refine wpAny_pure ⟨_,rfl,.ref h'.objs.size,upd G' h'.objs.size (.lst ((((as.map V.ref).zip ds).mergeSort R7).map (·.1))),?_,rfl,q _ (J3.hok.fresh (Nat.le_refl _))⟩
  refine J3.laid (t':=tk) keep2 (Nat.le_refl _) ⟨?_,out,c,hv,hc⟩
  show ((((as.map V.ref).zip ds).mergeSort R7).map (·.1)).length≤sizeLine
  rw [List.length_map,List.length_mergeSort,← e1.length]
  exact hvz
end
end LiI
namespace FD
open PySem L2 PyProof.Rows PySem.Spec
def Oo:Dt→Option (List Dt)
 | .dic ks ds=>BU [.lst (dI ks ds)]
 | _=>none
def N8(f:Env→Out Dt):Env→Out (List Dt):=fun ρ=>(f ρ).bind fun a=>FU (Oo a)
theorem VT{f:Env→Out Dt}{ρ:Env}:N8 f ρ=(f ρ).bind fun a=>FU (Oo a):=rfl
theorem Nx{G G':Hp}(k:Same G G'):∀ {us:List Addr} {es:List (Key × V)},Paired (fun (u:Addr) (z:Key × V)=>G u=some (.tup [kV z.1,z.2])) us es→Paired (fun (u:Addr) (z:Key × V)=>G' u=some (.tup [kV z.1,z.2])) us es
 | _,_,.nil=>.nil
 | _,_,.cons h t=>.cons (k _ _ h) (Nx k t)
section
variable {K:PySem.W.Frag} {W:WX} {la:List Nat}
theorem Vw{t:TE}{f:Env→Out Dt}(ha:Dx K W t f la):aS K W (LiI.Xo K t) (N8 f) la:=by
 intro μ H0 A0 ρ σ H Q s h
 refine ha _ _ _ _ _ _ _ s (h.seq fun a ea h1 v1 H1 s1 r1=>?_)
 clear ea
 obtain ⟨ds,e,q⟩:=BM h1
 cases a <;> try (cases e; done)
 rename_i ks es
 obtain ⟨a,kvs,rfl,g1,g2,g3⟩:=GW r1
 subst g2
 unfold Oo BU at e
 obtain ⟨es',e1,e⟩:=Option.bind_eq_some_iff.mp e
 cases e1
 obtain ⟨ps,e2,e⟩:=Option.bind_eq_some_iff.mp e
 obtain ⟨⟨h3,h4⟩,rfl⟩:=Bf e
 refine ⟨a,kvs,rfl,g1,fun G us keep hu hpair=>?_⟩
 have hus:∀ u∈us,¬ Av ⟨K,μ⟩ A0 ρ σ la u:=fun u hu'=>s.NB (s1.free (hu u hu'))
 have rr:=IT (g3.same keep) hpair hus
 unfold ML at h4
 rw [Bool.and_eq_true,Bool.or_eq_true] at h4
 obtain ⟨h5,h6⟩:=h4
 refine ⟨ps,Ah.cq _ _ ps e2 rr,fun d hd d' hd'=>List.all_eq_true.mp (List.all_eq_true.mp h3 d hd) d' hd',?_,fun d hd=>of_decide_eq_true (List.all_eq_true.mp h6 d hd),fun p hp=>?_⟩
 ·rcases h5 with h5 | h5
  ·refine .inl fun d hd=>?_
   have:=List.all_eq_true.mp h5 d hd
   cases d <;> try (exact Bool.noConfusion this)
   rename_i l
   cases l with
   | nil=>exact Bool.noConfusion this
   | cons x l=>exact ⟨x,l,rfl⟩
  ·refine .inr fun d hd=>?_
   have:=List.all_eq_true.mp h5 d hd
   cases d <;> first | exact Bool.noConfusion this | exact ⟨(fun z=>nomatch z),(fun xs z=>nomatch z)⟩
 ·have hp1:H1 p=none:=by
   cases hx:H1 p with
   | none=>rfl
   | some o=>
    have:=keep p o hx
    rw [hp] at this
    cases this
  have kn:Same G (upd G p (.lst ((((us.map V.ref).zip ps).mergeSort R7).map (·.1)))):=Same.new hp
  have hne:∀ u∈us,u≠p:=fun u hu' e2=>by
   obtain ⟨_,_,_,_,e3⟩:=LiI.paired_ix hpair hu'
   rw [e2,hp] at e3
   cases e3
  have rr2:=IT (((Ah.fresh hp1 _ _ g3).same keep).same kn) (Nx kn hpair) (fun u hu'=>by
   rintro (z | z)
   ·exact hus u hu' z
   ·exact hne u hu' z)
  have ee:=Nd (ps:=ps) rr2
  have rs:=M4 (PySem.W.sort_each (r:=S9) (s:=R7) ee fun p hp q hq=>by
   have a1:=(ee.zip p hp).2
   have a2:=(ee.zip q hq).2
   show jJ p.1.2 q.1.2=jJ p.2.2 q.2.2
   rw [a1,a2])
  exact q p _ _ ((s1.trans keep).trans kn) ((s1.trans keep).free hp) upd_same rs
end
theorem YS{X:Cx}{W:WX}{a:Expr}{f:Env→Out Dt}{la:List Nat}{j:Nat}{q1 q2 q3 q4:Pos}(hr:Room j X.A)(ca:X.calm=true)(ha:Bc X W a f la)(gl:Gl X "sorted")(no:X.mg "sorted" = none)(b1:attributeBase a "items" X.env (eval a X.env)=eval a X.env:=by rfl)(ln:(q2.endLine == q3.line)=true:=by rfl)
  (st:starEach [.Call (.Attribute a "items" q2) [] [] q3] X.env=(false,eval (.Call (.Attribute a "items" q2) [] [] q3) X.env) :: starEach [] X.env:=by rfl):Za X W (.Call (.Name "sorted" q1) [.Call (.Attribute a "items" q2) [] [] q3] [] q4) (N8 f) la:=by
 obtain ⟨t,p,d⟩:=ha
 exact ⟨_,LiI.X5 (by have:=hr.un; omega) ca p gl no b1 ln st,Vw d⟩
end FD
namespace FD
open PySem L2 PyProof.Rows PySem.Spec
theorem Rf{X:Cx}{pins:List (Addr × Obj)}{σ:L2.St}{H:Hp}{s:Shared}(I:Inv X pins σ H s):∀ {ps:List Addr} {kvs:List (Key × V)},Paired (fun p kv=>SqT X.K H p [kV kv.1,kv.2]) ps kvs →
  ∃ (prs:List (Key × Value)) (vps:List (Value × Value)),KV kvs prs∧prs.length=ps.length∧vps.length=ps.length ∧
   ∀ (j:Nat) (u y:Value),vps[j]? = some (u,y)→∃ (b:Addr) (k:Key),ps[j]? = some b∧prs[j]? = some (k,y)∧IsTup s.heap b #[u,y]∧keyIs k u=true
 | _,_,.nil=>⟨[],[],.nil,rfl,rfl,fun j u y e=>by simp at e⟩
 | _,_,.cons (a:=p) (b:=kv) h t=>by
  obtain ⟨prs,vps,r,hl,hl2,hp⟩:=Rf I t
  obtain ⟨its,rv,ht,_⟩:=I.tuple h
  obtain ⟨u,y,ei,ru,ry⟩:=vals2 rv
  subst ei
  refine ⟨(kv.1,y) :: prs,(u,y) :: vps,.cons ⟨rfl,ry⟩ r,by rw [List.length_cons,List.length_cons,hl],by rw [List.length_cons,List.length_cons,hl2],fun j u' y' e=>?_⟩
  cases j with
  | zero=>
   have e':(u,y)=(u',y'):=Option.some.inj e
   cases e'
   exact ⟨p,kv.1,rfl,rfl,ht,kV_is (P:=X.prog) (w:=X.w) ru⟩
  | succ j=>
   obtain ⟨b,k,e1,e2,e3,e4⟩:=hp j u' y' (by simpa using e)
   exact ⟨b,k,by simpa using e1,by simpa using e2,e3,e4⟩
def Vy(K:PySem.W.Frag):List V→Hp→VK→Prop:=fun xs H Q=>∃ (a:Addr) (o:Obj) (ps:List Addr) (kvs:List (Key × V)),xs=[.ref a]∧H a=some (.frz o (.tup (ps.map V.ref)))∧o.dict=none ∧
 Paired (fun p kv=>SqT K H p [kV kv.1,kv.2]) ps kvs∧∀ p,H p=none→Q (.ref p) (upd H p (.dK (mergeK [] kvs)))
theorem Po{X:Cx}(hcalm:X.calm=true):CallR X (.type "dict") (Vy X.K):=by
 intro pins s σ H xs us Q I r q
 obtain ⟨a,o,ps,kvs,ex,hk,hd,hp,q⟩:=q
 subst ex
 obtain ⟨u,eu,rx⟩:=vals1 r
 subst eu
 cases rx
 obtain ⟨ho,hz,its,rv,o',ho',hc,n,hdat⟩:=(show ObjOk X.prog X.w H s.heap a (.frz o (.tup (ps.map V.ref))) from I.hok a _ hk)
 rw [ho] at ho'
 cases ho'
 have ei:=refs_at rv
 subst ei
 rw [List.length_map] at hz
 obtain ⟨prs,vps,rel,hl,hl2,hpr⟩:=Rf I hp
 refine _root_.PySem.call_dict_pairs (knd:=mixKind X.prog X.w) (kvs:=prs) (PairArg.tuple a (ps.map Value.ref).toArray (fun j=>ps.getD j 0) vps) (I.ok.hd hcalm) ⟨⟨o,n,ho,hc,hd,hdat⟩,by simp [hl2],fun j k v e=>?_⟩ ⟨by rw [hl,hl2],fun j k v e=>?_⟩ (by rw [hl2]; exact hz) fun h' tk hd' kp=>?_
 ·obtain ⟨b,k',e1,e2,e3,e4⟩:=hpr j k v e
  have eg:ps.getD j 0=b:=by rw [List.getD_eq_getElem?_getD,e1] <;> rfl
  show (ps.map Value.ref).toArray[j]? = some (Value.ref (ps.getD j 0))∧PairAt s.heap (ps.getD j 0) k v
  rw [eg]
  exact ⟨by simp [e1],.inl e3⟩
 ·obtain ⟨b,k',e1,e2,e3,e4⟩:=hpr j k v e
  exact ⟨k',e2,e4⟩
 ·have hm:(s.heap.objs.size == sysModules)=false:=beq_eq_false_iff_ne.mpr (Nat.ne_of_gt I.big)
  have hlen:(mergeK [] kvs).length≤sizeLine:=by
   refine Nat.le_trans (length_mergeK kvs []) ?_
   rw [List.length_nil,Nat.zero_add,rel.length,hl]
   exact hz
  exact ⟨.ref s.heap.objs.size,upd H s.heap.objs.size (.dK (mergeK [] kvs)),I.laid (t':=tk) (fun b u e=>kp b u (fun z=>nomatch z) e) (Nat.le_refl _) (show ObjOk X.prog X.w _ _ _ (.dK (mergeK [] kvs)) from ⟨hlen,hm,merged [] prs,KV.merge rel .nil,hd'⟩),rfl,q _ (I.hok.fresh (Nat.le_refl _))⟩
end FD
namespace FD
open PySem L2 PyProof.Rows PySem.Spec
def fO(K:PySem.W.Frag):List V→Hp→VK→Prop:=fun xs H Q=>∃ p ys,xs=[.ref p]∧SqL K H p ys∧∀ (l:Addr) (o:Obj),H l=none→o.dict=none→Q (.ref l) (upd H l (.frz o (.tup ys)))
theorem Yx{X:Cx}:CallR X (.type "tuple") (fO X.K):=by
 intro pins s σ H xs us Q I r h
 obtain ⟨p,ys,rfl,hq,q⟩:=h
 obtain ⟨u,rfl,rx⟩:=vals1 r
 cases rx
 obtain ⟨its,r',pl,hz⟩:=I.list hq
 have hlen:=r'.length
 refine call_tuple_list pl.isList (fun h' kp=>?_) (by simp only [List.size_toArray] <;> omega)
 have I1:Inv X pins σ H { s with heap:=h' }:=I.kept (t':=s.toks) kp
 have I2:Inv X pins σ (upd H h'.objs.size (.frz { cls:=.type "tuple",data:=.seq its.toArray } (.tup ys))) { s with heap:=h'.push { cls:=.type "tuple",data:=.seq its.toArray } }:=
  I1.laid (t':=s.toks) (fun b o e=>Heap.get?_push_of_some _ e) (Nat.le_refl _) (show ObjOk X.prog X.w _ _ _ (.frz { cls:=.type "tuple",data:=.seq its.toArray } (.tup ys)) from ⟨Heap.get?_push_size _ rfl,hz,its,r',IsTup.new _ _⟩)
 exact ⟨.ref h'.objs.size,_,I2,rfl,q _ _ (I1.hok.fresh (Nat.le_refl _)) rfl⟩
end FD
namespace FD
open PySem L2 PyProof.Rows PySem.Spec
def J0:List Dt→Option Dt
 | [.lst ds]=>some (.ptp ds)
 | _=>none
theorem K9{ds:List Dt}:J0 [.lst ds]=some (.ptp ds):=rfl
theorem Ym{K:PySem.W.Frag}:Vc K (fO K) J0:=by
 intro μ H A ds d vs Q ha r e q
 unfold J0 at e
 split at e
 ·rename_i es
  cases e
  obtain ⟨v,rfl,rr⟩:=CO r
  obtain ⟨a,us,rfl,hs,r2⟩:=M0 (d:=.lst es) (ds:=es) rfl rr
  refine ⟨a,us,rfl,hs,fun l o hl ho=>q (.ref l) _ (Same.new hl) ?_⟩
  unfold Rep
  exact ⟨l,us,rfl,⟨fun z=>by have:=ha l z; rw [hl] at this; exact this,o,upd_same,ho⟩,r2.same (Same.new hl)⟩
 ·cases e
def prD:Dt→Option (Key × Dt)
 | .tup [.int i,d]=>some (.inl i,d)
 | .tup [.str s,d]=>some (.inr s,d)
 | _=>none
def XW:List Dt→Option (List (Key × Dt))
 | []=>some []
 | d :: ds=>(prD d).bind fun p=>(XW ds).map (p :: ·)
def Ef:List Dt→Option Dt
 | [.ptp ds]=>(XW ds).bind fun ps=>if (ps.map (·.1)).Nodup then some (.dic (ps.map (·.1)) (ps.map (·.2))) else none
 | _=>none
theorem j6{κ:KM}{H:Hp}{A:Ad}{d:Dt}{p:Key × Dt}{v:V}(h:prD d=some p)(r:Rep κ H A d v):∃ (a:Addr) (u:V),v=.ref a∧SqT κ.K H a [kV p.1,u]∧Rep κ H A p.2 u:=by
 unfold prD at h
 split at h
 ·cases h
  unfold Rep at r
  obtain ⟨a,vs,rfl,hs,r⟩:=r
  obtain ⟨x,y,rfl,r1,r2⟩:=Ri r
  have e:x=.int _:=r1
  subst e
  exact ⟨a,y,rfl,SqT.XD hs,r2⟩
 ·cases h
  unfold Rep at r
  obtain ⟨a,vs,rfl,hs,r⟩:=r
  obtain ⟨x,y,rfl,r1,r2⟩:=Ri r
  have e:x=.str _:=r1
  subst e
  exact ⟨a,y,rfl,SqT.XD hs,r2⟩
 ·cases h
theorem V4{κ:KM}{H:Hp}{A:Ad}:∀ {ds:List Dt} {ps:List (Key × Dt)} {vs:List V},XW ds=some ps→Ah κ H A ds vs→∃ (as:List Addr) (kvs:List (Key × V)),vs=as.map V.ref∧Paired (fun p kv=>SqT κ.K H p [kV kv.1,kv.2]) as kvs∧kvs.map (·.1)=ps.map (·.1)∧Ah κ H A (ps.map (·.2)) (kvs.map (·.2))
 | [],ps,vs,h,r=>by
  cases h
  unfold Ah at r
  subst r
  exact ⟨[],[],rfl,.nil,rfl,Ah.nil⟩
 | d :: ds,ps,vs,h,r=>by
  unfold XW at h
  obtain ⟨p,h1,h⟩:=Option.bind_eq_some_iff.mp h
  obtain ⟨ps',h2,rfl⟩:=Option.map_eq_some_iff.mp h
  unfold Ah at r
  obtain ⟨v,us,rfl,r1,r2⟩:=r
  obtain ⟨a,u,rfl,hs,ru⟩:=j6 h1 r1
  obtain ⟨as,kvs,rfl,hp,hk,rr⟩:=V4 h2 r2
  refine ⟨a :: as,(p.1,u) :: kvs,rfl,.cons hs hp,?_,?_⟩
  ·rw [List.map_cons,List.map_cons,hk]
  ·exact Ah.cons ru rr
theorem JT:∀ (more acc:List (Key × V)),(acc.map (·.1) ++ more.map (·.1)).Nodup→mergeK acc more=acc ++ more
 | [],acc,_=>(List.append_nil acc).symm
 | p :: more,acc,h=>by
  have hn:(acc.any fun kv=>decide (kv.1=p.1))=false:=by
   rw [List.any_eq_false]
   intro kv hkv e
   have e':=of_decide_eq_true e
   exact (List.nodup_append.mp h).2.2 _ (List.mem_map.mpr ⟨kv,hkv,rfl⟩) _ List.mem_cons_self e'
  have e1:putK acc p.1 p.2=acc ++ [p]:=by
   unfold putK
   rw [hn,if_neg (by decide)]
  show mergeK (putK acc p.1 p.2) more=_
  rw [e1,JT more (acc ++ [p]) (by rw [List.map_append,List.append_assoc]; exact h),List.append_assoc]
  rfl
theorem YF{K:PySem.W.Frag}:Vc K (Vy K) Ef:=by
 intro μ H A ds d vs Q ha r e q
 unfold Ef at e
 split at e
 ·rename_i es
  obtain ⟨ps,e1,e⟩:=Option.bind_eq_some_iff.mp e
  obtain ⟨hn,rfl⟩:=Bf e
  obtain ⟨v,rfl,rr⟩:=CO r
  unfold Rep at rr
  obtain ⟨a,us,rfl,⟨_,o,ho,hd⟩,r2⟩:=rr
  obtain ⟨as,kvs,rfl,hp,hk,r3⟩:=V4 e1 r2
  refine ⟨a,o,as,kvs,rfl,ho,hd,hp,fun p hnew=>q (.ref p) _ (Same.new hnew) ?_⟩
  have hm:mergeK [] kvs=kvs:=by
   have:=JT kvs [] (by rw [List.map_nil,List.nil_append,hk]; exact hn)
   rw [this,List.nil_append]
  rw [hm]
  unfold Rep
  exact ⟨p,kvs,rfl,fun z=>by have:=ha p z; rw [hnew] at this; exact this,.inl upd_same,hk,r3.same (Same.new hnew)⟩
 ·cases e
section
variable {X:Cx} {W:WX} {e:Expr} {fs:Env→Out (List Dt)} {lk:List Nat} {p pos:Pos}
theorem PQ(hg:Gl X "tuple")(hm:X.mg "tuple" = none)(ha:JL X W [e] fs lk)(he:starEach [e] X.env=(false,eval e X.env) :: starEach [] X.env:=by rfl):Bc X W (.Call (.Name "tuple" p) [e] [] pos) (eB J0 fs) lk:=by
 obtain ⟨ta,pa,da⟩:=ha
 exact ⟨_,pe_callTy Yx hg hm (by decide +kernel) pa (by decide) (by decide) he rfl,WD Ym da⟩
theorem Ut(hc:X.calm=true)(hg:Gl X "dict")(hm:X.mg "dict" = none)(ha:JL X W [e] fs lk)(he:starEach [e] X.env=(false,eval e X.env) :: starEach [] X.env:=by rfl):Bc X W (.Call (.Name "dict" p) [e] [] pos) (eB Ef fs) lk:=by
 obtain ⟨ta,pa,da⟩:=ha
 exact ⟨_,pe_callTy (Po hc) hg hm (by decide +kernel) pa (by decide) (by decide) he rfl,WD YF da⟩
end
end FD
namespace FD
open PySem L2 PyProof.Rows PySem.Spec
theorem P4(p:Str × NameKind→Bool):∀ (names:List (Str × NameKind)) (x:Str),(names.lookup x=some .cell∨names.lookup x=some .free) →
  ((names.map fun y=>if (y.2 == .free && p y)=true then (y.1,NameKind.cell) else (y.1,y.2)).lookup x=some .cell∨(names.map fun y=>if (y.2 == .free && p y)=true then (y.1,NameKind.cell) else (y.1,y.2)).lookup x=some .free)
 | [],x,h=>by simp at h
 | (n,k) :: r,x,h=>by
  rw [List.map_cons]
  by_cases e:x=n
  ·subst e
   have hk:k=.cell∨k=.free:=by simpa using h
   rcases hk with rfl | rfl
   ·exact .inl (by simp)
   ·by_cases z:p (x,NameKind.free)=true
    ·exact .inl (by simp [z])
    ·exact .inr (by simp [z])
  ·have nb:(x == n)=false:=by simpa using e
   have h':r.lookup x=some .cell∨r.lookup x=some .free:=by simpa [List.lookup_cons,nb] using h
   have q:=P4 p r x h'
   have t:∀ k',List.lookup x ((n,k') :: (r.map fun y=>if (y.2 == .free && p y)=true then (y.1,NameKind.cell) else (y.1,y.2)))=(r.map fun y=>if (y.2 == .free && p y)=true then (y.1,NameKind.cell) else (y.1,y.2)).lookup x:=fun k'=>by rw [List.lookup_cons,nb]
   split
   ·rw [t]; exact q
   ·rw [t]; exact q
theorem Je{X:Cx}{s:Shared}{H:Hp}{scope scope2:Scope}{C:Addr}{cl:List (Str × Addr)}{fp:List Addr}{own:List (Str × Nat)}(N:List Str)(hN:X.N=N)(h:blkC N scope scope2 own=true):
  BlkOk (X.blk s H scope (compEnvC scope cl C X.env) fp).N (X.blk s H scope (compEnvC scope cl C X.env) fp).env.scope scope2 own:=by
 subst hN
 have b:=blkOk_by h
 obtain ⟨h1,h2,h3,h4,h5⟩:=b
 refine ⟨h1,h2,h3,fun y hy e=>?_,h5⟩
 have q:=P4 (fun y=>X.env.scope.kind == .function && X.env.kindOf y.1 == some .cell) scope.names y.1 (h4 y hy e)
 simp only [← Bool.and_assoc] at q
 exact q
end FD
namespace HotL
open PySem L2 L2H PySem.Spec PyProof.Rows HotX
abbrev St:=L2.St
section
variable {prog:Program} {w:World} {A:Around} {E:Value→Shared→Prop} {s:Shared}
end
def cu(X:Cx)(x1:Addr):Prop:=X.A.handled=some (.ref x1)∧(∃ (o:Obj) (vs:Array Value),X.s_0.heap.get? x1=some o∧o.data=.fields vs∧vs[2]? = some .none)∧X.H_0 x1=none∧x1∉X.fs∧x1∉X.ex
theorem cu.at{X:Cx}{x1:Addr}{pins:List (Addr × Obj)}{σ:St}{H:Hp}{s:Shared}(b:cu X x1)(I:Inv X pins σ H s):HotAt X.A x1 s.heap:=by
 obtain ⟨hh,⟨o,vs,e,d,c⟩,hn,hf,he⟩:=b
 exact ⟨hh,o,vs,I.base.keep x1 o e hn hf he,d,c⟩
def f5(X:Cx):Prop:=HotC X∨∃ x1,cu X x1
theorem f5.at{X:Cx}{pins:List (Addr × Obj)}{σ:St}{H:Hp}{s:Shared}(c:f5 X)(I:Inv X pins σ H s):∃ x1,HotAt X.A x1 s.heap:=by
 rcases c with c | ⟨x1,b⟩
 ·exact c.at I
 ·exact ⟨x1,b.at I⟩
theorem HotC.blk{X:Cx}{pins:List (Addr × Obj)}{σ:St}{H:Hp}{s:Shared}{scope:Scope}{ce:Env}{fp:List Addr}(c:HotC X)(I:Inv X pins σ H s)(hfp:∀ b∈fp,FpOk X pins H b):∃ x1,cu (X.blk s H scope ce fp) x1:=by
 obtain ⟨p,⟨hh,v1,e1,c1⟩,hp⟩:=c
 obtain ⟨g,n,nl,nf,_⟩:=I.pin p (List.mem_append_left _ hp)
 refine ⟨p.1,hh,⟨p.2,v1,g,e1,c1⟩,n,fun z=>?_,fun z=>(hfp _ z).2.2.2.2.2 p (List.mem_append_left _ hp) rfl⟩
 have z:p.1∈frs X.stack:=z
 rcases I.ok.stk with e | ⟨e,ef⟩
 ·rw [e] at z; exact nf z
 ·rw [e] at z
  have z':p.1∈X.env.locals :: frs X.outer:=by
   have:frs (X.env :: X.outer)=X.env.locals :: frs X.outer:=by simp [frs,ef]
   rw [← this]; exact z
  rcases List.mem_cons.mp z' with z | z
  ·exact nl z
  ·exact nf z
section
variable {X:Cx}
end
end HotL
namespace HotL
open PySem PySem.Calls PyProof.Rows PyProof.V PySem.Spec HotX PySem.W
section
variable {prog:Program} {w:World} {K:Type} [DecidableEq K] {knd:KeyKind prog w K} {A:Around} {E:Value→Shared→Prop} {s:Shared} {kvs:List (K × Value)} {ep:Nat}
end
end HotL
namespace HotL
open PySem L2 L2H PySem.Spec PyProof.Rows HotX
end HotL
namespace FD
open PySem L2 PyProof.Rows PySem.Spec HotL
section
variable {K:PySem.W.Frag} {W:WX} {lk:List Nat}
end
section
variable {X:Cx} {W:WX}
end
end FD
namespace FD
open PySem L2 PyProof.Rows PySem.Spec
def gK:Cell→Option Dt
 | .lst ds=>some (.lst ds)
 | .dic ks ds=>some (.dic ks ds)
 | _=>none
def hM(n:Nat)(d:Dt)(ρ:Env):Option (Dt × Env):=match d with
 | .ad k=>(DM n ρ).bind fun cs=>(cs[k]?).bind fun c=>(gK c).map fun e=>(e,ρ.set n (some (.mh (cs.set k .gone))))
 | d=>some (d,ρ)
section
variable {K:PySem.W.Frag} {S:List Nat} {σ:L2.St} {μ μ':Mu} {H H' H0:Hp} {ρ ρ':Env} {A0:Ad} {lk la lb:List Nat} {W:WX} {d e:Dt} {v:V} {cs cs':List Cell} {n k:Nat} {c:Cell} {a:Addr}
theorem LK(s:StOk ⟨K,μ⟩ H0 A0 H ρ σ){k:Nat}{ks:List Key}{ds:List Dt}{b:Addr}(ec:DM n ρ=some cs)(e1:cs[k]? = some (.dic ks ds))(eb:μ.l[k]? = some b):∃ kvs,H b=some (.dK kvs)∧H0 b=none∧kvs.map (·.1)=ks∧Ah ⟨K,μ⟩ H (Av ⟨K,μ⟩ A0 ρ σ []) ds (kvs.map (·.2)):=by
 obtain ⟨_,_,hc⟩:=s.lo n _ (CM ec)
 obtain ⟨z,kvs,h1,h2,r⟩:=hc k _ b e1 eb
 exact ⟨kvs,h1,z,h2,r⟩
theorem cW(s:StOk ⟨K,μ⟩ H0 A0 H ρ σ)(h:hM n d ρ=some (e,ρ'))(r:Rep ⟨K,μ⟩ H (Av ⟨K,μ⟩ A0 ρ σ []) d v):
  StOk ⟨K,μ⟩ H0 A0 H ρ' σ∧(∀ j b,Bj ⟨K,μ⟩ ρ' σ j b→Bj ⟨K,μ⟩ ρ σ j b)∧(∀ j,j≠n→ρ'[j]? = ρ[j]?)∧Rep ⟨K,μ⟩ H (Av ⟨K,μ⟩ A0 ρ' σ []) e v:=by
 cases d with
 | ad k=>
  unfold hM at h
  obtain ⟨cs,ec,h⟩:=Option.bind_eq_some_iff.mp h
  obtain ⟨c,e1,h⟩:=Option.bind_eq_some_iff.mp h
  have e0:=CM ec
  unfold Rep at r
  obtain ⟨b,eb,rfl⟩:=r
  cases c with
  | gone=>cases h
  | ins C ns ds=>cases h
  | lst ds=>
   cases h
   obtain ⟨s2,ow⟩:=s.gvC e0 e1 rfl eb
   obtain ⟨vs,h1,h2,r2⟩:=Ni s ec e1 eb
   refine ⟨s2,fun j b h=>(ow j b h).1,fun j hj=>List.getElem?_set_ne (fun z=>hj z.symm),?_⟩
   unfold Rep
   refine ⟨b,vs,rfl,fun z=>?_,h1,r2.BC fun a z=>z.imp id fun ⟨j,nj,o⟩=>⟨j,nj,(ow j a o).1⟩⟩
   rcases z with z | ⟨j,_,o⟩
   ·have q:=s.a0 b z
    rw [h2] at q
    exact MP q rfl
   ·exact (ow j b o).2 rfl
  | dic ks ds=>
   cases h
   obtain ⟨s2,ow⟩:=s.gvC e0 e1 rfl eb
   obtain ⟨kvs,h1,h2,h3,r2⟩:=LK s ec e1 eb
   refine ⟨s2,fun j b h=>(ow j b h).1,fun j hj=>List.getElem?_set_ne (fun z=>hj z.symm),?_⟩
   unfold Rep
   refine ⟨b,kvs,rfl,fun z=>?_,.inl h1,h3,r2.BC fun a z=>z.imp id fun ⟨j,nj,o⟩=>⟨j,nj,(ow j a o).1⟩⟩
   rcases z with z | ⟨j,_,o⟩
   ·have q:=s.a0 b z
    rw [h2] at q
    exact MP q rfl
   ·exact (ow j b o).2 rfl
 | _=>
  cases h
  exact ⟨s,fun _ _ h=>h,fun _ _=>rfl,r⟩
end
end FD
namespace FD
open PySem L2 PyProof.Rows PySem.Spec
def cellK:Cell→Option (List Dt)
 | .dic ks _=>some (ks.map I0)
 | _=>none
def HW(n i:Nat):Env→Out (List Dt):=fun ρ=>match ρ[i]? with
 | some (some (.sh (.ad k)))=>FU ((DM n ρ).bind fun cs=>(cs[k]?).bind cellK)
 | _=>.bad
section
variable {K:PySem.W.Frag} {W:WX}
theorem X7(n i:Nat):aS K W (tCB VG (tCons (tVar i) tNil)) (HW n i) []:=by
 intro μ H0 A0 ρ σ H Q s h
 unfold HW at h
 split at h
 ·rename_i k e
  obtain ⟨es,e2,q⟩:=BM h
  obtain ⟨cs,ec,e3⟩:=Option.bind_eq_some_iff.mp e2
  obtain ⟨c,e1,e4⟩:=Option.bind_eq_some_iff.mp e3
  obtain ⟨v,e5,r⟩:=s.lo i _ e
  unfold Rep at r
  obtain ⟨b,eb,rfl⟩:=r
  cases c with
  | gone=>cases e4
  | lst ds=>cases e4
  | ins C ns ds=>cases e4
  | dic ks ds=>
   cases e4
   obtain ⟨kvs,h1,h2,h3,r2⟩:=LK s ec e1 eb
   subst h3
   refine ⟨_,e5,b,kvs,rfl,?_,fun p hp=>?_⟩
   ·exact Rd.of h1
   ·exact q p _ _ (Same.new hp) hp upd_same ((Ah.fresh hp _ _ (Nt kvs)).same (Same.new hp))
 ·exact False.elim h
end
theorem Xz{X:Cx}{W:WX}(n i:Nat){x:Str}{p pos q:Pos}(hc:X.calm=true)(hg:Gl X "list")(hm:X.mg "list" = none)(hN:X.N[i]? = some x:=by rfl)(hv:Vis X.env.scope x:=by first | exact Or.inl rfl | exact Or.inr (Or.inl rfl) | exact Or.inr (Or.inr rfl))(hd:(x == ("__debug__" : Str))=false:=by decide)
  (hcd:(x == ("__classdict__" : Str))=false:=by decide):Za X W (.Call (.Name "list" p) [.Name x q] [] pos) (HW n i) []:=
 ⟨_,pe_callTy (P8 hc) hg hm boot_list (pa_cons (pe_var hN hv hd hcd) pa_nil) (by decide) (by decide) rfl rfl,X7 n i⟩
end FD
namespace FD
open PySem L2 PyProof.Rows PySem.Spec
section
variable {K:PySem.W.Frag} {W:WX} {lb:List Nat}
end
end FD
namespace FD
open PySem L2 PyProof.Rows PySem.Spec
def Lk(o o':HO):Prop:=o'=o∨∃ (kvs:List (Key × V)) (ob:Obj),(o=.dK kvs∧o'=.frz ob (.dK kvs))∨(o=.frz ob (.dK kvs)∧o'=.dK kvs)
def NO(A:Ad)(H H':Hp):Prop:=∀ a o,¬ A a→H a=some o→∃ o',H' a=some o'∧Lk o o'
theorem NO.tup{A:Ad}{H H':Hp}(h:NO A H H'){a:Addr}{vs:List V}(n:¬ A a)(e:H a=some (.tup vs)):H' a=some (.tup vs):=by
 obtain ⟨o',e',q⟩:=h a _ n e
 rcases q with rfl | ⟨kvs,ob,⟨z,_⟩ | ⟨z,_⟩⟩
 ·exact e'
 ·cases z
 ·cases z
theorem NO.lst{A:Ad}{H H':Hp}(h:NO A H H'){a:Addr}{vs:List V}(n:¬ A a)(e:H a=some (.lst vs)):H' a=some (.lst vs):=by
 obtain ⟨o',e',q⟩:=h a _ n e
 rcases q with rfl | ⟨kvs,ob,⟨z,_⟩ | ⟨z,_⟩⟩
 ·exact e'
 ·cases z
 ·cases z
theorem NO.ftup{A:Ad}{H H':Hp}(h:NO A H H'){a:Addr}{vs:List V}{ob:Obj}(n:¬ A a)(e:H a=some (.frz ob (.tup vs))):H' a=some (.frz ob (.tup vs)):=by
 obtain ⟨o',e',q⟩:=h a _ n e
 rcases q with rfl | ⟨kvs,ob,⟨z,_⟩ | ⟨z,_⟩⟩
 ·exact e'
 ·cases z
 ·cases z
theorem NO.flst{A:Ad}{H H':Hp}(h:NO A H H'){a:Addr}{vs:List V}{ob:Obj}(n:¬ A a)(e:H a=some (.frz ob (.lst vs))):H' a=some (.frz ob (.lst vs)):=by
 obtain ⟨o',e',q⟩:=h a _ n e
 rcases q with rfl | ⟨kvs,ob,⟨z,_⟩ | ⟨z,_⟩⟩
 ·exact e'
 ·cases z
 ·cases z
theorem NO.ins{A:Ad}{H H':Hp}(h:NO A H H'){a C dx:Addr}{fs:List (Str × V)}(n:¬ A a)(e:H a=some (.ins C dx fs)):H' a=some (.ins C dx fs):=by
 obtain ⟨o',e',q⟩:=h a _ n e
 rcases q with rfl | ⟨kvs,ob,⟨z,_⟩ | ⟨z,_⟩⟩
 ·exact e'
 ·cases z
 ·cases z
theorem NO.xd{A:Ad}{H H':Hp}(h:NO A H H'){a:Addr}{fs:List (Str × V)}(n:¬ A a)(e:H a=some (.xd fs)):H' a=some (.xd fs):=by
 obtain ⟨o',e',q⟩:=h a _ n e
 rcases q with rfl | ⟨kvs,ob,⟨z,_⟩ | ⟨z,_⟩⟩
 ·exact e'
 ·cases z
 ·cases z
theorem NO.dk{A:Ad}{H H':Hp}(h:NO A H H'){a:Addr}{kvs:List (Key × V)}(n:¬ A a)(e:Uo H a kvs):Uo H' a kvs:=by
 rcases e with e | ⟨ob1,e⟩
 ·obtain ⟨o',e',q⟩:=h a _ n e
  rcases q with rfl | ⟨kvs,ob,⟨z,rfl⟩ | ⟨z,_⟩⟩
  ·exact .inl e'
  ·cases z
   exact .inr ⟨ob,e'⟩
  ·cases z
 ·obtain ⟨o',e',q⟩:=h a _ n e
  rcases q with rfl | ⟨kvs,ob,⟨z,_⟩ | ⟨z,rfl⟩⟩
  ·exact .inr ⟨_,e'⟩
  ·cases z
  ·cases z
   exact .inl e'
theorem NO.dt{A:Ad}{H H':Hp}(h:NO A H H'){a:Addr}{kvs:List (List Key × V)}(n:¬ A a)(e:Ue H a kvs):Ue H' a kvs:=by
 rcases e with e | ⟨ob1,e⟩
 ·obtain ⟨o',e',q⟩:=h a _ n e
  rcases q with rfl | ⟨kvs,ob,⟨z,_⟩ | ⟨z,_⟩⟩
  ·exact .inl e'
  ·cases z
  ·cases z
 ·obtain ⟨o',e',q⟩:=h a _ n e
  rcases q with rfl | ⟨kvs,ob,⟨z,_⟩ | ⟨z,_⟩⟩
  ·exact .inr ⟨_,e'⟩
  ·cases z
  ·cases z
section
variable {K:KM} {H H':Hp} {A:Ad}
mutual
theorem Rep.lk(h:NO A H H'):∀ (d:Dt) (v:V),Rep K H A d v→Rep K H' A d v
 | .non,_,r=>r
 | .bl _,_,r=>r
 | .int _,_,r=>r
 | .str _,_,r=>r
 | .ty _,_,r=>r
 | .cls _,_,r=>r
 | .ad k,_,r=>by
  unfold Rep at r ⊢
  exact r
 | .tup ds,_,r=>by
  unfold Rep at r ⊢
  obtain ⟨a,vs,e,h1,h2⟩:=r
  exact ⟨a,vs,e,h1.imp (fun ⟨x,y⟩=>⟨x,h.tup x y⟩) id,Ah.lk h ds vs h2⟩
 | .ptp ds,_,r=>by
  unfold Rep at r ⊢
  obtain ⟨a,vs,e,⟨x,o,y,yd⟩,h2⟩:=r
  exact ⟨a,vs,e,⟨x,o,h.ftup x y,yd⟩,Ah.lk h ds vs h2⟩
 | .ntp ds,_,r=>by
  unfold Rep at r ⊢
  obtain ⟨a,vs,e,⟨x,y⟩,h2⟩:=r
  exact ⟨a,vs,e,⟨x,h.tup x y⟩,Ah.lk h ds vs h2⟩
 | .lst ds,_,r=>by
  unfold Rep at r ⊢
  obtain ⟨a,vs,e,x,y,h2⟩:=r
  exact ⟨a,vs,e,x,h.lst x y,Ah.lk h ds vs h2⟩
 | .fls ds,_,r=>by
  unfold Rep at r ⊢
  obtain ⟨a,vs,e,h1,h2⟩:=r
  exact ⟨a,vs,e,h1.imp (fun ⟨x,o,y⟩=>⟨x,o,h.flst x y⟩) id,Ah.lk h ds vs h2⟩
 | .dic ks ds,_,r=>by
  unfold Rep at r ⊢
  obtain ⟨a,kvs,e,x,y,e2,h2⟩:=r
  exact ⟨a,kvs,e,x,h.dk x y,e2,Ah.lk h ds _ h2⟩
 | .dit ks ds,_,r=>by
  unfold Rep at r ⊢
  obtain ⟨a,kvs,e,x,y,e2,h2⟩:=r
  exact ⟨a,kvs,e,x,h.dt x y,e2,Ah.lk h ds _ h2⟩
 | .obj C ns ds,_,r=>by
  unfold Rep at r ⊢
  obtain ⟨a,dx,fs,e,x,y,e2,h2⟩:=r
  exact ⟨a,dx,fs,e,x,h.ins x y,e2,Ah.lk h ds _ h2⟩
 | .exn a od _ ns ds,_,r=>by
  unfold Rep at r ⊢
  obtain ⟨fs,e,h1,e2,h2⟩:=r
  exact ⟨fs,e,h1.imp id (fun ⟨d,e,x,y⟩=>⟨d,e,x,h.xd x y⟩),e2,Ah.lk h ds _ h2⟩
theorem Ah.lk(h:NO A H H'):∀ (ds:List Dt) (vs:List V),Ah K H A ds vs→Ah K H' A ds vs
 | [],_,r=>by
  unfold Ah at r ⊢
  exact r
 | d :: ds,_,r=>by
  unfold Ah at r ⊢
  obtain ⟨v,vs,e,r1,r2⟩:=r
  exact ⟨v,vs,e,Rep.lk h d v r1,Ah.lk h ds vs r2⟩
end
end
end FD
namespace FD
open PySem L2 PyProof.Rows PySem.Spec
section
variable {K:KM} {H H' H0 H0':Hp} {A:Ad} {l:Lo} {sv:Option (Option V)} {c:Cell} {a:Addr}
def jt(o:HO):Prop:=∀ ob u,o≠.frz ob u
theorem Gi.lk(h:NO A H H')(ho:c.live=true→∀ o,H a=some o→jt o→H' a=some o)(h0:c.live=true→H0 a=none→H0' a=none)(r:Gi K H0 H A c a):Gi K H0' H' A c a:=by
 cases c with
 | gone=>exact r
 | lst ds=>obtain ⟨z,vs,e,r⟩:=r; exact ⟨h0 rfl z,vs,ho rfl _ e (fun _ _ q=>nomatch q),Ah.lk h _ _ r⟩
 | dic ks ds=>obtain ⟨z,vs,e,e2,r⟩:=r; exact ⟨h0 rfl z,vs,ho rfl _ e (fun _ _ q=>nomatch q),e2,Ah.lk h _ _ r⟩
 | ins C ns ds=>obtain ⟨z,dx,fs,e,e2,r⟩:=r; exact ⟨h0 rfl z,dx,fs,ho rfl _ e (fun _ _ q=>nomatch q),e2,Ah.lk h _ _ r⟩
theorem ER.lk(h:NO A H H')(ho:∀ a,CS K l sv a→∀ o,H a=some o→jt o→H' a=some o)(h0:∀ a,CS K l sv a→H0 a=none→H0' a=none)(r:ER K H0 H A l sv):ER K H0' H' A l sv:=by
 cases l with
 | sh d=>obtain ⟨v,e,r⟩:=r; exact ⟨v,e,Rep.lk h _ _ r⟩
 | ol ds=>obtain ⟨a,vs,e,z,e1,r⟩:=r; exact ⟨a,vs,e,h0 a e z,ho a e _ e1 (fun _ _ q=>nomatch q),Ah.lk h _ _ r⟩
 | od ks ds=>obtain ⟨a,vs,e,z,e1,e2,r⟩:=r; exact ⟨a,vs,e,h0 a e z,ho a e _ e1 (fun _ _ q=>nomatch q),e2,Ah.lk h _ _ r⟩
 | ot ks ds=>obtain ⟨a,vs,e,z,e1,e2,r⟩:=r; exact ⟨a,vs,e,h0 a e z,ho a e _ e1 (fun _ _ q=>nomatch q),e2,Ah.lk h _ _ r⟩
 | mh cs=>
  obtain ⟨r1,r2,r3⟩:=r
  exact ⟨r1,r2,fun k c a e1 e2=>(r3 k c a e1 e2).lk h (fun hv=>ho a ⟨k,c,e1,hv,e2⟩) (fun hv=>h0 a ⟨k,c,e1,hv,e2⟩)⟩
end
section
variable {K:PySem.W.Frag} {μ μ':Mu} {H H' H0:Hp} {A0:Ad} {ρ ρ':Env} {σ σ':L2.St} {d:Addr} {kvs:List (Key × V)}
noncomputable def gN(H0:Hp)(d:Addr)(u:HO):Hp:=fun a=>if a=d then some u else H0 a
theorem Qd{u:HO}{a:Addr}(h:a≠d):gN H0 d u a=H0 a:=if_neg h
theorem Qe{u:HO}:gN H0 d u d=some u:=if_pos rfl
theorem StOk.lock(s:StOk ⟨K,μ⟩ H0 A0 H ρ σ)(ob:Obj)(hd:H d=some (.dK kvs))(nd:¬ Av ⟨K,μ⟩ A0 ρ σ [] d):
  StOk ⟨K,μ⟩ (gN H0 d (.frz ob (.dK kvs))) A0 (upd H d (.frz ob (.dK kvs))) ρ σ:=by
 have ls:NO (Av ⟨K,μ⟩ A0 ρ σ []) H (upd H d (.frz ob (.dK kvs))):=fun a o _ e=>by
  by_cases h:a=d
  ·subst h
   rw [hd] at e
   cases e
   exact ⟨_,upd_same,.inr ⟨kvs,ob,.inl ⟨rfl,rfl⟩⟩⟩
  ·exact ⟨o,by rw [upd_ne h]; exact e,.inl rfl⟩
 have own:∀ i a,Bj ⟨K,μ⟩ ρ σ i a→a≠d:=fun i a o z=>nd (by rw [← z]; exact .inr ⟨i,(fun q=>nomatch q),o⟩)
 refine ⟨fun a o e=>?_,fun a h=>?_,s.len,fun i l e=>?_,s.ap,s.one,s.nm⟩
 ·by_cases h:a=d
  ·subst h
   rw [Qe] at e
   cases e
   exact upd_same
  ·rw [Qd h] at e
   rw [upd_ne h]
   exact s.same a o e
 ·rw [Qd (fun z=>nd (by rw [← z]; exact .inl h))]
  exact s.a0 a h
 ·exact (s.lo i l e).lk ls (fun a o w ew _=>by rw [upd_ne (own i a ⟨l,e,o⟩)]; exact ew) fun a o z=>by rw [Qd (own i a ⟨l,e,o⟩)]; exact z
theorem StOk.unlock(s:StOk ⟨K,μ⟩ H0 A0 H ρ σ)(ob:Obj)(hd:H d=some (.dK kvs))(s':StOk ⟨K,μ'⟩ (gN H0 d (.frz ob (.dK kvs))) A0 H' ρ' σ')(hd':H' d=some (.frz ob (.dK kvs))):
  StOk ⟨K,μ'⟩ H0 A0 (upd H' d (.dK kvs)) ρ' σ':=by
 have ls:NO (Av ⟨K,μ'⟩ A0 ρ' σ' []) H' (upd H' d (.dK kvs)):=fun a o _ e=>by
  by_cases h:a=d
  ·subst h
   rw [hd'] at e
   cases e
   exact ⟨_,upd_same,.inr ⟨kvs,ob,.inr ⟨rfl,rfl⟩⟩⟩
  ·exact ⟨o,by rw [upd_ne h]; exact e,.inl rfl⟩
 have nf:∀ a o,H' a=some o→jt o→a≠d:=fun a o e n z=>by
  subst z
  rw [hd'] at e
  cases e
  exact n _ _ rfl
 refine ⟨fun a o e=>?_,s.a0,s'.len,fun i l e=>?_,s'.ap,s'.one,s'.nm⟩
 ·by_cases h:a=d
  ·subst h
   have q:=s.same a o e
   rw [hd] at q
   rw [upd_same]
   exact q
  ·rw [upd_ne h]
   exact s'.same a o (by rw [Qd h]; exact e)
 ·refine (s'.lo i l e).lk ls (fun a o w ew n=>by rw [upd_ne (nf a w ew n)]; exact ew) fun a o z=>?_
  by_cases h:a=d
  ·subst h
   rw [Qe] at z
   cases z
  ·rw [Qd h] at z
   exact z
end
end FD
namespace FD
open PySem L2 PyProof.Rows PySem.Spec
def CU(i:Nat):Env→Out (List Dt):=fun ρ=>match ρ[i]? with
 | some (some (.sh (.dic ks _)))=>.ok (ks.map I0)
 | _=>.bad
def F7(i:Nat)(u:Dt→Env→Option Env)(b:Env→SOut):Env→SOut:=fun ρ=>match A1 u (CU i) [i] b ρ with
 | .exc _ _=>.bad
 | r=>r
def lK(t:TS):TS:=fun D σ H=>t D σ H∨tLock t D σ H
theorem h7{X:Cx}{st:Stmt}{t:TS}(h:PS X st t):PS X st (lK t):=⟨fun pins s σ H D I hw=>hw.elim (fun hw=>h.run pins s σ H D I hw) fun hw=>(ps_lock h).run pins s σ H D I hw⟩
def lkD(D:Ends)(d:Addr)(od:Obj)(u:HO):Ends:=⟨fun σ' H'=>H' d=some (.frz od u)∧D.nx σ' (upd H' d u),fun v H'=>H' d=some (.frz od u)∧D.rt v (upd H' d u),fun σ' H'=>H' d=some (.frz od u)∧D.bk σ' (upd H' d u),fun σ' H'=>H' d=some (.frz od u)∧D.ct σ' (upd H' d u)⟩
section
variable {K:PySem.W.Frag} {W:WX} {μ μ':Mu} {H H' H0:Hp} {A0:Ad} {ρ ρ':Env} {σ σ':L2.St} {d:Addr} {kvs:List (Key × V)} {D:Ends}
theorem NO.un{A:Ad}{ob:Obj}(hd':H' d=some (.frz ob (.dK kvs))):NO A H' (upd H' d (.dK kvs)):=fun a o _ e=>by
 by_cases h:a=d
 ·subst h
  rw [hd'] at e
  cases e
  exact ⟨_,upd_same,.inr ⟨kvs,ob,.inr ⟨rfl,rfl⟩⟩⟩
 ·exact ⟨o,by rw [upd_ne h]; exact e,.inl rfl⟩
theorem AY.lock(s:StOk ⟨K,μ⟩ H0 A0 H ρ σ)(ob:Obj)(hd:H d=some (.dK kvs)){o:SOut}(hx:∀ x ρ',o≠.exc x ρ')(h:AY K W μ H0 A0 o D):AY K W μ (gN H0 d (.frz ob (.dK kvs))) A0 o (lkD D d ob (.dK kvs)):=by
 have z:∀ {μ':Mu} {ρ':Env} {σ':L2.St} {H':Hp},StOk ⟨K,μ'⟩ (gN H0 d (.frz ob (.dK kvs))) A0 H' ρ' σ'→H' d=some (.frz ob (.dK kvs))∧StOk ⟨K,μ'⟩ H0 A0 (upd H' d (.dK kvs)) ρ' σ':=fun s'=>by
  have e:=s'.same d _ Qe
  exact ⟨e,s.unlock ob hd s' e⟩
 match o,hx,h with
 | .ok .nx ρ1,_,h=>exact fun μ' σ' H' x s'=>⟨(z s').1,h μ' σ' _ x (z s').2⟩
 | .ok .bk ρ1,_,h=>exact fun μ' σ' H' x s'=>⟨(z s').1,h μ' σ' _ x (z s').2⟩
 | .ok .ct ρ1,_,h=>exact fun μ' σ' H' x s'=>⟨(z s').1,h μ' σ' _ x (z s').2⟩
 | .ok (.rt e) ρ1,_,h=>exact fun μ' v σ' H' x s' r=>⟨(z s').1,h μ' v σ' _ x (z s').2 (Rep.lk (NO.un (z s').1) _ _ r)⟩
 | .exc x ρ1,hx,_=>exact absurd rfl (hx x ρ1)
theorem Jh(i:Nat)(a:Addr)(ob:Obj)(e:σ[i]? = some (some (.ref a)))(hH:H a=some (.frz ob (.dK kvs))):fN K W (fun σ' H' R=>σ'=σ→H'=H→iKeys (tVar i) σ' H' R) (CU i) [i]:=by
 intro μ H0 A0 ρ σ' H' R s h e1 e2
 subst e1 e2
 unfold CU at h
 split at h
 ·rename_i ks ds e3
  obtain ⟨v,e4,r⟩:=s.lo i _ e3
  rw [e] at e4
  cases e4
  unfold Rep at r
  obtain ⟨b,kvs',eb,nA,g1,g2,g3⟩:=r
  cases eb
  have ek:kvs'=kvs:=by
   rcases g1 with g1 | ⟨o2,g1⟩ <;> rw [hH] at g1 <;> cases g1 <;> rfl
  subst ek
  subst g2
  have hB:Bs ⟨K,μ⟩ H' ρ σ' [i] a=some (.frz ob (.dK kvs')):=by rw [Io fun ⟨j,_,o⟩=>nA (.inr ⟨j,(fun q=>nomatch q),o⟩)]; exact hH
  have hB:∀ G,Same (Bs ⟨K,μ⟩ H' ρ σ' [i]) G→G a=some (.frz ob (.dK kvs')):=fun G hs=>hs _ _ hB
  refine ⟨_,e,a,ob,rfl,.inl ⟨kvs',hH,h (Itk a ob kvs') H' (Same.refl _) ⟨fun j G hs hj=>⟨hB G hs,by simpa using hj⟩,fun G hs=>⟨hB G hs,by simp⟩,fun j G x G' dd hs y ed=>?_⟩⟩⟩
  obtain ⟨rfl,k,w,ew,rfl⟩:=y
  refine ⟨Same.refl _,fun A _=>?_⟩
  have:dd=I0 k:=by
   rw [List.getElem?_map,List.getElem?_map,ew] at ed
   cases ed
   rfl
  subst this
  exact Qz _
 ·exact False.elim h
theorem bC(i:Nat){g:TG}{tb:TS}{u:Dt→Env→Option Env}{b:Env→SOut}{S:List Nat}(hg:Y9 K g u S)(hb:IF K W tb b):IF K W (lK (tFor (iKeys (tVar i)) g tb)) (F7 i u b):=by
 intro μ H0 A0 ρ σ H D s h
 have hx:∀ x ρ',A1 u (CU i) [i] b ρ≠.exc x ρ':=fun x ρ' z=>by
  unfold F7 at h
  rw [z] at h
  exact h
 have h:AY K W μ H0 A0 (A1 u (CU i) [i] b ρ) D:=by
  unfold F7 at h
  split at h
  ·exact False.elim h
  ·exact h
 have hs:∃ ks ds,ρ[i]? = some (some (.sh (.dic ks ds))):=by
  unfold A1 at h
  cases e:CU i ρ with
  | ok ds=>
   unfold CU at e
   split at e
   ·exact ⟨_,_,by assumption⟩
   ·cases e
  | bad=>rw [e] at h; exact False.elim h
  | exc x=>unfold CU at e; split at e <;> cases e
 obtain ⟨ks,ds,e3⟩:=hs
 obtain ⟨v,e4,r⟩:=s.lo i _ e3
 unfold Rep at r
 obtain ⟨a,kvs,rfl,nA,g1,g2,g3⟩:=r
 rcases g1 with g1 | ⟨ob,g1⟩
 ·refine .inr ⟨a,.dK kvs,g1,?_,fun ob=>?_⟩
  ·first | exact rfl | exact trivial | simp [Mut]
  ·exact Sf (Jh (H:=upd H a (.frz ob (.dK kvs))) i a ob e4 upd_same) hg hb μ (gN H0 a (.frz ob (.dK kvs))) A0 ρ σ (upd H a (.frz ob (.dK kvs))) (lkD D a ob (.dK kvs)) (s.lock ob g1 nA) (AY.lock s ob g1 hx h) rfl rfl
 ·exact .inl (Sf (Jh i a ob e4 g1) hg hb μ H0 A0 ρ σ H D s h rfl rfl)
end
end FD
namespace FD
open PySem L2 PyProof.Rows PySem.Spec
theorem Lc{X:Cx}{W:WX}{S:List Nat}{tg:Expr}{body:List Stmt}{pos p:Pos}{x:Str}{u:Dt→Env→Option Env}{g:Env→SOut}(i:Nat)(hp:PassesOwn (model X.prog X.w) X.A X.env X.xe)(hc:X.calm=true)(hg:Xd X tg u S)(hb:Hn X W body g)(hN:X.N[i]? = some x:=by rfl)(hv:Vis X.env.scope x:=by first | exact Or.inl rfl | exact Or.inr (Or.inl rfl) | exact Or.inr (Or.inr rfl))(hd:(x == ("__debug__" : Str))=false:=by decide)
  (hcd:(x == ("__classdict__" : Str))=false:=by decide) (hs:∀ v,foldedSetIterable (.Name x p) X.env v=pure v:=by intro _; rfl):MQ X W (.For tg (.Name x p) body [] pos) (F7 i u g):=by
 obtain ⟨t',p',d'⟩:=hg
 obtain ⟨t2,p2,d2⟩:=hb
 exact ⟨_,h7 (ps_for hp hc (pi_keys (pe_var hN hv hd hcd)) p' p2 hs),bC i d' d2⟩
end FD
namespace FD
open PySem L2 PyProof.Rows PySem.Spec
def P0(i:Nat)(u:Dt→Env→Option Env)(vs:List Nat)(t:Env→Out Bool)(f:Env→Out Dt):Env→Out (List Dt):=fun ρ=>match Fi u vs t f (CU i) [i] ρ with
 | .exc _=>.bad
 | r=>r
def kA(t:TE):TE:=fun σ H Q=>t σ H Q∨tLockE t σ H Q
theorem iE{X:Cx}{e:Expr}{t:TE}(h:PE X e t):PE X e (kA t):=⟨fun pins s σ H Q I hw=>hw.elim (fun hw=>h.run pins s σ H Q I hw) fun hw=>(pe_lock h).run pins s σ H Q I hw⟩
section
variable {K:PySem.W.Frag} {W:WX}
theorem e9(i:Nat){g:TG}{tt:TT}{te:TE}{u:Dt→Env→Option Env}{S vs lt le:List Nat}{t:Env→Out Bool}{f:Env→Out Dt}(hg:Y9 K g u S)(hS:∀ i∈S,i∈vs)(ht:Ry K W0 tt t lt)(he:Dx K W0 te f le):
  aS K W (kA (tLc (iKeys (tVar i)) g tt te vs)) (P0 i u vs t f) ([i] ++ (le ++ vs)):=by
 intro μ H0 A0 ρ σ H Q s h
 have hk:∃ ds,Fi u vs t f (CU i) [i] ρ=.ok ds∧RL ⟨K,μ⟩ (Av ⟨K,μ⟩ A0 ρ σ ([i] ++ (le ++ vs))) H Q ds:=by
  unfold P0 at h
  cases e:Fi u vs t f (CU i) [i] ρ with
  | ok ds=>rw [e] at h; exact ⟨ds,rfl,h⟩
  | exc x=>rw [e] at h; exact False.elim h
  | bad=>rw [e] at h; exact False.elim h
 obtain ⟨ds,ek,hr⟩:=hk
 have hs:∃ ks es,ρ[i]? = some (some (.sh (.dic ks es))):=by
  unfold Fi at ek
  cases e:CU i ρ with
  | ok ds=>
   unfold CU at e
   split at e
   ·exact ⟨_,_,by assumption⟩
   ·cases e
  | bad=>rw [e] at ek; cases ek
  | exc x=>unfold CU at e; split at e <;> cases e
 obtain ⟨ks,es,e3⟩:=hs
 obtain ⟨v,e4,r⟩:=s.lo i _ e3
 unfold Rep at r
 obtain ⟨a,kvs,rfl,nA,g1,g2,g3⟩:=r
 rcases g1 with g1 | ⟨ob,g1⟩
 ·refine .inr ⟨a,.dK kvs,g1,?_,fun ob=>?_⟩
  ·first | exact rfl | exact trivial | simp [Mut]
  ·refine Jb (W:=W) (Jh (W:=W) (H:=upd H a (.frz ob (.dK kvs))) i a ob e4 upd_same) hg hS ht he μ (gN H0 a (.frz ob (.dK kvs))) A0 ρ σ (upd H a (.frz ob (.dK kvs))) (fun v H'=>H' a=some (.frz ob (.dK kvs))∧Q v (upd H' a (.dK kvs))) (s.lock ob g1 nA) ?_ rfl rfl
   rw [ek]
   intro p ws H' hs hp hl rr
   have hf:H' a=some (.frz ob (.dK kvs)):=hs _ _ upd_same
   have pa:p≠a:=fun z=>by rw [z,upd_same] at hp; cases hp
   refine ⟨hf,hr p ws (upd H' a (.dK kvs)) (fun b o e=>?_) (by rw [upd_ne pa] at hp; exact hp) (by rw [upd_ne pa]; exact hl) (Ah.lk (NO.un hf) _ _ rr)⟩
   by_cases hb:b=a
   ·subst hb
    rw [g1] at e
    rw [upd_same]
    exact e
   ·rw [upd_ne hb]
    exact hs b o (by rw [upd_ne hb]; exact e)
 ·refine .inl (Jb (W:=W) (Jh (W:=W) i a ob e4 g1) hg hS ht he μ H0 A0 ρ σ H Q s ?_ rfl rfl)
  rw [ek]
  exact hr
end
end FD
namespace FD
open PySem L2 PyProof.Rows PySem.Spec
theorem aR{X:Cx}{W:WX}{elt tg:Expr}{ifs:List Expr}{scope:Scope}{pos p:Pos}{x:Str}{u:Dt→Env→Option Env}{S lt le:List Nat}{t:Env→Out Bool}{f:Env→Out Dt}(i:Nat)(own:List (Str × Nat))(hc:X.calm=true)(hN:X.N.Nodup)
  (hg:∀ (s:Shared) (H:Hp) (C:Addr) (cl:List (Str × Addr)) (fp:List Addr),Xd (X.blk s H scope (compEnvC scope cl C X.env) fp) tg u S)
  (ht:∀ (s:Shared) (H:Hp) (C:Addr) (cl:List (Str × Addr)) (fp:List Addr),Q8 (X.blk s H scope (compEnvC scope cl C X.env) fp) W0 ifs t lt)
  (he:∀ (s:Shared) (H:Hp) (C:Addr) (cl:List (Str × Addr)) (fp:List Addr),Bc (X.blk s H scope (compEnvC scope cl C X.env) fp) W0 elt f le)
  (ok:BlkOk X.N X.env.scope scope own:=by exact blkOk_by (by decide +kernel)) (hx:X.N[i]? = some x:=by rfl) (hv:Vis X.env.scope x:=by first | exact Or.inl rfl | exact Or.inr (Or.inl rfl) | exact Or.inr (Or.inr rfl)) (hd:(x == ("__debug__" : Str))=false:=by decide)
  (hcd:(x == ("__classdict__" : Str))=false:=by decide) (hS:∀ i∈S,i∈own.map (·.2):=by decide) (hs:∀ v,foldedSetIterable (.Name x p) X.env v=pure v:=by intro _; rfl):
  Za X W (.ListComp elt [⟨tg,.Name x p,ifs,0⟩] scope pos) (P0 i u (own.map (·.2)) t f) ([i] ++ (le ++ own.map (·.2))):=by
 refine ⟨_,iE (pe_lc (g:=cG X.K u S) (tt:=cT X.K W0 t) (te:=cE X.K W0 f le) hc hN (pi_keys (pe_var hx hv hd hcd)) ok (fun s H C cl fp=>(hg s H C cl fp).Lu) (fun s H C cl fp=>(ht s H C cl fp).Lu) (fun s H C cl fp=>(he s H C cl fp).Lu) hs),?_⟩
 exact e9 i (fun μ H0 A0 ρ ρ' σ H d v Q s r e q=>⟨μ,H0,A0,ρ,ρ',d,s,r,e,q⟩) hS (lt:=lt) (fun μ H0 A0 ρ σ H Q s h=>⟨μ,H0,A0,ρ,s,h⟩) (fun μ H0 A0 ρ σ H Q s h=>⟨μ,H0,A0,ρ,s,h⟩)
end FD
namespace FD
open PySem L2 PyProof.Rows PySem.Spec
def fV:List V→Hp→VK→Prop:=fun xs H Q=>∃ a kvs,xs=[V.ref a]∧Rd H a (.dK kvs)∧Q (.int kvs.length) H
theorem XF{X:Cx}:CallR X (.builtin "len") fV:=by
 intro pins s σ H xs us Q I r h
 obtain ⟨a,kvs,rfl,ha,q⟩:=h
 obtain ⟨u,rfl,ru⟩:=vals1 r
 cases ru
 exact d_len I ha fun t s' I'=>⟨.int kvs.length,H,I',⟨t,rfl⟩,q⟩
def G2:List Dt→Option Dt
 | [.dic ks _]=>some (.int ks.length)
 | _=>none
theorem a6{K:PySem.W.Frag}:Vc K fV G2:=by
 intro μ H A ds d vs Q _ r e q
 unfold G2 at e
 split at e
 ·cases e
  obtain ⟨v,rfl,rr⟩:=CO r
  obtain ⟨a,kvs,rfl,g1,g2,g3⟩:=GW rr
  subst g2
  exact ⟨a,kvs,rfl,g1,q _ H (Same.refl H) (by rw [List.length_map]; rfl)⟩
 ·cases e
theorem Vz{ds:List Dt}{d:Dt}(h:G2 ds=some d):d.scal=true:=by
 unfold G2 at h
 split at h
 ·cases h; rfl
 ·cases h
section
variable {X:Cx} {W:WX} {e:Expr} {fs:Env→Out (List Dt)} {lk:List Nat} {p pos:Pos}
theorem Sv(hg:Gl X "len")(hm:X.mg "len" = none)(ha:JL X W [e] fs lk)(he:starEach [e] X.env=(false,eval e X.env) :: starEach [] X.env:=by rfl):Bc X W (.Call (.Name "len" p) [e] [] pos) (eB G2 fs) []:=by
 obtain ⟨ta,pa,da⟩:=ha
 exact ⟨_,pe_callB XF hg hm boot_len pa (by decide) (by decide) he rfl,Gh a6 (fun _ _ h=>Vz h) da⟩
end
end FD
namespace FD
open PySem L2 PyProof.Rows PySem.Spec
def F8(L:Mg)(fa fb:Env→Out Dt):Env→Out Dt:=fun ρ=>(fa ρ).bind fun a=>(fb ρ).bind fun b=>match a,b with
 | .obj C ns ds,.obj D ms es=>if C=D then (match L.lookup C with
  | some ψ=>ψ [.obj C ns ds,.obj D ms es]
  | none=>.bad) else .bad
 | _,_=>.bad
def jW(K:PySem.W.Frag)(L:Mg)(E:L2.St→XK)(ta tb:TE):TE:=fun σ H Q=>ta σ H fun x H1=>tb σ H1 fun y H2=>∃ C ψ a dx fs b ex gs,(C,ψ)∈L∧x=.ref a∧H2 a=some (.ins C dx fs)∧y=.ref b∧H2 b=some (.ins C ex gs)∧Np K ψ [x,y] H2 Q (E σ)
section
variable {X:Cx} {W:WX} {a b:Expr} {fa fb:Env→Out Dt} {la lb:List Nat} {pos:Pos} {L:Mg} {k j:Nat} {ta tb:TE} {m:Str} {op:Operator}
theorem iu(hm:PySem.dunder op.info.2=m)(hL:∀ q∈L,MeC X.prog X.w X.K X.mg X.base k q.1 m q.2)(hS:∀ q∈L,PySem.W.selfFirst X.K q.1=true)(tk:L2N.Takes X W)(hr:Room j X.A)(hk:k≤j)(ha:PE X a ta)(hb:PE X b tb):PE X (.BinOp a op b pos) (jW X.K L (WE W) ta tb):=by
 refine ⟨fun pins s σ H Q I h=>?_⟩
 refine wpAny_BinOp (binT ha hb I h fun v u s2 x y H2 I2 rx ry z=>?_)
 obtain ⟨C,ψ,p,dx,fs,p',ex,gs,hmem,e1,ep,e2,ep',q2⟩:=z
 subst e1 e2
 obtain rfl:v=Value.ref p:=rx
 obtain rfl:u=Value.ref p':=ry
 have mc:=hL _ hmem
 obtain ⟨f,hme,F⟩:=mc.ex
 obtain ⟨mA,J,_⟩:=ins_get I2.hok ep
 obtain ⟨od,J,_⟩:=J.look
 obtain ⟨mB,J',_⟩:=ins_get I2.hok ep'
 obtain ⟨od',J',_⟩:=J'.look
 obtain ⟨mm,hF⟩:=I2.fr
 refine PySem.W.binop_K hF I2.ok.mod.kin J J'.type (hS _ hmem) (by rw [hm]; exact hme.at_) hme.fn ?_
 refine wpAny_mono (E3 (us:=[.ref p,.ref p']) (vs:=[.ref p,.ref p']) F (hr.mono hk) (L2N.passAt tk σ) I2 (.cons rfl (.cons rfl .nil)) q2) (fun r s3 z=>?_) fun _ _ x=>x
 have z':=z
 obtain ⟨w,H3,I3,rw,q3⟩:=z
 cases r <;> first | exact z' | (cases w <;> first | (cases rw; done) | (obtain ⟨_,h⟩:=rw; cases h; done))
theorem dX{K:PySem.W.Frag}(ha:Dx K W ta fa la)(hb:Dx K W tb fb lb):Dx K W (jW K L (WE W) ta tb) (F8 L fa fb) (la ++ lb):=by
 intro μ H0 A0 ρ σ H Q s h
 refine ha _ _ _ _ _ _ _ s (h.seq fun x ex h1 v1 H1 s1 r1=>?_)
 refine hb _ _ _ _ _ _ _ (s.grow s1) ((h1.grow s1).seq fun y ey h2 v2 H2 s2 r2=>?_)
 clear ex ey
 cases x <;> try (exact False.elim h2)
 cases y <;> try (exact False.elim h2)
 rename_i C ns ds D ms es
 simp only at h2
 by_cases hC:C=D
 case neg=>rw [if_neg hC] at h2; exact False.elim h2
 rw [if_pos hC] at h2
 subst hC
 cases el:L.lookup C with
 | none=>rw [el] at h2; exact False.elim h2
 | some ψ=>
  rw [el] at h2
  simp only at h2
  have r1':=r1.same s2
  have r2':=r2
  have r1:=r1.same s2
  unfold Rep at r1 r2
  obtain ⟨p,dx,fl,rfl,_,h3,_,_⟩:=r1
  obtain ⟨p',dx',fl',rfl,_,h4,_,_⟩:=r2
  refine ⟨C,ψ,p,dx,fl,p',dx',fl',lookup_mem el,rfl,h3,rfl,h4,[.obj C ns ds,.obj C ms es],Av ⟨K,μ⟩ A0 ρ σ (la ++ lb),μ,Ah.cons (r1'.BC fun _=>aJ) (Ah.cons (r2'.BC fun _=>bI) Ah.nil),fun a z=>(s.grow (s1.trans s2)).Dj z,?_⟩
  unfold Kl
  cases eo:ψ [.obj C ns ds,.obj C ms es] with
  | ok d=>rw [eo] at h2; exact fun v H' s' r=>h2 v H' ((s1.trans s2).trans s') r
  | exc x=>rw [eo] at h2; exact fun c od H' s' r=>h2 c od H' (s2.trans s') r
  | bad=>rw [eo] at h2; exact h2
theorem Ja(m:Str)(hL:∀ q∈L,MeC X.prog X.w X.K X.mg X.base k q.1 m q.2)(hS:∀ q∈L,PySem.W.selfFirst X.K q.1=true)(tk:L2N.Takes X W)(hr:Room j X.A)(hk:k≤j)(ha:Bc X W a fa la)(hb:Bc X W b fb lb)(hm:PySem.dunder op.info.2=m:=by rfl):
  Bc X W (.BinOp a op b pos) (F8 L fa fb) (la ++ lb):=by
 obtain ⟨ta,pa,da⟩:=ha
 obtain ⟨tb,pb,db⟩:=hb
 exact ⟨_,iu hm hL hS tk hr hk pa pb,dX da db⟩
end
structure CaC (P:Program) (w:World) (K:PySem.W.Frag) (mg:Str→Option Value) (base:Heap) (k:Nat) (C:Addr) (ψ:List Dt→Out Dt):Prop where
 ex:∃ f,StX.CallO K C f∧FnR P w K mg base (L2N.CX P w) k f (Np K ψ)
def Yo(L:Mg)(fo:Env→Out Dt)(fs:Env→Out (List Dt)):Env→Out Dt:=fun ρ=>(fo ρ).bind fun o=>match o with
 | .obj C ns ds=>(match L.lookup C with
  | some ψ=>(fs ρ).bind fun as=>ψ (.obj C ns ds :: as)
  | none=>.bad)
 | _=>.bad
def k8(L:Mg)(K:PySem.W.Frag)(E:L2.St→XK)(ta:TE)(t:TA):TE:=fun σ H Q=>ta σ H fun x H1=>∃ C ψ a dx fs,(C,ψ)∈L∧x=.ref a∧H1 a=some (.ins C dx fs)∧t σ H1 fun vs H2=>H2 a=some (.ins C dx fs)∧Np K ψ (x :: vs) H2 Q (E σ)
section
variable {X:Cx} {W:WX} {o e:Expr} {es:List Expr} {fo:Env→Out Dt} {fs:Env→Out (List Dt)} {la lk:List Nat} {pos:Pos} {L:Mg} {k j:Nat} {ta:TE} {t:TA}
theorem iq(hL:∀ q∈L,CaC X.prog X.w X.K X.mg X.base k q.1 q.2)(tk:L2N.Takes X W)(hr:Room j X.A)(hk:k≤j)(he:PE X o ta)(ha:PA X (e :: es) t)
  (ht:eval (.Call o (e :: es) [] pos) X.env=(do callWith pos (← eval o X.env) [] (backTo pos (starEach (e :: es) X.env)) (backToKw pos (keywordEach [] X.env))):=by rfl)
  (hst:starEach (e :: es) X.env=(false,eval e X.env) :: starEach es X.env:=by rfl) (hpl:(backTo pos (starEach es X.env)).any (·.1)=false:=by rfl):PE X (.Call o (e :: es) [] pos) (k8 L X.K (WE W) ta t):=by
 refine ⟨fun pins s σ H Q I h=>?_⟩
 refine Call_ (thn (he.run pins s σ H _ I h) fun u s1 ⟨x,H1,I1,rx,C,ψ,a,dx,fs,hm,ex,ea,q⟩=>?_) ht
 subst ex
 obtain rfl:u=Value.ref a:=rx
 obtain ⟨f,c,F⟩:=(hL _ hm).ex
 refine StX.callO_with (thn (ha.run pos pins s1 σ H1 _ I1 q) fun us s2 ⟨vs,H2,I2,r,ea2,q2⟩=>?_) hst hpl
 obtain ⟨mA,O,_⟩:=ins_get I2.hok ea2
 obtain ⟨od,J,_⟩:=O.look
 refine ⟨⟨C,_,od,J,rfl⟩,wpAny_call (PySem.W.kco_code I2.kIn J rfl c.at_ c.fn c.fi (codeAny_mono (F X.A X.stack s2 H2 (.ref a :: us) (.ref a :: vs) Q _ (hr.mono hk) I2.env0 (.cons rfl r) q2) fun r s' hq=>?_))⟩
 cases r with
 | error er=>exact (L2N.passAt tk σ) pins H2 s2 er s' I2 hq
 | ok fl=>
  cases fl with
  | ret v=>exact I2.after hq
  | next=>exact False.elim hq
  | brk=>exact False.elim hq
  | cont=>exact False.elim hq
theorem cU{K:PySem.W.Frag}(ho:Dx K W ta fo la)(ha:RR K W t fs lk):Dx K W (k8 L K (WE W) ta t) (Yo L fo fs) (la ++ lk):=by
 intro μ H0 A0 ρ σ H Q s h
 refine ho _ _ _ _ _ _ _ s (h.seq fun o eo h1 v1 H1 s1 r1=>?_)
 clear eo
 cases o <;> try (exact False.elim h1)
 rename_i C ns ds
 simp only at h1
 cases el:L.lookup C with
 | none=>rw [el] at h1; exact False.elim h1
 | some ψ=>
  rw [el] at h1
  simp only at h1
  have r1':=r1
  unfold Rep at r1
  obtain ⟨a,dx,fl,rfl,_,h2,h3,_⟩:=r1
  refine ⟨C,ψ,a,dx,fl,lookup_mem el,rfl,h2,?_⟩
  refine ha _ _ _ _ _ _ _ (s.grow s1) ((h1.grow s1).seq fun as _ h4 vs H2 s2 r2=>?_)
  refine ⟨s2 _ _ h2,.obj C ns ds :: as,Av ⟨K,μ⟩ A0 ρ σ (la ++ lk),μ,Ah.cons ((r1'.same s2).BC fun _=>aJ) (r2.BC fun _=>bI),fun a z=>(s.grow (s1.trans s2)).Dj z,?_⟩
  unfold Kl
  cases eo:ψ (.obj C ns ds :: as) with
  | ok d=>rw [eo] at h4; exact fun v H' s' r=>h4 v H' ((s1.trans s2).trans s') r
  | exc x=>rw [eo] at h4; exact fun c od H' s' r=>h4 c od H' (s2.trans s') r
  | bad=>rw [eo] at h4; exact h4
theorem iX(hL:∀ q∈L,CaC X.prog X.w X.K X.mg X.base k q.1 q.2)(tk:L2N.Takes X W)(hr:Room j X.A)(hk:k≤j)(ho:Bc X W o fo la)(ha:JL X W (e :: es) fs lk)
  (ht:eval (.Call o (e :: es) [] pos) X.env=(do callWith pos (← eval o X.env) [] (backTo pos (starEach (e :: es) X.env)) (backToKw pos (keywordEach [] X.env))):=by rfl)
  (hst:starEach (e :: es) X.env=(false,eval e X.env) :: starEach es X.env:=by rfl) (hpl:(backTo pos (starEach es X.env)).any (·.1)=false:=by rfl):Bc X W (.Call o (e :: es) [] pos) (Yo L fo fs) (la ++ lk):=by
 obtain ⟨te,pe,de⟩:=ho
 obtain ⟨ta,pa,da⟩:=ha
 exact ⟨_,iq hL tk hr hk pe pa ht hst hpl,cU de da⟩
end
end FD
namespace L2
open PySem PySem.Spec PyProof.Rows
def Q5:List Key→List PyData→Key→Option PyData
 | k :: ks,p :: ps,j=>if k=j then some p else Q5 ks ps j
 | _,_,_=>none
def Uj(ks:List Key)(ps:List PyData)(ls:List Key)(qs:List PyData):Bool:=(ks.zip ps).all fun z=>match Q5 ls qs z.1 with
 | some q=>PyData.eqv z.2 q
 | none=>false
section
variable {X:Cx} {pins:List (Addr × Obj)} {σ:St} {H:Hp} {s:Shared}
theorem Wt(I:Inv X pins σ H s):∀ {ls:List (Key × V)} {vb:List (Key × Value)} {qs:List PyData} (k:Key),KV ls vb→DpAll X.K H (ls.map (·.2)) qs→(Q5 (ls.map (·.1)) qs k=none∧valueAt vb k=none)∨∃ q y as,Q5 (ls.map (·.1)) qs k=some q∧q∈qs∧valueAt vb k=some y∧PySem.Reads s.heap y q as
 | [],_,[],k,.nil,.nil=>.inl ⟨rfl,rfl⟩
 | p :: ls,q :: vb,r :: qs,k,.cons h t,.cons d ds=>by
  obtain ⟨h1,h2⟩:=h
  by_cases e:p.1=k
  ·obtain ⟨as,ra⟩:=Dp.reads I r p.2 q.2 d h2
   refine .inr ⟨r,q.2,as,?_,List.mem_cons_self,?_,ra⟩
   ·show (if p.1=k then some r else _)=_
    rw [if_pos e]
   ·unfold valueAt
    have e':q.1=k:=by rw [← h1]; exact e
    simp [e']
  ·have e1:Q5 ((p :: ls).map (·.1)) (r :: qs) k=Q5 (ls.map (·.1)) qs k:=if_neg e
   have e2:valueAt (q :: vb) k=valueAt vb k:=by
    have e':¬ q.1=k:=by rw [← h1]; exact e
    unfold valueAt
    simp [e']
   rw [e1,e2]
   rcases Wt I k t ds with z | ⟨q',y,as,z1,z2,z3,z4⟩
   ·exact .inl z
   ·exact .inr ⟨q',y,as,z1,List.mem_cons_of_mem _ z2,z3,z4⟩
theorem MY{A:Around}(I:Inv X pins σ H s)(hu:A.units + 64 < cLine){ls:List (Key × V)}{vb:List (Key × Value)}{qs:List PyData}(kb:KV ls vb)(db:DpAll X.K H (ls.map (·.2)) qs)(sb:qs.all SeqAt.shaped=true):
  ∀ {ks:List (Key × V)} {va:List (Key × Value)} {ps:List PyData},KV ks va→DpAll X.K H (ks.map (·.2)) ps→ps.all SeqAt.shaped=true→PySem.W.KeqHits A s vb va (Uj (ks.map (·.1)) ps (ls.map (·.1)) qs)
 | [],_,[],.nil,.nil,_=>.nil
 | p :: ks,q :: va,r :: ps,.cons h t,.cons d ds,sp=>by
  rw [List.all_cons,Bool.and_eq_true] at sp
  obtain ⟨h1,h2⟩:=h
  obtain ⟨as,ra⟩:=Dp.reads I r p.2 q.2 d h2
  obtain ⟨k,v⟩:=q
  have h1:p.1=k:=h1
  rcases Wt I p.1 kb db with ⟨z1,z2⟩ | ⟨q',y,bs,z1,z2,z3,z4⟩
  ·have e:Uj ((p :: ks).map (·.1)) (r :: ps) (ls.map (·.1)) qs=false:=by
    show ((match Q5 (ls.map (·.1)) qs p.1 with | some q=>PyData.eqv r q | none=>false) && _)=false
    rw [z1]
    rfl
   rw [e]
   exact .miss (by rw [← h1]; exact z2)
  ·have e:Uj ((p :: ks).map (·.1)) (r :: ps) (ls.map (·.1)) qs=(PyData.eqv r q' && Uj (ks.map (·.1)) ps (ls.map (·.1)) qs):=by
    show ((match Q5 (ls.map (·.1)) qs p.1 with | some q=>PyData.eqv r q | none=>false) && _)=_
    rw [z1]
    rfl
   rw [e]
   have sq:=List.all_eq_true.mp sb q' z2
   exact .hit (by rw [← h1]; exact z3) (SeqAt.eqAt_reads r q' A s v y as bs ra z4 (SeqAt.canLay_of_shaped sp.1) (SeqAt.canLay_of_shaped sq) (SeqAt.room_of_shaped sp.1 hu)) (MY I hu kb db sb t ds sp.2)
def fU(K:PySem.W.Frag)(ng:Bool):R2:=fun x y H Q=>∃ a b ks ls ps qs,x=.ref a∧y=.ref b∧Rd H a (.dK ks)∧Rd H b (.dK ls)∧DpAll K H (ks.map (·.2)) ps∧DpAll K H (ls.map (·.2)) qs∧ps.all SeqAt.shaped=true∧qs.all SeqAt.shaped=true∧Q (.bl (xor ng (ks.length == ls.length && Uj (ks.map (·.1)) ps (ls.map (·.1)) qs))) H
theorem dy(hu:X.A.units + 66 < cLine)(ng:Bool){op:CmpOp}(ho:op=if ng then .NotEq else .Eq):OpR X (compareOp op) (fU X.K ng):=by
 intro pins s σ H x y v u Q I rx ry h
 obtain ⟨a,b,ks,ls,ps,qs,rfl,rfl,ea,eb,da,db,sa,sb,q⟩:=h
 obtain rfl:v=Value.ref a:=rx
 obtain rfl:u=Value.ref b:=ry
 obtain ⟨_,ya,va,ra,da'⟩:=ea.ok I.hok
 obtain ⟨_,yb,vb,rb,db'⟩:=eb.ok I.hok
 have la:va.length=ks.length:=(Paired.length ra).symm
 have lb:vb.length=ls.length:=(Paired.length rb).symm
 have hu1:X.A.in1.units + 64 < cLine:=by
  have:X.A.in1.units≤X.A.units + 1:=by first | exact Nat.le_refl _ | (show X.A.units + 1≤X.A.units + 1; omega)
  omega
 cases ng with
 | false=>
  subst ho
  rw [Bool.false_xor] at q
  exact PySem.W.keq_eq (knd:=mixKind X.prog X.w) ya yb da' db' (by omega) (fun _=>MY I hu1 rb db sb ra da sa) (fin_bl I q (by rw [la,lb]))
 | true=>
  subst ho
  rw [Bool.true_xor] at q
  exact PySem.W.keq_ne (knd:=mixKind X.prog X.w) ya yb da' db' (by omega) (fun _=>MY I hu1 rb db sb ra da sa) (fin_bl I q (by rw [la,lb]))
end
end L2
namespace FD
open PySem L2 PyProof.Rows PySem.Spec
def Rr(ng:Bool)(a b:Dt):Option Bool:=match a,b with
 | .dic ks ds,.dic ls es=>(Dt.OC ds).bind fun ps=>(Dt.OC es).bind fun qs=>if ps.all SeqAt.shaped=true∧qs.all SeqAt.shaped=true then some (xor ng (ks.length == ls.length && Uj ks ps ls qs)) else none
 | _,_=>none
theorem Zp{K:PySem.W.Frag}{ng:Bool}:Ol K (fU K ng) (Rr ng):=by
 intro μ H A a b d x y Q ra rb e q
 unfold Rr at e
 split at e
 ·obtain ⟨ps,e1,e⟩:=Option.bind_eq_some_iff.mp e
  obtain ⟨qs,e2,e⟩:=Option.bind_eq_some_iff.mp e
  obtain ⟨⟨h1,h2⟩,rfl⟩:=Bf e
  obtain ⟨a1,ks,rfl,g1,rfl,r1⟩:=GW ra
  obtain ⟨b1,ls,rfl,g2,rfl,r2⟩:=GW rb
  refine ⟨a1,b1,ks,ls,ps,qs,rfl,rfl,g1,g2,Ah.cq _ _ ps e1 r1,Ah.cq _ _ qs e2 r2,h1,h2,?_⟩
  rw [List.length_map,List.length_map] at q
  exact q
 ·cases e
theorem fF{X:Cx}{j:Nat}(hr:Room j X.A):Cmp X .Eq (Rr false):=⟨_,dy (by have:=hr.un; omega) false rfl,Zp⟩
end FD
namespace FD
open PySem L2 PyProof.Rows PySem.Spec
def V8(f:Env→Out (List Dt)):Env→Out Dt:=fun ρ=>(f ρ).bind fun ds=>if ds.length≤16777216 then .ok (.ptp ds) else .bad
theorem W4{f:Env→Out (List Dt)}{ρ:Env}:V8 f ρ=(f ρ).bind fun ds=>if ds.length≤16777216 then .ok (.ptp ds) else .bad:=rfl
def kI(t:TA):TE:=fun σ H Q=>t σ H fun xs H1=>xs.length≤sizeLine∧∀ (l:Addr) (o:Obj),H1 l=none→o.dict=none→Q (.ref l) (upd H1 l (.frz o (.tup xs)))
section
variable {X:Cx} {W:WX} {es:List Expr} {t ta:TA} {fs:Env→Out (List Dt)} {lk la lb:List Nat} {pos p:Pos}
theorem iA{x1}(h:PA X es t):PE X (.Tuple es x1 pos) (kI t):=by
 refine ⟨fun pins s σ H Q I hq=>?_⟩
 refine wpAny_Tuple_spliced (thn (h.run pos pins s σ H _ I hq) fun us s1 ⟨xs,H1,I1,r,z,q⟩=>⟨by rw [← r.length]; exact z,?_⟩)
 have hf:H1 s1.heap.objs.size=none:=I1.hok.fresh (Nat.le_refl _)
 refine ⟨.ref s1.heap.objs.size,_,I1.laid (t':=s1.toks) (fun b u e=>Heap.get?_push_of_some _ e) (Nat.le_refl _) (show ObjOk X.prog X.w _ _ _ (.frz _ (.tup xs)) from ⟨Heap.get?_push_size _ rfl,z,us,r,⟨_,Heap.get?_push_size _ rfl,rfl,_,rfl⟩⟩),rfl,q _ _ hf rfl⟩
theorem cV{K:PySem.W.Frag}(ha:RR K W ta fs la):Dx K W (kI ta) (V8 fs) la:=by
 intro μ H0 A0 ρ σ H Q s h
 refine ha _ _ _ _ _ _ _ s (h.seq fun ds _ h1 vs H1 s1 r1=>?_)
 split at h1
 ·rename_i hl
  refine ⟨by rw [r1.length,sizeLine_eq]; exact hl,fun p o hp ho=>h1 _ _ (s1.trans (Same.new hp)) ?_⟩
  unfold Rep
  exact ⟨p,vs,rfl,⟨(s.grow s1).NB hp,o,upd_same,ho⟩,r1.same (Same.new hp)⟩
 ·exact False.elim h1
theorem aE{x1}(ha:JL X W es fs lk):Bc X W (.Tuple es x1 pos) (V8 fs) lk:=by
 obtain ⟨ta,pa,da⟩:=ha
 exact ⟨_,iA pa,cV da⟩
end
def Ks(i:Nat)(f:Env→Out (List Dt)):Env→SOut:=fun ρ=>HU (f ρ) ρ fun ds=>match Ef ds with
 | some (.dic ks es)=>if Dt.DK es=true then .ok .nx (ρ.set i (some (.od ks es))) else .bad
 | _=>.bad
theorem Vt{i:Nat}{f:Env→Out (List Dt)}{ρ:Env}:Ks i f ρ=HU (f ρ) ρ fun ds=>match Ef ds with
 | some (.dic ks es)=>if Dt.DK es=true then .ok .nx (ρ.set i (some (.od ks es))) else .bad
 | _=>.bad:=rfl
section
variable {K:PySem.W.Frag} {W:WX} {la lb lk:List Nat}
theorem Vh{ta:TA}{f:Env→Out (List Dt)}{i:Nat}(ha:RR K W ta f la):IF K W (tAsg (tCB (Vy K) ta) (gName i)) (Ks i f):=by
 intro μ H0 A0 ρ σ H D s h
 unfold Ks at h
 refine ha _ _ _ _ _ _ _ s (AY.st s h fun ds _ h2 vs H1 s1 r1=>?_)
 cases eg:Ef ds with
 | none=>rw [eg] at h2; exact False.elim h2
 | some d=>
  rw [eg] at h2
  unfold Ef at eg
  split at eg
  ·rename_i es
   obtain ⟨ps,e1,eg⟩:=Option.bind_eq_some_iff.mp eg
   obtain ⟨hn,rfl⟩:=Bf eg
   simp only at h2
   split at h2
   ·rename_i hpu
    obtain ⟨v,rfl,rr⟩:=CO r1
    unfold Rep at rr
    obtain ⟨a,us,rfl,⟨_,o,ho,hd⟩,r2⟩:=rr
    obtain ⟨as,kvs,rfl,hp,hk,r3⟩:=V4 e1 r2
    refine ⟨a,o,as,kvs,rfl,ho,hd,hp,fun p hnew=>?_⟩
    have hm:mergeK [] kvs=kvs:=by
     have:=JT kvs [] (by rw [List.map_nil,List.nil_append,hk]; exact hn)
     rw [this,List.nil_append]
    rw [hm]
    have hS:Same H (upd H1 p (.dK kvs)):=s1.trans (Same.new hnew)
    have sg:=s.grow s1
    have r4:=Ah.pure (A':=Av ⟨K,μ⟩ A0 ρ σ []) (fun a z=>sg.Dj z) _ _ hpu r3
    exact h2 _ _ _ (Xt.refl _) (s.Xr (i:=i) (lk:=[]) (p:=p) hS (s1.free hnew) upd_same hk ((Ah.fresh hnew _ _ r4).same (Same.new hnew)))
   ·exact False.elim h2
  ·cases eg
end
section
variable {X:Cx} {W:WX} {e:Expr} {fs:Env→Out (List Dt)} {lk:List Nat} {p pos:Pos}
theorem aA(i:Nat){x:Str}{pos':Pos}(hc:X.calm=true)(hg:Gl X "dict")(hm:X.mg "dict" = none)(ha:JL X W [e] fs lk)(hN:X.N.Nodup)(he:starEach [e] X.env=(false,eval e X.env) :: starEach [] X.env:=by rfl)(hi:X.N[i]? = some x:=by rfl)(hx:Loc X.env.scope x:=by first | exact Or.inl rfl | exact Or.inr rfl)
  (hs:swapsWith (.Call (.Name "dict" p) [e] [] pos) (some (.Name x pos')) pos.line X.env=pure false:=by rfl) (hf:X.fn x=true∨X.env.scope.names.lookup x=some .local:=by first | exact .inl rfl | exact .inr rfl | assumption) {q:Pos} (hs2:swapsWith (.Call (.Name "dict" p) [e] [] pos) (some (.Name x pos')) q.line X.env=pure false:=by rfl):MQ X W (.Assign [.Name x pos'] (.Call (.Name "dict" p) [e] [] pos) q) (Ks i fs):=by
 obtain ⟨ta,pa,da⟩:=ha
 exact ⟨_,ps_set hN hi hx (pe_callTy (Po hc) hg hm (by decide +kernel) pa (by decide) (by decide) he rfl) hs2 hf,Vh da⟩
end
end FD
namespace FD
open PySem L2 PyProof.Rows PySem.Spec
def K2(n:Nat)(f:Env→Out Dt):Env→XO Dt:=fun ρ=>(f ρ).xb ρ fun d=>match d with
 | .ad k=>(match hM n (.ad k) ρ with
  | some p=>.ok p.1 p.2
  | none=>.bad)
 | _=>.bad
section
variable {K:PySem.W.Frag} {S:List Nat} {W:WX} {la lb:List Nat} {n:Nat}
theorem ZW{te:TE}{f:Env→Out Dt}(hS:n∈S)(ha:Dx K W te f la):MR K W S te (K2 n f) []:=by
 intro μ H0 A0 ρ σ H Q s h
 refine ha _ _ _ _ _ _ _ s (CN.pb s h fun d ed h1 v H1 s1 r1=>?_)
 clear ed
 cases d <;> try (exact False.elim h1)
 rename_i k
 simp only at h1
 split at h1
 ·rename_i p hp
  obtain ⟨e,ρ'⟩:=p
  have sg:=s.grow s1
  have r1':Rep ⟨K,μ⟩ H1 (Av ⟨K,μ⟩ A0 ρ σ []) (.ad k) v:=by
   unfold Rep at r1 ⊢
   exact r1
  obtain ⟨s2,o1,k1,q1⟩:=cW sg hp r1'
  exact h1 μ v H1 (((Ch.refl μ H ρ).grow s1).trans (Ch.gv hS o1 fun j hj=>k1 j fun z=>hj (by rw [z]; exact hS))) s2 q1
 ·exact False.elim h1
theorem eE{X:Cx}{x:Expr}{f:Env→Out Dt}(n:Nat)(h:Bc X W x f la)(hS:n∈S:=by decide):KR X W S x (K2 n f) []:=by
 obtain ⟨te,pe,de⟩:=h
 exact ⟨te,pe,ZW hS de⟩
end
def Ga(n i:Nat)(fk:Env→Out Dt):Env→SOut:=fun ρ=>match ρ[i]? with
 | some (some (.sh (.ad j)))=>(match DM n ρ with
  | some cs=>(match cs[j]? with
   | some (.dic ks ds)=>HU (fk ρ) ρ fun k=>(match keyD k with
    | some k=>if k∈ks then .ok .nx (ρ.set n (some (.mh (cs.set j (.dic (La ks k) (Gg ks ds k)))))) else .bad
    | none=>.bad)
   | _=>.bad)
  | none=>.bad)
 | _=>.bad
def f7:Cell→Option Dt
 | .dic ks _=>some (.int ks.length)
 | _=>none
def P1(n i:Nat):Env→Out Dt:=fun ρ=>match ρ[i]? with
 | some (some (.sh (.ad k)))=>FU ((DM n ρ).bind fun cs=>(cs[k]?).bind f7)
 | _=>.bad
section
variable {K:PySem.W.Frag} {W:WX} {la lb:List Nat}
theorem YR{n i:Nat}{tk:TE}{fk:Env→Out Dt}(hk:Dx K W tk fk la):IF K W (tDrop (tDPop1 (tVar i) tk)) (Ga n i fk):=by
 intro μ H0 A0 ρ σ H D s h
 unfold Ga at h
 split at h
 ·rename_i j e2
  obtain ⟨v0,e5,r0⟩:=s.lo i _ e2
  unfold Rep at r0
  obtain ⟨b,eb,rfl⟩:=r0
  split at h
  ·rename_i cs ec
   split at h
   ·rename_i ks ds e1
    obtain ⟨kvs,h1,h2,h3,r2⟩:=LK s ec e1 eb
    subst h3
    refine ⟨_,e5,b,rfl,.inl ⟨kvs,.inl h1⟩,?_⟩
    refine hk _ _ _ _ _ _ _ s (AY.st s h fun k _ h4 w H2 g2 rk=>?_)
    have s2:=s.grow g2
    split at h4
    ·rename_i k' ek
     have ew:=IY ek rk
     subst ew
     split at h4
     ·rename_i hm
      cases ev:valV kvs k' with
      | none=>exact absurd ev (ZK hm)
      | some v=>
       refine ⟨kvs,k',v,g2 _ _ h1,rfl,ev,?_⟩
       obtain ⟨_,_,hc⟩:=s2.lo n _ (CM ec)
       obtain ⟨h0,kvs',hb,hks,r⟩:=hc j _ b e1 eb
       have e6:kvs'=kvs:=by
        have:=g2 _ _ h1
        rw [this] at hb
        cases hb
        rfl
       subst e6
       refine h4 _ _ _ (Xt.refl _) (s2.b0 (c':=.dic (La (kvs'.map (·.1)) k') (Gg (kvs'.map (·.1)) ds k')) (CM ec) e1 rfl eb rfl fun A' hA=>?_)
       have ow:Bj ⟨K,μ⟩ ρ σ n b:=⟨_,CM ec,j,_,e1,rfl,eb⟩
       exact ⟨h0,dropK kvs' k',upd_same,V2,Qo (r.mono (Av.keep ow) hA)⟩
     ·exact False.elim h4
    ·exact False.elim h4
   ·exact False.elim h
  ·exact False.elim h
 ·exact False.elim h
theorem X8(n i:Nat):Dx K W (tCB (fun xs H Q=>∃ a kvs,xs=[V.ref a]∧H a=some (.dK kvs)∧Q (.int kvs.length) H) (tCons (tVar i) tNil)) (P1 n i) []:=by
 intro μ H0 A0 ρ σ H Q s h
 unfold P1 at h
 split at h
 ·rename_i k e
  obtain ⟨d,e2,q⟩:=BM h
  obtain ⟨cs,ec,e3⟩:=Option.bind_eq_some_iff.mp e2
  obtain ⟨c,e1,e4⟩:=Option.bind_eq_some_iff.mp e3
  obtain ⟨v,e5,r⟩:=s.lo i _ e
  unfold Rep at r
  obtain ⟨b,eb,rfl⟩:=r
  cases c with
  | gone=>cases e4
  | lst ds=>cases e4
  | ins C ns ds=>cases e4
  | dic ks ds=>
   cases e4
   obtain ⟨kvs,h1,h2,h3,r2⟩:=LK s ec e1 eb
   subst h3
   refine ⟨_,e5,b,kvs,rfl,h1,?_⟩
   rw [List.length_map] at q
   exact q _ H (Same.refl H) rfl
 ·exact False.elim h
end
section
variable {X:Cx} {W:WX} {e:Expr} {fk:Env→Out Dt} {la lb:List Nat} {apos cpos pos p p1:Pos}
theorem dN(n i:Nat){x:Str}(hk:Bc X W e fk la)(m:M1 X (.Name x p1) "pop" apos e cpos)(hN:X.N[i]? = some x:=by rfl)(hv:Vis X.env.scope x:=by first | exact Or.inl rfl | exact Or.inr (Or.inl rfl) | exact Or.inr (Or.inr rfl))(hd:(x == ("__debug__" : Str))=false:=by decide)
  (hcd:(x == ("__classdict__" : Str))=false:=by decide) (hs:swapsWith (.Call (.Attribute (.Name x p1) "pop" apos) [e] [] cpos) none pos.line X.env=pure false:=by rfl):MQ X W (.Expr (.Call (.Attribute (.Name x p1) "pop" apos) [e] [] cpos) pos) (Ga n i fk):=by
 obtain ⟨t,p,d⟩:=hk
 exact ⟨_,ps_expr (pe_dpop1 (pe_var hN hv hd hcd) p m) hs,YR d⟩
theorem Zg(n i:Nat){x:Str}(hg:Gl X "len")(hm:X.mg "len" = none)(hN:X.N[i]? = some x:=by rfl)(hv:Vis X.env.scope x:=by first | exact Or.inl rfl | exact Or.inr (Or.inl rfl) | exact Or.inr (Or.inr rfl))(hd:(x == ("__debug__" : Str))=false:=by decide)
  (hcd:(x == ("__classdict__" : Str))=false:=by decide) (he:starEach [.Name x p1] X.env=(false,eval (.Name x p1) X.env) :: starEach [] X.env:=by rfl):Bc X W (.Call (.Name "len" p) [.Name x p1] [] pos) (P1 n i) []:=
 ⟨_,pe_callB call_lenD hg hm boot_len (pa_cons (pe_var hN hv hd hcd) pa_nil he) (by decide) (by decide) he rfl,X8 n i⟩
end
end FD
namespace FD
open PySem L2 PyProof.Rows PySem.Spec
section
variable {X:Cx} {W:WX} {e:Expr} {es:List Expr} {fk f:Env→Out Dt} {t:Env→Out Bool} {u:Dt→Env→Option Env} {S lk lt lq le:List Nat}
theorem kU{kx elt tg iter:Expr}{ifs:List Expr}{scope:Scope}{pos:Pos}{src:Env→Out (List Dt)}(own:List (Str × Nat))(hc:X.calm=true)(hN:X.N.Nodup)(hi:iz X W tg iter src lk)
  (hg:∀ (s:Shared) (H:Hp) (C:Addr) (cl:List (Str × Addr)) (fp:List Addr),Xd (X.blk s H scope (compEnvC scope cl C X.env) fp) tg u S)
  (ht:∀ (s:Shared) (H:Hp) (C:Addr) (cl:List (Str × Addr)) (fp:List Addr),Q8 (X.blk s H scope (compEnvC scope cl C X.env) fp) W0 ifs t lt)
  (hk:∀ (s:Shared) (H:Hp) (C:Addr) (cl:List (Str × Addr)) (fp:List Addr),Bc (X.blk s H scope (compEnvC scope cl C X.env) fp) W0 kx fk lq)
  (he:∀ (s:Shared) (H:Hp) (C:Addr) (cl:List (Str × Addr)) (fp:List Addr),Bc (X.blk s H scope (compEnvC scope cl C X.env) fp) W0 elt f le)
  (ok:BlkOk X.N X.env.scope scope own:=by exact blkOk_by (by decide +kernel)) (hS:∀ i∈S,i∈own.map (·.2):=by decide) (hs:∀ x,foldedSetIterable iter X.env x=pure x:=by intro _; rfl):
  Bc X W (.DictComp kx elt [⟨tg,iter,ifs,0⟩] scope pos) (jK u (own.map (·.2)) t fk f src lk) (lk ++ (le ++ own.map (·.2))):=by
 obtain ⟨wi,pi,di⟩:=hi
 have dd:=iy (K:=X.K) di (g:=cG X.K u S) (fun μ H0 A0 ρ ρ' σ H d v Q s r e q=>⟨μ,H0,A0,ρ,ρ',d,s,r,e,q⟩) hS (lt:=lt) (tt:=cT X.K W0 t) (fun μ H0 A0 ρ σ H Q s h=>⟨μ,H0,A0,ρ,s,h⟩) (tk:=cE X.K W0 fk lq) (lq:=lq) (fun μ H0 A0 ρ σ H Q s h=>⟨μ,H0,A0,ρ,s,h⟩) (te:=cE X.K W0 f le) (le:=le) (fun μ H0 A0 ρ σ H Q s h=>⟨μ,H0,A0,ρ,s,h⟩)
 exact ⟨_,pe_dc hc hN pi ok (fun s H C cl fp=>(hg s H C cl fp).Lu) (fun s H C cl fp=>(ht s H C cl fp).Lu) (fun s H C cl fp=>(hk s H C cl fp).Lu) (fun s H C cl fp=>(he s H C cl fp).Lu) hs,dd⟩
end
section
variable {X:Cx} {K:PySem.W.Frag} {W:WX} {a b:Expr} {fa fb:Env→Out Dt} {la lb:List Nat} {pos:Pos} {j:Nat}
theorem c7{ta tb:TE}(ha:Dx K W ta fa la)(hb:Dx K W tb fb lb):Dx K W (tDIn ta tb) (eT (t2 fa fb Dk)) []:=by
 intro μ H0 A0 ρ σ H Q s h
 have e:eT (t2 fa fb Dk) ρ=(fa ρ).bind fun a=>(fb ρ).bind fun b=>(FU (Dk a b)).bind fun c=>.ok (.bl c):=by
  unfold eT t2
  cases fa ρ with
  | ok a=>cases fb ρ <;> rfl
  | exc x=>rfl
  | bad=>rfl
 rw [e] at h
 refine ha _ _ _ _ _ _ _ s (h.seq fun a ea h1 v1 H1 s1 r1=>?_)
 clear ea
 refine hb _ _ _ _ _ _ _ (s.grow s1) ((h1.grow s1).seq fun b eb h2 v2 H2 s2 r2=>?_)
 clear eb h1
 cases b <;> try (exact False.elim h2)
 rename_i ks ds
 cases ek:keyD a with
 | none=>
  have e:Dk a (.dic ks ds)=none:=by unfold Dk; rw [ek]; rfl
  rw [e] at h2
  exact False.elim h2
 | some k'=>
  have e:Dk a (.dic ks ds)=some (decide (k'∈ks)):=by unfold Dk; rw [ek]; rfl
  rw [e] at h2
  obtain ⟨p,kvs,rfl,h3,rfl,r3⟩:=GW r2
  have e1:=IY ek r1
  subst e1
  refine ⟨p,valV kvs k',rfl,.inl ⟨kvs,k',h3,rfl,rfl⟩,?_⟩
  rw [Nz]
  exact h2 _ H2 (s1.trans s2) rfl
theorem jC(hr:Room j X.A)(ha:Bc X W a fa la)(hb:Bc X W b fb lb)(hm:behindInMarks .In b=false:=by first | exact nobehind _ (by decide) (by decide) | rfl):Bc X W (.Compare a [.In] [b] pos) (eT (t2 fa fb Dk)) []:=by
 obtain ⟨t,p,d⟩:=ha
 obtain ⟨t',p',d'⟩:=hb
 exact ⟨_,pe_cmp (pc_din (u1 hr) p p') hm,c7 d d'⟩
end
end FD
namespace FD
open PySem L2 PyProof.Rows PySem.Spec
def Lg(fk fv:Env→Out Dt):Env→Out Dt:=fun ρ=>(fk ρ).bind fun k=>(fv ρ).bind fun d=>match keyD k with
 | some k=>if d.scal=true then .ok (.dic [k] [d]) else .bad
 | none=>.bad
section
variable {X:Cx} {K:PySem.W.Frag} {W:WX} {a b:Expr} {fk fv:Env→Out Dt} {la lb:List Nat} {p:Pos}
theorem Xy{tk tv:TE}(hk:Dx K W tk fk la)(hv:Dx K W tv fv lb):Dx K W (tDisp [(tk,tv)]) (Lg fk fv) []:=by
 intro μ H0 A0 ρ σ H Q s h
 unfold Lg at h
 intro p hp
 have s0:=s.grow (Same.new (o:=.dK []) hp)
 have h0:=h.grow (Same.new (o:=.dK []) hp)
 refine hk _ _ _ _ _ _ _ s0 (h0.seq fun k ek h2 v1 H1 s1 r1=>?_)
 clear ek
 have s1':=s0.grow s1
 refine hv _ _ _ _ _ _ _ s1' ((h2.grow s1).seq fun d ed h3 v2 H2 s2 r2=>?_)
 clear ed
 cases ekey:keyD k with
 | none=>rw [ekey] at h3; exact False.elim h3
 | some key=>
  rw [ekey] at h3
  simp only at h3
  split at h3
  ·rename_i hsc
   have sm:=s1.trans s2
   have hpd:H2 p=some (.dK []):=sm _ _ upd_same
   refine ⟨hpd,[(key,v2)],by rw [IY ekey r1]; rfl,by show 1≤15; decide,?_⟩
   have hS:Same H (upd H2 p (.dK (mergeK [] [(key,v2)]))):=fun b o hb=>by
    have hne:b≠p:=fun z=>by rw [z,hp] at hb; cases hb
    rw [upd_ne hne]
    exact sm _ _ (by rw [upd_ne hne]; exact hb)
   refine h3 _ _ hS ?_
   unfold Rep
   exact ⟨p,mergeK [] [(key,v2)],rfl,fun z=>by have:=s.Dj z; rw [hp] at this; exact this,.inl upd_same,rfl,show Ah ⟨K,μ⟩ _ _ [d] [v2] from Ah.cons (r2.scal hsc) Ah.nil⟩
  ·exact False.elim h3
theorem Zh(hk:Bc X W a fk la)(hv:Bc X W b fv lb):Bc X W (.Dict [some a] [b] p) (Lg fk fv) []:=by
 obtain ⟨t,p,d⟩:=hk
 obtain ⟨t',p',d'⟩:=hv
 exact ⟨_,pe_disp (pps_cons p p' pps_nil) rfl rfl (fun z=>nomatch z) (show 1≤15 by decide),Xy d d'⟩
end
end FD
namespace FD
open PySem L2 PyProof.Rows PySem.Spec
section
variable {P:Program} {w:World} {K:PySem.W.Frag} {mg:Str→Option Value} {base:Heap} {H:Hp} {A:Ad}
theorem Z9{qual:Str}{name:Str}{params:Arguments}{body:List Stmt}{scope:Scope}{dV kV doc pm cdv ct oc:Value}{an od:Option Addr}{osl:Array (Option Value)}{f:Addr}{N ps:List Str}{pv:Str}{k:Nat}{g:Env→SOut}
  (lk:K.lookup f=some ⟨oc,od,.func (PySem.W.fnOf name qual params body scope dV kV doc pm an cdv ct),osl⟩) (hcd:PySem.W.codeIn K cdv qual=true) (S:FnScope N (ps ++ [pv]) scope)
  (hb:∀ us rest:List Value,us.length=ps.length→bindArgs (PySem.W.fnOf name qual params body scope dV kV doc pm an cdv ct) ⟨us ++ rest,[]⟩=(newTuple rest >>= fun t=>pure (ps.zip us ++ [(pv,t)])))
  (hbody:∀ (A:Around) (outer:List PySem.Env) (s:Shared) (H:Hp) (E:XK),Room k (A.deeper (envOfC qual scope s.heap.objs.size f cdv))→Hn (cxOf (L2N.CX P w) P w K mg base N qual scope f cdv A outer s H E) (fun c d _ H'=>E c d H') body g):
  FnR P w K mg base (L2N.CX P w) (k + 1) f (Np K (X3 ps.length (Ax N.length g))):=by
 refine FnR.imp (StX.fn_star (sp:=DH K (ps.length + 1) (Ax N.length g)) lk hcd S kF hb (fun A outer s H vs Q E hr h=>?_)) (fun vs H Q E h=>?_)
 ·obtain ⟨ds,A',μ,r,hl,ha,h⟩:=h
  obtain ⟨ts,hp,hd⟩:=hbody A outer s H E hr
  exact ⟨ts,hp,UN hd r ha h _ (fun _ _ q=>q) (fun _ _ q=>q)⟩
 ·obtain ⟨ds,A,μ,r,ha,h⟩:=h
  unfold X3 at h
  by_cases hl:ps.length≤ds.length∧ds.length≤16777216
  ·rw [if_pos hl] at h
   obtain ⟨h1,h2⟩:=hl
   refine ⟨vs.take ps.length,vs.drop ps.length,(List.take_append_drop _ _).symm,?_,?_,fun p hp=>?_⟩
   ·rw [List.length_take,r.length]; omega
   ·rw [List.length_drop,r.length,sizeLine_eq]; omega
   ·have sm:Same H (upd H p (.tup (vs.drop ps.length))):=Same.new hp
    refine ⟨ds.take ps.length ++ [.tup (ds.drop ps.length)],A,μ,Ah.append ((Ah.take _ r).same sm) (Ah.cons ?_ Ah.nil),?_,fun a z=>?_,?_⟩
    ·unfold Rep
     refine ⟨p,_,rfl,.inl ⟨fun z=>?_,upd_same⟩,(Ah.drop _ r).same sm⟩
     have q:=ha p z
     rw [hp] at q
     exact q
    ·rw [List.length_append,List.length_take,List.length_singleton]; omega
    ·have q:=ha a z
     rw [upd_ne]
     ·exact q
     ·intro e
      rw [e,hp] at q
      exact q
    ·cases eo:Ax N.length g (ds.take ps.length ++ [.tup (ds.drop ps.length)]) with
     | ok d=>rw [eo] at h; exact fun v H' s' r'=>h v H' (sm.trans s') r'
     | exc x=>rw [eo] at h; exact fun c od H' s' r'=>h c od H' (sm.trans s') r'
     | bad=>rw [eo] at h; exact h
  ·rw [if_neg hl] at h
   exact False.elim h
theorem bo{x qual:Str}{params:Arguments}{body:List Stmt}{scope:Scope}{f:Addr}{fd:FuncData}{N ps:List Str}{pv:Str}{k:Nat}{g:Env→SOut}(F:FunD K x qual params body scope [] [] f fd)(S:FnScope N (ps ++ [pv]) scope)
  (hb:∀ (kV doc pm:Value) (an:Option Addr) (cdv ct:Value) (us rest:List Value),us.length=ps.length→bindArgs (PySem.W.fnOf x qual params body scope .none kV doc pm an cdv ct) ⟨us ++ rest,[]⟩=(newTuple rest >>= fun t=>pure (ps.zip us ++ [(pv,t)])))
  (hbody:∀ (cdv:Value) (A:Around) (outer:List PySem.Env) (s:Shared) (H:Hp) (E:XK),Room k (A.deeper (envOfC qual scope s.heap.objs.size f cdv))→Hn (cxOf (L2N.CX P w) P w K mg base N qual scope f cdv A outer s H E) (fun c d _ H'=>E c d H') body g):
  FnR P w K mg base (L2N.CX P w) (k + 1) f (Np K (X3 ps.length (Ax N.length g))):=by
 obtain ⟨oc,od,dV,kV,doc,pm,an,cdv,ct,osl,rfl,lk,hcd,hD,_⟩:=F.ex
 rcases hD with ⟨_,rfl⟩ | ⟨z,_⟩
 ·exact Z9 lk hcd S (hb kV doc pm an cdv ct) (hbody cdv)
 ·exact absurd rfl z
end
section
variable {X:Cx} {W:WX} {o:Expr} {fo:Env→Out Dt} {la:List Nat} {p pos apos:Pos} {ψ:List Dt→Out Dt} {C:Addr}
theorem VD{m:Str}{k j:Nat}{ta:TE}{pl:Sem Bool}(c:SmC X.prog X.w X.K X.mg X.base k C m ψ)(tk:L2N.Takes X W)(hr:Room j X.A)(hk:k≤j)(he:PE X o ta)
  (ht:eval (.Call (.Attribute o m apos) [] [] pos) X.env=(do
   let ov ← eval o X.env
   standAt apos.atName
   let (f,first) ← holding [ov] (getMethod ov m pl)
   callWith pos f first (backTo pos (starEach [] X.env)) (backToKw pos (keywordEach [] X.env))):=by rfl):
  PE X (.Call (.Attribute o m apos) [] [] pos) (SA C ψ X.K (WE W) ta tNil):=by
 obtain ⟨mc,q,g,r,cm,F⟩:=c.ex
 obtain ⟨rest,hp⟩:=cm.rc
 refine ⟨fun pins s σ H Q I h=>?_⟩
 refine PySem.W.methodCall_KW (pl:=pl) (thn (he.run pins s σ H _ I h) fun u s1 ⟨x,H1,I1,rx,ex,q⟩=>?_) ht
 subst ex
 obtain rfl:u=Value.ref C:=rx
 refine PySem.W.method_cls I1.kIn r.ga (PySem.W.cls_bind I1.kIn r.rd cm.at_ (wpAny_call (PySem.W.sm_get (s:={ s1 with toks:=s1.toks + 1 }) I1.kIn hp (PySem.W.handed_on rfl ?_))))
 have I2:=I1.tok (s1.toks + 1)
 exact PySem.W.callWith_K0 (first:=[]) I2.kIn cm.kp (E3 (us:=[]) (vs:=[]) F (hr.mono hk) (L2N.passAt tk σ) I2 .nil q)
theorem XZ{m:Str}{k j:Nat}{pl:Sem Bool}(c:SmC X.prog X.w X.K X.mg X.base k C m ψ)(tk:L2N.Takes X W)(hr:Room j X.A)(hk:k≤j)(ho:Bc X W o fo la)
  (ht:eval (.Call (.Attribute o m apos) [] [] pos) X.env=(do
   let ov ← eval o X.env
   standAt apos.atName
   let (f,first) ← holding [ov] (getMethod ov m pl)
   callWith pos f first (backTo pos (starEach [] X.env)) (backToKw pos (keywordEach [] X.env))):=by rfl):
  Bc X W (.Call (.Attribute o m apos) [] [] pos) (Ge C ψ fo Ag) []:=by
 obtain ⟨te,pe,de⟩:=ho
 exact ⟨_,VD c tk hr hk pe ht,PD de (MB (W:=W))⟩
end
end FD
namespace Lk15
open PySem L2 PyProof.Rows PySem.Spec FD
noncomputable def LF(K:PySem.W.Frag)(cs:Cs):FD.Env→SOut:=
 (AA (eB J0 (Ab (eL (N8 (Aa 0))) Ag)) [0])
noncomputable def GV(K:PySem.W.Frag)(cs:Cs):List Dt→Out Dt:=CI 1 (Ax 1 (LF K cs))
noncomputable def MJ(K:PySem.W.Frag)(cs:Cs):FD.Env→SOut:=
 (Am (A1 (Fh (AO (Ai 2) (AO (Ai 3) EO))) (AB (Aa 0)) [0]
 (CF (CD (t2 (Aa 2) (Aa 1) (CT Dk)) (t2 (Aa 3) (e2 (Aa 1) (Aa 2) AH) (cI fun i j=>decide (j < i)))) (AA (eC (.bl false)) []) Ar))
 (AA (eC (.bl true)) []))
noncomputable def Hf(K:PySem.W.Frag)(cs:Cs):List Dt→Out Dt:=CI 2 (Ax 4 (MJ K cs))
noncomputable def Hw(K:PySem.W.Frag)(cs:Cs):FD.Env→SOut:=
 (Am (A8 2 (eB Ef (Ab (Aa 1) Ag)) [1])
 (Am (A1 (Ai 3) (AB (Aa 0)) [0]
 (CF (t1 (Al (Hf K cs) (Ab (Aa 3) (Ab (Aa 2) Ag))) A2) (AA (eC (.bl true)) []) Ar))
 (AA (eC (.bl false)) [])))
noncomputable def EI(K:PySem.W.Frag)(cs:Cs):List Dt→Out Dt:=CI 2 (Ax 4 (Hw K cs))
noncomputable def Lj(K:PySem.W.Frag)(cs:Cs):FD.Env→SOut:=
 (Am (A8 1 (eL (lB BU (Ab (eL (Fi (Ai 2) [2] AK (GK (Ab (eB BO (Ab (Aa 2) Ag)) (Ab (eB QY (Ab (eL (Fi (Fh (AO (Ai 3) (AO (Ai 4) EO))) [3,4] AK (Aa 4) (AB (Aa 2)) [2])) Ag)) (Ab (Aa 2) Ag)))) (AB (Aa 0)) [0])) Ag))) [0,2,2])
 (Am (Hz 5 (Eb Ag) [])
 (Am (A1 (Fh (AO (Ai 6) (AO (Ai 7) (AO (Ai 2) EO)))) (AB (Aa 1)) [1]
 (CF (A6 (t1 (Al (EI K cs) (Ab (Aa 5) (Ab (Aa 2) Ag))) A2)) (D6 5 (Aa 2) [2]) Ar))
 (AA (eB Jx (Ab (eL (lB BU (Ab (Aa 5) Ag))) Ag)) [5]))))
noncomputable def Ij(K:PySem.W.Frag)(cs:Cs):List Dt→Out Dt:=CI 1 (Ax 8 (Lj K cs))
noncomputable def LP(K:PySem.W.Frag)(cs:Cs):FD.Env→SOut:=
 (AA (Al (Ij K cs) (Ab (eL (Fi (Ai 1) [1] AK (Al (GV K cs) (Ab (Aa 1) Ag)) (AB (Aa 0)) [0])) Ag)) [0,1,1])
noncomputable def JH(K:PySem.W.Frag)(cs:Cs):List Dt→Out Dt:=CI 1 (Ax 2 (LP K cs))
noncomputable def Hq(K:PySem.W.Frag)(cs:Cs):FD.Env→SOut:=
 (Am (CF (t2 (eB BO (Ab (Aa 0) Ag)) (eC (.int 0)) Nv) (JW cs.c_EmptyForm CV Cy Ag) Ar)
 (A1 (Ai 1) (AB (Aa 0)) [0]
 (CF (t2 (eB G2 (Ab (Aa 1) Ag)) (eC (.int 0)) Nv) (JW cs.c_EmptyForm CV Cy Ag) Ar)))
noncomputable def FZ(K:PySem.W.Frag)(cs:Cs):List Dt→Out Dt:=CI 1 (Ax 2 (Hq K cs))
noncomputable def I5(K:PySem.W.Frag)(cs:Cs):FD.Env→SOut:=
 (CF (t2 (eB BO (Ab (Aa 0) Ag)) (eC (.int 200)) (cI fun i j=>decide (j < i))) NT Ar)
noncomputable def DV(K:PySem.W.Frag)(cs:Cs):List Dt→Out Dt:=CI 1 (Ax 1 (I5 K cs))
noncomputable def E1(K:PySem.W.Frag)(cs:Cs):FD.Env→SOut:=
 (Am (Ir (Al (FZ K cs) (Ab (Aa 0) Ag)))
 (Am (A1 (Ai 2) (AB (Aa 0)) [0]
 (A1 (Ai 3) (AB (eL (lB BU (Ab (eL (lB BR (Ab (Aa 2) Ag))) Ag)))) [2]
 (CF (t2 (Aa 3) (Aa 1) (CT Dk)) NT Ar)))
 (Am (A8 4 (Al (JH K cs) (Ab (Aa 0) Ag)) [0])
 (Am (Ir (Al (DV K cs) (Ab (Aa 4) Ag)))
 (AA (Aa 4) [4])))))
noncomputable def Dr(K:PySem.W.Frag)(cs:Cs):List Dt→Out Dt:=CI 2 (Ax 5 (E1 K cs))
noncomputable def B9(K:PySem.W.Frag)(cs:Cs):FD.Env→SOut:=
 (Am (CF (t2 (eB G2 (Ab (Aa 1) Ag)) (eC (.int 0)) Nv) (JW cs.c_EmptyForm CV Cy Ag) Ar)
 (Am (Gp 2)
 (Am (A1 (Ai 3) (AB (eL (lB BU (Ab (eL (lB BR (Ab (Aa 1) Ag))) Ag)))) [1]
 (BK 2 (Aa 3) (Al (Dr K cs) (Ab (e2 (Aa 1) (Aa 3) AH) (Ab (Aa 1) Ag))) [1,3,1]))
 (Uy 4 (BS cs) "_forms" (Aa 0) (xP (Aa 2)) [2]))))
noncomputable def AM(K:PySem.W.Frag)(cs:Cs):List Dt→List Cell→MO:=Li 2 (runM 4 (B9 K cs))
noncomputable def IC(K:PySem.W.Frag)(cs:Cs):FD.Env→SOut:=
 (Am (Gp 1)
 (Am (A1 (Ai 2) (AB (eL (lB BU (Ab (eL (lB BR (Ab (Aa 0) Ag))) Ag)))) [0]
 (Am (Ir (Al (DV K cs) (Ab (e2 (Aa 0) (Aa 2) AH) Ag)))
 (BK 1 (Aa 2) (eL (Fi (Ai 3) [3] AK (eB Ef (Ab (Aa 3) Ag)) (AB (e2 (Aa 0) (Aa 2) AH)) [0,2])) [0,2,3,3])))
 (AA (Al (newD cs.c_Map (AM K cs)) (Ab (Aa 1) Ag)) [1])))
noncomputable def Eu(K:PySem.W.Frag)(cs:Cs):List Dt→Out Dt:=CI 1 (Ax 4 (IC K cs))
noncomputable def LL(K:PySem.W.Frag)(cs:Cs):FD.Env→SOut:=
 (AA (Al (Ij K cs) (Ab (eL (Eb (OH (Aa 0) (OH (Aa 1) Ag)))) Ag)) [0,1])
noncomputable def G8(K:PySem.W.Frag)(cs:Cs):List Dt→Out Dt:=CI 2 (Ax 2 (LL K cs))
noncomputable def MM(K:PySem.W.Frag)(cs:Cs):FD.Env→SOut:=
 (Am (Ks 2 (Ab (Aa 0) Ag))
 (Am (A1 (Fh (AO (Ai 3) (AO (Ai 4) EO))) (AB (Aa 1)) [1]
 (CF (CD (t2 (Aa 3) (Aa 2) (CT Dk)) (t2 (Aa 4) (e2 (Aa 2) (Aa 3) AH) (cI fun i j=>decide (j < i)))) (BK 2 (Aa 3) (Aa 4) [4]) Ar))
 (AA (Al (GV K cs) (Ab (Aa 2) Ag)) [2])))
noncomputable def Ke(K:PySem.W.Frag)(cs:Cs):List Dt→Out Dt:=CI 2 (Ax 5 (MM K cs))
noncomputable def Lq(K:PySem.W.Frag)(cs:Cs):FD.Env→SOut:=
 (AA (Al (Ij K cs) (Ab (eL (bz (Ai 2) [2,3] AK (AB (Aa 1)) [1] (Ai 3) [3] AK (Al (Ke K cs) (Ab (Aa 2) (Ab (Aa 3) Ag))) (AB (Aa 0)) [0])) Ag)) [0,2,3,2,3])
noncomputable def Ii(K:PySem.W.Frag)(cs:Cs):List Dt→Out Dt:=CI 2 (Ax 4 (Lq K cs))
noncomputable def KC(K:PySem.W.Frag)(cs:Cs):FD.Env→SOut:=
 (AA (eB Jx (Ab (eL (Fi (Ai 2) [2] AK (eB J0 (Ab (eL (Fi (Fh (AO (Ai 3) (AO (Ai 4) EO))) [3,4] AK (GK (Ab (Aa 3) (Ab (e2 (Aa 4) (Aa 1) AX) Ag))) (AB (Aa 2)) [2])) Ag)) (AB (Aa 0)) [0])) Ag)) [0,2,3,4,1,3,4,2])
noncomputable def GR(K:PySem.W.Frag)(cs:Cs):List Dt→Out Dt:=CI 2 (Ax 5 (KC K cs))
noncomputable def Gv(K:PySem.W.Frag)(cs:Cs):FD.Env→SOut:=
 (Am (A8 2 (GK (Ab (V8 Ag) Ag)) [])
 (Am (A1 (Fh (AO (Ai 3) (AO (Ai 4) EO))) (AB (Aa 0)) [0]
 (A8 2 (Al (Ii K cs) (Ab (Aa 2) (Ab (Al (GR K cs) (Ab (e2 (Aa 1) (Aa 3) AH) (Ab (Aa 4) Ag))) Ag))) [2,1,3,4]))
 (AA (Aa 2) [2])))
noncomputable def Ea(K:PySem.W.Frag)(cs:Cs):List Dt→Out Dt:=CI 2 (Ax 5 (Gv K cs))
noncomputable def LG(K:PySem.W.Frag)(cs:Cs):FD.Env→SOut:=
 (Am (A8 2 (GK Ag) [])
 (Am (A1 (Ai 3) (AB (Aa 0)) [0]
 (A8 2 (Al (G8 K cs) (Ab (Aa 2) (Ab (Al (Ea K cs) (Ab (Aa 3) (Ab (Aa 1) Ag))) Ag))) [2,3,1]))
 (AA (Aa 2) [2])))
noncomputable def J8(K:PySem.W.Frag)(cs:Cs):List Dt→Out Dt:=CI 2 (Ax 4 (LG K cs))
noncomputable def IH(K:PySem.W.Frag)(cs:Cs):FD.Env→SOut:=
 (Am (Gp 2)
 (Am (F7 0 (Ai 3)
 (BK 2 (Aa 3) (Al (J8 K cs) (Ab (e2 (Aa 0) (Aa 3) AH) (Ab (Aa 1) Ag))) [0,3,1]))
 (AA (Aa 2) [2])))
noncomputable def Jj(K:PySem.W.Frag)(cs:Cs):List Dt→Out Dt:=CI 2 (Ax 4 (IH K cs))
noncomputable def Ho(K:PySem.W.Frag)(cs:Cs):FD.Env→SOut:=
 (AA (eB Jx (Ab (eL (lB BR (Ab (e1 (Aa 0) (KP (BS cs) "_forms")) Ag))) Ag)) [0])
noncomputable def EK(K:PySem.W.Frag)(cs:Cs):List Dt→Out Dt:=CI 1 (Ax 1 (Ho K cs))
noncomputable abbrev CJ(K:PySem.W.Frag)(cs:Cs):Mg:=[(cs.c_Map,EK K cs)]
noncomputable def DD(K:PySem.W.Frag)(cs:Cs):FD.Env→SOut:=
 (AA (eT (t2 (Aa 1) (e1 (Aa 0) (KP (BS cs) "_forms")) Dk)) [])
noncomputable def BW(K:PySem.W.Frag)(cs:Cs):List Dt→Out Dt:=CI 2 (Ax 2 (DD K cs))
noncomputable abbrev AV(K:PySem.W.Frag)(cs:Cs):Mg:=[(cs.c_Map,BW K cs)]
noncomputable def GP(K:PySem.W.Frag)(cs:Cs):FD.Env→SOut:=
 (Am (Hz 2 (Fi (Ai 3) [3] (t1 (MD (AV K cs) true (Aa 3) (Aa 1)) A2) (Aa 3) (AB (DT (CJ K cs) "names" (Aa 0) Ag)) [0]) [0,3,3])
 (Am (A8 2 (e2 (Aa 2) (eL (Fi (Ai 3) [3] (t1 (MD (AV K cs) true (Aa 3) (Aa 0)) A2) (Aa 3) (AB (DT (CJ K cs) "names" (Aa 1) Ag)) [1])) AX) [2,1,3,3])
 (CF (t2 (eB BO (Ab (Aa 2) Ag)) (eC (.int 0)) (cI fun i j=>decide (j < i))) NT Ar)))
noncomputable def GO(K:PySem.W.Frag)(cs:Cs):List Dt→Out Dt:=CI 2 (Ax 4 (GP K cs))
noncomputable def FV(K:PySem.W.Frag)(cs:Cs):FD.Env→SOut:=
 (Am (Ir (Al (GO K cs) (Ab (Aa 0) (Ab (Aa 1) Ag))))
 (AA (Al (Eu K cs) (Ab (Al (Jj K cs) (Ab (e1 (Aa 0) (KP (BS cs) "_forms")) (Ab (e1 (Aa 1) (KP (BS cs) "_forms")) Ag))) Ag)) [0,1]))
noncomputable def Em(K:PySem.W.Frag)(cs:Cs):List Dt→Out Dt:=CI 2 (Ax 2 (FV K cs))
noncomputable abbrev AJ(K:PySem.W.Frag)(cs:Cs):Mg:=[(cs.c_Map,Em K cs)]
noncomputable def Gx(K:PySem.W.Frag)(cs:Cs):FD.Env→SOut:=
 (AA (Hi (eB (T6 cs.c_Map (VY cs)) (Ab (Aa 1) (Ab (eC (.cls cs.c_Map)) Ag))) (eT (t2 (e1 (Aa 0) (KP (BS cs) "_forms")) (e1 (Aa 1) (KP (BS cs) "_forms")) (Rr false)))) [])
noncomputable def DE(K:PySem.W.Frag)(cs:Cs):List Dt→Out Dt:=CI 2 (Ax 2 (Gx K cs))
noncomputable abbrev Wz(K:PySem.W.Frag)(cs:Cs):Mg:=[(cs.c_Map,DE K cs)]
noncomputable def Jc(K:PySem.W.Frag)(cs:Cs):FD.Env→SOut:=
 (Am (CF (t2 (Aa 1) (eB BO (Ab (Aa 0) Ag)) (cI fun i j=>decide (i < j))) (A8 2 (eB Il (Ab (e2 (Aa 0) (Aa 1) AW) Ag)) []) (A8 2 (e2 (eB Il (Ab (e2 (eB QY (Ab (Nq (Aa 0) HJ (Mn (eC (.int 63)))) Ag)) (e2 (eC (.int 48271)) (e2 (eC (.int 7)) (Aa 1) (gI Hj (· * ·))) AX) (gI Hj (· * ·))) Ag)) (eC (.int 1000003)) (gI Zb Int.fmod)) []))
 (RB (bX 3 (fG (xP (Ab (Aa 2) (Ab (Aa 1) (Ab (eT (t2 (Aa 2) (e2 (eC (.int 10)) (eC (.int 18)) (gI YY fun i j=>i ^ j.toNat)) (cI fun i j=>decide (j≤i)))) Ag))))) [2,1]) []))
noncomputable def Bz(K:PySem.W.Frag)(cs:Cs):List Dt→List Cell→MO:=Li 2 (runM 3 (Jc K cs))
noncomputable def Hv(K:PySem.W.Frag)(cs:Cs):FD.Env→SOut:=
 (Am (Ko 6 (Aa 0) (eC (.int 1)) (xP (e2 (e2 (IB 6 (Aa 0)) (eC (.int 1)) AW) (eC (.int 1)) AX)) [])
 (Am (CF (t1 (e2 (IB 6 (Aa 0)) (eC (.int 2)) AW) A2) (Am (A8 2 (e2 (eB Il (Ab (e2 (IB 6 (Aa 0)) (eC (.int 0)) AW) Ag)) (Aa 1) (gI Zb Int.fmod)) [])
 (Am (Ko 6 (Aa 0) (eC (.int 0)) (xP (e2 (eB Il (Ab (e2 (IB 6 (Aa 0)) (eC (.int 0)) AW) Ag)) (Aa 1) (gI QQ Int.fdiv))) [])
 (AA (Aa 2) [2]))) Ar)
 (Am (A8 3 (e2 (eB Il (Ab (e2 (e2 (IB 6 (Aa 0)) (eC (.int 0)) AW) (e2 (eC (.int 48271)) (e2 (eC (.int 69621)) (e2 (IB 6 (Aa 0)) (eC (.int 1)) AW) (gI Hj (· * ·))) AX) (gI Hj (· * ·))) Ag)) (eC (.int 2147483647)) (gI Zb Int.fmod)) [])
 (Am (A8 4 (e2 (eB Il (Ab (e2 (e2 (Aa 3) (Aa 3) (gI Hj (· * ·))) (e2 (Aa 3) (e2 (e2 (IB 6 (Aa 0)) (eC (.int 1)) AW) (eC (.int 1013)) AX) (gI Hj (· * ·))) AX) Ag)) (eC (.int 2147483629)) (gI Zb Int.fmod)) [])
 (Am (A8 5 (e2 (eB Il (Ab (e2 (Aa 4) (e2 (e2 (Aa 4) (eC (.int 7)) (gI QQ Int.fdiv)) (eC (.int 40692)) AX) (gI Hj (· * ·))) Ag)) (eC (.int 2147483587)) (gI Zb Int.fmod)) [])
 (AA (e2 (eB Il (Ab (e2 (e2 (e2 (Aa 5) (eC (.int 16)) (gI QQ Int.fdiv)) (e2 (eC (.int 5)) (e2 (IB 6 (Aa 0)) (eC (.int 1)) AW) (gI Hj (· * ·))) AX) (e2 (e2 (IB 6 (Aa 0)) (eC (.int 1)) AW) (eC (.int 3)) (gI QQ Int.fdiv)) AX) Ag)) (Aa 1) (gI Zb Int.fmod)) []))))))
noncomputable def Ao(K:PySem.W.Frag)(cs:Cs):List Dt→List Cell→MO:=Li 2 (runM 6 (Hv K cs))
noncomputable def GA(K:PySem.W.Frag)(cs:Cs):FD.Env→SOut:=
 (Am (A1 (Ai 1) (Cj (Ab (e2 (eB BO (Ab (Aa 0) Ag)) (eC (.int 1)) AX) Ag)) []
 (CF (t2 (e2 (eC (.str "n")) (eB KO (Ab (Aa 1) Ag)) AX) (Aa 0) (CT Le)) (AA (e2 (eC (.str "n")) (eB KO (Ab (Aa 1) Ag)) AX) []) Ar))
 (AA (eC (.str "n")) []))
noncomputable def Ec(K:PySem.W.Frag)(cs:Cs):List Dt→Out Dt:=CI 1 (Ax 2 (GA K cs))
noncomputable def Hy(K:PySem.W.Frag)(cs:Cs):FD.Env→SOut:=
 (Am (A8 1 (eC (.str "abcdefghijklmnopqrstuvwxyz")) [])
 (Am (Ll (Xw (Aw 5 (Ao K cs) (xP (Ab (Aa 0) (Ab (eC (.int 3)) Ag))) [0]) (xP (eC (.int 0))) (cI fun i j=>decide (j < i))) (RB (x2 (xP (eL (Eb (Ab (eC (.str "b")) (Ab (eC (.str "a")) (Ab (eC (.str "a.2")) (Ab (eC (.str "ab")) (Ab (eC (.str "cut")) (Ab (eC (.str "a.3")) (Ab (eC (.str "m1")) (Ab (eC (.str "z.9z")) Ag))))))))))) (Aw 5 (Ao K cs) (xP (Ab (Aa 0) (Ab (eC (.int 8)) Ag))) [0]) AW) []) Ar)
 (Am (Bi 2 (x2 (xP (Aa 1)) (Aw 5 (Ao K cs) (xP (Ab (Aa 0) (Ab (eC (.int 26)) Ag))) [0]) AW) [])
 (Am (Bi 3 (Aw 5 (Ao K cs) (xP (Ab (Aa 0) (Ab (eC (.int 4)) Ag))) [0]) [])
 (Am (Ll (Xw (Aw 5 (Ao K cs) (xP (Ab (Aa 0) (Ab (eC (.int 8)) Ag))) [0]) (xP (eC (.int 5))) Nv) (A8 3 (eC (.int 13)) []) Ar)
 (Am (A1 (Ai 4) (Cj (Ab (Aa 3) Ag)) []
 (Bi 2 (x2 (xP (Aa 2)) (x2 (xP (e2 (Aa 1) (eC (.str "0123456789.")) AX)) (Aw 5 (Ao K cs) (xP (Ab (Aa 0) (Ab (eC (.int 37)) Ag))) [0]) AW) AX) [2,1]))
 (AA (Aa 2) [2])))))))
noncomputable def EJ(K:PySem.W.Frag)(cs:Cs):List Dt→List Cell→MO:=Li 1 (runM 5 (Hy K cs))
noncomputable def GC(K:PySem.W.Frag)(cs:Cs):FD.Env→SOut:=
 (Am (Hz 2 (Eb Ag) [])
 (Am (A1 (Ai 3) (Cj (Ab (Aa 1) Ag)) []
 (Am (Bi 4 (Aw 5 (EJ K cs) (xP (Ab (Aa 0) Ag)) [0]) [])
 (Am (CF (t2 (Aa 4) (Aa 2) Le) (A8 4 (Al (Ec K cs) (Ab (Aa 2) Ag)) [2]) Ar)
 (D6 2 (Aa 4) [4]))))
 (AA (Aa 2) [2])))
noncomputable def EZ(K:PySem.W.Frag)(cs:Cs):List Dt→List Cell→MO:=Li 2 (runM 5 (GC K cs))
noncomputable def FT(K:PySem.W.Frag)(cs:Cs):FD.Env→SOut:=
 (Am (A8 1 (eL (Eb (Ab (GK (Ab (eC (.int 3)) (Ab (eC (.int 0)) Ag))) (Ab (GK (Ab (eC (.int 2)) (Ab (eC (.int 0)) Ag))) (Ab (GK (Ab (eC (.int 7)) (Ab (e2 (eC (.int 0)) (eC (.int 3)) (QX (· - ·))) Ag))) (Ab (GK (Ab (eC (.int 7)) (Ab (e2 (eC (.int 0)) (eC (.int 3)) (QX (· - ·))) Ag))) (Ab (GK (Ab (eC (.int 20)) (Ab (e2 (eC (.int 0)) (eC (.int 10)) (QX (· - ·))) Ag))) (Ab (GK (Ab (eC (.int 2000001)) (Ab (e2 (eC (.int 0)) (eC (.int 1000000)) (QX (· - ·))) Ag))) (Ab (GK (Ab (eC (.int 4)) (Ab (e2 (eC (.int 10)) (eC (.int 20)) (gI YY fun i j=>i ^ j.toNat)) Ag))) Ag))))))))) [])
 (RB (x2 (xP (e2 (Aa 1) (eL (Eb (Ab (GK (Ab (eC (.int 4)) (Ab (e2 (eC (.int 0)) (e2 (eC (.int 10)) (eC (.int 20)) (gI YY fun i j=>i ^ j.toNat)) (QX (· - ·))) Ag))) Ag))) AX)) (Aw 2 (Ao K cs) (xP (Ab (Aa 0) (Ab (eC (.int 8)) Ag))) [0]) AW) [1]))
noncomputable def Eo(K:PySem.W.Frag)(cs:Cs):List Dt→List Cell→MO:=Li 1 (runM 2 (FT K cs))
noncomputable def Jg(K:PySem.W.Frag)(cs:Cs):FD.Env→SOut:=
 (Am (Bi 3 (Aw 6 (Ao K cs) (xP (Ab (Aa 0) (Ab (eB BO (Ab (Aa 1) Ag)) Ag))) [0]) [])
 (Am (Bi 4 (Jy 6) [])
 (Am (A1 (Ai 5) (AB (e2 (Nq (Aa 1) (Mn (Aa 3)) HJ) (Nq (Aa 1) HJ (Mn (Aa 3))) AX)) [1,1]
 (Ll (Xw (Aw 6 (Ao K cs) (xP (Ab (Aa 0) (Ab (eC (.int 2)) Ag))) [0]) (xP (eC (.int 0))) Nv) (G4 6 (Aa 4) (Aa 5) (x2 (Aw 6 (Ao K cs) (xP (Ab (Aa 0) (Ab (e2 (Aa 2) (eC (.int 0)) AW) Ag))) [0]) (xP (e2 (Aa 2) (eC (.int 1)) AW)) AX) []) Ar))
 (Am (CF (t2 (P1 6 4) (eC (.int 0)) Nv) (G4 6 (Aa 4) (e2 (Aa 1) (Aa 3) AW) (x2 (Aw 6 (Ao K cs) (xP (Ab (Aa 0) (Ab (e2 (Aa 2) (eC (.int 0)) AW) Ag))) [0]) (xP (e2 (Aa 2) (eC (.int 1)) AW)) AX) []) Ar)
 (AA (Aa 4) [4])))))
noncomputable def DX(K:PySem.W.Frag)(cs:Cs):List Dt→List Cell→MO:=Li 3 (runM 6 (Jg K cs))
noncomputable def GF(K:PySem.W.Frag)(cs:Cs):FD.Env→SOut:=
 (Am (Gp 5)
 (Am (A1 (Ai 6) (Cj (Ab (eB BO (Ab (Aa 2) Ag)) Ag)) []
 (Am (Bi 7 (Aw 12 (Bz K cs) (xP (Ab (Aa 0) (Ab (e2 (Aa 1) (Aa 6) AX) Ag))) [0,1,6]) [])
 (Am (Hz 8 (Eb Ag) [])
 (Am (RC (Ai 9) (Ji (Mf (x2 (xP (eC (.int 1))) (Aw 12 (Ao K cs) (xP (Ab (Aa 7) (Ab (e2 (eL (Eb (Ab (eC (.int 2)) (Ab (eC (.int 1)) (Ab (eC (.int 3)) Ag))))) (Aa 4) AW) Ag))) [7,4]) AX) (xP Ag))) []
 (Am (Bi 10 (Aw 12 (DX K cs) (xP (Ab (Aa 7) (Ab (Aa 2) (Ab (Aa 3) Ag)))) [7,2,3]) [])
 (Am (A1 (Ai 11) (AB (Nq (eL (HW 12 10)) (Mn (e2 (eL (Eb (Ab (eC (.int 2)) (Ab (eC (.int 3)) (Ab (eC (.int 1)) Ag))))) (Aa 4) AW)) HJ)) []
 (Ga 12 10 (Aa 11)))
 (EW 8 (K2 12 (Aa 10)) []))))
 (BK 5 (e2 (Aa 2) (Aa 6) AW) (Aa 8) [8])))))
 (AA (Aa 5) [5])))
noncomputable def CY(K:PySem.W.Frag)(cs:Cs):List Dt→Out Dt:=CI 5 (Pu 12 (GF K cs))
noncomputable def HB(K:PySem.W.Frag)(cs:Cs):FD.Env→SOut:=
 (Am (Gp 1)
 (Am (F7 0 (Ai 2)
 (BK 1 (Aa 2) (eL (Fi (Ai 3) [3] AK (eB I9 (Ab (Aa 3) Ag)) (AB (e2 (Aa 0) (Aa 2) AH)) [0,2])) [0,2,3,3]))
 (AA (Aa 1) [1])))
noncomputable def Ct(K:PySem.W.Frag)(cs:Cs):List Dt→Out Dt:=CI 1 (Ax 4 (HB K cs))
noncomputable def GD(K:PySem.W.Frag)(cs:Cs):FD.Env→SOut:=
 (Am (Gp 2)
 (Am (F7 0 (Ai 3)
 (BK 2 (Aa 3) (eB K5 (Ab (eL (Fi (Ai 4) [4] AK (eB Jo (Ab (eL (P0 4 (Ai 5) [5] AK (e2 (e2 (Aa 1) (Aa 5) AH) (e2 (Aa 4) (Aa 5) AH) AX))) Ag)) (AB (e2 (Aa 0) (Aa 3) AH)) [0,3])) Ag)) []))
 (AA (Aa 2) [2])))
noncomputable def AG(K:PySem.W.Frag)(cs:Cs):List Dt→Out Dt:=CI 2 (Ax 6 (GD K cs))
noncomputable def IS(K:PySem.W.Frag)(cs:Cs):FD.Env→SOut:=
 (AA (eB K5 (Ab (eL (Fi (Ai 2) [2] AK (eB Jo (Ab (eL (Fi (Fh (AO (Ai 3) (AO (Ai 4) EO))) [3,4] AK (e2 (e2 (Aa 1) (Aa 3) AH) (Aa 4) AX) (AB (Aa 2)) [2])) Ag)) (AB (Aa 0)) [0])) Ag)) [])
noncomputable def Fx(K:PySem.W.Frag)(cs:Cs):List Dt→Out Dt:=CI 2 (Ax 5 (IS K cs))
noncomputable def EX(K:PySem.W.Frag)(cs:Cs):FD.Env→SOut:=
 (Am (A1 (Ai 2) (AB (DT (CJ K cs) "names" (Aa 0) Ag)) [0]
 (CF (t2 (Aa 2) (Aa 1) (CT Dk)) NT Ar))
 (AA (jK (Ai 2) [2] AK (Aa 2) (Al (Fx K cs) (Ab (e2 (e1 (Aa 0) (KP (BS cs) "_forms")) (Aa 2) AH) (Ab (Aa 1) Ag))) (AB (DT (CJ K cs) "names" (Aa 0) Ag)) [0]) [0,0,2,1,2]))
noncomputable def CG(K:PySem.W.Frag)(cs:Cs):List Dt→Out Dt:=CI 2 (Ax 3 (EX K cs))
noncomputable abbrev EM(K:PySem.W.Frag)(cs:Cs):Mg:=[(cs.c_Map,CG K cs)]
noncomputable def E8(K:PySem.W.Frag)(cs:Cs):FD.Env→SOut:=
 (AA (Hi (eB EG (Ab (Aa 0) (Ab (eC (.ty "int")) Ag))) (SI (eB EG (Ab (Aa 0) (Ab (eC (.ty "bool")) Ag))))) [])
noncomputable def Bp(K:PySem.W.Frag)(cs:Cs):List Dt→Out Dt:=CI 1 (Ax 1 (E8 K cs))
noncomputable def GG(K:PySem.W.Frag)(cs:Cs):FD.Env→SOut:=
 (Am (A8 3 (eL (J9 (Aa 1))) [1])
 (Am (A8 4 (Yo (EM K cs) (Aa 0) (Ab (Aa 1) Ag)) [0,1])
 (Am (CF (CD (A6 (t1 (eB EG (Ab (Aa 4) (Ab (eC (.ty "dict")) Ag))) A2)) (CD (t2 (eL (lB BR (Ab (Aa 4) Ag))) (eL (lB BU (Ab (eL (lB BR (Ab (Aa 2) Ag))) Ag))) QA) (t2 (eL (J9 (Aa 1))) (Aa 3) QA))) (AA (eC (.bl false)) []) Ar)
 (AA (eB UW (Ab (eL (P0 2 (Ai 5) [5] AK (Hi (Al (Bp K cs) (Ab (e2 (Aa 4) (Aa 5) AH) Ag)) (eT (t2 (e2 (Aa 4) (Aa 5) AH) (e2 (Aa 2) (Aa 5) AH) Nv))))) Ag)) []))))
noncomputable def BN(K:PySem.W.Frag)(cs:Cs):List Dt→Out Dt:=CI 3 (Ax 6 (GG K cs))
noncomputable def DI(K:PySem.W.Frag)(cs:Cs):FD.Env→SOut:=
 (Am (Gp 2)
 (Am (A1 (Ai 3) (AB (eL (fJ (Aa 1)))) [1]
 (IL 2 (Aa 3) (x2 (Aw 4 (Ao K cs) (xP (Ab (Aa 0) (Ab (eC (.int 61)) Ag))) [0]) (xP (eC (.int 30))) (QX (· - ·))) []))
 (AA (Aa 2) [2])))
noncomputable def A5(K:PySem.W.Frag)(cs:Cs):List Dt→List Cell→MO:=Li 2 (runM 4 (DI K cs))
noncomputable def Jf(K:PySem.W.Frag)(cs:Cs):FD.Env→SOut:=
 (Am (CF (t2 (Aa 1) (e1 (Aa 0) (KP (BS cs) "_forms")) (CT Dk)) NT Ar)
 (AA (e2 (e1 (Aa 0) (KP (BS cs) "_forms")) (Aa 1) AH) [0,1]))
noncomputable def Fv(K:PySem.W.Frag)(cs:Cs):List Dt→Out Dt:=CI 2 (Ax 2 (Jf K cs))
noncomputable abbrev Lw(K:PySem.W.Frag)(cs:Cs):Mg:=[(cs.c_Map,Fv K cs)]
noncomputable def FR(K:PySem.W.Frag)(cs:Cs):FD.Env→SOut:=
 (AA (eB G2 (Ab (e1 (Aa 0) (KP (BS cs) "_forms")) Ag)) [])
noncomputable def DQ(K:PySem.W.Frag)(cs:Cs):List Dt→Out Dt:=CI 1 (Ax 1 (FR K cs))
noncomputable abbrev Fq(K:PySem.W.Frag)(cs:Cs):Mg:=[(cs.c_Map,DQ K cs)]
noncomputable def GH(K:PySem.W.Frag)(cs:Cs):FD.Env→SOut:=
 (Am (F7 0 (Ai 2)
 (CF (CD (t2 (Aa 2) (Aa 1) (CT Dk)) (t2 (e2 (Aa 0) (Aa 2) AH) (e2 (Aa 1) (Aa 2) AH) (cI fun i j=>decide (j < i)))) (AA (eC (.bl false)) []) Ar))
 (AA (eC (.bl true)) []))
noncomputable def Bh(K:PySem.W.Frag)(cs:Cs):List Dt→Out Dt:=CI 2 (Ax 3 (GH K cs))
noncomputable def HA(K:PySem.W.Frag)(cs:Cs):FD.Env→SOut:=
 (AA (eB J0 (Ab (eL (lB BU (Ab (eL (J9 (Aa 0))) Ag))) Ag)) [0])
noncomputable def F6(K:PySem.W.Frag)(cs:Cs):List Dt→Out Dt:=CI 1 (Ax 1 (HA K cs))
noncomputable def HC(K:PySem.W.Frag)(cs:Cs):FD.Env→SOut:=
 (Am (CF (CD (A6 (t1 (eB EG (Ab (Aa 0) (Ab (eC (.ty "tuple")) Ag))) A2)) (t2 (eB BO (Ab (Aa 0) Ag)) (eC (.int 0)) Nv)) (AA (eC .non) []) Ar)
 (Am (Hz 1 (Eb Ag) [])
 (Am (A1 (Ai 2) (AB (Aa 0)) [0]
 (Am (CF (CD (A6 (t1 (eB EG (Ab (Aa 2) (Ab (eC (.ty "tuple")) Ag))) A2)) (t2 (eB BO (Ab (Aa 2) Ag)) (eC (.int 0)) Nv)) (AA (eC .non) []) Ar)
 (Am (Gp 3)
 (Am (A8 4 (eC (.str "")) [])
 (Am (A1 (Ai 5) (AB (Aa 2)) [2]
 (Am (CF (CD (A6 (t1 (eB EG (Ab (Aa 5) (Ab (eC (.ty "tuple")) Ag))) A2)) (t2 (eB BO (Ab (Aa 5) Ag)) (eC (.int 2)) QA)) (AA (eC .non) []) Ar)
 (Am (CF (CD (A6 (t1 (eB EG (Ab (e2 (Aa 5) (eC (.int 0)) AW) (Ab (eC (.ty "str")) Ag))) A2)) (CD (A6 (t1 (Al (Bp K cs) (Ab (e2 (Aa 5) (eC (.int 1)) AW) Ag)) A2)) (t2 (e2 (Aa 5) (eC (.int 0)) AW) (Aa 4) (KW .LtE)))) (AA (eC .non) []) Ar)
 (Am (A8 4 (e2 (Aa 5) (eC (.int 0)) AW) [])
 (BK 3 (Aa 4) (e2 (Aa 5) (eC (.int 1)) AW) [])))))
 (D6 1 (Aa 3) [3]))))))
 (AA (Aa 1) [1]))))
noncomputable def HK(K:PySem.W.Frag)(cs:Cs):List Dt→Out Dt:=CI 1 (Ax 6 (HC K cs))
noncomputable def FW(K:PySem.W.Frag)(cs:Cs):FD.Env→SOut:=
 (Am (A8 2 (Al (HK K cs) (Ab (Aa 0) Ag)) [0])
 (Am (CF (t2 (Aa 2) (eC .non) isN) (AA (eC (.bl false)) []) Ar)
 (Am (Hz 3 (Fi (Ai 4) [4] AK (Al (F6 K cs) (Ab (Aa 4) Ag)) (AB (Aa 1)) [1]) [1,4,4])
 (Am (A1 (Ai 5) (Cj (Ab (eB BO (Ab (Aa 0) Ag)) Ag)) []
 (Am (CF (CD (t2 (e2 (Aa 0) (Aa 5) AW) (Aa 3) (CT QZ)) (Im (t2 (Aa 5) (eC (.int 0)) (cI fun i j=>decide (j < i))) (A6 (t2 (e2 (Aa 0) (e2 (Aa 5) (eC (.int 1)) (QX (· - ·))) AW) (e2 (Aa 0) (Aa 5) AW) (KW .Lt))))) (AA (eC (.bl false)) []) Ar)
 (A1 (Ai 6) (Cj (Ab (eB BO (Ab (Aa 2) Ag)) Ag)) []
 (CF (Im (t2 (Aa 6) (Aa 5) QA) (t1 (Al (Bh K cs) (Ab (e2 (Aa 2) (Aa 6) AW) (Ab (e2 (Aa 2) (Aa 5) AW) Ag))) A2)) (AA (eC (.bl false)) []) Ar))))
 (Am (A1 (Ai 4) (AB (Aa 1)) [1]
 (CF (A6 (t1 (eB Q6 (Ab (eL (Fi (Ai 7) [7] AK (Al (Bh K cs) (Ab (Aa 7) (Ab (Aa 4) Ag))) (AB (Aa 2)) [2])) Ag)) A2)) (AA (eC (.bl false)) []) Ar))
 (AA (eC (.bl true)) []))))))
noncomputable def Dd(K:PySem.W.Frag)(cs:Cs):List Dt→Out Dt:=CI 2 (Ax 8 (FW K cs))
noncomputable def Gy(K:PySem.W.Frag)(cs:Cs):FD.Env→SOut:=
 (Am (A8 2 (eB Jx (Ab (eL (lB BU (Ab (eL (lB BR (Ab (Aa 1) Ag))) Ag))) Ag)) [1])
 (Am (A8 3 (DT (CJ K cs) "names" (Aa 0) Ag) [0])
 (Am (CF (CD (A6 (t1 (eB EG (Ab (Aa 3) (Ab (eC (.ty "tuple")) Ag))) A2)) (CD (t2 (Aa 3) (Aa 2) QA) (t2 (RI (Fq K cs) (Ab (Aa 0) Ag)) (eB BO (Ab (Aa 2) Ag)) QA))) (AA (eC (.bl false)) []) Ar)
 (Am (A1 (Ai 4) (AB (Aa 2)) [2]
 (CF (CD (t1 (MD (AV K cs) true (Aa 4) (Aa 0)) A2) (A6 (t1 (Al (Dd K cs) (Ab (DT (Lw K cs) "form" (Aa 0) (Ab (Aa 4) Ag)) (Ab (e2 (Aa 1) (Aa 4) AH) Ag))) A2))) (AA (eC (.bl false)) []) Ar))
 (AA (eC (.bl true)) [])))))
noncomputable def A4(K:PySem.W.Frag)(cs:Cs):List Dt→Out Dt:=CI 2 (Ax 5 (Gy K cs))
noncomputable def Gu(K:PySem.W.Frag)(cs:Cs):FD.Env→SOut:=
 (Am (Gp 1)
 (Am (A1 (Ai 2) (AB (Aa 0)) [0]
 (BK 1 (Aa 2) (GK (Ab (V8 (Ab (GK (Ab (Aa 2) (Ab (eC (.int 0)) Ag))) Ag)) Ag)) [2]))
 (AA (Aa 1) [1])))
noncomputable def Fg(K:PySem.W.Frag)(cs:Cs):List Dt→Out Dt:=CI 1 (Ax 3 (Gu K cs))
noncomputable def Hc(K:PySem.W.Frag)(cs:Cs):FD.Env→SOut:=
 (AA (Al (Eu K cs) (Ab (Al (Fg K cs) (Ab (Aa 0) Ag)) Ag)) [0])
noncomputable def A9(K:PySem.W.Frag)(cs:Cs):List Dt→Out Dt:=X3 0 (Ax 1 (Hc K cs))
noncomputable def EY(K:PySem.W.Frag)(cs:Cs):FD.Env→SOut:=
 (Am (IW K cs.all (.ref cs.c_EmptyForm) 0 (Ir (Ge cs.c_Map (A9 K cs) (eC (.cls cs.c_Map)) Ag))
 (fun a d C=>(Am (A8 1 (Hi (eB (Fm K C a d) (Ab (Aa 0) (Ab (eC (.cls cs.c_Refused)) Ag))) (Hi (eB (Fm K C a d) (Ab (Aa 0) (Ab (eC (.cls cs.c_HouseError)) Ag))) (eB (Fm K C a d) (Ab (Aa 0) (Ab (eC (.ty "ValueError")) Ag))))) [])
 (AA (Hi (Aa 1) (Hi (SI (eB (Fm K C a d) (Ab (Aa 0) (Ab (eC (.cls cs.c_Unfit)) Ag)))) (Hi (SI (eB (Fm K C a d) (Ab (Aa 0) (Ab (eC (.cls cs.c_NoAnswer)) Ag)))) (SI (eB (Fm K C a d) (Ab (Aa 0) (Ab (eC (.cls cs.c_NoName)) Ag))))))) []))))
 (AA (eC (.bl false)) []))
noncomputable def D1(K:PySem.W.Frag)(cs:Cs):List Dt→Out Dt:=CI 0 (Ax 2 (EY K cs))
noncomputable def HH(K:PySem.W.Frag)(cs:Cs):FD.Env→SOut:=
 (Am (CF (t2 (eB BO (Ab (Aa 0) Ag)) (eC (.int 2)) Nv) (AA (Ge cs.c_Map (A9 K cs) (eC (.cls cs.c_Map)) (Ab (e2 (Aa 0) (eC (.int 1)) AW) (Ab (e2 (Aa 0) (eC (.int 0)) AW) (Ab (e2 (Aa 0) (eC (.int 1)) AW) Ag)))) []) Ar)
 (Am (CF (t2 (eB BO (Ab (Aa 0) Ag)) (eC (.int 3)) Nv) (AA (Ge cs.c_Map (A9 K cs) (eC (.cls cs.c_Map)) (Ab (e2 (Aa 0) (eC (.int 2)) AW) (Ab (e2 (Aa 0) (eC (.int 0)) AW) (Ab (e2 (Aa 0) (eC (.int 2)) AW) (Ab (e2 (Aa 0) (eC (.int 1)) AW) Ag))))) []) Ar)
 (AA (Ge cs.c_Map (A9 K cs) (eC (.cls cs.c_Map)) (Ab (e2 (Aa 0) (eC (.int 1)) AW) (Ab (e2 (Aa 0) (eC (.int 3)) AW) (Ab (e2 (Aa 0) (eC (.int 0)) AW) (Ab (e2 (Aa 0) (eC (.int 2)) AW) Ag))))) [])))
noncomputable def HI(K:PySem.W.Frag)(cs:Cs):List Dt→Out Dt:=CI 1 (Ax 1 (HH K cs))
noncomputable def E6(K:PySem.W.Frag)(cs:Cs):FD.Env→SOut:=
 (Am (CF (t2 (eB BO (Ab (Aa 1) Ag)) (eC (.int 4)) (cI fun i j=>decide (j < i))) (AA (eC (.bl true)) []) Ar)
 (Am (A8 4 (Al (HI K cs) (Ab (Aa 1) Ag)) [1])
 (Am (Gp 5)
 (Am (A1 (Ai 6) (AB (Aa 1)) [1]
 (BK 5 (Aa 6) (eL (Eb (Ab (Lg (Aa 6) (eC (.int 0))) Ag))) []))
 (Am (CF (A6 (t1 (Al (A4 K cs) (Ab (Aa 4) (Ab (Aa 5) Ag))) A2)) (AA (eC (.bl false)) []) Ar)
 (Am (Bi 7 (Aw 8 (A5 K cs) (xP (Ab (Aa 3) (Ab (Aa 1) Ag))) [3,1]) [])
 (Am (CF (A6 (t1 (Al (BN K cs) (Ab (Aa 4) (Ab (Aa 7) (Ab (Aa 7) Ag)))) A2)) (AA (eC (.bl false)) []) Ar)
 (AA (Hi (Al (A4 K cs) (Ab (F8 (AJ K cs) (Aa 4) (Aa 0)) (Ab (Aa 2) Ag))) (Hi (Al (A4 K cs) (Ab (F8 (AJ K cs) (Aa 0) (Aa 4)) (Ab (Aa 2) Ag))) (PN (Wz K cs) (F8 (AJ K cs) (Aa 4) (Aa 0)) (Aa 0)))) []))))))))
noncomputable def DY(K:PySem.W.Frag)(cs:Cs):List Dt→List Cell→MO:=Li 4 (runM 8 (E6 K cs))
noncomputable def FJ(K:PySem.W.Frag)(cs:Cs):FD.Env→SOut:=
 (Am (Lm 3 (Ab (Aa 0) Ag) [0])
 (Am (F7 1 (Ai 4)
 (Am (A8 5 (e2 (e2 (Aa 1) (Aa 4) AH) (Aa 2) AX) [1,4,2])
 (CF (CD (t2 (Aa 4) (Aa 3) (CT Dk)) (t2 (e2 (Aa 3) (Aa 4) AH) (Aa 5) (cI fun i j=>decide (i < j)))) (BK 3 (Aa 4) (Aa 5) [5]) Ar)))
 (AA (Aa 3) [3])))
noncomputable def Cr(K:PySem.W.Frag)(cs:Cs):List Dt→Out Dt:=CI 3 (Ax 6 (FJ K cs))
noncomputable def FL(K:PySem.W.Frag)(cs:Cs):FD.Env→SOut:=
 (Am (A8 2 (eL (Eb (Ab (eC (.dic [] [])) Ag))) [])
 (Am (F7 0 (Ai 3)
 (Am (A8 4 (eL (Eb Ag)) [])
 (Am (A1 (Ai 5) (AB (Aa 2)) [2]
 (A8 4 (e2 (Aa 4) (eL (Fi (Ai 6) [6] AK (Al (Cr K cs) (Ab (Aa 5) (Ab (Aa 6) (Ab (e2 (Aa 0) (Aa 3) AH) Ag)))) (AB (e2 (Aa 1) (Aa 3) AH)) [1,3])) AX) [4,1,3,5,6,0,3,6]))
 (A8 2 (Aa 4) [4]))))
 (AA (Aa 2) [2])))
noncomputable def Df(K:PySem.W.Frag)(cs:Cs):List Dt→Out Dt:=CI 2 (Ax 7 (FL K cs))
noncomputable def Gz(K:PySem.W.Frag)(cs:Cs):FD.Env→SOut:=
 (Am (Gp 2)
 (Am (F7 0 (Ai 3)
 (Am (A8 4 (eL (Eb Ag)) [])
 (Am (A1 (Ai 5) (AB (e2 (Aa 0) (Aa 3) AH)) [0,3]
 (A8 4 (e2 (Aa 4) (Al (Df K cs) (Ab (Aa 5) (Ab (Aa 1) Ag))) AX) [4,5,1]))
 (BK 2 (Aa 3) (Aa 4) [4]))))
 (AA (Aa 2) [2])))
noncomputable def GN(K:PySem.W.Frag)(cs:Cs):List Dt→Out Dt:=CI 2 (Ax 6 (Gz K cs))
noncomputable def IX(K:PySem.W.Frag)(cs:Cs):FD.Env→SOut:=
 (Am (A8 6 (F8 (AJ K cs) (Aa 0) (Aa 1)) [0,1])
 (Am (CF (A6 (t1 (Al (A4 K cs) (Ab (Aa 6) (Ab (Al (GN K cs) (Ab (Aa 2) (Ab (Aa 3) Ag))) Ag))) A2)) (AA (eC (.bl false)) []) Ar)
 (Am (A1 (Ai 7) (Cj (Ab (eC (.int 2)) Ag)) []
 (Am (Bi 8 (Aw 9 (A5 K cs) (xP (Ab (Aa 5) (Ab (Aa 4) Ag))) [5,4]) [])
 (CF (A6 (t1 (Al (BN K cs) (Ab (Aa 6) (Ab (Aa 8) (Ab (Al (AG K cs) (Ab (Aa 2) (Ab (Al (AG K cs) (Ab (Aa 3) (Ab (Aa 8) Ag))) Ag))) Ag)))) A2)) (AA (eC (.bl false)) []) Ar)))
 (AA (PN (Wz K cs) (F8 (AJ K cs) (Aa 0) (Aa 1)) (Aa 6)) []))))
noncomputable def EE(K:PySem.W.Frag)(cs:Cs):List Dt→List Cell→MO:=Li 6 (runM 9 (IX K cs))
noncomputable def Xi(K:PySem.W.Frag)(cs:Cs):FD.Env→SOut:=
 (Am (Bi 1 (Aw 18 (Bz K cs) (xP (Ab (Aa 0) (Ab (eC (.int 0)) Ag))) [0]) [])
 (Am (Bi 2 (xT (Xw (Aw 18 (Ao K cs) (xP (Ab (Aa 1) (Ab (eC (.int 8)) Ag))) [1]) (xP (eC (.int 7))) Nv)) [])
 (Am (Bi 3 (x2 (xP (eL (Eb (Ab (eC (.int 3)) (Ab (eC (.int 2)) (Ab (eC (.int 4)) Ag)))))) (Aw 18 (Ao K cs) (xP (Ab (Aa 1) (Ab (eC (.int 3)) Ag))) [1]) AW) [])
 (Am (CF (t1 (Aa 2) A2) (Bi 3 (x2 (xP (eC (.int 9))) (Aw 18 (Ao K cs) (xP (Ab (Aa 1) (Ab (eC (.int 12)) Ag))) [1]) AX) []) Ar)
 (Am (Bi 4 (Aw 18 (EZ K cs) (xP (Ab (Aa 1) (Ab (Aa 3) Ag))) [1,3]) [])
 (Am (Bi 5 (Aw 18 (Bz K cs) (xP (Ab (Aa 0) (Ab (eC (.int 1)) Ag))) [0]) [])
 (Am (Bi 6 (Aw 18 (Eo K cs) (xP (Ab (Aa 5) Ag)) [5]) [])
 (Am (Bi 7 (x2 (xP (eL (Eb (Ab (eC (.int 0)) (Ab (eC (.int 0)) (Ab (eC (.int 1)) (Ab (eC (.int 2)) Ag))))))) (Aw 18 (Ao K cs) (xP (Ab (Aa 5) (Ab (eC (.int 4)) Ag))) [5]) AW) [])
 (Am (CF (t1 (Aa 2) A2) (A8 7 (eC (.int 1)) []) Ar)
 (Am (Hz 8 (Fi (Ai 9) [9] AK (Al (CY K cs) (Ab (Aa 0) (Ab (e2 (eC (.int 2)) (e2 (Aa 9) (Aa 3) (gI Wb (· * ·))) AX) (Ab (Aa 4) (Ab (Aa 6) (Ab (Aa 7) Ag)))))) (Cj (Ab (eC (.int 3)) Ag)) []) [0,4,6,7,9])
 (Am (A8 10 (Al (newD cs.c_Map (AM K cs)) (Ab (Al (Ct K cs) (Ab (e2 (Aa 8) (eC (.int 0)) AW) Ag)) Ag)) [])
 (Am (A8 11 (Al (newD cs.c_Map (AM K cs)) (Ab (Al (Ct K cs) (Ab (e2 (Aa 8) (eC (.int 1)) AW) Ag)) Ag)) [])
 (Am (A8 12 (Al (newD cs.c_Map (AM K cs)) (Ab (Al (Ct K cs) (Ab (e2 (Aa 8) (eC (.int 2)) AW) Ag)) Ag)) [])
 (Am (Bi 13 (Aw 18 (Bz K cs) (xP (Ab (Aa 0) (Ab (eC (.int 62)) Ag))) [0]) [])
 (Am (Ll (L8 (cZ (Aw 18 (EE K cs) (xP (Ab (Aa 10) (Ab (Aa 11) (Ab (e2 (Aa 8) (eC (.int 0)) AW) (Ab (e2 (Aa 8) (eC (.int 1)) AW) (Ab (Aa 4) (Ab (Aa 13) Ag))))))) [10,11,4,13]) A2)) (AA (eC (.bl false)) []) Ar)
 (Am (Ll (L8 (cZ (Aw 18 (EE K cs) (xP (Ab (Aa 11) (Ab (Aa 12) (Ab (e2 (Aa 8) (eC (.int 1)) AW) (Ab (e2 (Aa 8) (eC (.int 2)) AW) (Ab (Aa 4) (Ab (Aa 13) Ag))))))) [11,12,4,13]) A2)) (AA (eC (.bl false)) []) Ar)
 (Am (A8 14 (F8 (AJ K cs) (F8 (AJ K cs) (Aa 10) (Aa 11)) (Aa 12)) [10,11,12])
 (Am (A8 15 (F8 (AJ K cs) (Aa 10) (F8 (AJ K cs) (Aa 11) (Aa 12))) [10,11,12])
 (Am (Bi 16 (Aw 18 (A5 K cs) (xP (Ab (Aa 13) (Ab (Aa 4) Ag))) [13,4]) [])
 (Am (A8 17 (Al (AG K cs) (Ab (e2 (Aa 8) (eC (.int 0)) AW) (Ab (Al (AG K cs) (Ab (e2 (Aa 8) (eC (.int 1)) AW) (Ab (Al (AG K cs) (Ab (e2 (Aa 8) (eC (.int 2)) AW) (Ab (Aa 16) Ag))) Ag))) Ag))) [16])
 (Am (CF (CD (A6 (t1 (PN (Wz K cs) (Aa 14) (Aa 15)) A2)) (CD (A6 (t1 (Al (BN K cs) (Ab (Aa 14) (Ab (Aa 16) (Ab (Aa 17) Ag)))) A2)) (A6 (t1 (Al (BN K cs) (Ab (Aa 15) (Ab (Aa 16) (Ab (Aa 17) Ag)))) A2)))) (AA (eC (.bl false)) []) Ar)
 (Am (Ll (Z8 (L8 (cZ (Aw 18 (DY K cs) (xP (Ab (Aa 10) (Ab (Aa 4) (Ab (e2 (Aa 8) (eC (.int 0)) AW) (Ab (Aa 13) Ag))))) [10,4,13]) A2)) (xP (A6 (t1 (Al (D1 K cs) Ag) A2)))) (AA (eC (.bl false)) []) Ar)
 (AA (Hi (Al (A4 K cs) (Ab (Aa 10) (Ab (e2 (Aa 8) (eC (.int 0)) AW) Ag))) (Hi (Al (A4 K cs) (Ab (Aa 11) (Ab (e2 (Aa 8) (eC (.int 1)) AW) Ag))) (Al (A4 K cs) (Ab (Aa 12) (Ab (e2 (Aa 8) (eC (.int 2)) AW) Ag))))) [12])))))))))))))))))))))))
section
variable {P:Program} {w:World} {K:PySem.W.Frag} {mg:Str→Option Value} {base:Heap} {cs:Cs}
theorem Ia{X:Cx}(T:Tx X.prog X.w X.K X.mg X.base cs):MkC X "EmptyForm" cs.c_EmptyForm CV GJ:=⟨T.m_EmptyForm,T.Cy,T.k_EmptyForm,T.e_EmptyForm,T.t_EmptyForm⟩
theorem Q9{X:Cx}(T:Tx X.prog X.w X.K X.mg X.base cs):∃ u,X.mg "MOST_ROWS" = some u∧RelV (.int 200) u:=T.v_MOST_ROWS
theorem CH{X:Cx}(T:Tx X.prog X.w X.K X.mg X.base cs):∀ q∈BS cs,FldC X.K q "_forms":=fun q hq=>by
 obtain rfl:=List.mem_singleton.mp hq
 exact ⟨T.cl_Map,T.no_Map__forms⟩
theorem bZ{X:Cx}(T:Tx X.prog X.w X.K X.mg X.base cs):IsoC X.K cs.c_Map (VY cs):=⟨fun q hq=>by
 obtain rfl:=List.mem_singleton.mp hq
 exact ⟨T.in_Map,T.ki_Map_Map⟩,T.oi_Map⟩
end
section
variable {P:Program} {w:World} {K:PySem.W.Frag} {mg:Str→Option Value} {base:Heap} {cs:Cs}
theorem YN:FnScope ["entries"] ["entries"] (defScope Et):=⟨rfl,rfl,rfl,by decide +kernel,rfl,by decide +kernel,by decide +kernel⟩
theorem Yk(T:Tx P w K mg base cs){a:Addr}{fd:FuncData}(F:FunD K "row_of" "row_of" (defArgs Et) (defBody Et) (defScope Et) [] [] a fd):FnOk P w K mg base (L2N.CX P w) 1 a fd ["entries"] (DH K 1 (Ax 1 (LF K cs))):=
 AF F YN (fun cdv A outer s H E hr=>
  (An (AD (PQ (by rfl) T.n_tuple (Ac (Ck (YS hr (by rfl) (Ae 0) (by rfl) T.n_sorted)) Af)))))
theorem RD(T:Tx P w K mg base cs):ClR P w K mg base "row_of" 1 (GV K cs):=by
 obtain ⟨a,fd,F,hm⟩:=T.F_row_of
 exact Ca (Yk T F) hm F.kp (Az F (fun kV doc pm an cdv ct us hl=>match us,hl with | [_],_=>rfl))
theorem M5:FnScope ["row","limits","name","number"] ["row","limits"] (defScope Ep):=⟨rfl,rfl,rfl,by decide +kernel,rfl,by decide +kernel,by decide +kernel⟩
theorem YD(T:Tx P w K mg base cs){a:Addr}{fd:FuncData}(F:FunD K "within" "within" (defArgs Ep) (defBody Ep) (defScope Ep) [] [] a fd):FnOk P w K mg base (L2N.CX P w) 1 a fd ["row","limits"] (DH K 2 (Ax 4 (MJ K cs))):=
 AF F M5 (fun cdv A outer s H E hr=>
  (Ak (CQ (passes_of (by rfl)) (by rfl) (AI (Ae 0)) (O4 (by rfl) (DJ (Ay 2 M5.nd) (DJ (Ay 3 M5.nd) K8)) (BV (BV Hh)))
  (An (Dz (Wg (D0 (FA hr (Ae 2) (Ae 1)) (D7 (E9 NN (Ae 3) (Cd hr (Ae 1) (Ae 2)))))) (An (AD DL)) Bk)))
  (An (AD DL))))
theorem XX(T:Tx P w K mg base cs):ClR P w K mg base "within" 1 (Hf K cs):=by
 obtain ⟨a,fd,F,hm⟩:=T.F_within
 exact Ca (YD T F) hm F.kp (Az F (fun kV doc pm an cdv ct us hl=>match us,hl with | [_,_],_=>rfl))
theorem IU:FnScope ["rows","row","limits","other"] ["rows","row"] (defScope Cp):=⟨rfl,rfl,rfl,by decide +kernel,rfl,by decide +kernel,by decide +kernel⟩
theorem Tb(T:Tx P w K mg base cs){a:Addr}{fd:FuncData}(F:FunD K "has_below" "has_below" (defArgs Cp) (defBody Cp) (defScope Cp) [] [] a fd):FnOk P w K mg base (L2N.CX P w) 2 a fd ["rows","row"] (DH K 2 (Ax 4 (Hw K cs))):=
 AF F IU (fun cdv A outer s H E hr=>
  (Ak (Bw 2 IU.nd (Ut (by rfl) (by rfl) T.n_dict (Ac (Ae 1) Af)))
  (Ak (CQ (passes_of (by rfl)) (by rfl) (AI (Ae 0)) (Ay 3 IU.nd)
  (An (Dz (Hk (Aq (XX T) (L2N.takes_of (by rfl) (by rfl) (by rfl) (by rfl)) hr (by decide) (by rfl) (Ac (Ae 3) (Ac (Ae 2) Af)))) (An (AD DL)) Bk)))
  (An (AD DL)))))
theorem Sr(T:Tx P w K mg base cs):ClR P w K mg base "has_below" 2 (EI K cs):=by
 obtain ⟨a,fd,F,hm⟩:=T.F_has_below
 exact Ca (Tb T F) hm F.kp (Az F (fun kV doc pm an cdv ct us hl=>match us,hl with | [_,_],_=>rfl))
theorem Dq:FnScope ["rows","ranked","row","name","number","kept","size","total"] ["rows"] (defScope D3):=⟨rfl,rfl,rfl,by decide +kernel,rfl,by decide +kernel,by decide +kernel⟩
theorem YO(T:Tx P w K mg base cs){a:Addr}{fd:FuncData}(F:FunD K "lowest" "lowest" (defArgs D3) (defBody D3) (defScope D3) [] [] a fd):FnOk P w K mg base (L2N.CX P w) 3 a fd ["rows"] (DH K 1 (Ax 8 (Lj K cs))):=
 AF F Dq (fun cdv A outer s H E hr=>
  (Ak (Bw 1 Dq.nd (Ck (F5 hr (by rfl) T.n_sorted (Ac (Ck (Ig [("row",2)] (by rfl) Dq.nd (AI (Ae 0)) (fun s2 H2 C2 cl2 fp2=>(Ay 2 Dq.nd)) (fun s2 H2 C2 cl2 fp2=>DG) (fun s2 H2 C2 cl2 fp2=>(EV (Ac (D5 (by rfl) T.n_len (Ac (Ae 2) Af)) (Ac (Z5 (by rfl) (by rfl) T.n_sum (Ac (Ck (Ig [("name",3),("number",4)] (by rfl) Dq.nd (AI (Ae 2)) (fun s2 H2 C2 cl2 fp2=>(O4 (by rfl) (DJ (Ay 3 Dq.nd) (DJ (Ay 4 Dq.nd) K8)) (BV (BV Hh)))) (fun s2 H2 C2 cl2 fp2=>DG) (fun s2 H2 C2 cl2 fp2=>(Ae 4)) (ok:=by exact Je ["rows","ranked","row","name","number","kept","size","total"] rfl (by decide +kernel)))) Af)) (Ac (Ae 2) Af))))) (ok:=by exact blkOk_by (N:=["rows","ranked","row","name","number","kept","size","total"]) (sc:=defScope D3) (by decide +kernel)))) Af))))
  (Ak (Sl 5 Dq.nd (Eg Af))
  (Ak (CQ (passes_of (by rfl)) (by rfl) (AI (Ae 1)) (O4 (by rfl) (DJ (Ay 6 Dq.nd) (DJ (Ay 7 Dq.nd) (DJ (Ay 2 Dq.nd) K8))) (BV (BV (BV Hh))))
  (An (Dz (Cg (Hk (Aq (Sr T) (L2N.takes_of (by rfl) (by rfl) (by rfl) (by rfl)) hr (by decide) (by rfl) (Ac (Ae 5) (Ac (Ae 2) Af))))) (An (OS 5 (Ae 2))) Bk)))
  (An (AD (Oj (by rfl) T.n_tuple (Ac (Ck (F5 hr (by rfl) T.n_sorted (Ac (Ae 5) Af))) Af))))))))
theorem Nj(T:Tx P w K mg base cs):ClR P w K mg base "lowest" 3 (Ij K cs):=by
 obtain ⟨a,fd,F,hm⟩:=T.F_lowest
 exact Ca (YO T F) hm F.kp (Az F (fun kV doc pm an cdv ct us hl=>match us,hl with | [_],_=>rfl))
theorem MS:FnScope ["rows","row"] ["rows"] (defScope D2):=⟨rfl,rfl,rfl,by decide +kernel,rfl,by decide +kernel,by decide +kernel⟩
theorem Yg(T:Tx P w K mg base cs){a:Addr}{fd:FuncData}(F:FunD K "normal" "normal" (defArgs D2) (defBody D2) (defScope D2) [] [] a fd):FnOk P w K mg base (L2N.CX P w) 4 a fd ["rows"] (DH K 1 (Ax 2 (LP K cs))):=
 AF F MS (fun cdv A outer s H E hr=>
  (An (AD (Aq (Nj T) (L2N.takes_of (by rfl) (by rfl) (by rfl) (by rfl)) hr (by decide) (by rfl) (Ac (Ck (Ig [("row",1)] (by rfl) MS.nd (AI (Ae 0)) (fun s2 H2 C2 cl2 fp2=>(Ay 1 MS.nd)) (fun s2 H2 C2 cl2 fp2=>DG) (fun s2 H2 C2 cl2 fp2=>(Aq (RD T) FD.takes0 hr (by decide) (by rfl) (Ac (Ae 1) Af))) (ok:=by exact blkOk_by (N:=["rows","row"]) (sc:=defScope D2) (by decide +kernel)))) Af)))))
theorem YV(T:Tx P w K mg base cs):ClR P w K mg base "normal" 4 (JH K cs):=by
 obtain ⟨a,fd,F,hm⟩:=T.F_normal
 exact Ca (Yg T F) hm F.kp (Az F (fun kV doc pm an cdv ct us hl=>match us,hl with | [_],_=>rfl))
theorem LQ:FnScope ["rows","row"] ["rows"] (defScope Cv):=⟨rfl,rfl,rfl,by decide +kernel,rfl,by decide +kernel,by decide +kernel⟩
theorem Sj(T:Tx P w K mg base cs){a:Addr}{fd:FuncData}(F:FunD K "need_rows" "need_rows" (defArgs Cv) (defBody Cv) (defScope Cv) [] [] a fd):FnOk P w K mg base (L2N.CX P w) 3 a fd ["rows"] (DH K 1 (Ax 2 (Hq K cs))):=
 AF F LQ (fun cdv A outer s H E hr=>
  (Ak (Dz (E9 (Jm (SN hr)) (D5 (by rfl) T.n_len (Ac (Ae 0) Af)) Aj) (An (OQ (by rfl) (Ia T) (HR K) (L2N.takes_of (by rfl) (by rfl) (by rfl) (by rfl)) hr (by decide) (by rfl))) Bk)
  (An (CQ (passes_of (by rfl)) (by rfl) (AI (Ae 0)) (Ay 1 LQ.nd)
  (An (Dz (E9 (Jm (SN hr)) (Sv (by rfl) T.n_len (Ac (Ae 1) Af)) Aj) (An (OQ (by rfl) (Ia T) (HR K) (L2N.takes_of (by rfl) (by rfl) (by rfl) (by rfl)) hr (by decide) (by rfl))) Bk))))))
theorem Tp(T:Tx P w K mg base cs):ClR P w K mg base "need_rows" 3 (FZ K cs):=by
 obtain ⟨a,fd,F,hm⟩:=T.F_need_rows
 exact Ca (Sj T F) hm F.kp (Az F (fun kV doc pm an cdv ct us hl=>match us,hl with | [_],_=>rfl))
theorem TB:FnScope ["form"] ["form"] (defScope Dh):=⟨rfl,rfl,rfl,by decide +kernel,rfl,by decide +kernel,by decide +kernel⟩
theorem Ud(T:Tx P w K mg base cs){a:Addr}{fd:FuncData}(F:FunD K "need_few" "need_few" (defArgs Dh) (defBody Dh) (defScope Dh) [] [] a fd):FnOk P w K mg base (L2N.CX P w) 1 a fd ["form"] (DH K 1 (Ax 1 (I5 K cs))):=
 AF F TB (fun cdv A outer s H E hr=>
  (An (Dz (E9 NN (D5 (by rfl) T.n_len (Ac (Ae 0) Af)) (Fc (v:=.int 200) (d:=.int 200) (by rfl) (Q9 T) (fun _ _ _=>rfl))) (An Mw) Bk)))
theorem NI(T:Tx P w K mg base cs):ClR P w K mg base "need_few" 1 (DV K cs):=by
 obtain ⟨a,fd,F,hm⟩:=T.F_need_few
 exact Ca (Ud T F) hm F.kp (Az F (fun kV doc pm an cdv ct us hl=>match us,hl with | [_],_=>rfl))
theorem EB:FnScope ["rows","known","row","name","kept"] ["rows","known"] (defScope Bu):=⟨rfl,rfl,rfl,by decide +kernel,rfl,by decide +kernel,by decide +kernel⟩
theorem NQ(T:Tx P w K mg base cs){a:Addr}{fd:FuncData}(F:FunD K "checked_form" "checked_form" (defArgs Bu) (defBody Bu) (defScope Bu) [] [] a fd):FnOk P w K mg base (L2N.CX P w) 5 a fd ["rows","known"] (DH K 2 (Ax 5 (E1 K cs))):=
 AF F EB (fun cdv A outer s H E hr=>
  (Ak (Qm (Aq (Tp T) (L2N.takes_of (by rfl) (by rfl) (by rfl) (by rfl)) hr (by decide) (by rfl) (Ac (Ae 0) Af)))
  (Ak (CQ (passes_of (by rfl)) (by rfl) (AI (Ae 0)) (Ay 2 EB.nd)
  (An (CQ (passes_of (by rfl)) (by rfl) (AI (Ck (F5 hr (by rfl) T.n_sorted (Ac (Ck (GZ (by rfl) (by rfl) T.n_list (Ac (Ae 2) Af))) Af)))) (Ay 3 EB.nd)
  (An (Dz (FA hr (Ae 3) (Ae 1)) (An Mw) Bk)))))
  (Ak (Bw 4 EB.nd (Aq (YV T) (L2N.takes_of (by rfl) (by rfl) (by rfl) (by rfl)) hr (by decide) (by rfl) (Ac (Ae 0) Af)))
  (Ak (Qm (Aq (NI T) (L2N.takes_of (by rfl) (by rfl) (by rfl) (by rfl)) hr (by decide) (by rfl) (Ac (Ae 4) Af)))
  (An (AD (Ae 4))))))))
theorem N4(T:Tx P w K mg base cs):ClR P w K mg base "checked_form" 5 (Dr K cs):=by
 obtain ⟨a,fd,F,hm⟩:=T.F_checked_form
 exact Ca (NQ T F) hm F.kp (Az F (fun kV doc pm an cdv ct us hl=>match us,hl with | [_,_],_=>rfl))
theorem Gj:FnScope ["self","rules","forms","name","#"] ["self","rules"] (defScope Bt):=⟨rfl,rfl,rfl,by decide +kernel,rfl,by decide +kernel,by decide +kernel⟩
theorem NZ(T:Tx P w K mg base cs){a:Addr}{fd:FuncData}(F:FunD K "__init__" "Map.__init__" (defArgs Bt) (defBody Bt) (defScope Bt) [] [] a fd):FnOk P w K mg base (L2N.CX P w) 6 a fd ["self","rules"] (M6 K 2 (runM 4 (B9 K cs))):=
 FP F Gj rfl (by decide) (fun cdv A outer s H E hr=>
  (Ak (Dz (E9 (Jm (SN hr)) (Sv (by rfl) T.n_len (Ac (Ae 1) Af)) Aj) (An (OQ (by rfl) (Ia T) (HR K) (L2N.takes_of (by rfl) (by rfl) (by rfl) (by rfl)) hr (by decide) (by rfl))) Bk)
  (Ak (G3 2 Gj.nd)
  (Ak (CQ (passes_of (by rfl)) (by rfl) (AI (Ck (F5 hr (by rfl) T.n_sorted (Ac (Ck (GZ (by rfl) (by rfl) T.n_list (Ac (Ae 1) Af))) Af)))) (Ay 3 Gj.nd)
  (An (Gn hr 2 (Aq (N4 T) (L2N.takes_of (by rfl) (by rfl) (by rfl) (by rfl)) hr (by decide) (by rfl) (Ac (Cd hr (Ae 1) (Ae 3)) (Ac (Ae 1) Af))) (Ae 3))))
  (An (iF (S:=[4]) 4 (CH T) (Jq (Ae 2)) (Ae 0)))))))
theorem N1(T:Tx P w K mg base cs):∃ a,Mk K cs.c_Map a∧FnR P w K mg base (L2N.CX P w) 6 a (fZ K (AM K cs)):=by
 obtain ⟨a,fd,F,hm⟩:=T.F_Map___init__
 exact ⟨a,hm,je (NZ T F) (Ba F (fun kV doc pm an cdv ct us hl=>match us,hl with | [_,_],_=>rfl))⟩
theorem Oc{X:Cx}{cs:Cs}(T:Tx X.prog X.w X.K X.mg X.base cs):ClC X.prog X.w X.K X.mg X.base "Map" 6 cs.c_Map (AM X.K cs):=⟨T.g_Map,N1 T⟩
theorem Ie:FnScope ["forms","rules","name","row"] ["forms"] (defScope DU):=⟨rfl,rfl,rfl,by decide +kernel,rfl,by decide +kernel,by decide +kernel⟩
theorem YG(T:Tx P w K mg base cs){a:Addr}{fd:FuncData}(F:FunD K "map_of" "map_of" (defArgs DU) (defBody DU) (defScope DU) [] [] a fd):FnOk P w K mg base (L2N.CX P w) 8 a fd ["forms"] (DH K 1 (Ax 4 (IC K cs))):=
 AF F Ie (fun cdv A outer s H E hr=>
  (Ak (G3 1 Ie.nd)
  (Ak (CQ (passes_of (by rfl)) (by rfl) (AI (Ck (F5 hr (by rfl) T.n_sorted (Ac (Ck (GZ (by rfl) (by rfl) T.n_list (Ac (Ae 0) Af))) Af)))) (Ay 2 Ie.nd)
  (Ak (Qm (Aq (NI T) (L2N.takes_of (by rfl) (by rfl) (by rfl) (by rfl)) hr (by decide) (by rfl) (Ac (Cd hr (Ae 0) (Ae 2)) Af)))
  (An (Gn hr 1 (Ck (Ig [("row",3)] (by rfl) Ie.nd (AI (Cd hr (Ae 0) (Ae 2))) (fun s2 H2 C2 cl2 fp2=>(Ay 3 Ie.nd)) (fun s2 H2 C2 cl2 fp2=>DG) (fun s2 H2 C2 cl2 fp2=>(Ut (by rfl) (by rfl) T.n_dict (Ac (Ae 3) Af))) (ok:=by exact blkOk_by (N:=["forms","rules","name","row"]) (sc:=defScope DU) (by decide +kernel)))) (Ae 2)))))
  (An (AD (Sb (Oc T) (L2N.takes_of (by rfl) (by rfl) (by rfl) (by rfl)) hr (by decide) (by rfl) (Ac (Ae 1) Af)))))))
theorem Rz(T:Tx P w K mg base cs):ClR P w K mg base "map_of" 8 (Eu K cs):=by
 obtain ⟨a,fd,F,hm⟩:=T.F_map_of
 exact Ca (YG T F) hm F.kp (Az F (fun kV doc pm an cdv ct us hl=>match us,hl with | [_],_=>rfl))
theorem XN:FnScope ["form","other"] ["form","other"] (defScope Ex):=⟨rfl,rfl,rfl,by decide +kernel,rfl,by decide +kernel,by decide +kernel⟩
theorem Yl(T:Tx P w K mg base cs){a:Addr}{fd:FuncData}(F:FunD K "either" "either" (defArgs Ex) (defBody Ex) (defScope Ex) [] [] a fd):FnOk P w K mg base (L2N.CX P w) 4 a fd ["form","other"] (DH K 2 (Ax 2 (LL K cs))):=
 AF F XN (fun cdv A outer s H E hr=>
  (An (AD (Aq (Nj T) (L2N.takes_of (by rfl) (by rfl) (by rfl) (by rfl)) hr (by decide) (by rfl) (Ac (Ck (Eg (UM (Ae 0) (UM (Ae 1) Af)))) Af)))))
theorem Yv(T:Tx P w K mg base cs):ClR P w K mg base "either" 4 (G8 K cs):=by
 obtain ⟨a,fd,F,hm⟩:=T.F_either
 exact Ca (Yl T F) hm F.kp (Az F (fun kV doc pm an cdv ct us hl=>match us,hl with | [_,_],_=>rfl))
theorem KJ:FnScope ["row","other","entries","name","number"] ["row","other"] (defScope Ew):=⟨rfl,rfl,rfl,by decide +kernel,rfl,by decide +kernel,by decide +kernel⟩
theorem XC(T:Tx P w K mg base cs){a:Addr}{fd:FuncData}(F:FunD K "merged" "merged" (defArgs Ew) (defBody Ew) (defScope Ew) [] [] a fd):FnOk P w K mg base (L2N.CX P w) 2 a fd ["row","other"] (DH K 2 (Ax 5 (MM K cs))):=
 AF F KJ (fun cdv A outer s H E hr=>
  (Ak (aA 2 (by rfl) (by rfl) T.n_dict (Ac (Ae 0) Af) KJ.nd)
  (Ak (CQ (passes_of (by rfl)) (by rfl) (AI (Ae 1)) (O4 (by rfl) (DJ (Ay 3 KJ.nd) (DJ (Ay 4 KJ.nd) K8)) (BV (BV Hh)))
  (An (Dz (Wg (D0 (FA hr (Ae 3) (Ae 2)) (D7 (E9 NN (Ae 4) (Cd hr (Ae 2) (Ae 3)))))) (An (Gn hr 2 (Ae 4) (Ae 3))) Bk)))
  (An (AD (Aq (RD T) (L2N.takes_of (by rfl) (by rfl) (by rfl) (by rfl)) hr (by decide) (by rfl) (Ac (Ae 2) Af)))))))
theorem XS(T:Tx P w K mg base cs):ClR P w K mg base "merged" 2 (Ke K cs):=by
 obtain ⟨a,fd,F,hm⟩:=T.F_merged
 exact Ca (XC T F) hm F.kp (Az F (fun kV doc pm an cdv ct us hl=>match us,hl with | [_,_],_=>rfl))
theorem KN:FnScope ["form","other","row","second"] ["form","other"] (defScope DW):=⟨rfl,rfl,rfl,by decide +kernel,rfl,by decide +kernel,by decide +kernel⟩
theorem XT(T:Tx P w K mg base cs){a:Addr}{fd:FuncData}(F:FunD K "joined" "joined" (defArgs DW) (defBody DW) (defScope DW) [] [] a fd):FnOk P w K mg base (L2N.CX P w) 4 a fd ["form","other"] (DH K 2 (Ax 4 (Lq K cs))):=
 AF F KN (fun cdv A outer s H E hr=>
  (An (AD (Aq (Nj T) (L2N.takes_of (by rfl) (by rfl) (by rfl) (by rfl)) hr (by decide) (by rfl) (Ac (Ck (jD [("row",2),("second",3)] [3] (by rfl) KN.nd (AI (Ae 0)) (fun s2 H2 C2 cl2 fp2=>(Ay 2 KN.nd)) (fun s2 H2 C2 cl2 fp2=>DG) (fun s2 H2 C2 cl2 fp2=>(dG (Ae 1))) (fun s2 H2 C2 cl2 fp2=>(Ay 3 KN.nd)) (fun s2 H2 C2 cl2 fp2=>DG) (fun s2 H2 C2 cl2 fp2=>(Aq (XS T) FD.takes0 hr (by decide) (by rfl) (Ac (Ae 2) (Ac (Ae 3) Af)))) (ok:=by exact blkOk_by (N:=["form","other","row","second"]) (sc:=defScope DW) (by decide +kernel)))) Af)))))
theorem Yn(T:Tx P w K mg base cs):ClR P w K mg base "joined" 4 (Ii K cs):=by
 obtain ⟨a,fd,F,hm⟩:=T.F_joined
 exact Ca (XT T F) hm F.kp (Az F (fun kV doc pm an cdv ct us hl=>match us,hl with | [_,_],_=>rfl))
theorem Fy:FnScope ["form","k","row","name","number"] ["form","k"] (defScope Dl):=⟨rfl,rfl,rfl,by decide +kernel,rfl,by decide +kernel,by decide +kernel⟩
theorem V6(T:Tx P w K mg base cs){a:Addr}{fd:FuncData}(F:FunD K "shifted" "shifted" (defArgs Dl) (defBody Dl) (defScope Dl) [] [] a fd):FnOk P w K mg base (L2N.CX P w) 1 a fd ["form","k"] (DH K 2 (Ax 5 (KC K cs))):=
 AF F Fy (fun cdv A outer s H E hr=>
  (An (AD (Oj (by rfl) T.n_tuple (Ac (Ck (Ig [("row",2)] (by rfl) Fy.nd (AI (Ae 0)) (fun s2 H2 C2 cl2 fp2=>(Ay 2 Fy.nd)) (fun s2 H2 C2 cl2 fp2=>DG) (fun s2 H2 C2 cl2 fp2=>(PQ (by rfl) T.n_tuple (Ac (Ck (Ig [("name",3),("number",4)] (by rfl) Fy.nd (AI (Ae 2)) (fun s2 H2 C2 cl2 fp2=>(O4 (by rfl) (DJ (Ay 3 Fy.nd) (DJ (Ay 4 Fy.nd) K8)) (BV (BV Hh)))) (fun s2 H2 C2 cl2 fp2=>DG) (fun s2 H2 C2 cl2 fp2=>(EV (Ac (Ae 3) (Ac (CK (Ae 4) (Ae 1)) Af)))) (ok:=by exact Je ["form","k","row","name","number"] rfl (by decide +kernel)))) Af))) (ok:=by exact blkOk_by (N:=["form","k","row","name","number"]) (sc:=defScope Dl) (by decide +kernel)))) Af)))))
theorem VL(T:Tx P w K mg base cs):ClR P w K mg base "shifted" 1 (GR K cs):=by
 obtain ⟨a,fd,F,hm⟩:=T.F_shifted
 exact Ca (V6 T F) hm F.kp (Az F (fun kV doc pm an cdv ct us hl=>match us,hl with | [_,_],_=>rfl))
theorem Ej:FnScope ["row","forms","result","name","number"] ["row","forms"] (defScope BY):=⟨rfl,rfl,rfl,by decide +kernel,rfl,by decide +kernel,by decide +kernel⟩
theorem QT(T:Tx P w K mg base cs){a:Addr}{fd:FuncData}(F:FunD K "placed_row" "placed_row" (defArgs BY) (defBody BY) (defScope BY) [] [] a fd):FnOk P w K mg base (L2N.CX P w) 5 a fd ["row","forms"] (DH K 2 (Ax 5 (Gv K cs))):=
 AF F Ej (fun cdv A outer s H E hr=>
  (Ak (Bw 2 Ej.nd (EV (Ac (aE Af) Af)))
  (Ak (CQ (passes_of (by rfl)) (by rfl) (AI (Ae 0)) (O4 (by rfl) (DJ (Ay 3 Ej.nd) (DJ (Ay 4 Ej.nd) K8)) (BV (BV Hh)))
  (An (Bw 2 Ej.nd (Aq (Yn T) (L2N.takes_of (by rfl) (by rfl) (by rfl) (by rfl)) hr (by decide) (by rfl) (Ac (Ae 2) (Ac (Aq (VL T) (L2N.takes_of (by rfl) (by rfl) (by rfl) (by rfl)) hr (by decide) (by rfl) (Ac (Cd hr (Ae 1) (Ae 3)) (Ac (Ae 4) Af))) Af))))))
  (An (AD (Ae 2))))))
theorem QV(T:Tx P w K mg base cs):ClR P w K mg base "placed_row" 5 (Ea K cs):=by
 obtain ⟨a,fd,F,hm⟩:=T.F_placed_row
 exact Ca (QT T F) hm F.kp (Az F (fun kV doc pm an cdv ct us hl=>match us,hl with | [_,_],_=>rfl))
theorem Kq:FnScope ["form","forms","result","row"] ["form","forms"] (defScope Er):=⟨rfl,rfl,rfl,by decide +kernel,rfl,by decide +kernel,by decide +kernel⟩
theorem Yw(T:Tx P w K mg base cs){a:Addr}{fd:FuncData}(F:FunD K "placed" "placed" (defArgs Er) (defBody Er) (defScope Er) [] [] a fd):FnOk P w K mg base (L2N.CX P w) 6 a fd ["form","forms"] (DH K 2 (Ax 4 (LG K cs))):=
 AF F Kq (fun cdv A outer s H E hr=>
  (Ak (Bw 2 Kq.nd (EV Af))
  (Ak (CQ (passes_of (by rfl)) (by rfl) (AI (Ae 0)) (Ay 3 Kq.nd)
  (An (Bw 2 Kq.nd (Aq (Yv T) (L2N.takes_of (by rfl) (by rfl) (by rfl) (by rfl)) hr (by decide) (by rfl) (Ac (Ae 2) (Ac (Aq (QV T) (L2N.takes_of (by rfl) (by rfl) (by rfl) (by rfl)) hr (by decide) (by rfl) (Ac (Ae 3) (Ac (Ae 1) Af))) Af))))))
  (An (AD (Ae 2))))))
theorem YM(T:Tx P w K mg base cs):ClR P w K mg base "placed" 6 (J8 K cs):=by
 obtain ⟨a,fd,F,hm⟩:=T.F_placed
 exact Ca (Yw T F) hm F.kp (Az F (fun kV doc pm an cdv ct us hl=>match us,hl with | [_,_],_=>rfl))
theorem Jw:FnScope ["outer","inner","forms","name"] ["outer","inner"] (defScope De):=⟨rfl,rfl,rfl,by decide +kernel,rfl,by decide +kernel,by decide +kernel⟩
theorem UE(T:Tx P w K mg base cs){a:Addr}{fd:FuncData}(F:FunD K "composed" "composed" (defArgs De) (defBody De) (defScope De) [] [] a fd):FnOk P w K mg base (L2N.CX P w) 7 a fd ["outer","inner"] (DH K 2 (Ax 4 (IH K cs))):=
 AF F Jw (fun cdv A outer s H E hr=>
  (Ak (G3 2 Jw.nd)
  (Ak (Lc 0 (passes_of (by rfl)) (by rfl) (Ay 3 Jw.nd)
  (An (Gn hr 2 (Aq (YM T) (L2N.takes_of (by rfl) (by rfl) (by rfl) (by rfl)) hr (by decide) (by rfl) (Ac (Cd hr (Ae 0) (Ae 3)) (Ac (Ae 1) Af))) (Ae 3))))
  (An (AD (Ae 2))))))
theorem UG(T:Tx P w K mg base cs):ClR P w K mg base "composed" 7 (Jj K cs):=by
 obtain ⟨a,fd,F,hm⟩:=T.F_composed
 exact Ca (UE T F) hm F.kp (Az F (fun kV doc pm an cdv ct us hl=>match us,hl with | [_,_],_=>rfl))
theorem SJ:FnScope ["self"] ["self"] (defScope Cu):=⟨rfl,rfl,rfl,by decide +kernel,rfl,by decide +kernel,by decide +kernel⟩
theorem SM(T:Tx P w K mg base cs){a:Addr}{fd:FuncData}(F:FunD K "names" "Map.names" (defArgs Cu) (defBody Cu) (defScope Cu) [] [] a fd):FnOk P w K mg base (L2N.CX P w) 1 a fd ["self"] (DH K 1 (Ax 1 (Ho K cs))):=
 AF F SJ (fun cdv A outer s H E hr=>
  (An (AD (Oj (by rfl) T.n_tuple (Ac (Ck (GZ (by rfl) (by rfl) T.n_list (Ac (HX (CH T) (Ae 0)) Af))) Af)))))
theorem R6(T:Tx P w K mg base cs):∃ a,Meth K cs.c_Map "names" a∧FnR P w K mg base (L2N.CX P w) 1 a (Np K (EK K cs)):=by
 obtain ⟨a,fd,F,hm⟩:=T.F_Map_names
 exact ⟨a,hm,K7 (SM T F) (Ba F (fun kV doc pm an cdv ct us hl=>match us,hl with | [_],_=>rfl))⟩
theorem SY{X:Cx}{cs:Cs}(T:Tx X.prog X.w X.K X.mg X.base cs):MeC X.prog X.w X.K X.mg X.base 1 cs.c_Map "names" (EK X.K cs):=⟨T.cl_Map,R6 T⟩
theorem Iv{X:Cx}{cs:Cs}(T:Tx X.prog X.w X.K X.mg X.base cs):∀ q∈CJ X.K cs,MeC X.prog X.w X.K X.mg X.base 1 q.1 "names" q.2:=fun q hq=>by
 obtain rfl:=List.mem_singleton.mp hq
 exact SY T
theorem KQ:FnScope ["self","name"] ["self","name"] (defScope AS):=⟨rfl,rfl,rfl,by decide +kernel,rfl,by decide +kernel,by decide +kernel⟩
theorem KS(T:Tx P w K mg base cs){a:Addr}{fd:FuncData}(F:FunD K "__contains__" "Map.__contains__" (defArgs AS) (defBody AS) (defScope AS) [] [] a fd):FnOk P w K mg base (L2N.CX P w) 1 a fd ["self","name"] (DH K 2 (Ax 2 (DD K cs))):=
 AF F KQ (fun cdv A outer s H E hr=>
  (An (AD (jC hr (Ae 1) (HX (CH T) (Ae 0))))))
theorem KY(T:Tx P w K mg base cs):∃ a,Meth K cs.c_Map "__contains__" a∧FnR P w K mg base (L2N.CX P w) 1 a (Np K (BW K cs)):=by
 obtain ⟨a,fd,F,hm⟩:=T.F_Map___contains__
 exact ⟨a,hm,K7 (KS T F) (Ba F (fun kV doc pm an cdv ct us hl=>match us,hl with | [_,_],_=>rfl))⟩
theorem KU{X:Cx}{cs:Cs}(T:Tx X.prog X.w X.K X.mg X.base cs):MeC X.prog X.w X.K X.mg X.base 1 cs.c_Map "__contains__" (BW X.K cs):=⟨T.cl_Map,KY T⟩
theorem Fs{X:Cx}{cs:Cs}(T:Tx X.prog X.w X.K X.mg X.base cs):∀ q∈AV X.K cs,MeC X.prog X.w X.K X.mg X.base 1 q.1 "__contains__" q.2:=fun q hq=>by
 obtain rfl:=List.mem_singleton.mp hq
 exact KU T
theorem DO:FnScope ["some","other","lone","name"] ["some","other"] (defScope Bv):=⟨rfl,rfl,rfl,by decide +kernel,rfl,by decide +kernel,by decide +kernel⟩
theorem QU(T:Tx P w K mg base cs){a:Addr}{fd:FuncData}(F:FunD K "need_alike" "need_alike" (defArgs Bv) (defBody Bv) (defScope Bv) [] [] a fd):FnOk P w K mg base (L2N.CX P w) 2 a fd ["some","other"] (DH K 2 (Ax 4 (GP K cs))):=
 AF F DO (fun cdv A outer s H E hr=>
  (Ak (SV 2 [("name",3)] (by rfl) DO.nd (AI (JJ (Iv T) (L2N.takes_of (by rfl) (by rfl) (by rfl) (by rfl)) hr (by decide) (Ae 0))) (fun s2 H2 C2 cl2 fp2=>(Ay 3 DO.nd)) (fun s2 H2 C2 cl2 fp2=>(Z0 (V7 (Fs T) hr (by decide) (Ae 3) (Ae 1) true rfl (by with_unfolding_all rfl)))) (fun s2 H2 C2 cl2 fp2=>(Ae 3)) (ok:=by exact blkOk_by (N:=["some","other","lone","name"]) (sc:=defScope Bv) (by decide +kernel)))
  (Ak (Bw 2 DO.nd (CK (Ae 2) (Ck (Ig [("name",3)] (by rfl) DO.nd (AI (JJ (Iv T) (L2N.takes_of (by rfl) (by rfl) (by rfl) (by rfl)) hr (by decide) (Ae 1))) (fun s2 H2 C2 cl2 fp2=>(Ay 3 DO.nd)) (fun s2 H2 C2 cl2 fp2=>(Z0 (V7 (Fs T) hr (by decide) (Ae 3) (Ae 0) true rfl (by with_unfolding_all rfl)))) (fun s2 H2 C2 cl2 fp2=>(Ae 3)) (ok:=by exact blkOk_by (N:=["some","other","lone","name"]) (sc:=defScope Bv) (by decide +kernel))))))
  (An (Dz (E9 NN (D5 (by rfl) T.n_len (Ac (Ae 2) Af)) Aj) (An Mw) Bk)))))
theorem Q4(T:Tx P w K mg base cs):ClR P w K mg base "need_alike" 2 (GO K cs):=by
 obtain ⟨a,fd,F,hm⟩:=T.F_need_alike
 exact Ca (QU T F) hm F.kp (Az F (fun kV doc pm an cdv ct us hl=>match us,hl with | [_,_],_=>rfl))
theorem OY:FnScope ["self","other"] ["self","other"] (defScope BG):=⟨rfl,rfl,rfl,by decide +kernel,rfl,by decide +kernel,by decide +kernel⟩
theorem Pr(T:Tx P w K mg base cs){a:Addr}{fd:FuncData}(F:FunD K "__mul__" "Map.__mul__" (defArgs BG) (defBody BG) (defScope BG) [] [] a fd):FnOk P w K mg base (L2N.CX P w) 9 a fd ["self","other"] (DH K 2 (Ax 2 (FV K cs))):=
 AF F OY (fun cdv A outer s H E hr=>
  (Ak (Qm (Aq (Q4 T) (L2N.takes_of (by rfl) (by rfl) (by rfl) (by rfl)) hr (by decide) (by rfl) (Ac (Ae 0) (Ac (Ae 1) Af))))
  (An (AD (Aq (Rz T) (L2N.takes_of (by rfl) (by rfl) (by rfl) (by rfl)) hr (by decide) (by rfl) (Ac (Aq (UG T) (L2N.takes_of (by rfl) (by rfl) (by rfl) (by rfl)) hr (by decide) (by rfl) (Ac (HX (CH T) (Ae 0)) (Ac (HX (CH T) (Ae 1)) Af))) Af))))))
theorem O6(T:Tx P w K mg base cs):∃ a,Meth K cs.c_Map "__mul__" a∧FnR P w K mg base (L2N.CX P w) 9 a (Np K (Em K cs)):=by
 obtain ⟨a,fd,F,hm⟩:=T.F_Map___mul__
 exact ⟨a,hm,K7 (Pr T F) (Ba F (fun kV doc pm an cdv ct us hl=>match us,hl with | [_,_],_=>rfl))⟩
theorem OM{X:Cx}{cs:Cs}(T:Tx X.prog X.w X.K X.mg X.base cs):MeC X.prog X.w X.K X.mg X.base 9 cs.c_Map "__mul__" (Em X.K cs):=⟨T.cl_Map,O6 T⟩
theorem CZ{X:Cx}{cs:Cs}(T:Tx X.prog X.w X.K X.mg X.base cs):∀ q∈AJ X.K cs,MeC X.prog X.w X.K X.mg X.base 9 q.1 "__mul__" q.2:=fun q hq=>by
 obtain rfl:=List.mem_singleton.mp hq
 exact OM T
theorem C5{X:Cx}{cs:Cs}(T:Tx X.prog X.w X.K X.mg X.base cs):∀ q∈AJ X.K cs,PySem.W.selfFirst X.K q.1=true:=fun q hq=>by
 obtain rfl:=List.mem_singleton.mp hq
 exact T.sf_Map
theorem QM:FnScope ["self","other"] ["self","other"] (defScope B0):=⟨rfl,rfl,rfl,by decide +kernel,rfl,by decide +kernel,by decide +kernel⟩
theorem QS(T:Tx P w K mg base cs){a:Addr}{fd:FuncData}(F:FunD K "__eq__" "Map.__eq__" (defArgs B0) (defBody B0) (defScope B0) [] [] a fd):FnOk P w K mg base (L2N.CX P w) 1 a fd ["self","other"] (DH K 2 (Ax 2 (Gx K cs))):=
 AF F QM (fun cdv A outer s H E hr=>
  (An (AD (Gm (jk (bZ T) (by rfl) T.n_isinstance (Ac (Ae 1) (Ac (Fc (v:=.ref cs.c_Map) (d:=.cls cs.c_Map) (by rfl) ⟨_,T.g_Map,rfl⟩ (fun _ _ _=>rfl)) Af))) (Lf (jy (fF hr) (HX (CH T) (Ae 0)) (HX (CH T) (Ae 1))))))))
theorem QL(T:Tx P w K mg base cs):∃ a,Meth K cs.c_Map "__eq__" a∧FnR P w K mg base (L2N.CX P w) 1 a (Np K (DE K cs)):=by
 obtain ⟨a,fd,F,hm⟩:=T.F_Map___eq__
 exact ⟨a,hm,K7 (QS T F) (Ba F (fun kV doc pm an cdv ct us hl=>match us,hl with | [_,_],_=>rfl))⟩
theorem QE{X:Cx}{cs:Cs}(T:Tx X.prog X.w X.K X.mg X.base cs):MeC X.prog X.w X.K X.mg X.base 1 cs.c_Map "__eq__" (DE X.K cs):=⟨T.cl_Map,QL T⟩
theorem meq{X:Cx}{cs:Cs}(T:Tx X.prog X.w X.K X.mg X.base cs):∀ q∈Wz X.K cs,MeC X.prog X.w X.K X.mg X.base 1 q.1 "__eq__" q.2:=fun q hq=>by
 obtain rfl:=List.mem_singleton.mp hq
 exact QE T
theorem eqc{X:Cx}{cs:Cs}(T:Tx X.prog X.w X.K X.mg X.base cs):∀ q∈Wz X.K cs,EqC X.K (Wz X.K cs) q.1:=fun q hq=>by
 simp only [List.mem_cons,List.not_mem_nil,or_false] at hq
 rcases hq with rfl
 ·exact ⟨c6,fun q hq=>by
   obtain rfl:=List.mem_singleton.mp hq
   exact aW⟩
theorem Kc:FnScope ["_law_script","_law_k","_law_cell","#"] ["_law_script","_law_k"] (defScope Dg):=⟨rfl,rfl,rfl,by decide +kernel,rfl,by decide +kernel,by decide +kernel⟩
theorem TQ(T:Tx P w K mg base cs){a:Addr}{fd:FuncData}(F:FunD K "_law_box" "_law_box" (defArgs Dg) (defBody Dg) (defScope Dg) [] [] a fd):FnOk P w K mg base (L2N.CX P w) 1 a fd ["_law_script","_law_k"] (M6 K 2 (runM 3 (Jc K cs))):=
 FP F Kc rfl (by decide) (fun cdv A outer s H E hr=>
  (Ak (Dz (E9 fP (Ae 1) (D5 (by rfl) T.n_len (Ac (Ae 0) Af))) (An (Bw 2 Kc.nd (HE (by rfl) T.n_int (Ac (AU 0 (Ae 1)) Af)))) (An (Bw 2 Kc.nd (M3 (HE (by rfl) T.n_int (Ac (Hx (Z5 (by rfl) (by rfl) T.n_sum (Ac (Sx (Ae 0) Ls (Ma Aj)) Af)) (CK Aj (Hx Aj (Ae 1)))) Af)) Aj))))
  (An (Vk (S:=[3]) (ju (n:=3) (cg (Cf (Ac (Ae 2) (Ac (Ae 1) (Ac (jy kg (Ae 2) (VW Aj Aj)) Af))))))))))
theorem HG(T:Tx P w K mg base cs):ClM P w K mg base "_law_box" 1 (Bz K cs):=by
 obtain ⟨a,fd,F,hm⟩:=T.F__law_box
 exact IM (TQ T F) hm F.kp (Ba F (fun kV doc pm an cdv ct us hl=>match us,hl with | [_,_],_=>rfl))
theorem E5:FnScope ["_law_box_here","_law_size","_law_pick","_law_first","_law_second","_law_third","#"] ["_law_box_here","_law_size"] (defScope Cq):=⟨rfl,rfl,rfl,by decide +kernel,rfl,by decide +kernel,by decide +kernel⟩
theorem Th(T:Tx P w K mg base cs){a:Addr}{fd:FuncData}(F:FunD K "_law_take" "_law_take" (defArgs Cq) (defBody Cq) (defScope Cq) [] [] a fd):FnOk P w K mg base (L2N.CX P w) 1 a fd ["_law_box_here","_law_size"] (M6 K 2 (runM 6 (Hv K cs))):=
 FP F E5 rfl (by decide) (fun cdv A outer s H E hr=>
  (Ak (T9 (S:=[6]) 6 (Jq (CK (GB 6 0 Aj) Aj)) (Ae 0) Aj)
  (Ak (Dz (Hk (GB 6 0 Aj)) (Ak (Bw 2 E5.nd (M3 (HE (by rfl) T.n_int (Ac (GB 6 0 Aj) Af)) (Ae 1)))
  (Ak (T9 (S:=[6]) 6 (Jq (N6 (HE (by rfl) T.n_int (Ac (GB 6 0 Aj) Af)) (Ae 1))) (Ae 0) Aj)
  (An (AD (Ae 2))))) Bk)
  (Ak (Bw 3 E5.nd (M3 (HE (by rfl) T.n_int (Ac (Hx (GB 6 0 Aj) (CK Aj (Hx Aj (GB 6 0 Aj)))) Af)) Aj))
  (Ak (Bw 4 E5.nd (M3 (HE (by rfl) T.n_int (Ac (CK (Hx (Ae 3) (Ae 3)) (Hx (Ae 3) (CK (GB 6 0 Aj) Aj))) Af)) Aj))
  (Ak (Bw 5 E5.nd (M3 (HE (by rfl) T.n_int (Ac (Hx (Ae 4) (CK (N6 (Ae 4) Aj) Aj)) Af)) Aj))
  (An (AD (M3 (HE (by rfl) T.n_int (Ac (CK (CK (N6 (Ae 5) Aj) (Hx Aj (GB 6 0 Aj))) (N6 (GB 6 0 Aj) Aj)) Af)) (Ae 1))))))))))
theorem AQ(T:Tx P w K mg base cs):ClM P w K mg base "_law_take" 1 (Ao K cs):=by
 obtain ⟨a,fd,F,hm⟩:=T.F__law_take
 exact IM (Th T F) hm F.kp (Ba F (fun kV doc pm an cdv ct us hl=>match us,hl with | [_,_],_=>rfl))
theorem K0:FnScope ["_law_names_here","_law_k"] ["_law_names_here"] (defScope B3):=⟨rfl,rfl,rfl,by decide +kernel,rfl,by decide +kernel,by decide +kernel⟩
theorem Q1(T:Tx P w K mg base cs){a:Addr}{fd:FuncData}(F:FunD K "_law_fresh" "_law_fresh" (defArgs B3) (defBody B3) (defScope B3) [] [] a fd):FnOk P w K mg base (L2N.CX P w) 1 a fd ["_law_names_here"] (DH K 1 (Ax 2 (GA K cs))):=
 AF F K0 (fun cdv A outer s H E hr=>
  (Ak (CQ (passes_of (by rfl)) (by rfl) (FY (by rfl) T.n_range (CK (D5 (by rfl) T.n_len (Ac (Ae 0) Af)) Aj)) (Ay 1 K0.nd)
  (An (Dz (E9 Yt (CK Fe (Xj (by rfl) T.n_str (Ac (Ae 1) Af))) (Ae 0) (hm:=by with_unfolding_all rfl)) (An (AD (CK Fe (Xj (by rfl) T.n_str (Ac (Ae 1) Af))))) Bk)))
  (An (AD Fe))))
theorem QW(T:Tx P w K mg base cs):ClR P w K mg base "_law_fresh" 1 (Ec K cs):=by
 obtain ⟨a,fd,F,hm⟩:=T.F__law_fresh
 exact Ca (Q1 T F) hm F.kp (Az F (fun kV doc pm an cdv ct us hl=>match us,hl with | [_],_=>rfl))
theorem DC:FnScope ["_law_box_here","_law_letters","_law_word_here","_law_size","_law_k","#"] ["_law_box_here"] (defScope Co):=⟨rfl,rfl,rfl,by decide +kernel,rfl,by decide +kernel,by decide +kernel⟩
theorem Ss(T:Tx P w K mg base cs){a:Addr}{fd:FuncData}(F:FunD K "_law_word" "_law_word" (defArgs Co) (defBody Co) (defScope Co) [] [] a fd):FnOk P w K mg base (L2N.CX P w) 2 a fd ["_law_box_here"] (M6 K 1 (runM 5 (Hy K cs))):=
 FP F DC rfl (by decide) (fun cdv A outer s H E hr=>
  (Ak (Bw 1 DC.nd Fe)
  (Ak (RN (S:=[5]) (Zi NN (AN (n:=5) (AQ T) (L2N.takes_of (by rfl) (by rfl) (by rfl) (by rfl)) hr (by decide) (by rfl) (Cf (Ac (Ae 0) (Ac Aj Af)))) (Jq Aj)) (An (Vk (S:=[5]) (TX (Jq (Ck (Eg (Ac Fe (Ac Fe (Ac Fe (Ac Fe (Ac Fe (Ac Fe (Ac Fe (Ac Fe Af))))))))))) (AN (n:=5) (AQ T) (L2N.takes_of (by rfl) (by rfl) (by rfl) (by rfl)) hr (by decide) (by rfl) (Cf (Ac (Ae 0) (Ac Aj Af))))))) Bk)
  (Ak (Dv (S:=[5]) 2 DC.nd (ie 1 (AN (n:=5) (AQ T) (L2N.takes_of (by rfl) (by rfl) (by rfl) (by rfl)) hr (by decide) (by rfl) (Cf (Ac (Ae 0) (Ac Aj Af))))))
  (Ak (Dv (S:=[5]) 3 DC.nd (AN (n:=5) (AQ T) (L2N.takes_of (by rfl) (by rfl) (by rfl) (by rfl)) hr (by decide) (by rfl) (Cf (Ac (Ae 0) (Ac Aj Af)))))
  (Ak (RN (S:=[5]) (Zi (Jm (SN hr)) (AN (n:=5) (AQ T) (L2N.takes_of (by rfl) (by rfl) (by rfl) (by rfl)) hr (by decide) (by rfl) (Cf (Ac (Ae 0) (Ac Aj Af)))) (Jq Aj)) (An (Bw 3 DC.nd Aj)) Bk)
  (Ak (CQ (passes_of (by rfl)) (by rfl) (FY (by rfl) T.n_range (Ae 3)) (Ay 4 DC.nd)
  (An (Dv (S:=[5]) 2 DC.nd (Oz (Jq (Ae 2)) (TX (Jq (CK (Ae 1) Fe)) (AN (n:=5) (AQ T) (L2N.takes_of (by rfl) (by rfl) (by rfl) (by rfl)) hr (by decide) (by rfl) (Cf (Ac (Ae 0) (Ac Aj Af)))))))))
  (An (AD (Ae 2))))))))))
theorem SU(T:Tx P w K mg base cs):ClM P w K mg base "_law_word" 2 (EJ K cs):=by
 obtain ⟨a,fd,F,hm⟩:=T.F__law_word
 exact IM (Ss T F) hm F.kp (Ba F (fun kV doc pm an cdv ct us hl=>match us,hl with | [_],_=>rfl))
theorem Ek:FnScope ["_law_box_here","_law_count","_law_names_here","_law_k","_law_word_here","#"] ["_law_box_here","_law_count"] (defScope B5):=⟨rfl,rfl,rfl,by decide +kernel,rfl,by decide +kernel,by decide +kernel⟩
theorem QB(T:Tx P w K mg base cs){a:Addr}{fd:FuncData}(F:FunD K "_law_names" "_law_names" (defArgs B5) (defBody B5) (defScope B5) [] [] a fd):FnOk P w K mg base (L2N.CX P w) 3 a fd ["_law_box_here","_law_count"] (M6 K 2 (runM 5 (GC K cs))):=
 FP F Ek rfl (by decide) (fun cdv A outer s H E hr=>
  (Ak (Sl 2 Ek.nd (Eg Af))
  (Ak (CQ (passes_of (by rfl)) (by rfl) (FY (by rfl) T.n_range (Ae 1)) (Ay 3 Ek.nd)
  (Ak (Dv (S:=[5]) 4 Ek.nd (AN (n:=5) (SU T) (L2N.takes_of (by rfl) (by rfl) (by rfl) (by rfl)) hr (by decide) (by rfl) (Cf (Ac (Ae 0) Af))))
  (Ak (Dz (E9 hK (Ae 4) (Ae 2) (hm:=by with_unfolding_all rfl)) (An (Bw 4 Ek.nd (Aq (QW T) (L2N.takes_of (by rfl) (by rfl) (by rfl) (by rfl)) hr (by decide) (by rfl) (Ac (Ae 2) Af)))) Bk)
  (An (OS 2 (Ae 4))))))
  (An (AD (Ae 2))))))
theorem QP(T:Tx P w K mg base cs):ClM P w K mg base "_law_names" 3 (EZ K cs):=by
 obtain ⟨a,fd,F,hm⟩:=T.F__law_names
 exact IM (QB T F) hm F.kp (Ba F (fun kV doc pm an cdv ct us hl=>match us,hl with | [_,_],_=>rfl))
theorem J5:FnScope ["_law_box_here","_law_spreads","#"] ["_law_box_here"] (defScope BE):=⟨rfl,rfl,rfl,by decide +kernel,rfl,by decide +kernel,by decide +kernel⟩
theorem OE(T:Tx P w K mg base cs){a:Addr}{fd:FuncData}(F:FunD K "_law_spread" "_law_spread" (defArgs BE) (defBody BE) (defScope BE) [] [] a fd):FnOk P w K mg base (L2N.CX P w) 2 a fd ["_law_box_here"] (M6 K 1 (runM 2 (FT K cs))):=
 FP F J5 rfl (by decide) (fun cdv A outer s H E hr=>
  (Ak (Bw 1 J5.nd (Ck (Eg (Ac (EV (Ac Aj (Ac Aj Af))) (Ac (EV (Ac Aj (Ac Aj Af))) (Ac (EV (Ac Aj (Ac (MU Aj Aj) Af))) (Ac (EV (Ac Aj (Ac (MU Aj Aj) Af))) (Ac (EV (Ac Aj (Ac (MU Aj Aj) Af))) (Ac (EV (Ac Aj (Ac (MU Aj Aj) Af))) (Ac (EV (Ac Aj (Ac (VW Aj Aj) Af))) Af))))))))))
  (An (Vk (S:=[2]) (TX (Jq (CK (Ae 1) (Ck (Eg (Ac (EV (Ac Aj (Ac (MU Aj (VW Aj Aj)) Af))) Af))))) (AN (n:=2) (AQ T) (L2N.takes_of (by rfl) (by rfl) (by rfl) (by rfl)) hr (by decide) (by rfl) (Cf (Ac (Ae 0) (Ac Aj Af)))))))))
theorem Pj(T:Tx P w K mg base cs):ClM P w K mg base "_law_spread" 2 (Eo K cs):=by
 obtain ⟨a,fd,F,hm⟩:=T.F__law_spread
 exact IM (OE T F) hm F.kp (Ba F (fun kV doc pm an cdv ct us hl=>match us,hl with | [_],_=>rfl))
theorem Hs:FnScope ["_law_box_here","_law_names_here","_law_spread_here","_law_turn","_law_row_here","_law_name","#"] ["_law_box_here","_law_names_here","_law_spread_here"] (defScope Dc):=⟨rfl,rfl,rfl,by decide +kernel,rfl,by decide +kernel,by decide +kernel⟩
theorem Tt(T:Tx P w K mg base cs){a:Addr}{fd:FuncData}(F:FunD K "_law_row" "_law_row" (defArgs Dc) (defBody Dc) (defScope Dc) [] [] a fd):FnOk P w K mg base (L2N.CX P w) 2 a fd ["_law_box_here","_law_names_here","_law_spread_here"] (M6 K 3 (runM 6 (Jg K cs))):=
 FP F Hs rfl (by decide) (fun cdv A outer s H E hr=>
  (Ak (Dv (S:=[6]) 3 Hs.nd (AN (n:=6) (AQ T) (L2N.takes_of (by rfl) (by rfl) (by rfl) (by rfl)) hr (by decide) (by rfl) (Cf (Ac (Ae 0) (Ac (D5 (by rfl) T.n_len (Ac (Ae 1) Af)) Af)))))
  (Ak (Dv (S:=[6]) 4 Hs.nd (VX (n:=6)))
  (Ak (CQ (passes_of (by rfl)) (by rfl) (AI (CK (Sx (Ae 1) (Ma (Ae 3)) Ls) (Sx (Ae 1) Ls (Ma (Ae 3))))) (Ay 5 Hs.nd)
  (An (RN (S:=[6]) (Zi (Jm (SN hr)) (AN (n:=6) (AQ T) (L2N.takes_of (by rfl) (by rfl) (by rfl) (by rfl)) hr (by decide) (by rfl) (Cf (Ac (Ae 0) (Ac Aj Af)))) (Jq Aj)) (An (Xf (S:=[6]) 6 hr (Oz (AN (n:=6) (AQ T) (L2N.takes_of (by rfl) (by rfl) (by rfl) (by rfl)) hr (by decide) (by rfl) (Cf (Ac (Ae 0) (Ac (AU 2 Aj) Af)))) (Jq (AU 2 Aj))) (Ae 4) (Ae 5))) Bk)))
  (Ak (Dz (E9 (Jm (SN hr)) (Zg 6 4 (by rfl) T.n_len) Aj) (An (Xf (S:=[6]) 6 hr (Oz (AN (n:=6) (AQ T) (L2N.takes_of (by rfl) (by rfl) (by rfl) (by rfl)) hr (by decide) (by rfl) (Cf (Ac (Ae 0) (Ac (AU 2 Aj) Af)))) (Jq (AU 2 Aj))) (Ae 4) (AU 1 (Ae 3)))) Bk)
  (An (AD (Ae 4))))))))
theorem Ul(T:Tx P w K mg base cs):ClM P w K mg base "_law_row" 2 (DX K cs):=by
 obtain ⟨a,fd,F,hm⟩:=T.F__law_row
 exact IM (Tt T F) hm F.kp (Ba F (fun kV doc pm an cdv ct us hl=>match us,hl with | [_,_,_],_=>rfl))
theorem CA:FnScope ["_law_script","_law_begin","_law_names_here","_law_spread_here","_law_shape","_law_rules_here","_law_k","_law_box_here","_law_rows","_law_n","_law_row_here","_law_word_here","#"] ["_law_script","_law_begin","_law_names_here","_law_spread_here","_law_shape"] (defScope B4):=⟨rfl,rfl,rfl,by decide +kernel,rfl,by decide +kernel,by decide +kernel⟩
theorem QC(T:Tx P w K mg base cs){a:Addr}{fd:FuncData}(F:FunD K "_law_rules" "_law_rules" (defArgs B4) (defBody B4) (defScope B4) [] [] a fd):FnOk P w K mg base (L2N.CX P w) 3 a fd ["_law_script","_law_begin","_law_names_here","_law_spread_here","_law_shape"] (DH K 5 (Pu 12 (GF K cs))):=
 WK F CA rfl (by decide) (fun cdv A outer s H E hr=>
  (Ak (G3 5 CA.nd)
  (Ak (CQ (passes_of (by rfl)) (by rfl) (FY (by rfl) T.n_range (D5 (by rfl) T.n_len (Ac (Ae 2) Af))) (Ay 6 CA.nd)
  (Ak (Dv (S:=[12]) 7 CA.nd (AN (n:=12) (HG T) (L2N.takes_of (by rfl) (by rfl) (by rfl) (by rfl)) hr (by decide) (by rfl) (Cf (Ac (Ae 0) (Ac (CK (Ae 1) (Ae 6)) Af)))))
  (Ak (Sl 8 CA.nd (Eg Af))
  (Ak (ib (S:=[12]) (passes_of (by rfl)) (by rfl) (ZZ (by rfl) T.n_range (Oz (Jq Aj) (AN (n:=12) (AQ T) (L2N.takes_of (by rfl) (by rfl) (by rfl) (by rfl)) hr (by decide) (by rfl) (Cf (Ac (Ae 7) (Ac (gy (Ck (Eg (Ac Aj (Ac Aj (Ac Aj Af))))) (Ae 4)) Af)))))) (Ay 9 CA.nd)
  (Ak (Dv (S:=[12]) 10 CA.nd (AN (n:=12) (Ul T) (L2N.takes_of (by rfl) (by rfl) (by rfl) (by rfl)) hr (by decide) (by rfl) (Cf (Ac (Ae 7) (Ac (Ae 2) (Ac (Ae 3) Af))))))
  (Ak (CQ (passes_of (by rfl)) (by rfl) (AI (Sx (Ck (Xz 12 10 (by rfl) (by rfl) T.n_list)) (Ma (gy (Ck (Eg (Ac Aj (Ac Aj (Ac Aj Af))))) (Ae 4))) Ls)) (Ay 11 CA.nd)
  (An (dN 12 10 (Ae 11) ⟨rfl,rfl,rfl,rfl⟩)))
  (An (XH (S:=[12]) 8 (eE 12 (Ae 10)))))))
  (An (Gn hr 5 (Ae 8) (AU 2 (Ae 6))))))))
  (An (AD (Ae 5))))))
theorem QK(T:Tx P w K mg base cs):ClR P w K mg base "_law_rules" 3 (CY K cs):=by
 obtain ⟨a,fd,F,hm⟩:=T.F__law_rules
 exact Ca (QC T F) hm F.kp (Ba F (fun kV doc pm an cdv ct us hl=>match us,hl with | [_,_,_,_,_],_=>rfl))
theorem ES:FnScope ["_law_rules_here","_law_found","_law_name","_law_row_here"] ["_law_rules_here"] (defScope Cb):=⟨rfl,rfl,rfl,by decide +kernel,rfl,by decide +kernel,by decide +kernel⟩
theorem Si(T:Tx P w K mg base cs){a:Addr}{fd:FuncData}(F:FunD K "_law_copy" "_law_copy" (defArgs Cb) (defBody Cb) (defScope Cb) [] [] a fd):FnOk P w K mg base (L2N.CX P w) 1 a fd ["_law_rules_here"] (DH K 1 (Ax 4 (HB K cs))):=
 AF F ES (fun cdv A outer s H E hr=>
  (Ak (G3 1 ES.nd)
  (Ak (Lc 0 (passes_of (by rfl)) (by rfl) (Ay 2 ES.nd)
  (An (Gn hr 1 (Ck (Ig [("_law_row_here",3)] (by rfl) ES.nd (AI (Cd hr (Ae 0) (Ae 2))) (fun s2 H2 C2 cl2 fp2=>(Ay 3 ES.nd)) (fun s2 H2 C2 cl2 fp2=>DG) (fun s2 H2 C2 cl2 fp2=>(aQ (by rfl) T.n_dict (Ac (Ae 3) Af))) (ok:=by exact blkOk_by (N:=["_law_rules_here","_law_found","_law_name","_law_row_here"]) (sc:=defScope Cb) (by decide +kernel)))) (Ae 2))))
  (An (AD (Ae 1))))))
theorem IZ(T:Tx P w K mg base cs):ClR P w K mg base "_law_copy" 1 (Ct K cs):=by
 obtain ⟨a,fd,F,hm⟩:=T.F__law_copy
 exact Ca (Si T F) hm F.kp (Az F (fun kV doc pm an cdv ct us hl=>match us,hl with | [_],_=>rfl))
theorem C6:FnScope ["_law_rules_here","_law_point","_law_found","_law_name","_law_row_here","_law_word_here"] ["_law_rules_here","_law_point"] (defScope BP):=⟨rfl,rfl,rfl,by decide +kernel,rfl,by decide +kernel,by decide +kernel⟩
theorem Q0(T:Tx P w K mg base cs){a:Addr}{fd:FuncData}(F:FunD K "_law_value" "_law_value" (defArgs BP) (defBody BP) (defScope BP) [] [] a fd):FnOk P w K mg base (L2N.CX P w) 1 a fd ["_law_rules_here","_law_point"] (DH K 2 (Ax 6 (GD K cs))):=
 AF F C6 (fun cdv A outer s H E hr=>
  (Ak (G3 2 C6.nd)
  (Ak (Lc 0 (passes_of (by rfl)) (by rfl) (Ay 3 C6.nd)
  (An (Gn hr 2 (Wx (by rfl) (by rfl) T.n_min (Ac (Ck (Ig [("_law_row_here",4)] (by rfl) C6.nd (AI (Cd hr (Ae 0) (Ae 3))) (fun s2 H2 C2 cl2 fp2=>(Ay 4 C6.nd)) (fun s2 H2 C2 cl2 fp2=>DG) (fun s2 H2 C2 cl2 fp2=>(Wv (by rfl) (by rfl) T.n_max (Ac (Ck (aR 4 [("_law_word_here",5)] (by rfl) C6.nd (fun s2 H2 C2 cl2 fp2=>(Ay 5 C6.nd)) (fun s2 H2 C2 cl2 fp2=>DG) (fun s2 H2 C2 cl2 fp2=>(CK (Cd hr (Ae 1) (Ae 5)) (Cd hr (Ae 4) (Ae 5)))) (ok:=by exact Je ["_law_rules_here","_law_point","_law_found","_law_name","_law_row_here","_law_word_here"] rfl (by decide +kernel)))) Af))) (ok:=by exact blkOk_by (N:=["_law_rules_here","_law_point","_law_found","_law_name","_law_row_here","_law_word_here"]) (sc:=defScope BP) (by decide +kernel)))) Af)) (Ae 3))))
  (An (AD (Ae 2))))))
theorem El(T:Tx P w K mg base cs):ClR P w K mg base "_law_value" 1 (AG K cs):=by
 obtain ⟨a,fd,F,hm⟩:=T.F__law_value
 exact Ca (Q0 T F) hm F.kp (Az F (fun kV doc pm an cdv ct us hl=>match us,hl with | [_,_],_=>rfl))
theorem EN:FnScope ["form","point","row","name","number"] ["form","point"] (defScope CL):=⟨rfl,rfl,rfl,by decide +kernel,rfl,by decide +kernel,by decide +kernel⟩
theorem UA(T:Tx P w K mg base cs){a:Addr}{fd:FuncData}(F:FunD K "value_of" "value_of" (defArgs CL) (defBody CL) (defScope CL) [] [] a fd):FnOk P w K mg base (L2N.CX P w) 1 a fd ["form","point"] (DH K 2 (Ax 5 (IS K cs))):=
 AF F EN (fun cdv A outer s H E hr=>
  (An (AD (Wx (by rfl) (by rfl) T.n_min (Ac (Ck (Ig [("row",2)] (by rfl) EN.nd (AI (Ae 0)) (fun s2 H2 C2 cl2 fp2=>(Ay 2 EN.nd)) (fun s2 H2 C2 cl2 fp2=>DG) (fun s2 H2 C2 cl2 fp2=>(Wv (by rfl) (by rfl) T.n_max (Ac (Ck (Ig [("name",3),("number",4)] (by rfl) EN.nd (AI (Ae 2)) (fun s2 H2 C2 cl2 fp2=>(O4 (by rfl) (DJ (Ay 3 EN.nd) (DJ (Ay 4 EN.nd) K8)) (BV (BV Hh)))) (fun s2 H2 C2 cl2 fp2=>DG) (fun s2 H2 C2 cl2 fp2=>(CK (Cd hr (Ae 1) (Ae 3)) (Ae 4))) (ok:=by exact Je ["form","point","row","name","number"] rfl (by decide +kernel)))) Af))) (ok:=by exact blkOk_by (N:=["form","point","row","name","number"]) (sc:=defScope CL) (by decide +kernel)))) Af)))))
theorem U4(T:Tx P w K mg base cs):ClR P w K mg base "value_of" 1 (Fx K cs):=by
 obtain ⟨a,fd,F,hm⟩:=T.F_value_of
 exact Ca (UA T F) hm F.kp (Az F (fun kV doc pm an cdv ct us hl=>match us,hl with | [_,_],_=>rfl))
theorem Ez:FnScope ["self","point","name"] ["self","point"] (defScope Be):=⟨rfl,rfl,rfl,by decide +kernel,rfl,by decide +kernel,by decide +kernel⟩
theorem NV(T:Tx P w K mg base cs){a:Addr}{fd:FuncData}(F:FunD K "__call__" "Map.__call__" (defArgs Be) (defBody Be) (defScope Be) [] [] a fd):FnOk P w K mg base (L2N.CX P w) 2 a fd ["self","point"] (DH K 2 (Ax 3 (EX K cs))):=
 AF F Ez (fun cdv A outer s H E hr=>
  (Ak (CQ (passes_of (by rfl)) (by rfl) (AI (JJ (Iv T) (L2N.takes_of (by rfl) (by rfl) (by rfl) (by rfl)) hr (by decide) (Ae 0))) (Ay 2 Ez.nd)
  (An (Dz (FA hr (Ae 2) (Ae 1)) (An Mw) Bk)))
  (An (AD (kU [("name",2)] (by rfl) Ez.nd (AI (JJ (Iv T) (L2N.takes_of (by rfl) (by rfl) (by rfl) (by rfl)) hr (by decide) (Ae 0))) (fun s2 H2 C2 cl2 fp2=>(Ay 2 Ez.nd)) (fun s2 H2 C2 cl2 fp2=>DG) (fun s2 H2 C2 cl2 fp2=>(Ae 2)) (fun s2 H2 C2 cl2 fp2=>(Aq (U4 T) FD.takes0 hr (by decide) (by rfl) (Ac (Cd hr (HX (CH T) (Ae 0)) (Ae 2)) (Ac (Ae 1) Af)))) (ok:=by exact blkOk_by (N:=["self","point","name"]) (sc:=defScope Be) (by decide +kernel)))))))
theorem N2(T:Tx P w K mg base cs):∃ a,Meth K cs.c_Map "__call__" a∧FnR P w K mg base (L2N.CX P w) 2 a (Np K (CG K cs)):=by
 obtain ⟨a,fd,F,hm⟩:=T.F_Map___call__
 exact ⟨a,hm,K7 (NV T F) (Ba F (fun kV doc pm an cdv ct us hl=>match us,hl with | [_,_],_=>rfl))⟩
theorem bS{X:Cx}{cs:Cs}(T:Tx X.prog X.w X.K X.mg X.base cs):CaC X.prog X.w X.K X.mg X.base 2 cs.c_Map (CG X.K cs):=by
 obtain ⟨a,hm,F⟩:=N2 T
 obtain ⟨a2,fd,h,hm2⟩:=T.F_Map___call__
 have e:=hm.at_.symm.trans hm2.at_
 cases e
 obtain ⟨oc,od,dV,kV,doc,pm,an,cdv,ct,osl,e1,e2,_⟩:=h.ex
 exact ⟨a,⟨hm.at_,hm.fn,by unfold PySem.W.fnIn; rw [e2]⟩,F⟩
theorem cao{X:Cx}{cs:Cs}(T:Tx X.prog X.w X.K X.mg X.base cs):∀ q∈EM X.K cs,CaC X.prog X.w X.K X.mg X.base 2 q.1 q.2:=fun q hq=>by
 obtain rfl:=List.mem_singleton.mp hq
 exact bS T
theorem NY:FnScope ["_law_told"] ["_law_told"] (defScope Bq):=⟨rfl,rfl,rfl,by decide +kernel,rfl,by decide +kernel,by decide +kernel⟩
theorem N3(T:Tx P w K mg base cs){a:Addr}{fd:FuncData}(F:FunD K "_law_integer" "_law_integer" (defArgs Bq) (defBody Bq) (defScope Bq) [] [] a fd):FnOk P w K mg base (L2N.CX P w) 1 a fd ["_law_told"] (DH K 1 (Ax 1 (E8 K cs))):=
 AF F NY (fun cdv A outer s H E hr=>
  (An (AD (Gm (Js (by rfl) T.n_isinstance (Ac (Ae 0) (Ac (GI (by rfl) T.n_int ZM) Af))) (Lf (SR (Js (by rfl) T.n_isinstance (Ac (Ae 0) (Ac (GI (by rfl) T.n_bool eQ) Af)))))))))
theorem Jp(T:Tx P w K mg base cs):ClR P w K mg base "_law_integer" 1 (Bp K cs):=by
 obtain ⟨a,fd,F,hm⟩:=T.F__law_integer
 exact Ca (N3 T F) hm F.kp (Az F (fun kV doc pm an cdv ct us hl=>match us,hl with | [_],_=>rfl))
theorem En:FnScope ["_law_told","_law_point","_law_due","_law_kept","_law_value_here","_law_name"] ["_law_told","_law_point","_law_due"] (defScope BJ):=⟨rfl,rfl,rfl,by decide +kernel,rfl,by decide +kernel,by decide +kernel⟩
theorem Q2(T:Tx P w K mg base cs){a:Addr}{fd:FuncData}(F:FunD K "_law_gives" "_law_gives" (defArgs BJ) (defBody BJ) (defScope BJ) [] [] a fd):FnOk P w K mg base (L2N.CX P w) 3 a fd ["_law_told","_law_point","_law_due"] (DH K 3 (Ax 6 (GG K cs))):=
 AF F En (fun cdv A outer s H E hr=>
  (Ak (Bw 3 En.nd (Ck (Qb (by rfl) (Ae 1) (by rfl) T.n_list)))
  (Ak (Bw 4 En.nd (iX (cao T) (L2N.takes_of (by rfl) (by rfl) (by rfl) (by rfl)) hr (by decide) (Ae 0) (Ac (Ae 1) Af)))
  (Ak (Dz (Wg (D0 (Cg (Hk (Js (by rfl) T.n_isinstance (Ac (Ae 4) (Ac (GI (by rfl) T.n_dict d9) Af))))) (D0 (E9 (Rp (SN hr)) (Ck (GZ (by rfl) (by rfl) T.n_list (Ac (Ae 4) Af))) (Ck (F5 hr (by rfl) T.n_sorted (Ac (Ck (GZ (by rfl) (by rfl) T.n_list (Ac (Ae 2) Af))) Af)))) (D7 (E9 (Rp (SN hr)) (Ck (Qb (by rfl) (Ae 1) (by rfl) T.n_list)) (Ae 3)))))) (An (AD DL)) Bk)
  (An (AD (jq (by rfl) (by rfl) T.n_all (Ac (Ck (aR 2 [("_law_name",5)] (by rfl) En.nd (fun s2 H2 C2 cl2 fp2=>(Ay 5 En.nd)) (fun s2 H2 C2 cl2 fp2=>DG) (fun s2 H2 C2 cl2 fp2=>(Gm (Aq (Jp T) FD.takes0 hr (by decide) (by rfl) (Ac (Cd hr (Ae 4) (Ae 5)) Af)) (Lf (jy (Jm (SN hr)) (Cd hr (Ae 4) (Ae 5)) (Cd hr (Ae 2) (Ae 5)))))) (ok:=by exact blkOk_by (N:=["_law_told","_law_point","_law_due","_law_kept","_law_value_here","_law_name"]) (sc:=defScope BJ) (by decide +kernel)))) Af))))))))
theorem FQ(T:Tx P w K mg base cs):ClR P w K mg base "_law_gives" 3 (BN K cs):=by
 obtain ⟨a,fd,F,hm⟩:=T.F__law_gives
 exact Ca (Q2 T F) hm F.kp (Az F (fun kV doc pm an cdv ct us hl=>match us,hl with | [_,_,_],_=>rfl))
theorem Eh:FnScope ["_law_box_here","_law_names_here","_law_point","_law_name","#"] ["_law_box_here","_law_names_here"] (defScope AR):=⟨rfl,rfl,rfl,by decide +kernel,rfl,by decide +kernel,by decide +kernel⟩
theorem KZ(T:Tx P w K mg base cs){a:Addr}{fd:FuncData}(F:FunD K "_law_drawn_point" "_law_drawn_point" (defArgs AR) (defBody AR) (defScope AR) [] [] a fd):FnOk P w K mg base (L2N.CX P w) 2 a fd ["_law_box_here","_law_names_here"] (M6 K 2 (runM 4 (DI K cs))):=
 FP F Eh rfl (by decide) (fun cdv A outer s H E hr=>
  (Ak (G3 2 Eh.nd)
  (Ak (CQ (passes_of (by rfl)) (by rfl) (AI (Ck (ji (Ae 1)))) (Ay 3 Eh.nd)
  (An (dF (S:=[4]) hr 2 (iW (AN (n:=4) (AQ T) (L2N.takes_of (by rfl) (by rfl) (by rfl) (by rfl)) hr (by decide) (by rfl) (Cf (Ac (Ae 0) (Ac Aj Af)))) (Jq Aj)) (Ae 3))))
  (An (AD (Ae 2))))))
theorem Ee(T:Tx P w K mg base cs):ClM P w K mg base "_law_drawn_point" 2 (A5 K cs):=by
 obtain ⟨a,fd,F,hm⟩:=T.F__law_drawn_point
 exact IM (KZ T F) hm F.kp (Ba F (fun kV doc pm an cdv ct us hl=>match us,hl with | [_,_],_=>rfl))
theorem TZ:FnScope ["self","name"] ["self","name"] (defScope C9):=⟨rfl,rfl,rfl,by decide +kernel,rfl,by decide +kernel,by decide +kernel⟩
theorem T4(T:Tx P w K mg base cs){a:Addr}{fd:FuncData}(F:FunD K "form" "Map.form" (defArgs C9) (defBody C9) (defScope C9) [] [] a fd):FnOk P w K mg base (L2N.CX P w) 1 a fd ["self","name"] (DH K 2 (Ax 2 (Jf K cs))):=
 AF F TZ (fun cdv A outer s H E hr=>
  (Ak (Dz (FA hr (Ae 1) (HX (CH T) (Ae 0))) (An Mw) Bk)
  (An (AD (Cd hr (HX (CH T) (Ae 0)) (Ae 1))))))
theorem TK(T:Tx P w K mg base cs):∃ a,Meth K cs.c_Map "form" a∧FnR P w K mg base (L2N.CX P w) 1 a (Np K (Fv K cs)):=by
 obtain ⟨a,fd,F,hm⟩:=T.F_Map_form
 exact ⟨a,hm,K7 (T4 T F) (Ba F (fun kV doc pm an cdv ct us hl=>match us,hl with | [_,_],_=>rfl))⟩
theorem U8{X:Cx}{cs:Cs}(T:Tx X.prog X.w X.K X.mg X.base cs):MeC X.prog X.w X.K X.mg X.base 1 cs.c_Map "form" (Fv X.K cs):=⟨T.cl_Map,TK T⟩
theorem ZC{X:Cx}{cs:Cs}(T:Tx X.prog X.w X.K X.mg X.base cs):∀ q∈Lw X.K cs,MeC X.prog X.w X.K X.mg X.base 1 q.1 "form" q.2:=fun q hq=>by
 obtain rfl:=List.mem_singleton.mp hq
 exact U8 T
theorem O8:FnScope ["self"] ["self"] (defScope BF):=⟨rfl,rfl,rfl,by decide +kernel,rfl,by decide +kernel,by decide +kernel⟩
theorem Qy(T:Tx P w K mg base cs){a:Addr}{fd:FuncData}(F:FunD K "__len__" "Map.__len__" (defArgs BF) (defBody BF) (defScope BF) [] [] a fd):FnOk P w K mg base (L2N.CX P w) 1 a fd ["self"] (DH K 1 (Ax 1 (FR K cs))):=
 AF F O8 (fun cdv A outer s H E hr=>
  (An (AD (Sv (by rfl) T.n_len (Ac (HX (CH T) (Ae 0)) Af)))))
theorem Pd(T:Tx P w K mg base cs):∃ a,Meth K cs.c_Map "__len__" a∧FnR P w K mg base (L2N.CX P w) 1 a (Np K (DQ K cs)):=by
 obtain ⟨a,fd,F,hm⟩:=T.F_Map___len__
 exact ⟨a,hm,K7 (Qy T F) (Ba F (fun kV doc pm an cdv ct us hl=>match us,hl with | [_],_=>rfl))⟩
theorem Qs{X:Cx}{cs:Cs}(T:Tx X.prog X.w X.K X.mg X.base cs):MeC X.prog X.w X.K X.mg X.base 1 cs.c_Map "__len__" (DQ X.K cs):=⟨T.cl_Map,Pd T⟩
theorem TY{X:Cx}{cs:Cs}(T:Tx X.prog X.w X.K X.mg X.base cs):∀ q∈Fq X.K cs,MeC X.prog X.w X.K X.mg X.base 1 q.1 "__len__" q.2:=fun q hq=>by
 obtain rfl:=List.mem_singleton.mp hq
 exact Qs T
theorem K4:FnScope ["_law_low","_law_high","_law_name"] ["_law_low","_law_high"] (defScope B6):=⟨rfl,rfl,rfl,by decide +kernel,rfl,by decide +kernel,by decide +kernel⟩
theorem Q7(T:Tx P w K mg base cs){a:Addr}{fd:FuncData}(F:FunD K "_law_below" "_law_below" (defArgs B6) (defBody B6) (defScope B6) [] [] a fd):FnOk P w K mg base (L2N.CX P w) 1 a fd ["_law_low","_law_high"] (DH K 2 (Ax 3 (GH K cs))):=
 AF F K4 (fun cdv A outer s H E hr=>
  (Ak (Lc 0 (passes_of (by rfl)) (by rfl) (Ay 2 K4.nd)
  (An (Dz (Wg (D0 (FA hr (Ae 2) (Ae 1)) (D7 (E9 NN (Cd hr (Ae 0) (Ae 2)) (Cd hr (Ae 1) (Ae 2)))))) (An (AD DL)) Bk)))
  (An (AD DL))))
theorem K6(T:Tx P w K mg base cs):ClR P w K mg base "_law_below" 1 (Bh K cs):=by
 obtain ⟨a,fd,F,hm⟩:=T.F__law_below
 exact Ca (Q7 T F) hm F.kp (Az F (fun kV doc pm an cdv ct us hl=>match us,hl with | [_,_],_=>rfl))
theorem S0:FnScope ["_law_row_here"] ["_law_row_here"] (defScope Cn):=⟨rfl,rfl,rfl,by decide +kernel,rfl,by decide +kernel,by decide +kernel⟩
theorem Sy(T:Tx P w K mg base cs){a:Addr}{fd:FuncData}(F:FunD K "_law_flat" "_law_flat" (defArgs Cn) (defBody Cn) (defScope Cn) [] [] a fd):FnOk P w K mg base (L2N.CX P w) 1 a fd ["_law_row_here"] (DH K 1 (Ax 1 (HA K cs))):=
 AF F S0 (fun cdv A outer s H E hr=>
  (An (AD (PQ (by rfl) T.n_tuple (Ac (Ck (F5 hr (by rfl) T.n_sorted (Ac (Ck (Qb (by rfl) (Ae 0) (by rfl) T.n_list)) Af))) Af)))))
theorem Sn(T:Tx P w K mg base cs):ClR P w K mg base "_law_flat" 1 (F6 K cs):=by
 obtain ⟨a,fd,F,hm⟩:=T.F__law_flat
 exact Ca (Sy T F) hm F.kp (Az F (fun kV doc pm an cdv ct us hl=>match us,hl with | [_],_=>rfl))
theorem DF:FnScope ["_law_told","_law_rows","_law_row_here","_law_found","_law_last","_law_pair"] ["_law_told"] (defScope Cz):=⟨rfl,rfl,rfl,by decide +kernel,rfl,by decide +kernel,by decide +kernel⟩
theorem Te(T:Tx P w K mg base cs){a:Addr}{fd:FuncData}(F:FunD K "_law_form" "_law_form" (defArgs Cz) (defBody Cz) (defScope Cz) [] [] a fd):FnOk P w K mg base (L2N.CX P w) 2 a fd ["_law_told"] (DH K 1 (Ax 6 (HC K cs))):=
 AF F DF (fun cdv A outer s H E hr=>
  (Ak (Dz (Wg (D0 (Cg (Hk (Js (by rfl) T.n_isinstance (Ac (Ae 0) (Ac (GI (by rfl) T.n_tuple Mj) Af))))) (D7 (E9 (Jm (SN hr)) (D5 (by rfl) T.n_len (Ac (Ae 0) Af)) Aj)))) (An (AD Qi)) Bk)
  (Ak (Sl 1 DF.nd (Eg Af))
  (Ak (CQ (passes_of (by rfl)) (by rfl) (AI (Ae 0)) (Ay 2 DF.nd)
  (Ak (Dz (Wg (D0 (Cg (Hk (Js (by rfl) T.n_isinstance (Ac (Ae 2) (Ac (GI (by rfl) T.n_tuple Mj) Af))))) (D7 (E9 (Jm (SN hr)) (D5 (by rfl) T.n_len (Ac (Ae 2) Af)) Aj)))) (An (AD Qi)) Bk)
  (Ak (G3 3 DF.nd)
  (Ak (Bw 4 DF.nd Fe)
  (Ak (CQ (passes_of (by rfl)) (by rfl) (AI (Ae 2)) (Ay 5 DF.nd)
  (Ak (Dz (Wg (D0 (Cg (Hk (Js (by rfl) T.n_isinstance (Ac (Ae 5) (Ac (GI (by rfl) T.n_tuple Mj) Af))))) (D7 (E9 (Rp (SN hr)) (D5 (by rfl) T.n_len (Ac (Ae 5) Af)) Aj)))) (An (AD Qi)) Bk)
  (Ak (Dz (Wg (D0 (Cg (Hk (Js (by rfl) T.n_isinstance (Ac (AU 5 Aj) (Ac (GI (by rfl) T.n_str au) Af))))) (D0 (Cg (Hk (Aq (Jp T) (L2N.takes_of (by rfl) (by rfl) (by rfl) (by rfl)) hr (by decide) (by rfl) (Ac (AU 5 Aj) Af)))) (D7 (E9 (bu hr) (AU 5 Aj) (Ae 4)))))) (An (AD Qi)) Bk)
  (Ak (Bw 4 DF.nd (AU 5 Aj))
  (An (Gn hr 3 (AU 5 Aj) (Ae 4)))))))
  (An (OS 1 (Ae 3))))))))
  (An (AD (Ae 1)))))))
theorem Sq(T:Tx P w K mg base cs):ClR P w K mg base "_law_form" 2 (HK K cs):=by
 obtain ⟨a,fd,F,hm⟩:=T.F__law_form
 exact Ca (Te T F) hm F.kp (Az F (fun kV doc pm an cdv ct us hl=>match us,hl with | [_],_=>rfl))
theorem BL:FnScope ["_law_told","_law_rows","_law_lows","_law_flats","_law_row_here","_law_k","_law_n","_law_low"] ["_law_told","_law_rows"] (defScope Bg):=⟨rfl,rfl,rfl,by decide +kernel,rfl,by decide +kernel,by decide +kernel⟩
theorem Py(T:Tx P w K mg base cs){a:Addr}{fd:FuncData}(F:FunD K "_law_normal" "_law_normal" (defArgs Bg) (defBody Bg) (defScope Bg) [] [] a fd):FnOk P w K mg base (L2N.CX P w) 3 a fd ["_law_told","_law_rows"] (DH K 2 (Ax 8 (FW K cs))):=
 AF F BL (fun cdv A outer s H E hr=>
  (Ak (Bw 2 BL.nd (Aq (Sq T) (L2N.takes_of (by rfl) (by rfl) (by rfl) (by rfl)) hr (by decide) (by rfl) (Ac (Ae 0) Af)))
  (Ak (Dz (E9 iH (Ae 2) Qi) (An (AD DL)) Bk)
  (Ak (SV 3 [("_law_row_here",4)] (by rfl) BL.nd (AI (Ae 1)) (fun s2 H2 C2 cl2 fp2=>(Ay 4 BL.nd)) (fun s2 H2 C2 cl2 fp2=>DG) (fun s2 H2 C2 cl2 fp2=>(Aq (Sn T) FD.takes0 hr (by decide) (by rfl) (Ac (Ae 4) Af))) (ok:=by exact blkOk_by (N:=["_law_told","_law_rows","_law_lows","_law_flats","_law_row_here","_law_k","_law_n","_law_low"]) (sc:=defScope Bg) (by decide +kernel)))
  (Ak (CQ (passes_of (by rfl)) (by rfl) (FY (by rfl) T.n_range (D5 (by rfl) T.n_len (Ac (Ae 0) Af))) (Ay 5 BL.nd)
  (Ak (Dz (Wg (D0 (E9 (YX hr) (AU 0 (Ae 5)) (Ae 3) (hm:=by with_unfolding_all rfl)) (D7 (Wg (Ww (E9 NN (Ae 5) Aj) (U2 (Cg (E9 (bu hr) (AU 0 (MU (Ae 5) Aj)) (AU 0 (Ae 5)))))))))) (An (AD DL)) Bk)
  (An (CQ (passes_of (by rfl)) (by rfl) (FY (by rfl) T.n_range (D5 (by rfl) T.n_len (Ac (Ae 2) Af))) (Ay 6 BL.nd)
  (An (Dz (Wg (Ww (E9 (Rp (SN hr)) (Ae 6) (Ae 5)) (U2 (Hk (Aq (K6 T) (L2N.takes_of (by rfl) (by rfl) (by rfl) (by rfl)) hr (by decide) (by rfl) (Ac (AU 2 (Ae 6)) (Ac (AU 2 (Ae 5)) Af))))))) (An (AD DL)) Bk))))))
  (Ak (CQ (passes_of (by rfl)) (by rfl) (AI (Ae 1)) (Ay 4 BL.nd)
  (An (Dz (Cg (Hk (ia (by rfl) (by rfl) T.n_any (Ac (Ck (Ig [("_law_low",7)] (by rfl) BL.nd (AI (Ae 2)) (fun s2 H2 C2 cl2 fp2=>(Ay 7 BL.nd)) (fun s2 H2 C2 cl2 fp2=>DG) (fun s2 H2 C2 cl2 fp2=>(Aq (K6 T) FD.takes0 hr (by decide) (by rfl) (Ac (Ae 7) (Ac (Ae 4) Af)))) (ok:=by exact blkOk_by (N:=["_law_told","_law_rows","_law_lows","_law_flats","_law_row_here","_law_k","_law_n","_law_low"]) (sc:=defScope Bg) (by decide +kernel)))) Af)))) (An (AD DL)) Bk)))
  (An (AD DL))))))))
theorem Pw(T:Tx P w K mg base cs):ClR P w K mg base "_law_normal" 3 (Dd K cs):=by
 obtain ⟨a,fd,F,hm⟩:=T.F__law_normal
 exact Ca (Py T F) hm F.kp (Az F (fun kV doc pm an cdv ct us hl=>match us,hl with | [_,_],_=>rfl))
theorem FO:FnScope ["_law_told","_law_rules_here","_law_names_here","_law_shown","_law_name"] ["_law_told","_law_rules_here"] (defScope BX):=⟨rfl,rfl,rfl,by decide +kernel,rfl,by decide +kernel,by decide +kernel⟩
theorem QJ(T:Tx P w K mg base cs){a:Addr}{fd:FuncData}(F:FunD K "_law_right" "_law_right" (defArgs BX) (defBody BX) (defScope BX) [] [] a fd):FnOk P w K mg base (L2N.CX P w) 4 a fd ["_law_told","_law_rules_here"] (DH K 2 (Ax 5 (Gy K cs))):=
 AF F FO (fun cdv A outer s H E hr=>
  (Ak (Bw 2 FO.nd (Oj (by rfl) T.n_tuple (Ac (Ck (F5 hr (by rfl) T.n_sorted (Ac (Ck (GZ (by rfl) (by rfl) T.n_list (Ac (Ae 1) Af))) Af))) Af)))
  (Ak (Bw 3 FO.nd (JJ (Iv T) (L2N.takes_of (by rfl) (by rfl) (by rfl) (by rfl)) hr (by decide) (Ae 0)))
  (Ak (Dz (Wg (D0 (Cg (Hk (Js (by rfl) T.n_isinstance (Ac (Ae 3) (Ac (GI (by rfl) T.n_tuple Mj) Af))))) (D0 (E9 (Rp (SN hr)) (Ae 3) (Ae 2)) (D7 (E9 (Rp (SN hr)) (eD (TY T) hr (by decide) (by rfl) T.n_len (Ac (Ae 0) Af)) (D5 (by rfl) T.n_len (Ac (Ae 2) Af))))))) (An (AD DL)) Bk)
  (Ak (CQ (passes_of (by rfl)) (by rfl) (AI (Ae 2)) (Ay 4 FO.nd)
  (An (Dz (Wg (D0 (V7 (Fs T) hr (by decide) (Ae 4) (Ae 0) true rfl (by with_unfolding_all rfl)) (D7 (Cg (Hk (Aq (Pw T) (L2N.takes_of (by rfl) (by rfl) (by rfl) (by rfl)) hr (by decide) (by rfl) (Ac (cx (ZC T) (L2N.takes_of (by rfl) (by rfl) (by rfl) (by rfl)) hr (by decide) (Ae 0) (Ac (Ae 4) Af)) (Ac (Cd hr (Ae 1) (Ae 4)) Af)))))))) (An (AD DL)) Bk)))
  (An (AD DL)))))))
theorem C7(T:Tx P w K mg base cs):ClR P w K mg base "_law_right" 4 (A4 K cs):=by
 obtain ⟨a,fd,F,hm⟩:=T.F__law_right
 exact Ca (QJ T F) hm F.kp (Az F (fun kV doc pm an cdv ct us hl=>match us,hl with | [_,_],_=>rfl))
theorem HV:FnScope ["names","forms","name"] ["names"] (defScope BZ):=⟨rfl,rfl,rfl,by decide +kernel,rfl,by decide +kernel,by decide +kernel⟩
theorem QG(T:Tx P w K mg base cs){a:Addr}{fd:FuncData}(F:FunD K "same_point" "same_point" (defArgs BZ) (defBody BZ) (defScope BZ) [] [] a fd):FnOk P w K mg base (L2N.CX P w) 1 a fd ["names"] (DH K 1 (Ax 3 (Gu K cs))):=
 AF F HV (fun cdv A outer s H E hr=>
  (Ak (G3 1 HV.nd)
  (Ak (CQ (passes_of (by rfl)) (by rfl) (AI (Ae 0)) (Ay 2 HV.nd)
  (An (Gn hr 1 (EV (Ac (aE (Ac (EV (Ac (Ae 2) (Ac Aj Af))) Af)) Af)) (Ae 2))))
  (An (AD (Ae 1))))))
theorem QD(T:Tx P w K mg base cs):ClR P w K mg base "same_point" 1 (Fg K cs):=by
 obtain ⟨a,fd,F,hm⟩:=T.F_same_point
 exact Ca (QG T F) hm F.kp (Az F (fun kV doc pm an cdv ct us hl=>match us,hl with | [_],_=>rfl))
theorem U3:FnScope ["names"] ["names"] (defScope EF):=⟨rfl,rfl,rfl,by decide +kernel,rfl,by decide +kernel,by decide +kernel⟩
theorem UO(T:Tx P w K mg base cs):∃ a,(∃ mc p,ClX.CRead K cs.c_Map mc∧SMet K cs.c_Map mc "unit" p a)∧FnR P w K mg base (L2N.CX P w) 9 a (Np K (A9 K cs)):=by
 obtain ⟨a,fd,F,hm⟩:=T.F_Map_unit
 exact ⟨a,hm,bo (ps:=[]) F U3 (fun kV doc pm an cdv ct us rest hl=>match us,hl,rest with | [],_,[]=>rfl | [],_,_ :: _=>rfl) (fun cdv A outer s H E hr=>
  (An (AD (Aq (Rz T) (L2N.takes_of (by rfl) (by rfl) (by rfl) (by rfl)) hr (by decide) (by rfl) (Ac (Aq (QD T) (L2N.takes_of (by rfl) (by rfl) (by rfl) (by rfl)) hr (by decide) (by rfl) (Ac (Ae 0) Af)) Af)))))⟩
theorem Gq{X:Cx}{cs:Cs}(T:Tx X.prog X.w X.K X.mg X.base cs):SmC X.prog X.w X.K X.mg X.base 9 cs.c_Map "unit" (A9 X.K cs):=by
 obtain ⟨a,⟨mc,p,hr,hc⟩,F⟩:=UO T
 exact ⟨mc,p,a,hr,hc,F⟩
theorem Gb:FnScope ["e","_law_fine"] [] (defScope Bm):=⟨rfl,rfl,rfl,by decide +kernel,rfl,by decide +kernel,by decide +kernel⟩
theorem NX(T:Tx P w K mg base cs){a:Addr}{fd:FuncData}(F:FunD K "_law_no_unit" "_law_no_unit" (defArgs Bm) (defBody Bm) (defScope Bm) [] [] a fd):FnOk P w K mg base (L2N.CX P w) 10 a fd [] (DH K 0 (Ax 2 (EY K cs))):=
 AF F Gb (fun cdv A outer s H E hr=>
  (Ak (bf 0 cs.all (by rfl) (by rfl) Gb.nd ⟨by rfl,by decide,.inl T.Cy⟩ (fun W3 pn3 xe3 tk3 hp3=>(An (Qm (XZ (Gq T) tk3 hr (by decide) (Fc (v:=.ref cs.c_Map) (d:=.cls cs.c_Map) (by rfl) ⟨_,T.g_Map,rfl⟩ (fun _ _ _=>rfl))))))
  (fun a oe C d pn hD hz hf=>(Ak (Bw 1 Gb.nd (Gm (Nl hz hf (T.xc C hD) (by rfl) T.n_isinstance (Ac (Ae 0) (Ac (Fc (v:=.ref cs.c_Refused) (d:=.cls cs.c_Refused) (by rfl) ⟨_,T.g_Refused,rfl⟩ (fun _ _ _=>rfl)) Af))) (Gm (Nl hz hf (T.xc C hD) (by rfl) T.n_isinstance (Ac (Ae 0) (Ac (Fc (v:=.ref cs.c_HouseError) (d:=.cls cs.c_HouseError) (by rfl) ⟨_,T.g_HouseError,rfl⟩ (fun _ _ _=>rfl)) Af))) (Lf (Nl hz hf (T.xc C hD) (by rfl) T.n_isinstance (Ac (Ae 0) (Ac (GI (by rfl) T.n_ValueError QH) Af)))))))
  (An (AD (Gm (Ae 1) (Gm (SR (Nl hz hf (T.xc C hD) (by rfl) T.n_isinstance (Ac (Ae 0) (Ac (Fc (v:=.ref cs.c_Unfit) (d:=.cls cs.c_Unfit) (by rfl) ⟨_,T.g_Unfit,rfl⟩ (fun _ _ _=>rfl)) Af)))) (Gm (SR (Nl hz hf (T.xc C hD) (by rfl) T.n_isinstance (Ac (Ae 0) (Ac (Fc (v:=.ref cs.c_NoAnswer) (d:=.cls cs.c_NoAnswer) (by rfl) ⟨_,T.g_NoAnswer,rfl⟩ (fun _ _ _=>rfl)) Af)))) (Lf (SR (Nl hz hf (T.xc C hD) (by rfl) T.n_isinstance (Ac (Ae 0) (Ac (Fc (v:=.ref cs.c_NoName) (d:=.cls cs.c_NoName) (by rfl) ⟨_,T.g_NoName,rfl⟩ (fun _ _ _=>rfl)) Af)))))))))))))
  (An (AD DL))))
theorem N0(T:Tx P w K mg base cs):ClR P w K mg base "_law_no_unit" 10 (D1 K cs):=by
 obtain ⟨a,fd,F,hm⟩:=T.F__law_no_unit
 exact Ca (NX T F) hm F.kp (Az F (fun kV doc pm an cdv ct us hl=>match us,hl with | [],_=>rfl))
theorem Tc:FnScope ["_law_names_here"] ["_law_names_here"] (defScope Cw):=⟨rfl,rfl,rfl,by decide +kernel,rfl,by decide +kernel,by decide +kernel⟩
theorem S7(T:Tx P w K mg base cs){a:Addr}{fd:FuncData}(F:FunD K "_law_unit" "_law_unit" (defArgs Cw) (defBody Cw) (defScope Cw) [] [] a fd):FnOk P w K mg base (L2N.CX P w) 10 a fd ["_law_names_here"] (DH K 1 (Ax 1 (HH K cs))):=
 AF F Tc (fun cdv A outer s H E hr=>
  (Ak (Dz (E9 (Jm (SN hr)) (D5 (by rfl) T.n_len (Ac (Ae 0) Af)) Aj) (An (AD (P5 (Gq T) (L2N.takes_of (by rfl) (by rfl) (by rfl) (by rfl)) hr (by decide) (Fc (v:=.ref cs.c_Map) (d:=.cls cs.c_Map) (by rfl) ⟨_,T.g_Map,rfl⟩ (fun _ _ _=>rfl)) (Ac (AU 0 Aj) (Ac (AU 0 Aj) (Ac (AU 0 Aj) Af)))))) Bk)
  (Ak (Dz (E9 (Jm (SN hr)) (D5 (by rfl) T.n_len (Ac (Ae 0) Af)) Aj) (An (AD (P5 (Gq T) (L2N.takes_of (by rfl) (by rfl) (by rfl) (by rfl)) hr (by decide) (Fc (v:=.ref cs.c_Map) (d:=.cls cs.c_Map) (by rfl) ⟨_,T.g_Map,rfl⟩ (fun _ _ _=>rfl)) (Ac (AU 0 Aj) (Ac (AU 0 Aj) (Ac (AU 0 Aj) (Ac (AU 0 Aj) Af))))))) Bk)
  (An (AD (P5 (Gq T) (L2N.takes_of (by rfl) (by rfl) (by rfl) (by rfl)) hr (by decide) (Fc (v:=.ref cs.c_Map) (d:=.cls cs.c_Map) (by rfl) ⟨_,T.g_Map,rfl⟩ (fun _ _ _=>rfl)) (Ac (AU 0 Aj) (Ac (AU 0 Aj) (Ac (AU 0 Aj) (Ac (AU 0 Aj) Af))))))))))
theorem Sh(T:Tx P w K mg base cs):ClR P w K mg base "_law_unit" 10 (HI K cs):=by
 obtain ⟨a,fd,F,hm⟩:=T.F__law_unit
 exact Ca (S7 T F) hm F.kp (Az F (fun kV doc pm an cdv ct us hl=>match us,hl with | [_],_=>rfl))
theorem DN:FnScope ["_law_told","_law_names_here","_law_rules_here","_law_box_here","_law_unit_here","_law_alone","_law_name","_law_point","#"] ["_law_told","_law_names_here","_law_rules_here","_law_box_here"] (defScope Br):=⟨rfl,rfl,rfl,by decide +kernel,rfl,by decide +kernel,by decide +kernel⟩
theorem NW(T:Tx P w K mg base cs){a:Addr}{fd:FuncData}(F:FunD K "_law_neutral" "_law_neutral" (defArgs Br) (defBody Br) (defScope Br) [] [] a fd):FnOk P w K mg base (L2N.CX P w) 11 a fd ["_law_told","_law_names_here","_law_rules_here","_law_box_here"] (M6 K 4 (runM 8 (E6 K cs))):=
 FP F DN rfl (by decide) (fun cdv A outer s H E hr=>
  (Ak (Dz (E9 NN (D5 (by rfl) T.n_len (Ac (Ae 1) Af)) Aj) (An (AD DL)) Bk)
  (Ak (Bw 4 DN.nd (Aq (Sh T) (L2N.takes_of (by rfl) (by rfl) (by rfl) (by rfl)) hr (by decide) (by rfl) (Ac (Ae 1) Af)))
  (Ak (G3 5 DN.nd)
  (Ak (CQ (passes_of (by rfl)) (by rfl) (AI (Ae 1)) (Ay 6 DN.nd)
  (An (Gn hr 5 (Ck (Eg (Ac (Zh (Ae 6) Aj) Af))) (Ae 6))))
  (Ak (Dz (Cg (Hk (Aq (C7 T) (L2N.takes_of (by rfl) (by rfl) (by rfl) (by rfl)) hr (by decide) (by rfl) (Ac (Ae 4) (Ac (Ae 5) Af))))) (An (AD DL)) Bk)
  (Ak (Dv (S:=[8]) 7 DN.nd (AN (n:=8) (Ee T) (L2N.takes_of (by rfl) (by rfl) (by rfl) (by rfl)) hr (by decide) (by rfl) (Cf (Ac (Ae 3) (Ac (Ae 1) Af)))))
  (Ak (Dz (Cg (Hk (Aq (FQ T) (L2N.takes_of (by rfl) (by rfl) (by rfl) (by rfl)) hr (by decide) (by rfl) (Ac (Ae 4) (Ac (Ae 7) (Ac (Ae 7) Af)))))) (An (AD DL)) Bk)
  (An (AD (Gm (Aq (C7 T) (L2N.takes_of (by rfl) (by rfl) (by rfl) (by rfl)) hr (by decide) (by rfl) (Ac (Ja "__mul__" (CZ T) (C5 T) (L2N.takes_of (by rfl) (by rfl) (by rfl) (by rfl)) hr (by decide) (Ae 4) (Ae 0)) (Ac (Ae 2) Af))) (Gm (Aq (C7 T) (L2N.takes_of (by rfl) (by rfl) (by rfl) (by rfl)) hr (by decide) (by rfl) (Ac (Ja "__mul__" (CZ T) (C5 T) (L2N.takes_of (by rfl) (by rfl) (by rfl) (by rfl)) hr (by decide) (Ae 0) (Ae 4)) (Ac (Ae 2) Af))) (Lf (Zr (meq T) (eqc T) (L2N.takes_of (by rfl) (by rfl) (by rfl) (by rfl)) hr (by decide) (Ja "__mul__" (CZ T) (C5 T) (L2N.takes_of (by rfl) (by rfl) (by rfl) (by rfl)) hr (by decide) (Ae 4) (Ae 0)) (Ae 0)))))))))))))))
theorem NU(T:Tx P w K mg base cs):ClM P w K mg base "_law_neutral" 11 (DY K cs):=by
 obtain ⟨a,fd,F,hm⟩:=T.F__law_neutral
 exact IM (NW T F) hm F.kp (Ba F (fun kV doc pm an cdv ct us hl=>match us,hl with | [_,_,_,_],_=>rfl))
theorem E2:FnScope ["_law_row_here","_law_other","_law_shift","_law_found","_law_name","_law_value_here"] ["_law_row_here","_law_other","_law_shift"] (defScope BD):=⟨rfl,rfl,rfl,by decide +kernel,rfl,by decide +kernel,by decide +kernel⟩
theorem PZ(T:Tx P w K mg base cs){a:Addr}{fd:FuncData}(F:FunD K "_law_joined" "_law_joined" (defArgs BD) (defBody BD) (defScope BD) [] [] a fd):FnOk P w K mg base (L2N.CX P w) 1 a fd ["_law_row_here","_law_other","_law_shift"] (DH K 3 (Ax 6 (FJ K cs))):=
 AF F E2 (fun cdv A outer s H E hr=>
  (Ak (ZA 3 (by rfl) T.n_dict (Ac (Ae 0) Af) E2.nd)
  (Ak (Lc 1 (passes_of (by rfl)) (by rfl) (Ay 4 E2.nd)
  (Ak (Bw 5 E2.nd (CK (Cd hr (Ae 1) (Ae 4)) (Ae 2)))
  (An (Dz (Wg (D0 (FA hr (Ae 4) (Ae 3)) (D7 (E9 fP (Cd hr (Ae 3) (Ae 4)) (Ae 5))))) (An (Gn hr 3 (Ae 5) (Ae 4))) Bk))))
  (An (AD (Ae 3))))))
theorem Pc(T:Tx P w K mg base cs):ClR P w K mg base "_law_joined" 1 (Cr K cs):=by
 obtain ⟨a,fd,F,hm⟩:=T.F__law_joined
 exact Ca (PZ T F) hm F.kp (Az F (fun kV doc pm an cdv ct us hl=>match us,hl with | [_,_,_],_=>rfl))
theorem BQ:FnScope ["_law_row_here","_law_others","_law_joins","_law_name","_law_longer","_law_part","_law_other"] ["_law_row_here","_law_others"] (defScope Bo):=⟨rfl,rfl,rfl,by decide +kernel,rfl,by decide +kernel,by decide +kernel⟩
theorem Qk(T:Tx P w K mg base cs){a:Addr}{fd:FuncData}(F:FunD K "_law_row_of" "_law_row_of" (defArgs Bo) (defBody Bo) (defScope Bo) [] [] a fd):FnOk P w K mg base (L2N.CX P w) 2 a fd ["_law_row_here","_law_others"] (DH K 2 (Ax 7 (FL K cs))):=
 AF F BQ (fun cdv A outer s H E hr=>
  (Ak (Bw 2 BQ.nd (Ck (Eg (Ac ay Af))))
  (Ak (Lc 0 (passes_of (by rfl)) (by rfl) (Ay 3 BQ.nd)
  (Ak (Bw 4 BQ.nd (Ck (Eg Af)))
  (Ak (CQ (passes_of (by rfl)) (by rfl) (AI (Ae 2)) (Ay 5 BQ.nd)
  (An (Bw 4 BQ.nd (CK (Ae 4) (Ck (Ig [("_law_other",6)] (by rfl) BQ.nd (AI (Cd hr (Ae 1) (Ae 3))) (fun s2 H2 C2 cl2 fp2=>(Ay 6 BQ.nd)) (fun s2 H2 C2 cl2 fp2=>DG) (fun s2 H2 C2 cl2 fp2=>(Aq (Pc T) FD.takes0 hr (by decide) (by rfl) (Ac (Ae 5) (Ac (Ae 6) (Ac (Cd hr (Ae 0) (Ae 3)) Af))))) (ok:=by exact blkOk_by (N:=["_law_row_here","_law_others","_law_joins","_law_name","_law_longer","_law_part","_law_other"]) (sc:=defScope Bo) (by decide +kernel))))))))
  (An (Bw 2 BQ.nd (Ae 4))))))
  (An (AD (Ae 2))))))
theorem OZ(T:Tx P w K mg base cs):ClR P w K mg base "_law_row_of" 2 (Df K cs):=by
 obtain ⟨a,fd,F,hm⟩:=T.F__law_row_of
 exact Ca (Qk T F) hm F.kp (Az F (fun kV doc pm an cdv ct us hl=>match us,hl with | [_,_],_=>rfl))
theorem DP:FnScope ["_law_rules_here","_law_others","_law_found","_law_name","_law_rows","_law_row_here"] ["_law_rules_here","_law_others"] (defScope B1):=⟨rfl,rfl,rfl,by decide +kernel,rfl,by decide +kernel,by decide +kernel⟩
theorem QN(T:Tx P w K mg base cs){a:Addr}{fd:FuncData}(F:FunD K "_law_after" "_law_after" (defArgs B1) (defBody B1) (defScope B1) [] [] a fd):FnOk P w K mg base (L2N.CX P w) 3 a fd ["_law_rules_here","_law_others"] (DH K 2 (Ax 6 (Gz K cs))):=
 AF F DP (fun cdv A outer s H E hr=>
  (Ak (G3 2 DP.nd)
  (Ak (Lc 0 (passes_of (by rfl)) (by rfl) (Ay 3 DP.nd)
  (Ak (Bw 4 DP.nd (Ck (Eg Af)))
  (Ak (CQ (passes_of (by rfl)) (by rfl) (AI (Cd hr (Ae 0) (Ae 3))) (Ay 5 DP.nd)
  (An (Bw 4 DP.nd (CK (Ae 4) (Aq (OZ T) (L2N.takes_of (by rfl) (by rfl) (by rfl) (by rfl)) hr (by decide) (by rfl) (Ac (Ae 5) (Ac (Ae 1) Af)))))))
  (An (Gn hr 2 (Ae 4) (Ae 3))))))
  (An (AD (Ae 2))))))
theorem QO(T:Tx P w K mg base cs):ClR P w K mg base "_law_after" 3 (GN K cs):=by
 obtain ⟨a,fd,F,hm⟩:=T.F__law_after
 exact Ca (QN T F) hm F.kp (Az F (fun kV doc pm an cdv ct us hl=>match us,hl with | [_,_],_=>rfl))
theorem Hu:FnScope ["_law_told","_law_other","_law_rules_here","_law_others","_law_names_here","_law_box_here","_law_product","_law_k","_law_point","#"] ["_law_told","_law_other","_law_rules_here","_law_others","_law_names_here","_law_box_here"] (defScope Di):=⟨rfl,rfl,rfl,by decide +kernel,rfl,by decide +kernel,by decide +kernel⟩
theorem Tr(T:Tx P w K mg base cs){a:Addr}{fd:FuncData}(F:FunD K "_law_two" "_law_two" (defArgs Di) (defBody Di) (defScope Di) [] [] a fd):FnOk P w K mg base (L2N.CX P w) 10 a fd ["_law_told","_law_other","_law_rules_here","_law_others","_law_names_here","_law_box_here"] (M6 K 6 (runM 9 (IX K cs))):=
 FP F Hu rfl (by decide) (fun cdv A outer s H E hr=>
  (Ak (Bw 6 Hu.nd (Ja "__mul__" (CZ T) (C5 T) (L2N.takes_of (by rfl) (by rfl) (by rfl) (by rfl)) hr (by decide) (Ae 0) (Ae 1)))
  (Ak (Dz (Cg (Hk (Aq (C7 T) (L2N.takes_of (by rfl) (by rfl) (by rfl) (by rfl)) hr (by decide) (by rfl) (Ac (Ae 6) (Ac (Aq (QO T) (L2N.takes_of (by rfl) (by rfl) (by rfl) (by rfl)) hr (by decide) (by rfl) (Ac (Ae 2) (Ac (Ae 3) Af))) Af))))) (An (AD DL)) Bk)
  (Ak (CQ (passes_of (by rfl)) (by rfl) (FY (by rfl) T.n_range Aj) (Ay 7 Hu.nd)
  (Ak (Dv (S:=[9]) 8 Hu.nd (AN (n:=9) (Ee T) (L2N.takes_of (by rfl) (by rfl) (by rfl) (by rfl)) hr (by decide) (by rfl) (Cf (Ac (Ae 5) (Ac (Ae 4) Af)))))
  (An (Dz (Cg (Hk (Aq (FQ T) (L2N.takes_of (by rfl) (by rfl) (by rfl) (by rfl)) hr (by decide) (by rfl) (Ac (Ae 6) (Ac (Ae 8) (Ac (Aq (El T) (L2N.takes_of (by rfl) (by rfl) (by rfl) (by rfl)) hr (by decide) (by rfl) (Ac (Ae 2) (Ac (Aq (El T) (L2N.takes_of (by rfl) (by rfl) (by rfl) (by rfl)) hr (by decide) (by rfl) (Ac (Ae 3) (Ac (Ae 8) Af))) Af))) Af)))))) (An (AD DL)) Bk))))
  (An (AD (Zr (meq T) (eqc T) (L2N.takes_of (by rfl) (by rfl) (by rfl) (by rfl)) hr (by decide) (Ja "__mul__" (CZ T) (C5 T) (L2N.takes_of (by rfl) (by rfl) (by rfl) (by rfl)) hr (by decide) (Ae 0) (Ae 1)) (Ae 6))))))))
theorem NK(T:Tx P w K mg base cs):ClM P w K mg base "_law_two" 10 (EE K cs):=by
 obtain ⟨a,fd,F,hm⟩:=T.F__law_two
 exact IM (Tr T F) hm F.kp (Ba F (fun kV doc pm an cdv ct us hl=>match us,hl with | [_,_,_,_,_,_],_=>rfl))
theorem Dm:FnScope ["_law_script","_law_box_here","_law_large","_law_count","_law_names_here","_law_pick","_law_spread_here","_law_shape","_law_rules_here","_law_k","_law_first","_law_second","_law_third","_law_last","_law_left","_law_right_here","_law_point","_law_due","#"] ["_law_script"] (defScope EH):=⟨rfl,rfl,rfl,by decide +kernel,rfl,by decide +kernel,by decide +kernel⟩
theorem jn(T:Tx P w K mg base cs){a:Addr}{fd:FuncData}(F:FunD K "law" "law" (defArgs EH) (defBody EH) (defScope EH) [] [] a fd):FnOk P w K mg base (L2N.CX P w) 12 a fd ["_law_script"] (DH K 1 (Pu 18 (Xi K cs))):=
 WK F Dm rfl (by decide) (fun cdv A outer s H E hr=>
  (Ak (Dv (S:=[18]) 1 Dm.nd (AN (n:=18) (HG T) (L2N.takes_of (by rfl) (by rfl) (by rfl) (by rfl)) hr (by decide) (by rfl) (Cf (Ac (Ae 0) (Ac Aj Af)))))
  (Ak (Dv (S:=[18]) 2 Dm.nd (px_c (Jm (SN hr)) (AN (n:=18) (AQ T) (L2N.takes_of (by rfl) (by rfl) (by rfl) (by rfl)) hr (by decide) (by rfl) (Cf (Ac (Ae 1) (Ac Aj Af)))) (Jq Aj)))
  (Ak (Dv (S:=[18]) 3 Dm.nd (TX (Jq (Ck (Eg (Ac Aj (Ac Aj (Ac Aj Af)))))) (AN (n:=18) (AQ T) (L2N.takes_of (by rfl) (by rfl) (by rfl) (by rfl)) hr (by decide) (by rfl) (Cf (Ac (Ae 1) (Ac Aj Af))))))
  (Ak (Dz (Hk (Ae 2)) (An (Dv (S:=[18]) 3 Dm.nd (Oz (Jq Aj) (AN (n:=18) (AQ T) (L2N.takes_of (by rfl) (by rfl) (by rfl) (by rfl)) hr (by decide) (by rfl) (Cf (Ac (Ae 1) (Ac Aj Af))))))) Bk)
  (Ak (Dv (S:=[18]) 4 Dm.nd (AN (n:=18) (QP T) (L2N.takes_of (by rfl) (by rfl) (by rfl) (by rfl)) hr (by decide) (by rfl) (Cf (Ac (Ae 1) (Ac (Ae 3) Af)))))
  (Ak (Dv (S:=[18]) 5 Dm.nd (AN (n:=18) (HG T) (L2N.takes_of (by rfl) (by rfl) (by rfl) (by rfl)) hr (by decide) (by rfl) (Cf (Ac (Ae 0) (Ac Aj Af)))))
  (Ak (Dv (S:=[18]) 6 Dm.nd (AN (n:=18) (Pj T) (L2N.takes_of (by rfl) (by rfl) (by rfl) (by rfl)) hr (by decide) (by rfl) (Cf (Ac (Ae 5) Af))))
  (Ak (Dv (S:=[18]) 7 Dm.nd (TX (Jq (Ck (Eg (Ac Aj (Ac Aj (Ac Aj (Ac Aj Af))))))) (AN (n:=18) (AQ T) (L2N.takes_of (by rfl) (by rfl) (by rfl) (by rfl)) hr (by decide) (by rfl) (Cf (Ac (Ae 5) (Ac Aj Af))))))
  (Ak (Dz (Hk (Ae 2)) (An (Bw 7 Dm.nd Aj)) Bk)
  (Ak (SV 8 [("_law_k",9)] (by rfl) Dm.nd (FY (by rfl) T.n_range Aj) (fun s2 H2 C2 cl2 fp2=>(Ay 9 Dm.nd)) (fun s2 H2 C2 cl2 fp2=>DG) (fun s2 H2 C2 cl2 fp2=>(Aq (QK T) FD.takes0 hr (by decide) (by rfl) (Ac (Ae 0) (Ac (CK Aj (jd (Ae 9) (Ae 3))) (Ac (Ae 4) (Ac (Ae 6) (Ac (Ae 7) Af))))))) (ok:=by exact blkOk_by (N:=["_law_script","_law_box_here","_law_large","_law_count","_law_names_here","_law_pick","_law_spread_here","_law_shape","_law_rules_here","_law_k","_law_first","_law_second","_law_third","_law_last","_law_left","_law_right_here","_law_point","_law_due","#"]) (sc:=defScope EH) (by decide +kernel)))
  (Ak (Bw 10 Dm.nd (Sb (Oc T) (L2N.takes_of (by rfl) (by rfl) (by rfl) (by rfl)) hr (by decide) (by rfl) (Ac (Aq (IZ T) (L2N.takes_of (by rfl) (by rfl) (by rfl) (by rfl)) hr (by decide) (by rfl) (Ac (AU 8 Aj) Af)) Af)))
  (Ak (Bw 11 Dm.nd (Sb (Oc T) (L2N.takes_of (by rfl) (by rfl) (by rfl) (by rfl)) hr (by decide) (by rfl) (Ac (Aq (IZ T) (L2N.takes_of (by rfl) (by rfl) (by rfl) (by rfl)) hr (by decide) (by rfl) (Ac (AU 8 Aj) Af)) Af)))
  (Ak (Bw 12 Dm.nd (Sb (Oc T) (L2N.takes_of (by rfl) (by rfl) (by rfl) (by rfl)) hr (by decide) (by rfl) (Ac (Aq (IZ T) (L2N.takes_of (by rfl) (by rfl) (by rfl) (by rfl)) hr (by decide) (by rfl) (Ac (AU 8 Aj) Af)) Af)))
  (Ak (Dv (S:=[18]) 13 Dm.nd (AN (n:=18) (HG T) (L2N.takes_of (by rfl) (by rfl) (by rfl) (by rfl)) hr (by decide) (by rfl) (Cf (Ac (Ae 0) (Ac Aj Af)))))
  (Ak (RN (S:=[18]) (Tq (ZJ (AN (n:=18) (NK T) (L2N.takes_of (by rfl) (by rfl) (by rfl) (by rfl)) hr (by decide) (by rfl) (Cf (Ac (Ae 10) (Ac (Ae 11) (Ac (AU 8 Aj) (Ac (AU 8 Aj) (Ac (Ae 4) (Ac (Ae 13) Af)))))))))) (An (AD DL)) Bk)
  (Ak (RN (S:=[18]) (Tq (ZJ (AN (n:=18) (NK T) (L2N.takes_of (by rfl) (by rfl) (by rfl) (by rfl)) hr (by decide) (by rfl) (Cf (Ac (Ae 11) (Ac (Ae 12) (Ac (AU 8 Aj) (Ac (AU 8 Aj) (Ac (Ae 4) (Ac (Ae 13) Af)))))))))) (An (AD DL)) Bk)
  (Ak (Bw 14 Dm.nd (Ja "__mul__" (CZ T) (C5 T) (L2N.takes_of (by rfl) (by rfl) (by rfl) (by rfl)) hr (by decide) (Ja "__mul__" (CZ T) (C5 T) (L2N.takes_of (by rfl) (by rfl) (by rfl) (by rfl)) hr (by decide) (Ae 10) (Ae 11)) (Ae 12)))
  (Ak (Bw 15 Dm.nd (Ja "__mul__" (CZ T) (C5 T) (L2N.takes_of (by rfl) (by rfl) (by rfl) (by rfl)) hr (by decide) (Ae 10) (Ja "__mul__" (CZ T) (C5 T) (L2N.takes_of (by rfl) (by rfl) (by rfl) (by rfl)) hr (by decide) (Ae 11) (Ae 12))))
  (Ak (Dv (S:=[18]) 16 Dm.nd (AN (n:=18) (Ee T) (L2N.takes_of (by rfl) (by rfl) (by rfl) (by rfl)) hr (by decide) (by rfl) (Cf (Ac (Ae 13) (Ac (Ae 4) Af)))))
  (Ak (Bw 17 Dm.nd (Aq (El T) (L2N.takes_of (by rfl) (by rfl) (by rfl) (by rfl)) hr (by decide) (by rfl) (Ac (AU 8 Aj) (Ac (Aq (El T) (L2N.takes_of (by rfl) (by rfl) (by rfl) (by rfl)) hr (by decide) (by rfl) (Ac (AU 8 Aj) (Ac (Aq (El T) (L2N.takes_of (by rfl) (by rfl) (by rfl) (by rfl)) hr (by decide) (by rfl) (Ac (AU 8 Aj) (Ac (Ae 16) Af))) Af))) Af))))
  (Ak (Dz (Wg (D0 (Cg (i8 (meq T) (eqc T) (L2N.takes_of (by rfl) (by rfl) (by rfl) (by rfl)) hr (by decide) (Ae 14) (Ae 15))) (D0 (Cg (Hk (Aq (FQ T) (L2N.takes_of (by rfl) (by rfl) (by rfl) (by rfl)) hr (by decide) (by rfl) (Ac (Ae 14) (Ac (Ae 16) (Ac (Ae 17) Af)))))) (D7 (Cg (Hk (Aq (FQ T) (L2N.takes_of (by rfl) (by rfl) (by rfl) (by rfl)) hr (by decide) (by rfl) (Ac (Ae 15) (Ac (Ae 16) (Ac (Ae 17) Af)))))))))) (An (AD DL)) Bk)
  (Ak (RN (S:=[18]) (pxtw (iR (Tq (ZJ (AN (n:=18) (NU T) (L2N.takes_of (by rfl) (by rfl) (by rfl) (by rfl)) hr (by decide) (by rfl) (Cf (Ac (Ae 10) (Ac (Ae 4) (Ac (AU 8 Aj) (Ac (Ae 13) Af)))))))) (dQ (kH (Cg (Hk (YL (N0 T) (L2N.takes_of (by rfl) (by rfl) (by rfl) (by rfl)) hr (by decide) (by rfl)))))))) (An (AD DL)) Bk)
  (An (AD (Gm (Aq (C7 T) (L2N.takes_of (by rfl) (by rfl) (by rfl) (by rfl)) hr (by decide) (by rfl) (Ac (Ae 10) (Ac (AU 8 Aj) Af))) (Gm (Aq (C7 T) (L2N.takes_of (by rfl) (by rfl) (by rfl) (by rfl)) hr (by decide) (by rfl) (Ac (Ae 11) (Ac (AU 8 Aj) Af))) (Lf (Aq (C7 T) (L2N.takes_of (by rfl) (by rfl) (by rfl) (by rfl)) hr (by decide) (by rfl) (Ac (Ae 12) (Ac (AU 8 Aj) Af)))))))))))))))))))))))))))))))
end
end Lk15
namespace Nf
section
variable {κ:Type} [DecidableEq κ]
abbrev Rw(κ:Type):=List (κ × Int)
def ks(a:Rw κ):List κ:=a.map (·.1)
def sm(a:Rw κ):Int:=(a.map (·.2)).sum
def Below(a b:Rw κ):Prop:=∀ p∈a,∃ y,(p.1,y)∈b∧p.2≤y
theorem BH{a:Rw κ}{k:κ}{x:Int}(h:(k,x)∈a):k∈ks a:=List.mem_map.mpr ⟨(k,x),h,rfl⟩
theorem Below.refl(a:Rw κ):Below a a:=fun p hp=>⟨p.2,hp,Int.le_refl _⟩
theorem Below.trans{a b c:Rw κ}(h:Below a b)(h':Below b c):Below a c:=fun p hp=>by
 obtain ⟨y,hy,l⟩:=h p hp
 obtain ⟨z,hz,l'⟩:=h' _ hy
 exact ⟨z,hz,Int.le_trans l l'⟩
theorem Below.V5{a b:Rw κ}(h:∀ p∈a,p∈b):Below a b:=fun p hp=>⟨p.2,h p hp,Int.le_refl _⟩
theorem uniq{a:Rw κ}(n:(ks a).Nodup){k:κ}{x y:Int}(h:(k,x)∈a)(h':(k,y)∈a):x=y:=by
 induction a with
 | nil=>cases h
 | cons q a ih=>
  obtain ⟨n1,n2⟩:=List.nodup_cons.mp (show (q.1 :: ks a).Nodup from n)
  rcases List.mem_cons.mp h with e | m <;> rcases List.mem_cons.mp h' with e' | m'
  ·rw [← e] at e'; cases e'; rfl
  ·exact absurd (by rw [← e]; exact BH m') n1
  ·exact absurd (by rw [← e']; exact BH m) n1
  ·exact ih n2 m m'
theorem bO{a b:Rw κ}(h:a.Perm b):sm a=sm b:=by
 unfold sm
 induction h with
 | nil=>rfl
 | cons x _ ih=>simp only [List.map_cons,List.sum_cons,ih]
 | swap x y l=>simp only [List.map_cons,List.sum_cons]; omega
 | trans _ _ h1 h2=>exact h1.trans h2
theorem Jd:∀ {a b:Rw κ},(ks a).Nodup→(ks b).Nodup→Below a b→a.length≤b.length∧(a.length=b.length→sm a≤sm b∧(sm a=sm b→a.Perm b))
 | [],b,_,_,_=>⟨Nat.zero_le _,fun e=>by
   have:b=[]:=List.eq_nil_of_length_eq_zero e.symm
   subst this
   exact ⟨Int.le_refl _,fun _=>.refl _⟩⟩
 | (k,x) :: a,b,na,nb,h=>by
  obtain ⟨n1,n2⟩:=List.nodup_cons.mp (show (k :: ks a).Nodup from na)
  obtain ⟨y,hy,l⟩:=h (k,x) List.mem_cons_self
  have l:x≤y:=l
  have hp:b.Perm ((k,y) :: b.erase (k,y)):=List.perm_cons_erase hy
  have nb':(ks (b.erase (k,y))).Nodup∧k∉ks (b.erase (k,y)):=by
   have q':(k :: ks (b.erase (k,y))).Nodup:=(List.Perm.map (fun p:κ × Int=>p.1) hp).nodup_iff.mp nb
   obtain ⟨q1,q2⟩:=List.nodup_cons.mp q'
   exact ⟨q2,q1⟩
  have hb:Below a (b.erase (k,y)):=fun p hp'=>by
   obtain ⟨z,hz,lz⟩:=h p (List.mem_cons_of_mem _ hp')
   refine ⟨z,?_,lz⟩
   rcases List.mem_cons.mp (hp.mem_iff.mp hz) with e | hz
   ·have e1:p.1=k:=congrArg Prod.fst e
    exact absurd (List.mem_map.mpr ⟨p,hp',e1⟩) n1
   ·exact hz
  obtain ⟨i1,i2⟩:=Jd n2 nb'.1 hb
  have hl:b.length=(b.erase (k,y)).length + 1:=by rw [hp.length_eq]; rfl
  have hs:sm b=y + sm (b.erase (k,y)):=by rw [bO hp]; rfl
  have ha:sm ((k,x) :: a)=x + sm a:=rfl
  refine ⟨by rw [hl]; exact Nat.succ_le_succ i1,fun e=>?_⟩
  obtain ⟨j1,j2⟩:=i2 (by have e':a.length + 1=b.length:=e; omega)
  refine ⟨by omega,fun e'=>?_⟩
  have e2:x=y:=by omega
  subst e2
  exact ((j2 (by omega)).cons _).trans hp.symm
end
end Nf
namespace Nf
open PySem PySem.W PyProof.Rows SX TL
abbrev Kn:=List Nat
abbrev Row:=Rw Kn
def sP(k:Kn):PyData:=.str (S k)
def pP(p:Kn × Int):PyData:=.tuple [sP p.1,.int p.2]
def rP(r:Row):PyData:=.tuple (r.map pP)
theorem S_inj{a b:Kn}(h:S a=S b):a=b:=by
 have:=congrArg (fun s:Str=>s.cps.toList) h
 simpa [S] using this
theorem OJ(p q:Kn × Int):alike (pP p) (pP q)=true:=by
 unfold pP sP
 simp [alike,alikeAll]
theorem NL:∀ a b:Row,alikeAll (a.map pP) (b.map pP)=true
 | [],b=>by simp [alikeAll]
 | p :: a,[]=>by simp [alikeAll]
 | p :: a,q :: b=>by
  rw [List.map_cons,List.map_cons,alikeAll,OJ,NL a b]
  rfl
theorem Mi(a b:Row):alike (rP a) (rP b)=true:=by
 unfold rP
 rw [alike]
 exact NL a b
theorem Ov(a b:Kn):PyData.eqv (sP a) (sP b)=decide (a=b):=by
 unfold sP
 rw [PyData.eqv]
 by_cases h:a=b
 ·subst h; simp
 ·rw [decide_eq_false h]
  exact beq_eq_false_iff_ne.mpr fun e=>h (S_inj e)
theorem Zu(p q:Kn × Int):PyData.eqv (pP p) (pP q)=decide (p=q):=by
 obtain ⟨k,x⟩:=p
 obtain ⟨j,y⟩:=q
 unfold pP
 rw [PyData.eqv,PyData.eqvAll,PyData.eqvAll,PyData.eqvAll,Ov,PyData.eqv]
 by_cases h1:k=j <;> by_cases h2:x=y <;> simp [h1,h2]
theorem Nc:∀ a b:Row,PyData.eqvAll (a.map pP) (b.map pP)=decide (a=b)
 | [],[]=>by simp [PyData.eqvAll]
 | [],q :: b=>by simp [PyData.eqvAll]
 | p :: a,[]=>by simp [PyData.eqvAll]
 | p :: a,q :: b=>by
  rw [List.map_cons,List.map_cons,PyData.eqvAll,Zu,Nc a b]
  simp
theorem SH(a b:Row):PyData.eqv (rP a) (rP b)=decide (a=b):=by
 unfold rP
 rw [PyData.eqv]
 exact Nc a b
theorem LB{x y:PyData}(h:alike x y=true)(e:keyToks x=keyToks y):PyData.eqv x y=true:=by
 cases hv:PyData.eqv x y with
 | true=>rfl
 | false=>
  have q:=(toks_eqv x y h).2 hv [] [.inl 0]
  rw [e,lex_irrefl,lex_pre] at q
  exact absurd (show true=false from q) (by decide)
structure Od (α:Type) where
 tok:α→List (Int ⊕ List Nat)
 inj:∀ a b,tok a=tok b→a=b
namespace Od
variable {α:Type} (O:Od α)
def lt(a b:α):Bool:=PyProof.Rows.lexLt itemOrd (O.tok a) (O.tok b)
def le(a b:α):Bool:=!O.lt b a
theorem irr(a:α):O.lt a a=false:=lex_irrefl (O:=itemOrd) _
theorem tr{a b c:α}(h:O.lt a b=true)(h':O.lt b c=true):O.lt a c=true:=lex_trans (O:=itemOrd) _ _ _ h h'
theorem tot{a b:α}(h:O.lt a b=false)(h':O.lt b a=false):a=b:=O.inj _ _ (lex_total (O:=itemOrd) _ _ h h')
theorem asym{a b:α}(h:O.lt a b=true):O.lt b a=false:=by
 cases e:O.lt b a with
 | false=>rfl
 | true=>have:=O.tr h e; rw [O.irr] at this; exact this.symm
theorem bD(a b c:α)(h:O.le a b=true)(h':O.le b c=true):O.le a c=true:=by
 unfold le at *
 cases e:O.lt c a with
 | false=>rfl
 | true=>
  rcases lex_negTrans (O:=itemOrd) _ (O.tok b) _ e with z | z
  ·have z:O.lt c b=true:=z
   rw [z] at h'; exact h'
  ·have z:O.lt b a=true:=z
   rw [z] at h; exact h
theorem VU(a b:α):(O.le a b || O.le b a)=true:=by
 unfold le
 cases e:O.lt b a with
 | false=>rfl
 | true=>rw [O.asym e]; rfl
theorem WC(a b:α)(h:O.le a b=true)(h':O.le b a=true):a=b:=by
 unfold le at *
 exact O.tot (by simpa using h') (by simpa using h)
theorem le_iff{a b:α}:O.le a b=true ↔ O.lt b a=false:=by unfold le; cases O.lt b a <;> simp
def sort(l:List α):List α:=l.mergeSort O.le
theorem Bb(l:List α):(O.sort l).Perm l:=List.mergeSort_perm _ _
theorem HF(l:List α):(O.sort l).Pairwise fun a b=>O.le a b=true:=List.pairwise_mergeSort O.bD O.VU l
theorem one{a b:List α}(h:a.Perm b)(ha:a.Pairwise fun a b=>O.le a b=true)(hb:b.Pairwise fun a b=>O.le a b=true):a=b:=
 (Srt.the_of_perm O.le O.bD O.VU O.WC h ha).trans (Srt.the_of_perm O.le O.bD O.VU O.WC (List.Perm.refl b) hb).symm
theorem sort_congr{a b:List α}(h:a.Perm b):O.sort a=O.sort b:=O.one ((O.Bb a).trans (h.trans (O.Bb b).symm)) (O.HF a) (O.HF b)
end Od
def pO:Od (Kn × Int):=⟨fun p=>keyToks (pP p),fun a b e=>by have q:=LB (OJ a b) e; rw [Zu] at q; exact of_decide_eq_true q⟩
def rO:Od Row:=⟨fun r=>keyToks (rP r),fun a b e=>by have q:=LB (Mi a b) e; rw [SH] at q; exact of_decide_eq_true q⟩
theorem ke(p q:Kn × Int):pO.lt p q=dataLt (pP p) (pP q):=rfl
theorem dq(p q:Kn × Int):pO.lt p q=true ↔ p.1 < q.1∨(p.1=q.1∧p.2 < q.2):=by
 rw [ke]
 unfold pP sP
 rw [dataLt_pair (by simp [alike]) (by simp [alike]),dataLt_str,dataLt_int,show PyData.eqv (.str (S p.1)) (.str (S q.1))=decide (p.1=q.1) from Ov p.1 q.1,PyData.eqv]
 simp only [S,List.toList_toArray]
 by_cases h:p.1=q.1
 ·rw [decide_eq_true h,if_pos rfl,h]
  by_cases h2:p.2=q.2
  ·rw [h2]; simp [List.lt_irrefl]
  ·rw [if_neg (by simpa using h2)]; simp [List.lt_irrefl]
 ·rw [decide_eq_false h,if_neg (by decide)]
  simp [h]
def Up(r:Row):Prop:=r.Pairwise fun a b=>a.1 < b.1
def flat(r:Row):Row:=pO.sort r
structure Flat (r:Row):Prop where
 nd:(ks r).Nodup
 up:r.Pairwise fun a b=>pO.le a b=true
theorem Du(r:Row):(flat r).Perm r:=pO.Bb r
theorem WZ{a b:Row}(h:a.Perm b):(ks a).Perm (ks b):=h.map _
theorem Nr{r:Row}(h:(ks r).Nodup):Flat (flat r):=⟨(WZ (Du r)).nodup_iff.mpr h,pO.HF r⟩
theorem Flat.eq{a b:Row}(ha:Flat a)(hb:Flat b)(h:a.Perm b):a=b:=pO.one h ha.up hb.up
theorem Flat.self{a:Row}(h:Flat a):flat a=a:=pO.one (Du a) (pO.HF a) h.up
theorem Flat.rise{r:Row}(h:Flat r):Up r:=by
 have n:r.Pairwise fun a b=>a.1≠b.1:=List.pairwise_map.mp h.nd
 refine (h.up.and n).imp fun {a b} ⟨h1,h2⟩=>?_
 cases e:pO.lt a b with
 | true=>
  rcases (dq a b).mp e with z | z
  ·exact z
  ·exact absurd z.1 h2
 | false=>
  have:a=b:=pO.tot e (pO.le_iff.mp h1)
  exact absurd (congrArg Prod.fst this) h2
theorem Below.perm{a b c d:Row}(h:Below a b)(p:a.Perm c)(q:b.Perm d):Below c d:=fun x hx=>by
 obtain ⟨y,hy,l⟩:=h x (p.mem_iff.mpr hx)
 exact ⟨y,q.mem_iff.mp hy,l⟩
theorem Flat.BC{a b:Row}(ha:Flat a)(hb:Flat b)(h:Below a b)(h':Below b a):a=b:=by
 obtain ⟨l1,i1⟩:=Jd ha.nd hb.nd h
 obtain ⟨l2,i2⟩:=Jd hb.nd ha.nd h'
 have e:a.length=b.length:=by omega
 obtain ⟨s1,p1⟩:=i1 e
 obtain ⟨s2,_⟩:=i2 e.symm
 exact ha.eq hb (p1 (by omega))
def tP(r:Row):PyData:=.tuple [.int r.length,.int (sm r),rP r]
theorem Uh(a b:Row):alike (tP a) (tP b)=true:=by
 unfold tP
 rw [alike,alikeAll,alikeAll,alikeAll,Mi]
 simp [alike,alikeAll]
theorem jx(a b:Row):PyData.eqv (tP a) (tP b)=decide (a=b):=by
 unfold tP
 rw [PyData.eqv,PyData.eqvAll,PyData.eqvAll,PyData.eqvAll,PyData.eqvAll,SH,PyData.eqv,PyData.eqv]
 by_cases h:a=b
 ·subst h; simp
 ·simp [h]
def tO:Od Row:=⟨fun r=>keyToks (tP r),fun a b e=>by have q:=LB (Uh a b) e; rw [jx] at q; exact of_decide_eq_true q⟩
theorem gE(a b:Row):tO.lt a b=dataLt (tP a) (tP b):=rfl
theorem dB{a b:Row}(h:a.length < b.length):tO.lt a b=true:=by
 rw [gE]
 unfold tP
 rw [dataLt_tuple,dataLt_cons (by simp [alike]),PyData.eqv,if_neg (by simp; omega),dataLt_int]
 exact decide_eq_true (by omega)
theorem iZ{a b:Row}(h:a.length=b.length)(h':sm a < sm b):tO.lt a b=true:=by
 rw [gE]
 unfold tP
 rw [dataLt_tuple,dataLt_cons (by simp [alike]),PyData.eqv,if_pos (by simp [h]),dataLt_cons (by simp [alike]),PyData.eqv,if_neg (by simp; omega),dataLt_int]
 exact decide_eq_true h'
theorem YU{a b:Row}(ha:Flat a)(hb:Flat b)(h:Below a b)(hn:tO.lt a b=false):a=b:=by
 obtain ⟨l1,i1⟩:=Jd ha.nd hb.nd h
 by_cases e:a.length=b.length
 ·obtain ⟨s1,p1⟩:=i1 e
  by_cases e2:sm a=sm b
  ·exact ha.eq hb (p1 e2)
  ·rw [iZ e (by omega)] at hn; cases hn
 ·rw [dB (by omega)] at hn; cases hn
end Nf
namespace Nf
section
variable {κ:Type} [DecidableEq κ]
def gt:Rw κ→κ→Option Int
 | [],_=>none
 | p :: r,j=>if j=p.1 then some p.2 else gt r j
theorem G9{r:Rw κ}{k:κ}{x:Int}(h:gt r k=some x):(k,x)∈r:=by
 induction r with
 | nil=>cases h
 | cons p r ih=>
  unfold gt at h
  by_cases e:k=p.1
  ·rw [if_pos e] at h
   cases h
   rw [e]
   exact List.mem_cons_self
  ·rw [if_neg e] at h
   exact List.mem_cons_of_mem _ (ih h)
theorem Kx{r:Rw κ}{k:κ}:gt r k=none ↔ k∉ks r:=by
 induction r with
 | nil=>exact ⟨fun _ h=>(nomatch h),fun _=>rfl⟩
 | cons p r ih=>
  unfold gt
  show _ ↔ k∉p.1 :: ks r
  by_cases e:k=p.1
  ·rw [if_pos e,e]; simp
  ·rw [if_neg e,ih]; simp [e]
theorem K1{r:Rw κ}{k:κ}{x:Int}(n:(ks r).Nodup)(h:(k,x)∈r):gt r k=some x:=by
 cases e:gt r k with
 | none=>exact absurd (BH h) (Kx.mp e)
 | some y=>rw [uniq n (G9 e) h]
def Cm(a b:Rw κ):Bool:=a.all fun p=>match gt b p.1 with
 | some y=>decide (p.2≤y)
 | none=>false
theorem IP{a b:Rw κ}(n:(ks b).Nodup):Cm a b=true ↔ Below a b:=by
 unfold Cm Below
 rw [List.all_eq_true]
 refine forall_congr' fun p=>forall_congr' fun _=>?_
 constructor
 ·intro h
  cases e:gt b p.1 with
  | none=>rw [e] at h; cases h
  | some y=>rw [e] at h; exact ⟨y,G9 e,of_decide_eq_true h⟩
 ·rintro ⟨y,hy,l⟩
  rw [K1 n hy]
  exact decide_eq_true l
end
def keep:List Row→List Row→List Row
 | K,[]=>K
 | K,r :: R=>if (K.any fun o=>Cm o r)=true then keep K R else keep (K ++ [r]) R
def AC(L:List Row):Prop:=L.Pairwise fun x y=>¬ Below x y∧¬ Below y x
theorem AC.eq{L:List Row}(h:AC L){x y:Row}(hx:x∈L)(hy:y∈L)(b:Below x y):x=y:=by
 induction L with
 | nil=>cases hx
 | cons z L ih=>
  obtain ⟨h1,h2⟩:=List.pairwise_cons.mp h
  rcases List.mem_cons.mp hx with e | hx <;> rcases List.mem_cons.mp hy with e' | hy
  ·rw [e,e']
  ·rw [e] at b; exact absurd b (h1 _ hy).1
  ·rw [e'] at b; exact absurd b (h1 _ hx).2
  ·exact ih h2 hx hy
theorem Nk:∀ (R K:List Row),(∀ r∈R,Flat r)→(∀ r∈K,Flat r)→AC K→(∀ k∈K,∀ r∈R,tO.lt r k=false)→(R.Pairwise fun a b=>tO.lt b a=false) →
  AC (keep K R)∧(∀ x∈keep K R,x∈K∨x∈R)∧(∀ x∈K,x∈keep K R)∧∀ r∈R,∃ o∈keep K R,Below o r
 | [],K,_,_,h,_,_=>⟨h,fun x hx=>.inl hx,fun x hx=>hx,fun r hr=>nomatch hr⟩
 | r :: R,K,fr,fk,h,hk,hr=>by
  obtain ⟨p1,p2⟩:=List.pairwise_cons.mp hr
  have fR:∀ r∈R,Flat r:=fun x hx=>fr x (List.mem_cons_of_mem _ hx)
  have f0:=fr r List.mem_cons_self
  unfold keep
  by_cases e:(K.any fun o=>Cm o r)=true
  ·rw [if_pos e]
   obtain ⟨i1,i2,i3,i4⟩:=Nk R K fR fk h (fun k hk' x hx=>hk k hk' x (List.mem_cons_of_mem _ hx)) p2
   refine ⟨i1,fun x hx=>(i2 x hx).imp id (List.mem_cons_of_mem _),i3,fun x hx=>?_⟩
   rcases List.mem_cons.mp hx with rfl | hx
   ·obtain ⟨o,ho,b⟩:=List.any_eq_true.mp e
    exact ⟨o,i3 o ho,(IP f0.nd).mp b⟩
   ·exact i4 x hx
  ·rw [if_neg e]
   have hn:∀ o∈K,¬ Below o r:=fun o ho b=>e (List.any_eq_true.mpr ⟨o,ho,(IP f0.nd).mpr b⟩)
   have hA:AC (K ++ [r]):=List.pairwise_append.mpr ⟨h,List.pairwise_singleton _ _,fun k hk' y hy=>by
    rw [List.mem_singleton.mp hy]
    refine ⟨hn k hk',fun b=>hn k hk' ?_⟩
    have:=YU f0 (fk k hk') b (hk k hk' r List.mem_cons_self)
    rw [this]
    exact Below.refl _⟩
   obtain ⟨i1,i2,i3,i4⟩:=Nk R (K ++ [r]) fR (fun x hx=>by
    rcases List.mem_append.mp hx with z | z
    ·exact fk x z
    ·rw [List.mem_singleton.mp z]; exact f0) hA (fun k hk' x hx=>by
    rcases List.mem_append.mp hk' with z | z
    ·exact hk k z x (List.mem_cons_of_mem _ hx)
    ·rw [List.mem_singleton.mp z]; exact p1 x hx) p2
   refine ⟨i1,fun x hx=>?_,fun x hx=>i3 x (List.mem_append_left _ hx),fun x hx=>?_⟩
   ·rcases i2 x hx with z | z
    ·rcases List.mem_append.mp z with z | z
     ·exact .inl z
     ·rw [List.mem_singleton.mp z]; exact .inr List.mem_cons_self
    ·exact .inr (List.mem_cons_of_mem _ z)
   ·rcases List.mem_cons.mp hx with rfl | hx
    ·exact ⟨x,i3 x (List.mem_append_right _ (List.mem_singleton.mpr rfl)),Below.refl _⟩
    ·exact i4 x hx
def lows(R:List Row):List Row:=rO.sort (keep [] (tO.sort R))
def N7(R S:List Row):Prop:=∀ s∈S,∃ r∈R,Below r s
theorem N7.trans{A B C:List Row}(h:N7 A B)(h':N7 B C):N7 A C:=fun c hc=>by
 obtain ⟨b,hb,l⟩:=h' c hc
 obtain ⟨a,ha,l'⟩:=h b hb
 exact ⟨a,ha,l'.trans l⟩
theorem N7.V5{R S:List Row}(h:∀ s∈S,∃ r∈R,r.Perm s):N7 R S:=fun s hs=>by
 obtain ⟨r,hr,p⟩:=h s hs
 exact ⟨r,hr,Below.V5 fun x hx=>p.mem_iff.mp hx⟩
structure NF (L:List Row):Prop where
 fl:∀ l∈L,Flat l
 ac:AC L
 up:L.Pairwise fun a b=>rO.lt a b=true
theorem YW{R:List Row}(h:∀ r∈R,Flat r):NF (lows R)∧(∀ l∈lows R,l∈R)∧N7 (lows R) R:=by
 have hp:=tO.Bb R
 obtain ⟨i1,i2,i3,i4⟩:=Nk (tO.sort R) [] (fun r hr=>h r (hp.mem_iff.mp hr)) (fun r hr=>nomatch hr) List.Pairwise.nil (fun k hk=>nomatch hk) ((tO.HF R).imp fun z=>tO.le_iff.mp z)
 have hq:=rO.Bb (keep [] (tO.sort R))
 have m:∀ l∈lows R,l∈R:=fun l hl=>by
  rcases i2 l (hq.mem_iff.mp hl) with z | z
  ·cases z
  ·exact hp.mem_iff.mp z
 have ac:AC (lows R):=hq.symm.pairwise i1 (fun {x y} z=>⟨z.2,z.1⟩)
 refine ⟨⟨fun l hl=>h l (m l hl),ac,?_⟩,m,fun r hr=>?_⟩
 ·refine ((rO.HF _).and ac).imp fun {a b} ⟨h1,h2⟩=>?_
  cases e:rO.lt a b with
  | true=>rfl
  | false=>
   have:a=b:=rO.tot e (rO.le_iff.mp h1)
   exact absurd (this ▸ Below.refl a) h2.1
 ·obtain ⟨o,ho,b⟩:=i4 r (hp.mem_iff.mpr hr)
  exact ⟨o,hq.mem_iff.mpr ho,b⟩
theorem NF.sub{L L':List Row}(h:NF L)(h':NF L')(d:N7 L L')(d':N7 L' L):∀ l∈L,l∈L':=fun l hl=>by
 obtain ⟨m,hm,b⟩:=d' l hl
 obtain ⟨n,hn,c⟩:=d m hm
 have e:=h.ac.eq hn hl (c.trans b)
 subst e
 rw [(h.fl _ hn).BC (h'.fl _ hm) c b]
 exact hm
theorem NF.nodup{L:List Row}(h:NF L):L.Nodup:=h.up.imp fun {a b} z e=>by rw [e,rO.irr] at z; cases z
theorem NF.one{L L':List Row}(h:NF L)(h':NF L')(d:N7 L L')(d':N7 L' L):L=L':=by
 have p:L.Perm L':=(List.perm_ext_iff_of_nodup h.nodup h'.nodup).mpr fun x=>⟨h.sub h' d d' x,h'.sub h d' d x⟩
 refine rO.one p (h.up.imp fun {a b} z=>?_) (h'.up.imp fun {a b} z=>?_) <;> exact rO.le_iff.mpr (rO.asym z)
end Nf
namespace Nf
open FD
def mx(r:Row)(f:Kn→Int):Int:=QR (r.map fun p=>f p.1 + p.2)
def vl(R:List Row)(f:Kn→Int):Int:=Pp (R.map fun r=>mx r f)
theorem gm{r:Row}{f:Kn→Int}{c:Int}(h:r≠[]):mx r f≤c ↔ ∀ p∈r,f p.1 + p.2≤c:=by
 obtain ⟨h1,h2⟩:=Ng (l:=r.map fun p=>f p.1 + p.2) (by simpa using h)
 constructor
 ·intro z p hp
  exact Int.le_trans (h2 _ (List.mem_map.mpr ⟨p,hp,rfl⟩)) z
 ·intro z
  obtain ⟨p,hp,e⟩:=List.mem_map.mp h1
  unfold mx
  rw [← e]
  exact z p hp
theorem ly{R:List Row}{f:Kn→Int}{c:Int}(h:R≠[]):vl R f≤c ↔ ∃ r∈R,mx r f≤c:=by
 obtain ⟨h1,h2⟩:=M8 (l:=R.map fun r=>mx r f) (by simpa using h)
 constructor
 ·intro z
  obtain ⟨p,hp,e⟩:=List.mem_map.mp h1
  exact ⟨p,hp,by have e:mx p f=vl R f:=e; rw [e]; exact z⟩
 ·rintro ⟨r,hr,z⟩
  exact Int.le_trans (h2 _ (List.mem_map.mpr ⟨r,hr,rfl⟩)) z
def ptf(r:Row)(far:Int):Kn→Int:=fun k=>match gt r k with
 | some x=>0 - x
 | none=>far
structure Rs (R:List Row):Prop where
 ne:R≠[]
 nn:∀ r∈R,r≠[]
 nd:∀ r∈R,(ks r).Nodup
def nf(R:List Row):List Row:=lows (R.map flat)
theorem DR{R:List Row}(n:∀ r∈R,(ks r).Nodup):NF (nf R)∧(∀ l∈nf R,∃ r∈R,l=flat r)∧N7 (nf R) R∧N7 R (nf R):=by
 obtain ⟨h1,h2,h3⟩:=YW (R:=R.map flat) fun r hr=>by
  obtain ⟨x,hx,rfl⟩:=List.mem_map.mp hr
  exact Nr (n x hx)
 have m:∀ l∈nf R,∃ r∈R,l=flat r:=fun l hl=>by
  obtain ⟨x,hx,e⟩:=List.mem_map.mp (h2 l hl)
  exact ⟨x,hx,e.symm⟩
 refine ⟨h1,m,fun r hr=>?_,fun l hl=>?_⟩
 ·obtain ⟨l,hl,b⟩:=h3 (flat r) (List.mem_map.mpr ⟨r,hr,rfl⟩)
  exact ⟨l,hl,b.perm (List.Perm.refl _) (Du r)⟩
 ·obtain ⟨r,hr,rfl⟩:=m l hl
  exact ⟨r,hr,Below.V5 fun x hx=>(Du r).mem_iff.mpr hx⟩
theorem Zw{R S:List Row}(n:∀ r∈R,(ks r).Nodup)(n':∀ r∈S,(ks r).Nodup)(d:N7 R S)(d':N7 S R):nf R=nf S:=by
 obtain ⟨a1,_,a3,a4⟩:=DR n
 obtain ⟨b1,_,b3,b4⟩:=DR n'
 exact a1.one b1 (a3.trans (d.trans b4)) (b3.trans (d'.trans a4))
theorem hX{R S:List Row}(n:∀ r∈R,(ks r).Nodup)(n':∀ r∈S,(ks r).Nodup):nf R=nf S ↔ N7 R S∧N7 S R:=by
 constructor
 ·intro e
  obtain ⟨_,_,a3,a4⟩:=DR n
  obtain ⟨_,_,b3,b4⟩:=DR n'
  rw [← e] at b3 b4
  exact ⟨a4.trans b3,b4.trans a3⟩
 ·rintro ⟨d,d'⟩
  exact Zw n n' d d'
theorem kl{R:List Row}(n:∀ r∈R,(ks r).Nodup):nf (nf R)=nf R:=by
 obtain ⟨a1,_,a3,a4⟩:=DR n
 exact Zw (fun r hr=>(a1.fl r hr).nd) n a3 a4
end Nf
local macro_rules | `(tactic| push_cast [$xs,*]) => `(tactic| simp only [FD.Ka, FD.G7, FD.LC, FD.IA, FD.Ih, FD.Fu, Bool.true_or, Bool.false_or, FD.T1, FD.Va, FD.Qh, FD.Px, FD.JQ, FD.Mr, FD.JB, FD.MH, FD.Iw, FD.LN, FD.Mz, FD.LX, FD.JZ, FD.LY, FD.Cell.UX, FD.JI, FD.JE, FD.Me, FD.Hb, FD.Kb, FD.L6, FD.Mx, FD.Jt, FD.Jz, FD.Pb, FD.JD, FD.Iu, FD.IE, FD.O7, FD.OV, FD.XO.Au, FD.Out.XR, FD.Ph, FD.Km, FD.Qa, FD.Qt, FD.U7, FD.Jk, FD.Jv, FD.Qw, FD.Mq, FD.Ju, FD.JM, FD.Kz, FD.Ky, FD.G6, FD.Uc, FD.OA, FD.Mm, FD.Mv, FD.Qn, FD.UL, FD.U9, FD.NM, FD.Uv, FD.TV, FD.Lz, FD.Qx, FD.LA, FD.Mh, FD.G5, FD.LW, FD.Ms, FD.TH, FD.Ux, FD.ID, FD.MI, FD.L1, FD.DS, FD.Iz, FD.Kj, FD.L4, FD.DZ, FD.Kd, FD.F9, FD.FI, FD.Pn, FD.PR, FD.Ox, FD.O9, FD.O5, FD.Lo.U5, List.all_cons, List.all_nil, Bool.and_true, Bool.true_and, Bool.and_false, Bool.false_and, FD.Ml, FD.MA, FD.JF, FD.IV, FD.Out.Au, FD.FC, FD.LV, FD.FH, FD.Hg, FD.BI, FD.LJ, FD.GX, FD.OR, FD.Lx, FD.Ly, FD.Pq, FD.PL, FD.G1, FD.LU, FD.JY, FD.MG, FD.MK, FD.L9, FD.JO, FD.Um, FD.U1, FD.UR, FD.J6, Option.bind_some, Option.map_some, FD.HZ, FD.Ln, FD.OP, FD.Kk, FD.L5, FD.Kw, FD.Qc, FD.L0, FD.Dt.ME, FD.Dt.MC, FD.Ip, FD.My, FD.Mc, FD.MF, FD.F4, FD.ET, FD.I8, List.map_cons, List.map_nil, List.length_cons, List.length_nil, List.cons_append, List.nil_append, List.set_cons_zero, List.set_cons_succ, List.getElem?_cons_zero, List.getElem?_cons_succ, Nat.reduceAdd, Nat.reduceSub, Nat.zero_add, Nat.sub_self, List.replicate_zero, List.replicate_succ, Nat.reduceLeDiff, if_true, if_false, Bool.false_eq_true, Bool.not_true, Bool.not_false, decide_eq_true_eq, FD.Jl, FD.KL, FD.GS, FD.G0, FD.Kh, FD.Pe, FD.JR, FD.JU, FD.Kf, FD.L3, FD.MN, FD.M7, $xs,*])
local macro_rules | `(tactic| push_cast [$xs,*] at $h:ident) => `(tactic| simp only [FD.Ka, FD.G7, FD.LC, FD.IA, FD.Ih, FD.Fu, Bool.true_or, Bool.false_or, FD.T1, FD.Va, FD.Qh, FD.Px, FD.JQ, FD.Mr, FD.JB, FD.MH, FD.Iw, FD.LN, FD.Mz, FD.LX, FD.JZ, FD.LY, FD.Cell.UX, FD.JI, FD.JE, FD.Me, FD.Hb, FD.Kb, FD.L6, FD.Mx, FD.Jt, FD.Jz, FD.Pb, FD.JD, FD.Iu, FD.IE, FD.O7, FD.OV, FD.XO.Au, FD.Out.XR, FD.Ph, FD.Km, FD.Qa, FD.Qt, FD.U7, FD.Jk, FD.Jv, FD.Qw, FD.Mq, FD.Ju, FD.JM, FD.Kz, FD.Ky, FD.G6, FD.Uc, FD.OA, FD.Mm, FD.Mv, FD.Qn, FD.UL, FD.U9, FD.NM, FD.Uv, FD.TV, FD.Lz, FD.Qx, FD.LA, FD.Mh, FD.G5, FD.LW, FD.Ms, FD.TH, FD.Ux, FD.ID, FD.MI, FD.L1, FD.DS, FD.Iz, FD.Kj, FD.L4, FD.DZ, FD.Kd, FD.F9, FD.FI, FD.Pn, FD.PR, FD.Ox, FD.O9, FD.O5, FD.Lo.U5, List.all_cons, List.all_nil, Bool.and_true, Bool.true_and, Bool.and_false, Bool.false_and, FD.Ml, FD.MA, FD.JF, FD.IV, FD.Out.Au, FD.FC, FD.LV, FD.FH, FD.Hg, FD.BI, FD.LJ, FD.GX, FD.OR, FD.Lx, FD.Ly, FD.Pq, FD.PL, FD.G1, FD.LU, FD.JY, FD.MG, FD.MK, FD.L9, FD.JO, FD.Um, FD.U1, FD.UR, FD.J6, Option.bind_some, Option.map_some, FD.HZ, FD.Ln, FD.OP, FD.Kk, FD.L5, FD.Kw, FD.Qc, FD.L0, FD.Dt.ME, FD.Dt.MC, FD.Ip, FD.My, FD.Mc, FD.MF, FD.F4, FD.ET, FD.I8, List.map_cons, List.map_nil, List.length_cons, List.length_nil, List.cons_append, List.nil_append, List.set_cons_zero, List.set_cons_succ, List.getElem?_cons_zero, List.getElem?_cons_succ, Nat.reduceAdd, Nat.reduceSub, Nat.zero_add, Nat.sub_self, List.replicate_zero, List.replicate_succ, Nat.reduceLeDiff, if_true, if_false, Bool.false_eq_true, Bool.not_true, Bool.not_false, decide_eq_true_eq, FD.Jl, FD.KL, FD.GS, FD.G0, FD.Kh, FD.Pe, FD.JR, FD.JU, FD.Kf, FD.L3, FD.MN, FD.M7, $xs,*] at $h:ident)
local macro_rules | `(tactic| simp! [$xs,*]) => `(tactic| simp -implicitDefEqProofs only [FD.Ka, FD.G7, FD.LC, FD.IA, FD.Ih, FD.Fu, Bool.true_or, Bool.false_or, FD.T1, FD.Va, FD.Qh, FD.Px, FD.JQ, FD.Mr, FD.JB, FD.MH, FD.Iw, FD.LN, FD.Mz, FD.LX, FD.JZ, FD.LY, FD.Cell.UX, FD.JI, FD.JE, FD.Me, FD.Hb, FD.Kb, FD.L6, FD.Mx, FD.Jt, FD.Jz, FD.Pb, FD.JD, FD.Iu, FD.IE, FD.O7, FD.OV, FD.XO.Au, FD.Out.XR, FD.Ph, FD.Km, FD.Qa, FD.Qt, FD.U7, FD.Jk, FD.Jv, FD.Qw, FD.Mq, FD.Ju, FD.JM, FD.Kz, FD.Ky, FD.G6, FD.Uc, FD.OA, FD.Mm, FD.Mv, FD.Qn, FD.UL, FD.U9, FD.NM, FD.Uv, FD.TV, FD.Lz, FD.Qx, FD.LA, FD.Mh, FD.G5, FD.LW, FD.Ms, FD.TH, FD.Ux, FD.ID, FD.MI, FD.L1, FD.DS, FD.Iz, FD.Kj, FD.L4, FD.DZ, FD.Kd, FD.F9, FD.FI, FD.Pn, FD.PR, FD.Ox, FD.O9, FD.O5, FD.Lo.U5, List.all_cons, List.all_nil, Bool.and_true, Bool.true_and, Bool.and_false, Bool.false_and, FD.Ml, FD.MA, FD.JF, FD.IV, FD.Out.Au, FD.FC, FD.LV, FD.FH, FD.Hg, FD.BI, FD.LJ, FD.GX, FD.OR, FD.Lx, FD.Ly, FD.Pq, FD.PL, FD.G1, FD.LU, FD.JY, FD.MG, FD.MK, FD.L9, FD.JO, FD.Um, FD.U1, FD.UR, FD.J6, Option.bind_some, Option.map_some, FD.HZ, FD.Ln, FD.OP, FD.Kk, FD.L5, FD.Kw, FD.Qc, FD.L0, FD.Dt.ME, FD.Dt.MC, FD.Ip, FD.My, FD.Mc, FD.MF, FD.F4, FD.ET, FD.I8, List.map_cons, List.map_nil, List.length_cons, List.length_nil, List.cons_append, List.nil_append, List.set_cons_zero, List.set_cons_succ, List.getElem?_cons_zero, List.getElem?_cons_succ, Nat.reduceAdd, Nat.reduceSub, Nat.zero_add, Nat.sub_self, List.replicate_zero, List.replicate_succ, Nat.reduceLeDiff, if_true, if_false, Bool.false_eq_true, Bool.not_true, Bool.not_false, decide_eq_true_eq, FD.Jl, FD.KL, FD.GS, FD.G0, FD.Kh, FD.Pe, FD.JR, FD.JU, FD.Kf, FD.L3, FD.MN, FD.M7, $xs,*])
local macro_rules | `(tactic| simp_all! [$xs,*]) => `(tactic| simp -implicitDefEqProofs only [FD.Ka, FD.G7, FD.LC, FD.IA, FD.Ih, FD.Fu, Bool.true_or, Bool.false_or, FD.T1, FD.Va, FD.Qh, FD.Px, FD.JQ, FD.Mr, FD.JB, FD.MH, FD.Iw, FD.LN, FD.Mz, FD.LX, FD.JZ, FD.LY, FD.Cell.UX, FD.JI, FD.JE, FD.Me, FD.Hb, FD.Kb, FD.L6, FD.Mx, FD.Jt, FD.Jz, FD.Pb, FD.JD, FD.Iu, FD.IE, FD.O7, FD.OV, FD.XO.Au, FD.Out.XR, FD.Ph, FD.Km, FD.Qa, FD.Qt, FD.U7, FD.Jk, FD.Jv, FD.Qw, FD.Mq, FD.Ju, FD.JM, FD.Kz, FD.G6, FD.Uc, FD.OA, FD.Mm, FD.Mv, FD.Qn, FD.UL, FD.U9, FD.NM, FD.Uv, FD.TV, FD.Lz, FD.Qx, FD.LA, FD.Mh, FD.G5, FD.LW, FD.Ms, FD.TH, FD.Ux, FD.ID, FD.MI, FD.L1, FD.DS, FD.Iz, FD.Kj, FD.L4, FD.DZ, FD.Kd, FD.F9, FD.FI, FD.Pn, FD.PR, FD.Ox, FD.O9, FD.O5, FD.Lo.U5, List.all_cons, List.all_nil, Bool.and_true, Bool.true_and, Bool.and_false, Bool.false_and, FD.Ml, FD.MA, FD.JF, FD.IV, FD.Out.Au, FD.FC, FD.LV, FD.FH, FD.Hg, FD.BI, FD.LJ, FD.GX, FD.OR, FD.Lx, FD.Ly, FD.Pq, FD.PL, FD.G1, FD.LU, FD.JY, FD.MG, FD.MK, FD.L9, FD.JO, FD.Um, FD.U1, FD.UR, FD.J6, Option.bind_some, Option.map_some, FD.HZ, FD.Ln, FD.OP, FD.Kk, FD.L5, FD.Kw, FD.Qc, FD.L0, FD.Dt.ME, FD.Dt.MC, FD.Ip, FD.My, FD.Mc, FD.MF, FD.F4, FD.ET, FD.I8, List.map_cons, List.map_nil, List.length_cons, List.length_nil, List.cons_append, List.nil_append, List.set_cons_zero, List.set_cons_succ, List.getElem?_cons_zero, List.getElem?_cons_succ, Nat.reduceAdd, Nat.reduceSub, Nat.zero_add, Nat.sub_self, List.replicate_zero, List.replicate_succ, Nat.reduceLeDiff, if_true, if_false, Bool.false_eq_true, Bool.not_true, Bool.not_false, decide_eq_true_eq, FD.Jl, FD.KL, FD.GS, FD.G0, FD.Kh, FD.Pe, FD.JR, FD.JU, FD.Kf, FD.L3, FD.MN, FD.M7, $xs,*])
local macro_rules | `(tactic| dsimp! [$xs,*]) => `(tactic| simp -implicitDefEqProofs only [FD.Ka, FD.G7, FD.LC, FD.IA, FD.Ih, FD.Fu, Bool.true_or, Bool.false_or, FD.T1, FD.Va, FD.Qh, FD.Px, FD.JQ, FD.Mr, FD.JB, FD.MH, FD.Iw, FD.LN, FD.Mz, FD.LX, FD.JZ, FD.LY, FD.Cell.UX, FD.JI, FD.JE, FD.Me, FD.Hb, FD.Kb, FD.L6, FD.Mx, FD.Jt, FD.Jz, FD.Pb, FD.JD, FD.Iu, FD.IE, FD.O7, FD.OV, FD.XO.Au, FD.Out.XR, FD.Ph, FD.Km, FD.Qa, FD.Qt, FD.U7, FD.Jk, FD.Jv, FD.Qw, FD.Mq, FD.Ju, FD.JM, FD.Kz, FD.Ky, FD.G6, FD.Uc, FD.OA, FD.Mm, FD.Mv, FD.Qn, FD.UL, FD.U9, FD.NM, FD.Uv, FD.TV, FD.Lz, FD.Qx, FD.LA, FD.Mh, FD.G5, FD.LW, FD.Ms, FD.TH, FD.Ux, FD.ID, FD.MI, FD.L1, FD.DS, FD.Iz, FD.Kj, FD.L4, FD.DZ, FD.Kd, FD.F9, FD.FI, FD.Pn, FD.PR, FD.Ox, FD.O9, FD.O5, FD.Lo.U5, List.all_cons, List.all_nil, Bool.and_true, Bool.true_and, Bool.and_false, Bool.false_and, FD.Ml, FD.MA, FD.JF, FD.IV, FD.Out.Au, FD.FC, FD.LV, FD.FH, FD.Hg, FD.BI, FD.LJ, FD.GX, FD.OR, FD.Lx, FD.Ly, FD.Pq, FD.PL, FD.G1, FD.LU, FD.JY, FD.MG, FD.MK, FD.L9, FD.JO, FD.Um, FD.U1, FD.UR, FD.J6, Option.bind_some, Option.map_some, FD.Ln, FD.OP, FD.Kk, FD.L5, FD.Kw, FD.Qc, FD.L0, FD.Dt.ME, FD.Dt.MC, FD.Ip, FD.My, FD.Mc, FD.MF, FD.F4, FD.ET, FD.I8, List.map_cons, List.map_nil, List.length_cons, List.length_nil, List.cons_append, List.nil_append, List.set_cons_zero, List.set_cons_succ, List.getElem?_cons_zero, List.getElem?_cons_succ, Nat.reduceAdd, Nat.reduceSub, Nat.zero_add, Nat.sub_self, List.replicate_zero, List.replicate_succ, Nat.reduceLeDiff, if_true, if_false, Bool.false_eq_true, Bool.not_true, Bool.not_false, decide_eq_true_eq, FD.Jl, FD.KL, FD.GS, FD.G0, FD.Kh, FD.Pe, FD.JR, FD.JU, FD.Kf, FD.L3, FD.MN, FD.M7, $xs,*])
namespace Lk15
open PySem L2 FD SX TL
variable {K:PySem.W.Frag} {cs:Cs}
structure Bx where
 c:Int
 n:Nat
 g:Bool
def Jr(b:Bx):Cell:=.lst [.int b.c,.int b.n,.bl b.g]
theorem JX{i j:Int}(h:-(2 ^ 64) < j∧j < 2 ^ 64):gI Hj (· * ·) (.int i) (.int j)=some (.int (i * j)):=by
 have e:Hj i j=true:=by
  unfold Hj
  rw [show gZ i j=true from decide_eq_true (.inr h),Bool.or_true]
 rw [HZ,if_pos e]
theorem Ti{i j:Int}(hj:0 < j)(h2:j < 2 ^ 100):gI QQ Int.fdiv (.int i) (.int j)=some (.int (i.fdiv j)):=by
 rw [HZ,if_pos]
 refine decide_eq_true ⟨by omega,?_⟩
 have z:j.natAbs≠0:=by omega
 have:j.natAbs.log2 < 100:=(Nat.log2_lt z).mpr (by omega)
 omega
theorem Nb{i j:Int}(hj:0 < j):gI Zb Int.fmod (.int i) (.int j)=some (.int (i.fmod j)):=by
 have h:Zb i j=true:=decide_eq_true (by omega)
 rw [HZ,if_pos h]
theorem md{s:Int}(hs:0 < s)(i:Int):0≤i.fmod s∧i.fmod s < s:=⟨Int.fmod_nonneg_of_pos _ hs,Int.fmod_lt_of_pos _ hs⟩
def f1(c:Int)(n:Nat):Int:=(c * (48271 + 69621 * ((n:Int) + 1))).fmod 2147483647
def f2(c:Int)(n:Nat):Int:=(f1 c n * f1 c n + f1 c n * ((n:Int) + 1 + 1013)).fmod 2147483629
def f3(c:Int)(n:Nat):Int:=(f2 c n * ((f2 c n).fdiv 7 + 40692)).fmod 2147483587
theorem gU{R:List Cell}{j:Nat}{b:Bx}(hb:R[j]? = some (Jr b))(hn:b.n≤1000000000){s:Int}(h1:1≤s)(h2:s < 2 ^ 40):
  ∃ (v:Int) (b':Bx),Ao K cs [.ad j,.int s] R=.ok (.int v) (R.set j (Jr b'))∧0≤v∧v < s∧b'.n=b.n + 1:=by
 obtain ⟨c,n,g⟩:=b
 simp only at hn
 have hj:j < R.length:=by
  rcases Nat.lt_or_ge j R.length with h | h
  ·exact h
  ·rw [List.getElem?_eq_none h] at hb; cases hb
 have hs:∀ c,(R.set j c)[j]? = some c:=fun c=>List.getElem?_set_self hj
 have hb:R[j]? = some (.lst [.int c,.int n,.bl g]):=hb
 have x0:ixN 3 0=some 0:=rfl
 have x1:ixN 3 1=some 1:=rfl
 have x2:ixN 3 2=some 2:=rfl
 have en:(n:Int) + 1=((n + 1:Nat):Int):=by omega
 have sp:0 < s:=by omega
 have ed:∀ cells,Ao K cs [.ad j,.int s] cells=runM 6 (Hv K cs) [.ad j,.int s] cells:=fun _=>E7 rfl
 rw [ed]
 unfold Hv
 cases g with
 | true=>
  refine ⟨c.fmod s,⟨c.fdiv s,n + 1,true⟩,?_,(md sp _).1,(md sp _).2,rfl⟩
  have d1:gI QQ Int.fdiv (.int c) (.int s)=some (.int (c.fdiv s)):=Ti sp (by omega)
  simp! [hb,hs,List.set_set,x0,x1,x2,Nb sp,d1]
  rfl
 | false=>
  refine ⟨((f3 c n).fdiv 16 + 5 * ((n:Int) + 1) + ((n:Int) + 1).fdiv 3).fmod s,⟨c,n + 1,false⟩,?_,(md sp _).1,(md sp _).2,rfl⟩
  have k1:=md (s:=2147483647) (by decide) (c * (48271 + 69621 * ((n:Int) + 1)))
  have k1':0≤f1 c n∧f1 c n < 2147483647:=k1
  have k2':0≤f2 c n∧f2 c n < 2147483629:=md (by decide) _
  have k3:0≤(f2 c n).fdiv 7∧(f2 c n).fdiv 7 < 2147483629:=by
   rw [Int.fdiv_eq_ediv_of_nonneg _ (by decide)]
   omega
  have e1:gI Hj (· * ·) (.int 69621) (.int ((n:Int) + 1))=some (.int (69621 * ((n:Int) + 1))):=JX (by omega)
  have e2:gI Hj (· * ·) (.int c) (.int (48271 + 69621 * ((n:Int) + 1)))=some (.int (c * (48271 + 69621 * ((n:Int) + 1)))):=JX (by omega)
  have q1:gI Zb Int.fmod (.int (c * (48271 + 69621 * ((n:Int) + 1)))) (.int 2147483647)=some (.int (f1 c n)):=Nb (by decide)
  have e3:gI Hj (· * ·) (.int (f1 c n)) (.int (f1 c n))=some (.int (f1 c n * f1 c n)):=JX (by omega)
  have e4:gI Hj (· * ·) (.int (f1 c n)) (.int ((n:Int) + 1 + 1013))=some (.int (f1 c n * ((n:Int) + 1 + 1013))):=JX (by omega)
  have q2:gI Zb Int.fmod (.int (f1 c n * f1 c n + f1 c n * ((n:Int) + 1 + 1013))) (.int 2147483629)=some (.int (f2 c n)):=Nb (by decide)
  have d7:gI QQ Int.fdiv (.int (f2 c n)) (.int 7)=some (.int ((f2 c n).fdiv 7)):=Ti (by decide) (by decide)
  have e5:gI Hj (· * ·) (.int (f2 c n)) (.int ((f2 c n).fdiv 7 + 40692))=some (.int (f2 c n * ((f2 c n).fdiv 7 + 40692))):=JX (by omega)
  have q3:gI Zb Int.fmod (.int (f2 c n * ((f2 c n).fdiv 7 + 40692))) (.int 2147483587)=some (.int (f3 c n)):=Nb (by decide)
  have d16:gI QQ Int.fdiv (.int (f3 c n)) (.int 16)=some (.int ((f3 c n).fdiv 16)):=Ti (by decide) (by decide)
  have e6:gI Hj (· * ·) (.int 5) (.int ((n:Int) + 1))=some (.int (5 * ((n:Int) + 1))):=JX (by omega)
  have d3:gI QQ Int.fdiv (.int ((n:Int) + 1)) (.int 3)=some (.int (((n:Int) + 1).fdiv 3)):=Ti (by decide) (by decide)
  simp! [hb,hs,List.set_set,x0,x1,x2,e1,e2,e3,e4,e5,e6,q1,q2,q3,d7,d16,d3,Nb sp]
  rfl
theorem WV(ns:List Int){k:Nat}(hk:k≤1000)(hl:ns.length≤63)(R:List Cell):
  ∃ b:Bx,Bz K cs [.fls (ns.map .int),.int k] R=.ok (.ad R.length) (R ++ [Jr b])∧b.n=k:=by
 have ed:Bz K cs [.fls (ns.map .int),.int k] R=runM 3 (Jc K cs) [.fls (ns.map .int),.int k] R:=E7 rfl
 rw [ed]
 unfold Jc
 have gl:BO [.fls (ns.map Dt.int)]=some (.int ns.length):=by rw [aq,List.length_map]
 have p10:gI YY (fun i j=>i ^ j.toNat) (.int 10) (.int 18)=some (.int (10 ^ 18)):=by
  rw [HZ,if_pos (by decide)]
  rfl
 by_cases h:(k:Int) < (ns.length:Int)
 ·obtain ⟨x,hx,_⟩:=OB (xs:=ns) (i:=(k:Int)) (by omega) h
  have hat:atI (ns.map Dt.int) (k:Int)=some (.int x):=by rw [Of,hx]; rfl
  refine ⟨⟨x,k,decide ((10:Int) ^ 18≤x)⟩,?_,rfl⟩
  simp! [gl,h,decide_true,hat,p10]
  rfl
 ·obtain ⟨ys,hy⟩:=aM Dt.int ns none (some 63)
  have gs:QY [.lst (ys.map Dt.int)]=some (.int ys.sum):=by
   show (Jn (ys.map Dt.int)).map _=_
   rw [Iy]
   rfl
  have e1:gI Hj (· * ·) (.int 7) (.int (k:Int))=some (.int (7 * (k:Int))):=JX (by omega)
  have e2:∀ i:Int,gI Hj (· * ·) (.int i) (.int (48271 + 7 * (k:Int)))=some (.int (i * (48271 + 7 * (k:Int)))):=fun i=>JX (by omega)
  refine ⟨⟨(ys.sum * (48271 + 7 * (k:Int))).fmod 1000003,k,decide ((10:Int) ^ 18≤(ys.sum * (48271 + 7 * (k:Int))).fmod 1000003)⟩,?_,rfl⟩
  simp! [gl,h,decide_false,hy,gs,e1,e2,Nb (by decide:(0:Int) < 1000003),p10]
  rfl
structure At (R R':List Cell) (j:Nat) (b b':Bx) (k:Nat):Prop where
 gq:R[j]? = some (Jr b)
 eq:R'=R.set j (Jr b')
 le:b.n≤b'.n
 up:b'.n≤b.n + k
theorem Ki{α:Type}{R:List α}{j:Nat}{x:α}(h:R[j]? = some x):j < R.length:=by
 rcases Nat.lt_or_ge j R.length with z | z
 ·exact z
 ·rw [List.getElem?_eq_none z] at h; cases h
theorem At.OF{R R':List Cell}{j k:Nat}{b b':Bx}(h:At R R' j b b' k):R'[j]? = some (Jr b'):=by rw [h.eq]; exact List.getElem?_set_self (Ki h.gq)
theorem At.len{R R':List Cell}{j k:Nat}{b b':Bx}(h:At R R' j b b' k):R'.length=R.length:=by rw [h.eq,List.length_set]
theorem At.trans{R R' R'':List Cell}{j k m:Nat}{b b' b'':Bx}(h:At R R' j b b' k)(h':At R' R'' j b' b'' m):At R R'' j b b'' (k + m):=
 ⟨h.gq,by rw [h'.eq,h.eq,List.set_set],Nat.le_trans h.le h'.le,by have:=h.up; have:=h'.up; omega⟩
theorem At.mono{R R':List Cell}{j k m:Nat}{b b':Bx}(h:At R R' j b b' k)(hm:k≤m):At R R' j b b' m:=⟨h.gq,h.eq,h.le,by have:=h.up; omega⟩
theorem At.refl{R:List Cell}{j:Nat}{b:Bx}(h:R[j]? = some (Jr b)):At R R j b b 0:=⟨h,by
 refine (List.ext_getElem? fun i=>?_).symm
 by_cases e:j=i
 ·rw [← e,List.getElem?_set_self (Ki h),h]
 ·exact List.getElem?_set_ne e,Nat.le_refl _,Nat.le_refl _⟩
theorem At.ne{R R':List Cell}{j k i:Nat}{b b':Bx}(h:At R R' j b b' k)(hi:i≠j):R'[i]? = R[i]?:=by rw [h.eq]; exact List.getElem?_set_ne fun e=>hi e.symm
theorem JN{R:List Cell}{j:Nat}{b:Bx}(hb:R[j]? = some (Jr b))(hn:b.n≤1000000000){s:Int}(h1:1≤s)(h2:s < 2 ^ 40):
  ∃ (v:Int) (R':List Cell) (b':Bx),Ao K cs [.ad j,.int s] R=.ok (.int v) R'∧0≤v∧v < s∧At R R' j b b' 1:=by
 obtain ⟨v,b',e,v0,v1,n1⟩:=gU (K:=K) (cs:=cs) hb hn h1 h2
 exact ⟨v,_,b',e,v0,v1,hb,rfl,by omega,by omega⟩
end Lk15
namespace Lk15
open PySem L2 FD SX TL Nf
variable {K:PySem.W.Frag} {cs:Cs}
theorem Xp(l:Kn):(S l).cps.toList=l:=by simp [S]
theorem j3(x:Str):S x.cps.toList=x:=by
 apply ext_tl
 simp [S,TL.tl]
def sD(l:Kn):Dt:=.str (S l)
def sg(x:String):Kn:=(Str.ofString x).cps.toList
theorem jZ(x:String):Dt.str (Str.ofString x)=sD (sg x):=by unfold sD sg; rw [j3]
theorem Qp(x:String):Str.ofString x=S (sg x):=by unfold sg; rw [j3]
structure Nm (k:Kn):Prop where
 ne:k≠[]
 le:k.length≤30
 ch:∀ c∈k,c < 128
def nmB(k:Kn):Bool:=decide (k≠[]) && decide (k.length≤30) && k.all fun c=>decide (c < 128)
theorem j9{k:Kn}(h:nmB k=true):Nm k:=by
 unfold nmB at h
 rw [Bool.and_eq_true,Bool.and_eq_true,decide_eq_true_eq,decide_eq_true_eq,List.all_eq_true] at h
 exact ⟨h.1.1,h.1.2,fun c hc=>of_decide_eq_true (h.2 c hc)⟩
theorem aj{a b:Kn}(h:a.length + b.length≤16777216):AX (.str (S a)) (.str (S b))=some (.str (S (a ++ b))):=by
 rw [ae,S_len,S_len,if_pos h,S_cat]
theorem g_ix{a:Kn}{i:Int}{c:Nat}(h:a.length≤16777216)(hc:atI a i=some c):AW (.str (S a)) (.int i)=some (.str (S [c])):=by
 rw [Wj,S_len,if_pos h,Xp,hc]
 rfl
theorem a8{xs:Kn}{i:Int}(h0:0≤i)(h1:i < (xs.length:Int))(hl:xs.length≤1000):∃ c∈xs,AW (.str (S xs)) (.int i)=some (.str (S [c])):=by
 obtain ⟨c,hc,hm⟩:=OB h0 h1
 exact ⟨c,List.mem_of_getElem? hm,g_ix (by omega) hc⟩
theorem aB{xs:List Kn}{i:Int}(h0:0≤i)(h1:i < (xs.length:Int)):∃ z∈xs,atI (xs.map sD) i=some (.str (S z)):=by
 obtain ⟨z,hz,hm⟩:=OB h0 h1
 exact ⟨z,List.mem_of_getElem? hm,by rw [Of,hz]; rfl⟩
def Q3:Kn:=sg "abcdefghijklmnopqrstuvwxyz"
def decS:Kn:=sg "0123456789."
def af:Kn:=Q3 ++ decS
theorem Xq:Q3.length=26:=by decide
theorem Wq:af.length=37:=by decide
theorem bR:∀ c∈af,c < 128:=by decide
theorem d8:∀ c∈Q3,c < 128:=by decide
def wds:List Kn:=["b","a","a.2","ab","cut","a.3","m1","z.9z"].map sg
theorem jV:[Dt.str "b",Dt.str "a",Dt.str "a.2",Dt.str "ab",Dt.str "cut",Dt.str "a.3",Dt.str "m1",Dt.str "z.9z"]=wds.map sD:=by
 simp only [wds,List.map_cons,List.map_nil]
 repeat' rw [← jZ]
theorem iS:∀ z∈wds,nmB z=true:=by decide +kernel
theorem Fb(n:Nat):(Ik 0 n).length=n:=JA 0 n
theorem Ru{j:Nat}{d0:Option Lo}:∀ (ds:List Dt) (z:Kn) (x:Option Lo) (R:List Cell) (b:Bx),R[j]? = some (Jr b)→b.n + ds.length≤1000000000→z.length + ds.length≤1000→∃ (t:Kn) (x':Option Lo) (R':List Cell) (b':Bx),At R R' j b b' ds.length∧t.length=ds.length∧(∀ c∈t,c∈af) ∧
  BA (Ai 4) (Bi 2 (FD.x2 (xP (Aa 2)) (FD.x2 (xP (FD.e2 (Aa 1) (eC (.str "0123456789.")) AX)) (Aw 5 (Ao K cs) (xP (Ab (Aa 0) (Ab (eC (.int 37)) Ag))) [0]) AW) AX) [2,1]) ds [some (.sh (.ad j)),some (.sh (.str (S Q3))),some (.sh (.str (S z))),d0,x,some (.mh R)] =
   .ok .nx [some (.sh (.ad j)),some (.sh (.str (S Q3))),some (.sh (.str (S (z ++ t)))),d0,x',some (.mh R')]
 | [],z,x,R,b,hb,_,_=>⟨[],x,R,b,At.refl hb,rfl,(fun c h=>nomatch h),by rw [List.append_nil]; rfl⟩
 | d :: ds,z,x,R,b,hb,hn,hz=>by
  simp only [List.length_cons] at hn hz
  obtain ⟨v,R1,b1,t1,v0,v1,s1⟩:=JN (K:=K) (cs:=cs) hb (by omega) (s:=37) (by decide) (by decide)
  obtain ⟨c,hc,hix⟩:=a8 (xs:=af) v0 (by rw [Wq]; exact v1) (by rw [Wq]; decide)
  have:=s1.up
  obtain ⟨t,x',R',b',s2,hl,ht,e⟩:=Ru (j:=j) (d0:=d0) ds (z ++ [c]) (some (.sh d)) R1 b1 s1.OF (by omega) (by rw [List.length_append,List.length_singleton]; omega)
  refine ⟨c :: t,x',R',b',?_,by rw [List.length_cons,hl]; rfl,?_,?_⟩
  ·rw [List.length_cons,Nat.add_comm]
   exact s1.trans s2
  ·intro y hy
   rcases List.mem_cons.mp hy with rfl | hy
   ·exact hc
   ·exact ht y hy
  ·rw [Cc]
   have gs:AX (.str (S Q3)) (.str (Str.ofString "0123456789."))=some (.str (S af)):=by
    rw [Qp]
    exact aj (by decide)
   have gc:AX (.str (S z)) (.str (S [c]))=some (.str (S (z ++ [c]))):=aj (by simp only [List.length_singleton]; omega)
   simp! [gs,t1,hix,gc]
   rw [show z ++ c :: t=z ++ [c] ++ t by simp]
   exact e
theorem jG{R:List Cell}{j:Nat}{b:Bx}(hb:R[j]? = some (Jr b))(hn:b.n≤900000000):
  ∃ (z:Kn) (R':List Cell) (b':Bx),EJ K cs [.ad j] R=.ok (.str (S z)) R'∧Nm z∧At R R' j b b' 20:=by
 have ed:EJ K cs [.ad j] R=runM 5 (Hy K cs) [.ad j] R:=E7 rfl
 rw [ed]
 unfold Hy
 obtain ⟨v,R1,b1,t1,v0,v1,s1⟩:=JN (K:=K) (cs:=cs) hb (by omega) (s:=3) (by decide) (by decide)
 have u1:=s1.up
 by_cases hv:0 < v
 ·obtain ⟨w,R2,b2,t2,w0,w1,s2⟩:=JN (K:=K) (cs:=cs) s1.OF (by omega) (s:=8) (by decide) (by decide)
  obtain ⟨z,hz,hix⟩:=aB (xs:=wds) w0 w1
  rw [← jV] at hix
  refine ⟨z,R2,b2,?_,j9 (iS z hz),(s1.trans s2).mono (by decide)⟩
  simp! [t1,hv,decide_true,t2,hix]
 ·obtain ⟨w,R2,b2,t2,w0,w1,s2⟩:=JN (K:=K) (cs:=cs) s1.OF (by omega) (s:=26) (by decide) (by decide)
  have u2:=s2.up
  obtain ⟨c,hc,hix⟩:=a8 (xs:=Q3) w0 (by rw [Xq]; exact w1) (by rw [Xq]; decide)
  obtain ⟨y,R3,b3,t3,y0,y1,s3⟩:=JN (K:=K) (cs:=cs) s2.OF (by omega) (s:=4) (by decide) (by decide)
  have u3:=s3.up
  obtain ⟨x,R4,b4,t4,x0,x1,s4⟩:=JN (K:=K) (cs:=cs) s3.OF (by omega) (s:=8) (by decide) (by decide)
  have u4:=s4.up
  obtain ⟨q,hq,q0,q1⟩:∃ q:Int,q=(if x=5 then 13 else y)∧0≤q∧q≤13:=by
   refine ⟨_,rfl,?_,?_⟩ <;> split <;> omega
  obtain ⟨t,x',R5,b5,s5,hl,ht,e⟩:=Ru (K:=K) (cs:=cs) (d0:=some (.sh (.int q))) (Ik 0 q.toNat) [c] none R4 b4 s4.OF (by rw [Fb]; omega) (by rw [Fb]; simp only [List.length_singleton]; omega)
  rw [Fb] at hl s5
  refine ⟨[c] ++ t,R5,b5,?_,?_,((((s1.trans s2).trans s3).trans s4).trans s5).mono (by omega)⟩
  ·have hs:ED q=true:=decide_eq_true (by omega)
   have hlet:Str.ofString "abcdefghijklmnopqrstuvwxyz" = S Q3:=Qp _
   have hf:∀ ρ:FD.Env,ρ=[some (.sh (.ad j)),some (.sh (.str (S Q3))),some (.sh (.str (S [c]))),some (.sh (.int q)),none,some (.mh R4)]→A1 (Ai 4) (Cj (Ab (Aa 3) Ag)) [] (Bi 2 (FD.x2 (xP (Aa 2)) (FD.x2 (xP (FD.e2 (Aa 1) (eC (.str "0123456789.")) AX)) (Aw 5 (Ao K cs) (xP (Ab (Aa 0) (Ab (eC (.int 37)) Ag))) [0]) AW) AX) [2,1]) ρ=.ok .nx [some (.sh (.ad j)),some (.sh (.str (S Q3))),some (.sh (.str (S ([c] ++ t)))),some (.sh (.int q)),x',some (.mh R5)]:=fun ρ hρ=>by
    subst hρ
    rw [Ci]
    simp! [I7,hs,e]
   by_cases h5:x=5
   ·rw [if_pos h5] at hq
    subst hq h5
    simp! [hlet,t1,hv,decide_false,t2,hix,t3,t4,beq_self_eq_true,hf]
   ·rw [if_neg h5] at hq
    subst hq
    have h5':(x == (5:Int))=false:=beq_eq_false_iff_ne.mpr h5
    simp! [hlet,t1,hv,decide_false,t2,hix,t3,t4,h5',hf]
  ·refine ⟨by simp,by simp only [List.length_append,List.length_singleton]; omega,fun y hy=>?_⟩
   rcases List.mem_append.mp hy with hy | hy
   ·rw [List.mem_singleton.mp hy]; exact d8 c hc
   ·exact bR y (ht y hy)
theorem JC{q:Int}(h0:0≤q)(h1:q≤100000):ED q=true:=decide_eq_true (by omega)
def nt(k:Nat):Kn:=sg (toString (k:Int))
theorem kT:∀ n:Nat,n < 23→((List.range n).map nt).Nodup:=by decide +kernel
theorem c4:∀ k:Nat,k < 22→KO [.int (k:Int)]=some (.str (S (nt k)))∧(nt k).length≤2∧∀ c∈nt k,c < 128:=by
 have h:∀ k:Nat,k < 22→((Int.natAbs (k:Int)).log2 < 1920)∧((sg (toString (k:Int))).length≤2∧∀ c∈sg (toString (k:Int)),c < 128):=by decide +kernel
 intro k hk
 obtain ⟨h1,h2,h3⟩:=h k hk
 refine ⟨?_,h2,h3⟩
 rw [Zz,if_pos h1]
 show some (Dt.str (Str.ofString _))=_
 rw [Qp]
 rfl
theorem SK(k:Kn):∀ N:List Kn,bJ (.str (S k)) (N.map sD)=decide (k∈N)
 | []=>rfl
 | a :: N=>by
  have ih:=SK k N
  show (eqF (sD a) (.str (S k)) || bJ (.str (S k)) (N.map sD))=_
  rw [ih]
  have e1:eqF (sD a) (.str (S k))=decide (k=a):=by
   show (S a == S k)=_
   by_cases h:k=a
   ·rw [decide_eq_true h,h]
    exact beq_self_eq_true _
   ·rw [decide_eq_false h]
    exact beq_eq_false_iff_ne.mpr fun z=>h (Nf.S_inj z).symm
  rw [e1]
  simp [List.mem_cons]
theorem fq(N:List Kn):(N.map sD).all Dt.flat=true:=by
 rw [List.all_map]
 exact List.all_eq_true.mpr fun _ _=>rfl
theorem Mo(k:Kn)(N:List Kn):Le (.str (S k)) (.lst (N.map sD))=some (bJ (.str (S k)) (N.map sD)):=by
 show ((some (N.map sD)).bind fun ds=>if (Dt.str (S k)).flat=true∧ds.all Dt.flat=true then some (bJ (.str (S k)) ds) else none)=_
 rw [Option.bind_some,if_pos ⟨rfl,fq N⟩]
theorem OX{N:List Kn}:∀ (l:List Nat) (x:Option Lo),(∀ k∈l,k < 22) →
  (∃ x',(∀ k∈l,sg "n" ++ nt k∈N)∧BA (Ai 1) (CF (FD.t2 (FD.e2 (eC (.str "n")) (eB KO (Ab (Aa 1) Ag)) AX) (Aa 0) (CT Le)) (AA (FD.e2 (eC (.str "n")) (eB KO (Ab (Aa 1) Ag)) AX) []) Ar) (l.map fun k:Nat=>.int (k:Int)) [some (.sh (.lst (N.map sD))),x]=.ok .nx [some (.sh (.lst (N.map sD))),x']) ∨
  ∃ z ρ',Nm z∧z∉N∧BA (Ai 1) (CF (FD.t2 (FD.e2 (eC (.str "n")) (eB KO (Ab (Aa 1) Ag)) AX) (Aa 0) (CT Le)) (AA (FD.e2 (eC (.str "n")) (eB KO (Ab (Aa 1) Ag)) AX) []) Ar) (l.map fun k:Nat=>.int (k:Int)) [some (.sh (.lst (N.map sD))),x]=.ok (.rt (.str (S z))) ρ'
 | [],x,_=>.inl ⟨x,(fun k hk=>nomatch hk),rfl⟩
 | k :: l,x,h=>by
  obtain ⟨ht,tl,tc⟩:=c4 k (h k List.mem_cons_self)
  obtain ⟨t,et⟩:∃ t,t=nt k:=⟨_,rfl⟩
  rw [← et] at ht tl tc
  have hn:Str.ofString "n" = S (sg "n"):=Qp _
  have l1:(sg "n").length=1:=by decide +kernel
  have gc:AX (.str (Str.ofString "n")) (.str (S t))=some (.str (S (sg "n" ++ t))):=by
   rw [hn]
   exact aj (by omega)
  rw [List.map_cons,Cc]
  cases hi:bJ (.str (S (sg "n" ++ t))) (N.map sD) with
  | true=>
   rcases OX (N:=N) l (some (.sh (.int k))) (fun k hk=>h k (List.mem_cons_of_mem _ hk)) with ⟨x',ha,e⟩ | ⟨z,ρ',hz,hzN,e⟩
   ·refine .inl ⟨x',fun q hq=>?_,?_⟩
    ·rcases List.mem_cons.mp hq with eq | hq
     ·rw [eq,← et]
      rw [SK] at hi
      exact of_decide_eq_true hi
     ·exact ha q hq
    simp! [ht,gc,Mo,hi,e]
   ·refine .inr ⟨z,ρ',hz,hzN,?_⟩
    simp! [ht,gc,Mo,hi,e]
  | false=>
   refine .inr ⟨sg "n" ++ t,[some (.sh (.lst (N.map sD))),some (.sh (.int k))],⟨by simp [show sg "n" = [110] by decide +kernel],?_,fun c hc=>?_⟩,?_,?_⟩
   ·rw [List.length_append,l1]; omega
   ·rcases List.mem_append.mp hc with hc | hc
    ·rw [show sg "n" = [110] by decide +kernel,List.mem_singleton] at hc; omega
    ·exact tc c hc
   ·rw [SK] at hi
    exact of_decide_eq_false hi
   ·simp! [ht,gc,Mo,hi]
theorem KH{α:Type}[BEq α][LawfulBEq α]:∀ {l m:List α},l.Nodup→(∀ x∈l,x∈m)→l.length≤m.length
 | [],m,_,_=>Nat.zero_le _
 | a :: l,m,n,h=>by
  obtain ⟨n1,n2⟩:=List.nodup_cons.mp n
  have ha:=h a List.mem_cons_self
  have i:=KH (l:=l) (m:=m.erase a) n2 fun x hx=>by
   have:x≠a:=fun e=>n1 (e ▸ hx)
   exact (List.mem_erase_of_ne this).mpr (h x (List.mem_cons_of_mem _ hx))
  rw [List.length_erase_of_mem ha] at i
  have:0 < m.length:=List.length_pos_of_mem ha
  rw [List.length_cons]
  omega
theorem e7{N:List Kn}(hl:N.length≤20):∃ z,Nm z∧z∉N∧Ec K cs [.lst (N.map sD)]=.ok (.str (S z)):=by
 have ed:Ec K cs [.lst (N.map sD)]=Ax 2 (GA K cs) [.lst (N.map sD)]:=AE rfl
 rw [ed]
 unfold GA
 have gl:BO [.lst (N.map sD)]=some (.int (N.length:Nat)):=by rw [GY,List.length_map]
 have hs:ED ((N.length:Int) + 1)=true:=JC (by omega) (by omega)
 have et:((N.length:Int) + 1).toNat=N.length + 1:=by omega
 have er:Ik 0 (N.length + 1)=(List.range (N.length + 1)).map fun k:Nat=>.int (k:Int):=by
  unfold Ik
  exact List.map_congr_left fun k _=>by rw [Int.zero_add]
 have hq:A1 (Ai 1) (Cj (Ab (e2 (eB BO (Ab (Aa 0) Ag)) (eC (.int 1)) AX) Ag)) [] (CF (FD.t2 (FD.e2 (eC (.str "n")) (eB KO (Ab (Aa 1) Ag)) AX) (Aa 0) (CT Le)) (AA (FD.e2 (eC (.str "n")) (eB KO (Ab (Aa 1) Ag)) AX) []) Ar) [some (.sh (.lst (N.map sD))),none]=BA (Ai 1) (CF (FD.t2 (FD.e2 (eC (.str "n")) (eB KO (Ab (Aa 1) Ag)) AX) (Aa 0) (CT Le)) (AA (FD.e2 (eC (.str "n")) (eB KO (Ab (Aa 1) Ag)) AX) []) Ar) ((List.range (N.length + 1)).map fun k:Nat=>.int (k:Int)) [some (.sh (.lst (N.map sD))),none]:=by
  rw [Ci]
  simp! [gl,I7,hs,et,er]
 rcases OX (N:=N) (List.range (N.length + 1)) none (fun k hk=>by have:=List.mem_range.mp hk; omega) with ⟨x',ha,e⟩ | ⟨z,ρ',hz,hzN,e⟩
 ·have h1:=kT (N.length + 1) (by omega)
  have h2:((List.range (N.length + 1)).map fun k=>sg "n" ++ nt k).Nodup:=by
   have e2:((List.range (N.length + 1)).map fun k=>sg "n" ++ nt k)=((List.range (N.length + 1)).map nt).map (sg "n" ++ ·):=by rw [List.map_map]; rfl
   rw [e2]
   exact List.Pairwise.map _ (fun a b h z=>h (List.append_cancel_left z)) h1
  have h3:=KH h2 fun x hx=>by
   obtain ⟨k,hk,rfl⟩:=List.mem_map.mp hx
   exact ha k hk
  rw [List.length_map,List.length_range] at h3
  omega
 ·refine ⟨z,hz,hzN,?_⟩
  rw [e] at hq
  simp! [hq]
theorem Qr{j:Nat}{d1:Option Lo}:∀ (ds:List Dt) (N:List Kn) (x y:Option Lo) (R:List Cell) (b:Bx),R[j]? = some (Jr b)→b.n + 20 * ds.length≤900000000→N.length + ds.length≤20→(∀ z∈N,Nm z)→N.Nodup→∃ (N':List Kn) (x' y':Option Lo) (R':List Cell) (b':Bx),N'.Nodup∧At R R' j b b' (20 * ds.length)∧N'.length=N.length + ds.length∧(∀ z∈N',Nm z) ∧
  BA (Ai 3) (Am (Bi 4 (Aw 5 (EJ K cs) (xP (Ab (Aa 0) Ag)) [0]) [])
  (Am (CF (FD.t2 (Aa 4) (Aa 2) Le) (A8 4 (Al (Ec K cs) (Ab (Aa 2) Ag)) [2]) Ar)
  (D6 2 (Aa 4) [4]))) ds [some (.sh (.ad j)),d1,some (.ol (N.map sD)),x,y,some (.mh R)]=.ok .nx [some (.sh (.ad j)),d1,some (.ol (N'.map sD)),x',y',some (.mh R')]
 | [],N,x,y,R,b,hb,_,_,hN,nd=>⟨N,x,y,R,b,nd,At.refl hb,rfl,hN,rfl⟩
 | d :: ds,N,x,y,R,b,hb,hn,hz,hN,nd=>by
  simp only [List.length_cons] at hn hz
  obtain ⟨z,R1,b1,t1,hzn,s1⟩:=jG (K:=K) (cs:=cs) hb (by omega)
  have u1:=s1.up
  obtain ⟨z',hz',hzN,t2⟩:=e7 (K:=K) (cs:=cs) (N:=N) (by omega)
  obtain ⟨q,hq,hqn,hqN⟩:∃ q:Kn,q=(if bJ (.str (S z)) (N.map sD)=true then z' else z)∧Nm q∧q∉N:=⟨_,rfl,by split <;> assumption,by
   split
   ·exact hzN
   ·rename_i h
    rw [SK] at h
    exact fun z=>h (decide_eq_true z)⟩
  obtain ⟨N',x',y',R',b',nd',s2,hl,hN',e⟩:=Qr (j:=j) (d1:=d1) ds (N ++ [q]) (some (.sh d)) (some (.sh (.str (S q)))) R1 b1 s1.OF (by omega) (by rw [List.length_append,List.length_singleton]; omega) (fun w hw=>by
   rcases List.mem_append.mp hw with hw | hw
   ·exact hN w hw
   ·rw [List.mem_singleton.mp hw]; exact hqn) (List.nodup_append.mpr ⟨nd,(List.nodup_cons.mpr ⟨(fun z=>nomatch z),List.nodup_nil⟩),fun a ha c hc e=>hqN (by rw [← List.mem_singleton.mp hc,← e]; exact ha)⟩)
  refine ⟨N',x',y',R',b',nd',(s1.trans s2).mono (by rw [List.length_cons]; omega),by rw [hl,List.length_append,List.length_singleton,List.length_cons]; omega,hN',?_⟩
  rw [Cc]
  have em:(N.map sD) ++ [Dt.str (S q)]=(N ++ [q]).map sD:=by rw [List.map_append]; rfl
  have hlen:(N.map sD).length < 16777216:=by rw [List.length_map]; omega
  cases hi:bJ (.str (S z)) (N.map sD) with
  | true=>
   rw [hi,if_pos rfl] at hq
   subst hq
   simp! [t1,Mo,hi,t2,hlen,em,e]
  | false=>
   rw [hi,if_neg (by decide)] at hq
   subst hq
   simp! [t1,Mo,hi,hlen,em,e]
theorem Xa{R:List Cell}{j:Nat}{b:Bx}(hb:R[j]? = some (Jr b))(hn:b.n≤800000000){k:Nat}(hk:k≤20):
  ∃ (N:List Kn) (R':List Cell) (b':Bx),EZ K cs [.ad j,.int k] R=.ok (.lst (N.map sD)) R'∧N.Nodup∧N.length=k∧(∀ z∈N,Nm z)∧At R R' j b b' 400:=by
 have ed:EZ K cs [.ad j,.int k] R=runM 5 (GC K cs) [.ad j,.int k] R:=E7 rfl
 rw [ed]
 unfold GC
 obtain ⟨N,x,y,R',b',nd,s1,hl,hN,e⟩:=Qr (K:=K) (cs:=cs) (d1:=some (.sh (.int k))) (Ik 0 k) [] none none R b hb (by rw [Fb]; omega) (by rw [Fb]; simp only [List.length_nil]; omega) (fun z hz=>nomatch hz) List.nodup_nil
 rw [Fb] at s1 hl
 have hs:ED (k:Int)=true:=decide_eq_true (by omega)
 have ek:((k:Int)).toNat=k:=by omega
 refine ⟨N,R',b',?_,nd,by rw [hl]; simp,hN,s1.mono (by omega)⟩
 have hf:A1 (Ai 3) (Cj (Ab (Aa 1) Ag)) [] (Am (Bi 4 (Aw 5 (EJ K cs) (xP (Ab (Aa 0) Ag)) [0]) [])
  (Am (CF (FD.t2 (Aa 4) (Aa 2) Le) (A8 4 (Al (Ec K cs) (Ab (Aa 2) Ag)) [2]) Ar)
  (D6 2 (Aa 4) [4]))) [some (.sh (.ad j)),some (.sh (.int k)),some (.ol []),none,none,some (.mh R)]=.ok .nx [some (.sh (.ad j)),some (.sh (.int k)),some (.ol (N.map sD)),x,y,some (.mh R')]:=by
  rw [Ci]
  simp! [I7,hs,ek]
  exact e
 simp! [hf,FD.Ey]
def kN(k:Kn):Key:=.inr (S k)
theorem Gk{a b:Kn}(h:kN a=kN b):a=b:=Nf.S_inj (Sum.inr.inj h)
def CB(r:Row):List Key:=r.map fun p=>kN p.1
def D4(r:Row):List Dt:=r.map fun p=>.int p.2
def rD(r:Row):Dt:=.dic (CB r) (D4 r)
def IG(p:Kn × Int):Dt:=.tup [.str (S p.1),.int p.2]
def fD(r:Row):Dt:=.ptp (r.map IG)
def tT(r:Row):Dt:=.tup [.int r.length,.int (sm r),fD r]
def WB(r:Row):Prop:=∀ p∈r,Nm p.1
theorem Ht{r:Row}{k:Kn}:kN k∈CB r ↔ k∈ks r:=by
 unfold CB ks
 constructor
 ·intro h
  obtain ⟨p,hp,e⟩:=List.mem_map.mp h
  exact List.mem_map.mpr ⟨p,hp,Gk e⟩
 ·intro h
  obtain ⟨p,hp,rfl⟩:=List.mem_map.mp h
  exact List.mem_map.mpr ⟨p,hp,rfl⟩
theorem atD(r:Row)(k:Kn):Tf (CB r) (D4 r) (kN k)=(gt r k).map .int:=by
 induction r with
 | nil=>rfl
 | cons p r ih=>
  show Tf (kN p.1 :: CB r) (.int p.2 :: D4 r) (kN k)=_
  unfold Tf gt
  by_cases e:k=p.1
  ·rw [if_pos e,if_pos (by rw [e])]; rfl
  ·rw [if_neg e,if_neg (fun h=>e (Gk h).symm),ih]
theorem Y6(r:Row)(k:Kn):AH (rD r) (.str (S k))=(gt r k).map .int:=atD r k
theorem kY(r:Row)(k:Kn):Dk (.str (S k)) (rD r)=some (decide (k∈ks r)):=by
 show some (decide (kN k∈CB r))=_
 rw [decide_eq_decide.mpr Ht]
theorem IQ(r:Row):(CB r).map I0=(ks r).map sD:=by
 unfold CB ks
 rw [List.map_map,List.map_map]
 rfl
theorem items(r:Row):Vn (rD r)=some (r.map IG):=by
 show some (dI (CB r) (D4 r))=_
 unfold dI CB D4
 rw [List.zip_map',List.map_map]
 rfl
def Dy(r:Row)(k:Kn)(x:Int):Row:=if k∈ks r then r.map fun p=>if p.1=k then (p.1,x) else p else r ++ [(k,x)]
theorem O1(r:Row)(k:Kn)(x:Int):Es (CB r) (kN k)=CB (Dy r k x):=by
 unfold Es Dy
 by_cases h:k∈ks r
 ·rw [if_pos (Ht.mpr h),if_pos h]
  unfold CB
  rw [List.map_map]
  refine List.map_congr_left fun p _=>?_
  simp only [Function.comp]
  split <;> rfl
 ·rw [if_neg fun z=>h (Ht.mp z),if_neg h]
  unfold CB
  rw [List.map_append]
  rfl
theorem Xn:∀ (r:Row) (k:Kn) (x:Int),Lp (CB r) (D4 r) (kN k) (.int x)=D4 (r.map fun p=>if p.1=k then (p.1,x) else p)
 | [],k,x=>rfl
 | p :: r,k,x=>by
  show Lp (kN p.1 :: CB r) (.int p.2 :: D4 r) (kN k) (.int x)=_
  unfold Lp
  rw [Xn r k x]
  by_cases e:p.1=k
  ·rw [if_pos (by rw [e])]
   simp only [List.map_cons,if_pos e]
   rfl
  ·rw [if_neg fun h=>e (Gk h)]
   simp only [List.map_cons,if_neg e]
   rfl
theorem PB(r:Row)(k:Kn)(x:Int):CW (CB r) (D4 r) (kN k) (.int x)=D4 (Dy r k x):=by
 unfold CW Dy
 by_cases h:k∈ks r
 ·rw [if_pos (Ht.mpr h),if_pos h,Xn]
 ·rw [if_neg fun z=>h (Ht.mp z),if_neg h]
  unfold D4
  rw [List.map_append]
  rfl
theorem Pg(r:Row)(k:Kn)(x:Int):ks (Dy r k x)=if k∈ks r then ks r else ks r ++ [k]:=by
 unfold Dy
 by_cases h:k∈ks r
 ·rw [if_pos h,if_pos h]
  unfold ks
  rw [List.map_map]
  refine List.map_congr_left fun p _=>?_
  simp only [Function.comp]
  split <;> rfl
 ·rw [if_neg h,if_neg h]
  unfold ks
  rw [List.map_append]
  rfl
theorem LR(p:Kn × Int)(r:Row)(j:Kn):gt (p :: r) j=if j=p.1 then some p.2 else gt r j:=rfl
theorem RK{k:Kn}{x:Int}{j:Kn}(h:j≠k):∀ r:Row,gt (r.map fun p=>if p.1=k then (p.1,x) else p) j=gt r j
 | []=>rfl
 | p :: r=>by
  rw [List.map_cons,LR,LR,RK h r]
  by_cases e:p.1=k
  ·rw [if_pos e]
   have:¬ j=p.1:=fun z=>h (z.trans e)
   simp only [if_neg this]
  ·rw [if_neg e]
theorem Rn{k:Kn}{x:Int}:∀ {r:Row},k∈ks r→gt (r.map fun p=>if p.1=k then (p.1,x) else p) k=some x
 | [],h=>nomatch h
 | p :: r,h=>by
  rw [List.map_cons,LR]
  by_cases e:p.1=k
  ·rw [if_pos e]
   simp only [if_pos e.symm]
  ·rw [if_neg e,if_neg fun z=>e z.symm]
   refine Rn ?_
   rcases List.mem_cons.mp h with z | z
   ·exact absurd z.symm e
   ·exact z
theorem bh{k:Kn}{x:Int}{j:Kn}:∀ {r:Row},k∉ks r→gt (r ++ [(k,x)]) j=if j=k then some x else gt r j
 | [],_=>rfl
 | p :: r,h=>by
  have h1:¬ k=p.1:=fun z=>h (by rw [z]; exact List.mem_cons_self)
  rw [List.cons_append,LR,LR,bh fun z=>h (List.mem_cons_of_mem _ z)]
  by_cases e2:j=p.1
  ·rw [if_pos e2,if_neg (fun z=>h1 (z.symm.trans e2)),if_pos e2]
  ·rw [if_neg e2,if_neg e2]
theorem MZ(r:Row)(k:Kn)(x:Int)(j:Kn):gt (Dy r k x) j=if j=k then some x else gt r j:=by
 unfold Dy
 by_cases h:k∈ks r
 ·rw [if_pos h]
  by_cases e:j=k
  ·rw [if_pos e,e,Rn h]
  ·rw [if_neg e,RK e]
 ·rw [if_neg h,bh h]
theorem PV{r:Row}(h:(ks r).Nodup)(k:Kn)(x:Int):(ks (Dy r k x)).Nodup:=by
 rw [Pg]
 split
 ·exact h
 ·rename_i hn
  exact List.nodup_append.mpr ⟨h,List.nodup_cons.mpr ⟨(fun z=>nomatch z),List.nodup_nil⟩,fun a ha b hb e=>hn (by rw [← List.mem_singleton.mp hb,← e]; exact ha)⟩
theorem iY(r:Row)(k:Kn)(x:Int):Dy r k x≠[]:=by
 intro h
 have:k∈ks (Dy r k x):=by
  rw [Pg]
  split
  ·assumption
  ·exact List.mem_append_right _ (List.mem_singleton.mpr rfl)
 rw [h] at this
 cases this
theorem Sm{r:Row}{k:Kn}{x:Int}{j:Kn}(h:j∈ks (Dy r k x)):j∈ks r∨j=k:=by
 rw [Pg] at h
 split at h
 ·exact .inl h
 ·rcases List.mem_append.mp h with z | z
  ·exact .inl z
  ·exact .inr (List.mem_singleton.mp z)
theorem ak{r:Row}{k:Kn}{x:Int}{j:Kn}(h:j∈ks r∨j=k):j∈ks (Dy r k x):=by
 rw [Pg]
 by_cases hk:k∈ks r
 ·rw [if_pos hk]
  rcases h with h | rfl
  ·exact h
  ·exact hk
 ·rw [if_neg hk]
  rcases h with h | rfl
  ·exact List.mem_append_left _ h
  ·exact List.mem_append_right _ (List.mem_singleton.mpr rfl)
structure Gr (N:List Kn) (r:Row):Prop where
 nd:(ks r).Nodup
 sub:∀ k∈ks r,k∈N
theorem Gr.len{N:List Kn}{r:Row}(h:Gr N r):r.length≤N.length:=by
 have:=KH h.nd h.sub
 unfold ks at this
 rw [List.length_map] at this
 exact this
theorem Gr.nil(N:List Kn):Gr N []:=⟨List.nodup_nil,fun k h=>nomatch h⟩
theorem Gr.put{N:List Kn}{r:Row}(h:Gr N r){k:Kn}(hk:k∈N)(x:Int):Gr N (Dy r k x):=⟨PV h.nd k x,fun j hj=>by
 rcases Sm hj with z | rfl
 ·exact h.sub j z
 ·exact hk⟩
theorem I4(r:Row):(CB r).length=r.length:=List.length_map ..
theorem putX{i:Nat}{fk:FD.Env→Out Dt}{f:FD.Env→XO Dt}{lk:List Nat}{ρ ρ1:FD.Env}{r:Row}{k:Kn}{x:Int}(hf:f ρ=.ok (.int x) ρ1)(hi:ρ1[i]? = some (some (.od (CB r) (D4 r))))(hk:fk ρ1=.ok (.str (S k)))(hl:r.length < 16777216):
  IL i fk f lk ρ=.ok .nx (ρ1.set i (some (.od (CB (Dy r k x)) (D4 (Dy r k x))))):=by
 have e:AL (.int x) lk ρ1=ρ1:=DZ ..
 unfold IL
 rw [hf]
 show (match (AL (.int x) lk ρ1)[i]? with
 | some (some (.od ks ds))=>HU (fk (AL (.int x) lk ρ1)) (AL (.int x) lk ρ1) fun k=>(match keyD k with
  | some k=>if ks.length < 16777216 then .ok .nx ((AL (.int x) lk ρ1).set i (some (.od (Es ks k) (CW ks ds k (.int x))))) else .bad
  | none=>.bad)
 | _=>.bad)=_
 rw [e,hi]
 show (HU (fk ρ1) ρ1 fun k=>(match keyD k with
  | some k=>if (CB r).length < 16777216 then .ok .nx (ρ1.set i (some (.od (Es (CB r) k) (CW (CB r) (D4 r) k (.int x))))) else .bad
  | none=>.bad))=_
 rw [hk,FC]
 show (if (CB r).length < 16777216 then SOut.ok .nx (ρ1.set i (some (.od (Es (CB r) (kN k)) (CW (CB r) (D4 r) (kN k) (.int x))))) else .bad)=_
 rw [I4,if_pos hl,O1 r k x,PB]
theorem R8{i:Nat}{u:Dt→FD.Env→Option FD.Env}{b:FD.Env→SOut}{ρ ρ':FD.Env}{r:Row}(hi:ρ[i]? = some (some (.sh (rD r))))(hl:frz [i] ρ=ρ)(h:BA u b ((ks r).map sD) ρ=.ok .nx ρ'):F7 i u b ρ=.ok .nx ρ':=by
 have e:CU i ρ=.ok ((ks r).map sD):=by
  unfold CU
  rw [hi]
  show Out.ok ((CB r).map I0)=_
  rw [IQ]
 unfold F7
 rw [Ci,e,FC,hl,h]
theorem fm{i:Nat}{u:Dt→FD.Env→Option FD.Env}{b:FD.Env→SOut}{ρ ρ':FD.Env}{d:Dt}{r:Row}(hi:ρ[i]? = some (some (.sh (rD r))))(hl:frz [i] ρ=ρ)(h:BA u b ((ks r).map sD) ρ=.ok (.rt d) ρ'):F7 i u b ρ=.ok (.rt d) ρ':=by
 have e:CU i ρ=.ok ((ks r).map sD):=by
  unfold CU
  rw [hi]
  show Out.ok ((CB r).map I0)=_
  rw [IQ]
 unfold F7
 rw [Ci,e,FC,hl,h]
theorem Xe(r:Row):Dt.DK (D4 r)=true:=by
 unfold D4
 induction r with
 | nil=>rfl
 | cons p r ih=>rw [List.map_cons,Dt.DK,ih]; rfl
structure Gd (N:List Kn) (R:List Row):Prop where
 g:∀ r∈R,Gr N r
 n:∀ r∈R,r≠[]
theorem Gd.app{N:List Kn}{R:List Row}{r:Row}(h:Gd N R)(g:Gr N r)(n:r≠[]):Gd N (R ++ [r]):=⟨fun x hx=>by
 rcases List.mem_append.mp hx with z | z
 ·exact h.g x z
 ·rw [List.mem_singleton.mp z]; exact g,fun x hx=>by
 rcases List.mem_append.mp hx with z | z
 ·exact h.n x z
 ·rw [List.mem_singleton.mp z]; exact n⟩
theorem jT(r:Row):(rD r).na=true:=by
 have h:Dt.HY (D4 r)=true:=by
  unfold D4
  induction r with
  | nil=>rfl
  | cons p r ih=>rw [List.map_cons,Dt.HY,ih]; rfl
 unfold rD
 rw [Dt.na]
 exact h
theorem FN{α:Type}{f:α→Dt}(h:∀ a,(f a).na=true):∀ l:List α,Dt.HY (l.map f)=true
 | []=>rfl
 | a :: l=>by rw [List.map_cons,Dt.HY,h a,FN h l]; rfl
theorem R9(n:Nat):Ik 0 n=(List.range n).map fun k:Nat=>.int (k:Int):=by
 unfold Ik
 exact List.map_congr_left fun k _=>by rw [Int.zero_add]
theorem Oh(r:Row)(k:Kn)(x:Int):(Dy r k x).length≤r.length + 1:=by
 unfold Dy
 split
 ·rw [List.length_map]; omega
 ·rw [List.length_append,List.length_singleton]; exact Nat.le_refl _
theorem Ed{α:Type}{f:α→Dt}{g:α→PyData}:∀ l:List α,(∀ a∈l,(f a).py=some (g a))→Dt.OC (l.map f)=some (l.map g)
 | [],_=>rfl
 | a :: l,h=>by
  rw [List.map_cons,Dt.OC,h a List.mem_cons_self,Ed l fun x hx=>h x (List.mem_cons_of_mem _ hx)]
  rfl
theorem V0(p:Kn × Int):(IG p).py=some (pP p):=rfl
theorem PU(r:Row):(fD r).py=some (rP r):=by
 unfold fD
 rw [Dt.py,Ed r fun p _=>V0 p]
 rfl
theorem kK(r:Row):(tT r).py=some (tP r):=by
 unfold tT
 rw [Dt.py,Dt.OC,Dt.OC,Dt.OC,PU]
 rfl
theorem VR(p:Kn × Int):(pP p).depth=1:=by
 unfold pP sP
 simp [PyData.depth,PyData.depthAll]
theorem KA{α:Type}{g:α→PyData}{n:Nat}(h:∀ a,(g a).depth≤n):∀ l:List α,PyData.depthAll (l.map g)≤n
 | []=>by simp [PyData.depthAll]
 | a :: l=>by
  rw [List.map_cons,PyData.depthAll]
  exact Nat.max_le.mpr ⟨h a,KA h l⟩
theorem Qg(r:Row):(rP r).depth≤2:=by
 have:=KA (g:=pP) (n:=1) (fun p=>by rw [VR]; exact Nat.le_refl _) r
 unfold rP
 rw [PyData.depth]
 omega
theorem iQ(r:Row):(tP r).depth≤3:=by
 have:=Qg r
 unfold tP
 simp only [PyData.depth,PyData.depthAll]
 omega
theorem OW{α:Type}{f:α→Dt}{g:α→PyData}{l:List α}(hp:∀ a∈l,(f a).py=some (g a))(ha:∀ a∈l,∀ b∈l,PySem.W.alike (g a) (g b)=true)(ht:∀ a∈l,fE (g a)=true)(hd:∀ a∈l,(g a).depth≤60){le:α→α→Bool}(hle:∀ a b,le a b=jJ (g a) (g b)):
  BU [.lst (l.map f)]=some ((l.mergeSort le).map f):=by
 have h1:Lb (l.map g)=true:=by
  unfold Lb
  refine List.all_eq_true.mpr fun x hx=>List.all_eq_true.mpr fun y hy=>?_
  obtain ⟨a,ha',rfl⟩:=List.mem_map.mp hx
  obtain ⟨b,hb',rfl⟩:=List.mem_map.mp hy
  exact ha a ha' b hb'
 have h2:ML (l.map g)=true:=by
  unfold ML
  rw [Bool.and_eq_true,Bool.or_eq_true]
  refine ⟨.inl (List.all_eq_true.mpr fun x hx=>?_),List.all_eq_true.mpr fun x hx=>?_⟩
  ·obtain ⟨a,ha',rfl⟩:=List.mem_map.mp hx
   exact ht a ha'
  ·obtain ⟨a,ha',rfl⟩:=List.mem_map.mp hx
   exact decide_eq_true (hd a ha')
 unfold BU
 show ((some (l.map f):Option (List Dt)).bind fun ds=>(Dt.OC ds).bind fun ps=>if Lb ps=true∧ML ps=true then some (((ds.zip ps).mergeSort S9).map (·.1)) else none)=_
 simp only [Option.bind_some]
 rw [Ed l hp]
 simp only [Option.bind_some]
 rw [if_pos ⟨h1,h2⟩]
 have hz:(l.map f).zip (l.map g)=l.map fun t=>(f t,g t):=List.zip_map'
 rw [hz]
 have hm:(l.map fun t=>(f t,g t)).mergeSort S9=(l.mergeSort le).map fun t=>(f t,g t):=(List.map_mergeSort (l:=l) (f:=fun t=>(f t,g t)) (r:=le) (s:=S9) (fun a _ b _=>hle a b)).symm
 rw [hm,List.map_map]
 rfl
theorem il(p:Kn × Int):fE (pP p)=true:=rfl
theorem iN{r:Row}(h:r≠[]):fE (rP r)=true:=by
 cases r with
 | nil=>exact absurd rfl h
 | cons p r=>rfl
theorem WW(r:Row):BU [.lst (r.map IG)]=some ((flat r).map IG):=
 OW (g:=pP) (le:=pO.le) (fun p _=>V0 p) (fun a _ b _=>OJ a b) (fun p _=>il p) (fun p _=>by rw [VR]; decide) fun _ _=>rfl
theorem bM{L:List Row}(h:∀ r∈L,r≠[]):BU [.lst (L.map fD)]=some ((rO.sort L).map fD):=
 OW (g:=rP) (le:=rO.le) (fun r _=>PU r) (fun a _ b _=>Mi a b) (fun r hr=>iN (h r hr)) (fun r _=>by have:=Qg r; omega) fun _ _=>rfl
theorem fw(L:List Row):BU [.lst (L.map tT)]=some ((tO.sort L).map tT):=
 OW (g:=tP) (le:=tO.le) (fun r _=>kK r) (fun a _ b _=>Uh a b) (fun r _=>rfl) (fun r _=>by have:=iQ r; omega) fun _ _=>rfl
theorem UI(r:Row):GV K cs [rD r]=.ok (fD (flat r)):=by
 have ed:GV K cs [rD r]=Ax 1 (LF K cs) [rD r]:=AE rfl
 rw [ed]
 unfold LF
 have hs:Oo (rD r)=some ((flat r).map IG):=by
  show BU [.lst (dI (CB r) (D4 r))]=_
  have:=items r
  have e:dI (CB r) (D4 r)=r.map IG:=Option.some.inj this
  rw [e,WW]
 simp! [VT,hs,K9]
 rfl
theorem jr(r:Row):F6 K cs [rD r]=.ok (fD (flat r)):=by
 have ed:F6 K cs [rD r]=Ax 1 (HA K cs) [rD r]:=AE rfl
 rw [ed]
 unfold HA
 simp! [Na,items,WW,K9]
 rfl
theorem NA{b:Row}{d0:Option Lo}:∀ (a:Row) (x y:Option Lo),∃ x' y',BA (Fh (AO (Ai 2) (AO (Ai 3) EO))) (CF (CD (FD.t2 (Aa 2) (Aa 1) (CT Dk)) (FD.t2 (Aa 3) (FD.e2 (Aa 1) (Aa 2) AH) (cI fun i j=>decide (j < i)))) (AA (eC (.bl false)) []) Ar) (a.map IG) [d0,some (.sh (rD b)),x,y]=if Cm a b=true then .ok .nx [d0,some (.sh (rD b)),x',y'] else .ok (.rt (.bl false)) [d0,some (.sh (rD b)),x',y']
 | [],x,y=>⟨x,y,rfl⟩
 | p :: a,x,y=>by
  obtain ⟨x',y',e⟩:=NA (b:=b) (d0:=d0) a (some (.sh (.str (S p.1)))) (some (.sh (.int p.2)))
  have hb:Cm (p :: a) b=((match gt b p.1 with | some y=>decide (p.2≤y) | none=>false) && Cm a b):=rfl
  have ga:=Y6 b p.1
  have gi:=kY b p.1
  have hu:Fh (AO (Ai 2) (AO (Ai 3) EO)) (IG p) [d0,some (.sh (rD b)),x,y]=some [d0,some (.sh (rD b)),some (.sh (.str (S p.1))),some (.sh (.int p.2))]:=by
   unfold IG
   simp! []
  rw [hb,List.map_cons,HL hu]
  cases hg:gt b p.1 with
  | none=>
   have hk:p.1∉ks b:=Kx.mp hg
   rw [decide_eq_false hk] at gi
   refine ⟨some (.sh (.str (S p.1))),some (.sh (.int p.2)),?_⟩
   simp! [gi]
  | some z=>
   have hk:p.1∈ks b:=BH (G9 hg)
   rw [decide_eq_true hk] at gi
   rw [hg] at ga
   by_cases hz:z < p.2
   ·refine ⟨some (.sh (.str (S p.1))),some (.sh (.int p.2)),?_⟩
    have hz':¬ p.2≤z:=by omega
    simp! [gi,ga,hz,hz',decide_true,decide_false]
   ·refine ⟨x',y',?_⟩
    have hz':p.2≤z:=by omega
    simp! [gi,ga,hz,hz',decide_true,decide_false,e]
theorem ZO(a b:Row):Hf K cs [fD a,rD b]=.ok (.bl (Cm a b)):=by
 have ed:Hf K cs [fD a,rD b]=Ax 4 (MJ K cs) [fD a,rD b]:=AE rfl
 rw [ed]
 unfold MJ
 obtain ⟨x',y',e⟩:=NA (b:=b) (d0:=some (.sh (fD a))) a none none
 have hf:A1 (Fh (AO (Ai 2) (AO (Ai 3) EO))) (AB (Aa 0)) [0] (CF (CD (FD.t2 (Aa 2) (Aa 1) (CT Dk)) (FD.t2 (Aa 3) (FD.e2 (Aa 1) (Aa 2) AH) (cI fun i j=>decide (j < i)))) (AA (eC (.bl false)) []) Ar) [some (.sh (fD a)),some (.sh (rD b)),none,none]=BA (Fh (AO (Ai 2) (AO (Ai 3) EO))) (CF (CD (FD.t2 (Aa 2) (Aa 1) (CT Dk)) (FD.t2 (Aa 3) (FD.e2 (Aa 1) (Aa 2) AH) (cI fun i j=>decide (j < i)))) (AA (eC (.bl false)) []) Ar) (a.map IG) [some (.sh (fD a)),some (.sh (rD b)),none,none]:=rfl
 rw [e] at hf
 cases hb:Cm a b with
 | true=>
  rw [hb,if_pos rfl] at hf
  simp! [hf]
 | false=>
  rw [hb,if_neg (by decide)] at hf
  simp! [hf]
theorem WR:∀ r:Row,XW (r.map IG)=some (r.map fun p=>(kN p.1,Dt.int p.2))
 | []=>rfl
 | p :: r=>by
  rw [List.map_cons,XW,WR r]
  rfl
theorem ka{r:Row}(h:(ks r).Nodup):(CB r).Nodup:=by
 have e:CB r=(ks r).map kN:=by unfold CB ks; rw [List.map_map]; rfl
 rw [e]
 exact List.Pairwise.map _ (fun a b hab z=>hab (Gk z)) h
theorem Og{r:Row}(h:(ks r).Nodup):Ef [fD r]=some (rD r):=by
 unfold fD Ef
 simp only
 rw [WR,Option.bind_some]
 have e1:(r.map fun p=>(kN p.1,Dt.int p.2)).map (·.1)=CB r:=by rw [List.map_map]; rfl
 have e2:(r.map fun p=>(kN p.1,Dt.int p.2)).map (·.2)=D4 r:=by rw [List.map_map]; rfl
 rw [e1,e2,if_pos (ka h)]
 rfl
theorem UQ{r:Row}{d0 d1:Option Lo}:∀ (L:List Row) (x:Option Lo),∃ x',BA (Ai 3) (CF (FD.t1 (Al (Hf K cs) (Ab (Aa 3) (Ab (Aa 2) Ag))) A2) (AA (eC (.bl true)) []) Ar) (L.map fD) [d0,d1,some (.sh (rD r)),x]=if (L.any fun o=>Cm o r)=true then .ok (.rt (.bl true)) [d0,d1,some (.sh (rD r)),x'] else .ok .nx [d0,d1,some (.sh (rD r)),x']
 | [],x=>⟨x,rfl⟩
 | o :: L,x=>by
  obtain ⟨x',e⟩:=UQ (r:=r) (d0:=d0) (d1:=d1) L (some (.sh (fD o)))
  have t:=ZO (K:=K) (cs:=cs) o r
  rw [List.map_cons,Cc,List.any_cons]
  cases hb:Cm o r with
  | true=>
   rw [hb] at t
   refine ⟨some (.sh (fD o)),?_⟩
   simp! [t]
  | false=>
   rw [hb] at t
   refine ⟨x',?_⟩
   simp! [t,e]
theorem UZ(L:List Row){r:Row}(h:(ks r).Nodup):EI K cs [.lst (L.map fD),fD r]=.ok (.bl (L.any fun o=>Cm o r)):=by
 have ed:EI K cs [.lst (L.map fD),fD r]=Ax 4 (Hw K cs) [.lst (L.map fD),fD r]:=AE rfl
 rw [ed]
 unfold Hw
 obtain ⟨x',e⟩:=UQ (K:=K) (cs:=cs) (r:=r) (d0:=some (.sh (.lst (L.map fD)))) (d1:=some (.sh (fD r))) L none
 have hf:A1 (Ai 3) (AB (Aa 0)) [0] (CF (FD.t1 (Al (Hf K cs) (Ab (Aa 3) (Ab (Aa 2) Ag))) A2) (AA (eC (.bl true)) []) Ar) [some (.sh (.lst (L.map fD))),some (.sh (fD r)),some (.sh (rD r)),none]=BA (Ai 3) (CF (FD.t1 (Al (Hf K cs) (Ab (Aa 3) (Ab (Aa 2) Ag))) A2) (AA (eC (.bl true)) []) Ar) (L.map fD) [some (.sh (.lst (L.map fD))),some (.sh (fD r)),some (.sh (rD r)),none]:=rfl
 rw [e] at hf
 have hd:AL (rD r) [1] [some (.sh (.lst (L.map fD))),some (.sh (fD r)),none,none]=[some (.sh (.lst (L.map fD))),some (.sh (fD r)),none,none]:=FI (by rfl)
 cases hb:L.any fun o=>Cm o r with
 | true=>
  rw [hb,if_pos rfl] at hf
  simp! [Og h,hd,hf]
 | false=>
  rw [hb,if_neg (by decide)] at hf
  simp! [Og h,hd,hf]
theorem LH{α:Type}{u:Dt→FD.Env→Option FD.Env}{f:FD.Env→Out Dt}{ρ:FD.Env}{e g:α→Dt}:∀ {xs:List α},(∀ x∈xs,∃ ρ1,u (e x) ρ=some ρ1∧f ρ1=.ok (g x))→N5 u AK f ρ (xs.map e)=.ok (xs.map g)
 | [],_=>rfl
 | x :: xs,h=>by
  obtain ⟨ρ1,h1,h2⟩:=h x List.mem_cons_self
  rw [List.map_cons,PH,h1]
  simp only [BI,Out.Au,Oi,B2,if_true,h2]
  rw [LH fun y hy=>h y (List.mem_cons_of_mem _ hy)]
  rfl
theorem DB{α:Type}{u:Dt→FD.Env→Option FD.Env}{vs lk:List Nat}{f:FD.Env→Out Dt}{src:FD.Env→Out (List Dt)}{ρ:FD.Env}{e g:α→Dt}{xs:List α}(hs:src ρ=.ok (xs.map e))(hl:xs.length≤16777216)(h:∀ x∈xs,∃ ρ1,u (e x) (BB (frz lk ρ) vs)=some ρ1∧f ρ1=.ok (g x)):
  Fi u vs AK f src lk ρ=.ok (xs.map g):=by
 rw [bc,hs,Out.Au,if_pos (by rw [List.length_map]; exact hl),LH h]
structure Sz (R:List Row):Prop where
 l:R.length≤1000
 r:∀ r∈R,r.length≤1000
 n:∀ r∈R,(ks r).Nodup
theorem dP(r:Row):QY [.lst (D4 r)]=some (.int (sm r)):=by
 have:D4 r=(r.map (·.2)).map Dt.int:=by unfold D4; rw [List.map_map]; rfl
 rw [this]
 show (Jn _).map _=_
 rw [Iy]
 rfl
theorem g7{R:List Row}(h:Sz R){x5 x6 x7:Option Lo}:(Fi (Ai 2) [2] AK (GK (Ab (eB BO (Ab (Aa 2) Ag)) (Ab (eB QY (Ab (eL (Fi (Fh (AO (Ai 3) (AO (Ai 4) EO))) [3,4] AK (Aa 4) (AB (Aa 2)) [2])) Ag)) (Ab (Aa 2) Ag)))) (AB (Aa 0)) [0]) [some (.sh (.lst (R.map fD))),none,none,none,none,x5,x6,x7]=.ok (R.map tT):=by
 refine DB (e:=fD) rfl (by have:=h.l; omega) fun r hr=>⟨[some (.sh (.lst (R.map fD))),none,some (.sh (fD r)),none,none,x5,x6,x7],rfl,?_⟩
 have hi:Fi (Fh (AO (Ai 3) (AO (Ai 4) EO))) [3,4] AK (Aa 4) (AB (Aa 2)) [2] [some (.sh (.lst (R.map fD))),none,some (.sh (fD r)),none,none,x5,x6,x7]=.ok (D4 r):=
  DB (e:=IG) (g:=fun p=>.int p.2) rfl (by have:=h.r r hr; omega) fun p hp=>⟨[some (.sh (.lst (R.map fD))),none,some (.sh (fD r)),some (.sh (.str (S p.1))),some (.sh (.int p.2)),x5,x6,x7],rfl,rfl⟩
 have gl:BO [fD r]=some (.int r.length):=by
  unfold fD
  rw [Ur,List.length_map]
 simp! [hi,gl,dP]
 rfl
theorem PF{d0 d1 x3 x4:Option Lo}:∀ (T Kp:List Row) (x2 x6 x7:Option Lo),(∀ r∈T,(ks r).Nodup)→Kp.length + T.length≤1000→∃ x2' x6' x7',BA (Fh (AO (Ai 6) (AO (Ai 7) (AO (Ai 2) EO)))) (CF (A6 (FD.t1 (Al (EI K cs) (Ab (Aa 5) (Ab (Aa 2) Ag))) A2)) (D6 5 (Aa 2) [2]) Ar) (T.map tT) [d0,d1,x2,x3,x4,some (.ol (Kp.map fD)),x6,x7]=.ok .nx [d0,d1,x2',x3,x4,some (.ol ((keep Kp T).map fD)),x6',x7']
 | [],Kp,x2,x6,x7,_,_=>⟨x2,x6,x7,rfl⟩
 | r :: T,Kp,x2,x6,x7,hn,hl=>by
  simp only [List.length_cons] at hl
  have t:=UZ (K:=K) (cs:=cs) Kp (hn r List.mem_cons_self)
  have hn':∀ r∈T,(ks r).Nodup:=fun x hx=>hn x (List.mem_cons_of_mem _ hx)
  have hu:Fh (AO (Ai 6) (AO (Ai 7) (AO (Ai 2) EO))) (tT r) [d0,d1,x2,x3,x4,some (.ol (Kp.map fD)),x6,x7]=some [d0,d1,some (.sh (fD r)),x3,x4,some (.ol (Kp.map fD)),some (.sh (.int r.length)),some (.sh (.int (sm r)))]:=rfl
  rw [List.map_cons,HL hu]
  unfold keep
  cases hb:Kp.any fun o=>Cm o r with
  | true=>
   rw [hb] at t
   obtain ⟨x2',x6',x7',e⟩:=PF (d0:=d0) (d1:=d1) (x3:=x3) (x4:=x4) T Kp (some (.sh (fD r))) (some (.sh (.int r.length))) (some (.sh (.int (sm r)))) hn' (by omega)
   refine ⟨x2',x6',x7',?_⟩
   rw [if_pos rfl]
   simp! [t,e]
  | false=>
   rw [hb] at t
   obtain ⟨x2',x6',x7',e⟩:=PF (d0:=d0) (d1:=d1) (x3:=x3) (x4:=x4) T (Kp ++ [r]) (some (.sh (fD r))) (some (.sh (.int r.length))) (some (.sh (.int (sm r)))) hn' (by rw [List.length_append,List.length_singleton]; omega)
   refine ⟨x2',x6',x7',?_⟩
   rw [if_neg (by decide)]
   have em:Kp.map fD ++ [fD r]=(Kp ++ [r]).map fD:=by rw [List.map_append]; rfl
   have hlen:(Kp.map fD).length < 16777216:=by rw [List.length_map]; omega
   have hz:AL (fD r) [2] [d0,d1,some (.sh (fD r)),x3,x4,some (.ol (Kp.map fD)),some (.sh (.int r.length)),some (.sh (.int (sm r)))]=[d0,d1,some (.sh (fD r)),x3,x4,some (.ol (Kp.map fD)),some (.sh (.int r.length)),some (.sh (.int (sm r)))]:=FI rfl
   simp! [t,hz,hlen,em,e]
theorem Pm{R:List Row}(h:Sz R)(h0:∀ r∈R,r≠[]):Ij K cs [.lst (R.map fD)]=.ok (.tup ((lows R).map fD)):=by
 have ed:Ij K cs [.lst (R.map fD)]=Ax 8 (Lj K cs) [.lst (R.map fD)]:=AE rfl
 rw [ed]
 unfold Lj
 have hp:=tO.Bb R
 obtain ⟨x2,x6,x7,e⟩:=PF (K:=K) (cs:=cs) (d0:=some (.sh (.lst (R.map fD)))) (d1:=some (.sh (.lst ((tO.sort R).map tT)))) (x3:=none) (x4:=none) (tO.sort R) [] none none none (fun r hr=>h.n r (hp.mem_iff.mp hr)) (by rw [hp.length_eq]; have:=h.l; simpa using this)
 have hs:=g7 h (x5:=none) (x6:=none) (x7:=none)
 have hf:A1 (Fh (AO (Ai 6) (AO (Ai 7) (AO (Ai 2) EO)))) (AB (Aa 1)) [1] (CF (A6 (FD.t1 (Al (EI K cs) (Ab (Aa 5) (Ab (Aa 2) Ag))) A2)) (D6 5 (Aa 2) [2]) Ar) [some (.sh (.lst (R.map fD))),some (.sh (.lst ((tO.sort R).map tT))),none,none,none,some (.ol []),none,none]=.ok .nx [some (.sh (.lst (R.map fD))),some (.sh (.lst ((tO.sort R).map tT))),x2,none,none,some (.ol ((keep [] (tO.sort R)).map fD)),x6,x7]:=e
 have hk:∀ r∈keep [] (tO.sort R),r≠[]:=fun r hr=>by
  have:∀ (T Kp:List Row),∀ x∈keep Kp T,x∈Kp∨x∈T:=fun T=>by
   induction T with
   | nil=>exact fun Kp x hx=>.inl hx
   | cons r T ih=>
    intro Kp x hx
    unfold keep at hx
    split at hx
    ·exact (ih Kp x hx).imp id (List.mem_cons_of_mem _)
    ·rcases ih _ x hx with z | z
     ·rcases List.mem_append.mp z with z | z
      ·exact .inl z
      ·rw [List.mem_singleton.mp z]; exact .inr List.mem_cons_self
     ·exact .inr (List.mem_cons_of_mem _ z)
  rcases this (tO.sort R) [] r hr with z | z
  ·cases z
  ·exact h0 r (hp.mem_iff.mp z)
 simp! [hs,fw,FD.Ey,hf,bM hk]
 rfl
theorem Sz.flat{R:List Row}(h:Sz R):Sz (R.map flat):=⟨by rw [List.length_map]; exact h.l,fun r hr=>by
 obtain ⟨x,hx,rfl⟩:=List.mem_map.mp hr
 rw [(Du x).length_eq]; exact h.r x hx,fun r hr=>by
 obtain ⟨x,hx,rfl⟩:=List.mem_map.mp hr
 exact (Nr (h.n x hx)).nd⟩
theorem Oa{r:Row}(h:r≠[]):flat r≠[]:=fun e=>h (List.eq_nil_of_length_eq_zero (by rw [← (Du r).length_eq,e]; rfl))
theorem Z6{R:List Row}(h:Sz R)(h0:∀ r∈R,r≠[]):JH K cs [.lst (R.map rD)]=.ok (.tup ((nf R).map fD)):=by
 have ed:JH K cs [.lst (R.map rD)]=Ax 2 (LP K cs) [.lst (R.map rD)]:=AE rfl
 rw [ed]
 unfold LP
 have hc:Fi (Ai 1) [1] AK (Al (GV K cs) (Ab (Aa 1) Ag)) (AB (Aa 0)) [0] [some (.sh (.lst (R.map rD))),none]=.ok ((R.map flat).map fD):=by
  rw [List.map_map]
  refine DB (e:=rD) rfl (by have:=h.l; omega) fun r hr=>⟨[some (.sh (.lst (R.map rD))),some (.sh (rD r))],rfl,?_⟩
  simp! [UI]
  rfl
 have t:=Pm (K:=K) (cs:=cs) h.flat fun r hr=>by
  obtain ⟨x,hx,rfl⟩:=List.mem_map.mp hr
  exact Oa (h0 x hx)
 simp! [hc,t]
 rfl
theorem RU{d0:Option Lo}:∀ (R:List Row) (x:Option Lo),(∀ r∈R,r≠[])→∃ x',BA (Ai 1) (CF (FD.t2 (eB G2 (Ab (Aa 1) Ag)) (eC (.int 0)) Nv) (JW cs.c_EmptyForm CV Cy Ag) Ar) (R.map rD) [d0,x]=.ok .nx [d0,x']
 | [],x,_=>⟨x,rfl⟩
 | r :: R,x,z=>by
  obtain ⟨x',e⟩:=RU (d0:=d0) R (some (.sh (rD r))) fun y hy=>z y (List.mem_cons_of_mem _ hy)
  have gl:G2 [rD r]=some (.int r.length):=by
   show some (Dt.int ((CB r).length:Nat))=_
   rw [I4]
  have h:=z r List.mem_cons_self
  have hb:((r.length:Int) == (0:Int))=false:=beq_eq_false_iff_ne.mpr (by have:=List.length_pos_iff.mpr h; omega)
  rw [List.map_cons,Cc]
  refine ⟨x',?_⟩
  simp! [gl,hb,e]
theorem jB{R:List Row}(h:R≠[])(z:∀ r∈R,r≠[]):FZ K cs [.lst (R.map rD)]=.ok .non:=by
 have ed:FZ K cs [.lst (R.map rD)]=Ax 2 (Hq K cs) [.lst (R.map rD)]:=AE rfl
 rw [ed]
 unfold Hq
 have gl:BO [.lst (R.map rD)]=some (.int (R.length:Nat)):=by rw [GY,List.length_map]
 obtain ⟨x',e⟩:=RU (d0:=some (.sh (.lst (R.map rD)))) R none z
 have hf:A1 (Ai 1) (AB (Aa 0)) [0] (CF (FD.t2 (eB G2 (Ab (Aa 1) Ag)) (eC (.int 0)) Nv) (JW cs.c_EmptyForm CV Cy Ag) Ar) [some (.sh (.lst (R.map rD))),none]=.ok .nx [some (.sh (.lst (R.map rD))),x']:=e
 have hb:((R.length:Int) == (0:Int))=false:=beq_eq_false_iff_ne.mpr (by have:=List.length_pos_iff.mpr h; omega)
 simp! [gl,hb,hf]
theorem RV{α:Type}{E:FD.Env→Prop}{u:Dt→FD.Env→Option FD.Env}{b:FD.Env→SOut}{e:α→Dt}:∀ xs:List α,(∀ x∈xs,∀ ρ,E ρ→∃ ρ1 ρ2,u (e x) ρ=some ρ1∧b ρ1=.ok .nx ρ2∧E ρ2)→∀ ρ,E ρ→∃ ρ',BA u b (xs.map e) ρ=.ok .nx ρ'∧E ρ'
 | [],_,ρ,h=>⟨ρ,rfl,h⟩
 | x :: xs,hs,ρ,h=>by
  obtain ⟨ρ1,ρ2,h1,h2,h3⟩:=hs x List.mem_cons_self ρ h
  obtain ⟨ρ',h4,h5⟩:=RV xs (fun y hy=>hs y (List.mem_cons_of_mem _ hy)) ρ2 h3
  refine ⟨ρ',?_,h5⟩
  rw [List.map_cons,HL h1,h2]
  exact h4
theorem Nw{a b:Row}(na:(ks a).Nodup):∀ (L:Row) (x:Option Lo),(∀ p∈L,p∈a)→∃ x',BA (Ai 2) (CF (CD (FD.t2 (Aa 2) (Aa 1) (CT Dk)) (FD.t2 (FD.e2 (Aa 0) (Aa 2) AH) (FD.e2 (Aa 1) (Aa 2) AH) (cI fun i j=>decide (j < i)))) (AA (eC (.bl false)) []) Ar) ((ks L).map sD) [some (.sh (rD a)),some (.sh (rD b)),x]=if Cm L b=true then .ok .nx [some (.sh (rD a)),some (.sh (rD b)),x'] else .ok (.rt (.bl false)) [some (.sh (rD a)),some (.sh (rD b)),x']
 | [],x,_=>⟨x,rfl⟩
 | p :: L,x,h=>by
  obtain ⟨x',e⟩:=Nw (b:=b) na L (some (.sh (sD p.1))) fun q hq=>h q (List.mem_cons_of_mem _ hq)
  have hb:Cm (p :: L) b=((match gt b p.1 with | some y=>decide (p.2≤y) | none=>false) && Cm L b):=rfl
  have ga:AH (rD a) (sD p.1)=some (.int p.2):=by
   have:=Y6 a p.1
   rw [K1 na (h p List.mem_cons_self)] at this
   exact this
  have gb:AH (rD b) (sD p.1)=(gt b p.1).map .int:=Y6 b p.1
  have gi:Dk (sD p.1) (rD b)=some (decide (p.1∈ks b)):=kY b p.1
  rw [hb,show (ks (p :: L)).map sD=sD p.1 :: (ks L).map sD from rfl,Cc]
  cases hg:gt b p.1 with
  | none=>
   have hk:p.1∉ks b:=Kx.mp hg
   rw [decide_eq_false hk] at gi
   refine ⟨some (.sh (sD p.1)),?_⟩
   simp! [gi]
  | some z=>
   have hk:p.1∈ks b:=BH (G9 hg)
   rw [decide_eq_true hk] at gi
   rw [hg] at gb
   by_cases hz:z < p.2
   ·refine ⟨some (.sh (sD p.1)),?_⟩
    have hz':¬ p.2≤z:=by omega
    simp! [gi,ga,gb,hz,hz',decide_true,decide_false]
   ·refine ⟨x',?_⟩
    have hz':p.2≤z:=by omega
    simp! [gi,ga,gb,hz,hz',decide_true,decide_false,e]
theorem Tu{a:Row}(b:Row)(na:(ks a).Nodup):Bh K cs [rD a,rD b]=.ok (.bl (Cm a b)):=by
 have ed:Bh K cs [rD a,rD b]=Ax 3 (GH K cs) [rD a,rD b]:=AE rfl
 rw [ed]
 unfold GH
 obtain ⟨x',e⟩:=Nw (b:=b) na a none fun p hp=>hp
 cases hb:Cm a b with
 | true=>
  rw [hb,if_pos rfl] at e
  have hf:=R8 (i:=0) (r:=a) (ρ:=[some (.sh (rD a)),some (.sh (rD b)),none]) rfl rfl e
  simp! [hf]
 | false=>
  rw [hb,if_neg (by decide)] at e
  have hf:=fm (i:=0) (r:=a) (ρ:=[some (.sh (rD a)),some (.sh (rD b)),none]) rfl rfl e
  simp! [hf]
theorem cM(i:List Dt):EG [.ptp i,.ty "tuple"]=some (.bl true):=I8 i
theorem RF(i:Int):Bp K cs [.int i]=.ok (.bl true):=by
 have ed:Bp K cs [.int i]=Ax 1 (E8 K cs) [.int i]:=AE rfl
 rw [ed]
 unfold E8
 simp! []
theorem cN(k z:Kn):KW .LtE (.str (S k)) (.str (S z))=some (!decide (z < k)):=by
 unfold KW
 show (if PySem.W.alike (.str (S k)) (.str (S z))=true∧k9 (.str (S k))=false∧(PyData.str (S k)).depth≤60 then some (i7 .LtE (.str (S k)) (.str (S z))) else none)=_
 rw [if_pos ⟨by simp [PySem.W.alike],rfl,by simp [PyData.depth]⟩]
 show some (!PySem.W.dataLt (.str (S z)) (.str (S k)))=_
 rw [PySem.W.dataLt_str,Xp,Xp]
theorem WH{A:Row}{k:Kn}{x:Int}(h:k∉ks A):Dy A k x=A ++ [(k,x)]:=if_neg h
theorem Oy{d0 d1 d2:Option Lo}:∀ (L A:Row) (z:Kn) (x5:Option Lo),(ks (A ++ L)).Nodup→(∀ p∈L,z < p.1)→Up L→A.length + L.length≤1000→∃ x4' x5',BA (Ai 5) (Am (CF (CD (A6 (FD.t1 (eB EG (Ab (Aa 5) (Ab (eC (.ty "tuple")) Ag))) A2)) (FD.t2 (eB BO (Ab (Aa 5) Ag)) (eC (.int 2)) QA)) (AA (eC .non) []) Ar)
  (Am (CF (CD (A6 (FD.t1 (eB EG (Ab (FD.e2 (Aa 5) (eC (.int 0)) AW) (Ab (eC (.ty "str")) Ag))) A2)) (CD (A6 (FD.t1 (Al (Bp K cs) (Ab (FD.e2 (Aa 5) (eC (.int 1)) AW) Ag)) A2)) (FD.t2 (FD.e2 (Aa 5) (eC (.int 0)) AW) (Aa 4) (KW .LtE)))) (AA (eC .non) []) Ar)
  (Am (A8 4 (FD.e2 (Aa 5) (eC (.int 0)) AW) [])
  (BK 3 (Aa 4) (FD.e2 (Aa 5) (eC (.int 1)) AW) [])))) (L.map IG) [d0,d1,d2,some (.od (CB A) (D4 A)),some (.sh (.str (S z))),x5]=.ok .nx [d0,d1,d2,some (.od (CB (A ++ L)) (D4 (A ++ L))),x4',x5']
 | [],A,z,x5,_,_,_,_=>⟨some (.sh (.str (S z))),x5,by rw [List.append_nil]; rfl⟩
 | p :: L,A,z,x5,nd,hz,up,hl=>by
  simp only [List.length_cons] at hl
  obtain ⟨u1,u2⟩:=List.pairwise_cons.mp up
  have e1:A ++ p :: L=(A ++ [p]) ++ L:=by rw [List.append_assoc]; rfl
  have hk:p.1∉ks A:=fun h=>by
   have:(ks A ++ p.1 :: ks L).Nodup:=by
    have e:ks (A ++ p :: L)=ks A ++ p.1 :: ks L:=by unfold ks; rw [List.map_append]; rfl
    rw [← e]; exact nd
   exact (List.nodup_append.mp this).2.2 p.1 h p.1 List.mem_cons_self rfl
  obtain ⟨x4',x5',e⟩:=Oy (d0:=d0) (d1:=d1) (d2:=d2) L (A ++ [p]) p.1 (some (.sh (IG p))) (by rw [← e1]; exact nd) u1 u2 (by rw [List.length_append,List.length_singleton]; omega)
  have pk:Es (CB A) (Sum.inr (S p.1))=CB (A ++ [p]):=(O1 A p.1 p.2).trans (by rw [WH hk])
  have pv:CW (CB A) (D4 A) (Sum.inr (S p.1)) (.int p.2)=D4 (A ++ [p]):=(PB A p.1 p.2).trans (by rw [WH hk])
  have hkl:(CB A).length < 16777216:=by rw [I4]; omega
  refine ⟨x4',x5',?_⟩
  have i0:AW (IG p) (.int 0)=some (.str (S p.1)):=rfl
  have i1:AW (IG p) (.int 1)=some (.int p.2):=rfl
  have gi:EG [IG p,.ty "tuple"]=some (.bl true):=I8 _
  have gl:BO [IG p]=some (.int 2):=rfl
  have lt:=cN p.1 z
  rw [decide_eq_true (hz p List.mem_cons_self)] at lt
  rw [e1,List.map_cons,Cc]
  simp! [gi,gl,i0,i1,cf,RF,lt,pk,pv,hkl,beq_self_eq_true]
  exact e
def VH(r:Row):Prop:=Flat r∧r≠[]∧WB r∧r.length≤1000
theorem hZ{k:Kn}(h:k≠[]):([]:Kn) < k:=by
 cases k with
 | nil=>exact absurd rfl h
 | cons a l=>exact List.Lex.nil
theorem Rh{d0:Option Lo}:∀ (L A:List Row) (x2 x3 x4 x5:Option Lo),(∀ r∈L,VH r)→A.length + L.length≤1000→∃ x2' x3' x4' x5',BA (Ai 2) (Am (CF (CD (A6 (FD.t1 (eB EG (Ab (Aa 2) (Ab (eC (.ty "tuple")) Ag))) A2)) (FD.t2 (eB BO (Ab (Aa 2) Ag)) (eC (.int 0)) Nv)) (AA (eC .non) []) Ar)
  (Am (Gp 3)
  (Am (A8 4 (eC (.str "")) [])
  (Am (A1 (Ai 5) (AB (Aa 2)) [2]
  (Am (CF (CD (A6 (FD.t1 (eB EG (Ab (Aa 5) (Ab (eC (.ty "tuple")) Ag))) A2)) (FD.t2 (eB BO (Ab (Aa 5) Ag)) (eC (.int 2)) QA)) (AA (eC .non) []) Ar)
  (Am (CF (CD (A6 (FD.t1 (eB EG (Ab (FD.e2 (Aa 5) (eC (.int 0)) AW) (Ab (eC (.ty "str")) Ag))) A2)) (CD (A6 (FD.t1 (Al (Bp K cs) (Ab (FD.e2 (Aa 5) (eC (.int 1)) AW) Ag)) A2)) (FD.t2 (FD.e2 (Aa 5) (eC (.int 0)) AW) (Aa 4) (KW .LtE)))) (AA (eC .non) []) Ar)
  (Am (A8 4 (FD.e2 (Aa 5) (eC (.int 0)) AW) [])
  (BK 3 (Aa 4) (FD.e2 (Aa 5) (eC (.int 1)) AW) [])))))
  (D6 1 (Aa 3) [3]))))) (L.map fD) [d0,some (.ol (A.map rD)),x2,x3,x4,x5]=.ok .nx [d0,some (.ol ((A ++ L).map rD)),x2',x3',x4',x5']
 | [],A,x2,x3,x4,x5,_,_=>⟨x2,x3,x4,x5,by rw [List.append_nil]; rfl⟩
 | r :: L,A,x2,x3,x4,x5,h,hl=>by
  simp only [List.length_cons] at hl
  obtain ⟨fl,ne,nm,sz⟩:=h r List.mem_cons_self
  obtain ⟨y4,y5,e1⟩:=Oy (d0:=d0) (d1:=some (.ol (A.map rD))) (d2:=some (.sh (fD r))) (K:=K) (cs:=cs) r [] [] x5 fl.nd (fun p hp=>hZ (nm p hp).ne) fl.rise (by simpa using sz)
  obtain ⟨x2',x3',x4',x5',e⟩:=Rh (d0:=d0) L (A ++ [r]) (some (.sh (fD r))) (some (.sh (rD r))) y4 y5 (fun q hq=>h q (List.mem_cons_of_mem _ hq)) (by rw [List.length_append,List.length_singleton]; omega)
  refine ⟨x2',x3',x4',x5',?_⟩
  have ea:A ++ r :: L=(A ++ [r]) ++ L:=by rw [List.append_assoc]; rfl
  have em:A.map rD ++ [rD r]=(A ++ [r]).map rD:=by rw [List.map_append]; rfl
  have hlen:(A.map rD).length < 16777216:=by rw [List.length_map]; omega
  have gi:EG [fD r,.ty "tuple"]=some (.bl true):=cM _
  have gl:BO [fD r]=some (.int r.length):=by unfold fD; rw [Ur,List.length_map]
  have hb:((r.length:Int) == (0:Int))=false:=beq_eq_false_iff_ne.mpr (by have:=List.length_pos_iff.mpr ne; omega)
  have he:Dt.str (S [])=Dt.str (Str.ofString ""):=by rw [Qp]; rfl
  rw [he] at e1
  have hf:A1 (Ai 5) (AB (Aa 2)) [2] (Am (CF (CD (A6 (FD.t1 (eB EG (Ab (Aa 5) (Ab (eC (.ty "tuple")) Ag))) A2)) (FD.t2 (eB BO (Ab (Aa 5) Ag)) (eC (.int 2)) QA)) (AA (eC .non) []) Ar)
  (Am (CF (CD (A6 (FD.t1 (eB EG (Ab (FD.e2 (Aa 5) (eC (.int 0)) AW) (Ab (eC (.ty "str")) Ag))) A2)) (CD (A6 (FD.t1 (Al (Bp K cs) (Ab (FD.e2 (Aa 5) (eC (.int 1)) AW) Ag)) A2)) (FD.t2 (FD.e2 (Aa 5) (eC (.int 0)) AW) (Aa 4) (KW .LtE)))) (AA (eC .non) []) Ar)
  (Am (A8 4 (FD.e2 (Aa 5) (eC (.int 0)) AW) [])
  (BK 3 (Aa 4) (FD.e2 (Aa 5) (eC (.int 1)) AW) [])))) [d0,some (.ol (A.map rD)),some (.sh (fD r)),some (.od [] []),some (.sh (.str (Str.ofString ""))),x5]=.ok .nx [d0,some (.ol (A.map rD)),some (.sh (fD r)),some (.od (CB r) (D4 r)),y4,y5]:=e1
  have hz:AL (.dic (CB r) (D4 r)) [3] [d0,some (.ol (A.map rD)),some (.sh (fD r)),some (.od (CB r) (D4 r)),y4,y5]=[d0,some (.ol (A.map rD)),some (.sh (fD r)),some (.sh (rD r)),y4,y5]:=rfl
  have em:A.map rD ++ [.dic (CB r) (D4 r)]=(A ++ [r]).map rD:=em
  rw [ea,List.map_cons,Cc]
  simp! [gi,gl,hb,hf,hz,hlen,em]
  exact e
theorem jA{L:List Row}(h:∀ r∈L,VH r)(h0:L≠[])(hl:L.length≤1000):HK K cs [.tup (L.map fD)]=.ok (.lst (L.map rD)):=by
 have ed:HK K cs [.tup (L.map fD)]=Ax 6 (HC K cs) [.tup (L.map fD)]:=AE rfl
 rw [ed]
 unfold HC
 obtain ⟨x2,x3,x4,x5,e⟩:=Rh (K:=K) (cs:=cs) (d0:=some (.sh (.tup (L.map fD)))) L [] none none none none h (by simpa using hl)
 have gl:BO [.tup (L.map fD)]=some (.int (L.length:Nat)):=by rw [Md,List.length_map]
 have hb:((L.length:Int) == (0:Int))=false:=beq_eq_false_iff_ne.mpr (by have:=List.length_pos_iff.mpr h0; omega)
 have hf:A1 (Ai 2) (AB (Aa 0)) [0] (Am (CF (CD (A6 (FD.t1 (eB EG (Ab (Aa 2) (Ab (eC (.ty "tuple")) Ag))) A2)) (FD.t2 (eB BO (Ab (Aa 2) Ag)) (eC (.int 0)) Nv)) (AA (eC .non) []) Ar)
  (Am (Gp 3)
  (Am (A8 4 (eC (.str "")) [])
  (Am (A1 (Ai 5) (AB (Aa 2)) [2]
  (Am (CF (CD (A6 (FD.t1 (eB EG (Ab (Aa 5) (Ab (eC (.ty "tuple")) Ag))) A2)) (FD.t2 (eB BO (Ab (Aa 5) Ag)) (eC (.int 2)) QA)) (AA (eC .non) []) Ar)
  (Am (CF (CD (A6 (FD.t1 (eB EG (Ab (FD.e2 (Aa 5) (eC (.int 0)) AW) (Ab (eC (.ty "str")) Ag))) A2)) (CD (A6 (FD.t1 (Al (Bp K cs) (Ab (FD.e2 (Aa 5) (eC (.int 1)) AW) Ag)) A2)) (FD.t2 (FD.e2 (Aa 5) (eC (.int 0)) AW) (Aa 4) (KW .LtE)))) (AA (eC .non) []) Ar)
  (Am (A8 4 (FD.e2 (Aa 5) (eC (.int 0)) AW) [])
  (BK 3 (Aa 4) (FD.e2 (Aa 5) (eC (.int 1)) AW) [])))))
  (D6 1 (Aa 3) [3]))))) [some (.sh (.tup (L.map fD))),some (.ol []),none,none,none,none]=.ok .nx [some (.sh (.tup (L.map fD))),some (.ol (L.map rD)),x2,x3,x4,x5]:=e
 simp! [gl,hb,hf]
structure Lr (R:List Row):Prop where
 ne:R≠[]
 l:R.length≤100
 nd:∀ r∈R,(ks r).Nodup
 nn:∀ r∈R,r≠[]
 nm:∀ r∈R,WB r
 r:∀ r∈R,r.length≤100
theorem Lr.sz{R:List Row}(h:Lr R):Sz R:=⟨by have:=h.l; omega,fun r hr=>by have:=h.r r hr; omega,h.nd⟩
theorem Lr.rs{R:List Row}(h:Lr R):Rs R:=⟨h.ne,h.nn,h.nd⟩
theorem Qj:∀ (T Kp:List Row),(keep Kp T).length≤Kp.length + T.length
 | [],Kp=>Nat.le_refl _
 | r :: T,Kp=>by
  unfold keep
  split
  ·have:=Qj T Kp; rw [List.length_cons]; omega
  ·have:=Qj T (Kp ++ [r]); rw [List.length_append,List.length_singleton] at this; rw [List.length_cons]; omega
theorem JV(R:List Row):(nf R).length≤R.length:=by
 have h1:=(rO.Bb (keep [] (tO.sort (R.map flat)))).length_eq
 have h2:=(tO.Bb (R.map flat)).length_eq
 have h3:=Qj (tO.sort (R.map flat)) []
 rw [List.length_map] at h2
 unfold nf lows
 rw [h1]
 simp only [List.length_nil] at h3
 omega
theorem Lr.nf{R:List Row}(h:Lr R):Lr (nf R)∧∀ l∈nf R,VH l:=by
 obtain ⟨a1,a2,a3,a4⟩:=DR h.nd
 have hf:∀ l∈Nf.nf R,l≠[]∧WB l∧l.length≤100:=fun l hl=>by
  obtain ⟨r,hr,rfl⟩:=a2 l hl
  exact ⟨Oa (h.nn r hr),fun p hp=>h.nm r hr p ((Du r).mem_iff.mp hp),by rw [(Du r).length_eq]; exact h.r r hr⟩
 refine ⟨⟨fun e=>?_,by have:=JV R; have:=h.l; omega,fun l hl=>(a1.fl l hl).nd,fun l hl=>(hf l hl).1,fun l hl=>(hf l hl).2.1,fun l hl=>(hf l hl).2.2⟩,fun l hl=>⟨a1.fl l hl,(hf l hl).1,(hf l hl).2.1,by have:=(hf l hl).2.2; omega⟩⟩
 cases R with
 | nil=>exact h.ne rfl
 | cons r R=>
  obtain ⟨l,hl,_⟩:=a3 r List.mem_cons_self
  rw [e] at hl
  cases hl
theorem We{k:Kn}(h:Nm k):(sP k).canLay0=true:=by
 unfold sP
 rw [PyData.canLay0]
 show (S k).cps.all (· < 0x110000)=true
 rw [← Array.all_toList,Xp]
 exact List.all_eq_true.mpr fun c hc=>decide_eq_true (by have:=h.ch c hc; omega)
theorem VS{p:Kn × Int}(h:Nm p.1):(pP p).canLay0=true:=by
 unfold pP
 rw [PyData.canLay0,PyData.canLayAll0,PyData.canLayAll0,We h]
 simp [PyData.canLay0,PyData.canLayAll0]
theorem IK{α:Type}{g:α→PyData}:∀ {l:List α},(∀ a∈l,(g a).canLay0=true)→PyData.canLayAll0 (l.map g)=true
 | [],_=>by simp [PyData.canLayAll0]
 | a :: l,h=>by
  rw [List.map_cons,PyData.canLayAll0,h a List.mem_cons_self,IK fun x hx=>h x (List.mem_cons_of_mem _ hx)]
  rfl
theorem RO{r:Row}(h:WB r):SeqAt.shaped (rP r)=true:=by
 have:=Qg r
 unfold SeqAt.shaped
 rw [decide_eq_true (by omega),Bool.and_true]
 unfold rP
 rw [PyData.canLay0]
 exact IK fun p hp=>VS (h p hp)
theorem aX{l:Row}{F:List Row}(hl:l∈F)(h:∀ r∈F,WB r):QZ (fD l) (.lst (F.map fD))=some true:=by
 unfold QZ
 rw [PU,Option.bind_some]
 show ((some (F.map fD)).bind fun es=>(Dt.OC es).bind _)=_
 have hs:(F.map rP).all SeqAt.shaped=true:=List.all_eq_true.mpr fun x hx=>by
  obtain ⟨r,hr,rfl⟩:=List.mem_map.mp hx
  exact RO (h r hr)
 rw [Option.bind_some,Ed F fun r _=>PU r,Option.bind_some,if_pos ⟨RO (h l hl),hs⟩]
 have hy:((F.map rP).any fun e=>PyData.eqv e (rP l))=true:=List.any_eq_true.mpr ⟨rP l,List.mem_map.mpr ⟨l,hl,rfl⟩,(SH l l).trans (decide_eq_true rfl)⟩
 rw [hy]
theorem Yi(a b:Row):KW .Lt (fD a) (fD b)=some (rO.lt a b):=by
 unfold KW
 rw [PU,Option.bind_some,PU,Option.bind_some,if_pos ⟨Mi a b,rfl,by have:=Qg a; omega⟩]
 rfl
theorem hV{α:Type}(f:α→Bool)(l:List α):Q6 [.lst (l.map fun a=>.bl (f a))]=some (.bl (l.any f)):=by
 have e:(l.map fun a=>Dt.bl (f a))=(l.map f).map .bl:=by rw [List.map_map]; rfl
 unfold Q6
 simp only
 rw [e,ON,Option.map_some,List.any_map]
 rfl
theorem Tz{α:Type}{f:α→Dt}{l:List α}{k:Nat}(h:k < l.length):atI (l.map f) (k:Int)=some (f l[k]):=by
 rw [FD.atI_nat,List.getElem?_map,List.getElem?_eq_getElem h]
 rfl
abbrev WS(R L:List Row)(x4 x5 x6 x7:Option Lo):FD.Env:=[some (.sh (.tup (L.map fD))),some (.sh (.lst (R.map rD))),some (.sh (.lst (L.map rD))),some (.ol ((R.map flat).map fD)),x4,x5,x6,x7]
theorem UH{R L:List Row}(hn:∀ l∈L,(ks l).Nodup)(hac:AC L){k:Nat}(hk:k < L.length){x4 x7:Option Lo}:∀ (l:List Nat) (x6:Option Lo),(∀ n∈l,n < L.length)→∃ x6',BA (Ai 6) (CF (Im (FD.t2 (Aa 6) (Aa 5) QA) (FD.t1 (Al (Bh K cs) (Ab (FD.e2 (Aa 2) (Aa 6) AW) (Ab (FD.e2 (Aa 2) (Aa 5) AW) Ag))) A2)) (AA (eC (.bl false)) []) Ar) (l.map fun n:Nat=>.int (n:Int)) (WS R L x4 (some (.sh (.int (k:Int)))) x6 x7)=.ok .nx (WS R L x4 (some (.sh (.int (k:Int)))) x6' x7)
 | [],x6,_=>⟨x6,rfl⟩
 | n :: l,x6,h=>by
  obtain ⟨x6',e⟩:=UH hn hac hk (x4:=x4) (x7:=x7) (R:=R) l (some (.sh (.int (n:Int)))) fun m hm=>h m (List.mem_cons_of_mem _ hm)
  have hnl:=h n List.mem_cons_self
  refine ⟨x6',?_⟩
  rw [List.map_cons,HL (ρ1:=WS R L x4 (some (.sh (.int (k:Int)))) (some (.sh (.int (n:Int)))) x7) rfl]
  have e1:=Tz (f:=rD) hnl
  have e2:=Tz (f:=rD) hk
  have t:=Tu (K:=K) (cs:=cs) (a:=L[n]) L[k] (hn _ (List.getElem_mem _))
  by_cases hnk:n=k
  ·have hb:((n:Int) == (k:Int))=true:=by rw [hnk]; exact beq_self_eq_true _
   simp! [hb]
   exact e
  ·have hb:((n:Int) == (k:Int))=false:=beq_eq_false_iff_ne.mpr (by omega)
   have hbf:Cm L[n] L[k]=false:=by
    cases hc:Cm L[n] L[k] with
    | false=>rfl
    | true=>
     have hbl:=(IP (hn _ (List.getElem_mem hk))).mp hc
     have hp:=List.pairwise_iff_getElem.mp hac
     rcases Nat.lt_or_gt_of_ne hnk with z | z
     ·exact absurd hbl (hp n k hnl hk z).1
     ·exact absurd hbl (hp k n hk hnl z).2
   rw [hbf] at t
   simp! [hb,e1,e2,t]
   exact e
theorem fL{R:List Row}(h:Lr R){k:Nat}(hk:k < (nf R).length){x4 x5 x6 x7:Option Lo}:∃ x6',(Am (CF (CD (FD.t2 (FD.e2 (Aa 0) (Aa 5) AW) (Aa 3) (CT QZ)) (Im (FD.t2 (Aa 5) (eC (.int 0)) (cI fun i j=>decide (j < i))) (A6 (FD.t2 (FD.e2 (Aa 0) (FD.e2 (Aa 5) (eC (.int 1)) (QX (· - ·))) AW) (FD.e2 (Aa 0) (Aa 5) AW) (KW .Lt))))) (AA (eC (.bl false)) []) Ar)
  (A1 (Ai 6) (Cj (Ab (eB BO (Ab (Aa 2) Ag)) Ag)) []
  (CF (Im (FD.t2 (Aa 6) (Aa 5) QA) (FD.t1 (Al (Bh K cs) (Ab (FD.e2 (Aa 2) (Aa 6) AW) (Ab (FD.e2 (Aa 2) (Aa 5) AW) Ag))) A2)) (AA (eC (.bl false)) []) Ar))) (WS R (nf R) x4 (some (.sh (.int (k:Int)))) x6 x7)=.ok .nx (WS R (nf R) x4 (some (.sh (.int (k:Int)))) x6' x7):=by
 obtain ⟨a1,a2,a3,a4⟩:=DR h.nd
 obtain ⟨x6',e⟩:=UH (K:=K) (cs:=cs) (R:=R) (fun l hl=>(a1.fl l hl).nd) a1.ac hk (x4:=x4) (x7:=x7) (List.range (nf R).length) x6 fun n hn=>List.mem_range.mp hn
 refine ⟨x6',?_⟩
 have e1:=Tz (f:=fD) hk
 have gi:QZ (fD (nf R)[k]) (.lst ((R.map flat).map fD))=some true:=by
  refine aX ?_ fun r hr=>?_
  ·obtain ⟨r,hr,e⟩:=a2 _ (List.getElem_mem hk)
   rw [e]
   exact List.mem_map.mpr ⟨r,hr,rfl⟩
  ·obtain ⟨x,hx,rfl⟩:=List.mem_map.mp hr
   exact fun p hp=>h.nm x hx p ((Du x).mem_iff.mp hp)
 have gl:BO [.lst ((nf R).map rD)]=some (.int ((nf R).length:Nat)):=by rw [GY,List.length_map]
 have hs:ED ((nf R).length:Int)=true:=JC (by omega) (by have:=JV R; have:=h.l; omega)
 have hf:A1 (Ai 6) (Cj (Ab (eB BO (Ab (Aa 2) Ag)) Ag)) [] (CF (Im (FD.t2 (Aa 6) (Aa 5) QA) (FD.t1 (Al (Bh K cs) (Ab (FD.e2 (Aa 2) (Aa 6) AW) (Ab (FD.e2 (Aa 2) (Aa 5) AW) Ag))) A2)) (AA (eC (.bl false)) []) Ar) (WS R (nf R) x4 (some (.sh (.int (k:Int)))) x6 x7)=.ok .nx (WS R (nf R) x4 (some (.sh (.int (k:Int)))) x6' x7):=by
  rw [Ci]
  simp! [gl,I7,hs,Int.toNat_natCast,R9]
  exact e
 by_cases h0:0 < (k:Int)
 ·have ek:(k:Int) - 1=((k - 1:Nat):Int):=by omega
  have e2:=Tz (f:=fD) (l:=nf R) (k:=k - 1) (by omega)
  have lt:=Yi (nf R)[k - 1] (nf R)[k]
  have hup:rO.lt (nf R)[k - 1] (nf R)[k]=true:=List.pairwise_iff_getElem.mp a1.up (k - 1) k (by omega) hk (by omega)
  rw [hup] at lt
  simp! [e1,gi,h0,decide_true,ek,e2,lt]
  exact hf
 ·simp! [e1,gi,h0,decide_false]
  exact hf
theorem WM{R:List Row}(h:Lr R){x5 x6:Option Lo}:∀ (Q:List Row) (x4 x7:Option Lo),(∀ r∈Q,r∈R)→∃ x4' x7',BA (Ai 4) (CF (A6 (FD.t1 (eB Q6 (Ab (eL (Fi (Ai 7) [7] AK (Al (Bh K cs) (Ab (Aa 7) (Ab (Aa 4) Ag))) (AB (Aa 2)) [2])) Ag)) A2)) (AA (eC (.bl false)) []) Ar) (Q.map rD) (WS R (nf R) x4 x5 x6 x7)=.ok .nx (WS R (nf R) x4' x5 x6 x7')
 | [],x4,x7,_=>⟨x4,x7,rfl⟩
 | r :: Q,x4,x7,hQ=>by
  obtain ⟨a1,a2,a3,a4⟩:=DR h.nd
  obtain ⟨x4',x7',e⟩:=WM h (x5:=x5) (x6:=x6) Q (some (.sh (rD r))) x7 fun q hq=>hQ q (List.mem_cons_of_mem _ hq)
  refine ⟨x4',x7',?_⟩
  have hr:=hQ r List.mem_cons_self
  rw [List.map_cons,HL (ρ1:=WS R (nf R) (some (.sh (rD r))) x5 x6 x7) rfl]
  have hc:Fi (Ai 7) [7] AK (Al (Bh K cs) (Ab (Aa 7) (Ab (Aa 4) Ag))) (AB (Aa 2)) [2] (WS R (nf R) (some (.sh (rD r))) x5 x6 x7)=.ok ((nf R).map fun l=>.bl (Cm l r)):=by
   refine DB (e:=rD) rfl (by have:=JV R; have:=h.l; omega) fun l hl=>⟨WS R (nf R) (some (.sh (rD r))) x5 x6 (some (.sh (rD l))),rfl,?_⟩
   have t:=Tu (K:=K) (cs:=cs) r (a1.fl l hl).nd
   simp! [t]
  have ha:=hV (fun l=>Cm l r) (nf R)
  have hy:((nf R).any fun l=>Cm l r)=true:=by
   obtain ⟨l,hl,b⟩:=a3 r hr
   exact List.any_eq_true.mpr ⟨l,hl,(IP (h.nd r hr)).mpr b⟩
  rw [hy] at ha
  simp! [hc,ha]
  exact e
theorem Xx{R:List Row}(h:Lr R):Dd K cs [.tup ((nf R).map fD),.lst (R.map rD)]=.ok (.bl true):=by
 have ed:Dd K cs [.tup ((nf R).map fD),.lst (R.map rD)]=Ax 8 (FW K cs) [.tup ((nf R).map fD),.lst (R.map rD)]:=AE rfl
 rw [ed]
 unfold FW
 obtain ⟨hL,hF⟩:=h.nf
 have t1:=jA (K:=K) (cs:=cs) hF hL.ne (by have:=hL.l; omega)
 have hc:Fi (Ai 4) [4] AK (Al (F6 K cs) (Ab (Aa 4) Ag)) (AB (Aa 1)) [1] [some (.sh (.tup ((nf R).map fD))),some (.sh (.lst (R.map rD))),some (.sh (.lst ((nf R).map rD))),none,none,none,none,none]=.ok ((R.map flat).map fD):=by
  rw [List.map_map]
  refine DB (e:=rD) rfl (by have:=h.l; omega) fun r hr=>⟨[some (.sh (.tup ((nf R).map fD))),some (.sh (.lst (R.map rD))),some (.sh (.lst ((nf R).map rD))),none,some (.sh (rD r)),none,none,none],rfl,?_⟩
  simp! [jr]
  rfl
 have gl:BO [.tup ((nf R).map fD)]=some (.int ((nf R).length:Nat)):=by rw [Md,List.length_map]
 have hs:ED ((nf R).length:Int)=true:=JC (by omega) (by have:=hL.l; omega)
 obtain ⟨ρ1,e1,x5,x6,hρ⟩:=RV (E:=fun ρ=>∃ x5 x6,ρ=WS R (nf R) none x5 x6 none) (u:=Ai 5) (b:=(Am (CF (CD (FD.t2 (FD.e2 (Aa 0) (Aa 5) AW) (Aa 3) (CT QZ)) (Im (FD.t2 (Aa 5) (eC (.int 0)) (cI fun i j=>decide (j < i))) (A6 (FD.t2 (FD.e2 (Aa 0) (FD.e2 (Aa 5) (eC (.int 1)) (QX (· - ·))) AW) (FD.e2 (Aa 0) (Aa 5) AW) (KW .Lt))))) (AA (eC (.bl false)) []) Ar)
  (A1 (Ai 6) (Cj (Ab (eB BO (Ab (Aa 2) Ag)) Ag)) []
  (CF (Im (FD.t2 (Aa 6) (Aa 5) QA) (FD.t1 (Al (Bh K cs) (Ab (FD.e2 (Aa 2) (Aa 6) AW) (Ab (FD.e2 (Aa 2) (Aa 5) AW) Ag))) A2)) (AA (eC (.bl false)) []) Ar)))) (e:=fun n:Nat=>.int (n:Int)) (List.range (nf R).length) (fun k hk ρ ⟨x5,x6,hρ⟩=>by
  obtain ⟨x6',e⟩:=fL (K:=K) (cs:=cs) h (List.mem_range.mp hk) (x4:=none) (x5:=none) (x6:=x6) (x7:=none)
  subst hρ
  exact ⟨_,_,rfl,e,_,_,rfl⟩) (WS R (nf R) none none none none) ⟨none,none,rfl⟩
 subst hρ
 obtain ⟨x4',x7',e2⟩:=WM (K:=K) (cs:=cs) h (x5:=x5) (x6:=x6) R none none fun _ h=>h
 have hf1:A1 (Ai 5) (Cj (Ab (eB BO (Ab (Aa 0) Ag)) Ag)) [] (Am (CF (CD (FD.t2 (FD.e2 (Aa 0) (Aa 5) AW) (Aa 3) (CT QZ)) (Im (FD.t2 (Aa 5) (eC (.int 0)) (cI fun i j=>decide (j < i))) (A6 (FD.t2 (FD.e2 (Aa 0) (FD.e2 (Aa 5) (eC (.int 1)) (QX (· - ·))) AW) (FD.e2 (Aa 0) (Aa 5) AW) (KW .Lt))))) (AA (eC (.bl false)) []) Ar)
  (A1 (Ai 6) (Cj (Ab (eB BO (Ab (Aa 2) Ag)) Ag)) []
  (CF (Im (FD.t2 (Aa 6) (Aa 5) QA) (FD.t1 (Al (Bh K cs) (Ab (FD.e2 (Aa 2) (Aa 6) AW) (Ab (FD.e2 (Aa 2) (Aa 5) AW) Ag))) A2)) (AA (eC (.bl false)) []) Ar))) [some (.sh (.tup ((nf R).map fD))),some (.sh (.lst (R.map rD))),some (.sh (.lst ((nf R).map rD))),some (.ol ((R.map flat).map fD)),none,none,none,none]=.ok .nx [some (.sh (.tup ((nf R).map fD))),some (.sh (.lst (R.map rD))),some (.sh (.lst ((nf R).map rD))),some (.ol ((R.map flat).map fD)),none,x5,x6,none]:=by
  rw [Ci]
  simp! [gl,I7,hs,Int.toNat_natCast,R9]
  exact e1
 have hf2:A1 (Ai 4) (AB (Aa 1)) [1] (CF (A6 (FD.t1 (eB Q6 (Ab (eL (Fi (Ai 7) [7] AK (Al (Bh K cs) (Ab (Aa 7) (Ab (Aa 4) Ag))) (AB (Aa 2)) [2])) Ag)) A2)) (AA (eC (.bl false)) []) Ar) [some (.sh (.tup ((nf R).map fD))),some (.sh (.lst (R.map rD))),some (.sh (.lst ((nf R).map rD))),some (.ol ((R.map flat).map fD)),none,x5,x6,none]=.ok .nx [some (.sh (.tup ((nf R).map fD))),some (.sh (.lst (R.map rD))),some (.sh (.lst ((nf R).map rD))),some (.ol ((R.map flat).map fD)),x4',x5,x6,x7']:=e2
 simp! [t1,FD.Ey,hc,hf1,hf2]
theorem Wm(r:Row):(fD r).pure=true:=by
 unfold fD
 rw [Dt.pure]
 induction r with
 | nil=>rfl
 | cons p r ih=>rw [List.map_cons,Dt.DK,ih]; rfl
def bP(r:Row):Dt:=.lst (r.map IG)
def Y0(r:Row):PyData:=.list (r.map pP)
theorem hJ(r:Row):(bP r).py=some (Y0 r):=by
 unfold bP
 rw [Dt.py,Ed r fun p _=>V0 p]
 rfl
theorem cD(a b:Row):PyData.eqv (Y0 a) (Y0 b)=decide (a=b):=by
 unfold Y0
 rw [PyData.eqv]
 exact Nc a b
theorem Kr{α:Type}{g:α→PyData}[DecidableEq α](h:∀ a b,PyData.eqv (g a) (g b)=decide (a=b)):∀ a b:List α,PyData.eqvAll (a.map g) (b.map g)=decide (a=b)
 | [],[]=>by simp [PyData.eqvAll]
 | [],q :: b=>by simp [PyData.eqvAll]
 | p :: a,[]=>by simp [PyData.eqvAll]
 | p :: a,q :: b=>by
  rw [List.map_cons,List.map_cons,PyData.eqvAll,h,Kr h a b]
  simp
theorem NC{L:List Row}(h:∀ r∈L,WB r):SeqAt.shaped (.tuple (L.map rP))=true:=by
 have h2:=KA Qg L
 unfold SeqAt.shaped
 rw [decide_eq_true (by rw [PyData.depth]; omega),Bool.and_true,PyData.canLay0]
 refine IK fun r hr=>?_
 unfold rP
 rw [PyData.canLay0]
 exact IK fun p hp=>VS (h r hr p hp)
theorem VZ{a b:Dt}{t:Bool}(h:Nv a b=some t):QA a b=some (!t):=by
 rw [ig]
 unfold CT
 rw [h]
 rfl
end Lk15
namespace Lk15
open Nf
def Up(P:Kn→Int→Prop)(r:Row):Prop:=∀ p∈r,P p.1 p.2
def Ib(P:Kn→Int→Prop):Prop:=∀ k x y,x≤y→P k y→P k x
def W(R:List Row)(P:Kn→Int→Prop):Prop:=∃ r∈R,Up P r
def XA(f:Kn→Int)(c:Int):Kn→Int→Prop:=fun k x=>f k + x≤c
theorem D8(f:Kn→Int)(c:Int):Ib (XA f c):=fun k x y h z=>by unfold XA at *; omega
abbrev V(R:List Row)(f:Kn→Int)(c:Int):Prop:=W R (XA f c)
theorem Ws{P:Kn→Int→Prop}{r:Row}(n:(ks r).Nodup):Up P r ↔ ∀ k x,gt r k=some x→P k x:=
 ⟨fun h k x e=>h _ (G9 e),fun h p hp=>h _ _ (K1 n hp)⟩
def Ce(acc:Row)(p:Kn × Int):Row:=match gt acc p.1 with
 | some y=>if y < p.2 then Dy acc p.1 p.2 else acc
 | none=>Dy acc p.1 p.2
def A3(a b:Row):Row:=b.foldl Ce a
theorem Wu{a:Row}(n:(ks a).Nodup)(p:Kn × Int):(ks (Ce a p)).Nodup:=by
 unfold Ce
 split
 ·split
  ·exact PV n _ _
  ·exact n
 ·exact PV n _ _
theorem eF{a:Row}{p:Kn × Int}{k:Kn}:k∈ks (Ce a p) ↔ k∈ks a∨k=p.1:=by
 unfold Ce
 split
 ·rename_i y e
  split
  ·exact ⟨Sm,ak⟩
  ·exact ⟨.inl,fun h=>h.elim id fun z=>by rw [z]; exact BH (G9 e)⟩
 ·exact ⟨Sm,ak⟩
theorem dc{P:Kn→Int→Prop}(hP:Ib P){a:Row}(n:(ks a).Nodup)(p:Kn × Int):Up P (Ce a p) ↔ Up P a∧P p.1 p.2:=by
 unfold Ce
 split
 ·rename_i y e
  split
  ·rename_i h
   rw [Ws (PV n _ _),Ws n]
   constructor
   ·intro z
    have zp:P p.1 p.2:=z p.1 p.2 (by rw [MZ,if_pos rfl])
    refine ⟨fun k x ek=>?_,zp⟩
    by_cases hk:k=p.1
    ·subst hk
     rw [e] at ek
     cases ek
     exact hP _ _ _ (by omega) zp
    ·exact z k x (by rw [MZ,if_neg hk]; exact ek)
   ·rintro ⟨z1,z2⟩ k x ek
    rw [MZ] at ek
    by_cases hk:k=p.1
    ·rw [if_pos hk] at ek
     cases ek
     rw [hk]
     exact z2
    ·rw [if_neg hk] at ek
     exact z1 k x ek
  ·rename_i h
   exact ⟨fun z=>⟨z,hP p.1 p.2 y (by omega) (z (p.1,y) (G9 e))⟩,fun z=>z.1⟩
 ·rename_i e
  rw [Ws (PV n _ _),Ws n]
  constructor
  ·intro z
   refine ⟨fun k x ek=>?_,z p.1 p.2 (by rw [MZ,if_pos rfl])⟩
   by_cases hk:k=p.1
   ·subst hk
    rw [e] at ek
    cases ek
   ·exact z k x (by rw [MZ,if_neg hk]; exact ek)
  ·rintro ⟨z1,z2⟩ k x ek
   rw [MZ] at ek
   by_cases hk:k=p.1
   ·rw [if_pos hk] at ek
    cases ek
    rw [hk]
    exact z2
   ·rw [if_neg hk] at ek
    exact z1 k x ek
theorem Qq:∀ {b a:Row},(ks a).Nodup→(ks (A3 a b)).Nodup
 | [],_,n=>n
 | p :: b,a,n=>Qq (b:=b) (Wu n p)
theorem LZ:∀ {b a:Row} {k:Kn},k∈ks (A3 a b) ↔ k∈ks a∨k∈ks b
 | [],a,k=>⟨.inl,fun h=>h.elim id fun z=>nomatch z⟩
 | p :: b,a,k=>by
  show k∈ks (A3 (Ce a p) b) ↔ k∈ks a∨k∈p.1 :: ks b
  rw [LZ,eF,List.mem_cons]
  exact or_assoc
theorem P9{P:Kn→Int→Prop}(hP:Ib P):∀ {b a:Row},(ks a).Nodup→(Up P (A3 a b) ↔ Up P a∧Up P b)
 | [],a,_=>⟨fun z=>⟨z,fun p hp=>nomatch hp⟩,fun z=>z.1⟩
 | p :: b,a,n=>by
  show Up P (A3 (Ce a p) b) ↔ _
  rw [P9 hP (Wu n p),dc hP n]
  constructor
  ·rintro ⟨⟨z1,z2⟩,z3⟩
   exact ⟨z1,fun q hq=>(List.mem_cons.mp hq).elim (fun e=>by rw [e]; exact z2) (z3 q)⟩
  ·rintro ⟨z1,z2⟩
   exact ⟨⟨z1,z2 p List.mem_cons_self⟩,fun q hq=>z2 q (List.mem_cons_of_mem _ hq)⟩
theorem OD{a b:Row}(h:a≠[]∨b≠[]):A3 a b≠[]:=by
 intro e
 have hn:∀ k,k∉ks (A3 a b):=fun k hk=>by rw [e] at hk; cases hk
 rcases h with h | h
 ·cases a with
  | nil=>exact h rfl
  | cons p a=>exact hn p.1 (LZ.mpr (.inl List.mem_cons_self))
 ·cases b with
  | nil=>exact h rfl
  | cons p b=>exact hn p.1 (LZ.mpr (.inr List.mem_cons_self))
def joinR(R S:List Row):List Row:=R.flatMap fun r=>S.map fun s=>A3 r s
def Dw(k:Int)(r:Row):Row:=r.map fun p=>(p.1,p.2 + k)
def AZ(k:Int)(R:List Row):List Row:=R.map (Dw k)
def EU(r:Row)(G:Kn→List Row):List Row:=r.foldl (fun Q p=>joinR Q (AZ p.2 (G p.1))) [[]]
def A7(R:List Row)(G:Kn→List Row):List Row:=R.flatMap fun r=>EU r G
theorem T3(k:Int)(r:Row):ks (Dw k r)=ks r:=by
 unfold ks Dw
 rw [List.map_map]
 rfl
theorem kZ{R S:List Row}{P:Kn→Int→Prop}:W (R ++ S) P ↔ W R P∨W S P:=by
 unfold W
 constructor
 ·rintro ⟨r,hr,h⟩
  exact (List.mem_append.mp hr).elim (fun z=>.inl ⟨r,z,h⟩) fun z=>.inr ⟨r,z,h⟩
 ·rintro (⟨r,hr,h⟩ | ⟨r,hr,h⟩)
  ·exact ⟨r,List.mem_append_left _ hr,h⟩
  ·exact ⟨r,List.mem_append_right _ hr,h⟩
theorem mem_join{R S:List Row}{x:Row}:x∈joinR R S ↔ ∃ r∈R,∃ s∈S,A3 r s=x:=by
 unfold joinR
 rw [List.mem_flatMap]
 exact ⟨fun ⟨r,hr,h⟩=>⟨r,hr,(List.mem_map.mp h).elim fun s hs=>⟨s,hs.1,hs.2⟩⟩,fun ⟨r,hr,s,hs,e⟩=>⟨r,hr,List.mem_map.mpr ⟨s,hs,e⟩⟩⟩
theorem ZR{R S:List Row}{P:Kn→Int→Prop}(hP:Ib P)(n:∀ r∈R,(ks r).Nodup):W (joinR R S) P ↔ W R P∧W S P:=by
 unfold W
 constructor
 ·rintro ⟨x,hx,h⟩
  obtain ⟨r,hr,s,hs,rfl⟩:=mem_join.mp hx
  obtain ⟨h1,h2⟩:=(P9 hP (n r hr)).mp h
  exact ⟨⟨r,hr,h1⟩,⟨s,hs,h2⟩⟩
 ·rintro ⟨⟨r,hr,h1⟩,⟨s,hs,h2⟩⟩
  exact ⟨A3 r s,mem_join.mpr ⟨r,hr,s,hs,rfl⟩,(P9 hP (n r hr)).mpr ⟨h1,h2⟩⟩
theorem Wy{R:List Row}{P:Kn→Int→Prop}{k:Int}:W (AZ k R) P ↔ W R fun j x=>P j (x + k):=by
 unfold W AZ
 constructor
 ·rintro ⟨x,hx,h⟩
  obtain ⟨r,hr,rfl⟩:=List.mem_map.mp hx
  exact ⟨r,hr,fun p hp=>h _ (List.mem_map.mpr ⟨p,hp,rfl⟩)⟩
 ·rintro ⟨r,hr,h⟩
  refine ⟨_,List.mem_map.mpr ⟨r,hr,rfl⟩,fun p hp=>?_⟩
  obtain ⟨q,hq,rfl⟩:=List.mem_map.mp hp
  exact h q hq
theorem S8{R S:List Row}(n:∀ r∈R,(ks r).Nodup):∀ x∈joinR R S,(ks x).Nodup:=fun x hx=>by
 obtain ⟨r,hr,s,hs,rfl⟩:=mem_join.mp hx
 exact Qq (n r hr)
theorem Kg(R S:List Row):(joinR R S).length=R.length * S.length:=by
 unfold joinR
 induction R with
 | nil=>simp
 | cons r R ih=>rw [List.flatMap_cons,List.length_append,List.length_map,ih,List.length_cons,Nat.add_mul,Nat.one_mul,Nat.add_comm]
theorem place_go{G:Kn→List Row}{P:Kn→Int→Prop}(hP:Ib P):∀ {r:Row} {Q:List Row},(∀ x∈Q,(ks x).Nodup)→(W (r.foldl (fun Q p=>joinR Q (AZ p.2 (G p.1))) Q) P ↔ W Q P∧Up (fun k x=>W (G k) fun j y=>P j (y + x)) r)
 | [],Q,_=>⟨fun z=>⟨z,fun p hp=>nomatch hp⟩,fun z=>z.1⟩
 | p :: r,Q,n=>by
  rw [List.foldl_cons,place_go hP (S8 n),ZR hP n,Wy]
  constructor
  ·rintro ⟨⟨z1,z2⟩,z3⟩
   exact ⟨z1,fun q hq=>(List.mem_cons.mp hq).elim (fun e=>by rw [e]; exact z2) (z3 q)⟩
  ·rintro ⟨z1,z2⟩
   exact ⟨⟨z1,z2 p List.mem_cons_self⟩,fun q hq=>z2 q (List.mem_cons_of_mem _ hq)⟩
theorem gn(P:Kn→Int→Prop):W [[]] P:=⟨[],List.mem_singleton.mpr rfl,fun p hp=>nomatch hp⟩
theorem ao:∀ x∈([[]]:List Row),(ks x).Nodup:=fun x hx=>by rw [List.mem_singleton.mp hx]; exact List.nodup_nil
theorem Xl{r:Row}{G:Kn→List Row}{P:Kn→Int→Prop}(hP:Ib P):W (EU r G) P ↔ Up (fun k x=>W (G k) fun j y=>P j (y + x)) r:=by
 unfold EU
 rw [place_go hP ao]
 exact ⟨fun z=>z.2,fun z=>⟨gn P,z⟩⟩
theorem T2{R:List Row}{G:Kn→List Row}{P:Kn→Int→Prop}(hP:Ib P):W (A7 R G) P ↔ W R fun k x=>W (G k) fun j y=>P j (y + x):=by
 unfold A7
 constructor
 ·rintro ⟨x,hx,h⟩
  obtain ⟨r,hr,hx⟩:=List.mem_flatMap.mp hx
  exact ⟨r,hr,(Xl hP).mp ⟨x,hx,h⟩⟩
 ·rintro ⟨r,hr,h⟩
  obtain ⟨x,hx,h⟩:=(Xl hP).mpr h
  exact ⟨x,List.mem_flatMap.mpr ⟨r,hr,hx⟩,h⟩
theorem Vl{R:Kn→List Row}{P:Kn→Int→Prop}(hP:Ib P):Ib fun k x=>W (R k) fun j y=>P j (y + x):=fun k x y h ⟨r,hr,z⟩=>⟨r,hr,fun p hp=>hP _ _ _ (by omega) (z p hp)⟩
theorem N7.W{R S:List Row}(d:N7 R S){P:Kn→Int→Prop}(hP:Ib P)(h:W S P):W R P:=by
 obtain ⟨s,hs,z⟩:=h
 obtain ⟨r,hr,b⟩:=d s hs
 refine ⟨r,hr,fun p hp=>?_⟩
 obtain ⟨y,hy,l⟩:=b p hp
 exact hP _ _ _ l (z _ hy)
theorem iI(R:List Row):∃ F:Int,∀ r∈R,∀ p∈r,0 < F + p.2:=by
 have h1:∀ r:Row,∃ F:Int,∀ p∈r,0 < F + p.2:=fun r=>by
  induction r with
  | nil=>exact ⟨0,fun p hp=>nomatch hp⟩
  | cons p r ih=>
   obtain ⟨F,h⟩:=ih
   refine ⟨max F (1 - p.2),fun q hq=>?_⟩
   rcases List.mem_cons.mp hq with e | hq
   ·rw [e]; omega
   ·have:=h q hq; omega
 induction R with
 | nil=>exact ⟨0,fun r hr=>nomatch hr⟩
 | cons r R ih=>
  obtain ⟨F,h⟩:=ih
  obtain ⟨F',h'⟩:=h1 r
  refine ⟨max F F',fun q hq p hp=>?_⟩
  rcases List.mem_cons.mp hq with e | hq
  ·have:=h' p (by rw [← e]; exact hp); omega
  ·have:=h q hq p hp; omega
theorem gQ{R S:List Row}(n:∀ s∈S,(ks s).Nodup)(h:∀ f c,V S f c→V R f c):N7 R S:=fun s hs=>by
 obtain ⟨F,hF⟩:=iI R
 have hu:Up (XA (ptf s F) 0) s:=fun p hp=>by
  unfold XA ptf
  rw [K1 (n s hs) hp]
  show 0 - p.2 + p.2≤0
  omega
 obtain ⟨r,hr,z⟩:=h (ptf s F) 0 ⟨s,hs,hu⟩
 refine ⟨r,hr,fun p hp=>?_⟩
 have q:=z p hp
 unfold XA ptf at q
 cases e:gt s p.1 with
 | none=>rw [e] at q; have:=hF r hr p hp; have q:F + p.2≤0:=q; omega
 | some x=>rw [e] at q; exact ⟨x,G9 e,by have q:0 - x + p.2≤0:=q; omega⟩
theorem fM{R S:List Row}(n:∀ r∈R,(ks r).Nodup)(n':∀ r∈S,(ks r).Nodup):nf R=nf S ↔ ∀ f c,V R f c ↔ V S f c:=by
 rw [hX n n']
 constructor
 ·rintro ⟨d,d'⟩ f c
  exact ⟨N7.W d' (D8 f c),N7.W d (D8 f c)⟩
 ·intro h
  exact ⟨gQ n' fun f c=>(h f c).mpr,gQ n fun f c=>(h f c).mp⟩
theorem bE{R:List Row}(n:∀ r∈R,(ks r).Nodup){P:Kn→Int→Prop}(hP:Ib P):W (nf R) P ↔ W R P:=by
 obtain ⟨_,_,d,d'⟩:=DR n
 exact ⟨N7.W d' hP,N7.W d hP⟩
theorem SG{R:List Row}{f:Kn→Int}{c:Int}(h:R≠[])(hn:∀ r∈R,r≠[]):vl R f≤c ↔ V R f c:=by
 rw [ly h]
 constructor
 ·rintro ⟨r,hr,z⟩
  exact ⟨r,hr,(gm (hn r hr)).mp z⟩
 ·rintro ⟨r,hr,z⟩
  exact ⟨r,hr,(gm (hn r hr)).mpr z⟩
end Lk15
namespace Lk15
open PySem L2 FD SX TL Nf
variable {K:PySem.W.Frag} {cs:Cs}
theorem Gr.merge{A:List Kn}{a b:Row}(h:Gr A a)(h':Gr A b):Gr A (A3 a b):=⟨Qq h.nd,fun k hk=>(LZ.mp hk).elim (h.sub k) (h'.sub k)⟩
theorem Gr.flat{A:List Kn}{a:Row}(h:Gr A a):Gr A (flat a):=⟨(Nr h.nd).nd,fun k hk=>h.sub k ((WZ (Du a)).mem_iff.mp hk)⟩
theorem Gr.shift{A:List Kn}{a:Row}(h:Gr A a)(x:Int):Gr A (Dw x a):=⟨by rw [T3]; exact h.nd,by rw [T3]; exact h.sub⟩
def GL(A:List Kn)(R:List Row):Prop:=∀ r∈R,Gr A r
theorem GL.nd{A:List Kn}{R:List Row}(h:GL A R):∀ r∈R,(ks r).Nodup:=fun r hr=>(h r hr).nd
theorem GL.join{A:List Kn}{R S:List Row}(h:GL A R)(h':GL A S):GL A (joinR R S):=fun x hx=>by
 obtain ⟨r,hr,s,hs,rfl⟩:=mem_join.mp hx
 exact (h r hr).merge (h' s hs)
theorem GL.shift{A:List Kn}{R:List Row}(h:GL A R)(x:Int):GL A (AZ x R):=fun r hr=>by
 obtain ⟨q,hq,rfl⟩:=List.mem_map.mp hr
 exact (h q hq).shift x
theorem GL.app{A:List Kn}{R S:List Row}(h:GL A R)(h':GL A S):GL A (R ++ S):=fun r hr=>(List.mem_append.mp hr).elim (h r) (h' r)
theorem GL.nf{A:List Kn}{R:List Row}(h:GL A R):GL A (nf R):=fun l hl=>by
 obtain ⟨_,m,_,_⟩:=DR h.nd
 obtain ⟨r,hr,rfl⟩:=m l hl
 exact (h r hr).flat
theorem GL.sz{A:List Kn}{R:List Row}(h:GL A R)(hA:A.length≤20)(hl:R.length≤1000):Sz R:=⟨hl,fun r hr=>by have:=(h r hr).len; omega,h.nd⟩
theorem NF.ne{R:List Row}(n:∀ r∈R,(ks r).Nodup)(h:∀ r∈R,r≠[]):∀ l∈nf R,l≠[]:=fun l hl=>by
 obtain ⟨_,m,_,_⟩:=DR n
 obtain ⟨r,hr,rfl⟩:=m l hl
 exact Oa (h r hr)
theorem Zk{R:List Row}(h:∀ r∈R,Flat r):nf R=lows R:=by
 unfold nf
 rw [List.map_congr_left (g:=id) fun r hr=>(h r hr).self,List.map_id]
theorem Rm{R:List Row}(n:∀ r∈R,(ks r).Nodup):∀ l∈nf R,Flat l:=(DR n).1.fl
theorem ND{d0 d1:Option Lo}:∀ (b acc:Row) (x3 x4:Option Lo),acc.length + b.length≤1000→∃ x3' x4',BA (Fh (AO (Ai 3) (AO (Ai 4) EO))) (CF (CD (FD.t2 (Aa 3) (Aa 2) (CT Dk)) (FD.t2 (Aa 4) (FD.e2 (Aa 2) (Aa 3) AH) (cI fun i j=>decide (j < i)))) (BK 2 (Aa 3) (Aa 4) [4]) Ar) (b.map IG) [d0,d1,some (.od (CB acc) (D4 acc)),x3,x4]=.ok .nx [d0,d1,some (.od (CB (A3 acc b)) (D4 (A3 acc b))),x3',x4']
 | [],acc,x3,x4,_=>⟨x3,x4,rfl⟩
 | p :: b,acc,x3,x4,hl=>by
  simp only [List.length_cons] at hl
  have lp:=Oh acc p.1 p.2
  have ls:(Ce acc p).length≤acc.length + 1:=by
   unfold Ce
   split
   ·split
    ·exact lp
    ·omega
   ·exact lp
  obtain ⟨x3',x4',e⟩:=ND (d0:=d0) (d1:=d1) b (Ce acc p) (some (.sh (.str (S p.1)))) (some (.sh (.int p.2))) (by omega)
  refine ⟨x3',x4',?_⟩
  have em:A3 acc (p :: b)=A3 (Ce acc p) b:=rfl
  have hu:Fh (AO (Ai 3) (AO (Ai 4) EO)) (IG p) [d0,d1,some (.od (CB acc) (D4 acc)),x3,x4]=some [d0,d1,some (.od (CB acc) (D4 acc)),some (.sh (.str (S p.1))),some (.sh (.int p.2))]:=by
   unfold IG
   simp! []
  have gi:Dk (.str (S p.1)) (.dic (CB acc) (D4 acc))=some (decide (p.1∈ks acc)):=kY acc p.1
  have ga:AH (.dic (CB acc) (D4 acc)) (.str (S p.1))=(gt acc p.1).map .int:=Y6 acc p.1
  have pk:Es (CB acc) (Sum.inr (S p.1))=CB (Dy acc p.1 p.2):=O1 acc p.1 p.2
  have pv:CW (CB acc) (D4 acc) (Sum.inr (S p.1)) (.int p.2)=D4 (Dy acc p.1 p.2):=PB acc p.1 p.2
  have hkl:(CB acc).length < 16777216:=by rw [I4]; omega
  have gi':decide (Sum.inr (S p.1)∈CB acc)=decide (p.1∈ks acc):=decide_eq_decide.mpr Ht
  rw [em,List.map_cons,HL hu]
  cases hg:gt acc p.1 with
  | none=>
   have hk:p.1∉ks acc:=Kx.mp hg
   have es:Ce acc p=Dy acc p.1 p.2:=by unfold Ce; rw [hg]
   rw [es] at e
   rw [decide_eq_false hk] at gi gi'
   rw [es]
   simp! [gi,gi',pk,pv,hkl,FD.DZ,e]
  | some y=>
   have hk:p.1∈ks acc:=BH (G9 hg)
   rw [decide_eq_true hk] at gi gi'
   rw [hg] at ga
   by_cases hy:y < p.2
   ·have es:Ce acc p=Dy acc p.1 p.2:=by unfold Ce; rw [hg]; exact if_pos hy
    rw [es] at e
    rw [es]
    simp! [gi,gi',ga,hy,decide_true,pk,pv,hkl,FD.DZ,e]
   ·have es:Ce acc p=acc:=by unfold Ce; rw [hg]; exact if_neg hy
    rw [es] at e
    rw [es]
    simp! [gi,gi',ga,hy,decide_false,e]
theorem ZI{A:List Kn}{a b:Row}(ha:Gr A a)(hb:Gr A b)(hA:A.length≤20):Ke K cs [fD a,fD b]=.ok (fD (flat (A3 a b))):=by
 have ed:Ke K cs [fD a,fD b]=Ax 5 (MM K cs) [fD a,fD b]:=AE rfl
 rw [ed]
 unfold MM
 obtain ⟨x3,x4,e⟩:=ND (d0:=some (.sh (fD a))) (d1:=some (.sh (fD b))) b a none none (by have:=ha.len; have:=hb.len; omega)
 have hd:Ks 2 (Ab (Aa 0) Ag) [some (.sh (fD a)),some (.sh (fD b)),none,none,none]=.ok .nx [some (.sh (fD a)),some (.sh (fD b)),some (.od (CB a) (D4 a)),none,none]:=by
  rw [Vt]
  show (HU (Out.ok [fD a]) _ fun ds=>match Ef ds with
   | some (.dic ks es)=>if Dt.DK es=true then SOut.ok .nx ([some (.sh (fD a)),some (.sh (fD b)),none,none,none].set 2 (some (.od ks es))) else .bad
   | _=>.bad)=_
  rw [FC,Og ha.nd]
  show (if Dt.DK (D4 a)=true then _ else _)=_
  rw [if_pos (Xe a)]
  rfl
 have hf:A1 (Fh (AO (Ai 3) (AO (Ai 4) EO))) (AB (Aa 1)) [1] (CF (CD (FD.t2 (Aa 3) (Aa 2) (CT Dk)) (FD.t2 (Aa 4) (FD.e2 (Aa 2) (Aa 3) AH) (cI fun i j=>decide (j < i)))) (BK 2 (Aa 3) (Aa 4) [4]) Ar) [some (.sh (fD a)),some (.sh (fD b)),some (.od (CB a) (D4 a)),none,none]=.ok .nx [some (.sh (fD a)),some (.sh (fD b)),some (.od (CB (A3 a b)) (D4 (A3 a b))),x3,x4]:=e
 have t:GV K cs [.dic (CB (A3 a b)) (D4 (A3 a b))]=.ok (fD (flat (A3 a b))):=UI (A3 a b)
 have hz:∀ ρ,AL (fD (flat (A3 a b))) [2] ρ=ρ:=fun ρ=>CC (Wm _)
 simp! [hd,hf,t,hz]
theorem UD{α:Type}{i:Nat}{src1:FD.Env→Out (List Dt)}{lk1 vs1:List Nat}{u1:Dt→FD.Env→Option FD.Env}{t1:FD.Env→Out Bool}{f:FD.Env→Out Dt}{ρ:FD.Env}{e:α→Dt}{g:α→List Dt}{es:List Dt}(he:es.length≤16777216):∀ {xs:List α},(∀ x∈xs,src1 (ρ.set i (some (.sh (e x))))=.ok es∧lk1.all (He (ρ.set i (some (.sh (e x)))))=true∧N5 u1 t1 f (BB (ρ.set i (some (.sh (e x)))) vs1) es=.ok (g x))→O0 (Ai i) AK src1 lk1 u1 vs1 t1 f ρ (xs.map e)=.ok (xs.flatMap g)
 | [],_=>rfl
 | x :: xs,h=>by
  obtain ⟨h1,h2,h3⟩:=h x List.mem_cons_self
  rw [List.map_cons]
  unfold O0
  rw [G1]
  simp only [BI,Out.Au,Oi,B2,if_true,h1,he,h2,and_self]
  rw [h3,Out.Au,UD he fun y hy=>h y (List.mem_cons_of_mem _ hy)]
  rfl
def tD(L:List Row):Dt:=.tup (L.map fD)
theorem EA(L:List Row):(tD L).pure=true:=by
 unfold tD
 rw [Dt.pure]
 induction L with
 | nil=>rfl
 | cons r L ih=>rw [List.map_cons,Dt.DK,ih,Wm]; rfl
theorem bG{A:List Kn}{R Q:List Row}(hR:GL A R)(hQ:GL A Q)(hA:A.length≤20)(hl:R.length * Q.length≤1000)(lR:R.length≤1000)(lQ:Q.length≤1000)(hn:∀ s∈Q,s≠[]):Ii K cs [tD R,tD Q]=.ok (tD (nf (joinR R Q))):=by
 have ed:Ii K cs [tD R,tD Q]=Ax 4 (Lq K cs) [tD R,tD Q]:=AE rfl
 rw [ed]
 unfold Lq
 have ej:(joinR R Q).map flat=R.flatMap fun r=>Q.map fun s=>flat (A3 r s):=by
  unfold joinR
  rw [List.map_flatMap]
  simp only [List.map_map]
  rfl
 have hc:(bz (Ai 2) [2,3] AK (AB (Aa 1)) [1] (Ai 3) [3] AK (Al (Ke K cs) (Ab (Aa 2) (Ab (Aa 3) Ag))) (AB (Aa 0)) [0]) [some (.sh (tD R)),some (.sh (tD Q)),none,none]=.ok (((joinR R Q).map flat).map fD):=by
  have src:AB (Aa 0) [some (.sh (tD R)),some (.sh (tD Q)),none,none]=.ok (R.map fD):=rfl
  unfold bz
  rw [src,Out.Au,if_pos (by rw [List.length_map]; omega)]
  show (NP (O0 (Ai 2) AK _ [1] (Ai 3) [3] AK _ [some (.sh (tD R)),some (.sh (tD Q)),none,none] (R.map fD))).bind _=_
  rw [UD (es:=Q.map fD) (g:=fun r=>Q.map fun s=>fD (flat (A3 r s))) (by rw [List.length_map]; omega) fun r hr=>⟨rfl,rfl,?_⟩]
  ·have e2:(R.flatMap fun r=>Q.map fun s=>fD (flat (A3 r s)))=((joinR R Q).map flat).map fD:=by
    rw [ej,List.map_flatMap]
    simp only [List.map_map]
    rfl
   rw [B2,Out.Au,e2,if_pos (by rw [List.length_map,List.length_map,Kg]; omega)]
  ·refine LH (e:=fD) fun s hs=>⟨[some (.sh (tD R)),some (.sh (tD Q)),some (.sh (fD r)),some (.sh (fD s))],rfl,?_⟩
   have t:=ZI (K:=K) (cs:=cs) (hR r hr) (hQ s hs) hA
   simp! [t]
 have hj:=hR.join hQ
 have t:=Pm (K:=K) (cs:=cs) (R:=(joinR R Q).map flat) (hj.sz hA (by rw [Kg]; omega)).flat fun x hx=>by
  obtain ⟨y,hy,rfl⟩:=List.mem_map.mp hx
  obtain ⟨r,hr,s,hs,rfl⟩:=mem_join.mp hy
  exact Oa (OD (.inr (hn s hs)))
 have hz:∀ lk ρ,AL (.tup ((lows ((joinR R Q).map flat)).map fD)) lk ρ=ρ:=fun lk ρ=>CC (EA _)
 simp! [hc,t,hz]
 rfl
theorem ZT{A:List Kn}{R Q:List Row}(hR:GL A R)(hQ:GL A Q)(fR:∀ r∈R,Flat r)(fQ:∀ r∈Q,Flat r)(hA:A.length≤20)(hl:R.length + Q.length≤1000)(nR:∀ s∈R,s≠[])(nQ:∀ s∈Q,s≠[]):G8 K cs [tD R,tD Q]=.ok (tD (nf (R ++ Q))):=by
 have ed:G8 K cs [tD R,tD Q]=Ax 2 (LL K cs) [tD R,tD Q]:=AE rfl
 rw [ed]
 unfold LL
 have hc:OH (Aa 0) (OH (Aa 1) Ag) [some (.sh (tD R)),some (.sh (tD Q))]=.ok ((R ++ Q).map fD):=by
  have e1:OH (Aa 0) (OH (Aa 1) Ag) [some (.sh (tD R)),some (.sh (tD Q))]=.ok (R.map fD ++ (Q.map fD ++ [])):=rfl
  rw [e1,List.append_nil,← List.map_append]
 have hle:((R ++ Q).map fD).length≤16777216:=by rw [List.length_map,List.length_append]; omega
 have t:=Pm (K:=K) (cs:=cs) (R:=R ++ Q) ((hR.app hQ).sz hA (by rw [List.length_append]; omega)) fun x hx=>(List.mem_append.mp hx).elim (nR x) (nQ x)
 rw [← Zk fun r hr=>(List.mem_append.mp hr).elim (fR r) (fQ r)] at t
 have hz:∀ lk ρ,AL (.tup ((nf (R ++ Q)).map fD)) lk ρ=ρ:=fun lk ρ=>CC (EA _)
 simp! [hc,hle,t,hz]
 rfl
theorem Yd{R:List Row}{x:Int}(lR:R.length≤1000)(lr:∀ r∈R,r.length≤1000):GR K cs [tD R,.int x]=.ok (tD (AZ x R)):=by
 have ed:GR K cs [tD R,.int x]=Ax 5 (KC K cs) [tD R,.int x]:=AE rfl
 rw [ed]
 unfold KC
 have hc:(Fi (Ai 2) [2] AK (eB J0 (Ab (eL (Fi (Fh (AO (Ai 3) (AO (Ai 4) EO))) [3,4] AK (GK (Ab (Aa 3) (Ab (FD.e2 (Aa 4) (Aa 1) AX) Ag))) (AB (Aa 2)) [2])) Ag)) (AB (Aa 0)) [0]) [some (.sh (tD R)),some (.sh (.int x)),none,none,none]=.ok ((AZ x R).map fD):=by
  unfold AZ
  rw [List.map_map]
  refine DB (e:=fD) rfl (by omega) fun r hr=>⟨[some (.sh (tD R)),some (.sh (.int x)),some (.sh (fD r)),none,none],rfl,?_⟩
  have hi:(Fi (Fh (AO (Ai 3) (AO (Ai 4) EO))) [3,4] AK (GK (Ab (Aa 3) (Ab (FD.e2 (Aa 4) (Aa 1) AX) Ag))) (AB (Aa 2)) [2]) [some (.sh (tD R)),some (.sh (.int x)),some (.sh (fD r)),none,none]=.ok ((Dw x r).map IG):=by
   unfold Dw
   rw [List.map_map]
   refine DB (e:=IG) rfl (by have:=lr r hr; omega) fun p hp=>⟨[some (.sh (tD R)),some (.sh (.int x)),some (.sh (fD r)),some (.sh (.str (S p.1))),some (.sh (.int p.2))],rfl,?_⟩
   simp! []
   rfl
  simp! [hi,K9]
  rfl
 have hz:∀ lk ρ,AL (.tup ((AZ x R).map fD)) lk ρ=ρ:=fun lk ρ=>CC (EA _)
 simp! [hc,hz]
 rfl
def Ff(A:List Kn)(g:Kn→List Row):Dt:=.dic (A.map kN) (A.map fun k=>tD (g k))
theorem ko(A:List Kn)(h:Kn→Dt){k:Kn}(hk:k∈A):Tf (A.map kN) (A.map h) (kN k)=some (h k):=by
 induction A with
 | nil=>cases hk
 | cons a A ih=>
  rw [List.map_cons,List.map_cons]
  unfold Tf
  by_cases e:a=k
  ·rw [if_pos (by rw [e]),e]
  ·rw [if_neg fun z=>e (Gk z)]
   rcases List.mem_cons.mp hk with z | z
   ·exact absurd z.symm e
   ·exact ih z
theorem UY{A:List Kn}{g:Kn→List Row}{k:Kn}(hk:k∈A):AH (Ff A g) (.str (S k))=some (tD (g k)):=ko A _ hk
theorem gT(A:List Kn)(k:Kn)(vs:List Dt):Dk (.str (S k)) (.dic (A.map kN) vs)=some (decide (k∈A)):=by
 show some (decide (kN k∈A.map kN))=_
 congr 1
 refine decide_eq_decide.mpr ⟨fun h=>?_,fun h=>List.mem_map.mpr ⟨k,h,rfl⟩⟩
 obtain ⟨a,ha,e⟩:=List.mem_map.mp h
 rw [← Gk e]
 exact ha
structure Fo (A:List Kn) (G:Kn→List Row) (b:Nat):Prop where
 g:∀ k∈A,GL A (G k)
 n:∀ k∈A,∀ r∈G k,r≠[]
 l:∀ k∈A,(G k).length≤b
 e:∀ k∈A,G k≠[]
def Ft(r:Row)(G:Kn→List Row)(Q:List Row):List Row:=r.foldl (fun Q p=>nf (joinR Q (AZ p.2 (G p.1)))) Q
theorem GU(x:Int)(R:List Row):(AZ x R).length=R.length:=by unfold AZ; rw [List.length_map]
theorem Pf{x:Int}{R:List Row}(h:∀ r∈R,r≠[]):∀ r∈AZ x R,r≠[]:=fun r hr=>by
 obtain ⟨q,hq,rfl⟩:=List.mem_map.mp hr
 unfold Dw
 simpa using h q hq
theorem NH(Q R:List Row):(nf (joinR Q R)).length≤Q.length * R.length:=by
 have:=JV (joinR Q R)
 rw [Kg] at this
 exact this
theorem Ou{A:List Kn}{G:Kn→List Row}{b:Nat}(hG:Fo A G b)(hb:1≤b)(hb2:b≤1000)(hA:A.length≤20){d0:Option Lo}:∀ (r:Row) (Q:List Row) (x3 x4:Option Lo),(∀ k∈ks r,k∈A)→GL A Q→Q.length * b ^ r.length≤1000→Q.length≤1000 →
  ∃ x3' x4',BA (Fh (AO (Ai 3) (AO (Ai 4) EO))) (A8 2 (Al (Ii K cs) (Ab (Aa 2) (Ab (Al (GR K cs) (Ab (FD.e2 (Aa 1) (Aa 3) AH) (Ab (Aa 4) Ag))) Ag))) [2,1,3,4]) (r.map IG) [d0,some (.sh (Ff A G)),some (.sh (tD Q)),x3,x4]=.ok .nx [d0,some (.sh (Ff A G)),some (.sh (tD (Ft r G Q))),x3',x4']
 | [],Q,x3,x4,_,_,_,_=>⟨x3,x4,rfl⟩
 | p :: r,Q,x3,x4,hr,hQ,hl,hQl=>by
  have hp:p.1∈A:=hr p.1 List.mem_cons_self
  have hg:=hG.g p.1 hp
  have lg:=hG.l p.1 hp
  have pb:0 < b ^ r.length:=Nat.pow_pos hb
  rw [List.length_cons,Nat.pow_succ,Nat.mul_comm (b ^ r.length) b,← Nat.mul_assoc] at hl
  have l1:Q.length * (G p.1).length≤Q.length * b:=Nat.mul_le_mul_left _ lg
  have l2:Q.length * b≤Q.length * b * b ^ r.length:=Nat.le_mul_of_pos_right _ pb
  have l3:(nf (joinR Q (AZ p.2 (G p.1)))).length≤Q.length * b:=by
   have:=NH Q (AZ p.2 (G p.1))
   rw [GU] at this
   omega
  have gs:=hg.shift p.2
  have lgl:(G p.1).length≤1000:=by omega
  obtain ⟨x3',x4',e⟩:=Ou hG hb hb2 hA (d0:=d0) r (nf (joinR Q (AZ p.2 (G p.1)))) (some (.sh (.str (S p.1)))) (some (.sh (.int p.2))) (fun k hk=>hr k (List.mem_cons_of_mem _ hk)) (hQ.join gs).nf (by
   have:=Nat.mul_le_mul_right (b ^ r.length) l3
   omega) (by omega)
  refine ⟨x3',x4',?_⟩
  have hu:Fh (AO (Ai 3) (AO (Ai 4) EO)) (IG p) [d0,some (.sh (Ff A G)),some (.sh (tD Q)),x3,x4]=some [d0,some (.sh (Ff A G)),some (.sh (tD Q)),some (.sh (.str (S p.1))),some (.sh (.int p.2))]:=by
   unfold IG
   simp! []
  have ga:=UY (A:=A) (g:=G) hp
  have t1:=Yd (K:=K) (cs:=cs) (R:=G p.1) (x:=p.2) lgl fun q hq=>by have:=(hg q hq).len; omega
  have t2:=bG (K:=K) (cs:=cs) hQ gs hA (by rw [GU]; omega) hQl (by rw [GU]; exact lgl) (Pf (hG.n p.1 hp))
  have hz:∀ lk ρ,AL (tD (nf (joinR Q (AZ p.2 (G p.1))))) lk ρ=ρ:=fun lk ρ=>CC (EA _)
  rw [List.map_cons,HL hu]
  simp! [ga,t1,t2,hz]
  exact e
theorem aa:Flat ([]:Row):=⟨List.nodup_nil,List.Pairwise.nil⟩
theorem T8{A:List Kn}{G:Kn→List Row}{b:Nat}(hG:Fo A G b){P:Kn→Int→Prop}(hP:Ib P):∀ {r:Row} {Q:List Row},(∀ k∈ks r,k∈A)→(∀ x∈Q,(ks x).Nodup)→(W (Ft r G Q) P ↔ W Q P∧Up (fun k x=>W (G k) fun j y=>P j (y + x)) r)
 | [],Q,_,_=>⟨fun z=>⟨z,fun p hp=>nomatch hp⟩,fun z=>z.1⟩
 | p :: r,Q,hr,n=>by
  have nj:=S8 (S:=AZ p.2 (G p.1)) n
  show W (Ft r G (nf (joinR Q (AZ p.2 (G p.1))))) P ↔ _
  rw [T8 hG hP (fun k hk=>hr k (List.mem_cons_of_mem _ hk)) (fun x hx=>(Rm nj x hx).nd),bE nj hP,ZR hP n,Wy]
  constructor
  ·rintro ⟨⟨z1,z2⟩,z3⟩
   exact ⟨z1,fun q hq=>(List.mem_cons.mp hq).elim (fun e=>by rw [e]; exact z2) (z3 q)⟩
  ·rintro ⟨z1,z2⟩
   exact ⟨⟨z1,z2 p List.mem_cons_self⟩,fun q hq=>z2 q (List.mem_cons_of_mem _ hq)⟩
theorem Kt{A:List Kn}{G:Kn→List Row}{b:Nat}(hG:Fo A G b)(hb:1≤b):∀ {r:Row} {Q:List Row},(∀ k∈ks r,k∈A)→GL A Q→(∀ x∈Q,Flat x)→GL A (Ft r G Q)∧(∀ x∈Ft r G Q,Flat x)∧(Ft r G Q).length≤Q.length * b ^ r.length∧((r≠[]∨∀ x∈Q,x≠[])→∀ x∈Ft r G Q,x≠[])
 | [],Q,_,g,f=>⟨g,f,by simp [Ft],fun h=>h.elim (fun z=>absurd rfl z) id⟩
 | p :: r,Q,hr,g,f=>by
  have hp:=hr p.1 List.mem_cons_self
  have gj:=g.join ((hG.g p.1 hp).shift p.2)
  have hne:∀ x∈nf (joinR Q (AZ p.2 (G p.1))),x≠[]:=NF.ne gj.nd fun x hx=>by
   obtain ⟨a,_,s,hs,rfl⟩:=mem_join.mp hx
   exact OD (.inr (Pf (hG.n p.1 hp) s hs))
  obtain ⟨i1,i2,i3,i4⟩:=Kt hG hb (r:=r) (Q:=nf (joinR Q (AZ p.2 (G p.1)))) (fun k hk=>hr k (List.mem_cons_of_mem _ hk)) gj.nf (Rm gj.nd)
  refine ⟨i1,i2,?_,fun _=>i4 (.inr hne)⟩
  have l0:=NH Q (AZ p.2 (G p.1))
  rw [GU] at l0
  have l1:Q.length * (G p.1).length≤Q.length * b:=Nat.mul_le_mul_left _ (hG.l p.1 hp)
  have l2:=Nat.mul_le_mul_right (b ^ r.length) (Nat.le_trans l0 l1)
  rw [List.length_cons,Nat.pow_succ,Nat.mul_comm (b ^ r.length) b,← Nat.mul_assoc]
  exact Nat.le_trans i3 l2
def place1(r:Row)(G:Kn→List Row):List Row:=Ft r G [[]]
theorem MT(A:List Kn):GL A [[]]:=fun x hx=>by rw [List.mem_singleton.mp hx]; exact Gr.nil A
theorem Vg:∀ x∈([[]]:List Row),Flat x:=fun x hx=>by rw [List.mem_singleton.mp hx]; exact aa
theorem Sd{A:List Kn}{G:Kn→List Row}{b:Nat}(hG:Fo A G b)(hb:1≤b)(hb2:b≤1000)(hA:A.length≤20){r:Row}(hr:∀ k∈ks r,k∈A)(hl:b ^ r.length≤1000):Ea K cs [fD r,Ff A G]=.ok (tD (place1 r G)):=by
 have ed:Ea K cs [fD r,Ff A G]=Ax 5 (Gv K cs) [fD r,Ff A G]:=AE rfl
 rw [ed]
 unfold Gv
 obtain ⟨x3,x4,e⟩:=Ou (K:=K) (cs:=cs) hG hb hb2 hA (d0:=some (.sh (fD r))) r [[]] none none hr (MT A) (by simpa using hl) (by decide)
 have hf:A1 (Fh (AO (Ai 3) (AO (Ai 4) EO))) (AB (Aa 0)) [0] (A8 2 (Al (Ii K cs) (Ab (Aa 2) (Ab (Al (GR K cs) (Ab (FD.e2 (Aa 1) (Aa 3) AH) (Ab (Aa 4) Ag))) Ag))) [2,1,3,4]) [some (.sh (fD r)),some (.sh (Ff A G)),some (.sh (.tup [.ptp []])),none,none]=.ok .nx [some (.sh (fD r)),some (.sh (Ff A G)),some (.sh (tD (place1 r G))),x3,x4]:=e
 have hz:∀ lk ρ,AL (tD (place1 r G)) lk ρ=ρ:=fun lk ρ=>CC (EA _)
 simp! [W4,hf,hz]
def Bl(R:List Row)(G:Kn→List Row)(Q:List Row):List Row:=R.foldl (fun Q r=>nf (Q ++ place1 r G)) Q
theorem Zy{A:List Kn}{G:Kn→List Row}{b:Nat}(hG:Fo A G b){P:Kn→Int→Prop}(hP:Ib P){r:Row}(hr:∀ k∈ks r,k∈A):W (place1 r G) P ↔ Up (fun k x=>W (G k) fun j y=>P j (y + x)) r:=by
 unfold place1
 rw [T8 hG hP hr ao]
 exact ⟨fun z=>z.2,fun z=>⟨gn P,z⟩⟩
theorem P7{A:List Kn}{G:Kn→List Row}{b w:Nat}(hG:Fo A G b)(hb:1≤b):∀ {R Q:List Row},GL A R→(∀ r∈R,r≠[]∧r.length≤w)→GL A Q→(∀ x∈Q,Flat x)→(∀ x∈Q,x≠[]) →
  GL A (Bl R G Q)∧(∀ x∈Bl R G Q,Flat x)∧(∀ x∈Bl R G Q,x≠[])∧(Bl R G Q).length≤Q.length + R.length * b ^ w∧∀ P,Ib P→(W (Bl R G Q) P ↔ W Q P∨W R fun k x=>W (G k) fun j y=>P j (y + x))
 | [],Q,_,_,g,f,n=>⟨g,f,n,by simp [Bl],fun P _=>⟨.inl,fun z=>z.elim id fun ⟨r,hr,_⟩=>nomatch hr⟩⟩
 | r :: R,Q,gR,hR,g,f,n=>by
  have hr:=(gR r List.mem_cons_self).sub
  obtain ⟨p1,p2,p3,p4⟩:=Kt hG hb (r:=r) (Q:=[[]]) hr (MT A) Vg
  have p4:=p4 (.inl (hR r List.mem_cons_self).1)
  have ga:=g.app (show GL A (place1 r G) from p1)
  have na:∀ x∈Q ++ place1 r G,x≠[]:=fun x hx=>(List.mem_append.mp hx).elim (n x) (p4 x)
  obtain ⟨i1,i2,i3,i4,i5⟩:=P7 hG hb (w:=w) (R:=R) (Q:=nf (Q ++ place1 r G)) (fun x hx=>gR x (List.mem_cons_of_mem _ hx)) (fun x hx=>hR x (List.mem_cons_of_mem _ hx)) ga.nf (Rm ga.nd) (NF.ne ga.nd na)
  refine ⟨i1,i2,i3,?_,fun P hP=>?_⟩
  ·have l1:=JV (Q ++ place1 r G)
   rw [List.length_append] at l1
   have l2:(place1 r G).length≤b ^ r.length:=by
    have q:(Ft r G [[]]).length≤b ^ r.length:=by simpa using p3
    exact q
   have l3:b ^ r.length≤b ^ w:=Nat.pow_le_pow_right hb (hR r List.mem_cons_self).2
   show (Bl R G (nf (Q ++ place1 r G))).length≤_
   rw [List.length_cons,Nat.add_mul,Nat.one_mul]
   omega
  ·show W (Bl R G (nf (Q ++ place1 r G))) P ↔ _
   rw [i5 P hP,bE ga.nd hP,kZ,Zy hG hP hr]
   constructor
   ·rintro ((z | z) | ⟨x,hx,z⟩)
    ·exact .inl z
    ·exact .inr ⟨r,List.mem_cons_self,z⟩
    ·exact .inr ⟨x,List.mem_cons_of_mem _ hx,z⟩
   ·rintro (z | ⟨x,hx,z⟩)
    ·exact .inl (.inl z)
    ·rcases List.mem_cons.mp hx with e | hx
     ·rw [e] at z; exact .inl (.inr z)
     ·exact .inr ⟨x,hx,z⟩
theorem NJ{A:List Kn}{G:Kn→List Row}{b w:Nat}(hG:Fo A G b)(hb:1≤b)(hb2:b≤1000)(hw:b ^ w≤1000)(hA:A.length≤20){d0:Option Lo}:∀ (R Q:List Row) (x3:Option Lo),GL A R→(∀ r∈R,r≠[]∧r.length≤w)→GL A Q→(∀ x∈Q,Flat x)→(∀ x∈Q,x≠[])→Q.length + R.length * b ^ w≤1000 →
  ∃ x3',BA (Ai 3) (A8 2 (Al (G8 K cs) (Ab (Aa 2) (Ab (Al (Ea K cs) (Ab (Aa 3) (Ab (Aa 1) Ag))) Ag))) [2,3,1]) (R.map fD) [d0,some (.sh (Ff A G)),some (.sh (tD Q)),x3]=.ok .nx [d0,some (.sh (Ff A G)),some (.sh (tD (Bl R G Q))),x3']
 | [],Q,x3,_,_,_,_,_,_=>⟨x3,rfl⟩
 | r :: R,Q,x3,gR,hR,g,f,n,hl=>by
  have hr:=(gR r List.mem_cons_self).sub
  have l3:b ^ r.length≤b ^ w:=Nat.pow_le_pow_right hb (hR r List.mem_cons_self).2
  obtain ⟨p1,p2,p3,p4⟩:=Kt hG hb (r:=r) (Q:=[[]]) hr (MT A) Vg
  have p4:=p4 (.inl (hR r List.mem_cons_self).1)
  have l2:(place1 r G).length≤b ^ r.length:=by
    have q:(Ft r G [[]]).length≤b ^ r.length:=by simpa using p3
    exact q
  have ga:=g.app (show GL A (place1 r G) from p1)
  have na:∀ x∈Q ++ place1 r G,x≠[]:=fun x hx=>(List.mem_append.mp hx).elim (n x) (p4 x)
  have l1:=JV (Q ++ place1 r G)
  rw [List.length_append] at l1
  rw [List.length_cons,Nat.add_mul,Nat.one_mul] at hl
  obtain ⟨x3',e⟩:=NJ hG hb hb2 hw hA (d0:=d0) R (nf (Q ++ place1 r G)) (some (.sh (fD r))) (fun x hx=>gR x (List.mem_cons_of_mem _ hx)) (fun x hx=>hR x (List.mem_cons_of_mem _ hx)) ga.nf (Rm ga.nd) (NF.ne ga.nd na) (by omega)
  refine ⟨x3',?_⟩
  have t1:=Sd (K:=K) (cs:=cs) hG hb hb2 hA hr (by omega)
  have t2:=ZT (K:=K) (cs:=cs) g p1 f p2 hA (by have:(Ft r G [[]]).length≤b ^ r.length:=l2; omega) n p4
  have t2:G8 K cs [tD Q,tD (place1 r G)]=.ok (tD (nf (Q ++ place1 r G))):=t2
  have hz:∀ lk ρ,AL (tD (nf (Q ++ place1 r G))) lk ρ=ρ:=fun lk ρ=>CC (EA _)
  rw [List.map_cons,Cc]
  simp! [t1,t2,hz]
  exact e
theorem ZH{A:List Kn}{G:Kn→List Row}{b w:Nat}(hG:Fo A G b)(hb:1≤b)(hb2:b≤1000)(hw:b ^ w≤1000)(hA:A.length≤20){R:List Row}(gR:GL A R)(hR:∀ r∈R,r≠[]∧r.length≤w)(hl:R.length * b ^ w≤1000):J8 K cs [tD R,Ff A G]=.ok (tD (Bl R G [])):=by
 have ed:J8 K cs [tD R,Ff A G]=Ax 4 (LG K cs) [tD R,Ff A G]:=AE rfl
 rw [ed]
 unfold LG
 obtain ⟨x3,e⟩:=NJ (K:=K) (cs:=cs) hG hb hb2 hw hA (d0:=some (.sh (tD R))) R [] none gR hR (fun x hx=>nomatch hx) (fun x hx=>nomatch hx) (fun x hx=>nomatch hx) (by simpa using hl)
 have hf:A1 (Ai 3) (AB (Aa 0)) [0] (A8 2 (Al (G8 K cs) (Ab (Aa 2) (Ab (Al (Ea K cs) (Ab (Aa 3) (Ab (Aa 1) Ag))) Ag))) [2,3,1]) [some (.sh (tD R)),some (.sh (Ff A G)),some (.sh (.tup [])),none]=.ok .nx [some (.sh (tD R)),some (.sh (Ff A G)),some (.sh (tD (Bl R G []))),x3]:=e
 have hz:∀ lk ρ,AL (tD (Bl R G [])) lk ρ=ρ:=fun lk ρ=>CC (EA _)
 simp! [hf,hz]
theorem ZL(a b:Kn):PySem.W.alike (sP a) (sP b)=true:=rfl
def kO:Od Kn:=⟨fun k=>PySem.W.keyToks (sP k),fun a b e=>by
 have q:=LB (ZL a b) e
 rw [Ov] at q
 exact of_decide_eq_true q⟩
theorem Iq(l:List Kn):BU [.lst (l.map sD)]=some ((kO.sort l).map sD):=by
 have h1:Lb (l.map sP)=true:=by
  unfold Lb
  refine List.all_eq_true.mpr fun x hx=>List.all_eq_true.mpr fun y hy=>?_
  obtain ⟨a,_,rfl⟩:=List.mem_map.mp hx
  obtain ⟨b,_,rfl⟩:=List.mem_map.mp hy
  rfl
 have h2:ML (l.map sP)=true:=by
  unfold ML
  rw [Bool.and_eq_true,Bool.or_eq_true]
  refine ⟨.inr (List.all_eq_true.mpr fun x hx=>?_),List.all_eq_true.mpr fun x hx=>?_⟩
  ·obtain ⟨a,_,rfl⟩:=List.mem_map.mp hx
   rfl
  ·obtain ⟨a,_,rfl⟩:=List.mem_map.mp hx
   exact decide_eq_true (by simp [sP,PyData.depth])
 unfold BU
 show ((some (l.map sD):Option (List Dt)).bind fun ds=>(Dt.OC ds).bind fun ps=>if Lb ps=true∧ML ps=true then some (((ds.zip ps).mergeSort S9).map (·.1)) else none)=_
 simp only [Option.bind_some]
 rw [Ed (f:=sD) (g:=sP) l fun _ _=>rfl]
 simp only [Option.bind_some]
 rw [if_pos ⟨h1,h2⟩]
 have hz:(l.map sD).zip (l.map sP)=l.map fun t=>(sD t,sP t):=List.zip_map'
 rw [hz]
 have hm:(l.map fun t=>(sD t,sP t)).mergeSort S9=(l.mergeSort kO.le).map fun t=>(sD t,sP t):=(List.map_mergeSort (l:=l) (f:=fun t=>(sD t,sP t)) (r:=kO.le) (s:=S9) (fun a _ b _=>rfl)).symm
 rw [hm,List.map_map]
 rfl
structure As (A:List Kn):Prop where
 nd:A.Nodup
 up:A.Pairwise fun a b=>kO.le a b=true
 l:A.length≤20
theorem As.sort{A:List Kn}(h:As A):kO.sort A=A:=kO.one (kO.Bb A) (kO.HF A) h.up
theorem SF{N:List Kn}(n:N.Nodup)(l:N.length≤20):As (kO.sort N):=⟨(kO.Bb N).nodup_iff.mpr n,kO.HF N,by rw [(kO.Bb N).length_eq]; exact l⟩
theorem ZD(A:List Kn):(A.map kN).map I0=A.map sD:=by
 rw [List.map_map]
 rfl
theorem Uu(A:List Kn)(vs:List Dt):BR [.dic (A.map kN) vs]=some (A.map sD):=by
 show some ((A.map kN).map I0)=_
 rw [ZD]
theorem Se{i:Nat}{u:Dt→FD.Env→Option FD.Env}{b:FD.Env→SOut}{ρ:FD.Env}{A:List Kn}{vs:List Dt}{f:Fl}{ρ':FD.Env}(hi:ρ[i]? = some (some (.sh (.dic (A.map kN) vs))))(hl:frz [i] ρ=ρ)(h:BA u b (A.map sD) ρ=.ok f ρ'):F7 i u b ρ=.ok f ρ':=by
 have e:CU i ρ=.ok (A.map sD):=by
  unfold CU
  rw [hi]
  show Out.ok ((A.map kN).map I0)=_
  rw [ZD]
 unfold F7
 rw [Ci,e,FC,hl,h]
theorem HS{P:List Kn}{k:Kn}(h:k∉P):Es (P.map kN) (Sum.inr (S k))=(P ++ [k]).map kN:=by
 have hn:Sum.inr (S k)∉P.map kN:=fun z=>by
  obtain ⟨a,ha,e⟩:=List.mem_map.mp z
  rw [← Gk (show kN a=kN k from e)] at h
  exact h ha
 unfold Es
 rw [if_neg hn,List.map_append]
 rfl
theorem HP{P:List Kn}{k:Kn}(h:k∉P)(g:Kn→Dt):CW (P.map kN) (P.map g) (Sum.inr (S k)) (g k)=(P ++ [k]).map g:=by
 have hn:Sum.inr (S k)∉P.map kN:=fun z=>by
  obtain ⟨a,ha,e⟩:=List.mem_map.mp z
  rw [← Gk (show kN a=kN k from e)] at h
  exact h ha
 unfold CW
 rw [if_neg hn,List.map_append]
 rfl
theorem Fw{u:Dt→FD.Env→Option FD.Env}{b:FD.Env→SOut}{mk:List Kn→Option Lo→FD.Env}{A:List Kn}(nd:A.Nodup)(step:∀ P k L x,A=P ++ k :: L→k∉P→k∈A→∃ ρ1 x',u (sD k) (mk P x)=some ρ1∧b ρ1=.ok .nx (mk (P ++ [k]) x')):
  ∀ (L P:List Kn) (x:Option Lo),A=P ++ L→∃ x',BA u b (L.map sD) (mk P x)=.ok .nx (mk A x')
 | [],P,x,e=>⟨x,by rw [e,List.append_nil]; rfl⟩
 | k :: L,P,x,e=>by
  have hk:k∉P:=fun z=>by
   rw [e] at nd
   exact (List.nodup_append.mp nd).2.2 k z k List.mem_cons_self rfl
  obtain ⟨ρ1,x',h1,h2⟩:=step P k L x e hk (by rw [e]; exact List.mem_append_right _ List.mem_cons_self)
  obtain ⟨x2,h3⟩:=Fw nd step L (P ++ [k]) x' (by rw [List.append_assoc]; exact e)
  exact ⟨x2,by rw [List.map_cons,HL h1,h2]; exact h3⟩
theorem Oe{A P L:List Kn}(h:A=P ++ L)(hA:A.length≤20):P.length < 16777216:=by
 have:=congrArg List.length h
 rw [List.length_append] at this
 omega
theorem map_len{α:Type}(P:List Kn)(f:Kn→α)(h:P.length < 16777216):(P.map f).length < 16777216:=by rw [List.length_map]; exact h
theorem Vx{A:List Kn}(hA:As A){F G:Kn→List Row}{a b w:Nat}(hF:Fo A F a)(hw:∀ k∈A,∀ r∈F k,r.length≤w)(hG:Fo A G b)(hb:1≤b)(hl:a * b ^ w≤200)(ha:1≤a)(hb2:b≤1000):Jj K cs [Ff A F,Ff A G]=.ok (Ff A fun k=>Bl (F k) G []):=by
 have ed:Jj K cs [Ff A F,Ff A G]=Ax 4 (IH K cs) [Ff A F,Ff A G]:=AE rfl
 rw [ed]
 unfold IH
 have hbw:b ^ w≤1000:=by
  have:b ^ w≤a * b ^ w:=Nat.le_mul_of_pos_left _ ha
  omega
 obtain ⟨x',e⟩:=Fw (u:=Ai 3) (b:=(BK 2 (Aa 3) (Al (J8 K cs) (Ab (FD.e2 (Aa 0) (Aa 3) AH) (Ab (Aa 1) Ag))) [0,3,1])) (mk:=fun P x=>[some (.sh (Ff A F)),some (.sh (Ff A G)),some (.od (P.map kN) (P.map fun k=>tD (Bl (F k) G []))),x]) hA.nd (fun P k L x eA hk hkA=>by
  refine ⟨[some (.sh (Ff A F)),some (.sh (Ff A G)),some (.od (P.map kN) (P.map fun k=>tD (Bl (F k) G []))),some (.sh (sD k))],some (.sh (sD k)),rfl,?_⟩
  have lA:=hF.l k hkA
  have t:=ZH (K:=K) (cs:=cs) hG hb hb2 hbw hA.l (hF.g k hkA) (fun r hr=>⟨hF.n k hkA r hr,hw k hkA r hr⟩) (by have:=Nat.mul_le_mul_right (b ^ w) lA; omega)
  have ga:AH (Ff A F) (sD k)=some (tD (F k)):=UY hkA
  have hz:∀ lk ρ,AL (tD (Bl (F k) G [])) lk ρ=ρ:=fun lk ρ=>CC (EA _)
  have pk:=HS hk
  have pv:=HP hk fun k=>tD (Bl (F k) G [])
  have hlen:=map_len P kN (Oe eA hA.l)
  unfold sD at ga ⊢
  simp! [ga,t,hz,pk,pv,hlen]) A [] none rfl
 have hf:=Se (i:=0) (A:=A) (ρ:=[some (.sh (Ff A F)),some (.sh (Ff A G)),some (.od [] []),none]) rfl rfl e
 simp! [hf]
 rfl
def CP(R:List Row):Dt:=.lst (R.map rD)
def By(N:List Kn)(F:Kn→List Row):Dt:=.dic (N.map kN) (N.map fun k=>CP (F k))
def Ap(cs:Cs)(A:List Kn)(f:Kn→List Row):Dt:=.obj cs.c_Map ["_forms"] [Ff A f]
theorem RZ{N:List Kn}{F:Kn→List Row}{k:Kn}(hk:k∈N):AH (By N F) (.str (S k))=some (CP (F k)):=ko N _ hk
theorem jv(p:Kn × Int):(IG p).na=true:=rfl
theorem lH(r:Row):(fD r).na=true:=by
 unfold fD
 rw [Dt.na]
 exact FN jv r
theorem ku(R:List Row):(tD R).na=true:=by
 unfold tD
 rw [Dt.na]
 exact FN lH R
theorem jo(R:List Row):(CP R).na=true:=by
 unfold CP
 rw [Dt.na]
 exact FN jT R
theorem Zq(N:List Kn)(F:Kn→List Row):(By N F).na=true:=by
 unfold By
 rw [Dt.na]
 exact FN (fun k=>jo (F k)) N
theorem jg(N:List Kn)(F:Kn→List Row):(Ff N F).na=true:=by
 unfold Ff
 rw [Dt.na]
 exact FN (fun k=>ku (F k)) N
theorem Fd{ks:List Key}{ds:List Dt}{lk:List Nat}{ρ:FD.Env}:AL (.dic ks ds) lk ρ=frz lk ρ:=rfl
theorem gu{R:List Row}(h:R.length≤200):DV K cs [tD R]=.ok .non:=by
 have ed:DV K cs [tD R]=Ax 1 (I5 K cs) [tD R]:=AE rfl
 rw [ed]
 unfold I5
 have gl:BO [tD R]=some (.int (R.length:Nat)):=by unfold tD; rw [Md,List.length_map]
 have hb:decide ((200:Int) < (R.length:Int))=false:=decide_eq_false (by omega)
 simp! [gl,hb]
theorem PY{A:List Kn}{vs:List Dt}{d0 d2 d4:Option Lo}:∀ (L:List Kn) (x:Option Lo),(∀ k∈L,k∈A)→∃ x',BA (Ai 3) (CF (FD.t2 (Aa 3) (Aa 1) (CT Dk)) NT Ar) (L.map sD) [d0,some (.sh (.dic (A.map kN) vs)),d2,x,d4]=.ok .nx [d0,some (.sh (.dic (A.map kN) vs)),d2,x',d4]
 | [],x,_=>⟨x,rfl⟩
 | k :: L,x,h=>by
  obtain ⟨x',e⟩:=PY (d0:=d0) (d2:=d2) (d4:=d4) (vs:=vs) L (some (.sh (sD k))) fun q hq=>h q (List.mem_cons_of_mem _ hq)
  have gi:Dk (sD k) (.dic (A.map kN) vs)=some true:=by
   have:=gT A k vs
   rw [decide_eq_true (h k List.mem_cons_self)] at this
   exact this
  have gi':decide (Sum.inr (S k)∈A.map kN)=true:=decide_eq_true (List.mem_map.mpr ⟨k,h k List.mem_cons_self,rfl⟩)
  rw [List.map_cons,Cc]
  refine ⟨x',?_⟩
  unfold sD at e ⊢
  simp! [gi',e]
theorem Ro{A:List Kn}{vs:List Dt}{d0 d4:Option Lo}:∀ (R:List Row) (x2 x3:Option Lo),GL A R→∃ x2' x3',BA (Ai 2) (A1 (Ai 3) (AB (eL (lB BU (Ab (eL (lB BR (Ab (Aa 2) Ag))) Ag)))) [2]
  (CF (FD.t2 (Aa 3) (Aa 1) (CT Dk)) NT Ar)) (R.map rD) [d0,some (.sh (.dic (A.map kN) vs)),x2,x3,d4]=.ok .nx [d0,some (.sh (.dic (A.map kN) vs)),x2',x3',d4]
 | [],x2,x3,_=>⟨x2,x3,rfl⟩
 | r :: R,x2,x3,h=>by
  obtain ⟨x3a,ea⟩:=PY (d0:=d0) (d2:=some (.sh (rD r))) (d4:=d4) (vs:=vs) (A:=A) (kO.sort (ks r)) x3 fun k hk=>(h r List.mem_cons_self).sub k ((kO.Bb _).mem_iff.mp hk)
  obtain ⟨x2',x3',e⟩:=Ro (d0:=d0) (d4:=d4) (vs:=vs) (A:=A) R (some (.sh (rD r))) x3a fun q hq=>h q (List.mem_cons_of_mem _ hq)
  refine ⟨x2',x3',?_⟩
  have gk:BR [rD r]=some ((ks r).map sD):=by
   show some ((CB r).map I0)=_
   rw [IQ]
  have hf:A1 (Ai 3) (AB (eL (lB BU (Ab (eL (lB BR (Ab (Aa 2) Ag))) Ag)))) [2] (CF (FD.t2 (Aa 3) (Aa 1) (CT Dk)) NT Ar) [d0,some (.sh (.dic (A.map kN) vs)),some (.sh (rD r)),x3,d4]=.ok .nx [d0,some (.sh (.dic (A.map kN) vs)),some (.sh (rD r)),x3a,d4]:=by
   rw [Ci]
   simp! [Jl,gk,Iq]
   exact ea
  rw [List.map_cons,Cc]
  simp! [hf]
  exact e
theorem X2{N:List Kn}{F:Kn→List Row}{R:List Row}(hR:GL N R)(hN:N.length≤20)(h0:R≠[])(hn:∀ r∈R,r≠[])(hl:R.length≤200):Dr K cs [CP R,By N F]=.ok (tD (nf R)):=by
 have ed:Dr K cs [CP R,By N F]=Ax 5 (E1 K cs) [CP R,By N F]:=AE rfl
 rw [ed]
 unfold E1
 have t1:FZ K cs [CP R]=.ok .non:=jB h0 hn
 have t2:JH K cs [CP R]=.ok (tD (nf R)):=Z6 (hR.sz hN (by omega)) hn
 have t3:=gu (K:=K) (cs:=cs) (R:=nf R) (by have:=JV R; omega)
 obtain ⟨x2,x3,e⟩:=Ro (A:=N) (vs:=N.map fun k=>CP (F k)) (d0:=some (.sh (CP R))) (d4:=none) R none none hR
 have hf:A1 (Ai 2) (AB (Aa 0)) [0] (A1 (Ai 3) (AB (eL (lB BU (Ab (eL (lB BR (Ab (Aa 2) Ag))) Ag)))) [2]
  (CF (FD.t2 (Aa 3) (Aa 1) (CT Dk)) NT Ar)) [some (.sh (CP R)),some (.sh (By N F)),none,none,none]=.ok .nx [some (.sh (CP R)),some (.sh (By N F)),x2,x3,none]:=e
 have hz:∀ lk ρ,AL (tD (nf R)) lk ρ=ρ:=fun lk ρ=>CC (EA _)
 simp! [t1,hf,t2,t3,hz]
theorem W5(N:List Kn)(F:Kn→List Row):BR [By N F]=some (N.map sD):=Uu N _
theorem WO(N:List Kn)(F:Kn→List Row):BR [Ff N F]=some (N.map sD):=Uu N _
theorem TJ{N:List Kn}{vs:List Dt}:G2 [.dic (N.map kN) vs]=some (.int (N.length:Nat)):=by
 show some (Dt.int ((N.map kN).length:Nat))=_
 rw [List.length_map]
theorem Xg{N:List Kn}{F:Kn→List Row}(nd:N.Nodup)(hl:N.length≤20)(h0:N≠[])(hF:Fo N F 200):newD cs.c_Map (AM K cs) [By N F]=.ok (Ap cs (kO.sort N) fun k=>nf (F k)):=by
 have ed:∀ c,AM K cs [.ad 0,By N F] c=runM 4 (B9 K cs) [.ad 0,By N F] c:=fun _=>E7 rfl
 have hA:=SF nd hl
 obtain ⟨x',e⟩:=Fw (u:=Ai 3) (b:=(BK 2 (Aa 3) (Al (Dr K cs) (Ab (FD.e2 (Aa 1) (Aa 3) AH) (Ab (Aa 1) Ag))) [1,3,1])) (mk:=fun P x=>[some (.sh (.ad 0)),some (.sh (By N F)),some (.od (P.map kN) (P.map fun k=>tD (nf (F k)))),x,some (.mh [.ins cs.c_Map [] []])]) hA.nd (fun P k L x eA hk hkA=>by
  refine ⟨[some (.sh (.ad 0)),some (.sh (By N F)),some (.od (P.map kN) (P.map fun k=>tD (nf (F k)))),some (.sh (sD k)),some (.mh [.ins cs.c_Map [] []])],some (.sh (sD k)),rfl,?_⟩
  have hkN:k∈N:=(kO.Bb N).mem_iff.mp hkA
  have t:=X2 (K:=K) (cs:=cs) (F:=F) (hF.g k hkN) hl (hF.e k hkN) (hF.n k hkN) (hF.l k hkN)
  have ga:AH (By N F) (sD k)=some (CP (F k)):=RZ hkN
  have hz:∀ lk ρ,AL (tD (nf (F k))) lk ρ=ρ:=fun lk ρ=>CC (EA _)
  have pk:=HS hk
  have pv:=HP hk fun k=>tD (nf (F k))
  have hlen:=map_len P kN (Oe eA hA.l)
  unfold sD at ga ⊢
  simp! [ga,t,hz,pk,pv,hlen]) (kO.sort N) [] none rfl
 have gk:=W5 N F
 have gl:G2 [By N F]=some (.int (N.length:Nat)):=TJ
 have hb:((N.length:Int) == (0:Int))=false:=beq_eq_false_iff_ne.mpr (by have:=List.length_pos_iff.mpr h0; omega)
 have hf:A1 (Ai 3) (AB (eL (lB BU (Ab (eL (lB BR (Ab (Aa 1) Ag))) Ag)))) [1] (BK 2 (Aa 3) (Al (Dr K cs) (Ab (FD.e2 (Aa 1) (Aa 3) AH) (Ab (Aa 1) Ag))) [1,3,1]) [some (.sh (.ad 0)),some (.sh (By N F)),some (.od [] []),none,some (.mh [.ins cs.c_Map [] []])]=.ok .nx [some (.sh (.ad 0)),some (.sh (By N F)),some (.od ((kO.sort N).map kN) ((kO.sort N).map fun k=>tD (nf (F k)))),x',some (.mh [.ins cs.c_Map [] []])]:=by
  rw [Ci]
  simp! [Jl,gk,Iq]
  exact e
 have hi:runM 4 (B9 K cs) [.ad 0,By N F] [.ins cs.c_Map [] []]=.ok .non [.ins cs.c_Map ["_forms"] [Ff (kO.sort N) fun k=>nf (F k)]]:=by
  unfold B9
  simp! [gl,hb,hf,Fd,BS,List.mem_cons,true_or,putN,Rk]
  rfl
 unfold newD
 rw [if_pos (by rw [Dt.HY,Zq]; rfl),ed,hi]
 simp [Ap,Dt.HY,jg]
structure Mp (A:List Kn) (f:Kn→List Row) (b w:Nat):Prop where
 fo:Fo A f b
 w:∀ k∈A,∀ r∈f k,r.length≤w
 s:∀ k∈A,nf (f k)=f k
theorem f9{R:List Row}(n:∀ r∈R,(ks r).Nodup)(h:R≠[]):nf R≠[]:=by
 obtain ⟨_,_,d,_⟩:=DR n
 obtain ⟨r,hr⟩:=List.exists_mem_of_ne_nil R h
 obtain ⟨l,hl,_⟩:=d r hr
 exact List.ne_nil_of_mem hl
theorem S2{R:List Row}(n:∀ r∈R,(ks r).Nodup){w:Nat}(h:∀ r∈R,r.length≤w):∀ l∈nf R,l.length≤w:=fun l hl=>by
 obtain ⟨_,m,_,_⟩:=DR n
 obtain ⟨r,hr,rfl⟩:=m l hl
 rw [(Du r).length_eq]
 exact h r hr
theorem Fo.mp{A:List Kn}{F:Kn→List Row}{b w:Nat}(h:Fo A F b)(hw:∀ k∈A,∀ r∈F k,r.length≤w):Mp A (fun k=>nf (F k)) b w:=
 ⟨⟨fun k hk=>(h.g k hk).nf,fun k hk=>NF.ne (h.g k hk).nd (h.n k hk),fun k hk=>Nat.le_trans (JV _) (h.l k hk),fun k hk=>f9 (h.g k hk).nd (h.e k hk)⟩,fun k hk=>S2 (h.g k hk).nd (hw k hk),fun k hk=>kl (h.g k hk).nd⟩
theorem Mp.fl{A:List Kn}{f:Kn→List Row}{b w:Nat}(h:Mp A f b w):∀ k∈A,∀ r∈f k,Flat r:=fun k hk=>by
 have:=Rm (h.fo.g k hk).nd
 rw [h.s k hk] at this
 exact this
theorem Fo.mono{A:List Kn}{F:Kn→List Row}{b c:Nat}(h:Fo A F b)(hb:b≤c):Fo A F c:=⟨h.g,h.n,fun k hk=>Nat.le_trans (h.l k hk) hb,h.e⟩
theorem Rc{N:List Kn}(nd:N.Nodup)(hl:N.length≤20)(h0:N≠[]){f:Kn→List Row}(hF:Fo N f 200):Eu K cs [Ff N f]=.ok (Ap cs (kO.sort N) fun k=>nf (f k)):=by
 have ed:Eu K cs [Ff N f]=Ax 4 (IC K cs) [Ff N f]:=AE rfl
 rw [ed]
 unfold IC
 have hA:=SF nd hl
 have hm:∀ {k:Kn},k∈kO.sort N→k∈N:=fun h=>(kO.Bb N).mem_iff.mp h
 have hFA:Fo (kO.sort N) f 200:=⟨fun k hk r hr=>⟨(hF.g k (hm hk) r hr).nd,fun j hj=>(kO.Bb N).mem_iff.mpr ((hF.g k (hm hk) r hr).sub j hj)⟩,fun k hk=>hF.n k (hm hk),fun k hk=>hF.l k (hm hk),fun k hk=>hF.e k (hm hk)⟩
 have hA0:kO.sort N≠[]:=fun z=>h0 (List.eq_nil_of_length_eq_zero (by rw [← (kO.Bb N).length_eq,z]; rfl))
 obtain ⟨x',e⟩:=Fw (u:=Ai 2) (b:=(Am (Ir (Al (DV K cs) (Ab (FD.e2 (Aa 0) (Aa 2) AH) Ag)))
  (BK 1 (Aa 2) (eL (Fi (Ai 3) [3] AK (eB Ef (Ab (Aa 3) Ag)) (AB (FD.e2 (Aa 0) (Aa 2) AH)) [0,2])) [0,2,3,3]))) (mk:=fun P x=>[some (.sh (Ff N f)),some (.od (P.map kN) (P.map fun k=>CP (f k))),x,none]) hA.nd (fun P k L x eA hk hkA=>by
  refine ⟨[some (.sh (Ff N f)),some (.od (P.map kN) (P.map fun k=>CP (f k))),some (.sh (sD k)),none],some (.sh (sD k)),rfl,?_⟩
  have hkN:=hm hkA
  have t:=gu (K:=K) (cs:=cs) (hF.l k hkN)
  have ga:AH (Ff N f) (sD k)=some (tD (f k)):=UY hkN
  have hi:(Fi (Ai 3) [3] AK (eB Ef (Ab (Aa 3) Ag)) (AB (FD.e2 (Aa 0) (Aa 2) AH)) [0,2]) [some (.sh (Ff N f)),some (.od (P.map kN) (P.map fun k=>CP (f k))),some (.sh (sD k)),none]=.ok ((f k).map rD):=by
   refine DB (e:=fD) (by rw [DS]; simp! [ga]; rfl) (by have:=hF.l k hkN; omega) fun r hr=>⟨[some (.sh (Ff N f)),some (.od (P.map kN) (P.map fun k=>CP (f k))),some (.sh (sD k)),some (.sh (fD r))],rfl,?_⟩
   have:=Og (hF.g k hkN r hr).nd
   simp! [this]
  have pk:=HS hk
  have pv:CW (P.map kN) (P.map fun k=>CP (f k)) (Sum.inr (S k)) (.lst ((f k).map rD))=(P ++ [k]).map fun k=>CP (f k):=HP hk fun k=>CP (f k)
  have hlen:=map_len P kN (Oe eA hA.l)
  unfold sD at ga hi ⊢
  simp! [ga,t,hi,pk,pv,hlen]) (kO.sort N) [] none rfl
 have gk:=WO N f
 have hf:A1 (Ai 2) (AB (eL (lB BU (Ab (eL (lB BR (Ab (Aa 0) Ag))) Ag)))) [0] (Am (Ir (Al (DV K cs) (Ab (FD.e2 (Aa 0) (Aa 2) AH) Ag)))
  (BK 1 (Aa 2) (eL (Fi (Ai 3) [3] AK (eB Ef (Ab (Aa 3) Ag)) (AB (FD.e2 (Aa 0) (Aa 2) AH)) [0,2])) [0,2,3,3])) [some (.sh (Ff N f)),some (.od [] []),none,none]=.ok .nx [some (.sh (Ff N f)),some (.od ((kO.sort N).map kN) ((kO.sort N).map fun k=>CP (f k))),x',none]:=by
  rw [Ci]
  simp! [Jl,gk,Iq]
  exact e
 have t:=Xg (K:=K) (cs:=cs) hA.nd hA.l hA0 hFA
 rw [hA.sort] at t
 have t':newD cs.c_Map (AM K cs) [.dic ((kO.sort N).map kN) ((kO.sort N).map fun k=>CP (f k))]=.ok (Ap cs (kO.sort N) fun k=>nf (f k)):=t
 simp! [hf,t']
theorem a7{A:List Kn}(hA:As A)(h0:A≠[]){f:Kn→List Row}(hF:Fo A f 200):Eu K cs [Ff A f]=.ok (Ap cs A fun k=>nf (f k)):=by
 have t:=Rc (K:=K) (cs:=cs) hA.nd hA.l h0 hF
 rw [hA.sort] at t
 exact t
theorem dZ{Cs:List Addr}{f:Str}{C:Addr}{ns:List Str}{ds:List Dt}(h:C∈Cs):KP Cs f (.obj C ns ds)=(ns.zip ds).lookup f:=if_pos h
theorem E4(A:List Kn)(f:Kn→List Row):KP (BS cs) "_forms" (Ap cs A f)=some (Ff A f):=by
 unfold Ap
 rw [dZ (by simp)]
 rfl
theorem Rj{m:Str}{ψ:List Dt→Out Dt}{fo:FD.Env→Out Dt}{fs:FD.Env→Out (List Dt)}{ρ:FD.Env}{C:Addr}{ns:List Str}{ds as:List Dt}(ho:fo ρ=.ok (.obj C ns ds))(hm:m∉ns)(ha:fs ρ=.ok as):DT [(C,ψ)] m fo fs ρ=ψ (.obj C ns ds :: as):=by
 unfold DT
 rw [ho,Out.Au]
 simp only
 have el:List.lookup C [(C,ψ)]=some ψ:=by simp [List.lookup]
 rw [if_neg hm,el]
 simp only
 rw [ha]
 rfl
theorem eh(A:List Kn)(f:Kn→List Row):EK K cs [Ap cs A f]=.ok (.tup (A.map sD)):=by
 have ed:EK K cs [Ap cs A f]=Ax 1 (Ho K cs) [Ap cs A f]:=AE rfl
 rw [ed]
 unfold Ho
 have g1:=E4 (cs:=cs) A f
 have g2:=WO A f
 simp! [g1,Jl,g2]
theorem Ic{A:List Kn}{f:Kn→List Row}{fo:FD.Env→Out Dt}{ρ:FD.Env}(h:fo ρ=.ok (Ap cs A f)):DT (CJ K cs) "names" fo Ag ρ=.ok (.tup (A.map sD)):=
 (Rj (m:=Str.ofString "names") (ψ:=EK K cs) (fo:=fo) (fs:=Ag) (C:=cs.c_Map) (as:=[]) h (by decide) rfl).trans (eh A f)
theorem kf(A:List Kn)(f:Kn→List Row)(k:Kn):BW K cs [Ap cs A f,.str (S k)]=.ok (.bl (decide (k∈A))):=by
 have ed:BW K cs [Ap cs A f,.str (S k)]=Ax 2 (DD K cs) [Ap cs A f,.str (S k)]:=AE rfl
 rw [ed]
 unfold DD
 have g1:=E4 (cs:=cs) A f
 have g2:Dk (.str (S k)) (Ff A f)=some (decide (k∈A)):=gT A k _
 simp! [g1,g2]
theorem So{A:List Kn}{f:Kn→List Row}{k:Kn}{fa fb:FD.Env→Out Dt}{ρ:FD.Env}(ha:fa ρ=.ok (.str (S k)))(hb:fb ρ=.ok (Ap cs A f)):MD (AV K cs) true fa fb ρ=.ok (.bl (!decide (k∈A))):=by
 unfold MD
 rw [ha,Out.Au,hb,Out.Au]
 have el:List.lookup cs.c_Map (AV K cs)=some (BW K cs):=by simp [List.lookup]
 show (match List.lookup cs.c_Map (AV K cs) with
  | some ψ=>(match ψ [Ap cs A f,.str (S k)] with
   | .ok (.bl c)=>Out.ok (Dt.bl (xor true c))
   | _=>Out.bad)
  | none=>Out.bad)=_
 rw [el]
 simp only
 rw [kf]
 simp
theorem UC{α:Type}{u:Dt→FD.Env→Option FD.Env}{t:FD.Env→Out Bool}{f:FD.Env→Out Dt}{ρ:FD.Env}{e:α→Dt}:∀ {xs:List α},(∀ x∈xs,∃ ρ1,u (e x) ρ=some ρ1∧t ρ1=.ok false)→N5 u t f ρ (xs.map e)=.ok []
 | [],_=>rfl
 | x :: xs,h=>by
  obtain ⟨ρ1,h1,h2⟩:=h x List.mem_cons_self
  rw [List.map_cons,PH,h1]
  simp only [BI,Out.Au,h2,B2]
  rw [if_neg (by decide)]
  exact UC fun y hy=>h y (List.mem_cons_of_mem _ hy)
theorem Pz{α:Type}{u:Dt→FD.Env→Option FD.Env}{vs lk:List Nat}{t:FD.Env→Out Bool}{f:FD.Env→Out Dt}{src:FD.Env→Out (List Dt)}{ρ:FD.Env}{e:α→Dt}{xs:List α}(hs:src ρ=.ok (xs.map e))(hl:xs.length≤16777216)(h:∀ x∈xs,∃ ρ1,u (e x) (BB (frz lk ρ) vs)=some ρ1∧t ρ1=.ok false):
  Fi u vs t f src lk ρ=.ok []:=by
 rw [bc,hs,Out.Au,if_pos (by rw [List.length_map]; exact hl),UC h]
theorem eG{A:List Kn}(hA:A.length≤20)(f g:Kn→List Row):GO K cs [Ap cs A f,Ap cs A g]=.ok .non:=by
 have ed:GO K cs [Ap cs A f,Ap cs A g]=Ax 4 (GP K cs) [Ap cs A f,Ap cs A g]:=AE rfl
 rw [ed]
 unfold GP
 have h1:(Fi (Ai 3) [3] (FD.t1 (MD (AV K cs) true (Aa 3) (Aa 1)) A2) (Aa 3) (AB (DT (CJ K cs) "names" (Aa 0) Ag)) [0]) [some (.sh (Ap cs A f)),some (.sh (Ap cs A g)),none,none]=.ok []:=by
  refine Pz (e:=sD) (xs:=A) ?_ (by omega) fun k hk=>⟨[some (.sh (Ap cs A f)),some (.sh (Ap cs A g)),none,some (.sh (.str (S k)))],rfl,?_⟩
  ·rw [DS,Ic rfl]
   rfl
  ·have:=So (K:=K) (cs:=cs) (A:=A) (f:=g) (k:=k) (fa:=Aa 3) (fb:=Aa 1) (ρ:=[some (.sh (Ap cs A f)),some (.sh (Ap cs A g)),none,some (.sh (.str (S k)))]) rfl rfl
   rw [decide_eq_true hk] at this
   rw [NM,this]
   rfl
 have h2:(Fi (Ai 3) [3] (FD.t1 (MD (AV K cs) true (Aa 3) (Aa 0)) A2) (Aa 3) (AB (DT (CJ K cs) "names" (Aa 1) Ag)) [1]) [some (.sh (Ap cs A f)),some (.sh (Ap cs A g)),some (.sh (.lst [])),none]=.ok []:=by
  refine Pz (e:=sD) (xs:=A) ?_ (by omega) fun k hk=>⟨[some (.sh (Ap cs A f)),some (.sh (Ap cs A g)),some (.sh (.lst [])),some (.sh (.str (S k)))],rfl,?_⟩
  ·rw [DS,Ic rfl]
   rfl
  ·have:=So (K:=K) (cs:=cs) (A:=A) (f:=f) (k:=k) (fa:=Aa 3) (fb:=Aa 0) (ρ:=[some (.sh (Ap cs A f)),some (.sh (Ap cs A g)),some (.sh (.lst [])),some (.sh (.str (S k)))]) rfl rfl
   rw [decide_eq_true hk] at this
   rw [NM,this]
   rfl
 have h2':(Fi (Ai 3) [3] (FD.t1 (MD (AV K cs) true (Aa 3) (Aa 0)) A2) (Aa 3) (AB (DT (CJ K cs) "names" (Aa 1) Ag)) [1]) [some (.sh (Ap cs A f)),some (.sh (Ap cs A g)),some (.ol []),none]=.ok []:=by
  refine Pz (e:=sD) (xs:=A) ?_ (by omega) fun k hk=>⟨[some (.sh (Ap cs A f)),some (.sh (Ap cs A g)),some (.ol []),some (.sh (.str (S k)))],rfl,?_⟩
  ·rw [DS,Ic rfl]
   rfl
  ·have:=So (K:=K) (cs:=cs) (A:=A) (f:=f) (k:=k) (fa:=Aa 3) (fb:=Aa 0) (ρ:=[some (.sh (Ap cs A f)),some (.sh (Ap cs A g)),some (.ol []),some (.sh (.str (S k)))]) rfl rfl
   rw [decide_eq_true hk] at this
   rw [NM,this]
   rfl
 have ga:AX (.lst []) (.lst [])=some (.lst []):=rfl
 have gl:BO [.lst []]=some (.int 0):=rfl
 simp! [h1,h2,h2',ga,gl,Ey]
 rfl
theorem Rb:∀ (b a:Row),(A3 a b).length≤a.length + b.length
 | [],a=>Nat.le_refl _
 | p :: b,a=>by
  have h:=Rb b (Ce a p)
  have lp:=Oh a p.1 p.2
  have ls:(Ce a p).length≤a.length + 1:=by
   unfold Ce
   split
   ·split
    ·exact lp
    ·omega
   ·exact lp
  show (A3 (Ce a p) b).length≤_
  rw [List.length_cons]
  omega
def oP(f g:Kn→List Row):Kn→List Row:=fun k=>nf (Bl (f k) g [])
section
variable {A:List Kn} {f g:Kn→List Row} {b c w v:Nat} {k:Kn} {P:Kn→Int→Prop}
theorem Fp(hf:Mp A f b w)(hg:Mp A g c v)(hc:1≤c)(hk:k∈A):GL A (Bl (f k) g [])∧(∀ x∈Bl (f k) g [],Flat x)∧(∀ x∈Bl (f k) g [],x≠[])∧(Bl (f k) g []).length≤b * c ^ w∧∀ P,Ib P→(W (Bl (f k) g []) P ↔ W (f k) fun k x=>W (g k) fun j y=>P j (y + x)):=by
 obtain ⟨h1,h2,h3,h4,h5⟩:=P7 hg.fo hc (w:=w) (R:=f k) (Q:=[]) (hf.fo.g k hk) (fun r hr=>⟨hf.fo.n k hk r hr,hf.w k hk r hr⟩) (fun x hx=>nomatch hx) (fun x hx=>nomatch hx) fun x hx=>nomatch hx
 refine ⟨h1,h2,h3,?_,fun P hP=>?_⟩
 ·have:=Nat.mul_le_mul_right (c ^ w) (hf.fo.l k hk)
  simp only [List.length_nil] at h4
  omega
 ·rw [h5 P hP]
  exact ⟨fun z=>z.elim (fun ⟨r,hr,_⟩=>nomatch hr) id,.inr⟩
theorem Fo.Pl(hf:Mp A f b w)(hg:Mp A g c v)(hc:1≤c):Fo A (fun k=>Bl (f k) g []) (b * c ^ w):=
 ⟨fun k hk=>(Fp hf hg hc hk).1,fun k hk=>(Fp hf hg hc hk).2.2.1,fun k hk=>(Fp hf hg hc hk).2.2.2.1,fun k hk=>by
  have h:=(Fp hf hg hc hk).2.2.2.2 (fun _ _=>True) fun _ _ _ _ _=>trivial
  obtain ⟨r,hr⟩:=List.exists_mem_of_ne_nil _ (hf.fo.e k hk)
  obtain ⟨x,hx,_⟩:=h.mpr ⟨r,hr,fun p hp=>by
   obtain ⟨s,hs⟩:=List.exists_mem_of_ne_nil _ (hg.fo.e p.1 ((hf.fo.g k hk r hr).sub p.1 (BH hp)))
   exact ⟨s,hs,fun _ _=>trivial⟩⟩
  exact List.ne_nil_of_mem hx⟩
theorem T7{G:Kn→List Row}{v:Nat}:∀ {r:Row} {Q:List Row} {q:Nat},(∀ x∈Q,(ks x).Nodup∧x.length≤q)→(∀ p∈r,∀ s∈G p.1,s.length≤v)→∀ x∈Ft r G Q,x.length≤q + r.length * v
 | [],Q,q,hQ,_,x,hx=>by
  have:=(hQ x hx).2
  simp only [List.length_nil]
  omega
 | p :: r,Q,q,hQ,hG,x,hx=>by
  have nj:∀ y∈joinR Q (AZ p.2 (G p.1)),(ks y).Nodup:=S8 fun y hy=>(hQ y hy).1
  have i:=T7 (r:=r) (Q:=nf (joinR Q (AZ p.2 (G p.1)))) (q:=q + v) (fun y hy=>⟨(Rm nj y hy).nd,S2 nj (fun z hz=>by
   obtain ⟨a,ha,s,hs,rfl⟩:=mem_join.mp hz
   obtain ⟨u,hu,rfl⟩:=List.mem_map.mp hs
   have h1:=Rb (Dw p.2 u) a
   have h2:(Dw p.2 u).length=u.length:=List.length_map _
   have h3:=(hQ a ha).2
   have h4:=hG p List.mem_cons_self u hu
   omega) y hy⟩) (fun z hz=>hG z (List.mem_cons_of_mem _ hz)) x hx
  rw [List.length_cons,Nat.add_mul,Nat.one_mul]
  omega
theorem Ra{A:List Kn}{G:Kn→List Row}{b v w m:Nat}(hG:Fo A G b)(hb:1≤b)(hv:∀ k∈A,∀ s∈G k,s.length≤v)(hm:w * v≤m):∀ {R Q:List Row},GL A R→(∀ r∈R,r.length≤w)→GL A Q→(∀ x∈Q,x.length≤m)→∀ x∈Bl R G Q,x.length≤m
 | [],Q,_,_,_,hQ,x,hx=>hQ x hx
 | r :: R,Q,gR,hR,g,hQ,x,hx=>by
  have hr:=(gR r List.mem_cons_self).sub
  have p1:GL A (place1 r G):=(Kt hG hb (r:=r) (Q:=[[]]) hr (MT A) Vg).1
  have p2:∀ y∈place1 r G,y.length≤m:=fun y hy=>by
   have h1:=T7 (G:=G) (v:=v) (r:=r) (Q:=[[]]) (q:=0) (fun z hz=>by rw [List.mem_singleton.mp hz]; exact ⟨List.nodup_nil,Nat.le_refl _⟩) (fun p hp=>hv p.1 (hr p.1 (BH hp))) y hy
   have h2:=Nat.mul_le_mul_right v (hR r List.mem_cons_self)
   omega
  have ga:=g.app p1
  exact Ra hG hb hv hm (R:=R) (Q:=nf (Q ++ place1 r G)) (fun z hz=>gR z (List.mem_cons_of_mem _ hz)) (fun z hz=>hR z (List.mem_cons_of_mem _ hz)) ga.nf (S2 ga.nd fun z hz=>(List.mem_append.mp hz).elim (hQ z) (p2 z)) x hx
theorem Mp.Pl(hf:Mp A f b w)(hg:Mp A g c v)(hc:1≤c):Mp A (oP f g) (b * c ^ w) (w * v):=(Fo.Pl hf hg hc).mp fun k hk x hx=>Ra (R:=f k) (Q:=[]) hg.fo hc hg.w (Nat.le_refl _) (hf.fo.g k hk) (hf.w k hk) (fun x hx=>nomatch hx) (fun x hx=>nomatch hx) x hx
theorem gz(hf:Mp A f b w)(hg:Mp A g c v)(hc:1≤c)(hk:k∈A)(hP:Ib P):W (oP f g k) P ↔ W (f k) fun k x=>W (g k) fun j y=>P j (y + x):=by
 unfold oP
 rw [bE (Fp hf hg hc hk).1.nd hP,(Fp hf hg hc hk).2.2.2.2 P hP]
end
theorem Qu{A:List Kn}(hA:As A)(h0:A≠[]){f g:Kn→List Row}{b c w v:Nat}(hf:Mp A f b w)(hg:Mp A g c v)(hb:b * c ^ w≤200)(hb1:1≤b)(hc1:1≤c)(hc:c≤200):Em K cs [Ap cs A f,Ap cs A g]=.ok (Ap cs A (oP f g)):=by
 have ed:Em K cs [Ap cs A f,Ap cs A g]=Ax 2 (FV K cs) [Ap cs A f,Ap cs A g]:=AE rfl
 rw [ed]
 unfold FV
 have t1:=eG (K:=K) (cs:=cs) hA.l f g
 have t2:=Vx (K:=K) (cs:=cs) hA hf.fo hf.w hg.fo hc1 hb hb1 (by omega)
 have t3:Eu K cs [Ff A fun k=>Bl (f k) g []]=.ok (Ap cs A (oP f g)):=a7 (K:=K) (cs:=cs) hA h0 ((Fo.Pl hf hg hc1).mono hb)
 have g1:=E4 (cs:=cs) A f
 have g2:=E4 (cs:=cs) A g
 simp! [t1,g1,g2,t2,t3]
theorem gM(R:List Row):(tD R).py=some (.tuple (R.map rP)):=by
 unfold tD Dt.py
 rw [Ed R fun r _=>PU r]
 rfl
theorem hT(A:List Kn)(h:Kn→PyData){k:Kn}(hk:k∈A):Q5 (A.map kN) (A.map h) (kN k)=some (h k):=by
 induction A with
 | nil=>cases hk
 | cons a A ih=>
  rw [List.map_cons,List.map_cons]
  unfold Q5
  by_cases e:a=k
  ·rw [if_pos (by rw [e]),e]
  ·rw [if_neg fun z=>e (Gk z)]
   rcases List.mem_cons.mp hk with z | z
   ·exact absurd z.symm e
   ·exact ih z
def eqB(A:List Kn)(f g:Kn→List Row):Bool:=A.all fun k=>decide (f k=g k)
theorem ax(A:List Kn)(f g:Kn→List Row):∀ L:List Kn,(∀ k∈L,k∈A)→Uj (L.map kN) (L.map fun k=>.tuple ((f k).map rP)) (A.map kN) (A.map fun k=>.tuple ((g k).map rP))=L.all fun k=>decide (f k=g k)
 | [],_=>rfl
 | k :: L,h=>by
  have ih:=ax A f g L fun q hq=>h q (List.mem_cons_of_mem _ hq)
  unfold Uj at ih ⊢
  rw [List.map_cons,List.map_cons,List.zip_cons_cons,List.all_cons,ih,List.all_cons]
  simp only
  rw [hT A (fun k=>PyData.tuple ((g k).map rP)) (h k List.mem_cons_self)]
  simp only
  rw [PyData.eqv,Kr SH]
theorem iL{A:List Kn}{f g:Kn→List Row}(hf:∀ k∈A,∀ r∈f k,WB r)(hg:∀ k∈A,∀ r∈g k,WB r):Rr false (Ff A f) (Ff A g)=some (eqB A f g):=by
 unfold Rr Ff
 simp only
 rw [Ed (f:=fun k=>tD (f k)) (g:=fun k=>.tuple ((f k).map rP)) A fun k _=>gM (f k),Ed (f:=fun k=>tD (g k)) (g:=fun k=>.tuple ((g k).map rP)) A fun k _=>gM (g k)]
 simp only [Option.bind_some]
 rw [if_pos ⟨List.all_eq_true.mpr fun x hx=>by
  obtain ⟨k,hk,rfl⟩:=List.mem_map.mp hx
  exact NC (hf k hk),List.all_eq_true.mpr fun x hx=>by
  obtain ⟨k,hk,rfl⟩:=List.mem_map.mp hx
  exact NC (hg k hk)⟩,ax A f g A fun _ h=>h]
 simp only [List.length_map,beq_self_eq_true,Bool.true_and,Bool.false_xor]
 rfl
theorem jz{A:List Kn}{f g:Kn→List Row}(hf:∀ k∈A,∀ r∈f k,WB r)(hg:∀ k∈A,∀ r∈g k,WB r):DE K cs [Ap cs A f,Ap cs A g]=.ok (.bl (eqB A f g)):=by
 have ed:DE K cs [Ap cs A f,Ap cs A g]=Ax 2 (Gx K cs) [Ap cs A f,Ap cs A g]:=AE rfl
 rw [ed]
 unfold Gx
 have g1:=E4 (cs:=cs) A f
 have g2:=E4 (cs:=cs) A g
 have gi:T6 cs.c_Map (VY cs) [Ap cs A g,.cls cs.c_Map]=some (.bl true):=by
  unfold Ap T6
  simp
 simp! [gi,g1,g2,iL hf hg]
theorem keys_map(r:Row):(ks r).map sD=r.map fun p=>sD p.1:=by
 unfold ks
 rw [List.map_map]
 rfl
theorem TR{i:Nat}{u:Dt→FD.Env→Option FD.Env}{vs:List Nat}{f:FD.Env→Out Dt}{ρ:FD.Env}{r:Row}{g:Kn × Int→Dt}(hi:ρ[i]? = some (some (.sh (rD r))))(hl:r.length≤16777216)(h:∀ p∈r,∃ ρ1,u (sD p.1) (BB (frz [i] ρ) vs)=some ρ1∧f ρ1=.ok (g p)):
  P0 i u vs AK f ρ=.ok (r.map g):=by
 have e:CU i ρ=.ok (r.map fun p=>sD p.1):=by
  unfold CU
  rw [hi]
  show Out.ok ((CB r).map I0)=_
  rw [IQ,keys_map]
 unfold P0
 rw [DB (e:=fun p:Kn × Int=>sD p.1) (g:=g) e hl h]
theorem TM{α:Type}(f:α→Int){l:List α}(h:l≠[]):Jo [.lst (l.map fun a=>.int (f a))]=some (.int (QR (l.map f))):=by
 have e:(l.map fun a=>Dt.int (f a))=(l.map f).map .int:=by rw [List.map_map]; rfl
 unfold Jo
 show ((some (l.map fun a=>Dt.int (f a))).bind fun ds=>(Jn ds).bind fun ns=>if ns=[] then none else some (Dt.int (QR ns)))=_
 rw [Option.bind_some,e,Iy,Option.bind_some,if_neg (by simpa using h)]
theorem TU{α:Type}(f:α→Int){l:List α}(h:l≠[]):K5 [.lst (l.map fun a=>.int (f a))]=some (.int (Pp (l.map f))):=by
 have e:(l.map fun a=>Dt.int (f a))=(l.map f).map .int:=by rw [List.map_map]; rfl
 unfold K5
 show ((some (l.map fun a=>Dt.int (f a))).bind fun ds=>(Jn ds).bind fun ns=>if ns=[] then none else some (Dt.int (Pp ns)))=_
 rw [Option.bind_some,e,Iy,Option.bind_some,if_neg (by simpa using h)]
theorem VQ{R:List Row}{P:Row}{f:Kn→Int}(h:R≠[])(hn:∀ r∈R,r≠[])(hl:R.length≤1000)(hr:∀ r∈R,r.length≤1000)(hp:∀ r∈R,∀ k∈ks r,gt P k=some (f k)):Fx K cs [tD R,rD P]=.ok (.int (vl R f)):=by
 have ed:Fx K cs [tD R,rD P]=Ax 5 (IS K cs) [tD R,rD P]:=AE rfl
 rw [ed]
 unfold IS
 have hc:Fi (Ai 2) [2] AK (eB Jo (Ab (eL (Fi (Fh (AO (Ai 3) (AO (Ai 4) EO))) [3,4] AK (FD.e2 (FD.e2 (Aa 1) (Aa 3) AH) (Aa 4) AX) (AB (Aa 2)) [2])) Ag)) (AB (Aa 0)) [0] [some (.sh (tD R)),some (.sh (rD P)),none,none,none]=.ok (R.map fun r=>.int (mx r f)):=by
  refine DB (e:=fD) rfl (by omega) fun r hr'=>⟨[some (.sh (tD R)),some (.sh (rD P)),some (.sh (fD r)),none,none],rfl,?_⟩
  have hi:Fi (Fh (AO (Ai 3) (AO (Ai 4) EO))) [3,4] AK (FD.e2 (FD.e2 (Aa 1) (Aa 3) AH) (Aa 4) AX) (AB (Aa 2)) [2] [some (.sh (tD R)),some (.sh (rD P)),some (.sh (fD r)),none,none]=.ok (r.map fun p=>.int (f p.1 + p.2)):=by
   refine DB (e:=IG) rfl (by have:=hr r hr'; omega) fun p hp'=>⟨[some (.sh (tD R)),some (.sh (rD P)),some (.sh (fD r)),some (.sh (.str (S p.1))),some (.sh (.int p.2))],rfl,?_⟩
   have g2:AH (rD P) (.str (S p.1))=some (.int (f p.1)):=by
    rw [Y6,hp r hr' p.1 (BH hp')]
    rfl
   simp! [g2]
  simp! [hi,TM (fun p:Kn × Int=>f p.1 + p.2) (hn r hr')]
  rfl
 simp! [hc,TU (fun r:Row=>mx r f) h]
 rfl
theorem gp{u:Dt→FD.Env→Option FD.Env}{fk fv:FD.Env→Out Dt}{ρ:FD.Env}{A:List Kn}{h:Kn→Dt}(nd:A.Nodup)(st:∀ k∈A,∃ ρ1,u (sD k) ρ=some ρ1∧fk ρ1=.ok (sD k)∧fv ρ1=.ok (h k)):∀ (L P:List Kn),A=P ++ L→XB u AK fk fv ρ (L.map sD) (P.map kN) (P.map h)=.ok (A.map kN,A.map h)
 | [],P,e=>by rw [e,List.append_nil]; rfl
 | k :: L,P,e=>by
  have hk:k∉P:=fun z=>by
   rw [e] at nd
   exact (List.nodup_append.mp nd).2.2 k z k List.mem_cons_self rfl
  obtain ⟨ρ1,h1,h2,h3⟩:=st k (by rw [e]; exact List.mem_append_right _ List.mem_cons_self)
  have hi:=gp (fk:=fk) (fv:=fv) nd st L (P ++ [k]) (by rw [List.append_assoc]; exact e)
  rw [List.map_cons]
  unfold XB
  rw [h1]
  simp only [BI,Out.Au,Oi,B2,if_true,h2,h3]
  have hkd:keyD (sD k)=some (Sum.inr (S k)):=rfl
  rw [hkd,BI,Out.Au,HS hk,HP hk h,hi]
def Ei(A:List Kn)(f:Kn→List Row)(pt:Kn→Int):Row:=A.map fun k=>(k,vl (f k) pt)
theorem aY(A:List Kn)(f:Kn→List Row)(pt:Kn→Int):rD (Ei A f pt)=.dic (A.map kN) (A.map fun k=>.int (vl (f k) pt)):=by
 unfold rD CB D4 Ei
 rw [List.map_map,List.map_map]
 rfl
theorem Xk{A:List Kn}{P:Row}{d0:Option Lo}(hP:∀ k∈A,k∈ks P):∀ (L:List Kn) (x:Option Lo),(∀ k∈L,k∈A)→∃ x',BA (Ai 2) (CF (FD.t2 (Aa 2) (Aa 1) (CT Dk)) NT Ar) (L.map sD) [d0,some (.sh (rD P)),x]=.ok .nx [d0,some (.sh (rD P)),x']
 | [],x,_=>⟨x,rfl⟩
 | k :: L,x,h=>by
  obtain ⟨x',e⟩:=Xk (d0:=d0) hP L (some (.sh (sD k))) fun q hq=>h q (List.mem_cons_of_mem _ hq)
  have gi:Dk (sD k) (rD P)=some true:=by
   have:=kY P k
   rw [decide_eq_true (hP k (h k List.mem_cons_self))] at this
   exact this
  rw [List.map_cons,Cc]
  refine ⟨x',?_⟩
  simp! [gi,e]
theorem jh{A:List Kn}(hA:As A){f:Kn→List Row}{b w:Nat}(hf:Mp A f b w)(hb:b≤200){P:Row}{pt:Kn→Int}(hP:∀ k∈A,gt P k=some (pt k)):CG K cs [Ap cs A f,rD P]=.ok (rD (Ei A f pt)):=by
 have ed:CG K cs [Ap cs A f,rD P]=Ax 3 (EX K cs) [Ap cs A f,rD P]:=AE rfl
 rw [ed]
 unfold EX
 have hn:∀ x,DT (CJ K cs) "names" (Aa 0) Ag [some (.sh (Ap cs A f)),some (.sh (rD P)),x]=.ok (.tup (A.map sD)):=fun x=>Ic rfl
 obtain ⟨x',e⟩:=Xk (A:=A) (P:=P) (d0:=some (.sh (Ap cs A f))) (fun k hk=>BH (G9 (hP k hk))) A none fun _ h=>h
 have hf1:A1 (Ai 2) (AB (DT (CJ K cs) "names" (Aa 0) Ag)) [0] (CF (FD.t2 (Aa 2) (Aa 1) (CT Dk)) NT Ar) [some (.sh (Ap cs A f)),some (.sh (rD P)),none]=.ok .nx [some (.sh (Ap cs A f)),some (.sh (rD P)),x']:=by
  rw [Ci]
  simp! [hn]
  exact e
 have hd:(jK (Ai 2) [2] AK (Aa 2) (Al (Fx K cs) (Ab (FD.e2 (FD.e1 (Aa 0) (KP (BS cs) "_forms")) (Aa 2) AH) (Ab (Aa 1) Ag))) (AB (DT (CJ K cs) "names" (Aa 0) Ag)) [0]) [some (.sh (Ap cs A f)),some (.sh (rD P)),x']=.ok (rD (Ei A f pt)):=by
  rw [M7,DS,hn,Out.Au]
  show (Out.ok (A.map sD)).bind _=_
  rw [Out.Au,if_pos (by rw [List.length_map]; have:=hA.l; omega)]
  show (XB _ _ _ _ [some (.sh (Ap cs A f)),some (.sh (rD P)),none] (A.map sD) (([]:List Kn).map kN) (([]:List Kn).map fun k=>.int (vl (f k) pt))).bind _=_
  rw [gp (h:=fun k=>.int (vl (f k) pt)) hA.nd (fun k hk=>⟨[some (.sh (Ap cs A f)),some (.sh (rD P)),some (.sh (sD k))],rfl,rfl,?_⟩) A [] rfl,Out.Au,aY]
  have g1:=E4 (cs:=cs) A f
  have ga:AH (Ff A f) (sD k)=some (tD (f k)):=UY hk
  have t:=VQ (K:=K) (cs:=cs) (P:=P) (f:=pt) (hf.fo.e k hk) (hf.fo.n k hk) (by have:=hf.fo.l k hk; omega) (fun r hr=>by have:=(hf.fo.g k hk r hr).len; have:=hA.l; omega) fun r hr j hj=>hP j ((hf.fo.g k hk r hr).sub j hj)
  simp! [g1,ga,t]
 have hz:∀ ρ:FD.Env,[0,0,2,1,2].all (He ρ)=true→AL (rD (Ei A f pt)) [0,0,2,1,2] ρ=ρ:=fun ρ h=>FI h
 have hr:(AA (jK (Ai 2) [2] AK (Aa 2) (Al (Fx K cs) (Ab (FD.e2 (FD.e1 (Aa 0) (KP (BS cs) "_forms")) (Aa 2) AH) (Ab (Aa 1) Ag))) (AB (DT (CJ K cs) "names" (Aa 0) Ag)) [0]) [0,0,2,1,2]) [some (.sh (Ap cs A f)),some (.sh (rD P)),x']=.ok (.rt (rD (Ei A f pt))) (AL (rD (Ei A f pt)) [0,0,2,1,2] [some (.sh (Ap cs A f)),some (.sh (rD P)),x']):=by
  rw [Kz,hd]
  rfl
 rw [IV]
 show Yr (Am _ _ [some (.sh (Ap cs A f)),some (.sh (rD P)),none])=_
 rw [Jk,hf1,FH,hr]
 rfl
theorem jP(A:List Kn)(f:Kn→List Row):DQ K cs [Ap cs A f]=.ok (.int (A.length:Nat)):=by
 have ed:DQ K cs [Ap cs A f]=Ax 1 (FR K cs) [Ap cs A f]:=AE rfl
 rw [ed]
 unfold FR
 have g1:=E4 (cs:=cs) A f
 have g2:G2 [Ff A f]=some (.int (A.length:Nat)):=TJ
 simp! [g1,g2]
theorem jl{A:List Kn}(f:Kn→List Row){k:Kn}(hk:k∈A):Fv K cs [Ap cs A f,.str (S k)]=.ok (tD (f k)):=by
 have ed:Fv K cs [Ap cs A f,.str (S k)]=Ax 2 (Jf K cs) [Ap cs A f,.str (S k)]:=AE rfl
 rw [ed]
 unfold Jf
 have g1:=E4 (cs:=cs) A f
 have g2:Dk (.str (S k)) (Ff A f)=some true:=by
  have:=gT A k (A.map fun k=>tD (f k))
  rw [decide_eq_true hk] at this
  exact this
 have ga:AH (Ff A f) (.str (S k))=some (tD (f k)):=UY hk
 have hz:∀ lk ρ,AL (tD (f k)) lk ρ=ρ:=fun lk ρ=>CC (EA _)
 simp! [g1,g2,ga,hz,Kw]
def DH(s:Int × Int):Dt:=.tup [.int s.1,.int s.2]
def spL:List (Int × Int):=[(3,0),(2,0),(7,0 - 3),(7,0 - 3),(20,0 - 10),(2000001,0 - 1000000),(4,10 ^ 20),(4,0 - 10 ^ 20)]
def QF(s:Int × Int):Prop:=1≤s.1∧s.1≤2000001
theorem jb:∀ s∈spL,QF s:=by unfold QF; decide
theorem aZ{R:List Cell}{j:Nat}{b:Bx}(hb:R[j]? = some (Jr b))(hn:b.n≤900000000):
  ∃ (s:Int × Int) (R':List Cell) (b':Bx),Eo K cs [.ad j] R=.ok (DH s) R'∧QF s∧At R R' j b b' 1:=by
 have ed:Eo K cs [.ad j] R=runM 2 (FT K cs) [.ad j] R:=E7 rfl
 rw [ed]
 unfold FT
 obtain ⟨v,R1,b1,t1,v0,v1,s1⟩:=JN (K:=K) (cs:=cs) hb (by omega) (s:=8) (by decide) (by decide)
 obtain ⟨s,hs,hm⟩:=OB (xs:=spL) (i:=v) v0 v1
 have p20:gI YY (fun i j=>i ^ j.toNat) (.int 10) (.int 20)=some (.int (10 ^ 20)):=by
  rw [HZ,if_pos (by decide)]
  rfl
 have hat:atI (spL.map DH) v=some (DH s):=by rw [Of,hs]; rfl
 have hat:atI [.tup [.int 3,.int 0],.tup [.int 2,.int 0],.tup [.int 7,.int (0 - 3)],.tup [.int 7,.int (0 - 3)],.tup [.int 20,.int (0 - 10)],.tup [.int 2000001,.int (0 - 1000000)],.tup [.int 4,.int (10 ^ 20)],.tup [.int 4,.int (0 - 10 ^ 20)]] v=some (DH s):=hat
 refine ⟨s,R1,b1,?_,jb s (List.mem_of_getElem? hm),s1⟩
 simp! [p20,Mb,t1,hat]
theorem ZY{α:Type}(f:α→Dt)(xs:List α)(lo hi:Option Int):∃ ys:List α,cutD (xs.map f) lo hi=ys.map f∧(∀ y∈ys,y∈xs)∧ys.length≤xs.length:=by
 unfold cutD
 refine ⟨(xs.drop (HT.sIx xs.length 0 lo)).take (HT.sIx xs.length xs.length hi - HT.sIx xs.length 0 lo),?_,fun y hy=>List.mem_of_mem_drop (List.mem_of_mem_take hy),?_⟩
 ·rw [List.length_map,List.map_take,List.map_drop]
 ·rw [List.length_take,List.length_drop]; omega
def rC(r:Row):Cell:=.dic (CB r) (D4 r)
theorem RJ{n k:Nat}{fx fk:FD.Env→Out Dt}{f:FD.Env→XO Dt}{ρ ρ1:FD.Env}{C:List Cell}{r:Row}{z:Kn}{x:Int}(hf:f ρ=.ok (.int x) ρ1)(hx:fx ρ1=.ok (.ad k))(hm:DM n ρ1=some C)(hc:C[k]? = some (rC r))(hk:fk ρ1=.ok (.str (S z)))(hl:r.length < 16777216):
  G4 n fx fk f [] ρ=.ok .nx (ρ1.set n (some (.mh (C.set k (rC (Dy r z x)))))):=by
 have e:AL (.int x) [] ρ1=ρ1:=DZ ..
 have hp:Uz n (.ad k) (kN z) (.int x) ρ1=some (ρ1.set n (some (.mh (C.set k (rC (Dy r z x)))))):=by
  unfold Uz
  simp only [hm,Option.bind_some,hc]
  show (if (CB r).length < 16777216 then some (ρ1.set n (some (Lo.mh (C.set k (.dic (Es (CB r) (kN z)) (CW (CB r) (D4 r) (kN z) (.int x))))))) else none)=_
  rw [I4,if_pos hl,O1 r z x,PB]
  rfl
 unfold G4
 rw [hf,Ph,e,hx,FC,hk,FC]
 show (match Uz n (.ad k) (kN z) (.int x) ρ1 with
  | some ρ'=>SOut.ok .nx ρ'
  | none=>.bad)=_
 rw [hp]
structure Rw2 (C:List Cell) (j m:Nat) (b:Bx) (r:Row):Prop where
 bx:C[j]? = some (Jr b)
 rw:C[m]? = some (rC r)
 ne:m≠j
theorem Rw2.tk{C C':List Cell}{j m k:Nat}{b b':Bx}{r:Row}(h:Rw2 C j m b r)(a:At C C' j b b' k):Rw2 C' j m b' r:=⟨a.OF,by rw [a.ne h.ne]; exact h.rw,h.ne⟩
theorem Rw2.put{C:List Cell}{j m:Nat}{b:Bx}{r:Row}(h:Rw2 C j m b r)(r':Row):Rw2 (C.set m (rC r')) j m b r':=⟨by rw [List.getElem?_set_ne h.ne]; exact h.bx,List.getElem?_set_self (Ki h.rw),h.ne⟩
abbrev PM(j m:Nat)(d1:Option Lo)(s:Int × Int)(d3 x:Option Lo)(C:List Cell):FD.Env:=[some (.sh (.ad j)),d1,some (.sh (DH s)),d3,some (.sh (.ad m)),x,some (.mh C)]
theorem Ot{j m:Nat}{N:List Kn}{s:Int × Int}(hs:QF s)(hN:N.length≤20){d1 d3:Option Lo}:∀ (L:List Kn) (r:Row) (x:Option Lo) (C:List Cell) (b:Bx),(∀ k∈L,k∈N)→Gr N r→Rw2 C j m b r→b.n + 2 * L.length≤900000000 →
  ∃ (r':Row) (x':Option Lo) (C':List Cell) (b':Bx),Rw2 C' j m b' r'∧b'.n≤b.n + 2 * L.length∧Gr N r' ∧
  BA (Ai 5) (Ll (FD.Xw (Aw 6 (Ao K cs) (xP (Ab (Aa 0) (Ab (eC (.int 2)) Ag))) [0]) (xP (eC (.int 0))) Nv) (G4 6 (Aa 4) (Aa 5) (FD.x2 (Aw 6 (Ao K cs) (xP (Ab (Aa 0) (Ab (FD.e2 (Aa 2) (eC (.int 0)) AW) Ag))) [0]) (xP (FD.e2 (Aa 2) (eC (.int 1)) AW)) AX) []) Ar) (L.map sD) (PM j m d1 s d3 x C)=.ok .nx (PM j m d1 s d3 x' C')
 | [],r,x,C,b,_,g,hb,_=>⟨r,x,C,b,hb,Nat.le_refl _,g,rfl⟩
 | k :: L,r,x,C,b,hL,g,hb,hn=>by
  simp only [List.length_cons] at hn
  obtain ⟨v,R1,b1,t1,v0,v1,s1⟩:=JN (K:=K) (cs:=cs) hb.bx (by omega) (s:=2) (by decide) (by decide)
  have u1:=s1.up
  have h1:=hb.tk s1
  have hL':∀ k∈L,k∈N:=fun z hz=>hL z (List.mem_cons_of_mem _ hz)
  by_cases hv:v=0
  ·subst hv
   obtain ⟨w,R2,b2,t2,w0,w1,s2⟩:=JN (K:=K) (cs:=cs) h1.bx (by omega) (s:=s.1) hs.1 (by have:=hs.2; omega)
   have u2:=s2.up
   have h2:=(h1.tk s2).put (Dy r k (w + s.2))
   obtain ⟨r',x',C',b',s3,ub,g',e⟩:=Ot hs hN (d1:=d1) (d3:=d3) L (Dy r k (w + s.2)) (some (.sh (sD k))) _ b2 hL' (g.put (hL k List.mem_cons_self) _) h2 (by omega)
   refine ⟨r',x',C',b',s3,by rw [List.length_cons]; omega,g',?_⟩
   have hf:(FD.x2 (Aw 6 (Ao K cs) (xP (Ab (Aa 0) (Ab (FD.e2 (Aa 2) (eC (.int 0)) AW) Ag))) [0]) (xP (FD.e2 (Aa 2) (eC (.int 1)) AW)) AX) (PM j m d1 s d3 (some (.sh (sD k))) R1)=.ok (.int (w + s.2)) (PM j m d1 s d3 (some (.sh (sD k))) R2):=by
    unfold PM DH
    simp! [t2]
   have hp:(G4 6 (Aa 4) (Aa 5) (FD.x2 (Aw 6 (Ao K cs) (xP (Ab (Aa 0) (Ab (FD.e2 (Aa 2) (eC (.int 0)) AW) Ag))) [0]) (xP (FD.e2 (Aa 2) (eC (.int 1)) AW)) AX) []) (PM j m d1 s d3 (some (.sh (sD k))) R1)=.ok .nx (PM j m d1 s d3 (some (.sh (sD k))) (R2.set m (rC (Dy r k (w + s.2))))):=RJ (k:=m) (z:=k) hf rfl rfl (h1.tk s2).rw rfl (by have:=g.len; omega)
   unfold PM at hp e
   rw [List.map_cons,Cc]
   unfold PM
   simp! [t1,beq_self_eq_true,hp,e]
  ·have hv':(v == (0:Int))=false:=beq_eq_false_iff_ne.mpr hv
   obtain ⟨r',x',C',b',s3,ub,g',e⟩:=Ot hs hN (d1:=d1) (d3:=d3) L r (some (.sh (sD k))) R1 b1 hL' g h1 (by omega)
   refine ⟨r',x',C',b',s3,by rw [List.length_cons]; omega,g',?_⟩
   unfold PM at e
   rw [List.map_cons,Cc]
   unfold PM
   simp! [t1,hv',e]
theorem kP{C:List Cell}{j:Nat}{b:Bx}{N:List Kn}{s:Int × Int}(hb:C[j]? = some (Jr b))(hn:b.n≤800000000)(hs:QF s)(hN:N.length≤20)(hN0:N≠[]):
  ∃ (r:Row) (C':List Cell) (b':Bx) (m:Nat),DX K cs [.ad j,.lst (N.map sD),DH s] C=.ok (.ad m) C'∧Rw2 C' j m b' r∧Gr N r∧r≠[]∧b'.n≤b.n + 100:=by
 have ed:DX K cs [.ad j,.lst (N.map sD),DH s] C=runM 6 (Jg K cs) [.ad j,.lst (N.map sD),DH s] C:=E7 rfl
 rw [ed]
 unfold Jg
 have hp:0 < N.length:=List.length_pos_iff.mpr hN0
 have gl:BO [.lst (N.map sD)]=some (.int (N.length:Nat)):=by rw [GY,List.length_map]
 obtain ⟨v,R1,b1,t1,v0,v1,s1⟩:=JN (K:=K) (cs:=cs) hb (by omega) (s:=(N.length:Nat)) (by omega) (by omega)
 have u1:=s1.up
 obtain ⟨A,hA,mA,lA⟩:=ZY sD N (some v) none
 obtain ⟨B,hB,mB,lB⟩:=ZY sD N none (some v)
 have hAB:AX (.lst (A.map sD)) (.lst (B.map sD))=some (.lst ((A ++ B).map sD)):=by
  rw [Mb,List.length_map,List.length_map,if_pos (by omega),List.map_append]
 obtain ⟨m,hm⟩:∃ m,m=R1.length:=⟨_,rfl⟩
 have hmj:m≠j:=by have:=Ki s1.OF; omega
 have h2:Rw2 (R1 ++ [rC []]) j m b1 []:=⟨by rw [List.getElem?_append_left (Ki s1.OF)]; exact s1.OF,by rw [hm]; simp,hmj⟩
 have hnew:Jy 6 [some (.sh (.ad j)),some (.sh (.lst (N.map sD))),some (.sh (DH s)),some (.sh (.int v)),none,none,some (.mh R1)]=.ok (.ad m) [some (.sh (.ad j)),some (.sh (.lst (N.map sD))),some (.sh (DH s)),some (.sh (.int v)),none,none,some (.mh (R1 ++ [rC []]))]:=by
  rw [hm]
  rfl
 obtain ⟨r,x,R2,b2,s2,u2,g,e⟩:=Ot (K:=K) (cs:=cs) hs hN (m:=m) (d1:=some (.sh (.lst (N.map sD)))) (d3:=some (.sh (.int v))) (A ++ B) [] none (R1 ++ [rC []]) b1 (fun k hk=>(List.mem_append.mp hk).elim (mA k) (mB k)) (Gr.nil N) h2 (by rw [List.length_append]; omega)
 rw [List.length_append] at u2
 have hf:A1 (Ai 5) (AB (FD.e2 (Nq (Aa 1) (Mn (Aa 3)) HJ) (Nq (Aa 1) HJ (Mn (Aa 3))) AX)) [1,1] (Ll (FD.Xw (Aw 6 (Ao K cs) (xP (Ab (Aa 0) (Ab (eC (.int 2)) Ag))) [0]) (xP (eC (.int 0))) Nv) (G4 6 (Aa 4) (Aa 5) (FD.x2 (Aw 6 (Ao K cs) (xP (Ab (Aa 0) (Ab (FD.e2 (Aa 2) (eC (.int 0)) AW) Ag))) [0]) (xP (FD.e2 (Aa 2) (eC (.int 1)) AW)) AX) []) Ar) (PM j m (some (.sh (.lst (N.map sD)))) s (some (.sh (.int v))) none (R1 ++ [rC []]))=.ok .nx (PM j m (some (.sh (.lst (N.map sD)))) s (some (.sh (.int v))) x R2):=by
  rw [Ci]
  unfold PM at e ⊢
  simp! [hA,hB,hAB]
  exact e
 have hln:P1 6 4 (PM j m (some (.sh (.lst (N.map sD)))) s (some (.sh (.int v))) x R2)=.ok (.int (r.length:Nat)):=by
  show FU ((R2[m]?).bind f7)=_
  rw [s2.rw]
  show Out.ok (Dt.int ((CB r).length:Nat))=_
  rw [I4]
 unfold PM at hf hln
 by_cases h0:r=[]
 ·subst h0
  obtain ⟨w,R3,b3,t3,w0,w1,s3⟩:=JN (K:=K) (cs:=cs) s2.bx (by omega) (s:=s.1) hs.1 (by have:=hs.2; omega)
  have u3:=s3.up
  obtain ⟨z,hz,hix⟩:=aB (xs:=N) v0 v1
  have hx:(FD.x2 (Aw 6 (Ao K cs) (xP (Ab (Aa 0) (Ab (FD.e2 (Aa 2) (eC (.int 0)) AW) Ag))) [0]) (xP (FD.e2 (Aa 2) (eC (.int 1)) AW)) AX) (PM j m (some (.sh (.lst (N.map sD)))) s (some (.sh (.int v))) x R2)=.ok (.int (w + s.2)) (PM j m (some (.sh (.lst (N.map sD)))) s (some (.sh (.int v))) x R3):=by
   unfold PM DH
   simp! [t3]
  have hp:(G4 6 (Aa 4) (FD.e2 (Aa 1) (Aa 3) AW) (FD.x2 (Aw 6 (Ao K cs) (xP (Ab (Aa 0) (Ab (FD.e2 (Aa 2) (eC (.int 0)) AW) Ag))) [0]) (xP (FD.e2 (Aa 2) (eC (.int 1)) AW)) AX) []) (PM j m (some (.sh (.lst (N.map sD)))) s (some (.sh (.int v))) x R2)=.ok .nx (PM j m (some (.sh (.lst (N.map sD)))) s (some (.sh (.int v))) x (R3.set m (rC (Dy [] z (w + s.2))))):=RJ (k:=m) (z:=z) hx rfl rfl (s2.tk s3).rw (by unfold PM; simp! [hix]) (by decide)
  refine ⟨Dy [] z (w + s.2),_,b3,m,?_,(s2.tk s3).put _,(Gr.nil N).put hz _,iY _ _ _,by omega⟩
  unfold PM at hp
  have hb0:(((([]:Row).length:Nat):Int) == (0:Int))=true:=rfl
  simp! [gl,t1,hnew,hf,hln,hb0,hp]
  rfl
 ·refine ⟨r,R2,b2,m,?_,s2,g,h0,by omega⟩
  have hl:((r.length:Int) == (0:Int))=false:=beq_eq_false_iff_ne.mpr (by have:=List.length_pos_iff.mpr h0; omega)
  simp! [gl,t1,hnew,hf,hln,hl]
def HQ(r:Row)(k:Kn):Row:=r.filter fun p=>decide (p.1≠k)
theorem fB(r:Row)(k:Kn):La (CB r) (kN k)=CB (HQ r k):=by
 unfold La CB HQ
 rw [List.filter_map]
 congr 1
 refine List.filter_congr fun p _=>?_
 show decide (kN p.1≠kN k)=decide (p.1≠k)
 exact decide_eq_decide.mpr (not_congr ⟨Gk,fun e=>by rw [e]⟩)
theorem Wn:∀ (r:Row) (k:Kn),Gg (CB r) (D4 r) (kN k)=D4 (HQ r k)
 | [],k=>rfl
 | p :: r,k=>by
  have ih:=Wn r k
  show (if kN p.1=kN k then Gg (CB r) (D4 r) (kN k) else .int p.2 :: Gg (CB r) (D4 r) (kN k))=_
  by_cases h:p.1=k
  ·rw [if_pos (by rw [h]),ih]
   unfold HQ
   rw [List.filter_cons_of_neg (by simp [h])]
  ·rw [if_neg fun z=>h (Gk z),ih]
   unfold HQ
   rw [List.filter_cons_of_pos (by simp [h])]
   rfl
theorem YI{n i m:Nat}{fk:FD.Env→Out Dt}{ρ:FD.Env}{C:List Cell}{r:Row}{k:Kn}(hi:ρ[i]? = some (some (.sh (.ad m))))(hm:DM n ρ=some C)(hc:C[m]? = some (rC r))(hk:fk ρ=.ok (.str (S k)))(hin:k∈ks r):
  Ga n i fk ρ=.ok .nx (ρ.set n (some (.mh (C.set m (rC (HQ r k)))))):=by
 unfold Ga
 rw [hi]
 simp only [hm,hc,rC]
 rw [hk,FC]
 show (if kN k∈CB r then SOut.ok .nx (ρ.set n (some (.mh (C.set m (.dic (La (CB r) (kN k)) (Gg (CB r) (D4 r) (kN k))))))) else .bad)=_
 rw [if_pos (Ht.mpr hin),fB,Wn]
def LS(r:Row)(L:List Kn):Row:=r.filter fun p=>decide (p.1∉L)
theorem ZU(r:Row):LS r []=r:=by
 unfold LS
 exact List.filter_eq_self.mpr fun p _=>by simp
theorem X6(r:Row)(k:Kn)(L:List Kn):LS (HQ r k) L=LS r (k :: L):=by
 unfold LS HQ
 rw [List.filter_filter]
 refine List.filter_congr fun p _=>?_
 by_cases h:p.1=k <;> by_cases h':p.1∈L <;> simp [h,h']
abbrev QI(d0 d1:Option Lo)(N:List Kn)(s:Int × Int)(sh:Int)(d5 d6:Option Lo)(j:Nat)(Rs:List Row)(x9 x10 x11:Option Lo)(C:List Cell):FD.Env:=[d0,d1,some (.sh (.lst (N.map sD))),some (.sh (DH s)),some (.sh (.int sh)),d5,d6,some (.sh (.ad j)),some (.ol (Rs.map rD)),x9,x10,x11,some (.mh C)]
section
variable {d0 d1 d5 d6:Option Lo} {N:List Kn} {s:Int × Int} {sh:Int} {j:Nat} {Rs:List Row} {x9:Option Lo}
theorem UP{m:Nat}:∀ (L:List Kn) (r:Row) (x:Option Lo) (C:List Cell) (b:Bx),Rw2 C j m b r→L.Nodup→(∀ k∈L,k∈ks r) →
  ∃ (x':Option Lo) (C':List Cell),Rw2 C' j m b (LS r L)∧BA (Ai 11) (Ga 12 10 (Aa 11)) (L.map sD) (QI d0 d1 N s sh d5 d6 j Rs x9 (some (.sh (.ad m))) x C)=.ok .nx (QI d0 d1 N s sh d5 d6 j Rs x9 (some (.sh (.ad m))) x' C')
 | [],r,x,C,b,h,_,_=>⟨x,C,by rw [ZU]; exact h,rfl⟩
 | k :: L,r,x,C,b,h,nd,hk=>by
  obtain ⟨n1,n2⟩:=List.nodup_cons.mp nd
  obtain ⟨x',C',h',e⟩:=UP L (HQ r k) (some (.sh (sD k))) (C.set m (rC (HQ r k))) b (h.put _) n2 fun z hz=>by
   obtain ⟨p,hp,rfl⟩:=List.mem_map.mp (hk z (List.mem_cons_of_mem _ hz))
   exact List.mem_map.mpr ⟨p,List.mem_filter.mpr ⟨hp,decide_eq_true fun e=>n1 (e ▸ hz)⟩,rfl⟩
  refine ⟨x',C',by rw [← X6]; exact h',?_⟩
  have hp:=YI (n:=12) (i:=10) (m:=m) (fk:=Aa 11) (k:=k) (ρ:=QI d0 d1 N s sh d5 d6 j Rs x9 (some (.sh (.ad m))) (some (.sh (sD k))) C) rfl rfl h.rw rfl (hk k List.mem_cons_self)
  unfold QI at hp e
  rw [List.map_cons,Cc]
  unfold QI
  simp! [hp,e]
end
structure Gw (N:List Kn) (w:Nat) (R:List Row):Prop where
 g:GL N R
 n:∀ r∈R,r≠[]
 w:∀ r∈R,r.length≤w
theorem Gw.app{N:List Kn}{w:Nat}{R:List Row}{r:Row}(h:Gw N w R)(g:Gr N r)(n:r≠[])(hw:r.length≤w):Gw N w (R ++ [r]):=
 ⟨fun x hx=>(List.mem_append.mp hx).elim (h.g x) fun z=>by rw [List.mem_singleton.mp z]; exact g,fun x hx=>(List.mem_append.mp hx).elim (h.n x) fun z=>by rw [List.mem_singleton.mp z]; exact n,fun x hx=>(List.mem_append.mp hx).elim (h.w x) fun z=>by rw [List.mem_singleton.mp z]; exact hw⟩
theorem ki(l:List Kn)(w:Nat):cutD (l.map sD) (some (w:Int)) none=(l.drop w).map sD:=by
 unfold cutD
 rw [HT.sIx_nat,HT.sIx_none,List.length_map,← List.map_drop,← List.map_take]
 congr 1
 rcases Nat.le_total w l.length with h | h
 ·rw [Nat.min_eq_left h]
  exact List.take_of_length_le (by rw [List.length_drop]; omega)
 ·rw [Nat.min_eq_right h,List.drop_eq_nil_of_le (Nat.le_refl _),List.drop_eq_nil_of_le h,List.take_nil]
theorem jE{N:List Kn}{r:Row}(g:Gr N r)(h:r≠[]){w:Nat}(hw:1≤w):Gr N (LS r ((ks r).drop w))∧LS r ((ks r).drop w)≠[]∧(LS r ((ks r).drop w)).length≤w:=by
 have hsub:∀ k∈ks (LS r ((ks r).drop w)),k∈(ks r).take w:=fun k hk=>by
  obtain ⟨p,hp,rfl⟩:=List.mem_map.mp hk
  obtain ⟨h1,h2⟩:=List.mem_filter.mp hp
  have h3:p.1∈(ks r).take w ++ (ks r).drop w:=by rw [List.take_append_drop]; exact List.mem_map.mpr ⟨p,h1,rfl⟩
  exact (List.mem_append.mp h3).elim id fun z=>absurd z (of_decide_eq_true h2)
 have hnd:(ks (LS r ((ks r).drop w))).Nodup:=List.Nodup.sublist (List.Sublist.map _ List.filter_sublist) g.nd
 refine ⟨⟨hnd,fun k hk=>g.sub k (List.mem_of_mem_take (hsub k hk))⟩,?_,?_⟩
 ·cases r with
  | nil=>exact absurd rfl h
  | cons p r=>
   refine List.ne_nil_of_mem (a:=p) (List.mem_filter.mpr ⟨List.mem_cons_self,decide_eq_true fun z=>?_⟩)
   obtain ⟨v,rfl⟩:∃ v,w=v + 1:=⟨w - 1,by omega⟩
   have:p.1∈ks r:=List.mem_of_mem_drop (show p.1∈(ks r).drop v from z)
   exact (List.nodup_cons.mp g.nd).1 this
 ·have:=KH hnd hsub
  rw [List.length_take] at this
  have e:(ks (LS r ((ks r).drop w))).length=(LS r ((ks r).drop w)).length:=List.length_map _
  omega
structure Shp (sh:Int) (b w:Nat):Prop where
 hb:atI [Dt.int 2,Dt.int 1,Dt.int 3] sh=some (Dt.int (b:Nat))
 hw:atI [Dt.int 2,Dt.int 3,Dt.int 1] sh=some (Dt.int (w:Nat))
 ho:(b=2∧w=2)∨(b=1∧w=3)∨(b=3∧w=1)
section
variable {d0 d1 d5 d6:Option Lo} {N:List Kn} {s:Int × Int} {sh:Int} {j:Nat}
theorem WA{b w:Nat}(hsh:Shp sh b w)(hs:QF s)(hN:N.length≤20)(hN0:N≠[]):∀ (ds:List Dt) (Rs:List Row) (x9 x10 x11:Option Lo) (C:List Cell) (bx:Bx),C[j]? = some (Jr bx)→bx.n + 100 * ds.length≤700000000→Gw N w Rs→Rs.length + ds.length≤1000 →
  ∃ (Rs':List Row) (x9' x10' x11':Option Lo) (C':List Cell),Gw N w Rs'∧Rs'.length=Rs.length + ds.length∧BA (Ai 9) (Am (Bi 10 (Aw 12 (DX K cs) (xP (Ab (Aa 7) (Ab (Aa 2) (Ab (Aa 3) Ag)))) [7,2,3]) [])
  (Am (A1 (Ai 11) (AB (Nq (eL (HW 12 10)) (Mn (FD.e2 (eL (Eb (Ab (eC (.int 2)) (Ab (eC (.int 3)) (Ab (eC (.int 1)) Ag))))) (Aa 4) AW)) HJ)) []
  (Ga 12 10 (Aa 11)))
  (EW 8 (K2 12 (Aa 10)) []))) ds (QI d0 d1 N s sh d5 d6 j Rs x9 x10 x11 C)=.ok .nx (QI d0 d1 N s sh d5 d6 j Rs' x9' x10' x11' C')
 | [],Rs,x9,x10,x11,C,bx,_,_,g,_=>⟨Rs,x9,x10,x11,C,g,rfl,rfl⟩
 | d :: ds,Rs,x9,x10,x11,C,bx,hb,hn,g,hl=>by
  simp only [List.length_cons] at hn hl
  obtain ⟨r,C1,b1,m,t1,h1,gr,nr,u1⟩:=kP (K:=K) (cs:=cs) hb (by omega) hs hN hN0
  have hw1:1≤w:=by rcases hsh.ho with h | h | h <;> omega
  obtain ⟨x11a,C2,h2,e2⟩:=UP (d0:=d0) (d1:=d1) (N:=N) (s:=s) (sh:=sh) (d5:=d5) (d6:=d6) (Rs:=Rs) (x9:=some (.sh d)) ((ks r).drop w) r x11 C1 b1 h1 (List.Nodup.sublist (List.drop_sublist _ _) gr.nd) fun k hk=>List.mem_of_mem_drop hk
  obtain ⟨g2,n2,l2⟩:=jE gr nr hw1
  obtain ⟨q,hq⟩:∃ q,q=LS r ((ks r).drop w):=⟨_,rfl⟩
  rw [← hq] at h2 g2 n2 l2
  have hj:(C2.set m .gone)[j]? = some (Jr b1):=by rw [List.getElem?_set_ne h2.ne]; exact h2.bx
  obtain ⟨Rs',x9',x10',x11',C',g',hl',e⟩:=WA hsh hs hN hN0 ds (Rs ++ [q]) (some (.sh d)) (some (.sh (.ad m))) x11a (C2.set m .gone) b1 hj (by omega) (g.app g2 n2 l2) (by rw [List.length_append,List.length_singleton]; omega)
  refine ⟨Rs',x9',x10',x11',C',g',by rw [hl',List.length_append,List.length_singleton,List.length_cons]; omega,?_⟩
  have hk:HW 12 10 (QI d0 d1 N s sh d5 d6 j Rs (some (.sh d)) (some (.sh (.ad m))) x11 C1)=.ok ((ks r).map sD):=by
   show FU ((C1[m]?).bind cellK)=_
   rw [h1.rw]
   show Out.ok ((CB r).map I0)=_
   rw [IQ]
  have hf:A1 (Ai 11) (AB (Nq (eL (HW 12 10)) (Mn (FD.e2 (eL (Eb (Ab (eC (.int 2)) (Ab (eC (.int 3)) (Ab (eC (.int 1)) Ag))))) (Aa 4) AW)) HJ)) [] (Ga 12 10 (Aa 11)) (QI d0 d1 N s sh d5 d6 j Rs (some (.sh d)) (some (.sh (.ad m))) x11 C1)=.ok .nx (QI d0 d1 N s sh d5 d6 j Rs (some (.sh d)) (some (.sh (.ad m))) x11a C2):=by
   rw [Ci]
   unfold QI at hk e2 ⊢
   simp! [hk,hsh.hw,ki]
   exact e2
  have hz:K2 12 (Aa 10) (QI d0 d1 N s sh d5 d6 j Rs (some (.sh d)) (some (.sh (.ad m))) x11a C2)=.ok (rD q) (QI d0 d1 N s sh d5 d6 j Rs (some (.sh d)) (some (.sh (.ad m))) x11a (C2.set m .gone)):=by
   show (match ((some C2).bind fun cs=>(cs[m]?).bind fun c=>(gK c).map fun e=>(e,(QI d0 d1 N s sh d5 d6 j Rs (some (.sh d)) (some (.sh (.ad m))) x11a C2).set 12 (some (.mh (cs.set m .gone))))) with
    | some p=>XO.ok p.1 p.2
    | none=>.bad)=_
   rw [Option.bind_some,h2.rw]
   rfl
  have hle:(Rs.map rD).length < 16777216:=by rw [List.length_map]; omega
  have em:Rs.map rD ++ [rD q]=(Rs ++ [q]).map rD:=by rw [List.map_append]; rfl
  have ha:EW 8 (K2 12 (Aa 10)) [] (QI d0 d1 N s sh d5 d6 j Rs (some (.sh d)) (some (.sh (.ad m))) x11a C2)=.ok .nx (QI d0 d1 N s sh d5 d6 j (Rs ++ [q]) (some (.sh d)) (some (.sh (.ad m))) x11a (C2.set m .gone)):=by
   show xE (K2 12 (Aa 10) (QI d0 d1 N s sh d5 d6 j Rs (some (.sh d)) (some (.sh (.ad m))) x11a C2)) _=_
   rw [hz,Ph,FD.F9]
   show (if (Rs.map rD).length < 16777216 then SOut.ok .nx (QI d0 d1 N s sh d5 d6 j Rs (some (.sh d)) (some (.sh (.ad m))) x11a (C2.set m .gone) |>.set 8 (some (.ol (Rs.map rD ++ [rD q])))) else .bad)=_
   rw [if_pos hle,em]
   rfl
  unfold QI at hf ha e
  rw [Cc]
  unfold QI
  simp! [t1,hf,ha]
  exact e
def Vr(G:Kn→List Row)(k:Kn)(R:List Row):Kn→List Row:=fun z=>if z=k then R else G z
theorem Xs(G:Kn→List Row)(k:Kn)(R:List Row):Vr G k R k=R:=if_pos rfl
theorem W2{G:Kn→List Row}{k z:Kn}{R:List Row}(h:z≠k):Vr G k R z=G z:=if_neg h
theorem eI{P:List Kn}{k:Kn}(h:k∉P)(G:Kn→List Row)(R:List Row):CW (P.map kN) (P.map fun k=>CP (G k)) (Sum.inr (S k)) (.lst (R.map rD))=(P ++ [k]).map fun z=>CP (Vr G k R z):=by
 have e:=HP h fun z=>CP (Vr G k R z)
 have e1:(P.map fun z=>CP (Vr G k R z))=P.map fun k=>CP (G k):=List.map_congr_left fun z hz=>by rw [W2 (show z≠k from fun e=>h (e ▸ hz))]
 rw [e1] at e
 have e2:CP (Vr G k R k)=.lst (R.map rD):=by rw [Xs]; rfl
 rw [e2] at e
 exact e
abbrev lx(ns:List Int)(bg:Nat)(N:List Kn)(s:Int × Int)(sh:Int)(P:List Kn)(G:Kn→List Row)(x6 x7 x8 x9 x10 x11:Option Lo)(C:List Cell):FD.Env:=[some (.sh (.fls (ns.map .int))),some (.sh (.int bg)),some (.sh (.lst (N.map sD))),some (.sh (DH s)),some (.sh (.int sh)),some (.od (P.map kN) (P.map fun k=>CP (G k))),x6,x7,x8,x9,x10,x11,some (.mh C)]
def idx:Nat→List Kn→List Dt
 | _,[]=>[]
 | m,_ :: L=>.int (m:Nat) :: idx (m + 1) L
theorem Wr:∀ (L:List Kn) (m:Nat),idx m L=(List.range' m L.length).map fun k:Nat=>.int (k:Int)
 | [],m=>rfl
 | k :: L,m=>by
  rw [List.length_cons,List.range'_succ,List.map_cons,← Wr L (m + 1)]
  rfl
structure Gf (N:List Kn) (b w:Nat) (R:List Row):Prop where
 gw:Gw N w R
 len:R.length≤b
 ne:R≠[]
theorem Uq{ns:List Int}(hns:ns.length≤63){bg:Nat}(hbg:bg≤500){N:List Kn}{s:Int × Int}{sh:Int}{b w:Nat}(hsh:Shp sh b w)(hs:QF s)(hN:N.length≤20)(nd:N.Nodup):∀ (L P:List Kn) (G:Kn→List Row) (x6 x7 x8 x9 x10 x11:Option Lo) (C:List Cell),N=P ++ L →
  ∃ (F:Kn→List Row) (x6' x7' x8' x9' x10' x11':Option Lo) (C':List Cell),(∀ k∈P,F k=G k)∧(∀ k∈L,Gf N b w (F k))∧BA (Ai 6) (Am (Bi 7 (Aw 12 (Bz K cs) (xP (Ab (Aa 0) (Ab (FD.e2 (Aa 1) (Aa 6) AX) Ag))) [0,1,6]) [])
  (Am (Hz 8 (Eb Ag) [])
  (Am (RC (Ai 9) (Ji (Mf (FD.x2 (xP (eC (.int 1))) (Aw 12 (Ao K cs) (xP (Ab (Aa 7) (Ab (FD.e2 (eL (Eb (Ab (eC (.int 2)) (Ab (eC (.int 1)) (Ab (eC (.int 3)) Ag))))) (Aa 4) AW) Ag))) [7,4]) AX) (xP Ag))) []
  (Am (Bi 10 (Aw 12 (DX K cs) (xP (Ab (Aa 7) (Ab (Aa 2) (Ab (Aa 3) Ag)))) [7,2,3]) [])
  (Am (A1 (Ai 11) (AB (Nq (eL (HW 12 10)) (Mn (FD.e2 (eL (Eb (Ab (eC (.int 2)) (Ab (eC (.int 3)) (Ab (eC (.int 1)) Ag))))) (Aa 4) AW)) HJ)) []
  (Ga 12 10 (Aa 11)))
  (EW 8 (K2 12 (Aa 10)) []))))
  (BK 5 (FD.e2 (Aa 2) (Aa 6) AW) (Aa 8) [8])))) (idx P.length L) (lx ns bg N s sh P G x6 x7 x8 x9 x10 x11 C)=.ok .nx (lx ns bg N s sh N F x6' x7' x8' x9' x10' x11' C')
 | [],P,G,x6,x7,x8,x9,x10,x11,C,e=>⟨G,x6,x7,x8,x9,x10,x11,C,fun _ _=>rfl,(fun k hk=>nomatch hk),by rw [e,List.append_nil]; rfl⟩
 | k :: L,P,G,x6,x7,x8,x9,x10,x11,C,eN=>by
  have hk:k∉P:=fun z=>by
   rw [eN] at nd
   exact (List.nodup_append.mp nd).2.2 k z k List.mem_cons_self rfl
  have hkN:N≠[]:=by rw [eN]; simp
  have hPl:P.length < N.length:=by
   have:=congrArg List.length eN
   rw [List.length_append,List.length_cons] at this
   omega
  obtain ⟨bx,t1,hbn⟩:=WV (K:=K) (cs:=cs) ns (k:=bg + P.length) (by omega) hns C
  have hbx:(C ++ [Jr bx])[C.length]? = some (Jr bx):=by simp
  have hb1:1≤b:=by rcases hsh.ho with h | h | h <;> omega
  have hb3:b≤3:=by rcases hsh.ho with h | h | h <;> omega
  obtain ⟨v,C1,b1,t2,v0,v1,s1⟩:=JN (K:=K) (cs:=cs) hbx (by omega) (s:=(b:Nat)) (by omega) (by omega)
  have u1:=s1.up
  obtain ⟨c,hc⟩:∃ c:Nat,c=(1 + v).toNat:=⟨_,rfl⟩
  have hc1:1≤c:=by omega
  have hcb:c≤b:=by omega
  obtain ⟨Rs,x9',x10',x11',C2,gw,hl,e2⟩:=WA (K:=K) (cs:=cs) (d0:=some (.sh (.fls (ns.map .int)))) (d1:=some (.sh (.int bg))) (d5:=some (.od (P.map kN) (P.map fun k=>CP (G k)))) (d6:=some (.sh (.int (P.length:Nat)))) (j:=C.length) hsh hs hN hkN (Ik 0 c) [] x9 x10 x11 C1 b1 s1.OF (by rw [Fb]; omega) ⟨fun r hr=>(nomatch hr),fun r hr=>(nomatch hr),fun r hr=>(nomatch hr)⟩ (by rw [Fb,List.length_nil]; omega)
  rw [Fb,List.length_nil] at hl
  obtain ⟨F,x6',x7',x8',x9'',x10'',x11'',C',hF1,hF2,e⟩:=Uq hns hbg hsh hs hN nd L (P ++ [k]) (Vr G k Rs) (some (.sh (.int (P.length:Nat)))) (some (.sh (.ad C.length))) (some (.sh (.lst (Rs.map rD)))) x9' x10' x11' C2 (by rw [List.append_assoc]; exact eN)
  refine ⟨F,x6',x7',x8',x9'',x10'',x11'',C',fun z hz=>?_,fun z hz=>?_,?_⟩
  ·rw [hF1 z (List.mem_append_left _ hz),W2 (show z≠k from fun e=>hk (e ▸ hz))]
  ·rcases List.mem_cons.mp hz with e | hz
   ·rw [e,hF1 k (List.mem_append_right _ List.mem_cons_self),Xs]
    exact ⟨gw,by omega,fun z=>by rw [z] at hl; simp at hl; omega⟩
   ·exact hF2 z hz
  ·have hs1:ED (1 + v)=true:=JC (by omega) (by omega)
   have ha:(bg:Int) + ((P.length:Nat):Int)=((bg + P.length:Nat):Int):=by omega
   have hix:atI (N.map sD) ((P.length:Nat):Int)=some (.str (S k)):=by
    rw [Tz (f:=sD) hPl]
    have:N[P.length]=k:=by simp [eN]
    rw [this]
    rfl
   have hfx:BA (Ai 9) (Am (Bi 10 (Aw 12 (DX K cs) (xP (Ab (Aa 7) (Ab (Aa 2) (Ab (Aa 3) Ag)))) [7,2,3]) [])
  (Am (A1 (Ai 11) (AB (Nq (eL (HW 12 10)) (Mn (FD.e2 (eL (Eb (Ab (eC (.int 2)) (Ab (eC (.int 3)) (Ab (eC (.int 1)) Ag))))) (Aa 4) AW)) HJ)) []
  (Ga 12 10 (Aa 11)))
  (EW 8 (K2 12 (Aa 10)) []))) (Ik 0 c) [some (.sh (.fls (ns.map .int))),some (.sh (.int bg)),some (.sh (.lst (N.map sD))),some (.sh (DH s)),some (.sh (.int sh)),some (.od (P.map kN) (P.map fun k=>CP (G k))),some (.sh (.int (P.length:Nat))),some (.sh (.ad C.length)),some (.ol []),x9,x10,x11,some (.mh C1)]=_:=e2
   have pk:=HS hk
   have pv:=eI hk G Rs
   have hlen:(P.map kN).length < 16777216:=map_len P kN (by omega)
   rw [List.length_append,List.length_singleton] at e
   have ei:idx P.length (k :: L)=.int (P.length:Nat) :: idx (P.length + 1) L:=rfl
   rw [ei,Cc]
   unfold lx at e ⊢
   unfold QI at hfx
   simp! [ha,t1,hsh.hb,t2,I7,hs1,← hc,hfx,hix,pk,pv,hlen,e,FD.Ey]
theorem dM{ns:List Int}(hns:ns.length≤63){bg:Nat}(hbg:bg≤500){N:List Kn}{s:Int × Int}{sh:Int}{b w:Nat}(hsh:Shp sh b w)(hs:QF s)(hN:N.length≤20)(nd:N.Nodup):
  ∃ F:Kn→List Row,(∀ k∈N,Gf N b w (F k))∧CY K cs [.fls (ns.map .int),.int bg,.lst (N.map sD),DH s,.int sh]=.ok (By N F):=by
 have ed:CY K cs [.fls (ns.map .int),.int bg,.lst (N.map sD),DH s,.int sh]=Pu 12 (GF K cs) [.fls (ns.map .int),.int bg,.lst (N.map sD),DH s,.int sh]:=AE rfl
 rw [ed]
 unfold GF
 obtain ⟨F,x6,x7,x8,x9,x10,x11,C,_,h,e⟩:=Uq (K:=K) (cs:=cs) hns hbg hsh hs hN nd N [] (fun _=>[]) none none none none none none [] rfl
 refine ⟨F,h,?_⟩
 have er:Ik 0 N.length=idx 0 N:=by rw [Wr,R9,List.range_eq_range']
 have gl:BO [.lst (N.map sD)]=some (.int (N.length:Nat)):=by rw [GY,List.length_map]
 have hs1:ED (N.length:Int)=true:=JC (by omega) (by omega)
 have hf:A1 (Ai 6) (Cj (Ab (eB BO (Ab (Aa 2) Ag)) Ag)) [] (Am (Bi 7 (Aw 12 (Bz K cs) (xP (Ab (Aa 0) (Ab (FD.e2 (Aa 1) (Aa 6) AX) Ag))) [0,1,6]) [])
  (Am (Hz 8 (Eb Ag) [])
  (Am (RC (Ai 9) (Ji (Mf (FD.x2 (xP (eC (.int 1))) (Aw 12 (Ao K cs) (xP (Ab (Aa 7) (Ab (FD.e2 (eL (Eb (Ab (eC (.int 2)) (Ab (eC (.int 1)) (Ab (eC (.int 3)) Ag))))) (Aa 4) AW) Ag))) [7,4]) AX) (xP Ag))) []
  (Am (Bi 10 (Aw 12 (DX K cs) (xP (Ab (Aa 7) (Ab (Aa 2) (Ab (Aa 3) Ag)))) [7,2,3]) [])
  (Am (A1 (Ai 11) (AB (Nq (eL (HW 12 10)) (Mn (FD.e2 (eL (Eb (Ab (eC (.int 2)) (Ab (eC (.int 3)) (Ab (eC (.int 1)) Ag))))) (Aa 4) AW)) HJ)) []
  (Ga 12 10 (Aa 11)))
  (EW 8 (K2 12 (Aa 10)) []))))
  (BK 5 (FD.e2 (Aa 2) (Aa 6) AW) (Aa 8) [8])))) [some (.sh (.fls (ns.map .int))),some (.sh (.int bg)),some (.sh (.lst (N.map sD))),some (.sh (DH s)),some (.sh (.int sh)),some (.od [] []),none,none,none,none,none,none,some (.mh [])]=.ok .nx (lx ns bg N s sh N F x6 x7 x8 x9 x10 x11 C):=by
  rw [Ci]
  simp! [gl,I7,hs1,Int.toNat_natCast,er]
  exact e
 unfold Pu
 have hna:Dt.HY [.fls (ns.map .int),.int bg,.lst (N.map sD),DH s,.int sh]=true:=by
  have h1:(Dt.fls (ns.map .int)).na=true:=by
   rw [Dt.na]
   exact FN (fun _=>rfl) ns
  have h2:(Dt.lst (N.map sD)).na=true:=by
   rw [Dt.na]
   exact FN (fun _=>rfl) N
  rw [Dt.HY,h1,Dt.HY,Dt.HY,h2]
  rfl
 rw [if_pos hna]
 unfold lx at hf
 have hnr:(Dt.dic (N.map kN) (N.map fun k=>CP (F k))).na=true:=Zq N F
 simp! [hf,Fd,hnr]
 rfl
end
theorem Tg{N P L:List Kn}(h:N=P ++ L)(hN:N.length≤20):(P.map kN).length < 16777216:=map_len P kN (Oe h hN)
theorem jO{P:List Kn}{k:Kn}(h:k∉P)(F:Kn→List Row):CW (P.map kN) (P.map fun k=>CP (F k)) (Sum.inr (S k)) (.lst ((F k).map rD))=(P ++ [k]).map fun k=>CP (F k):=HP h fun k=>CP (F k)
theorem MX{u:Dt→FD.Env→Option FD.Env}{b:FD.Env→SOut}{E:List Kn→FD.Env→Prop}{A:List Kn}(nd:A.Nodup)(step:∀ P k L ρ,A=P ++ k :: L→k∉P→k∈A→E P ρ→∃ ρ1 ρ2,u (sD k) ρ=some ρ1∧b ρ1=.ok .nx ρ2∧E (P ++ [k]) ρ2):
  ∀ (L P:List Kn) (ρ:FD.Env),A=P ++ L→E P ρ→∃ ρ',BA u b (L.map sD) ρ=.ok .nx ρ'∧E A ρ'
 | [],P,ρ,e,h=>⟨ρ,rfl,by rw [e,List.append_nil]; exact h⟩
 | k :: L,P,ρ,e,h=>by
  have hk:k∉P:=fun z=>by
   rw [e] at nd
   exact (List.nodup_append.mp nd).2.2 k z k List.mem_cons_self rfl
  obtain ⟨ρ1,ρ2,h1,h2,h3⟩:=step P k L ρ e hk (by rw [e]; exact List.mem_append_right _ List.mem_cons_self) h
  obtain ⟨ρ',h4,h5⟩:=MX nd step L (P ++ [k]) ρ2 (by rw [List.append_assoc]; exact e) h3
  exact ⟨ρ',by rw [List.map_cons,HL h1,h2]; exact h4,h5⟩
theorem ik{N:List Kn}{F:Kn→List Row}(nd:N.Nodup)(hN:N.length≤20)(hl:∀ k∈N,(F k).length≤1000):Ct K cs [By N F]=.ok (By N F):=by
 have ed:Ct K cs [By N F]=Ax 4 (HB K cs) [By N F]:=AE rfl
 rw [ed]
 unfold HB
 obtain ⟨x',e⟩:=Fw (u:=Ai 2) (b:=(BK 1 (Aa 2) (eL (Fi (Ai 3) [3] AK (eB I9 (Ab (Aa 3) Ag)) (AB (FD.e2 (Aa 0) (Aa 2) AH)) [0,2])) [0,2,3,3])) (mk:=fun P x=>[some (.sh (By N F)),some (.od (P.map kN) (P.map fun k=>CP (F k))),x,none]) nd (fun P k L x eA hk hkA=>by
  refine ⟨[some (.sh (By N F)),some (.od (P.map kN) (P.map fun k=>CP (F k))),some (.sh (sD k)),none],some (.sh (sD k)),rfl,?_⟩
  have ga:AH (By N F) (sD k)=some (CP (F k)):=RZ hkA
  have hi:(Fi (Ai 3) [3] AK (eB I9 (Ab (Aa 3) Ag)) (AB (FD.e2 (Aa 0) (Aa 2) AH)) [0,2]) [some (.sh (By N F)),some (.od (P.map kN) (P.map fun k=>CP (F k))),some (.sh (sD k)),none]=.ok ((F k).map rD):=by
   refine DB (e:=rD) (by rw [DS]; simp! [ga]; rfl) (by have:=hl k hkA; omega) fun r hr=>⟨[some (.sh (By N F)),some (.od (P.map kN) (P.map fun k=>CP (F k))),some (.sh (sD k)),some (.sh (rD r))],rfl,?_⟩
   have gd:I9 [rD r]=some (rD r):=rfl
   simp! [gd]
  have pk:=HS hk
  have pv:=jO hk F
  have hlen:=Tg eA hN
  unfold sD at ga hi ⊢
  simp! [ga,hi,pk,pv,hlen,FD.Ey]) N [] none rfl
 have hf:=Se (i:=0) (A:=N) (ρ:=[some (.sh (By N F)),some (.od [] []),none,none]) rfl rfl e
 simp! [hf,Fd]
 rfl
theorem P6{d0:Option Lo}{q:Row}{sx:Int}(nq:(ks q).Nodup):∀ (b acc:Row) (x4 x5:Option Lo),(∀ p∈b,p∈q)→acc.length + b.length≤1000→∃ x4' x5',BA (Ai 4) (Am (A8 5 (FD.e2 (FD.e2 (Aa 1) (Aa 4) AH) (Aa 2) AX) [1,4,2])
  (CF (CD (FD.t2 (Aa 4) (Aa 3) (CT Dk)) (FD.t2 (FD.e2 (Aa 3) (Aa 4) AH) (Aa 5) (cI fun i j=>decide (i < j)))) (BK 3 (Aa 4) (Aa 5) [5]) Ar)) ((ks b).map sD) [d0,some (.sh (rD q)),some (.sh (.int sx)),some (.od (CB acc) (D4 acc)),x4,x5]=.ok .nx [d0,some (.sh (rD q)),some (.sh (.int sx)),some (.od (CB (A3 acc (Dw sx b))) (D4 (A3 acc (Dw sx b)))),x4',x5']
 | [],acc,x4,x5,_,_=>⟨x4,x5,rfl⟩
 | p :: b,acc,x4,x5,hb,hl=>by
  simp only [List.length_cons] at hl
  have lp:=Oh acc p.1 (p.2 + sx)
  have ls:(Ce acc (p.1,p.2 + sx)).length≤acc.length + 1:=by
   unfold Ce
   split
   ·split
    ·exact lp
    ·omega
   ·exact lp
  obtain ⟨x4',x5',e⟩:=P6 (sx:=sx) (d0:=d0) nq b (Ce acc (p.1,p.2 + sx)) (some (.sh (.str (S p.1)))) (some (.sh (.int (p.2 + sx)))) (fun z hz=>hb z (List.mem_cons_of_mem _ hz)) (by omega)
  refine ⟨x4',x5',?_⟩
  have em:A3 acc (Dw sx (p :: b))=A3 (Ce acc (p.1,p.2 + sx)) (Dw sx b):=rfl
  have g0:AH (rD q) (.str (S p.1))=some (.int p.2):=by
   rw [Y6,K1 nq (hb p List.mem_cons_self)]
   rfl
  have gi:Dk (.str (S p.1)) (.dic (CB acc) (D4 acc))=some (decide (p.1∈ks acc)):=kY acc p.1
  have ga:AH (.dic (CB acc) (D4 acc)) (.str (S p.1))=(gt acc p.1).map .int:=Y6 acc p.1
  have pk:Es (CB acc) (Sum.inr (S p.1))=CB (Dy acc p.1 (p.2 + sx)):=O1 acc p.1 (p.2 + sx)
  have pv:CW (CB acc) (D4 acc) (Sum.inr (S p.1)) (.int (p.2 + sx))=D4 (Dy acc p.1 (p.2 + sx)):=PB acc p.1 (p.2 + sx)
  have hkl:(CB acc).length < 16777216:=by rw [I4]; omega
  have gi':decide (Sum.inr (S p.1)∈CB acc)=decide (p.1∈ks acc):=decide_eq_decide.mpr Ht
  rw [em,show (ks (p :: b)).map sD=Dt.str (S p.1) :: (ks b).map sD from rfl,Cc]
  cases hg:gt acc p.1 with
  | none=>
   have hk:p.1∉ks acc:=Kx.mp hg
   have es:Ce acc (p.1,p.2 + sx)=Dy acc p.1 (p.2 + sx):=by unfold Ce; rw [hg]
   rw [es] at e
   rw [decide_eq_false hk] at gi gi'
   rw [es]
   simp! [g0,gi,gi',pk,pv,hkl,FD.DZ,e]
  | some y=>
   have hk:p.1∈ks acc:=BH (G9 hg)
   rw [decide_eq_true hk] at gi gi'
   rw [hg] at ga
   by_cases hy:y < p.2 + sx
   ·have es:Ce acc (p.1,p.2 + sx)=Dy acc p.1 (p.2 + sx):=by unfold Ce; rw [hg]; exact if_pos hy
    rw [es] at e
    rw [es]
    simp! [g0,gi,gi',ga,hy,decide_true,pk,pv,hkl,FD.DZ,e]
   ·have es:Ce acc (p.1,p.2 + sx)=acc:=by unfold Ce; rw [hg]; exact if_neg hy
    rw [es] at e
    rw [es]
    simp! [g0,gi,gi',ga,hy,decide_false,e]
theorem YA{a b:Row}(sx:Int)(nb:(ks b).Nodup)(hl:a.length + b.length≤1000):Cr K cs [rD a,rD b,.int sx]=.ok (rD (A3 a (Dw sx b))):=by
 have ed:Cr K cs [rD a,rD b,.int sx]=Ax 6 (FJ K cs) [rD a,rD b,.int sx]:=AE rfl
 rw [ed]
 unfold FJ
 obtain ⟨x4,x5,e⟩:=P6 (sx:=sx) (d0:=some (.sh (rD a))) nb b a none none (fun _ h=>h) hl
 have hd:Lm 3 (Ab (Aa 0) Ag) [0] [some (.sh (rD a)),some (.sh (rD b)),some (.sh (.int sx)),none,none,none]=.ok .nx [some (.sh (rD a)),some (.sh (rD b)),some (.sh (.int sx)),some (.od (CB a) (D4 a)),none,none]:=by
  show (if Dt.DK (D4 a)=true then _ else _)=_
  rw [if_pos (Xe a)]
  rfl
 have hf:=R8 (i:=1) (r:=b) (ρ:=[some (.sh (rD a)),some (.sh (rD b)),some (.sh (.int sx)),some (.od (CB a) (D4 a)),none,none]) rfl rfl e
 simp! [hd,hf,Fd]
 rfl
theorem YQ{A B:List Kn}(ha:∀ k∈A,Nm k)(hb:∀ k∈B,Nm k):Nv (.tup (A.map sD)) (.tup (B.map sD))=some (decide (A=B)):=by
 have sh:∀ A:List Kn,(∀ k∈A,Nm k)→SeqAt.shaped (.tuple (A.map sP))=true:=fun A h=>by
  have h2:=KA (g:=sP) (n:=0) (fun k=>by simp [sP,PyData.depth]) A
  unfold SeqAt.shaped
  rw [decide_eq_true (by rw [PyData.depth]; omega),Bool.and_true,PyData.canLay0]
  exact IK fun k hk=>We (h k hk)
 show Vo _ _=_
 unfold Vo Dt.py
 rw [Ed (f:=sD) (g:=sP) A fun _ _=>rfl,Ed (f:=sD) (g:=sP) B fun _ _=>rfl]
 simp only [Option.map_some,Option.bind_some]
 rw [if_pos ⟨sh A ha,sh B hb⟩,PyData.eqv,Kr Ov]
theorem lE{A:List Kn}{f:Kn→List Row}(hA:A.length≤20){ρ:FD.Env}{fo:FD.Env→Out Dt}(h:fo ρ=.ok (Ap cs A f)):RI (Fq K cs) (Ab fo Ag) ρ=.ok (.int (A.length:Nat)):=by
 unfold RI
 rw [G5,h]
 have el:List.lookup cs.c_Map (Fq K cs)=some (DQ K cs):=by simp [List.lookup]
 show (match List.lookup cs.c_Map (Fq K cs) with
  | some ψ=>W9 (ψ [Ap cs A f])
  | none=>Out.bad)=_
 rw [el]
 simp only
 rw [jP]
 unfold W9
 simp only
 rw [if_pos (by omega)]
theorem O2{N A:List Kn}{f R:Kn→List Row}{x3:Option Lo}:∀ (L:List Kn) (x:Option Lo),(∀ k∈L,k∈A∧k∈N∧Lr (R k)∧f k=nf (R k))→∃ x',BA (Ai 4) (CF (CD (FD.t1 (MD (AV K cs) true (Aa 4) (Aa 0)) A2) (A6 (FD.t1 (Al (Dd K cs) (Ab (DT (Lw K cs) "form" (Aa 0) (Ab (Aa 4) Ag)) (Ab (FD.e2 (Aa 1) (Aa 4) AH) Ag))) A2))) (AA (eC (.bl false)) []) Ar) (L.map sD) [some (.sh (Ap cs A f)),some (.sh (By N R)),some (.sh (.tup (A.map sD))),x3,x]=.ok .nx [some (.sh (Ap cs A f)),some (.sh (By N R)),some (.sh (.tup (A.map sD))),x3,x']
 | [],x,_=>⟨x,rfl⟩
 | k :: L,x,h=>by
  obtain ⟨hA,hN,hR,hf⟩:=h k List.mem_cons_self
  obtain ⟨x',e⟩:=O2 (x3:=x3) L (some (.sh (sD k))) fun z hz=>h z (List.mem_cons_of_mem _ hz)
  have t1:=So (K:=K) (cs:=cs) (A:=A) (f:=f) (k:=k) (fa:=Aa 4) (fb:=Aa 0) (ρ:=[some (.sh (Ap cs A f)),some (.sh (By N R)),some (.sh (.tup (A.map sD))),x3,some (.sh (sD k))]) rfl rfl
  rw [decide_eq_true hA] at t1
  have t2:DT (Lw K cs) "form" (Aa 0) (Ab (Aa 4) Ag) [some (.sh (Ap cs A f)),some (.sh (By N R)),some (.sh (.tup (A.map sD))),x3,some (.sh (sD k))]=.ok (tD (nf (R k))):=
   (Rj (m:=Str.ofString "form") (ψ:=Fv K cs) (fo:=Aa 0) (fs:=Ab (Aa 4) Ag) (C:=cs.c_Map) (as:=[sD k]) rfl (by decide) rfl).trans (by rw [← hf]; exact jl f hA)
  have ga:AH (By N R) (sD k)=some (CP (R k)):=RZ hN
  have t3:Dd K cs [tD (nf (R k)),CP (R k)]=.ok (.bl true):=Xx hR
  refine ⟨x',?_⟩
  rw [List.map_cons,Cc]
  simp! [t1,t2,ga,t3,e]
theorem LO{N A:List Kn}{f R:Kn→List Row}(hA:As A)(eA:kO.sort N=A)(hm:∀ k∈A,Nm k)(h:∀ k∈A,Lr (R k)∧f k=nf (R k)):A4 K cs [Ap cs A f,By N R]=.ok (.bl true):=by
 have ed:A4 K cs [Ap cs A f,By N R]=Ax 5 (Gy K cs) [Ap cs A f,By N R]:=AE rfl
 rw [ed]
 unfold Gy
 have hAN:∀ k∈A,k∈N:=fun k hk=>(kO.Bb N).mem_iff.mp (by rw [eA]; exact hk)
 obtain ⟨x',e⟩:=O2 (K:=K) (cs:=cs) (N:=N) (A:=A) (f:=f) (R:=R) (x3:=some (.sh (.tup (A.map sD)))) A none fun k hk=>⟨hk,hAN k hk,(h k hk).1,(h k hk).2⟩
 have gk:=W5 N R
 have hn:DT (CJ K cs) "names" (Aa 0) Ag [some (.sh (Ap cs A f)),some (.sh (By N R)),some (.sh (.tup (A.map sD))),none,none]=.ok (.tup (A.map sD)):=Ic rfl
 have hl:RI (Fq K cs) (Ab (Aa 0) Ag) [some (.sh (Ap cs A f)),some (.sh (By N R)),some (.sh (.tup (A.map sD))),some (.sh (.tup (A.map sD))),none]=.ok (.int (A.length:Nat)):=lE hA.l rfl
 have q1:QA (.tup (A.map sD)) (.tup (A.map sD))=some false:=by
  have:=VZ (YQ hm hm)
  rw [decide_eq_true rfl] at this
  exact this
 have gl:BO [.tup (A.map sD)]=some (.int (A.length:Nat)):=by rw [Md,List.length_map]
 have hf:A1 (Ai 4) (AB (Aa 2)) [2] (CF (CD (FD.t1 (MD (AV K cs) true (Aa 4) (Aa 0)) A2) (A6 (FD.t1 (Al (Dd K cs) (Ab (DT (Lw K cs) "form" (Aa 0) (Ab (Aa 4) Ag)) (Ab (FD.e2 (Aa 1) (Aa 4) AH) Ag))) A2))) (AA (eC (.bl false)) []) Ar) [some (.sh (Ap cs A f)),some (.sh (By N R)),some (.sh (.tup (A.map sD))),some (.sh (.tup (A.map sD))),none]=.ok .nx [some (.sh (Ap cs A f)),some (.sh (By N R)),some (.sh (.tup (A.map sD))),some (.sh (.tup (A.map sD))),x']:=e
 have hz:∀ (lk:List Nat) (ρ:FD.Env),lk.all (He ρ)=true→AL (.tup (A.map sD)) lk ρ=ρ:=fun lk ρ h=>FI h
 have hb:((A.length:Int) == (A.length:Int))=true:=beq_self_eq_true _
 simp! [Jl,gk,Iq,eA,hn,q1,hl,gl,hb,hf]
theorem JS{N:List Kn}{F:Kn→List Row}{P:Row}{pt:Kn→Int}(nd:N.Nodup)(hN:N.length≤20)(hF:∀ k∈N,Lr (F k))(sub:∀ k∈N,∀ r∈F k,∀ j∈ks r,gt P j=some (pt j)):AG K cs [By N F,rD P]=.ok (rD (Ei N F pt)):=by
 have ed:AG K cs [By N F,rD P]=Ax 6 (GD K cs) [By N F,rD P]:=AE rfl
 rw [ed]
 unfold GD
 obtain ⟨x',e⟩:=Fw (u:=Ai 3) (b:=(BK 2 (Aa 3) (eB K5 (Ab (eL (Fi (Ai 4) [4] AK (eB Jo (Ab (eL (P0 4 (Ai 5) [5] AK (FD.e2 (FD.e2 (Aa 1) (Aa 5) AH) (FD.e2 (Aa 4) (Aa 5) AH) AX))) Ag)) (AB (FD.e2 (Aa 0) (Aa 3) AH)) [0,3])) Ag)) [])) (mk:=fun Q x=>[some (.sh (By N F)),some (.sh (rD P)),some (.od (Q.map kN) (Q.map fun k=>.int (vl (F k) pt))),x,none,none]) nd (fun Q k L x eA hk hkA=>by
  refine ⟨[some (.sh (By N F)),some (.sh (rD P)),some (.od (Q.map kN) (Q.map fun k=>.int (vl (F k) pt))),some (.sh (sD k)),none,none],some (.sh (sD k)),rfl,?_⟩
  have ga:AH (By N F) (sD k)=some (CP (F k)):=RZ hkA
  have h:=hF k hkA
  have hi:Fi (Ai 4) [4] AK (eB Jo (Ab (eL (P0 4 (Ai 5) [5] AK (FD.e2 (FD.e2 (Aa 1) (Aa 5) AH) (FD.e2 (Aa 4) (Aa 5) AH) AX))) Ag)) (AB (FD.e2 (Aa 0) (Aa 3) AH)) [0,3] [some (.sh (By N F)),some (.sh (rD P)),some (.od (Q.map kN) (Q.map fun k=>.int (vl (F k) pt))),some (.sh (sD k)),none,none]=.ok ((F k).map fun r=>.int (mx r pt)):=by
   refine DB (e:=rD) (by rw [DS]; simp! [ga]; rfl) (by have:=h.l; omega) fun r hr=>⟨[some (.sh (By N F)),some (.sh (rD P)),some (.od (Q.map kN) (Q.map fun k=>.int (vl (F k) pt))),some (.sh (sD k)),some (.sh (rD r)),none],rfl,?_⟩
   have hc:P0 4 (Ai 5) [5] AK (FD.e2 (FD.e2 (Aa 1) (Aa 5) AH) (FD.e2 (Aa 4) (Aa 5) AH) AX) [some (.sh (By N F)),some (.sh (rD P)),some (.od (Q.map kN) (Q.map fun k=>.int (vl (F k) pt))),some (.sh (sD k)),some (.sh (rD r)),none]=.ok (r.map fun p=>.int (pt p.1 + p.2)):=by
    refine TR (r:=r) rfl (by have:=h.r r hr; omega) fun p hp=>⟨[some (.sh (By N F)),some (.sh (rD P)),some (.od (Q.map kN) (Q.map fun k=>.int (vl (F k) pt))),some (.sh (sD k)),some (.sh (rD r)),some (.sh (sD p.1))],rfl,?_⟩
    have g1:AH (rD r) (sD p.1)=some (.int p.2):=by
     have:=Y6 r p.1
     rw [K1 (h.nd r hr) hp] at this
     exact this
    have g2:AH (rD P) (sD p.1)=some (.int (pt p.1)):=by
     have:=Y6 P p.1
     rw [sub k hkA r hr p.1 (BH hp)] at this
     exact this
    simp! [g1,g2]
   simp! [hc,TM (fun p:Kn × Int=>pt p.1 + p.2) (h.nn r hr)]
   rfl
  have pk:=HS hk
  have pv:CW (Q.map kN) (Q.map fun k=>.int (vl (F k) pt)) (Sum.inr (S k)) (.int (Pp ((F k).map fun r=>mx r pt)))=(Q ++ [k]).map fun k=>.int (vl (F k) pt):=HP hk fun k=>.int (vl (F k) pt)
  have hlen:=Tg eA hN
  unfold sD at ga hi ⊢
  simp! [hi,TU (fun r:Row=>mx r pt) h.ne,pk,pv,hlen]) N [] none rfl
 have hf:=Se (i:=0) (A:=N) (ρ:=[some (.sh (By N F)),some (.sh (rD P)),some (.od [] []),none,none,none]) rfl rfl e
 rw [aY]
 simp! [hf,Fd]
theorem OI{j:Nat}{N:List Kn}:∀ (L:List Kn) (P:Row) (x:Option Lo) (C:List Cell) (b:Bx),C[j]? = some (Jr b)→b.n + L.length≤900000000→P.length + L.length≤1000→(ks P ++ L).Nodup →
  ∃ (P':Row) (x':Option Lo) (C':List Cell) (b':Bx),At C C' j b b' L.length∧ks P'=ks P ++ L∧BA (Ai 3) (IL 2 (Aa 3) (FD.x2 (Aw 4 (Ao K cs) (xP (Ab (Aa 0) (Ab (eC (.int 61)) Ag))) [0]) (xP (eC (.int 30))) (QX (· - ·))) []) (L.map sD) [some (.sh (.ad j)),some (.sh (.lst (N.map sD))),some (.od (CB P) (D4 P)),x,some (.mh C)]=.ok .nx [some (.sh (.ad j)),some (.sh (.lst (N.map sD))),some (.od (CB P') (D4 P')),x',some (.mh C')]
 | [],P,x,C,b,hb,_,_,_=>⟨P,x,C,b,At.refl hb,(List.append_nil _).symm,rfl⟩
 | k :: L,P,x,C,b,hb,hn,hl,nd=>by
  simp only [List.length_cons] at hn hl
  obtain ⟨v,C1,b1,t1,v0,v1,s1⟩:=JN (K:=K) (cs:=cs) hb (by omega) (s:=61) (by decide) (by decide)
  have u1:=s1.up
  have hk:k∉ks P:=fun z=>(List.nodup_append.mp nd).2.2 k z k List.mem_cons_self rfl
  have hks:ks (Dy P k (v - 30))=ks P ++ [k]:=by rw [Pg,if_neg hk]
  have lp:=Oh P k (v - 30)
  obtain ⟨P',x',C',b',s2,hP,e⟩:=OI (N:=N) L (Dy P k (v - 30)) (some (.sh (sD k))) C1 b1 s1.OF (by omega) (by omega) (by rw [hks,List.append_assoc]; exact nd)
  refine ⟨P',x',C',b',(s1.trans s2).mono (by rw [List.length_cons]; omega),by rw [hP,hks,List.append_assoc]; rfl,?_⟩
  have hf:(FD.x2 (Aw 4 (Ao K cs) (xP (Ab (Aa 0) (Ab (eC (.int 61)) Ag))) [0]) (xP (eC (.int 30))) (QX (· - ·))) [some (.sh (.ad j)),some (.sh (.lst (N.map sD))),some (.od (CB P) (D4 P)),some (.sh (sD k)),some (.mh C)]=.ok (.int (v - 30)) [some (.sh (.ad j)),some (.sh (.lst (N.map sD))),some (.od (CB P) (D4 P)),some (.sh (sD k)),some (.mh C1)]:=by
   simp! [t1]
  have hp:(IL 2 (Aa 3) (FD.x2 (Aw 4 (Ao K cs) (xP (Ab (Aa 0) (Ab (eC (.int 61)) Ag))) [0]) (xP (eC (.int 30))) (QX (· - ·))) []) [some (.sh (.ad j)),some (.sh (.lst (N.map sD))),some (.od (CB P) (D4 P)),some (.sh (sD k)),some (.mh C)]=.ok .nx [some (.sh (.ad j)),some (.sh (.lst (N.map sD))),some (.od (CB (Dy P k (v - 30))) (D4 (Dy P k (v - 30)))),some (.sh (sD k)),some (.mh C1)]:=putX (k:=k) hf rfl rfl (by omega)
  rw [List.map_cons,Cc]
  simp! [hp,e]
theorem OO{j:Nat}{N:List Kn}{C:List Cell}{b:Bx}(hb:C[j]? = some (Jr b))(hn:b.n≤100000000)(nd:N.Nodup)(hN:N.length≤20):∃ (P:Row) (C':List Cell) (b':Bx),A5 K cs [.ad j,.lst (N.map sD)] C=.ok (rD P) C'∧ks P=N.reverse∧C'[j]? = some (Jr b')∧b'.n≤b.n + 20:=by
 have ed:A5 K cs [.ad j,.lst (N.map sD)] C=runM 4 (DI K cs) [.ad j,.lst (N.map sD)] C:=E7 rfl
 rw [ed]
 unfold DI
 obtain ⟨P,x,C',b',s,hP,e⟩:=OI (K:=K) (cs:=cs) (j:=j) (N:=N) N.reverse [] none C b hb (by rw [List.length_reverse]; omega) (by rw [List.length_reverse,List.length_nil]; omega) (by rw [show ks ([]:Row)=[] from rfl,List.nil_append]; exact (List.reverse_perm N).nodup_iff.mpr nd)
 have us:=s.up
 rw [List.length_reverse] at us
 refine ⟨P,C',b',?_,hP,s.OF,by omega⟩
 have hf:A1 (Ai 3) (AB (eL (fJ (Aa 1)))) [1] (IL 2 (Aa 3) (FD.x2 (Aw 4 (Ao K cs) (xP (Ab (Aa 0) (Ab (eC (.int 61)) Ag))) [0]) (xP (eC (.int 30))) (QX (· - ·))) []) [some (.sh (.ad j)),some (.sh (.lst (N.map sD))),some (.od [] []),none,some (.mh C)]=.ok .nx [some (.sh (.ad j)),some (.sh (.lst (N.map sD))),some (.od (CB P) (D4 P)),x,some (.mh C')]:=by
  rw [Ci]
  simp! [KL,GS]
  rw [← List.map_reverse]
  exact e
 simp! [hf,Fd]
 rfl
theorem JK(A:List Kn)(f:Kn→List Row)(pt:Kn→Int):ks (Ei A f pt)=A:=by
 unfold ks Ei
 rw [List.map_map]
 exact List.map_id _
theorem SQ{A:List Kn}(nd:A.Nodup)(f:Kn→List Row)(pt:Kn→Int){k:Kn}(hk:k∈A):gt (Ei A f pt) k=some (vl (f k) pt):=K1 (by rw [JK]; exact nd) (List.mem_map.mpr ⟨k,hk,rfl⟩)
theorem Wh{A B:List Kn}(ha:∀ k∈A,Nm k)(hb:∀ k∈B,Nm k):Nv (.lst (A.map sD)) (.lst (B.map sD))=some (decide (A=B)):=by
 have sh:∀ A:List Kn,(∀ k∈A,Nm k)→SeqAt.shaped (.list (A.map sP))=true:=fun A h=>by
  have h2:=KA (g:=sP) (n:=0) (fun k=>by simp [sP,PyData.depth]) A
  unfold SeqAt.shaped
  rw [decide_eq_true (by rw [PyData.depth]; omega),Bool.and_true,PyData.canLay0]
  exact IK fun k hk=>We (h k hk)
 show Vo _ _=_
 unfold Vo Dt.py
 rw [Ed (f:=sD) (g:=sP) A fun _ _=>rfl,Ed (f:=sD) (g:=sP) B fun _ _=>rfl]
 simp only [Option.map_some,Option.bind_some]
 rw [if_pos ⟨sh A ha,sh B hb⟩,PyData.eqv,Kr Ov]
theorem gX{P:Row}(h:WB P):Nv (.lst (P.map IG)) (.lst (P.map IG))=some true:=by
 have sh:SeqAt.shaped (Y0 P)=true:=by
  have h1:=KA (g:=pP) (n:=1) (fun p=>by rw [VR]; exact Nat.le_refl _) P
  unfold SeqAt.shaped Y0
  rw [decide_eq_true (by rw [PyData.depth]; omega),Bool.and_true,PyData.canLay0]
  exact IK fun p hp=>VS (h p hp)
 show Vo (bP P) (bP P)=_
 unfold Vo
 rw [hJ]
 simp only [Option.bind_some]
 rw [if_pos ⟨sh,sh⟩,cD,decide_eq_true rfl]
theorem jF{α:Type}(l:List α):UW [.lst (l.map fun _=>.bl true)]=some (.bl true):=by
 have e:(l.map fun _=>Dt.bl true)=(l.map fun _=>true).map .bl:=by rw [List.map_map]; rfl
 unfold UW
 simp only
 rw [e,ON,Option.map_some,List.all_map]
 simp
theorem ca_o{A:List Kn}{f:Kn→List Row}{ρ:FD.Env}{fo fp:FD.Env→Out Dt}{d:Dt}{r:Out Dt}(h:fo ρ=.ok (Ap cs A f))(hp:fp ρ=.ok d)(e:CG K cs [Ap cs A f,d]=r):Yo (EM K cs) fo (Ab fp Ag) ρ=r:=by
 unfold Yo
 rw [h,Out.Au]
 have el:List.lookup cs.c_Map (EM K cs)=some (CG K cs):=by simp [List.lookup]
 show (match List.lookup cs.c_Map (EM K cs) with
  | some ψ=>(Ab fp Ag ρ).bind fun as=>ψ (Ap cs A f :: as)
  | none=>Out.bad)=_
 rw [el]
 simp only
 rw [G5,hp]
 exact e
theorem Om{A:List Kn}{f:Kn→List Row}{b w:Nat}{P D:Row}{pt:Kn→Int}(hA:As A)(eA:kO.sort (ks D)=A)(nD:(ks D).Nodup)(hm:∀ k∈A,Nm k)(hf:Mp A f b w)(hb:b≤200)(hP:∀ k∈A,gt P k=some (pt k))(hPm:WB P)(hv:∀ p∈D,p.2=vl (f p.1) pt):BN K cs [Ap cs A f,rD P,rD D]=.ok (.bl true):=by
 have ed:BN K cs [Ap cs A f,rD P,rD D]=Ax 6 (GG K cs) [Ap cs A f,rD P,rD D]:=AE rfl
 rw [ed]
 unfold GG
 have hAN:∀ k∈ks D,k∈A:=fun k hk=>by rw [← eA]; exact (kO.Bb (ks D)).mem_iff.mpr hk
 have lD:D.length≤20:=by
  have h1:(ks D).length=D.length:=List.length_map _
  have h2:=(kO.Bb (ks D)).length_eq
  rw [eA] at h2
  have:=hA.l
  omega
 have t:=jh (K:=K) (cs:=cs) hA hf hb hP
 have gi:EG [rD (Ei A f pt),.ty "dict"]=some (.bl true):=rfl
 have g1:BR [rD (Ei A f pt)]=some (A.map sD):=by
  show some ((CB (Ei A f pt)).map I0)=_
  rw [IQ,JK]
 have g2:BR [rD D]=some ((ks D).map sD):=by
  show some ((CB D).map I0)=_
  rw [IQ]
 have q1:QA (.lst (A.map sD)) (.lst (A.map sD))=some false:=by
  have:=VZ (Wh hm hm)
  rw [decide_eq_true rfl] at this
  exact this
 have q2:QA (.lst (P.map IG)) (.lst (P.map IG))=some false:=VZ (gX hPm)
 have hc:P0 2 (Ai 5) [5] AK (Hi (Al (Bp K cs) (Ab (FD.e2 (Aa 4) (Aa 5) AH) Ag)) (eT (FD.t2 (FD.e2 (Aa 4) (Aa 5) AH) (FD.e2 (Aa 2) (Aa 5) AH) Nv))) [some (.sh (Ap cs A f)),some (.sh (rD P)),some (.sh (rD D)),some (.sh (.lst (P.map IG))),some (.sh (rD (Ei A f pt))),none]=.ok (D.map fun _=>.bl true):=by
  refine TR (r:=D) rfl (by omega) fun p hp=>⟨[some (.sh (Ap cs A f)),some (.sh (rD P)),some (.sh (rD D)),some (.sh (.lst (P.map IG))),some (.sh (rD (Ei A f pt))),some (.sh (sD p.1))],rfl,?_⟩
  have ga:AH (rD (Ei A f pt)) (sD p.1)=some (.int p.2):=by
   have:=Y6 (Ei A f pt) p.1
   rw [SQ hA.nd f pt (hAN p.1 (BH hp)),← hv p hp] at this
   exact this
  have gb:AH (rD D) (sD p.1)=some (.int p.2):=by
   have:=Y6 D p.1
   rw [K1 nD hp] at this
   exact this
  simp! [ga,gb,RF,beq_self_eq_true]
 have hca:Yo (EM K cs) (Aa 0) (Ab (Aa 1) Ag) [some (.sh (Ap cs A f)),some (.sh (rD P)),some (.sh (rD D)),some (.sh (.lst (P.map IG))),none,none]=.ok (rD (Ei A f pt)):=ca_o rfl rfl t
 have hz:∀ (lk:List Nat) (ρ:FD.Env),lk.all (He ρ)=true→AL (rD (Ei A f pt)) lk ρ=ρ:=fun lk ρ h=>FI h
 have hi1:J9 (Aa 1) [some (.sh (Ap cs A f)),some (.sh (rD P)),some (.sh (rD D)),none,none,none]=.ok (P.map IG):=by
  simp! [Na,items]
 have hi2:J9 (Aa 1) [some (.sh (Ap cs A f)),some (.sh (rD P)),some (.sh (rD D)),some (.sh (.lst (P.map IG))),some (.sh (rD (Ei A f pt))),none]=.ok (P.map IG):=by
  simp! [Na,items]
 simp! [hi1,hi2,hca,gi,Jl,g1,g2,Iq,eA,q1,q2,hc,jF,FD.Ey]
theorem Pk{N:List Kn}{G:Kn→List Row}{r:Row}{k:Kn}{x:Int}(hk:k∈N)(hx:gt r k=some x){d2:Option Lo}(ng:∀ s∈G k,(ks s).Nodup)(hg:(G k).length≤30)(lg:∀ s∈G k,s.length≤100):∀ (R acc:List Row) (x5:Option Lo),(∀ q∈R,q.length≤100)→acc.length + R.length * 30≤1000000 →
  ∃ x5',BA (Ai 5) (A8 4 (FD.e2 (Aa 4) (eL (Fi (Ai 6) [6] AK (Al (Cr K cs) (Ab (Aa 5) (Ab (Aa 6) (Ab (FD.e2 (Aa 0) (Aa 3) AH) Ag)))) (AB (FD.e2 (Aa 1) (Aa 3) AH)) [1,3])) AX) [4,1,3,5,6,0,3,6]) (R.map rD) [some (.sh (rD r)),some (.sh (By N G)),d2,some (.sh (.str (S k))),some (.sh (CP acc)),x5,none]=.ok .nx [some (.sh (rD r)),some (.sh (By N G)),d2,some (.sh (.str (S k))),some (.sh (CP (acc ++ joinR R (AZ x (G k))))),x5',none]
 | [],acc,x5,_,_=>⟨x5,by rw [show joinR [] (AZ x (G k))=[] from rfl,List.append_nil]; rfl⟩
 | q :: R,acc,x5,hr,hl=>by
  simp only [List.length_cons] at hl
  have e1:joinR (q :: R) (AZ x (G k))=((G k).map fun s=>A3 q (Dw x s)) ++ joinR R (AZ x (G k)):=by
   unfold joinR
   rw [List.flatMap_cons]
   unfold AZ
   rw [List.map_map]
   rfl
  obtain ⟨x5',e⟩:=Pk (d2:=d2) hk hx ng hg lg R (acc ++ (G k).map fun s=>A3 q (Dw x s)) (some (.sh (rD q))) (fun z hz=>hr z (List.mem_cons_of_mem _ hz)) (by rw [List.length_append,List.length_map]; omega)
  refine ⟨x5',?_⟩
  rw [List.append_assoc,← e1] at e
  have gb:AH (By N G) (.str (S k))=some (CP (G k)):=RZ hk
  have gx:AH (rD r) (.str (S k))=some (.int x):=by
   rw [Y6,hx]
   rfl
  have hi:(Fi (Ai 6) [6] AK (Al (Cr K cs) (Ab (Aa 5) (Ab (Aa 6) (Ab (FD.e2 (Aa 0) (Aa 3) AH) Ag)))) (AB (FD.e2 (Aa 1) (Aa 3) AH)) [1,3]) [some (.sh (rD r)),some (.sh (By N G)),d2,some (.sh (.str (S k))),some (.sh (CP acc)),some (.sh (rD q)),none]=.ok ((G k).map fun s=>rD (A3 q (Dw x s))):=by
   refine DB (e:=rD) (by rw [DS]; simp! [gb]; rfl) (by omega) fun s hs=>⟨[some (.sh (rD r)),some (.sh (By N G)),d2,some (.sh (.str (S k))),some (.sh (CP acc)),some (.sh (rD q)),some (.sh (rD s))],rfl,?_⟩
   have t:=YA (K:=K) (cs:=cs) (a:=q) x (ng s hs) (by have:=hr q List.mem_cons_self; have:=lg s hs; omega)
   simp! [gx,t]
  have gab:AX (CP acc) (.lst ((G k).map fun s=>rD (A3 q (Dw x s))))=some (CP (acc ++ (G k).map fun s=>A3 q (Dw x s))):=by
   unfold CP
   rw [Mb,List.length_map,List.length_map,if_pos (by omega),List.map_append,List.map_map]
   rfl
  have hz:∀ (ρ:FD.Env) (lk:List Nat),AL (CP (acc ++ (G k).map fun s=>A3 q (Dw x s))) lk ρ=frz lk ρ:=fun _ _=>rfl
  rw [List.map_cons,Cc]
  simp! [hi,gab,hz,e]
structure Go (N:List Kn) (G:Kn→List Row) (b:Nat):Prop where
 g:∀ k∈N,GL N (G k)
 l:∀ k∈N,(G k).length≤b
theorem OT{N:List Kn}(hN:N.length≤20){G:Kn→List Row}{b:Nat}(hG:Go N G b)(hb:1≤b)(hb3:b≤30){r:Row}(nr:(ks r).Nodup)(sr:∀ k∈ks r,k∈N):∀ (L:Row) (Q:List Row) (x3 x4 x5:Option Lo),(∀ p∈L,p∈r)→GL N Q→Q.length * b ^ L.length≤1000→Q.length≤1000 →
  ∃ x3' x4' x5',BA (Ai 3) (Am (A8 4 (eL (Eb Ag)) [])
  (Am (A1 (Ai 5) (AB (Aa 2)) [2]
  (A8 4 (FD.e2 (Aa 4) (eL (Fi (Ai 6) [6] AK (Al (Cr K cs) (Ab (Aa 5) (Ab (Aa 6) (Ab (FD.e2 (Aa 0) (Aa 3) AH) Ag)))) (AB (FD.e2 (Aa 1) (Aa 3) AH)) [1,3])) AX) [4,1,3,5,6,0,3,6]))
  (A8 2 (Aa 4) [4]))) ((ks L).map sD) [some (.sh (rD r)),some (.sh (By N G)),some (.sh (CP Q)),x3,x4,x5,none]=.ok .nx [some (.sh (rD r)),some (.sh (By N G)),some (.sh (CP (L.foldl (fun Q p=>joinR Q (AZ p.2 (G p.1))) Q))),x3',x4',x5',none]
 | [],Q,x3,x4,x5,_,_,_,_=>⟨x3,x4,x5,rfl⟩
 | p :: L,Q,x3,x4,x5,hL,hQ,hl,hql=>by
  have hp:=hL p List.mem_cons_self
  have hk:=sr p.1 (BH hp)
  have gk:=hG.g p.1 hk
  have lk:=hG.l p.1 hk
  have pb:0 < b ^ L.length:=Nat.pow_pos hb
  rw [List.length_cons,Nat.pow_succ,Nat.mul_comm (b ^ L.length) b,← Nat.mul_assoc] at hl
  have l1:Q.length * (G p.1).length≤Q.length * b:=Nat.mul_le_mul_left _ lk
  have l2:Q.length * b≤Q.length * b * b ^ L.length:=Nat.le_mul_of_pos_right _ pb
  have lj:(joinR Q (AZ p.2 (G p.1))).length=Q.length * (G p.1).length:=by rw [Kg,GU]
  have l3:=Nat.mul_le_mul_right (b ^ L.length) l1
  obtain ⟨x5a,ea⟩:=Pk (K:=K) (cs:=cs) (G:=G) (r:=r) (d2:=some (.sh (CP Q))) hk (K1 nr hp) gk.nd (by omega) (fun s hs=>by have:=(gk s hs).len; omega) Q [] x5 (fun q hq=>by have:=(hQ q hq).len; omega) (by simp only [List.length_nil]; omega)
  rw [List.nil_append] at ea
  obtain ⟨x3',x4',x5',e⟩:=OT hN hG hb hb3 nr sr L (joinR Q (AZ p.2 (G p.1))) (some (.sh (.str (S p.1)))) (some (.sh (CP (joinR Q (AZ p.2 (G p.1)))))) x5a (fun z hz=>hL z (List.mem_cons_of_mem _ hz)) (hQ.join (gk.shift p.2)) (by rw [lj]; omega) (by rw [lj]; omega)
  refine ⟨x3',x4',x5',?_⟩
  have hf:A1 (Ai 5) (AB (Aa 2)) [2] (A8 4 (FD.e2 (Aa 4) (eL (Fi (Ai 6) [6] AK (Al (Cr K cs) (Ab (Aa 5) (Ab (Aa 6) (Ab (FD.e2 (Aa 0) (Aa 3) AH) Ag)))) (AB (FD.e2 (Aa 1) (Aa 3) AH)) [1,3])) AX) [4,1,3,5,6,0,3,6]) [some (.sh (rD r)),some (.sh (By N G)),some (.sh (CP Q)),some (.sh (.str (S p.1))),some (.sh (.lst [])),x5,none]=.ok .nx [some (.sh (rD r)),some (.sh (By N G)),some (.sh (CP Q)),some (.sh (.str (S p.1))),some (.sh (CP (joinR Q (AZ p.2 (G p.1))))),x5a,none]:=ea
  have hz:∀ (ρ:FD.Env) (lk:List Nat),AL (CP (joinR Q (AZ p.2 (G p.1)))) lk ρ=frz lk ρ:=fun _ _=>rfl
  rw [show (ks (p :: L)).map sD=Dt.str (S p.1) :: (ks L).map sD from rfl,Cc]
  simp! [FD.Ey,hf,hz]
  exact e
theorem dW{N:List Kn}(hN:N.length≤20){G:Kn→List Row}{b:Nat}(hG:Go N G b)(hb:1≤b)(hb3:b≤30){r:Row}(gr:Gr N r)(hl:b ^ r.length≤1000):Df K cs [rD r,By N G]=.ok (CP (EU r G)):=by
 have ed:Df K cs [rD r,By N G]=Ax 7 (FL K cs) [rD r,By N G]:=AE rfl
 rw [ed]
 unfold FL
 obtain ⟨x3,x4,x5,e⟩:=OT (K:=K) (cs:=cs) hN hG hb hb3 gr.nd gr.sub r [[]] none none none (fun _ h=>h) (MT N) (by simpa using hl) (by decide)
 have hf:=R8 (i:=0) (r:=r) (ρ:=[some (.sh (rD r)),some (.sh (By N G)),some (.sh (.lst [.dic [] []])),none,none,none,none]) rfl rfl e
 simp! [hf,FD.Ey]
 rfl
theorem place_len{N:List Kn}{G:Kn→List Row}{b:Nat}(hG:Go N G b):∀ {r:Row} {Q:List Row},(∀ k∈ks r,k∈N)→(r.foldl (fun Q p=>joinR Q (AZ p.2 (G p.1))) Q).length≤Q.length * b ^ r.length
 | [],Q,_=>by simp
 | p :: r,Q,hr=>by
  have i:=place_len hG (r:=r) (Q:=joinR Q (AZ p.2 (G p.1))) fun k hk=>hr k (List.mem_cons_of_mem _ hk)
  rw [Kg,GU] at i
  have l1:=Nat.mul_le_mul_right (b ^ r.length) (Nat.mul_le_mul_left Q.length (hG.l p.1 (hr p.1 List.mem_cons_self)))
  rw [List.length_cons,Nat.pow_succ,Nat.mul_comm (b ^ r.length) b,← Nat.mul_assoc]
  exact Nat.le_trans i l1
theorem OU{N:List Kn}(hN:N.length≤20){F G:Kn→List Row}{b w:Nat}(hG:Go N G b)(hb:1≤b)(hb3:b≤30)(hw:b ^ w≤1000){d2 d3:Option Lo}:∀ (R acc:List Row) (x5:Option Lo),GL N R→(∀ r∈R,r.length≤w)→acc.length + R.length * b ^ w≤1000000 →
  ∃ x5',BA (Ai 5) (A8 4 (FD.e2 (Aa 4) (Al (Df K cs) (Ab (Aa 5) (Ab (Aa 1) Ag))) AX) [4,5,1]) (R.map rD) [some (.sh (By N F)),some (.sh (By N G)),d2,d3,some (.sh (CP acc)),x5]=.ok .nx [some (.sh (By N F)),some (.sh (By N G)),d2,d3,some (.sh (CP (acc ++ A7 R G))),x5']
 | [],acc,x5,_,_,_=>⟨x5,by rw [show A7 [] G=[] from rfl,List.append_nil]; rfl⟩
 | r :: R,acc,x5,gR,hR,hl=>by
  rw [List.length_cons,Nat.add_mul,Nat.one_mul] at hl
  have gr:=gR r List.mem_cons_self
  have lp:b ^ r.length≤b ^ w:=Nat.pow_le_pow_right hb (hR r List.mem_cons_self)
  have l1:(EU r G).length≤b ^ w:=by
   have:=place_len hG (r:=r) (Q:=[[]]) gr.sub
   rw [List.length_singleton,Nat.one_mul] at this
   exact Nat.le_trans this lp
  have t:=dW (K:=K) (cs:=cs) hN hG hb hb3 gr (by omega)
  have e1:A7 (r :: R) G=EU r G ++ A7 R G:=by unfold A7; rw [List.flatMap_cons]
  obtain ⟨x5',e⟩:=OU (F:=F) (d2:=d2) (d3:=d3) hN hG hb hb3 hw R (acc ++ EU r G) (some (.sh (rD r))) (fun z hz=>gR z (List.mem_cons_of_mem _ hz)) (fun z hz=>hR z (List.mem_cons_of_mem _ hz)) (by rw [List.length_append]; omega)
  refine ⟨x5',?_⟩
  rw [List.append_assoc,← e1] at e
  have gab:AX (CP acc) (CP (EU r G))=some (CP (acc ++ EU r G)):=by
   unfold CP
   rw [Mb,List.length_map,List.length_map,if_pos (by omega),List.map_append]
  have hz:∀ (ρ:FD.Env) (lk:List Nat),AL (CP (acc ++ EU r G)) lk ρ=frz lk ρ:=fun _ _=>rfl
  rw [List.map_cons,Cc]
  simp! [t,gab,hz,e]
theorem eP{N:List Kn}(nd:N.Nodup)(hN:N.length≤20){F G:Kn→List Row}{b w c:Nat}(hG:Go N G b)(hb:1≤b)(hb3:b≤30)(hw:b ^ w≤1000)(hF:∀ k∈N,GL N (F k))(hl:∀ k∈N,(F k).length≤c)(hc:c≤30)(wF:∀ k∈N,∀ r∈F k,r.length≤w):GN K cs [By N F,By N G]=.ok (By N fun k=>A7 (F k) G):=by
 have ed:GN K cs [By N F,By N G]=Ax 6 (Gz K cs) [By N F,By N G]:=AE rfl
 rw [ed]
 unfold Gz
 obtain ⟨ρ',e,x3,x4,x5,hρ⟩:=MX (u:=Ai 3) (b:=(Am (A8 4 (eL (Eb Ag)) [])
  (Am (A1 (Ai 5) (AB (FD.e2 (Aa 0) (Aa 3) AH)) [0,3]
  (A8 4 (FD.e2 (Aa 4) (Al (Df K cs) (Ab (Aa 5) (Ab (Aa 1) Ag))) AX) [4,5,1]))
  (BK 2 (Aa 3) (Aa 4) [4])))) (E:=fun P ρ=>∃ x3 x4 x5,ρ=[some (.sh (By N F)),some (.sh (By N G)),some (.od (P.map kN) (P.map fun k=>CP (A7 (F k) G))),x3,x4,x5]) nd (fun P k L ρ eA hk hkA ⟨x3,x4,x5,hρ⟩=>by
  subst hρ
  have l1:=Nat.mul_le_mul (hl k hkA) hw
  obtain ⟨x5',e⟩:=OU (K:=K) (cs:=cs) (F:=F) (d2:=some (.od (P.map kN) (P.map fun k=>CP (A7 (F k) G)))) (d3:=some (.sh (sD k))) hN hG hb hb3 hw (F k) [] x5 (hF k hkA) (wF k hkA) (by simp only [List.length_nil]; omega)
  rw [List.nil_append] at e
  refine ⟨[some (.sh (By N F)),some (.sh (By N G)),some (.od (P.map kN) (P.map fun k=>CP (A7 (F k) G))),some (.sh (sD k)),x4,x5],[some (.sh (By N F)),some (.sh (By N G)),some (.od ((P ++ [k]).map kN) ((P ++ [k]).map fun k=>CP (A7 (F k) G))),some (.sh (sD k)),some (.sh (CP (A7 (F k) G))),x5'],rfl,?_,_,_,_,rfl⟩
  have ga:AH (By N F) (.str (S k))=some (CP (F k)):=RZ hkA
  have hf:A1 (Ai 5) (AB (FD.e2 (Aa 0) (Aa 3) AH)) [0,3] (A8 4 (FD.e2 (Aa 4) (Al (Df K cs) (Ab (Aa 5) (Ab (Aa 1) Ag))) AX) [4,5,1]) [some (.sh (By N F)),some (.sh (By N G)),some (.od (P.map kN) (P.map fun k=>CP (A7 (F k) G))),some (.sh (.str (S k))),some (.sh (.lst [])),x5]=.ok .nx [some (.sh (By N F)),some (.sh (By N G)),some (.od (P.map kN) (P.map fun k=>CP (A7 (F k) G))),some (.sh (.str (S k))),some (.sh (CP (A7 (F k) G))),x5']:=by
   rw [Ci,DS]
   simp! [ga]
   exact e
  have pk:=HS hk
  have pv:CW (P.map kN) (P.map fun k=>CP (A7 (F k) G)) (Sum.inr (S k)) (CP (A7 (F k) G))=(P ++ [k]).map fun k=>CP (A7 (F k) G):=HP hk fun k=>CP (A7 (F k) G)
  have hlen:=Tg eA hN
  have hz:∀ (ρ:FD.Env) (lk:List Nat),AL (CP (A7 (F k) G)) lk ρ=frz lk ρ:=fun _ _=>rfl
  unfold sD
  simp! [hf,hz,pk,pv,hlen,FD.Ey]) N [] [some (.sh (By N F)),some (.sh (By N G)),some (.od [] []),none,none,none] rfl ⟨none,none,none,rfl⟩
 subst hρ
 have hf:=Se (i:=0) (A:=N) (ρ:=[some (.sh (By N F)),some (.sh (By N G)),some (.od [] []),none,none,none]) rfl rfl e
 simp! [hf,Fd]
 rfl
theorem VJ{ψ:List Dt→Out Dt}{fa fb:FD.Env→Out Dt}{ρ:FD.Env}{A:List Kn}{f g:Kn→List Row}{r:Out Dt}(ha:fa ρ=.ok (Ap cs A f))(hb:fb ρ=.ok (Ap cs A g))(e:ψ [Ap cs A f,Ap cs A g]=r):F8 [(cs.c_Map,ψ)] fa fb ρ=r:=by
 unfold F8
 rw [ha,Out.Au,hb,Out.Au]
 have el:List.lookup cs.c_Map [(cs.c_Map,ψ)]=some ψ:=by simp [List.lookup]
 show (if cs.c_Map=cs.c_Map then (match List.lookup cs.c_Map [(cs.c_Map,ψ)] with
  | some ψ=>ψ [Ap cs A f,Ap cs A g]
  | none=>Out.bad) else Out.bad)=_
 rw [if_pos rfl,el]
 exact e
theorem ir{fa fb:FD.Env→Out Dt}{ρ:FD.Env}{A:List Kn}{f g:Kn→List Row}{b:Bool}(ha:fa ρ=.ok (Ap cs A f))(hb:fb ρ=.ok (Ap cs A g))(e:DE K cs [Ap cs A f,Ap cs A g]=.ok (.bl b)):PN (Wz K cs) fa fb ρ=.ok (.bl b):=by
 unfold PN
 rw [ha,Out.Au,hb,Out.Au]
 have el:List.lookup cs.c_Map (Wz K cs)=some (DE K cs):=by simp [List.lookup]
 have ek:br (Wz K cs) (Ap cs A g)=true:=by
  show (List.lookup cs.c_Map (Wz K cs)).isSome=true
  rw [el]
  rfl
 show (match List.lookup cs.c_Map (Wz K cs) with
  | some ψ=>if br (Wz K cs) (Ap cs A g)=true then lG (ψ [Ap cs A f,Ap cs A g]) else Out.bad
  | none=>Out.bad)=_
 rw [el]
 simp only
 rw [if_pos ek,e]
 rfl
section
variable {A:List Kn} {f g h:Kn→List Row} {b c w v:Nat}
theorem Mp.jI(hf:Mp A f b w)(hm:∀ k∈A,Nm k):∀ k∈A,∀ r∈f k,WB r:=fun k hk r hr p hp=>hm p.1 ((hf.fo.g k hk r hr).sub p.1 (BH hp))
theorem eqB_iff(hf:Mp A f b w)(hg:Mp A g c v):eqB A f g=true ↔ ∀ k∈A,∀ P,Ib P→(W (f k) P ↔ W (g k) P):=by
 unfold eqB
 rw [List.all_eq_true]
 constructor
 ·intro h k hk P _
  rw [of_decide_eq_true (h k hk)]
 ·intro h k hk
  refine decide_eq_true ?_
  rw [← hf.s k hk,← hg.s k hk]
  exact (fM (hf.fo.g k hk).nd (hg.fo.g k hk).nd).mpr fun q z=>h k hk _ (D8 q z)
theorem EC{R:List Row}{P Q:Kn→Int→Prop}(h:∀ r∈R,∀ p∈r,(P p.1 p.2 ↔ Q p.1 p.2)):W R P ↔ W R Q:=by
 unfold W Up
 exact ⟨fun ⟨r,hr,z⟩=>⟨r,hr,fun p hp=>(h r hr p hp).mp (z p hp)⟩,fun ⟨r,hr,z⟩=>⟨r,hr,fun p hp=>(h r hr p hp).mpr (z p hp)⟩⟩
end
structure Ns (N A:List Kn):Prop where
 e:kO.sort N=A
 nd:N.Nodup
 l:N.length≤20
 ne:N≠[]
 nm:∀ k∈N,Nm k
section
variable {N A:List Kn} {F G:Kn→List Row} {b w:Nat}
theorem Ns.mem(h:Ns N A){k:Kn}:k∈A ↔ k∈N:=by rw [← h.e]; exact (kO.Bb N).mem_iff
theorem Ns.as(h:Ns N A):As A:=by rw [← h.e]; exact SF h.nd h.l
theorem Ns.iM(h:Ns N A):A≠[]:=fun z=>by
 obtain ⟨k,hk⟩:=List.exists_mem_of_ne_nil _ h.ne
 have:=h.mem.mpr hk
 rw [z] at this
 cases this
theorem Ns.V1(h:Ns N A):∀ k∈A,Nm k:=fun k hk=>h.nm k (h.mem.mp hk)
def nF(F:Kn→List Row):Kn→List Row:=fun k=>nf (F k)
theorem lL(h:Ns N A)(hF:∀ k∈N,Gf N b w (F k)):Fo A F b:=⟨fun k hk r hr=>⟨((hF k (h.mem.mp hk)).gw.g r hr).nd,fun j hj=>h.mem.mpr (((hF k (h.mem.mp hk)).gw.g r hr).sub j hj)⟩,fun k hk=>(hF k (h.mem.mp hk)).gw.n,fun k hk=>(hF k (h.mem.mp hk)).len,fun k hk=>(hF k (h.mem.mp hk)).ne⟩
theorem Hr(h:Ns N A)(hF:∀ k∈N,Gf N b w (F k)):Mp A (nF F) b w:=(lL h hF).mp fun k hk=>(hF k (h.mem.mp hk)).gw.w
theorem Ny(h:Ns N A)(hb:b≤100){k:Kn}(hF:Gf N b w (F k)):Lr (F k):=⟨hF.ne,Nat.le_trans hF.len hb,hF.gw.g.nd,hF.gw.n,fun r hr p hp=>h.nm p.1 ((hF.gw.g r hr).sub p.1 (BH hp)),fun r hr=>by have:=(hF.gw.g r hr).len; have:=h.l; omega⟩
theorem jf(hF:Gf N b w (F k)){P:Kn→Int→Prop}(hP:Ib P):W (nF F k) P ↔ W (F k) P:=bE hF.gw.g.nd hP
theorem gJ(h:Ns N A){R:List Row}(g:GL N R)(h0:R≠[])(hn:∀ r∈R,r≠[])(hl:R.length≤100):Lr R:=⟨h0,hl,g.nd,hn,fun r hr p hp=>h.nm p.1 ((g r hr).sub p.1 (BH hp)),fun r hr=>by have:=(g r hr).len; have:=h.l; omega⟩
end
section
variable {N A:List Kn} {F G:Kn→List Row} {b w:Nat}
theorem Rg{A:List Kn}{G:Kn→List Row}(hg:∀ k∈A,GL A (G k))(hn:∀ k∈A,∀ s∈G k,s≠[]):∀ {r:Row} {Q:List Row},(∀ k∈ks r,k∈A)→GL A Q→GL A (r.foldl (fun Q p=>joinR Q (AZ p.2 (G p.1))) Q)∧((r≠[]∨∀ x∈Q,x≠[])→∀ x∈r.foldl (fun Q p=>joinR Q (AZ p.2 (G p.1))) Q,x≠[])
 | [],Q,_,g=>⟨g,fun h=>h.elim (fun z=>absurd rfl z) id⟩
 | p :: r,Q,hr,g=>by
  have hp:=hr p.1 List.mem_cons_self
  obtain ⟨i1,i2⟩:=Rg hg hn (r:=r) (Q:=joinR Q (AZ p.2 (G p.1))) (fun k hk=>hr k (List.mem_cons_of_mem _ hk)) (g.join ((hg p.1 hp).shift p.2))
  refine ⟨i1,fun _=>i2 (.inr fun x hx=>?_)⟩
  obtain ⟨a,_,s,hs,rfl⟩:=mem_join.mp hx
  exact OD (.inr (Pf (hn p.1 hp) s hs))
theorem gO(hG:∀ k∈N,Gf N b w (G k)):Go N G b:=⟨fun k hk=>(hG k hk).gw.g,fun k hk=>(hG k hk).len⟩
theorem Qv{b w:Nat}(hb:(b=2∧w=2)∨(b=1∧w=3)∨(b=3∧w=1)):b ^ w≤4∧b * b ^ w≤9∧1≤b:=by
 rcases hb with ⟨rfl,rfl⟩ | ⟨rfl,rfl⟩ | ⟨rfl,rfl⟩ <;> decide
theorem kj(h:Ns N A)(hb:(b=2∧w=2)∨(b=1∧w=3)∨(b=3∧w=1))(hF:∀ k∈N,Gf N b w (F k))(hG:∀ k∈N,Gf N b w (G k)){k:Kn}(hk:k∈N):GL N (A7 (F k) G)∧Lr (A7 (F k) G):=by
 have gF:=hF k hk
 obtain ⟨n1,n2,n3⟩:=Qv hb
 have key:∀ r∈F k,GL N (EU r G)∧∀ x∈EU r G,x≠[]:=fun r hr=>by
  obtain ⟨i1,i2⟩:=Rg (A:=N) (G:=G) (fun k hk=>(hG k hk).gw.g) (fun k hk=>(hG k hk).gw.n) (r:=r) (Q:=[[]]) (gF.gw.g r hr).sub (MT N)
  exact ⟨i1,i2 (.inl (gF.gw.n r hr))⟩
 have g:GL N (A7 (F k) G):=fun x hx=>by
  obtain ⟨r,hr,hx⟩:=List.mem_flatMap.mp hx
  exact (key r hr).1 x hx
 refine ⟨g,gJ h g ?_ (fun x hx=>?_) ?_⟩
 ·have hw:=(T2 (R:=F k) (G:=G) (P:=fun _ _=>True) fun _ _ _ _ _=>trivial).mpr (by
   obtain ⟨r,hr⟩:=List.exists_mem_of_ne_nil _ gF.ne
   exact ⟨r,hr,fun p hp=>by
    obtain ⟨s,hs⟩:=List.exists_mem_of_ne_nil _ (hG p.1 ((gF.gw.g r hr).sub p.1 (BH hp))).ne
    exact ⟨s,hs,fun _ _=>trivial⟩⟩)
  obtain ⟨x,hx,_⟩:=hw
  exact List.ne_nil_of_mem hx
 ·obtain ⟨r,hr,hx⟩:=List.mem_flatMap.mp hx
  exact (key r hr).2 x hx
 ·have hlen:∀ R:List Row,(∀ r∈R,r∈F k)→(A7 R G).length≤R.length * b ^ w:=by
   intro R
   induction R with
   | nil=>intro _; exact Nat.zero_le _
   | cons r R ih=>
    intro hR
    have i:=ih fun z hz=>hR z (List.mem_cons_of_mem _ hz)
    have hr:=hR r List.mem_cons_self
    have l1:=place_len (gO hG) (r:=r) (Q:=[[]]) (gF.gw.g r hr).sub
    have l2:b ^ r.length≤b ^ w:=Nat.pow_le_pow_right n3 (gF.gw.w r hr)
    have l1:(EU r G).length≤1 * b ^ r.length:=l1
    have e1:A7 (r :: R) G=EU r G ++ A7 R G:=by unfold A7; rw [List.flatMap_cons]
    rw [e1,List.length_append,List.length_cons,Nat.add_mul,Nat.one_mul]
    omega
  have h1:=hlen (F k) fun _ h=>h
  have h2:=Nat.mul_le_mul_right (b ^ w) gF.len
  omega
theorem j0(h:Ns N A)(hF:∀ k∈N,Gf N b w (F k))(hG:∀ k∈N,Gf N b w (G k))(hb:1≤b){k:Kn}(hk:k∈N){P:Kn→Int→Prop}(hP:Ib P):W (oP (nF F) (nF G) k) P ↔ W (F k) fun z x=>W (G z) fun j y=>P j (y + x):=by
 have mf:=Hr h hF
 have mg:=Hr h hG
 rw [gz mf mg hb (h.mem.mpr hk) hP,jf (hF k hk) (Vl hP)]
 refine EC fun r hr p hp=>?_
 have hz:=((hF k hk).gw.g r hr).sub p.1 (BH hp)
 exact jf (hG p.1 hz) fun j x y hxy z=>hP j _ _ (by omega) z
theorem nf_P(h:Ns N A)(hb:(b=2∧w=2)∨(b=1∧w=3)∨(b=3∧w=1))(hF:∀ k∈N,Gf N b w (F k))(hG:∀ k∈N,Gf N b w (G k)){k:Kn}(hk:k∈N):oP (nF F) (nF G) k=nf (A7 (F k) G):=by
 have n3:=(Qv hb).2.2
 have mf:=Hr h hF
 have mg:=Hr h hG
 have hkA:=h.mem.mpr hk
 have hs:=(Mp.Pl mf mg n3).s k hkA
 rw [← hs]
 refine (fM ((Mp.Pl mf mg n3).fo.g k hkA).nd (kj h hb hF hG hk).1.nd).mpr fun q c=>?_
 unfold V
 rw [j0 h hF hG n3 hk (D8 q c),T2 (D8 q c)]
theorem vl_P(h:Ns N A)(hb:1≤b)(hF:∀ k∈N,Gf N b w (F k))(hG:∀ k∈N,Gf N b w (G k))(pt:Kn→Int){k:Kn}(hk:k∈N):vl (oP (nF F) (nF G) k) pt=vl (F k) fun z=>vl (G z) pt:=by
 have mf:=Hr h hF
 have mg:=Hr h hG
 have hkA:=h.mem.mpr hk
 have gF:=hF k hk
 have mp:=Mp.Pl mf mg hb
 have key:∀ c,vl (oP (nF F) (nF G) k) pt≤c ↔ vl (F k) (fun z=>vl (G z) pt)≤c:=fun c=>by
  rw [SG (mp.fo.e k hkA) (mp.fo.n k hkA),SG gF.ne gF.gw.n,V,j0 h hF hG hb hk (D8 pt c)]
  refine EC fun r hr p hp=>?_
  have hz:=(gF.gw.g r hr).sub p.1 (BH hp)
  have gG:=hG p.1 hz
  have e:=SG (f:=pt) (c:=c - p.2) gG.ne gG.gw.n
  unfold XA
  constructor
  ·intro z
   have:vl (G p.1) pt≤c - p.2:=e.mpr ((EC fun s hs q hq=>by unfold XA; omega).mp z)
   show vl (G p.1) pt + p.2≤c
   omega
  ·intro z
   have z:vl (G p.1) pt + p.2≤c:=z
   exact (EC fun s hs q hq=>by unfold XA; omega).mpr (e.mp (by omega))
 exact Int.le_antisymm ((key _).mpr (Int.le_refl _)) ((key _).mp (Int.le_refl _))
end
abbrev js(cs:Cs)(N A:List Kn)(F G:Kn→List Row)(j:Nat)(x7 x8:Option Lo)(C:List Cell):FD.Env:=[some (.sh (Ap cs A (nF F))),some (.sh (Ap cs A (nF G))),some (.sh (By N F)),some (.sh (By N G)),some (.sh (.lst (N.map sD))),some (.sh (.ad j)),some (.sh (Ap cs A (oP (nF F) (nF G)))),x7,x8,some (.mh C)]
theorem Us{N:List Kn}{P:Row}(hP:ks P=N.reverse):∃ pt:Kn→Int,∀ k∈N,gt P k=some (pt k):=⟨fun k=>(gt P k).getD 0,fun k hk=>by
 have hk':k∈ks P:=by rw [hP]; exact List.mem_reverse.mpr hk
 cases e:gt P k with
 | none=>exact absurd hk' (Kx.mp e)
 | some x=>
  show some x=some ((gt P k).getD 0)
  rw [e]
  rfl⟩
theorem bH{N A:List Kn}{F G:Kn→List Row}{b w:Nat}(h:Ns N A)(hb:(b=2∧w=2)∨(b=1∧w=3)∨(b=3∧w=1))(hF:∀ k∈N,Gf N b w (F k))(hG:∀ k∈N,Gf N b w (G k)){P:Row}{pt:Kn→Int}(hpt:∀ k∈N,gt P k=some (pt k)):AG K cs [By N G,rD P]=.ok (rD (Ei N G pt))∧AG K cs [By N F,rD (Ei N G pt)]=.ok (rD (Ei N F fun z=>vl (G z) pt)):=by
 have hb3:b≤100:=by omega
 refine ⟨JS h.nd h.l (fun k hk=>Ny h hb3 (hG k hk)) fun k hk r hr z hz=>hpt z (((hG k hk).gw.g r hr).sub z hz),JS h.nd h.l (fun k hk=>Ny h hb3 (hF k hk)) fun k hk r hr z hz=>SQ h.nd G pt (((hF k hk).gw.g r hr).sub z hz)⟩
theorem N9{N A:List Kn}(h:Ns N A){P:Row}(hP:ks P=N.reverse):WB P:=fun p hp=>h.nm p.1 (by have:=BH (x:=p.2) hp; rw [hP] at this; exact List.mem_reverse.mp this)
theorem UU{N A:List Kn}{F G:Kn→List Row}{b w j:Nat}(h:Ns N A)(hb:(b=2∧w=2)∨(b=1∧w=3)∨(b=3∧w=1))(hF:∀ k∈N,Gf N b w (F k))(hG:∀ k∈N,Gf N b w (G k)):∀ (ds:List Dt) (x7 x8:Option Lo) (C:List Cell) (bx:Bx),C[j]? = some (Jr bx)→bx.n + 20 * ds.length≤90000000 →
  ∃ (x7' x8':Option Lo) (C':List Cell) (bx':Bx),C'[j]? = some (Jr bx')∧bx'.n≤bx.n + 20 * ds.length∧BA (Ai 7) (Am (Bi 8 (Aw 9 (A5 K cs) (xP (Ab (Aa 5) (Ab (Aa 4) Ag))) [5,4]) [])
  (CF (A6 (FD.t1 (Al (BN K cs) (Ab (Aa 6) (Ab (Aa 8) (Ab (Al (AG K cs) (Ab (Aa 2) (Ab (Al (AG K cs) (Ab (Aa 3) (Ab (Aa 8) Ag))) Ag))) Ag)))) A2)) (AA (eC (.bl false)) []) Ar)) ds (js cs N A F G j x7 x8 C)=.ok .nx (js cs N A F G j x7' x8' C')
 | [],x7,x8,C,bx,hbx,_=>⟨x7,x8,C,bx,hbx,Nat.le_refl _,rfl⟩
 | d :: ds,x7,x8,C,bx,hbx,hn=>by
  simp only [List.length_cons] at hn
  have n3:=(Qv hb).2.2
  have n2:b * b ^ w≤200:=by have:=(Qv hb).2.1; omega
  obtain ⟨P,C1,b1,tp,hP,h1,u1⟩:=OO (K:=K) (cs:=cs) hbx (by omega) h.nd h.l
  obtain ⟨pt,hpt⟩:=Us hP
  obtain ⟨t1,t2⟩:=bH (K:=K) (cs:=cs) h hb hF hG hpt
  have mp:=Mp.Pl (Hr h hF) (Hr h hG) n3
  have tg:=Om (K:=K) (cs:=cs) (P:=P) (D:=Ei N F fun z=>vl (G z) pt) h.as (by rw [JK]; exact h.e) (by rw [JK]; exact h.nd) h.V1 mp n2 (fun k hk=>hpt k (h.mem.mp hk)) (N9 h hP) fun p hp=>by
   obtain ⟨k,hk,rfl⟩:=List.mem_map.mp hp
   exact (vl_P h n3 hF hG pt hk).symm
  obtain ⟨x7',x8',C',bx',h2,u2,e⟩:=UU h hb hF hG ds (some (.sh d)) (some (.sh (rD P))) C1 b1 h1 (by omega)
  refine ⟨x7',x8',C',bx',h2,by rw [List.length_cons]; omega,?_⟩
  unfold js at e ⊢
  rw [Cc]
  simp! [tp,t1,t2,tg]
  exact e
theorem gB{N A:List Kn}{F G:Kn→List Row}{b w j:Nat}{C:List Cell}{bx:Bx}(h:Ns N A)(hb:(b=2∧w=2)∨(b=1∧w=3)∨(b=3∧w=1))(hF:∀ k∈N,Gf N b w (F k))(hG:∀ k∈N,Gf N b w (G k))(hbx:C[j]? = some (Jr bx))(hbn:bx.n≤1000000):
  ∃ (C':List Cell) (bx':Bx),EE K cs [Ap cs A (nF F),Ap cs A (nF G),By N F,By N G,.lst (N.map sD),.ad j] C=.ok (.bl true) C'∧C'[j]? = some (Jr bx')∧bx'.n≤bx.n + 40:=by
 have ed:EE K cs [Ap cs A (nF F),Ap cs A (nF G),By N F,By N G,.lst (N.map sD),.ad j] C=runM 9 (IX K cs) [Ap cs A (nF F),Ap cs A (nF G),By N F,By N G,.lst (N.map sD),.ad j] C:=E7 rfl
 rw [ed]
 unfold IX
 obtain ⟨n1,n2,n3⟩:=Qv hb
 have hN:=h.l
 have mf:=Hr h hF
 have mg:=Hr h hG
 have mp:=Mp.Pl mf mg n3
 have ta:=eP (K:=K) (cs:=cs) h.nd h.l (gO hG) n3 (by omega) (w:=w) (by omega) (fun k hk=>(hF k hk).gw.g) (fun k hk=>(hF k hk).len) (by omega) fun k hk=>(hF k hk).gw.w
 have tr:=LO (K:=K) (cs:=cs) (N:=N) (f:=oP (nF F) (nF G)) (R:=fun k=>A7 (F k) G) h.as h.e h.V1 fun k hk=>⟨(kj h hb hF hG (h.mem.mp hk)).2,nf_P h hb hF hG (h.mem.mp hk)⟩
 have om:∀ {ρ:FD.Env},Aa 0 ρ=.ok (Ap cs A (nF F))→Aa 1 ρ=.ok (Ap cs A (nF G))→F8 (AJ K cs) (Aa 0) (Aa 1) ρ=.ok (Ap cs A (oP (nF F) (nF G))):=fun a c=>VJ a c (Qu h.as h.iM mf mg (by omega) n3 n3 (by omega))
 obtain ⟨x7,x8,C',bx',h2,u2,e⟩:=UU (K:=K) (cs:=cs) h hb hF hG (Ik 0 2) none none C bx hbx (by rw [Fb]; omega)
 rw [Fb] at u2
 refine ⟨C',bx',?_,h2,by omega⟩
 have o1:=om (ρ:=[some (.sh (Ap cs A (nF F))),some (.sh (Ap cs A (nF G))),some (.sh (By N F)),some (.sh (By N G)),some (.sh (.lst (N.map sD))),some (.sh (.ad j)),none,none,none,some (.mh C)]) rfl rfl
 have o2:=om (ρ:=js cs N A F G j x7 x8 C') rfl rfl
 have q:=ir (K:=K) (fb:=Aa 6) o2 rfl (by rw [jz (mp.jI h.V1) (mp.jI h.V1),(eqB_iff mp mp).mpr fun _ _ _ _=>Iff.rfl])
 have hf:A1 (Ai 7) (Cj (Ab (eC (.int 2)) Ag)) [] (Am (Bi 8 (Aw 9 (A5 K cs) (xP (Ab (Aa 5) (Ab (Aa 4) Ag))) [5,4]) [])
  (CF (A6 (FD.t1 (Al (BN K cs) (Ab (Aa 6) (Ab (Aa 8) (Ab (Al (AG K cs) (Ab (Aa 2) (Ab (Al (AG K cs) (Ab (Aa 3) (Ab (Aa 8) Ag))) Ag))) Ag)))) A2)) (AA (eC (.bl false)) []) Ar)) (js cs N A F G j none none C)=.ok .nx (js cs N A F G j x7 x8 C'):=by
  rw [Ci]
  show HU (Out.ok (Ik 0 2)) _ _=_
  exact e
 unfold js at hf q
 simp! [o1,ta,tr,hf,q]
def un(k:Kn):List Row:=[[(k,0)]]
def Hl(P:List Kn)(k:Kn):List Kn:=if k∈P then P else P ++ [k]
theorem OG(g:Kn→Dt)(k:Kn):∀ P:List Kn,Lp (P.map kN) (P.map g) (kN k) (g k)=P.map g
 | []=>rfl
 | a :: P=>by
  have ih:=OG g k P
  show (if kN a=kN k then g k else g a) :: Lp (P.map kN) (P.map g) (kN k) (g k)=_
  rw [ih]
  by_cases h:a=k
  ·rw [if_pos (by rw [h]),h]
   rfl
  ·rw [if_neg fun z=>h (Gk z)]
   rfl
theorem hU(P:List Kn)(k:Kn):Es (P.map kN) (Sum.inr (S k))=(Hl P k).map kN:=by
 unfold Hl
 by_cases h:k∈P
 ·have hi:Sum.inr (S k)∈P.map kN:=List.mem_map.mpr ⟨k,h,rfl⟩
  rw [if_pos h]
  unfold Es
  rw [if_pos hi]
 ·rw [if_neg h,HS h]
theorem g4(P:List Kn)(k:Kn)(g:Kn→Dt):CW (P.map kN) (P.map g) (Sum.inr (S k)) (g k)=(Hl P k).map g:=by
 unfold Hl
 by_cases h:k∈P
 ·have hi:Sum.inr (S k)∈P.map kN:=List.mem_map.mpr ⟨k,h,rfl⟩
  rw [if_pos h]
  unfold CW
  rw [if_pos hi]
  exact OG g k P
 ·rw [if_neg h,HP h]
theorem cJ(P:List Kn)(k:Kn):(Hl P k).length≤P.length + 1:=by
 unfold Hl
 split
 ·omega
 ·rw [List.length_append]; exact Nat.le_refl _
theorem RW{d0:Option Lo}:∀ (L P:List Kn) (x:Option Lo),P.length + L.length≤1000→∃ x',BA (Ai 2) (BK 1 (Aa 2) (GK (Ab (V8 (Ab (GK (Ab (Aa 2) (Ab (eC (.int 0)) Ag))) Ag)) Ag)) [2]) (L.map sD) [d0,some (.od (P.map kN) (P.map fun k=>tD (un k))),x]=.ok .nx [d0,some (.od ((L.foldl Hl P).map kN) ((L.foldl Hl P).map fun k=>tD (un k))),x']
 | [],P,x,_=>⟨x,rfl⟩
 | k :: L,P,x,hl=>by
  simp only [List.length_cons] at hl
  have la:=cJ P k
  obtain ⟨x',e⟩:=RW (d0:=d0) L (Hl P k) (some (.sh (.str (S k)))) (by omega)
  refine ⟨x',?_⟩
  have pk:=hU P k
  have pv:CW (P.map kN) (P.map fun k=>tD (un k)) (Sum.inr (S k)) (.tup [.ptp [.tup [.str (S k),.int 0]]])=(Hl P k).map fun k=>tD (un k):=g4 P k fun k=>tD (un k)
  have hlen:(P.map kN).length < 16777216:=map_len P kN (by omega)
  have hz:∀ (lk:List Nat) (ρ:FD.Env),AL (.tup [.ptp [.tup [.str (S k),.int 0]]]) lk ρ=ρ:=fun lk ρ=>CC (EA (un k))
  rw [List.map_cons,Cc]
  unfold sD
  unfold sD at e
  simp! [W4,hz,pk,pv,hlen]
  exact e
theorem ZG{L:List Kn}(hl:L.length≤1000):Fg K cs [.tup (L.map sD)]=.ok (Ff (L.foldl Hl []) un):=by
 have ed:Fg K cs [.tup (L.map sD)]=Ax 3 (Gu K cs) [.tup (L.map sD)]:=AE rfl
 rw [ed]
 unfold Gu
 obtain ⟨x',e⟩:=RW (d0:=some (.sh (.tup (L.map sD)))) L [] none (by simp only [List.length_nil]; omega)
 have hf:A1 (Ai 2) (AB (Aa 0)) [0] (BK 1 (Aa 2) (GK (Ab (V8 (Ab (GK (Ab (Aa 2) (Ab (eC (.int 0)) Ag))) Ag)) Ag)) [2]) [some (.sh (.tup (L.map sD))),some (.od [] []),none]=.ok .nx [some (.sh (.tup (L.map sD))),some (.od ((L.foldl Hl []).map kN) ((L.foldl Hl []).map fun k=>tD (un k))),x']:=e
 simp! [hf,Fd]
 rfl
theorem UK:∀ (L P:List Kn),P.Nodup→(L.foldl Hl P).Nodup∧∀ k,k∈L.foldl Hl P ↔ k∈P∨k∈L
 | [],P,n=>⟨n,fun k=>by simp⟩
 | a :: L,P,n=>by
  have na:(Hl P a).Nodup:=by
   unfold Hl
   split
   ·exact n
   ·rename_i h
    exact List.nodup_append.mpr ⟨n,List.nodup_cons.mpr ⟨(fun z=>nomatch z),List.nodup_nil⟩,fun x hx y hy e=>h (by rw [← List.mem_singleton.mp hy,← e]; exact hx)⟩
  have ma:∀ k,k∈Hl P a ↔ k∈P∨k=a:=fun k=>by
   unfold Hl
   split
   ·rename_i h
    exact ⟨.inl,fun z=>z.elim id fun e=>by rw [e]; exact h⟩
   ·rw [List.mem_append,List.mem_singleton]
  obtain ⟨i1,i2⟩:=UK L (Hl P a) na
  refine ⟨i1,fun k=>?_⟩
  rw [List.foldl_cons,i2,ma,List.mem_cons]
  exact or_assoc
theorem TC(N:List Kn):Fo N un 1:=⟨fun k hk r hr=>by
 rw [List.mem_singleton.mp hr]
 exact ⟨List.nodup_cons.mpr ⟨(fun z=>nomatch z),List.nodup_nil⟩,fun j hj=>by rw [List.mem_singleton.mp hj]; exact hk⟩,fun k _ r hr=>by rw [List.mem_singleton.mp hr]; simp,fun k _=>Nat.le_refl _,fun k _=>List.cons_ne_nil _ _⟩
theorem VC{N A L:List Kn}(h:Ns N A)(hl:L.length≤1000)(hm:∀ k,k∈L ↔ k∈N):A9 K cs (L.map sD)=.ok (Ap cs A (nF un)):=by
 have ed:A9 K cs (L.map sD)=Ax 1 (Hc K cs) [.tup (L.map sD)]:=by
  unfold A9 X3
  rw [if_pos ⟨Nat.zero_le _,by rw [List.length_map]; omega⟩]
  rfl
 rw [ed]
 unfold Hc
 obtain ⟨i1,i2⟩:=UK L [] List.nodup_nil
 have t1:=ZG (K:=K) (cs:=cs) hl
 obtain ⟨Q,hQ⟩:∃ Q,Q=L.foldl Hl []:=⟨_,rfl⟩
 rw [← hQ] at i1 i2 t1
 have hp:Q.Perm N:=(List.perm_ext_iff_of_nodup i1 h.nd).mpr fun k=>by
  rw [i2,hm]
  simp
 have hs:kO.sort Q=A:=by rw [← h.e]; exact kO.sort_congr hp
 have lQ:=hp.length_eq
 have t2:=Rc (K:=K) (cs:=cs) (N:=Q) i1 (by rw [lQ]; exact h.l) (fun z=>h.ne (List.eq_nil_of_length_eq_zero (by rw [← lQ,z]; rfl))) ((TC Q).mono (by decide))
 rw [hs] at t2
 have t2:Eu K cs [Ff Q un]=.ok (Ap cs A (nF un)):=t2
 simp! [t1,t2]
theorem c5{L:List Kn}{r:Out Dt}{fs:FD.Env→Out (List Dt)}{ρ:FD.Env}(hf:fs ρ=.ok (L.map sD))(e:A9 K cs (L.map sD)=r):Ge cs.c_Map (A9 K cs) (eC (.cls cs.c_Map)) fs ρ=r:=by
 unfold Ge
 show (if cs.c_Map=cs.c_Map then (fs ρ).bind fun as=>A9 K cs as else Out.bad)=_
 rw [if_pos rfl,hf]
 exact e
theorem fy{N A:List Kn}(h:Ns N A)(h2:2≤N.length)(h4:N.length≤4):HI K cs [.lst (N.map sD)]=.ok (Ap cs A (nF un)):=by
 have ed:HI K cs [.lst (N.map sD)]=Ax 1 (HH K cs) [.lst (N.map sD)]:=AE rfl
 rw [ed]
 unfold HH
 have gl:BO [.lst (N.map sD)]=some (.int (N.length:Nat)):=by rw [GY,List.length_map]
 match N,h,h2,h4,gl with
 | [a,b],h,_,_,gl=>
  have t:=VC (K:=K) (cs:=cs) (L:=[b,a,b]) h (by simp) fun k=>⟨fun z=>by
   simp only [List.mem_cons,List.not_mem_nil,or_false] at z
   rcases z with rfl | rfl | rfl <;> simp,fun z=>by
   simp only [List.mem_cons,List.not_mem_nil,or_false] at z
   rcases z with rfl | rfl <;> simp⟩
  have q:=c5 (K:=K) (cs:=cs) (L:=[b,a,b]) (fs:=(Ab (FD.e2 (Aa 0) (eC (.int 1)) AW) (Ab (FD.e2 (Aa 0) (eC (.int 0)) AW) (Ab (FD.e2 (Aa 0) (eC (.int 1)) AW) Ag)))) (ρ:=[some (.sh (.lst [sD a,sD b]))]) rfl t
  have gl:BO [.lst [sD a,sD b]]=some (.int 2):=gl
  have hb:((2:Int) == (2:Int))=true:=rfl
  simp! [gl,hb,q]
 | [a,b,c],h,_,_,gl=>
  have t:=VC (K:=K) (cs:=cs) (L:=[c,a,c,b]) h (by simp) fun k=>⟨fun z=>by
   simp only [List.mem_cons,List.not_mem_nil,or_false] at z
   rcases z with rfl | rfl | rfl | rfl <;> simp,fun z=>by
   simp only [List.mem_cons,List.not_mem_nil,or_false] at z
   rcases z with rfl | rfl | rfl <;> simp⟩
  have q:=c5 (K:=K) (cs:=cs) (L:=[c,a,c,b]) (fs:=(Ab (FD.e2 (Aa 0) (eC (.int 2)) AW) (Ab (FD.e2 (Aa 0) (eC (.int 0)) AW) (Ab (FD.e2 (Aa 0) (eC (.int 2)) AW) (Ab (FD.e2 (Aa 0) (eC (.int 1)) AW) Ag))))) (ρ:=[some (.sh (.lst [sD a,sD b,sD c]))]) rfl t
  have gl:BO [.lst [sD a,sD b,sD c]]=some (.int 3):=gl
  have hb1:((3:Int) == (2:Int))=false:=rfl
  have hb2:((3:Int) == (3:Int))=true:=rfl
  simp! [gl,hb1,hb2,q]
 | [a,b,c,d],h,_,_,gl=>
  have t:=VC (K:=K) (cs:=cs) (L:=[b,d,a,c]) h (by simp) fun k=>⟨fun z=>by
   simp only [List.mem_cons,List.not_mem_nil,or_false] at z
   rcases z with rfl | rfl | rfl | rfl <;> simp,fun z=>by
   simp only [List.mem_cons,List.not_mem_nil,or_false] at z
   rcases z with rfl | rfl | rfl | rfl <;> simp⟩
  have q:=c5 (K:=K) (cs:=cs) (L:=[b,d,a,c]) (fs:=(Ab (FD.e2 (Aa 0) (eC (.int 1)) AW) (Ab (FD.e2 (Aa 0) (eC (.int 3)) AW) (Ab (FD.e2 (Aa 0) (eC (.int 0)) AW) (Ab (FD.e2 (Aa 0) (eC (.int 2)) AW) Ag))))) (ρ:=[some (.sh (.lst [sD a,sD b,sD c,sD d]))]) rfl t
  have gl:BO [.lst [sD a,sD b,sD c,sD d]]=some (.int 4):=gl
  have hb1:((4:Int) == (2:Int))=false:=rfl
  have hb2:((4:Int) == (3:Int))=false:=rfl
  simp! [gl,hb1,hb2,q]
theorem RP(A:List Kn):Mp A (nF un) 1 1:=(TC A).mp fun k _ r hr=>by rw [List.mem_singleton.mp hr]; exact Nat.le_refl _
theorem iB{A:List Kn}{k:Kn}(hk:k∈A){P:Kn→Int→Prop}(hP:Ib P):W (nF un k) P ↔ P k 0:=by
 unfold nF
 rw [bE ((TC A).g k hk).nd hP]
 unfold W Up un
 constructor
 ·rintro ⟨r,hr,h⟩
  rw [List.mem_singleton.mp hr] at h
  exact h (k,0) (List.mem_singleton.mpr rfl)
 ·intro h
  exact ⟨[(k,0)],List.mem_singleton.mpr rfl,fun p hp=>by rw [List.mem_singleton.mp hp]; exact h⟩
section
variable {N A:List Kn} {F:Kn→List Row} {b w:Nat}
theorem Xm{f:Kn→List Row}(hf:Mp A f b w)(hb:1≤b){k:Kn}(hk:k∈A):oP (nF un) f k=f k:=by
 have mp:=Mp.Pl (RP A) hf hb
 rw [← mp.s k hk]
 conv=>rhs; rw [← hf.s k hk]
 refine (fM (mp.fo.g k hk).nd (hf.fo.g k hk).nd).mpr fun q c=>?_
 unfold V
 rw [gz (RP A) hf hb hk (D8 q c),iB hk (Vl (D8 q c))]
 exact EC fun r hr p hp=>by rw [Int.add_zero]
theorem bA{f:Kn→List Row}(hf:Mp A f b w){k:Kn}(hk:k∈A):oP f (nF un) k=f k:=by
 have mp:=Mp.Pl hf (RP A) (Nat.le_refl 1)
 rw [← mp.s k hk]
 conv=>rhs; rw [← hf.s k hk]
 refine (fM (mp.fo.g k hk).nd (hf.fo.g k hk).nd).mpr fun q c=>?_
 unfold V
 rw [gz hf (RP A) (Nat.le_refl 1) hk (D8 q c)]
 refine EC fun r hr p hp=>?_
 rw [iB ((hf.fo.g k hk r hr).sub p.1 (BH hp)) fun j x y hxy z=>D8 q c j _ _ (by omega) z,Int.zero_add]
theorem jR(pt:Kn→Int){k:Kn}(hk:k∈A):vl (nF un k) pt=pt k:=by
 have m:=RP A
 have key:∀ c,vl (nF un k) pt≤c ↔ pt k≤c:=fun c=>by
  rw [SG (m.fo.e k hk) (m.fo.n k hk),V,iB hk (D8 pt c)]
  unfold XA
  rw [Int.add_zero]
 exact Int.le_antisymm ((key _).mpr (Int.le_refl _)) ((key _).mp (Int.le_refl _))
end
theorem XY{N A:List Kn}{F:Kn→List Row}{b w j:Nat}{C:List Cell}{bx:Bx}(h:Ns N A)(h2:2≤N.length)(hb:(b=2∧w=2)∨(b=1∧w=3)∨(b=3∧w=1))(hF:∀ k∈N,Gf N b w (F k))(hbx:C[j]? = some (Jr bx))(hbn:bx.n≤1000000):
  ∃ C':List Cell,DY K cs [Ap cs A (nF F),.lst (N.map sD),By N F,.ad j] C=.ok (.bl true) C':=by
 have ed:DY K cs [Ap cs A (nF F),.lst (N.map sD),By N F,.ad j] C=runM 8 (E6 K cs) [Ap cs A (nF F),.lst (N.map sD),By N F,.ad j] C:=E7 rfl
 rw [ed]
 unfold E6
 have gl:BO [.lst (N.map sD)]=some (.int (N.length:Nat)):=by rw [GY,List.length_map]
 obtain ⟨p1,p2,n3⟩:=Qv hb
 by_cases h4:4 < N.length
 ·have hd:decide ((4:Int) < (N.length:Int))=true:=decide_eq_true (by omega)
  refine ⟨C,?_⟩
  simp! [gl,hd]
 have hd:decide ((4:Int) < (N.length:Int))=false:=decide_eq_false (by omega)
 have hN:=h.l
 have mf:=Hr h hF
 have mu:=RP A
 have tu:=fy (K:=K) (cs:=cs) h h2 (by omega)
 obtain ⟨ρ',e,x6,hρ⟩:=MX (u:=Ai 6) (b:=(BK 5 (Aa 6) (eL (Eb (Ab (Lg (Aa 6) (eC (.int 0))) Ag))) [])) (E:=fun P ρ=>∃ x:Option Lo,ρ=[some (.sh (Ap cs A (nF F))),some (.sh (.lst (N.map sD))),some (.sh (By N F)),some (.sh (.ad j)),some (.sh (Ap cs A (nF un))),some (.od (P.map kN) (P.map fun k=>CP (un k))),x,none,some (.mh C)]) h.nd (fun P k L ρ eA hk hkN ⟨x,hρ⟩=>by
  subst hρ
  refine ⟨[some (.sh (Ap cs A (nF F))),some (.sh (.lst (N.map sD))),some (.sh (By N F)),some (.sh (.ad j)),some (.sh (Ap cs A (nF un))),some (.od (P.map kN) (P.map fun k=>CP (un k))),some (.sh (sD k)),none,some (.mh C)],[some (.sh (Ap cs A (nF F))),some (.sh (.lst (N.map sD))),some (.sh (By N F)),some (.sh (.ad j)),some (.sh (Ap cs A (nF un))),some (.od ((P ++ [k]).map kN) ((P ++ [k]).map fun k=>CP (un k))),some (.sh (sD k)),none,some (.mh C)],rfl,?_,_,rfl⟩
  have d1:Lg (Aa 6) (eC (.int 0)) [some (.sh (Ap cs A (nF F))),some (.sh (.lst (N.map sD))),some (.sh (By N F)),some (.sh (.ad j)),some (.sh (Ap cs A (nF un))),some (.od (P.map kN) (P.map fun k=>CP (un k))),some (.sh (.str (S k))),none,some (.mh C)]=.ok (rD [(k,0)]):=rfl
  have pk:=HS hk
  have pv:CW (P.map kN) (P.map fun k=>CP (un k)) (Sum.inr (S k)) (.lst [rD [(k,0)]])=(P ++ [k]).map fun k=>CP (un k):=HP hk fun k=>CP (un k)
  have hlen:=Tg eA hN
  unfold sD
  unfold sD at d1
  simp! [d1,pk,pv,hlen,FD.F9]) N [] [some (.sh (Ap cs A (nF F))),some (.sh (.lst (N.map sD))),some (.sh (By N F)),some (.sh (.ad j)),some (.sh (Ap cs A (nF un))),some (.od [] []),none,none,some (.mh C)] rfl ⟨none,rfl⟩
 subst hρ
 have hf:A1 (Ai 6) (AB (Aa 1)) [1] (BK 5 (Aa 6) (eL (Eb (Ab (Lg (Aa 6) (eC (.int 0))) Ag))) []) [some (.sh (Ap cs A (nF F))),some (.sh (.lst (N.map sD))),some (.sh (By N F)),some (.sh (.ad j)),some (.sh (Ap cs A (nF un))),some (.od [] []),none,none,some (.mh C)]=_:=e
 have tr0:A4 K cs [Ap cs A (nF un),.dic (N.map kN) (N.map fun k=>CP (un k))]=.ok (.bl true):=LO (K:=K) (cs:=cs) (N:=N) (f:=nF un) (R:=un) h.as h.e h.V1 fun k hk=>⟨gJ h ((TC N).g k (h.mem.mp hk)) (List.cons_ne_nil _ _) ((TC N).n k (h.mem.mp hk)) (by simp [un]),rfl⟩
 obtain ⟨P,C',b',tp,hP,hb',ub⟩:=OO (K:=K) (cs:=cs) hbx (by omega) h.nd hN
 obtain ⟨pt,hpt⟩:=Us hP
 have nP:(ks P).Nodup:=by rw [hP]; exact (List.reverse_perm N).nodup_iff.mpr h.nd
 have tg:=Om (K:=K) (cs:=cs) (P:=P) (D:=P) h.as (by rw [hP,← h.e]; exact kO.sort_congr (List.reverse_perm N)) nP h.V1 mu (by decide) (fun k hk=>hpt k (h.mem.mp hk)) (N9 h hP) fun p hp=>by
  have hm:=BH (x:=p.2) hp
  rw [hP] at hm
  have hpN:=List.mem_reverse.mp hm
  have e1:=hpt p.1 hpN
  rw [K1 nP hp] at e1
  rw [jR pt (h.mem.mpr hpN)]
  exact Option.some.inj e1
 have l1:=LO (K:=K) (cs:=cs) (N:=N) (f:=oP (nF un) (nF F)) (R:=F) h.as h.e h.V1 fun k hk=>⟨Ny h (by omega) (hF k (h.mem.mp hk)),Xm mf n3 hk⟩
 have l2:=LO (K:=K) (cs:=cs) (N:=N) (f:=oP (nF F) (nF un)) (R:=F) h.as h.e h.V1 fun k hk=>⟨Ny h (by omega) (hF k (h.mem.mp hk)),bA mf hk⟩
 obtain ⟨ρ,hρ⟩:∃ ρ:FD.Env,ρ=[some (.sh (Ap cs A (nF F))),some (.sh (.lst (N.map sD))),some (.sh (By N F)),some (.sh (.ad j)),some (.sh (Ap cs A (nF un))),some (.od (N.map kN) (N.map fun k=>CP (un k))),x6,some (.sh (rD P)),some (.mh C')]:=⟨_,rfl⟩
 have v0:Aa 0 ρ=.ok (Ap cs A (nF F)):=by rw [hρ]; rfl
 have v4:Aa 4 ρ=.ok (Ap cs A (nF un)):=by rw [hρ]; rfl
 have o1:F8 (AJ K cs) (Aa 4) (Aa 0) ρ=.ok (Ap cs A (oP (nF un) (nF F))):=VJ v4 v0 (Qu h.as h.iM mu mf (by rw [Nat.one_mul,Nat.pow_one]; omega) (by decide) n3 (by omega))
 have o2:F8 (AJ K cs) (Aa 0) (Aa 4) ρ=.ok (Ap cs A (oP (nF F) (nF un))):=VJ v0 v4 (Qu h.as h.iM mf mu (by rw [Nat.one_pow,Nat.mul_one]; omega) n3 (by decide) (by decide))
 have mp:=Mp.Pl mu mf n3
 have q:=ir (K:=K) o1 v0 (by rw [jz (mp.jI h.V1) (mf.jI h.V1),(eqB_iff mp mf).mpr fun k hk _ _=>by rw [Xm mf n3 hk]])
 subst hρ
 refine ⟨C',?_⟩
 simp! [gl,hd,tu,hf,tr0,tp,tg,o1,l1,o2,l2,q,Fd]
end Lk15
namespace Lk15
open PySem L2 FD SX TL Nf
variable {P:Program} {w:World} {K:PySem.W.Frag} {mg:Str→Option Value} {base:Heap} {cs:Cs}
abbrev Y7(cs:Cs):Exn:=⟨cs.c_EmptyForm,[]⟩
theorem cb{Ds:List Addr}{c:Value}{i:Nat}{g:FD.Env→SOut}{h:Addr→Option Addr→Addr→FD.Env→SOut}{ρ ρ1:FD.Env}{x:Exn}{r:SOut}(hg:g ρ=.exc x ρ1)(hm:PySem.W.exmOne K (.ref x.cls) c=some true)(hD:x.cls∈Ds)
  (hh:∀ a d,unset i (h a d x.cls (ρ1.set i (some (.sh (Wl x a d)))))=r):IW K Ds c i g h ρ=r:=by
 rw [Wf,hg]
 simp only
 rw [if_pos hm,if_pos hD]
 exact Xv hh
theorem az:newD cs.c_Map (AM K cs) [.dic [] []]=.exc (Y7 cs):=by
 have ed:∀ c,AM K cs [.ad 0,.dic [] []] c=runM 4 (B9 K cs) [.ad 0,.dic [] []] c:=fun _=>E7 rfl
 have gl:G2 [.dic [] []]=some (.int 0):=rfl
 have hb:((0:Int) == (0:Int))=true:=rfl
 have hi:runM 4 (B9 K cs) [.ad 0,.dic [] []] [.ins cs.c_Map [] []]=.exc (Y7 cs) [.ins cs.c_Map [] []]:=by
  unfold B9
  simp! [gl,hb,and_self,Dt.DK,List.zip_nil_left]
  rfl
 unfold newD
 rw [if_pos (by rfl),ed,hi]
theorem map_none:Eu K cs [.dic [] []]=.exc (Y7 cs):=by
 have ed:Eu K cs [.dic [] []]=Ax 4 (IC K cs) [.dic [] []]:=AE rfl
 rw [ed]
 unfold IC
 have t:=az (K:=K) (cs:=cs)
 have hf:A1 (Ai 2) (AB (eL (lB BU (Ab (eL (lB BR (Ab (Aa 0) Ag))) Ag)))) [0] (Am (Ir (Al (DV K cs) (Ab (FD.e2 (Aa 0) (Aa 2) AH) Ag)))
  (BK 1 (Aa 2) (eL (Fi (Ai 3) [3] AK (eB Ef (Ab (Aa 3) Ag)) (AB (FD.e2 (Aa 0) (Aa 2) AH)) [0,2])) [0,2,3,3])) [some (.sh (.dic [] [])),some (.od [] []),none,none]=.ok .nx [some (.sh (.dic [] [])),some (.od [] []),none,none]:=by
  have gk:BR [.dic [] []]=some (([]:List Kn).map sD):=rfl
  have e0:kO.sort []=[]:=List.mergeSort_nil
  have gs:BU [.lst []]=some []:=by
   have z:=Iq []
   rw [e0] at z
   exact z
  rw [Ci]
  simp! [Jl,gk,gs]
 simp! [hf,t]
theorem YJ:A9 K cs []=.exc (Y7 cs):=by
 have ed:A9 K cs []=Ax 1 (Hc K cs) [.tup []]:=by
  unfold A9 X3
  rw [if_pos ⟨Nat.zero_le _,by simp⟩]
  rfl
 rw [ed]
 unfold Hc
 have t1:Fg K cs [.tup []]=.ok (.dic [] []):=ZG (L:=[]) (by simp)
 have t2:=map_none (K:=K) (cs:=cs)
 simp! [t1,t2]
theorem Yz(T:Tx P w K mg base cs):D1 K cs []=.ok (.bl true):=by
 have ed:D1 K cs []=Ax 2 (EY K cs) []:=AE rfl
 rw [ed]
 unfold EY
 have hg:(Ir (Ge cs.c_Map (A9 K cs) (eC (.cls cs.c_Map)) Ag)) [none,none]=.exc (Y7 cs) [none,none]:=by
  have q:Ge cs.c_Map (A9 K cs) (eC (.cls cs.c_Map)) Ag [none,none]=.exc (Y7 cs):=c5 (L:=[]) rfl YJ
  simp! [q]
 have s1:(IW K cs.all (.ref cs.c_EmptyForm) 0 (Ir (Ge cs.c_Map (A9 K cs) (eC (.cls cs.c_Map)) Ag))
  (fun a d C=>(Am (A8 1 (Hi (eB (Fm K C a d) (Ab (Aa 0) (Ab (eC (.cls cs.c_Refused)) Ag))) (Hi (eB (Fm K C a d) (Ab (Aa 0) (Ab (eC (.cls cs.c_HouseError)) Ag))) (eB (Fm K C a d) (Ab (Aa 0) (Ab (eC (.ty "ValueError")) Ag))))) [])
  (AA (Hi (Aa 1) (Hi (SI (eB (Fm K C a d) (Ab (Aa 0) (Ab (eC (.cls cs.c_Unfit)) Ag)))) (Hi (SI (eB (Fm K C a d) (Ab (Aa 0) (Ab (eC (.cls cs.c_NoAnswer)) Ag)))) (SI (eB (Fm K C a d) (Ab (Aa 0) (Ab (eC (.cls cs.c_NoName)) Ag))))))) [])))) [none,none]=.ok (.rt (.bl true)) [none,some (.sh (.bl true))]:=by
  refine cb hg T.x_EmptyForm_EmptyForm (by simp [Cs.all]) fun a d=>?_
  have z1:Fm K cs.c_EmptyForm a d [Wl (Y7 cs) a d,.cls cs.c_Refused]=some (.bl true):=JG T.i_EmptyForm_Refused
  have z2:Fm K cs.c_EmptyForm a d [Wl (Y7 cs) a d,.cls cs.c_HouseError]=some (.bl true):=JG T.i_EmptyForm_HouseError
  have z3:Fm K cs.c_EmptyForm a d [Wl (Y7 cs) a d,.ty "ValueError"]=some (.bl true):=dO T.i_EmptyForm_ValueError
  have z4:Fm K cs.c_EmptyForm a d [Wl (Y7 cs) a d,.cls cs.c_Unfit]=some (.bl false):=JG T.i_EmptyForm_Unfit
  have z5:Fm K cs.c_EmptyForm a d [Wl (Y7 cs) a d,.cls cs.c_NoAnswer]=some (.bl false):=JG T.i_EmptyForm_NoAnswer
  have z6:Fm K cs.c_EmptyForm a d [Wl (Y7 cs) a d,.cls cs.c_NoName]=some (.bl false):=JG T.i_EmptyForm_NoName
  simp only [List.set_cons_succ,List.set_cons_zero]
  simp! [z1,z2,z3,z4,z5,z6]
 rw [IV]
 simp only [List.map_nil,List.length_nil,Nat.reduceSub,List.replicate_succ,List.replicate_zero,List.nil_append]
 rw [Jk,s1]
 rfl
section
variable {N A:List Kn} {F:Kn→List Row} {f g h:Kn→List Row} {b c d v u x:Nat}
theorem ZN(hF:Gf N b x (F k))(q:Kn→Int):vl (nF F k) q=vl (F k) q:=by
 have key:∀ c,vl (nF F k) q≤c ↔ vl (F k) q≤c:=fun c=>by
  show vl (nf (F k)) q≤c ↔ _
  rw [SG (f9 hF.gw.g.nd hF.ne) (NF.ne hF.gw.g.nd hF.gw.n),SG hF.ne hF.gw.n]
  exact jf hF (D8 q c)
 exact Int.le_antisymm ((key _).mpr (Int.le_refl _)) ((key _).mp (Int.le_refl _))
theorem Qf{R:List Row}{q q':Kn→Int}(h:∀ r∈R,∀ p∈r,q p.1=q' p.1):vl R q=vl R q':=by
 unfold vl
 congr 1
 refine List.map_congr_left fun r hr=>?_
 unfold mx
 congr 1
 exact List.map_congr_left fun p hp=>by rw [h r hr p hp]
theorem WG(hf:Mp A f b x)(hg:Mp A g c v)(hc:1≤c)(pt:Kn→Int){k:Kn}(hk:k∈A):vl (oP f g k) pt=vl (f k) fun z=>vl (g z) pt:=by
 have mp:=Mp.Pl hf hg hc
 have key:∀ c',vl (oP f g k) pt≤c' ↔ vl (f k) (fun z=>vl (g z) pt)≤c':=fun c'=>by
  rw [SG (mp.fo.e k hk) (mp.fo.n k hk),SG (hf.fo.e k hk) (hf.fo.n k hk),V,gz hf hg hc hk (D8 pt c')]
  refine EC fun r hr p hp=>?_
  have hz:=(hf.fo.g k hk r hr).sub p.1 (BH hp)
  have e:=SG (f:=pt) (c:=c' - p.2) (hg.fo.e p.1 hz) (hg.fo.n p.1 hz)
  unfold XA
  constructor
  ·intro z
   have:vl (g p.1) pt≤c' - p.2:=e.mpr ((EC fun s hs q hq=>by unfold XA; omega).mp z)
   show vl (g p.1) pt + p.2≤c'
   omega
  ·intro z
   have z:vl (g p.1) pt + p.2≤c':=z
   exact (EC fun s hs q hq=>by unfold XA; omega).mpr (e.mp (by omega))
 exact Int.le_antisymm ((key _).mpr (Int.le_refl _)) ((key _).mp (Int.le_refl _))
theorem e8(hf:Mp A f b x)(hg:Mp A g c v)(hh:Mp A h d u)(hb:1≤b)(hc:1≤c)(hd:1≤d):eqB A (oP (oP f g) h) (oP f (oP g h))=true:=by
 have fg:=Mp.Pl hf hg hc
 have gh:=Mp.Pl hg hh hd
 have n1:1≤c * d ^ v:=Nat.le_trans hc (Nat.le_mul_of_pos_right _ (Nat.pow_pos hd))
 refine (eqB_iff (Mp.Pl fg hh hd) (Mp.Pl hf gh n1)).mpr fun k hk P hP=>?_
 rw [gz fg hh hd hk hP,gz hf hg hc hk (Vl hP),gz hf gh n1 hk hP]
 refine EC fun r hr p hp=>?_
 have hz:=(hf.fo.g k hk r hr).sub p.1 (BH hp)
 rw [gz hg hh hd hz fun j x y hxy z=>hP j _ _ (by omega) z]
 refine EC fun s hs q hq=>?_
 refine EC fun t ht i hi=>?_
 rw [Int.add_assoc]
end
abbrev Vd(ns:List Int)(x1 x2 x3 x4 x5 x6 x7 x8 x9 x10 x11 x12 x13 x14 x15 x16 x17:Option Lo)(C:List Cell):FD.Env:=[some (.sh (.fls (ns.map .int))),x1,x2,x3,x4,x5,x6,x7,x8,x9,x10,x11,x12,x13,x14,x15,x16,x17,some (.mh C)]
theorem j8{f:FD.Env→XO Bool}{ρ:FD.Env}:xT f ρ=(f ρ).bind fun b ρ1=>.ok (.bl b) ρ1:=rfl
theorem a5{l:List Int}{i:Int}(h0:0≤i)(h1:i < (l.length:Int)):∃ z∈l,atI (l.map Dt.int) i=some (.int z):=by
 obtain ⟨z,hz,hm⟩:=OB h0 h1
 exact ⟨z,List.mem_of_getElem? hm,by rw [Of,hz]; rfl⟩
theorem kB{ns:List Int}(hl:ns.length≤63):∃ (lg:Bool) (N:List Kn) (C:List Cell),2≤N.length∧N.length≤20∧N.Nodup∧(∀ k∈N,Nm k)∧∀ G:FD.Env→SOut,(Am (Bi 1 (Aw 18 (Bz K cs) (xP (Ab (Aa 0) (Ab (eC (.int 0)) Ag))) [0]) []) (Am (Bi 2 (xT (FD.Xw (Aw 18 (Ao K cs) (xP (Ab (Aa 1) (Ab (eC (.int 8)) Ag))) [1]) (xP (eC (.int 7))) Nv)) []) (Am (Bi 3 (FD.x2 (xP (eL (Eb (Ab (eC (.int 3)) (Ab (eC (.int 2)) (Ab (eC (.int 4)) Ag)))))) (Aw 18 (Ao K cs) (xP (Ab (Aa 1) (Ab (eC (.int 3)) Ag))) [1]) AW) []) (Am (CF (FD.t1 (Aa 2) A2) (Bi 3 (FD.x2 (xP (eC (.int 9))) (Aw 18 (Ao K cs) (xP (Ab (Aa 1) (Ab (eC (.int 12)) Ag))) [1]) AX) []) Ar) (Am (Bi 4 (Aw 18 (EZ K cs) (xP (Ab (Aa 1) (Ab (Aa 3) Ag))) [1,3]) []) G))))) (Vd ns none none none none none none none none none none none none none none none none none [])=G (Vd ns (some (.sh (.ad 0))) (some (.sh (.bl lg))) (some (.sh (.int (N.length:Nat)))) (some (.sh (.lst (N.map sD)))) none none none none none none none none none none none none none C):=by
 obtain ⟨b,t0,hb0⟩:=WV (K:=K) (cs:=cs) ns (k:=0) (by omega) hl []
 have a0:([Jr b]:List Cell)[0]? = some (Jr b):=rfl
 have t0:Bz K cs [.fls (ns.map .int),.int 0] []=.ok (.ad 0) [Jr b]:=t0
 obtain ⟨v,C1,b1,t1,v0,v1,s1⟩:=JN (K:=K) (cs:=cs) a0 (by omega) (s:=8) (by decide) (by decide)
 have u1:=s1.up
 obtain ⟨y,C2,b2,t2,y0,y1,s2⟩:=JN (K:=K) (cs:=cs) s1.OF (by omega) (s:=3) (by decide) (by decide)
 have u2:=s2.up
 obtain ⟨c,hc,hix⟩:=a5 (l:=[3,2,4]) y0 y1
 have hix:atI [Dt.int 3,.int 2,.int 4] y=some (Dt.int c):=hix
 have hc':2≤c∧c≤4:=by
  simp only [List.mem_cons,List.not_mem_nil,or_false] at hc
  omega
 by_cases hv:v=7
 ·subst hv
  obtain ⟨q,C3,b3,t3,q0,q1,s3⟩:=JN (K:=K) (cs:=cs) s2.OF (by omega) (s:=12) (by decide) (by decide)
  have u3:=s3.up
  obtain ⟨n,hn⟩:∃ n:Nat,(9:Int) + q=(n:Int):=⟨(9 + q).toNat,by omega⟩
  obtain ⟨N,C4,b4,t4,nd,lN,hN,s4⟩:=Xa (K:=K) (cs:=cs) s3.OF (by omega) (k:=n) (by omega)
  refine ⟨true,N,C4,by omega,by omega,nd,hN,fun G=>?_⟩
  rw [lN]
  simp! [j8,t0,t1,beq_self_eq_true,t2,hix,t3,hn,t4]
 ·have hv':(v == (7:Int))=false:=beq_eq_false_iff_ne.mpr hv
  obtain ⟨n,rfl⟩:∃ n:Nat,c=(n:Int):=⟨c.toNat,by omega⟩
  obtain ⟨N,C4,b4,t4,nd,lN,hN,s4⟩:=Xa (K:=K) (cs:=cs) s2.OF (by omega) (k:=n) (by omega)
  refine ⟨false,N,C4,by omega,by omega,nd,hN,fun G=>?_⟩
  rw [lN]
  simp! [j8,t0,t1,hv',t2,hix,t4]
theorem jc{c:Int}(h:c∈[(0:Int),0,1,2]):∃ b w,Shp c b w:=by
 simp only [List.mem_cons,List.not_mem_nil,or_false] at h
 rcases h with rfl | rfl | rfl | rfl
 ·exact ⟨2,2,rfl,rfl,.inl ⟨rfl,rfl⟩⟩
 ·exact ⟨2,2,rfl,rfl,.inl ⟨rfl,rfl⟩⟩
 ·exact ⟨1,3,rfl,rfl,.inr (.inl ⟨rfl,rfl⟩)⟩
 ·exact ⟨3,1,rfl,rfl,.inr (.inr ⟨rfl,rfl⟩)⟩
theorem kG{ns:List Int}(hl:ns.length≤63){lg:Bool}{x1 x3 x4:Option Lo}(C:List Cell):∃ (x5:Option Lo) (s:Int × Int) (sh:Int) (b w:Nat) (C':List Cell),QF s∧Shp sh b w∧∀ G:FD.Env→SOut,(Am (Bi 5 (Aw 18 (Bz K cs) (xP (Ab (Aa 0) (Ab (eC (.int 1)) Ag))) [0]) []) (Am (Bi 6 (Aw 18 (Eo K cs) (xP (Ab (Aa 5) Ag)) [5]) []) (Am (Bi 7 (FD.x2 (xP (eL (Eb (Ab (eC (.int 0)) (Ab (eC (.int 0)) (Ab (eC (.int 1)) (Ab (eC (.int 2)) Ag))))))) (Aw 18 (Ao K cs) (xP (Ab (Aa 5) (Ab (eC (.int 4)) Ag))) [5]) AW) []) (Am (CF (FD.t1 (Aa 2) A2) (A8 7 (eC (.int 1)) []) Ar) G)))) (Vd ns x1 (some (.sh (.bl lg))) x3 x4 none none none none none none none none none none none none none C)=G (Vd ns x1 (some (.sh (.bl lg))) x3 x4 x5 (some (.sh (DH s))) (some (.sh (.int sh))) none none none none none none none none none none C'):=by
 obtain ⟨b,t0,hb0⟩:=WV (K:=K) (cs:=cs) ns (k:=1) (by omega) hl C
 have t0:Bz K cs [.fls (ns.map .int),.int 1] C=.ok (.ad C.length) (C ++ [Jr b]):=t0
 have a0:(C ++ [Jr b])[C.length]? = some (Jr b):=List.getElem?_concat_length ..
 obtain ⟨s,C1,b1,t1,hs,s1⟩:=aZ (K:=K) (cs:=cs) a0 (by omega)
 have u1:=s1.up
 obtain ⟨y,C2,b2,t2,y0,y1,s2⟩:=JN (K:=K) (cs:=cs) s1.OF (by omega) (s:=4) (by decide) (by decide)
 obtain ⟨c,hc,hix⟩:=a5 (l:=[0,0,1,2]) y0 y1
 have hix:atI [Dt.int 0,.int 0,.int 1,.int 2] y=some (Dt.int c):=hix
 cases lg with
 | true=>
  refine ⟨some (.sh (.ad C.length)),s,1,1,3,C2,hs,⟨rfl,rfl,.inr (.inl ⟨rfl,rfl⟩)⟩,fun G=>?_⟩
  simp! [t0,t1,t2,hix]
 | false=>
  obtain ⟨b,w,hsh⟩:=jc hc
  refine ⟨some (.sh (.ad C.length)),s,c,b,w,C2,hs,hsh,fun G=>?_⟩
  simp! [t0,t1,t2,hix]
theorem iU{k c:Nat}(hk:k < 3)(hc:c < 21):gI Wb (· * ·) (.int (k:Nat)) (.int (c:Nat))=some (.int ((k * c:Nat):Int)):=by
 have h:∀ k:Nat,k < 3→∀ c:Nat,c < 21→Wb (k:Int) (c:Int)=true:=by decide +kernel
 rw [HZ,if_pos (h k hk c hc),Int.natCast_mul]
abbrev bK(N:List Kn)(F0 F1 F2:Kn→List Row):List Dt:=[By N F0,By N F1,By N F2]
theorem Vv{N A:List Kn}{F:Kn→List Row}{b w:Nat}(h:Ns N A)(hb:b≤3)(hF:∀ k∈N,Gf N b w (F k)):newD cs.c_Map (AM K cs) [By N F]=.ok (Ap cs A (nF F)):=by
 have t:=Xg (K:=K) (cs:=cs) (F:=F) h.nd h.l h.ne ⟨fun k hk=>(hF k hk).gw.g,fun k hk=>(hF k hk).gw.n,fun k hk=>Nat.le_trans (hF k hk).len (by omega),fun k hk=>(hF k hk).ne⟩
 rw [h.e] at t
 exact t
theorem Tn{N A:List Kn}{F:Kn→List Row}{b w:Nat}(h:Ns N A)(hb:b≤3)(hF:∀ k∈N,Gf N b w (F k)):Ct K cs [By N F]=.ok (By N F):=ik h.nd h.l fun k hk=>by have:=(hF k hk).len; omega
theorem P2{N A:List Kn}{F:Kn→List Row}{b w:Nat}(h:Ns N A)(hb:b≤3)(hF:∀ k∈N,Gf N b w (F k)):A4 K cs [Ap cs A (nF F),By N F]=.ok (.bl true):=LO h.as h.e h.V1 fun k hk=>⟨Ny h (by omega) (hF k (h.mem.mp hk)),rfl⟩
theorem kR{ns:List Int}(hl:ns.length≤63){N A:List Kn}{s:Int × Int}{sh:Int}{b w:Nat}(h:Ns N A)(hs:QF s)(hsh:Shp sh b w){x1 x2 x5:Option Lo}(C:List Cell):
  ∃ (F0 F1 F2:Kn→List Row) (bx:Bx),(∀ k∈N,Gf N b w (F0 k))∧(∀ k∈N,Gf N b w (F1 k))∧(∀ k∈N,Gf N b w (F2 k))∧bx.n≤100000∧∀ G:FD.Env→SOut,(Am (Hz 8 (Fi (Ai 9) [9] AK (Al (CY K cs) (Ab (Aa 0) (Ab (FD.e2 (eC (.int 2)) (FD.e2 (Aa 9) (Aa 3) (gI Wb (· * ·))) AX) (Ab (Aa 4) (Ab (Aa 6) (Ab (Aa 7) Ag)))))) (Cj (Ab (eC (.int 3)) Ag)) []) [0,4,6,7,9]) (Am (A8 10 (Al (newD cs.c_Map (AM K cs)) (Ab (Al (Ct K cs) (Ab (FD.e2 (Aa 8) (eC (.int 0)) AW) Ag)) Ag)) []) (Am (A8 11 (Al (newD cs.c_Map (AM K cs)) (Ab (Al (Ct K cs) (Ab (FD.e2 (Aa 8) (eC (.int 1)) AW) Ag)) Ag)) []) (Am (A8 12 (Al (newD cs.c_Map (AM K cs)) (Ab (Al (Ct K cs) (Ab (FD.e2 (Aa 8) (eC (.int 2)) AW) Ag)) Ag)) []) (Am (Bi 13 (Aw 18 (Bz K cs) (xP (Ab (Aa 0) (Ab (eC (.int 62)) Ag))) [0]) []) G))))) (Vd ns x1 x2 (some (.sh (.int (N.length:Nat)))) (some (.sh (.lst (N.map sD)))) x5 (some (.sh (DH s))) (some (.sh (.int sh))) none none none none none none none none none none C)=G (Vd ns x1 x2 (some (.sh (.int (N.length:Nat)))) (some (.sh (.lst (N.map sD)))) x5 (some (.sh (DH s))) (some (.sh (.int sh))) (some (.ol (bK N F0 F1 F2))) none (some (.sh (Ap cs A (nF F0)))) (some (.sh (Ap cs A (nF F1)))) (some (.sh (Ap cs A (nF F2)))) (some (.sh (.ad C.length))) none none none none (C ++ [Jr bx])):=by
 have hN:=h.l
 have hp:∀ k:Nat,∃ F:Kn→List Row,k < 3→(∀ z∈N,Gf N b w (F z))∧CY K cs [.fls (ns.map .int),.int ((2 + k * N.length:Nat):Int),.lst (N.map sD),DH s,.int sh]=.ok (By N F):=fun k=>by
  by_cases hk:k < 3
  ·have:k * N.length≤2 * 20:=Nat.mul_le_mul (by omega) hN
   obtain ⟨F,h1,h2⟩:=dM (K:=K) (cs:=cs) hl (bg:=2 + k * N.length) (by omega) hsh hs hN h.nd
   exact ⟨F,fun _=>⟨h1,h2⟩⟩
  ·exact ⟨fun _=>[],fun h=>absurd h hk⟩
 obtain ⟨FF,hFF⟩:∃ FF:Nat→Kn→List Row,∀ k,k < 3→(∀ z∈N,Gf N b w (FF k z))∧CY K cs [.fls (ns.map .int),.int ((2 + k * N.length:Nat):Int),.lst (N.map sD),DH s,.int sh]=.ok (By N (FF k)):=⟨fun k=>Classical.choose (hp k),fun k=>Classical.choose_spec (hp k)⟩
 obtain ⟨bx,t0,hb0⟩:=WV (K:=K) (cs:=cs) ns (k:=62) (by omega) hl C
 have t0:Bz K cs [.fls (ns.map .int),.int 62] C=.ok (.ad C.length) (C ++ [Jr bx]):=t0
 have hb3:b≤3:=by rcases hsh.ho with h | h | h <;> omega
 have hc:(Fi (Ai 9) [9] AK (Al (CY K cs) (Ab (Aa 0) (Ab (FD.e2 (eC (.int 2)) (FD.e2 (Aa 9) (Aa 3) (gI Wb (· * ·))) AX) (Ab (Aa 4) (Ab (Aa 6) (Ab (Aa 7) Ag)))))) (Cj (Ab (eC (.int 3)) Ag)) []) (Vd ns x1 x2 (some (.sh (.int (N.length:Nat)))) (some (.sh (.lst (N.map sD)))) x5 (some (.sh (DH s))) (some (.sh (.int sh))) none none none none none none none none none none C)=.ok (bK N (FF 0) (FF 1) (FF 2)):=by
  have e3:bK N (FF 0) (FF 1) (FF 2)=(List.range 3).map fun k=>By N (FF k):=rfl
  rw [e3]
  refine DB (e:=fun k:Nat=>.int (k:Int)) rfl (by decide) fun k hk=>⟨Vd ns x1 x2 (some (.sh (.int (N.length:Nat)))) (some (.sh (.lst (N.map sD)))) x5 (some (.sh (DH s))) (some (.sh (.int sh))) none (some (.sh (.int (k:Int)))) none none none none none none none none C,rfl,?_⟩
  have hk3:k < 3:=List.mem_range.mp hk
  have t:=(hFF k hk3).2
  have hm:=iU (k:=k) (c:=N.length) hk3 (by omega)
  have ha:(2:Int) + ((k * N.length:Nat):Int)=((2 + k * N.length:Nat):Int):=by omega
  unfold Vd
  simp! [hm,ha,t]
 have h0:=(hFF 0 (by decide)).1
 have h1:=(hFF 1 (by decide)).1
 have h2:=(hFF 2 (by decide)).1
 refine ⟨FF 0,FF 1,FF 2,bx,h0,h1,h2,by omega,fun G=>?_⟩
 have c0:=Tn (K:=K) (cs:=cs) h hb3 h0
 have c1:=Tn (K:=K) (cs:=cs) h hb3 h1
 have c2:=Tn (K:=K) (cs:=cs) h hb3 h2
 have n0:=Vv (K:=K) (cs:=cs) h hb3 h0
 have n1:=Vv (K:=K) (cs:=cs) h hb3 h1
 have n2:=Vv (K:=K) (cs:=cs) h hb3 h2
 unfold Vd at hc ⊢
 unfold bK
 unfold bK at hc
 simp! [hc,FD.Km,c0,c1,c2,n0,n1,n2,t0,FD.F9]
theorem kJ(T:Tx P w K mg base cs){ns:List Int}{N A:List Kn}{F0 F1 F2:Kn→List Row}{b v j:Nat}(h:Ns N A)(hN2:2≤N.length)(hb:(b=2∧v=2)∨(b=1∧v=3)∨(b=3∧v=1))(h0:∀ k∈N,Gf N b v (F0 k))(h1:∀ k∈N,Gf N b v (F1 k))(h2:∀ k∈N,Gf N b v (F2 k)){x1 x2 x3 x5 x6 x7 x9:Option Lo}{C:List Cell}{bx:Bx}(hbx:C[j]? = some (Jr bx))(hbn:bx.n≤100000):
  cn ((Am (Ll (L8 (FD.cZ (Aw 18 (EE K cs) (xP (Ab (Aa 10) (Ab (Aa 11) (Ab (FD.e2 (Aa 8) (eC (.int 0)) AW) (Ab (FD.e2 (Aa 8) (eC (.int 1)) AW) (Ab (Aa 4) (Ab (Aa 13) Ag))))))) [10,11,4,13]) A2)) (AA (eC (.bl false)) []) Ar) (Am (Ll (L8 (FD.cZ (Aw 18 (EE K cs) (xP (Ab (Aa 11) (Ab (Aa 12) (Ab (FD.e2 (Aa 8) (eC (.int 1)) AW) (Ab (FD.e2 (Aa 8) (eC (.int 2)) AW) (Ab (Aa 4) (Ab (Aa 13) Ag))))))) [11,12,4,13]) A2)) (AA (eC (.bl false)) []) Ar) (Am (A8 14 (F8 (AJ K cs) (F8 (AJ K cs) (Aa 10) (Aa 11)) (Aa 12)) [10,11,12]) (Am (A8 15 (F8 (AJ K cs) (Aa 10) (F8 (AJ K cs) (Aa 11) (Aa 12))) [10,11,12]) (Am (Bi 16 (Aw 18 (A5 K cs) (xP (Ab (Aa 13) (Ab (Aa 4) Ag))) [13,4]) []) (Am (A8 17 (Al (AG K cs) (Ab (FD.e2 (Aa 8) (eC (.int 0)) AW) (Ab (Al (AG K cs) (Ab (FD.e2 (Aa 8) (eC (.int 1)) AW) (Ab (Al (AG K cs) (Ab (FD.e2 (Aa 8) (eC (.int 2)) AW) (Ab (Aa 16) Ag))) Ag))) Ag))) [16]) (Am (CF (CD (A6 (FD.t1 (PN (Wz K cs) (Aa 14) (Aa 15)) A2)) (CD (A6 (FD.t1 (Al (BN K cs) (Ab (Aa 14) (Ab (Aa 16) (Ab (Aa 17) Ag)))) A2)) (A6 (FD.t1 (Al (BN K cs) (Ab (Aa 15) (Ab (Aa 16) (Ab (Aa 17) Ag)))) A2)))) (AA (eC (.bl false)) []) Ar) (Am (Ll (Z8 (L8 (FD.cZ (Aw 18 (DY K cs) (xP (Ab (Aa 10) (Ab (Aa 4) (Ab (FD.e2 (Aa 8) (eC (.int 0)) AW) (Ab (Aa 13) Ag))))) [10,4,13]) A2)) (xP (A6 (FD.t1 (Al (D1 K cs) Ag) A2)))) (AA (eC (.bl false)) []) Ar) (AA (Hi (Al (A4 K cs) (Ab (Aa 10) (Ab (FD.e2 (Aa 8) (eC (.int 0)) AW) Ag))) (Hi (Al (A4 K cs) (Ab (Aa 11) (Ab (FD.e2 (Aa 8) (eC (.int 1)) AW) Ag))) (Al (A4 K cs) (Ab (Aa 12) (Ab (FD.e2 (Aa 8) (eC (.int 2)) AW) Ag))))) [12]))))))))) (Vd ns x1 x2 x3 (some (.sh (.lst (N.map sD)))) x5 x6 x7 (some (.ol (bK N F0 F1 F2))) x9 (some (.sh (Ap cs A (nF F0)))) (some (.sh (Ap cs A (nF F1)))) (some (.sh (Ap cs A (nF F2)))) (some (.sh (.ad j))) none none none none C))=.ok (.bl true):=by
 obtain ⟨p1,p2,n3⟩:=Qv hb
 have hb3:b≤3:=by omega
 have m0:=Hr h h0
 have m1:=Hr h h1
 have m2:=Hr h h2
 have q1:b * b ^ v * b ^ (v * v)≤200:=by rcases hb with ⟨rfl,rfl⟩ | ⟨rfl,rfl⟩ | ⟨rfl,rfl⟩ <;> decide
 have q2:b * (b * b ^ v) ^ v≤200:=by rcases hb with ⟨rfl,rfl⟩ | ⟨rfl,rfl⟩ | ⟨rfl,rfl⟩ <;> decide
 have q3:1≤b * b ^ v:=by rcases hb with ⟨rfl,rfl⟩ | ⟨rfl,rfl⟩ | ⟨rfl,rfl⟩ <;> decide
 obtain ⟨C1,b1,t1,c1,u1⟩:=gB (K:=K) (cs:=cs) h hb h0 h1 hbx (by omega)
 obtain ⟨C2,b2,t2,c2,u2⟩:=gB (K:=K) (cs:=cs) h hb h1 h2 c1 (by omega)
 obtain ⟨Pt,C3,b3,t3,hP,c3,u3⟩:=OO (K:=K) (cs:=cs) c2 (by omega) h.nd h.l
 obtain ⟨pt,hpt⟩:=Us hP
 obtain ⟨C4,t4⟩:=XY (K:=K) (cs:=cs) h hN2 hb h0 c3 (by omega)
 have t5:=Yz (K:=K) T
 have r0:=P2 (K:=K) (cs:=cs) h hb3 h0
 have r1:=P2 (K:=K) (cs:=cs) h hb3 h1
 have r2:=P2 (K:=K) (cs:=cs) h hb3 h2
 have m01:=Mp.Pl m0 m1 n3
 have m12:=Mp.Pl m1 m2 n3
 have mL:=Mp.Pl m01 m2 n3
 have mR:=Mp.Pl m0 m12 q3
 have hb100:b≤100:=by omega
 have v2:AG K cs [By N F2,rD Pt]=.ok (rD (Ei N F2 pt)):=JS h.nd h.l (fun k hk=>Ny h hb100 (h2 k hk)) fun k hk r hr z hz=>hpt z (((h2 k hk).gw.g r hr).sub z hz)
 have v1:AG K cs [By N F1,rD (Ei N F2 pt)]=.ok (rD (Ei N F1 fun z=>vl (F2 z) pt)):=JS h.nd h.l (fun k hk=>Ny h hb100 (h1 k hk)) fun k hk r hr z hz=>SQ h.nd F2 pt (((h1 k hk).gw.g r hr).sub z hz)
 have v0:AG K cs [By N F0,rD (Ei N F1 fun z=>vl (F2 z) pt)]=.ok (rD (Ei N F0 fun z=>vl (F1 z) fun y=>vl (F2 y) pt)):=JS h.nd h.l (fun k hk=>Ny h hb100 (h0 k hk)) fun k hk r hr z hz=>SQ h.nd F1 (fun y=>vl (F2 y) pt) (((h0 k hk).gw.g r hr).sub z hz)
 have inner:∀ z∈N,vl (nF F1 z) (fun y=>vl (nF F2 y) pt)=vl (F1 z) fun y=>vl (F2 y) pt:=fun z hz=>by
  rw [ZN (h1 z hz)]
  exact Qf fun r hr p hp=>ZN (h2 p.1 (((h1 z hz).gw.g r hr).sub p.1 (BH hp))) pt
 have outer:∀ k∈N,vl (nF F0 k) (fun z=>vl (nF F1 z) fun y=>vl (nF F2 y) pt)=vl (F0 k) fun z=>vl (F1 z) fun y=>vl (F2 y) pt:=fun k hk=>by
  rw [ZN (h0 k hk)]
  exact Qf fun r hr p hp=>inner p.1 (((h0 k hk).gw.g r hr).sub p.1 (BH hp))
 have eL:∀ k∈N,vl (oP (oP (nF F0) (nF F1)) (nF F2) k) pt=vl (F0 k) fun z=>vl (F1 z) fun y=>vl (F2 y) pt:=fun k hk=>by
  have hkA:=h.mem.mpr hk
  rw [WG m01 m2 n3 pt hkA,WG m0 m1 n3 _ hkA,outer k hk]
 have eR:∀ k∈N,vl (oP (nF F0) (oP (nF F1) (nF F2)) k) pt=vl (F0 k) fun z=>vl (F1 z) fun y=>vl (F2 y) pt:=fun k hk=>by
  have hkA:=h.mem.mpr hk
  rw [WG m0 m12 q3 pt hkA,← outer k hk]
  exact Qf fun r hr p hp=>WG m1 m2 n3 pt ((m0.fo.g k hkA r hr).sub p.1 (BH hp))
 have g1:=Om (K:=K) (cs:=cs) (P:=Pt) (D:=Ei N F0 fun z=>vl (F1 z) fun y=>vl (F2 y) pt) h.as (by rw [JK]; exact h.e) (by rw [JK]; exact h.nd) h.V1 mL q1 (fun k hk=>hpt k (h.mem.mp hk)) (N9 h hP) fun p hp=>by
  obtain ⟨k,hk,rfl⟩:=List.mem_map.mp hp
  exact (eL k hk).symm
 have g2:=Om (K:=K) (cs:=cs) (P:=Pt) (D:=Ei N F0 fun z=>vl (F1 z) fun y=>vl (F2 y) pt) h.as (by rw [JK]; exact h.e) (by rw [JK]; exact h.nd) h.V1 mR q2 (fun k hk=>hpt k (h.mem.mp hk)) (N9 h hP) fun p hp=>by
  obtain ⟨k,hk,rfl⟩:=List.mem_map.mp hp
  exact (eR k hk).symm
 have eq:=jz (K:=K) (cs:=cs) (mL.jI h.V1) (mR.jI h.V1)
 rw [e8 m0 m1 m2 n3 n3 n3] at eq
 -- the products as expressions
 obtain ⟨ρ,hρ⟩:∃ ρ:FD.Env,ρ=Vd ns x1 x2 x3 (some (.sh (.lst (N.map sD)))) x5 x6 x7 (some (.ol (bK N F0 F1 F2))) x9 (some (.sh (Ap cs A (nF F0)))) (some (.sh (Ap cs A (nF F1)))) (some (.sh (Ap cs A (nF F2)))) (some (.sh (.ad j))) none none none none C2:=⟨_,rfl⟩
 have oL:F8 (AJ K cs) (F8 (AJ K cs) (Aa 10) (Aa 11)) (Aa 12) ρ=.ok (Ap cs A (oP (oP (nF F0) (nF F1)) (nF F2))):=by
  have a:F8 (AJ K cs) (Aa 10) (Aa 11) ρ=.ok (Ap cs A (oP (nF F0) (nF F1))):=VJ (by rw [hρ]; rfl) (by rw [hρ]; rfl) (Qu h.as h.iM m0 m1 (by omega) n3 n3 (by omega))
  exact VJ a (by rw [hρ]; rfl) (Qu h.as h.iM m01 m2 q1 q3 n3 (by omega))
 obtain ⟨ρ',hρ'⟩:∃ ρ':FD.Env,ρ'=Vd ns x1 x2 x3 (some (.sh (.lst (N.map sD)))) x5 x6 x7 (some (.ol (bK N F0 F1 F2))) x9 (some (.sh (Ap cs A (nF F0)))) (some (.sh (Ap cs A (nF F1)))) (some (.sh (Ap cs A (nF F2)))) (some (.sh (.ad j))) (some (.sh (Ap cs A (oP (oP (nF F0) (nF F1)) (nF F2))))) none none none C2:=⟨_,rfl⟩
 have oR:F8 (AJ K cs) (Aa 10) (F8 (AJ K cs) (Aa 11) (Aa 12)) ρ'=.ok (Ap cs A (oP (nF F0) (oP (nF F1) (nF F2)))):=by
  have a:F8 (AJ K cs) (Aa 11) (Aa 12) ρ'=.ok (Ap cs A (oP (nF F1) (nF F2))):=VJ (by rw [hρ']; rfl) (by rw [hρ']; rfl) (Qu h.as h.iM m1 m2 (by omega) n3 n3 (by omega))
  exact VJ (by rw [hρ']; rfl) a (Qu h.as h.iM m0 m12 q2 n3 q3 (by omega))
 have oQ:PN (Wz K cs) (Aa 14) (Aa 15) (Vd ns x1 x2 x3 (some (.sh (.lst (N.map sD)))) x5 x6 x7 (some (.ol (bK N F0 F1 F2))) x9 (some (.sh (Ap cs A (nF F0)))) (some (.sh (Ap cs A (nF F1)))) (some (.sh (Ap cs A (nF F2)))) (some (.sh (.ad j))) (some (.sh (Ap cs A (oP (oP (nF F0) (nF F1)) (nF F2))))) (some (.sh (Ap cs A (oP (nF F0) (oP (nF F1) (nF F2)))))) (some (.sh (rD Pt))) (some (.sh (rD (Ei N F0 fun z=>vl (F1 z) fun y=>vl (F2 y) pt)))) C3)=.ok (.bl true):=ir rfl rfl eq
 subst hρ hρ'
 unfold Vd bK at oL oR oQ ⊢
 simp! [t1,t2,oL,oR,t3,v2,v1,v0,oQ,g1,g2,t4,t5,r0,r1,r2,eS]
theorem plain(T:Tx P w K mg base cs)(ns:List Int)(hl:ns.length≤63)(hb:∀ z∈ns,Builtin.Int.intBits z≤1048576):Pu 18 (Xi K cs) [.fls (ns.map .int)]=.ok (.bl true):=by
 have e0:Dt.HY [Dt.fls (ns.map .int)]=true:=by
  have h1:(Dt.fls (ns.map .int)).na=true:=by rw [Dt.na]; exact FN (fun _=>rfl) ns
  rw [Dt.HY,h1]
  rfl
 rw [dC e0]
 show cn (Xi K cs (Vd ns none none none none none none none none none none none none none none none none none []))=_
 unfold Xi
 obtain ⟨lg,N,C1,hN0,hN,nd,hn,ea⟩:=kB (K:=K) (cs:=cs) hl
 rw [ea]
 obtain ⟨x5,s,sh,b,v,C2,hs,hsh,eb⟩:=kG (K:=K) (cs:=cs) hl (lg:=lg) (x1:=some (.sh (.ad 0))) (x3:=some (.sh (.int (N.length:Nat)))) (x4:=some (.sh (.lst (N.map sD)))) C1
 rw [eb]
 have h:Ns N (kO.sort N):=⟨rfl,nd,hN,fun e=>(by rw [e] at hN0; exact absurd hN0 (by decide)),hn⟩
 obtain ⟨F0,F1,F2,bx,h0,h1,h2,hbn,ec⟩:=kR (K:=K) (cs:=cs) hl h hs hsh (x1:=some (.sh (.ad 0))) (x2:=some (.sh (.bl lg))) (x5:=x5) C2
 rw [ec]
 exact kJ T h hN0 hsh.ho h0 h1 h2 (List.getElem?_concat_length ..) hbn
end Lk15
open PySem PySem.W PyProof.Rows in
theorem PySem.Challenge.cw_bidehall_k15_product_of_maps_holds : PySem.Challenge.rw_bidehall_k15_product_of_maps.Holds := by
 exact @LkH15.headed ⟨fun w K mg base cs fa fd T F=>FD.dw (Lk15.jn T F) fun ns hl hb=>Lk15.plain T ns hl hb⟩
#print axioms PySem.Challenge.cw_bidehall_k15_product_of_maps_holds
